import PyProof.Rows.All
import Wide.All
import OpenK.AllK
import Wide.FinOn
import Lean
import PySem.Challenge.RW_pq0640_01
open PySem PySem.Spec PySem.Calls PyProof.Rows PySem.W PySem.W.X
set_option Elab.async false
set_option maxRecDepth 100000
set_option maxHeartbeats 0
set_option linter.all false
namespace Mine
noncomputable section
noncomputable abbrev yt : Bool × Prop := (false, True)
def vG (v:Value):Prop:=v = .ref 775∨v = .ref 777∨v = .ref 779∨v = .ref 783
def vc (v:Value):Prop:=v = .ref 775∨v = .ref 783
noncomputable def opT (v:Value):Str:=match v with
 |.ref a=>match Nat.beq a 775 with
  |true => "A"
  |false=>match Nat.beq a 777 with
   |true => "\"x\""
   |false=>match Nat.beq a 779 with
    |true => "SPACE"
    |false => "B OF G"
 |_ => ""
noncomputable def vh:List Nat→List Str→List Str
 |k::bits,s::l=>match k with
  |0=>vh bits l
  |1=>s::vh bits l
  |_=>if s = "" then vh bits l else s::vh bits l
 |_,_=>[]
def Qj (k:Str) (v:Value):Prop:=(k = "CHARACTERS"∧v = .none)∨(k ≠ "CHARACTERS"∧vG v∧k.length≤20)
def kdT (k:Str) (v:Value):Str:=match v with
 |.ref _=>k ++ " "++opT v
 |_=>k
def yA (b a:Value):Prop:=(b = .none∨b = .ref 775∨b = .ref 777)∧(a = .none∨a = .ref 779)
def bdT (b a:Value):Str:=match b with
 |.ref _=>match a with
  |.ref _ => "BEFORE INITIAL "++opT b ++ " AFTER INITIAL "++opT a
  |_ => "BEFORE INITIAL "++opT b
 |_=>match a with
  |.ref _ => "AFTER INITIAL "++opT a
  |_ => ""
structure Row where
 c:Value
 k:Str
 t:Nat
 v:Value
 b:Value
 a:Value
noncomputable def Row.tv (r:Row):List Value:=[r.c,.str r.k r.t,r.v,r.b,r.a]
noncomputable def Row.rv (r:Row):List Value:=[.str r.k r.t,r.v,r.c,r.b,r.a]
def IsKd (K:Str):Prop:=K = "CHARACTERS"∨K = "ALL"∨K = "LEADING"∨K = "FIRST"
structure Row.OkT (r:Row):Prop where
 c:vc r.c
 kd:r.k = "CHARACTERS"∨r.k = "ALL"∨r.k = "LEADING"
 k:Qj r.k r.v
 b:yA r.b r.a
structure Row.OkR (r:Row):Prop where
 c:vG r.c
 kd:IsKd r.k
 k:Qj r.k r.v
 b:yA r.b r.a
def Row.tT (r:Row):Str:=Txt.join " " (vh [1,1,1,2] [opT r.c,"FOR",kdT r.k r.v,bdT r.b r.a])
def Row.rT (r:Row):Str:=Txt.join " " (vh [1,1,1,2] [kdT r.k r.v,"BY",opT r.c,bdT r.b r.a])
def yI (rs:List Row):Str := "TALLYING "++Txt.join " " (rs.map Row.tT)
def yU (rs:List Row):Str := "REPLACING "++Txt.join " " (rs.map Row.rT)
abbrev LW:OpenLaw:=PySem.Challenge.rw_pq0640_01
theorem roads_app (lk:Look) (a b:List Stmt):noRoadLSs lk (a++b)=(noRoadLSs lk a && noRoadLSs lk b):=by
 induction a with
 |nil=>rfl
 |cons s r ih =>
  show (noRoadLS lk s && noRoadLSs lk (r++b))=((noRoadLS lk s && noRoadLSs lk r) && noRoadLSs lk b)
  rw [ih,Bool.and_assoc]
theorem roads_three {lk:Look} {l:List Stmt} (n:Nat) {s:Stmt} (hs:(l.drop n).head?=some s) (h1:noRoadLSs lk (l.take n)=true) (h2:noRoadLS lk s=true) (h3:noRoadLSs lk ((l.drop n).drop 1)=true):noRoadLSs lk l=true:=by
 rw [←List.take_append_drop n l,roads_app,h1]
 cases e:l.drop n with
 |nil=>rw [e] at hs;cases hs
 |cons x r =>
  rw [e] at hs h3
  cases hs
  show (true && (noRoadLS lk _ && noRoadLSs lk r))=true
  rw [h2]
  exact h3
noncomputable def stAt (n:Nat) (l:List Stmt):Stmt:=((l.drop n).head?).getD (.Pass ⟨0,0,0,0⟩)
noncomputable def Ye:Stmt→Str
 |.Assign _ (.Constant (.str x) _ _) _=>x
 |_ => ""
theorem assign_text {lk:Look} {ts:List Expr} {x:Str} {k} {p q:Pos} (h1:(lk.stores ts && noRoadLs lk ts)=true) (h2:lk.str x=true):noRoadLS lk (.Assign ts (.Constant (.str x) k p) q)=true:=by
 show ((lk.stores ts && noRoadLs lk ts) && lk.str x)=true
 rw [h1,h2];rfl
theorem text_ok {lk:Look} {x:Str} (h:((x.cps.toList.all (· == 95) || lk.word x) && !(x.cps.toList.any (fun c=>c == 123 || c == 125) || (x.cps.toList.any (· == 46) && !x.cps.toList.any (·≤32))))=true):lk.str x=true:=by
 rw [Bool.and_eq_true] at h
 have h2:roadStr x=false:=by
  have h2:=h.2
  rw [Array.any_toList,Array.any_toList,Array.any_toList] at h2
  unfold roadStr
  cases q:(x.cps.any (fun c=>c == 123 || c == 125) || (x.cps.any (· == 46) && !x.cps.any (·≤32))) with
  |false=>rfl
  |true=>rw [q] at h2;cases h2
 have h1:(underscores x || lk.word x)=true:=by
  have h1:=h.1
  rw [Array.all_toList] at h1
  exact h1
 unfold Look.str
 rw [h1,h2];rfl
noncomputable abbrev lk0:Look:={strict:=false,foot:=none,bare:=[]}
noncomputable def resL:List Nat:=[32,65,67,67,69,80,84,32,65,67,67,69,83,83,32,65,68,68,32,65,68,86,65,78,67,73,78,71,32,65,70,84,69,82,32,65,76,76,32,65,76,80,72,65,66,69,84,73,67,32,65,76,80,72,65,66,69,84,73,67,45,76,79,87,69,82,32,65,76,80,72,65,66,69,84,73,67,45,85,80,80,69,82,32,65,76,80,72,65,78,85,77,69,82,73,67,32,65,76,80,72,65,78,85,77,69,82,73,67,45,69,68,73,84,69,68,32,65,76,83,79,32,65,76,84,69,82,78,65,84,69,32,65,78,68,32,65,78,89,32,65,82,69,32,65,82,69,65,32,65,82,69,65,83,32,65,83,67,69,78,68,73,78,71,32,65,83,83,73,71,78,32,65,84,32,65,85,84,72,79,82,32,66,69,70,79,82,69,32,66,73,78,65,82,89,32,66,76,65,78,75,32,66,76,79,67,75,32,66,89,32,67,65,76,76,32,67,72,65,82,65,67,84,69,82,32,67,72,65,82,65,67,84,69,82,83,32,67,76,79,83,69,32,67,79,77,80,32,67,79,77,80,45,51,32,67,79,77,80,85,84,65,84,73,79,78,65,76,32,67,79,77,80,85,84,65,84,73,79,78,65,76,45,51,32,67,79,77,80,85,84,69,32,67,79,78,70,73,71,85,82,65,84,73,79,78,32,67,79,78,84,65,73,78,83,32,67,79,78,84,69,78,84,32,67,79,78,84,73,78,85,69,32,67,79,78,86,69,82,84,73,78,71,32,67,79,80,89,32,67,79,82,82,32,67,79,82,82,69,83,80,79,78,68,73,78,71,32,67,79,85,78,84,32,68,65,84,65,32,68,65,84,69,45,67,79,77,80,73,76,69,68,32,68,65,84,69,45,87,82,73,84,84,69,78,32,68,69,76,69,84,69,32,68,69,76,73,77,73,84,69,68,32,68,69,76,73,77,73,84,69,82,32,68,69,80,69,78,68,73,78,71,32,68,69,83,67,69,78,68,73,78,71,32,68,73,83,80,76,65,89,32,68,73,86,73,68,69,32,68,73,86,73,83,73,79,78,32,68,79,87,78,32,68,85,80,76,73,67,65,84,69,83,32,68,89,78,65,77,73,67,32,69,76,83,69,32,69,78,68,32,69,78,68,45,65,68,68,32,69,78,68,45,67,65,76,76,32,69,78,68,45,67,79,77,80,85,84,69,32,69,78,68,45,68,69,76,69,84,69,32,69,78,68,45,68,73,86,73,68,69,32,69,78,68,45,69,86,65,76,85,65,84,69,32,69,78,68,45,73,70,32,69,78,68,45,77,85,76,84,73,80,76,89,32,69,78,68,45,80,69,82,70,79,82,77,32,69,78,68,45,82,69,65,68,32,69,78,68,45,82,69,84,85,82,78,32,69,78,68,45,82,69,87,82,73,84,69,32,69,78,68,45,83,69,65,82,67,72,32,69,78,68,45,83,84,65,82,84,32,69,78,68,45,83,84,82,73,78,71,32,69,78,68,45,83,85,66,84,82,65,67,84,32,69,78,68,45,85,78,83,84,82,73,78,71,32,69,78,68,45,87,82,73,84,69,32,69,78,86,73,82,79,78,77,69,78,84,32,69,81,85,65,76,32,69,82,82,79,82,32,69,86,65,76,85,65,84,69,32,69,88,67,69,80,84,73,79,78,32,69,88,73,84,32,69,88,84,69,78,68,32,69,88,84,69,82,78,65,76,32,70,65,76,83,69,32,70,68,32,70,73,76,69,32,70,73,76,69,45,67,79,78,84,82,79,76,32,70,73,76,76,69,82,32,70,73,82,83,84,32,70,79,82,32,70,82,79,77,32,71,73,86,73,78,71,32,71,76,79,66,65,76,32,71,79,32,71,82,69,65,84,69,82,32,72,73,71,72,45,86,65,76,85,69,32,72,73,71,72,45,86,65,76,85,69,83,32,73,45,79,32,73,45,79,45,67,79,78,84,82,79,76,32,73,68,69,78,84,73,70,73,67,65,84,73,79,78,32,73,70,32,73,78,32,73,78,68,69,88,32,73,78,68,69,88,69,68,32,73,78,73,84,73,65,76,32,73,78,73,84,73,65,76,73,90,69,32,73,78,80,85,84,32,73,78,80,85,84,45,79,85,84,80,85,84,32,73,78,83,80,69,67,84,32,73,78,83,84,65,76,76,65,84,73,79,78,32,73,78,84,79,32,73,78,86,65,76,73,68,32,73,83,32,74,85,83,84,32,74,85,83,84,73,70,73,69,68,32,75,69,89,32,76,65,66,69,76,32,76,69,65,68,73,78,71,32,76,69,70,84,32,76,69,83,83,32,76,73,78,69,32,76,73,78,69,83,32,76,73,78,75,65,71,69,32,76,79,67,75,32,76,79,87,45,86,65,76,85,69,32,76,79,87,45,86,65,76,85,69,83,32,77,69,82,71,69,32,77,79,68,69,32,77,79,86,69,32,77,85,76,84,73,80,76,89,32,78,65,84,73,86,69,32,78,69,71,65,84,73,86,69,32,78,69,88,84,32,78,79,32,78,79,84,32,78,85,77,69,82,73,67,32,78,85,77,69,82,73,67,45,69,68,73,84,69,68,32,79,66,74,69,67,84,45,67,79,77,80,85,84,69,82,32,79,67,67,85,82,83,32,79,70,32,79,70,70,32,79,77,73,84,84,69,68,32,79,78,32,79,80,69,78,32,79,80,84,73,79,78,65,76,32,79,82,32,79,82,68,69,82,32,79,82,71,65,78,73,90,65,84,73,79,78,32,79,84,72,69,82,32,79,85,84,80,85,84,32,79,86,69,82,70,76,79,87,32,80,65,67,75,69,68,45,68,69,67,73,77,65,76,32,80,69,82,70,79,82,77,32,80,73,67,32,80,73,67,84,85,82,69,32,80,79,73,78,84,69,82,32,80,79,83,73,84,73,86,69,32,80,82,79,67,69,68,85,82,69,32,80,82,79,67,69,69,68,32,80,82,79,71,82,65,77,32,80,82,79,71,82,65,77,45,73,68,32,81,85,79,84,69,32,81,85,79,84,69,83,32,82,65,78,68,79,77,32,82,69,65,68,32,82,69,67,79,82,68,32,82,69,67,79,82,68,83,32,82,69,68,69,70,73,78,69,83,32,82,69,70,69,82,69,78,67,69,32,82,69,76,65,84,73,86,69,32,82,69,76,69,65,83,69,32,82,69,77,65,73,78,68,69,82,32,82,69,78,65,77,69,83,32,82,69,80,76,65,67,69,32,82,69,80,76,65,67,73,78,71,32,82,69,84,85,82,78,32,82,69,87,82,73,84,69,32,82,73,71,72,84,32,82,79,85,78,68,69,68,32,82,85,78,32,83,65,77,69,32,83,68,32,83,69,65,82,67,72,32,83,69,67,84,73,79,78,32,83,69,67,85,82,73,84,89,32,83,69,76,69,67,84,32,83,69,78,84,69,78,67,69,32,83,69,80,65,82,65,84,69,32,83,69,81,85,69,78,84,73,65,76,32,83,69,84,32,83,73,71,78,32,83,73,90,69,32,83,79,82,84,32,83,79,82,84,45,77,69,82,71,69,32,83,79,85,82,67,69,45,67,79,77,80,85,84,69,82,32,83,80,65,67,69,32,83,80,65,67,69,83,32,83,80,69,67,73,65,76,45,78,65,77,69,83,32,83,84,65,78,68,65,82,68,32,83,84,65,82,84,32,83,84,65,84,85,83,32,83,84,79,80,32,83,84,82,73,78,71,32,83,85,66,84,82,65,67,84,32,83,89,78,67,32,83,89,78,67,72,82,79,78,73,90,69,68,32,84,65,76,76,89,73,78,71,32,84,69,83,84,32,84,72,65,78,32,84,72,69,78,32,84,72,82,79,85,71,72,32,84,72,82,85,32,84,73,77,69,83,32,84,79,32,84,82,65,73,76,73,78,71,32,84,82,85,69,32,85,78,83,84,82,73,78,71,32,85,78,84,73,76,32,85,80,32,85,80,79,78,32,85,83,65,71,69,32,85,83,73,78,71,32,86,65,76,85,69,32,86,65,76,85,69,83,32,86,65,82,89,73,78,71,32,87,72,69,78,32,87,73,84,72,32,87,79,82,75,73,78,71,45,83,84,79,82,65,71,69,32,87,82,73,84,69,32,90,69,82,79,32,90,69,82,79,69,83,32,90,69,82,79,83,32]
theorem resv_eq:Ye (stAt 97 LW.row.prog.main.body)=⟨⟨resL⟩⟩:=by
 have h:Ye (stAt 97 LW.row.prog.main.body)=Str.ofString (String.ofList (resL.map Char.ofNat)):=by kernel_rfl
 rw [h,PySem.W.Fast.ofString_ofList]
 kernel_rfl
theorem strict0:((importedModules LW.row.prog.main.body).all cThrough.contains)=true:=by kernel_rfl
theorem br1:readsOut LW.row.prog LW.row.prog.main.body "vars" = false:=by kernel_rfl
theorem br2:readsOut LW.row.prog LW.row.prog.main.body "dir" = false:=by kernel_rfl
theorem br3:readsOut LW.row.prog LW.row.prog.main.body "locals" = false:=by kernel_rfl
theorem bare0:(["vars","dir","locals"]:List Str).all (fun n=>!readsOut LW.row.prog LW.row.prog.main.body n)=true:=by
 rw [List.all_cons,List.all_cons,List.all_cons,br1,br2,br3];rfl
theorem bare1:(["vars","dir","locals"]:List Str).filter (readsOut LW.row.prog LW.row.prog.main.body)=[]:=by
 have h:=bare0
 rw [List.all_eq_true] at h
 rw [List.filter_eq_nil_iff]
 intro a ha q
 have:=h a ha
 rw [q] at this
 cases this
theorem r1:noRoadLSs lk0 (LW.row.prog.main.body.take 97)=true:=by kernel_rfl
theorem r3:noRoadLSs lk0 ((LW.row.prog.main.body.drop 97).drop 1)=true:=by kernel_rfl
theorem r2a:(((Ye (stAt 97 LW.row.prog.main.body)).cps.toList.all (· == 95) || lk0.word (Ye (stAt 97 LW.row.prog.main.body))) && !((Ye (stAt 97 LW.row.prog.main.body)).cps.toList.any (fun c=>c == 123 || c == 125) || ((Ye (stAt 97 LW.row.prog.main.body)).cps.toList.any (· == 46) && !(Ye (stAt 97 LW.row.prog.main.body)).cps.toList.any (·≤32))))=true:=by
 rw [resv_eq]
 kernel_rfl
theorem r2:noRoadLS lk0 (stAt 97 LW.row.prog.main.body)=true:=assign_text (by kernel_rfl) (text_ok r2a)
theorem roads:noRoadLSs {strict:=!(importedModules LW.row.prog.main.body).all cThrough.contains,foot:=none,bare:=(["vars","dir","locals"]:List Str).filter (readsOut LW.row.prog LW.row.prog.main.body)} LW.row.prog.main.body=true:=by
 rw [strict0,bare1]
 exact roads_three 97 (s:=stAt 97 LW.row.prog.main.body) rfl r1 r2 r3
theorem sd1:namesResolve LW.row.prog=true:=by kernel_rfl
theorem sd2:(namesMeet LW.row.prog LW.row.prog.main.body fun _ n=>attrL n)=true:=by kernel_rfl
theorem sd3:(LW.bound'.all fun n=>!builtinNamed n || LW.about == [n] || !LW.reads n)=true:=by kernel_rfl
theorem sd4:(namesMeet LW.prog LW.above fun _ n=>!LW.own.contains n)=true:=by kernel_rfl
theorem sd5:noRoadLSs {strict:=true,foot:=some LW.bound',writes:=LW.writes,may:=LW.may} LW.footing=true:=by kernel_rfl
theorem said:LW.wellSaid=true:=by
 unfold OpenLaw.wellSaid OpenRow.wellSaid OpenRow.partSaid looksOpen
 have hr:=roads
 repeat' (with_reducible refine look_both ?_ ?_)
 all_goals with_reducible first | exact hr | exact sd1 | exact sd2 | exact sd3 | exact sd4 | exact sd5 | kernel_rfl
noncomputable def consB (b:Nat) (s:Nat→Nat):Nat→Nat:=fun j=>match j with
 |0=>b
 |j+1=>s j
structure En where
 a:Addr
 o:Obj
 w:Bool
 /-- values known to be alike,deeply -/
 dq:List (Value×Value):=[]
structure Ora where
 n:Nat:=0
 v:Value := .none
 s:Str:=Str.empty
 z:Int:=0
 y:List (Code×Pos):=[]
 p:Pos:=default
 n2:Nat:=0
 n3:Nat:=0
 v2:Value := .none
 s2:Str:=Str.empty
 vs:List Value:=[]
 ob:Obj:={cls := .none}
 deriving Inhabited
noncomputable def ym (a b:Str):Bool:=match Nat.beq a.cps.toList.length b.cps.toList.length with
 |true=>(a.cps.toList.zip b.cps.toList).all fun p=>Nat.beq p.1 p.2
 |false=>false
theorem vw {a b:Str} (h:ym a b=true):a=b:=by
 unfold ym at h
 split at h
 ·rename_i q
  obtain ⟨⟨x⟩⟩:=a
  obtain ⟨⟨y⟩⟩:=b
  have q:=Nat.eq_of_beq_eq_true q
  dsimp only at h q
  congr
  induction x generalizing y with
  |nil=>cases y with
   |nil=>rfl
   |cons=>simp at q
  |cons a x ih=>cases y with
   |nil=>simp at q
   |cons b y =>
    simp only [List.zip_cons_cons,List.all_cons,Bool.and_eq_true] at h
    rw [Nat.eq_of_beq_eq_true h.1,ih y (by simpa using q) h.2 (by simpa using q)]
 ·cases h
structure Tk where
 lit:Bool
 s:Str
 deriving Inhabited
noncomputable def Tk.kind (t:Tk):Str:=match t.lit with
 |true => "literal"
 |false => "word"
noncomputable def tkI (d:Addr):Obj:=⟨.ref 164,some d,.plain,#[]⟩
noncomputable def zOf (v:Value):Int:=match v with
 |.int i _=>i
 |_=>0
def tkO (t:Tk) (y:Ora):Obj:=⟨.type "dict",none,.dict ⟨[⟨y.z,.str "kind" y.n3,.str t.kind y.p.line⟩,⟨zOf (y.vs.headD .none),.str "worth" y.p.endLine,.str t.s y.p.endCol⟩,⟨zOf (y.vs.tail.headD .none),.str "at" y.s.length,y.v⟩,⟨zOf (y.vs.tail.tail.headD .none),.str "is_in_a" y.s2.length,y.v2⟩]⟩ 4,#[]⟩
def TokAt (h:Heap) (a:Addr) (t:Tk):Prop:=∃ d y,h.get? a=some (tkI d)∧h.get? d=some (tkO t y)
noncomputable def Je (h:Heap):List Addr→List Tk→Prop
 |[],[]=>True
 |a::as,t::ts=>TokAt h a t∧Je h as ts
 |_,_=>False
def tokD (d:Data):Bool:=match d with
 |.dict es _=>match es with
  |⟨l⟩=>match l with
   |[e1,_,_,_]=>match e1.key with
    |.str s _=>ym s "kind"
    |_=>false
   |_=>false
 |_=>false
def JG (o:Obj):Bool:=match o.cls with
 |.type t=>match decide (t = "tuple") with
  |true=>true
  |false=>match decide (t = "dict") with
   |true=>tokD o.data
   |false=>false
 |.ref c=>Nat.beq c 164
 |_=>false
theorem isTup_cls {o:Obj} (h:o.cls = .type "tuple"):JG o=true:=by
 unfold JG
 rw [h]
 rfl
theorem Kw {o:Obj} {t:String} (h:o.cls = .type t) (n1:t ≠ "tuple") (n2:t ≠ "dict"):JG o=false:=by
 unfold JG
 rw [h]
 simp only [decide_eq_false n1,decide_eq_false n2]
theorem isTup_tkO (t:Tk) (y:Ora):JG (tkO t y)=true:=by
 show ym "kind" "kind" = true
 decide +kernel
theorem Je.keep {h h':Heap} (k:∀ a o,h.get? a=some o→JG o=true→h'.get? a=some o):∀ {as ts},Je h as ts→Je h' as ts
 |[],[],_=>trivial
 |a::as,t::ts,⟨⟨d,y,e1,e2⟩,q⟩=>⟨⟨d,y,k _ _ e1 rfl,k _ _ e2 (isTup_tkO t y)⟩,q.keep k⟩
 |[],_::_,q=>q.elim
 |_::_,[],q=>q.elim
noncomputable def Yl:List Nat→List Nat→List (List Nat)
 |_,[]=>[]
 |acc,c::l=>match Nat.beq c 32 with
  |true=>acc.reverse::Yl [] l
  |false=>Yl (c::acc) l
noncomputable def tkW (w:List Nat):Tk:=match w with
 |c::l=>match Nat.beq c 34 with
  |true=>⟨true,⟨⟨l.dropLast⟩⟩⟩
  |false=>⟨false,⟨⟨c::l⟩⟩⟩
 |[]=>⟨false,⟨⟨[]⟩⟩⟩
def Jf (s:Str):List Tk:=(Yl [] s.cps.toList).map tkW
inductive Dq (h:Heap):Value→Value→Prop where
 |same (v:Value):Dq h v v
 |str (s:Str) (t u:Tok):Dq h (.str s t) (.str s u)
 |bytes (s:Array UInt8) (t u:Tok):Dq h (.bytes s t) (.bytes s u)
 |tup (a b:Addr) (x y:Obj) (xs ys:Array Value) (n k:Nat):h.get? a=some x→x.cls = .type "tuple"→x.data = .seq xs n→h.get? b=some y→y.cls = .type "tuple"→y.data = .seq ys k →
   xs.size=ys.size→(∀ (i:Nat) (p q:Value),xs[i]?=some p→ys[i]?=some q→Dq h p q)→Dq h (.ref a) (.ref b)
 /-- a row's tuple,and its text;a tuple of rows,and their text (told apart by the token) -/
 |rowT (a:Addr) (x:Obj) (r:Row) (n:Nat):h.get? a=some x→x.cls = .type "tuple"→x.data = .seq ⟨r.tv⟩ n→r.OkT→Dq h (.ref a) (.str r.tT 1000000000)
 |rowR (a:Addr) (x:Obj) (r:Row) (n:Nat):h.get? a=some x→x.cls = .type "tuple"→x.data = .seq ⟨r.rv⟩ n→r.OkR→Dq h (.ref a) (.str r.rT 1000000001)
 |rowsT (a:Addr) (x:Obj) (xs:List Value) (rs:List Row) (n:Nat):h.get? a=some x→x.cls = .type "tuple"→x.data = .seq ⟨xs⟩ n→xs.length=rs.length→1≤rs.length→rs.length≤3→(∀ r∈rs,r.OkT) →
   (∀ (i:Nat) (r:Row),rs[i]?=some r→∃ b y k,xs[i]?=some (.ref b)∧h.get? b=some y∧y.cls = .type "tuple"∧y.data = .seq ⟨r.tv⟩ k)→Dq h (.ref a) (.str (yI rs) 1000000002)
 |rowsR (a:Addr) (x:Obj) (xs:List Value) (rs:List Row) (n:Nat):h.get? a=some x→x.cls = .type "tuple"→x.data = .seq ⟨xs⟩ n→xs.length=rs.length→1≤rs.length→rs.length≤3→(∀ r∈rs,r.OkR) →
   (∀ (i:Nat) (r:Row),rs[i]?=some r→∃ b y k,xs[i]?=some (.ref b)∧h.get? b=some y∧y.cls = .type "tuple"∧y.data = .seq ⟨r.rv⟩ k)→Dq h (.ref a) (.str (yU rs) 1000000003)
 /-- a list's tokens,by their addresses -/
 |toks (as:List Addr) (s:Str):Je h as (Jf s)→(as=[]→s=Str.empty)→Dq h (.str ⟨⟨as⟩⟩ 1000000004) (.str s 1000000005)
theorem Dq.mono {h h':Heap} (K:∀ a o,h.get? a=some o→JG o=true→h'.get? a=some o) {v v':Value} (x:Dq h v v'):Dq h' v v':=by
 have H:∀ a o,h.get? a=some o→o.cls = .type "tuple"→h'.get? a=some o:=fun a o g c=>K a o g (isTup_cls c)
 induction x with
 |same v=>exact .same v
 |str s t u=>exact .str s t u
 |bytes s t u=>exact .bytes s t u
 |tup a b x y xs ys n k h1 h2 h3 h4 h5 h6 h7 _ ih=>exact .tup a b x y xs ys n k (H _ _ h1 h2) h2 h3 (H _ _ h4 h5) h5 h6 h7 ih
 |rowT a x r n h1 h2 h3 h4=>exact .rowT a x r n (H _ _ h1 h2) h2 h3 h4
 |rowR a x r n h1 h2 h3 h4=>exact .rowR a x r n (H _ _ h1 h2) h2 h3 h4
 |rowsT a x xs rs n h1 h2 h3 h4 h5 h6 h7 h8=>exact .rowsT a x xs rs n (H _ _ h1 h2) h2 h3 h4 h5 h6 h7 fun i r e=>match h8 i r e with | ⟨b,y,k,q1,q2,q3,q4⟩=>⟨b,y,k,q1,H _ _ q2 q3,q3,q4⟩
 |rowsR a x xs rs n h1 h2 h3 h4 h5 h6 h7 h8=>exact .rowsR a x xs rs n (H _ _ h1 h2) h2 h3 h4 h5 h6 h7 fun i r e=>match h8 i r e with | ⟨b,y,k,q1,q2,q3,q4⟩=>⟨b,y,k,q1,H _ _ q2 q3,q3,q4⟩
 |toks as s h1 h2=>exact .toks as s (h1.keep K) h2
noncomputable def takeO:Nat→(Nat→Ora)→List Ora
 |0,_=>[]
 |k+1,os=>os 0::takeO k (fun j=>os (j+1))
noncomputable def jg (k:Nat) (os:Nat→Ora):Nat→Ora:=fun j=>os (j+k)
theorem oras_of:∀ (l:List Ora) (b:Nat→Ora),∃ os,takeO l.length os=l∧jg l.length os=b
 |[],b=>⟨b,rfl,rfl⟩
 |x::l,b=>by
  obtain ⟨os,h1,h2⟩:=oras_of l b
  refine ⟨fun j=>match j with | 0=>x | j+1=>os j,?_,?_⟩
  ·show x::takeO l.length (fun j=>os j)=_
   rw [show (fun j=>os j)=os from rfl,h1]
  ·funext j
   have:=congrFun h2 j
   exact this
inductive Tr where
 |nil
 |cons (k:Nat) (t:Tr)
 |alt (ts:List Tr)
noncomputable def T:List Nat→Tr→Tr
 |[],t=>t
 |k::l,t => .cons k (T l t)
noncomputable def Tr.take (last:Nat):Tr→Option (Nat×Tr)
 |.nil=>none
 |.cons k t=>some (k,t)
 |.alt ts=>match ts[last]? with
  |some (.cons k t)=>some (k,t)
  |_=>none
noncomputable def Tr.many:Nat→Tr→List Nat×Tr
 |0,t=>([],t)
 |n+1,t=>match t with
  |.cons k t=>match Tr.many n t with | (l,t)=>(k::l,t)
  |_=>([],t)
inductive Out where
 |stop (k:Nat)
 |short
 |log (k:Nat) (r:Out)
 |eqA (a b:Addr) (r:Out)
 |must (P:Prop) (r:Out)
 |may (P:Prop) (r:Out)
 |fin (r:Result) (m:List En) (n tk:Nat)
noncomputable def qU (F:Result→List En→Nat→Nat→Prop):Out→Prop
 |.stop _=>False
 |.short=>True
 |.log _ r=>qU F r
 |.eqA a b r=>a=b∧qU F r
 |.must P r=>P∧qU F r
 |.may P r=>P→qU F r
 |.fin r m n tk=>F r m n tk
structure Hook where
 /-- how many unknowns it hands back -/
 ar:Nat
 /-- of how many ways (0: one) -/
 br:Nat:=0
 go:Code→List En→Nat→Nat→List Nat→Nat→List Ora→Out
 nd:Nat
 nu:Nat
inductive Kt where
 |base
 |ret (c:Code) (hd:Option Value) (k:Result→Sem Fin) (κ:Kt)
noncomputable def Kt.dep:Kt→Nat
 |.base=>0
 |.ret c _ _ κ=>κ.dep+c.weight
noncomputable def Kt.uni:Kt→Nat
 |.base=>0
 |.ret c _ _ κ=>κ.uni+c.cUnits
noncomputable def Kt.fr (f:Option (List Env)):Kt→Option (List Env)
 |.base=>f
 |.ret c _ _ κ=>pushEnvs c.envs (κ.fr f)
noncomputable def Kt.hd (h:Option Value):Kt→Option Value
 |.base=>h
 |.ret _ hd _ κ=>hd.or (κ.hd h)
structure Cfg where
 set:Setting
 st:KT
 hooks:List Hook
 D:Option (List Env)→Code→Sem Fin
 /-- a def's call,from its binding on -/
 call:FuncData→List Stmt→Addr→Args→Sem Fin
 dmax:Nat
 umax:Nat
 /-- the frames beneath,where they are known -/
 fr:Option (List Env):=none
 /-- what must be alike for a code's tree -/
 chk:Option (List Env)→Code→List (Addr×Addr):=fun _ _=>[]
noncomputable def Out.on (o:Out) (k:Result→List En→Nat→Nat→Out):Out:=match o with
 |.stop n => .stop n
 |.short => .short
 |.log n r => .log n (r.on k)
 |.eqA a b r => .eqA a b (r.on k)
 |.must P r => .must P (r.on k)
 |.may P r => .may P (r.on k)
 |.fin r m n tk=>k r m n tk
noncomputable def fdAt (st:KT) (f:Addr):FuncData:=match st.get f with
 |some ⟨_,_,.func fd,_⟩=>fd
 |_=>default
noncomputable def bodyOf (fd:FuncData):List Stmt:=match fd.body with
 |.stmts b=>b
 |_=>[]
noncomputable def codeOk (st:KT) (cd:Value) (q:Str):Bool:=match cd with
 |.ref c=>match st.get c with
  |some ⟨_,_,.fields vs,_⟩=>match vs.toList with
   |_ :: .str n _::_=>n == q
   |_=>false
  |_=>false
 |_=>false
def vH (st:KT) (f:Addr):Bool:=match st.get f with
 |some ⟨_,_,.func fd,_⟩=>!fd.scope.isCoroutine && !fd.scope.isGenerator && (match fd.body with | .stmts _=>true | _=>false) && codeOk st fd.code fd.qualname
 |_=>false
def Cfg.tree (C:Cfg) (fr:Option (List Env)) (c:Code):Sem Fin:=match c with
 |.call v args=>match v with
  |.ref f=>match vH C.st f with
   |true=>C.call (fdAt C.st f) (bodyOf (fdAt C.st f)) f args
   |false=>C.D fr c
  |_=>C.D fr c
 |_=>C.D fr c
noncomputable abbrev RunTy:=Code→Kt→Sem Fin→List En→Nat→Nat→Nat→Tr→(Nat→Ora)→(Nat→Nat)→Out
noncomputable def emitQ:List (Addr×Addr)→Out→Out
 |[],r=>r
 |p::l,r => .eqA p.1 p.2 (emitQ l r)
def Cfg.enter (C:Cfg) (ih:RunTy) (fr:Option (List Env)) (c:Code) (κ:Kt) (t:Sem Fin):List En→Nat→Nat→Nat→Tr→(Nat→Ora)→(Nat→Nat)→Out :=
 fun m n tk last tr os bs=>emitQ (C.chk fr c) (ih c κ t m n tk last tr os bs)
noncomputable def isLoop:Code→Bool
 |.whileLoop ..=>true
 |.forLoop ..=>true
 |.compLoop ..=>true
 |.func ..=>true
 |_=>false
def retS (ih:RunTy) (r:Result) (κ:Kt):List En→Nat→Nat→Nat→Tr→(Nat→Ora)→(Nat→Nat)→Out:=match κ with
 |.base=>fun m n tk _ _ _ _ => .fin r m n tk
 |.ret c _ k κ=>ih c κ (k r)
noncomputable def gO {α:Type} (x:Option α) (k:Nat) (f:α→Out):Out:=match x with
 |some a=>f a
 |none => .stop k
noncomputable def gT (x:Bool) (k:Nat) (r:Out):Out:=match x with
 |true=>r
 |false => .stop k
noncomputable def gJ (j:Nat) (r:Out) (f:Nat→Out):Out:=match j with
 |0=>r
 |j+1=>f j
noncomputable def gC (t:Tr) (f:Nat→Tr→Out):Out:=match t with
 |.cons q t=>f q t
 |_ => .stop 7
def ldO (C:Cfg) (m:List En) (a:Addr) (j:Nat) (f:Obj→Out):Out:=gJ j (gO (C.st.get a) 10 f) fun j=>gO m[j]? 11 fun e => .eqA a e.a (f e.o)
def hooked (C:Cfg) (c':Code) (hd:Option Value) (d u:Nat) (inl:List En→Nat→Nat→Nat→Tr→(Nat→Ora)→(Nat→Nat)→Out) (on:Result→List En→Nat→Nat→Nat→Tr→(Nat→Ora)→(Nat→Nat)→Out):List En→Nat→Nat→Nat→Tr→(Nat→Ora)→(Nat→Nat)→Out :=
 fun m n tk last tr os bs=>gO (tr.take last) 3 fun p=>gJ p.1 (gT (Nat.ble d C.dmax && Nat.ble (u+c'.cUnits) C.umax) 6 (inl m n tk last p.2 os bs)) fun h=>gO C.hooks[h]? 4 fun H=>gT hd.isNone 5 <|
  gT (Nat.ble (d+H.nd) C.dmax && Nat.ble (u+H.nu) C.umax) 6 <| gC p.2 fun q tr=>match H.br with
   |0=>(H.go c' m n tk (Tr.many q tr).1 0 (takeO H.ar os)).on fun r m n tk=>on r m n tk last (Tr.many q tr).2 (jg H.ar os) bs
   |_+1=>(H.go c' m n tk (Tr.many q tr).1 (bs 0) (takeO H.ar os)).on fun r m n tk=>on r m n tk (bs 0) (Tr.many q tr).2 (jg H.ar os) (fun j=>bs (j+1))
def step (C:Cfg) (ih:RunTy) (c:Code) (κ:Kt) (t:Sem Fin):List En→Nat→Nat→Nat→Tr→(Nat→Ora)→(Nat→Nat)→Out:=match t with
 |.pure fin=>match fin with
  |.done f=>retS ih (.ok f) κ
  |.again c'=>fun m n tk last tr os bs=>gT c'.quiet 8 <| match isLoop c' with
    |false=>gT (Nat.ble (κ.uni+c'.cUnits) C.umax) 6 <| C.enter ih (κ.fr C.fr) c' κ (C.D (κ.fr C.fr) c') m n tk last tr os bs
    |true=>hooked C c' (κ.hd none) κ.dep κ.uni (C.enter ih (κ.fr C.fr) c' κ (C.D (κ.fr C.fr) c')) (fun r=>retS ih r κ) m n tk last tr os bs
 |.raise e=>retS ih (.error e) κ
 |.rule _ k=>ih c κ (k ())
 |.at _ k=>ih c κ (k ())
 |.point _ k=>ih c κ (k ())
 |.ask k=>ih c κ (k C.set)
 |.load a _ k=>fun m n tk last tr os bs=>gO (tr.take last) 9 fun p=>ldO C m a p.1 fun o=>ih c κ (k o) m n tk last p.2 os bs
 |.loadIfAlive a k=>fun m n tk last tr os bs=>gO (tr.take last) 9 fun p=>ldO C m a p.1 fun o=>ih c κ (k (some o)) m n tk last p.2 os bs
 |.alloc o k=>fun m n tk last tr os bs=>gT (!o.isFreed) 12 <| ih c κ (k n) (⟨n,o,!JG o,[]⟩::m) (n+1) tk last tr os bs
 |.update a _ f k=>fun m n tk last tr os bs=>gO (tr.take last) 14 fun p=>gJ p.1 (.stop 14) fun j=>gO m[j]? 11 fun e=>gT (e.w && !JG e.o && !(f e.o).isFreed) 13 <|
   .eqA a e.a (ih c κ (k ()) (m.set j ⟨e.a,f e.o,true,e.dq⟩) n tk last p.2 os bs)
 |.fresh k=>fun m n tk last tr os bs=>ih c κ (k tk) m n (tk+1) last tr os bs
 |.handled own k=>match own with
  |false=>ih c κ (k (κ.hd none))
  |true=>fun _ _ _ _ _ _ _ => .stop 15
 |.call c' hd _ _ k=>fun m n tk last tr os bs=>gT (okMark hd) 16 <|
   hooked C c' (hd.or (κ.hd none)) (κ.dep+c.weight) (κ.uni+c.cUnits) (C.enter ih (pushEnvs c.envs (κ.fr C.fr)) c' (.ret c hd k κ) (C.tree (pushEnvs c.envs (κ.fr C.fr)) c')) (fun r=>ih c κ (k r)) m n tk last tr os bs
 |.stack k=>fun m n tk last tr os bs=>ih c κ (k ((c,(os 0).p)::(os 0).y)) m n tk last tr (jg 1 os) bs
 |.unsupported _=>fun _ _ _ _ _ _ _ => .stop 20
 |.finish _=>fun _ _ _ _ _ _ _ => .stop 21
 |.register ..=>fun _ _ _ _ _ _ _ => .stop 22
 |.choose ..=>fun _ _ _ _ _ _ _ => .stop 23
 |.os ..=>fun _ _ _ _ _ _ _ => .stop 24
 |.genState ..=>fun _ _ _ _ _ _ _ => .stop 25
 |.newGen ..=>fun _ _ _ _ _ _ _ => .stop 26
 |.resume ..=>fun _ _ _ _ _ _ _ => .stop 27
 |.yield ..=>fun _ _ _ _ _ _ _ => .stop 28
 |.fork ..=>fun _ _ _ _ _ _ _ => .stop 30
 |.thread _=>fun _ _ _ _ _ _ _ => .stop 31
 |.await ..=>fun _ _ _ _ _ _ _ => .stop 32
noncomputable def run (C:Cfg):Nat→RunTy
 |0=>fun _ _ _ _ _ _ _ _ _ _ => .stop 40
 |f+1=>step C (run C f)
structure Rp (C:Cfg) (h₀:Heap) (ws:List Addr) (m:List En) (n:Nat) (h:Heap):Prop where
 size:h.objs.size=n
 known:∀ e∈m,h.get? e.a=some e.o
 facts:∀ e∈m,∀ p∈e.dq,Dq h p.1 p.2
 apart:∀ (i j:Nat) (x y:En),m[i]?=some x→m[j]?=some y→x.w=true→i≠j→x.a≠y.a
 stat:∀ a o,C.st.get a=some o→h.get? a=some o
 off:∀ e∈m,e.w=true→C.st.get e.a=none
 own:∀ e∈m,e.w=true→e.a∈ws∨h₀.get? e.a=none
 keep:∀ b o,h₀.get? b=some o→b∉ws→h.get? b=some o
section
variable {C:Cfg} {h₀:Heap} {ws:List Addr} {m:List En} {n:Nat} {h:Heap}
theorem Rp.at (D:Rp C h₀ ws m n h) {j:Nat} {e:En} (hj:m[j]?=some e):h.get? e.a=some e.o:=D.known e (List.mem_of_getElem? hj)
theorem Rp.alloc (D:Rp C h₀ ws m n h) {o:Obj} (hf:o.isFreed=false):Rp C h₀ ws (⟨n,o,!JG o,[]⟩::m) (n+1) (h.push o):=by
 have hn:∀ b x,h.get? b=some x→b≠n:=fun b x e=>by
  have:=Heap.lt_size e
  rw [D.size] at this
  exact Nat.ne_of_lt this
 refine ⟨by rw [Heap.size_push,D.size],fun e he=>?_,fun e he p hp=>?_,fun i j x y hi hj hw hij=>?_,fun a x e=>Heap.get?_push_of_some _ (D.stat a x e),fun e he hw=>?_,fun e he hw=>?_,fun b x e hb=>Heap.get?_push_of_some _ (D.keep b x e hb)⟩
 ·cases he with
  |head=>rw [←D.size];exact Heap.get?_push_size _ hf
  |tail _ he=>exact Heap.get?_push_of_some _ (D.known e he)
 ·cases he with
  |head=>cases hp
  |tail _ he=>exact (D.facts e he p hp).mono fun a o q _=>Heap.get?_push_of_some _ q
 ·cases i with
  |zero =>
   cases j with
   |zero=>exact absurd rfl hij
   |succ j =>
    cases hi
    exact fun q=>hn _ _ (D.at (j:=j) hj) q.symm
  |succ i =>
   cases j with
   |zero=>cases hj;exact fun q=>hn _ _ (D.at (j:=i) hi) q
   |succ j=>exact D.apart i j x y hi hj hw (fun q=>hij (by rw [q]))
 ·cases he with
  |head =>
   cases q:C.st.get n with
   |none=>rfl
   |some x=>exact absurd rfl (hn _ _ (D.stat _ _ q))
  |tail _ he=>exact D.off e he hw
 ·cases he with
  |head =>
   by_cases hm:n∈ws
   ·exact .inl hm
   ·refine .inr ?_
    cases q:h₀.get? n with
    |none=>rfl
    |some x=>exact absurd rfl (hn _ _ (D.keep _ _ q hm))
  |tail _ he=>exact D.own e he hw
theorem Rp.update (D:Rp C h₀ ws m n h) {j:Nat} {e:En} (hj:m[j]?=some e) (hw:e.w=true) (ht:JG e.o=false) {f:Obj→Obj} (hf:(f e.o).isFreed=false):Rp C h₀ ws (m.set j ⟨e.a,f e.o,true,e.dq⟩) n (h.update e.a f):=by
 have hs:Heap.SameBut e.a h (h.update e.a f):=Heap.SameBut.update ..
 have hl:j < m.length:=(List.getElem?_eq_some_iff.mp hj).1
 have at_:∀ i x,(m.set j ⟨e.a,f e.o,true,e.dq⟩)[i]?=some x→(i=j∧x=⟨e.a,f e.o,true,e.dq⟩)∨(i≠j∧m[i]?=some x):=fun i x hi=>by
  by_cases q:i=j
  ·subst q
   rw [List.getElem?_set_self hl] at hi
   exact .inl ⟨rfl,(Option.some.inj hi).symm⟩
  ·rw [List.getElem?_set_ne (Ne.symm q)] at hi
   exact .inr ⟨q,hi⟩
 have back:∀ x∈m.set j ⟨e.a,f e.o,true,e.dq⟩,x=⟨e.a,f e.o,true,e.dq⟩∨∃ i,i≠j∧m[i]?=some x:=fun x hx=>by
  obtain ⟨i,hi⟩:=List.getElem?_of_mem hx
  rcases at_ i x hi with ⟨_,q⟩ | ⟨q,r⟩
  ·exact .inl q
  ·exact .inr ⟨i,q,r⟩
 have fact:∀ v v',Dq h v v'→Dq (h.update e.a f) v v':=fun v v' q=>q.mono fun a o r t=>by
  refine (hs.2 _ fun z=>?_).trans r
  rw [z,D.at hj] at r
  cases r
  rw [ht] at t;cases t
 refine ⟨by rw [hs.1,D.size],fun x hx=>?_,fun x hx p hp=>?_,fun i k x y hi hk hxw hik=>?_,fun a o q=>?_,fun x hx hxw=>?_,fun x hx hxw=>?_,fun b o q hb=>?_⟩
 ·rcases back x hx with rfl | ⟨i,hij,hi⟩
  ·first | exact Heap.get?_update_self f (D.at hj) hf | exact Heap.get?_update_self _ (D.at hj) hf
  ·exact (hs.2 _ fun q=>D.apart j i e x hj hi hw (Ne.symm hij) q.symm).trans (D.at hi)
 ·rcases back x hx with rfl | ⟨i,_,hi⟩
  ·exact fact _ _ (D.facts e (List.mem_of_getElem? hj) p hp)
  ·exact fact _ _ (D.facts x (List.mem_of_getElem? hi) p hp)
 ·rcases at_ i x hi with ⟨rfl,rfl⟩ | ⟨q,hi'⟩
  ·rcases at_ k y hk with ⟨rfl,rfl⟩ | ⟨q,hk'⟩
   ·exact absurd rfl hik
   ·exact D.apart i k e y hj hk' hw hik
  ·rcases at_ k y hk with ⟨rfl,rfl⟩ | ⟨q',hk'⟩
   ·exact D.apart i k x e hi' hj hxw hik
   ·exact D.apart i k x y hi' hk' hxw hik
 ·refine (hs.2 _ fun z=>?_).trans (D.stat a o q)
  rw [z,D.off e (List.mem_of_getElem? hj) hw] at q
  cases q
 ·rcases back x hx with rfl | ⟨i,_,hi⟩
  ·exact D.off e (List.mem_of_getElem? hj) hw
  ·exact D.off x (List.mem_of_getElem? hi) hxw
 ·rcases back x hx with rfl | ⟨i,_,hi⟩
  ·exact D.own e (List.mem_of_getElem? hj) hw
  ·exact D.own x (List.mem_of_getElem? hi) hxw
 ·refine (hs.2 _ fun z=>?_).trans (D.keep b o q hb)
  rcases D.own e (List.mem_of_getElem? hj) hw with r | r
  ·exact hb (z ▸ r)
  ·rw [z,r] at q;cases q
end
noncomputable abbrev QM (C:Cfg) (h₀:Heap) (ws:List Addr) (R:Result→Shared→Prop) (g:Array GenState) (d:Drawn) (os:OsState):Result→List En→Nat→Nat→Prop :=
 fun r m n tk=>∀ h,Rp C h₀ ws m n h→R r ⟨h,g,d,tk,os⟩
def Hook.Ok (C:Cfg) (prog:Program) (w:World) (h₀:Heap) (ws:List Addr) (H:Hook):Prop :=
 ∀ (A:Around) (m:List En) (n:Nat) (c:Code) (hint:List Nat) (h:Heap) (g:Array GenState) (d:Drawn) (tk:Nat) (os:OsState) (R:Result→Shared→Prop),
  A.depth+H.nd < recursionLimit→A.units+H.nu < cLine→A.handled=none→Rp C h₀ ws m n h →
  (∀ (b:Nat) (o:List Ora),(H.br=0→b=0)→o.length=H.ar→qU (QM C h₀ ws R g d os) (H.go c m n tk hint b o))→codeAny (model prog w) A c R ⟨h,g,d,tk,os⟩
def postL (prog:Program) (w:World) (A:Around) (R:Result→Shared→Prop):Fin→Shared→Prop:=fun fin s'=>match fin with
 |.done f=>R (.ok f) s'
 |.again c'=>(c'.quiet=true∧codeAny (model prog w) A c' R s')∧s'.heap.NoLimit
theorem Vq {prog:Program} {w:World} {A:Around} {R:Result→Shared→Prop} {c:Code} {s:Shared} (h:wpOwn (model prog w) A c (denote table c) (postL prog w A R) (postE R) s):codeAny (model prog w) A c R s :=
 y_code _ _ _ _ _ _ (wpOwn_mono h (fun fin _ q=>by cases fin with | done f=>exact q | again c'=>exact q.1) fun _ _ q=>q)
def Sub {α:Type} (t' t:Sem α):Prop:=∀ (M:Model) (Γ:PySem.Ctx) (Q:α→Pos→Shared→Prop) (E:Value→Pos→Shared→Prop) (p:Pos) (s:Shared),Γ.units < cLine→Sem.wp M Γ t' Q E p s→Sem.wp M Γ t Q E p s
theorem Sub.refl {α:Type} (t:Sem α):Sub t t:=fun _ _ _ _ _ _ _ h=>h
theorem Sub.of_eq {α:Type} {t' t:Sem α} (e:t'=t):Sub t' t:=e ▸ Sub.refl _
def FrOk (fr:Option (List Env)) (Γ:PySem.Ctx):Prop:=∀ l,fr=some l→Γ.code.envs++envsOf Γ.below=l
def yH (fr:Option (List Env)) {α:Type} (t' t:Sem α):Prop:=∀ (M:Model) (Γ:PySem.Ctx) (Q:α→Pos→Shared→Prop) (E:Value→Pos→Shared→Prop) (p:Pos) (s:Shared),Γ.units < cLine→FrOk fr Γ→Sem.wp M Γ t' Q E p s→Sem.wp M Γ t Q E p s
theorem Sub.f {α:Type} {t' t:Sem α} (x:Sub t' t) (fr:Option (List Env)):yH fr t' t:=fun M Γ Q E p s hu _ h=>x M Γ Q E p s hu h
theorem own_sub {α:Type} {M:Model} {A:Around} {c:Code} {fr:Option (List Env)} {t' t:Sem α} {Q:α→Shared→Prop} {E:Value→Shared→Prop} {s:Shared} (x:yH (pushEnvs c.envs fr) t' t) (hf:∀ l,fr=some l→A.frames=some l) (hu:A.units+c.cUnits < cLine) (h:wpOwn M A c t' Q E s):wpOwn M A c t Q E s :=
 fun Γ p hc hΓ=>x M Γ _ _ p s (by
  have h5:Γ.units≤A.units+c.cUnits:=by have:=hΓ.in;rw [hc] at this;exact this.2.2.2.2
  omega) (fun l hl=>by
  have h3:=hΓ.in
  refine h3.2.2.1 l ?_
  rw [hc]
  show pushEnvs c.envs A.frames=some l
  rw [pushEnvs_eq] at hl ⊢
  cases q:fr with
  |none=>rw [q] at hl;cases hl
  |some l0=>rw [q] at hl;rw [hf l0 q];exact hl) (h Γ p hc hΓ)
section
variable (prog:Program) (w:World) (A₀:Around) (R₀:Result→Shared→Prop)
noncomputable def Va:Kt→Around
 |.base=>A₀
 |.ret c hd _ κ=>((Va κ).under c).mark hd
noncomputable def enOf:Kt→Result→Shared→Prop
 |.base=>R₀
 |.ret c _ k κ=>postR prog w (Va A₀ κ) c (postL prog w (Va A₀ κ) (enOf κ)) (postE (enOf κ)) k
def Mn (c:Code) (κ:Kt) (t:Sem Fin) (s:Shared):Prop :=
 wpOwn (model prog w) (Va A₀ κ) c t (postL prog w (Va A₀ κ) (enOf prog w A₀ R₀ κ)) (postE (enOf prog w A₀ R₀ κ)) s
end
theorem YR (A₀:Around):∀ κ:Kt,(Va A₀ κ).depth=A₀.depth+κ.dep
 |.base=>rfl
 |.ret c _ _ κ=>by show (Va A₀ κ).depth+c.weight=_;rw [YR A₀ κ,Nat.add_assoc];rfl
theorem Vr (A₀:Around):∀ κ:Kt,(Va A₀ κ).units=A₀.units+κ.uni
 |.base=>rfl
 |.ret c _ _ κ=>by show (Va A₀ κ).units+c.cUnits=_;rw [Vr A₀ κ,Nat.add_assoc];rfl
theorem ar_fr {A₀:Around} {f:Option (List Env)} (h:∀ l,f=some l→A₀.frames=some l):∀ (κ:Kt) (l:List Env),κ.fr f=some l→(Va A₀ κ).frames=some l
 |.base,l,e=>h l e
 |.ret c hd k κ,l,e=>by
  show pushEnvs c.envs (Va A₀ κ).frames=some l
  have e:pushEnvs c.envs (κ.fr f)=some l:=e
  rw [pushEnvs_eq] at e ⊢
  cases q:κ.fr f with
  |none=>rw [q] at e;cases e
  |some l0=>rw [q] at e;rw [ar_fr h κ l0 q];exact e
theorem ar_hd (A₀:Around):∀ κ:Kt,(Va A₀ κ).handled=κ.hd A₀.handled
 |.base=>rfl
 |.ret c hd _ κ=>by show hd.or (Va A₀ κ).handled=_;rw [ar_hd A₀ κ];rfl
noncomputable def YO (fd:FuncData) (body:List Stmt) (a:Addr) (args:Args):Sem Fin:=do
 let binds ←bindArgs fd args
 let env ←newFunctionEnv fd.scope fd.globals fd.closure binds (fd.qualname ++ ".<locals>.") (some a) fd.code none fd.builtins
 again (.func body env)
theorem call_start {prog:Program} {w:World} {A:Around} {R:Result→Shared→Prop} {a:Addr} {args:Args} {o:Obj} {fd:FuncData} {body:List Stmt} {s:Shared} (hroom:A.depth < recursionLimit)
  (ho:s.heap.get? a=some o) (hd':o.data = .func fd) (hco:fd.scope.isCoroutine=false) (hgen:fd.scope.isGenerator=false) (hbody:fd.body = .stmts body) (hcd:s.heap.CodeRec fd.code fd.qualname)
  (h:wpOwn (model prog w) A (.call (.ref a) args) (YO fd body a args) (postL prog w A R) (postE R) s):codeAny (model prog w) A (.call (.ref a) args) R s:=by
 refine codeAny_of_own ?_
 show wpOwn _ A _ (callAny (.ref a) args) _ _ s
 simp only [callAny]
 refine wpOwn_bind (wpOwn_of_wpAny (wpAny_load ho ?_))
 obtain ⟨c,oc,vs,tq,hc,hoc,hdc,hq⟩:=hcd
 simp only [hd',callFunction,hco,hgen,hbody,hc]
 unfold YO at h
 rw [hc] at h
 refine wpOwn_bind (wpOwn_of_wpAny (wpAny_field hoc hdc hq ?_))
 show wpOwn _ _ _ (bindArgs fd args >>= fun binds=>newFunctionEnv fd.scope fd.globals fd.closure binds (fd.qualname ++ ".<locals>.") (some a) (.ref c) none fd.builtins >>= fun env=>enterFrame >>= fun _=>again (.func body env)) _ _ s
 intro Γ p hΓc hΓ
 have z:=h Γ p hΓc hΓ
 rw [Sem.wp_bind'] at z ⊢
 refine Sem.wp_mono _ _ _ (fun binds p₁ s₁ z₁=>?_) (fun _ _ _ q=>q) p s z
 rw [Sem.wp_bind'] at z₁ ⊢
 refine Sem.wp_mono _ _ _ (fun env p₂ s₂ z₂=>?_) (fun _ _ _ q=>q) p₁ s₁ z₁
 have z₃:(Code.quiet (.func body env)=true∧codeAny (model prog w) A (.func body env) R s₂)∧s₂.heap.NoLimit:=z₂
 have hin:Γ.In (A.under (.call (.ref a) args)):=hΓc ▸ hΓ.in
 have z₄:wpAny (model prog w) (A.under (.call (.ref a) args)) (enterFrame >>= fun _=>again (.func body env)) (fun fin s'=>match fin with | .done f=>R (.ok f) s' | .again c'=>c'.quiet=true∧codeAny (model prog w) A c' R s') (fun e s'=>R (.error e) s') s₂ :=
  wpAny_bind (wpAny_enterFrame z₃.2 hroom (wpAny_pure (And.intro rfl z₃.1.2)))
 exact z₄ Γ p₂ hin
theorem codeOk_rec {st:KT} {h:Heap} (hst:∀ a o,st.get a=some o→h.get? a=some o) {cd:Value} {q:Str} (e:codeOk st cd q=true):h.CodeRec cd q:=by
 unfold codeOk at e
 split at e
 ·split at e
  ·rename_i vs _ ho
   split at e
   ·rename_i a n t r hv
    exact ⟨_,_,vs,t,rfl,hst _ _ ho,rfl,by rw [←Array.getElem?_toList,hv,←beq_iff_eq.mp e];rfl⟩
   ·cases e
  ·cases e
 ·cases e
theorem qU.on {F':Result→List En→Nat→Nat→Prop} {ι:Type} {F:ι→Result→List En→Nat→Nat→Prop} {k:ι→Result→List En→Nat→Nat→Out} (i₀:ι) :
  ∀ {o:Out},(∀ i,qU (F i) (o.on (k i)))→(∀ r m n tk,(∀ i,qU (F i) (k i r m n tk))→F' r m n tk)→qU F' o
 |.stop _,h,_=>h i₀
 |.short,_,_=>trivial
 |.log _ r,h,g=>qU.on i₀ (o:=r) h g
 |.eqA _ _ r,h,g=>⟨(h i₀).1,qU.on i₀ (o:=r) (fun i=>(h i).2) g⟩
 |.must _ r,h,g=>⟨(h i₀).1,qU.on i₀ (o:=r) (fun i=>(h i).2) g⟩
 |.may _ r,h,g=>fun p=>qU.on i₀ (o:=r) (fun i=>h i p) g
 |.fin ..,h,g=>g _ _ _ _ h
section
variable {prog:Program} {w:World} {A₀:Around} {R₀:Result→Shared→Prop} {C:Cfg} {h₀:Heap} {ws:List Addr} {g:Array GenState} {d:Drawn} {os:OsState}
structure Fit (prog:Program) (w:World) (C:Cfg) (A₀:Around) (h₀:Heap) (ws:List Addr):Prop where
 set:C.set=⟨prog,w.params⟩
 D:∀ fr c,(∀ p∈C.chk fr c,p.1=p.2)→yH (pushEnvs c.envs fr) (C.D fr c) (denote table c)
 fr:∀ l,C.fr=some l→A₀.frames=some l
 call:∀ fd body a args,C.call fd body a args=YO fd body a args
 hooks:∀ H∈C.hooks,H.Ok C prog w h₀ ws
 depth:A₀.depth+C.dmax < recursionLimit
 units:A₀.units+C.umax < cLine
 handled:A₀.handled=none
 lim:∀ h:Heap,(∀ a o,C.st.get a=some o→h.get? a=some o)→h.NoLimit
abbrev IHTy (prog:Program) (w:World) (A₀:Around) (R₀:Result→Shared→Prop) (C:Cfg) (h₀:Heap) (ws:List Addr) (g:Array GenState) (d:Drawn) (os:OsState) (ih:RunTy):Prop :=
 ∀ c κ t m n tk last tr h,Rp C h₀ ws m n h→(∀ o b,qU (QM C h₀ ws R₀ g d os) (ih c κ t m n tk last tr o b))→Mn prog w A₀ R₀ c κ t ⟨h,g,d,tk,os⟩
theorem Qd {F:Result→List En→Nat→Nat→Prop}:∀ {l:List (Addr×Addr)} {r:Out},qU F (emitQ l r)→(∀ p∈l,p.1=p.2)∧qU F r
 |[],_,h=>⟨fun _ hp=>(nomatch hp),h⟩
 |p::l,r,h=>by
  obtain ⟨h1,h2⟩:=Qd (l:=l) (r:=r) h.2
  refine ⟨fun q hq=>?_,h2⟩
  cases hq with
  |head=>exact h.1
  |tail _ hq=>exact h1 q hq
theorem retS_ok {ih:RunTy} (IH:IHTy prog w A₀ R₀ C h₀ ws g d os ih) {r:Result} {κ:Kt} {m n tk last tr h} (D:Rp C h₀ ws m n h)
  (H:∀ o b,qU (QM C h₀ ws R₀ g d os) (retS ih r κ m n tk last tr o b)):enOf prog w A₀ R₀ κ r ⟨h,g,d,tk,os⟩:=by
 cases κ with
 |base=>exact H default default h D
 |ret c hd k κ=>exact IH c κ (k r) m n tk last tr h D H
theorem gO_e {F:Result→List En→Nat→Nat→Prop} {α:Type} {x:Option α} {k:Nat} {f:(Nat→Ora)→(Nat→Nat)→α→Out} (H:∀ o b,qU F (gO x k (f o b))) {G:Prop} (g:∀ a,x=some a→(∀ o b,qU F (f o b a))→G):G:=by
 cases x with
 |none=>exact (H default default).elim
 |some a=>exact g a rfl H
theorem gT_e {F:Result→List En→Nat→Nat→Prop} {x:Bool} {k:Nat} {f:(Nat→Ora)→(Nat→Nat)→Out} (H:∀ o b,qU F (gT x k (f o b))) {G:Prop} (g:x=true→(∀ o b,qU F (f o b))→G):G:=by
 cases x with
 |false=>exact (H default default).elim
 |true=>exact g rfl H
theorem gJ_e {F:Result→List En→Nat→Nat→Prop} {j:Nat} {r:(Nat→Ora)→(Nat→Nat)→Out} {f:(Nat→Ora)→(Nat→Nat)→Nat→Out} (H:∀ o b,qU F (gJ j (r o b) (f o b))) {G:Prop} (g0:(∀ o b,qU F (r o b))→G) (g:∀ j,(∀ o b,qU F (f o b j))→G):G:=by
 cases j with
 |zero=>exact g0 H
 |succ j=>exact g j H
theorem gC_e {F:Result→List En→Nat→Nat→Prop} {t:Tr} {f:(Nat→Ora)→(Nat→Nat)→Nat→Tr→Out} (H:∀ o b,qU F (gC t (f o b))) {G:Prop} (g:∀ q t,(∀ o b,qU F (f o b q t))→G):G:=by
 cases t with
 |cons q t=>exact g q t H
 |_=>exact (H default default).elim
theorem ldO_e {F:Result→List En→Nat→Nat→Prop} {m:List En} {n:Nat} {h:Heap} (D:Rp C h₀ ws m n h) {a:Addr} {j:Nat} {f:(Nat→Ora)→(Nat→Nat)→Obj→Out} (H:∀ o b,qU F (ldO C m a j (f o b))) {G:Prop} (g:∀ x,h.get? a=some x→(∀ o b,qU F (f o b x))→G):G :=
 gJ_e H (fun H=>gO_e H fun x q H=>g x (D.stat a x q) H) fun j H=>gO_e H fun e q H=>g e.o ((H default default).1 ▸ D.at q) fun o b=>(H o b).2
theorem hooked_ok (F:Fit prog w C A₀ h₀ ws) {c':Code} {hd:Option Value} {dd uu:Nat} {A:Around} {inl on} {R:Result→Shared→Prop} {m n tk last tr h} (D:Rp C h₀ ws m n h)
  (hA:A.handled=hd) (hdd:A.depth=A₀.depth+dd) (huu:A.units=A₀.units+uu)
  (hin:∀ tr,dd≤C.dmax→uu+c'.cUnits≤C.umax→(∀ o b,qU (QM C h₀ ws R₀ g d os) (inl m n tk last tr o b))→codeAny (model prog w) A c' R ⟨h,g,d,tk,os⟩)
  (hon:∀ r m n tk last tr h,Rp C h₀ ws m n h→(∀ o b,qU (QM C h₀ ws R₀ g d os) (on r m n tk last tr o b))→R r ⟨h,g,d,tk,os⟩)
  (H:∀ o b,qU (QM C h₀ ws R₀ g d os) (hooked C c' hd dd uu inl on m n tk last tr o b)):codeAny (model prog w) A c' R ⟨h,g,d,tk,os⟩:=by
 refine gO_e H fun p _ H=>gJ_e H (fun H=>gT_e H fun qb H=>?_) fun hk H=>gO_e H fun Hk qh H=>gT_e H fun q5 H=>gT_e H fun qb H=>gC_e H fun qn tr H=>?_
 ·rw [Bool.and_eq_true,Nat.ble_eq,Nat.ble_eq] at qb
  exact hin p.2 qb.1 qb.2 H
 ·rw [Bool.and_eq_true,Nat.ble_eq,Nat.ble_eq] at qb
  have hA:A.handled=none:=by rw [hA];exact Option.isNone_iff_eq_none.mp q5
  refine F.hooks Hk (List.mem_of_getElem? qh) A m n c' (Tr.many qn tr).1 h g d tk os R (by rw [hdd,Nat.add_assoc];exact Nat.lt_of_le_of_lt (Nat.add_le_add_left qb.1 _) F.depth) (by rw [huu,Nat.add_assoc];exact Nat.lt_of_le_of_lt (Nat.add_le_add_left qb.2 _) F.units) hA D fun b o hb ho=>?_
  cases qr:Hk.br with
  |zero =>
   have hb0:b=0:=hb qr
   subst hb0
   refine qU.on (F:=fun _=>QM C h₀ ws R₀ g d os) (k:=fun (i:(Nat→Ora)×(Nat→Nat)) r m n tk=>on r m n tk last (Tr.many qn tr).2 i.1 i.2) (default,default) (fun i=>?_) fun r m n tk hr h' D'=>hon r m n tk last (Tr.many qn tr).2 h' D' fun o b=>hr (o,b)
   obtain ⟨oo,h1,h2⟩:=oras_of o i.1
   have z:=H oo i.2
   rw [qr] at z
   rw [←ho] at z
   simp only [h1,h2] at z
   exact z
  |succ y =>
   refine qU.on (F:=fun _=>QM C h₀ ws R₀ g d os) (k:=fun (i:(Nat→Ora)×(Nat→Nat)) r m n tk=>on r m n tk b (Tr.many qn tr).2 i.1 i.2) (default,default) (fun i=>?_) fun r m n tk hr h' D'=>hon r m n tk b (Tr.many qn tr).2 h' D' fun o b=>hr (o,b)
   obtain ⟨oo,h1,h2⟩:=oras_of o i.1
   have z:=H oo (consB b i.2)
   rw [qr] at z
   rw [←ho] at z
   simp only [h1,h2] at z
   exact z
theorem dep_lt (F:Fit prog w C A₀ h₀ ws) {A:Around} {d:Nat} (e:A.depth=A₀.depth+d) (h:d≤C.dmax):A.depth < recursionLimit:=e ▸ Nat.lt_of_le_of_lt (Nat.add_le_add_left h _) F.depth
theorem uni_lt (F:Fit prog w C A₀ h₀ ws) {A:Around} {u v:Nat} (e:A.units=A₀.units+u) (h:u+v≤C.umax):A.units+v < cLine:=by
 rw [e,Nat.add_assoc];exact Nat.lt_of_le_of_lt (Nat.add_le_add_left h _) F.units
theorem tree_ok (F:Fit prog w C A₀ h₀ ws) {c c':Code} {hd:Option Value} {k:Result→Sem Fin} {κ:Kt} {m n tk h} (D:Rp C h₀ ws m n h) (hde:(Va A₀ (.ret c hd k κ)).depth < recursionLimit)
  (plain:Mn prog w A₀ R₀ c' (.ret c hd k κ) (C.D (pushEnvs c.envs (κ.fr C.fr)) c') ⟨h,g,d,tk,os⟩→codeAny (model prog w) (Va A₀ (.ret c hd k κ)) c' (enOf prog w A₀ R₀ (.ret c hd k κ)) ⟨h,g,d,tk,os⟩)
  (z:Mn prog w A₀ R₀ c' (.ret c hd k κ) (C.tree (pushEnvs c.envs (κ.fr C.fr)) c') ⟨h,g,d,tk,os⟩):codeAny (model prog w) (Va A₀ (.ret c hd k κ)) c' (enOf prog w A₀ R₀ (.ret c hd k κ)) ⟨h,g,d,tk,os⟩:=by
 cases c' with
 |call v args =>
  cases v with
  |ref f =>
   have z:Mn prog w A₀ R₀ (.call (.ref f) args) (.ret c hd k κ) (match vH C.st f with | true=>C.call (fdAt C.st f) (bodyOf (fdAt C.st f)) f args | false=>C.D (pushEnvs c.envs (κ.fr C.fr)) (.call (.ref f) args)) ⟨h,g,d,tk,os⟩:=z
   cases qk:vH C.st f with
   |false=>rw [qk] at z;exact plain z
   |true =>
    rw [qk,F.call] at z
    clear plain
    unfold vH at qk
    cases ho:C.st.get f with
    |none=>rw [ho] at qk;exact absurd qk Bool.false_ne_true
    |some x =>
     obtain ⟨cl,dd,dt,sl⟩:=x
     rw [ho] at qk
     cases dt with
     |func fd =>
      simp only [Bool.and_eq_true,Bool.not_eq_true'] at qk
      obtain ⟨⟨⟨h1,h2⟩,h3⟩,h4⟩:=qk
      unfold fdAt bodyOf at z
      rw [ho] at z
      cases hb:fd.body with
      |expr e=>rw [hb] at h3;exact absurd h3 Bool.false_ne_true
      |stmts body =>
       simp only [hb] at z
       exact call_start (body:=body) hde (D.stat _ _ ho) rfl h1 h2 hb (codeOk_rec D.stat h4) z
     |_=>exact absurd qk Bool.false_ne_true
  |_=>exact plain z
 |_=>exact plain z
theorem step_ok (F:Fit prog w C A₀ h₀ ws) {ih:RunTy} (IH:IHTy prog w A₀ R₀ C h₀ ws g d os ih):IHTy prog w A₀ R₀ C h₀ ws g d os (step C ih):=by
 intro c κ t m n tk last tr h D H
 have hh:=F.handled
 cases t with
 |pure fin =>
  cases fin with
  |done f=>exact y_pure _ _ _ _ _ _ _ _ _ (retS_ok IH D H)
  |again c' =>
   refine gT_e H fun q H=>y_pure _ _ _ _ _ _ _ _ _ ⟨⟨q,?_⟩,F.lim h D.stat⟩
   have go:∀ tr,κ.uni+c'.cUnits≤C.umax→(∀ o b,qU (QM C h₀ ws R₀ g d os) (C.enter ih (κ.fr C.fr) c' κ (C.D (κ.fr C.fr) c') m n tk last tr o b))→codeAny (model prog w) (Va A₀ κ) c' (enOf prog w A₀ R₀ κ) ⟨h,g,d,tk,os⟩:=fun tr hu H =>
    Vq (own_sub (fr:=κ.fr C.fr) (F.D _ c' (Qd (H default default)).1) (ar_fr F.fr κ) (uni_lt F (Vr A₀ κ) hu) (IH c' κ (C.D (κ.fr C.fr) c') m n tk last tr h D fun o b=>(Qd (H o b)).2))
   cases ql:isLoop c' with
   |false =>
    simp only [ql] at H
    exact gT_e H fun qb H=>go tr (Nat.ble_eq.mp qb) H
   |true =>
    simp only [ql] at H
    exact hooked_ok F D (by rw [ar_hd,hh]) (YR A₀ κ) (Vr A₀ κ) (fun tr _=>go tr) (fun r m n tk last tr h D' H'=>retS_ok IH D' H') H
 |raise e=>exact y_raise _ _ _ _ _ _ _ _ _ (y_err _ _ _ (retS_ok IH D H))
 |rule tag k=>exact y_skim _ _ _ _ _ _ _ _ _ 1 (IH c κ (k ()) m n tk last tr h D H)
 |«at» q k=>exact y_skim _ _ _ _ _ _ _ _ _ 1 (IH c κ (k ()) m n tk last tr h D H)
 |point l k=>exact y_skim _ _ _ _ _ _ _ _ _ 1 (IH c κ (k ()) m n tk last tr h D H)
 |ask k =>
  have z:=IH c κ (k C.set) m n tk last tr h D H
  rw [F.set] at z
  exact y_skim _ _ _ _ _ _ _ _ _ 1 z
 |load a q k=>exact gO_e H fun p _ H=>ldO_e D H fun x e H=>y_load _ _ _ _ _ _ _ _ _ _ _ _ _ _ _ x e (IH c κ (k x) m n tk last p.2 h D H)
 |loadIfAlive a k=>exact gO_e H fun p _ H=>ldO_e D H fun x e H=>y_alive _ _ _ _ _ _ _ _ _ _ _ _ _ _ x e (IH c κ (k (some x)) m n tk last p.2 h D H)
 |alloc o k =>
  refine gT_e H fun qf H=>?_
  have z:=IH c κ (k n) _ _ tk last tr (h.push o) (D.alloc (by simpa using qf)) H
  have ea:h.objs.size=n:=D.size
  exact wpOwn_bind (m:=alloc o) (f:=k) (wpOwn_of_wpAny (wpAny_alloc (by rw [ea];exact z)))
 |update a q f k =>
  refine gO_e H fun p _ H=>gJ_e H (fun H=>(H default default).elim) fun j H=>gO_e H fun e qe H=>gT_e H fun qw H=>?_
  simp only [Bool.and_eq_true,Bool.not_eq_true'] at qw
  have ha:a=e.a:=(H default default).1
  subst ha
  exact wpOwn_bind (m:=updatePart e.a q f) (f:=k) (wpOwn_of_wpAny (wpAny_updatePart (D.at qe) (IH c κ (k ()) _ n tk last p.2 _ (D.update qe qw.1.1 qw.1.2 qw.2) fun o b=>(H o b).2)))
 |fresh k=>exact y_fresh _ _ _ _ _ _ _ _ _ _ _ _ _ (IH c κ (k tk) m n (tk+1) last tr h D H)
 |handled own k =>
  cases own with
  |true=>exact (H default default).elim
  |false =>
   refine y_handled _ _ _ _ _ _ _ _ _ ?_
   have z:=IH c κ (k (κ.hd none)) m n tk last tr h D H
   rw [ar_hd,hh]
   exact z
 |call c' hd gd l k =>
  refine gT_e H fun q H=>?_
  have hnb:hd≠some byPass:=by
   intro e
   subst e
   simp [okMark] at q
  refine y_call _ _ _ _ _ _ _ _ _ _ _ _ _ hnb ?_
  refine hooked_ok F D (dd:=κ.dep+c.weight) (uu:=κ.uni+c.cUnits) (by show hd.or (Va A₀ κ).handled=_;rw [ar_hd,hh]) (YR A₀ (.ret c hd k κ)) (Vr A₀ (.ret c hd k κ)) (fun tr hd' hu' H=>?_) (fun r m n tk last tr h D' H'=>y_ret _ _ _ _ _ _ _ _ _ _ (IH c κ (k r) m n tk last tr h D' H')) H
  have hq:=(Qd (H default default)).1
  have z:=IH c' (.ret c hd k κ) (C.tree (pushEnvs c.envs (κ.fr C.fr)) c') m n tk last tr h D fun o b=>(Qd (H o b)).2
  clear H
  exact tree_ok F D (dep_lt F (YR A₀ (.ret c hd k κ)) hd') (fun z=>Vq (own_sub (fr:=(Kt.ret c hd k κ).fr C.fr) (F.D _ c' hq) (ar_fr F.fr (.ret c hd k κ)) (uni_lt F (Vr A₀ (.ret c hd k κ)) hu') z)) z
 |stack k =>
  intro Γ p hc hΓ
  subst hc
  exact IH Γ.code κ (k ((Γ.code,p)::Γ.below)) m n tk last tr h D (fun o b=>H (fun j=>match j with | 0=>{y:=Γ.below,p:=p} | j+1=>o j) b) Γ p rfl hΓ
 |_=>exact (H default default).elim
theorem run_ok (F:Fit prog w C A₀ h₀ ws):∀ f,IHTy prog w A₀ R₀ C h₀ ws g d os (run C f)
 |0=>fun _ _ _ _ _ _ _ _ _ _ H=>(H default default).elim
 |f+1=>step_ok F (run_ok F f)
end
def Inv {β:Type} (x:Option β) (P:β→Prop):Prop:=∀ b,x=some b→P b
section
variable {α β γ δ:Type} {P:β→Prop}
theorem i0:Inv (none:Option β) P:=fun _ e=>nomatch e
theorem iE {b:β} (h:P b):Inv (some b) P:=fun _ e=>Option.some.inj e ▸ h
noncomputable def oS (x:Option α) (f:α→Option β):Option β:=match x with | some a=>f a | none=>none
theorem iS {x:Option α} {f:α→Option β} (k:∀ a,x=some a→Inv (f a) P):Inv (oS x f) P:=by
 cases x with
 |none=>exact i0
 |some a=>exact k a rfl
noncomputable def oP (x:Option (α×γ)) (f:α→γ→Option β):Option β:=match x with | some (a,c)=>f a c | none=>none
theorem iP {x:Option (α×γ)} {f:α→γ→Option β} (k:∀ a c,x=some (a,c)→Inv (f a c) P):Inv (oP x f) P:=by
 cases x with
 |none=>exact i0
 |some a=>exact k a.1 a.2 rfl
noncomputable def oZ (k:Nat) (f g:Option β):Option β:=match k with | 0=>f | _=>g
theorem iZ {k:Nat} {f g:Option β} (h:Inv f P) (h':Inv g P):Inv (oZ k f g) P:=by
 cases k with
 |zero=>exact h
 |succ=>exact h'
noncomputable def oQ (k:Nat) (f g f' g':Option β):Option β:=match k with | 0=>f | 1=>g | 2=>f' | _=>g'
theorem iQ {k:Nat} {f g f' g':Option β} (h:Inv f P) (h1:Inv g P) (h2:Inv f' P) (h3:Inv g' P):Inv (oQ k f g f' g') P:=match k with
 |0=>h
 |1=>h1
 |2=>h2
 |_+3=>h3
noncomputable def oNo (x:Value) (f:Option β):Option β:=match x with | .none=>f | _=>none
theorem iNo {x:Value} {f:Option β} (k:x = .none→Inv f P):Inv (oNo x f) P:=by
 cases x <;> first | exact k rfl | exact i0
noncomputable def oM (m:List En) (j:Nat) (r:Obj→Option α) (f:En→α→Option β):Option β:=match m[j]? with | some e=>(match r e.o with | some x=>f e x | none=>none) | none=>none
theorem iM {m:List En} {j:Nat} {r:Obj→Option α} {f:En→α→Option β} (k:∀ e x,m[j]?=some e→r e.o=some x→Inv (f e x) P):Inv (oM m j r f) P:=by
 unfold oM
 cases h:m[j]? with
 |none=>exact i0
 |some e =>
  cases h2:r e.o with
  |none=>dsimp only;rw [h2];exact i0
  |some x=>dsimp only;rw [h2];exact k e x h h2
noncomputable def oN (m:List En) (j:Nat) (r:Obj→Option (α×γ)) (f:En→α→γ→Option β):Option β:=match m[j]? with | some e=>(match r e.o with | some (x,y)=>f e x y | none=>none) | none=>none
theorem iN {m:List En} {j:Nat} {r:Obj→Option (α×γ)} {f:En→α→γ→Option β} (k:∀ e x y,m[j]?=some e→r e.o=some (x,y)→Inv (f e x y) P):Inv (oN m j r f) P:=by
 unfold oN
 cases h:m[j]? with
 |none=>exact i0
 |some e =>
  cases h2:r e.o with
  |none=>dsimp only;rw [h2];exact i0
  |some x=>dsimp only;rw [h2];exact k e x.1 x.2 h h2
noncomputable def oT (x:Bool) (f:Option β):Option β:=match x with | true=>f | false=>none
theorem iT {x:Bool} {f:Option β} (k:x=true→Inv f P):Inv (oT x f) P:=by
 cases x with
 |false=>exact i0
 |true=>exact k rfl
noncomputable def oF (x:Bool) (f:Option β):Option β:=match x with | false=>f | true=>none
theorem iF {x:Bool} {f:Option β} (k:x=false→Inv f P):Inv (oF x f) P:=by
 cases x with
 |true=>exact i0
 |false=>exact k rfl
noncomputable def oRf (x:Value) (f:Addr→Option β):Option β:=match x with | .ref a=>f a | _=>none
theorem iRf {x:Value} {f:Addr→Option β} (k:∀ a,x = .ref a→Inv (f a) P):Inv (oRf x f) P:=by
 cases x <;> first | exact k _ rfl | exact i0
noncomputable def yp (x:Value) (f:Str→Tok→Option β):Option β:=match x with | .str a b=>f a b | _=>none
theorem yl {x:Value} {f:Str→Tok→Option β} (k:∀ a b,x = .str a b→Inv (f a b) P):Inv (yp x f) P:=by
 cases x <;> first | exact k _ _ rfl | exact i0
noncomputable def Jb (x:Value) (f:Int→Tok→Option β):Option β:=match x with | .int a b=>f a b | _=>none
theorem Jg {x:Value} {f:Int→Tok→Option β} (k:∀ a b,x = .int a b→Inv (f a b) P):Inv (Jb x f) P:=by
 cases x <;> first | exact k _ _ rfl | exact i0
noncomputable def oNat (x:Int) (f:Nat→Option β):Option β:=match x with | .ofNat a=>f a | _=>none
theorem iNat {x:Int} {f:Nat→Option β} (k:∀ a,x = .ofNat a→Inv (f a) P):Inv (oNat x f) P:=by
 cases x <;> first | exact k _ rfl | exact i0
noncomputable def oTy (x:Value) (f:String→Option β):Option β:=match x with | .type a=>f a | _=>none
theorem iTy {x:Value} {f:String→Option β} (k:∀ a,x = .type a→Inv (f a) P):Inv (oTy x f) P:=by
 cases x <;> first | exact k _ rfl | exact i0
noncomputable def oFo (x:Code) (f:PySem.Expr→Value→List Stmt→List Stmt→Env→Option β):Option β:=match x with | .forLoop a b c d e=>f a b c d e | _=>none
theorem iFo {x:Code} {f:PySem.Expr→Value→List Stmt→List Stmt→Env→Option β} (k:∀ a b c d e,x = .forLoop a b c d e→Inv (f a b c d e) P):Inv (oFo x f) P:=by
 cases x <;> first | exact k _ _ _ _ _ rfl | exact i0
noncomputable def oWh (x:Code) (f:PySem.Expr→List Stmt→List Stmt→Env→Option β):Option β:=match x with | .whileLoop a b c d=>f a b c d | _=>none
theorem iWh {x:Code} {f:PySem.Expr→List Stmt→List Stmt→Env→Option β} (k:∀ a b c d,x = .whileLoop a b c d→Inv (f a b c d) P):Inv (oWh x f) P:=by
 cases x <;> first | exact k _ _ _ _ rfl | exact i0
noncomputable def oCm (x:Code) (f:PySem.Expr→Nat→Value→Value→Env→Option β):Option β:=match x with | .compLoop a b c d e=>f a b c d e | _=>none
theorem iCm {x:Code} {f:PySem.Expr→Nat→Value→Value→Env→Option β} (k:∀ a b c d e,x = .compLoop a b c d e→Inv (f a b c d e) P):Inv (oCm x f) P:=by
 cases x <;> first | exact k _ _ _ _ _ rfl | exact i0
noncomputable def oL0 (x:List α) (f:Option β):Option β:=match x with | []=>f | _=>none
theorem iL0 {x:List α} {f:Option β} (k:x=[]→Inv f P):Inv (oL0 x f) P:=by
 cases x with
 |nil=>exact k rfl
 |cons=>exact i0
noncomputable def oC1 (x:List α) (f:α→List α→Option β):Option β:=match x with | a::b=>f a b | _=>none
theorem iC1 {x:List α} {f:α→List α→Option β} (k:∀ a b,x=a::b→Inv (f a b) P):Inv (oC1 x f) P:=by
 cases x with
 |nil=>exact i0
 |cons a b=>exact k a b rfl
def oL1 (x:List α) (f:α→Option β):Option β:=oC1 x fun a l=>oL0 l (f a)
theorem iL1 {x:List α} {f:α→Option β} (k:∀ a,x=[a]→Inv (f a) P):Inv (oL1 x f) P:=iC1 fun a l e=>iL0 fun e2=>k a (e2 ▸ e)
def oC2 (x:List α) (f:α→α→List α→Option β):Option β:=oC1 x fun a l=>oC1 l (f a)
theorem iC2 {x:List α} {f:α→α→List α→Option β} (k:∀ a b c,x=a::b::c→Inv (f a b c) P):Inv (oC2 x f) P:=iC1 fun a l e=>iC1 fun b c e2=>k a b c (e2 ▸ e)
def oL2 (x:List α) (f:α→α→Option β):Option β:=oC1 x fun a l=>oL1 l (f a)
theorem iL2 {x:List α} {f:α→α→Option β} (k:∀ a b,x=[a,b]→Inv (f a b) P):Inv (oL2 x f) P:=iC1 fun a l e=>iL1 fun b e2=>k a b (e2 ▸ e)
def oC3 (x:List α) (f:α→α→α→List α→Option β):Option β:=oC1 x fun a l=>oC2 l (f a)
theorem iC3 {x:List α} {f:α→α→α→List α→Option β} (k:∀ a b c d,x=a::b::c::d→Inv (f a b c d) P):Inv (oC3 x f) P:=iC1 fun a l e=>iC2 fun b c d e2=>k a b c d (e2 ▸ e)
def oL3 (x:List α) (f:α→α→α→Option β):Option β:=oC1 x fun a l=>oL2 l (f a)
theorem iL3 {x:List α} {f:α→α→α→Option β} (k:∀ a b c,x=[a,b,c]→Inv (f a b c) P):Inv (oL3 x f) P:=iC1 fun a l e=>iL2 fun b c e2=>k a b c (e2 ▸ e)
def oC4 (x:List α) (f:α→α→α→α→List α→Option β):Option β:=oC1 x fun a l=>oC3 l (f a)
theorem iC4 {x:List α} {f:α→α→α→α→List α→Option β} (k:∀ a b c d e,x=a::b::c::d::e→Inv (f a b c d e) P):Inv (oC4 x f) P:=iC1 fun a l e=>iC3 fun b c d g e2=>k a b c d g (e2 ▸ e)
def oL4 (x:List α) (f:α→α→α→α→Option β):Option β:=oC1 x fun a l=>oL3 l (f a)
theorem iL4 {x:List α} {f:α→α→α→α→Option β} (k:∀ a b c d,x=[a,b,c,d]→Inv (f a b c d) P):Inv (oL4 x f) P:=iC1 fun a l e=>iL3 fun b c d e2=>k a b c d (e2 ▸ e)
def oL5 (x:List α) (f:α→α→α→α→α→Option β):Option β:=oC1 x fun a l=>oL4 l (f a)
theorem iL5 {x:List α} {f:α→α→α→α→α→Option β} (k:∀ a b c d e,x=[a,b,c,d,e]→Inv (f a b c d e) P):Inv (oL5 x f) P:=iC1 fun a l e=>iL4 fun b c d g e2=>k a b c d g (e2 ▸ e)
def oL6 (x:List α) (f:α→α→α→α→α→α→Option β):Option β:=oC1 x fun a l=>oL5 l (f a)
theorem iL6 {x:List α} {f:α→α→α→α→α→α→Option β} (k:∀ a b c d e g,x=[a,b,c,d,e,g]→Inv (f a b c d e g) P):Inv (oL6 x f) P:=iC1 fun a l e=>iL5 fun b c d g i e2=>k a b c d g i (e2 ▸ e)
noncomputable def oO (x:Obj) (f:Value→Option Addr→Data→Array (Option Value)→Option β):Option β:=match x with | ⟨a,b,c,d⟩=>f a b c d
theorem iO {x:Obj} {f:Value→Option Addr→Data→Array (Option Value)→Option β} (k:∀ a b c d,x=⟨a,b,c,d⟩→Inv (f a b c d) P):Inv (oO x f) P:=k x.1 x.2 x.3 x.4 rfl
def oK (t:String) (x:Obj) (f:Data→Array (Option Value)→Option β):Option β:=match x with | ⟨a,b,c,d⟩=>oTy a fun s=>oT (decide (s=t)) (match b with | none=>f c d | some _=>none)
theorem iK {t:String} {x:Obj} {f:Data→Array (Option Value)→Option β} (k:∀ c d,x=⟨.type t,none,c,d⟩→Inv (f c d) P):Inv (oK t x f) P:=by
 obtain ⟨a,b,c,d⟩:=x
 refine iTy fun s e=>iT fun q=>?_
 cases b with
 |some=>exact i0
 |none=>exact k c d (by rw [e,of_decide_eq_true q])
noncomputable def oA (x:Array α) (f:List α→Option β):Option β:=match x with | ⟨l⟩=>f l
theorem iA {x:Array α} {f:List α→Option β} (k:∀ l,x=⟨l⟩→Inv (f l) P):Inv (oA x f) P:=k x.1 rfl
noncomputable def oDi (x:Data) (f:Array DictEntry→Nat→Option β):Option β:=match x with | .dict a b=>f a b | _=>none
theorem iDi {x:Data} {f:Array DictEntry→Nat→Option β} (k:∀ a b,x = .dict a b→Inv (f a b) P):Inv (oDi x f) P:=by
 cases x <;> first | exact k _ _ rfl | exact i0
noncomputable def oSq (x:Data) (f:Array Value→Nat→Option β):Option β:=match x with | .seq a b=>f a b | _=>none
theorem iSq {x:Data} {f:Array Value→Nat→Option β} (k:∀ a b,x = .seq a b→Inv (f a b) P):Inv (oSq x f) P:=by
 cases x <;> first | exact k _ _ rfl | exact i0
noncomputable def oFi (x:Data) (f:Array Value→Option β):Option β:=match x with | .fields a=>f a | _=>none
theorem iFi {x:Data} {f:Array Value→Option β} (k:∀ a,x = .fields a→Inv (f a) P):Inv (oFi x f) P:=by
 cases x <;> first | exact k _ rfl | exact i0
noncomputable def oNn (x:Option α) (f:Option β):Option β:=match x with | none=>f | some _=>none
theorem iNn {x:Option α} {f:Option β} (k:x=none→Inv f P):Inv (oNn x f) P:=by
 cases x with
 |none=>exact k rfl
 |some=>exact i0
noncomputable def oPl (x:Data) (f:Option β):Option β:=match x with | .plain=>f | _=>none
theorem iPl {x:Data} {f:Option β} (k:x = .plain→Inv f P):Inv (oPl x f) P:=by
 cases x <;> first | exact k rfl | exact i0
def oKL (t:String) (x:Obj) (f:Data→Option β):Option β:=oK t x fun c d=>oA d fun l=>oL0 l (f c)
theorem iKL {t:String} {x:Obj} {f:Data→Option β} (k:∀ c,x=⟨.type t,none,c,#[]⟩→Inv (f c) P):Inv (oKL t x f) P:=iK fun c d e=>iA fun l e2=>iL0 fun e3=>k c (by rw [e,e2,e3])
def oDl (x:Data) (f:List DictEntry→Nat→Option β):Option β:=oDi x fun a e=>oA a fun l=>f l e
theorem iDl {x:Data} {f:List DictEntry→Nat→Option β} (k:∀ l e,x = .dict ⟨l⟩ e→Inv (f l e) P):Inv (oDl x f) P:=iDi fun a e q=>iA fun l q2=>k l e (q2 ▸ q)
def oSl (x:Data) (f:List Value→Nat→Option β):Option β:=oSq x fun a e=>oA a fun l=>f l e
theorem iSl {x:Data} {f:List Value→Nat→Option β} (k:∀ l e,x = .seq ⟨l⟩ e→Inv (f l e) P):Inv (oSl x f) P:=iSq fun a e q=>iA fun l q2=>k l e (q2 ▸ q)
def oFl (x:Data) (f:List Value→Option β):Option β:=oFi x fun a=>oA a fun l=>f l
theorem iFl {x:Data} {f:List Value→Option β} (k:∀ l,x = .fields ⟨l⟩→Inv (f l) P):Inv (oFl x f) P:=iFi fun a q=>iA fun l q2=>k l (q2 ▸ q)
noncomputable def oPr (x:α×γ) (f:α→γ→Option β):Option β:=match x with | (a,c)=>f a c
theorem iPr {x:α×γ} {f:α→γ→Option β} (k:∀ a c,x=(a,c)→Inv (f a c) P):Inv (oPr x f) P:=k x.1 x.2 rfl
end
noncomputable def mAt:List Prop→Nat→Prop
 |[],_=>True
 |P::l,n=>match n with
  |0=>P
  |n+1=>mAt l n
theorem vV:∀ {l:List Prop},(∀ P∈l,P)→∀ n,mAt l n
 |[],_,_=>trivial
 |P::_,h,0=>h P (.head _)
 |_::_,h,n+1=>vV (fun P q=>h P (.tail _ q)) n
noncomputable def eAt:List (Addr×Addr)→Nat→Prop
 |[],_=>True
 |p::l,n=>match n with
  |0=>p.1=p.2
  |n+1=>eAt l n
theorem yM:∀ {l:List (Addr×Addr)},(∀ p∈l,p.1=p.2)→∀ n,eAt l n
 |[],_,_=>trivial
 |p::_,h,0=>h p (.head _)
 |_::_,h,n+1=>yM (fun p q=>h p (.tail _ q)) n
theorem pr2 {α β:Type} {a a':α} {b b':β} {G:Prop} (h:(a,b)=(a',b')) (k:a=a'→b=b'→G):G:=k (congrArg Prod.fst h) (congrArg Prod.snd h)
theorem pr3 {α0 α1 α2:Type} {a0 b0:α0} {a1 b1:α1} {a2 b2:α2} {G:Prop} (h:(a0,a1,a2)=(b0,b1,b2)) (k:a0=b0→a1=b1→a2=b2→G):G:=pr2 h fun e0 h=>pr2 h fun e1 e2=>k e0 e1 e2
theorem pr4 {α0 α1 α2 α3:Type} {a0 b0:α0} {a1 b1:α1} {a2 b2:α2} {a3 b3:α3} {G:Prop} (h:(a0,a1,a2,a3)=(b0,b1,b2,b3)) (k:a0=b0→a1=b1→a2=b2→a3=b3→G):G:=pr2 h fun e0 h=>pr3 h fun e1 e2 e3=>k e0 e1 e2 e3
theorem pr5 {α0 α1 α2 α3 α4:Type} {a0 b0:α0} {a1 b1:α1} {a2 b2:α2} {a3 b3:α3} {a4 b4:α4} {G:Prop} (h:(a0,a1,a2,a3,a4)=(b0,b1,b2,b3,b4)) (k:a0=b0→a1=b1→a2=b2→a3=b3→a4=b4→G):G:=pr2 h fun e0 h=>pr4 h fun e1 e2 e3 e4=>k e0 e1 e2 e3 e4
theorem pr6 {α0 α1 α2 α3 α4 α5:Type} {a0 b0:α0} {a1 b1:α1} {a2 b2:α2} {a3 b3:α3} {a4 b4:α4} {a5 b5:α5} {G:Prop} (h:(a0,a1,a2,a3,a4,a5)=(b0,b1,b2,b3,b4,b5)) (k:a0=b0→a1=b1→a2=b2→a3=b3→a4=b4→a5=b5→G):G:=pr2 h fun e0 h=>pr5 h fun e1 e2 e3 e4 e5=>k e0 e1 e2 e3 e4 e5
theorem pr7 {α0 α1 α2 α3 α4 α5 α6:Type} {a0 b0:α0} {a1 b1:α1} {a2 b2:α2} {a3 b3:α3} {a4 b4:α4} {a5 b5:α5} {a6 b6:α6} {G:Prop} (h:(a0,a1,a2,a3,a4,a5,a6)=(b0,b1,b2,b3,b4,b5,b6)) (k:a0=b0→a1=b1→a2=b2→a3=b3→a4=b4→a5=b5→a6=b6→G):G:=pr2 h fun e0 h=>pr6 h fun e1 e2 e3 e4 e5 e6=>k e0 e1 e2 e3 e4 e5 e6
theorem pr8 {α0 α1 α2 α3 α4 α5 α6 α7:Type} {a0 b0:α0} {a1 b1:α1} {a2 b2:α2} {a3 b3:α3} {a4 b4:α4} {a5 b5:α5} {a6 b6:α6} {a7 b7:α7} {G:Prop} (h:(a0,a1,a2,a3,a4,a5,a6,a7)=(b0,b1,b2,b3,b4,b5,b6,b7)) (k:a0=b0→a1=b1→a2=b2→a3=b3→a4=b4→a5=b5→a6=b6→a7=b7→G):G:=pr2 h fun e0 h=>pr7 h fun e1 e2 e3 e4 e5 e6 e7=>k e0 e1 e2 e3 e4 e5 e6 e7
theorem pr9 {α0 α1 α2 α3 α4 α5 α6 α7 α8:Type} {a0 b0:α0} {a1 b1:α1} {a2 b2:α2} {a3 b3:α3} {a4 b4:α4} {a5 b5:α5} {a6 b6:α6} {a7 b7:α7} {a8 b8:α8} {G:Prop} (h:(a0,a1,a2,a3,a4,a5,a6,a7,a8)=(b0,b1,b2,b3,b4,b5,b6,b7,b8)) (k:a0=b0→a1=b1→a2=b2→a3=b3→a4=b4→a5=b5→a6=b6→a7=b7→a8=b8→G):G:=pr2 h fun e0 h=>pr8 h fun e1 e2 e3 e4 e5 e6 e7 e8=>k e0 e1 e2 e3 e4 e5 e6 e7 e8
noncomputable def isFn (f v:Value):Bool:=match f with
 |.ref a=>match v with
  |.ref b=>Nat.beq a b
  |_=>false
 |.builtin x=>match v with
  |.builtin y=>decide (x=y)
  |_=>false
 |_=>false
theorem isFn_eq {f v:Value} (h:isFn f v=true):v=f:=by
 cases f with
 |ref a=>cases v <;> first | exact congrArg Value.ref (Nat.eq_of_beq_eq_true h).symm | exact absurd h Bool.false_ne_true
 |builtin a=>cases v <;> first | exact congrArg Value.builtin (of_decide_eq_true h).symm | exact absurd h Bool.false_ne_true
 |_=>exact absurd h Bool.false_ne_true
def oCa {β:Type} (f:Value) (x:Code) (k:List Value→Option β):Option β:=match x with
 |.call v a=>oT (isFn f v) (match a with | ⟨args,kw⟩=>oL0 kw (k args))
 |_=>none
theorem iCa {β:Type} {P:β→Prop} {f:Value} {x:Code} {g:List Value→Option β} (k:∀ args,x = .call f ⟨args,[]⟩→Inv (g args) P):Inv (oCa f x g) P:=by
 cases x with
 |call v a =>
  obtain ⟨args,kw⟩:=a
  exact iT fun q=>iL0 fun e=>k args (by rw [isFn_eq q,e])
 |_=>exact i0
abbrev PW:Program:=PySem.Challenge.pw_pq0640_01
noncomputable def DZ:Code→Sem Fin:=PySem.W.ZFast.zw11892475500146522536 PySem.W.ZFast.tableZ
theorem DZ_eq:(fun c=>denote table c)=DZ:=by
 show denote table=_
 rw [PySem.W.ZFast.ze11892475500146522536,PySem.W.ZFast.tableZ_eq]
 rfl
theorem DZ_at (c:Code):DZ c=denote table c:=(congrFun DZ_eq c).symm
noncomputable def QL (fd:FuncData) (body:List Stmt) (a:Addr) (args:Args):Sem Fin :=
 PySem.W.R.bindR (PySem.W.ZFast.zw9782568553167038054 fd args) fun binds =>
  PySem.W.R.bindR (PySem.W.ZFast.zw11113344188204177931 fd.scope fd.globals fd.closure binds (fd.qualname ++ ".<locals>.") (some a) fd.code none fd.builtins) fun env =>
   .pure (.again (.func body env))
theorem JL (fd:FuncData) (body:List Stmt) (a:Addr) (args:Args):YO fd body a args=QL fd body a args:=by
 unfold QL
 rw [←PySem.W.ZFast.ze9782568553167038054,←PySem.W.ZFast.ze11113344188204177931,←PySem.W.R.bindR_eq]
 rfl
def VN (C:Cfg) (fuel:Nat) (f:Addr) (args:List Value) (m:List En) (n tk:Nat) (tr:Tr) (os:Nat→Ora) (bs:Nat→Nat):Out :=
 run C fuel (.call (.ref f) ⟨args,[]⟩) .base (QL (fdAt C.st f) (bodyOf (fdAt C.st f)) f ⟨args,[]⟩) m n tk 0 tr os bs
section
variable {prog:Program} {w:World} {A:Around} {R:Result→Shared→Prop} {C:Cfg} {h₀:Heap} {ws:List Addr} {g:Array GenState} {d:Drawn} {os:OsState}
theorem fn_ok (F:Fit prog w C A h₀ ws) {fuel:Nat} {f:Addr} {args:List Value} {m:List En} {n tk:Nat} {tr:Tr} {h:Heap} (hf:vH C.st f=true) (D:Rp C h₀ ws m n h)
  (H:∀ o b,qU (QM C h₀ ws R g d os) (VN C fuel f args m n tk tr o b)):codeAny (model prog w) A (.call (.ref f) ⟨args,[]⟩) R ⟨h,g,d,tk,os⟩:=by
 have hr:A.depth < recursionLimit:=Nat.lt_of_le_of_lt (Nat.le_add_right _ _) F.depth
 unfold vH at hf
 unfold VN fdAt bodyOf at H
 split at hf
 ·rename_i c dd fd sl ho
  rw [ho] at H
  simp only [Bool.and_eq_true,Bool.not_eq_true'] at hf
  obtain ⟨⟨⟨h1,h2⟩,h3⟩,h4⟩:=hf
  cases hb:fd.body with
  |expr e=>rw [hb] at h3;cases h3
  |stmts body =>
   simp only [hb] at H
   refine call_start (body:=body) hr (D.stat _ _ ho) rfl h1 h2 hb (codeOk_rec D.stat h4) ?_
   rw [JL]
   exact run_ok F fuel _ .base _ m n tk 0 tr h D H
 ·cases hf
theorem code_ok (F:Fit prog w C A h₀ ws) {fuel:Nat} {c:Code} (hu:A.units+c.cUnits < cLine) (hc:∀ p∈C.chk C.fr c,p.1=p.2) {m:List En} {n tk:Nat} {tr:Tr} {h:Heap} (D:Rp C h₀ ws m n h)
  (H:∀ o b,qU (QM C h₀ ws R g d os) (run C fuel c .base (C.D C.fr c) m n tk 0 tr o b)):codeAny (model prog w) A c R ⟨h,g,d,tk,os⟩:=by
 exact Vq (own_sub (fr:=C.fr) (F.D _ c hc) F.fr hu (run_ok F fuel c .base (C.D C.fr c) m n tk 0 tr h D H))
end
noncomputable def jb (w:World) (b1 b2 b3:Bool):World:={w with params:={w.params with followText:=fun s=>match decide (s = "special-get-raises") with
 |true=>b1
 |false=>match decide (s = "comprehension-iter-twice") with
  |true=>b2
  |false=>match decide (s = "for-iterable-display-folded") with
   |true=>b3
   |false=>w.params.followText s}}
theorem setF_self (w:World):jb w (w.params.followText "special-get-raises") (w.params.followText "comprehension-iter-twice") (w.params.followText "for-iterable-display-folded")=w:=by
 have e:(fun s=>match decide (s = "special-get-raises") with
  |true=>w.params.followText "special-get-raises"
  |false=>match decide (s = "comprehension-iter-twice") with
   |true=>w.params.followText "comprehension-iter-twice"
   |false=>match decide (s = "for-iterable-display-folded") with
    |true=>w.params.followText "for-iterable-display-folded"
    |false=>w.params.followText s)=w.params.followText:=by
  funext s
  by_cases h1:s = "special-get-raises"
  ·subst h1;simp
  ·rw [decide_eq_false h1]
   by_cases h2:s = "comprehension-iter-twice"
   ·subst h2;simp
   ·rw [decide_eq_false h2]
    by_cases h3:s = "for-iterable-display-folded"
    ·subst h3;simp
    ·rw [decide_eq_false h3]
 obtain ⟨dr,pa⟩:=w
 unfold jb
 dsimp only at e ⊢
 rw [e]
noncomputable def runT (den:Code→Sem Fin) (p:Program) (w:World) (n₀:Nat) (ann:Option Value):Nat→SharedT→Thread→Option SharedT
 |0,_,_=>none
 |n+1,s,t=>match through t with
  |true=>some s
  |false=>match stepOk n₀ ann t with
   |false=>none
   |true=>match stepT den p w s t with
    |some (s',t')=>runT den p w n₀ ann n s' t'
    |none=>none
theorem runT_of {tb:String→Option Builtin} {p:Program} {w:World} {n₀:Nat} {ann:Option Value}:∀ {n:Nat} {s s':SharedT} {t:Thread},runT (denote tb) p w n₀ ann n s t=some s'→topRun tb p w n₀ ann n s.abs t=some s'.abs
 |0,_,_,_,h=>by cases h
 |n+1,s,s',t,h=>by
  unfold runT at h
  unfold topRun
  cases he:through t with
  |true=>rw [he] at h;cases h;rfl
  |false =>
   rw [he] at h
   cases hk:stepOk n₀ ann t with
   |false=>rw [hk] at h;cases h
   |true =>
    rw [hk] at h
    cases hs:stepT (denote tb) p w s t with
    |none=>rw [hs] at h;cases h
    |some r=>obtain ⟨s₂,t₂⟩:=r;rw [hs] at h;rw [stepT_spec hs];exact runT_of h
noncomputable def DX:Code→Sem Fin:=PySem.W.Fast.tw11892475500146522536 PySem.W.Fast.tw14364793385576792824
theorem DX_eq:denote treeTable=DX:=by
 rw [PySem.W.Fast.te11892475500146522536,PySem.W.Fast.te14364793385576792824]
 rfl
noncomputable def runX (p:Program) (w:World) (n₀:Nat) (ann:Option Value):Nat→SharedT→Thread→Option SharedT
 |0,_,_=>none
 |n+1,s,t=>match through t with
  |true=>some s
  |false=>match PySem.W.Fast.tw6613529449190102663 n₀ ann t with
   |false=>none
   |true=>match PySem.W.Fast.tw10156331382660048174 DX p w s t with
    |some (s',t')=>runX p w n₀ ann n s' t'
    |none=>none
theorem runX_eq {p:Program} {w:World} {n₀:Nat} {ann:Option Value}:∀ {n:Nat} {s:SharedT} {t:Thread},runX p w n₀ ann n s t=runT (denote treeTable) p w n₀ ann n s t
 |0,_,_=>rfl
 |n+1,s,t=>by
  unfold runX runT
  rw [←PySem.W.Fast.te6613529449190102663,←PySem.W.Fast.te10156331382660048174,DX_eq]
  simp only [runX_eq (n:=n),DX_eq]
noncomputable def bootT (P:Params):BT := .node (boot_o_0 P) (.node (boot_o_1 P) (.node (boot_o_3 P) (.node (boot_o_7 P) .nil .nil) .nil) (.node (boot_o_5 P) (.node (boot_o_9 P) .nil .nil) .nil)) (.node (boot_o_2 P) (.node (boot_o_4 P) (.node (boot_o_8 P) .nil .nil) .nil) (.node (boot_o_6 P) (.node (boot_o_10 P) .nil .nil) .nil))
def S0 (w:World) (os:OsState):SharedT:=⟨bootT w.params,11,(boot_heap w.params).life,#[],boot_drawn,boot_toks,os⟩
theorem boot_abs (w:World) (os:OsState):(S0 w os).abs=⟨boot_heap w.params,#[],boot_drawn,boot_toks,os⟩:=by kernel_rfl
noncomputable def S (l:List Nat):Str:=⟨⟨l⟩⟩
abbrev sx0:Str:=S [47,99,108,97,105,109,47,99,117,116,46,112,121]
abbrev sx1:Str:=S [108,101,100,103,101,114,115,112,101,97,107,46,114,101,97,100,101,114]
abbrev sx2:Str:=S [108,101,100,103,101,114,115,112,101,97,107,46,114,101,97,100,100,97,116,97]
abbrev sx3:Str:=S [108,101,100,103,101,114,115,112,101,97,107,46,115,104,111,119,105,110,103]
abbrev sx4:Str:=S [108,101,100,103,101,114,115,112,101,97,107,46,114,101,102,101,114,101,110,99,101,115]
abbrev sx5:Str:=S [108,97,119,95,112,113,48,54,52,48,95,48,49]
abbrev sx6:Str:=S [111,112,101,114,97,110,100,95,98,101,104,105,110,100,95,119,111,114,100]
abbrev sx7:Str:=S [114,101,112,108,97,99,101,100,95,114,111,119,115]
abbrev sx8:Str:=S [95,108,97,119,95,114,101,112,108,97,99,101,100]
abbrev sx9:Str:=S [108,101,100,103,101,114,115,112,101,97,107,46,114,101,97,100,97,114,105,116,104]
abbrev sx10:Str:=S [116,97,108,108,105,101,100,95,114,111,119,115]
abbrev sx11:Str:=S [95,108,97,119,95,105,115,95,114,101,102,117,115,101,100]
abbrev sx12:Str:=S [95,108,97,119,95,116,97,108,108,105,101,100]
abbrev sx13:Str:=S [71,114,97,109,109,97,114,70,97,117,108,116]
abbrev sx14:Str:=S [76,101,100,103,101,114,69,114,114,111,114]
abbrev sx15:Str:=S [98,101,103,105,110,115,95,111,112,101,114,97,110,100]
abbrev sx16:Str:=S [111,99,116,101,116,115,95,111,102,95,116,101,120,116]
abbrev sx17:Str:=S [108,101,100,103,101,114,115,112,101,97,107,46,101,114,114,111,114,115]
abbrev sx18:Str:=S [108,101,100,103,101,114,115,112,101,97,107,46,116,111,107,101,110,115]
abbrev sx19:Str:=S [115,104,111,119,95,114,101,112,108,97,99,101,100]
abbrev sx20:Str:=S [101,120,99,104,97,110,103,101,95,104,101,114,101]
abbrev sx21:Str:=S [115,104,111,119,110,95,111,99,116,101,116,115]
abbrev sx22:Str:=S [115,104,111,119,95,111,112,101,114,97,110,100]
abbrev sx23:Str:=S [111,112,101,114,97,110,100,95,116,101,120,116]
abbrev sx24:Str:=S [115,104,111,119,95,116,97,108,108,105,101,100]
abbrev sx25:Str:=S [115,104,111,119,95,105,110,115,112,101,99,116]
abbrev sx26:Str:=S [111,112,101,114,97,110,100,95,104,101,114,101]
abbrev sx27:Str:=S [99,111,117,110,116,101,100,95,114,111,119,115]
abbrev sx28:Str:=S [105,115,95,112,97,114,116,95,110,101,120,116]
abbrev sx29:Str:=S [114,101,97,100,95,111,112,101,114,97,110,100]
abbrev sx30:Str:=S [114,101,97,100,95,105,110,115,112,101,99,116]
abbrev sx31:Str:=S [119,105,100,116,104,115,95,109,101,101,116]
abbrev sx32:Str:=S [105,115,95,114,101,115,101,114,118,101,100]
abbrev sx33:Str:=S [114,101,97,100,95,102,105,103,117,114,101]
abbrev sx34:Str:=S [115,104,111,119,95,98,111,117,110,100,115]
abbrev sx35:Str:=S [98,101,103,105,110,115,95,116,101,120,116]
abbrev sx36:Str:=S [98,111,117,110,100,115,95,104,101,114,101]
abbrev sx37:Str:=S [111,112,101,110,115,95,99,111,117,110,116]
abbrev sx38:Str:=S [95,108,97,119,95,114,101,97,100]
abbrev sx39:Str:=S [95,108,97,119,95,98,111,117,110,100,115]
abbrev sx40:Str:=S [115,104,111,119,95,116,101,120,116,115]
abbrev sx41:Str:=S [119,111,114,100,95,97,104,101,97,100]
abbrev sx42:Str:=S [95,108,97,119,95,112,101,110]
abbrev sx43:Str:=S [76,101,100,103,101,114,69,114,114,111,114,46,95,95,105,110,105,116,95,95]
abbrev sx44:Str:=S [115,104,111,119,95,107,105,110,100]
abbrev sx45:Str:=S [116,101,120,116,95,104,101,114,101]
abbrev sx46:Str:=S [95,108,97,119,95,100,114,97,119]
abbrev sx47:Str:=S [95,108,97,119,95,112,105,99,107]
abbrev sx48:Str:=S [115,104,111,119,95,114,101,102]
abbrev sx49:Str:=S [114,101,102,95,116,101,120,116]
abbrev sx50:Str:=S [114,101,102,95,104,101,114,101]
abbrev sx51:Str:=S [114,101,97,100,95,114,101,102]
abbrev sx52:Str:=S [82,101,97,100,101,114]
abbrev sx53:Str:=S [82,101,97,100,101,114,46,105,115,95,110,117,109,98,101,114]
abbrev sx54:Str:=S [115,111,109,101,95,111,102]
abbrev sx55:Str:=S [100,101,99,105,109,97,108]
abbrev sx56:Str:=S [98,121,95,104,101,114,101]
abbrev sx57:Str:=S [84,111,107,101,110]
abbrev sx58:Str:=S [113,117,111,116,101,100]
abbrev sx59:Str:=S [106,111,105,110,101,100]
def E (P:Params) (l:List Nat) (t:Nat) (v:Value):DictEntry:=⟨PyData.keyHash P (S l),.str (S l) t,v⟩
noncomputable def nthS:List Stmt→Nat→Stmt
 |[],_ => .Pass ⟨0,0,0,0⟩
 |s::l,n=>match n with
  |0=>s
  |n+1=>nthS l n
def stT (n:Nat):Stmt:=nthS PW.main.body n
def strT (n:Nat):Str:=match stT n with
 |.Assign _ (.Constant (.str x) _ _) _=>x
 |_=>Str.empty
def stC (n k:Nat):Stmt:=match nthS PW.main.body n with
 |.ClassDef _ _ _ b _ _ _ _ _ _ _=>nthS b k
 |s=>s
noncomputable def fnD (s:Stmt) (q:Str) (code dflt mod doc ct kwd:Value) (globals builtins:Addr):Data:=match s with
 |.FunctionDef name args body _ _ _ scope _ _ _ => .func {name,qualname:=q,params:=args,body := .stmts body,scope,globals,closure:=[],defaults:=dflt,kwdefaults:=kwd,doc,pyModule:=mod,code,closureTuple:=ct,builtins}
 |_ => .plain
def cO (n q:Str) (t:Nat) (l a b c g:Int) (p:Nat) (o:Value) (f:Int) (e:Nat) (x y z r:Value):Obj:=⟨.type "code",none,.fields ⟨[.str n t,.str q (t+1),.str sx0 (t+2),.int l 0,.int a 0,.int b 0,.int c 0,.int g 0,.ref p,o,.int f 0,.ref e,x,y,z,r,.int (t+3) 0,.int l 0,.str sx0 (t+4)]⟩,#[]⟩
noncomputable def fO (d:Data):Obj:=⟨.type "function",none,d,#[]⟩
def k_0 (P:Params):Obj:=⟨(.type "dict"),none,(.dict ⟨[E P [95,95,110,97,109,101,95,95] 1 (.str (S [98,117,105,108,116,105,110,115]) 160),E P [95,95,100,111,99,95,95] 2 (.builtin "builtins.__doc__:str#opaque"),E P [95,95,112,97,99,107,97,103,101,95,95] 3 (.builtin "builtins.__package__:str#opaque"),E P [95,95,108,111,97,100,101,114,95,95] 4 (.builtin "builtins.__loader__:shared#opaque"),E P [95,95,115,112,101,99,95,95] 5 (.builtin "builtins.__spec__#opaque"),E P [95,95,98,117,105,108,100,95,99,108,97,115,115,95,95] 6 (.builtin "__build_class__"),E P [95,95,105,109,112,111,114,116,95,95] 7 (.builtin "__import__"),E P [97,98,115] 8 (.builtin "abs"),E P [97,108,108] 9 (.builtin "all"),E P [97,110,121] 10 (.builtin "any"),E P [97,115,99,105,105] 11 (.builtin "ascii"),E P [98,105,110] 12 (.builtin "bin"),E P [98,114,101,97,107,112,111,105,110,116] 13 (.builtin "breakpoint"),E P [99,97,108,108,97,98,108,101] 14 (.builtin "callable"),E P [99,104,114] 15 (.builtin "chr"),E P [99,111,109,112,105,108,101] 16 (.builtin "compile"),E P [100,101,108,97,116,116,114] 17 (.builtin "delattr"),E P [100,105,114] 18 (.builtin "dir"),E P [100,105,118,109,111,100] 19 (.builtin "divmod"),E P [101,118,97,108] 20 (.builtin "eval"),E P [101,120,101,99] 21 (.builtin "exec"),E P [102,111,114,109,97,116] 22 (.builtin "format"),E P [103,101,116,97,116,116,114] 23 (.builtin "getattr"),E P [103,108,111,98,97,108,115] 24 (.builtin "globals"),E P [104,97,115,97,116,116,114] 25 (.builtin "hasattr"),E P [104,97,115,104] 26 (.builtin "hash"),E P [104,101,120] 27 (.builtin "hex"),E P [105,100] 28 (.builtin "id"),E P [105,110,112,117,116] 29 (.builtin "input"),E P [105,115,105,110,115,116,97,110,99,101] 30 (.builtin "isinstance"),E P [105,115,115,117,98,99,108,97,115,115] 31 (.builtin "issubclass"),E P [105,116,101,114] 32 (.builtin "iter"),E P [97,105,116,101,114] 33 (.builtin "aiter"),E P [108,101,110] 34 (.builtin "len"),E P [108,111,99,97,108,115] 35 (.builtin "locals"),E P [109,97,120] 36 (.builtin "max"),E P [109,105,110] 37 (.builtin "min"),E P [110,101,120,116] 38 (.builtin "next"),E P [97,110,101,120,116] 39 (.builtin "anext"),E P [111,99,116] 40 (.builtin "oct"),E P [111,114,100] 41 (.builtin "ord"),E P [112,111,119] 42 (.builtin "pow"),E P [112,114,105,110,116] 43 (.builtin "print"),E P [114,101,112,114] 44 (.builtin "repr"),E P [114,111,117,110,100] 45 (.builtin "round"),E P [115,101,116,97,116,116,114] 46 (.builtin "setattr"),E P [115,111,114,116,101,100] 47 (.builtin "sorted"),E P [115,117,109] 48 (.builtin "sum"),E P [118,97,114,115] 49 (.builtin "vars"),E P [78,111,110,101] 50 .none,E P [69,108,108,105,112,115,105,115] 51 .ellipsis,E P [78,111,116,73,109,112,108,101,109,101,110,116,101,100] 52 .notImplemented,E P [70,97,108,115,101] 53 (.bool false),E P [84,114,117,101] 54 (.bool true),E P [98,111,111,108] 55 (.type "bool"),E P [109,101,109,111,114,121,118,105,101,119] 56 (.type "memoryview"),E P [98,121,116,101,97,114,114,97,121] 57 (.type "bytearray"),E P [98,121,116,101,115] 58 (.type "bytes"),E P [99,108,97,115,115,109,101,116,104,111,100] 59 (.type "classmethod"),E P [99,111,109,112,108,101,120] 60 (.type "complex"),E P [100,105,99,116] 61 (.type "dict"),E P [101,110,117,109,101,114,97,116,101] 62 (.type "enumerate"),E P [102,105,108,116,101,114] 63 (.type "filter"),E P [102,108,111,97,116] 64 (.type "float"),E P [102,114,111,122,101,110,115,101,116] 65 (.type "frozenset"),E P [112,114,111,112,101,114,116,121] 66 (.type "property"),E P [105,110,116] 67 (.type "int"),E P [108,105,115,116] 68 (.type "list"),E P [109,97,112] 69 (.type "map"),E P [111,98,106,101,99,116] 70 (.type "object"),E P [114,97,110,103,101] 71 (.type "range"),E P [114,101,118,101,114,115,101,100] 72 (.type "reversed"),E P [115,101,116] 73 (.type "set"),E P [115,108,105,99,101] 74 (.type "slice"),E P [115,116,97,116,105,99,109,101,116,104,111,100] 75 (.type "staticmethod"),E P [115,116,114] 76 (.type "str"),E P [115,117,112,101,114] 77 (.type "super"),E P [116,117,112,108,101] 78 (.type "tuple"),E P [116,121,112,101] 79 (.type "type"),E P [122,105,112] 80 (.type "zip"),E P [95,95,100,101,98,117,103,95,95] 81 (.bool true),E P [66,97,115,101,69,120,99,101,112,116,105,111,110] 82 (.type "BaseException"),E P [66,97,115,101,69,120,99,101,112,116,105,111,110,71,114,111,117,112] 83 (.type "BaseExceptionGroup"),E P [69,120,99,101,112,116,105,111,110] 84 (.type "Exception"),E P [71,101,110,101,114,97,116,111,114,69,120,105,116] 85 (.type "GeneratorExit"),E P [75,101,121,98,111,97,114,100,73,110,116,101,114,114,117,112,116] 86 (.type "KeyboardInterrupt"),E P [83,121,115,116,101,109,69,120,105,116] 87 (.type "SystemExit"),E P [65,114,105,116,104,109,101,116,105,99,69,114,114,111,114] 88 (.type "ArithmeticError"),E P [65,115,115,101,114,116,105,111,110,69,114,114,111,114] 89 (.type "AssertionError"),E P [65,116,116,114,105,98,117,116,101,69,114,114,111,114] 90 (.type "AttributeError"),E P [66,117,102,102,101,114,69,114,114,111,114] 91 (.type "BufferError"),E P [69,79,70,69,114,114,111,114] 92 (.type "EOFError"),E P [73,109,112,111,114,116,69,114,114,111,114] 93 (.type "ImportError"),E P [76,111,111,107,117,112,69,114,114,111,114] 94 (.type "LookupError"),E P [77,101,109,111,114,121,69,114,114,111,114] 95 (.type "MemoryError"),E P [78,97,109,101,69,114,114,111,114] 96 (.type "NameError"),E P [79,83,69,114,114,111,114] 97 (.type "OSError"),E P [82,101,102,101,114,101,110,99,101,69,114,114,111,114] 98 (.type "ReferenceError"),E P [82,117,110,116,105,109,101,69,114,114,111,114] 99 (.type "RuntimeError"),E P [83,116,111,112,65,115,121,110,99,73,116,101,114,97,116,105,111,110] 100 (.type "StopAsyncIteration"),E P [83,116,111,112,73,116,101,114,97,116,105,111,110] 101 (.type "StopIteration"),E P [83,121,110,116,97,120,69,114,114,111,114] 102 (.type "SyntaxError"),E P [83,121,115,116,101,109,69,114,114,111,114] 103 (.type "SystemError"),E P [84,121,112,101,69,114,114,111,114] 104 (.type "TypeError"),E P [86,97,108,117,101,69,114,114,111,114] 105 (.type "ValueError"),E P [87,97,114,110,105,110,103] 106 (.type "Warning"),E P [70,108,111,97,116,105,110,103,80,111,105,110,116,69,114,114,111,114] 107 (.type "FloatingPointError"),E P [79,118,101,114,102,108,111,119,69,114,114,111,114] 108 (.type "OverflowError"),E P [90,101,114,111,68,105,118,105,115,105,111,110,69,114,114,111,114] 109 (.type "ZeroDivisionError"),E P [66,121,116,101,115,87,97,114,110,105,110,103] 110 (.type "BytesWarning"),E P [68,101,112,114,101,99,97,116,105,111,110,87,97,114,110,105,110,103] 111 (.type "DeprecationWarning"),E P [69,110,99,111,100,105,110,103,87,97,114,110,105,110,103] 112 (.type "EncodingWarning"),E P [70,117,116,117,114,101,87,97,114,110,105,110,103] 113 (.type "FutureWarning"),E P [73,109,112,111,114,116,87,97,114,110,105,110,103] 114 (.type "ImportWarning"),E P [80,101,110,100,105,110,103,68,101,112,114,101,99,97,116,105,111,110,87,97,114,110,105,110,103] 115 (.type "PendingDeprecationWarning"),E P [82,101,115,111,117,114,99,101,87,97,114,110,105,110,103] 116 (.type "ResourceWarning"),E P [82,117,110,116,105,109,101,87,97,114,110,105,110,103] 117 (.type "RuntimeWarning"),E P [83,121,110,116,97,120,87,97,114,110,105,110,103] 118 (.type "SyntaxWarning"),E P [85,110,105,99,111,100,101,87,97,114,110,105,110,103] 119 (.type "UnicodeWarning"),E P [85,115,101,114,87,97,114,110,105,110,103] 120 (.type "UserWarning"),E P [66,108,111,99,107,105,110,103,73,79,69,114,114,111,114] 121 (.type "BlockingIOError"),E P [67,104,105,108,100,80,114,111,99,101,115,115,69,114,114,111,114] 122 (.type "ChildProcessError"),E P [67,111,110,110,101,99,116,105,111,110,69,114,114,111,114] 123 (.type "ConnectionError"),E P [70,105,108,101,69,120,105,115,116,115,69,114,114,111,114] 124 (.type "FileExistsError"),E P [70,105,108,101,78,111,116,70,111,117,110,100,69,114,114,111,114] 125 (.type "FileNotFoundError"),E P [73,110,116,101,114,114,117,112,116,101,100,69,114,114,111,114] 126 (.type "InterruptedError"),E P [73,115,65,68,105,114,101,99,116,111,114,121,69,114,114,111,114] 127 (.type "IsADirectoryError"),E P [78,111,116,65,68,105,114,101,99,116,111,114,121,69,114,114,111,114] 128 (.type "NotADirectoryError"),E P [80,101,114,109,105,115,115,105,111,110,69,114,114,111,114] 129 (.type "PermissionError"),E P [80,114,111,99,101,115,115,76,111,111,107,117,112,69,114,114,111,114] 130 (.type "ProcessLookupError"),E P [84,105,109,101,111,117,116,69,114,114,111,114] 131 (.type "TimeoutError"),E P [73,110,100,101,110,116,97,116,105,111,110,69,114,114,111,114] 132 (.type "IndentationError"),E P [95,73,110,99,111,109,112,108,101,116,101,73,110,112,117,116,69,114,114,111,114] 133 (.type "_IncompleteInputError"),E P [73,110,100,101,120,69,114,114,111,114] 134 (.type "IndexError"),E P [75,101,121,69,114,114,111,114] 135 (.type "KeyError"),E P [77,111,100,117,108,101,78,111,116,70,111,117,110,100,69,114,114,111,114] 136 (.type "ModuleNotFoundError"),E P [78,111,116,73,109,112,108,101,109,101,110,116,101,100,69,114,114,111,114] 137 (.type "NotImplementedError"),E P [80,121,116,104,111,110,70,105,110,97,108,105,122,97,116,105,111,110,69,114,114,111,114] 138 (.type "PythonFinalizationError"),E P [82,101,99,117,114,115,105,111,110,69,114,114,111,114] 139 (.type "RecursionError"),E P [85,110,98,111,117,110,100,76,111,99,97,108,69,114,114,111,114] 140 (.type "UnboundLocalError"),E P [85,110,105,99,111,100,101,69,114,114,111,114] 141 (.type "UnicodeError"),E P [66,114,111,107,101,110,80,105,112,101,69,114,114,111,114] 142 (.type "BrokenPipeError"),E P [67,111,110,110,101,99,116,105,111,110,65,98,111,114,116,101,100,69,114,114,111,114] 143 (.type "ConnectionAbortedError"),E P [67,111,110,110,101,99,116,105,111,110,82,101,102,117,115,101,100,69,114,114,111,114] 144 (.type "ConnectionRefusedError"),E P [67,111,110,110,101,99,116,105,111,110,82,101,115,101,116,69,114,114,111,114] 145 (.type "ConnectionResetError"),E P [84,97,98,69,114,114,111,114] 146 (.type "TabError"),E P [85,110,105,99,111,100,101,68,101,99,111,100,101,69,114,114,111,114] 147 (.type "UnicodeDecodeError"),E P [85,110,105,99,111,100,101,69,110,99,111,100,101,69,114,114,111,114] 148 (.type "UnicodeEncodeError"),E P [85,110,105,99,111,100,101,84,114,97,110,115,108,97,116,101,69,114,114,111,114] 149 (.type "UnicodeTranslateError"),E P [69,120,99,101,112,116,105,111,110,71,114,111,117,112] 150 (.type "ExceptionGroup"),E P [69,110,118,105,114,111,110,109,101,110,116,69,114,114,111,114] 151 (.type "OSError"),E P [73,79,69,114,114,111,114] 152 (.type "OSError"),E P [111,112,101,110] 153 (.builtin "open"),E P [113,117,105,116] 154 (.builtin "builtins.quit#opaque"),E P [101,120,105,116] 155 (.builtin "builtins.exit#opaque"),E P [99,111,112,121,114,105,103,104,116] 156 (.builtin "builtins.copyright#opaque"),E P [99,114,101,100,105,116,115] 157 (.builtin "builtins.credits#opaque"),E P [108,105,99,101,110,115,101] 158 (.builtin "builtins.license#opaque"),E P [104,101,108,112] 159 (.builtin "builtins.help#opaque")]⟩ 159),#[]⟩
def k_2 (P:Params):Obj:=⟨.none,none,(.dict ⟨[E P [116,121,112,101,46,95,95,115,117,98,99,108,97,115,115,101,115,95,95,46,69,120,99,101,112,116,105,111,110,46,48] 232 (.int (47) 0),E P [116,121,112,101,46,95,95,115,117,98,99,108,97,115,115,101,115,95,95,46,69,120,99,101,112,116,105,111,110,46,110] 233 (.int (1) 0)]⟩ 2),#[]⟩
def k_3 (P:Params):Obj:=⟨(.type "dict"),none,(.dict ⟨[E P [95,95,110,97,109,101,95,95] 165 (.str sx5 1271),E P [95,95,100,111,99,95,95] 166 .none,E P [95,95,112,97,99,107,97,103,101,95,95] 167 .none,E P [95,95,108,111,97,100,101,114,95,95] 168 (.builtin "__main__.__loader__#opaque"),E P [95,95,115,112,101,99,95,95] 169 .none,E P [95,95,97,110,110,111,116,97,116,105,111,110,115,95,95] 170 (.ref 6),E P [95,95,98,117,105,108,116,105,110,115,95,95] 171 (.ref 4),E P [95,95,102,105,108,101,95,95] 173 (.str sx0 172),E P [95,95,99,97,99,104,101,100,95,95] 174 .none,E P [95,119,97,108,108] 193 (.ref 21),E P [76,101,100,103,101,114,69,114,114,111,114] 235 (.ref 47),E P [84,111,107,101,110,70,97,117,108,116] 251 (.ref 60),E P [71,114,97,109,109,97,114,70,97,117,108,116] 267 (.ref 72),E P [70,73,71,85,82,69,83] 271 (.str (S [48,49,50,51,52,53,54,55,56,57]) 270),E P [99,117,116,95,113,117,111,116,105,101,110,116] 279 (.ref 81),E P [100,101,99,105,109,97,108] 288 (.ref 89),E P [110,101,103,97,116,101,100] 295 (.ref 96),E P [117,110,105,116,115,95,97,116] 306 (.ref 103),E P [105,115,95,119,104,111,108,101] 313 (.ref 110),E P [119,104,111,108,101,95,111,102] 320 (.ref 117),E P [119,111,114,116,104,95,111,102] 329 (.ref 124),E P [114,101,97,100,95,100,101,99,105,109,97,108] 342 (.ref 131),E P [119,114,105,116,101,95,100,101,99,105,109,97,108] 350 (.ref 138),E P [77,79,83,84,95,70,73,71,85,82,69,83] 354 (.int (18) 353),E P [84,111,107,101,110] 398 (.ref 164),E P [113,117,111,116,101,100] 405 (.ref 175),E P [77,79,83,84,95,83,85,66,83,67,82,73,80,84,83] 409 (.int (7) 408),E P [70,73,71,85,82,69,95,78,65,77,69,83] 443 (.ref 176),E P [70,73,71,85,82,69,95,83,72,79,87,78] 459 (.ref 177),E P [105,115,95,112,97,114,116,95,110,101,120,116] 468 (.ref 184),E P [114,101,97,100,95,115,117,98,115,99,114,105,112,116,115] 477 (.ref 191),E P [114,101,97,100,95,112,97,114,116] 487 (.ref 198),E P [114,101,97,100,95,114,101,102] 499 (.ref 205),E P [114,101,97,100,95,97,108,108] 507 (.ref 212),E P [114,101,97,100,95,102,105,103,117,114,101] 514 (.ref 219),E P [114,101,97,100,95,111,112,101,114,97,110,100] 523 (.ref 226),E P [115,104,111,119,110,95,111,99,116,101,116,115] 529 (.ref 231),E P [115,104,111,119,110,95,110,117,109,98,101,114] 537 (.ref 238),E P [115,104,111,119,110,95,115,117,98,115,99,114,105,112,116,115] 543 (.ref 243),E P [115,104,111,119,95,114,101,102] 553 (.ref 250),E P [115,104,111,119,95,111,112,101,114,97,110,100] 561 (.ref 257),E P [77,79,83,84,95,68,69,69,80] 565 (.int (20) 564),E P [83,73,71,78,69,68] 567 (.int (3) 566),E P [82,65,73,83,69,68] 569 (.int (4) 568),E P [66,65,82,69] 571 (.int (5) 570),E P [76,69,86,69,76,83] 587 (.ref 258),E P [114,101,97,100,95,101,120,112,114,101,115,115,105,111,110] 594 (.ref 265),E P [115,105,103,110,95,97,109,111,110,103] 603 (.ref 272),E P [114,101,97,100,95,115,117,109] 613 (.ref 279),E P [114,101,97,100,95,112,114,111,100,117,99,116] 623 (.ref 286),E P [114,101,97,100,95,102,97,99,116,111,114] 634 (.ref 293),E P [105,115,95,108,111,110,101,95,110,117,109,98,101,114] 643 (.ref 300),E P [114,101,97,100,95,112,111,119,101,114] 652 (.ref 307),E P [114,101,97,100,95,112,114,105,109,97,114,121] 662 (.ref 314),E P [108,101,118,101,108,95,111,102] 669 (.ref 321),E P [98,114,97,99,107,101,116,101,100] 678 (.ref 328),E P [115,104,111,119,95,101,120,112,114,101,115,115,105,111,110] 687 (.ref 335),E P [114,105,103,104,116,95,112,97,114,116] 694 (.ref 342),E P [115,104,111,119,95,115,105,103,110,101,100] 701 (.ref 349),E P [80,72,82,65,83,69,83] 719 (.ref 350),E P [111,112,101,114,97,110,100,95,116,101,120,116] 726 (.ref 357),E P [114,101,102,95,116,101,120,116] 733 (.ref 364),E P [106,111,105,110,101,100] 739 (.ref 369),E P [119,111,114,100,101,100] 747 (.ref 376),E P [114,101,102,95,98,101,104,105,110,100,95,119,111,114,100] 755 (.ref 383),E P [111,112,101,114,97,110,100,95,98,101,104,105,110,100,95,119,111,114,100] 763 (.ref 390),E P [115,111,109,101,95,111,102] 770 (.ref 397),E P [115,104,111,119,95,98,111,100,121] 776 (.ref 402),E P [115,104,111,119,95,112,104,114,97,115,101] 783 (.ref 409),E P [115,104,111,119,95,98,114,97,110,99,104,101,115] 789 (.ref 414),E P [115,104,111,119,95,98,111,117,110,100,115] 797 (.ref 421),E P [115,104,111,119,95,115,116,114,105,110,103] 814 (.ref 428),E P [115,104,111,119,95,117,110,115,116,114,105,110,103] 820 (.ref 433),E P [115,104,111,119,95,107,105,110,100] 828 (.ref 440),E P [115,104,111,119,95,116,97,108,108,105,101,100] 841 (.ref 447),E P [115,104,111,119,95,114,101,112,108,97,99,101,100] 854 (.ref 454),E P [115,104,111,119,95,105,110,115,112,101,99,116] 862 (.ref 461),E P [115,104,111,119,95,99,111,110,118,101,114,116] 875 (.ref 468),E P [115,104,111,119,95,116,101,120,116,115] 884 (.ref 475),E P [70,73,71,85,82,69,95,87,79,82,68,83] 888 (.str (S [32,90,69,82,79,32,90,69,82,79,83,32,90,69,82,79,69,83,32,83,80,65,67,69,32,83,80,65,67,69,83,32,72,73,71,72,45,86,65,76,85,69,32,72,73,71,72,45,86,65,76,85,69,83,32,76,79,87,45,86,65,76,85,69,32,76,79,87,45,86,65,76,85,69,83,32,81,85,79,84,69,32,81,85,79,84,69,83,32,65,76,76,32]) 887),E P [119,111,114,100,95,97,104,101,97,100] 898 (.ref 482),E P [98,101,103,105,110,115,95,111,112,101,114,97,110,100] 905 (.ref 489),E P [114,101,102,95,104,101,114,101] 912 (.ref 496),E P [114,101,102,117,115,101,95,97,116] 921 (.ref 503),E P [111,112,101,114,97,110,100,95,104,101,114,101] 930 (.ref 510),E P [116,101,120,116,95,104,101,114,101] 940 (.ref 517),E P [98,101,103,105,110,115,95,116,101,120,116] 947 (.ref 524),E P [98,111,117,110,100,115,95,104,101,114,101] 956 (.ref 531),E P [111,112,101,110,115,95,99,111,117,110,116] 965 (.ref 538),E P [99,111,117,110,116,101,100,95,114,111,119,115] 978 (.ref 545),E P [116,97,108,108,105,101,100,95,114,111,119,115] 990 (.ref 552),E P [119,105,100,116,104,115,95,109,101,101,116] 998 (.ref 559),E P [98,121,95,104,101,114,101] 1008 (.ref 566),E P [101,120,99,104,97,110,103,101,95,104,101,114,101] 1020 (.ref 573),E P [114,101,112,108,97,99,101,100,95,114,111,119,115] 1030 (.ref 580),E P [114,101,97,100,95,105,110,115,112,101,99,116] 1044 (.ref 587),E P [77,79,83,84,95,79,67,84,69,84] 1048 (.int (255) 1047),E P [82,69,83,69,82,86,69,68] 1050 (.str (strT 97) 1049),E P [105,115,95,114,101,115,101,114,118,101,100] 1057 (.ref 594),E P [111,99,116,101,116,115,95,111,102,95,116,101,120,116] 1063 (.ref 599),E P [82,101,97,100,101,114] 1270 (.ref 768),E P [95,108,97,119,95,115,111,114,116,115] 1286 (.ref 785),E P [95,108,97,119,95,112,101,110] 1295 (.ref 792),E P [95,108,97,119,95,100,114,97,119] 1304 (.ref 799),E P [95,108,97,119,95,112,105,99,107] 1312 (.ref 806),E P [95,108,97,119,95,98,111,117,110,100,115] 1322 (.ref 813),E P [95,108,97,119,95,116,97,108,108,105,101,100] 1337 (.ref 820),E P [95,108,97,119,95,114,101,112,108,97,99,101,100] 1352 (.ref 827),E P [95,108,97,119,95,114,101,97,100] 1358 (.ref 832),E P [95,108,97,119,95,105,115,95,114,101,102,117,115,101,100] 1365 (.ref 839),E P [108,97,119] 1371 (.ref 844)]⟩ 111),#[]⟩
noncomputable def k_4 (P:Params):Obj:=⟨(.type "module"),(some 0),.plain,#[]⟩
noncomputable def k_5 (P:Params):Obj:=⟨(.type "module"),(some 3),.plain,#[]⟩
noncomputable def k_30 (P:Params):Obj:=⟨(.type "tuple"),none,(.seq ⟨[(.ref 29)]⟩ 0),#[]⟩
def k_36 (P:Params):Obj:=⟨(.type "code"),none,(.fields ⟨[(.str (S [95,95,105,110,105,116,95,95]) 210),(.str sx43 211),(.str sx0 212),(.int (7) 0),(.int (3) 0),(.int (0) 0),(.int (0) 0),(.int (3) 0),(.ref 31),(.bool true),(.int (181) 0),(.ref 32),.none,(.ref 33),(.ref 34),(.ref 35),(.int (216) 0),(.int (7) 0),(.str sx0 217)]⟩),#[]⟩
def k_37 (P:Params):Obj:=fO (fnD (stC 2 0) sx43 (.ref 36) (.ref 30) (.str sx17 194) .none .none .none 3 0)
def k_46 (P:Params):Obj:=⟨(.type "dict"),none,(.dict ⟨[E P [95,95,109,111,100,117,108,101,95,95] 203 (.str sx17 194),E P [95,95,102,105,114,115,116,108,105,110,101,110,111,95,95] 207 (.int (5) 206),E P [95,95,105,110,105,116,95,95] 218 (.ref 37),E P [116,111,108,100] 225 (.ref 44),E P [95,95,115,116,97,116,105,99,95,97,116,116,114,105,98,117,116,101,115,95,95] 228 (.ref 45),E P [95,95,119,101,97,107,114,101,102,95,95] 230 (.ref 48),E P [95,95,100,111,99,95,95] 231 .none]⟩ 3),#[]⟩
def k_47 (P:Params):Obj:=⟨(.type "type"),none,(.cls ⟨sx14,[(.type "Exception")],[(.ref 47),(.type "Exception"),(.type "BaseException"),(.type "object")],46,sx14,true,[],[(.ref 60),(.ref 72)],false,none,false⟩),#[(some (.ref 22)),none,(some (.str sx14 196)),(some (.str sx14 204)),(some (.builtin "Exception.__new__")),(some (.bool true))]⟩
def k_71 (P:Params):Obj:=⟨(.type "dict"),none,(.dict ⟨[E P [95,95,109,111,100,117,108,101,95,95] 259 (.str sx17 194),E P [95,95,102,105,114,115,116,108,105,110,101,110,111,95,95] 263 (.int (16) 262),E P [95,95,115,116,97,116,105,99,95,97,116,116,114,105,98,117,116,101,115,95,95] 264 (.ref 70),E P [95,95,100,111,99,95,95] 265 .none]⟩ 2),#[]⟩
def k_72 (P:Params):Obj:=⟨(.type "type"),none,(.cls ⟨sx13,[(.ref 47)],[(.ref 72),(.ref 47),(.type "Exception"),(.type "BaseException"),(.type "object")],71,sx13,true,[],[],false,none,false⟩),#[(some (.ref 63)),none,(some (.str sx13 252)),(some (.str sx13 260)),(some (.builtin "Exception.__new__")),(some (.bool true))]⟩
def k_88 (P:Params):Obj:=⟨(.type "code"),none,(.fields ⟨[(.str sx55 281),(.str sx55 282),(.str sx0 283),(.int (24) 0),(.int (2) 0),(.int (0) 0),(.int (0) 0),(.int (3) 0),(.ref 83),(.bool true),(.int (181) 0),(.ref 84),.none,(.ref 85),(.ref 86),(.ref 87),(.int (286) 0),(.int (24) 0),(.str sx0 287)]⟩),#[]⟩
def k_89 (P:Params):Obj:=fO (fnD (stT 8) sx55 (.ref 88) (.ref 82) (.str (S [108,101,100,103,101,114,115,112,101,97,107,46,100,101,99,105,109,97,108,115]) 268) .none .none .none 3 0)
noncomputable def k_147 (P:Params):Obj:=⟨(.type "tuple"),none,(.seq ⟨[(.ref 146),(.bool false)]⟩ 0),#[]⟩
def k_153 (P:Params):Obj:=⟨(.type "code"),none,(.fields ⟨[(.str (S [95,95,105,110,105,116,95,95]) 369),(.str (S [84,111,107,101,110,46,95,95,105,110,105,116,95,95]) 370),(.str sx0 371),(.int (75) 0),(.int (5) 0),(.int (0) 0),(.int (0) 0),(.int (3) 0),(.ref 148),(.bool true),(.int (181) 0),(.ref 149),.none,(.ref 150),(.ref 151),(.ref 152),(.int (377) 0),(.int (75) 0),(.str sx0 378)]⟩),#[]⟩
def k_154 (P:Params):Obj:=fO (fnD (stC 18 0) (S [84,111,107,101,110,46,95,95,105,110,105,116,95,95]) (.ref 153) (.ref 147) (.str sx18 351) .none .none .none 3 0)
def k_163 (P:Params):Obj:=⟨(.type "dict"),none,(.dict ⟨[E P [95,95,109,111,100,117,108,101,95,95] 362 (.str sx18 351),E P [95,95,102,105,114,115,116,108,105,110,101,110,111,95,95] 366 (.int (73) 365),E P [95,95,105,110,105,116,95,95] 379 (.ref 154),E P [116,111,108,100] 386 (.ref 161),E P [95,95,115,116,97,116,105,99,95,97,116,116,114,105,98,117,116,101,115,95,95] 391 (.ref 162),E P [95,95,100,105,99,116,95,95] 393 (.ref 165),E P [95,95,119,101,97,107,114,101,102,95,95] 395 (.ref 166),E P [95,95,100,111,99,95,95] 396 .none]⟩ 4),#[]⟩
def k_164 (P:Params):Obj:=⟨(.type "type"),none,(.cls ⟨sx57,[(.type "object")],[(.ref 164),(.type "object")],163,sx57,true,[],[],false,none,false⟩),#[none,none,(some (.str sx57 355)),(some (.str sx57 363)),(some (.builtin "object.__new__")),(some (.bool true))]⟩
def k_174 (P:Params):Obj:=⟨(.type "code"),none,(.fields ⟨[(.str sx58 399),(.str sx58 400),(.str sx0 401),(.int (83) 0),(.int (1) 0),(.int (0) 0),(.int (0) 0),(.int (3) 0),(.ref 169),(.bool true),(.int (181) 0),(.ref 170),.none,(.ref 171),(.ref 172),(.ref 173),(.int (403) 0),(.int (83) 0),(.str sx0 404)]⟩),#[]⟩
def k_175 (P:Params):Obj:=fO (fnD (stT 19) sx58 (.ref 174) .none (.str sx18 351) .none .none .none 3 0)
def k_176 (P:Params):Obj:=⟨(.type "dict"),none,(.dict ⟨[E P [90,69,82,79] 410 (.str (S [90,69,82,79]) 411),E P [90,69,82,79,83] 412 (.str (S [90,69,82,79]) 413),E P [90,69,82,79,69,83] 414 (.str (S [90,69,82,79]) 415),E P [83,80,65,67,69] 416 (.str (S [83,80,65,67,69]) 417),E P [83,80,65,67,69,83] 418 (.str (S [83,80,65,67,69]) 419),E P [72,73,71,72,45,86,65,76,85,69] 420 (.str (S [72,73,71,72]) 421),E P [72,73,71,72,45,86,65,76,85,69,83] 422 (.str (S [72,73,71,72]) 423),E P [76,79,87,45,86,65,76,85,69] 424 (.str (S [76,79,87]) 425),E P [76,79,87,45,86,65,76,85,69,83] 426 (.str (S [76,79,87]) 427),E P [81,85,79,84,69] 428 (.str (S [81,85,79,84,69]) 429),E P [81,85,79,84,69,83] 430 (.str (S [81,85,79,84,69]) 431)]⟩ 11),#[]⟩
def k_177 (P:Params):Obj:=⟨(.type "dict"),none,(.dict ⟨[E P [90,69,82,79] 444 (.str (S [90,69,82,79]) 445),E P [83,80,65,67,69] 446 (.str (S [83,80,65,67,69]) 447),E P [72,73,71,72] 448 (.str (S [72,73,71,72,45,86,65,76,85,69]) 449),E P [76,79,87] 450 (.str (S [76,79,87,45,86,65,76,85,69]) 451),E P [81,85,79,84,69] 452 (.str (S [81,85,79,84,69]) 453)]⟩ 5),#[]⟩
def k_183 (P:Params):Obj:=⟨(.type "code"),none,(.fields ⟨[(.str sx28 460),(.str sx28 461),(.str sx0 462),(.int (89) 0),(.int (1) 0),(.int (0) 0),(.int (0) 0),(.int (3) 0),(.ref 178),(.bool true),(.int (181) 0),(.ref 179),.none,(.ref 180),(.ref 181),(.ref 182),(.int (466) 0),(.int (89) 0),(.str sx0 467)]⟩),#[]⟩
def k_184 (P:Params):Obj:=fO (fnD (stT 24) sx28 (.ref 183) .none (.str sx4 406) .none .none .none 3 0)
def k_204 (P:Params):Obj:=⟨(.type "code"),none,(.fields ⟨[(.str sx51 488),(.str sx51 489),(.str sx0 490),(.int (117) 0),(.int (2) 0),(.int (0) 0),(.int (0) 0),(.int (3) 0),(.ref 199),(.bool true),(.int (181) 0),(.ref 200),.none,(.ref 201),(.ref 202),(.ref 203),(.int (497) 0),(.int (117) 0),(.str sx0 498)]⟩),#[]⟩
def k_205 (P:Params):Obj:=fO (fnD (stT 27) sx51 (.ref 204) .none (.str sx4 406) .none .none .none 3 0)
def k_218 (P:Params):Obj:=⟨(.type "code"),none,(.fields ⟨[(.str sx33 508),(.str sx33 509),(.str sx0 510),(.int (134) 0),(.int (1) 0),(.int (0) 0),(.int (0) 0),(.int (3) 0),(.ref 213),(.bool true),(.int (181) 0),(.ref 214),.none,(.ref 215),(.ref 216),(.ref 217),(.int (512) 0),(.int (134) 0),(.str sx0 513)]⟩),#[]⟩
def k_219 (P:Params):Obj:=fO (fnD (stT 29) sx33 (.ref 218) .none (.str sx4 406) .none .none .none 3 0)
def k_225 (P:Params):Obj:=⟨(.type "code"),none,(.fields ⟨[(.str sx29 515),(.str sx29 516),(.str sx0 517),(.int (138) 0),(.int (2) 0),(.int (0) 0),(.int (0) 0),(.int (3) 0),(.ref 220),(.bool true),(.int (181) 0),(.ref 221),.none,(.ref 222),(.ref 223),(.ref 224),(.int (521) 0),(.int (138) 0),(.str sx0 522)]⟩),#[]⟩
def k_226 (P:Params):Obj:=fO (fnD (stT 30) sx29 (.ref 225) .none (.str sx4 406) .none .none .none 3 0)
def k_230 (P:Params):Obj:=cO sx21 sx21 524 147 1 0 0 3 227 (.bool true) 181 228 .none .none .none (.ref 229)
def k_231 (P:Params):Obj:=fO (fnD (stT 31) sx21 (.ref 230) .none (.str sx4 406) .none .none .none 3 0)
def k_249 (P:Params):Obj:=⟨(.type "code"),none,(.fields ⟨[(.str sx48 544),(.str sx48 545),(.str sx0 546),(.int (157) 0),(.int (2) 0),(.int (0) 0),(.int (0) 0),(.int (3) 0),(.ref 244),(.bool true),(.int (181) 0),(.ref 245),.none,(.ref 246),(.ref 247),(.ref 248),(.int (551) 0),(.int (157) 0),(.str sx0 552)]⟩),#[]⟩
def k_250 (P:Params):Obj:=fO (fnD (stT 34) sx48 (.ref 249) .none (.str sx4 406) .none .none .none 3 0)
def k_256 (P:Params):Obj:=⟨(.type "code"),none,(.fields ⟨[(.str sx22 554),(.str sx22 555),(.str sx0 556),(.int (165) 0),(.int (2) 0),(.int (0) 0),(.int (0) 0),(.int (3) 0),(.ref 251),(.bool true),(.int (181) 0),(.ref 252),.none,(.ref 253),(.ref 254),(.ref 255),(.int (559) 0),(.int (165) 0),(.str sx0 560)]⟩),#[]⟩
def k_257 (P:Params):Obj:=fO (fnD (stT 35) sx22 (.ref 256) .none (.str sx4 406) .none .none .none 3 0)
def k_356 (P:Params):Obj:=⟨(.type "code"),none,(.fields ⟨[(.str sx23 720),(.str sx23 721),(.str sx0 722),(.int (257) 0),(.int (1) 0),(.int (0) 0),(.int (0) 0),(.int (3) 0),(.ref 351),(.bool true),(.int (181) 0),(.ref 352),.none,(.ref 353),(.ref 354),(.ref 355),(.int (724) 0),(.int (257) 0),(.str sx0 725)]⟩),#[]⟩
def k_357 (P:Params):Obj:=fO (fnD (stT 57) sx23 (.ref 356) .none (.str sx3 702) .none .none .none 3 0)
def k_363 (P:Params):Obj:=⟨(.type "code"),none,(.fields ⟨[(.str sx49 727),(.str sx49 728),(.str sx0 729),(.int (259) 0),(.int (1) 0),(.int (0) 0),(.int (0) 0),(.int (3) 0),(.ref 358),(.bool true),(.int (181) 0),(.ref 359),.none,(.ref 360),(.ref 361),(.ref 362),(.int (731) 0),(.int (259) 0),(.str sx0 732)]⟩),#[]⟩
def k_364 (P:Params):Obj:=fO (fnD (stT 58) sx49 (.ref 363) .none (.str sx3 702) .none .none .none 3 0)
def k_368 (P:Params):Obj:=cO sx59 sx59 734 261 1 0 0 3 365 (.bool true) 181 366 .none .none .none (.ref 367)
def k_369 (P:Params):Obj:=fO (fnD (stT 59) sx59 (.ref 368) .none (.str sx3 702) .none .none .none 3 0)
def k_389 (P:Params):Obj:=⟨(.type "code"),none,(.fields ⟨[(.str sx6 756),(.str sx6 757),(.str sx0 758),(.int (267) 0),(.int (2) 0),(.int (0) 0),(.int (0) 0),(.int (3) 0),(.ref 384),(.bool true),(.int (181) 0),(.ref 385),.none,(.ref 386),(.ref 387),(.ref 388),(.int (761) 0),(.int (267) 0),(.str sx0 762)]⟩),#[]⟩
def k_390 (P:Params):Obj:=fO (fnD (stT 62) sx6 (.ref 389) .none (.str sx3 702) .none .none .none 3 0)
def k_396 (P:Params):Obj:=⟨(.type "code"),none,(.fields ⟨[(.str sx54 764),(.str sx54 765),(.str sx0 766),(.int (269) 0),(.int (1) 0),(.int (0) 0),(.int (0) 0),(.int (3) 0),(.ref 391),(.bool true),(.int (181) 0),(.ref 392),.none,(.ref 393),(.ref 394),(.ref 395),(.int (768) 0),(.int (269) 0),(.str sx0 769)]⟩),#[]⟩
def k_397 (P:Params):Obj:=fO (fnD (stT 63) sx54 (.ref 396) .none (.str sx3 702) .none .none .none 3 0)
def k_420 (P:Params):Obj:=⟨(.type "code"),none,(.fields ⟨[(.str sx34 790),(.str sx34 791),(.str sx0 792),(.int (286) 0),(.int (2) 0),(.int (0) 0),(.int (0) 0),(.int (3) 0),(.ref 415),(.bool true),(.int (181) 0),(.ref 416),.none,(.ref 417),(.ref 418),(.ref 419),(.int (795) 0),(.int (286) 0),(.str sx0 796)]⟩),#[]⟩
def k_421 (P:Params):Obj:=fO (fnD (stT 67) sx34 (.ref 420) .none (.str sx3 702) .none .none .none 3 0)
def k_439 (P:Params):Obj:=⟨(.type "code"),none,(.fields ⟨[(.str sx44 821),(.str sx44 822),(.str sx0 823),(.int (306) 0),(.int (2) 0),(.int (0) 0),(.int (0) 0),(.int (3) 0),(.ref 434),(.bool true),(.int (181) 0),(.ref 435),.none,(.ref 436),(.ref 437),(.ref 438),(.int (826) 0),(.int (306) 0),(.str sx0 827)]⟩),#[]⟩
def k_440 (P:Params):Obj:=fO (fnD (stT 70) sx44 (.ref 439) .none (.str sx3 702) .none .none .none 3 0)
def k_446 (P:Params):Obj:=⟨(.type "code"),none,(.fields ⟨[(.str sx24 829),(.str sx24 830),(.str sx0 831),(.int (310) 0),(.int (1) 0),(.int (0) 0),(.int (0) 0),(.int (3) 0),(.ref 441),(.bool true),(.int (181) 0),(.ref 442),.none,(.ref 443),(.ref 444),(.ref 445),(.int (839) 0),(.int (310) 0),(.str sx0 840)]⟩),#[]⟩
def k_447 (P:Params):Obj:=fO (fnD (stT 71) sx24 (.ref 446) .none (.str sx3 702) .none .none .none 3 0)
def k_453 (P:Params):Obj:=⟨(.type "code"),none,(.fields ⟨[(.str sx19 842),(.str sx19 843),(.str sx0 844),(.int (315) 0),(.int (1) 0),(.int (0) 0),(.int (0) 0),(.int (3) 0),(.ref 448),(.bool true),(.int (181) 0),(.ref 449),.none,(.ref 450),(.ref 451),(.ref 452),(.int (852) 0),(.int (315) 0),(.str sx0 853)]⟩),#[]⟩
def k_454 (P:Params):Obj:=fO (fnD (stT 72) sx19 (.ref 453) .none (.str sx3 702) .none .none .none 3 0)
def k_460 (P:Params):Obj:=⟨(.type "code"),none,(.fields ⟨[(.str sx25 855),(.str sx25 856),(.str sx0 857),(.int (320) 0),(.int (1) 0),(.int (0) 0),(.int (0) 0),(.int (3) 0),(.ref 455),(.bool true),(.int (181) 0),(.ref 456),.none,(.ref 457),(.ref 458),(.ref 459),(.int (860) 0),(.int (320) 0),(.str sx0 861)]⟩),#[]⟩
def k_461 (P:Params):Obj:=fO (fnD (stT 73) sx25 (.ref 460) .none (.str sx3 702) .none .none .none 3 0)
def k_474 (P:Params):Obj:=⟨(.type "code"),none,(.fields ⟨[(.str sx40 876),(.str sx40 877),(.str sx0 878),(.int (329) 0),(.int (2) 0),(.int (0) 0),(.int (0) 0),(.int (3) 0),(.ref 469),(.bool true),(.int (181) 0),(.ref 470),.none,(.ref 471),(.ref 472),(.ref 473),(.int (882) 0),(.int (329) 0),(.str sx0 883)]⟩),#[]⟩
def k_475 (P:Params):Obj:=fO (fnD (stT 75) sx40 (.ref 474) .none (.str sx3 702) .none .none .none 3 0)
def k_481 (P:Params):Obj:=⟨(.type "code"),none,(.fields ⟨[(.str sx41 889),(.str sx41 890),(.str sx0 891),(.int (340) 0),(.int (3) 0),(.int (0) 0),(.int (0) 0),(.int (3) 0),(.ref 476),(.bool true),(.int (181) 0),(.ref 477),.none,(.ref 478),(.ref 479),(.ref 480),(.int (896) 0),(.int (340) 0),(.str sx0 897)]⟩),#[]⟩
def k_482 (P:Params):Obj:=fO (fnD (stT 78) sx41 (.ref 481) .none (.str sx9 885) .none .none .none 3 0)
def k_488 (P:Params):Obj:=⟨(.type "code"),none,(.fields ⟨[(.str sx15 899),(.str sx15 900),(.str sx0 901),(.int (343) 0),(.int (1) 0),(.int (0) 0),(.int (0) 0),(.int (3) 0),(.ref 483),(.bool true),(.int (181) 0),(.ref 484),.none,(.ref 485),(.ref 486),(.ref 487),(.int (903) 0),(.int (343) 0),(.str sx0 904)]⟩),#[]⟩
def k_489 (P:Params):Obj:=fO (fnD (stT 79) sx15 (.ref 488) .none (.str sx9 885) .none .none .none 3 0)
def k_495 (P:Params):Obj:=⟨(.type "code"),none,(.fields ⟨[(.str sx50 906),(.str sx50 907),(.str sx0 908),(.int (347) 0),(.int (1) 0),(.int (0) 0),(.int (0) 0),(.int (3) 0),(.ref 490),(.bool true),(.int (181) 0),(.ref 491),.none,(.ref 492),(.ref 493),(.ref 494),(.int (910) 0),(.int (347) 0),(.str sx0 911)]⟩),#[]⟩
def k_496 (P:Params):Obj:=fO (fnD (stT 80) sx50 (.ref 495) .none (.str sx9 885) .none .none .none 3 0)
def k_509 (P:Params):Obj:=⟨(.type "code"),none,(.fields ⟨[(.str sx26 924),(.str sx26 925),(.str sx0 926),(.int (355) 0),(.int (1) 0),(.int (0) 0),(.int (0) 0),(.int (3) 0),(.ref 504),(.bool true),(.int (181) 0),(.ref 505),.none,(.ref 506),(.ref 507),(.ref 508),(.int (928) 0),(.int (355) 0),(.str sx0 929)]⟩),#[]⟩
def k_510 (P:Params):Obj:=fO (fnD (stT 83) sx26 (.ref 509) .none (.str sx2 922) .none .none .none 3 0)
def k_516 (P:Params):Obj:=⟨(.type "code"),none,(.fields ⟨[(.str sx45 931),(.str sx45 932),(.str sx0 933),(.int (359) 0),(.int (1) 0),(.int (0) 0),(.int (0) 0),(.int (3) 0),(.ref 511),(.bool true),(.int (181) 0),(.ref 512),.none,(.ref 513),(.ref 514),(.ref 515),(.int (938) 0),(.int (359) 0),(.str sx0 939)]⟩),#[]⟩
def k_517 (P:Params):Obj:=fO (fnD (stT 84) sx45 (.ref 516) .none (.str sx2 922) .none .none .none 3 0)
def k_523 (P:Params):Obj:=⟨(.type "code"),none,(.fields ⟨[(.str sx35 941),(.str sx35 942),(.str sx0 943),(.int (365) 0),(.int (1) 0),(.int (0) 0),(.int (0) 0),(.int (3) 0),(.ref 518),(.bool true),(.int (181) 0),(.ref 519),.none,(.ref 520),(.ref 521),(.ref 522),(.int (945) 0),(.int (365) 0),(.str sx0 946)]⟩),#[]⟩
def k_524 (P:Params):Obj:=fO (fnD (stT 85) sx35 (.ref 523) .none (.str sx2 922) .none .none .none 3 0)
def k_530 (P:Params):Obj:=⟨(.type "code"),none,(.fields ⟨[(.str sx36 948),(.str sx36 949),(.str sx0 950),(.int (367) 0),(.int (1) 0),(.int (0) 0),(.int (0) 0),(.int (3) 0),(.ref 525),(.bool true),(.int (181) 0),(.ref 526),.none,(.ref 527),(.ref 528),(.ref 529),(.int (954) 0),(.int (367) 0),(.str sx0 955)]⟩),#[]⟩
def k_531 (P:Params):Obj:=fO (fnD (stT 86) sx36 (.ref 530) .none (.str sx2 922) .none .none .none 3 0)
def k_537 (P:Params):Obj:=⟨(.type "code"),none,(.fields ⟨[(.str sx37 957),(.str sx37 958),(.str sx0 959),(.int (378) 0),(.int (1) 0),(.int (0) 0),(.int (0) 0),(.int (3) 0),(.ref 532),(.bool true),(.int (181) 0),(.ref 533),.none,(.ref 534),(.ref 535),(.ref 536),(.int (963) 0),(.int (378) 0),(.str sx0 964)]⟩),#[]⟩
def k_538 (P:Params):Obj:=fO (fnD (stT 87) sx37 (.ref 537) .none (.str sx2 922) .none .none .none 3 0)
def k_544 (P:Params):Obj:=⟨(.type "code"),none,(.fields ⟨[(.str sx27 966),(.str sx27 967),(.str sx0 968),(.int (386) 0),(.int (3) 0),(.int (0) 0),(.int (0) 0),(.int (3) 0),(.ref 539),(.bool true),(.int (181) 0),(.ref 540),.none,(.ref 541),(.ref 542),(.ref 543),(.int (976) 0),(.int (386) 0),(.str sx0 977)]⟩),#[]⟩
def k_545 (P:Params):Obj:=fO (fnD (stT 88) sx27 (.ref 544) .none (.str sx2 922) .none .none .none 3 0)
def k_551 (P:Params):Obj:=⟨(.type "code"),none,(.fields ⟨[(.str sx10 979),(.str sx10 980),(.str sx0 981),(.int (393) 0),(.int (1) 0),(.int (0) 0),(.int (0) 0),(.int (3) 0),(.ref 546),(.bool true),(.int (181) 0),(.ref 547),.none,(.ref 548),(.ref 549),(.ref 550),(.int (988) 0),(.int (393) 0),(.str sx0 989)]⟩),#[]⟩
def k_552 (P:Params):Obj:=fO (fnD (stT 89) sx10 (.ref 551) .none (.str sx2 922) .none .none .none 3 0)
def k_558 (P:Params):Obj:=⟨(.type "code"),none,(.fields ⟨[(.str sx31 991),(.str sx31 992),(.str sx0 993),(.int (412) 0),(.int (2) 0),(.int (0) 0),(.int (0) 0),(.int (3) 0),(.ref 553),(.bool true),(.int (181) 0),(.ref 554),.none,(.ref 555),(.ref 556),(.ref 557),(.int (996) 0),(.int (412) 0),(.str sx0 997)]⟩),#[]⟩
def k_559 (P:Params):Obj:=fO (fnD (stT 90) sx31 (.ref 558) .none (.str sx2 922) .none .none .none 3 0)
def k_565 (P:Params):Obj:=⟨(.type "code"),none,(.fields ⟨[(.str sx56 999),(.str sx56 1000),(.str sx0 1001),(.int (416) 0),(.int (2) 0),(.int (0) 0),(.int (0) 0),(.int (3) 0),(.ref 560),(.bool true),(.int (181) 0),(.ref 561),.none,(.ref 562),(.ref 563),(.ref 564),(.int (1006) 0),(.int (416) 0),(.str sx0 1007)]⟩),#[]⟩
def k_566 (P:Params):Obj:=fO (fnD (stT 91) sx56 (.ref 565) .none (.str sx2 922) .none .none .none 3 0)
def k_572 (P:Params):Obj:=⟨(.type "code"),none,(.fields ⟨[(.str sx20 1009),(.str sx20 1010),(.str sx0 1011),(.int (422) 0),(.int (2) 0),(.int (0) 0),(.int (0) 0),(.int (3) 0),(.ref 567),(.bool true),(.int (181) 0),(.ref 568),.none,(.ref 569),(.ref 570),(.ref 571),(.int (1018) 0),(.int (422) 0),(.str sx0 1019)]⟩),#[]⟩
def k_573 (P:Params):Obj:=fO (fnD (stT 92) sx20 (.ref 572) .none (.str sx2 922) .none .none .none 3 0)
def k_579 (P:Params):Obj:=⟨(.type "code"),none,(.fields ⟨[(.str sx7 1021),(.str sx7 1022),(.str sx0 1023),(.int (428) 0),(.int (1) 0),(.int (0) 0),(.int (0) 0),(.int (3) 0),(.ref 574),(.bool true),(.int (181) 0),(.ref 575),.none,(.ref 576),(.ref 577),(.ref 578),(.int (1028) 0),(.int (428) 0),(.str sx0 1029)]⟩),#[]⟩
def k_580 (P:Params):Obj:=fO (fnD (stT 93) sx7 (.ref 579) .none (.str sx2 922) .none .none .none 3 0)
def k_586 (P:Params):Obj:=⟨(.type "code"),none,(.fields ⟨[(.str sx30 1031),(.str sx30 1032),(.str sx0 1033),(.int (443) 0),(.int (2) 0),(.int (0) 0),(.int (0) 0),(.int (3) 0),(.ref 581),(.bool true),(.int (181) 0),(.ref 582),.none,(.ref 583),(.ref 584),(.ref 585),(.int (1042) 0),(.int (443) 0),(.str sx0 1043)]⟩),#[]⟩
def k_587 (P:Params):Obj:=fO (fnD (stT 94) sx30 (.ref 586) .none (.str sx2 922) .none .none .none 3 0)
def k_593 (P:Params):Obj:=⟨(.type "code"),none,(.fields ⟨[(.str sx32 1051),(.str sx32 1052),(.str sx0 1053),(.int (462) 0),(.int (1) 0),(.int (0) 0),(.int (0) 0),(.int (3) 0),(.ref 588),(.bool true),(.int (181) 0),(.ref 589),.none,(.ref 590),(.ref 591),(.ref 592),(.int (1055) 0),(.int (462) 0),(.str sx0 1056)]⟩),#[]⟩
def k_594 (P:Params):Obj:=fO (fnD (stT 98) sx32 (.ref 593) .none (.str sx1 1045) .none .none .none 3 0)
def k_598 (P:Params):Obj:=cO sx16 sx16 1058 464 1 0 0 3 595 (.bool true) 181 596 .none .none .none (.ref 597)
def k_599 (P:Params):Obj:=fO (fnD (stT 99) sx16 (.ref 598) .none (.str sx1 1045) .none .none .none 3 0)
noncomputable def k_607 (P:Params):Obj:=⟨(.type "tuple"),none,(.seq ⟨[(.int (0) 1076)]⟩ 0),#[]⟩
def k_613 (P:Params):Obj:=⟨(.type "code"),none,(.fields ⟨[(.str (S [95,95,105,110,105,116,95,95]) 1077),(.str (S [82,101,97,100,101,114,46,95,95,105,110,105,116,95,95]) 1078),(.str sx0 1079),(.int (471) 0),(.int (3) 0),(.int (0) 0),(.int (0) 0),(.int (3) 0),(.ref 608),(.bool true),(.int (181) 0),(.ref 609),.none,(.ref 610),(.ref 611),(.ref 612),(.int (1083) 0),(.int (471) 0),(.str sx0 1084)]⟩),#[]⟩
def k_614 (P:Params):Obj:=fO (fnD (stC 100 0) (S [82,101,97,100,101,114,46,95,95,105,110,105,116,95,95]) (.ref 613) (.ref 607) (.str sx1 1045) .none .none .none 3 0)
noncomputable def k_615 (P:Params):Obj:=⟨(.type "tuple"),none,(.seq ⟨[(.int (0) 1086)]⟩ 0),#[]⟩
def k_621 (P:Params):Obj:=⟨(.type "code"),none,(.fields ⟨[(.str (S [112,101,101,107]) 1087),(.str (S [82,101,97,100,101,114,46,112,101,101,107]) 1088),(.str sx0 1089),(.int (477) 0),(.int (2) 0),(.int (0) 0),(.int (0) 0),(.int (3) 0),(.ref 616),(.bool true),(.int (181) 0),(.ref 617),.none,(.ref 618),(.ref 619),(.ref 620),(.int (1092) 0),(.int (477) 0),(.str sx0 1093)]⟩),#[]⟩
def k_622 (P:Params):Obj:=fO (fnD (stC 100 1) (S [82,101,97,100,101,114,46,112,101,101,107]) (.ref 621) (.ref 615) (.str sx1 1045) .none .none .none 3 0)
def k_628 (P:Params):Obj:=⟨(.type "code"),none,(.fields ⟨[(.str (S [105,115,95,100,111,110,101]) 1095),(.str (S [82,101,97,100,101,114,46,105,115,95,100,111,110,101]) 1096),(.str sx0 1097),(.int (482) 0),(.int (1) 0),(.int (0) 0),(.int (0) 0),(.int (3) 0),(.ref 623),(.bool true),(.int (181) 0),(.ref 624),.none,(.ref 625),(.ref 626),(.ref 627),(.int (1099) 0),(.int (482) 0),(.str sx0 1100)]⟩),#[]⟩
def k_629 (P:Params):Obj:=fO (fnD (stC 100 2) (S [82,101,97,100,101,114,46,105,115,95,100,111,110,101]) (.ref 628) .none (.str sx1 1045) .none .none .none 3 0)
def k_642 (P:Params):Obj:=⟨(.type "code"),none,(.fields ⟨[(.str (S [116,97,107,101]) 1110),(.str (S [82,101,97,100,101,114,46,116,97,107,101]) 1111),(.str sx0 1112),(.int (490) 0),(.int (1) 0),(.int (0) 0),(.int (0) 0),(.int (3) 0),(.ref 637),(.bool true),(.int (181) 0),(.ref 638),.none,(.ref 639),(.ref 640),(.ref 641),(.int (1115) 0),(.int (490) 0),(.str sx0 1116)]⟩),#[]⟩
def k_643 (P:Params):Obj:=fO (fnD (stC 100 4) (S [82,101,97,100,101,114,46,116,97,107,101]) (.ref 642) .none (.str sx1 1045) .none .none .none 3 0)
noncomputable def k_644 (P:Params):Obj:=⟨(.type "tuple"),none,(.seq ⟨[(.int (0) 1118)]⟩ 0),#[]⟩
def k_650 (P:Params):Obj:=⟨(.type "code"),none,(.fields ⟨[(.str (S [105,115,95,107,105,110,100]) 1119),(.str (S [82,101,97,100,101,114,46,105,115,95,107,105,110,100]) 1120),(.str sx0 1121),(.int (497) 0),(.int (3) 0),(.int (0) 0),(.int (0) 0),(.int (3) 0),(.ref 645),(.bool true),(.int (181) 0),(.ref 646),.none,(.ref 647),(.ref 648),(.ref 649),(.int (1126) 0),(.int (497) 0),(.str sx0 1127)]⟩),#[]⟩
def k_651 (P:Params):Obj:=fO (fnD (stC 100 5) (S [82,101,97,100,101,114,46,105,115,95,107,105,110,100]) (.ref 650) (.ref 644) (.str sx1 1045) .none .none .none 3 0)
def k_657 (P:Params):Obj:=⟨(.type "code"),none,(.fields ⟨[(.str (S [105,115,95,119,111,114,100]) 1129),(.str (S [82,101,97,100,101,114,46,105,115,95,119,111,114,100]) 1130),(.str sx0 1131),(.int (501) 0),(.int (2) 0),(.int (0) 0),(.int (0) 0),(.int (3) 0),(.ref 652),(.bool true),(.int (181) 0),(.ref 653),.none,(.ref 654),(.ref 655),(.ref 656),(.int (1136) 0),(.int (501) 0),(.str sx0 1137)]⟩),#[]⟩
def k_658 (P:Params):Obj:=fO (fnD (stC 100 6) (S [82,101,97,100,101,114,46,105,115,95,119,111,114,100]) (.ref 657) .none (.str sx1 1045) .none .none .none 3 0)
def k_664 (P:Params):Obj:=⟨(.type "code"),none,(.fields ⟨[(.str (S [115,107,105,112]) 1139),(.str (S [82,101,97,100,101,114,46,115,107,105,112]) 1140),(.str sx0 1141),(.int (509) 0),(.int (2) 0),(.int (0) 0),(.int (0) 0),(.int (3) 0),(.ref 659),(.bool true),(.int (181) 0),(.ref 660),.none,(.ref 661),(.ref 662),(.ref 663),(.int (1144) 0),(.int (509) 0),(.str sx0 1145)]⟩),#[]⟩
def k_665 (P:Params):Obj:=fO (fnD (stC 100 7) (S [82,101,97,100,101,114,46,115,107,105,112]) (.ref 664) .none (.str sx1 1045) .none .none .none 3 0)
def k_671 (P:Params):Obj:=⟨(.type "code"),none,(.fields ⟨[(.str (S [110,101,101,100]) 1147),(.str (S [82,101,97,100,101,114,46,110,101,101,100]) 1148),(.str sx0 1149),(.int (515) 0),(.int (2) 0),(.int (0) 0),(.int (0) 0),(.int (3) 0),(.ref 666),(.bool true),(.int (181) 0),(.ref 667),.none,(.ref 668),(.ref 669),(.ref 670),(.int (1152) 0),(.int (515) 0),(.str sx0 1153)]⟩),#[]⟩
def k_672 (P:Params):Obj:=fO (fnD (stC 100 8) (S [82,101,97,100,101,114,46,110,101,101,100]) (.ref 671) .none (.str sx1 1045) .none .none .none 3 0)
def k_678 (P:Params):Obj:=⟨(.type "code"),none,(.fields ⟨[(.str (S [111,110,101,95,111,102]) 1155),(.str (S [82,101,97,100,101,114,46,111,110,101,95,111,102]) 1156),(.str sx0 1157),(.int (519) 0),(.int (2) 0),(.int (0) 0),(.int (0) 0),(.int (3) 0),(.ref 673),(.bool true),(.int (181) 0),(.ref 674),.none,(.ref 675),(.ref 676),(.ref 677),(.int (1161) 0),(.int (519) 0),(.str sx0 1162)]⟩),#[]⟩
def k_679 (P:Params):Obj:=fO (fnD (stC 100 9) (S [82,101,97,100,101,114,46,111,110,101,95,111,102]) (.ref 678) .none (.str sx1 1045) .none .none .none 3 0)
noncomputable def k_687 (P:Params):Obj:=⟨(.type "tuple"),none,(.seq ⟨[(.int (0) 1171)]⟩ 0),#[]⟩
def k_693 (P:Params):Obj:=⟨(.type "code"),none,(.fields ⟨[(.str (S [105,115,95,110,97,109,101]) 1172),(.str (S [82,101,97,100,101,114,46,105,115,95,110,97,109,101]) 1173),(.str sx0 1174),(.int (530) 0),(.int (2) 0),(.int (0) 0),(.int (0) 0),(.int (3) 0),(.ref 688),(.bool true),(.int (181) 0),(.ref 689),.none,(.ref 690),(.ref 691),(.ref 692),(.int (1177) 0),(.int (530) 0),(.str sx0 1178)]⟩),#[]⟩
def k_694 (P:Params):Obj:=fO (fnD (stC 100 11) (S [82,101,97,100,101,114,46,105,115,95,110,97,109,101]) (.ref 693) (.ref 687) (.str sx1 1045) .none .none .none 3 0)
def k_700 (P:Params):Obj:=⟨(.type "code"),none,(.fields ⟨[(.str (S [110,97,109,101]) 1180),(.str (S [82,101,97,100,101,114,46,110,97,109,101]) 1181),(.str sx0 1182),(.int (533) 0),(.int (1) 0),(.int (0) 0),(.int (0) 0),(.int (3) 0),(.ref 695),(.bool true),(.int (181) 0),(.ref 696),.none,(.ref 697),(.ref 698),(.ref 699),(.int (1184) 0),(.int (533) 0),(.str sx0 1185)]⟩),#[]⟩
def k_701 (P:Params):Obj:=fO (fnD (stC 100 12) (S [82,101,97,100,101,114,46,110,97,109,101]) (.ref 700) .none (.str sx1 1045) .none .none .none 3 0)
noncomputable def k_709 (P:Params):Obj:=⟨(.type "tuple"),none,(.seq ⟨[(.int (0) 1194)]⟩ 0),#[]⟩
def k_715 (P:Params):Obj:=⟨(.type "code"),none,(.fields ⟨[(.str (S [105,115,95,115,105,103,110]) 1195),(.str (S [82,101,97,100,101,114,46,105,115,95,115,105,103,110]) 1196),(.str sx0 1197),(.int (541) 0),(.int (3) 0),(.int (0) 0),(.int (0) 0),(.int (3) 0),(.ref 710),(.bool true),(.int (181) 0),(.ref 711),.none,(.ref 712),(.ref 713),(.ref 714),(.int (1201) 0),(.int (541) 0),(.str sx0 1202)]⟩),#[]⟩
def k_716 (P:Params):Obj:=fO (fnD (stC 100 14) (S [82,101,97,100,101,114,46,105,115,95,115,105,103,110]) (.ref 715) (.ref 709) (.str sx1 1045) .none .none .none 3 0)
def k_736 (P:Params):Obj:=⟨(.type "code"),none,(.fields ⟨[(.str (S [105,115,95,110,117,109,98,101,114]) 1220),(.str sx53 1221),(.str sx0 1222),(.int (554) 0),(.int (1) 0),(.int (0) 0),(.int (0) 0),(.int (3) 0),(.ref 731),(.bool true),(.int (181) 0),(.ref 732),.none,(.ref 733),(.ref 734),(.ref 735),(.int (1224) 0),(.int (554) 0),(.str sx0 1225)]⟩),#[]⟩
def k_737 (P:Params):Obj:=fO (fnD (stC 100 17) sx53 (.ref 736) .none (.str sx1 1045) .none .none .none 3 0)
def k_764 (P:Params):Obj:=⟨(.type "code"),none,(.fields ⟨[(.str (S [111,99,116,101,116,115]) 1251),(.str (S [82,101,97,100,101,114,46,111,99,116,101,116,115]) 1252),(.str sx0 1253),(.int (582) 0),(.int (1) 0),(.int (0) 0),(.int (0) 0),(.int (3) 0),(.ref 759),(.bool true),(.int (181) 0),(.ref 760),.none,(.ref 761),(.ref 762),(.ref 763),(.int (1256) 0),(.int (582) 0),(.str sx0 1257)]⟩),#[]⟩
def k_765 (P:Params):Obj:=fO (fnD (stC 100 21) (S [82,101,97,100,101,114,46,111,99,116,101,116,115]) (.ref 764) .none (.str sx1 1045) .none .none .none 3 0)
def k_767 (P:Params):Obj:=⟨(.type "dict"),none,(.dict ⟨[E P [95,95,109,111,100,117,108,101,95,95] 1071 (.str sx1 1045),E P [95,95,102,105,114,115,116,108,105,110,101,110,111,95,95] 1075 (.int (469) 1074),E P [95,95,105,110,105,116,95,95] 1085 (.ref 614),E P [112,101,101,107] 1094 (.ref 622),E P [105,115,95,100,111,110,101] 1101 (.ref 629),E P [102,97,117,108,116] 1109 (.ref 636),E P [116,97,107,101] 1117 (.ref 643),E P [105,115,95,107,105,110,100] 1128 (.ref 651),E P [105,115,95,119,111,114,100] 1138 (.ref 658),E P [115,107,105,112] 1146 (.ref 665),E P [110,101,101,100] 1154 (.ref 672),E P [111,110,101,95,111,102] 1163 (.ref 679),E P [119,111,114,100] 1170 (.ref 686),E P [105,115,95,110,97,109,101] 1179 (.ref 694),E P [110,97,109,101] 1186 (.ref 701),E P [110,97,109,101,115] 1193 (.ref 708),E P [105,115,95,115,105,103,110] 1203 (.ref 716),E P [115,107,105,112,95,115,105,103,110] 1211 (.ref 723),E P [110,101,101,100,95,115,105,103,110] 1219 (.ref 730),E P [105,115,95,110,117,109,98,101,114] 1226 (.ref 737),E P [115,105,103,110,101,100] 1235 (.ref 744),E P [119,104,111,108,101] 1243 (.ref 751),E P [108,105,116,101,114,97,108] 1250 (.ref 758),E P [111,99,116,101,116,115] 1258 (.ref 765),E P [95,95,115,116,97,116,105,99,95,97,116,116,114,105,98,117,116,101,115,95,95] 1263 (.ref 766),E P [95,95,100,105,99,116,95,95] 1265 (.ref 769),E P [95,95,119,101,97,107,114,101,102,95,95] 1267 (.ref 770),E P [95,95,100,111,99,95,95] 1268 .none]⟩ 4),#[]⟩
def k_768 (P:Params):Obj:=⟨(.type "type"),none,(.cls ⟨sx52,[(.type "object")],[(.ref 768),(.type "object")],767,sx52,true,[],[],false,none,false⟩),#[none,none,(some (.str sx52 1064)),(some (.str sx52 1072)),(some (.builtin "object.__new__")),(some (.bool true))]⟩
noncomputable def k_773 (P:Params):Obj:=⟨(.type "tuple"),none,(.seq ⟨[]⟩ 0),#[]⟩
noncomputable def k_774 (P:Params):Obj:=⟨(.type "tuple"),none,(.seq ⟨[]⟩ 0),#[]⟩
def k_775 (P:Params):Obj:=⟨(.type "tuple"),none,(.seq ⟨[(.str (S [114,101,102]) 1273),(.str (S [65]) 1274),(.ref 773),(.ref 774),.none]⟩ 0),#[]⟩
def k_776 (P:Params):Obj:=⟨(.type "tuple"),none,(.seq ⟨[(.ref 775),(.str (S [65]) 1275)]⟩ 0),#[]⟩
def k_777 (P:Params):Obj:=⟨(.type "tuple"),none,(.seq ⟨[(.str (S [116,101,120,116]) 1276),(.bytes #[120] 1277)]⟩ 0),#[]⟩
def k_778 (P:Params):Obj:=⟨(.type "tuple"),none,(.seq ⟨[(.ref 777),(.str (S [34,120,34]) 1278)]⟩ 0),#[]⟩
def k_779 (P:Params):Obj:=⟨(.type "tuple"),none,(.seq ⟨[(.str (S [102,105,103,117,114,101]) 1279),(.str (S [83,80,65,67,69]) 1280)]⟩ 0),#[]⟩
def k_780 (P:Params):Obj:=⟨(.type "tuple"),none,(.seq ⟨[(.ref 779),(.str (S [83,80,65,67,69]) 1281)]⟩ 0),#[]⟩
def k_781 (P:Params):Obj:=⟨(.type "tuple"),none,(.seq ⟨[(.str (S [71]) 1284)]⟩ 0),#[]⟩
noncomputable def k_782 (P:Params):Obj:=⟨(.type "tuple"),none,(.seq ⟨[]⟩ 0),#[]⟩
def k_783 (P:Params):Obj:=⟨(.type "tuple"),none,(.seq ⟨[(.str (S [114,101,102]) 1282),(.str (S [66]) 1283),(.ref 781),(.ref 782),.none]⟩ 0),#[]⟩
def k_784 (P:Params):Obj:=⟨(.type "tuple"),none,(.seq ⟨[(.ref 783),(.str (S [66,32,79,70,32,71]) 1285)]⟩ 0),#[]⟩
noncomputable def k_785 (P:Params):Obj:=⟨(.type "tuple"),none,(.seq ⟨[(.ref 776),(.ref 778),(.ref 780),(.ref 784)]⟩ 0),#[]⟩
def k_791 (P:Params):Obj:=⟨(.type "code"),none,(.fields ⟨[(.str sx42 1287),(.str sx42 1288),(.str sx0 1289),(.int (592) 0),(.int (1) 0),(.int (0) 0),(.int (0) 0),(.int (3) 0),(.ref 786),(.bool true),(.int (181) 0),(.ref 787),.none,(.ref 788),(.ref 789),(.ref 790),(.int (1293) 0),(.int (592) 0),(.str sx0 1294)]⟩),#[]⟩
def k_792 (P:Params):Obj:=fO (fnD (stT 103) sx42 (.ref 791) .none (.str sx5 1271) .none .none .none 3 0)
def k_798 (P:Params):Obj:=⟨(.type "code"),none,(.fields ⟨[(.str sx46 1296),(.str sx46 1297),(.str sx0 1298),(.int (597) 0),(.int (2) 0),(.int (0) 0),(.int (0) 0),(.int (3) 0),(.ref 793),(.bool true),(.int (181) 0),(.ref 794),.none,(.ref 795),(.ref 796),(.ref 797),(.int (1302) 0),(.int (597) 0),(.str sx0 1303)]⟩),#[]⟩
def k_799 (P:Params):Obj:=fO (fnD (stT 104) sx46 (.ref 798) .none (.str sx5 1271) .none .none .none 3 0)
def k_805 (P:Params):Obj:=⟨(.type "code"),none,(.fields ⟨[(.str sx47 1305),(.str sx47 1306),(.str sx0 1307),(.int (603) 0),(.int (2) 0),(.int (0) 0),(.int (0) 0),(.int (3) 0),(.ref 800),(.bool true),(.int (181) 0),(.ref 801),.none,(.ref 802),(.ref 803),(.ref 804),(.int (1310) 0),(.int (603) 0),(.str sx0 1311)]⟩),#[]⟩
def k_806 (P:Params):Obj:=fO (fnD (stT 105) sx47 (.ref 805) .none (.str sx5 1271) .none .none .none 3 0)
def k_812 (P:Params):Obj:=⟨(.type "code"),none,(.fields ⟨[(.str sx39 1313),(.str sx39 1314),(.str sx0 1315),(.int (605) 0),(.int (1) 0),(.int (0) 0),(.int (0) 0),(.int (3) 0),(.ref 807),(.bool true),(.int (181) 0),(.ref 808),.none,(.ref 809),(.ref 810),(.ref 811),(.int (1320) 0),(.int (605) 0),(.str sx0 1321)]⟩),#[]⟩
def k_813 (P:Params):Obj:=fO (fnD (stT 106) sx39 (.ref 812) .none (.str sx5 1271) .none .none .none 3 0)
def k_819 (P:Params):Obj:=⟨(.type "code"),none,(.fields ⟨[(.str sx12 1323),(.str sx12 1324),(.str sx0 1325),(.int (609) 0),(.int (1) 0),(.int (0) 0),(.int (0) 0),(.int (3) 0),(.ref 814),(.bool true),(.int (181) 0),(.ref 815),.none,(.ref 816),(.ref 817),(.ref 818),(.int (1335) 0),(.int (609) 0),(.str sx0 1336)]⟩),#[]⟩
def k_820 (P:Params):Obj:=fO (fnD (stT 107) sx12 (.ref 819) .none (.str sx5 1271) .none .none .none 3 0)
def k_826 (P:Params):Obj:=⟨(.type "code"),none,(.fields ⟨[(.str sx8 1338),(.str sx8 1339),(.str sx0 1340),(.int (617) 0),(.int (1) 0),(.int (0) 0),(.int (0) 0),(.int (3) 0),(.ref 821),(.bool true),(.int (181) 0),(.ref 822),.none,(.ref 823),(.ref 824),(.ref 825),(.int (1350) 0),(.int (617) 0),(.str sx0 1351)]⟩),#[]⟩
def k_827 (P:Params):Obj:=fO (fnD (stT 108) sx8 (.ref 826) .none (.str sx5 1271) .none .none .none 3 0)
def k_831 (P:Params):Obj:=cO sx38 sx38 1353 625 1 0 0 3 828 (.bool true) 181 829 .none .none .none (.ref 830)
def k_832 (P:Params):Obj:=fO (fnD (stT 109) sx38 (.ref 831) .none (.str sx5 1271) .none .none .none 3 0)
def k_838 (P:Params):Obj:=⟨(.type "code"),none,(.fields ⟨[(.str sx11 1359),(.str sx11 1360),(.str sx0 1361),(.int (630) 0),(.int (1) 0),(.int (0) 0),(.int (0) 0),(.int (3) 0),(.ref 833),(.bool true),(.int (181) 0),(.ref 834),.none,(.ref 835),(.ref 836),(.ref 837),(.int (1363) 0),(.int (630) 0),(.str sx0 1364)]⟩),#[]⟩
def k_839 (P:Params):Obj:=fO (fnD (stT 110) sx11 (.ref 838) .none (.str sx5 1271) .none .none .none 3 0)
def k_843 (P:Params):Obj:=cO (S [108,97,119]) (S [108,97,119]) 1366 635 1 0 0 3 840 (.bool true) 181 841 .none .none .none (.ref 842)
def k_844 (P:Params):Obj:=fO (fnD (stT 111) (S [108,97,119]) (.ref 843) .none (.str sx5 1271) .none .none .none 3 0)
def frag (P:Params):Frag:=[(0,k_0 P),(3,k_3 P),(767,k_767 P),(831,k_831 P),(447,k_447 P),(799,k_799 P),(671,k_671 P),(607,k_607 P),(47,k_47 P),(783,k_783 P),(175,k_175 P),(559,k_559 P),(687,k_687 P),(495,k_495 P),(71,k_71 P),(775,k_775 P),(839,k_839 P),(551,k_551 P),(679,k_679 P),(231,k_231 P),(615,k_615 P),(791,k_791 P),(599,k_599 P),(183,k_183 P),(439,k_439 P),(643,k_643 P),(579,k_579 P),(163,k_163 P),(147,k_147 P),(531,k_531 P),(819,k_819 P),(523,k_523 P),(779,k_779 P),(651,k_651 P),(587,k_587 P),(843,k_843 P),(715,k_715 P),(363,k_363 P),(219,k_219 P),(475,k_475 P),(827,k_827 P),(5,k_5 P),(257,k_257 P),(545,k_545 P),(225,k_225 P),(481,k_481 P),(737,k_737 P),(785,k_785 P),(657,k_657 P),(593,k_593 P),(177,k_177 P),(369,k_369 P),(777,k_777 P),(489,k_489 P),(89,k_89 P),(153,k_153 P),(537,k_537 P),(665,k_665 P),(249,k_249 P),(37,k_37 P),(517,k_517 P),(773,k_773 P),(389,k_389 P),(453,k_453 P),(709,k_709 P),(805,k_805 P),(421,k_421 P),(357,k_357 P),(613,k_613 P),(565,k_565 P),(693,k_693 P),(629,k_629 P),(781,k_781 P),(397,k_397 P),(205,k_205 P),(461,k_461 P),(813,k_813 P),(621,k_621 P),(573,k_573 P),(701,k_701 P),(509,k_509 P),(765,k_765 P),(2,k_2 P),(4,k_4 P),(256,k_256 P),(768,k_768 P),(832,k_832 P),(544,k_544 P),(672,k_672 P),(736,k_736 P),(784,k_784 P),(176,k_176 P),(368,k_368 P),(496,k_496 P),(72,k_72 P),(776,k_776 P),(552,k_552 P),(488,k_488 P),(88,k_88 P),(792,k_792 P),(664,k_664 P),(184,k_184 P),(440,k_440 P),(36,k_36 P),(516,k_516 P),(644,k_644 P),(580,k_580 P),(164,k_164 P),(420,k_420 P),(356,k_356 P),(820,k_820 P),(628,k_628 P),(524,k_524 P),(780,k_780 P),(396,k_396 P),(204,k_204 P),(844,k_844 P),(460,k_460 P),(716,k_716 P),(812,k_812 P),(364,k_364 P),(572,k_572 P),(700,k_700 P),(764,k_764 P),(642,k_642 P),(226,k_226 P),(482,k_482 P),(530,k_530 P),(658,k_658 P),(594,k_594 P),(778,k_778 P),(650,k_650 P),(586,k_586 P),(154,k_154 P),(538,k_538 P),(218,k_218 P),(474,k_474 P),(826,k_826 P),(250,k_250 P),(774,k_774 P),(390,k_390 P),(838,k_838 P),(454,k_454 P),(806,k_806 P),(678,k_678 P),(230,k_230 P),(614,k_614 P),(598,k_598 P),(566,k_566 P),(694,k_694 P),(30,k_30 P),(46,k_46 P),(782,k_782 P),(174,k_174 P),(558,k_558 P),(622,k_622 P),(798,k_798 P),(446,k_446 P),(510,k_510 P)]
def ktOf (P:Params):KT:=(.node (some (k_0 P)) (.node none (.node (some (k_3 P)) (.node none (.node none (.node none (.node none (.node none (.node none .nil (.node (some (k_767 P)) .nil .nil)) .nil) (.node none (.node none .nil (.node (some (k_831 P)) .nil .nil)) (.node (some (k_447 P)) .nil .nil))) (.node none (.node none (.node none .nil (.node (some (k_799 P)) .nil .nil)) (.node none (.node (some (k_671 P)) .nil .nil) .nil)) (.node none (.node none (.node (some (k_607 P)) .nil .nil) .nil) .nil))) (.node (some (k_47 P)) (.node none (.node none (.node none .nil (.node (some (k_783 P)) .nil .nil)) .nil) .nil) (.node none (.node (some (k_175 P)) (.node none (.node (some (k_559 P)) .nil .nil) .nil) (.node none (.node (some (k_687 P)) .nil .nil) .nil)) (.node none .nil (.node (some (k_495 P)) .nil .nil))))) (.node none (.node none (.node (some (k_71 P)) (.node none (.node none .nil (.node (some (k_775 P)) .nil .nil)) .nil) (.node none (.node none .nil (.node (some (k_839 P)) .nil .nil)) .nil)) (.node none (.node none (.node none (.node (some (k_551 P)) .nil .nil) .nil) (.node none (.node (some (k_679 P)) .nil .nil) .nil)) (.node (some (k_231 P)) (.node none (.node (some (k_615 P)) .nil .nil) .nil) .nil))) (.node none (.node none (.node none (.node none .nil (.node (some (k_791 P)) .nil .nil)) .nil) (.node none (.node none (.node (some (k_599 P)) .nil .nil) .nil) .nil)) (.node none (.node (some (k_183 P)) .nil (.node (some (k_439 P)) .nil .nil)) .nil)))) (.node none (.node none (.node none (.node none (.node none .nil (.node none (.node (some (k_643 P)) .nil .nil) .nil)) (.node none (.node none (.node (some (k_579 P)) .nil .nil) .nil) .nil)) (.node none (.node (some (k_163 P)) .nil .nil) .nil)) (.node none (.node none (.node (some (k_147 P)) (.node none (.node (some (k_531 P)) .nil .nil) .nil) .nil) .nil) (.node none (.node none (.node none .nil (.node (some (k_819 P)) .nil .nil)) .nil) .nil))) (.node none (.node none (.node none (.node none (.node none (.node (some (k_523 P)) .nil .nil) (.node (some (k_779 P)) .nil .nil)) (.node none (.node (some (k_651 P)) .nil .nil) .nil)) (.node none (.node none (.node (some (k_587 P)) .nil .nil) (.node (some (k_843 P)) .nil .nil)) (.node none (.node (some (k_715 P)) .nil .nil) .nil))) (.node none .nil (.node none (.node (some (k_363 P)) .nil .nil) .nil))) (.node none (.node none .nil (.node (some (k_219 P)) .nil (.node (some (k_475 P)) .nil .nil))) (.node none (.node none (.node none .nil (.node (some (k_827 P)) .nil .nil)) .nil) .nil))))) (.node (some (k_5 P)) (.node none (.node none (.node none (.node none (.node none (.node (some (k_257 P)) .nil .nil) .nil) .nil) (.node none (.node none (.node none (.node (some (k_545 P)) .nil .nil) .nil) .nil) (.node (some (k_225 P)) .nil (.node (some (k_481 P)) (.node (some (k_737 P)) .nil .nil) .nil)))) (.node none (.node none (.node none (.node none .nil (.node (some (k_785 P)) .nil .nil)) (.node none (.node (some (k_657 P)) .nil .nil) .nil)) (.node none (.node none (.node (some (k_593 P)) .nil .nil) .nil) .nil)) (.node none (.node (some (k_177 P)) .nil .nil) (.node none (.node (some (k_369 P)) .nil .nil) .nil)))) (.node none (.node none (.node none (.node none (.node none .nil (.node (some (k_777 P)) .nil .nil)) .nil) .nil) (.node none .nil (.node none .nil (.node (some (k_489 P)) .nil .nil)))) (.node none (.node (some (k_89 P)) (.node (some (k_153 P)) (.node none (.node (some (k_537 P)) .nil .nil) .nil) (.node none (.node (some (k_665 P)) .nil .nil) .nil)) .nil) (.node none .nil (.node (some (k_249 P)) .nil .nil))))) (.node none (.node none (.node (some (k_37 P)) (.node none (.node none (.node none (.node (some (k_517 P)) .nil .nil) (.node (some (k_773 P)) .nil .nil)) (.node (some (k_389 P)) .nil .nil)) (.node none .nil (.node (some (k_453 P)) (.node (some (k_709 P)) .nil .nil) .nil))) (.node none (.node none (.node none .nil (.node (some (k_805 P)) .nil .nil)) (.node (some (k_421 P)) .nil .nil)) (.node none (.node (some (k_357 P)) (.node (some (k_613 P)) .nil .nil) .nil) .nil))) (.node none .nil (.node none (.node none (.node none (.node (some (k_565 P)) .nil .nil) .nil) (.node none (.node (some (k_693 P)) .nil .nil) .nil)) (.node none (.node none (.node (some (k_629 P)) .nil .nil) .nil) .nil)))) (.node none (.node none (.node none (.node none (.node none .nil (.node (some (k_781 P)) .nil .nil)) (.node (some (k_397 P)) .nil .nil)) (.node (some (k_205 P)) .nil (.node (some (k_461 P)) .nil .nil))) (.node none (.node none (.node none .nil (.node (some (k_813 P)) .nil .nil)) .nil) (.node none (.node none (.node (some (k_621 P)) .nil .nil) .nil) .nil))) (.node none .nil (.node none (.node none (.node none (.node (some (k_573 P)) .nil .nil) .nil) (.node none (.node (some (k_701 P)) .nil .nil) .nil)) (.node none .nil (.node (some (k_509 P)) (.node (some (k_765 P)) .nil .nil) .nil)))))))) (.node (some (k_2 P)) (.node (some (k_4 P)) (.node none (.node none (.node none (.node none (.node none (.node (some (k_256 P)) .nil (.node (some (k_768 P)) .nil .nil)) .nil) (.node none (.node none .nil (.node (some (k_832 P)) .nil .nil)) .nil)) (.node none (.node none (.node none (.node (some (k_544 P)) .nil .nil) .nil) (.node none (.node (some (k_672 P)) .nil .nil) .nil)) (.node none .nil (.node none (.node (some (k_736 P)) .nil .nil) .nil)))) (.node none (.node none (.node none (.node none .nil (.node (some (k_784 P)) .nil .nil)) .nil) .nil) (.node none (.node (some (k_176 P)) .nil .nil) (.node none (.node (some (k_368 P)) .nil .nil) (.node (some (k_496 P)) .nil .nil))))) (.node none (.node none (.node (some (k_72 P)) (.node none (.node none .nil (.node (some (k_776 P)) .nil .nil)) .nil) .nil) (.node none (.node none (.node none (.node (some (k_552 P)) .nil .nil) .nil) .nil) (.node none .nil (.node (some (k_488 P)) .nil .nil)))) (.node none (.node (some (k_88 P)) (.node none (.node none .nil (.node (some (k_792 P)) .nil .nil)) (.node none (.node (some (k_664 P)) .nil .nil) .nil)) .nil) (.node none (.node (some (k_184 P)) .nil (.node (some (k_440 P)) .nil .nil)) .nil)))) (.node none (.node none (.node (some (k_36 P)) (.node none (.node none (.node none (.node (some (k_516 P)) .nil .nil) .nil) (.node none (.node (some (k_644 P)) .nil .nil) .nil)) (.node none (.node none (.node (some (k_580 P)) .nil .nil) .nil) .nil)) (.node none (.node (some (k_164 P)) .nil (.node (some (k_420 P)) .nil .nil)) (.node none (.node (some (k_356 P)) .nil .nil) .nil))) (.node none .nil (.node none (.node none (.node none .nil (.node (some (k_820 P)) .nil .nil)) .nil) (.node none (.node none (.node (some (k_628 P)) .nil .nil) .nil) .nil)))) (.node none (.node none (.node none (.node none (.node none (.node (some (k_524 P)) .nil .nil) (.node (some (k_780 P)) .nil .nil)) (.node (some (k_396 P)) .nil .nil)) (.node (some (k_204 P)) (.node none .nil (.node (some (k_844 P)) .nil .nil)) (.node (some (k_460 P)) (.node (some (k_716 P)) .nil .nil) .nil))) (.node none (.node none (.node none .nil (.node (some (k_812 P)) .nil .nil)) .nil) (.node none (.node (some (k_364 P)) .nil .nil) .nil))) (.node none .nil (.node none (.node none (.node none (.node (some (k_572 P)) .nil .nil) .nil) (.node none (.node (some (k_700 P)) .nil .nil) .nil)) (.node none .nil (.node none (.node (some (k_764 P)) .nil .nil) .nil))))))) (.node none (.node none (.node none (.node none (.node none (.node none .nil (.node none (.node (some (k_642 P)) .nil .nil) .nil)) .nil) (.node none .nil (.node (some (k_226 P)) .nil (.node (some (k_482 P)) .nil .nil)))) (.node none (.node none (.node none (.node none (.node (some (k_530 P)) .nil .nil) .nil) (.node none (.node (some (k_658 P)) .nil .nil) .nil)) (.node none (.node none (.node (some (k_594 P)) .nil .nil) .nil) .nil)) .nil)) (.node none (.node none (.node none (.node none (.node none .nil (.node (some (k_778 P)) .nil .nil)) (.node none (.node (some (k_650 P)) .nil .nil) .nil)) (.node none (.node none (.node (some (k_586 P)) .nil .nil) .nil) .nil)) .nil) (.node none (.node none (.node (some (k_154 P)) (.node none (.node (some (k_538 P)) .nil .nil) .nil) .nil) (.node (some (k_218 P)) .nil (.node (some (k_474 P)) .nil .nil))) (.node none (.node none (.node none .nil (.node (some (k_826 P)) .nil .nil)) .nil) (.node (some (k_250 P)) .nil .nil))))) (.node none (.node none (.node none (.node none (.node none (.node none .nil (.node (some (k_774 P)) .nil .nil)) (.node (some (k_390 P)) .nil .nil)) (.node none (.node none .nil (.node (some (k_838 P)) .nil .nil)) (.node (some (k_454 P)) .nil .nil))) (.node none (.node none (.node none .nil (.node (some (k_806 P)) .nil .nil)) (.node none (.node (some (k_678 P)) .nil .nil) .nil)) (.node (some (k_230 P)) (.node none (.node (some (k_614 P)) .nil .nil) .nil) .nil))) (.node none (.node none .nil (.node none (.node none (.node (some (k_598 P)) .nil .nil) .nil) .nil)) (.node none (.node none (.node none (.node (some (k_566 P)) .nil .nil) .nil) (.node none (.node (some (k_694 P)) .nil .nil) .nil)) .nil))) (.node (some (k_30 P)) (.node (some (k_46 P)) (.node none (.node none (.node none .nil (.node (some (k_782 P)) .nil .nil)) .nil) .nil) (.node none (.node (some (k_174 P)) (.node none (.node (some (k_558 P)) .nil .nil) .nil) .nil) (.node none (.node none (.node (some (k_622 P)) .nil .nil) .nil) .nil))) (.node none (.node none (.node none (.node none .nil (.node (some (k_798 P)) .nil .nil)) .nil) .nil) (.node none (.node none .nil (.node (some (k_446 P)) .nil .nil)) (.node none .nil (.node (some (k_510 P)) .nil .nil)))))))))
noncomputable def addrs:List Nat:=[0,3,767,831,447,799,671,607,47,783,175,559,687,495,71,775,839,551,679,231,615,791,599,183,439,643,579,163,147,531,819,523,779,651,587,843,715,363,219,475,827,5,257,545,225,481,737,785,657,593,177,369,777,489,89,153,537,665,249,37,517,773,389,453,709,805,421,357,613,565,693,629,781,397,205,461,813,621,573,701,509,765,2,4,256,768,832,544,672,736,784,176,368,496,72,776,552,488,88,792,664,184,440,36,516,644,580,164,420,356,820,628,524,780,396,204,844,460,716,812,364,572,700,764,642,226,482,530,658,594,778,650,586,154,538,218,474,826,250,774,390,838,454,806,678,230,614,598,566,694,30,46,782,174,558,622,798,446,510]
noncomputable def fldO:Obj:=⟨.none,none,.fields ⟨[]⟩,#[]⟩
def Vt:List Nat:=829::834::841::addrs
def Kz (P:Params):Frag:=(829,fldO)::(834,fldO)::(841,fldO)::frag P
def qv:Program:={PW with main:={PW.main with body:=[stT 111]}}
def loose:List Str:=[S [95,119,97,108,108],sx14,S [84,111,107,101,110,70,97,117,108,116],sx13,S [70,73,71,85,82,69,83],S [99,117,116,95,113,117,111,116,105,101,110,116],sx55,S [110,101,103,97,116,101,100],S [117,110,105,116,115,95,97,116],S [105,115,95,119,104,111,108,101],S [119,104,111,108,101,95,111,102],S [119,111,114,116,104,95,111,102],S [114,101,97,100,95,100,101,99,105,109,97,108],S [119,114,105,116,101,95,100,101,99,105,109,97,108],S [77,79,83,84,95,70,73,71,85,82,69,83],sx57,sx58,S [77,79,83,84,95,83,85,66,83,67,82,73,80,84,83],S [70,73,71,85,82,69,95,78,65,77,69,83],S [70,73,71,85,82,69,95,83,72,79,87,78],sx28,S [114,101,97,100,95,115,117,98,115,99,114,105,112,116,115],S [114,101,97,100,95,112,97,114,116],sx51,S [114,101,97,100,95,97,108,108],sx33,sx29,sx21,S [115,104,111,119,110,95,110,117,109,98,101,114],S [115,104,111,119,110,95,115,117,98,115,99,114,105,112,116,115],sx48,sx22,S [77,79,83,84,95,68,69,69,80],S [83,73,71,78,69,68],S [82,65,73,83,69,68],S [66,65,82,69],S [76,69,86,69,76,83],S [114,101,97,100,95,101,120,112,114,101,115,115,105,111,110],S [115,105,103,110,95,97,109,111,110,103],S [114,101,97,100,95,115,117,109],S [114,101,97,100,95,112,114,111,100,117,99,116],S [114,101,97,100,95,102,97,99,116,111,114],S [105,115,95,108,111,110,101,95,110,117,109,98,101,114],S [114,101,97,100,95,112,111,119,101,114],S [114,101,97,100,95,112,114,105,109,97,114,121],S [108,101,118,101,108,95,111,102],S [98,114,97,99,107,101,116,101,100],S [115,104,111,119,95,101,120,112,114,101,115,115,105,111,110],S [114,105,103,104,116,95,112,97,114,116],S [115,104,111,119,95,115,105,103,110,101,100],S [80,72,82,65,83,69,83],sx23,sx49,sx59,S [119,111,114,100,101,100],S [114,101,102,95,98,101,104,105,110,100,95,119,111,114,100],sx6,sx54,S [115,104,111,119,95,98,111,100,121],S [115,104,111,119,95,112,104,114,97,115,101],S [115,104,111,119,95,98,114,97,110,99,104,101,115],sx34,S [115,104,111,119,95,115,116,114,105,110,103],S [115,104,111,119,95,117,110,115,116,114,105,110,103],sx44,sx24,sx19,sx25,S [115,104,111,119,95,99,111,110,118,101,114,116],sx40,S [70,73,71,85,82,69,95,87,79,82,68,83],sx41,sx15,sx50,S [114,101,102,117,115,101,95,97,116],sx26,sx45,sx35,sx36,sx37,sx27,sx10,sx31,sx56,sx20,sx7,sx30,S [77,79,83,84,95,79,67,84,69,84],S [82,69,83,69,82,86,69,68],sx32,sx16,sx52,S [95,108,97,119,95,115,111,114,116,115],sx42,sx46,sx47,sx39,sx12,sx8,sx38,sx11]
noncomputable abbrev wB (w:World) (b:Bool):World:=w.withFollow "special-get-raises" b
noncomputable def atT (s:SharedT) (a:Nat):Option Obj:=match Nat.blt a s.n with
 |true=>alive ((s.tree.get a).getD default)
 |false=>none
def seenB (w:World) (s:SharedT):=(staticsOk (importedModules PW.main.body) (boot_heap w.params) s.abs.heap && namesBound PW s.abs.heap && gensDone s.abs && laidKept (boot_heap w.params) s.abs.heap,
 PySem.W.Fast.tw4187177175401517315 qv loose (importedModules PW.main.body) (fun _=>true) true s.abs,(Vt.map (atT s),s.n,s.toks))
theorem runF (w:World) (os:OsState):(runX PW (wB w false) 11 (some (.ref 6)) 5200 (S0 (wB w false) os) (topStub PW)).map (seenB (wB w false))=some (true,openGood qv loose,valZ Kz 845 1372 (wB w false)):=by kernel_rfl
theorem runT' (w:World) (os:OsState):(runX PW (wB w true) 11 (some (.ref 6)) 5200 (S0 (wB w true) os) (topStub PW)).map (seenB (wB w true))=some (true,openGood qv loose,valZ Kz 845 1372 (wB w true)):=by kernel_rfl
theorem seen_eq (s:Shared):PySem.W.Fast.tw4187177175401517315 qv loose (importedModules PW.main.body) (fun _=>true) true s=openSeen qv loose (importedModules PW.main.body) (fun _=>true) true s:=by
 rw [←PySem.W.Fast.te4187177175401517315]
theorem atT_eq (s:SharedT) (a:Nat):atT s a=s.abs.heap.get? a:=by
 unfold atT
 cases e:Nat.blt a s.n with
 |true =>
  have lt:a < s.n:=Nat.le_of_ble_eq_true e
  show _=Heap.get? (absHeap s.tree s.n s.life) a
  unfold Heap.get?
  rw [absHeap_at,if_pos lt]
  obtain ⟨c,d,dt,sl⟩:=(s.tree.get a).getD default
  cases dt <;> rfl
 |false =>
  have nlt:¬ a < s.n:=fun q=>by rw [show Nat.blt a s.n=true from Nat.ble_eq_true_of_le q] at e;cases e
  exact (abs_get_none nlt).symm
theorem runAll (w:World) (os:OsState):(runX PW w 11 (some (.ref 6)) 5200 (S0 w os) (topStub PW)).map (seenB w)=some (true,openGood qv loose,valZ Kz 845 1372 w):=by
 have e:=World.withFollow_self w "special-get-raises"
 have h1:=runF w os
 have h2:=runT' w os
 cases hb:w.params.followText "special-get-raises" <;> rw [hb] at e
 ·rw [show wB w false=w from e] at h1;exact h1
 ·rw [show wB w true=w from e] at h2;exact h2
theorem size0 (P:Params):((boot_heap P).isNs mainGlobals,(boot_heap P).objs.size,(boot_heap P).nsMap mainGlobals "__annotations__")=(true,11,some (.ref 6)):=by kernel_rfl
theorem opening_eq:opening PW=plainProg PW.main.scope.names:=by kernel_rfl
theorem fence_eq (s:Shared):fenceModules? PW s=some s:=by kernel_rfl
theorem topFrom_eq {w:World} {N:Nat} {s₀ s₁:Shared} {n:Nat} {ann:Option Value} (h0:(s₀.heap.isNs mainGlobals && s₀.gens.size == 0)=true) (hn:s₀.heap.objs.size=n) (ha:s₀.heap.nsMap mainGlobals "__annotations__" = ann)
  (hr:topRun treeTable PW w n ann N s₀ (topStub PW)=some s₁) (hk:(staticsOk (importedModules PW.main.body) s₀.heap s₁.heap && namesBound PW s₁.heap && gensDone s₁ && laidKept s₀.heap s₁.heap)=true):topFrom treeTable PW w N s₀=some s₁:=by
 unfold topFrom
 rw [h0,hn,ha,hr]
 simp only [Option.bind_some]
 rw [hk]
theorem openEnds_eq {w:World} {N:Nat} {s₀ s₁:Shared} (h0:fencedOpening treeTable PW w N=some s₀) (h1:topFrom treeTable PW w N s₀=some s₁):openEnds treeTable PW w N=some s₁:=by
 unfold openEnds
 rw [h0,Option.bind_some,h1]
theorem leftO:LeftO PW qv loose (fun _=>true) (obsZ Vt) (valZ Kz 845 1372) 5200:=fun w=>by
 obtain ⟨s,hs,hv⟩:=Option.map_eq_some_iff.mp (boot_open (p:=PW) (N:=5200) opening_eq (by decide) fence_eq w)
 obtain ⟨h,gs,d,k,os⟩:=s
 obtain ⟨rfl,rfl,rfl,rfl⟩:h=boot_heap w.params∧gs=#[]∧d=boot_drawn∧k=boot_toks:=by simpa using hv
 obtain ⟨s',h1,h2⟩:=Option.map_eq_some_iff.mp (runAll w os)
 unfold seenB at h2
 rw [Prod.mk.injEq,Prod.mk.injEq] at h2
 obtain ⟨e1,e2,e3⟩:=h2
 rw [runX_eq] at h1
 have r:=runT_of h1
 rw [boot_abs] at r
 have z:=size0 w.params
 rw [Prod.mk.injEq,Prod.mk.injEq] at z
 obtain ⟨z1,z2,z3⟩:=z
 have t:=topFrom_eq (w:=w) (N:=5200) (s₀:=⟨boot_heap w.params,#[],boot_drawn,boot_toks,os⟩) (s₁:=s'.abs) (by simp only [z1];rfl) z2 z3 r e1
 rw [openEnds_eq hs t,Option.map_some]
 rw [seen_eq] at e2
 rw [e2,←e3]
 unfold obsZ
 rw [show Vt.map s'.abs.heap.get?=Vt.map (atT s') from List.map_congr_left fun a _=>(atT_eq s' a).symm]
 rw [show s'.abs.heap.objs.size=s'.n from absHeap_size ..]
 rfl
theorem recs0 (h:Heap):RecFacts LW.row.toRowW.records h:=recFacts_of (s:={heap:=h}) (by rfl)
theorem dSome:(defOf qv LW.row.name).isSome=true:=by kernel_rfl
def KB:DefRec×List (Str×PySem.Expr):=(defOf qv LW.row.name).get dSome
theorem ok1:(chainsOk qv && opensWell LW.row.prog && (frees LW.row.toRowW && LW.row.within.isEmpty))=true:=by kernel_rfl
theorem defL:defOf qv LW.row.name=some KB:=by kernel_rfl
theorem defP:LW.row.prog.theDef LW.row.name=some (KB.1.params,KB.1.body,KB.1.scope):=by kernel_rfl
theorem defK:kwWritten? KB.1.params.kwonlyargs KB.1.params.kw_defaults=some KB.2:=by kernel_rfl
theorem bare1':LW.row.prog.bare:=⟨rfl,rfl,rfl,rfl,rfl,by decide +kernel⟩
theorem prom:LW.row.toRowW.promised:=by w_witness2
theorem hdH (call:WalkX qv loose (fun _ _=>True) (obsZ Vt) (valZ Kz 845 1372) LW.row.toRowW KB.1 KB.2 fun f vs=>PySem.call f vs):LW.Holds :=
 holds_law said fun said=>holds_openX (q:=qv) (loose:=loose) (Xt:=fun _=>true) (XP:=fun _ _=>True) (Yf:=obsZ Vt) (Ya:=valZ Kz 845 1372) (N:=5200) leftO
  (fun _ _=>trivial) (fun _ _ _ _ _=>trivial) defL defP defK (fun s _=>recs0 s.heap) (by rfl) said ok1 bare1' prom call
def ktP (w:World):KT:=ktOf w.params
theorem sk {Q P:Prop} (h:P):Q→P:=fun _=>h
noncomputable def QW:Out→List Addr
 |.eqA a _ r=>a::QW r
 |.must _ r=>QW r
 |.may _ r=>QW r
 |.log _ r=>QW r
 |_=>[]
noncomputable def QV:Out→List Addr
 |.eqA _ b r=>b::QV r
 |.must _ r=>QV r
 |.may _ r=>QV r
 |.log _ r=>QV r
 |_=>[]
noncomputable def bare:Value→Value
 |.int i _ => .int i 0
 |.float b _ => .float b 0
 |.str s _ => .str s 0
 |.bytes b _ => .bytes b 0
 |v=>v
inductive KC where
 |no
 |ret (v:Value)
 |err (v:Value)
 |flow
noncomputable def endV:Out→KC
 |.eqA _ _ r=>endV r
 |.must _ r=>endV r
 |.may _ r=>endV r
 |.log _ r=>endV r
 |.fin r _ _ _=>match r with
  |.ok f=>match f with
   |.ret v => .ret (bare v)
   |_ => .flow
  |.error e => .err e
 |_ => .no
noncomputable def vD:Out→List (Bool×Prop)
 |.eqA _ _ r=>vD r
 |.must P r=>(true,P)::vD r
 |.may P r=>(false,P)::vD r
 |.log _ r=>vD r
 |_=>[]
noncomputable def Nest:List (Bool×Prop)→Prop→Prop
 |[],G=>G
 |p::l,G=>match p with
  |(b,P)=>match b with
   |true=>P∧Nest l G
   |false=>P→Nest l G
theorem good_nest {X:Out} {F:Result→List En→Nat→Nat→Prop} {v:Value}:∀ {ps:List (Bool×Prop)},(QW X,vD X,endV X)=(QV X,ps,.ret v)→Nest ps (∀ x m n tk,bare x=v→F (.ok (.ret x)) m n tk)→qU F X:=by
 intro ps e
 have e1:=congrArg (·.1) e
 have e2:=congrArg (·.2.1) e
 have e3:=congrArg (·.2.2) e
 dsimp only at e1 e2 e3
 clear e
 induction X generalizing ps with
 |stop=>cases e3
 |short=>cases e3
 |log _ r ih=>exact fun k=>ih e1 e2 e3 k
 |eqA a b r ih =>
  simp only [QW,QV,List.cons.injEq] at e1
  exact fun k=>⟨e1.1,ih e1.2 e2 e3 k⟩
 |must P r ih =>
  cases ps with
  |nil=>simp [vD] at e2
  |cons p l =>
   simp only [vD,List.cons.injEq] at e2
   obtain ⟨rfl,e2⟩:=e2
   exact fun k=>⟨k.1,ih e1 e2 e3 k.2⟩
 |may P r ih =>
  cases ps with
  |nil=>simp [vD] at e2
  |cons p l =>
   simp only [vD,List.cons.injEq] at e2
   obtain ⟨rfl,e2⟩:=e2
   exact fun k p=>ih e1 e2 e3 (k p)
 |fin r m n tk =>
  cases ps with
  |cons=>simp [vD] at e2
  |nil =>
   intro k
   cases r with
   |error=>cases e3
   |ok f =>
    cases f with
    |ret x=>simp only [endV,KC.ret.injEq] at e3;exact k x m n tk e3
    |next=>cases e3
    |brk=>cases e3
    |cont=>cases e3
abbrev CkN {α:Type} (v:Value) (ps:List (Bool×Prop)) (X:α→Out) (a:α):Prop:=(QW (X a),vD (X a),endV (X a))=(QV (X a),ps,.ret v)
theorem qX {X:Bool→Out} {F:Result→List En→Nat→Nat→Prop} {v:Value} {ps:List (Bool×Prop)} (e0:CkN v ps X false) (e1:CkN v ps X true) (k:∀ P:Prop,((∀ x m n tk,bare x=v→F (.ok (.ret x)) m n tk)→P)→Nest ps P):∀ b,qU F (X b)
 |false=>good_nest e0 (k _ id)
 |true=>good_nest e1 (k _ id)
noncomputable abbrev Jh:=PySem.W.ZFast.zw14044960220447912780
noncomputable abbrev JX:=PySem.W.ZFast.zw12563942051412417395
noncomputable abbrev zIsTrue:=PySem.W.ZFast.zw15418851999007992765
noncomputable abbrev zMarked:=PySem.W.ZFast.zw2344580865713695371
noncomputable abbrev zEach:=PySem.W.ZFast.zw10458482166411082596
noncomputable abbrev zTruthy:=PySem.W.ZFast.zw15245631507167962100
noncomputable abbrev zTypeOf:=PySem.W.ZFast.zw14684505520029207082
noncomputable abbrev zTry:=PySem.W.ZFast.zw3989567798202555795
noncomputable abbrev zInfo:=PySem.W.ZFast.zw363932546726248868
noncomputable abbrev zOne:=PySem.W.ZFast.zw13092491172507696223
def richF (op:CmpOp) (a b:Value):Sem Value:=match zOne op a b with
 |some _ => .unsupported ""
 |none=>match zInfo op with
  |(_,f,_)=>PySem.W.R.bindR (zTypeOf a) fun ta=>PySem.W.R.bindR (zTypeOf b) fun tb=>match ta != tb with
   |true => .unsupported ""
   |false=>PySem.W.R.bindR (zTry a f b) fun r=>match r with
    |some v => .pure v
    |none => .unsupported ""
def chainF (pos:Pos) (left:Value) (ops:List CmpOp) (rs:List (Sem Value)):Sem Bool:=match ops with
 |[op]=>match rs with
  |[r]=>PySem.W.R.bindR (r) fun rv => .at pos fun _=>PySem.W.R.bindR ((match op with
   |.Eq=>richF .Eq left rv
   |.NotEq=>richF .NotEq left rv
   |_ => .unsupported "")) fun c=>zTruthy c
  |_ => .unsupported ""
 |_ => .unsupported ""
noncomputable def eqOps (ops:List CmpOp):Bool:=match ops with
 |[op]=>match op with
  |.Eq=>true
  |.NotEq=>true
  |_=>false
 |_=>false
noncomputable def ifS {α:Type} (b:Bool) (x y:Sem α):Sem α:=match b with | true=>x | false=>y
def cmpF (e:PySem.Expr) (env:Env):Sem Bool:=match e with
 |.Compare left ops comps pos=>ifS (eqOps ops)
  (PySem.W.R.bindR (Jh left env) fun l=>chainF pos l ops (zMarked ops comps (zEach comps env)))
  (zIsTrue e env (Jh e env))
 |_=>zIsTrue e env (Jh e env)
noncomputable def allF (op:BoolOp) (values:List PySem.Expr) (env:Env):Sem Bool:=match values with
 |[] => .pure (op == .And)
 |x::rest=>PySem.W.R.bindR (cmpF x env) fun b=>match op,b with
  |.And,false => .pure false
  |.Or,true => .pure true
  |_,_=>allF op rest env
def testF (e:PySem.Expr) (env:Env):Sem Bool:=match e with
 |.BoolOp op values _=>allF op values env
 |_=>cmpF e env
noncomputable abbrev zAttrBase:=PySem.W.ZFast.zw15487144857313948548
noncomputable abbrev zCallee:=PySem.W.ZFast.zw11328156115524847652
noncomputable abbrev zMPos:=PySem.W.ZFast.zw6137100228056946695
noncomputable abbrev zKeeper:=PySem.W.ZFast.zw6818842538254311539
noncomputable abbrev zNewList:=PySem.W.ZFast.zw2244487426110161322
noncomputable abbrev zNewTuple:=PySem.W.ZFast.zw6357449854754888395
noncomputable abbrev zBin:=PySem.W.ZFast.zw2036766266224100846
noncomputable abbrev zSub:=PySem.W.ZFast.zw14719866407330433166
noncomputable abbrev zInPy:=PySem.W.ZFast.zw6419732855643282528
noncomputable abbrev zLetGo:=PySem.W.ZFast.zw4759339933501494510
noncomputable abbrev YW:=PySem.W.ZFast.zw7998390705656384164
noncomputable abbrev zNotIter:=PySem.W.ZFast.zw7521042022983241851
noncomputable abbrev zIter:=PySem.W.ZFast.zw8711993805878244202
noncomputable abbrev zNext:=PySem.W.ZFast.zw9404975358583537561
noncomputable abbrev zSwaps:=PySem.W.ZFast.zw17223243974762974889
noncomputable abbrev zSwapsSole:=PySem.W.ZFast.zw7783108440312521181
noncomputable abbrev zSwapped:=PySem.W.ZFast.zw4016559146275205325
noncomputable abbrev zDrop:=PySem.W.ZFast.zw12372662630863984472
noncomputable abbrev zCall:Value→List Value→List (Str×Value)→Sem Value:=@PySem.W.ZFast.zw11478286150595567475
noncomputable abbrev zInter:=PySem.W.ZFast.zw15112477048112897374
noncomputable abbrev zAssign:=PySem.W.ZFast.zw17772580674575903948
noncomputable def isStar:PySem.Expr→Bool
 |.Starred ..=>true
 |_=>false
noncomputable def Jd:List PySem.Expr→Bool
 |[]=>false
 |e::l=>isStar e || Jd l
noncomputable def splF:List (Sem Value)→Sem (List Value)
 |[] => .pure []
 |x::rest=>PySem.W.R.bindR (x) fun v=>PySem.W.R.bindR (splF rest) fun l => .pure (v::l)
def callF (pos:Pos) (f:Value) (first:List Value) (n:Nat) (args:Sem (List Value)):Sem Value :=
 PySem.W.R.bindR (args) fun a => .at pos fun _=>PySem.W.R.bindR (zKeeper f) fun _=>zCall f (first++a) []
noncomputable def yh (ev:PySem.Expr→Sem Value):List PySem.Expr→List (Sem Value)
 |[]=>[]
 |e::l=>ev e::yh ev l
noncomputable def isAttr:PySem.Expr→Bool
 |.Attribute ..=>true
 |_=>false
noncomputable def onAttr (e:PySem.Expr) (A:PySem.Expr→Str→Pos→Sem Value) (B:Sem Value):Sem Value:=match e with
 |.Attribute o n p=>A o n p
 |_=>B
noncomputable def Qn:Nat→PySem.Expr→Env→Sem Value
 |0,e,env=>Jh e env
 |n+1,e,env=>match e with
  |.Call func args kws pos=>match kws with
   |[]=>ifS (Jd args) (Jh e env) <| onAttr func
     (fun o name apos=>PySem.W.R.bindR (zAttrBase o name env (Jh o env)) fun ov => .at apos.atName fun _=>PySem.W.R.bindR (zCallee (Nat.blt args.length 30) o env ov name) fun fo=>match fo with
      |(f,first)=>PySem.W.R.bindR (zMPos (Nat.blt args.length 30) o env apos pos) fun callPos=>callF callPos f first args.length (splF (yh (fun e=>Qn n e env) args)))
     (PySem.W.R.bindR (Jh func env) fun f=>callF pos f [] args.length (splF (yh (fun e=>Qn n e env) args)))
   |_=>Jh e env
  |.List elts pos=>ifS (Jd elts) (Jh e env) <| .at pos fun _=>PySem.W.R.bindR (splF (yh (fun e=>Qn n e env) elts)) fun l=>zNewList l
  |.Tuple elts _ pos=>ifS (Jd elts) (Jh e env) <| .at pos fun _=>PySem.W.R.bindR (splF (yh (fun e=>Qn n e env) elts)) fun l=>zNewTuple l
  |.BinOp l op r pos=>PySem.W.R.bindR (Qn n l env) fun a=>PySem.W.R.bindR (Qn n r env) fun b => .at pos fun _=>zBin op a b
  |.IfExp test body orelse _=>PySem.W.R.bindR (testF test env) fun t=>ifS t (Qn n body env) (Qn n orelse env)
  |.Subscript value slice pos=>PySem.W.R.bindR (Qn n value env) fun o=>PySem.W.R.bindR (Qn n slice env) fun i => .at pos fun _=>PySem.W.R.bindR (zInPy o) fun g=>PySem.W.R.bindR (zSub slice g o i) fun r=>PySem.W.R.bindR (zLetGo value o r) fun _ => .pure r
  |_=>Jh e env
noncomputable def drawF (it:Value):Nat→Sem (List Value)
 |0 => .pure []
 |n+1=>PySem.W.R.bindR (zNext it) fun r=>match r with
  |none => .unsupported ""
  |some v=>PySem.W.R.bindR (drawF it n) fun l => .pure (v::l)
def itemsF (v:Value) (n:Nat):Sem (List Value):=PySem.W.R.bindR (zNotIter v) fun b=>match b with
 |true => .unsupported ""
 |false=>PySem.W.R.bindR (zIter v) fun it=>PySem.W.R.bindR (drawF it n) fun items=>PySem.W.R.bindR (zNext it) fun r=>match r with
  |some _ => .unsupported ""
  |none => .pure items
noncomputable def isName:PySem.Expr→Bool
 |.Name ..=>true
 |_=>false
noncomputable def nameOf:PySem.Expr→Str×Pos
 |.Name id pos=>(id,pos)
 |_=>default
noncomputable def Yz:List PySem.Expr→Option (List (Str×Pos))
 |[]=>some []
 |e::l=>oT (isName e) <| oS (Yz l) fun r=>some (nameOf e::r)
noncomputable def storesF (env:Env):List (Str×Pos)→List Value→Sem Unit
 |p::ps,x::xs => .at p.2 fun _=>PySem.W.R.bindR (YW env p.1 x) fun _=>storesF env ps xs
 |_,_ => .pure ()
def onNames {α:Type} (e:List PySem.Expr) (x:List (Str×Pos)→Sem α) (y:Sem α):Sem α:=match Yz e with
 |some ns=>x ns
 |none=>y
theorem names_or {α:Type} {e:List PySem.Expr} {x:List (Str×Pos)→Sem α} {y t:Sem α} (h1:∀ ns,Yz e=some ns→Sub (x ns) t) (h2:Sub y t):Sub (onNames e x y) t:=by
 unfold onNames
 cases q:Yz e with
 |some ns=>exact h1 ns q
 |none=>exact h2
def assignF (target:PySem.Expr) (env:Env) (v:Value):Sem Unit:=match target with
 |.Name id pos => .at pos fun _=>YW env id v
 |.Tuple elts _ pos=>onNames elts (fun ns => .at pos fun _=>PySem.W.R.bindR (itemsF v ns.length) fun items=>storesF env ns items) (zAssign target env v)
 |_=>zAssign target env v
noncomputable def swapF (env:Env):List Str→List Value→Sem Unit
 |n::ns,x::xs=>PySem.W.R.bindR (YW env n x) fun _=>swapF env ns xs
 |_,_ => .pure ()
noncomputable def listF (ex:Stmt→Sem Flow):List Stmt→Sem Flow
 |[] => .pure .next
 |s::rest=>PySem.W.R.bindR (ex s) fun f=>match f with
  |.next=>listF ex rest
  |f => .pure f
noncomputable def isComp:PySem.Expr→Bool
 |.ListComp ..=>true
 |.SetComp ..=>true
 |.DictComp ..=>true
 |_=>false
noncomputable def execF:Nat→Stmt→Env→Sem Flow
 |0,s,env=>JX [s] env
 |n+1,s,env=>match s with
  |.If test body orelse pos => .at pos fun _=>PySem.W.R.bindR (testF test env) fun b=>ifS b (listF (fun s=>execF n s env) body) (listF (fun s=>execF n s env) orelse)
  |.Expr value pos => .at pos fun _=>ifS (zInter env) (.unsupported "") <|
   PySem.W.R.bindR (zSwaps value none pos.line env) fun b=>ifS b (.unsupported "") <| PySem.W.R.bindR (Qn 20 value env) fun v=>zDrop value pos v
  |.Assign targets value pos=>ifS (isComp value) (JX [s] env) <| match targets with
   |[t] => .at pos fun _=>PySem.W.R.bindR (zSwapsSole [t] value pos.line env) fun b=>ifS b (.unsupported "") <|
    PySem.W.R.bindR (Qn 20 value env) fun v=>PySem.W.R.bindR (zSwapped [t] value env) fun sw=>match sw with
     |some names=>PySem.W.R.bindR (itemsF v names.length) fun items=>PySem.W.R.bindR (swapF env names.reverse items.reverse) fun _ => .pure .next
     |none=>PySem.W.R.bindR (assignF t env v) fun _ => .pure .next
   |_=>JX [s] env
  |.Return value pos=>match value with
   |some e => .at pos fun _=>PySem.W.R.bindR (Qn 20 e env) fun v => .pure (.ret v)
   |none=>JX [s] env
  |_=>JX [s] env
def execsF (n:Nat) (ss:List Stmt) (env:Env):Sem Flow:=listF (fun s=>execF n s env) ss
theorem jv {α β:Type} {t' t:Sem α} {f' f:α→Sem β} (h:Sub t' t) (hf:∀ x,Sub (f' x) (f x)):Sub (PySem.W.R.bindR (t') f') (t >>= f):=by
 intro M Γ Q E p s hu k
 rw [←PySem.W.R.bindR_eq] at k
 have k:Sem.wp M Γ (t' >>= f') Q E p s:=k
 rw [Sem.wp_bind'] at k ⊢
 exact h M Γ _ _ p s hu (Sem.wp_mono M Γ t' (fun x p' s' z=>hf x M Γ _ _ p' s' hu z) (fun _ _ _ z=>z) p s k)
theorem Ji {α:Type} {t:Sem α} {w:String}:Sub (.unsupported w) t:=fun _ _ _ _ _ _ _ k=>k.elim
theorem vk {α:Type} (a:α):Sub (.pure a) (pure a):=fun _ _ _ _ _ _ _ k=>k
theorem vo {α:Type} {t' t:Sem α} (vs:List Value) (h:Sub t' t):Sub t' (holding vs t):=by
 intro M Γ Q E p s hu k
 rw [Sem.wp_holding]
 exact h M Γ Q E p s hu k
theorem Ko {t' t:Sem Value} (vs:List Value) (h:Sub t' t):Sub t' (operate vs t):=by
 intro M Γ Q E p s hu k
 rw [Sem.wp_operate]
 exact h M Γ Q E p s hu k
theorem sub_room {α:Type} {t':Sem α} {f:Unit→Sem α} (what:String) (vs:List Value) (h:Sub t' (f ())):Sub t' (cRoomFor what vs >>= f):=by
 intro M Γ Q E p s hu k
 rw [Sem.wp_bind']
 exact Sem.wp_cRoomFor what vs hu (h M Γ Q E p s hu k)
theorem yS {α:Type} {t':Sem α} {f:Unit→Sem α} (pos:Pos) (h:Sub t' (f ())):Sub (.at pos fun _=>t') (standAt pos >>= f):=by
 intro M Γ Q E p s hu k
 exact h M Γ Q E pos s hu k
theorem JW {α:Type} {x y:Sem α} (e:y=x):Sub x y:=e ▸ Sub.refl _
theorem Yp {α:Type} {b:Bool} {x y t:Sem α} (h1:b=true→Sub x t) (h2:b=false→Sub y t):Sub (ifS b x y) t:=by
 cases b with
 |true=>exact h1 rfl
 |false=>exact h2 rfl
theorem z_ev (e:PySem.Expr) (env:Env):Sub (Jh e env) (eval e env):=by rw [Jh,←PySem.W.ZFast.ze14044960220447912780];exact Sub.refl _
theorem rich_sub (op:CmpOp) (hop:op = .Eq∨op = .NotEq) (a b:Value):Sub (richF op a b) (richCompare op a b):=by
 unfold richCompare richF
 refine vo _ (sub_room _ _ ?_)
 rw [zOne,←PySem.W.ZFast.ze13092491172507696223,zInfo,←PySem.W.ZFast.ze363932546726248868,zTypeOf,←PySem.W.ZFast.ze14684505520029207082,zTry,←PySem.W.ZFast.ze3989567798202555795]
 cases oneThing? op a b with
 |some v=>exact Ji
 |none =>
  obtain ⟨sym,f,r⟩:=cmpInfo op
  refine jv (Sub.refl _) fun ta=>jv (Sub.refl _) fun tb=>?_
  cases q:ta != tb with
  |true=>exact Ji
  |false =>
   simp only [Bool.false_eq_true,if_false,pure_bind]
   refine jv (Sub.refl _) fun r=>?_
   cases r with
   |none=>exact Ji
   |some v=>exact vk v
theorem chain_sub (pos:Pos) (left:Value):∀ (ops:List CmpOp) (rs:List (Sem Value)),Sub (chainF pos left ops rs) (testChain pos left ops rs)
 |[op],[r]=>by
  refine jv (vo _ (Sub.refl _)) fun rv=>yS _ (jv (Ko _ ?_) fun c=>vo _ (JW (by rw [zTruthy,←PySem.W.ZFast.ze15245631507167962100])))
  cases op with
  |Eq=>exact rich_sub _ (.inl rfl) _ _
  |NotEq=>exact rich_sub _ (.inr rfl) _ _
  |_=>exact Ji
 |[],_=>Ji
 |_::_::_,_=>Ji
 |[_],[]=>Ji
 |[_],_::_::_=>Ji
theorem z_is (e:PySem.Expr) (env:Env):Sub (zIsTrue e env (Jh e env)) (PySem.isTrue e env (eval e env)):=by
 rw [Jh,zIsTrue,←PySem.W.ZFast.ze14044960220447912780,←PySem.W.ZFast.ze15418851999007992765];exact Sub.refl _
theorem cmp_sub (e:PySem.Expr) (env:Env):Sub (cmpF e env) (PySem.isTrue e env (eval e env)):=by
 have hz:=z_is e env
 cases e with
 |Compare left ops comps pos =>
  refine Yp (fun _=>?_) fun _=>hz
  refine jv (t:=eval left env) (z_ev _ _) fun l=>?_
  have:=chain_sub pos l ops (markedEach ops comps (evalEach comps env))
  rw [zMarked,zEach,←PySem.W.ZFast.ze2344580865713695371,←PySem.W.ZFast.ze10458482166411082596]
  exact this
 |_=>exact hz
theorem all_sub (op:BoolOp) (env:Env):∀ values,Sub (allF op values env) (allTrue op values env)
 |[]=>vk _
 |x::rest=>by
  refine jv (t:=PySem.isTrue x env (eval x env)) (cmp_sub _ _) fun b=>?_
  cases op <;> cases b <;> first | exact vk _ | exact all_sub _ env rest
theorem test_sub (e:PySem.Expr) (env:Env):Sub (testF e env) (PySem.isTrue e env (eval e env)):=by
 have hz:=cmp_sub e env
 cases e with
 |BoolOp op values pos=>exact all_sub _ env _
 |_=>exact hz
theorem sub_hpoint {α:Type} {t':Sem α} {f:Unit→Sem α} (vs:List Value) (h:Sub t' (f ())):Sub t' (holding vs point >>= f):=by
 intro M Γ Q E p s hu k
 rw [Sem.wp_bind',Sem.wp_holding,Sem.wp_cmd_point]
 exact h M Γ Q E p s hu k
theorem sub_end {α:Type} {t' t:Sem α} (h:Sub t' (t >>= fun x=>pure x)):Sub t' t:=by
 intro M Γ Q E p s hu k
 have:=h M Γ Q E p s hu k
 rw [Sem.wp_bind'] at this
 exact this
theorem Kb (env:Env) (n:Str) (v:Value):Sub (YW env n v) (bindName env n v):=by
 rw [YW,←PySem.W.ZFast.ze7998390705656384164]
 unfold bindName
 refine sub_hpoint _ ?_
 intro M Γ Q E p s hu k
 rw [Sem.wp_bind']
 refine Sem.wp_mono M Γ _ (fun x p' s' z=>?_) (fun _ _ _ z=>z) p s k
 rw [Sem.wp_cmd_point]
 exact z
theorem any_cons {e:PySem.Expr} {l:List PySem.Expr} (h:Jd (e::l)=false):isStar e=false∧Jd l=false:=Bool.or_eq_false_iff.mp h
theorem back_cons (pos:Pos) (env:Env) {e:PySem.Expr} (l:List PySem.Expr) (h:isStar e=false):backTo pos (starEach (e::l) env)=(false,eval e env)::backTo pos (starEach l env):=by
 cases e <;> first | rfl | cases h
theorem spl_sub (pos:Pos) (env:Env) (ev:PySem.Expr→Sem Value) (hev:∀ e,Sub (ev e) (eval e env)):∀ elts:List PySem.Expr,Jd elts=false→Sub (splF (yh ev elts)) (spliced (backTo pos (starEach elts env)))
 |[],_=>vk _
 |e::l,h=>by
  rw [back_cons pos env l (any_cons h).1]
  exact jv (t:=eval e env) (hev e) fun v=>jv (t:=holding [v] (spliced (backTo pos (starEach l env)))) (f:=fun r=>pure ([v]++r)) (vo _ (spl_sub pos env ev hev l (any_cons h).2)) fun r=>vk _
theorem Yq (pos:Pos) (env:Env):∀ l:List PySem.Expr,Jd l=false→(backTo pos (starEach l env)).any (·.1)=false
 |[],_=>rfl
 |e::l,h=>by
  rw [back_cons pos env l (any_cons h).1]
  exact Yq pos env l (any_cons h).2
theorem args_sub (f:Value) (pos:Pos) (env:Env) (ev:PySem.Expr→Sem Value) (hev:∀ e,Sub (ev e) (eval e env)) (args:List PySem.Expr) (h:Jd args=false) :
  Sub (PySem.W.R.bindR (splF (yh ev args)) fun l => .pure ⟨l,[]⟩) (evalArgs f true (backTo pos (starEach args env)) []):=by
 have hs:=spl_sub pos env ev hev args h
 have ha:=Yq pos env args h
 revert hs ha
 generalize backTo pos (starEach args env)=T
 intro hs ha
 have main:Sub (PySem.W.R.bindR (splF (yh ev args)) fun l => .pure ⟨l,[]⟩) (spliced T >>= fun l=>pure (l,(none:Option Value)) >>= fun x=>(match x with | (pos,late)=>holding (pos++late.toList) (do
   let kw:=([]:List Str).zip (←evalAll [])
   return ⟨pos,kw⟩):Sem Args)):=by
  simp only [pure_bind]
  refine jv hs fun l=>vo _ ?_
  exact vk _
 unfold evalArgs
 cases T with
 |nil=>exact main
 |cons x T =>
  obtain ⟨b,x⟩:=x
  simp only [List.any_cons,Bool.or_eq_false_iff] at ha
  obtain ⟨rfl,_⟩:=ha
  cases T with
  |nil=>exact main
  |cons y T=>exact main
theorem call_sub (pos pos':Pos) (f:Value) (first:List Value) (n:Nat) (env:Env) (ev:PySem.Expr→Sem Value) (hev:∀ e,Sub (ev e) (eval e env)) (args:List PySem.Expr) (h:Jd args=false) :
  Sub (callF pos f first n (splF (yh ev args))) (callWith pos f first (backTo pos' (starEach args env)) []):=by
 unfold callWith
 have hs:=args_sub f pos' env ev hev args h
 have ha:=Yq pos' env args h
 have e0:callF pos f first n (splF (yh ev args))=(PySem.W.R.bindR ((PySem.W.R.bindR (splF (yh ev args)) fun l => .pure ⟨l,[]⟩)) fun a:Args => .at pos fun _=>PySem.W.R.bindR (zKeeper f) fun _=>zCall f (first++a.pos) a.kw):=by
  unfold callF
  rw [←PySem.W.R.bindR_eq]
  show _=Sem.bind (Sem.bind _ _) _
  have:∀ (t:Sem (List Value)) (g:Args→Sem Value),Sem.bind (Sem.bind t fun l=>Sem.pure ⟨l,[]⟩) g=Sem.bind t fun l=>g ⟨l,[]⟩:=fun t g=>by
   show ((t >>= fun l=>pure ⟨l,[]⟩) >>= g)=_
   rw [bind_assoc];rfl
  rw [this]
 rw [e0]
 refine jv (vo _ hs) fun a=>yS _ ?_
 simp only [ha,List.any_nil,Bool.or_false]
 rw [zKeeper,←PySem.W.ZFast.ze6818842538254311539,zCall,←PySem.W.ZFast.ze11478286150595567475]
 refine sub_end ?_
 simp only [bind_assoc]
 intro M Γ Q E p s hu k
 rw [←PySem.W.R.bindR_eq] at k
 have k:Sem.wp M Γ (keeperOf f >>= _) Q E p s:=k
 rw [Sem.wp_bind'] at k ⊢
 refine Sem.wp_mono M Γ _ (fun kk p' s' z=>?_) (fun _ _ _ z=>z) p s k
 have fin:∀ t:Sem Value,Sem.wp M Γ t Q E p' s'→Sem.wp M Γ ((t >>= fun r=>holding [r] point >>= fun _=>pure r) >>= fun r=>pure r) Q E p' s':=fun t z=>by
  rw [bind_assoc,Sem.wp_bind']
  refine Sem.wp_mono M Γ _ (fun v p s z=>?_) (fun _ _ _ z=>z) p' s' z
  rw [bind_assoc,Sem.wp_bind',Sem.wp_holding,Sem.wp_cmd_point]
  exact z
 cases kk with
 |frame =>
  simp only
  split
  ·exact fin _ z
  ·refine fin _ ?_
   unfold callMarked
   rw [Sem.wp_keep]
   exact z
 |boundFrame =>
  simp only
  split
  ·exact fin _ z
  ·refine fin _ ?_
   unfold callMarked
   rw [Sem.wp_keep]
   exact z
 |machine=>exact fin _ z
 |caller =>
  refine fin _ ?_
  rw [Sem.wp_operate]
  exact z
theorem mform_eq (pos:Pos) (env:Env) (n:Nat) (args:List PySem.Expr) (h:Jd args=false):methodCallForm n (backTo pos (starEach args env)) []=Nat.blt n 30:=by
 have ha:=Yq pos env args h
 unfold methodCallForm
 have:(backTo pos (starEach args env)).all (fun x=>!x.1)=true:=by
  rw [List.all_eq_true]
  intro x hx
  have:=List.any_eq_false.mp ha x hx
  simpa using this
 rw [this]
 simp only [List.all_nil,Bool.true_and,List.isEmpty_nil,if_true,Nat.add_zero]
 cases q:Nat.blt n 30 with
 |true=>exact decide_eq_true (Nat.blt_eq.mp q)
 |false=>exact decide_eq_false fun z=>by rw [Nat.blt_eq.mpr z] at q;cases q
theorem sub_onAttr {A:PySem.Expr→Str→Pos→Sem Value} {B:Sem Value} {t:PySem.Expr→Sem Value} (h1:∀ o n p,Sub (A o n p) (t (.Attribute o n p))) {e:PySem.Expr} (h2:isAttr e=false→Sub B (t e)):Sub (onAttr e A B) (t e):=by
 cases e <;> first | exact h2 rfl | exact h1 _ _ _
theorem eval_call {func:PySem.Expr} {args:List PySem.Expr} {pos:Pos} {env:Env} (h:isAttr func=false):eval (.Call func args [] pos) env=(eval func env >>= fun f=>callWith pos f [] (backTo pos (starEach args env)) (backToKw pos (keywordEach [] env))):=by
 cases func <;> first | rfl | cases h
theorem YM:∀ (n:Nat) (e:PySem.Expr) (env:Env),Sub (Qn n e env) (eval e env)
 |0,e,env=>z_ev e env
 |n+1,e,env=>by
  have ih:=fun e=>YM n e env
  have hz:=z_ev e env
  cases e with
  |Call func args kws pos =>
   cases kws with
   |cons=>exact hz
   |nil =>
    refine Yp (fun _=>hz) fun qs=>?_
    clear hz
    refine sub_onAttr (t:=fun func=>eval (.Call func args [] pos) env) (fun o name apos=>?_) (fun h=>?_)
    ·refine jv (t:=attributeBase o name env (eval o env)) (JW (by rw [zAttrBase,Jh,PySem.W.ZFast.ze15487144857313948548,PySem.W.ZFast.ze14044960220447912780])) fun ov=>yS _ ?_
     unfold methodCall
     simp only [List.length_nil,Nat.add_zero]
     rw [show backToKw pos (keywordEach [] env)=[] from rfl,mform_eq pos env args.length args qs]
     refine jv (vo _ (JW (by rw [zCallee,←PySem.W.ZFast.ze11328156115524847652]))) fun fo=>?_
     obtain ⟨f,first⟩:=fo
     exact jv (JW (by rw [zMPos,←PySem.W.ZFast.ze6137100228056946695])) fun cp=>call_sub _ _ _ _ _ _ _ ih _ qs
    ·rw [eval_call h]
     exact jv (z_ev func env) fun f=>call_sub _ _ _ _ _ _ _ ih _ qs
  |List elts pos =>
   refine Yp (fun _=>hz) fun qs=>?_
   exact yS _ (jv (t:=spliced (backTo pos (starEach elts env))) (spl_sub pos env _ ih elts qs) fun l=>JW (by rw [zNewList,←PySem.W.ZFast.ze2244487426110161322]))
  |Tuple elts k pos =>
   refine Yp (fun _=>hz) fun qs=>?_
   exact yS _ (jv (t:=spliced (backTo pos (starEach elts env))) (spl_sub pos env _ ih elts qs) fun l=>JW (by rw [zNewTuple,←PySem.W.ZFast.ze6357449854754888395]))
  |BinOp l op r pos =>
   exact jv (ih _) fun a=>jv (vo _ (ih _)) fun b=>yS _ (Ko _ (JW (by rw [zBin,←PySem.W.ZFast.ze2036766266224100846])))
  |IfExp test body orelse k =>
   refine jv (test_sub _ _) fun t=>?_
   cases t with
   |true=>exact ih _
   |false=>exact ih _
  |Subscript value slice pos =>
   exact jv (ih _) fun o=>jv (vo _ (ih _)) fun i=>yS _ (jv (JW (by rw [zInPy,←PySem.W.ZFast.ze6419732855643282528])) fun g=>jv (JW (by rw [zSub,←PySem.W.ZFast.ze14719866407330433166])) fun r=>jv (JW (by rw [zLetGo,←PySem.W.ZFast.ze4759339933501494510])) fun _=>vk _)
  |_=>exact hz
theorem draw_len (it:Value):∀ (n:Nat) (M:Model) (Γ:PySem.Ctx) (Q:List Value→Pos→Shared→Prop) (E:Value→Pos→Shared→Prop) (p:Pos) (s:Shared),Γ.units < cLine→Sem.wp M Γ (drawF it n) Q E p s→Sem.wp M Γ (draw it n) (fun l p s=>l.length=n∧Q l p s) E p s
 |0,M,Γ,Q,E,p,s,_,k=>⟨rfl,k⟩
 |n+1,M,Γ,Q,E,p,s,hu,k=>by
  have ih:=draw_len it n
  unfold drawF at k
  unfold draw
  rw [zNext,←PySem.W.ZFast.ze9404975358583537561] at k
  rw [←PySem.W.R.bindR_eq] at k
  have k:Sem.wp M Γ (pyNext it >>= _) Q E p s:=k
  rw [Sem.wp_bind'] at k ⊢
  refine Sem.wp_mono M Γ _ (fun r p' s' z=>?_) (fun _ _ _ z=>z) p s k
  cases r with
  |none=>exact (z:False).elim
  |some v =>
   simp only at z ⊢
   have z:Sem.wp M Γ (drawF it n >>= fun l=>pure (v::l)) Q E p' s':=z
   rw [Sem.wp_bind'] at z ⊢
   rw [Sem.wp_holding]
   refine Sem.wp_mono M Γ _ (fun l p s z=>?_) (fun _ _ _ z=>z) p' s' (ih M Γ _ E p' s' hu z)
   exact ⟨by rw [List.length_cons,z.1],z.2⟩
theorem items_sub (v:Value) (n:Nat):Sub (itemsF v n) (unpackItems v n none):=by
 unfold itemsF unpackItems
 rw [zNotIter,←PySem.W.ZFast.ze7521042022983241851,zIter,←PySem.W.ZFast.ze8711993805878244202,zNext,←PySem.W.ZFast.ze9404975358583537561]
 refine jv (Sub.refl _) fun b=>?_
 cases b with
 |true=>exact Ji
 |false =>
  simp only [Bool.false_eq_true,if_false]
  refine jv (vo _ (Sub.refl _)) fun it=>?_
  intro M Γ Q E p s hu k
  rw [←PySem.W.R.bindR_eq] at k
  have k:Sem.wp M Γ (drawF it n >>= _) Q E p s:=k
  rw [Sem.wp_bind'] at k ⊢
  rw [Sem.wp_holding]
  refine Sem.wp_mono M Γ _ (fun l p s z=>?_) (fun _ _ _ z=>z) p s (draw_len it n M Γ _ E p s hu k)
  obtain ⟨hl,z⟩:=z
  rw [if_neg (by omega)]
  have z:Sem.wp M Γ (pyNext it >>= _) Q E p s:=z
  rw [Sem.wp_bind'] at z ⊢
  rw [Sem.wp_holding]
  refine Sem.wp_mono M Γ _ (fun r p s z=>?_) (fun _ _ _ z=>z) p s z
  cases r with
  |some=>exact (z:False).elim
  |none=>exact z
theorem stores_sub (env:Env):∀ (ns:List (Str×Pos)) (xs:List Value),Sub (storesF env ns xs) (assignInOrder (ns.map fun p=>assign (.Name p.1 p.2) env) xs)
 |[],xs=>vk _
 |p::ps,[]=>vk _
 |p::ps,x::xs=>by
  have e:∀ (t:Sem Unit) (g:Unit→Sem Unit),(PySem.Sem.at p.2 fun _=>PySem.W.R.bindR (t) g)=(PySem.W.R.bindR ((PySem.Sem.at p.2 fun _=>t)) g):=fun t g=>by rw [←PySem.W.R.bindR_eq];rfl
  show Sub (PySem.Sem.at p.2 fun _=>PySem.W.R.bindR (YW env p.1 x) fun _=>storesF env ps xs) _
  rw [e]
  exact jv (t:=holding xs (assign (.Name p.1 p.2) env x)) (vo _ (yS _ (Kb _ _ _))) fun _=>stores_sub env ps xs
theorem name_eq {e:PySem.Expr} (h:isName e=true):e = .Name (nameOf e).1 (nameOf e).2:=by
 cases e <;> first | rfl | exact absurd h Bool.false_ne_true
theorem names_each (env:Env):∀ {elts:List PySem.Expr} {ns:List (Str×Pos)},Yz elts=some ns→(assignEach elts env).map (·.2)=(ns.map fun p=>assign (.Name p.1 p.2) env)∧(assignEach elts env).findIdx? (·.1)=none∧(assignEach elts env).length=ns.length
 |[],ns,h=>by cases h;exact ⟨rfl,rfl,rfl⟩
 |e::l,ns,h=>by
  refine iT (P:=fun ns=>(assignEach (e::l) env).map (·.2)=(ns.map fun p=>assign (.Name p.1 p.2) env)∧(assignEach (e::l) env).findIdx? (·.1)=none∧(assignEach (e::l) env).length=ns.length) (fun q1=>iS fun r q=>iE ?_) ns h
  obtain ⟨h1,h2,h3⟩:=names_each env q
  clear h
  rw [name_eq q1]
  refine ⟨congrArg (assign (.Name _ _) env :: ·) h1,?_,congrArg Nat.succ h3⟩
  show (List.findIdx? (·.1) ((false,assign (.Name (nameOf e).1 (nameOf e).2) env)::assignEach l env))=none
  rw [List.findIdx?_cons,h2];rfl
theorem z_as (target:PySem.Expr) (env:Env) (v:Value):Sub (zAssign target env v) (assign target env v):=JW (by rw [zAssign,←PySem.W.ZFast.ze17772580674575903948])
theorem assign_sub (target:PySem.Expr) (env:Env) (v:Value):Sub (assignF target env v) (assign target env v):=by
 have hz:=z_as target env v
 cases target with
 |Name id pos=>exact yS _ (Kb _ _ _)
 |Tuple elts k pos =>
  refine names_or (fun ns hn=>?_) hz
  clear hz
  obtain ⟨h1,h2,h3⟩:=names_each env hn
  refine yS (f:=fun _=>unpack v (assignEach elts env)) _ ?_
  unfold unpack
  rw [h1,h2,h3]
  exact jv (vo _ (items_sub _ _)) fun items=>stores_sub _ _ _
 |_=>exact hz
theorem swap_sub (env:Env):∀ (ns:List Str) (xs:List Value),Sub (swapF env ns xs) (assignInOrder (ns.map fun n=>bindName env n) xs)
 |[],xs=>vk _
 |p::ps,[]=>vk _
 |p::ps,x::xs=>jv (t:=holding xs (bindName env p x)) (vo _ (Kb _ _ _)) fun _=>swap_sub env ps xs
theorem YC {env:Env} {ex:Stmt→Sem Flow} (h:∀ s,Sub (ex s) (exec s env)):∀ ss,Sub (listF ex ss) (execs ss env)
 |[]=>vk _
 |s::rest=>jv (t:=exec s env) (h s) fun f=>by
  cases f with
  |next=>exact YC h rest
  |_=>exact vk _
theorem one_sub (s:Stmt) (env:Env):Sub (JX [s] env) (exec s env):=by
 rw [JX,←PySem.W.ZFast.ze12563942051412417395]
 intro M Γ Q E p s' hu k
 have k:Sem.wp M Γ (exec s env >>= fun f=>match f with | .next=>pure .next | f=>pure f) Q E p s':=k
 rw [Sem.wp_bind'] at k
 refine Sem.wp_mono M Γ _ (fun x p' s' z=>?_) (fun _ _ _ z=>z) p s' k
 cases x <;> exact z
theorem sub_ite {α:Type} {b b':Bool} {x' y' x y:Sem α} (e:b'=b) (h1:Sub x' x) (h2:Sub y' y):Sub (ifS b' x' y') (if b=true then x else y):=by
 subst e
 cases b' with
 |true=>exact h1
 |false=>exact h2
theorem sub_rule {α:Type} {t:Sem α} {w:String} {g:Unit→Sem α} (h:Sub t (g ())):Sub t (PySem.rule w >>= g):=fun M Γ Q E p s hu k=>h M Γ Q E p s hu k
theorem assign1_sub (t:PySem.Expr) (env:Env) (v:Value):Sub (assignF t env v) (assignAll v ((assignEach [t] env).map (·.2))):=by
 have h:=assign_sub t env v
 cases t <;> first | exact h | exact Ji
theorem exec_sub:∀ (n:Nat) (s:Stmt) (env:Env),Sub (execF n s env) (exec s env)
 |0,s,env=>one_sub s env
 |n+1,s,env=>by
  have ih:=fun s=>exec_sub n s env
  have hz:=one_sub s env
  cases s with
  |If test body orelse pos=>exact yS _ (jv (t:=PySem.isTrue test env (eval test env)) (test_sub _ _) fun b=>sub_ite rfl (YC ih _) (YC ih _))
  |Expr value pos =>
   refine yS _ (sub_ite (b:=interactive env) (by rw [zInter,←PySem.W.ZFast.ze15112477048112897374]) Ji ?_)
   refine jv (t:=swapsWith value none pos.line env) (JW (by rw [zSwaps,←PySem.W.ZFast.ze17223243974762974889])) fun b=>sub_ite rfl Ji ?_
   exact jv (YM 20 _ _) fun v=>JW (by rw [zDrop,←PySem.W.ZFast.ze12372662630863984472])
  |Assign targets value pos =>
   refine Yp (fun _=>hz) fun _=>?_
   match targets with
   |[t] =>
    clear hz
    refine yS _ (jv (t:=swapsWithSole [t] value pos.line env) (JW (by rw [zSwapsSole,←PySem.W.ZFast.ze7783108440312521181])) fun b=>sub_ite rfl Ji ?_)
    refine jv (YM 20 _ _) fun v=>jv (t:=swappedStores [t] value env) (JW (by rw [zSwapped,←PySem.W.ZFast.ze4016559146275205325])) fun sw=>?_
    cases sw with
    |some names=>exact sub_rule (jv (t:=unpackItems v names.length none) (items_sub _ _) fun items=>jv (swap_sub _ _ _) fun _=>vk _)
    |none=>exact jv (assign1_sub _ _ _) fun _=>vk _
   |[]=>exact hz
   |_::_::_=>exact hz
  |Return value pos =>
   cases value with
   |some e=>exact yS _ (jv (t:=eval e env) (YM 20 _ _) fun v=>vk _)
   |none=>exact hz
  |_=>exact hz
theorem VK (n:Nat) (env:Env) (ss:List Stmt):Sub (execsF n ss env) (execs ss env):=YC (fun s=>exec_sub n s env) ss
noncomputable def outF (x:Value) (env:Env):Sem Unit:=PySem.W.R.bindR (PySem.W.ZFast.noteFrameY x env) fun _=>PySem.W.ZFast.zw1623429502029203251 x
def funcF (body:List Stmt) (env:Env):Sem PySem.Fin:=PySem.Sem.point [] fun _=>PySem.W.R.bindR (PySem.W.R.onRaiseR (execsF 10 body env) (PySem.W.ZFast.zw9442747609961115081 env)) fun r=>match r with
 |.ret v => .pure (.done (.ret v))
 |_ => .pure (.done (.ret .none))
def whileF (test:PySem.Expr) (body orelse:List Stmt) (env:Env):Sem PySem.Fin:=PySem.W.R.bindR (testF test env) fun b=>match b with
 |true=>PySem.W.R.bindR (execsF 10 body env) fun f=>match f with
  |.next => .pure (.again (.whileLoop test body orelse env))
  |.cont => .pure (.again (.whileLoop test body orelse env))
  |.brk => .pure (.done .next)
  |.ret v => .pure (.done (.ret v))
 |false=>PySem.W.R.bindR (JX orelse env) fun f => .pure (.done f)
def forF (target:PySem.Expr) (it:Value) (body orelse:List Stmt) (env:Env):Sem PySem.Fin := .at target.pos fun _ =>
 PySem.W.R.bindR (PySem.W.R.onRaiseR (PySem.W.ZFast.zw9404975358583537561 it) (fun _=>standAt {target.pos with line:=0})) fun v=>match v with
 |none => .pure (.again (.block orelse env))
 |some v=>PySem.W.R.bindR (PySem.W.ZFast.zw1578499551869305889 target it v) fun _=>PySem.W.R.bindR (assignF target env v) fun _=>PySem.W.R.bindR (execsF 10 body env) fun f=>match f with
  |.next => .pure (.again (.forLoop target it body orelse env))
  |.cont => .pure (.again (.forLoop target it body orelse env))
  |.brk => .pure (.done .next)
  |.ret v => .pure (.done (.ret v))
def DF (c:Code):Sem PySem.Fin:=match c with
 |.func body env=>funcF body env
 |.whileLoop test body orelse env=>PySem.W.R.onRaiseR (whileF test body orelse env) (fun x=>outF x env)
 |.forLoop target it body orelse env=>PySem.W.R.onRaiseR (forF target it body orelse env) (fun x=>outF x env)
 |_=>DZ c
theorem Vx {α:Type} {t' t:Sem α} {h' h:Value→Sem Unit} (x:Sub t' t) (e:h'=h):Sub (PySem.W.R.onRaiseR t' h') (t.onRaise h):=by
 subst e
 intro M Γ Q E p s hu k
 rw [←PySem.W.R.onRaiseR_eq] at k
 rw [Sem.wp_onRaise] at k ⊢
 exact x M Γ _ _ p s hu k
theorem out_eq (env:Env):(fun x=>outF x env)=(fun x=>do noteFrame x env;theTreesLotGoes x):=by
 funext x
 unfold outF
 rw [←PySem.W.ZFast.ze1623429502029203251,←PySem.W.R.bindR_eq,PySem.W.ZFast.noteFrameY_eq]
 rfl
theorem leave_eq (env:Env):PySem.W.ZFast.zw9442747609961115081 env=leaving env:=by rw [←PySem.W.ZFast.ze9442747609961115081]
theorem func_sub (body:List Stmt) (env:Env):Sub (funcF body env) (denote table (.func body env)):=by
 unfold funcF
 intro M Γ Q E p s hu k
 refine (?_:Sub _ (do
  match ←(execs body env).onRaise (leaving env) with
  |.ret v=>ret v
  |_=>ret .none)) M Γ Q E p s hu k
 refine jv (Vx (VK 10 env body) (leave_eq env)) fun r=>?_
 cases r <;> exact vk _
theorem while_sub (test:PySem.Expr) (body orelse:List Stmt) (env:Env):Sub (whileF test body orelse env) (whileTurn test body orelse env):=by
 unfold whileF whileTurn
 refine jv (test_sub _ _) fun b=>?_
 cases b with
 |true =>
  refine jv (VK 10 env body) fun f=>?_
  cases f <;> exact vk _
 |false =>
  rw [JX,←PySem.W.ZFast.ze12563942051412417395]
  exact jv (Sub.refl _) fun f=>vk _
theorem for_sub (target:PySem.Expr) (it:Value) (body orelse:List Stmt) (env:Env):Sub (forF target it body orelse env) (forTurn target it body orelse env):=by
 unfold forF forTurn
 rw [←PySem.W.ZFast.ze9404975358583537561,←PySem.W.ZFast.ze1578499551869305889]
 refine yS _ (jv (Vx (Sub.refl _) rfl) fun v=>?_)
 cases v with
 |none=>exact vk _
 |some v =>
  refine jv (Sub.refl _) fun _=>jv (assign_sub _ _ _) fun _=>jv (VK 10 env body) fun f=>?_
  cases f <;> exact vk _
theorem DF_sub (c:Code):Sub (DF c) (denote table c):=by
 have hz:Sub (DZ c) (denote table c):=Sub.of_eq (DZ_at _)
 cases c with
 |func body env=>exact func_sub _ _
 |whileLoop t b o env=>exact Vx (while_sub _ _ _ _) (out_eq _)
 |forLoop g it b o env=>exact Vx (for_sub _ _ _ _ _) (out_eq _)
 |_=>exact hz
noncomputable abbrev Yc:=PySem.W.ZFast.zw6609576154772507232
noncomputable abbrev Vv:=PySem.W.ZFast.zw17858455048448223758
noncomputable abbrev yQ:=PySem.W.ZFast.zw5670386056902412789
noncomputable abbrev zNewFields:=PySem.W.ZFast.zw15415582192633789933
noncomputable abbrev YX:=PySem.W.ZFast.zw10665104254819526710
noncomputable abbrev zHandleBy:=PySem.W.ZFast.zw14206642085496868694
noncomputable abbrev zLotGoes:=PySem.W.ZFast.zw1623429502029203251
noncomputable def isNo (v:Value):Bool:=match v with
 |.none=>true
 |_=>false
theorem isNo_eq (v:Value):(v != .none)=!isNo v:=by cases v <;> rfl
noncomputable def isRaw (v:Value) (f:Addr):Bool:=match v with
 |.int i t=>match decide (i=Int.ofNat f) with
  |true=>Nat.beq t 0
  |false=>false
 |_=>false
theorem isRaw_eq (v:Value) (f:Addr):(v == rawInt f)=isRaw v f:=by
 cases v with
 |int i t =>
  rw [Bool.eq_iff_iff,beq_iff_eq]
  show Value.int i t=Value.int (Int.ofNat f) 0↔_
  unfold isRaw
  dsimp only
  by_cases h:i=Int.ofNat f
  ·rw [decide_eq_true h]
   simp [h]
  ·rw [decide_eq_false h]
   exact ⟨fun q=>absurd (Value.int.inj q).1 h,fun q=>nomatch q⟩
 |_=>rfl
def noteT (l:List Env) (x:Value) (env:Env) (f:Addr) (head:Value) (hn:Bool):Sem Unit:=PySem.W.R.bindR (YX l) fun o=>match o with
 |none => .unsupported ""
 |some fr => .stack fun acts=>PySem.W.R.bindR (zNewFields "traceback" [head,fr,.none,rawInt f,.none,Z.cellQ 0 (Z.placeOf f hn acts),Z.cellQ 1 (Z.placeOf f hn acts),Z.cellQ 2 (Z.placeOf f hn acts),Z.cellQ 3 (Z.placeOf f hn acts),Z.cellQ 4 (Z.placeOf f hn acts),Z.cellQ 5 (Z.placeOf f hn acts)]) fun t=>Vv x 1 t
def noteL (l:List Env) (x:Value) (env:Env):Sem Unit:=match env.frame with
 |none => .unsupported ""
 |some f=>PySem.W.R.bindR (Yc x 1) fun head=>match isNo head with
  |true=>noteT l x env f head false
  |false=>PySem.W.R.bindR (Yc head 3) fun h3=>match isRaw h3 f with
   |true => .pure ()
   |false=>PySem.W.R.bindR (Vv head 3 .none) fun _=>noteT l x env f head true
theorem vW {fr:Option (List Env)} {α:Type} (t:Sem α):yH fr t t:=fun _ _ _ _ _ _ _ _ h=>h
theorem subF_eq {fr:Option (List Env)} {α:Type} {t' t:Sem α} (e:t'=t):yH fr t' t:=e ▸ vW _
theorem yT {fr:Option (List Env)} {α β:Type} {t' t:Sem α} {f' f:α→Sem β} (h:yH fr t' t) (hf:∀ x,yH fr (f' x) (f x)):yH fr (PySem.W.R.bindR t' f') (t >>= f):=by
 intro M Γ Q E p s hu hr k
 rw [←PySem.W.R.bindR_eq] at k
 have k:Sem.wp M Γ (t' >>= f') Q E p s:=k
 rw [Sem.wp_bind'] at k ⊢
 exact h M Γ _ _ p s hu hr (Sem.wp_mono M Γ _ (fun x p' s' z=>hf x M Γ Q E p' s' hu hr z) (fun _ _ _ z=>z) p s k)
theorem subF_no {fr:Option (List Env)} {α:Type} {t:Sem α} {w:String}:yH fr (.unsupported w) t:=fun _ _ _ _ _ _ _ _ k=>k.elim
theorem Qa {fr:Option (List Env)} {α:Type} {t' t:Sem α} {h' h:Value→Sem Unit} (x:yH fr t' t) (e:∀ v,yH fr (h' v) (h v)):yH fr (PySem.W.R.onRaiseR t' h') (t.onRaise h):=by
 intro M Γ Q E p s hu hr k
 rw [←PySem.W.R.onRaiseR_eq] at k
 rw [Sem.wp_onRaise] at k ⊢
 refine x M Γ _ _ p s hu hr (Sem.wp_mono M Γ _ (fun _ _ _ z=>z) (fun v p' s' z=>e v M Γ _ _ p' s' hu hr z) p s k)
theorem frame_sub {l l':List Env} {env:Env} {β:Type} {g g':Value→Sem β} (hd:l.dropWhile (·.frame != env.frame)=l') (hg:∀ v,yH (some l) (g' v) (g v)):yH (some l) (PySem.W.R.bindR (YX l') fun o=>match o with
 |none => .unsupported ""
 |some fr=>g' fr) (PySem.frameOf env >>= g):=by
 intro M Γ Q E p s hu hr k
 have fl:(((Γ.code,p)::Γ.below).filter (·.1.isFrame)).filterMap (·.1.env?)=l:=by
  show envsOf ((Γ.code,p)::Γ.below)=l
  rw [envsOf_cons]
  exact hr l rfl
 rw [←PySem.W.R.bindR_eq,←hd,YX,←PySem.W.ZFast.ze10665104254819526710] at k
 have k:Sem.wp M Γ (frameObject (l.dropWhile (·.frame != env.frame)) >>= fun o=>match o with | none => .unsupported "" | some fr=>g' fr) Q E p s:=k
 rw [Sem.wp_bind'] at k ⊢
 have wf:Sem.wp M Γ (PySem.frameOf env) (fun v p' s'=>Sem.wp M Γ (g v) Q E p' s') E p s:=by
  unfold PySem.frameOf
  rw [Sem.wp_bind']
  show Sem.wp M Γ (frameObject (((((Γ.code,p)::Γ.below).filter (·.1.isFrame)).filterMap (·.1.env?)).dropWhile (·.frame != env.frame)) >>= fun o=>_) _ _ p s
  rw [fl,Sem.wp_bind']
  refine Sem.wp_mono M Γ _ (fun o p' s' z=>?_) (fun _ _ _ z=>z) p s k
  cases o with
  |none=>exact z.elim
  |some fr=>exact hg fr M Γ Q E p' s' hu hr z
 exact wf
theorem noteT_sub {l l':List Env} {x:Value} {env:Env} {f:Addr} {head:Value} {hn:Bool} (hd:l.dropWhile (·.frame != env.frame)=l'):yH (some l) (noteT l' x env f head hn) (do
  let fr ←PySem.frameOf env
  let acts ←stack
  let t ←newFields "traceback" [head,fr,.none,rawInt f,.none,Z.cellQ 0 (Z.placeOf f hn acts),Z.cellQ 1 (Z.placeOf f hn acts),Z.cellQ 2 (Z.placeOf f hn acts),Z.cellQ 3 (Z.placeOf f hn acts),Z.cellQ 4 (Z.placeOf f hn acts),Z.cellQ 5 (Z.placeOf f hn acts)]
  setField x 1 t):=by
 refine frame_sub hd fun fr=>?_
 rw [zNewFields,←PySem.W.ZFast.ze15415582192633789933,Vv,←PySem.W.ZFast.ze17858455048448223758,←PySem.W.R.bindR_eq]
 exact vW _
theorem note_sub {l l':List Env} {env:Env} (hd:l.dropWhile (·.frame != env.frame)=l') (x:Value):yH (some l) (noteL l' x env) (noteFrame x env):=by
 rw [Z.noteFrameQ_eq]
 unfold noteL Z.noteFrameQ
 rw [Yc,←PySem.W.ZFast.ze6609576154772507232]
 cases hf:env.frame with
 |none=>exact subF_no
 |some f =>
  dsimp only
  refine yT (vW _) fun head=>?_
  rw [isNo_eq]
  cases isNo head with
  |true=>exact noteT_sub hd
  |false =>
   refine yT (vW _) fun h3=>?_
   rw [isRaw_eq]
   cases isRaw h3 f with
   |true=>exact vW _
   |false =>
    rw [Vv,←PySem.W.ZFast.ze17858455048448223758]
    exact yT (vW _) fun _=>noteT_sub hd
def Vk (l:List Env) (env:Env) (x:Value):Sem Unit:=PySem.W.R.bindR (noteL l x env) fun _=>yQ x none
def outL (l:List Env) (env:Env) (x:Value):Sem Unit:=PySem.W.R.bindR (noteL l x env) fun _=>zLotGoes x
theorem Kh {l l':List Env} {env:Env} (hd:l.dropWhile (·.frame != env.frame)=l') (x:Value):yH (some l) (Vk l' env x) (leaving env x):=by
 unfold Vk leaving
 rw [yQ,←PySem.W.ZFast.ze5670386056902412789]
 exact yT (note_sub hd x) fun _=>vW _
theorem out_sub {l l':List Env} {env:Env} (hd:l.dropWhile (·.frame != env.frame)=l') (x:Value):yH (some l) (outL l' env x) (do noteFrame x env;theTreesLotGoes x):=by
 unfold outL
 rw [zLotGoes,←PySem.W.ZFast.ze1623429502029203251]
 exact yT (note_sub hd x) fun _=>vW _
def tryG (l:List Env) (body orelse:List Stmt) (handlers:List ExceptHandler) (env:Env):Sem Flow:=PySem.W.R.bindR (PySem.W.ZFast.zw3205988728414705400 (execsF 10 body env)) fun r=>match r with
 |.ok f=>match f with
  |.next=>JX orelse env
  |.ret v => .pure (.ret v)
  |.brk => .pure .brk
  |.cont => .pure .cont
 |.error e=>PySem.W.R.bindR (noteL l e env) fun _=>match handlers with
  |[] => .unsupported ""
  |_::_=>PySem.W.R.bindR (yQ e none) fun _=>zHandleBy e env handlers
theorem subF_attempt {fr:Option (List Env)} {α:Type} {t' t:Sem α} (x:yH fr t' t):yH fr (PySem.W.ZFast.zw3205988728414705400 t') t.attempt:=by
 intro M Γ Q E p s hu hr k
 rw [←PySem.W.ZFast.ze3205988728414705400,Sem.wp_attempt] at k
 rw [Sem.wp_attempt]
 exact x M Γ _ _ p s hu hr k
theorem try_sub {l l':List Env} {env:Env} (hd:l.dropWhile (·.frame != env.frame)=l') (body orelse:List Stmt) (handlers:List ExceptHandler):yH (some l) (tryG l' body orelse handlers env) (tryStmt false (execs body env) handlers (execs orelse env) [] env):=by
 unfold tryG tryStmt
 simp only [List.isEmpty_nil,if_true]
 refine yT (subF_attempt ((VK 10 env body).f _)) fun r=>?_
 cases r with
 |ok f =>
  cases f with
  |next=>exact subF_eq (by rw [JX,←PySem.W.ZFast.ze12563942051412417395])
  |_=>exact vW _
 |error e =>
  refine yT (note_sub hd e) fun _=>?_
  cases handlers with
  |nil=>exact subF_no
  |cons h hs =>
   simp only [List.isEmpty_cons,Bool.false_eq_true,if_false,Bool.false_and]
   rw [yQ,←PySem.W.ZFast.ze5670386056902412789,zHandleBy,←PySem.W.ZFast.ze14206642085496868694,←PySem.W.R.bindR_eq]
   exact vW _
def ownL (f:Option Addr) (x:Value):Sem Unit:=PySem.W.R.bindR (Yc x 1) fun tb=>match isNo tb with
 |true => .unsupported ""
 |false=>PySem.W.R.bindR (yQ x f) fun _=>PySem.W.R.bindR (Yc x 1) fun head=>PySem.W.R.bindR (Yc head 3) fun _=>yQ x none
theorem bd1 {M:Model} {Γ:PySem.Ctx} {α β:Type} {t:Sem α} {f:α→Sem β} {Q:β→Pos→Shared→Prop} {E:Value→Pos→Shared→Prop} {p:Pos} {s:Shared} (k:Sem.wp M Γ (t >>= f) Q E p s):Sem.wp M Γ t (fun x p s=>Sem.wp M Γ (f x) Q E p s) E p s:=by
 rw [Sem.wp_bind'] at k;exact k
theorem bd2 {M:Model} {Γ:PySem.Ctx} {α β:Type} {t:Sem α} {f:α→Sem β} {Q:β→Pos→Shared→Prop} {E:Value→Pos→Shared→Prop} {p:Pos} {s:Shared} (k:Sem.wp M Γ t (fun x p s=>Sem.wp M Γ (f x) Q E p s) E p s):Sem.wp M Γ (t >>= f) Q E p s:=by
 rw [Sem.wp_bind'];exact k
theorem fld_e {M:Model} {Γ:PySem.Ctx} {β:Type} {v:Value} {i:Nat} {f:Value→Sem β} {Q:β→Pos→Shared→Prop} {E:Value→Pos→Shared→Prop} {p:Pos} {s:Shared} {G:Prop} (k:Sem.wp M Γ (field v i >>= f) Q E p s)
  (h:∀ a o vs x,v = .ref a→s.heap.get? a=some o→o.data = .fields vs→vs[i]?=some x→Sem.wp M Γ (f x) Q E p s→G):G:=by
 obtain ⟨a,o,vs,x,h1,h2,h3,h4,h5⟩:=(wp_field_iff _ _ _ _ _ _ _).mp (bd1 k)
 exact h a o vs x h1 h2 h3 h4 h5
theorem fld_i {M:Model} {Γ:PySem.Ctx} {β:Type} {a:Addr} {i:Nat} {f:Value→Sem β} {Q:β→Pos→Shared→Prop} {E:Value→Pos→Shared→Prop} {p:Pos} {s:Shared} {o:Obj} {vs:Array Value} {x:Value}
  (h1:s.heap.get? a=some o) (h2:o.data = .fields vs) (h3:vs[i]?=some x) (k:Sem.wp M Γ (f x) Q E p s):Sem.wp M Γ (field (.ref a) i >>= f) Q E p s:=bd2 ((wp_field_iff _ _ _ _ _ _ _).mpr ⟨a,o,vs,x,rfl,h1,h2,h3,k⟩)
theorem flight_e {M:Model} {Γ:PySem.Ctx} {β:Type} {a:Addr} {oe:Obj} {vs:Array Value} {v:Value} {f:Addr} {g:Unit→Sem β} {Q:β→Pos→Shared→Prop} {E:Value→Pos→Shared→Prop} {p:Pos} {s:Shared} {G:Prop}
  (ha:s.heap.get? a=some oe) (hd:oe.data = .fields vs) (h1:vs[1]?=some v) (hn:(v != Value.none)=true) (k:Sem.wp M Γ (setFlight (.ref a) (some f) >>= g) Q E p s)
  (h:∀ tb otb tvs,v = .ref tb→s.heap.get? tb=some otb→otb.data = .fields tvs→3 < tvs.size→Sem.wp M Γ (g ()) Q E p {s with heap:=s.heap.update tb (Obj.mapFields (·.setIfInBounds 3 (rawInt f)))}→G):G:=by
 refine fld_e (bd1 k) fun a' oe' vs' v' e' ha' hd' h1' k=>?_
 cases e'
 rw [ha] at ha';cases ha'
 rw [hd] at hd';cases hd'
 rw [h1] at h1';cases h1'
 rw [if_pos hn,wp_setField_iff] at k
 obtain ⟨tb,otb,tvs,e1,e2,e3,e4,k⟩:=k
 exact h tb otb tvs e1 e2 e3 e4 k
theorem flight_i {M:Model} {Γ:PySem.Ctx} {a tb:Addr} {oe otb:Obj} {vs tvs:Array Value} {f:Addr} {Q:Unit→Pos→Shared→Prop} {E:Value→Pos→Shared→Prop} {p:Pos} {s:Shared}
  (ha:s.heap.get? a=some oe) (hd:oe.data = .fields vs) (h1:vs[1]?=some (.ref tb)) (htb:s.heap.get? tb=some otb) (htd:otb.data = .fields tvs) (hsz:3 < tvs.size) (k:Q () p {s with heap:=s.heap.update tb (Obj.mapFields (·.setIfInBounds 3 (rawInt f)))}) :
  Sem.wp M Γ (setFlight (.ref a) (some f)) Q E p s:=by
 refine fld_i ha hd h1 ?_
 rw [if_pos (show (Value.ref tb != Value.none)=true from rfl),wp_setField_iff]
 exact ⟨tb,otb,tvs,rfl,htb,htd,hsz,k⟩
theorem own_wp {M:Model} {Γ:PySem.Ctx} {x:Value} {env:Env} {f:Addr} {w:String} (hf:env.frame=some f) {Q:Unit→Pos→Shared→Prop} {E E₂:Value→Pos→Shared→Prop} {p:Pos} {s:Shared} (k:Sem.wp M Γ (ownL (some f) x) Q E p s) :
  Sem.wp M Γ (do
   if (←field x 1) == .none then unsupported w
   setFlight x env.frame) (fun _ p' s'=>Sem.wp M Γ (leaving env x) Q E p' s') E₂ p s:=by
 unfold ownL at k
 rw [←PySem.W.R.bindR_eq,Yc,←PySem.W.ZFast.ze6609576154772507232,yQ,←PySem.W.ZFast.ze5670386056902412789] at k
 have k:Sem.wp M Γ (field x 1 >>= fun tb=>match isNo tb with | true => .unsupported "" | false=>setFlight x (some f) >>= fun _=>field x 1 >>= fun head=>field head 3 >>= fun _=>setFlight x none) Q E p s:=k
 refine fld_e k fun a oe vs v ea ha hd h1 k=>?_
 subst ea
 cases qn:isNo v with
 |true=>rw [qn] at k;exact k.elim
 |false =>
  have k:Sem.wp M Γ (setFlight (.ref a) (some f) >>= fun _=>field (.ref a) 1 >>= fun head=>field head 3 >>= fun _=>setFlight (.ref a) none) Q E p s:=by rw [qn] at k;exact k
  have hn:(v != Value.none)=true:=by rw [isNo_eq,qn];rfl
  refine flight_e ha hd h1 hn k fun tb otb tvs ev htb htd hsz k2=>?_
  clear k hn qn
  clear k
  subst ev
  obtain ⟨oe2,vs2,otb2,tvs2,ha2,hd2,h12,htb2,htd2,h32⟩:=marked_update (rawInt f) ha hd h1 htb htd (Array.getElem?_eq_getElem hsz)
  refine fld_i ha hd h1 ?_
  have fin:Sem.wp M Γ (leaving env (.ref a)) Q E p {s with heap:=s.heap.update tb (Obj.mapFields (·.setIfInBounds 3 (rawInt f)))}:=by
   refine fld_e k2 fun _ _ _ v1 _ _ _ _ k=>fld_e k fun _ _ _ v2 _ _ _ _ k=>?_
   unfold leaving
   rw [Sem.wp_bind']
   unfold noteFrame
   simp only [hf]
   refine fld_i ha2 hd2 h12 ?_
   rw [if_pos (show (Value.ref tb != Value.none)=true from rfl)]
   refine fld_i htb2 htd2 h32 ?_
   rw [if_pos (beq_self_eq_true _)]
   exact k
  have step:Sem.wp M Γ (setFlight (.ref a) env.frame) (fun _ p' s'=>Sem.wp M Γ (leaving env (.ref a)) Q E p' s') E₂ p s:=by
   rw [hf]
   exact flight_i ha hd h1 htb htd hsz fin
  rw [if_neg (show ¬ (Value.ref tb == Value.none)=true from Bool.false_ne_true)]
  first | exact step | exact bd2 step
def iterF (iter:PySem.Expr) (env:Env):Sem Value:=PySem.W.R.bindR (Jh iter env) fun v=>PySem.W.R.bindR (PySem.W.ZFast.zw7768414822394308030 iter env v) fun x => .at iter.pos fun _=>PySem.W.ZFast.zw17359229931016689406 [x] (PySem.W.ZFast.zw8711993805878244202 x)
theorem iter_eq (iter:PySem.Expr) (env:Env):iterF iter env=(do
  let x ←foldedSetIterable iter env (←eval iter env)
  standAt iter.pos
  holding [x] (pyIter x)):=by
 unfold iterF
 rw [Jh,←PySem.W.ZFast.ze14044960220447912780,←PySem.W.ZFast.ze7768414822394308030,←PySem.W.ZFast.ze17359229931016689406,←PySem.W.ZFast.ze8711993805878244202,←PySem.W.R.bindR_eq]
 rfl
def forStG (l:List Env) (target iter:PySem.Expr) (body orelse:List Stmt) (env:Env):Sem Flow:=match env.frame with
 |none => .unsupported ""
 |some f=>PySem.W.R.bindR (PySem.W.R.onRaiseR (iterF iter env) (Vk l env)) fun it=>PySem.W.R.onRaiseR (PySem.run (.forLoop target it body orelse env) none) (ownL (some f))
def stmtG (l:List Env) (env:Env) (s:Stmt):Sem Flow:=match s with
 |.Try body handlers orelse final pos=>match final with
  |[]=>PySem.W.R.onRaiseR (.at pos fun _=>tryG l body orelse handlers env) (Vk l env)
  |_=>PySem.W.R.onRaiseR (execF 10 s env) (Vk l env)
 |.For target iter body orelse pos => .at pos fun _=>forStG l target iter body orelse env
 |_=>PySem.W.R.onRaiseR (execF 10 s env) (Vk l env)
theorem subF_at {fr:Option (List Env)} {α:Type} {t':Sem α} {f:Unit→Sem α} (pos:Pos) (h:yH fr t' (f ())):yH fr (.at pos fun _=>t') (standAt pos >>= f):=by
 intro M Γ Q E p s hu hr k
 exact h M Γ Q E pos s hu hr k
theorem for_sub' {l l':List Env} {env:Env} (hd:l.dropWhile (·.frame != env.frame)=l') (target iter:PySem.Expr) (body orelse:List Stmt) :
  yH (some l) (forStG l' target iter body orelse env) ((do
   let x ←foldedSetIterable iter env (←eval iter env)
   standAt iter.pos
   runOwn (.forLoop target (←holding [x] (pyIter x)) body orelse env) env:Sem Flow).onRaise (leaving env)):=by
 unfold forStG
 cases hf:env.frame with
 |none=>exact subF_no
 |some f =>
  dsimp only
  intro M Γ Q E p s hu hr k
  rw [←PySem.W.R.bindR_eq] at k
  have k:Sem.wp M Γ (PySem.W.R.onRaiseR (iterF iter env) (Vk l' env) >>= fun it=>PySem.W.R.onRaiseR (PySem.run (.forLoop target it body orelse env) none) (ownL (some f))) Q E p s:=k
  rw [Sem.wp_bind'] at k
  have k1:=Qa (vW (iterF iter env)) (fun x=>Kh hd x) M Γ _ E p s hu hr k
  rw [iter_eq,Sem.wp_onRaise] at k1
  rw [Sem.wp_onRaise]
  have e:(do
   let x ←foldedSetIterable iter env (←eval iter env)
   standAt iter.pos
   runOwn (.forLoop target (←holding [x] (pyIter x)) body orelse env) env:Sem Flow)=(do
   let x ←foldedSetIterable iter env (←eval iter env)
   standAt iter.pos
   holding [x] (pyIter x)) >>= fun it=>runOwn (.forLoop target it body orelse env) env:=by
   simp only [bind_assoc]
  rw [e,Sem.wp_bind']
  refine Sem.wp_mono M Γ _ (fun it p' s' z=>?_) (fun _ _ _ z=>z) p s k1
  rw [←PySem.W.R.onRaiseR_eq] at z
  rw [Sem.wp_onRaise] at z
  unfold runOwn
  rw [Sem.wp_onRaise]
  exact Sem.wp_mono M Γ _ (fun _ _ _ z=>z) (fun x p'' s'' z=>own_wp hf z) p' s' z
theorem stmtG_sub {l l':List Env} {env:Env} (hd:l.dropWhile (·.frame != env.frame)=l') (s:Stmt):yH (some l) (stmtG l' env s) ((exec s env).onRaise (leaving env)):=by
 have plain:∀ s,yH (some l) (PySem.W.R.onRaiseR (execF 10 s env) (Vk l' env)) ((exec s env).onRaise (leaving env)):=fun s=>Qa ((exec_sub 10 s env).f _) fun x=>Kh hd x
 have hz:=plain s
 cases s with
 |Try body handlers orelse final pos =>
  cases final with
  |cons=>exact hz
  |nil=>exact Qa (subF_at (f:=fun _=>tryStmt false (execs body env) handlers (execs orelse env) [] env) _ (try_sub hd _ _ _)) fun x=>Kh hd x
 |For target iter body orelse pos =>
  intro M Γ Q E p s hu hr k
  have z:=for_sub' hd target iter body orelse M Γ Q E _ s hu hr k
  rw [Sem.wp_onRaise] at z ⊢
  exact z
 |_=>exact hz
noncomputable def listG (l:List Env) (env:Env):List Stmt→Sem Flow
 |[] => .pure .next
 |s::rest=>PySem.W.R.bindR (stmtG l env s) fun f=>match f with
  |.next=>listG l env rest
  |f => .pure f
theorem listG_sub {l l':List Env} {env:Env} (hd:l.dropWhile (·.frame != env.frame)=l'):∀ ss,yH (some l) (listG l' env ss) ((execs ss env).onRaise (leaving env))
 |[]=>by
  intro M Γ Q E p s hu hr k
  rw [Sem.wp_onRaise]
  exact k
 |s::rest=>by
  intro M Γ Q E p sh hu hr k
  have k:Sem.wp M Γ (PySem.W.R.bindR (stmtG l' env s) fun f=>match f with | .next=>listG l' env rest | f => .pure f) Q E p sh:=k
  rw [←PySem.W.R.bindR_eq] at k
  have k:Sem.wp M Γ (stmtG l' env s >>= fun f=>match f with | .next=>listG l' env rest | f => .pure f) Q E p sh:=k
  rw [Sem.wp_bind'] at k
  have k1:=stmtG_sub hd s M Γ _ E p sh hu hr k
  rw [Sem.wp_onRaise] at k1 ⊢
  rw [show execs (s::rest) env=(exec s env >>= fun f=>match f with | .next=>execs rest env | f=>pure f) from rfl,Sem.wp_bind']
  refine Sem.wp_mono M Γ _ (fun f p' s' z=>?_) (fun _ _ _ z=>z) p sh k1
  cases f with
  |next =>
   have z:=listG_sub hd rest M Γ Q E p' s' hu hr z
   rw [Sem.wp_onRaise] at z
   exact z
  |_=>exact z
def funcG (l:List Env) (body:List Stmt) (env:Env):Sem PySem.Fin:=PySem.Sem.point [] fun _=>PySem.W.R.bindR (listG l env body) fun r=>match r with
 |.ret v => .pure (.done (.ret v))
 |_ => .pure (.done (.ret .none))
theorem funcG_sub {l l':List Env} {env:Env} (hd:l.dropWhile (·.frame != env.frame)=l') (body:List Stmt):yH (some l) (funcG l' body env) (denote table (.func body env)):=by
 unfold funcG
 intro M Γ Q E p s hu hr k
 refine (?_:yH (some l) _ (do
  match ←(execs body env).onRaise (leaving env) with
  |.ret v=>ret v
  |_=>ret .none)) M Γ Q E p s hu hr k
 refine yT (listG_sub hd body) fun r=>?_
 cases r <;> exact vW _
noncomputable def okO (outer:List Env) (env:Env):Bool:=match outer with
 |e0::_=>match e0.frame with
  |some _=>match env.frame with
   |some _=>true
   |none=>false
  |none=>false
 |[]=>false
noncomputable def chkE (outer:List Env) (env:Env):List (Addr×Addr):=match outer with
 |e0::_=>match e0.frame with
  |some a=>match env.frame with
   |some b=>[(a,b)]
   |none=>[]
  |none=>[]
 |[]=>[]
theorem okO_drop {outer:List Env} {env:Env} (h:okO outer env=true) (c:∀ p∈chkE outer env,p.1=p.2):outer.dropWhile (·.frame != env.frame)=outer:=by
 unfold okO at h
 unfold chkE at c
 split at h
 ·rename_i e0 rest
  split at h
  ·rename_i a qa
   split at h
   ·rename_i b qb
    simp only [qa,qb] at c
    have e:a=b:=c (a,b) (.head _)
    subst e
    rw [List.dropWhile_cons,qa,qb]
    simp
   ·cases h
  ·cases h
 ·cases h
def DG (fr:Option (List Env)) (c:Code):Sem PySem.Fin:=match fr with
 |none=>DF c
 |some outer=>match c with
  |.func body env=>funcG (env::outer) body env
  |.whileLoop test body orelse env=>ifS (okO outer env) (PySem.W.R.onRaiseR (whileF test body orelse env) (outL outer env)) (DF c)
  |.forLoop target it body orelse env=>ifS (okO outer env) (PySem.W.R.onRaiseR (forF target it body orelse env) (outL outer env)) (DF c)
  |_=>DF c
def chkG (fr:Option (List Env)) (c:Code):List (Addr×Addr):=match fr with
 |none=>[]
 |some outer=>match c with
  |.whileLoop _ _ _ env=>chkE outer env
  |.forLoop _ _ _ _ env=>chkE outer env
  |_=>[]
theorem subF_okO {fr:Option (List Env)} {α:Type} {b:Bool} {x y t:Sem α} (h2:b=false→yH fr y t) (h1:b=true→yH fr x t):yH fr (ifS b x y) t:=by
 cases b with
 |true=>exact h1 rfl
 |false=>exact h2 rfl
theorem DG_sub (fr:Option (List Env)) (c:Code) (h:∀ p∈chkG fr c,p.1=p.2):yH (pushEnvs c.envs fr) (DG fr c) (denote table c):=by
 cases fr with
 |none=>exact (DF_sub c).f _
 |some outer =>
  have key:∀ c:Code,yH (pushEnvs c.envs (some outer)) (DF c) (denote table c):=fun c=>(DF_sub c).f _
  have hz:=key c
  cases c with
  |func body env =>
   refine funcG_sub (l:=env::outer) ?_ body
   rw [List.dropWhile_cons,bne_self_eq_false]
   rfl
  |whileLoop test body orelse env=>exact subF_okO (fun _=>hz) fun q=>Qa ((while_sub _ _ _ _).f _) fun x=>out_sub (okO_drop q h) x
  |forLoop target it body orelse env=>exact subF_okO (fun _=>hz) fun q=>Qa ((for_sub _ _ _ _ _).f _) fun x=>out_sub (okO_drop q h) x
  |_=>exact hz
def cfg (w:World) (lv:Nat) (hooks:List Hook):Cfg:={set:=⟨PW,w.params⟩,st:=ktP w,hooks,D:=fun _=>DF,call:=QL,dmax:=Nat.mul 20 lv,umax:=Nat.mul 200 lv}
def St (w:World) (h:Heap):Prop:=∀ a o,(ktP w).get a=some o→h.get? a=some o
def Old (ws:List Addr) (h h':Heap):Prop:=True∧∀ b o,h.get? b=some o→b∉ws→h'.get? b=some o
theorem Old.refl (ws:List Addr) (h:Heap):Old ws h h:=⟨trivial,fun _ _ e _=>e⟩
theorem Old.get {h h':Heap} (x:Old [] h h') {b:Addr} {o:Obj} (e:h.get? b=some o):h'.get? b=some o:=x.2 b o e (fun q=>nomatch q)
structure Room (A:Around) (lv:Nat):Prop where
 depth:A.depth+20 * lv < recursionLimit
 units:A.units+200 * lv+12 < cLine
 handled:A.handled=none
noncomputable def jr (w:World) (lv:Nat) (c:Code) (h:Heap) (ws:List Addr) (Post:Result→Heap→Prop):Prop :=
 ∀ (A:Around) (g:Array GenState) (d:Drawn) (tk:Nat) (os:OsState) (R:Result→Shared→Prop),Room A lv →
  (∀ r h' tk',Old ws h h'→Post r h'→R r ⟨h',g,d,tk',os⟩)→codeAny (model PW w) A c R ⟨h,g,d,tk,os⟩
theorem jr.mono {w lv c h ws} {P P':Result→Heap→Prop} (x:jr w lv c h ws P) (hp:∀ r h',Old ws h h'→P r h'→P' r h'):jr w lv c h ws P' :=
 fun A g d tk os R hr k=>x A g d tk os R hr fun r h' tk' o p=>k r h' tk' o (hp r h' o p)
theorem jr.on {w lv c h ws ws'} {P P':Result→Heap→Prop} (e:ws'=ws) (x:jr w lv c h ws P) (hp:∀ r h',Old ws h h'→P r h'→P' r h'):jr w lv c h ws' P':=e ▸ x.mono hp
theorem limP (w:World):∀ h:Heap,St w h→h.NoLimit:=by
 intro h hs
 have e:(ktP w).get cStatics=some (((ktP w).get cStatics).getD default):=by kernel_rfl!
 have x:=hs _ _ e
 have n1:h.isNs cStatics=true:=by
  unfold Heap.isNs
  rw [x]
  kernel_rfl!
 refine ⟨_,Heap.Ns.of_isNs n1,?_⟩
 unfold Heap.nsMap
 rw [x]
 kernel_rfl!
theorem fit {w:World} {lv:Nat} {hooks:List Hook} {A:Around} {h₀:Heap} {ws:List Addr} (r:Room A lv) (hk:∀ H∈hooks,H.Ok (cfg w lv hooks) PW w h₀ ws):Fit PW w (cfg w lv hooks) A h₀ ws :=
 ⟨rfl,fun fr c _=>(DF_sub c).f _,fun _ q=>(nomatch q),fun fd body a args=>(JL fd body a args).symm,hk,r.depth,Nat.lt_of_le_of_lt (Nat.le_add_right _ 12) r.units,r.handled,limP w⟩
structure jl (w:World) (ws:List Addr) (m:List En) (h:Heap):Prop where
 st:St w h
 known:∀ e∈m,h.get? e.a=some e.o
 facts:∀ e∈m,∀ p∈e.dq,Dq h p.1 p.2
 apart:∀ (i j:Nat) (x y:En),m[i]?=some x→m[j]?=some y→x.w=true→i≠j→x.a≠y.a
 off:∀ e∈m,e.w=true→(ktP w).get e.a=none
 own:∀ e∈m,e.w=true→e.a∈ws
theorem jl.rp {w lv hooks ws m h} (x:jl w ws m h):Rp (cfg w lv hooks) h ws m h.objs.size h :=
 ⟨rfl,x.known,x.facts,x.apart,x.st,x.off,fun e he hw => .inl (x.own e he hw),fun _ _ e _=>e⟩
theorem jl.read {w h} {m:List En} (hs:St w h) (hm:∀ e∈m,h.get? e.a=some e.o∧e.w=false∧e.dq=[]):jl w [] m h :=
 have no:∀ e∈m,e.w=true→False:=fun e he hw=>by rw [(hm e he).2.1] at hw;cases hw
 ⟨hs,fun e he=>(hm e he).1,fun e he p hp=>(by rw [(hm e he).2.2] at hp;cases hp),fun _ _ x _ hi _ hw=>(no x (List.mem_of_getElem? hi) hw).elim,fun e he hw=>(no e he hw).elim,fun e he hw=>(no e he hw).elim⟩
theorem jl.none {w h} (hs:St w h):jl w [] [] h:=jl.read hs (fun _ he=>nomatch he)
theorem jl.nil {w ws h} (hs:St w h):jl w ws [] h:=⟨hs,fun _ he=>(nomatch he),fun _ he=>(nomatch he),fun _ _ _ _ hi=>(nomatch hi),fun _ he=>(nomatch he),fun _ he=>(nomatch he)⟩
theorem jl.cons {w:World} {ws:List Addr} {m:List En} {h:Heap} {a:Addr} {o:Obj} {b:Bool} (S:jl w ws m h) (g:h.get? a=some o) (off:b=true→(ktP w).get a=Option.none∧a∈ws) (n:∀ e∈m,(b || e.w)=true→a≠e.a):jl w ws (⟨a,o,b,[]⟩::m) h:=by
 refine ⟨S.st,fun e he=>?_,fun e he p hp=>?_,fun i j x y hi hj hw hij=>?_,fun e he hw=>?_,fun e he hw=>?_⟩
 ·cases he with
  |head=>exact g
  |tail _ he=>exact S.known e he
 ·cases he with
  |head=>cases hp
  |tail _ he=>exact S.facts e he p hp
 ·cases i with
  |zero =>
   cases j with
   |zero=>exact absurd rfl hij
   |succ j =>
    cases hi
    exact n y (List.mem_of_getElem? hj) (Bool.or_eq_true_iff.mpr (.inl hw))
  |succ i =>
   cases j with
   |zero =>
    cases hj
    exact fun q=>n x (List.mem_of_getElem? (i:=i) hi) (Bool.or_eq_true_iff.mpr (.inr hw)) q.symm
   |succ j=>exact S.apart i j x y hi hj hw fun q=>hij (congrArg Nat.succ q)
 ·cases he with
  |head=>exact (off hw).1
  |tail _ he=>exact S.off e he hw
 ·cases he with
  |head=>exact (off hw).2
  |tail _ he=>exact S.own e he hw
noncomputable def AllN (b:Bool) (a:Addr):List En→Prop
 |[]=>True
 |e::m=>((b || e.w)=true→a≠e.a)∧AllN b a m
theorem allN {b:Bool} {a:Addr} {m:List En} (x:AllN b a m):∀ e∈m,(b || e.w)=true→a≠e.a:=by
 induction m with
 |nil=>exact fun _ he=>nomatch he
 |cons c m ih =>
  intro e he
  cases he with
  |head=>exact x.1
  |tail _ he=>exact ih x.2 e he
theorem jl.w {w:World} {ws:List Addr} {m:List En} {h:Heap} {a:Addr} {o:Obj} (S:jl w ws m h) (g:h.get? a=some o) (off:(ktP w).get a=Option.none) (own:a∈ws) (n:AllN true a m):jl w ws (⟨a,o,true,[]⟩::m) h:=S.cons g (fun _=>⟨off,own⟩) (allN n)
theorem jl.r {w:World} {ws:List Addr} {m:List En} {h:Heap} {a:Addr} {o:Obj} (S:jl w ws m h) (g:h.get? a=some o) (n:AllN false a m):jl w ws (⟨a,o,false,[]⟩::m) h:=S.cons g (fun q=>nomatch q) (allN n)
theorem St.size {w:World} {h:Heap} (hs:St w h):∃ k,h.objs.size=k+845:=by
 have e:(ktP w).get 844=some (((ktP w).get 844).getD default):=by kernel_rfl!
 have:(844:Nat) < h.objs.size:=Heap.lt_size (hs _ _ e)
 exact ⟨h.objs.size - 845,by omega⟩
theorem Rp.old {C:Cfg} {h₀:Heap} {ws m n h} (D:Rp C h₀ ws m n h):Old ws h₀ h:=⟨trivial,D.keep⟩
theorem Yt {w:World} {lv:Nat} {hooks:List Hook} {h:Heap} {ws:List Addr} (hk:∀ H∈hooks,H.Ok (cfg w lv hooks) PW w h ws) {f:Addr} {args:List Value} {m:List En} {Post:Result→Heap→Prop} {fuel:Nat} {tr:Tr}
  (hf:vH (ktP w) f=true) (S:jl w ws m h)
  (H:∀ n tk o b,h.objs.size=n+845→qU (fun r m' n' _=>∀ h',Rp (cfg w lv hooks) h ws m' n' h'→Post r h') (VN (cfg w lv hooks) fuel f args m (n+845) tk tr o b)):jr w lv (.call (.ref f) ⟨args,[]⟩) h ws Post:=by
 intro A g d tk os R hr k
 obtain ⟨n,hn⟩:=S.st.size
 refine fn_ok (C:=cfg w lv hooks) (fit hr hk) (fuel:=fuel) (tr:=tr) hf S.rp fun o b=>?_
 have go:∀ X:Out,qU (fun r m' n' _=>∀ h',Rp (cfg w lv hooks) h ws m' n' h'→Post r h') X→qU (QM (cfg w lv hooks) h ws R g d os) X:=by
  intro X
  induction X with
  |stop=>exact id
  |short=>exact id
  |log _ r ih=>exact ih
  |eqA a b r ih=>exact fun x=>⟨x.1,ih x.2⟩
  |must P r ih=>exact fun x=>⟨x.1,ih x.2⟩
  |may P r ih=>exact fun x p=>ih (x p)
  |fin r m n tk=>exact fun x h' D=>k r h' tk D.old (x h' D)
 rw [hn]
 exact go _ (H n tk o b hn)
theorem je {w:World} {b1 b2 b3:Bool} {lv:Nat} {hooks:List Hook} {h:Heap} {ws:List Addr} (hk:∀ H∈hooks,H.Ok (cfg (jb w b1 b2 b3) lv hooks) PW (jb w b1 b2 b3) h ws) {f:Addr} {args:List Value} {m:List En} {Post:Result→Heap→Prop} {fuel:Nat} {tr:Bool→Tr}
  (hf:vH (ktP (jb w b1 b2 b3)) f=true) (S:jl (jb w b1 b2 b3) ws m h)
  (H:∀ n tk o b,h.objs.size=n+845→∀ c,qU (fun r m' n' _=>∀ h',Rp (cfg (jb w b1 b2 b3) lv hooks) h ws m' n' h'→Post r h') (VN (cfg (jb w c b2 b3) lv hooks) fuel f args m (n+845) tk (tr c) o b)):jr (jb w b1 b2 b3) lv (.call (.ref f) ⟨args,[]⟩) h ws Post :=
 Yt hk hf S fun n tk o b q=>H n tk o b q b1
theorem good_ret {X:Out} {F:Result→List En→Nat→Nat→Prop} {v:Value} (e:(QW X,vD X,endV X)=(QV X,[],.ret v)) (k:∀ x m n tk,bare x=v→F (.ok (.ret x)) m n tk):qU F X:=by
 have e1:=congrArg (·.1) e
 have e2:=congrArg (·.2.1) e
 have e3:=congrArg (·.2.2) e
 dsimp only at e1 e2 e3
 clear e
 induction X with
 |stop=>cases e3
 |short=>cases e3
 |log _ r ih=>exact ih e1 e2 e3
 |eqA a b r ih =>
  simp only [QW,QV,List.cons.injEq] at e1
  exact ⟨e1.1,ih e1.2 e2 e3⟩
 |must P r ih=>simp [vD] at e2
 |may P r ih=>simp [vD] at e2
 |fin r m n tk =>
  cases r with
  |error=>cases e3
  |ok f =>
   cases f with
   |ret x=>simp only [endV,KC.ret.injEq] at e3;exact k x m n tk e3
   |next=>cases e3
   |brk=>cases e3
   |cont=>cases e3
theorem VF {X:Bool→Out} {F:Result→List En→Nat→Nat→Prop} {v:Value} (e0:CkN v [] X false) (e1:CkN v [] X true) (k:∀ x m n tk,bare x=v→F (.ok (.ret x)) m n tk):∀ b,qU F (X b)
 |false=>good_ret e0 k
 |true=>good_ret e1 k
theorem bare_str {x:Value} {s:Str} (h:bare x = .str s 0):∃ t,x = .str s t:=by
 cases x <;> simp [bare] at h
 subst h
 exact ⟨_,rfl⟩
theorem bare_bool {x:Value} {b:Bool} (h:bare x = .bool b):x = .bool b:=by
 cases x <;> simp [bare] at h
 subst h
 rfl
theorem JS {x:Value} (h:bare x = .none):x = .none:=by
 cases x <;> simp [bare] at h
 rfl
theorem Qh {x:Value} {a:Addr} (h:bare x = .ref a):x = .ref a:=by
 cases x <;> simp [bare] at h
 subst h
 rfl
noncomputable def roMem:List (Addr×Obj)→List En
 |[]=>[]
 |p::l=>⟨p.1,p.2,false,[]⟩::roMem l
noncomputable def AllAt (h:Heap):List (Addr×Obj)→Prop
 |[]=>True
 |p::l=>h.get? p.1=some p.2∧AllAt h l
theorem roMem_ok {h:Heap}:∀ {l:List (Addr×Obj)},AllAt h l→∀ e∈roMem l,h.get? e.a=some e.o∧e.w=false∧e.dq=[]
 |[],_,_,he=>nomatch he
 |p::l,H,e,he=>by
  cases he with
  |head=>exact ⟨H.1,rfl,rfl⟩
  |tail _ he=>exact roMem_ok H.2 e he
theorem jl.ro {w h} {l:List (Addr×Obj)} (hs:St w h) (H:AllAt h l):jl w [] (roMem l) h:=jl.read hs (roMem_ok H)
abbrev qG (s:Str):Result→Heap→Prop:=fun r _=>∃ t,r = .ok (.ret (.str s t))
theorem js {x:Value} {s:Str} {h:Heap} (hx:bare x = .str s 0):qG s (.ok (.ret x)) h:=by
 obtain ⟨t,rfl⟩:=bare_str hx
 exact ⟨t,rfl⟩
theorem VE {w:World} {lv:Nat} {h₀:Heap} {ws:List Addr}:∀ H∈([]:List Hook),H.Ok (cfg w lv []) PW w h₀ ws:=fun _ h=>nomatch h
structure Sp where
 eqs:List (Addr×Addr):=[]
 musts:List Prop:=[]
 V:Nat→Value
noncomputable def emitE:List (Addr×Addr)→Out→Out
 |[],r=>r
 |p::l,r => .eqA p.1 p.2 (emitE l r)
noncomputable def emitM:List Prop→Out→Out
 |[],r=>r
 |P::l,r => .must P (emitM l r)
def vi (f:Value) (lv:Nat) (spec:List Value→List En→List Nat→Option Sp):Hook where
 ar:=3
 nd:=Nat.mul 20 lv
 nu:=Nat.add (Nat.mul 200 lv) 12
 go:=fun c m _ _ hint _ o=>match c with
  |.call v a=>match isFn f v with
   |true=>match a with
    |⟨args,kw⟩=>match kw with
     |[]=>match spec args m hint with
      |some sp=>match o with
       |[x,y,z]=>emitE sp.eqs (emitM sp.musts (.fin (.ok (.ret (sp.V z.n))) m x.n y.n))
       |_ => .short
      |none => .stop 50
     |_ => .stop 51
   |false => .stop 52
  |_ => .stop 53
theorem Yh {F}:∀ {l:List (Addr×Addr)} {r:Out},qU F (emitE l r)→(∀ p∈l,p.1=p.2)∧qU F r
 |[],_,h=>⟨fun _ hp=>(nomatch hp),h⟩
 |p::l,r,h=>by
  obtain ⟨h1,h2⟩:=Yh (l:=l) (r:=r) h.2
  refine ⟨fun q hq=>?_,h2⟩
  cases hq with
  |head=>exact h.1
  |tail _ hq=>exact h1 q hq
theorem Yg {F}:∀ {l:List Prop} {r:Out},qU F (emitM l r)→(∀ P∈l,P)∧qU F r
 |[],_,h=>⟨fun _ hp=>(nomatch hp),h⟩
 |P::l,r,h=>by
  obtain ⟨h1,h2⟩:=Yg (l:=l) (r:=r) h.2
  refine ⟨fun q hq=>?_,h2⟩
  cases hq with
  |head=>exact h.1
  |tail _ hq=>exact h1 q hq
noncomputable def Vs:List Value→Option (List Str)
 |[]=>some []
 |v::r=>match v with
  |.str s _=>match Vs r with
   |some l=>some (s::l)
   |none=>none
  |_=>none
def jk (l:List Str):Prop:=(l.map (·.length)).sum≤100000
def jc (x:Str) (l:List Str):Prop:=(l.map (·.length)).sum+l.length * x.length≤100000
def QT:Hook:=vi (.builtin "str.__add__") 0
 (fun args _ _=>oL2 args fun a b =>
  yp a fun x _ =>
  yp b fun y _ =>
  some {musts:=[jk [x,y]],V := .str (x++y)})
def neSp (want:Bool) (args:List Value) (hint:List Nat):Option Sp:=oL2 args fun a b =>
 yp a fun x _ =>
 yp b fun y _ =>
 oL1 hint fun k =>
 match k with
  |0=>some {musts:=[x=y],V:=fun _ => .bool (!want)}
  |_=>some {musts:=[x≠y],V:=fun _ => .bool want}
def neH:Hook:=vi (.builtin "str.__ne__") 0 (fun args _ hint=>neSp true args hint)
def eqH:Hook:=vi (.builtin "str.__eq__") 0 (fun args _ hint=>neSp false args hint)
def Vm:Hook:=vi (.builtin "str.join") 0
 (fun args m hint=>oL2 args fun a b =>
  yp a fun x _ =>
  oRf b fun L =>
  oL1 hint fun j =>
  oS m[j]? fun e =>
  oO e.o fun cls _ dt _ =>
  oTy cls fun t =>
  oT (decide (t = "list")) <|
  oSq dt fun xs _ =>
  oS (Vs xs.toList) fun l =>
  some {eqs:=[(L,e.a)],musts:=[jc x l],V := .str (Txt.join x l)})
theorem Rp.grow {C:Cfg} {h₀:Heap} {ws m n h h'} (D:Rp C h₀ ws m n h) (o:Old [] h h'):Rp C h₀ ws m h'.objs.size h' :=
 ⟨rfl,fun e he=>o.get (D.known e he),fun e he p hp=>(D.facts e he p hp).mono fun a x q _=>o.get q,D.apart,fun a x e=>o.get (D.stat a x e),D.off,D.own,fun b x e hb=>o.get (D.keep b x e hb)⟩
theorem room_of {A:Around} {lv:Nat} (h1:A.depth+Nat.mul 20 lv < recursionLimit) (h2:A.units+Nat.add (Nat.mul 200 lv) 12 < cLine) (h3:A.handled=none):Room A lv:=⟨h1,h2,h3⟩
section
variable {w:World} {lc:Nat} {hs:List Hook} {h₀:Heap} {ws:List Addr}
def VG (w:World) (h₀:Heap) (ws:List Addr) (f:Value) (lv:Nat) (args:List Value) (m:List En) (sp:Sp):Prop:=∀ h,(∀ p∈sp.eqs,p.1=p.2)→(∀ P∈sp.musts,P)→St w h→(∀ e∈m,h.get? e.a=some e.o)→Old ws h₀ h →
   jr w lv (.call f ⟨args,[]⟩) h [] (fun r _=>∃ t,r = .ok (.ret (sp.V t)))
theorem jN {f:Value} {lv:Nat} {spec}
  (H:∀ args m hint,Inv (spec args m hint) (VG w h₀ ws f lv args m)):(vi f lv spec).Ok (cfg w lc hs) PW w h₀ ws:=by
 intro A m n c hint h g d tk os R h1 h2 h3 D G
 have no:∀ {k:Nat},qU (QM (cfg w lc hs) h₀ ws R g d os) (.stop k)→False:=fun h=>h
 have G0:=G 0 [default,default,default] (fun _=>rfl) rfl
 cases c with
 |call v a =>
  obtain ⟨args,kw⟩:=a
  simp only [vi] at G G0
  cases q:isFn f v with
  |false=>rw [q] at G0;exact (no G0).elim
  |true =>
   have:=isFn_eq q
   subst this
   cases kw with
   |cons=>rw [q] at G0;exact (no G0).elim
   |nil =>
    cases qs:spec args m hint with
    |none=>rw [q,qs] at G0;exact (no G0).elim
    |some sp =>
     rw [q,qs] at G0
     simp only at G0
     have z:=Yh G0
     have z2:=Yg z.2
     refine H args m hint sp qs h z.1 z2.1 D.stat D.known D.old A g d tk os R (room_of h1 h2 h3) fun r h' tk' o p=>?_
     obtain ⟨t,rfl⟩:=p
     have G1:=G 0 [{n:=h'.objs.size},{n:=tk'},{n:=t}] (fun _=>rfl) rfl
     rw [q,qs] at G1
     simp only at G1
     exact (Yg (Yh G1).2).2 h' (D.grow o)
 |_=>exact (no G0).elim
theorem vb {prog:Program} {A:Around} {s:Shared} {T:String} {name:Str} {id:String} {B:Builtin} {self:Value} {rest:List Value} {S:PySem.Spec} {R:Result→Shared→Prop} (slot:Slot T name id) (hT:s.TypeIs self T)
  (entry:entryFor table id=some B) (args:argsOk id ⟨self::rest,[]⟩) (g:Meets (B ⟨self::rest,[]⟩) S) (h:S A R s) :
  codeAny (model prog w) A (.call (.builtin id) ⟨self::rest,[]⟩) R s :=
 codeAny_call_builtin slot.plain entry (slot.check _ _ _ _ _ _ _ _ hT args (g prog w A R s h))
theorem small_size {l:List Str} (h:jk l):(l.map (·.length)).sum≤sizeLine:=Nat.le_trans h (by decide)
theorem vS:QT.Ok (cfg w lc hs) PW w h₀ ws:=by
 refine jN fun args m hint=>?_
 refine iL2 fun _ _ b1=>yl fun x t b2=>yl fun y u b3=>?_
 subst b1 b2 b3
 refine iE ?_
 intro h _ hm _ _ _ A g d tk os R _ k
 have hsm:jk [x,y]:=hm _ (.head _)
 clear hm
 refine vb F.slot_str_add (typeIs_str _ _ _) F.entry_str_add (F.args_str_add_2 _ _) (gives_str_add x y t u).meets ?_
 show Made.post _ _ _
 have hl:(x++y).length≤sizeLine:=by
  have:=small_size hsm
  simp only [List.map,List.sum_cons,List.sum_nil] at this
  rw [Str.length_append];omega
 split
 ·rename_i q
  have e:x++y=y:=by
   have:x=Str.empty:=by
    cases x with | mk c=>simp only [beq_iff_eq,Str.length] at q;rw [Array.eq_empty_of_size_eq_zero q];rfl
   rw [this];exact Str.empty_append y
  exact k _ h tk (Old.refl _ _) ⟨u,by rw [e]⟩
 ·split
  ·rename_i q
   have e:x++y=x:=by
    have:y=Str.empty:=by
     cases y with | mk c=>simp only [beq_iff_eq,Str.length] at q;rw [Array.eq_empty_of_size_eq_zero q];rfl
    rw [this];exact Str.append_empty x
   exact k _ h tk (Old.refl _ _) ⟨t,by rw [e]⟩
  ·exact ⟨hl,k _ h (tk+1) (Old.refl _ _) ⟨tk,rfl⟩⟩
theorem cps_ne {x y:Str}:(x.cps.toList != y.cps.toList)=true↔x≠y:=by
 rw [bne_iff_ne]
 constructor
 ·intro h e;exact h (by rw [e])
 ·intro h e
  apply h
  cases x;cases y
  simp only [Str.mk.injEq]
  exact Array.toList_inj.mp e
theorem Jk:neH.Ok (cfg w lc hs) PW w h₀ ws:=by
 refine jN fun args m hint=>?_
 refine iL2 fun _ _ b1=>yl fun x t b2=>yl fun y u b3=>iL1 fun _ b4=>?_
 subst b1 b2 b3 b4
 intro sp hs h _ hm _ _ _ A g d tk os R _ k
 refine vb F.slot_str_ne (typeIs_str _ _ _) F.entry_str_ne (F.args_str_ne_2 _ _) (gives_str_ne x y t u).meets ?_
 refine k _ h tk (Old.refl _ _) ⟨0,?_⟩
 split at hs
 ·cases hs
  have e:x=y:=hm _ (.head _)
  subst e
  show Except.ok (Flow.ret (.bool (x.cps.toList != x.cps.toList)))=_
  rw [bne_self_eq_false];rfl
 ·cases hs
  have e:x≠y:=hm _ (.head _)
  rw [cps_ne.mpr e]
theorem cps_eq {x y:Str}:(x.cps.toList == y.cps.toList)=true↔x=y:=by
 rw [beq_iff_eq]
 constructor
 ·intro e
  cases x;cases y
  simp only [Str.mk.injEq]
  exact Array.toList_inj.mp e
 ·rintro rfl;rfl
theorem vM:eqH.Ok (cfg w lc hs) PW w h₀ ws:=by
 refine jN fun args m hint=>?_
 refine iL2 fun _ _ b1=>yl fun x t b2=>yl fun y u b3=>iL1 fun _ b4=>?_
 subst b1 b2 b3 b4
 intro sp hs h _ hm _ _ _ A g d tk os R _ k
 refine vb F.slot_str_eq (typeIs_str _ _ _) F.entry_str_eq (F.args_str_eq_2 _ _) (gives_str_eq x y t u).meets ?_
 refine k _ h tk (Old.refl _ _) ⟨0,?_⟩
 split at hs
 ·cases hs
  have e:x=y:=hm _ (.head _)
  rw [cps_eq.mpr e];rfl
 ·cases hs
  have e:x≠y:=hm _ (.head _)
  have:(x.cps.toList == y.cps.toList)=false:=by
   cases q:(x.cps.toList == y.cps.toList) with
   |false=>rfl
   |true=>exact absurd (cps_eq.mp q) e
  rw [this]
theorem Kl:∀ {vs:List Value} {l:List Str},Vs vs=some l→∃ p:List (Str×Tok),strValues p=vs∧p.map (·.1)=l
 |[],l,h=>by cases h;exact ⟨[],rfl,rfl⟩
 |v::r,l,h=>by
  unfold Vs at h
  split at h
  ·rename_i s t
   split at h
   ·rename_i l' q
    cases h
    obtain ⟨p,h1,h2⟩:=Kl q
    exact ⟨(s,t)::p,by rw [←h1];rfl,by rw [←h2];rfl⟩
   ·cases h
  ·cases h
theorem joinH_ok:Vm.Ok (cfg w lc hs) PW w h₀ ws:=by
 refine jN fun args m hint=>?_
 refine iL2 fun _ _ b1=>yl fun x t b2=>iRf fun L b3=>iL1 fun j b4=>iS fun e qe=>iO fun cls dd dt sl qo=>iTy fun T b5=>iT fun qT=>iSq fun xs n b6=>iS fun l ql=>?_
 subst b1 b2 b3 b4 b5 b6
 refine iE ?_
 intro h he hm _ hk _ A g d tk os R _ k
 have hL:L=e.a:=he (L,e.a) (.head _)
 have hS:jc x l:=hm _ (.head _)
 clear he hm
 obtain ⟨p,hp1,hp2⟩:=Kl ql
 have hT:T = "list":=of_decide_eq_true qT
 have ho:h.IsList L (strValues p).toArray:=by
  refine ⟨e.o,hL ▸ hk e (List.mem_of_getElem? qe),?_,n,?_⟩
  ·rw [qo,hT]
  ·rw [qo,hp1]
 have hf:PySem.Builtin.Str.tooLong ((p.map (·.1)).toArray.foldl (· + ·.length+x.length) 0)=false:=by
  rw [StrLaws.joinTotal,hp2]
  unfold jc at hS
  have hz:100000≤sizeLine:=by decide
  simp only [PySem.Builtin.Str.tooLong,decide_eq_false_iff_not,Nat.not_lt]
  omega
 refine vb F.slot_str_join (typeIs_str _ _ _) F.entry_str_join (F.args_str_join_2 _ _) (meets_str_join_list x t L p hf) ⟨ho,post_join p ⟨joinFit_length hf,fun t' k'=>?_⟩⟩
 rw [hp2]
 exact k _ h k' (Old.refl _ _) ⟨t',rfl⟩
end
theorem hkn {C:Cfg} {w:World} {h₀:Heap} {ws:List Addr}:∀ H∈([]:List Hook),H.Ok C PW w h₀ ws:=fun _ h=>nomatch h
theorem hkc {C:Cfg} {w:World} {h₀:Heap} {ws:List Addr} {H:Hook} {l:List Hook} (a:H.Ok C PW w h₀ ws) (b:∀ H∈l,H.Ok C PW w h₀ ws):∀ K∈H::l,K.Ok C PW w h₀ ws:=fun K hK=>by
 cases hK with
 |head=>exact a
 |tail _ hK=>exact b K hK
def Yj (f:Value) (lv:Nat) (args:List Value) (V:Nat→Value):Hook:=vi f lv (fun a _ _=>some {musts:=[a=args],V})
theorem exactH_ok {w:World} {lc:Nat} {hs:List Hook} {h₀:Heap} {ws:List Addr} {f:Value} {lv:Nat} {args:List Value} {V:Nat→Value}
  (H:∀ h,St w h→Old ws h₀ h→jr w lv (.call f ⟨args,[]⟩) h [] (fun r _=>∃ t,r = .ok (.ret (V t)))):(Yj f lv args V).Ok (cfg w lc hs) PW w h₀ ws:=by
 refine jN fun a m hint sp e h he hm hst hk o=>?_
 cases e
 have ea:a=args:=hm _ (.head _)
 subst ea
 exact H h hst o
noncomputable abbrev VU (d:Option Addr) (xs:List Value) (ep:Nat) (sl:Array (Option Value)):Obj:=⟨.type "list",d,.seq ⟨xs⟩ ep,sl⟩
noncomputable abbrev vv (d:Option Addr) (xs:List Value) (ep:Nat) (sl:Array (Option Value)):Obj:=⟨.type "tuple",d,.seq ⟨xs⟩ ep,sl⟩
structure Us where
 eqs:List (Addr×Addr):=[]
 musts:List Prop:=[]
 res:Ora→Result
 may:Ora→Prop:=fun _=>True
 objs:Ora→List Obj:=fun _=>[]
 news:List ((Value×Nat)×(Ora→Addr)×(Ora→Obj)):=[]
 dq:Ora→List (Value×Value):=fun _=>[]
structure vy where
 idx:List Nat:=[]
 us:Nat→Us
noncomputable def emE:List (Addr×Addr)→Out→Out
 |[],r=>r
 |p::l,r => .eqA p.1 p.2 (emE l r)
noncomputable def emM:List Prop→Out→Out
 |[],r=>r
 |P::l,r => .must P (emM l r)
noncomputable def clsNe (a b:Value):Bool:=match a with
 |.type s=>match b with
  |.type t=>!decide (s=t)
  |.ref _=>true
  |_=>false
 |.ref _=>match b with
  |.type _=>true
  |_=>false
 |.none=>match b with
  |.type _=>true
  |.ref _=>true
  |_=>false
 |_=>false
theorem clsNe_ne {a b:Value} (h:clsNe a b=true):a≠b:=by
 intro e
 subst e
 cases a <;> simp [clsNe] at h
noncomputable def yb (m:List En):List Nat→Bool
 |[]=>true
 |j::l=>(match m[j]? with | some e=>e.w && !JG e.o | none=>false) && !(l.elem j) && yb m l
noncomputable def setAll:List En→List Nat→List Obj→List En
 |m,j::l,o::r=>setAll (match m[j]? with | some e=>m.set j ⟨e.a,o,true,e.dq⟩ | none=>m) l r
 |m,_,_=>m
noncomputable def addDq (d:List (Value×Value)):List En→List En
 |[]=>[]
 |e::m=>⟨e.a,e.o,e.w,d++e.dq⟩::m
noncomputable def newEs (x:Ora):List ((Value×Nat)×(Ora→Addr)×(Ora→Obj))→List En
 |[]=>[]
 |p::l=>⟨p.2.1 x,p.2.2 x,false,[]⟩::newEs x l
noncomputable def keySize (o:Obj):Nat:=match o.data with
 |.dict es _=>match es.toList with
  |e::_=>match e.key with
   |.str s _=>s.cps.toList.length
   |_=>0
  |[]=>0
 |_=>0
def VS (o:Obj):Value×Nat:=(o.cls,keySize o)
def sgNe (a b:Value×Nat):Bool:=clsNe a.1 b.1 || !(Nat.beq a.2 b.2)
theorem sgNe_ne {a b:Value×Nat} (h:sgNe a b=true):a≠b:=by
 rintro rfl
 unfold sgNe at h
 rw [Bool.or_eq_true] at h
 rcases h with h | h
 ·exact clsNe_ne h rfl
 ·rw [Nat.beq_refl] at h;cases h
noncomputable def newsOk (m:List En):List ((Value×Nat)×(Ora→Addr)×(Ora→Obj))→Bool
 |[]=>true
 |p::l=>m.all (fun e=>!e.w || sgNe (VS e.o) p.1) && newsOk m l
def Us.go (idx:List Nat) (u:Us) (m:List En) (x y:Ora):Out:=emE u.eqs (emM u.musts (.may (u.may y) (.fin (u.res y) (addDq (u.dq y) (newEs y u.news++setAll m idx (u.objs y))) x.n x.n2)))
def yB (ar':Nat) (lv:Nat) (spec:Code→List En→List Nat→Option vy):Hook where
 ar:=2
 br:=ar'
 nd:=Nat.mul 20 lv
 nu:=Nat.add (Nat.mul 200 lv) 12
 go:=fun c m _ _ hint b o=>match spec c m hint with
  |some s=>match Nat.ble b (Nat.pred ar') with
   |true=>match yb m s.idx && newsOk m (s.us b).news with
    |true=>match o with
     |[x,y]=>(s.us b).go s.idx m x y
     |_ => .short
    |false => .stop 61
   |false => .short
  |none => .stop 60
noncomputable def vF (m:List En):List Nat→List Addr
 |[]=>[]
 |j::l=>match m[j]? with
  |some e=>e.a::vF m l
  |none=>vF m l
theorem adN {m:List En}:vF m []=[]:=rfl
theorem adC {m:List En} {j:Nat} {l:List Nat} {r:List Addr} {e:En} (q:m[j]?=some e) (h:vF m l=r):vF m (j::l)=e.a::r:=by
 show (match m[j]? with | some e=>e.a::vF m l | none=>vF m l)=_
 rw [q,←h]
noncomputable def Ups (m:List En) (h':Heap):List Nat→List Obj→Prop
 |[],[]=>True
 |j::l,o::r=>(∃ e,m[j]?=some e∧h'.get? e.a=some o∧VS o=VS e.o)∧Ups m h' l r
 |_,_=>False
theorem Jl {m:List En} {j:Nat} {l:List Nat} (h:yb m (j::l)=true):(∃ e,m[j]?=some e∧e.w=true∧JG e.o=false)∧j∉l∧yb m l=true:=by
 simp only [yb,Bool.and_eq_true] at h
 obtain ⟨⟨h1,h2⟩,h3⟩:=h
 refine ⟨?_,by simpa using h2,h3⟩
 cases q:m[j]? with
 |none=>rw [q] at h1;cases h1
 |some e=>rw [q] at h1;exact ⟨e,rfl,by simpa using h1⟩
theorem Jv {m:List En} {j:Nat} {l:List Nat} {e:En} (h:yb m (j::l)=true) (q:m[j]?=some e):e.w=true:=by
 obtain ⟨x,e1,e2,_⟩:=(Jl h).1
 rw [q] at e1
 rw [Option.some.inj e1,e2]
theorem Kx {m:List En} {j:Nat} {l:List Nat} (h:yb m (j::l)=true):yb m l=true:=(Jl h).2.2
theorem Ky {m m':List En}:∀ {l:List Nat},(∀ i∈l,m'[i]?=m[i]?)→yb m l=true→yb m' l=true
 |[],_,_=>rfl
 |j::l,e,h=>by
  have:=Ky (l:=l) (fun i hi=>e i (.tail _ hi)) (Jl h).2.2
  simp only [yb] at h ⊢
  rw [e j (.head _),this]
  simp only [Bool.and_eq_true] at h ⊢
  exact ⟨h.1,trivial⟩
theorem ups_congr {m m':List En} {h':Heap}:∀ {l:List Nat} {r:List Obj},(∀ i∈l,m'[i]?=m[i]?)→Ups m h' l r→Ups m' h' l r
 |[],[],_,h=>h
 |j::l,o::r,e,h=>⟨by rw [e j (.head _)];exact h.1,ups_congr (fun i hi=>e i (.tail _ hi)) h.2⟩
 |[],_::_,_,h=>h.elim
 |_::_,[],_,h=>h.elim
theorem Qy {h':Heap}:∀ {idx:List Nat} {objs:List Obj} {m:List En},yb m idx=true→Ups m h' idx objs→∀ i x,(setAll m idx objs)[i]?=some x →
  ∃ e,m[i]?=some e∧x.a=e.a∧x.dq=e.dq∧x.w=e.w∧VS x.o=VS e.o∧((i∉idx∧x.o=e.o)∨(i∈idx∧h'.get? e.a=some x.o))
 |[],[],m,_,_,i,x,hx=>⟨x,hx,rfl,rfl,rfl,rfl,.inl ⟨List.not_mem_nil,rfl⟩⟩
 |[],_::_,_,_,hu,_,_,_=>hu.elim
 |_::_,[],_,_,hu,_,_,_=>hu.elim
 |j::l,o::r,m,ho,hu,i,x,hx=>by
  obtain ⟨⟨e,he,hw,ht⟩,hj,hl⟩:=Jl ho
  obtain ⟨⟨e',he',hg,hc⟩,hr⟩:=hu
  rw [he] at he'
  cases he'
  simp only [setAll,he] at hx
  have hjl:j < m.length:=(List.getElem?_eq_some_iff.mp he).1
  have same:∀ i∈l,(m.set j ⟨e.a,o,true,e.dq⟩)[i]?=m[i]?:=fun i hi=>List.getElem?_set_ne (fun (q:j=i)=>hj (by rw [q];exact hi))
  obtain ⟨f,hf,h1,h2,h3,h4,h5⟩:=Qy (idx:=l) (objs:=r) (Ky same hl) (ups_congr same hr) i x hx
  by_cases q:i=j
  ·subst q
   rw [List.getElem?_set_self hjl] at hf
   cases hf
   refine ⟨e,he,h1,h2,by rw [h3,hw],by rw [h4];exact hc,.inr ⟨.head _,?_⟩⟩
   rcases h5 with ⟨_,h5⟩ | ⟨h5,_⟩
   ·rw [h5];exact hg
   ·exact absurd h5 hj
  ·rw [List.getElem?_set_ne (Ne.symm q)] at hf
   refine ⟨f,hf,h1,h2,h3,h4,?_⟩
   rcases h5 with ⟨h5,h6⟩ | ⟨h5,h6⟩
   ·exact .inl ⟨fun z=>by cases z with | head=>exact q rfl | tail _ z=>exact h5 z,h6⟩
   ·exact .inr ⟨.tail _ h5,h6⟩
theorem JR {m:List En} {b:Addr}:∀ {idx:List Nat},b∈vF m idx→∃ (j:Nat) (e:En),j∈idx∧m[j]?=some e∧e.a=b
 |j::l,hb=>by
  unfold vF at hb
  split at hb
  ·rename_i e he
   cases hb with
   |head=>exact ⟨j,e,.head _,he,rfl⟩
   |tail _ hb =>
    obtain ⟨i,f,h1,h2⟩:=JR hb
    exact ⟨i,f,.tail _ h1,h2⟩
  ·obtain ⟨i,f,h1,h2⟩:=JR hb
   exact ⟨i,f,.tail _ h1,h2⟩
theorem QJ {m:List En} {j:Nat}:∀ {idx:List Nat},yb m idx=true→j∈idx→∃ e,m[j]?=some e∧e.w=true∧JG e.o=false
 |i::l,h,hj=>by
  cases hj with
  |head=>exact (Jl h).1
  |tail _ hj=>exact QJ (Jl h).2.2 hj
section
variable {C:Cfg} {h₀:Heap} {ws:List Addr} {m:List En} {n:Nat} {h h':Heap}
theorem Rp.setAll (D:Rp C h₀ ws m n h) {idx:List Nat} {objs:List Obj} (hi:yb m idx=true) (o:Old (vF m idx) h h') (hu:Ups m h' idx objs):Rp C h₀ ws (setAll m idx objs) h'.objs.size h':=by
 have at_:=Qy (h':=h') hi hu
 have mem:∀ x∈Mine.setAll m idx objs,∃ i e,(Mine.setAll m idx objs)[i]?=some x∧m[i]?=some e∧x.a=e.a∧x.dq=e.dq∧x.w=e.w∧VS x.o=VS e.o∧((i∉idx∧x.o=e.o)∨(i∈idx∧h'.get? e.a=some x.o)):=fun x hx=>by
  obtain ⟨i,hx'⟩:=List.getElem?_of_mem hx
  obtain ⟨e,r⟩:=at_ i x hx'
  exact ⟨i,e,hx',r⟩
 have fact:∀ v v',Dq h v v'→Dq h' v v':=fun v v' q=>q.mono fun a x r t=>o.2 a x r fun z=>by
  obtain ⟨j,e,hj,he,rfl⟩:=JR z
  obtain ⟨e',he',_,ht⟩:=QJ hi hj
  rw [he] at he'
  cases he'
  rw [D.at he] at r
  cases r
  rw [ht] at t;cases t
 refine ⟨rfl,fun x hx=>?_,fun x hx p hp=>?_,fun i j x y hx hy hw hij=>?_,fun a x q=>?_,fun x hx hw=>?_,fun x hx hw=>?_,fun b x q hb=>?_⟩
 ·obtain ⟨i,e,_,he,h1,h2,h3,h4,h5⟩:=mem x hx
  rw [h1]
  rcases h5 with ⟨h5,h6⟩ | ⟨_,h6⟩
  ·rw [h6]
   refine o.2 _ _ (D.at he) fun z=>?_
   obtain ⟨j,f,hj,hf,ha⟩:=JR z
   obtain ⟨f',hf',hw,_⟩:=QJ hi hj
   rw [hf] at hf'
   cases hf'
   exact D.apart j i f e hf he hw (fun q=>h5 (q ▸ hj)) ha
  ·exact h6
 ·obtain ⟨i,e,_,he,h1,h2,h3,h4,h5⟩:=mem x hx
  rw [h2] at hp
  exact fact _ _ (D.facts e (List.mem_of_getElem? he) p hp)
 ·obtain ⟨e,he,h1,_,h3,_⟩:=at_ i x hx
  obtain ⟨f,hf,g1,_⟩:=at_ j y hy
  rw [h1,g1]
  exact D.apart i j e f he hf (h3 ▸ hw) hij
 ·refine o.2 _ _ (D.stat a x q) fun z=>?_
  obtain ⟨j,e,hj,he,rfl⟩:=JR z
  obtain ⟨e',he',hw,_⟩:=QJ hi hj
  rw [he] at he'
  cases he'
  rw [D.off e (List.mem_of_getElem? he) hw] at q
  cases q
 ·obtain ⟨i,e,_,he,h1,h2,h3,_⟩:=mem x hx
  rw [h1]
  exact D.off e (List.mem_of_getElem? he) (h3 ▸ hw)
 ·obtain ⟨i,e,_,he,h1,h2,h3,_⟩:=mem x hx
  rw [h1]
  exact D.own e (List.mem_of_getElem? he) (h3 ▸ hw)
 ·refine o.2 _ _ (D.keep b x q hb) fun z=>?_
  obtain ⟨j,e,hj,he,rfl⟩:=JR z
  obtain ⟨e',he',hw,_⟩:=QJ hi hj
  rw [he] at he'
  cases he'
  rcases D.own e (List.mem_of_getElem? he) hw with r | r
  ·exact hb r
  ·rw [r] at q;cases q
theorem Rp.show (D:Rp C h₀ ws m n h) {a:Addr} {o:Obj} (ho:h.get? a=some o) (hne:∀ x∈m,x.w=true→x.a≠a):Rp C h₀ ws (⟨a,o,false,[]⟩::m) n h:=by
 refine ⟨D.size,fun e he=>?_,fun e he p hp=>?_,fun i j x y hx hy hw hij=>?_,D.stat,fun e he hw=>?_,fun e he hw=>?_,D.keep⟩
 ·cases he with
  |head=>exact ho
  |tail _ he=>exact D.known e he
 ·cases he with
  |head=>cases hp
  |tail _ he=>exact D.facts e he p hp
 ·cases i with
  |zero=>cases hx;cases hw
  |succ i =>
   cases j with
   |zero=>cases hy;exact hne x (List.mem_of_getElem? (i:=i) hx) hw
   |succ j=>exact D.apart i j x y hx hy hw (fun q=>hij (by rw [q]))
 ·cases he with
  |head=>cases hw
  |tail _ he=>exact D.off e he hw
 ·cases he with
  |head=>cases hw
  |tail _ he=>exact D.own e he hw
theorem Rp.addDq (D:Rp C h₀ ws m n h) {d:List (Value×Value)} (hd:∀ p∈d,Dq h p.1 p.2):Rp C h₀ ws (addDq d m) n h:=by
 cases m with
 |nil=>exact D
 |cons e m =>
  have at_:∀ (i:Nat) (x:En),(Mine.addDq d (e::m))[i]?=some x→∃ y:En,(e::m)[i]?=some y∧x.a=y.a∧x.o=y.o∧x.w=y.w∧(x.dq=y.dq∨x.dq=d++y.dq):=fun i x hx=>by
   cases i with
   |zero=>cases hx;exact ⟨e,rfl,rfl,rfl,rfl,.inr rfl⟩
   |succ i=>exact ⟨x,hx,rfl,rfl,rfl,.inl rfl⟩
  have mem:∀ x:En,x∈Mine.addDq d (e::m)→∃ y:En,y∈e::m∧x.a=y.a∧x.o=y.o∧x.w=y.w∧(x.dq=y.dq∨x.dq=d++y.dq):=fun x hx=>by
   obtain ⟨i,hx'⟩:=List.getElem?_of_mem hx
   obtain ⟨y,hy,r⟩:=at_ i x hx'
   exact ⟨y,List.mem_of_getElem? hy,r⟩
  refine ⟨D.size,fun x hx=>?_,fun x hx p hp=>?_,fun i j x y hx hy hw hij=>?_,D.stat,fun x hx hw=>?_,fun x hx hw=>?_,D.keep⟩
  ·obtain ⟨y,hy,h1,h2,_⟩:=mem x hx
   rw [h1,h2]
   exact D.known y hy
  ·obtain ⟨y,hy,h1,h2,h3,h4 | h4⟩:=mem x hx
   ·rw [h4] at hp;exact D.facts y hy p hp
   ·rw [h4] at hp
    rcases List.mem_append.mp hp with q | q
    ·exact hd p q
    ·exact D.facts y hy p q
  ·obtain ⟨u,hu,h1,_,h3,_⟩:=at_ i x hx
   obtain ⟨v,hv,g1,_⟩:=at_ j y hy
   rw [h1,g1]
   exact D.apart i j u v hu hv (h3 ▸ hw) hij
  ·obtain ⟨y,hy,h1,_,h3,_⟩:=mem x hx
   rw [h1]
   exact D.off y hy (h3 ▸ hw)
  ·obtain ⟨y,hy,h1,_,h3,_⟩:=mem x hx
   rw [h1]
   exact D.own y hy (h3 ▸ hw)
theorem Qf {F}:∀ {l:List (Addr×Addr)} {r:Out},qU F (emE l r)→(∀ p∈l,p.1=p.2)∧qU F r
 |[],_,h=>⟨fun _ hp=>(nomatch hp),h⟩
 |p::l,r,h=>by
  obtain ⟨h1,h2⟩:=Qf (l:=l) (r:=r) h.2
  refine ⟨fun q hq=>?_,h2⟩
  cases hq with
  |head=>exact h.1
  |tail _ hq=>exact h1 q hq
theorem Qe {F}:∀ {l:List Prop} {r:Out},qU F (emM l r)→(∀ P∈l,P)∧qU F r
 |[],_,h=>⟨fun _ hp=>(nomatch hp),h⟩
 |P::l,r,h=>by
  obtain ⟨h1,h2⟩:=Qe (l:=l) (r:=r) h.2
  refine ⟨fun q hq=>?_,h2⟩
  cases hq with
  |head=>exact h.1
  |tail _ hq=>exact h1 q hq
theorem Rp.news (D:Rp C h₀ ws m n h) {y:Ora} {cl:En→Value}:∀ {l:List ((Value×Nat)×(Ora→Addr)×(Ora→Obj))},(∀ p∈l,∀ x∈m,x.w=true→VS x.o≠p.1)→(∀ p∈l,h.get? (p.2.1 y)=some (p.2.2 y)∧VS (p.2.2 y)=p.1)→Rp C h₀ ws (newEs y l++m) n h
 |[],_,_=>D
 |p::l,hc,hg=>by
  have D':=D.news (y:=y) (cl:=cl) (l:=l) (fun q hq=>hc q (.tail _ hq)) (fun q hq=>hg q (.tail _ hq))
  refine D'.show (hg p (.head _)).1 fun x hx hw e=>?_
  rcases List.mem_append.mp hx with q | q
  ·have no:∀ (l:List ((Value×Nat)×(Ora→Addr)×(Ora→Obj))),∀ x∈newEs y l,x.w=false:=by
    intro l
    induction l with
    |nil=>intro x hx;cases hx
    |cons p l ih =>
     intro x hx
     cases hx with
     |head=>rfl
     |tail _ hx=>exact ih x hx
   rw [no l x q] at hw
   cases hw
  ·have k:=D.known x q
   rw [e,(hg p (.head _)).1] at k
   exact hc p (.head _) x q hw (Option.some.inj k ▸ (hg p (.head _)).2)
end
theorem newsOk_mem {m:List En} {l:List ((Value×Nat)×(Ora→Addr)×(Ora→Obj))} (h:newsOk m l=true):∀ p∈l,∀ e∈m,e.w=true→VS e.o≠p.1:=by
 induction l with
 |nil=>exact fun _ hp=>nomatch hp
 |cons q l ih =>
  intro p hp e he hw
  have h:=Bool.and_eq_true_iff.mp h
  cases hp with
  |head =>
   have:=List.all_eq_true.mp h.1 e he
   rw [hw] at this
   exact sgNe_ne this
  |tail _ hp=>exact ih h.2 p hp e he hw
section
variable {w:World} {lc:Nat} {hs:List Hook} {h₀:Heap} {ws:List Addr}
structure UP (br:Nat) (m:List En) (sp:vy) (r:Result) (h':Heap) (b:Nat) (y:Ora):Prop where
 hb:b≤br.pred
 e:r=(sp.us b).res y
 may:(sp.us b).may y
 ups:Ups m h' sp.idx ((sp.us b).objs y)
 news:∀ p∈(sp.us b).news,h'.get? (p.2.1 y)=some (p.2.2 y)∧VS (p.2.2 y)=p.1
 dq:∀ p∈(sp.us b).dq y,Dq h' p.1 p.2
def UPost (br:Nat) (m:List En) (sp:vy):Result→Heap→Prop:=fun r h'=>∃ b y,UP br m sp r h' b y
def UG (w:World) (h₀:Heap) (ws:List Addr) (br lv:Nat) (c:Code) (m:List En) (sp:vy):Prop:=∀ h,(∀ b,b≤br.pred→(∀ p∈(sp.us b).eqs,p.1=p.2)∧(∀ P∈(sp.us b).musts,P))→yb m sp.idx=true→St w h→(∀ e∈m,h.get? e.a=some e.o)→(∀ e∈m,∀ p∈e.dq,Dq h p.1 p.2)→(∀ e∈m,e.w=true→(ktP w).get e.a=none)→Old ws h₀ h →
   jr w lv c h (vF m sp.idx) (UPost br m sp)
theorem vn {br lv:Nat} {spec} (H:∀ c m hint,Inv (spec c m hint) (UG w h₀ ws br lv c m)):(yB br lv spec).Ok (cfg w lc hs) PW w h₀ ws:=by
 intro A m n c hint h g d tk os R h1 h2 h3 D G
 have no:∀ {k:Nat},qU (QM (cfg w lc hs) h₀ ws R g d os) (.stop k)→False:=fun h=>h
 cases qs:spec c m hint with
 |none =>
  have G0:=G 0 [default,default] (fun _=>rfl) rfl
  simp only [yB,qs] at G0
  exact (no G0).elim
 |some sp =>
  have G1:∀ b x y,b≤br.pred→(yb m sp.idx && newsOk m (sp.us b).news)=true∧qU (QM (cfg w lc hs) h₀ ws R g d os) ((sp.us b).go sp.idx m x y):=fun b x y hb=>by
   have z:=G b [x,y] (fun e=>by have e:br=0:=e;rw [e] at hb;exact Nat.le_zero.mp hb) rfl
   simp only [yB,qs,Nat.ble_eq_true_of_le hb] at z
   cases qk:(yb m sp.idx && newsOk m (sp.us b).news) with
   |false=>rw [qk] at z;exact (no z).elim
   |true=>rw [qk] at z;exact ⟨rfl,z⟩
  have hi:yb m sp.idx=true:=by
   have:=(G1 0 default default (Nat.zero_le _)).1
   rw [Bool.and_eq_true] at this
   exact this.1
  refine H c m hint sp qs h (fun b hb=>?_) hi D.stat D.known D.facts D.off D.old A g d tk os R (room_of h1 h2 h3) fun r h' tk' o p=>?_
  ·have z:=Qf (G1 b default default hb).2
   exact ⟨z.1,(Qe z.2).1⟩
  ·obtain ⟨b,y,hb,rfl,hm,hu,hn,hd⟩:=p
   obtain ⟨k1,k2⟩:=G1 b {n:=h'.objs.size,n2:=tk'} y hb
   rw [Bool.and_eq_true] at k1
   have z:=(Qe (Qf k2).2).2 hm
   refine z h' ?_
   have D':=D.setAll hi o hu
   refine (D'.news (y:=y) (cl:=fun e=>e.o.cls) (fun p hp x hx hw=>?_) hn).addDq hd
   obtain ⟨i,hx'⟩:=List.getElem?_of_mem hx
   obtain ⟨e,he,_,_,e3,e4,_⟩:=Qy hi hu i x hx'
   rw [e4]
   exact newsOk_mem k1.2 p hp e (List.mem_of_getElem? he) (e3 ▸ hw)
end
def JC (cl:String) (o:Obj):Option (List Value):=oO o fun cls _ dt _=>oTy cls fun t=>oT (decide (t=cl)) <| oSl dt fun l _=>some l
def inH:Hook:=vi (.builtin "tuple.__contains__") 0
 (fun args m hint=>oL2 args fun a b =>
  oRf a fun L =>
  yp b fun x _ =>
  oL2 hint fun j k =>
  oM m j (JC "tuple") fun e vs =>
  oS (Vs vs) fun l =>
  match k with
   |0=>some {eqs:=[(L,e.a)],musts:=[x∉l],V:=fun _ => .bool false}
   |_=>some {eqs:=[(L,e.a)],musts:=[x∈l],V:=fun _ => .bool true})
def ltH:Hook:=vi (.builtin "int.__lt__") 0
 (fun args _ hint=>oL2 args fun a b =>
  Jb a fun x _ =>
  Jb b fun y _ =>
  oL1 hint fun k =>
  match k with
   |0=>some {musts:=[¬ x < y],V:=fun _ => .bool false}
   |_=>some {musts:=[x < y],V:=fun _ => .bool true})
def lenH:Hook:=vi (.builtin "len") 0
 (fun args m hint=>oL1 args fun a =>
  oRf a fun L =>
  oL1 hint fun j =>
  oM m j (JC "list") fun e vs =>
  some {eqs:=[(L,e.a)],musts:=[vs.length≤100000],V := .int vs.length})
noncomputable def refA (v:Value):Addr:=match v with
 |.ref a=>a
 |_=>0
def getH:Hook:=vi (.builtin "list.__getitem__") 0
 (fun args m hint=>oL2 args fun a b =>
  oRf a fun L =>
  Jb b fun k _ =>
  oL1 hint fun j =>
  oM m j (JC "list") fun e vs =>
  some {eqs:=[(L,e.a)],musts:=[0≤k,k < (vs.length:Int),vs.length≤100000,(vs[k.toNat]?).getD .none = .ref (refA ((vs[k.toNat]?).getD .none))],V:=fun _ => .ref (refA ((vs[k.toNat]?).getD .none))})
def jh (x:Str):Prop:=32∉x.cps.toList
def strInH:Hook:=vi (.builtin "str.__contains__") 0
 (fun args _ hint=>oL2 args fun a b =>
  yp a fun y _ =>
  yp b fun x _ =>
  oL1 hint fun k =>
  match k with
   |0=>some {musts:=[(PySem.Builtin.Str.occurrences y x 0 y.length 1).isEmpty=true],V:=fun _ => .bool false}
   |_=>some {musts:=[(PySem.Builtin.Str.occurrences y x 0 y.length 1).isEmpty=false],V:=fun _ => .bool true})
noncomputable def splitHSp (s:PySem.Str) (t:PySem.Tok) (z:PySem.Str):vy:={us:=fun _=>{musts:=[jh s,z = " "],res:=fun o => .ok (.ret (.ref o.n)),news:=[((.type "list",0),fun o=>o.n,fun _=>⟨.type "list",none,.seq ⟨[.str s t]⟩ 0,#[]⟩)]}}
def Kc:Hook:=yB 0 0
 (fun c _ hint=>oCa (.builtin "str.split") c fun args =>
  oL2 args fun x y =>
  yp x fun s t =>
  yp y fun z _ =>
  oL0 hint <|
  some (splitHSp s t z))
noncomputable def tupOfHSp (L:PySem.Addr) (e:Mine.En) (l:List PySem.Value):vy:={us:=fun _=>{eqs:=[(L,e.a)],musts:=[l.length≤1000],res:=fun o => .ok (.ret (.ref o.n)),news:=[((.type "tuple",0),fun o=>o.n,fun _=>⟨.type "tuple",none,.seq ⟨l⟩ 0,#[]⟩)]}}
def JY:Hook:=yB 0 0
 (fun c m hint=>oCa (.builtin "tuple.__new__") c fun args =>
  oL2 args fun x y =>
  oTy x fun t =>
  oT (decide (t = "tuple")) <|
  oRf y fun L =>
  oL1 hint fun j =>
  oM m j (JC "list") fun e l =>
  some (tupOfHSp L e l))
section
variable {prog:Program} {w:World} {A:Around} {s:Shared} {R:Result→Shared→Prop}
theorem Jj {T:String} {name:Str} {id:String} {B:Builtin} {self:Value} {rest:List Value} (slot:Slot T name id) (hT:s.TypeIs self T) (entry:entryFor table id=some B) (args:argsOk id ⟨self::rest,[]⟩)
  (h:wpAny (model prog w) A.in1 (B ⟨self::rest,[]⟩) (fun fin s'=>∃ v,fin = .done (.ret v)∧R (.ok (.ret v)) s') (fun e s'=>R (.error e) s') s):codeAny (model prog w) A (.call (.builtin id) ⟨self::rest,[]⟩) R s:=by
 refine codeAny_call_builtin slot.plain entry (slot.check _ _ _ _ _ _ _ _ hT args (wpAny_mono h (fun fin s' h'=>?_) fun _ _ h'=>h'))
 obtain ⟨v,rfl,hv⟩:=h';exact hv
theorem YK {id:String} {B:Builtin} {args:List Value} (hk:builtinKind id=none) (hp:plainId id=true) (hb:entryFor table id=some B) (ha:argsOk id ⟨args,[]⟩)
  (h:wpAny (model prog w) A.in1 (B ⟨args,[]⟩) (fun fin s'=>∃ v,fin = .done (.ret v)∧R (.ok (.ret v)) s') (fun e s'=>R (.error e) s') s):codeAny (model prog w) A (.call (.builtin id) ⟨args,[]⟩) R s:=by
 refine codeAny_call_builtin hp hb ?_
 have hfin:=wpAny_mono h (Q':=fun fin s'=>match fin with
   |.done f=>R (.ok f) s'
   |.again c'=>c'.quiet=true∧codeAny (model prog w) A c' R s')
  (fun fin s' h'=>by obtain ⟨v,rfl,hv⟩:=h';exact hv) fun _ _ h'=>h'
 simp only [checkBuiltinCall,hk]
 cases hsig:Manifest.signature? id with
 |none=>exact wpAny_pure hfin
 |some sig =>
  simp only [argsOk,hsig] at ha
  have h2:Bind.checkArgs id sig ⟨args,[]⟩=pure ():=ha
  show wpAny _ A.in1 (Bind.checkArgs id sig ⟨args,[]⟩) _ _ s
  rw [h2];exact wpAny_pure hfin
end
theorem yC {cl:String} {o:Obj} {l:List Value} (h:JC cl o=some l):∃ d ep sl,o=⟨.type cl,d,.seq ⟨l⟩ ep,sl⟩ :=
 iO (P:=fun l=>∃ d ep sl,o=⟨.type cl,d,.seq ⟨l⟩ ep,sl⟩) (fun a b c d e=>iTy fun t e1=>iT fun q=>iSl fun l ep e2=>iE ⟨b,ep,d,by rw [e,e1,e2,of_decide_eq_true q]⟩) _ h
theorem strsAre_of:∀ {vs:List Value} {l:List Str},Vs vs=some l→StrsAre vs l
 |[],l,h=>by cases h;exact .nil
 |v::r,l,h=>by
  unfold Vs at h
  split at h
  ·rename_i s t
   split at h
   ·rename_i l' q
    cases h
    exact .cons _ _ (strsAre_of q)
   ·cases h
  ·cases h
section
variable {w:World} {lc:Nat} {hs:List Mine.Hook} {h₀:Heap} {ws:List Addr}
theorem inH_ok:inH.Ok (cfg w lc hs) PW w h₀ ws:=by
 refine jN fun args m hint=>?_
 refine iL2 fun _ _ b1=>iRf fun L b2=>yl fun x u b3=>iL2 fun j kk b4=>iM fun e vs qe qv=>iS fun l ql=>?_
 subst b1 b2 b3 b4
 intro sp hs h he hm _ hk _ A g d tk os R _ k
 have fin:∀ b:Bool,L=e.a→(l.any (· == x))=b→(∀ tk',R (.ok (.ret (.bool b))) ⟨h,g,d,tk',os⟩)→codeAny (model PW w) A (.call (.builtin "tuple.__contains__") ⟨[.ref L,.str x u],[]⟩) R ⟨h,g,d,tk,os⟩:=fun b hL hb kk=>by
  obtain ⟨dd,ep,sl,ho⟩:=yC qv
  have ht:IsTup h L ⟨vs⟩:=⟨e.o,hL ▸ hk e (List.mem_of_getElem? qe),by rw [ho],ep,by rw [ho]⟩
  refine Jj PyProof.Rows.slot_tuple_contains (T := "tuple") ⟨e.o,hL ▸ hk e (List.mem_of_getElem? qe),by rw [ho]⟩ PyProof.Rows.entry_tuple_contains (PyProof.Rows.args_tuple_contains _ _) ?_
  refine tuple_contains_strs (s:=⟨h,g,d,tk,os⟩) ht (strsAre_of ql) ⟨_,rfl,?_⟩
  rw [hb]
  exact kk tk
 split at hs
 ·cases hs
  have hn:x∉l:=hm _ (.head _)
  refine fin false (he (L,e.a) (.head _)) ?_ fun tk'=>k _ h tk' (Old.refl _ _) ⟨0,rfl⟩
  rw [List.any_eq_false]
  intro y hy q
  exact hn (by rw [←eq_of_beq q];exact hy)
 ·cases hs
  have hn:x∈l:=hm _ (.head _)
  refine fin true (he (L,e.a) (.head _)) ?_ fun tk'=>k _ h tk' (Old.refl _ _) ⟨0,rfl⟩
  rw [List.any_eq_true]
  exact ⟨x,hn,beq_self_eq_true x⟩
theorem ltH_ok:ltH.Ok (cfg w lc hs) PW w h₀ ws:=by
 refine jN fun args m hint=>?_
 refine iL2 fun _ _ b1=>Jg fun x t b2=>Jg fun y u b3=>iL1 fun kk b4=>?_
 subst b1 b2 b3 b4
 intro sp hs h he hm _ hk _ A g d tk os R _ k
 have fin:∀ b:Bool,(decide (x < y))=b→(∀ tk',R (.ok (.ret (.bool b))) ⟨h,g,d,tk',os⟩)→codeAny (model PW w) A (.call (.builtin "int.__lt__") ⟨[.int x t,.int y u],[]⟩) R ⟨h,g,d,tk,os⟩:=fun b hb kk=>by
  refine vb slot_int_lt (typeIs_int _ _ _) entry_int_lt (args_int_lt _ _) (AutoIntG1.int___lt___int_int_0 x t y u).meets ?_
  show R (.ok (.ret (.bool (decide (x < y))))) _
  rw [hb]
  exact kk tk
 split at hs
 ·cases hs
  have hn:¬ x < y:=hm _ (.head _)
  exact fin false (decide_eq_false hn) fun tk'=>k _ h tk' (Old.refl _ _) ⟨0,rfl⟩
 ·cases hs
  have hn:x < y:=hm _ (.head _)
  exact fin true (decide_eq_true hn) fun tk'=>k _ h tk' (Old.refl _ _) ⟨0,rfl⟩
theorem lenH_ok:lenH.Ok (cfg w lc hs) PW w h₀ ws:=by
 refine jN fun args m hint=>?_
 refine iL1 fun _ b1=>iRf fun L b2=>iL1 fun j b3=>iM fun e vs qe qv=>?_
 subst b1 b2 b3
 refine iE ?_
 intro h he hm _ hk _ A g d tk os R _ k
 have hL:L=e.a:=he (L,e.a) (.head _)
 have hlen:vs.length≤100000:=hm _ (.head _)
 clear he hm
 obtain ⟨dd,ep,sl,ho⟩:=yC qv
 have hl:Heap.IsList h L ⟨vs⟩:=⟨e.o,hL ▸ hk e (List.mem_of_getElem? qe),by rw [ho],ep,by rw [ho]⟩
 obtain ⟨o,ho',hc',n',hd'⟩:=id hl
 refine YK kind_len plain_len entry_len (args_len1 _) ?_
 have h63:((vs.length:Nat):Int) < 2 ^ 63:=by omega
 unfold Builtin.«len»
 refine wpAny_bind (m:=oneArg "len" _) (wpAny_pure ?_)
 refine wpAny_bind (m:=callSpecial? (.ref L) "__len__") (wpAny_callSpecial?_slot (name:=Str.ofString "__len__") (T := "list") (s:=⟨h,g,d,tk,os⟩) ⟨o,ho',hc'⟩ slot_list_len
  (wpAny_call_entry (s:=⟨h,g,d,tk,os⟩) slot_list_len ⟨o,ho',hc'⟩ entry_list_len ?_ (args_list_len _)))
 ·show wpAny _ _ (do retInt (←seqSize L)) _ _ _
  unfold seqSize
  refine wpAny_bind (wpAny_bind (wpAny_load (s:=⟨h,g,d,tk,os⟩) ho' ?_))
  rw [hd']
  refine wpAny_pure (wpAny_bind (wpAny_mkInt (wpAny_pure ⟨_,rfl,?_⟩)))
  refine wpAny_bind (wpAny_holding (wpAny_pure ?_))
  refine wpAny_bind (wpAny_letGo ?_)
  show wpAny _ _ (if ((vs.length:Nat):Int) < 0 then _ else _) _ _ _
  rw [if_neg (by omega)]
  show wpAny _ _ (if ((vs.length:Nat):Int) ≥ 2 ^ 63 then _ else _) _ _ _
  rw [if_neg (by omega)]
  exact wpAny_bind (wpAny_mkInt (wpAny_pure ⟨_,rfl,k _ h _ (Old.refl _ _) ⟨_,rfl⟩⟩))
theorem getH_ok:getH.Ok (cfg w lc hs) PW w h₀ ws:=by
 refine jN fun args m hint=>?_
 refine iL2 fun _ _ b1=>iRf fun L b2=>Jg fun k u b3=>iL1 fun j b4=>iM fun e vs qe qv=>?_
 subst b1 b2 b3 b4
 refine iE ?_
 intro h he hm _ hk _ A g d tk os R _ kc
 have hL:L=e.a:=he (L,e.a) (.head _)
 have h0:0≤k:=hm _ (.head _)
 have h1:k < (vs.length:Int):=vV hm 1
 have h2:vs.length≤100000:=vV hm 2
 have h3:(vs[k.toNat]?).getD .none = .ref (refA ((vs[k.toNat]?).getD .none)):=vV hm 3
 clear he hm
 obtain ⟨dd,ep,sl,ho⟩:=yC qv
 have hl:Heap.IsList h L ⟨vs⟩:=⟨e.o,hL ▸ hk e (List.mem_of_getElem? qe),by rw [ho],ep,by rw [ho]⟩
 obtain ⟨o,ho',hc',n',hd'⟩:=id hl
 refine Jj slot_list_getitem (T := "list") (s:=⟨h,g,d,tk,os⟩) ⟨o,ho',hc'⟩ entry_list_getitem (args_list_getitem _ _) ?_
 show wpAny _ _ (Builtin.List.listSubscript? (.int k u) >>= _) _ _ _
 refine wpAny_bind (wpAny_listSubscript_int (fitsIndex_of h0 (by omega)) ?_)
 obtain ⟨i,rfl⟩:=Int.eq_ofNat_of_zero_le h0
 have hi:i < vs.length:=by omega
 have hx':(⟨vs⟩:Array Value)[i]?=some vs[i]:=by rw [List.getElem?_toArray];exact List.getElem?_eq_getElem hi
 have fin:R (.ok (.ret vs[i])) ⟨h,g,d,tk,os⟩:=kc _ h tk (Old.refl _ _) ⟨0,by
  show _=Except.ok (Flow.ret (.ref (refA ((vs[(i:Int).toNat]?).getD .none))))
  rw [←h3,show (i:Int).toNat=i from rfl,List.getElem?_eq_getElem hi];rfl⟩
 show wpAny _ _ ((seqItemAt L i >>= fun r=>pure (r.map (i,·))) >>= _) _ _ _
 refine wpAny_bind (wpAny_bind (wpAny_seqItemAt (s:=⟨h,g,d,tk,os⟩) ho' hd' (wpAny_pure ?_)))
 rw [hx']
 first
  |exact wpAny_bind (wpAny_pure (wpAny_pure ⟨_,rfl,fin⟩))
  |exact wpAny_pure ⟨_,rfl,fin⟩
theorem strInH_ok:strInH.Ok (cfg w lc hs) PW w h₀ ws:=by
 refine jN fun args m hint=>?_
 refine iL2 fun _ _ b1=>yl fun y t b2=>yl fun x u b3=>iL1 fun kk b4=>?_
 subst b1 b2 b3 b4
 intro sp hs h he hm _ hk _ A g d tk os R _ k
 have fin:∀ b:Bool,(PySem.Builtin.Str.occurrences y x 0 y.length 1).isEmpty=!b→(∀ tk',R (.ok (.ret (.bool b))) ⟨h,g,d,tk',os⟩)→codeAny (model PW w) A (.call (.builtin "str.__contains__") ⟨[.str y t,.str x u],[]⟩) R ⟨h,g,d,tk,os⟩:=fun b hb kk=>by
  refine vb PyProof.Rows.slot_str_contains (typeIs_str _ _ _) PyProof.Rows.entry_str_contains (PyProof.Rows.args_str_contains _ _) (gives_str_contains y x t u).meets ?_
  show R (.ok (.ret (.bool _))) _
  rw [hb,Bool.not_not]
  exact kk tk
 split at hs
 ·cases hs
  exact fin false (hm _ (.head _)) fun tk'=>k _ h tk' (Old.refl _ _) ⟨0,rfl⟩
 ·cases hs
  exact fin true (hm _ (.head _)) fun tk'=>k _ h tk' (Old.refl _ _) ⟨0,rfl⟩
end
open PySem.Builtin.Str
theorem nobl_occ {x:Str} (h:jh x) (lim:Nat):occurrences x " " 0 x.length lim=[]:=by
 refine PySem.W.occ_nil_of_no x " " lim fun i hi=>?_
 cases q:subAt x " " i with
 |false=>rfl
 |true =>
  have f:=(PySem.StrLaws.found_iff x " ").mpr ⟨i,hi,q⟩
  have e:(" " : Str)=⟨#[32]⟩:=by decide +kernel
  rw [e,PySem.StrLaws.found_one,decide_eq_true_eq] at f
  exact absurd f h
section
variable {w:World} {lc:Nat} {hs:List Mine.Hook} {h₀:Heap} {ws:List Addr}
theorem Qx:Kc.Ok (cfg w lc hs) PW w h₀ ws:=by
 refine vn fun c m hint=>?_
 refine iCa fun _ b1=>iL2 fun xx yy b2=>yl fun s t b3=>yl fun z u b4=>iL0 fun b5=>?_
 subst b1 b2 b3 b4 b5
 refine iE ?_
 intro h hm hi hst hk hdq hoff hold A g d tk os R _ k
 have z0:=hm 0 (Nat.le_refl _)
 have h1:jh s:=z0.2 _ (.head _)
 have h2:z = " ":=vV z0.2 1
 clear z0 hm hi
 subst h2
 have fin:listOfItself s t A R ⟨h,g,d,tk,os⟩:=by
  refine k _ (h.push ⟨.type "list",none,.seq ⟨[.str s t]⟩ 0,#[]⟩) tk ⟨trivial,fun b o e _=>Heap.get?_push_of_some _ e⟩ ?_
  refine ⟨0,{(default:Ora) with n:=h.objs.size},Nat.le_refl _,rfl,trivial,trivial,fun p hp=>?_,fun _ hp=>(nomatch hp)⟩
  cases hp with
  |head=>exact ⟨Heap.get?_push_size _ rfl,rfl⟩
  |tail _ hp=>cases hp
 have mt:Meets (Builtin.«str.split» ⟨[.str s t,.str " " u],[]⟩) (listOfItself s t):=by
  cases q:(decide (s.length < (" " : Str).length) || decide (strKind s < strKind (" " : Str))) with
  |true=>exact meets_str_split_cannot_occur s " " t u q
  |false=>exact meets_str_split_not_found s " " t u q (by decide +kernel) (by rw [nobl_occ h1];rfl)
 exact vb F.slot_str_split (typeIs_str _ _ _) F.entry_str_split (F.args_str_split_2 _ _) mt fin
end
section
variable {w:World} {lc:Nat} {hs:List Mine.Hook} {h₀:Heap} {ws:List Addr}
theorem yx:JY.Ok (cfg w lc hs) PW w h₀ ws:=by
 refine vn fun c m hint=>?_
 refine iCa fun _ b1=>iL2 fun xx yy b2=>iTy fun t b3=>iT fun qt=>iRf fun L b4=>iL1 fun j b5=>iM fun e l qe ql=>?_
 subst b1 b2 b3 b4 b5
 refine iE ?_
 intro h hm hi hst hk hdq hoff hold A g d tk os R _ k
 have z0:=hm 0 (Nat.le_refl _)
 have hL:L=e.a:=z0.1 (L,e.a) (.head _)
 have hlen:l.length≤1000:=z0.2 _ (.head _)
 clear z0 hm hi
 cases of_decide_eq_true qt
 obtain ⟨dd,ep,sl,ho⟩:=yC ql
 have hz:1000≤sizeLine:=by decide
 have mt:=meets_tuple_new_list L e.o ⟨l⟩ ep (by rw [ho]) (by rw [ho]) (by show l.length≤sizeLine;omega)
 have key:wpAny (model PW w) A.in1 (Builtin.«tuple.__new__» ⟨[.type "tuple",.ref L],[]⟩) (fun fin s'=>match fin with
   |.done f=>R (.ok f) s'
   |.again c'=>c'.quiet=true∧codeAny (model PW w) A c' R s') (fun e s'=>R (.error e) s') ⟨h,g,d,tk,os⟩:=by
  refine mt PW w A R ⟨h,g,d,tk,os⟩ ⟨hL ▸ hk e (List.mem_of_getElem? qe),fun h' keep=>?_⟩
  refine k _ (h'.push ⟨.type "tuple",none,.seq ⟨l⟩ 0,#[]⟩) tk ⟨trivial,fun b o q _=>Heap.get?_push_of_some _ (keep b o q)⟩ ?_
  refine ⟨0,{(default:Ora) with n:=h'.objs.size},Nat.le_refl _,rfl,trivial,trivial,fun p hp=>?_,fun _ hp=>(nomatch hp)⟩
  cases hp with
  |head=>exact ⟨Heap.get?_push_size _ rfl,rfl⟩
  |tail _ hp=>cases hp
 refine codeAny_call_builtin (by decide +kernel) F.entry_tuple_new ?_
 rw [F.newCall_tuple_1]
 exact wpAny_pure key
end
def tr_ot0 (b1 b2 b3:Bool):Tr:=T [1,1,0,0,1,0,0,0,1,1,1,1,0,1,0,0,0,0,0,0,0,0,1,1,0,0,1,1,1,1,0,1,0,0,0,0,0,0,0,0,2,0,0,0,0,0,0,0] (T [0,1,1,0,1,1,1,1,1,0,0,1,1,1,1,2,1,2,0,2,1,2,1,0,1,1,4,4,4,0,0,0,0,0,0,0,1,0,0,0,1,0,1,5,0,0,0,0] (T [0,0,5] .nil))
def tr_ot1 (b1 b2 b3:Bool):Tr:=(match b2 with | true=>T [1,1,0,0,1,0,0,0,1,1,1,1,0,1,0,0,0,0,0,0,0,1,0,0,0,0,0,0,0,1,0,0,0,0,0,0,0,1,0,0,0,0,0,0,0,0,1,0] (T [0,0,0,0,0,0,0,1,1,0,0,1,0,1,0,0,3,0,3,3,3,3,3,1,1,0,0,1,0,0,2,2,2,2,0,3,0,3,3,3,3,3,1,3,3,3,0,4] (T [4,0,0,1,1,0,1,0,0,0,0] .nil)) | false=>T [1,1,0,0,1,0,0,0,1,1,1,1,0,1,0,0,0,0,0,0,0,1,0,0,0,0,0,0,0,1,0,0,0,0,0,0,0,1,0,0,0,0,0,0,0,0,1,0] (T [0,0,0,0,0,0,0,1,1,0,0,1,0,1,0,3,3,0,3,3,0,3,0,3,3,3,3,3,1,1,0,0,1,0,0,2,2,2,2,0,3,0,3,3,3,3,3,1] (T [3,3,3,0,4,4,0,0,1,1,0,1,0,0,0,0] .nil)))
def tr_ot2 (b1 b2 b3:Bool):Tr:=T [1,1,0,0,1,0,0,0,1,1,1,1,0,1,0,0,0,0,0,0,0,1,0,0,0,0,0,0,0,1,0,0,0,0,0,0,0,0,1,0,0,0,0,0,0,0,0,0,0,0,0,0,0,0,0,0] .nil
def tr_ot3 (b1 b2 b3:Bool):Tr:=T [1,1,0,0,1,0,0,0,1,1,1,1,0,1,0,0,0,0,0,0,0,0,1,1,0,0,1,1,1,1,0,1,0,0,0,0,0,0,0,0,2,0,0,0,0,0,0,0] (T [0,1,1,0,1,1,1,1,1,0,0,1,1,1,1,2,1,2,0,2,1,2,1,0,1,1,4,4,4,0,0,0,0,0,0,0,1,0,0,0,1,0,1,5,0,0,0,0] (T [0,0,5] .nil))
def tr_rt0 (b1 b2 b3:Bool):Tr:=T [1,1,0,0,1,0,0,0,1,1,1,1,0,1,0,0,0,0,0,0,0,0,2,0,0,0,0,0,0,0,0,1,1,0,1,1,1,1,1,0,0,1,1,1,1,2,1,2] (T [0,2,1,2,1,0,1,1,4,4,4,0,0,0,0,0,0,0,1,0,0,0,1,0,1,5,0,0,0,0,0,0,5] .nil)
def tr_rt3 (b1 b2 b3:Bool):Tr:=T [1,1,0,0,1,0,0,0,1,1,1,1,0,1,0,0,0,0,0,0,0,0,2,0,0,0,0,0,0,0,0,1,1,0,1,1,1,1,1,0,0,1,1,1,1,2,1,2] (T [0,2,1,2,1,0,1,1,4,4,4,0,0,0,0,0,0,0,1,0,0,0,1,0,1,5,0,0,0,0,0,0,5] .nil)
theorem ok357 (w:World):vH (ktP w) 357=true:=by kernel_rfl
theorem ok364 (w:World):vH (ktP w) 364=true:=by kernel_rfl
section
variable (w:World) (b1 b2 b3:Bool) {h:Heap}
theorem opText (hs:St (jb w b1 b2 b3) h) {v:Value} (hv:vG v):jr (jb w b1 b2 b3) 2 (.call (.ref 357) ⟨[v],[]⟩) h [] (qG (opT v)):=by
 rcases hv with rfl | rfl | rfl | rfl
 ·refine je (hooks:=[]) VE (fuel:=10000) (tr:=fun b1=>tr_ot0 b1 b2 b3) (ok357 _) (jl.none hs) fun n tk o bs _=>?_
  refine VF (v := .str "A" 0) (by kernel_rfl) (by kernel_rfl) fun x m n tk hx h' _=>js hx
 ·refine je (hooks:=[]) VE (fuel:=10000) (tr:=fun b1=>tr_ot1 b1 b2 b3) (ok357 _) (jl.none hs) fun n tk o bs _=>?_
  refine VF (v := .str "\"x\"" 0) (by cases b2 <;> kernel_rfl) (by cases b2 <;> kernel_rfl) fun x m n tk hx h' _=>js hx
 ·refine je (hooks:=[]) VE (fuel:=10000) (tr:=fun b1=>tr_ot2 b1 b2 b3) (ok357 _) (jl.none hs) fun n tk o bs _=>?_
  refine VF (v := .str "SPACE" 0) (by kernel_rfl) (by kernel_rfl) fun x m n tk hx h' _=>js hx
 ·refine je (hooks:=[]) VE (fuel:=10000) (tr:=fun b1=>tr_ot3 b1 b2 b3) (ok357 _) (jl.none hs) fun n tk o bs _=>?_
  refine VF (v := .str "B OF G" 0) (by kernel_rfl) (by kernel_rfl) fun x m n tk hx h' _=>js hx
end
def yP:Hook:=vi (.ref 357) 2 (fun args _ _=>oL1 args fun v=>some {musts:=[vG v],V := .str (opT v)})
def Jq:Hook:=vi (.ref 364) 2 (fun args _ _=>oL1 args fun v=>some {musts:=[vc v],V := .str (opT v)})
section
variable {w:World} {b1 b2 b3:Bool} {lv:Nat} {hs:List Hook} {h₀:Heap} {ws:List Addr} {h:Heap}
theorem vQ:yP.Ok (cfg (jb w b1 b2 b3) lv hs) PW (jb w b1 b2 b3) h₀ ws:=by
 refine jN fun args m hint=>iL1 fun v b=>iE fun h he hm hst hk _=>?_
 subst b
 exact opText w b1 b2 b3 hst (hm _ (.head _))
theorem refText (hs:St (jb w b1 b2 b3) h) {v:Value} (hv:vc v):jr (jb w b1 b2 b3) 2 (.call (.ref 364) ⟨[v],[]⟩) h [] (qG (opT v)):=by
 rcases hv with rfl | rfl
 ·refine je (hooks:=[]) VE (fuel:=10000) (tr:=fun b1=>tr_rt0 b1 b2 b3) (ok364 _) (jl.none hs) fun n tk o bs _=>?_
  refine VF (v := .str "A" 0) (by kernel_rfl) (by kernel_rfl) fun x m n tk hx h' _=>js hx
 ·refine je (hooks:=[]) VE (fuel:=10000) (tr:=fun b1=>tr_rt3 b1 b2 b3) (ok364 _) (jl.none hs) fun n tk o bs _=>?_
  refine VF (v := .str "B OF G" 0) (by kernel_rfl) (by kernel_rfl) fun x m n tk hx h' _=>js hx
theorem yD:Jq.Ok (cfg (jb w b1 b2 b3) lv hs) PW (jb w b1 b2 b3) h₀ ws:=by
 refine jN fun args m hint=>iL1 fun v b=>iE fun h he hm hst hk _=>?_
 subst b
 exact refText hst (hm _ (.head _))
end
def tr_j1 (b1 b2 b3:Bool):Tr:=(match b2 with | true=>T [1,1,0,1,2,2,0,2,1,0,0,3,0,3,3,3,5,3,3,1,1,1,1,1,1,1,0,2,2,2,2,0,3,0,3,3,3,5,3,3,1,3,3,3,2,1,3] .nil | false=>T [1,1,0,1,2,2,0,2,1,0,3,3,0,3,3,0,3,0,3,3,3,5,3,3,1,1,1,1,1,1,1,0,2,2,2,2,0,3,0,3,3,3,5,3,3,1,3,3,3,2,1,3] .nil)
def tr_j11 (b1 b2 b3:Bool):Tr:=(match b2 with | true=>T [1,1,0,1,2,2,0,2,1,0,0,3,0,3,3,3,5,3,3,1,1,1,1,1,1,1,0,2,2,2,2,0,3,0,3,3,3,5,3,3,1,1,1,1,1,1,1,0] (T [2,2,2,2,0,3,0,3,3,3,5,3,3,1,3,3,3,2,1,3] .nil) | false=>T [1,1,0,1,2,2,0,2,1,0,3,3,0,3,3,0,3,0,3,3,3,5,3,3,1,1,1,1,1,1,1,0,2,2,2,2,0,3,0,3,3,3,5,3,3,1,1,1] (T [1,1,1,1,0,2,2,2,2,0,3,0,3,3,3,5,3,3,1,3,3,3,2,1,3] .nil))
def tr_j10 (b1 b2 b3:Bool):Tr:=(match b2 with | true=>T [1,1,0,1,2,2,0,2,1,0,0,3,0,3,3,3,5,3,3,1,1,1,1,1,1,1,0,2,2,2,2,0,3,0,3,3,3,5,3,3,1,1,1,1,1,0,0,3] (T [0,3,3,3,5,3,3,1,3,3,3,2,1,3] .nil) | false=>T [1,1,0,1,2,2,0,2,1,0,3,3,0,3,3,0,3,0,3,3,3,5,3,3,1,1,1,1,1,1,1,0,2,2,2,2,0,3,0,3,3,3,5,3,3,1,1,1] (T [1,1,0,0,3,0,3,3,3,5,3,3,1,3,3,3,2,1,3] .nil))
def tr_j01 (b1 b2 b3:Bool):Tr:=(match b2 with | true=>T [1,1,0,1,2,2,0,2,1,0,0,3,0,3,3,3,5,3,3,1,1,1,1,1,0,0,3,0,3,3,3,5,3,3,1,1,1,1,1,1,1,0,2,2,2,2,0,3] (T [0,3,3,3,5,3,3,1,3,3,3,2,1,3] .nil) | false=>T [1,1,0,1,2,2,0,2,1,0,3,3,0,3,3,0,3,0,3,3,3,5,3,3,1,1,1,1,1,0,0,3,0,3,3,3,5,3,3,1,1,1,1,1,1,1,0,2] (T [2,2,2,0,3,0,3,3,3,5,3,3,1,3,3,3,2,1,3] .nil))
def tr_j00 (b1 b2 b3:Bool):Tr:=(match b2 with | true=>T [1,1,0,1,2,2,0,2,1,0,0,3,0,3,3,3,5,3,3,1,1,1,1,1,0,0,3,0,3,3,3,5,3,3,1,1,1,1,1,0,0,3,0,3,3,3,5,3,3,1,3,3,3,2,1,3] .nil | false=>T [1,1,0,1,2,2,0,2,1,0,3,3,0,3,3,0,3,0,3,3,3,5,3,3,1,1,1,1,1,0,0,3,0,3,3,3,5,3,3,1,1,1,1,1,0,0,3,0] (T [3,3,3,5,3,3,1,3,3,3,2,1,3] .nil))
def tr_j111 (b1 b2 b3:Bool):Tr:=(match b2 with | true=>T [1,1,0,1,2,2,0,2,1,0,0,3,0,3,3,3,5,3,3,1,1,1,1,1,1,1,0,2,2,2,2,0,3,0,3,3,3,5,3,3,1,1,1,1,1,1,1,0] (T [2,2,2,2,0,3,0,3,3,3,5,3,3,1,1,1,1,1,1,1,0,2,2,2,2,0,3,0,3,3,3,5,3,3,1,3,3,3,2,1,3] .nil) | false=>T [1,1,0,1,2,2,0,2,1,0,3,3,0,3,3,0,3,0,3,3,3,5,3,3,1,1,1,1,1,1,1,0,2,2,2,2,0,3,0,3,3,3,5,3,3,1,1,1] (T [1,1,1,1,0,2,2,2,2,0,3,0,3,3,3,5,3,3,1,1,1,1,1,1,1,0,2,2,2,2,0,3,0,3,3,3,5,3,3,1,3,3,3,2,1,3] .nil))
def tr_j1111 (b1 b2 b3:Bool):Tr:=(match b2 with | true=>T [1,1,0,1,2,2,0,2,1,0,0,3,0,3,3,3,5,3,3,1,1,1,1,1,1,1,0,2,2,2,2,0,3,0,3,3,3,5,3,3,1,1,1,1,1,1,1,0] (T [2,2,2,2,0,3,0,3,3,3,5,3,3,1,1,1,1,1,1,1,0,2,2,2,2,0,3,0,3,3,3,5,3,3,1,1,1,1,1,1,1,0,2,2,2,2,0,3] (T [0,3,3,3,5,3,3,1,3,3,3,2,1,3] .nil)) | false=>T [1,1,0,1,2,2,0,2,1,0,3,3,0,3,3,0,3,0,3,3,3,5,3,3,1,1,1,1,1,1,1,0,2,2,2,2,0,3,0,3,3,3,5,3,3,1,1,1] (T [1,1,1,1,0,2,2,2,2,0,3,0,3,3,3,5,3,3,1,1,1,1,1,1,1,0,2,2,2,2,0,3,0,3,3,3,5,3,3,1,1,1,1,1,1,1,0,2] (T [2,2,2,0,3,0,3,3,3,5,3,3,1,3,3,3,2,1,3] .nil)))
def tr_j1110 (b1 b2 b3:Bool):Tr:=(match b2 with | true=>T [1,1,0,1,2,2,0,2,1,0,0,3,0,3,3,3,5,3,3,1,1,1,1,1,1,1,0,2,2,2,2,0,3,0,3,3,3,5,3,3,1,1,1,1,1,1,1,0] (T [2,2,2,2,0,3,0,3,3,3,5,3,3,1,1,1,1,1,1,1,0,2,2,2,2,0,3,0,3,3,3,5,3,3,1,1,1,1,1,0,0,3,0,3,3,3,5,3] (T [3,1,3,3,3,2,1,3] .nil)) | false=>T [1,1,0,1,2,2,0,2,1,0,3,3,0,3,3,0,3,0,3,3,3,5,3,3,1,1,1,1,1,1,1,0,2,2,2,2,0,3,0,3,3,3,5,3,3,1,1,1] (T [1,1,1,1,0,2,2,2,2,0,3,0,3,3,3,5,3,3,1,1,1,1,1,1,1,0,2,2,2,2,0,3,0,3,3,3,5,3,3,1,1,1,1,1,0,0,3,0] (T [3,3,3,5,3,3,1,3,3,3,2,1,3] .nil)))
theorem Ks (w:World):vH (ktP w) 369=true:=by kernel_rfl
theorem Qm {w:World} {lv:Nat} {h₀:Heap} {ws:List Addr}:∀ H∈[neH,Vm],H.Ok (cfg w lv [neH,Vm]) PW w h₀ ws:=by
 intro H hH
 simp only [List.mem_cons,List.not_mem_nil,or_false] at hH
 rcases hH with rfl | rfl
 ·exact Jk
 ·exact joinH_ok
section
variable (w:World) (b1 b2 b3:Bool) {d:Option Addr} {ep:Nat} {sl:Array (Option Value)} {L:Addr} {h:Heap} {a b c e:Str} {ta tb tc te:Nat}
theorem j1 (hs:St (jb w b1 b2 b3) h) (ho:h.get? L=some (VU d [.str a ta] ep sl)) (ha:a ≠ "") (hj:jc " " [a]) :
  jr (jb w b1 b2 b3) 1 (.call (.ref 369) ⟨[.ref L],[]⟩) h [] (qG (Txt.join " " [a])):=by
 refine je (hooks:=[neH,Vm]) Qm (fuel:=10000) (tr:=fun b1=>tr_j1 b1 b2 b3) (Ks _) (jl.ro hs (l:=[(L,_)]) ⟨ho,trivial⟩) fun n tk o bs _=>?_
 exact qX (v := .str (Txt.join " " [a]) 0) (ps:=[(true,a ≠ ""),(true,jc " " [a])]) (by cases b2 <;> kernel_rfl) (by cases b2 <;> kernel_rfl) (fun _ c=>⟨ha,hj,c fun x m n tk hx h' _=>js hx⟩)
theorem j11 (hs:St (jb w b1 b2 b3) h) (ho:h.get? L=some (VU d [.str a ta,.str b tb] ep sl)) (ha:a ≠ "") (hb:b ≠ "") (hj:jc " " [a,b]) :
  jr (jb w b1 b2 b3) 1 (.call (.ref 369) ⟨[.ref L],[]⟩) h [] (qG (Txt.join " " [a,b])):=by
 refine je (hooks:=[neH,Vm]) Qm (fuel:=10000) (tr:=fun b1=>tr_j11 b1 b2 b3) (Ks _) (jl.ro hs (l:=[(L,_)]) ⟨ho,trivial⟩) fun n tk o bs _=>?_
 exact qX (v := .str (Txt.join " " [a,b]) 0) (ps:=[(true,a ≠ ""),(true,b ≠ ""),(true,jc " " [a,b])]) (by cases b2 <;> kernel_rfl) (by cases b2 <;> kernel_rfl) (fun _ c=>⟨ha,hb,hj,c fun x m n tk hx h' _=>js hx⟩)
theorem j10 (hs:St (jb w b1 b2 b3) h) (ho:h.get? L=some (VU d [.str a ta,.str b tb] ep sl)) (ha:a ≠ "") (hb:b = "") (hj:jc " " [a]) :
  jr (jb w b1 b2 b3) 1 (.call (.ref 369) ⟨[.ref L],[]⟩) h [] (qG (Txt.join " " [a])):=by
 refine je (hooks:=[neH,Vm]) Qm (fuel:=10000) (tr:=fun b1=>tr_j10 b1 b2 b3) (Ks _) (jl.ro hs (l:=[(L,_)]) ⟨ho,trivial⟩) fun n tk o bs _=>?_
 exact qX (v := .str (Txt.join " " [a]) 0) (ps:=[(true,a ≠ ""),(true,b = ""),(true,jc " " [a])]) (by cases b2 <;> kernel_rfl) (by cases b2 <;> kernel_rfl) (fun _ c=>⟨ha,hb,hj,c fun x m n tk hx h' _=>js hx⟩)
theorem j01 (hs:St (jb w b1 b2 b3) h) (ho:h.get? L=some (VU d [.str a ta,.str b tb] ep sl)) (ha:a = "") (hb:b ≠ "") (hj:jc " " [b]) :
  jr (jb w b1 b2 b3) 1 (.call (.ref 369) ⟨[.ref L],[]⟩) h [] (qG (Txt.join " " [b])):=by
 refine je (hooks:=[neH,Vm]) Qm (fuel:=10000) (tr:=fun b1=>tr_j01 b1 b2 b3) (Ks _) (jl.ro hs (l:=[(L,_)]) ⟨ho,trivial⟩) fun n tk o bs _=>?_
 exact qX (v := .str (Txt.join " " [b]) 0) (ps:=[(true,a = ""),(true,b ≠ ""),(true,jc " " [b])]) (by cases b2 <;> kernel_rfl) (by cases b2 <;> kernel_rfl) (fun _ c=>⟨ha,hb,hj,c fun x m n tk hx h' _=>js hx⟩)
theorem j00 (hs:St (jb w b1 b2 b3) h) (ho:h.get? L=some (VU d [.str a ta,.str b tb] ep sl)) (ha:a = "") (hb:b = "") (hj:jc " " []) :
  jr (jb w b1 b2 b3) 1 (.call (.ref 369) ⟨[.ref L],[]⟩) h [] (qG (Txt.join " " [])):=by
 refine je (hooks:=[neH,Vm]) Qm (fuel:=10000) (tr:=fun b1=>tr_j00 b1 b2 b3) (Ks _) (jl.ro hs (l:=[(L,_)]) ⟨ho,trivial⟩) fun n tk o bs _=>?_
 exact qX (v := .str (Txt.join " " []) 0) (ps:=[(true,a = ""),(true,b = ""),(true,jc " " [])]) (by cases b2 <;> kernel_rfl) (by cases b2 <;> kernel_rfl) (fun _ c=>⟨ha,hb,hj,c fun x m n tk hx h' _=>js hx⟩)
theorem j111 (hs:St (jb w b1 b2 b3) h) (ho:h.get? L=some (VU d [.str a ta,.str b tb,.str c tc] ep sl)) (ha:a ≠ "") (hb:b ≠ "") (hc:c ≠ "") (hj:jc " " [a,b,c]) :
  jr (jb w b1 b2 b3) 1 (.call (.ref 369) ⟨[.ref L],[]⟩) h [] (qG (Txt.join " " [a,b,c])):=by
 refine je (hooks:=[neH,Vm]) Qm (fuel:=10000) (tr:=fun b1=>tr_j111 b1 b2 b3) (Ks _) (jl.ro hs (l:=[(L,_)]) ⟨ho,trivial⟩) fun n tk o bs _=>?_
 exact qX (v := .str (Txt.join " " [a,b,c]) 0) (ps:=[(true,a ≠ ""),(true,b ≠ ""),(true,c ≠ ""),(true,jc " " [a,b,c])]) (by cases b2 <;> kernel_rfl) (by cases b2 <;> kernel_rfl) (fun _ c=>⟨ha,hb,hc,hj,c fun x m n tk hx h' _=>js hx⟩)
theorem j1111 (hs:St (jb w b1 b2 b3) h) (ho:h.get? L=some (VU d [.str a ta,.str b tb,.str c tc,.str e te] ep sl)) (ha:a ≠ "") (hb:b ≠ "") (hc:c ≠ "") (he:e ≠ "") (hj:jc " " [a,b,c,e]) :
  jr (jb w b1 b2 b3) 1 (.call (.ref 369) ⟨[.ref L],[]⟩) h [] (qG (Txt.join " " [a,b,c,e])):=by
 refine je (hooks:=[neH,Vm]) Qm (fuel:=10000) (tr:=fun b1=>tr_j1111 b1 b2 b3) (Ks _) (jl.ro hs (l:=[(L,_)]) ⟨ho,trivial⟩) fun n tk o bs _=>?_
 exact qX (v := .str (Txt.join " " [a,b,c,e]) 0) (ps:=[(true,a ≠ ""),(true,b ≠ ""),(true,c ≠ ""),(true,e ≠ ""),(true,jc " " [a,b,c,e])]) (by cases b2 <;> kernel_rfl) (by cases b2 <;> kernel_rfl) (fun _ c=>⟨ha,hb,hc,he,hj,c fun x m n tk hx h' _=>js hx⟩)
theorem j1110 (hs:St (jb w b1 b2 b3) h) (ho:h.get? L=some (VU d [.str a ta,.str b tb,.str c tc,.str e te] ep sl)) (ha:a ≠ "") (hb:b ≠ "") (hc:c ≠ "") (he:e = "") (hj:jc " " [a,b,c]) :
  jr (jb w b1 b2 b3) 1 (.call (.ref 369) ⟨[.ref L],[]⟩) h [] (qG (Txt.join " " [a,b,c])):=by
 refine je (hooks:=[neH,Vm]) Qm (fuel:=10000) (tr:=fun b1=>tr_j1110 b1 b2 b3) (Ks _) (jl.ro hs (l:=[(L,_)]) ⟨ho,trivial⟩) fun n tk o bs _=>?_
 exact qX (v := .str (Txt.join " " [a,b,c]) 0) (ps:=[(true,a ≠ ""),(true,b ≠ ""),(true,c ≠ ""),(true,e = ""),(true,jc " " [a,b,c])]) (by cases b2 <;> kernel_rfl) (by cases b2 <;> kernel_rfl) (fun _ c=>⟨ha,hb,hc,he,hj,c fun x m n tk hx h' _=>js hx⟩)
end
noncomputable def YP:List Nat→List Str→List Prop
 |k::bits,s::l=>match k with
  |0=>(s = "")::YP bits l
  |1=>(s ≠ "")::YP bits l
  |_=>YP bits l
 |_,_=>[]
noncomputable def okBits (l:List Nat):Bool:=decide (l=[1]) || decide (l=[1,1]) || decide (l=[1,0]) || decide (l=[0,1]) || decide (l=[0,0]) || decide (l=[1,1,1]) || decide (l=[1,1,1,1]) || decide (l=[1,1,1,2])
def listOf? (o:Obj):Option (List Value):=oO o fun cls _ dt _=>oTy cls fun t=>oT (decide (t = "list")) <| oSl dt fun l _=>some l
theorem listOf_eq {o:Obj} {l:List Value} (h:listOf? o=some l):∃ d ep sl,o=VU d l ep sl :=
 iO (P:=fun l=>∃ d ep sl,o=VU d l ep sl) (fun a b c d e=>iTy fun t e1=>iT fun q=>iSl fun l ep e2=>iE ⟨b,ep,d,by rw [e,e1,e2,of_decide_eq_true q]⟩) _ h
def joinedSp (args:List Value) (m:List En) (hint:List Nat):Option Sp:=oL1 args fun v =>
 oRf v fun L =>
 oC1 hint fun j bits =>
 oT (okBits bits) <|
 oM m j (listOf?) fun e xs =>
 oS (Vs xs) fun l =>
 oT (decide (l.length=bits.length)) <|
 some {eqs:=[(L,e.a)],musts:=jc " " (vh bits l)::YP bits l,V := .str (Txt.join " " (vh bits l))}
def yF:Hook:=vi (.ref 369) 1 joinedSp
theorem lpC {p:List (Str×Tok)} {n:Nat} {G:Prop} (h:p.length=n+1) (k:∀ a t r,p=(a,t)::r→r.length=n→G):G:=by
 cases p with
 |nil=>cases h
 |cons x r=>exact k x.1 x.2 r rfl (Nat.succ.inj h)
theorem lp1 {p:List (Str×Tok)} {G:Prop} (h:p.length=1) (k:∀ a t,p=[(a,t)]→G):G:=lpC h fun a t r e h=>k a t (by rw [e,List.eq_nil_of_length_eq_zero h])
theorem lp2 {p:List (Str×Tok)} {G:Prop} (h:p.length=2) (k:∀ a t b u,p=[(a,t),(b,u)]→G):G:=lpC h fun a t r e h=>lp1 h fun b u e2=>k a t b u (by rw [e,e2])
theorem lp3 {p:List (Str×Tok)} {G:Prop} (h:p.length=3) (k:∀ a t b u c v,p=[(a,t),(b,u),(c,v)]→G):G:=lpC h fun a t r e h=>lp2 h fun b u c v e2=>k a t b u c v (by rw [e,e2])
theorem lp4 {p:List (Str×Tok)} {G:Prop} (h:p.length=4) (k:∀ a t b u c v d x,p=[(a,t),(b,u),(c,v),(d,x)]→G):G:=lpC h fun a t r e h=>lp3 h fun b u c v d x e2=>k a t b u c v d x (by rw [e,e2])
theorem vJ {w:World} {b1 b2 b3:Bool} {lv:Nat} {hs:List Hook} {h₀:Heap} {ws:List Addr}:yF.Ok (cfg (jb w b1 b2 b3) lv hs) PW (jb w b1 b2 b3) h₀ ws:=by
 refine jN fun args m hint=>?_
 refine iL1 fun _ b1=>iRf fun L b2=>iC1 fun j bits b3=>iT fun qb=>iM fun en xs qm ql=>iS fun l qa=>iT fun qn=>?_
 subst b1 b2 b3
 refine iE ?_
 intro h he hm hst hk _
 have hL:L=en.a:=he (L,en.a) (.head _)
 have hj:=hm _ (.head _)
 have hn:l.length=bits.length:=of_decide_eq_true qn
 obtain ⟨d,ep,sl,ho⟩:=listOf_eq ql
 have ho:h.get? L=some (VU d xs ep sl):=by rw [hL,←ho];exact hk en (List.mem_of_getElem? qm)
 obtain ⟨p,hp1,hp2⟩:=Kl qa
 subst hp1 hp2
 simp only [okBits,Bool.or_eq_true,decide_eq_true_eq] at qb
 clear he
 rw [List.length_map] at hn
 rcases qb with (((((((rfl | rfl) | rfl) | rfl) | rfl) | rfl) | rfl) | rfl)
 ·refine lp1 hn fun a ta ep=>?_
  subst ep
  exact j1 w b1 b2 b3 hst ho (hm _ (.tail _ (.head _))) hj
 ·refine lp2 hn fun a ta b tb ep=>?_
  subst ep
  exact j11 w b1 b2 b3 hst ho (hm _ (.tail _ (.head _))) (hm _ (.tail _ (.tail _ (.head _)))) hj
 ·refine lp2 hn fun a ta b tb ep=>?_
  subst ep
  exact j10 w b1 b2 b3 hst ho (hm _ (.tail _ (.head _))) (hm _ (.tail _ (.tail _ (.head _)))) hj
 ·refine lp2 hn fun a ta b tb ep=>?_
  subst ep
  exact j01 w b1 b2 b3 hst ho (hm _ (.tail _ (.head _))) (hm _ (.tail _ (.tail _ (.head _)))) hj
 ·refine lp2 hn fun a ta b tb ep=>?_
  subst ep
  exact j00 w b1 b2 b3 hst ho (hm _ (.tail _ (.head _))) (hm _ (.tail _ (.tail _ (.head _)))) hj
 ·refine lp3 hn fun a ta b tb c tc ep=>?_
  subst ep
  exact j111 w b1 b2 b3 hst ho (hm _ (.tail _ (.head _))) (hm _ (.tail _ (.tail _ (.head _)))) (hm _ (.tail _ (.tail _ (.tail _ (.head _))))) hj
 ·refine lp4 hn fun a ta b tb c tc e te ep=>?_
  subst ep
  exact j1111 w b1 b2 b3 hst ho (hm _ (.tail _ (.head _))) (hm _ (.tail _ (.tail _ (.head _)))) (hm _ (.tail _ (.tail _ (.tail _ (.head _))))) (hm _ (.tail _ (.tail _ (.tail _ (.tail _ (.head _)))))) hj
 ·refine lp4 hn fun a ta b tb c tc e te ep=>?_
  subst ep
  have h1:=hm _ (.tail _ (.head _))
  have h2:=hm _ (.tail _ (.tail _ (.head _)))
  have h3:=hm _ (.tail _ (.tail _ (.tail _ (.head _))))
  by_cases q:e = ""
  ·have ek:vh [1,1,1,2] [a,b,c,e]=[a,b,c]:=by simp [vh,q]
   simp only [List.map] at hj ⊢
   rw [ek] at hj ⊢
   exact j1110 w b1 b2 b3 hst ho h1 h2 h3 q hj
  ·have ek:vh [1,1,1,2] [a,b,c,e]=[a,b,c,e]:=by simp [vh,q]
   simp only [List.map] at hj ⊢
   rw [ek] at hj ⊢
   exact j1111 w b1 b2 b3 hst ho h1 h2 h3 q hj
def kindH:Hook:=vi (.ref 440) 4 (fun args _ _=>oL2 args fun k v=>yp k fun k _=>some {musts:=[Qj k v],V := .str (kdT k v)})
def QS:Hook:=vi (.ref 421) 4 (fun args _ _=>oL2 args fun b a=>some {musts:=[yA b a],V := .str (bdT b a)})
def tr_sk0 (b1 b2 b3:Bool):Tr:=T [1,1,1,1,0,1,1,1,0,1,0,1,1] .nil
def tr_sk1 (b1 b2 b3:Bool):Tr:=T [1,1,1,1,0,1,1,1,1,1,0,1,0,1,1,0,0,1,1,1,1,0,1,1,3,0,0,1,0,4,0,3,0] .nil
def tr_sb00 (b1 b2 b3:Bool):Tr:=T [1,1,1,1,0,0,0,1,0,0,1,1,1,1,0,1,0,2,0,0,1,1,1,1,0,1,0,2,3,0,0,0] .nil
def tr_sb01 (b1 b2 b3:Bool):Tr:=T [1,1,1,1,0,0,0,1,0,0,1,1,1,1,0,1,0,2,0,0,1,1,1,1,0,1,1,0,0,1,0,1,0,0,0,2,3,0,0,1] .nil
def tr_sb10 (b1 b2 b3:Bool):Tr:=T [1,1,1,1,0,0,0,1,0,0,1,1,1,1,0,1,1,0,0,1,0,1,0,0,0,2,0,0,1,1,1,1,0,1,0,2,3,0,1,0] .nil
def tr_sb11 (b1 b2 b3:Bool):Tr:=T [1,1,1,1,0,0,0,1,0,0,1,1,1,1,0,1,1,0,0,1,0,1,0,0,0,2,0,0,1,1,1,1,0,1,1,0,0,1,0,1,0,0,0,2,3,0,1,1] .nil
def tr_sb20 (b1 b2 b3:Bool):Tr:=T [1,1,1,1,0,0,0,1,0,0,1,1,1,1,0,1,1,0,0,1,0,1,0,0,0,2,0,0,1,1,1,1,0,1,0,2,3,0,1,0] .nil
def tr_sb21 (b1 b2 b3:Bool):Tr:=T [1,1,1,1,0,0,0,1,0,0,1,1,1,1,0,1,1,0,0,1,0,1,0,0,0,2,0,0,1,1,1,1,0,1,1,0,0,1,0,1,0,0,0,2,3,0,1,1] .nil
theorem ok440 (w:World):vH (ktP w) 440=true:=by kernel_rfl
theorem ok421 (w:World):vH (ktP w) 421=true:=by kernel_rfl
theorem isOp_ref {v:Value} (h:vG v):∃ a,v = .ref a:=by
 rcases h with rfl | rfl | rfl | rfl <;> exact ⟨_,rfl⟩
theorem QO {v:Value} (h:vG v):(opT v).length≤10:=by
 rcases h with rfl | rfl | rfl | rfl <;> decide +kernel
theorem yz {v:Value} (h:vG v):opT v ≠ "":=by
 rcases h with rfl | rfl | rfl | rfl <;> decide +kernel
section
variable {w:World} {b1 b2 b3:Bool} {lv:Nat} {hs:List Hook} {h₀:Heap} {ws:List Addr} {h:Heap}
theorem showKind (hst:St (jb w b1 b2 b3) h) {k:Str} {t:Nat} {v:Value} (hk:Qj k v):jr (jb w b1 b2 b3) 4 (.call (.ref 440) ⟨[.str k t,v],[]⟩) h [] (qG (kdT k v)):=by
 rcases hk with ⟨rfl,rfl⟩ | ⟨h1,h2,h3⟩
 ·refine je (hooks:=[eqH,neH,QT,yP]) (hkc vM (hkc Jk (hkc vS (hkc vQ hkn)))) (fuel:=10000) (tr:=fun b1=>tr_sk0 b1 b2 b3) (ok440 _) (jl.none hst) fun n tk o bs _=>?_
  refine qX (v := .str "CHARACTERS" 0) (ps:=[(true,("CHARACTERS" : Str) = "CHARACTERS")]) (by kernel_rfl) (by kernel_rfl) (fun _ c=>⟨rfl,c fun x m n tk hx h' _=>js hx⟩)
 ·obtain ⟨a,rfl⟩:=isOp_ref h2
  refine je (hooks:=[eqH,neH,QT,yP]) (hkc vM (hkc Jk (hkc vS (hkc vQ hkn)))) (fuel:=10000) (tr:=fun b1=>tr_sk1 b1 b2 b3) (ok440 _) (jl.none hst) fun n tk o bs _=>?_
  have hl:=QO h2
  refine qX (v := .str (k ++ " "++opT (.ref a)) 0) (ps:=[(true,k ≠ "CHARACTERS"),(true,jk [k," "]),(true,vG (.ref a)),(true,jk [k ++ " ",opT (.ref a)])]) (by kernel_rfl) (by kernel_rfl) (fun _ c=>⟨h1,?_,h2,?_,c fun x m n tk hx h' _=>js hx⟩)
  ·simp [jk];have:Str.length " " = 1:=rfl;omega
  ·simp [jk,Str.length_append];have:Str.length " " = 1:=rfl;omega
theorem QF:kindH.Ok (cfg (jb w b1 b2 b3) lv hs) PW (jb w b1 b2 b3) h₀ ws:=by
 refine jN fun args m hint=>iL2 fun k v b=>yl fun k t b'=>iE fun h he hm hst hk _=>?_
 subst b b'
 exact showKind hst (hm _ (.head _))
theorem isOp775:vG (.ref 775) := .inl rfl
theorem isOp777:vG (.ref 777) := .inr (.inl rfl)
theorem isOp779:vG (.ref 779) := .inr (.inr (.inl rfl))
theorem showBounds (hst:St (jb w b1 b2 b3) h) {b a:Value} (hk:yA b a):jr (jb w b1 b2 b3) 4 (.call (.ref 421) ⟨[b,a],[]⟩) h [] (qG (bdT b a)):=by
 obtain ⟨rfl | rfl | rfl,rfl | rfl⟩:=hk
 ·refine je (hooks:=[yP,yF]) (hkc vQ (hkc vJ hkn)) (fuel:=10000) (tr:=fun b1=>tr_sb00 b1 b2 b3) (ok421 _) (jl.none hst) fun n tk o bs _=>?_
  refine qX (v := .str "" 0) (ps:=[(true,jc " " ([]:List Str)),(true,("" : Str) = ""),(true,("" : Str) = "")]) (by kernel_rfl) (by kernel_rfl) (fun _ c=>⟨by unfold jc;decide +kernel,rfl,rfl,c fun x m n tk hx h' _=>js hx⟩)
 ·refine je (hooks:=[yP,yF]) (hkc vQ (hkc vJ hkn)) (fuel:=10000) (tr:=fun b1=>tr_sb01 b1 b2 b3) (ok421 _) (jl.none hst) fun n tk o bs _=>?_
  refine qX (v := .str "AFTER INITIAL SPACE" 0) (ps:=[(true,vG (.ref 779)),(true,jc " " (["AFTER INITIAL SPACE"]:List Str)),(true,("" : Str) = ""),(true,("AFTER INITIAL SPACE" : Str) ≠ "")]) (by kernel_rfl) (by kernel_rfl) (fun _ c=>⟨isOp779,by unfold jc;decide +kernel,rfl,by decide +kernel,c fun x m n tk hx h' _=>js hx⟩)
 ·refine je (hooks:=[yP,yF]) (hkc vQ (hkc vJ hkn)) (fuel:=10000) (tr:=fun b1=>tr_sb10 b1 b2 b3) (ok421 _) (jl.none hst) fun n tk o bs _=>?_
  refine qX (v := .str "BEFORE INITIAL A" 0) (ps:=[(true,vG (.ref 775)),(true,jc " " (["BEFORE INITIAL A"]:List Str)),(true,("BEFORE INITIAL A" : Str) ≠ ""),(true,("" : Str) = "")]) (by kernel_rfl) (by kernel_rfl) (fun _ c=>⟨isOp775,by unfold jc;decide +kernel,by decide +kernel,rfl,c fun x m n tk hx h' _=>js hx⟩)
 ·refine je (hooks:=[yP,yF]) (hkc vQ (hkc vJ hkn)) (fuel:=10000) (tr:=fun b1=>tr_sb11 b1 b2 b3) (ok421 _) (jl.none hst) fun n tk o bs _=>?_
  refine qX (v := .str "BEFORE INITIAL A AFTER INITIAL SPACE" 0) (ps:=[(true,vG (.ref 775)),(true,vG (.ref 779)),(true,jc " " (["BEFORE INITIAL A","AFTER INITIAL SPACE"]:List Str)),(true,("BEFORE INITIAL A" : Str) ≠ ""),(true,("AFTER INITIAL SPACE" : Str) ≠ "")]) (by kernel_rfl) (by kernel_rfl) (fun _ c=>⟨isOp775,isOp779,by unfold jc;decide +kernel,by decide +kernel,by decide +kernel,c fun x m n tk hx h' _=>js hx⟩)
 ·refine je (hooks:=[yP,yF]) (hkc vQ (hkc vJ hkn)) (fuel:=10000) (tr:=fun b1=>tr_sb20 b1 b2 b3) (ok421 _) (jl.none hst) fun n tk o bs _=>?_
  refine qX (v := .str "BEFORE INITIAL \"x\"" 0) (ps:=[(true,vG (.ref 777)),(true,jc " " (["BEFORE INITIAL \"x\""]:List Str)),(true,("BEFORE INITIAL \"x\"" : Str) ≠ ""),(true,("" : Str) = "")]) (by kernel_rfl) (by kernel_rfl) (fun _ c=>⟨isOp777,by unfold jc;decide +kernel,by decide +kernel,rfl,c fun x m n tk hx h' _=>js hx⟩)
 ·refine je (hooks:=[yP,yF]) (hkc vQ (hkc vJ hkn)) (fuel:=10000) (tr:=fun b1=>tr_sb21 b1 b2 b3) (ok421 _) (jl.none hst) fun n tk o bs _=>?_
  refine qX (v := .str "BEFORE INITIAL \"x\" AFTER INITIAL SPACE" 0) (ps:=[(true,vG (.ref 777)),(true,vG (.ref 779)),(true,jc " " (["BEFORE INITIAL \"x\"","AFTER INITIAL SPACE"]:List Str)),(true,("BEFORE INITIAL \"x\"" : Str) ≠ ""),(true,("AFTER INITIAL SPACE" : Str) ≠ "")]) (by kernel_rfl) (by kernel_rfl) (fun _ c=>⟨isOp777,isOp779,by unfold jc;decide +kernel,by decide +kernel,by decide +kernel,c fun x m n tk hx h' _=>js hx⟩)
theorem Jm:QS.Ok (cfg (jb w b1 b2 b3) lv hs) PW (jb w b1 b2 b3) h₀ ws:=by
 refine jN fun args m hint=>iL2 fun k v b=>iE fun h he hm hst hk _=>?_
 subst b
 exact showBounds hst (hm _ (.head _))
end
def tr_st1 (b1 b2 b3:Bool):Tr:=T [1,1,0,2,2,0,2,0,0,1,1,0,0,0,1,0,4,0,4,4,0,1,4,4,0,4,1,0,1,0,1,1,1,5,1,1,1,6,6,6,0,6,1,1,0,1,1,1] (T [7,1,1,1,0,1,1,1,7,1,1,1,0,1,1,1,7,1,1,1,0,1,1,1,7,1,1,1,0,1,1,1,7,1,1,1,0,1,1,1,7,1,1,1,7,7,7,7] (T [7,7,7,7,7,7,7,6,6,6,6,0,0,7,0,1,0,0,7,7,0,2,0,0,7,7,0,3,0,0,4,5,0,1,1,1,2,0,7,7,7,7,0,5,0,5,5,5] (T [9,5,5,1,0,10,0,4,2,8,1,5,0] .nil)))
def tr_st2 (b1 b2 b3:Bool):Tr:=T [1,1,0,2,2,0,2,0,0,1,1,0,0,0,1,0,4,0,4,4,0,1,4,4,0,4,1,0,1,0,1,1,1,5,1,1,1,6,6,6,0,6,1,1,0,1,1,1] (T [7,1,1,1,0,1,1,1,7,1,1,1,0,1,1,1,7,1,1,1,0,1,1,1,7,1,1,1,0,1,1,1,7,1,1,1,0,1,1,1,7,1,1,1,7,7,7,7] (T [7,7,7,7,7,7,7,6,6,6,6,0,0,7,0,1,0,0,7,7,0,2,0,0,7,7,0,3,0,0,4,5,0,1,1,1,2,0,7,7,7,7,0,5,0,5,5,5] (T [9,5,5,5,11,11,11,0,11,1,1,0,1,1,1,12,1,1,1,0,1,1,1,12,1,1,1,0,1,1,1,12,1,1,1,0,1,1,1,12,1,1,1,0,1,1,1,12] (T [1,1,1,0,1,1,1,12,1,1,1,11,11,11,11,11,11,11,11,11,11,11,10,10,10,10,0,0,11,0,1,0,0,11,11,0,2,0,0,11,11,0,3,0,0,4,5,0] (T [1,1,1,2,0,11,11,11,11,0,9,0,9,9,9,13,9,9,1,0,14,0,4,3,12,1,1,5,0] .nil)))))
def tr_st3 (b1 b2 b3:Bool):Tr:=T [1,1,0,2,2,0,2,0,0,1,1,0,0,0,1,0,4,0,4,4,0,1,4,4,0,4,1,0,1,0,1,1,1,5,1,1,1,6,6,6,0,6,1,1,0,1,1,1] (T [7,1,1,1,0,1,1,1,7,1,1,1,0,1,1,1,7,1,1,1,0,1,1,1,7,1,1,1,0,1,1,1,7,1,1,1,0,1,1,1,7,1,1,1,7,7,7,7] (T [7,7,7,7,7,7,7,6,6,6,6,0,0,7,0,1,0,0,7,7,0,2,0,0,7,7,0,3,0,0,4,5,0,1,1,1,2,0,7,7,7,7,0,5,0,5,5,5] (T [9,5,5,5,11,11,11,0,11,1,1,0,1,1,1,12,1,1,1,0,1,1,1,12,1,1,1,0,1,1,1,12,1,1,1,0,1,1,1,12,1,1,1,0,1,1,1,12] (T [1,1,1,0,1,1,1,12,1,1,1,11,11,11,11,11,11,11,11,11,11,11,10,10,10,10,0,0,11,0,1,0,0,11,11,0,2,0,0,11,11,0,3,0,0,4,5,0] (T [1,1,1,2,0,11,11,11,11,0,9,0,9,9,9,13,9,9,9,16,16,16,0,16,1,1,0,1,1,1,17,1,1,1,0,1,1,1,17,1,1,1,0,1,1,1,17,1] (T [1,1,0,1,1,1,17,1,1,1,0,1,1,1,17,1,1,1,0,1,1,1,17,1,1,1,15,15,15,15,15,15,15,15,15,15,15,14,14,14,14,0,0,15,0,1,0,0] (T [15,15,0,2,0,0,15,15,0,3,0,0,4,5,0,1,1,1,2,0,15,15,15,15,0,13,0,13,13,13,17,13,13,1,0,18,0,4,4,16,1,1,1,5,0] .nil)))))))
def tr_sr1 (b1 b2 b3:Bool):Tr:=T [1,1,0,2,2,0,2,0,0,1,1,0,0,0,1,0,4,0,4,4,0,1,4,4,0,4,1,0,1,0,1,1,1,5,1,1,1,6,6,6,0,6,1,1,0,1,1,1] (T [7,1,1,1,0,1,1,1,7,1,1,1,0,1,1,1,7,1,1,1,0,1,1,1,7,1,1,1,0,1,1,1,7,1,1,1,0,1,1,1,7,1,1,1,7,7,7,7] (T [7,7,7,7,7,7,7,6,6,6,6,0,0,7,7,0,2,0,0,7,0,1,0,0,7,7,0,3,0,0,4,5,0,1,1,1,2,0,7,7,7,7,0,5,0,5,5,5] (T [9,5,5,1,0,10,0,4,2,8,1,5,0] .nil)))
def tr_sr2 (b1 b2 b3:Bool):Tr:=T [1,1,0,2,2,0,2,0,0,1,1,0,0,0,1,0,4,0,4,4,0,1,4,4,0,4,1,0,1,0,1,1,1,5,1,1,1,6,6,6,0,6,1,1,0,1,1,1] (T [7,1,1,1,0,1,1,1,7,1,1,1,0,1,1,1,7,1,1,1,0,1,1,1,7,1,1,1,0,1,1,1,7,1,1,1,0,1,1,1,7,1,1,1,7,7,7,7] (T [7,7,7,7,7,7,7,6,6,6,6,0,0,7,7,0,2,0,0,7,0,1,0,0,7,7,0,3,0,0,4,5,0,1,1,1,2,0,7,7,7,7,0,5,0,5,5,5] (T [9,5,5,5,11,11,11,0,11,1,1,0,1,1,1,12,1,1,1,0,1,1,1,12,1,1,1,0,1,1,1,12,1,1,1,0,1,1,1,12,1,1,1,0,1,1,1,12] (T [1,1,1,0,1,1,1,12,1,1,1,11,11,11,11,11,11,11,11,11,11,11,10,10,10,10,0,0,11,11,0,2,0,0,11,0,1,0,0,11,11,0,3,0,0,4,5,0] (T [1,1,1,2,0,11,11,11,11,0,9,0,9,9,9,13,9,9,1,0,14,0,4,3,12,1,1,5,0] .nil)))))
def tr_sr3 (b1 b2 b3:Bool):Tr:=T [1,1,0,2,2,0,2,0,0,1,1,0,0,0,1,0,4,0,4,4,0,1,4,4,0,4,1,0,1,0,1,1,1,5,1,1,1,6,6,6,0,6,1,1,0,1,1,1] (T [7,1,1,1,0,1,1,1,7,1,1,1,0,1,1,1,7,1,1,1,0,1,1,1,7,1,1,1,0,1,1,1,7,1,1,1,0,1,1,1,7,1,1,1,7,7,7,7] (T [7,7,7,7,7,7,7,6,6,6,6,0,0,7,7,0,2,0,0,7,0,1,0,0,7,7,0,3,0,0,4,5,0,1,1,1,2,0,7,7,7,7,0,5,0,5,5,5] (T [9,5,5,5,11,11,11,0,11,1,1,0,1,1,1,12,1,1,1,0,1,1,1,12,1,1,1,0,1,1,1,12,1,1,1,0,1,1,1,12,1,1,1,0,1,1,1,12] (T [1,1,1,0,1,1,1,12,1,1,1,11,11,11,11,11,11,11,11,11,11,11,10,10,10,10,0,0,11,11,0,2,0,0,11,0,1,0,0,11,11,0,3,0,0,4,5,0] (T [1,1,1,2,0,11,11,11,11,0,9,0,9,9,9,13,9,9,9,16,16,16,0,16,1,1,0,1,1,1,17,1,1,1,0,1,1,1,17,1,1,1,0,1,1,1,17,1] (T [1,1,0,1,1,1,17,1,1,1,0,1,1,1,17,1,1,1,0,1,1,1,17,1,1,1,15,15,15,15,15,15,15,15,15,15,15,14,14,14,14,0,0,15,15,0,2,0] (T [0,15,0,1,0,0,15,15,0,3,0,0,4,5,0,1,1,1,2,0,15,15,15,15,0,13,0,13,13,13,17,13,13,1,0,18,0,4,4,16,1,1,1,5,0] .nil)))))))
theorem ok447 (w:World):vH (ktP w) 447=true:=by kernel_rfl
theorem ok454 (w:World):vH (ktP w) 454=true:=by kernel_rfl
theorem jG {v:Value} (h:vc v):vG v:=by
 rcases h with rfl | rfl
 ·exact .inl rfl
 ·exact .inr (.inr (.inr rfl))
theorem Kg {s:Str} (h:0 < s.length):s ≠ "":=by
 rintro rfl
 exact absurd h (by decide)
theorem len_of_ne {s:Str} (h:s ≠ ""):0 < s.length:=by
 refine Nat.pos_of_ne_zero fun e=>h ?_
 cases s with | mk c=>exact congrArg Str.mk (Array.eq_empty_of_size_eq_zero e)
theorem yL {k:Str} {v:Value} (h:Qj k v):kdT k v ≠ "":=by
 rcases h with ⟨rfl,rfl⟩ | ⟨_,h2,_⟩
 ·decide +kernel
 ·obtain ⟨a,rfl⟩:=isOp_ref h2
  refine Kg ?_
  have:=len_of_ne (yz h2)
  simp only [kdT,Str.length_append]
  omega
theorem kdT_len {k:Str} {v:Value} (h:Qj k v):(kdT k v).length≤31:=by
 rcases h with ⟨rfl,rfl⟩ | ⟨_,h2,h3⟩
 ·decide +kernel
 ·obtain ⟨a,rfl⟩:=isOp_ref h2
  have:=QO h2
  have h4:Str.length " " = 1:=rfl
  simp only [kdT,Str.length_append]
  omega
theorem bdT_len {b a:Value} (h:yA b a):(bdT b a).length≤60:=by
 obtain ⟨rfl | rfl | rfl,rfl | rfl⟩:=h <;> decide +kernel
theorem JI (l:List Str):(Txt.join " " l).length≤(l.map (·.length)).sum+l.length:=by
 have:=StrLaws.join_length_le " " l
 rw [Txt.join,StrLaws.glued_eq_join]
 have h4:Str.length " " = 1:=rfl
 rw [h4,Nat.mul_one] at this
 exact this
theorem join_pos {s:Str} {l:List Str} (h:0 < s.length):0 < (Txt.join " " (s::l)).length:=by
 have:=PyProof.Rows.len_join_ge_sum " " (s::l)
 simp only [List.map_cons,List.sum_cons] at this
 omega
theorem kept_ok {x y z u:Str} (hx:x ≠ "") (lx:x.length≤45) (ly:y.length≤45) (lz:z.length≤45) (lu:u.length≤60) :
  jc " " (vh [1,1,1,2] [x,y,z,u])∧Txt.join " " (vh [1,1,1,2] [x,y,z,u]) ≠ ""∧(Txt.join " " (vh [1,1,1,2] [x,y,z,u])).length≤200:=by
 have h4:Str.length " " = 1:=rfl
 have px:=len_of_ne hx
 simp only [vh]
 split
 ·have:=JI [x,y,z]
  refine ⟨?_,Kg (join_pos px),?_⟩
  ·simp only [jc,List.map_cons,List.map_nil,List.sum_cons,List.sum_nil,List.length_cons,List.length_nil];omega
  ·simp only [List.map_cons,List.map_nil,List.sum_cons,List.sum_nil,List.length_cons,List.length_nil] at this;omega
 ·have:=JI [x,y,z,u]
  refine ⟨?_,Kg (join_pos px),?_⟩
  ·simp only [jc,List.map_cons,List.map_nil,List.sum_cons,List.sum_nil,List.length_cons,List.length_nil];omega
  ·simp only [List.map_cons,List.map_nil,List.sum_cons,List.sum_nil,List.length_cons,List.length_nil] at this;omega
theorem Row.OkT.facts {r:Row} (h:r.OkT):jc " " (vh [1,1,1,2] [opT r.c,"FOR",kdT r.k r.v,bdT r.b r.a])∧r.tT ≠ ""∧r.tT.length≤200 :=
 kept_ok (yz (jG h.c)) (Nat.le_trans (QO (jG h.c)) (by decide)) (by decide +kernel) (Nat.le_trans (kdT_len h.k) (by decide)) (bdT_len h.b)
theorem Row.OkR.facts {r:Row} (h:r.OkR):jc " " (vh [1,1,1,2] [kdT r.k r.v,"BY",opT r.c,bdT r.b r.a])∧r.rT ≠ ""∧r.rT.length≤200 :=
 kept_ok (yL h.k) (Nat.le_trans (kdT_len h.k) (by decide)) (by decide +kernel) (Nat.le_trans (QO h.c) (by decide)) (bdT_len h.b)
section
variable {w:World} {b1 b2 b3:Bool} {lv:Nat} {hs:List Hook} {h₀:Heap} {ws:List Addr} {h:Heap}
variable {R A1 A2 A3:Addr} {d d1 d2 d3:Option Addr} {ep ep1 ep2 ep3:Nat} {sl sl1 sl2 sl3:Array (Option Value)} {r1 r2 r3:Row}
theorem shownT1 (hst:St (jb w b1 b2 b3) h) (hR:h.get? R=some (vv d [.ref A1] ep sl)) (hA1:h.get? A1=some (vv d1 r1.tv ep1 sl1)) (h1:r1.OkT) :
  jr (jb w b1 b2 b3) 6 (.call (.ref 447) ⟨[.ref R],[]⟩) h [] (qG ("TALLYING "++Txt.join " " [r1.tT])):=by
 refine je (hooks:=[Jq,kindH,QS,yF,QT]) (hkc yD (hkc QF (hkc Jm (hkc vJ (hkc vS hkn))))) (fuel:=10000) (tr:=fun b1=>tr_st1 b1 b2 b3) (ok447 _) (jl.ro hst (l:=[(R,_),(A1,_)]) ⟨hR,hA1,trivial⟩) fun n tk o bs _=>?_
 have f1:=h1.facts.2.2
 have hj:=JI [r1.tT]
 have h4:Str.length " " = 1:=rfl
 refine qX (v := .str ("TALLYING "++Txt.join " " [r1.tT]) 0) (ps:=[(true,vc r1.c),(true,Qj r1.k r1.v),(true,yA r1.b r1.a),(true,jc " " (vh [1,1,1,2] [opT r1.c,"FOR",kdT r1.k r1.v,bdT r1.b r1.a])),(true,opT r1.c ≠ ""),(true,("FOR" : Str) ≠ ""),(true,kdT r1.k r1.v ≠ ""),(true,jc " " [r1.tT]),(true,r1.tT ≠ ""),(true,jk ["TALLYING ",Txt.join " " [r1.tT]])]) (by kernel_rfl) (by kernel_rfl) (fun _ c=>⟨h1.c,h1.k,h1.b,h1.facts.1,yz (jG h1.c),by decide +kernel,yL h1.k,?_,h1.facts.2.1,?_,c fun x m n tk hx h' _=>js hx⟩)
 ·simp only [jc,List.map_cons,List.map_nil,List.sum_cons,List.sum_nil,List.length_cons,List.length_nil];omega
 ·have h5:Str.length "TALLYING " = 9:=rfl
  simp only [List.map_cons,List.map_nil,List.sum_cons,List.sum_nil,List.length_cons,List.length_nil] at hj
  simp only [jk,List.map_cons,List.map_nil,List.sum_cons,List.sum_nil];omega
theorem shownT2 (hst:St (jb w b1 b2 b3) h) (hR:h.get? R=some (vv d [.ref A1,.ref A2] ep sl)) (hA1:h.get? A1=some (vv d1 r1.tv ep1 sl1)) (h1:r1.OkT) (hA2:h.get? A2=some (vv d2 r2.tv ep2 sl2)) (h2:r2.OkT) :
  jr (jb w b1 b2 b3) 6 (.call (.ref 447) ⟨[.ref R],[]⟩) h [] (qG ("TALLYING "++Txt.join " " [r1.tT,r2.tT])):=by
 refine je (hooks:=[Jq,kindH,QS,yF,QT]) (hkc yD (hkc QF (hkc Jm (hkc vJ (hkc vS hkn))))) (fuel:=10000) (tr:=fun b1=>tr_st2 b1 b2 b3) (ok447 _) (jl.ro hst (l:=[(R,_),(A1,_),(A2,_)]) ⟨hR,hA1,hA2,trivial⟩) fun n tk o bs _=>?_
 have f1:=h1.facts.2.2
 have f2:=h2.facts.2.2
 have hj:=JI [r1.tT,r2.tT]
 have h4:Str.length " " = 1:=rfl
 refine qX (v := .str ("TALLYING "++Txt.join " " [r1.tT,r2.tT]) 0) (ps:=[(true,vc r1.c),(true,Qj r1.k r1.v),(true,yA r1.b r1.a),(true,jc " " (vh [1,1,1,2] [opT r1.c,"FOR",kdT r1.k r1.v,bdT r1.b r1.a])),(true,opT r1.c ≠ ""),(true,("FOR" : Str) ≠ ""),(true,kdT r1.k r1.v ≠ ""),(true,vc r2.c),(true,Qj r2.k r2.v),(true,yA r2.b r2.a),(true,jc " " (vh [1,1,1,2] [opT r2.c,"FOR",kdT r2.k r2.v,bdT r2.b r2.a])),(true,opT r2.c ≠ ""),(true,("FOR" : Str) ≠ ""),(true,kdT r2.k r2.v ≠ ""),(true,jc " " [r1.tT,r2.tT]),(true,r1.tT ≠ ""),(true,r2.tT ≠ ""),(true,jk ["TALLYING ",Txt.join " " [r1.tT,r2.tT]])]) (by kernel_rfl) (by kernel_rfl) (fun _ c=>⟨h1.c,h1.k,h1.b,h1.facts.1,yz (jG h1.c),by decide +kernel,yL h1.k,h2.c,h2.k,h2.b,h2.facts.1,yz (jG h2.c),by decide +kernel,yL h2.k,?_,h1.facts.2.1,h2.facts.2.1,?_,c fun x m n tk hx h' _=>js hx⟩)
 ·simp only [jc,List.map_cons,List.map_nil,List.sum_cons,List.sum_nil,List.length_cons,List.length_nil];omega
 ·have h5:Str.length "TALLYING " = 9:=rfl
  simp only [List.map_cons,List.map_nil,List.sum_cons,List.sum_nil,List.length_cons,List.length_nil] at hj
  simp only [jk,List.map_cons,List.map_nil,List.sum_cons,List.sum_nil];omega
theorem shownT3 (hst:St (jb w b1 b2 b3) h) (hR:h.get? R=some (vv d [.ref A1,.ref A2,.ref A3] ep sl)) (hA1:h.get? A1=some (vv d1 r1.tv ep1 sl1)) (h1:r1.OkT) (hA2:h.get? A2=some (vv d2 r2.tv ep2 sl2)) (h2:r2.OkT) (hA3:h.get? A3=some (vv d3 r3.tv ep3 sl3)) (h3:r3.OkT) :
  jr (jb w b1 b2 b3) 6 (.call (.ref 447) ⟨[.ref R],[]⟩) h [] (qG ("TALLYING "++Txt.join " " [r1.tT,r2.tT,r3.tT])):=by
 refine je (hooks:=[Jq,kindH,QS,yF,QT]) (hkc yD (hkc QF (hkc Jm (hkc vJ (hkc vS hkn))))) (fuel:=10000) (tr:=fun b1=>tr_st3 b1 b2 b3) (ok447 _) (jl.ro hst (l:=[(R,_),(A1,_),(A2,_),(A3,_)]) ⟨hR,hA1,hA2,hA3,trivial⟩) fun n tk o bs _=>?_
 have f1:=h1.facts.2.2
 have f2:=h2.facts.2.2
 have f3:=h3.facts.2.2
 have hj:=JI [r1.tT,r2.tT,r3.tT]
 have h4:Str.length " " = 1:=rfl
 refine qX (v := .str ("TALLYING "++Txt.join " " [r1.tT,r2.tT,r3.tT]) 0) (ps:=[(true,vc r1.c),(true,Qj r1.k r1.v),(true,yA r1.b r1.a),(true,jc " " (vh [1,1,1,2] [opT r1.c,"FOR",kdT r1.k r1.v,bdT r1.b r1.a])),(true,opT r1.c ≠ ""),(true,("FOR" : Str) ≠ ""),(true,kdT r1.k r1.v ≠ ""),(true,vc r2.c),(true,Qj r2.k r2.v),(true,yA r2.b r2.a),(true,jc " " (vh [1,1,1,2] [opT r2.c,"FOR",kdT r2.k r2.v,bdT r2.b r2.a])),(true,opT r2.c ≠ ""),(true,("FOR" : Str) ≠ ""),(true,kdT r2.k r2.v ≠ ""),(true,vc r3.c),(true,Qj r3.k r3.v),(true,yA r3.b r3.a),(true,jc " " (vh [1,1,1,2] [opT r3.c,"FOR",kdT r3.k r3.v,bdT r3.b r3.a])),(true,opT r3.c ≠ ""),(true,("FOR" : Str) ≠ ""),(true,kdT r3.k r3.v ≠ ""),(true,jc " " [r1.tT,r2.tT,r3.tT]),(true,r1.tT ≠ ""),(true,r2.tT ≠ ""),(true,r3.tT ≠ ""),(true,jk ["TALLYING ",Txt.join " " [r1.tT,r2.tT,r3.tT]])]) (by kernel_rfl) (by kernel_rfl) (fun _ c=>⟨h1.c,h1.k,h1.b,h1.facts.1,yz (jG h1.c),by decide +kernel,yL h1.k,h2.c,h2.k,h2.b,h2.facts.1,yz (jG h2.c),by decide +kernel,yL h2.k,h3.c,h3.k,h3.b,h3.facts.1,yz (jG h3.c),by decide +kernel,yL h3.k,?_,h1.facts.2.1,h2.facts.2.1,h3.facts.2.1,?_,c fun x m n tk hx h' _=>js hx⟩)
 ·simp only [jc,List.map_cons,List.map_nil,List.sum_cons,List.sum_nil,List.length_cons,List.length_nil];omega
 ·have h5:Str.length "TALLYING " = 9:=rfl
  simp only [List.map_cons,List.map_nil,List.sum_cons,List.sum_nil,List.length_cons,List.length_nil] at hj
  simp only [jk,List.map_cons,List.map_nil,List.sum_cons,List.sum_nil];omega
theorem shownR1 (hst:St (jb w b1 b2 b3) h) (hR:h.get? R=some (vv d [.ref A1] ep sl)) (hA1:h.get? A1=some (vv d1 r1.rv ep1 sl1)) (h1:r1.OkR) :
  jr (jb w b1 b2 b3) 6 (.call (.ref 454) ⟨[.ref R],[]⟩) h [] (qG ("REPLACING "++Txt.join " " [r1.rT])):=by
 refine je (hooks:=[yP,kindH,QS,yF,QT]) (hkc vQ (hkc QF (hkc Jm (hkc vJ (hkc vS hkn))))) (fuel:=10000) (tr:=fun b1=>tr_sr1 b1 b2 b3) (ok454 _) (jl.ro hst (l:=[(R,_),(A1,_)]) ⟨hR,hA1,trivial⟩) fun n tk o bs _=>?_
 have f1:=h1.facts.2.2
 have hj:=JI [r1.rT]
 have h4:Str.length " " = 1:=rfl
 refine qX (v := .str ("REPLACING "++Txt.join " " [r1.rT]) 0) (ps:=[(true,Qj r1.k r1.v),(true,vG r1.c),(true,yA r1.b r1.a),(true,jc " " (vh [1,1,1,2] [kdT r1.k r1.v,"BY",opT r1.c,bdT r1.b r1.a])),(true,kdT r1.k r1.v ≠ ""),(true,("BY" : Str) ≠ ""),(true,opT r1.c ≠ ""),(true,jc " " [r1.rT]),(true,r1.rT ≠ ""),(true,jk ["REPLACING ",Txt.join " " [r1.rT]])]) (by kernel_rfl) (by kernel_rfl) (fun _ c=>⟨h1.k,h1.c,h1.b,h1.facts.1,yL h1.k,by decide +kernel,yz h1.c,?_,h1.facts.2.1,?_,c fun x m n tk hx h' _=>js hx⟩)
 ·simp only [jc,List.map_cons,List.map_nil,List.sum_cons,List.sum_nil,List.length_cons,List.length_nil];omega
 ·have h5:Str.length "REPLACING " = 10:=rfl
  simp only [List.map_cons,List.map_nil,List.sum_cons,List.sum_nil,List.length_cons,List.length_nil] at hj
  simp only [jk,List.map_cons,List.map_nil,List.sum_cons,List.sum_nil];omega
theorem shownR2 (hst:St (jb w b1 b2 b3) h) (hR:h.get? R=some (vv d [.ref A1,.ref A2] ep sl)) (hA1:h.get? A1=some (vv d1 r1.rv ep1 sl1)) (h1:r1.OkR) (hA2:h.get? A2=some (vv d2 r2.rv ep2 sl2)) (h2:r2.OkR) :
  jr (jb w b1 b2 b3) 6 (.call (.ref 454) ⟨[.ref R],[]⟩) h [] (qG ("REPLACING "++Txt.join " " [r1.rT,r2.rT])):=by
 refine je (hooks:=[yP,kindH,QS,yF,QT]) (hkc vQ (hkc QF (hkc Jm (hkc vJ (hkc vS hkn))))) (fuel:=10000) (tr:=fun b1=>tr_sr2 b1 b2 b3) (ok454 _) (jl.ro hst (l:=[(R,_),(A1,_),(A2,_)]) ⟨hR,hA1,hA2,trivial⟩) fun n tk o bs _=>?_
 have f1:=h1.facts.2.2
 have f2:=h2.facts.2.2
 have hj:=JI [r1.rT,r2.rT]
 have h4:Str.length " " = 1:=rfl
 refine qX (v := .str ("REPLACING "++Txt.join " " [r1.rT,r2.rT]) 0) (ps:=[(true,Qj r1.k r1.v),(true,vG r1.c),(true,yA r1.b r1.a),(true,jc " " (vh [1,1,1,2] [kdT r1.k r1.v,"BY",opT r1.c,bdT r1.b r1.a])),(true,kdT r1.k r1.v ≠ ""),(true,("BY" : Str) ≠ ""),(true,opT r1.c ≠ ""),(true,Qj r2.k r2.v),(true,vG r2.c),(true,yA r2.b r2.a),(true,jc " " (vh [1,1,1,2] [kdT r2.k r2.v,"BY",opT r2.c,bdT r2.b r2.a])),(true,kdT r2.k r2.v ≠ ""),(true,("BY" : Str) ≠ ""),(true,opT r2.c ≠ ""),(true,jc " " [r1.rT,r2.rT]),(true,r1.rT ≠ ""),(true,r2.rT ≠ ""),(true,jk ["REPLACING ",Txt.join " " [r1.rT,r2.rT]])]) (by kernel_rfl) (by kernel_rfl) (fun _ c=>⟨h1.k,h1.c,h1.b,h1.facts.1,yL h1.k,by decide +kernel,yz h1.c,h2.k,h2.c,h2.b,h2.facts.1,yL h2.k,by decide +kernel,yz h2.c,?_,h1.facts.2.1,h2.facts.2.1,?_,c fun x m n tk hx h' _=>js hx⟩)
 ·simp only [jc,List.map_cons,List.map_nil,List.sum_cons,List.sum_nil,List.length_cons,List.length_nil];omega
 ·have h5:Str.length "REPLACING " = 10:=rfl
  simp only [List.map_cons,List.map_nil,List.sum_cons,List.sum_nil,List.length_cons,List.length_nil] at hj
  simp only [jk,List.map_cons,List.map_nil,List.sum_cons,List.sum_nil];omega
theorem shownR3 (hst:St (jb w b1 b2 b3) h) (hR:h.get? R=some (vv d [.ref A1,.ref A2,.ref A3] ep sl)) (hA1:h.get? A1=some (vv d1 r1.rv ep1 sl1)) (h1:r1.OkR) (hA2:h.get? A2=some (vv d2 r2.rv ep2 sl2)) (h2:r2.OkR) (hA3:h.get? A3=some (vv d3 r3.rv ep3 sl3)) (h3:r3.OkR) :
  jr (jb w b1 b2 b3) 6 (.call (.ref 454) ⟨[.ref R],[]⟩) h [] (qG ("REPLACING "++Txt.join " " [r1.rT,r2.rT,r3.rT])):=by
 refine je (hooks:=[yP,kindH,QS,yF,QT]) (hkc vQ (hkc QF (hkc Jm (hkc vJ (hkc vS hkn))))) (fuel:=10000) (tr:=fun b1=>tr_sr3 b1 b2 b3) (ok454 _) (jl.ro hst (l:=[(R,_),(A1,_),(A2,_),(A3,_)]) ⟨hR,hA1,hA2,hA3,trivial⟩) fun n tk o bs _=>?_
 have f1:=h1.facts.2.2
 have f2:=h2.facts.2.2
 have f3:=h3.facts.2.2
 have hj:=JI [r1.rT,r2.rT,r3.rT]
 have h4:Str.length " " = 1:=rfl
 refine qX (v := .str ("REPLACING "++Txt.join " " [r1.rT,r2.rT,r3.rT]) 0) (ps:=[(true,Qj r1.k r1.v),(true,vG r1.c),(true,yA r1.b r1.a),(true,jc " " (vh [1,1,1,2] [kdT r1.k r1.v,"BY",opT r1.c,bdT r1.b r1.a])),(true,kdT r1.k r1.v ≠ ""),(true,("BY" : Str) ≠ ""),(true,opT r1.c ≠ ""),(true,Qj r2.k r2.v),(true,vG r2.c),(true,yA r2.b r2.a),(true,jc " " (vh [1,1,1,2] [kdT r2.k r2.v,"BY",opT r2.c,bdT r2.b r2.a])),(true,kdT r2.k r2.v ≠ ""),(true,("BY" : Str) ≠ ""),(true,opT r2.c ≠ ""),(true,Qj r3.k r3.v),(true,vG r3.c),(true,yA r3.b r3.a),(true,jc " " (vh [1,1,1,2] [kdT r3.k r3.v,"BY",opT r3.c,bdT r3.b r3.a])),(true,kdT r3.k r3.v ≠ ""),(true,("BY" : Str) ≠ ""),(true,opT r3.c ≠ ""),(true,jc " " [r1.rT,r2.rT,r3.rT]),(true,r1.rT ≠ ""),(true,r2.rT ≠ ""),(true,r3.rT ≠ ""),(true,jk ["REPLACING ",Txt.join " " [r1.rT,r2.rT,r3.rT]])]) (by kernel_rfl) (by kernel_rfl) (fun _ c=>⟨h1.k,h1.c,h1.b,h1.facts.1,yL h1.k,by decide +kernel,yz h1.c,h2.k,h2.c,h2.b,h2.facts.1,yL h2.k,by decide +kernel,yz h2.c,h3.k,h3.c,h3.b,h3.facts.1,yL h3.k,by decide +kernel,yz h3.c,?_,h1.facts.2.1,h2.facts.2.1,h3.facts.2.1,?_,c fun x m n tk hx h' _=>js hx⟩)
 ·simp only [jc,List.map_cons,List.map_nil,List.sum_cons,List.sum_nil,List.length_cons,List.length_nil];omega
 ·have h5:Str.length "REPLACING " = 10:=rfl
  simp only [List.map_cons,List.map_nil,List.sum_cons,List.sum_nil,List.length_cons,List.length_nil] at hj
  simp only [jk,List.map_cons,List.map_nil,List.sum_cons,List.sum_nil];omega
end
def tr_stx0 (b1 b2 b3:Bool):Tr:=T [1,1,1,1,0,1,2,2,2,0,2,2,1,1,1,0,1,0,1,1,1,5,2,0,1,0,2,0,0,1,1,0,0,1,4,4,4,0,4,4,0,3,0,4,0,4,0,1] (T [1,1,4,4,4,0,4,4,0,1,0,1,4,4,4,0,4,4,0,1,0,4,0,1,1,1,4,4,4,0,4,4,0,1,4,0,0,1,4,4,4,0,4,4,0,2,0,4] (T [0] .nil))
def tr_stx1 (b1 b2 b3:Bool):Tr:=T [1,1,1,1,0,1,2,2,2,0,2,2,1,1,1,0,1,0,1,1,1,4,2,0,1,0,2,0,0,1,1,0,0,1,4,4,4,0,4,4,0,2,0,3,0,3,0,1] (T [1,1,4,4,4,0,4,4,0,1,0,1,4,4,4,0,4,4,0,1,0,3,0,1,1,1,4,4,4,0,4,4,0,1] .nil)
def tr_stx2 (b1 b2 b3:Bool):Tr:=T [1,1,1,1,0,1,2,2,2,0,2,2,1,1,1,0,1,0,1,1,1,4,2,0,1,0,2,0,0,1,1,0,0,1,4,4,4,0,4,4,0,2,0,3,0,3,0,1] (T [1,1,4,4,4,0,4,4,0,1,0,1,4,4,4,0,4,4,0,1,0,3,0] .nil)
theorem ok475 (w:World):vH (ktP w) 475=true:=by kernel_rfl
noncomputable def At (h:Heap) (f:Row→List Value):List Addr→List Row→Prop
 |[],[]=>True
 |a::as,r::rs=>(∃ d ep sl,h.get? a=some (vv d (f r) ep sl))∧At h f as rs
 |_,_=>False
def Jo (h:Heap) (R:Addr) (f:Row→List Value) (rs:List Row):Prop:=∃ as d ep sl,h.get? R=some (vv d (as.map Value.ref) ep sl)∧At h f as rs
theorem At.mono {h h':Heap} {f:Row→List Value} (k:∀ a o,h.get? a=some o→h'.get? a=some o):∀ {as rs},At h f as rs→At h' f as rs
 |[],[],_=>trivial
 |a::as,r::rs,⟨⟨d,ep,sl,e⟩,q⟩=>⟨⟨d,ep,sl,k _ _ e⟩,q.mono k⟩
 |[],_::_,q=>q.elim
 |_::_,[],q=>q.elim
theorem Jo.mono {h h':Heap} {R:Addr} {f:Row→List Value} {rs:List Row} (x:Jo h R f rs) (k:∀ a o,h.get? a=some o→h'.get? a=some o):Jo h' R f rs:=by
 obtain ⟨as,d,ep,sl,e,q⟩:=x
 exact ⟨as,d,ep,sl,k _ _ e,q.mono k⟩
theorem join_len {l:List Str} (hl:l.length≤3) (h:∀ x∈l,x.length≤200):(Txt.join " " l).length≤603:=by
 have:=JI l
 have s:(l.map (·.length)).sum≤200 * l.length:=by
  clear this hl
  induction l with
  |nil=>simp
  |cons x l ih =>
   have h1:=h x (.head _)
   have h2:=ih fun y hy=>h y (.tail _ hy)
   simp only [List.map_cons,List.sum_cons,List.length_cons]
   omega
 omega
theorem Qv {rs:List Row} (hl:rs.length≤3) (ho:∀ r∈rs,r.OkT):(yI rs).length≤700:=by
 have:=join_len (l:=rs.map Row.tT) (by rw [List.length_map];exact hl) (fun x hx=>by
  obtain ⟨r,hr,rfl⟩:=List.mem_map.mp hx
  exact (ho r hr).facts.2.2)
 have h5:Str.length "TALLYING " = 9:=rfl
 simp only [yI,Str.length_append];omega
theorem Qz {rs:List Row} (hl:rs.length≤3) (ho:∀ r∈rs,r.OkR):(yU rs).length≤700:=by
 have:=join_len (l:=rs.map Row.rT) (by rw [List.length_map];exact hl) (fun x hx=>by
  obtain ⟨r,hr,rfl⟩:=List.mem_map.mp hx
  exact (ho r hr).facts.2.2)
 have h5:Str.length "REPLACING " = 10:=rfl
 simp only [yU,Str.length_append];omega
section
variable {w:World} {b1 b2 b3:Bool} {lv:Nat} {hs:List Hook} {h₀:Heap} {ws:List Addr} {h:Heap} {rs ots:List Row} {R O S L:Addr} {d:Option Addr} {ep t:Nat} {sl:Array (Option Value)} {c:Value}
theorem atC {h:Heap} {f:Row→List Value} {r:Row} {rs:List Row} {as:List Addr} {G:Prop} (q:At h f as (r::rs)) (k:∀ a as',as=a::as'→(∃ d ep sl,h.get? a=some (vv d (f r) ep sl))→At h f as' rs→G):G:=by
 cases as with
 |nil=>exact q.elim
 |cons a as'=>exact k a as' rfl q.1 q.2
theorem atN {h:Heap} {f:Row→List Value} {as:List Addr} (q:At h f as []):as=[]:=by
 cases as with
 |nil=>rfl
 |cons=>exact q.elim
theorem showT (hst:St (jb w b1 b2 b3) h) (hR:Jo h R Row.tv rs) (ho:∀ r∈rs,r.OkT) (h1:1≤rs.length) (h3:rs.length≤3) :
  jr (jb w b1 b2 b3) 6 (.call (.ref 447) ⟨[.ref R],[]⟩) h [] (qG (yI rs)):=by
 obtain ⟨as,d,ep,sl,e,q⟩:=hR
 cases rs with
 |nil=>exact absurd h1 (by decide)
 |cons r1 rs =>
  refine atC q fun A1 as1 ea ⟨d1,ep1,sl1,e1⟩ q=>?_
  have o1:=ho r1 (.head _)
  cases rs with
  |nil=>rw [ea,atN q] at e;exact shownT1 hst e e1 o1
  |cons r2 rs =>
   refine atC q fun A2 as2 ea2 ⟨d2,ep2,sl2,e2⟩ q=>?_
   have o2:=ho r2 (.tail _ (.head _))
   cases rs with
   |nil=>rw [ea,ea2,atN q] at e;exact shownT2 hst e e1 o1 e2 o2
   |cons r3 rs =>
    refine atC q fun A3 as3 ea3 ⟨d3,ep3,sl3,e3⟩ q=>?_
    have o3:=ho r3 (.tail _ (.tail _ (.head _)))
    cases rs with
    |nil=>rw [ea,ea2,ea3,atN q] at e;exact shownT3 hst e e1 o1 e2 o2 e3 o3
    |cons=>simp at h3
theorem showTH (hR:Jo h₀ R Row.tv rs) (ho:∀ r∈rs,r.OkT) (h1:1≤rs.length) (h3:rs.length≤3) (hw:ws=[]):(Yj (.ref 447) 6 [.ref R] (fun t => .str (yI rs) t)).Ok (cfg (jb w b1 b2 b3) lv hs) PW (jb w b1 b2 b3) h₀ ws :=
 exactH_ok fun h hst o=>showT hst (hR.mono fun a x e=>by subst hw;exact o.get e) ho h1 h3
theorem showR (hst:St (jb w b1 b2 b3) h) (hR:Jo h R Row.rv rs) (ho:∀ r∈rs,r.OkR) (h1:1≤rs.length) (h3:rs.length≤3) :
  jr (jb w b1 b2 b3) 6 (.call (.ref 454) ⟨[.ref R],[]⟩) h [] (qG (yU rs)):=by
 obtain ⟨as,d,ep,sl,e,q⟩:=hR
 cases rs with
 |nil=>exact absurd h1 (by decide)
 |cons r1 rs =>
  refine atC q fun A1 as1 ea ⟨d1,ep1,sl1,e1⟩ q=>?_
  have o1:=ho r1 (.head _)
  cases rs with
  |nil=>rw [ea,atN q] at e;exact shownR1 hst e e1 o1
  |cons r2 rs =>
   refine atC q fun A2 as2 ea2 ⟨d2,ep2,sl2,e2⟩ q=>?_
   have o2:=ho r2 (.tail _ (.head _))
   cases rs with
   |nil=>rw [ea,ea2,atN q] at e;exact shownR2 hst e e1 o1 e2 o2
   |cons r3 rs =>
    refine atC q fun A3 as3 ea3 ⟨d3,ep3,sl3,e3⟩ q=>?_
    have o3:=ho r3 (.tail _ (.tail _ (.head _)))
    cases rs with
    |nil=>rw [ea,ea2,ea3,atN q] at e;exact shownR3 hst e e1 o1 e2 o2 e3 o3
    |cons=>simp at h3
theorem showRH (hR:Jo h₀ R Row.rv rs) (ho:∀ r∈rs,r.OkR) (h1:1≤rs.length) (h3:rs.length≤3) (hw:ws=[]):(Yj (.ref 454) 6 [.ref R] (fun t => .str (yU rs) t)).Ok (cfg (jb w b1 b2 b3) lv hs) PW (jb w b1 b2 b3) h₀ ws :=
 exactH_ok fun h hst o=>showR hst (hR.mono fun a x e=>by subst hw;exact o.get e) ho h1 h3
theorem opLen (c:Value) (h:vc c):(opT c).length≤10:=QO (jG h)
theorem showTR (hst:St (jb w b1 b2 b3) h) (hS:h.get? S=some (vv d [.str "tally-replace" t,c,.ref R,.ref O] ep sl)) (hc:vc c) (hR:Jo h R Row.tv rs) (hO:Jo h O Row.rv ots)
  (ho:∀ r∈rs,r.OkT) (h1:1≤rs.length) (h3:rs.length≤3) (go:∀ r∈ots,r.OkR) (g1:1≤ots.length) (g3:ots.length≤3) :
  jr (jb w b1 b2 b3) 8 (.call (.ref 475) ⟨[.ref S,.ref L],[]⟩) h [] (qG ("INSPECT "++opT c ++ " "++yI rs ++ " "++yU ots)):=by
 refine je (hooks:=[Yj (.ref 447) 6 [.ref R] (fun t => .str (yI rs) t),Yj (.ref 454) 6 [.ref O] (fun t => .str (yU ots) t),Jq,QT,inH]) (hkc (showTH hR ho h1 h3 rfl) (hkc (showRH hO go g1 g3 rfl) (hkc yD (hkc vS (hkc inH_ok hkn))))) (fuel:=10000) (tr:=fun b1=>tr_stx0 b1 b2 b3) (ok475 _) (jl.ro hst (l:=[(S,_)]) ⟨hS,trivial⟩) fun n tk o bs _=>?_
 have l1:=Qv h3 ho
 have l2:=Qz g3 go
 have l3:=opLen c hc
 have l4:Str.length "INSPECT " = 8:=rfl
 have l5:Str.length " " = 1:=rfl
 refine qX (v := .str ("INSPECT "++opT c ++ " "++yI rs ++ " "++yU ots) 0) (ps:=[(true,("tally-replace" : Str)∈(["tally","replace","tally-replace"]:List Str)),(true,vc c),(true,jk ["INSPECT ",opT c]),(true,jk ["INSPECT "++opT c," "]),(true,[Value.ref R]=[.ref R]),(true,jk ["INSPECT "++opT c ++ " ",yI rs]),(true,jk ["INSPECT "++opT c ++ " "++yI rs," "]),(true,[Value.ref O]=[.ref O]),(true,jk ["INSPECT "++opT c ++ " "++yI rs ++ " ",yU ots])])
  (by kernel_rfl) (by kernel_rfl) (fun _ c=>⟨by decide +kernel,hc,?_,?_,rfl,?_,?_,rfl,?_,c fun x m n tk hx h' _=>js hx⟩) <;>
  (simp only [jk,List.map_cons,List.map_nil,List.sum_cons,List.sum_nil,Str.length_append];omega)
theorem showTa (hst:St (jb w b1 b2 b3) h) (hS:h.get? S=some (vv d [.str "tally" t,c,.ref R] ep sl)) (hc:vc c) (hR:Jo h R Row.tv rs)
  (ho:∀ r∈rs,r.OkT) (h1:1≤rs.length) (h3:rs.length≤3) :
  jr (jb w b1 b2 b3) 8 (.call (.ref 475) ⟨[.ref S,.ref L],[]⟩) h [] (qG ("INSPECT "++opT c ++ " "++yI rs)):=by
 refine je (hooks:=[Yj (.ref 447) 6 [.ref R] (fun t => .str (yI rs) t),Jq,QT,inH]) (hkc (showTH hR ho h1 h3 rfl) (hkc yD (hkc vS (hkc inH_ok hkn)))) (fuel:=10000) (tr:=fun b1=>tr_stx1 b1 b2 b3) (ok475 _) (jl.ro hst (l:=[(S,_)]) ⟨hS,trivial⟩) fun n tk o bs _=>?_
 have l1:=Qv h3 ho
 have l3:=opLen c hc
 have l4:Str.length "INSPECT " = 8:=rfl
 have l5:Str.length " " = 1:=rfl
 refine qX (v := .str ("INSPECT "++opT c ++ " "++yI rs) 0) (ps:=[(true,("tally" : Str)∈(["tally","replace","tally-replace"]:List Str)),(true,vc c),(true,jk ["INSPECT ",opT c]),(true,jk ["INSPECT "++opT c," "]),(true,[Value.ref R]=[.ref R]),(true,jk ["INSPECT "++opT c ++ " ",yI rs])])
  (by kernel_rfl) (by kernel_rfl) (fun _ c=>⟨by decide +kernel,hc,?_,?_,rfl,?_,c fun x m n tk hx h' _=>js hx⟩) <;>
  (simp only [jk,List.map_cons,List.map_nil,List.sum_cons,List.sum_nil,Str.length_append];omega)
theorem showRe (hst:St (jb w b1 b2 b3) h) (hS:h.get? S=some (vv d [.str "replace" t,c,.ref O] ep sl)) (hc:vc c) (hO:Jo h O Row.rv ots)
  (go:∀ r∈ots,r.OkR) (g1:1≤ots.length) (g3:ots.length≤3) :
  jr (jb w b1 b2 b3) 8 (.call (.ref 475) ⟨[.ref S,.ref L],[]⟩) h [] (qG ("INSPECT "++opT c ++ " "++yU ots)):=by
 refine je (hooks:=[Yj (.ref 454) 6 [.ref O] (fun t => .str (yU ots) t),Jq,QT,inH]) (hkc (showRH hO go g1 g3 rfl) (hkc yD (hkc vS (hkc inH_ok hkn)))) (fuel:=10000) (tr:=fun b1=>tr_stx2 b1 b2 b3) (ok475 _) (jl.ro hst (l:=[(S,_)]) ⟨hS,trivial⟩) fun n tk o bs _=>?_
 have l2:=Qz g3 go
 have l3:=opLen c hc
 have l4:Str.length "INSPECT " = 8:=rfl
 have l5:Str.length " " = 1:=rfl
 refine qX (v := .str ("INSPECT "++opT c ++ " "++yU ots) 0) (ps:=[(true,("replace" : Str)∈(["tally","replace","tally-replace"]:List Str)),(true,vc c),(true,jk ["INSPECT ",opT c]),(true,jk ["INSPECT "++opT c," "]),(true,[Value.ref O]=[.ref O]),(true,jk ["INSPECT "++opT c ++ " ",yU ots])])
  (by kernel_rfl) (by kernel_rfl) (fun _ c=>⟨by decide +kernel,hc,?_,?_,rfl,?_,c fun x m n tk hx h' _=>js hx⟩) <;>
  (simp only [jk,List.map_cons,List.map_nil,List.sum_cons,List.sum_nil,Str.length_append];omega)
end
noncomputable def rdI (d:Addr):Obj:=⟨.ref 768,some d,.plain,#[]⟩
noncomputable def rdO (h1 h2 h3 h4:Int) (k1 k2 k3 k4:Nat) (T z tz:Nat) (n s:Value) (ep:Nat):Obj:=⟨.type "dict",none,.dict ⟨[⟨h1,.str "tokens" k1,.ref T⟩,⟨h2,.str "at" k2,.int (.ofNat z) tz⟩,⟨h3,.str "named" k3,n⟩,⟨h4,.str "shared" k4,s⟩]⟩ ep,#[]⟩
def QG (v:Value) (x:Str):Bool:=match v with
 |.str s _=>ym s x
 |_=>false
def Qc (o:Obj):Option (Nat×Nat):=oKL "dict" o fun dt=>oDl dt fun l _=>oL4 l fun e1 e2 e3 e4=>oT (QG e1.key "tokens" && QG e2.key "at" && QG e3.key "named" && QG e4.key "shared") <|
 oRf e1.val fun T=>Jb e2.val fun i _=>oNat i fun z=>some (T,z)
noncomputable def jC (o:Obj) (z t:Nat):Obj:=match o with
 |⟨cls,d,dt,sl⟩=>match dt with
  |.dict es ep=>match es with
   |⟨l⟩=>match l with
    |e1::e2::r=>⟨cls,d,.dict ⟨e1::⟨e2.hash,e2.key,.int (.ofNat z) t⟩::r⟩ ep,sl⟩
    |_=>o
  |_=>o
def ins? (c:Nat) (o:Obj):Option Nat:=oO o fun cls d dt sl=>oRf cls fun a=>oT (Nat.beq a c) <| oS d fun D=>oPl dt <| oA sl fun l=>oL0 l <| some D
theorem ins_eq {c D:Nat} {o:Obj} (h:ins? c o=some D):o=⟨.ref c,some D,.plain,#[]⟩ :=
 iO (P:=fun D=>o=⟨.ref c,some D,.plain,#[]⟩) (fun _ _ _ _ e=>iRf fun a e1=>iT fun q=>iS fun D e2=>iPl fun e3=>iA fun l e4=>iL0 fun e5=>iE (by rw [e,e1,e2,e3,e4,e5,Nat.eq_of_beq_eq_true q])) _ h
def VD (o:Obj):Option Nat:=ins? 768 o
theorem YF {v:Value} {x:Str} (h:QG v x=true):∃ t,v = .str x t:=by
 cases v with
 |str s t=>exact ⟨t,by rw [vw h]⟩
 |_=>exact absurd h Bool.false_ne_true
theorem key4 {v1 v2 v3 v4:Value} {x1 x2 x3 x4:Str} (h:(QG v1 x1 && QG v2 x2 && QG v3 x3 && QG v4 x4)=true):∃ a b c d,v1 = .str x1 a∧v2 = .str x2 b∧v3 = .str x3 c∧v4 = .str x4 d:=by
 simp only [Bool.and_eq_true] at h
 obtain ⟨⟨⟨q1,q2⟩,q3⟩,q4⟩:=h
 obtain ⟨a,q1⟩:=YF q1
 obtain ⟨b,q2⟩:=YF q2
 obtain ⟨c,q3⟩:=YF q3
 obtain ⟨d,q4⟩:=YF q4
 exact ⟨a,b,c,d,q1,q2,q3,q4⟩
theorem VZ {e:DictEntry} {k v:Value} (h:e.key=k) (g:e.val=v):e=⟨e.hash,k,v⟩:=by rw [←h,←g]
theorem rdOf_eq {o:Obj} {T z:Nat} (h:Qc o=some (T,z)):∃ h1 h2 h3 h4 k1 k2 k3 k4 tz n s ep,o=rdO h1 h2 h3 h4 k1 k2 k3 k4 T z tz n s ep:=by
 refine iKL (P:=fun p=>∃ h1 h2 h3 h4 k1 k2 k3 k4 tz n s ep,o=rdO h1 h2 h3 h4 k1 k2 k3 k4 p.1 p.2 tz n s ep) (fun dt e=>iDl fun l ep e1=>iL4 fun a b c d e2=>iT fun qk=>iRf fun T q1=>Jg fun i ti q2=>iNat fun z q3=>iE ?_) _ h
 obtain ⟨k1,k2,k3,k4,r1,r2,r3,r4⟩:=key4 qk
 exact ⟨_,_,_,_,k1,k2,k3,k4,ti,c.val,d.val,ep,by rw [e,e1,e2,VZ r1 q1,VZ r2 (q2.trans (congrArg (Value.int · ti) q3)),VZ r3 rfl,VZ r4 rfl];rfl⟩
theorem rdE {o:Obj} {T z:Nat} {G:Prop} (h:Qc o=some (T,z)) (k:∀ h1 h2 h3 h4 k1 k2 k3 k4 tz n s ep,o=rdO h1 h2 h3 h4 k1 k2 k3 k4 T z tz n s ep→G):G:=by
 obtain ⟨h1,h2,h3,h4,k1,k2,k3,k4,tz,n,s,ep,e⟩:=rdOf_eq h
 exact k h1 h2 h3 h4 k1 k2 k3 k4 tz n s ep e
theorem QI {o:Obj} {D:Nat} (h:VD o=some D):o=rdI D:=ins_eq h
structure RdS where
 musts:List Prop:=[]
 res:Ora→Result
 mv:Option Nat:=none
 news:List ((Value×Nat)×(Ora→Addr)×(Ora→Obj)):=[]
 dq:Ora→List (Value×Value):=fun _=>[]
def rdHookSp (T:PySem.Addr) (R:PySem.Addr) (jD:Nat) (eR:Mine.En) (D:Nat) (eD:Mine.En) (T':Nat) (x:Mine.RdS) (z':Nat):vy:={idx:=[jD],us:=fun _=>{eqs:=[(R,eR.a),(D,eD.a),(T',T)],musts:=x.musts,res:=x.res,objs:=fun y=>[jC eD.o z' y.ob.slots.size],news:=x.news,dq:=x.dq}}
noncomputable def rdHookSp2 (T:PySem.Addr) (R:PySem.Addr) (eR:Mine.En) (D:Nat) (eD:Mine.En) (T':Nat) (x:Mine.RdS):vy:={us:=fun _=>{eqs:=[(R,eR.a),(D,eD.a),(T',T)],musts:=x.musts,res:=x.res,news:=x.news,dq:=x.dq}}
def vU (f:Addr) (lv:Nat) (T:Addr) (spec:List Value→Nat→List Nat→Option RdS):Hook:=yB 0 lv
 (fun c m hint=>oCa (.ref f) c fun args =>
  oC1 args fun self rest =>
  oRf self fun R =>
  oC2 hint fun jR jD hint =>
  oM m jR (VD) fun eR D =>
  oN m jD (Qc) fun eD T' z =>
  oS (spec rest z hint) fun x =>
  match x.mv with
   |some z'=>some (rdHookSp T R jD eR D eD T' x z')
   |none=>some (rdHookSp2 T R eR D eD T' x))
def ja (ts:List Tk) (p:Nat) (x:Str):Prop:=ts[p]?=some ⟨false,x⟩
def jw (ts:List Tk) (p:Nat) (k:Str):Prop:=∃ t,ts[p]?=some t∧t.kind=k
def YZ (t:Ora→Tk):List ((Value×Nat)×(Ora→Addr)×(Ora→Obj)):=[((.ref 164,0),fun y=>y.n,fun y=>tkI y.n2),((.type "dict",4),fun y=>y.n2,fun y=>tkO (t y) y)]
noncomputable def voc:List Tk:=[⟨false,"A"⟩,⟨true,"x"⟩,⟨false,"SPACE"⟩,⟨false,"B"⟩,⟨false,"OF"⟩,⟨false,"G"⟩,⟨false,"ALL"⟩,⟨false,"LEADING"⟩,⟨false,"FIRST"⟩,⟨false,"CHARACTERS"⟩,⟨false,"FOR"⟩,⟨false,"BY"⟩,⟨false,"BEFORE"⟩,⟨false,"AFTER"⟩,⟨false,"INITIAL"⟩,⟨false,"INSPECT"⟩,⟨false,"TALLYING"⟩,⟨false,"REPLACING"⟩,⟨false,"CONVERTING"⟩]
def peekSp (ts:List Tk) (p:Nat) (hint:List Nat):Option RdS:=oL1 hint fun k =>
 match k with
  |0=>some {musts:=[ts.length≤p],res:=fun _ => .ok (.ret .none)}
  |1=>some {musts:=[p < ts.length],res:=fun y => .ok (.ret (.ref y.n)),news:=YZ fun _=>(ts[p]?).getD default}
  |k+2=>match voc[k]? with
   |some t=>some {musts:=[ts[p]?=some t],res:=fun y => .ok (.ret (.ref y.n)),news:=YZ fun _=>t}
   |none=>none
noncomputable def Qp (rest:List Value):Option Nat:=match rest with
 |[]=>some 0
 |v::r=>match r with
  |[]=>match v with
   |.int i _=>match i with
    |.ofNat a=>some a
    |_=>none
   |_=>none
  |_=>none
def vB (gen:Bool) (T:Addr) (ts:List Tk):Hook:=vU 622 1 T
 (fun rest z hint=>oS (Qp rest) fun a =>
  peekSp ts (z+a) hint)
def bitSp (P:Prop) (hint:List Nat):Option RdS:=oL1 hint fun k =>
 match k with
  |0=>some {musts:=[¬ P],res:=fun _ => .ok (.ret (.bool false))}
  |_=>some {musts:=[P],res:=fun _ => .ok (.ret (.bool true))}
def vf (T:Addr) (ts:List Tk):Hook:=vU 651 2 T
 (fun rest z hint=>oC1 rest fun v r =>
  yp v fun k _ =>
  oS (Qp r) fun a =>
  bitSp (jw ts (z+a) k) hint)
def yG (h:Heap) (T:Addr) (ts:List Tk):Prop:=(ts.length≤100000∧∀ t∈ts,t.s.length≤1000)∧∃ as d ep sl,h.get? T=some (VU d (as.map Value.ref) ep sl)∧Je h as ts
def Apart (o:Obj):Prop:=(∀ d xs ep sl,o≠VU d xs ep sl)∧(∀ d,o≠tkI d)∧∀ t y,o≠tkO t y
def TokO (o:Obj):Prop:=(∃ d,o=tkI d)∨∃ t y,o=tkO t y
theorem Je.mono {h h':Heap} (k:∀ a o,h.get? a=some o→TokO o→h'.get? a=some o):∀ {as ts},Je h as ts→Je h' as ts
 |[],[],_=>trivial
 |a::as,t::ts,⟨⟨d,y,e1,e2⟩,q⟩=>⟨⟨d,y,k _ _ e1 (.inl ⟨d,rfl⟩),k _ _ e2 (.inr ⟨t,y,rfl⟩)⟩,q.mono k⟩
 |[],_::_,q=>q.elim
 |_::_,[],q=>q.elim
def yO (T:Addr) (h₀:Heap) (ws:List Addr):Prop:=∀ a∈ws,∃ o,h₀.get? a=some o∧(Apart o∨(a≠T∧∃ d xs ep sl,o=VU d xs ep sl))
theorem yG.old {h h':Heap} {T:Addr} {ts:List Tk} {ws:List Addr} (x:yG h T ts) (o:Old ws h h') (hw:yO T h ws):yG h' T ts:=by
 obtain ⟨l,as,d,ep,sl,e,q⟩:=x
 refine ⟨l,as,d,ep,sl,o.2 _ _ e fun hm=>?_,q.mono fun a ob g n=>o.2 a ob g fun hm=>?_⟩
 ·obtain ⟨o',e',p⟩:=hw T hm
  rw [e] at e'
  cases e'
  rcases p with p | p
  ·exact p.1 _ _ _ _ rfl
  ·exact p.1 rfl
 ·obtain ⟨o',e',p⟩:=hw a hm
  rw [g] at e'
  cases e'
  rcases n with ⟨d',rfl⟩ | ⟨t',y,rfl⟩ <;> rcases p with p | ⟨_,d',xs,ep',sl',p⟩
  ·exact p.2.1 _ rfl
  ·simp [tkI,VU] at p
  ·exact p.2.2 _ _ rfl
  ·simp [tkO,VU] at p
theorem kind_ne_tokens:("kind" : Str) ≠ "tokens":=by decide +kernel
theorem rdO_apart {h1 h2 h3 h4 k1 k2 k3 k4 T z tz n s ep}:Apart (rdO h1 h2 h3 h4 k1 k2 k3 k4 T z tz n s ep):=by
 refine ⟨fun d xs ep sl e=>?_,fun d e=>?_,fun t y e=>?_⟩
 ·simp [rdO] at e
 ·simp [rdO,tkI] at e
 ·simp only [rdO,tkO,Obj.mk.injEq,Data.dict.injEq,Array.mk.injEq,List.cons.injEq,DictEntry.mk.injEq,Value.str.injEq] at e
  exact kind_ne_tokens e.2.2.1.1.1.2.1.1.symm
theorem ji {T:Addr} {h:Heap}:yO T h []:=fun _ q=>nomatch q
theorem jf {h:Heap} {D:Addr} {o:Obj} {T T' z:Nat} (e:h.get? D=some o) (q:Qc o=some (T,z)):yO T' h [D]:=fun a ha=>by
 cases ha with
 |head =>
  refine rdE q fun h1 h2 h3 h4 k1 k2 k3 k4 tz n s ep ee=>?_
  subst ee
  exact ⟨_,e,.inl rdO_apart⟩
 |tail _ ha=>cases ha
structure jz (w:World) (h:Heap) (R D:Addr) (o:Obj) (T:Addr) (ts:List Tk) (z:Nat):Prop where
 st:St w h
 r:h.get? R=some (rdI D)
 d:h.get? D=some o
 o:Qc o=some (T,z)
 t:yG h T ts
def Vu (D:Addr) (o:Obj) (x:RdS):Result→Heap→Prop:=fun r h'=>∃ y,r=x.res y∧(∀ z',x.mv=some z'→h'.get? D=some (jC o z' y.ob.slots.size)) ∧
 (∀ p∈x.news,h'.get? (p.2.1 y)=some (p.2.2 y)∧VS (p.2.2 y)=p.1)∧(∀ p∈x.dq y,Dq h' p.1 p.2)
theorem Ys {o:Obj} {T z z' t:Nat} (q:Qc o=some (T,z)):VS (jC o z' t)=VS o:=by
 refine rdE q fun h1 h2 h3 h4 k1 k2 k3 k4 tz n s ep ee=>?_
 subst ee
 rfl
def RG (w:World) (h₀:Heap) (ws:List Addr) (f:Addr) (lv:Nat) (T:Addr) (ts:List Tk) (rest:List Value) (z:Nat) (x:RdS):Prop:=∀ h R D o,(∀ P∈x.musts,P)→jz w h R D o T ts z→(x.mv.isSome=true→(ktP w).get D=none)→Old ws h₀ h →
   jr w lv (.call (.ref f) ⟨.ref R::rest,[]⟩) h (match x.mv with | some _=>[D] | none=>[]) (Vu D o x)
theorem qJ {w:World} {lc:Nat} {hs:List Mine.Hook} {h₀:Heap} {ws:List Addr} {f:Addr} {lv:Nat} {T:Addr} {spec} {ts:List Tk}
  (H:∀ rest z hint,Inv (spec rest z hint) (RG w h₀ ws f lv T ts rest z)) (ht:yG h₀ T ts) (hw:yO T h₀ ws):(vU f lv T spec).Ok (cfg w lc hs) PW w h₀ ws:=by
 refine vn fun c m hint=>?_
 refine iCa fun args b1=>iC1 fun self rest b2=>iRf fun R b3=>iC2 fun jR jD hint b4=>iM fun eR D qR qi=>iN fun eD T' z qD qo=>iS fun x qs=>?_
 subst b1 b2 b3 b4
 intro sp hs h hm hi hst hk hdq hoff hold
 have hR:=QI qi
 split at hs
 ·rename_i z' qz
  cases hs
  have z0:=hm 0 (Nat.le_refl _)
  have e1:R=eR.a:=z0.1 (R,eR.a) (.head _)
  have e2:D=eD.a:=yM z0.1 1
  have e3:T'=T:=yM z0.1 2
  subst e1 e2 e3
  have hwD:=Jv hi qD
  have A:jz w h eR.a eD.a eD.o T' ts z:=⟨hst,hR ▸ hk eR (List.mem_of_getElem? qR),hk eD (List.mem_of_getElem? qD),qo,ht.old hold hw⟩
  have S:=H rest z hint x qs h eR.a eD.a eD.o z0.2 A (fun _=>hoff eD (List.mem_of_getElem? qD) hwD) hold
  rw [qz] at S
  refine jr.on (adC qD adN) S fun r h' _ p=>?_
  obtain ⟨y,p1,p2,p3,p4⟩:=p
  exact ⟨0,y,Nat.le_refl _,p1,trivial,⟨⟨eD,qD,p2 z' qz,Ys qo⟩,trivial⟩,p3,p4⟩
 ·rename_i qz
  cases hs
  have z0:=hm 0 (Nat.le_refl _)
  have e1:R=eR.a:=z0.1 (R,eR.a) (.head _)
  have e2:D=eD.a:=yM z0.1 1
  have e3:T'=T:=yM z0.1 2
  subst e1 e2 e3
  have A:jz w h eR.a eD.a eD.o T' ts z:=⟨hst,hR ▸ hk eR (List.mem_of_getElem? qR),hk eD (List.mem_of_getElem? qD),qo,ht.old hold hw⟩
  have S:=H rest z hint x qs h eR.a eD.a eD.o z0.2 A (fun q=>by rw [qz] at q;cases q) hold
  rw [qz] at S
  show jr w lv _ h [] _
  refine S.mono fun r h' _ p=>?_
  obtain ⟨y,p1,p2,p3,p4⟩:=p
  exact ⟨0,y,Nat.le_refl _,p1,trivial,trivial,p3,p4⟩
def tr_pk1 (b1 b2 b3:Bool):Tr:=T [0,1,1,1,1,0,1,2,0,0,0,0,2,0,0,0,2,2,0,3,1,0,0,0,1,2,0,0,0,0,2,0,0,0,2,2,0,3,2,1,3,1,1,1,1,2,0,0] (T [0,0,2,0,0,0,2,2,0,3,1,2,0,0,0,0,2,0,0,0,2,2,0,3,1,0,4,4,4,3,1,3,0] .nil)
def tr_pk0 (b1 b2 b3:Bool):Tr:=T [0,1,1,1,1,0,1,2,0,0,0,0,2,0,0,0,2,2,0,3,1,0,0,0,1,2,0,0,0,0,2,0,0,0,2,2,0,3,2,1,3,1,1,0] .nil
def tr_pd1 (b1 b2 b3:Bool):Tr:=T [0,1,1,1,1,0,1,2,0,0,0,0,2,0,0,0,2,2,0,3,1,0,0,0,1,2,0,0,0,0,2,0,0,0,2,2,0,3,2,1,3,1,1,1,1,2,0,0] (T [0,0,2,0,0,0,2,2,0,3,1,2,0,0,0,0,2,0,0,0,2,2,0,3,1,0,4,4,4,3,1,3,0] .nil)
def tr_pd0 (b1 b2 b3:Bool):Tr:=T [0,1,1,1,1,0,1,2,0,0,0,0,2,0,0,0,2,2,0,3,1,0,0,0,1,2,0,0,0,0,2,0,0,0,2,2,0,3,2,1,3,1,1,0] .nil
theorem ok622 (w:World):vH (ktP w) 622=true:=by kernel_rfl
section
variable {w:World} {b1 b2 b3:Bool} {lv:Nat} {hs:List Mine.Hook} {h₀:Heap} {ws:List Addr} {h:Heap} {R D T:Addr} {o:Obj} {ts:List Tk} {z a ta:Nat}
theorem hkPeek {w:World} {lv:Nat} {hs:List Mine.Hook} {h₀:Heap} {ws:List Addr}:∀ H∈[ltH,lenH,getH],H.Ok (cfg w lv hs) PW w h₀ ws:=hkc ltH_ok (hkc lenH_ok (hkc getH_ok hkn))
theorem JZ {h:Heap}:∀ {as ts},Je h as ts→as.length=ts.length
 |[],[],_=>rfl
 |a::as,t::ts,⟨_,q⟩=>by simp [JZ q]
 |[],_::_,q=>q.elim
 |_::_,[],q=>q.elim
theorem YY {h:Heap}:∀ {as ts},Je h as ts→∀ {p:Nat},p < ts.length→∃ a t,as[p]?=some a∧ts[p]?=some t∧TokAt h a t
 |a::as,t::ts,⟨e,q⟩,p,hp=>by
  cases p with
  |zero=>exact ⟨a,t,rfl,rfl,e⟩
  |succ p =>
   obtain ⟨a',t',h1,h2,h3⟩:=YY q (p:=p) (by simpa using hp)
   exact ⟨a',t',by simpa using h1,by simpa using h2,h3⟩
 |[],[],_,p,hp=>by simp at hp
 |[],_::_,q,_,_=>q.elim
 |_::_,[],q,_,_=>q.elim
def YS (ts:List Tk) (p:Nat):Result→Heap→Prop:=fun r h'=>∃ t a,ts[p]?=some t∧r = .ok (.ret (.ref a))∧TokAt h' a t
theorem peek1 (A:jz (jb w b1 b2 b3) h R D o T ts z) (hp:z+a < ts.length):jr (jb w b1 b2 b3) 1 (.call (.ref 622) ⟨[.ref R,.int (.ofNat a) ta],[]⟩) h [] (YS ts (z+a)):=by
 obtain ⟨hst,hR,hD,ho,⟨hl,hsm⟩,as,d,ep,sl,hT,hq⟩:=A
 refine rdE ho fun h1 h2 h3 h4 k1 k2 k3 k4 tz n s ep' ee=>?_
 subst ee
 have hlen:=JZ hq
 obtain ⟨a',t',e1,e2,e3⟩:=YY hq hp
 have e4:((as.map Value.ref)[((Int.ofNat z)+(Int.ofNat a)).toNat]?).getD .none = .ref a':=by
  show ((as.map Value.ref)[((z:Int)+(a:Int)).toNat]?).getD .none=_
  rw [show ((z:Int)+(a:Int)).toNat=z+a by omega,List.getElem?_map,e1];rfl
 refine je (hooks:=[ltH,lenH,getH]) hkPeek (fuel:=10000) (tr:=fun b1=>tr_pk1 b1 b2 b3) (ok622 _) (jl.ro hst (l:=[(R,_),(D,_),(T,_)]) ⟨hR,hD,hT,trivial⟩) fun n tk o bs _=>?_
 refine qX (v := .ref (refA (((as.map Value.ref)[((Int.ofNat z)+(Int.ofNat a)).toNat]?).getD .none))) (ps:=[(true,(as.map Value.ref).length≤100000),(true,((Int.ofNat z)+(Int.ofNat a)) < (((as.map Value.ref).length:Nat):Int)),(true,0≤((Int.ofNat z)+(Int.ofNat a))),(true,((Int.ofNat z)+(Int.ofNat a)) < (((as.map Value.ref).length:Nat):Int)),(true,(as.map Value.ref).length≤100000),(true,((as.map Value.ref)[((Int.ofNat z)+(Int.ofNat a)).toNat]?).getD .none = .ref (refA (((as.map Value.ref)[((Int.ofNat z)+(Int.ofNat a)).toNat]?).getD .none)))]) (by kernel_rfl) (by kernel_rfl)
  (fun _ c=>⟨?_,?_,?_,?_,?_,by rw [e4];rfl,c fun x m n tk hx h' D'=>?_⟩)
 ·rw [List.length_map];omega
 ·rw [List.length_map];show ((z:Int)+(a:Int)) < _;omega
 ·show 0≤((z:Int)+(a:Int));omega
 ·rw [List.length_map];show ((z:Int)+(a:Int)) < _;omega
 ·rw [List.length_map];omega
 ·have hx:=Qh hx
  rw [e4] at hx
  rw [hx]
  obtain ⟨d1,y1,g1,g2⟩:=e3
  exact ⟨t',a',e2,rfl,d1,y1,D'.old.get g1,D'.old.get g2⟩
theorem peek0 (A:jz (jb w b1 b2 b3) h R D o T ts z) (hp:ts.length≤z+a):jr (jb w b1 b2 b3) 1 (.call (.ref 622) ⟨[.ref R,.int (.ofNat a) ta],[]⟩) h [] (fun r _=>r = .ok (.ret .none)):=by
 obtain ⟨hst,hR,hD,ho,⟨hl,hsm⟩,as,d,ep,sl,hT,hq⟩:=A
 refine rdE ho fun h1 h2 h3 h4 k1 k2 k3 k4 tz n s ep' ee=>?_
 subst ee
 have hlen:=JZ hq
 refine je (hooks:=[ltH,lenH,getH]) hkPeek (fuel:=10000) (tr:=fun b1=>tr_pk0 b1 b2 b3) (ok622 _) (jl.ro hst (l:=[(R,_),(D,_),(T,_)]) ⟨hR,hD,hT,trivial⟩) fun n tk o bs _=>?_
 refine qX (v := .none) (ps:=[(true,(as.map Value.ref).length≤100000),(true,¬ ((Int.ofNat z)+(Int.ofNat a)) < (((as.map Value.ref).length:Nat):Int))]) (by kernel_rfl) (by kernel_rfl)
  (fun _ c=>⟨?_,?_,c fun x m n tk hx h' D'=>by rw [JS hx]⟩)
 ·rw [List.length_map];omega
 ·rw [List.length_map];show ¬ ((z:Int)+(a:Int)) < _;omega
theorem peekd1 (A:jz (jb w b1 b2 b3) h R D o T ts z) (hp:z < ts.length):jr (jb w b1 b2 b3) 1 (.call (.ref 622) ⟨[.ref R],[]⟩) h [] (YS ts z):=by
 obtain ⟨hst,hR,hD,ho,⟨hl,hsm⟩,as,d,ep,sl,hT,hq⟩:=A
 refine rdE ho fun h1 h2 h3 h4 k1 k2 k3 k4 tz n s ep' ee=>?_
 subst ee
 have hlen:=JZ hq
 obtain ⟨a',t',e1,e2,e3⟩:=YY hq hp
 have e4:((as.map Value.ref)[((Int.ofNat z)+(0:Int)).toNat]?).getD .none = .ref a':=by
  show ((as.map Value.ref)[((z:Int)+0).toNat]?).getD .none=_
  rw [show ((z:Int)+0).toNat=z by omega,List.getElem?_map,e1];rfl
 refine je (hooks:=[ltH,lenH,getH]) hkPeek (fuel:=10000) (tr:=fun b1=>tr_pd1 b1 b2 b3) (ok622 _) (jl.ro hst (l:=[(R,_),(D,_),(T,_)]) ⟨hR,hD,hT,trivial⟩) fun n tk o bs _=>?_
 refine qX (v := .ref (refA (((as.map Value.ref)[((Int.ofNat z)+(0:Int)).toNat]?).getD .none))) (ps:=[(true,(as.map Value.ref).length≤100000),(true,((Int.ofNat z)+(0:Int)) < (((as.map Value.ref).length:Nat):Int)),(true,0≤((Int.ofNat z)+(0:Int))),(true,((Int.ofNat z)+(0:Int)) < (((as.map Value.ref).length:Nat):Int)),(true,(as.map Value.ref).length≤100000),(true,((as.map Value.ref)[((Int.ofNat z)+(0:Int)).toNat]?).getD .none = .ref (refA (((as.map Value.ref)[((Int.ofNat z)+(0:Int)).toNat]?).getD .none)))]) (by kernel_rfl) (by kernel_rfl)
  (fun _ c=>⟨?_,?_,?_,?_,?_,by rw [e4];rfl,c fun x m n tk hx h' D'=>?_⟩)
 ·rw [List.length_map];omega
 ·rw [List.length_map];show ((z:Int)+0) < _;omega
 ·show 0≤((z:Int)+0);omega
 ·rw [List.length_map];show ((z:Int)+0) < _;omega
 ·rw [List.length_map];omega
 ·have hx:=Qh hx
  rw [e4] at hx
  rw [hx]
  obtain ⟨d1,y1,g1,g2⟩:=e3
  exact ⟨t',a',e2,rfl,d1,y1,D'.old.get g1,D'.old.get g2⟩
theorem peekd0 (A:jz (jb w b1 b2 b3) h R D o T ts z) (hp:ts.length≤z):jr (jb w b1 b2 b3) 1 (.call (.ref 622) ⟨[.ref R],[]⟩) h [] (fun r _=>r = .ok (.ret .none)):=by
 obtain ⟨hst,hR,hD,ho,⟨hl,hsm⟩,as,d,ep,sl,hT,hq⟩:=A
 refine rdE ho fun h1 h2 h3 h4 k1 k2 k3 k4 tz n s ep' ee=>?_
 subst ee
 have hlen:=JZ hq
 refine je (hooks:=[ltH,lenH,getH]) hkPeek (fuel:=10000) (tr:=fun b1=>tr_pd0 b1 b2 b3) (ok622 _) (jl.ro hst (l:=[(R,_),(D,_),(T,_)]) ⟨hR,hD,hT,trivial⟩) fun n tk o bs _=>?_
 refine qX (v := .none) (ps:=[(true,(as.map Value.ref).length≤100000),(true,¬ ((Int.ofNat z)+(0:Int)) < (((as.map Value.ref).length:Nat):Int))]) (by kernel_rfl) (by kernel_rfl)
  (fun _ c=>⟨?_,?_,c fun x m n tk hx h' D'=>by rw [JS hx]⟩)
 ·rw [List.length_map];omega
 ·rw [List.length_map];show ¬ ((z:Int)+0) < _;omega
theorem Jn {rest:List Value} {a:Nat} (h:Qp rest=some a):(rest=[]∧a=0)∨∃ t,rest=[.int (.ofNat a) t]:=by
 unfold Qp at h
 split at h
 ·cases h;exact .inl ⟨rfl,rfl⟩
 ·split at h
  ·split at h
   ·split at h
    ·cases h;exact .inr ⟨_,rfl⟩
    ·cases h
   ·cases h
  ·cases h
theorem peekN (A:jz (jb w b1 b2 b3) h R D o T ts z) {rest:List Value} (hr:Qp rest=some a) (hp:ts.length≤z+a):jr (jb w b1 b2 b3) 1 (.call (.ref 622) ⟨.ref R::rest,[]⟩) h [] (fun r _=>r = .ok (.ret .none)):=by
 rcases Jn hr with ⟨rfl,rfl⟩ | ⟨t,rfl⟩
 ·exact peekd0 A hp
 ·exact peek0 A hp
theorem peekS (A:jz (jb w b1 b2 b3) h R D o T ts z) {rest:List Value} (hr:Qp rest=some a) (hp:z+a < ts.length):jr (jb w b1 b2 b3) 1 (.call (.ref 622) ⟨.ref R::rest,[]⟩) h [] (YS ts (z+a)):=by
 rcases Jn hr with ⟨rfl,rfl⟩ | ⟨t,rfl⟩
 ·exact peekd1 A hp
 ·exact peek1 A hp
theorem tk_post {p:Nat} {t:Tk} {D:Addr} {o:Obj} {ms:List Prop} {r:Result} {h':Heap} (x:YS ts p r h') (e:ts[p]?=some t):Vu D o {musts:=ms,res:=fun y => .ok (.ret (.ref y.n)),news:=YZ fun _=>t} r h':=by
 obtain ⟨t',a,e',rfl,d,y,g1,g2⟩:=x
 rw [e] at e'
 cases e'
 refine ⟨{y with n:=a,n2:=d},rfl,fun _ q=>(nomatch q),fun p hp=>?_,fun _ hp=>(nomatch hp)⟩
 cases hp with
 |head=>exact ⟨g1,rfl⟩
 |tail _ hp =>
  cases hp with
  |head=>exact ⟨g2,rfl⟩
  |tail _ hp=>cases hp
theorem jK {gen:Bool} (ht:yG h₀ T ts) (hw:yO T h₀ ws):(vB gen T ts).Ok (cfg (jb w b1 b2 b3) lv hs) PW (jb w b1 b2 b3) h₀ ws:=by
 refine qJ (ts:=ts) (fun rest z hint=>?_) ht hw
 refine iS fun a ha=>iL1 fun k bz=>?_
 subst bz
 intro x hs h R D o hm A _ _
 split at hs
 ·cases hs
  have hp:=hm _ (.head _)
  exact (peekN A ha hp).mono fun r h' _ q=>⟨default,q,fun _ q=>(nomatch q),fun _ q=>(nomatch q),fun _ q=>(nomatch q)⟩
 ·cases hs
  have hp:z+a < ts.length:=hm _ (.head _)
  exact (peekS A ha hp).mono fun r h' _ q=>tk_post q (by rw [List.getElem?_eq_getElem hp];rfl)
 ·rename_i k
  split at hs
  ·rename_i t _
   cases hs
   have hp:=hm _ (.head _)
   exact (peekS A ha (List.getElem?_eq_some_iff.mp hp).1).mono fun r h' _ q=>tk_post q hp
  ·cases hs
end
def VT:Str:=strT 97
def yY (x:Str):Prop:=(PySem.Builtin.Str.occurrences VT (" "++x ++ " ") 0 VT.length 1).isEmpty=false
def qO (ts:List Tk) (p:Nat):Prop:=∃ t,ts[p]?=some t∧t.lit=false∧¬ yY t.s
def resvH:Hook:=vi (.ref 594) 2
 (fun args _ hint=>oL1 args fun a =>
  yp a fun s _ =>
  oL1 hint fun k =>
  match k with
   |0=>some {musts:=[s.length≤1000,¬ yY s],V:=fun _ => .bool false}
   |_=>some {musts:=[s.length≤1000,yY s],V:=fun _ => .bool true})
def Kp (T:Addr):Hook:=vU 716 3 T
 (fun rest _ hint=>oC1 rest fun v r =>
  yp v fun k _ =>
  oT (ym k "(" || ym k "+" || ym k "-") <|
  oS (Qp r) fun _ =>
  oL0 hint <|
  some {res:=fun _ => .ok (.ret (.bool false))})
def yd (T:Addr):Hook:=vU 737 4 T
 (fun rest _ hint=>oL0 rest <|
  oL0 hint <|
  some {res:=fun _ => .ok (.ret (.bool false))})
def vE (T:Addr) (ts:List Tk):Hook:=vU 694 4 T
 (fun rest z hint=>oL0 rest <|
  bitSp (qO ts z) hint)
def bitW (x:Str) (P:Prop) (hint:List Nat) (mv:Option Nat):Option RdS:=oL1 hint fun k=>match k with
  |0=>some {musts:=[jh x,¬ P],res:=fun _ => .ok (.ret (.bool false))}
  |_=>some {musts:=[jh x,P],res:=fun _ => .ok (.ret (.bool true)),mv}
def isWordH (T:Addr) (ts:List Tk):Hook:=vU 658 3 T
 (fun rest z hint=>oL1 rest fun v =>
  yp v fun x _ =>
  bitW x (ja ts z x) hint none)
def jo (T:Addr) (ts:List Tk):Hook:=vU 665 4 T
 (fun rest z hint=>oL1 rest fun v =>
  yp v fun x _ =>
  bitW x (ja ts z x) hint (some (z+1)))
def va (T:Addr) (ts:List Tk):Hook:=vU 672 5 T
 (fun rest z hint=>oL1 rest fun v =>
  yp v fun x _ =>
  oL0 hint <|
  some {musts:=[jh x,ja ts z x],res:=fun _ => .ok (.ret .none),mv:=some (z+1)})
def QP (T:Addr) (ts:List Tk):Hook:=vU 679 5 T
 (fun rest z hint=>oL1 rest fun v =>
  yp v fun x _ =>
  oT (ym x "OF IN") <|
  oL1 hint fun k =>
  match k with
   |0=>some {musts:=[¬ ja ts z "OF",¬ ja ts z "IN"],res:=fun y => .ok (.ret (.str "" y.n))}
   |_=>some {musts:=[ja ts z "OF"],res:=fun y => .ok (.ret (.str "OF" y.n)),mv:=some (z+1)})
def takeH (gen:Bool) (T:Addr) (ts:List Tk):Hook:=vU 643 2 T
 (fun rest z hint=>oL0 rest <|
  oL1 hint fun k =>
  match k with
   |0=>none
   |1=>some {musts:=[z < ts.length],res:=fun y => .ok (.ret (.ref y.n)),mv:=some (z+1),news:=YZ fun _=>(ts[z]?).getD default}
   |k+2=>match voc[k]? with
    |some t=>some {musts:=[ts[z]?=some t],res:=fun y => .ok (.ret (.ref y.n)),mv:=some (z+1),news:=YZ fun _=>t}
    |none=>none)
def YA (T:Addr) (ts:List Tk):Hook:=vU 701 5 T
 (fun rest z hint=>oL0 rest <|
  oL1 hint fun k =>
  oS voc[k]? fun t =>
  some {musts:=[ts[z]?=some t,t.lit=false,¬ yY t.s],res:=fun y => .ok (.ret (.str t.s y.n)),mv:=some (z+1)})
def Yx (T:Addr) (ts:List Tk):Hook:=vU 765 5 T
 (fun rest z hint=>oL0 rest <|
  oL0 hint <|
  some {musts:=[ts[z]?=some ⟨true,"x"⟩],res:=fun y => .ok (.ret (.bytes ⟨[120]⟩ y.n)),mv:=some (z+1)})
def qV (T:Addr) (ts:List Tk):Hook:=vU 482 2 T
 (fun rest z hint=>oL2 rest fun u v =>
  Jb u fun i _ =>
  oNat i fun a =>
  yp v fun x _ =>
  bitSp (ja ts (z+a) x) hint)
noncomputable def isFin:Out→Bool
 |.eqA _ _ r=>isFin r
 |.must _ r=>isFin r
 |.may _ r=>isFin r
 |.log _ r=>isFin r
 |.fin ..=>true
 |_=>false
noncomputable def endF {β:Type} (f:Result→List En→β):Out→Option β
 |.eqA _ _ r=>endF f r
 |.must _ r=>endF f r
 |.may _ r=>endF f r
 |.log _ r=>endF f r
 |.fin r m _ _=>some (f r m)
 |_=>none
theorem ye {X:Out} {F:Result→List En→Nat→Nat→Prop} {β:Type} (f g:Result→List En→β):∀ {ps:List (Bool×Prop)},(isFin X,QW X,vD X,endF f X)=(true,QV X,ps,endF g X)→Nest ps (∀ r m n tk,f r m=g r m→F r m n tk)→qU F X:=by
 intro ps e
 have e0:=congrArg (·.1) e
 have e1:=congrArg (·.2.1) e
 have e2:=congrArg (·.2.2.1) e
 have e3:=congrArg (·.2.2.2) e
 dsimp only at e0 e1 e2 e3
 clear e
 induction X generalizing ps with
 |stop=>cases e0
 |short=>cases e0
 |log _ r ih=>exact fun k=>ih e0 e1 e2 e3 k
 |eqA a b r ih =>
  simp only [QW,QV,List.cons.injEq] at e1
  exact fun k=>⟨e1.1,ih e0 e1.2 e2 e3 k⟩
 |must P r ih =>
  cases ps with
  |nil=>simp [vD] at e2
  |cons p l =>
   simp only [vD,List.cons.injEq] at e2
   obtain ⟨rfl,e2⟩:=e2
   exact fun k=>⟨k.1,ih e0 e1 e2 e3 k.2⟩
 |may P r ih =>
  cases ps with
  |nil=>simp [vD] at e2
  |cons p l =>
   simp only [vD,List.cons.injEq] at e2
   obtain ⟨rfl,e2⟩:=e2
   exact fun k p=>ih e0 e1 e2 e3 (k p)
 |fin r m n tk =>
  cases ps with
  |cons=>simp [vD] at e2
  |nil=>exact fun k=>k r m n tk (Option.some.inj e3)
abbrev CkF {α β:Type} (f g:Result→List En→β) (ps:List (Bool×Prop)) (X:α→Out) (a:α):Prop:=(isFin (X a),QW (X a),vD (X a),endF f (X a))=(true,QV (X a),ps,endF g (X a))
theorem jj {X:Bool→Out} {F:Result→List En→Nat→Nat→Prop} {β:Type} (f g:Result→List En→β) {ps:List (Bool×Prop)} (e0:CkF f g ps X false) (e1:CkF f g ps X true) (k:∀ P:Prop,((∀ r m n tk,f r m=g r m→F r m n tk)→P)→Nest ps P):∀ b,qU F (X b)
 |false=>ye f g e0 (k _ id)
 |true=>ye f g e1 (k _ id)
def vd:Result→KC
 |.ok f=>match f with
  |.ret v => .ret (bare v)
  |_ => .flow
 |.error e => .err e
def strip (o:Obj):Option Obj:=match Qc o with
 |some (_,z)=>some (jC o z 0)
 |none=>none
def vT (m:List En):Option (Addr×Option Obj):=match m.getLast? with
 |some e=>some (e.a,strip e.o)
 |none=>none
theorem strip_eq {o o':Obj} {T z z':Nat} (h:strip o'=some (jC o z' 0)) (q:Qc o=some (T,z)):∃ t,o'=jC o z' t:=by
 unfold strip at h
 split at h
 ·rename_i T' z'' q'
  have h:=Option.some.inj h
  refine rdE q fun h1 h2 h3 h4 k1 k2 k3 k4 tz n s ep ee=>?_
  subst ee
  refine rdE q' fun g1 g2 g3 g4 l1 l2 l3 l4 tz' n' s' ep' ee=>?_
  subst ee
  refine ⟨tz',?_⟩
  simp only [rdO,jC,Obj.mk.injEq,Data.dict.injEq,Array.mk.injEq,List.cons.injEq,DictEntry.mk.injEq,Value.str.injEq,Value.ref.injEq,Value.int.injEq,Int.ofNat.injEq,true_and,and_true] at h ⊢
  obtain ⟨⟨⟨a1,a2,a3⟩,⟨a4,a5,a6⟩,⟨a7,a8,a9⟩,a10,a11,a12⟩,a13⟩:=h
  refine ⟨⟨⟨a1,a2,a3⟩,⟨a4,a5,a6⟩,⟨a7,a8,a9⟩,a10,a11,a12⟩,a13⟩
 ·cases h
theorem jm {r:Result} {b:Bool} (h:vd r = .ret (.bool b)):r = .ok (.ret (.bool b)):=by
 unfold vd at h
 split at h
 ·split at h
  ·simp only [KC.ret.injEq] at h;rw [bare_bool h]
  ·cases h
 ·cases h
theorem endR_none {r:Result} (h:vd r = .ret .none):r = .ok (.ret .none):=by
 unfold vd at h
 split at h
 ·split at h
  ·simp only [KC.ret.injEq] at h;rw [JS h]
  ·cases h
 ·cases h
theorem endR_str {r:Result} {s:Str} (h:vd r = .ret (.str s 0)):∃ t,r = .ok (.ret (.str s t)):=by
 unfold vd at h
 split at h
 ·split at h
  ·simp only [KC.ret.injEq] at h
   obtain ⟨t,rfl⟩:=bare_str h
   exact ⟨t,rfl⟩
  ·cases h
 ·cases h
theorem bare_bytes {x:Value} {s:Array UInt8} (h:bare x = .bytes s 0):∃ t,x = .bytes s t:=by
 cases x <;> simp [bare] at h
 subst h
 exact ⟨_,rfl⟩
theorem endR_bytes {r:Result} {s:Array UInt8} (h:vd r = .ret (.bytes s 0)):∃ t,r = .ok (.ret (.bytes s t)):=by
 unfold vd at h
 split at h
 ·split at h
  ·simp only [KC.ret.injEq] at h
   obtain ⟨t,rfl⟩:=bare_bytes h
   exact ⟨t,rfl⟩
  ·cases h
 ·cases h
def rdMem (R D:Addr) (o:Obj):List En:=[⟨R,rdI D,false,[]⟩,⟨D,o,true,[]⟩]
theorem jz.shown {w:World} {h:Heap} {R D:Addr} {o:Obj} {T:Addr} {ts:List Tk} {z:Nat} (A:jz w h R D o T ts z) (off:(ktP w).get D=none):jl w [D] (rdMem R D o) h:=by
 have ne:R≠D:=fun e=>by
  have:=A.r
  rw [e,A.d] at this
  refine rdE A.o fun h1 h2 h3 h4 k1 k2 k3 k4 tz n s ep ee=>?_
  subst ee
  simp [rdO,rdI] at this
 exact ((jl.nil A.st).w A.d off (.head _) trivial).r A.r ⟨fun _=>ne,trivial⟩
theorem ya {C:Cfg} {h₀ h':Heap} {ws:List Addr} {m:List En} {n:Nat} {D:Addr} {o:Obj} {T z z':Nat} (hR:Rp C h₀ ws m n h') (q:Qc o=some (T,z)) (e:vT m=some (D,some (jC o z' 0))):∃ t,h'.get? D=some (jC o z' t):=by
 unfold vT at e
 split at e
 ·rename_i x hx
  simp only [Option.some.injEq,Prod.mk.injEq] at e
  obtain ⟨t,ht⟩:=strip_eq e.2 q
  have:=hR.known x (List.mem_of_getLast? hx)
  rw [e.1,ht] at this
  exact ⟨t,this⟩
 ·cases e
def tr_kan (b1 b2 b3:Bool):Tr:=T [0,1,1,1,1,1,1,0,1,2,0,0,0,2,0,0,0,2,0,0,0,0,2,3,1,0,1,3,1,2,0,1,1,1] .nil
def tr_kdn (b1 b2 b3:Bool):Tr:=T [0,1,1,1,1,1,1,0,1,2,0,0,0,2,0,0,0,2,0,0,0,0,2,3,1,0,1,3,1,2,0,1,1,1] .nil
def tr_kay (b1 b2 b3:Bool):Tr:=T [0,1,1,1,1,1,1,0,1,2,0,0,0,2,0,0,0,2,0,0,0,0,2,3,1,0,1,3,1,2,1,3,3,3,3,1,0,0,0,0,1,0,0,0,1,1,0,2,3,2,1,0] .nil
def tr_kdy (b1 b2 b3:Bool):Tr:=T [0,1,1,1,1,1,1,0,1,2,0,0,0,2,0,0,0,2,0,0,0,0,2,3,1,0,1,3,1,2,1,3,3,3,3,1,0,0,0,0,1,0,0,0,1,1,0,2,3,2,1,0] .nil
def tr_kaw (b1 b2 b3:Bool):Tr:=T [0,1,1,1,1,1,1,0,1,2,0,0,0,2,0,0,0,2,0,0,0,0,2,3,1,0,1,3,1,2,1,3,3,3,3,1,0,0,0,0,1,0,0,0,1,1,0,2,3,2,1,1] .nil
def tr_kdw (b1 b2 b3:Bool):Tr:=T [0,1,1,1,1,1,1,0,1,2,0,0,0,2,0,0,0,2,0,0,0,0,2,3,1,0,1,3,1,2,1,3,3,3,3,1,0,0,0,0,1,0,0,0,1,1,0,2,3,2,1,1] .nil
def tr_sga (b1 b2 b3:Bool):Tr:=T [0,1,1,1,1,1,1,0,1,2,0,0,0,2,0,0,0,2,0,0,0,0,2,3,1,0,1,3,1,2,0] .nil
def tr_sgd (b1 b2 b3:Bool):Tr:=T [0,1,1,1,1,1,1,0,1,2,0,0,0,2,0,0,0,2,0,0,0,0,2,3,1,0,1,3,1,2,0] .nil
def tr_num (b1 b2 b3:Bool):Tr:=T [1,1,0,1,2,0,0,0,2,0,0,0,2,0,0,0,0,2,3,0,1,2,1,2,1,2,0,0,0,2,0,0,0,2,0,0,0,0,2,3,0,1,2,1,2,1,2,0] (T [0,0,2,0,0,0,2,0,0,0,0,2,3,0,2,3,1,2,0] .nil)
def tr_rs0 (b1 b2 b3:Bool):Tr:=T [1,1,0,1,1,0,1,0,0,2,1,0] .nil
def tr_rs1 (b1 b2 b3:Bool):Tr:=T [1,1,0,1,1,0,1,0,0,2,1,1] .nil
def tr_nmn (b1 b2 b3:Bool):Tr:=T [0,1,1,1,1,0,1,2,0,0,0,2,0,0,0,2,0,0,0,0,2,3,1,0,1,3,1,2,0] .nil
def tr_nmr (b1 b2 b3:Bool):Tr:=T [0,1,1,1,1,0,1,2,0,0,0,2,0,0,0,2,0,0,0,0,2,3,1,0,1,3,1,2,1,0,1,2,0,0,0,2,0,0,0,2,0,0,0,0,2,3,1,0] (T [2,3,1,2,1,1,0,0,0,0,1,0,0,0,1,1,0,2,0,0,3,1,1] .nil)
def tr_nmy (b1 b2 b3:Bool):Tr:=T [0,1,1,1,1,0,1,2,0,0,0,2,0,0,0,2,0,0,0,0,2,3,1,0,1,3,1,2,1,0,1,2,0,0,0,2,0,0,0,2,0,0,0,0,2,3,1,0] (T [2,3,1,2,1,1,0,0,0,0,1,0,0,0,1,1,0,2,0,0,3,1,0] .nil)
def tr_iwk (b1 b2 b3:Bool):Tr:=T [1,1,1,1,0,1,1,1,1,0,1,1,0,1,1,0,1,0,1,1,1,2,1,1,3,3,3,4,0,0,0,4,0,0,0,4,0,0,0,0,4,5,3,0,2,3,3,4,0] .nil
def tr_iww (b1 b2 b3:Bool):Tr:=T [1,1,1,1,0,1,1,1,1,0,1,1,0,1,1,0,1,0,1,1,1,2,1,1,3,3,3,4,0,0,0,4,0,0,0,4,0,0,0,0,4,5,3,0,2,3,3,4] (T [1,3,4,0,0,0,4,0,0,0,4,0,0,0,0,4,5,3,0,3,3,3,4,1,1,0,0,0,0,1,0,0,0,1,1,0,2,0,5,4,1,1] .nil)
def tr_iwy (b1 b2 b3:Bool):Tr:=T [1,1,1,1,0,1,1,1,1,0,1,1,0,1,1,0,1,0,1,1,1,2,1,1,3,3,3,4,0,0,0,4,0,0,0,4,0,0,0,0,4,5,3,0,2,3,3,4] (T [1,3,4,0,0,0,4,0,0,0,4,0,0,0,0,4,5,3,0,3,3,3,4,1,1,0,0,0,0,1,0,0,0,1,1,0,2,0,5,4,1,0,5,0,5,5,0,3] (T [0,3,3,3,4,3,3,1] .nil))
def tr_skn (b1 b2 b3:Bool):Tr:=T [1,1,1,1,0,1,2,0,0,0,2,0,0,0,2,0,0,0,0,2,3,1,0,1,3,1,2,0] .nil
def tr_sky (b1 b2 b3:Bool):Tr:=T [1,1,1,1,0,1,2,0,0,0,2,0,0,0,2,0,0,0,0,2,3,1,0,1,3,1,2,1,1,2,0,0,0,0,2,0,0,0,2,2,0,3,0,0,1,2,0,3] (T [1,0,0,2,3,0,0,0,0,3,0,3,0,3,0,0,0,3,0,4,4,4] .nil)
def tr_need (b1 b2 b3:Bool):Tr:=T [1,1,1,1,0,1,2,0,0,0,2,0,0,0,2,0,0,0,0,2,3,1,0,1,3,1,2,1] .nil
def tr_ofn (b1 b2 b3:Bool):Tr:=T [1,1,1,1,0,1,0,1,1,0,1,1,0,1,0,1,1,1,2,1,1,3,3,3,4,0,0,0,4,0,0,0,4,0,0,0,0,4,5,3,0,1,3,3,4,0,0,1] (T [0,1,1,1,2,1,1,3,3,3,4,0,0,0,4,0,0,0,4,0,0,0,0,4,5,3,0,1,3,3,4,0,0,1,0,1,1,1,2,1,1,1] .nil)
def tr_ofy (b1 b2 b3:Bool):Tr:=T [1,1,1,1,0,1,0,1,1,0,1,1,0,1,0,1,1,1,2,1,1,3,3,3,4,0,0,0,4,0,0,0,4,0,0,0,0,4,5,3,0,1,3,3,4,1,3] .nil
def tr_take (b1 b2 b3:Bool):Tr:=T [1,1,0,1,2,0,0,0,2,0,0,0,2,0,0,0,0,2,3,0,1,3,1,2,1,3,3,3,3,4,0,0,0,0,4,0,0,0,4,4,0,5,0,3,4,0,0,0] (T [0,4,0,4,0,4,0,0,0,4,0,5,5,5,3] .nil)
def tr_name (b1 b2 b3:Bool):Tr:=T [1,1,0,1,2,0,0,0,2,0,0,0,2,0,0,0,0,2,3,0,1,3,1,2,1,1,2,0,0,0,2,0,0,0,2,0,0,0,0,2,3,0,2,3,1,2,1,1] (T [0,0,0,0,1,0,0,0,1,1,0,2,0] .nil)
def tr_oct (b1 b2 b3:Bool):Tr:=(match b2 with | true=>T [1,1,0,1,2,0,0,0,2,0,0,0,2,0,0,0,0,2,3,0,1,3,1,2,1,0,1,2,0,0,0,2,0,0,0,2,0,0,0,0,2,3,0,2,3,1,2,3] (T [1,0,0,0,0,1,0,0,0,1,1,0,2,0,0,0,1,1,0,1,0,1,0,0,3,0,3,3,3,3,3,1,1,0,0,1,0,0,2,2,2,2,0,3,0,3,3,3] (T [3,3,1,6,6,3,3,3,6,4,4,0,4,1,0,0,3,0,3,3,3,7,3,3,1,1,1,0,0,0,3,0,3,3,3,7,3,3,1,3,3,3,4,4,0,4,0,4] (T [4,0,0,11,0,0,9,9,9,9,9,9,9,0,9,1,10,10,2,0,2,2,2,11,2,2,1,1,1,2,0,2,2,2,11,2,2,1,3,0,18,18,18,18,19,0,0,0] (T [0,19,0,0,0,19,19,0,20,0,18,19,0,0,0,0,19,0,19,0,19,0,0,0,19,0,20,20,20,18] .nil)))) | false=>T [1,1,0,1,2,0,0,0,2,0,0,0,2,0,0,0,0,2,3,0,1,3,1,2,1,0,1,2,0,0,0,2,0,0,0,2,0,0,0,0,2,3,0,2,3,1,2,3] (T [1,0,0,0,0,1,0,0,0,1,1,0,2,0,0,0,1,1,0,1,0,1,0,3,3,0,3,3,0,3,0,3,3,3,3,3,1,1,0,0,1,0,0,2,2,2,2,0] (T [3,0,3,3,3,3,3,1,6,6,3,3,3,6,4,4,0,4,1,0,3,3,0,3,3,0,3,0,3,3,3,7,3,3,1,1,1,0,0,0,3,0,3,3,3,7,3,3] (T [1,3,3,3,4,4,0,4,0,4,4,0,0,11,0,0,9,9,9,9,9,9,9,0,9,1,10,10,2,0,2,2,2,11,2,2,1,1,1,2,0,2,2,2,11,2,2,1] (T [3,0,18,18,18,18,19,0,0,0,0,19,0,0,0,19,19,0,20,0,18,19,0,0,0,0,19,0,19,0,19,0,0,0,19,0,20,20,20,18] .nil)))))
def tr_wan (b1 b2 b3:Bool):Tr:=T [1,1,1,1,1,1,0,1,2,0,0,0,2,0,0,0,2,0,0,0,0,2,3,1,0,1,3,1,2,0,1,1,1] .nil
def tr_wak (b1 b2 b3:Bool):Tr:=T [1,1,1,1,1,1,0,1,2,0,0,0,2,0,0,0,2,0,0,0,0,2,3,1,0,1,3,1,2,1,3,3,3,3,1,0,0,0,0,1,0,0,0,1,1,0,2,2,1,1] .nil
def tr_waw (b1 b2 b3:Bool):Tr:=T [1,1,1,1,1,1,0,1,2,0,0,0,2,0,0,0,2,0,0,0,0,2,3,1,0,1,3,1,2,1,3,3,3,3,1,0,0,0,0,1,0,0,0,1,1,0,2,2] (T [1,0,3,1,0,0,0,0,1,0,0,0,1,1,0,2,3,2,1,1] .nil)
def tr_way (b1 b2 b3:Bool):Tr:=T [1,1,1,1,1,1,0,1,2,0,0,0,2,0,0,0,2,0,0,0,0,2,3,1,0,1,3,1,2,1,3,3,3,3,1,0,0,0,0,1,0,0,0,1,1,0,2,2] (T [1,0,3,1,0,0,0,0,1,0,0,0,1,1,0,2,3,2,1,0] .nil)
theorem ok651 (w:World):vH (ktP w) 651=true:=by kernel_rfl
theorem ok716 (w:World):vH (ktP w) 716=true:=by kernel_rfl
theorem ok737 (w:World):vH (ktP w) 737=true:=by kernel_rfl
theorem ok594 (w:World):vH (ktP w) 594=true:=by kernel_rfl
theorem ok694 (w:World):vH (ktP w) 694=true:=by kernel_rfl
theorem ok658 (w:World):vH (ktP w) 658=true:=by kernel_rfl
theorem ok665 (w:World):vH (ktP w) 665=true:=by kernel_rfl
theorem ok672 (w:World):vH (ktP w) 672=true:=by kernel_rfl
theorem ok679 (w:World):vH (ktP w) 679=true:=by kernel_rfl
theorem ok643 (w:World):vH (ktP w) 643=true:=by kernel_rfl
theorem ok701 (w:World):vH (ktP w) 701=true:=by kernel_rfl
theorem ok765 (w:World):vH (ktP w) 765=true:=by kernel_rfl
theorem ok482 (w:World):vH (ktP w) 482=true:=by kernel_rfl
section
variable {w:World} {b1 b2 b3:Bool} {lv:Nat} {hs:List Mine.Hook} {h₀:Heap} {ws:List Addr} {h:Heap} {R D T:Addr} {o:Obj} {ts:List Tk} {z a ta:Nat} {x k:Str} {tx:Nat}
abbrev jJ (v:Value):Result→Heap→Prop:=fun r _=>r = .ok (.ret v)
abbrev Moves (D:Addr) (o:Obj) (z:Nat) (P:Result→Prop):Result→Heap→Prop:=fun r h'=>P r∧∃ t,h'.get? D=some (jC o z t)
theorem tk_kind (t:Tk):t.kind = "literal"∨t.kind = "word":=by cases t with | mk l s=>cases l;exact .inr rfl;exact .inl rfl
theorem noKind {k:Str} (h1:("literal" : Str)≠k) (h2:("word" : Str)≠k) (p:Nat):¬ jw ts p k:=by
 rintro ⟨t,_,e⟩
 rcases tk_kind t with q | q
 ·exact h1 (q ▸ e)
 ·exact h2 (q ▸ e)
theorem YJ {p:Nat} {t:Tk} (h:ts[p]?=some t):(ts[p]?).getD default=t:=by rw [h];rfl
theorem QE {p:Nat} {t:Tk} (h:ts[p]?=some t):p < ts.length:=(List.getElem?_eq_some_iff.mp h).1
theorem kind_na (A:jz (jb w b1 b2 b3) h R D o T ts z) (hp:ts.length≤z+a):jr (jb w b1 b2 b3) 2 (.call (.ref 651) ⟨[.ref R,.str k tx,.int (.ofNat a) ta],[]⟩) h [] (jJ (.bool false)):=by
 refine rdE A.o fun h1 h2 h3 h4 k1 k2 k3 k4 tz n0 s0 ep' e0=>?_
 subst e0
 refine je (hooks:=[vB true T ts,eqH]) (hkc (jK A.t ji) (hkc vM hkn)) (fuel:=10000) (tr:=fun b1=>tr_kan b1 b2 b3) (ok651 _) (jl.ro A.st (l:=[(R,_),(D,_)]) ⟨A.r,A.d,trivial⟩) fun n tk os bs _=>?_
 exact jj (fun r _=>vd r) (fun _ _ => .ret (.bool false)) (ps:=[(true,ts.length≤z+a),yt]) (by kernel_rfl) (by kernel_rfl) (fun _ c=>⟨hp,(sk <| (c fun r m n tk e h' D'=>jm e))⟩)
theorem kind_ya (A:jz (jb w b1 b2 b3) h R D o T ts z) (hp:z+a < ts.length) (hk:((ts[z+a]?).getD default).kind=k):jr (jb w b1 b2 b3) 2 (.call (.ref 651) ⟨[.ref R,.str k tx,.int (.ofNat a) ta],[]⟩) h [] (jJ (.bool true)):=by
 refine rdE A.o fun h1 h2 h3 h4 k1 k2 k3 k4 tz n0 s0 ep' e0=>?_
 subst e0
 refine je (hooks:=[vB true T ts,eqH]) (hkc (jK A.t ji) (hkc vM hkn)) (fuel:=10000) (tr:=fun b1=>tr_kay b1 b2 b3) (ok651 _) (jl.ro A.st (l:=[(R,_),(D,_)]) ⟨A.r,A.d,trivial⟩) fun n tk os bs _=>?_
 exact jj (fun r _=>vd r) (fun _ _ => .ret (.bool true)) (ps:=[(true,z+a < ts.length),yt,(true,((ts[z+a]?).getD default).kind=k)]) (by kernel_rfl) (by kernel_rfl) (fun _ c=>⟨hp,(sk <| ⟨hk,(c fun r m n tk e h' D'=>jm e)⟩)⟩)
theorem kind_wa (A:jz (jb w b1 b2 b3) h R D o T ts z) (hp:z+a < ts.length) (hk:((ts[z+a]?).getD default).kind≠k):jr (jb w b1 b2 b3) 2 (.call (.ref 651) ⟨[.ref R,.str k tx,.int (.ofNat a) ta],[]⟩) h [] (jJ (.bool false)):=by
 refine rdE A.o fun h1 h2 h3 h4 k1 k2 k3 k4 tz n0 s0 ep' e0=>?_
 subst e0
 refine je (hooks:=[vB true T ts,eqH]) (hkc (jK A.t ji) (hkc vM hkn)) (fuel:=10000) (tr:=fun b1=>tr_kaw b1 b2 b3) (ok651 _) (jl.ro A.st (l:=[(R,_),(D,_)]) ⟨A.r,A.d,trivial⟩) fun n tk os bs _=>?_
 exact jj (fun r _=>vd r) (fun _ _ => .ret (.bool false)) (ps:=[(true,z+a < ts.length),yt,(true,((ts[z+a]?).getD default).kind≠k)]) (by kernel_rfl) (by kernel_rfl) (fun _ c=>⟨hp,(sk <| ⟨hk,(c fun r m n tk e h' D'=>jm e)⟩)⟩)
theorem kind_nd (A:jz (jb w b1 b2 b3) h R D o T ts z) (hp:ts.length≤z):jr (jb w b1 b2 b3) 2 (.call (.ref 651) ⟨[.ref R,.str k tx],[]⟩) h [] (jJ (.bool false)):=by
 refine rdE A.o fun h1 h2 h3 h4 k1 k2 k3 k4 tz n0 s0 ep' e0=>?_
 subst e0
 refine je (hooks:=[vB true T ts,eqH]) (hkc (jK A.t ji) (hkc vM hkn)) (fuel:=10000) (tr:=fun b1=>tr_kdn b1 b2 b3) (ok651 _) (jl.ro A.st (l:=[(R,_),(D,_)]) ⟨A.r,A.d,trivial⟩) fun n tk os bs _=>?_
 exact jj (fun r _=>vd r) (fun _ _ => .ret (.bool false)) (ps:=[(true,ts.length≤z),yt]) (by kernel_rfl) (by kernel_rfl) (fun _ c=>⟨hp,(sk <| (c fun r m n tk e h' D'=>jm e))⟩)
theorem kind_yd (A:jz (jb w b1 b2 b3) h R D o T ts z) (hp:z < ts.length) (hk:((ts[z]?).getD default).kind=k):jr (jb w b1 b2 b3) 2 (.call (.ref 651) ⟨[.ref R,.str k tx],[]⟩) h [] (jJ (.bool true)):=by
 refine rdE A.o fun h1 h2 h3 h4 k1 k2 k3 k4 tz n0 s0 ep' e0=>?_
 subst e0
 refine je (hooks:=[vB true T ts,eqH]) (hkc (jK A.t ji) (hkc vM hkn)) (fuel:=10000) (tr:=fun b1=>tr_kdy b1 b2 b3) (ok651 _) (jl.ro A.st (l:=[(R,_),(D,_)]) ⟨A.r,A.d,trivial⟩) fun n tk os bs _=>?_
 exact jj (fun r _=>vd r) (fun _ _ => .ret (.bool true)) (ps:=[(true,z < ts.length),yt,(true,((ts[z]?).getD default).kind=k)]) (by kernel_rfl) (by kernel_rfl) (fun _ c=>⟨hp,(sk <| ⟨hk,(c fun r m n tk e h' D'=>jm e)⟩)⟩)
theorem kind_wd (A:jz (jb w b1 b2 b3) h R D o T ts z) (hp:z < ts.length) (hk:((ts[z]?).getD default).kind≠k):jr (jb w b1 b2 b3) 2 (.call (.ref 651) ⟨[.ref R,.str k tx],[]⟩) h [] (jJ (.bool false)):=by
 refine rdE A.o fun h1 h2 h3 h4 k1 k2 k3 k4 tz n0 s0 ep' e0=>?_
 subst e0
 refine je (hooks:=[vB true T ts,eqH]) (hkc (jK A.t ji) (hkc vM hkn)) (fuel:=10000) (tr:=fun b1=>tr_kdw b1 b2 b3) (ok651 _) (jl.ro A.st (l:=[(R,_),(D,_)]) ⟨A.r,A.d,trivial⟩) fun n tk os bs _=>?_
 exact jj (fun r _=>vd r) (fun _ _ => .ret (.bool false)) (ps:=[(true,z < ts.length),yt,(true,((ts[z]?).getD default).kind≠k)]) (by kernel_rfl) (by kernel_rfl) (fun _ c=>⟨hp,(sk <| ⟨hk,(c fun r m n tk e h' D'=>jm e)⟩)⟩)
theorem kindOk (A:jz (jb w b1 b2 b3) h R D o T ts z) {r:List Value} (hr:Qp r=some a) {b:Bool} (hb:b=true↔jw ts (z+a) k):jr (jb w b1 b2 b3) 2 (.call (.ref 651) ⟨.ref R :: .str k tx::r,[]⟩) h [] (jJ (.bool b)):=by
 by_cases hp:z+a < ts.length
 ·have e:jw ts (z+a) k↔((ts[z+a]?).getD default).kind=k:=by
   rw [List.getElem?_eq_getElem hp]
   exact ⟨fun ⟨t,q,r⟩=>by rw [List.getElem?_eq_getElem hp] at q;cases q;exact r,fun q=>⟨_,List.getElem?_eq_getElem hp,q⟩⟩
  by_cases hk:((ts[z+a]?).getD default).kind=k
  ·obtain rfl:b=true:=hb.mpr (e.mpr hk)
   rcases Jn hr with ⟨rfl,rfl⟩ | ⟨t,rfl⟩
   ·exact kind_yd A hp hk
   ·exact kind_ya A hp hk
  ·obtain rfl:b=false:=by cases b with | false=>rfl | true=>exact absurd (e.mp (hb.mp rfl)) hk
   rcases Jn hr with ⟨rfl,rfl⟩ | ⟨t,rfl⟩
   ·exact kind_wd A hp hk
   ·exact kind_wa A hp hk
 ·obtain rfl:b=false:=by
   cases b with
   |false=>rfl
   |true =>
    obtain ⟨t,q,_⟩:=hb.mp rfl
    exact absurd (QE q) hp
  rcases Jn hr with ⟨rfl,rfl⟩ | ⟨t,rfl⟩
  ·exact kind_nd A (by omega)
  ·exact kind_na A (by omega)
theorem vx {D:Addr} {o:Obj} {ms:List Prop} {b:Bool} {r:Result} {h':Heap} (q:r = .ok (.ret (.bool b))):Vu D o {musts:=ms,res:=fun _ => .ok (.ret (.bool b))} r h' :=
 ⟨default,q,fun _ q=>(nomatch q),fun _ q=>(nomatch q),fun _ q=>(nomatch q)⟩
theorem val_post {D:Addr} {o:Obj} {ms:List Prop} {res:Ora→Result} {r:Result} {h':Heap} {y:Ora} (q:r=res y):Vu D o {musts:=ms,res} r h' :=
 ⟨y,q,fun _ q=>(nomatch q),fun _ q=>(nomatch q),fun _ q=>(nomatch q)⟩
noncomputable def oraT (y:Ora) (t:Nat):Ora:={y with ob:=⟨.none,none,.plain,⟨List.replicate t none⟩⟩}
theorem QA (y:Ora) (t:Nat):(oraT y t).ob.slots.size=t:=by simp [oraT]
theorem VC {D:Addr} {o:Obj} {ms:List Prop} {res:Ora→Result} {r:Result} {h':Heap} {z' t:Nat} (y:Ora) (hy:∀ t,res (oraT y t)=res y) (q:r=res y) (e:h'.get? D=some (jC o z' t)):Vu D o {musts:=ms,res,mv:=some z'} r h' :=
 ⟨oraT y t,q.trans (hy t).symm,fun _ q=>by cases q;rw [QA];exact e,fun _ q=>(nomatch q),fun _ q=>(nomatch q)⟩
theorem jO (ht:yG h₀ T ts) (hw:yO T h₀ ws):(vf T ts).Ok (cfg (jb w b1 b2 b3) lv hs) PW (jb w b1 b2 b3) h₀ ws:=by
 refine qJ (ts:=ts) (fun rest z hint=>?_) ht hw
 refine iC1 fun _ _ b1=>yl fun _ _ b2=>iS fun _ ha=>iL1 fun _ bz=>?_
 subst b1 b2 bz
 intro x hs h R D o hm A _ _
 split at hs
 ·cases hs
  exact (kindOk A ha (b:=false) ⟨fun q=>(nomatch q),fun q=>absurd q (hm _ (.head _))⟩).mono fun r h' _ q=>vx q
 ·cases hs
  exact (kindOk A ha (b:=true) ⟨fun _=>hm _ (.head _),fun _=>rfl⟩).mono fun r h' _ q=>vx q
theorem sign_a (A:jz (jb w b1 b2 b3) h R D o T ts z) : jr (jb w b1 b2 b3) 3 (.call (.ref 716) ⟨[.ref R,.str k tx,.int (.ofNat a) ta],[]⟩) h [] (jJ (.bool false)):=by
 refine rdE A.o fun h1 h2 h3 h4 k1 k2 k3 k4 tz n0 s0 ep' e0=>?_
 subst e0
 refine je (hooks:=[vf T ts,vB true T ts]) (hkc (jO A.t ji) (hkc (jK A.t ji) hkn)) (fuel:=10000) (tr:=fun b1=>tr_sga b1 b2 b3) (ok716 _) (jl.ro A.st (l:=[(R,_),(D,_)]) ⟨A.r,A.d,trivial⟩) fun n tk os bs _=>?_
 exact jj (fun r _=>vd r) (fun _ _ => .ret (.bool false)) (ps:=[(true,¬ jw ts (z+a) "sign"),yt]) (by kernel_rfl) (by kernel_rfl) (fun _ c=>⟨(noKind (by decide +kernel) (by decide +kernel) _),(sk <| (c fun r m n tk e h' D'=>jm e))⟩)
theorem sign_d (A:jz (jb w b1 b2 b3) h R D o T ts z) : jr (jb w b1 b2 b3) 3 (.call (.ref 716) ⟨[.ref R,.str k tx],[]⟩) h [] (jJ (.bool false)):=by
 refine rdE A.o fun h1 h2 h3 h4 k1 k2 k3 k4 tz n0 s0 ep' e0=>?_
 subst e0
 refine je (hooks:=[vf T ts,vB true T ts]) (hkc (jO A.t ji) (hkc (jK A.t ji) hkn)) (fuel:=10000) (tr:=fun b1=>tr_sgd b1 b2 b3) (ok716 _) (jl.ro A.st (l:=[(R,_),(D,_)]) ⟨A.r,A.d,trivial⟩) fun n tk os bs _=>?_
 exact jj (fun r _=>vd r) (fun _ _ => .ret (.bool false)) (ps:=[(true,¬ jw ts (z) "sign"),yt]) (by kernel_rfl) (by kernel_rfl) (fun _ c=>⟨(noKind (by decide +kernel) (by decide +kernel) _),(sk <| (c fun r m n tk e h' D'=>jm e))⟩)
theorem Qb (ht:yG h₀ T ts) (hw:yO T h₀ ws):(Kp T).Ok (cfg (jb w b1 b2 b3) lv hs) PW (jb w b1 b2 b3) h₀ ws:=by
 refine qJ (ts:=ts) (fun rest z hint=>?_) ht hw
 refine iC1 fun _ _ b1=>yl fun _ _ b2=>iT fun _=>iS fun _ ha=>iL0 fun b3=>?_
 subst b1 b2 b3
 refine iE ?_
 intro h R D o hm A _ _
 rcases Jn ha with ⟨rfl,rfl⟩ | ⟨t,rfl⟩
 ·exact (sign_d A).mono fun r h' _ q=>vx q
 ·exact (sign_a A).mono fun r h' _ q=>vx q
theorem number_ (A:jz (jb w b1 b2 b3) h R D o T ts z) : jr (jb w b1 b2 b3) 4 (.call (.ref 737) ⟨[.ref R],[]⟩) h [] (jJ (.bool false)):=by
 refine rdE A.o fun h1 h2 h3 h4 k1 k2 k3 k4 tz n0 s0 ep' e0=>?_
 subst e0
 refine je (hooks:=[Kp T,vf T ts]) (hkc (Qb A.t ji) (hkc (jO A.t ji) hkn)) (fuel:=10000) (tr:=fun b1=>tr_num b1 b2 b3) (ok737 _) (jl.ro A.st (l:=[(R,_),(D,_)]) ⟨A.r,A.d,trivial⟩) fun n tk os bs _=>?_
 exact jj (fun r _=>vd r) (fun _ _ => .ret (.bool false)) (ps:=[yt,yt,(true,¬ jw ts z "number"),yt]) (by kernel_rfl) (by kernel_rfl) (fun _ c=>sk <| (sk <| ⟨(noKind (by decide +kernel) (by decide +kernel) _),(sk <| (c fun r m n tk e h' D'=>jm e))⟩))
theorem vt (ht:yG h₀ T ts) (hw:yO T h₀ ws):(yd T).Ok (cfg (jb w b1 b2 b3) lv hs) PW (jb w b1 b2 b3) h₀ ws:=by
 refine qJ (ts:=ts) (fun rest z hint=>?_) ht hw
 refine iL0 fun b1=>iL0 fun b2=>?_
 subst b1 b2
 refine iE ?_
 intro h R D o hm A _ _
 exact (number_ A).mono fun r h' _ q=>vx q
theorem small2 {x y:Str} (hx:x.length≤2000) (hy:y.length≤2000):jk [x,y]:=by
 simp only [jk,List.map_cons,List.map_nil,List.sum_cons,List.sum_nil];omega
theorem resv_n (hst:St (jb w b1 b2 b3) h) (hl:x.length≤1000) (hr:(PySem.Builtin.Str.occurrences VT (" "++x ++ " ") 0 VT.length 1).isEmpty=true):jr (jb w b1 b2 b3) 2 (.call (.ref 594) ⟨[.str x tx],[]⟩) h [] (jJ (.bool false)):=by
 refine je (hooks:=[QT,strInH]) (hkc vS (hkc strInH_ok hkn)) (fuel:=10000) (tr:=fun b1=>tr_rs0 b1 b2 b3) (ok594 _) (jl.none hst) fun n tk os bs _=>?_
 exact jj (fun r _=>vd r) (fun _ _ => .ret (.bool false)) (ps:=[(true,jk [" ",x]),(true,jk [" "++x," "]),(true,(PySem.Builtin.Str.occurrences VT (" "++x ++ " ") 0 VT.length 1).isEmpty=true)]) (by kernel_rfl) (by kernel_rfl) (fun _ c=>⟨(small2 (by decide +kernel) (by omega)),⟨(small2 (by rw [Str.length_append];have:Str.length " " = 1:=rfl;omega) (by decide +kernel)),⟨hr,(c fun r m n tk e h' D'=>jm e)⟩⟩⟩)
theorem resv_y (hst:St (jb w b1 b2 b3) h) (hl:x.length≤1000) (hr:(PySem.Builtin.Str.occurrences VT (" "++x ++ " ") 0 VT.length 1).isEmpty=false):jr (jb w b1 b2 b3) 2 (.call (.ref 594) ⟨[.str x tx],[]⟩) h [] (jJ (.bool true)):=by
 refine je (hooks:=[QT,strInH]) (hkc vS (hkc strInH_ok hkn)) (fuel:=10000) (tr:=fun b1=>tr_rs1 b1 b2 b3) (ok594 _) (jl.none hst) fun n tk os bs _=>?_
 exact jj (fun r _=>vd r) (fun _ _ => .ret (.bool true)) (ps:=[(true,jk [" ",x]),(true,jk [" "++x," "]),(true,(PySem.Builtin.Str.occurrences VT (" "++x ++ " ") 0 VT.length 1).isEmpty=false)]) (by kernel_rfl) (by kernel_rfl) (fun _ c=>⟨(small2 (by decide +kernel) (by omega)),⟨(small2 (by rw [Str.length_append];have:Str.length " " = 1:=rfl;omega) (by decide +kernel)),⟨hr,(c fun r m n tk e h' D'=>jm e)⟩⟩⟩)
theorem resvH_ok:resvH.Ok (cfg (jb w b1 b2 b3) lv hs) PW (jb w b1 b2 b3) h₀ ws:=by
 refine jN fun args m hint=>?_
 refine iL1 fun _ b1=>yl fun _ _ b2=>iL1 fun _ b3=>?_
 subst b1 b2 b3
 intro sp hs h he hm hst hk _
 split at hs
 ·cases hs
  have hn:¬ yY _:=vV hm 1
  exact (resv_n hst (hm _ (.head _)) (by unfold yY at hn;simpa using hn)).mono fun r h' _ q=>⟨0,q⟩
 ·cases hs
  exact (resv_y hst (hm _ (.head _)) (hm _ (.tail _ (.head _)))).mono fun r h' _ q=>⟨0,q⟩
theorem jz.small (A:jz w h R D o T ts z) (hp:z+a < ts.length):((ts[z+a]?).getD default).s.length≤1000:=by
 rw [List.getElem?_eq_getElem hp]
 exact A.t.1.2 _ (List.getElem_mem hp)
theorem name_k (A:jz (jb w b1 b2 b3) h R D o T ts z) (hk:¬ jw ts z "word"):jr (jb w b1 b2 b3) 4 (.call (.ref 694) ⟨[.ref R],[]⟩) h [] (jJ (.bool false)):=by
 refine rdE A.o fun h1 h2 h3 h4 k1 k2 k3 k4 tz n0 s0 ep' e0=>?_
 subst e0
 refine je (hooks:=[vf T ts,vB true T ts,resvH]) (hkc (jO A.t ji) (hkc (jK A.t ji) (hkc resvH_ok hkn))) (fuel:=10000) (tr:=fun b1=>tr_nmn b1 b2 b3) (ok694 _) (jl.ro A.st (l:=[(R,_),(D,_)]) ⟨A.r,A.d,trivial⟩) fun n tk os bs _=>?_
 exact jj (fun r _=>vd r) (fun _ _ => .ret (.bool false)) (ps:=[(true,¬ jw ts z "word"),yt]) (by kernel_rfl) (by kernel_rfl) (fun _ c=>⟨hk,(sk <| (c fun r m n tk e h' D'=>jm e))⟩)
theorem name_r (A:jz (jb w b1 b2 b3) h R D o T ts z) (hk:jw ts z "word") (hp:z < ts.length) (hr:yY ((ts[z]?).getD default).s):jr (jb w b1 b2 b3) 4 (.call (.ref 694) ⟨[.ref R],[]⟩) h [] (jJ (.bool false)):=by
 refine rdE A.o fun h1 h2 h3 h4 k1 k2 k3 k4 tz n0 s0 ep' e0=>?_
 subst e0
 refine je (hooks:=[vf T ts,vB true T ts,resvH]) (hkc (jO A.t ji) (hkc (jK A.t ji) (hkc resvH_ok hkn))) (fuel:=10000) (tr:=fun b1=>tr_nmr b1 b2 b3) (ok694 _) (jl.ro A.st (l:=[(R,_),(D,_)]) ⟨A.r,A.d,trivial⟩) fun n tk os bs _=>?_
 exact jj (fun r _=>vd r) (fun _ _ => .ret (.bool false)) (ps:=[(true,jw ts z "word"),yt,(true,z < ts.length),yt,(true,((ts[z]?).getD default).s.length≤1000),(true,yY ((ts[z]?).getD default).s)]) (by kernel_rfl) (by kernel_rfl) (fun _ c=>⟨hk,(sk <| ⟨hp,(sk <| ⟨(A.small (a:=0) hp),⟨hr,(c fun r m n tk e h' D'=>jm e)⟩⟩)⟩)⟩)
theorem name_y (A:jz (jb w b1 b2 b3) h R D o T ts z) (hk:jw ts z "word") (hp:z < ts.length) (hr:¬ yY ((ts[z]?).getD default).s):jr (jb w b1 b2 b3) 4 (.call (.ref 694) ⟨[.ref R],[]⟩) h [] (jJ (.bool true)):=by
 refine rdE A.o fun h1 h2 h3 h4 k1 k2 k3 k4 tz n0 s0 ep' e0=>?_
 subst e0
 refine je (hooks:=[vf T ts,vB true T ts,resvH]) (hkc (jO A.t ji) (hkc (jK A.t ji) (hkc resvH_ok hkn))) (fuel:=10000) (tr:=fun b1=>tr_nmy b1 b2 b3) (ok694 _) (jl.ro A.st (l:=[(R,_),(D,_)]) ⟨A.r,A.d,trivial⟩) fun n tk os bs _=>?_
 exact jj (fun r _=>vd r) (fun _ _ => .ret (.bool true)) (ps:=[(true,jw ts z "word"),yt,(true,z < ts.length),yt,(true,((ts[z]?).getD default).s.length≤1000),(true,¬ yY ((ts[z]?).getD default).s)]) (by kernel_rfl) (by kernel_rfl) (fun _ c=>⟨hk,(sk <| ⟨hp,(sk <| ⟨(A.small (a:=0) hp),⟨hr,(c fun r m n tk e h' D'=>jm e)⟩⟩)⟩)⟩)
theorem kind_lit {t:Tk} (h:t.kind = "word"):t.lit=false:=by
 cases t with
 |mk l s =>
  cases l with
  |false=>rfl
  |true=>exact absurd h (by show ("literal" : Str) ≠ "word";decide +kernel)
theorem nameOk (A:jz (jb w b1 b2 b3) h R D o T ts z) {b:Bool} (hb:b=true↔qO ts z):jr (jb w b1 b2 b3) 4 (.call (.ref 694) ⟨[.ref R],[]⟩) h [] (jJ (.bool b)):=by
 by_cases hk:jw ts z "word"
 ·have hk':=hk
  obtain ⟨t,et,kt⟩:=hk'
  have hp:=QE et
  have e:=YJ et
  by_cases hr:yY t.s
  ·obtain rfl:b=false:=by
    cases b with
    |false=>rfl
    |true =>
     obtain ⟨t',q,_,q3⟩:=hb.mp rfl
     rw [et] at q;cases q
     exact absurd hr q3
   exact name_r A hk hp (by rw [e];exact hr)
  ·obtain rfl:b=true:=hb.mpr ⟨t,et,kind_lit kt,hr⟩
   exact name_y A hk hp (by rw [e];exact hr)
 ·obtain rfl:b=false:=by
   cases b with
   |false=>rfl
   |true =>
    obtain ⟨t,q,ql,_⟩:=hb.mp rfl
    refine absurd ⟨t,q,?_⟩ hk
    cases t with | mk l s=>cases ql;rfl
  exact name_k A hk
theorem qM (ht:yG h₀ T ts) (hw:yO T h₀ ws):(vE T ts).Ok (cfg (jb w b1 b2 b3) lv hs) PW (jb w b1 b2 b3) h₀ ws:=by
 refine qJ (ts:=ts) (fun rest z hint=>?_) ht hw
 refine iL0 fun b1=>iL1 fun _ bz=>?_
 subst b1 bz
 intro x hs h R D o hm A _ _
 split at hs
 ·cases hs
  exact (nameOk A (b:=false) ⟨fun q=>(nomatch q),fun q=>absurd q (hm _ (.head _))⟩).mono fun r h' _ q=>vx q
 ·cases hs
  exact (nameOk A (b:=true) ⟨fun _=>hm _ (.head _),fun _=>rfl⟩).mono fun r h' _ q=>vx q
theorem isw_k (A:jz (jb w b1 b2 b3) h R D o T ts z) (hx:jh x) (hk:¬ jw ts z "word"):jr (jb w b1 b2 b3) 3 (.call (.ref 658) ⟨[.ref R,.str x tx],[]⟩) h [] (jJ (.bool false)):=by
 refine rdE A.o fun h1 h2 h3 h4 k1 k2 k3 k4 tz n0 s0 ep' e0=>?_
 subst e0
 refine je (hooks:=[Kc,vf T ts,vB true T ts,neH]) (hkc Qx (hkc (jO A.t ji) (hkc (jK A.t ji) (hkc Jk hkn)))) (fuel:=10000) (tr:=fun b1=>tr_iwk b1 b2 b3) (ok658 _) (jl.ro A.st (l:=[(R,_),(D,_)]) ⟨A.r,A.d,trivial⟩) fun n tk os bs _=>?_
 exact jj (fun r _=>vd r) (fun _ _ => .ret (.bool false)) (ps:=[(true,jh x),(true,(" " : Str) = " "),yt,(true,¬ jw ts z "word"),yt]) (by kernel_rfl) (by kernel_rfl) (fun _ c=>⟨hx,⟨rfl,(sk <| ⟨hk,(sk <| (c fun r m n tk e h' D'=>jm e))⟩)⟩⟩)
theorem isw_w (A:jz (jb w b1 b2 b3) h R D o T ts z) (hx:jh x) (hk:jw ts z "word") (hp:z < ts.length) (hw:((ts[z]?).getD default).s≠x):jr (jb w b1 b2 b3) 3 (.call (.ref 658) ⟨[.ref R,.str x tx],[]⟩) h [] (jJ (.bool false)):=by
 refine rdE A.o fun h1 h2 h3 h4 k1 k2 k3 k4 tz n0 s0 ep' e0=>?_
 subst e0
 refine je (hooks:=[Kc,vf T ts,vB true T ts,neH]) (hkc Qx (hkc (jO A.t ji) (hkc (jK A.t ji) (hkc Jk hkn)))) (fuel:=10000) (tr:=fun b1=>tr_iww b1 b2 b3) (ok658 _) (jl.ro A.st (l:=[(R,_),(D,_)]) ⟨A.r,A.d,trivial⟩) fun n tk os bs _=>?_
 exact jj (fun r _=>vd r) (fun _ _ => .ret (.bool false)) (ps:=[(true,jh x),(true,(" " : Str) = " "),yt,(true,jw ts z "word"),yt,(true,z < ts.length),yt,(true,((ts[z]?).getD default).s≠x)]) (by kernel_rfl) (by kernel_rfl) (fun _ c=>⟨hx,⟨rfl,(sk <| ⟨hk,(sk <| ⟨hp,(sk <| ⟨hw,(c fun r m n tk e h' D'=>jm e)⟩)⟩)⟩)⟩⟩)
theorem isw_y (A:jz (jb w b1 b2 b3) h R D o T ts z) (hx:jh x) (hk:jw ts z "word") (hp:z < ts.length) (hw:((ts[z]?).getD default).s=x):jr (jb w b1 b2 b3) 3 (.call (.ref 658) ⟨[.ref R,.str x tx],[]⟩) h [] (jJ (.bool true)):=by
 refine rdE A.o fun h1 h2 h3 h4 k1 k2 k3 k4 tz n0 s0 ep' e0=>?_
 subst e0
 refine je (hooks:=[Kc,vf T ts,vB true T ts,neH]) (hkc Qx (hkc (jO A.t ji) (hkc (jK A.t ji) (hkc Jk hkn)))) (fuel:=10000) (tr:=fun b1=>tr_iwy b1 b2 b3) (ok658 _) (jl.ro A.st (l:=[(R,_),(D,_)]) ⟨A.r,A.d,trivial⟩) fun n tk os bs _=>?_
 exact jj (fun r _=>vd r) (fun _ _ => .ret (.bool true)) (ps:=[(true,jh x),(true,(" " : Str) = " "),yt,(true,jw ts z "word"),yt,(true,z < ts.length),yt,(true,((ts[z]?).getD default).s=x)]) (by kernel_rfl) (by kernel_rfl) (fun _ c=>⟨hx,⟨rfl,(sk <| ⟨hk,(sk <| ⟨hp,(sk <| ⟨hw,(c fun r m n tk e h' D'=>jm e)⟩)⟩)⟩)⟩⟩)
theorem iswOk (A:jz (jb w b1 b2 b3) h R D o T ts z) (hx:jh x) {b:Bool} (hb:b=true↔ja ts z x):jr (jb w b1 b2 b3) 3 (.call (.ref 658) ⟨[.ref R,.str x tx],[]⟩) h [] (jJ (.bool b)):=by
 by_cases hk:jw ts z "word"
 ·have hk':=hk
  obtain ⟨t,et,kt⟩:=hk'
  have hp:=QE et
  have e:=YJ et
  by_cases hr:t.s=x
  ·obtain rfl:b=true:=hb.mpr (by
    have:=kind_lit kt
    unfold ja
    rw [et]
    cases t with | mk l s=>cases this;cases hr;rfl)
   exact isw_y A hx hk hp (by rw [e];exact hr)
  ·obtain rfl:b=false:=by
    cases b with
    |false=>rfl
    |true =>
     have q:ts[z]?=_:=hb.mp rfl
     rw [et] at q;cases q
     exact absurd rfl hr
   exact isw_w A hx hk hp (by rw [e];exact hr)
 ·obtain rfl:b=false:=by
   cases b with
   |false=>rfl
   |true=>exact absurd ⟨_,hb.mp rfl,rfl⟩ hk
  exact isw_k A hx hk
theorem isWordH_ok (ht:yG h₀ T ts) (hw:yO T h₀ ws):(isWordH T ts).Ok (cfg (jb w b1 b2 b3) lv hs) PW (jb w b1 b2 b3) h₀ ws:=by
 refine qJ (ts:=ts) (fun rest z hint=>?_) ht hw
 refine iL1 fun _ b1=>yl fun _ _ b2=>iL1 fun _ bz=>?_
 subst b1 b2 bz
 intro x hs h R D o hm A _ _
 split at hs
 ·cases hs
  exact (iswOk A (hm _ (.head _)) (b:=false) ⟨fun q=>(nomatch q),fun q=>absurd q (hm _ (.tail _ (.head _)))⟩).mono fun r h' _ q=>vx q
 ·cases hs
  exact (iswOk A (hm _ (.head _)) (b:=true) ⟨fun _=>hm _ (.tail _ (.head _)),fun _=>rfl⟩).mono fun r h' _ q=>vx q
theorem skip_n (A:jz (jb w b1 b2 b3) h R D o T ts z) (hx:jh x) (hw:¬ ja ts z x):jr (jb w b1 b2 b3) 4 (.call (.ref 665) ⟨[.ref R,.str x tx],[]⟩) h [] (jJ (.bool false)):=by
 refine rdE A.o fun h1 h2 h3 h4 k1 k2 k3 k4 tz n0 s0 ep' e0=>?_
 subst e0
 refine je (hooks:=[isWordH T ts,Kc,lenH]) (hkc (isWordH_ok A.t ji) (hkc Qx (hkc lenH_ok hkn))) (fuel:=10000) (tr:=fun b1=>tr_skn b1 b2 b3) (ok665 _) (jl.ro A.st (l:=[(R,_),(D,_)]) ⟨A.r,A.d,trivial⟩) fun n tk os bs _=>?_
 exact jj (fun r _=>vd r) (fun _ _ => .ret (.bool false)) (ps:=[(true,jh x),(true,¬ ja ts z x),yt]) (by kernel_rfl) (by kernel_rfl) (fun _ c=>⟨hx,⟨hw,(sk <| (c fun r m n tk e h' D'=>jm e))⟩⟩)
theorem skip_y (A:jz (jb w b1 b2 b3) h R D o T ts z) (off:(ktP (jb w b1 b2 b3)).get D=none) (hx:jh x) (hw:ja ts z x):jr (jb w b1 b2 b3) 4 (.call (.ref 665) ⟨[.ref R,.str x tx],[]⟩) h [D] (Moves D o (z+1) fun r=>r = .ok (.ret (.bool true))):=by
 refine rdE A.o fun h1 h2 h3 h4 k1 k2 k3 k4 tz n0 s0 ep' e0=>?_
 subst e0
 refine je (hooks:=[isWordH T ts,Kc,lenH]) (hkc (isWordH_ok A.t (jf A.d A.o)) (hkc Qx (hkc lenH_ok hkn))) (fuel:=10000) (tr:=fun b1=>tr_sky b1 b2 b3) (ok665 _) (A.shown off) fun n tk os bs _=>?_
 exact jj (fun r m=>(vd r,vT m)) (fun _ _=>(.ret (.bool true),some (D,some (jC (rdO h1 h2 h3 h4 k1 k2 k3 k4 T z tz n0 s0 ep') (z+1) 0)))) (ps:=[(true,jh x),(true,ja ts z x),yt,(true,jh x),(true,(" " : Str) = " "),yt,(true,[Value.str x tx].length≤100000)]) (by kernel_rfl) (by kernel_rfl) (fun _ c=>⟨hx,⟨hw,(sk <| ⟨hx,⟨rfl,(sk <| ⟨(by simp),(c fun r m n tk e h' D'=>⟨jm (congrArg Prod.fst e),ya D' A.o (congrArg Prod.snd e)⟩)⟩)⟩⟩)⟩⟩)
theorem jQ (ht:yG h₀ T ts) (hw:yO T h₀ ws):(jo T ts).Ok (cfg (jb w b1 b2 b3) lv hs) PW (jb w b1 b2 b3) h₀ ws:=by
 refine qJ (ts:=ts) (fun rest z hint=>?_) ht hw
 refine iL1 fun _ b1=>yl fun _ _ b2=>iL1 fun _ bz=>?_
 subst b1 b2 bz
 intro x hs h R D o hm A off _
 split at hs
 ·cases hs
  exact (skip_n A (hm _ (.head _)) (hm _ (.tail _ (.head _)))).mono fun r h' _ q=>vx q
 ·cases hs
  exact (skip_y A (off rfl) (hm _ (.head _)) (hm _ (.tail _ (.head _)))).mono fun r h' _ ⟨q,t,e⟩=>VC default (fun _=>rfl) q e
theorem need_ (A:jz (jb w b1 b2 b3) h R D o T ts z) (off:(ktP (jb w b1 b2 b3)).get D=none) (hx:jh x) (hw:ja ts z x):jr (jb w b1 b2 b3) 5 (.call (.ref 672) ⟨[.ref R,.str x tx],[]⟩) h [D] (Moves D o (z+1) fun r=>r = .ok (.ret .none)):=by
 refine rdE A.o fun h1 h2 h3 h4 k1 k2 k3 k4 tz n0 s0 ep' e0=>?_
 subst e0
 refine je (hooks:=[jo T ts]) (hkc (jQ A.t (jf A.d A.o)) hkn) (fuel:=10000) (tr:=fun b1=>tr_need b1 b2 b3) (ok672 _) (A.shown off) fun n tk os bs _=>?_
 exact jj (fun r m=>(vd r,vT m)) (fun _ _=>(.ret (.none),some (D,some (jC (rdO h1 h2 h3 h4 k1 k2 k3 k4 T z tz n0 s0 ep') (z+1) 0)))) (ps:=[(true,jh x),(true,ja ts z x),yt]) (by kernel_rfl) (by kernel_rfl) (fun _ c=>⟨hx,⟨hw,(sk <| (c fun r m n tk e h' D'=>⟨endR_none (congrArg Prod.fst e),ya D' A.o (congrArg Prod.snd e)⟩))⟩⟩)
theorem vY (ht:yG h₀ T ts) (hw:yO T h₀ ws):(va T ts).Ok (cfg (jb w b1 b2 b3) lv hs) PW (jb w b1 b2 b3) h₀ ws:=by
 refine qJ (ts:=ts) (fun rest z hint=>?_) ht hw
 refine iL1 fun _ b1=>yl fun _ _ b2=>iL0 fun b3=>?_
 subst b1 b2 b3
 refine iE ?_
 intro h R D o hm A off _
 exact (need_ A (off rfl) (hm _ (.head _)) (hm _ (.tail _ (.head _)))).mono fun r h' _ ⟨q,t,e⟩=>VC default (fun _=>rfl) q e
theorem nbOF:jh "OF":=by unfold jh;decide +kernel
theorem nbIN:jh "IN":=by unfold jh;decide +kernel
theorem one_n (A:jz (jb w b1 b2 b3) h R D o T ts z) (w1:¬ ja ts z "OF") (w2:¬ ja ts z "IN"):jr (jb w b1 b2 b3) 5 (.call (.ref 679) ⟨[.ref R,.str "OF IN" tx],[]⟩) h [] (qG ""):=by
 refine rdE A.o fun h1 h2 h3 h4 k1 k2 k3 k4 tz n0 s0 ep' e0=>?_
 subst e0
 refine je (hooks:=[jo T ts]) (hkc (jQ A.t ji) hkn) (fuel:=10000) (tr:=fun b1=>tr_ofn b1 b2 b3) (ok679 _) (jl.ro A.st (l:=[(R,_),(D,_)]) ⟨A.r,A.d,trivial⟩) fun n tk os bs _=>?_
 exact jj (fun r _=>vd r) (fun _ _ => .ret (.str "" 0)) (ps:=[(true,jh "OF"),(true,¬ ja ts z "OF"),yt,(true,jh "IN"),(true,¬ ja ts z "IN"),yt]) (by kernel_rfl) (by kernel_rfl) (fun _ c=>⟨nbOF,w1,fun _=>⟨nbIN,w2,fun _=>c fun r m n tk e h' D'=>endR_str e⟩⟩)
theorem one_y (A:jz (jb w b1 b2 b3) h R D o T ts z) (off:(ktP (jb w b1 b2 b3)).get D=none) (w1:ja ts z "OF"):jr (jb w b1 b2 b3) 5 (.call (.ref 679) ⟨[.ref R,.str "OF IN" tx],[]⟩) h [D] (Moves D o (z+1) fun r=>∃ t,r = .ok (.ret (.str "OF" t))):=by
 refine rdE A.o fun h1 h2 h3 h4 k1 k2 k3 k4 tz n0 s0 ep' e0=>?_
 subst e0
 refine je (hooks:=[jo T ts]) (hkc (jQ A.t (jf A.d A.o)) hkn) (fuel:=10000) (tr:=fun b1=>tr_ofy b1 b2 b3) (ok679 _) (A.shown off) fun n tk os bs _=>?_
 exact jj (fun r m=>(vd r,vT m)) (fun _ _=>(.ret (.str "OF" 0),some (D,some (jC (rdO h1 h2 h3 h4 k1 k2 k3 k4 T z tz n0 s0 ep') (z+1) 0)))) (ps:=[(true,jh "OF"),(true,ja ts z "OF"),yt]) (by kernel_rfl) (by kernel_rfl) (fun _ c=>⟨nbOF,⟨w1,(sk <| (c fun r m n tk e h' D'=>⟨endR_str (congrArg Prod.fst e),ya D' A.o (congrArg Prod.snd e)⟩))⟩⟩)
theorem JP (ht:yG h₀ T ts) (hw:yO T h₀ ws):(QP T ts).Ok (cfg (jb w b1 b2 b3) lv hs) PW (jb w b1 b2 b3) h₀ ws:=by
 refine qJ (ts:=ts) (fun rest z hint=>?_) ht hw
 refine iL1 fun _ b1=>yl fun _ _ b2=>iT fun q=>?_
 have q:=vw q
 subst q
 refine iL1 fun _ b3=>?_
 subst b1 b2 b3
 intro x hs h R D o hm A off _
 split at hs
 ·cases hs
  refine (one_n A (hm _ (.head _)) (hm _ (.tail _ (.head _)))).mono fun r h' _ q=>?_
  obtain ⟨t,q⟩:=q
  exact val_post (y:={(default:Ora) with n:=t}) q
 ·cases hs
  refine (one_y A (off rfl) (hm _ (.head _))).mono fun r h' _ ⟨q,t,e⟩=>?_
  obtain ⟨t',q⟩:=q
  exact VC {(default:Ora) with n:=t'} (fun _=>rfl) q e
def TakePost (D:Addr) (o:Obj) (ts:List Tk) (z:Nat):Result→Heap→Prop:=fun r h'=>(∃ a d y,r = .ok (.ret (.ref a))∧h'.get? a=some (tkI d)∧h'.get? d=some (tkO ((ts[z]?).getD default) y))∧∃ t,h'.get? D=some (jC o (z+1) t)
noncomputable def yW:Result→Addr
 |.ok f=>match f with
  |.ret v=>match v with
   |.ref a=>a
   |_=>0
  |_=>0
 |.error _=>0
noncomputable def vR:Result→Bool
 |.ok f=>match f with
  |.ret v=>match v with
   |.ref _=>true
   |_=>false
  |_=>false
 |.error _=>false
theorem vl {r:Result} (h:vR r=true):r = .ok (.ret (.ref (yW r))):=by
 unfold vR at h
 split at h
 ·split at h
  ·split at h
   ·rfl
   ·cases h
  ·cases h
 ·cases h
noncomputable def aAt (m:List En) (i:Nat):Addr:=match m[i]? with
 |some e=>e.a
 |none=>0
noncomputable def oAt (m:List En) (i:Nat):Option Obj:=match m[i]? with
 |some e=>some e.o
 |none=>none
theorem yk {C:Cfg} {h₀ h':Heap} {ws:List Addr} {m:List En} {n i:Nat} {ob:Obj} (hR:Rp C h₀ ws m n h') (e:oAt m i=some ob):h'.get? (aAt m i)=some ob:=by
 unfold oAt at e
 unfold aAt
 split at e
 ·rename_i x hx
  cases e
  exact hR.known x (List.mem_of_getElem? hx)
 ·cases e
theorem take_ (A:jz (jb w b1 b2 b3) h R D o T ts z) (off:(ktP (jb w b1 b2 b3)).get D=none) (hp:z < ts.length):jr (jb w b1 b2 b3) 2 (.call (.ref 643) ⟨[.ref R],[]⟩) h [D] (TakePost D o ts z):=by
 refine rdE A.o fun h1 h2 h3 h4 k1 k2 k3 k4 tz n0 s0 ep' e0=>?_
 subst e0
 refine je (hooks:=[vB true T ts]) (hkc (jK A.t (jf A.d A.o)) hkn) (fuel:=10000) (tr:=fun b1=>tr_take b1 b2 b3) (ok643 _) (A.shown off) fun n tk os bs _=>?_
 refine jj (fun r m=>(vR r,yW r,oAt m 0,oAt m 1,vT m)) (fun _ m=>(true,aAt m 0,some (tkI (aAt m 1)),some (tkO ((ts[z]?).getD default) (os 1)),some (D,some (jC (rdO h1 h2 h3 h4 k1 k2 k3 k4 T z tz n0 s0 ep') (z+1) 0)))) (ps:=[(true,z < ts.length),yt]) (by kernel_rfl) (by kernel_rfl) (fun _ c=>⟨hp,fun _=>c fun r m n tk e h' D'=>?_⟩)
 refine pr5 e fun e1 e2 e3 e4 e5=>?_
 refine ⟨⟨aAt m 0,aAt m 1,os 1,by rw [vl e1,e2],yk D' e3,yk D' e4⟩,ya D' A.o e5⟩
theorem take_post {t:Tk} {D:Addr} {o:Obj} {ms:List Prop} {r:Result} {h':Heap} (x:TakePost D o ts z r h') (e:(ts[z]?).getD default=t):Vu D o {musts:=ms,res:=fun y => .ok (.ret (.ref y.n)),mv:=some (z+1),news:=YZ fun _=>t} r h':=by
 obtain ⟨⟨a,d,y,rfl,g1,g2⟩,t3,g3⟩:=x
 rw [e] at g2
 refine ⟨oraT {y with n:=a,n2:=d} t3,rfl,fun _ q=>by cases q;rw [QA];exact g3,fun p hp=>?_,fun _ hp=>(nomatch hp)⟩
 cases hp with
 |head=>exact ⟨g1,rfl⟩
 |tail _ hp =>
  cases hp with
  |head=>exact ⟨g2,rfl⟩
  |tail _ hp=>cases hp
theorem Vb {gen:Bool} (ht:yG h₀ T ts) (hw:yO T h₀ ws):(takeH gen T ts).Ok (cfg (jb w b1 b2 b3) lv hs) PW (jb w b1 b2 b3) h₀ ws:=by
 refine qJ (ts:=ts) (fun rest z hint=>?_) ht hw
 refine iL0 fun b1=>iL1 fun _ b2=>?_
 subst b1 b2
 intro x hs h R D o hm A off _
 split at hs
 ·cases hs
 ·cases hs
  exact (take_ A (off rfl) (hm _ (.head _))).mono fun r h' _ q=>take_post q rfl
 ·split at hs
  ·cases hs
   have e:=hm _ (.head _)
   exact (take_ A (off rfl) (QE e)).mono fun r h' _ q=>take_post q (YJ e)
  ·cases hs
theorem name_ (A:jz (jb w b1 b2 b3) h R D o T ts z) (off:(ktP (jb w b1 b2 b3)).get D=none) (hn:qO ts z) (hp:z < ts.length):jr (jb w b1 b2 b3) 5 (.call (.ref 701) ⟨[.ref R],[]⟩) h [D] (Moves D o (z+1) fun r=>∃ t,r = .ok (.ret (.str ((ts[z]?).getD default).s t))):=by
 refine rdE A.o fun h1 h2 h3 h4 k1 k2 k3 k4 tz n0 s0 ep' e0=>?_
 subst e0
 refine je (hooks:=[vE T ts,takeH true T ts]) (hkc (qM A.t (jf A.d A.o)) (hkc (Vb A.t (jf A.d A.o)) hkn)) (fuel:=10000) (tr:=fun b1=>tr_name b1 b2 b3) (ok701 _) (A.shown off) fun n tk os bs _=>?_
 exact jj (fun r m=>(vd r,vT m)) (fun _ _=>(.ret (.str ((ts[z]?).getD default).s 0),some (D,some (jC (rdO h1 h2 h3 h4 k1 k2 k3 k4 T z tz n0 s0 ep') (z+1) 0)))) (ps:=[(true,qO ts z),yt,(true,z < ts.length),yt]) (by kernel_rfl) (by kernel_rfl) (fun _ c=>⟨hn,(sk <| ⟨hp,(sk <| (c fun r m n tk e h' D'=>⟨endR_str (congrArg Prod.fst e),ya D' A.o (congrArg Prod.snd e)⟩))⟩)⟩)
theorem QC (ht:yG h₀ T ts) (hw:yO T h₀ ws):(YA T ts).Ok (cfg (jb w b1 b2 b3) lv hs) PW (jb w b1 b2 b3) h₀ ws:=by
 refine qJ (ts:=ts) (fun rest z hint=>?_) ht hw
 refine iL0 fun b1=>iL1 fun _ b2=>iS fun _ _=>?_
 subst b1 b2
 refine iE ?_
 intro h R D o hm A off _
 have e:=hm _ (.head _)
 have g1:=hm _ (.tail _ (.head _))
 have g2:=hm _ (.tail _ (.tail _ (.head _)))
 clear hm
 refine (name_ A (off rfl) ⟨_,e,g1,g2⟩ (QE e)).mono fun r h' _ ⟨q,t,e'⟩=>?_
 obtain ⟨t',q⟩:=q
 rw [YJ e] at q
 exact VC {(default:Ora) with n:=t'} (fun _=>rfl) q e'
theorem octets_ (A:jz (jb w b1 b2 b3) h R D o T ts z) (off:(ktP (jb w b1 b2 b3)).get D=none) (hw:ts[z]?=some ⟨true,"x"⟩):jr (jb w b1 b2 b3) 5 (.call (.ref 765) ⟨[.ref R],[]⟩) h [D] (Moves D o (z+1) fun r=>∃ t,r = .ok (.ret (.bytes ⟨[120]⟩ t))):=by
 refine rdE A.o fun h1 h2 h3 h4 k1 k2 k3 k4 tz n0 s0 ep' e0=>?_
 subst e0
 refine je (hooks:=[vf T ts,vB false T ts]) (hkc (jO A.t (jf A.d A.o)) (hkc (jK A.t (jf A.d A.o)) hkn)) (fuel:=10000) (tr:=fun b1=>tr_oct b1 b2 b3) (ok765 _) (A.shown off) fun n tk os bs _=>?_
 exact jj (fun r m=>(vd r,vT m)) (fun _ _=>(.ret (.bytes ⟨[120]⟩ 0),some (D,some (jC (rdO h1 h2 h3 h4 k1 k2 k3 k4 T z tz n0 s0 ep') (z+1) 0)))) (ps:=[(true,jw ts z "literal"),yt,(true,ts[z]?=some ⟨true,"x"⟩),yt]) (by cases b2 <;> kernel_rfl) (by cases b2 <;> kernel_rfl) (fun _ c=>⟨⟨_,hw,rfl⟩,(sk <| ⟨hw,(sk <| (c fun r m n tk e h' D'=>⟨endR_bytes (congrArg Prod.fst e),ya D' A.o (congrArg Prod.snd e)⟩))⟩)⟩)
theorem QQ (ht:yG h₀ T ts) (hw:yO T h₀ ws):(Yx T ts).Ok (cfg (jb w b1 b2 b3) lv hs) PW (jb w b1 b2 b3) h₀ ws:=by
 refine qJ (ts:=ts) (fun rest z hint=>?_) ht hw
 refine iL0 fun b1=>iL0 fun b2=>?_
 subst b1 b2
 refine iE ?_
 intro h R D o hm A off _
 refine (octets_ A (off rfl) (hm _ (.head _))).mono fun r h' _ ⟨q,t,e'⟩=>?_
 obtain ⟨t',q⟩:=q
 exact VC {(default:Ora) with n:=t'} (fun _=>rfl) q e'
theorem ahead_n (A:jz (jb w b1 b2 b3) h R D o T ts z) (hp:ts.length≤z+a):jr (jb w b1 b2 b3) 2 (.call (.ref 482) ⟨[.ref R,.int (.ofNat a) ta,.str x tx],[]⟩) h [] (jJ (.bool false)):=by
 refine rdE A.o fun h1 h2 h3 h4 k1 k2 k3 k4 tz n0 s0 ep' e0=>?_
 subst e0
 refine je (hooks:=[vB true T ts,eqH]) (hkc (jK A.t ji) (hkc vM hkn)) (fuel:=10000) (tr:=fun b1=>tr_wan b1 b2 b3) (ok482 _) (jl.ro A.st (l:=[(R,_),(D,_)]) ⟨A.r,A.d,trivial⟩) fun n tk os bs _=>?_
 exact jj (fun r _=>vd r) (fun _ _ => .ret (.bool false)) (ps:=[(true,ts.length≤z+a),yt]) (by kernel_rfl) (by kernel_rfl) (fun _ c=>⟨hp,(sk <| (c fun r m n tk e h' D'=>jm e))⟩)
theorem ahead_k (A:jz (jb w b1 b2 b3) h R D o T ts z) (hp:z+a < ts.length) (hk:((ts[z+a]?).getD default).kind ≠ "word"):jr (jb w b1 b2 b3) 2 (.call (.ref 482) ⟨[.ref R,.int (.ofNat a) ta,.str x tx],[]⟩) h [] (jJ (.bool false)):=by
 refine rdE A.o fun h1 h2 h3 h4 k1 k2 k3 k4 tz n0 s0 ep' e0=>?_
 subst e0
 refine je (hooks:=[vB true T ts,eqH]) (hkc (jK A.t ji) (hkc vM hkn)) (fuel:=10000) (tr:=fun b1=>tr_wak b1 b2 b3) (ok482 _) (jl.ro A.st (l:=[(R,_),(D,_)]) ⟨A.r,A.d,trivial⟩) fun n tk os bs _=>?_
 exact jj (fun r _=>vd r) (fun _ _ => .ret (.bool false)) (ps:=[(true,z+a < ts.length),yt,(true,((ts[z+a]?).getD default).kind ≠ "word")]) (by kernel_rfl) (by kernel_rfl) (fun _ c=>⟨hp,(sk <| ⟨hk,(c fun r m n tk e h' D'=>jm e)⟩)⟩)
theorem ahead_w (A:jz (jb w b1 b2 b3) h R D o T ts z) (hp:z+a < ts.length) (hk:((ts[z+a]?).getD default).kind = "word") (hw:((ts[z+a]?).getD default).s≠x):jr (jb w b1 b2 b3) 2 (.call (.ref 482) ⟨[.ref R,.int (.ofNat a) ta,.str x tx],[]⟩) h [] (jJ (.bool false)):=by
 refine rdE A.o fun h1 h2 h3 h4 k1 k2 k3 k4 tz n0 s0 ep' e0=>?_
 subst e0
 refine je (hooks:=[vB true T ts,eqH]) (hkc (jK A.t ji) (hkc vM hkn)) (fuel:=10000) (tr:=fun b1=>tr_waw b1 b2 b3) (ok482 _) (jl.ro A.st (l:=[(R,_),(D,_)]) ⟨A.r,A.d,trivial⟩) fun n tk os bs _=>?_
 exact jj (fun r _=>vd r) (fun _ _ => .ret (.bool false)) (ps:=[(true,z+a < ts.length),yt,(true,((ts[z+a]?).getD default).kind = "word"),(true,((ts[z+a]?).getD default).s≠x)]) (by kernel_rfl) (by kernel_rfl) (fun _ c=>⟨hp,(sk <| ⟨hk,⟨hw,(c fun r m n tk e h' D'=>jm e)⟩⟩)⟩)
theorem ahead_y (A:jz (jb w b1 b2 b3) h R D o T ts z) (hp:z+a < ts.length) (hk:((ts[z+a]?).getD default).kind = "word") (hw:((ts[z+a]?).getD default).s=x):jr (jb w b1 b2 b3) 2 (.call (.ref 482) ⟨[.ref R,.int (.ofNat a) ta,.str x tx],[]⟩) h [] (jJ (.bool true)):=by
 refine rdE A.o fun h1 h2 h3 h4 k1 k2 k3 k4 tz n0 s0 ep' e0=>?_
 subst e0
 refine je (hooks:=[vB true T ts,eqH]) (hkc (jK A.t ji) (hkc vM hkn)) (fuel:=10000) (tr:=fun b1=>tr_way b1 b2 b3) (ok482 _) (jl.ro A.st (l:=[(R,_),(D,_)]) ⟨A.r,A.d,trivial⟩) fun n tk os bs _=>?_
 exact jj (fun r _=>vd r) (fun _ _ => .ret (.bool true)) (ps:=[(true,z+a < ts.length),yt,(true,((ts[z+a]?).getD default).kind = "word"),(true,((ts[z+a]?).getD default).s=x)]) (by kernel_rfl) (by kernel_rfl) (fun _ c=>⟨hp,(sk <| ⟨hk,⟨hw,(c fun r m n tk e h' D'=>jm e)⟩⟩)⟩)
theorem aheadOk (A:jz (jb w b1 b2 b3) h R D o T ts z) {b:Bool} (hb:b=true↔ja ts (z+a) x):jr (jb w b1 b2 b3) 2 (.call (.ref 482) ⟨[.ref R,.int (.ofNat a) ta,.str x tx],[]⟩) h [] (jJ (.bool b)):=by
 by_cases hp:z+a < ts.length
 ·have et:=List.getElem?_eq_getElem hp
  have e:=YJ et
  by_cases hk:(ts[z+a]).kind = "word"
  ·by_cases hr:(ts[z+a]).s=x
   ·obtain rfl:b=true:=hb.mpr (by
     have:=kind_lit hk
     unfold ja
     rw [et]
     revert hr this
     cases ts[z+a] with | mk l s=>intro hr this;cases this;cases hr;rfl)
    exact ahead_y A hp (by rw [e];exact hk) (by rw [e];exact hr)
   ·obtain rfl:b=false:=by
     cases b with
     |false=>rfl
     |true =>
      have q:ts[z+a]?=_:=hb.mp rfl
      rw [et] at q
      exact absurd (by rw [Option.some.inj q]) hr
    exact ahead_w A hp (by rw [e];exact hk) (by rw [e];exact hr)
  ·obtain rfl:b=false:=by
    cases b with
    |false=>rfl
    |true =>
     have q:ts[z+a]?=_:=hb.mp rfl
     rw [et] at q
     exact absurd (by rw [Option.some.inj q];rfl) hk
   exact ahead_k A hp (by rw [e];exact hk)
 ·obtain rfl:b=false:=by
   cases b with
   |false=>rfl
   |true=>exact absurd (QE (hb.mp rfl)) hp
  exact ahead_n A (by omega)
theorem jY (ht:yG h₀ T ts) (hw:yO T h₀ ws):(qV T ts).Ok (cfg (jb w b1 b2 b3) lv hs) PW (jb w b1 b2 b3) h₀ ws:=by
 refine qJ (ts:=ts) (fun rest z hint=>?_) ht hw
 refine iL2 fun _ _ b1=>Jg fun _ _ b2=>iNat fun _ b3=>yl fun _ _ b4=>iL1 fun _ bz=>?_
 subst b1 b2 b3 b4 bz
 intro x hs h R D o hm A _ _
 split at hs
 ·cases hs
  exact (aheadOk A (b:=false) ⟨fun q=>(nomatch q),fun q=>absurd q (hm _ (.head _))⟩).mono fun r h' _ q=>vx q
 ·cases hs
  exact (aheadOk A (b:=true) ⟨fun _=>hm _ (.head _),fun _=>rfl⟩).mono fun r h' _ q=>vx q
end
abbrev resK:List Nat:=resL
theorem resT_eq:VT=⟨⟨resK⟩⟩:=by
 have h:VT=Str.ofString (String.ofList (resK.map Char.ofNat)):=by kernel_rfl
 rw [h,PySem.W.Fast.ofString_ofList]
 kernel_rfl
noncomputable def hasSub (x:List Nat):List Nat→Bool
 |[]=>x.isPrefixOf []
 |c::r=>x.isPrefixOf (c::r) || hasSub x r
theorem hasSub_iff {x:List Nat}:∀ {l:List Nat},hasSub x l=true↔∃ i,x <+: l.drop i
 |[]=>by
  simp only [hasSub,List.isPrefixOf_iff_prefix,List.drop_nil,exists_const]
 |c::r=>by
  simp only [hasSub,Bool.or_eq_true,List.isPrefixOf_iff_prefix,hasSub_iff (l:=r)]
  constructor
  ·rintro (h | ⟨i,h⟩)
   ·exact ⟨0,h⟩
   ·exact ⟨i+1,h⟩
  ·rintro ⟨i,h⟩
   cases i with
   |zero=>exact .inl h
   |succ i=>exact .inr ⟨i,h⟩
theorem yZ {x:Str}:yY x↔hasSub (" "++x ++ " " : Str).cps.toList resK=true:=by
 have e:yY x↔(!(PySem.Builtin.Str.occurrences VT (" "++x ++ " ") 0 VT.length 1).isEmpty)=true:=by
  unfold yY
  cases (PySem.Builtin.Str.occurrences VT (" "++x ++ " ") 0 VT.length 1).isEmpty <;> simp
 rw [e,PySem.StrLaws.found_iff,hasSub_iff]
 have hy:1≤(" "++x ++ " " : Str).length:=by
  rw [Str.length_append];have:Str.length " " = 1:=rfl;omega
 generalize (" "++x ++ " " : Str)=y at hy ⊢
 rw [resT_eq]
 have hl:∀ l:List Nat,(⟨⟨l⟩⟩:Str).length=l.length:=fun l=>rfl
 obtain ⟨⟨y⟩⟩:=y
 rw [hl] at hy
 constructor
 ·rintro ⟨i,h1,h2⟩
  refine ⟨i,?_⟩
  rw [PySem.StrLaws.subAt_eq,hl,beq_iff_eq] at h2
  have h2:(resK.drop i).take y.length=y:=h2
  refine ⟨(resK.drop i).drop y.length,?_⟩
  show y++_=_
  conv =>
   lhs
   lhs
   rw [←h2]
  exact List.take_append_drop _ _
 ·rintro ⟨i,t,ht⟩
  have ht:y++t=resK.drop i:=ht
  have e:=congrArg List.length ht
  rw [List.length_append,List.length_drop] at e
  refine ⟨i,by rw [hl,hl];omega,?_⟩
  rw [PySem.StrLaws.subAt_eq,hl,beq_iff_eq]
  show (resK.drop i).take y.length=y
  rw [←ht,List.take_left]
theorem nrA:¬ yY "A":=by rw [yZ];decide +kernel
theorem nrB:¬ yY "B":=by rw [yZ];decide +kernel
theorem nrG:¬ yY "G":=by rw [yZ];decide +kernel
theorem rvS:yY "SPACE":=by rw [yZ];decide +kernel
theorem rvL:yY "ALL":=by rw [yZ];decide +kernel
theorem rvR:yY "REPLACING":=by rw [yZ];decide +kernel
theorem rvF:yY "FIRST":=by rw [yZ];decide +kernel
theorem rvC:yY "CHARACTERS":=by rw [yZ];decide +kernel
theorem rvD:yY "LEADING":=by rw [yZ];decide +kernel
def NoOf (ts:List Tk) (p:Nat):Prop:=¬ ja ts p "OF"∧¬ ja ts p "IN"
noncomputable def opN (v:Value):Nat:=match v with
 |.ref a=>match Nat.beq a 783 with
  |true=>3
  |false=>1
 |_=>0
noncomputable def qN (ts:List Tk) (z:Nat) (v:Value):Prop :=
 (v = .ref 775∧ja ts z "A"∧NoOf ts (z+1))∨(v = .ref 777∧ts[z]?=some ⟨true,"x"⟩)∨(v = .ref 779∧ja ts z "SPACE") ∨
 (v = .ref 783∧ja ts z "B"∧ja ts (z+1) "OF"∧ja ts (z+2) "G"∧NoOf ts (z+3))
def jy (ts:List Tk) (z:Nat) (v:Value):Prop:=(v = .ref 775∨v = .ref 783)∧qN ts z v
def readSp (lv:Nat) (f:Addr) (P:List Tk→Nat→Value→Prop) (v:Value) (T:Addr) (ts:List Tk):Hook:=vU f lv T
 (fun rest z hint=>oL0 rest <|
  oL0 hint <|
  some {musts:=[P ts z v],res:=fun y => .ok (.ret (.ref y.n)),mv:=some (z+opN v),dq:=fun y=>[(.ref y.n,v)]})
def qY (v:Value) (T:Addr) (ts:List Tk):Hook:=readSp 8 496 jy v T ts
def JB (v:Value) (T:Addr) (ts:List Tk):Hook:=readSp 10 517 qN v T ts
def begSp (ts:List Tk) (z:Nat) (hint:List Nat) (yes:List Nat):Option RdS:=oL1 hint fun k =>
 match k with
  |0=>some {musts:=[ts.length≤z],res:=fun _ => .ok (.ret (.bool false))}
  |k+1=>oS voc[k]? fun t=>oT (([0,1,2,3,6,7,8,9,17]:List Nat).elem k) <| some {musts:=[ts[z]?=some t],res:=fun _ => .ok (.ret (.bool (yes.elem k)))}
def yN (T:Addr) (ts:List Tk):Hook:=vU 489 6 T (fun rest z hint=>oL0 rest (begSp ts z hint [0,1,2,3,6]))
def begTxH (T:Addr) (ts:List Tk):Hook:=vU 524 7 T (fun rest z hint=>oL0 rest (begSp ts z hint [0,1,2,3]))
def jX (v:Value) (T:Addr) (ts:List Tk):Hook:=vU 538 9 T
 (fun rest z hint=>oL0 rest <|
  oL1 hint fun k =>
  match k with
   |0=>some {musts:=[¬ qO ts z],res:=fun _ => .ok (.ret (.bool false))}
   |_=>some {musts:=[jy ts z v,ja ts (z+opN v) "FOR"],res:=fun _ => .ok (.ret (.bool true)),mv:=some z})
def jp (v:Value):Nat:=match v with
 |.ref _=>2+opN v
 |_=>0
def SpellB1 (ts:List Tk) (z:Nat) (x:Str) (v:Value):Prop:=ja ts z x∧ja ts (z+1) "INITIAL"∧qN ts (z+2) v
def vp (ts:List Tk) (z:Nat) (b a:Value):Prop :=
 ((b = .none∧¬ ja ts z "BEFORE")∨(b ≠ .none∧SpellB1 ts z "BEFORE" b)) ∧
 ((a = .none∧¬ ja ts (z+jp b) "AFTER")∨(a ≠ .none∧SpellB1 ts (z+jp b) "AFTER" a)) ∧
 (b = .none→¬ ja ts (z+jp b+jp a) "BEFORE")
def bdVH (b a:Value) (T:Addr) (ts:List Tk):Hook:=vU 531 12 T
 (fun rest z hint=>oL0 rest <|
  oL0 hint <|
  some {musts:=[vp ts z b a],res:=fun y => .ok (.ret (.ref y.n)),mv:=some (z+jp b+jp a),news:=[((.type "tuple",0),fun y=>y.n,fun y=>⟨.type "tuple",none,.seq ⟨[y.v,y.v2]⟩ 0,#[]⟩)],dq:=fun y=>[(y.v,b),(y.v2,a)]})
noncomputable def DqL (h:Heap):List Value→List Value→Prop
 |[],[]=>True
 |x::xs,y::ys=>Dq h x y∧DqL h xs ys
 |_,_=>False
theorem DqL.len {h:Heap}:∀ {xs ys},DqL h xs ys→xs.length=ys.length
 |[],[],_=>rfl
 |x::xs,y::ys,⟨_,q⟩=>by simp [q.len]
 |[],_::_,q=>q.elim
 |_::_,[],q=>q.elim
theorem DqL.at {h:Heap}:∀ {xs ys},DqL h xs ys→∀ (i:Nat) (p q:Value),xs[i]?=some p→ys[i]?=some q→Dq h p q
 |[],[],_,i,p,q,h1,_=>by simp at h1
 |x::xs,y::ys,⟨a,b⟩,i,p,q,h1,h2=>by
  cases i with
  |zero=>cases h1;cases h2;exact a
  |succ i=>exact b.at i p q (by simpa using h1) (by simpa using h2)
 |[],_::_,q,_,_,_,_,_=>q.elim
 |_::_,[],q,_,_,_,_,_=>q.elim
theorem KA {h:Heap} {a b:Addr} {d d':Option Addr} {l l':List Value} {ep ep':Nat} {sl sl':Array (Option Value)} (ha:h.get? a=some (vv d l ep sl)) (hb:h.get? b=some (vv d' l' ep' sl')) (q:DqL h l l'):Dq h (.ref a) (.ref b) :=
 .tup a b _ _ ⟨l⟩ ⟨l'⟩ ep ep' ha rfl rfl hb rfl rfl (by simpa using q.len) fun i p r h1 h2=>q.at i p r (by simpa using h1) (by simpa using h2)
def JA (m:List En) (i:Nat):Option (List Value):=match oAt m i with
 |some o=>match JC "tuple" o with
  |some l=>some (l.map bare)
  |none=>none
 |none=>none
theorem JN {C:Cfg} {h₀ h':Heap} {ws:List Addr} {m:List En} {n i:Nat} {l:List Value} (hR:Rp C h₀ ws m n h') (e:JA m i=some l):∃ d ep sl l0,h'.get? (aAt m i)=some (vv d l0 ep sl)∧l0.map bare=l:=by
 unfold JA at e
 split at e
 ·rename_i o ho
  split at e
  ·rename_i l0 hl
   cases e
   obtain ⟨d,ep,sl,rfl⟩:=yC hl
   exact ⟨d,ep,sl,l0,yk hR ho,rfl⟩
  ·cases e
 ·cases e
theorem JK {h:Heap} {v:Value}:(∀ s,bare v = .str s 0→∀ t,Dq h v (.str s t))∧(∀ s,bare v = .bytes s 0→∀ t,Dq h v (.bytes s t))∧(∀ a,bare v = .ref a→v = .ref a)∧(bare v = .none→v = .none):=by
 refine ⟨fun s e t=>?_,fun s e t=>?_,fun a e=>Qh e,fun e=>JS e⟩
 ·obtain ⟨t',rfl⟩:=bare_str e;exact .str s t' t
 ·obtain ⟨t',rfl⟩:=bare_bytes e;exact .bytes s t' t
theorem vA {α β:Type} {f:α→β} {l:List α} {b:β} {r:List β} (h:l.map f=b::r):∃ a l',l=a::l'∧f a=b∧l'.map f=r:=by
 cases l with
 |nil=>simp at h
 |cons a l'=>simp only [List.map_cons,List.cons.injEq] at h;exact ⟨a,l',rfl,h.1,h.2⟩
theorem QD {α β:Type} {f:α→β} {l:List α} (h:l.map f=[]):l=[]:=by simpa using h
theorem dq_empty {C:Cfg} {h₀ h':Heap} {ws:List Addr} {m:List En} {n i:Nat} {b:Addr} {d:Option Addr} {ep:Nat} {sl:Array (Option Value)} (hR:Rp C h₀ ws m n h') (e:JA m i=some []) (hb:h'.get? b=some (vv d [] ep sl)):Dq h' (.ref (aAt m i)) (.ref b):=by
 obtain ⟨d',ep',sl',l0,g,q⟩:=JN hR e
 rw [QD q] at g
 exact KA g hb trivial
section
variable {w:World} {b1 b2 b3:Bool} {h:Heap}
def Qk (l:List Value) (b:Addr) (h:Heap):Prop:=h.get? b=some (vv none l 0 #[])
theorem st773 (hs:St (jb w b1 b2 b3) h):Qk [] 773 h:=hs _ _ (by kernel_rfl)
theorem st774 (hs:St (jb w b1 b2 b3) h):Qk [] 774 h:=hs _ _ (by kernel_rfl)
theorem st782 (hs:St (jb w b1 b2 b3) h):Qk [] 782 h:=hs _ _ (by kernel_rfl)
theorem st781 (hs:St (jb w b1 b2 b3) h):Qk [.str "G" 1284] 781 h:=hs _ _ (by kernel_rfl)
theorem st775 (hs:St (jb w b1 b2 b3) h):Qk [.str "ref" 1273,.str "A" 1274,.ref 773,.ref 774,.none] 775 h:=hs _ _ (by kernel_rfl)
theorem st783 (hs:St (jb w b1 b2 b3) h):Qk [.str "ref" 1282,.str "B" 1283,.ref 781,.ref 782,.none] 783 h:=hs _ _ (by kernel_rfl)
theorem st777 (hs:St (jb w b1 b2 b3) h):Qk [.str "text" 1276,.bytes ⟨[120]⟩ 1277] 777 h:=hs _ _ (by kernel_rfl)
theorem st779 (hs:St (jb w b1 b2 b3) h):Qk [.str "figure" 1279,.str "SPACE" 1280] 779 h:=hs _ _ (by kernel_rfl)
variable {lv:Nat} {hs:List Mine.Hook} {h₀ h':Heap} {ws:List Addr} {m:List En} {n:Nat}
theorem dq775 (hR:Rp (cfg (jb w b1 b2 b3) lv hs) h₀ ws m n h') {i j k:Nat} (e1:JA m i=some [.str "ref" 0,.str "A" 0,.ref (aAt m j),.ref (aAt m k),.none]) (e2:JA m j=some []) (e3:JA m k=some []):Dq h' (.ref (aAt m i)) (.ref 775):=by
 obtain ⟨d,ep,sl,l0,g,q⟩:=JN hR e1
 obtain ⟨v1,l1,rfl,q1,q⟩:=vA q
 obtain ⟨v2,l2,rfl,q2,q⟩:=vA q
 obtain ⟨v3,l3,rfl,q3,q⟩:=vA q
 obtain ⟨v4,l4,rfl,q4,q⟩:=vA q
 obtain ⟨v5,l5,rfl,q5,q⟩:=vA q
 rw [QD q] at g
 rw [Qh q3,Qh q4,JS q5] at g
 exact KA g (st775 hR.stat) ⟨JK.1 _ q1 _,JK.1 _ q2 _,dq_empty hR e2 (st773 hR.stat),dq_empty hR e3 (st774 hR.stat),.same _,trivial⟩
theorem dq783 (hR:Rp (cfg (jb w b1 b2 b3) lv hs) h₀ ws m n h') {i j k:Nat} (e1:JA m i=some [.str "ref" 0,.str "B" 0,.ref (aAt m j),.ref (aAt m k),.none]) (e2:JA m j=some [.str "G" 0]) (e3:JA m k=some []):Dq h' (.ref (aAt m i)) (.ref 783):=by
 obtain ⟨d,ep,sl,l0,g,q⟩:=JN hR e1
 obtain ⟨v1,l1,rfl,q1,q⟩:=vA q
 obtain ⟨v2,l2,rfl,q2,q⟩:=vA q
 obtain ⟨v3,l3,rfl,q3,q⟩:=vA q
 obtain ⟨v4,l4,rfl,q4,q⟩:=vA q
 obtain ⟨v5,l5,rfl,q5,q⟩:=vA q
 rw [QD q] at g
 rw [Qh q3,Qh q4,JS q5] at g
 obtain ⟨d',ep',sl',l0',g',q'⟩:=JN hR e2
 obtain ⟨u1,r1,rfl,p1,q'⟩:=vA q'
 rw [QD q'] at g'
 exact KA g (st783 hR.stat) ⟨JK.1 _ q1 _,JK.1 _ q2 _,KA g' (st781 hR.stat) ⟨JK.1 _ p1 _,trivial⟩,dq_empty hR e3 (st782 hR.stat),.same _,trivial⟩
theorem dq777 (hR:Rp (cfg (jb w b1 b2 b3) lv hs) h₀ ws m n h') {i:Nat} (e1:JA m i=some [.str "text" 0,.bytes ⟨[120]⟩ 0]):Dq h' (.ref (aAt m i)) (.ref 777):=by
 obtain ⟨d,ep,sl,l0,g,q⟩:=JN hR e1
 obtain ⟨v1,l1,rfl,q1,q⟩:=vA q
 obtain ⟨v2,l2,rfl,q2,q⟩:=vA q
 rw [QD q] at g
 exact KA g (st777 hR.stat) ⟨JK.1 _ q1 _,JK.2.1 _ q2 _,trivial⟩
theorem dq779 (hR:Rp (cfg (jb w b1 b2 b3) lv hs) h₀ ws m n h') {i:Nat} (e1:JA m i=some [.str "figure" 0,.str "SPACE" 0]):Dq h' (.ref (aAt m i)) (.ref 779):=by
 obtain ⟨d,ep,sl,l0,g,q⟩:=JN hR e1
 obtain ⟨v1,l1,rfl,q1,q⟩:=vA q
 obtain ⟨v2,l2,rfl,q2,q⟩:=vA q
 rw [QD q] at g
 exact KA g (st779 hR.stat) ⟨JK.1 _ q1 _,JK.1 _ q2 _,trivial⟩
end
noncomputable def dqF (m:List En) (i k:Nat):Value:=match m[i]? with
 |some e=>match e.dq[k]? with
  |some p=>p.1
  |none => .none
 |none => .none
noncomputable def dqS (m:List En) (i k:Nat):Option Value:=match m[i]? with
 |some e=>match e.dq[k]? with
  |some p=>some p.2
  |none=>none
 |none=>none
theorem vg {C:Cfg} {h₀ h':Heap} {ws:List Addr} {m:List En} {n i k:Nat} {v:Value} (hR:Rp C h₀ ws m n h') (e:dqS m i k=some v):Dq h' (dqF m i k) v:=by
 unfold dqS at e
 unfold dqF
 split at e
 ·rename_i x hx
  split at e
  ·rename_i p hp
   cases e
   exact hR.facts x (List.mem_of_getElem? hx) p (List.mem_of_getElem? hp)
  ·cases e
 ·cases e
def Kj:Hook:=vi (.builtin "dict.__contains__") 0
 (fun args _ hint=>oL2 args fun a b =>
  oRf a fun d =>
  oT (Nat.beq d 176) <|
  yp b fun s _ =>
  oL1 hint fun k =>
  match k with
   |0=>some {musts:=[s = "A"],V:=fun _ => .bool false}
   |1=>some {musts:=[s = "B"],V:=fun _ => .bool false}
   |_=>some {musts:=[s = "SPACE"],V:=fun _ => .bool true})
def figAtH:Hook:=vi (.builtin "dict.__getitem__") 0
 (fun args _ hint=>oL2 args fun a b =>
  oRf a fun d =>
  oT (Nat.beq d 176) <|
  yp b fun s _ =>
  oL0 hint <|
  some {musts:=[s = "SPACE"],V:=fun _ => .str "SPACE" 417})
section
variable {w:World} {lc:Nat} {hs:List Mine.Hook} {h₀:Heap} {ws:List Addr}
def ents176 (P:Params):Array DictEntry:=match (k_176 P).data with
 |.dict es _=>es
 |_=>#[]
theorem fig_map {h:Heap} (s:St w h):h.MapOf (strKind PW w) 176 (findBy (strKind PW w).is (ents176 w.params)):=by
 refine ⟨k_176 w.params,ents176 w.params,11,hs176 s,⟨rfl,rfl,rfl⟩,rfl,?_,fun _=>rfl⟩
 intro e he
 have he:=Array.mem_def.mp he
 have:∀ e∈(ents176 w.params).toList,∃ l t v,e=E w.params l t v:=by
  show ∀ e∈[_,_,_,_,_,_,_,_,_,_,_],_
  simp only [List.forall_mem_cons,List.not_mem_nil,false_implies,implies_true,and_true]
  exact ⟨⟨_,_,_,rfl⟩,⟨_,_,_,rfl⟩,⟨_,_,_,rfl⟩,⟨_,_,_,rfl⟩,⟨_,_,_,rfl⟩,⟨_,_,_,rfl⟩,⟨_,_,_,rfl⟩,⟨_,_,_,rfl⟩,⟨_,_,_,rfl⟩,⟨_,_,_,rfl⟩,⟨_,_,_,rfl⟩⟩
 obtain ⟨l,t,v,rfl⟩:=this e he
 exact ⟨S l,strKind_is PW w (S l) t,rfl⟩
where hs176 {h:Heap} (s:St w h):h.get? 176=some (k_176 w.params):=s _ _ (by kernel_rfl)
theorem VH:Kj.Ok (cfg w lc hs) PW w h₀ ws:=by
 refine jN fun args m hint=>?_
 refine iL2 fun _ _ b1=>iRf fun dd b2=>iT fun q=>?_
 have q:=Nat.eq_of_beq_eq_true q
 subst q
 refine yl fun x u b3=>iL1 fun _ bz=>?_
 subst b1 b2 b3 bz
 intro sp hs h he hm st hk _ A g d tk os R _ k
 have fin:∀ b:Bool,(findBy (strKind PW w).is (ents176 w.params) x).isSome=b→(∀ tk',R (.ok (.ret (.bool b))) ⟨h,g,d,tk',os⟩)→codeAny (model PW w) A (.call (.builtin "dict.__contains__") ⟨[.ref 176,.str x u],[]⟩) R ⟨h,g,d,tk,os⟩:=fun b hb kk=>by
  refine codeAny_call_builtin slot_dict_contains.plain entry_dict_contains (slot_dict_contains.check _ _ _ _ _ _ _ _ (fig_map st).typeIs (args_dict_contains _ _) ?_)
  refine meets_dict_contains (strKind PW w) 176 (strKind_is PW w x u) rfl A R _ ⟨_,fig_map st,?_⟩
  rw [hb]
  exact kk _
 split at hs
 ·cases hs
  have e:x = "A":=hm _ (.head _)
  subst e
  exact fin false (by kernel_rfl) fun tk'=>k _ h tk' (Old.refl _ _) ⟨0,rfl⟩
 ·cases hs
  have e:x = "B":=hm _ (.head _)
  subst e
  exact fin false (by kernel_rfl) fun tk'=>k _ h tk' (Old.refl _ _) ⟨0,rfl⟩
 ·cases hs
  have e:x = "SPACE":=hm _ (.head _)
  subst e
  exact fin true (by kernel_rfl) fun tk'=>k _ h tk' (Old.refl _ _) ⟨0,rfl⟩
theorem VI:figAtH.Ok (cfg w lc hs) PW w h₀ ws:=by
 refine jN fun args m hint=>?_
 refine iL2 fun _ _ b1=>iRf fun dd b2=>iT fun q=>?_
 have q:=Nat.eq_of_beq_eq_true q
 subst q
 refine yl fun x u b3=>iL0 fun b4=>?_
 subst b1 b2 b3 b4
 refine iE ?_
 intro h he hm st hk _ A g d tk os R _ k
 have e:x = "SPACE":=hm _ (.head _)
 clear he hm
 subst e
 refine codeAny_call_builtin slot_dict_getitem.plain entry_dict_getitem (slot_dict_getitem.check _ _ _ _ _ _ _ _ (fig_map st).typeIs (args_dict_getitem _ _) ?_)
 refine meets_dict_getitem (strKind PW w) 176 (strKind_is PW w _ u) A R _ ⟨_,.str "SPACE" 417,fig_map st,by kernel_rfl,?_⟩
 exact k _ h _ (Old.refl _ _) ⟨0,rfl⟩
end
def tr_rhA (b1 b2 b3:Bool):Tr:=T [1,1,0,1,2,0,0,0,2,0,0,0,2,0,0,0,0,2,3,0,1,3,1,2,1,0,1,0,0,0,1,1,1,1,0,1,3,0,0,0,3,0,0,0,3,0,0,0] (T [0,3,4,0,2,3,2,3,0,1,1,2,2,0,2,4,0,0,0,4,0,0,0,4,0,0,0,0,4,5,0,3,3,3,4,0,0,3,3,3,5,0,0,0,5,0,0,0] (T [5,0,0,0,0,5,6,0,4,2,4,5,0,3,0,0,1,1,0,1,1,1,0,1,1,1,0,1,1,1,2,1,1,1,0,1,1,1,2,1,1,1,0,1,1,1,2,1] (T [1,1,5,5,5,5,0,5,0,5,0,5,10,0,0,0,10,0,0,0,10,0,0,0,0,10,11,0,4,2,9,10,8,8,8,0,0,8,0,5,1,6,1,1,0,1,1,9] (T [9] .nil))))
def tr_rhB (b1 b2 b3:Bool):Tr:=T [1,1,0,1,2,0,0,0,2,0,0,0,2,0,0,0,0,2,3,0,1,3,1,2,1,0,1,0,0,0,1,1,1,1,0,1,3,0,0,0,3,0,0,0,3,0,0,0] (T [0,3,4,0,2,3,2,3,3,1,1,2,2,0,2,4,0,0,0,4,0,0,0,4,0,0,0,0,4,5,0,3,3,3,4,1,0,2,1,1,1,1,2,4,0,0,0,4] (T [0,0,0,4,0,0,0,0,4,5,0,2,3,3,4,5,0,1,1,1,1,0,2,4,0,0,0,4,0,0,0,4,0,0,0,0,4,5,0,3,3,3,4,0,0,3,3,3] (T [5,0,0,0,5,0,0,0,5,0,0,0,0,5,6,0,4,2,4,5,0,3,0,0,1,1,0,1,1,1,0,1,1,1,0,1,1,1,2,1,1,1,0,1,1,1,2,1] (T [1,1,0,1,1,1,2,1,1,1,5,5,5,5,0,5,0,5,0,5,10,0,0,0,10,0,0,0,10,0,0,0,0,10,11,0,4,2,9,10,8,8,8,0,0,8,0,5] (T [1,6,1,1,0,1,1,9,9] .nil)))))
def tr_thA (b1 b2 b3:Bool):Tr:=T [1,1,0,1,2,0,0,0,0,2,0,0,0,2,2,0,3,0,1,0,11,3,1,2,0,1,1,1,0,1,1,1,0,1,1,1,2,1,1,1,0,1,1,1,2,1,1,1] (T [0,1,1,1,2,1,1,1,5,5,5,5,0,5,0,0,1,1,0,0,1,0,12,3,6,7,1,0,1,0,0,0,1,1,1,1,0,1,8,0,0,0,8,0,0,0,8,0] (T [0,0,0,8,9,0,5,2,7,8,1,8,0,0,0,8,0,0,0,8,0,0,0,0,8,9,0,6,3,7,8,0,1,8,0,0,0,8,0,0,0,8,0,0,0,0,8,9] (T [0,8,3,7,8,0,0,1,0,0,1,1,0,1,9,0,0,0,9,0,0,0,9,0,0,0,0,9,10,0,6,3,8,9,1,1,9,0,0,0,9,0,0,0,9,0,0,0] (T [0,9,10,0,9,3,8,9,2,1,0,0,0,0,1,0,0,0,1,1,0,2,0,0,0,0,13,1,0,4,4,4,0,4,4,0,0,1,1,1,1,0,1,12,0,0,0,12] (T [0,0,0,12,0,0,0,0,12,13,0,2,3,11,12,0,1,1,2,2,0,2,13,0,0,0,13,0,0,0,13,0,0,0,0,13,14,0,3,3,12,13,0,0,3,3,3,14] (T [0,0,0,14,0,0,0,14,0,0,0,0,14,15,0,4,2,13,14,0,3,0,0,1,1,0,1,1,1,0,1,1,1,0,1,1,1,2,1,1,1,0,1,1,1,2,1,1] (T [1,0,1,1,1,2,1,1,1,5,5,5,5,0,5,0,5,0,5,19,0,0,0,19,0,0,0,19,0,0,0,0,19,20,0,4,2,18,19,8,8,8,0,0,8,0,15,1] (T [6,1,1,0,1,1,9,9,20,20,20,1,1,1,0,1,1,0,20,20] .nil))))))))
def tr_thX (b1 b2 b3:Bool):Tr:=T [1,1,0,1,2,0,0,0,0,2,0,0,0,2,2,0,3,0,1,0,11,3,1,2,0,1,1,1,0,1,1,1,0,1,1,1,2,1,1,1,0,1,1,1,2,1,1,1] (T [0,1,1,1,2,1,1,1,5,5,5,5,0,5,0,0,1,1,0,0,1,0,12,3,6,7,2,0,1,0,0,0,1,1,1,1,0,1,8,0,0,0,8,0,0,0,8,0] (T [0,0,0,8,9,0,5,2,7,8,1,8,0,0,0,8,0,0,0,8,0,0,0,0,8,9,0,6,3,7,8,1,1,8,0,0,0,8,0,0,0,8,0,0,0,0,8,9] (T [0,7,2,7,8,8,8,8,1,1,1,0,1,1,0,8,8] .nil)))
def tr_thS (b1 b2 b3:Bool):Tr:=T [1,1,0,1,2,0,0,0,0,2,0,0,0,2,2,0,3,0,1,0,11,3,1,2,0,1,1,1,0,1,1,1,0,1,1,1,2,1,1,1,0,1,1,1,2,1,1,1] (T [0,1,1,1,2,1,1,1,5,5,5,5,0,5,0,0,1,1,0,0,1,0,12,3,6,7,3,0,1,0,0,0,1,1,1,1,0,1,8,0,0,0,8,0,0,0,8,0] (T [0,0,0,8,9,0,5,2,7,8,1,8,0,0,0,8,0,0,0,8,0,0,0,0,8,9,0,6,3,7,8,0,1,8,0,0,0,8,0,0,0,8,0,0,0,0,8,9] (T [0,8,3,7,8,0,0,1,0,0,1,1,0,1,9,0,0,0,9,0,0,0,9,0,0,0,0,9,10,0,6,3,8,9,1,1,9,0,0,0,9,0,0,0,9,0,0,0] (T [0,9,10,0,9,3,8,9,4,1,0,0,0,0,1,0,0,0,1,1,0,2,0,0,0,0,13,1,2,0,3,11,0,0,0,11,0,0,0,11,0,0,0,0,11,12,0,10] (T [3,10,11,4,1,0,0,0,0,1,0,0,0,1,1,0,2,0,0,0,0,14,0,7,7,7,7,13,13,13,1,1,1,0,1,1,0,13,13] .nil)))))
def tr_thB (b1 b2 b3:Bool):Tr:=T [1,1,0,1,2,0,0,0,0,2,0,0,0,2,2,0,3,0,1,0,11,3,1,2,0,1,1,1,0,1,1,1,0,1,1,1,2,1,1,1,0,1,1,1,2,1,1,1] (T [0,1,1,1,2,1,1,1,5,5,5,5,0,5,0,0,1,1,0,0,1,0,12,3,6,7,4,0,1,0,0,0,1,1,1,1,0,1,8,0,0,0,8,0,0,0,8,0] (T [0,0,0,8,9,0,5,2,7,8,1,8,0,0,0,8,0,0,0,8,0,0,0,0,8,9,0,6,3,7,8,0,1,8,0,0,0,8,0,0,0,8,0,0,0,0,8,9] (T [0,8,3,7,8,0,0,1,0,0,1,1,0,1,9,0,0,0,9,0,0,0,9,0,0,0,0,9,10,0,6,3,8,9,1,1,9,0,0,0,9,0,0,0,9,0,0,0] (T [0,9,10,0,9,3,8,9,5,1,0,0,0,0,1,0,0,0,1,1,0,2,0,0,0,0,13,1,1,4,4,4,0,4,4,0,0,1,1,1,1,0,1,12,0,0,0,12] (T [0,0,0,12,0,0,0,0,12,13,0,2,3,11,12,3,1,1,2,2,0,2,13,0,0,0,13,0,0,0,13,0,0,0,0,13,14,0,3,3,12,13,1,0,2,1,1,1] (T [1,2,13,0,0,0,13,0,0,0,13,0,0,0,0,13,14,0,2,3,12,13,5,0,1,1,1,1,0,2,13,0,0,0,13,0,0,0,13,0,0,0,0,13,14,0,3,3] (T [12,13,0,0,3,3,3,14,0,0,0,14,0,0,0,14,0,0,0,0,14,15,0,4,2,13,14,0,3,0,0,1,1,0,1,1,1,0,1,1,1,0,1,1,1,2,1,1] (T [1,0,1,1,1,2,1,1,1,0,1,1,1,2,1,1,1,5,5,5,5,0,5,0,5,0,5,19,0,0,0,19,0,0,0,19,0,0,0,0,19,20,0,4,2,18,19,8] (T [8,8,0,0,8,0,15,1,6,1,1,0,1,1,9,9,20,20,20,1,1,1,0,1,1,0,20,20] .nil)))))))))
def tr_boA (b1 b2 b3:Bool):Tr:=T [1,1,0,1,2,0,0,0,2,0,0,0,2,0,0,0,0,2,3,0,1,2,1,2,1,2,0,0,0,2,0,0,0,2,0,0,0,0,2,3,0,2,3,1,2,0,1,2] (T [0,0,0,2,0,0,0,2,0,0,0,0,2,3,0,3,3,1,2,1] .nil)
def tr_btA (b1 b2 b3:Bool):Tr:=T [1,1,0,0,1,0,1,3,1,2,1,0,1,0,2,3,1,2,0] .nil
def tr_boX (b1 b2 b3:Bool):Tr:=T [1,1,0,1,2,0,0,0,2,0,0,0,2,0,0,0,0,2,3,0,1,2,1,2,1,2,0,0,0,2,0,0,0,2,0,0,0,0,2,3,0,2,3,1,2,1] .nil
def tr_btX (b1 b2 b3:Bool):Tr:=T [1,1,0,0,1,0,1,3,1,2,2,0,1,0,2,3,1,2,0] .nil
def tr_boS (b1 b2 b3:Bool):Tr:=T [1,1,0,1,2,0,0,0,2,0,0,0,2,0,0,0,0,2,3,0,1,2,1,2,1,2,0,0,0,2,0,0,0,2,0,0,0,0,2,3,0,2,3,1,2,0,1,2] (T [0,0,0,2,0,0,0,2,0,0,0,0,2,3,0,3,3,1,2,0,1,2,0,0,0,2,0,0,0,2,0,0,0,0,2,3,0,2,3,1,2,1,1,2,0,0,0,2] (T [0,0,0,2,0,0,0,0,2,3,0,4,3,1,2,4,1,0,0,0,0,1,0,0,0,1,1,0,2,0,0,0,0,0] .nil))
def tr_btS (b1 b2 b3:Bool):Tr:=T [1,1,0,0,1,0,1,3,1,2,3,0,1,0,2,3,1,2,0] .nil
def tr_boB (b1 b2 b3:Bool):Tr:=T [1,1,0,1,2,0,0,0,2,0,0,0,2,0,0,0,0,2,3,0,1,2,1,2,1,2,0,0,0,2,0,0,0,2,0,0,0,0,2,3,0,2,3,1,2,0,1,2] (T [0,0,0,2,0,0,0,2,0,0,0,0,2,3,0,3,3,1,2,1] .nil)
def tr_btB (b1 b2 b3:Bool):Tr:=T [1,1,0,0,1,0,1,3,1,2,4,0,1,0,2,3,1,2,0] .nil
def tr_boL (b1 b2 b3:Bool):Tr:=T [1,1,0,1,2,0,0,0,2,0,0,0,2,0,0,0,0,2,3,0,1,2,1,2,1,2,0,0,0,2,0,0,0,2,0,0,0,0,2,3,0,2,3,1,2,0,1,2] (T [0,0,0,2,0,0,0,2,0,0,0,0,2,3,0,3,3,1,2,0,1,2,0,0,0,2,0,0,0,2,0,0,0,0,2,3,0,2,3,1,2,1,1,2,0,0,0,2] (T [0,0,0,2,0,0,0,0,2,3,0,4,3,1,2,8,1,0,0,0,0,1,0,0,0,1,1,0,2,0,0,0,0,0] .nil))
def tr_btL (b1 b2 b3:Bool):Tr:=T [1,1,0,0,1,0,1,3,1,2,7,0,1,0,2,3,1,2,1] .nil
def tr_boR (b1 b2 b3:Bool):Tr:=T [1,1,0,1,2,0,0,0,2,0,0,0,2,0,0,0,0,2,3,0,1,2,1,2,1,2,0,0,0,2,0,0,0,2,0,0,0,0,2,3,0,2,3,1,2,0,1,2] (T [0,0,0,2,0,0,0,2,0,0,0,0,2,3,0,3,3,1,2,0,1,2,0,0,0,2,0,0,0,2,0,0,0,0,2,3,0,2,3,1,2,1,1,2,0,0,0,2] (T [0,0,0,2,0,0,0,0,2,3,0,4,3,1,2,19,1,0,0,0,0,1,0,0,0,1,1,0,2,0,0,0,0,0] .nil))
def tr_btR (b1 b2 b3:Bool):Tr:=T [1,1,0,0,1,0,1,3,1,2,18] .nil
def tr_boF (b1 b2 b3:Bool):Tr:=T [1,1,0,1,2,0,0,0,2,0,0,0,2,0,0,0,0,2,3,0,1,2,1,2,1,2,0,0,0,2,0,0,0,2,0,0,0,0,2,3,0,2,3,1,2,0,1,2] (T [0,0,0,2,0,0,0,2,0,0,0,0,2,3,0,3,3,1,2,0,1,2,0,0,0,2,0,0,0,2,0,0,0,0,2,3,0,2,3,1,2,1,1,2,0,0,0,2] (T [0,0,0,2,0,0,0,0,2,3,0,4,3,1,2,10,1,0,0,0,0,1,0,0,0,1,1,0,2,0,0,0,0,0] .nil))
def tr_btF (b1 b2 b3:Bool):Tr:=T [1,1,0,0,1,0,1,3,1,2,9] .nil
def tr_boC (b1 b2 b3:Bool):Tr:=T [1,1,0,1,2,0,0,0,2,0,0,0,2,0,0,0,0,2,3,0,1,2,1,2,1,2,0,0,0,2,0,0,0,2,0,0,0,0,2,3,0,2,3,1,2,0,1,2] (T [0,0,0,2,0,0,0,2,0,0,0,0,2,3,0,3,3,1,2,0,1,2,0,0,0,2,0,0,0,2,0,0,0,0,2,3,0,2,3,1,2,1,1,2,0,0,0,2] (T [0,0,0,2,0,0,0,0,2,3,0,4,3,1,2,11,1,0,0,0,0,1,0,0,0,1,1,0,2,0,0,0,0,0] .nil))
def tr_btC (b1 b2 b3:Bool):Tr:=T [1,1,0,0,1,0,1,3,1,2,10] .nil
def tr_boD (b1 b2 b3:Bool):Tr:=T [1,1,0,1,2,0,0,0,2,0,0,0,2,0,0,0,0,2,3,0,1,2,1,2,1,2,0,0,0,2,0,0,0,2,0,0,0,0,2,3,0,2,3,1,2,0,1,2] (T [0,0,0,2,0,0,0,2,0,0,0,0,2,3,0,3,3,1,2,0,1,2,0,0,0,2,0,0,0,2,0,0,0,0,2,3,0,2,3,1,2,1,1,2,0,0,0,2] (T [0,0,0,2,0,0,0,0,2,3,0,4,3,1,2,9,1,0,0,0,0,1,0,0,0,1,1,0,2,0,0,0,0,0] .nil))
def tr_btD (b1 b2 b3:Bool):Tr:=T [1,1,0,0,1,0,1,3,1,2,8] .nil
def tr_bon (b1 b2 b3:Bool):Tr:=T [1,1,0,1,2,0,0,0,2,0,0,0,2,0,0,0,0,2,3,0,1,2,1,2,1,2,0,0,0,2,0,0,0,2,0,0,0,0,2,3,0,2,3,1,2,0,1,2] (T [0,0,0,2,0,0,0,2,0,0,0,0,2,3,0,3,3,1,2,0,1,2,0,0,0,2,0,0,0,2,0,0,0,0,2,3,0,2,3,1,2,0] .nil)
def tr_btn (b1 b2 b3:Bool):Tr:=T [1,1,0,0,1,0,1,3,1,2,0] .nil
def tr_ocY (b1 b2 b3:Bool):Tr:=T [1,1,0,1,2,0,0,0,2,0,0,0,2,0,0,0,0,2,3,0,1,3,1,2,1,1,2,0,0,0,0,2,0,0,0,2,2,0,3,1,1,0,1,0,2,2,1,2] (T [0,0,1,0,3,3,1,2,1,1,1,1,1,2,0,0,0,0,2,0,2,0,2,0,0,0,2,0,3,3,3,1] .nil)
def tr_ocN (b1 b2 b3:Bool):Tr:=T [1,1,0,1,2,0,0,0,2,0,0,0,2,0,0,0,0,2,3,0,1,3,1,2,0] .nil
def tr_bdnn (b1 b2 b3:Bool):Tr:=T [1,1,0,1,1,1,0,1,1,1,0,1,1,1,2,1,1,1,0,1,1,1,2,1,1,1,0,1,1,1,2,1,1,1,5,5,5,5,0,5,5,6,0,0,0,6,0,0] (T [0,6,0,0,0,0,6,7,0,1,3,5,6,0,5,5,6,0,0,0,6,0,0,0,6,0,0,0,0,6,7,0,1,3,5,6,0,5,5] .nil)
def tr_bdbn (b1 b2 b3:Bool):Tr:=T [1,1,0,1,1,1,0,1,1,1,0,1,1,1,2,1,1,1,0,1,1,1,2,1,1,1,0,1,1,1,2,1,1,1,5,5,5,5,0,5,5,6,0,0,0,6,0,0] (T [0,6,0,0,0,0,6,7,0,1,3,5,6,1,5,6,0,0,0,6,0,0,0,6,0,0,0,0,6,7,0,1,3,5,6,1,0,5,0,2,2,5,6,5,5,0,5,5] (T [5,6,0,0,0,6,0,0,0,6,0,0,0,0,6,7,0,1,3,5,6,0,5,5] .nil))
def tr_bdna (b1 b2 b3:Bool):Tr:=T [1,1,0,1,1,1,0,1,1,1,0,1,1,1,2,1,1,1,0,1,1,1,2,1,1,1,0,1,1,1,2,1,1,1,5,5,5,5,0,5,5,6,0,0,0,6,0,0] (T [0,6,0,0,0,0,6,7,0,1,3,5,6,0,5,5,6,0,0,0,6,0,0,0,6,0,0,0,0,6,7,0,1,3,5,6,1,5,6,0,0,0,6,0,0,0,6,0] (T [0,0,0,6,7,0,1,3,5,6,1,0,5,0,2,2,5,6,5,5,0,5,5,6,0,0,0,6,0,0,0,6,0,0,0,0,6,7,0,1,3,5,6,0,5,5,5] .nil))
def tr_bdba (b1 b2 b3:Bool):Tr:=T [1,1,0,1,1,1,0,1,1,1,0,1,1,1,2,1,1,1,0,1,1,1,2,1,1,1,0,1,1,1,2,1,1,1,5,5,5,5,0,5,5,6,0,0,0,6,0,0] (T [0,6,0,0,0,0,6,7,0,1,3,5,6,1,5,6,0,0,0,6,0,0,0,6,0,0,0,0,6,7,0,1,3,5,6,1,0,5,0,2,2,5,6,5,5,0,5,5] (T [5,6,0,0,0,6,0,0,0,6,0,0,0,0,6,7,0,1,3,5,6,1,5,6,0,0,0,6,0,0,0,6,0,0,0,0,6,7,0,1,3,5,6,1,0,5,0,3] (T [2,5,6,5,5,0,5,5,5,5] .nil)))
theorem ok496 (w:World):vH (ktP w) 496=true:=by kernel_rfl
theorem ok517 (w:World):vH (ktP w) 517=true:=by kernel_rfl
theorem VY (w:World):vH (ktP w) 489=true:=by kernel_rfl
theorem VX (w:World):vH (ktP w) 524=true:=by kernel_rfl
theorem ok538 (w:World):vH (ktP w) 538=true:=by kernel_rfl
theorem ok531 (w:World):vH (ktP w) 531=true:=by kernel_rfl
theorem qC {ts:List Tk} {p:Nat} {x:Str} (e:ts[p]?=some ⟨false,x⟩) (r:yY x):¬ qO ts p:=fun ⟨t,e',_,n⟩=>by
 rw [e] at e';cases e';exact n r
theorem jx {ts:List Tk} {p:Nat} (e:ts.length≤p):¬ qO ts p:=fun ⟨t,e',_⟩=>by
 have:=(List.getElem?_eq_some_iff.mp e').1;omega
theorem vj {ts:List Tk} {p:Nat} {t:Tk} {k:Str} (e:ts[p]?=some t) (n:t.kind≠k):¬ jw ts p k:=fun ⟨t',e',q⟩=>by
 rw [e] at e';cases e';exact n q
theorem qH {ts:List Tk} {p:Nat} {k:Str} (e:ts.length≤p):¬ jw ts p k:=fun ⟨t',e',_⟩=>by
 have:=(List.getElem?_eq_some_iff.mp e').1;omega
theorem ju {ts:List Tk} {p:Nat} {t:Tk} {x:Str} (e:ts[p]?=some t) (n:t.s≠x):¬ ja ts p x:=fun q=>by
 have q:ts[p]?=_:=q
 rw [e] at q;exact n (congrArg Tk.s (Option.some.inj q))
theorem jH {ts:List Tk} {p:Nat} {x:Str} (e:ts.length≤p):¬ ja ts p x:=fun q=>by
 have:=(List.getElem?_eq_some_iff.mp q).1;omega
def BdRes (r:Result) (h':Heap) (b a:Value):Prop:=∃ t x y,r = .ok (.ret (.ref t))∧h'.get? t=some (vv none [x,y] 0 #[])∧Dq h' x b∧Dq h' y a
def tup2 (m:List En) (i:Nat):Option (Value×Value):=match oAt m i with
 |some o=>match o with
  |⟨c,d,dt,sl⟩=>match c with
   |.type t=>match decide (t = "tuple") with
    |true=>match d with
     |none=>match dt with
      |.seq xs ep=>match Nat.beq ep 0 with
       |true=>match sl with
        |⟨[]⟩=>match xs with
         |⟨[x,y]⟩=>some (x,y)
         |_=>none
        |_=>none
       |false=>none
      |_=>none
     |some _=>none
    |false=>none
   |_=>none
 |none=>none
theorem tup2_known {C:Cfg} {h₀ h':Heap} {ws:List Addr} {m:List En} {n i:Nat} {x y:Value} (hR:Rp C h₀ ws m n h') (e:tup2 m i=some (x,y)):h'.get? (aAt m i)=some (vv none [x,y] 0 #[]):=by
 unfold tup2 at e
 split at e
 ·rename_i o ho
  split at e
  split at e
  ·split at e
   ·rename_i q
    split at e
    ·split at e
     ·split at e
      ·rename_i q2
       split at e
       ·split at e
        ·cases e
         have q:=of_decide_eq_true q
         have q2:=Nat.eq_of_beq_eq_true q2
         subst q q2
         exact yk hR ho
        ·cases e
       ·cases e
      ·cases e
     ·cases e
    ·cases e
   ·cases e
  ·cases e
 ·cases e
theorem YQ {C:Cfg} {h₀ h':Heap} {ws:List Addr} {m:List En} {n:Nat} {x y b a:Value} {r:Result} (hR:Rp C h₀ ws m n h') (e1:r = .ok (.ret (.ref (aAt m 0)))) (e2:tup2 m 0=some (x,y)) (p:Dq h' x b) (q:Dq h' y a):BdRes r h' b a :=
 ⟨_,x,y,e1,tup2_known hR e2,p,q⟩
def Yb (D:Addr) (o:Obj) (v:Value) (z':Nat) (r:Result) (h':Heap):Prop:=∃ a,r = .ok (.ret (.ref a))∧Dq h' (.ref a) v∧∃ t,h'.get? D=some (jC o z' t)
theorem Vz {D:Addr} {o:Obj} {ms:List Prop} {v:Value} {r:Result} {h':Heap} {z':Nat}:Yb D o v z' r h'→Vu D o {musts:=ms,res:=fun y => .ok (.ret (.ref y.n)),mv:=some z',dq:=fun y=>[(.ref y.n,v)]} r h'
 |⟨a,q,d,t,e⟩=>⟨oraT {(default:Ora) with n:=a} t,q,fun _ q=>by cases q;rw [QA];exact e,fun _ q=>(nomatch q),fun p hp=>by
   cases hp with
   |head=>exact d
   |tail _ h=>nomatch h⟩
theorem bd_post {D:Addr} {o:Obj} {ms:List Prop} {b a:Value} {r:Result} {h':Heap} {z':Nat}:(BdRes r h' b a∧∃ t,h'.get? D=some (jC o z' t))→Vu D o {musts:=ms,res:=fun y => .ok (.ret (.ref y.n)),mv:=some z',news:=[((.type "tuple",0),fun y=>y.n,fun y=>⟨.type "tuple",none,.seq ⟨[y.v,y.v2]⟩ 0,#[]⟩)],dq:=fun y=>[(y.v,b),(y.v2,a)]} r h'
 |⟨⟨n,x,y,q,g,d1,d2⟩,t,e⟩=>⟨oraT {(default:Ora) with n:=n,v:=x,v2:=y} t,q,fun _ q=>by cases q;rw [QA];exact e,fun p hp=>by
   cases hp with
   |head=>exact ⟨g,rfl⟩
   |tail _ h=>(nomatch h),fun p hp=>by
   cases hp with
   |head=>exact d1
   |tail _ h=>cases h with
    |head=>exact d2
    |tail _ h=>nomatch h⟩
theorem begSp_i {ts:List Tk} {z:Nat} {hint yes:List Nat} {P:RdS→Prop} (h0:P {musts:=[ts.length≤z],res:=fun _ => .ok (.ret (.bool false))})
  (h1:∀ k t,voc[k]?=some t→k∈([0,1,2,3,6,7,8,9,17]:List Nat)→P {musts:=[ts[z]?=some t],res:=fun _ => .ok (.ret (.bool (yes.elem k)))}):Inv (begSp ts z hint yes) P :=
 iL1 fun k _=>match k with
  |0=>iE h0
  |k+1=>iS fun t qt=>iT fun qe=>iE (h1 k t qt (List.elem_iff.mp qe))
section
variable {w:World} {b1 b2 b3:Bool} {lv:Nat} {hs:List Mine.Hook} {h₀:Heap} {ws:List Addr} {h:Heap} {R D T:Addr} {o:Obj} {ts:List Tk} {z a ta:Nat} {x k:Str} {tx:Nat}
theorem rd_refA (A:jz (jb w b1 b2 b3) h R D o T ts z) (off:(ktP (jb w b1 b2 b3)).get D=none) (m0:qO ts z) (m1:ts[z]?=some {lit:=false,s:=Str.ofString "A"}) (m2:¬ja ts (z+1) "OF") (m3:¬ja ts (z+1) "IN"):jr (jb w b1 b2 b3) 8 (.call (.ref 496) ⟨[.ref R],[]⟩) h [D] (fun r h'=>∃ a,r = .ok (.ret (.ref a))∧(Dq h' (.ref a) (.ref 775))∧∃ t,h'.get? D=some (jC o (z+1) t)):=by
 refine rdE A.o fun h1 h2 h3 h4 k1 k2 k3 k4 tz n0 s0 ep' e0=>?_
 subst e0
 refine je (hooks:=[vE T ts,YA T ts,QP T ts,Kp T,JY]) (hkc (qM A.t (jf A.d A.o)) (hkc (QC A.t (jf A.d A.o)) (hkc (JP A.t (jf A.d A.o)) (hkc (Qb A.t (jf A.d A.o)) (hkc yx hkn))))) (fuel:=10000) (tr:=fun b1=>tr_rhA b1 b2 b3) (ok496 _) (A.shown off) fun n tk os bs _=>?_
 exact jj (fun r m=>(vR r,yW r,JA m 0,JA m 1,JA m 7,vT m)) (fun r m=>(true,aAt m 0,some [.str "ref" 0,.str "A" 0,.ref (aAt m 1),.ref (aAt m 7),.none],some [],some [],some (D,some (jC (rdO h1 h2 h3 h4 k1 k2 k3 k4 T z tz n0 s0 ep') (z+1) 0)))) (ps:=[(true,qO ts z),yt,(true,ts[z]?=some {lit:=false,s:=Str.ofString "A"}),(true,false=false),(true,¬yY "A"),yt,(true,¬ja ts (z+1) "OF"),(true,¬ja ts (z+1) "IN"),yt,yt,yt,(true,([]:List Value).length≤1000),yt]) (by kernel_rfl) (by kernel_rfl) (fun _ c=>⟨m0,(sk <| ⟨m1,⟨(by first | (with_reducible first | rfl | exact nrA | exact nrB | exact nrG | exact rvS) | (unfold jh;decide +kernel) | (unfold jc;decide +kernel) | (unfold jk;decide +kernel) | decide +kernel | rfl),⟨(by first | (with_reducible first | rfl | exact nrA | exact nrB | exact nrG | exact rvS) | (unfold jh;decide +kernel) | (unfold jc;decide +kernel) | (unfold jk;decide +kernel) | decide +kernel | rfl),(sk <| ⟨m2,⟨m3,(sk <| (sk <| (sk <| ⟨(Nat.le_of_ble_eq_true (by rfl)),(sk <| (c fun r m n tk e h' D'=>by
  refine pr6 e fun e1 e2 e3 e4 e5 e6=>?_
  exact ⟨aAt m 0,by rw [vl e1,e2],dq775 D' e3 e4 e5,ya D' A.o e6⟩))⟩)))⟩⟩)⟩⟩⟩)⟩)
theorem rd_refB (A:jz (jb w b1 b2 b3) h R D o T ts z) (off:(ktP (jb w b1 b2 b3)).get D=none) (m0:qO ts z) (m1:ts[z]?=some {lit:=false,s:=Str.ofString "B"}) (m2:ja ts (z+1) "OF") (m3:ts[z+2]?=some {lit:=false,s:=Str.ofString "G"}) (m4:¬ja ts (z+3) "OF") (m5:¬ja ts (z+3) "IN"):jr (jb w b1 b2 b3) 8 (.call (.ref 496) ⟨[.ref R],[]⟩) h [D] (fun r h'=>∃ a,r = .ok (.ret (.ref a))∧(Dq h' (.ref a) (.ref 783))∧∃ t,h'.get? D=some (jC o (z+3) t)):=by
 refine rdE A.o fun h1 h2 h3 h4 k1 k2 k3 k4 tz n0 s0 ep' e0=>?_
 subst e0
 refine je (hooks:=[vE T ts,YA T ts,QP T ts,Kp T,JY]) (hkc (qM A.t (jf A.d A.o)) (hkc (QC A.t (jf A.d A.o)) (hkc (JP A.t (jf A.d A.o)) (hkc (Qb A.t (jf A.d A.o)) (hkc yx hkn))))) (fuel:=10000) (tr:=fun b1=>tr_rhB b1 b2 b3) (ok496 _) (A.shown off) fun n tk os bs _=>?_
 exact jj (fun r m=>(vR r,yW r,JA m 0,JA m 1,JA m 7,vT m)) (fun r m=>(true,aAt m 0,some [.str "ref" 0,.str "B" 0,.ref (aAt m 1),.ref (aAt m 7),.none],some [.str "G" 0],some [],some (D,some (jC (rdO h1 h2 h3 h4 k1 k2 k3 k4 T z tz n0 s0 ep') (z+3) 0)))) (ps:=[(true,qO ts z),yt,(true,ts[z]?=some {lit:=false,s:=Str.ofString "B"}),(true,false=false),(true,¬yY "B"),yt,(true,ja ts (z+1) "OF"),yt,(true,ts[z+2]?=some {lit:=false,s:=Str.ofString "G"}),(true,false=false),(true,¬yY "G"),yt,(true,¬ja ts (z+3) "OF"),(true,¬ja ts (z+3) "IN"),yt,yt,yt,(true,(W.R.concatR #[].toList (Value.str "G" (jg (QP T ts).ar (jg (YA T ts).ar (jg (vE T ts).ar os)) (0+1)).n)).length≤1000),yt]) (by kernel_rfl) (by kernel_rfl) (fun _ c=>⟨m0,(sk <| ⟨m1,⟨(by first | (with_reducible first | rfl | exact nrA | exact nrB | exact nrG | exact rvS) | (unfold jh;decide +kernel) | (unfold jc;decide +kernel) | (unfold jk;decide +kernel) | decide +kernel | rfl),⟨(by first | (with_reducible first | rfl | exact nrA | exact nrB | exact nrG | exact rvS) | (unfold jh;decide +kernel) | (unfold jc;decide +kernel) | (unfold jk;decide +kernel) | decide +kernel | rfl),(sk <| ⟨m2,(sk <| ⟨m3,⟨(by first | (with_reducible first | rfl | exact nrA | exact nrB | exact nrG | exact rvS) | (unfold jh;decide +kernel) | (unfold jc;decide +kernel) | (unfold jk;decide +kernel) | decide +kernel | rfl),⟨(by first | (with_reducible first | rfl | exact nrA | exact nrB | exact nrG | exact rvS) | (unfold jh;decide +kernel) | (unfold jc;decide +kernel) | (unfold jk;decide +kernel) | decide +kernel | rfl),(sk <| ⟨m4,⟨m5,(sk <| (sk <| (sk <| ⟨(Nat.le_of_ble_eq_true (by rfl)),(sk <| (c fun r m n tk e h' D'=>by
  refine pr6 e fun e1 e2 e3 e4 e5 e6=>?_
  exact ⟨aAt m 0,by rw [vl e1,e2],dq783 D' e3 e4 e5,ya D' A.o e6⟩))⟩)))⟩⟩)⟩⟩⟩)⟩)⟩⟩⟩)⟩)
theorem refRead {v:Value} (A:jz (jb w b1 b2 b3) h R D o T ts z) (off:(ktP (jb w b1 b2 b3)).get D=none) (s:jy ts z v):jr (jb w b1 b2 b3) 8 (.call (.ref 496) ⟨[.ref R],[]⟩) h [D] (Yb D o v (z+opN v)):=by
 obtain ⟨hv,s⟩:=s
 rcases s with ⟨rfl,e0,n⟩ | ⟨rfl,_⟩ | ⟨rfl,_⟩ | ⟨rfl,e0,e1,e2,n⟩
 ·have e0:ts[z]?=_:=e0
  apply rd_refA A off <;> first | exact e0 | exact e1 | exact e2 | exact n.1 | exact n.2 | exact ⟨_,e0,rfl,by first | with_reducible exact nrA | with_reducible exact nrB | with_reducible exact nrG⟩ | exact ⟨_,e0,rfl⟩ | exact vj e0 (by decide +kernel) | exact ju e0 (by decide +kernel) | exact qC e0 (by with_reducible first | exact rvS | exact rvL | exact rvR | exact rvF | exact rvC | exact rvD) | exact not_name_lit e0 | exact qH e0 | exact jx e0 | exact jH e0
 ·rcases hv with q | q <;> exact absurd (Value.ref.inj q) (by decide)
 ·rcases hv with q | q <;> exact absurd (Value.ref.inj q) (by decide)
 ·have e0:ts[z]?=_:=e0
  apply rd_refB A off <;> first | exact e0 | exact e1 | exact e2 | exact n.1 | exact n.2 | exact ⟨_,e0,rfl,by first | with_reducible exact nrA | with_reducible exact nrB | with_reducible exact nrG⟩ | exact ⟨_,e0,rfl⟩ | exact vj e0 (by decide +kernel) | exact ju e0 (by decide +kernel) | exact qC e0 (by with_reducible first | exact rvS | exact rvL | exact rvR | exact rvF | exact rvC | exact rvD) | exact not_name_lit e0 | exact qH e0 | exact jx e0 | exact jH e0
theorem vX {v:Value} (ht:yG h₀ T ts) (hw:yO T h₀ ws):(qY v T ts).Ok (cfg (jb w b1 b2 b3) lv hs) PW (jb w b1 b2 b3) h₀ ws:=by
 refine qJ (ts:=ts) (fun rest z hint=>iL0 fun b1=>iL0 fun b2=>iE fun h R D o hm A off _=>?_) ht hw
 subst b1
 exact (refRead A (off rfl) (hm _ (.head _))).mono fun r h' _ q=>Vz q
theorem beg_all {P:Nat→Tk→Prop} (h0:P 0 ⟨false,"A"⟩) (h1:P 1 ⟨true,"x"⟩) (h2:P 2 ⟨false,"SPACE"⟩) (h3:P 3 ⟨false,"B"⟩) (h6:P 6 ⟨false,"ALL"⟩) (h7:P 7 ⟨false,"LEADING"⟩) (h8:P 8 ⟨false,"FIRST"⟩) (h9:P 9 ⟨false,"CHARACTERS"⟩) (h17:P 17 ⟨false,"REPLACING"⟩) :
  ∀ k t,voc[k]?=some t→k∈([0,1,2,3,6,7,8,9,17]:List Nat)→P k t:=by
 intro k t q hk
 simp only [List.mem_cons,List.not_mem_nil,or_false] at hk
 rcases hk with rfl | rfl | rfl | rfl | rfl | rfl | rfl | rfl | rfl <;> (cases q;assumption)
theorem bo_A (A:jz (jb w b1 b2 b3) h R D o T ts z) (m0:¬jw ts (z) "literal") (m1:qO ts z):jr (jb w b1 b2 b3) 6 (.call (.ref 489) ⟨[.ref R],[]⟩) h [] (jJ (.bool true)):=by
 refine rdE A.o fun h1 h2 h3 h4 k1 k2 k3 k4 tz n0 s0 ep' e0=>?_
 subst e0
 refine je (hooks:=[yd T,vf T ts,vE T ts,vB false T ts]) (hkc (vt A.t ji) (hkc (jO A.t ji) (hkc (qM A.t ji) (hkc (jK A.t ji) hkn)))) (fuel:=10000) (tr:=fun b1=>tr_boA b1 b2 b3) (VY _) (jl.ro A.st (l:=[(R,_),(D,_)]) ⟨A.r,A.d,trivial⟩) fun n tk os bs _=>?_
 exact jj (fun r m=>vd r) (fun r m => .ret (.bool true)) (ps:=[yt,(true,¬jw ts (z) "literal"),yt,(true,qO ts z),yt]) (by kernel_rfl) (by kernel_rfl) (fun _ c=>sk <| ⟨m0,(sk <| ⟨m1,(sk <| (c fun r m n tk e h' D'=>jm e))⟩)⟩)
theorem bo_X (A:jz (jb w b1 b2 b3) h R D o T ts z) (m0:jw ts (z) "literal"):jr (jb w b1 b2 b3) 6 (.call (.ref 489) ⟨[.ref R],[]⟩) h [] (jJ (.bool true)):=by
 refine rdE A.o fun h1 h2 h3 h4 k1 k2 k3 k4 tz n0 s0 ep' e0=>?_
 subst e0
 refine je (hooks:=[yd T,vf T ts,vE T ts,vB false T ts]) (hkc (vt A.t ji) (hkc (jO A.t ji) (hkc (qM A.t ji) (hkc (jK A.t ji) hkn)))) (fuel:=10000) (tr:=fun b1=>tr_boX b1 b2 b3) (VY _) (jl.ro A.st (l:=[(R,_),(D,_)]) ⟨A.r,A.d,trivial⟩) fun n tk os bs _=>?_
 exact jj (fun r m=>vd r) (fun r m => .ret (.bool true)) (ps:=[yt,(true,jw ts (z) "literal"),yt]) (by kernel_rfl) (by kernel_rfl) (fun _ c=>sk <| ⟨m0,(sk <| (c fun r m n tk e h' D'=>jm e))⟩)
theorem bo_S (A:jz (jb w b1 b2 b3) h R D o T ts z) (m0:¬jw ts (z) "literal") (m1:¬qO ts z) (m2:jw ts (z) "word") (m3:ts[z]?=some {lit:=false,s:=Str.ofString "SPACE"}):jr (jb w b1 b2 b3) 6 (.call (.ref 489) ⟨[.ref R],[]⟩) h [] (jJ (.bool true)):=by
 refine rdE A.o fun h1 h2 h3 h4 k1 k2 k3 k4 tz n0 s0 ep' e0=>?_
 subst e0
 refine je (hooks:=[yd T,vf T ts,vE T ts,vB false T ts]) (hkc (vt A.t ji) (hkc (jO A.t ji) (hkc (qM A.t ji) (hkc (jK A.t ji) hkn)))) (fuel:=10000) (tr:=fun b1=>tr_boS b1 b2 b3) (VY _) (jl.ro A.st (l:=[(R,_),(D,_)]) ⟨A.r,A.d,trivial⟩) fun n tk os bs _=>?_
 exact jj (fun r m=>vd r) (fun r m => .ret (.bool true)) (ps:=[yt,(true,¬jw ts (z) "literal"),yt,(true,¬qO ts z),yt,(true,jw ts (z) "word"),yt,(true,ts[z]?=some {lit:=false,s:=Str.ofString "SPACE"}),yt]) (by kernel_rfl) (by kernel_rfl) (fun _ c=>sk <| ⟨m0,(sk <| ⟨m1,(sk <| ⟨m2,(sk <| ⟨m3,(sk <| (c fun r m n tk e h' D'=>jm e))⟩)⟩)⟩)⟩)
theorem bo_B (A:jz (jb w b1 b2 b3) h R D o T ts z) (m0:¬jw ts (z) "literal") (m1:qO ts z):jr (jb w b1 b2 b3) 6 (.call (.ref 489) ⟨[.ref R],[]⟩) h [] (jJ (.bool true)):=by
 refine rdE A.o fun h1 h2 h3 h4 k1 k2 k3 k4 tz n0 s0 ep' e0=>?_
 subst e0
 refine je (hooks:=[yd T,vf T ts,vE T ts,vB false T ts]) (hkc (vt A.t ji) (hkc (jO A.t ji) (hkc (qM A.t ji) (hkc (jK A.t ji) hkn)))) (fuel:=10000) (tr:=fun b1=>tr_boB b1 b2 b3) (VY _) (jl.ro A.st (l:=[(R,_),(D,_)]) ⟨A.r,A.d,trivial⟩) fun n tk os bs _=>?_
 exact jj (fun r m=>vd r) (fun r m => .ret (.bool true)) (ps:=[yt,(true,¬jw ts (z) "literal"),yt,(true,qO ts z),yt]) (by kernel_rfl) (by kernel_rfl) (fun _ c=>sk <| ⟨m0,(sk <| ⟨m1,(sk <| (c fun r m n tk e h' D'=>jm e))⟩)⟩)
theorem bo_L (A:jz (jb w b1 b2 b3) h R D o T ts z) (m0:¬jw ts (z) "literal") (m1:¬qO ts z) (m2:jw ts (z) "word") (m3:ts[z]?=some {lit:=false,s:=Str.ofString "ALL"}):jr (jb w b1 b2 b3) 6 (.call (.ref 489) ⟨[.ref R],[]⟩) h [] (jJ (.bool true)):=by
 refine rdE A.o fun h1 h2 h3 h4 k1 k2 k3 k4 tz n0 s0 ep' e0=>?_
 subst e0
 refine je (hooks:=[yd T,vf T ts,vE T ts,vB false T ts]) (hkc (vt A.t ji) (hkc (jO A.t ji) (hkc (qM A.t ji) (hkc (jK A.t ji) hkn)))) (fuel:=10000) (tr:=fun b1=>tr_boL b1 b2 b3) (VY _) (jl.ro A.st (l:=[(R,_),(D,_)]) ⟨A.r,A.d,trivial⟩) fun n tk os bs _=>?_
 exact jj (fun r m=>vd r) (fun r m => .ret (.bool true)) (ps:=[yt,(true,¬jw ts (z) "literal"),yt,(true,¬qO ts z),yt,(true,jw ts (z) "word"),yt,(true,ts[z]?=some {lit:=false,s:=Str.ofString "ALL"}),yt]) (by kernel_rfl) (by kernel_rfl) (fun _ c=>sk <| ⟨m0,(sk <| ⟨m1,(sk <| ⟨m2,(sk <| ⟨m3,(sk <| (c fun r m n tk e h' D'=>jm e))⟩)⟩)⟩)⟩)
theorem bo_R (A:jz (jb w b1 b2 b3) h R D o T ts z) (m0:¬jw ts (z) "literal") (m1:¬qO ts z) (m2:jw ts (z) "word") (m3:ts[z]?=some {lit:=false,s:=Str.ofString "REPLACING"}):jr (jb w b1 b2 b3) 6 (.call (.ref 489) ⟨[.ref R],[]⟩) h [] (jJ (.bool false)):=by
 refine rdE A.o fun h1 h2 h3 h4 k1 k2 k3 k4 tz n0 s0 ep' e0=>?_
 subst e0
 refine je (hooks:=[yd T,vf T ts,vE T ts,vB false T ts]) (hkc (vt A.t ji) (hkc (jO A.t ji) (hkc (qM A.t ji) (hkc (jK A.t ji) hkn)))) (fuel:=10000) (tr:=fun b1=>tr_boR b1 b2 b3) (VY _) (jl.ro A.st (l:=[(R,_),(D,_)]) ⟨A.r,A.d,trivial⟩) fun n tk os bs _=>?_
 exact jj (fun r m=>vd r) (fun r m => .ret (.bool false)) (ps:=[yt,(true,¬jw ts (z) "literal"),yt,(true,¬qO ts z),yt,(true,jw ts (z) "word"),yt,(true,ts[z]?=some {lit:=false,s:=Str.ofString "REPLACING"}),yt]) (by kernel_rfl) (by kernel_rfl) (fun _ c=>sk <| ⟨m0,(sk <| ⟨m1,(sk <| ⟨m2,(sk <| ⟨m3,(sk <| (c fun r m n tk e h' D'=>jm e))⟩)⟩)⟩)⟩)
theorem bo_F (A:jz (jb w b1 b2 b3) h R D o T ts z) (m0:¬jw ts (z) "literal") (m1:¬qO ts z) (m2:jw ts (z) "word") (m3:ts[z]?=some {lit:=false,s:=Str.ofString "FIRST"}):jr (jb w b1 b2 b3) 6 (.call (.ref 489) ⟨[.ref R],[]⟩) h [] (jJ (.bool false)):=by
 refine rdE A.o fun h1 h2 h3 h4 k1 k2 k3 k4 tz n0 s0 ep' e0=>?_
 subst e0
 refine je (hooks:=[yd T,vf T ts,vE T ts,vB false T ts]) (hkc (vt A.t ji) (hkc (jO A.t ji) (hkc (qM A.t ji) (hkc (jK A.t ji) hkn)))) (fuel:=10000) (tr:=fun b1=>tr_boF b1 b2 b3) (VY _) (jl.ro A.st (l:=[(R,_),(D,_)]) ⟨A.r,A.d,trivial⟩) fun n tk os bs _=>?_
 exact jj (fun r m=>vd r) (fun r m => .ret (.bool false)) (ps:=[yt,(true,¬jw ts (z) "literal"),yt,(true,¬qO ts z),yt,(true,jw ts (z) "word"),yt,(true,ts[z]?=some {lit:=false,s:=Str.ofString "FIRST"}),yt]) (by kernel_rfl) (by kernel_rfl) (fun _ c=>sk <| ⟨m0,(sk <| ⟨m1,(sk <| ⟨m2,(sk <| ⟨m3,(sk <| (c fun r m n tk e h' D'=>jm e))⟩)⟩)⟩)⟩)
theorem bo_C (A:jz (jb w b1 b2 b3) h R D o T ts z) (m0:¬jw ts (z) "literal") (m1:¬qO ts z) (m2:jw ts (z) "word") (m3:ts[z]?=some {lit:=false,s:=Str.ofString "CHARACTERS"}):jr (jb w b1 b2 b3) 6 (.call (.ref 489) ⟨[.ref R],[]⟩) h [] (jJ (.bool false)):=by
 refine rdE A.o fun h1 h2 h3 h4 k1 k2 k3 k4 tz n0 s0 ep' e0=>?_
 subst e0
 refine je (hooks:=[yd T,vf T ts,vE T ts,vB false T ts]) (hkc (vt A.t ji) (hkc (jO A.t ji) (hkc (qM A.t ji) (hkc (jK A.t ji) hkn)))) (fuel:=10000) (tr:=fun b1=>tr_boC b1 b2 b3) (VY _) (jl.ro A.st (l:=[(R,_),(D,_)]) ⟨A.r,A.d,trivial⟩) fun n tk os bs _=>?_
 exact jj (fun r m=>vd r) (fun r m => .ret (.bool false)) (ps:=[yt,(true,¬jw ts (z) "literal"),yt,(true,¬qO ts z),yt,(true,jw ts (z) "word"),yt,(true,ts[z]?=some {lit:=false,s:=Str.ofString "CHARACTERS"}),yt]) (by kernel_rfl) (by kernel_rfl) (fun _ c=>sk <| ⟨m0,(sk <| ⟨m1,(sk <| ⟨m2,(sk <| ⟨m3,(sk <| (c fun r m n tk e h' D'=>jm e))⟩)⟩)⟩)⟩)
theorem bo_D (A:jz (jb w b1 b2 b3) h R D o T ts z) (m0:¬jw ts (z) "literal") (m1:¬qO ts z) (m2:jw ts (z) "word") (m3:ts[z]?=some {lit:=false,s:=Str.ofString "LEADING"}):jr (jb w b1 b2 b3) 6 (.call (.ref 489) ⟨[.ref R],[]⟩) h [] (jJ (.bool false)):=by
 refine rdE A.o fun h1 h2 h3 h4 k1 k2 k3 k4 tz n0 s0 ep' e0=>?_
 subst e0
 refine je (hooks:=[yd T,vf T ts,vE T ts,vB false T ts]) (hkc (vt A.t ji) (hkc (jO A.t ji) (hkc (qM A.t ji) (hkc (jK A.t ji) hkn)))) (fuel:=10000) (tr:=fun b1=>tr_boD b1 b2 b3) (VY _) (jl.ro A.st (l:=[(R,_),(D,_)]) ⟨A.r,A.d,trivial⟩) fun n tk os bs _=>?_
 exact jj (fun r m=>vd r) (fun r m => .ret (.bool false)) (ps:=[yt,(true,¬jw ts (z) "literal"),yt,(true,¬qO ts z),yt,(true,jw ts (z) "word"),yt,(true,ts[z]?=some {lit:=false,s:=Str.ofString "LEADING"}),yt]) (by kernel_rfl) (by kernel_rfl) (fun _ c=>sk <| ⟨m0,(sk <| ⟨m1,(sk <| ⟨m2,(sk <| ⟨m3,(sk <| (c fun r m n tk e h' D'=>jm e))⟩)⟩)⟩)⟩)
theorem bo_n (A:jz (jb w b1 b2 b3) h R D o T ts z) (m0:¬jw ts (z) "literal") (m1:¬qO ts z) (m2:¬jw ts (z) "word"):jr (jb w b1 b2 b3) 6 (.call (.ref 489) ⟨[.ref R],[]⟩) h [] (jJ (.bool false)):=by
 refine rdE A.o fun h1 h2 h3 h4 k1 k2 k3 k4 tz n0 s0 ep' e0=>?_
 subst e0
 refine je (hooks:=[yd T,vf T ts,vE T ts,vB false T ts]) (hkc (vt A.t ji) (hkc (jO A.t ji) (hkc (qM A.t ji) (hkc (jK A.t ji) hkn)))) (fuel:=10000) (tr:=fun b1=>tr_bon b1 b2 b3) (VY _) (jl.ro A.st (l:=[(R,_),(D,_)]) ⟨A.r,A.d,trivial⟩) fun n tk os bs _=>?_
 exact jj (fun r m=>vd r) (fun r m => .ret (.bool false)) (ps:=[yt,(true,¬jw ts (z) "literal"),yt,(true,¬qO ts z),yt,(true,¬jw ts (z) "word"),yt]) (by kernel_rfl) (by kernel_rfl) (fun _ c=>sk <| ⟨m0,(sk <| ⟨m1,(sk <| ⟨m2,(sk <| (c fun r m n tk e h' D'=>jm e))⟩)⟩)⟩)
theorem vI (ht:yG h₀ T ts) (hw:yO T h₀ ws):(yN T ts).Ok (cfg (jb w b1 b2 b3) lv hs) PW (jb w b1 b2 b3) h₀ ws:=by
 refine qJ (ts:=ts) (fun rest z hint=>iL0 fun b1=>?_) ht hw
 subst b1
 refine begSp_i ?_ ?_
 ·intro h R D o hm A off _
  have e0:ts.length≤z:=hm _ (.head _)
  refine jr.mono ?_ fun r h' _ q=>vx q
  apply bo_n A <;> first | exact e0 | exact e1 | exact e2 | exact n.1 | exact n.2 | exact ⟨_,e0,rfl,by first | with_reducible exact nrA | with_reducible exact nrB | with_reducible exact nrG⟩ | exact ⟨_,e0,rfl⟩ | exact vj e0 (by decide +kernel) | exact ju e0 (by decide +kernel) | exact qC e0 (by with_reducible first | exact rvS | exact rvL | exact rvR | exact rvF | exact rvC | exact rvD) | exact not_name_lit e0 | exact qH e0 | exact jx e0 | exact jH e0
 ·intro k t qv qk h R D o hm A off _
  have e0:ts[z]?=some t:=hm _ (.head _)
  refine jr.mono ?_ fun r h' _ q=>vx q
  clear hm
  revert e0
  refine beg_all (P:=fun k t=>ts[z]?=some t→jr _ 6 _ h [] fun r _=>r = .ok (.ret (.bool (([0,1,2,3,6]:List Nat).elem k)))) ?_ ?_ ?_ ?_ ?_ ?_ ?_ ?_ ?_ k t qv qk <;> intro e0
  ·apply bo_A A <;> first | exact e0 | exact e1 | exact e2 | exact n.1 | exact n.2 | exact ⟨_,e0,rfl,by first | with_reducible exact nrA | with_reducible exact nrB | with_reducible exact nrG⟩ | exact ⟨_,e0,rfl⟩ | exact vj e0 (by decide +kernel) | exact ju e0 (by decide +kernel) | exact qC e0 (by with_reducible first | exact rvS | exact rvL | exact rvR | exact rvF | exact rvC | exact rvD) | exact not_name_lit e0 | exact qH e0 | exact jx e0 | exact jH e0
  ·apply bo_X A <;> first | exact e0 | exact e1 | exact e2 | exact n.1 | exact n.2 | exact ⟨_,e0,rfl,by first | with_reducible exact nrA | with_reducible exact nrB | with_reducible exact nrG⟩ | exact ⟨_,e0,rfl⟩ | exact vj e0 (by decide +kernel) | exact ju e0 (by decide +kernel) | exact qC e0 (by with_reducible first | exact rvS | exact rvL | exact rvR | exact rvF | exact rvC | exact rvD) | exact not_name_lit e0 | exact qH e0 | exact jx e0 | exact jH e0
  ·apply bo_S A <;> first | exact e0 | exact e1 | exact e2 | exact n.1 | exact n.2 | exact ⟨_,e0,rfl,by first | with_reducible exact nrA | with_reducible exact nrB | with_reducible exact nrG⟩ | exact ⟨_,e0,rfl⟩ | exact vj e0 (by decide +kernel) | exact ju e0 (by decide +kernel) | exact qC e0 (by with_reducible first | exact rvS | exact rvL | exact rvR | exact rvF | exact rvC | exact rvD) | exact not_name_lit e0 | exact qH e0 | exact jx e0 | exact jH e0
  ·apply bo_B A <;> first | exact e0 | exact e1 | exact e2 | exact n.1 | exact n.2 | exact ⟨_,e0,rfl,by first | with_reducible exact nrA | with_reducible exact nrB | with_reducible exact nrG⟩ | exact ⟨_,e0,rfl⟩ | exact vj e0 (by decide +kernel) | exact ju e0 (by decide +kernel) | exact qC e0 (by with_reducible first | exact rvS | exact rvL | exact rvR | exact rvF | exact rvC | exact rvD) | exact not_name_lit e0 | exact qH e0 | exact jx e0 | exact jH e0
  ·apply bo_L A <;> first | exact e0 | exact e1 | exact e2 | exact n.1 | exact n.2 | exact ⟨_,e0,rfl,by first | with_reducible exact nrA | with_reducible exact nrB | with_reducible exact nrG⟩ | exact ⟨_,e0,rfl⟩ | exact vj e0 (by decide +kernel) | exact ju e0 (by decide +kernel) | exact qC e0 (by with_reducible first | exact rvS | exact rvL | exact rvR | exact rvF | exact rvC | exact rvD) | exact not_name_lit e0 | exact qH e0 | exact jx e0 | exact jH e0
  ·apply bo_D A <;> first | exact e0 | exact e1 | exact e2 | exact n.1 | exact n.2 | exact ⟨_,e0,rfl,by first | with_reducible exact nrA | with_reducible exact nrB | with_reducible exact nrG⟩ | exact ⟨_,e0,rfl⟩ | exact vj e0 (by decide +kernel) | exact ju e0 (by decide +kernel) | exact qC e0 (by with_reducible first | exact rvS | exact rvL | exact rvR | exact rvF | exact rvC | exact rvD) | exact not_name_lit e0 | exact qH e0 | exact jx e0 | exact jH e0
  ·apply bo_F A <;> first | exact e0 | exact e1 | exact e2 | exact n.1 | exact n.2 | exact ⟨_,e0,rfl,by first | with_reducible exact nrA | with_reducible exact nrB | with_reducible exact nrG⟩ | exact ⟨_,e0,rfl⟩ | exact vj e0 (by decide +kernel) | exact ju e0 (by decide +kernel) | exact qC e0 (by with_reducible first | exact rvS | exact rvL | exact rvR | exact rvF | exact rvC | exact rvD) | exact not_name_lit e0 | exact qH e0 | exact jx e0 | exact jH e0
  ·apply bo_C A <;> first | exact e0 | exact e1 | exact e2 | exact n.1 | exact n.2 | exact ⟨_,e0,rfl,by first | with_reducible exact nrA | with_reducible exact nrB | with_reducible exact nrG⟩ | exact ⟨_,e0,rfl⟩ | exact vj e0 (by decide +kernel) | exact ju e0 (by decide +kernel) | exact qC e0 (by with_reducible first | exact rvS | exact rvL | exact rvR | exact rvF | exact rvC | exact rvD) | exact not_name_lit e0 | exact qH e0 | exact jx e0 | exact jH e0
  ·apply bo_R A <;> first | exact e0 | exact e1 | exact e2 | exact n.1 | exact n.2 | exact ⟨_,e0,rfl,by first | with_reducible exact nrA | with_reducible exact nrB | with_reducible exact nrG⟩ | exact ⟨_,e0,rfl⟩ | exact vj e0 (by decide +kernel) | exact ju e0 (by decide +kernel) | exact qC e0 (by with_reducible first | exact rvS | exact rvL | exact rvR | exact rvF | exact rvC | exact rvD) | exact not_name_lit e0 | exact qH e0 | exact jx e0 | exact jH e0
theorem txtA (A:jz (jb w b1 b2 b3) h R D o T ts z) (off:(ktP (jb w b1 b2 b3)).get D=none) (m0:¬ja ts (z) "ALL") (m1:ts[z]?=some {lit:=false,s:=Str.ofString "A"}) (m2:¬jw ts (z) "literal") (m3:¬ja ts z "ALL") (m4:jw ts (z) "word") (m5:¬ja ts (z+1) "OF") (m6:¬ja ts (z+1) "IN"):jr (jb w b1 b2 b3) 10 (.call (.ref 517) ⟨[.ref R],[]⟩) h [D] (fun r h'=>∃ a,r = .ok (.ret (.ref a))∧(Dq h' (.ref a) (.ref 775))∧∃ t,h'.get? D=some (jC o (z+1) t)):=by
 refine rdE A.o fun h1 h2 h3 h4 k1 k2 k3 k4 tz n0 s0 ep' e0=>?_
 subst e0
 refine je (hooks:=[vE T ts,YA T ts,QP T ts,Kp T,yd T,vf T ts,Yx T ts,jo T ts,vB false T ts,takeH false T ts,qV T ts,yN T ts,Kj,figAtH,JY]) (hkc (qM A.t (jf A.d A.o)) (hkc (QC A.t (jf A.d A.o)) (hkc (JP A.t (jf A.d A.o)) (hkc (Qb A.t (jf A.d A.o)) (hkc (vt A.t (jf A.d A.o)) (hkc (jO A.t (jf A.d A.o)) (hkc (QQ A.t (jf A.d A.o)) (hkc (jQ A.t (jf A.d A.o)) (hkc (jK A.t (jf A.d A.o)) (hkc (Vb A.t (jf A.d A.o)) (hkc (jY A.t (jf A.d A.o)) (hkc (vI A.t (jf A.d A.o)) (hkc VH (hkc VI (hkc yx hkn))))))))))))))) (fuel:=10000) (tr:=fun b1=>tr_thA b1 b2 b3) (ok517 _) (A.shown off) fun n tk os bs _=>?_
 exact jj (fun r m=>(vR r,yW r,JA m 0,JA m 1,JA m 7,vT m)) (fun r m=>(true,aAt m 0,some [.str "ref" 0,.str "A" 0,.ref (aAt m 1),.ref (aAt m 7),.none],some [],some [],some (D,some (jC (rdO h1 h2 h3 h4 k1 k2 k3 k4 T z tz n0 s0 ep') (z+1) 0)))) (ps:=[(true,¬ja ts (z) "ALL"),yt,(true,ts[z]?=some {lit:=false,s:=Str.ofString "A"}),yt,yt,(true,¬jw ts (z) "literal"),yt,(true,jh "ALL"),(true,¬ja ts z "ALL"),yt,(true,jw ts (z) "word"),yt,(true,ts[z]?=some {lit:=false,s:=Str.ofString "A"}),yt,(true,Str.ofString "A" = Str.ofString "A"),(true,ts[z]?=some {lit:=false,s:=Str.ofString "A"}),(true,false=false),(true,¬yY "A"),yt,(true,¬ja ts (z+1) "OF"),(true,¬ja ts (z+1) "IN"),yt,yt,yt,(true,([]:List Value).length≤1000),yt]) (by kernel_rfl) (by kernel_rfl) (fun _ c=>⟨m0,(sk <| ⟨m1,(sk <| (sk <| ⟨m2,(sk <| ⟨(by first | (with_reducible first | rfl | exact nrA | exact nrB | exact nrG | exact rvS) | (unfold jh;decide +kernel) | (unfold jc;decide +kernel) | (unfold jk;decide +kernel) | decide +kernel | rfl),⟨m3,(sk <| ⟨m4,(sk <| ⟨m1,(sk <| ⟨(by first | (with_reducible first | rfl | exact nrA | exact nrB | exact nrG | exact rvS) | (unfold jh;decide +kernel) | (unfold jc;decide +kernel) | (unfold jk;decide +kernel) | decide +kernel | rfl),⟨m1,⟨(by first | (with_reducible first | rfl | exact nrA | exact nrB | exact nrG | exact rvS) | (unfold jh;decide +kernel) | (unfold jc;decide +kernel) | (unfold jk;decide +kernel) | decide +kernel | rfl),⟨(by first | (with_reducible first | rfl | exact nrA | exact nrB | exact nrG | exact rvS) | (unfold jh;decide +kernel) | (unfold jc;decide +kernel) | (unfold jk;decide +kernel) | decide +kernel | rfl),(sk <| ⟨m5,⟨m6,(sk <| (sk <| (sk <| ⟨(Nat.le_of_ble_eq_true (by rfl)),(sk <| (c fun r m n tk e h' D'=>by
  refine pr6 e fun e1 e2 e3 e4 e5 e6=>?_
  exact ⟨aAt m 0,by rw [vl e1,e2],dq775 D' e3 e4 e5,ya D' A.o e6⟩))⟩)))⟩⟩)⟩⟩⟩⟩)⟩)⟩)⟩⟩)⟩))⟩)⟩)
theorem txtB (A:jz (jb w b1 b2 b3) h R D o T ts z) (off:(ktP (jb w b1 b2 b3)).get D=none) (m0:¬ja ts (z) "ALL") (m1:ts[z]?=some {lit:=false,s:=Str.ofString "B"}) (m2:¬jw ts (z) "literal") (m3:¬ja ts z "ALL") (m4:jw ts (z) "word") (m5:ja ts (z+1) "OF") (m6:ts[z+2]?=some {lit:=false,s:=Str.ofString "G"}) (m7:¬ja ts (z+3) "OF") (m8:¬ja ts (z+3) "IN"):jr (jb w b1 b2 b3) 10 (.call (.ref 517) ⟨[.ref R],[]⟩) h [D] (fun r h'=>∃ a,r = .ok (.ret (.ref a))∧(Dq h' (.ref a) (.ref 783))∧∃ t,h'.get? D=some (jC o (z+3) t)):=by
 refine rdE A.o fun h1 h2 h3 h4 k1 k2 k3 k4 tz n0 s0 ep' e0=>?_
 subst e0
 refine je (hooks:=[vE T ts,YA T ts,QP T ts,Kp T,yd T,vf T ts,Yx T ts,jo T ts,vB false T ts,takeH false T ts,qV T ts,yN T ts,Kj,figAtH,JY]) (hkc (qM A.t (jf A.d A.o)) (hkc (QC A.t (jf A.d A.o)) (hkc (JP A.t (jf A.d A.o)) (hkc (Qb A.t (jf A.d A.o)) (hkc (vt A.t (jf A.d A.o)) (hkc (jO A.t (jf A.d A.o)) (hkc (QQ A.t (jf A.d A.o)) (hkc (jQ A.t (jf A.d A.o)) (hkc (jK A.t (jf A.d A.o)) (hkc (Vb A.t (jf A.d A.o)) (hkc (jY A.t (jf A.d A.o)) (hkc (vI A.t (jf A.d A.o)) (hkc VH (hkc VI (hkc yx hkn))))))))))))))) (fuel:=10000) (tr:=fun b1=>tr_thB b1 b2 b3) (ok517 _) (A.shown off) fun n tk os bs _=>?_
 exact jj (fun r m=>(vR r,yW r,JA m 0,JA m 1,JA m 7,vT m)) (fun r m=>(true,aAt m 0,some [.str "ref" 0,.str "B" 0,.ref (aAt m 1),.ref (aAt m 7),.none],some [.str "G" 0],some [],some (D,some (jC (rdO h1 h2 h3 h4 k1 k2 k3 k4 T z tz n0 s0 ep') (z+3) 0)))) (ps:=[(true,¬ja ts (z) "ALL"),yt,(true,ts[z]?=some {lit:=false,s:=Str.ofString "B"}),yt,yt,(true,¬jw ts (z) "literal"),yt,(true,jh "ALL"),(true,¬ja ts z "ALL"),yt,(true,jw ts (z) "word"),yt,(true,ts[z]?=some {lit:=false,s:=Str.ofString "B"}),yt,(true,Str.ofString "B" = Str.ofString "B"),(true,ts[z]?=some {lit:=false,s:=Str.ofString "B"}),(true,false=false),(true,¬yY "B"),yt,(true,ja ts (z+1) "OF"),yt,(true,ts[z+2]?=some {lit:=false,s:=Str.ofString "G"}),(true,false=false),(true,¬yY "G"),yt,(true,¬ja ts (z+3) "OF"),(true,¬ja ts (z+3) "IN"),yt,yt,yt,(true,(W.R.concatR #[].toList (Value.str "G" (jg (QP T ts).ar (jg (YA T ts).ar (jg Kj.ar (jg (vB false T ts).ar (jg (vf T ts).ar (jg (jo T ts).ar (jg (vf T ts).ar (jg (yd T).ar (jg (yN T ts).ar (jg (qV T ts).ar os))))))))) (0+1)).n)).length≤1000),yt]) (by kernel_rfl) (by kernel_rfl) (fun _ c=>⟨m0,(sk <| ⟨m1,(sk <| (sk <| ⟨m2,(sk <| ⟨(by first | (with_reducible first | rfl | exact nrA | exact nrB | exact nrG | exact rvS) | (unfold jh;decide +kernel) | (unfold jc;decide +kernel) | (unfold jk;decide +kernel) | decide +kernel | rfl),⟨m3,(sk <| ⟨m4,(sk <| ⟨m1,(sk <| ⟨(by first | (with_reducible first | rfl | exact nrA | exact nrB | exact nrG | exact rvS) | (unfold jh;decide +kernel) | (unfold jc;decide +kernel) | (unfold jk;decide +kernel) | decide +kernel | rfl),⟨m1,⟨(by first | (with_reducible first | rfl | exact nrA | exact nrB | exact nrG | exact rvS) | (unfold jh;decide +kernel) | (unfold jc;decide +kernel) | (unfold jk;decide +kernel) | decide +kernel | rfl),⟨(by first | (with_reducible first | rfl | exact nrA | exact nrB | exact nrG | exact rvS) | (unfold jh;decide +kernel) | (unfold jc;decide +kernel) | (unfold jk;decide +kernel) | decide +kernel | rfl),(sk <| ⟨m5,(sk <| ⟨m6,⟨(by first | (with_reducible first | rfl | exact nrA | exact nrB | exact nrG | exact rvS) | (unfold jh;decide +kernel) | (unfold jc;decide +kernel) | (unfold jk;decide +kernel) | decide +kernel | rfl),⟨(by first | (with_reducible first | rfl | exact nrA | exact nrB | exact nrG | exact rvS) | (unfold jh;decide +kernel) | (unfold jc;decide +kernel) | (unfold jk;decide +kernel) | decide +kernel | rfl),(sk <| ⟨m7,⟨m8,(sk <| (sk <| (sk <| ⟨(Nat.le_of_ble_eq_true (by rfl)),(sk <| (c fun r m n tk e h' D'=>by
  refine pr6 e fun e1 e2 e3 e4 e5 e6=>?_
  exact ⟨aAt m 0,by rw [vl e1,e2],dq783 D' e3 e4 e5,ya D' A.o e6⟩))⟩)))⟩⟩)⟩⟩⟩)⟩)⟩⟩⟩⟩)⟩)⟩)⟩⟩)⟩))⟩)⟩)
theorem txtX (A:jz (jb w b1 b2 b3) h R D o T ts z) (off:(ktP (jb w b1 b2 b3)).get D=none) (m0:¬ja ts (z) "ALL") (m1:ts[z]?=some {lit:=true,s:=Str.ofString "x"}) (m2:jw ts (z) "literal"):jr (jb w b1 b2 b3) 10 (.call (.ref 517) ⟨[.ref R],[]⟩) h [D] (fun r h'=>∃ a,r = .ok (.ret (.ref a))∧(Dq h' (.ref a) (.ref 777))∧∃ t,h'.get? D=some (jC o (z+1) t)):=by
 refine rdE A.o fun h1 h2 h3 h4 k1 k2 k3 k4 tz n0 s0 ep' e0=>?_
 subst e0
 refine je (hooks:=[vE T ts,YA T ts,QP T ts,Kp T,yd T,vf T ts,Yx T ts,jo T ts,vB false T ts,takeH false T ts,qV T ts,yN T ts,Kj,figAtH,JY]) (hkc (qM A.t (jf A.d A.o)) (hkc (QC A.t (jf A.d A.o)) (hkc (JP A.t (jf A.d A.o)) (hkc (Qb A.t (jf A.d A.o)) (hkc (vt A.t (jf A.d A.o)) (hkc (jO A.t (jf A.d A.o)) (hkc (QQ A.t (jf A.d A.o)) (hkc (jQ A.t (jf A.d A.o)) (hkc (jK A.t (jf A.d A.o)) (hkc (Vb A.t (jf A.d A.o)) (hkc (jY A.t (jf A.d A.o)) (hkc (vI A.t (jf A.d A.o)) (hkc VH (hkc VI (hkc yx hkn))))))))))))))) (fuel:=10000) (tr:=fun b1=>tr_thX b1 b2 b3) (ok517 _) (A.shown off) fun n tk os bs _=>?_
 exact jj (fun r m=>(vR r,yW r,JA m 0,vT m)) (fun r m=>(true,aAt m 0,some [.str "text" 0,.bytes ⟨[120]⟩ 0],some (D,some (jC (rdO h1 h2 h3 h4 k1 k2 k3 k4 T z tz n0 s0 ep') (z+1) 0)))) (ps:=[(true,¬ja ts (z) "ALL"),yt,(true,ts[z]?=some {lit:=true,s:=Str.ofString "x"}),yt,yt,(true,jw ts (z) "literal"),yt,(true,ts[z]?=some {lit:=true,s:=Str.ofString "x"}),yt]) (by kernel_rfl) (by kernel_rfl) (fun _ c=>⟨m0,(sk <| ⟨m1,(sk <| (sk <| ⟨m2,(sk <| ⟨m1,(sk <| (c fun r m n tk e h' D'=>by
  refine pr4 e fun e1 e2 e3 e4=>?_
  exact ⟨aAt m 0,by rw [vl e1,e2],dq777 D' e3,ya D' A.o e4⟩))⟩)⟩))⟩)⟩)
theorem txtS (A:jz (jb w b1 b2 b3) h R D o T ts z) (off:(ktP (jb w b1 b2 b3)).get D=none) (m0:¬ja ts (z) "ALL") (m1:ts[z]?=some {lit:=false,s:=Str.ofString "SPACE"}) (m2:¬jw ts (z) "literal") (m3:¬ja ts z "ALL") (m4:jw ts (z) "word"):jr (jb w b1 b2 b3) 10 (.call (.ref 517) ⟨[.ref R],[]⟩) h [D] (fun r h'=>∃ a,r = .ok (.ret (.ref a))∧(Dq h' (.ref a) (.ref 779))∧∃ t,h'.get? D=some (jC o (z+1) t)):=by
 refine rdE A.o fun h1 h2 h3 h4 k1 k2 k3 k4 tz n0 s0 ep' e0=>?_
 subst e0
 refine je (hooks:=[vE T ts,YA T ts,QP T ts,Kp T,yd T,vf T ts,Yx T ts,jo T ts,vB false T ts,takeH false T ts,qV T ts,yN T ts,Kj,figAtH,JY]) (hkc (qM A.t (jf A.d A.o)) (hkc (QC A.t (jf A.d A.o)) (hkc (JP A.t (jf A.d A.o)) (hkc (Qb A.t (jf A.d A.o)) (hkc (vt A.t (jf A.d A.o)) (hkc (jO A.t (jf A.d A.o)) (hkc (QQ A.t (jf A.d A.o)) (hkc (jQ A.t (jf A.d A.o)) (hkc (jK A.t (jf A.d A.o)) (hkc (Vb A.t (jf A.d A.o)) (hkc (jY A.t (jf A.d A.o)) (hkc (vI A.t (jf A.d A.o)) (hkc VH (hkc VI (hkc yx hkn))))))))))))))) (fuel:=10000) (tr:=fun b1=>tr_thS b1 b2 b3) (ok517 _) (A.shown off) fun n tk os bs _=>?_
 exact jj (fun r m=>(vR r,yW r,JA m 0,vT m)) (fun r m=>(true,aAt m 0,some [.str "figure" 0,.str "SPACE" 0],some (D,some (jC (rdO h1 h2 h3 h4 k1 k2 k3 k4 T z tz n0 s0 ep') (z+1) 0)))) (ps:=[(true,¬ja ts (z) "ALL"),yt,(true,ts[z]?=some {lit:=false,s:=Str.ofString "SPACE"}),yt,yt,(true,¬jw ts (z) "literal"),yt,(true,jh "ALL"),(true,¬ja ts z "ALL"),yt,(true,jw ts (z) "word"),yt,(true,ts[z]?=some {lit:=false,s:=Str.ofString "SPACE"}),yt,(true,Str.ofString "SPACE" = Str.ofString "SPACE"),(true,ts[z]?=some {lit:=false,s:=Str.ofString "SPACE"}),yt,(true,Str.ofString "SPACE" = Str.ofString "SPACE")]) (by kernel_rfl) (by kernel_rfl) (fun _ c=>⟨m0,(sk <| ⟨m1,(sk <| (sk <| ⟨m2,(sk <| ⟨(by first | (with_reducible first | rfl | exact nrA | exact nrB | exact nrG | exact rvS) | (unfold jh;decide +kernel) | (unfold jc;decide +kernel) | (unfold jk;decide +kernel) | decide +kernel | rfl),⟨m3,(sk <| ⟨m4,(sk <| ⟨m1,(sk <| ⟨(by first | (with_reducible first | rfl | exact nrA | exact nrB | exact nrG | exact rvS) | (unfold jh;decide +kernel) | (unfold jc;decide +kernel) | (unfold jk;decide +kernel) | decide +kernel | rfl),⟨m1,(sk <| ⟨(by first | (with_reducible first | rfl | exact nrA | exact nrB | exact nrG | exact rvS) | (unfold jh;decide +kernel) | (unfold jc;decide +kernel) | (unfold jk;decide +kernel) | decide +kernel | rfl),(c fun r m n tk e h' D'=>by
  refine pr4 e fun e1 e2 e3 e4=>?_
  exact ⟨aAt m 0,by rw [vl e1,e2],dq779 D' e3,ya D' A.o e4⟩)⟩)⟩⟩)⟩)⟩)⟩⟩)⟩))⟩)⟩)
theorem textRead {v:Value} (A:jz (jb w b1 b2 b3) h R D o T ts z) (off:(ktP (jb w b1 b2 b3)).get D=none) (s:qN ts z v):jr (jb w b1 b2 b3) 10 (.call (.ref 517) ⟨[.ref R],[]⟩) h [D] (Yb D o v (z+opN v)):=by
 rcases s with ⟨rfl,e0,n⟩ | ⟨rfl,e0⟩ | ⟨rfl,e0⟩ | ⟨rfl,e0,e1,e2,n⟩ <;> have e0:ts[z]?=_:=e0
 ·apply txtA A off <;> first | exact e0 | exact e1 | exact e2 | exact n.1 | exact n.2 | exact ⟨_,e0,rfl,by first | with_reducible exact nrA | with_reducible exact nrB | with_reducible exact nrG⟩ | exact ⟨_,e0,rfl⟩ | exact vj e0 (by decide +kernel) | exact ju e0 (by decide +kernel) | exact qC e0 (by with_reducible first | exact rvS | exact rvL | exact rvR | exact rvF | exact rvC | exact rvD) | exact not_name_lit e0 | exact qH e0 | exact jx e0 | exact jH e0
 ·apply txtX A off <;> first | exact e0 | exact e1 | exact e2 | exact n.1 | exact n.2 | exact ⟨_,e0,rfl,by first | with_reducible exact nrA | with_reducible exact nrB | with_reducible exact nrG⟩ | exact ⟨_,e0,rfl⟩ | exact vj e0 (by decide +kernel) | exact ju e0 (by decide +kernel) | exact qC e0 (by with_reducible first | exact rvS | exact rvL | exact rvR | exact rvF | exact rvC | exact rvD) | exact not_name_lit e0 | exact qH e0 | exact jx e0 | exact jH e0
 ·apply txtS A off <;> first | exact e0 | exact e1 | exact e2 | exact n.1 | exact n.2 | exact ⟨_,e0,rfl,by first | with_reducible exact nrA | with_reducible exact nrB | with_reducible exact nrG⟩ | exact ⟨_,e0,rfl⟩ | exact vj e0 (by decide +kernel) | exact ju e0 (by decide +kernel) | exact qC e0 (by with_reducible first | exact rvS | exact rvL | exact rvR | exact rvF | exact rvC | exact rvD) | exact not_name_lit e0 | exact qH e0 | exact jx e0 | exact jH e0
 ·apply txtB A off <;> first | exact e0 | exact e1 | exact e2 | exact n.1 | exact n.2 | exact ⟨_,e0,rfl,by first | with_reducible exact nrA | with_reducible exact nrB | with_reducible exact nrG⟩ | exact ⟨_,e0,rfl⟩ | exact vj e0 (by decide +kernel) | exact ju e0 (by decide +kernel) | exact qC e0 (by with_reducible first | exact rvS | exact rvL | exact rvR | exact rvF | exact rvC | exact rvD) | exact not_name_lit e0 | exact qH e0 | exact jx e0 | exact jH e0
theorem yg {v:Value} (ht:yG h₀ T ts) (hw:yO T h₀ ws):(JB v T ts).Ok (cfg (jb w b1 b2 b3) lv hs) PW (jb w b1 b2 b3) h₀ ws:=by
 refine qJ (ts:=ts) (fun rest z hint=>iL0 fun b1=>iL0 fun b2=>iE fun h R D o hm A off _=>?_) ht hw
 subst b1
 exact (textRead A (off rfl) (hm _ (.head _))).mono fun r h' _ q=>Vz q
theorem bt_A (A:jz (jb w b1 b2 b3) h R D o T ts z) (m0:ts[z]?=some {lit:=false,s:=Str.ofString "A"}) (m1:¬ja ts (z) "ALL"):jr (jb w b1 b2 b3) 7 (.call (.ref 524) ⟨[.ref R],[]⟩) h [] (jJ (.bool true)):=by
 refine rdE A.o fun h1 h2 h3 h4 k1 k2 k3 k4 tz n0 s0 ep' e0=>?_
 subst e0
 refine je (hooks:=[yN T ts,qV T ts]) (hkc (vI A.t ji) (hkc (jY A.t ji) hkn)) (fuel:=10000) (tr:=fun b1=>tr_btA b1 b2 b3) (VX _) (jl.ro A.st (l:=[(R,_),(D,_)]) ⟨A.r,A.d,trivial⟩) fun n tk os bs _=>?_
 exact jj (fun r m=>vd r) (fun r m => .ret (.bool true)) (ps:=[(true,ts[z]?=some {lit:=false,s:=Str.ofString "A"}),yt,(true,¬ja ts (z) "ALL"),yt]) (by kernel_rfl) (by kernel_rfl) (fun _ c=>⟨m0,(sk <| ⟨m1,(sk <| (c fun r m n tk e h' D'=>jm e))⟩)⟩)
theorem bt_X (A:jz (jb w b1 b2 b3) h R D o T ts z) (m0:ts[z]?=some {lit:=true,s:=Str.ofString "x"}) (m1:¬ja ts (z) "ALL"):jr (jb w b1 b2 b3) 7 (.call (.ref 524) ⟨[.ref R],[]⟩) h [] (jJ (.bool true)):=by
 refine rdE A.o fun h1 h2 h3 h4 k1 k2 k3 k4 tz n0 s0 ep' e0=>?_
 subst e0
 refine je (hooks:=[yN T ts,qV T ts]) (hkc (vI A.t ji) (hkc (jY A.t ji) hkn)) (fuel:=10000) (tr:=fun b1=>tr_btX b1 b2 b3) (VX _) (jl.ro A.st (l:=[(R,_),(D,_)]) ⟨A.r,A.d,trivial⟩) fun n tk os bs _=>?_
 exact jj (fun r m=>vd r) (fun r m => .ret (.bool true)) (ps:=[(true,ts[z]?=some {lit:=true,s:=Str.ofString "x"}),yt,(true,¬ja ts (z) "ALL"),yt]) (by kernel_rfl) (by kernel_rfl) (fun _ c=>⟨m0,(sk <| ⟨m1,(sk <| (c fun r m n tk e h' D'=>jm e))⟩)⟩)
theorem bt_S (A:jz (jb w b1 b2 b3) h R D o T ts z) (m0:ts[z]?=some {lit:=false,s:=Str.ofString "SPACE"}) (m1:¬ja ts (z) "ALL"):jr (jb w b1 b2 b3) 7 (.call (.ref 524) ⟨[.ref R],[]⟩) h [] (jJ (.bool true)):=by
 refine rdE A.o fun h1 h2 h3 h4 k1 k2 k3 k4 tz n0 s0 ep' e0=>?_
 subst e0
 refine je (hooks:=[yN T ts,qV T ts]) (hkc (vI A.t ji) (hkc (jY A.t ji) hkn)) (fuel:=10000) (tr:=fun b1=>tr_btS b1 b2 b3) (VX _) (jl.ro A.st (l:=[(R,_),(D,_)]) ⟨A.r,A.d,trivial⟩) fun n tk os bs _=>?_
 exact jj (fun r m=>vd r) (fun r m => .ret (.bool true)) (ps:=[(true,ts[z]?=some {lit:=false,s:=Str.ofString "SPACE"}),yt,(true,¬ja ts (z) "ALL"),yt]) (by kernel_rfl) (by kernel_rfl) (fun _ c=>⟨m0,(sk <| ⟨m1,(sk <| (c fun r m n tk e h' D'=>jm e))⟩)⟩)
theorem bt_B (A:jz (jb w b1 b2 b3) h R D o T ts z) (m0:ts[z]?=some {lit:=false,s:=Str.ofString "B"}) (m1:¬ja ts (z) "ALL"):jr (jb w b1 b2 b3) 7 (.call (.ref 524) ⟨[.ref R],[]⟩) h [] (jJ (.bool true)):=by
 refine rdE A.o fun h1 h2 h3 h4 k1 k2 k3 k4 tz n0 s0 ep' e0=>?_
 subst e0
 refine je (hooks:=[yN T ts,qV T ts]) (hkc (vI A.t ji) (hkc (jY A.t ji) hkn)) (fuel:=10000) (tr:=fun b1=>tr_btB b1 b2 b3) (VX _) (jl.ro A.st (l:=[(R,_),(D,_)]) ⟨A.r,A.d,trivial⟩) fun n tk os bs _=>?_
 exact jj (fun r m=>vd r) (fun r m => .ret (.bool true)) (ps:=[(true,ts[z]?=some {lit:=false,s:=Str.ofString "B"}),yt,(true,¬ja ts (z) "ALL"),yt]) (by kernel_rfl) (by kernel_rfl) (fun _ c=>⟨m0,(sk <| ⟨m1,(sk <| (c fun r m n tk e h' D'=>jm e))⟩)⟩)
theorem bt_L (A:jz (jb w b1 b2 b3) h R D o T ts z) (m0:ts[z]?=some {lit:=false,s:=Str.ofString "ALL"}) (m1:ja ts (z) "ALL"):jr (jb w b1 b2 b3) 7 (.call (.ref 524) ⟨[.ref R],[]⟩) h [] (jJ (.bool false)):=by
 refine rdE A.o fun h1 h2 h3 h4 k1 k2 k3 k4 tz n0 s0 ep' e0=>?_
 subst e0
 refine je (hooks:=[yN T ts,qV T ts]) (hkc (vI A.t ji) (hkc (jY A.t ji) hkn)) (fuel:=10000) (tr:=fun b1=>tr_btL b1 b2 b3) (VX _) (jl.ro A.st (l:=[(R,_),(D,_)]) ⟨A.r,A.d,trivial⟩) fun n tk os bs _=>?_
 exact jj (fun r m=>vd r) (fun r m => .ret (.bool false)) (ps:=[(true,ts[z]?=some {lit:=false,s:=Str.ofString "ALL"}),yt,(true,ja ts (z) "ALL"),yt]) (by kernel_rfl) (by kernel_rfl) (fun _ c=>⟨m0,(sk <| ⟨m1,(sk <| (c fun r m n tk e h' D'=>jm e))⟩)⟩)
theorem bt_R (A:jz (jb w b1 b2 b3) h R D o T ts z) (m0:ts[z]?=some {lit:=false,s:=Str.ofString "REPLACING"}):jr (jb w b1 b2 b3) 7 (.call (.ref 524) ⟨[.ref R],[]⟩) h [] (jJ (.bool false)):=by
 refine rdE A.o fun h1 h2 h3 h4 k1 k2 k3 k4 tz n0 s0 ep' e0=>?_
 subst e0
 refine je (hooks:=[yN T ts,qV T ts]) (hkc (vI A.t ji) (hkc (jY A.t ji) hkn)) (fuel:=10000) (tr:=fun b1=>tr_btR b1 b2 b3) (VX _) (jl.ro A.st (l:=[(R,_),(D,_)]) ⟨A.r,A.d,trivial⟩) fun n tk os bs _=>?_
 exact jj (fun r m=>vd r) (fun r m => .ret (.bool false)) (ps:=[(true,ts[z]?=some {lit:=false,s:=Str.ofString "REPLACING"}),yt]) (by kernel_rfl) (by kernel_rfl) (fun _ c=>⟨m0,(sk <| (c fun r m n tk e h' D'=>jm e))⟩)
theorem bt_F (A:jz (jb w b1 b2 b3) h R D o T ts z) (m0:ts[z]?=some {lit:=false,s:=Str.ofString "FIRST"}):jr (jb w b1 b2 b3) 7 (.call (.ref 524) ⟨[.ref R],[]⟩) h [] (jJ (.bool false)):=by
 refine rdE A.o fun h1 h2 h3 h4 k1 k2 k3 k4 tz n0 s0 ep' e0=>?_
 subst e0
 refine je (hooks:=[yN T ts,qV T ts]) (hkc (vI A.t ji) (hkc (jY A.t ji) hkn)) (fuel:=10000) (tr:=fun b1=>tr_btF b1 b2 b3) (VX _) (jl.ro A.st (l:=[(R,_),(D,_)]) ⟨A.r,A.d,trivial⟩) fun n tk os bs _=>?_
 exact jj (fun r m=>vd r) (fun r m => .ret (.bool false)) (ps:=[(true,ts[z]?=some {lit:=false,s:=Str.ofString "FIRST"}),yt]) (by kernel_rfl) (by kernel_rfl) (fun _ c=>⟨m0,(sk <| (c fun r m n tk e h' D'=>jm e))⟩)
theorem bt_C (A:jz (jb w b1 b2 b3) h R D o T ts z) (m0:ts[z]?=some {lit:=false,s:=Str.ofString "CHARACTERS"}):jr (jb w b1 b2 b3) 7 (.call (.ref 524) ⟨[.ref R],[]⟩) h [] (jJ (.bool false)):=by
 refine rdE A.o fun h1 h2 h3 h4 k1 k2 k3 k4 tz n0 s0 ep' e0=>?_
 subst e0
 refine je (hooks:=[yN T ts,qV T ts]) (hkc (vI A.t ji) (hkc (jY A.t ji) hkn)) (fuel:=10000) (tr:=fun b1=>tr_btC b1 b2 b3) (VX _) (jl.ro A.st (l:=[(R,_),(D,_)]) ⟨A.r,A.d,trivial⟩) fun n tk os bs _=>?_
 exact jj (fun r m=>vd r) (fun r m => .ret (.bool false)) (ps:=[(true,ts[z]?=some {lit:=false,s:=Str.ofString "CHARACTERS"}),yt]) (by kernel_rfl) (by kernel_rfl) (fun _ c=>⟨m0,(sk <| (c fun r m n tk e h' D'=>jm e))⟩)
theorem bt_D (A:jz (jb w b1 b2 b3) h R D o T ts z) (m0:ts[z]?=some {lit:=false,s:=Str.ofString "LEADING"}):jr (jb w b1 b2 b3) 7 (.call (.ref 524) ⟨[.ref R],[]⟩) h [] (jJ (.bool false)):=by
 refine rdE A.o fun h1 h2 h3 h4 k1 k2 k3 k4 tz n0 s0 ep' e0=>?_
 subst e0
 refine je (hooks:=[yN T ts,qV T ts]) (hkc (vI A.t ji) (hkc (jY A.t ji) hkn)) (fuel:=10000) (tr:=fun b1=>tr_btD b1 b2 b3) (VX _) (jl.ro A.st (l:=[(R,_),(D,_)]) ⟨A.r,A.d,trivial⟩) fun n tk os bs _=>?_
 exact jj (fun r m=>vd r) (fun r m => .ret (.bool false)) (ps:=[(true,ts[z]?=some {lit:=false,s:=Str.ofString "LEADING"}),yt]) (by kernel_rfl) (by kernel_rfl) (fun _ c=>⟨m0,(sk <| (c fun r m n tk e h' D'=>jm e))⟩)
theorem bt_n (A:jz (jb w b1 b2 b3) h R D o T ts z) (m0:ts.length≤z):jr (jb w b1 b2 b3) 7 (.call (.ref 524) ⟨[.ref R],[]⟩) h [] (jJ (.bool false)):=by
 refine rdE A.o fun h1 h2 h3 h4 k1 k2 k3 k4 tz n0 s0 ep' e0=>?_
 subst e0
 refine je (hooks:=[yN T ts,qV T ts]) (hkc (vI A.t ji) (hkc (jY A.t ji) hkn)) (fuel:=10000) (tr:=fun b1=>tr_btn b1 b2 b3) (VX _) (jl.ro A.st (l:=[(R,_),(D,_)]) ⟨A.r,A.d,trivial⟩) fun n tk os bs _=>?_
 exact jj (fun r m=>vd r) (fun r m => .ret (.bool false)) (ps:=[(true,ts.length≤z),yt]) (by kernel_rfl) (by kernel_rfl) (fun _ c=>⟨m0,(sk <| (c fun r m n tk e h' D'=>jm e))⟩)
theorem VQ (ht:yG h₀ T ts) (hw:yO T h₀ ws):(begTxH T ts).Ok (cfg (jb w b1 b2 b3) lv hs) PW (jb w b1 b2 b3) h₀ ws:=by
 refine qJ (ts:=ts) (fun rest z hint=>iL0 fun b1=>?_) ht hw
 subst b1
 refine begSp_i ?_ ?_
 ·intro h R D o hm A off _
  have e0:ts.length≤z:=hm _ (.head _)
  refine jr.mono ?_ fun r h' _ q=>vx q
  apply bt_n A <;> first | exact e0 | exact e1 | exact e2 | exact n.1 | exact n.2 | exact ⟨_,e0,rfl,by first | with_reducible exact nrA | with_reducible exact nrB | with_reducible exact nrG⟩ | exact ⟨_,e0,rfl⟩ | exact vj e0 (by decide +kernel) | exact ju e0 (by decide +kernel) | exact qC e0 (by with_reducible first | exact rvS | exact rvL | exact rvR | exact rvF | exact rvC | exact rvD) | exact not_name_lit e0 | exact qH e0 | exact jx e0 | exact jH e0
 ·intro k t qv qk h R D o hm A off _
  have e0:ts[z]?=some t:=hm _ (.head _)
  refine jr.mono ?_ fun r h' _ q=>vx q
  clear hm
  revert e0
  refine beg_all (P:=fun k t=>ts[z]?=some t→jr _ 7 _ h [] fun r _=>r = .ok (.ret (.bool (([0,1,2,3]:List Nat).elem k)))) ?_ ?_ ?_ ?_ ?_ ?_ ?_ ?_ ?_ k t qv qk <;> intro e0
  ·apply bt_A A <;> first | exact e0 | exact e1 | exact e2 | exact n.1 | exact n.2 | exact ⟨_,e0,rfl,by first | with_reducible exact nrA | with_reducible exact nrB | with_reducible exact nrG⟩ | exact ⟨_,e0,rfl⟩ | exact vj e0 (by decide +kernel) | exact ju e0 (by decide +kernel) | exact qC e0 (by with_reducible first | exact rvS | exact rvL | exact rvR | exact rvF | exact rvC | exact rvD) | exact not_name_lit e0 | exact qH e0 | exact jx e0 | exact jH e0
  ·apply bt_X A <;> first | exact e0 | exact e1 | exact e2 | exact n.1 | exact n.2 | exact ⟨_,e0,rfl,by first | with_reducible exact nrA | with_reducible exact nrB | with_reducible exact nrG⟩ | exact ⟨_,e0,rfl⟩ | exact vj e0 (by decide +kernel) | exact ju e0 (by decide +kernel) | exact qC e0 (by with_reducible first | exact rvS | exact rvL | exact rvR | exact rvF | exact rvC | exact rvD) | exact not_name_lit e0 | exact qH e0 | exact jx e0 | exact jH e0
  ·apply bt_S A <;> first | exact e0 | exact e1 | exact e2 | exact n.1 | exact n.2 | exact ⟨_,e0,rfl,by first | with_reducible exact nrA | with_reducible exact nrB | with_reducible exact nrG⟩ | exact ⟨_,e0,rfl⟩ | exact vj e0 (by decide +kernel) | exact ju e0 (by decide +kernel) | exact qC e0 (by with_reducible first | exact rvS | exact rvL | exact rvR | exact rvF | exact rvC | exact rvD) | exact not_name_lit e0 | exact qH e0 | exact jx e0 | exact jH e0
  ·apply bt_B A <;> first | exact e0 | exact e1 | exact e2 | exact n.1 | exact n.2 | exact ⟨_,e0,rfl,by first | with_reducible exact nrA | with_reducible exact nrB | with_reducible exact nrG⟩ | exact ⟨_,e0,rfl⟩ | exact vj e0 (by decide +kernel) | exact ju e0 (by decide +kernel) | exact qC e0 (by with_reducible first | exact rvS | exact rvL | exact rvR | exact rvF | exact rvC | exact rvD) | exact not_name_lit e0 | exact qH e0 | exact jx e0 | exact jH e0
  ·apply bt_L A <;> first | exact e0 | exact e1 | exact e2 | exact n.1 | exact n.2 | exact ⟨_,e0,rfl,by first | with_reducible exact nrA | with_reducible exact nrB | with_reducible exact nrG⟩ | exact ⟨_,e0,rfl⟩ | exact vj e0 (by decide +kernel) | exact ju e0 (by decide +kernel) | exact qC e0 (by with_reducible first | exact rvS | exact rvL | exact rvR | exact rvF | exact rvC | exact rvD) | exact not_name_lit e0 | exact qH e0 | exact jx e0 | exact jH e0
  ·apply bt_D A <;> first | exact e0 | exact e1 | exact e2 | exact n.1 | exact n.2 | exact ⟨_,e0,rfl,by first | with_reducible exact nrA | with_reducible exact nrB | with_reducible exact nrG⟩ | exact ⟨_,e0,rfl⟩ | exact vj e0 (by decide +kernel) | exact ju e0 (by decide +kernel) | exact qC e0 (by with_reducible first | exact rvS | exact rvL | exact rvR | exact rvF | exact rvC | exact rvD) | exact not_name_lit e0 | exact qH e0 | exact jx e0 | exact jH e0
  ·apply bt_F A <;> first | exact e0 | exact e1 | exact e2 | exact n.1 | exact n.2 | exact ⟨_,e0,rfl,by first | with_reducible exact nrA | with_reducible exact nrB | with_reducible exact nrG⟩ | exact ⟨_,e0,rfl⟩ | exact vj e0 (by decide +kernel) | exact ju e0 (by decide +kernel) | exact qC e0 (by with_reducible first | exact rvS | exact rvL | exact rvR | exact rvF | exact rvC | exact rvD) | exact not_name_lit e0 | exact qH e0 | exact jx e0 | exact jH e0
  ·apply bt_C A <;> first | exact e0 | exact e1 | exact e2 | exact n.1 | exact n.2 | exact ⟨_,e0,rfl,by first | with_reducible exact nrA | with_reducible exact nrB | with_reducible exact nrG⟩ | exact ⟨_,e0,rfl⟩ | exact vj e0 (by decide +kernel) | exact ju e0 (by decide +kernel) | exact qC e0 (by with_reducible first | exact rvS | exact rvL | exact rvR | exact rvF | exact rvC | exact rvD) | exact not_name_lit e0 | exact qH e0 | exact jx e0 | exact jH e0
  ·apply bt_R A <;> first | exact e0 | exact e1 | exact e2 | exact n.1 | exact n.2 | exact ⟨_,e0,rfl,by first | with_reducible exact nrA | with_reducible exact nrB | with_reducible exact nrG⟩ | exact ⟨_,e0,rfl⟩ | exact vj e0 (by decide +kernel) | exact ju e0 (by decide +kernel) | exact qC e0 (by with_reducible first | exact rvS | exact rvL | exact rvR | exact rvF | exact rvC | exact rvD) | exact not_name_lit e0 | exact qH e0 | exact jx e0 | exact jH e0
theorem oc_Y {v:Value} (A:jz (jb w b1 b2 b3) h R D o T ts z) (off:(ktP (jb w b1 b2 b3)).get D=none) (m0:qO ts z) (m1:jy ts z v) (m2:ja ts (z+opN v) "FOR"):jr (jb w b1 b2 b3) 9 (.call (.ref 538) ⟨[.ref R],[]⟩) h [D] (fun r h'=>r = .ok (.ret (.bool true))∧∃ t,h'.get? D=some (jC o z t)):=by
 refine rdE A.o fun h1 h2 h3 h4 k1 k2 k3 k4 tz n0 s0 ep' e0=>?_
 subst e0
 refine je (hooks:=[vE T ts,qY v T ts,qV T ts]) (hkc (qM A.t (jf A.d A.o)) (hkc (vX A.t (jf A.d A.o)) (hkc (jY A.t (jf A.d A.o)) hkn))) (fuel:=10000) (tr:=fun b1=>tr_ocY b1 b2 b3) (ok538 _) (A.shown off) fun n tk os bs _=>?_
 exact jj (fun r m=>(vd r,vT m)) (fun r m=>(.ret (.bool true),some (D,some (jC (rdO h1 h2 h3 h4 k1 k2 k3 k4 T z tz n0 s0 ep') (z) 0)))) (ps:=[(true,qO ts z),yt,(true,jy ts z v),yt,(true,ja ts (z+opN v) "FOR"),yt]) (by kernel_rfl) (by kernel_rfl) (fun _ c=>⟨m0,(sk <| ⟨m1,(sk <| ⟨m2,(sk <| (c fun r m n tk e h' D'=>⟨jm (congrArg Prod.fst e),ya D' A.o (congrArg Prod.snd e)⟩))⟩)⟩)⟩)
theorem oc_N {v:Value} (A:jz (jb w b1 b2 b3) h R D o T ts z) (m0:¬qO ts z):jr (jb w b1 b2 b3) 9 (.call (.ref 538) ⟨[.ref R],[]⟩) h [] (jJ (.bool false)):=by
 refine rdE A.o fun h1 h2 h3 h4 k1 k2 k3 k4 tz n0 s0 ep' e0=>?_
 subst e0
 refine je (hooks:=[vE T ts,qY v T ts,qV T ts]) (hkc (qM A.t ji) (hkc (vX A.t ji) (hkc (jY A.t ji) hkn))) (fuel:=10000) (tr:=fun b1=>tr_ocN b1 b2 b3) (ok538 _) (jl.ro A.st (l:=[(R,_),(D,_)]) ⟨A.r,A.d,trivial⟩) fun n tk os bs _=>?_
 exact jj (fun r m=>vd r) (fun r m => .ret (.bool false)) (ps:=[(true,¬qO ts z),yt]) (by kernel_rfl) (by kernel_rfl) (fun _ c=>⟨m0,(sk <| (c fun r m n tk e h' D'=>jm e))⟩)
theorem vz {v:Value} (ht:yG h₀ T ts) (hw:yO T h₀ ws):(jX v T ts).Ok (cfg (jb w b1 b2 b3) lv hs) PW (jb w b1 b2 b3) h₀ ws:=by
 refine qJ (ts:=ts) (fun rest z hint=>?_) ht hw
 refine iL0 fun b1=>iL1 fun _ b2=>?_
 subst b1 b2
 intro x hs h R D o hm A off _
 split at hs
 ·cases hs
  exact (oc_N (v:=v) A (hm _ (.head _))).mono fun r h' _ q=>vx q
 ·cases hs
  have s:jy ts z v:=hm _ (.head _)
  have f:ja ts (z+opN v) "FOR":=vV hm 1
  have e:qO ts z:=by
   rcases s.2 with ⟨_,e,_⟩ | ⟨rfl,_⟩ | ⟨rfl,_⟩ | ⟨_,e,_⟩
   ·exact ⟨_,e,rfl,nrA⟩
   ·rcases s.1 with q | q <;> exact absurd (Value.ref.inj q) (by decide)
   ·rcases s.1 with q | q <;> exact absurd (Value.ref.inj q) (by decide)
   ·exact ⟨_,e,rfl,nrB⟩
  exact (oc_Y A (off rfl) e s f).mono fun r h' _ ⟨q,t,e⟩=>VC default (fun _=>rfl) q e
theorem bd_nn (A:jz (jb w b1 b2 b3) h R D o T ts z) (off:(ktP (jb w b1 b2 b3)).get D=none) (m0:¬ja ts z "BEFORE") (m1:¬ja ts z "AFTER"):jr (jb w b1 b2 b3) 12 (.call (.ref 531) ⟨[.ref R],[]⟩) h [D] (fun r h'=>BdRes r h' .none .none∧∃ t,h'.get? D=some (jC o (z) t)):=by
 refine rdE A.o fun h1 h2 h3 h4 k1 k2 k3 k4 tz n0 s0 ep' e0=>?_
 subst e0
 refine je (hooks:=[jo T ts]) (hkc (jQ A.t (jf A.d A.o)) hkn) (fuel:=10000) (tr:=fun b1=>tr_bdnn b1 b2 b3) (ok531 _) (A.shown off) fun n tk os bs _=>?_
 exact jj (fun r m=>(vR r,yW r,tup2 m 0,vT m)) (fun r m=>(true,aAt m 0,some (.none,.none),some (D,some (jC (rdO h1 h2 h3 h4 k1 k2 k3 k4 T z tz n0 s0 ep') (z) 0)))) (ps:=[(true,jh "BEFORE"),(true,¬ja ts z "BEFORE"),yt,(true,jh "AFTER"),(true,¬ja ts z "AFTER"),yt]) (by kernel_rfl) (by kernel_rfl) (fun _ c=>⟨(by first | (with_reducible first | rfl | exact nrA | exact nrB | exact nrG | exact rvS) | (unfold jh;decide +kernel) | (unfold jc;decide +kernel) | (unfold jk;decide +kernel) | decide +kernel | rfl),⟨m0,(sk <| ⟨(by first | (with_reducible first | rfl | exact nrA | exact nrB | exact nrG | exact rvS) | (unfold jh;decide +kernel) | (unfold jc;decide +kernel) | (unfold jk;decide +kernel) | decide +kernel | rfl),⟨m1,(sk <| (c fun r m n tk e h' D'=>by
  refine pr4 e fun e1 e2 e3 e4=>?_
  exact ⟨YQ D' (by rw [vl e1,e2]) e3 (.same _) (.same _),ya D' A.o e4⟩))⟩⟩)⟩⟩)
theorem bd_bn {v:Value} (A:jz (jb w b1 b2 b3) h R D o T ts z) (off:(ktP (jb w b1 b2 b3)).get D=none) (m0:ja ts z "BEFORE") (m1:ja ts (z+1) "INITIAL") (m2:qN ts (z+2) v) (m3:¬ja ts (z+2+opN v) "AFTER"):jr (jb w b1 b2 b3) 12 (.call (.ref 531) ⟨[.ref R],[]⟩) h [D] (fun r h'=>BdRes r h' v .none∧∃ t,h'.get? D=some (jC o (z+2+opN v) t)):=by
 refine rdE A.o fun h1 h2 h3 h4 k1 k2 k3 k4 tz n0 s0 ep' e0=>?_
 subst e0
 refine je (hooks:=[jo T ts,JB v T ts]) (hkc (jQ A.t (jf A.d A.o)) (hkc (yg A.t (jf A.d A.o)) hkn)) (fuel:=10000) (tr:=fun b1=>tr_bdbn b1 b2 b3) (ok531 _) (A.shown off) fun n tk os bs _=>?_
 exact jj (fun r m=>(vR r,yW r,tup2 m 0,dqS m 1 0,vT m)) (fun r m=>(true,aAt m 0,some (dqF m 1 0,.none),some v,some (D,some (jC (rdO h1 h2 h3 h4 k1 k2 k3 k4 T z tz n0 s0 ep') (z+2+opN v) 0)))) (ps:=[(true,jh "BEFORE"),(true,ja ts z "BEFORE"),yt,(true,jh "INITIAL"),(true,ja ts (z+1) "INITIAL"),yt,(true,qN ts (z+2) v),yt,(true,jh "AFTER"),(true,¬ja ts (z+2+opN v) "AFTER"),yt]) (by kernel_rfl) (by kernel_rfl) (fun _ c=>⟨(by first | (with_reducible first | rfl | exact nrA | exact nrB | exact nrG | exact rvS) | (unfold jh;decide +kernel) | (unfold jc;decide +kernel) | (unfold jk;decide +kernel) | decide +kernel | rfl),⟨m0,(sk <| ⟨(by first | (with_reducible first | rfl | exact nrA | exact nrB | exact nrG | exact rvS) | (unfold jh;decide +kernel) | (unfold jc;decide +kernel) | (unfold jk;decide +kernel) | decide +kernel | rfl),⟨m1,(sk <| ⟨m2,(sk <| ⟨(by first | (with_reducible first | rfl | exact nrA | exact nrB | exact nrG | exact rvS) | (unfold jh;decide +kernel) | (unfold jc;decide +kernel) | (unfold jk;decide +kernel) | decide +kernel | rfl),⟨m3,(sk <| (c fun r m n tk e h' D'=>by
  refine pr5 e fun e1 e2 e3 d1 e4=>?_
  exact ⟨YQ D' (by rw [vl e1,e2]) e3 (vg D' d1) (.same _),ya D' A.o e4⟩))⟩⟩)⟩)⟩⟩)⟩⟩)
theorem bd_na {u:Value} (A:jz (jb w b1 b2 b3) h R D o T ts z) (off:(ktP (jb w b1 b2 b3)).get D=none) (m0:¬ja ts z "BEFORE") (m1:ja ts z "AFTER") (m2:ja ts (z+1) "INITIAL") (m3:qN ts (z+2) u) (m4:¬ja ts (z+2+opN u) "BEFORE"):jr (jb w b1 b2 b3) 12 (.call (.ref 531) ⟨[.ref R],[]⟩) h [D] (fun r h'=>BdRes r h' .none u∧∃ t,h'.get? D=some (jC o (z+2+opN u) t)):=by
 refine rdE A.o fun h1 h2 h3 h4 k1 k2 k3 k4 tz n0 s0 ep' e0=>?_
 subst e0
 refine je (hooks:=[jo T ts,JB u T ts]) (hkc (jQ A.t (jf A.d A.o)) (hkc (yg A.t (jf A.d A.o)) hkn)) (fuel:=10000) (tr:=fun b1=>tr_bdna b1 b2 b3) (ok531 _) (A.shown off) fun n tk os bs _=>?_
 exact jj (fun r m=>(vR r,yW r,tup2 m 0,dqS m 1 0,vT m)) (fun r m=>(true,aAt m 0,some (.none,dqF m 1 0),some u,some (D,some (jC (rdO h1 h2 h3 h4 k1 k2 k3 k4 T z tz n0 s0 ep') (z+2+opN u) 0)))) (ps:=[(true,jh "BEFORE"),(true,¬ja ts z "BEFORE"),yt,(true,jh "AFTER"),(true,ja ts z "AFTER"),yt,(true,jh "INITIAL"),(true,ja ts (z+1) "INITIAL"),yt,(true,qN ts (z+2) u),yt,(true,jh "BEFORE"),(true,¬ja ts (z+2+opN u) "BEFORE"),yt]) (by kernel_rfl) (by kernel_rfl) (fun _ c=>⟨(by first | (with_reducible first | rfl | exact nrA | exact nrB | exact nrG | exact rvS) | (unfold jh;decide +kernel) | (unfold jc;decide +kernel) | (unfold jk;decide +kernel) | decide +kernel | rfl),⟨m0,(sk <| ⟨(by first | (with_reducible first | rfl | exact nrA | exact nrB | exact nrG | exact rvS) | (unfold jh;decide +kernel) | (unfold jc;decide +kernel) | (unfold jk;decide +kernel) | decide +kernel | rfl),⟨m1,(sk <| ⟨(by first | (with_reducible first | rfl | exact nrA | exact nrB | exact nrG | exact rvS) | (unfold jh;decide +kernel) | (unfold jc;decide +kernel) | (unfold jk;decide +kernel) | decide +kernel | rfl),⟨m2,(sk <| ⟨m3,(sk <| ⟨(by first | (with_reducible first | rfl | exact nrA | exact nrB | exact nrG | exact rvS) | (unfold jh;decide +kernel) | (unfold jc;decide +kernel) | (unfold jk;decide +kernel) | decide +kernel | rfl),⟨m4,(sk <| (c fun r m n tk e h' D'=>by
  refine pr5 e fun e1 e2 e3 d2 e4=>?_
  exact ⟨YQ D' (by rw [vl e1,e2]) e3 (.same _) (vg D' d2),ya D' A.o e4⟩))⟩⟩)⟩)⟩⟩)⟩⟩)⟩⟩)
theorem bd_ba {v:Value} {u:Value} (A:jz (jb w b1 b2 b3) h R D o T ts z) (off:(ktP (jb w b1 b2 b3)).get D=none) (m0:ja ts z "BEFORE") (m1:ja ts (z+1) "INITIAL") (m2:qN ts (z+2) v) (m3:ja ts (z+2+opN v) "AFTER") (m4:ja ts (z+2+opN v+1) "INITIAL") (m5:qN ts (z+2+opN v+2) u):jr (jb w b1 b2 b3) 12 (.call (.ref 531) ⟨[.ref R],[]⟩) h [D] (fun r h'=>BdRes r h' v u∧∃ t,h'.get? D=some (jC o (z+2+opN v+2+opN u) t)):=by
 refine rdE A.o fun h1 h2 h3 h4 k1 k2 k3 k4 tz n0 s0 ep' e0=>?_
 subst e0
 refine je (hooks:=[jo T ts,JB v T ts,JB u T ts]) (hkc (jQ A.t (jf A.d A.o)) (hkc (yg A.t (jf A.d A.o)) (hkc (yg A.t (jf A.d A.o)) hkn))) (fuel:=10000) (tr:=fun b1=>tr_bdba b1 b2 b3) (ok531 _) (A.shown off) fun n tk os bs _=>?_
 exact jj (fun r m=>(vR r,yW r,tup2 m 0,dqS m 1 1,dqS m 1 0,vT m)) (fun r m=>(true,aAt m 0,some (dqF m 1 1,dqF m 1 0),some v,some u,some (D,some (jC (rdO h1 h2 h3 h4 k1 k2 k3 k4 T z tz n0 s0 ep') (z+2+opN v+2+opN u) 0)))) (ps:=[(true,jh "BEFORE"),(true,ja ts z "BEFORE"),yt,(true,jh "INITIAL"),(true,ja ts (z+1) "INITIAL"),yt,(true,qN ts (z+2) v),yt,(true,jh "AFTER"),(true,ja ts (z+2+opN v) "AFTER"),yt,(true,jh "INITIAL"),(true,ja ts (z+2+opN v+1) "INITIAL"),yt,(true,qN ts (z+2+opN v+2) u),yt]) (by kernel_rfl) (by kernel_rfl) (fun _ c=>⟨(by first | (with_reducible first | rfl | exact nrA | exact nrB | exact nrG | exact rvS) | (unfold jh;decide +kernel) | (unfold jc;decide +kernel) | (unfold jk;decide +kernel) | decide +kernel | rfl),⟨m0,(sk <| ⟨(by first | (with_reducible first | rfl | exact nrA | exact nrB | exact nrG | exact rvS) | (unfold jh;decide +kernel) | (unfold jc;decide +kernel) | (unfold jk;decide +kernel) | decide +kernel | rfl),⟨m1,(sk <| ⟨m2,(sk <| ⟨(by first | (with_reducible first | rfl | exact nrA | exact nrB | exact nrG | exact rvS) | (unfold jh;decide +kernel) | (unfold jc;decide +kernel) | (unfold jk;decide +kernel) | decide +kernel | rfl),⟨m3,(sk <| ⟨(by first | (with_reducible first | rfl | exact nrA | exact nrB | exact nrG | exact rvS) | (unfold jh;decide +kernel) | (unfold jc;decide +kernel) | (unfold jk;decide +kernel) | decide +kernel | rfl),⟨m4,(sk <| ⟨m5,(sk <| (c fun r m n tk e h' D'=>by
  refine pr6 e fun e1 e2 e3 d1 d2 e4=>?_
  exact ⟨YQ D' (by rw [vl e1,e2]) e3 (vg D' d1) (vg D' d2),ya D' A.o e4⟩))⟩)⟩⟩)⟩⟩)⟩)⟩⟩)⟩⟩)
theorem JM {b a:Value} (hb:b = .none∨∃ q,b = .ref q) (ha:a = .none∨∃ q,a = .ref q) (ht:yG h₀ T ts) (hw:yO T h₀ ws):(bdVH b a T ts).Ok (cfg (jb w b1 b2 b3) lv hs) PW (jb w b1 b2 b3) h₀ ws:=by
 refine qJ (ts:=ts) (fun rest z hint=>?_) ht hw
 refine iL0 fun b1=>iL0 fun b2=>?_
 subst b1 b2
 refine iE ?_
 intro h R D o hm A off _
 have s:vp ts z b a:=hm _ (.head _)
 clear hm
 refine jr.mono (P:=fun r h'=>BdRes r h' b a∧∃ t,h'.get? D=some (jC o (z+jp b+jp a) t)) ?_ fun r h' _ q=>bd_post q
 obtain ⟨sb,sa,sn⟩:=s
 rcases hb with rfl | ⟨b,rfl⟩ <;> rcases ha with rfl | ⟨a,rfl⟩
 ·rcases sb with ⟨_,sb⟩ | ⟨q,_⟩
  ·rcases sa with ⟨_,sa⟩ | ⟨q,_⟩
   ·exact bd_nn A (off rfl) sb sa
   ·exact absurd rfl q
  ·exact absurd rfl q
 ·rcases sb with ⟨_,sb⟩ | ⟨q,_⟩
  ·rcases sa with ⟨q,_⟩ | ⟨_,s1,s2,s3⟩
   ·cases q
   ·have sn:=sn rfl
    refine jr.mono (bd_na A (off rfl) sb s1 s2 s3 ?_) ?_
    ·rwa [show z+2+opN (.ref a)=z+jp .none+jp (.ref a) from by show _=z+0+(2+_);omega]
    ·rintro r h' _ ⟨q,t,e⟩
     exact ⟨q,t,by rwa [show z+jp .none+jp (.ref a)=z+2+opN (.ref a) from by show z+0+(2+_)=_;omega]⟩
  ·exact absurd rfl q
 ·rcases sb with ⟨q,_⟩ | ⟨_,s1,s2,s3⟩
  ·cases q
  ·rcases sa with ⟨_,sa⟩ | ⟨q,_⟩
   ·refine jr.mono (bd_bn A (off rfl) s1 s2 s3 ?_) ?_
    ·rwa [show z+2+opN (.ref b)=z+jp (.ref b) from by show _=z+(2+_);omega]
    ·rintro r h' _ ⟨q,t,e⟩
     exact ⟨q,t,by rwa [show z+jp (.ref b)+jp .none=z+2+opN (.ref b) from by show z+(2+_)+0=_;omega]⟩
   ·exact absurd rfl q
 ·rcases sb with ⟨q,_⟩ | ⟨_,s1,s2,s3⟩
  ·cases q
  ·rcases sa with ⟨q,_⟩ | ⟨_,u1,u2,u3⟩
   ·cases q
   ·rw [show z+jp (.ref b)=z+2+opN (.ref b) from by show z+(2+_)=_;omega] at u1 u2 u3
    refine jr.mono (bd_ba A (off rfl) s1 s2 s3 u1 u2 u3) ?_
    rintro r h' _ ⟨q,t,e⟩
    exact ⟨q,t,by rwa [show z+jp (.ref b)+jp (.ref a)=z+2+opN (.ref b)+2+opN (.ref a) from by show z+(2+_)+(2+_)=_;omega]⟩
end
def tr_wmR (b1 b2 b3:Bool):Tr:=T [1,1,1,1,0,1,2,2,2,0,2,2,2,1,1] .nil
def tr_wmF (b1 b2 b3:Bool):Tr:=T [1,1,1,1,0,1,2,2,2,0,2,2,2,1,1] .nil
def tr_wmTN (b1 b2 b3:Bool):Tr:=T [1,1,1,1,0,1,2,2,2,0,2,2,2,1,0,1,0,0,1,2,2,2,0,2,2,0,0,1,0] .nil
def tr_wmTR (b1 b2 b3:Bool):Tr:=T [1,1,1,1,0,1,2,2,2,0,2,2,2,1,0,1,1,3,3,3,0,3,3,1,1,0] .nil
def tr_wmTT (b1 b2 b3:Bool):Tr:=T [1,1,1,1,0,1,2,2,2,0,2,2,2,1,0,1,1,3,3,3,0,3,3,1,1,1,0,0,1,2,2,2,0,2,2,0,0,1,1,3,3,3,0,3,3,1,1,0,0,0,1,3,3,3,0,3,3,0,0,0] .nil
def tr_wmTF (b1 b2 b3:Bool):Tr:=T [1,1,1,1,0,1,2,2,2,0,2,2,2,1,0,1,1,3,3,3,0,3,3,1,1,1,0,0,1,2,2,2,0,2,2,0,0,1,1,3,3,3,0,3,3,1,1,1,0] .nil
theorem ok559 (w:World):vH (ktP w) 559=true:=by kernel_rfl
section
variable {w:World} {b1 b2 b3:Bool} {lv:Nat} {hs:List Mine.Hook} {h₀:Heap} {ws:List Addr} {h:Heap}
theorem wmR {x:Value} {q:Addr} {d1:Option Addr} {ta1:Nat} {xa1:Value} {xb1:Value} {xc1:Value} {xd1:Value} {ep1:Nat} {sl1:Array (Option Value)} (st:St (jb w b1 b2 b3) h) (g0:h.get? q=some (vv d1 [.str "ref" ta1,xa1,xb1,xc1,xd1] ep1 sl1)) : jr (jb w b1 b2 b3) 3 (.call (.ref 559) ⟨[x,.ref q],[]⟩) h [] (jJ (.bool true)):=by
 refine je (hooks:=[eqH,neH]) (hkc vM (hkc Jk hkn)) (fuel:=10000) (tr:=fun b1=>tr_wmR b1 b2 b3) (ok559 _) (jl.ro st (l:=[(q,_)]) ⟨g0,trivial⟩) fun n tk os bs _=>?_
 exact jj (fun r m=>vd r) (fun r m => .ret (.bool true)) (ps:=[(true,Str.ofString "ref"≠Str.ofString "text")]) (by kernel_rfl) (by kernel_rfl) (fun _ c=>⟨(by first | (with_reducible first | rfl | exact nrA | exact nrB | exact nrG | exact rvS) | (unfold jh;decide +kernel) | (unfold jc;decide +kernel) | (unfold jk;decide +kernel) | decide +kernel | rfl),(c fun r m n tk e h' D'=>jm e)⟩)
theorem wmF {x:Value} {q:Addr} {d1:Option Addr} {ta1:Nat} {xa1:Value} {ep1:Nat} {sl1:Array (Option Value)} (st:St (jb w b1 b2 b3) h) (g0:h.get? q=some (vv d1 [.str "figure" ta1,xa1] ep1 sl1)) : jr (jb w b1 b2 b3) 3 (.call (.ref 559) ⟨[x,.ref q],[]⟩) h [] (jJ (.bool true)):=by
 refine je (hooks:=[eqH,neH]) (hkc vM (hkc Jk hkn)) (fuel:=10000) (tr:=fun b1=>tr_wmF b1 b2 b3) (ok559 _) (jl.ro st (l:=[(q,_)]) ⟨g0,trivial⟩) fun n tk os bs _=>?_
 exact jj (fun r m=>vd r) (fun r m => .ret (.bool true)) (ps:=[(true,Str.ofString "figure"≠Str.ofString "text")]) (by kernel_rfl) (by kernel_rfl) (fun _ c=>⟨(by first | (with_reducible first | rfl | exact nrA | exact nrB | exact nrG | exact rvS) | (unfold jh;decide +kernel) | (unfold jc;decide +kernel) | (unfold jk;decide +kernel) | decide +kernel | rfl),(c fun r m n tk e h' D'=>jm e)⟩)
theorem wmTN {q:Addr} {d1:Option Addr} {ta1:Nat} {tb1:Nat} {ep1:Nat} {sl1:Array (Option Value)} (st:St (jb w b1 b2 b3) h) (g0:h.get? q=some (vv d1 [.str "text" ta1,.bytes ⟨[120]⟩ tb1] ep1 sl1)) : jr (jb w b1 b2 b3) 3 (.call (.ref 559) ⟨[.none,.ref q],[]⟩) h [] (jJ (.bool true)):=by
 refine je (hooks:=[eqH,neH]) (hkc vM (hkc Jk hkn)) (fuel:=10000) (tr:=fun b1=>tr_wmTN b1 b2 b3) (ok559 _) (jl.ro st (l:=[(q,_)]) ⟨g0,trivial⟩) fun n tk os bs _=>?_
 exact jj (fun r m=>vd r) (fun r m => .ret (.bool true)) (ps:=[(true,Str.ofString "text" = Str.ofString "text")]) (by kernel_rfl) (by kernel_rfl) (fun _ c=>⟨(by first | (with_reducible first | rfl | exact nrA | exact nrB | exact nrG | exact rvS) | (unfold jh;decide +kernel) | (unfold jc;decide +kernel) | (unfold jk;decide +kernel) | decide +kernel | rfl),(c fun r m n tk e h' D'=>jm e)⟩)
theorem wmTR {p:Addr} {q:Addr} {d1:Option Addr} {ta1:Nat} {tb1:Nat} {ep1:Nat} {sl1:Array (Option Value)} {d2:Option Addr} {ta2:Nat} {xa2:Value} {xb2:Value} {xc2:Value} {xd2:Value} {ep2:Nat} {sl2:Array (Option Value)} (st:St (jb w b1 b2 b3) h) (g0:h.get? q=some (vv d1 [.str "text" ta1,.bytes ⟨[120]⟩ tb1] ep1 sl1)) (g1:h.get? p=some (vv d2 [.str "ref" ta2,xa2,xb2,xc2,xd2] ep2 sl2)) : jr (jb w b1 b2 b3) 3 (.call (.ref 559) ⟨[.ref p,.ref q],[]⟩) h [] (jJ (.bool true)):=by
 refine je (hooks:=[eqH,neH]) (hkc vM (hkc Jk hkn)) (fuel:=10000) (tr:=fun b1=>tr_wmTR b1 b2 b3) (ok559 _) (jl.ro st (l:=[(q,_),(p,_)]) ⟨g0,g1,trivial⟩) fun n tk os bs _=>?_
 exact jj (fun r m=>vd r) (fun r m => .ret (.bool true)) (ps:=[(true,Str.ofString "text" = Str.ofString "text"),(true,Str.ofString "ref" = Str.ofString "ref")]) (by kernel_rfl) (by kernel_rfl) (fun _ c=>⟨(by first | (with_reducible first | rfl | exact nrA | exact nrB | exact nrG | exact rvS) | (unfold jh;decide +kernel) | (unfold jc;decide +kernel) | (unfold jk;decide +kernel) | decide +kernel | rfl),⟨(by first | (with_reducible first | rfl | exact nrA | exact nrB | exact nrG | exact rvS) | (unfold jh;decide +kernel) | (unfold jc;decide +kernel) | (unfold jk;decide +kernel) | decide +kernel | rfl),(c fun r m n tk e h' D'=>jm e)⟩⟩)
theorem wmTT {p:Addr} {q:Addr} {d1:Option Addr} {ta1:Nat} {tb1:Nat} {ep1:Nat} {sl1:Array (Option Value)} {d2:Option Addr} {ta2:Nat} {tb2:Nat} {ep2:Nat} {sl2:Array (Option Value)} (st:St (jb w b1 b2 b3) h) (g0:h.get? q=some (vv d1 [.str "text" ta1,.bytes ⟨[120]⟩ tb1] ep1 sl1)) (g1:h.get? p=some (vv d2 [.str "text" ta2,.bytes ⟨[120]⟩ tb2] ep2 sl2)) : jr (jb w b1 b2 b3) 3 (.call (.ref 559) ⟨[.ref p,.ref q],[]⟩) h [] (jJ (.bool true)):=by
 refine je (hooks:=[eqH,neH]) (hkc vM (hkc Jk hkn)) (fuel:=10000) (tr:=fun b1=>tr_wmTT b1 b2 b3) (ok559 _) (jl.ro st (l:=[(q,_),(p,_)]) ⟨g0,g1,trivial⟩) fun n tk os bs _=>?_
 exact jj (fun r m=>vd r) (fun r m => .ret (.bool true)) (ps:=[(true,Str.ofString "text" = Str.ofString "text"),(true,Str.ofString "text"≠Str.ofString "ref"),(true,Str.ofString "text" = Str.ofString "text")]) (by kernel_rfl) (by kernel_rfl) (fun _ c=>⟨(by first | (with_reducible first | rfl | exact nrA | exact nrB | exact nrG | exact rvS) | (unfold jh;decide +kernel) | (unfold jc;decide +kernel) | (unfold jk;decide +kernel) | decide +kernel | rfl),⟨(by first | (with_reducible first | rfl | exact nrA | exact nrB | exact nrG | exact rvS) | (unfold jh;decide +kernel) | (unfold jc;decide +kernel) | (unfold jk;decide +kernel) | decide +kernel | rfl),⟨(by first | (with_reducible first | rfl | exact nrA | exact nrB | exact nrG | exact rvS) | (unfold jh;decide +kernel) | (unfold jc;decide +kernel) | (unfold jk;decide +kernel) | decide +kernel | rfl),(c fun r m n tk e h' D'=>jm e)⟩⟩⟩)
theorem wmTF {p:Addr} {q:Addr} {d1:Option Addr} {ta1:Nat} {tb1:Nat} {ep1:Nat} {sl1:Array (Option Value)} {d2:Option Addr} {ta2:Nat} {xa2:Value} {ep2:Nat} {sl2:Array (Option Value)} (st:St (jb w b1 b2 b3) h) (g0:h.get? q=some (vv d1 [.str "text" ta1,.bytes ⟨[120]⟩ tb1] ep1 sl1)) (g1:h.get? p=some (vv d2 [.str "figure" ta2,xa2] ep2 sl2)) : jr (jb w b1 b2 b3) 3 (.call (.ref 559) ⟨[.ref p,.ref q],[]⟩) h [] (jJ (.bool true)):=by
 refine je (hooks:=[eqH,neH]) (hkc vM (hkc Jk hkn)) (fuel:=10000) (tr:=fun b1=>tr_wmTF b1 b2 b3) (ok559 _) (jl.ro st (l:=[(q,_),(p,_)]) ⟨g0,g1,trivial⟩) fun n tk os bs _=>?_
 exact jj (fun r m=>vd r) (fun r m => .ret (.bool true)) (ps:=[(true,Str.ofString "text" = Str.ofString "text"),(true,Str.ofString "figure"≠Str.ofString "ref"),(true,Str.ofString "figure"≠Str.ofString "text")]) (by kernel_rfl) (by kernel_rfl) (fun _ c=>⟨(by first | (with_reducible first | rfl | exact nrA | exact nrB | exact nrG | exact rvS) | (unfold jh;decide +kernel) | (unfold jc;decide +kernel) | (unfold jk;decide +kernel) | decide +kernel | rfl),⟨(by first | (with_reducible first | rfl | exact nrA | exact nrB | exact nrG | exact rvS) | (unfold jh;decide +kernel) | (unfold jc;decide +kernel) | (unfold jk;decide +kernel) | decide +kernel | rfl),⟨(by first | (with_reducible first | rfl | exact nrA | exact nrB | exact nrG | exact rvS) | (unfold jh;decide +kernel) | (unfold jc;decide +kernel) | (unfold jk;decide +kernel) | decide +kernel | rfl),(c fun r m n tk e h' D'=>jm e)⟩⟩⟩)
theorem DqL.refl:∀ l:List Value,DqL h l l
 |[]=>trivial
 |x::l=>⟨.same x,DqL.refl l⟩
theorem DqL.of:∀ {xs ys:List Value},xs.length=ys.length→(∀ (i:Nat) (p q:Value),xs[i]?=some p→ys[i]?=some q→Dq h p q)→DqL h xs ys
 |[],[],_,_=>trivial
 |x::xs,y::ys,e,H=>⟨H 0 x y rfl rfl,DqL.of (by simpa using e) fun i p q h1 h2=>H (i+1) p q (by simpa using h1) (by simpa using h2)⟩
 |[],_::_,e,_=>by simp at e
 |_::_,[],e,_=>by simp at e
theorem Yk {v:Value} {b:Addr} {l:List Value} {d:Option Addr} {ep:Nat} {sl:Array (Option Value)} (q:Dq h v (.ref b)) (hb:h.get? b=some (vv d l ep sl)):∃ p d' l' ep' sl',v = .ref p∧h.get? p=some (vv d' l' ep' sl')∧DqL h l' l:=by
 cases q with
 |same=>exact ⟨b,_,l,_,_,rfl,hb,.refl l⟩
 |tup a b x y xs ys n k h1 h2 h3 h4 h5 h6 h7 h8 =>
  rw [hb] at h4
  cases h4
  cases h6
  obtain ⟨c,d',dt,sl'⟩:=x
  dsimp only at h2 h3
  subst h2 h3
  obtain ⟨xs⟩:=xs
  exact ⟨a,d',xs,n,sl',rfl,h1,.of (by simpa using h7) fun i p q e1 e2=>h8 i p q (by simpa using e1) (by simpa using e2)⟩
theorem dq_str {v:Value} {s:Str} {t:Tok} (q:Dq h v (.str s t)) (ht:t < 1000000000:=by decide):∃ u,v = .str s u:=by
 cases q with
 |same=>exact ⟨_,rfl⟩
 |str=>exact ⟨_,rfl⟩
 |_=>exact absurd ht (by decide)
theorem dq_bytes {v:Value} {s:Array UInt8} {t:Tok} (q:Dq h v (.bytes s t)):∃ u,v = .bytes s u:=by
 cases q with
 |same=>exact ⟨_,rfl⟩
 |bytes=>exact ⟨_,rfl⟩
theorem vZ {l:List Value} {y:Value} {r:List Value} (q:DqL h l (y::r)):∃ x l',l=x::l'∧Dq h x y∧DqL h l' r:=by
 cases l with
 |nil=>exact q.elim
 |cons x l'=>exact ⟨x,l',rfl,q.1,q.2⟩
theorem dql_nil {l:List Value} (q:DqL h l []):l=[]:=by
 cases l with
 |nil=>rfl
 |cons=>exact q.elim
def IsOpS (v:Value):Prop:=v = .ref 775∨v = .ref 777∨v = .ref 779∨v = .ref 783
inductive OpAt (h:Heap) (p:Addr):Prop where
 |ref (d:Option Addr) (t:Nat) (a b c e:Value) (ep:Nat) (sl:Array (Option Value)):h.get? p=some (vv d [.str "ref" t,a,b,c,e] ep sl)→OpAt h p
 |fig (d:Option Addr) (t:Nat) (a:Value) (ep:Nat) (sl:Array (Option Value)):h.get? p=some (vv d [.str "figure" t,a] ep sl)→OpAt h p
 |text (d:Option Addr) (t u:Nat) (ep:Nat) (sl:Array (Option Value)):h.get? p=some (vv d [.str "text" t,.bytes ⟨[120]⟩ u] ep sl)→OpAt h p
theorem opAt {x v:Value} (st:St (jb w b1 b2 b3) h) (q:Dq h x v) (o:IsOpS v):∃ p,x = .ref p∧OpAt h p:=by
 rcases o with rfl | rfl | rfl | rfl
 ·obtain ⟨p,d,l,ep,sl,rfl,g,e⟩:=Yk q (st775 st)
  obtain ⟨a1,l,rfl,e1,e⟩:=vZ e
  obtain ⟨a2,l,rfl,e2,e⟩:=vZ e
  obtain ⟨a3,l,rfl,e3,e⟩:=vZ e
  obtain ⟨a4,l,rfl,e4,e⟩:=vZ e
  obtain ⟨a5,l,rfl,e5,e⟩:=vZ e
  cases dql_nil e
  obtain ⟨t,rfl⟩:=dq_str e1
  exact ⟨p,rfl,.ref _ _ _ _ _ _ _ _ g⟩
 ·obtain ⟨p,d,l,ep,sl,rfl,g,e⟩:=Yk q (st777 st)
  obtain ⟨a1,l,rfl,e1,e⟩:=vZ e
  obtain ⟨a2,l,rfl,e2,e⟩:=vZ e
  cases dql_nil e
  obtain ⟨t,rfl⟩:=dq_str e1
  obtain ⟨u,rfl⟩:=dq_bytes e2
  exact ⟨p,rfl,.text _ _ _ _ _ g⟩
 ·obtain ⟨p,d,l,ep,sl,rfl,g,e⟩:=Yk q (st779 st)
  obtain ⟨a1,l,rfl,e1,e⟩:=vZ e
  obtain ⟨a2,l,rfl,e2,e⟩:=vZ e
  cases dql_nil e
  obtain ⟨t,rfl⟩:=dq_str e1
  exact ⟨p,rfl,.fig _ _ _ _ _ g⟩
 ·obtain ⟨p,d,l,ep,sl,rfl,g,e⟩:=Yk q (st783 st)
  obtain ⟨a1,l,rfl,e1,e⟩:=vZ e
  obtain ⟨a2,l,rfl,e2,e⟩:=vZ e
  obtain ⟨a3,l,rfl,e3,e⟩:=vZ e
  obtain ⟨a4,l,rfl,e4,e⟩:=vZ e
  obtain ⟨a5,l,rfl,e5,e⟩:=vZ e
  cases dql_nil e
  obtain ⟨t,rfl⟩:=dq_str e1
  exact ⟨p,rfl,.ref _ _ _ _ _ _ _ _ g⟩
theorem Kn {x y:Value} (st:St (jb w b1 b2 b3) h) (hx:x = .none∨∃ p,x = .ref p∧OpAt h p) (hy:∃ q,y = .ref q∧OpAt h q):jr (jb w b1 b2 b3) 3 (.call (.ref 559) ⟨[x,y],[]⟩) h [] (jJ (.bool true)):=by
 obtain ⟨q,rfl,o⟩:=hy
 cases o with
 |ref _ _ _ _ _ _ _ _ g=>exact wmR st g
 |fig _ _ _ _ _ g=>exact wmF st g
 |text _ _ _ _ _ g =>
  rcases hx with rfl | ⟨p,rfl,o⟩
  ·exact wmTN st g
  ·cases o with
   |ref _ _ _ _ _ _ _ _ g'=>exact wmTR st g g'
   |fig _ _ _ _ _ g'=>exact wmTF st g g'
   |text _ _ _ _ _ g'=>exact wmTT st g g'
end
noncomputable def Yi (m:List En) (i j:Nat):Option (Value×Value):=match m[i]? with
 |some e=>e.dq[j]?
 |none=>none
theorem VJ {h:Heap} {m:List En} (hdq:∀ e∈m,∀ p∈e.dq,Dq h p.1 p.2) {i j:Nat} {p:Value×Value} (e:Yi m i j=some p):Dq h p.1 p.2:=by
 unfold Yi at e
 cases q:m[i]? with
 |none=>rw [q] at e;cases e
 |some x=>rw [q] at e;exact hdq x (List.mem_of_getElem? q) p (List.mem_of_getElem? e)
noncomputable def widthsHSp (q:PySem.Addr) (p:PySem.Value×PySem.Value) (q':PySem.Addr):vy:={us:=fun _=>{eqs:=[(q,q')],musts:=[vG p.2],res:=fun _ => .ok (.ret (.bool true))}}
noncomputable def widthsHSp2 (q:PySem.Addr) (p:PySem.Value×PySem.Value) (q':PySem.Addr) (r:PySem.Addr) (p2:PySem.Value×PySem.Value) (r':PySem.Addr):vy:={us:=fun _=>{eqs:=[(q,q'),(r,r')],musts:=[vG p.2,vG p2.2],res:=fun _ => .ok (.ret (.bool true))}}
def widthsH:Hook:=yB 0 3
 (fun c m hint=>oCa (.ref 559) c fun args =>
  oL2 args fun x y =>
  oRf y fun q =>
  oL5 hint fun k i j i2 j2 =>
  oS (Yi m i j) fun p =>
  oRf p.1 fun q' =>
  oZ k (oNo x <| some (widthsHSp q p q')) <|
  oRf x fun r =>
  oS (Yi m i2 j2) fun p2 =>
  oRf p2.1 fun r' =>
  some (widthsHSp2 q p q' r p2 r'))
def exN (v u b a:Value):Nat:=opN v+1+opN u+jp b+jp a
def vN (ts:List Tk) (z:Nat) (K:Str) (v u b a:Value):Prop :=
 ((K = "CHARACTERS"∧v = .none)∨(K ≠ "CHARACTERS"∧qN ts z v))∧ja ts (z+opN v) "BY"∧qN ts (z+opN v+1) u∧vp ts (z+opN v+1+opN u) b a
def YL (K:Str) (v u b a:Value) (row:Addr) (T:Addr) (ts:List Tk):Hook:=vU 573 14 T
 (fun rest z hint=>oL1 rest fun k =>
  yp k fun k _ =>
  oL0 hint <|
  some {musts:=[k=K,vN ts z K v u b a],res:=fun y => .ok (.ret (.ref y.n)),mv:=some (z+exN v u b a),dq:=fun y=>[(.ref y.n,.ref row)]})
def fHook (lv:Nat) (spec:Code→List En→List Nat→Option vy):Hook where
 ar:=2
 br:=0
 nd:=Nat.mul 20 lv
 nu:=Nat.add (Nat.mul 200 lv) 12
 go:=fun c m _ _ hint _ o=>match spec c m hint with
  |some s=>match yb m s.idx with
   |true=>match o with
    |[x,y]=>(s.us 0).go s.idx m x y
    |_ => .short
   |false => .stop 61
  |none => .stop 60
def rdHookFSp (T:PySem.Addr) (R:PySem.Addr) (jD:Nat) (eR:Mine.En) (D:Nat) (eD:Mine.En) (T':Nat) (x:Mine.RdS) (z':Nat):vy:={idx:=[jD],us:=fun _=>{eqs:=[(R,eR.a),(D,eD.a),(T',T)],musts:=x.musts,res:=x.res,objs:=fun y=>[jC eD.o z' y.ob.slots.size],news:=x.news,dq:=x.dq}}
def rdHookF (f:Addr) (lv:Nat) (T:Addr) (spec:List Value→Nat→Value×Value→List Nat→Option RdS):Hook:=fHook lv
 (fun c m hint=>oCa (.ref f) c fun args =>
  oC1 args fun self rest =>
  oRf self fun R =>
  oC4 hint fun jR jD i j hint =>
  oM m jR (VD) fun eR D =>
  oN m jD (Qc) fun eD T' z =>
  oS (Yi m i j) fun p =>
  oS (spec rest z p hint) fun x =>
  oS x.mv fun z' =>
  some (rdHookFSp T R jD eR D eD T' x z'))
def cnN (v b a:Value):Nat:=opN v+jp b+jp a
def yf (ts:List Tk) (z:Nat) (v b a:Value):Prop:=qN ts z v∧vp ts (z+opN v) b a
def JH (ts:List Tk) (e:Nat):Prop:=ts.length≤e∨ja ts e "REPLACING"∨∃ c,jy ts e c∧ja ts (e+opN c) "FOR"
def cntH (K:Str) (cv v b a:Value) (row:Addr) (T:Addr) (ts:List Tk):Hook:=rdHookF 545 14 T
 (fun rest z p hint=>oL2 rest fun x k =>
  oRf x fun xa =>
  yp k fun k _ =>
  oRf p.1 fun pa =>
  oL0 hint <|
  some {musts:=[xa=pa,p.2=cv,k=K,yf ts z v b a,JH ts (z+cnN v b a)],res:=fun y => .ok (.ret (.ref y.n)),mv:=some (z+cnN v b a),news:=[((.type "list",0),fun y=>y.n,fun y=>⟨.type "list",none,.seq ⟨[.ref y.n2]⟩ 1,#[]⟩)],dq:=fun y=>[(.ref y.n2,.ref row)]})
def tr_exN (b1 b2 b3:Bool):Tr:=T [1,1,1,1,0,1,1,1,0,1,1,1,2,0,0,0,2,0,0,0,2,0,0,0,0,2,3,0,2,2,1,2,0,1,1,0,0,1,1,1,1,0,1,3,0,0,0,0] (T [3,0,0,0,3,3,0,4,1,1,0,1,0,3,2,2,3,1,1,0,1,1,0,4,5,0,0,0,0,0,1,2,2,0,2,0,5,2,2,3,1,1,1,0,1,1,1,0] (T [1,1,1,2,1,1,1,0,1,1,1,2,1,1,1,0,1,1,1,2,1,1,1,6,6,6,6,6,6,6,6,6] .nil))
def tr_exO (b1 b2 b3:Bool):Tr:=T [1,1,1,1,0,1,1,1,1,0,1,0,3,2,1,2,1,1,1,2,0,0,0,2,0,0,0,2,0,0,0,0,2,3,0,2,2,1,2,0,1,1,0,0,1,1,1,1] (T [0,1,3,0,0,0,0,3,0,0,0,3,3,0,4,1,1,0,1,0,4,2,2,3,1,1,0,1,1,0,5,5,1,0,0,1,0,1,2,2,0,2,0,6,2,2,3,1] (T [1,1,0,1,1,1,0,1,1,1,2,1,1,1,0,1,1,1,2,1,1,1,0,1,1,1,2,1,1,1,6,6,6,6,6,6,6,6,6] .nil))
def tr_cnE (b1 b2 b3:Bool):Tr:=T [1,1,1,1,1,1,0,2,2,0,2,2,1,2,0,2,1,2,1,2,1,2,1,0,3,0,1,2,3,4,3,3,0,3,0,2,2,3,4,1,1,1,0,1,1,1,0,1] (T [1,1,2,1,1,1,0,1,1,1,2,1,1,1,0,1,1,1,2,1,1,1,7,7,7,7,7,6,6,6,6,7,7,7,7,7,0,7,7,7,7,0,8,8,1,8,0,8] (T [1,8,1,0,9,0,3,3,9,10,0,9] .nil))
def tr_cnR (b1 b2 b3:Bool):Tr:=T [1,1,1,1,1,1,0,2,2,0,2,2,1,2,0,2,1,2,1,2,1,2,1,0,3,0,1,2,3,4,3,3,0,3,0,2,2,3,4,1,1,1,0,1,1,1,0,1] (T [1,1,2,1,1,1,0,1,1,1,2,1,1,1,0,1,1,1,2,1,1,1,7,7,7,7,7,6,6,6,6,7,7,7,7,7,0,7,7,7,7,0,8,8,1,8,0,8] (T [1,8,1,0,9,0,3,3,9,10,18,9] .nil))
def tr_cnA (b1 b2 b3:Bool):Tr:=T [1,1,1,1,1,1,0,2,2,0,2,2,1,2,0,2,1,2,1,2,1,2,1,0,3,0,1,2,3,4,3,3,0,3,0,2,2,3,4,1,1,1,0,1,1,1,0,1] (T [1,1,2,1,1,1,0,1,1,1,2,1,1,1,0,1,1,1,2,1,1,1,7,7,7,7,7,6,6,6,6,7,7,7,7,7,0,7,7,7,7,0,8,8,1,8,0,8] (T [1,8,1,0,9,0,3,3,9,10,1,0,9,0,4,3,9,10,1,9] .nil))
def tr_cnB (b1 b2 b3:Bool):Tr:=T [1,1,1,1,1,1,0,2,2,0,2,2,1,2,0,2,1,2,1,2,1,2,1,0,3,0,1,2,3,4,3,3,0,3,0,2,2,3,4,1,1,1,0,1,1,1,0,1] (T [1,1,2,1,1,1,0,1,1,1,2,1,1,1,0,1,1,1,2,1,1,1,7,7,7,7,7,6,6,6,6,7,7,7,7,7,0,7,7,7,7,0,8,8,1,8,0,8] (T [1,8,1,0,9,0,3,3,9,10,4,0,9,0,4,3,9,10,1,9] .nil))
theorem ok573 (w:World):vH (ktP w) 573=true:=by kernel_rfl
theorem ok545 (w:World):vH (ktP w) 545=true:=by kernel_rfl
def QY (m:List En) (i:Nat):Option (List Value):=match oAt m i with
 |some o=>JC "tuple" o
 |none=>none
def lstE (m:List En) (i:Nat):Option (List Value×Nat):=match oAt m i with
 |some o=>match o with
  |⟨c,d,dt,sl⟩=>match c with
   |.type t=>match decide (t = "list") with
    |true=>match d with
     |none=>match dt with
      |.seq xs ep=>match sl with
       |⟨[]⟩=>match xs with
        |⟨l⟩=>some (l,ep)
       |_=>none
      |_=>none
     |some _=>none
    |false=>none
   |_=>none
 |none=>none
section
variable {w:World} {b1 b2 b3:Bool} {lv:Nat} {hs:List Mine.Hook} {h₀:Heap} {ws:List Addr} {h:Heap} {R D T:Addr} {o:Obj} {ts:List Tk} {z:Nat}
theorem Yd {C:Cfg} {h':Heap} {m:List En} {n i:Nat} {l:List Value} (hR:Rp C h₀ ws m n h') (e:QY m i=some l):∃ d ep sl,h'.get? (aAt m i)=some (vv d l ep sl):=by
 unfold QY at e
 split at e
 ·rename_i o ho
  obtain ⟨d,ep,sl,rfl⟩:=yC e
  exact ⟨d,ep,sl,yk hR ho⟩
 ·cases e
theorem QR {C:Cfg} {h':Heap} {m:List En} {n i ep:Nat} {l:List Value} (hR:Rp C h₀ ws m n h') (e:lstE m i=some (l,ep)):h'.get? (aAt m i)=some ⟨.type "list",none,.seq ⟨l⟩ ep,#[]⟩:=by
 unfold lstE at e
 split at e
 ·rename_i o ho
  split at e
  split at e
  ·split at e
   ·rename_i q
    split at e
    ·split at e
     ·split at e
      ·split at e
       cases e
       have q:=of_decide_eq_true q
       subst q
       exact yk hR ho
      ·cases e
     ·cases e
    ·cases e
   ·cases e
  ·cases e
 ·cases e
def qg (h:Heap) (row:Addr) (l:List Value):Prop:=∃ d ep sl,h.get? row=some (vv d l ep sl)
theorem rdO_no_tup {h1 h2 h3 h4:Int} {k1 k2 k3 k4 T z tz ep:Nat} {n s:Value}:(rdO h1 h2 h3 h4 k1 k2 k3 k4 T z tz n s ep).cls ≠ .type "tuple":=by
 intro e
 exact absurd (Value.type.inj e) (by decide)
theorem Kq {h1 h2 h3 h4:Int} {k1 k2 k3 k4 T z tz ep:Nat} {n s:Value}:JG (rdO h1 h2 h3 h4 k1 k2 k3 k4 T z tz n s ep)=false:=by
 show ym "tokens" "kind" = false
 decide +kernel
theorem qg.mono {h h':Heap} {row D:Addr} {l:List Value} {h1 h2 h3 h4:Int} {k1 k2 k3 k4 T z tz ep:Nat} {n s:Value} (x:qg h row l) (old:Old [D] h h') (hd:h.get? D=some (rdO h1 h2 h3 h4 k1 k2 k3 k4 T z tz n s ep)):qg h' row l:=by
 obtain ⟨d,ep',sl,g⟩:=x
 refine ⟨d,ep',sl,old.2 _ _ g fun q=>?_⟩
 cases q with
 |head=>rw [hd] at g;exact rdO_no_tup (by rw [Option.some.inj g])
 |tail _ q=>cases q
theorem dq_old {h h':Heap} {D:Addr} {x v:Value} {h1 h2 h3 h4:Int} {k1 k2 k3 k4 T z tz ep:Nat} {n s:Value} (old:Old [D] h h') (hd:h.get? D=some (rdO h1 h2 h3 h4 k1 k2 k3 k4 T z tz n s ep)) (q:Dq h x v):Dq h' x v :=
 q.mono fun a ob g c=>old.2 _ _ g fun q=>by
  cases q with
  |head=>rw [hd] at g;rw [←Option.some.inj g,Kq] at c;cases c
  |tail _ q=>cases q
theorem JD {C:Cfg} {h':Heap} {m:List En} {n i:Nat} {l l':List Value} {row:Addr} (hR:Rp C h₀ ws m n h') (e:QY m i=some l) (hr:qg h' row l') (q:DqL h' l l'):Dq h' (.ref (aAt m i)) (.ref row):=by
 obtain ⟨d,ep,sl,g⟩:=Yd hR e
 obtain ⟨d',ep',sl',g'⟩:=hr
 exact KA g g' q
def Km (h:Heap) (D:Addr) (o:Obj) (row:Addr) (z':Nat) (r:Result) (h':Heap):Prop:=∃ n n2,r = .ok (.ret (.ref n))∧h'.get? n=some ⟨.type "list",none,.seq ⟨[.ref n2]⟩ 1,#[]⟩∧h.get? n=none∧Dq h' (.ref n2) (.ref row)∧∃ t,h'.get? D=some (jC o z' t)
theorem widthsH_ok:widthsH.Ok (cfg (jb w b1 b2 b3) lv hs) PW (jb w b1 b2 b3) h₀ ws:=by
 refine vn fun c m hint=>iCa fun args g1=>iL2 fun x y g2=>iRf fun q g3=>iL5 fun k i j i2 j2 g4=>iS fun p qp=>iRf fun q' qq=>iZ ?_ ?_
 ·refine iNo fun g5=>iE fun h hm hi hst hk hdq hoff hold=>?_
  have z0:=hm 0 (Nat.le_refl _)
  have e1:q=q':=z0.1 _ (.head _)
  have e2:=z0.2 _ (.head _)
  clear hm z0
  subst g1 g2 g3 g5 e1
  have F:=VJ hdq qp
  rw [qq] at F
  exact (Kn hst (.inl rfl) (opAt hst F e2)).mono fun r h' _ q=>⟨0,default,Nat.le_refl _,q,trivial,trivial,fun _ q=>(nomatch q),fun _ q=>(nomatch q)⟩
 ·refine iRf fun r g5=>iS fun p2 qp2=>iRf fun r' qr=>iE fun h hm hi hst hk hdq hoff hold=>?_
  have z0:=hm 0 (Nat.le_refl _)
  have e1:q=q':=z0.1 _ (.head _)
  have e2:r=r':=z0.1 _ (.tail _ (.head _))
  have e3:=z0.2 _ (.head _)
  have e4:=z0.2 _ (.tail _ (.head _))
  clear hm z0
  subst g1 g2 g3 g5 e1 e2
  have F:=VJ hdq qp
  rw [qq] at F
  have F2:=VJ hdq qp2
  rw [qr] at F2
  exact (Kn hst (.inr (opAt hst F2 e4)) (opAt hst F e3)).mono fun r h' _ q=>⟨0,default,Nat.le_refl _,q,trivial,trivial,fun _ q=>(nomatch q),fun _ q=>(nomatch q)⟩
theorem ex_N {K:Str} {kt rt:Nat} {v u b a:Value} {row:Addr} (A:jz (jb w b1 b2 b3) h R D o T ts z) (off:(ktP (jb w b1 b2 b3)).get D=none) (hb:b = .none∨∃ q,b = .ref q) (ha:a = .none∨∃ q,a = .ref q) (hr:qg h row [.str K rt,.none,u,b,a]) (m0:K=Str.ofString "CHARACTERS") (m1:ja ts z "BY") (m2:qN ts (z+1) u) (m3:vG u) (m4:vp ts (z+1+opN u) b a):jr (jb w b1 b2 b3) 14 (.call (.ref 573) ⟨[.ref R,.str K kt],[]⟩) h [D] (Yb D o (.ref row) (z+1+opN u+jp b+jp a)):=by
 refine rdE A.o fun h1 h2 h3 h4 k1 k2 k3 k4 tz n0 s0 ep' e0=>?_
 subst e0
 refine je (hooks:=[eqH,va T ts,JB u T ts,widthsH,bdVH b a T ts]) (hkc vM (hkc (vY A.t (jf A.d A.o)) (hkc (yg A.t (jf A.d A.o)) (hkc widthsH_ok (hkc (JM hb ha A.t (jf A.d A.o)) hkn))))) (fuel:=10000) (tr:=fun b1=>tr_exN b1 b2 b3) (ok573 _) (A.shown off) fun n tk os bs hn=>?_
 exact jj (fun r m=>(vR r,yW r,QY m 0,dqS m 5 0,dqS m 4 0,dqS m 4 1,vT m)) (fun r m=>(true,aAt m 0,some [.str K kt,.none,dqF m 5 0,dqF m 4 0,dqF m 4 1],some u,some b,some a,some (D,some (jC (rdO h1 h2 h3 h4 k1 k2 k3 k4 T z tz n0 s0 ep') (z+1+opN u+jp b+jp a) 0)))) (ps:=[(true,K=Str.ofString "CHARACTERS"),(true,jh "BY"),(true,ja ts z "BY"),yt,(true,qN ts (z+1) u),yt,(true,vG u),yt,(true,vp ts (z+1+opN u) b a),yt]) (by kernel_rfl) (by kernel_rfl) (fun _ c=>⟨m0,⟨(by first | (with_reducible first | rfl | exact nrA | exact nrB | exact nrG | exact rvS) | (unfold jh;decide +kernel) | (unfold jc;decide +kernel) | (unfold jk;decide +kernel) | decide +kernel | rfl),⟨m1,(sk <| ⟨m2,(sk <| ⟨m3,(sk <| ⟨m4,(sk <| (c fun r m n tk e h' D'=>by
  refine pr7 e fun e1 e2 e3 d0 d1 d2 e4=>?_
  exact ⟨aAt m 0,by rw [vl e1,e2],JD D' e3 (hr.mono (Rp.old D') A.d) ⟨.str _ _ _,.same _,vg D' d0,vg D' d1,vg D' d2,trivial⟩,ya D' A.o e4⟩))⟩)⟩)⟩)⟩⟩⟩)
theorem ex_O {K:Str} {kt rt:Nat} {v u b a:Value} {row:Addr} (A:jz (jb w b1 b2 b3) h R D o T ts z) (off:(ktP (jb w b1 b2 b3)).get D=none) (hb:b = .none∨∃ q,b = .ref q) (ha:a = .none∨∃ q,a = .ref q) (hr:qg h row [.str K rt,v,u,b,a]) (m0:K≠Str.ofString "CHARACTERS") (m1:qN ts z v) (m2:ja ts (z+opN v) "BY") (m3:qN ts (z+opN v+1) u) (m4:vG u) (m5:vG v) (m6:vp ts (z+opN v+1+opN u) b a):jr (jb w b1 b2 b3) 14 (.call (.ref 573) ⟨[.ref R,.str K kt],[]⟩) h [D] (Yb D o (.ref row) (z+opN v+1+opN u+jp b+jp a)):=by
 refine rdE A.o fun h1 h2 h3 h4 k1 k2 k3 k4 tz n0 s0 ep' e0=>?_
 subst e0
 refine je (hooks:=[eqH,va T ts,JB v T ts,JB u T ts,widthsH,bdVH b a T ts]) (hkc vM (hkc (vY A.t (jf A.d A.o)) (hkc (yg A.t (jf A.d A.o)) (hkc (yg A.t (jf A.d A.o)) (hkc widthsH_ok (hkc (JM hb ha A.t (jf A.d A.o)) hkn)))))) (fuel:=10000) (tr:=fun b1=>tr_exO b1 b2 b3) (ok573 _) (A.shown off) fun n tk os bs hn=>?_
 exact jj (fun r m=>(vR r,yW r,QY m 0,dqS m 6 0,dqS m 5 0,dqS m 4 0,dqS m 4 1,vT m)) (fun r m=>(true,aAt m 0,some [.str K kt,dqF m 6 0,dqF m 5 0,dqF m 4 0,dqF m 4 1],some v,some u,some b,some a,some (D,some (jC (rdO h1 h2 h3 h4 k1 k2 k3 k4 T z tz n0 s0 ep') (z+opN v+1+opN u+jp b+jp a) 0)))) (ps:=[(true,K≠Str.ofString "CHARACTERS"),(true,qN ts z v),yt,(true,jh "BY"),(true,ja ts (z+opN v) "BY"),yt,(true,qN ts (z+opN v+1) u),yt,(true,vG u),(true,vG v),yt,(true,vp ts (z+opN v+1+opN u) b a),yt]) (by kernel_rfl) (by kernel_rfl) (fun _ c=>⟨m0,⟨m1,(sk <| ⟨(by first | (with_reducible first | rfl | exact nrA | exact nrB | exact nrG | exact rvS) | (unfold jh;decide +kernel) | (unfold jc;decide +kernel) | (unfold jk;decide +kernel) | decide +kernel | rfl),⟨m2,(sk <| ⟨m3,(sk <| ⟨m4,⟨m5,(sk <| ⟨m6,(sk <| (c fun r m n tk e h' D'=>by
  refine pr8 e fun e1 e2 e3 d0 d1 d2 d3 e4=>?_
  exact ⟨aAt m 0,by rw [vl e1,e2],JD D' e3 (hr.mono (Rp.old D') A.d) ⟨.str _ _ _,vg D' d0,vg D' d1,vg D' d2,vg D' d3,trivial⟩,ya D' A.o e4⟩))⟩)⟩⟩)⟩)⟩⟩)⟩⟩)
theorem cn_E {K:Str} {kt rt:Nat} {c cv v u b a:Value} {row xa:Addr} (A:jz (jb w b1 b2 b3) h R D o T ts z) (off:(ktP (jb w b1 b2 b3)).get D=none) (hb:b = .none∨∃ q,b = .ref q) (ha:a = .none∨∃ q,a = .ref q) (hr:qg h row [cv,.str K rt,v,b,a]) (hx:Dq h (.ref xa) cv) (m0:qN ts z v) (m1:vp ts (z+opN v) b a) (m2:ts.length≤z+opN v+jp b+jp a):jr (jb w b1 b2 b3) 14 (.call (.ref 545) ⟨[.ref R,.ref xa,.str K kt],[]⟩) h [D] (Km h D o row (z+opN v+jp b+jp a)):=by
 refine rdE A.o fun h1 h2 h3 h4 k1 k2 k3 k4 tz n0 s0 ep' e0=>?_
 subst e0
 refine je (hooks:=[JB v T ts,bdVH b a T ts,begTxH T ts,jX c T ts]) (hkc (yg A.t (jf A.d A.o)) (hkc (JM hb ha A.t (jf A.d A.o)) (hkc (VQ A.t (jf A.d A.o)) (hkc (vz A.t (jf A.d A.o)) hkn)))) (fuel:=10000) (tr:=fun b1=>tr_cnE b1 b2 b3) (ok545 _) (A.shown off) fun n tk os bs hn=>?_
 exact jj (fun r m=>(vR r,yW r,aAt m 7,lstE m 7,QY m 1,dqS m 6 0,dqS m 5 0,dqS m 5 1,vT m)) (fun r m=>(true,aAt m 7,n+846,some ([.ref (aAt m 1)],1),some [.ref xa,.str K kt,dqF m 6 0,dqF m 5 0,dqF m 5 1],some v,some b,some a,some (D,some (jC (rdO h1 h2 h3 h4 k1 k2 k3 k4 T z tz n0 s0 ep') (z+opN v+jp b+jp a) 0)))) (ps:=[(true,qN ts z v),yt,(true,vp ts (z+opN v) b a),yt,(true,ts.length≤z+opN v+jp b+jp a),yt]) (by kernel_rfl) (by kernel_rfl) (fun _ c=>⟨m0,(sk <| ⟨m1,(sk <| ⟨m2,(sk <| (c fun r m n tk e h' D'=>by
  refine pr9 e fun e1 e2 e6 e3 e5 d0 d1 d2 e4=>?_
  exact ⟨aAt m 7,aAt m 1,by rw [vl e1,e2],QR D' e3,Heap.get?_none_of_le (by rw [e6,hn];omega),JD D' e5 (hr.mono (Rp.old D') A.d) ⟨dq_old (Rp.old D') A.d hx,.str _ _ _,vg D' d0,vg D' d1,vg D' d2,trivial⟩,ya D' A.o e4⟩))⟩)⟩)⟩)
theorem cn_R {K:Str} {kt rt:Nat} {c cv v u b a:Value} {row xa:Addr} (A:jz (jb w b1 b2 b3) h R D o T ts z) (off:(ktP (jb w b1 b2 b3)).get D=none) (hb:b = .none∨∃ q,b = .ref q) (ha:a = .none∨∃ q,a = .ref q) (hr:qg h row [cv,.str K rt,v,b,a]) (hx:Dq h (.ref xa) cv) (m0:qN ts z v) (m1:vp ts (z+opN v) b a) (m2:ts[z+opN v+jp b+jp a]?=some {lit:=false,s:=Str.ofString "REPLACING"}):jr (jb w b1 b2 b3) 14 (.call (.ref 545) ⟨[.ref R,.ref xa,.str K kt],[]⟩) h [D] (Km h D o row (z+opN v+jp b+jp a)):=by
 refine rdE A.o fun h1 h2 h3 h4 k1 k2 k3 k4 tz n0 s0 ep' e0=>?_
 subst e0
 refine je (hooks:=[JB v T ts,bdVH b a T ts,begTxH T ts,jX c T ts]) (hkc (yg A.t (jf A.d A.o)) (hkc (JM hb ha A.t (jf A.d A.o)) (hkc (VQ A.t (jf A.d A.o)) (hkc (vz A.t (jf A.d A.o)) hkn)))) (fuel:=10000) (tr:=fun b1=>tr_cnR b1 b2 b3) (ok545 _) (A.shown off) fun n tk os bs hn=>?_
 exact jj (fun r m=>(vR r,yW r,aAt m 7,lstE m 7,QY m 1,dqS m 6 0,dqS m 5 0,dqS m 5 1,vT m)) (fun r m=>(true,aAt m 7,n+846,some ([.ref (aAt m 1)],1),some [.ref xa,.str K kt,dqF m 6 0,dqF m 5 0,dqF m 5 1],some v,some b,some a,some (D,some (jC (rdO h1 h2 h3 h4 k1 k2 k3 k4 T z tz n0 s0 ep') (z+opN v+jp b+jp a) 0)))) (ps:=[(true,qN ts z v),yt,(true,vp ts (z+opN v) b a),yt,(true,ts[z+opN v+jp b+jp a]?=some {lit:=false,s:=Str.ofString "REPLACING"}),yt]) (by kernel_rfl) (by kernel_rfl) (fun _ c=>⟨m0,(sk <| ⟨m1,(sk <| ⟨m2,(sk <| (c fun r m n tk e h' D'=>by
  refine pr9 e fun e1 e2 e6 e3 e5 d0 d1 d2 e4=>?_
  exact ⟨aAt m 7,aAt m 1,by rw [vl e1,e2],QR D' e3,Heap.get?_none_of_le (by rw [e6,hn];omega),JD D' e5 (hr.mono (Rp.old D') A.d) ⟨dq_old (Rp.old D') A.d hx,.str _ _ _,vg D' d0,vg D' d1,vg D' d2,trivial⟩,ya D' A.o e4⟩))⟩)⟩)⟩)
theorem cn_A {K:Str} {kt rt:Nat} {c cv v u b a:Value} {row xa:Addr} (A:jz (jb w b1 b2 b3) h R D o T ts z) (off:(ktP (jb w b1 b2 b3)).get D=none) (hb:b = .none∨∃ q,b = .ref q) (ha:a = .none∨∃ q,a = .ref q) (hr:qg h row [cv,.str K rt,v,b,a]) (hx:Dq h (.ref xa) cv) (m0:qN ts z v) (m1:vp ts (z+opN v) b a) (m2:ts[z+opN v+jp b+jp a]?=some {lit:=false,s:=Str.ofString "A"}) (m3:jy ts (z+opN v+jp b+jp a) c) (m4:ja ts (z+opN v+jp b+jp a+opN c) "FOR"):jr (jb w b1 b2 b3) 14 (.call (.ref 545) ⟨[.ref R,.ref xa,.str K kt],[]⟩) h [D] (Km h D o row (z+opN v+jp b+jp a)):=by
 refine rdE A.o fun h1 h2 h3 h4 k1 k2 k3 k4 tz n0 s0 ep' e0=>?_
 subst e0
 refine je (hooks:=[JB v T ts,bdVH b a T ts,begTxH T ts,jX c T ts]) (hkc (yg A.t (jf A.d A.o)) (hkc (JM hb ha A.t (jf A.d A.o)) (hkc (VQ A.t (jf A.d A.o)) (hkc (vz A.t (jf A.d A.o)) hkn)))) (fuel:=10000) (tr:=fun b1=>tr_cnA b1 b2 b3) (ok545 _) (A.shown off) fun n tk os bs hn=>?_
 exact jj (fun r m=>(vR r,yW r,aAt m 7,lstE m 7,QY m 1,dqS m 6 0,dqS m 5 0,dqS m 5 1,vT m)) (fun r m=>(true,aAt m 7,n+846,some ([.ref (aAt m 1)],1),some [.ref xa,.str K kt,dqF m 6 0,dqF m 5 0,dqF m 5 1],some v,some b,some a,some (D,some (jC (rdO h1 h2 h3 h4 k1 k2 k3 k4 T z tz n0 s0 ep') (z+opN v+jp b+jp a) 0)))) (ps:=[(true,qN ts z v),yt,(true,vp ts (z+opN v) b a),yt,(true,ts[z+opN v+jp b+jp a]?=some {lit:=false,s:=Str.ofString "A"}),yt,(true,jy ts (z+opN v+jp b+jp a) c),(true,ja ts (z+opN v+jp b+jp a+opN c) "FOR"),yt]) (by kernel_rfl) (by kernel_rfl) (fun _ c=>⟨m0,(sk <| ⟨m1,(sk <| ⟨m2,(sk <| ⟨m3,⟨m4,(sk <| (c fun r m n tk e h' D'=>by
  refine pr9 e fun e1 e2 e6 e3 e5 d0 d1 d2 e4=>?_
  exact ⟨aAt m 7,aAt m 1,by rw [vl e1,e2],QR D' e3,Heap.get?_none_of_le (by rw [e6,hn];omega),JD D' e5 (hr.mono (Rp.old D') A.d) ⟨dq_old (Rp.old D') A.d hx,.str _ _ _,vg D' d0,vg D' d1,vg D' d2,trivial⟩,ya D' A.o e4⟩))⟩⟩)⟩)⟩)⟩)
theorem cn_B {K:Str} {kt rt:Nat} {c cv v u b a:Value} {row xa:Addr} (A:jz (jb w b1 b2 b3) h R D o T ts z) (off:(ktP (jb w b1 b2 b3)).get D=none) (hb:b = .none∨∃ q,b = .ref q) (ha:a = .none∨∃ q,a = .ref q) (hr:qg h row [cv,.str K rt,v,b,a]) (hx:Dq h (.ref xa) cv) (m0:qN ts z v) (m1:vp ts (z+opN v) b a) (m2:ts[z+opN v+jp b+jp a]?=some {lit:=false,s:=Str.ofString "B"}) (m3:jy ts (z+opN v+jp b+jp a) c) (m4:ja ts (z+opN v+jp b+jp a+opN c) "FOR"):jr (jb w b1 b2 b3) 14 (.call (.ref 545) ⟨[.ref R,.ref xa,.str K kt],[]⟩) h [D] (Km h D o row (z+opN v+jp b+jp a)):=by
 refine rdE A.o fun h1 h2 h3 h4 k1 k2 k3 k4 tz n0 s0 ep' e0=>?_
 subst e0
 refine je (hooks:=[JB v T ts,bdVH b a T ts,begTxH T ts,jX c T ts]) (hkc (yg A.t (jf A.d A.o)) (hkc (JM hb ha A.t (jf A.d A.o)) (hkc (VQ A.t (jf A.d A.o)) (hkc (vz A.t (jf A.d A.o)) hkn)))) (fuel:=10000) (tr:=fun b1=>tr_cnB b1 b2 b3) (ok545 _) (A.shown off) fun n tk os bs hn=>?_
 exact jj (fun r m=>(vR r,yW r,aAt m 7,lstE m 7,QY m 1,dqS m 6 0,dqS m 5 0,dqS m 5 1,vT m)) (fun r m=>(true,aAt m 7,n+846,some ([.ref (aAt m 1)],1),some [.ref xa,.str K kt,dqF m 6 0,dqF m 5 0,dqF m 5 1],some v,some b,some a,some (D,some (jC (rdO h1 h2 h3 h4 k1 k2 k3 k4 T z tz n0 s0 ep') (z+opN v+jp b+jp a) 0)))) (ps:=[(true,qN ts z v),yt,(true,vp ts (z+opN v) b a),yt,(true,ts[z+opN v+jp b+jp a]?=some {lit:=false,s:=Str.ofString "B"}),yt,(true,jy ts (z+opN v+jp b+jp a) c),(true,ja ts (z+opN v+jp b+jp a+opN c) "FOR"),yt]) (by kernel_rfl) (by kernel_rfl) (fun _ c=>⟨m0,(sk <| ⟨m1,(sk <| ⟨m2,(sk <| ⟨m3,⟨m4,(sk <| (c fun r m n tk e h' D'=>by
  refine pr9 e fun e1 e2 e6 e3 e5 d0 d1 d2 e4=>?_
  exact ⟨aAt m 7,aAt m 1,by rw [vl e1,e2],QR D' e3,Heap.get?_none_of_le (by rw [e6,hn];omega),JD D' e5 (hr.mono (Rp.old D') A.d) ⟨dq_old (Rp.old D') A.d hx,.str _ _ _,vg D' d0,vg D' d1,vg D' d2,trivial⟩,ya D' A.o e4⟩))⟩⟩)⟩)⟩)⟩)
end
section
variable {w:World} {lc:Nat} {hs:List Hook} {h₀:Heap} {ws:List Addr}
theorem Rp.fresh {C:Cfg} {h h':Heap} {m:List En} {n:Nat} {y:Ora} (D:Rp C h₀ ws m n h') (k:∀ x∈m,h.get? x.a≠none):∀ {l:List ((Value×Nat)×(Ora→Addr)×(Ora→Obj))},(∀ p∈l,h'.get? (p.2.1 y)=some (p.2.2 y)∧h.get? (p.2.1 y)=none)→Rp C h₀ ws (newEs y l++m) n h'
 |[],_=>D
 |p::l,hg=>by
  have D':=Rp.fresh (h:=h) (y:=y) D k (l:=l) (fun q hq=>hg q (.tail _ hq))
  refine D'.show (hg p (.head _)).1 fun x hx hw e=>?_
  rcases List.mem_append.mp hx with q | q
  ·have no:∀ (l:List ((Value×Nat)×(Ora→Addr)×(Ora→Obj))),∀ x∈newEs y l,x.w=false:=by
    intro l
    induction l with
    |nil=>intro x hx;cases hx
    |cons p l ih =>
     intro x hx
     cases hx with
     |head=>rfl
     |tail _ hx=>exact ih x hx
   rw [no l x q] at hw
   cases hw
  ·exact k x q (by rw [e];exact (hg p (.head _)).2)
structure FP (h:Heap) (m:List En) (sp:vy) (r:Result) (h':Heap) (y:Ora):Prop where
 e:r=(sp.us 0).res y
 may:(sp.us 0).may y
 ups:Ups m h' sp.idx ((sp.us 0).objs y)
 news:∀ p∈(sp.us 0).news,h'.get? (p.2.1 y)=some (p.2.2 y)∧h.get? (p.2.1 y)=none
 dq:∀ p∈(sp.us 0).dq y,Dq h' p.1 p.2
def FPost (h:Heap) (m:List En) (sp:vy):Result→Heap→Prop:=fun r h'=>∃ y,FP h m sp r h' y
def FG (w:World) (h₀:Heap) (ws:List Addr) (lv:Nat) (c:Code) (m:List En) (sp:vy):Prop:=∀ h,(∀ p∈(sp.us 0).eqs,p.1=p.2)→(∀ P∈(sp.us 0).musts,P)→yb m sp.idx=true→St w h→(∀ e∈m,h.get? e.a=some e.o)→(∀ e∈m,∀ p∈e.dq,Dq h p.1 p.2)→(∀ e∈m,e.w=true→(ktP w).get e.a=none)→Old ws h₀ h →
   jr w lv c h (vF m sp.idx) (FPost h m sp)
theorem fHook_ok {lv:Nat} {spec} (H:∀ c m hint,Inv (spec c m hint) (FG w h₀ ws lv c m)):(fHook lv spec).Ok (cfg w lc hs) PW w h₀ ws:=by
 intro A m n c hint h g d tk os R h1 h2 h3 D G
 have no:∀ {k:Nat},qU (QM (cfg w lc hs) h₀ ws R g d os) (.stop k)→False:=fun h=>h
 cases qs:spec c m hint with
 |none =>
  have G0:=G 0 [default,default] (fun _=>rfl) rfl
  simp only [fHook,qs] at G0
  exact (no G0).elim
 |some sp =>
  have G1:∀ x y,yb m sp.idx=true∧qU (QM (cfg w lc hs) h₀ ws R g d os) ((sp.us 0).go sp.idx m x y):=fun x y=>by
   have z:=G 0 [x,y] (fun _=>rfl) rfl
   simp only [fHook,qs] at z
   cases qk:yb m sp.idx with
   |false=>rw [qk] at z;exact (no z).elim
   |true=>rw [qk] at z;exact ⟨rfl,z⟩
  have hi:yb m sp.idx=true:=(G1 default default).1
  have z:=Qf (G1 default default).2
  refine H c m hint sp qs h z.1 (Qe z.2).1 hi D.stat D.known D.facts D.off D.old A g d tk os R (room_of h1 h2 h3) fun r h' tk' o p=>?_
  obtain ⟨y,rfl,hm,hu,hn,hd⟩:=p
  have k2:=(G1 {n:=h'.objs.size,n2:=tk'} y).2
  have z:=(Qe (Qf k2).2).2 hm
  refine z h' ?_
  have D':=D.setAll hi o hu
  refine (Rp.fresh (h:=h) (y:=y) D' (fun x hx=>?_) hn).addDq hd
  obtain ⟨i,hx'⟩:=List.getElem?_of_mem hx
  obtain ⟨e,he,e1,_⟩:=Qy hi hu i x hx'
  rw [e1,D.known e (List.mem_of_getElem? he)]
  exact fun q=>nomatch q
end
def RdPostF (h:Heap) (D:Addr) (o:Obj) (x:RdS):Result→Heap→Prop:=fun r h'=>∃ y,r=x.res y∧(∀ z',x.mv=some z'→h'.get? D=some (jC o z' y.ob.slots.size)) ∧
 (∀ p∈x.news,h'.get? (p.2.1 y)=some (p.2.2 y)∧h.get? (p.2.1 y)=none)∧(∀ p∈x.dq y,Dq h' p.1 p.2)
def RFG (w:World) (h₀:Heap) (ws:List Addr) (f:Addr) (lv:Nat) (T:Addr) (ts:List Tk) (rest:List Value) (z:Nat) (p:Value×Value) (x:RdS):Prop:=∀ h R D o,x.mv.isSome=true→Dq h p.1 p.2→(∀ P∈x.musts,P)→jz w h R D o T ts z→(x.mv.isSome=true→(ktP w).get D=none)→Old ws h₀ h →
   jr w lv (.call (.ref f) ⟨.ref R::rest,[]⟩) h (match x.mv with | some _=>[D] | none=>[]) (RdPostF h D o x)
theorem rdHookF_ok {w:World} {lc:Nat} {hs:List Mine.Hook} {h₀:Heap} {ws:List Addr} {f:Addr} {lv:Nat} {T:Addr} {spec} {ts:List Tk}
  (H:∀ rest z p hint,Inv (spec rest z p hint) (RFG w h₀ ws f lv T ts rest z p)) (ht:yG h₀ T ts) (hw:yO T h₀ ws):(rdHookF f lv T spec).Ok (cfg w lc hs) PW w h₀ ws:=by
 refine fHook_ok fun c m hint=>?_
 refine iCa fun args b1=>iC1 fun self rest b2=>iRf fun R b3=>iC4 fun jR jD i j hint b4=>iM fun eR D qR qi=>iN fun eD T' z qD qo=>iS fun p qp=>iS fun x qs=>iS fun z' qz=>?_
 subst b1 b2 b3 b4
 refine iE ?_
 intro h he hm hi hst hk hdq hoff hold
 have e1:R=eR.a:=he (R,eR.a) (.head _)
 have e2:D=eD.a:=yM he 1
 have e3:T'=T:=yM he 2
 have hwD:=Jv hi qD
 have hm:∀ P∈x.musts,P:=hm
 clear he hi
 subst e1 e2 e3
 have A:jz w h eR.a eD.a eD.o T' ts z:=⟨hst,QI qi ▸ hk eR (List.mem_of_getElem? qR),hk eD (List.mem_of_getElem? qD),qo,ht.old hold hw⟩
 have S:=H rest z p hint x qs h eR.a eD.a eD.o (by rw [qz];rfl) (VJ hdq qp) hm A (fun _=>hoff eD (List.mem_of_getElem? qD) hwD) hold
 rw [qz] at S
 refine jr.on (adC qD adN) S fun r h' _ p=>?_
 obtain ⟨y,p1,p2,p3,p4⟩:=p
 exact ⟨y,p1,trivial,⟨⟨eD,qD,p2 z' qz,Ys qo⟩,trivial⟩,p3,p4⟩
def Jy (h₀:Heap) (ws:List Addr):Prop:=∀ a∈ws,∀ o,h₀.get? a=some o→JG o=false
theorem qg.at {h₀ h:Heap} {ws:List Addr} {row:Addr} {l:List Value} (hr:qg h₀ row l) (old:Old ws h₀ h) (hn:Jy h₀ ws):qg h row l:=by
 obtain ⟨d,ep,sl,g⟩:=hr
 exact ⟨d,ep,sl,old.2 _ _ g fun q=>by have z:=hn _ q _ g;rw [isTup_cls rfl] at z;cases z⟩
theorem yV {h:Heap} {D:Addr} {o:Obj} {T z:Nat} (e:h.get? D=some o) (q:Qc o=some (T,z)):Jy h [D]:=fun a ha o' g=>by
 cases ha with
 |head =>
  refine rdE q fun h1 h2 h3 h4 k1 k2 k3 k4 tz n s ep ee=>?_
  subst ee
  rw [e] at g
  cases g
  exact Kq
 |tail _ ha=>cases ha
section
variable {w:World} {b1 b2 b3:Bool} {lv:Nat} {hs:List Mine.Hook} {h₀:Heap} {ws:List Addr} {h:Heap} {R D T:Addr} {o:Obj} {ts:List Tk} {z:Nat}
theorem isOp_of {ts:List Tk} {z:Nat} {v:Value} (s:qN ts z v):vG v:=by
 rcases s with ⟨rfl,_⟩ | ⟨rfl,_⟩ | ⟨rfl,_⟩ | ⟨rfl,_⟩
 ·exact .inl rfl
 ·exact .inr (.inl rfl)
 ·exact .inr (.inr (.inl rfl))
 ·exact .inr (.inr (.inr rfl))
def BdV (v:Value):Prop:=v = .none∨∃ q,v = .ref q
theorem exch_says {K:Str} {kt rt:Nat} {v u b a:Value} {row:Addr} (A:jz (jb w b1 b2 b3) h R D o T ts z) (off:(ktP (jb w b1 b2 b3)).get D=none) (hb:BdV b) (ha:BdV a) (hr:qg h row [.str K rt,v,u,b,a]) (s:vN ts z K v u b a) :
  jr (jb w b1 b2 b3) 14 (.call (.ref 573) ⟨[.ref R,.str K kt],[]⟩) h [D] (Yb D o (.ref row) (z+exN v u b a)):=by
 obtain ⟨sv,sy,su,sb⟩:=s
 rcases sv with ⟨hK,rfl⟩ | ⟨hK,sv⟩
 ·have e:z+exN .none u b a=z+1+opN u+jp b+jp a:=by
   show z+(0+1+opN u+jp b+jp a)=_;omega
  rw [e]
  exact ex_N (v := .none) A off hb ha hr hK sy su (isOp_of su) sb
 ·have e:z+exN v u b a=z+opN v+1+opN u+jp b+jp a:=by
   show z+(opN v+1+opN u+jp b+jp a)=_;omega
  rw [e]
  exact ex_O A off hb ha hr hK sv sy su (isOp_of su) (isOp_of sv) sb
theorem Jx {K:Str} {rt:Nat} {v u b a:Value} {row:Addr} (hb:BdV b) (ha:BdV a) (hr:qg h₀ row [.str K rt,v,u,b,a]) (hn:Jy h₀ ws) (ht:yG h₀ T ts) (hw:yO T h₀ ws):(YL K v u b a row T ts).Ok (cfg (jb w b1 b2 b3) lv hs) PW (jb w b1 b2 b3) h₀ ws:=by
 refine qJ (ts:=ts) (fun rest z hint=>?_) ht hw
 refine iL1 fun _ b1=>yl fun _ _ b2=>iL0 fun b3=>?_
 subst b1 b2 b3
 refine iE ?_
 intro h R D o hm A off hold
 have e:_=K:=hm _ (.head _)
 subst e
 exact (exch_says A (off rfl) hb ha (hr.at hold hn) (hm _ (.tail _ (.head _)))).mono fun r h' _ q=>Vz q
theorem cnt_says {K:Str} {kt rt:Nat} {cv v b a:Value} {row xa:Addr} (A:jz (jb w b1 b2 b3) h R D o T ts z) (off:(ktP (jb w b1 b2 b3)).get D=none) (hb:BdV b) (ha:BdV a) (hr:qg h row [cv,.str K rt,v,b,a]) (hx:Dq h (.ref xa) cv) (s:yf ts z v b a) (en:JH ts (z+cnN v b a)) :
  jr (jb w b1 b2 b3) 14 (.call (.ref 545) ⟨[.ref R,.ref xa,.str K kt],[]⟩) h [D] (Km h D o row (z+cnN v b a)):=by
 obtain ⟨sv,sb⟩:=s
 have e:z+cnN v b a=z+opN v+jp b+jp a:=by
  show z+(opN v+jp b+jp a)=_;omega
 rw [e] at en ⊢
 rcases en with en | en | ⟨c,sc,sf⟩
 ·exact cn_E (c:=cv) (u:=cv) A off hb ha hr hx sv sb en
 ·exact cn_R (c:=cv) (u:=cv) A off hb ha hr hx sv sb en
 ·rcases sc.2 with ⟨_,e,_⟩ | ⟨rfl,_⟩ | ⟨rfl,_⟩ | ⟨_,e,_⟩
  ·exact cn_A (u:=cv) A off hb ha hr hx sv sb e sc sf
  ·rcases sc.1 with q | q <;> exact absurd (Value.ref.inj q) (by decide)
  ·rcases sc.1 with q | q <;> exact absurd (Value.ref.inj q) (by decide)
  ·exact cn_B (u:=cv) A off hb ha hr hx sv sb e sc sf
theorem cnt_post {h:Heap} {D:Addr} {o:Obj} {ms:List Prop} {row:Addr} {r:Result} {h':Heap} {z':Nat}:Km h D o row z' r h'→RdPostF h D o {musts:=ms,res:=fun y => .ok (.ret (.ref y.n)),mv:=some z',news:=[((.type "list",0),fun y=>y.n,fun y=>⟨.type "list",none,.seq ⟨[.ref y.n2]⟩ 1,#[]⟩)],dq:=fun y=>[(.ref y.n2,.ref row)]} r h'
 |⟨n,n2,q,g,fr,d,t,e⟩=>⟨oraT {(default:Ora) with n:=n,n2:=n2} t,q,fun _ q=>by cases q;rw [QA];exact e,fun p hp=>by
   cases hp with
   |head=>exact ⟨g,fr⟩
   |tail _ h=>(nomatch h),fun p hp=>by
   cases hp with
   |head=>exact d
   |tail _ h=>(nomatch h)⟩
theorem VM {K:Str} {rt:Nat} {cv v b a:Value} {row:Addr} (hb:BdV b) (ha:BdV a) (hr:qg h₀ row [cv,.str K rt,v,b,a]) (hn:Jy h₀ ws) (ht:yG h₀ T ts) (hw:yO T h₀ ws):(cntH K cv v b a row T ts).Ok (cfg (jb w b1 b2 b3) lv hs) PW (jb w b1 b2 b3) h₀ ws:=by
 refine rdHookF_ok (ts:=ts) (fun rest z p hint=>?_) ht hw
 refine iL2 fun _ _ b1=>iRf fun _ b2=>yl fun _ _ b3=>iRf fun pa qp=>iL0 fun b4=>?_
 subst b1 b2 b3 b4
 refine iE ?_
 intro h R D o _ F hm A off hold
 have e1:_=pa:=hm _ (.head _)
 have e2:p.2=cv:=vV hm 1
 have e3:_=K:=vV hm 2
 have s:yf ts z v b a:=vV hm 3
 have en:JH ts (z+cnN v b a):=vV hm 4
 subst e1 e3
 rw [qp,e2] at F
 exact (cnt_says A (off rfl) hb ha (hr.at hold hn) F s en).mono fun r h' _ q=>cnt_post q
end
noncomputable def envOf (s:Stmt) (f:Addr) (q:Str) (code:Value) (F:Addr):Env:=match s with
 |.FunctionDef _ _ _ _ _ _ scope _ _ _=>{scope,locals:=F,globals:=3,cells:=[],qual:=q ++ ".<locals>.",func:=some f,code,frame:=some F,builtins:=0}
 |_=>default
noncomputable def VO (s:Stmt):List Stmt:=match s with
 |.FunctionDef _ _ body _ _ _ _ _ _ _=>body
 |_=>[]
noncomputable def whileOf (s:Stmt) (e:Env):Code:=match s with
 |.While t b o _ => .whileLoop t b o e
 |_ => .block [] e
def vu (F:Addr):Code:=whileOf (nthS (VO (stT 89)) 1) (envOf (stT 89) 552 sx10 (.ref 551) F)
def vK (F:Addr):Code:=whileOf (nthS (VO (stT 93)) 1) (envOf (stT 93) 580 sx7 (.ref 579) F)
structure Fe where
 z:Int
 s:Str
 t:Nat
 v:Value
noncomputable def Fe.en (e:Fe):DictEntry:=⟨e.z,.str e.s e.t,e.v⟩
def frO (l:List Fe) (ep:Nat):Obj:=⟨.type "frame",none,.dict ⟨l.map Fe.en⟩ ep,#[]⟩
noncomputable def fes?:List DictEntry→Option (List Fe)
 |[]=>some []
 |e::l=>yp e.key fun s t=>oS (fes? l) fun r=>some (⟨e.hash,s,t,e.val⟩::r)
def fr? (o:Obj):Option (List Fe×Nat):=oKL "frame" o fun dt=>oDl dt fun es ep=>oS (fes? es) fun l=>some (l,ep)
noncomputable def yw:List Fe→List Str→Bool
 |[],[]=>true
 |e::l,s::r=>ym e.s s && yw l r
 |_,_=>false
def QZ (o:Obj):Option (List Value×Nat):=oKL "list" o fun dt=>oSl dt fun l ep=>some (l,ep)
noncomputable def lsO (l:List Value) (ep:Nat):Obj:=⟨.type "list",none,.seq ⟨l⟩ ep,#[]⟩
theorem fes_eq:∀ {es:List DictEntry} {l:List Fe},fes? es=some l→es=l.map Fe.en
 |[],l,h=>by cases h;rfl
 |e::es,l,h=>yl (P:=fun l=>e::es=l.map Fe.en) (fun s t q=>iS fun r q2=>iE (by rw [fes_eq q2,VZ q rfl];rfl)) _ h
theorem fr_eq {o:Obj} {l:List Fe} {ep:Nat} (h:fr? o=some (l,ep)):o=frO l ep :=
 iKL (P:=fun p=>o=frO p.1 p.2) (fun dt e=>iDl fun es ep e1=>iS fun l q=>iE (by rw [e,e1,fes_eq q];rfl)) _ h
theorem yq {o:Obj} {l:List Value} {ep:Nat} (h:QZ o=some (l,ep)):o=lsO l ep :=
 iKL (P:=fun p=>o=lsO p.1 p.2) (fun dt e=>iSl fun l ep e1=>iE (by rw [e,e1];rfl)) _ h
theorem Vj:∀ {l:List Fe} {r:List Str},yw l r=true→l.map Fe.s=r
 |[],[],_=>rfl
 |e::l,s::r,h=>by
  simp only [yw,Bool.and_eq_true] at h
  simp only [List.map_cons,vw h.1,Vj h.2]
 |[],_::_,h=>by cases h
 |_::_,[],h=>by cases h
noncomputable def Vy:List Str→(Nat→Fe)→List Fe
 |[],_=>[]
 |s::l,x=>⟨(x 0).z,s,(x 0).t,(x 0).v⟩::Vy l (fun i=>x (i+1))
theorem Ql:∀ {fs:List Fe} {names:List Str},yw fs names=true→∃ x,fs=Vy names x
 |[],[],_=>⟨fun _=>⟨0,"",0,.none⟩,rfl⟩
 |e::l,s::r,h=>by
  simp only [yw,Bool.and_eq_true] at h
  obtain ⟨x,hx⟩:=Ql h.2
  refine ⟨fun i=>match i with | 0=>e | i+1=>x i,?_⟩
  have:=vw h.1
  subst this
  rw [hx]
  rfl
 |[],_::_,h=>by cases h
 |_::_,[],h=>by cases h
def extHSp (A:PySem.Addr) (B:PySem.Addr) (jA:Nat) (eA:Mine.En) (l:List PySem.Value) (eB:Mine.En) (r:List PySem.Value):vy:={idx:=[jA],us:=fun _=>{eqs:=[(A,eA.a),(B,eB.a)],musts:=[l.length+r.length≤1000],res:=fun _ => .ok (.ret .none),objs:=fun y=>[lsO (l++r) y.n3]}}
def extH:Hook:=yB 0 0
 (fun c m hint=>oCa (.builtin "list.extend") c fun args =>
  oL2 args fun x y =>
  oRf x fun A =>
  oRf y fun B =>
  oL2 hint fun jA jB =>
  oN m jA (QZ) fun eA l _ =>
  oN m jB (QZ) fun eB r _ =>
  some (extHSp A B jA eA l eB r))
def appHSp (y:PySem.Value) (A:PySem.Addr) (jA:Nat) (eA:Mine.En) (l:List PySem.Value):vy:={idx:=[jA],us:=fun _=>{eqs:=[(A,eA.a)],musts:=[l.length≤1000],res:=fun _ => .ok (.ret .none),objs:=fun z=>[lsO (l++[y]) z.n3]}}
def VW:Hook:=yB 0 0
 (fun c m hint=>oCa (.builtin "list.append") c fun args =>
  oL2 args fun x y =>
  oRf x fun A =>
  oL1 hint fun jA =>
  oN m jA (QZ) fun eA l _ =>
  some (appHSp y A jA eA l))
structure TRow where
 c:Value
 K:Str
 v:Value
 b:Value
 a:Value
 row:Addr
def t1N (r:TRow):Nat:=opN r.c+2+cnN r.v r.b r.a
def SpellT1 (ts:List Tk) (z:Nat) (r:TRow):Prop:=jy ts z r.c∧ja ts (z+opN r.c) "FOR"∧ja ts (z+opN r.c+1) r.K ∧
 ((r.K = "CHARACTERS"∧r.v = .none∧vp ts (z+opN r.c+2) r.b r.a)∨((r.K = "ALL"∨r.K = "LEADING")∧yf ts (z+opN r.c+2) r.v r.b r.a))
noncomputable def tsN:List TRow→Nat
 |[]=>0
 |r::rs=>t1N r+tsN rs
noncomputable def qy (ts:List Tk):Nat→List TRow→Prop
 |z,[]=>ts.length≤z∨ja ts z "REPLACING"
 |z,r::rs=>SpellT1 ts z r∧qy ts (z+t1N r) rs
noncomputable def ve {α:Type}:List α→List Value→List Value
 |[],_=>[]
 |_::rs,vs=>vs.headD .none::ve rs vs.tail
noncomputable def JV {α:Type} (f:α→Addr):List α→List Value→List (Value×Value)
 |[],_=>[]
 |r::rs,vs=>(vs.headD .none,.ref (f r))::JV f rs vs.tail
noncomputable def JE (y:Ora):List DictEntry:=match y.ob.data with
 |.dict es _=>es.toList
 |_=>[]
noncomputable def yc (l:List Value) (fs:List Fe):Bool:=match l with
 |[]=>Nat.beq fs.length 2
 |_::_=>match Nat.beq fs.length 2 with
  |true=>false
  |false=>true
noncomputable def isTrueT:Expr→Bool
 |.Constant ..=>true
 |_=>false
def lHook (lv:Nat) (spec:Code→List En→List Nat→Option vy):Hook where
 ar:=2
 br:=0
 nd:=Nat.mul 20 lv
 nu:=Nat.mul 200 lv
 go:=fun c m _ _ hint _ o=>match spec c m hint with
  |some s=>match yb m s.idx with
   |true=>match o with
    |[x,y]=>(s.us 0).go s.idx m x y
    |_ => .short
   |false => .stop 61
  |none => .stop 60
def loopHSp (loop:PySem.Addr→PySem.Code) (α:Type) (len:List α→Nat) (spell:List Mine.Tk→Nat→List α→Prop) (row:α→PySem.Addr) (rs:List α) (T:PySem.Addr) (ts:List Mine.Tk) (c:PySem.Code) (env:PySem.Env) (jF:Nat) (jL:Nat) (jD:Nat) (eF:Mine.En) (e0:Mine.Fe) (e1:Mine.Fe) (R:PySem.Addr) (L:PySem.Addr) (eL:Mine.En) (l:List PySem.Value) (eR:Mine.En) (D:Nat) (eD:Mine.En) (T':Nat) (z:Nat):vy:={idx:=[jD,jF,jL],us:=fun _=>{eqs:=[(env.locals,eF.a),(R,eR.a),(D,eD.a),(L,eL.a),(T',T)],musts:=[c=loop env.locals,spell ts z rs,eL.a≠T,l.length+rs.length≤1000,l=[]→rs≠[]],res:=fun _ => .ok .next,objs:=fun y=>[jC eD.o (z+len rs) y.ob.slots.size,⟨.type "frame",none,.dict ⟨e0.en::e1.en::JE y⟩ y.n3,#[]⟩,lsO (l++ve rs y.vs) y.n2],dq:=fun y=>JV row rs y.vs}}
def loopH (loop:Addr→Code) {α:Type} (len:List α→Nat) (spell:List Tk→Nat→List α→Prop) (row:α→Addr) (shapes:List (List Str)) (isIt:Expr→Bool) (lv:Nat) (rs:List α) (T:Addr) (ts:List Tk):Hook:=lHook lv
 (fun c m hint=>oWh c fun _ _ _ env =>
  oL4 hint fun jF jL jR jD =>
  oN m jF (fr?) fun eF fs _ =>
  oT (shapes.any (yw fs)) <|
  oC2 fs fun e0 e1 _ =>
  oRf e0.v fun R =>
  oRf e1.v fun L =>
  oN m jL (QZ) fun eL l _ =>
  oM m jR (VD) fun eR D =>
  oN m jD (Qc) fun eD T' z =>
  oT (yc l fs) <|
  some (loopHSp loop α len spell row rs T ts c env jF jL jD eF e0 e1 R L eL l eR D eD T' z))
noncomputable def shT:List (List Str):=[["reader","rows"],["reader","rows","found","count"],["reader","rows","found","count","before","after"]]
noncomputable def shR:List (List Str):=[["reader","rows"],["reader","rows","kind","word"]]
def vC (rs:List TRow) (T:Addr) (ts:List Tk):Hook:=loopH vu tsN qy TRow.row shT (fun t=>!isTrueT t) 16 rs T ts
structure RRow where
 K:Str
 v:Value
 u:Value
 b:Value
 a:Value
 row:Addr
def r1N (r:RRow):Nat:=1+exN r.v r.u r.b r.a
def SpellR1 (ts:List Tk) (z:Nat) (r:RRow):Prop:=IsKd r.K∧ja ts z r.K∧vN ts (z+1) r.K r.v r.u r.b r.a
noncomputable def rsN:List RRow→Nat
 |[]=>0
 |r::rs=>r1N r+rsN rs
noncomputable def qQ (ts:List Tk):Nat→List RRow→Prop
 |z,[]=>ts.length≤z
 |z,r::rs=>SpellR1 ts z r∧qQ ts (z+r1N r) rs
def yn (rs:List RRow) (T:Addr) (ts:List Tk):Hook:=loopH vK rsN qQ RRow.row shR isTrueT 16 rs T ts
def YT (ts:List Tk) (z:Nat):Prop:=ts.length≤z∨∃ K,IsKd K∧ja ts z K
def Yy (T:Addr) (ts:List Tk):Hook:=vU 524 7 T (fun rest z hint=>oL0 rest <| oL0 hint <| some {musts:=[YT ts z],res:=fun _ => .ok (.ret (.bool false))})
theorem ext_eq (l r:List Value) (ep:Nat):Obj.mapSeq (fun x=>x++(⟨r⟩:Array Value)) (lsO l ep)=lsO (l++r) (if ((⟨l⟩:Array Value)++(⟨r⟩:Array Value)).size == (⟨l⟩:Array Value).size then ep else ep+1):=by
 have e:(⟨l⟩:Array Value)++(⟨r⟩:Array Value)=⟨l++r⟩:=List.append_toArray l r
 simp only [lsO,Obj.mapSeq,e]
section
variable {w:World} {lc:Nat} {hs:List Mine.Hook} {h₀:Heap} {ws:List Addr}
theorem JJ:extH.Ok (cfg w lc hs) PW w h₀ ws:=by
 refine vn fun c m hint=>?_
 refine iCa fun _ b1=>iL2 fun _ _ b2=>iRf fun A' b3=>iRf fun B' b4=>iL2 fun jA jB b5=>iN fun eA l ep qA qlA=>iN fun eB r ep2 qB qlB=>?_
 subst b1 b2 b3 b4 b5
 refine iE ?_
 intro h hm hi hst hk hdq hoff hold A g d tk os R _ k
 have z0:=hm 0 (Nat.le_refl _)
 have h1:A'=eA.a:=z0.1 (A',eA.a) (.head _)
 have h2:B'=eB.a:=yM z0.1 1
 have h3:l.length+r.length≤1000:=z0.2 _ (.head _)
 clear z0 hm hi
 subst h1 h2
 have gA:=hk eA (List.mem_of_getElem? qA)
 have gB:=hk eB (List.mem_of_getElem? qB)
 rw [yq qlA] at gA
 rw [yq qlB] at gB
 have sz:sizeLine ≥ 1000:=by decide
 refine vb F.slot_list_extend (T := "list") ⟨_,gA,rfl⟩ F.entry_list_extend (F.args_list_extend_2 _ _) (PySem.AutoSeq1.list_extend_list_list_0 eA.a ⟨l⟩ ep eB.a ⟨r⟩ ep2 ?_ ?_ ?_) ⟨gA,gB,?_⟩
 ·rw [Bool.not_eq_true,Bool.and_eq_false_iff]
  exact .inr (decide_eq_false (by show ¬ l.length+r.length > sizeLine;omega))
 ·show l.length≤sizeLine;omega
 ·show l.length+r.length≤sizeLine+1;omega
 ·have g':=Heap.get?_update_self (fun o=>Obj.mapSeq (fun x=>x++⟨r⟩) o) gA rfl
  refine k _ (h.update eA.a (Obj.mapSeq fun x=>x++⟨r⟩)) tk ⟨trivial,fun b o e nb=>?_⟩ ?_
  ·rw [Heap.get?_update_ne _ _ _ _ fun q=>nb (by simp [extHSp,vF,qA,q])]
   exact e
  ·exact ⟨0,{(default:Ora) with n3:=if ((⟨l⟩:Array Value)++(⟨r⟩:Array Value)).size == (⟨l⟩:Array Value).size then ep else ep+1},Nat.le_refl _,rfl,trivial,⟨⟨eA,qA,g'.trans (congrArg some (ext_eq l r ep)),by rw [yq qlA];rfl⟩,trivial⟩,fun _ hp=>(nomatch hp),fun _ hp=>(nomatch hp)⟩
end
theorem app_eq (l:List Value) (x:Value) (ep:Nat):Obj.mapSeq (fun y=>y.push x) (lsO l ep)=lsO (l++[x]) (ep+1):=by
 simp [lsO,Obj.mapSeq]
section
variable {w:World} {lc:Nat} {hs:List Mine.Hook} {h₀:Heap} {ws:List Addr}
theorem yr:VW.Ok (cfg w lc hs) PW w h₀ ws:=by
 refine vn fun c m hint=>?_
 refine iCa fun _ b1=>iL2 fun x y b2=>iRf fun A' b3=>iL1 fun jA b4=>iN fun eA l ep qA qlA=>?_
 subst b1 b2 b3 b4
 refine iE ?_
 intro h hm hi hst hk hdq hoff hold A g d tk os R _ k
 have z0:=hm 0 (Nat.le_refl _)
 have h1:A'=eA.a:=z0.1 (A',eA.a) (.head _)
 have h3:l.length≤1000:=z0.2 _ (.head _)
 clear z0 hm hi
 subst h1
 have gA:=hk eA (List.mem_of_getElem? qA)
 rw [yq qlA] at gA
 have sz:sizeLine ≥ 1000:=by decide
 refine vb F.slot_list_append (T := "list") ⟨_,gA,rfl⟩ F.entry_list_append (F.args_list_append_2 _ _) (PySem.AutoListH.list_append_list_val_0 eA.a ⟨l⟩ ep y ?_) ⟨gA,?_⟩
 ·show l.length≤sizeLine;omega
 ·have g':=Heap.get?_update_self (fun o=>Obj.mapSeq (fun x=>x.push y) o) gA rfl
  refine k _ (h.update eA.a (Obj.mapSeq fun x=>x.push y)) tk ⟨trivial,fun b o e nb=>?_⟩ ?_
  ·rw [Heap.get?_update_ne _ _ _ _ fun q=>nb (by simp [appHSp,vF,qA,q])]
   exact e
  ·exact ⟨0,{(default:Ora) with n3:=ep+1},Nat.le_refl _,rfl,trivial,⟨⟨eA,qA,g'.trans (congrArg some (app_eq l y ep)),by rw [yq qlA];rfl⟩,trivial⟩,fun _ hp=>(nomatch hp),fun _ hp=>(nomatch hp)⟩
end
structure RoomL (A:Around) (lv:Nat):Prop where
 depth:A.depth+20 * lv < recursionLimit
 units:A.units+200 * lv < cLine
 handled:A.handled=none
noncomputable def jV (w:World) (lv:Nat) (c:Code) (h:Heap) (ws:List Addr) (Post:Result→Heap→Prop):Prop :=
 ∀ (A:Around) (g:Array GenState) (d:Drawn) (tk:Nat) (os:OsState) (R:Result→Shared→Prop),RoomL A lv →
  (∀ r h' tk',Old ws h h'→Post r h'→R r ⟨h',g,d,tk',os⟩)→codeAny (model PW w) A c R ⟨h,g,d,tk,os⟩
theorem jV.mono {w lv c h ws} {P P':Result→Heap→Prop} (x:jV w lv c h ws P) (hp:∀ r h',Old ws h h'→P r h'→P' r h'):jV w lv c h ws P' :=
 fun A g d tk os R hr k=>x A g d tk os R hr fun r h' tk' o p=>k r h' tk' o (hp r h' o p)
theorem jV.on {w lv c h ws ws'} {P P':Result→Heap→Prop} (e:ws'=ws) (x:jV w lv c h ws P) (hp:∀ r h',Old ws h h'→P r h'→P' r h'):jV w lv c h ws' P':=e ▸ x.mono hp
theorem fitL {w:World} {lv:Nat} {hooks:List Hook} {A:Around} {h₀:Heap} {ws:List Addr} (r:RoomL A lv) (hk:∀ H∈hooks,H.Ok (cfg w lv hooks) PW w h₀ ws):Fit PW w (cfg w lv hooks) A h₀ ws :=
 ⟨rfl,fun fr c _=>(DF_sub c).f _,fun _ q=>(nomatch q),fun fd body a args=>(JL fd body a args).symm,hk,r.depth,r.units,r.handled,limP w⟩
theorem vP {w:World} {lv:Nat} {hooks:List Hook} {h:Heap} {ws:List Addr} (hk:∀ H∈hooks,H.Ok (cfg w lv hooks) PW w h ws) {c:Code} (hu:c.cUnits≤200 * lv) {m:List En} {Post:Result→Heap→Prop} {fuel:Nat} {tr:Tr}
  (S:jl w ws m h)
  (H:∀ n tk o b,h.objs.size=n+845→qU (fun r m' n' _=>∀ h',Rp (cfg w lv hooks) h ws m' n' h'→Post r h') (run (cfg w lv hooks) fuel c .base (DF c) m (n+845) tk 0 tr o b)):jV w lv c h ws Post:=by
 intro A g d tk os R hr k
 obtain ⟨n,hn⟩:=S.st.size
 refine code_ok (C:=cfg w lv hooks) (fitL hr hk) (fuel:=fuel) (tr:=tr) (by have:=hr.units;omega) (fun _ q=>(nomatch q)) S.rp fun o b=>?_
 have go:∀ X:Out,qU (fun r m' n' _=>∀ h',Rp (cfg w lv hooks) h ws m' n' h'→Post r h') X→qU (QM (cfg w lv hooks) h ws R g d os) X:=by
  intro X
  induction X with
  |stop=>exact id
  |short=>exact id
  |log _ r ih=>exact ih
  |eqA a b r ih=>exact fun x=>⟨x.1,ih x.2⟩
  |must P r ih=>exact fun x=>⟨x.1,ih x.2⟩
  |may P r ih=>exact fun x p=>ih (x p)
  |fin r m n tk=>exact fun x h' D=>k r h' tk D.old (x h' D)
 rw [hn]
 exact go _ (H n tk o b hn)
theorem jU {w:World} {b1 b2 b3:Bool} {lv:Nat} {hooks:List Hook} {h:Heap} {ws:List Addr} (hk:∀ H∈hooks,H.Ok (cfg (jb w b1 b2 b3) lv hooks) PW (jb w b1 b2 b3) h ws) {c:Code} (hu:c.cUnits≤200 * lv) {m:List En} {Post:Result→Heap→Prop} {fuel:Nat} {tr:Bool→Tr}
  (S:jl (jb w b1 b2 b3) ws m h)
  (H:∀ n tk o b,h.objs.size=n+845→∀ d,qU (fun r m' n' _=>∀ h',Rp (cfg (jb w b1 b2 b3) lv hooks) h ws m' n' h'→Post r h') (run (cfg (jb w d b2 b3) lv hooks) fuel c .base (DF c) m (n+845) tk 0 (tr d) o b)):jV (jb w b1 b2 b3) lv c h ws Post :=
 vP hk hu S fun n tk o b q=>H n tk o b q b1
section
variable {w:World} {lc:Nat} {hs:List Hook} {h₀:Heap} {ws:List Addr}
def LG (w:World) (h₀:Heap) (ws:List Addr) (lv:Nat) (c:Code) (m:List En) (sp:vy):Prop:=∀ h,(∀ p∈(sp.us 0).eqs,p.1=p.2)→(∀ P∈(sp.us 0).musts,P)→yb m sp.idx=true→St w h→(∀ e∈m,h.get? e.a=some e.o)→(∀ e∈m,∀ p∈e.dq,Dq h p.1 p.2)→(∀ e∈m,e.w=true→(ktP w).get e.a=none)→(∀ (i j:Nat) (x y:En),m[i]?=some x→m[j]?=some y→x.w=true→i≠j→x.a≠y.a)→Old ws h₀ h →
   jV w lv c h (vF m sp.idx) (FPost h m sp)
theorem YE {lv:Nat} {spec} (H:∀ c m hint,Inv (spec c m hint) (LG w h₀ ws lv c m)):(lHook lv spec).Ok (cfg w lc hs) PW w h₀ ws:=by
 intro A m n c hint h g d tk os R h1 h2 h3 D G
 have no:∀ {k:Nat},qU (QM (cfg w lc hs) h₀ ws R g d os) (.stop k)→False:=fun h=>h
 cases qs:spec c m hint with
 |none =>
  have G0:=G 0 [default,default] (fun _=>rfl) rfl
  simp only [lHook,qs] at G0
  exact (no G0).elim
 |some sp =>
  have G1:∀ x y,yb m sp.idx=true∧qU (QM (cfg w lc hs) h₀ ws R g d os) ((sp.us 0).go sp.idx m x y):=fun x y=>by
   have z:=G 0 [x,y] (fun _=>rfl) rfl
   simp only [lHook,qs] at z
   cases qk:yb m sp.idx with
   |false=>rw [qk] at z;exact (no z).elim
   |true=>rw [qk] at z;exact ⟨rfl,z⟩
  have hi:yb m sp.idx=true:=(G1 default default).1
  have z:=Qf (G1 default default).2
  refine H c m hint sp qs h z.1 (Qe z.2).1 hi D.stat D.known D.facts D.off D.apart D.old A g d tk os R ⟨h1,h2,h3⟩ fun r h' tk' o p=>?_
  obtain ⟨y,rfl,hm,hu,hn,hd⟩:=p
  have k2:=(G1 {n:=h'.objs.size,n2:=tk'} y).2
  have z:=(Qe (Qf k2).2).2 hm
  refine z h' ?_
  have D':=D.setAll hi o hu
  refine (Rp.fresh (h:=h) (y:=y) D' (fun x hx=>?_) hn).addDq hd
  obtain ⟨i,hx'⟩:=List.getElem?_of_mem hx
  obtain ⟨e,he,e1,_⟩:=Qy hi hu i x hx'
  rw [e1,D.known e (List.mem_of_getElem? he)]
  exact fun q=>nomatch q
end
def tr_tlA0 (b1 b2 b3:Bool):Tr:=T [3,5,1,5,0,5,1,5,1,5,1,5,1,0,4,0,3,2,1,2,1,1,1,0,1,1,1,0,1,1,1,2,1,1,1,0,1,1,1,2,1,1,1,0,1,1,1,2] (T [1,1,1,9,9,9,9,9,7,0,0,0,7,0,0,0,7,0,0,0,0,7,8,0,1,2,6,7,0,9,7,0,0,0,7,0,0,0,7,0,0,0,0,7,8,0,2,3] (T [6,7,0,9,7,0,0,0,7,0,0,0,7,0,0,0,0,7,8,0,2,3,6,7,1,9,5,5,5,5,0,9,9,0,5,4,6,7,5,0,6,2,5,0,0,10,8,0] (T [0,0,8,0,0,0,8,0,0,0,0,8,9,0,2,3,7,8,0,10,8,0,0,0,8,0,0,0,8,0,0,0,0,8,9,0,2,3,7,8,0,10,8,0,0,0,8,0] (T [0,0,8,0,0,0,0,8,9,0,2,3,7,8,0,10,7,1,7,0,7,1,7,1,11,12,12,12,12,11,6,2,11,6,7,4,10,11,8,9] .nil))))
def tr_tlC0 (b1 b2 b3:Bool):Tr:=T [3,5,1,5,0,5,1,5,1,5,1,5,1,0,4,0,3,2,1,2,1,1,1,0,1,1,1,0,1,1,1,2,1,1,1,0,1,1,1,2,1,1,1,0,1,1,1,2] (T [1,1,1,9,9,9,9,9,7,0,0,0,7,0,0,0,7,0,0,0,0,7,8,0,1,2,6,7,0,9,7,0,0,0,7,0,0,0,7,0,0,0,0,7,8,0,2,3] (T [6,7,1,0,9,0,5,2,6,7,1,1,1,0,1,1,1,0,1,1,1,2,1,1,1,0,1,1,1,2,1,1,1,0,1,1,1,2,1,1,1,13,13,13,13,13,9,9] (T [9,9,13,13,13,0,10,10,10,10,0,14,12,0,0,0,12,0,0,0,12,0,0,0,0,12,13,0,2,3,11,12,0,14,12,0,0,0,12,0,0,0,12,0,0,0,0,12] (T [13,0,2,3,11,12,0,14,12,0,0,0,12,0,0,0,12,0,0,0,0,12,13,0,2,3,11,12,0,14,11,1,11,0,11,1,11,1,15,16,16,16,16,15,6,2,15,10] (T [7,4,14,15,12,13] .nil)))))
def tr_tlL0 (b1 b2 b3:Bool):Tr:=T [3,5,1,5,0,5,1,5,1,5,1,5,1,0,4,0,3,2,1,2,1,1,1,0,1,1,1,0,1,1,1,2,1,1,1,0,1,1,1,2,1,1,1,0,1,1,1,2] (T [1,1,1,9,9,9,9,9,7,0,0,0,7,0,0,0,7,0,0,0,0,7,8,0,1,2,6,7,0,9,7,0,0,0,7,0,0,0,7,0,0,0,0,7,8,0,2,3] (T [6,7,0,9,7,0,0,0,7,0,0,0,7,0,0,0,0,7,8,0,2,3,6,7,0,9,7,0,0,0,7,0,0,0,7,0,0,0,0,7,8,0,2,3,6,7,1,9] (T [5,5,5,5,0,9,9,0,5,4,6,7,5,0,6,2,5,0,0,10,8,0,0,0,8,0,0,0,8,0,0,0,0,8,9,0,2,3,7,8,0,10,8,0,0,0,8,0] (T [0,0,8,0,0,0,0,8,9,0,2,3,7,8,0,10,8,0,0,0,8,0,0,0,8,0,0,0,0,8,9,0,2,3,7,8,0,10,7,1,7,0,7,1,7,1,11,12] (T [12,12,12,11,6,2,11,6,7,4,10,11,8,9] .nil)))))
def tr_tlA1 (b1 b2 b3:Bool):Tr:=T [3,5,1,5,0,5,1,5,1,0,4,0,4,3,1,2,1,0,4,0,3,2,1,2,1,1,1,0,1,1,1,0,1,1,1,2,1,1,1,0,1,1,1,2,1,1,1,0] (T [1,1,1,2,1,1,1,9,9,9,9,9,7,0,0,0,7,0,0,0,7,0,0,0,0,7,8,0,1,2,6,7,0,9,7,0,0,0,7,0,0,0,7,0,0,0,0,7] (T [8,0,2,3,6,7,0,9,7,0,0,0,7,0,0,0,7,0,0,0,0,7,8,0,2,3,6,7,1,9,5,5,5,5,0,9,9,0,5,4,6,7,5,0,6,2,5,0] (T [0,10,8,0,0,0,8,0,0,0,8,0,0,0,0,8,9,0,2,3,7,8,0,10,8,0,0,0,8,0,0,0,8,0,0,0,0,8,9,0,2,3,7,8,0,10,8,0] (T [0,0,8,0,0,0,8,0,0,0,0,8,9,0,2,3,7,8,0,10,7,1,7,0,7,1,7,1,11,12,12,12,12,11,6,2,11,6,7,4,10,11,8,9] .nil))))
def tr_tlC1 (b1 b2 b3:Bool):Tr:=T [3,5,1,5,0,5,1,5,1,0,4,0,4,3,1,2,1,0,4,0,3,2,1,2,1,1,1,0,1,1,1,0,1,1,1,2,1,1,1,0,1,1,1,2,1,1,1,0] (T [1,1,1,2,1,1,1,9,9,9,9,9,7,0,0,0,7,0,0,0,7,0,0,0,0,7,8,0,1,2,6,7,0,9,7,0,0,0,7,0,0,0,7,0,0,0,0,7] (T [8,0,2,3,6,7,1,0,9,0,5,2,6,7,1,1,1,0,1,1,1,0,1,1,1,2,1,1,1,0,1,1,1,2,1,1,1,0,1,1,1,2,1,1,1,13,13,13] (T [13,13,9,9,9,9,13,13,13,0,10,10,10,10,0,14,12,0,0,0,12,0,0,0,12,0,0,0,0,12,13,0,2,3,11,12,0,14,12,0,0,0,12,0,0,0,12,0] (T [0,0,0,12,13,0,2,3,11,12,0,14,12,0,0,0,12,0,0,0,12,0,0,0,0,12,13,0,2,3,11,12,0,14,11,1,11,0,11,1,11,1,15,16,16,16,16,15] (T [6,2,15,10,7,4,14,15,12,13] .nil)))))
def tr_tlL1 (b1 b2 b3:Bool):Tr:=T [3,5,1,5,0,5,1,5,1,0,4,0,4,3,1,2,1,0,4,0,3,2,1,2,1,1,1,0,1,1,1,0,1,1,1,2,1,1,1,0,1,1,1,2,1,1,1,0] (T [1,1,1,2,1,1,1,9,9,9,9,9,7,0,0,0,7,0,0,0,7,0,0,0,0,7,8,0,1,2,6,7,0,9,7,0,0,0,7,0,0,0,7,0,0,0,0,7] (T [8,0,2,3,6,7,0,9,7,0,0,0,7,0,0,0,7,0,0,0,0,7,8,0,2,3,6,7,0,9,7,0,0,0,7,0,0,0,7,0,0,0,0,7,8,0,2,3] (T [6,7,1,9,5,5,5,5,0,9,9,0,5,4,6,7,5,0,6,2,5,0,0,10,8,0,0,0,8,0,0,0,8,0,0,0,0,8,9,0,2,3,7,8,0,10,8,0] (T [0,0,8,0,0,0,8,0,0,0,0,8,9,0,2,3,7,8,0,10,8,0,0,0,8,0,0,0,8,0,0,0,0,8,9,0,2,3,7,8,0,10,7,1,7,0,7,1] (T [7,1,11,12,12,12,12,11,6,2,11,6,7,4,10,11,8,9] .nil)))))
def tr_tlX1 (b1 b2 b3:Bool):Tr:=T [3,5,1,5,0,5,1,5,1,0,4,0,1,3,1,2,0] .nil
def tr_tlA2 (b1 b2 b3:Bool):Tr:=T [3,5,1,5,0,5,1,5,1,0,4,0,4,3,1,2,1,0,4,0,3,2,1,2,1,1,1,0,1,1,1,0,1,1,1,2,1,1,1,0,1,1,1,2,1,1,1,0] (T [1,1,1,2,1,1,1,9,9,9,9,9,7,0,0,0,7,0,0,0,7,0,0,0,0,7,8,0,1,2,6,7,0,9,7,0,0,0,7,0,0,0,7,0,0,0,0,7] (T [8,0,2,3,6,7,0,9,7,0,0,0,7,0,0,0,7,0,0,0,0,7,8,0,2,3,6,7,1,9,5,5,5,5,0,9,9,0,5,4,6,7,5,0,6,2,5,0] (T [0,10,8,0,0,0,8,0,0,0,8,0,0,0,0,8,9,0,2,3,7,8,0,10,8,0,0,0,8,0,0,0,8,0,0,0,0,8,9,0,2,3,7,8,0,10,8,0] (T [0,0,8,0,0,0,8,0,0,0,0,8,9,0,2,3,7,8,0,10,7,1,7,0,7,1,7,1,11,12,12,12,12,11,6,2,11,6,7,4,10,11,8,9] .nil))))
def tr_tlC2 (b1 b2 b3:Bool):Tr:=T [3,5,1,5,0,5,1,5,1,0,4,0,4,3,1,2,1,0,4,0,3,2,1,2,1,1,1,0,1,1,1,0,1,1,1,2,1,1,1,0,1,1,1,2,1,1,1,0] (T [1,1,1,2,1,1,1,9,9,9,9,9,7,0,0,0,7,0,0,0,7,0,0,0,0,7,8,0,1,2,6,7,0,9,7,0,0,0,7,0,0,0,7,0,0,0,0,7] (T [8,0,2,3,6,7,1,0,9,0,5,2,6,7,1,1,1,0,1,1,1,0,1,1,1,2,1,1,1,0,1,1,1,2,1,1,1,0,1,1,1,2,1,1,1,13,13,13] (T [13,13,9,9,9,9,13,13,13,0,10,10,10,10,0,14,12,0,0,0,12,0,0,0,12,0,0,0,0,12,13,0,2,3,11,12,0,14,12,0,0,0,12,0,0,0,12,0] (T [0,0,0,12,13,0,2,3,11,12,0,14,12,0,0,0,12,0,0,0,12,0,0,0,0,12,13,0,2,3,11,12,0,14,11,1,11,0,11,1,11,1,15,16,16,16,16,15] (T [6,2,15,10,7,4,14,15,12,13] .nil)))))
def tr_tlL2 (b1 b2 b3:Bool):Tr:=T [3,5,1,5,0,5,1,5,1,0,4,0,4,3,1,2,1,0,4,0,3,2,1,2,1,1,1,0,1,1,1,0,1,1,1,2,1,1,1,0,1,1,1,2,1,1,1,0] (T [1,1,1,2,1,1,1,9,9,9,9,9,7,0,0,0,7,0,0,0,7,0,0,0,0,7,8,0,1,2,6,7,0,9,7,0,0,0,7,0,0,0,7,0,0,0,0,7] (T [8,0,2,3,6,7,0,9,7,0,0,0,7,0,0,0,7,0,0,0,0,7,8,0,2,3,6,7,0,9,7,0,0,0,7,0,0,0,7,0,0,0,0,7,8,0,2,3] (T [6,7,1,9,5,5,5,5,0,9,9,0,5,4,6,7,5,0,6,2,5,0,0,10,8,0,0,0,8,0,0,0,8,0,0,0,0,8,9,0,2,3,7,8,0,10,8,0] (T [0,0,8,0,0,0,8,0,0,0,0,8,9,0,2,3,7,8,0,10,8,0,0,0,8,0,0,0,8,0,0,0,0,8,9,0,2,3,7,8,0,10,7,1,7,0,7,1] (T [7,1,11,12,12,12,12,11,6,2,11,6,7,4,10,11,8,9] .nil)))))
def tr_tlX2 (b1 b2 b3:Bool):Tr:=T [3,5,1,5,0,5,1,5,1,0,4,0,1,3,1,2,0] .nil
def tr_rlC0 (b1 b2 b3:Bool):Tr:=T [3,3,1,1,0,1,1,0,1,0,1,1,1,2,1,1,5,5,5,0,5,3,0,0,0,3,0,0,0,3,0,0,0,0,3,4,5,0,1,3,2,3,1,5,5,5,0,1] (T [0,1,1,1,2,1,1,5,5,5,0,0,1,0,1,1,1,2,1,1,5,5,5,0,0,1,0,1,1,1,2,1,1,5,5,5,0,0,1,0,1,1,1,2,1,1,1,7] (T [0,7,8,8,8,8,0,7,7,0,2,2,4,5,4,1,7,0,7,0,5,4,6,7,4,5] .nil))
def tr_rlA0 (b1 b2 b3:Bool):Tr:=T [3,3,1,1,0,1,1,0,1,0,1,1,1,2,1,1,5,5,5,0,5,3,0,0,0,3,0,0,0,3,0,0,0,0,3,4,5,0,1,3,2,3,0,0,1,0,1,1] (T [1,2,1,1,5,5,5,0,5,3,0,0,0,3,0,0,0,3,0,0,0,0,3,4,5,0,1,3,2,3,1,5,5,5,0,1,0,1,1,1,2,1,1,5,5,5,0,0] (T [1,0,1,1,1,2,1,1,5,5,5,0,0,1,0,1,1,1,2,1,1,1,7,0,7,8,8,8,8,0,7,7,0,2,2,4,5,4,1,7,0,7,0,0,7,0,3,2] (T [4,5,5,4,6,7,4,5] .nil)))
def tr_rlL0 (b1 b2 b3:Bool):Tr:=T [3,3,1,1,0,1,1,0,1,0,1,1,1,2,1,1,5,5,5,0,5,3,0,0,0,3,0,0,0,3,0,0,0,0,3,4,5,0,1,3,2,3,0,0,1,0,1,1] (T [1,2,1,1,5,5,5,0,5,3,0,0,0,3,0,0,0,3,0,0,0,0,3,4,5,0,1,3,2,3,0,0,1,0,1,1,1,2,1,1,5,5,5,0,5,3,0,0] (T [0,3,0,0,0,3,0,0,0,0,3,4,5,0,1,3,2,3,1,5,5,5,0,1,0,1,1,1,2,1,1,5,5,5,0,0,1,0,1,1,1,2,1,1,1,7,0,7] (T [8,8,8,8,0,7,7,0,2,2,4,5,4,1,7,0,7,0,0,7,0,3,2,4,5,5,4,6,7,4,5] .nil)))
def tr_rlF0 (b1 b2 b3:Bool):Tr:=T [3,3,1,1,0,1,1,0,1,0,1,1,1,2,1,1,5,5,5,0,5,3,0,0,0,3,0,0,0,3,0,0,0,0,3,4,5,0,1,3,2,3,0,0,1,0,1,1] (T [1,2,1,1,5,5,5,0,5,3,0,0,0,3,0,0,0,3,0,0,0,0,3,4,5,0,1,3,2,3,0,0,1,0,1,1,1,2,1,1,5,5,5,0,5,3,0,0] (T [0,3,0,0,0,3,0,0,0,0,3,4,5,0,1,3,2,3,0,0,1,0,1,1,1,2,1,1,5,5,5,0,5,3,0,0,0,3,0,0,0,3,0,0,0,0,3,4] (T [5,0,1,3,2,3,1,5,5,5,0,1,0,1,1,1,2,1,1,1,7,0,7,8,8,8,8,0,7,7,0,2,2,4,5,4,1,7,0,7,0,0,7,0,3,2,4,5] (T [5,4,6,7,4,5] .nil))))
def tr_rlC1 (b1 b2 b3:Bool):Tr:=T [3,3,1,1,0,1,1,0,1,0,1,1,1,2,1,1,5,5,5,0,5,3,0,0,0,3,0,0,0,3,0,0,0,0,3,4,5,0,1,3,2,3,1,5,5,5,0,1] (T [0,1,1,1,2,1,1,5,5,5,0,0,1,0,1,1,1,2,1,1,5,5,5,0,0,1,0,1,1,1,2,1,1,5,5,5,0,0,1,0,1,1,1,2,1,1,1,7] (T [0,7,8,8,8,8,0,7,7,0,2,2,4,5,4,1,7,0,7,0,5,4,6,7,4,5] .nil))
def tr_rlA1 (b1 b2 b3:Bool):Tr:=T [3,3,1,1,0,1,1,0,1,0,1,1,1,2,1,1,5,5,5,0,5,3,0,0,0,3,0,0,0,3,0,0,0,0,3,4,5,0,1,3,2,3,0,0,1,0,1,1] (T [1,2,1,1,5,5,5,0,5,3,0,0,0,3,0,0,0,3,0,0,0,0,3,4,5,0,1,3,2,3,1,5,5,5,0,1,0,1,1,1,2,1,1,5,5,5,0,0] (T [1,0,1,1,1,2,1,1,5,5,5,0,0,1,0,1,1,1,2,1,1,1,7,0,7,8,8,8,8,0,7,7,0,2,2,4,5,4,1,7,0,7,0,0,7,0,3,2] (T [4,5,5,4,6,7,4,5] .nil)))
def tr_rlL1 (b1 b2 b3:Bool):Tr:=T [3,3,1,1,0,1,1,0,1,0,1,1,1,2,1,1,5,5,5,0,5,3,0,0,0,3,0,0,0,3,0,0,0,0,3,4,5,0,1,3,2,3,0,0,1,0,1,1] (T [1,2,1,1,5,5,5,0,5,3,0,0,0,3,0,0,0,3,0,0,0,0,3,4,5,0,1,3,2,3,0,0,1,0,1,1,1,2,1,1,5,5,5,0,5,3,0,0] (T [0,3,0,0,0,3,0,0,0,0,3,4,5,0,1,3,2,3,1,5,5,5,0,1,0,1,1,1,2,1,1,5,5,5,0,0,1,0,1,1,1,2,1,1,1,7,0,7] (T [8,8,8,8,0,7,7,0,2,2,4,5,4,1,7,0,7,0,0,7,0,3,2,4,5,5,4,6,7,4,5] .nil)))
def tr_rlF1 (b1 b2 b3:Bool):Tr:=T [3,3,1,1,0,1,1,0,1,0,1,1,1,2,1,1,5,5,5,0,5,3,0,0,0,3,0,0,0,3,0,0,0,0,3,4,5,0,1,3,2,3,0,0,1,0,1,1] (T [1,2,1,1,5,5,5,0,5,3,0,0,0,3,0,0,0,3,0,0,0,0,3,4,5,0,1,3,2,3,0,0,1,0,1,1,1,2,1,1,5,5,5,0,5,3,0,0] (T [0,3,0,0,0,3,0,0,0,0,3,4,5,0,1,3,2,3,0,0,1,0,1,1,1,2,1,1,5,5,5,0,5,3,0,0,0,3,0,0,0,3,0,0,0,0,3,4] (T [5,0,1,3,2,3,1,5,5,5,0,1,0,1,1,1,2,1,1,1,7,0,7,8,8,8,8,0,7,7,0,2,2,4,5,4,1,7,0,7,0,0,7,0,3,2,4,5] (T [5,4,6,7,4,5] .nil))))
def tr_rlX1 (b1 b2 b3:Bool):Tr:=T [3,3,1,1,0,1,1,0,1,0,1,1,1,2,1,1,5,5,5,0,5,3,0,0,0,3,0,0,0,3,0,0,0,0,3,4,5,0,1,3,2,3,0,0,1,0,1,1] (T [1,2,1,1,5,5,5,0,5,3,0,0,0,3,0,0,0,3,0,0,0,0,3,4,5,0,1,3,2,3,0,0,1,0,1,1,1,2,1,1,5,5,5,0,5,3,0,0] (T [0,3,0,0,0,3,0,0,0,0,3,4,5,0,1,3,2,3,0,0,1,0,1,1,1,2,1,1,5,5,5,0,5,3,0,0,0,3,0,0,0,3,0,0,0,0,3,4] (T [5,0,1,3,2,3,0,0,1,0,1,1,1,2,1,1,1,7,0] .nil)))
def enS (m:List En) (i:Nat):Option (Addr×Option Obj):=match m[Nat.sub m.length (Nat.succ i)]? with
 |some e=>some (e.a,strip e.o)
 |none=>none
noncomputable def fr2? (o:Obj):Option (DictEntry×DictEntry):=match o with
 |⟨c,d,dt,sl⟩=>match c with
  |.type t=>match decide (t = "frame") with
   |true=>match d with
    |none=>match dt with
     |.dict es _=>match sl with
      |⟨[]⟩=>match es with
       |⟨e0::e1::_⟩=>some (e0,e1)
       |_=>none
      |_=>none
     |_=>none
    |some _=>none
   |false=>none
  |_=>none
def frV (m:List En) (i:Nat):Option (Addr×DictEntry×DictEntry):=match m[Nat.sub m.length (Nat.succ i)]? with
 |some e=>match fr2? e.o with
  |some p=>some (e.a,p)
  |none=>none
 |none=>none
def lsV (m:List En) (i:Nat):Option (Addr×List Value):=match m[Nat.sub m.length (Nat.succ i)]? with
 |some e=>match QZ e.o with
  |some p=>some (e.a,p.1)
  |none=>none
 |none=>none
noncomputable def vq (r:Result):Bool:=match r with
 |.ok f=>match f with
  |.next=>true
  |_=>false
 |.error _=>false
noncomputable def dqA (m:List En) (i:Nat):List (Value×Value):=match m[i]? with
 |some e=>e.dq
 |none=>[]
def yR (m:List En) (i j:Nat):Nat:=match QY m i with
 |some l=>match l[j]? with
  |some v=>match v with
   |.str _ t=>t
   |_=>0
  |none=>0
 |none=>0
theorem Qg {r:Result} (h:vq r=true):r = .ok .next:=by
 unfold vq at h
 split at h
 ·split at h
  ·rfl
  ·cases h
 ·cases h
noncomputable def Yo (h:Heap):List Value→List Addr→Prop
 |[],[]=>True
 |v::vs,a::as=>Dq h v (.ref a)∧Yo h vs as
 |_,_=>False
theorem vm {α:Type} {f:α→Addr} {h:Heap}:∀ {rs:List α} {vs:List Value},(∀ p∈JV f rs vs,Dq h p.1 p.2)→Yo h (ve rs vs) (rs.map f)
 |[],_,_=>trivial
 |r::rs,vs,H=>⟨H _ (.head _),vm (rs:=rs) fun p hp=>H p (.tail _ hp)⟩
theorem rows_pad {α:Type} {f:α→Addr} {h:Heap}:∀ {rs:List α} {vs:List Value},Yo h vs (rs.map f)→ve rs vs=vs∧∀ p∈JV f rs vs,Dq h p.1 p.2
 |[],[],_=>⟨rfl,fun _ hp=>nomatch hp⟩
 |r::rs,v::vs,⟨q,H⟩=>⟨by simp only [ve,List.headD_cons,List.tail_cons,(rows_pad H).1],fun p hp=>by
   cases hp with
   |head=>exact q
   |tail _ hp=>exact (rows_pad H).2 p hp⟩
 |[],_::_,q=>q.elim
 |_::_,[],q=>q.elim
theorem qc {C:Cfg} {h₀ h':Heap} {ws:List Addr} {m:List En} {n i:Nat} {l:List (Value×Value)} (hR:Rp C h₀ ws m n h') (e:dqA m i=l):∀ p∈l,Dq h' p.1 p.2:=by
 intro p hp
 subst e
 unfold dqA at hp
 split at hp
 ·rename_i x hx
  exact hR.facts x (List.mem_of_getElem? hx) p hp
 ·cases hp
def vO (D:Addr) (o:Obj) (F L:Addr) (e0 e1:DictEntry) (z':Nat) (l:List Value) (rows:List Addr) (r:Result) (h':Heap):Prop :=
 r = .ok .next∧(∃ t,h'.get? D=some (jC o z' t))∧(∃ es ep,h'.get? F=some ⟨.type "frame",none,.dict ⟨e0::e1::es⟩ ep,#[]⟩)∧∃ vs ep,h'.get? L=some (lsO (l++vs) ep)∧Yo h' vs rows
theorem yj {C:Cfg} {h₀ h':Heap} {ws:List Addr} {m:List En} {n:Nat} {D F L:Addr} {o:Obj} {T z z':Nat} {e0 e1:DictEntry} {l vs:List Value} {rows:List Addr} {r:Result} (hR:Rp C h₀ ws m n h') (q:Qc o=some (T,z))
  (h1:vq r=true) (h2:enS m 2=some (D,some (jC o z' 0))) (h3:frV m 1=some (F,e0,e1)) (h4:lsV m 0=some (L,l++vs)) (h5:Yo h' vs rows):vO D o F L e0 e1 z' l rows r h':=by
 refine ⟨Qg h1,?_,?_,?_⟩
 ·unfold enS at h2
  split at h2
  ·rename_i x hx
   simp only [Option.some.injEq,Prod.mk.injEq] at h2
   obtain ⟨t,ht⟩:=strip_eq h2.2 q
   have:=hR.known x (List.mem_of_getElem? hx)
   rw [h2.1,ht] at this
   exact ⟨t,this⟩
  ·cases h2
 ·unfold frV at h3
  split at h3
  ·rename_i x hx
   split at h3
   ·rename_i p hp
    simp only [Option.some.injEq,Prod.mk.injEq] at h3
    have:=hR.known x (List.mem_of_getElem? hx)
    rw [h3.1] at this
    unfold fr2? at hp
    split at hp
    rename_i heq
    split at hp
    ·split at hp
     ·rename_i qd
      split at hp
      ·split at hp
       ·split at hp
        ·split at hp
         ·cases hp
          have qd:=of_decide_eq_true qd
          subst qd
          rw [heq] at this
          obtain ⟨_,rfl,rfl⟩:=h3
          exact ⟨_,_,this⟩
         ·cases hp
        ·cases hp
       ·cases hp
      ·cases hp
     ·cases hp
    ·cases hp
   ·cases h3
  ·cases h3
 ·unfold lsV at h4
  split at h4
  ·rename_i x hx
   split at h4
   ·rename_i p hp
    simp only [Option.some.injEq,Prod.mk.injEq] at h4
    have:=hR.known x (List.mem_of_getElem? hx)
    rw [h4.1,yq (l:=p.1) (ep:=p.2) hp,h4.2] at this
    exact ⟨_,_,this,h5⟩
   ·cases h4
  ·cases h4
structure LpG (w:World) (h:Heap) (T D F L:Addr) (fo lo:Obj):Prop where
 f:h.get? F=some fo
 l:h.get? L=some lo
 fc:fo.cls = .type "frame"
 lc:∃ xs ep,lo=lsO xs ep
 oD:(ktP w).get D=none
 oF:(ktP w).get F=none
 oL:(ktP w).get L=none
 ne:L≠T
section
variable {w:World} {h:Heap} {R D F L T:Addr} {o fo lo:Obj} {ts:List Tk} {z:Nat}
theorem lp_cls (A:jz w h R D o T ts z) (G:LpG w h T D F L fo lo):(rdI D).cls = .ref 768∧o.cls = .type "dict"∧fo.cls = .type "frame"∧lo.cls = .type "list":=by
 refine rdE A.o fun h1 h2 h3 h4 k1 k2 k3 k4 tz n s ep ee=>?_
 subst ee
 obtain ⟨xs,ep,rfl⟩:=G.lc
 exact ⟨rfl,rfl,G.fc,rfl⟩
theorem JQ {a b:Addr} {x y:Obj} (ha:h.get? a=some x) (hb:h.get? b=some y) (n:x.cls≠y.cls):a≠b:=fun e=>by
 subst e
 rw [ha] at hb
 cases hb
 exact n rfl
theorem LpG.shown (G:LpG w h T D F L fo lo) (A:jz w h R D o T ts z):jl w [D,F,L] [⟨R,rdI D,false,[]⟩,⟨D,o,true,[]⟩,⟨F,fo,true,[]⟩,⟨L,lo,true,[]⟩] h:=by
 obtain ⟨c1,c2,c3,c4⟩:=lp_cls A G
 have n1:R≠D:=JQ A.r A.d (by rw [c2];exact fun e=>nomatch e)
 have n2:R≠F:=JQ A.r G.f (by rw [c3];exact fun e=>nomatch e)
 have n3:R≠L:=JQ A.r G.l (by rw [c4];exact fun e=>nomatch e)
 have n4:D≠F:=JQ A.d G.f (by rw [c2,c3];decide)
 have n5:D≠L:=JQ A.d G.l (by rw [c2,c4];decide)
 have n6:F≠L:=JQ G.f G.l (by rw [c3,c4];decide)
 exact ((((jl.nil A.st).w G.l G.oL (.tail _ (.tail _ (.head _))) trivial).w G.f G.oF (.tail _ (.head _)) ⟨fun _=>n6,trivial⟩).w A.d G.oD (.head _) ⟨fun _=>n4,fun _=>n5,trivial⟩).r A.r ⟨fun _=>n1,fun _=>n2,fun _=>n3,trivial⟩
theorem LpG.ws (G:LpG w h T D F L fo lo) (A:jz w h R D o T ts z):yO T h [D,F,L]:=by
 intro a ha
 simp only [List.mem_cons,List.not_mem_nil,or_false] at ha
 rcases ha with rfl | rfl | rfl
 ·exact jf A.d A.o _ (.head _)
 ·refine ⟨_,G.f,.inl ⟨fun d xs ep sl e=>?_,fun d e=>?_,fun t y e=>?_⟩⟩ <;> have c:=G.fc <;> rw [e] at c
  ·exact absurd (Value.type.inj c) (by decide)
  ·cases c
  ·exact absurd (Value.type.inj c) (by decide)
 ·obtain ⟨xs,ep,e⟩:=G.lc
  exact ⟨_,G.l,.inr ⟨G.ne,_,xs,ep,_,e⟩⟩
theorem LpG.nt (G:LpG w h T D F L fo lo) (A:jz w h R D o T ts z):Jy h [D,F,L]:=by
 obtain ⟨c1,c2,c3,c4⟩:=lp_cls A G
 intro a ha ob g
 simp only [List.mem_cons,List.not_mem_nil,or_false] at ha
 rcases ha with rfl | rfl | rfl
 ·exact yV A.d A.o _ (.head _) _ g
 ·rw [G.f] at g;cases g;exact Kw c3 (by decide) (by decide)
 ·rw [G.l] at g;cases g;exact Kw c4 (by decide) (by decide)
end
theorem unT {F:Addr}:(vu F).cUnits≤200 * 16:=Nat.le_of_ble_eq_true (by kernel_rfl)
theorem unR {F:Addr}:(vK F).cUnits≤200 * 16:=Nat.le_of_ble_eq_true (by kernel_rfl)
theorem jM {l:List Value} {x:Value}:(W.R.concatR l x).length=l.length+1:=by
 rw [←W.R.concatR_eq,List.concat_eq_append,List.length_append];rfl
section
variable {w:World} {b1 b2 b3:Bool} {lv:Nat} {hs:List Mine.Hook} {h₀:Heap} {ws:List Addr} {h:Heap} {R D F L T:Addr} {o:Obj} {ts:List Tk} {z:Nat} {c v u b a x0 f1 f2 f3 f4:Value} {l0:List Value} {row:Addr} {rs:List TRow} {rr:List RRow} {q1 q2 q3 q4 q5 q6:Int} {u1 u2 u3 u4 u5 u6 fe le rt:Nat}
theorem Js (ht:yG h₀ T ts) (hw:yO T h₀ ws):(Yy T ts).Ok (cfg (jb w b1 b2 b3) lv hs) PW (jb w b1 b2 b3) h₀ ws:=by
 refine qJ (ts:=ts) (fun rest z hint=>iL0 fun b1=>iL0 fun b2=>iE fun h R D o hm A off _=>?_) ht hw
 subst b1
 refine jr.mono ?_ fun r h' _ q=>vx q
 have e:=hm _ (.head _)
 rcases e with e0 | ⟨K,rfl | rfl | rfl | rfl,e0⟩
 ·exact bt_n A e0
 ·exact bt_C A e0
 ·exact bt_L A e0 e0
 ·exact bt_D A e0
 ·exact bt_F A e0
theorem tlA0 (A:jz (jb w b1 b2 b3) h R D o T ts z) (G:LpG (jb w b1 b2 b3) h T D F L (⟨.type "frame",none,.dict ⟨[⟨q1,.str "reader" u1,.ref R⟩,⟨q2,.str "rows" u2,.ref L⟩]⟩ fe,#[]⟩:Obj) (lsO [] le)) (hb:BdV b) (ha:BdV a) (hr:qg h row [c,.str "ALL" rt,v,b,a]) (hl:([]:List Value).length+1+rs.length≤1000) (ih:∀ lc hs,(vC rs T ts).Ok (cfg (jb w b1 b2 b3) lc hs) PW (jb w b1 b2 b3) h [D,F,L]) (m0:jy ts z c) (m1:ja ts (z+opN c) "FOR") (m2:¬ja ts (z+opN c+1) "CHARACTERS") (m3:ja ts (z+opN c+1) "ALL") (m4:yf ts (z+opN c+2) v b a) (m5:JH ts (z+opN c+2+cnN v b a)) (m6:¬ja ts (z+opN c+2+cnN v b a) "CHARACTERS") (m7:¬ja ts (z+opN c+2+cnN v b a) "ALL") (m8:¬ja ts (z+opN c+2+cnN v b a) "LEADING") (m9:qy ts (z+opN c+2+cnN v b a) rs):jV (jb w b1 b2 b3) 16 (vu F) h [D,F,L] (vO D o F L ⟨q1,.str "reader" u1,.ref R⟩ ⟨q2,.str "rows" u2,.ref L⟩ (z+opN c+2+cnN v b a+tsN rs) ([]:List Value) (row::rs.map TRow.row)):=by
 refine rdE A.o fun h1 h2 h3 h4 k1 k2 k3 k4 tz n0 s0 ep' e0=>?_
 subst e0
 refine jU (hooks:=[va T ts,jo T ts,qY c T ts,jX c T ts,cntH "ALL" c v b a row T ts,extH,vC rs T ts]) (hkc (vY A.t (G.ws A)) (hkc (jQ A.t (G.ws A)) (hkc (vX A.t (G.ws A)) (hkc (vz A.t (G.ws A)) (hkc (VM hb ha hr (G.nt A) A.t (G.ws A)) (hkc JJ (hkc (ih _ _) hkn))))))) unT (fuel:=10000) (tr:=fun b1=>tr_tlA0 b1 b2 b3) (G.shown A) fun n tk os bs hn=>?_
 exact jj (fun r m=>(vq r,enS m 2,frV m 1,lsV m 0,dqA m 0,dqS m 1 0)) (fun r m=>(true,some (D,some (jC (rdO h1 h2 h3 h4 k1 k2 k3 k4 T z tz n0 s0 ep') (z+opN c+2+cnN v b a+tsN rs) 0)),some (F,⟨q1,.str "reader" u1,.ref R⟩,⟨q2,.str "rows" u2,.ref L⟩),some (L,(([]:List Value)++[(dqF m 1 0)])++ve rs (os 21).vs),JV TRow.row rs (os 21).vs++[],some (.ref row))) (ps:=[(true,jy ts z c),yt,(true,jh "FOR"),(true,ja ts (z+opN c) "FOR"),yt,(true,jh "CHARACTERS"),(true,¬ja ts (z+opN c+1) "CHARACTERS"),yt,(true,jh "ALL"),(true,ja ts (z+opN c+1) "ALL"),yt,(true,(os (0+1)).n=(os (0+1)).n),(true,c=c),(true,Str.ofString "ALL" = Str.ofString "ALL"),(true,yf ts (z+opN c+2) v b a),(true,JH ts (z+opN c+2+cnN v b a)),yt,(true,([]:List Value).length + [Value.ref (jg (jo T ts).ar (jg (jo T ts).ar (jg (va T ts).ar (jg (qY c T ts).ar os))) (0+1)).n2].length≤1000),yt,(true,jh "CHARACTERS"),(true,¬ja ts (z+opN c+2+cnN v b a) "CHARACTERS"),yt,(true,jh "ALL"),(true,¬ja ts (z+opN c+2+cnN v b a) "ALL"),yt,(true,jh "LEADING"),(true,¬ja ts (z+opN c+2+cnN v b a) "LEADING"),yt,(true,([]:List Value).length+([]++[Value.ref (jg (jo T ts).ar (jg (jo T ts).ar (jg (va T ts).ar (jg (qY c T ts).ar os))) (0+1)).n2]).length≤1000),yt,(true,(vu F)=(vu F)),(true,qy ts (z+opN c+2+cnN v b a) rs),(true,L≠T),(true,([]++([]++[Value.ref (jg (jo T ts).ar (jg (jo T ts).ar (jg (va T ts).ar (jg (qY c T ts).ar os))) (0+1)).n2])).length+rs.length≤1000),(true,[]++([]++[Value.ref (jg (jo T ts).ar (jg (jo T ts).ar (jg (va T ts).ar (jg (qY c T ts).ar os))) (0+1)).n2])=[]→rs≠[]),yt]) (by kernel_rfl) (by kernel_rfl) (fun _ c=>⟨m0,(sk <| ⟨(by first | with_reducible rfl | (unfold jh;decide +kernel) | rfl),⟨m1,(sk <| ⟨(by first | with_reducible rfl | (unfold jh;decide +kernel) | rfl),⟨m2,(sk <| ⟨(by first | with_reducible rfl | (unfold jh;decide +kernel) | rfl),⟨m3,(sk <| ⟨rfl,⟨rfl,⟨(by first | with_reducible rfl | (unfold jh;decide +kernel) | rfl),⟨m4,⟨m5,(sk <| ⟨(by first | decide | (have hl:=hl;simp only [jM,List.length_append,List.length_cons,List.length_nil] at hl ⊢;omega)),(sk <| ⟨(by first | with_reducible rfl | (unfold jh;decide +kernel) | rfl),⟨m6,(sk <| ⟨(by first | with_reducible rfl | (unfold jh;decide +kernel) | rfl),⟨m7,(sk <| ⟨(by first | with_reducible rfl | (unfold jh;decide +kernel) | rfl),⟨m8,(sk <| ⟨(by first | decide | (have hl:=hl;simp only [jM,List.length_append,List.length_cons,List.length_nil] at hl ⊢;omega)),(sk <| ⟨rfl,⟨m9,⟨G.ne,⟨(by first | decide | (have hl:=hl;simp only [jM,List.length_append,List.length_cons,List.length_nil] at hl ⊢;omega)),⟨(fun q=>absurd q (List.cons_ne_nil _ _)),(sk <| (c fun r m n tk e h' D'=>by
  refine pr6 e fun g1 g2 g3 g4 g5 g6=>?_
  exact yj (l:=([]:List Value)) (vs:=(dqF m 1 0)::ve rs (os 21).vs) D' A.o g1 g2 g3 (by rw [g4,List.append_assoc];rfl) ⟨vg D' g6,vm fun p hp=>qc D' g5 p (List.mem_append_left _ hp)⟩))⟩⟩⟩⟩⟩)⟩)⟩⟩)⟩⟩)⟩⟩)⟩)⟩⟩⟩⟩⟩)⟩⟩)⟩⟩)⟩⟩)⟩)
theorem tlC0 (A:jz (jb w b1 b2 b3) h R D o T ts z) (G:LpG (jb w b1 b2 b3) h T D F L (⟨.type "frame",none,.dict ⟨[⟨q1,.str "reader" u1,.ref R⟩,⟨q2,.str "rows" u2,.ref L⟩]⟩ fe,#[]⟩:Obj) (lsO [] le)) (hb:BdV b) (ha:BdV a) (hr:qg h row [c,.str "CHARACTERS" rt,.none,b,a]) (hl:([]:List Value).length+1+rs.length≤1000) (ih:∀ lc hs,(vC rs T ts).Ok (cfg (jb w b1 b2 b3) lc hs) PW (jb w b1 b2 b3) h [D,F,L]) (m0:jy ts z c) (m1:ja ts (z+opN c) "FOR") (m2:ja ts (z+opN c+1) "CHARACTERS") (m3:vp ts (z+opN c+2) b a) (m4:¬ja ts (z+opN c+2+jp b+jp a) "CHARACTERS") (m5:¬ja ts (z+opN c+2+jp b+jp a) "ALL") (m6:¬ja ts (z+opN c+2+jp b+jp a) "LEADING") (m7:qy ts (z+opN c+2+jp b+jp a) rs):jV (jb w b1 b2 b3) 16 (vu F) h [D,F,L] (vO D o F L ⟨q1,.str "reader" u1,.ref R⟩ ⟨q2,.str "rows" u2,.ref L⟩ (z+opN c+2+jp b+jp a+tsN rs) ([]:List Value) (row::rs.map TRow.row)):=by
 refine rdE A.o fun h1 h2 h3 h4 k1 k2 k3 k4 tz n0 s0 ep' e0=>?_
 subst e0
 refine jU (hooks:=[va T ts,jo T ts,qY c T ts,jX c T ts,bdVH b a T ts,extH,vC rs T ts]) (hkc (vY A.t (G.ws A)) (hkc (jQ A.t (G.ws A)) (hkc (vX A.t (G.ws A)) (hkc (vz A.t (G.ws A)) (hkc (JM hb ha A.t (G.ws A)) (hkc JJ (hkc (ih _ _) hkn))))))) unT (fuel:=10000) (tr:=fun b1=>tr_tlC0 b1 b2 b3) (G.shown A) fun n tk os bs hn=>?_
 exact jj (fun r m=>(vq r,enS m 2,frV m 1,lsV m 0,dqA m 0,QY m 1,dqS m 11 0,dqS m 5 0,dqS m 5 1)) (fun r m=>(true,some (D,some (jC (rdO h1 h2 h3 h4 k1 k2 k3 k4 T z tz n0 s0 ep') (z+opN c+2+jp b+jp a+tsN rs) 0)),some (F,⟨q1,.str "reader" u1,.ref R⟩,⟨q2,.str "rows" u2,.ref L⟩),some (L,(([]:List Value)++[(.ref (aAt m 1))])++ve rs (os 17).vs),JV TRow.row rs (os 17).vs++[],some [dqF m 11 0,.str "CHARACTERS" (yR m 1 1),.none,dqF m 5 0,dqF m 5 1],some c,some b,some a)) (ps:=[(true,jy ts z c),yt,(true,jh "FOR"),(true,ja ts (z+opN c) "FOR"),yt,(true,jh "CHARACTERS"),(true,ja ts (z+opN c+1) "CHARACTERS"),yt,(true,vp ts (z+opN c+2) b a),yt,(true,jh "CHARACTERS"),(true,¬ja ts (z+opN c+2+jp b+jp a) "CHARACTERS"),yt,(true,jh "ALL"),(true,¬ja ts (z+opN c+2+jp b+jp a) "ALL"),yt,(true,jh "LEADING"),(true,¬ja ts (z+opN c+2+jp b+jp a) "LEADING"),yt,(true,([]:List Value).length+(W.R.concatR #[].toList (Value.ref ((jg (jo T ts).ar (jg (va T ts).ar (jg (qY c T ts).ar os)) 0).n+3))).length≤1000),yt,(true,(vu F)=(vu F)),(true,qy ts (z+opN c+2+jp b+jp a) rs),(true,L≠T),(true,([]++W.R.concatR #[].toList (Value.ref ((jg (jo T ts).ar (jg (va T ts).ar (jg (qY c T ts).ar os)) 0).n+3))).length+rs.length≤1000),(true,[]++W.R.concatR #[].toList (Value.ref ((jg (jo T ts).ar (jg (va T ts).ar (jg (qY c T ts).ar os)) 0).n+3))=[]→rs≠[]),yt]) (by kernel_rfl) (by kernel_rfl) (fun _ c=>⟨m0,(sk <| ⟨(by first | with_reducible rfl | (unfold jh;decide +kernel) | rfl),⟨m1,(sk <| ⟨(by first | with_reducible rfl | (unfold jh;decide +kernel) | rfl),⟨m2,(sk <| ⟨m3,(sk <| ⟨(by first | with_reducible rfl | (unfold jh;decide +kernel) | rfl),⟨m4,(sk <| ⟨(by first | with_reducible rfl | (unfold jh;decide +kernel) | rfl),⟨m5,(sk <| ⟨(by first | with_reducible rfl | (unfold jh;decide +kernel) | rfl),⟨m6,(sk <| ⟨(by first | decide | (have hl:=hl;simp only [jM,List.length_append,List.length_cons,List.length_nil] at hl ⊢;omega)),(sk <| ⟨rfl,⟨m7,⟨G.ne,⟨(by first | decide | (have hl:=hl;simp only [jM,List.length_append,List.length_cons,List.length_nil] at hl ⊢;omega)),⟨(fun q=>absurd q (List.cons_ne_nil _ _)),(sk <| (c fun r m n tk e h' D'=>by
  refine pr9 e fun g1 g2 g3 g4 g5 g6 g7 g8 g9=>?_
  exact yj (l:=([]:List Value)) (vs:=(.ref (aAt m 1))::ve rs (os 17).vs) D' A.o g1 g2 g3 (by rw [g4,List.append_assoc];rfl) ⟨JD D' g6 (hr.at (Rp.old D') (G.nt A)) ⟨vg D' g7,.str _ _ _,.same _,vg D' g8,vg D' g9,trivial⟩,vm fun p hp=>qc D' g5 p (List.mem_append_left _ hp)⟩))⟩⟩⟩⟩⟩)⟩)⟩⟩)⟩⟩)⟩⟩)⟩)⟩⟩)⟩⟩)⟩)
theorem tlL0 (A:jz (jb w b1 b2 b3) h R D o T ts z) (G:LpG (jb w b1 b2 b3) h T D F L (⟨.type "frame",none,.dict ⟨[⟨q1,.str "reader" u1,.ref R⟩,⟨q2,.str "rows" u2,.ref L⟩]⟩ fe,#[]⟩:Obj) (lsO [] le)) (hb:BdV b) (ha:BdV a) (hr:qg h row [c,.str "LEADING" rt,v,b,a]) (hl:([]:List Value).length+1+rs.length≤1000) (ih:∀ lc hs,(vC rs T ts).Ok (cfg (jb w b1 b2 b3) lc hs) PW (jb w b1 b2 b3) h [D,F,L]) (m0:jy ts z c) (m1:ja ts (z+opN c) "FOR") (m2:¬ja ts (z+opN c+1) "CHARACTERS") (m3:¬ja ts (z+opN c+1) "ALL") (m4:ja ts (z+opN c+1) "LEADING") (m5:yf ts (z+opN c+2) v b a) (m6:JH ts (z+opN c+2+cnN v b a)) (m7:¬ja ts (z+opN c+2+cnN v b a) "CHARACTERS") (m8:¬ja ts (z+opN c+2+cnN v b a) "ALL") (m9:¬ja ts (z+opN c+2+cnN v b a) "LEADING") (m10:qy ts (z+opN c+2+cnN v b a) rs):jV (jb w b1 b2 b3) 16 (vu F) h [D,F,L] (vO D o F L ⟨q1,.str "reader" u1,.ref R⟩ ⟨q2,.str "rows" u2,.ref L⟩ (z+opN c+2+cnN v b a+tsN rs) ([]:List Value) (row::rs.map TRow.row)):=by
 refine rdE A.o fun h1 h2 h3 h4 k1 k2 k3 k4 tz n0 s0 ep' e0=>?_
 subst e0
 refine jU (hooks:=[va T ts,jo T ts,qY c T ts,jX c T ts,cntH "LEADING" c v b a row T ts,extH,vC rs T ts]) (hkc (vY A.t (G.ws A)) (hkc (jQ A.t (G.ws A)) (hkc (vX A.t (G.ws A)) (hkc (vz A.t (G.ws A)) (hkc (VM hb ha hr (G.nt A) A.t (G.ws A)) (hkc JJ (hkc (ih _ _) hkn))))))) unT (fuel:=10000) (tr:=fun b1=>tr_tlL0 b1 b2 b3) (G.shown A) fun n tk os bs hn=>?_
 exact jj (fun r m=>(vq r,enS m 2,frV m 1,lsV m 0,dqA m 0,dqS m 1 0)) (fun r m=>(true,some (D,some (jC (rdO h1 h2 h3 h4 k1 k2 k3 k4 T z tz n0 s0 ep') (z+opN c+2+cnN v b a+tsN rs) 0)),some (F,⟨q1,.str "reader" u1,.ref R⟩,⟨q2,.str "rows" u2,.ref L⟩),some (L,(([]:List Value)++[(dqF m 1 0)])++ve rs (os 23).vs),JV TRow.row rs (os 23).vs++[],some (.ref row))) (ps:=[(true,jy ts z c),yt,(true,jh "FOR"),(true,ja ts (z+opN c) "FOR"),yt,(true,jh "CHARACTERS"),(true,¬ja ts (z+opN c+1) "CHARACTERS"),yt,(true,jh "ALL"),(true,¬ja ts (z+opN c+1) "ALL"),yt,(true,jh "LEADING"),(true,ja ts (z+opN c+1) "LEADING"),yt,(true,(os (0+1)).n=(os (0+1)).n),(true,c=c),(true,Str.ofString "LEADING" = Str.ofString "LEADING"),(true,yf ts (z+opN c+2) v b a),(true,JH ts (z+opN c+2+cnN v b a)),yt,(true,([]:List Value).length + [Value.ref (jg (jo T ts).ar (jg (jo T ts).ar (jg (jo T ts).ar (jg (va T ts).ar (jg (qY c T ts).ar os)))) (0+1)).n2].length≤1000),yt,(true,jh "CHARACTERS"),(true,¬ja ts (z+opN c+2+cnN v b a) "CHARACTERS"),yt,(true,jh "ALL"),(true,¬ja ts (z+opN c+2+cnN v b a) "ALL"),yt,(true,jh "LEADING"),(true,¬ja ts (z+opN c+2+cnN v b a) "LEADING"),yt,(true,([]:List Value).length+([]++[Value.ref (jg (jo T ts).ar (jg (jo T ts).ar (jg (jo T ts).ar (jg (va T ts).ar (jg (qY c T ts).ar os)))) (0+1)).n2]).length≤1000),yt,(true,(vu F)=(vu F)),(true,qy ts (z+opN c+2+cnN v b a) rs),(true,L≠T),(true,([]++([]++[Value.ref (jg (jo T ts).ar (jg (jo T ts).ar (jg (jo T ts).ar (jg (va T ts).ar (jg (qY c T ts).ar os)))) (0+1)).n2])).length+rs.length≤1000),(true,[]++([]++[Value.ref (jg (jo T ts).ar (jg (jo T ts).ar (jg (jo T ts).ar (jg (va T ts).ar (jg (qY c T ts).ar os)))) (0+1)).n2])=[]→rs≠[]),yt]) (by kernel_rfl) (by kernel_rfl) (fun _ c=>⟨m0,(sk <| ⟨(by first | with_reducible rfl | (unfold jh;decide +kernel) | rfl),⟨m1,(sk <| ⟨(by first | with_reducible rfl | (unfold jh;decide +kernel) | rfl),⟨m2,(sk <| ⟨(by first | with_reducible rfl | (unfold jh;decide +kernel) | rfl),⟨m3,(sk <| ⟨(by first | with_reducible rfl | (unfold jh;decide +kernel) | rfl),⟨m4,(sk <| ⟨rfl,⟨rfl,⟨(by first | with_reducible rfl | (unfold jh;decide +kernel) | rfl),⟨m5,⟨m6,(sk <| ⟨(by first | decide | (have hl:=hl;simp only [jM,List.length_append,List.length_cons,List.length_nil] at hl ⊢;omega)),(sk <| ⟨(by first | with_reducible rfl | (unfold jh;decide +kernel) | rfl),⟨m7,(sk <| ⟨(by first | with_reducible rfl | (unfold jh;decide +kernel) | rfl),⟨m8,(sk <| ⟨(by first | with_reducible rfl | (unfold jh;decide +kernel) | rfl),⟨m9,(sk <| ⟨(by first | decide | (have hl:=hl;simp only [jM,List.length_append,List.length_cons,List.length_nil] at hl ⊢;omega)),(sk <| ⟨rfl,⟨m10,⟨G.ne,⟨(by first | decide | (have hl:=hl;simp only [jM,List.length_append,List.length_cons,List.length_nil] at hl ⊢;omega)),⟨(fun q=>absurd q (List.cons_ne_nil _ _)),(sk <| (c fun r m n tk e h' D'=>by
  refine pr6 e fun g1 g2 g3 g4 g5 g6=>?_
  exact yj (l:=([]:List Value)) (vs:=(dqF m 1 0)::ve rs (os 23).vs) D' A.o g1 g2 g3 (by rw [g4,List.append_assoc];rfl) ⟨vg D' g6,vm fun p hp=>qc D' g5 p (List.mem_append_left _ hp)⟩))⟩⟩⟩⟩⟩)⟩)⟩⟩)⟩⟩)⟩⟩)⟩)⟩⟩⟩⟩⟩)⟩⟩)⟩⟩)⟩⟩)⟩⟩)⟩)
theorem tlA1 (A:jz (jb w b1 b2 b3) h R D o T ts z) (G:LpG (jb w b1 b2 b3) h T D F L (⟨.type "frame",none,.dict ⟨[⟨q1,.str "reader" u1,.ref R⟩,⟨q2,.str "rows" u2,.ref L⟩,⟨q3,.str "found" u3,f1⟩,⟨q4,.str "count" u4,f2⟩]⟩ fe,#[]⟩:Obj) (lsO (x0::l0) le)) (hb:BdV b) (ha:BdV a) (hr:qg h row [c,.str "ALL" rt,v,b,a]) (hl:(x0::l0).length+1+rs.length≤1000) (ih:∀ lc hs,(vC rs T ts).Ok (cfg (jb w b1 b2 b3) lc hs) PW (jb w b1 b2 b3) h [D,F,L]) (m0:jy ts z c) (m1:ja ts (z+opN c) "FOR") (m2:¬ja ts (z+opN c+1) "CHARACTERS") (m3:ja ts (z+opN c+1) "ALL") (m4:yf ts (z+opN c+2) v b a) (m5:JH ts (z+opN c+2+cnN v b a)) (m6:¬ja ts (z+opN c+2+cnN v b a) "CHARACTERS") (m7:¬ja ts (z+opN c+2+cnN v b a) "ALL") (m8:¬ja ts (z+opN c+2+cnN v b a) "LEADING") (m9:qy ts (z+opN c+2+cnN v b a) rs):jV (jb w b1 b2 b3) 16 (vu F) h [D,F,L] (vO D o F L ⟨q1,.str "reader" u1,.ref R⟩ ⟨q2,.str "rows" u2,.ref L⟩ (z+opN c+2+cnN v b a+tsN rs) (x0::l0) (row::rs.map TRow.row)):=by
 refine rdE A.o fun h1 h2 h3 h4 k1 k2 k3 k4 tz n0 s0 ep' e0=>?_
 subst e0
 refine jU (hooks:=[va T ts,jo T ts,qY c T ts,jX c T ts,cntH "ALL" c v b a row T ts,extH,vC rs T ts]) (hkc (vY A.t (G.ws A)) (hkc (jQ A.t (G.ws A)) (hkc (vX A.t (G.ws A)) (hkc (vz A.t (G.ws A)) (hkc (VM hb ha hr (G.nt A) A.t (G.ws A)) (hkc JJ (hkc (ih _ _) hkn))))))) unT (fuel:=10000) (tr:=fun b1=>tr_tlA1 b1 b2 b3) (G.shown A) fun n tk os bs hn=>?_
 exact jj (fun r m=>(vq r,enS m 2,frV m 1,lsV m 0,dqA m 0,dqS m 1 0)) (fun r m=>(true,some (D,some (jC (rdO h1 h2 h3 h4 k1 k2 k3 k4 T z tz n0 s0 ep') (z+opN c+2+cnN v b a+tsN rs) 0)),some (F,⟨q1,.str "reader" u1,.ref R⟩,⟨q2,.str "rows" u2,.ref L⟩),some (L,((x0::l0)++[(dqF m 1 0)])++ve rs (os 23).vs),JV TRow.row rs (os 23).vs++[],some (.ref row))) (ps:=[(true,jy ts z c),(true,ja ts (z+opN c) "FOR"),yt,(true,jy ts z c),yt,(true,jh "FOR"),(true,ja ts (z+opN c) "FOR"),yt,(true,jh "CHARACTERS"),(true,¬ja ts (z+opN c+1) "CHARACTERS"),yt,(true,jh "ALL"),(true,ja ts (z+opN c+1) "ALL"),yt,(true,(jg (jX c T ts).ar os (0+1)).n=(jg (jX c T ts).ar os (0+1)).n),(true,c=c),(true,Str.ofString "ALL" = Str.ofString "ALL"),(true,yf ts (z+opN c+2) v b a),(true,JH ts (z+opN c+2+cnN v b a)),yt,(true,([]:List Value).length + [Value.ref (jg (jo T ts).ar (jg (jo T ts).ar (jg (va T ts).ar (jg (qY c T ts).ar (jg (jX c T ts).ar os)))) (0+1)).n2].length≤1000),yt,(true,jh "CHARACTERS"),(true,¬ja ts (z+opN c+2+cnN v b a) "CHARACTERS"),yt,(true,jh "ALL"),(true,¬ja ts (z+opN c+2+cnN v b a) "ALL"),yt,(true,jh "LEADING"),(true,¬ja ts (z+opN c+2+cnN v b a) "LEADING"),yt,(true,(x0::l0).length+([]++[Value.ref (jg (jo T ts).ar (jg (jo T ts).ar (jg (va T ts).ar (jg (qY c T ts).ar (jg (jX c T ts).ar os)))) (0+1)).n2]).length≤1000),yt,(true,(vu F)=(vu F)),(true,qy ts (z+opN c+2+cnN v b a) rs),(true,L≠T),(true,(x0::l0++([]++[Value.ref (jg (jo T ts).ar (jg (jo T ts).ar (jg (va T ts).ar (jg (qY c T ts).ar (jg (jX c T ts).ar os)))) (0+1)).n2])).length+rs.length≤1000),(true,x0::l0++([]++[Value.ref (jg (jo T ts).ar (jg (jo T ts).ar (jg (va T ts).ar (jg (qY c T ts).ar (jg (jX c T ts).ar os)))) (0+1)).n2])=[]→rs≠[]),yt]) (by kernel_rfl) (by kernel_rfl) (fun _ c=>⟨m0,⟨m1,(sk <| ⟨m0,(sk <| ⟨(by first | with_reducible rfl | (unfold jh;decide +kernel) | rfl),⟨m1,(sk <| ⟨(by first | with_reducible rfl | (unfold jh;decide +kernel) | rfl),⟨m2,(sk <| ⟨(by first | with_reducible rfl | (unfold jh;decide +kernel) | rfl),⟨m3,(sk <| ⟨rfl,⟨rfl,⟨(by first | with_reducible rfl | (unfold jh;decide +kernel) | rfl),⟨m4,⟨m5,(sk <| ⟨(by first | decide | (have hl:=hl;simp only [jM,List.length_append,List.length_cons,List.length_nil] at hl ⊢;omega)),(sk <| ⟨(by first | with_reducible rfl | (unfold jh;decide +kernel) | rfl),⟨m6,(sk <| ⟨(by first | with_reducible rfl | (unfold jh;decide +kernel) | rfl),⟨m7,(sk <| ⟨(by first | with_reducible rfl | (unfold jh;decide +kernel) | rfl),⟨m8,(sk <| ⟨(by first | decide | (have hl:=hl;simp only [jM,List.length_append,List.length_cons,List.length_nil] at hl ⊢;omega)),(sk <| ⟨rfl,⟨m9,⟨G.ne,⟨(by first | decide | (have hl:=hl;simp only [jM,List.length_append,List.length_cons,List.length_nil] at hl ⊢;omega)),⟨(fun q=>absurd q (List.cons_ne_nil _ _)),(sk <| (c fun r m n tk e h' D'=>by
  refine pr6 e fun g1 g2 g3 g4 g5 g6=>?_
  exact yj (l:=(x0::l0)) (vs:=(dqF m 1 0)::ve rs (os 23).vs) D' A.o g1 g2 g3 (by rw [g4,List.append_assoc];rfl) ⟨vg D' g6,vm fun p hp=>qc D' g5 p (List.mem_append_left _ hp)⟩))⟩⟩⟩⟩⟩)⟩)⟩⟩)⟩⟩)⟩⟩)⟩)⟩⟩⟩⟩⟩)⟩⟩)⟩⟩)⟩⟩)⟩)⟩⟩)
theorem tlC1 (A:jz (jb w b1 b2 b3) h R D o T ts z) (G:LpG (jb w b1 b2 b3) h T D F L (⟨.type "frame",none,.dict ⟨[⟨q1,.str "reader" u1,.ref R⟩,⟨q2,.str "rows" u2,.ref L⟩,⟨q3,.str "found" u3,f1⟩,⟨q4,.str "count" u4,f2⟩]⟩ fe,#[]⟩:Obj) (lsO (x0::l0) le)) (hb:BdV b) (ha:BdV a) (hr:qg h row [c,.str "CHARACTERS" rt,.none,b,a]) (hl:(x0::l0).length+1+rs.length≤1000) (ih:∀ lc hs,(vC rs T ts).Ok (cfg (jb w b1 b2 b3) lc hs) PW (jb w b1 b2 b3) h [D,F,L]) (m0:jy ts z c) (m1:ja ts (z+opN c) "FOR") (m2:ja ts (z+opN c+1) "CHARACTERS") (m3:vp ts (z+opN c+2) b a) (m4:¬ja ts (z+opN c+2+jp b+jp a) "CHARACTERS") (m5:¬ja ts (z+opN c+2+jp b+jp a) "ALL") (m6:¬ja ts (z+opN c+2+jp b+jp a) "LEADING") (m7:qy ts (z+opN c+2+jp b+jp a) rs):jV (jb w b1 b2 b3) 16 (vu F) h [D,F,L] (vO D o F L ⟨q1,.str "reader" u1,.ref R⟩ ⟨q2,.str "rows" u2,.ref L⟩ (z+opN c+2+jp b+jp a+tsN rs) (x0::l0) (row::rs.map TRow.row)):=by
 refine rdE A.o fun h1 h2 h3 h4 k1 k2 k3 k4 tz n0 s0 ep' e0=>?_
 subst e0
 refine jU (hooks:=[va T ts,jo T ts,qY c T ts,jX c T ts,bdVH b a T ts,extH,vC rs T ts]) (hkc (vY A.t (G.ws A)) (hkc (jQ A.t (G.ws A)) (hkc (vX A.t (G.ws A)) (hkc (vz A.t (G.ws A)) (hkc (JM hb ha A.t (G.ws A)) (hkc JJ (hkc (ih _ _) hkn))))))) unT (fuel:=10000) (tr:=fun b1=>tr_tlC1 b1 b2 b3) (G.shown A) fun n tk os bs hn=>?_
 exact jj (fun r m=>(vq r,enS m 2,frV m 1,lsV m 0,dqA m 0,QY m 1,dqS m 11 0,dqS m 5 0,dqS m 5 1)) (fun r m=>(true,some (D,some (jC (rdO h1 h2 h3 h4 k1 k2 k3 k4 T z tz n0 s0 ep') (z+opN c+2+jp b+jp a+tsN rs) 0)),some (F,⟨q1,.str "reader" u1,.ref R⟩,⟨q2,.str "rows" u2,.ref L⟩),some (L,((x0::l0)++[(.ref (aAt m 1))])++ve rs (os 19).vs),JV TRow.row rs (os 19).vs++[],some [dqF m 11 0,.str "CHARACTERS" (yR m 1 1),.none,dqF m 5 0,dqF m 5 1],some c,some b,some a)) (ps:=[(true,jy ts z c),(true,ja ts (z+opN c) "FOR"),yt,(true,jy ts z c),yt,(true,jh "FOR"),(true,ja ts (z+opN c) "FOR"),yt,(true,jh "CHARACTERS"),(true,ja ts (z+opN c+1) "CHARACTERS"),yt,(true,vp ts (z+opN c+2) b a),yt,(true,jh "CHARACTERS"),(true,¬ja ts (z+opN c+2+jp b+jp a) "CHARACTERS"),yt,(true,jh "ALL"),(true,¬ja ts (z+opN c+2+jp b+jp a) "ALL"),yt,(true,jh "LEADING"),(true,¬ja ts (z+opN c+2+jp b+jp a) "LEADING"),yt,(true,(x0::l0).length+(W.R.concatR #[].toList (Value.ref ((jg (jo T ts).ar (jg (va T ts).ar (jg (qY c T ts).ar (jg (jX c T ts).ar os))) 0).n+3))).length≤1000),yt,(true,(vu F)=(vu F)),(true,qy ts (z+opN c+2+jp b+jp a) rs),(true,L≠T),(true,(x0::l0++W.R.concatR #[].toList (Value.ref ((jg (jo T ts).ar (jg (va T ts).ar (jg (qY c T ts).ar (jg (jX c T ts).ar os))) 0).n+3))).length+rs.length≤1000),(true,x0::l0++W.R.concatR #[].toList (Value.ref ((jg (jo T ts).ar (jg (va T ts).ar (jg (qY c T ts).ar (jg (jX c T ts).ar os))) 0).n+3))=[]→rs≠[]),yt]) (by kernel_rfl) (by kernel_rfl) (fun _ c=>⟨m0,⟨m1,(sk <| ⟨m0,(sk <| ⟨(by first | with_reducible rfl | (unfold jh;decide +kernel) | rfl),⟨m1,(sk <| ⟨(by first | with_reducible rfl | (unfold jh;decide +kernel) | rfl),⟨m2,(sk <| ⟨m3,(sk <| ⟨(by first | with_reducible rfl | (unfold jh;decide +kernel) | rfl),⟨m4,(sk <| ⟨(by first | with_reducible rfl | (unfold jh;decide +kernel) | rfl),⟨m5,(sk <| ⟨(by first | with_reducible rfl | (unfold jh;decide +kernel) | rfl),⟨m6,(sk <| ⟨(by first | decide | (have hl:=hl;simp only [jM,List.length_append,List.length_cons,List.length_nil] at hl ⊢;omega)),(sk <| ⟨rfl,⟨m7,⟨G.ne,⟨(by first | decide | (have hl:=hl;simp only [jM,List.length_append,List.length_cons,List.length_nil] at hl ⊢;omega)),⟨(fun q=>absurd q (List.cons_ne_nil _ _)),(sk <| (c fun r m n tk e h' D'=>by
  refine pr9 e fun g1 g2 g3 g4 g5 g6 g7 g8 g9=>?_
  exact yj (l:=(x0::l0)) (vs:=(.ref (aAt m 1))::ve rs (os 19).vs) D' A.o g1 g2 g3 (by rw [g4,List.append_assoc];rfl) ⟨JD D' g6 (hr.at (Rp.old D') (G.nt A)) ⟨vg D' g7,.str _ _ _,.same _,vg D' g8,vg D' g9,trivial⟩,vm fun p hp=>qc D' g5 p (List.mem_append_left _ hp)⟩))⟩⟩⟩⟩⟩)⟩)⟩⟩)⟩⟩)⟩⟩)⟩)⟩⟩)⟩⟩)⟩)⟩⟩)
theorem tlL1 (A:jz (jb w b1 b2 b3) h R D o T ts z) (G:LpG (jb w b1 b2 b3) h T D F L (⟨.type "frame",none,.dict ⟨[⟨q1,.str "reader" u1,.ref R⟩,⟨q2,.str "rows" u2,.ref L⟩,⟨q3,.str "found" u3,f1⟩,⟨q4,.str "count" u4,f2⟩]⟩ fe,#[]⟩:Obj) (lsO (x0::l0) le)) (hb:BdV b) (ha:BdV a) (hr:qg h row [c,.str "LEADING" rt,v,b,a]) (hl:(x0::l0).length+1+rs.length≤1000) (ih:∀ lc hs,(vC rs T ts).Ok (cfg (jb w b1 b2 b3) lc hs) PW (jb w b1 b2 b3) h [D,F,L]) (m0:jy ts z c) (m1:ja ts (z+opN c) "FOR") (m2:¬ja ts (z+opN c+1) "CHARACTERS") (m3:¬ja ts (z+opN c+1) "ALL") (m4:ja ts (z+opN c+1) "LEADING") (m5:yf ts (z+opN c+2) v b a) (m6:JH ts (z+opN c+2+cnN v b a)) (m7:¬ja ts (z+opN c+2+cnN v b a) "CHARACTERS") (m8:¬ja ts (z+opN c+2+cnN v b a) "ALL") (m9:¬ja ts (z+opN c+2+cnN v b a) "LEADING") (m10:qy ts (z+opN c+2+cnN v b a) rs):jV (jb w b1 b2 b3) 16 (vu F) h [D,F,L] (vO D o F L ⟨q1,.str "reader" u1,.ref R⟩ ⟨q2,.str "rows" u2,.ref L⟩ (z+opN c+2+cnN v b a+tsN rs) (x0::l0) (row::rs.map TRow.row)):=by
 refine rdE A.o fun h1 h2 h3 h4 k1 k2 k3 k4 tz n0 s0 ep' e0=>?_
 subst e0
 refine jU (hooks:=[va T ts,jo T ts,qY c T ts,jX c T ts,cntH "LEADING" c v b a row T ts,extH,vC rs T ts]) (hkc (vY A.t (G.ws A)) (hkc (jQ A.t (G.ws A)) (hkc (vX A.t (G.ws A)) (hkc (vz A.t (G.ws A)) (hkc (VM hb ha hr (G.nt A) A.t (G.ws A)) (hkc JJ (hkc (ih _ _) hkn))))))) unT (fuel:=10000) (tr:=fun b1=>tr_tlL1 b1 b2 b3) (G.shown A) fun n tk os bs hn=>?_
 exact jj (fun r m=>(vq r,enS m 2,frV m 1,lsV m 0,dqA m 0,dqS m 1 0)) (fun r m=>(true,some (D,some (jC (rdO h1 h2 h3 h4 k1 k2 k3 k4 T z tz n0 s0 ep') (z+opN c+2+cnN v b a+tsN rs) 0)),some (F,⟨q1,.str "reader" u1,.ref R⟩,⟨q2,.str "rows" u2,.ref L⟩),some (L,((x0::l0)++[(dqF m 1 0)])++ve rs (os 25).vs),JV TRow.row rs (os 25).vs++[],some (.ref row))) (ps:=[(true,jy ts z c),(true,ja ts (z+opN c) "FOR"),yt,(true,jy ts z c),yt,(true,jh "FOR"),(true,ja ts (z+opN c) "FOR"),yt,(true,jh "CHARACTERS"),(true,¬ja ts (z+opN c+1) "CHARACTERS"),yt,(true,jh "ALL"),(true,¬ja ts (z+opN c+1) "ALL"),yt,(true,jh "LEADING"),(true,ja ts (z+opN c+1) "LEADING"),yt,(true,(jg (jX c T ts).ar os (0+1)).n=(jg (jX c T ts).ar os (0+1)).n),(true,c=c),(true,Str.ofString "LEADING" = Str.ofString "LEADING"),(true,yf ts (z+opN c+2) v b a),(true,JH ts (z+opN c+2+cnN v b a)),yt,(true,([]:List Value).length + [Value.ref (jg (jo T ts).ar (jg (jo T ts).ar (jg (jo T ts).ar (jg (va T ts).ar (jg (qY c T ts).ar (jg (jX c T ts).ar os))))) (0+1)).n2].length≤1000),yt,(true,jh "CHARACTERS"),(true,¬ja ts (z+opN c+2+cnN v b a) "CHARACTERS"),yt,(true,jh "ALL"),(true,¬ja ts (z+opN c+2+cnN v b a) "ALL"),yt,(true,jh "LEADING"),(true,¬ja ts (z+opN c+2+cnN v b a) "LEADING"),yt,(true,(x0::l0).length+([]++[Value.ref (jg (jo T ts).ar (jg (jo T ts).ar (jg (jo T ts).ar (jg (va T ts).ar (jg (qY c T ts).ar (jg (jX c T ts).ar os))))) (0+1)).n2]).length≤1000),yt,(true,(vu F)=(vu F)),(true,qy ts (z+opN c+2+cnN v b a) rs),(true,L≠T),(true,(x0::l0++([]++[Value.ref (jg (jo T ts).ar (jg (jo T ts).ar (jg (jo T ts).ar (jg (va T ts).ar (jg (qY c T ts).ar (jg (jX c T ts).ar os))))) (0+1)).n2])).length+rs.length≤1000),(true,x0::l0++([]++[Value.ref (jg (jo T ts).ar (jg (jo T ts).ar (jg (jo T ts).ar (jg (va T ts).ar (jg (qY c T ts).ar (jg (jX c T ts).ar os))))) (0+1)).n2])=[]→rs≠[]),yt]) (by kernel_rfl) (by kernel_rfl) (fun _ c=>⟨m0,⟨m1,(sk <| ⟨m0,(sk <| ⟨(by first | with_reducible rfl | (unfold jh;decide +kernel) | rfl),⟨m1,(sk <| ⟨(by first | with_reducible rfl | (unfold jh;decide +kernel) | rfl),⟨m2,(sk <| ⟨(by first | with_reducible rfl | (unfold jh;decide +kernel) | rfl),⟨m3,(sk <| ⟨(by first | with_reducible rfl | (unfold jh;decide +kernel) | rfl),⟨m4,(sk <| ⟨rfl,⟨rfl,⟨(by first | with_reducible rfl | (unfold jh;decide +kernel) | rfl),⟨m5,⟨m6,(sk <| ⟨(by first | decide | (have hl:=hl;simp only [jM,List.length_append,List.length_cons,List.length_nil] at hl ⊢;omega)),(sk <| ⟨(by first | with_reducible rfl | (unfold jh;decide +kernel) | rfl),⟨m7,(sk <| ⟨(by first | with_reducible rfl | (unfold jh;decide +kernel) | rfl),⟨m8,(sk <| ⟨(by first | with_reducible rfl | (unfold jh;decide +kernel) | rfl),⟨m9,(sk <| ⟨(by first | decide | (have hl:=hl;simp only [jM,List.length_append,List.length_cons,List.length_nil] at hl ⊢;omega)),(sk <| ⟨rfl,⟨m10,⟨G.ne,⟨(by first | decide | (have hl:=hl;simp only [jM,List.length_append,List.length_cons,List.length_nil] at hl ⊢;omega)),⟨(fun q=>absurd q (List.cons_ne_nil _ _)),(sk <| (c fun r m n tk e h' D'=>by
  refine pr6 e fun g1 g2 g3 g4 g5 g6=>?_
  exact yj (l:=(x0::l0)) (vs:=(dqF m 1 0)::ve rs (os 25).vs) D' A.o g1 g2 g3 (by rw [g4,List.append_assoc];rfl) ⟨vg D' g6,vm fun p hp=>qc D' g5 p (List.mem_append_left _ hp)⟩))⟩⟩⟩⟩⟩)⟩)⟩⟩)⟩⟩)⟩⟩)⟩)⟩⟩⟩⟩⟩)⟩⟩)⟩⟩)⟩⟩)⟩⟩)⟩)⟩⟩)
theorem tlX1 (A:jz (jb w b1 b2 b3) h R D o T ts z) (G:LpG (jb w b1 b2 b3) h T D F L (⟨.type "frame",none,.dict ⟨[⟨q1,.str "reader" u1,.ref R⟩,⟨q2,.str "rows" u2,.ref L⟩,⟨q3,.str "found" u3,f1⟩,⟨q4,.str "count" u4,f2⟩]⟩ fe,#[]⟩:Obj) (lsO (x0::l0) le)) (m0:¬qO ts z):jV (jb w b1 b2 b3) 16 (vu F) h [D,F,L] (vO D o F L ⟨q1,.str "reader" u1,.ref R⟩ ⟨q2,.str "rows" u2,.ref L⟩ (z) (x0::l0) []):=by
 refine rdE A.o fun h1 h2 h3 h4 k1 k2 k3 k4 tz n0 s0 ep' e0=>?_
 subst e0
 refine jU (hooks:=[jX .none T ts]) (hkc (vz (v := .none) A.t (G.ws A)) hkn) unT (fuel:=10000) (tr:=fun b1=>tr_tlX1 b1 b2 b3) (G.shown A) fun n tk os bs hn=>?_
 exact jj (fun r m=>(vq r,enS m 2,frV m 1,lsV m 0)) (fun r m=>(true,some (D,some (jC (rdO h1 h2 h3 h4 k1 k2 k3 k4 T z tz n0 s0 ep') (z) 0)),some (F,⟨q1,.str "reader" u1,.ref R⟩,⟨q2,.str "rows" u2,.ref L⟩),some (L,(x0::l0)))) (ps:=[(true,¬qO ts z),yt]) (by kernel_rfl) (by kernel_rfl) (fun _ c=>⟨m0,(sk <| (c fun r m n tk e h' D'=>by
  refine pr4 e fun g1 g2 g3 g4=>?_
  exact yj (l:=(x0::l0)) (vs:=[]) D' A.o g1 g2 g3 (by rw [g4,List.append_nil]) trivial))⟩)
theorem tlA2 (A:jz (jb w b1 b2 b3) h R D o T ts z) (G:LpG (jb w b1 b2 b3) h T D F L (⟨.type "frame",none,.dict ⟨[⟨q1,.str "reader" u1,.ref R⟩,⟨q2,.str "rows" u2,.ref L⟩,⟨q3,.str "found" u3,f1⟩,⟨q4,.str "count" u4,f2⟩,⟨q5,.str "before" u5,f3⟩,⟨q6,.str "after" u6,f4⟩]⟩ fe,#[]⟩:Obj) (lsO (x0::l0) le)) (hb:BdV b) (ha:BdV a) (hr:qg h row [c,.str "ALL" rt,v,b,a]) (hl:(x0::l0).length+1+rs.length≤1000) (ih:∀ lc hs,(vC rs T ts).Ok (cfg (jb w b1 b2 b3) lc hs) PW (jb w b1 b2 b3) h [D,F,L]) (m0:jy ts z c) (m1:ja ts (z+opN c) "FOR") (m2:¬ja ts (z+opN c+1) "CHARACTERS") (m3:ja ts (z+opN c+1) "ALL") (m4:yf ts (z+opN c+2) v b a) (m5:JH ts (z+opN c+2+cnN v b a)) (m6:¬ja ts (z+opN c+2+cnN v b a) "CHARACTERS") (m7:¬ja ts (z+opN c+2+cnN v b a) "ALL") (m8:¬ja ts (z+opN c+2+cnN v b a) "LEADING") (m9:qy ts (z+opN c+2+cnN v b a) rs):jV (jb w b1 b2 b3) 16 (vu F) h [D,F,L] (vO D o F L ⟨q1,.str "reader" u1,.ref R⟩ ⟨q2,.str "rows" u2,.ref L⟩ (z+opN c+2+cnN v b a+tsN rs) (x0::l0) (row::rs.map TRow.row)):=by
 refine rdE A.o fun h1 h2 h3 h4 k1 k2 k3 k4 tz n0 s0 ep' e0=>?_
 subst e0
 refine jU (hooks:=[va T ts,jo T ts,qY c T ts,jX c T ts,cntH "ALL" c v b a row T ts,extH,vC rs T ts]) (hkc (vY A.t (G.ws A)) (hkc (jQ A.t (G.ws A)) (hkc (vX A.t (G.ws A)) (hkc (vz A.t (G.ws A)) (hkc (VM hb ha hr (G.nt A) A.t (G.ws A)) (hkc JJ (hkc (ih _ _) hkn))))))) unT (fuel:=10000) (tr:=fun b1=>tr_tlA2 b1 b2 b3) (G.shown A) fun n tk os bs hn=>?_
 exact jj (fun r m=>(vq r,enS m 2,frV m 1,lsV m 0,dqA m 0,dqS m 1 0)) (fun r m=>(true,some (D,some (jC (rdO h1 h2 h3 h4 k1 k2 k3 k4 T z tz n0 s0 ep') (z+opN c+2+cnN v b a+tsN rs) 0)),some (F,⟨q1,.str "reader" u1,.ref R⟩,⟨q2,.str "rows" u2,.ref L⟩),some (L,((x0::l0)++[(dqF m 1 0)])++ve rs (os 23).vs),JV TRow.row rs (os 23).vs++[],some (.ref row))) (ps:=[(true,jy ts z c),(true,ja ts (z+opN c) "FOR"),yt,(true,jy ts z c),yt,(true,jh "FOR"),(true,ja ts (z+opN c) "FOR"),yt,(true,jh "CHARACTERS"),(true,¬ja ts (z+opN c+1) "CHARACTERS"),yt,(true,jh "ALL"),(true,ja ts (z+opN c+1) "ALL"),yt,(true,(jg (jX c T ts).ar os (0+1)).n=(jg (jX c T ts).ar os (0+1)).n),(true,c=c),(true,Str.ofString "ALL" = Str.ofString "ALL"),(true,yf ts (z+opN c+2) v b a),(true,JH ts (z+opN c+2+cnN v b a)),yt,(true,([]:List Value).length + [Value.ref (jg (jo T ts).ar (jg (jo T ts).ar (jg (va T ts).ar (jg (qY c T ts).ar (jg (jX c T ts).ar os)))) (0+1)).n2].length≤1000),yt,(true,jh "CHARACTERS"),(true,¬ja ts (z+opN c+2+cnN v b a) "CHARACTERS"),yt,(true,jh "ALL"),(true,¬ja ts (z+opN c+2+cnN v b a) "ALL"),yt,(true,jh "LEADING"),(true,¬ja ts (z+opN c+2+cnN v b a) "LEADING"),yt,(true,(x0::l0).length+([]++[Value.ref (jg (jo T ts).ar (jg (jo T ts).ar (jg (va T ts).ar (jg (qY c T ts).ar (jg (jX c T ts).ar os)))) (0+1)).n2]).length≤1000),yt,(true,(vu F)=(vu F)),(true,qy ts (z+opN c+2+cnN v b a) rs),(true,L≠T),(true,(x0::l0++([]++[Value.ref (jg (jo T ts).ar (jg (jo T ts).ar (jg (va T ts).ar (jg (qY c T ts).ar (jg (jX c T ts).ar os)))) (0+1)).n2])).length+rs.length≤1000),(true,x0::l0++([]++[Value.ref (jg (jo T ts).ar (jg (jo T ts).ar (jg (va T ts).ar (jg (qY c T ts).ar (jg (jX c T ts).ar os)))) (0+1)).n2])=[]→rs≠[]),yt]) (by kernel_rfl) (by kernel_rfl) (fun _ c=>⟨m0,⟨m1,(sk <| ⟨m0,(sk <| ⟨(by first | with_reducible rfl | (unfold jh;decide +kernel) | rfl),⟨m1,(sk <| ⟨(by first | with_reducible rfl | (unfold jh;decide +kernel) | rfl),⟨m2,(sk <| ⟨(by first | with_reducible rfl | (unfold jh;decide +kernel) | rfl),⟨m3,(sk <| ⟨rfl,⟨rfl,⟨(by first | with_reducible rfl | (unfold jh;decide +kernel) | rfl),⟨m4,⟨m5,(sk <| ⟨(by first | decide | (have hl:=hl;simp only [jM,List.length_append,List.length_cons,List.length_nil] at hl ⊢;omega)),(sk <| ⟨(by first | with_reducible rfl | (unfold jh;decide +kernel) | rfl),⟨m6,(sk <| ⟨(by first | with_reducible rfl | (unfold jh;decide +kernel) | rfl),⟨m7,(sk <| ⟨(by first | with_reducible rfl | (unfold jh;decide +kernel) | rfl),⟨m8,(sk <| ⟨(by first | decide | (have hl:=hl;simp only [jM,List.length_append,List.length_cons,List.length_nil] at hl ⊢;omega)),(sk <| ⟨rfl,⟨m9,⟨G.ne,⟨(by first | decide | (have hl:=hl;simp only [jM,List.length_append,List.length_cons,List.length_nil] at hl ⊢;omega)),⟨(fun q=>absurd q (List.cons_ne_nil _ _)),(sk <| (c fun r m n tk e h' D'=>by
  refine pr6 e fun g1 g2 g3 g4 g5 g6=>?_
  exact yj (l:=(x0::l0)) (vs:=(dqF m 1 0)::ve rs (os 23).vs) D' A.o g1 g2 g3 (by rw [g4,List.append_assoc];rfl) ⟨vg D' g6,vm fun p hp=>qc D' g5 p (List.mem_append_left _ hp)⟩))⟩⟩⟩⟩⟩)⟩)⟩⟩)⟩⟩)⟩⟩)⟩)⟩⟩⟩⟩⟩)⟩⟩)⟩⟩)⟩⟩)⟩)⟩⟩)
theorem tlC2 (A:jz (jb w b1 b2 b3) h R D o T ts z) (G:LpG (jb w b1 b2 b3) h T D F L (⟨.type "frame",none,.dict ⟨[⟨q1,.str "reader" u1,.ref R⟩,⟨q2,.str "rows" u2,.ref L⟩,⟨q3,.str "found" u3,f1⟩,⟨q4,.str "count" u4,f2⟩,⟨q5,.str "before" u5,f3⟩,⟨q6,.str "after" u6,f4⟩]⟩ fe,#[]⟩:Obj) (lsO (x0::l0) le)) (hb:BdV b) (ha:BdV a) (hr:qg h row [c,.str "CHARACTERS" rt,.none,b,a]) (hl:(x0::l0).length+1+rs.length≤1000) (ih:∀ lc hs,(vC rs T ts).Ok (cfg (jb w b1 b2 b3) lc hs) PW (jb w b1 b2 b3) h [D,F,L]) (m0:jy ts z c) (m1:ja ts (z+opN c) "FOR") (m2:ja ts (z+opN c+1) "CHARACTERS") (m3:vp ts (z+opN c+2) b a) (m4:¬ja ts (z+opN c+2+jp b+jp a) "CHARACTERS") (m5:¬ja ts (z+opN c+2+jp b+jp a) "ALL") (m6:¬ja ts (z+opN c+2+jp b+jp a) "LEADING") (m7:qy ts (z+opN c+2+jp b+jp a) rs):jV (jb w b1 b2 b3) 16 (vu F) h [D,F,L] (vO D o F L ⟨q1,.str "reader" u1,.ref R⟩ ⟨q2,.str "rows" u2,.ref L⟩ (z+opN c+2+jp b+jp a+tsN rs) (x0::l0) (row::rs.map TRow.row)):=by
 refine rdE A.o fun h1 h2 h3 h4 k1 k2 k3 k4 tz n0 s0 ep' e0=>?_
 subst e0
 refine jU (hooks:=[va T ts,jo T ts,qY c T ts,jX c T ts,bdVH b a T ts,extH,vC rs T ts]) (hkc (vY A.t (G.ws A)) (hkc (jQ A.t (G.ws A)) (hkc (vX A.t (G.ws A)) (hkc (vz A.t (G.ws A)) (hkc (JM hb ha A.t (G.ws A)) (hkc JJ (hkc (ih _ _) hkn))))))) unT (fuel:=10000) (tr:=fun b1=>tr_tlC2 b1 b2 b3) (G.shown A) fun n tk os bs hn=>?_
 exact jj (fun r m=>(vq r,enS m 2,frV m 1,lsV m 0,dqA m 0,QY m 1,dqS m 11 0,dqS m 5 0,dqS m 5 1)) (fun r m=>(true,some (D,some (jC (rdO h1 h2 h3 h4 k1 k2 k3 k4 T z tz n0 s0 ep') (z+opN c+2+jp b+jp a+tsN rs) 0)),some (F,⟨q1,.str "reader" u1,.ref R⟩,⟨q2,.str "rows" u2,.ref L⟩),some (L,((x0::l0)++[(.ref (aAt m 1))])++ve rs (os 19).vs),JV TRow.row rs (os 19).vs++[],some [dqF m 11 0,.str "CHARACTERS" (yR m 1 1),.none,dqF m 5 0,dqF m 5 1],some c,some b,some a)) (ps:=[(true,jy ts z c),(true,ja ts (z+opN c) "FOR"),yt,(true,jy ts z c),yt,(true,jh "FOR"),(true,ja ts (z+opN c) "FOR"),yt,(true,jh "CHARACTERS"),(true,ja ts (z+opN c+1) "CHARACTERS"),yt,(true,vp ts (z+opN c+2) b a),yt,(true,jh "CHARACTERS"),(true,¬ja ts (z+opN c+2+jp b+jp a) "CHARACTERS"),yt,(true,jh "ALL"),(true,¬ja ts (z+opN c+2+jp b+jp a) "ALL"),yt,(true,jh "LEADING"),(true,¬ja ts (z+opN c+2+jp b+jp a) "LEADING"),yt,(true,(x0::l0).length+(W.R.concatR #[].toList (Value.ref ((jg (jo T ts).ar (jg (va T ts).ar (jg (qY c T ts).ar (jg (jX c T ts).ar os))) 0).n+3))).length≤1000),yt,(true,(vu F)=(vu F)),(true,qy ts (z+opN c+2+jp b+jp a) rs),(true,L≠T),(true,(x0::l0++W.R.concatR #[].toList (Value.ref ((jg (jo T ts).ar (jg (va T ts).ar (jg (qY c T ts).ar (jg (jX c T ts).ar os))) 0).n+3))).length+rs.length≤1000),(true,x0::l0++W.R.concatR #[].toList (Value.ref ((jg (jo T ts).ar (jg (va T ts).ar (jg (qY c T ts).ar (jg (jX c T ts).ar os))) 0).n+3))=[]→rs≠[]),yt]) (by kernel_rfl) (by kernel_rfl) (fun _ c=>⟨m0,⟨m1,(sk <| ⟨m0,(sk <| ⟨(by first | with_reducible rfl | (unfold jh;decide +kernel) | rfl),⟨m1,(sk <| ⟨(by first | with_reducible rfl | (unfold jh;decide +kernel) | rfl),⟨m2,(sk <| ⟨m3,(sk <| ⟨(by first | with_reducible rfl | (unfold jh;decide +kernel) | rfl),⟨m4,(sk <| ⟨(by first | with_reducible rfl | (unfold jh;decide +kernel) | rfl),⟨m5,(sk <| ⟨(by first | with_reducible rfl | (unfold jh;decide +kernel) | rfl),⟨m6,(sk <| ⟨(by first | decide | (have hl:=hl;simp only [jM,List.length_append,List.length_cons,List.length_nil] at hl ⊢;omega)),(sk <| ⟨rfl,⟨m7,⟨G.ne,⟨(by first | decide | (have hl:=hl;simp only [jM,List.length_append,List.length_cons,List.length_nil] at hl ⊢;omega)),⟨(fun q=>absurd q (List.cons_ne_nil _ _)),(sk <| (c fun r m n tk e h' D'=>by
  refine pr9 e fun g1 g2 g3 g4 g5 g6 g7 g8 g9=>?_
  exact yj (l:=(x0::l0)) (vs:=(.ref (aAt m 1))::ve rs (os 19).vs) D' A.o g1 g2 g3 (by rw [g4,List.append_assoc];rfl) ⟨JD D' g6 (hr.at (Rp.old D') (G.nt A)) ⟨vg D' g7,.str _ _ _,.same _,vg D' g8,vg D' g9,trivial⟩,vm fun p hp=>qc D' g5 p (List.mem_append_left _ hp)⟩))⟩⟩⟩⟩⟩)⟩)⟩⟩)⟩⟩)⟩⟩)⟩)⟩⟩)⟩⟩)⟩)⟩⟩)
theorem tlL2 (A:jz (jb w b1 b2 b3) h R D o T ts z) (G:LpG (jb w b1 b2 b3) h T D F L (⟨.type "frame",none,.dict ⟨[⟨q1,.str "reader" u1,.ref R⟩,⟨q2,.str "rows" u2,.ref L⟩,⟨q3,.str "found" u3,f1⟩,⟨q4,.str "count" u4,f2⟩,⟨q5,.str "before" u5,f3⟩,⟨q6,.str "after" u6,f4⟩]⟩ fe,#[]⟩:Obj) (lsO (x0::l0) le)) (hb:BdV b) (ha:BdV a) (hr:qg h row [c,.str "LEADING" rt,v,b,a]) (hl:(x0::l0).length+1+rs.length≤1000) (ih:∀ lc hs,(vC rs T ts).Ok (cfg (jb w b1 b2 b3) lc hs) PW (jb w b1 b2 b3) h [D,F,L]) (m0:jy ts z c) (m1:ja ts (z+opN c) "FOR") (m2:¬ja ts (z+opN c+1) "CHARACTERS") (m3:¬ja ts (z+opN c+1) "ALL") (m4:ja ts (z+opN c+1) "LEADING") (m5:yf ts (z+opN c+2) v b a) (m6:JH ts (z+opN c+2+cnN v b a)) (m7:¬ja ts (z+opN c+2+cnN v b a) "CHARACTERS") (m8:¬ja ts (z+opN c+2+cnN v b a) "ALL") (m9:¬ja ts (z+opN c+2+cnN v b a) "LEADING") (m10:qy ts (z+opN c+2+cnN v b a) rs):jV (jb w b1 b2 b3) 16 (vu F) h [D,F,L] (vO D o F L ⟨q1,.str "reader" u1,.ref R⟩ ⟨q2,.str "rows" u2,.ref L⟩ (z+opN c+2+cnN v b a+tsN rs) (x0::l0) (row::rs.map TRow.row)):=by
 refine rdE A.o fun h1 h2 h3 h4 k1 k2 k3 k4 tz n0 s0 ep' e0=>?_
 subst e0
 refine jU (hooks:=[va T ts,jo T ts,qY c T ts,jX c T ts,cntH "LEADING" c v b a row T ts,extH,vC rs T ts]) (hkc (vY A.t (G.ws A)) (hkc (jQ A.t (G.ws A)) (hkc (vX A.t (G.ws A)) (hkc (vz A.t (G.ws A)) (hkc (VM hb ha hr (G.nt A) A.t (G.ws A)) (hkc JJ (hkc (ih _ _) hkn))))))) unT (fuel:=10000) (tr:=fun b1=>tr_tlL2 b1 b2 b3) (G.shown A) fun n tk os bs hn=>?_
 exact jj (fun r m=>(vq r,enS m 2,frV m 1,lsV m 0,dqA m 0,dqS m 1 0)) (fun r m=>(true,some (D,some (jC (rdO h1 h2 h3 h4 k1 k2 k3 k4 T z tz n0 s0 ep') (z+opN c+2+cnN v b a+tsN rs) 0)),some (F,⟨q1,.str "reader" u1,.ref R⟩,⟨q2,.str "rows" u2,.ref L⟩),some (L,((x0::l0)++[(dqF m 1 0)])++ve rs (os 25).vs),JV TRow.row rs (os 25).vs++[],some (.ref row))) (ps:=[(true,jy ts z c),(true,ja ts (z+opN c) "FOR"),yt,(true,jy ts z c),yt,(true,jh "FOR"),(true,ja ts (z+opN c) "FOR"),yt,(true,jh "CHARACTERS"),(true,¬ja ts (z+opN c+1) "CHARACTERS"),yt,(true,jh "ALL"),(true,¬ja ts (z+opN c+1) "ALL"),yt,(true,jh "LEADING"),(true,ja ts (z+opN c+1) "LEADING"),yt,(true,(jg (jX c T ts).ar os (0+1)).n=(jg (jX c T ts).ar os (0+1)).n),(true,c=c),(true,Str.ofString "LEADING" = Str.ofString "LEADING"),(true,yf ts (z+opN c+2) v b a),(true,JH ts (z+opN c+2+cnN v b a)),yt,(true,([]:List Value).length + [Value.ref (jg (jo T ts).ar (jg (jo T ts).ar (jg (jo T ts).ar (jg (va T ts).ar (jg (qY c T ts).ar (jg (jX c T ts).ar os))))) (0+1)).n2].length≤1000),yt,(true,jh "CHARACTERS"),(true,¬ja ts (z+opN c+2+cnN v b a) "CHARACTERS"),yt,(true,jh "ALL"),(true,¬ja ts (z+opN c+2+cnN v b a) "ALL"),yt,(true,jh "LEADING"),(true,¬ja ts (z+opN c+2+cnN v b a) "LEADING"),yt,(true,(x0::l0).length+([]++[Value.ref (jg (jo T ts).ar (jg (jo T ts).ar (jg (jo T ts).ar (jg (va T ts).ar (jg (qY c T ts).ar (jg (jX c T ts).ar os))))) (0+1)).n2]).length≤1000),yt,(true,(vu F)=(vu F)),(true,qy ts (z+opN c+2+cnN v b a) rs),(true,L≠T),(true,(x0::l0++([]++[Value.ref (jg (jo T ts).ar (jg (jo T ts).ar (jg (jo T ts).ar (jg (va T ts).ar (jg (qY c T ts).ar (jg (jX c T ts).ar os))))) (0+1)).n2])).length+rs.length≤1000),(true,x0::l0++([]++[Value.ref (jg (jo T ts).ar (jg (jo T ts).ar (jg (jo T ts).ar (jg (va T ts).ar (jg (qY c T ts).ar (jg (jX c T ts).ar os))))) (0+1)).n2])=[]→rs≠[]),yt]) (by kernel_rfl) (by kernel_rfl) (fun _ c=>⟨m0,⟨m1,(sk <| ⟨m0,(sk <| ⟨(by first | with_reducible rfl | (unfold jh;decide +kernel) | rfl),⟨m1,(sk <| ⟨(by first | with_reducible rfl | (unfold jh;decide +kernel) | rfl),⟨m2,(sk <| ⟨(by first | with_reducible rfl | (unfold jh;decide +kernel) | rfl),⟨m3,(sk <| ⟨(by first | with_reducible rfl | (unfold jh;decide +kernel) | rfl),⟨m4,(sk <| ⟨rfl,⟨rfl,⟨(by first | with_reducible rfl | (unfold jh;decide +kernel) | rfl),⟨m5,⟨m6,(sk <| ⟨(by first | decide | (have hl:=hl;simp only [jM,List.length_append,List.length_cons,List.length_nil] at hl ⊢;omega)),(sk <| ⟨(by first | with_reducible rfl | (unfold jh;decide +kernel) | rfl),⟨m7,(sk <| ⟨(by first | with_reducible rfl | (unfold jh;decide +kernel) | rfl),⟨m8,(sk <| ⟨(by first | with_reducible rfl | (unfold jh;decide +kernel) | rfl),⟨m9,(sk <| ⟨(by first | decide | (have hl:=hl;simp only [jM,List.length_append,List.length_cons,List.length_nil] at hl ⊢;omega)),(sk <| ⟨rfl,⟨m10,⟨G.ne,⟨(by first | decide | (have hl:=hl;simp only [jM,List.length_append,List.length_cons,List.length_nil] at hl ⊢;omega)),⟨(fun q=>absurd q (List.cons_ne_nil _ _)),(sk <| (c fun r m n tk e h' D'=>by
  refine pr6 e fun g1 g2 g3 g4 g5 g6=>?_
  exact yj (l:=(x0::l0)) (vs:=(dqF m 1 0)::ve rs (os 25).vs) D' A.o g1 g2 g3 (by rw [g4,List.append_assoc];rfl) ⟨vg D' g6,vm fun p hp=>qc D' g5 p (List.mem_append_left _ hp)⟩))⟩⟩⟩⟩⟩)⟩)⟩⟩)⟩⟩)⟩⟩)⟩)⟩⟩⟩⟩⟩)⟩⟩)⟩⟩)⟩⟩)⟩⟩)⟩)⟩⟩)
theorem tlX2 (A:jz (jb w b1 b2 b3) h R D o T ts z) (G:LpG (jb w b1 b2 b3) h T D F L (⟨.type "frame",none,.dict ⟨[⟨q1,.str "reader" u1,.ref R⟩,⟨q2,.str "rows" u2,.ref L⟩,⟨q3,.str "found" u3,f1⟩,⟨q4,.str "count" u4,f2⟩,⟨q5,.str "before" u5,f3⟩,⟨q6,.str "after" u6,f4⟩]⟩ fe,#[]⟩:Obj) (lsO (x0::l0) le)) (m0:¬qO ts z):jV (jb w b1 b2 b3) 16 (vu F) h [D,F,L] (vO D o F L ⟨q1,.str "reader" u1,.ref R⟩ ⟨q2,.str "rows" u2,.ref L⟩ (z) (x0::l0) []):=by
 refine rdE A.o fun h1 h2 h3 h4 k1 k2 k3 k4 tz n0 s0 ep' e0=>?_
 subst e0
 refine jU (hooks:=[jX .none T ts]) (hkc (vz (v := .none) A.t (G.ws A)) hkn) unT (fuel:=10000) (tr:=fun b1=>tr_tlX2 b1 b2 b3) (G.shown A) fun n tk os bs hn=>?_
 exact jj (fun r m=>(vq r,enS m 2,frV m 1,lsV m 0)) (fun r m=>(true,some (D,some (jC (rdO h1 h2 h3 h4 k1 k2 k3 k4 T z tz n0 s0 ep') (z) 0)),some (F,⟨q1,.str "reader" u1,.ref R⟩,⟨q2,.str "rows" u2,.ref L⟩),some (L,(x0::l0)))) (ps:=[(true,¬qO ts z),yt]) (by kernel_rfl) (by kernel_rfl) (fun _ c=>⟨m0,(sk <| (c fun r m n tk e h' D'=>by
  refine pr4 e fun g1 g2 g3 g4=>?_
  exact yj (l:=(x0::l0)) (vs:=[]) D' A.o g1 g2 g3 (by rw [g4,List.append_nil]) trivial))⟩)
theorem rlC0 (A:jz (jb w b1 b2 b3) h R D o T ts z) (G:LpG (jb w b1 b2 b3) h T D F L (⟨.type "frame",none,.dict ⟨[⟨q1,.str "reader" u1,.ref R⟩,⟨q2,.str "rows" u2,.ref L⟩]⟩ fe,#[]⟩:Obj) (lsO [] le)) (hb:BdV b) (ha:BdV a) (hr:qg h row [.str "CHARACTERS" rt,.none,u,b,a]) (hl:([]:List Value).length+1+rr.length≤1000) (ih:∀ lc hs,(yn rr T ts).Ok (cfg (jb w b1 b2 b3) lc hs) PW (jb w b1 b2 b3) h [D,F,L]) (m0:ja ts z "CHARACTERS") (m1:vN ts (z+1) "CHARACTERS" Value.none u b a) (m2:qQ ts (z+1+exN Value.none u b a) rr):jV (jb w b1 b2 b3) 16 (vK F) h [D,F,L] (vO D o F L ⟨q1,.str "reader" u1,.ref R⟩ ⟨q2,.str "rows" u2,.ref L⟩ (z+1+exN .none u b a+rsN rr) ([]:List Value) (row::rr.map RRow.row)):=by
 refine rdE A.o fun h1 h2 h3 h4 k1 k2 k3 k4 tz n0 s0 ep' e0=>?_
 subst e0
 refine jU (hooks:=[jo T ts,YL "CHARACTERS" .none u b a row T ts,Yy T ts,VW,yn rr T ts]) (hkc (jQ A.t (G.ws A)) (hkc (Jx hb ha hr (G.nt A) A.t (G.ws A)) (hkc (Js A.t (G.ws A)) (hkc yr (hkc (ih _ _) hkn))))) unR (fuel:=10000) (tr:=fun b1=>tr_rlC0 b1 b2 b3) (G.shown A) fun n tk os bs hn=>?_
 exact jj (fun r m=>(vq r,enS m 2,frV m 1,lsV m 0,dqA m 0)) (fun r m=>(true,some (D,some (jC (rdO h1 h2 h3 h4 k1 k2 k3 k4 T z tz n0 s0 ep') (z+1+exN .none u b a+rsN rr) 0)),some (F,⟨q1,.str "reader" u1,.ref R⟩,⟨q2,.str "rows" u2,.ref L⟩),some (L,(([]:List Value)++[.ref (os 3).n])++ve rr (os 7).vs),JV RRow.row rr (os 7).vs++[(.ref (os 3).n,.ref row)])) (ps:=[(true,jh "CHARACTERS"),(true,ja ts z "CHARACTERS"),yt,(true,Str.ofString "CHARACTERS" = Str.ofString "CHARACTERS"),(true,vN ts (z+1) "CHARACTERS" Value.none u b a),yt,(true,([]:List Value).length≤1000),yt,(true,(vK F)=(vK F)),(true,qQ ts (z+1+exN Value.none u b a) rr),(true,L≠T),(true,([]++[Value.ref (jg (jo T ts).ar os (0+1)).n]).length+rr.length≤1000),(true,([]:List Value)++[Value.ref (os 3).n]=[]→rr≠[]),yt]) (by kernel_rfl) (by kernel_rfl) (fun _ c=>⟨(by first | with_reducible rfl | (unfold jh;decide +kernel) | rfl),⟨m0,(sk <| ⟨(by first | with_reducible rfl | (unfold jh;decide +kernel) | rfl),⟨m1,(sk <| ⟨(by first | decide | (have hl:=hl;simp only [jM,List.length_append,List.length_cons,List.length_nil] at hl ⊢;omega)),(sk <| ⟨rfl,⟨m2,⟨G.ne,⟨(by first | decide | (have hl:=hl;simp only [jM,List.length_append,List.length_cons,List.length_nil] at hl ⊢;omega)),⟨(fun q=>absurd q (List.cons_ne_nil _ _)),(sk <| (c fun r m n tk e h' D'=>by
  refine pr5 e fun g1 g2 g3 g4 g5=>?_
  exact yj (l:=([]:List Value)) (vs := .ref (os 3).n::ve rr (os 7).vs) D' A.o g1 g2 g3 (by rw [g4,List.append_assoc];rfl) ⟨qc D' g5 _ (List.mem_append_right _ (.head _)),vm fun p hp=>qc D' g5 p (List.mem_append_left _ hp)⟩))⟩⟩⟩⟩⟩)⟩)⟩⟩)⟩⟩)
theorem rlA0 (A:jz (jb w b1 b2 b3) h R D o T ts z) (G:LpG (jb w b1 b2 b3) h T D F L (⟨.type "frame",none,.dict ⟨[⟨q1,.str "reader" u1,.ref R⟩,⟨q2,.str "rows" u2,.ref L⟩]⟩ fe,#[]⟩:Obj) (lsO [] le)) (hb:BdV b) (ha:BdV a) (hr:qg h row [.str "ALL" rt,v,u,b,a]) (hl:([]:List Value).length+1+rr.length≤1000) (ih:∀ lc hs,(yn rr T ts).Ok (cfg (jb w b1 b2 b3) lc hs) PW (jb w b1 b2 b3) h [D,F,L]) (m0:¬ja ts z "CHARACTERS") (m1:ja ts z "ALL") (m2:vN ts (z+1) "ALL" v u b a) (m3:YT ts (z+1+exN v u b a)) (m4:qQ ts (z+1+exN v u b a) rr):jV (jb w b1 b2 b3) 16 (vK F) h [D,F,L] (vO D o F L ⟨q1,.str "reader" u1,.ref R⟩ ⟨q2,.str "rows" u2,.ref L⟩ (z+1+exN v u b a+rsN rr) ([]:List Value) (row::rr.map RRow.row)):=by
 refine rdE A.o fun h1 h2 h3 h4 k1 k2 k3 k4 tz n0 s0 ep' e0=>?_
 subst e0
 refine jU (hooks:=[jo T ts,YL "ALL" v u b a row T ts,Yy T ts,VW,yn rr T ts]) (hkc (jQ A.t (G.ws A)) (hkc (Jx hb ha hr (G.nt A) A.t (G.ws A)) (hkc (Js A.t (G.ws A)) (hkc yr (hkc (ih _ _) hkn))))) unR (fuel:=10000) (tr:=fun b1=>tr_rlA0 b1 b2 b3) (G.shown A) fun n tk os bs hn=>?_
 exact jj (fun r m=>(vq r,enS m 2,frV m 1,lsV m 0,dqA m 0)) (fun r m=>(true,some (D,some (jC (rdO h1 h2 h3 h4 k1 k2 k3 k4 T z tz n0 s0 ep') (z+1+exN v u b a+rsN rr) 0)),some (F,⟨q1,.str "reader" u1,.ref R⟩,⟨q2,.str "rows" u2,.ref L⟩),some (L,(([]:List Value)++[.ref (os 5).n])++ve rr (os 11).vs),JV RRow.row rr (os 11).vs++[(.ref (os 5).n,.ref row)])) (ps:=[(true,jh "CHARACTERS"),(true,¬ja ts z "CHARACTERS"),yt,(true,jh "ALL"),(true,ja ts z "ALL"),yt,(true,Str.ofString "ALL" = Str.ofString "ALL"),(true,vN ts (z+1) "ALL" v u b a),yt,(true,([]:List Value).length≤1000),yt,(true,YT ts (z+1+exN v u b a)),yt,(true,(vK F)=(vK F)),(true,qQ ts (z+1+exN v u b a) rr),(true,L≠T),(true,([]++[Value.ref (jg (jo T ts).ar (jg (jo T ts).ar os) (0+1)).n]).length+rr.length≤1000),(true,([]:List Value)++[Value.ref (os 5).n]=[]→rr≠[]),yt]) (by kernel_rfl) (by kernel_rfl) (fun _ c=>⟨(by first | with_reducible rfl | (unfold jh;decide +kernel) | rfl),⟨m0,(sk <| ⟨(by first | with_reducible rfl | (unfold jh;decide +kernel) | rfl),⟨m1,(sk <| ⟨(by first | with_reducible rfl | (unfold jh;decide +kernel) | rfl),⟨m2,(sk <| ⟨(by first | decide | (have hl:=hl;simp only [jM,List.length_append,List.length_cons,List.length_nil] at hl ⊢;omega)),(sk <| ⟨m3,(sk <| ⟨rfl,⟨m4,⟨G.ne,⟨(by first | decide | (have hl:=hl;simp only [jM,List.length_append,List.length_cons,List.length_nil] at hl ⊢;omega)),⟨(fun q=>absurd q (List.cons_ne_nil _ _)),(sk <| (c fun r m n tk e h' D'=>by
  refine pr5 e fun g1 g2 g3 g4 g5=>?_
  exact yj (l:=([]:List Value)) (vs := .ref (os 5).n::ve rr (os 11).vs) D' A.o g1 g2 g3 (by rw [g4,List.append_assoc];rfl) ⟨qc D' g5 _ (List.mem_append_right _ (.head _)),vm fun p hp=>qc D' g5 p (List.mem_append_left _ hp)⟩))⟩⟩⟩⟩⟩)⟩)⟩)⟩⟩)⟩⟩)⟩⟩)
theorem rlL0 (A:jz (jb w b1 b2 b3) h R D o T ts z) (G:LpG (jb w b1 b2 b3) h T D F L (⟨.type "frame",none,.dict ⟨[⟨q1,.str "reader" u1,.ref R⟩,⟨q2,.str "rows" u2,.ref L⟩]⟩ fe,#[]⟩:Obj) (lsO [] le)) (hb:BdV b) (ha:BdV a) (hr:qg h row [.str "LEADING" rt,v,u,b,a]) (hl:([]:List Value).length+1+rr.length≤1000) (ih:∀ lc hs,(yn rr T ts).Ok (cfg (jb w b1 b2 b3) lc hs) PW (jb w b1 b2 b3) h [D,F,L]) (m0:¬ja ts z "CHARACTERS") (m1:¬ja ts z "ALL") (m2:ja ts z "LEADING") (m3:vN ts (z+1) "LEADING" v u b a) (m4:YT ts (z+1+exN v u b a)) (m5:qQ ts (z+1+exN v u b a) rr):jV (jb w b1 b2 b3) 16 (vK F) h [D,F,L] (vO D o F L ⟨q1,.str "reader" u1,.ref R⟩ ⟨q2,.str "rows" u2,.ref L⟩ (z+1+exN v u b a+rsN rr) ([]:List Value) (row::rr.map RRow.row)):=by
 refine rdE A.o fun h1 h2 h3 h4 k1 k2 k3 k4 tz n0 s0 ep' e0=>?_
 subst e0
 refine jU (hooks:=[jo T ts,YL "LEADING" v u b a row T ts,Yy T ts,VW,yn rr T ts]) (hkc (jQ A.t (G.ws A)) (hkc (Jx hb ha hr (G.nt A) A.t (G.ws A)) (hkc (Js A.t (G.ws A)) (hkc yr (hkc (ih _ _) hkn))))) unR (fuel:=10000) (tr:=fun b1=>tr_rlL0 b1 b2 b3) (G.shown A) fun n tk os bs hn=>?_
 exact jj (fun r m=>(vq r,enS m 2,frV m 1,lsV m 0,dqA m 0)) (fun r m=>(true,some (D,some (jC (rdO h1 h2 h3 h4 k1 k2 k3 k4 T z tz n0 s0 ep') (z+1+exN v u b a+rsN rr) 0)),some (F,⟨q1,.str "reader" u1,.ref R⟩,⟨q2,.str "rows" u2,.ref L⟩),some (L,(([]:List Value)++[.ref (os 7).n])++ve rr (os 13).vs),JV RRow.row rr (os 13).vs++[(.ref (os 7).n,.ref row)])) (ps:=[(true,jh "CHARACTERS"),(true,¬ja ts z "CHARACTERS"),yt,(true,jh "ALL"),(true,¬ja ts z "ALL"),yt,(true,jh "LEADING"),(true,ja ts z "LEADING"),yt,(true,Str.ofString "LEADING" = Str.ofString "LEADING"),(true,vN ts (z+1) "LEADING" v u b a),yt,(true,([]:List Value).length≤1000),yt,(true,YT ts (z+1+exN v u b a)),yt,(true,(vK F)=(vK F)),(true,qQ ts (z+1+exN v u b a) rr),(true,L≠T),(true,([]++[Value.ref (jg (jo T ts).ar (jg (jo T ts).ar (jg (jo T ts).ar os)) (0+1)).n]).length+rr.length≤1000),(true,([]:List Value)++[Value.ref (os 7).n]=[]→rr≠[]),yt]) (by kernel_rfl) (by kernel_rfl) (fun _ c=>⟨(by first | with_reducible rfl | (unfold jh;decide +kernel) | rfl),⟨m0,(sk <| ⟨(by first | with_reducible rfl | (unfold jh;decide +kernel) | rfl),⟨m1,(sk <| ⟨(by first | with_reducible rfl | (unfold jh;decide +kernel) | rfl),⟨m2,(sk <| ⟨(by first | with_reducible rfl | (unfold jh;decide +kernel) | rfl),⟨m3,(sk <| ⟨(by first | decide | (have hl:=hl;simp only [jM,List.length_append,List.length_cons,List.length_nil] at hl ⊢;omega)),(sk <| ⟨m4,(sk <| ⟨rfl,⟨m5,⟨G.ne,⟨(by first | decide | (have hl:=hl;simp only [jM,List.length_append,List.length_cons,List.length_nil] at hl ⊢;omega)),⟨(fun q=>absurd q (List.cons_ne_nil _ _)),(sk <| (c fun r m n tk e h' D'=>by
  refine pr5 e fun g1 g2 g3 g4 g5=>?_
  exact yj (l:=([]:List Value)) (vs := .ref (os 7).n::ve rr (os 13).vs) D' A.o g1 g2 g3 (by rw [g4,List.append_assoc];rfl) ⟨qc D' g5 _ (List.mem_append_right _ (.head _)),vm fun p hp=>qc D' g5 p (List.mem_append_left _ hp)⟩))⟩⟩⟩⟩⟩)⟩)⟩)⟩⟩)⟩⟩)⟩⟩)⟩⟩)
theorem rlF0 (A:jz (jb w b1 b2 b3) h R D o T ts z) (G:LpG (jb w b1 b2 b3) h T D F L (⟨.type "frame",none,.dict ⟨[⟨q1,.str "reader" u1,.ref R⟩,⟨q2,.str "rows" u2,.ref L⟩]⟩ fe,#[]⟩:Obj) (lsO [] le)) (hb:BdV b) (ha:BdV a) (hr:qg h row [.str "FIRST" rt,v,u,b,a]) (hl:([]:List Value).length+1+rr.length≤1000) (ih:∀ lc hs,(yn rr T ts).Ok (cfg (jb w b1 b2 b3) lc hs) PW (jb w b1 b2 b3) h [D,F,L]) (m0:¬ja ts z "CHARACTERS") (m1:¬ja ts z "ALL") (m2:¬ja ts z "LEADING") (m3:ja ts z "FIRST") (m4:vN ts (z+1) "FIRST" v u b a) (m5:YT ts (z+1+exN v u b a)) (m6:qQ ts (z+1+exN v u b a) rr):jV (jb w b1 b2 b3) 16 (vK F) h [D,F,L] (vO D o F L ⟨q1,.str "reader" u1,.ref R⟩ ⟨q2,.str "rows" u2,.ref L⟩ (z+1+exN v u b a+rsN rr) ([]:List Value) (row::rr.map RRow.row)):=by
 refine rdE A.o fun h1 h2 h3 h4 k1 k2 k3 k4 tz n0 s0 ep' e0=>?_
 subst e0
 refine jU (hooks:=[jo T ts,YL "FIRST" v u b a row T ts,Yy T ts,VW,yn rr T ts]) (hkc (jQ A.t (G.ws A)) (hkc (Jx hb ha hr (G.nt A) A.t (G.ws A)) (hkc (Js A.t (G.ws A)) (hkc yr (hkc (ih _ _) hkn))))) unR (fuel:=10000) (tr:=fun b1=>tr_rlF0 b1 b2 b3) (G.shown A) fun n tk os bs hn=>?_
 exact jj (fun r m=>(vq r,enS m 2,frV m 1,lsV m 0,dqA m 0)) (fun r m=>(true,some (D,some (jC (rdO h1 h2 h3 h4 k1 k2 k3 k4 T z tz n0 s0 ep') (z+1+exN v u b a+rsN rr) 0)),some (F,⟨q1,.str "reader" u1,.ref R⟩,⟨q2,.str "rows" u2,.ref L⟩),some (L,(([]:List Value)++[.ref (os 9).n])++ve rr (os 15).vs),JV RRow.row rr (os 15).vs++[(.ref (os 9).n,.ref row)])) (ps:=[(true,jh "CHARACTERS"),(true,¬ja ts z "CHARACTERS"),yt,(true,jh "ALL"),(true,¬ja ts z "ALL"),yt,(true,jh "LEADING"),(true,¬ja ts z "LEADING"),yt,(true,jh "FIRST"),(true,ja ts z "FIRST"),yt,(true,Str.ofString "FIRST" = Str.ofString "FIRST"),(true,vN ts (z+1) "FIRST" v u b a),yt,(true,([]:List Value).length≤1000),yt,(true,YT ts (z+1+exN v u b a)),yt,(true,(vK F)=(vK F)),(true,qQ ts (z+1+exN v u b a) rr),(true,L≠T),(true,([]++[Value.ref (jg (jo T ts).ar (jg (jo T ts).ar (jg (jo T ts).ar (jg (jo T ts).ar os))) (0+1)).n]).length+rr.length≤1000),(true,([]:List Value)++[Value.ref (os 9).n]=[]→rr≠[]),yt]) (by kernel_rfl) (by kernel_rfl) (fun _ c=>⟨(by first | with_reducible rfl | (unfold jh;decide +kernel) | rfl),⟨m0,(sk <| ⟨(by first | with_reducible rfl | (unfold jh;decide +kernel) | rfl),⟨m1,(sk <| ⟨(by first | with_reducible rfl | (unfold jh;decide +kernel) | rfl),⟨m2,(sk <| ⟨(by first | with_reducible rfl | (unfold jh;decide +kernel) | rfl),⟨m3,(sk <| ⟨(by first | with_reducible rfl | (unfold jh;decide +kernel) | rfl),⟨m4,(sk <| ⟨(by first | decide | (have hl:=hl;simp only [jM,List.length_append,List.length_cons,List.length_nil] at hl ⊢;omega)),(sk <| ⟨m5,(sk <| ⟨rfl,⟨m6,⟨G.ne,⟨(by first | decide | (have hl:=hl;simp only [jM,List.length_append,List.length_cons,List.length_nil] at hl ⊢;omega)),⟨(fun q=>absurd q (List.cons_ne_nil _ _)),(sk <| (c fun r m n tk e h' D'=>by
  refine pr5 e fun g1 g2 g3 g4 g5=>?_
  exact yj (l:=([]:List Value)) (vs := .ref (os 9).n::ve rr (os 15).vs) D' A.o g1 g2 g3 (by rw [g4,List.append_assoc];rfl) ⟨qc D' g5 _ (List.mem_append_right _ (.head _)),vm fun p hp=>qc D' g5 p (List.mem_append_left _ hp)⟩))⟩⟩⟩⟩⟩)⟩)⟩)⟩⟩)⟩⟩)⟩⟩)⟩⟩)⟩⟩)
theorem rlC1 (A:jz (jb w b1 b2 b3) h R D o T ts z) (G:LpG (jb w b1 b2 b3) h T D F L (⟨.type "frame",none,.dict ⟨[⟨q1,.str "reader" u1,.ref R⟩,⟨q2,.str "rows" u2,.ref L⟩,⟨q3,.str "kind" u3,f1⟩,⟨q4,.str "word" u4,f2⟩]⟩ fe,#[]⟩:Obj) (lsO (x0::l0) le)) (hb:BdV b) (ha:BdV a) (hr:qg h row [.str "CHARACTERS" rt,.none,u,b,a]) (hl:(x0::l0).length+1+rr.length≤1000) (ih:∀ lc hs,(yn rr T ts).Ok (cfg (jb w b1 b2 b3) lc hs) PW (jb w b1 b2 b3) h [D,F,L]) (m0:ja ts z "CHARACTERS") (m1:vN ts (z+1) "CHARACTERS" Value.none u b a) (m2:qQ ts (z+1+exN Value.none u b a) rr):jV (jb w b1 b2 b3) 16 (vK F) h [D,F,L] (vO D o F L ⟨q1,.str "reader" u1,.ref R⟩ ⟨q2,.str "rows" u2,.ref L⟩ (z+1+exN .none u b a+rsN rr) (x0::l0) (row::rr.map RRow.row)):=by
 refine rdE A.o fun h1 h2 h3 h4 k1 k2 k3 k4 tz n0 s0 ep' e0=>?_
 subst e0
 refine jU (hooks:=[jo T ts,YL "CHARACTERS" .none u b a row T ts,Yy T ts,VW,yn rr T ts]) (hkc (jQ A.t (G.ws A)) (hkc (Jx hb ha hr (G.nt A) A.t (G.ws A)) (hkc (Js A.t (G.ws A)) (hkc yr (hkc (ih _ _) hkn))))) unR (fuel:=10000) (tr:=fun b1=>tr_rlC1 b1 b2 b3) (G.shown A) fun n tk os bs hn=>?_
 exact jj (fun r m=>(vq r,enS m 2,frV m 1,lsV m 0,dqA m 0)) (fun r m=>(true,some (D,some (jC (rdO h1 h2 h3 h4 k1 k2 k3 k4 T z tz n0 s0 ep') (z+1+exN .none u b a+rsN rr) 0)),some (F,⟨q1,.str "reader" u1,.ref R⟩,⟨q2,.str "rows" u2,.ref L⟩),some (L,((x0::l0)++[.ref (os 3).n])++ve rr (os 7).vs),JV RRow.row rr (os 7).vs++[(.ref (os 3).n,.ref row)])) (ps:=[(true,jh "CHARACTERS"),(true,ja ts z "CHARACTERS"),yt,(true,Str.ofString "CHARACTERS" = Str.ofString "CHARACTERS"),(true,vN ts (z+1) "CHARACTERS" Value.none u b a),yt,(true,(x0::l0).length≤1000),yt,(true,(vK F)=(vK F)),(true,qQ ts (z+1+exN Value.none u b a) rr),(true,L≠T),(true,(x0::l0++[Value.ref (jg (jo T ts).ar os (0+1)).n]).length+rr.length≤1000),(true,(x0::l0)++[Value.ref (os 3).n]=[]→rr≠[]),yt]) (by kernel_rfl) (by kernel_rfl) (fun _ c=>⟨(by first | with_reducible rfl | (unfold jh;decide +kernel) | rfl),⟨m0,(sk <| ⟨(by first | with_reducible rfl | (unfold jh;decide +kernel) | rfl),⟨m1,(sk <| ⟨(by first | decide | (have hl:=hl;simp only [jM,List.length_append,List.length_cons,List.length_nil] at hl ⊢;omega)),(sk <| ⟨rfl,⟨m2,⟨G.ne,⟨(by first | decide | (have hl:=hl;simp only [jM,List.length_append,List.length_cons,List.length_nil] at hl ⊢;omega)),⟨(fun q=>absurd q (List.cons_ne_nil _ _)),(sk <| (c fun r m n tk e h' D'=>by
  refine pr5 e fun g1 g2 g3 g4 g5=>?_
  exact yj (l:=(x0::l0)) (vs := .ref (os 3).n::ve rr (os 7).vs) D' A.o g1 g2 g3 (by rw [g4,List.append_assoc];rfl) ⟨qc D' g5 _ (List.mem_append_right _ (.head _)),vm fun p hp=>qc D' g5 p (List.mem_append_left _ hp)⟩))⟩⟩⟩⟩⟩)⟩)⟩⟩)⟩⟩)
theorem rlA1 (A:jz (jb w b1 b2 b3) h R D o T ts z) (G:LpG (jb w b1 b2 b3) h T D F L (⟨.type "frame",none,.dict ⟨[⟨q1,.str "reader" u1,.ref R⟩,⟨q2,.str "rows" u2,.ref L⟩,⟨q3,.str "kind" u3,f1⟩,⟨q4,.str "word" u4,f2⟩]⟩ fe,#[]⟩:Obj) (lsO (x0::l0) le)) (hb:BdV b) (ha:BdV a) (hr:qg h row [.str "ALL" rt,v,u,b,a]) (hl:(x0::l0).length+1+rr.length≤1000) (ih:∀ lc hs,(yn rr T ts).Ok (cfg (jb w b1 b2 b3) lc hs) PW (jb w b1 b2 b3) h [D,F,L]) (m0:¬ja ts z "CHARACTERS") (m1:ja ts z "ALL") (m2:vN ts (z+1) "ALL" v u b a) (m3:YT ts (z+1+exN v u b a)) (m4:qQ ts (z+1+exN v u b a) rr):jV (jb w b1 b2 b3) 16 (vK F) h [D,F,L] (vO D o F L ⟨q1,.str "reader" u1,.ref R⟩ ⟨q2,.str "rows" u2,.ref L⟩ (z+1+exN v u b a+rsN rr) (x0::l0) (row::rr.map RRow.row)):=by
 refine rdE A.o fun h1 h2 h3 h4 k1 k2 k3 k4 tz n0 s0 ep' e0=>?_
 subst e0
 refine jU (hooks:=[jo T ts,YL "ALL" v u b a row T ts,Yy T ts,VW,yn rr T ts]) (hkc (jQ A.t (G.ws A)) (hkc (Jx hb ha hr (G.nt A) A.t (G.ws A)) (hkc (Js A.t (G.ws A)) (hkc yr (hkc (ih _ _) hkn))))) unR (fuel:=10000) (tr:=fun b1=>tr_rlA1 b1 b2 b3) (G.shown A) fun n tk os bs hn=>?_
 exact jj (fun r m=>(vq r,enS m 2,frV m 1,lsV m 0,dqA m 0)) (fun r m=>(true,some (D,some (jC (rdO h1 h2 h3 h4 k1 k2 k3 k4 T z tz n0 s0 ep') (z+1+exN v u b a+rsN rr) 0)),some (F,⟨q1,.str "reader" u1,.ref R⟩,⟨q2,.str "rows" u2,.ref L⟩),some (L,((x0::l0)++[.ref (os 5).n])++ve rr (os 11).vs),JV RRow.row rr (os 11).vs++[(.ref (os 5).n,.ref row)])) (ps:=[(true,jh "CHARACTERS"),(true,¬ja ts z "CHARACTERS"),yt,(true,jh "ALL"),(true,ja ts z "ALL"),yt,(true,Str.ofString "ALL" = Str.ofString "ALL"),(true,vN ts (z+1) "ALL" v u b a),yt,(true,(x0::l0).length≤1000),yt,(true,YT ts (z+1+exN v u b a)),yt,(true,(vK F)=(vK F)),(true,qQ ts (z+1+exN v u b a) rr),(true,L≠T),(true,(x0::l0++[Value.ref (jg (jo T ts).ar (jg (jo T ts).ar os) (0+1)).n]).length+rr.length≤1000),(true,(x0::l0)++[Value.ref (os 5).n]=[]→rr≠[]),yt]) (by kernel_rfl) (by kernel_rfl) (fun _ c=>⟨(by first | with_reducible rfl | (unfold jh;decide +kernel) | rfl),⟨m0,(sk <| ⟨(by first | with_reducible rfl | (unfold jh;decide +kernel) | rfl),⟨m1,(sk <| ⟨(by first | with_reducible rfl | (unfold jh;decide +kernel) | rfl),⟨m2,(sk <| ⟨(by first | decide | (have hl:=hl;simp only [jM,List.length_append,List.length_cons,List.length_nil] at hl ⊢;omega)),(sk <| ⟨m3,(sk <| ⟨rfl,⟨m4,⟨G.ne,⟨(by first | decide | (have hl:=hl;simp only [jM,List.length_append,List.length_cons,List.length_nil] at hl ⊢;omega)),⟨(fun q=>absurd q (List.cons_ne_nil _ _)),(sk <| (c fun r m n tk e h' D'=>by
  refine pr5 e fun g1 g2 g3 g4 g5=>?_
  exact yj (l:=(x0::l0)) (vs := .ref (os 5).n::ve rr (os 11).vs) D' A.o g1 g2 g3 (by rw [g4,List.append_assoc];rfl) ⟨qc D' g5 _ (List.mem_append_right _ (.head _)),vm fun p hp=>qc D' g5 p (List.mem_append_left _ hp)⟩))⟩⟩⟩⟩⟩)⟩)⟩)⟩⟩)⟩⟩)⟩⟩)
theorem rlL1 (A:jz (jb w b1 b2 b3) h R D o T ts z) (G:LpG (jb w b1 b2 b3) h T D F L (⟨.type "frame",none,.dict ⟨[⟨q1,.str "reader" u1,.ref R⟩,⟨q2,.str "rows" u2,.ref L⟩,⟨q3,.str "kind" u3,f1⟩,⟨q4,.str "word" u4,f2⟩]⟩ fe,#[]⟩:Obj) (lsO (x0::l0) le)) (hb:BdV b) (ha:BdV a) (hr:qg h row [.str "LEADING" rt,v,u,b,a]) (hl:(x0::l0).length+1+rr.length≤1000) (ih:∀ lc hs,(yn rr T ts).Ok (cfg (jb w b1 b2 b3) lc hs) PW (jb w b1 b2 b3) h [D,F,L]) (m0:¬ja ts z "CHARACTERS") (m1:¬ja ts z "ALL") (m2:ja ts z "LEADING") (m3:vN ts (z+1) "LEADING" v u b a) (m4:YT ts (z+1+exN v u b a)) (m5:qQ ts (z+1+exN v u b a) rr):jV (jb w b1 b2 b3) 16 (vK F) h [D,F,L] (vO D o F L ⟨q1,.str "reader" u1,.ref R⟩ ⟨q2,.str "rows" u2,.ref L⟩ (z+1+exN v u b a+rsN rr) (x0::l0) (row::rr.map RRow.row)):=by
 refine rdE A.o fun h1 h2 h3 h4 k1 k2 k3 k4 tz n0 s0 ep' e0=>?_
 subst e0
 refine jU (hooks:=[jo T ts,YL "LEADING" v u b a row T ts,Yy T ts,VW,yn rr T ts]) (hkc (jQ A.t (G.ws A)) (hkc (Jx hb ha hr (G.nt A) A.t (G.ws A)) (hkc (Js A.t (G.ws A)) (hkc yr (hkc (ih _ _) hkn))))) unR (fuel:=10000) (tr:=fun b1=>tr_rlL1 b1 b2 b3) (G.shown A) fun n tk os bs hn=>?_
 exact jj (fun r m=>(vq r,enS m 2,frV m 1,lsV m 0,dqA m 0)) (fun r m=>(true,some (D,some (jC (rdO h1 h2 h3 h4 k1 k2 k3 k4 T z tz n0 s0 ep') (z+1+exN v u b a+rsN rr) 0)),some (F,⟨q1,.str "reader" u1,.ref R⟩,⟨q2,.str "rows" u2,.ref L⟩),some (L,((x0::l0)++[.ref (os 7).n])++ve rr (os 13).vs),JV RRow.row rr (os 13).vs++[(.ref (os 7).n,.ref row)])) (ps:=[(true,jh "CHARACTERS"),(true,¬ja ts z "CHARACTERS"),yt,(true,jh "ALL"),(true,¬ja ts z "ALL"),yt,(true,jh "LEADING"),(true,ja ts z "LEADING"),yt,(true,Str.ofString "LEADING" = Str.ofString "LEADING"),(true,vN ts (z+1) "LEADING" v u b a),yt,(true,(x0::l0).length≤1000),yt,(true,YT ts (z+1+exN v u b a)),yt,(true,(vK F)=(vK F)),(true,qQ ts (z+1+exN v u b a) rr),(true,L≠T),(true,(x0::l0++[Value.ref (jg (jo T ts).ar (jg (jo T ts).ar (jg (jo T ts).ar os)) (0+1)).n]).length+rr.length≤1000),(true,(x0::l0)++[Value.ref (os 7).n]=[]→rr≠[]),yt]) (by kernel_rfl) (by kernel_rfl) (fun _ c=>⟨(by first | with_reducible rfl | (unfold jh;decide +kernel) | rfl),⟨m0,(sk <| ⟨(by first | with_reducible rfl | (unfold jh;decide +kernel) | rfl),⟨m1,(sk <| ⟨(by first | with_reducible rfl | (unfold jh;decide +kernel) | rfl),⟨m2,(sk <| ⟨(by first | with_reducible rfl | (unfold jh;decide +kernel) | rfl),⟨m3,(sk <| ⟨(by first | decide | (have hl:=hl;simp only [jM,List.length_append,List.length_cons,List.length_nil] at hl ⊢;omega)),(sk <| ⟨m4,(sk <| ⟨rfl,⟨m5,⟨G.ne,⟨(by first | decide | (have hl:=hl;simp only [jM,List.length_append,List.length_cons,List.length_nil] at hl ⊢;omega)),⟨(fun q=>absurd q (List.cons_ne_nil _ _)),(sk <| (c fun r m n tk e h' D'=>by
  refine pr5 e fun g1 g2 g3 g4 g5=>?_
  exact yj (l:=(x0::l0)) (vs := .ref (os 7).n::ve rr (os 13).vs) D' A.o g1 g2 g3 (by rw [g4,List.append_assoc];rfl) ⟨qc D' g5 _ (List.mem_append_right _ (.head _)),vm fun p hp=>qc D' g5 p (List.mem_append_left _ hp)⟩))⟩⟩⟩⟩⟩)⟩)⟩)⟩⟩)⟩⟩)⟩⟩)⟩⟩)
theorem rlF1 (A:jz (jb w b1 b2 b3) h R D o T ts z) (G:LpG (jb w b1 b2 b3) h T D F L (⟨.type "frame",none,.dict ⟨[⟨q1,.str "reader" u1,.ref R⟩,⟨q2,.str "rows" u2,.ref L⟩,⟨q3,.str "kind" u3,f1⟩,⟨q4,.str "word" u4,f2⟩]⟩ fe,#[]⟩:Obj) (lsO (x0::l0) le)) (hb:BdV b) (ha:BdV a) (hr:qg h row [.str "FIRST" rt,v,u,b,a]) (hl:(x0::l0).length+1+rr.length≤1000) (ih:∀ lc hs,(yn rr T ts).Ok (cfg (jb w b1 b2 b3) lc hs) PW (jb w b1 b2 b3) h [D,F,L]) (m0:¬ja ts z "CHARACTERS") (m1:¬ja ts z "ALL") (m2:¬ja ts z "LEADING") (m3:ja ts z "FIRST") (m4:vN ts (z+1) "FIRST" v u b a) (m5:YT ts (z+1+exN v u b a)) (m6:qQ ts (z+1+exN v u b a) rr):jV (jb w b1 b2 b3) 16 (vK F) h [D,F,L] (vO D o F L ⟨q1,.str "reader" u1,.ref R⟩ ⟨q2,.str "rows" u2,.ref L⟩ (z+1+exN v u b a+rsN rr) (x0::l0) (row::rr.map RRow.row)):=by
 refine rdE A.o fun h1 h2 h3 h4 k1 k2 k3 k4 tz n0 s0 ep' e0=>?_
 subst e0
 refine jU (hooks:=[jo T ts,YL "FIRST" v u b a row T ts,Yy T ts,VW,yn rr T ts]) (hkc (jQ A.t (G.ws A)) (hkc (Jx hb ha hr (G.nt A) A.t (G.ws A)) (hkc (Js A.t (G.ws A)) (hkc yr (hkc (ih _ _) hkn))))) unR (fuel:=10000) (tr:=fun b1=>tr_rlF1 b1 b2 b3) (G.shown A) fun n tk os bs hn=>?_
 exact jj (fun r m=>(vq r,enS m 2,frV m 1,lsV m 0,dqA m 0)) (fun r m=>(true,some (D,some (jC (rdO h1 h2 h3 h4 k1 k2 k3 k4 T z tz n0 s0 ep') (z+1+exN v u b a+rsN rr) 0)),some (F,⟨q1,.str "reader" u1,.ref R⟩,⟨q2,.str "rows" u2,.ref L⟩),some (L,((x0::l0)++[.ref (os 9).n])++ve rr (os 15).vs),JV RRow.row rr (os 15).vs++[(.ref (os 9).n,.ref row)])) (ps:=[(true,jh "CHARACTERS"),(true,¬ja ts z "CHARACTERS"),yt,(true,jh "ALL"),(true,¬ja ts z "ALL"),yt,(true,jh "LEADING"),(true,¬ja ts z "LEADING"),yt,(true,jh "FIRST"),(true,ja ts z "FIRST"),yt,(true,Str.ofString "FIRST" = Str.ofString "FIRST"),(true,vN ts (z+1) "FIRST" v u b a),yt,(true,(x0::l0).length≤1000),yt,(true,YT ts (z+1+exN v u b a)),yt,(true,(vK F)=(vK F)),(true,qQ ts (z+1+exN v u b a) rr),(true,L≠T),(true,(x0::l0++[Value.ref (jg (jo T ts).ar (jg (jo T ts).ar (jg (jo T ts).ar (jg (jo T ts).ar os))) (0+1)).n]).length+rr.length≤1000),(true,(x0::l0)++[Value.ref (os 9).n]=[]→rr≠[]),yt]) (by kernel_rfl) (by kernel_rfl) (fun _ c=>⟨(by first | with_reducible rfl | (unfold jh;decide +kernel) | rfl),⟨m0,(sk <| ⟨(by first | with_reducible rfl | (unfold jh;decide +kernel) | rfl),⟨m1,(sk <| ⟨(by first | with_reducible rfl | (unfold jh;decide +kernel) | rfl),⟨m2,(sk <| ⟨(by first | with_reducible rfl | (unfold jh;decide +kernel) | rfl),⟨m3,(sk <| ⟨(by first | with_reducible rfl | (unfold jh;decide +kernel) | rfl),⟨m4,(sk <| ⟨(by first | decide | (have hl:=hl;simp only [jM,List.length_append,List.length_cons,List.length_nil] at hl ⊢;omega)),(sk <| ⟨m5,(sk <| ⟨rfl,⟨m6,⟨G.ne,⟨(by first | decide | (have hl:=hl;simp only [jM,List.length_append,List.length_cons,List.length_nil] at hl ⊢;omega)),⟨(fun q=>absurd q (List.cons_ne_nil _ _)),(sk <| (c fun r m n tk e h' D'=>by
  refine pr5 e fun g1 g2 g3 g4 g5=>?_
  exact yj (l:=(x0::l0)) (vs := .ref (os 9).n::ve rr (os 15).vs) D' A.o g1 g2 g3 (by rw [g4,List.append_assoc];rfl) ⟨qc D' g5 _ (List.mem_append_right _ (.head _)),vm fun p hp=>qc D' g5 p (List.mem_append_left _ hp)⟩))⟩⟩⟩⟩⟩)⟩)⟩)⟩⟩)⟩⟩)⟩⟩)⟩⟩)⟩⟩)
theorem rlX1 (A:jz (jb w b1 b2 b3) h R D o T ts z) (G:LpG (jb w b1 b2 b3) h T D F L (⟨.type "frame",none,.dict ⟨[⟨q1,.str "reader" u1,.ref R⟩,⟨q2,.str "rows" u2,.ref L⟩,⟨q3,.str "kind" u3,f1⟩,⟨q4,.str "word" u4,f2⟩]⟩ fe,#[]⟩:Obj) (lsO (x0::l0) le)) (m0:¬ja ts z "CHARACTERS") (m1:¬ja ts z "ALL") (m2:¬ja ts z "LEADING") (m3:¬ja ts z "FIRST"):jV (jb w b1 b2 b3) 16 (vK F) h [D,F,L] (vO D o F L ⟨q1,.str "reader" u1,.ref R⟩ ⟨q2,.str "rows" u2,.ref L⟩ (z) (x0::l0) []):=by
 refine rdE A.o fun h1 h2 h3 h4 k1 k2 k3 k4 tz n0 s0 ep' e0=>?_
 subst e0
 refine jU (hooks:=[jo T ts]) (hkc (jQ A.t (G.ws A)) hkn) unR (fuel:=10000) (tr:=fun b1=>tr_rlX1 b1 b2 b3) (G.shown A) fun n tk os bs hn=>?_
 exact jj (fun r m=>(vq r,enS m 2,frV m 1,lsV m 0)) (fun r m=>(true,some (D,some (jC (rdO h1 h2 h3 h4 k1 k2 k3 k4 T z tz n0 s0 ep') (z) 0)),some (F,⟨q1,.str "reader" u1,.ref R⟩,⟨q2,.str "rows" u2,.ref L⟩),some (L,(x0::l0)))) (ps:=[(true,jh "CHARACTERS"),(true,¬ja ts z "CHARACTERS"),yt,(true,jh "ALL"),(true,¬ja ts z "ALL"),yt,(true,jh "LEADING"),(true,¬ja ts z "LEADING"),yt,(true,jh "FIRST"),(true,¬ja ts z "FIRST"),yt]) (by kernel_rfl) (by kernel_rfl) (fun _ c=>⟨(by first | with_reducible rfl | (unfold jh;decide +kernel) | rfl),⟨m0,(sk <| ⟨(by first | with_reducible rfl | (unfold jh;decide +kernel) | rfl),⟨m1,(sk <| ⟨(by first | with_reducible rfl | (unfold jh;decide +kernel) | rfl),⟨m2,(sk <| ⟨(by first | with_reducible rfl | (unfold jh;decide +kernel) | rfl),⟨m3,(sk <| (c fun r m n tk e h' D'=>by
  refine pr4 e fun g1 g2 g3 g4=>?_
  exact yj (l:=(x0::l0)) (vs:=[]) D' A.o g1 g2 g3 (by rw [g4,List.append_nil]) trivial))⟩⟩)⟩⟩)⟩⟩)⟩⟩)
end
section
variable {w:World} {lc:Nat} {hs:List Hook} {h₀:Heap} {ws:List Addr} {T:Addr} {ts:List Tk}
theorem YB {α:Type} {loop:Addr→Code} {len:List α→Nat} {spell:List Tk→Nat→List α→Prop} {row:α→Addr} {shapes:List (List Str)} {isIt:PySem.Expr→Bool} {rs:List α} {ok:Heap→α→Prop}
  (okm:∀ {h h':Heap} {r:α},ok h r→Old ws h h'→Jy h ws→ok h' r)
  (S:∀ {h:Heap} {R D F L:Addr} {o:Obj} {fs:List Fe} {fe:Nat} {l:List Value} {le z:Nat} {e0 e1:Fe} {tl:List Fe},jz w h R D o T ts z→LpG w h T D F L (frO fs fe) (lsO l le)→fs=e0::e1::tl→e0.v = .ref R→e1.v = .ref L→shapes.any (yw fs)=true→yc l fs=true →
   spell ts z rs→l.length+rs.length≤1000→(l=[]→rs≠[])→(∀ r∈rs,ok h r)→jV w 16 (loop F) h [D,F,L] (vO D o F L e0.en e1.en (z+len rs) l (rs.map row)))
  (ht:yG h₀ T ts) (hw:yO T h₀ ws) (hn:Jy h₀ ws) (hr:∀ r∈rs,ok h₀ r):(loopH loop len spell row shapes isIt 16 rs T ts).Ok (cfg w lc hs) PW w h₀ ws:=by
 refine YE fun c m hint=>?_
 refine iWh fun t b oe env b1=>iL4 fun jF jL jR jD b2=>iN fun eF fs fe qF qf=>iT fun qsh=>iC2 fun e0 e1 tl b3=>iRf fun R q0=>iRf fun L q1=>iN fun eL l le qL ql=>iM fun eR D qR qi=>iN fun eD T' z qD qo=>iT fun qso=>?_
 subst b1 b2 b3
 refine iE ?_
 intro h he hm hi hst hk hdq hoff hap hold
 have a1:env.locals=eF.a:=he (env.locals,eF.a) (.head _)
 have a2:R=eR.a:=yM he 1
 have a3:D=eD.a:=yM he 2
 have a4:L=eL.a:=yM he 3
 have a5:T'=T:=yM he 4
 have b1:=hm _ (.head _)
 have b2:=hm _ (.tail _ (.head _))
 have b3:=hm _ (.tail _ (.tail _ (.head _)))
 have b4:=hm _ (.tail _ (.tail _ (.tail _ (.head _))))
 have b5:=hm _ (.tail _ (.tail _ (.tail _ (.tail _ (.head _)))))
 have w1:=Jv hi qD
 have hi2:=Kx hi
 have w2:=Jv hi2 qF
 have hi3:=Kx hi2
 have w3:=Jv hi3 qL
 clear hi2 hi3 he hm hi
 subst a2 a3 a4 a5
 rw [a1] at b1
 have mD:=List.mem_of_getElem? qD
 have mF:=List.mem_of_getElem? qF
 have mL:=List.mem_of_getElem? qL
 have A:jz w h eR.a eD.a eD.o _ ts z:=⟨hst,QI qi ▸ hk eR (List.mem_of_getElem? qR),hk eD mD,qo,ht.old hold hw⟩
 have oF:=fr_eq qf
 have oL:=yq ql
 have G:LpG w h _ eD.a eF.a eL.a (frO (e0::e1::tl) fe) (lsO l le):=⟨oF ▸ hk eF mF,oL ▸ hk eL mL,rfl,⟨l,le,rfl⟩,hoff eD mD w1,hoff eF mF w2,hoff eL mL w3,b3⟩
 have X:=S A G rfl q0 q1 qsh qso b2 b4 b5 fun r q=>okm (hr r q) hold hn
 rw [←b1] at X
 refine jV.on (adC qD (adC qF (adC qL adN))) X fun r h' _ p=>?_
 obtain ⟨rfl,⟨t',p1⟩,⟨es,ep,p2⟩,vs,ep',p3,p4⟩:=p
 obtain ⟨pp,pd⟩:=rows_pad p4
 refine ⟨{(default:Ora) with n2:=ep',n3:=ep,vs:=vs,ob:=⟨.none,none,.dict ⟨es⟩ 0,Array.replicate t' none⟩},rfl,trivial,⟨⟨eD,qD,?_,Ys qo⟩,⟨eF,qF,p2,by rw [oF];rfl⟩,⟨eL,qL,?_,by rw [oL];rfl⟩,trivial⟩,fun _ q=>(nomatch q),pd⟩
 ·simpa using p1
 ·show h'.get? eL.a=some (lsO (l++ve rs vs) ep')
  rw [pp];exact p3
end
def TOk (h:Heap) (r:TRow):Prop:=BdV r.b∧BdV r.a∧∃ t,qg h r.row [r.c,.str r.K t,r.v,r.b,r.a]
def ROk (h:Heap) (r:RRow):Prop:=BdV r.b∧BdV r.a∧∃ t,qg h r.row [.str r.K t,r.v,r.u,r.b,r.a]
theorem TOk.keep {ws:List Addr} {h h':Heap} {r:TRow} (x:TOk h r) (o:Old ws h h') (n:Jy h ws):TOk h' r:=by
 obtain ⟨a,b,t,q⟩:=x
 exact ⟨a,b,t,q.at o n⟩
theorem ROk.keep {ws:List Addr} {h h':Heap} {r:RRow} (x:ROk h r) (o:Old ws h h') (n:Jy h ws):ROk h' r:=by
 obtain ⟨a,b,t,q⟩:=x
 exact ⟨a,b,t,q.at o n⟩
theorem spTs_not {ts:List Tk} {z:Nat} {x:Str}:∀ {rs:List TRow},qy ts z rs→("REPLACING" : Str)≠x→("A" : Str)≠x→("B" : Str)≠x→¬ ja ts z x
 |[],.inl e,_,_,_=>jH e
 |[],.inr e,n,_,_=>ju e n
 |r::rs,⟨⟨⟨hv,s⟩,_⟩,_⟩,_,n1,n2=>by
  rcases s with ⟨_,e,_⟩ | ⟨e,_⟩ | ⟨e,_⟩ | ⟨_,e,_⟩
  ·exact ju e n1
  ·rcases hv with q | q <;> rw [e] at q <;> exact absurd (Value.ref.inj q) (by decide)
  ·rcases hv with q | q <;> rw [e] at q <;> exact absurd (Value.ref.inj q) (by decide)
  ·exact ju e n2
theorem spTs_end {ts:List Tk} {z:Nat}:∀ {rs:List TRow},qy ts z rs→JH ts z
 |[],.inl e => .inl e
 |[],.inr e => .inr (.inl e)
 |r::rs,⟨⟨s,f,_⟩,_⟩ => .inr (.inr ⟨_,s,f⟩)
theorem spRs_no {ts:List Tk} {z:Nat}:∀ {rs:List RRow},qQ ts z rs→YT ts z
 |[],e => .inl e
 |r::rs,⟨⟨k,e,_⟩,_⟩ => .inr ⟨_,k,e⟩
section
variable {w:World} {b1 b2 b3:Bool} {T:Addr} {ts:List Tk}
theorem Vc {fs:List Fe} {rest:List Str} {e0 e1:Fe} {tl:List Fe} {R L:Addr} (hsh:yw fs ("reader" :: "rows" :: rest)=true) (hf:fs=e0::e1::tl) (h0:e0.v = .ref R) (h1:e1.v = .ref L) {G:List Fe→DictEntry→DictEntry→Prop}
  (k:∀ q1 u1 q2 u2 x,G (⟨q1,"reader",u1,.ref R⟩::⟨q2,"rows",u2,.ref L⟩::Vy rest x) ⟨q1,.str "reader" u1,.ref R⟩ ⟨q2,.str "rows" u2,.ref L⟩):G fs e0.en e1.en:=by
 obtain ⟨x,rfl⟩:=Ql hsh
 obtain ⟨rfl,rfl⟩:_∧_:=(by have q:=hf;simp only [Vy,List.cons.injEq] at q;exact ⟨q.1.symm,q.2.1.symm⟩)
 dsimp only at h0 h1
 simp only [Vy,Fe.en,h0,h1]
 exact k (x 0).z (x 0).t (x 1).z (x 1).t fun i=>x (i+1+1)
theorem tally_says:∀ (rs:List TRow) {h:Heap} {R D F L:Addr} {o:Obj} {fs:List Fe} {fe:Nat} {l:List Value} {le z:Nat} {e0 e1:Fe} {tl:List Fe},jz (jb w b1 b2 b3) h R D o T ts z→LpG (jb w b1 b2 b3) h T D F L (frO fs fe) (lsO l le)→fs=e0::e1::tl→e0.v = .ref R→e1.v = .ref L→shT.any (yw fs)=true→yc l fs=true →
   qy ts z rs→l.length+rs.length≤1000→(l=[]→rs≠[])→(∀ r∈rs,TOk h r)→jV (jb w b1 b2 b3) 16 (vu F) h [D,F,L] (vO D o F L e0.en e1.en (z+tsN rs) l (rs.map TRow.row)):=by
 intro rs
 induction rs with
 |nil =>
  intro h R D F L o fs fe l le z e0 e1 tl A G hf h0 h1 hsh hso sp hl hne hr
  have nn:¬ qO ts z:=by
   rcases sp with e | e
   ·exact jx e
   ·exact qC e (by with_reducible exact rvR)
  match l,hne with
  |[],hne=>exact absurd rfl (hne rfl)
  |x0::l0,_ =>
   simp only [shT,List.any_cons,List.any_nil,Bool.or_false,Bool.or_eq_true] at hsh
   rcases hsh with hsh | hsh | hsh <;> have hn:=Vj hsh
   ·have hlen:fs.length=2:=by simpa using congrArg List.length hn
    rw [show yc (x0::l0) fs=false by unfold yc;rw [hlen]] at hso
    cases hso
   ·refine Vc hsh hf h0 h1 (G:=fun fs d0 d1=>yc (x0::l0) fs=true→LpG (jb w b1 b2 b3) h T D F L (frO fs fe) (lsO (x0::l0) le)→jV (jb w b1 b2 b3) 16 (vu F) h [D,F,L] (vO D o F L d0 d1 (z+tsN []) (x0::l0) (([]:List TRow).map TRow.row))) (fun q1 u1 q2 u2 x hso G=>?_) hso G
    exact tlX1 A G nn
   ·refine Vc hsh hf h0 h1 (G:=fun fs d0 d1=>yc (x0::l0) fs=true→LpG (jb w b1 b2 b3) h T D F L (frO fs fe) (lsO (x0::l0) le)→jV (jb w b1 b2 b3) 16 (vu F) h [D,F,L] (vO D o F L d0 d1 (z+tsN []) (x0::l0) (([]:List TRow).map TRow.row))) (fun q1 u1 q2 u2 x hso G=>?_) hso G
    exact tlX2 A G nn
 |cons r rs IH =>
  intro h R D F L o fs fe l le z e0 e1 tl A G hf h0 h1 hsh hso sp hl hne hr
  obtain ⟨⟨sr,sf,sk,sc⟩,sp⟩:=sp
  obtain ⟨hb,ha,rt,hrow⟩:=hr r (.head _)
  have ih:∀ lc hs,(vC rs T ts).Ok (cfg (jb w b1 b2 b3) lc hs) PW (jb w b1 b2 b3) h [D,F,L]:=fun lc hs =>
   YB (ok:=TOk) TOk.keep (fun A G a b c d e f g i j=>IH A G a b c d e f g i j) A.t (G.ws A) (G.nt A) fun r q=>hr r (.tail _ q)
  obtain ⟨c,K,v,b,a,row⟩:=r
  dsimp only at sr sf sk sc hb ha hrow
  have ez:z+tsN (⟨c,K,v,b,a,row⟩::rs)=z+opN c+2+cnN v b a+tsN rs:=by
   show z+(opN c+2+cnN v b a+tsN rs)=_;omega
  have ep:z+t1N ⟨c,K,v,b,a,row⟩=z+opN c+2+cnN v b a:=by
   show z+(opN c+2+cnN v b a)=_;omega
  rw [ep] at sp
  rw [ez]
  have hl':l.length+1+rs.length≤1000:=by simp only [List.length_cons] at hl;omega
  have no:∀ {x:Str},("REPLACING" : Str)≠x→("A" : Str)≠x→("B" : Str)≠x→¬ ja ts (z+opN c+2+cnN v b a) x:=fun a b c=>spTs_not sp a b c
  have n1:=no (x := "CHARACTERS") (by decide +kernel) (by decide +kernel) (by decide +kernel)
  have n2:=no (x := "ALL") (by decide +kernel) (by decide +kernel) (by decide +kernel)
  have n3:=no (x := "LEADING") (by decide +kernel) (by decide +kernel) (by decide +kernel)
  have en:=spTs_end sp
  clear no IH hr hl hne
  simp only [shT,List.any_cons,List.any_nil,Bool.or_false,Bool.or_eq_true] at hsh
  have e1:cnN .none b a=jp b+jp a:=by show 0+jp b+jp a=_;omega
  rcases hsh with hsh | hsh | hsh <;> have hn:=Vj hsh
  ·refine Vc hsh hf h0 h1 (G:=fun fs d0 d1=>yc l fs=true→LpG (jb w b1 b2 b3) h T D F L (frO fs fe) (lsO l le)→jV (jb w b1 b2 b3) 16 (vu F) h [D,F,L] (vO D o F L d0 d1 (z+opN c+2+cnN v b a+tsN rs) l ((⟨c,K,v,b,a,row⟩::rs).map TRow.row))) (fun q1 u1 q2 u2 x hso G=>?_) hso G
   match l,hso with
   |[],_ =>
    rcases sc with ⟨rfl,rfl,sb⟩ | ⟨rfl | rfl,sc⟩
    ·rw [e1,←Nat.add_assoc] at n1 n2 n3 sp ⊢
     exact tlC0 A G hb ha hrow hl' ih sr sf sk sb n1 n2 n3 sp
    ·exact tlA0 A G hb ha hrow hl' ih sr sf (ju sk (by decide +kernel)) sk sc en n1 n2 n3 sp
    ·exact tlL0 A G hb ha hrow hl' ih sr sf (ju sk (by decide +kernel)) (ju sk (by decide +kernel)) sk sc en n1 n2 n3 sp
   |_::_,hso=>cases hso
  ·refine Vc hsh hf h0 h1 (G:=fun fs d0 d1=>yc l fs=true→LpG (jb w b1 b2 b3) h T D F L (frO fs fe) (lsO l le)→jV (jb w b1 b2 b3) 16 (vu F) h [D,F,L] (vO D o F L d0 d1 (z+opN c+2+cnN v b a+tsN rs) l ((⟨c,K,v,b,a,row⟩::rs).map TRow.row))) (fun q1 u1 q2 u2 x hso G=>?_) hso G
   match l,hso with
   |[],hso=>cases hso
   |x0::l0,_ =>
    rcases sc with ⟨rfl,rfl,sb⟩ | ⟨rfl | rfl,sc⟩
    ·rw [e1,←Nat.add_assoc] at n1 n2 n3 sp ⊢
     exact tlC1 A G hb ha hrow hl' ih sr sf sk sb n1 n2 n3 sp
    ·exact tlA1 A G hb ha hrow hl' ih sr sf (ju sk (by decide +kernel)) sk sc en n1 n2 n3 sp
    ·exact tlL1 A G hb ha hrow hl' ih sr sf (ju sk (by decide +kernel)) (ju sk (by decide +kernel)) sk sc en n1 n2 n3 sp
  ·refine Vc hsh hf h0 h1 (G:=fun fs d0 d1=>yc l fs=true→LpG (jb w b1 b2 b3) h T D F L (frO fs fe) (lsO l le)→jV (jb w b1 b2 b3) 16 (vu F) h [D,F,L] (vO D o F L d0 d1 (z+opN c+2+cnN v b a+tsN rs) l ((⟨c,K,v,b,a,row⟩::rs).map TRow.row))) (fun q1 u1 q2 u2 x hso G=>?_) hso G
   match l,hso with
   |[],hso=>cases hso
   |x0::l0,_ =>
    rcases sc with ⟨rfl,rfl,sb⟩ | ⟨rfl | rfl,sc⟩
    ·rw [e1,←Nat.add_assoc] at n1 n2 n3 sp ⊢
     exact tlC2 A G hb ha hrow hl' ih sr sf sk sb n1 n2 n3 sp
    ·exact tlA2 A G hb ha hrow hl' ih sr sf (ju sk (by decide +kernel)) sk sc en n1 n2 n3 sp
    ·exact tlL2 A G hb ha hrow hl' ih sr sf (ju sk (by decide +kernel)) (ju sk (by decide +kernel)) sk sc en n1 n2 n3 sp
theorem repl_says:∀ (rs:List RRow) {h:Heap} {R D F L:Addr} {o:Obj} {fs:List Fe} {fe:Nat} {l:List Value} {le z:Nat} {e0 e1:Fe} {tl:List Fe},jz (jb w b1 b2 b3) h R D o T ts z→LpG (jb w b1 b2 b3) h T D F L (frO fs fe) (lsO l le)→fs=e0::e1::tl→e0.v = .ref R→e1.v = .ref L→shR.any (yw fs)=true→yc l fs=true →
   qQ ts z rs→l.length+rs.length≤1000→(l=[]→rs≠[])→(∀ r∈rs,ROk h r)→jV (jb w b1 b2 b3) 16 (vK F) h [D,F,L] (vO D o F L e0.en e1.en (z+rsN rs) l (rs.map RRow.row)):=by
 intro rs
 induction rs with
 |nil =>
  intro h R D F L o fs fe l le z e0 e1 tl A G hf h0 h1 hsh hso sp hl hne hr
  match l,hne with
  |[],hne=>exact absurd rfl (hne rfl)
  |x0::l0,_ =>
   simp only [shR,List.any_cons,List.any_nil,Bool.or_false,Bool.or_eq_true] at hsh
   rcases hsh with hsh | hsh <;> have hn:=Vj hsh
   ·have hlen:fs.length=2:=by simpa using congrArg List.length hn
    rw [show yc (x0::l0) fs=false by unfold yc;rw [hlen]] at hso
    cases hso
   ·refine Vc hsh hf h0 h1 (G:=fun fs d0 d1=>yc (x0::l0) fs=true→LpG (jb w b1 b2 b3) h T D F L (frO fs fe) (lsO (x0::l0) le)→jV (jb w b1 b2 b3) 16 (vK F) h [D,F,L] (vO D o F L d0 d1 (z+rsN []) (x0::l0) (([]:List RRow).map RRow.row))) (fun q1 u1 q2 u2 x hso G=>?_) hso G
    exact rlX1 A G (jH sp) (jH sp) (jH sp) (jH sp)
 |cons r rs IH =>
  intro h R D F L o fs fe l le z e0 e1 tl A G hf h0 h1 hsh hso sp hl hne hr
  obtain ⟨⟨sd,sk,sx⟩,sp⟩:=sp
  obtain ⟨hb,ha,rt,hrow⟩:=hr r (.head _)
  have ih:∀ lc hs,(yn rs T ts).Ok (cfg (jb w b1 b2 b3) lc hs) PW (jb w b1 b2 b3) h [D,F,L]:=fun lc hs =>
   YB (ok:=ROk) ROk.keep (fun A G a b c d e f g i j=>IH A G a b c d e f g i j) A.t (G.ws A) (G.nt A) fun r q=>hr r (.tail _ q)
  obtain ⟨K,v,u,b,a,row⟩:=r
  dsimp only at sd sk sx hb ha hrow
  have ez:z+rsN (⟨K,v,u,b,a,row⟩::rs)=z+1+exN v u b a+rsN rs:=by
   show z+(1+exN v u b a+rsN rs)=_;omega
  have ep:z+r1N ⟨K,v,u,b,a,row⟩=z+1+exN v u b a:=by
   show z+(1+exN v u b a)=_;omega
  rw [ep] at sp
  rw [ez]
  have hl':l.length+1+rs.length≤1000:=by simp only [List.length_cons] at hl;omega
  have en:=spRs_no sp
  clear IH hr hl hne
  simp only [shR,List.any_cons,List.any_nil,Bool.or_false,Bool.or_eq_true] at hsh
  have hv:K = "CHARACTERS"→v = .none:=fun e=>by
   rcases sx.1 with ⟨_,q⟩ | ⟨q,_⟩
   ·exact q
   ·exact absurd e q
  rcases hsh with hsh | hsh <;> have hn:=Vj hsh
  ·refine Vc hsh hf h0 h1 (G:=fun fs d0 d1=>yc l fs=true→LpG (jb w b1 b2 b3) h T D F L (frO fs fe) (lsO l le)→jV (jb w b1 b2 b3) 16 (vK F) h [D,F,L] (vO D o F L d0 d1 (z+1+exN v u b a+rsN rs) l ((⟨K,v,u,b,a,row⟩::rs).map RRow.row))) (fun q1 u1 q2 u2 x hso G=>?_) hso G
   match l,hso with
   |[],_ =>
    rcases sd with rfl | rfl | rfl | rfl
    ·have hv:=hv rfl
     subst hv
     exact rlC0 A G hb ha hrow hl' ih sk sx sp
    ·exact rlA0 A G hb ha hrow hl' ih (ju sk (by decide +kernel)) sk sx en sp
    ·exact rlL0 A G hb ha hrow hl' ih (ju sk (by decide +kernel)) (ju sk (by decide +kernel)) sk sx en sp
    ·exact rlF0 A G hb ha hrow hl' ih (ju sk (by decide +kernel)) (ju sk (by decide +kernel)) (ju sk (by decide +kernel)) sk sx en sp
   |_::_,hso=>cases hso
  ·refine Vc hsh hf h0 h1 (G:=fun fs d0 d1=>yc l fs=true→LpG (jb w b1 b2 b3) h T D F L (frO fs fe) (lsO l le)→jV (jb w b1 b2 b3) 16 (vK F) h [D,F,L] (vO D o F L d0 d1 (z+1+exN v u b a+rsN rs) l ((⟨K,v,u,b,a,row⟩::rs).map RRow.row))) (fun q1 u1 q2 u2 x hso G=>?_) hso G
   match l,hso with
   |[],hso=>cases hso
   |x0::l0,_ =>
    rcases sd with rfl | rfl | rfl | rfl
    ·have hv:=hv rfl
     subst hv
     exact rlC1 A G hb ha hrow hl' ih sk sx sp
    ·exact rlA1 A G hb ha hrow hl' ih (ju sk (by decide +kernel)) sk sx en sp
    ·exact rlL1 A G hb ha hrow hl' ih (ju sk (by decide +kernel)) (ju sk (by decide +kernel)) sk sx en sp
    ·exact rlF1 A G hb ha hrow hl' ih (ju sk (by decide +kernel)) (ju sk (by decide +kernel)) (ju sk (by decide +kernel)) sk sx en sp
end
def tr_tr (b1 b2 b3:Bool):Tr:=T [1,1,0,2,2,1,4,1,0,2,3,0,0,2,0,2,1,0,1,1,0,1,1] .nil
def tr_rr (b1 b2 b3:Bool):Tr:=T [1,1,0,2,2,1,4,1,0,2,3,2,2,1,2,0,2,1,2,1,0,0,3,0,2,1,1,1,1,0,1,1] .nil
theorem ok552 (w:World):vH (ktP w) 552=true:=by kernel_rfl
theorem ok580 (w:World):vH (ktP w) 580=true:=by kernel_rfl
theorem pad_len {α:Type}:∀ {rs:List α} {vs:List Value},(ve rs vs).length=rs.length
 |[],_=>rfl
 |r::rs,vs=>by simp only [ve,List.length_cons,pad_len (rs:=rs)]
theorem yG.ne {h:Heap} {T:Addr} {ts:List Tk} {n:Nat} (x:yG h T ts) (hn:h.objs.size=n+845):n+846≠T:=by
 obtain ⟨_,as,d,ep,sl,e,_⟩:=x
 have q:(T:Nat) < n+845:=hn ▸ Heap.lt_size e
 intro e
 rw [←e] at q
 exact absurd q (Nat.not_lt.mpr (Nat.add_le_add_left (by decide) n))
def RowsRes (D:Addr) (o:Obj) (z':Nat) (rows:List Addr) (r:Result) (h':Heap):Prop :=
 ∃ a,r = .ok (.ret (.ref a))∧(∃ d vs ep sl,h'.get? a=some (vv d vs ep sl)∧Yo h' vs rows)∧∃ t,h'.get? D=some (jC o z' t)
section
variable {w:World} {b1 b2 b3:Bool} {lv:Nat} {hs:List Mine.Hook} {h₀:Heap} {ws:List Addr} {h:Heap} {R D T:Addr} {o:Obj} {ts:List Tk} {z:Nat} {r0:TRow} {rs:List TRow} {r1:RRow} {rr:List RRow}
theorem rows_T (A:jz (jb w b1 b2 b3) h R D o T ts z) (off:(ktP (jb w b1 b2 b3)).get D=none) (hr:∀ r∈(r0::rs),TOk h r) (hl:(r0::rs).length≤900) (sp:qy ts z (r0::rs)):jr (jb w b1 b2 b3) 17 (.call (.ref 552) ⟨[.ref R],[]⟩) h [D] (RowsRes D o (z+tsN (r0::rs)) ((r0::rs).map TRow.row)):=by
 have sh:=A.shown off
 have ih:∀ lc hs,(vC (r0::rs) T ts).Ok (cfg (jb w b1 b2 b3) lc hs) PW (jb w b1 b2 b3) h [D]:=fun lc hs=>YB (ok:=TOk) TOk.keep (fun A G a b c d e f g i j=>tally_says (r0::rs) A G a b c d e f g i j) A.t (jf A.d A.o) (yV A.d A.o) hr
 have tk:=A.t
 refine rdE A.o fun h1 h2 h3 h4 k1 k2 k3 k4 tz n0 s0 ep' e0=>?_
 subst e0
 refine je (hooks:=[vC (r0::rs) T ts,JY]) (hkc (ih _ _) (hkc yx hkn)) (fuel:=10000) (tr:=fun b1=>tr_tr b1 b2 b3) (ok552 _) sh fun n tk' os bs hn=>?_
 have ne:=tk.ne hn
 exact jj (fun r m=>(vR r,yW r,QY m 0,dqA m 1,vT m)) (fun r m=>(true,aAt m 0,some ([]++ve (r0::rs) (os 1).vs),JV TRow.row (r0::rs) (os 1).vs++[],some (D,some (jC (rdO h1 h2 h3 h4 k1 k2 k3 k4 T z tz n0 s0 ep') (z+tsN (r0::rs)) 0)))) (ps:=[(true,vu (n+845)=vu (n+845)),(true,qy ts z (r0::rs)),(true,n+846≠T),(true,([]:List Value).length+(r0::rs).length≤1000),(true,([]:List Value)=[]→(r0::rs)≠[]),yt,(true,(([]:List Value)++ve (r0::rs) (os 1).vs).length≤1000),yt]) (by kernel_rfl) (by kernel_rfl)
  (fun _ kT=>⟨rfl,sp,ne,by have:=hl;simp only [List.length_nil] at this ⊢;omega,fun _=>List.cons_ne_nil _ _,fun _=>⟨by rw [List.nil_append,pad_len];omega,fun _=>kT fun r m n tk e h' D'=>by
   refine pr5 e fun e1 e2 e3 e4 e5=>?_
   obtain ⟨d,ep,sl,g⟩:=Yd D' e3
   exact ⟨aAt m 0,by rw [vl e1,e2],⟨d,_,ep,sl,g,vm fun p hp=>qc D' e4 p (List.mem_append_left _ hp)⟩,ya D' A.o e5⟩⟩⟩)
theorem rows_R (A:jz (jb w b1 b2 b3) h R D o T ts z) (off:(ktP (jb w b1 b2 b3)).get D=none) (hr:∀ r∈(r1::rr),ROk h r) (hl:(r1::rr).length≤900) (sp:qQ ts z (r1::rr)):jr (jb w b1 b2 b3) 17 (.call (.ref 580) ⟨[.ref R],[]⟩) h [D] (RowsRes D o (z+rsN (r1::rr)) ((r1::rr).map RRow.row)):=by
 have sh:=A.shown off
 have ih:∀ lc hs,(yn (r1::rr) T ts).Ok (cfg (jb w b1 b2 b3) lc hs) PW (jb w b1 b2 b3) h [D]:=fun lc hs=>YB (ok:=ROk) ROk.keep (fun A G a b c d e f g i j=>repl_says (r1::rr) A G a b c d e f g i j) A.t (jf A.d A.o) (yV A.d A.o) hr
 have tk:=A.t
 refine rdE A.o fun h1 h2 h3 h4 k1 k2 k3 k4 tz n0 s0 ep' e0=>?_
 subst e0
 refine je (hooks:=[yn (r1::rr) T ts,JY]) (hkc (ih _ _) (hkc yx hkn)) (fuel:=10000) (tr:=fun b1=>tr_rr b1 b2 b3) (ok580 _) sh fun n tk' os bs hn=>?_
 have ne:=tk.ne hn
 exact jj (fun r m=>(vR r,yW r,QY m 0,dqA m 2,vT m)) (fun r m=>(true,aAt m 0,some ([]++ve (r1::rr) (os 1).vs),JV RRow.row (r1::rr) (os 1).vs++[],some (D,some (jC (rdO h1 h2 h3 h4 k1 k2 k3 k4 T z tz n0 s0 ep') (z+rsN (r1::rr)) 0)))) (ps:=[(true,vK (n+845)=vK (n+845)),(true,qQ ts z (r1::rr)),(true,n+846≠T),(true,([]:List Value).length+(r1::rr).length≤1000),(true,([]:List Value)=[]→(r1::rr)≠[]),yt,(true,(([]:List Value)++ve (r1::rr) (os 1).vs).length≤1000),yt]) (by kernel_rfl) (by kernel_rfl)
  (fun _ kT=>⟨rfl,sp,ne,by have:=hl;simp only [List.length_nil] at this ⊢;omega,fun _=>List.cons_ne_nil _ _,fun _=>⟨by rw [List.nil_append,pad_len];omega,fun _=>kT fun r m n tk e h' D'=>by
   refine pr5 e fun e1 e2 e3 e4 e5=>?_
   obtain ⟨d,ep,sl,g⟩:=Yd D' e3
   exact ⟨aAt m 0,by rw [vl e1,e2],⟨d,_,ep,sl,g,vm fun p hp=>qc D' e4 p (List.mem_append_left _ hp)⟩,ya D' A.o e5⟩⟩⟩)
end
def readX (f:Addr) (P:Nat→Prop) (len:Nat) (X T:Addr):Hook:=vU f 17 T
 (fun rest z hint=>oL0 rest <| oL0 hint <| some {musts:=[P z],res:=fun y => .ok (.ret (.ref y.n)),mv:=some (z+len),dq:=fun y=>[(.ref y.n,.ref X)]})
def rowsTH (rs:List TRow) (X T:Addr) (ts:List Tk):Hook:=readX 552 (fun z=>qy ts z rs) (tsN rs) X T
def rowsRH (rs:List RRow) (X T:Addr) (ts:List Tk):Hook:=readX 580 (fun z=>qQ ts z rs) (rsN rs) X T
def Qq (ts:List Tk) (z:Nat) (k:Nat) (c:Value) (rs:List TRow) (rr:List RRow):Prop :=
 ja ts z "INSPECT"∧jy ts (z+1) c∧match k with
  |0=>ja ts (z+1+opN c) "TALLYING"∧qy ts (z+1+opN c+1) rs∧ja ts (z+1+opN c+1+tsN rs) "REPLACING"∧qQ ts (z+1+opN c+1+tsN rs+1) rr
  |1=>ja ts (z+1+opN c) "TALLYING"∧qy ts (z+1+opN c+1) rs∧¬ ja ts (z+1+opN c+1+tsN rs) "REPLACING"
  |_=>ja ts (z+1+opN c) "REPLACING"∧qQ ts (z+1+opN c+1) rr
def inN (k:Nat) (c:Value) (rs:List TRow) (rr:List RRow):Nat:=1+opN c+1+match k with
 |0=>tsN rs+1+rsN rr
 |1=>tsN rs
 |_=>rsN rr
def tr_riB (b1 b2 b3:Bool):Tr:=T [1,1,1,1,0,1,2,0,0,0,2,0,0,0,2,0,0,0,0,2,3,0,1,2,1,2,0,1,0,2,2,1,2,1,1,1,2,0,0,0,2,0,0,0,2,0,0,0] (T [0,2,3,0,3,3,1,2,0,1,2,0,0,0,2,0,0,0,2,0,0,0,0,2,3,0,3,3,1,2,1,0,1,0,4,2,1,2,1,1,1,2,0,0,0,2,0,0] (T [0,2,0,0,0,0,2,3,0,3,3,1,2,1,1,1,0,1,0,5,2,1,2] .nil))
def tr_riT (b1 b2 b3:Bool):Tr:=T [1,1,1,1,0,1,2,0,0,0,2,0,0,0,2,0,0,0,0,2,3,0,1,2,1,2,0,1,0,2,2,1,2,1,1,1,2,0,0,0,2,0,0,0,2,0,0,0] (T [0,2,3,0,3,3,1,2,0,1,2,0,0,0,2,0,0,0,2,0,0,0,0,2,3,0,3,3,1,2,1,0,1,0,4,2,1,2,1,1,1,2,0,0,0,2,0,0] (T [0,2,0,0,0,0,2,3,0,3,3,1,2,0,1,1] .nil))
def tr_riR (b1 b2 b3:Bool):Tr:=T [1,1,1,1,0,1,2,0,0,0,2,0,0,0,2,0,0,0,0,2,3,0,1,2,1,2,0,1,0,2,2,1,2,1,1,1,2,0,0,0,2,0,0,0,2,0,0,0] (T [0,2,3,0,3,3,1,2,0,1,2,0,0,0,2,0,0,0,2,0,0,0,0,2,3,0,3,3,1,2,0,1,2,0,0,0,2,0,0,0,2,0,0,0,0,2,3,0] (T [1,2,1,2,1,0,1,0,4,2,1,2] .nil))
theorem ok587 (w:World):vH (ktP w) 587=true:=by kernel_rfl
section
variable {w:World} {b1 b2 b3:Bool} {lv:Nat} {hs:List Mine.Hook} {h₀:Heap} {ws:List Addr} {h:Heap} {R D T X Y S L:Addr} {o:Obj} {ts:List Tk} {z st:Nat} {c:Value} {rs:List TRow} {rr:List RRow}
theorem dqRows_l {h:Heap}:∀ {vs:List Value} {as:List Addr},Yo h vs as→DqL h vs (as.map Value.ref)
 |[],[],_=>trivial
 |v::vs,a::as,⟨q,r⟩=>⟨q,dqRows_l r⟩
 |[],_::_,q=>q.elim
 |_::_,[],q=>q.elim
theorem readX_ok {f:Addr} {P:Nat→Prop} {len:Nat} {rows:List Addr}
  (H:∀ {h:Heap} {R D:Addr} {o:Obj} {z:Nat},jz (jb w b1 b2 b3) h R D o T ts z→(ktP (jb w b1 b2 b3)).get D=none→Old ws h₀ h→P z→jr (jb w b1 b2 b3) 17 (.call (.ref f) ⟨[.ref R],[]⟩) h [D] (RowsRes D o (z+len) rows))
  (hX:qg h₀ X (rows.map Value.ref)) (hn:Jy h₀ ws) (ht:yG h₀ T ts) (hw:yO T h₀ ws):(readX f P len X T).Ok (cfg (jb w b1 b2 b3) lv hs) PW (jb w b1 b2 b3) h₀ ws:=by
 refine qJ (ts:=ts) (fun rest z hint=>iL0 fun b1=>iL0 fun b2=>iE fun h R D o hm A off hold=>?_) ht hw
 subst b1
 refine (H A (off rfl) hold (hm _ (.head _))).mono fun r h' ol q=>?_
 obtain ⟨a,e,⟨d,vs,ep,sl,g,dq⟩,mv⟩:=q
 have gX:=(hX.at hold hn).at ol (yV A.d A.o)
 obtain ⟨d',ep',sl',gX⟩:=gX
 exact Vz ⟨a,e,KA g gX (dqRows_l dq),mv⟩
theorem rowsTH_ok (hr:∀ r∈rs,TOk h₀ r) (hX:qg h₀ X (rs.map fun r => .ref r.row)) (hl:1≤rs.length∧rs.length≤900) (hn:Jy h₀ ws) (ht:yG h₀ T ts) (hw:yO T h₀ ws):(rowsTH rs X T ts).Ok (cfg (jb w b1 b2 b3) lv hs) PW (jb w b1 b2 b3) h₀ ws:=by
 match rs,hr,hX,hl with
 |[],_,_,hl=>exact absurd hl.1 (by decide)
 |r0::rs,hr,hX,hl =>
  refine readX_ok (rows:=(r0::rs).map TRow.row) (fun {h R D o z} A off old sp=>?_) (by rw [List.map_map];exact hX) hn ht hw
  exact rows_T A off (fun r q=>(hr r q).keep old hn) hl.2 sp
theorem rowsRH_ok (hr:∀ r∈rr,ROk h₀ r) (hX:qg h₀ X (rr.map fun r => .ref r.row)) (hl:1≤rr.length∧rr.length≤900) (hn:Jy h₀ ws) (ht:yG h₀ T ts) (hw:yO T h₀ ws):(rowsRH rr X T ts).Ok (cfg (jb w b1 b2 b3) lv hs) PW (jb w b1 b2 b3) h₀ ws:=by
 match rr,hr,hX,hl with
 |[],_,_,hl=>exact absurd hl.1 (by decide)
 |r0::rr,hr,hX,hl =>
  refine readX_ok (rows:=(r0::rr).map RRow.row) (fun {h R D o z} A off old sp=>?_) (by rw [List.map_map];exact hX) hn ht hw
  exact rows_R A off (fun r q=>(hr r q).keep old hn) hl.2 sp
theorem ri_B (A:jz (jb w b1 b2 b3) h R D o T ts z) (off:(ktP (jb w b1 b2 b3)).get D=none) (hr:∀ r∈rs,TOk h r) (hX:qg h X (rs.map fun r => .ref r.row)) (hl:1≤rs.length∧rs.length≤900)(gr:∀ r∈rr,ROk h r) (gX:qg h Y (rr.map fun r => .ref r.row)) (gl:1≤rr.length∧rr.length≤900) (hS:qg h S [.str "tally-replace" st,c,.ref X,.ref Y]) (m0:ja ts z "INSPECT") (m1:jy ts (z+1) c) (m2:¬ja ts (z+1+opN c) "CONVERTING") (m3:ja ts (z+1+opN c) "TALLYING") (m4:qy ts (z+1+opN c+1) rs) (m5:ja ts (z+1+opN c+1+tsN rs) "REPLACING") (m6:qQ ts (z+1+opN c+1+tsN rs+1) rr):jr (jb w b1 b2 b3) 19 (.call (.ref 587) ⟨[.ref R,.ref L],[]⟩) h [D] (Yb D o (.ref S) (z+inN 0 c rs rr)):=by
 refine rdE A.o fun h1 h2 h3 h4 k1 k2 k3 k4 tz n0 s0 ep' e0=>?_
 subst e0
 refine je (hooks:=[va T ts,qY c T ts,jo T ts,rowsTH rs X T ts,rowsRH rr Y T ts]) (hkc (vY A.t (jf A.d A.o)) (hkc (vX A.t (jf A.d A.o)) (hkc (jQ A.t (jf A.d A.o)) (hkc (rowsTH_ok hr hX hl (yV A.d A.o) A.t (jf A.d A.o)) (hkc (rowsRH_ok gr gX gl (yV A.d A.o) A.t (jf A.d A.o)) hkn))))) (fuel:=10000) (tr:=fun b1=>tr_riB b1 b2 b3) (ok587 _) (A.shown off) fun n tk os bs hn=>?_
 exact jj (fun r m=>(vR r,yW r,QY m 0,dqS m 1 0,dqS m 1 1,dqS m 1 2,vT m)) (fun r m=>(true,aAt m 0,some [.str "tally-replace" (yR m 0 0),dqF m 1 2,dqF m 1 1,dqF m 1 0],some (.ref Y),some (.ref X),some (c),some (D,some (jC (rdO h1 h2 h3 h4 k1 k2 k3 k4 T z tz n0 s0 ep') (z+1+opN c+1+tsN rs+1+rsN rr) 0)))) (ps:=[(true,jh "INSPECT"),(true,ja ts z "INSPECT"),yt,(true,jy ts (z+1) c),yt,(true,jh "CONVERTING"),(true,¬ja ts (z+1+opN c) "CONVERTING"),yt,(true,jh "TALLYING"),(true,ja ts (z+1+opN c) "TALLYING"),yt,(true,qy ts (z+1+opN c+1) rs),yt,(true,jh "REPLACING"),(true,ja ts (z+1+opN c+1+tsN rs) "REPLACING"),yt,(true,qQ ts (z+1+opN c+1+tsN rs+1) rr),yt]) (by kernel_rfl) (by kernel_rfl) (fun _ kT=>⟨(by first | (with_reducible first | rfl | exact nrA | exact nrB | exact nrG | exact rvS) | (unfold jh;decide +kernel) | (unfold jc;decide +kernel) | (unfold jk;decide +kernel) | decide +kernel | rfl),⟨m0,(sk <| ⟨m1,(sk <| ⟨(by first | (with_reducible first | rfl | exact nrA | exact nrB | exact nrG | exact rvS) | (unfold jh;decide +kernel) | (unfold jc;decide +kernel) | (unfold jk;decide +kernel) | decide +kernel | rfl),⟨m2,(sk <| ⟨(by first | (with_reducible first | rfl | exact nrA | exact nrB | exact nrG | exact rvS) | (unfold jh;decide +kernel) | (unfold jc;decide +kernel) | (unfold jk;decide +kernel) | decide +kernel | rfl),⟨m3,(sk <| ⟨m4,(sk <| ⟨(by first | (with_reducible first | rfl | exact nrA | exact nrB | exact nrG | exact rvS) | (unfold jh;decide +kernel) | (unfold jc;decide +kernel) | (unfold jk;decide +kernel) | decide +kernel | rfl),⟨m5,(sk <| ⟨m6,(sk <| (kT fun r m n tk e h' D'=>by
  refine pr7 e fun e1 e2 e3 d0 d1 d2 e4=>?_
  have e5:z+inN 0 c rs rr=z+1+opN c+1+tsN rs+1+rsN rr:=by simp only [inN];omega
  rw [←e5] at e4
  exact ⟨aAt m 0,by rw [vl e1,e2],JD D' e3 (hS.mono (Rp.old D') A.d) ⟨.str _ _ _,vg D' d2,vg D' d1,vg D' d0,trivial⟩,ya D' A.o e4⟩))⟩)⟩⟩)⟩)⟩⟩)⟩⟩)⟩)⟩⟩)
theorem ri_T (A:jz (jb w b1 b2 b3) h R D o T ts z) (off:(ktP (jb w b1 b2 b3)).get D=none) (hr:∀ r∈rs,TOk h r) (hX:qg h X (rs.map fun r => .ref r.row)) (hl:1≤rs.length∧rs.length≤900) (hS:qg h S [.str "tally" st,c,.ref X]) (m0:ja ts z "INSPECT") (m1:jy ts (z+1) c) (m2:¬ja ts (z+1+opN c) "CONVERTING") (m3:ja ts (z+1+opN c) "TALLYING") (m4:qy ts (z+1+opN c+1) rs) (m5:¬ja ts (z+1+opN c+1+tsN rs) "REPLACING"):jr (jb w b1 b2 b3) 19 (.call (.ref 587) ⟨[.ref R,.ref L],[]⟩) h [D] (Yb D o (.ref S) (z+inN 1 c rs rr)):=by
 refine rdE A.o fun h1 h2 h3 h4 k1 k2 k3 k4 tz n0 s0 ep' e0=>?_
 subst e0
 refine je (hooks:=[va T ts,qY c T ts,jo T ts,rowsTH rs X T ts]) (hkc (vY A.t (jf A.d A.o)) (hkc (vX A.t (jf A.d A.o)) (hkc (jQ A.t (jf A.d A.o)) (hkc (rowsTH_ok hr hX hl (yV A.d A.o) A.t (jf A.d A.o)) hkn)))) (fuel:=10000) (tr:=fun b1=>tr_riT b1 b2 b3) (ok587 _) (A.shown off) fun n tk os bs hn=>?_
 exact jj (fun r m=>(vR r,yW r,QY m 0,dqS m 1 0,dqS m 1 1,vT m)) (fun r m=>(true,aAt m 0,some [.str "tally" (yR m 0 0),dqF m 1 1,dqF m 1 0],some (.ref X),some (c),some (D,some (jC (rdO h1 h2 h3 h4 k1 k2 k3 k4 T z tz n0 s0 ep') (z+1+opN c+1+tsN rs) 0)))) (ps:=[(true,jh "INSPECT"),(true,ja ts z "INSPECT"),yt,(true,jy ts (z+1) c),yt,(true,jh "CONVERTING"),(true,¬ja ts (z+1+opN c) "CONVERTING"),yt,(true,jh "TALLYING"),(true,ja ts (z+1+opN c) "TALLYING"),yt,(true,qy ts (z+1+opN c+1) rs),yt,(true,jh "REPLACING"),(true,¬ja ts (z+1+opN c+1+tsN rs) "REPLACING"),yt]) (by kernel_rfl) (by kernel_rfl) (fun _ kT=>⟨(by first | (with_reducible first | rfl | exact nrA | exact nrB | exact nrG | exact rvS) | (unfold jh;decide +kernel) | (unfold jc;decide +kernel) | (unfold jk;decide +kernel) | decide +kernel | rfl),⟨m0,(sk <| ⟨m1,(sk <| ⟨(by first | (with_reducible first | rfl | exact nrA | exact nrB | exact nrG | exact rvS) | (unfold jh;decide +kernel) | (unfold jc;decide +kernel) | (unfold jk;decide +kernel) | decide +kernel | rfl),⟨m2,(sk <| ⟨(by first | (with_reducible first | rfl | exact nrA | exact nrB | exact nrG | exact rvS) | (unfold jh;decide +kernel) | (unfold jc;decide +kernel) | (unfold jk;decide +kernel) | decide +kernel | rfl),⟨m3,(sk <| ⟨m4,(sk <| ⟨(by first | (with_reducible first | rfl | exact nrA | exact nrB | exact nrG | exact rvS) | (unfold jh;decide +kernel) | (unfold jc;decide +kernel) | (unfold jk;decide +kernel) | decide +kernel | rfl),⟨m5,(sk <| (kT fun r m n tk e h' D'=>by
  refine pr6 e fun e1 e2 e3 d0 d1 e4=>?_
  have e5:z+inN 1 c rs rr=z+1+opN c+1+tsN rs:=by simp only [inN];omega
  rw [←e5] at e4
  exact ⟨aAt m 0,by rw [vl e1,e2],JD D' e3 (hS.mono (Rp.old D') A.d) ⟨.str _ _ _,vg D' d1,vg D' d0,trivial⟩,ya D' A.o e4⟩))⟩⟩)⟩)⟩⟩)⟩⟩)⟩)⟩⟩)
theorem ri_R (A:jz (jb w b1 b2 b3) h R D o T ts z) (off:(ktP (jb w b1 b2 b3)).get D=none) (gr:∀ r∈rr,ROk h r) (gX:qg h Y (rr.map fun r => .ref r.row)) (gl:1≤rr.length∧rr.length≤900) (hS:qg h S [.str "replace" st,c,.ref Y]) (m0:ja ts z "INSPECT") (m1:jy ts (z+1) c) (m2:¬ja ts (z+1+opN c) "CONVERTING") (m3:¬ja ts (z+1+opN c) "TALLYING") (m4:ja ts (z+1+opN c) "REPLACING") (m5:qQ ts (z+1+opN c+1) rr):jr (jb w b1 b2 b3) 19 (.call (.ref 587) ⟨[.ref R,.ref L],[]⟩) h [D] (Yb D o (.ref S) (z+inN 2 c rs rr)):=by
 refine rdE A.o fun h1 h2 h3 h4 k1 k2 k3 k4 tz n0 s0 ep' e0=>?_
 subst e0
 refine je (hooks:=[va T ts,qY c T ts,jo T ts,rowsRH rr Y T ts]) (hkc (vY A.t (jf A.d A.o)) (hkc (vX A.t (jf A.d A.o)) (hkc (jQ A.t (jf A.d A.o)) (hkc (rowsRH_ok gr gX gl (yV A.d A.o) A.t (jf A.d A.o)) hkn)))) (fuel:=10000) (tr:=fun b1=>tr_riR b1 b2 b3) (ok587 _) (A.shown off) fun n tk os bs hn=>?_
 exact jj (fun r m=>(vR r,yW r,QY m 0,dqS m 1 0,dqS m 1 1,vT m)) (fun r m=>(true,aAt m 0,some [.str "replace" (yR m 0 0),dqF m 1 1,dqF m 1 0],some (.ref Y),some (c),some (D,some (jC (rdO h1 h2 h3 h4 k1 k2 k3 k4 T z tz n0 s0 ep') (z+1+opN c+1+rsN rr) 0)))) (ps:=[(true,jh "INSPECT"),(true,ja ts z "INSPECT"),yt,(true,jy ts (z+1) c),yt,(true,jh "CONVERTING"),(true,¬ja ts (z+1+opN c) "CONVERTING"),yt,(true,jh "TALLYING"),(true,¬ja ts (z+1+opN c) "TALLYING"),yt,(true,jh "REPLACING"),(true,ja ts (z+1+opN c) "REPLACING"),yt,(true,qQ ts (z+1+opN c+1) rr),yt]) (by kernel_rfl) (by kernel_rfl) (fun _ kT=>⟨(by first | (with_reducible first | rfl | exact nrA | exact nrB | exact nrG | exact rvS) | (unfold jh;decide +kernel) | (unfold jc;decide +kernel) | (unfold jk;decide +kernel) | decide +kernel | rfl),⟨m0,(sk <| ⟨m1,(sk <| ⟨(by first | (with_reducible first | rfl | exact nrA | exact nrB | exact nrG | exact rvS) | (unfold jh;decide +kernel) | (unfold jc;decide +kernel) | (unfold jk;decide +kernel) | decide +kernel | rfl),⟨m2,(sk <| ⟨(by first | (with_reducible first | rfl | exact nrA | exact nrB | exact nrG | exact rvS) | (unfold jh;decide +kernel) | (unfold jc;decide +kernel) | (unfold jk;decide +kernel) | decide +kernel | rfl),⟨m3,(sk <| ⟨(by first | (with_reducible first | rfl | exact nrA | exact nrB | exact nrG | exact rvS) | (unfold jh;decide +kernel) | (unfold jc;decide +kernel) | (unfold jk;decide +kernel) | decide +kernel | rfl),⟨m4,(sk <| ⟨m5,(sk <| (kT fun r m n tk e h' D'=>by
  refine pr6 e fun e1 e2 e3 d0 d1 e4=>?_
  have e5:z+inN 2 c rs rr=z+1+opN c+1+rsN rr:=by simp only [inN];omega
  rw [←e5] at e4
  exact ⟨aAt m 0,by rw [vl e1,e2],JD D' e3 (hS.mono (Rp.old D') A.d) ⟨.str _ _ _,vg D' d1,vg D' d0,trivial⟩,ya D' A.o e4⟩))⟩)⟩⟩)⟩⟩)⟩⟩)⟩)⟩⟩)
end
def int2H (id:String) (P:Int→Int→List Prop) (g:Int→Int→Nat→Value):Hook:=vi (.builtin id) 0
 (fun args _ hint=>oL2 args fun a b =>
  Jb a fun x _ =>
  Jb b fun y _ =>
  oL0 hint <|
  some {musts:=P x y,V:=g x y})
def iaddH:Hook:=int2H "int.__add__" (fun _ _=>[]) fun x y => .int (x+y)
def imulH:Hook:=int2H "int.__mul__" (fun x y=>[IntMulOk x y]) fun x y => .int (x * y)
def ipowH:Hook:=int2H "int.__pow__" (fun x y=>[2≤x,Builtin.Int.intBits x≤100,1≤y,y≤1000]) fun x y => .int (x ^ y.toNat)
def idivH:Hook:=int2H "int.__floordiv__" (fun x y=>[0 < y,y < 1000000]) fun x y => .int (x.fdiv y)
def imodH:Hook:=int2H "int.__mod__" (fun x y=>[0 < y]) fun x y => .int (x.fmod y)
def ieqH:Hook:=vi (.builtin "int.__eq__") 0
 (fun args _ hint=>oL2 args fun a b =>
  Jb a fun x _ =>
  Jb b fun y _ =>
  oL1 hint fun k =>
  match k with
   |0=>some {musts:=[x≠y],V:=fun _ => .bool false}
   |_=>some {musts:=[x=y],V:=fun _ => .bool true})
noncomputable def idmHSp (x:Int) (y:Int):vy:={us:=fun _=>{musts:=[0 < y,y < 1000000],res:=fun o => .ok (.ret (.ref o.n)),news:=[((.type "tuple",0),fun o=>o.n,fun o=>⟨.type "tuple",none,.seq ⟨[.int (x.fdiv y) o.n2,.int (x.fmod y) o.n3]⟩ 0,#[]⟩)]}}
def idmH:Hook:=yB 0 0
 (fun c m hint=>oCa (.builtin "divmod") c fun args =>
  oL2 args fun a b =>
  Jb a fun x _ =>
  Jb b fun y _ =>
  oL0 hint <|
  some (idmHSp x y))
section
variable {w:World} {lc:Nat} {hs:List Hook} {h₀:Heap} {ws:List Addr}
theorem Vn {id:String} {P:Int→Int→List Prop} {g:Int→Int→Nat→Value}
  (H:∀ (x y:Int) (t u:Tok),(∀ p∈P x y,p)→∀ (A:Around) (R:Result→Shared→Prop) (s:Shared),(∀ v tk,(∃ k,v=g x y k)→R (.ok (.ret v)) {s with toks:=tk})→codeAny (model PW w) A (.call (.builtin id) ⟨[.int x t,.int y u],[]⟩) R s) :
  (int2H id P g).Ok (cfg w lc hs) PW w h₀ ws:=by
 refine jN fun args m hint=>?_
 refine iL2 fun _ _ b1=>Jg fun x t b2=>Jg fun y u b3=>iL0 fun b4=>?_
 subst b1 b2 b3 b4
 refine iE ?_
 intro h he hm _ hk _ A g d tk os R _ k
 refine H x y t u hm A R _ fun v tk' hv=>?_
 obtain ⟨kk,rfl⟩:=hv
 exact k _ h tk' (Old.refl _ _) ⟨kk,rfl⟩
theorem YI:iaddH.Ok (cfg w lc hs) PW w h₀ ws:=Vn fun x y t u _ A R s k =>
 vb F.slot_int_add (typeIs_int _ _ _) F.entry_int_add (F.args_int_add_2 _ _) (AutoIntG4.int___add___int_int_0 x t y u).meets (k _ _ ⟨_,rfl⟩)
theorem YH:imulH.Ok (cfg w lc hs) PW w h₀ ws:=Vn fun x y t u hm A R s k =>
 vb F.slot_int_mul (typeIs_int _ _ _) F.entry_int_mul (F.args_int_mul_2 _ _) (AutoIntG1.int___mul___int_int_0 x t y u (hm _ (.head _))).meets (k _ _ ⟨_,rfl⟩)
theorem YG:ipowH.Ok (cfg w lc hs) PW w h₀ ws:=Vn fun x y t u hm A R s k=>by
 have h1:2≤x:=hm _ (.head _)
 have h2:Builtin.Int.intBits x≤100:=vV hm 1
 have h3:1≤y:=vV hm 2
 have h4:y≤1000:=vV hm 3
 refine vb F.slot_int_pow (typeIs_int _ _ _) F.entry_int_pow (F.args_int_pow_2 _ _) (AutoIntG2.int___pow___int_int_4 x t y u (by omega) (by simp;omega) (by simp;omega) (by simp;omega) ?_).meets (k _ _ ⟨_,rfl⟩)
 have h5:((Builtin.Int.intBits x:Nat):Int) * y≤100 * 1000:=Int.mul_le_mul (by omega) h4 (by omega) (by omega)
 simp only [Builtin.Int.intTooBig,decide_eq_true_eq]
 have:((bitsLine:Nat):Int)=134217728:=by decide
 omega
theorem idivH_ok:idivH.Ok (cfg w lc hs) PW w h₀ ws:=Vn fun x y t u hm A R s k=>by
 have h1:0 < y:=hm _ (.head _)
 have h2:y < 1000000:=vV hm 1
 refine vb F.slot_int_floordiv (typeIs_int _ _ _) F.entry_int_floordiv (F.args_int_floordiv_2 _ _) (AutoIntG4.int___floordiv___int_int_1 x t y u (by simp;omega) ?_).meets (k _ _ ⟨_,rfl⟩)
 rw [PyProof.noPylong_small (by omega)]
 simp
theorem imodH_ok:imodH.Ok (cfg w lc hs) PW w h₀ ws:=Vn fun x y t u hm A R s k=>by
 have h1:0 < y:=hm _ (.head _)
 exact vb F.slot_int_mod (typeIs_int _ _ _) F.entry_int_mod (F.args_int_mod_2 _ _) (AutoIntG6.int___mod___int_int_1 x t y u (by simp;omega)).meets (k _ _ ⟨_,rfl⟩)
theorem ieqH_ok:ieqH.Ok (cfg w lc hs) PW w h₀ ws:=by
 refine jN fun args m hint=>?_
 refine iL2 fun _ _ b1=>Jg fun x t b2=>Jg fun y u b3=>iL1 fun _ b4=>?_
 subst b1 b2 b3 b4
 intro sp hs h he hm _ hk _ A g d tk os R _ k
 have fin:∀ b:Bool,(x == y)=b→(∀ tk',R (.ok (.ret (.bool b))) ⟨h,g,d,tk',os⟩)→codeAny (model PW w) A (.call (.builtin "int.__eq__") ⟨[.int x t,.int y u],[]⟩) R ⟨h,g,d,tk,os⟩:=fun b hb kk=>by
  refine vb F.slot_int_eq (typeIs_int _ _ _) F.entry_int_eq (F.args_int_eq_2 _ _) (AutoIntG7.int___eq___int_int_0 x t y u).meets ?_
  show R (.ok (.ret (.bool (x == y)))) _
  rw [hb]
  exact kk tk
 split at hs
 ·cases hs
  have hn:x≠y:=hm _ (.head _)
  exact fin false (by simpa using hn) fun tk'=>k _ h tk' (Old.refl _ _) ⟨0,rfl⟩
 ·cases hs
  have hn:x=y:=hm _ (.head _)
  exact fin true (by simpa using hn) fun tk'=>k _ h tk' (Old.refl _ _) ⟨0,rfl⟩
theorem idmH_ok:idmH.Ok (cfg w lc hs) PW w h₀ ws:=by
 refine vn fun c m hint=>?_
 refine iCa fun _ b1=>iL2 fun _ _ b2=>Jg fun x t b3=>Jg fun y u b4=>iL0 fun b5=>?_
 subst b1 b2 b3 b4 b5
 refine iE ?_
 intro h hm hi hst hk hdq hoff hold A g d tk os R hr k
 have z0:=hm 0 (Nat.le_refl _)
 have h1:0 < y:=z0.2 _ (.head _)
 have h2:y < 1000000:=vV z0.2 1
 clear z0 hm hi
 refine YK kind_divmodT plain_divmodT entry_divmodT (args_divmod2 _ _) ?_
 unfold Builtin.«divmod»
 refine wpAny_bind (m:=someArgs "divmod" 2 2 _) (wpAny_pure ?_)
 show wpAny _ _ (do ret (←Builtin.Builtins.binaryNamed "divmod()" "divmod" (.int x t) (.int y u))) _ _ _
 refine wpAny_bind (binaryNamed_same (nm := "divmod") (T := "int") (id := "int.__divmod__") (typeIs_int _ x t) (typeIs_int _ y u) fills_int_divmod slot_int_divmod
  (call_int_divmod (by omega) (wpAny_pure ⟨_,rfl,?_⟩) (Or.inl (PyProof.noPylong_small (by omega)))))
 refine k _ (h.push _) _ ⟨trivial,fun b o e _=>Heap.get?_push_of_some _ e⟩ ?_
 refine ⟨0,{(default:Ora) with n:=h.objs.size,n2:=tk,n3:=tk+1},Nat.le_refl _,rfl,trivial,trivial,fun p hp=>?_,fun _ hp=>(nomatch hp)⟩
 cases hp with
 |head=>exact ⟨Heap.get?_push_size _ rfl,rfl⟩
 |tail _ hp=>cases hp
end
structure Pn where
 a:Int
 b:Int
 c:Int
noncomputable def Pn.re (s:Pn):Pn:=match decide (s.a=0) with
 |true=>⟨((2 * s.c+3) * 9973 ^ (21+(s.b+1)).toNat).fdiv 78125,s.b+1,s.c⟩
 |false=>s
noncomputable def dg (s:Pn) (n:Int):Int:=s.re.a.fmod n
noncomputable def nx (s:Pn) (n:Int):Pn:=⟨s.re.a.fdiv n,s.re.b,s.c⟩
def qS (k:Int) (s:Pn):Prop:=0≤s.b∧s.b≤k∧0≤s.c∧s.c < 1000000
theorem qS.nx {k:Int} {s:Pn} (h:qS k s) (n:Int):qS (k+1) (nx s n):=by
 obtain ⟨h1,h2,h3,h4⟩:=h
 unfold qS Mine.nx Pn.re
 split <;> dsimp only <;> omega
theorem qS.le {k j:Int} {s:Pn} (h:qS k s) (q:k≤j):qS j s:=⟨h.1,by have:=h.2.1;omega,h.2.2⟩
theorem Vp {s:Pn} {n:Int} (h:0 < n):0≤dg s n∧dg s n < n:=⟨Int.fmod_nonneg_of_pos _ h,Int.fmod_lt_of_pos _ h⟩
def yo (s:Pn) (t1 t2 t3 ep:Nat):Obj:=lsO [.int s.a t1,.int s.b t2,.int s.c t3] ep
def pen? (o:Obj):Option Pn:=oP (QZ o) fun l _=>oL3 l fun x y z=>Jb x fun a _=>Jb y fun b _=>Jb z fun c _=>some ⟨a,b,c⟩
theorem pen_eq {o:Obj} {s:Pn} (h:pen? o=some s):∃ t1 t2 t3 ep,o=yo s t1 t2 t3 ep :=
 iP (P:=fun s=>∃ t1 t2 t3 ep,o=yo s t1 t2 t3 ep) (fun l ep q=>iL3 fun x y z e=>Jg fun a t1 e1=>Jg fun b t2 e2=>Jg fun c t3 e3=>iE ⟨t1,t2,t3,ep,by rw [yq q,e,e1,e2,e3];rfl⟩) _ h
def penSt (y:Ora) (s:Pn):Obj:=yo s y.n y.n2 y.n3 y.p.line
structure PnS where
 musts:List Prop:=[]
 res:Ora→Result
 may:Ora→Prop:=fun _=>True
 news:List ((Value×Nat)×(Ora→Addr)×(Ora→Obj)):=[]
 dq:Ora→List (Value×Value):=fun _=>[]
def penHookSp (σ:Nat→Mine.Pn) (P:PySem.Addr) (jP:Nat) (k:Nat) (j:Nat) (e:Mine.En) (s:Mine.Pn) (x:Mine.PnS):vy:={idx:=[jP],us:=fun _=>{eqs:=[(P,e.a)],musts:=(s.a=(σ k).a)::(s.b=(σ k).b)::(s.c=(σ k).c)::qS 200 (σ k)::x.musts,res:=x.res,may:=x.may,objs:=fun y=>[penSt y (σ j)],news:=x.news,dq:=x.dq}}
def Yv (f:Addr) (lv cnt:Nat) (σ:Nat→Pn) (spec:List Value→List En→Nat→Nat→List Nat→Option PnS):Hook:=yB 0 lv
 (fun c m hint=>oCa (.ref f) c fun args =>
  oC1 args fun self rest =>
  oRf self fun P =>
  oC3 hint fun jP k j hint =>
  oM m jP (pen?) fun e s =>
  oS (spec rest m k j hint) fun x =>
  some (penHookSp σ P jP k j e s x))
def drawH (σ:Nat→Pn):Hook:=Yv 799 2 1 σ
 (fun rest m k j hint=>oL1 rest fun v =>
  Jb v fun n _ =>
  oL0 hint <|
  some {musts:=[0 < n,n < 100,σ j=nx (σ k) n],res:=fun y => .ok (.ret (.int (dg (σ k) n) y.p.col))})
def lenTH:Hook:=vi (.builtin "len") 0
 (fun args m hint=>oL1 args fun a =>
  oRf a fun L =>
  oL1 hint fun j =>
  oM m j (JC "tuple") fun e vs =>
  some {eqs:=[(L,e.a)],musts:=[vs.length≤100000],V := .int vs.length})
def getTH (v:Value):Hook:=vi (.builtin "tuple.__getitem__") 0
 (fun args m hint=>oL2 args fun a b =>
  oRf a fun L =>
  Jb b fun k _ =>
  oL1 hint fun j =>
  oM m j (JC "tuple") fun e vs =>
  some {eqs:=[(L,e.a)],musts:=[vs.length≤100000,0≤k,vs[k.toNat]?=some v],V:=fun _=>v})
def Yw (m:List En) (j:Nat):Option (Addr×Int×Int×Int):=match m.reverse[j]? with
 |some e=>match pen? e.o with
  |some s=>some (e.a,s.a,s.b,s.c)
  |none=>none
 |none=>none
theorem Vi {C:Cfg} {h₀ h':Heap} {ws:List Addr} {m:List En} {n:Nat} {P:Addr} {s:Pn} {j:Nat} (D:Rp C h₀ ws m n h') (e:Yw m j=some (P,s.a,s.b,s.c)):∃ t1 t2 t3 ep,h'.get? P=some (yo s t1 t2 t3 ep):=by
 unfold Yw at e
 split at e
 ·rename_i x hx
  split at e
  ·rename_i s' q
   simp only [Option.some.injEq,Prod.mk.injEq] at e
   obtain ⟨rfl,e1,e2,e3⟩:=e
   obtain ⟨a,b,c⟩:=s
   obtain ⟨a',b',c'⟩:=s'
   dsimp only at e1 e2 e3
   subst e1 e2 e3
   obtain ⟨t1,t2,t3,ep,q⟩:=pen_eq q
   exact ⟨t1,t2,t3,ep,q ▸ D.known x (List.mem_reverse.mp (List.mem_of_getElem? hx))⟩
  ·cases e
 ·cases e
def Yn (P:Addr) (s:Pn) (Q:Value→Heap→Prop):Result→Heap→Prop:=fun r h'=>∃ v t1 t2 t3 ep,r = .ok (.ret v)∧h'.get? P=some (yo s t1 t2 t3 ep)∧Q v h'
def tr_dr0 (b1 b2 b3:Bool):Tr:=T [1,1,1,1,0,1,2,2,2,0,2,2,1,1,1,1,2,2,2,0,2,2,2,0,1,2,2,0,2,2,2,2,1,2,2,2,0,2,2,3,0,2,0,1,2,2,2,0] (T [2,2,2,0,4,0,3,0,5,0,1,2,2,0,2,2,2,2,0,0,1,2,2,2,0,2,2,1,6,0,1,1,1,0,1,1,1,0,1,1,1,2,1,1,1,0,1,1] (T [1,2,1,1,1,0,1,1,1,2,1,1,1,5,6,6,0,6,6,6,6,5,5,5] .nil))
def tr_dr1 (b1 b2 b3:Bool):Tr:=T [1,1,1,1,0,1,2,2,2,0,2,2,1,1,0,0,0,1,2,2,2,0,2,2,1,6,0,1,1,1,0,1,1,1,0,1,1,1,2,1,1,1,0,1,1,1,2,1] (T [1,1,0,1,1,1,2,1,1,1,5,6,6,0,6,6,6,6,5,5,5] .nil)
def tr_pk (b1 b2 b3:Bool):Tr:=T [1,1,1,1,0,1,0,1,0,0,1,2,1,2,0,1,3,1,0,1,3,3,3,3,1,2] .nil
theorem ok799 (w:World):vH (ktP w) 799=true:=by kernel_rfl
theorem ok806 (w:World):vH (ktP w) 806=true:=by kernel_rfl
theorem pen_ne_tup {s:Pn} {t1 t2 t3 ep:Nat} {d:Option Addr} {vs ep2 sl}:yo s t1 t2 t3 ep≠vv d vs ep2 sl:=fun e=>by simp [yo,lsO,vv] at e
theorem bare_int {x:Value} {i:Int} (h:bare x = .int i 0):∃ t,x = .int i t:=by
 cases x <;> simp [bare] at h
 subst h
 exact ⟨_,rfl⟩
noncomputable def retX:Result→Option Value
 |.ok f=>match f with
  |.ret v=>some v
  |_=>none
 |_=>none
theorem retX_eq {r:Result} {v:Value} (h:retX r=some v):r = .ok (.ret v):=by
 unfold retX at h
 split at h
 ·split at h
  ·rw [Option.some.inj h]
  ·cases h
 ·cases h
theorem endR_int {r:Result} {i:Int} (h:vd r = .ret (.int i 0)):∃ t,r = .ok (.ret (.int i t)):=by
 unfold vd at h
 split at h
 ·split at h
  ·simp only [KC.ret.injEq] at h
   obtain ⟨t,rfl⟩:=bare_int h
   exact ⟨t,rfl⟩
  ·cases h
 ·cases h
section
variable {w:World} {b1 b2 b3:Bool} {lc:Nat} {hs:List Mine.Hook} {h₀:Heap} {ws:List Addr} {h:Heap} {P S t1 t2 t3 ep tm ep2:Nat} {s:Pn} {v:Int} {σ:Nat→Pn} {vs:List Value} {d2:Option Addr} {sl2:Array (Option Value)} {x:Value}
theorem shown1 {w:World} {h:Heap} {P:Addr} {o:Obj} {l:List En} (hst:St w h) (g:h.get? P=some o) (off:(ktP w).get P=none) (H:∀ e∈l,h.get? e.a=some e.o∧e.w=false∧e.dq=[]∧e.o≠o):jl w [P] (⟨P,o,true,[]⟩::l) h:=by
 refine ⟨hst,fun e he=>?_,fun e he p hp=>?_,fun i j x y hx hy hw hij=>?_,fun e he hw=>?_,fun e he hw=>?_⟩
 ·cases he with
  |head=>exact g
  |tail _ he=>exact (H e he).1
 ·cases he with
  |head=>cases hp
  |tail _ he=>rw [(H e he).2.2.1] at hp;cases hp
 ·match i,j,hx,hy with
  |0,0,_,_=>exact absurd rfl hij
  |0,j+1,hx,hy =>
   cases hx
   have q:=H y (List.mem_of_getElem? hy)
   intro e
   have e:P=y.a:=e
   rw [←e,g] at q
   exact q.2.2.2 (Option.some.inj q.1).symm
  |i+1,_,hx,_=>rw [(H x (List.mem_of_getElem? hx)).2.1] at hw;cases hw
 ·cases he with
  |head=>exact off
  |tail _ he=>rw [(H e he).2.1] at hw;cases hw
 ·cases he with
  |head=>exact .head _
  |tail _ he=>rw [(H e he).2.1] at hw;cases hw
theorem Vh {w:World} (hst:St w h) (g:h.get? P=some (yo s t1 t2 t3 ep)) (off:(ktP w).get P=none):jl w [P] [⟨P,yo s t1 t2 t3 ep,true,[]⟩] h :=
 shown1 hst g off fun _ q=>(nomatch q)
theorem penShown2 {w:World} (hst:St w h) (g:h.get? P=some (yo s t1 t2 t3 ep)) (off:(ktP w).get P=none) (gS:h.get? S=some (vv d2 vs ep2 sl2)):jl w [P] [⟨P,yo s t1 t2 t3 ep,true,[]⟩,⟨S,vv d2 vs ep2 sl2,false,[]⟩] h :=
 shown1 hst g off fun e he=>by
  cases he with
  |head=>exact ⟨gS,rfl,rfl,fun q=>pen_ne_tup q.symm⟩
  |tail _ he=>cases he
theorem drEnd {C:Cfg} {r:Result} {m:List En} {n:Nat} {h':Heap} {a b c i:Int} (e:(vd r,Yw m 0)=(KC.ret (.int i 0),some (P,a,b,c))) (D':Rp C h₀ ws m n h')
  (q:i=dg s v∧a=(nx s v).a∧b=(nx s v).b∧c=(nx s v).c):Yn P (nx s v) (fun x _=>∃ t,x = .int (dg s v) t) r h':=by
 obtain ⟨rfl,rfl,rfl,rfl⟩:=q
 simp only [Prod.mk.injEq] at e
 obtain ⟨t,rfl⟩:=endR_int e.1
 obtain ⟨t1,t2,t3,ep,g⟩:=Vi D' e.2
 exact ⟨_,t1,t2,t3,ep,rfl,g,t,rfl⟩
theorem dr0 (hst:St (jb w b1 b2 b3) h) (g:h.get? P=some (yo s t1 t2 t3 ep)) (off:(ktP (jb w b1 b2 b3)).get P=none) (ok:qS 200 s) (hv:v < 100) (m0:s.a=0) (m1:0 < v):jr (jb w b1 b2 b3) 2 (.call (.ref 799) ⟨[.ref P,.int v tm],[]⟩) h [P] (Yn P (nx s v) fun x _=>∃ t,x = .int (dg s v) t):=by
 refine je (hooks:=[ieqH,iaddH,imulH,ipowH,idivH,idmH]) (hkc ieqH_ok (hkc YI (hkc YH (hkc YG (hkc idivH_ok (hkc idmH_ok hkn)))))) (fuel:=10000) (tr:=fun b1=>tr_dr0 b1 b2 b3) (ok799 _) (Vh hst g off) fun n tk os bs hn=>?_
 exact jj (fun r m=>(vd r,Yw m 0)) (fun r m=>(KC.ret (.int ((((2 * s.c+3) * 9973 ^ (21+(s.b+1)).toNat).fdiv 78125).fmod v) 0),some (P,(((2 * s.c+3) * 9973 ^ (21+(s.b+1)).toNat).fdiv 78125).fdiv v,s.b+1,s.c))) (ps:=[(true,s.a=0),(true,IntMulOk 2 s.c),(true,(2:Int)≤9973),(true,Builtin.Int.intBits 9973≤100),(true,1≤21+(s.b+1)),(true,21+(s.b+1)≤1000),(true,IntMulOk (2 * s.c+3) (9973 ^ (21+(s.b+1)).toNat)),(true,(0:Int) < 78125),(true,(78125:Int) < 1000000),(true,0 < v),(true,v < 1000000),yt]) (by kernel_rfl) (by kernel_rfl) (fun _ c=>⟨m0,⟨(.of_left (by decide)),⟨(by decide),⟨(by decide),⟨(by have:=ok;unfold qS at this;omega),⟨(by have:=ok;unfold qS at this;omega),⟨(.of_left (PySem.intBits_le_64 (by have:=ok.2.2;omega) (by have:=ok.2.2;omega))),⟨(by decide),⟨(by decide),⟨m1,⟨(by omega),fun _=>c fun r m n tk e h' D'=>drEnd e D' (by simp only [dg,nx,Pn.re,m0,decide_true,and_self])⟩⟩⟩⟩⟩⟩⟩⟩⟩⟩⟩)
theorem dr1 (hst:St (jb w b1 b2 b3) h) (g:h.get? P=some (yo s t1 t2 t3 ep)) (off:(ktP (jb w b1 b2 b3)).get P=none) (ok:qS 200 s) (hv:v < 100) (m0:s.a≠0) (m1:0 < v):jr (jb w b1 b2 b3) 2 (.call (.ref 799) ⟨[.ref P,.int v tm],[]⟩) h [P] (Yn P (nx s v) fun x _=>∃ t,x = .int (dg s v) t):=by
 refine je (hooks:=[ieqH,iaddH,imulH,ipowH,idivH,idmH]) (hkc ieqH_ok (hkc YI (hkc YH (hkc YG (hkc idivH_ok (hkc idmH_ok hkn)))))) (fuel:=10000) (tr:=fun b1=>tr_dr1 b1 b2 b3) (ok799 _) (Vh hst g off) fun n tk os bs hn=>?_
 exact jj (fun r m=>(vd r,Yw m 0)) (fun r m=>(KC.ret (.int (s.a.fmod v) 0),some (P,s.a.fdiv v,s.b,s.c))) (ps:=[(true,s.a≠0),(true,0 < v),(true,v < 1000000),yt]) (by kernel_rfl) (by kernel_rfl) (fun _ c=>⟨m0,⟨m1,⟨(by omega),fun _=>c fun r m n tk e h' D'=>drEnd e D' (by simp only [dg,nx,Pn.re,decide_eq_false m0,and_self])⟩⟩⟩)
theorem draw_says (hst:St (jb w b1 b2 b3) h) (g:h.get? P=some (yo s t1 t2 t3 ep)) (off:(ktP (jb w b1 b2 b3)).get P=none) (ok:qS 200 s) (h0:0 < v) (hv:v < 100):jr (jb w b1 b2 b3) 2 (.call (.ref 799) ⟨[.ref P,.int v tm],[]⟩) h [P] (Yn P (nx s v) fun x _=>∃ t,x = .int (dg s v) t):=by
 by_cases q:s.a=0
 ·exact dr0 hst g off ok hv q h0
 ·exact dr1 hst g off ok hv q h0
def PenR (P:Addr) (x:PnS) (s:Pn):Result→Heap→Prop:=fun r h'=>∃ y,r=x.res y∧x.may y∧h'.get? P=some (penSt y s)∧(∀ p∈x.news,h'.get? (p.2.1 y)=some (p.2.2 y)∧VS (p.2.2 y)=p.1)∧(∀ p∈x.dq y,Dq h' p.1 p.2)
def PG (w:World) (h₀:Heap) (ws:List Addr) (σ:Nat→Pn) (f:Addr) (lv:Nat) (rest:List Value) (m:List En) (k j:Nat) (x:PnS):Prop:=∀ h P t1 t2 t3 ep,(∀ p∈x.musts,p)→St w h→(∀ e∈m,h.get? e.a=some e.o)→(ktP w).get P=none→h.get? P=some (yo (σ k) t1 t2 t3 ep)→qS 200 (σ k)→Old ws h₀ h →
   jr w lv (.call (.ref f) ⟨.ref P::rest,[]⟩) h [P] (PenR P x (σ j))
theorem QN {w:World} {f:Addr} {lv cnt:Nat} {spec} (H:∀ rest m k j hint,Inv (spec rest m k j hint) (PG w h₀ ws σ f lv rest m k j)):(Yv f lv cnt σ spec).Ok (cfg w lc hs) PW w h₀ ws:=by
 refine vn fun c m hint=>?_
 refine iCa fun args b1=>iC1 fun self rest b2=>iRf fun P b3=>iC3 fun jP k j hint b4=>iM fun e s qe qs=>iS fun x qx=>?_
 subst b1 b2 b3 b4
 refine iE ?_
 intro h hm hi hst hk hdq hoff hold
 have z0:=hm 0 (Nat.le_refl _)
 have e1:P=e.a:=z0.1 (P,e.a) (.head _)
 have b1:=z0.2 _ (.head _)
 have b2:=z0.2 _ (.tail _ (.head _))
 have b3:=z0.2 _ (.tail _ (.tail _ (.head _)))
 have b4:=z0.2 _ (.tail _ (.tail _ (.tail _ (.head _))))
 have hw:=Jv hi qe
 clear hm hi
 subst e1
 have es:s=σ k:=by
  obtain ⟨sa,sb,sc⟩:=s
  dsimp only at b1 b2 b3
  rw [b1,b2,b3]
 subst es
 obtain ⟨t1,t2,t3,ep,qo⟩:=pen_eq qs
 have me:=List.mem_of_getElem? qe
 have X:=H rest m k j hint x qx h e.a t1 t2 t3 ep (fun p hp=>z0.2 p (.tail _ (.tail _ (.tail _ (.tail _ hp))))) hst hk (hoff e me hw) (qo ▸ hk e me) b4 hold
 refine jr.on (adC qe adN) X fun r h' _ p=>?_
 obtain ⟨y,p1,p2,p3,p4,p5⟩:=p
 exact ⟨0,y,Nat.le_refl _,p1,p2,⟨⟨e,qe,p3,by rw [qo];rfl⟩,trivial⟩,p4,p5⟩
theorem drawH_ok:(drawH σ).Ok (cfg (jb w b1 b2 b3) lc hs) PW (jb w b1 b2 b3) h₀ ws:=by
 refine QN fun rest m k j hint=>?_
 refine iL1 fun _ b1=>Jg fun _ _ b2=>iL0 fun b3=>?_
 subst b1 b2 b3
 refine iE ?_
 intro h P t1 t2 t3 ep hm hst hk off g ok hold
 have e:σ j=nx (σ k) _:=vV hm 2
 refine (draw_says hst g off ok (hm _ (.head _)) (hm _ (.tail _ (.head _)))).mono fun r h' _ p=>?_
 obtain ⟨x,u1,u2,u3,up,rfl,g',t,rfl⟩:=p
 exact ⟨{(default:Ora) with n:=u1,n2:=u2,n3:=u3,p:={(default:Pos) with line:=up,col:=t}},rfl,trivial,by rw [e];exact g',fun _ q=>(nomatch q),fun _ q=>(nomatch q)⟩
theorem lenTH_ok {w:World}:lenTH.Ok (cfg w lc hs) PW w h₀ ws:=by
 refine jN fun args m hint=>?_
 refine iL1 fun _ b1=>iRf fun L b2=>iL1 fun j b3=>iM fun e vs qe qv=>?_
 subst b1 b2 b3
 refine iE ?_
 intro h he hm _ hk _ A g d tk os R _ k
 have hL:L=e.a:=he (L,e.a) (.head _)
 have hlen:vs.length≤100000:=hm _ (.head _)
 clear he hm
 obtain ⟨dd,ep,sl,ho⟩:=yC qv
 have ht:IsTup h L ⟨vs⟩:=⟨e.o,hL ▸ hk e (List.mem_of_getElem? qe),by rw [ho],ep,by rw [ho]⟩
 refine YK kind_len plain_len entry_len (args_len1 _) (len_entry_tuple (s:=⟨h,g,d,tk,os⟩) ht (by show ((vs.length:Nat):Int) < 2 ^ 63;omega) ?_)
 exact k _ h _ (Old.refl _ _) ⟨_,rfl⟩
theorem getTH_ok {w:World}:(getTH x).Ok (cfg w lc hs) PW w h₀ ws:=by
 refine jN fun args m hint=>?_
 refine iL2 fun _ _ b1=>iRf fun L b2=>Jg fun i t b3=>iL1 fun j b4=>iM fun e vs qe qv=>?_
 subst b1 b2 b3 b4
 refine iE ?_
 intro h he hm _ hk _ A g d tk os R _ k
 have hL:L=e.a:=he (L,e.a) (.head _)
 have h1:vs.length≤100000:=hm _ (.head _)
 have h2:0≤i:=vV hm 1
 have h3:vs[i.toNat]?=some x:=vV hm 2
 clear he hm
 obtain ⟨dd,ep,sl,ho⟩:=yC qv
 have gL:=hL ▸ hk e (List.mem_of_getElem? qe)
 rw [ho] at gL
 have hlt:=(List.getElem?_eq_some_iff.mp h3).1
 have ht:IsTup h L ⟨vs⟩:=⟨_,gL,rfl,ep,rfl⟩
 refine Jj slot_tuple_getitem (T := "tuple") (s:=⟨h,g,d,tk,os⟩) ⟨_,gL,rfl⟩ entry_tuple_getitem (args_tuple_getitem _ _) ?_
 show wpAny _ _ (Builtin.Tuple.tupleItemsOf (.ref L) >>= _) _ _ _
 refine wpAny_bind (tupleItemsOf_ (s:=⟨h,g,d,tk,os⟩) ht ?_)
 refine wpAny_bind (wpAny_typeOf (typeIs_int _ i t) ?_)
 rw [if_neg (by decide)]
 refine wpAny_bind (wpAny_specialOf (T := "int") (typeIs_int _ i t) int_index ?_)
 rw [if_neg (by simp)]
 refine wpAny_bind (wpAny_of_eq (a:=i) rfl ?_)
 rw [if_neg (by simp only [Bool.or_eq_true,decide_eq_true_eq];omega)]
 have hj:seqIndex? i (⟨vs⟩:Array Value).size=some i.toNat:=by
  unfold seqIndex?
  rw [if_neg (Int.not_lt.mpr h2)]
  have e1:decide (0≤i)=true:=decide_eq_true h2
  have e2:decide (i < (((⟨vs⟩:Array Value).size:Nat):Int))=true:=decide_eq_true (by show i < ((vs.length:Nat):Int);omega)
  simp only [e1,e2,Bool.and_self,if_true]
 have hx:(⟨vs⟩:Array Value)[i.toNat]?=some x:=by rw [List.getElem?_toArray];exact h3
 rw [hj,Option.bind_some,hx]
 exact wpAny_pure ⟨_,rfl,k _ h tk (Old.refl _ _) ⟨0,rfl⟩⟩
theorem pkEnd {C:Cfg} {r:Result} {m:List En} {n:Nat} {h':Heap} (e:(retX r,Yw m 1)=(some x,some (P,(σ 1).a,(σ 1).b,(σ 1).c))) (D':Rp C h₀ ws m n h'):Yn P (σ 1) (fun v _=>v=x) r h':=by
 simp only [Prod.mk.injEq] at e
 obtain ⟨t1,t2,t3,ep,g⟩:=Vi D' e.2
 exact ⟨_,t1,t2,t3,ep,retX_eq e.1,g,rfl⟩
theorem pick0 (hst:St (jb w b1 b2 b3) h) (g:h.get? P=some (yo s t1 t2 t3 ep)) (off:(ktP (jb w b1 b2 b3)).get P=none) (ok:qS 200 s) (gS:h.get? S=some (vv d2 vs ep2 sl2)) (hs:σ 0=s) (hl:vs.length < 100) (h0:0 < (vs.length:Int)) (m0:σ 1=nx (σ 0) (vs.length:Int)) (m1:vs[(dg (σ 0) (vs.length:Int)).toNat]?=some x):jr (jb w b1 b2 b3) 3 (.call (.ref 806) ⟨[.ref P,.ref S],[]⟩) h [P] (Yn P (σ 1) fun v _=>v=x):=by
 refine je (hooks:=[drawH σ,lenTH,getTH x]) (hkc drawH_ok (hkc lenTH_ok (hkc getTH_ok hkn))) (fuel:=10000) (tr:=fun b1=>tr_pk b1 b2 b3) (ok806 _) (penShown2 hst g off gS) fun n tk os bs hn=>?_
 exact jj (fun r m=>(retX r,Yw m 1)) (fun r m=>(some x,some (P,(σ 1).a,(σ 1).b,(σ 1).c))) (ps:=[(true,vs.length≤100000),(true,s.a=(σ 0).a),(true,s.b=(σ 0).b),(true,s.c=(σ 0).c),(true,qS 200 (σ 0)),(true,0 < (vs.length:Int)),(true,(vs.length:Int) < 100),(true,σ 1=nx (σ 0) (vs.length:Int)),yt,(true,vs.length≤100000),(true,0≤dg (σ 0) (vs.length:Int)),(true,vs[(dg (σ 0) (vs.length:Int)).toNat]?=some x)]) (by kernel_rfl) (by kernel_rfl) (fun _ c=>⟨(by omega),⟨(by rw [hs]),⟨(by rw [hs]),⟨(by rw [hs]),⟨(hs ▸ ok),⟨h0,⟨(by omega),⟨m0,fun _=>⟨(by omega),⟨(Vp h0).1,⟨m1,c fun r m n tk e h' D'=>pkEnd e D'⟩⟩⟩⟩⟩⟩⟩⟩⟩⟩⟩)
end
noncomputable def yE (l:List Value):Obj:=⟨.type "tuple",none,.seq ⟨l⟩ 0,#[]⟩
noncomputable def isSrt (two:Bool) (v:Value):Bool:=match v with
 |.ref a=>Nat.beq a 776 || Nat.beq a 784 || (!two && (Nat.beq a 778 || Nat.beq a 780))
 |_=>false
def kdB (f:Bool) (v:Value):Bool:=match v with
 |.str s t=>(ym s "ALL" || ym s "LEADING" || (f && ym s "FIRST"))
 |_=>false
noncomputable def kdsB (f:Bool):Nat→List Value→Bool
 |_,[]=>true
 |0,_::l=>l.all (kdB f)
 |i+1,v::l=>kdB f v && kdsB f i l
def KdN (f:Bool) (s:Str):Prop:=s = "ALL"∨s = "LEADING"∨(f=true∧s = "FIRST")
def Jp (two:Bool) (v:Value) (s:Str):Prop:=(match two with | true=>vc v | false=>vG v)∧s=opT v
def pickX (b:Bool) (p:Prop):PnS:={musts:=[p],res:=fun y => .ok (.ret (.ref y.p.col)),may:=fun y=>Jp b y.v y.s,news:=[((.type "tuple",0),fun y=>y.p.col,fun y=>yE [y.v,.str y.s y.p.endLine])]}
def pickSp (σ:Nat→Pn) (n k j:Nat) (vs:List Value) (hint:List Nat):Option PnS:=oL2 hint fun md i =>
 oQ md
  (oS vs[i]? fun v=>some {musts:=[dg (σ k) n=i,σ j=nx (σ k) n],res:=fun _ => .ok (.ret v)})
  (oT (vs.all (isSrt false)) <| some (pickX false (σ j=nx (σ k) n)))
  (oT (vs.all (isSrt true)) <| some (pickX true (σ j=nx (σ k) n)))
  (oT (kdsB (Nat.beq n 4) i vs) <| some {musts:=[dg (σ k) n≠i,σ j=nx (σ k) n],res:=fun y => .ok (.ret (.str y.s y.p.col)),may:=fun y=>KdN (Nat.beq n 4) y.s})
def pickH (σ:Nat→Pn):Hook:=Yv 806 3 1 σ
 (fun rest m k j hint=>oL1 rest fun v =>
  oRf v fun S =>
  oC2 hint fun jS n hint =>
  oM m jS (JC "tuple") fun e vs =>
  oT (Nat.beq vs.length n && Nat.blt 0 n && Nat.blt n 100) <|
  oS (pickSp σ n k j vs hint) fun x =>
  some {x with musts:=(S=e.a)::x.musts})
def bdW (b a:Value):Str:=match b with
 |.ref _=>match a with
  |.ref _ => " BEFORE INITIAL "++opT b ++ " AFTER INITIAL "++opT a
  |_ => " BEFORE INITIAL "++opT b
 |_=>match a with
  |.ref _ => " AFTER INITIAL "++opT a
  |_ => ""
def lbdH (σ:Nat→Pn):Hook:=Yv 813 5 2 σ
 (fun rest m k j hint=>oL0 rest <|
  oL0 hint <|
  some {musts:=[qS 100 (σ k),σ j=nx (nx (σ k) 3) 3],res:=fun y => .ok (.ret (.ref y.p.col)),may:=fun y=>yA y.v y.v2∧y.s=bdW y.v y.v2,news:=[((.type "tuple",0),fun y=>y.p.col,fun y=>yE [.ref y.p.endLine,.str y.s y.p.endCol]),((.type "tuple",0),fun y=>y.p.endLine,fun y=>yE [y.v,y.v2])]})
theorem ok813 (w:World):vH (ktP w) 813=true:=by kernel_rfl
inductive I3 where
 |a | b | c
noncomputable def I3.n:I3→Nat
 |.a=>0
 |.b=>1
 |.c=>2
noncomputable def I3.bv:I3→Value
 |.a => .none
 |.b => .ref 775
 |.c => .ref 777
noncomputable def I3.av:I3→Value
 |.b => .ref 779
 |_ => .none
theorem I3.of {d:Int} (h0:0≤d) (h3:d < 3):∃ i:I3,d=(i.n:Int):=by
 rcases (by omega:d=0∨d=1∨d=2) with rfl | rfl | rfl
 ·exact ⟨.a,rfl⟩
 ·exact ⟨.b,rfl⟩
 ·exact ⟨.c,rfl⟩
def tr_bd (i j:I3) (b1 b2 b3:Bool):Tr:=match i with
 |.a=>match j with
  |.a=>T [1,1,0,0,1,0,0,0,0,0,0,0,0,0,0,0,0,0,0,0,1,7,3,0,1,0,3,0,0,0,3,0,0,0,0,0,0,0,0,1,7,6,1,2,0,3,0,0] (T [1,1,1,0,1,1,1,0,1,1,1,2,1,1,1,0,1,1,1,2,1,1,1,0,1,1,1,2,1,1,1,10,10,10,10,10,9,9,9,0,9,9,10,7,7,7,0,7] (T [7,0,10,10,10,9,9,9,0,9,9,10,7,7,7,0,7,7,11] .nil))
  |.b=>T [1,1,0,0,1,0,0,0,0,0,0,0,0,0,0,0,0,0,0,0,1,7,3,0,1,0,3,0,0,0,3,0,0,0,0,0,0,0,0,1,7,6,1,2,0,3,0,1] (T [1,1,1,0,1,1,1,0,1,1,1,2,1,1,1,0,1,1,1,2,1,1,1,0,1,1,1,2,1,1,1,10,10,10,10,10,9,9,9,0,9,9,10,0,0,0,0,0] (T [0,10,0,0,0,0,0,0,0,0,10,10,10,9,9,9,0,9,9,10,0,0,0,0,0,0,11] .nil))
  |.c=>T [1,1,0,0,1,0,0,0,0,0,0,0,0,0,0,0,0,0,0,0,1,7,3,0,1,0,3,0,0,0,3,0,0,0,0,0,0,0,0,1,7,6,1,2,0,3,0,2] (T [1,1,1,0,1,1,1,0,1,1,1,2,1,1,1,0,1,1,1,2,1,1,1,0,1,1,1,2,1,1,1,10,10,10,10,10,9,9,9,0,9,9,10,6,6,6,0,6] (T [6,0,10,10,10,9,9,9,0,9,9,10,6,6,6,0,6,6,11] .nil))
 |.b=>match j with
  |.a=>T [1,1,0,0,1,0,0,0,0,0,0,0,0,0,0,0,0,0,0,0,1,7,3,0,1,0,3,0,1,0,3,0,0,0,0,0,0,0,0,1,7,6,1,2,0,3,0,0] (T [1,1,1,0,1,1,1,0,1,1,1,2,1,1,1,0,1,1,1,2,1,1,1,0,1,1,1,2,1,1,1,10,10,10,10,10,0,0,0,0,0,0,10,0,0,0,0,0] (T [0,0,10,7,7,7,0,7,7,0,10,10,10,0,0,0,0,0,0,10,7,7,7,0,7,7,11] .nil))
  |.b=>T [1,1,0,0,1,0,0,0,0,0,0,0,0,0,0,0,0,0,0,0,1,7,3,0,1,0,3,0,1,0,3,0,0,0,0,0,0,0,0,1,7,6,1,2,0,3,0,1] (T [1,1,1,0,1,1,1,0,1,1,1,2,1,1,1,0,1,1,1,2,1,1,1,0,1,1,1,2,1,1,1,10,10,10,10,10,0,0,0,0,0,0,10,0,0,0,0,0] (T [0,0,10,0,0,0,0,0,0,10,0,0,0,0,0,0,0,0,10,10,10,0,0,0,0,0,0,10,0,0,0,0,0,0,11] .nil))
  |.c=>T [1,1,0,0,1,0,0,0,0,0,0,0,0,0,0,0,0,0,0,0,1,7,3,0,1,0,3,0,1,0,3,0,0,0,0,0,0,0,0,1,7,6,1,2,0,3,0,2] (T [1,1,1,0,1,1,1,0,1,1,1,2,1,1,1,0,1,1,1,2,1,1,1,0,1,1,1,2,1,1,1,10,10,10,10,10,0,0,0,0,0,0,10,0,0,0,0,0] (T [0,0,10,6,6,6,0,6,6,0,10,10,10,0,0,0,0,0,0,10,6,6,6,0,6,6,11] .nil))
 |.c=>match j with
  |.a=>T [1,1,0,0,1,0,0,0,0,0,0,0,0,0,0,0,0,0,0,0,1,7,3,0,1,0,3,0,2,0,3,0,0,0,0,0,0,0,0,1,7,6,1,2,0,3,0,0] (T [1,1,1,0,1,1,1,0,1,1,1,2,1,1,1,0,1,1,1,2,1,1,1,0,1,1,1,2,1,1,1,10,10,10,10,10,0,0,0,0,0,0,10,0,0,0,0,0] (T [0,0,10,7,7,7,0,7,7,0,10,10,10,0,0,0,0,0,0,10,7,7,7,0,7,7,11] .nil))
  |.b=>T [1,1,0,0,1,0,0,0,0,0,0,0,0,0,0,0,0,0,0,0,1,7,3,0,1,0,3,0,2,0,3,0,0,0,0,0,0,0,0,1,7,6,1,2,0,3,0,1] (T [1,1,1,0,1,1,1,0,1,1,1,2,1,1,1,0,1,1,1,2,1,1,1,0,1,1,1,2,1,1,1,10,10,10,10,10,0,0,0,0,0,0,10,0,0,0,0,0] (T [0,0,10,0,0,0,0,0,0,10,0,0,0,0,0,0,0,0,10,10,10,0,0,0,0,0,0,10,0,0,0,0,0,0,11] .nil))
  |.c=>T [1,1,0,0,1,0,0,0,0,0,0,0,0,0,0,0,0,0,0,0,1,7,3,0,1,0,3,0,2,0,3,0,0,0,0,0,0,0,0,1,7,6,1,2,0,3,0,2] (T [1,1,1,0,1,1,1,0,1,1,1,2,1,1,1,0,1,1,1,2,1,1,1,0,1,1,1,2,1,1,1,10,10,10,10,10,0,0,0,0,0,0,10,0,0,0,0,0] (T [0,0,10,6,6,6,0,6,6,0,10,10,10,0,0,0,0,0,0,10,6,6,6,0,6,6,11] .nil))
section
variable {w:World} {b1 b2 b3:Bool} {lc:Nat} {hs:List Mine.Hook} {h₀:Heap} {ws:List Addr} {h:Heap} {P S t1 t2 t3 ep tm ep2:Nat} {s:Pn} {v:Int} {σ:Nat→Pn} {vs:List Value} {d2:Option Addr} {sl2:Array (Option Value)} {x:Value}
theorem pick_says (hst:St (jb w b1 b2 b3) h) (g:h.get? P=some (yo s t1 t2 t3 ep)) (off:(ktP (jb w b1 b2 b3)).get P=none) (ok:qS 200 s) (gS:h.get? S=some (vv d2 vs ep2 sl2)) {n:Nat} (hn:vs.length=n) (h0:0 < n) (hl:n < 100)
  (hx:vs[(dg s n).toNat]?=some x):jr (jb w b1 b2 b3) 3 (.call (.ref 806) ⟨[.ref P,.ref S],[]⟩) h [P] (Yn P (nx s n) fun v _=>v=x):=by
 subst hn
 exact pick0 (σ:=fun k=>match k with | 0=>s | _=>nx s vs.length) hst g off ok gS rfl hl (by omega) rfl hx
theorem pk_at {n:Nat} (hn:vs.length=n) (h0:0 < n):∃ x,vs[(dg s n).toNat]?=some x∧x∈vs:=by
 have q:=Vp (s:=s) (n:=n) (by omega)
 have:(dg s n).toNat < vs.length:=by omega
 exact ⟨_,List.getElem?_eq_getElem this,List.getElem_mem _⟩
theorem srt_of {two:Bool} {v:Value} (h:isSrt two v=true):∃ a,v = .ref a∧((a=776∨a=784)∨(two=false∧(a=778∨a=780))):=by
 unfold isSrt at h
 split at h
 ·rename_i a
  simp only [Bool.or_eq_true,Bool.and_eq_true,Nat.beq_eq,Bool.not_eq_true'] at h
  refine ⟨a,rfl,?_⟩
  omega
 ·cases h
theorem sorts_at {w:World} {h:Heap} (hst:St w h):h.get? 776=some (yE [.ref 775,.str "A" 1275])∧h.get? 778=some (yE [.ref 777,.str "\"x\"" 1278])∧h.get? 780=some (yE [.ref 779,.str "SPACE" 1281])∧h.get? 784=some (yE [.ref 783,.str "B OF G" 1285])∧h.get? 785=some (yE [.ref 776,.ref 778,.ref 780,.ref 784]) :=
 ⟨hst _ _ (by kernel_rfl),hst _ _ (by kernel_rfl),hst _ _ (by kernel_rfl),hst _ _ (by kernel_rfl),hst _ _ (by kernel_rfl)⟩
theorem srt_get {two:Bool} {w:World} {h:Heap} (hst:St w h) {v:Value} (q:isSrt two v=true):∃ a y s t,v = .ref a∧Jp two y s∧h.get? a=some (yE [y,.str s t]):=by
 obtain ⟨g1,g2,g3,g4,_⟩:=sorts_at hst
 obtain ⟨a,rfl,r⟩:=srt_of q
 rcases r with (rfl | rfl) | ⟨rfl,rfl | rfl⟩
 ·exact ⟨_,_,_,_,rfl,⟨by cases two <;> exact .inl rfl,rfl⟩,g1⟩
 ·exact ⟨_,_,_,_,rfl,⟨by cases two;exact .inr (.inr (.inr rfl));exact .inr rfl,rfl⟩,g4⟩
 ·exact ⟨_,_,_,_,rfl,⟨.inr (.inl rfl),rfl⟩,g2⟩
 ·exact ⟨_,_,_,_,rfl,⟨.inr (.inr (.inl rfl)),rfl⟩,g3⟩
theorem kd_of {f:Bool} {v:Value} (h:kdB f v=true):∃ s t,v = .str s t∧KdN f s:=by
 unfold kdB at h
 split at h
 ·rename_i s t
  simp only [Bool.or_eq_true,Bool.and_eq_true] at h
  refine ⟨s,t,rfl,?_⟩
  rcases h with (q | q) | q
  ·exact .inl (vw q)
  ·exact .inr (.inl (vw q))
  ·exact .inr (.inr ⟨q.1,vw q.2⟩)
 ·cases h
theorem kds_at {f:Bool}:∀ {i j:Nat} {vs:List Value} {v:Value},kdsB f i vs=true→vs[j]?=some v→j≠i→kdB f v=true
 |0,j+1,_::l,v,h,e,_=>by
  have h:l.all (kdB f)=true:=h
  exact List.all_eq_true.mp h v (List.mem_of_getElem? e)
 |0,0,_::l,v,_,_,n=>absurd rfl n
 |i+1,0,u::l,v,h,e,_=>by
  simp only [kdsB,Bool.and_eq_true] at h
  cases e
  exact h.1
 |i+1,j+1,u::l,v,h,e,n=>by
  simp only [kdsB,Bool.and_eq_true] at h
  exact kds_at h.2 (by simpa using e) (by omega)
 |0,_,[],v,_,e,_=>by simp at e
 |_+1,_,[],v,_,e,_=>by simp at e
theorem pen_off {h:Heap} {a:Addr} {l:List Value} (g:h.get? P=some (yo s t1 t2 t3 ep)) (ga:h.get? a=some (yE l)) (q:a∈[P]):False:=by
 cases q with
 |head=>rw [g] at ga;exact pen_ne_tup (vs:=l) (d:=none) (ep2:=0) (sl:=#[]) (Option.some.inj ga)
 |tail _ q=>cases q
theorem Vg:(pickH σ).Ok (cfg (jb w b1 b2 b3) lc hs) PW (jb w b1 b2 b3) h₀ ws:=by
 refine QN fun rest m k j hint=>?_
 refine iL1 fun _ b1=>iRf fun S b2=>iC2 fun jS n hint b3=>iM fun e vs qe qv=>iT fun qn=>iS fun x' qx=>?_
 subst b1 b2 b3
 refine iE ?_
 intro h P t1 t2 t3 ep hm hst hk off g ok hold
 have hS:S=e.a:=hm _ (.head _)
 obtain ⟨dd,ep2,sl,ho⟩:=yC qv
 have gS:h.get? S=some (vv dd vs ep2 sl):=by have q:=hk e (List.mem_of_getElem? qe);rw [ho] at q;rw [hS];exact q
 simp only [Bool.and_eq_true,Nat.beq_eq] at qn
 obtain ⟨⟨hn,q0⟩,q1⟩:=qn
 have h0:0 < n:=Nat.le_of_ble_eq_true q0
 have h1:n < 100:=Nat.le_of_ble_eq_true q1
 obtain ⟨y,hy,hym⟩:=pk_at (s:=σ k) hn h0
 have X:=pick_says hst g off ok gS hn h0 h1 hy
 have hm':∀ p∈x'.musts,p:=fun p hp=>hm p (.tail _ hp)
 clear hm
 have two:∀ b:Bool,vs.all (isSrt b)=true→Inv (some (pickX b (σ j=nx (σ k) n))) fun x'=>(∀ p∈x'.musts,p)→jr (jb w b1 b2 b3) 3 (.call (.ref 806) ⟨[.ref P,.ref S],[]⟩) h [P] (PenR P {x' with musts:=(S=e.a)::x'.musts} (σ j)):=fun b qa=>iE fun hm'=>by
  have a2:σ j=nx (σ k) n:=hm' _ (.head _)
  clear hm'
  obtain ⟨a,yv,ys,t,rfl,hp,ga⟩:=srt_get hst (List.all_eq_true.mp qa y hym)
  refine X.mono fun r h' ol p=>?_
  obtain ⟨z,u1,u2,u3,up,rfl,g',rfl⟩:=p
  refine ⟨{(default:Ora) with n:=u1,n2:=u2,n3:=u3,v:=yv,s:=ys,p:={(default:Pos) with line:=up,col:=a,endLine:=t}},rfl,hp,by rw [a2];exact g',fun p hp=>?_,fun _ q=>(nomatch q)⟩
  cases hp with
  |head=>exact ⟨ol.2 _ _ ga fun q=>pen_off g ga q,rfl⟩
  |tail _ hp=>cases hp
 refine iL2 (P:=fun x'=>(∀ p∈x'.musts,p)→jr (jb w b1 b2 b3) 3 (.call (.ref 806) ⟨[.ref P,.ref S],[]⟩) h [P] (PenR P {x' with musts:=(S=e.a)::x'.musts} (σ j))) (fun md i bz=>iQ (iS fun v qv2=>iE fun hm'=>?_) (iT (two false)) (iT (two true)) (iT fun qa=>iE fun hm'=>?_)) x' qx hm'
 ·have a1:dg (σ k) n=i:=hm' _ (.head _)
  have a2:σ j=nx (σ k) n:=vV hm' 1
  clear hm'
  rw [a1] at hy
  have ev:v=y:=Option.some.inj (qv2.symm.trans hy)
  refine X.mono fun r h' _ p=>?_
  obtain ⟨z,u1,u2,u3,up,rfl,g',rfl⟩:=p
  subst ev
  exact ⟨{(default:Ora) with n:=u1,n2:=u2,n3:=u3,p:={(default:Pos) with line:=up}},rfl,trivial,by rw [a2];exact g',fun _ q=>(nomatch q),fun _ q=>(nomatch q)⟩
 ·have a1:dg (σ k) n≠i:=hm' _ (.head _)
  have a2:σ j=nx (σ k) n:=vV hm' 1
  clear hm'
  have q:=Vp (s:=σ k) (n:=n) (by omega)
  obtain ⟨s',t,rfl,hk1⟩:=kd_of (kds_at qa hy (by omega))
  refine X.mono fun r h' ol p=>?_
  obtain ⟨z,u1,u2,u3,up,rfl,g',rfl⟩:=p
  exact ⟨{(default:Ora) with n:=u1,n2:=u2,n3:=u3,s:=s',p:={(default:Pos) with line:=up,col:=t}},rfl,hk1,by rw [a2];exact g',fun _ q=>(nomatch q),fun _ q=>(nomatch q)⟩
def LbRes (P:Addr) (s':Pn) (b a:Value):Result→Heap→Prop:=fun r h'=>∃ x y t t1 t2 t3 ep,r = .ok (.ret (.ref x))∧h'.get? x=some (yE [.ref y,.str (bdW b a) t])∧h'.get? y=some (yE [b,a])∧h'.get? P=some (yo s' t1 t2 t3 ep)
theorem lbEnd {C:Cfg} {r:Result} {m:List En} {n:Nat} {h':Heap} {s':Pn} {b a:Value} (e:(vR r,yW r,oAt m 0,oAt m 1,Yw m 0)=(true,aAt m 0,some (yE [.ref (aAt m 1),.str (bdW b a) (yR m 0 1)]),some (yE [b,a]),some (P,s'.a,s'.b,s'.c))) (D':Rp C h₀ ws m n h'):LbRes P s' b a r h':=by
 refine pr5 e fun e1 e2 e3 e4 e5=>?_
 obtain ⟨t1,t2,t3,ep,g⟩:=Vi D' e5
 exact ⟨aAt m 0,aAt m 1,_,t1,t2,t3,ep,by rw [vl e1,e2],yk D' e3,yk D' e4,g⟩
theorem bd_run (i j:I3) (hst:St (jb w b1 b2 b3) h) (g:h.get? P=some (yo s t1 t2 t3 ep)) (off:(ktP (jb w b1 b2 b3)).get P=none) (ok:qS 100 s) (hs:σ 0=s) (m0:dg (σ 0) 3=(i.n:Int)) (m1:σ 1=nx (σ 0) (3:Int)) (m2:dg (σ 1) 3=(j.n:Int)) (m3:σ 2=nx (σ 1) (3:Int)):jr (jb w b1 b2 b3) 5 (.call (.ref 813) ⟨[.ref P],[]⟩) h [P] (LbRes P (σ 2) i.bv j.av):=by
 refine Yt (hooks:=[pickH σ]) (hkc Vg hkn) (fuel:=10000) (tr:=tr_bd i j b1 b2 b3) (ok813 _) (Vh hst g off) fun n tk os bs hn=>?_
 exact ye (fun r m=>(vR r,yW r,oAt m 0,oAt m 1,Yw m 0)) (fun r m=>(true,aAt m 0,some (yE [.ref (aAt m 1),.str (bdW i.bv j.av) (yR m 0 1)]),some (yE [i.bv,j.av]),some (P,(σ 2).a,(σ 2).b,(σ 2).c))) (ps:=[(true,s.a=(σ 0).a),(true,s.b=(σ 0).b),(true,s.c=(σ 0).c),(true,qS 200 (σ 0)),(true,n+847=n+847),(true,dg (σ 0) 3=(i.n:Int)),(true,σ 1=nx (σ 0) (3:Int)),yt,(true,(σ 1).a=(σ 1).a),(true,(σ 1).b=(σ 1).b),(true,(σ 1).c=(σ 1).c),(true,qS 200 (σ 1)),(true,(os 0).n+2=(os 0).n+2),(true,dg (σ 1) 3=(j.n:Int)),(true,σ 2=nx (σ 1) (3:Int)),yt]) (by clear hn m0 m1 m2 m3 hst g off ok hs;cases i <;> cases j <;> cases b1 <;> kernel_rfl) (⟨(by rw [hs]),⟨(by rw [hs]),⟨(by rw [hs]),⟨(hs ▸ ok.le (by decide)),⟨rfl,⟨m0,⟨m1,fun _=>⟨rfl,⟨rfl,⟨rfl,⟨(by rw [m1,hs];exact (ok.nx 3).le (by decide)),⟨rfl,⟨m2,⟨m3,fun _=>fun r m n tk e h' D'=>lbEnd e D'⟩⟩⟩⟩⟩⟩⟩⟩⟩⟩⟩⟩⟩⟩)
theorem bd_says (hst:St (jb w b1 b2 b3) h) (g:h.get? P=some (yo s t1 t2 t3 ep)) (off:(ktP (jb w b1 b2 b3)).get P=none) (ok:qS 100 s):jr (jb w b1 b2 b3) 5 (.call (.ref 813) ⟨[.ref P],[]⟩) h [P] (fun r h'=>∃ b a,yA b a∧LbRes P (nx (nx s 3) 3) b a r h'):=by
 obtain ⟨i,hi⟩:=I3.of (Vp (s:=s) (n:=3) (by decide)).1 (Vp (by decide)).2
 obtain ⟨j,hj⟩:=I3.of (Vp (s:=nx s 3) (n:=3) (by decide)).1 (Vp (by decide)).2
 have X:=bd_run (σ:=fun k=>match k with | 0=>s | 1=>nx s 3 | _=>nx (nx s 3) 3) i j hst g off ok rfl hi rfl hj rfl
 refine X.mono fun r h' _ p=>⟨i.bv,j.av,?_,p⟩
 cases i <;> cases j <;> simp [yA,I3.bv,I3.av]
theorem lbdH_ok:(lbdH σ).Ok (cfg (jb w b1 b2 b3) lc hs) PW (jb w b1 b2 b3) h₀ ws:=by
 refine QN fun rest m k j hint=>?_
 refine iL0 fun b1=>iL0 fun b2=>?_
 subst b1 b2
 refine iE ?_
 intro h P t1 t2 t3 ep hm hst hk off g ok hold
 have a2:σ j=nx (nx (σ k) 3) 3:=vV hm 1
 refine (bd_says hst g off (hm _ (.head _))).mono fun r h' _ p=>?_
 obtain ⟨b,a,ob,x,y,t,u1,u2,u3,up,rfl,gx,gy,g'⟩:=p
 refine ⟨{(default:Ora) with n:=u1,n2:=u2,n3:=u3,v:=b,v2:=a,s:=bdW b a,p:={line:=up,col:=x,endLine:=y,endCol:=t}},rfl,⟨ob,rfl⟩,by rw [a2];exact g',fun p hp=>?_,fun _ q=>(nomatch q)⟩
 cases hp with
 |head=>exact ⟨gx,rfl⟩
 |tail _ hp=>cases hp with
  |head=>exact ⟨gy,rfl⟩
  |tail _ hp=>cases hp
end
noncomputable def forOf (s:Stmt) (it:Value) (e:Env):Code:=match s with
 |.For t _ b o _ => .forLoop t it b o e
 |_ => .block [] e
def yJ (F I:Addr):Code:=forOf (nthS (VO (stT 107)) 1) (.ref I) (envOf (stT 107) 820 sx12 (.ref 819) F)
def yK (F I:Addr):Code:=forOf (nthS (VO (stT 108)) 1) (.ref I) (envOf (stT 108) 827 sx8 (.ref 826) F)
noncomputable def rgO (p r:Int):Obj:=⟨.type "range_iterator",none,.fields ⟨[.int p 0,.int r 0,.int 1 0]⟩,#[]⟩
def rg? (o:Obj):Option (Int×Int):=oKL "range_iterator" o fun dt=>oFl dt fun l=>oL3 l fun x y z=>Jb x fun p t1=>Jb y fun r t2=>Jb z fun o t3=>oT (Nat.beq t1 0 && Nat.beq t2 0 && Nat.beq t3 0 && decide (o=1)) <| some (p,r)
theorem rg_eq {o:Obj} {p r:Int} (h:rg? o=some (p,r)):o=rgO p r :=
 iKL (P:=fun x=>o=rgO x.1 x.2) (fun dt e=>iFl fun l e1=>iL3 fun x y z e2=>Jg fun p t1 q1=>Jg fun r t2 q2=>Jg fun u t3 q3=>iT fun q=>iE (by
  simp only [Bool.and_eq_true,Nat.beq_eq,decide_eq_true_eq] at q
  rw [e,e1,e2,q1,q2,q3,q.1.1.1,q.1.1.2,q.1.2,q.2];rfl)) _ h
noncomputable def yX:Nat→List Nat→List Nat
 |0,_=>[]
 |q+1,l=>l.headD 0::yX q l.tail
noncomputable def strO (o:Option Value):Str:=match o with
 |some v=>match v with
  |.str s _=>s
  |_ => ""
 |none => ""
noncomputable def Ja:Nat→List (Option Value)→List Str
 |0,_=>[]
 |q+1,l=>strO (l.headD none)::Ja q l.tail
noncomputable def QK:List Str→Str
 |[] => ""
 |t::l => " "++t++QK l
noncomputable def YV (tok:Nat):List Nat→List Str→List (Value×Value)
 |a::as,t::ts=>(.ref a,.str t tok)::YV tok as ts
 |_,_=>[]
noncomputable def Vd:List Str:=["turn","operand","kind","count","bounds","told"]
noncomputable def Ve:List Str:=["turn","by","operand","kind","bounds","told"]
def Qi (K:Int) (vs:List Value):Prop:=∃ s t1 t2 t3,vs=[.int (Pn.a s) t1,.int s.b t2,.int s.c t3]∧qS K s
noncomputable def isEmp {α:Type}:List α→Bool
 |[]=>true
 |_=>false
def lwHSp (loop:PySem.Addr→PySem.Addr→PySem.Code) (tok:Nat) (K:Int) (s:Mine.Pn) (q:Nat) (c:PySem.Code) (env:PySem.Env) (I:PySem.Addr) (jP:Nat) (jF:Nat) (jL:Nat) (jI:Nat) (eF:Mine.En) (e0:Mine.Fe) (e1:Mine.Fe) (e2:Mine.Fe) (P:PySem.Addr) (W:PySem.Str) (L:PySem.Addr) (eL:Mine.En) (l:List PySem.Value) (eP:Mine.En) (s':Mine.Pn) (eI:Mine.En) (r:Int):vy:={idx:=[jP,jF,jL,jI],us:=fun _=>{eqs:=[(env.locals,eF.a),(P,eP.a),(L,eL.a),(I,eI.a)],musts:=[c=loop env.locals I,s'.a=s.a,s'.b=s.b,s'.c=s.c,r=q,qS (K - 5 * q) s,W.length+250 * q≤5000,l.length+q≤10,eP.a≠eL.a],res:=fun _ => .ok .next,may:=fun y=>Qi K y.vs,objs:=fun y=>[lsO y.vs y.p.line,⟨.type "frame",none,.dict ⟨e0.en::⟨e1.z,.str e1.s e1.t,.str (W++QK (Ja q y.ob.slots.toList)) y.n⟩::e2.en::JE y⟩ y.n3,#[]⟩,lsO (l++(yX q y.s2.cps.toList).map Value.ref) y.n2,rgO y.z 0],dq:=fun y=>YV tok (yX q y.s2.cps.toList) (Ja q y.ob.slots.toList)}}
def lwH (loop:Addr→Addr→Code) (rest:List Str) (tok:Nat) (K:Int) (s:Pn) (q:Nat):Hook:=lHook 7
 (fun c m hint=>oFo c fun _ it _ _ env =>
  oRf it fun I =>
  oL4 hint fun jP jF jL jI =>
  oN m jF (fr?) fun eF fs _ =>
  oC3 fs fun e0 e1 e2 tl =>
  oT (ym e0.s "pen" && ym e1.s "words" && ym e2.s "rows" && (isEmp tl || yw tl rest)) <|
  oRf e0.v fun P =>
  yp e1.v fun W _ =>
  oRf e2.v fun L =>
  oN m jL (QZ) fun eL l _ =>
  oM m jP (pen?) fun eP s' =>
  oN m jI (rg?) fun eI p r =>
  some (lwHSp loop tok K s q c env I jP jF jL jI eF e0 e1 e2 P W L eL l eP s' eI r))
def shF (sh:Bool) (rest:List Str) (x:Nat→Fe):List Fe:=match sh with
 |true=>Vy rest x
 |false=>[]
def sortO:Obj:=yE [.ref 776,.ref 778,.ref 780,.ref 784]
theorem jn (l:List Str):Txt.join " " l=Str.join " " l:=StrLaws.glued_eq_join " " l
theorem jn1 (a:Str):Txt.join " " [a]=a:=by rw [jn];rfl
theorem jnc (a b:Str) (l:List Str):Txt.join " " (a::b::l)=a++(" "++Txt.join " " (b::l)):=by rw [jn,jn,Str.join,Str.append_assoc];exact fun q=>nomatch q
theorem join3 (a b c:Str):Txt.join " " [a,b,c]=a++(" "++(b++(" "++c))):=by rw [jnc,jnc,jn1]
theorem join4 (a b c d:Str):Txt.join " " [a,b,c,d]=a++(" "++(b++(" "++(c++(" "++d))))):=by rw [jnc,jnc,jnc,jn1]
theorem bdW_eq {b a:Value} (h:yA b a):bdW b a=(if bdT b a = "" then ("" : Str) else (" " : Str)++bdT b a)∧(bdW b a).length≤60:=by
 obtain ⟨h1,h2⟩:=h
 rcases h1 with rfl | rfl | rfl <;> rcases h2 with rfl | rfl <;> exact ⟨by decide +kernel,by decide +kernel⟩
theorem forS:(" FOR " : Str) = " "++("FOR" ++ " "):=by decide +kernel
theorem byS:(" BY " : Str) = " "++("BY" ++ " "):=by decide +kernel
theorem Jt {x y z:Str} {b a:Value} (h:yA b a) (hx:x ≠ ""):Txt.join " " (vh [1,1,1,2] [x,y,z,bdT b a])=x++(" "++(y++(" "++(z++bdW b a)))):=by
 rw [(bdW_eq h).1]
 show Txt.join " " (x::y::z::(if bdT b a = "" then vh [] [] else bdT b a::vh [] []))=_
 split
 ·show Txt.join " " [x,y,z]=_
  rw [join3]
  show _=x++(" "++(y++(" "++(z++Str.empty))))
  rw [Str.append_empty]
 ·show Txt.join " " [x,y,z,bdT b a]=_
  rw [join4]
theorem tT_C {c b a:Value} {k:Nat} (hb:yA b a) (hc:vc c) (W:Str):W ++ " "++opT c ++ " FOR " ++ "CHARACTERS" ++ ""++bdW b a=W++(" "++Row.tT ⟨c,"CHARACTERS",k,.none,b,a⟩):=by
 have e:Row.tT ⟨c,"CHARACTERS",k,.none,b,a⟩=opT c++(" "++("FOR"++(" "++("CHARACTERS"++bdW b a)))):=Jt hb (yz (jG hc))
 rw [e,forS,show (Str.ofString "" : Str)=Str.empty from rfl,Str.append_empty]
 simp only [Str.append_assoc]
theorem tT_N {c v b a:Value} {K:Str} {k:Nat} (hb:yA b a) (hc:vc c) (hv:vG v) (W:Str):W ++ " "++opT c ++ " FOR "++K++(" "++opT v)++bdW b a=W++(" "++Row.tT ⟨c,K,k,v,b,a⟩):=by
 have e:Row.tT ⟨c,K,k,v,b,a⟩=opT c++(" "++("FOR"++(" "++(K ++ " "++opT v++bdW b a)))):=by
  rcases hv with rfl | rfl | rfl | rfl <;> exact Jt hb (yz (jG hc))
 rw [e,forS]
 simp only [Str.append_assoc]
theorem rT_C {u b a:Value} {k:Nat} (hb:yA b a) (W:Str):W ++ " " ++ "CHARACTERS" ++ "" ++ " BY "++opT u++bdW b a=W++(" "++Row.rT ⟨u,"CHARACTERS",k,.none,b,a⟩):=by
 have e:Row.rT ⟨u,"CHARACTERS",k,.none,b,a⟩ = "CHARACTERS"++(" "++("BY"++(" "++(opT u++bdW b a)))):=Jt hb (by show (Str.ofString "CHARACTERS") ≠ "";decide +kernel)
 rw [e,byS,show (Str.ofString "" : Str)=Str.empty from rfl,Str.append_empty]
 simp only [Str.append_assoc]
theorem rT_N {u v b a:Value} {K:Str} {k:Nat} (hb:yA b a) (hv:vG v) (hK:Qj K v) (W:Str):W ++ " "++K++(" "++opT v) ++ " BY "++opT u++bdW b a=W++(" "++Row.rT ⟨u,K,k,v,b,a⟩):=by
 have e:Row.rT ⟨u,K,k,v,b,a⟩=K ++ " "++opT v++(" "++("BY"++(" "++(opT u++bdW b a)))):=by
  have:=yL hK
  rcases hv with rfl | rfl | rfl | rfl <;> exact Jt hb this
 rw [e,byS]
 simp only [Str.append_assoc]
theorem Qt {f:Bool} {K:Str} {v:Value} (h:KdN f K) (hv:vG v):Qj K v∧IsKd K∧K.length≤10∧K ≠ "CHARACTERS":=by
 rcases h with rfl | rfl | ⟨_,rfl⟩
 ·exact ⟨.inr ⟨by decide +kernel,hv,by decide +kernel⟩,.inr (.inl rfl),by decide +kernel,by decide +kernel⟩
 ·exact ⟨.inr ⟨by decide +kernel,hv,by decide +kernel⟩,.inr (.inr (.inl rfl)),by decide +kernel,by decide +kernel⟩
 ·exact ⟨.inr ⟨by decide +kernel,hv,by decide +kernel⟩,.inr (.inr (.inr rfl)),by decide +kernel,by decide +kernel⟩
theorem Vf {two:Bool} {v:Value} {s:Str} (h:Jp two v s):s.length≤10:=by
 obtain ⟨h1,rfl⟩:=h
 cases two
 ·exact QO h1
 ·exact QO (jG h1)
theorem sm2 {x y:Str} (h:x.length+y.length≤100000):jk [x,y]:=by
 simpa [jk] using h
theorem catW_join:∀ (t:Str) (l:List Str),QK (t::l) = " "++Txt.join " " (t::l)
 |t,[]=>by show " "++t++Str.empty=_;rw [Str.append_empty,jn1]
 |t,u::l=>by
  show " "++t++QK (u::l)=_
  rw [catW_join u l,Str.append_assoc,jnc]
def tr_ltC (sh b1 b2 b3:Bool):Tr:=match sh with
 |true=>T [4,0,4,4,4,4,4,4,4,4,2,2,0,2,0,5,5,5,0,5,5,0,5,5,5,0,5,5,0,1,7,1,0,1,0,2,2,0,0,4,0,1,7,3,1,2,0,3] (T [0,2,0,5,0,0,1,7,3,2,3,7,4,1,0,1,1,1,0,1,1,1,0,1,1,1,2,1,1,1,0,1,1,1,2,1,1,1,0,1,1,1,2,1,1,1,0,1] (T [1,1,2,1,1,1,10,10,10,10,10,10,0,10,0,2,3,8,3,5,1,1,1,0,1,1,1,0,1,1,1,2,1,1,1,0,1,1,1,2,1,1,1,0,1,1,1,2] (T [1,1,1,15,15,15,15,15,16,16,16,16,15,12,12,12,0,12,12,15,15,4,1,0,16,1,6,1,0,1,6,1,6,5,1,17,17,3,0,17,14,14,14,0,14,14,3,0] (T [3,0,17,3,0,17,4,1,0,3,0,17,3,0,17,17,6,4,15,16,17,18] .nil))))
 |false=>T [4,0,4,4,4,4,4,4,4,4,2,2,0,2,0,5,5,5,0,5,5,0,5,5,5,0,5,5,0,1,7,1,0,1,0,2,2,0,0,4,0,1,7,3,1,2,0,3] (T [0,2,0,5,0,0,1,7,3,2,3,7,4,1,0,1,1,1,0,1,1,1,0,1,1,1,2,1,1,1,0,1,1,1,2,1,1,1,0,1,1,1,2,1,1,1,0,1] (T [1,1,2,1,1,1,10,10,10,10,10,10,0,10,0,2,3,8,3,5,1,1,1,0,1,1,1,0,1,1,1,2,1,1,1,0,1,1,1,2,1,1,1,0,1,1,1,2] (T [1,1,1,15,15,15,15,15,16,16,16,16,15,12,12,12,0,12,12,15,15,4,1,0,16,1,6,1,0,1,6,1,6,5,1,17,17,3,0,17,14,14,14,0,14,14,3,0] (T [3,0,17,3,0,17,4,1,0,3,0,17,3,0,17,17,6,4,15,16,17,18] .nil))))
def tr_ltN (sh b1 b2 b3:Bool):Tr:=match sh with
 |true=>T [4,0,4,4,4,4,4,4,4,4,2,2,0,2,0,5,5,5,0,5,5,0,5,5,5,0,5,5,0,1,7,1,0,1,0,2,2,0,0,4,0,1,7,3,1,2,0,3] (T [3,2,0,5,0,0,1,7,3,2,3,7,4,1,0,1,1,1,0,1,1,1,0,1,1,1,2,1,1,1,0,1,1,1,2,1,1,1,0,1,1,1,2,1,1,1,0,1] (T [1,1,2,1,1,1,10,10,10,10,10,10,0,10,0,2,3,8,3,5,1,1,1,0,1,1,1,0,1,1,1,2,1,1,1,0,1,1,1,2,1,1,1,0,1,1,1,2] (T [1,1,1,15,15,15,15,15,16,16,16,16,15,12,12,12,0,12,12,15,15,4,1,1,15,10,10,10,0,10,10,16,1,6,1,0,1,6,1,6,5,1,17,17,3,0,17,14] (T [14,14,0,14,14,3,0,3,0,17,3,0,17,4,1,1,17,12,12,12,0,12,12,3,0,3,0,17,3,0,17,17,6,4,15,16,17,18] .nil))))
 |false=>T [4,0,4,4,4,4,4,4,4,4,2,2,0,2,0,5,5,5,0,5,5,0,5,5,5,0,5,5,0,1,7,1,0,1,0,2,2,0,0,4,0,1,7,3,1,2,0,3] (T [3,2,0,5,0,0,1,7,3,2,3,7,4,1,0,1,1,1,0,1,1,1,0,1,1,1,2,1,1,1,0,1,1,1,2,1,1,1,0,1,1,1,2,1,1,1,0,1] (T [1,1,2,1,1,1,10,10,10,10,10,10,0,10,0,2,3,8,3,5,1,1,1,0,1,1,1,0,1,1,1,2,1,1,1,0,1,1,1,2,1,1,1,0,1,1,1,2] (T [1,1,1,15,15,15,15,15,16,16,16,16,15,12,12,12,0,12,12,15,15,4,1,1,15,10,10,10,0,10,10,16,1,6,1,0,1,6,1,6,5,1,17,17,3,0,17,14] (T [14,14,0,14,14,3,0,3,0,17,3,0,17,4,1,1,17,12,12,12,0,12,12,3,0,3,0,17,3,0,17,17,6,4,15,16,17,18] .nil))))
def tr_lrC (sh b1 b2 b3:Bool):Tr:=match sh with
 |true=>T [4,0,4,4,4,4,4,4,4,4,2,2,0,2,0,1,7,1,0,1,0,4,0,2,0,3,0,0,1,7,1,1,2,5,4,1,0,0,4,0,0,1,7,2,2,3,6,4] (T [1,0,1,1,1,0,1,1,1,0,1,1,1,2,1,1,1,0,1,1,1,2,1,1,1,0,1,1,1,2,1,1,1,0,1,1,1,2,1,1,1,9,9,9,9,9,9,0] (T [9,0,2,3,7,3,5,1,1,1,0,1,1,1,0,1,1,1,2,1,1,1,0,1,1,1,2,1,1,1,0,1,1,1,2,1,1,1,14,14,14,14,14,15,15,15,15,14] (T [14,4,1,0,14,10,10,10,0,10,10,15,1,6,1,0,1,6,1,6,5,1,16,16,3,0,16,3,0,16,4,1,0,3,0,3,0,16,12,12,12,0,12,12,3,0,16,3] (T [0,16,16,6,4,14,15,16,17] .nil))))
 |false=>T [4,0,4,4,4,4,4,4,4,4,2,2,0,2,0,1,7,1,0,1,0,4,0,2,0,3,0,0,1,7,1,1,2,5,4,1,0,0,4,0,0,1,7,2,2,3,6,4] (T [1,0,1,1,1,0,1,1,1,0,1,1,1,2,1,1,1,0,1,1,1,2,1,1,1,0,1,1,1,2,1,1,1,0,1,1,1,2,1,1,1,9,9,9,9,9,9,0] (T [9,0,2,3,7,3,5,1,1,1,0,1,1,1,0,1,1,1,2,1,1,1,0,1,1,1,2,1,1,1,0,1,1,1,2,1,1,1,14,14,14,14,14,15,15,15,15,14] (T [14,4,1,0,14,10,10,10,0,10,10,15,1,6,1,0,1,6,1,6,5,1,16,16,3,0,16,3,0,16,4,1,0,3,0,3,0,16,12,12,12,0,12,12,3,0,16,3] (T [0,16,16,6,4,14,15,16,17] .nil))))
def tr_lrN (sh b1 b2 b3:Bool):Tr:=match sh with
 |true=>T [4,0,4,4,4,4,4,4,4,4,2,2,0,2,0,1,7,1,0,1,0,4,3,2,0,3,0,0,1,7,1,1,2,5,4,1,0,0,4,0,0,1,7,2,2,3,6,4] (T [1,0,1,1,1,0,1,1,1,0,1,1,1,2,1,1,1,0,1,1,1,2,1,1,1,0,1,1,1,2,1,1,1,0,1,1,1,2,1,1,1,9,9,9,9,9,9,0] (T [9,0,2,3,7,3,5,1,1,1,0,1,1,1,0,1,1,1,2,1,1,1,0,1,1,1,2,1,1,1,0,1,1,1,2,1,1,1,14,14,14,14,14,15,15,15,15,14] (T [14,4,1,1,14,11,11,11,0,11,11,14,10,10,10,0,10,10,15,1,6,1,0,1,6,1,6,5,1,16,16,3,0,16,3,0,16,4,1,1,16,13,13,13,0,13,13,3] (T [0,3,0,3,0,16,12,12,12,0,12,12,3,0,16,3,0,16,16,6,4,14,15,16,17] .nil))))
 |false=>T [4,0,4,4,4,4,4,4,4,4,2,2,0,2,0,1,7,1,0,1,0,4,3,2,0,3,0,0,1,7,1,1,2,5,4,1,0,0,4,0,0,1,7,2,2,3,6,4] (T [1,0,1,1,1,0,1,1,1,0,1,1,1,2,1,1,1,0,1,1,1,2,1,1,1,0,1,1,1,2,1,1,1,0,1,1,1,2,1,1,1,9,9,9,9,9,9,0] (T [9,0,2,3,7,3,5,1,1,1,0,1,1,1,0,1,1,1,2,1,1,1,0,1,1,1,2,1,1,1,0,1,1,1,2,1,1,1,14,14,14,14,14,15,15,15,15,14] (T [14,4,1,1,14,11,11,11,0,11,11,14,10,10,10,0,10,10,15,1,6,1,0,1,6,1,6,5,1,16,16,3,0,16,3,0,16,4,1,1,16,13,13,13,0,13,13,3] (T [0,3,0,3,0,16,12,12,12,0,12,12,3,0,16,3,0,16,16,6,4,14,15,16,17] .nil))))
def tr_ltX (b1 b2 b3:Bool):Tr:=T [4,0,4,4,4,4,1] .nil
def tr_lrX (b1 b2 b3:Bool):Tr:=T [4,0,4,4,4,4,1] .nil
structure LwG (w:World) (h:Heap) (P F L I:Addr) (pO fO lO iO:Obj):Prop where
 st:St w h
 gP:h.get? P=some pO
 gF:h.get? F=some fO
 gL:h.get? L=some lO
 gI:h.get? I=some iO
 oP:(ktP w).get P=none
 oF:(ktP w).get F=none
 oL:(ktP w).get L=none
 oI:(ktP w).get I=none
 pl:P≠L
 cP:pO.cls = .type "list"
 cF:fO.cls = .type "frame"
 cL:lO.cls = .type "list"
 cI:iO.cls = .type "range_iterator"
theorem yi {h:Heap} {a b:Addr} {x y:Obj} (ga:h.get? a=some x) (gb:h.get? b=some y) (n:x.cls≠y.cls):a≠b:=fun e=>by
 rw [e,gb] at ga
 exact n (congrArg Obj.cls (Option.some.inj ga)).symm
theorem LwG.shown {w:World} {h:Heap} {P F L I:Addr} {pO fO lO iO:Obj} (G:LwG w h P F L I pO fO lO iO):jl w [P,F,L,I] [⟨P,pO,true,[]⟩,⟨F,fO,true,[]⟩,⟨L,lO,true,[]⟩,⟨I,iO,true,[]⟩,⟨785,sortO,false,[]⟩] h:=by
 have gS:=(sorts_at G.st).2.2.2.2
 have t (s:String) (n:s ≠ "tuple"):(Value.type s)≠sortO.cls:=fun e=>n (Value.type.inj e)
 have pf:=yi G.gP G.gF (by rw [G.cP,G.cF];exact fun e=>absurd (Value.type.inj e) (by decide))
 have pi:=yi G.gP G.gI (by rw [G.cP,G.cI];exact fun e=>absurd (Value.type.inj e) (by decide))
 have fl:=yi G.gF G.gL (by rw [G.cF,G.cL];exact fun e=>absurd (Value.type.inj e) (by decide))
 have fi:=yi G.gF G.gI (by rw [G.cF,G.cI];exact fun e=>absurd (Value.type.inj e) (by decide))
 have li:=yi G.gL G.gI (by rw [G.cL,G.cI];exact fun e=>absurd (Value.type.inj e) (by decide))
 have ps:=yi G.gP gS (by rw [G.cP];exact t _ (by decide))
 have fs:=yi G.gF gS (by rw [G.cF];exact t _ (by decide))
 have ls:=yi G.gL gS (by rw [G.cL];exact t _ (by decide))
 have is:=yi G.gI gS (by rw [G.cI];exact t _ (by decide))
 exact (((((jl.nil G.st).r gS trivial).w G.gI G.oI (.tail _ (.tail _ (.tail _ (.head _)))) ⟨fun _=>is,trivial⟩).w G.gL G.oL (.tail _ (.tail _ (.head _))) ⟨fun _=>li,fun _=>ls,trivial⟩).w G.gF G.oF (.tail _ (.head _)) ⟨fun _=>fl,fun _=>fi,fun _=>fs,trivial⟩).w G.gP G.oP (.head _) ⟨fun _=>pf,fun _=>G.pl,fun _=>pi,fun _=>ps,trivial⟩
noncomputable def oR (m:List En) (j:Nat):Option (Addr×Obj):=match m.reverse[j]? with
 |some e=>some (e.a,e.o)
 |none=>none
theorem vr {C:Cfg} {h₀ h':Heap} {ws:List Addr} {m:List En} {n j:Nat} {a:Addr} {o:Obj} (D:Rp C h₀ ws m n h') (e:oR m j=some (a,o)):h'.get? a=some o:=by
 unfold oR at e
 split at e
 ·rename_i x hx
  simp only [Option.some.injEq,Prod.mk.injEq] at e
  obtain ⟨rfl,rfl⟩:=e
  exact D.known x (List.mem_reverse.mp (List.mem_of_getElem? hx))
 ·cases e
noncomputable def DqZ (h:Heap) (tok:Nat):List Addr→List Str→Prop
 |[],[]=>True
 |a::as,t::ts=>Dq h (.ref a) (.str t tok)∧DqZ h tok as ts
 |_,_=>False
theorem DqZ.len {h:Heap} {tok:Nat}:∀ {as:List Addr} {ts:List Str},DqZ h tok as ts→as.length=ts.length
 |[],[],_=>rfl
 |_::_,_::_,q=>by simp only [List.length_cons,DqZ.len q.2]
 |[],_::_,q=>q.elim
 |_::_,[],q=>q.elim
theorem zipT_z {h:Heap} {tok:Nat}:∀ {as:List Addr} {ts:List Str},as.length=ts.length→(∀ p∈YV tok as ts,Dq h p.1 p.2)→DqZ h tok as ts
 |[],[],_,_=>trivial
 |a::as,t::ts,e,H=>⟨H _ (.head _),zipT_z (by simpa using e) fun p hp=>H p (.tail _ hp)⟩
 |[],_::_,e,_=>by simp at e
 |_::_,[],e,_=>by simp at e
theorem z_zipT {h:Heap} {tok:Nat}:∀ {as:List Addr} {ts:List Str},DqZ h tok as ts→∀ p∈YV tok as ts,Dq h p.1 p.2
 |[],[],_,_,hp=>nomatch hp
 |a::as,t::ts,q,p,hp=>by
  cases hp with
  |head=>exact q.1
  |tail _ hp=>exact z_zipT q.2 p hp
 |[],_::_,q,_,_=>q.elim
 |_::_,[],q,_,_=>q.elim
theorem Jr:∀ (q:Nat) (l:List Nat),(yX q l).length=q
 |0,_=>rfl
 |q+1,l=>by simp only [yX,List.length_cons,Jr q]
theorem padS_len:∀ (q:Nat) (l:List (Option Value)),(Ja q l).length=q
 |0,_=>rfl
 |q+1,l=>by simp only [Ja,List.length_cons,padS_len q]
theorem padA_of:∀ (l:List Nat),yX l.length l=l
 |[]=>rfl
 |a::l=>by simp only [List.length_cons,yX,List.headD_cons,List.tail_cons,padA_of l]
theorem padS_of:∀ (l:List Str),Ja l.length (l.map fun t=>some (.str t 0))=l
 |[]=>rfl
 |a::l=>by simp only [List.length_cons,List.map_cons,Ja,List.headD_cons,List.tail_cons,padS_of l,strO]
def QX (P F L I:Addr) (e0:DictEntry) (z1:Int) (f1:Nat) (e2:DictEntry) (W:Str) (l:List Value) (q:Nat) (K:Int) (tok:Nat) (r:Result) (h':Heap):Prop :=
 r = .ok .next∧∃ (as:List Addr) (ts:List Str),as.length=q∧DqZ h' tok as ts∧(∃ vs ep,h'.get? P=some (lsO vs ep)∧Qi K vs)∧(∃ es ep t,h'.get? F=some ⟨.type "frame",none,.dict ⟨e0::⟨z1,.str "words" f1,.str (W++QK ts) t⟩::e2::es⟩ ep,#[]⟩) ∧
  (∃ ep,h'.get? L=some (lsO (l++as.map Value.ref) ep))∧∃ p,h'.get? I=some (rgO p 0)
theorem lwOut_e {P F L I:Addr} {e0:DictEntry} {z1:Int} {f1:Nat} {e2:DictEntry} {W:Str} {l:List Value} {q:Nat} {K:Int} {tok:Nat} {r:Result} {h':Heap} {G:Prop} (p:QX P F L I e0 z1 f1 e2 W l q K tok r h')
  (k:r = .ok .next→∀ as ts,as.length=q→DqZ h' tok as ts→∀ vs ep1,h'.get? P=some (lsO vs ep1)→Qi K vs→∀ es ep2 t,h'.get? F=some ⟨.type "frame",none,.dict ⟨e0::⟨z1,.str "words" f1,.str (W++QK ts) t⟩::e2::es⟩ ep2,#[]⟩→∀ ep3,h'.get? L=some (lsO (l++as.map Value.ref) ep3)→∀ pp,h'.get? I=some (rgO pp 0)→G):G:=by
 obtain ⟨e,as,ts,la,dz,⟨vs,ep1,p1,pl⟩,⟨es,ep2,t,p2⟩,⟨ep3,p3⟩,pp,p4⟩:=p
 exact k e as ts la dz vs ep1 p1 pl es ep2 t p2 ep3 p3 pp p4
section
variable {w:World} {b1 b2 b3:Bool} {lc:Nat} {hs:List Mine.Hook} {h₀:Heap} {ws:List Addr} {h:Heap} {P F L I t1 t2 t3 ep fe le f0 f1 f2 tW:Nat} {z0 z1 z2 p K:Int} {s:Pn} {σ:Nat→Pn} {x:Nat→Fe} {W:Str} {l:List Value}
theorem lwEnd {C:Cfg} {r:Result} {m:List En} {n:Nat} {h':Heap} {q tok:Nat} {y:Ora} {row:List Value} {t Wn:Str} {e0 e2:DictEntry} (hw:Wn=W++(" "++t)) (hp:Qi K y.vs) (hd:∀ a,h'.get? a=some (yE row)→Dq h' (.ref a) (.str t tok))
  (e:(vq r,oAt m 0,dqA m 0,oR m 1,oR m 2,oR m 3,oR m 4)=(true,some (yE row),YV tok (yX q y.s2.cps.toList) (Ja q y.ob.slots.toList)++[],some (I,rgO y.z 0),some (L,lsO (l++[.ref (aAt m 0)]++(yX q y.s2.cps.toList).map Value.ref) y.n2),
   some (F,⟨.type "frame",none,.dict ⟨e0::⟨z1,.str "words" f1,.str (Wn++QK (Ja q y.ob.slots.toList)) y.n⟩::e2::JE y⟩ y.n3,#[]⟩),some (P,lsO y.vs y.p.line))) (D':Rp C h₀ ws m n h'):QX P F L I e0 z1 f1 e2 W l (q+1) K tok r h':=by
 refine pr7 e fun e1 e8 e3 e4 e5 e6 e7=>?_
 refine ⟨Qg e1,aAt m 0::yX q y.s2.cps.toList,t::Ja q y.ob.slots.toList,by simp only [List.length_cons,Jr],⟨hd _ (yk D' e8),zipT_z (by rw [Jr,padS_len]) fun p hp=>qc D' e3 p (List.mem_append_left _ hp)⟩,⟨y.vs,y.p.line,vr D' e7,hp⟩,⟨JE y,y.n3,y.n,?_⟩,⟨y.n2,?_⟩,y.z,vr D' e4⟩
 ·have:=vr D' e6
  rw [hw] at this
  rw [this,show QK (t::Ja q y.ob.slots.toList) = " "++t++QK (Ja q y.ob.slots.toList) from rfl,Str.append_assoc W]
 ·have:=vr D' e5
  rw [this]
  simp only [List.map_cons,List.append_assoc,List.cons_append,List.nil_append]
def Ln (k:Nat) (s:Str):Prop:=s.length≤k
def Ad (W X:Str) (n:Nat):Prop:=X.length≤W.length+n
theorem lnA {a b:Nat} {s t:Str} (h:Ln a s) (g:Ln b t):Ln (a+b) (s++t):=by
 unfold Ln;rw [Str.length_append];exact Nat.add_le_add h g
theorem ad0 {W:Str}:Ad W W 0:=Nat.le_refl _
theorem adA {W s t:Str} {a b:Nat} (h:Ad W s a) (g:Ln b t):Ad W (s++t) (a+b):=by
 unfold Ad;rw [Str.length_append,←Nat.add_assoc];exact Nat.add_le_add h g
theorem smW {W X Y:Str} {a b:Nat} (h5:W.length≤5000) (h:Ad W X a) (g:Ln b Y) (e:a+b≤1000):jk [X,Y]:=sm2 (by unfold Ad at h;unfold Ln at g;omega)
theorem smP {X Y:Str} {a b:Nat} (h:Ln a X) (g:Ln b Y) (e:a+b≤1000):jk [X,Y]:=sm2 (by unfold Ln at h g;omega)
theorem adF {W X:Str} {a q:Nat} (hW:W.length+250 * (q+1)≤5000) (h:Ad W X a) (e:a≤250):X.length+250 * q≤5000:=by unfold Ad at h;omega
local macro_rules | `(tactic| walk_at "ad")=>`(tactic| first | with_reducible assumption | decide | (repeat with_reducible first | assumption | exact ad0 | apply adA | apply lnA))
local macro_rules | `(tactic| walk_at "sm")=>`(tactic| first | (with_reducible apply smW <;> walk_at "ad";done) | (with_reducible apply smP <;> walk_at "ad";done))
local macro_rules | `(tactic| walk_at "fi")=>`(tactic| (with_reducible apply adF <;> walk_at "ad";done))
theorem len_fit {l:List Value} {x:Value} {q:Nat} (h:l.length+(q+1)≤10):(l++[x]).length+q≤10:=by rw [List.length_append,List.length_singleton];omega
structure LwK (K:Int) (q:Nat) (σ:Nat→Pn):Prop where
 k0:qS 200 (σ 0)
 k1:qS 200 (σ 1)
 k2:qS 200 (σ 2)
 k3:qS 200 (σ 3)
 k4:qS 100 (σ 3)
 k5:qS (K - 5 * q) (σ 5)
theorem lwK {K:Int} {q:Nat} {σ:Nat→Pn} {n1 n2 n3:Int} (k0:qS (K - 5 * (q+1)) (σ 0)) (hK:K≤90) (e1:σ 1=nx (σ 0) n1) (e2:σ 2=nx (σ 1) n2) (e3:σ 3=nx (σ 2) n3) (e5:σ 5=nx (nx (σ 3) 3) 3):LwK K q σ:=by
 have k1:=e1 ▸ k0.nx n1
 have k2:=e2 ▸ k1.nx n2
 have k3:=e3 ▸ k2.nx n3
 exact ⟨k0.le (by omega),k1.le (by omega),k2.le (by omega),k3.le (by omega),k3.le (by omega),e5 ▸ ((k3.nx 3).nx 3).le (by omega)⟩
theorem ltC (sh:Bool) (q:I3) (G:LwG (jb w b1 b2 b3) h P F L I (yo s t1 t2 t3 ep) (frO (⟨z0,"pen",f0,.ref P⟩::⟨z1,"words",f1,.str W tW⟩::⟨z2,"rows",f2,.ref L⟩::shF sh Vd x) fe) (lsO l le) (rgO p (q.n+1))) (ok:qS (K - 5 * (q.n+1)) s) (hs:σ 0=s) (hK:K≤90) (hW:W.length+250 * (q.n+1)≤5000) (hl:l.length+(q.n+1)≤10) (ih:∀ lc hs,(lwH yJ Vd 1000000000 K (σ 5) q.n).Ok (cfg (jb w b1 b2 b3) lc hs) PW (jb w b1 b2 b3) h [P,F,L,I]) (e1:σ 1=nx (σ 0) 2) (e2:σ 2=nx (σ 1) 3) (e3:σ 3=nx (σ 2) 4) (e5:σ 5=nx (nx (σ 3) 3) 3) (dk:dg (σ 1) 3=2) : jV (jb w b1 b2 b3) 7 (yJ F I) h [P,F,L,I] (QX P F L I ⟨z0,.str "pen" f0,.ref P⟩ z1 f1 ⟨z2,.str "rows" f2,.ref L⟩ W l (q.n+1) K 1000000000):=by
 have kk:=lwK (hs ▸ ok) hK e1 e2 e3 e5
 have hW5:W.length≤5000:=Nat.le_trans (Nat.le_add_right _ _) hW
 have c0:Ln 1 " ":=Nat.le_refl _
 have c1:Ln 5 " FOR ":=Nat.le_refl _
 have c2:Ln 4 " BY ":=Nat.le_refl _
 have c3:Ln 10 "CHARACTERS":=Nat.le_refl _
 have c4:Ln 0 "":=Nat.le_refl _
 refine vP (hooks:=[pickH σ,lbdH σ,QT,eqH,VW,lwH yJ Vd 1000000000 K (σ 5) q.n]) (hkc Vg (hkc lbdH_ok (hkc vS (hkc vM (hkc yr (hkc (ih _ _) hkn)))))) (by exact Nat.le_of_ble_eq_true (by kernel_rfl)) (fuel:=10000) (tr:=tr_ltC sh b1 b2 b3) G.shown fun n tk os bs hn=>?_
 exact ye (fun r m=>(vq r,oAt m 0,dqA m 0,oR m 1,oR m 2,oR m 3,oR m 4)) (fun r m=>(true,some (yE [(os 1).v,.str "CHARACTERS" (yR m 0 1),.none,(os 7).v,(os 7).v2]),YV 1000000000 (yX q.n (os 35).s2.cps.toList) (Ja q.n (os 35).ob.slots.toList)++[],some (I,rgO (os 35).z 0),some (L,lsO (l++[.ref (aAt m 0)]++(yX q.n (os 35).s2.cps.toList).map Value.ref) (os 35).n2),some (F,⟨.type "frame",none,.dict ⟨⟨z0,.str "pen" f0,.ref P⟩::⟨z1,.str "words" f1,.str ((W++Str.ofString " "++(os 1).s++Str.ofString " FOR "++Str.ofString "CHARACTERS"++Str.ofString ""++(os 7).s)++QK (Ja q.n (os 35).ob.slots.toList)) (os 35).n⟩::⟨z2,.str "rows" f2,.ref L⟩::JE (os 35)⟩ (os 35).n3,#[]⟩),some (P,lsO (os 35).vs (os 35).p.line))) (ps:=[(true,s.a=(σ 0).a),(true,s.b=(σ 0).b),(true,s.c=(σ 0).c),(true,qS 200 (σ 0)),(true,n+845=n+845),(true,σ 1=nx (σ 0) 2),(false,Jp true (os 1).v (os 1).s),(true,(σ 1).a=(σ 1).a),(true,(σ 1).b=(σ 1).b),(true,(σ 1).c=(σ 1).c),(true,qS 200 (σ 1)),(true,(os 0).n=(os 0).n),(true,dg (σ 1) 3=2),(true,σ 2=nx (σ 1) 3),yt,(true,(σ 2).a=(σ 2).a),(true,(σ 2).b=(σ 2).b),(true,(σ 2).c=(σ 2).c),(true,qS 200 (σ 2)),(true,785=785),(true,σ 3=nx (σ 2) 4),(false,Jp false (os 5).v (os 5).s),(true,(σ 3).a=(σ 3).a),(true,(σ 3).b=(σ 3).b),(true,(σ 3).c=(σ 3).c),(true,qS 200 (σ 3)),(true,qS 100 (σ 3)),(true,σ 5=nx (nx (σ 3) 3) 3),(false,yA (os 7).v (os 7).v2∧(os 7).s=bdW (os 7).v (os 7).v2),(true,Str.ofString "CHARACTERS" = Str.ofString "CHARACTERS"),(true,l.length≤1000),yt,(true,jk [W,Str.ofString " "]),(true,jk [W++Str.ofString " ",(os 1).s]),(true,jk [W++Str.ofString " "++(os 1).s,Str.ofString " FOR "]),(true,jk [W++Str.ofString " "++(os 1).s++Str.ofString " FOR ",Str.ofString "CHARACTERS"]),(true,Str.ofString "CHARACTERS" = Str.ofString "CHARACTERS"),(true,jk [W++Str.ofString " "++(os 1).s++Str.ofString " FOR "++Str.ofString "CHARACTERS",Str.ofString ""]),(true,jk [W++Str.ofString " "++(os 1).s++Str.ofString " FOR "++Str.ofString "CHARACTERS"++Str.ofString "",(os 7).s]),(true,yJ F I=yJ F I),(true,(σ 5).a=(σ 5).a),(true,(σ 5).b=(σ 5).b),(true,(σ 5).c=(σ 5).c),(true,(q.n:Int)+1 - 1=(q.n:Int)),(true,qS (K - 5 * (q.n:Int)) (σ 5)),(true,(W++Str.ofString " "++(os 1).s++Str.ofString " FOR "++Str.ofString "CHARACTERS"++Str.ofString ""++(os 7).s).length+250 * q.n≤5000),(true,(l++[Value.ref ((os 8).n+1)]).length+q.n≤10),(true,P≠L),(false,Qi K (os 35).vs)]) (by clear hn G ok hs hW hl ih kk hW5 c0 c1 c2 c3 c4 e1 e2 e3 e5 dk;cases sh <;> cases q <;> cases b1 <;> kernel_rfl) (⟨(by rw [hs]),⟨(by rw [hs]),⟨(by rw [hs]),⟨kk.k0,⟨rfl,⟨e1,fun q0=>have L0:Ln 10 _:=Vf q0;⟨rfl,⟨rfl,⟨rfl,⟨kk.k1,⟨rfl,⟨dk,⟨e2,fun _=>⟨rfl,⟨rfl,⟨rfl,⟨kk.k2,⟨rfl,⟨e3,fun q1=>have L1:Ln 10 _:=Vf q1;⟨rfl,⟨rfl,⟨rfl,⟨kk.k3,⟨kk.k4,⟨e5,fun q2=>have L2:Ln 60 _:=q2.2 ▸ (bdW_eq q2.1).2;⟨rfl,⟨(by omega),fun _=>⟨(by walk_at "sm"),⟨(by walk_at "sm"),⟨(by walk_at "sm"),⟨(by walk_at "sm"),⟨rfl,⟨(by walk_at "sm"),⟨(by walk_at "sm"),⟨rfl,⟨rfl,⟨rfl,⟨rfl,⟨Int.add_sub_cancel _ _,⟨kk.k5,⟨(by walk_at "fi"),⟨(len_fit hl),⟨G.pl,fun q3=>fun r m n tk e h' D'=>lwEnd (y:=(os 35)) (row:=[(os 1).v,.str "CHARACTERS" (yR m 0 1),.none,(os 7).v,(os 7).v2]) (t:=Row.tT ⟨(os 1).v,"CHARACTERS",(yR m 0 1),.none,(os 7).v,(os 7).v2⟩) (by rw [q0.2,q2.2];exact tT_C (k:=(yR m 0 1)) q2.1 q0.1 W) q3 (fun a g => .rowT a _ ⟨(os 1).v,"CHARACTERS",(yR m 0 1),.none,(os 7).v,(os 7).v2⟩ 0 g rfl rfl ⟨q0.1,.inl rfl,.inl ⟨rfl,rfl⟩,q2.1⟩) e D'⟩⟩⟩⟩⟩⟩⟩⟩⟩⟩⟩⟩⟩⟩⟩⟩⟩⟩⟩⟩⟩⟩⟩⟩⟩⟩⟩⟩⟩⟩⟩⟩⟩⟩⟩⟩⟩⟩⟩⟩⟩⟩⟩)
theorem ltN (sh:Bool) (q:I3) (G:LwG (jb w b1 b2 b3) h P F L I (yo s t1 t2 t3 ep) (frO (⟨z0,"pen",f0,.ref P⟩::⟨z1,"words",f1,.str W tW⟩::⟨z2,"rows",f2,.ref L⟩::shF sh Vd x) fe) (lsO l le) (rgO p (q.n+1))) (ok:qS (K - 5 * (q.n+1)) s) (hs:σ 0=s) (hK:K≤90) (hW:W.length+250 * (q.n+1)≤5000) (hl:l.length+(q.n+1)≤10) (ih:∀ lc hs,(lwH yJ Vd 1000000000 K (σ 5) q.n).Ok (cfg (jb w b1 b2 b3) lc hs) PW (jb w b1 b2 b3) h [P,F,L,I]) (e1:σ 1=nx (σ 0) 2) (e2:σ 2=nx (σ 1) 3) (e3:σ 3=nx (σ 2) 4) (e5:σ 5=nx (nx (σ 3) 3) 3) (dk:dg (σ 1) 3≠2) : jV (jb w b1 b2 b3) 7 (yJ F I) h [P,F,L,I] (QX P F L I ⟨z0,.str "pen" f0,.ref P⟩ z1 f1 ⟨z2,.str "rows" f2,.ref L⟩ W l (q.n+1) K 1000000000):=by
 have kk:=lwK (hs ▸ ok) hK e1 e2 e3 e5
 have hW5:W.length≤5000:=Nat.le_trans (Nat.le_add_right _ _) hW
 have c0:Ln 1 " ":=Nat.le_refl _
 have c1:Ln 5 " FOR ":=Nat.le_refl _
 have c2:Ln 4 " BY ":=Nat.le_refl _
 have c3:Ln 10 "CHARACTERS":=Nat.le_refl _
 have c4:Ln 0 "":=Nat.le_refl _
 refine vP (hooks:=[pickH σ,lbdH σ,QT,eqH,VW,lwH yJ Vd 1000000000 K (σ 5) q.n]) (hkc Vg (hkc lbdH_ok (hkc vS (hkc vM (hkc yr (hkc (ih _ _) hkn)))))) (by exact Nat.le_of_ble_eq_true (by kernel_rfl)) (fuel:=10000) (tr:=tr_ltN sh b1 b2 b3) G.shown fun n tk os bs hn=>?_
 exact ye (fun r m=>(vq r,oAt m 0,dqA m 0,oR m 1,oR m 2,oR m 3,oR m 4)) (fun r m=>(true,some (yE [(os 1).v,.str (os 3).s (yR m 0 1),(os 5).v,(os 7).v,(os 7).v2]),YV 1000000000 (yX q.n (os 38).s2.cps.toList) (Ja q.n (os 38).ob.slots.toList)++[],some (I,rgO (os 38).z 0),some (L,lsO (l++[.ref (aAt m 0)]++(yX q.n (os 38).s2.cps.toList).map Value.ref) (os 38).n2),some (F,⟨.type "frame",none,.dict ⟨⟨z0,.str "pen" f0,.ref P⟩::⟨z1,.str "words" f1,.str ((W++Str.ofString " "++(os 1).s++Str.ofString " FOR "++(os 3).s++(Str.ofString " "++(os 5).s)++(os 7).s)++QK (Ja q.n (os 38).ob.slots.toList)) (os 38).n⟩::⟨z2,.str "rows" f2,.ref L⟩::JE (os 38)⟩ (os 38).n3,#[]⟩),some (P,lsO (os 38).vs (os 38).p.line))) (ps:=[(true,s.a=(σ 0).a),(true,s.b=(σ 0).b),(true,s.c=(σ 0).c),(true,qS 200 (σ 0)),(true,n+845=n+845),(true,σ 1=nx (σ 0) 2),(false,Jp true (os 1).v (os 1).s),(true,(σ 1).a=(σ 1).a),(true,(σ 1).b=(σ 1).b),(true,(σ 1).c=(σ 1).c),(true,qS 200 (σ 1)),(true,(os 0).n=(os 0).n),(true,dg (σ 1) 3≠2),(true,σ 2=nx (σ 1) 3),(false,KdN (Nat.beq 3 4) (os 3).s),(true,(σ 2).a=(σ 2).a),(true,(σ 2).b=(σ 2).b),(true,(σ 2).c=(σ 2).c),(true,qS 200 (σ 2)),(true,785=785),(true,σ 3=nx (σ 2) 4),(false,Jp false (os 5).v (os 5).s),(true,(σ 3).a=(σ 3).a),(true,(σ 3).b=(σ 3).b),(true,(σ 3).c=(σ 3).c),(true,qS 200 (σ 3)),(true,qS 100 (σ 3)),(true,σ 5=nx (nx (σ 3) 3) 3),(false,yA (os 7).v (os 7).v2∧(os 7).s=bdW (os 7).v (os 7).v2),(true,(os 3).s≠Str.ofString "CHARACTERS"),(true,l.length≤1000),yt,(true,jk [W,Str.ofString " "]),(true,jk [W++Str.ofString " ",(os 1).s]),(true,jk [W++Str.ofString " "++(os 1).s,Str.ofString " FOR "]),(true,jk [W++Str.ofString " "++(os 1).s++Str.ofString " FOR ",(os 3).s]),(true,(os 3).s≠Str.ofString "CHARACTERS"),(true,jk [Str.ofString " ",(os 5).s]),(true,jk [W++Str.ofString " "++(os 1).s++Str.ofString " FOR "++(os 3).s,Str.ofString " "++(os 5).s]),(true,jk [W++Str.ofString " "++(os 1).s++Str.ofString " FOR "++(os 3).s++(Str.ofString " "++(os 5).s),(os 7).s]),(true,yJ F I=yJ F I),(true,(σ 5).a=(σ 5).a),(true,(σ 5).b=(σ 5).b),(true,(σ 5).c=(σ 5).c),(true,(q.n:Int)+1 - 1=(q.n:Int)),(true,qS (K - 5 * (q.n:Int)) (σ 5)),(true,(W++Str.ofString " "++(os 1).s++Str.ofString " FOR "++(os 3).s++(Str.ofString " "++(os 5).s)++(os 7).s).length+250 * q.n≤5000),(true,(l++[Value.ref ((os 8).n+1)]).length+q.n≤10),(true,P≠L),(false,Qi K (os 38).vs)]) (by clear hn G ok hs hW hl ih kk hW5 c0 c1 c2 c3 c4 e1 e2 e3 e5 dk;cases sh <;> cases q <;> cases b1 <;> kernel_rfl) (⟨(by rw [hs]),⟨(by rw [hs]),⟨(by rw [hs]),⟨kk.k0,⟨rfl,⟨e1,fun q0=>have L0:Ln 10 _:=Vf q0;⟨rfl,⟨rfl,⟨rfl,⟨kk.k1,⟨rfl,⟨dk,⟨e2,fun q1=>have L1:Ln 10 _:=(Qt q1 (.inl rfl)).2.2.1;⟨rfl,⟨rfl,⟨rfl,⟨kk.k2,⟨rfl,⟨e3,fun q2=>have L2:Ln 10 _:=Vf q2;⟨rfl,⟨rfl,⟨rfl,⟨kk.k3,⟨kk.k4,⟨e5,fun q3=>have L3:Ln 60 _:=q3.2 ▸ (bdW_eq q3.1).2;⟨(Qt q1 (.inl rfl)).2.2.2,⟨(by omega),fun _=>⟨(by walk_at "sm"),⟨(by walk_at "sm"),⟨(by walk_at "sm"),⟨(by walk_at "sm"),⟨(Qt q1 (.inl rfl)).2.2.2,⟨(by walk_at "sm"),⟨(by walk_at "sm"),⟨(by walk_at "sm"),⟨rfl,⟨rfl,⟨rfl,⟨rfl,⟨Int.add_sub_cancel _ _,⟨kk.k5,⟨(by walk_at "fi"),⟨(len_fit hl),⟨G.pl,fun q4=>fun r m n tk e h' D'=>lwEnd (y:=(os 38)) (row:=[(os 1).v,.str (os 3).s (yR m 0 1),(os 5).v,(os 7).v,(os 7).v2]) (t:=Row.tT ⟨(os 1).v,(os 3).s,(yR m 0 1),(os 5).v,(os 7).v,(os 7).v2⟩) (by rw [q0.2,q2.2,q3.2];exact tT_N (k:=(yR m 0 1)) q3.1 q0.1 q2.1 W) q4 (fun a g => .rowT a _ ⟨(os 1).v,(os 3).s,(yR m 0 1),(os 5).v,(os 7).v,(os 7).v2⟩ 0 g rfl rfl ⟨q0.1,.inr (by rcases q1 with q | q | ⟨q,_⟩;exact .inl q;exact .inr q;exact absurd q (by decide)),(Qt q1 q2.1).1,q3.1⟩) e D'⟩⟩⟩⟩⟩⟩⟩⟩⟩⟩⟩⟩⟩⟩⟩⟩⟩⟩⟩⟩⟩⟩⟩⟩⟩⟩⟩⟩⟩⟩⟩⟩⟩⟩⟩⟩⟩⟩⟩⟩⟩⟩⟩⟩)
theorem lrC (sh:Bool) (q:I3) (G:LwG (jb w b1 b2 b3) h P F L I (yo s t1 t2 t3 ep) (frO (⟨z0,"pen",f0,.ref P⟩::⟨z1,"words",f1,.str W tW⟩::⟨z2,"rows",f2,.ref L⟩::shF sh Ve x) fe) (lsO l le) (rgO p (q.n+1))) (ok:qS (K - 5 * (q.n+1)) s) (hs:σ 0=s) (hK:K≤90) (hW:W.length+250 * (q.n+1)≤5000) (hl:l.length+(q.n+1)≤10) (ih:∀ lc hs,(lwH yK Ve 1000000001 K (σ 5) q.n).Ok (cfg (jb w b1 b2 b3) lc hs) PW (jb w b1 b2 b3) h [P,F,L,I]) (e1:σ 1=nx (σ 0) 4) (e2:σ 2=nx (σ 1) 4) (e3:σ 3=nx (σ 2) 4) (e5:σ 5=nx (nx (σ 3) 3) 3) (dk:dg (σ 0) 4=2) : jV (jb w b1 b2 b3) 7 (yK F I) h [P,F,L,I] (QX P F L I ⟨z0,.str "pen" f0,.ref P⟩ z1 f1 ⟨z2,.str "rows" f2,.ref L⟩ W l (q.n+1) K 1000000001):=by
 have kk:=lwK (hs ▸ ok) hK e1 e2 e3 e5
 have hW5:W.length≤5000:=Nat.le_trans (Nat.le_add_right _ _) hW
 have c0:Ln 1 " ":=Nat.le_refl _
 have c1:Ln 5 " FOR ":=Nat.le_refl _
 have c2:Ln 4 " BY ":=Nat.le_refl _
 have c3:Ln 10 "CHARACTERS":=Nat.le_refl _
 have c4:Ln 0 "":=Nat.le_refl _
 refine vP (hooks:=[pickH σ,lbdH σ,QT,eqH,VW,lwH yK Ve 1000000001 K (σ 5) q.n]) (hkc Vg (hkc lbdH_ok (hkc vS (hkc vM (hkc yr (hkc (ih _ _) hkn)))))) (by exact Nat.le_of_ble_eq_true (by kernel_rfl)) (fuel:=10000) (tr:=tr_lrC sh b1 b2 b3) G.shown fun n tk os bs hn=>?_
 exact ye (fun r m=>(vq r,oAt m 0,dqA m 0,oR m 1,oR m 2,oR m 3,oR m 4)) (fun r m=>(true,some (yE [.str "CHARACTERS" (yR m 0 0),.none,(os 5).v,(os 7).v,(os 7).v2]),YV 1000000001 (yX q.n (os 35).s2.cps.toList) (Ja q.n (os 35).ob.slots.toList)++[],some (I,rgO (os 35).z 0),some (L,lsO (l++[.ref (aAt m 0)]++(yX q.n (os 35).s2.cps.toList).map Value.ref) (os 35).n2),some (F,⟨.type "frame",none,.dict ⟨⟨z0,.str "pen" f0,.ref P⟩::⟨z1,.str "words" f1,.str ((W++Str.ofString " "++Str.ofString "CHARACTERS"++Str.ofString ""++Str.ofString " BY "++(os 5).s++(os 7).s)++QK (Ja q.n (os 35).ob.slots.toList)) (os 35).n⟩::⟨z2,.str "rows" f2,.ref L⟩::JE (os 35)⟩ (os 35).n3,#[]⟩),some (P,lsO (os 35).vs (os 35).p.line))) (ps:=[(true,s.a=(σ 0).a),(true,s.b=(σ 0).b),(true,s.c=(σ 0).c),(true,qS 200 (σ 0)),(true,n+845=n+845),(true,dg (σ 0) 4=2),(true,σ 1=nx (σ 0) 4),yt,(true,(σ 1).a=(σ 1).a),(true,(σ 1).b=(σ 1).b),(true,(σ 1).c=(σ 1).c),(true,qS 200 (σ 1)),(true,785=785),(true,σ 2=nx (σ 1) 4),(false,Jp false (os 3).v (os 3).s),(true,(σ 2).a=(σ 2).a),(true,(σ 2).b=(σ 2).b),(true,(σ 2).c=(σ 2).c),(true,qS 200 (σ 2)),(true,785=785),(true,σ 3=nx (σ 2) 4),(false,Jp false (os 5).v (os 5).s),(true,(σ 3).a=(σ 3).a),(true,(σ 3).b=(σ 3).b),(true,(σ 3).c=(σ 3).c),(true,qS 200 (σ 3)),(true,qS 100 (σ 3)),(true,σ 5=nx (nx (σ 3) 3) 3),(false,yA (os 7).v (os 7).v2∧(os 7).s=bdW (os 7).v (os 7).v2),(true,Str.ofString "CHARACTERS" = Str.ofString "CHARACTERS"),(true,l.length≤1000),yt,(true,jk [W,Str.ofString " "]),(true,jk [W++Str.ofString " ",Str.ofString "CHARACTERS"]),(true,Str.ofString "CHARACTERS" = Str.ofString "CHARACTERS"),(true,jk [W++Str.ofString " "++Str.ofString "CHARACTERS",Str.ofString ""]),(true,jk [W++Str.ofString " "++Str.ofString "CHARACTERS"++Str.ofString "",Str.ofString " BY "]),(true,jk [W++Str.ofString " "++Str.ofString "CHARACTERS"++Str.ofString ""++Str.ofString " BY ",(os 5).s]),(true,jk [W++Str.ofString " "++Str.ofString "CHARACTERS"++Str.ofString ""++Str.ofString " BY "++(os 5).s,(os 7).s]),(true,yK F I=yK F I),(true,(σ 5).a=(σ 5).a),(true,(σ 5).b=(σ 5).b),(true,(σ 5).c=(σ 5).c),(true,(q.n:Int)+1 - 1=(q.n:Int)),(true,qS (K - 5 * (q.n:Int)) (σ 5)),(true,(W++Str.ofString " "++Str.ofString "CHARACTERS"++Str.ofString ""++Str.ofString " BY "++(os 5).s++(os 7).s).length+250 * q.n≤5000),(true,(l++[Value.ref ((os 8).n+1)]).length+q.n≤10),(true,P≠L),(false,Qi K (os 35).vs)]) (by clear hn G ok hs hW hl ih kk hW5 c0 c1 c2 c3 c4 e1 e2 e3 e5 dk;cases sh <;> cases q <;> cases b1 <;> kernel_rfl) (⟨(by rw [hs]),⟨(by rw [hs]),⟨(by rw [hs]),⟨kk.k0,⟨rfl,⟨dk,⟨e1,fun _=>⟨rfl,⟨rfl,⟨rfl,⟨kk.k1,⟨rfl,⟨e2,fun q0=>have L0:Ln 10 _:=Vf q0;⟨rfl,⟨rfl,⟨rfl,⟨kk.k2,⟨rfl,⟨e3,fun q1=>have L1:Ln 10 _:=Vf q1;⟨rfl,⟨rfl,⟨rfl,⟨kk.k3,⟨kk.k4,⟨e5,fun q2=>have L2:Ln 60 _:=q2.2 ▸ (bdW_eq q2.1).2;⟨rfl,⟨(by omega),fun _=>⟨(by walk_at "sm"),⟨(by walk_at "sm"),⟨rfl,⟨(by walk_at "sm"),⟨(by walk_at "sm"),⟨(by walk_at "sm"),⟨(by walk_at "sm"),⟨rfl,⟨rfl,⟨rfl,⟨rfl,⟨Int.add_sub_cancel _ _,⟨kk.k5,⟨(by walk_at "fi"),⟨(len_fit hl),⟨G.pl,fun q3=>fun r m n tk e h' D'=>lwEnd (y:=(os 35)) (row:=[.str "CHARACTERS" (yR m 0 0),.none,(os 5).v,(os 7).v,(os 7).v2]) (t:=Row.rT ⟨(os 5).v,"CHARACTERS",(yR m 0 0),.none,(os 7).v,(os 7).v2⟩) (by rw [q1.2,q2.2];exact rT_C (k:=(yR m 0 0)) q2.1 W) q3 (fun a g => .rowR a _ ⟨(os 5).v,"CHARACTERS",(yR m 0 0),.none,(os 7).v,(os 7).v2⟩ 0 g rfl rfl ⟨q1.1,.inl rfl,.inl ⟨rfl,rfl⟩,q2.1⟩) e D'⟩⟩⟩⟩⟩⟩⟩⟩⟩⟩⟩⟩⟩⟩⟩⟩⟩⟩⟩⟩⟩⟩⟩⟩⟩⟩⟩⟩⟩⟩⟩⟩⟩⟩⟩⟩⟩⟩⟩⟩⟩⟩⟩)
theorem lrN (sh:Bool) (q:I3) (G:LwG (jb w b1 b2 b3) h P F L I (yo s t1 t2 t3 ep) (frO (⟨z0,"pen",f0,.ref P⟩::⟨z1,"words",f1,.str W tW⟩::⟨z2,"rows",f2,.ref L⟩::shF sh Ve x) fe) (lsO l le) (rgO p (q.n+1))) (ok:qS (K - 5 * (q.n+1)) s) (hs:σ 0=s) (hK:K≤90) (hW:W.length+250 * (q.n+1)≤5000) (hl:l.length+(q.n+1)≤10) (ih:∀ lc hs,(lwH yK Ve 1000000001 K (σ 5) q.n).Ok (cfg (jb w b1 b2 b3) lc hs) PW (jb w b1 b2 b3) h [P,F,L,I]) (e1:σ 1=nx (σ 0) 4) (e2:σ 2=nx (σ 1) 4) (e3:σ 3=nx (σ 2) 4) (e5:σ 5=nx (nx (σ 3) 3) 3) (dk:dg (σ 0) 4≠2) : jV (jb w b1 b2 b3) 7 (yK F I) h [P,F,L,I] (QX P F L I ⟨z0,.str "pen" f0,.ref P⟩ z1 f1 ⟨z2,.str "rows" f2,.ref L⟩ W l (q.n+1) K 1000000001):=by
 have kk:=lwK (hs ▸ ok) hK e1 e2 e3 e5
 have hW5:W.length≤5000:=Nat.le_trans (Nat.le_add_right _ _) hW
 have c0:Ln 1 " ":=Nat.le_refl _
 have c1:Ln 5 " FOR ":=Nat.le_refl _
 have c2:Ln 4 " BY ":=Nat.le_refl _
 have c3:Ln 10 "CHARACTERS":=Nat.le_refl _
 have c4:Ln 0 "":=Nat.le_refl _
 refine vP (hooks:=[pickH σ,lbdH σ,QT,eqH,VW,lwH yK Ve 1000000001 K (σ 5) q.n]) (hkc Vg (hkc lbdH_ok (hkc vS (hkc vM (hkc yr (hkc (ih _ _) hkn)))))) (by exact Nat.le_of_ble_eq_true (by kernel_rfl)) (fuel:=10000) (tr:=tr_lrN sh b1 b2 b3) G.shown fun n tk os bs hn=>?_
 exact ye (fun r m=>(vq r,oAt m 0,dqA m 0,oR m 1,oR m 2,oR m 3,oR m 4)) (fun r m=>(true,some (yE [.str (os 1).s (yR m 0 0),(os 3).v,(os 5).v,(os 7).v,(os 7).v2]),YV 1000000001 (yX q.n (os 38).s2.cps.toList) (Ja q.n (os 38).ob.slots.toList)++[],some (I,rgO (os 38).z 0),some (L,lsO (l++[.ref (aAt m 0)]++(yX q.n (os 38).s2.cps.toList).map Value.ref) (os 38).n2),some (F,⟨.type "frame",none,.dict ⟨⟨z0,.str "pen" f0,.ref P⟩::⟨z1,.str "words" f1,.str ((W++Str.ofString " "++(os 1).s++(Str.ofString " "++(os 3).s)++Str.ofString " BY "++(os 5).s++(os 7).s)++QK (Ja q.n (os 38).ob.slots.toList)) (os 38).n⟩::⟨z2,.str "rows" f2,.ref L⟩::JE (os 38)⟩ (os 38).n3,#[]⟩),some (P,lsO (os 38).vs (os 38).p.line))) (ps:=[(true,s.a=(σ 0).a),(true,s.b=(σ 0).b),(true,s.c=(σ 0).c),(true,qS 200 (σ 0)),(true,n+845=n+845),(true,dg (σ 0) 4≠2),(true,σ 1=nx (σ 0) 4),(false,KdN (Nat.beq 4 4) (os 1).s),(true,(σ 1).a=(σ 1).a),(true,(σ 1).b=(σ 1).b),(true,(σ 1).c=(σ 1).c),(true,qS 200 (σ 1)),(true,785=785),(true,σ 2=nx (σ 1) 4),(false,Jp false (os 3).v (os 3).s),(true,(σ 2).a=(σ 2).a),(true,(σ 2).b=(σ 2).b),(true,(σ 2).c=(σ 2).c),(true,qS 200 (σ 2)),(true,785=785),(true,σ 3=nx (σ 2) 4),(false,Jp false (os 5).v (os 5).s),(true,(σ 3).a=(σ 3).a),(true,(σ 3).b=(σ 3).b),(true,(σ 3).c=(σ 3).c),(true,qS 200 (σ 3)),(true,qS 100 (σ 3)),(true,σ 5=nx (nx (σ 3) 3) 3),(false,yA (os 7).v (os 7).v2∧(os 7).s=bdW (os 7).v (os 7).v2),(true,(os 1).s≠Str.ofString "CHARACTERS"),(true,l.length≤1000),yt,(true,jk [W,Str.ofString " "]),(true,jk [W++Str.ofString " ",(os 1).s]),(true,(os 1).s≠Str.ofString "CHARACTERS"),(true,jk [Str.ofString " ",(os 3).s]),(true,jk [W++Str.ofString " "++(os 1).s,Str.ofString " "++(os 3).s]),(true,jk [W++Str.ofString " "++(os 1).s++(Str.ofString " "++(os 3).s),Str.ofString " BY "]),(true,jk [W++Str.ofString " "++(os 1).s++(Str.ofString " "++(os 3).s)++Str.ofString " BY ",(os 5).s]),(true,jk [W++Str.ofString " "++(os 1).s++(Str.ofString " "++(os 3).s)++Str.ofString " BY "++(os 5).s,(os 7).s]),(true,yK F I=yK F I),(true,(σ 5).a=(σ 5).a),(true,(σ 5).b=(σ 5).b),(true,(σ 5).c=(σ 5).c),(true,(q.n:Int)+1 - 1=(q.n:Int)),(true,qS (K - 5 * (q.n:Int)) (σ 5)),(true,(W++Str.ofString " "++(os 1).s++(Str.ofString " "++(os 3).s)++Str.ofString " BY "++(os 5).s++(os 7).s).length+250 * q.n≤5000),(true,(l++[Value.ref ((os 8).n+1)]).length+q.n≤10),(true,P≠L),(false,Qi K (os 38).vs)]) (by clear hn G ok hs hW hl ih kk hW5 c0 c1 c2 c3 c4 e1 e2 e3 e5 dk;cases sh <;> cases q <;> cases b1 <;> kernel_rfl) (⟨(by rw [hs]),⟨(by rw [hs]),⟨(by rw [hs]),⟨kk.k0,⟨rfl,⟨dk,⟨e1,fun q0=>have L0:Ln 10 _:=(Qt q0 (.inl rfl)).2.2.1;⟨rfl,⟨rfl,⟨rfl,⟨kk.k1,⟨rfl,⟨e2,fun q1=>have L1:Ln 10 _:=Vf q1;⟨rfl,⟨rfl,⟨rfl,⟨kk.k2,⟨rfl,⟨e3,fun q2=>have L2:Ln 10 _:=Vf q2;⟨rfl,⟨rfl,⟨rfl,⟨kk.k3,⟨kk.k4,⟨e5,fun q3=>have L3:Ln 60 _:=q3.2 ▸ (bdW_eq q3.1).2;⟨(Qt q0 (.inl rfl)).2.2.2,⟨(by omega),fun _=>⟨(by walk_at "sm"),⟨(by walk_at "sm"),⟨(Qt q0 (.inl rfl)).2.2.2,⟨(by walk_at "sm"),⟨(by walk_at "sm"),⟨(by walk_at "sm"),⟨(by walk_at "sm"),⟨(by walk_at "sm"),⟨rfl,⟨rfl,⟨rfl,⟨rfl,⟨Int.add_sub_cancel _ _,⟨kk.k5,⟨(by walk_at "fi"),⟨(len_fit hl),⟨G.pl,fun q4=>fun r m n tk e h' D'=>lwEnd (y:=(os 38)) (row:=[.str (os 1).s (yR m 0 0),(os 3).v,(os 5).v,(os 7).v,(os 7).v2]) (t:=Row.rT ⟨(os 5).v,(os 1).s,(yR m 0 0),(os 3).v,(os 7).v,(os 7).v2⟩) (by rw [q1.2,q2.2,q3.2];exact rT_N (k:=(yR m 0 0)) q3.1 q1.1 (Qt q0 q1.1).1 W) q4 (fun a g => .rowR a _ ⟨(os 5).v,(os 1).s,(yR m 0 0),(os 3).v,(os 7).v,(os 7).v2⟩ 0 g rfl rfl ⟨q2.1,(Qt q0 q1.1).2.1,(Qt q0 q1.1).1,q3.1⟩) e D'⟩⟩⟩⟩⟩⟩⟩⟩⟩⟩⟩⟩⟩⟩⟩⟩⟩⟩⟩⟩⟩⟩⟩⟩⟩⟩⟩⟩⟩⟩⟩⟩⟩⟩⟩⟩⟩⟩⟩⟩⟩⟩⟩⟩)
theorem lwExit {C:Cfg} {r:Result} {m:List En} {n:Nat} {h':Heap} {tok:Nat} {rest:List Str} {sh:Bool} (ok:qS (K - 5 * (0:Nat)) s)
  (e:(vq r,oR m 1,oR m 2,oR m 3,oR m 4)=(true,some (I,rgO p 0),some (L,lsO l le),some (F,frO (⟨z0,"pen",f0,.ref P⟩::⟨z1,"words",f1,.str W tW⟩::⟨z2,"rows",f2,.ref L⟩::shF sh rest x) fe),some (P,yo s t1 t2 t3 ep))) (D':Rp C h₀ ws m n h') :
  QX P F L I ⟨z0,.str "pen" f0,.ref P⟩ z1 f1 ⟨z2,.str "rows" f2,.ref L⟩ W l 0 K tok r h':=by
 refine pr5 e fun e1 e4 e5 e6 e7=>?_
 refine ⟨Qg e1,[],[],rfl,trivial,⟨_,ep,vr D' e7,⟨s,t1,t2,t3,rfl,ok.le (by omega)⟩⟩,⟨(shF sh rest x).map Fe.en,fe,tW,?_⟩,⟨le,?_⟩,p,vr D' e4⟩
 ·rw [vr D' e6,show W++QK []=W from Str.append_empty W]
  rfl
 ·rw [vr D' e5,List.map_nil,List.append_nil]
theorem ltX (sh:Bool) (G:LwG (jb w b1 b2 b3) h P F L I (yo s t1 t2 t3 ep) (frO (⟨z0,"pen",f0,.ref P⟩::⟨z1,"words",f1,.str W tW⟩::⟨z2,"rows",f2,.ref L⟩::shF sh Vd x) fe) (lsO l le) (rgO p 0)) (ok:qS (K - 5 * (0:Nat)) s) : jV (jb w b1 b2 b3) 7 (yJ F I) h [P,F,L,I] (QX P F L I ⟨z0,.str "pen" f0,.ref P⟩ z1 f1 ⟨z2,.str "rows" f2,.ref L⟩ W l 0 K 1000000000):=by
 refine vP (hooks:=[]) hkn (by exact Nat.le_of_ble_eq_true (by kernel_rfl)) (fuel:=10000) (tr:=tr_ltX b1 b2 b3) G.shown fun n tk os bs hn=>?_
 exact ye (fun r m=>(vq r,oR m 1,oR m 2,oR m 3,oR m 4)) (fun r m=>(true,some (I,rgO p 0),some (L,lsO l le),some (F,(frO (⟨z0,"pen",f0,.ref P⟩::⟨z1,"words",f1,.str W tW⟩::⟨z2,"rows",f2,.ref L⟩::shF sh Vd x) fe)),some (P,yo s t1 t2 t3 ep))) (ps:=[]) (by clear hn G ok;cases sh <;> cases b1 <;> kernel_rfl) (fun r m n tk e h' D'=>lwExit ok e D')
theorem lrX (sh:Bool) (G:LwG (jb w b1 b2 b3) h P F L I (yo s t1 t2 t3 ep) (frO (⟨z0,"pen",f0,.ref P⟩::⟨z1,"words",f1,.str W tW⟩::⟨z2,"rows",f2,.ref L⟩::shF sh Ve x) fe) (lsO l le) (rgO p 0)) (ok:qS (K - 5 * (0:Nat)) s) : jV (jb w b1 b2 b3) 7 (yK F I) h [P,F,L,I] (QX P F L I ⟨z0,.str "pen" f0,.ref P⟩ z1 f1 ⟨z2,.str "rows" f2,.ref L⟩ W l 0 K 1000000001):=by
 refine vP (hooks:=[]) hkn (by exact Nat.le_of_ble_eq_true (by kernel_rfl)) (fuel:=10000) (tr:=tr_lrX b1 b2 b3) G.shown fun n tk os bs hn=>?_
 exact ye (fun r m=>(vq r,oR m 1,oR m 2,oR m 3,oR m 4)) (fun r m=>(true,some (I,rgO p 0),some (L,lsO l le),some (F,(frO (⟨z0,"pen",f0,.ref P⟩::⟨z1,"words",f1,.str W tW⟩::⟨z2,"rows",f2,.ref L⟩::shF sh Ve x) fe)),some (P,yo s t1 t2 t3 ep))) (ps:=[]) (by clear hn G ok;cases sh <;> cases b1 <;> kernel_rfl) (fun r m n tk e h' D'=>lwExit ok e D')
theorem isEmp_eq {α:Type} {l:List α} (h:isEmp l=true):l=[]:=by cases l <;> first | rfl | cases h
theorem lwH_ok {w:World} {loop:Addr→Addr→Code} {rest:List Str} {tok q:Nat}
  (S:∀ {h:Heap} {P F L I t1 t2 t3 ep fe le f0 f1 f2 tW:Nat} {z0 z1 z2 p:Int} {x:Nat→Fe} {W:Str} {l:List Value} {sh:Bool},LwG w h P F L I (yo s t1 t2 t3 ep) (frO (⟨z0,"pen",f0,.ref P⟩::⟨z1,"words",f1,.str W tW⟩::⟨z2,"rows",f2,.ref L⟩::shF sh rest x) fe) (lsO l le) (rgO p q) →
   qS (K - 5 * q) s→W.length+250 * q≤5000→l.length+q≤10→jV w 7 (loop F I) h [P,F,L,I] (QX P F L I ⟨z0,.str "pen" f0,.ref P⟩ z1 f1 ⟨z2,.str "rows" f2,.ref L⟩ W l q K tok)):(lwH loop rest tok K s q).Ok (cfg w lc hs) PW w h₀ ws:=by
 refine YE fun c m hint=>?_
 refine iFo fun tg it bo oe env b1=>iRf fun I b2=>iL4 fun jP jF jL jI b3=>iN fun eF fs fe qF qf=>iC3 fun e0 e1 e2 tl b4=>iT fun qn=>iRf fun P q0=>yl fun W tW q1=>iRf fun L q2=>iN fun eL l le qL ql=>iM fun eP s' qP qp=>iN fun eI p r qI qr=>?_
 subst b1 b2 b3 b4
 refine iE ?_
 intro h he hm hi hst hk hdq hoff hap hold
 have a1:env.locals=eF.a:=he (env.locals,eF.a) (.head _)
 have a2:P=eP.a:=yM he 1
 have a3:L=eL.a:=yM he 2
 have a4:I=eI.a:=yM he 3
 have c1:_=loop env.locals I:=hm _ (.head _)
 have c2:s'.a=s.a:=vV hm 1
 have c3:s'.b=s.b:=vV hm 2
 have c4:s'.c=s.c:=vV hm 3
 have c5:r=(q:Int):=vV hm 4
 have c6:qS (K - 5 * q) s:=vV hm 5
 have c7:W.length+250 * q≤5000:=vV hm 6
 have c8:l.length+q≤10:=vV hm 7
 have c9:eP.a≠eL.a:=vV hm 8
 have w1:=Jv hi qP
 have hi2:=Kx hi
 have w2:=Jv hi2 qF
 have hi3:=Kx hi2
 have w3:=Jv hi3 qL
 have hi4:=Kx hi3
 have w4:=Jv hi4 qI
 clear hi2 hi3 hi4 he hm hi
 have es:s'=s:=by
  obtain ⟨sa,sb,sc⟩:=s'
  dsimp only at c2 c3 c4
  rw [c2,c3,c4]
 subst es a2 a3 a4
 obtain ⟨t1,t2,t3,ep,oP⟩:=pen_eq qp
 have oF:=fr_eq qf
 have oL:=yq ql
 have oI:=rg_eq qr
 have c5:r=(q:Int):=c5
 subst c5
 simp only [Bool.and_eq_true,Bool.or_eq_true] at qn
 obtain ⟨⟨⟨n0,n1⟩,n2⟩,n3⟩:=qn
 obtain ⟨z0,s0,f0,v0⟩:=e0
 obtain ⟨z1,s1,f1,v1⟩:=e1
 obtain ⟨z2,s2,f2,v2⟩:=e2
 have n0:=vw n0
 have n1:=vw n1
 have n2:=vw n2
 dsimp only at n0 n1 n2 q0 q1 q2
 subst n0 n1 n2 q0 q1 q2
 have ntl:∃ sh x,tl=shF sh rest x:=by
  rcases n3 with n3 | n3
  ·exact ⟨false,fun _=>⟨0,"",0,.none⟩,isEmp_eq n3⟩
  ·obtain ⟨x,hx⟩:=Ql n3
   exact ⟨true,x,hx⟩
 obtain ⟨sh,x,rfl⟩:=ntl
 have mP:=List.mem_of_getElem? qP
 have mF:=List.mem_of_getElem? qF
 have mL:=List.mem_of_getElem? qL
 have mI:=List.mem_of_getElem? qI
 have G:LwG w h eP.a eF.a eL.a eI.a _ _ _ _:=⟨hst,oP ▸ hk eP mP,oF ▸ hk eF mF,oL ▸ hk eL mL,oI ▸ hk eI mI,hoff eP mP w1,hoff eF mF w2,hoff eL mL w3,hoff eI mI w4,c9,rfl,rfl,rfl,rfl⟩
 have X:=S G c6 c7 c8
 rw [a1] at c1
 rw [←c1] at X
 refine jV.on (adC qP (adC qF (adC qL (adC qI adN)))) X fun r h' _ p=>?_
 refine lwOut_e p fun ee as ts la dz vs ep1 p1 pl es ep2 t p2 ep3 p3 pp p4=>?_
 subst ee
 have lt:ts.length=q:=by rw [←dz.len,la]
 have ha:yX q as=as:=by rw [←la];exact padA_of as
 have ht:Ja q (ts.map fun t=>some (Value.str t 0))=ts:=by rw [←lt];exact padS_of ts
 refine ⟨{(default:Ora) with n:=t,n2:=ep3,n3:=ep2,z:=pp,vs:=vs,s2:=⟨⟨as⟩⟩,ob:=⟨.none,none,.dict ⟨es⟩ 0,⟨ts.map fun t=>some (Value.str t 0)⟩⟩,p:={(default:Pos) with line:=ep1}},rfl,pl,⟨⟨eP,qP,p1,by rw [oP];rfl⟩,⟨eF,qF,?_,by rw [oF];rfl⟩,⟨eL,qL,?_,by rw [oL];rfl⟩,⟨eI,qI,p4,by rw [oI];rfl⟩,trivial⟩,fun _ q=>(nomatch q),?_⟩
 ·show h'.get? eF.a=some ⟨.type "frame",none,.dict ⟨_::⟨z1,.str "words" f1,.str (W++QK (Ja q (ts.map fun t=>some (Value.str t 0)))) t⟩::_::es⟩ ep2,#[]⟩
  rw [ht];exact p2
 ·show h'.get? eL.a=some (lsO (l++(yX q as).map Value.ref) ep3)
  rw [ha];exact p3
 ·show ∀ p∈YV tok (yX q as) (Ja q (ts.map fun t=>some (Value.str t 0))),_
  rw [ha,ht]
  exact z_zipT dz
theorem I3.at {q:Nat} (h:q+1≤3):∃ i:I3,i.n=q:=by
 match q,h with
 |0,_=>exact ⟨.a,rfl⟩
 |1,_=>exact ⟨.b,rfl⟩
 |2,_=>exact ⟨.c,rfl⟩
def Kr (s:Pn) (a b c:Int):Nat→Pn
 |0=>s
 |1=>nx s a
 |2=>nx (nx s a) b
 |3=>nx (nx (nx s a) b) c
 |_=>nx (nx (nx (nx (nx s a) b) c) 3) 3
theorem lt_says (hK:K≤90):∀ (q:Nat),q≤3→∀ {h:Heap} {P F L I t1 t2 t3 ep fe le f0 f1 f2 tW:Nat} {z0 z1 z2 p:Int} {s:Pn} {x:Nat→Fe} {W:Str} {l:List Value} {sh:Bool},LwG (jb w b1 b2 b3) h P F L I (yo s t1 t2 t3 ep) (frO (⟨z0,"pen",f0,.ref P⟩::⟨z1,"words",f1,.str W tW⟩::⟨z2,"rows",f2,.ref L⟩::shF sh Vd x) fe) (lsO l le) (rgO p q) →
   qS (K - 5 * q) s→W.length+250 * q≤5000→l.length+q≤10→jV (jb w b1 b2 b3) 7 (yJ F I) h [P,F,L,I] (QX P F L I ⟨z0,.str "pen" f0,.ref P⟩ z1 f1 ⟨z2,.str "rows" f2,.ref L⟩ W l q K 1000000000):=by
 intro q
 induction q with
 |zero=>intro _ h P F L I t1 t2 t3 ep fe le f0 f1 f2 tW z0 z1 z2 p s x W l sh G ok _ _;exact ltX sh G ok
 |succ q IH =>
  intro hq h P F L I t1 t2 t3 ep fe le f0 f1 f2 tW z0 z1 z2 p s x W l sh G ok hW hl
  obtain ⟨i,rfl⟩:=I3.at hq
  have ih:∀ lc hs,(lwH yJ Vd 1000000000 K (Kr s 2 3 4 5) i.n).Ok (cfg (jb w b1 b2 b3) lc hs) PW (jb w b1 b2 b3) h [P,F,L,I]:=fun lc hs=>lwH_ok (fun G a b c=>IH (by omega) G a b c)
  have e:((i.n+1:Nat):Int)=(i.n:Int)+1:=rfl
  rw [e] at G ok
  by_cases dk:dg (Kr s 2 3 4 1) 3=2
  ·exact ltC (σ:=Kr s 2 3 4) sh i G ok rfl hK hW hl ih rfl rfl rfl rfl dk
  ·exact ltN (σ:=Kr s 2 3 4) sh i G ok rfl hK hW hl ih rfl rfl rfl rfl dk
theorem lr_says (hK:K≤90):∀ (q:Nat),q≤3→∀ {h:Heap} {P F L I t1 t2 t3 ep fe le f0 f1 f2 tW:Nat} {z0 z1 z2 p:Int} {s:Pn} {x:Nat→Fe} {W:Str} {l:List Value} {sh:Bool},LwG (jb w b1 b2 b3) h P F L I (yo s t1 t2 t3 ep) (frO (⟨z0,"pen",f0,.ref P⟩::⟨z1,"words",f1,.str W tW⟩::⟨z2,"rows",f2,.ref L⟩::shF sh Ve x) fe) (lsO l le) (rgO p q) →
   qS (K - 5 * q) s→W.length+250 * q≤5000→l.length+q≤10→jV (jb w b1 b2 b3) 7 (yK F I) h [P,F,L,I] (QX P F L I ⟨z0,.str "pen" f0,.ref P⟩ z1 f1 ⟨z2,.str "rows" f2,.ref L⟩ W l q K 1000000001):=by
 intro q
 induction q with
 |zero=>intro _ h P F L I t1 t2 t3 ep fe le f0 f1 f2 tW z0 z1 z2 p s x W l sh G ok _ _;exact lrX sh G ok
 |succ q IH =>
  intro hq h P F L I t1 t2 t3 ep fe le f0 f1 f2 tW z0 z1 z2 p s x W l sh G ok hW hl
  obtain ⟨i,rfl⟩:=I3.at hq
  have ih:∀ lc hs,(lwH yK Ve 1000000001 K (Kr s 4 4 4 5) i.n).Ok (cfg (jb w b1 b2 b3) lc hs) PW (jb w b1 b2 b3) h [P,F,L,I]:=fun lc hs=>lwH_ok (fun G a b c=>IH (by omega) G a b c)
  have e:((i.n+1:Nat):Int)=(i.n:Int)+1:=rfl
  rw [e] at G ok
  by_cases dk:dg (Kr s 4 4 4 0) 4=2
  ·exact lrC (σ:=Kr s 4 4 4) sh i G ok rfl hK hW hl ih rfl rfl rfl rfl dk
  ·exact lrN (σ:=Kr s 4 4 4) sh i G ok rfl hK hW hl ih rfl rfl rfl rfl dk
end
def drEH (σ:Nat→Pn):Hook:=Yv 799 2 1 σ
 (fun rest m k j hint=>oL1 rest fun v =>
  Jb v fun n _ =>
  oL1 hint fun i =>
  some {musts:=[0 < n,n < 100,dg (σ k) n=i,σ j=nx (σ k) n],res:=fun y => .ok (.ret (.int (Int.ofNat i) y.p.col))})
def penLHSp (K:Int) (K':Int) (P:PySem.Addr) (jP:Nat) (e:Mine.En) (l:List PySem.Value) (x:Mine.PnS):vy:={idx:=[jP],us:=fun _=>{eqs:=[(P,e.a)],musts:=Qi K l::x.musts,res:=x.res,may:=fun y=>Qi K' y.vs∧x.may y,objs:=fun y=>[lsO y.vs y.p.line],news:=x.news,dq:=x.dq}}
def penLH (f:Addr) (lv:Nat) (K K':Int) (spec:List Value→List En→List Nat→Option PnS):Hook:=yB 0 lv
 (fun c m hint=>oCa (.ref f) c fun args =>
  oC1 args fun self rest =>
  oRf self fun P =>
  oC1 hint fun jP hint =>
  oN m jP (QZ) fun e l _ =>
  oS (spec rest m hint) fun x =>
  some (penLHSp K K' P jP e l x))
def lawPickH:Hook:=penLH 806 3 1 2
 (fun rest m hint=>oL1 rest fun v =>
  oRf v fun S =>
  oL1 hint fun jS =>
  oM m jS (JC "tuple") fun e vs =>
  oT (vs.all (isSrt true) && Nat.beq vs.length 2) <|
  some {musts:=[S=e.a],res:=fun y => .ok (.ret (.ref y.p.col)),may:=fun y=>Jp true (.ref y.n) y.s,news:=[((.type "tuple",0),fun y=>y.p.col,fun y=>yE [.ref y.n,.str y.s y.p.endLine])]})
def lawRowsH (f:Addr) (K K':Int) (tok:Nat):Hook:=penLH f 9 K K'
 (fun rest m hint=>oL0 rest <|
  oL0 hint <|
  some {res:=fun y => .ok (.ret (.ref y.p.col)),may:=fun y=>y.s.length≤700,news:=[((.type "tuple",0),fun y=>y.p.col,fun y=>yE [.ref y.p.endLine,.str y.s y.p.endCol])],dq:=fun y=>[(.ref y.p.endLine,.str y.s tok)]})
def lawTalH:Hook:=lawRowsH 820 2 22 1000000002
def lawRepH:Hook:=lawRowsH 827 22 42 1000000003
noncomputable def dqAll:List En→List (Value×Value)
 |[]=>[]
 |e::m=>e.dq++dqAll m
def tr_ft (i:I3) (b1 b2 b3:Bool):Tr:=match i with
 |.a=>T [1,1,0,1,1,1,0,1,1,1,0,1,1,1,2,1,1,1,0,1,1,1,2,1,1,1,0,1,1,1,2,1,1,1,6,6,6,6,0,0,0,6,0,1,4,6,0,1] (T [0,0,0,0,1,1,0,1,1,1,1,0,1,1,1,1,1,2,4,8,7,6,0,0,0,8,0,3,1,6,1,1,0,1,1,9] .nil)
 |.b=>T [1,1,0,1,1,1,0,1,1,1,0,1,1,1,2,1,1,1,0,1,1,1,2,1,1,1,0,1,1,1,2,1,1,1,6,6,6,6,0,0,0,6,0,1,4,6,0,1] (T [1,0,0,0,1,1,0,1,1,1,1,0,1,1,1,1,1,2,4,8,7,6,0,0,0,8,0,3,1,6,1,1,0,1,1,9] .nil)
 |.c=>T [1,1,0,1,1,1,0,1,1,1,0,1,1,1,2,1,1,1,0,1,1,1,2,1,1,1,0,1,1,1,2,1,1,1,6,6,6,6,0,0,0,6,0,1,4,6,0,1] (T [2,0,0,0,1,1,0,1,1,1,1,0,1,1,1,1,1,2,4,8,7,6,0,0,0,8,0,3,1,6,1,1,0,1,1,9] .nil)
def tr_fr (i:I3) (b1 b2 b3:Bool):Tr:=match i with
 |.a=>T [1,1,0,1,1,1,0,1,1,1,0,1,1,1,2,1,1,1,0,1,1,1,2,1,1,1,0,1,1,1,2,1,1,1,6,6,6,6,0,0,0,6,0,1,4,6,0,1] (T [0,0,0,0,1,1,0,1,1,1,1,0,1,1,1,1,1,2,4,8,7,6,0,0,0,8,0,3,1,6,1,1,0,1,1,9] .nil)
 |.b=>T [1,1,0,1,1,1,0,1,1,1,0,1,1,1,2,1,1,1,0,1,1,1,2,1,1,1,0,1,1,1,2,1,1,1,6,6,6,6,0,0,0,6,0,1,4,6,0,1] (T [1,0,0,0,1,1,0,1,1,1,1,0,1,1,1,1,1,2,4,8,7,6,0,0,0,8,0,3,1,6,1,1,0,1,1,9] .nil)
 |.c=>T [1,1,0,1,1,1,0,1,1,1,0,1,1,1,2,1,1,1,0,1,1,1,2,1,1,1,0,1,1,1,2,1,1,1,6,6,6,6,0,0,0,6,0,1,4,6,0,1] (T [2,0,0,0,1,1,0,1,1,1,1,0,1,1,1,1,1,2,4,8,7,6,0,0,0,8,0,3,1,6,1,1,0,1,1,9] .nil)
theorem ok820 (w:World):vH (ktP w) 820=true:=by kernel_rfl
theorem ok827 (w:World):vH (ktP w) 827=true:=by kernel_rfl
theorem I3.le (i:I3):i.n+1≤3:=by cases i <;> decide
def LtOut (P:Addr) (K:Int) (tok:Nat) (w0:Str) (r:Result) (h':Heap):Prop:=∃ a T t as ts,r = .ok (.ret (.ref a))∧h'.get? a=some (yE [.ref T,.str (w0++QK ts) t])∧h'.get? T=some (yE (as.map Value.ref))∧1≤as.length∧as.length≤3∧DqZ h' tok as ts∧∃ vs ep,h'.get? P=some (lsO vs ep)∧Qi K vs
section
variable {w:World} {b1 b2 b3:Bool} {lc:Nat} {hs:List Mine.Hook} {h₀:Heap} {ws:List Addr} {h:Heap} {P S t1 t2 t3 ep tm ep2:Nat} {s:Pn} {K K':Int} {σ:Nat→Pn}
theorem drEH_ok:(drEH σ).Ok (cfg (jb w b1 b2 b3) lc hs) PW (jb w b1 b2 b3) h₀ ws:=by
 refine QN fun rest m k j hint=>?_
 refine iL1 fun _ b1=>Jg fun _ _ b2=>iL1 fun _ b3=>?_
 subst b1 b2 b3
 refine iE ?_
 intro h P t1 t2 t3 ep hm hst hk off g ok hold
 have d:dg (σ k) _=_:=vV hm 2
 have e:σ j=nx (σ k) _:=vV hm 3
 refine (draw_says hst g off ok (hm _ (.head _)) (hm _ (.tail _ (.head _)))).mono fun r h' _ p=>?_
 obtain ⟨x,u1,u2,u3,up,rfl,g',t,rfl⟩:=p
 exact ⟨{(default:Ora) with n:=u1,n2:=u2,n3:=u3,p:={(default:Pos) with line:=up,col:=t}},by rw [d];rfl,trivial,by rw [e];exact g',fun _ q=>(nomatch q),fun _ q=>(nomatch q)⟩
theorem ltEnd {C:Cfg} {r:Result} {m:List En} {n:Nat} {h':Heap} {tok:Nat} {y:Ora} {w0:Str} {i:I3} (hp:Qi K y.vs)
  (e:(vR r,yW r,oAt m 0,oAt m 1,dqAll m,oR m 0)=(true,aAt m 0,some (yE [.ref (aAt m 1),.str (w0++QK (Ja (i.n+1) y.ob.slots.toList)) (yR m 0 1)]),some (yE ([]++(yX (i.n+1) y.s2.cps.toList).map Value.ref)),YV tok (yX (i.n+1) y.s2.cps.toList) (Ja (i.n+1) y.ob.slots.toList)++[],some (P,lsO y.vs y.p.line))) (D':Rp C h₀ ws m n h'):LtOut P K tok w0 r h':=by
 refine pr6 e fun e1 e2 e3 e4 e5 e6=>?_
 have all:∀ (m:List En),(∀ e∈m,∀ p∈e.dq,Dq h' p.1 p.2)→∀ p∈dqAll m,Dq h' p.1 p.2:=by
  intro m
  induction m with
  |nil=>intro _ p hp;cases hp
  |cons x m ih =>
   intro H p hp
   rcases List.mem_append.mp hp with q | q
   ·exact H x (.head _) p q
   ·exact ih (fun e he=>H e (.tail _ he)) p q
 refine ⟨aAt m 0,aAt m 1,_,yX (i.n+1) y.s2.cps.toList,_,by rw [vl e1,e2],yk D' e3,yk D' e4,by rw [Jr];omega,by rw [Jr];exact I3.le i,zipT_z (by rw [Jr,padS_len]) fun p hp=>all m D'.facts p ?_,_,_,vr D' e6,hp⟩
 rw [e5]
 exact List.mem_append_left _ hp
theorem ft (i:I3) (hst:St (jb w b1 b2 b3) h) (g:h.get? P=some (yo s t1 t2 t3 ep)) (off:(ktP (jb w b1 b2 b3)).get P=none) (ok:qS (K - 16) s) (hs:σ 0=s) (hK:K≤90) (e1:σ 1=nx (σ 0) 3) (dk:dg (σ 0) 3=i.n) : jr (jb w b1 b2 b3) 9 (.call (.ref 820) ⟨[.ref P],[]⟩) h [P] (LtOut P K 1000000000 "TALLYING"):=by
 have ne:∀ n,h.objs.size=n+845→P≠n+846:=fun n hn e=>by have q:(P:Nat) < n+845:=hn ▸ Heap.lt_size g;have e:(P:Nat)=n+846:=e;omega
 refine Yt (hooks:=[drEH σ,lwH yJ Vd 1000000000 K (σ 1) (i.n+1),JY]) (hkc drEH_ok (hkc (lwH_ok (fun G a b c=>lt_says hK _ (I3.le i) G a b c)) (hkc yx hkn))) (fuel:=10000) (tr:=tr_ft i b1 b2 b3) (ok820 _) (Vh hst g off) fun n tk os bs hn=>?_
 exact ye (fun r m=>(vR r,yW r,oAt m 0,oAt m 1,dqAll m,oR m 0)) (fun r m=>(true,aAt m 0,some (yE [.ref (aAt m 1),.str ("TALLYING"++QK (Ja (i.n+1) (os 3).ob.slots.toList)) (yR m 0 1)]),some (yE ([]++(yX (i.n+1) (os 3).s2.cps.toList).map Value.ref)),YV 1000000000 (yX (i.n+1) (os 3).s2.cps.toList) (Ja (i.n+1) (os 3).ob.slots.toList)++[],some (P,lsO (os 3).vs (os 3).p.line))) (ps:=[(true,s.a=(σ 0).a),(true,s.b=(σ 0).b),(true,s.c=(σ 0).c),(true,qS 200 (σ 0)),(true,(0:Int) < 3),(true,(3:Int) < 100),(true,dg (σ 0) 3=(i.n:Int)),(true,σ 1=nx (σ 0) 3),yt,(true,yJ (n+845) ((os 0).n+1)=yJ (n+845) ((os 0).n+1)),(true,(σ 1).a=(σ 1).a),(true,(σ 1).b=(σ 1).b),(true,(σ 1).c=(σ 1).c),(true,((i.n+1:Nat):Int)=((i.n+1:Nat):Int)),(true,qS (K - 5 * ((i.n+1:Nat):Int)) (σ 1)),(true,(Str.ofString "TALLYING").length+250 * (i.n+1)≤5000),(true,([]:List Value).length+(i.n+1)≤10),(true,P≠n+846),(false,Qi K (os 3).vs),(true,([]++List.map Value.ref (yX (i.n+1) (os 3).s2.cps.toList)).length≤1000),yt]) (by clear hn hst g off ok hs hK e1 dk ne;cases i <;> cases b1 <;> kernel_rfl) (⟨(by rw [hs]),⟨(by rw [hs]),⟨(by rw [hs]),⟨(hs ▸ ok.le (by omega)),⟨(by decide),⟨(by decide),⟨dk,⟨e1,fun _=>⟨rfl,⟨rfl,⟨rfl,⟨rfl,⟨rfl,⟨(by rw [e1,hs];have:=I3.le i;exact (ok.nx 3).le (by omega)),⟨(by have:=I3.le i;have c:Str.length "TALLYING" = 8:=rfl;omega),⟨(by have:=I3.le i;simp only [List.length_nil];omega),⟨(ne _ hn),fun q0=>⟨(by rw [List.nil_append,List.length_map,Jr];have:=I3.le i;omega),fun _=>fun r m n tk e h' D'=>ltEnd (y:=(os 3)) q0 e D'⟩⟩⟩⟩⟩⟩⟩⟩⟩⟩⟩⟩⟩⟩⟩⟩⟩⟩)
theorem fr (i:I3) (hst:St (jb w b1 b2 b3) h) (g:h.get? P=some (yo s t1 t2 t3 ep)) (off:(ktP (jb w b1 b2 b3)).get P=none) (ok:qS (K - 16) s) (hs:σ 0=s) (hK:K≤90) (e1:σ 1=nx (σ 0) 3) (dk:dg (σ 0) 3=i.n) : jr (jb w b1 b2 b3) 9 (.call (.ref 827) ⟨[.ref P],[]⟩) h [P] (LtOut P K 1000000001 "REPLACING"):=by
 have ne:∀ n,h.objs.size=n+845→P≠n+846:=fun n hn e=>by have q:(P:Nat) < n+845:=hn ▸ Heap.lt_size g;have e:(P:Nat)=n+846:=e;omega
 refine Yt (hooks:=[drEH σ,lwH yK Ve 1000000001 K (σ 1) (i.n+1),JY]) (hkc drEH_ok (hkc (lwH_ok (fun G a b c=>lr_says hK _ (I3.le i) G a b c)) (hkc yx hkn))) (fuel:=10000) (tr:=tr_fr i b1 b2 b3) (ok827 _) (Vh hst g off) fun n tk os bs hn=>?_
 exact ye (fun r m=>(vR r,yW r,oAt m 0,oAt m 1,dqAll m,oR m 0)) (fun r m=>(true,aAt m 0,some (yE [.ref (aAt m 1),.str ("REPLACING"++QK (Ja (i.n+1) (os 3).ob.slots.toList)) (yR m 0 1)]),some (yE ([]++(yX (i.n+1) (os 3).s2.cps.toList).map Value.ref)),YV 1000000001 (yX (i.n+1) (os 3).s2.cps.toList) (Ja (i.n+1) (os 3).ob.slots.toList)++[],some (P,lsO (os 3).vs (os 3).p.line))) (ps:=[(true,s.a=(σ 0).a),(true,s.b=(σ 0).b),(true,s.c=(σ 0).c),(true,qS 200 (σ 0)),(true,(0:Int) < 3),(true,(3:Int) < 100),(true,dg (σ 0) 3=(i.n:Int)),(true,σ 1=nx (σ 0) 3),yt,(true,yK (n+845) ((os 0).n+1)=yK (n+845) ((os 0).n+1)),(true,(σ 1).a=(σ 1).a),(true,(σ 1).b=(σ 1).b),(true,(σ 1).c=(σ 1).c),(true,((i.n+1:Nat):Int)=((i.n+1:Nat):Int)),(true,qS (K - 5 * ((i.n+1:Nat):Int)) (σ 1)),(true,(Str.ofString "REPLACING").length+250 * (i.n+1)≤5000),(true,([]:List Value).length+(i.n+1)≤10),(true,P≠n+846),(false,Qi K (os 3).vs),(true,([]++List.map Value.ref (yX (i.n+1) (os 3).s2.cps.toList)).length≤1000),yt]) (by clear hn hst g off ok hs hK e1 dk ne;cases i <;> cases b1 <;> kernel_rfl) (⟨(by rw [hs]),⟨(by rw [hs]),⟨(by rw [hs]),⟨(hs ▸ ok.le (by omega)),⟨(by decide),⟨(by decide),⟨dk,⟨e1,fun _=>⟨rfl,⟨rfl,⟨rfl,⟨rfl,⟨rfl,⟨(by rw [e1,hs];have:=I3.le i;exact (ok.nx 3).le (by omega)),⟨(by have:=I3.le i;have c:Str.length "REPLACING" = 9:=rfl;omega),⟨(by have:=I3.le i;simp only [List.length_nil];omega),⟨(ne _ hn),fun q0=>⟨(by rw [List.nil_append,List.length_map,Jr];have:=I3.le i;omega),fun _=>fun r m n tk e h' D'=>ltEnd (y:=(os 3)) q0 e D'⟩⟩⟩⟩⟩⟩⟩⟩⟩⟩⟩⟩⟩⟩⟩⟩⟩⟩)
theorem dq_rowT {h:Heap} {a:Addr} {t:Str} (q:Dq h (.ref a) (.str t 1000000000)):∃ r x n,h.get? a=some x∧x.cls = .type "tuple"∧x.data = .seq ⟨Row.tv r⟩ n∧r.OkT∧t=r.tT:=by
 generalize e1:Value.ref a=u1 at q
 generalize e2:Value.str t 1000000000=u2 at q
 cases q with
 |same v=>subst e1;cases e2
 |str s t' u=>cases e1
 |bytes s t' u=>cases e1
 |tup=>cases e2
 |rowT a' x r n h1 h2 h3 h4 =>
  cases Value.ref.inj e1
  exact ⟨r,x,n,h1,h2,h3,h4,(Value.str.inj e2).1⟩
 |rowR=>exact absurd (Value.str.inj e2).2 (by decide)
 |rowsT=>exact absurd (Value.str.inj e2).2 (by decide)
 |rowsR=>exact absurd (Value.str.inj e2).2 (by decide)
 |toks=>cases e1
theorem dq_rowR {h:Heap} {a:Addr} {t:Str} (q:Dq h (.ref a) (.str t 1000000001)):∃ r x n,h.get? a=some x∧x.cls = .type "tuple"∧x.data = .seq ⟨Row.rv r⟩ n∧r.OkR∧t=r.rT:=by
 generalize e1:Value.ref a=u1 at q
 generalize e2:Value.str t 1000000001=u2 at q
 cases q with
 |same v=>subst e1;cases e2
 |str s t' u=>cases e1
 |bytes s t' u=>cases e1
 |tup=>cases e2
 |rowT=>exact absurd (Value.str.inj e2).2 (by decide)
 |rowR a' x r n h1 h2 h3 h4 =>
  cases Value.ref.inj e1
  exact ⟨r,x,n,h1,h2,h3,h4,(Value.str.inj e2).1⟩
 |rowsT=>exact absurd (Value.str.inj e2).2 (by decide)
 |rowsR=>exact absurd (Value.str.inj e2).2 (by decide)
 |toks=>cases e1
theorem z_rowsT {h:Heap}:∀ {as:List Addr} {ts:List Str},DqZ h 1000000000 as ts→∃ rs:List Row,rs.length=as.length∧ts=rs.map Row.tT∧(∀ r∈rs,r.OkT)∧∀ (i:Nat) (r:Row),rs[i]?=some r→∃ b y k,(as.map Value.ref)[i]?=some (.ref b)∧h.get? b=some y∧y.cls = .type "tuple"∧y.data = .seq ⟨r.tv⟩ k
 |[],[],_=>⟨[],rfl,rfl,fun _ q=>(nomatch q),fun _ _ q=>by simp at q⟩
 |a::as,t::ts,⟨q,z⟩=>by
  obtain ⟨rs,e1,e2,e3,e4⟩:=z_rowsT z
  obtain ⟨r,x,n,h1,h2,h3,h4,rfl⟩:=dq_rowT q
  refine ⟨r::rs,by simp [e1],by rw [e2];rfl,fun u hu=>?_,fun i u hi=>?_⟩
  ·cases hu with
   |head=>exact h4
   |tail _ hu=>exact e3 u hu
  ·match i,hi with
   |0,hi=>cases hi;exact ⟨a,x,n,rfl,h1,h2,h3⟩
   |i+1,hi=>exact e4 i u (by simpa using hi)
 |[],_::_,q=>q.elim
 |_::_,[],q=>q.elim
theorem z_rowsR {h:Heap}:∀ {as:List Addr} {ts:List Str},DqZ h 1000000001 as ts→∃ rs:List Row,rs.length=as.length∧ts=rs.map Row.rT∧(∀ r∈rs,r.OkR)∧∀ (i:Nat) (r:Row),rs[i]?=some r→∃ b y k,(as.map Value.ref)[i]?=some (.ref b)∧h.get? b=some y∧y.cls = .type "tuple"∧y.data = .seq ⟨r.rv⟩ k
 |[],[],_=>⟨[],rfl,rfl,fun _ q=>(nomatch q),fun _ _ q=>by simp at q⟩
 |a::as,t::ts,⟨q,z⟩=>by
  obtain ⟨rs,e1,e2,e3,e4⟩:=z_rowsR z
  obtain ⟨r,x,n,h1,h2,h3,h4,rfl⟩:=dq_rowR q
  refine ⟨r::rs,by simp [e1],by rw [e2];rfl,fun u hu=>?_,fun i u hi=>?_⟩
  ·cases hu with
   |head=>exact h4
   |tail _ hu=>exact e3 u hu
  ·match i,hi with
   |0,hi=>cases hi;exact ⟨a,x,n,rfl,h1,h2,h3⟩
   |i+1,hi=>exact e4 i u (by simpa using hi)
 |[],_::_,q=>q.elim
 |_::_,[],q=>q.elim
theorem catW_text {w0 w1:Str} (hw:w1=w0 ++ " "):∀ {ts:List Str},1≤ts.length→w0++QK ts=w1++Txt.join " " ts
 |t::ts,_=>by rw [catW_join,hw,Str.append_assoc]
 |[],h=>by simp at h
def LtRes (P:Addr) (K:Int) (tok:Nat) (r:Result) (h':Heap):Prop:=∃ a T t s,r = .ok (.ret (.ref a))∧h'.get? a=some (yE [.ref T,.str s t])∧Dq h' (.ref T) (.str s tok)∧s.length≤700∧∃ vs ep,h'.get? P=some (lsO vs ep)∧Qi K vs
theorem tallied_says (hst:St (jb w b1 b2 b3) h) (g:h.get? P=some (yo s t1 t2 t3 ep)) (off:(ktP (jb w b1 b2 b3)).get P=none) (ok:qS (K - 16) s) (hK:K≤90):jr (jb w b1 b2 b3) 9 (.call (.ref 820) ⟨[.ref P],[]⟩) h [P] (LtRes P K 1000000002):=by
 obtain ⟨i,hi⟩:=I3.of (Vp (s:=s) (n:=3) (by decide)).1 (Vp (by decide)).2
 refine (ft (σ:=fun k=>match k with | 0=>s | _=>nx s 3) i hst g off ok rfl hK rfl hi).mono fun r h' _ p=>?_
 obtain ⟨a,T,t,as,ts,rfl,ga,gT,l1,l3,dz,gp⟩:=p
 obtain ⟨rs,e1,rfl,e3,e4⟩:=z_rowsT dz
 refine ⟨a,T,t,_,rfl,ga,?_,?_,gp⟩ <;> rw [catW_text (w1 := "TALLYING ") (by decide +kernel) (by rw [List.length_map,e1];exact l1)]
 case refine_2=>exact Qv (by omega) e3
 exact .rowsT T _ (as.map Value.ref) rs 0 gT rfl rfl (by rw [List.length_map,e1]) (by omega) (by omega) e3 e4
theorem replaced_says (hst:St (jb w b1 b2 b3) h) (g:h.get? P=some (yo s t1 t2 t3 ep)) (off:(ktP (jb w b1 b2 b3)).get P=none) (ok:qS (K - 16) s) (hK:K≤90):jr (jb w b1 b2 b3) 9 (.call (.ref 827) ⟨[.ref P],[]⟩) h [P] (LtRes P K 1000000003):=by
 obtain ⟨i,hi⟩:=I3.of (Vp (s:=s) (n:=3) (by decide)).1 (Vp (by decide)).2
 refine (fr (σ:=fun k=>match k with | 0=>s | _=>nx s 3) i hst g off ok rfl hK rfl hi).mono fun r h' _ p=>?_
 obtain ⟨a,T,t,as,ts,rfl,ga,gT,l1,l3,dz,gp⟩:=p
 obtain ⟨rs,e1,rfl,e3,e4⟩:=z_rowsR dz
 refine ⟨a,T,t,_,rfl,ga,?_,?_,gp⟩ <;> rw [catW_text (w1 := "REPLACING ") (by decide +kernel) (by rw [List.length_map,e1];exact l1)]
 case refine_2=>exact Qz (by omega) e3
 exact .rowsR T _ (as.map Value.ref) rs 0 gT rfl rfl (by rw [List.length_map,e1]) (by omega) (by omega) e3 e4
def PLG (w:World) (h₀:Heap) (ws:List Addr) (K K':Int) (f:Addr) (lv:Nat) (rest:List Value) (m:List En) (x:PnS):Prop:=∀ h P s t1 t2 t3 ep,(∀ p∈x.musts,p)→St w h→(∀ e∈m,h.get? e.a=some e.o)→(ktP w).get P=none→h.get? P=some (yo s t1 t2 t3 ep)→qS K s→Old ws h₀ h →
   jr w lv (.call (.ref f) ⟨.ref P::rest,[]⟩) h [P] (fun r h'=>∃ y:Ora,r=x.res y∧x.may y∧Qi K' y.vs∧h'.get? P=some (lsO y.vs y.p.line)∧(∀ p∈x.news,h'.get? (p.2.1 y)=some (p.2.2 y)∧VS (p.2.2 y)=p.1)∧(∀ p∈x.dq y,Dq h' p.1 p.2))
theorem penLH_ok {w:World} {f:Addr} {lv:Nat} {spec} (H:∀ rest m hint,Inv (spec rest m hint) (PLG w h₀ ws K K' f lv rest m)):(penLH f lv K K' spec).Ok (cfg w lc hs) PW w h₀ ws:=by
 refine vn fun c m hint=>?_
 refine iCa fun args b1=>iC1 fun self rest b2=>iRf fun P b3=>iC1 fun jP hint b4=>iN fun e l lep qe qs=>iS fun x qx=>?_
 subst b1 b2 b3 b4
 refine iE ?_
 intro h hm hi hst hk hdq hoff hold
 have z0:=hm 0 (Nat.le_refl _)
 have e1:P=e.a:=z0.1 (P,e.a) (.head _)
 have hw:=Jv hi qe
 clear hm hi
 subst e1
 obtain ⟨s,t1,t2,t3,rfl,ok⟩:=z0.2 _ (.head _)
 have qo:=yq qs
 have me:=List.mem_of_getElem? qe
 have X:=H rest m hint x qx h e.a s t1 t2 t3 lep (fun p hp=>z0.2 p (.tail _ hp)) hst hk (hoff e me hw) (by have q:=hk e me;rw [qo] at q;exact q) ok hold
 refine jr.on (adC qe adN) X fun r h' _ p=>?_
 obtain ⟨y,p1,p2,p2',p3,p4,p5⟩:=p
 exact ⟨0,y,Nat.le_refl _,p1,⟨p2',p2⟩,⟨⟨e,qe,p3,by rw [qo];rfl⟩,trivial⟩,p4,p5⟩
theorem lawPickH_ok:lawPickH.Ok (cfg (jb w b1 b2 b3) lc hs) PW (jb w b1 b2 b3) h₀ ws:=by
 refine penLH_ok fun rest m hint=>?_
 refine iL1 fun _ b1=>iRf fun S b2=>iL1 fun jS b3=>iM fun e vs qe qv=>iT fun qn=>?_
 subst b1 b2 b3
 refine iE ?_
 intro h P s t1 t2 t3 ep hm hst hk off g ok hold
 have hS:S=e.a:=hm _ (.head _)
 clear hm
 obtain ⟨dd,ep2,sl,ho⟩:=yC qv
 have gS:h.get? S=some (vv dd vs ep2 sl):=by have q:=hk e (List.mem_of_getElem? qe);rw [ho] at q;rw [hS];exact q
 simp only [Bool.and_eq_true,Nat.beq_eq] at qn
 obtain ⟨qa,hn⟩:=qn
 obtain ⟨y,hy,hym⟩:=pk_at (s:=s) (n:=2) hn (by decide)
 obtain ⟨a,yv,ys,t,rfl,hp,ga⟩:=srt_get hst (List.all_eq_true.mp qa y hym)
 refine (pick_says hst g off (ok.le (by decide)) gS hn (by decide) (by decide) hy).mono fun r h' ol p=>?_
 obtain ⟨z,u1,u2,u3,up,rfl,g',rfl⟩:=p
 obtain ⟨b,rfl⟩:∃ b,yv = .ref b:=by rcases hp.1 with q | q <;> exact ⟨_,q⟩
 refine ⟨{(default:Ora) with n:=b,vs:=[.int (nx s 2).a u1,.int (nx s 2).b u2,.int (nx s 2).c u3],s:=ys,p:={(default:Pos) with line:=up,col:=a,endLine:=t}},rfl,hp,⟨nx s 2,u1,u2,u3,rfl,(ok.nx 2).le (by decide)⟩,g',fun p hp=>?_,fun _ q=>(nomatch q)⟩
 cases hp with
 |head=>exact ⟨ol.2 _ _ ga fun q=>pen_off g ga q,rfl⟩
 |tail _ hp=>cases hp
theorem Kv {f:Addr} {tok:Nat} (H:∀ {h:Heap} {P t1 t2 t3 ep:Nat} {s:Pn},St (jb w b1 b2 b3) h→h.get? P=some (yo s t1 t2 t3 ep)→(ktP (jb w b1 b2 b3)).get P=none→qS K s→jr (jb w b1 b2 b3) 9 (.call (.ref f) ⟨[.ref P],[]⟩) h [P] (LtRes P K' tok)):(lawRowsH f K K' tok).Ok (cfg (jb w b1 b2 b3) lc hs) PW (jb w b1 b2 b3) h₀ ws:=by
 refine penLH_ok fun rest m hint=>?_
 refine iL0 fun b1=>iL0 fun b2=>?_
 subst b1 b2
 refine iE ?_
 intro h P s t1 t2 t3 ep hm hst hk off g ok hold
 refine (H hst g off ok).mono fun r h' ol p=>?_
 obtain ⟨a,T,t,s',rfl,ga,dq,ln,vs,ep',gp,pl⟩:=p
 refine ⟨{(default:Ora) with vs:=vs,s:=s',p:={line:=ep',col:=a,endLine:=T,endCol:=t}},rfl,ln,pl,gp,fun p hp=>?_,fun p hp=>?_⟩
 ·cases hp with
  |head=>exact ⟨ga,rfl⟩
  |tail _ hp=>cases hp
 ·cases hp with
  |head=>exact dq
  |tail _ hp=>cases hp
theorem lawTalH_ok:lawTalH.Ok (cfg (jb w b1 b2 b3) lc hs) PW (jb w b1 b2 b3) h₀ ws:=Kv fun a b c d=>tallied_says a b c (d.le (by decide)) (by decide)
theorem lawRepH_ok:lawRepH.Ok (cfg (jb w b1 b2 b3) lc hs) PW (jb w b1 b2 b3) h₀ ws:=Kv fun a b c d=>replaced_says a b c (d.le (by decide)) (by decide)
end
noncomputable def Jc:List Str→Str
 |[]=>Str.empty
 |w::ws=>w++(" "++Jc ws)
theorem VP:(" " : Str)=⟨#[32]⟩:=by decide +kernel
theorem Qo (a b:Str):(a++b).cps.toList=a.cps.toList++b.cps.toList:=by rw [Str.cps_append,Array.toList_append]
theorem Kk:∀ {l:List Str},l≠[]→Jc l=Str.join " " l ++ " "
 |[],h=>absurd rfl h
 |[w],_=>by show w++(" "++Str.empty)=w ++ " ";rw [Str.append_empty]
 |a::b::l,_=>by
  show a++(" "++Jc (b::l))=_
  have j:Str.join " " (a::b::l)=a ++ " "++Str.join " " (b::l):=by
   rw [Str.join]
   exact fun q=>nomatch q
  rw [Kk (l:=b::l) (fun q=>nomatch q),j,Str.append_assoc,Str.append_assoc]
theorem cutE_word:∀ (w acc rest:List Nat),32∉w→Yl acc (w++32::rest)=(acc.reverse++w)::Yl [] rest
 |[],acc,rest,_=>by show (acc.reverse::Yl [] rest)=_;rw [List.append_nil]
 |c::w,acc,rest,h=>by
  have hc:Nat.beq c 32=false:=Bool.eq_false_iff.mpr fun q=>h (by rw [Nat.eq_of_beq_eq_true q];exact .head _)
  show (match Nat.beq c 32 with | true=>acc.reverse::Yl [] (w++32::rest) | false=>Yl (c::acc) (w++32::rest))=_
  rw [hc]
  show Yl (c::acc) (w++32::rest)=_
  rw [cutE_word w (c::acc) rest (fun q=>h (.tail _ q)),List.reverse_cons,List.append_assoc]
  rfl
theorem VL:∀ {l:List Str},(∀ w∈l,32∉w.cps.toList)→Yl [] (Jc l).cps.toList=l.map fun w=>w.cps.toList
 |[],_=>rfl
 |w::l,h=>by
  show Yl [] (w++(" "++Jc l)).cps.toList=_
  rw [Qo,Qo,VP]
  show Yl [] (w.cps.toList++32::(Jc l).cps.toList)=_
  rw [cutE_word _ _ _ (h w (.head _)),VL (fun x hx=>h x (.tail _ hx))]
  rfl
theorem words_inj:∀ {l l':List Str},(l.map fun w=>w.cps.toList)=l'.map (fun w=>w.cps.toList)→l=l'
 |[],[],_=>rfl
 |a::l,b::l',h=>by
  simp only [List.map_cons,List.cons.injEq] at h
  rw [words_inj h.2,Str.ext' (Array.toList_inj.mp h.1)]
 |[],_::_,h=>by cases h
 |_::_,[],h=>by cases h
theorem join_inj {l l':List Str} (n:l≠[]) (n':l'≠[]) (h:∀ w∈l,32∉w.cps.toList) (h':∀ w∈l',32∉w.cps.toList) (e:Str.join " " l=Str.join " " l'):l=l':=by
 have q:Jc l=Jc l':=by rw [Kk n,Kk n',e]
 exact words_inj (by rw [←VL h,←VL h',q])
theorem split_ne (x:Str):Txt.split x " "≠[]:=by
 unfold Txt.split
 split
 ·exact fun q=>nomatch q
 ·split
  ·exact fun q=>nomatch q
  ·rw [StrLaws.partsBetween_eq]
   obtain ⟨p,r,e⟩:=StrLaws.partsFrom_ne x (" " : Str).length 0 (PySem.Builtin.Str.occurrences x " " 0 x.length (x.length+1))
   rw [e]
   exact fun q=>nomatch q
theorem split_join {l:List Str} (n:l≠[]) (h:∀ w∈l,32∉w.cps.toList):Txt.split (Str.join " " l) " " = l :=
 join_inj (split_ne _) n (fun p hp=>StrLaws.split_free (Str.join " " l) 32 p (VP ▸ hp)) h (StrLaws.join_split _ _)
theorem Qu {l:List Str} (h:∀ w∈l,32∉w.cps.toList):Jf (Jc l)=l.map fun w=>tkW w.cps.toList:=by
 unfold Jf
 rw [VL h,List.map_map]
 rfl
noncomputable def liO (L i:Nat):Obj:=⟨.type "list_iterator",none,.fields ⟨[.ref L,.int (.ofNat i) 0]⟩,#[]⟩
noncomputable def liE (i:Nat):Obj:=⟨.type "list_iterator",none,.fields ⟨[.none,.int (.ofNat i) 0]⟩,#[]⟩
def li? (o:Obj):Option (Nat×Nat):=oKL "list_iterator" o fun dt=>oFl dt fun l=>oL2 l fun x y=>oRf x fun L=>Jb y fun j t=>oNat j fun i=>oT (Nat.beq t 0) <| some (L,i)
theorem Ku {o:Obj} {L i:Nat} (h:li? o=some (L,i)):o=liO L i :=
 iKL (P:=fun x=>o=liO x.1 x.2) (fun dt e=>iFl fun l e1=>iL2 fun x y e2=>iRf fun L q1=>Jg fun j t q2=>iNat fun i q3=>iT fun q=>iE (by
  rw [e,e1,e2,q1,q2,q3,Nat.eq_of_beq_eq_true q];rfl)) _ h
noncomputable def YU:List Value→List Str→Prop
 |[],[]=>True
 |v::vs,s::ss=>(∃ t,v = .str s t)∧YU vs ss
 |_,_=>False
def splitWHSp (ws:List PySem.Str) (s:PySem.Str) (z:PySem.Str):vy:={us:=fun _=>{musts:=[s=Str.join " " ws,s.length≤50000,ws.length≤1000,ws≠[],∀ w∈ws,jh w,z = " "],res:=fun o => .ok (.ret (.ref o.n)),may:=fun o=>YU o.vs ws,news:=[((.type "list",0),fun o=>o.n,fun o=>lsO o.vs 0)]}}
def splitWH (ws:List Str):Hook:=yB 0 0
 (fun c _ hint=>oCa (.builtin "str.split") c fun args =>
  oL2 args fun x y =>
  yp x fun s t =>
  yp y fun z _ =>
  oL0 hint <|
  some (splitWHSp ws s z))
def nextVHSp (v:PySem.Value) (I:PySem.Addr) (jI:Nat) (eI:Mine.En) (L:Nat) (i:Nat) (eL:Mine.En) (l:List PySem.Value):vy:={idx:=[jI],us:=fun _=>{eqs:=[(I,eI.a),(L,eL.a)],musts:=[l[i]?=some v],res:=fun _ => .ok (.ret v),objs:=fun _=>[liO L (i+1)]}}
def nextVH (v:Value):Hook:=yB 0 0
 (fun c m hint=>oCa (.builtin "list_iterator.__next__") c fun args =>
  oL1 args fun x =>
  oRf x fun I =>
  oL2 hint fun jI jL =>
  oN m jI (li?) fun eI L i =>
  oN m jL (QZ) fun eL l _ =>
  some (nextVHSp v I jI eI L i eL l))
noncomputable def excO (T:String) (a:Addr):Obj:=⟨.type T,none,.fields ⟨[.ref a,.none,.none,.none,.bool false,.none]⟩,#[]⟩
def nextEHSp (I:PySem.Addr) (jI:Nat) (eI:Mine.En) (L:Nat) (i:Nat) (eL:Mine.En) (l:List PySem.Value):vy:={idx:=[jI],us:=fun _=>{eqs:=[(I,eI.a),(L,eL.a)],musts:=[l.length≤i],res:=fun y => .error (.ref y.n),objs:=fun _=>[liE i],news:=[((.type "StopIteration",0),fun y=>y.n,fun y=>excO "StopIteration" y.n2)]}}
def nextEH:Hook:=yB 0 0
 (fun c m hint=>oCa (.builtin "list_iterator.__next__") c fun args =>
  oL1 args fun x =>
  oRf x fun I =>
  oL2 hint fun jI jL =>
  oN m jI (li?) fun eI L i =>
  oN m jL (QZ) fun eL l _ =>
  some (nextEHSp I jI eI L i eL l))
def compOf (s:Stmt) (I L:Addr) (F:Addr) (E:Addr):Code:=match s with
 |.Assign _ v _=>match v with
  |.ListComp _ _ scope _ => .compLoop v 0 (.ref I) (.ref L) {scope,locals:=E,globals:=3,cells:=[],qual:=sx38 ++ ".<locals>.",func:=none,code := .ref 831,frame:=some F,builtins:=0}
  |_ => .block [] default
 |_ => .block [] default
def YN (F E I L:Addr):Code:=compOf (nthS (VO (stT 109)) 0) I L F E
noncomputable def wdO (z:Int) (k:Nat) (v:Value) (ep:Nat):Obj:=⟨.type "dict",none,.dict ⟨[⟨z,.str "word" k,v⟩]⟩ ep,#[]⟩
def wd? (o:Obj):Option (Int×Nat×Str×Nat×Nat):=oKL "dict" o fun dt=>oDl dt fun es ep=>oL1 es fun e=>yp e.key fun s k=>oT (ym s "word") <| yp e.val fun x tx=>some (e.hash,k,x,tx,ep)
theorem wd_eq {o:Obj} {z:Int} {k tx:Nat} {x:Str} {ep:Nat} (h:wd? o=some (z,k,x,tx,ep)):o=wdO z k (.str x tx) ep :=
 iKL (P:=fun p=>o=wdO p.1 p.2.1 (.str p.2.2.1 p.2.2.2.1) p.2.2.2.2) (fun dt e=>iDl fun es ep e1=>iL1 fun a e2=>yl fun s k q1=>iT fun q=>yl fun x tx q2=>iE (by
  rw [e,e1,e2,VZ q1 q2,vw q];rfl)) _ h
def cmpHSp (ws:List PySem.Str) (c:PySem.Code) (env:PySem.Env) (I:PySem.Addr) (L:PySem.Addr) (F:PySem.Addr) (jE:Nat) (jI:Nat) (jL:Nat) (eE:Mine.En) (z:Int) (k:Nat) (eI:Mine.En) (W:Nat) (i:Nat) (eL:Mine.En) (l:List PySem.Value) (eW:Mine.En) (wv:List PySem.Value):vy:={idx:=[jE,jI,jL],us:=fun _=>{eqs:=[(env.locals,eE.a),(I,eI.a),(L,eL.a),(W,eW.a)],musts:=[c=YN F env.locals I L,YU (wv.drop i) ws,l.length+ws.length≤1000],res:=fun _ => .ok .next,may:=fun y=>y.s2.cps.toList.length=ws.length,objs:=fun y=>[wdO z k (.str y.s y.n) y.n2,liE y.n3,lsO (l++y.s2.cps.toList.map Value.ref) y.p.line],dq:=fun y=>[(.str ⟨⟨y.s2.cps.toList⟩⟩ 1000000004,.str (Jc ws) 1000000005)]}}
def cmpH (ws:List Str):Hook:=lHook 8
 (fun c m hint=>oCm c fun _ _ it acc env =>
  oRf it fun I =>
  oRf acc fun L =>
  oS env.frame fun F =>
  oL4 hint fun jE jI jL jW =>
  oM m jE wd? fun eE x =>
  oN m jI li? fun eI W i =>
  oN m jL QZ fun eL l _ =>
  oN m jW QZ fun eW wv _ =>
  oF (Nat.beq jL jW) <|
  some (cmpHSp ws c env I L F jE jI jL eE x.1 x.2.1 eI W i eL l eW wv))
def tkI? (o:Obj):Option Nat:=ins? 164 o
def tkV (k s:Value):Option Tk:=yp k fun x _=>yp s fun s _=>match ym x "literal" with
 |true=>some ⟨true,s⟩
 |false=>oT (ym x "word") <| some ⟨false,s⟩
def tkO? (o:Obj):Option Tk:=oKL "dict" o fun dt=>oDl dt fun es ep=>oT (Nat.beq ep 4) <| oL4 es fun e1 e2 e3 e4=>oT (QG e1.key "kind" && QG e2.key "worth" && QG e3.key "at" && QG e4.key "is_in_a") <| oS (tkV e1.val e2.val) some
theorem tkI_eq {o:Obj} {d:Nat} (h:tkI? o=some d):o=tkI d:=ins_eq h
theorem tkV_eq {k s:Value} {t:Tk} (h:tkV k s=some t):∃ a b,k = .str t.kind a∧s = .str t.s b:=by
 refine yl (P:=fun t=>∃ a b,k = .str t.kind a∧s = .str t.s b) (fun x a e=>yl fun y b e2=>?_) _ h
 cases q:ym x "literal" with
 |true=>exact iE ⟨a,b,by rw [e,vw q];rfl,e2⟩
 |false=>exact iT fun q2=>iE ⟨a,b,by rw [e,vw q2];rfl,e2⟩
theorem tkO_eq {o:Obj} {t:Tk} (h:tkO? o=some t):∃ y,o=tkO t y:=by
 refine iKL (P:=fun t=>∃ y,o=tkO t y) (fun dt e=>iDl fun es ep e1=>iT fun q=>iL4 fun a1 a2 a3 a4 e2=>iT fun q3=>iS fun t q4=>iE ?_) _ h
 clear h
 obtain ⟨k1,k2,k3,k4,r1,r2,r3,r4⟩:=key4 q3
 obtain ⟨a,b,h1,h2⟩:=tkV_eq q4
 clear q3 q4
 rw [e,e1,e2,Nat.eq_of_beq_eq_true q,VZ r1 h1,VZ r2 h2,VZ r3 rfl,VZ r4 rfl]
 clear e e1 e2 q r1 r2 r3 r4 h1 h2
 obtain ⟨x1,y1,z1⟩:=a1
 obtain ⟨x2,y2,z2⟩:=a2
 obtain ⟨x3,y3,z3⟩:=a3
 obtain ⟨x4,y4,z4⟩:=a4
 refine ⟨{(default:Ora) with z:=x1,n3:=k1,v:=z3,v2:=z4,p:={line:=a,col:=0,endLine:=k2,endCol:=b},vs:=[.int x2 0,.int x3 0,.int x4 0],s:=⟨⟨List.replicate k3 0⟩⟩,s2:=⟨⟨List.replicate k4 0⟩⟩},?_⟩
 show _=tkO _ _
 have l3:Str.length (⟨⟨List.replicate k3 0⟩⟩:Str)=k3:=by show (List.replicate k3 0).length=k3;simp
 have l4:Str.length (⟨⟨List.replicate k4 0⟩⟩:Str)=k4:=by show (List.replicate k4 0).length=k4;simp
 simp only [tkO,l3,l4]
 rfl
def inspHSp (k:Nat) (c:PySem.Value) (rs:List Mine.TRow) (rr:List Mine.RRow) (S:PySem.Addr) (R:PySem.Addr) (jD:Nat) (eR:Mine.En) (D:Nat) (eD:Mine.En) (T:Nat) (z:Nat) (eT:Mine.En) (rest:List PySem.Value) (t0:PySem.Addr) (et:Mine.En) (d0:Nat) (ed:Mine.En) (tk0:Mine.Tk) (as:PySem.Str) (s:PySem.Str):vy:={idx:=[jD],us:=fun _=>{eqs:=[(R,eR.a),(D,eD.a),(T,eT.a),(t0,et.a),(d0,ed.a)],musts:=[rest=as.cps.toList.map Value.ref,z=0,Qq (tk0::Jf s) 0 k c rs rr,(tk0::Jf s).length≤1000,∀ t∈tk0::Jf s,t.s.length≤1000,2 * as.cps.toList.length≤s.cps.toList.length],res:=fun y => .ok (.ret (.ref y.n)),objs:=fun y=>[jC eD.o (inN k c rs rr) y.ob.slots.size],dq:=fun y=>[(.ref y.n,.ref S)]}}
def inspH (k:Nat) (c:Value) (rs:List TRow) (rr:List RRow) (S:Addr):Hook:=yB 0 19
 (fun c' m hint=>oCa (.ref 587) c' fun args =>
  oL2 args fun x y =>
  oRf x fun R =>
  oRf y fun _ =>
  oL6 hint fun jR jD jT jt jd jq =>
  oM m jR (VD) fun eR D =>
  oN m jD (Qc) fun eD T z =>
  oN m jT (QZ) fun eT l _ =>
  oC1 l fun v0 rest =>
  oRf v0 fun t0 =>
  oM m jt (tkI?) fun et d0 =>
  oM m jd (tkO?) fun ed tk0 =>
  oS m[jq]? fun eq =>
  oC1 eq.dq fun p _ =>
  oPr p fun p1 p2 =>
  yp p1 fun as u1 =>
  yp p2 fun s u2 =>
  oT (Nat.beq u1 1000000004 && Nat.beq u2 1000000005) <|
  some (inspHSp k c rs rr S R jD eR D eD T z eT rest t0 et d0 ed tk0 as s))
def geH:Hook:=vi (.builtin "int.__ge__") 0
 (fun args _ hint=>oL2 args fun a b =>
  Jb a fun x _ =>
  Jb b fun y _ =>
  oL0 hint <|
  some {musts:=[y≤x],V:=fun _ => .bool true})
noncomputable def doneHSp (R:PySem.Addr) (eR:Mine.En) (D:Nat) (eD:Mine.En) (T:Nat) (z:Nat) (eT:Mine.En) (l:List PySem.Value):vy:={us:=fun _=>{eqs:=[(R,eR.a),(D,eD.a),(T,eT.a)],musts:=[l.length≤z,l.length≤100000],res:=fun _ => .ok (.ret (.bool true))}}
def doneH:Hook:=yB 0 2
 (fun c m hint=>oCa (.ref 629) c fun args =>
  oL1 args fun x =>
  oRf x fun R =>
  oL3 hint fun jR jD jT =>
  oM m jR (VD) fun eR D =>
  oN m jD (Qc) fun eD T z =>
  oN m jT (QZ) fun eT l _ =>
  some (doneHSp R eR D eD T z eT l))
theorem areW_from:∀ (tk:Nat) (l:List Str),YU (strsFrom tk l) l
 |_,[]=>trivial
 |tk,x::r=>⟨⟨tk,rfl⟩,areW_from (tk+1) r⟩
section
variable {w:World} {lc:Nat} {hs:List Mine.Hook} {h₀:Heap} {ws:List Addr} {wd:List Str}
theorem splitWH_ok:(splitWH wd).Ok (cfg w lc hs) PW w h₀ ws:=by
 refine vn fun c m hint=>?_
 refine iCa fun _ b1=>iL2 fun xx yy b2=>yl fun s t b3=>yl fun z u b4=>iL0 fun b5=>?_
 subst b1 b2 b3 b4 b5
 refine iE ?_
 intro h hm hi hst hk hdq hoff hold A g d tk os R _ k
 have z0:=hm 0 (Nat.le_refl _)
 have h1:s=Str.join " " wd:=z0.2 _ (.head _)
 have h2:s.length≤50000:=vV z0.2 1
 have h3:wd.length≤1000:=vV z0.2 2
 have h4:wd≠[]:=vV z0.2 3
 have h5:∀ w∈wd,jh w:=vV z0.2 4
 have h6:z = " ":=vV z0.2 5
 clear z0 hm hi
 subst h6
 have sz:sizeLine ≥ 50000:=by decide
 have es:Txt.split s " " = wd:=by rw [h1];exact split_join h4 h5
 have fin:∀ (vs:List Value) (tk':Nat),YU vs wd→R (.ok (.ret (.ref h.objs.size))) ⟨h.push (lsO vs 0),g,d,tk',os⟩:=fun vs tk' av=>by
  refine k _ (h.push (lsO vs 0)) tk' ⟨trivial,fun b o e _=>Heap.get?_push_of_some _ e⟩ ?_
  refine ⟨0,{(default:Ora) with n:=h.objs.size,vs:=vs},Nat.le_refl _,rfl,av,trivial,fun p hp=>?_,fun _ hp=>(nomatch hp)⟩
  cases hp with
  |head=>exact ⟨Heap.get?_push_size _ rfl,rfl⟩
  |tail _ hp=>cases hp
 have one:Txt.split s " " = [s]→listOfItself s t A R ⟨h,g,d,tk,os⟩:=fun e=>by
  have:=fin [.str s t] tk (by rw [←es,e];exact ⟨⟨t,rfl⟩,trivial⟩)
  exact this
 unfold Txt.split at es one
 cases q:(decide (s.length < (" " : Str).length) || decide (Builtin.Str.strKind s < Builtin.Str.strKind (" " : Str))) with
 |true =>
  rw [q] at one
  exact vb F.slot_str_split (typeIs_str _ _ _) F.entry_str_split (F.args_str_split_2 _ _) (meets_str_split_cannot_occur s " " t u q) (one rfl)
 |false =>
  rw [q] at one es
  cases qf:(Builtin.Str.occurrences s " " 0 s.length (s.length+1)).isEmpty with
  |true =>
   rw [qf] at one
   exact vb F.slot_str_split (typeIs_str _ _ _) F.entry_str_split (F.args_str_split_2 _ _) (meets_str_split_not_found s " " t u q (by decide +kernel) qf) (one rfl)
  |false =>
   rw [qf] at es
   have es:Builtin.Str.partsBetween s (Builtin.Str.occurrences s " " 0 s.length (s.length+1)) (" " : Str).length=wd:=es
   refine vb F.slot_str_split (typeIs_str _ _ _) F.entry_str_split (F.args_str_split_2 _ _) (meets_str_split_sep s " " t u q (by decide +kernel) qf (by omega) (by rw [es];omega)) ?_
   rw [es]
   exact fin _ _ (areW_from _ _)
theorem Kf {v:Value}:(nextVH v).Ok (cfg w lc hs) PW w h₀ ws:=by
 refine vn fun c m hint=>?_
 refine iCa fun _ b1=>iL1 fun _ b2=>iRf fun I b3=>iL2 fun jI jL b4=>iN fun eI L i qI qi=>iN fun eL l ep qL ql=>?_
 subst b1 b2 b3 b4
 refine iE ?_
 intro h hm hi hst hk hdq hoff hold A g d tk os R hr k
 have z0:=hm 0 (Nat.le_refl _)
 have h1:I=eI.a:=z0.1 (I,eI.a) (.head _)
 have h2:L=eL.a:=yM z0.1 1
 have h3:l[i]?=some v:=z0.2 _ (.head _)
 clear z0 hm hi
 subst h1 h2
 have gI:=hk eI (List.mem_of_getElem? qI)
 have gL:=hk eL (List.mem_of_getElem? qL)
 rw [Ku qi] at gI
 rw [yq ql] at gL
 have hT:Shared.TypeIs ⟨h,g,d,tk,os⟩ (.ref eI.a) "list_iterator":=⟨_,gI,rfl⟩
 refine Jj slot_listiter_next hT entry_listiter_next (args_listiter_next _) ?_
 show wpAny _ _ (field (.ref eI.a) 0 >>= _) _ _ _
 refine wpAny_bind (wpAny_field gI rfl (x := .ref eL.a) rfl ?_)
 show wpAny _ _ (if (Value.ref eL.a == Value.none)=true then _ else _) _ _ _
 rw [if_neg (show ¬ ((Value.ref eL.a == Value.none)=true) from Bool.false_ne_true)]
 show wpAny _ _ (field (.ref eI.a) 1 >>= _) _ _ _
 refine wpAny_bind (wpAny_field gI rfl (x := .int (.ofNat i) 0) rfl ?_)
 show wpAny _ _ (seqItems? (.ref eL.a) >>= _) _ _ _
 refine wpAny_bind (wpAny_seqItems gL rfl ?_)
 have e3:(⟨l⟩:Array Value)[(Int.ofNat i).toNat]?=some v:=by show (⟨l⟩:Array Value)[i]?=some v;rw [List.getElem?_toArray];exact h3
 simp only [e3]
 refine wpAny_bind (wpAny_setField gI rfl (show (1:Nat) < 2 from by decide) (wpAny_pure ⟨v,rfl,?_⟩))
 have g':=Heap.get?_update_self (Obj.mapFields fun vs=>vs.set! 1 (rawInt (Int.ofNat i+1))) gI rfl
 refine k _ _ tk ⟨trivial,fun b o e nb=>?_⟩ ⟨0,default,Nat.le_refl _,rfl,trivial,⟨⟨eI,qI,g',by rw [Ku qi];rfl⟩,trivial⟩,fun _ hp=>(nomatch hp),fun _ hp=>(nomatch hp)⟩
 rw [Heap.get?_update_ne _ _ _ _ fun q=>nb (by simp [nextVHSp,vF,qI,q])]
 exact e
theorem nextEH_ok:nextEH.Ok (cfg w lc hs) PW w h₀ ws:=by
 refine vn fun c m hint=>?_
 refine iCa fun _ b1=>iL1 fun _ b2=>iRf fun I b3=>iL2 fun jI jL b4=>iN fun eI L i qI qi=>iN fun eL l ep qL ql=>?_
 subst b1 b2 b3 b4
 refine iE ?_
 intro h hm hi hst hk hdq hoff hold A g d tk os R hr k
 have z0:=hm 0 (Nat.le_refl _)
 have h1:I=eI.a:=z0.1 (I,eI.a) (.head _)
 have h2:L=eL.a:=yM z0.1 1
 have h3:l.length≤i:=z0.2 _ (.head _)
 clear z0 hm hi
 subst h1 h2
 have gI:=hk eI (List.mem_of_getElem? qI)
 have gL:=hk eL (List.mem_of_getElem? qL)
 rw [Ku qi] at gI
 rw [yq ql] at gL
 have hT:Shared.TypeIs ⟨h,g,d,tk,os⟩ (.ref eI.a) "list_iterator":=⟨_,gI,rfl⟩
 refine Jj slot_listiter_next hT entry_listiter_next (args_listiter_next _) ?_
 show wpAny _ _ (field (.ref eI.a) 0 >>= _) _ _ _
 refine wpAny_bind (wpAny_field gI rfl (x := .ref eL.a) rfl ?_)
 show wpAny _ _ (if (Value.ref eL.a == Value.none)=true then _ else _) _ _ _
 rw [if_neg (show ¬ ((Value.ref eL.a == Value.none)=true) from Bool.false_ne_true)]
 show wpAny _ _ (field (.ref eI.a) 1 >>= _) _ _ _
 refine wpAny_bind (wpAny_field gI rfl (x := .int (.ofNat i) 0) rfl ?_)
 show wpAny _ _ (seqItems? (.ref eL.a) >>= _) _ _ _
 refine wpAny_bind (wpAny_seqItems gL rfl ?_)
 have e3:(⟨l⟩:Array Value)[(Int.ofNat i).toNat]?=none:=by show (⟨l⟩:Array Value)[i]?=none;rw [List.getElem?_toArray];exact List.getElem?_eq_none h3
 simp only [e3]
 refine wpAny_bind (wpAny_rule (wpAny_bind (wpAny_setField gI rfl (show (0:Nat) < 2 from by decide) ?_)))
 have g':=Heap.get?_update_self (Obj.mapFields fun vs=>vs.set! 0 Value.none) gI rfl
 show wpAny _ _ (newExc (.type "StopIteration") [] >>= _) _ _ _
 refine wpAny_bind ?_
 simp only [newExc,newTuple]
 refine wpAny_bind (wpAny_newObj_type ?_ (by size_fits))
 refine wpAny_bind (m:=firstArgMember _ _) (wpAny_of_eq (a:=Value.none) (by first | rfl | (simp only [firstArgMember];rfl)) ?_)
 refine wpAny_newObj_type ?_ (by size_fits)
 simp only [raiseNew]
 refine wpAny_bind (wpAny_handled ?_)
 rw [show A.in1.handled=none from hr.handled]
 refine wpAny_bind (wpAny_pure (wpAny_throw ?_))
 refine k _ _ tk ⟨trivial,fun b o e nb=>?_⟩ ⟨0,{(default:Ora) with n:=_,n2:=(h.update eI.a (Obj.mapFields fun vs=>vs.set! 0 Value.none)).objs.size},Nat.le_refl _,rfl,trivial,⟨⟨eI,qI,Heap.get?_push_of_some _ (Heap.get?_push_of_some _ g'),by rw [Ku qi];rfl⟩,trivial⟩,fun p hp=>?_,fun _ hp=>(nomatch hp)⟩
 ·refine Heap.get?_push_of_some _ (Heap.get?_push_of_some _ ?_)
  rw [Heap.get?_update_ne _ _ _ _ fun q=>nb (by simp [nextEHSp,vF,qI,q])]
  exact e
 ·cases hp with
  |head=>exact ⟨Heap.get?_push_size _ rfl,rfl⟩
  |tail _ hp=>cases hp
end
inductive Wd where
 |a | x | sp | b | o | g | al | le | fi | ch | fr | bw | be | af | ini | insp | ta | re
noncomputable def Wd.s:Wd→Str
 |.a => "A"
 |.x => "\"x\""
 |.sp => "SPACE"
 |.b => "B"
 |.o => "OF"
 |.g => "G"
 |.al => "ALL"
 |.le => "LEADING"
 |.fi => "FIRST"
 |.ch => "CHARACTERS"
 |.fr => "FOR"
 |.bw => "BY"
 |.be => "BEFORE"
 |.af => "AFTER"
 |.ini => "INITIAL"
 |.insp => "INSPECT"
 |.ta => "TALLYING"
 |.re => "REPLACING"
theorem Wd.nobl (k:Wd):32∉k.s.cps.toList:=by cases k <;> decide +kernel
theorem Wd.ne (k:Wd):1≤k.s.cps.toList.length:=by cases k <;> decide +kernel
def vL (ws:List Str):Prop:=∀ w∈ws,∃ k:Wd,w=k.s
theorem vL.nobl {ws:List Str} (h:vL ws):∀ w∈ws,32∉w.cps.toList:=fun w hw=>by
 obtain ⟨k,rfl⟩:=h w hw
 exact k.nobl
theorem catB_len:∀ {ws:List Str},vL ws→2 * ws.length≤(Jc ws).cps.toList.length
 |[],_=>Nat.zero_le _
 |w::ws,h=>by
  have q:=catB_len (ws:=ws) fun x hx=>h x (.tail _ hx)
  obtain ⟨k,rfl⟩:=h w (.head _)
  have n:=k.ne
  show 2 * (ws.length+1)≤(k.s++(" "++Jc ws)).cps.toList.length
  rw [Qo,Qo,VP,List.length_append,List.length_append]
  show 2 * (ws.length+1)≤k.s.cps.toList.length+(1+(Jc ws).cps.toList.length)
  omega
theorem tkOf_cons {w:Str} {ws:List Str} (h:vL (w::ws)):Jf (Jc (w::ws))=tkW w.cps.toList::Jf (Jc ws):=by
 rw [Qu h.nobl,Qu (fun x hx=>h.nobl x (.tail _ hx))]
 rfl
theorem dq_toks {h:Heap} {as:Str} {s:Str} (q:Dq h (.str as 1000000004) (.str s 1000000005)) (l:2 * as.cps.toList.length≤s.cps.toList.length):Je h as.cps.toList (Jf s):=by
 generalize e1:Value.str as 1000000004=u1 at q
 generalize e2:Value.str s 1000000005=u2 at q
 have same:as=s→Je h as.cps.toList (Jf s):=fun e=>by
  subst e
  have z:as.cps.toList=[]:=List.eq_nil_of_length_eq_zero (by omega)
  unfold Jf
  rw [z]
  trivial
 cases q with
 |same v=>subst e1;cases e2
 |str x t u=>exact same ((Value.str.inj e1).1.trans (Value.str.inj e2).1.symm)
 |bytes=>cases e1
 |tup=>cases e1
 |rowT=>cases e1
 |rowR=>cases e1
 |rowsT=>cases e1
 |rowsR=>cases e1
 |toks as' s' h1 _ =>
  rw [(Value.str.inj e1).1,(Value.str.inj e2).1]
  exact h1
structure CmG (w:World) (h:Heap) (E I L W:Addr) (eO iO lO wO:Obj):Prop where
 st:St w h
 gE:h.get? E=some eO
 gI:h.get? I=some iO
 gL:h.get? L=some lO
 gW:h.get? W=some wO
 oE:(ktP w).get E=none
 oI:(ktP w).get I=none
 oL:(ktP w).get L=none
 lw:L≠W
 cE:eO.cls = .type "dict"
 cI:iO.cls = .type "list_iterator"
 cL:lO.cls = .type "list"
 cW:wO.cls = .type "list"
theorem CmG.shown {w:World} {h:Heap} {E I L W:Addr} {eO iO lO wO:Obj} (G:CmG w h E I L W eO iO lO wO):jl w [E,I,L] [⟨E,eO,true,[]⟩,⟨I,iO,true,[]⟩,⟨L,lO,true,[]⟩,⟨W,wO,false,[]⟩] h:=by
 have t {s u:String} (n:s≠u):(Value.type s)≠Value.type u:=fun e=>n (Value.type.inj e)
 have ei:=yi G.gE G.gI (by rw [G.cE,G.cI];exact t (by decide))
 have el:=yi G.gE G.gL (by rw [G.cE,G.cL];exact t (by decide))
 have ew:=yi G.gE G.gW (by rw [G.cE,G.cW];exact t (by decide))
 have il:=yi G.gI G.gL (by rw [G.cI,G.cL];exact t (by decide))
 have iw:=yi G.gI G.gW (by rw [G.cI,G.cW];exact t (by decide))
 exact ((((jl.nil G.st).r G.gW trivial).w G.gL G.oL (.tail _ (.tail _ (.head _))) ⟨fun _=>G.lw,trivial⟩).w G.gI G.oI (.tail _ (.head _)) ⟨fun _=>il,fun _=>iw,trivial⟩).w G.gE G.oE (.head _) ⟨fun _=>ei,fun _=>el,fun _=>ew,trivial⟩
def tkAt (m:List En) (i:Nat):Option Tk:=match oAt m i with
 |some o=>tkO? o
 |none=>none
def tkRef (m:List En) (i:Nat):Option Nat:=match oAt m i with
 |some o=>tkI? o
 |none=>none
theorem tk_known {C:Cfg} {h₀ h':Heap} {ws:List Addr} {m:List En} {n i j:Nat} {t:Tk} (D:Rp C h₀ ws m n h') (e:tkAt m j=some t) (e':tkRef m i=some (aAt m j)):TokAt h' (aAt m i) t:=by
 unfold tkAt at e
 unfold tkRef at e'
 split at e
 ·rename_i o q
  split at e'
  ·rename_i o' q'
   obtain ⟨y,rfl⟩:=tkO_eq e
   have:=tkI_eq e'
   subst this
   exact ⟨_,y,yk D q',yk D q⟩
  ·cases e'
 ·cases e
def CmOut (E I L:Addr) (z:Int) (k:Nat) (l:List Value) (wd:List Str) (r:Result) (h':Heap):Prop :=
 r = .ok .next∧∃ as:List Addr,as.length=wd.length∧Je h' as (Jf (Jc wd))∧(∃ s t ep,h'.get? E=some (wdO z k (.str s t) ep))∧(∃ j,h'.get? I=some (liE j))∧∃ ep,h'.get? L=some (lsO (l++as.map Value.ref) ep)
section
variable {w:World} {b1 b2 b3:Bool} {lc:Nat} {hs:List Mine.Hook} {h₀:Heap} {ws:List Addr} {h:Heap} {F E I L W k tx ep i le we:Nat} {z:Int} {x:Str} {l wv:List Value} {wd:List Str}
theorem cmEnd {C:Cfg} {r:Result} {m:List En} {n:Nat} {h':Heap} {y:Ora} (kd:Wd) (hd:vL wd) (q:y.s2.cps.toList.length=wd.length)
  (e:(vq r,tkRef m 1,tkAt m 2,dqA m 0,oR m 1,oR m 2,oR m 3)=(true,some (aAt m 2),some (tkW kd.s.cps.toList),(.str ⟨⟨y.s2.cps.toList⟩⟩ 1000000004,.str (Jc wd) 1000000005) :: [],some (L,lsO (l++[.ref (aAt m 1)]++y.s2.cps.toList.map Value.ref) y.p.line),some (I,liE y.n3),some (E,wdO z k (.str y.s y.n) y.n2))) (D':Rp C h₀ ws m n h'):CmOut E I L z k l (kd.s::wd) r h':=by
 refine pr7 e fun e1 e2 e3 e4 e5 e6 e7=>?_
 refine ⟨Qg e1,aAt m 1::y.s2.cps.toList,by simp [q],?_,⟨y.s,y.n,y.n2,vr D' e7⟩,⟨y.n3,vr D' e6⟩,y.p.line,?_⟩
 ·rw [tkOf_cons (fun u hu=>by cases hu with | head=>exact ⟨kd,rfl⟩ | tail _ hu=>exact hd u hu)]
  refine ⟨tk_known D' e3 e2,?_⟩
  have f:=qc D' e4 _ (.head _)
  exact dq_toks f (by show 2 * y.s2.cps.toList.length≤_;rw [q];exact catB_len hd)
 ·rw [vr D' e5]
  simp only [List.map_cons,List.append_assoc,List.cons_append,List.nil_append]
theorem cmExit {C:Cfg} {r:Result} {m:List En} {n j:Nat} {h':Heap} (e:(vq r,oR m 1,oR m 2,oR m 3)=(true,some (L,lsO l le),some (I,liE j),some (E,wdO z k (.str x tx) ep))) (D':Rp C h₀ ws m n h'):CmOut E I L z k l [] r h':=by
 refine pr4 e fun e1 e5 e6 e7=>?_
 exact ⟨Qg e1,[],rfl,trivial,⟨x,tx,ep,vr D' e7⟩,⟨j,vr D' e6⟩,le,by rw [vr D' e5,List.map_nil,List.append_nil]⟩
end
def tr_cmT (kd:Wd) (b1 b2 b3:Bool):Tr:=match kd with
 |.x=>T [2,1,2,1,3,1,1,1,0,1,1,1,1,0,0,2,0,0,1,1,1,1,0,0,0,0,0,0,0,0,0,0,0,0,0,0,0,0,0,0,0,0,0,0,0,0,0,0] (T [0,0,0,0,1,0,1,0,0,0,0,0,0,1,1,1,1,1,1,1,1,1,1,0,1,1,2,0,0,0,0,2,0,2,0,2,0,0,0,2,0,3,3,3,1,1,2,0] (T [0,0,0,2,0,2,0,2,0,0,0,2,0,3,3,3,1,1,2,0,0,0,0,2,0,2,0,2,0,0,0,2,0,3,3,3,1,1,2,0,0,0,0,2,0,2,0,2] (T [0,0,0,2,0,3,3,3,2,1,7,3,4,5,6,7,8] .nil)))
 |_=>T [2,1,2,1,3,1,1,1,0,1,1,1,1,0,0,2,0,0,0,0,0,0,0,0,0,0,0,0,0,0,0,0,0,0,0,0,0,0,0,0,0,0,0,0,0,0,1,0] (T [1,0,0,0,0,0,0,1,1,1,1,1,1,1,1,1,1,0,1,1,2,0,0,0,0,2,0,2,0,2,0,0,0,2,0,3,3,3,1,1,2,0,0,0,0,2,0,2] (T [0,2,0,0,0,2,0,3,3,3,1,1,2,0,0,0,0,2,0,2,0,2,0,0,0,2,0,3,3,3,1,1,2,0,0,0,0,2,0,2,0,2,0,0,0,2,0,3] (T [3,3,2,1,6,3,4,4,5,6,7] .nil)))
def tr_wE (b1 b2 b3:Bool):Tr:=T [2,1,2,1,3,1] .nil
noncomputable def wq (kd:Wd):Nat:=match kd with
 |.x=>3
 |_=>2
section
variable {w:World} {b1 b2 b3:Bool} {lc:Nat} {hs:List Mine.Hook} {h₀:Heap} {ws:List Addr} {h:Heap} {F E I L W k tx ep i le we:Nat} {z:Int} {x:Str} {l wv:List Value} {wd:List Str}
theorem cmT (kd:Wd) {tv:Nat} (G:CmG (jb w b1 b2 b3) h E I L W (wdO z k (.str x tx) ep) (liO W i) (lsO l le) (lsO wv we)) (hd:vL wd) (hl:l.length+(wd.length+1)≤1000) (ih:∀ lc hs,(cmpH wd).Ok (cfg (jb w b1 b2 b3) lc hs) PW (jb w b1 b2 b3) h [E,I,L]) (m0:wv[i]?=some (Value.str kd.s tv)) (m1:YU (List.drop (i+1) wv) wd):jV (jb w b1 b2 b3) 8 (YN F E I L) h [E,I,L] (CmOut E I L z k l (kd.s::wd)):=by
 refine vP (hooks:=[nextVH (.str kd.s tv),VW,cmpH wd]) (hkc Kf (hkc yr (hkc (ih _ _) hkn))) (by exact Nat.le_of_ble_eq_true (by kernel_rfl)) (fuel:=10000) (tr:=tr_cmT kd b1 b2 b3) G.shown fun n tk os bs hn=>?_
 exact ye (fun r m=>(vq r,tkRef m 1,tkAt m 2,dqA m 0,oR m 1,oR m 2,oR m 3)) (fun r m=>(true,some (aAt m 2),some (tkW kd.s.cps.toList),(.str ⟨⟨(os 5).s2.cps.toList⟩⟩ 1000000004,.str (Jc wd) 1000000005) :: [],some (L,lsO (l++[.ref (aAt m 1)]++(os 5).s2.cps.toList.map Value.ref) (os 5).p.line),some (I,liE (os 5).n3),some (E,wdO z k (.str (os 5).s (os 5).n) (os 5).n2))) (ps:=[(true,wv[i]?=some (Value.str kd.s tv)),yt,(true,l.length≤1000),yt,(true,YN F E I L=YN F E I L),(true,YU (List.drop (i+1) wv) wd),(true,(l++[Value.ref ((os 0).n+wq kd)]).length+wd.length≤1000),(false,(os 5).s2.cps.toList.length=wd.length)]) (by clear hn m0 m1 G hd hl ih;cases kd <;> cases b1 <;> kernel_rfl) (⟨m0,fun _=>⟨(by omega),fun _=>⟨rfl,⟨m1,⟨(by simp only [List.length_append,List.length_cons,List.length_nil];omega),fun q0=>fun r m n tk e h' D'=>cmEnd (y:=(os 5)) kd hd q0 e D'⟩⟩⟩⟩⟩)
theorem cmE (G:CmG (jb w b1 b2 b3) h E I L W (wdO z k (.str x tx) ep) (liO W i) (lsO l le) (lsO wv we)) (m0:wv.length≤i):jV (jb w b1 b2 b3) 8 (YN F E I L) h [E,I,L] (CmOut E I L z k l []):=by
 refine jU (hooks:=[nextEH]) (hkc nextEH_ok hkn) (by exact Nat.le_of_ble_eq_true (by kernel_rfl)) (fuel:=10000) (tr:=fun b1=>tr_wE b1 b2 b3) G.shown fun n tk os bs hn=>?_
 exact jj (fun r m=>(vq r,oR m 1,oR m 2,oR m 3)) (fun r m=>(true,some (L,lsO l le),some (I,liE i),some (E,wdO z k (.str x tx) ep))) (ps:=[(true,wv.length≤i),yt]) (by kernel_rfl) (by kernel_rfl) (fun _ c=>⟨m0,fun _=>c fun r m n tk e h' D'=>cmExit e D'⟩)
theorem cmpH_ok {w:World} (S:∀ {h:Heap} {F E I L W k tx ep i le we:Nat} {z:Int} {x:Str} {l wv:List Value},CmG w h E I L W (wdO z k (.str x tx) ep) (liO W i) (lsO l le) (lsO wv we)→YU (wv.drop i) wd→l.length+wd.length≤1000→jV w 8 (YN F E I L) h [E,I,L] (CmOut E I L z k l wd)):(cmpH wd).Ok (cfg w lc hs) PW w h₀ ws:=by
 refine YE fun c m hint=>?_
 refine iCm fun ge nn it acc env b1=>iRf fun I b2=>iRf fun L b3=>iS fun F qF=>iL4 fun jE jI jL jW b4=>iM fun eE x qE qe=>iN fun eI W i qI qi=>iN fun eL l le qL ql=>iN fun eW wv we qW qw=>iF fun qj=>?_
 obtain ⟨z,k,x,tx,ep⟩:=x
 subst b1 b2 b3 b4
 refine iE ?_
 intro h he hm hi hst hk hdq hoff hap hold
 have a1:env.locals=eE.a:=he (env.locals,eE.a) (.head _)
 have a2:I=eI.a:=yM he 1
 have a3:L=eL.a:=yM he 2
 have a4:W=eW.a:=yM he 3
 have c1:=hm _ (.head _)
 have c2:=hm _ (.tail _ (.head _))
 have c3:=hm _ (.tail _ (.tail _ (.head _)))
 have w1:=Jv hi qE
 have hi2:=Kx hi
 have w2:=Jv hi2 qI
 have hi3:=Kx hi2
 have w3:=Jv hi3 qL
 clear hi2 hi3 he hm hi
 subst a2 a3 a4
 have oE:=wd_eq qe
 have oI:=Ku qi
 have oL:=yq ql
 have oW:=yq qw
 have mE:=List.mem_of_getElem? qE
 have mI:=List.mem_of_getElem? qI
 have mL:=List.mem_of_getElem? qL
 have mW:=List.mem_of_getElem? qW
 have lw:eL.a≠eW.a:=hap jL jW eL eW qL qW w3 (fun q=>by rw [q,Nat.beq_refl] at qj;cases qj)
 have G:CmG w h eE.a eI.a eL.a eW.a _ _ _ _:=⟨hst,oE ▸ hk eE mE,oI ▸ hk eI mI,oL ▸ hk eL mL,oW ▸ hk eW mW,hoff eE mE w1,hoff eI mI w2,hoff eL mL w3,lw,rfl,rfl,rfl,rfl⟩
 have X:=S (F:=F) G c2 c3
 rw [a1] at c1
 rw [←c1] at X
 refine jV.on (adC qE (adC qI (adC qL adN))) X fun r h' _ p=>?_
 obtain ⟨rfl,as,la,ta,⟨s',t',ep',p1⟩,⟨j',p2⟩,ep2,p3⟩:=p
 refine ⟨{(default:Ora) with n:=t',n2:=ep',n3:=j',s:=s',s2:=⟨⟨as⟩⟩,p:={(default:Pos) with line:=ep2}},rfl,la,⟨⟨eE,qE,p1,by rw [oE];rfl⟩,⟨eI,qI,p2,by rw [oI];rfl⟩,⟨eL,qL,p3,by rw [oL];rfl⟩,trivial⟩,fun _ q=>(nomatch q),fun p hp=>?_⟩
 cases hp with
 |head=>exact .toks as _ ta fun q=>by rw [q] at la;cases wd with | nil=>rfl | cons=>cases la
 |tail _ hp=>cases hp
theorem cm_says:∀ {wd:List Str},vL wd→∀ {h:Heap} {F E I L W k tx ep i le we:Nat} {z:Int} {x:Str} {l wv:List Value},CmG (jb w b1 b2 b3) h E I L W (wdO z k (.str x tx) ep) (liO W i) (lsO l le) (lsO wv we)→YU (wv.drop i) wd→l.length+wd.length≤1000→jV (jb w b1 b2 b3) 8 (YN F E I L) h [E,I,L] (CmOut E I L z k l wd):=by
 intro wd
 induction wd with
 |nil =>
  intro _ h F E I L W k tx ep i le we z x l wv G a _
  refine cmE G ?_
  cases q:wv.drop i with
  |nil=>exact List.drop_eq_nil_iff.mp q
  |cons=>rw [q] at a;exact a.elim
 |cons u wd IH =>
  intro hd h F E I L W k tx ep i le we z x l wv G a hl
  obtain ⟨kd,rfl⟩:=hd u (.head _)
  have hd':vL wd:=fun v hv=>hd v (.tail _ hv)
  cases q:wv.drop i with
  |nil=>rw [q] at a;exact a.elim
  |cons v vs =>
   rw [q] at a
   obtain ⟨⟨t,rfl⟩,a⟩:=a
   have ge:wv[i]?=some (.str kd.s t):=by rw [←List.head?_drop,q];rfl
   have dr:wv.drop (i+1)=vs:=by rw [←List.drop_drop,q];rfl
   have hl':l.length+(wd.length+1)≤1000:=hl
   exact cmT kd (tv:=t) G hd' hl' (fun lc hs=>cmpH_ok fun G a b=>IH hd' G a b) ge (by rw [dr];exact a)
end
noncomputable def QB (v:Value):List Str:=match v with
 |.ref a=>match Nat.beq a 775 with
  |true=>["A"]
  |false=>match Nat.beq a 777 with
   |true=>["\"x\""]
   |false=>match Nat.beq a 779 with
    |true=>["SPACE"]
    |false=>["B","OF","G"]
 |_=>[]
def b1Ws (x:Str) (v:Value):List Str:=match v with
 |.ref _=>x::("INITIAL" : Str)::QB v
 |_=>[]
def bdWs (b a:Value):List Str:=b1Ws "BEFORE" b++b1Ws "AFTER" a
def Row.tW (r:Row):List Str:=QB r.c++("FOR" : Str)::r.k::(QB r.v++bdWs r.b r.a)
def Row.rW (r:Row):List Str:=r.k::(QB r.v++("BY" : Str)::(QB r.c++bdWs r.b r.a))
def tWs (rs:List Row):List Str:=rs.flatMap Row.tW
def rWs (rs:List Row):List Str:=rs.flatMap Row.rW
def Qw (k:Nat) (c:Value) (rs rr:List Row):List Str:=QB c++match k with
 |0=>("TALLYING" : Str)::(tWs rs++("REPLACING" : Str)::rWs rr)
 |1=>("TALLYING" : Str)::tWs rs
 |_=>("REPLACING" : Str)::rWs rr
def stX (k:Nat) (c:Value) (rs rr:List Row):Str:=match k with
 |0 => "INSPECT "++opT c ++ " "++yI rs ++ " "++yU rr
 |1 => "INSPECT "++opT c ++ " "++yI rs
 |_ => "INSPECT "++opT c ++ " "++yU rr
theorem vL.app {a b:List Str} (h:vL a) (h':vL b):vL (a++b):=fun w hw=>by
 rcases List.mem_append.mp hw with q | q
 ·exact h w q
 ·exact h' w q
theorem vL.con (k:Wd) {a:List Str} (h:vL a):vL (k.s::a):=fun w hw=>by
 cases hw with
 |head=>exact ⟨k,rfl⟩
 |tail _ q=>exact h w q
theorem vL.nil:vL []:=fun _ h=>nomatch h
theorem opWs_wd {v:Value} (h:vG v):vL (QB v):=by
 rcases h with rfl | rfl | rfl | rfl
 ·exact .con .a .nil
 ·exact .con .x .nil
 ·exact .con .sp .nil
 ·exact .con .b (.con .o (.con .g .nil))
theorem bdWs_wd {b a:Value} (h:yA b a):vL (bdWs b a):=by
 obtain ⟨h1,h2⟩:=h
 refine .app ?_ ?_
 ·rcases h1 with rfl | rfl | rfl
  ·exact .nil
  ·exact .con .be (.con .ini (.con .a .nil))
  ·exact .con .be (.con .ini (.con .x .nil))
 ·rcases h2 with rfl | rfl
  ·exact .nil
  ·exact .con .af (.con .ini (.con .sp .nil))
theorem kd_wd {K:Str} (h:IsKd K):∃ k:Wd,K=k.s:=by
 rcases h with rfl | rfl | rfl | rfl
 ·exact ⟨.ch,rfl⟩
 ·exact ⟨.al,rfl⟩
 ·exact ⟨.le,rfl⟩
 ·exact ⟨.fi,rfl⟩
theorem vL.kd {K:Str} (h:IsKd K) {a:List Str} (q:vL a):vL (K::a):=by
 obtain ⟨k,rfl⟩:=kd_wd h
 exact .con k q
theorem kdv {K:Str} {v:Value} (h:Qj K v):v = .none∨vG v:=by
 rcases h with ⟨_,h⟩ | ⟨_,h,_⟩
 ·exact .inl h
 ·exact .inr h
theorem opWs_wd' {v:Value} (h:v = .none∨vG v):vL (QB v):=by
 rcases h with rfl | h
 ·exact .nil
 ·exact opWs_wd h
theorem Row.OkT.isKd {r:Row} (h:r.OkT):IsKd r.k:=by
 rcases h.kd with q | q | q
 ·exact .inl q
 ·exact .inr (.inl q)
 ·exact .inr (.inr (.inl q))
theorem Row.OkT.wd {r:Row} (h:r.OkT):vL r.tW := .app (opWs_wd (jG h.c)) (.con .fr (.kd h.isKd (.app (opWs_wd' (kdv h.k)) (bdWs_wd h.b))))
theorem Row.OkR.wd {r:Row} (h:r.OkR):vL r.rW := .kd h.kd (.app (opWs_wd' (kdv h.k)) (.con .bw (.app (opWs_wd h.c) (bdWs_wd h.b))))
theorem flat_wd {f:Row→List Str}:∀ {rs:List Row},(∀ r∈rs,vL (f r))→vL (rs.flatMap f)
 |[],_ => .nil
 |r::rs,h => .app (h r (.head _)) (flat_wd fun x hx=>h x (.tail _ hx))
theorem stWs_wd {k:Nat} {c:Value} {rs rr:List Row} (hc:vc c) (ht:∀ r∈rs,r.OkT) (hr:∀ r∈rr,r.OkR):vL (Qw k c rs rr):=by
 have t:=flat_wd (f:=Row.tW) fun r q=>(ht r q).wd
 have r:=flat_wd (f:=Row.rW) fun r q=>(hr r q).wd
 refine .app (opWs_wd (jG hc)) ?_
 match k with
 |0=>exact .con .ta (.app t (.con .re r))
 |1=>exact .con .ta t
 |_+2=>exact .con .re r
theorem Ju:∀ {a b:List Str},a≠[]→b≠[]→Str.join " " (a++b)=Str.join " " a++(" "++Str.join " " b)
 |[],_,h,_=>absurd rfl h
 |[x],y::b,_,_=>by
  show Str.join " " (x::y::b)=x++(" "++Str.join " " (y::b))
  rw [Str.join,Str.append_assoc]
  exact fun q=>nomatch q
 |[_],[],_,h=>absurd rfl h
 |x::y::a,b,_,hb=>by
  show Str.join " " (x::y::(a++b))=_
  have e1:Str.join " " (x::y::(a++b))=x ++ " "++Str.join " " ((y::a)++b):=by
   rw [Str.join]
   ·rfl
   ·exact fun q=>nomatch q
  have e2:Str.join " " (x::y::a)=x ++ " "++Str.join " " (y::a):=by
   rw [Str.join]
   exact fun q=>nomatch q
  rw [e1,e2,Ju (a:=y::a) (fun q=>nomatch q) hb]
  simp only [Str.append_assoc]
theorem QH {x:Str} {b:List Str} (h:b≠[]):Str.join " " (x::b)=x++(" "++Str.join " " b):=Ju (a:=[x]) (fun q=>nomatch q) h
theorem Ki {f:Row→List Str} (hf:∀ r,f r≠[]):∀ {rs:List Row},rs≠[]→Str.join " " (rs.flatMap f)=Txt.join " " (rs.map fun r=>Str.join " " (f r))
 |[],h=>absurd rfl h
 |[r],_=>by
  show Str.join " " (f r++[])=_
  rw [List.append_nil,List.map_cons,List.map_nil,jn1]
 |r::s::rs,_=>by
  show Str.join " " (f r++(s::rs).flatMap f)=_
  have n:(s::rs).flatMap f≠[]:=fun q=>by
   have:f s++rs.flatMap f=[]:=q
   exact hf s (List.append_eq_nil_iff.mp this).1
  rw [Ju (hf r) n,Ki hf (rs:=s::rs) (fun q=>nomatch q)]
  simp only [List.map_cons]
  rw [jnc]
theorem Ym {x:Str} {l:List Str}:x::l≠[]:=fun q=>nomatch q
theorem VB {v:Value} (h:vG v):Str.join " " (QB v)=opT v:=by
 rcases h with rfl | rfl | rfl | rfl <;> decide +kernel
theorem VA {v:Value} (h:vG v):QB v≠[]:=by
 rcases h with rfl | rfl | rfl | rfl <;> exact fun q=>nomatch q
theorem bdW_join {b a:Value} (h:yA b a) (x:List Str) (hx:x≠[]):Str.join " " (x++bdWs b a)=Str.join " " x++bdW b a:=by
 have e:bdWs b a=[]∧bdW b a=Str.empty∨bdWs b a≠[]∧bdW b a = " "++Str.join " " (bdWs b a):=by
  obtain ⟨h1,h2⟩:=h
  rcases h1 with rfl | rfl | rfl <;> rcases h2 with rfl | rfl <;> first | exact .inl ⟨rfl,rfl⟩ | exact .inr ⟨(fun q=>nomatch q),by decide +kernel⟩
 rcases e with ⟨e1,e2⟩ | ⟨e1,e2⟩
 ·rw [e1,e2,List.append_nil,Str.append_empty]
 ·rw [e2,Ju hx e1]
theorem kdT_join {K:Str} {v:Value} (h:Qj K v):Str.join " " (K::QB v)=kdT K v:=by
 rcases h with ⟨_,rfl⟩ | ⟨_,h,_⟩
 ·rfl
 ·rw [QH (VA h),VB h]
  rcases h with rfl | rfl | rfl | rfl <;> exact (Str.append_assoc _ _ _).symm
theorem Row.OkT.join {r:Row} (h:r.OkT):Str.join " " r.tW=r.tT:=by
 have e:r.tT=opT r.c++(" "++("FOR"++(" "++(kdT r.k r.v++bdW r.b r.a)))):=Jt h.b (yz (jG h.c))
 unfold Row.tW
 rw [e,Ju (VA (jG h.c)) Ym,VB (jG h.c),QH Ym,←List.cons_append,bdW_join h.b _ Ym,kdT_join h.k]
theorem Row.OkR.join {r:Row} (h:r.OkR):Str.join " " r.rW=r.rT:=by
 have e:r.rT=kdT r.k r.v++(" "++("BY"++(" "++(opT r.c++bdW r.b r.a)))):=Jt h.b (yL h.k)
 unfold Row.rW
 rw [e,←List.cons_append,Ju Ym Ym,kdT_join h.k,QH (by have:=VA h.c;intro q;exact this (List.append_eq_nil_iff.mp q).1),bdW_join h.b _ (VA h.c),VB h.c]
theorem tW_ne (r:Row):r.tW≠[]:=fun q=>by
 have:=(List.append_eq_nil_iff.mp q).2
 cases this
theorem rW_ne (r:Row):r.rW≠[]:=fun q=>nomatch q
theorem flat_ne {f:Row→List Str} (hf:∀ r,f r≠[]) {rs:List Row} (h:rs≠[]):rs.flatMap f≠[]:=by
 cases rs with
 |nil=>exact absurd rfl h
 |cons r rs =>
  intro q
  have:f r++rs.flatMap f=[]:=q
  exact hf r (List.append_eq_nil_iff.mp this).1
theorem tWs_join {rs:List Row} (h:rs≠[]) (ho:∀ r∈rs,r.OkT):Str.join " " (("TALLYING" : Str)::tWs rs)=yI rs:=by
 have e:rs.map (fun r=>Str.join " " r.tW)=rs.map Row.tT:=List.map_congr_left fun r q=>(ho r q).join
 show Str.join " " (("TALLYING" : Str)::rs.flatMap Row.tW)=_
 rw [QH (flat_ne tW_ne h),Ki tW_ne h,e,←Str.append_assoc]
 rfl
theorem rWs_join {rs:List Row} (h:rs≠[]) (ho:∀ r∈rs,r.OkR):Str.join " " (("REPLACING" : Str)::rWs rs)=yU rs:=by
 have e:rs.map (fun r=>Str.join " " r.rW)=rs.map Row.rT:=List.map_congr_left fun r q=>(ho r q).join
 show Str.join " " (("REPLACING" : Str)::rs.flatMap Row.rW)=_
 rw [QH (flat_ne rW_ne h),Ki rW_ne h,e,←Str.append_assoc]
 rfl
theorem st_join {k:Nat} {c:Value} {rs rr:List Row} (hc:vc c) (ht:∀ r∈rs,r.OkT) (hr:∀ r∈rr,r.OkR) (nt:rs≠[]) (nr:rr≠[]):Str.join " " (("INSPECT" : Str)::Qw k c rs rr)=stX k c rs rr:=by
 have i:("INSPECT " : Str) = "INSPECT" ++ " ":=by decide +kernel
 have oc:=jG hc
 have go:∀ l:List Str,l≠[]→Str.join " " (("INSPECT" : Str)::(QB c++l)) = "INSPECT "++opT c ++ " "++Str.join " " l:=fun l hl=>by
  rw [QH (fun q=>VA oc (List.append_eq_nil_iff.mp q).1),Ju (VA oc) hl,VB oc,i]
  simp only [Str.append_assoc]
 unfold Qw
 rw [go _ (by match k with | 0=>exact fun q=>nomatch q | 1=>exact fun q=>nomatch q | _+2=>exact fun q=>nomatch q)]
 match k with
 |0 =>
  show _++Str.join " " ((("TALLYING" : Str)::tWs rs)++(("REPLACING" : Str)::rWs rr)) = "INSPECT "++opT c ++ " "++yI rs ++ " "++yU rr
  rw [Ju Ym Ym,tWs_join nt ht,rWs_join nr hr]
  simp only [Str.append_assoc]
 |1=>show _++Str.join " " (("TALLYING" : Str)::tWs rs)=_;rw [tWs_join nt ht];rfl
 |_+2=>show _++Str.join " " (("REPLACING" : Str)::rWs rr)=_;rw [rWs_join nr hr];rfl
noncomputable def Has (ts:List Tk):Nat→List Str→Prop
 |_,[]=>True
 |z,w::l=>ts[z]?=some (tkW w.cps.toList)∧Has ts (z+1) l
theorem Has.app {ts:List Tk}:∀ {a b:List Str} {z:Nat},Has ts z (a++b)→Has ts z a∧Has ts (z+a.length) b
 |[],_,_,h=>⟨trivial,h⟩
 |w::a,b,z,⟨h1,h2⟩=>by
  obtain ⟨q1,q2⟩:=Has.app (a:=a) h2
  refine ⟨⟨h1,q1⟩,?_⟩
  rw [List.length_cons,show z+(a.length+1)=z+1+a.length by omega]
  exact q2
theorem has_all:∀ (pre l:List Str),Has ((pre++l).map fun w=>tkW w.cps.toList) pre.length l
 |_,[]=>trivial
 |pre,w::l=>by
  refine ⟨by simp,?_⟩
  have:=has_all (pre++[w]) l
  rw [List.append_assoc] at this
  simpa using this
def Fo (ts:List Tk) (p:Nat):Prop:=ts.length≤p∨∃ t,ts[p]?=some t∧t.s ≠ "OF"∧t.s ≠ "IN"∧t.s ≠ "BEFORE"∧t.s ≠ "AFTER"
def Wk (ts:List Tk) (p:Nat):Prop:=ts.length≤p∨∃ t,ts[p]?=some t∧t.s ≠ "OF"∧t.s ≠ "IN"
theorem Fo.wk {ts:List Tk} {p:Nat} (h:Fo ts p):Wk ts p:=by
 rcases h with h | ⟨t,a,b,c,_⟩
 ·exact .inl h
 ·exact .inr ⟨t,a,b,c⟩
theorem Wk.noOf {ts:List Tk} {p:Nat} (h:Wk ts p):NoOf ts p:=by
 rcases h with h | ⟨t,a,b,c⟩
 ·exact ⟨jH h,jH h⟩
 ·exact ⟨ju a b,ju a c⟩
theorem Fo.noB {ts:List Tk} {p:Nat} (h:Fo ts p):¬ ja ts p "BEFORE"∧¬ ja ts p "AFTER":=by
 rcases h with h | ⟨t,a,_,_,b,c⟩
 ·exact ⟨jH h,jH h⟩
 ·exact ⟨ju a b,ju a c⟩
noncomputable def Wd.fo (k:Wd):Bool:=match k with
 |.o=>false
 |.be=>false
 |.af=>false
 |_=>true
theorem Wd.isFo {k:Wd} (h:k.fo=true):(tkW k.s.cps.toList).s ≠ "OF"∧(tkW k.s.cps.toList).s ≠ "IN"∧(tkW k.s.cps.toList).s ≠ "BEFORE"∧(tkW k.s.cps.toList).s ≠ "AFTER":=by
 cases k <;> first | exact ⟨by decide +kernel,by decide +kernel,by decide +kernel,by decide +kernel⟩ | cases h
theorem Has.fo {ts:List Tk} {z:Nat} {l:List Str} (k:Wd) (h:Has ts z (k.s::l)) (f:k.fo=true):Fo ts z := .inr ⟨_,h.1,Wd.isFo f⟩
theorem Wd.tk (k:Wd):tkW k.s.cps.toList=(match k with | .x=>⟨true,"x"⟩ | _=>⟨false,k.s⟩):=by cases k <;> rfl
theorem Has.wd {ts:List Tk} {z:Nat} {l:List Str} (k:Wd) (n:k ≠ .x) (h:Has ts z (k.s::l)):ja ts z k.s:=by
 have:=h.1
 rw [Wd.tk k] at this
 cases k <;> first | exact absurd rfl n | exact this
theorem yu {v:Value} (h:v = .none∨vG v):(QB v).length=opN v:=by
 rcases h with rfl | rfl | rfl | rfl | rfl <;> rfl
theorem Has.op {ts:List Tk} {z:Nat} {v:Value} (h:vG v) (q:Has ts z (QB v)) (f:Wk ts (z+opN v)):qN ts z v:=by
 rcases h with rfl | rfl | rfl | rfl
 ·exact .inl ⟨rfl,q.wd .a (fun e=>nomatch e),f.noOf⟩
 ·exact .inr (.inl ⟨rfl,q.1⟩)
 ·exact .inr (.inr (.inl ⟨rfl,q.wd .sp (fun e=>nomatch e)⟩))
 ·exact .inr (.inr (.inr ⟨rfl,q.wd .b (fun e=>nomatch e),q.2.wd .o (fun e=>nomatch e),q.2.2.wd .g (fun e=>nomatch e),f.noOf⟩))
theorem Has.fop {ts:List Tk} {z:Nat} {v:Value} {l:List Str} (h:vG v) (q:Has ts z (QB v++l)):Fo ts z:=by
 rcases h with rfl | rfl | rfl | rfl
 ·exact Has.fo .a q rfl
 ·exact Has.fo .x q rfl
 ·exact Has.fo .sp q rfl
 ·exact Has.fo .b q rfl
theorem bd1_len {x:Str} {v:Value} (h:v = .none∨vG v):(b1Ws x v).length=jp v:=by
 rcases h with rfl | rfl | rfl | rfl | rfl <;> rfl
theorem VR {b a:Value} (h:yA b a):(b = .none∨vG b)∧(a = .none∨vG a):=by
 obtain ⟨h1,h2⟩:=h
 refine ⟨?_,?_⟩
 ·rcases h1 with rfl | rfl | rfl
  ·exact .inl rfl
  ·exact .inr (.inl rfl)
  ·exact .inr (.inr (.inl rfl))
 ·rcases h2 with rfl | rfl
  ·exact .inl rfl
  ·exact .inr (.inr (.inr (.inl rfl)))
theorem bdWs_len {b a:Value} (h:yA b a):(bdWs b a).length=jp b+jp a:=by
 obtain ⟨h1,h2⟩:=VR h
 unfold bdWs
 rw [List.length_append,bd1_len h1,bd1_len h2]
theorem JO {v:Value} (h:vG v):v ≠ .none∧jp v=2+opN v∧∀ x,b1Ws x v=x::("INITIAL" : Str)::QB v:=by
 rcases h with rfl | rfl | rfl | rfl <;> exact ⟨(fun q=>nomatch q),rfl,fun _=>rfl⟩
theorem Has.b1 {ts:List Tk} {z:Nat} {v:Value} (k:Wd) (n:k ≠ .x) (h:vG v) (q:Has ts z (b1Ws k.s v)) (f:Wk ts (z+jp v)):SpellB1 ts z k.s v:=by
 obtain ⟨_,e,w⟩:=JO h
 rw [w] at q
 refine ⟨q.wd k n,q.2.wd .ini (fun e=>nomatch e),q.2.2.op h ?_⟩
 rw [e,show z+(2+opN v)=z+1+1+opN v by omega] at f
 exact f
theorem Has.bd {ts:List Tk} {z:Nat} {b a:Value} (h:yA b a) (q:Has ts z (bdWs b a)) (f:Fo ts (z+(jp b+jp a))):vp ts z b a∧Wk ts z:=by
 obtain ⟨h1,h2⟩:=VR h
 obtain ⟨q1,q2⟩:=q.app
 rw [bd1_len h1] at q2
 rw [←Nat.add_assoc] at f
 have after:((a = .none∧¬ ja ts (z+jp b) "AFTER")∨(a ≠ .none∧SpellB1 ts (z+jp b) "AFTER" a))∧(a = .none→Fo ts (z+jp b))∧(¬ ja ts (z+jp b) "BEFORE")∧Wk ts (z+jp b):=by
  rcases h2 with rfl | h2
  ·exact ⟨.inl ⟨rfl,f.noB.2⟩,fun _=>f,f.noB.1,f.wk⟩
  ·have s:=q2.b1 .af (fun e=>nomatch e) h2 f.wk
   have w:=q2
   rw [(JO h2).2.2] at w
   refine ⟨.inr ⟨(JO h2).1,s⟩,fun e=>absurd e (JO h2).1,ju w.1 (by decide +kernel),.inr ⟨_,w.1,by decide +kernel,by decide +kernel⟩⟩
 obtain ⟨a1,a2,a3,a4⟩:=after
 refine ⟨⟨?_,a1,fun _=>f.noB.1⟩,?_⟩
 ·rcases h1 with rfl | h1
  ·exact .inl ⟨rfl,a3⟩
  ·exact .inr ⟨(JO h1).1,q1.b1 .be (fun e=>nomatch e) h1 a4⟩
 ·rcases h1 with rfl | h1
  ·exact a4
  ·rw [(JO h1).2.2] at q1
   exact .inr ⟨_,q1.1,by decide +kernel,by decide +kernel⟩
theorem Has.kd {ts:List Tk} {z:Nat} {l:List Str} {K:Str} (hk:IsKd K) (h:Has ts z (K::l)):ja ts z K∧Fo ts z:=by
 rcases hk with rfl | rfl | rfl | rfl
 ·exact ⟨h.wd .ch (fun e=>nomatch e),h.fo .ch rfl⟩
 ·exact ⟨h.wd .al (fun e=>nomatch e),h.fo .al rfl⟩
 ·exact ⟨h.wd .le (fun e=>nomatch e),h.fo .le rfl⟩
 ·exact ⟨h.wd .fi (fun e=>nomatch e),h.fo .fi rfl⟩
noncomputable def Qr (r:Row) (a:Addr):TRow:=⟨r.c,r.k,r.v,r.b,r.a,a⟩
noncomputable def Qs (r:Row) (a:Addr):RRow:=⟨r.k,r.v,r.c,r.b,r.a,a⟩
theorem tW_len {r:Row} (h:r.OkT) (a:Addr):r.tW.length=t1N (Qr r a):=by
 show _=opN r.c+2+(opN r.v+jp r.b+jp r.a)
 unfold Row.tW
 rw [List.length_append,List.length_cons,List.length_cons,List.length_append,yu (.inr (jG h.c)),yu (kdv h.k),bdWs_len h.b]
 omega
theorem rW_len {r:Row} (h:r.OkR) (a:Addr):r.rW.length=r1N (Qs r a):=by
 show _=1+(opN r.v+1+opN r.c+jp r.b+jp r.a)
 unfold Row.rW
 rw [List.length_cons,List.length_append,List.length_cons,List.length_append,yu (.inr h.c),yu (kdv h.k),bdWs_len h.b]
 omega
theorem Has.t1 {ts:List Tk} {z:Nat} {r:Row} {a:Addr} (h:r.OkT) (q:Has ts z r.tW) (f:Fo ts (z+r.tW.length)):SpellT1 ts z (Qr r a)∧Fo ts z:=by
 have hc:=jG h.c
 have f0:=q.fop hc
 obtain ⟨q1,q2⟩:=q.app
 rw [yu (.inr hc)] at q2
 have w1:=q2.wd .fr (fun e=>nomatch e)
 have k1:=q2.2.kd h.isKd
 have q3:=q2.2.2
 obtain ⟨q4,q5⟩:=q3.app
 rw [yu (kdv h.k)] at q5
 have e:z+r.tW.length=z+opN r.c+1+1+opN r.v+(jp r.b+jp r.a):=by rw [tW_len h a];show z+(opN r.c+2+(opN r.v+jp r.b+jp r.a))=_;omega
 rw [e] at f
 obtain ⟨s5,k5⟩:=q5.bd h.b f
 refine ⟨⟨⟨h.c,q1.op hc (Fo.wk (q2.fo .fr rfl))⟩,w1,k1.1,?_⟩,f0⟩
 rcases h.k with ⟨e1,e2⟩ | ⟨e1,e2,_⟩
 ·refine .inl ⟨e1,e2,?_⟩
  have e3:opN r.v=0:=by rw [e2];rfl
  rw [e3] at s5
  exact s5
 ·refine .inr ⟨?_,q4.op e2 k5,s5⟩
  rcases h.kd with e | e | e
  ·exact absurd e e1
  ·exact .inl e
  ·exact .inr e
theorem Has.r1 {ts:List Tk} {z:Nat} {r:Row} {a:Addr} (h:r.OkR) (q:Has ts z r.rW) (f:Fo ts (z+r.rW.length)):SpellR1 ts z (Qs r a)∧Fo ts z:=by
 have k1:=q.kd h.kd
 obtain ⟨q4,q5⟩:=q.2.app
 rw [yu (kdv h.k)] at q5
 have w1:=q5.wd .bw (fun e=>nomatch e)
 obtain ⟨q6,q7⟩:=q5.2.app
 rw [yu (.inr h.c)] at q7
 have e:z+r.rW.length=z+1+opN r.v+1+opN r.c+(jp r.b+jp r.a):=by rw [rW_len h a];show z+(1+(opN r.v+1+opN r.c+jp r.b+jp r.a))=_;omega
 rw [e] at f
 obtain ⟨s7,k7⟩:=q7.bd h.b f
 refine ⟨⟨h.kd,k1.1,?_,w1,q6.op h.c k7,s7⟩,k1.2⟩
 rcases h.k with ⟨e1,e2⟩ | ⟨e1,e2,_⟩
 ·exact .inl ⟨e1,e2⟩
 ·exact .inr ⟨e1,q4.op e2 (Fo.wk (q5.fo .bw rfl))⟩
noncomputable def qK {α:Type} (f:Row→Addr→α):List Row→List Addr→List α
 |r::rs,a::as=>f r a::qK f rs as
 |_,_=>[]
theorem JU {α:Type} {f:Row→Addr→α}:∀ {rs:List Row} {as:List Addr},rs.length=as.length→(qK f rs as).length=rs.length
 |[],[],_=>rfl
 |r::rs,a::as,e=>by simp only [qK,List.length_cons,JU (rs:=rs) (as:=as) (by simpa using e)]
 |[],_::_,e=>by simp at e
 |_::_,[],e=>by simp at e
theorem Vw:∀ {rs:List Row} {as:List Addr},(∀ r∈rs,r.OkT)→rs.length=as.length→(tWs rs).length=tsN (qK Qr rs as)
 |[],[],_,_=>rfl
 |r::rs,a::as,h,e=>by
  show (r.tW++tWs rs).length=t1N (Qr r a)+tsN (qK Qr rs as)
  rw [List.length_append,tW_len (h r (.head _)) a,Vw (fun x hx=>h x (.tail _ hx)) (by simpa using e)]
 |[],_::_,_,e=>by simp at e
 |_::_,[],_,e=>by simp at e
theorem Yu:∀ {rs:List Row} {as:List Addr},(∀ r∈rs,r.OkR)→rs.length=as.length→(rWs rs).length=rsN (qK Qs rs as)
 |[],[],_,_=>rfl
 |r::rs,a::as,h,e=>by
  show (r.rW++rWs rs).length=r1N (Qs r a)+rsN (qK Qs rs as)
  rw [List.length_append,rW_len (h r (.head _)) a,Yu (fun x hx=>h x (.tail _ hx)) (by simpa using e)]
 |[],_::_,_,e=>by simp at e
 |_::_,[],_,e=>by simp at e
theorem Has.ts {ts:List Tk}:∀ {rs:List Row} {as:List Addr} {z:Nat},(∀ r∈rs,r.OkT)→rs.length=as.length→Has ts z (tWs rs)→(ts.length≤z+(tWs rs).length∨ja ts (z+(tWs rs).length) "REPLACING")→qy ts z (qK Qr rs as)∧Fo ts z
 |[],[],z,_,_,_,f=>by
  refine ⟨f,?_⟩
  rcases f with f | f
  ·exact .inl f
  ·exact .inr ⟨_,f,by decide +kernel,by decide +kernel,by decide +kernel,by decide +kernel⟩
 |r::rs,a::as,z,h,e,q,f=>by
  obtain ⟨q1,q2⟩:=Has.app (a:=r.tW) (b:=tWs rs) q
  have el:z+(tWs (r::rs)).length=z+r.tW.length+(tWs rs).length:=by
   show z+(r.tW++tWs rs).length=_
   rw [List.length_append];omega
  rw [el] at f
  obtain ⟨s2,f2⟩:=Has.ts (rs:=rs) (as:=as) (fun x hx=>h x (.tail _ hx)) (by simpa using e) q2 f
  obtain ⟨s1,f1⟩:=q1.t1 (a:=a) (h r (.head _)) f2
  rw [tW_len (h r (.head _)) a] at s2
  exact ⟨⟨s1,s2⟩,f1⟩
 |[],_::_,_,_,e,_,_=>by simp at e
 |_::_,[],_,_,e,_,_=>by simp at e
theorem Has.rs {ts:List Tk}:∀ {rs:List Row} {as:List Addr} {z:Nat},(∀ r∈rs,r.OkR)→rs.length=as.length→Has ts z (rWs rs)→ts.length≤z+(rWs rs).length→qQ ts z (qK Qs rs as)∧Fo ts z
 |[],[],z,_,_,_,f=>⟨f,.inl f⟩
 |r::rs,a::as,z,h,e,q,f=>by
  obtain ⟨q1,q2⟩:=Has.app (a:=r.rW) (b:=rWs rs) q
  have el:z+(rWs (r::rs)).length=z+r.rW.length+(rWs rs).length:=by
   show z+(r.rW++rWs rs).length=_
   rw [List.length_append];omega
  rw [el] at f
  obtain ⟨s2,f2⟩:=Has.rs (rs:=rs) (as:=as) (fun x hx=>h x (.tail _ hx)) (by simpa using e) q2 f
  obtain ⟨s1,f1⟩:=q1.r1 (a:=a) (h r (.head _)) f2
  rw [rW_len (h r (.head _)) a] at s2
  exact ⟨⟨s1,s2⟩,f1⟩
 |[],_::_,_,_,e,_,_=>by simp at e
 |_::_,[],_,_,e,_,_=>by simp at e
theorem st_spell {k:Nat} {c:Value} {rs rr:List Row} {as bs:List Addr} (hc:vc c) (ht:∀ r∈rs,r.OkT) (hr:∀ r∈rr,r.OkR) (la:rs.length=as.length) (lb:rr.length=bs.length) :
  Qq ((("INSPECT" : Str)::Qw k c rs rr).map fun w=>tkW w.cps.toList) 0 k c (qK Qr rs as) (qK Qs rr bs)∧inN k c (qK Qr rs as) (qK Qs rr bs)=(Qw k c rs rr).length+1:=by
 have oc:=jG hc
 have H:=has_all [] (("INSPECT" : Str)::Qw k c rs rr)
 have hl:((([]:List Str)++("INSPECT" : Str)::Qw k c rs rr).map fun w=>tkW w.cps.toList).length=(Qw k c rs rr).length+1:=by simp
 rw [List.nil_append] at hl H
 generalize ((("INSPECT" : Str)::Qw k c rs rr).map fun w=>tkW w.cps.toList)=ts at H hl ⊢
 have i0:=H.wd .insp (fun e=>nomatch e)
 have H1:Has ts (0+1) (Qw k c rs rr):=H.2
 obtain ⟨h2,h3⟩:=Has.app (a:=QB c) H1
 rw [yu (.inr oc)] at h3
 match k with
 |0 =>
  have h3:Has ts (0+1+opN c) (("TALLYING" : Str)::(tWs rs++("REPLACING" : Str)::rWs rr)):=h3
  have len:(Qw 0 c rs rr).length=opN c+(1+tsN (qK Qr rs as)+1+rsN (qK Qs rr bs)):=by
   show (QB c++("TALLYING" : Str)::(tWs rs++("REPLACING" : Str)::rWs rr)).length=_
   rw [List.length_append,List.length_cons,List.length_append,List.length_cons,yu (.inr oc),Vw ht la,Yu hr lb];omega
  obtain ⟨h4,h5⟩:=h3.2.app
  have r0:=h5.wd .re (fun e=>nomatch e)
  have s4:=h4.ts (as:=as) ht la (.inr r0)
  have s5:=h5.2.rs (as:=bs) hr lb (by rw [hl,len,Vw ht la,Yu hr lb];omega)
  rw [Vw ht la] at r0 s5
  exact ⟨⟨i0,⟨hc,h2.op oc (Fo.wk (h3.fo .ta rfl))⟩,h3.wd .ta (fun e=>nomatch e),s4.1,r0,s5.1⟩,by rw [len];show 1+opN c+1+(tsN (qK Qr rs as)+1+rsN (qK Qs rr bs))=_;omega⟩
 |1 =>
  have h3:Has ts (0+1+opN c) (("TALLYING" : Str)::tWs rs):=h3
  have len:(Qw 1 c rs rr).length=opN c+(1+tsN (qK Qr rs as)):=by
   show (QB c++("TALLYING" : Str)::tWs rs).length=_
   rw [List.length_append,List.length_cons,yu (.inr oc),Vw ht la];omega
  have s4:=h3.2.ts (as:=as) ht la (.inl (by rw [hl,len,Vw ht la];omega))
  exact ⟨⟨i0,⟨hc,h2.op oc (Fo.wk (h3.fo .ta rfl))⟩,h3.wd .ta (fun e=>nomatch e),s4.1,jH (by rw [hl,len];omega)⟩,by rw [len];show 1+opN c+1+tsN (qK Qr rs as)=_;omega⟩
 |n+2 =>
  have h3:Has ts (0+1+opN c) (("REPLACING" : Str)::rWs rr):=h3
  have len:(Qw (n+2) c rs rr).length=opN c+(1+rsN (qK Qs rr bs)):=by
   show (QB c++("REPLACING" : Str)::rWs rr).length=_
   rw [List.length_append,List.length_cons,yu (.inr oc),Yu hr lb];omega
  have s4:=h3.2.rs (as:=bs) hr lb (by rw [hl,len,Yu hr lb];omega)
  exact ⟨⟨i0,⟨hc,h2.op oc (Fo.wk (h3.fo .re rfl))⟩,h3.wd .re (fun e=>nomatch e),s4.1⟩,by rw [len];show 1+opN c+1+rsN (qK Qs rr bs)=_;omega⟩
def TRs (h:Heap) (X:Addr) (rs:List TRow):Prop:=(∀ r∈rs,TOk h r)∧qg h X (rs.map fun r => .ref r.row)∧1≤rs.length∧rs.length≤900
def RRs (h:Heap) (X:Addr) (rs:List RRow):Prop:=(∀ r∈rs,ROk h r)∧qg h X (rs.map fun r => .ref r.row)∧1≤rs.length∧rs.length≤900
def StOk (h:Heap) (k:Nat) (S:Addr) (c:Value) (rs:List TRow) (rr:List RRow):Prop:=match k with
 |0=>∃ X Y st,qg h S [.str "tally-replace" st,c,.ref X,.ref Y]∧TRs h X rs∧RRs h Y rr
 |1=>∃ X st,qg h S [.str "tally" st,c,.ref X]∧TRs h X rs
 |_=>∃ Y st,qg h S [.str "replace" st,c,.ref Y]∧RRs h Y rr
theorem TRs.keep {h h':Heap} {ws:List Addr} {X:Addr} {rs:List TRow} (q:TRs h X rs) (o:Old ws h h') (n:Jy h ws):TRs h' X rs:=⟨fun r hr=>(q.1 r hr).keep o n,q.2.1.at o n,q.2.2⟩
theorem RRs.keep {h h':Heap} {ws:List Addr} {X:Addr} {rs:List RRow} (q:RRs h X rs) (o:Old ws h h') (n:Jy h ws):RRs h' X rs:=⟨fun r hr=>(q.1 r hr).keep o n,q.2.1.at o n,q.2.2⟩
theorem StOk.keep {h h':Heap} {ws:List Addr} {k:Nat} {S:Addr} {c:Value} {rs:List TRow} {rr:List RRow} (q:StOk h k S c rs rr) (o:Old ws h h') (n:Jy h ws):StOk h' k S c rs rr:=by
 match k with
 |0=>obtain ⟨X,Y,st,a,b,c⟩:=q;exact ⟨X,Y,st,a.at o n,b.keep o n,c.keep o n⟩
 |1=>obtain ⟨X,st,a,b⟩:=q;exact ⟨X,st,a.at o n,b.keep o n⟩
 |_+2=>obtain ⟨Y,st,a,b⟩:=q;exact ⟨Y,st,a.at o n,b.keep o n⟩
section
variable {w:World} {b1 b2 b3:Bool} {lc:Nat} {hs:List Mine.Hook} {h₀:Heap} {ws:List Addr} {h:Heap} {R D T S L:Addr} {o:Obj} {ts:List Tk} {z k:Nat} {c:Value} {rs:List TRow} {rr:List RRow}
theorem insp_says (A:jz (jb w b1 b2 b3) h R D o T ts z) (off:(ktP (jb w b1 b2 b3)).get D=none) (q:StOk h k S c rs rr) (sp:Qq ts z k c rs rr):jr (jb w b1 b2 b3) 19 (.call (.ref 587) ⟨[.ref R,.ref L],[]⟩) h [D] (Yb D o (.ref S) (z+inN k c rs rr)):=by
 obtain ⟨s0,s1,s2⟩:=sp
 match k with
 |0 =>
  obtain ⟨X,Y,st,a,b,d⟩:=q
  obtain ⟨s2,s3,s4,s5⟩:=s2
  exact ri_B A off b.1 b.2.1 b.2.2 d.1 d.2.1 d.2.2 a s0 s1 (ju s2 (by decide +kernel)) s2 s3 s4 s5
 |1 =>
  obtain ⟨X,st,a,b⟩:=q
  obtain ⟨s2,s3,s4⟩:=s2
  exact ri_T A off b.1 b.2.1 b.2.2 a s0 s1 (ju s2 (by decide +kernel)) s2 s3 s4
 |n+2 =>
  obtain ⟨Y,st,a,d⟩:=q
  obtain ⟨s2,s3⟩:=s2
  exact ri_R (rs:=rs) A off d.1 d.2.1 d.2.2 a s0 s1 (ju s2 (by decide +kernel)) (ju s2 (by decide +kernel)) s2 s3
theorem inspH_ok (hS:StOk h₀ k S c rs rr) (hn:Jy h₀ ws):(inspH k c rs rr S).Ok (cfg (jb w b1 b2 b3) lc hs) PW (jb w b1 b2 b3) h₀ ws:=by
 refine vn fun c' m hint=>?_
 refine iCa fun _ b1=>iL2 fun _ _ b2=>iRf fun R b3=>iRf fun L0 b4=>iL6 fun jR jD jT jt jd jq b5=>iM fun eR D qR qi=>iN fun eD T z qD qo=>iN fun eT l ep qT ql=>iC1 fun v0 rest b6=>iRf fun t0 b7=>iM fun et d0 qt qti=>iM fun ed tk0 qd qto=>iS fun eq qq=>iC1 fun p pl qdq=>iPr fun p1 p2 b8=>yl fun as u1 b9=>yl fun s u2 b10=>iT fun qu=>?_
 subst b1 b2 b3 b4 b5 b6 b7 b8 b9 b10
 refine iE ?_
 intro h hm hi hst hk hdq hoff hold
 have z0:=hm 0 (Nat.le_refl _)
 have e1:R=eR.a:=z0.1 (R,eR.a) (.head _)
 have e2:D=eD.a:=yM z0.1 1
 have e3:T=eT.a:=yM z0.1 2
 have e4:t0=et.a:=yM z0.1 3
 have e5:d0=ed.a:=yM z0.1 4
 have m1:rest=as.cps.toList.map Value.ref:=z0.2 _ (.head _)
 have m2:z=0:=vV z0.2 1
 have m3:Qq (tk0::Jf s) 0 k c rs rr:=vV z0.2 2
 have m4:(tk0::Jf s).length≤1000:=vV z0.2 3
 have m5:∀ t∈tk0::Jf s,t.s.length≤1000:=vV z0.2 4
 have m6:2 * as.cps.toList.length≤s.cps.toList.length:=vV z0.2 5
 have w1:=Jv hi qD
 clear z0 hm hi
 subst e1 e2 e3 e4 e5 m1 m2
 simp only [Bool.and_eq_true,Nat.beq_eq] at qu
 obtain ⟨rfl,rfl⟩:=qu
 have fa:=dq_toks (hdq eq (List.mem_of_getElem? qq) _ (by rw [qdq];exact .head _)) m6
 have gT:=hk eT (List.mem_of_getElem? qT)
 rw [yq ql] at gT
 have gt:=hk et (List.mem_of_getElem? qt)
 rw [tkI_eq qti] at gt
 obtain ⟨y,qto⟩:=tkO_eq qto
 have gd:=hk ed (List.mem_of_getElem? qd)
 rw [qto] at gd
 have mD:=List.mem_of_getElem? qD
 have A:jz (jb w b1 b2 b3) h eR.a eD.a eD.o eT.a (tk0::Jf s) 0:=⟨hst,QI qi ▸ hk eR (List.mem_of_getElem? qR),hk eD mD,qo,⟨by omega,m5⟩,et.a::as.cps.toList,none,ep,#[],gT,⟨ed.a,y,gt,gd⟩,fa⟩
 have X:=insp_says (L:=L0) A (hoff eD mD w1) (hS.keep hold hn) m3
 refine jr.on (adC qD adN) X fun r h' _ p=>?_
 obtain ⟨a,rfl,dq,t,g⟩:=p
 rw [Nat.zero_add] at g
 refine ⟨0,{(default:Ora) with n:=a,ob:=⟨.none,none,.plain,Array.replicate t none⟩},Nat.le_refl _,rfl,trivial,⟨⟨eD,qD,by simpa using g,Ys qo⟩,trivial⟩,fun _ q=>(nomatch q),fun p hp=>?_⟩
 cases hp with
 |head=>exact dq
 |tail _ hp=>cases hp
theorem geH_ok {w:World}:geH.Ok (cfg w lc hs) PW w h₀ ws:=by
 refine jN fun args m hint=>?_
 refine iL2 fun _ _ b1=>Jg fun x t b2=>Jg fun y u b3=>iL0 fun b4=>?_
 subst b1 b2 b3 b4
 refine iE ?_
 intro h he hm _ hk _ A g d tk os R _ k
 have hn:y≤x:=hm _ (.head _)
 clear he hm
 refine vb F.slot_int_ge (typeIs_int _ _ _) F.entry_int_ge (F.args_int_ge_2 _ _) (AutoIntG9.int___ge___int_int_0 x t y u).meets ?_
 show R (.ok (.ret (.bool (decide (x ≥ y))))) _
 rw [decide_eq_true hn]
 exact k _ h tk (Old.refl _ _) ⟨0,rfl⟩
end
def IsI (v:Value):Prop:=∃ i t,v = .int i t
def sl30? (o:Obj):Option Unit:=oO o fun c _ dt _=>oTy c fun t=>oT (decide (t = "slice")) <| oFl dt fun l=>oL3 l fun x y z=>oNo x <| Jb y fun i _=>oT (decide (i=30)) <| oNo z <| some ()
def sl30HSp (L:PySem.Addr) (Z:PySem.Addr) (eL:Mine.En) (l:List PySem.Value) (eZ:Mine.En):vy:={us:=fun _=>{eqs:=[(L,eL.a),(Z,eZ.a)],musts:=[∀ v∈l,IsI v,l.length≤1000],res:=fun o => .ok (.ret (.ref o.n)),may:=fun o=>(∀ v∈o.vs,IsI v)∧o.vs.length≤1000,news:=[((.type "list",0),fun o=>o.n,fun o=>lsO o.vs 0)]}}
def sl30H:Hook:=yB 0 0
 (fun c m hint=>oCa (.builtin "list.__getitem__") c fun args =>
  oL2 args fun x y =>
  oRf x fun L =>
  oRf y fun Z =>
  oL2 hint fun jL jZ =>
  oN m jL (QZ) fun eL l _ =>
  oM m jZ sl30? fun eZ _ =>
  some (sl30HSp L Z eL l eZ))
def absH:Hook:=vi (.builtin "abs") 0
 (fun args _ hint=>oL1 args fun a =>
  Jb a fun x _ =>
  oL0 hint <|
  some {musts:=[],V:=fun k => .int (if x < 0 then -x else x) k})
def JF (F I:Addr):Code:=forOf (nthS (VO (stT 103)) 1) (.ref I) (envOf (stT 103) 792 sx42 (.ref 791) F)
noncomputable def cellL:List Str:=["cell"]
def plHSp (q:Nat) (c:PySem.Code) (env:PySem.Env) (I:PySem.Addr) (jF:Nat) (jI:Nat) (eF:Mine.En) (e0:Mine.Fe) (e1:Mine.Fe) (eI:Mine.En) (L:Nat) (i:Nat) (eL:Mine.En) (l:List PySem.Value):vy:={idx:=[jF,jI],us:=fun _=>{eqs:=[(env.locals,eF.a),(I,eI.a),(L,eL.a)],musts:=[c=JF env.locals I,∀ v∈l.drop i,IsI v,(l.drop i).length≤q],res:=fun _ => .ok .next,objs:=fun y=>[⟨.type "frame",none,.dict ⟨e0.en::⟨e1.z,.str e1.s e1.t,.int y.z y.n⟩::JE y⟩ y.n3,#[]⟩,liE y.n2]}}
def plH (q:Nat):Hook:=lHook 4
 (fun c m hint=>oFo c fun _ it _ _ env =>
  oRf it fun I =>
  oL3 hint fun jF jI jL =>
  oN m jF (fr?) fun eF fs _ =>
  oC2 fs fun e0 e1 tl =>
  oT (ym e0.s "script" && ym e1.s "number" && (isEmp tl || yw tl cellL)) <|
  Jb e1.v fun _ _ =>
  oN m jI (li?) fun eI L i =>
  oN m jL (QZ) fun eL l _ =>
  some (plHSp q c env I jF jI eF e0 e1 eI L i eL l))
structure PlG (w:World) (h:Heap) (F I L:Addr) (fO iO lO:Obj):Prop where
 st:St w h
 gF:h.get? F=some fO
 gI:h.get? I=some iO
 gL:h.get? L=some lO
 oF:(ktP w).get F=none
 oI:(ktP w).get I=none
 cF:fO.cls = .type "frame"
 cI:iO.cls = .type "list_iterator"
 cL:lO.cls = .type "list"
theorem PlG.shown {w:World} {h:Heap} {F I L:Addr} {fO iO lO:Obj} (G:PlG w h F I L fO iO lO):jl w [F,I] [⟨F,fO,true,[]⟩,⟨I,iO,true,[]⟩,⟨L,lO,false,[]⟩] h:=by
 have t {s u:String} (n:s≠u):(Value.type s)≠Value.type u:=fun e=>n (Value.type.inj e)
 have fi:=yi G.gF G.gI (by rw [G.cF,G.cI];exact t (by decide))
 have fl:=yi G.gF G.gL (by rw [G.cF,G.cL];exact t (by decide))
 have il:=yi G.gI G.gL (by rw [G.cI,G.cL];exact t (by decide))
 exact (((jl.nil G.st).r G.gL trivial).w G.gI G.oI (.tail _ (.head _)) ⟨fun _=>il,trivial⟩).w G.gF G.oF (.head _) ⟨fun _=>fi,fun _=>fl,trivial⟩
def PlOut (F I:Addr) (e0:DictEntry) (z1:Int) (f1:Nat) (r:Result) (h':Heap):Prop :=
 r = .ok .next∧(∃ es ep n t,h'.get? F=some ⟨.type "frame",none,.dict ⟨e0::⟨z1,.str "number" f1,.int n t⟩::es⟩ ep,#[]⟩)∧∃ j,h'.get? I=some (liE j)
def frP (z0 z1 nn:Int) (f0 f1 tn fe:Nat) (v0:Value) (sh:Bool) (x:Nat→Fe):Obj:=frO (⟨z0,"script",f0,v0⟩::⟨z1,"number",f1,.int nn tn⟩::shF sh cellL x) fe
section
variable {w:World} {b1 b2 b3:Bool} {lc:Nat} {hs:List Mine.Hook} {h₀:Heap} {ws:List Addr} {h:Heap} {F I L f0 f1 tn fe i le tv:Nat} {z0 z1 nn cv:Int} {v0:Value} {x:Nat→Fe} {l:List Value}
theorem sl30_eq {o:Obj} {u:Unit} (h:sl30? o=some u):o.cls = .type "slice"∧∃ t,o.data = .fields #[.none,.int 30 t,.none] :=
 iO (P:=fun _=>o.cls = .type "slice"∧∃ t,o.data = .fields #[.none,.int 30 t,.none]) (fun _ _ _ _ e=>iTy fun t e1=>iT fun q=>iFl fun l e2=>iL3 fun x y z e3=>iNo fun q1=>Jg fun i t' q2=>iT fun q3=>iNo fun q4=>iE (by
  rw [e,e1,e2,e3,q1,q2,q4,of_decide_eq_true q,of_decide_eq_true q3];exact ⟨rfl,t',rfl⟩)) _ h
theorem pick_mem {items:Array Value} {lo hi st:Option Int} {v:Value} (q:v∈(slicePick items lo hi st).toList):v∈items.toList:=by
 unfold slicePick at q
 rw [List.toList_toArray,List.mem_filterMap] at q
 obtain ⟨k,_,e⟩:=q
 exact Array.mem_toList_iff.mpr (Array.mem_of_getElem? e)
theorem sl30H_ok {w:World}:sl30H.Ok (cfg w lc hs) PW w h₀ ws:=by
 refine vn fun c m hint=>?_
 refine iCa fun _ b1=>iL2 fun _ _ b2=>iRf fun L b3=>iRf fun Z b4=>iL2 fun jL jZ b5=>iN fun eL l ep qL ql=>iM fun eZ _ qZ qz=>?_
 subst b1 b2 b3 b4 b5
 refine iE ?_
 intro h hm hi hst hk hdq hoff hold A g d tk os R _ k
 have z0:=hm 0 (Nat.le_refl _)
 have e1:L=eL.a:=z0.1 (L,eL.a) (.head _)
 have e2:Z=eZ.a:=yM z0.1 1
 have m1:∀ v∈l,IsI v:=z0.2 _ (.head _)
 have m2:l.length≤1000:=vV z0.2 1
 clear z0 hm hi
 subst e1 e2
 have gL:=hk eL (List.mem_of_getElem? qL)
 rw [yq ql] at gL
 have gZ:=hk eZ (List.mem_of_getElem? qZ)
 obtain ⟨c1,t,c2⟩:=sl30_eq qz
 have isl:Heap.IsSliceOf h eZ.a .none (.int 30 t) .none:=⟨eZ.o,gZ,c1,c2⟩
 have sz:sizeLine ≥ 1000:=by decide
 have isL:Heap.IsList h eL.a ⟨l⟩:=⟨_,gL,rfl,_,rfl⟩
 have hTs:Shared.TypeIs ⟨h,g,d,tk,os⟩ (.ref eZ.a) "slice":=⟨_,gZ,c1⟩
 refine Jj slot_list_getitem (T := "list") ⟨_,gL,rfl⟩ entry_list_getitem (args_list_getitem _ _) ?_
 show wpAny _ _ (Builtin.List.listSubscript? (.ref eZ.a) >>= _) _ _ _
 refine wpAny_bind ?_
 unfold Builtin.List.listSubscript?
 refine wpAny_bind (wpAny_specialOf hTs slice_no_index ?_)
 simp only [Option.isNone_none,if_true]
 refine wpAny_pure ?_
 show wpAny _ _ (typeOf (.ref eZ.a) >>= _) _ _ _
 refine wpAny_bind (wpAny_typeOf hTs ?_)
 rw [if_neg (by decide)]
 rw [listSliceParts_eq]
 refine wpAny_bind (wpAny_bind (wpAny_field gZ c2 (x := .none) rfl (wpAny_bind (wpAny_listPart .none ?_))))
 rw [if_neg (show ¬ ((rawPart none == rawInt 0)=true) from Bool.false_ne_true)]
 refine wpAny_bind (wpAny_field gZ c2 (x := .none) rfl (wpAny_bind (wpAny_listPart .none ?_)))
 refine wpAny_bind (wpAny_field gZ c2 (x := .int 30 t) rfl (wpAny_bind (wpAny_listPart (.int 30 t) (wpAny_pure ?_))))
 refine wpAny_bind (m:=Builtin.List.listItems (.ref eL.a)) ?_
 unfold Builtin.List.listItems
 refine wpAny_bind (wpAny_seqItems gL rfl (wpAny_pure ?_))
 refine wpAny_bind (wpAny_of_eq (sliceIndices_raw none (some 30) none (⟨l⟩:Array Value).size (by simp)) ?_)
 refine wpAny_bind (wpAny_newObj_type (wpAny_pure ⟨_,rfl,?_⟩) (Nat.le_trans (slicePick_size_le ⟨l⟩ none (some 30) none) (Nat.le_trans m2 sz)))
 refine k _ (h.push (lsO (slicePick ⟨l⟩ none (some 30) none).toList 0)) tk ⟨trivial,fun b o e _=>Heap.get?_push_of_some _ e⟩ ⟨0,{(default:Ora) with n:=h.objs.size,vs:=(slicePick ⟨l⟩ none (some 30) none).toList},Nat.le_refl _,rfl,⟨fun v hv=>m1 v (pick_mem hv),by rw [Array.length_toList];exact Nat.le_trans (slicePick_size_le ⟨l⟩ none (some 30) none) m2⟩,trivial,fun p hp=>?_,fun _ hp=>(nomatch hp)⟩
 cases hp with
 |head=>exact ⟨Heap.get?_push_size _ rfl,rfl⟩
 |tail _ hp=>cases hp
theorem absH_ok {w:World}:absH.Ok (cfg w lc hs) PW w h₀ ws:=by
 refine jN fun args m hint=>?_
 refine iL1 fun _ b1=>Jg fun x t b2=>iL0 fun b3=>?_
 subst b1 b2 b3
 refine iE ?_
 intro h he hm _ hk _ A g d tk os R _ k
 refine YK kind_abs plain_abs entry_abs (args_abs _) ?_
 unfold Builtin.«abs»
 refine wpAny_bind (m:=oneArg "abs" _) (wpAny_pure ?_)
 refine wpAny_bind (m:=callSpecial? (.int x t) "__abs__") (wpAny_callSpecial?_slot (name:=Str.ofString "__abs__") (typeIs_int _ x t) slot_int_abs
  (wpAny_call_entry slot_int_abs (typeIs_int _ x t) entry_int_abs ?_ (args_int_abs _)))
 show wpAny _ _ (if x < 0 then _ else _) _ _ _
 have fin:∀ u tk',R (.ok (.ret (.int (if x < 0 then -x else x) u))) ⟨h,g,d,tk',os⟩:=fun u tk'=>k _ h tk' (Old.refl _ _) ⟨u,rfl⟩
 by_cases hneg:x < 0
 ·have h':=fin tk (tk+1)
  rw [if_pos hneg] at h' ⊢
  exact wpAny_ret_mkInt (wpAny_pure ⟨_,rfl,h'⟩)
 ·have h':=fin t tk
  rw [if_neg hneg] at h' ⊢
  exact wpAny_pure ⟨_,rfl,wpAny_pure ⟨_,rfl,h'⟩⟩
theorem plEnd {C:Cfg} {r:Result} {m:List En} {n:Nat} {h':Heap} {y:Ora} {e0:DictEntry}
  (e:(vq r,oR m 1,oR m 2)=(true,some (I,liE y.n2),some (F,⟨.type "frame",none,.dict ⟨e0::⟨z1,.str "number" f1,.int y.z y.n⟩::JE y⟩ y.n3,#[]⟩))) (D':Rp C h₀ ws m n h'):PlOut F I e0 z1 f1 r h':=by
 refine pr3 e fun e1 e2 e3=>?_
 exact ⟨Qg e1,⟨_,_,_,_,vr D' e3⟩,_,vr D' e2⟩
theorem plExit {C:Cfg} {r:Result} {m:List En} {n j:Nat} {h':Heap} {sh:Bool} (e:(vq r,oR m 1,oR m 2)=(true,some (I,liE j),some (F,frP z0 z1 nn f0 f1 tn fe v0 sh x))) (D':Rp C h₀ ws m n h'):PlOut F I ⟨z0,.str "script" f0,v0⟩ z1 f1 r h':=by
 refine pr3 e fun e1 e2 e3=>?_
 exact ⟨Qg e1,⟨(shF sh cellL x).map Fe.en,fe,nn,tn,vr D' e3⟩,j,vr D' e2⟩
end
def tr_plP (sh b1 b2 b3:Bool):Tr:=match sh with
 |true=>T [2,1,2,1,2,1,1,1,3,0,0,0,0,0,1,0,0,0,2,0,3,0,0,0,1,7,1,0,0,0,0,0,4,0,5,0,6,0,4,0,1,1,8,3,0,1,2] .nil
 |false=>T [2,1,2,1,2,1,1,1,3,0,0,0,0,0,1,0,0,0,2,0,3,0,0,0,1,7,1,0,0,0,0,0,4,0,5,0,6,0,4,0,1,1,8,3,0,1,2] .nil
def tr_plM (sh b1 b2 b3:Bool):Tr:=match sh with
 |true=>T [2,1,2,1,2,1,1,1,3,0,0,0,0,0,1,0,0,0,2,0,3,0,0,0,1,7,1,1,0,0,0,0,4,0,5,0,6,0,4,0,1,1,8,3,0,1,2] .nil
 |false=>T [2,1,2,1,2,1,1,1,3,0,0,0,0,0,1,0,0,0,2,0,3,0,0,0,1,7,1,1,0,0,0,0,4,0,5,0,6,0,4,0,1,1,8,3,0,1,2] .nil
def tr_plX (sh b1 b2 b3:Bool):Tr:=match sh with
 |true=>T [2,1,2,1,2,1] .nil
 |false=>T [2,1,2,1,2,1] .nil
section
variable {w:World} {b1 b2 b3:Bool} {lc:Nat} {hs:List Mine.Hook} {h₀:Heap} {ws:List Addr} {h:Heap} {F I L f0 f1 tn fe i le tv:Nat} {z0 z1 nn cv:Int} {v0:Value} {x:Nat→Fe} {l:List Value}
theorem mulOk {a b:Int} (h:Builtin.Int.intBits b≤64):IntMulOk a b:=by
 have h':¬ (Builtin.Int.intBits b > shortFactorBits):=Nat.not_lt.mpr h
 unfold IntMulOk;rw [decide_eq_false h'];simp
theorem plP (sh:Bool) {cv:Int} {tv q:Nat} (G:PlG (jb w b1 b2 b3) h F I L (frP z0 z1 nn f0 f1 tn fe v0 sh x) (liO L i) (lsO l le)) (ih:∀ lc hs,(plH q).Ok (cfg (jb w b1 b2 b3) lc hs) PW (jb w b1 b2 b3) h [F,I]) (m0:l[i]?=some (Value.int cv tv)) (m1:¬cv < 0) (m2:∀ (v:Value),v∈List.drop (i+1) l→IsI v) (m3:(List.drop (i+1) l).length≤q):jV (jb w b1 b2 b3) 4 (JF F I) h [F,I] (PlOut F I ⟨z0,.str "script" f0,v0⟩ z1 f1):=by
 refine vP (hooks:=[nextVH (.int cv tv),absH,imulH,iaddH,ipowH,imodH,ltH,plH q]) (hkc Kf (hkc absH_ok (hkc YH (hkc YI (hkc YG (hkc imodH_ok (hkc ltH_ok (hkc (ih _ _) hkn)))))))) (by exact Nat.le_of_ble_eq_true (by kernel_rfl)) (fuel:=10000) (tr:=tr_plP sh b1 b2 b3) G.shown fun n tk os bs hn=>?_
 exact ye (fun r m=>(vq r,oR m 1,oR m 2)) (fun r m=>(true,some (I,liE (os 27).n2),some (F,⟨.type "frame",none,.dict ⟨⟨z0,.str "script" f0,v0⟩::⟨z1,.str "number" f1,.int (os 27).z (os 27).n⟩::JE (os 27)⟩ (os 27).n3,#[]⟩))) (ps:=[(true,l[i]?=some (Value.int cv tv)),yt,(true,IntMulOk nn 2069),(true,IntMulOk 2 (if cv < 0 then -cv else cv)),(true,¬cv < 0),(true,(2:Int)≤10),(true,Builtin.Int.intBits 10≤100),(true,(1:Int)≤80),(true,(80:Int)≤1000),(true,(0:Int) < 10 ^ Int.toNat 80),(true,JF F I=JF F I),(true,∀ (v:Value),v∈List.drop (i+1) l→IsI v),(true,(List.drop (i+1) l).length≤q),yt]) (by clear hn m0 m1 m2 m3 G ih;cases sh <;> cases b1 <;> kernel_rfl) (⟨m0,fun _=>⟨(mulOk (by decide +kernel)),⟨(IntMulOk.of_left (by decide +kernel)),⟨m1,⟨(by decide +kernel),⟨(by decide +kernel),⟨(by decide +kernel),⟨(by decide +kernel),⟨(by decide +kernel),⟨rfl,⟨m2,⟨m3,fun _=>fun r m n tk e h' D'=>plEnd (y:=os 27) (e0:=⟨z0,.str "script" f0,v0⟩) e D'⟩⟩⟩⟩⟩⟩⟩⟩⟩⟩⟩⟩)
theorem plM (sh:Bool) {cv:Int} {tv q:Nat} (G:PlG (jb w b1 b2 b3) h F I L (frP z0 z1 nn f0 f1 tn fe v0 sh x) (liO L i) (lsO l le)) (ih:∀ lc hs,(plH q).Ok (cfg (jb w b1 b2 b3) lc hs) PW (jb w b1 b2 b3) h [F,I]) (m0:l[i]?=some (Value.int cv tv)) (m1:cv < 0) (m2:∀ (v:Value),v∈List.drop (i+1) l→IsI v) (m3:(List.drop (i+1) l).length≤q):jV (jb w b1 b2 b3) 4 (JF F I) h [F,I] (PlOut F I ⟨z0,.str "script" f0,v0⟩ z1 f1):=by
 refine vP (hooks:=[nextVH (.int cv tv),absH,imulH,iaddH,ipowH,imodH,ltH,plH q]) (hkc Kf (hkc absH_ok (hkc YH (hkc YI (hkc YG (hkc imodH_ok (hkc ltH_ok (hkc (ih _ _) hkn)))))))) (by exact Nat.le_of_ble_eq_true (by kernel_rfl)) (fuel:=10000) (tr:=tr_plM sh b1 b2 b3) G.shown fun n tk os bs hn=>?_
 exact ye (fun r m=>(vq r,oR m 1,oR m 2)) (fun r m=>(true,some (I,liE (os 27).n2),some (F,⟨.type "frame",none,.dict ⟨⟨z0,.str "script" f0,v0⟩::⟨z1,.str "number" f1,.int (os 27).z (os 27).n⟩::JE (os 27)⟩ (os 27).n3,#[]⟩))) (ps:=[(true,l[i]?=some (Value.int cv tv)),yt,(true,IntMulOk nn 2069),(true,IntMulOk 2 (if cv < 0 then -cv else cv)),(true,cv < 0),(true,(2:Int)≤10),(true,Builtin.Int.intBits 10≤100),(true,(1:Int)≤80),(true,(80:Int)≤1000),(true,(0:Int) < 10 ^ Int.toNat 80),(true,JF F I=JF F I),(true,∀ (v:Value),v∈List.drop (i+1) l→IsI v),(true,(List.drop (i+1) l).length≤q),yt]) (by clear hn m0 m1 m2 m3 G ih;cases sh <;> cases b1 <;> kernel_rfl) (⟨m0,fun _=>⟨(mulOk (by decide +kernel)),⟨(IntMulOk.of_left (by decide +kernel)),⟨m1,⟨(by decide +kernel),⟨(by decide +kernel),⟨(by decide +kernel),⟨(by decide +kernel),⟨(by decide +kernel),⟨rfl,⟨m2,⟨m3,fun _=>fun r m n tk e h' D'=>plEnd (y:=os 27) (e0:=⟨z0,.str "script" f0,v0⟩) e D'⟩⟩⟩⟩⟩⟩⟩⟩⟩⟩⟩⟩)
theorem plX (sh:Bool) (G:PlG (jb w b1 b2 b3) h F I L (frP z0 z1 nn f0 f1 tn fe v0 sh x) (liO L i) (lsO l le)) (m0:l.length≤i):jV (jb w b1 b2 b3) 4 (JF F I) h [F,I] (PlOut F I ⟨z0,.str "script" f0,v0⟩ z1 f1):=by
 refine vP (hooks:=[nextEH]) (hkc nextEH_ok hkn) (by exact Nat.le_of_ble_eq_true (by kernel_rfl)) (fuel:=10000) (tr:=tr_plX sh b1 b2 b3) G.shown fun n tk os bs hn=>?_
 exact ye (fun r m=>(vq r,oR m 1,oR m 2)) (fun r m=>(true,some (I,liE i),some (F,frP z0 z1 nn f0 f1 tn fe v0 sh x))) (ps:=[(true,l.length≤i),yt]) (by clear hn m0 G;cases sh <;> cases b1 <;> kernel_rfl) (⟨m0,fun _=>fun r m n tk e h' D'=>plExit e D'⟩)
theorem plH_ok {w:World} {q:Nat} (S:∀ {h:Heap} {F I L f0 f1 tn fe i le:Nat} {z0 z1 nn:Int} {v0:Value} {x:Nat→Fe} {l:List Value} {sh:Bool},PlG w h F I L (frP z0 z1 nn f0 f1 tn fe v0 sh x) (liO L i) (lsO l le)→(∀ v∈l.drop i,IsI v)→(l.drop i).length≤q→jV w 4 (JF F I) h [F,I] (PlOut F I ⟨z0,.str "script" f0,v0⟩ z1 f1)):(plH q).Ok (cfg w lc hs) PW w h₀ ws:=by
 refine YE fun c m hint=>?_
 refine iFo fun tg it bo oe env b1=>iRf fun I b2=>iL3 fun jF jI jL b3=>iN fun eF fs fe qF qf=>iC2 fun e0 e1 tl b4=>iT fun qn=>Jg fun nn tn q1=>iN fun eI L i qI qi=>iN fun eL l le qL ql=>?_
 subst b1 b2 b3 b4
 refine iE ?_
 intro h he hm hi hst hk hdq hoff hap hold
 have a1:env.locals=eF.a:=he (env.locals,eF.a) (.head _)
 have a2:I=eI.a:=yM he 1
 have a3:L=eL.a:=yM he 2
 have c1:=hm _ (.head _)
 have c2:=hm _ (.tail _ (.head _))
 have c3:=hm _ (.tail _ (.tail _ (.head _)))
 have w1:=Jv hi qF
 have hi2:=Kx hi
 have w2:=Jv hi2 qI
 clear hi2 he hm hi
 subst a2 a3
 have oF:=fr_eq qf
 have oI:=Ku qi
 have oL:=yq ql
 simp only [Bool.and_eq_true,Bool.or_eq_true] at qn
 obtain ⟨⟨n0,n1⟩,n3⟩:=qn
 obtain ⟨z0,s0,f0,v0⟩:=e0
 obtain ⟨z1,s1,f1,v1⟩:=e1
 have n0:=vw n0
 have n1:=vw n1
 dsimp only at n0 n1 q1
 subst n0 n1 q1
 have ntl:∃ sh x,tl=shF sh cellL x:=by
  rcases n3 with n3 | n3
  ·exact ⟨false,fun _=>⟨0,"",0,.none⟩,isEmp_eq n3⟩
  ·obtain ⟨x,hx⟩:=Ql n3
   exact ⟨true,x,hx⟩
 obtain ⟨sh,x,rfl⟩:=ntl
 have mF:=List.mem_of_getElem? qF
 have mI:=List.mem_of_getElem? qI
 have mL:=List.mem_of_getElem? qL
 have G:PlG w h eF.a eI.a eL.a _ _ _:=⟨hst,oF ▸ hk eF mF,oI ▸ hk eI mI,oL ▸ hk eL mL,hoff eF mF w1,hoff eI mI w2,rfl,rfl,rfl⟩
 have X:=S (sh:=sh) (x:=x) G c2 c3
 rw [a1] at c1
 rw [←c1] at X
 refine jV.on (adC qF (adC qI adN)) X fun r h' _ p=>?_
 obtain ⟨rfl,⟨es,ep,n',t',p1⟩,j',p2⟩:=p
 exact ⟨{(default:Ora) with z:=n',n:=t',n3:=ep,n2:=j',ob:=⟨.none,none,.dict ⟨es⟩ 0,#[]⟩},rfl,trivial,⟨⟨eF,qF,p1,by rw [oF];rfl⟩,⟨eI,qI,p2,by rw [oI];rfl⟩,trivial⟩,fun _ q=>(nomatch q),fun _ q=>(nomatch q)⟩
theorem pl_says:∀ (q:Nat) {h:Heap} {F I L f0 f1 tn fe i le:Nat} {z0 z1 nn:Int} {v0:Value} {x:Nat→Fe} {l:List Value} {sh:Bool},PlG (jb w b1 b2 b3) h F I L (frP z0 z1 nn f0 f1 tn fe v0 sh x) (liO L i) (lsO l le)→(∀ v∈l.drop i,IsI v)→(l.drop i).length≤q→jV (jb w b1 b2 b3) 4 (JF F I) h [F,I] (PlOut F I ⟨z0,.str "script" f0,v0⟩ z1 f1):=by
 intro q
 induction q with
 |zero =>
  intro h F I L f0 f1 tn fe i le z0 z1 nn v0 x l sh G _ hl
  exact plX sh G (List.drop_eq_nil_iff.mp (List.eq_nil_of_length_eq_zero (by omega)))
 |succ q IH =>
  intro h F I L f0 f1 tn fe i le z0 z1 nn v0 x l sh G hi hl
  cases e:l.drop i with
  |nil=>exact plX sh G (List.drop_eq_nil_iff.mp e)
  |cons v r =>
   have ih:∀ lc hs,(plH q).Ok (cfg (jb w b1 b2 b3) lc hs) PW (jb w b1 b2 b3) h [F,I]:=fun lc hs=>plH_ok fun G a b=>IH G a b
   rw [e] at hi hl
   obtain ⟨cv,tv,rfl⟩:=hi v (.head _)
   have ge:l[i]?=some (.int cv tv):=by rw [←List.head?_drop,e];rfl
   have dr:l.drop (i+1)=r:=by rw [←List.drop_drop,e];rfl
   have hi':∀ v∈l.drop (i+1),IsI v:=by rw [dr];exact fun v hv=>hi v (.tail _ hv)
   have hl':(l.drop (i+1)).length≤q:=by rw [dr];simp only [List.length_cons] at hl;omega
   by_cases s:cv < 0
   ·exact plM sh G ih ge s hi' hl'
   ·exact plP sh G ih ge s hi' hl'
end
def factT (m:List En) (i j tok:Nat):Option (Addr×Str):=oS (Yi m i j) fun p=>oRf p.1 fun a=>yp p.2 fun s t=>oT (Nat.beq t tok) <| some (a,s)
structure StD where
 a:Addr
 c:Value
 eqs:List (Addr×Addr)
 tx:Str
def stSp (k:Nat) (m:List En) (hint:List Nat):Option StD:=oL5 hint fun jS i1 j1 i2 j2 =>
 oM m jS (JC "tuple") fun e l =>
 match k with
  |0=>oL4 l fun v0 c v1 v2=>yp v0 fun w _=>oRf v1 fun X=>oRf v2 fun Y=>oT (ym w "tally-replace") <|
   oP (factT m i1 j1 1000000002) fun X1 s1=>oP (factT m i2 j2 1000000003) fun Y1 s2=>some ⟨e.a,c,[(X,X1),(Y,Y1)],"INSPECT "++opT c ++ " "++s1 ++ " "++s2⟩
  |1=>oL3 l fun v0 c v1=>yp v0 fun w _=>oRf v1 fun X=>oT (ym w "tally") <|
   oP (factT m i1 j1 1000000002) fun X1 s1=>some ⟨e.a,c,[(X,X1)],"INSPECT "++opT c ++ " "++s1⟩
  |_=>oL3 l fun v0 c v1=>yp v0 fun w _=>oRf v1 fun Y=>oT (ym w "replace") <|
   oP (factT m i2 j2 1000000003) fun Y1 s2=>some ⟨e.a,c,[(Y,Y1)],"INSPECT "++opT c ++ " "++s2⟩
noncomputable def showSHSp (S:PySem.Addr) (d:Mine.StD):vy:={us:=fun _=>{eqs:=(S,d.a)::d.eqs,musts:=[vc d.c],res:=fun y => .ok (.ret (.str d.tx y.n))}}
def showSH (k:Nat):Hook:=yB 0 8
 (fun c m hint=>oCa (.ref 475) c fun args =>
  oL2 args fun x y =>
  oRf x fun S =>
  oRf y fun _ =>
  oS (stSp k m hint) fun d =>
  some (showSHSp S d))
noncomputable def showRwHSp (X:PySem.Addr) (X1:PySem.Addr) (s:PySem.Str):vy:={us:=fun _=>{eqs:=[(X,X1)],res:=fun y => .ok (.ret (.str s y.n))}}
def Yr (f:Addr) (tok:Nat):Hook:=yB 0 6
 (fun c m hint=>oCa (.ref f) c fun args =>
  oL1 args fun x =>
  oRf x fun X =>
  oL2 hint fun i j =>
  oP (factT m i j tok) fun X1 s =>
  some (showRwHSp X X1 s))
noncomputable def fld1 (c:Addr):Obj:=⟨.none,none,.fields ⟨[.int 628 0,.int 37 0,.ref c]⟩,#[]⟩
def fld? (o:Obj):Option (List Value):=oO o fun c d dt sl=>oNo c <| oNn d <| oA sl fun s=>oL0 s <| oFl dt fun l=>some l
def fl1? (o:Obj):Option Addr:=oS (fld? o) fun l=>oL3 l fun x y z=>Jb x fun a s=>Jb y fun b t=>oRf z fun r=>oT (Nat.beq s 0 && Nat.beq t 0 && decide (a=628) && decide (b=37)) <| some r
def fl? (o:Obj):Option (Bool×Addr):=oS (fld? o) fun l=>match l with
 |[]=>some (true,0)
 |_::_=>oS (fl1? o) fun c=>some (false,c)
def lawReadHSp (tx:PySem.Str) (jE:Nat) (eE:Mine.En) (d:Mine.StD):vy:={idx:=[jE],us:=fun _=>{eqs:=(829,eE.a)::d.eqs,musts:=[vc d.c,tx=d.tx],res:=fun y => .ok (.ret (.ref y.n)),objs:=fun y=>[fld1 y.n2],news:=[((.type "tuple",0),fun y=>y.n,fun y=>⟨.type "tuple",y.ob.dict,.seq ⟨y.vs⟩ y.n3,y.ob.slots⟩)],dq:=fun y=>[(.ref y.n,.ref d.a)]}}
def YD (k:Nat):Hook:=yB 0 21
 (fun c m hint=>oCa (.ref 832) c fun args =>
  oL1 args fun x =>
  yp x fun tx _ =>
  oC1 hint fun jE hint =>
  oM m jE fl? fun eE _ =>
  oS (stSp k m hint) fun d =>
  some (lawReadHSp tx jE eE d))
noncomputable def stNeHSp (a:PySem.Addr) (S:PySem.Addr) (a1:PySem.Addr) (S1:PySem.Addr) (d:Mine.StD):vy:={us:=fun _=>{eqs:=(a,a1)::(S,S1)::(S1,d.a)::d.eqs,musts:=[vc d.c],res:=fun _ => .ok (.ret (.bool false))}}
def stNeH (k:Nat):Hook:=yB 0 1
 (fun c m hint=>oCa (.builtin "tuple.__ne__") c fun args =>
  oL2 args fun x y =>
  oRf x fun a =>
  oRf y fun S =>
  oC2 hint fun i j hint =>
  oS (Yi m i j) fun p =>
  oPr p fun p1 p2 =>
  oRf p1 fun a1 =>
  oRf p2 fun S1 =>
  oS (stSp k m hint) fun d =>
  some (stNeHSp a S a1 S1 d))
def cfgG (w:World) (lv:Nat) (hooks:List Hook):Cfg:={set:=⟨PW,w.params⟩,st:=ktP w,hooks,D:=DG,call:=QL,dmax:=Nat.mul 20 lv,umax:=Nat.mul 200 lv,fr:=some [],chk:=chkG}
theorem qU.imp {F F':Result→List En→Nat→Nat→Prop} (H:∀ r m n tk,F r m n tk→F' r m n tk):∀ {X:Out},qU F X→qU F' X
 |.stop _,h=>h
 |.short,_=>trivial
 |.log _ r,h=>qU.imp H (X:=r) h
 |.eqA _ _ r,h=>⟨h.1,qU.imp H (X:=r) h.2⟩
 |.must _ r,h=>⟨h.1,qU.imp H (X:=r) h.2⟩
 |.may _ r,h=>fun p=>qU.imp H (X:=r) (h p)
 |.fin ..,h=>H _ _ _ _ h
theorem Rp.st {C C':Cfg} (e:C.st=C'.st) {h₀ h:Heap} {ws m n} (D:Rp C h₀ ws m n h):Rp C' h₀ ws m n h :=
 ⟨D.size,D.known,D.facts,D.apart,fun a o q=>D.stat a o (e ▸ q),fun x hx hw=>e ▸ D.off x hx hw,D.own,D.keep⟩
theorem Hook.Ok.st {C C':Cfg} (e:C.st=C'.st) {prog:Program} {w:World} {h₀:Heap} {ws:List Addr} {H:Hook} (x:H.Ok C prog w h₀ ws):H.Ok C' prog w h₀ ws:=by
 intro A m n c hint h g d tk os R h1 h2 h3 D G
 exact x A m n c hint h g d tk os R h1 h2 h3 (D.st e.symm) fun b o hb ho=>qU.imp (fun r m n tk q h D=>q h (D.st e)) (G b o hb ho)
structure RoomG (A:Around) (lv:Nat):Prop where
 room:Room A lv
 frames:A.frames=some []
theorem fitG {w:World} {lv:Nat} {hooks:List Hook} {A:Around} {h₀:Heap} {ws:List Addr} (r:RoomG A lv) (hk:∀ H∈hooks,H.Ok (cfg w lv hooks) PW w h₀ ws):Fit PW w (cfgG w lv hooks) A h₀ ws :=
 ⟨rfl,DG_sub,fun l q=>by cases q;exact r.frames,fun fd body a args=>(JL fd body a args).symm,fun H hH=>Hook.Ok.st (C:=cfg w lv hooks) (C':=cfgG w lv hooks) rfl (hk H hH),r.room.depth,Nat.lt_of_le_of_lt (Nat.le_add_right _ 12) r.room.units,r.room.handled,limP w⟩
noncomputable def SaysG (w:World) (lv:Nat) (c:Code) (h:Heap) (ws:List Addr) (Post:Result→Heap→Prop):Prop :=
 ∀ (A:Around) (g:Array GenState) (d:Drawn) (tk:Nat) (os:OsState) (R:Result→Shared→Prop),RoomG A lv →
  (∀ r h' tk',Old ws h h'→Post r h'→R r ⟨h',g,d,tk',os⟩)→codeAny (model PW w) A c R ⟨h,g,d,tk,os⟩
theorem jl.rpG {w lv hooks ws m h} (x:jl w ws m h):Rp (cfgG w lv hooks) h ws m h.objs.size h :=
 ⟨rfl,x.known,x.facts,x.apart,x.st,x.off,fun e he hw => .inl (x.own e he hw),fun _ _ e _=>e⟩
theorem says_fnG {w:World} {lv:Nat} {hooks:List Hook} {h:Heap} {ws:List Addr} (hk:∀ H∈hooks,H.Ok (cfg w lv hooks) PW w h ws) {f:Addr} {args:List Value} {m:List En} {Post:Result→Heap→Prop} {fuel:Nat} {tr:Tr}
  (hf:vH (ktP w) f=true) (S:jl w ws m h)
  (H:∀ n tk o b,h.objs.size=n+845→qU (fun r m' n' _=>∀ h',Rp (cfgG w lv hooks) h ws m' n' h'→Post r h') (VN (cfgG w lv hooks) fuel f args m (n+845) tk tr o b)):SaysG w lv (.call (.ref f) ⟨args,[]⟩) h ws Post:=by
 intro A g d tk os R hr k
 obtain ⟨n,hn⟩:=S.st.size
 refine fn_ok (C:=cfgG w lv hooks) (fitG hr hk) (fuel:=fuel) (tr:=tr) hf S.rpG fun o b=>?_
 rw [hn]
 exact qU.imp (fun r m n tk q h' D=>k r h' tk D.old (q h' D)) (H n tk o b hn)
theorem says_fnGb {w:World} {b1 b2 b3:Bool} {lv:Nat} {hooks:List Hook} {h:Heap} {ws:List Addr} (hk:∀ H∈hooks,H.Ok (cfg (jb w b1 b2 b3) lv hooks) PW (jb w b1 b2 b3) h ws) {f:Addr} {args:List Value} {m:List En} {Post:Result→Heap→Prop} {fuel:Nat} {tr:Bool→Tr}
  (hf:vH (ktP (jb w b1 b2 b3)) f=true) (S:jl (jb w b1 b2 b3) ws m h)
  (H:∀ n tk o b,h.objs.size=n+845→∀ c,qU (fun r m' n' _=>∀ h',Rp (cfgG (jb w b1 b2 b3) lv hooks) h ws m' n' h'→Post r h') (VN (cfgG (jb w c b2 b3) lv hooks) fuel f args m (n+845) tk (tr c) o b)):SaysG (jb w b1 b2 b3) lv (.call (.ref f) ⟨args,[]⟩) h ws Post :=
 says_fnG hk hf S fun n tk o b q=>H n tk o b q b1
def nextWHSp (s:PySem.Str) (I:PySem.Addr) (jI:Nat) (eI:Mine.En) (L:Nat) (i:Nat) (eL:Mine.En) (l:List PySem.Value):vy:={idx:=[jI],us:=fun _=>{eqs:=[(I,eI.a),(L,eL.a)],musts:=[∃ t,l[i]?=some (.str s t)],res:=fun y => .ok (.ret (.str s y.n)),objs:=fun _=>[liO L (i+1)]}}
def nextWH (s:Str):Hook:=yB 0 0
 (fun c m hint=>oCa (.builtin "list_iterator.__next__") c fun args =>
  oL1 args fun x =>
  oRf x fun I =>
  oL2 hint fun jI jL =>
  oN m jI (li?) fun eI L i =>
  oN m jL (QZ) fun eL l _ =>
  some (nextWHSp s I jI eI L i eL l))
section
variable {w:World} {lc:Nat} {hs:List Mine.Hook} {h₀:Heap} {ws:List Addr}
theorem nextWH_ok {s:Str}:(nextWH s).Ok (cfg w lc hs) PW w h₀ ws:=by
 refine vn fun c m hint=>?_
 refine iCa fun _ b1=>iL1 fun _ b2=>iRf fun I b3=>iL2 fun jI jL b4=>iN fun eI L i qI qi=>iN fun eL l ep qL ql=>?_
 subst b1 b2 b3 b4
 refine iE ?_
 intro h hm hi hst hk hdq hoff hold A g d tk os R hr k
 have z0:=hm 0 (Nat.le_refl _)
 have h1:I=eI.a:=z0.1 (I,eI.a) (.head _)
 have h2:L=eL.a:=yM z0.1 1
 have h3:∃ t,l[i]?=some (.str s t):=z0.2 _ (.head _)
 clear z0 hm hi
 obtain ⟨t,h3⟩:=h3
 subst h1 h2
 have gI:=hk eI (List.mem_of_getElem? qI)
 have gL:=hk eL (List.mem_of_getElem? qL)
 rw [Ku qi] at gI
 rw [yq ql] at gL
 have hT:Shared.TypeIs ⟨h,g,d,tk,os⟩ (.ref eI.a) "list_iterator":=⟨_,gI,rfl⟩
 refine Jj slot_listiter_next hT entry_listiter_next (args_listiter_next _) ?_
 show wpAny _ _ (field (.ref eI.a) 0 >>= _) _ _ _
 refine wpAny_bind (wpAny_field gI rfl (x := .ref eL.a) rfl ?_)
 show wpAny _ _ (if (Value.ref eL.a == Value.none)=true then _ else _) _ _ _
 rw [if_neg (show ¬ ((Value.ref eL.a == Value.none)=true) from Bool.false_ne_true)]
 show wpAny _ _ (field (.ref eI.a) 1 >>= _) _ _ _
 refine wpAny_bind (wpAny_field gI rfl (x := .int (.ofNat i) 0) rfl ?_)
 show wpAny _ _ (seqItems? (.ref eL.a) >>= _) _ _ _
 refine wpAny_bind (wpAny_seqItems gL rfl ?_)
 have e3:(⟨l⟩:Array Value)[(Int.ofNat i).toNat]?=some (.str s t):=by show (⟨l⟩:Array Value)[i]?=some (.str s t);rw [List.getElem?_toArray];exact h3
 simp only [e3]
 refine wpAny_bind (wpAny_setField gI rfl (show (1:Nat) < 2 from by decide) (wpAny_pure ⟨.str s t,rfl,?_⟩))
 have g':=Heap.get?_update_self (Obj.mapFields fun vs=>vs.set! 1 (rawInt (Int.ofNat i+1))) gI rfl
 refine k _ _ tk ⟨trivial,fun b o e nb=>?_⟩ ⟨0,{(default:Ora) with n:=t},Nat.le_refl _,rfl,trivial,⟨⟨eI,qI,g',by rw [Ku qi];rfl⟩,trivial⟩,fun _ hp=>(nomatch hp),fun _ hp=>(nomatch hp)⟩
 rw [Heap.get?_update_ne _ _ _ _ fun q=>nb (by simp [nextWHSp,vF,qI,q])]
 exact e
end
noncomputable def VV:Obj:=⟨.none,none,.fields ⟨[]⟩,#[]⟩
def fldB (f:Bool) (c:Addr):Obj:=match f with
 |true=>VV
 |false=>fld1 c
theorem fld_eq {o:Obj} {l:List Value} (h:fld? o=some l):o=⟨.none,none,.fields ⟨l⟩,#[]⟩ :=
 iO (P:=fun l=>o=⟨.none,none,.fields ⟨l⟩,#[]⟩) (fun _ _ _ _ e=>iNo fun e1=>iNn fun e2=>iA fun s e3=>iL0 fun e4=>iFl fun l e5=>iE (by rw [e,e1,e2,e3,e4,e5])) _ h
theorem fl1_eq {o:Obj} {c:Addr} (h:fl1? o=some c):o=fld1 c :=
 iS (P:=fun c=>o=fld1 c) (fun l q=>iL3 fun x y z e=>Jg fun a s q1=>Jg fun b t q2=>iRf fun r q3=>iT fun q4=>iE (by
  simp only [Bool.and_eq_true,Nat.beq_eq,decide_eq_true_eq] at q4
  rw [fld_eq q,e,q1,q2,q3,q4.1.1.1,q4.1.1.2,q4.1.2,q4.2];rfl)) _ h
theorem fl_eq {o:Obj} {p:Bool×Addr} (h:fl? o=some p):o=fldB p.1 p.2 :=
 iS (P:=fun p=>o=fldB p.1 p.2) (fun l q=>match l,q with
  |[],q=>iE (fld_eq q)
  |_::_,_=>iS fun c q2=>iE (fl1_eq q2)) _ h
def flR (m:List En) (j:Nat):Option (Addr×Bool):=match m.reverse[j]? with
 |some e=>match fl1? e.o with
  |some c=>some (e.a,true)
  |none=>none
 |none=>none
theorem flR_known {C:Cfg} {h₀ h':Heap} {ws:List Addr} {m:List En} {n j:Nat} {a:Addr} (D:Rp C h₀ ws m n h') (e:flR m j=some (a,true)):∃ c,h'.get? a=some (fld1 c):=by
 unfold flR at e
 split at e
 ·rename_i x hx
  split at e
  ·rename_i c q
   simp only [Option.some.injEq,Prod.mk.injEq] at e
   obtain ⟨rfl,_⟩:=e
   exact ⟨c,by rw [←fl1_eq q];exact D.known x (List.mem_reverse.mp (List.mem_of_getElem? hx))⟩
  ·cases e
 ·cases e
theorem rows_as {h:Heap} {f:Row→List Value}:∀ {rs:List Row} {xs:List Value},xs.length=rs.length→(∀ (i:Nat) (r:Row),rs[i]?=some r→∃ b y k,xs[i]?=some (.ref b)∧h.get? b=some y∧y.cls = .type "tuple"∧y.data = .seq ⟨f r⟩ k)→∃ as:List Addr,xs=as.map Value.ref∧At h f as rs
 |[],[],_,_=>⟨[],rfl,trivial⟩
 |r::rs,x::xs,e,H=>by
  obtain ⟨as,e1,e2⟩:=rows_as (f:=f) (rs:=rs) (xs:=xs) (by simpa using e) fun i r hi=>H (i+1) r (by simpa using hi)
  obtain ⟨b,⟨c,d,dt,sl⟩,k,q1,q2,q3,q4⟩:=H 0 r rfl
  dsimp only at q3 q4
  subst q3 q4
  cases q1
  exact ⟨b::as,by rw [e1];rfl,⟨d,k,sl,q2⟩,e2⟩
 |[],_::_,e,_=>by simp at e
 |_::_,[],e,_=>by simp at e
def RsF (h:Heap) (f:Row→List Value) (ok:Row→Prop) (X:Addr) (rs:List Row):Prop:=Jo h X f rs∧(∀ r∈rs,ok r)∧1≤rs.length∧rs.length≤3
theorem rsF_of {h:Heap} {f:Row→List Value} {a:Addr} {x:Obj} {xs:List Value} {rs:List Row} {n:Nat} (h1:h.get? a=some x) (h2:x.cls = .type "tuple") (h3:x.data = .seq ⟨xs⟩ n) (h4:xs.length=rs.length)
  (h8:∀ (i:Nat) (r:Row),rs[i]?=some r→∃ b y k,xs[i]?=some (.ref b)∧h.get? b=some y∧y.cls = .type "tuple"∧y.data = .seq ⟨f r⟩ k):Jo h a f rs:=by
 obtain ⟨as,e,q⟩:=rows_as h4 h8
 obtain ⟨c,d,dt,sl⟩:=x
 dsimp only at h2 h3
 subst h2 h3
 exact ⟨as,d,n,sl,by rw [h1,e],q⟩
theorem dq_rowsT {h:Heap} {a:Addr} {t:Str} (q:Dq h (.ref a) (.str t 1000000002)):∃ rs,RsF h Row.tv Row.OkT a rs∧t=yI rs:=by
 generalize e1:Value.ref a=u1 at q
 generalize e2:Value.str t 1000000002=u2 at q
 cases q with
 |same v=>subst e1;cases e2
 |str s t' u=>cases e1
 |bytes s t' u=>cases e1
 |tup=>cases e2
 |rowT=>exact absurd (Value.str.inj e2).2 (by decide)
 |rowR=>exact absurd (Value.str.inj e2).2 (by decide)
 |rowsT a' x xs rs n h1 h2 h3 h4 h5 h6 h7 h8 =>
  cases Value.ref.inj e1
  exact ⟨rs,⟨rsF_of h1 h2 h3 h4 h8,h7,h5,h6⟩,(Value.str.inj e2).1⟩
 |rowsR=>exact absurd (Value.str.inj e2).2 (by decide)
 |toks=>cases e1
theorem dq_rowsR {h:Heap} {a:Addr} {t:Str} (q:Dq h (.ref a) (.str t 1000000003)):∃ rs,RsF h Row.rv Row.OkR a rs∧t=yU rs:=by
 generalize e1:Value.ref a=u1 at q
 generalize e2:Value.str t 1000000003=u2 at q
 cases q with
 |same v=>subst e1;cases e2
 |str s t' u=>cases e1
 |bytes s t' u=>cases e1
 |tup=>cases e2
 |rowT=>exact absurd (Value.str.inj e2).2 (by decide)
 |rowR=>exact absurd (Value.str.inj e2).2 (by decide)
 |rowsT=>exact absurd (Value.str.inj e2).2 (by decide)
 |rowsR a' x xs rs n h1 h2 h3 h4 h5 h6 h7 h8 =>
  cases Value.ref.inj e1
  exact ⟨rs,⟨rsF_of h1 h2 h3 h4 h8,h7,h5,h6⟩,(Value.str.inj e2).1⟩
 |toks=>cases e1
theorem Vo {h:Heap} {m:List En} {i j tok:Nat} {a:Addr} {s:Str} (hdq:∀ e∈m,∀ p∈e.dq,Dq h p.1 p.2) (q:factT m i j tok=some (a,s)):Dq h (.ref a) (.str s tok) :=
 iS (P:=fun x=>Dq h (.ref x.1) (.str x.2 tok)) (fun p qp=>iRf fun a q1=>yl fun s t q2=>iT fun q3=>iE (by rw [←q1,←Nat.eq_of_beq_eq_true q3,←q2];exact VJ hdq qp)) _ q
def StF (h:Heap) (k:Nat) (S:Addr) (c:Value) (tx:Str):Prop:=match k with
 |0=>∃ X Y st rs rr,qg h S [.str "tally-replace" st,c,.ref X,.ref Y]∧RsF h Row.tv Row.OkT X rs∧RsF h Row.rv Row.OkR Y rr∧tx = "INSPECT "++opT c ++ " "++yI rs ++ " "++yU rr
 |1=>∃ X st rs,qg h S [.str "tally" st,c,.ref X]∧RsF h Row.tv Row.OkT X rs∧tx = "INSPECT "++opT c ++ " "++yI rs
 |_=>∃ Y st rr,qg h S [.str "replace" st,c,.ref Y]∧RsF h Row.rv Row.OkR Y rr∧tx = "INSPECT "++opT c ++ " "++yU rr
theorem st_facts {h:Heap} {k:Nat} {m:List En} {hint:List Nat} {d:StD} (q:stSp k m hint=some d) (he:∀ p∈d.eqs,p.1=p.2) (hk:∀ e∈m,h.get? e.a=some e.o) (hdq:∀ e∈m,∀ p∈e.dq,Dq h p.1 p.2):StF h k d.a d.c d.tx:=by
 refine iL5 (P:=fun d=>(∀ p∈d.eqs,p.1=p.2)→StF h k d.a d.c d.tx) (fun jS i1 j1 i2 j2 _=>iM fun e l qe ql=>?_) d q he
 obtain ⟨dd,ep,sl,ho⟩:=yC ql
 have g:=hk e (List.mem_of_getElem? qe)
 rw [ho] at g
 match k with
 |0 =>
  refine iL4 fun v0 c v1 v2 b1=>yl fun w st b2=>iRf fun X b3=>iRf fun Y b4=>iT fun qw=>iP fun X1 s1 q1=>iP fun Y1 s2 q2=>iE fun he=>?_
  have e1:X=X1:=he (X,X1) (.head _)
  have e2:Y=Y1:=yM he 1
  clear he
  subst b1 b2 b3 b4 e1 e2
  rw [vw qw] at g
  obtain ⟨rs,f1,t1⟩:=dq_rowsT (Vo hdq q1)
  obtain ⟨rr,f2,t2⟩:=dq_rowsR (Vo hdq q2)
  exact ⟨X,Y,st,rs,rr,⟨dd,ep,sl,g⟩,f1,f2,by rw [t1,t2]⟩
 |1 =>
  refine iL3 fun v0 c v1 b1=>yl fun w st b2=>iRf fun X b3=>iT fun qw=>iP fun X1 s1 q1=>iE fun he=>?_
  have e1:X=X1:=he (X,X1) (.head _)
  clear he
  subst b1 b2 b3 e1
  rw [vw qw] at g
  obtain ⟨rs,f1,t1⟩:=dq_rowsT (Vo hdq q1)
  exact ⟨X,st,rs,⟨dd,ep,sl,g⟩,f1,by rw [t1]⟩
 |n+2 =>
  refine iL3 fun v0 c v1 b1=>yl fun w st b2=>iRf fun Y b3=>iT fun qw=>iP fun Y1 s2 q2=>iE fun he=>?_
  have e1:Y=Y1:=he (Y,Y1) (.head _)
  clear he
  subst b1 b2 b3 e1
  rw [vw qw] at g
  obtain ⟨rr,f2,t2⟩:=dq_rowsR (Vo hdq q2)
  exact ⟨Y,st,rr,⟨dd,ep,sl,g⟩,f2,by rw [t2]⟩
section
variable {w:World} {b1 b2 b3:Bool} {lc:Nat} {hs:List Mine.Hook} {h₀:Heap} {ws:List Addr} {h:Heap} {S L X:Addr} {k:Nat} {c:Value} {tx:Str}
theorem StF.says (q:StF h k S c tx) (hst:St (jb w b1 b2 b3) h) (hc:vc c):jr (jb w b1 b2 b3) 8 (.call (.ref 475) ⟨[.ref S,.ref L],[]⟩) h [] (qG tx):=by
 match k with
 |0 =>
  obtain ⟨X,Y,st,rs,rr,⟨d,ep,sl,g⟩,⟨a1,a2,a3,a4⟩,⟨b1,b2,b3,b4⟩,rfl⟩:=q
  exact showTR hst g hc a1 b1 a2 a3 a4 b2 b3 b4
 |1 =>
  obtain ⟨X,st,rs,⟨d,ep,sl,g⟩,⟨a1,a2,a3,a4⟩,rfl⟩:=q
  exact showTa hst g hc a1 a2 a3 a4
 |n+2 =>
  obtain ⟨Y,st,rr,⟨d,ep,sl,g⟩,⟨b1,b2,b3,b4⟩,rfl⟩:=q
  exact showRe hst g hc b1 b2 b3 b4
theorem Kd:(showSH k).Ok (cfg (jb w b1 b2 b3) lc hs) PW (jb w b1 b2 b3) h₀ ws:=by
 refine vn fun c m hint=>?_
 refine iCa fun _ b1=>iL2 fun _ _ b2=>iRf fun S b3=>iRf fun L b4=>iS fun d qd=>?_
 subst b1 b2 b3 b4
 refine iE ?_
 intro h hm hi hst hk hdq hoff hold
 have z0:=hm 0 (Nat.le_refl _)
 have e1:S=d.a:=z0.1 (S,d.a) (.head _)
 have m1:vc d.c:=z0.2 _ (.head _)
 clear hm hi
 subst e1
 have F:=st_facts qd (fun p hp=>z0.1 p (.tail _ hp)) hk hdq
 refine (F.says hst m1).mono fun r h' _ p=>?_
 obtain ⟨t,rfl⟩:=p
 exact ⟨0,{(default:Ora) with n:=t},Nat.le_refl _,rfl,trivial,trivial,fun _ q=>(nomatch q),fun _ q=>(nomatch q)⟩
theorem showRwH_ok {f:Addr} {tok:Nat} (H:∀ {h:Heap} {X:Addr} {s:Str},St (jb w b1 b2 b3) h→Dq h (.ref X) (.str s tok)→jr (jb w b1 b2 b3) 6 (.call (.ref f) ⟨[.ref X],[]⟩) h [] (qG s)):(Yr f tok).Ok (cfg (jb w b1 b2 b3) lc hs) PW (jb w b1 b2 b3) h₀ ws:=by
 refine vn fun c m hint=>?_
 refine iCa fun _ b1=>iL1 fun _ b2=>iRf fun X b3=>iL2 fun _ _ b4=>iP fun X1 s q1=>?_
 subst b1 b2 b3 b4
 refine iE ?_
 intro h hm hi hst hk hdq hoff hold
 have z0:=hm 0 (Nat.le_refl _)
 have e1:X=X1:=z0.1 (X,X1) (.head _)
 clear z0 hm hi
 subst e1
 refine (H hst (Vo hdq q1)).mono fun r h' _ p=>?_
 obtain ⟨t,rfl⟩:=p
 exact ⟨0,{(default:Ora) with n:=t},Nat.le_refl _,rfl,trivial,trivial,fun _ q=>(nomatch q),fun _ q=>(nomatch q)⟩
theorem showTwH_ok:(Yr 447 1000000002).Ok (cfg (jb w b1 b2 b3) lc hs) PW (jb w b1 b2 b3) h₀ ws:=showRwH_ok fun hst q=>by
 obtain ⟨rs,⟨a1,a2,a3,a4⟩,rfl⟩:=dq_rowsT q
 exact showT hst a1 a2 a3 a4
theorem showRrH_ok:(Yr 454 1000000003).Ok (cfg (jb w b1 b2 b3) lc hs) PW (jb w b1 b2 b3) h₀ ws:=showRwH_ok fun hst q=>by
 obtain ⟨rs,⟨a1,a2,a3,a4⟩,rfl⟩:=dq_rowsR q
 exact showR hst a1 a2 a3 a4
end
theorem cutE_none:∀ {l acc:List Nat},32∉l→Yl acc l=[]
 |[],_,_=>rfl
 |c::l,acc,h=>by
  have hc:Nat.beq c 32=false:=Bool.eq_false_iff.mpr fun q=>h (by rw [Nat.eq_of_beq_eq_true q];exact .head _)
  show (match Nat.beq c 32 with | true=>acc.reverse::Yl [] l | false=>Yl (c::acc) l)=[]
  rw [hc]
  exact cutE_none fun q=>h (.tail _ q)
theorem blank_mid (a b:Str):32∈(a++(" "++b)).cps.toList:=by
 rw [Qo,Qo,VP]
 exact List.mem_append_right _ (List.mem_append_left _ (.head _))
theorem tT_blank {r:Row} (h:r.OkT):32∈r.tT.cps.toList:=by
 have e:r.tT=opT r.c++(" "++("FOR"++(" "++(kdT r.k r.v++bdW r.b r.a)))):=Jt h.b (yz (jG h.c))
 rw [e];exact blank_mid _ _
theorem rT_blank {r:Row} (h:r.OkR):32∈r.rT.cps.toList:=by
 have e:r.rT=kdT r.k r.v++(" "++("BY"++(" "++(opT r.c++bdW r.b r.a)))):=Jt h.b (yL h.k)
 rw [e];exact blank_mid _ _
theorem dq_word {h:Heap} {v:Value} {K:Str} {t:Tok} (q:Dq h v (.str K t)) (hK:32∉K.cps.toList) (hn:K≠Str.empty):∃ u,v = .str K u:=by
 cases q with
 |same=>exact ⟨_,rfl⟩
 |str=>exact ⟨_,rfl⟩
 |rowT a x r n h1 h2 h3 h4=>exact absurd (tT_blank h4) hK
 |rowR a x r n h1 h2 h3 h4=>exact absurd (rT_blank h4) hK
 |rowsT a x xs rs n h1 h2 h3 h4 h5 h6 h7 h8 =>
  refine absurd ?_ hK
  show 32∈(("TALLYING " : Str)++Txt.join " " (rs.map Row.tT)).cps.toList
  rw [Qo]
  exact List.mem_append_left _ (by decide +kernel)
 |rowsR a x xs rs n h1 h2 h3 h4 h5 h6 h7 h8 =>
  refine absurd ?_ hK
  show 32∈(("REPLACING " : Str)++Txt.join " " (rs.map Row.rT)).cps.toList
  rw [Qo]
  exact List.mem_append_left _ (by decide +kernel)
 |toks as s h1 h2 =>
  have e:Jf K=[]:=by unfold Jf;rw [cutE_none hK];rfl
  rw [e] at h1
  cases as with
  |nil=>exact absurd (h2 rfl) hn
  |cons=>exact h1.elim
def ClL (v:Value):Prop:=v = .none∨(∃ s t,v = .str s t∧32∉s.cps.toList∧s≠Str.empty)∨∃ b t,v = .bytes b t
noncomputable def Cl (h:Heap):Nat→Value→Prop
 |0,v=>ClL v
 |n+1,v=>ClL v∨∃ b d l ep sl,v = .ref b∧h.get? b=some (vv d l ep sl)∧∀ x∈l,Cl h n x
theorem ClL.cl {h:Heap} {v:Value} (q:ClL v):∀ n,Cl h n v
 |0=>q
 |_+1 => .inl q
theorem Cl.succ {h:Heap}:∀ {n:Nat} {v:Value},Cl h n v→Cl h (n+1) v
 |0,_,q => .inl q
 |_+1,_,.inl q => .inl q
 |_+1,_,.inr ⟨b,d,l,ep,sl,e,g,q⟩ => .inr ⟨b,d,l,ep,sl,e,g,fun x hx=>(q x hx).succ⟩
theorem eq_leaf {A:Around} {s:Shared} {v v':Value} (c:ClL v') (q:Dq s.heap v v'):SeqAt.EqAt A s v v' true:=by
 rcases c with rfl | ⟨K,t,rfl,h1,h2⟩ | ⟨b,t,rfl⟩
 ·have:v = .none:=by
   generalize e:Value.none=u at q
   cases q with
   |same=>rfl
   |_=>cases e
  subst this
  exact SeqAt.EqAt.same _
 ·obtain ⟨u,rfl⟩:=dq_word q h1 h2
  have:=SeqAt.EqAt.str_str (A:=A) (s:=s) K u K t
  rwa [beq_self_eq_true] at this
 ·obtain ⟨u,rfl⟩:=dq_bytes q
  intro prog w E Q hq
  unfold eqBool
  refine wpAny_holding ?_
  refine wpAny_ite_split (fun hab=>wpAny_bind (wpAny_rule (wpAny_pure hq))) (fun _=>?_)
  refine wpAny_bind (richCompare_gives (op := .Eq) (T := "bytes") rfl rfl FB.slot_bytes_eq FB.entry_bytes_eq (FB.args_bytes_eq_2 _ _) (gives_bytes_eq b b u t) (fun x=>nomatch x) (wpAny_truthy_bool ?_))
  rw [beq_self_eq_true]
  exact hq
theorem eq_at {s:Shared}:∀ (n:Nat) {A:Around} {v v':Value},Cl s.heap n v'→Dq s.heap v v'→A.units+n < cLine→SeqAt.EqAt A s v v' true
 |0,A,v,v',c,q,_=>eq_leaf c q
 |n+1,A,v,v',.inl c,q,_=>eq_leaf c q
 |n+1,A,v,v',.inr ⟨b,d,l,ep,sl,e,g,c⟩,q,hu=>by
  subst e
  obtain ⟨p,d',l',ep',sl',rfl,g',ql⟩:=Yk q g
  by_cases hpb:p=b
  ·subst hpb;exact SeqAt.EqAt.same _
  ·refine SeqAt.EqAt.of_refs hpb ?_
   have hl:l'.length=l.length:=ql.len
   have r:=SeqAt.RcAt.tuples (A:=A) (s:=s) (l:=p) (b:=b) (items:=⟨l'⟩) (items2:=⟨l⟩) (e:=fun _=>true) ⟨_,g',rfl,ep',rfl⟩ ⟨_,g,rfl,ep,rfl⟩ (by omega) fun j h1 h2=>by
    have h1':j < l'.length:=h1
    have h2':j < l.length:=h2
    exact eq_at n (c _ (List.getElem_mem h2')) (ql.at j l'[j] l[j] (List.getElem?_eq_getElem h1') (List.getElem?_eq_getElem h2')) (by show A.units+1+n < cLine;omega)
   have e:((List.range (min (⟨l'⟩:Array Value).size (⟨l⟩:Array Value).size)).all (fun _=>true) && (⟨l'⟩:Array Value).size == (⟨l⟩:Array Value).size)=true:=by
    simp [hl]
   rw [e] at r
   exact r
def tr_dn (b1 b2 b3:Bool):Tr:=T [1,1,0,1,2,0,0,0,0,2,0,0,0,2,2,0,3,0,0,1,2,0,0,0,0,2,0,0,0,2,2,0,3,1,1,3,2,0] .nil
def tr_rdL (f b1 b2 b3:Bool):Tr:=match f with
 |true=>(match b2 with | true=>T [1,1,0,1,1,0,1,1,0,1,1,0,0,3,2,2,2,3,1,1,1,0,1,1,1,1,0,0,2,0,0,0,0,0,0,0,0,0,0,0,0,0,0,0,0,0,0,0] (T [0,0,0,0,0,0,0,0,0,0,0,1,0,1,0,0,0,0,0,0,1,1,1,1,1,1,1,1,1,1,0,1,1,2,0,0,0,0,2,0,2,0,2,0,0,0,2,0] (T [3,3,3,1,1,2,0,0,0,0,2,0,2,0,2,0,0,0,2,0,3,3,3,1,1,2,0,0,0,0,2,0,2,0,2,0,0,0,2,0,3,3,3,1,1,2,0,0] (T [0,0,2,0,2,0,2,0,0,0,2,0,3,3,3,3,1,5,4,4,4,6,5,7,9,9,5,5,5,0,9,0,0,0,0,0,0,0,0,0,0,0,0,0,0,0,0,0] (T [0,0,0,0,0,0,0,0,0,0,0,0,0,1,0,1,0,0,0,0,0,0,1,1,1,1,1,1,0,1,1,2,0,0,0,0,2,0,2,0,2,0,0,0,2,0,3,3] (T [3,1,1,2,0,0,0,0,2,0,2,0,2,0,0,0,2,0,3,3,3,2,3,0,0,0,0,3,0,3,0,3,0,0,0,3,0,4,4,4,3,4,0,0,0,0,4,0] (T [4,0,4,0,0,0,4,0,5,5,5,14,14,0,14,0,15,21,21,21,0,0,0,0,5,6,10,11,17,13,14,12,21,21,21,11,0,0,0,11,0,0,0,11,0,0,0,0] (T [11,12,0,6,3,10,11,17,21] .nil))))))) | false=>T [1,1,0,1,1,0,1,1,0,1,1,0,3,3,0,3,3,0,3,2,2,2,3,1,1,1,0,1,1,1,1,0,0,2,0,0,0,0,0,0,0,0,0,0,0,0,0,0] (T [0,0,0,0,0,0,0,0,0,0,0,0,0,0,0,0,1,0,1,0,0,0,0,0,0,1,1,1,1,1,1,1,1,1,1,0,1,1,2,0,0,0,0,2,0,2,0,2] (T [0,0,0,2,0,3,3,3,1,1,2,0,0,0,0,2,0,2,0,2,0,0,0,2,0,3,3,3,1,1,2,0,0,0,0,2,0,2,0,2,0,0,0,2,0,3,3,3] (T [1,1,2,0,0,0,0,2,0,2,0,2,0,0,0,2,0,3,3,3,3,1,5,4,4,4,6,5,7,9,9,5,5,5,0,9,0,0,0,0,0,0,0,0,0,0,0,0] (T [0,0,0,0,0,0,0,0,0,0,0,0,0,0,0,0,0,0,1,0,1,0,0,0,0,0,0,1,1,1,1,1,1,0,1,1,2,0,0,0,0,2,0,2,0,2,0,0] (T [0,2,0,3,3,3,1,1,2,0,0,0,0,2,0,2,0,2,0,0,0,2,0,3,3,3,2,3,0,0,0,0,3,0,3,0,3,0,0,0,3,0,4,4,4,3,4,0] (T [0,0,0,4,0,4,0,4,0,0,0,4,0,5,5,5,14,14,0,14,0,15,21,21,21,0,0,0,0,5,6,10,11,17,13,14,12,21,21,21,11,0,0,0,11,0,0,0] (T [11,0,0,0,0,11,12,0,6,3,10,11,17,21] .nil))))))))
 |false=>(match b2 with | true=>T [1,1,0,1,1,0,1,1,0,1,1,0,0,3,2,2,2,3,1,1,1,0,1,1,1,1,0,0,2,0,0,0,0,0,0,0,0,0,0,0,0,0,0,0,0,0,0,0] (T [0,0,0,0,0,0,0,0,0,0,0,1,0,1,0,0,0,0,0,0,1,1,1,1,1,1,1,1,1,1,0,1,1,2,0,0,0,0,2,0,2,0,2,0,0,0,2,0] (T [3,3,3,1,1,2,0,0,0,0,2,0,2,0,2,0,0,0,2,0,3,3,3,1,1,2,0,0,0,0,2,0,2,0,2,0,0,0,2,0,3,3,3,1,1,2,0,0] (T [0,0,2,0,2,0,2,0,0,0,2,0,3,3,3,3,1,5,4,4,4,6,5,7,9,9,5,5,5,0,9,0,0,0,0,0,0,0,0,0,0,0,0,0,0,0,0,0] (T [0,0,0,0,0,0,0,0,0,0,0,0,0,1,0,1,0,0,0,0,0,0,1,1,1,1,1,1,0,1,1,2,0,0,0,0,2,0,2,0,2,0,0,0,2,0,3,3] (T [3,1,1,2,0,0,0,0,2,0,2,0,2,0,0,0,2,0,3,3,3,2,3,0,0,0,0,3,0,3,0,3,0,0,0,3,0,4,4,4,3,4,0,0,0,0,4,0] (T [4,0,4,0,0,0,4,0,5,5,5,14,14,0,14,0,15,0,0,0,0,5,6,4,5,11,7,8,6,15,15,15,5,0,0,0,5,0,0,0,5,0,0,0,0,5,6,0] (T [6,3,4,5,11,15] .nil))))))) | false=>T [1,1,0,1,1,0,1,1,0,1,1,0,3,3,0,3,3,0,3,2,2,2,3,1,1,1,0,1,1,1,1,0,0,2,0,0,0,0,0,0,0,0,0,0,0,0,0,0] (T [0,0,0,0,0,0,0,0,0,0,0,0,0,0,0,0,1,0,1,0,0,0,0,0,0,1,1,1,1,1,1,1,1,1,1,0,1,1,2,0,0,0,0,2,0,2,0,2] (T [0,0,0,2,0,3,3,3,1,1,2,0,0,0,0,2,0,2,0,2,0,0,0,2,0,3,3,3,1,1,2,0,0,0,0,2,0,2,0,2,0,0,0,2,0,3,3,3] (T [1,1,2,0,0,0,0,2,0,2,0,2,0,0,0,2,0,3,3,3,3,1,5,4,4,4,6,5,7,9,9,5,5,5,0,9,0,0,0,0,0,0,0,0,0,0,0,0] (T [0,0,0,0,0,0,0,0,0,0,0,0,0,0,0,0,0,0,1,0,1,0,0,0,0,0,0,1,1,1,1,1,1,0,1,1,2,0,0,0,0,2,0,2,0,2,0,0] (T [0,2,0,3,3,3,1,1,2,0,0,0,0,2,0,2,0,2,0,0,0,2,0,3,3,3,2,3,0,0,0,0,3,0,3,0,3,0,0,0,3,0,4,4,4,3,4,0] (T [0,0,0,4,0,4,0,4,0,0,0,4,0,5,5,5,14,14,0,14,0,15,0,0,0,0,5,6,4,5,11,7,8,6,15,15,15,5,0,0,0,5,0,0,0,5,0,0] (T [0,0,5,6,0,6,3,4,5,11,15] .nil))))))))
theorem ok629 (w:World):vH (ktP w) 629=true:=by kernel_rfl
theorem ok832 (w:World):vH (ktP w) 832=true:=by kernel_rfl
theorem off829 (w:World):(ktP w).get 829=none:=by kernel_rfl
section
variable {w:World} {b1 b2 b3:Bool} {lc:Nat} {hs:List Mine.Hook} {h₀:Heap} {ws:List Addr} {h:Heap} {R D T S ca t k ep le k1 k2 k3 k4 z tz:Nat} {h1 h2 h3 h4:Int} {n0 s0 c:Value} {l:List Value} {tx:Str} {wd:List Str} {rs:List TRow} {rr:List RRow}
theorem dn (hst:St (jb w b1 b2 b3) h) (gR:h.get? R=some (rdI D)) (gD:h.get? D=some (rdO h1 h2 h3 h4 k1 k2 k3 k4 T z tz n0 s0 ep)) (gT:h.get? T=some (lsO l le)) (m0:l.length≤100000) (m1:(l.length:Int)≤Int.ofNat z):jr (jb w b1 b2 b3) 2 (.call (.ref 629) ⟨[.ref R],[]⟩) h [] (fun r _=>r = .ok (.ret (.bool true))):=by
 refine je (hooks:=[lenH,geH]) (hkc lenH_ok (hkc geH_ok hkn)) (fuel:=10000) (tr:=fun b1=>tr_dn b1 b2 b3) (ok629 _) (jl.ro hst (l:=[(R,_),(D,_),(T,_)]) ⟨gR,gD,gT,trivial⟩) fun n tk os bs hn=>?_
 exact jj (fun r m=>vd r) (fun r m => .ret (.bool true)) (ps:=[(true,l.length≤100000),(true,(l.length:Int)≤Int.ofNat z)]) (by kernel_rfl) (by kernel_rfl) (fun _ kT=>⟨m0,⟨m1,kT fun r m n tk e h' D'=>jm e⟩⟩)
theorem doneH_ok:doneH.Ok (cfg (jb w b1 b2 b3) lc hs) PW (jb w b1 b2 b3) h₀ ws:=by
 refine vn fun c m hint=>?_
 refine iCa fun _ b1=>iL1 fun _ b2=>iRf fun R b3=>iL3 fun jR jD jT b4=>iM fun eR D qR qi=>iN fun eD T z qD qo=>iN fun eT l le qT ql=>?_
 subst b1 b2 b3 b4
 refine iE ?_
 intro h hm hi hst hk hdq hoff hold
 have z0:=hm 0 (Nat.le_refl _)
 have e1:R=eR.a:=z0.1 (R,eR.a) (.head _)
 have e2:D=eD.a:=yM z0.1 1
 have e3:T=eT.a:=yM z0.1 2
 have m1:l.length≤z:=z0.2 _ (.head _)
 have m2:l.length≤100000:=vV z0.2 1
 clear z0 hm hi
 subst e1 e2 e3
 refine rdE qo fun h1 h2 h3 h4 k1 k2 k3 k4 tz n0 s0 ep oD=>?_
 have X:=dn hst (QI qi ▸ hk eR (List.mem_of_getElem? qR)) (oD ▸ hk eD (List.mem_of_getElem? qD)) (yq ql ▸ hk eT (List.mem_of_getElem? qT)) m2 (Int.ofNat_le.mpr m1)
 show jr (jb w b1 b2 b3) 2 _ h [] _
 refine X.mono fun r h' _ p=>?_
 exact ⟨0,default,Nat.le_refl _,p,trivial,trivial,fun _ q=>(nomatch q),fun _ q=>(nomatch q)⟩
theorem noTup829 {f:Bool} (g:h.get? 829=some (fldB f ca)):Jy h [829]:=fun a ha o' q=>by
 cases ha with
 |head=>rw [g] at q;cases q;cases f <;> rfl
 |tail _ ha=>cases ha
theorem shown829 {w:World} {f:Bool} (hst:St w h) (g:h.get? 829=some (fldB f ca)):jl w [829] [⟨829,fldB f ca,true,[]⟩] h :=
 shown1 hst g (off829 w) (l:=[]) fun e he=>nomatch he
theorem nobl_all (hd:vL wd):∀ w∈("INSPECT" : Str)::wd,jh w:=fun w hw=>by
 cases hw with
 |head=>exact Wd.nobl .insp
 |tail _ hw=>exact hd.nobl w hw
theorem areW_head {vs:List Value} {s:Str} {ss:List Str} (q:YU vs (s::ss)):∃ t,vs[0]?=some (.str s t):=by
 cases vs with
 |nil=>exact q.elim
 |cons v vs=>obtain ⟨⟨t,rfl⟩,_⟩:=q;exact ⟨t,rfl⟩
theorem areW_tail {vs:List Value} {s:Str} {ss:List Str} (q:YU vs (s::ss)):YU (vs.drop (0+1)) ss:=by
 cases vs with
 |nil=>exact q.elim
 |cons v vs=>exact q.2
theorem tk_small (hd:vL wd):∀ t∈(⟨false,"INSPECT"⟩:Tk)::Jf (Jc wd),t.s.length≤1000:=fun t ht=>by
 cases ht with
 |head=>decide +kernel
 |tail _ ht =>
  have ht:t∈Jf (Jc wd):=ht
  rw [Qu hd.nobl,List.mem_map] at ht
  obtain ⟨w,hw,rfl⟩:=ht
  obtain ⟨kd,rfl⟩:=hd w hw
  cases kd <;> decide +kernel
def RdRes (S:Addr) (r:Result) (h':Heap):Prop:=∃ a c,r = .ok (.ret (.ref a))∧Dq h' (.ref a) (.ref S)∧h'.get? 829=some (fld1 c)
theorem rdEnd {C:Cfg} {r:Result} {m:List En} {n a:Nat} {h':Heap} (e:(vR r,yW r,dqA m 0,flR m 0)=(true,a,(.ref a,.ref S) :: [],some (829,true))) (D':Rp C h₀ ws m n h'):RdRes S r h':=by
 refine pr4 e fun e1 e2 e3 e4=>?_
 obtain ⟨c,g⟩:=flR_known D' e4
 exact ⟨a,c,by rw [vl e1,e2],qc D' e3 _ (.head _),g⟩
theorem rdL (f:Bool) (hst:St (jb w b1 b2 b3) h) (g:h.get? 829=some (fldB f ca)) (hd:vL wd) (hl:wd.length≤900) (hx:tx=Str.join " " (("INSPECT" : Str)::wd)) (hxl:tx.length≤50000) (sp:Qq ((⟨false,"INSPECT"⟩:Tk)::Jf (Jc wd)) 0 k c rs rr) (hN:inN k c rs rr=wd.length+1) (hS:StOk h k S c rs rr) : jr (jb w b1 b2 b3) 21 (.call (.ref 832) ⟨[.str tx t],[]⟩) h [829] (RdRes S):=by
 have ln:(Jf (Jc wd)).length=wd.length:=by rw [Qu hd.nobl,List.length_map]
 refine Yt (hooks:=[splitWH (("INSPECT" : Str)::wd),nextWH "INSPECT",VW,cmpH wd,inspH k c rs rr S,doneH]) (hkc splitWH_ok (hkc nextWH_ok (hkc yr (hkc (cmpH_ok fun G a b=>cm_says hd G a b) (hkc (inspH_ok hS (noTup829 g)) (hkc doneH_ok hkn)))))) (fuel:=10000) (tr:=tr_rdL f b1 b2 b3) (ok832 _) (shown829 hst g) fun n tk os bs hn=>?_
 exact ye (fun r m=>(vR r,yW r,dqA m 0,flR m 0)) (fun r m=>(true,(os 9).n,(.ref (os 9).n,.ref S) :: [],some (829,true))) (ps:=[(true,tx=(Str.ofString " ").join (Str.ofString "INSPECT" :: wd)),(true,tx.length≤50000),(true,(Str.ofString "INSPECT" :: wd).length≤1000),(true,Str.ofString "INSPECT" :: wd≠[]),(true,∀ (w:Str),w∈Str.ofString "INSPECT" :: wd→jh w),(true,Str.ofString " " = Str.ofString " "),(false,YU (os 1).vs (Str.ofString "INSPECT" :: wd)),(true,∃ t,(os 1).vs[0]?=some (Value.str "INSPECT" t)),yt,(true,([]:List Value).length≤1000),yt,(true,YN (n+845) ((os 0).n+2) (os 0).n ((os 0).n+1)=YN (n+845) ((os 0).n+2) (os 0).n ((os 0).n+1)),(true,YU (List.drop (0+1) (os 1).vs) wd),(true,(([]:List Value)++[Value.ref ((os 2).n+2)]).length+wd.length≤1000),(false,(os 7).s2.cps.toList.length=wd.length),(true,List.map Value.ref (os 7).s2.cps.toList=List.map Value.ref (os 7).s2.cps.toList),(true,0=0),(true,Qq ((⟨false,Str.ofString "INSPECT"⟩:Tk)::Jf (Jc wd)) 0 k c rs rr),(true,((⟨false,Str.ofString "INSPECT"⟩:Tk)::Jf (Jc wd)).length≤1000),(true,∀ t∈(⟨false,Str.ofString "INSPECT"⟩:Tk)::Jf (Jc wd),t.s.length≤1000),(true,2 * (os 7).s2.cps.toList.length≤(Jc wd).cps.toList.length),yt,(true,(([]:List Value)++[Value.ref ((os 2).n+2)]++List.map Value.ref (os 7).s2.cps.toList).length≤inN k c rs rr),(true,(([]:List Value)++[Value.ref ((os 2).n+2)]++List.map Value.ref (os 7).s2.cps.toList).length≤100000),yt]) (by clear hn hst g hd hl hx hxl sp hN hS ln;cases f <;> cases b1 <;> cases b2 <;> kernel_rfl) (⟨hx,⟨hxl,⟨(by (try simp only [List.nil_append,List.length_cons]);omega),⟨(fun q=>nomatch q),⟨(nobl_all hd),⟨rfl,fun q0=>⟨(areW_head q0),fun _=>⟨(by decide),fun _=>⟨rfl,⟨(areW_tail q0),⟨(by (try simp only [List.nil_append,List.length_cons,List.length_nil]);omega),fun q1=>⟨rfl,⟨rfl,⟨sp,⟨(by (try simp only [List.nil_append,List.length_cons,ln]);omega),⟨(tk_small hd),⟨(by rw [show (os 7).s2.cps.toList.length=wd.length from q1];exact catB_len hd),fun _=>⟨(by (try simp only [List.nil_append,List.length_append,List.length_cons,List.length_nil,List.length_map,hN,q1]);omega),⟨(by (try simp only [List.nil_append,List.length_append,List.length_cons,List.length_nil,List.length_map,q1]);omega),fun _=>fun r m n tk e h' D'=>rdEnd e D'⟩⟩⟩⟩⟩⟩⟩⟩⟩⟩⟩⟩⟩⟩⟩⟩⟩⟩⟩)
theorem At.len {h:Heap} {f:Row→List Value}:∀ {as:List Addr} {rs:List Row},At h f as rs→as.length=rs.length
 |[],[],_=>rfl
 |a::as,r::rs,⟨_,q⟩=>by simp only [List.length_cons,At.len q]
 |[],_::_,q=>q.elim
 |_::_,[],q=>q.elim
theorem bdV_of {b a:Value} (h:yA b a):BdV b∧BdV a:=by
 obtain ⟨h1,h2⟩:=h
 refine ⟨?_,?_⟩
 ·rcases h1 with rfl | rfl | rfl
  ·exact .inl rfl
  ·exact .inr ⟨_,rfl⟩
  ·exact .inr ⟨_,rfl⟩
 ·rcases h2 with rfl | rfl
  ·exact .inl rfl
  ·exact .inr ⟨_,rfl⟩
theorem zipT_ok {h:Heap}:∀ {as:List Addr} {rs:List Row},At h Row.tv as rs→(∀ r∈rs,r.OkT)→(∀ r∈qK Qr rs as,TOk h r)∧(qK Qr rs as).map (fun r=>Value.ref r.row)=as.map Value.ref
 |[],[],_,_=>⟨fun _ q=>(nomatch q),rfl⟩
 |a::as,r::rs,⟨⟨d,ep,sl,g⟩,q⟩,ho=>by
  obtain ⟨i1,i2⟩:=zipT_ok q fun x hx=>ho x (.tail _ hx)
  refine ⟨fun x hx=>?_,?_⟩
  ·cases hx with
   |head=>exact ⟨(bdV_of (ho r (.head _)).b).1,(bdV_of (ho r (.head _)).b).2,r.t,d,ep,sl,g⟩
   |tail _ hx=>exact i1 x hx
  ·show Value.ref a::(qK Qr rs as).map (fun r=>Value.ref r.row)=_
   rw [i2];rfl
 |[],_::_,q,_=>q.elim
 |_::_,[],q,_=>q.elim
theorem zipR_ok {h:Heap}:∀ {as:List Addr} {rs:List Row},At h Row.rv as rs→(∀ r∈rs,r.OkR)→(∀ r∈qK Qs rs as,ROk h r)∧(qK Qs rs as).map (fun r=>Value.ref r.row)=as.map Value.ref
 |[],[],_,_=>⟨fun _ q=>(nomatch q),rfl⟩
 |a::as,r::rs,⟨⟨d,ep,sl,g⟩,q⟩,ho=>by
  obtain ⟨i1,i2⟩:=zipR_ok q fun x hx=>ho x (.tail _ hx)
  refine ⟨fun x hx=>?_,?_⟩
  ·cases hx with
   |head=>exact ⟨(bdV_of (ho r (.head _)).b).1,(bdV_of (ho r (.head _)).b).2,r.t,d,ep,sl,g⟩
   |tail _ hx=>exact i1 x hx
  ·show Value.ref a::(qK Qs rs as).map (fun r=>Value.ref r.row)=_
   rw [i2];rfl
 |[],_::_,q,_=>q.elim
 |_::_,[],q,_=>q.elim
theorem rsT_trs {h:Heap} {X:Addr} {rs:List Row} (q:RsF h Row.tv Row.OkT X rs):∃ as,rs.length=as.length∧TRs h X (qK Qr rs as):=by
 obtain ⟨⟨as,d,ep,sl,g,at_⟩,ho,h1,h3⟩:=q
 have z:=zipT_ok at_ ho
 refine ⟨as,at_.len.symm,z.1,⟨d,ep,sl,by rw [z.2];exact g⟩,?_⟩
 rw [JU at_.len.symm];omega
theorem rsR_rrs {h:Heap} {X:Addr} {rs:List Row} (q:RsF h Row.rv Row.OkR X rs):∃ as,rs.length=as.length∧RRs h X (qK Qs rs as):=by
 obtain ⟨⟨as,d,ep,sl,g,at_⟩,ho,h1,h3⟩:=q
 have z:=zipR_ok at_ ho
 refine ⟨as,at_.len.symm,z.1,⟨d,ep,sl,by rw [z.2];exact g⟩,?_⟩
 rw [JU at_.len.symm];omega
theorem Ke (v:Value):opN v≤3:=by
 unfold opN
 split
 ·split <;> omega
 ·omega
theorem bdN1_le (v:Value):jp v≤5:=by
 unfold jp
 split
 ·have:=Ke;rename_i a;have:=this (.ref a);omega
 ·omega
theorem tsN_le:∀ rs:List TRow,tsN rs≤20 * rs.length
 |[]=>Nat.zero_le _
 |r::rs=>by
  have:=tsN_le rs
  have a:=Ke r.c;have b:=Ke r.v;have c:=bdN1_le r.b;have d:=bdN1_le r.a
  simp only [tsN,t1N,cnN,List.length_cons];omega
theorem rsN_le:∀ rs:List RRow,rsN rs≤20 * rs.length
 |[]=>Nat.zero_le _
 |r::rs=>by
  have:=rsN_le rs
  have a:=Ke r.u;have b:=Ke r.v;have c:=bdN1_le r.b;have d:=bdN1_le r.a
  simp only [rsN,r1N,exN,List.length_cons];omega
noncomputable def dmT:Row:=⟨.ref 775,"CHARACTERS",0,.none,.none,.none⟩
theorem dmT_ok:dmT.OkT:=⟨.inl rfl,.inl rfl,.inl ⟨rfl,rfl⟩,.inl rfl,.inl rfl⟩
theorem dmR_ok:dmT.OkR:=⟨.inl rfl,.inl rfl,.inl ⟨rfl,rfl⟩,.inl rfl,.inl rfl⟩
theorem st_words {k:Nat} {c:Value} {rs rr:List Row} {as bs:List Addr} (hc:vc c) (ht:∀ r∈rs,r.OkT) (hr:∀ r∈rr,r.OkR) (la:rs.length=as.length) (lb:rr.length=bs.length) (nt:1≤rs.length) (nr:1≤rr.length) (mt:rs.length≤3) (mr:rr.length≤3) :
  vL (Qw k c rs rr)∧(Qw k c rs rr).length≤900∧stX k c rs rr=Str.join " " (("INSPECT" : Str)::Qw k c rs rr)∧Qq ((⟨false,"INSPECT"⟩:Tk)::Jf (Jc (Qw k c rs rr))) 0 k c (qK Qr rs as) (qK Qs rr bs)∧inN k c (qK Qr rs as) (qK Qs rr bs)=(Qw k c rs rr).length+1:=by
 have wd:=stWs_wd (k:=k) hc ht hr
 have sp:=st_spell (k:=k) hc ht hr la lb
 have e:(("INSPECT" : Str)::Qw k c rs rr).map (fun w=>tkW w.cps.toList)=(⟨false,"INSPECT"⟩:Tk)::Jf (Jc (Qw k c rs rr)):=by
  rw [Qu wd.nobl]
  rfl
 rw [e] at sp
 refine ⟨wd,?_,(st_join hc ht hr (fun q=>by rw [q] at nt;cases nt) (fun q=>by rw [q] at nr;cases nr)).symm,sp.1,sp.2⟩
 have a:=tsN_le (qK Qr rs as)
 have b:=rsN_le (qK Qs rr bs)
 rw [JU la] at a
 rw [JU lb] at b
 have d:=Ke c
 have q:=sp.2
 have le:inN k c (qK Qr rs as) (qK Qs rr bs)≤1+opN c+1+(tsN (qK Qr rs as)+1+rsN (qK Qs rr bs)):=by
  unfold inN
  split <;> omega
 omega
theorem StF.ok {tx:Str} {h:Heap} {k:Nat} {S:Addr} {c:Value} (q:StF h k S c tx) (hc:vc c):∃ rs rr wd,StOk h k S c rs rr∧vL wd∧wd.length≤900∧tx=Str.join " " (("INSPECT" : Str)::wd)∧Qq ((⟨false,"INSPECT"⟩:Tk)::Jf (Jc wd)) 0 k c rs rr∧inN k c rs rr=wd.length+1∧tx.length≤50000:=by
 have lo:=opLen c hc
 have l8:Str.length "INSPECT " = 8:=rfl
 have l1:Str.length " " = 1:=rfl
 match k with
 |0 =>
  obtain ⟨X,Y,st,rs,rr,g,a,b,rfl⟩:=q
  obtain ⟨as,la,ta⟩:=rsT_trs a
  obtain ⟨bs,lb,tb⟩:=rsR_rrs b
  have z:=st_words (k:=0) hc a.2.1 b.2.1 la lb a.2.2.1 b.2.2.1 a.2.2.2 b.2.2.2
  have t1:=Qv a.2.2.2 a.2.1
  have t2:=Qz b.2.2.2 b.2.1
  exact ⟨_,_,_,⟨X,Y,st,g,ta,tb⟩,z.1,z.2.1,z.2.2.1,z.2.2.2.1,z.2.2.2.2,by simp only [Str.length_append];omega⟩
 |1 =>
  obtain ⟨X,st,rs,g,a,rfl⟩:=q
  obtain ⟨as,la,ta⟩:=rsT_trs a
  have z:=st_words (k:=1) (rr:=[dmT]) (bs:=[0]) hc a.2.1 (fun r hr=>by cases hr with | head=>exact dmR_ok | tail _ hr=>cases hr) la rfl a.2.2.1 (by decide) a.2.2.2 (by decide)
  have t1:=Qv a.2.2.2 a.2.1
  exact ⟨_,_,_,⟨X,st,g,ta⟩,z.1,z.2.1,z.2.2.1,z.2.2.2.1,z.2.2.2.2,by simp only [Str.length_append];omega⟩
 |n+2 =>
  obtain ⟨Y,st,rr,g,b,rfl⟩:=q
  obtain ⟨bs,lb,tb⟩:=rsR_rrs b
  have z:=st_words (k:=n+2) (rs:=[dmT]) (as:=[0]) hc (fun r hr=>by cases hr with | head=>exact dmT_ok | tail _ hr=>cases hr) b.2.1 rfl lb (by decide) b.2.2.1 (by decide) b.2.2.2
  have t2:=Qz b.2.2.2 b.2.1
  exact ⟨_,_,_,⟨Y,st,g,tb⟩,z.1,z.2.1,z.2.2.1,z.2.2.2.1,z.2.2.2.2,by simp only [Str.length_append];omega⟩
theorem StF.tup {tx:Str} {h:Heap} {k:Nat} {S:Addr} {c:Value} (q:StF h k S c tx):∃ l,qg h S l:=by
 match k with
 |0=>obtain ⟨X,Y,st,rs,rr,g,_⟩:=q;exact ⟨_,g⟩
 |1=>obtain ⟨X,st,rs,g,_⟩:=q;exact ⟨_,g⟩
 |n+2=>obtain ⟨Y,st,rr,g,_⟩:=q;exact ⟨_,g⟩
theorem Vl:(YD k).Ok (cfg (jb w b1 b2 b3) lc hs) PW (jb w b1 b2 b3) h₀ ws:=by
 refine vn fun c m hint=>?_
 refine iCa fun _ b1=>iL1 fun _ b2=>yl fun tx t b3=>iC1 fun jE hint b4=>iM fun eE pp qE ql=>iS fun d qd=>?_
 subst b1 b2 b3 b4
 refine iE ?_
 intro h hm hi hst hk hdq hoff hold
 have z0:=hm 0 (Nat.le_refl _)
 have e1:829=eE.a:=z0.1 (829,eE.a) (.head _)
 have m1:vc d.c:=z0.2 _ (.head _)
 have m2:tx=d.tx:=vV z0.2 1
 clear hm hi
 have F:=st_facts qd (fun p hp=>z0.1 p (.tail _ hp)) hk hdq
 obtain ⟨ff,ca⟩:=pp
 have oE:eE.o=fldB ff ca:=fl_eq ql
 have gE:=hk eE (List.mem_of_getElem? qE)
 rw [oE,←e1] at gE
 subst m2
 obtain ⟨rs,rr,wd,s1,s2,s3,s4,s5,s6,s7⟩:=F.ok m1
 have X:=rdL (t:=t) ff hst gE s2 s3 s4 s7 s5 s6 s1
 have ea:vF m [jE]=[829]:=by simp [vF,qE,←e1]
 show jr (jb w b1 b2 b3) 21 _ h (vF m [jE]) _
 rw [ea]
 refine X.mono fun r h' ol p=>?_
 obtain ⟨a,ca',rfl,dq,g⟩:=p
 obtain ⟨l,gS⟩:=F.tup
 obtain ⟨dS,eS,sS,gS⟩:=gS.at ol (noTup829 gE)
 obtain ⟨p,d',l',ep',sl',ep,gp,_⟩:=Yk dq gS
 cases ep
 refine ⟨0,{(default:Ora) with n:=a,n2:=ca',vs:=l',n3:=ep',ob:=⟨.none,d',.plain,sl'⟩},Nat.le_refl _,rfl,trivial,⟨⟨eE,qE,by rw [←e1];exact g,?_⟩,trivial⟩,fun p hp=>?_,fun p hp=>?_⟩
 ·rw [oE];cases ff <;> rfl
 ·cases hp with
  |head=>exact ⟨gp,rfl⟩
  |tail _ hp=>cases hp
 ·cases hp with
  |head=>exact dq
  |tail _ hp=>cases hp
theorem Jz (s:Str) (t:Tok) (h1:32∉s.cps.toList) (h2:s≠Str.empty):ClL (.str s t) := .inr (.inl ⟨s,t,rfl,h1,h2⟩)
theorem QU {h:Heap} {n:Nat} {b:Addr} {l:List Value} (g:qg h b l) (q:∀ x∈l,Cl h n x):Cl h (n+1) (.ref b):=by
 obtain ⟨d,ep,sl,g⟩:=g
 exact .inr ⟨b,d,l,ep,sl,rfl,g,q⟩
theorem all_cons {p:Value→Prop} {x:Value} {l:List Value} (a:p x) (b:∀ y∈l,p y):∀ y∈x::l,p y:=fun y hy=>by
 cases hy with
 |head=>exact a
 |tail _ hy=>exact b y hy
theorem all_nil {p:Value→Prop}:∀ y∈([]:List Value),p y:=fun _ h=>nomatch h
theorem opCl (hst:St (jb w b1 b2 b3) h) {v:Value} (hv:v = .none∨vG v):Cl h 3 v:=by
 rcases hv with rfl | rfl | rfl | rfl | rfl
 ·exact ClL.cl (.inl rfl) _
 ·exact QU ⟨_,_,_,st775 hst⟩ (all_cons (ClL.cl (Jz _ _ (by decide +kernel) (by decide +kernel)) _) (all_cons (ClL.cl (Jz _ _ (by decide +kernel) (by decide +kernel)) _) (all_cons (QU ⟨_,_,_,st773 hst⟩ all_nil) (all_cons (QU ⟨_,_,_,st774 hst⟩ all_nil) (all_cons (ClL.cl (.inl rfl) _) all_nil)))))
 ·exact QU ⟨_,_,_,st777 hst⟩ (all_cons (ClL.cl (Jz _ _ (by decide +kernel) (by decide +kernel)) _) (all_cons (ClL.cl (.inr (.inr ⟨_,_,rfl⟩)) _) all_nil))
 ·exact QU ⟨_,_,_,st779 hst⟩ (all_cons (ClL.cl (Jz _ _ (by decide +kernel) (by decide +kernel)) _) (all_cons (ClL.cl (Jz _ _ (by decide +kernel) (by decide +kernel)) _) all_nil))
 ·exact QU ⟨_,_,_,st783 hst⟩ (all_cons (ClL.cl (Jz _ _ (by decide +kernel) (by decide +kernel)) _) (all_cons (ClL.cl (Jz _ _ (by decide +kernel) (by decide +kernel)) _) (all_cons (QU ⟨_,_,_,st781 hst⟩ (all_cons (ClL.cl (Jz _ _ (by decide +kernel) (by decide +kernel)) _) all_nil)) (all_cons (QU ⟨_,_,_,st782 hst⟩ all_nil) (all_cons (ClL.cl (.inl rfl) _) all_nil)))))
theorem kdCl {K:Str} (t:Tok) (hK:IsKd K):ClL (.str K t):=by
 obtain ⟨kd,rfl⟩:=kd_wd hK
 exact Jz _ _ kd.nobl fun q=>by have:=kd.ne;rw [q] at this;cases this
theorem at_mem {f:Row→List Value}:∀ {as:List Addr} {rs:List Row},At h f as rs→∀ x∈as.map Value.ref,∃ r∈rs,∃ a,x = .ref a∧qg h a (f r)
 |[],[],_,_,hx=>nomatch hx
 |a::as,r::rs,⟨⟨d,ep,sl,g⟩,q⟩,x,hx=>by
  cases hx with
  |head=>exact ⟨r,.head _,a,rfl,d,ep,sl,g⟩
  |tail _ hx =>
   obtain ⟨r',h1,h2⟩:=at_mem q x hx
   exact ⟨r',.tail _ h1,h2⟩
 |[],_::_,q,_,_=>q.elim
 |_::_,[],q,_,_=>q.elim
theorem rsTCl (hst:St (jb w b1 b2 b3) h) {X:Addr} {rs:List Row} (q:RsF h Row.tv Row.OkT X rs):Cl h 5 (.ref X):=by
 obtain ⟨⟨as,d,ep,sl,g,at_⟩,ho,_⟩:=q
 refine QU ⟨d,ep,sl,g⟩ fun x hx=>?_
 obtain ⟨r,hr,a,rfl,ga⟩:=at_mem at_ x hx
 have o:=ho r hr
 exact QU ga (all_cons (opCl hst (.inr (jG o.c))) (all_cons (ClL.cl (kdCl _ o.isKd) _) (all_cons (opCl hst (kdv o.k)) (all_cons (opCl hst (VR o.b).1) (all_cons (opCl hst (VR o.b).2) all_nil)))))
theorem rsRCl (hst:St (jb w b1 b2 b3) h) {X:Addr} {rs:List Row} (q:RsF h Row.rv Row.OkR X rs):Cl h 5 (.ref X):=by
 obtain ⟨⟨as,d,ep,sl,g,at_⟩,ho,_⟩:=q
 refine QU ⟨d,ep,sl,g⟩ fun x hx=>?_
 obtain ⟨r,hr,a,rfl,ga⟩:=at_mem at_ x hx
 have o:=ho r hr
 exact QU ga (all_cons (ClL.cl (kdCl _ o.kd) _) (all_cons (opCl hst (kdv o.k)) (all_cons (opCl hst (.inr o.c)) (all_cons (opCl hst (VR o.b).1) (all_cons (opCl hst (VR o.b).2) all_nil)))))
theorem StF.cl {tx:Str} {k:Nat} {S:Addr} {c:Value} (q:StF h k S c tx) (hst:St (jb w b1 b2 b3) h) (hc:vc c):∃ l,qg h S l∧∀ x∈l,Cl h 5 x:=by
 have oc:Cl h 5 c:=(opCl hst (.inr (jG hc))).succ.succ
 match k with
 |0 =>
  obtain ⟨X,Y,st,rs,rr,g,a,b,rfl⟩:=q
  exact ⟨_,g,all_cons (ClL.cl (Jz _ _ (by decide +kernel) (by decide +kernel)) _) (all_cons oc (all_cons (rsTCl hst a) (all_cons (rsRCl hst b) all_nil)))⟩
 |1 =>
  obtain ⟨X,st,rs,g,a,rfl⟩:=q
  exact ⟨_,g,all_cons (ClL.cl (Jz _ _ (by decide +kernel) (by decide +kernel)) _) (all_cons oc (all_cons (rsTCl hst a) all_nil))⟩
 |n+2 =>
  obtain ⟨Y,st,rr,g,b,rfl⟩:=q
  exact ⟨_,g,all_cons (ClL.cl (Jz _ _ (by decide +kernel) (by decide +kernel)) _) (all_cons oc (all_cons (rsRCl hst b) all_nil))⟩
theorem stNeH_ok:(stNeH k).Ok (cfg (jb w b1 b2 b3) lc hs) PW (jb w b1 b2 b3) h₀ ws:=by
 refine vn fun c m hint=>?_
 refine iCa fun _ b1=>iL2 fun _ _ b2=>iRf fun a b3=>iRf fun S b4=>iC2 fun i j hint b5=>iS fun p qp=>iPr fun p1 p2 b6=>iRf fun a1 b7=>iRf fun S1 b8=>iS fun d qd=>?_
 subst b1 b2 b3 b4 b5 b6 b7 b8
 refine iE ?_
 intro h hm hi hst hk hdq hoff hold A g dr tk os R hr k
 have z0:=hm 0 (Nat.le_refl _)
 have e1:a=a1:=z0.1 (a,a1) (.head _)
 have e2:S=S1:=yM z0.1 1
 have e3:S1=d.a:=yM z0.1 2
 have m1:vc d.c:=z0.2 _ (.head _)
 clear hm hi
 subst e1 e2 e3
 have FF:=st_facts qd (fun p hp=>z0.1 p (.tail _ (.tail _ (.tail _ hp)))) hk hdq
 have dq:Dq h (.ref a) (.ref d.a):=VJ hdq qp
 obtain ⟨l,⟨dS,eS,sS,gS⟩,cl⟩:=FF.cl hst m1
 obtain ⟨p,d',l',ep',sl',ep,gp,ql⟩:=Yk dq gS
 cases ep
 have hl:l'.length=l.length:=ql.len
 have ev:(!((List.range (min (⟨l'⟩:Array Value).size (⟨l⟩:Array Value).size)).all (fun _=>true) && (⟨l'⟩:Array Value).size == (⟨l⟩:Array Value).size))=false:=by simp [hl]
 refine vb F.slot_tuple_ne (T := "tuple") ⟨_,gp,rfl⟩ F.entry_tuple_ne (F.args_tuple_ne_2 _ _) (SeqAt.tuple_neAt a d.a ⟨l'⟩ ⟨l⟩ ep' eS d' dS sl' sS fun _=>true) ⟨gp,gS,fun j h1 h2=>?_,?_⟩
 ·have h1':j < l'.length:=h1
  have h2':j < l.length:=h2
  have hu:=hr.units
  exact eq_at (s:=⟨h,g,_,tk,os⟩) 5 (cl _ (List.getElem_mem h2')) (ql.at j l'[j] l[j] (List.getElem?_eq_getElem h1') (List.getElem?_eq_getElem h2')) (by show A.units+1+5 < cLine;omega)
 ·rw [ev]
  exact k _ h tk (Old.refl _ _) ⟨0,default,Nat.le_refl _,rfl,trivial,trivial,fun _ q=>(nomatch q),fun _ q=>(nomatch q)⟩
end
def tr_law (b1 b2 b3:Bool):Tr:=(match b2 with | true=>T [1,1,0,0,1,0,0,1,1,0,1,1,1,4,4,4,1,2,3,0,1,1,0,1,1,2,3,3,0,1,4,4,3,0,6,6,0,6,0,0,0,0,0,0,0,0,0,0] (T [0,0,0,0,0,4,2,1,0,1,1,1,0,1,1,1,0,1,1,1,2,1,1,1,0,1,1,1,2,1,1,1,0,1,1,1,2,1,1,1,11,11,11,11,0,11,0,5] (T [1,5,0,12,0,6,1,6,1,1,1,0,1,1,1,0,1,1,1,2,1,1,1,0,1,1,1,2,1,1,1,0,1,1,1,2,1,1,1,6,6,6,0,6,1,1,0,1] (T [1,1,7,1,1,1,0,1,1,1,7,1,1,1,0,1,1,1,7,1,1,1,20,20,20,20,8,8,8,0,8,1,1,0,1,1,1,9,1,1,1,0,1,1,1,9,1,1] (T [1,0,1,1,1,9,1,1,1,23,23,23,23,23,23,23,24,19,0,19,0,24,19,0,19,0,24,19,0,25,25,26,19,0,19,0,26,19,0,27,27,28,19,0,19,0,28,19] (T [0,30,30,30,1,1,0,1,1,0,1,0,1,1,1,2,1,1,1,7,7,7,0,7,1,1,0,1,1,1,8,1,1,1,0,1,1,1,8,1,1,1,0,1,1,1,8,1] (T [1,1,34,34,34,34,0,34,0,38,44,44,44,0,0,0,0,7,5,17,29,0,28,0,41,20,1,0,0,41,0,10,6,42,17,29,0,28,0,42,1,19,1,13,7,0,0,18] (T [30,0,29,0,0,12,0,12,12,12,13,12,12,12,16,16,16,0,16,1,1,0,1,1,1,17,1,1,1,0,1,1,1,17,1,1,1,0,1,1,1,17,1,1,1,45,45,45] (T [45,0,45,0,49,0,0,0,0,8,5,20,34,0,0,0,46,20,1,0,0,46,0,11,6,47,20,34,0,0,0,47,1,22,1,14,7,0,0,21,35,0,0,0,0,17,0,17] (T [17,17,18,17,17,17,19,19,19,0,19,1,1,0,1,1,1,20,1,1,1,0,1,1,1,20,1,1,1,0,1,1,1,20,1,1,1,50,50,50,50,0,50,0,54,0,0,0] (T [0,9,5,23,0,0,38,0,51,20,1,0,0,51,0,12,6,52,23,0,0,38,0,52,1,25,1,15,7,0,0,24,0,0,39,0,0,22,0,22,22,22,23,22,22,1,54,54] (T [56,56,56,58,58,60,61,62,62,64,64,64,1,1,1,1,64,64,66,21,1,3,0,0,67,4,4,0,4,1,0,0,3,0,3,3,3,7,3,3,1,1,0,1,0,0,1,1] (T [0,0,1,0,74,80,80,80,0,0,0,0,0,1,1,1,1,0,1,22,22,22,0,22,22,1,1,1,0,1,0,1,1,1,22,2,0,1,0,2,0,0,1,1,0,0,1,24] (T [24,24,0,24,24,0,18,0,19,0,19,0,1,1,1,24,24,24,0,24,24,0,1,0,1,24,24,24,0,24,24,0,0,1,1,0,2,2,0,2,0,0,1,1,0,0,0,1] (T [0,28,0,28,28,0,0,0,0,0,0,0,0,0,0,0,0,0,0,0,0,0,0,0,0,0,0,0,0,0,0,0,0,0,1,0,1,0,0,0,0,0,0,0,0,1,1,1] (T [1,1,1,0,0,0,0,1,1,0,2,0,2,0,3,3,3,2,2,3,0,0,0,0,0,0,3,0,3,0,3,0,0,0,0,0,3,0,4,1,1,1,3,3,4,0,0,0] (T [0,0,0,4,0,4,0,4,0,0,0,0,0,4,0,1,1,1,4,4,0,4,4,0,4,4,6,6,8,8,9,9,11,11,19,19,89,89,5,5,5,1,1,5,1,1,1,9] (T [6,6,6,1,1,6,1,1,1,11,7,7,7,1,1,7,1,1,1,14,8,8,8,1,1,8,1,1,1,23,9,9,9,1,1,0,0,0,0,0,9,0,0,9,1,1,21,1] (T [25,0,27,0,27,27,27,31,27,27,25,25,0,25,0,0,1,1,0,0,1,0,98,0,0,0,0,0,1,1,1,1,0,1,38,38,38,0,38,38,1,1,1,0,1,0,1,1] (T [1,22,2,0,1,0,2,0,0,1,1,0,0,1,40,40,40,0,40,40,0,18,0,19,0,19,0,1,1,1,40,40,40,0,40,40,0,1,0,1,40,40,40,0,40,40,0,16] (T [2,87,0,19,0,1,1,1,40,40,40,0,40,40,0,1,19,0,0,1,40,40,40,0,40,40,0,0,1,1,0,2,2,0,2,0,0,1,1,0,0,0,1,0,44,0,44,44] (T [0,0,0,0,0,0,0,0,0,0,0,0,0,0,0,0,0,0,0,0,0,0,0,0,0,0,0,0,0,1,0,1,0,0,0,0,0,0,0,0,1,1,1,1,1,1,0,0] (T [0,0,1,1,0,2,0,2,0,3,3,3,2,2,3,0,0,0,0,0,0,3,0,3,0,3,0,0,0,0,0,3,0,4,1,1,1,3,3,4,0,0,0,0,0,0,4,0] (T [4,0,4,0,0,0,0,0,4,0,1,1,1,4,4,0,4,4,0,4,4,6,6,8,8,9,9,11,11,13,13,107,5,5,5,1,1,5,1,1,1,9,6,6,6,1,1,6] (T [1,1,1,11,7,7,7,1,1,7,1,1,1,14,8,8,8,1,1,8,1,1,1,17,9,9,9,1,1,0,0,0,0,0,9,0,0,9,1,1,21,1,43,0,45,0,45,45] (T [45,49,45,45,43,43,0,43,0,0,1,1,0,0,1,0,116,0,0,0,0,0,1,1,1,1,0,1,54,54,54,0,54,54,1,1,1,0,1,0,1,1,1,22,2,0,1,0] (T [2,0,0,1,1,0,0,1,56,56,56,0,56,56,0,18,0,19,0,19,0,1,1,1,56,56,56,0,56,56,0,1,0,1,56,56,56,0,56,56,0,0,1,1,0,2,2,0] (T [2,0,0,1,1,0,0,0,1,0,60,0,60,60,0,0,0,0,0,0,0,0,0,0,0,0,0,0,0,0,0,0,0,0,0,0,0,0,0,0,0,0,0,1,0,1,0,0] (T [0,0,0,0,0,0,1,1,1,1,1,1,0,0,0,0,1,1,0,2,0,2,0,3,3,3,2,2,3,0,0,0,0,0,0,3,0,3,0,3,0,0,0,0,0,3,0,4] (T [1,1,1,3,3,4,0,0,0,0,0,0,4,0,4,0,4,0,0,0,0,0,4,0,1,1,1,4,4,0,4,4,0,4,4,6,6,8,8,9,9,11,11,13,13,125,5,5] (T [5,1,1,5,1,1,1,9,6,6,6,1,1,6,1,1,1,11,7,7,7,1,1,7,1,1,1,14,8,8,8,1,1,8,1,1,1,17,9,9,9,1,1,0,0,0,0,0] (T [9,0,0,9,1,1,21,1,61,0,63,0,63,63,63,67,63,63,61,61,0,61,0,0,1,1,0,0,1,0,134,0,0,0,0,0,1,1,1,1,0,1,71,71,71,0,71,71] (T [1,1,1,0,1,0,1,1,1,22,2,0,1,0,2,0,0,1,1,0,0,1,73,73,73,0,73,73,0,18,0,19,0,19,0,1,1,1,73,73,73,0,73,73,0,1,0,1] (T [73,73,73,0,73,73,0,0,1,1,0,2,2,0,2,0,0,1,1,0,0,0,1,0,83,0,83,83,0,1,83,83,0,83,1,0,1,0,1,1,1,84,1,1,1,85,85,85] (T [0,85,1,1,0,1,1,1,86,1,1,1,0,1,1,1,86,1,1,1,0,1,1,1,86,1,1,1,0,1,1,1,86,1,1,1,0,1,1,1,86,1,1,1,0,1,1,1] (T [86,1,1,1,7,7,7,7,7,7,7,7,7,7,7,6,6,6,6,0,0,7,7,0,0,1,1,1,1,0,1,0,1,0,0,0,0,0,0,0,0,0,0,0,0,0,0,0] (T [0,0,0,0,0,0,0,0,0,0,0,0,0,0,1,0,1,0,0,0,0,0,0,0,0,1,1,1,1,1,1,0,0,0,0,1,1,0,2,0,2,0,3,3,3,2,2,3] (T [0,0,0,0,0,0,3,0,3,0,3,0,0,0,0,0,3,0,4,1,1,1,3,3,4,0,0,0,0,0,0,4,0,4,0,4,0,0,0,0,0,4,0,1,1,1,4,4] (T [0,4,4,0,4,4,6,6,13,13,14,14,16,16,18,18,148,5,5,5,1,1,5,1,1,1,14,6,6,6,6,1,1,6,1,6,1,1,6,1,1,1,16,7,7,7,1,1] (T [7,1,1,1,19,8,8,8,1,1,8,1,1,1,22,9,9,9,1,1,0,0,0,0,0,9,0,0,9,1,1,21,1,84,0,86,0,86,86,86,90,86,86,84,84,0,84,0] (T [0,1,1,0,0,1,0,157,0,0,0,0,0,1,1,1,1,0,1,90,90,90,0,90,90,1,1,1,0,1,0,1,1,1,22,2,0,1,0,2,0,0,1,1,0,0,1,92] (T [92,92,0,92,92,0,18,0,19,0,19,0,1,1,1,92,92,92,0,92,92,0,1,0,1,92,92,92,0,92,92,0,0,1,1,0,2,2,0,2,0,0,1,1,0,0,0,1] (T [0,96,0,96,96,0,1,96,96,0,96,1,0,1,0,1,1,1,97,1,1,1,98,98,98,0,98,1,1,0,1,1,1,99,1,1,1,0,1,1,1,99,1,1,1,0,1,1] (T [1,99,1,1,1,0,1,1,1,99,1,1,1,0,1,1,1,99,1,1,1,0,1,1,1,99,1,1,1,7,7,7,7,7,7,7,7,7,7,7,6,6,6,6,0,0,7,0] (T [18,0,0,7,7,0,0,1,1,1,1,0,1,0,1,0,0,0,0,0,0,0,0,0,0,0,0,0,0,0,0,0,0,0,0,0,0,0,0,0,0,0,0,0,1,0,1,0] (T [0,0,0,0,0,0,0,1,1,1,1,1,1,0,0,0,0,1,1,0,2,0,2,0,3,3,3,2,2,3,0,0,0,0,0,0,3,0,3,0,3,0,0,0,0,0,3,0] (T [4,1,1,1,3,3,4,0,0,0,0,0,0,4,0,4,0,4,0,0,0,0,0,4,0,1,1,1,4,4,0,4,4,0,4,4,6,6,13,13,14,14,16,16,18,18,171,5] (T [5,5,1,1,5,1,1,1,14,6,6,6,6,1,1,6,1,6,1,1,6,1,1,1,16,7,7,7,1,1,7,1,1,1,19,8,8,8,1,1,8,1,1,1,22,9,9,9] (T [1,1,0,0,0,0,0,9,0,0,9,1,1,21,1,107,0,109,0,109,109,109,113,109,109,1,109,109,109,0,110,110,0,110,1,1,0,1,1,1,111,1,1,1,0,1,1,1] (T [111,1,1,1,0,1,1,1,111,1,1,1,0,1,1,1,111,1,1,1,0,1,1,1,111,1,1,1,0,1,1,1,111,1,1,1] .nil))))))))))))))))))))))))))))))))))))))))))))))))) | false=>T [1,1,0,0,1,0,0,1,1,0,1,1,1,4,4,4,1,2,3,0,1,1,0,1,1,2,3,3,0,1,4,4,3,0,6,6,0,6,0,0,0,0,0,0,0,0,0,0] (T [0,0,0,0,0,4,2,1,0,1,1,1,0,1,1,1,0,1,1,1,2,1,1,1,0,1,1,1,2,1,1,1,0,1,1,1,2,1,1,1,11,11,11,11,0,11,0,5] (T [1,5,0,12,0,6,1,6,1,1,1,0,1,1,1,0,1,1,1,2,1,1,1,0,1,1,1,2,1,1,1,0,1,1,1,2,1,1,1,6,6,6,0,6,1,1,0,1] (T [1,1,7,1,1,1,0,1,1,1,7,1,1,1,0,1,1,1,7,1,1,1,20,20,20,20,8,8,8,0,8,1,1,0,1,1,1,9,1,1,1,0,1,1,1,9,1,1] (T [1,0,1,1,1,9,1,1,1,23,23,23,23,23,23,23,24,19,0,19,0,24,19,0,19,0,24,19,0,25,25,26,19,0,19,0,26,19,0,27,27,28,19,0,19,0,28,19] (T [0,30,30,30,1,1,0,1,1,0,1,0,1,1,1,2,1,1,1,7,7,7,0,7,1,1,0,1,1,1,8,1,1,1,0,1,1,1,8,1,1,1,0,1,1,1,8,1] (T [1,1,34,34,34,34,0,34,0,38,44,44,44,0,0,0,0,7,5,17,29,0,28,0,41,20,1,0,0,41,0,10,6,42,17,29,0,28,0,42,1,19,1,13,7,0,0,18] (T [30,0,29,0,0,12,0,12,12,12,13,12,12,12,16,16,16,0,16,1,1,0,1,1,1,17,1,1,1,0,1,1,1,17,1,1,1,0,1,1,1,17,1,1,1,45,45,45] (T [45,0,45,0,49,0,0,0,0,8,5,20,34,0,0,0,46,20,1,0,0,46,0,11,6,47,20,34,0,0,0,47,1,22,1,14,7,0,0,21,35,0,0,0,0,17,0,17] (T [17,17,18,17,17,17,19,19,19,0,19,1,1,0,1,1,1,20,1,1,1,0,1,1,1,20,1,1,1,0,1,1,1,20,1,1,1,50,50,50,50,0,50,0,54,0,0,0] (T [0,9,5,23,0,0,38,0,51,20,1,0,0,51,0,12,6,52,23,0,0,38,0,52,1,25,1,15,7,0,0,24,0,0,39,0,0,22,0,22,22,22,23,22,22,1,54,54] (T [56,56,56,58,58,60,61,62,62,64,64,64,1,1,1,1,64,64,66,21,1,3,0,0,67,4,4,0,4,1,0,3,3,0,3,3,0,3,0,3,3,3,7,3,3,1,1,0] (T [1,0,0,1,1,0,0,1,0,74,80,80,80,0,0,0,0,0,1,1,1,1,0,1,22,22,22,0,22,22,1,1,1,0,1,0,1,1,1,22,2,0,1,0,2,0,0,1] (T [1,0,0,1,24,24,24,0,24,24,0,18,0,19,0,19,0,1,1,1,24,24,24,0,24,24,0,1,0,1,24,24,24,0,24,24,0,0,1,1,0,2,2,0,2,0,0,1] (T [1,0,0,0,1,0,28,0,28,28,0,0,0,0,0,0,0,0,0,0,0,0,0,0,0,0,0,0,0,0,0,0,0,0,0,0,0,0,0,1,0,1,0,0,0,0,0,0] (T [0,0,1,1,1,1,1,1,0,0,0,0,1,1,0,2,0,2,0,3,3,3,2,2,3,0,0,0,0,0,0,3,0,3,0,3,0,0,0,0,0,3,0,4,1,1,1,3] (T [3,4,0,0,0,0,0,0,4,0,4,0,4,0,0,0,0,0,4,0,1,1,1,4,4,0,4,4,0,4,4,6,6,8,8,9,9,11,11,19,19,89,89,5,5,5,1,1] (T [5,1,1,1,9,6,6,6,1,1,6,1,1,1,11,7,7,7,1,1,7,1,1,1,14,8,8,8,1,1,8,1,1,1,23,9,9,9,1,1,0,0,0,0,0,9,0,0] (T [9,1,1,21,1,25,0,27,0,27,27,27,31,27,27,25,25,0,25,0,0,1,1,0,0,1,0,98,0,0,0,0,0,1,1,1,1,0,1,38,38,38,0,38,38,1,1,1] (T [0,1,0,1,1,1,22,2,0,1,0,2,0,0,1,1,0,0,1,40,40,40,0,40,40,0,18,0,19,0,19,0,1,1,1,40,40,40,0,40,40,0,1,0,1,40,40,40] (T [0,40,40,0,16,2,87,0,19,0,1,1,1,40,40,40,0,40,40,0,1,19,0,0,1,40,40,40,0,40,40,0,0,1,1,0,2,2,0,2,0,0,1,1,0,0,0,1] (T [0,44,0,44,44,0,0,0,0,0,0,0,0,0,0,0,0,0,0,0,0,0,0,0,0,0,0,0,0,0,0,0,0,0,1,0,1,0,0,0,0,0,0,0,0,1,1,1] (T [1,1,1,0,0,0,0,1,1,0,2,0,2,0,3,3,3,2,2,3,0,0,0,0,0,0,3,0,3,0,3,0,0,0,0,0,3,0,4,1,1,1,3,3,4,0,0,0] (T [0,0,0,4,0,4,0,4,0,0,0,0,0,4,0,1,1,1,4,4,0,4,4,0,4,4,6,6,8,8,9,9,11,11,13,13,107,5,5,5,1,1,5,1,1,1,9,6] (T [6,6,1,1,6,1,1,1,11,7,7,7,1,1,7,1,1,1,14,8,8,8,1,1,8,1,1,1,17,9,9,9,1,1,0,0,0,0,0,9,0,0,9,1,1,21,1,43] (T [0,45,0,45,45,45,49,45,45,43,43,0,43,0,0,1,1,0,0,1,0,116,0,0,0,0,0,1,1,1,1,0,1,54,54,54,0,54,54,1,1,1,0,1,0,1,1,1] (T [22,2,0,1,0,2,0,0,1,1,0,0,1,56,56,56,0,56,56,0,18,0,19,0,19,0,1,1,1,56,56,56,0,56,56,0,1,0,1,56,56,56,0,56,56,0,0,1] (T [1,0,2,2,0,2,0,0,1,1,0,0,0,1,0,60,0,60,60,0,0,0,0,0,0,0,0,0,0,0,0,0,0,0,0,0,0,0,0,0,0,0,0,0,0,0,0,0] (T [1,0,1,0,0,0,0,0,0,0,0,1,1,1,1,1,1,0,0,0,0,1,1,0,2,0,2,0,3,3,3,2,2,3,0,0,0,0,0,0,3,0,3,0,3,0,0,0] (T [0,0,3,0,4,1,1,1,3,3,4,0,0,0,0,0,0,4,0,4,0,4,0,0,0,0,0,4,0,1,1,1,4,4,0,4,4,0,4,4,6,6,8,8,9,9,11,11] (T [13,13,125,5,5,5,1,1,5,1,1,1,9,6,6,6,1,1,6,1,1,1,11,7,7,7,1,1,7,1,1,1,14,8,8,8,1,1,8,1,1,1,17,9,9,9,1,1] (T [0,0,0,0,0,9,0,0,9,1,1,21,1,61,0,63,0,63,63,63,67,63,63,61,61,0,61,0,0,1,1,0,0,1,0,134,0,0,0,0,0,1,1,1,1,0,1,71] (T [71,71,0,71,71,1,1,1,0,1,0,1,1,1,22,2,0,1,0,2,0,0,1,1,0,0,1,73,73,73,0,73,73,0,18,0,19,0,19,0,1,1,1,73,73,73,0,73] (T [73,0,1,0,1,73,73,73,0,73,73,0,0,1,1,0,2,2,0,2,0,0,1,1,0,0,0,1,0,83,0,83,83,0,1,83,83,0,83,1,0,1,0,1,1,1,84,1] (T [1,1,85,85,85,0,85,1,1,0,1,1,1,86,1,1,1,0,1,1,1,86,1,1,1,0,1,1,1,86,1,1,1,0,1,1,1,86,1,1,1,0,1,1,1,86,1,1] (T [1,0,1,1,1,86,1,1,1,7,7,7,7,7,7,7,7,7,7,7,6,6,6,6,0,0,7,7,0,0,1,1,1,1,0,1,0,1,0,0,0,0,0,0,0,0,0,0] (T [0,0,0,0,0,0,0,0,0,0,0,0,0,0,0,0,0,0,0,1,0,1,0,0,0,0,0,0,0,0,1,1,1,1,1,1,0,0,0,0,1,1,0,2,0,2,0,3] (T [3,3,2,2,3,0,0,0,0,0,0,3,0,3,0,3,0,0,0,0,0,3,0,4,1,1,1,3,3,4,0,0,0,0,0,0,4,0,4,0,4,0,0,0,0,0,4,0] (T [1,1,1,4,4,0,4,4,0,4,4,6,6,13,13,14,14,16,16,18,18,148,5,5,5,1,1,5,1,1,1,14,6,6,6,6,1,1,6,1,6,1,1,6,1,1,1,16] (T [7,7,7,1,1,7,1,1,1,19,8,8,8,1,1,8,1,1,1,22,9,9,9,1,1,0,0,0,0,0,9,0,0,9,1,1,21,1,84,0,86,0,86,86,86,90,86,86] (T [84,84,0,84,0,0,1,1,0,0,1,0,157,0,0,0,0,0,1,1,1,1,0,1,90,90,90,0,90,90,1,1,1,0,1,0,1,1,1,22,2,0,1,0,2,0,0,1] (T [1,0,0,1,92,92,92,0,92,92,0,18,0,19,0,19,0,1,1,1,92,92,92,0,92,92,0,1,0,1,92,92,92,0,92,92,0,0,1,1,0,2,2,0,2,0,0,1] (T [1,0,0,0,1,0,96,0,96,96,0,1,96,96,0,96,1,0,1,0,1,1,1,97,1,1,1,98,98,98,0,98,1,1,0,1,1,1,99,1,1,1,0,1,1,1,99,1] (T [1,1,0,1,1,1,99,1,1,1,0,1,1,1,99,1,1,1,0,1,1,1,99,1,1,1,0,1,1,1,99,1,1,1,7,7,7,7,7,7,7,7,7,7,7,6,6,6] (T [6,0,0,7,0,18,0,0,7,7,0,0,1,1,1,1,0,1,0,1,0,0,0,0,0,0,0,0,0,0,0,0,0,0,0,0,0,0,0,0,0,0,0,0,0,0,0,0] (T [0,1,0,1,0,0,0,0,0,0,0,0,1,1,1,1,1,1,0,0,0,0,1,1,0,2,0,2,0,3,3,3,2,2,3,0,0,0,0,0,0,3,0,3,0,3,0,0] (T [0,0,0,3,0,4,1,1,1,3,3,4,0,0,0,0,0,0,4,0,4,0,4,0,0,0,0,0,4,0,1,1,1,4,4,0,4,4,0,4,4,6,6,13,13,14,14,16] (T [16,18,18,171,5,5,5,1,1,5,1,1,1,14,6,6,6,6,1,1,6,1,6,1,1,6,1,1,1,16,7,7,7,1,1,7,1,1,1,19,8,8,8,1,1,8,1,1] (T [1,22,9,9,9,1,1,0,0,0,0,0,9,0,0,9,1,1,21,1,107,0,109,0,109,109,109,113,109,109,1,109,109,109,0,110,110,0,110,1,1,0,1,1,1,111,1,1] (T [1,0,1,1,1,111,1,1,1,0,1,1,1,111,1,1,1,0,1,1,1,111,1,1,1,0,1,1,1,111,1,1,1,0,1,1,1,111,1,1,1] .nil))))))))))))))))))))))))))))))))))))))))))))))))))
theorem ok844 (w:World):vH (ktP w) 844=true:=by kernel_rfl
theorem off834 (w:World):(ktP w).get 834=none:=by kernel_rfl
theorem off841 (w:World):(ktP w).get 841=none:=by kernel_rfl
theorem penL_new (z:Int) (a b c:Nat):Qi 1 [.int z a,.int 0 b,.int (z.fmod 999979) c] :=
 ⟨⟨z,0,z.fmod 999979⟩,a,b,c,rfl,Int.le_refl 0,by show (0:Int)≤1;decide,Int.fmod_nonneg_of_pos _ (by decide),Int.lt_trans (Int.fmod_lt_of_pos _ (by decide)) (by decide)⟩
theorem shownLaw {w:World} {h:Heap} {L le:Nat} {l:List Value} (hst:St w h) (gL:h.get? L=some (lsO l le)) (g1:h.get? 829=some VV) (g2:h.get? 834=some VV) (g3:h.get? 841=some VV) :
  jl w [829,834,841] [⟨L,lsO l le,false,[]⟩,⟨829,VV,true,[]⟩,⟨834,VV,true,[]⟩,⟨841,VV,true,[]⟩] h:=by
 have n1:=yi g1 gL (fun e=>nomatch e)
 have n2:=yi g2 gL (fun e=>nomatch e)
 have n3:=yi g3 gL (fun e=>nomatch e)
 have all:∀ (p:En→Prop),p ⟨L,lsO l le,false,[]⟩→p ⟨829,VV,true,[]⟩→p ⟨834,VV,true,[]⟩→p ⟨841,VV,true,[]⟩→∀ e∈[⟨L,lsO l le,false,[]⟩,⟨829,VV,true,[]⟩,⟨834,VV,true,[]⟩,⟨841,VV,true,[]⟩],p e:=fun p a b c d e he=>by
  simp only [List.mem_cons,List.not_mem_nil,or_false] at he
  rcases he with rfl | rfl | rfl | rfl <;> assumption
 refine ⟨hst,all _ gL g1 g2 g3,all _ (fun _ q=>nomatch q) (fun _ q=>nomatch q) (fun _ q=>nomatch q) (fun _ q=>nomatch q),fun i j x y hx hy hw hij=>?_,
  all _ (fun q=>nomatch q) (fun _=>off829 w) (fun _=>off834 w) (fun _=>off841 w),all _ (fun q=>nomatch q) (fun _=>by simp) (fun _=>by simp) (fun _=>by simp)⟩
 match i,j,hx,hy with
 |0,_,hx,_=>cases hx;cases hw
 |1,1,_,_ | 2,2,_,_ | 3,3,_,_=>exact absurd rfl hij
 |1,0,hx,hy=>cases hx;cases hy;exact n1
 |2,0,hx,hy=>cases hx;cases hy;exact n2
 |3,0,hx,hy=>cases hx;cases hy;exact n3
 |1,2,hx,hy=>cases hx;cases hy;exact fun e=>absurd e (by decide)
 |1,3,hx,hy=>cases hx;cases hy;exact fun e=>absurd e (by decide)
 |2,1,hx,hy=>cases hx;cases hy;exact fun e=>absurd e (by decide)
 |2,3,hx,hy=>cases hx;cases hy;exact fun e=>absurd e (by decide)
 |3,1,hx,hy=>cases hx;cases hy;exact fun e=>absurd e (by decide)
 |3,2,hx,hy=>cases hx;cases hy;exact fun e=>absurd e (by decide)
 |_+4,_,hx,_=>cases hx
 |1,_+4,_,hy | 2,_+4,_,hy | 3,_+4,_,hy=>cases hy
def tb? (o:Obj):Bool:=(fld? o).isSome
def TbAt (h:Heap) (a:Addr):Prop:=∃ vs,h.get? a=some ⟨.none,none,.fields vs,#[]⟩
theorem tb_eq {o:Obj} (h:tb? o=true):∃ vs,o=⟨.none,none,.fields vs,#[]⟩:=by
 obtain ⟨l,q⟩:=Option.isSome_iff_exists.mp h
 exact ⟨_,fld_eq q⟩
def tbR (m:List En) (j:Nat):Option (Addr×Bool):=match m.reverse[j]? with
 |some e=>some (e.a,tb? e.o)
 |none=>none
theorem Ka {C:Cfg} {h₀ h':Heap} {ws:List Addr} {m:List En} {n j:Nat} {a:Addr} (D:Rp C h₀ ws m n h') (e:tbR m j=some (a,true)):TbAt h' a:=by
 unfold tbR at e
 split at e
 ·rename_i x hx
  simp only [Option.some.injEq,Prod.mk.injEq] at e
  obtain ⟨rfl,e2⟩:=e
  obtain ⟨vs,q⟩:=tb_eq e2
  exact ⟨vs,by rw [←q];exact D.known x (List.mem_reverse.mp (List.mem_of_getElem? hx))⟩
 ·cases e
def LawPost (r:Result) (h':Heap):Prop:=r = .ok (.ret (.bool true))∧TbAt h' 829∧TbAt h' 834∧TbAt h' 841
theorem lawEnd {C:Cfg} {h₀ h':Heap} {ws:List Addr} {r:Result} {m:List En} {n:Nat} (e:(vd r,tbR m 2,tbR m 1,tbR m 0)=(.ret (.bool true),some (829,true),some (834,true),some (841,true))) (D:Rp C h₀ ws m n h'):LawPost r h':=by
 simp only [Prod.mk.injEq] at e
 exact ⟨jm e.1,Ka D e.2.1,Ka D e.2.2.1,Ka D e.2.2.2⟩
section
variable {w:World} {b1 b2 b3:Bool} {h:Heap} {L le:Nat} {l:List Value}
theorem law_run (hst:St (jb w b1 b2 b3) h) (gL:h.get? L=some (lsO l le)) (g1:h.get? 829=some VV) (g2:h.get? 834=some VV) (g3:h.get? 841=some VV) (hi:∀ v∈l,IsI v) (hl:l.length≤1000) : SaysG (jb w b1 b2 b3) 23 (.call (.ref 844) ⟨[.ref L],[]⟩) h [829,834,841] (LawPost):=by
 have c8:Str.length "INSPECT " = 8:=rfl
 have c1:Str.length " " = 1:=rfl
 refine says_fnGb (hooks:=[sl30H,plH 1000,imodH,lawPickH,lawTalH,lawRepH,showSH 0,showSH 1,showSH 2,YD 0,YD 1,YD 2,stNeH 0,stNeH 1,stNeH 2,Yr 447 1000000002,Yr 454 1000000003,Jq,QT,neH,VW,inH]) (hkc sl30H_ok (hkc (plH_ok fun G a b=>pl_says 1000 G a b) (hkc imodH_ok (hkc lawPickH_ok (hkc lawTalH_ok (hkc lawRepH_ok (hkc Kd (hkc Kd (hkc Kd (hkc Vl (hkc Vl (hkc Vl (hkc stNeH_ok (hkc stNeH_ok (hkc stNeH_ok (hkc showTwH_ok (hkc showRrH_ok (hkc yD (hkc vS (hkc Jk (hkc yr (hkc inH_ok hkn)))))))))))))))))))))) (fuel:=100000) (tr:=fun b1=>tr_law b1 b2 b3) (ok844 _) (shownLaw hst gL g1 g2 g3) fun n tk os bs hn=>?_
 exact jj (fun r m=>(vd r,tbR m 2,tbR m 1,tbR m 0)) (fun r m=>(.ret (.bool true),some (829,true),some (834,true),some (841,true))) (ps:=[(true,∀ (v:Value),v∈l→IsI v),(true,l.length≤1000),(false,(∀ (v:Value),v∈(os 1).vs→IsI v)∧(os 1).vs.length≤1000),(true,JF (n+846) (os 0).n=JF (n+846) (os 0).n),(true,∀ (v:Value),v∈List.drop 0 (os 1).vs→IsI v),(true,(List.drop 0 (os 1).vs).length≤1000),yt,(true,(0:Int) < 999979),(true,Qi 1 [Value.int (os 3).z (os 3).n,Value.int 0 (os 2).n2,Value.int ((os 3).z.fmod 999979) (os 6).n]),(true,(os 4).n+1=(os 4).n+1),(false,Qi 2 (os 8).vs∧Jp true (Value.ref (os 8).n) (os 8).s),(true,Qi 2 (os 8).vs),(false,Qi 22 (os 10).vs∧(os 10).s.length≤700),(true,Qi 22 (os 10).vs),(false,Qi 42 (os 12).vs∧(os 12).s.length≤700),(true,jk [Str.ofString "INSPECT ",(os 8).s]),(true,jk [Str.ofString "INSPECT "++(os 8).s,Str.ofString " "]),(true,jk [Str.ofString "INSPECT "++(os 8).s++Str.ofString " ",(os 10).s]),(true,jk [Str.ofString "INSPECT "++(os 8).s++Str.ofString " "++(os 10).s,Str.ofString " "]),(true,jk [Str.ofString "INSPECT "++(os 8).s++Str.ofString " "++(os 10).s++Str.ofString " ",(os 12).s]),(true,jk [Str.ofString "INSPECT ",(os 8).s]),(true,jk [Str.ofString "INSPECT "++(os 8).s,Str.ofString " "]),(true,jk [Str.ofString "INSPECT "++(os 8).s++Str.ofString " ",(os 10).s]),(true,jk [Str.ofString "INSPECT ",(os 8).s]),(true,jk [Str.ofString "INSPECT "++(os 8).s,Str.ofString " "]),(true,jk [Str.ofString "INSPECT "++(os 8).s++Str.ofString " ",(os 12).s]),(true,vc (Value.ref (os 8).n)),yt,(true,Str.ofString "INSPECT "++opT (Value.ref (os 8).n)++Str.ofString " "++(os 10).s++Str.ofString " "++(os 12).s=Str.ofString "INSPECT "++(os 8).s++Str.ofString " "++(os 10).s++Str.ofString " "++(os 12).s),(true,vc (Value.ref (os 8).n)),(true,Str.ofString "INSPECT "++(os 8).s++Str.ofString " "++(os 10).s++Str.ofString " "++(os 12).s=Str.ofString "INSPECT "++opT (Value.ref (os 8).n)++Str.ofString " "++(os 10).s++Str.ofString " "++(os 12).s),yt,(true,vc (Value.ref (os 8).n)),yt,(true,vc (Value.ref (os 8).n)),yt,(true,Str.ofString "INSPECT "++opT (Value.ref (os 8).n)++Str.ofString " "++(os 10).s=Str.ofString "INSPECT "++(os 8).s++Str.ofString " "++(os 10).s),(true,vc (Value.ref (os 8).n)),(true,Str.ofString "INSPECT "++(os 8).s++Str.ofString " "++(os 10).s=Str.ofString "INSPECT "++opT (Value.ref (os 8).n)++Str.ofString " "++(os 10).s),yt,(true,vc (Value.ref (os 8).n)),yt,(true,vc (Value.ref (os 8).n)),yt,(true,Str.ofString "INSPECT "++opT (Value.ref (os 8).n)++Str.ofString " "++(os 12).s=Str.ofString "INSPECT "++(os 8).s++Str.ofString " "++(os 12).s),(true,vc (Value.ref (os 8).n)),(true,Str.ofString "INSPECT "++(os 8).s++Str.ofString " "++(os 12).s=Str.ofString "INSPECT "++opT (Value.ref (os 8).n)++Str.ofString " "++(os 12).s),yt,(true,vc (Value.ref (os 8).n)),yt,(true,([Value.ref ((os 71).n+5),Value.ref ((os 71).n+7),Value.ref ((os 71).n+9),Value.ref ((os 71).n+10)]:List Value).length≤1000),yt,(true,Str.ofString "tally"∈[Str.ofString "tally",Str.ofString "replace",Str.ofString "tally-replace"]),(true,vc (Value.ref (os 8).n)),(true,jk [Str.ofString "INSPECT ",opT (Value.ref (os 8).n)]),(true,jk [Str.ofString "INSPECT "++opT (Value.ref (os 8).n),Str.ofString " "]),(true,([]:List Value).length≤1000),yt,(true,Str.ofString "tally-replace"∈[Str.ofString "tally",Str.ofString "replace",Str.ofString "tally-replace"]),(true,vc (Value.ref (os 8).n)),(true,jk [Str.ofString "INSPECT ",opT (Value.ref (os 8).n)]),(true,jk [Str.ofString "INSPECT "++opT (Value.ref (os 8).n),Str.ofString " "]),yt,(true,jk [Str.ofString "INSPECT "++opT (Value.ref (os 8).n)++Str.ofString " ",(os 10).s]),(true,jk [Str.ofString "INSPECT "++opT (Value.ref (os 8).n)++Str.ofString " "++(os 10).s,Str.ofString " "]),(true,(([]:List Value)++[Value.bool true]).length≤1000),yt,(true,Str.ofString "tally-replace"∈[Str.ofString "tally",Str.ofString "replace",Str.ofString "tally-replace"]),(true,vc (Value.ref (os 8).n)),(true,jk [Str.ofString "INSPECT ",opT (Value.ref (os 8).n)]),(true,jk [Str.ofString "INSPECT "++opT (Value.ref (os 8).n),Str.ofString " "]),(true,(([]:List Value)++[Value.bool true]++[Value.bool true]).length≤1000),yt,(true,Str.ofString "replace"∈[Str.ofString "tally",Str.ofString "replace",Str.ofString "tally-replace"]),(true,vc (Value.ref (os 8).n)),(true,jk [Str.ofString "INSPECT ",opT (Value.ref (os 8).n)]),(true,jk [Str.ofString "INSPECT "++opT (Value.ref (os 8).n),Str.ofString " "]),(true,(([]:List Value)++[Value.bool true]++[Value.bool true]++[Value.bool true]).length≤1000),yt,(true,Str.ofString "tally-replace"∈[Str.ofString "tally",Str.ofString "replace",Str.ofString "tally-replace"]),(true,vc (Value.ref (os 8).n)),(true,jk [Str.ofString "INSPECT ",opT (Value.ref (os 8).n)]),(true,jk [Str.ofString "INSPECT "++opT (Value.ref (os 8).n),Str.ofString " "]),(true,vc (Value.ref (os 8).n)),(true,(([]:List Value)++[Value.bool true]++[Value.bool true]++[Value.bool true]++[Value.bool true]).length≤1000),yt]) (by cases b2 <;> kernel_rfl) (by cases b2 <;> kernel_rfl) (fun _ kT=>⟨hi,⟨hl,fun q0=>⟨rfl,⟨q0.1,⟨q0.2,fun _=>⟨(by decide),⟨(penL_new _ _ _ _),⟨rfl,fun q1=>have L1:=opLen _ q1.2.1;have L0:(os 8).s.length≤10:=q1.2.2 ▸ L1;⟨q1.1,fun q2=>have L2:=q2.2;⟨q2.1,fun q3=>have L3:=q3.2;⟨(sm2 (by (try simp only [Str.length_append]);omega)),⟨(sm2 (by (try simp only [Str.length_append]);omega)),⟨(sm2 (by (try simp only [Str.length_append]);omega)),⟨(sm2 (by (try simp only [Str.length_append]);omega)),⟨(sm2 (by (try simp only [Str.length_append]);omega)),⟨(sm2 (by (try simp only [Str.length_append]);omega)),⟨(sm2 (by (try simp only [Str.length_append]);omega)),⟨(sm2 (by (try simp only [Str.length_append]);omega)),⟨(sm2 (by (try simp only [Str.length_append]);omega)),⟨(sm2 (by (try simp only [Str.length_append]);omega)),⟨(sm2 (by (try simp only [Str.length_append]);omega)),⟨q1.2.1,fun _=>⟨(by rw [q1.2.2]),⟨q1.2.1,⟨(by rw [q1.2.2]),fun _=>⟨q1.2.1,fun _=>⟨q1.2.1,fun _=>⟨(by rw [q1.2.2]),⟨q1.2.1,⟨(by rw [q1.2.2]),fun _=>⟨q1.2.1,fun _=>⟨q1.2.1,fun _=>⟨(by rw [q1.2.2]),⟨q1.2.1,⟨(by rw [q1.2.2]),fun _=>⟨q1.2.1,fun _=>⟨(Nat.le_of_ble_eq_true rfl),fun _=>⟨(by decide +kernel),⟨q1.2.1,⟨(sm2 (by (try simp only [Str.length_append]);omega)),⟨(sm2 (by (try simp only [Str.length_append]);omega)),⟨(Nat.le_of_ble_eq_true rfl),fun _=>⟨(by decide +kernel),⟨q1.2.1,⟨(sm2 (by (try simp only [Str.length_append]);omega)),⟨(sm2 (by (try simp only [Str.length_append]);omega)),fun _=>⟨(sm2 (by (try simp only [Str.length_append]);omega)),⟨(sm2 (by (try simp only [Str.length_append]);omega)),⟨(Nat.le_of_ble_eq_true rfl),fun _=>⟨(by decide +kernel),⟨q1.2.1,⟨(sm2 (by (try simp only [Str.length_append]);omega)),⟨(sm2 (by (try simp only [Str.length_append]);omega)),⟨(Nat.le_of_ble_eq_true rfl),fun _=>⟨(by decide +kernel),⟨q1.2.1,⟨(sm2 (by (try simp only [Str.length_append]);omega)),⟨(sm2 (by (try simp only [Str.length_append]);omega)),⟨(Nat.le_of_ble_eq_true rfl),fun _=>⟨(by decide +kernel),⟨q1.2.1,⟨(sm2 (by (try simp only [Str.length_append]);omega)),⟨(sm2 (by (try simp only [Str.length_append]);omega)),⟨q1.2.1,⟨(Nat.le_of_ble_eq_true rfl),fun _=>kT fun r m n tk e h' D'=>lawEnd e D'⟩⟩⟩⟩⟩⟩⟩⟩⟩⟩⟩⟩⟩⟩⟩⟩⟩⟩⟩⟩⟩⟩⟩⟩⟩⟩⟩⟩⟩⟩⟩⟩⟩⟩⟩⟩⟩⟩⟩⟩⟩⟩⟩⟩⟩⟩⟩⟩⟩⟩⟩⟩⟩⟩⟩⟩⟩⟩⟩⟩⟩⟩⟩⟩⟩)
end
noncomputable def nodes:KT→Nat→Nat→Frag
 |.nil,_,_=>[]
 |.node v l r,s,b=>match v with
  |some o=>(b,o)::(nodes l (2 * s) (s+b)++nodes r (2 * s) (2 * s+b))
  |none=>nodes l (2 * s) (s+b)++nodes r (2 * s) (2 * s+b)
theorem JT {h:Heap}:∀ {a b:Frag},AllIn h (a++b)→AllIn h a∧AllIn h b
 |[],_,A=>⟨trivial,A⟩
 |_::_,_,A=>⟨⟨A.1,(JT A.2).1⟩,(JT A.2).2⟩
theorem Jw {h:Heap}:∀ {t:KT} {s b:Nat},AllIn h (nodes t s b)→KT.Holds h s b t
 |.nil,_,_,_=>trivial
 |.node none _ _,_,_,A=>⟨(fun _ q=>nomatch q),Jw (JT A).1,Jw (JT A).2⟩
 |.node (some _) _ _,_,_,A=>⟨fun _ q=>by cases q;exact A.1,Jw (JT A.2).1,Jw (JT A.2).2⟩
theorem frag_nodes (P:Params):nodes (ktOf P) 1 0=frag P:=by kernel_rfl
theorem kt_holds {h:Heap} {P:Params} (A:AllIn h (frag P)):KT.Holds h 1 0 (ktOf P):=Jw (frag_nodes P ▸ A)
theorem name_law:KB.1.name=Str.ofString "law":=by kernel_rfl
theorem ints_is {vs:List Value} {ns:List Int} (hI:IntsAre vs ns):∀ v∈vs,IsI v:=by
 induction hI with
 |nil=>exact fun _ h=>nomatch h
 |cons n t _ ih =>
  intro v hv
  cases hv with
  |head=>exact ⟨n,t,rfl⟩
  |tail _ hv=>exact ih v hv
theorem nsLaw (P:Params) {h:Heap} (g:h.get? 3=some (k_3 P)):(h.isNs 3,h.nsMap 3 "law")=(true,some (.ref 844)):=by
 unfold Heap.isNs Heap.nsMap
 rw [g]
 kernel_rfl
noncomputable def cell11 (o:Obj):Option Value:=match o.data with
 |.fields vs=>vs[11]?
 |_=>none
theorem codeTab {h:Heap} {c b:Addr} {o:Obj} (g:h.get? c=some o) (e:(o.cls,cell11 o)=(Value.type "code",some (.ref b))):isCodeTable h b:=by
 simp only [Prod.mk.injEq] at e
 unfold cell11 at e
 split at e
 ·rename_i vs q
  exact ⟨c,o,vs,g,e.1,q,e.2⟩
 ·cases e.2
theorem walk:WalkX qv loose (fun _ _=>True) (obsZ Vt) (valZ Kz 845 1372) LW.row.toRowW KB.1 KB.2 fun f vs=>PySem.call f vs:=by
 intro w s₀ s₁ mg mb G Y fa o pm cd doc dV kV ho hd hcd hD hmg hg args vals as L hpre hlay hrd hwl hlo
 have Z:=z_facts (K:=Kz) (as:=Vt) (fun P=>by kernel_rfl) Y
 have A:AllIn s₀.heap ((829,fldO)::(834,fldO)::(841,fldO)::frag w.params):=Z.1
 obtain ⟨f1,f2,f3,A⟩:=A
 have H:=kt_holds A
 have kp:=L.keeps
 have hst:St w s₁.heap:=fun a o e=>kp _ _ (kt_at H e)
 have e3:mg "law" = some (.ref 844):=by
  have g3:s₁.heap.get? 3=some (k_3 w.params):=hst _ _ (by kernel_rfl)
  have z:=nsLaw w.params g3
  simp only [Prod.mk.injEq] at z
  rw [←z.2]
  exact (G.T.g).agree (Heap.Ns.of_isNs z.1) "law"
 have en:=name_law
 rw [en,e3] at hmg
 cases hmg
 have gen:=hg
 have Lk:=L
 wrow_args hpre hlay hrd hwl hlo
 rename_i ns _ _ _ _ _ as1 as2 a vs as3 hL ra w1 r0 hI hr2 hlen _
 have gL:=script_obj L hL
 have c831:isCodeTable s₁.heap 829:=codeTab (o:=k_831 w.params) (hst 831 _ (by kernel_rfl)) (by kernel_rfl)
 have c838:isCodeTable s₁.heap 834:=codeTab (o:=k_838 w.params) (hst 838 _ (by kernel_rfl)) (by kernel_rfl)
 have c843:isCodeTable s₁.heap 841:=codeTab (o:=k_843 w.params) (hst 843 _ (by kernel_rfl)) (by kernel_rfl)
 have isI:=ints_is hI
 have len:vs.length≤1000:=by
  have:=hI.length
  omega
 obtain ⟨hp,gg,dr,tk,os⟩:=s₁
 have gen:gg=#[]:=gen
 have hrg:RoomG callerA 23:=⟨⟨by decide +kernel,by decide +kernel,rfl⟩,rfl⟩
 have main:∀ w':World,w'=jb w (w.params.followText "special-get-raises") (w.params.followText "comprehension-iter-twice") (w.params.followText "for-iterable-display-folded")→St w' hp→SaysG w' 23 (.call (.ref 844) ⟨[.ref a],[]⟩) hp [829,834,841] LawPost:=fun w' e hst'=>by
  subst e
  exact law_run hst' gL (kp _ _ f1) (kp _ _ f2) (kp _ _ f3) isI len
 have run:=main w (setF_self w).symm hst
 show wpAny (model PW w) callerA (PySem.call (.ref 844) [.ref a]) _ _ _
 refine wpAny_call (run callerA gg dr tk os _ hrg fun r h' tk' old p=>?_)
 obtain ⟨rfl,⟨v1,p1⟩,⟨v2,p2⟩,⟨v3,p3⟩⟩:=p
 refine ⟨.inl ⟨.bool true,ofPy (PyData.bool true),[],rfl,fun _=>rfl,?_,?_,fun _=>⟨List.nodup_nil,fun _ q=>nomatch q⟩⟩,⟨fun b o e=>?_,fun b o e=>?_⟩,rfl,AllBare.of_eq gen⟩
 ·exact ReadsW.bool true
 ·show _=true;kernel_rfl
 ·by_cases hb:b∈([829,834,841]:List Addr)
  ·simp only [List.mem_cons,List.not_mem_nil,or_false] at hb
   rcases hb with rfl | rfl | rfl
   ·cases (kp _ _ f1).symm.trans e
    exact .inr (.inl ⟨c831,rfl,#[],v1,rfl,by rw [p1];simp [fldO]⟩)
   ·cases (kp _ _ f2).symm.trans e
    exact .inr (.inl ⟨c838,rfl,#[],v2,rfl,by rw [p2];simp [fldO]⟩)
   ·cases (kp _ _ f3).symm.trans e
    exact .inr (.inl ⟨c843,rfl,#[],v3,rfl,by rw [p3];simp [fldO]⟩)
  ·exact .inl (old.2 b o e hb)
 ·by_cases hb:b∈([829,834,841]:List Addr)
  ·simp only [List.mem_cons,List.not_mem_nil,or_false] at hb
   rcases hb with rfl | rfl | rfl
   ·exact ⟨_,p1⟩
   ·exact ⟨_,p2⟩
   ·exact ⟨_,p3⟩
  ·exact ⟨o,old.2 b o e hb⟩
end
end Mine
set_option maxRecDepth 100000 in
set_option maxHeartbeats 0 in
theorem PySem.Challenge.cw_pq0640_01_holds : PySem.Challenge.rw_pq0640_01.Holds := by
  exact Mine.hdH Mine.walk
