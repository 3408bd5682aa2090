import PyProof.Rows.All
import Wide.All
import OpenK.AllK
import Wide.FinOn
import OpenK.ZGo
import KE.KBytesCut
import PyProof.CompFree
import Lean
import PySem.Challenge.RW_nm0175_01
set_option Elab.async false
set_option linter.unusedVariables false
set_option linter.unusedSectionVars false
set_option maxRecDepth 100000
set_option genSizeOf false
set_option genInjectivity false
set_option genCtorIdx false
set_option tactic.hygienic false
noncomputable section
namespace AR
abbrev NN:=List (Nat × Nat)
abbrev VP:=PySem.Value->PySem.Shared->Prop
theorem byC {P : Prop} (h : ¬P -> False) : P := Classical.byContradiction h
set_option hygiene false in
local macro_rules
 | `(tactic| obtain $p:rcasesPatMed := $e:term) => `(tactic| (refine byC λn9 => ?_; rcases $e:term with $p:rcasesPatMed <;> (apply n9; clear n9)))
theorem mSg {α : Type} {a b : α} (h : a ∈ [b]) : a = b := List.mem_singleton.mp h
theorem mCo {α : Type} {a b : α} {l : List α} (h : a ∈ b :: l) : a = b \/ a ∈ l := List.mem_cons.mp h
theorem sIj {α : Type} {a b : α} (h : some a = some b) : a = b := Option.some.inj h
theorem lBl {n m : Nat} (h : Nat.ble n m = true) : n <= m := Nat.le_of_ble_eq_true h
theorem eBq {n m : Nat} (h : Nat.beq n m = true) : n = m := Nat.eq_of_beq_eq_true h
theorem oC {α : Type} {motive : Option α -> Prop} (t : Option α) (none : motive none) (some : ∀ a, motive (some a)) : motive t := t.casesOn none some
theorem lC {α : Type} {motive : List α -> Prop} (t : List α) (nil : motive []) (cons : ∀ a l, motive (a :: l)) : motive t := t.casesOn nil cons
theorem bC {motive : Bool -> Prop} (t : Bool) (false : motive false) (true : motive true) : motive t := t.casesOn false true
section
open PySem PySem.W
noncomputable abbrev AO:OpenLaw:=PySem.Challenge.rw_nm0175_01
noncomputable def lkW:Look:={strict:= !(importedModules AO.prog.main.body).all cThrough.contains,foot:=none,bare:=(["vars", "dir", "locals"]:List Str).filter (readsOut AO.prog AO.prog.main.body)}
theorem p1:(sreFenced AO.prog.main && ((moduleNames AO.prog.main.body).isEmpty ||lookedIntoSs (moduleNames AO.prog.main.body) AO.prog.main.body))=true:=by kernel_rfl
theorem p3:namesResolve AO.prog=true:=by kernel_rfl
theorem p4:AO.prog.boundNames.all (λn=> !worldNames.contains n)=true:=by kernel_rfl
noncomputable abbrev wlV:Look:={strict:=false,foot:=none,bare:= []}
theorem wls:(!(importedModules AO.prog.main.body).all cThrough.contains)=false:=by kernel_rfl
theorem wra:readsOut AO.prog AO.prog.main.body "vars" =false:=by kernel_rfl
theorem wrb:readsOut AO.prog AO.prog.main.body "dir" =false:=by kernel_rfl
theorem wrc:readsOut AO.prog AO.prog.main.body "locals" =false:=by kernel_rfl
theorem wf3 {p:Str->Bool} {a b c:Str} (x:p a=false) (y:p b=false) (z:p c=false): [a,b,c].filter p= []:=by simp [x,y,z]
theorem wlE {s:Bool} {b:List Str} (x:s=false) (y:b= []):({strict:=s,foot:=none,bare:=b}:Look)=wlV:=by rw [x,y]
theorem wl1:lkW=wlV:=wlE wls (wf3 wra wrb wrc)
noncomputable def wbd:Nat->List Stmt:=Nat.rec AO.prog.main.body λυ l=> l.drop 16
theorem Kq {lk:Look} (n:Nat):∀{l:List Stmt},noRoadLSs lk (l.take n)=true->noRoadLSs lk (l.drop n)=true->noRoadLSs lk l=true:=by
 induction n with
 |zero=> exact λυ h=> h
 |succ n ih=>
  intro l h1 h2;cases l with
  |nil=> rfl
  |cons s l=>
   have h1:(noRoadLS lk s && noRoadLSs lk (l.take n))=true:=h1;show (noRoadLS lk s && noRoadLSs lk l)=true;obtain ⟨a,b⟩:=Bool.and_eq_true_iff.mp h1;rw [a,ih b h2];rfl
theorem wb0:noRoadLSs wlV ((wbd 0).take 16)=true:=by kernel_rfl
theorem wb1:noRoadLSs wlV ((wbd 1).take 16)=true:=by kernel_rfl
theorem wb2:noRoadLSs wlV ((wbd 2).take 16)=true:=by kernel_rfl
theorem wb3:noRoadLSs wlV ((wbd 3).take 16)=true:=by kernel_rfl
theorem wb4:noRoadLSs wlV ((wbd 4).take 16)=true:=by kernel_rfl
theorem wb5:noRoadLSs wlV (wbd 5)=true:=by kernel_rfl
theorem p5:noRoadLSs lkW AO.prog.main.body=true:=by
 rw [wl1];exact Kq 16 wb0 (Kq 16 wb1 (Kq 16 wb2 (Kq 16 wb3 (Kq 16 wb4 wb5))))
theorem p6:(namesMeet AO.prog AO.prog.main.body λυ n=> attrL n)=true:=by kernel_rfl
theorem p8:(AO.prog.boundNames.contains AO.name && !startupNames.contains AO.name)=true:=by kernel_rfl
theorem p7:(decide (AO.row.records.map (·.1)).Nodup && (AO.row.records.all λx=> !x.1.opensWith "__" && !builtinNamed x.1 && AO.row.prog.boundNames.contains x.1 && x.2.all λf=> !f.1.opensWith "__") && AO.row.toRowW.solid && AO.row.pre.litsOk && AO.row.post.litsOk)=true:=by kernel_rfl
theorem w2:(decide (AO.foot <= (behindTheImports AO.prog).length) && AO.footing.all footLine && noClassBlock AO.prog AO.footing)=true:=by kernel_rfl
theorem w3:(AO.most.all (λn=> decide (63 <= n)) && AO.bound.all (λn=> decide (2 ^ 63 <= n)))=true:=by kernel_rfl
theorem w4:noRoadLSs {strict:=true,foot:=some AO.bound',writes:=AO.writes,may:=AO.may} AO.footing=true:=by kernel_rfl
theorem w5:(defStands AO.about AO.above && AO.namesIt)=true:=by kernel_rfl
theorem q0:((["type", "isinstance", "issubclass", "getattr", "hasattr"]:List Str).all (λn=> AO.about != [n]))=true:=by kernel_rfl
theorem q1:AO.bound'.all (λn=> !builtinNamed n ||AO.about== [n] || !AO.reads n)=true:=by kernel_rfl
theorem q2:((!AO.writes ||(AO.prog.main.body.flatMap importedNames).all λn=> !AO.reads n) && (AO.prog.main.body.flatMap importedNames).all (λn=> !AO.reads n ||(drawsOf n AO.prog.main.body).all λmn=> mn.2 !=("attrgetter" :Str) && mn.2 !=("methodcaller" :Str)))=true:=by kernel_rfl
theorem q3:namesMeet AO.prog AO.footing (λsc n=> (!(["type", "isinstance", "issubclass", "getattr", "hasattr"]:List Str).contains n ||sc.names.lookup n==some .globalImplicit) && (AO.may !=some n ||sc.kind== .module ||sc.names.lookup n==some .globalImplicit))=true:=by kernel_rfl
theorem w6:(AO.own.contains AO.name && AO.own.eraseDups.length==AO.own.length && AO.own.all (λn=> !builtinNamed n))=true:=by kernel_rfl
theorem w7:namesMeet AO.prog AO.above (λυ n=> !AO.own.contains n)=true:=by kernel_rfl
theorem q4:(namesMeet AO.prog AO.footing λsc n=> sc.kind== .module ||sc.names.lookup n !=some .globalExplicit)=true:=by kernel_rfl
theorem bth {a b:Bool} (x:a=true) (y:b=true):(a && b)=true:=by rw [x,y];rfl
theorem OE {a b c:Bool} (x:c=true) (y:(a && b)=true):(c && a && b)=true:=by rw [x,Bool.true_and];exact y
theorem XZ {a b c d:Bool} (x:d=true) (y:(a && b && c)=true):(d && a && b && c)=true:=by rw [x,Bool.true_and];exact y
theorem YS:looksOpen AO.prog=true:=bth (bth (bth (bth p1 p3) p4) p5) p6
theorem gQ {x a b c d e:Bool} (h:x=true) (y:(a && b && c && d && e)=true):(x && a && b && c && d && e)=true:=by rw [h,Bool.true_and];exact y
theorem Sx:AO.row.wellSaid=true:=by
 unfold OpenRow.wellSaid;refine OE ?_ p8;unfold OpenRow.partSaid;refine bth (bth (bth (bth (gQ ?_ p7) rfl) rfl) rfl) rfl;exact bth (bth (bth (bth YS rfl) rfl) rfl) rfl
theorem bW:AO.wellSaid=true:=by
 unfold OpenLaw.wellSaid;exact bth (bth (XZ (bth (OE (bth (bth (OE (bth (OE (XZ Sx w2) w3) w4) w5) q0) q1) q2) q3) w6) w7) q4
end
section
inductive K where |int (i:Int) |str (s:List Nat)
inductive W where
 |none |bool (b:Bool) |int (i:Int) |str (s:List Nat) |bytes (b:List UInt8) |fn (a:Nat) |ref (i:Nat)
 |tup (l:List W) |lst (l:List W) |dct (ks:List K) (vs:List W) |obj (c:Nat) (fs:List W)
set_option genCtorIdx true in
inductive O where
 |list (l:List W) |dict (d:List (List Nat × W)) |inst (c:Nat) (fs:List W) |barr (b:List UInt8) |dead
set_option genCtorIdx true in
inductive Bop where |add |sub |mul |fdiv |mod |pow |shl |shr |band |bor
set_option genCtorIdx true in
inductive Cop where |eq |ne |lt |le |gt |ge
inductive E where
 |lit (x:W) (p:Nat)
 |loc (k n p:Nat)
 |glob (k n p:Nat)
 |attr (e:E) (alts:NN) (a p:Nat)
 |idx (e i:E) (p:Nat)
 |slc (e:E) (lo hi:Option E) (sp p:Nat)
 |bin (o:Bop) (a b:E) (m:Bool) (p:Nat)
 |neg (a:E) (p:Nat)
 |not (a:E) (p:Nat)
 |boolop (isAnd:Bool) (es:List E) (p:Nat)
 |cmp (a:E) (o:Cop) (b:E) (p:Nat)
 |isN (a:E) (neg:Bool) (cp p:Nat)
 |mem (a b:E) (neg:Bool) (p:Nat)
 |cmp2 (a:E) (o:Cop) (b:E) (o':Cop) (c:E) (p:Nat)
 |ite (t a b:E) (p:Nat)
 |tup (es:List E) (p:Nat)
 |lst (es:List E) (m:Bool) (p:Nat)
 |dct (ks:List (List Nat)) (vs:List E) (kp:List Nat) (p:Nat)
 |call (f:Nat) (args:List E) (n fp p:Nat)
 |new (c:Nat) (m:Bool) (args:List E) (n fp p:Nat)
 |bcall (f:Nat) (args:List E) (fp p:Nat)
 |isi (e:E) (k n fp kp p:Nat)
 |mown (o:E) (c f:Nat) (m:Nat) (args:List E) (mp p:Nat)
 |mfld (o:E) (alts:NN) (m:Nat) (args:List E) (mp p:Nat)
 |mblt (o:E) (k m:Nat) (args:List E) (mp p:Nat)
 |dele (o:E) (c m mp p1 p2 p:Nat)
 |comp (elt:E) (tg tn tps:List Nat) (ik:Nat) (it:E) (ifs:List E) (sc:Nat) (m:Bool) (fp ip tp p:Nat)
 |frz (e:E)
 |memv (a d:E) (m mp vp p:Nat)
inductive T where
 |loc (k n p:Nat)
 |attr (e:E) (alts:NN) (a p:Nat)
 |idx (e i:E) (p:Nat)
inductive S where
 |asg (t:T) (e:E) (p:Nat)
 |asgT (ts:List T) (e:E) (tp p:Nat)
 |expr (e:E) (p:Nat)
 |ret (e:Option E) (p:Nat)
 |ite (t:E) (a b:List S) (p:Nat)
 |while (t:E) (b:List S) (p:Nat)
 |for (tg tn tps:List Nat) (ik:Nat) (it:E) (b:List S) (fp ip tp p:Nat)
 |raise (e:E) (p:Nat)
 |try (b:List S) (cls:Nat) (name:Option (Nat × Nat)) (h:List S) (n cp hp p:Nat)
 |pass (p:Nat)
set_option genCtorIdx true in
inductive R (α:Type) where
 |ok (a:α) (σ:List O)
 |exc (c:Nat) (fs:List W) (σ:List O)
 |stuck (why:Nat)
noncomputable abbrev LL:=List (Option W)
inductive RS where
 |next (l:LL) (σ:List O)
 |ret (w:W) (σ:List O)
 |exc (c:Nat) (fs:List W) (l:LL) (σ:List O)
 |stuck (why:Nat)
noncomputable def R.bind {α β:Type} (x:R α) (f:α->List O->R β):R β:=R.rec (λa σ=> f a σ) (λc fs σ=> .exc c fs σ) (λn=> .stuck n) x
noncomputable def R.toS {α:Type} (l:LL) (x:R α) (f:α->List O->RS):RS:=R.rec (λa σ=> f a σ) (λc fs σ=> .exc c fs l σ) (λn=> .stuck n) x
noncomputable def RS.then (x:RS) (f:LL->List O->RS):RS:=RS.rec (λl σ=> f l σ) (λw σ=> .ret w σ) (λc fs l σ=> .exc c fs l σ) (λn=> .stuck n) x
noncomputable def ob {α β:Type} (x:Option α) (f:α->Option β):Option β:=Option.rec none (λa=> f a) x
noncomputable def gd {α:Type} (b:Bool) (x:Option α):Option α:=Bool.rec none x b
noncomputable def kO {α:Type} (n:Nat) (x:Option α) (σ:List O):R α:=Option.rec (.stuck n) (λa=> .ok a σ) x
noncomputable def kR {α:Type} (n:Nat) (x:Option (R α)):R α:=Option.rec (.stuck n) (λa=> a) x
noncomputable def nth {α:Type} (l:List α):Nat->Option α:=List.rec (λυ=> none) (λx υ ih k=> Nat.rec (some x) (λk' υ=> ih k') k) l
noncomputable def put {α:Type} (l:List α):Nat->α->List α:=List.rec (λυ υ=> []) (λx xs ih k y=> Nat.rec (y::xs) (λk' υ=> x::ih k' y) k) l
noncomputable def cut {α:Type} (n:Nat):List α->List α:=Nat.rec (λυ=> []) (λυ ih l=> List.rec [] (λx r υ=> x::ih r) l) n
noncomputable def drop' {α:Type} (n:Nat):List α->List α:=Nat.rec (λl=> l) (λυ ih l=> List.rec [] (λυ r υ=> ih r) l) n
noncomputable def lkp {α:Type} (l:List (Nat × α)) (k:Nat):Option α:=List.rec none (λp υ ih=> Bool.rec ih (some p.2) (Nat.beq p.1 k)) l
inductive Tree (α:Type) where
 |nil
 |node (k:Nat) (v:α) (l r:Tree α)
noncomputable def look {α:Type} (t:Tree α):Nat->Option α:=Tree.rec (λυ=> none) (λk v υ υ il ir x=> Bool.rec (Bool.rec (ir x) (il x) (Nat.blt x k)) (some v) (Nat.beq k x)) t
noncomputable def Ai (l:List Nat) (k:Nat):Bool:=List.rec false (λa υ ih=> Bool.rec ih true (Nat.beq a k)) l
noncomputable def A9 (l:List Nat):List Nat->Bool:=List.rec (λy=> List.rec true (λυ υ υ=> false) y) (λa υ ih y=> List.rec false (λb y' υ=> Bool.rec false (ih y') (Nat.beq a b)) y) l
noncomputable def ltS:List Nat->List Nat->Bool
 | [],[]=> false
 | [],_::_=> true
 |_::_,[]=> false
 |a::x,b::y=> bif Nat.blt a b then true else bif Nat.beq a b then ltS x y else false
noncomputable def Lf:List UInt8->List UInt8->Bool
 | [],[]=> true
 |a::x,b::y=> bif Nat.beq a.toNat b.toNat then Lf x y else false
 |_,_=> false
noncomputable def Fv (a b:Int):Bool:=match a,b with
 | .ofNat m,.ofNat n=> Nat.beq m n
 | .negSucc m,.negSucc n=> Nat.beq m n
 |_,_=> false
noncomputable def ltI (a b:Int):Bool:=match a,b with
 | .ofNat m,.ofNat n=> Nat.blt m n
 | .ofNat _,.negSucc _=> false
 | .negSucc _,.ofNat _=> true
 | .negSucc m,.negSucc n=> Nat.blt n m
noncomputable def BL (w:W):Option Int:=match w with | .int i=> some i |_=> none
noncomputable def Ax (w:W):Option (List Nat):=match w with | .str s=> some s |_=> none
noncomputable def DZ (w:W):Option (List UInt8):=match w with | .bytes b=> some b |_=> none
noncomputable def PV (w:W):Option Bool:=match w with | .bool b=> some b |_=> none
noncomputable def HG (w:W):Option (List W):=match w with | .tup l=> some l |_=> none
noncomputable def IX (w:W):Option (List W):=match w with | .lst l=> some l |_=> none
noncomputable def XN (w:W):Option Nat:=match w with | .fn a=> some a |_=> none
noncomputable def FT (w:W):Option (Nat × List W):=match w with | .obj c fs=> some (c,fs) |_=> none
noncomputable def IE (w:W):Option (List K × List W):=match w with | .dct ks vs=> some (ks,vs) |_=> none
noncomputable def Gs (w:W):Option Nat:=match w with | .ref i=> some i |_=> none
noncomputable def EI (w:W):Option Bool:=match w with | .none=> some true |_=> some false
noncomputable def Dn (o:O):Option (List W):=match o with | .list l=> some l |_=> none
noncomputable def O3 (o:O):Option (List (List Nat × W)):=match o with | .dict d=> some d |_=> none
noncomputable def IS (o:O):Option (Nat × List W):=match o with | .inst c fs=> some (c,fs) |_=> none
noncomputable def FN (o:O):Option (List UInt8):=match o with | .barr b=> some b |_=> none
def atO {α:Type} (f:O->Option α) (σ:List O) (w:W):Option α:=ob (Gs w) λi=> ob (nth σ i) f
noncomputable def orO {α:Type} (x y:Option α):Option α:=Option.rec y (λa=> some a) x
def snap (σ:List O) (w:W):Option (List W):=orO (IX w) (atO Dn σ w)
def MA (σ:List O) (w:W):Option (Nat × List W):=orO (FT w) (atO IS σ w)
noncomputable def CY (i:Int):Option Nat:=match i with | .ofNat n=> some n | .negSucc _=> none
noncomputable def LIM:Nat:=4000000
def JI (a b:Option Bool):Option Bool:=ob a λx=> ob b λy=> some (x && y)
def eqL (f:W->W->Option Bool) (a:List W):List W->Option Bool:=List.rec (λb=> List.rec (some true) (λυ υ υ=> some false) b) (λx υ ih b=> List.rec (some false) (λy r υ=> JI (f x y) (ih r)) b) a
def LC (f:W->W->Option Bool) (x y:W):Option Bool:=match x with
 | .none=> ob (EI y) λt=> gd t (some true)
 | .int a=> ob (BL y) λb=> some (Fv a b)
 | .str a=> ob (Ax y) λb=> some (A9 a b)
 | .tup a=> ob (HG y) λb=> eqL f a b
 | .lst a=> ob (IX y) λb=> eqL f a b
 | .bytes a=> ob (DZ y) λb=> some (Lf a b)
 |_=> none
def eqN (n:Nat):W->W->Option Bool:=Nat.rec (λυ υ=> none) (λυ ih=> LC ih) n
def eqW (x y:W):Option Bool:=eqN 12 x y
def cW (f:W->Option Bool) (l:List W):Option Bool:=List.rec (some false) (λy υ ih=> ob (f y) λt=> ob ih λu=> some (t ||u)) l
def ixA (f:W->Option Bool) (l:List W):Nat->Option Nat:=List.rec (λυ=> none) (λy υ ih n=> ob (f y) λt=> Bool.rec (ih (Nat.succ n)) (some n) t) l
noncomputable def FC (a:Int):Bool:=Nat.blt a.natAbs 4611686018427387904
noncomputable def SD (b:Int):Bool:=match b with | .ofNat n=> Nat.blt 0 n && Nat.blt n 1000000000 | .negSucc _=> false
noncomputable def gw (a:Nat) (n:Nat):Nat:=Nat.pow a n
def Eh (a b:Int) (f:Nat->Nat->Option Nat):Option Int:=ob (CY a) λm=> ob (CY b) λn=> ob (f m n) λk=> some (.ofNat k)
def E6 (o:Bop) (a b:Int):Option Int:=match o with
 | .add=> some (Int.add a b)
 | .sub=> some (Int.sub a b)
 | .mul=> gd (FC a ||FC b) (some (Int.mul a b))
 | .fdiv=> gd (SD b) (some (Int.fdiv a b))
 | .mod=> gd (SD b) (some (Int.fmod a b))
 | .pow=> Eh a b λm n=> gd (Nat.blt m 4611686018427387904 && Nat.ble n 1000) (some (Nat.pow m n))
 | .shl=> Eh a b λm n=> gd (Nat.blt m 4611686018427387904 && Nat.ble n 1000) (some (Nat.shiftLeft m n))
 | .shr=> Eh a b λm n=> some (Nat.shiftRight m n)
 | .band=> Eh a b λm n=> some (Nat.land m n)
 | .bor=> Eh a b λm n=> some (Nat.lor m n)
noncomputable def Ah (c:Nat) (n:Nat):List Nat:=Nat.rec [] (λυ ih=> c::ih) n
def W8 (s:List Nat) (n:Nat):Option (List Nat):=match s with
 | [c]=> gd (Nat.ble n 1000000) (some (Ah c n))
 |_=> none
def dA (o:Bop) (a:List Nat) (y:W):Option (List Nat):=match o with
 | .add=> ob (Ax y) λb=> gd (Nat.ble (a.length + b.length) LIM) (some (a ++ b))
 | .mul=> ob (BL y) λi=> ob (CY i) λn=> W8 a n
 |_=> none
def Yw (o:Bop) (x y:W):Option W:=orO (ob (BL x) λa=> ob (BL y) λb=> ob (E6 o a b) λc=> some (.int c)) (ob (Ax x) λa=> ob (dA o a y) λc=> some (.str c))
def Jo (o:Option Bool):Option Bool:=ob o λt=> some (!t)
def R8 (o:Cop) (a b:Int):Option Bool:=match o with
 | .lt=> some (ltI a b) | .gt=> some (ltI b a) | .le=> some (!ltI b a) | .ge=> some (!ltI a b)
 |_=> none
noncomputable def isLt (o:Cop):Bool:=match o with | .lt=> true |_=> false
def C5 (o:Cop) (x y:W):Option Bool:=match o with
 | .eq=> eqW x y
 | .ne=> Jo (eqW x y)
 |o=> orO (ob (BL x) λa=> ob (BL y) λb=> R8 o a b) (ob (Ax x) λa=> ob (Ax y) λb=> gd (isLt o) (some (ltS a b)))
def HC (σ:List O) (w:W):Option (List W):=orO (HG w) (snap σ w)
noncomputable def Ac (c:Nat) (l:List Nat):Bool:=List.rec false (λx υ ih=> Bool.rec ih true (Nat.beq x c)) l
noncomputable def one (s:List Nat):Option Nat:=match s with | [c]=> some c |_=> none
def El {α:Type} (d:List (List Nat × α)) (k:List Nat):Option α:=List.rec none (λp υ ih=> Bool.rec ih (some p.2) (A9 p.1 k)) d
def EA {α:Type} (d:List (List Nat × α)) (k:List Nat) (v:α):List (List Nat × α):=List.rec [(k,v)] (λp r ih=> Bool.rec (p::ih) ((p.1,v)::r) (A9 p.1 k)) d
noncomputable def NJ {α:Type} (o:Option α):Bool:=Option.rec false (λυ=> true) o
noncomputable def TK (k:K):Option (List Nat):=match k with | .str s=> some s |_=> none
noncomputable def Te (k:K):Option Int:=match k with | .int i=> some i |_=> none
def Oe:List K->List W->Option (List (List Nat × W))
 | [],[]=> some []
 |k::ks,v::vs=> ob (TK k) λs=> ob (Oe ks vs) λr=> some ((s,v)::r)
 |_,_=> none
def Hg:List K->List W->Option (List (Int × W))
 | [],[]=> some []
 |k::ks,v::vs=> ob (Te k) λs=> ob (Hg ks vs) λr=> some ((s,v)::r)
 |_,_=> none
def FO {α:Type} (d:List (Int × α)) (k:Int):Option α:=List.rec none (λp υ ih=> Bool.rec ih (some p.2) (Fv p.1 k)) d
def PE (σ:List O) (w:W):Option (List (List Nat × W)):=orO (atO O3 σ w) (ob (IE w) λd=> Oe d.1 d.2)
def O2 (x:List Nat) (l:List W):Option Bool:=cW (λy=> ob (Ax y) λs=> some (A9 s x)) l
def EY (σ:List O) (x w:W):Option Bool:=ob (Ax x) λs=> orO (ob (Ax w) λt=> ob (one s) λc=> some (Ac c t)) (orO (ob (HC σ w) λl=> O2 s l) (ob (PE σ w) λd=> some (NJ (El d s))))
def K7 (l:List Int) (k:Int):Bool:=List.rec false (λa υ ih=> Bool.rec ih true (Fv a k)) l
def GV (l:List Int):Bool:=List.rec true (λa l ih=> Bool.rec ih false (K7 l a)) l
def ixN {α:Type} (l:List α) (k:Int):Option α:=match k with
 | .ofNat n=> nth l n
 | .negSucc n=> gd (Nat.blt n l.length) (nth l (Nat.sub l.length (Nat.succ n)))
def T3 {α:Type} (l:List α) (k:Int):Option α:=ob (CY k) λn=> nth l n
def getIdx (σ:List O) (w j:W):Option W:=orO (ob (BL j) λk=> orO (ob (HC σ w) λl=> ixN l k) (orO (ob (Ax w) λs=> ob (ixN s k) λc=> some (.str [c])) (orO (ob (DZ w) λb=> ob (T3 b k) λc=> some (.int (.ofNat c.toNat))) (ob (IE w) λd=> ob (Hg d.1 d.2) λe=> FO e k))))
 (ob (Ax j) λs=> ob (PE σ w) λd=> El d s)
def Kv (w:Option W):Option (Option Nat):=Option.rec (some none) (λw=> ob (BL w) λi=> ob (CY i) λn=> some (some n)) w
noncomputable def loN (lo:Option Nat):Nat:=Option.rec 0 (λn=> n) lo
def Bq {α:Type} (l:List α) (n:Nat) (hi:Option Nat):List α:=Option.rec (drop' n l) (λm=> cut (Nat.sub m n) (drop' n l)) hi
def fD (w:W) (n:Nat) (hi:Option Nat):Option W:=match w with
 | .str s=> some (.str (Bq s n hi))
 | .bytes s=> some (.bytes (Bq s n hi))
 | .lst s=> some (.lst (Bq s n hi))
 |_=> none
def EN (w:W) (lo hi:Option W):Option W:=ob (Kv lo) λa=> ob (Kv hi) λb=> fD w (loN a) b
def dD (σ:List O) (r:Nat) (l:List W) (j x:W):Option (List O):=ob (BL j) λk=> ob (CY k) λn=> gd (Nat.blt n l.length) (some (put σ r (.list (put l n x))))
def dm (σ:List O) (r:Nat) (d:List (List Nat × W)) (j x:W):Option (List O):=ob (Ax j) λk=> gd (Nat.ble d.length 100000) (some (put σ r (.dict (EA d k x))))
def Qm (σ:List O) (a j x:W):Option (List O):=ob (Gs a) λr=> ob (nth σ r) λo=> orO (ob (Dn o) λl=> dD σ r l j x) (ob (O3 o) λd=> dm σ r d j x)
def getAttr (σ:List O) (w:W) (alts:NN):Option W:=ob (MA σ w) λp=> ob (lkp alts p.1) λj=> nth p.2 j
def putAt (fs:List W) (j:Nat) (x:W):Option (List W):=Bool.rec (gd (Nat.beq j fs.length) (some (fs ++ [x]))) (some (put fs j x)) (Nat.blt j fs.length)
def setAttr (σ:List O) (w:W) (alts:NN) (x:W):Option (List O):=ob (Gs w) λi=> ob (nth σ i) λo=> ob (IS o) λp=> ob (lkp alts p.1) λj=> ob (putAt p.2 j x) λfs=> some (put σ i (.inst p.1 fs))
noncomputable def WJ (o:O):Option Nat:=match o with | .list l=> some l.length | .dict d=> some d.length | .barr b=> some b.length |_=> none
noncomputable def Xa (w:W):Option Nat:=match w with | .str s=> some s.length | .bytes s=> some s.length | .tup l=> some l.length | .lst l=> some l.length | .dct ks _=> some ks.length |_=> none
def mkNat (n:Nat):Option W:=gd (Nat.ble n LIM) (some (.int (.ofNat n)))
def D4 (σ:List O) (w:W):Option W:=ob (orO (Xa w) (atO WJ σ w)) mkNat
def gH (w:W):Option W:=ob (Ax w) λs=> ob (one s) λc=> some (.int (.ofNat c))
def gh (w:W):Option W:=ob (BL w) λi=> ob (CY i) λn=> gd (Nat.blt n 1114112) (some (.str [n]))
def toBytes (l:List W):Option (List UInt8):=List.rec (some []) (λx υ ih=> ob (BL x) λi=> ob (CY i) λn=> gd (Nat.blt n 256) (ob ih λr=> some (UInt8.ofNat n::r))) l
def IV (σ:List O) (w:W):Option W:=ob (orO (ob (IX w) toBytes) (atO FN σ w)) λb=> some (.bytes b)
def WO (σ:List O) (w:W):Option W:=ob (HC σ w) λl=> some (.tup l)
noncomputable def CR:Nat->Nat->List Nat
 |0,_=> []
 |f + 1,n=> bif Nat.blt n 10 then [48 + n] else CR f (n / 10) ++ [48 + n % 10]
def cg (w:W):Option W:=ob (BL w) λi=> ob (CY i) λn=> gd (Nat.blt n 1000000) (some (.str (CR 7 n)))
def Pc (f:Nat) (σ:List O) (w:W):Option W:=match f with
 |0=> D4 σ w
 |1=> gH w
 |2=> gh w
 |3=> IV σ w
 |5=> WO σ w
 |6=> cg w
 |_=> none
def BJ (f:Nat) (args:List W) (σ:List O):R W:=match args with
 | [w]=> kO 11 (Pc f σ w) σ
 | []=> (match f with |4=> .ok (.ref σ.length) (σ ++ [.barr []]) |_=> .stuck 11)
 |_=> .stuck 11
noncomputable def Ba (c:Nat) (l:List Nat):Nat->List Nat:=List.rec (λυ=> []) (λa υ ih n=> Bool.rec (ih (Nat.succ n)) (n::ih (Nat.succ n)) (Nat.beq a c)) l
noncomputable def hd? {α:Type} (l:List α):Option α:=List.rec none (λa υ υ=> some a) l
noncomputable def IT (c:Nat):Nat:=bif Nat.ble 65 c && Nat.ble c 90 then c + 32 else c
def H8 (sep:List Nat):List W->Option (List Nat)
 | []=> some []
 |x::r=> ob (Ax x) λs=> match r with
  | []=> some s
  |_::_=> ob (H8 sep r) λt=> some (s ++ sep ++ t)
noncomputable def AB (c:Nat):List Nat->List (List Nat)
 | []=> [[]]
 |a::r=> bif Nat.beq a c then []::AB c r else match AB c r with
  | []=> [[a]]
  |x::y=> (a::x)::y
noncomputable def Bh (c:Nat) (s:List Nat):List Nat:=s.filter λa=> !Nat.beq a c
def bp (σ:List O) (i:Nat) (o:O) (x:W):Option (List O):=orO (ob (Dn o) λl=> gd (Nat.blt l.length LIM) (some (put σ i (.list (l ++ [x]))))) (ob (FN o) λb=> ob (BL x) λk=> ob (CY k) λn=> gd (Nat.blt n 256 && Nat.blt b.length LIM) (some (put σ i (.barr (b ++ [UInt8.ofNat n])))))
def WV (σ:List O) (i:Nat) (o:O) (x:W):Option (List O):=orO (ob (Dn o) λl=> ob (snap σ x) λr=> gd (Nat.ble (l.length + r.length) LIM) (some (put σ i (.list (l ++ r))))) (ob (FN o) λb=> ob (DZ x) λr=> gd (Nat.ble (b.length + r.length) LIM) (some (put σ i (.barr (b ++ r)))))
def fK (σ:List O) (i:Nat) (o:O):Option (W × List O):=ob (Dn o) λl=> ob (nth l (Nat.sub l.length 1)) λx=> some (x,put σ i (.list l.dropLast))
def onO {α:Type} (σ:List O) (w:W) (f:Nat->O->Option α):Option α:=ob (Gs w) λi=> ob (nth σ i) λo=> f i o
def unit (n:Nat) (x:Option (List O)):R W:=kR n (ob x λσ=> some (.ok .none σ))
def T9 (k:Nat) (w x:W) (σ:List O):R W:=match k with
 |0=> unit 20 (onO σ w λi o=> bp σ i o x)
 |1=> unit 21 (onO σ w λi o=> WV σ i o x)
 |4=> kO 24 (ob (Ax w) λs=> ob (Ax x) λt=> ob (one t) λc=> ob (hd? (Ba c s 0)) mkNat) σ
 |6=> kO 26 (ob (Ax w) λs=> ob (snap σ x) λl=> ob (H8 s l) λt=> gd (Nat.ble t.length LIM) (some (.str t))) σ
 |7=> kO 27 (ob (Ax w) λs=> ob (Ax x) λt=> ob (one t) λc=> gd (Nat.blt s.length LIM) (some (.lst ((AB c s).map W.str)))) σ
 |_=> .stuck 29
def Og (k:Nat) (w:W) (σ:List O):R W:=match k with
 |2=> kR 22 (ob (onO σ w λi o=> fK σ i o) λp=> some (.ok p.1 p.2))
 |5=> kO 25 (ob (Ax w) λs=> gd (s.all λc=> Nat.blt c 128) (some (.str (s.map IT)))) σ
 |_=> .stuck 30
def Cc (k:Nat) (w:W) (args:List W) (σ:List O):R W:=match args with
 | []=> Og k w σ
 | [x]=> T9 k w x σ
 |_=> .stuck 32
set_option genCtorIdx true in
inductive It where
 |vals (l:List W)
 |dyn (i:Nat) (enum:Bool)
noncomputable def Fj (s:List Nat):List W:=s.map λc=> .str [c]
def H0 (w:W):Option (List W):=match w with
 | .lst l=> some l
 | .tup l=> some l
 | .str s=> some (Fj s)
 | .bytes s=> some (s.map λc=> .int (.ofNat c.toNat))
 | .dct ks vs=> ob (Hg ks vs) λd=> gd (GV (d.map λp=> p.1)) (some (d.map λp=> .int p.1))
 |_=> none
def listAt (σ:List O) (w:W):Option Nat:=onO σ w λi o=> ob (Dn o) λυ=> some i
noncomputable def CQ:Nat->Nat->List W
 |0,_=> []
 |n + 1,k=> .int (.ofNat k)::CQ n (k + 1)
def EP (ik:Nat) (w:W) (σ:List O):Option It:=match ik with
 |0=> orO (ob (H0 w) λl=> some (.vals l)) (ob (listAt σ w) λi=> some (.dyn i false))
 |1=> ob (BL w) λi=> ob (CY i) λn=> gd (Nat.ble n LIM) (some (.vals (CQ n 0)))
 |_=> ob (listAt σ w) λi=> some (.dyn i true)
def HK:List Nat->List W->LL->Option LL
 | [],[],l=> some l
 |k::ks,x::vs,l=> HK ks vs (put l k (some x))
 |_,_,_=> none
def FD (ks:List Nat) (x:W) (l:LL):Option LL:=match ks with
 | [k]=> some (put l k (some x))
 |ks=> ob (HG x) λvs=> HK ks vs l
def LZ (σ:List O) (w:W):Option (W × List O):=match w with
 | .ref i=> ob (nth σ i) λo=> ob (Dn o) λl=> some (.lst l,put σ i .dead)
 |w=> some (w,σ)
def Oq:List O->List W->Option (List W × List O)
 |σ,[]=> some ([],σ)
 |σ,w::r=> ob (LZ σ w) λp=> ob (Oq p.2 r) λq=> some (p.1::q.1,q.2)
def PD (σ:List O) (w:W):Option (W × List O):=orO (ob (onO σ w λi o=> ob (IS o) λp=> some (i,p.1,p.2)) λt=> ob (Oq (put σ t.1 .dead) t.2.2) λq=> some (.obj t.2.1 q.1,q.2)) (LZ σ w)
def truth (w:W):Option Bool:=PV w
abbrev SE:=LL->List O->R W
abbrev SS:=LL->List O->RS
noncomputable abbrev Run:=List W->List O->R W
noncomputable def args (es:List SE) (l:LL):List O->R (List W):=List.rec (λσ=> .ok [] σ) (λe υ ih σ=> (e l σ).bind λw σ=> (ih σ).bind λws σ=> .ok (w::ws) σ) es
noncomputable def block (ss:List SS):SS:=List.rec (λl σ=> .next l σ) (λs υ ih l σ=> (s l σ).then ih) ss
noncomputable def JG (e:Option SE) (l:LL) (σ:List O):R (Option W):=Option.rec (.ok none σ) (λe=> (e l σ).bind λw σ=> .ok (some w) σ) e
def GW (w:Option (Option W)) (σ:List O):R W:=Option.rec (.stuck 60) (λw=> kO 60 w σ) w
def mkL (m:Bool) (vs:List W) (σ:List O):R W:=Bool.rec (.stuck 68) (Bool.rec (.ok (.lst vs) σ) (.ok (.ref σ.length) (σ ++ [.list vs])) m) (Nat.ble vs.length LIM)
noncomputable def br {α:Type} (n:Nat) (t:Option Bool) (a b:R α):R α:=Option.rec (.stuck n) (λt=> Bool.rec b a t) t
noncomputable def brS (n:Nat) (t:Option Bool) (a b:RS):RS:=Option.rec (.stuck n) (λt=> Bool.rec b a t) t
def BW (t:Option Bool) (σ:List O):R W:=kO 70 (ob t λb=> some (.bool b)) σ
noncomputable def AQ (x:W):SE:=λl σ=> .ok x σ
def AE (k:Nat):SE:=λl σ=> GW (nth l k) σ
def DS (x:Option W):SE:=λl σ=> kO 61 x σ
def Az (e:SE) (alts:NN):SE:=λl σ=> (e l σ).bind λw σ=> kO 62 (getAttr σ w alts) σ
def C9 (e i:SE):SE:=λl σ=> (e l σ).bind λw σ=> (i l σ).bind λj σ=> kO 63 (getIdx σ w j) σ
def JW (e:SE) (lo hi:Option SE):SE:=λl σ=> (e l σ).bind λw σ=> (JG lo l σ).bind λa σ=> (JG hi l σ).bind λb σ=> kO 65 (EN w a b) σ
noncomputable def isAdd (o:Bop):Bool:=match o with | .add=> true |_=> false
def Hu (o:Bop) (m:Bool) (x y:W) (σ:List O):R W:=Option.rec (kO 66 (Yw o x y) σ) (λs=> Option.rec (.stuck 67) (λt=> mkL m (s ++ t) σ) (snap σ y)) (gd (isAdd o) (snap σ x))
def BU (o:Bop) (a b:SE) (m:Bool):SE:=λl σ=> (a l σ).bind λx σ=> (b l σ).bind λy σ=> Hu o m x y σ
def Jn (a:SE):SE:=λl σ=> (a l σ).bind λx σ=> kO 68 (ob (BL x) λi=> some (.int (Int.neg i))) σ
def Nr (a:SE):SE:=λl σ=> (a l σ).bind λx σ=> BW (Jo (truth x)) σ
def Aa (isAnd:Bool) (es:List SE):SE:=List.rec (λυ υ=> .stuck 80) (λe r ih l σ=> List.rec (e l σ) (λυ υ υ=> (e l σ).bind λw σ=> Bool.rec (br 81 (truth w) (.ok w σ) (ih l σ)) (br 81 (truth w) (ih l σ) (.ok w σ)) isAnd) r) es
def B7 (a:SE) (o:Cop) (b:SE):SE:=λl σ=> (a l σ).bind λx σ=> (b l σ).bind λy σ=> BW (C5 o x y) σ
def cY (a:SE) (neg:Bool):SE:=λl σ=> (a l σ).bind λx σ=> BW (ob (EI x) λt=> some (t !=neg)) σ
def E1 (a b:SE) (neg:Bool):SE:=λl σ=> (a l σ).bind λx σ=> (b l σ).bind λy σ=> BW (ob (EY σ x y) λt=> some (t !=neg)) σ
def OP (w:W):Option W:=ob (IE w) λq=> ob (Hg q.1 q.2) λd=> gd (GV (d.map λp=> p.1)) (some (.tup (d.map λp=> p.2)))
def IF (x y:W):Option Bool:=ob (Ax x) λs=> ob (HG y) λl=> O2 s l
def Z5 (a d:SE):SE:=λl σ=> (a l σ).bind λx σ=> ((d l σ).bind λw σ=> kO 47 (OP w) σ).bind λy σ=> BW (IF x y) σ
def Gy (a:SE) (o:Cop) (b:SE) (o':Cop) (c:SE):SE:=λl σ=> (a l σ).bind λx σ=> (b l σ).bind λy σ=> br 72 (C5 o x y) ((c l σ).bind λz σ=> BW (C5 o' y z) σ) (.ok (.bool false) σ)
def HV (t a b:SE):SE:=λl σ=> (t l σ).bind λx σ=> br 73 (truth x) (a l σ) (b l σ)
def JM (ws:List W) (σ:List O):R W:=kO 65 (gd (Nat.ble ws.length 4000) (some (.tup ws))) σ
def Bo (es:List SE):SE:=λl σ=> (args es l σ).bind JM
def S0 (es:List SE) (m:Bool):SE:=λl σ=> (args es l σ).bind λws σ=> mkL m ws σ
def Nx (ks:List (List Nat)) (vs:List SE):SE:=λl σ=> (args vs l σ).bind λws σ=> .ok (.ref σ.length) (σ ++ [.dict (ks.zip ws)])
def AZ (r:Run) (es:List SE):SE:=λl σ=> (args es l σ).bind r
def SG (all cs:List Nat) (w:W):Option Bool:=match w with | .obj c _=> gd (Ai all c) (some (Ai cs c)) | .none=> some false |_=> none
noncomputable def So (w:W):Option Bool:=match w with | .str _=> some true | .tup _=> some false | .lst _=> some false |_=> none
def gL (e:SE) (all cs:List Nat) (isStr:Bool):SE:=λl σ=> (e l σ).bind λw σ=> BW (Bool.rec (SG all cs w) (So w) isStr) σ
def CS (o:SE) (c:Nat) (r:Run) (es:List SE):SE:=λl σ=> (o l σ).bind λw σ=> kR 42 (ob (MA σ w) λp=> gd (Nat.beq p.1 c) (some ((args es l σ).bind λws σ=> r (w::ws) σ)))
def YF (o:SE) (alts:NN) (call:Nat->Run) (es:List SE):SE:=λl σ=> (o l σ).bind λw σ=> kR 43 (ob (getAttr σ w alts) λf=> ob (XN f) λa=> some ((args es l σ).bind λws σ=> call a ws σ))
noncomputable def Gn (o:O):Option Nat:=match o with | .list _=> some 1 | .barr _=> some 2 |_=> none
def Ci (σ:List O) (w:W):Option Nat:=match w with | .str _=> some 0 | .lst _=> some 1 | .dct _ _=> some 3 | .ref i=> ob (nth σ i) Gn |_=> none
noncomputable def Ka (k t:Nat):Bool:=match k with
 |0=> Nat.beq t 1 ||Nat.beq t 2
 |1=> Nat.beq t 1 ||Nat.beq t 2
 |2=> Nat.beq t 1
 |4=> Nat.beq t 0
 |5=> Nat.beq t 0
 |6=> Nat.beq t 0
 |7=> Nat.beq t 0
 |_=> false
def DF (o:SE) (k:Nat) (es:List SE):SE:=λl σ=> (o l σ).bind λw σ=> kR 44 (ob (Ci σ w) λt=> gd (Ka k t) (some ((args es l σ).bind λws σ=> kR 45 (ob (Ci σ w) λu=> gd (Nat.beq t u) (some (Cc k w ws σ))))))
def Sj (o:SE) (c:Nat):SE:=λl σ=> (o l σ).bind λw σ=> kO 46 (ob (Ax w) λs=> some (.str (Bh c s))) σ
def XA (e:SE):SE:=λl σ=> (e l σ).bind λw σ=> kR 79 (ob (PD σ w) λp=> some (.ok p.1 p.2))
noncomputable def fuel:Nat:=1000000
noncomputable def Dc (turn:W->List O->R (Option W)) (vs:List W):List W->List O->R (List W):=List.rec (λacc σ=> .ok acc σ) (λx υ ih acc σ=> (turn x σ).bind λy σ=> Option.rec (ih acc σ) (λy=> ih (acc ++ [y]) σ) y) vs
def itemAt (σ:List O) (i k:Nat):Option (Option W):=ob (nth σ i) λo=> ob (Dn o) λl=> some (nth l k)
def Gu (turn:W->List O->R (Option W)) (i:Nat) (f:Nat):Nat->List W->List O->R (List W):=Nat.rec (λυ υ υ=> .stuck 50) (λυ ih k acc σ=> Option.rec (.stuck 51) (λx=> Option.rec (.ok acc σ) (λx=> (turn x σ).bind λy σ=> Option.rec (ih (Nat.succ k) acc σ) (λy=> ih (Nat.succ k) (acc ++ [y]) σ) y) x) (itemAt σ i k)) f
def XB (ifs:List SE) (l:LL):List O->R Bool:=List.rec (λσ=> .ok true σ) (λe υ ih σ=> (e l σ).bind λw σ=> br 82 (truth w) (ih σ) (.ok false σ)) ifs
def FP (elt:SE) (tg:List Nat) (ifs:List SE) (l:LL) (x:W) (σ:List O):R (Option W):=kR 77 (ob (FD tg x l) λl'=> some ((XB ifs l' σ).bind λt σ=> Bool.rec (.ok none σ) ((elt l' σ).bind λw σ=> .ok (some w) σ) t))
def Co (it:It) (turn:W->List O->R (Option W)) (σ:List O):R (List W):=match it with
 | .vals vs=> Bool.rec (.stuck 77) (Dc turn vs [] σ) (Nat.ble vs.length LIM)
 | .dyn i false=> Gu turn i fuel 0 [] σ
 |_=> .stuck 78
def EG (elt:SE) (tg:List Nat) (ik:Nat) (it:SE) (ifs:List SE) (m:Bool):SE:=λl σ=> (it l σ).bind λw σ=> kR 78 (ob (EP ik w σ) λi=> some ((Co i (FP elt tg ifs l) σ).bind λvs σ=> mkL m vs σ))
abbrev ST:=W->SS
noncomputable def kS (n:Nat) (l:LL) (x:Option (List O)):RS:=Option.rec (.stuck n) (λσ=> .next l σ) x
def Bk (k:Nat):ST:=λw l σ=> .next (put l k (some w)) σ
def UQ (e:SE) (alts:NN):ST:=λw l σ=> (e l σ).toS l λo σ=> kS 96 l (setAttr σ o alts w)
def W3 (e i:SE):ST:=λw l σ=> (e l σ).toS l λo σ=> (i l σ).toS l λj σ=> kS 97 l (Qm σ o j w)
noncomputable def Fh:List ST->List W->SS
 | [],[],l,σ=> .next l σ
 |t::ts,w::ws,l,σ=> (t w l σ).then (Fh ts ws)
 |_,_,_,_=> .stuck 99
noncomputable def EX (t:ST) (e:SE):SS:=λl σ=> (e l σ).toS l λw σ=> t w l σ
def RZ (n:Nat) (w:W):Option (List W):=ob (HG w) λws=> gd (Nat.beq ws.length n) (some ws)
def KR (ts:List ST) (e:SE):SS:=λl σ=> (e l σ).toS l λw σ=> Option.rec (.stuck 100) (λws=> Fh ts ws l σ) (RZ ts.length w)
noncomputable def Fu (e:SE):SS:=λl σ=> (e l σ).toS l λυ σ=> .next l σ
noncomputable def C1 (e:Option SE):SS:=λl σ=> Option.rec (.ret .none σ) (λe=> (e l σ).toS l λw σ=> .ret w σ) e
def Ex (t:SE) (a b:SS):SS:=λl σ=> (t l σ).toS l λw σ=> brS 101 (truth w) (a l σ) (b l σ)
def B5 (t:SE) (b:SS) (n:Nat):SS:=Nat.rec (λυ υ=> .stuck 94) (λυ ih l σ=> (t l σ).toS l λw σ=> brS 95 (truth w) ((b l σ).then ih) (.next l σ)) n
def CB (t:SE) (b:SS):SS:=B5 t b fuel
def Er (tg:List Nat) (b:SS) (x:W) (k:SS):SS:=λl σ=> Option.rec (.stuck 90) (λl'=> (b l' σ).then k) (FD tg x l)
def Dl (tg:List Nat) (b:SS) (vs:List W):SS:=List.rec (λl σ=> .next l σ) (λx υ ih l σ=> Er tg b x ih l σ) vs
def EV (tg:List Nat) (b:SS) (i:Nat) (en:Bool) (n:Nat):Nat->SS:=Nat.rec (λυ υ υ=> .stuck 91) (λυ ih k l σ=> Option.rec (.stuck 93) (λx=> Option.rec (.next l σ) (λx=> Er tg b (Bool.rec x (.tup [.int (.ofNat k),x]) en) (ih (Nat.succ k)) l σ) x) (itemAt σ i k)) n
def T5 (tg:List Nat) (b:SS) (it:It):SS:=match it with
 | .vals vs=> Dl tg b vs
 | .dyn i en=> EV tg b i en fuel 0
def Xr (tg:List Nat) (ik:Nat) (it:SE) (b:SS):SS:=λl σ=> (it l σ).toS l λw σ=> Option.rec (.stuck 89) (λi=> T5 tg b i l σ) (EP ik w σ)
def EW (e:SE):SS:=λl σ=> (e l σ).toS l λw σ=> Option.rec (.stuck 102) (λp=> .exc p.1 p.2 l σ) (FT w)
def unb (n:Nat) (r:RS):RS:=RS.rec (λl σ=> .next (put l n none) σ) (λw σ=> .ret w σ) (λc fs l σ=> .exc c fs (put l n none) σ) (λn=> .stuck n) r
def Kf (name:Option (Nat × Nat)) (h:SS) (c:Nat) (fs:List W) (l:LL) (σ:List O):RS:=Option.rec (h l σ) (λn=> unb n.1 (h (put l n.1 (some (.obj c fs))) σ)) name
def HY (b:SS) (cs:List Nat) (name:Option (Nat × Nat)) (h:SS):SS:=λl σ=> RS.rec (λl σ=> .next l σ) (λw σ=> .ret w σ) (λc fs l σ=> Bool.rec (.stuck 103) (Kf name h c fs l σ) (Ai cs c)) (λn=> .stuck n) (b l σ)
noncomputable def Ua:SS:=λl σ=> .next l σ
noncomputable def BX (n:Nat) (ws:List W):LL:=Nat.rec (λws=> ws.map some) (λυ ih ws=> List.rec (none::ih []) (λw r υ=> some w::ih r) ws) n ws
def fill (np:Nat) (dfl:List W) (ws:List W):Option (List W):=gd (Nat.ble ws.length np) (gd (Nat.ble (Nat.sub np ws.length) dfl.length) (some (ws ++ drop' (Nat.sub dfl.length (Nat.sub np ws.length)) dfl)))
noncomputable def BC (r:RS):R W:=RS.rec (λυ σ=> .ok .none σ) (λw σ=> .ok w σ) (λc fs υ σ=> .exc c fs σ) (λn=> .stuck n) r
def Dr (np:Nat) (dfl:List W) (nl:Nat) (b:SS):Run:=λws σ=> Option.rec (.stuck 110) (λas=> BC (b (BX nl as) σ)) (fill np dfl ws)
def H9 (c:Nat) (init:Run):Run:=λws σ=> (init (.ref σ.length::ws) (σ ++ [.inst c []])).bind λw σ'=> kO 115 (ob (EI w) λt=> gd t (some (.ref σ.length))) σ'
def BE (c n:Nat):Run:=λws σ=> kO 114 (gd (Nat.beq ws.length n) (some (.obj c ws))) σ
structure Sys where
 glob:Nat->Option W
 fn:Nat->Run
 dyn:Nat->Run
 new:Nat->Bool->Run
 sub:Nat->List Nat
 all:List Nat
mutual
def sem (Z:Sys):E->SE
 | .lit x _=> AQ x
 | .loc k _ _=> AE k
 | .glob k _ _=> DS (Z.glob k)
 | .attr e alts _ _=> Az (sem Z e) alts
 | .idx e i _=> C9 (sem Z e) (sem Z i)
 | .slc e lo hi _ _=> JW (sem Z e) (N5 Z lo) (N5 Z hi)
 | .bin o a b m _=> BU o (sem Z a) (sem Z b) m
 | .neg a _=> Jn (sem Z a)
 | .not a _=> Nr (sem Z a)
 | .boolop t es _=> Aa t (CL Z es)
 | .cmp a o b _=> B7 (sem Z a) o (sem Z b)
 | .isN a neg _ _=> cY (sem Z a) neg
 | .mem a b neg _=> E1 (sem Z a) (sem Z b) neg
 | .cmp2 a o b o' c _=> Gy (sem Z a) o (sem Z b) o' (sem Z c)
 | .ite t a b _=> HV (sem Z t) (sem Z a) (sem Z b)
 | .tup es _=> Bo (CL Z es)
 | .lst es m _=> S0 (CL Z es) m
 | .dct ks vs _ _=> Nx ks (CL Z vs)
 | .call f args _ _ _=> AZ (Z.fn f) (CL Z args)
 | .new c m args _ _ _=> AZ (Z.new c m) (CL Z args)
 | .bcall f args _ _=> AZ (BJ f) (CL Z args)
 | .isi e k _ _ _ _=> gL (sem Z e) Z.all (Z.sub k) (Nat.beq k 0)
 | .mown o c f _ args _ _=> CS (sem Z o) c (Z.fn f) (CL Z args)
 | .mfld o alts _ args _ _=> YF (sem Z o) alts Z.dyn (CL Z args)
 | .mblt o k _ args _ _=> DF (sem Z o) k (CL Z args)
 | .dele o c _ _ _ _ _=> Sj (sem Z o) c
 | .comp elt tg _ _ ik it ifs _ m _ _ _ _=> EG (sem Z elt) tg ik (sem Z it) (CL Z ifs) m
 | .frz e=> XA (sem Z e)
 | .memv a d _ _ _ _=> Z5 (sem Z a) (sem Z d)
def CL (Z:Sys):List E->List SE
 | []=> []
 |e::r=> sem Z e::CL Z r
def N5 (Z:Sys):Option E->Option SE
 |none=> none
 |some e=> some (sem Z e)
end
def RJ (Z:Sys):T->ST
 | .loc k _ _=> Bk k
 | .attr e alts _ _=> UQ (sem Z e) alts
 | .idx e i _=> W3 (sem Z e) (sem Z i)
def EE (Z:Sys):List T->List ST
 | []=> []
 |t::r=> RJ Z t::EE Z r
mutual
def BK (Z:Sys):S->SS
 | .asg t e _=> EX (RJ Z t) (sem Z e)
 | .asgT ts e _ _=> KR (EE Z ts) (sem Z e)
 | .expr e _=> Fu (sem Z e)
 | .ret e _=> C1 (N5 Z e)
 | .ite t a b _=> Ex (sem Z t) (block (Ay Z a)) (block (Ay Z b))
 | .while t b _=> CB (sem Z t) (block (Ay Z b))
 | .for tg _ _ ik it b _ _ _ _=> Xr tg ik (sem Z it) (block (Ay Z b))
 | .raise e _=> EW (sem Z e)
 | .try b k name h _ _ _ _=> HY (block (Ay Z b)) (Z.sub k) name (block (Ay Z h))
 | .pass _=> Ua
def Ay (Z:Sys):List S->List SS
 | []=> []
 |s::r=> BK Z s::Ay Z r
end
end
section
open PySem PySem.W PySem.Calls PyProof.Rows
noncomputable abbrev AN:=PySem.Obj
inductive E13 {α:Type} (P Q R:α->Prop):Prop |mk (a:α) (h1:P a) (h2:Q a) (h3:R a)
inductive E14 {α:Type} (P Q R S:α->Prop):Prop |mk (a:α) (h1:P a) (h2:Q a) (h3:R a) (h4:S a)
inductive E16 {α:Type} (P Q R S T U:α->Prop):Prop |mk (a:α) (h1:P a) (h2:Q a) (h3:R a) (h4:S a) (h5:T a) (h6:U a)
inductive E22 {α β:Type} (P Q:α->β->Prop):Prop |mk (a:α) (b:β) (h1:P a b) (h2:Q a b)
inductive E23 {α β:Type} (P Q R:α->β->Prop):Prop |mk (a:α) (b:β) (h1:P a b) (h2:Q a b) (h3:R a b)
inductive E24 {α β:Type} (P Q R S:α->β->Prop):Prop |mk (a:α) (b:β) (h1:P a b) (h2:Q a b) (h3:R a b) (h4:S a b)
inductive E25 {α β:Type} (P Q R S T:α->β->Prop):Prop |mk (a:α) (b:β) (h1:P a b) (h2:Q a b) (h3:R a b) (h4:S a b) (h5:T a b)
inductive E32 {α β γ:Type} (P Q:α->β->γ->Prop):Prop |mk (a:α) (b:β) (c:γ) (h1:P a b c) (h2:Q a b c)
inductive E34 {α β γ:Type} (P Q R S:α->β->γ->Prop):Prop |mk (a:α) (b:β) (c:γ) (h1:P a b c) (h2:Q a b c) (h3:R a b c) (h4:S a b c)
inductive E42 {α β γ δ:Type} (P Q:α->β->γ->δ->Prop):Prop |mk (a:α) (b:β) (c:γ) (d:δ) (h1:P a b c d) (h2:Q a b c d)
inductive E52 {α β γ δ ε:Type} (P Q:α->β->γ->δ->ε->Prop):Prop |mk (a:α) (b:β) (c:γ) (d:δ) (e:ε) (h1:P a b c d e) (h2:Q a b c d e)
inductive E54 {α β γ δ ε:Type} (P Q R S:α->β->γ->δ->ε->Prop):Prop |mk (a:α) (b:β) (c:γ) (d:δ) (e:ε) (h1:P a b c d e) (h2:Q a b c d e) (h3:R a b c d e) (h4:S a b c d e)
inductive E62 {α β γ δ ε ζ:Type} (P Q:α->β->γ->δ->ε->ζ->Prop):Prop |mk (a:α) (b:β) (c:γ) (d:δ) (e:ε) (f:ζ) (h1:P a b c d e f) (h2:Q a b c d e f)
structure Cls where
 kind:Nat
 fields:List Nat
structure Tb where
 nm:Nat->Str
 sc:Nat->PySem.Scope
 cls:Nat->Option Cls
 Z:Sys
 p:Params
 gl:Nat->Option Nat
 ga:Nat->Option Nat
 bi:Nat->Option Nat
 ii:Nat
 cnt:Nat
 ctx:Nat->Bool
noncomputable def AS (vs:List Value) (n:Nat):AN:={cls:= .type "tuple",data:= .seq vs.toArray n}
noncomputable def AI (vs:List Value) (n:Nat):AN:={cls:= .type "list",data:= .seq vs.toArray n}
noncomputable def AM (es:List DictEntry) (n:Nat):AN:={cls:= .type "dict",data:= .dict es.toArray n}
noncomputable def Ao (b:List UInt8):AN:={cls:= .type "bytearray",data:= .bytearray b.toArray 0}
noncomputable def AH (T:Tb) (c:Nat):List Nat:=match T.cls c with |some k=> k.fields |none=> []
structure Mu where
 at_:Nat->Addr
 n:Nat
def Mu.le (a b:Mu):Prop:=a.n <= b.n/\∀i,i < a.n->b.at_ i=a.at_ i
theorem Mu.le_refl (a:Mu):a.le a:=⟨Nat.le_refl _,λυ υ=> rfl⟩
theorem Mu.le_trans {a b c:Mu} (x:a.le b) (y:b.le c):a.le c:=⟨Nat.le_trans x.1 y.1,λi h=> (y.2 i (Nat.lt_of_lt_of_le h x.1)).trans (x.2 i h)⟩
def a9 (p:Params) (e:DictEntry):K->Prop
 | .str s=>∃t,e.key= .str ⟨s.toArray⟩ t/\e.hash=PyData.keyHash p ⟨s.toArray⟩/\s.length <= LIM
 | .int i=>∃t,e.key= .int i t/\e.hash=hashInt i
abbrev Ad:=Addr->AN->Prop
inductive aY (s:List Nat) (v:Value):Prop |mk (t:Nat) (h1:v= .str ⟨s.toArray⟩ t) (h2:s.length <= LIM)
inductive aD (s:List UInt8) (v:Value):Prop |mk (t:Nat) (h1:v= .bytes s.toArray t) (h2:s.length <= LIM)
inductive UT (ob:List Value->Nat->AN) (F:Ad) (n:Nat) (R:List Value->Prop) (v:Value):Prop |mk (a:Addr) (vs:List Value) (k:Nat) (h1:v= .ref a) (h2:F a (ob vs k)) (h3:n <= LIM) (h4:R vs)
inductive bH (F:Ad) (R:List DictEntry->Prop) (v:Value):Prop |mk (a:Addr) (es:List DictEntry) (n:Nat) (h1:v= .ref a) (h2:F a (AM es n)) (h3:(a==sysModules)=false) (h4:R es)
inductive Zx (F:Ad) (c:Nat) (R:List DictEntry->Prop) (v:Value):Prop |mk (a:Addr) (o:AN) (d:Addr) (es:List DictEntry) (n:Nat) (h1:v= .ref a) (h2:F a o) (h3:o.cls= .ref c) (h4:notCls o=true) (h5:o.dict=some d) (h6:F d (AM es n)) (h7:R es)
inductive Zh (R:Value->Prop) (S:List Value->Prop) (vs:List Value):Prop |mk (v:Value) (us:List Value) (h1:vs=v::us) (h2:R v) (h3:S us)
inductive aM (T:Tb) (R:Value->Prop) (S:List K->List DictEntry->Prop) (ks:List K) (es:List DictEntry):Prop |mk (k:K) (ks':List K) (e:DictEntry) (es':List DictEntry) (h1:ks=k::ks') (h2:es=e::es') (h3:a9 T.p e k) (h4:R e.val) (h5:S ks' es')
inductive aT (T:Tb) (R:Value->Prop) (S:List Nat->List DictEntry->Prop) (as:List Nat) (es:List DictEntry):Prop |mk (a:Nat) (as':List Nat) (e:DictEntry) (es':List DictEntry) (t:Nat) (h1:as=a::as') (h2:es=e::es') (h3:e.key= .str (T.nm a) t) (h4:R e.val) (h5:S as' es')
mutual
def Rel (T:Tb) (F:Ad) (μ:Mu):W->Value->Prop
 | .none,v=> v= .none
 | .bool b,v=> v= .bool b
 | .int i,v=>∃t,v= .int i t
 | .str s,v=> aY s v
 | .bytes b,v=> aD b v
 | .fn a,v=> v= .ref a
 | .ref i,v=> v= .ref (μ.at_ i)/\i < μ.n
 | .tup l,v=> UT AS F l.length (λvs=> AD T F μ l vs) v
 | .lst l,v=> UT AI F l.length (λvs=> AD T F μ l vs) v
 | .dct ks xs,v=> bH F (λes=> CT T F μ xs ks es) v
 | .obj c fs,v=> Zx F c (λes=> Af T F μ fs (AH T c) es) v
def AD (T:Tb) (F:Ad) (μ:Mu):List W->List Value->Prop
 | [],vs=> vs= []
 |w::r,vs=> Zh (λv=> Rel T F μ w v) (λus=> AD T F μ r us) vs
def CT (T:Tb) (F:Ad) (μ:Mu):List W->List K->List DictEntry->Prop
 | [],ks,es=> ks= []/\es= []
 |w::r,ks,es=> aM T (λv=> Rel T F μ w v) (λks es=> CT T F μ r ks es) ks es
def Af (T:Tb) (F:Ad) (μ:Mu):List W->List Nat->List DictEntry->Prop
 | [],_,es=> es= []
 |w::r,as,es=> aT T (λv=> Rel T F μ w v) (λas es=> Af T F μ r as es) as es
end
section
variable {T:Tb} {F F':Ad} {μ μ':Mu} (m:∀a o,F a o->F' a o) (q:μ.le μ')
include m q
mutual
theorem Rel.mono:∀{w:W} {v:Value},Rel T F μ w v->Rel T F' μ' w v
 | .none,_,h=> h
 | .bool _,_,h=> h
 | .int _,_,h=> h
 | .str _,_,h=> h
 | .bytes _,_,h=> h
 | .fn _,_,h=> h
 | .ref i,_,h=> ⟨h.1.trans (congrArg Value.ref (q.2 i h.2).symm),Nat.lt_of_lt_of_le h.2 q.1⟩
 | .tup _,_,⟨a,vs,n,h1,h2,h3,h4⟩=> ⟨a,vs,n,h1,m _ _ h2,h3,AD.mono h4⟩
 | .lst _,_,⟨a,vs,n,h1,h2,h3,h4⟩=> ⟨a,vs,n,h1,m _ _ h2,h3,AD.mono h4⟩
 | .dct _ _,_,⟨a,es,n,h1,h2,h3,h4⟩=> ⟨a,es,n,h1,m _ _ h2,h3,CT.mono h4⟩
 | .obj _ _,_,⟨a,o,d,es,n,h1,h2,h3,h4,h5,h6,h7⟩=> ⟨a,o,d,es,n,h1,m _ _ h2,h3,h4,h5,m _ _ h6,Af.mono h7⟩
theorem AD.mono:∀{l:List W} {vs:List Value},AD T F μ l vs->AD T F' μ' l vs
 | [],_,h=> h
 |_::_,_,⟨v,us,h1,h2,h3⟩=> ⟨v,us,h1,Rel.mono h2,AD.mono h3⟩
theorem CT.mono:∀{l:List W} {ks:List K} {es:List DictEntry},CT T F μ l ks es->CT T F' μ' l ks es
 | [],_,_,h=> h
 |_::_,_,_,⟨k,ks,e,es,h1,h2,h3,h4,h5⟩=> ⟨k,ks,e,es,h1,h2,h3,Rel.mono h4,CT.mono h5⟩
theorem Af.mono:∀{l:List W} {as:List Nat} {es:List DictEntry},Af T F μ l as es->Af T F' μ' l as es
 | [],_,_,h=> h
 |_::_,_,_,⟨a,as,e,es,t,h1,h2,h3,h4,h5⟩=> ⟨a,as,e,es,t,h1,h2,h3,Rel.mono h4,Af.mono h5⟩
end
end
section
variable {T:Tb} {F:Ad} {μ:Mu}
theorem AD.length {vs:List Value}:∀{l:List W},AD T F μ l vs->vs.length=l.length:=by
 intro l;induction l generalizing vs with
 |nil=> intro h;cases (show vs= [] from h);rfl
 |cons w r ih=> rintro ⟨v,us,rfl,_,h⟩;exact congrArg Nat.succ (ih h)
theorem AD.append {l':List W} {us:List Value} (k:AD T F μ l' us) {l:List W} {vs:List Value}:AD T F μ l vs->AD T F μ (l ++ l') (vs ++ us):=by
 induction l generalizing vs with
 |nil=> intro h;cases (show vs= [] from h);exact k
 |cons w r ih=> rintro ⟨v,us,rfl,h1,h2⟩;exact ⟨v,_,rfl,h1,ih h2⟩
theorem AD.one {w:W} {v:Value} (h:Rel T F μ w v):AD T F μ [w] [v]:=⟨v,[],rfl,h,rfl⟩
theorem V9 {α:Type} (k:Nat):nth ([]:List α) k=none:=rfl
theorem SK {α:Type} (x:α) (l:List α) (k:Nat):nth (x::l) (k + 1)=nth l k:=rfl
theorem AL {α:Type} (l:List α):∀k,nth l k=l[k]? :=by
 induction l with
 |nil=> intro k;rw [V9];simp
 |cons x l ih=> intro k;induction k with
  |zero=> rfl
  |succ k=> rw [SK,ih k];simp
theorem AD.nth {l:List W} {vs:List Value} {n:Nat} {x:W}:AD T F μ l vs->AR.nth l n=some x->∃v,vs[n]? =some v/\Rel T F μ x v:=by
 induction l generalizing vs n with
 |nil=> intro _ e;cases e
 |cons w r ih=>
  rintro ⟨v,us,rfl,h1,h2⟩ e;induction n with
  |zero=> cases e;exact ⟨v,rfl,h1⟩
  |succ n=> obtain ⟨u,q1,q2⟩:=ih h2 e;exact ⟨u,by simpa using q1,q2⟩
theorem AD.drop {n:Nat} {l:List W} {vs:List Value}:AD T F μ l vs->AD T F μ (l.drop n) (vs.drop n):=by
 induction l generalizing vs n with
 |nil=> intro h;cases (show vs= [] from h);simp;rfl
 |cons w r ih=>
  rintro ⟨v,us,rfl,h1,h2⟩;induction n with
  |zero=> exact ⟨v,us,rfl,h1,h2⟩
  |succ n=> exact ih h2
theorem AD.take {n:Nat} {l:List W} {vs:List Value}:AD T F μ l vs->AD T F μ (l.take n) (vs.take n):=by
 induction l generalizing vs n with
 |nil=> intro h;cases (show vs= [] from h);simp;rfl
 |cons w r ih=>
  rintro ⟨v,us,rfl,h1,h2⟩;induction n with
  |zero=> rfl
  |succ n=> exact ⟨v,_,rfl,h1,ih h2⟩
theorem gV {α:Type} (x y:α) (l:List α):put (x::l) 0 y=y::l:=rfl
theorem Ry {α:Type} (x y:α) (l:List α) (k:Nat):put (x::l) (k + 1) y=x::put l k y:=rfl
theorem Cm {α:Type} (l:List α):∀k y,put l k y=l.set k y:=by
 induction l with
 |nil=> intro k y;rfl
 |cons x l ih=> intro k y;induction k with
  |zero=> rfl
  |succ k=> rw [Ry,ih k];rfl
theorem Fg {α:Type} (l:List α) (k:Nat) (y:α):(put l k y).length=l.length:=by rw [Cm,List.length_set]
theorem Df {α:Type} (l:List α) (i k:Nat) (y:α):nth (put l i y) k=if i=k then (if k < l.length then some y else none) else nth l k:=by
 rw [AL,AL,Cm,List.getElem?_set];by_cases h:i=k
 ·subst h;simp
 ·simp [h]
theorem LR {α:Type} {l:List α} {k:Nat} {y:α} (h:nth l k=some y):k < l.length:=by
 rw [AL] at h;exact (List.getElem?_eq_some_iff.mp h).1
theorem CZ {α:Type} {l:List α} {y:α} {k:Nat} {z:α} (h:nth (l ++ [y]) k=some z):(k < l.length/\nth l k=some z)\/(k=l.length/\z=y):=by
 rw [AL,List.getElem?_append] at h;by_cases q:k < l.length
 ·rw [if_pos q] at h;exact .inl ⟨q,by rw [AL];exact h⟩
 ·rw [if_neg q] at h;have hk:k - l.length < 1:=(List.getElem?_eq_some_iff.mp h).1;obtain rfl:k=l.length:=by lia
  rw [Nat.sub_self] at h;cases h;exact .inr ⟨rfl,rfl⟩
theorem AD.put {l:List W} {vs:List Value} {n:Nat} {x:W} {v:Value} (hx:Rel T F μ x v):AD T F μ l vs->AD T F μ (AR.put l n x) (vs.set n v):=by
 induction l generalizing vs n with
 |nil=> intro h;cases (show vs= [] from h);rfl
 |cons w r ih=>
  rintro ⟨u,us,rfl,h1,h2⟩;induction n with
  |zero=> exact ⟨v,us,rfl,hx,h2⟩
  |succ n=> exact ⟨u,_,rfl,h1,ih h2⟩
inductive ObS {α β:Type} (x:Option α) (f:α->Option β) (y:β):Prop |mk (a:α) (h1:x=some a) (h2:f a=some y)
theorem AA {α β:Type} {x:Option α} {f:α->Option β} {y:β} (e:ob x f=some y):ObS x f y:=by
 induction x using oC with
 |none=> cases e
 |some a=> exact ⟨a,rfl,e⟩
theorem AJ {α:Type} {b:Bool} {x:Option α} {y:α} (e:gd b x=some y):b=true/\x=some y:=by
 induction b using bC with
 |false=> cases e
 |true=> exact ⟨rfl,e⟩
theorem AX {α:Type} {x y:Option α} {z:α} (e:orO x y=some z):x=some z\/y=some z:=by
 induction x using oC with
 |none=> exact .inr e
 |some a=> exact .inl e
theorem nn {α:Type} {a:α} {P:Prop} (e:(none:Option α)=some a):P:=nomatch e
theorem si {α β:Type} {a b:α} {f:α->β} (e:some a=some b):f a=f b:=congrArg f (sIj e)
theorem A8 {w:W} {i:Int} (e:BL w=some i):w= .int i:=by cases w <;> first |exact nn e |exact si (f:=W.int) e
theorem Au {w:W} {i:List Nat} (e:Ax w=some i):w= .str i:=by cases w <;> first |exact nn e |exact si (f:=W.str) e
theorem Ce {w:W} {i:List UInt8} (e:DZ w=some i):w= .bytes i:=by cases w <;> first |exact nn e |exact si (f:=W.bytes) e
theorem GQ {w:W} {i:Bool} (e:PV w=some i):w= .bool i:=by cases w <;> first |exact nn e |exact si (f:=W.bool) e
theorem Dm {w:W} {i:List W} (e:HG w=some i):w= .tup i:=by cases w <;> first |exact nn e |exact si (f:=W.tup) e
theorem Fd {w:W} {i:List W} (e:IX w=some i):w= .lst i:=by cases w <;> first |exact nn e |exact si (f:=W.lst) e
theorem VX {w:W} {i:Nat} (e:XN w=some i):w= .fn i:=by cases w <;> first |exact nn e |exact si (f:=W.fn) e
theorem Eg {w:W} {i:Nat} (e:Gs w=some i):w= .ref i:=by cases w <;> first |exact nn e |exact si (f:=W.ref) e
theorem Si {w:W} {p:Nat × List W} (e:FT w=some p):w= .obj p.1 p.2:=by cases w <;> first |exact nn e |exact si (f:=λp:Nat × List W=> W.obj p.1 p.2) e
theorem HX {w:W} {p:List K × List W} (e:IE w=some p):w= .dct p.1 p.2:=by cases w <;> first |exact nn e |exact si (f:=λp:List K × List W=> W.dct p.1 p.2) e
theorem Bj {o:O} {l:List W} (e:Dn o=some l):o= .list l:=by cases o <;> first |exact nn e |exact si (f:=O.list) e
theorem Le {o:O} {l:List (List Nat × W)} (e:O3 o=some l):o= .dict l:=by cases o <;> first |exact nn e |exact si (f:=O.dict) e
theorem Hk {o:O} {p:Nat × List W} (e:IS o=some p):o= .inst p.1 p.2:=by cases o <;> first |exact nn e |exact si (f:=λp:Nat × List W=> O.inst p.1 p.2) e
theorem Hm {o:O} {l:List UInt8} (e:FN o=some l):o= .barr l:=by cases o <;> first |exact nn e |exact si (f:=O.barr) e
theorem CC {i:Int} {n:Nat} (e:CY i=some n):i=(n:Int):=by cases i <;> cases e;rfl
end
noncomputable def lvN (h:Heap):Nat->Nat
 |0=> 0
 |n + 1=> if (h.get? n).isSome then n + 1 else lvN h n
def lv (h:Heap):Nat:=lvN h h.objs.size
theorem Qt {h:Heap} {a:Addr} {o:AN} (e:h.get? a=some o):∀n,a < n->a < lvN h n
 |0,q=> q
 |n + 1,q=> by
  unfold lvN
  split
  ·exact q
  ·rename_i k
   have:a ≠ n:=λz=> k (by rw [<- z,e];rfl)
   exact Qt e n (Nat.lt_of_le_of_ne (Nat.le_of_lt_succ q) this)
theorem Ak {h:Heap} {a:Addr} {o:AN} (e:h.get? a=some o):a < lv h:=Qt e _ (Heap.lt_size e)
theorem PZ {h:Heap} {k:Nat} (e:∀b o,h.get? b=some o->b < k):∀n,lvN h n <= k
 |0=> Nat.zero_le _
 |n + 1=> by
  unfold lvN
  split
  ·rename_i q
   obtain ⟨o,ho⟩:=Option.isSome_iff_exists.mp q;exact e n o ho
  ·exact PZ e n
theorem Ti {h:Heap} {k:Nat} (e:∀b o,h.get? b=some o->b < k):lv h <= k:=PZ e _
theorem Al (h:Heap):lv h <= h.objs.size:=Ti λυ υ e=> Heap.lt_size e
theorem Cg {h h':Heap} (k:∀b o,h.get? b=some o->∃o',h'.get? b=some o'):lv h <= lv h':=Ti λb o e=> let ⟨_,e'⟩:=k b o e;Ak e'
abbrev Keeps (h h':Heap):Prop:=∀b o,h.get? b=some o->h'.get? b=some o
abbrev C2 (h h':Heap):Prop:=∀b o,h.get? b=some o->∃o',h'.get? b=some o'
theorem Cf {h h':Heap} (k:Keeps h h'):C2 h h':=λb o e=> ⟨o,k b o e⟩
theorem C7 {h h':Heap} {c:Addr} {o:AN} (k:∀b,b ≠ c->h'.get? b=h.get? b) (e:h'.get? c=some o):C2 h h':=λb y hb=> by
 by_cases q:b=c
 ·exact ⟨o,q▸e⟩
 ·exact ⟨y,(k b q).trans hb⟩
theorem C2.trans {a b c:Heap} (x:C2 a b) (y:C2 b c):C2 a c:=λn o e=> let ⟨_,e'⟩:=x n o e;y n _ e'
theorem EH {h h':Heap} (k:Keeps h h'):lv h <= lv h':=Cg λb o e=> ⟨o,k b o e⟩
theorem QH {h h':Heap} {c:Addr} {o:AN} (k:∀b,b ≠ c->h'.get? b=h.get? b) (e:h'.get? c=some o):lv h <= lv h':=Cg λb y hb=> by
 by_cases q:b=c
 ·exact ⟨o,q▸e⟩
 ·exact ⟨y,(k b q).trans hb⟩
theorem Cu {h:Heap} {a:Addr} {m:Str->Option Value} (e:h.Ns a m):a < lv h:=let ⟨_,_,_,e,_⟩:=e;Ak e
theorem Ab (h:Heap) (o:AN):Keeps h (h.push o):=λb y e=> Heap.get?_push_of_some o e
def Fz (h:Heap) (bad:Addr->Prop) (a:Addr) (o:AN):Prop:=h.get? a=some o/\¬ bad a
inductive bJ (R:W->Value->Prop) (S:List DictEntry->Prop) (p:Params) (q:List Nat × W) (es:List DictEntry):Prop |mk (e:DictEntry) (es':List DictEntry) (t:Nat) (h1:es=e::es') (h2:e.key= .str ⟨q.1.toArray⟩ t) (h3:e.hash=PyData.keyHash p ⟨q.1.toArray⟩) (h4:q.1.length <= LIM) (h5:R q.2 e.val) (h6:S es')
def B2 (R:W->Value->Prop) (p:Params):List (List Nat × W)->List DictEntry->Prop
 | [],es=> es= []
 |q::r,es=> bJ R (λes=> B2 R p r es) p q es
theorem B2.mono {R R':W->Value->Prop} {p:Params} (m:∀w v,R w v->R' w v) {d:List (List Nat × W)} {es:List DictEntry}:B2 R p d es->B2 R' p d es:=by
 induction d generalizing es with
 |nil=> exact id
 |cons q r ih=> exact λ⟨e,es',t,h1,h2,h3,h4,h5,h6⟩=> ⟨e,es',t,h1,h2,h3,h4,m _ _ h5,ih h6⟩
noncomputable def O.ad (o:O) (m d:Addr):List Addr:=match o with
 | .inst _ _=> [m,d]
 | .dead=> []
 |_=> [m]
structure Wx where
 bad:Addr->Prop
 μ:Nat->Addr
 δ:Nat->Addr
 σ:List O
noncomputable def Wx.mu (x:Wx):Mu:=⟨x.μ,x.σ.length⟩
inductive LstAt (T:Tb) (h:Heap) (F:Ad) (μ:Mu) (m:Addr) (l:List W):Prop |mk (vs:List Value) (n:Nat) (h1:h.get? m=some (AI vs n)) (h2:AD T F μ l vs) (h3:l.length <= LIM)
inductive bP (T:Tb) (h:Heap) (F:Ad) (μ:Mu) (m:Addr) (l:List (List Nat × W)):Prop |mk (es:List DictEntry) (n:Nat) (h1:h.get? m=some (AM es n)) (h2:B2 (Rel T F μ) T.p l es) (h3:l.length <= LIM/\(m==sysModules)=false/\(l.map (·.1)).Nodup)
inductive ak (T:Tb) (h:Heap) (F:Ad) (μ:Mu) (m d:Addr) (c:Nat) (fs:List W):Prop |mk (es:List DictEntry) (n:Nat) (h1:h.get? m=some (instObj c d)) (h2:h.get? d=some (AM es n)) (h3:Af T F μ fs (AH T c) es)
def CO (T:Tb) (h:Heap) (F:Ad) (μ:Mu) (m d:Addr):O->Prop
 | .list l=> LstAt T h F μ m l
 | .dict l=> bP T h F μ m l
 | .inst c fs=> ak T h F μ m d c fs
 | .barr b=> h.get? m=some (Ao b)/\b.length <= LIM
 | .dead=> True
theorem CO.mono {T:Tb} {h h':Heap} {F F':Ad} {μ μ':Mu} {m d:Addr} (mF:∀a o,F a o->F' a o) (q:μ.le μ') {o:O} (k:∀a ∈ O.ad o m d,h'.get? a=h.get? a) (at_:CO T h F μ m d o):CO T h' F' μ' m d o:=by
 induction o using O.casesOn with
 |list l=> exact let ⟨vs,n,e,r,z⟩:=at_;⟨vs,n,(k m (.head _)).trans e,r.mono mF q,z⟩
 |dict l=> exact let ⟨vs,n,e,r,z⟩:=at_;⟨vs,n,(k m (.head _)).trans e,r.mono λυ υ y=> y.mono mF q,z⟩
 |inst c fs=> exact let ⟨es,n,e1,e2,r⟩:=at_;⟨es,n,(k m (.head _)).trans e1,(k d (.tail _ (.head _))).trans e2,r.mono mF q⟩
 |barr b=> exact ⟨(k m (.head _)).trans at_.1,at_.2⟩
 |dead=> trivial
theorem CO.live {T:Tb} {h:Heap} {F:Ad} {μ:Mu} {m d:Addr} {o:O} (at_:CO T h F μ m d o) {a:Addr} (ha:a ∈ O.ad o m d):∃y,h.get? a=some y:=by
 induction o using O.casesOn with
 |list l=> exact let ⟨_,_,e,_,_⟩:=at_;⟨_,mSg ha▸e⟩
 |dict l=> exact let ⟨_,_,e,_,_⟩:=at_;⟨_,mSg ha▸e⟩
 |inst c fs=>
  obtain ⟨_,_,e1,e2,_⟩:=at_;rcases mCo ha with rfl |ha
  ·exact ⟨_,e1⟩
  ·exact ⟨_,mSg ha▸e2⟩
 |barr b=> exact ⟨_,mSg ha▸at_.1⟩
 |dead=> exact nomatch ha
structure Wd (T:Tb) (hb:Heap) (x:Wx) (h:Heap):Prop where
 top:Keeps hb h
 topF:∀a o,hb.get? a=some o->¬ x.bad a
 fit:∀a,x.bad a->a < lv h
 own:∀i o,nth x.σ i=some o->CO T h (Fz h x.bad) x.mu (x.μ i) (x.δ i) o
 ownB:∀i o,nth x.σ i=some o->∀a ∈ O.ad o (x.μ i) (x.δ i),x.bad a
 self:∀i c fs,nth x.σ i=some (.inst c fs)->x.μ i ≠ x.δ i
 sep:∀i j oi oj,i ≠ j->nth x.σ i=some oi->nth x.σ j=some oj->∀a ∈ O.ad oi (x.μ i) (x.δ i),a ∉ O.ad oj (x.μ j) (x.δ j)
def Wx.owned (x:Wx) (a:Addr):Prop:=∃i o,nth x.σ i=some o/\a ∈ O.ad o (x.μ i) (x.δ i)
structure Ext (mod:Addr->Prop) (bad bad':Addr->Prop) (h h':Heap):Prop where
 keep:∀a o,h.get? a=some o->¬ mod a->h'.get? a=some o
 bads:∀a,bad' a->bad a\/lv h <= a
 size:C2 h h'
theorem Ext.refl (mod:Addr->Prop) (bad:Addr->Prop) (h:Heap):Ext mod bad bad h h:=⟨λυ υ e υ=> e,λυ b=> .inl b,λυ o e=> ⟨o,e⟩⟩
theorem Ext.fz {mod bad bad':Addr->Prop} {h h':Heap} (x:Ext mod bad bad' h h') (m:∀a,mod a->bad a):∀a o,Fz h bad a o->Fz h' bad' a o:=
 λa o e=> ⟨x.keep a o e.1 λq=> e.2 (m a q),λq=> (x.bads a q).elim e.2 λz=> Nat.not_lt.mpr z (Ak e.1)⟩
theorem Ext.trans {mod mod' bad bad' bad'':Addr->Prop} {h h' h'':Heap} (x:Ext mod bad bad' h h') (y:Ext mod' bad' bad'' h' h'') (m:∀a o,h.get? a=some o->mod' a->mod a):Ext mod bad bad'' h h'':=
 ⟨λa o e n=> y.keep a o (x.keep a o e n) λq=> n (m a o e q),λa q=> (y.bads a q).elim (x.bads a) λz=> .inr (Nat.le_trans (Cg x.size) z),x.size.trans y.size⟩
section
variable {T:Tb} {hb:Heap} {x:Wx} {h h':Heap}
theorem Wd.fz (D:Wd T hb x h) {a:Addr} {o:AN} (e:hb.get? a=some o):Fz h x.bad a o:=⟨D.top a o e,D.topF a o e⟩
theorem Wd.DQ (D:Wd T hb x h) {a:Addr} (e:x.owned a):x.bad a:=let ⟨i,o,ho,ha⟩:=e;D.ownB i o ho a ha
theorem Wd.live (D:Wd T hb x h) {i:Nat} {o:O} (q:nth x.σ i=some o) {a:Addr} (ha:a ∈ O.ad o (x.μ i) (x.δ i)):∃y,h.get? a=some y:=(D.own i o q).live ha
theorem Wd.quiet (D:Wd T hb x h) {mod bad':Addr->Prop} (e:Ext mod x.bad bad' h h') (m:∀a,mod a->x.bad a) (no:∀a,mod a->¬ x.owned a)
  (bb:∀a,x.owned a->bad' a) (ft:∀a,bad' a->a < lv h'):Wd T hb {x with bad:=bad'} h':=by
 have fz:=e.fz m;refine ⟨λa o q=> (fz a o (D.fz q)).1,λa o q=> (fz a o (D.fz q)).2,ft,λi o q=> ?_,λi o q a ha=> bb a ⟨i,o,q,ha⟩,D.self,D.sep⟩;refine (D.own i o q).mono fz (Mu.le_refl _) λa ha=> ?_
 obtain ⟨y,hy⟩:=D.live q ha;rw [hy];exact e.keep a y hy λq'=> no a q' ⟨i,o,q,ha⟩
noncomputable def upd {α:Type} (f:Nat->α) (n:Nat) (a:α):Nat->α:=λi=> if i=n then a else f i
theorem GX {α:Type} {f:Nat->α} {n i:Nat} {a:α} (h:i < n):upd f n a i=f i:=if_neg (Nat.ne_of_lt h)
theorem Dz {α:Type} {f:Nat->α} {n:Nat} {a:α}:upd f n a n=a:=if_pos rfl
def Wx.add (x:Wx) (o:O) (m d:Addr):Wx:=⟨λa=> x.bad a\/a ∈ O.ad o m d,upd x.μ x.σ.length m,upd x.δ x.σ.length d,x.σ ++ [o]⟩
def Wx.set (x:Wx) (i:Nat) (o:O):Wx:={x with σ:=put x.σ i o}
theorem Wx.MB (x:Wx) (i:Nat) (o:O):(x.set i o).mu=x.mu:=by unfold Wx.set Wx.mu;simp only [Fg]
theorem Wx.F4 (x:Wx) (o:O) (m d:Addr):x.mu.le (x.add o m d).mu:=⟨by simp [Wx.mu,Wx.add],λi h=> GX h⟩
theorem Wx.Dh {x:Wx} {i:Nat} {o:O} {k:Nat} {z:O} (e:nth (x.set i o).σ k=some z):(k=i/\z=o)\/(k ≠ i/\nth x.σ k=some z):=by
 unfold Wx.set at e;simp only [Df] at e;by_cases q:i=k
 ·rw [if_pos q] at e
  split at e
  ·exact .inl ⟨q.symm,(sIj e).symm⟩
  ·exact nn e
 ·rw [if_neg q] at e;exact .inr ⟨λz=> q z.symm,e⟩
theorem Wx.set_owned {x:Wx} {i:Nat} {o o':O} (ho:nth x.σ i=some o) (sh:O.ad o' (x.μ i) (x.δ i)=O.ad o (x.μ i) (x.δ i)) {a:Addr}:(x.set i o').owned a->x.owned a:=λ⟨j,y,hj,ha⟩=> by
 rcases Wx.Dh hj with ⟨rfl,rfl⟩ |⟨_,e⟩
 ·exact ⟨j,o,ho,sh▸ha⟩
 ·exact ⟨j,y,e,ha⟩
theorem Wx.J0 {x:Wx} {o:O} {m d a:Addr}:(x.add o m d).owned a->x.owned a\/a ∈ O.ad o m d:=λ⟨j,y,hj,ha⟩=> by
 rcases CZ hj with ⟨q,e⟩ |⟨rfl,rfl⟩
 ·have ha:a ∈ O.ad y (upd x.μ x.σ.length m j) (upd x.δ x.σ.length d j):=ha;rw [GX q,GX q] at ha;exact .inl ⟨j,y,e,ha⟩
 ·have ha:a ∈ O.ad y (upd x.μ x.σ.length m _) (upd x.δ x.σ.length d _):=ha;rw [Dz,Dz] at ha;exact .inr ha
theorem Wd.set (D:Wd T hb x h) {i:Nat} {o o':O} (ho:nth x.σ i=some o) (sh:O.ad o' (x.μ i) (x.δ i)=O.ad o (x.μ i) (x.δ i)\/O.ad o' (x.μ i) (x.δ i)= [])
  (kp:∀a y,h.get? a=some y->a ∉ O.ad o (x.μ i) (x.δ i)->h'.get? a=some y) (sz:lv h <= lv h')
  (at':(∀a y,Fz h x.bad a y->Fz h' x.bad a y)->CO T h' (Fz h' x.bad) x.mu (x.μ i) (x.δ i) o') (sf:∀c fs,o' = .inst c fs->x.μ i ≠ x.δ i):Wd T hb (x.set i o') h':=by
 have sub:∀a,a ∈ O.ad o' (x.μ i) (x.δ i)->a ∈ O.ad o (x.μ i) (x.δ i):=λa m=> sh.elim (λe=> e▸m) λe=> by rw [e] at m;exact nomatch m
 have fz:∀a y,Fz h x.bad a y->Fz h' x.bad a y:=λa y e=> ⟨kp a y e.1 λq=> e.2 (D.ownB i o ho a q),e.2⟩
 refine ⟨λa y q=> (fz a y (D.fz q)).1,D.topF,λa q=> Nat.lt_of_lt_of_le (D.fit a q) sz,λk z e=> ?_,λk z e a ha=> ?_,λk c fs e=> ?_,λk j ok oj ne e1 e2 a ha hb=> ?_⟩
 ·rw [Wx.MB];clear sf sh sub;rcases Wx.Dh e with ⟨rfl,rfl⟩ |⟨ne,e⟩
  ·exact at' fz
  ·refine (D.own k z e).mono fz (Mu.le_refl _) λa ha=> ?_
   obtain ⟨y,hy⟩:=D.live e ha;rw [hy];exact kp a y hy λq=> D.sep k i z o ne e ho a ha q
 ·clear at' kp sf sh;rcases Wx.Dh e with ⟨rfl,rfl⟩ |⟨ne,e⟩
  ·exact D.ownB k o ho a (sub a ha)
  ·exact D.ownB k z e a ha
 ·clear at' ho kp sh sub;rcases Wx.Dh e with ⟨rfl,q⟩ |⟨ne,e⟩
  ·exact sf c fs q.symm
  ·exact D.self k c fs e
 ·clear at' kp sf sh;rcases Wx.Dh e1 with ⟨rfl,rfl⟩ |⟨n1,f1⟩
  ·clear e1;rcases Wx.Dh e2 with ⟨rfl,rfl⟩ |⟨n2,f2⟩
   ·exact ne rfl
   ·exact D.sep k j o oj ne ho f2 a (sub a ha) hb
  ·clear e1 n1;rcases Wx.Dh e2 with ⟨rfl,rfl⟩ |⟨n2,f2⟩
   ·exact D.sep k j ok o ne f1 ho a ha (sub a hb)
   ·exact D.sep k j ok oj ne f1 f2 a ha hb
theorem Wd.add (D:Wd T hb x h) {o:O} {m d:Addr} (kp:Keeps h h') (fr:∀a ∈ O.ad o m d,lv h <= a/\a < lv h') (md:m ≠ d)
  (at':(∀a y,Fz h x.bad a y->Fz h' (x.add o m d).bad a y)->CO T h' (Fz h' (x.add o m d).bad) (x.add o m d).mu m d o):Wd T hb (x.add o m d) h':=by
 have fz:∀a y,Fz h x.bad a y->Fz h' (x.add o m d).bad a y:=λa y e=> ⟨kp a y e.1,λq=> q.elim e.2 λz=> Nat.not_lt.mpr (fr a z).1 (Ak e.1)⟩
 have old:∀k z,nth x.σ k=some z->∀a ∈ O.ad z (x.μ k) (x.δ k),a ∉ O.ad o m d:=λk z e a ha q=> Nat.not_lt.mpr (fr a q).1 (D.fit a (D.ownB k z e a ha))
 have mu0:(x.add o m d).μ x.σ.length=m:=Dz;have de0:(x.add o m d).δ x.σ.length=d:=Dz;have mu:∀k,k < x.σ.length->(x.add o m d).μ k=x.μ k:=λk q=> GX q
 have de:∀k,k < x.σ.length->(x.add o m d).δ k=x.δ k:=λk q=> GX q
 refine ⟨λa y q=> kp a y (D.top a y q),λa y q=> (fz a y (D.fz q)).2,λa q=> q.elim (λz=> Nat.lt_of_lt_of_le (D.fit a z) (EH kp)) λz=> (fr a z).2,λk z e=> ?_,λk z e a ha=> ?_,λk c fs e=> ?_,λk j ok oj ne e1 e2 a ha hb=> ?_⟩
 ·clear fr old;rcases CZ e with ⟨q,e⟩ |⟨rfl,rfl⟩
  ·rw [mu k q,de k q];refine (D.own k z e).mono fz (x.F4 o m d) λa ha=> ?_
   obtain ⟨y,hy⟩:=D.live e ha;rw [hy];exact kp a y hy
  ·rw [mu0,de0];exact at' fz
 ·clear at' fr fz old;rcases CZ e with ⟨q,e⟩ |⟨rfl,rfl⟩
  ·rw [mu k q,de k q] at ha;exact .inl (D.ownB k z e a ha)
  ·rw [mu0,de0] at ha;exact .inr ha
 ·clear at' fr fz old;rcases CZ e with ⟨q,e⟩ |⟨rfl,q⟩
  ·rw [mu k q,de k q];exact D.self k c fs e
  ·rw [mu0,de0];exact md
 ·clear at' fr fz;rcases CZ e1 with ⟨q1,f1⟩ |⟨rfl,rfl⟩
  ·rw [mu k q1,de k q1] at ha;clear e1;rcases CZ e2 with ⟨q2,f2⟩ |⟨rfl,rfl⟩
   ·rw [mu j q2,de j q2] at hb;exact D.sep k j ok oj ne f1 f2 a ha hb
   ·rw [mu0,de0] at hb;exact old k ok f1 a ha hb
  ·rw [mu0,de0] at ha;clear de0 e1 mu0;rcases CZ e2 with ⟨q2,f2⟩ |⟨rfl,rfl⟩
   ·rw [mu j q2,de j q2] at hb;exact old j oj f2 a hb ha
   ·exact ne rfl
end
noncomputable def Gk (self:Value) (x:Code × Pos):Bool:=match x with
  |(.builtin "bytearray.__contains__" ⟨v::_,_⟩,_) |(.builtin "bytearray.__mod__" ⟨v::_,_⟩,_)
  |(.builtin "bytearray.__rmod__" ⟨_::v::_,_⟩,_) |(.builtin "_struct.pack_into.held" ⟨v::_,_⟩,_)=> Builtin.Bytes.sameRef v self
  |(.builtin "bytearray.find.held" ⟨_::_::held,_⟩,_)=> held.any (Builtin.Bytes.sameRef self)
  |(.builtin id ⟨v::_,_⟩,_)=> Builtin.Bytes.sameRef v self && Builtin.Bytes.decodersThatHold.contains id
  |_=> false
def Cs (c:Code):Prop:=∀v p,Gk v (c,p)=false
def Kb (l:List (Code × Pos)):Prop:=∀x ∈ l,Cs x.1
def wpB {α:Type} (M:Model) (A:Around) (t:Sem α) (Q:α->Shared->Prop) (E:VP) (s:Shared):Prop:=
 ∀Γ p,Γ.In A->Cs Γ.code->Kb Γ.below->1 <= s.toks->Sem.wp M Γ t (λa υ s'=> Q a s') (λe υ s'=> E e s') p s
def codeB (M:Model) (A:Around) (c:Code) (R:Result->Shared->Prop) (s:Shared):Prop:=
 ∀Γ p,Γ.code=c->Γ.Below A->Kb Γ.below->1 <= s.toks->wpCode M Γ R p s
namespace Bw
section
variable {α β:Type} {M:Model} {A:Around} {E:VP} {s:Shared}
theorem of {t:Sem α} {Q:α->Shared->Prop} (h:wpAny M A t Q E s):wpB M A t Q E s:=λΓ p i υ υ υ=> h Γ p i
theorem ofCode {c:Code} {R:Result->Shared->Prop} (h:codeAny M A c R s):codeB M A c R s:=λΓ p e b υ υ=> h Γ p e b
theorem pure {a:α} {Q:α->Shared->Prop} (h:Q a s):wpB M A (Pure.pure a) Q E s:=of (wpAny_pure h)
theorem mono {t:Sem α} {Q Q':α->Shared->Prop} {E':VP} (h:wpB M A t Q E s) (q:∀a s,Q a s->Q' a s) (e:∀e s,E e s->E' e s):wpB M A t Q' E' s:=
 λΓ p i d n z=> Sem.wp_mono M Γ t (λa υ s=> q a s) (λv υ s=> e v s) p s (h Γ p i d n z)
theorem bind {m:Sem α} {f:α->Sem β} {Q:β->Shared->Prop} (h:wpB M A m (λa s'=> wpB M A (f a) Q E s') E s):wpB M A (m >>=f) Q E s:=λΓ p i d n z=> by
 rw [Sem.wp_bind'];exact Sem.wp_mono M Γ m (λa p' s' k=> k.2 Γ p' i d n k.1) (λυ υ υ k=> k.2) p s (Sem.wp_toks M Γ 1 m _ _ p s z (h Γ p i d n z))
theorem Ar {m:Sem α} {f:α->Sem β} {Q:β->Shared->Prop} (h:wpAny M A m (λa s'=> wpB M A (f a) Q E s') E s):wpB M A (m >>=f) Q E s:=bind (of h)
theorem tryCatch {m:Sem α} {k:Value->Sem α} {Q:α->Shared->Prop} (h:wpB M A m Q (λe s'=> wpB M A (k e) Q E s') s):wpB M A (tryCatch m k) Q E s:=λΓ p i d n z=> by
 rw [Sem.wp_tryCatch'];exact Sem.wp_mono M Γ m (λυ υ υ k=> k.2) (λe p' s' k=> k.2 Γ p' i d n k.1) p s (Sem.wp_toks M Γ 1 m _ _ p s z (h Γ p i d n z))
theorem onRaise {m:Sem α} {k:Value->Sem Unit} {Q:α->Shared->Prop} (h:wpB M A m Q (λe s'=> wpB M A (k e) (λυ s''=> E e s'') E s') s):wpB M A (m.onRaise k) Q E s:=λΓ p i d n z=> by
 rw [Sem.wp_onRaise];exact Sem.wp_mono M Γ m (λυ υ υ k=> k.2) (λe p' s' k=> k.2 Γ p' i d n k.1) p s (Sem.wp_toks M Γ 1 m _ _ p s z (h Γ p i d n z))
theorem attempt {m:Sem α} {Q:Except Value α->Shared->Prop} (h:wpB M A m (λa=> Q (.ok a)) (λe=> Q (.error e)) s):wpB M A m.attempt Q E s:=λΓ p i d n z=> by
 rw [Sem.wp_attempt];exact h Γ p i d n z
theorem holding {vs:List Value} {m:Sem α} {Q:α->Shared->Prop} (h:wpB M A m Q E s):wpB M A (holding vs m) Q E s:=λΓ p i d n z=> by
 rw [Sem.wp_holding];exact h Γ p i d n z
theorem operating {vs:List Value} {m:Sem Value} {Q:VP} (h:wpB M A m Q E s):wpB M A (operate vs m) Q E s:=λΓ p i d n z=> by
 rw [Sem.wp_operate];exact h Γ p i d n z
theorem bindName {env:Env} {x:Str} {v:Value} {Q:Unit->Shared->Prop} (h:wpB M A (storeName env x v) Q E s):wpB M A (PySem.bindName env x v) Q E s:=λΓ p i d n z=> by
 rw [Sem.wp_bindName];exact h Γ p i d n z
theorem standAt {pos:Pos} {Q:Unit->Shared->Prop} (h:Q () s):wpB M A (standAt pos) Q E s:=of (wpAny_standAt h)
theorem units {t:Sem α} {Q:α->Shared->Prop} (h:wpB M A.in1 t Q E s):wpB M A t Q E s:=λΓ p i d n z=> h Γ p ⟨i.1,i.2.1,i.2.2.1,i.2.2.2.1,Nat.le_succ_of_le i.2.2.2.2⟩ d n z
theorem Ff {Γ:Ctx} {p:Pos} (d:Cs Γ.code) (n:Kb Γ.below):Kb ((Γ.code,p)::Γ.below):=λx m=> by
 cases m with
 |head=> exact d
 |tail _ m=> exact n x m
theorem run {c:Code} {h:Option Value} {Q:Flow->Shared->Prop} (hc:codeB M (A.mark h) c (λr s'=> match r with | .ok f=> Q f s' | .error e=> E e s') s) (nb:h ≠ some byPass:=by intro x;cases x):wpB M A (run c h) Q E s:=λΓ p i d n z=> by
 rw [Sem.wp_run];exact hc _ p rfl (i.enter c h p nb) (Ff d n) z
theorem runValue {c:Code} {Q:VP} (hc:codeB M A c (λr s'=> match r with | .ok (.ret v)=> Q v s' | .ok _=> False | .error e=> E e s') s):wpB M A (runValue c) Q E s:=λΓ p i d n z=> by
 rw [Sem.wp_runValue];exact hc _ p rfl (i.enter c none p (by intro x;cases x)) (Ff d n) z
theorem call {f:Value} {pos:List Value} {kw:List (Str × Value)} {Q:VP} (hc:codeB M A (.call f ⟨pos,kw⟩) (λr s'=> match r with | .ok (.ret v)=> Q v s' | .ok _=> False | .error e=> E e s') s):wpB M A (PySem.call f pos kw) Q E s:=runValue hc
theorem ER {c:Code} {R R':Result->Shared->Prop} (h:codeB M A c R s) (q:∀r s,R r s->R' r s):codeB M A c R' s:=λΓ p hc i n z=> wpCode_mono q (h Γ p hc i n z)
theorem ofTree {c:Code} {R:Result->Shared->Prop} (dc:Cs c)
  (h:wpB M (A.under c) (M.den c) (λfin s'=> match fin with | .done f=> R (.ok f) s' | .again c' => c'.quiet=true/\codeB M A c' R s') (λe s'=> R (.error e) s') s):codeB M A c R s:=λΓ p hc i n z=> by
 rw [wpCode_iff_wp,hc];refine Sem.wp_mono M Γ _ (λfin p' s' k=> ?_) (λυ υ υ k=> k.2) p s (Sem.wp_toks M Γ 1 _ _ _ p s z (h Γ p (hc▸i.in) (hc▸dc) n z));cases fin with
 |done f=> exact k.2
 |again c' => exact ⟨k.2.1,k.2.2 (Γ.goto c') p' rfl (i.goto c') n k.1⟩
theorem pos {t:Sem α} {Q:α->Shared->Prop} (h:1 <= s.toks->wpB M A t Q E s):wpB M A t Q E s:=λΓ p i d n z=> h z Γ p i d n z
theorem loop {c:Code} {R:Result->Shared->Prop} (dc:Cs c) (hq:c.quiet=true) (I:Nat->Shared->Prop)
  (turn:∀n s,I n s->wpB M (A.under c) (M.den c) (λfin s'=> match fin with | .done f=> R (.ok f) s' | .again c' => (c' =c/\∃m,m < n/\I m s')\/(c'.quiet=true/\codeB M A c' R s')) (λe s'=> R (.error e) s') s)
  (n:Nat) (h:I n s):codeB M A c R s:=by
 induction n using Nat.strongRecOn generalizing s with
 |ind n ih=>
  refine ofTree dc (mono (turn n s h) (λfin s' k=> ?_) λυ υ k=> k);cases fin with
  |done f=> exact k
  |again c' =>
   clear dc turn;rcases k with ⟨rfl,m,hm,hI⟩ |k
   ·exact ⟨hq,ih m hm hI⟩
   ·exact k
theorem Iv {env:Env} {m:Sem α} {Q:α->Shared->Prop} (h:wpB M A m Q (notedBy M A env E) s):wpB M A (m.onRaise λx=> do noteFrame x env;theTreesLotGoes x) Q E s:=
 onRaise (mono h (λυ υ q=> q) λυ υ hx=> of (wpAny_bind (wpAny_mono hx (λυ υ e=> wpAny_theTreesLotGoes e) λυ υ e=> e)))
theorem VB {env:Env} {m:Sem α} {pos:Pos} {Q:α->Shared->Prop} (h:wpB M A m Q (notedBy M A env E) s):wpB M A (m.onRaise λx=> do noteFrame x env;PySem.standAt pos) Q E s:=
 onRaise (mono h (λυ υ q=> q) λυ υ hx=> of (wpAny_bind (wpAny_mono hx (λυ υ e=> wpAny_standAt e) λυ υ e=> e)))
theorem runOwn {env:Env} {c:Code} {h:Option Value} {Q:Flow->Shared->Prop} (hc:codeB M (A.mark h) c (λr s'=> match r with | .ok f=> Q f s' | .error e=> cameBackBy M A env E e s') s) (nb:h ≠ some byPass:=by intro x;cases x):
  wpB M A (PySem.runOwn c env h) Q E s:=by
 unfold PySem.runOwn;exact onRaise (mono (run (Q:=Q) (E:=λe s'=> cameBackBy M A env E e s') hc nb) (λυ υ q=> q) λυ υ q=> of q)
end
end Bw
namespace Bw
section
variable {α β:Type} {M:Model} {A:Around} {E:VP} {s:Shared} {env:Env}
theorem keep {vs:List Value} {m:Sem α} {Q:α->Shared->Prop} (h:wpB M A m Q E s):wpB M A (m.keep vs) Q E s:=λΓ p i d n z=> by
 rw [Sem.wp_keep];exact h Γ p i d n z
theorem Subscript {value slice:PySem.Expr} {pos:Pos} {Q:VP} (h:wpB M A (eval value env) (λo s₁=> wpB M A (eval slice env) (λi s₂=> wpB M A (subscriptTail value slice o i) Q E s₂) E s₁) E s):
  wpB M A (eval (.Subscript value slice pos) env) Q E s:=by
 rw [eval_Subscript];exact bind (mono h (λo s₁ k=> bind (holding (mono k (λi s₂ k=> bind (standAt k)) λυ υ x=> x))) λυ υ x=> x)
theorem BinOp {a b:PySem.Expr} {op:Operator} {pos:Pos} {Q:VP} (h:wpB M A (eval a env) (λu s₁=> wpB M A (eval b env) (λv s₂=> wpB M A (binaryOp op u v) Q E s₂) E s₁) E s):
  wpB M A (eval (.BinOp a op b pos) env) Q E s:=by
 rw [arm_eval_BinOp];exact bind (mono h (λo s₁ k=> bind (holding (mono k (λi s₂ k=> bind (standAt (operating k))) λυ υ x=> x))) λυ υ x=> x)
theorem K1 {a b:PySem.Expr} {op:CmpOp} {pos:Pos} {Q:VP} (h:wpB M A (eval a env) (λu s₁=> wpB M A (eval b env) (λv s₂=> wpB M A (compareOp op u v) Q E s₂) E s₁) E s)
  (hm:behindInMarks op b=false:=by with_unfolding_all rfl):wpB M A (eval (.Compare a [op] [b] pos) env) Q E s:=by
 rw [eval_Compare1,markedBehindIn_of_false hm];exact bind (mono h (λo s₁ k=> bind (holding (mono k (λi s₂ k=> bind (standAt (operating k))) λυ υ x=> x))) λυ υ x=> x)
theorem FF {a b:PySem.Expr} {op:CmpOp} {pos:Pos} {whole:Sem Value} {Q:Bool->Shared->Prop}
  (h:wpB M A (eval a env) (λu s₁=> wpB M A (eval b env) (λv s₂=> wpB M A (compareOp op u v) (λc s₃=> wpB M A (truthy c) Q E s₃) E s₂) E s₁) E s)
  (hm:behindInMarks op b=false:=by with_unfolding_all rfl):wpB M A (isTrue (.Compare a [op] [b] pos) env whole) Q E s:=by
 rw [isTrue_Compare1,markedBehindIn_of_false hm];exact bind (mono h (λo s₁ k=> bind (holding (mono k (λi s₂ k=> bind (standAt (bind (operating (mono k (λc s₃ k=> holding k) λυ υ x=> x))))) λυ υ x=> x))) λυ υ x=> x)
theorem UnaryOp {a:PySem.Expr} {op:PySem.UnaryOp} {pos:Pos} {Q:VP} (h:wpB M A (eval a env) (λv s₁=> wpB M A (unaryOp op v) Q E s₁) E s):wpB M A (eval (.UnaryOp op a pos) env) Q E s:=by
 rw [arm_eval_UnaryOp];exact bind (mono h (λv s₁ k=> bind (standAt (holding k))) λυ υ x=> x)
theorem If {test:PySem.Expr} {body orelse:List Stmt} {pos:Pos} {Q:Flow->Shared->Prop}
  (h:wpB M A (isTrue test env (eval test env)) (λb s₂=> if b then wpB M A (execs body env) Q E s₂ else wpB M A (execs orelse env) Q E s₂) E s):wpB M A (exec (.If test body orelse pos) env) Q E s:=by
 rw [arm_exec_If];refine bind (standAt (bind (mono h (λb s₂ k=> ?_) λυ υ x=> x)));cases b <;> exact k
theorem IfExp {test a b:PySem.Expr} {pos:Pos} {Q:VP}
  (h:wpB M A (isTrue test env (eval test env)) (λt s₂=> if t then wpB M A (eval a env) Q E s₂ else wpB M A (eval b env) Q E s₂) E s):wpB M A (eval (.IfExp test a b pos) env) Q E s:=by
 rw [arm_eval_IfExp];refine bind (mono h (λt s₂ k=> ?_) λυ υ x=> x);cases t <;> exact k
theorem Mf {e:PySem.Expr} {whole:Sem Value} {Q:Bool->Shared->Prop} (h:wpB M A whole (λv s₁=> wpB M A (truthy v) Q E s₁) E s)
  (he:isTrue e env whole=(do let v <- whole;PySem.standAt e.pos;PySem.holding [v] (truthy v)):=by rfl):wpB M A (isTrue e env whole) Q E s:=by
 rw [he];exact bind (mono h (λv s₁ k=> bind (standAt (holding k))) λυ υ x=> x)
theorem As {x:Sem Value} {rest:List (Bool × Sem Value)} {Q:List Value->Shared->Prop} (h:wpB M A x (λv s₁=> wpB M A (spliced rest) (λvs s₂=> Q (v::vs) s₂) E s₁) E s):wpB M A (spliced ((false,x)::rest)) Q E s:=by
 rw [spliced];refine bind (mono h (λv s₁ k=> ?_) λυ υ x=> x);simp only [Bool.false_eq_true,if_false];exact bind (pure (bind (holding (mono k (λvs s₂ k=> pure k) λυ υ x=> x))))
theorem Dy {t:Stmt} {rest:List Stmt} {Q:Flow->Shared->Prop} (h:wpB M A (exec t env) (λf s'=> match f with | .next=> wpB M A (execs rest env) Q E s' |f=> Q f s') E s):wpB M A (execs (t::rest) env) Q E s:=by
 rw [execs_cons];refine bind (mono h (λf s' k=> ?_) λυ υ x=> x);cases f <;> first |exact k |exact pure k
theorem While {test:PySem.Expr} {body orelse:List Stmt} {pos:Pos} {Q:Flow->Shared->Prop} (h:codeB M A (.whileLoop test body orelse env) (λr s'=> match r with | .ok f=> Q f s' | .error e=> cameBackBy M A env E e s') s):
  wpB M A (exec (.While test body orelse pos) env) Q E s:=by
 rw [arm_exec_While];exact bind (standAt (runOwn h))
theorem gp {c:Prop} [Decidable c] {a b:Sem α} {Q:α->Shared->Prop} (hc:c) (h:wpB M A a Q E s):wpB M A (if c then a else b) Q E s:=by rw [if_pos hc];exact h
theorem gm {c:Prop} [Decidable c] {a b:Sem α} {Q:α->Shared->Prop} (hc:¬ c) (h:wpB M A b Q E s):wpB M A (if c then a else b) Q E s:=by rw [if_neg hc];exact h
end
section
variable {prog:Program} {w:World} {A:Around} {s:Shared} {R:Result->Shared->Prop} {env:Env}
theorem whileLoop {test:PySem.Expr} {body orelse:List Stmt} (I:Nat->Shared->Prop)
  (turn:∀n s,I n s->wpB (model prog w) A (isTrue test env (eval test env)) (λb s₂=>
    if b then wpB (model prog w) A (execs body env) (λf s₃=> match f with
      | .next | .cont=>∃m,m < n/\I m s₃
      | .brk=> R (.ok .next) s₃
      | .ret v=> R (.ok (.ret v)) s₃) (notedBy (model prog w) A env λe s'=> R (.error e) s') s₂
    else wpB (model prog w) A (execs orelse env) (λf s₃=> R (.ok f) s₃) (notedBy (model prog w) A env λe s'=> R (.error e) s') s₂)
    (notedBy (model prog w) A env λe s'=> R (.error e) s') s)
  (n:Nat) (h:I n s):codeB (model prog w) A (.whileLoop test body orelse env) R s:=by
 refine loop (λυ υ=> rfl) rfl I (λn s hI=> ?_) n h;show wpB _ A ((whileTurn test body orelse env).onRaise (λx=> do noteFrame x env;theTreesLotGoes x)) _ _ s;refine Iv ?_;simp only [whileTurn];refine bind (mono (turn n s hI) (λb s₂ k=> ?_) λυ υ x=> x);induction b using bC with
 |false=>
  simp only [Bool.false_eq_true,if_false] at k ⊢;exact bind (mono k (λf s₃ k=> pure k) λυ υ x=> x)
 |true=>
  simp only [if_true] at k ⊢;refine bind (mono k (λf s₃ k=> ?_) λυ υ x=> x);cases f with
  |next=> exact pure (.inl ⟨rfl,k⟩)
  |cont=> exact pure (.inl ⟨rfl,k⟩)
  |brk=> exact pure k
  |ret v=> exact pure k
theorem func {body:List Stmt} (h:wpB (model prog w) (A.deeper env) (execs body env) (λf s'=> R (.ok (.ret (match f with | .ret v=> v |_=> .none))) s')
   (λe s'=> wpB (model prog w) (A.deeper env) (leaving env e) (λυ s''=> R (.error e) s'') (λe' s''=> R (.error e') s'') s') s):codeB (model prog w) A (.func body env) R s:=by
 refine ofTree (λυ υ=> rfl) ?_;show wpB _ (A.deeper env) (do point;match <- (execs body env).onRaise (leaving env) with | .ret v=> ret v |_=> ret .none) _ _ s;refine bind (of (wpAny_point (bind (m:=(execs body env).onRaise (leaving env)) ?_)));have h':wpB (model prog w) (A.deeper env) ((execs body env).onRaise (leaving env)) (λf s'=> R (.ok (.ret (match f with | .ret v=> v |_=> .none))) s') (λe s'=> R (.error e) s') s:=λΓ p i d n z=> by
  rw [Sem.wp_onRaise];refine Sem.wp_mono _ Γ _ (λυ υ υ k=> k.2) (λe p' s' k=> ?_) p s (Sem.wp_toks _ Γ 1 _ _ _ p s z (h Γ p i d n z));exact k.2 Γ p' i d n k.1
 refine mono h' (λf s' k=> ?_) λυ υ k=> k
 cases f <;> exact pure k
end
end Bw
namespace Bw
section
variable {prog:Program} {w:World} {A:Around} {s:Shared} {R:Result->Shared->Prop}
theorem callFunction {a:Addr} {args:Args} {o:PySem.Obj} {fd:FuncData} {body:List Stmt} (hroom:A.depth < recursionLimit) (ho:s.heap.get? a=some o)
  (hd:o.data= .func fd) (hco:fd.scope.isCoroutine=false) (hgen:fd.scope.isGenerator=false) (hbody:fd.body= .stmts body) (hcd:s.heap.CodeRec fd.code fd.qualname)
  (h:wpAny (model prog w) A.in1 (bindArgs fd args) (λbinds s₁=>
   wpAny (model prog w) A.in1 (newFunctionEnv fd.scope fd.globals fd.closure binds (fd.qualname ++ ".<locals>.") (some a) fd.code none fd.builtins)
    (λenv s₂=> s₂.heap.NoLimit/\codeB (model prog w) A (.func body env) R s₂) (λe s'=> R (.error e) s') s₁) (λe s'=> R (.error e) s') s):
  codeB (model prog w) A (.call (.ref a) args) R s:=by
 refine ofTree (λυ υ=> rfl) ?_;show wpB _ A.in1 (callAny (.ref a) args) _ _ s;refine of ?_;simp only [callAny];refine wpAny_bind (wpAny_load ho ?_);obtain ⟨c,oc,vs,tq,hc,hoc,hdc,hq⟩:=hcd;simp only [hd,PySem.callFunction,hco,hgen,hbody,hc];rw [hc] at h;refine wpAny_bind (m:=field (.ref c) 1) (wpAny_field hoc hdc hq (wpAny_bind (wpAny_pure ?_)));exact wpAny_bind (wpAny_mono h (λbinds s₁ h₁=> wpAny_bind (wpAny_mono h₁ (λenv s₂ h₂=> wpAny_bind (wpAny_enterFrame h₂.1 hroom (wpAny_pure (And.intro rfl h₂.2)))) λυ υ k=> k)) λυ υ k=> k)
theorem NY {a:Addr} {o:PySem.Obj} {fd:FuncData} {body:List Stmt} {args:Args} {binds:List (Str × Value)} (hroom:A.depth < recursionLimit) (ho:s.heap.get? a=some o) (hdata:o.data= .func fd) (hlim:s.heap.NoLimit)
  (hcd:s.heap.CodeRec fd.code fd.qualname) (hbody:fd.body= .stmts body) (hbind:BindsTo s fd args binds)
  (hcell:∀x ∈ fd.scope.names,x.2 ≠ .cell) (hloc:∀x ∈ binds,fd.scope.names.lookup x.1=some .local)
  (h:∀h₀,h₀.Ns s.heap.objs.size (λx=> binds.reverse.lookup x)->(∀b o,s.heap.get? b=some o->h₀.get? b=some o)->
   wpB (model prog w) (A.deeper (callEnv fd s.heap.objs.size a)) (execs body (callEnv fd s.heap.objs.size a)) (λf s'=> R (.ok (.ret (match f with | .ret v=> v |_=> .none))) s')
    (λe s'=> wpB (model prog w) (A.deeper (callEnv fd s.heap.objs.size a)) (leaving (callEnv fd s.heap.objs.size a) e) (λυ s''=> R (.error e) s'') (λe' s''=> R (.error e') s'') s')
    {s with heap:=h₀,toks:=s.toks + binds.length})
  (hco:fd.scope.isCoroutine=false:=by rfl) (hgen:fd.scope.isGenerator=false:=by rfl) (hk:fd.scope.kind= .function:=by rfl):
  codeB (model prog w) A (.call (.ref a) args) R s:=by
 refine callFunction hroom ho hdata hco hgen hbody hcd (hbind _ _ _ _ ?_);refine wpAny_newFunctionEnv hcell hloc (λh₀ hns₀ hsb₀=> ⟨hlim.fresh _ hsb₀,func (h h₀ hns₀ λb o e=> ?_)⟩) hk;exact hsb₀.extBut b o (Nat.ne_of_lt (Heap.lt_size e)) (Heap.get?_push_of_some _ e)
end
end Bw
structure Base where
 T:Tb
 KF:Frag
 hb:Heap
 prog:Program
 w:World
structure Cx extends Base where
 A:Around
 env:Env
 fenv:Env
 outer:List Env
 my:List Addr
 ns:List (Option Nat)
noncomputable abbrev Cx.M (C:Cx):Model:=model C.prog C.w
noncomputable def frs (l:List Env):List Addr:=l.filterMap (·.frame)
def Cx.fr (C:Cx):List Addr:=frs (C.fenv::C.outer)
structure Cx.Ok (C:Cx):Prop where
 top:C.A.frames=some (C.fenv::C.outer)
 fr:∃L,C.fenv.frame=some L/\C.env.frame=some L
 mine:C.env.locals ∈ C.my
 glob:C.env.globals=mainGlobals
 bi:C.env.builtins=builtinsNs
 kind:C.env.scope.kind= .function
 names:∀k n,nth C.ns k=some (some n)->(C.T.nm n==("__debug__" :Str))=false/\(C.T.nm n==("__classdict__" :Str))=false
 cellmine:∀a ∈ C.my,a ≠ C.env.locals->∃y,C.env.cells.lookup y=some a
 once:∀a ∈ C.fr,a ∈ C.my->a=C.env.locals
 apart:∀k k' n n',nth C.ns k=some (some n)->nth C.ns k' =some (some n')->C.T.nm n=C.T.nm n'->k=k'
 units:C.A.units + 100 < cLine
 cinj:∀y y' c,C.env.cells.lookup y=some c->C.env.cells.lookup y' =some c->y=y'
 guards:C.A.guards=some []
def DU (env:Env) (h:Heap) (y:Str) (v:Value):Prop:=
 (env.kindOf y=some .local/\∃m,h.Ns env.locals m/\m y=some v)\/((env.kindOf y=some .cell\/env.kindOf y=some .free)/\∃c,env.cells.lookup y=some c/\h.IsCell c (some v))
inductive fV (x:Wx) (h:Heap) (e:Env):Prop |mk (k:e.scope.kind ≠ .module) (a:Addr) (m:Str->Option Value) (h1:e.frame=some a) (h2:h.Ns a m) (h3:x.bad a/\¬ x.owned a)
def Fs (x:Wx) (h:Heap) (l:List Env):Prop:=∀e ∈ l,fV x h e
structure In (C:Cx) (x:Wx) (l:LL) (h:Heap):Prop where
 wd:Wd C.T C.hb x h
 dict:∃m,h.Ns C.env.locals m
 loc:∀k n w,nth C.ns k=some (some n)->nth l k=some (some w)->∃v,DU C.env h (C.T.nm n) v/\Rel C.T (Fz h x.bad) x.mu w v
 cell:∀y c,C.env.cells.lookup y=some c->x.bad c/\¬ x.owned c/\∃v,h.IsCell c v
 mine:∀a ∈ C.my,x.bad a/\¬ x.owned a
 frames:Fs x h (C.fenv::C.outer)
def CW (o:AN):Prop:=(∃vs,o.data= .fields vs)/\(o.cls= .type "traceback" \/∃c,o.cls= .ref c)
def Cx.mod (C:Cx) (x:Wx) (h:Heap) (a:Addr):Prop:=x.owned a\/a ∈ C.my\/a ∈ C.fr\/(x.bad a/\∃o,h.get? a=some o/\CW o)
structure Go (C:Cx) (x x':Wx) (s s':Shared):Prop where
 ext:Ext (C.mod x s.heap) x.bad x'.bad s.heap s'.heap
 mu:x.mu.le x'.mu
 ow:∀a,x'.owned a->x.owned a\/lv s.heap <= a
 ns:∀a ∈ C.fr,a ∉ C.my->∀m,s.heap.Ns a m->s'.heap.Ns a m
 kb:∀a,a < lv s.heap->x.bad a->¬ x.owned a->x'.bad a
 gens:s'.gens=s.gens
 os:s'.os=s.os
theorem Go.refl (C:Cx) (x:Wx) (s:Shared):Go C x x s s:=⟨.refl ..,Mu.le_refl _,λυ=> .inl,λυ υ υ υ e=> e,λυ υ b υ=> b,rfl,rfl⟩
theorem Go.trans {C:Cx} {x x' x'':Wx} {s s' s'':Shared} (a:Go C x x' s s') (b:Go C x' x'' s' s''):Go C x x'' s s'':=
 ⟨a.ext.trans b.ext λc o e q=> by
  have old:=Ak e;rcases q with q |q |q |⟨q,o',e',d⟩
  ·exact (a.ow c q).elim .inl λz=> absurd old (Nat.not_lt.mpr z)
  ·exact .inr (.inl q)
  ·exact .inr (.inr (.inl q))
  ·by_cases hm:C.mod x s.heap c
   ·exact hm
   ·have:=a.ext.keep c o e hm;rw [this] at e';cases e';exact .inr (.inr (.inr ⟨(a.ext.bads c q).elim id λz=> absurd old (Nat.not_lt.mpr z),o,e,d⟩)),Mu.le_trans a.mu b.mu,
  λc q=> (b.ow c q).elim (a.ow c) λz=> .inr (Nat.le_trans (Cg a.ext.size) z),λc hc n m e=> b.ns c hc n m (a.ns c hc n m e),λc hc hb ho=> b.kb c (Nat.lt_of_lt_of_le hc (Cg a.ext.size)) (a.kb c hc hb ho) λq=> (a.ow c q).elim ho λz=> Nat.not_lt.mpr z hc,b.gens.trans a.gens,b.os.trans a.os⟩
theorem In.mods {C:Cx} {x:Wx} {l:LL} {h:Heap} (i:In C x l h):∀a,C.mod x h a->x.bad a:=λa q=> q.elim i.wd.DQ λz=> z.elim (λz=> (i.mine a z).1) λz=> z.elim (λz=> by
 obtain ⟨e,he,hf⟩:=List.mem_filterMap.mp z;obtain ⟨_,b,m,hb,_,hb',_⟩:=i.frames e he;rw [hf] at hb;cases hb;exact hb') And.left
theorem Go.fz {C:Cx} {x x':Wx} {l:LL} {s s':Shared} (i:In C x l s.heap) (g:Go C x x' s s'):∀a o,Fz s.heap x.bad a o->Fz s'.heap x'.bad a o:=g.ext.fz i.mods
inductive aK (T:Tb) (x:Wx) (h:Heap) (e:Value) (c:Nat) (fs:List W) (L:Addr->Array Value->Prop):Prop
 |mk (a:Addr) (oe:AN) (vs:Array Value) (d:Addr) (es:List DictEntry) (n:Nat) (h1:e= .ref a) (h2:h.get? a=some oe) (h3:oe.cls= .ref c) (h4:oe.data= .fields vs) (h5:5 < vs.size/\(T.ctx c=false->vs[2]? =some .none)) (h6:oe.dict=some d) (h7:Fz h x.bad d (AM es n)) (h8:Af T (Fz h x.bad) x.mu fs (AH T c) es) (h9:x.bad a) (h10:¬ x.owned a) (h11:L a vs)
inductive dX (x:Wx) (h:Heap) (a:Addr) (vs:Array Value) (f:Value):Prop |mk (t:Addr) (oT:AN) (ts:Array Value) (h1:vs[1]? =some (.ref t)) (h2:t ≠ a) (h3:h.get? t=some oT/\oT.cls= .type "traceback") (h4:oT.data= .fields ts) (h5:ts[3]? =some f) (h6:x.bad t/\¬ x.owned t)
def D5 (T:Tb) (x:Wx) (h:Heap) (e:Value) (c:Nat) (fs:List W) (fl:Option Value):Prop:=aK T x h e c fs λa vs=> match fl with
 |none=> vs[1]? =some .none
 |some f=> dX x h a vs f
def Exc (C:Cx) (x:Wx) (h:Heap) (e:Value) (c:Nat) (fs:List W):Prop:=∃fl,D5 C.T x h e c fs fl/\(fl=none\/fl=some .none\/∃L,C.fenv.frame=some L/\fl=some (rawInt L))
section
variable {α β:Type} {C:Cx} {x:Wx} {l:LL} {s:Shared}
def Out (C:Cx) (x:Wx) (l:LL) (s:Shared) (rel:Wx->Heap->β->α->Prop) (r:R α) (Q:β->Shared->Prop) (E:VP):Prop:=match r with
 | .ok a σ=>∀b s' x',x'.σ=σ->Go C x x' s s'->In C x' l s'.heap->rel x' s'.heap b a->Q b s'
 | .exc c fs σ=>∀e s' x',x'.σ=σ->Go C x x' s s'->In C x' l s'.heap->Exc C x' s'.heap e c fs->E e s'
 | .stuck _=> False
def Cx.rel (C:Cx) (x:Wx) (h:Heap) (v:Value) (w:W):Prop:=Rel C.T (Fz h x.bad) x.mu w v
def Cx.BF (C:Cx) (x:Wx) (h:Heap) (v:List Value) (w:List W):Prop:=AD C.T (Fz h x.bad) x.mu w v
theorem Out.shift {rel:Wx->Heap->β->α->Prop} {r:R α} {Q:β->Shared->Prop} {E:VP} {x':Wx} {s':Shared} (g:Go C x x' s s') (o:Out C x l s rel r Q E):Out C x' l s' rel r Q E:=by
 induction r using R.casesOn with
 |ok a σ=> exact λb s'' x'' e g' i q=> o b s'' x'' e (g.trans g') i q
 |exc c fs σ=> exact λb s'' x'' e g' i q=> o b s'' x'' e (g.trans g') i q
 |stuck n=> exact o
theorem Out.mono {rel:Wx->Heap->β->α->Prop} {r:R α} {Q Q':β->Shared->Prop} {E E':VP} (o:Out C x l s rel r Q E) (q:∀b s',Q b s'->Q' b s') (e:∀b s',E b s'->E' b s'):Out C x l s rel r Q' E':=by
 induction r using R.casesOn with
 |ok a σ=> exact λb s'' x'' z g' i y=> q _ _ (o b s'' x'' z g' i y)
 |exc c fs σ=> exact λb s'' x'' z g' i y=> e _ _ (o b s'' x'' z g' i y)
 |stuck n=> exact o
def B0 (C:Cx) (rel:Wx->Heap->β->α->Prop) (t:Sem β) (f:LL->List O->R α):Prop:=
 ∀x l s Q E,In C x l s.heap->Out C x l s rel (f l x.σ) Q E->wpB C.M C.A t Q E s
theorem B0.bind {β' α':Type} {rel:Wx->Heap->β->α->Prop} {rel':Wx->Heap->β'->α'->Prop} {t:Sem β} {f:LL->List O->R α} {g:α->List O->R α'} {k:β->Sem β'} {Q:β'->Shared->Prop} {E:VP}
  (D:B0 C rel t f) (i:In C x l s.heap) (o:Out C x l s rel' ((f l x.σ).bind g) Q E)
  (next:∀b s' x' a,Go C x x' s s'->In C x' l s'.heap->rel x' s'.heap b a->Out C x' l s' rel' (g a x'.σ) Q E->wpB C.M C.A (k b) Q E s'):wpB C.M C.A (t >>=k) Q E s:=by
 refine Bw.bind (D x l s _ _ i ?_);generalize h:f l x.σ=x9;induction x9 using R.casesOn with
 |ok a σ=>
  rw [h] at o;intro b s' x' e g' i' q;clear h;subst e;exact next b s' x' a g' i' q (Out.shift (r:=g a x'.σ) g' o)
 |exc c fs σ=> rw [h] at o;exact o
 |stuck n=> rw [h] at o;exact o
inductive Zt {β α:Type} (C:Cx) (x:Wx) (l:LL) (s:Shared) (rel:Wx->Heap->β->α->Prop) (P:Wx->Shared->α->Prop) (b:β) (s':Shared):Prop |mk (x':Wx) (a:α) (g:Go C x x' s s') (i:In C x' l s'.heap) (q:rel x' s'.heap b a) (o:P x' s' a)
theorem B0.run {β' α':Type} {rel:Wx->Heap->β->α->Prop} {rel':Wx->Heap->β'->α'->Prop} {t:Sem β} {f:LL->List O->R α} {g:α->List O->R α'} {Q:β'->Shared->Prop} {E:VP}
  (D:B0 C rel t f) (i:In C x l s.heap) (o:Out C x l s rel' ((f l x.σ).bind g) Q E):
  wpB C.M C.A t (λb s'=> Zt C x l s rel (λx' s' a=> Out C x' l s' rel' (g a x'.σ) Q E) b s') E s:=by
 refine D x l s _ _ i ?_;generalize h:f l x.σ=x9;induction x9 using R.casesOn with
 |ok a σ=>
  rw [h] at o;intro b s' x' e g' i' q;clear h;subst e;exact ⟨x',a,g',i',q,Out.shift (r:=g a x'.σ) g' o⟩
 |exc c fs σ=> rw [h] at o;exact o
 |stuck n=> rw [h] at o;exact o
theorem B0.done {rel:Wx->Heap->β->α->Prop} {t:Sem β} {f:LL->List O->R α} (D:B0 C rel t f) {r:R α} {Q:β->Shared->Prop} {E:VP} (i:In C x l s.heap) (o:Out C x l s rel r Q E) (e:f l x.σ=r):wpB C.M C.A t Q E s:=by
 subst e;exact D x l s Q E i o
theorem Out.ok {rel:Wx->Heap->β->α->Prop} {a:α} {σ:List O} {Q:β->Shared->Prop} {E:VP} (o:Out C x l s rel (.ok a σ) Q E) {b:β} {s':Shared} {x':Wx} (e:x'.σ=σ) (g:Go C x x' s s') (i:In C x' l s'.heap) (q:rel x' s'.heap b a):Q b s':=o b s' x' e g i q
end
theorem DU.via {env:Env} {h h':Heap} {y:Str} {v:Value} (k1:∀m,h.Ns env.locals m->h'.Ns env.locals m) (k2:∀c v,env.cells.lookup y=some c->h.IsCell c v->h'.IsCell c v) (q:DU env h y v):DU env h' y v:=
 q.elim (λ⟨e,m,hm,q⟩=> .inl ⟨e,m,k1 m hm,q⟩) λ⟨e,c,hc,q⟩=> .inr ⟨e,c,hc,k2 c _ hc q⟩
theorem DU.keeps {env:Env} {h h':Heap} {y:Str} {v:Value} (k:Keeps h h') (q:DU env h y v):DU env h' y v:=q.via (λυ z=> z.keeps k) λυ υ υ z=> z.keeps k
theorem BQ {h:Heap} {a:Addr} {m:Str->Option Value} {v:Option Value} (x:h.Ns a m) (y:h.IsCell a v):False:=by
 obtain ⟨o,es,ep,e,d,_⟩:=x;obtain ⟨o',e',d'⟩:=y;rw [e] at e';cases e';rw [d] at d';cases d'
theorem G5 {h h':Heap} {a:Addr} {m:Str->Option Value} (k:∀o,h.get? a=some o->h'.get? a=some o) (q:h.Ns a m):h'.Ns a m:=let ⟨o,es,ep,e1,r⟩:=q;⟨o,es,ep,k o e1,r⟩
theorem HB {h h':Heap} {a:Addr} {v:Option Value} (k:∀o,h.get? a=some o->h'.get? a=some o) (q:h.IsCell a v):h'.IsCell a v:=let ⟨o,e1,r⟩:=q;⟨o,k o e1,r⟩
section
variable {C:Cx} {x:Wx} {l:LL} {s:Shared} {h h':Heap}
theorem In.frame (i:In C x l h) {b:Addr} (hb:b ∈ C.fr):∃m,h.Ns b m/\x.bad b/\¬ x.owned b:=by
 obtain ⟨e',he',hf⟩:=List.mem_filterMap.mp hb;obtain ⟨_,b',m,hb',hn,q⟩:=i.frames e' he';rw [hf] at hb';cases hb';exact ⟨m,hn,q⟩
theorem In.via (i:In C x l h) {x':Wx} (D:Wd C.T C.hb x' h') (mu:x.mu.le x'.mu) (fz:∀a o,Fz h x.bad a o->Fz h' x'.bad a o) (bd:∀a,x.bad a->¬ x.owned a->x'.bad a/\¬ x'.owned a)
  (kp:∀b o,¬ x.owned b->x.bad b->h.get? b=some o->h'.get? b=some o) (oc:C.Ok):In C x' l h':=by
 have nk:∀b,x.bad b/\¬ x.owned b->∀m,h.Ns b m->h'.Ns b m:=λb q m=> G5 (kp b · q.2 q.1)
 have ck:∀b,x.bad b/\¬ x.owned b->∀v,h.IsCell b v->h'.IsCell b v:=λb q m=> HB (kp b · q.2 q.1)
 have nL:=i.mine _ oc.mine;refine ⟨D,i.dict.imp λυ=> nk _ nL _,λk n w a e=> ?_,λy c e=> ?_,λa q=> bd a (i.mine a q).1 (i.mine a q).2,λe he=> ?_⟩
 ·obtain ⟨v,b,c⟩:=i.loc k n w a e;exact ⟨v,b.via (nk _ nL) λc v hc=> ck c (let ⟨p,q,_⟩:=i.cell _ c hc;⟨p,q⟩) v,c.mono fz mu⟩
 ·obtain ⟨p,q,v,z⟩:=i.cell y c e;exact ⟨(bd c p q).1,(bd c p q).2,v,ck c ⟨p,q⟩ v z⟩
 ·obtain ⟨a,b,m,z,d,q⟩:=i.frames e he;exact ⟨a,b,m,z,nk b q m d,bd b q.1 q.2⟩
theorem In.fzk (i:In C x l h) (k:Keeps h h'):∀a o,Fz h x.bad a o->Fz h' x.bad a o:=λa o e=> ⟨k a o e.1,e.2⟩
theorem In.keeps (oc:C.Ok) (i:In C x l h) (k:Keeps h h'):In C x l h':=
 i.via (i.wd.quiet (mod:=λυ=> False) (bad':=x.bad) ⟨λa o e υ=> k a o e,λυ=> .inl,Cf k⟩ (λυ q=> q.elim) (λυ q=> q.elim) (λa q=> i.wd.DQ q) λa q=> Nat.lt_of_lt_of_le (i.wd.fit a q) (EH k))
  (Mu.le_refl _) (i.fzk k) (λυ a b=> ⟨a,b⟩) (λb o υ υ e=> k b o e) oc
theorem Go.keeps {s':Shared} (k:Keeps s.heap s'.heap) (eg:s'.gens=s.gens:=by rfl) (eo:s'.os=s.os:=by rfl):Go C x x s s':=
 ⟨⟨λa o e υ=> k a o e,λυ=> .inl,Cf k⟩,Mu.le_refl _,λυ=> .inl,λυ υ υ υ e=> e.keeps k,λυ υ b υ=> b,eg,eo⟩
theorem Go.toks {t:Nat}:Go C x x s {s with toks:=t}:= .keeps λυ υ e=> e
theorem ET (i:In C x l h) (o:AN) (f:o.isFreed=false):Fz (h.push o) x.bad h.objs.size o:=⟨Heap.get?_push_size h f,λq=> Nat.lt_irrefl _ (Nat.lt_of_lt_of_le (i.wd.fit _ q) (Al h))⟩
theorem In.G2 (O:C.Ok) (i:In C x l h) {k n:Nat} {w:W} {v:Value} {c:Addr} (hc:c ∈ C.my) (hk:nth C.ns k=some (some n)) (r:C.rel x h v w) {h':Heap} (hs:Heap.SameBut c h h') (lz:C2 h h')
  (hv:DU C.env h' (C.T.nm n) v) (hd:∃m,h'.Ns C.env.locals m) (hcell:∀y c',C.env.cells.lookup y=some c'->∃v,h'.IsCell c' v)
  (hfr:c ∈ C.fr->∃m,h'.Ns c m) (oth:∀y u,y ≠ C.T.nm n->DU C.env h y u->DU C.env h' y u):In C x (put l k (some w)) h':=by
 have cb:=i.mine c hc;have fz:∀a o,Fz h x.bad a o->Fz h' x.bad a o:=λa o e=> ⟨(hs.2 a λq=> e.2 (q▸cb.1)).trans e.1,e.2⟩
 refine ⟨i.wd.quiet (mod:=λa=> a=c) (bad':=x.bad) ⟨λa o e q=> (hs.2 a q).trans e,λυ=> .inl,lz⟩ (λa q=> q▸cb.1) (λa q=> q▸cb.2) (λa q=> i.wd.DQ q) (λa q=> Nat.lt_of_lt_of_le (i.wd.fit a q) (Cg lz)),hd, ?_,λy c' e=> ⟨(i.cell y c' e).1,(i.cell y c' e).2.1,hcell y c' e⟩,i.mine, ?_⟩
 ·intro j n' w' a e;rw [Df] at e;by_cases q:k=j
  ·subst q;rw [hk] at a;cases a;rw [if_pos rfl] at e
   split at e
   ·cases e;exact ⟨v,hv,r.mono fz (Mu.le_refl _)⟩
   ·exact nn e
  ·rw [if_neg q] at e;obtain ⟨v',b,z⟩:=i.loc j n' w' a e;exact ⟨v',oth _ _ (λz=> q (O.apart j k n' n a hk z).symm) b,z.mono fz (Mu.le_refl _)⟩
 ·intro e he;obtain ⟨a,b,m',z,d,q⟩:=i.frames e he;by_cases hb:b=c
  ·obtain ⟨m'',hm''⟩:=hfr (List.mem_filterMap.mpr ⟨e,he,hb▸z⟩);exact ⟨a,b,_,z,hb▸hm'',q⟩
  ·exact ⟨a,b,m',z,d.sameBut hs hb,q⟩
theorem Go.G2 {c:Addr} (hc:c ∈ C.my) {h':Heap} {tk:Nat} (hs:Heap.SameBut c s.heap h') (lz:C2 s.heap h'):Go C x x s {s with heap:=h',toks:=tk}:=
 ⟨⟨λa o e q=> (hs.2 a λz=> q (.inr (.inl (z▸hc)))).trans e,λυ=> .inl,lz⟩,Mu.le_refl _,λυ=> .inl,λa ha n m e=> e.sameBut hs λz=> n (z▸hc),λυ υ b υ=> b,rfl,rfl⟩
def AR (C:Cx) (y:Str):Prop:=C.env.kindOf y=some .local\/(C.env.kindOf y=some .cell/\∃c,C.env.cells.lookup y=some c/\c ∈ C.my)
theorem Ek (O:C.Ok) (i:In C x l s.heap) {k n:Nat} {w:W} {v:Value} (hk:nth C.ns k=some (some n)) (mn:AR C (C.T.nm n)) (r:C.rel x s.heap v w) {M:Model} {A:Around} {Q:Unit->Shared->Prop} {E:VP}
  (q:∀s',Go C x x s s'->In C x (put l k (some w)) s'.heap->Q () s'):wpAny M A (storeName C.env (C.T.nm n) v) Q E s:=by
 rcases mn with hl |⟨hl,c,hc,hm⟩
 ·obtain ⟨m,hn⟩:=i.dict;refine wpAny_storeName_local hl hn (λh' hn' hs=> ?_) (by rw [O.kind];rfl);have lz:C2 s.heap h':=let ⟨_,_,_,e,_⟩:=hn';C7 hs.2 e
  refine q _ (Go.G2 O.mine hs lz) (i.G2 O O.mine hk r hs lz (.inl ⟨hl,_,hn',if_pos rfl⟩) ⟨_,hn'⟩ (λy c' e=> ?_) (λυ=> ⟨_,hn'⟩) λy u ne z=> ?_)
  ·obtain ⟨_,_,v,q⟩:=i.cell y c' e;exact ⟨v,q.sameBut hs λz=> BQ hn (z▸q)⟩
  ·rcases z with ⟨a,m',b,z⟩ |⟨a,c',b,z⟩
   ·refine .inl ⟨a,_,hn', ?_⟩;show (if _ then _ else _)=_;rw [if_neg ne,<- z];exact hn.agree b y
   ·exact .inr ⟨a,c',b,z.sameBut hs λq=> BQ hn (q▸z)⟩
 ·obtain ⟨_,_,v₀,hv⟩:=i.cell _ c hc;refine wpAny_storeName_cell O.kind hl hc hv λh' hv' hs=> ?_
  have nd:∀m,¬ s.heap.Ns c m:=λm z=> BQ z hv
  have lz:C2 s.heap h':=let ⟨_,e,_⟩:=hv';C7 hs.2 e
  refine q _ (Go.G2 (tk:=s.toks) hm hs lz) (i.G2 O hm hk r hs lz (.inr ⟨.inl hl,c,hc,hv'⟩) ?_ (λy c' e=> ?_) (λz=> ?_) λy u ne z=> ?_)
  ·exact i.dict.imp λm z=> z.sameBut hs λq=> nd m (q▸z)
  ·by_cases z:c' =c
   ·exact ⟨_,z▸hv'⟩
   ·obtain ⟨_,_,v,q⟩:=i.cell y c' e;exact ⟨v,q.sameBut hs z⟩
  ·have:=O.once c z hm;obtain ⟨m,hn⟩:=i.dict;exact (nd m (this▸hn)).elim
  ·rcases z with ⟨a,m',b,z⟩ |⟨a,c',b,z⟩
   ·exact .inl ⟨a,m',b.sameBut hs λq=> nd m' (q▸b),z⟩
   ·exact .inr ⟨a,c',b,z.sameBut hs λq=> ne (O.cinj _ _ _ (q▸b) hc)⟩
theorem In.forget (i:In C x l h) (k:Nat):In C x (put l k none) h:=⟨i.wd,i.dict,λj n w' a e=> by
 rw [Df] at e
 split at e
 ·split at e
  ·exact nomatch e
  ·exact nn e
 ·exact i.loc j n w' a e,i.cell,i.mine,i.frames⟩
theorem In.set (oc:C.Ok) (i:In C x l h) {k:Nat} {o o':O} (ho:nth x.σ k=some o) (sh:O.ad o' (x.μ k) (x.δ k)=O.ad o (x.μ k) (x.δ k))
  (kp:∀a y,h.get? a=some y->a ∉ O.ad o (x.μ k) (x.δ k)->h'.get? a=some y) (sz:lv h <= lv h')
  (at':(∀a y,Fz h x.bad a y->Fz h' x.bad a y)->CO C.T h' (Fz h' x.bad) x.mu (x.μ k) (x.δ k) o') (sf:∀c fs,o' = .inst c fs->x.μ k ≠ x.δ k):In C (x.set k o') l h':=
 i.via (i.wd.set ho (.inl sh) kp sz at' sf) (by rw [Wx.MB];exact Mu.le_refl _) (λa y e=> ⟨kp a y e.1 λq=> e.2 (i.wd.ownB k o ho a q),e.2⟩) (λa b q=> ⟨b,λz=> q (Wx.set_owned ho sh z)⟩) (λb y q υ e=> kp b y e λz=> q ⟨k,o,ho,z⟩) oc
theorem Go.set (i:In C x l s.heap) {k:Nat} {o o':O} {s':Shared} (ho:nth x.σ k=some o) (sh:O.ad o' (x.μ k) (x.δ k)=O.ad o (x.μ k) (x.δ k))
  (kp:∀a y,s.heap.get? a=some y->a ∉ O.ad o (x.μ k) (x.δ k)->s'.heap.get? a=some y) (sz:C2 s.heap s'.heap) (eg:s'.gens=s.gens:=by rfl) (eo:s'.os=s.os:=by rfl):Go C x (x.set k o') s s':=
 ⟨⟨λa y e q=> kp a y e λz=> q (.inl ⟨k,o,ho,z⟩),λυ=> .inl,sz⟩,by rw [Wx.MB];exact Mu.le_refl _,λa z=> .inl (Wx.set_owned ho sh z),λa ha υ m e=> G5 (λy e1=> kp a y e1 λz=> (let ⟨_,_,_,q⟩:=i.frame ha;q ⟨k,o,ho,z⟩)) e,λυ υ b υ=> b,eg,eo⟩
theorem In.add (oc:C.Ok) (i:In C x l h) {o:O} {m d:Addr} (kp:Keeps h h') (fr:∀a ∈ O.ad o m d,lv h <= a/\a < lv h') (md:m ≠ d)
  (at':(∀a y,Fz h x.bad a y->Fz h' (x.add o m d).bad a y)->CO C.T h' (Fz h' (x.add o m d).bad) (x.add o m d).mu m d o):In C (x.add o m d) l h':=
 i.via (i.wd.add kp fr md at') (x.F4 o m d) (λa y e=> ⟨kp a y e.1,λq=> q.elim e.2 λz=> Nat.not_lt.mpr (fr a z).1 (Ak e.1)⟩)
  (λa b q=> ⟨.inl b,λz=> (Wx.J0 z).elim q λz=> Nat.not_lt.mpr (fr a z).1 (i.wd.fit _ b)⟩) (λb y υ υ e=> kp b y e) oc
theorem Go.add {o:O} {m d:Addr} {s':Shared} (kp:Keeps s.heap s'.heap) (fr:∀a ∈ O.ad o m d,lv s.heap <= a/\a < lv s'.heap) (eg:s'.gens=s.gens:=by rfl) (eo:s'.os=s.os:=by rfl):Go C x (x.add o m d) s s':=
 ⟨⟨λa y e υ=> kp a y e,λa q=> q.elim .inl λz=> .inr (fr a z).1,Cf kp⟩,x.F4 o m d,λa z=> (Wx.J0 z).imp id λz=> (fr a z).1,λa ha υ m e=> e.keeps kp,λυ υ b υ=> .inl b,eg,eo⟩
theorem In.cn (oc:C.Ok) (i:In C x l s.heap) {o:O} {ob:AN} (f:ob.isFreed=false) (ad:∀m d,O.ad o m d= [m]) (at':∀h' F μ m d,(∀a y,Fz s.heap x.bad a y->F a y)->x.mu.le μ->h'.get? m=some ob->CO C.T h' F μ m d o):
  Go C x (x.add o s.heap.objs.size (s.heap.objs.size + 1)) s {s with heap:=s.heap.push ob}/\In C (x.add o s.heap.objs.size (s.heap.objs.size + 1)) l (s.heap.push ob)/\C.rel (x.add o s.heap.objs.size (s.heap.objs.size + 1)) (s.heap.push ob) (.ref s.heap.objs.size) (.ref x.σ.length):=by
 have k:=Ab s.heap ob;have g:=Heap.get?_push_size s.heap f;have fr:∀a ∈ O.ad o s.heap.objs.size (s.heap.objs.size + 1),lv s.heap <= a/\a < lv (s.heap.push ob):=λa ha=> by
  rw [ad,List.mem_singleton] at ha;subst ha;exact ⟨Al _,Ak g⟩
 exact ⟨Go.add k fr,i.add oc k fr (Nat.ne_of_lt (Nat.lt_succ_self _)) λfz=> at' _ _ _ _ _ fz (x.F4 _ _ _) g,⟨congrArg Value.ref Dz.symm,by simp [Wx.mu,Wx.add]⟩⟩
theorem Aq {x':Wx} {s':Shared} {v:Value} {w:W} (i:In C x l s.heap) (g:Go C x x' s s') (r:C.rel x s.heap v w):C.rel x' s'.heap v w:=Rel.mono (Go.fz i g) g.mu r
theorem CX {x':Wx} {s':Shared} {v:List Value} {w:List W} (i:In C x l s.heap) (g:Go C x x' s s') (r:C.BF x s.heap v w):C.BF x' s'.heap v w:=AD.mono (Go.fz i g) g.mu r
end
noncomputable def AG (p:Nat):Pos:=⟨p / 134217728,p / 65536 % 2048,p / 134217728 + p / 2048 % 32,p % 2048⟩
noncomputable def Lr (w:W):Const:=match w with
 | .none=> .none
 | .bool b=> .bool b
 | .int i=> .int i
 | .str s=> .str ⟨s.toArray⟩
 | .bytes b=> .bytes b
 |_=> .ellipsis
def EF (w:W):Bool:=match w with
 | .none=> true | .bool _=> true | .int _=> true | .str s=> Nat.ble s.length LIM | .bytes b=> Nat.ble b.length LIM
 |_=> false
noncomputable def Om (o:Bop):Operator:=match o with
 | .add=> .Add | .sub=> .Sub | .mul=> .Mult | .fdiv=> .FloorDiv | .mod=> .Mod | .pow=> .Pow | .shl=> .LShift | .shr=> .RShift | .band=> .BitAnd | .bor=> .BitOr
noncomputable def DR (o:Cop):CmpOp:=match o with
 | .eq=> .Eq | .ne=> .NotEq | .lt=> .Lt | .le=> .LtE | .gt=> .Gt | .ge=> .GtE
noncomputable def isD (neg:Bool):CmpOp:=match neg with |true=> .IsNot |false=> .Is
noncomputable def inD (neg:Bool):CmpOp:=match neg with |true=> .NotIn |false=> .In
noncomputable def OA (isAnd:Bool):BoolOp:=match isAnd with |true=> .And |false=> .Or
noncomputable def bnm (f:Nat):Str:=match f with
 |0=> "len" |1=> "ord" |2=> "chr" |3=> "bytes" |4=> "bytearray" |5=> "tuple" |6=> "str" |7=> "sorted" |8=> "range" |_=> "enumerate"
def KQ:List (List Nat)->List Nat->List (Option PySem.Expr)
 |k::ks,p::ps=> some (.Constant (.str ⟨k.toArray⟩) 0 (AG p))::KQ ks ps
 |_,_=> []
def IJ (T:Tb):List Nat->List Nat->List PySem.Expr
 |n::ns,p::ps=> .Name (T.nm n) (AG p)::IJ T ns ps
 |_,_=> []
def tgD (T:Tb) (ns ps:List Nat) (tp:Nat):PySem.Expr:=match ns with
 | [n]=> .Name (T.nm n) (AG tp)
 |ns=> .Tuple (IJ T ns ps) 0 (AG tp)
def itD (ik:Nat) (e:PySem.Expr) (fp ip:Nat):PySem.Expr:=match ik with
 |0=> e
 |1=> .Call (.Name (bnm 8) (AG fp)) [e] [] (AG ip)
 |_=> .Call (.Name (bnm 9) (AG fp)) [e] [] (AG ip)
mutual
def den (T:Tb):E->PySem.Expr
 | .lit x p=> .Constant (Lr x) 0 (AG p)
 | .loc _ n p=> .Name (T.nm n) (AG p)
 | .glob _ n p=> .Name (T.nm n) (AG p)
 | .attr e _ a p=> .Attribute (den T e) (T.nm a) (AG p)
 | .idx e i p=> .Subscript (den T e) (den T i) (AG p)
 | .slc e lo hi sp p=> .Subscript (den T e) (.Slice (N7 T lo) (N7 T hi) none (AG sp)) (AG p)
 | .bin o a b _ p=> .BinOp (den T a) (Om o) (den T b) (AG p)
 | .neg a p=> .UnaryOp .USub (den T a) (AG p)
 | .not a p=> .UnaryOp .Not (den T a) (AG p)
 | .boolop t es p=> .BoolOp (OA t) (AV T es) (AG p)
 | .cmp a o b p=> .Compare (den T a) [DR o] [den T b] (AG p)
 | .isN a neg cp p=> .Compare (den T a) [isD neg] [.Constant .none 0 (AG cp)] (AG p)
 | .mem a b neg p=> .Compare (den T a) [inD neg] [den T b] (AG p)
 | .cmp2 a o b o' c p=> .Compare (den T a) [DR o,DR o'] [den T b,den T c] (AG p)
 | .ite t a b p=> .IfExp (den T t) (den T a) (den T b) (AG p)
 | .tup es p=> .Tuple (AV T es) 0 (AG p)
 | .lst es _ p=> .List (AV T es) (AG p)
 | .dct ks vs kp p=> .Dict (KQ ks kp) (AV T vs) (AG p)
 | .call _ args n fp p=> .Call (.Name (T.nm n) (AG fp)) (AV T args) [] (AG p)
 | .new _ _ args n fp p=> .Call (.Name (T.nm n) (AG fp)) (AV T args) [] (AG p)
 | .bcall f args fp p=> .Call (.Name (bnm f) (AG fp)) (AV T args) [] (AG p)
 | .isi e _ n fp kp p=> .Call (.Name "isinstance" (AG fp)) [den T e,.Name (T.nm n) (AG kp)] [] (AG p)
 | .mown o _ _ m args mp p=> .Call (.Attribute (den T o) (T.nm m) (AG mp)) (AV T args) [] (AG p)
 | .mfld o _ m args mp p=> .Call (.Attribute (den T o) (T.nm m) (AG mp)) (AV T args) [] (AG p)
 | .mblt o _ m args mp p=> .Call (.Attribute (den T o) (T.nm m) (AG mp)) (AV T args) [] (AG p)
 | .dele o c m mp p1 p2 p=> .Call (.Attribute (den T o) (T.nm m) (AG mp)) [.Constant (.str ⟨#[c]⟩) 0 (AG p1),.Constant (.str ⟨#[]⟩) 0 (AG p2)] [] (AG p)
 | .comp elt _ tn tps ik it ifs sc _ fp ip tp p=> .ListComp (den T elt) [⟨tgD T tn tps tp,itD ik (den T it) fp ip,AV T ifs,0⟩] (T.sc sc) (AG p)
 | .frz e=> den T e
 | .memv a d m mp vp p=> .Compare (den T a) [.In] [.Call (.Attribute (den T d) (T.nm m) (AG mp)) [] [] (AG vp)] (AG p)
def AV (T:Tb):List E->List PySem.Expr
 | []=> []
 |e::r=> den T e::AV T r
def N7 (T:Tb):Option E->Option PySem.Expr
 |none=> none
 |some e=> some (den T e)
end
def GI (T:Tb) (t:AR.T):PySem.Expr:=match t with
 | .loc _ n p=> .Name (T.nm n) (AG p)
 | .attr e _ a p=> .Attribute (den T e) (T.nm a) (AG p)
 | .idx e i p=> .Subscript (den T e) (den T i) (AG p)
def Cv (T:Tb):List AR.T->List PySem.Expr
 | []=> []
 |t::r=> GI T t::Cv T r
mutual
def GN (T:Tb):S->Stmt
 | .asg t e p=> .Assign [GI T t] (den T e) (AG p)
 | .asgT ts e tp p=> .Assign [.Tuple (Cv T ts) 0 (AG tp)] (den T e) (AG p)
 | .expr e p=> .Expr (den T e) (AG p)
 | .ret e p=> .Return (N7 T e) (AG p)
 | .ite t a b p=> .If (den T t) (B6 T a) (B6 T b) (AG p)
 | .while t b p=> .While (den T t) (B6 T b) [] (AG p)
 | .for _ tn tps ik it b fp ip tp p=> .For (tgD T tn tps tp) (itD ik (den T it) fp ip) (B6 T b) [] (AG p)
 | .raise e p=> .Raise (some (den T e)) none (AG p)
 | .try b _ name h n cp hp p=> .Try (B6 T b) [.ExceptHandler (some (.Name (T.nm n) (AG cp))) (match name with |some x=> some (T.nm x.2) |none=> none) (B6 T h) (AG hp)] [] [] (AG p)
 | .pass p=> .Pass (AG p)
def B6 (T:Tb):List S->List Stmt
 | []=> []
 |s::r=> GN T s::B6 T r
end
structure CV (T:Tb):Prop where
 inj:∀n n',n < T.cnt->n' < T.cnt->T.nm n=T.nm n'->n=n'
 plain:∀n,n < T.cnt->(T.nm n==("__debug__" :Str))=false/\(T.nm n==("__classdict__" :Str))=false/\(T.nm n !=("super" :Str))=true/\T.nm n ≠ "__name__"
theorem D0 (s y:Str) (t:Tok):(Value.str s t).isStr y=(s==y):=rfl
theorem CV.is {T:Tb} (N:CV T) {a b:Nat} (ha:a < T.cnt) (hb:b < T.cnt):(T.nm b==T.nm a)=decide (b=a):=by
 by_cases h:b=a
 ·clear ha;subst h;simp
 ·rw [decide_eq_false h];exact beq_eq_false_iff_ne.mpr λz=> h (N.inj b a hb ha z)
theorem FX {α:Type} (p:Nat × α) (r:List (Nat × α)) (k:Nat):lkp (p::r) k=if p.1=k then some p.2 else lkp r k:=by
 show Bool.rec (motive:=λυ=> Option α) (lkp r k) (some p.2) (Nat.beq p.1 k)=_;generalize h:Nat.beq p.1 k=x9;induction x9 using bC with
 |true=> rw [if_pos (eBq h)]
 |false=> rw [if_neg (Nat.ne_of_beq_eq_false h)]
theorem AY {α:Type} {l:List (Nat × α)} {n:Nat} {k:α} (e:lkp l n=some k):(n,k) ∈ l:=by
 induction l with
 |nil=> cases e
 |cons p r ih=>
  rw [FX] at e
  split at e
  ·rename_i h;clear ih;subst h;cases e;exact .head _
  ·exact .tail _ (ih e)
noncomputable def Bp (k:Nat):NameKind:=match k with |0=> .local |1=> .cell |2=> .free |3=> .globalExplicit |_=> .globalImplicit
def D6 (T:Tb) (l:NN):List (Str × NameKind):=l.map λq=> (T.nm q.1,Bp q.2)
theorem BM {T:Tb} (N:CV T) {l:NN} {n k:Nat} (lt:∀q ∈ l,q.1 < T.cnt) (e:lkp l n=some k):(D6 T l).lookup (T.nm n)=some (Bp k):=by
 have hn:n < T.cnt:=lt _ (AY e);induction l with
 |nil=> cases e
 |cons p r ih=>
  rw [FX] at e;show List.lookup _ ((T.nm p.1,Bp p.2)::D6 T r)=_;rw [List.lookup_cons,N.is (lt p (.head _)) hn]
  split at e
  ·rename_i h;clear ih;cases e;rw [decide_eq_true h.symm]
  ·rename_i h;rewrite [decide_eq_false λz=> h z.symm];exact ih (λq hq=> lt q (.tail _ hq)) e
structure Cx.Sc (C:Cx) (ks:NN):Prop where
 scope:C.env.scope.names=D6 C.T ks
 lt:∀q ∈ ks,q.1 < C.T.cnt
theorem Cx.Sc.kind {C:Cx} {ks:NN} (S:C.Sc ks) (N:CV C.T) {n k:Nat} (e:lkp ks n=some k):C.env.kindOf (C.T.nm n)=some (Bp k):=by
 unfold Env.kindOf;rw [S.scope];exact BM N S.lt e
section
variable {T:Tb} {F:Ad} {μ:Mu}
theorem Af.find {fs:List W} {as:List Nat} {es:List DictEntry} {j:Nat} {x:W} (N:CV T) (q:Af T F μ fs as es) (lt:∀b ∈ as,b < T.cnt) (nd:as.Nodup) (hx:nth fs j=some x):
  ∃a e,as[j]? =some a/\es.find? (·.key.isStr (T.nm a))=some e/\es.findIdx? (·.key.isStr (T.nm a))=some j/\Rel T F μ x e.val:=by
 induction fs generalizing as es j with
 |nil=> cases hx
 |cons w r ih=>
  obtain ⟨b,as',e,es',t,rfl,rfl,k,rv,q⟩:=q;induction j with
  |zero=> cases hx;exact ⟨b,e,rfl,by rw [List.find?_cons,k,D0,beq_self_eq_true],by rw [List.findIdx?_cons,k,D0,beq_self_eq_true];rfl,rv⟩
  |succ j=>
   obtain ⟨a,e',h1,h2,h3,h4⟩:=ih q (λc hc=> lt c (.tail _ hc)) (List.nodup_cons.mp nd).2 hx;have ma:a ∈ as':=List.mem_of_getElem? h1;have:(e.key.isStr (T.nm a))=false:=by
    rw [k,D0,N.is (lt a (.tail _ ma)) (lt b (.head _))];exact decide_eq_false λz=> (List.nodup_cons.mp nd).1 (z▸ma)
   exact ⟨a,e',h1,by rw [List.find?_cons,this];exact h2,by rw [List.findIdx?_cons,this,h3];rfl,h4⟩
end
section
variable {C:Cx} {x:Wx} {l:LL} {s:Shared} {Q:VP} {E:VP}
theorem Bc {α β:Type} {rel:Wx->Heap->β->α->Prop} {n:Nat} {z:Option α} {Q:β->Shared->Prop} (o:Out C x l s rel (kO n z x.σ) Q E):∃y,z=some y/\Out C x l s rel (.ok y x.σ) Q E:=by
 induction z using oC with
 |none=> exact o.elim
 |some y=> exact ⟨y,rfl,o⟩
theorem Out.now {α β:Type} {rel:Wx->Heap->β->α->Prop} {a:α} {Q:β->Shared->Prop} (i:In C x l s.heap) (o:Out C x l s rel (.ok a x.σ) Q E) {b:β} {tk:Nat} (q:rel x s.heap b a):Q b {s with toks:=tk}:=o b {s with toks:=tk} x rfl .toks i q
theorem SM (O:C.Ok) {k n:Nat} {p:Pos} (hk:nth C.ns k=some (some n)):B0 C C.rel (eval (.Name (C.T.nm n) p) C.env) (AE k):=by
 intro x l s Q E i o;have o:Out C x l s C.rel (GW (nth l k) x.σ) Q E:=o;generalize h:nth l k=x9;induction x9 using oC with
 |none=> rw [h] at o;exact o.elim
 |some w=>
  rw [h] at o;obtain ⟨w,rfl,o⟩:=Bc o;obtain ⟨v,hv,r⟩:=i.loc k n w hk h;have q:=o v s x rfl (.refl ..) i r;refine Bw.of (wpAny_Name ?_ (O.names k n hk).1);rcases hv with ⟨a,m,b,c⟩ |⟨a |a,c,b,d⟩
  ·exact wpAny_loadName_local O.kind a b c q
  ·exact wpAny_loadName_cell O.kind a b d q
  ·exact wpAny_loadName_free O.kind a b d q (O.names k n hk).2
theorem Lg (w:W) (k:Nat) (p:Pos) (g:EF w=true):B0 C C.rel (eval (.Constant (Lr w) k p) C.env) (AQ w):=by
 intro x l s Q E i o;refine Bw.of λυ υ υ=> ?_
 induction w using W.casesOn with
 |none=> exact o .none s x rfl (.refl ..) i rfl
 |bool b=> exact o (.bool b) s x rfl (.refl ..) i rfl
 |int j=> exact o (.int j s.toks) {s with toks:=s.toks + 1} x rfl .toks i ⟨_,rfl⟩
 |str t=> exact o (.str ⟨t.toArray⟩ s.toks) {s with toks:=s.toks + 1} x rfl .toks i ⟨_,rfl,lBl g⟩
 |bytes t=> exact o (.bytes t.toArray s.toks) {s with toks:=s.toks + 1} x rfl .toks i ⟨_,rfl,lBl g⟩
 |_=> exact nomatch (show false=true from g)
end
end
section
open PySem PySem.W PySem.Calls PyProof.Rows PySem.SeqAt
structure ClsAt (B:Base) (c:Nat) (k:Cls):Prop where
 cd:∃cd,clsIn B.KF c=some cd/\cd.hasDict=true
 own:∀a ∈ k.fields,findIn B.KF (.ref c) (B.T.nm a)=some none
 lt:∀a ∈ k.fields,a < B.T.cnt
 nd:k.fields.Nodup
 few:k.fields.length <= 100
 sa:findIn B.KF (.ref c) "__setattr__" =some (some (.builtin "object.__setattr__"))
 over:k.kind ≠ 2->plainOver B.KF c=true
 g:findIn B.KF (.ref c) "__getattr__" =some none
 ga:k.kind ≠ 2->findIn B.KF (.ref c) "__getattribute__" =some (some (.builtin "object.__getattribute__"))
 mroE:k.kind=2->mroIn B.KF c (.type "BaseException")=some true
 gaE:k.kind=2->findIn B.KF (.ref c) "__getattribute__" =some (some (.builtin "BaseException.__getattribute__"))
noncomputable def mu0:Mu:=⟨λυ=> 0,0⟩
theorem Kw (μ:Mu):mu0.le μ:=⟨Nat.zero_le _,λi h=> absurd h (Nat.not_lt_zero _)⟩
structure Base.Ok (B:Base):Prop where
 glob:∀k n y,B.T.gl k=some n->B.T.Z.glob k=some y->∃v,nsIn B.KF mainGlobals (B.T.nm n)=some (some v)/\Rel B.T (λa o=> B.hb.get? a=some o) mu0 y v
 addr:∀n f,B.T.ga n=some f->nsIn B.KF mainGlobals (B.T.nm n)=some (some (.ref f))
 bins:∀f n,B.T.bi f=some n->n < B.T.cnt/\B.T.nm n=bnm f/\nsIn B.KF mainGlobals (B.T.nm n)=some none
 isi:B.T.ii < B.T.cnt/\B.T.nm B.T.ii= "isinstance" /\nsIn B.KF mainGlobals "isinstance" =some none
 boot:∃mb,B.hb.Ns builtinsNs mb/\∀x:Str,x ≠ "__name__" ->mb x=bootBuiltins x
 cls:∀c k,B.T.cls c=some k->ClsAt B c k
 K:B.KF.In B.hb
 p:B.T.p=B.w.params
 names:CV B.T
 lim:B.hb.NoLimit
 sysm:∃o,B.hb.get? sysModules=some o
section
variable {C:Cx} {x:Wx} {l:LL} {s:Shared} {Q:VP} {E:VP}
theorem Pp {h:Heap} {bad:Addr->Prop}:∀a o,Fz h bad a o->h.get? a=some o:=λυ υ e=> e.1
theorem In.KX (B:C.toBase.Ok) (i:In C x l s.heap):C.KF.In s.heap:=B.K.keeps i.wd.top
theorem Sn (i:In C x l s.heap) {w:W} {v:Value} (r:Rel C.T (λa o=> C.hb.get? a=some o) mu0 w v):C.rel x s.heap v w:=r.mono (λυ υ e=> i.wd.fz e) (Kw _)
theorem FY {v:Value} {w:W} {h:Heap} (r:C.rel x h v w):handedIn v=true:=by
 have r:Rel C.T (Fz h x.bad) x.mu w v:=r;induction w using W.casesOn with
 |none=> cases (show v=_ from r);rfl
 |bool=> cases (show v=_ from r);rfl
 |int=> obtain ⟨t,rfl⟩:=r;rfl
 |str=> obtain ⟨t,rfl,_⟩:=r;rfl
 |bytes=> obtain ⟨t,rfl,_⟩:=r;rfl
 |fn=> cases (show v=_ from r);rfl
 |ref=> cases r.1;rfl
 |tup=> obtain ⟨a,vs,n,rfl,_⟩:=r;rfl
 |lst=> obtain ⟨a,vs,n,rfl,_⟩:=r;rfl
 |dct=> obtain ⟨a,vs,n,rfl,_⟩:=r;rfl
 |obj=> obtain ⟨a,o,d,vs,n,rfl,_⟩:=r;rfl
theorem GH {α:Type} {f:O->Option α} {w:W} {v:Value} {y:α} (i:In C x l s.heap) (r:C.rel x s.heap v w) (e:atO f x.σ w=some y):E25 (λj o=> w= .ref j) (λj o=> v= .ref (x.μ j)) (λj o=> nth x.σ j=some o) (λj o=> f o=some y) (λj o=> CO C.T s.heap (Fz s.heap x.bad) x.mu (x.μ j) (x.δ j) o):=by
 obtain ⟨j,e1,e'⟩:=AA e;obtain ⟨o,e2,e3⟩:=AA e';cases Eg e1;exact ⟨j,o,rfl,r.1,e2,e3,i.wd.own j o e2⟩
theorem EK {w:W} {v:Value} {ws:List W} (i:In C x l s.heap) (r:C.rel x s.heap v w) (e:snap x.σ w=some ws):E34 (λa vs n=> v= .ref a) (λa vs n=> s.heap.get? a=some (AI vs n)) (λa vs n=> C.BF x s.heap vs ws) (λa vs n=> ws.length <= LIM):=by
 rcases AX e with e |e
 ·cases Fd e;obtain ⟨a,vs,n,h1,h2,h3,h4⟩:=r;exact ⟨a,vs,n,h1,h2.1,h4,h3⟩
 ·obtain ⟨j,o,rfl,rfl,_,e9,D⟩:=GH i r e;cases Bj e9;obtain ⟨vs,n,h1,h2,h3⟩:=D;exact ⟨_,vs,n,rfl,h1,h2,h3⟩
theorem Jg {w:W} {v:Value} {p:Nat × List W} (i:In C x l s.heap) (r:C.rel x s.heap v w) (e:MA x.σ w=some p):E54 (λa ox d es n=> v= .ref a) (λa ox d es n=> InstAt s.heap a ox p.1 (some (AM es n))) (λa ox d es n=> ox.dict=some d) (λa ox d es n=> Af C.T (Fz s.heap x.bad) x.mu p.2 (AH C.T p.1) es):=by
 rcases AX e with e |e
 ·cases Si e;obtain ⟨a,o,d,es,n,h1,h2,h3,h4,h5,h6,h7⟩:=r;exact ⟨a,o,d,es,n,h1,⟨h2.1,h3,h4,by rw [h5];exact h6.1⟩,h5,h7⟩
 ·obtain ⟨j,o,rfl,rfl,_,e9,D⟩:=GH i r e;cases Hk e9;obtain ⟨es,n,h1,h2,rf⟩:=D;exact ⟨_,_,x.δ j,es,n,rfl,⟨h1,rfl,rfl,h2⟩,rfl,rf⟩
theorem F1 {K:Frag} {c:Nat} {cd:ClassData} {od:PySem.Obj} {name:Str} {v:Value} (h1:clsIn K c=some cd) (h2:cd.hasDict=true) (h3:findIn K (.ref c) name=some none) (h4:lookIn name od=some (some v)):
  findObj K c (some od) name=some (.value v):=by
 unfold findObj PySem.W.ownOf;rw [h1,h3];simp only [Option.bind_some,h2,if_true,h4]
end
theorem Kj:Slot "BaseException" "__getattribute__" "BaseException.__getattribute__" :=
 .of (owner:= "BaseException") (n:= "__getattribute__") (by rw [typeLookup_type,builtinLookup_eq_fast];kernel_rfl) (by decide +kernel) (by decide +kernel) (by decide +kernel)
  (by first |exact .inl (by decide +kernel) |exact .inr (by decide +kernel)) (by rw [isSubtype_type];kernel_rfl)
theorem Ws:(Value.builtin "BaseException.__getattribute__" ==Value.builtin "object.__getattribute__")=false:=by decide +kernel
theorem SY:builtinKind "BaseException.__getattribute__" =some .slot:=by decide +kernel
theorem Qb:splitId "BaseException.__getattribute__" =some ("BaseException", "__getattribute__"):=by decide +kernel
section
variable {prog:Program} {w:World} {A:Around} {E:VP} {s:Shared} {K:Frag} {a c:Addr} {ox:AN} {od:Option AN} {name:Str} {expr:Bool} {Q:VP}
set_option maxHeartbeats 400000 in
theorem M1 {v:Value} (X:K.In s.heap) (I:InstAt s.heap a ox c od) (hga:findIn K (.ref c) "__getattribute__" =some (some (.builtin "BaseException.__getattribute__"))) (hg:findIn K (.ref c) "__getattr__" =some none)
  (hm:mroIn K c (.type "BaseException")=some true) (hf:findObj K c od name=some (.value v)) (hh:handedIn v=true) (h:Q v {s with toks:=s.toks + 1}):wpAny (model prog w) A (PySem.getAttr (.ref a) name expr) Q E s:=by
 obtain ⟨hp,g,d,t,os⟩:=s;have L0:=I.type (M:=model prog w);have L1:=looks_findIn (M:=model prog w) X hga;have L2:=looks_findIn (M:=model prog w) X hg;have L3:=looks_find (M:=model prog w) X I hf;have L4:Looks (model prog w) hp (isInstance (.ref a) (.type "BaseException")) true:=L0.andThen (looks_mroIn X hm);unfold PySem.getAttr getAttrBy;refine wpAny_bind (wpAny_mkText (wpAny_holding (wpAny_bind (L0.at (wpAny_bind (L1.at ?_))))));dsimp only;rw [show (onTheHeap (.ref c) && Value.builtin "BaseException.__getattribute__" ==Value.builtin "object.__getattribute__")=false from by rw [Ws,Bool.and_false],if_neg (by decide)];unfold getAttrByItsOwn;refine wpAny_bind ?_;have L5:Looks (model prog w) hp (hookBefore (.ref c)) none:=by
  unfold hookBefore;rw [if_pos (show onTheHeap (.ref c)=true from rfl)];exact L2
 refine L5.at (wpAny_bind (wpAny_attempt (wpAny_holding ?_)));unfold callGetattribute;rw [show (expr && onTheHeap (Value.builtin "BaseException.__getattribute__"))=false from by cases expr <;> rfl,if_neg (by decide)];unfold boundAndCalled;rw [Kj.bind];refine wpAny_bind (wpAny_pure ?_);show wpAny _ _ (call (.builtin "BaseException.__getattribute__") [.ref a,.str name t]) _ _ _;refine wpAny_call (codeAny_call_builtin Kj.plain F.entry_bexc_ga ?_);refine @check_slot (model prog w) _ _ ⟨hp,g,d,t + 1,os⟩ "BaseException.__getattribute__" "BaseException" "__getattribute__" (.ref a) [.str name t] [] _ SY Qb L4 (F.args_bexc_ga (.ref a) (.str name t)) ?_;unfold Builtin.«object.__getattribute__»;refine wpAny_bind (wpAny_pure (wpAny_bind (wpAny_pure (wpAny_bind (L0.at (wpAny_bind (L3.at ?_)))))));refine wpAny_pure ?_;show wpAny _ _ (handedOut v) _ _ _;rw [handedOut_of hh];exact wpAny_pure h
end
def Ck (T:Tb) (alts:NN) (a:Nat):Prop:=∀q ∈ alts,∃k,T.cls q.1=some k/\k.fields[q.2]? =some a
section
variable {C:Cx} {x:Wx} {l:LL} {s:Shared} {Q:VP} {E:VP}
theorem Gj (B:C.toBase.Ok) (i:In C x l s.heap) {va:Value} {w y:W} {a:Nat} {alts:NN} (al:Ck C.T alts a) (r:C.rel x s.heap va w) (e:AR.getAttr x.σ w alts=some y) {expr:Bool} (q:∀v,C.rel x s.heap v y->Q v {s with toks:=s.toks + 1}):
  wpAny C.M C.A (PySem.getAttr va (C.T.nm a) expr) Q E s:=by
 obtain ⟨p,e1,e⟩:=AA e;obtain ⟨j,e2,e⟩:=AA e;obtain ⟨a',ox,d,es,n,rfl,I,hd,rf⟩:=Jg i r e1;obtain ⟨k,hk,ha⟩:=al _ (AY e2);have K:=B.cls _ k hk;have cf:AH C.T p.1=k.fields:=by unfold AH;rw [hk]
 obtain ⟨b,en,g1,g2,_,rv⟩:=(cf▸rf).find B.names K.lt K.nd e;rw [ha] at g1;clear r;cases g1;obtain ⟨cd,h1,h2⟩:=K.cd;have fo:=F1 h1 h2 (K.own a (List.mem_of_getElem? ha)) (od:=AM es n) (v:=en.val) (by unfold lookIn AM;simp only [g2]);by_cases kk:k.kind=2
 ·exact M1 (i.KX B) I (K.gaE kk) K.g (K.mroE kk) fo (FY rv) (q _ rv)
 ·exact get_value (i.KX B) I (K.ga kk) fo (FY rv) (q _ rv)
end
theorem HL {a:Int} (e:FC a=true):Builtin.Int.intBits a <= 64:=by
 have:=lBl (show Nat.ble (a.natAbs + 1) _=true from e);exact intBits_le_64 (by lia) (by lia)
theorem NW {b:Int} (e:SD b=true):b ≠ 0/\b.natAbs < 1073741824:=by
 cases b with
 |ofNat n=>
  obtain ⟨h1,h2⟩:=Bool.and_eq_true_iff.mp e;have h1:=lBl (show Nat.ble (0+1) n=true from h1);have h2:=lBl (show Nat.ble (n+1) _=true from h2);exact ⟨λq=> absurd (Int.ofNat.inj q) (Nat.ne_of_gt h1),Nat.lt_of_lt_of_le h2 (by decide)⟩
 |negSucc n=> exact nomatch (show false=true from e)
theorem Dv {a b c:Int} {f:Nat->Nat->Option Nat} (e:Eh a b f=some c):E34 (λ(m n k:Nat)=> a=(m:Int)) (λm n k=> b=(n:Int)) (λm n k=> f m n=some k) (λm n k=> c=(k:Int)):=by
 obtain ⟨m,h1,e⟩:=AA e;obtain ⟨n,h2,e⟩:=AA e;obtain ⟨k,h3,e⟩:=AA e;exact ⟨m,n,k,CC h1,CC h2,h3,(sIj e).symm⟩
theorem JU (c:Nat):∀n,Ah c n=List.replicate n c
 |0=> rfl
 |n + 1=> congrArg (c::·) (JU c n)
theorem Ni {m n:Nat} (e:(Nat.blt m 4611686018427387904 && Nat.ble n 1000)=true):m < 4611686018427387904/\n <= 1000:=let ⟨a,b⟩:=Bool.and_eq_true_iff.mp e;⟨lBl a,lBl b⟩
theorem N2 (a b:List Nat):(⟨a.toArray⟩:Str) ++ ⟨b.toArray⟩=⟨(a ++ b).toArray⟩:=by
 show Str.mk _=_;simp
theorem str_len (a:List Nat):(⟨a.toArray⟩:Str).length=a.length:=by simp [Str.length]
theorem J7 (c:Nat):∀(n:Nat) (acc:List Nat),(List.replicate n #[c]).foldl (· ++ ·) acc.toArray=(acc ++ List.replicate n c).toArray
 |0,acc=> by simp
 |n + 1,acc=> by
  rw [List.replicate_succ,List.foldl_cons];have:=J7 c n (acc ++ [c]);simp only [List.append_toArray] at this ⊢;rw [this];simp [List.replicate_succ]
theorem Mi (c n:Nat):Txt.mul ⟨[c].toArray⟩ (n:Int)=⟨(Ah c n).toArray⟩:=by
 unfold Txt.mul;rw [JU];by_cases h0:n=0
 ·subst h0;rfl
 ·rw [if_neg (by lia)];by_cases h1:n=1
  ·clear h0;subst h1;rfl
  ·rw [if_neg (by simp [str_len];lia)];congr 1;exact (J7 c n []).trans (by simp)
theorem D3 {s:List Nat} {c:Nat} (e:one s=some c):s= [c]:=by
 induction s using lC with
 |nil=> exact nn e
 |cons d s=> induction s using lC with
  |nil=> exact si (f:=λc=> [c]) e
  |cons _ _=> exact nn e
theorem VJ {s r:List Nat} {n:Nat} (e:W8 s n=some r):∃d,s= [d]/\Nat.ble n 1000000=true/\some (Ah d n)=some r:=by
 induction s using lC with
 |nil=> exact nn e
 |cons d s=> induction s using lC with
  |nil=> exact ⟨d,rfl,AJ e⟩
  |cons _ _=> exact nn e
section
variable {prog:Program} {w:World} {A:Around} {E:VP} {s:Shared} {Q:VP}
theorem Qy {o:Bop} {a b c:Int} {t u:Tok} (e:E6 o a b=some c) (q:Q (.int c s.toks) {s with toks:=s.toks + 1}):wpAny (model prog w) A (binaryOp (Om o) (.int a t) (.int b u)) Q E s:=by
 induction o using Bop.casesOn with
 |add=> cases e;exact add_int q
 |sub=> cases e;exact sub_int' q
 |mul=>
  obtain ⟨h,e⟩:=AJ e;cases e;refine PyProof.Rows.mul_int q ?_;rcases Bool.or_eq_true_iff.mp h with h |h
  ·exact .of_left (HL h)
  ·exact .of_right (HL h)
 |fdiv=>
  obtain ⟨h,e⟩:=AJ e;cases e;obtain ⟨h1,h2⟩:=NW h;exact floordiv_int h1 q (.inl (PyProof.noPylong_small h2))
 |mod=>
  obtain ⟨h,e⟩:=AJ e;cases e;exact mod_int' (NW h).1 q
 |pow=>
  obtain ⟨m,n,k,rfl,rfl,h,rfl⟩:=Dv (f:=_) (show Eh a b _=some c from e);obtain ⟨hb,e1⟩:=AJ h;clear e h;cases e1;obtain ⟨h1,h2⟩:=Ni hb;have ib:Builtin.Int.intBits (m:Int) <= 64:=intBits_le_64 (by lia) (by lia);refine pow_int (Int.natCast_nonneg n) ?_ ?_
  ·have:Builtin.Int.intBits (m:Int) * n <= 64 * 1000:=Nat.mul_le_mul ib h2;have:=Int.ofNat_le.mpr this;rw [Int.natCast_mul] at this;exact Int.le_trans this (by decide)
  ·rw [show (m:Int) ^ (n:Int).toNat=((Nat.pow m n:Nat):Int) from (Int.natCast_pow m n).symm];exact q
 |shl=>
  obtain ⟨m,n,k,rfl,rfl,h,rfl⟩:=Dv (f:=_) (show Eh a b _=some c from e);obtain ⟨hb,e1⟩:=AJ h;clear e h;cases e1;obtain ⟨h1,h2⟩:=Ni hb;refine lshift_int_small (Int.natCast_nonneg n) (by lia) (by show m < _;lia) ?_;rw [show (m:Int) * 2 ^ (n:Int).toNat=((Nat.shiftLeft m n:Nat):Int) from by
   show (m:Int) * 2 ^ n=_;rw [show Nat.shiftLeft m n=m * 2 ^ n from Nat.shiftLeft_eq ..,Int.natCast_mul,Int.natCast_pow];rfl]
  exact q
 |shr=>
  obtain ⟨m,n,k,rfl,rfl,h,rfl⟩:=Dv (f:=_) (show Eh a b _=some c from e);clear e;cases h;refine rshift_int (Int.natCast_nonneg n) ?_;rw [show (m:Int).fdiv (2 ^ (n:Int).toNat)=((Nat.shiftRight m n:Nat):Int) from by
   show Int.fdiv (m:Int) (2 ^ n)=_;rw [show Nat.shiftRight m n=m / 2 ^ n from Nat.shiftRight_eq_div_pow ..,Int.fdiv_eq_ediv_of_nonneg _ (by exact Int.pow_nonneg (by decide)),Int.natCast_ediv,Int.natCast_pow];rfl]
  exact q
 |band=>
  obtain ⟨m,n,k,rfl,rfl,h,rfl⟩:=Dv (f:=_) (show Eh a b _=some c from e);clear e;cases h;exact and_int (by rw [show Builtin.bitAnd (m:Int) (n:Int)=((Nat.land m n:Nat):Int) from by unfold Builtin.bitAnd;simp];exact q)
 |bor=>
  obtain ⟨m,n,k,rfl,rfl,h,rfl⟩:=Dv (f:=_) (show Eh a b _=some c from e);clear e;cases h;refine or_int ?_;rewrite [show Builtin.bitOr (m:Int) (n:Int)=((Nat.lor m n:Nat):Int) from ?_]
  ·exact q
  ·have h1:¬ (0 <= Builtin.bitNot (m:Int)):=by unfold Builtin.bitNot;lia
   have h2:¬ (0 <= Builtin.bitNot (n:Int)):=by unfold Builtin.bitNot;lia
   have n1:∀k:Nat,Builtin.bitNot (Builtin.bitNot (k:Int))=(k:Int):=λk=> by unfold Builtin.bitNot;lia
   unfold Builtin.bitOr Builtin.bitAnd;rw [decide_eq_false h1,decide_eq_false h2];show Builtin.bitNot (Builtin.bitNot _)=_;rw [n1,n1,n1];rfl
end
section
variable {C:Cx} {x:Wx} {l:LL} {s:Shared} {Q:VP} {E:VP}
theorem Pu (i:In C x l s.heap) {o:Bop} {y z w:W} {vy vz:Value} (ry:C.rel x s.heap vy y) (rz:C.rel x s.heap vz z) (e:Yw o y z=some w) (q:∀v tk,C.rel x s.heap v w->Q v {s with toks:=tk}):
  wpAny C.M C.A (binaryOp (Om o) vy vz) Q E s:=by
 rcases AX e with e |e
 ·obtain ⟨a,h1,e1⟩:=AA e;obtain ⟨b,h2,e2⟩:=AA e1;obtain ⟨c,h3,e3⟩:=AA e2;cases A8 h1;cases A8 h2;clear e e1 e2 h1 h2;obtain ⟨t,rfl⟩:=ry;clear e;obtain ⟨u,rfl⟩:=rz;exact Qy h3 (q _ _ (sIj e3▸⟨_,rfl⟩))
 ·obtain ⟨a,h1,e1⟩:=AA e;obtain ⟨c,h3,e2⟩:=AA e1;cases Au h1;clear e e1 h1;obtain rfl:=sIj e2;clear e e2;obtain ⟨t,rfl,ha⟩:=ry;induction o using Bop.casesOn with
  |add=>
   obtain ⟨b,h2,e3⟩:=AA h3;obtain ⟨h,e4⟩:=AJ e3;cases Au h2;clear e3 h2 h3 ha;obtain rfl:=sIj e4;clear e4;obtain ⟨u,rfl,hb⟩:=rz;have h:=lBl h;refine PyProof.Rows.add_str (λt' tk=> ?_) ?_
   ·rw [N2];exact q _ _ ⟨_,rfl,by rw [List.length_append];exact h⟩
   ·rw [str_len,str_len,sizeLine_eq];unfold LIM at h;lia
  |mul=>
   obtain ⟨b,h2,e3⟩:=AA h3;obtain ⟨n,h4,e4⟩:=AA e3;cases A8 h2;cases CC h4;clear e3 h2 h3 h4 ha;obtain ⟨u,rfl⟩:=rz;obtain ⟨d,rfl,h,e5⟩:=VJ e4;clear e4;obtain rfl:=sIj e5;have h:=lBl h;refine SB.mul (mulOk_of 1 1000000 (by rw [str_len];exact Nat.le_refl _) (by lia) (by lia) (by decide) (by decide)) λt' k=> ?_
   rw [Mi];exact q _ _ ⟨_,rfl,by rw [JU,List.length_replicate];unfold LIM;lia⟩
  |_=> exact nn h3
end
theorem DD:∀a b:List Nat,A9 a b=decide (a=b)
 | [],[]=> by simp [A9]
 | [],_::_=> by simp [A9]
 |a::x,[]=> by simp [A9]
 |a::x,b::y=> by
  show Bool.rec (motive:=λυ=> Bool) false (A9 x y) (Nat.beq a b)=_;generalize h:Nat.beq a b=x9;induction x9 using bC with
  |true=>
   have:=eBq h;subst this;show A9 x y=_;rw [DD x y];simp
  |false=> simp [Nat.ne_of_beq_eq_false h]
theorem HI (a b:Int):Fv a b=(a==b):=by
 rw [Bool.eq_iff_iff,beq_iff_eq];cases a with
 |ofNat m=> cases b with
  |ofNat n=> exact ⟨λe=> congrArg Int.ofNat (eBq e),λe=> by cases e;exact Nat.beq_refl _⟩
  |negSucc n=> exact ⟨λe=> (nomatch e),λe=> (nomatch e)⟩
 |negSucc m=> cases b with
  |ofNat n=> exact ⟨λe=> (nomatch e),λe=> (nomatch e)⟩
  |negSucc n=> exact ⟨λe=> congrArg Int.negSucc (eBq e),λe=> by cases e;exact Nat.beq_refl _⟩
theorem Je:∀a b:List UInt8,Lf a b=(a==b)
 | [],[]=> rfl
 | [],_::_=> rfl
 |a::x,[]=> rfl
 |a::x,b::y=> by
  show cond (Nat.beq a.toNat b.toNat) (Lf x y) false=_;generalize h:Nat.beq a.toNat b.toNat=x9;induction x9 using bC with
  |true=>
   have:=UInt8.toNat_inj.mp (eBq h);subst this;show Lf x y=_;rw [Je x y];simp
  |false=>
   have:a ≠ b:=λq=> Nat.ne_of_beq_eq_false h (by rw [q])
   simp [this]
theorem DI (a b:List Nat):((⟨a.toArray⟩:Str)==⟨b.toArray⟩)=A9 a b:=by
 rw [DD,Bool.eq_iff_iff];simp
def pe (f:W->W->Option Bool) (a b:List W) (j:Nat):Bool:=match nth a j,nth b j with
 |some x,some y=> (f x y).getD false
 |_,_=> false
theorem Lv (f:W->W->Option Bool) {a b:List W} {r:Bool}:eqL f a b=some r->
  (∀j x y,nth a j=some x->nth b j=some y->f x y=some (pe f a b j))/\((List.range (min a.length b.length)).all (pe f a b) && a.length==b.length)=r:=by
 induction a generalizing b r with
 |nil=> induction b using lC with
  |nil=> intro e;cases e;exact ⟨λj x y h υ=> nn h,rfl⟩
  |cons y b=> intro e;cases e;exact ⟨λj x y h υ=> nn h,by simp⟩
 |cons x a ih=> induction b using lC with
  |nil=> intro e;cases e;exact ⟨λj x y υ h=> nn h,by simp⟩
  |cons y b=>
   intro e;obtain ⟨p,h1,e⟩:=AA (show JI (f x y) (eqL f a b)=some r from e);obtain ⟨q,h2,e⟩:=AA e;obtain ⟨i1,i2⟩:=ih h2;refine ⟨λj x' y' hx hy=> ?_, ?_⟩
   ·induction j with
    |zero=> cases hx;cases hy;show f x y=some ((f x y).getD false);rw [h1];rfl
    |succ j=> exact i1 j x' y' hx hy
   ·have e1:min (x::a).length (y::b).length=min a.length b.length + 1:=by simp only [List.length_cons];lia
    have e2:((x::a).length==(y::b).length)=(a.length==b.length):=by simp
    have e3:(List.range (min a.length b.length + 1)).all (pe f (x::a) (y::b))=(p && (List.range (min a.length b.length)).all (pe f a b)):=by
     rw [List.range_succ_eq_map,List.all_cons,List.all_map];have:pe f (x::a) (y::b) 0=p:=by show (f x y).getD false=p;rw [h1];rfl
     rw [this];rfl
    rw [e1,e2,e3,Bool.and_assoc,i2];exact sIj e
structure Iz (s:Shared) (A:Around) (P:Value->Value->Bool->Prop):Prop where
 none:P .none .none true
 int:∀a t c u,P (.int a t) (.int c u) (a==c)
 str:∀a t c u,P (.str a t) (.str c u) (a==c)
 bytes:∀(a:List UInt8) t (c:List UInt8) u,P (.bytes a.toArray t) (.bytes c.toArray u) (a==c)
 tup:∀{a b:Addr} {vs us:List Value} {f:Nat->Bool} {r:Bool},s.heap.IsTuple a vs.toArray->s.heap.IsTuple b us.toArray->(∀j (h1:j < vs.toArray.size) (h2:j < us.toArray.size),EqAt A.in1 s vs.toArray[j] us.toArray[j] (f j))->
  ((List.range (min vs.length us.length)).all f && vs.length==us.length)=r->(a=b->r=true)->P (.ref a) (.ref b) r
 lst:∀{a b:Addr} {vs us:List Value} {f:Nat->Bool} {r:Bool},s.heap.IsList a vs.toArray->s.heap.IsList b us.toArray->(∀j (h1:j < vs.toArray.size) (h2:j < us.toArray.size),EqAt A.in1 s vs.toArray[j] us.toArray[j] (f j))->
  ((List.range (min vs.length us.length)).all f && vs.length==us.length)=r->(a=b->r=true)->P (.ref a) (.ref b) r
section
variable {T:Tb} {F:Ad} {μ:Mu} {s:Shared}
theorem AD.get {l:List W} {vs:List Value} (r:AD T F μ l vs) (j:Nat) (h:j < vs.toArray.size):∃x,AR.nth l j=some x/\Rel T F μ x vs.toArray[j]:=by
 have h':j < l.length:=by rw [<- r.length];simpa using h
 obtain ⟨v,h1,h2⟩:=r.nth (show AR.nth l j=some l[j] by rw [AL];exact List.getElem?_eq_getElem h');have:vs.toArray[j]=v:=by rw [List.getElem_toArray];exact (List.getElem?_eq_some_iff.mp h1).2
 exact ⟨_,by rw [AL];exact List.getElem?_eq_getElem h',this▸h2⟩
theorem TC {f:W->W->Option Bool} (ih:∀{v:Value} {x y:W} {b:Bool},Rel T F μ x v->Rel T F μ y v->f x y=some b->b=true) {l r:List W} {vs:List Value} {b:Bool} (p:AD T F μ l vs) (q:AD T F μ r vs) (e:eqL f l r=some b):b=true:=by
 obtain ⟨h1,h2⟩:=Lv f e;rw [<- h2,Bool.and_eq_true,List.all_eq_true,beq_iff_eq];refine ⟨λj hj=> ?_,by rw [<- p.length,<- q.length]⟩;have hj:j < vs.toArray.size:=by rw [List.mem_range,<- p.length,<- q.length] at hj;simp at hj ⊢;exact hj
 obtain ⟨x,hx,rx⟩:=p.get j hj;obtain ⟨y,hy,ry⟩:=q.get j hj;exact ih rx ry (h1 j x y hx hy)
theorem L6 {a b:Addr} {vs us:List Value} {n m:Nat} {f:List Value->Nat->AN} (inj:∀{vs us n m},f vs n=f us m->vs=us) (hF:∀a o,F a o->s.heap.get? a=some o) (h1:F a (f vs n)) (h2:F b (f us m)) (e:a=b):vs=us:=by
 subst e;exact inj (sIj ((hF _ _ h1).symm.trans (hF _ _ h2)))
theorem VH {vs us:List Value} {n m:Nat} (e:AS vs n=AS us m):vs=us:=by
 have:=congrArg PySem.Obj.data e;simp only [AS,Data.seq.injEq] at this;simpa using this.1
theorem Vh {vs us:List Value} {n m:Nat} (e:AI vs n=AI us m):vs=us:=by
 have:=congrArg PySem.Obj.data e;simp only [AI,Data.seq.injEq] at this;simpa using this.1
theorem Uq {a b:List Nat} {t u:Tok} (e:Value.str ⟨a.toArray⟩ t= .str ⟨b.toArray⟩ u):a=b:=by injection e with e;simpa using e
theorem J1 {a b:List UInt8} {t u:Tok} (e:Value.bytes a.toArray t= .bytes b.toArray u):a=b:=by injection e with e;simpa using e
theorem eq_self (hF:∀a o,F a o->s.heap.get? a=some o):∀(n:Nat) {v:Value} {x y:W} {b:Bool},Rel T F μ x v->Rel T F μ y v->eqN n x y=some b->b=true
 |0,_,_,_,_,_,_,e=> nn e
 |n + 1,v,x,y,b,rx,ry,e=> by
  have all:∀{vs us:List Value} {l r:List W},AD T F μ l vs->AD T F μ r us->vs=us->eqL (eqN n) l r=some b->b=true:=λp q z e=> by subst z;exact TC (λa a' e=> eq_self hF n a a' e) p q e
  have e:LC (eqN n) x y=some b:=e;induction x using W.casesOn with
  |none=> obtain ⟨t,_,e⟩:=AA e;exact (sIj (AJ e).2).symm
  |int c=>
   obtain ⟨d,h,e⟩:=AA e;cases A8 h;obtain ⟨t,rfl⟩:=rx;obtain ⟨u,h⟩:=ry;cases h;rw [<- sIj e,HI];simp
  |str c=>
   obtain ⟨d,h,e⟩:=AA e;cases Au h;obtain ⟨t,rfl,_⟩:=rx;obtain ⟨u,h,_⟩:=ry;rw [<- sIj e,Uq h,DD];simp
  |bytes c=>
   obtain ⟨d,h,e⟩:=AA e;cases Ce h;obtain ⟨t,rfl,_⟩:=rx;obtain ⟨u,h,_⟩:=ry;rw [<- sIj e,J1 h,Je];simp
  |tup c=>
   obtain ⟨d,h,e⟩:=AA e;cases Dm h;obtain ⟨a,vs,m,rfl,f,_,p⟩:=rx;obtain ⟨a',us,m',h,f',_,q⟩:=ry;exact all p q (L6 (f:=AS) VH hF f f' (Value.ref.inj h)) e
  |lst c=>
   obtain ⟨d,h,e⟩:=AA e;cases Fd h;obtain ⟨a,vs,m,rfl,f,_,p⟩:=rx;obtain ⟨a',us,m',h,f',_,q⟩:=ry;exact all p q (L6 (f:=AI) Vh hF f f' (Value.ref.inj h)) e
  |_=> exact nn e
theorem Iz.of {A:Around} {P:Value->Value->Bool->Prop} (K:Iz s A P) (hF:∀a o,F a o->s.heap.get? a=some o) {n:Nat} (at_:∀{v u:Value} {x y:W} {b:Bool},Rel T F μ x v->Rel T F μ y u->eqN n x y=some b->EqAt A.in1 s v u b)
  {v u:Value} {x y:W} {b:Bool} (rx:Rel T F μ x v) (ry:Rel T F μ y u) (e:eqN (n + 1) x y=some b):P v u b:=by
 have es:LC (eqN n) x y=some b:=e;have items:∀{vs us:List Value} {l r:List W},AD T F μ l vs->AD T F μ r us->eqL (eqN n) l r=some b->(∀j (h1:j < vs.toArray.size) (h2:j < us.toArray.size),EqAt A.in1 s vs.toArray[j] us.toArray[j] (pe (eqN n) l r j))/\((List.range (min vs.length us.length)).all (pe (eqN n) l r) && vs.length==us.length)=b:=λ{vs us l r} p q e=> by
  obtain ⟨k1,k2⟩:=Lv _ e;refine ⟨λj h1 h2=> ?_,by rw [p.length,q.length];exact k2⟩;obtain ⟨x,hx,r1⟩:=p.get j h1;obtain ⟨y,hy,r2⟩:=q.get j h2;exact at_ r1 r2 (k1 j x y hx hy)
 induction x using W.casesOn with
 |none=>
  obtain ⟨t,h,e1⟩:=AA es;obtain ⟨h1,h2⟩:=AJ e1;clear e e1 es;subst h1;induction y using W.casesOn with
  |none=> clear h;cases rx;cases ry;exact sIj h2▸K.none
  |_=> exact nomatch h
 |int c=>
  obtain ⟨d,h,e1⟩:=AA es;cases A8 h;clear e es h;obtain ⟨t,rfl⟩:=rx;obtain ⟨u,rfl⟩:=ry;rw [<- sIj e1,HI];exact K.int ..
 |str c=>
  obtain ⟨d,h,e1⟩:=AA es;cases Au h;clear e es h;obtain ⟨t,rfl,_⟩:=rx;obtain ⟨u,rfl,_⟩:=ry;rw [<- sIj e1,<- DI];exact K.str ..
 |bytes c=>
  obtain ⟨d,h,e1⟩:=AA es;cases Ce h;clear e es h;obtain ⟨t,rfl,_⟩:=rx;obtain ⟨u,rfl,_⟩:=ry;rw [<- sIj e1,Je];exact K.bytes ..
 |tup c=>
  obtain ⟨d,h,e1⟩:=AA es;cases Dm h;have sf:=λ(z:u=v)=> eq_self hF (n + 1) rx (z▸ry) e
  clear e es h;obtain ⟨a,vs,m,rfl,f,_,p⟩:=rx;obtain ⟨a',us,m',rfl,f',_,q⟩:=ry;obtain ⟨k1,k2⟩:=items p q e1;exact K.tup ⟨_,hF _ _ f,rfl,_,rfl⟩ ⟨_,hF _ _ f',rfl,_,rfl⟩ k1 k2 λz=> sf (by rw [z])
 |lst c=>
  obtain ⟨d,h,e1⟩:=AA es;cases Fd h;have sf:=λ(z:u=v)=> eq_self hF (n + 1) rx (z▸ry) e
  clear e es h;obtain ⟨a,vs,m,rfl,f,_,p⟩:=rx;obtain ⟨a',us,m',rfl,f',_,q⟩:=ry;obtain ⟨k1,k2⟩:=items p q e1;exact K.lst ⟨_,hF _ _ f,rfl,_,rfl⟩ ⟨_,hF _ _ f',rfl,_,rfl⟩ k1 k2 λz=> sf (by rw [z])
 |_=> exact nn es
theorem Pq {A:Around} (hu:A.units < cLine) {a b:Addr} {vs us:List Value} {f:Nat->Bool} {r:Bool} (h1:s.heap.IsTuple a vs.toArray) (h2:s.heap.IsTuple b us.toArray)
  (it:∀j (h1:j < vs.toArray.size) (h2:j < us.toArray.size),EqAt A.in1 s vs.toArray[j] us.toArray[j] (f j)) (e:((List.range (min vs.length us.length)).all f && vs.length==us.length)=r):RcAt A s (.ref a) (.ref b) r:=by
 have:=RcAt.tuples h1 h2 hu it;rw [List.size_toArray,List.size_toArray,e] at this;exact this
theorem Yz {A:Around} (hu:A.units < cLine) {a b:Addr} {vs us:List Value} {f:Nat->Bool} {r:Bool} (h1:s.heap.IsTuple a vs.toArray) (h2:s.heap.IsTuple b us.toArray)
  (it:∀j (h1:j < vs.toArray.size) (h2:j < us.toArray.size),EqAt A.in1 s vs.toArray[j] us.toArray[j] (f j)) (e:((List.range (min vs.length us.length)).all f && vs.length==us.length)=r):RcNeAt A s (.ref a) (.ref b) (!r):=by
 have:=RcNeAt.tuples h1 h2 hu it;rw [List.size_toArray,List.size_toArray,e] at this;exact this
theorem NH {n m:Nat} {f:Nat->Bool} {r:Bool} (e:((List.range (min n m)).all f && n==m)=r):(n=m/\(List.range n).all f=r)\/(n ≠ m/\r=false):=by
 by_cases h:n=m
 ·subst h;rw [Nat.min_self,beq_self_eq_true,Bool.and_true] at e;exact .inl ⟨rfl,e⟩
 ·rw [beq_eq_false_iff_ne.mpr h,Bool.and_false] at e;exact .inr ⟨h,e.symm⟩
theorem QJ {A:Around} (hu:A.units < cLine) {a b:Addr} {vs us:List Value} {f:Nat->Bool} {r:Bool} (h1:s.heap.IsList a vs.toArray) (h2:s.heap.IsList b us.toArray)
  (it:∀j (h1:j < vs.toArray.size) (h2:j < us.toArray.size),EqAt A.in1 s vs.toArray[j] us.toArray[j] (f j)) (e:((List.range (min vs.length us.length)).all f && vs.length==us.length)=r):RcAt A s (.ref a) (.ref b) r:=by
 rcases NH e with ⟨hl,e⟩ |⟨hl,rfl⟩
 ·have:=RcAt.lists h1 h2 (by simpa using hl) hu it;rw [List.size_toArray,e] at this;exact this
 ·exact RcAt.lists_lengths h1 h2 (by simpa using hl) hu
theorem ZS {A:Around} (hu:A.units < cLine) {a b:Addr} {vs us:List Value} {f:Nat->Bool} {r:Bool} (h1:s.heap.IsList a vs.toArray) (h2:s.heap.IsList b us.toArray)
  (it:∀j (h1:j < vs.toArray.size) (h2:j < us.toArray.size),EqAt A.in1 s vs.toArray[j] us.toArray[j] (f j)) (e:((List.range (min vs.length us.length)).all f && vs.length==us.length)=r):RcNeAt A s (.ref a) (.ref b) (!r):=by
 rcases NH e with ⟨hl,e⟩ |⟨hl,rfl⟩
 ·have:=RcNeAt.lists h1 h2 (by simpa using hl) hu it;rw [List.size_toArray,e] at this;exact this
 ·exact RcNeAt.lists_lengths h1 h2 (by simpa using hl) hu
theorem OL {A:Around} (a:List UInt8) (t:Tok) (b:List UInt8) (u:Tok):EqAt A s (.bytes a.toArray t) (.bytes b.toArray u) (a==b):=λprog w E Q hq=> by
 unfold eqBool;refine wpAny_holding ?_;refine wpAny_ite_split (λhab=> ?_) (λυ=> wpAny_bind (eq_bytes (wpAny_truthy_bool hq)));have:=eq_of_beq hab;have:=J1 this;clear hab;subst this;rw [beq_self_eq_true] at hq;exact wpAny_bind (wpAny_rule (wpAny_pure hq))
theorem bX {A:Around} (hu:A.units < cLine):Iz s A (EqAt A s):=⟨EqAt.same _,EqAt.int_int,EqAt.str_str,OL,
 λh1 h2 it e sf=> by
  rename_i a b _ _ _ r
  by_cases h:a=b
  ·cases sf h;clear e h2 sf;subst h;exact EqAt.same _
  ·exact EqAt.of_refs h (Pq hu h1 h2 it e),
 λh1 h2 it e sf=> by
  rename_i a b _ _ _ r
  by_cases h:a=b
  ·cases sf h;clear e h2 sf;subst h;exact EqAt.same _
  ·exact EqAt.of_refs h (QJ hu h1 h2 it e)⟩
theorem bZ {A:Around} (hu:A.units < cLine):Iz s A (RcAt A s):=⟨RcAt.none_none,RcAt.int_int,RcAt.str_str,λa t c u prog w E Q h=> eq_bytes h,
 λh1 h2 it e υ=> Pq hu h1 h2 it e,λh1 h2 it e υ=> QJ hu h1 h2 it e⟩
theorem bO {A:Around} (hu:A.units < cLine):Iz s A (λv u b=> RcNeAt A s v u (!b)):=⟨RcNeAt.none_none,RcNeAt.int_int,RcNeAt.str_str,λa t c u prog w E Q h=> ne_bytes h,
 λh1 h2 it e υ=> Yz hu h1 h2 it e,λh1 h2 it e υ=> ZS hu h1 h2 it e⟩
theorem LB (hF:∀a o,F a o->s.heap.get? a=some o):∀(n:Nat) (A:Around) {v u:Value} {x y:W} {b:Bool},Rel T F μ x v->Rel T F μ y u->eqN n x y=some b->A.units + n < cLine->EqAt A s v u b
 |0,_,_,_,_,_,_,_,_,e,_=> nn e
 |n + 1,A,v,u,x,y,b,rx,ry,e,hu=> (bX (Nat.lt_of_le_of_lt (Nat.le_add_right _ _) hu)).of hF (n:=n) (λrx ry e=> LB hF n A.in1 rx ry e (by show A.units + 1 + n < _;lia)) rx ry e
theorem Xt (hF:∀a o,F a o->s.heap.get? a=some o) {A:Around} {v u:Value} {x y:W} {b:Bool} (rx:Rel T F μ x v) (ry:Rel T F μ y u) (e:eqW x y=some b) (hu:A.units + 12 < cLine):RcAt A s v u b:=
 (bZ (by lia)).of hF (n:=11) (λrx ry e=> LB hF 11 A.in1 rx ry e (by show A.units + 1 + 11 < _;lia)) rx ry e
theorem YK (hF:∀a o,F a o->s.heap.get? a=some o) {A:Around} {v u:Value} {x y:W} {b:Bool} (rx:Rel T F μ x v) (ry:Rel T F μ y u) (e:eqW x y=some b) (hu:A.units + 12 < cLine):RcNeAt A s v u (!b):=
 (bO (by lia)).of hF (n:=11) (λrx ry e=> LB hF 11 A.in1 rx ry e (by show A.units + 1 + 11 < _;lia)) rx ry e
end
theorem LO (a b:Int):ltI a b=decide (a < b):=by
 rw [Bool.eq_iff_iff,decide_eq_true_iff];cases a with
 |ofNat m=> cases b with
  |ofNat n=> exact ⟨λe=> Int.ofNat_lt.mpr (lBl e),λe=> Nat.ble_eq_true_of_le (Int.ofNat_lt.mp e)⟩
  |negSucc n=> exact ⟨λe=> (nomatch e),λe=> absurd e (Int.not_lt.mpr (Int.le_trans (Int.le_of_lt (Int.negSucc_lt_zero n)) (Int.natCast_nonneg m)))⟩
 |negSucc m=> cases b with
  |ofNat n=> exact ⟨λe=> Int.lt_of_lt_of_le (Int.negSucc_lt_zero m) (Int.natCast_nonneg n),λe=> rfl⟩
  |negSucc n=> exact ⟨λe=> by have:=lBl (show Nat.ble (n+1) m=true from e);rw [Int.negSucc_eq,Int.negSucc_eq];lia,λe=> by rw [Int.negSucc_eq,Int.negSucc_eq] at e;exact Nat.ble_eq_true_of_le (show n + 1 <= m by lia)⟩
theorem QI (a b:Int):(!ltI b a)=decide (a <= b):=by rw [LO,Bool.eq_iff_iff];simp
theorem PQ:∀a b:List Nat,ltS a b=decide (a < b)
 | [],[]=> by simp [ltS]
 | [],_::_=> by simp [ltS]
 |_::_,[]=> by simp [ltS]
 |a::x,b::y=> by
  show cond (Nat.blt a b) true (cond (Nat.beq a b) (ltS x y) false)=_;rw [Bool.eq_iff_iff,decide_eq_true_iff,List.cons_lt_cons_iff];generalize h:Nat.blt a b=x9;induction x9 using bC with
  |true=> exact ⟨λυ=> .inl (lBl h),λυ=> rfl⟩
  |false=>
   have h:¬ a < b:=λq=> by have:=Nat.ble_eq_true_of_le q;rw [show Nat.blt a b=Nat.ble (a+1) b from rfl,this] at h;exact nomatch h
   generalize h2:Nat.beq a b=x9;induction x9 using bC with
   |true=>
    show ltS x y=true↔_;rw [PQ x y,decide_eq_true_iff];exact ⟨λq=> .inr ⟨eBq h2,q⟩,λq=> q.elim (λz=> absurd z h) And.right⟩
   |false=> exact ⟨λq=> (nomatch q),λq=> q.elim (λz=> absurd z h) λz=> absurd z.1 (Nat.ne_of_beq_eq_false h2)⟩
theorem Vu (c:Nat) (l:List Nat):Ac c l=decide (c ∈ l):=by
 induction l with
 |nil=> simp [Ac]
 |cons x l ih=>
  show Bool.rec (motive:=λυ=> Bool) (Ac c l) true (Nat.beq x c)=_;generalize h:Nat.beq x c=x9;induction x9 using bC with
  |true=> have:=eBq h;clear h ih;subst this;simp
  |false=> rw [ih];have:=Nat.ne_of_beq_eq_false h;simp [Ne.symm this]
theorem O5 {α:Type} (p:List Nat × α) (r:List (List Nat × α)) (k:List Nat):El (p::r) k=if p.1=k then some p.2 else El r k:=by
 show Bool.rec (motive:=λυ=> Option α) (El r k) (some p.2) (A9 p.1 k)=_;rw [DD];by_cases h:p.1=k
 ·rw [decide_eq_true h,if_pos h]
 ·rw [decide_eq_false h,if_neg h]
theorem HM {β:Type} {is:β->Value->Bool} {e:DictEntry} {es:List DictEntry} {k:β}:findBy is (e::es).toArray k=if is k e.key then some e.val else findBy is es.toArray k:=by
 unfold findBy;rw [List.find?_toArray,List.find?_cons,List.find?_toArray];cases is k e.key <;> rfl
section
variable {R:W->Value->Prop} {p:Params} {h:Heap}
theorem B2.find {d:List (List Nat × W)} {es:List DictEntry} (k:List Nat) (q:B2 R p d es):(El d k=none/\findBy Value.isStrOf es.toArray ⟨k.toArray⟩=none)\/∃x v,El d k=some x/\findBy Value.isStrOf es.toArray ⟨k.toArray⟩=some v/\R x v:=by
 induction d generalizing es with
 |nil=> cases (show es= [] from q);exact .inl ⟨rfl,rfl⟩
 |cons c r ih=>
  obtain ⟨e,es',t,rfl,h1,h2,h3,h4,q⟩:=q;rw [O5,HM,show Value.isStrOf ⟨k.toArray⟩ e.key=decide (c.1=k) from by rw [h1];show (_==_)=_;rw [DI,DD]];by_cases hk:c.1=k
  ·rw [if_pos hk,decide_eq_true hk];exact .inr ⟨_,_,rfl,rfl,h4⟩
  ·rw [if_neg hk,decide_eq_false hk];exact ih q
theorem B2.Ih {prog:Program} {w:World} {u:DictEntry} {d:List (List Nat × W)} {es:List DictEntry} (q:B2 R w.params d es) (m:u ∈ es):∃k,(strKind prog w).is k u.key=true/\u.hash=(strKind prog w).hash k:=by
 induction d generalizing es with
 |nil=> cases (show es= [] from q);exact nomatch m
 |cons c r ih=>
  obtain ⟨e,es',t,rfl,h1,h2,h3,h4,q⟩:=q;clear h4;rcases mCo m with rfl |m
  ·exact ⟨_,by rw [h1];exact strKind_is prog w _ _,h2⟩
  ·exact ih q m
theorem B2.mapOf {prog:Program} {w:World} {d:List (List Nat × W)} {es:List DictEntry} {a:Addr} {n:Nat} (q:B2 R w.params d es) (e:h.get? a=some (AM es n)):h.MapOf (strKind prog w) a (λk=> findBy Value.isStrOf es.toArray k):=
 ⟨_,es.toArray,n,e,⟨rfl,rfl,rfl⟩,rfl,λu hu=> q.Ih (by simpa using hu),λυ=> rfl⟩
end
theorem Ve {k:K} {s:List Nat} (e:TK k=some s):k= .str s:=by cases k <;> first |exact nn e |exact si (f:=K.str) e
theorem U0 {k:K} {s:Int} (e:Te k=some s):k= .int s:=by cases k <;> first |exact nn e |exact si (f:=K.int) e
theorem Tc {T:Tb} {F:Ad} {μ:Mu} {xs:List W} {ks:List K} {es:List DictEntry} {d:List (List Nat × W)} (q:CT T F μ xs ks es) (e:Oe ks xs=some d):B2 (Rel T F μ) T.p d es:=by
 induction xs generalizing ks es d with
 |nil=> cases q.1;cases q.2;clear q;cases e;rfl
 |cons x xs ih=>
  obtain ⟨k,ks',en,es',rfl,rfl,h1,h2,q⟩:=q;obtain ⟨c,e1,e2⟩:=AA (show (ob (TK k) λs=> ob (Oe ks' xs) λr=> some ((s,x)::r))=some d from e);obtain ⟨r,e3,e4⟩:=AA e2;cases Ve e1;clear e e1 e2;cases e4;obtain ⟨t,g1,g2,g3⟩:=h1;exact ⟨en,es',t,rfl,g1,g2,g3,h2,ih q e3⟩
section
variable {C:Cx} {x:Wx} {l:LL} {s:Shared} {Q:VP} {E:VP}
theorem NT (B:C.toBase.Ok) {w:W} {v:Value} {d:List (List Nat × W)} (i:In C x l s.heap) (r:C.rel x s.heap v w) (e:PE x.σ w=some d):E34 (λa es n=> v= .ref a) (λa es n=> s.heap.get? a=some (AM es n)) (λa es n=> (a==sysModules)=false) (λa es n=> B2 (Rel C.T (Fz s.heap x.bad) x.mu) C.w.params d es):=by
 rcases AX e with e |e
 ·obtain ⟨j,o,rfl,rfl,_,e9,D⟩:=GH i r e;cases Le e9;obtain ⟨es,n,h1,h2,h3,h4,_⟩:=D;exact ⟨_,es,n,rfl,h1,h4,B.p▸h2⟩
 ·obtain ⟨q,e1,e2⟩:=AA e;cases HX e1;clear e e1;obtain ⟨a,es,n,rfl,h1,h2,h3⟩:=r;exact ⟨a,es,n,rfl,h1.1,h2,B.p▸Tc h3 e2⟩
theorem Pf {w:W} {v:Value} {ws:List W} (i:In C x l s.heap) (r:C.rel x s.heap v w) (e:HC x.σ w=some ws):E34 (λa vs n=> v= .ref a) (λa vs n=> (s.heap.get? a=some (AS vs n)\/s.heap.get? a=some (AI vs n))) (λa vs n=> C.BF x s.heap vs ws) (λa vs n=> ws.length <= LIM):=by
 rcases AX e with e |e
 ·cases Dm e;obtain ⟨a,vs,n,h1,h2,h3,h4⟩:=r;exact ⟨a,vs,n,h1,.inl h2.1,h4,h3⟩
 ·obtain ⟨a,vs,n,h1,h2,h3,h4⟩:=EK i r e;exact ⟨a,vs,n,h1,.inr h2,h3,h4⟩
noncomputable def eqStr (x:List Nat) (v:Value):Bool:=v.isStrOf ⟨x.toArray⟩
theorem Jr {y:List Nat} {ws:List W} {vs:List Value} {t:Bool} (r:C.BF x s.heap vs ws) (e:O2 y ws=some t):(∀v ∈ vs,∃a u,v= .str ⟨a.toArray⟩ u/\eqStr y v=A9 a y)/\vs.any (eqStr y)=t:=by
 replace r:AD C.T (Fz s.heap x.bad) x.mu ws vs:=r
 induction ws generalizing vs t with
 |nil=> cases (show vs= [] from r);clear r;cases e;exact ⟨λυ m=> (nomatch m),rfl⟩
 |cons w ws ih=>
  obtain ⟨v,us,rfl,h1,h2⟩:=r;obtain ⟨b,e1,e2⟩:=AA (show (ob (ob (Ax w) λs=> some (A9 s y)) λt=> ob (O2 y ws) λu=> some (t ||u))=some t from e);obtain ⟨c,e3,e4⟩:=AA e2;obtain ⟨a,e5,e6⟩:=AA e1;cases Au e5;clear e e1 e5;obtain ⟨u,rfl,_⟩:=h1;obtain ⟨i1,i2⟩:=ih e3 h2;have ev:eqStr y (.str ⟨a.toArray⟩ u)=A9 a y:=by show (_==_)=_;rw [DI]
  refine And.intro (λz m=> ?_) ?_
  ·rcases mCo m with rfl |m
   ·exact ⟨a,u,rfl,ev⟩
   ·exact i1 z m
  ·rw [List.any_cons,i2,ev,sIj e6];exact sIj e4
theorem gk (neg t:Bool):(t !=neg)=(match neg with |true=> !t |false=> t):=by cases neg <;> cases t <;> rfl
theorem P4 (B:C.toBase.Ok) (i:In C x l s.heap) (neg:Bool) {a b:W} {va vb:Value} {t:Bool} (ra:C.rel x s.heap va a) (rb:C.rel x s.heap vb b) (e:EY x.σ a b=some t) (q:∀tk,Q (.bool (t !=neg)) {s with toks:=tk}):
  wpAny C.M C.A (compareOp (inD neg) va vb) Q E s:=by
 have q0:=q s.toks;obtain ⟨y,e1,e⟩:=AA e;cases Au e1;clear e1;obtain ⟨u,rfl,hy⟩:=ra;rcases AX e with e |e
 ·obtain ⟨z,e2,e⟩:=AA e;obtain ⟨c,e3,e⟩:=AA e;cases Au e2;cases D3 e3;clear e2 e3 hy q;obtain ⟨u',rfl,_⟩:=rb;have hc:Txt.contains ⟨z.toArray⟩ ⟨[c].toArray⟩=t:=by
   rw [<- sIj e,Vu];exact (StrLaws.found_one ⟨z.toArray⟩ c).trans (by simp)
  induction neg using bC with
  |true=> exact SB.notContains (by rw [hc];clear e hc;cases t <;> exact q0)
  |false=> exact SB.contains (by rw [hc];clear e hc;cases t <;> exact q0)
 ·rcases AX e with e |e
  ·obtain ⟨ws,e2,e⟩:=AA e;clear hy q;obtain ⟨a,vs,n,rfl,ho,rs,_⟩:=Pf i rb e2;obtain ⟨h1,h2⟩:=Jr rs e;have he:∀v,v ∈ vs.toArray->EqAt C.A.in1 s v (.str ⟨y.toArray⟩ u) (eqStr y v):=λv hv=> by
    clear e e2 h2 q0 rb;obtain ⟨a,u',rfl,z⟩:=h1 v (by simpa using hv);rw [z,<- DI];exact EqAt.str_str _ _ _ _
   have h2:vs.toArray.any (eqStr y)=t:=by rw [List.any_toArray];exact h2
   induction neg using bC with
   |true=>
    rcases ho with ho |ho
    ·exact notIn_tupleAt (eqStr y) ⟨_,ho,rfl,_,rfl⟩ he (by rw [h2];clear e e2 h2 rb;cases t <;> exact q0)
    ·exact notIn_listAt (eqStr y) ⟨_,ho,rfl,_,rfl⟩ he (by rw [h2];clear e e2 h2 rb;cases t <;> exact q0)
   |false=>
    rcases ho with ho |ho
    ·exact in_tupleAt (eqStr y) ⟨_,ho,rfl,_,rfl⟩ he (by rw [h2];clear e e2 h2 rb;cases t <;> exact q0)
    ·exact in_listAt (eqStr y) ⟨_,ho,rfl,_,rfl⟩ he (by rw [h2];clear e e2 h2 rb;cases t <;> exact q0)
  ·obtain ⟨d,e2,e⟩:=AA e;clear hy q0;obtain ⟨a,es,n,rfl,ho,hm,rd⟩:=NT B i rb e2;have M:=rd.mapOf (prog:=C.prog) ho;have hs:(findBy Value.isStrOf es.toArray ⟨y.toArray⟩).isSome=t:=by
    rw [<- sIj e];rcases rd.find y with ⟨g1,g2⟩ |⟨_,_,g1,g2,_⟩ <;> rw [g1,g2] <;> rfl
   induction neg using bC with
   |true=> exact wpAny_notIn_of (strKind_is C.prog C.w _ u) hm M (by rw [hs];clear e e2 hs rb;cases t <;> exact q _)
   |false=> exact wpAny_in_of (strKind_is C.prog C.w _ u) hm M (by rw [hs];clear e e2 hs rb;cases t <;> exact q _)
theorem Qd {o:Cop} {a b:Int} {ta tb:Tok} {t:Bool} (e:R8 o a b=some t) (q:Q (.bool t) s):wpAny C.M C.A (compareOp (DR o) (.int a ta) (.int b tb)) Q E s:=by
 induction o using Cop.casesOn with
 |lt=> cases e;exact PyProof.Rows.lt_int (by rw [<- LO];exact q)
 |gt=> cases e;exact P.gt_int (by rw [show (decide (_ > _))=ltI _ _ from (LO _ _).symm];exact q)
 |le=> cases e;exact P.le_int (by rw [<- QI];exact q)
 |ge=> cases e;exact P.ge_int (by rw [show (decide (_ ≥ _))= !ltI _ _ from (QI _ _).symm];exact q)
 |_=> exact nn e
theorem Dt (O:C.Ok) (i:In C x l s.heap) {o:Cop} {a b:W} {va vb:Value} {t:Bool} (ra:C.rel x s.heap va a) (rb:C.rel x s.heap vb b) (e:C5 o a b=some t) (q:Q (.bool t) s):wpAny C.M C.A (compareOp (DR o) va vb) Q E s:=by
 have un:C.A.units + 12 < cLine:=by have:=O.units;lia
 have rest:∀{o:Cop},orO (ob (BL a) λx=> ob (BL b) λy=> R8 o x y) (ob (Ax a) λx=> ob (Ax b) λy=> gd (isLt o) (some (ltS x y)))=some t->wpAny C.M C.A (compareOp (DR o) va vb) Q E s:=λ{o} e=> by
  rcases AX e with e |e
  ·obtain ⟨y,e1,e⟩:=AA e;obtain ⟨z,e2,e⟩:=AA e;cases A8 e1;cases A8 e2;clear e1 e2;obtain ⟨u,rfl⟩:=ra;obtain ⟨u',rfl⟩:=rb;exact Qd e q
  ·obtain ⟨y,e1,e⟩:=AA e;obtain ⟨z,e2,e⟩:=AA e;obtain ⟨e3,e⟩:=AJ e;cases Au e1;cases Au e2;clear e1 e2;obtain ⟨u,rfl,_⟩:=ra;obtain ⟨u',rfl,_⟩:=rb;induction o using Cop.casesOn with
   |lt=> exact PyProof.Rows.lt_str (by rw [<- sIj e,PQ] at q;simpa using q)
   |_=> exact nomatch (show false=true from e3)
 induction o using Cop.casesOn with
 |eq=> exact Xt Pp ra rb e un C.prog C.w E Q q
 |ne=>
  obtain ⟨u,h1,h2⟩:=AA e;exact YK Pp ra rb h1 un C.prog C.w E Q (sIj h2▸q)
 |_=> exact rest e
theorem Mb (neg:Bool) {w:W} {v:Value} {t:Bool} (r:C.rel x s.heap v w) (e:EI w=some t) (q:Q (.bool (t !=neg)) s):wpAny C.M C.A (compareOp (isD neg) v .none) Q E s:=by
 have g:plainIs v .none=true/\(v==Value.none)=t:=by
  have r:Rel C.T (Fz s.heap x.bad) x.mu w v:=r;induction w using W.casesOn with
  |none=> cases (show v=_ from r);clear q r;cases e;exact ⟨rfl,rfl⟩
  |bool=> cases (show v=_ from r);clear q r;cases e;exact ⟨rfl,rfl⟩
  |int=> clear q;obtain ⟨t,rfl⟩:=r;clear r;cases e;exact ⟨rfl,rfl⟩
  |str=> clear q;obtain ⟨t,rfl,_⟩:=r;clear r;cases e;exact ⟨rfl,rfl⟩
  |bytes=> clear q;obtain ⟨t,rfl,_⟩:=r;clear r;cases e;exact ⟨rfl,rfl⟩
  |fn=> cases (show v=_ from r);clear q r;cases e;exact ⟨rfl,rfl⟩
  |ref=> cases r.1;clear q r;cases e;exact ⟨rfl,rfl⟩
  |tup=> clear q;obtain ⟨a,vs,n,rfl,_⟩:=r;clear r;cases e;exact ⟨rfl,rfl⟩
  |lst=> clear q;obtain ⟨a,vs,n,rfl,_⟩:=r;clear r;cases e;exact ⟨rfl,rfl⟩
  |dct=> clear q;obtain ⟨a,vs,n,rfl,_⟩:=r;clear r;cases e;exact ⟨rfl,rfl⟩
  |obj=> clear q;obtain ⟨a,o,d,vs,n,rfl,_⟩:=r;clear r;cases e;exact ⟨rfl,rfl⟩
 induction neg using bC with
 |true=> exact wpAny_isNot_plain g.1 (by rw [g.2];clear e g r;cases t <;> exact q)
 |false=> exact wpAny_is_plain g.1 (by rw [g.2];clear e g r;cases t <;> exact q)
end
theorem MI {n len:Nat} (h:n < len):seqIndex? (n:Int) len=some n:=by
 have h0:¬ ((n:Int) < 0):=by lia
 simp only [seqIndex?];rw [if_neg h0,if_pos (by simp [h])];rfl
theorem seqIndex_neg {k:Int} {n len:Nat} (h0:k < 0) (e:k + (len:Int)=(n:Int)) (h:n < len):seqIndex? k len=some n:=by
 simp only [seqIndex?];rw [if_pos h0,e,if_pos (by simp [h])];rfl
structure JC (k:Int) (len n:Nat):Prop where
 lt:n < len
 ix:seqIndex? k len=some n
 way:(0 <= k/\k.toNat=n)\/(k < 0/\ -(len:Int) <= k/\(k + len).toNat=n)
theorem JC.small {k:Int} {len n:Nat} (a:JC k len n) (h:len <= LIM): -(9223372036854775808:Int) <= k/\k <= 9223372036854775807:=by
 unfold LIM at h;have:=a.lt;rcases a.way with ⟨_,_⟩ |⟨_,_,_⟩ <;> constructor <;> lia
theorem Ku {α:Type} {l:List α} {k:Int} {x:α} (e:ixN l k=some x):∃n,nth l n=some x/\JC k l.length n:=by
 cases k with
 |ofNat n=>
  have hn:=LR e;exact ⟨n,e,hn,MI hn,.inl ⟨Int.natCast_nonneg n,rfl⟩⟩
 |negSucc n=>
  obtain ⟨h,e⟩:=AJ (show gd (Nat.blt n l.length) (nth l (Nat.sub l.length (Nat.succ n)))=some x from e);have h:=lBl (show Nat.ble (n+1) _=true from h);have q:Int.negSucc n + (l.length:Int)=((l.length - (n + 1):Nat):Int):=by rw [Int.negSucc_eq];lia
  have h0:Int.negSucc n < 0:=Int.negSucc_lt_zero n;exact ⟨l.length - (n + 1),e,by lia,seqIndex_neg h0 q (by lia),.inr ⟨h0,by rw [Int.negSucc_eq];lia,by rw [q];rfl⟩⟩
theorem N8 {α:Type} (p:Int × α) (l:List (Int × α)) (k:Int):FO (p::l) k=if p.1=k then some p.2 else FO l k:=by
 show Bool.rec (motive:=λυ=> Option α) (FO l k) (some p.2) (Fv p.1 k)=_;rw [HI];by_cases h:p.1=k
 ·rw [beq_iff_eq.mpr h,if_pos h]
 ·rw [beq_eq_false_iff_ne.mpr h,if_neg h]
def ES (R:W->Value->Prop):List (Int × W)->List DictEntry->Prop
 | [],es=> es= []
 |q::r,es=>∃e es' t,es=e::es'/\e.key= .int q.1 t/\e.hash=hashInt q.1/\R q.2 e.val/\ES R r es'
section
variable {T:Tb} {F:Ad} {μ:Mu}
theorem FU {xs:List W} {ks:List K} {es:List DictEntry} {d:List (Int × W)} (q:CT T F μ xs ks es) (e:Hg ks xs=some d):ES (Rel T F μ) d es:=by
 induction xs generalizing ks es d with
 |nil=> cases q.1;cases q.2;clear q;cases e;rfl
 |cons x xs ih=>
  obtain ⟨k,ks',en,es',rfl,rfl,h1,h2,q⟩:=q;obtain ⟨c,e1,e2⟩:=AA (show (ob (Te k) λs=> ob (Hg ks' xs) λr=> some ((s,x)::r))=some d from e);obtain ⟨r,e3,e4⟩:=AA e2;cases U0 e1;clear e e1 e2;cases e4;obtain ⟨t,g1,g2⟩:=h1;exact ⟨en,es',t,rfl,g1,g2,h2,ih q e3⟩
variable {R:W->Value->Prop}
theorem ES.find {d:List (Int × W)} {es:List DictEntry} {k:Int} {x:W} (q:ES R d es) (e:FO d k=some x):∃v,findBy Value.isInt es.toArray k=some v/\R x v:=by
 induction d generalizing es with
 |nil=> cases e
 |cons c r ih=>
  obtain ⟨en,es',t,rfl,h1,h2,h3,q⟩:=q;rw [N8] at e;rw [HM,show Value.isInt k en.key=decide (c.1=k) from by rw [h1];rfl];by_cases hk:c.1=k
  ·rw [if_pos hk] at e;rw [decide_eq_true hk];clear ih;cases e;exact ⟨_,rfl,h3⟩
  ·rw [if_neg hk] at e;rw [decide_eq_false hk];exact ih q e
theorem ES.Ih {prog:Program} {w:World} {u:DictEntry} {d:List (Int × W)} {es:List DictEntry} (q:ES R d es) (m:u ∈ es):∃k,(intKind prog w).is k u.key=true/\u.hash=(intKind prog w).hash k:=by
 induction d generalizing es with
 |nil=> cases (show es= [] from q);exact nomatch m
 |cons c r ih=>
  obtain ⟨e,es',t,rfl,h1,h2,h3,q⟩:=q;clear h3;rcases mCo m with rfl |m
  ·exact ⟨c.1,by rw [h1];simp [intKind,Value.isInt],h2⟩
  ·exact ih q m
end
section
variable {C:Cx} {x:Wx} {l:LL} {s:Shared} {Q:VP} {E:VP}
def CJ (C:Cx) (s:Shared) (E:VP) (Q:VP) (o i:Value):Prop:=∃T id,s.TypeIs o T/\typeLookup (.type T) "__getitem__" =pure (some (.builtin id))/\wpAny C.M C.A (getItem o i) Q E s
theorem item_list {a:Addr} {vs:List Value} {n:Nat} {k:Int} {u:Tok} {v:Value} (hl:s.heap.IsList a vs.toArray) (hz:vs.length <= LIM) (I:JC k vs.length n) (hv:vs[n]? =some v) (q:Q v s):CJ C s E Q (.ref a) (.int k u):=by
 obtain ⟨z1,z2⟩:=I.small hz;refine ⟨"list",_,hl.typeIs,slot_list_getitem.lookup, ?_⟩;rcases I.way with ⟨h0,h1⟩ |⟨h0,h1,h2⟩
 ·exact wpAny_getItem_list hl h0 (by lia) (by rw [h1];simpa using hv) q
 ·exact wpAny_getItem_list_neg hl h0 (by simpa using h1) (by lia) (by rw [List.size_toArray,h2];simpa using hv) q
theorem item_tup {a:Addr} {vs:List Value} {n:Nat} {k:Int} {u:Tok} {v:Value} (ht:IsTup s.heap a vs.toArray) (hz:vs.length <= LIM) (I:JC k vs.length n) (hv:vs[n]? =some v) (q:Q v s):CJ C s E Q (.ref a) (.int k u):=by
 obtain ⟨z1,z2⟩:=I.small hz;exact ⟨"tuple",_,ht.typeIs,slot_tuple_getitem.lookup,PyProof.Rows.getItem_tuple ht (by lia) (by lia) (by rewrite [List.size_toArray];exact I.ix) (by simpa using hv) q⟩
theorem item_str {t:List Nat} {n c:Nat} {k:Int} {u tk:Tok} (hz:t.length <= LIM) (I:JC k t.length n) (hv:nth t n=some c) (q:∀t',Q (.str ⟨[c].toArray⟩ t') {s with toks:=s.toks + 1}):CJ C s E Q (.str ⟨t.toArray⟩ tk) (.int k u):=by
 have hca:Txt.charAt ⟨t.toArray⟩ k=some c:=by
  unfold Txt.charAt;rw [str_len,I.ix];show (t.toArray)[n]? =some c;rw [AL] at hv;simpa using hv
 obtain ⟨z1,z2⟩:=I.small hz;refine ⟨"str",_,typeIs_str _ _ _,slot_str_getitem.lookup,SB.getItem (by
  unfold fitsSsize;simp only [Bool.not_eq_true',Bool.or_eq_false_iff,decide_eq_false_iff_not];lia) (by rw [hca];rfl) ?_⟩
 have:Txt.item ⟨t.toArray⟩ k=⟨[c].toArray⟩:=by unfold Txt.item;rw [hca];rfl
 rw [this];exact q _
theorem Oo {b:List UInt8} {n:Nat} {c:UInt8} {u tk:Tok} (hb:b.length <= LIM) (hv:nth b n=some c) (q:∀t',Q (.int (.ofNat c.toNat) t') {s with toks:=s.toks + 1}):CJ C s E Q (.bytes b.toArray tk) (.int (n:Int) u):=by
 have hn:=LR hv;unfold LIM at hb;refine ⟨"bytes",_,typeIs_bytes s _ tk,FB.slot_bytes_getitem.lookup,getItem_bytes (by lia) (Int.natCast_nonneg n) (by show (n:Int) < _;lia) ?_⟩;have:b.getD (n:Int).toNat 0=c:=by rw [AL] at hv;show b.getD n 0=c;simp [List.getD,hv]
 rw [this];exact q _
theorem item_dict {a:Addr} {es:List DictEntry} {m:Nat} {d:List (List Nat × W)} {R:W->Value->Prop} {k:List Nat} {y:W} {u:Tok} (ho:s.heap.get? a=some (AM es m)) (rd:B2 R C.w.params d es) (e:El d k=some y)
  (q:∀v tk,R y v->Q v {s with toks:=tk}):CJ C s E Q (.ref a) (.str ⟨k.toArray⟩ u):=by
 rcases rd.find k with ⟨g,_⟩ |⟨z,v,g,hv,rv⟩
 ·rw [g] at e;exact nn e
 ·rw [g] at e;clear g;cases e;have M:=rd.mapOf (prog:=C.prog) ho;exact ⟨"dict",_,M.typeIs,slot_dict_getitem.lookup,wpAny_getItem_of (strKind_is C.prog C.w _ u) M hv (q _ _ rv)⟩
theorem O7 {a:Addr} {es:List DictEntry} {m:Nat} {d:List (Int × W)} {R:W->Value->Prop} {k:Int} {y:W} {u:Tok} (ho:s.heap.get? a=some (AM es m)) (rd:ES R d es) (e:FO d k=some y)
  (q:∀v tk,R y v->Q v {s with toks:=tk}):CJ C s E Q (.ref a) (.int k u):=by
 obtain ⟨v,hv,rv⟩:=rd.find e;have M:s.heap.MapOf (intKind C.prog C.w) a (λk=> findBy Value.isInt es.toArray k):=⟨_,es.toArray,m,ho,⟨rfl,rfl,rfl⟩,rfl,λu hu=> rd.Ih (by simpa using hu),λυ=> rfl⟩;exact ⟨"dict",_,M.typeIs,slot_dict_getitem.lookup,wpAny_getItem_of (knd:=intKind C.prog C.w) (k:=k) (by simp [intKind,Value.isInt]) M hv (q _ _ rv)⟩
theorem Of (i:In C x l s.heap) {va:Value} {w y:W} {k:Int} {u:Tok} (r:C.rel x s.heap va w)
  (e:orO (ob (HC x.σ w) λl=> ixN l k) (orO (ob (Ax w) λs=> ob (ixN s k) λc=> some (.str [c])) (orO (ob (DZ w) λb=> ob (T3 b k) λc=> some (.int (.ofNat c.toNat))) (ob (IE w) λd=> ob (Hg d.1 d.2) λe=> FO e k)))=some y)
  (q:∀v tk,C.rel x s.heap v y->Q v {s with toks:=tk}):CJ C s E Q va (.int k u):=by
 rcases AX e with e |e
 ·obtain ⟨ws,e1,e2⟩:=AA e;clear e;obtain ⟨a,vs,m,rfl,ho,rs,hz⟩:=Pf i r e1;obtain ⟨n,h1,I⟩:=Ku e2;obtain ⟨v,hv,rv⟩:=AD.nth rs h1;rw [<- AD.length rs] at I hz;rcases ho with ho |ho
  ·exact item_tup ⟨_,ho,rfl,_,rfl⟩ hz I hv (q v s.toks rv)
  ·exact item_list ⟨_,ho,rfl,_,rfl⟩ hz I hv (q v s.toks rv)
 rcases AX e with e |e
 ·obtain ⟨t,e1,e2⟩:=AA e;obtain ⟨c,e3,e4⟩:=AA e2;cases Au e1;clear e e1 e2;obtain ⟨tk,rfl,hz⟩:=r;obtain ⟨n,h1,I⟩:=Ku e3;exact item_str hz I h1 λt'=> q _ _ (sIj e4▸⟨t',rfl,by show 1 <= LIM;decide⟩)
 rcases AX e with e |e
 ·obtain ⟨t,e1,e2⟩:=AA e;obtain ⟨c,e3,e4⟩:=AA e2;obtain ⟨n,e5,e6⟩:=AA e3;cases Ce e1;cases CC e5;clear e e1 e2 e3 e5;obtain ⟨tk,rfl,hz⟩:=r;exact Oo hz e6 λt'=> q _ _ (sIj e4▸⟨t',rfl⟩)
 ·obtain ⟨p,e1,e2⟩:=AA e;obtain ⟨d,e3,e4⟩:=AA e2;cases HX e1;clear e e1 e2;obtain ⟨a,es,m,rfl,f,_,r⟩:=r;exact O7 f.1 (FU r e3) e4 λv tk rv=> q v tk rv
theorem Md (B:C.toBase.Ok) (i:In C x l s.heap) {va vi:Value} {w y j:W} (r:C.rel x s.heap va w) (rj:C.rel x s.heap vi j) (e:getIdx x.σ w j=some y)
  (q:∀v tk,C.rel x s.heap v y->Q v {s with toks:=tk}):CJ C s E Q va vi:=by
 rcases AX e with e |e
 ·obtain ⟨k,e1,e2⟩:=AA e;cases A8 e1;clear e e1;obtain ⟨u,rfl⟩:=rj;exact Of i r e2 q
 ·obtain ⟨k,e1,e2⟩:=AA e;obtain ⟨d,e3,e4⟩:=AA e2;cases Au e1;clear e e1;obtain ⟨u,rfl,_⟩:=rj;clear e;obtain ⟨a,es,m,rfl,ho,_,rd⟩:=NT B i r e3;exact item_dict ho rd e4 q
end
theorem BA {α:Type}:∀(n:Nat) (l:List α),drop' n l=l.drop n
 |0,l=> rfl
 |n + 1,[]=> rfl
 |n + 1,x::l=> (BA n l).trans rfl
theorem Cn {α:Type}:∀(n:Nat) (l:List α),cut n l=l.take n
 |0,l=> by rw [List.take_zero];rfl
 |n + 1,[]=> rfl
 |n + 1,x::l=> congrArg (x::·) (Cn n l)
noncomputable def loA (len:Nat) (lo:Option Nat):Nat:=(lo.map Int.ofNat).elim 0 (clipAt len)
noncomputable def hiA (len:Nat) (hi:Option Nat):Nat:=(hi.map Int.ofNat).elim len (clipAt len)
theorem Wa (len:Nat) (lo:Option Nat):loA len lo=min (loN lo) len:=by induction lo using oC with |none=> simp [loA,loN] |some k=> exact clipAt_nat _ k
theorem XF (len:Nat) (hi:Option Nat):hiA len hi <= len:=by induction hi using oC with |none=> exact Nat.le_refl _ |some k=> exact Nat.le_trans (Nat.le_of_eq (clipAt_nat len k)) (Nat.min_le_right _ _)
theorem G4 {α:Type} (l:List α) (lo hi:Option Nat):(l.drop (loA l.length lo)).take (hiA l.length hi - loA l.length lo)=Bq l (loN lo) hi:=by
 rw [Wa];have dr:l.drop (min (loN lo) l.length)=l.drop (loN lo):=by
  rcases Nat.le_total (loN lo) l.length with h |h
  ·rw [Nat.min_eq_left h]
  ·rw [Nat.min_eq_right h,List.drop_of_length_le (Nat.le_refl _),List.drop_of_length_le h]
 rw [dr];induction hi using oC with
 |none=>
  show (l.drop (loN lo)).take (l.length - _)=drop' (loN lo) l;rw [BA,List.take_of_length_le (by rewrite [List.length_drop];lia)]
 |some m=>
  show (l.drop (loN lo)).take (clipAt l.length (Int.ofNat m) - _)=cut (m - loN lo) (drop' (loN lo) l);rw [BA,Cn,show clipAt l.length (Int.ofNat m)=min m l.length from clipAt_nat _ m];rcases Nat.le_total (loN lo) l.length with h |h
  ·rcases Nat.le_total m l.length with g |g
   ·rw [Nat.min_eq_left g,Nat.min_eq_left h]
   ·rw [Nat.min_eq_right g,Nat.min_eq_left h,List.take_of_length_le (by rewrite [List.length_drop];lia),List.take_of_length_le (by rewrite [List.length_drop];lia)]
  ·rw [List.drop_of_length_le h];simp
theorem JZ {α:Type} (l:List α) (n:Nat) (hi:Option Nat):(Bq l n hi).length <= l.length:=by
 induction hi using oC with
 |none=> show (drop' n l).length <= _;rw [BA,List.length_drop];lia
 |some m=> show (cut (m - n) (drop' n l)).length <= _;rw [BA,Cn,List.length_take,List.length_drop];lia
theorem TX (n:Nat) (lo hi:Option Nat):Builtin.Str.strSliceIndices (lo.map Int.ofNat) (hi.map Int.ofNat) 1 n=(List.range (hiA n hi - loA n lo)).map (loA n lo + ·):=by
 have e:Builtin.Str.strSliceIndices (lo.map Int.ofNat) (hi.map Int.ofNat) 1 n=sliceRange (loA n lo:Nat) (hiA n hi:Nat) 1:=by
  unfold Builtin.Str.strSliceIndices loA hiA;cases lo <;> cases hi <;> simp [clipAt_cast]
 rw [e,sliceRange_one]
theorem S6 {α:Type} {l:List α} {lo hi:Option Nat} (e:hiA l.length hi - loA l.length lo=l.length):Bq l (loN lo) hi=l:=by
 rw [<- G4,e];have:=XF l.length hi;rcases Nat.eq_zero_or_pos (loA l.length lo) with h |h
 ·rw [h,List.drop_zero,List.take_length]
 ·have:l= []:=List.eq_nil_of_length_eq_zero (by lia);clear e h;subst this;simp
theorem AD.slc {T:Tb} {F:Ad} {μ:Mu} {n:Nat} {hi:Option Nat} {vs:List Value} {l:List W} (r:AD T F μ l vs):AD T F μ (Bq l n hi) (Bq vs n hi):=by
 induction hi using oC with
 |none=> show AD _ _ _ (drop' _ _) (drop' _ _);rw [BA,BA];exact r.drop
 |some m=> show AD _ _ _ (cut _ (drop' _ _)) (cut _ (drop' _ _));rw [BA,BA,Cn,Cn];exact r.drop.take
def Part (k:Option Nat) (v:Value):Prop:=∃p:Option (Int × Tok),v=partValue p/\p.map (·.1)=k.map Int.ofNat/\IsPart v (k.map Int.ofNat)
noncomputable def By (a b:Value):AN:={cls:= .type "slice",data:= .fields #[a,b,.none]}
section
variable {C:Cx} {x:Wx} {l:LL} {s:Shared} {Q:VP} {E:VP}
def Cx.Fo (C:Cx) (x:Wx) (h:Heap) (v:Value) (w:Option W):Prop:=match w with |none=> v= .none |some w=> C.rel x h v w
theorem HP {v:Value} {w:Option W} {k:Option Nat} (r:C.Fo x s.heap v w) (e:Kv w=some k):Part k v:=by
 induction w using oC with
 |none=> cases e;have r:v= .none:=r;exact ⟨none,r,rfl,r▸ .none⟩
 |some w=>
  obtain ⟨i,e1,e2⟩:=AA (show (ob (BL w) λi=> ob (CY i) λn=> some (some n))=some k from e);obtain ⟨n,e3,e4⟩:=AA e2;cases A8 e1;cases CC e3;clear e e1 e2 e3;cases e4;obtain ⟨t,r⟩:∃t,v= .int (n:Int) t:=r;exact ⟨some ((n:Int),t),r,rfl,r▸ .int _ t⟩
section
variable {vl vu:Value} {kl ku:Option Nat} (O:C.Ok) (i:In C x l s.heap) (pl:Part kl vl) (pu:Part ku vu)
include O i pl pu
theorem VL {t:List Nat} {u:Tok} (ht:t.length <= LIM) (q:∀v s',Go C x x s s'->In C x l s'.heap->C.rel x s'.heap v (.str (Bq t (loN kl) ku))->Q v s'):
  CJ C {s with heap:=s.heap.push (By vl vu)} E Q (.str ⟨t.toArray⟩ u) (.ref s.heap.objs.size):=by
 obtain ⟨p,e1,e2,_⟩:=pl;obtain ⟨p',f1,f2,_⟩:=pu;have k1:=Ab s.heap (By vl vu);have i1:=In.keeps O i k1;refine ⟨"str",_,typeIs_str _ _ _,slot_str_getitem.lookup,wpAny_getItem_str_slice (l:=p) (u:=p') (st:=none) ⟨_,Heap.get?_push_size _ rfl,rfl,by rw [<- e1,<- f1];rfl⟩ rfl ?_⟩;have ix:slicePicked ⟨t.toArray⟩ p p' none=(List.range (hiA t.length ku - loA t.length kl)).map (loA t.length kl + ·):=by
  unfold slicePicked;rw [e2,f2,str_len];exact TX ..
 have key:(slicePicked ⟨t.toArray⟩ p p' none).filterMap ((⟨t.toArray⟩:Str).cps[·]?)=Bq t (loN kl) ku:=by
  rw [ix];exact (pick_run t.toArray _ _).trans (G4 t kl ku)
 have g:∀tk,Go C x x s {s with heap:=s.heap.push (By vl vu),toks:=tk}:=λtk=> .keeps k1
 unfold sliceMade
 split
 ·rename_i hw
  rw [ix] at hw;simp only [Option.map_none,Option.getD_none,Bool.and_eq_true,beq_iff_eq,List.length_map,List.length_range,str_len] at hw;exact q _ _ (g s.toks) i1 (by rw [S6 hw.2];exact ⟨u,rfl,ht⟩)
 ·have:=JZ t (loN kl) ku;refine And.intro ?_ ?_ <;> rw [key]
  ·rw [str_len,sizeLine_eq];unfold LIM at ht;lia
  ·exact q _ _ (g _) i1 ⟨_,rfl,Nat.le_trans this ht⟩
theorem QS {t:List UInt8} {u:Tok} (ht:t.length <= LIM) (q:∀v s',Go C x x s s'->In C x l s'.heap->C.rel x s'.heap v (.bytes (Bq t (loN kl) ku))->Q v s'):
  CJ C {s with heap:=s.heap.push (By vl vu)} E Q (.bytes t.toArray u) (.ref s.heap.objs.size):=by
 obtain ⟨_,_,_,e3⟩:=pl;obtain ⟨_,_,_,f3⟩:=pu;have k1:=Ab s.heap (By vl vu);have key:KBy.picked t.toArray (kl.map Int.ofNat) (ku.map Int.ofNat)=(Bq t (loN kl) ku).toArray:=by
  rw [KBc.picked_eq];exact congrArg List.toArray (G4 t kl ku)
 refine ⟨"bytes",_,typeIs_bytes _ _ _,FB.slot_bytes_getitem.lookup,getItem_meets (typeIs_bytes _ _ _) (by decide) FB.slot_bytes_getitem FB.entry_bytes_getitem (FB.args_bytes_getitem_2 _ _) (KBc.meets_slice2 t.toArray u _ e3 f3) ⟨Heap.IsSliceOf.new s.heap vl vu .none, ?_,λt' k=> ?_⟩⟩
 ·refine Nat.le_trans (KBc.size_picked_le _ _ _) ?_;rw [List.size_toArray,sizeLine_eq];unfold LIM at ht;lia
 ·rw [key];exact q _ _ (.keeps k1) (In.keeps O i k1) ⟨_,rfl,Nat.le_trans (JZ _ _ _) ht⟩
theorem Ud {a:Addr} {ws:List W} {vs:List Value} {m:Nat} (f:Fz s.heap x.bad a (AI vs m)) (rs:C.BF x s.heap vs ws) (hz:ws.length <= LIM) (q:∀v s',Go C x x s s'->In C x l s'.heap->C.rel x s'.heap v (.lst (Bq ws (loN kl) ku))->Q v s'):
  CJ C {s with heap:=s.heap.push (By vl vu)} E Q (.ref a) (.ref s.heap.objs.size):=by
 obtain ⟨_,_,_,e3⟩:=pl;obtain ⟨_,_,_,f3⟩:=pu;have k1:=Ab s.heap (By vl vu);have k2:=Ab (s.heap.push (By vl vu)) (AI (Bq vs (loN kl) ku) 0);have i1:=In.keeps O i k1;have hl:(s.heap.push (By vl vu)).IsList a vs.toArray:=⟨_,k1 _ _ f.1,rfl,_,rfl⟩;refine ⟨"list",_,Heap.IsList.typeIs hl,slot_list_getitem.lookup,wpAny_getItem_list_slice hl (Heap.IsSliceOf.new s.heap vl vu .none) e3 f3 .none nofun ?_ ?_⟩
 ·have key:slicePick vs.toArray (kl.map Int.ofNat) (ku.map Int.ofNat) none=(Bq vs (loN kl) ku).toArray:=by
   rw [slicePick_plain];exact congrArg List.toArray (G4 vs kl ku)
  rw [key];have g:Go C x x s {s with heap:=(s.heap.push (By vl vu)).push (AI (Bq vs (loN kl) ku) 0)}:= .keeps λb o e=> k2 b o (k1 b o e)
  exact q _ _ g (In.keeps O i1 k2) ⟨_,_,0,rfl,ET i1 _ rfl,Nat.le_trans (JZ _ _ _) hz,(CX i g rs).slc⟩
 ·rw [List.size_toArray,AD.length rs,sizeLine_eq];unfold LIM at hz;lia
end
theorem Mc (O:C.Ok) (i:In C x l s.heap) {va vl vu:Value} {w z:W} {lo hi:Option W} (r:C.rel x s.heap va w) (rl:C.Fo x s.heap vl lo) (ru:C.Fo x s.heap vu hi)
  (e:EN w lo hi=some z) (q:∀v s',Go C x x s s'->In C x l s'.heap->C.rel x s'.heap v z->Q v s'):CJ C {s with heap:=s.heap.push (By vl vu)} E Q va (.ref s.heap.objs.size):=by
 obtain ⟨kl,e1,e2⟩:=AA e;obtain ⟨ku,e3,e4⟩:=AA e2;have pl:=HP rl e1;have pu:=HP ru e3;induction w using W.casesOn with
 |str t=> clear e e2;obtain ⟨u,rfl,ht⟩:=r;cases e4;exact VL O i pl pu ht q
 |bytes t=> clear e e2;obtain ⟨u,rfl,ht⟩:=r;cases e4;exact QS O i pl pu ht q
 |lst t=> clear e e2;obtain ⟨a,vs,n,rfl,f,hz,rs⟩:=r;cases e4;exact Ud O i pl pu f rs hz q
 |_=> exact nn e4
end
structure DN (e:PySem.Expr):Prop where
 item:∀o i,subscripted e false o i=operate [o,i] (getItem o i)
 marks:∀o,behindInMarks o e=false
 star:∀env r,starEach (e::r) env=(false,eval e env)::starEach r env
theorem simple (T:Tb):∀e:E,DN (den T e)
 | .frz e=> simple T e
 | .call .. => ⟨λυ υ=> rfl,λυ=> rfl,λυ υ=> rfl⟩
 | .new .. => ⟨λυ υ=> rfl,λυ=> rfl,λυ υ=> rfl⟩
 | .bcall .. => ⟨λυ υ=> rfl,λυ=> rfl,λυ υ=> rfl⟩
 | .lit .. => ⟨λυ υ=> rfl,λυ=> rfl,λυ υ=> rfl⟩
 | .loc .. => ⟨λυ υ=> rfl,λυ=> rfl,λυ υ=> rfl⟩
 | .glob .. => ⟨λυ υ=> rfl,λυ=> rfl,λυ υ=> rfl⟩
 | .attr .. => ⟨λυ υ=> rfl,λυ=> rfl,λυ υ=> rfl⟩
 | .idx .. => ⟨λυ υ=> rfl,λυ=> rfl,λυ υ=> rfl⟩
 | .slc .. => ⟨λυ υ=> rfl,λυ=> rfl,λυ υ=> rfl⟩
 | .bin .. => ⟨λυ υ=> rfl,λυ=> rfl,λυ υ=> rfl⟩
 | .neg .. => ⟨λυ υ=> rfl,λυ=> rfl,λυ υ=> rfl⟩
 | .not .. => ⟨λυ υ=> rfl,λυ=> rfl,λυ υ=> rfl⟩
 | .boolop .. => ⟨λυ υ=> rfl,λυ=> rfl,λυ υ=> rfl⟩
 | .cmp .. => ⟨λυ υ=> rfl,λυ=> rfl,λυ υ=> rfl⟩
 | .isN .. => ⟨λυ υ=> rfl,λυ=> rfl,λυ υ=> rfl⟩
 | .mem .. => ⟨λυ υ=> rfl,λυ=> rfl,λυ υ=> rfl⟩
 | .cmp2 .. => ⟨λυ υ=> rfl,λυ=> rfl,λυ υ=> rfl⟩
 | .ite .. => ⟨λυ υ=> rfl,λυ=> rfl,λυ υ=> rfl⟩
 | .tup .. => ⟨λυ υ=> rfl,λυ=> rfl,λυ υ=> rfl⟩
 | .lst .. => ⟨λυ υ=> rfl,λυ=> rfl,λυ υ=> rfl⟩
 | .dct .. => ⟨λυ υ=> rfl,λυ=> rfl,λυ υ=> rfl⟩
 | .isi .. => ⟨λυ υ=> rfl,λυ=> rfl,λυ υ=> rfl⟩
 | .mown .. => ⟨λυ υ=> rfl,λυ=> rfl,λυ υ=> rfl⟩
 | .mfld .. => ⟨λυ υ=> rfl,λυ=> rfl,λυ υ=> rfl⟩
 | .mblt .. => ⟨λυ υ=> rfl,λυ=> rfl,λυ υ=> rfl⟩
 | .dele .. => ⟨λυ υ=> rfl,λυ=> rfl,λυ υ=> rfl⟩
 | .comp .. => ⟨λυ υ=> rfl,λυ=> rfl,λυ υ=> rfl⟩
 | .memv .. => ⟨λυ υ=> rfl,λυ=> rfl,λυ υ=> rfl⟩
noncomputable def someArgs (l:List E):Bool:=match l with | []=> false |_::_=> true
def CM (e:E):Bool:=match e with
 | .call _ args _ _ _=> someArgs args
 | .new _ _ args _ _ _=> someArgs args
 | .bcall _ args _ _=> someArgs args
 | .frz _=> false
 |_=> true
theorem Hi {e:E} {T:Tb} {a:Str} {env:Env} {t:Sem Value} (h:CM e=true):attributeBase (den T e) a env t=t:=by
 have ar:∀{f:PySem.Expr} {args:List E} {p:Pos},someArgs args=true->attributeBase (.Call f (AV T args) [] p) a env t=t:=λ{f args p} h=> by
  induction args using lC with
  |nil=> exact nomatch h
  |cons=> clear h;cases f <;> rfl
 induction e using E.casesOn with
 |frz=> exact nomatch h
 |call=> exact ar h
 |new=> exact ar h
 |bcall=> exact ar h
 |_=> rfl
section
variable {C:Cx}
abbrev EOk (C:Cx) (e:PySem.Expr) (f:SE):Prop:=B0 C C.rel (eval e C.env) f
def A7 (w:W) (σ:List O):R Bool:=kO 0 (truth w) σ
abbrev Cx.Cj (_C:Cx) (_:Wx) (_:Heap) (b:Bool) (t:Bool):Prop:=b=t
abbrev BOk (C:Cx) (e:PySem.Expr) (f:SE):Prop:=B0 C C.Cj (isTrue e C.env (eval e C.env)) (λl σ=> (f l σ).bind A7)
theorem HS {x:Wx} {h:Heap} {v:Value} {w:W} {t:Bool} (r:C.rel x h v w) (e:truth w=some t):v= .bool t/\w= .bool t:=by cases GQ e;exact ⟨r,rfl⟩
theorem R.assoc {α β γ:Type} (r:R α) (f:α->List O->R β) (g:β->List O->R γ):(r.bind f).bind g=r.bind λa σ=> (f a σ).bind g:=by cases r <;> rfl
section
variable {x:Wx} {l:LL} {s:Shared} {E:VP}
theorem Pw {w:W} {v:Value} {Q:Bool->Shared->Prop} (i:In C x l s.heap) (r:C.rel x s.heap v w) (o:Out C x l s C.Cj (A7 w x.σ) Q E):E13 (λt=> v= .bool t) (λt=> w= .bool t) (λt=> Q t s):=by
 obtain ⟨t,h,o⟩:=Bc o;obtain ⟨h1,h2⟩:=HS r h;exact ⟨t,h1,h2,Out.now (tk:=s.toks) i o rfl⟩
theorem Ds {t:Option Bool} {Q:VP} (i:In C x l s.heap) (o:Out C x l s C.rel (BW t x.σ) Q E):∃b,t=some b/\∀tk,Q (.bool b) {s with toks:=tk}:=by
 obtain ⟨w,h,o⟩:=Bc o;obtain ⟨b,rfl,h⟩:=AA h;cases h;exact ⟨b,rfl,λtk=> Out.now i o rfl⟩
theorem F0 {t:Option Bool} {Q:Bool->Shared->Prop} (i:In C x l s.heap) (o:Out C x l s C.Cj ((BW t x.σ).bind A7) Q E):∃b,t=some b/\∀tk,Q b {s with toks:=tk}:=by
 induction t using oC with
 |none=> exact o.elim
 |some b=> exact ⟨b,rfl,λtk=> Out.now (rel:=C.Cj) i o rfl⟩
theorem IC {α β:Type} {rel:Wx->Heap->β->α->Prop} {n:Nat} {t:Option Bool} {a b:R α} {Q:β->Shared->Prop} (o:Out C x l s rel (br n t a b) Q E):∃c,t=some c/\Out C x l s rel (bif c then a else b) Q E:=by
 induction t using oC with
 |none=> exact o.elim
 |some c=> cases c <;> exact ⟨_,rfl,o⟩
end
theorem JD {α β:Type} {n:Nat} {t:Option Bool} {a b:R α} {g:α->List O->R β}:(br n t a b).bind g=br n t (a.bind g) (b.bind g):=by
 induction t using oC with
 |none=> rfl
 |some c=> cases c <;> rfl
theorem PK (B:C.toBase.Ok) (O:C.Ok) {k n:Nat} {p:Pos} (h1:C.T.gl k=some n) (hk:C.env.kindOf (C.T.nm n)=some .globalImplicit) (hn:(C.T.nm n==("__debug__" :Str))=false):
  EOk C (.Name (C.T.nm n) p) (DS (C.T.Z.glob k)):=by
 intro x l s Q E i o;obtain ⟨y,h,o⟩:=Bc o;obtain ⟨v,hv,r⟩:=B.glob k n y h1 h;refine Bw.of (Name_function_global O.kind hk ?_ hn);unfold loadGlobal;rw [O.glob];exact wpAny_bind ((looks_nsIn (i.KX B) hv).here (wpAny_pure (Out.now (tk:=s.toks) i o (Sn i r))))
theorem QF (B:C.toBase.Ok) {e:E} {f:SE} {a:Nat} {alts:NN} {p:Pos} (al:Ck C.T alts a) (D:EOk C (den C.T e) f) (hs:CM e=true):EOk C (.Attribute (den C.T e) (C.T.nm a) p) (Az f alts):=by
 intro x l s Q E i o;rw [arm_eval_Attribute,Hi hs];refine D.bind i o λv s' x' w g i' r o=> ?_
 obtain ⟨y,h,o⟩:=Bc o;exact Bw.of (wpAny_bind (wpAny_standAt (wpAny_bind (wpAny_holding (Gj B i' al r h λu ru=> wpAny_bind (wpAny_letTemporaryGo (wpAny_pure (Out.now i' o ru))))))))
theorem Jt {o i:Value} {value slice:PySem.Expr} {ops:List Value} {s:Shared} {Q:VP} {E:VP} (I:CJ C s E Q o i) (hs:subscripted slice false o i=operate ops (getItem o i)):
  wpAny C.M C.A (subscriptTail value slice o i) Q E s:=let ⟨_,_,h1,h2,h3⟩:=I;tail_any h1 h2 h3 hs
theorem two {rel2:Wx->Heap->Value->W->Prop} {a b:SE} {ta tb:Sem Value} (D:B0 C C.rel ta a) (D':B0 C rel2 tb b) {β α:Type} {rel:Wx->Heap->β->α->Prop} {k:W->W->List O->R α} {Q:β->Shared->Prop} {E:VP} {x:Wx} {l:LL} {s:Shared} (i:In C x l s.heap)
  (o:Out C x l s rel ((a l x.σ).bind λu σ=> (b l σ).bind λv σ=> k u v σ) Q E):
  wpB C.M C.A ta (λva s1=> wpB C.M C.A tb (λvb s2=>∃x2 u v,In C x2 l s2.heap/\C.rel x2 s2.heap va u/\rel2 x2 s2.heap vb v/\Out C x2 l s2 rel (k u v x2.σ) Q E) E s1) E s:=
 Bw.mono (D.run i o) (λva s1 h=> by
  obtain ⟨x1,u,g1,i1,r1,o1⟩:=h;refine Bw.mono (D'.run i1 o1) (λvb s2 h=> ?_) λυ υ e=> e
  obtain ⟨x2,v,g2,i2,r2,o2⟩:=h;exact ⟨x2,u,v,i2,Aq i1 g2 r1,r2,o2⟩) λυ υ e=> e
theorem TN (B:C.toBase.Ok) {e j:PySem.Expr} {f g:SE} {p:Pos} (S:DN j) (D:EOk C e f) (D':EOk C j g):EOk C (.Subscript e j p) (C9 f g):=by
 intro x l s Q E i o;refine Bw.Subscript (Bw.mono (two D D' (k:=λw j σ=> kO 63 (getIdx σ w j) σ) i o) (λv s1 h=> Bw.mono h (λu s2 hx=> ?_) λυ υ e=> e) λυ υ e=> e);obtain ⟨x2,w,y,i2,r1,r2,o2⟩:=hx;obtain ⟨z,h,o2⟩:=Bc o2;exact Bw.of (Jt (Md B i2 r1 r2 h λa tk ra=> Out.now i2 o2 ra) (S.item _ _))
theorem J5 {e:Option PySem.Expr} {f:Option SE} (D:(e=none/\f=none)\/∃a g,e=some a/\f=some g/\EOk C a g):B0 C C.Fo (valueOrNone (evalOpt e C.env)) (JG f):=by
 intro x l s Q E i o;rcases D with ⟨rfl,rfl⟩ |⟨a,g,rfl,rfl,D⟩
 ·exact Bw.pure (o .none s x rfl (.refl ..) i rfl)
 ·exact Bw.mono (D.run i o) (λv s' ⟨x',w,g,i',r,o'⟩=> o' v s' x' rfl (.refl ..) i' r) λυ υ e=> e
theorem PR {x x':Wx} {l:LL} {s s':Shared} {v:Value} {w:Option W} (i:In C x l s.heap) (g:Go C x x' s s') (r:C.Fo x s.heap v w):C.Fo x' s'.heap v w:=by
 induction w using oC with
 |none=> exact r
 |some w=> exact Aq i g r
theorem TH (O:C.Ok) {e:PySem.Expr} {lo hi:Option PySem.Expr} {f:SE} {g g':Option SE} {sp p:Pos} (D:EOk C e f) (D1:B0 C C.Fo (valueOrNone (evalOpt lo C.env)) (JG g)) (D2:B0 C C.Fo (valueOrNone (evalOpt hi C.env)) (JG g')):
  EOk C (.Subscript e (.Slice lo hi none sp) p) (JW f g g'):=by
 intro x l s Q E i o;refine Bw.Subscript (Bw.mono (D.run i o) (λv s1 hx=> ?_) λυ υ e=> e);obtain ⟨x1,w,g1,i1,r1,o1⟩:=hx;rw [arm_eval_Slice];refine Bw.bind (Bw.mono (D1.run i1 o1) (λvl s2 hx=> ?_) λυ υ e=> e);obtain ⟨x2,wl,g2,i2,r2,o2⟩:=hx;refine Bw.bind (Bw.holding (Bw.mono (D2.run i2 o2) (λvu s3 hx=> ?_) λυ υ e=> e));obtain ⟨x3,wu,g3,i3,r3,o3⟩:=hx;obtain ⟨z,h3,o3⟩:=Bc o3;refine Bw.of (wpAny_bind (wpAny_holding (wpAny_pure (wpAny_newObj_type (Bw.of (Jt (Mc O i3 (Aq i2 g3 (Aq i1 g2 r1)) (PR i2 g3 r2) r3 h3 λa s' g' i' ra=> ?_) (ops:= [.ref s3.heap.objs.size,v]) rfl))))));exact o3 a s' x3 rfl g' i' ra
theorem NB {x:Wx} {l:LL} {s:Shared} {m:Bool} {ws:List W} {vs:List Value} {n:Nat} {Q:VP} {E:VP} (oc:C.Ok) (i:In C x l s.heap) (o:Out C x l s C.rel (mkL m ws x.σ) Q E) (r:C.BF x s.heap vs ws):
  vs.length <= sizeLine/\Q (.ref s.heap.objs.size) {s with heap:=s.heap.push (AI vs n)}:=by
 unfold mkL at o;generalize hb:Nat.ble ws.length LIM=x9;induction x9 using bC with
 |false=> rw [hb] at o;exact o.elim
 |true=>
  rw [hb] at o;have hz:=lBl hb;refine And.intro (by rw [AD.length r,sizeLine_eq];unfold LIM at hz;lia) ?_;induction m using bC with
  |false=>
   have k:=Ab s.heap (AI vs n);exact o _ {s with heap:=s.heap.push (AI vs n)} x rfl (.keeps k) (In.keeps oc i k) ⟨_,vs,n,rfl,ET i _ rfl,hz,AD.mono (i.fzk k) (Mu.le_refl _) r⟩
  |true=>
   obtain ⟨g,i',r'⟩:=i.cn oc (o:= .list ws) (ob:=AI vs n) rfl (λυ υ=> rfl) λh' F μ m d fz le hg=> ⟨vs,n,hg,AD.mono fz le r,hz⟩
   exact o _ _ _ rfl g i' r'
theorem Sz (O:C.Ok) {o:Bop} {a b:PySem.Expr} {f g:SE} {m:Bool} {p:Pos} (D:EOk C a f) (D':EOk C b g):EOk C (.BinOp a (Om o) b p) (BU o f g m):=by
 intro x l s Q E i ou;refine Bw.BinOp (Bw.mono (two D D' (k:=Hu o m) i ou) (λva s1 h=> Bw.mono h (λvb s2 hx=> Bw.of ?_) λυ υ e=> e) λυ υ e=> e);obtain ⟨x2,wa,wb,i2,r1,r2,o2⟩:=hx;unfold Hu at o2;generalize h1:gd (isAdd o) (snap x2.σ wa)=x9;induction x9 using oC with
 |none=>
  rw [h1] at o2;obtain ⟨z,h,o2⟩:=Bc o2;exact Pu i2 r1 r2 h λv tk r=> Out.now i2 o2 r
 |some ws=>
  obtain ⟨h0,h1'⟩:=AJ h1;rw [h1] at o2;generalize h2:snap x2.σ wb=x9;induction x9 using oC with
  |none=> rw [h2] at o2;exact o2.elim
  |some us=>
   rw [h2] at o2;induction o using Bop.casesOn with
   |add=>
    clear h h0 h1 ou;obtain ⟨la,vs,n,rfl,e1,q1,_⟩:=EK i2 r1 h1';clear r1;obtain ⟨lb,vs',n',rfl,e2,q2,_⟩:=EK i2 r2 h2;obtain ⟨z1,q⟩:=NB (n:=0) O i2 o2 (AD.append q2 q1);refine P.add_list e1 e2 ?_ (by simpa using z1);have:({cls:= .type "list",data:= .seq (vs.toArray ++ vs'.toArray)}:AN)=AI (vs ++ vs') 0:=by unfold AI;rw [List.append_toArray]
    rw [this];exact q
   |_=> exact nomatch h0
theorem Rx {a:PySem.Expr} {f:SE} {p:Pos} (D:EOk C a f):EOk C (.UnaryOp .USub a p) (Jn f):=by
 intro x l s Q E i o;refine Bw.UnaryOp (Bw.mono (D.run i o) (λv s1 hx=> ?_) λυ υ e=> e);obtain ⟨x1,w,g1,i1,r1,o1⟩:=hx;obtain ⟨z,h,o1⟩:=Bc o1;obtain ⟨n,h1,h2⟩:=AA h;cases A8 h1;clear h h1;cases h2;obtain ⟨t,rfl⟩:=r1;exact Bw.of (PyProof.Rows.neg_int (Out.now i1 o1 ⟨_,rfl⟩))
theorem Qi {t:Option Bool} {b:Bool} (e:Jo t=some b):∃c,t=some c/\b= !c:=let ⟨c,h1,h2⟩:=AA e;⟨c,h1,(sIj h2).symm⟩
theorem RE {a:PySem.Expr} {f:SE} {p:Pos} (D:EOk C a f):EOk C (.UnaryOp .Not a p) (Nr f):=by
 intro x l s Q E i o;refine Bw.UnaryOp (Bw.mono (D.run i o) (λv s1 hx=> ?_) λυ υ e=> e);obtain ⟨x1,w,g1,i1,r1,o1⟩:=hx;obtain ⟨b,h,q⟩:=Ds i1 o1;clear o1;obtain ⟨c,h',rfl⟩:=Qi h;clear h;obtain ⟨rfl,rfl⟩:=HS r1 h';exact Bw.of (not_of (wpAny_truthy_bool (q s1.toks)))
end
section
variable {C:Cx}
def Cmp (C:Cx) (op:CmpOp) (h:W->W->List O->Option Bool):Prop:=∀{x:Wx} {l:LL} {s:Shared} {Q E:VP} {va vb:Value} {a b:W} {t:Bool},In C x l s.heap->C.rel x s.heap va a->C.rel x s.heap vb b->h a b x.σ=some t->
 (∀tk,Q (.bool t) {s with toks:=tk})->wpAny C.M C.A (compareOp op va vb) Q E s
def SN (h:W->W->List O->Option Bool) (a b:SE):SE:=λl σ=> (a l σ).bind λx σ=> (b l σ).bind λy σ=> BW (h x y σ) σ
theorem NF (O:C.Ok) (o:Cop):Cmp C (DR o) λx y υ=> C5 o x y:=λi ra rb e q=> Dt O i ra rb e (q _)
theorem M0 (B:C.toBase.Ok) (neg:Bool):Cmp C (inD neg) λx y σ=> ob (EY σ x y) λt=> some (t !=neg):=λi ra rb e q=> by
 obtain ⟨t,e1,e2⟩:=AA e;exact P4 B i neg ra rb e1 λtk=> sIj e2▸q tk
theorem M8 (neg:Bool):Cmp C (isD neg) λx y υ=> ob (EI y) λu=> gd u (ob (EI x) λt=> some (t !=neg)):=λ{x l s Q E va vb a b t} i ra rb e q=> by
 obtain ⟨u,e1,e2⟩:=AA e;obtain ⟨e3,e4⟩:=AJ e2;obtain ⟨c,e5,e6⟩:=AA e4;clear e e2;subst e3;induction b using W.casesOn with
 |none=> cases (show vb=_ from rb);exact Mb neg ra e5 (sIj e6▸q _)
 |_=> exact nomatch e1
theorem HT {op:CmpOp} {h:W->W->List O->Option Bool} (H:Cmp C op h) {a b:PySem.Expr} {f g:SE} {p:Pos} (S:DN b) (D:EOk C a f) (D':EOk C b g):EOk C (.Compare a [op] [b] p) (SN h f g):=by
 intro x l s Q E i ou;refine Bw.K1 (Bw.mono (two D D' (k:=λu v σ=> BW (h u v σ) σ) i ou) (λva s1 h=> Bw.mono h (λvb s2 hx=> Bw.of ?_) λυ υ e=> e) λυ υ e=> e) (S.marks _);obtain ⟨x2,wa,wb,i2,r1,r2,o2⟩:=hx;obtain ⟨t,h,q⟩:=Ds i2 o2;exact H i2 r1 r2 h q
theorem R.K9 {α β γ δ:Type} (r:R α) (f:α->List O->R β) (g:α->β->List O->R γ) (k:γ->List O->R δ):(r.bind λa σ=> (f a σ).bind (g a)).bind k=r.bind λa σ=> (f a σ).bind λb σ=> (g a b σ).bind k:=by
 rw [R.assoc];congr 1;funext a σ;exact R.assoc ..
theorem Hn {op:CmpOp} {h:W->W->List O->Option Bool} (H:Cmp C op h) {a b:PySem.Expr} {f g:SE} {p:Pos} (S:DN b) (D:EOk C a f) (D':EOk C b g):BOk C (.Compare a [op] [b] p) (SN h f g):=by
 intro x l s Q E i ou;unfold SN at ou;dsimp only at ou;rw [R.K9] at ou;refine Bw.FF (Bw.mono (two D D' (k:=λu v σ=> (BW (h u v σ) σ).bind A7) i ou) (λva s1 h=> Bw.mono h (λvb s2 hx=> Bw.of ?_) λυ υ e=> e) λυ υ e=> e) (S.marks _);obtain ⟨x2,wa,wb,i2,r1,r2,o2⟩:=hx;obtain ⟨t,h,q⟩:=F0 i2 o2;exact H i2 r1 r2 h λtk=> Bw.of (wpAny_truthy_bool (q tk))
theorem IA {e:PySem.Expr} {f:SE} (D:EOk C e f) (he:∀w,isTrue e C.env w=(do let v <- w;standAt e.pos;holding [v] (truthy v))):BOk C e f:=by
 intro x l s Q E i o;refine Bw.Mf (Bw.mono (D.run i o) (λv s1 hx=> ?_) λυ υ e=> e) (he _);obtain ⟨x1,w,g1,i1,r1,o1⟩:=hx;obtain ⟨t,rfl, -,q⟩:=Pw i1 r1 o1;exact Bw.of (wpAny_truthy_bool q)
theorem Js {e:PySem.Expr} {f:SE} (D:BOk C e f) {x:Wx} {l:LL} {s:Shared} {E:VP} (i:In C x l s.heap)
  (o:Out C x l s C.Cj ((f l x.σ).bind A7) (λυ υ=> True) E):wpB C.M C.A (isTrue e C.env (eval e C.env)) (λt s'=>∃x' w,f l x.σ= .ok w x'.σ/\truth w=some t/\Go C x x' s s'/\In C x' l s'.heap) E s:=by
 refine D x l s _ _ i ?_;dsimp only;generalize h:f l x.σ=x9;induction x9 using R.casesOn with
 |stuck n=> rw [h] at o;exact o
 |exc c fs σ=> rw [h] at o;exact o
 |ok w σ=>
  rw [h] at o;show Out C x l s C.Cj (A7 w σ) _ E;have o:Out C x l s C.Cj (A7 w σ) (λυ υ=> True) E:=o;unfold A7 at o ⊢;generalize ht:truth w=x9;induction x9 using oC with
  |none=> rw [ht] at o;exact o
  |some t=>
   intro b s' x' e1 g i' q;exact ⟨x',w,by rw [e1],q▸ht,g,i'⟩
theorem I8 {e:PySem.Expr} {f:SE} (D:BOk C e f) {β α:Type} {rel:Wx->Heap->β->α->Prop} {x:Wx} {l:LL} {s:Shared} {Q:β->Shared->Prop} {E:VP} {n:Nat} {a b:W->List O->R α} (i:In C x l s.heap)
  (o:Out C x l s rel ((f l x.σ).bind λw σ=> br n (truth w) (a w σ) (b w σ)) Q E):
  wpB C.M C.A (isTrue e C.env (eval e C.env)) (λt s'=>∃x',Go C x x' s s'/\In C x' l s'.heap/\Out C x' l s' rel (bif t then a (.bool t) x'.σ else b (.bool t) x'.σ) Q E) E s:=by
 refine Bw.mono (Js D i ?_) (λt s' hx=> ?_) λυ υ e=> e
 ·generalize h:f l x.σ=x9;induction x9 using R.casesOn with
  |stuck n=> rw [h] at o;exact o
  |exc c fs σ=> rw [h] at o;exact o
  |ok w σ=>
   rw [h] at o;obtain ⟨c,hc,_⟩:=IC (show Out C x l s rel (br n (truth w) (a w σ) (b w σ)) Q E from o);show Out C x l s C.Cj (A7 w σ) _ E;unfold A7;rw [hc];exact λυ υ υ υ υ υ υ=> trivial
 ·obtain ⟨x',w,h,ht,g,i'⟩:=hx;rw [h] at o;obtain ⟨c,hc,o⟩:=IC (show Out C x l s rel (br n (truth w) (a w x'.σ) (b w x'.σ)) Q E from o);rw [ht] at hc;clear h;cases hc;cases GQ ht;exact ⟨x',g,i',Out.shift g o⟩
theorem S8 {a:PySem.Expr} {f:SE} {p:Pos} (D:BOk C a f):BOk C (.UnaryOp .Not a p) (Nr f):=by
 intro x l s Q E i o;show wpB _ _ (do return !(<- isTrue a C.env (eval a C.env))) _ _ _;refine Bw.bind (Bw.mono (D x l s (λb s'=> Q (!b) s') E i ?_) (λb s' q=> Bw.pure q) λυ υ e=> e);unfold Nr at o;dsimp only at o ⊢;rw [R.assoc] at o;generalize h:f l x.σ=x9;induction x9 using R.casesOn with
 |stuck n=> rw [h] at o;exact o
 |exc c fs σ=> rw [h] at o;exact o
 |ok w σ=>
  rw [h] at o;have o:Out C x l s C.Cj ((BW (Jo (truth w)) σ).bind A7) Q E:=o;show Out C x l s C.Cj (A7 w σ) (λb s'=> Q (!b) s') E;unfold A7;generalize ht:truth w=x9;induction x9 using oC with
  |none=> rw [ht] at o;exact o
  |some t=> rw [ht] at o;exact λb s' x' e g i' q=> o (!b) s' x' e g i' (by rw [q])
theorem RL {t a b:PySem.Expr} {f g h:SE} {p:Pos} (D:BOk C t f) (D1:EOk C a g) (D2:EOk C b h):EOk C (.IfExp t a b p) (HV f g h):=by
 intro x l s Q E i o;refine Bw.IfExp (Bw.mono (I8 D (a:=λυ=> g l) (b:=λυ=> h l) i o) (λt s' hx=> ?_) λυ υ e=> e);obtain ⟨x',g',i',o'⟩:=hx;induction t using bC with
 |true=> exact D1 x' l s' Q E i' o'
 |false=> exact D2 x' l s' Q E i' o'
theorem Sk {t a b:PySem.Expr} {f g h:SE} {p:Pos} (D:BOk C t f) (D1:BOk C a g) (D2:BOk C b h):BOk C (.IfExp t a b p) (HV f g h):=by
 intro x l s Q E i o;unfold HV at o;dsimp only at o;rw [R.assoc] at o;simp only [JD] at o;rw [arm_isTrue_IfExp];refine Bw.bind (Bw.mono (I8 D (a:=λυ σ=> (g l σ).bind A7) (b:=λυ σ=> (h l σ).bind A7) i o) (λt s' hx=> ?_) λυ υ e=> e);obtain ⟨x',g',i',o'⟩:=hx;induction t using bC with
 |true=> exact D1 x' l s' Q E i' o'
 |false=> exact D2 x' l s' Q E i' o'
theorem ZV (t:Bool) (f:SE):Aa t [f]=f:=rfl
theorem GJ (t:Bool) (f g:SE) (r:List SE):Aa t (f::g::r)=λl σ=> (f l σ).bind λw σ=> br 81 (truth w) (bif t then Aa t (g::r) l σ else .ok w σ) (bif t then .ok w σ else Aa t (g::r) l σ):=by
 cases t <;> rfl
def Each (P:PySem.Expr->SE->Prop):List PySem.Expr->List SE->Prop
 | [],fs=> fs= []
 |e::es,fs=>∃f fs',fs=f::fs'/\P e f/\Each P es fs'
theorem Ms {t:Bool} {p:Pos} {es:List PySem.Expr} {fs:List SE} (D:Each (EOk C) es fs):B0 C C.rel (boolOp p (OA t) (evalEach es C.env)) (Aa t fs):=by
 induction es generalizing fs with
 |nil=> cases (show fs= [] from D);exact λx l s Q E i o=> o.elim
 |cons e es ih=>
  obtain ⟨f,fs,rfl,d,D⟩:=D;induction es using lC with
  |nil=> cases (show fs= [] from D);exact d
  |cons e' r=>
   have ih:=ih D;obtain ⟨g,fs,rfl,_,_⟩:=D;intro x l s Q E i o;rw [GJ] at o;show wpB _ _ (eval e C.env >>=λv=> _) _ _ _;refine Bw.bind (Bw.mono (d.run i o) (λv s1 hx=> ?_) λυ υ e=> e);obtain ⟨x1,w,g1,i1,r1,o1⟩:=hx;obtain ⟨c,hc,o1⟩:=IC o1;clear o;obtain ⟨rfl,rfl⟩:=HS r1 hc;refine Bw.bind (Bw.standAt (Bw.bind (Bw.holding (Bw.of (wpAny_truthy_bool ?_)))));clear hc;cases t <;> cases c
   ·exact ih x1 l s1 Q E i1 o1
   ·exact Bw.pure (Out.now (tk:=s1.toks) i1 o1 r1)
   ·exact Bw.pure (Out.now (tk:=s1.toks) i1 o1 r1)
   ·exact ih x1 l s1 Q E i1 o1
theorem N1 {t:Bool} {es:List PySem.Expr} {fs:List SE} (D:Each (BOk C) es fs):B0 C C.Cj (allTrue (OA t) es C.env) (λl σ=> (Aa t fs l σ).bind A7):=by
 induction es generalizing fs with
 |nil=> cases (show fs= [] from D);exact λx l s Q E i o=> o.elim
 |cons e es ih=>
  obtain ⟨f,fs,rfl,d,D⟩:=D;induction es using lC with
  |nil=>
   cases (show fs= [] from D);intro x l s Q E i o;show wpB _ _ (isTrue e C.env (eval e C.env) >>=λb=> _) _ _ _;refine Bw.bind (Bw.mono (d x l s Q E i o) (λb s' q=> ?_) λυ υ e=> e);clear D ih o;cases t <;> cases b <;> exact Bw.pure q
  |cons e' r=>
   have ih:=ih D;obtain ⟨g,fs,rfl,_,_⟩:=D;intro x l s Q E i o;dsimp only at o;rw [GJ,R.assoc] at o;simp only [JD] at o;show wpB _ _ (isTrue e C.env (eval e C.env) >>=λb=> _) _ _ _;refine Bw.bind (Bw.mono (I8 d (a:=λw σ=> (bif t then Aa t (g::fs) l σ else .ok w σ).bind A7) (b:=λw σ=> (bif t then .ok w σ else Aa t (g::fs) l σ).bind A7) i o) (λb s' hx=> ?_) λυ υ e=> e);obtain ⟨x',g',i',o'⟩:=hx;clear o;cases t <;> cases b
   ·exact ih x' l s' Q E i' o'
   ·exact Bw.pure (Out.now (rel:=C.Cj) (tk:=s'.toks) i' o' rfl)
   ·exact Bw.pure (Out.now (rel:=C.Cj) (tk:=s'.toks) i' o' rfl)
   ·exact ih x' l s' Q E i' o'
theorem J4 {a b:PySem.Expr} {f g h:SE} {o o':Cop} {β α:Type} {rel:Wx->Heap->β->α->Prop} {K:W->List O->R α} {x:Wx} {l:LL} {s:Shared} {Q:β->Shared->Prop} {E:VP} (i:In C x l s.heap) (D:EOk C a f) (D':EOk C b g)
  (ou:Out C x l s rel ((Gy f o g o' h l x.σ).bind K) Q E):
  wpB C.M C.A (eval a C.env) (λva s1=> wpB C.M C.A (eval b C.env) (λvb s2=>∃x2 wa wb t,In C x2 l s2.heap/\C.rel x2 s2.heap va wa/\C.rel x2 s2.heap vb wb/\C5 o wa wb=some t/\
   Out C x2 l s2 rel (bif t then (h l x2.σ).bind λz σ=> (BW (C5 o' wb z) σ).bind K else K (.bool false) x2.σ) Q E) E s1) E s:=by
 unfold Gy at ou;rw [R.K9] at ou;simp only [JD,R.assoc] at ou;refine Bw.mono (two D D' (k:=λx y σ=> br 72 (C5 o x y) ((h l σ).bind λz σ=> (BW (C5 o' y z) σ).bind K) (K (.bool false) σ)) i ou) (λva s1 hx=> Bw.mono hx (λvb s2 hx=> ?_) λυ υ e=> e) λυ υ e=> e
 obtain ⟨x2,wa,wb,i2,r1,r2,o2⟩:=hx;obtain ⟨t,h,o2⟩:=IC o2;exact ⟨x2,wa,wb,t,i2,r1,r2,h,o2⟩
theorem R.NI {α:Type} (r:R α):r.bind (λa σ=> .ok a σ)=r:=by cases r <;> rfl
theorem Iq {o o':Cop} {b c:PySem.Expr} (S:DN c) {env:Env}:markedEach [DR o,DR o'] [b,c] (evalEach [b,c] env)= [eval b env,eval c env]:=
 (markedEach_of_false _ _ _ (by show behindInMarks (DR o') c=false;exact S.marks _)).trans rfl
theorem QY (oc:C.Ok) {a b c:PySem.Expr} {f g h:SE} {o o':Cop} {p:Pos} (S:DN c) (D:EOk C a f) (D':EOk C b g) (D'':EOk C c h):EOk C (.Compare a [DR o,DR o'] [b,c] p) (Gy f o g o' h):=by
 intro x l s Q E i ou;rw [arm_eval_Compare,Iq S];rw [<- R.NI (Gy f o g o' h l x.σ)] at ou;refine Bw.bind (Bw.mono (J4 i D D' ou) (λva s1 h=> ?_) λυ υ e=> e);refine Bw.bind (Bw.holding (Bw.mono h (λvb s2 hx=> ?_) λυ υ e=> e));obtain ⟨x2,wa,wb,t,i2,r1,r2,e,o2⟩:=hx;refine Bw.bind (Bw.standAt (Bw.bind (Bw.holding (Bw.of (Dt oc i2 r1 r2 e ?_)))));refine Bw.bind (Bw.of (wpAny_release (Bw.bind (Bw.holding (Bw.of (wpAny_truthy_bool ?_))))));induction t using bC with
 |false=> exact Bw.pure (Out.now (tk:=s2.toks) i2 o2 rfl)
 |true=>
  simp only [R.NI] at o2;refine Bw.bind (Bw.holding (Bw.mono (D''.run i2 o2) (λvc s4 hx=> ?_) λυ υ e=> e));obtain ⟨x4,wc,g4,i4,r4,o4⟩:=hx;obtain ⟨t,h,q⟩:=Ds i4 o4;exact Bw.bind (Bw.standAt (Bw.operating (Bw.of (Dt oc i4 (Aq i2 g4 r2) r4 h (q s4.toks)))))
theorem QQ (oc:C.Ok) {a b c:PySem.Expr} {f g h:SE} {o o':Cop} {p:Pos} (S:DN c) (D:EOk C a f) (D':EOk C b g) (D'':EOk C c h):BOk C (.Compare a [DR o,DR o'] [b,c] p) (Gy f o g o' h):=by
 intro x l s Q E i ou;rw [arm_isTrue_Compare,Iq S];refine Bw.bind (Bw.mono (J4 i D D' ou) (λva s1 h=> ?_) λυ υ e=> e);refine Bw.bind (Bw.holding (Bw.mono h (λvb s2 hx=> ?_) λυ υ e=> e));obtain ⟨x2,wa,wb,t,i2,r1,r2,e,o2⟩:=hx;refine Bw.bind (Bw.standAt (Bw.bind (Bw.holding (Bw.of (Dt oc i2 r1 r2 e ?_)))));refine Bw.bind (Bw.of (wpAny_release (Bw.bind (Bw.holding (Bw.of (wpAny_truthy_bool ?_))))));induction t using bC with
 |false=> exact Bw.pure (Out.now (rel:=C.Cj) (tk:=s2.toks) i2 o2 rfl)
 |true=>
  refine Bw.bind (Bw.holding (Bw.mono (D''.run i2 o2) (λvc s4 hx=> ?_) λυ υ e=> e));obtain ⟨x4,wc,g4,i4,r4,o4⟩:=hx;obtain ⟨t,h,q⟩:=F0 i4 o4;exact Bw.bind (Bw.standAt (Bw.bind (Bw.operating (Bw.of (Dt oc i4 (Aq i2 g4 r2) r4 h (Bw.holding (Bw.of (wpAny_truthy_bool (q s4.toks)))))))))
end
theorem BV {T:Tb} {env:Env} {p:Pos} (es:List E):(backTo p (starEach (AV T es) env)).any (·.1)=false:=by
 induction es with
 |nil=> rfl
 |cons e es ih=>
  show (backTo p (starEach (den T e::AV T es) env)).any (·.1)=false;rw [(simple T e).star];exact ih
section
variable {C:Cx}
theorem args_cons (f:SE) (fs:List SE) (l:LL) (σ:List O):args (f::fs) l σ=(f l σ).bind λw σ=> (args fs l σ).bind λws σ=> .ok (w::ws) σ:=rfl
abbrev AOk (C:Cx) (es:List E) (fs:List SE):Prop:=Each (EOk C) (AV C.T es) fs
theorem DC {p:Pos} {es:List E} {fs:List SE} (D:AOk C es fs):B0 C C.BF (spliced (backTo p (starEach (AV C.T es) C.env))) (args fs):=by
 induction es generalizing fs with
 |nil=> cases (show fs= [] from D);exact λx l s Q E i o=> Bw.pure (o [] s x rfl (.refl ..) i rfl)
 |cons e es ih=>
  obtain ⟨f,fs,rfl,d,D⟩:=D;intro x l s Q E i o;rw [args_cons] at o;show wpB _ _ (spliced (backTo p (starEach (den C.T e::AV C.T es) C.env))) _ _ _;rw [(simple C.T e).star];refine Bw.As (Bw.mono (d.run i o) (λv s1 hx=> ?_) λυ υ e=> e);obtain ⟨x1,w,g1,i1,r1,o1⟩:=hx;refine Bw.mono ((ih D).run i1 o1) (λvs s2 hx=> ?_) λυ υ e=> e
  obtain ⟨x2,ws,g2,i2,r2,o2⟩:=hx;exact o2 (v::vs) s2 x2 rfl (.refl ..) i2 ⟨_,_,rfl,Aq i1 g2 r1,r2⟩
theorem Sv (O:C.Ok) {es:List E} {fs:List SE} {k:Nat} {p:Pos} (D:AOk C es fs):EOk C (.Tuple (AV C.T es) k p) (Bo fs):=by
 intro x l s Q E i o;rw [arm_eval_Tuple];refine Bw.bind (Bw.standAt (Bw.bind (Bw.mono ((DC D).run i o) (λvs s1 hx=> ?_) λυ υ e=> e)));obtain ⟨x1,ws,g1,i1,r1,o1⟩:=hx;obtain ⟨t,h,o1⟩:=Bc o1;obtain ⟨hz,h⟩:=AJ h;have hz:=lBl hz;cases h;have k:=Ab s1.heap (AS vs 0);refine Bw.of (wpAny_newObj_type (o1 _ {s1 with heap:=s1.heap.push (AS vs 0)} x1 rfl (.keeps k) (In.keeps O i1 k) ⟨_,vs,0,rfl,ET i1 _ rfl, ?_,AD.mono (i1.fzk k) (Mu.le_refl _) r1⟩) ?_)
 ·unfold LIM;lia
 ·show vs.toArray.size <= sizeLine;rw [List.size_toArray,AD.length r1,sizeLine_eq];lia
theorem Q8 (O:C.Ok) {es:List E} {fs:List SE} {m:Bool} {p:Pos} (D:AOk C es fs):EOk C (.List (AV C.T es) p) (S0 fs m):=by
 intro x l s Q E i o;rw [arm_eval_List];refine Bw.bind (Bw.standAt (Bw.bind (Bw.mono ((DC D).run i o) (λvs s1 hx=> ?_) λυ υ e=> e)));obtain ⟨x1,ws,g1,i1,r1,o1⟩:=hx;obtain ⟨z,q⟩:=NB (n:=0) O i1 o1 r1;exact Bw.of (wpAny_newObj_type q (by show vs.toArray.size <= sizeLine;rw [List.size_toArray];exact z))
theorem Lq {M:Model} {A:Around} {E:VP} {s:Shared} {f:Value} {args:List (Bool × Sem Value)} {Q:Args->Shared->Prop} (hp:args.any (·.1)=false) (h:wpB M A (spliced args) (λvs s'=> Q ⟨vs,[]⟩ s') E s):wpB M A (evalArgs f true args []) Q E s:=by
 induction args using lC with
 |nil=>
  unfold evalArgs;show wpB M A (spliced [] >>=_) Q E s;refine Bw.bind (Bw.mono h (λvs s' h'=> ?_) λυ υ x=> x);exact Bw.holding (Bw.bind (Bw.pure (Bw.bind (Bw.pure (Bw.pure h')))))
 |cons a r=>
  obtain ⟨st,t⟩:=a;induction st using bC with
  |true=> simp at hp
  |false=>
   unfold evalArgs;show wpB M A (spliced ((false,t)::r) >>=_) Q E s;refine Bw.bind (Bw.mono h (λvs s' h'=> ?_) λυ υ x=> x);exact Bw.holding (Bw.bind (Bw.pure (Bw.bind (Bw.pure (Bw.pure h')))))
theorem BG {M:Model} {A:Around} {E:VP} {s:Shared} {p:Pos} {f:Value} {first:List Value} {args:List (Bool × Sem Value)} {Q:VP} (hp:args.any (·.1)=false)
  (h:wpB M A (spliced args) (λvs s'=> (∃k,Looks M s'.heap (keeperOf f) k)/\wpB M A (call f (first ++ vs)) Q E s') E s):wpB M A (callWith p f first args []) Q E s:=by
 unfold callWith;refine Bw.bind (Bw.holding (Lq hp (Bw.mono h (λvs s1 h1=> ?_) λυ υ x=> x)));obtain ⟨⟨k,hk⟩,hc⟩:=h1;have tail:∀{t:Sem Value},wpB M A t Q E s1->wpB M A (t >>=λr=> holding [r] point >>=λυ=> pure r) Q E s1:=
  λht=> Bw.bind (Bw.mono ht (λr s₂ hr=> Bw.bind (Bw.holding (Bw.of (wpAny_point (Bw.pure hr))))) λυ υ x=> x)
 refine Bw.bind (Bw.standAt ?_);simp only [hp,List.any_nil,Bool.or_false];refine Bw.bind (m:=keeperOf f) (Bw.of (hk.here ?_));cases k with
 |frame=>
  dsimp only
  split
  ·exact tail hc
  ·exact tail (by unfold callMarked;exact Bw.keep hc)
 |boundFrame=>
  dsimp only
  split
  ·exact tail hc
  ·exact tail (by unfold callMarked;exact Bw.keep hc)
 |machine=> exact tail hc
 |caller=> exact tail (Bw.operating hc)
end
noncomputable def Wx.An (x:Wx) (L:List Addr):Wx:={x with bad:=λa=> x.bad a\/a ∈ L}
noncomputable def Cx.callee (C:Cx) (env:Env) (my:List Addr) (ns:List (Option Nat)):Cx:={C with A:=C.A.deeper env,env:=env,fenv:=env,outer:=C.fenv::C.outer,my:=my,ns:=ns}
theorem Wx.aB {x:Wx} {L:List Addr} {a:Addr}:(x.An L).owned a↔x.owned a:=Iff.rfl
theorem LW {l:List Env} {e:Env} {a:Addr} (he:e ∈ l) (hf:e.frame=some a):a ∈ frs l:=List.mem_filterMap.mpr ⟨e,he,hf⟩
section
variable {C:Cx} {x:Wx} {l:LL} {h h₀:Heap} {s:Shared}
theorem Wd.An (D:Wd C.T C.hb x h) {L:List Addr} (k:∀b o,h.get? b=some o->h₀.get? b=some o) (z:lv h <= lv h₀) (fr:∀a ∈ L,lv h <= a/\a < lv h₀):Wd C.T C.hb (x.An L) h₀:=
 D.quiet (mod:=λυ=> False) (bad':=(x.An L).bad) ⟨λa o e υ=> k a o e,λa q=> q.elim .inl λm=> .inr (fr a m).1,Cf k⟩ (λυ q=> q.elim) (λυ q=> q.elim) (λa q=> .inl (D.DQ q)) λa q=> q.elim (λb=> Nat.lt_of_lt_of_le (D.fit a b) z) λm=> (fr a m).2
theorem In.K8 (i:In C x l h) {L:List Addr} (k:∀b o,h.get? b=some o->h₀.get? b=some o) (fr:∀a ∈ L,lv h <= a):∀a o,Fz h x.bad a o->Fz h₀ (x.An L).bad a o:=
 λa o e=> ⟨k a o e.1,λq=> q.elim e.2 λm=> Nat.not_lt.mpr (fr a m) (Ak e.1)⟩
theorem Go.inner (i:In C x l s.heap) {C':Cx} {x'':Wx} {L:List Addr} {s1 s':Shared} (hC:C'.T=C.T/\C'.w=C.w/\C'.hb=C.hb) (k:∀b o,s.heap.get? b=some o->s1.heap.get? b=some o) (z:lv s.heap <= lv s1.heap) (hL:∀a ∈ L,lv s.heap <= a)
  (hmy:∀a ∈ C'.my,a ∈ L) (hfr:∀a ∈ C'.fr,a ∈ L\/a ∈ C.fr) (hfr':∀a ∈ C.fr,a ∈ C'.fr) (e1:s1.gens=s.gens) (e2:s1.os=s.os) (g:Go C' (x.An L) x'' s1 s'):Go C x x'' s s':=by
 have old:∀a,a < lv s.heap->a ∉ L:=λa q m=> Nat.not_lt.mpr (hL a m) q
 refine ⟨⟨λa o e n=> g.ext.keep a o (k a o e) λq=> n ?_,λa q=> ?_,λb o e=> g.ext.size b o (k b o e)⟩,g.mu,λa q=> (g.ow a q).imp id λy=> Nat.le_trans z y,λa ha hn m e=> g.ns a (hfr' a ha) (λq=> old a (Cu e) (hmy a q)) m (e.keeps k),λa q b o=> ?_,g.gens.trans e1,g.os.trans e2⟩
 ·have lt:=Ak e;rcases q with q |q |q |⟨q,o',e',d⟩
  ·exact .inl q
  ·exact absurd (hmy a q) (old a lt)
  ·exact (hfr a q).elim (λm=> absurd m (old a lt)) λm=> .inr (.inr (.inl m))
  ·have:=k a o e;rw [this] at e';cases e';exact .inr (.inr (.inr ⟨q.elim id λm=> absurd m (old a lt),o,e,d⟩))
 ·rcases g.ext.bads a q with q |q
  ·exact q.elim .inl λm=> .inr (hL a m)
  ·exact .inr (Nat.le_trans z q)
 ·exact g.kb a (Nat.lt_of_lt_of_le q z) (.inl b) o
theorem In.after (O:C.Ok) (i:In C x l s.heap) {x'':Wx} {s':Shared} (g:Go C x x'' s s') (D:Wd C.T C.hb x'' s'.heap)
  (un:∀a ∈ C.my,a ∉ C.fr->∀o,s.heap.get? a=some o->s'.heap.get? a=some o) (nsk:∀a ∈ C.fr,∀m,s.heap.Ns a m->s'.heap.Ns a m)
  (ck:∀y c v,C.env.cells.lookup y=some c->s.heap.IsCell c v->s'.heap.IsCell c v):In C x'' l s'.heap:=by
 have nlt:∀{a m},s.heap.Ns a m->a < lv s.heap:=Cu;have loc:∀m,s.heap.Ns C.env.locals m->s'.heap.Ns C.env.locals m:=λm e=> by
  by_cases hf:C.env.locals ∈ C.fr
  ·exact nsk _ hf m e
  ·obtain ⟨o,es,ep,e1,r⟩:=e;exact ⟨o,es,ep,un _ O.mine hf o e1,r⟩
 have no:∀a,a < lv s.heap->¬ x.owned a->¬ x''.owned a:=λa q n z=> (g.ow a z).elim n λy=> Nat.not_lt.mpr y q
 refine ⟨D,i.dict.imp loc,λk n w h1 h2=> ?_,λy c e=> ?_,λa ha=> ?_,λe he=> ?_⟩
 ·obtain ⟨v,hv,r⟩:=i.loc k n w h1 h2;refine ⟨v, ?_,Aq i g r⟩;rcases hv with ⟨a,m,b,q⟩ |⟨a,c,b,q⟩
  ·exact .inl ⟨a,m,loc m b,q⟩
  ·exact .inr ⟨a,c,b,ck _ _ _ b q⟩
 ·obtain ⟨a,b,v,q⟩:=i.cell y c e;have lt:=i.wd.fit c a;exact ⟨g.kb c lt a b,no c lt b,v,ck _ _ _ e q⟩
 ·obtain ⟨a',b⟩:=i.mine a ha;have lt:=i.wd.fit a a';exact ⟨g.kb a lt a' b,no a lt b⟩
 ·obtain ⟨a,b,m,c,d,q1,q2⟩:=i.frames e he;exact ⟨a,b,m,c,nsk b (LW he c) m d,g.kb b (Cu d) q1 q2,no b (Cu d) q2⟩
theorem In.enter (i:In C x l h) {env:Env} {L:List Addr} {ns:List (Option Nat)} {l':LL} (k:∀b o,h.get? b=some o->h₀.get? b=some o) (z:lv h <= lv h₀)
  (fr:∀a ∈ L,lv h <= a/\a < lv h₀) (hD:env.locals ∈ L) (hf:env.frame=some env.locals) (hk:env.scope.kind= .function) (hd:∃m,h₀.Ns env.locals m)
  (hc:∀y c,env.cells.lookup y=some c->c ∈ L/\∃v,h₀.IsCell c v)
  (hl:∀k n w,nth ns k=some (some n)->nth l' k=some (some w)->∃v,DU env h₀ (C.T.nm n) v/\C.rel x h v w):In (C.callee env L ns) (x.An L) l' h₀:=by
 have fz:=i.K8 (L:=L) k λa m=> (fr a m).1
 have no:∀a ∈ L,¬ x.owned a:=λa m q=> Nat.not_lt.mpr (fr a m).1 (i.wd.fit a (i.wd.DQ q))
 refine ⟨i.wd.An k z fr,hd,λk n w h1 h2=> ?_,λy c e=> ?_,λa m=> ⟨.inr m,no a m⟩,λe he=> ?_⟩
 ·obtain ⟨v,h3,h4⟩:=hl k n w h1 h2;exact ⟨v,h3,Rel.mono fz (Mu.le_refl _) h4⟩
 ·exact ⟨.inr (hc y c e).1,no c (hc y c e).1,(hc y c e).2⟩
 ·clear hc hl;rcases mCo he with rfl |he
  ·obtain ⟨m,hm⟩:=hd;exact ⟨by rw [hk];exact nofun,_,m,hf,hm,.inr hD,no _ hD⟩
  ·obtain ⟨a,b,m,c,d,q1,q2⟩:=i.frames e he;exact ⟨a,b,m,c,d.keeps k,.inl q1,q2⟩
end
theorem JT (o:AN) (f):(o.mapFields f).dict=o.dict:=by
 obtain ⟨c,d,dt,sl⟩:=o;cases dt <;> rfl
noncomputable def Ls:Heap:={objs:=#[]}
theorem N4 (a:Addr):Ls.get? a=none:=by simp [Ls,Heap.get?]
theorem Fs.fun {x:Wx} {h:Heap}:∀{l:List Env},Fs x h l->h.FunFrames Ls l
 | [],_=> trivial
 |e::l,f=> by
  obtain ⟨k,a,m,hf,hn,_⟩:=f e (.head _);obtain ⟨o,es,ep,e1,e2,_⟩:=hn;exact ⟨k,⟨a,o,hf,N4 a,e1,λvs q=> by rw [e2] at q;cases q⟩,Fs.fun λe' he=> f e' (.tail _ he)⟩
structure NO (fr:List Addr) (h h':Heap) (e:Addr) (oe:AN) (L T:Addr):Prop where
 keep:∀b o,h.get? b=some o->b ≠ e->b ∉ fr->h'.get? b=some o
 ns:∀b ∈ fr,∀m,h.Ns b m->h'.Ns b m
 exc:h'.get? e=some (oe.mapFields (·.setIfInBounds 1 (.ref T)))
 tb:∃oT ts,(h'.get? T=some oT/\oT.cls= .type "traceback")/\oT.data= .fields ts/\ts[3]? =some (rawInt L)
 new:h.objs.size=T
 live:∀b o,h.get? b=some o->∃o',h'.get? b=some o'
section
variable {M:Model} {A:Around} {E:VP} {s:Shared}
theorem Ij {x:Wx} {env:Env} {outer:List Env} {L e:Addr} {oe:AN} {vs:Array Value} {head:Value} {hadNext:Bool} {Q:Unit->Shared->Prop}
  (hfr:A.frames=some (env::outer)) (hl:Fs x s.heap (env::outer)) {env':Env} (hff:env'.frame=env.frame) (hf:env.frame=some L)
  (he:s.heap.get? e=some oe) (hd:oe.data= .fields vs) (hsz:1 < vs.size)
  (h:∀h' T,NO (frs (env::outer)) s.heap h' e oe L T->Q () {s with heap:=h'}):
  wpAny M A (do let a <- PySem.frameOf env';let pl <- entryPlaceOf L hadNext;let b <- EntryCells.newEntry head a .none (rawInt L) .none pl;setField (.ref e) 1 b) Q E s:=by
 have hene:e ∉ frs (env::outer):=λhm=> by
  obtain ⟨_,o,ho,hnf⟩:=hl.fun.mem hm;rw [he] at ho;injection ho with ho;clear h he;subst ho;exact hnf vs hd
 have eff:PySem.frameOf env' =PySem.frameOf env:=by unfold PySem.frameOf;rw [hff]
 rw [eff];refine wpAny_bind (wpAny_frameOf_fun hfr hl.fun hf λh₁ hs₁=> ?_);refine wpAny_bind (wpAny_entryPlaceOf λpl hpl=> ?_);unfold EntryCells.newEntry newFields;refine wpAny_bind (wpAny_newObj_type ?_ (hpl.sizeOk5 _ _ _ _ _));generalize htb:({cls:= .type "traceback",dict:=none,data:= .fields ([head,.ref L,.none,rawInt L,.none] ++ (if pl.isEmpty then List.replicate 6 Value.none else pl)).toArray}:AN)=tb;have htd:∃ts:Array Value,tb.data= .fields ts/\ts[3]? =some (rawInt L)/\tb.cls= .type "traceback" :=by
  clear h he hene;subst htb;exact ⟨_,rfl,by simp,rfl⟩
 obtain ⟨ts,htd,hts,htc⟩:=htd;have he₁:h₁.get? e=some oe:=(hs₁.2.1 e hene).trans he;have he₂:=Heap.get?_push_of_some (h:=h₁) tb he₁;refine wpAny_setField he₂ hd hsz (h _ h₁.objs.size ?_);have hTe:h₁.objs.size ≠ e:=Nat.ne_of_gt (Heap.lt_size he₁);have hd₃:=Obj.data_mapFields hd (·.setIfInBounds 1 (Value.ref h₁.objs.size));have he₃:=Heap.get?_update_self (Obj.mapFields (·.setIfInBounds 1 (Value.ref h₁.objs.size))) he₂ (Obj.isFreed_of_fields hd₃);have hT₃:=(Heap.get?_update_other (h₁.push tb) (Obj.mapFields (·.setIfInBounds 1 (Value.ref h₁.objs.size))) (Ne.symm hTe)).trans (Heap.get?_push_size h₁ (Obj.isFreed_of_fields htd));have keep:∀b o,b ≠ e->h₁.get? b=some o->((h₁.push tb).update e (Obj.mapFields (·.setIfInBounds 1 (Value.ref h₁.objs.size)))).get? b=some o:=λb o hbe hb=> by
  rw [Heap.get?_update_other _ _ (Ne.symm hbe)];exact Heap.get?_push_of_some _ hb
 refine ⟨λb o hb n1 n2=> keep b o n1 ((hs₁.2.1 b n2).trans hb),λb hb m hn=> ?_,he₃,⟨_,ts,⟨hT₃,htc⟩,htd,hts⟩,hs₁.1.symm,λb o hb=> by
  obtain ⟨sl,e3⟩:=hs₁.2.2 b o hb;by_cases q:b=e
  ·clear h hTe hT₃ he hene he₁ he₂ keep;subst q;exact ⟨_,he₃⟩
  ·exact ⟨_,keep b _ q e3⟩⟩
 obtain ⟨o,es,ep,e1,e2,r⟩:=hn;obtain ⟨sl,e3⟩:=hs₁.2.2 b o e1;exact ⟨_,es,ep,keep b _ (λq=> hene (q▸hb)) e3,e2,r⟩
end
section
variable {C:Cx} {x:Wx} {l:LL} {s:Shared}
theorem In.fly (O:C.Ok) (i:In C x l s.heap) {h':Heap} {L:List Addr}
  (k:∀b o,s.heap.get? b=some o->¬ (x.bad b/\¬ x.owned b/\CW o)->b ∉ C.fr->h'.get? b=some o) (nsk:∀b ∈ C.fr,∀m,s.heap.Ns b m->h'.Ns b m)
  (sz:C2 s.heap h') (nw:∀b ∈ L,lv s.heap <= b/\b < lv h'):Go C x (x.An L) s {s with heap:=h'}/\In C (x.An L) l h':=by
 have kp:∀b o,s.heap.get? b=some o->¬ C.mod x s.heap b->h'.get? b=some o:=λb o e nm=> k b o e (λq=> nm (.inr (.inr (.inr ⟨q.1,o,e,q.2.2⟩)))) λq=> nm (.inr (.inr (.inl q)))
 have g:Go C x (x.An L) s {s with heap:=h'}:=⟨⟨kp,λb q=> q.elim .inl λm=> .inr (nw b m).1,sz⟩,Mu.le_refl _,λb=> .inl,λb hb' υ m e=> nsk b hb' m e,λυ υ b υ=> .inl b,rfl,rfl⟩;have fz:=g.fz i;have kown:∀b o,s.heap.get? b=some o->x.owned b->h'.get? b=some o:=λb o e q=> by
  refine k b o e (λz=> z.2.1 q) λz=> ?_
  obtain ⟨e',he',hf⟩:=List.mem_filterMap.mp z;obtain ⟨_,b',m,hb',_,_,hno⟩:=i.frames e' he';rw [hf] at hb';cases hb';exact hno q
 have D:Wd C.T C.hb (x.An L) h':=by
  refine ⟨λb o e=> (fz b o ⟨i.wd.top b o e,i.wd.topF b o e⟩).1,λb o e=> (fz b o ⟨i.wd.top b o e,i.wd.topF b o e⟩).2,λb q=> q.elim (λz=> Nat.lt_of_lt_of_le (i.wd.fit b z) (Cg sz)) λm=> (nw b m).2,λj o e=> ?_,λj o e b hb'=> .inl (i.wd.ownB j o e b hb'),i.wd.self,i.wd.sep⟩;refine (i.wd.own j o e).mono fz (Mu.le_refl _) λb hb'=> ?_
  obtain ⟨y,hy⟩:=i.wd.live e hb';rw [hy];exact kown b y hy ⟨j,o,e,hb'⟩
 refine ⟨g,i.after O g D (λb hm hnf o e=> k b o e (λ⟨_,_,⟨ws,d⟩,_⟩=> ?_) hnf) nsk (λy b v e cl=> ?_)⟩
 ·by_cases hx:b=C.env.locals
  ·clear hm hnf;subst hx;obtain ⟨m,o',es',ep,e1,e2,_⟩:=i.dict;rw [e] at e1;cases e1;rw [d] at e2;cases e2
  ·obtain ⟨y,hy⟩:=O.cellmine b hm hx;obtain ⟨_,_,v,o',e1,e2⟩:=i.cell y b hy;rw [e] at e1;clear hm hnf;cases e1;rw [d] at e2;cases e2
 ·obtain ⟨o,e1,e2⟩:=id cl;refine ⟨o,k b o e1 (λ⟨_,_,⟨ws,d⟩,_⟩=> by rw [e2] at d;cases d) λz=> ?_,e2⟩;obtain ⟨e',he',hf⟩:=List.mem_filterMap.mp z;obtain ⟨_,b',m,hb',hn,_,_⟩:=i.frames e' he';rw [hf] at hb';cases hb';exact BQ hn cl
theorem In.gx (i:In C x l s.heap) {b:Addr} (hb:b ∈ C.fr):∃m,s.heap.Ns b m:=by
 obtain ⟨e',he',hf⟩:=List.mem_filterMap.mp hb;obtain ⟨_,b',m,hb',hn,_,_⟩:=i.frames e' he';rw [hf] at hb';cases hb';exact ⟨m,hn⟩
theorem BR {h:Heap} {b:Addr} {m:Str->Option Value} (n:h.Ns b m) {o:AN} {ws:Array Value} (e:h.get? b=some o) (d:o.data= .fields ws):False:=by
 obtain ⟨o',es',ep,e1,e2,_⟩:=n;rw [e] at e1;cases e1;rw [d] at e2;cases e2
theorem Ej (O:C.Ok) (i:In C x l s.heap) {e:Value} {c:Nat} {fs:List W} (ex:Exc C x s.heap e c fs) {L:Addr} (hL:C.fenv.frame=some L) {env:Env} (Av:env.frame=C.fenv.frame) {M:Model} {Q:Unit->Shared->Prop} {E:VP}
  (q:∀x' s',x'.σ=x.σ->Go C x x' s s'->In C x' l s'.heap->D5 C.T x' s'.heap e c fs (some (rawInt L))->Q () s'):wpAny M C.A (noteFrame e env) Q E s:=by
 obtain ⟨fl,⟨a,oe,vs,d,es,n,rfl,he,hcls,hd,⟨hsz,hcx⟩,hdict,hfz,hrel,hb,ho,htb⟩,hfl⟩:=ex;have fin:∀(h1:Heap) (S:Addr->Prop),(∀b o,s.heap.get? b=some o->¬ S b->h1.get? b=some o)->h1.objs.size=s.heap.objs.size->(∀b o,s.heap.get? b=some o->∃o',h1.get? b=some o')->(∀b,S b->x.bad b/\¬ x.owned b/\∃o,s.heap.get? b=some o/\CW o)->
   ∀h' T,NO (frs (C.fenv::C.outer)) h1 h' a oe L T->Q () {s with heap:=h'}:=λh1 S k1 z1 kl hS h' T En=> by
  have hT:s.heap.objs.size=T:=z1.symm.trans En.new;have ns1:∀b m,s.heap.Ns b m->h1.Ns b m:=λb m e=> by
   obtain ⟨o,es',ep,e1,r⟩:=id e;exact ⟨o,es',ep,k1 b o e1 λq=> (let ⟨_,_,o',e3,⟨ws,e4⟩,_⟩:=hS b q;BR e e3 e4),r⟩
  obtain ⟨g,i'⟩:=i.fly O (h':=h') (L:= [T]) (λb o e nf hnf=> En.keep b o (k1 b o e λq=> (let ⟨z1,z2,o',e3,e4⟩:=hS b q;by rw [e] at e3;clear htb;cases e3;exact nf ⟨z1,z2,e4⟩)) (λq=> nf (by clear htb nf;subst q;rw [he] at e;cases e;exact ⟨hb,ho,⟨vs,hd⟩,.inr ⟨c,hcls⟩⟩)) hnf)
   (λb hb' m e=> En.ns b hb' m (ns1 b m e)) (λb o e=> let ⟨_,e'⟩:=kl b o e;En.live b _ e') (λb m=> by cases m with |head=> exact ⟨hT▸Al _,let ⟨_,_,e,_⟩:=En.tb;Ak e.1⟩ |tail _ m=> clear En htb q;cases m)
  have fz:=g.fz i;obtain ⟨oT,ts,t1,t2,t3⟩:=En.tb;refine q (x.An [T]) {s with heap:=h'} rfl g i' ⟨a,_,_,d,es,n,rfl,En.exc,(Obj.cls_mapFields _ _).trans hcls,Obj.data_mapFields hd _,⟨by simpa using hsz,λz=> by rw [Array.getElem?_setIfInBounds_ne (by decide)];exact hcx z⟩,(JT _ _).trans hdict,fz _ _ hfz,Af.mono fz (Mu.le_refl _) hrel,.inl hb,ho,T,oT,ts,by simp [show 1 < vs.size by lia], ?_,t1,t2,t3,.inr (.head _), ?_⟩
  ·exact λz=> by have:=Heap.lt_size he;rw [<- z,<- hT] at this;exact Nat.lt_irrefl _ this
  ·exact λz=> by have:=i.wd.fit T (i.wd.DQ z);exact Nat.lt_irrefl _ (Nat.lt_of_lt_of_le this (hT▸Al _))
 unfold noteFrame;rw [Av,hL];dsimp only;have base:=fin s.heap (λυ=> False) (λb o e υ=> e) rfl (λb o e=> ⟨o,e⟩) (λυ q=> q.elim);have old:∀t oT ts,vs[1]? =some (.ref t)->t ≠ a->(s.heap.get? t=some oT/\oT.cls= .type "traceback")->oT.data= .fields ts->ts[3]? =some Value.none->x.bad t->¬ x.owned t->wpAny M C.A (do
   let head <- field (.ref a) 1
   if (head != .none)=true then do
    if (<- field head 3)==rawInt L then return
    setField head 3 .none
    setField (.ref a) 1 (<- EntryCells.newEntry head (<- PySem.frameOf env) .none (rawInt L) .none (<- entryPlaceOf L (head != .none)))
   else setField (.ref a) 1 (<- EntryCells.newEntry head (<- PySem.frameOf env) .none (rawInt L) .none (<- entryPlaceOf L (head != .none)))) Q E s:=λt oT ts h1 hTe ⟨hT,hTc⟩ hdT h3 hTb hTo=> by
  refine wpAny_bind (wpAny_field he hd h1 ?_);rw [if_pos (show (Value.ref t !=Value.none)=true from by simp)];refine wpAny_bind (wpAny_field hT hdT h3 ?_);rw [if_neg (show ¬ ((Value.none==rawInt L)=true) from by simp [rawInt])];refine wpAny_bind (wpAny_setField hT hdT (Array.getElem?_eq_some_iff.mp h3).1 ?_);have other:∀b,b ≠ t->(s.heap.update t (Obj.mapFields (·.setIfInBounds 3 Value.none))).get? b=s.heap.get? b:=λb hb=> Heap.get?_update_other _ _ (Ne.symm hb)
  have he1:=(other a (Ne.symm hTe)).trans he;have hF:Fs x (s.heap.update t (Obj.mapFields (·.setIfInBounds 3 Value.none))) (C.fenv::C.outer):=λe' he'=> by
   obtain ⟨k,b,m,hf,hn,r⟩:=i.frames e' he';obtain ⟨o,es',ep,e1,e2,e3⟩:=hn;exact ⟨k,b,m,hf,⟨o,es',ep,(other b λz=> by rw [z,hT] at e1;clear h1 hTb hTe hTo he1 htb other q;cases e1;rw [hdT] at e2;cases e2).trans e1,e2,e3⟩,r⟩
  exact Ij (x:=x) (s:={s with heap:=s.heap.update t (Obj.mapFields (·.setIfInBounds 3 Value.none))}) O.top hF Av hL he1 hd (by lia)
   (fin _ (λb=> b=t) (λb o e z=> (other b z).trans e) (Heap.size_after_update ..) (λb o e=> by
    by_cases z:b=t
    ·clear h1 hF hTb hTe hTo he1 htb other q;subst z;exact ⟨_,Heap.get?_update_self _ hT (Obj.isFreed_of_fields (Obj.data_mapFields hdT _))⟩
    ·exact ⟨o,(other b z).trans e⟩) (λb q=> q▸⟨hTb,hTo,oT,hT,⟨ts,hdT⟩,.inl hTc⟩))
 rcases hfl with rfl |rfl |⟨L',hL',rfl⟩
 ·refine wpAny_bind (wpAny_field he hd htb ?_);rw [if_neg (by decide)];exact Ij (x:=x) O.top i.frames Av hL he hd (by lia) base
 ·obtain ⟨t,oT,ts,h1,hTe,hT,hdT,h3,hTb,hTo⟩:=htb;exact old t oT ts h1 hTe hT hdT h3 hTb hTo
 ·rw [hL] at hL';cases hL';obtain ⟨t,oT,ts,h1,hTe,⟨hT,hTc⟩,hdT,h3,hTb,hTo⟩:=htb;refine wpAny_bind (wpAny_field he hd h1 ?_);rw [if_pos (show (Value.ref t !=Value.none)=true from by simp)];refine wpAny_bind (wpAny_field hT hdT h3 ?_);rw [if_pos (show (rawInt L==rawInt L)=true from by simp)];exact wpAny_pure (q x s rfl (.refl ..) i ⟨a,oe,vs,d,es,n,rfl,he,hcls,hd,⟨hsz,hcx⟩,hdict,hfz,hrel,hb,ho,t,oT,ts,h1,hTe,⟨hT,hTc⟩,hdT,h3,hTb,hTo⟩)
theorem Cd (O:C.Ok) (i:In C x l s.heap) {e:Value} {c:Nat} {fs:List W} {f:Value} (ex:D5 C.T x s.heap e c fs (some f)) (fr:Option Addr) {M:Model} {A:Around} {Q:Unit->Shared->Prop} {E:VP}
  (q:∀x' s',x'.σ=x.σ->Go C x x' s s'->In C x' l s'.heap->D5 C.T x' s'.heap e c fs (some (fr.elim .none λf=> rawInt f))->Q () s'):wpAny M A (setFlight e fr) Q E s:=by
 obtain ⟨a,oe,vs,d,es,n,rfl,he,hcls,hd,hsz,hdict,hfz,hrel,hb,ho,t,oT,ts,h1,hTe,⟨hT,hTc⟩,hdT,h3,hTb,hTo⟩:=ex;have hs3:=(Array.getElem?_eq_some_iff.mp h3).1;unfold setFlight;refine wpAny_bind (wpAny_field he hd h1 ?_);rw [if_pos (show (Value.ref t !=Value.none)=true from by simp)];refine wpAny_setField hT hdT hs3 ?_;have other:∀b,b ≠ t->(s.heap.update t (Obj.mapFields (·.setIfInBounds 3 (fr.elim .none λf=> rawInt f)))).get? b=s.heap.get? b:=λb hb=> Heap.get?_update_other _ _ (Ne.symm hb)
 have hd4:=Obj.data_mapFields hdT (·.setIfInBounds 3 (fr.elim .none λf=> rawInt f));obtain ⟨g,i'⟩:=i.fly O (h':=s.heap.update t (Obj.mapFields (·.setIfInBounds 3 (fr.elim .none λf=> rawInt f)))) (L:= []) (λb o e nf υ=> (other b λz=> nf (by clear h1 hTe nf;subst z;rw [hT] at e;cases e;exact ⟨hTb,hTo,⟨ts,hdT⟩,.inl hTc⟩)).trans e)
  (λb hb' m e=> by
   obtain ⟨o,es',ep,e1,e2,e3⟩:=id e;exact ⟨o,es',ep,(other b λz=> BR e (z▸hT) hdT).trans e1,e2,e3⟩) (C7 other (Heap.get?_update_self _ hT (Obj.isFreed_of_fields hd4))) (λb m=> nomatch m)
 have fz:=g.fz i;exact q (x.An []) _ rfl g i' ⟨a,oe,vs,d,es,n,rfl,(other a (Ne.symm hTe)).trans he,hcls,hd,hsz,hdict,fz _ _ hfz,Af.mono fz (Mu.le_refl _) hrel,.inl hb,ho,t,_,_,h1,hTe,⟨Heap.get?_update_self _ hT (Obj.isFreed_of_fields hd4),(Obj.cls_mapFields _ _).trans hTc⟩,hd4,by simp [hs3],.inl hTb,hTo⟩
theorem MX (O:C.Ok) (i:In C x l s.heap) {e:Value} {c:Nat} {fs:List W} (ex:Exc C x s.heap e c fs) {M:Model} {Q:Unit->Shared->Prop} {E:VP}
  (q:∀x' s',x'.σ=x.σ->Go C x x' s s'->In C x' l s'.heap->D5 C.T x' s'.heap e c fs (some .none)->Q () s'):wpAny M C.A (leaving C.fenv e) Q E s:=by
 obtain ⟨L,hL,_⟩:=O.fr;unfold leaving;refine wpAny_bind (Ej O i ex hL rfl λx1 s1 z1 g1 i1 e1=> ?_);exact Cd O i1 e1 none λx2 s2 z2 g2 i2 e2=> q x2 s2 (z2.trans z1) (g1.trans g2) i2 e2
end
def AK (C:Cx) (x:Wx) (s:Shared) (r:RS) (Q:Flow->Shared->Prop) (E:VP):Prop:=match r with
 | .next l σ=>∀s' x',x'.σ=σ->Go C x x' s s'->In C x' l s'.heap->Q .next s'
 | .ret w σ=>∀v s' x' l',x'.σ=σ->Go C x x' s s'->In C x' l' s'.heap->C.rel x' s'.heap v w->Q (.ret v) s'
 | .exc c fs l σ=>∀e s' x',x'.σ=σ->Go C x x' s s'->In C x' l s'.heap->Exc C x' s'.heap e c fs->E e s'
 | .stuck _=> False
def DV (C:Cx) (t:Sem Flow) (f:SS):Prop:=∀x l s Q E,In C x l s.heap->AK C x s (f l x.σ) Q E->wpB C.M C.A t Q E s
theorem AK.shift {C:Cx} {x x':Wx} {s s':Shared} {r:RS} {Q:Flow->Shared->Prop} {E:VP} (g:Go C x x' s s') (o:AK C x s r Q E):AK C x' s' r Q E:=by
 induction r using RS.casesOn with
 |next l σ=> exact λs'' x'' e g' i=> o s'' x'' e (g.trans g') i
 |ret w σ=> exact λv s'' x'' l' e g' i q=> o v s'' x'' l' e (g.trans g') i q
 |exc c fs l σ=> exact λe s'' x'' z g' i q=> o e s'' x'' z (g.trans g') i q
 |stuck n=> exact o
structure Fn where
 np:Nat
 nl:Nat
 ns:List Nat
 ks:NN
 dfl:List W
 body:List S
def Fn.run (f:Fn) (Z:Sys):Run:=Dr f.np f.dfl f.nl (block (Ay Z f.body))
structure TR (B:Base) (f:Fn) (fd:FuncData):Prop where
 body:fd.body= .stmts (B6 B.T f.body)
 clos:fd.closure= []
 glob:fd.globals=mainGlobals
 bi:fd.builtins=builtinsNs
 code:codeIn B.KF fd.code fd.qualname=true
 kind:fd.scope.kind= .function
 co:fd.scope.isCoroutine=false
 gen:fd.scope.isGenerator=false
 names:fd.scope.names=D6 B.T f.ks
 ksl:∀q ∈ f.ks,q.1 < B.T.cnt
 dfl:∃dvs,AD B.T (λa o=> B.hb.get? a=some o) mu0 f.dfl dvs/\∀S vs,vs.length <= f.np->f.np <= vs.length + dvs.length->
  peek B.KF S (bindArgs fd ⟨vs,[]⟩)=some (((f.ns.take f.np).map B.T.nm).zip (vs ++ dvs.drop (dvs.length - (f.np - vs.length))))
 locs:∀n ∈ f.ns,lkp f.ks n=some 0\/lkp f.ks n=some 1
 nodup:f.ns.Nodup
 many:f.np <= f.ns.length
inductive FnAt (B:Base) (a:Nat) (f:Fn):Prop |mk (o:AN) (fd:FuncData) (h1:B.KF.lookup a=some o) (h2:o.data= .func fd) (h3:TR B f fd)
theorem NA {α β:Type} (l:List α):∀r:List β,(l.zip r).map (·.1) <+:l:=by
 induction l with
 |nil=> intro r;simp
 |cons a l ih=>
  intro r;induction r using lC with
  |nil=> simp
  |cons b r=> exact List.cons_prefix_cons.mpr ⟨rfl,ih r⟩
theorem Ec {α:Type} {l:List α} {k:Nat} {y:Option α} (e:nth (l.map some) k=some y):∃z,y=some z/\nth l k=some z:=by
 rw [AL,List.getElem?_map] at e;obtain ⟨z,h,rfl⟩:=Option.map_eq_some_iff.mp e;exact ⟨z,rfl,by rw [AL];exact h⟩
theorem Pt {n:Nat}:∀{ws:List W} {k:Nat} {w:W},nth (BX n ws) k=some (some w)->nth ws k=some w:=by
 induction n with
 |zero=> intro ws k w e;obtain ⟨z,h,e⟩:=Ec (show nth (ws.map some) k=some (some w) from e);cases h;exact e
 |succ n ih=>
  intro ws k w e;induction ws using lC with
  |nil=> induction k with
   |zero=> cases e
   |succ k=> exact nn (ih (ws:= []) (k:=k) (w:=w) e)
  |cons a r=> induction k with
   |zero=> cases e;rfl
   |succ k=> exact ih (ws:=r) (k:=k) e
theorem Qw {np:Nat} {dfl ws as:List W} (e:fill np dfl ws=some as):ws.length <= np/\np - ws.length <= dfl.length/\as=ws ++ dfl.drop (dfl.length - (np - ws.length)):=by
 obtain ⟨h1,e⟩:=AJ e;obtain ⟨h2,e⟩:=AJ e;cases e;exact ⟨lBl h1,lBl h2,by rw [BA];rfl⟩
theorem Vt {K:Str->Option NameKind} {y:Str} {v:Value} {binds:List (Str × Value)}:∀{m cm:Str->Option Value},(binds.map (·.1)).Nodup->((y,v) ∈ binds\/(y ∉ binds.map (·.1)/\(if K y=some .local then m y else cm y)=some v))->
  (if K y=some .local then bindL K binds m y else bindC K binds cm y)=some v:=by
 induction binds with
 |nil=> intro m cm _ h;exact h.elim (λh=> nomatch h) And.right
 |cons b r ih=>
  intro m cm nd h;obtain ⟨z,u⟩:=b;obtain ⟨h1,h2⟩:=List.nodup_cons.mp nd;refine ih h2 ?_;by_cases hz:y=z
  ·clear ih nd;subst hz;refine .inr ⟨h1, ?_⟩;have:u=v:=by
    rcases h with h |h
    ·rcases mCo h with h |h
     ·clear h1;cases h;rfl
     ·exact absurd (List.mem_map.mpr ⟨_,h,rfl⟩) h1
    ·exact absurd (.head _) h.1
   clear h h1;subst this;by_cases hk:K y=some .local
   ·rw [if_pos hk,if_pos hk];exact if_pos rfl
   ·rw [if_neg hk,if_neg hk];exact if_pos rfl
  ·rcases h with h |h
   ·rcases mCo h with h |h
    ·clear h1 ih nd;cases h;exact absurd rfl hz
    ·exact .inl h
   ·refine .inr ⟨λq=> h.1 (.tail _ q), ?_⟩;rw [<- h.2];by_cases hk:K y=some .local
    ·rw [if_pos hk,if_pos hk];split
     ·exact if_neg hz
     ·rfl
    ·rw [if_neg hk,if_neg hk];split
     ·rfl
     ·exact if_neg hz
theorem Ib {y:Str} {names:List (Str × NameKind)}:∀{n:Nat} {acc:List (Str × Addr)},((acc.lookup y).isSome=true\/(y,NameKind.cell) ∈ names)->((cellsFrom n names acc).lookup y).isSome=true:=by
 induction names with
 |nil=> intro n acc h;exact h.elim id λh=> nomatch h
 |cons p r ih=>
  intro n acc h;obtain ⟨z,k⟩:=p;unfold cellsFrom;by_cases hk:(k==NameKind.cell)=true
  ·rw [if_pos hk];refine ih ?_;by_cases hz:y=z
   ·clear h hk;subst hz;exact .inl (by rw [List.lookup_cons,beq_self_eq_true];rfl)
   ·refine h.imp (λh=> ?_) λh=> ?_
    ·rw [List.lookup_cons,beq_eq_false_iff_ne.mpr hz];exact h
    ·rcases mCo h with h |h
     ·clear hk;cases h;exact absurd rfl hz
     ·exact h
  ·rw [if_neg hk];refine ih (h.imp id λh=> ?_);rcases mCo h with h |h
   ·cases h;exact absurd rfl hk
   ·exact h
section
variable {C:Cx} {x:Wx} {l:LL} {s:Shared}
theorem In.back (O:C.Ok) (i:In C x l s.heap) {C':Cx} {x'':Wx} {l'':LL} {L:List Addr} {s1 s':Shared} (hC:C'.T=C.T/\C'.w=C.w/\C'.hb=C.hb) (k:Keeps s.heap s1.heap) (hL:∀a ∈ L,lv s.heap <= a)
  (hmy:∀a ∈ C'.my,a ∈ L) (hfr:∀a ∈ C'.fr,a ∈ L\/a ∈ C.fr) (hfr':∀a ∈ C.fr,a ∈ C'.fr) (e1:s1.gens=s.gens) (e2:s1.os=s.os) (g:Go C' (x.An L) x'' s1 s') (i'':In C' x'' l'' s'.heap):Go C x x'' s s'/\In C x'' l s'.heap:=by
 have g0:Go C x x'' s s':=Go.inner i hC k (EH k) hL hmy hfr hfr' e1 e2 g;have old:∀{b o},s.heap.get? b=some o->b ∉ L:=λe m=> Nat.lt_irrefl _ (Nat.lt_of_lt_of_le (Ak e) (hL _ m))
 have keep':∀b o,s.heap.get? b=some o->¬ x.owned b->b ∉ C.fr->(∀ws,o.data ≠ .fields ws)->s'.heap.get? b=some o:=λb o e n1 n2 n3=> by
  refine g.ext.keep b o (k b o e) λq=> ?_
  rcases q with q |q |q |q
  ·exact n1 q
  ·exact old e (hmy b q)
  ·exact (hfr b q).elim (old e) n2
  ·obtain ⟨_,o',e',⟨ws,d⟩,_⟩:=q;rw [k b o e] at e';cases e';exact n3 ws d
 have nsk:∀b ∈ C.fr,∀m,s.heap.Ns b m->s'.heap.Ns b m:=λb hb m e=> g.ns b (hfr' b hb) (λq=> by obtain ⟨o,_,_,e,_⟩:=e;exact old e (hmy b q)) m (e.keeps k)
 have hT:C'.T=C.T:=hC.1;have D:Wd C.T C.hb x'' s'.heap:=by have:=i''.wd;rw [hC.1,hC.2.2] at this;exact this
 refine ⟨g0,i.after O g0 D (λb hm hnf o e=> keep' b o e (i.mine b hm).2 hnf λws d=> ?_) nsk λy b v e cl=> ?_⟩
 ·by_cases hx:b=C.env.locals
  ·clear hnf;subst hx;obtain ⟨m,hm⟩:=i.dict;exact BR hm e d
  ·obtain ⟨y,hy⟩:=O.cellmine b hm hx;obtain ⟨_,_,v,o',e1,e2⟩:=i.cell y b hy;rw [e] at e1;clear hm hnf;cases e1;rw [d] at e2;cases e2
 ·obtain ⟨o,e1,e2⟩:=id cl;refine ⟨o,keep' b o e1 (i.cell y b e).2.1 (λhb=> ?_) (λws d=> by rw [e2] at d;cases d),e2⟩;obtain ⟨m,hm,_⟩:=i.frame hb;exact BQ hm cl
def Ic (Q:VP) (E:VP):Result->Shared->Prop:=λr s'=> match r with | .ok (.ret v)=> Q v s' | .ok _=> False | .error e=> E e s'
theorem F8 {env:Env} {L:Addr} {my:List Addr} {ns:List (Option Nat)} (eF:env.frame=some L) {b:Addr}:b ∈ (C.callee env my ns).fr↔b=L\/b ∈ C.fr:=by
 show b ∈ frs (env::C.fenv::C.outer)↔_;unfold frs;rw [List.filterMap_cons,eF];exact List.mem_cons
structure DP (C:Cx) (rk:Nat):Prop where
 depth:C.A.depth + rk < recursionLimit
 units:C.A.units + 3 * rk + 100 < cLine
 handled:C.A.handled=none
structure Act (C C':Cx) (f:Fn):Prop where
 base:C'.toBase=C.toBase
 ok:C'.Ok
 sc:C'.Sc f.ks
 ns:C'.ns=f.ns.map some
 mine:∀n ∈ f.ns,AR C' (C.T.nm n)
 room:∀rk,DP C (rk + 1)->DP C' rk
theorem RK (i:In C x l s.heap) {vs dvs:List Value} {ws dfl:List W} {n:Nat} (r:C.BF x s.heap vs ws) (rd:AD C.T (λa o=> C.hb.get? a=some o) mu0 dfl dvs):
  C.BF x s.heap (vs ++ dvs.drop (dvs.length - (n - vs.length))) (ws ++ dfl.drop (dfl.length - (n - ws.length))):=by
 rw [rd.length,AD.length r];exact AD.append (AD.drop (AD.mono (λa o e=> i.wd.fz e) (Kw _) rd)) r
end
section
variable {C:Cx} {x:Wx} {l:LL} {s:Shared}
noncomputable def DJ (env:Env):List Addr:=env.locals::env.cells.filterMap λq=> env.cells.lookup q.1
theorem HR {env:Env} {y:Str} {c:Addr} (e:env.cells.lookup y=some c):c ∈ DJ env:= .tail _ (List.mem_filterMap.mpr ⟨_,mem_of_lookup e,e⟩)
theorem LI {env:Env} {a:Addr} (m:a ∈ DJ env):a=env.locals\/∃y,env.cells.lookup y=some a:=by
 rcases mCo m with h |h
 ·exact .inl h
 ·obtain ⟨q,_,h⟩:=List.mem_filterMap.mp h;exact .inr ⟨_,h⟩
structure Laid (C:Cx) (s s1:Shared) (f:Fn) (fd:FuncData) (env:Env) (m cm:Str->Option Value):Prop where
 L:env.locals=s.heap.objs.size
 F:env.frame=some s.heap.objs.size
 S:env.scope=fd.scope
 G:env.globals=mainGlobals
 B:env.builtins=builtinsNs
 at_:InCallC s env.locals m env.cells cm s1
 ex:∀y,(y,NameKind.cell) ∈ fd.scope.names->(env.cells.lookup y).isSome=true
section
variable {f:Fn} {fd:FuncData} {env:Env} {s1:Shared} {m cm:Str->Option Value} (F:TR C.toBase f fd) (Y:Laid C s s1 f fd env m cm)
include Y
theorem Laid.my {a:Addr} (h:a ∈ DJ env):s.heap.objs.size <= a/\a < lv s1.heap:=by
 rcases LI h with rfl |⟨y,h⟩
 ·exact ⟨Y.at_.toInCall.fresh,Cu Y.at_.toInCall.ns⟩
 ·refine ⟨Nat.le_trans Y.at_.toInCall.fresh (Nat.le_of_lt (Y.at_.above y a (mem_of_lookup h))), ?_⟩;obtain ⟨o,e,_⟩:=Y.at_.cell y a h;exact Ak e
include F
theorem Laid.kind (B:C.toBase.Ok) {n k:Nat} (e:lkp f.ks n=some k):env.kindOf (C.T.nm n)=some (Bp k):=by
 unfold Env.kindOf;rw [Y.S,F.names];exact BM B.names F.ksl e
theorem Laid.cellOf (B:C.toBase.Ok) {n:Nat} (e:lkp f.ks n=some 1):∃c,env.cells.lookup (C.T.nm n)=some c:=by
 have h:(env.cells.lookup (C.T.nm n)).isSome=true:=Y.ex _ (mem_of_lookup (by rw [F.names];exact BM B.names F.ksl e));exact Option.isSome_iff_exists.mp h
theorem Ir {n:Nat} (hn:n ∈ f.ns):n < C.T.cnt:=by
 rcases F.locs n hn with h |h <;> exact F.ksl _ (AY h)
theorem Laid.act (B:C.toBase.Ok) (O:C.Ok) (i:In C x l s.heap) {rk:Nat} (R:DP C (rk + 1)):Act C (C.callee env (DJ env) (f.ns.map some)) f:=by
 have nsn:∀{k n},nth (f.ns.map some) k=some (some n)->nth f.ns k=some n/\n ∈ f.ns:=λ{k n} e=> by
  obtain ⟨z,e1,e2⟩:=Ec e;cases e1;exact ⟨e2,by rw [AL] at e2;exact List.mem_of_getElem? e2⟩
 refine ⟨rfl, ?_,⟨by show env.scope.names=_;rw [Y.S];exact F.names,F.ksl⟩,rfl,λn hn=> ?_,λrk R=> ⟨?_, ?_,R.handled⟩⟩
 ·have un:(C.callee env (DJ env) (f.ns.map some)).A.units=C.A.units + 3:=rfl;refine ⟨Around.frames_deeper O.top,⟨_,Y.F,Y.F⟩,.head _,Y.G,Y.B, ?_,λk n e=> ?_,λb hb hne=> ?_,λb hb hb'=> ?_,λk k' n n' e e' h=> ?_, ?_,λy y' c h h'=> ?_,O.guards⟩
  ·show env.scope.kind=_;rw [Y.S];exact F.kind
  ·have:=B.names.plain n (Ir F Y (nsn e).2);exact ⟨this.1,this.2.1⟩
  ·exact (LI hb).resolve_left hne
  ·rcases (F8 Y.F).mp hb with h |h
   ·rw [h];exact Y.L.symm
   ·obtain ⟨mm,hm,_⟩:=i.frame h;exact absurd (Nat.lt_of_lt_of_le (Cu hm) (Al _)) (Nat.not_lt.mpr (Y.my hb').1)
  ·obtain ⟨h1,g1⟩:=nsn e;obtain ⟨h2,g2⟩:=nsn e';have:=B.names.inj n n' (Ir F Y g1) (Ir F Y g2) h;clear e' g2 h;subst this;rw [AL] at h1 h2;exact (List.getElem?_inj (List.getElem?_eq_some_iff.mp h1).1 F.nodup).mp (h1.trans h2.symm)
  ·have:=R.units;show C.A.units + 3 + 100 < _;lia
  ·exact name_of_addr Y.at_.apart (mem_of_lookup h) (mem_of_lookup h')
 ·rcases F.locs n hn with h |h
  ·exact .inl (Y.kind F B h)
  ·obtain ⟨c,hc⟩:=Y.cellOf F B h;exact .inr ⟨Y.kind F B h,c,hc,HR hc⟩
 ·have:=R.depth;show C.A.depth + 1 + rk < _;lia
 ·have:=R.units;show C.A.units + 3 + 3 * rk + 100 < _;lia
theorem Laid.enter (B:C.toBase.Ok) (i:In C x l s.heap) {vals:List Value} {as:List W} {nl:Nat} {binds:List (Str × Value)} (e1:m=bindL env.kindOf binds λυ=> none) (e2:cm=bindC env.kindOf binds λυ=> none)
  (hb:binds=((f.ns.take f.np).map C.T.nm).zip vals) (r:C.BF x s.heap vals as) (hz:as.length <= f.np):In (C.callee env (DJ env) (f.ns.map some)) (x.An (DJ env)) (BX nl as) s1.heap:=by
 have nd:(binds.map (·.1)).Nodup:=by
  clear e1 e2;subst hb;refine List.Nodup.sublist (NA _ _).sublist ?_;refine List.pairwise_map.mpr ?_;refine List.Pairwise.imp_of_mem (λ{a b} ha hb hab e=> hab ?_) (F.nodup.sublist (List.take_sublist f.np _));exact B.names.inj a b (Ir F Y (List.mem_of_mem_take ha)) (Ir F Y (List.mem_of_mem_take hb)) e
 refine i.enter (L:=DJ env) Y.at_.toInCall.keep (EH Y.at_.toInCall.keep) (λb hb=> ⟨Nat.le_trans (Al _) (Y.my hb).1,(Y.my hb).2⟩) (.head _) (by rw [Y.F,Y.L]) (by rw [Y.S];exact F.kind) ⟨_,Y.at_.toInCall.ns⟩ (λy c e=> ⟨HR e,_,Y.at_.cell y c e⟩) (λk n w h1 h2=> ?_);obtain ⟨z,hz',h1⟩:=Ec h1;cases hz';have h2:=Pt h2;obtain ⟨v,hv,rv⟩:=AD.nth r h2;have hk:k < f.np:=Nat.lt_of_lt_of_le (LR h2) hz;have mem:(C.T.nm n,v) ∈ binds:=by
  clear e1 e2 nd;subst hb;rw [List.mem_iff_getElem?];refine ⟨k, ?_⟩;rw [List.getElem?_zip_eq_some,List.getElem?_map,List.getElem?_take,if_pos hk,<- AL,h1];exact ⟨rfl,hv⟩
 have at_:=Vt (K:=env.kindOf) (m:=λυ=> none) (cm:=λυ=> none) nd (.inl mem);rw [<- e1,<- e2] at at_;refine ⟨v, ?_,rv⟩;have hn:n ∈ f.ns:=by rw [AL] at h1;exact List.mem_of_getElem? h1
 rcases F.locs n hn with h |h
 ·have hl:env.kindOf (C.T.nm n)=some .local:=Y.kind F B h;rw [if_pos hl] at at_;exact .inl ⟨hl,_,Y.at_.toInCall.ns,at_⟩
 ·have hl:env.kindOf (C.T.nm n)=some .cell:=Y.kind F B h;rw [if_neg (by rw [hl];decide)] at at_;obtain ⟨c,hc⟩:=Y.cellOf F B h;exact .inr ⟨.inl hl,c,hc,at_▸Y.at_.cell _ c hc⟩
end
theorem OX {B:Base} (N:CV B.T) {f:Fn} {fd:FuncData} (F:TR B f fd) {vals:List Value} {n:Nat} {y:Str × Value} (hy:y ∈ ((f.ns.take f.np).map B.T.nm).zip vals):
  fd.scope.names.lookup y.1=some .local\/(fd.scope.names.lookup y.1=some .cell/\((cellsFrom n fd.scope.names []).lookup y.1).isSome=true):=by
 obtain ⟨y1,y2⟩:=y;obtain ⟨n,hn,rfl⟩:=List.mem_map.mp (List.of_mem_zip hy).1;have look:∀{k},lkp f.ks n=some k->fd.scope.names.lookup (B.T.nm n)=some (Bp k):=λe=> by rw [F.names];exact BM N F.ksl e
 rcases F.locs n (List.mem_of_mem_take hn) with h |h
 ·exact .inl (look h)
 ·exact .inr ⟨look h,Ib (.inr (mem_of_lookup (look h)))⟩
theorem VZ (B:C.toBase.Ok) (O:C.Ok) (i:In C x l s.heap) {a:Addr} {f:Fn} {rk:Nat} (R:DP C (rk + 1)) (H:FnAt C.toBase a f) {vs:List Value} {ws:List W} (r:C.BF x s.heap vs ws) {Q:VP} {E:VP}
  {b:SS} (body:∀C':Cx,Act C C' f->DV C' (execs (B6 C.T f.body) C'.env) b)
  (ou:Out C x l s C.rel (Dr f.np f.dfl f.nl b ws x.σ) Q E):codeB C.M C.A (.call (.ref a) ⟨vs,[]⟩) (Ic Q E) s:=by
 obtain ⟨o,fd,ho,hd,F⟩:=H;unfold Dr at ou;generalize hf:fill f.np f.dfl ws=x9;induction x9 using oC with
 |none=> rw [hf] at ou;exact ou.elim
 |some as=>
 rw [hf] at ou;obtain ⟨f1,f2,e3⟩:=Qw hf;obtain ⟨dvs,rd,hb⟩:=F.dfl;have lenv:vs.length=ws.length:=AD.length r;have lend:dvs.length=f.dfl.length:=rd.length;have X:=i.KX B;have rall:C.BF x s.heap (vs ++ dvs.drop (dvs.length - (f.np - vs.length))) as:=e3▸RK i r rd;have hz:as.length <= f.np:=by rw [e3,List.length_append,List.length_drop];lia
 have pk:=λS=> hb S vs (by lia) (by lia)
 refine Bw.callFunction (by have:=R.depth;lia) (X _ _ ho) hd F.co F.gen F.body (codeRec_of X F.code) ((Looks.of_peek X (pk _)).here ?_);rw [F.clos];refine wpAny_newFunctionEnv_cells F.kind (λy hy=> OX B.names F hy) λenv he s1 at_=> ?_
 have Y:Laid C s s1 f fd env _ _:=⟨by rw [he];rfl,by rw [he];rfl,by rw [he];rfl,by rw [he];exact F.glob,by rw [he];exact F.bi,at_,λy hy=> by rw [he];exact Ib (.inr hy)⟩;refine And.intro (B.lim.keeps λb o e=> at_.toInCall.keep b o (i.wd.top b o e)) ?_;have act:=Y.act F B O i R;have i':=Y.enter F B i (nl:=f.nl) rfl rfl rfl rall hz;obtain ⟨h1,tk,es⟩:=at_.toInCall.same;have back:∀{x'':Wx} {l'':LL} {s':Shared},Go (C.callee env (DJ env) (f.ns.map some)) (x.An (DJ env)) x'' s1 s'->In (C.callee env (DJ env) (f.ns.map some)) x'' l'' s'.heap->Go C x x'' s s'/\In C x'' l s'.heap:=λg i''=>
  In.back O i (C':=C.callee env (DJ env) (f.ns.map some)) (L:=DJ env) ⟨rfl,rfl,rfl⟩ at_.toInCall.keep (λb hb=> Nat.le_trans (Al _) (Y.my hb).1) (λb hb=> hb) (λb hb=> ((F8 Y.F).mp hb).imp (λh=> by rw [h,<- Y.L];exact .head _) id) (λb hb=> (F8 Y.F).mpr (.inr hb)) (by rw [es]) (by rw [es]) g i''
 refine Bw.func (body _ act (x.An (DJ env)) _ s1 _ _ i' ?_);show AK _ _ _ (b (BX f.nl as) x.σ) _ _;have ou:Out C x l s C.rel (BC (b (BX f.nl as) x.σ)) Q E:=ou;generalize hres:b (BX f.nl as) x.σ=x9;induction x9 using RS.casesOn with
 |stuck n=> rw [hres] at ou;exact ou
 |next l' σ=>
  rw [hres] at ou;intro s' x' e g i'';obtain ⟨g0,i0⟩:=back g i'';exact ou .none s' x' e g0 i0 rfl
 |ret w σ=>
  rw [hres] at ou;intro v s' x' l' e g i'' rv;obtain ⟨g0,i0⟩:=back g i'';exact ou v s' x' e g0 i0 rv
 |exc c fs l' σ=>
  rw [hres] at ou;intro e s' x' z g i'' ex;refine Bw.of (MX act.ok i'' ex λx3 s3 z3 g3 i3 ex3=> ?_);obtain ⟨g0,i0⟩:=back (g.trans g3) i3;exact ou e s3 x3 (z3.trans z) g0 i0 ⟨_,ex3,.inr (.inl rfl)⟩
end
noncomputable def Lb (e:E):Bool:=match e with
 | .comp .. => false
 | .frz _=> false
 |_=> true
abbrev Ee (e:PySem.Expr):Prop:=∀t n env,swapsWith e t n env=pure false
theorem G9 {e:E} {T:Tb} (h:Lb e=true):Ee (den T e):=λt n env=> by
 induction e using E.casesOn with
 |comp=> exact nomatch h
 |frz=> exact nomatch h
 |_=> rfl
section
variable {C:Cx} {α β:Type}
theorem B0.Ew {rel:Wx->Heap->β->α->Prop} {t:Sem β} {f:LL->List O->R α} {g:α->List O->RS} {x:Wx} {l:LL} {s:Shared} {Q:Flow->Shared->Prop} {E:VP}
  (D:B0 C rel t f) (i:In C x l s.heap) (o:AK C x s ((f l x.σ).toS l g) Q E):
  wpB C.M C.A t (λb s'=>∃x' a,Go C x x' s s'/\In C x' l s'.heap/\rel x' s'.heap b a/\AK C x' s' (g a x'.σ) Q E) E s:=by
 refine D x l s _ _ i ?_;generalize h:f l x.σ=x9;induction x9 using R.casesOn with
 |ok a σ=>
  rw [h] at o;intro b s' x' e g' i' q;clear h;subst e;exact ⟨x',a,g',i',q,AK.shift (r:=g a x'.σ) g' o⟩
 |exc c fs σ=> rw [h] at o;exact o
 |stuck n=> rw [h] at o;exact o
abbrev SOk (C:Cx) (t:Stmt) (f:SS):Prop:=DV C (exec t C.env) f
abbrev CU (C:Cx) (b:List Stmt) (f:SS):Prop:=DV C (execs b C.env) f
def Conv (C:Cx) (E E':VP):Prop:=∀(x1:Wx) (l1:LL) (s1:Shared) (e:Value) (c:Nat) (fs:List W),In C x1 l1 s1.heap->Exc C x1 s1.heap e c fs->
 (∀x' s',x'.σ=x1.σ->Go C x1 x' s1 s'->In C x' l1 s'.heap->Exc C x' s'.heap e c fs->E e s')->E' e s1
theorem Conv.refl {E:VP}:Conv C E E:=λυ υ υ υ υ υ i ex q=> q _ _ rfl (.refl ..) i ex
theorem AK.conv {x:Wx} {s:Shared} {r:RS} {Q:Flow->Shared->Prop} {E E':VP} (cv:Conv C E E') (o:AK C x s r Q E):AK C x s r Q E':=by
 induction r using RS.casesOn with
 |exc c fs l σ=> exact λe s' x' z g i' ex=> cv _ _ _ _ _ _ i' ex λx2 s2 z2 g2 i2 ex2=> o e s2 x2 (z2.trans z) (g.trans g2) i2 ex2
 |_=> exact o
theorem MD {x:Wx} {l:LL} {s:Shared} {t:Sem Flow} {f k:SS} {Q:Flow->Shared->Prop} {E E':VP} (cv:Conv C E E') (D:DV C t f) (i:In C x l s.heap) (o:AK C x s ((f l x.σ).then k) Q E):
  wpB C.M C.A t (λfl s'=> match fl with | .next=>∃x' l',Go C x x' s s'/\In C x' l' s'.heap/\AK C x' s' (k l' x'.σ) Q E | .ret v=> Q (.ret v) s' |_=> False) E' s:=by
 refine D x l s _ _ i ?_;generalize h:f l x.σ=x9;induction x9 using RS.casesOn with
 |stuck n=> rw [h] at o;exact o
 |next l' σ=>
  rw [h] at o;intro s' x' e g i';clear h;subst e;exact ⟨x',l',g,i',AK.shift (r:=k l' x'.σ) g o⟩
 |ret w σ=> rw [h] at o;exact o
 |exc c fs l' σ=> rw [h] at o;exact AK.conv (r:= .exc c fs l' σ) cv o
theorem M3:CU C [] (block []):=λx l s Q E i o=> Bw.of (wpAny_execs_nil (o s x rfl (.refl ..) i))
theorem MC {t:Stmt} {r:List Stmt} {f:SS} {fs:List SS} (D:SOk C t f) (D':CU C r (block fs)):CU C (t::r) (block (f::fs)):=by
 intro x l s Q E i o;refine Bw.Dy (Bw.mono (MD Conv.refl D i (show AK C x s ((f l x.σ).then (block fs)) Q E from o)) (λfl s' h=> ?_) λυ υ e=> e);cases fl with
 |next=> obtain ⟨x',l',g,i',o'⟩:=h;exact D' x' l' s' Q E i' o'
 |ret v=> exact h
 |_=> exact h.elim
theorem PX {p:Pos}:SOk C (.Pass p) Ua:=λx l s Q E i o=> Bw.of (wpAny_bind (wpAny_standAt (wpAny_pure (o s x rfl (.refl ..) i))))
theorem Qf (O:C.Ok) {e:PySem.Expr} {f:SE} {p:Pos} (D:EOk C e f) (hc:Ee e):SOk C (.Expr e p) (Fu f):=by
 intro x l s Q E i o;rw [arm_exec_Expr];have hi:interactive C.env=false:=by unfold interactive;rw [O.kind];rfl
 rw [hi,hc];refine Bw.bind (Bw.standAt (Bw.bind (Bw.pure (Bw.bind (Bw.mono (D.Ew i o) (λv s1 h=> Bw.of ?_) λυ υ e=> e)))));obtain ⟨x1,w,g1,i1,r1,o1⟩:=h;have q:Q .next s1:=o1 s1 x1 rfl (.refl ..) i1;unfold dropValue
 split
 ·exact wpAny_pure q
 ·exact wpAny_bind (wpAny_standAt (wpAny_bind (wpAny_runValue (codeAny_builtin entry_let_go (show wpAny _ _ (ret .none) _ _ s1 from wpAny_pure (wpAny_pure q))))))
 ·exact wpAny_pure q
theorem Pm {p:Pos}:SOk C (.Return none p) (C1 none):=λx l s Q E i o=> by
 rw [arm_exec_Return];exact Bw.bind (Bw.standAt (Bw.pure (o .none s x l rfl (.refl ..) i rfl)))
theorem Rm {e:PySem.Expr} {f:SE} {p:Pos} (D:EOk C e f):SOk C (.Return (some e) p) (C1 (some f)):=by
 intro x l s Q E i o;rw [arm_exec_Return];refine Bw.bind (Bw.standAt (Bw.bind (Bw.mono (D.Ew (g:=λw σ=> .ret w σ) i o) (λv s1 h=> Bw.pure ?_) λυ υ e=> e)));obtain ⟨x1,w,g1,i1,r1,o1⟩:=h;exact o1 v s1 x1 l rfl (.refl ..) i1 r1
theorem LM {e:PySem.Expr} {f:SE} (D:BOk C e f) {x:Wx} {l:LL} {s:Shared} {Q:Flow->Shared->Prop} {E E':VP} {n:Nat} {a b:W->List O->RS} (cv:Conv C E E') (i:In C x l s.heap)
  (o:AK C x s ((f l x.σ).toS l λw σ=> brS n (truth w) (a w σ) (b w σ)) Q E):
  wpB C.M C.A (isTrue e C.env (eval e C.env)) (λt s'=>∃x',Go C x x' s s'/\In C x' l s'.heap/\AK C x' s' (bif t then a (.bool t) x'.σ else b (.bool t) x'.σ) Q E) E' s:=by
 have br:∀{w:W} {σ:List O},f l x.σ= .ok w σ->∃t,truth w=some t/\w= .bool t/\AK C x s (bif t then a (.bool t) σ else b (.bool t) σ) Q E:=λ{w σ} h=> by
  rw [h] at o;have o:AK C x s (brS n (truth w) (a w σ) (b w σ)) Q E:=o;generalize ht:truth w=x9;induction x9 using oC with
  |none=> rw [ht] at o;exact o.elim
  |some t=> rw [ht] at o;cases GQ ht;clear h ht;cases t <;> exact ⟨_,rfl,rfl,o⟩
 refine Bw.mono (Js D (E:=E') i ?_) (λt s' h=> ?_) λυ υ e=> e
 ·generalize h:f l x.σ=x9;induction x9 using R.casesOn with
  |stuck n=> rw [h] at o;exact o
  |exc c fs σ=>
   rw [h] at o;exact AK.conv (r:= .exc c fs l σ) cv o
  |ok w σ=>
   obtain ⟨t,ht,_⟩:=br h;show Out C x l s C.Cj (A7 w σ) _ E';unfold A7;rw [ht];exact λυ υ υ υ υ υ υ=> trivial
 ·obtain ⟨x',w,h,ht,g,i'⟩:=h;obtain ⟨c,hc,rfl,o⟩:=br h;rw [ht] at hc;clear h ht;cases hc;exact ⟨x',g,i',AK.shift g o⟩
theorem WB {t:PySem.Expr} {f:SE} {a b:List Stmt} {g h:SS} {p:Pos} (D:BOk C t f) (D1:CU C a g) (D2:CU C b h):SOk C (.If t a b p) (Ex f g h):=by
 intro x l s Q E i o;refine Bw.If (Bw.mono (LM D (a:=λυ=> g l) (b:=λυ=> h l) Conv.refl i o) (λt s' hx=> ?_) λυ υ e=> e);obtain ⟨x',g',i',o'⟩:=hx;induction t using bC with
 |true=> exact D1 x' l s' Q E i' o'
 |false=> exact D2 x' l s' Q E i' o'
theorem U6 (O:C.Ok) {x:Wx} {l:LL} {s:Shared} (i:In C x l s.heap) {e:Value} {c:Nat} {fs:List W} (ex:Exc C x s.heap e c fs) {M:Model} {E E':VP}
  (q:∀x' s',x'.σ=x.σ->Go C x x' s s'->In C x' l s'.heap->Exc C x' s'.heap e c fs->E e s'):wpAny M C.A (noteFrame e C.env) (λυ s''=> cameBackBy M C.A C.env E e s'') E' s:=by
 obtain ⟨L,hL,hL'⟩:=O.fr;refine Ej O i ex hL (hL'.trans hL.symm) λx1 s1 z1 g1 i1 e1=> ?_
 unfold cameBackBy;have e1':=e1;clear ex;obtain ⟨a,oe,vs,d,es,n,rfl,he,hcls,hd,hsz,hdict,hfz,hrel,hb,ho,t,oT,ts,h1,_⟩:=e1';refine wpAny_bind (wpAny_field he hd h1 ?_);rw [if_neg (by simp)];rw [hL'];exact Cd O i1 e1 (some L) λx2 s2 z2 g2 i2 e2=> q x2 s2 (z2.trans z1) (g1.trans g2) i2 ⟨_,e2,.inr (.inr ⟨L,hL,rfl⟩)⟩
theorem Hh (O:C.Ok) {Q:Flow->Shared->Prop} {E:VP}:Conv C E (notedBy C.M C.A C.env (λe s'=> (match (Except.error e:Result) with | .ok f=> Q f s' | .error e=> cameBackBy C.M C.A C.env E e s'))):=λυ υ υ υ υ υ i1 ex q=> U6 O i1 ex q
theorem Mr (t:SE) (b:SS) (n:Nat) (l:LL) (σ:List O):B5 t b (n + 1) l σ=(t l σ).toS l λw σ=> brS 95 (truth w) ((b l σ).then (B5 t b n)) (.next l σ):=rfl
theorem OT (O:C.Ok) {t:PySem.Expr} {f:SE} {b:List Stmt} {g:SS} {p:Pos} (D:BOk C t f) (D1:CU C b g):SOk C (.While t b [] p) (CB f g):=by
 intro x l s Q E i o;refine Bw.While (Bw.whileLoop (λn s'=>∃x' l',Go C x x' s s'/\In C x' l' s'.heap/\AK C x' s' (B5 f g n l' x'.σ) Q E) (λn s' hI=> ?_) fuel ⟨x,l,.refl ..,i,o⟩);obtain ⟨x',l',g',i',o'⟩:=hI;induction n with
 |zero=> exact o'.elim
 |succ n=>
  rw [Mr] at o';refine Bw.mono (LM D (Hh (Q:=Q) O) (a:=λυ σ=> (g l' σ).then (B5 f g n)) (b:=λυ σ=> .next l' σ) i' o') (λbl s2 hx=> ?_) λυ υ e=> e
  obtain ⟨x2,g2,i2,o2⟩:=hx;induction bl using bC with
  |false=> exact Bw.of (wpAny_execs_nil (o2 s2 x2 rfl (.refl ..) i2))
  |true=>
   rw [if_pos rfl];refine Bw.mono (MD (Hh (Q:=Q) O) D1 i2 (k:=B5 f g n) o2) (λfl s3 h=> ?_) λυ υ e=> e
   cases fl with
   |next=>
    obtain ⟨x3,l3,g3,i3,o3⟩:=h;exact ⟨n,Nat.lt_succ_self _,x3,l3,g'.trans (g2.trans g3),i3,o3⟩
   |ret v=> exact h
   |_=> exact h.elim
end
section
variable {T:Tb} {F:Ad} {μ:Mu}
theorem Af.put {w:W} {v:Value} (rv:Rel T F μ w v) {fs:List W} {as:List Nat} {es:List DictEntry} {j:Nat} (q:Af T F μ fs as es):Af T F μ (AR.put fs j w) as (es.modify j λe=> {e with val:=v}):=by
 induction fs generalizing as es j with
 |nil=> cases (show es= [] from q);clear q;cases j <;> rfl
 |cons y r ih=>
  obtain ⟨a,as',e,es',t,rfl,rfl,k,r',q⟩:=q;induction j with
  |zero=> exact ⟨a,as',_,es',t,rfl,rfl,k,rv,q⟩
  |succ j=> exact ⟨a,as',e,_,t,rfl,rfl,k,r',ih q⟩
theorem Af.snoc {w:W} {e:DictEntry} {t:Tok} {a:Nat} (N:CV T) (k:e.key= .str (T.nm a) t) (rv:Rel T F μ w e.val) {fs:List W} {as:List Nat} {es:List DictEntry} (q:Af T F μ fs as es) (lt:∀b ∈ as,b < T.cnt) (nd:as.Nodup) (hx:as[fs.length]? =some a):
  es.findIdx? (·.key.isStr (T.nm a))=none/\Af T F μ (fs ++ [w]) as (es ++ [e]):=by
 induction fs generalizing as es with
 |nil=>
  cases (show es= [] from q);induction as using lC with
  |nil=> exact nn hx
  |cons b as=> clear lt nd q;cases hx;exact ⟨rfl,a,as,e,[],t,rfl,rfl,k,rv,rfl⟩
 |cons y r ih=>
  obtain ⟨b,as',e',es',t',rfl,rfl,k',r',q⟩:=q;have hx:as'[r.length]? =some a:=hx;obtain ⟨h1,h2⟩:=ih q (λc hc=> lt c (.tail _ hc)) (List.nodup_cons.mp nd).2 hx;have ma:a ∈ as':=List.mem_of_getElem? hx;have:(e'.key.isStr (T.nm a))=false:=by
   rw [k',D0,N.is (lt a (.tail _ ma)) (lt b (.head _))];exact decide_eq_false λz=> (List.nodup_cons.mp nd).1 (z▸ma)
  exact ⟨by rw [List.findIdx?_cons,this,h1];rfl,b,as',e',_,t',rfl,rfl,k',r',h2⟩
theorem Af.keys {fs:List W} {as:List Nat} {es:List DictEntry} (q:Af T F μ fs as es):es.length=fs.length/\fs.length <= as.length/\∀e ∈ es,e.refKey=false:=by
 induction fs generalizing as es with
 |nil=> cases (show es= [] from q);exact ⟨rfl,Nat.zero_le _,λυ m=> (nomatch m)⟩
 |cons y r ih=>
  obtain ⟨b,as',e',es',t',rfl,rfl,k',r',q⟩:=q;obtain ⟨h1,h2,h3⟩:=ih q;refine ⟨congrArg Nat.succ h1,Nat.succ_le_succ h2,λe m=> ?_⟩;clear q r';rcases mCo m with rfl |m
  ·simp [DictEntry.refKey,k']
  ·exact h3 e m
end
def HF (T:Tb) (alts:NN) (a:Nat):Prop:=∀q ∈ alts,∃k,T.cls q.1=some k/\k.kind ≠ 2/\k.fields[q.2]? =some a
section
variable {C:Cx} {x:Wx} {l:LL} {s:Shared} {Q:Unit->Shared->Prop} {E:VP}
theorem OY {fs fs':List W} {j:Nat} {y:W} (e:putAt fs j y=some fs'):(j < fs.length/\fs' =put fs j y)\/(j=fs.length/\fs' =fs ++ [y]):=by
 unfold putAt at e;generalize h:Nat.blt j fs.length=x9;induction x9 using bC with
 |true=> rw [h] at e;exact .inl ⟨lBl h,(sIj e).symm⟩
 |false=> rw [h] at e;obtain ⟨h1,h2⟩:=AJ e;exact .inr ⟨eBq h1,(sIj h2).symm⟩
theorem J3 {T:Tb} {F:Ad} {μ:Mu} (N:CV T) {k:Cls} {fs fs':List W} {es:List DictEntry} {j a n:Nat} {y:W} {v:Value} {hs:Int} {t:Tok} (lt:∀b ∈ k.fields,b < T.cnt) (nd:k.fields.Nodup) (rf:Af T F μ fs k.fields es) (hj:k.fields[j]? =some a) (rv:Rel T F μ y v) (e:putAt fs j y=some fs'):
  ∃es' n',Obj.putName (T.nm a) hs (.str (T.nm a) t) v (AM es n)=AM es' n'/\Af T F μ fs' k.fields es':=by
 have sh:Obj.putName (T.nm a) hs (.str (T.nm a) t) v (AM es n)=Obj.putNameByArray (T.nm a) hs (.str (T.nm a) t) v (AM es n):=by rw [Obj.putName_eq]
 rw [sh];unfold Obj.putNameByArray AM;dsimp only;rw [List.findIdx?_toArray];rcases OY e with ⟨h,rfl⟩ |⟨rfl,rfl⟩
 ·obtain ⟨z,hz⟩:∃z,nth fs j=some z:=⟨_,by rewrite [AL];exact List.getElem?_eq_getElem h⟩;obtain ⟨b,en,g1,_,g2,_⟩:=rf.find N lt nd hz;rw [hj] at g1;cases g1;rw [g2];exact ⟨es.modify j (λe=> {e with val:=v}),n,by simp,rf.put rv⟩
 ·obtain ⟨g1,g2⟩:=rf.snoc (e:=⟨hs,.str (T.nm a) t,v⟩) N rfl rv lt nd hj;rw [g1];exact ⟨es ++ [⟨hs,.str (T.nm a) t,v⟩],n + 1,by simp,g2⟩
theorem Kp (B:C.toBase.Ok) (ok:C.Ok) (i:In C x l s.heap) {va v:Value} {w y:W} {a:Nat} {alts:NN} {σ':List O} (al:HF C.T alts a) (r:C.rel x s.heap va w) (rv:C.rel x s.heap v y) (e:AR.setAttr x.σ w alts y=some σ')
  (q:∀s' x',x'.σ=σ'->Go C x x' s s'->In C x' l s'.heap->Q () s'):wpAny C.M C.A (PySem.setAttr va (C.T.nm a) v) Q E s:=by
 obtain ⟨j,e1,e2⟩:=AA e;obtain ⟨o,ho,e4⟩:=AA e2;obtain ⟨⟨c,fs⟩,e5,e6⟩:=AA e4;obtain ⟨jj,e7,e8⟩:=AA e6;obtain ⟨fs',e9,e10⟩:=AA e8;cases Eg e1;cases Hk e5;clear e1 e2 e4 e5 e6 e8;cases e10;cases r.1;obtain ⟨es,n,h1,h2,rf⟩:=i.wd.own j _ ho;obtain ⟨k,hk,hkd,ha⟩:=al _ (AY e7);have K:=B.cls c k hk;obtain ⟨cd,hcd,hdict⟩:=K.cd;have cf:AH C.T c=k.fields:=by unfold AH;rw [hk]
 have X:=i.KX B;have I:InstAt s.heap (x.μ j) (instObj c (x.δ j)) c (some (AM es n)):=⟨h1,rfl,rfl,h2⟩;have ht:takerIn C.KF c (C.T.nm a)=some none:=by unfold takerIn;rw [K.own a (List.mem_of_getElem? ha)];rfl
 refine set_plain X I K.sa ?_;refine osa_open (s:={s with toks:=s.toks + 1}) X I (K.over hkd) ht λb=> ?_
 refine wpAny_bind (wpAny_pure (wpAny_bind (wpAny_bind (wpAny_loadPart h1 (wpAny_bind ((looks_clsIn X hcd) _ _ _ _ (λυ υ e=> e) ?_))))));rw [hdict];refine wpAny_pure (a:=some (x.δ j)) (wpAny_bind (wpAny_pure (wpAny_bind ?_)));unfold nsSet;refine wpAny_bind (wpAny_bind (wpAny_askSetting (wpAny_pure (wpAny_bind (wpAny_mkText (wpAny_bind (wpAny_loadPart h2 ?_)))))));dsimp only [AM];have c0:(!es.toArray.any (·.key.isStr (C.T.nm a)) && es.toArray.any (·.refKey))=false:=by
  have:es.toArray.any (·.refKey)=false:=by
   rw [List.any_toArray,List.any_eq_false];intro e' he';rw [rf.keys.2.2 e' he'];simp
  rw [this,Bool.and_false]
 rw [aRefKeyMayBeTheName_at,c0];obtain ⟨es',n',hpn,rf'⟩:=J3 (hs:=PyData.keyHash C.w.params (C.T.nm a)) (t:=s.toks + 1) (n:=n) B.names K.lt K.nd (cf▸rf) ha rv e9;refine wpAny_updatePart h2 ?_;have hd':(s.heap.update (x.δ j) (Obj.putName (C.T.nm a) (PyData.keyHash C.w.params (C.T.nm a)) (.str (C.T.nm a) (s.toks + 1)) v)).get? (x.δ j)=some (AM es' n'):=hpn▸Heap.get?_update_self _ h2 (by rw [hpn];rfl);have other:∀b,b ≠ x.δ j->(s.heap.update (x.δ j) (Obj.putName (C.T.nm a) (PyData.keyHash C.w.params (C.T.nm a)) (.str (C.T.nm a) (s.toks + 1)) v)).get? b=s.heap.get? b:=λb hb=> Heap.get?_update_other _ _ (Ne.symm hb)
 have small:es'.length <= 100:=by rw [rf'.keys.1];exact Nat.le_trans rf'.keys.2.1 K.few
 refine wpAny_bind (wpAny_lookBehind hd' (pastItsLine_dict (by rw [List.size_toArray,sizeLine_eq];lia)) ?_);have ne:=i.wd.self j c fs ho;have kp:∀b o,s.heap.get? b=some o->b ∉ O.ad (.inst c fs) (x.μ j) (x.δ j)->(s.heap.update (x.δ j) (Obj.putName (C.T.nm a) (PyData.keyHash C.w.params (C.T.nm a)) (.str (C.T.nm a) (s.toks + 1)) v)).get? b=some o:=λb o e nm=> (other b λz=> nm (z▸ .tail _ (.head _))).trans e
 refine wpAny_pure (q {s with heap:=(s.heap.update (x.δ j) (Obj.putName (C.T.nm a) (PyData.keyHash C.w.params (C.T.nm a)) (.str (C.T.nm a) (s.toks + 1)) v)),toks:=s.toks + 1 + 1} (x.set j (.inst c fs')) rfl (Go.set i ho rfl kp (C7 other hd')) (i.set ok ho rfl kp (QH other hd') (λfz=> ?_) λυ υ υ=> ne));exact ⟨es',n',(other _ ne).trans h1,hd',cf▸(rf'.mono fz (Mu.le_refl _))⟩
def KV (R:W->Value->Prop):List (List Nat × W)->List (Str × Value)->Prop
 | [],a=> a= []
 |q::r,a=>∃v a',a=(⟨q.1.toArray⟩,v)::a'/\q.1.length <= LIM/\R q.2 v/\KV R r a'
theorem str_inj {a b:List Nat} (e:(⟨a.toArray⟩:Str)=⟨b.toArray⟩):a=b:=by simpa using e
section
variable {R:W->Value->Prop}
theorem KV.keys {b:List (List Nat × W)} {a:List (Str × Value)} (q:KV R b a):a.map (·.1)=b.map λp=> (⟨p.1.toArray⟩:Str):=by
 induction b generalizing a with
 |nil=> cases (show a= [] from q);rfl
 |cons p r ih=> obtain ⟨v,a',rfl,_,_,q⟩:=q;rw [List.map_cons,List.map_cons,ih q]
theorem KV.nodup {b:List (List Nat × W)} {a:List (Str × Value)} (q:KV R b a) (n:(b.map (·.1)).Nodup):(a.map (·.1)).Nodup:=by
 rw [q.keys];have:b.map (λp=> (⟨p.1.toArray⟩:Str))=(b.map (·.1)).map λk=> ⟨k.toArray⟩:=by rw [List.map_map];rfl
 rw [this];exact List.Pairwise.map _ (λx y h e=> h (str_inj e)) n
theorem Pj {α:Type} (p:List Nat × α) (r:List (List Nat × α)) (k:List Nat) (x:α):EA (p::r) k x=if p.1=k then (p.1,x)::r else p::EA r k x:=by
 show Bool.rec (motive:=λυ=> List (List Nat × α)) (p::EA r k x) ((p.1,x)::r) (A9 p.1 k)=_;rw [DD];by_cases h:p.1=k
 ·rw [decide_eq_true h,if_pos h]
 ·rw [decide_eq_false h,if_neg h]
theorem KV.same {b:List (List Nat × W)} {a:List (Str × Value)} {k:List Nat} {v:Value} (q:KV R b a) (n:k ∉ b.map (·.1)):a.map (λkv=> if kv.1=(⟨k.toArray⟩:Str) then (kv.1,v) else kv)=a:=by
 induction b generalizing a with
 |nil=> cases (show a= [] from q);rfl
 |cons p r ih=>
  obtain ⟨v,a',rfl,_,_,q⟩:=q;rw [List.map_cons,if_neg λe=> n (by rw [<- str_inj e];exact .head _),ih q λh=> n (.tail _ h)]
theorem KV.put {v:Value} {x:W} {k:List Nat} (hk:k.length <= LIM) (r:R x v) {b:List (List Nat × W)} {a:List (Str × Value)} (q:KV R b a) (n:(b.map (·.1)).Nodup):
  KV R (EA b k x) (stored a ⟨k.toArray⟩ v)/\(EA b k x).length <= b.length + 1/\((EA b k x).map (·.1)).Nodup/\(∀q ∈ (EA b k x).map (·.1),q=k\/q ∈ b.map (·.1)):=by
 induction b generalizing a with
 |nil=> cases (show a= [] from q);exact ⟨⟨v,[],rfl,hk,r,rfl⟩,Nat.le_refl _,by simp [EA],by simp [EA]⟩
 |cons p b ih=>
  clear hk;obtain ⟨v',a',rfl,hk',r',q⟩:=q;have n:=List.nodup_cons.mp (show (p.1::b.map (·.1)).Nodup from n);rw [Pj];by_cases h:p.1=k
  ·rw [if_pos h];clear ih;subst h;refine ⟨?_,Nat.le_succ _,List.nodup_cons.mpr n,λq hq=> .inr hq⟩;unfold stored;rw [if_pos (by rw [List.any_cons];simp),List.map_cons,if_pos rfl,q.same n.1];exact ⟨v,a',rfl,hk',r,q⟩
  ·rw [if_neg h];obtain ⟨i1,i2,i3,i4⟩:=ih q n.2;refine ⟨?_,Nat.succ_le_succ i2,List.nodup_cons.mpr ⟨λhm=> (i4 _ hm).elim h n.1,i3⟩,λy hy=> ?_⟩
   ·have hne:¬ ((⟨p.1.toArray⟩:Str)=⟨k.toArray⟩):=λe=> h (str_inj e)
    have:stored ((⟨p.1.toArray⟩,v')::a') (⟨k.toArray⟩:Str) v=(⟨p.1.toArray⟩,v')::stored a' ⟨k.toArray⟩ v:=by
     unfold stored;rw [List.any_cons];simp only [hne,decide_false,Bool.false_or]
     split
     ·rw [List.map_cons,if_neg hne]
     ·rfl
    rw [this];exact ⟨v',_,rfl,hk',r',i1⟩
   ·clear ih q;rcases mCo hy with rfl |hy
    ·exact .inr (.head _)
    ·exact (i4 _ hy).imp id (.tail _)
theorem B2.kv {prog:Program} {w:World} {d:List (List Nat × W)} {es:List DictEntry} (q:B2 R w.params d es):∃kvs,Pairs (strKind prog w) es kvs/\KV R d kvs:=by
 induction d generalizing es with
 |nil=> cases (show es= [] from q);exact ⟨[],.nil,rfl⟩
 |cons p r ih=>
  obtain ⟨e,es',t,rfl,h1,h2,h3,h4,q⟩:=q;obtain ⟨kvs,p',c⟩:=ih q;exact ⟨_,.cons (kv:=(⟨p.1.toArray⟩,_)) (by rw [h1];exact strKind_is prog w _ _) rfl p',_,_,rfl,h3,h4,c⟩
theorem KV.Y2 {prog:Program} {w:World} {d:List (List Nat × W)} {es:List DictEntry} {kvs:List (Str × Value)} (p:Pairs (strKind prog w) es kvs) (hk:∀e ∈ es,∃k,(strKind prog w).is k e.key=true/\e.hash=(strKind prog w).hash k) (q:KV R d kvs):B2 R w.params d es:=by
 induction d generalizing es kvs with
 |nil=> cases (show kvs= [] from q);clear hk q;cases p;rfl
 |cons c r ih=>
  obtain ⟨v,a',rfl,h1,h2,q⟩:=q;cases p with
  |cons g1 g2 p=>
   obtain ⟨t,ht⟩:=Value.isStrOf_shape g1;obtain ⟨k',e1,e2⟩:=hk _ (.head _);have:=(strKind prog w).inj _ _ _ e1 g1;clear e1;subst this;exact ⟨_,_,t,rfl,ht,e2,h1,g2▸h2,ih p (λe he=> hk e (.tail _ he)) q⟩
end
theorem Im {o:AN} {es:Array DictEntry} {ep:Nat} (x:o.ExactDict) (d:o.data= .dict es ep):o=AM es.toList ep:=by
 obtain ⟨c,di,dt,sl⟩:=o;obtain ⟨h1,h2,h3⟩:=x;simp only at h1 h2 h3 d;subst h1 h2 h3 d;simp [AM]
theorem Ii (vs:List Value) (n j:Nat) (v:Value):Obj.mapSeq (·.setIfInBounds j v) (AI vs n)=AI (vs.set j v) n:=by
 unfold AI Obj.mapSeq;simp
theorem MZ {prog:Program} {w:World} {A:Around} {a:Addr} {vs:List Value} {n j:Nat} {k:Int} {t:Tok} {v:Value} (hk:(j:Int)=k) (ho:s.heap.get? a=some (AI vs n)) (hj:j < vs.length) (hf:vs.length <= LIM)
  (q:∀h',Heap.SameBut a s.heap h'->h'.get? a=some (AI (vs.set j v) n)->Q () {s with heap:=h'}):
  wpAny (model prog w) A (setItem (.ref a) (.int k t) v) Q E s:=by
 have hl:s.heap.IsList a vs.toArray:=⟨_,ho,rfl,_,rfl⟩;have hd:(AI vs n).data= .seq vs.toArray n:=rfl;have hf:k < 2 ^ 63:=by unfold LIM at hf;lia
 unfold setItem
 try with_reducible refine wpAny_holding ?_
 first |refine wpAny_bind (wpAny_pure ?_) |skip
 refine wpAny_bind (wpAny_sequenceKey hl.typeIs (by decide) ?_);refine wpAny_bind (wpAny_callSpecial?_slot (name:=Str.ofString "__setitem__") hl.typeIs slot_list_setitem
  (wpAny_call_entry slot_list_setitem hl.typeIs entry_list_setitem ?_ (args_list_setitem _ _ _)))
 show wpAny _ _ (Builtin.List.listSubscript? (.int k t) >>=_) _ _ s;refine wpAny_bind (wpAny_listSubscript_int (fitsIndex_of (hk▸Int.natCast_nonneg j) hf) ?_);clear hf;subst hk;have hx':vs.toArray[j]? =some vs[j]:=by simp [hj]
 show wpAny _ _ ((seqItemAt a j >>=λr=> pure (r.map (j,·))) >>=_) _ _ s;refine wpAny_bind (wpAny_bind (wpAny_seqItemAt ho hd (wpAny_pure ?_)));rw [hx'];show wpAny _ _ (setSeqItemAt a j v >>=_) _ _ s;have hfin:(s.heap.update a (Obj.mapSeq (·.setIfInBounds j v))).get? a=some (AI (vs.set j v) n):=by
  rw [<- Ii];exact Heap.get?_update_self _ ho (by rw [Ii];rfl)
 refine wpAny_bind (wpAny_setSeqItemAt ho hd ?_)
 first
  |exact wpAny_bind (wpAny_pure (wpAny_pure ⟨.none,rfl,wpAny_pure (q _ (Heap.SameBut.update ..) hfin)⟩))
  |exact wpAny_pure ⟨.none,rfl,wpAny_pure (q _ (Heap.SameBut.update ..) hfin)⟩
theorem In.Ft (ok:C.Ok) (i:In C x l s.heap) {k:Nat} {o o':O} {h':Heap} {tk:Nat} (ho:nth x.σ k=some o) (ad:O.ad o (x.μ k) (x.δ k)= [x.μ k]) (ad':O.ad o' (x.μ k) (x.δ k)= [x.μ k]) (hs:Heap.SameBut (x.μ k) s.heap h') {o₂:AN} (hl:h'.get? (x.μ k)=some o₂)
  (at':(∀a y,Fz s.heap x.bad a y->Fz h' x.bad a y)->CO C.T h' (Fz h' x.bad) x.mu (x.μ k) (x.δ k) o'):Go C x (x.set k o') s {s with heap:=h',toks:=tk}/\In C (x.set k o') l h':=by
 have kp:∀b y,s.heap.get? b=some y->b ∉ O.ad o (x.μ k) (x.δ k)->h'.get? b=some y:=λb y e nm=> (hs.2 b λz=> nm (by rw [ad,z];exact .head _)).trans e
 refine ⟨Go.set i ho (ad'.trans ad.symm) kp (C7 hs.2 hl),i.set ok ho (ad'.trans ad.symm) kp (QH hs.2 hl) at' λc fs e=> ?_⟩;clear at';subst e;exact nomatch (List.cons.inj ad').2
theorem Kk (ok:C.Ok) (i:In C x l s.heap) (B:C.toBase.Ok) {k:Nat} {d:List (List Nat × W)} {kk:List Nat} {t:Tok} {v:Value} {y:W} (ho:nth x.σ k=some (.dict d)) (hz:d.length <= 100000) (hk:kk.length <= LIM) (r:C.rel x s.heap v y)
  (q:∀s' x',x'.σ=put x.σ k (.dict (EA d kk y))->Go C x x' s s'->In C x' l s'.heap->Q () s'):wpAny C.M C.A (setItem (.ref (x.μ k)) (.str ⟨kk.toArray⟩ t) v) Q E s:=by
 obtain ⟨es,n,h1,h2,h3,h4,hn⟩:=i.wd.own k _ ho;have rd:B2 (Rel C.T (Fz s.heap x.bad) x.mu) C.w.params d es:=B.p▸h2;obtain ⟨kvs,p,c⟩:=rd.kv (prog:=C.prog);obtain ⟨c1,c2,c3,_⟩:=c.put hk r hn;have len:kvs.length=d.length:=by have:=congrArg List.length c.keys;simpa using this
 have D:s.heap.DictOf (strKind C.prog C.w) (x.μ k) kvs:=⟨_,es.toArray,n,h1,⟨rfl,rfl,rfl⟩,rfl,λu hu=> rd.Ih (by simpa using hu),by simpa using p,c.nodup hn⟩;refine wpAny_setItem_pairs (strKind_is C.prog C.w _ t) D (λh' hd hs=> ?_) (by rw [len,sizeLine_eq];lia);obtain ⟨o,es',ep,e1,e2,e3,e4,e5,e6⟩:=hd;have g1:h'.get? (x.μ k)=some (AM es'.toList ep):=by rw [e1,Im e2 e3]
 have rd':=KV.Y2 (prog:=C.prog) e5 (λe he=> e4 e (Array.mem_toList_iff.mp he)) c1;obtain ⟨a1,a2⟩:=i.Ft ok (tk:=s.toks + 1) ho rfl (o':= .dict (EA d kk y)) rfl hs g1 λfz=> ⟨_,ep,g1,B.p▸rd'.mono λυ υ y=> y.mono fz (Mu.le_refl _),by unfold LIM;lia,h4,c3⟩
 exact q _ _ rfl a1 a2
theorem MY (B:C.toBase.Ok) (ok:C.Ok) (i:In C x l s.heap) {va vi v:Value} {w y j:W} {σ':List O} (r:C.rel x s.heap va w) (rj:C.rel x s.heap vi j) (rv:C.rel x s.heap v y) (e:AR.Qm x.σ w j y=some σ')
  (q:∀s' x',x'.σ=σ'->Go C x x' s s'->In C x' l s'.heap->Q () s'):wpAny C.M C.A (PySem.setItem va vi v) Q E s:=by
 obtain ⟨k,e1,e2⟩:=AA e;obtain ⟨o,ho,e4⟩:=AA e2;cases Eg e1;cases r.1;rcases AX e4 with e |e
 ·obtain ⟨ws,e5,e6⟩:=AA e;obtain ⟨n,e7,e8⟩:=AA e6;obtain ⟨m,e9,e10⟩:=AA e8;obtain ⟨hm,e11⟩:=AJ e10;cases Bj e5;cases A8 e7;cases CC e9;clear e e1 e10 e2 e4 e5 e6 e7 e8 e9 r;cases e11;clear e;obtain ⟨u,rfl⟩:=rj;obtain ⟨vs,n,h1,h2,h3⟩:=i.wd.own k _ ho;have hm:=lBl hm;refine MZ rfl h1 (by rw [h2.length];exact hm) (by rw [h2.length];exact h3) λh' sb g1=> ?_
  obtain ⟨a1,a2⟩:=i.Ft ok (tk:=s.toks) ho rfl (o':= .list (put ws m y)) rfl sb g1 λfz=> ⟨_,n,g1,AD.mono fz (Mu.le_refl _) (h2.put rv),by rw [Fg];exact h3⟩
  exact q _ _ rfl a1 a2
 ·obtain ⟨d,e5,e6⟩:=AA e;obtain ⟨kk,e7,e8⟩:=AA e6;obtain ⟨hz,e9⟩:=AJ e8;cases Le e5;cases Au e7;clear e e1 e2 e4 e5 e6 e7 e8 r;cases e9;clear e;obtain ⟨u,rfl,hk⟩:=rj;exact Kk ok i B ho (lBl hz) hk rv q
end
section
variable {C:Cx}
def TOk (C:Cx) (t:PySem.Expr) (g:ST):Prop:=∀{x:Wx} {l:LL} {s:Shared} {v:Value} {w:W} {Q:Flow->Shared->Prop} {E:VP},In C x l s.heap->C.rel x s.heap v w->AK C x s (g w l x.σ) Q E->wpB C.M C.A (assign t C.env v) (λυ s'=> Q .next s') E s
theorem UM (O:C.Ok) {k n:Nat} {tp:Pos} (hk:nth C.ns k=some (some n)) (mn:AR C (C.T.nm n)):TOk C (.Name (C.T.nm n) tp) (Bk k):=λ{x l s v w Q E} i r o=> by
 rw [arm_assign_Name];exact Bw.of (wpAny_bind (wpAny_standAt (wpAny_bindName (Ek O i hk mn r λs' g' i'=> o s' x rfl g' i'))))
theorem Px {x:Wx} {l:LL} {s:Shared} {n:Nat} {z:Option (List O)} {Q:Flow->Shared->Prop} {E:VP} (o:AK C x s (kS n l z) Q E):∃σ',z=some σ'/\AK C x s (.next l σ') Q E:=by
 induction z using oC with
 |none=> exact o.elim
 |some σ' => exact ⟨σ',rfl,o⟩
theorem YA (B:C.toBase.Ok) (O:C.Ok) {e:PySem.Expr} {f:SE} {a:Nat} {alts:NN} {p:Pos} (al:HF C.T alts a) (D:EOk C e f):TOk C (.Attribute e (C.T.nm a) p) (UQ f alts):=λ{x l s v w Q E} i r o=> by
 rw [arm_assign_Attribute];refine Bw.bind (Bw.holding (Bw.mono (D.Ew i o) (λov s1 h=> Bw.bind (Bw.standAt (Bw.bind (Bw.holding ?_)))) λυ υ e=> e));obtain ⟨x1,wo,g1,i1,r1,o1⟩:=h;obtain ⟨σ',h,o1⟩:=Px o1;exact Bw.of (Kp B O i1 al r1 (Aq i g1 r) h λs' x' e g i'=> Bw.of (wpAny_release (o1 s' x' e g i')))
theorem bI (B:C.toBase.Ok) (O:C.Ok) {e j:PySem.Expr} {f g:SE} {p:Pos} (D:EOk C e f) (D':EOk C j g):TOk C (.Subscript e j p) (W3 f g):=λ{x l s v w Q E} i r o=> by
 rw [arm_assign_Subscript];refine Bw.bind (Bw.holding (Bw.mono (D.Ew i o) (λov s1 h=> ?_) λυ υ e=> e));obtain ⟨x1,wo,g1,i1,r1,o1⟩:=h;refine Bw.bind (Bw.holding (Bw.mono (D'.Ew i1 o1) (λiv s2 h=> ?_) λυ υ e=> e));obtain ⟨x2,wi,g2,i2,r2,o2⟩:=h;obtain ⟨σ',h,o2⟩:=Px o2;exact Bw.bind (Bw.standAt (Bw.bind (Bw.holding (Bw.of (MY B O i2 (Aq i1 g2 r1) r2 (Aq i1 g2 (Aq i g1 r)) h λs' x' e g i'=> Bw.of (wpAny_release (o2 s' x' e g i')))))))
theorem AK.thn {x:Wx} {s:Shared} {r:RS} {k:SS} {Q:Flow->Shared->Prop} {E:VP} (o:AK C x s (r.then k) Q E):
  AK C x s r (λfl s'=> match fl with | .next=>∃x' l',Go C x x' s s'/\In C x' l' s'.heap/\AK C x' s' (k l' x'.σ) Q E |_=> True) E:=by
 induction r using RS.casesOn with
 |stuck n=> exact o
 |next l' σ=> intro s' x' e g i';subst e;exact ⟨x',l',g,i',AK.shift (r:=k l' x'.σ) g o⟩
 |ret w σ=> exact λυ υ υ υ υ υ υ υ=> trivial
 |exc c fs l' σ=> exact o
theorem TOk.thn {t:PySem.Expr} {g:ST} (D:TOk C t g) {x:Wx} {l:LL} {s:Shared} {v:Value} {w:W} {k:SS} {Q:Flow->Shared->Prop} {E:VP} (i:In C x l s.heap) (r:C.rel x s.heap v w) (o:AK C x s ((g w l x.σ).then k) Q E):
  wpB C.M C.A (assign t C.env v) (λυ s'=>∃x' l',Go C x x' s s'/\In C x' l' s'.heap/\AK C x' s' (k l' x'.σ) Q E) E s:=D i r (AK.thn o)
structure Target (t:PySem.Expr):Prop where
 none:∀value env,swappedStores [t] value env=pure .none
 each:∀r env,assignEach (t::r) env=(false,assign t env)::assignEach r env
theorem target (T:Tb) (t:AR.T):Target (GI T t):=by cases t <;> exact ⟨λυ υ=> rfl,λυ υ=> rfl⟩
theorem TJ {t e:PySem.Expr} {g:ST} {f:SE} {p:Pos} (S:Target t) (D:EOk C e f) (hc:Ee e) (D':TOk C t g):SOk C (.Assign [t] e p) (EX g f):=by
 intro x l s Q E i o;rw [arm_exec_Assign];refine Bw.bind (Bw.standAt ?_);show wpB _ _ (swapsWith e (some t) p.line C.env >>=_) _ _ _;rw [hc];refine Bw.bind (Bw.pure (Bw.bind (Bw.mono (D.Ew i o) (λv s1 h=> ?_) λυ υ e=> e)));obtain ⟨x1,w,g1,i1,r1,o1⟩:=h;rw [S.none,S.each];refine Bw.bind (Bw.pure ?_);show wpB _ _ (assign t C.env v >>=_) _ _ _;exact Bw.bind (Bw.mono (D' i1 r1 o1) (λυ s' q=> Bw.pure q) λυ υ e=> e)
def FW (C:Cx):List PySem.Expr->List ST->Prop
 | [],gs=> gs= []
 |t::ts,gs=>∃g gs',gs=g::gs'/\TOk C t g/\Target t/\FW C ts gs'
theorem FW.length {ts:List PySem.Expr} {gs:List ST} (D:FW C ts gs):gs.length=ts.length:=by
 induction ts generalizing gs with
 |nil=> cases (show gs= [] from D);rfl
 |cons t ts ih=> obtain ⟨g,gs',rfl,_,_,D⟩:=D;exact congrArg Nat.succ (ih D)
theorem LV {ts:List PySem.Expr} {gs:List ST} (D:FW C ts gs) {env:Env}:(assignEach ts env).length=ts.length/\(assignEach ts env).findIdx? (·.1)=none:=by
 induction ts generalizing gs with
 |nil=> exact ⟨rfl,rfl⟩
 |cons t ts ih=>
  obtain ⟨g,gs',rfl,_,S,D⟩:=D;rw [S.each];exact ⟨congrArg Nat.succ (ih D).1,by rw [List.findIdx?_cons,(ih D).2];rfl⟩
theorem Jy {ts:List PySem.Expr} {gs:List ST} (D:FW C ts gs) {x:Wx} {l:LL} {s:Shared} {vs:List Value} {ws:List W} {Q:Flow->Shared->Prop} {E:VP} (i:In C x l s.heap) (r:C.BF x s.heap vs ws) (o:AK C x s (Fh gs ws l x.σ) Q E):
  wpB C.M C.A (assignInOrder ((assignEach ts C.env).map (·.2)) vs) (λυ s'=> Q .next s') E s:=by
 induction ts generalizing gs x l s vs ws with
 |nil=>
  cases (show gs= [] from D);induction ws using lC with
  |nil=> cases (show vs= [] from r);exact Bw.pure (o s x rfl (.refl ..) i)
  |cons=> exact o.elim
 |cons t ts ih=>
  obtain ⟨g,gs',rfl,d,S,D⟩:=D;induction ws using lC with
  |nil=> exact o.elim
  |cons w ws=>
   obtain ⟨v,us,rfl,r1,r2⟩:=r;rw [S.each];show wpB _ _ (holding us (assign t C.env v) >>=λυ=> assignInOrder _ us) _ _ _;refine Bw.bind (Bw.holding (Bw.mono (d.thn i r1 (k:=Fh gs' ws) o) (λυ s' h=> ?_) λυ υ e=> e));obtain ⟨x',l',g',i',o'⟩:=h;exact ih D i' (CX i g' r2) o'
theorem Py {n:Nat} {w:W} {ws:List W} (e:RZ n w=some ws):w= .tup ws/\ws.length=n:=by
 obtain ⟨a,e1,e2⟩:=AA e;obtain ⟨h,e2⟩:=AJ e2;cases e2;exact ⟨Dm e1,eBq h⟩
theorem E3 (oc:C.Ok) (hh:C.A.handled=none) {x:Wx} {l:LL} {s:Shared} {v:Value} {ws:List W} {n:Nat} {Q:List Value->Shared->Prop} {E:VP} (i:In C x l s.heap) (r:C.rel x s.heap v (.tup ws)) (hn:ws.length=n)
  (q:∀vs s',Go C x x s s'->In C x l s'.heap->C.BF x s'.heap vs ws->Q vs s'):wpAny C.M C.A (unpackItems v n none) Q E s:=by
 obtain ⟨a,vs,m,rfl,f,hz,rs⟩:=r;have ht:IsTup s.heap a vs.toArray:=⟨_,f.1,rfl,_,rfl⟩;have hn':n=vs.toArray.size:=by rw [List.size_toArray,rs.length,hn]
 rw [hn'];refine unpackItems_tuple hh ht λh' he=> ?_
 have k:Keeps s.heap h':=λb o e=> he b o (Nat.ne_of_lt (Heap.lt_size e)) e
 exact q vs {s with heap:=h'} (.keeps k) (In.keeps oc i k) (CX i (Go.keeps (s':={s with heap:=h'}) k) rs)
end
theorem Sy {α:Type} (l:List α) {i j:Nat} (h:i ≠ j) (a b:α):put (put l i a) j b=put (put l j b) i a:=by
 rw [Cm,Cm,Cm,Cm];exact List.set_comm a b h
def fwd:List Nat->List W->LL->LL
 |k::ks,w::ws,l=> fwd ks ws (put l k (some w))
 |_,_,l=> l
theorem WD {k:Nat} {w:W} {ks:List Nat} {ws:List W} {l:LL} (h:k ∉ ks):fwd ks ws (put l k (some w))=put (fwd ks ws l) k (some w):=by
 induction ks generalizing ws l with
 |nil=> cases ws <;> rfl
 |cons j ks ih=>
  induction ws using lC with
  |nil=> rfl
  |cons u ws=>
   show fwd ks ws (put (put l k (some w)) j (some u))=put (fwd ks ws (put l j (some u))) k (some w);rw [Sy l (λz=> h (by rw [z];exact .head _)),ih λz=> h (.tail _ z)]
theorem PG {ks:List Nat} {ws:List W} {l:LL} {σ:List O} (h:ws.length=ks.length):Fh (ks.map Bk) ws l σ= .next (fwd ks ws l) σ:=by
 induction ks generalizing ws l with
 |nil=> induction ws using lC with
  |nil=> rfl
  |cons=> exact nomatch h
 |cons k ks ih=> induction ws using lC with
  |nil=> exact nomatch h
  |cons w ws=> exact ih (Nat.succ.inj h)
theorem KH {α β:Type} {f:α->Option β} {l:List α} (h:(l.filterMap f).length=l.length):∀a ∈ l,∃b,f a=some b:=by
 induction l with
 |nil=> exact λυ m=> nomatch m
 |cons x l ih=>
  rw [List.filterMap_cons] at h;generalize hx:f x=x9;induction x9 using oC with
  |none=>
   rw [hx] at h;have:=List.length_filterMap_le f l;have h:(l.filterMap f).length=l.length + 1:=h;lia
  |some b=>
   rw [hx] at h;intro a m;rcases mCo m with rfl |m
   ·exact ⟨b,hx⟩
   ·exact ih (Nat.succ.inj h) a m
def OV (C:Cx) (ks:List Nat) (ns:List Nat):Prop:=match ks,ns with
 |k::ks,n::ns=> nth C.ns k=some (some n)/\AR C (C.T.nm n)/\OV C ks ns
 | [],[]=> True
 |_,_=> False
section
variable {C:Cx}
theorem RT (O:C.Ok) {ks ns:List Nat} (L:OV C ks ns) (nd:ks.Nodup) {x:Wx} {l:LL} {s:Shared} {vs tv:List Value} {tt:List (Value->Sem Unit)} {ws:List W} {Q:Unit->Shared->Prop} {E:VP} (hl:ws.length=ks.length) (i:In C x l s.heap) (r:C.BF x s.heap vs ws)
  (q:∀s',Go C x x s s'->In C x (fwd ks ws l) s'.heap->wpB C.M C.A (assignInOrder tt tv) Q E s'):
  wpB C.M C.A (assignInOrder ((ns.map λn=> bindName C.env (C.T.nm n)).reverse ++ tt) (vs.reverse ++ tv)) Q E s:=by
 induction ks generalizing ns vs ws tt tv with
 |nil=>
  induction ns using lC with
  |nil=>
   induction ws using lC with
   |nil=> cases (show vs= [] from r);exact q s (.refl ..) i
   |cons=> exact nomatch hl
  |cons=> exact L.elim
 |cons k ks ih=>
  induction ns using lC with
  |nil=> exact L.elim
  |cons n ns=>
   induction ws using lC with
   |nil=> exact nomatch hl
   |cons w ws=>
    obtain ⟨v,us,rfl,r1,r2⟩:=r;obtain ⟨h1,h2,L⟩:=L;have nd:=List.nodup_cons.mp nd;rw [List.map_cons,List.reverse_cons,List.reverse_cons,List.append_assoc,List.append_assoc];refine ih L nd.2 (Nat.succ.inj hl) r2 λs' g i'=> ?_
    show wpB _ _ (PySem.holding tv (bindName C.env (C.T.nm n) v) >>=λυ=> assignInOrder tt tv) _ _ _;refine Bw.bind (Bw.holding (Bw.bindName (Bw.of (Ek O i' h1 h2 (Aq i g r1) λs2 g2 i2=> ?_))));exact q s2 (g.trans g2) (by rw [show fwd (k::ks) (w::ws) l=fwd ks ws (put l k (some w)) from rfl,WD nd.1];exact i2)
structure Nd (e:PySem.Expr):Prop where
 fold:∀vs k p,e= .Tuple vs k p->vs.all (constantsAlone 8)=true->vs.all (foldedForSure 8)=true
noncomputable def E4 (env:Env) (line:Nat) (t:PySem.Expr):Option Str:=match t with
 | .Name id pos=> if (env.kindOf id==some .local && pos.line==line)=true then some id else none
 |_=> none
theorem Oa {ts:List PySem.Expr} {k:Nat} {tp:Pos} {e:PySem.Expr} {env:Env} (N:Nd e):swappedStores [.Tuple ts k tp] e env=pure none\/
  ∃line,swappedStores [.Tuple ts k tp] e env=pure (some (ts.filterMap (E4 env line)))/\(ts.filterMap (E4 env line)).length=ts.length:=by
 cases e with
 |Tuple vs k' p=>
  have fold:=N.fold vs k' p rfl;generalize hl:(Option.map (λx:PySem.Expr=> x.pos.line) ts.head?).getD 0=line;have sh:swappedStores [.Tuple ts k tp] (.Tuple vs k' p) env=(if (!(ts.length==2 ||ts.length==3) ||vs.length !=ts.length ||env.blockKind !=ScopeKind.function)=true then pure none else
   if (vs.any λx=> match x with | .Starred .. => true |_=> false)=true then pure none else
   if ((ts.filterMap (E4 env line)).length !=ts.length ||(ts.filterMap (E4 env line)).eraseDups.length !=(ts.filterMap (E4 env line)).length)=true then pure none else
   if vs.all (foldedForSure 8)=true then pure none else
   if vs.all (constantsAlone 8)=true then (do unsupported "assign.tuple-of-constant-expressions:order-of-the-stores";pure (some (ts.filterMap (E4 env line)))) else pure (some (ts.filterMap (E4 env line)))):=by
   clear N;subst hl;rfl
  rw [sh]
  split
  ·exact .inl rfl
  split
  ·exact .inl rfl
  split
  ·exact .inl rfl
  rename_i _ _ h
  split
  ·exact .inl rfl
  rename_i h4
  rw [if_neg λz=> h4 (fold z)];refine .inr ⟨line,rfl, ?_⟩;have:=Bool.or_eq_false_iff.mp (Bool.eq_false_iff.mpr h);simpa using this.1
 |_=> exact .inl rfl
noncomputable def DO:List AR.T->Option (List Nat × List Nat)
 | []=> some ([],[])
 | .loc k n _::r=> (DO r).map λp=> (k::p.1,n::p.2)
 |_::_=> none
theorem Vg {ts:List AR.T} {env:Env} {line:Nat} (h:∀t ∈ Cv C.T ts,∃b,E4 env line t=some b):E13 (λp=> DO ts=some p) (λp=> p.1.length=ts.length) (λp=> (Cv C.T ts).filterMap (E4 env line)=p.2.map C.T.nm):=by
 induction ts with
 |nil=> exact ⟨_,rfl,rfl,rfl⟩
 |cons t ts ih=>
  obtain ⟨p,h1,h2,h3⟩:=ih λt m=> h t (.tail _ m)
  obtain ⟨b,hb⟩:=h _ (.head _);induction t using T.casesOn with
  |loc k n q=>
   have:b=C.T.nm n:=by
    unfold GI E4 at hb;dsimp only at hb
    split at hb
    ·exact (sIj hb).symm
    ·exact nn hb
   clear h;subst this;exact ⟨(k::p.1,n::p.2),by show Option.map _ (DO ts)=_;rw [h1];rfl,congrArg Nat.succ h2,by show List.filterMap _ (GI C.T (.loc k n q)::Cv C.T ts)=_;rw [List.filterMap_cons,hb,h3];rfl⟩
  |attr=> exact nn hb
  |idx=> exact nn hb
theorem Ol {Z:Sys} {ts:List AR.T} {p:List Nat × List Nat} (h:DO ts=some p):EE Z ts=p.1.map Bk:=by
 induction ts generalizing p with
 |nil=> cases h;rfl
 |cons t ts ih=>
  induction t using T.casesOn with
  |loc k n q=>
   obtain ⟨q,h1,rfl⟩:=Option.map_eq_some_iff.mp (show Option.map _ (DO ts)=some p from h);show _::EE Z ts=_;rw [ih h1];rfl
  |attr=> exact nn h
  |idx=> exact nn h
theorem NU (T:Tb) (ts:List AR.T):(Cv T ts).length=ts.length:=by
 induction ts with
 |nil=> rfl
 |cons t ts ih=> exact congrArg Nat.succ ih
theorem QD (O:C.Ok) (hh:C.A.handled=none) {ts:List AR.T} {e:PySem.Expr} {f:SE} {tp p:Pos} (D:EOk C e f) (hc:Ee e) (N:Nd e) (D':FW C (Cv C.T ts) (EE C.T.Z ts)) (L:∀p,DO ts=some p->OV C p.1 p.2/\p.1.Nodup):
  SOk C (.Assign [.Tuple (Cv C.T ts) 0 tp] e p) (KR (EE C.T.Z ts) f):=by
 intro x l s Q E i o;rw [arm_exec_Assign];refine Bw.bind (Bw.standAt ?_);show wpB _ _ (swapsWith e (some (.Tuple (Cv C.T ts) 0 tp)) p.line C.env >>=_) _ _ _;rw [hc];refine Bw.bind (Bw.pure (Bw.bind (Bw.mono (D.Ew i o) (λv s1 h=> ?_) λυ υ e=> e)));obtain ⟨x1,w,g1,i1,r1,o1⟩:=h;generalize hw:RZ (EE C.T.Z ts).length w=x9;induction x9 using oC with
 |none=> rw [hw] at o1;exact o1.elim
 |some ws=>
  rw [hw] at o1;have o1:AK C x1 s1 (Fh (EE C.T.Z ts) ws l x1.σ) Q E:=o1;obtain ⟨rfl,hn⟩:=Py hw;rw [D'.length] at hn;rcases Oa (ts:=Cv C.T ts) (k:=0) (tp:=tp) (env:=C.env) N with h |⟨line,h,h2⟩
  ·rw [h];refine Bw.bind (Bw.pure ?_);show wpB _ _ (assign (.Tuple (Cv C.T ts) 0 tp) C.env v >>=_) _ _ _;obtain ⟨e1,e2⟩:=LV D' (env:=C.env);rw [PyProof.Rows.assign_Tuple];refine Bw.bind (Bw.bind (Bw.standAt ?_));unfold unpack;rw [e1,e2];refine Bw.bind (Bw.holding (Bw.of (E3 O hh i1 r1 hn λvs s2 g2 i2 r2=> ?_)));exact Bw.mono (Jy D' i2 r2 (AK.shift g2 o1)) (λυ s' q=> Bw.pure q) λυ υ e=> e
  ·rw [h];obtain ⟨q,h3,h4,h5⟩:=Vg (C:=C) (KH h2);obtain ⟨L,nd⟩:=L q h3;refine Bw.bind (Bw.pure ?_);rw [h5];show wpB _ _ (rule _ >>=λυ=> unpackItems v (q.2.map C.T.nm).length none >>=λitems=> assignInOrder (((q.2.map C.T.nm).reverse.map λn=> bindName C.env n)) items.reverse >>=λυ=> pure Flow.next) _ _ _;refine Bw.bind (Bw.of (wpAny_rule (Bw.bind (Bw.of (E3 O hh i1 r1 ?_ λvs s2 g2 i2 r2=> ?_)))))
   ·rw [<- h5,h2];exact hn
   ·rw [Ol h3,PG (by rw [h4,hn,NU])] at o1;rw [<- List.map_reverse,<- List.append_nil (List.reverse vs),<- List.append_nil (List.map _ _),List.map_map,List.map_reverse];refine Bw.bind (RT O L nd (by rw [h4,hn,NU]) i2 r2 λs3 g3 i3=> ?_);exact Bw.pure (Bw.pure (o1 s3 x1 rfl (g2.trans g3) i3))
end
section
variable {C:Cx}
structure Bi (C:Cx) (v:Value) (run:Run):Prop where
 keep:∀{x:Wx} {l:LL} {s:Shared},In C x l s.heap->∃k,Looks C.M s.heap (keeperOf v) k
 does:∀{x:Wx} {l:LL} {s:Shared} {vs:List Value} {ws:List W} {Q:VP} {E:VP},In C x l s.heap->C.BF x s.heap vs ws->Out C x l s C.rel (run ws x.σ) Q E->wpB C.M C.A (call v vs) Q E s
theorem Gl {v:Value} {run:Run} (K:Bi C v run) {es:List E} {fs:List SE} (D:AOk C es fs) {x:Wx} {l:LL} {s:Shared} {first:List Value} {ws0:List W} {p p':Pos} {Q:VP} {E:VP} (i:In C x l s.heap) (r:C.BF x s.heap first ws0)
  (o:Out C x l s C.rel ((args fs l x.σ).bind λws σ=> run (ws0 ++ ws) σ) Q E):wpB C.M C.A (callWith p v first (backTo p' (starEach (AV C.T es) C.env)) []) Q E s:=by
 refine BG (BV es) (Bw.mono ((DC D).run i o) (λvs s1 h=> ?_) λυ υ e=> e);obtain ⟨x1,ws,g1,i1,r1,o1⟩:=h;exact ⟨K.keep i1,K.does i1 (AD.append r1 (CX i g1 r)) o1⟩
theorem F6 {v:Value} {run:Run} {es:List E} {fs:List SE} {p:Pos} {id:Str} {fp:Pos} (N:∀{x:Wx} {l:LL} {s:Shared} {Q:VP} {E:VP},In C x l s.heap->Q v s->wpAny C.M C.A (eval (.Name id fp) C.env) Q E s)
  (K:Bi C v run) (D:AOk C es fs):EOk C (.Call (.Name id fp) (AV C.T es) [] p) (AZ run fs):=by
 intro x l s Q E i o;rw [arm_eval_Call_Name'];exact Bw.bind (Bw.of (N i (Gl K D i (first:= []) (ws0:= []) rfl o)))
def CE (B:Base) (a:Addr) (run:Run) (rk:Nat):Prop:=∀C:Cx,C.toBase=B->C.Ok->DP C rk->∀{x:Wx} {l:LL} {s:Shared} {vs:List Value} {ws:List W} {Q:VP} {E:VP},In C x l s.heap->C.BF x s.heap vs ws->Out C x l s C.rel (run ws x.σ) Q E->codeB C.M C.A (.call (.ref a) ⟨vs,[]⟩) (Ic Q E) s
theorem SJ {a:Addr} {o:AN} {fd:FuncData} {h:Heap} (X:C.KF.In h) (ho:C.KF.lookup a=some o) (hd:o.data= .func fd):∃k,Looks C.M h (keeperOf (.ref a)) k:=by
 obtain ⟨c,d,dt,sl⟩:=o;cases (show dt= .func fd from hd);exact ⟨.frame,(Looks.ld (part:=none) (X _ _ ho)).andThen .now⟩
theorem Mp (B:C.toBase.Ok) (O:C.Ok) {a:Addr} {f:Fn} {run:Run} {rk:Nat} (R:DP C rk) (H:FnAt C.toBase a f) (S:CE C.toBase a run rk):Bi C (.ref a) run:=by
 obtain ⟨o,fd,ho,hd,F⟩:=H;exact ⟨λi=> SJ (i.KX B) ho hd,λi r ou=> Bw.call (S C rfl O R i r ou)⟩
theorem CE.of (B:Base) (BO:B.Ok) {a:Addr} {f:Fn} {rk:Nat} (H:FnAt B a f) {b:SS} (body:∀C':Cx,C'.toBase=B->C'.Ok->C'.Sc f.ks->C'.ns=f.ns.map some->(∀n ∈ f.ns,AR C' (B.T.nm n))->DP C' rk->DV C' (execs (B6 B.T f.body) C'.env) b):CE B a (Dr f.np f.dfl f.nl b) (rk + 1):=by
 intro C hC O R x l s vs ws Q E i r o;subst hC;exact VZ BO O i R H r (λC' A=> body C' A.base A.ok A.sc A.ns A.mine (A.room rk R)) o
theorem G6 (B:C.toBase.Ok) (O:C.Ok) {n:Nat} {v:Value} {fp:Pos} (g:nsIn C.KF mainGlobals (C.T.nm n)=some (some v)) (hk:C.env.kindOf (C.T.nm n)=some .globalImplicit) (hn:(C.T.nm n==("__debug__" :Str))=false)
  {x:Wx} {l:LL} {s:Shared} {Q:VP} {E:VP} (i:In C x l s.heap) (q:Q v s):wpAny C.M C.A (eval (.Name (C.T.nm n) fp) C.env) Q E s:=by
 refine Name_function_global O.kind hk ?_ hn;unfold loadGlobal;rw [O.glob];exact wpAny_bind ((looks_nsIn (i.KX B) g).here (wpAny_pure q))
theorem M7 {few:Bool} {o:PySem.Expr} {env:Env} {apos pos:Pos} {M:Model} {A:Around} {E:VP} {s:Shared} {Q:Pos->Shared->Prop} (h:apos.endLine=pos.line) (q:Q pos s):wpAny M A (methodCallPos few o env apos pos) Q E s:=by
 unfold methodCallPos;rw [if_pos (by rewrite [h,beq_self_eq_true,Bool.or_true];rfl)];exact wpAny_pure q
theorem Rr (T:Tb) (es:List E):(AV T es).length=es.length:=by
 induction es with
 |nil=> rfl
 |cons e es ih=> exact congrArg Nat.succ ih
theorem Lw {T:Tb} {env:Env} {p p':Pos} {es:List E} (h:es.length < 30):methodCallForm ((AV T es).length + ([]:List Keyword).length) (backTo p (starEach (AV T es) env)) (backToKw p' (keywordEach [] env))=true:=by
 unfold methodCallForm;have:(backTo p (starEach (AV T es) env)).all (!·.1)=true:=by
  have:=BV (T:=T) (env:=env) (p:=p) es;rw [List.all_eq_not_any_not,Bool.not_eq_true'];simpa using this
 rw [this,Rr];show (true && true && decide (es.length + 0 + 0 < 30))=true;exact decide_eq_true h
theorem Dx {e:E} {f:SE} {name:Str} {es:List E} {ap p:Pos} (D:EOk C (den C.T e) f) (ns:CM e=true) (lp:ap.endLine=p.line) (few:es.length < 30) {x:Wx} {l:LL} {s:Shared} {Q:VP} {E:VP} (i:In C x l s.heap) {α':Type} {rel':Wx->Heap->Value->α'->Prop} {k:W->List O->R α'} (o:Out C x l s rel' ((f l x.σ).bind k) Q E)
  (next:∀x' s' v w {pl:Sem Bool},In C x' l s'.heap->C.rel x' s'.heap v w->Out C x' l s' rel' (k w x'.σ) Q E->wpAny C.M C.A (getMethod v name pl) (λfm s2=> wpB C.M C.A (callWith p fm.1 fm.2 (backTo p (starEach (AV C.T es) C.env)) []) Q E s2) E s'):
  wpB C.M C.A (eval (.Call (.Attribute (den C.T e) name ap) (AV C.T es) [] p) C.env) Q E s:=by
 rw [arm_eval_Call,Hi ns];refine Bw.bind (Bw.mono (D.run i o) (λv s1 h=> ?_) λυ υ e=> e);obtain ⟨x1,w,g1,i1,r1,o1⟩:=h;refine Bw.bind (Bw.standAt ?_);unfold methodCall calleeOf;rw [Lw few,if_pos rfl];refine Bw.bind (Bw.holding (Bw.of (wpAny_mono (next x1 s1 v w i1 r1 o1) (λfm s2 h=> ?_) λυ υ e=> e)));exact Bw.bind (Bw.of (M7 lp h))
theorem Dw {α β:Type} {rel:Wx->Heap->β->α->Prop} {x:Wx} {l:LL} {s:Shared} {n:Nat} {z:Option (R α)} {Q:β->Shared->Prop} {E:VP} (o:Out C x l s rel (kR n z) Q E):∃r,z=some r/\Out C x l s rel r Q E:=by
 induction z using oC with
 |none=> exact o.elim
 |some y=> exact ⟨y,rfl,o⟩
structure MethAt (B:Base) (c f m:Nat):Prop where
 at_:findIn B.KF (.ref c) (B.T.nm m)=some (some (.ref f))
 fn:typeIn B.KF (.ref f)=some (.type "function")
 cls:∃k,B.T.cls c=some k/\k.kind ≠ 2/\m ∉ k.fields
 lt:m < B.T.cnt
theorem Af.az {T:Tb} {F:Ad} {μ:Mu} (N:CV T) {m:Nat} (hm:m < T.cnt) {fs:List W} {as:List Nat} {es:List DictEntry} (q:Af T F μ fs as es) (lt:∀b ∈ as,b < T.cnt) (no:m ∉ as):es.find? (·.key.isStr (T.nm m))=none:=by
 induction fs generalizing as es with
 |nil=> cases (show es= [] from q);rfl
 |cons y r ih=>
  obtain ⟨b,as',e',es',t',rfl,rfl,k',r',q⟩:=q;rw [List.find?_cons,show e'.key.isStr (T.nm m)=false from by rw [k',D0,N.is hm (lt b (.head _))];exact decide_eq_false λz=> no (z▸ .head _)];exact ih q (λc hc=> lt c (.tail _ hc)) λz=> no (.tail _ z)
theorem TM (B:C.toBase.Ok) {e:E} {f:SE} {c fa m:Nat} {run:Run} {es:List E} {fs:List SE} {ap p:Pos} (D:EOk C (den C.T e) f) (ns:CM e=true) (lp:ap.endLine=p.line) (few:es.length < 30) (M:MethAt C.toBase c fa m) (K:Bi C (.ref fa) run) (DA:AOk C es fs):
  EOk C (.Call (.Attribute (den C.T e) (C.T.nm m) ap) (AV C.T es) [] p) (CS f c run fs):=by
 intro x l s Q E i o;refine Dx D ns lp few i o λx' s' v w pl i' r o'=> ?_
 obtain ⟨y,h,o'⟩:=Dw o';obtain ⟨q,e1,e2⟩:=AA h;obtain ⟨e3,e4⟩:=AJ e2;clear e2 h;cases e4;obtain ⟨a,ox,d,en,n,rfl,I,hd,rf⟩:=Jg i' r e1;have hc:q.1=c:=eBq e3;rw [hc] at I rf;obtain ⟨k,hk,hkd,nf⟩:=M.cls;have KC:=B.cls c k hk;have cf:AH C.T c=k.fields:=by unfold AH;rw [hk]
 refine method_fn (i'.KX B) I (KC.ga hkd) KC.g M.at_ M.fn ?_ (Gl K DA i' (first:= [.ref a]) (ws0:= [w]) (AD.one r) o');show (lookIn _ (AM en n)).map _=_;unfold lookIn AM;have:(en.any λx=> x.refKey)=false:=by
  rw [List.any_eq_false];intro e' he';rw [rf.keys.2.2 e' he'];simp
 simp only [(cf▸rf).az B.names M.lt KC.lt nf,this];rfl
def Gf (C:Cx) (v:Value) (run:Run):Prop:=Bi C v run\/∀ws σ,∃n,run ws σ= .stuck n
theorem OJ {v:Value} {run:Run} (K:Gf C v run) {es:List E} {fs:List SE} (D:AOk C es fs) {x:Wx} {l:LL} {s:Shared} {p p':Pos} {Q:VP} {E:VP} (i:In C x l s.heap)
  (o:Out C x l s C.rel ((args fs l x.σ).bind run) Q E):wpB C.M C.A (callWith p v [] (backTo p' (starEach (AV C.T es) C.env)) []) Q E s:=by
 rcases K with K |K
 ·exact Gl K D i (first:= []) (ws0:= []) rfl o
 ·refine BG (BV es) (Bw.mono ((DC D).run i o) (λvs s1 h=> ?_) λυ υ e=> e);obtain ⟨x1,ws,g1,i1,r1,o1⟩:=h;obtain ⟨n,h⟩:=K ws x1.σ;rw [h] at o1;exact o1.elim
theorem Ra (B:C.toBase.Ok) {e:E} {f:SE} {alts:NN} {m:Nat} {call:Nat->Run} {es:List E} {fs:List SE} {ap p:Pos} (al:HF C.T alts m) (D:EOk C (den C.T e) f) (ns:CM e=true) (lp:ap.endLine=p.line) (few:es.length < 30) (K:∀a,Gf C (.ref a) (call a)) (DA:AOk C es fs):
  EOk C (.Call (.Attribute (den C.T e) (C.T.nm m) ap) (AV C.T es) [] p) (YF f alts call fs):=by
 intro x l s Q E i o;refine Dx D ns lp few i o λx' s' v w pl i' r o'=> ?_
 obtain ⟨y,h,o'⟩:=Dw o';obtain ⟨g,e1,e2⟩:=AA h;obtain ⟨a,e3,e4⟩:=AA e2;cases VX e3;clear e2 e3 h;cases e4;obtain ⟨q,e5,e6⟩:=AA e1;obtain ⟨j,e7,e8⟩:=AA e6;obtain ⟨b,ox,d,en,n,rfl,I,_,_⟩:=Jg i' r e5;obtain ⟨k,hk,hkd,ha⟩:=al _ (AY e7);have KC:=B.cls _ k hk;refine method_usual (i'.KX B) I (KC.ga hkd) KC.g (KC.own m (List.mem_of_getElem? ha)) rfl ?_;refine Gj B i' (λz hz=> let ⟨k,h1,_,h2⟩:=al z hz;⟨k,h1,h2⟩) r e1 λu ru=> ?_
 cases (show u= .ref a from ru);exact OJ (K a) DA (s:={s' with toks:=s'.toks + 1}) i' (Out.shift .toks o')
end
noncomputable def GG (f:Nat):Value:=match f with
 |0=> .builtin "len" |1=> .builtin "ord" |2=> .builtin "chr" |3=> .type "bytes" |4=> .type "bytearray" |5=> .type "tuple" |6=> .type "str" |7=> .builtin "sorted" |8=> .type "range" |_=> .type "enumerate"
theorem Pd:∀f,f < 10->bootBuiltins (bnm f)=some (GG f)/\bnm f ≠ "__name__" /\(bnm f==("__debug__" :Str))=false:=by decide +kernel
section
variable {C:Cx}
theorem LN (B:C.toBase.Ok) (O:C.Ok) {x:Wx} {l:LL} {s:Shared} {E:VP} {y:Str} {v:Value} {Q:VP} (i:In C x l s.heap) (g:nsIn C.KF mainGlobals y=some none) (b:bootBuiltins y=some v) (ne:y ≠ "__name__") (q:Q v s):wpAny C.M C.A (loadGlobal C.env y) Q E s:=by
 obtain ⟨mb,⟨o,es,ep,h1,h2⟩,h3⟩:=B.boot;have nb:s.heap.Ns builtinsNs mb:=⟨o,es,ep,i.wd.top _ _ h1,h2⟩;unfold loadGlobal;rw [O.glob,O.bi];refine wpAny_bind ((looks_nsIn (i.KX B) g).here (wpAny_bind (wpAny_nsGet nb ?_)));rw [h3 y ne,b];exact wpAny_pure q
theorem H5 (B:C.toBase.Ok) (O:C.Ok) {f n:Nat} {p:Pos} (hf:f < 10) (hb:C.T.bi f=some n) (hk:C.env.kindOf (C.T.nm n)=some .globalImplicit) {x:Wx} {l:LL} {s:Shared} {Q:VP} {E:VP} (i:In C x l s.heap) (q:Q (GG f) s):
  wpAny C.M C.A (eval (.Name (bnm f) p) C.env) Q E s:=by
 obtain ⟨_,e,g⟩:=B.bins f n hb;obtain ⟨h1,h2,h3⟩:=Pd f hf;rw [<- e];exact Name_function_global O.kind hk (LN B O i g (e▸h1) (e▸h2) q) (e▸h3)
def B1 (C:Cx) (f:Nat):Prop:=∀{x:Wx} {l:LL} {s:Shared} {v:Value} {w y:W} {Q:VP} {E:VP},In C x l s.heap->C.rel x s.heap v w->Pc f x.σ w=some y->(∀u s',Go C x x s s'->In C x l s'.heap->C.rel x s'.heap u y->Q u s')->wpAny C.M C.A (call (GG f) [v]) Q E s
theorem B1.callable {f:Nat} (K:B1 C f) (hf:∀σ,∃n,BJ f [] σ= .stuck n):Bi C (GG f) (BJ f):=by
 refine ⟨λi=> ⟨.machine,Looks.of_pure (by rcases f with _ |_ |_ |_ |_ |_ |_ |_ |_ |f <;> rfl)⟩,λ{x l s vs ws Q E} i r o=> ?_⟩;induction ws using lC with
 |nil=> obtain ⟨n,h⟩:=hf x.σ;rw [h] at o;exact o.elim
 |cons w r' =>
  induction r' using lC with
  |cons=> exact o.elim
  |nil=>
   obtain ⟨v,us,rfl,r1,r2⟩:=r;cases (show us= [] from r2);obtain ⟨y,h,o⟩:=Bc o;exact Bw.of (K i r1 h λu s' g i' r'=> o u s' x rfl g i' r')
theorem IQ {x:Wx} {l:LL} {s:Shared} {Q:VP} {y:W} (i:In C x l s.heap) (q:∀u s',Go C x x s s'->In C x l s'.heap->C.rel x s'.heap u y->Q u s') {u:Value} {tk:Nat} (r:C.rel x s.heap u y):Q u {s with toks:=tk}:=q u {s with toks:=tk} .toks i r
end
theorem K6:PlainAttrs "bytearray" :=
 ⟨⟨"bytearray.__getattribute__",by rw [typeLookup_type,builtinLookup_eq_fast];kernel_rfl,by decide +kernel⟩,by rw [typeLookup_type,builtinLookup_eq_fast];kernel_rfl⟩
theorem Fy:Manifest.owners.lookup (String.ofList ['y','a','r','r','a','e','t','y','b'].reverse)=some Manifest.sig_bytearray:=by kernel_rfl
theorem Es:Slot "bytearray" "__len__" "bytearray.__len__" :=
 .of (owner:= "bytearray") (n:= "__len__") (by rw [typeLookup_type,builtinLookup_eq_fast];kernel_rfl) (by decide +kernel) (by decide +kernel) (by decide +kernel)
  (by first |exact .inl (by decide +kernel) |exact .inr (by decide +kernel)) (by rw [isSubtype_type];kernel_rfl)
theorem Hb:entryFor table "bytearray.__len__" =some Builtin.«bytearray.__len__»:=entryFor_of_tree (by kernel_rfl)
theorem IB (a:Value):argsOk "bytearray.__len__" ⟨[a],[]⟩:=by
 unfold argsOk;rw [signature?_of (id:= "bytearray.__len__") (n:= ['_','_','n','e','l','_','_']) (o:= ['y','a','r','r','a','e','t','y','b']) (by kernel_rfl) Fy];kernel_rfl
theorem FG:Slot "bytearray" "append" "bytearray.append" :=
 .of (owner:= "bytearray") (n:= "append") (by rw [typeLookup_type,builtinLookup_eq_fast];kernel_rfl) (by decide +kernel) (by decide +kernel) (by decide +kernel)
  (by first |exact .inl (by decide +kernel) |exact .inr (by decide +kernel)) (by rw [isSubtype_type];kernel_rfl)
theorem Ig:entryFor table "bytearray.append" =some Builtin.«bytearray.append»:=entryFor_of_tree (by kernel_rfl)
theorem JP (a b:Value):argsOk "bytearray.append" ⟨[a,b],[]⟩:=by
 unfold argsOk;rw [signature?_of (id:= "bytearray.append") (n:= ['d','n','e','p','p','a']) (o:= ['y','a','r','r','a','e','t','y','b']) (by kernel_rfl) Fy];kernel_rfl
theorem FA:Slot "bytearray" "extend" "bytearray.extend" :=
 .of (owner:= "bytearray") (n:= "extend") (by rw [typeLookup_type,builtinLookup_eq_fast];kernel_rfl) (by decide +kernel) (by decide +kernel) (by decide +kernel)
  (by first |exact .inl (by decide +kernel) |exact .inr (by decide +kernel)) (by rw [isSubtype_type];kernel_rfl)
theorem Iy:entryFor table "bytearray.extend" =some Builtin.«bytearray.extend»:=entryFor_of_tree (by kernel_rfl)
theorem I2 (a b:Value):argsOk "bytearray.extend" ⟨[a,b],[]⟩:=by
 unfold argsOk;rw [signature?_of (id:= "bytearray.extend") (n:= ['d','n','e','t','x','e']) (o:= ['y','a','r','r','a','e','t','y','b']) (by kernel_rfl) Fy];kernel_rfl
section
variable {prog:Program} {w:World} {A:Around} {E:VP} {s:Shared}
theorem len_str {x:Str} {t:Tok} {Q:VP} (hf:(x.length:Int) < 2 ^ 63) (h:Q (.int x.length (s.toks + 1)) {s with toks:=s.toks + 1 + 1}):wpAny (model prog w) A (call (.builtin "len") [.str x t]) Q E s:=by
 have hT:=typeIs_str s x t;refine call_len_slot hT PyProof.Rows.slot_str_len (λQ' q=> ?_) (by lia) (by lia) h;refine wpAny_call_entry PyProof.Rows.slot_str_len hT PyProof.Rows.entry_str_len ?_ (PyProof.Rows.args_str_len _);show wpAny _ _ (retInt x.length) _ _ s;exact wpAny_bind (wpAny_mkInt (wpAny_pure ⟨_,rfl,q⟩))
theorem len_bytes {x:Array UInt8} {t:Tok} {Q:VP} (hf:(x.size:Int) < 2 ^ 63) (h:Q (.int x.size (s.toks + 1)) {s with toks:=s.toks + 1 + 1}):wpAny (model prog w) A (call (.builtin "len") [.bytes x t]) Q E s:=by
 have hT:s.TypeIs (.bytes x t) "bytes" :=rfl;refine call_len_slot hT PySem.W.FB.slot_bytes_len (λQ' q=> ?_) (by lia) (by lia) h;refine wpAny_call_entry PySem.W.FB.slot_bytes_len hT PySem.W.FB.entry_bytes_len ?_ (PySem.W.FB.args_bytes_len_1 _);show wpAny _ _ (retInt x.size) _ _ s;exact wpAny_bind (wpAny_mkInt (wpAny_pure ⟨_,rfl,q⟩))
theorem Ul {a:Addr} {vs:List Value} {n:Nat} {Q:VP} (ho:s.heap.get? a=some (AS vs n)) (hf:(vs.length:Int) < 2 ^ 63) (h:Q (.int vs.length (s.toks + 1)) {s with toks:=s.toks + 1 + 1}):wpAny (model prog w) A (call (.builtin "len") [.ref a]) Q E s:=by
 have hT:s.TypeIs (.ref a) "tuple" :=⟨_,ho,rfl⟩;refine call_len_slot hT PyProof.Rows.slot_tuple_len (λQ' q=> ?_) (by lia) (by lia) h;refine wpAny_call_entry PyProof.Rows.slot_tuple_len hT PyProof.Rows.entry_tuple_len ?_ (PyProof.Rows.args_tuple_len _);show wpAny _ _ (Builtin.Tuple.tupleItemsOf (.ref a) >>=_) _ _ s;refine wpAny_bind (wpAny_tupleItemsOf (items:=vs.toArray) (n:=n) ho rfl (wpAny_bind (wpAny_mkInt (wpAny_pure ⟨_,rfl, ?_⟩))));rw [List.size_toArray];exact q
theorem M6 {a:Addr} {vs:List Value} {n:Nat} {Q:VP} (ho:s.heap.get? a=some (AI vs n)) (hf:(vs.length:Int) < 2 ^ 63) (h:Q (.int vs.length (s.toks + 1)) {s with toks:=s.toks + 1 + 1}):wpAny (model prog w) A (call (.builtin "len") [.ref a]) Q E s:=by
 have hl:s.heap.IsList a vs.toArray:=⟨_,ho,rfl,_,rfl⟩;exact call_len_list hl (by rw [List.size_toArray];exact hf) (by rw [List.size_toArray];exact h)
theorem Nf {a:Addr} {es:List DictEntry} {n:Nat} {Q:VP} (hd:(a==sysModules)=false) (ho:s.heap.get? a=some (AM es n)) (hf:(es.length:Int) < 2 ^ 63) (h:Q (.int es.length (s.toks + 1)) {s with toks:=s.toks + 1 + 1}):wpAny (model prog w) A (call (.builtin "len") [.ref a]) Q E s:=by
 have hT:s.TypeIs (.ref a) "dict" :=⟨_,ho,rfl⟩;refine call_len_slot hT F.slot_dict_len (λQ' q=> ?_) (by lia) (by lia) h;refine wpAny_call_entry F.slot_dict_len hT F.entry_dict_len ?_ (F.args_dict_len_1 _);show wpAny _ _ (dictSize a >>=_) _ _ s;unfold dictSize;refine wpAny_bind (wpAny_bind (wpAny_dictEntries (es:=es.toArray) (ep:=n) ho rfl (wpAny_pure ?_)));show wpAny _ _ (Builtin.Dict.pendingCount a >>=_) _ _ s;refine wpAny_bind (wpAny_pendingCount_other hd ?_);refine wpAny_bind (wpAny_mkInt (wpAny_pure ⟨_,rfl, ?_⟩));rw [List.size_toArray];exact q
theorem Uo {a:Addr} {b:List UInt8} {Q:VP} (ho:s.heap.get? a=some (Ao b)) (hf:(b.length:Int) < 2 ^ 63) (h:Q (.int b.length (s.toks + 1)) {s with toks:=s.toks + 1 + 1}):wpAny (model prog w) A (call (.builtin "len") [.ref a]) Q E s:=by
 have hT:s.TypeIs (.ref a) "bytearray" :=⟨_,ho,rfl⟩;refine call_len_slot hT Es (λQ' q=> ?_) (by lia) (by lia) h;refine wpAny_call_entry Es hT Hb ?_ (IB _);show wpAny _ _ (Builtin.Bytes.payload (.ref a) >>=_) _ _ s;unfold Builtin.Bytes.payload Builtin.Bytes.payload?;refine wpAny_bind (wpAny_bind (wpAny_bind (wpAny_load ho ?_)));refine wpAny_pure (wpAny_pure (wpAny_bind (wpAny_mkInt (wpAny_pure ⟨_,rfl, ?_⟩))));rw [List.size_toArray];exact q
theorem CT.length {T:Tb} {F:Ad} {μ:Mu} {xs:List W} {ks:List K} {es:List DictEntry} (q:CT T F μ xs ks es):es.length=ks.length:=by
 induction xs generalizing ks es with
 |nil=> rw [q.1,q.2];rfl
 |cons x xs ih=> obtain ⟨k,ks',e,es',rfl,rfl,_,_,q⟩:=q;exact congrArg Nat.succ (ih q)
theorem B2.length {R:W->Value->Prop} {p:Params} {d:List (List Nat × W)} {es:List DictEntry} (q:B2 R p d es):es.length=d.length:=by
 induction d generalizing es with
 |nil=> cases (show es= [] from q);rfl
 |cons x xs ih=> obtain ⟨e,es',t,rfl,_,_,_,_,q⟩:=q;exact congrArg Nat.succ (ih q)
end
section
variable {C:Cx}
theorem Wl:B1 C 0:=λ{x l s v w y Q E} i r e q=> by
 obtain ⟨n,e1,e2⟩:=AA (show ob (orO (Xa w) (atO WJ x.σ w)) mkNat=some y from e);obtain ⟨hz,e2⟩:=AJ e2;cases e2;have hz:(n:Int) < 2 ^ 63:=by have:=lBl hz;unfold LIM at this;lia
 have q:∀t tk,Q (.int n t) {s with toks:=tk}:=λt tk=> IQ i q ⟨t,rfl⟩
 show wpAny C.M C.A (call (.builtin "len") _) Q E s;rcases AX e1 with e |e
 ·induction w using W.casesOn with
  |str a=> clear e1 e2;obtain ⟨t,rfl,_⟩:=r;cases e;exact len_str (by rw [str_len];exact hz) (by rw [str_len];exact q _ _)
  |bytes a=> clear e1 e2;obtain ⟨t,rfl,_⟩:=r;cases e;exact len_bytes (by rw [List.size_toArray];exact hz) (by rw [List.size_toArray];exact q _ _)
  |tup a=> clear e1 e2;obtain ⟨b,vs,m,rfl,f,_,r⟩:=r;cases e;rw [<- r.length] at hz q;exact Ul f.1 hz (q _ _)
  |lst a=> clear e1 e2;obtain ⟨b,vs,m,rfl,f,_,r⟩:=r;cases e;rw [<- r.length] at hz q;exact M6 f.1 hz (q _ _)
  |dct a b=> clear e1 e2;obtain ⟨c,es,m,rfl,f,hm,r⟩:=r;cases e;rw [<- CT.length r] at hz q;exact Nf hm f.1 hz (q _ _)
  |_=> exact nn e
 ·clear e1 e2;obtain ⟨j,o,rfl,rfl,_,e9,D⟩:=GH i r e;induction o using O.casesOn with
  |list a=> obtain ⟨vs,m,h1,h2,h3⟩:=D;clear e h3 r;cases e9;rw [<- h2.length] at hz q;exact M6 h1 hz (q _ _)
  |dict a=> obtain ⟨es,m,h1,h2,h3,h4,_⟩:=D;clear e h3 r;cases e9;rw [<- B2.length h2] at hz q;exact Nf h4 h1 hz (q _ _)
  |barr b=> obtain ⟨h1,h2⟩:=D;clear e r;cases e9;exact Uo h1 hz (q _ _)
  |_=> exact nn e9
theorem YW:B1 C 1:=λ{x l s v w y Q E} i r e q=> by
 obtain ⟨t,e1,e2⟩:=AA (show (ob (Ax w) λs=> ob (one s) λc=> some (.int (.ofNat c)))=some y from e);obtain ⟨c,e3,e4⟩:=AA e2;cases Au e1;cases D3 e3;clear e e1 e2 e3;cases e4;obtain ⟨u,rfl,_⟩:=r;exact P.ord_of_char (IQ i q ⟨_,rfl⟩)
theorem XR:B1 C 2:=λ{x l s v w y Q E} i r e q=> by
 obtain ⟨t,e1,e2⟩:=AA (show (ob (BL w) λi=> ob (CY i) λn=> gd (Nat.blt n 1114112) (some (.str [n])))=some y from e);obtain ⟨n,e3,e4⟩:=AA e2;obtain ⟨h,e4⟩:=AJ e4;cases A8 e1;cases CC e3;clear e e1 e2 e3;cases e4;clear e4;obtain ⟨u,rfl⟩:=r;have h:=lBl h;exact P.chr_of_int (by simp;lia) (IQ i q ⟨_,rfl,by unfold LIM;simp⟩)
theorem SO (O:C.Ok):B1 C 5:=λ{x l s v w y Q E} i r e q=> by
 obtain ⟨ws,e1,e2⟩:=AA (show (ob (HC x.σ w) λl=> some (.tup l))=some y from e);cases e2;show wpAny C.M C.A (call (.type "tuple") _) Q E s;rcases AX e1 with e |e
 ·cases Dm e;clear e e1;obtain ⟨a,vs,m,rfl,f,hz,rs⟩:=r;exact call_tuple_same ⟨_,f.1,rfl,_,rfl⟩ (q _ s (.refl ..) i ⟨a,vs,m,rfl,f,hz,rs⟩)
 ·clear e1;obtain ⟨a,vs,m,rfl,ho,rs,hz⟩:=EK i r e;refine call_tuple_list ⟨_,ho,rfl,_,rfl⟩ (λh' k=> ?_) (by rw [List.size_toArray,AD.length rs,sizeLine_eq];unfold LIM at hz;lia);have k2:Keeps s.heap (h'.push (AS vs 0)):=λb o e=> Ab _ _ b o (k b o e)
  exact q _ {s with heap:=h'.push (AS vs 0)} (.keeps k2) (In.keeps O i k2) ⟨_,vs,0,rfl,ET (In.keeps O i k) _ rfl,hz,AD.mono (i.fzk k2) (Mu.le_refl _) rs⟩
theorem K0:∀n,n < 10->(Nat.digitChar n).toNat=48 + n:=by decide
theorem digits_eq:∀(f n:Nat),n < 10 ^ (f + 1)->(Nat.toDigits 10 n).map Char.toNat=CR (f + 1) n:=by
 have small:∀f n,n < 10->(Nat.toDigits 10 n).map Char.toNat=CR (f + 1) n:=λf n hn=> by
  show _=cond (Nat.blt n 10) [48 + n] _;rw [show Nat.blt n 10=true from Nat.ble_eq_true_of_le hn,Nat.toDigits_of_lt_base hn,List.map_singleton,K0 n hn];rfl
 intro f;induction f with
 |zero=> exact λn h=> small 0 n h
 |succ f ih=>
  intro n h;by_cases hn:n < 10
  ·exact small _ n hn
  ·show _=cond (Nat.blt n 10) [48 + n] (CR (f + 1) (n / 10) ++ [48 + n % 10]);rw [show Nat.blt n 10=false from Bool.eq_false_iff.mpr λz=> hn (lBl z),Nat.toDigits_of_base_le (by decide) (by lia),List.map_append,ih _ (by rw [Nat.div_lt_iff_lt_mul (by decide)];exact h),List.map_singleton,K0 _ (Nat.mod_lt _ (by decide))];rfl
theorem Vx {n:Nat} (h:n < 1000000):(Str.ofString (toString (n:Int)))=⟨(CR 7 n).toArray⟩:=by
 have e:toString (n:Int)=String.ofList (Nat.toDigits 10 n):=Nat.repr_eq_ofList_toDigits ..;rw [e,<- digits_eq 6 n (by lia)];show Str.mk (cpsOfBytes 0 0 _).toArray=_;rw [cpsOfBytes_string,String.toList_ofList]
theorem HO:∀f n,(CR f n).length <= f
 |0,n=> Nat.le_refl 0
 |f + 1,n=> by
  show (cond (Nat.blt n 10) [48 + n] (CR f (n / 10) ++ [48 + n % 10])).length <= _;cases Nat.blt n 10 with
  |true=> exact Nat.succ_le_succ (Nat.zero_le _)
  |false=> have:=HO f (n / 10);show (CR f (n / 10) ++ [48 + n % 10]).length <= _;rw [List.length_append,List.length_singleton];lia
theorem WX:B1 C 6:=λ{x l s v w y Q E} i r e q=> by
 obtain ⟨j,e1,e2⟩:=AA (show (ob (BL w) λi=> ob (CY i) λn=> gd (Nat.blt n 1000000) (some (.str (CR 7 n))))=some y from e);obtain ⟨n,e3,e4⟩:=AA e2;obtain ⟨h,e4⟩:=AJ e4;cases A8 e1;cases CC e3;clear e e1 e2 e3;cases e4;have h:=lBl (show Nat.ble (n + 1) 1000000=true from h);clear e4;obtain ⟨u,rfl⟩:=r;refine P.str_of_int ?_ (IQ i q ⟨s.toks, ?_, ?_⟩)
 ·show n.log2 < 1920;by_cases hn:n=0
  ·clear h q;subst hn;decide
  ·have:=(Nat.log2_lt hn (k:=20)).mpr (by lia);lia
 ·rw [<- Vx h]
 ·exact Nat.le_trans (HO 7 n) (by decide)
end
namespace Bw
section
variable {α β:Type} {M:Model} {A:Around} {E:VP} {s:Shared}
theorem ofEq {t:Sem α} {a:α} {Q:α->Shared->Prop} (h:t=Pure.pure a) (q:Q a s):wpB M A t Q E s:=by subst h;exact Bw.pure q
theorem ifF {c:Bool} {a b:Sem α} {Q:α->Shared->Prop} (hc:c=false) (h:wpB M A b Q E s):wpB M A (if c=true then a else b) Q E s:=by subst hc;exact h
theorem ifT {c:Bool} {a b:Sem α} {Q:α->Shared->Prop} (hc:c=true) (h:wpB M A a Q E s):wpB M A (if c=true then a else b) Q E s:=by subst hc;exact h
theorem exported {self:Value} {Q:Bool->Shared->Prop} (q:Q false s):wpB M A (Builtin.Bytes.exported self) Q E s:=λΓ p i d n z=> by
 have h:(((Γ.code,p)::Γ.below).any (Gk self))=false:=List.any_eq_false.mpr λx hx=> by
  rw [show Gk self x=false from Ff (p:=p) d n x hx self x.2];exact Bool.false_ne_true
 unfold Builtin.Bytes.exported;show Sem.wp M Γ (Sem.bind stack _) _ _ p s;unfold stack;rw [Sem.wp_bind,Sem.wp_stack,Sem.wp_pure];show Sem.wp M Γ (Pure.pure (((Γ.code,p)::Γ.below).any (Gk self))) _ _ p s;rw [h,Sem.wp_pure'];exact q
theorem held {a:Addr} {b:List UInt8} {Q:Bool->Shared->Prop} (ho:s.heap.get? a=some (Ao b)) (q:Q false s):wpB M A (Builtin.Bytes.exported (.ref a) <||> (do return (<- Builtin.Bytes.exportsOf (.ref a)) > 0)) Q E s:=by
 unfold orM;refine bind (exported ?_);show wpB M A (Builtin.Bytes.exportsOf (.ref a) >>=λn=> Pure.pure (decide (n > 0))) Q E s;unfold Builtin.Bytes.exportsOf;exact bind (of (wpAny_bind (wpAny_load ho (wpAny_pure (pure q)))))
theorem resize {a:Addr} {b:List UInt8} {Q:Unit->Shared->Prop} (ho:s.heap.get? a=some (Ao b)) (q:Q () s):wpB M A (Builtin.Bytes.checkResize (.ref a)) Q E s:=by
 unfold Builtin.Bytes.checkResize;exact bind (held ho (ifF rfl (pure q)))
theorem write {a:Addr} {b:List UInt8} {f:Array UInt8->Array UInt8} {c:List UInt8} {Q:Unit->Shared->Prop} (ho:s.heap.get? a=some (Ao b)) (hf:f b.toArray=c.toArray) (hz:c.length <= sizeLine)
  (q:∀h',Heap.SameBut a s.heap h'->h'.get? a=some (Ao c)->Q () {s with heap:=h'}):wpAny M A (Builtin.Bytes.write (.ref a) f) Q E s:=by
 show wpAny M A (updateBytearray a f) Q E s;unfold updateBytearray;refine wpAny_bind (wpAny_load ho ?_);show wpAny _ _ (update a (Obj.mapBytearray f) >>=λυ=> lookBehind a) _ _ _;have e:Obj.mapBytearray f (Ao b)=Ao c:=by unfold Ao Obj.mapBytearray;simp only [hf]
 have g:(s.heap.update a (Obj.mapBytearray f)).get? a=some (Ao c):=e▸Heap.get?_update_self (Obj.mapBytearray f) ho (by rw [e];rfl);refine wpAny_bind (wpAny_update ho (wpAny_lookBehind g ?_ (q _ (Heap.SameBut.update ..) g)));show (if c.toArray.size > sizeLine then some "bytearray:memory" else none)=none;rw [if_neg];rw [List.size_toArray];lia
end
section
variable {prog:Program} {w:World} {A:Around} {E:VP} {s:Shared}
theorem E2 {id:String} {args:Args} {b:Builtin} {R:Result->Shared->Prop} (hb:entryFor table id=some b) (dc:Cs (.builtin id args))
  (h:wpB (model prog w) (A.under (.builtin id args)) (b args) (λfin s'=> match fin with | .done f=> R (.ok f) s' | .again c' => c'.quiet=true/\codeB (model prog w) A c' R s') (λe s'=> R (.error e) s') s):codeB (model prog w) A (.builtin id args) R s:=by
 refine ofTree dc ?_;show wpB _ _ (match entryFor table id with |some b=> b args |none=> unsupported ((withoutEnding? id "#data").getD id)) _ _ _;rw [hb];exact h
theorem Mt {id:String} {args:List Value} {b:Builtin} {Q:VP} (hq:plainId id=true) (hb:entryFor table id=some b) (dc:Cs (.builtin id ⟨args,[]⟩))
  (hchk:wpAny (model prog w) A.in1 (checkBuiltinCall id ⟨args,[]⟩) (λυ s'=> wpB (model prog w) A.in1 (b ⟨args,[]⟩) (λfin s'=>∃v,fin= .done (.ret v)/\Q v s') E s') E s):wpB (model prog w) A (PySem.call (.builtin id) args) Q E s:=by
 refine call (ofTree (λυ υ=> rfl) ?_);show wpB _ A.in1 (do checkBuiltinCall id ⟨args,[]⟩;again (.builtin id ⟨args,[]⟩)) _ _ s;refine Ar (wpAny_mono hchk (λυ s1 h=> pure ⟨plainId_quiet hq _,E2 hb dc ?_⟩) λυ υ e=> e);rw [Around.under_plainId hq _];refine mono h (λfin s' h=> ?_) λυ υ e=> e
 obtain ⟨v,rfl,h⟩:=h;exact h
theorem Ht {T:String} {name:Str} {id:String} {b:Builtin} {self:Value} {rest:List Value} {Q:VP} (h:Slot T name id) (hT:s.TypeIs self T) (hb:entryFor table id=some b) (ha:argsOk id ⟨self::rest,[]⟩) (dc:Cs (.builtin id ⟨self::rest,[]⟩))
  (hc:wpB (model prog w) A.in1 (b ⟨self::rest,[]⟩) (λfin s'=>∃v,fin= .done (.ret v)/\Q v s') E s):wpB (model prog w) A (PySem.call (.builtin id) (self::rest)) Q E s:=
 Mt h.plain hb dc (h.check _ _ _ _ _ _ _ _ hT ha hc)
end
end Bw
theorem Mq:Slot "bytearray" "__release_buffer__" "bytearray.__release_buffer__" :=
 .of (owner:= "bytearray") (n:= "__release_buffer__") (by rw [typeLookup_type,builtinLookup_eq_fast];kernel_rfl) (by decide +kernel) (by decide +kernel) (by decide +kernel)
  (by first |exact .inl (by decide +kernel) |exact .inr (by decide +kernel)) (by rw [isSubtype_type];kernel_rfl)
theorem DH:Slot "bytearray" "__init__" "bytearray.__init__" :=
 .of (owner:= "bytearray") (n:= "__init__") (by rw [typeLookup_type,builtinLookup_eq_fast];kernel_rfl) (by decide +kernel) (by decide +kernel) (by decide +kernel)
  (by first |exact .inl (by decide +kernel) |exact .inr (by decide +kernel)) (by rw [isSubtype_type];kernel_rfl)
theorem KJ:entryFor table "bytearray.__init__" =some Builtin.«bytearray.__init__»:=entryFor_of_tree (by kernel_rfl)
theorem Lx:entryFor table "bytearray.__new__" =some Builtin.«list.__new__»:=entryFor_alias (id':= "list.__new__") (by kernel_rfl) (by first |rfl |decide +kernel) (by decide +kernel) (by kernel_rfl)
theorem Lo (a:Value):argsOk "bytearray.__init__" ⟨[a],[]⟩:=by
 unfold argsOk;rw [signature?_of (id:= "bytearray.__init__") (n:= ['_','_','t','i','n','i','_','_']) (o:= ['y','a','r','r','a','e','t','y','b']) (by kernel_rfl) Fy];kernel_rfl
theorem QC:mroOf (.type "bytearray")=pure [.type "bytearray",.type "object"]:=by rw [mroOf_type];kernel_rfl
theorem KL:typeLookup (.type "bytearray") "__new__" =pure (some (.builtin "bytearray.__new__")):=by rw [typeLookup_type,builtinLookup_eq_fast];kernel_rfl
theorem Eo:TypeCalled "bytearray" "bytearray.__new__" "bytearray.__init__" :=
 ⟨by decide +kernel,by decide +kernel,⟨_,_,QC⟩,madeBy_type QC KL (by decide +kernel),by decide +kernel,by rw [isSubtype_type];kernel_rfl,DH⟩
theorem Me:checkTypeCall "bytearray" ⟨[],[]⟩=pure ():=by kernel_rfl
theorem Ow:checkBuiltinCall "bytearray.__new__" ⟨[.type "bytearray"],[]⟩=pure ():=by kernel_rfl
theorem GK:plainId "bytearray.__new__" =true:=by decide +kernel
set_option maxRecDepth 1000000 in
set_option maxHeartbeats 4000000 in
theorem LG:("bytearray.__new__".splitOn ".__new__").headD "" = "bytearray" :=by simp +decide [String.splitOn,String.splitOnAux]
theorem Dq:isSubtype (.type "bytearray") (.type "bytearray")=pure true:=by rw [isSubtype_type];kernel_rfl
theorem U3:Builtin.Bytes.bindOptional "bytearray.__init__" "bytearray" ["source", "encoding", "errors"] [] []=pure [none,none,none]:=by kernel_rfl
section
variable {prog:Program} {w:World} {A:Around} {E:VP} {s:Shared}
theorem Mj {Q₁:VP} (h:Q₁ (.ref s.heap.objs.size) {s with heap:=s.heap.push (Ao [])}):
  codeAny (model prog w) A (.call (.builtin "bytearray.__new__") ⟨[.type "bytearray"],[]⟩) (wants Q₁ E) s:=by
 refine codeAny_of_tree ?_;show wpAny _ A.in1 (do checkBuiltinCall "bytearray.__new__" ⟨[.type "bytearray"],[]⟩;again (.builtin "bytearray.__new__" ⟨[.type "bytearray"],[]⟩)) _ _ s;refine wpAny_bind (wpAny_of_eq Ow (wpAny_pure ⟨plainId_quiet GK _,codeAny_builtin_stack Lx rfl λp st=> ?_⟩));rw [Around.under_plainId GK _];have hsub:=Dq;have hown:=LG;obtain ⟨hp,g,d,tk,os⟩:=s;simp only [hown];wp_walk;exact h
theorem own_release {a:Addr} {b:List UInt8} {Q:Bool->Shared->Prop} (ho:s.heap.get? a=some (Ao b)) (q:Q false s):wpAny (model prog w) A (Builtin.Bytes.ownRelease (.ref a)) Q E s:=by
 have hT:s.TypeIs (.ref a) "bytearray" :=⟨_,ho,rfl⟩;unfold Builtin.Bytes.ownRelease Builtin.Bytes.slotIsOwn;refine wpAny_bind (wpAny_bind (wpAny_specialOf hT Mq.lookup ?_));dsimp only;refine bm_if_false (by decide +kernel) ?_;rw [show ("bytearray.__release_buffer__".dropRight ("__release_buffer__".length + 1))= "bytearray" from by decide +kernel];exact wpAny_isInstance hT Dq (wpAny_pure q)
theorem Ut {a:Addr} {Q:Shared->Prop} (ho:s.heap.get? a=some (Ao [])) (q:∀h',Heap.SameBut a s.heap h'->h'.get? a=some (Ao [])->Q {s with heap:=h'}):
  wpB (model prog w) A (Builtin.«bytearray.__init__» ⟨[.ref a],[]⟩) (λfin s'=>∃v,fin= .done (.ret v)/\v= .none/\Q s') E s:=by
 unfold Builtin.«bytearray.__init__»;refine Bw.Ar (own_release ho (Bw.ifF rfl ?_));refine Bw.bind (Bw.ofEq U3 ?_);refine Bw.bind (Bw.ofEq (a:=()) rfl (Bw.bind (Bw.ofEq (a:=()) rfl ?_)));refine Bw.bind (Bw.held ho (Bw.ifF rfl ?_));refine Bw.Ar (Bw.write (b:= []) (c:= []) ho rfl (Nat.zero_le _) λh' sb g=> ?_);exact Bw.bind (Bw.ofEq (a:=()) rfl (Bw.pure ⟨.none,rfl,rfl,q h' sb g⟩))
theorem IG:Code.quiet (Code.builtin "type.__call__" ⟨[.type "bytearray"],[]⟩)=true:=Code.quiet_builtin _ (by decide +kernel)
theorem QO (a:Addr):Cs (.builtin "bytearray.__init__" ⟨[.ref a],[]⟩):=λv p=> by
 show (Builtin.Bytes.sameRef (.ref a) v && Builtin.Bytes.decodersThatHold.contains "bytearray.__init__")=false;rw [show Builtin.Bytes.decodersThatHold.contains "bytearray.__init__" =false from by decide +kernel,Bool.and_false]
theorem Uh {Q:VP} (q:∀h' a,a=s.heap.objs.size->Heap.SameBut a (s.heap.push (Ao [])) h'->h'.get? a=some (Ao [])->Q (.ref a) {s with heap:=h'}):wpB (model prog w) A (call (.type "bytearray") []) Q E s:=by
 obtain ⟨c,tl,hmro⟩:=Eo.mro;refine Bw.call (Bw.ofTree (λυ υ=> rfl) ?_);show wpB _ _ (callAny (.type "bytearray") _) _ _ _;refine Bw.pure ⟨IG,Bw.E2 F.entry_type_call (λυ υ=> rfl) ?_⟩;rw [Around.under_plain (weight_type_call_type "bytearray" [] []) rfl];unfold Builtin.«type.__call__»;refine Bw.ifF Eo.notType ?_;refine Bw.ifF Eo.canCreate ?_;refine Bw.bind (Bw.ofEq Me (Bw.bind (Bw.ofEq hmro (Bw.ifF rfl (Bw.bind (Bw.ofEq Eo.made (Bw.bind (Bw.pure ?_))))))));refine Bw.bind (Bw.holding (Bw.runValue (Bw.ofCode (codeAny_mono (Mj (E:=E) (Q₁:=λv s'=> v= .ref s.heap.objs.size/\s' ={s with heap:=s.heap.push (Ao [])}) ⟨rfl,rfl⟩) λr s' h=> ?_))));induction r using Except.casesOn with
 |error e=> exact h
 |ok f=>
  cases f with
  |ret v=>
   obtain ⟨rfl,rfl⟩:=h;have ho:(s.heap.push (Ao [])).get? s.heap.objs.size=some (Ao []):=Heap.get?_push_size _ rfl;have hT:({s with heap:=s.heap.push (Ao [])}:Shared).TypeIs (.ref s.heap.objs.size) "bytearray" :=⟨_,ho,rfl⟩;refine Bw.Ar (wpAny_isInstance hT Dq (Bw.ifF rfl (Bw.bind (Bw.holding ?_))));unfold callSpecial?;refine Bw.Ar (wpAny_specialOf hT DH.lookup (Bw.holding ?_));rw [DH.bind];refine Bw.bind (Bw.pure (Bw.bind (Bw.Ht (rest:= []) DH hT KJ (Lo _) (QO _) ?_)));refine Bw.mono (Ut ho (Q:=λs'=> Q (.ref s.heap.objs.size) s') λh' sb g=> q h' _ rfl sb g) (λfin s' h=> ?_) λυ υ e=> e
   obtain ⟨v,rfl,rfl,h⟩:=h;exact ⟨.none,rfl,Bw.pure (Bw.ifF rfl (Bw.pure h))⟩
  |_=> exact h.elim
end
theorem Mm:typeLookup (.type "bytearray") "__bytes__" =pure none:=by rw [typeLookup_type,builtinLookup_eq_fast];kernel_rfl
theorem Ma:typeLookup (.type "bytearray") "__index__" =pure none:=by rw [typeLookup_type,builtinLookup_eq_fast];kernel_rfl
theorem GR:typeLookup (.type "bytearray") "__buffer__" =pure (some (.builtin "bytearray.__buffer__")):=by rw [typeLookup_type,builtinLookup_eq_fast];kernel_rfl
theorem DE:typeLookup (.type "bytes") "__buffer__" =pure (some (.builtin "bytes.__buffer__")):=by rw [typeLookup_type,builtinLookup_eq_fast];kernel_rfl
theorem Qs:typeLookup (.type "bytes") "__release_buffer__" =pure none:=by rw [typeLookup_type,builtinLookup_eq_fast];kernel_rfl
section
variable {prog:Program} {w:World} {A:Around} {E:VP} {s:Shared}
theorem IM {a:Addr} {b:List UInt8} {Q:Array UInt8->Shared->Prop} (ho:s.heap.get? a=some (Ao b)) (q:Q b.toArray s):wpAny (model prog w) A (Builtin.Bytes.payload (.ref a)) Q E s:=by
 unfold Builtin.Bytes.payload Builtin.Bytes.payload?;exact wpAny_bind (wpAny_bind (wpAny_load ho (wpAny_pure (wpAny_pure q))))
theorem N3 {a:Addr} {b:List UInt8} {Q:Bool->Shared->Prop} (ho:s.heap.get? a=some (Ao b)) (q:Q true s):wpAny (model prog w) A (Builtin.Bytes.slotIsOwn (.ref a) "__buffer__") Q E s:=by
 have hT:s.TypeIs (.ref a) "bytearray" :=⟨_,ho,rfl⟩;unfold Builtin.Bytes.slotIsOwn;refine wpAny_bind (wpAny_specialOf hT GR ?_);dsimp only;refine bm_if_false (by decide +kernel) ?_;rw [show ("bytearray.__buffer__".dropRight ("__buffer__".length + 1))= "bytearray" from by decide +kernel];exact wpAny_isInstance hT Dq q
theorem QX {id:String} {full:Bool} {a:Addr} {b:List UInt8} {Q:Option (Array UInt8)->Shared->Prop} (ho:s.heap.get? a=some (Ao b)) (q:Q (some b.toArray) s):wpAny (model prog w) A (Builtin.Bytes.buffer? id (.ref a) full) Q E s:=by
 have hT:s.TypeIs (.ref a) "bytearray" :=⟨_,ho,rfl⟩;unfold Builtin.Bytes.buffer?;refine wpAny_bind (wpAny_specialOf hT GR ?_);refine wpAny_bind (N3 ho (bm_if_false rfl ?_));refine wpAny_bind (wpAny_specialOf hT GR (wpAny_bind (own_release ho (bm_if_false rfl (wpAny_bind (IM ho (wpAny_pure q)))))))
theorem Pr {a:Addr} {b:List UInt8} {Q:VP} (ho:s.heap.get? a=some (Ao b)) (hz:b.length <= sizeLine) (q:∀t k,Q (.bytes b.toArray t) {s with toks:=k}):
  codeAny (model prog w) A (.call (.builtin "bytes.__new__") ⟨[.type "bytes",.ref a],[]⟩) (wants Q E) s:=by
 refine codeAny_of_tree ?_;show wpAny _ A.in1 (do checkBuiltinCall "bytes.__new__" ⟨[.type "bytes",.ref a],[]⟩;again (.builtin "bytes.__new__" ⟨[.type "bytes",.ref a],[]⟩)) _ _ s;refine wpAny_bind (wpAny_of_eq (PySem.F.bm_newCall _) (wpAny_pure ⟨plainId_quiet PySem.F.bm_plain _,codeAny_builtin PySem.F.bm_entry ?_⟩));rw [Around.under_plainId PySem.F.bm_plain _];have hT:s.TypeIs (.ref a) "bytearray" :=⟨_,ho,rfl⟩;unfold Builtin.«bytes.__new__»;refine wpAny_bind (wpAny_of_eq (a:=true) rfl ?_);refine bm_if_false rfl ?_;refine wpAny_bind (wpAny_of_eq PySem.F.bm_sub ?_);refine bm_if_false rfl ?_;refine wpAny_bind (wpAny_of_eq (PySem.F.bm_bind _) ?_);refine wpAny_bind (wpAny_of_eq (a:=()) rfl ?_);refine wpAny_bind (wpAny_of_eq (a:=()) rfl ?_);refine bm_if_false rfl ?_;refine wpAny_bind (wpAny_specialOf hT Mm ?_);refine wpAny_bind (wpAny_bind (m:=asStr? (.ref a)) ?_);show wpAny _ _ (load a >>=_) _ _ _;refine wpAny_bind (wpAny_load ho (wpAny_pure (wpAny_pure ?_)));refine bm_if_false rfl ?_;refine wpAny_bind (wpAny_specialOf hT Ma ?_);refine bm_if_true rfl ?_;refine wpAny_bind (QX ho (wpAny_bind (wpAny_rule (wpAny_bind (wpAny_mkBytes ?_ (by rw [List.size_toArray];exact hz))))));refine bm_if_true (by decide) ?_
 first
  |exact wpAny_pure (q _ _)
  |exact wpAny_bind (wpAny_pure (wpAny_pure (q _ _)))
theorem Mo {a:Addr} {b:List UInt8} {Q:VP} (ho:s.heap.get? a=some (Ao b)) (hz:b.length <= sizeLine) (q:∀t k,Q (.bytes b.toArray t) {s with toks:=k}):
  wpAny (model prog w) A (call (.type "bytes") [.ref a]) Q E s:=by
 refine callType_codes (Q₁:=λobj s₁=> s₁.TypeIs obj "bytes" /\Q obj s₁) PySem.F.bm_called (PySem.F.bm_typeCall _) F.entry_object_init
  (Pr ho hz λt k=> ⟨PySem.W.typeIs_bytes _ _ _,q t k⟩) λobj s₁ h₁=> ?_
 exact ⟨h₁.1,F.args_object_init_2 obj _,object_init_meets PySem.F.bm_called.init.lookup PySem.F.bm_called.made (by decide) prog w A.in1 _ s₁ ⟨h₁.1,rfl,h₁.2⟩⟩
end
theorem Ln {T:Tb} {F:Ad} {μ:Mu} {ws:List W} {vs:List Value} {b:List UInt8} (r:AD T F μ ws vs) (e:toBytes ws=some b):E14 (λ(ns:List Int)=> IntsAre vs ns) (λns=> (∀n ∈ ns,0 <= n/\n < 256)) (λns=> byteArr ns=b.toArray) (λns=> ns.length=b.length):=by
 induction ws generalizing vs b with
 |nil=> cases (show vs= [] from r);clear r;cases e;exact ⟨[],.nil,λυ m=> (nomatch m),rfl,rfl⟩
 |cons w ws ih=>
  obtain ⟨v,us,rfl,r1,r2⟩:=r;obtain ⟨i,e1,e2⟩:=AA (show (ob (BL w) λi=> ob (CY i) λn=> gd (Nat.blt n 256) (ob (toBytes ws) λr=> some (UInt8.ofNat n::r)))=some b from e);obtain ⟨n,e3,e4⟩:=AA e2;obtain ⟨h,e4⟩:=AJ e4;obtain ⟨c,e5,e6⟩:=AA e4;cases A8 e1;cases CC e3;clear e e1 e2 e3 e4;cases e6;clear e4;obtain ⟨t,rfl⟩:=r1;obtain ⟨ns,h1,h2,h3,h4⟩:=ih r2 e5;have h:=lBl (show Nat.ble (n + 1) 256=true from h);refine ⟨(n:Int)::ns,.cons _ _ h1,λm hm=> ?_, ?_,congrArg Nat.succ h4⟩
  ·rcases mCo hm with rfl |hm
   ·lia
   ·exact h2 m hm
  ·have h3:ns.map (λn=> n.toNat.toUInt8)=c:=by have:=congrArg Array.toList h3;unfold byteArr at this;simpa using this
   unfold byteArr;rw [List.map_cons,h3];rfl
section
variable {C:Cx}
theorem RU (O:C.Ok) (hh:C.A.handled=none):B1 C 3:=λ{x l s v w y Q E} i r e q=> by
 obtain ⟨b,e1,e2⟩:=AA (show (ob (orO (ob (IX w) toBytes) (atO FN x.σ w)) λb=> some (.bytes b))=some y from e);cases e2;show wpAny C.M C.A (call (.type "bytes") _) Q E s;rcases AX e1 with e |e
 ·obtain ⟨ws,e3,e4⟩:=AA e;cases Fd e3;clear e e1 e3;obtain ⟨a,vs,m,rfl,f,hz,rs⟩:=r;obtain ⟨ns,h1,h2,h3,h4⟩:=Ln rs e4;have z:vs.length <= LIM:=by rw [rs.length];exact hz
  have z':b.length <= LIM:=by rw [<- h4,<- h1.length];exact z
  refine call_bytes_ints ⟨_,f.1,rfl,_,rfl⟩ h1 h2 (by rw [sizeLine_eq];unfold LIM at z;lia) hh λh' t k kp=> ?_
  exact q _ {s with heap:=h',toks:=k} (.keeps kp) (In.keeps O i kp) ⟨t,by rw [h3],z'⟩
 ·clear e1;obtain ⟨j,o,rfl,rfl,_,e9,D⟩:=GH i r e;cases Hm e9;obtain ⟨h1,h2⟩:=D;exact Mo h1 (by rw [sizeLine_eq];unfold LIM at h2;lia) λt k=> IQ i q ⟨t,rfl,h2⟩
theorem Mv (oc:C.Ok):Bi C (GG 4) (BJ 4):=by
 refine ⟨λi=> ⟨.machine,Looks.of_pure rfl⟩,λ{x l s vs ws Q E} i r o=> ?_⟩;induction ws using lC with
 |nil=>
  cases (show vs= [] from r);show wpB C.M C.A (call (.type "bytearray") []) Q E s;refine Uh λh' a ha sb g=> ?_
  clear r;subst ha;have kp:Keeps s.heap h':=λb y e=> (sb.2 b (Nat.ne_of_lt (Heap.lt_size e))).trans (Ab _ _ b y e)
  have fr:∀a ∈ O.ad (.barr []) s.heap.objs.size (s.heap.objs.size + 1),lv s.heap <= a/\a < lv h':=λa ha=> by
   cases mSg ha;exact ⟨Al _,Ak g⟩
  exact o _ {s with heap:=h'} (x.add (.barr []) s.heap.objs.size (s.heap.objs.size + 1)) rfl (Go.add kp fr) (i.add oc kp fr (Nat.ne_of_lt (Nat.lt_succ_self _)) λυ=> ⟨g,Nat.zero_le _⟩) ⟨congrArg Value.ref Dz.symm,by simp [Wx.mu,Wx.add]⟩
 |cons w ws=> clear r;cases ws <;> exact o.elim
end
end
section
open PySem PySem.W PySem.Calls PyProof.Rows PySem.SeqAt PySem.StrLaws PySem.Builtin.Str
theorem Em (c a:Nat) (l:List Nat) (n:Nat):Ba c (a::l) n=if a=c then n::Ba c l (n + 1) else Ba c l (n + 1):=by
 show Bool.rec (motive:=λυ=> List Nat) (Ba c l (n + 1)) (n::Ba c l (n + 1)) (Nat.beq a c)=_;generalize h:Nat.beq a c=x9;induction x9 using bC with
 |true=> rw [if_pos (eBq h)]
 |false=> rw [if_neg (Nat.ne_of_beq_eq_false h)]
theorem My {c:Nat} {l:List Nat} {n:Nat}:(Ba c l n).length <= l.length:=by
 induction l generalizing n with
 |nil=> exact Nat.le_refl 0
 |cons a l ih=> rw [Em];split <;> simp only [List.length_cons] <;> have:=ih (n:=n + 1) <;> lia
theorem VW {l:List Nat} {c limit:Nat} {r:List Nat}:∀{k:Nat} {acc:Array Nat} {free:Nat},l.drop k=r->free <= k->
  (forIn (List.range' k (r.length + 1)) (acc,free) (occBody ⟨l.toArray⟩ ⟨#[c]⟩ (⟨l.toArray⟩:Str).length limit)).run.fst.toList=acc.toList ++ (Ba c r k).take (limit - acc.size):=by
 have at_:∀k,(k + (⟨#[c]⟩:Str).length <= (⟨l.toArray⟩:Str).length/\subAt ⟨l.toArray⟩ ⟨#[c]⟩ k=true)↔l[k]? =some c:=λk=> subAt_one ⟨l.toArray⟩ c k
 induction r with
 |nil=>
  intro k acc free e hf;have hn:l[k]? =none:=by have:=congrArg (·[0]?) e;simpa using this
  have h:¬ (((acc.size < limit/\free <= k)/\k + (⟨#[c]⟩:Str).length <= (⟨l.toArray⟩:Str).length)/\subAt ⟨l.toArray⟩ ⟨#[c]⟩ k=true):=λz=> by
   rw [(at_ k).mp ⟨z.1.2,z.2⟩] at hn;cases hn
  rw [List.range'_succ,List.forIn_cons];unfold occBody;rw [if_neg h];show acc.toList=_ ++ List.take _ [];simp
 |cons a r ih=>
  intro k acc free e hf;have ha:l[k]? =some a:=by have:=congrArg (·[0]?) e;simpa using this
  have e':l.drop (k + 1)=r:=by rw [<- List.drop_drop,e];rfl
  rw [show (a::r).length + 1=(r.length + 1) + 1 from rfl,List.range'_succ,List.forIn_cons,Em];by_cases hc:a=c
  ·rw [if_pos hc];by_cases hs:acc.size < limit
   ·have h:(((acc.size < limit/\free <= k)/\k + (⟨#[c]⟩:Str).length <= (⟨l.toArray⟩:Str).length)/\subAt ⟨l.toArray⟩ ⟨#[c]⟩ k=true):=by
     have:=(at_ k).mpr (by rw [ha,hc]);exact ⟨⟨⟨hs,hf⟩,this.1⟩,this.2⟩
    have:=ih (k:=k + 1) (acc:=acc.push k) (free:=k + 1) e' (Nat.le_refl _);rw [show occBody ⟨l.toArray⟩ ⟨#[c]⟩ (⟨l.toArray⟩:Str).length limit k (acc,free)=pure (ForInStep.yield (acc.push k,k + 1)) from if_pos h];refine this.trans ?_;rw [Array.toList_push,Array.size_push,show limit - acc.size=(limit - (acc.size + 1)) + 1 by lia,List.take_succ_cons];simp
   ·have h:¬ (((acc.size < limit/\free <= k)/\k + (⟨#[c]⟩:Str).length <= (⟨l.toArray⟩:Str).length)/\subAt ⟨l.toArray⟩ ⟨#[c]⟩ k=true):=λz=> hs z.1.1.1
    rw [show occBody ⟨l.toArray⟩ ⟨#[c]⟩ (⟨l.toArray⟩:Str).length limit k (acc,free)=pure (ForInStep.yield (acc,free)) from if_neg h];refine (ih (k:=k + 1) (acc:=acc) (free:=free) e' (Nat.le_succ_of_le hf)).trans ?_;rw [show limit - acc.size=0 by lia];simp
  ·rw [if_neg hc];have h:¬ (((acc.size < limit/\free <= k)/\k + (⟨#[c]⟩:Str).length <= (⟨l.toArray⟩:Str).length)/\subAt ⟨l.toArray⟩ ⟨#[c]⟩ k=true):=λz=> by
    have:=(at_ k).mp ⟨z.1.2,z.2⟩;rw [ha] at this;exact hc (sIj this)
   rw [show occBody ⟨l.toArray⟩ ⟨#[c]⟩ (⟨l.toArray⟩:Str).length limit k (acc,free)=pure (ForInStep.yield (acc,free)) from if_neg h];exact ih (k:=k + 1) (acc:=acc) (free:=free) e' (Nat.le_succ_of_le hf)
theorem JR (l:List Nat) (c limit:Nat):occurrences ⟨l.toArray⟩ ⟨#[c]⟩ 0 (⟨l.toArray⟩:Str).length limit=(Ba c l 0).take limit:=by
 rw [occ_eq,show (⟨l.toArray⟩:Str).length + 1 - 0=l.length + 1 from by rw [str_len];rfl];exact (VW (l:=l) (r:=l) (k:=0) (acc:=#[]) (free:=0) (by simp) (Nat.le_refl 0)).trans (by simp)
noncomputable def parts (l:List Nat) (s:Nat) (P:List Nat):List Str:=((s::P.map (· + 1)).zip (P ++ [l.length])).map λq=> strSub ⟨l.toArray⟩ q.1 q.2
theorem Lh (l:List Nat) (i j:Nat):strSub ⟨l.toArray⟩ i j=⟨((l.drop i).take (j - i)).toArray⟩:=by
 have:(strSub ⟨l.toArray⟩ i j).cps.toList=(l.drop i).take (j - i):=(strSub_toList ..).trans (by simp);rw [<- this]
theorem Eu (c a:Nat) (r:List Nat):E22 (λx y=> AB c r=x::y) (λx y=> AB c (a::r)=if a=c then []::x::y else (a::x)::y):=by
 have ne:∃x y,AB c r=x::y:=by
  induction r using lC with
  |nil=> exact ⟨_,_,rfl⟩
  |cons b r=>
   unfold AB;cases Nat.beq b c with
   |true=> exact ⟨_,_,rfl⟩
   |false=> cases AB c r <;> exact ⟨_,_,rfl⟩
 obtain ⟨x,y,h⟩:=ne;refine ⟨x,y,h, ?_⟩;rw [AB,h];generalize hb:Nat.beq a c=x9;induction x9 using bC with
 |true=> rw [if_pos (eBq hb)];rfl
 |false=> rw [if_neg (Nat.ne_of_beq_eq_false hb)];rfl
theorem TQ {l:List Nat} {c:Nat} {r:List Nat}:∀{s k:Nat},l.drop k=r->s <= k->k <= l.length->∃x y,AB c r=x::y/\parts l s (Ba c r k)=⟨((l.drop s).take (k - s) ++ x).toArray⟩::y.map λz=> ⟨z.toArray⟩:=by
 induction r with
 |nil=>
  intro s k e hs hk;have hk:k=l.length:=by have:=congrArg List.length e;simp at this;lia
  refine ⟨[],[],rfl, ?_⟩;show [strSub ⟨l.toArray⟩ s l.length]=_;rw [Lh,hk,List.append_nil];rfl
 |cons a r ih=>
  intro s k e hs hk;have e':l.drop (k + 1)=r:=by rw [<- List.drop_drop,e];rfl
  have hk':k + 1 <= l.length:=by have:=congrArg List.length e;simp at this;lia
  obtain ⟨x,y,h1,h2⟩:=Eu c a r;rw [Em,h2];by_cases hc:a=c
  ·rw [if_pos hc,if_pos hc];obtain ⟨x',y',h3,h4⟩:=ih (s:=k + 1) (k:=k + 1) e' (Nat.le_refl _) hk';rw [h1] at h3;cases h3;refine ⟨[],x::y,rfl, ?_⟩;show strSub ⟨l.toArray⟩ s k::parts l (k + 1) (Ba c r (k + 1))=_;rw [h4,Lh,Nat.sub_self,List.append_nil,List.take_zero];rfl
  ·rw [if_neg hc,if_neg hc];obtain ⟨x',y',h3,h4⟩:=ih (s:=s) (k:=k + 1) e' (Nat.le_succ_of_le hs) hk';rw [h1] at h3;cases h3;refine ⟨a::x,y,rfl, ?_⟩;rw [h4];have:(l.drop s).take (k + 1 - s)=(l.drop s).take (k - s) ++ [a]:=by
    rw [show k + 1 - s=(k - s) + 1 by lia,List.take_add_one,List.getElem?_drop,show s + (k - s)=k by lia];have:l[k]? =some a:=by have:=congrArg (·[0]?) e;simpa using this
    rw [this];rfl
   rw [this,List.append_assoc];rfl
theorem HU (l:List Nat) (c:Nat):partsBetween ⟨l.toArray⟩ (Ba c l 0) 1=(AB c l).map λz=> ⟨z.toArray⟩:=by
 obtain ⟨x,y,h1,h2⟩:=TQ (l:=l) (c:=c) (r:=l) (s:=0) (k:=0) (by simp) (Nat.le_refl 0) (Nat.zero_le _);rw [h1,List.map_cons];have h2:parts l 0 (Ba c l 0)=⟨x.toArray⟩::y.map λz=> ⟨z.toArray⟩:=by simpa using h2
 rw [<- h2];unfold partsBetween parts;rw [str_len]
theorem Jx (c:Nat) (l:List Nat):(AB c l).flatten=Bh c l:=by
 induction l with
 |nil=> rfl
 |cons a l ih=>
  obtain ⟨x,y,h1,h2⟩:=Eu c a l;rw [h2];rw [h1] at ih;unfold Bh at ih ⊢;rw [List.filter_cons,<- ih];by_cases hc:a=c
  ·clear h1 h2 ih;subst hc;rw [if_pos rfl,show Nat.beq a a=true from Nat.beq_refl a];rfl
  ·rw [if_neg hc,show Nat.beq a c=false from Bool.eq_false_iff.mpr λz=> hc (eBq z)];rfl
theorem SQ (ls:List (List Nat)):∀(acc:List Nat),(ls.map λz:List Nat=> (⟨z.toArray⟩:Str)).foldl (λacc p=> acc ++ (#[]:Array Nat) ++ p.cps) acc.toArray=(acc ++ ls.flatten).toArray:=by
 induction ls with
 |nil=> intro acc;simp
 |cons x ls ih=>
  intro acc;rw [List.map_cons,List.foldl_cons];have:=ih (acc ++ x);simp only [List.append_toArray,Array.append_empty] at this ⊢;rw [List.flatten_cons,<- List.append_assoc];exact this
theorem QL (ls:List (List Nat)):glued ⟨#[]⟩ (ls.map λz=> ⟨z.toArray⟩)=⟨ls.flatten.toArray⟩:=by
 induction ls using lC with
 |nil=> rfl
 |cons x ls=>
  unfold glued;rw [List.map_cons];exact congrArg Str.mk (SQ ls x)
structure Bm (C:Cx) (k tag:Nat) (name:Str) (v:Value) (id:String) (s1:Shared):Prop where
 get:∀{Q:Value × List Value->Shared->Prop} {E:VP} {pl:Sem Bool},Q (.builtin id,[v]) s1->wpAny C.M C.A (getMethod v name pl) Q E s1
 call:∀{x:Wx} {l:LL} {s:Shared} {vs:List Value} {w:W} {ws:List W} {Q:VP} {E:VP},In C x l s.heap->C.rel x s.heap v w->C.BF x s.heap vs ws->Ci x.σ w=some tag->Out C x l s C.rel (Cc k w ws x.σ) Q E->wpB C.M C.A (call (.builtin id) (v::vs)) Q E s
theorem Bm.callable {C:Cx} {k tag:Nat} {name:Str} {v:Value} {id:String} {s1:Shared} (B:Bm C k tag name v id s1) {es:List E} {fs:List SE} (D:AOk C es fs) {x:Wx} {l:LL} {s:Shared} {w:W} {p p':Pos} {Q:VP} {E:VP} (i:In C x l s.heap) (r:C.rel x s.heap v w)
  (o:Out C x l s C.rel ((args fs l x.σ).bind λws σ=> kR 45 (ob (Ci σ w) λu=> gd (Nat.beq tag u) (some (Cc k w ws σ)))) Q E):wpB C.M C.A (callWith p (.builtin id) [v] (backTo p' (starEach (AV C.T es) C.env)) []) Q E s:=by
 refine BG (BV es) (Bw.mono ((DC D).run i o) (λvs s1 h=> ?_) λυ υ e=> e);obtain ⟨x1,ws,g1,i1,r1,o1⟩:=h;refine ⟨⟨.machine,Looks.of_pure rfl⟩, ?_⟩;obtain ⟨y,h,o1⟩:=Dw o1;obtain ⟨u,h1,h2⟩:=AA h;obtain ⟨h3,h2⟩:=AJ h2;clear h;cases h2;exact B.call i1 (Aq i g1 r) r1 (by rw [h1,eBq h3]) o1
def Ez (C:Cx) (k:Nat) (name:Str):Prop:=∀{x:Wx} {l:LL} {s1:Shared} {v:Value} {w:W} {tag:Nat},In C x l s1.heap->C.rel x s1.heap v w->Ci x.σ w=some tag->Ka k tag=true->∃id,Bm C k tag name v id s1
theorem Q6 {C:Cx} {e:E} {f:SE} {k:Nat} {name:Str} {es:List E} {fs:List SE} {ap p:Pos} (D:EOk C (den C.T e) f) (ns:CM e=true) (lp:ap.endLine=p.line) (few:es.length < 30) (K:Ez C k name) (DA:AOk C es fs):
  EOk C (.Call (.Attribute (den C.T e) name ap) (AV C.T es) [] p) (DF f k fs):=by
 intro x l s Q E i o;refine Dx D ns lp few i o λx' s' v w pl i' r o'=> ?_
 obtain ⟨y,h,o'⟩:=Dw o';obtain ⟨t,e1,e2⟩:=AA h;obtain ⟨e3,e4⟩:=AJ e2;clear e2 h;cases e4;obtain ⟨id,B⟩:=K i' r e1 e3;exact B.get (B.callable DA i' r o')
section
variable {C:Cx} {x:Wx} {l:LL} {s:Shared} {v:Value} {w:W}
theorem M9 (r:C.rel x s.heap v w) (e:Ci x.σ w=some 0):E23 (λt u=> w= .str t) (λt u=> v= .str ⟨t.toArray⟩ u) (λt u=> t.length <= LIM):=by
 induction w using W.casesOn with
 |str t=> clear e;obtain ⟨u,rfl,h⟩:=r;exact ⟨t,u,rfl,rfl,h⟩
 |ref i=>
  obtain ⟨o,_,h⟩:=AA (show ob (nth x.σ i) Gn=some 0 from e);clear e r;cases o <;> cases h
 |_=> clear r;cases e
theorem Ji {t:Nat} (i:In C x l s.heap) (r:C.rel x s.heap v w) (e:Ci x.σ w=some t) (h:t=1\/t=2):E24 (λa o=> v= .ref a) (λa o=> s.heap.get? a=some o) (λa o=> o.dict=none) (λa o=> o.cls= .type (bif Nat.beq t 1 then "list" else "bytearray")):=by
 induction w using W.casesOn with
 |str=> clear r;cases e;rcases h with h |h <;> cases h
 |dct=> clear r;cases e;rcases h with h |h <;> cases h
 |lst ws=> clear h;cases e;obtain ⟨a,vs,n,rfl,f,_⟩:=r;exact ⟨a,_,rfl,f.1,rfl,rfl⟩
 |ref j=>
  obtain ⟨o,ho,h⟩:=AA (show ob (nth x.σ j) Gn=some t from e);cases r.1;have D:=i.wd.own j o ho;induction o using O.casesOn with
  |list=> clear e ho r;cases h;obtain ⟨vs,n,h1,_⟩:=D;exact ⟨_,_,rfl,h1,rfl,rfl⟩
  |barr=> clear e ho r;cases h;exact ⟨_,_,rfl,D.1,rfl,rfl⟩
  |_=> exact nn h
 |_=> exact nn e
theorem C8 {α:Type} {σ:List O} {w:W} {f:Nat->O->Option α} {y:α} (e:onO σ w f=some y):E23 (λj o=> w= .ref j) (λj o=> nth σ j=some o) (λj o=> f j o=some y):=by
 obtain ⟨j,h1,h2⟩:=AA e;obtain ⟨o,h3,h4⟩:=AA h2;exact ⟨j,o,Eg h1,h3,h4⟩
end
theorem JY:typeOf (.builtin "bytearray.append")=pure (.type "method_descriptor"):=by show builtinType _=_;rw [builtinType_eq_fast];kernel_rfl
theorem JK:typeOf (.builtin "bytearray.extend")=pure (.type "method_descriptor"):=by show builtinType _=_;rw [builtinType_eq_fast];kernel_rfl
theorem S4 (vs:List Value) (n:Nat) (u:Value):∃m,Obj.mapSeq (λx=> x.push u) (AI vs n)=AI (vs ++ [u]) m:=by
 unfold AI Obj.mapSeq;exact ⟨_,by simp;rfl⟩
theorem Vi (vs us:List Value) (n:Nat):∃m,Obj.mapSeq (λx=> x ++ us.toArray) (AI vs n)=AI (vs ++ us) m:=by
 unfold AI Obj.mapSeq;exact ⟨_,by simp;rfl⟩
section
variable {C:Cx} {x:Wx} {l:LL} {s:Shared}
theorem BN {n:Nat} (h:n <= LIM):n <= sizeLine:=by rw [sizeLine_eq];unfold LIM at h;lia
theorem list_set (oc:C.Ok) (i:In C x l s.heap) {j:Nat} {ws ws':List W} {f:AN->AN} {vs':List Value} {n':Nat} {y:W} {v:Value} {o:AN} {Q:VP} {E:VP} (hj:nth x.σ j=some (.list ws)) (ho:s.heap.get? (x.μ j)=some o) (hf:f o=AI vs' n') (rs:C.BF x s.heap vs' ws') (hz:ws'.length <= LIM) (r:C.rel x s.heap v y)
  (ou:Out C x l s C.rel (.ok y (put x.σ j (.list ws'))) Q E):Q v {s with heap:=s.heap.update (x.μ j) f}:=by
 have g:(s.heap.update (x.μ j) f).get? (x.μ j)=some (AI vs' n'):=hf▸Heap.get?_update_self _ ho (by rw [hf];rfl);obtain ⟨a1,a2⟩:=i.Ft oc (tk:=s.toks) (h':=s.heap.update (x.μ j) f) hj rfl (o':= .list ws') rfl (Heap.SameBut.update ..) g λfz=> ⟨vs',n',g,AD.mono fz (Mu.le_refl _) rs,hz⟩
 exact ou v _ _ rfl a1 a2 (Aq i a1 r)
theorem Nb (oc:C.Ok) (i:In C x l s.heap) {j:Nat} {b b':List UInt8} {h':Heap} {Q:VP} {E:VP} (hj:nth x.σ j=some (.barr b)) (sb:Heap.SameBut (x.μ j) s.heap h') (g:h'.get? (x.μ j)=some (Ao b')) (hz:b'.length <= LIM)
  (ou:Out C x l s C.rel (.ok .none (put x.σ j (.barr b'))) Q E):Q .none {s with heap:=h'}:=by
 obtain ⟨a1,a2⟩:=i.Ft oc (tk:=s.toks) hj rfl (o':= .barr b') rfl sb g λfz=> ⟨g,hz⟩
 exact ou .none _ _ rfl a1 a2 rfl
theorem FL {n:Nat} {z:Option (List O)} {Q:VP} {E:VP} (o:Out C x l s C.rel (unit n z) Q E):∃σ',z=some σ'/\Out C x l s C.rel (.ok .none σ') Q E:=by
 obtain ⟨r,h,o⟩:=Dw o;obtain ⟨σ',h1,h2⟩:=AA h;clear h;cases h2;exact ⟨σ',h1,o⟩
end
section
variable {C:Cx}
theorem Jh {k:Nat} {name:Str} {id:String} {a:Addr} {s1:Shared} {o:AN} (sl:Slot "list" name id) (ty:typeOf (.builtin id)=pure (.type "method_descriptor")) (ho:s1.heap.get? a=some o) (hd:o.dict=none) (hc:o.cls= .type "list")
  (call:∀{x:Wx} {l:LL} {s:Shared} {vs:List Value} {ws:List W} {j:Nat} {ys:List W} {us:List Value} {n:Nat} {Q:VP} {E:VP},In C x l s.heap->C.BF x s.heap vs ws->nth x.σ j=some (.list ys)->s.heap.get? (x.μ j)=some (AI us n)->C.BF x s.heap us ys->ys.length <= LIM->Out C x l s C.rel (Cc k (.ref j) ws x.σ) Q E->wpB C.M C.A (call (.builtin id) (.ref (x.μ j)::vs)) Q E s)
  (only:∀{σ:List O} {w:W} {ws:List W},Ci σ w=some 1->(∃j l,w= .ref j/\nth σ j=some (.list l))\/∃n,Cc k w ws σ= .stuck n):Bm C k 1 name (.ref a) id s1:=
 ⟨λq=> getMethod_builtin ⟨o,ho,hc⟩ PySem.F.plainAttrs_list sl ty (λb e=> by cases e;exact ⟨o,ho,hd⟩) q,λ{x l s vs w ws Q E} i r rs e ou=> by
  rcases only e (ws:=ws) with ⟨j,l,rfl,hj⟩ |⟨n,h⟩
  ·rw [r.1];obtain ⟨us,n,h1,h2,h3⟩:=i.wd.own j _ hj;exact call i rs hj h1 h2 h3 ou
  ·rw [h] at ou;exact ou.elim⟩
theorem Rk {σ:List O} {w:W} (e:Ci σ w=some 1):(∃j l,w= .ref j/\nth σ j=some (.list l))\/∃l,w= .lst l:=by
 induction w using W.casesOn with
 |lst l=> exact .inr ⟨l,rfl⟩
 |ref j=>
  obtain ⟨o,ho,h⟩:=AA (show ob (nth σ j) Gn=some 1 from e);induction o using O.casesOn with
  |list l=> exact .inl ⟨j,l,rfl,ho⟩
  |_=> clear e ho;cases h
 |_=> cases e
theorem bG {σ:List O} {w:W} {ws:List W} (e:Ci σ w=some 1):(∃j l,w= .ref j/\nth σ j=some (.list l))\/∃n,Cc 0 w ws σ= .stuck n:=by
 rcases Rk e with h |⟨l,rfl⟩
 ·exact .inl h
 ·rcases ws with _ |⟨a,_ |⟨b,ws⟩⟩ <;> exact .inr ⟨_,rfl⟩
theorem Zb {σ:List O} {w:W} {ws:List W} (e:Ci σ w=some 1):(∃j l,w= .ref j/\nth σ j=some (.list l))\/∃n,Cc 1 w ws σ= .stuck n:=by
 rcases Rk e with h |⟨l,rfl⟩
 ·exact .inl h
 ·rcases ws with _ |⟨a,_ |⟨b,ws⟩⟩ <;> exact .inr ⟨_,rfl⟩
theorem bR {σ:List O} {w:W} {ws:List W} (e:Ci σ w=some 1):(∃j l,w= .ref j/\nth σ j=some (.list l))\/∃n,Cc 2 w ws σ= .stuck n:=by
 rcases Rk e with h |⟨l,rfl⟩
 ·exact .inl h
 ·rcases ws with _ |⟨a,_ |⟨b,ws⟩⟩ <;> exact .inr ⟨_,rfl⟩
theorem Dk {x:Wx} {l:LL} {s:Shared} {vs:List Value} {ws:List W} {k:Nat} {w:W} {Q:VP} {E:VP} (h0:∀σ,∃n,Og k w σ= .stuck n) (rs:C.BF x s.heap vs ws) (ou:Out C x l s C.rel (Cc k w ws x.σ) Q E):
  ∃u y,vs= [u]/\ws= [y]/\C.rel x s.heap u y/\Out C x l s C.rel (T9 k w y x.σ) Q E:=by
 induction ws using lC with
 |nil=> obtain ⟨n,h⟩:=h0 x.σ;rw [show Cc k w [] x.σ=Og k w x.σ from rfl,h] at ou;exact ou.elim
 |cons y ws=>
  obtain ⟨u,us,rfl,r1,r2⟩:=rs;induction ws using lC with
  |nil=> cases (show us= [] from r2);exact ⟨u,y,rfl,rfl,r1,ou⟩
  |cons=> exact ou.elim
theorem MW {k tag:Nat} (h:k=0\/k=1) (e:Ka k tag=true):tag=1\/tag=2:=by
 rcases h with rfl |rfl <;> exact (Bool.or_eq_true_iff.mp e).imp eBq eBq
theorem NL {id:String} {a:Addr} {v:Value} (h:∀p u,Gk u (.builtin id ⟨[.ref a,v],[]⟩,p)=(Builtin.Bytes.sameRef (.ref a) u && Builtin.Bytes.decodersThatHold.contains id)) (n:Builtin.Bytes.decodersThatHold.contains id=false):Cs (.builtin id ⟨[.ref a,v],[]⟩):=λu p=> by rw [h,n,Bool.and_false]
theorem Sd (oc:C.Ok) {x:Wx} {l:LL} {s:Shared} {b:List UInt8} {n:Nat} {t:Tok} {j:Nat} {Q:VP} {E:VP} (i:In C x l s.heap) (hj:nth x.σ j=some (.barr b)) (hn:n < 256) (hb:b.length < LIM)
  (ou:Out C x l s C.rel (.ok .none (put x.σ j (.barr (b ++ [UInt8.ofNat n])))) Q E):wpB C.M C.A (call (.builtin "bytearray.append") [.ref (x.μ j),.int (n:Int) t]) Q E s:=by
 obtain ⟨h1,h2⟩:=i.wd.own j _ hj;have hT:s.TypeIs (.ref (x.μ j)) "bytearray" :=⟨_,h1,rfl⟩;refine Bw.Ht (rest:= [.int (n:Int) t]) FG hT Ig (JP _ _) (NL (λυ υ=> rfl) (by decide +kernel)) ?_;unfold Builtin.«bytearray.append»;refine Bw.bind (Bw.ofEq (a:=(.ref (x.μ j),.int (n:Int) t)) rfl ?_);refine Bw.bind (m:=Builtin.Bytes.byteValue (.int (n:Int) t)) ?_;unfold Builtin.Bytes.byteValue;refine Bw.bind (Bw.ofEq (a:=(n:Int)) rfl (Bw.ifF (by simp only [Bool.or_eq_false_iff,decide_eq_false_iff_not];lia) (Bw.pure ?_)));refine Bw.bind (Bw.resize h1 (Bw.Ar (Bw.write (c:=b ++ [UInt8.ofNat n]) h1 (by simp) (BN (by simp;lia)) λh' sb g=> ?_)));exact Bw.pure ⟨.none,rfl,Nb oc i hj sb g (by simp;lia) ou⟩
theorem Qu (oc:C.Ok):Ez C 0 "append" :=λ{x1 l1 s1 v w tag} i1 r1 e1 ok=> by
 have tg:=MW (.inl rfl) ok;clear ok;obtain ⟨a,o,rfl,ho,hd,hc⟩:=Ji i1 r1 e1 tg;clear e1 r1;rcases tg with rfl |rfl
 ·refine ⟨"list.append",Jh PySem.F.slot_list_append PySem.F.type_list_append ho hd hc (λ{x l s vs ws j ys us n Q E} i rs hj h1 h2 h3 ou=> ?_) bG⟩;obtain ⟨u,y,rfl,rfl,ru,ou⟩:=Dk (λυ=> ⟨_,rfl⟩) rs ou;obtain ⟨σ',e,ou⟩:=FL ou;obtain ⟨j',o',e2,e3,e4⟩:=C8 e;clear rs;cases e2;rw [hj] at e3;cases e3;rcases AX e4 with e |e
  ·obtain ⟨ys',h,e5⟩:=AA e;obtain ⟨hz,e5⟩:=AJ e5;cases Bj h;clear e e4 h;cases e5;have hz:=lBl (show Nat.ble (ys.length + 1) LIM=true from hz);obtain ⟨m,hm⟩:=S4 us n u;refine Bw.of (call_meets (rest:= [u]) PySem.F.slot_list_append ⟨_,h1,rfl⟩ PySem.F.entry_list_append (PySem.F.args_list_append_2 _ _) (AutoListH.list_append_list_val_0 _ us.toArray n u (by rw [List.size_toArray,h2.length];exact BN h3)) ⟨h1, ?_⟩);exact list_set oc i hj h1 hm (AD.append (AD.one ru) h2) (by rw [List.length_append];exact hz) (show C.rel x s.heap .none .none from rfl) ou
  ·obtain ⟨_,h,_⟩:=AA e;clear e e4 hj ou;cases h
 ·refine ⟨"bytearray.append",λq=> getMethod_builtin ⟨o,ho,hc⟩ K6 FG JY (λb e=> by cases e;exact ⟨o,ho,hd⟩) q,λ{x l s vs w ws Q E} i r rs et ou=> ?_⟩;obtain ⟨u,y,rfl,rfl,ru,ou⟩:=Dk (λυ=> ⟨_,rfl⟩) rs ou;obtain ⟨σ',e,ou⟩:=FL ou;clear rs;obtain ⟨j,o',rfl,hj,e4⟩:=C8 e;rw [show Ci x.σ (.ref j)=ob (nth x.σ j) Gn from rfl,hj] at et;rw [r.1];rcases AX e4 with e |e
  ·obtain ⟨l',h,_⟩:=AA e;cases Bj h;clear e e4 h hj ou;cases et
  ·obtain ⟨b,h,e5⟩:=AA e;obtain ⟨z,e6,e7⟩:=AA e5;obtain ⟨n,e8,e9⟩:=AA e7;obtain ⟨h10,e10⟩:=AJ e9;cases Hm h;cases A8 e6;cases CC e8;clear e e4 e5 e6 e7 e8 e9 et h;cases e10;clear e;obtain ⟨t,rfl⟩:=ru;obtain ⟨k1,k2⟩:=Bool.and_eq_true_iff.mp h10;exact Sd oc i hj (lBl k1) (lBl k2) ou
theorem KG {id:String} {full:Bool} {c:List UInt8} {t:Tok} {M:Model} {A:Around} {s:Shared} {Q:Option (Array UInt8)->Shared->Prop} {E:VP} (q:Q (some c.toArray) s):
  wpAny M A (Builtin.Bytes.slotIsOwn (.bytes c.toArray t) "__buffer__") (λb s'=> b=true/\s' =s) E s/\wpAny M A (Builtin.Bytes.buffer? id (.bytes c.toArray t) full) Q E s:=by
 have hB:s.TypeIs (.bytes c.toArray t) "bytes" :=rfl;have own:∀{Q:Bool->Shared->Prop},Q true s->wpAny M A (Builtin.Bytes.slotIsOwn (.bytes c.toArray t) "__buffer__") Q E s:=λq=> by
  unfold Builtin.Bytes.slotIsOwn;refine wpAny_bind (wpAny_specialOf hB DE ?_);dsimp only;refine bm_if_false (by decide +kernel) ?_;rw [show ("bytes.__buffer__".dropRight ("__buffer__".length + 1))= "bytes" from by decide +kernel];exact wpAny_isInstance hB PySem.F.bm_sub q
 refine And.intro (own ⟨rfl,rfl⟩) ?_;unfold Builtin.Bytes.buffer?;refine wpAny_bind (wpAny_specialOf hB DE (wpAny_bind (own (bm_if_false rfl (wpAny_bind (wpAny_specialOf hB DE ?_))))));refine wpAny_bind (m:=Builtin.Bytes.ownRelease (.bytes c.toArray t)) ?_;unfold Builtin.Bytes.ownRelease Builtin.Bytes.slotIsOwn;refine wpAny_bind (wpAny_bind (wpAny_specialOf hB Qs (wpAny_pure (wpAny_pure (bm_if_false rfl ?_)))));exact wpAny_bind (wpAny_bind (wpAny_pure (wpAny_pure (wpAny_pure q))))
theorem VM {c:List UInt8} {t:Tok} {M:Model} {A:Around} {s:Shared} {Q:Option (Array UInt8 × Option Value)->Shared->Prop} {E:VP} (q:Q (some (c.toArray,none)) s):wpAny M A (Builtin.Bytes.takeBufferQuiet? "bytearray.extend" (.bytes c.toArray t) 0) Q E s:=by
 have hB:s.TypeIs (.bytes c.toArray t) "bytes" :=rfl;unfold Builtin.Bytes.takeBufferQuiet?;refine wpAny_bind (wpAny_attempt ?_);unfold Builtin.Bytes.takeBuffer?;refine wpAny_bind (wpAny_specialOf hB DE (wpAny_bind (wpAny_mono (KG (id:= "") (full:=false) (Q:=λυ υ=> True) trivial).1 (λb s' h=> ?_) λυ υ e=> e)));obtain ⟨rfl,rfl⟩:=h;refine bm_if_false rfl (wpAny_bind (wpAny_specialOf hB DE (wpAny_bind ((KG ?_).2))));exact wpAny_pure (wpAny_pure q)
theorem R6 (oc:C.Ok) {x:Wx} {l:LL} {s:Shared} {b c:List UInt8} {t:Tok} {j:Nat} {Q:VP} {E:VP} (i:In C x l s.heap) (hj:nth x.σ j=some (.barr b)) (hb:b.length + c.length <= LIM)
  (ou:Out C x l s C.rel (.ok .none (put x.σ j (.barr (b ++ c)))) Q E):wpB C.M C.A (call (.builtin "bytearray.extend") [.ref (x.μ j),.bytes c.toArray t]) Q E s:=by
 obtain ⟨h1,h2⟩:=i.wd.own j _ hj;have hT:s.TypeIs (.ref (x.μ j)) "bytearray" :=⟨_,h1,rfl⟩;have hB:s.TypeIs (.bytes c.toArray t) "bytes" :=rfl;refine Bw.Ht (rest:= [.bytes c.toArray t]) FA hT Iy (I2 _ _) (NL (λυ υ=> rfl) (by decide +kernel)) ?_;unfold Builtin.«bytearray.extend»;refine Bw.bind (Bw.ofEq (a:=(.ref (x.μ j),.bytes c.toArray t)) rfl ?_);refine Bw.Ar (wpAny_specialOf hB DE (Bw.ifT rfl (Bw.Ar (wpAny_rule (Bw.Ar (IM h1 ?_))))));refine Bw.Ar (VM (Bw.ifT rfl ?_));have fin:wpB C.M C.A.in1 (Builtin.Bytes.write (.ref (x.μ j)) (λz=> z ++ c.toArray) >>=λυ=> ret .none) (λfin s'=>∃v,fin= .done (.ret v)/\Q v s') E s:=
  Bw.Ar (Bw.write (c:=b ++ c) h1 (by simp) (BN (by simpa using hb)) λh' sb g=> Bw.pure ⟨.none,rfl,Nb oc i hj sb g (by simpa using hb) ou⟩)
 generalize he:c.toArray.isEmpty=x9;induction x9 using bC with
 |true=> exact Bw.ifF (c:= !c.toArray.isEmpty) (by rw [he];rfl) fin
 |false=> exact Bw.ifT (c:= !c.toArray.isEmpty) (by rw [he];rfl) (Bw.bind (Bw.resize h1 fin))
theorem Qh (oc:C.Ok):Ez C 1 "extend" :=λ{x1 l1 s1 v w tag} i1 r1 e1 ok=> by
 have tg:=MW (.inr rfl) ok;clear ok;obtain ⟨a,o,rfl,ho,hd,hc⟩:=Ji i1 r1 e1 tg;clear e1 r1;rcases tg with rfl |rfl
 ·refine ⟨"list.extend",Jh PySem.F.slot_list_extend PySem.F.type_list_extend ho hd hc (λ{x l s vs ws j ys us n Q E} i rs hj h1 h2 h3 ou=> ?_) Zb⟩;obtain ⟨u,y,rfl,rfl,ru,ou⟩:=Dk (λυ=> ⟨_,rfl⟩) rs ou;obtain ⟨σ',e,ou⟩:=FL ou;obtain ⟨j',o',e2,e3,e4⟩:=C8 e;clear rs;cases e2;rw [hj] at e3;cases e3;rcases AX e4 with e |e
  ·obtain ⟨ys',h,e5⟩:=AA e;obtain ⟨r,h6,e7⟩:=AA e5;obtain ⟨hz,e7⟩:=AJ e7;cases Bj h;clear e e4 e5 h;cases e7;have hz:=lBl hz;clear e e7;obtain ⟨b,us2,n2,rfl,g1,g2,_⟩:=EK i ru h6;obtain ⟨m,hm⟩:=Vi us us2 n;have z1:us.length + us2.length <= LIM:=by rw [h2.length,AD.length g2];exact hz
   refine Bw.of (call_meets (rest:= [.ref b]) PySem.F.slot_list_extend ⟨_,h1,rfl⟩ PySem.F.entry_list_extend (PySem.F.args_list_extend_2 _ _) (AutoSeq1.list_extend_list_list_0 _ us.toArray n b us2.toArray n2 ?_ (by rw [List.size_toArray,h2.length];exact BN h3) ?_) ⟨h1,g1, ?_⟩)
   ·intro z;have:=(Bool.and_eq_true_iff.mp z).2;have:us.toArray.size + us2.toArray.size > sizeLine:=of_decide_eq_true this;rw [List.size_toArray,List.size_toArray] at this;have:=BN z1;lia
   ·rw [List.size_toArray,List.size_toArray];exact Nat.le_succ_of_le (BN z1)
   ·exact list_set oc i hj h1 hm (AD.append g2 h2) (by rw [List.length_append];exact hz) (show C.rel x s.heap .none .none from rfl) ou
  ·obtain ⟨_,h,_⟩:=AA e;clear e e4 hj ou ru;cases h
 ·refine ⟨"bytearray.extend",λq=> getMethod_builtin ⟨o,ho,hc⟩ K6 FA JK (λb e=> by cases e;exact ⟨o,ho,hd⟩) q,λ{x l s vs w ws Q E} i r rs et ou=> ?_⟩;obtain ⟨u,y,rfl,rfl,ru,ou⟩:=Dk (λυ=> ⟨_,rfl⟩) rs ou;obtain ⟨σ',e,ou⟩:=FL ou;clear rs;obtain ⟨j,o',rfl,hj,e4⟩:=C8 e;rw [show Ci x.σ (.ref j)=ob (nth x.σ j) Gn from rfl,hj] at et;rw [r.1];rcases AX e4 with e |e
  ·obtain ⟨l',h,_⟩:=AA e;cases Bj h;clear e e4 h hj ou ru;cases et
  ·obtain ⟨b,h,e5⟩:=AA e;obtain ⟨z,e6,e7⟩:=AA e5;obtain ⟨h10,e10⟩:=AJ e7;cases Hm h;cases Ce e6;clear e e4 e5 e6 e7 et h;cases e10;clear e;obtain ⟨t,rfl,_⟩:=ru;exact R6 oc i hj (lBl h10) ou
theorem WL (oc:C.Ok):Ez C 2 "pop" :=λ{x1 l1 s1 v w tag} i1 r1 e1 ok=> by
 have tg:tag=1:=eBq ok;clear ok;subst tg;obtain ⟨a,o,rfl,ho,hd,hc⟩:=Ji i1 r1 e1 (.inl rfl);refine ⟨"list.pop",Jh PySem.F.slot_list_pop PySem.F.type_list_pop ho hd hc (λ{x l s vs ws j ys us n Q E} i rs hj h1 h2 h3 ou=> ?_) bR⟩;induction ws using lC with
 |cons y ws=> induction ws using lC with
  |nil=> exact ou.elim
  |cons=> cases ‹List W› <;> exact ou.elim
 |nil=>
  cases (show vs= [] from rs);obtain ⟨r,h,ou⟩:=Dw (n:=22) ou;obtain ⟨p,e1,e2⟩:=AA h;clear r1 rs;cases e2;obtain ⟨j',o',e2,e3,e4⟩:=C8 e1;clear e1;cases e2;rw [hj] at e3;clear e1;cases e3;obtain ⟨ys',h,e5⟩:=AA e4;obtain ⟨y,h6,e7⟩:=AA e5;cases Bj h;clear e4 e5 h;cases e7;obtain ⟨v,hv,rv⟩:=AD.nth h2 h6;have hl:us.length=ys.length:=AD.length h2;refine Bw.of (Copied.pop_at (its:=us.toArray) (y:=v) h1 (by rw [List.size_toArray,hl];simpa using hv) (λh' sb g=> ?_) (by rw [List.size_toArray,hl];exact BN h3));have g':h'.get? (x.μ j)=some (AI us.dropLast (n + 1)):=by rw [g];unfold AI;simp
  have rd:C.BF x s.heap us.dropLast ys.dropLast:=by
   have:=AD.take (n:=us.length - 1) h2;rw [List.dropLast_eq_take,List.dropLast_eq_take,<- hl];exact this
  obtain ⟨a1,a2⟩:=i.Ft oc (tk:=s.toks) hj rfl (o':= .list ys.dropLast) rfl sb g' λfz=> ⟨_,_,g',AD.mono fz (Mu.le_refl _) rd,by rw [List.length_dropLast];lia⟩
  exact ou v _ _ rfl a1 a2 (Aq i a1 rv)
end
section
variable {C:Cx}
theorem Ie {k:Nat} {name:Str} {id:String} {x1:Wx} {s1:Shared} {v:Value} {w:W} (sl:Slot "str" name id) (ty:typeOf (.builtin id)=pure (.type "method_descriptor")) (r1:C.rel x1 s1.heap v w) (e1:Ci x1.σ w=some 0)
  (call:∀{x:Wx} {l:LL} {s:Shared} {vs:List Value} {ws:List W} {t:List Nat} {u:Tok} {Q:VP} {E:VP},In C x l s.heap->C.BF x s.heap vs ws->t.length <= LIM->Out C x l s C.rel (Cc k (.str t) ws x.σ) Q E->wpB C.M C.A (call (.builtin id) (.str ⟨t.toArray⟩ u::vs)) Q E s):Bm C k 0 name v id s1:=by
 obtain ⟨t,u,rfl,rfl,hz⟩:=M9 r1 e1;refine ⟨λq=> getMethod_builtin (typeIs_str _ _ _) PySem.F.plainAttrs_str sl ty (λυ e=> nomatch e) q,λ{x l s vs w ws Q E} i r rs e ou=> ?_⟩;clear e1 r1;obtain ⟨t',u',rfl,hv,hz'⟩:=M9 r e;rw [hv];exact call i rs hz' ou
theorem RW:Ez C 4 "index" :=λ{x1 l1 s1 v w tag} i1 r1 e1 ok=> by
 cases eBq (show Nat.beq tag 0=true from ok);refine ⟨"str.index",Ie PySem.F.slot_str_index PySem.F.type_str_index r1 e1 λ{x l s vs ws t u Q E} i rs hz ou=> ?_⟩;clear ok;obtain ⟨y,w,rfl,rfl,ry,ou⟩:=Dk (λυ=> ⟨_,rfl⟩) rs ou;obtain ⟨z,h,ou⟩:=Bc (n:=24) ou;obtain ⟨a,h1,h2⟩:=AA h;obtain ⟨b,h3,h4⟩:=AA h2;obtain ⟨c,h5,h6⟩:=AA h4;obtain ⟨j,h7,h8⟩:=AA h6;obtain ⟨h9,h10⟩:=AJ h8;cases (show some t=some a from h1);cases Au h3;cases D3 h5;clear h h1 h2 h3 h4 h5 h6 h8 rs;cases h10;obtain ⟨u',rfl,_⟩:=ry;have oc:occurrences ⟨t.toArray⟩ ⟨[c].toArray⟩ 0 (⟨t.toArray⟩:Str).length 1= [j]:=by
  refine (JR t c 1).trans ?_;generalize hp:Ba c t 0=x9;induction x9 using lC with
  |nil=> rw [hp] at h7;clear hp ou;cases h7
  |cons a r=> rw [hp] at h7;clear hp ou;cases h7;rfl
 exact Bw.of (call_meets (rest:= [.str ⟨[c].toArray⟩ u']) PySem.F.slot_str_index (typeIs_str _ _ _) PySem.F.entry_str_index (PySem.F.args_str_index_2 _ _) (gives_str_index _ _ u u' j [] oc).meets (Out.now i ou ⟨_,rfl⟩))
theorem Rg {t:List Nat} (h:(t.all λc=> Nat.blt c 128)=true):placed ⟨t.toArray⟩ (λi υ=> Unicode.lowerAt t.toArray i)=(t.map IT).toArray:=by
 have a:∀c ∈ t,c < 128:=λc hc=> lBl (List.all_eq_true.mp h c hc)
 have ml:t.map lo1=t.map IT:=List.map_congr_left λc υ=> by
  unfold lo1 IT;by_cases hc:65 <= c/\c <= 90
  ·rw [if_pos hc,show (Nat.ble 65 c && Nat.ble c 90)=true from Bool.and_eq_true_iff.mpr ⟨Nat.ble_eq_true_of_le hc.1,Nat.ble_eq_true_of_le hc.2⟩];rfl
  ·rw [if_neg hc,show (Nat.ble 65 c && Nat.ble c 90)=false from Bool.eq_false_iff.mpr λz=> hc ⟨lBl (Bool.and_eq_true_iff.mp z).1,lBl (Bool.and_eq_true_iff.mp z).2⟩];rfl
 have:=congrArg Str.cps (lower_ascii (x:=⟨t.toArray⟩) (by simpa using a));rw [<- ml];refine Eq.trans this ?_;simp
theorem SW:Ez C 5 "lower" :=λ{x1 l1 s1 v w tag} i1 r1 e1 ok=> by
 cases eBq (show Nat.beq tag 0=true from ok);refine ⟨"str.lower",Ie PySem.F.slot_str_lower PySem.F.type_str_lower r1 e1 λ{x l s vs ws t u Q E} i rs hz ou=> ?_⟩;rcases ws with _ |⟨a,_ |⟨b,ws⟩⟩
 ·cases (show vs= [] from rs);obtain ⟨z,h,ou⟩:=Bc (n:=25) ou;obtain ⟨a,h1,h2⟩:=AA h;obtain ⟨h3,h4⟩:=AJ h2;cases (show some t=some a from h1);clear h h1 h2 ok rs;cases h4;have e:=Rg h3;refine Bw.of (call_meets (rest:= []) PySem.F.slot_str_lower (typeIs_str _ _ _) PySem.F.entry_str_lower (PySem.F.args_str_lower_1 _) (gives_str_lower ⟨t.toArray⟩ u ?_).meets ⟨?_, ?_⟩)
  ·show tooLong (placed _ _).size=false;rw [show placed (⟨t.toArray⟩:Str) (λi υ=> Unicode.lowerAt (⟨t.toArray⟩:Str).cps i)=_ from e,List.size_toArray,List.length_map];exact decide_eq_false (by have:=BN hz;lia)
  ·show (placed _ _).size <= sizeLine;rw [show placed (⟨t.toArray⟩:Str) (λi υ=> Unicode.lowerAt (⟨t.toArray⟩:Str).cps i)=_ from e,List.size_toArray,List.length_map];exact BN hz
  ·show Q (.str ⟨placed _ _⟩ _) _;rw [show placed (⟨t.toArray⟩:Str) (λi υ=> Unicode.lowerAt (⟨t.toArray⟩:Str).cps i)=_ from e];exact Out.now i ou ⟨_,rfl,by rw [List.length_map];exact hz⟩
 ·exact ou.elim
 ·clear ok rs;cases ws <;> exact ou.elim
end
def gq (ls:List (List Nat)) (l:List (Str × Tok)):Prop:=l.map (·.1)=ls.map λz=> ⟨z.toArray⟩
theorem Nv {T:Tb} {F:Ad} {μ:Mu} {sep:List Nat} {ws:List W} {vs:List Value} {t:List Nat} (r:AD T F μ ws vs) (e:H8 sep ws=some t):
  ∃(ls:List (List Nat)) (l:List (Str × Tok)),vs=strValues l/\l.map (·.1)=ls.map (λz=> (⟨z.toArray⟩:Str))/\(∀z ∈ ls,z.length <= LIM)/\t=(match ls with | []=> [] |a::r=> a ++ (r.map (sep ++ ·)).flatten):=by
 induction ws generalizing vs t with
 |nil=> cases (show vs= [] from r);clear r;cases e;exact ⟨[],[],rfl,rfl,λυ m=> (nomatch m),rfl⟩
 |cons w ws ih=>
  obtain ⟨v,us,rfl,r1,r2⟩:=r;obtain ⟨a,e1,e2⟩:=AA (show (ob (Ax w) λs=> match ws with | []=> some s |_::_=> ob (H8 sep ws) λt=> some (s ++ sep ++ t))=some t from e);cases Au e1;clear e e1;obtain ⟨u,rfl,hz⟩:=r1;induction ws using lC with
  |nil=>
   cases (show us= [] from r2);clear ih r2;cases e2;exact ⟨[t],[(⟨t.toArray⟩,u)],rfl,rfl,λz m=> mSg m▸hz,by simp⟩
  |cons w' ws=>
   obtain ⟨b,e3,e4⟩:=AA (show (ob (H8 sep (w'::ws)) λt=> some (a ++ sep ++ t))=some t from e2);clear e2;obtain ⟨ls,l,rfl,h1,h2,h3⟩:=ih r2 e3;clear ih;cases e4;refine ⟨a::ls,(⟨a.toArray⟩,u)::l,rfl,by rw [List.map_cons,List.map_cons,h1],λz m=> (mCo m).elim (λq=> q▸hz) (h2 z), ?_⟩;induction ls using lC with
   |nil=>
    induction l using lC with
    |nil=> obtain ⟨v',us',h,_⟩:=r2;clear h1 h2 h3;cases h
    |cons=> clear h2 h3 r2;cases h1
   |cons c r=> rw [h3];simp
theorem Rc (sep:List Nat) (ls:List (List Nat)):∀(acc:List Nat),(ls.map λz:List Nat=> (⟨z.toArray⟩:Str)).foldl (λacc p=> acc ++ sep.toArray ++ p.cps) acc.toArray=(acc ++ (ls.map (sep ++ ·)).flatten).toArray:=by
 induction ls with
 |nil=> intro acc;simp
 |cons x ls ih=>
  intro acc;rw [List.map_cons,List.foldl_cons];have:=ih (acc ++ sep ++ x);simp only [List.append_toArray] at this ⊢;rw [this];simp
theorem Vb (sep:Nat) (ls:List (List Nat)):∀acc:Nat,(ls.map λz:List Nat=> (⟨z.toArray⟩:Str)).foldl (λa p=> a + p.length + sep) acc=acc + (ls.map λz=> z.length + sep).sum:=by
 induction ls with
 |nil=> intro acc;rfl
 |cons x ls ih=> intro acc;rw [List.map_cons,List.foldl_cons,ih,str_len,List.map_cons,List.sum_cons];lia
theorem Rj (sep:List Nat) (ls:List (List Nat)):(ls.map (sep ++ ·)).flatten.length=(ls.map λz=> z.length + sep.length).sum:=by
 induction ls with
 |nil=> rfl
 |cons x ls ih=> rw [List.map_cons,List.flatten_cons,List.length_append,ih,List.map_cons,List.sum_cons,List.length_append];lia
section
variable {C:Cx}
theorem Vq:Ez C 6 "join" :=λ{x1 l1 s1 v w tag} i1 r1 e1 ok=> by
 cases eBq (show Nat.beq tag 0=true from ok);refine ⟨"str.join",Ie PySem.F.slot_str_join PySem.F.type_str_join r1 e1 λ{x l s vs ws sep u Q E} i rs hz ou=> ?_⟩;clear ok;obtain ⟨y,w,rfl,rfl,ry,ou⟩:=Dk (λυ=> ⟨_,rfl⟩) rs ou;obtain ⟨z,h,ou⟩:=Bc (n:=26) ou;obtain ⟨a,h1,h2⟩:=AA h;obtain ⟨ws,h3,h4⟩:=AA h2;obtain ⟨t,h5,h6⟩:=AA h4;obtain ⟨h7,h8⟩:=AJ h6;cases (show some sep=some a from h1);clear h h1 h2 h4 h6 rs;cases h8;have h7:=lBl h7;obtain ⟨a,vs,n,rfl,ho,rs2,_⟩:=EK i ry h3;clear ry;obtain ⟨ls,l,rfl,g1,g2,g3⟩:=Nv rs2 h5;have hl:tooLong ((l.map (·.1)).toArray.foldl (· + ·.length + (⟨sep.toArray⟩:Str).length) 0)=false:=by
  rw [g1,List.foldl_toArray',Vb,str_len]
  ·refine decide_eq_false ?_;have:(ls.map λz=> z.length + sep.length).sum <= t.length + sep.length:=by
    induction ls using lC with
    |nil=> exact Nat.zero_le _
    |cons a r=> rw [g3,List.map_cons,List.sum_cons,List.length_append,Rj];lia
   rw [sizeLine_eq];unfold LIM at h7 hz;lia
  ·simp
 refine Bw.of (call_meets (rest:= [.ref a]) PySem.F.slot_str_join (typeIs_str _ _ _) PySem.F.entry_str_join (PySem.F.args_str_join_2 _ _) (meets_str_join_list ⟨sep.toArray⟩ u a l hl) ⟨⟨_,ho,rfl,_,rfl⟩, ?_⟩);have made:∀{g:Str},g=⟨t.toArray⟩->(Made.str g).post (λv s'=> Q v s') s:=λ{g} e=> by
  clear g1 g2 g3 hl ho rs2;subst e;exact ⟨by rw [str_len];exact BN h7,Out.now i ou ⟨_,rfl,h7⟩⟩
 have gl:glued ⟨sep.toArray⟩ (l.map (·.1))=⟨t.toArray⟩:=by
  rw [g1,g3];induction ls using lC with
  |nil=> rfl
  |cons a r=> unfold glued;rw [List.map_cons];exact congrArg Str.mk (Rc sep r a)
 induction l using lC with
 |nil=> exact made gl
 |cons p l=>
  induction l using lC with
  |cons q l=> exact made gl
  |nil=>
   have:p.1=⟨t.toArray⟩:=by
    rw [<- gl];unfold glued;simp
   show Q (.str p.1 p.2) s;rw [this];exact Out.now (tk:=s.toks) i ou ⟨_,rfl,h7⟩
theorem Pb {T:Tb} {F:Ad} {μ:Mu} {ls:List (List Nat)}:∀{n:Nat},(∀z ∈ ls,z.length <= LIM)->AD T F μ (ls.map W.str) (strsFrom n (ls.map λz=> ⟨z.toArray⟩)):=by
 induction ls with
 |nil=> exact λυ=> rfl
 |cons a ls ih=> exact λh=> ⟨_,_,rfl,⟨_,rfl,h _ (.head _)⟩,ih λz m=> h z (.tail _ m)⟩
theorem split_le {c:Nat} {l:List Nat}:(AB c l).length <= l.length + 1/\∀z ∈ AB c l,z.length <= l.length:=by
 induction l with
 |nil=> exact ⟨Nat.le_refl 1,λz m=> by cases mSg m;exact Nat.le_refl 0⟩
 |cons a l ih=>
  obtain ⟨x,y,h1,h2⟩:=Eu c a l;rw [h1] at ih;rw [h2]
  split
  ·refine ⟨Nat.succ_le_succ ih.1,λz m=> ?_⟩;rcases mCo m with rfl |m
   ·exact Nat.zero_le _
   ·exact Nat.le_succ_of_le (ih.2 z m)
  ·refine ⟨Nat.le_succ_of_le ih.1,λz m=> ?_⟩;rcases mCo m with rfl |m
   ·exact Nat.succ_le_succ (ih.2 x (.head _))
   ·exact Nat.le_succ_of_le (ih.2 z (.tail _ m))
theorem Fe {c:Nat} {l:List Nat} (h:Ba c l 0= []):AB c l= [l]:=by
 have:=HU l c;rw [h] at this;have e:partsBetween ⟨l.toArray⟩ [] 1= [⟨l.toArray⟩]:=by
  show [strSub ⟨l.toArray⟩ 0 (⟨l.toArray⟩:Str).length]=_;rw [Lh,str_len];simp
 rw [e] at this;generalize hs:AB c l=x9;induction x9 using lC with
 |nil=> rw [hs] at this;clear hs;cases this
 |cons a r=>
  rw [hs] at this;induction r using lC with
  |nil=> rw [List.map_cons,List.cons.injEq] at this;rw [str_inj this.1.symm]
  |cons=> clear hs;cases this
theorem PO {c:Nat} {l:List Nat} {n:Nat} (h:c ∉ l):Ba c l n= []:=by
 induction l generalizing n with
 |nil=> rfl
 |cons a l ih=> rw [Em,if_neg (λz:a=c=> h (by rw [z];exact .head _))];exact ih λz=> h (.tail _ z)
theorem Mw (t:List Nat) (c:Nat) (u u':Tok) (hz:t.length <= sizeLine) (n3:(AB c t).length <= sizeLine):Meets (Builtin.«str.split» ⟨[.str ⟨t.toArray⟩ u,.str ⟨#[c]⟩ u'],[]⟩)
  (λυ R s=>∀vs tk,(vs= [.str ⟨t.toArray⟩ u]/\AB c t= [t])\/vs=strsFrom s.toks ((AB c t).map λz=> ⟨z.toArray⟩)->R (.ok (.ret (.ref s.heap.objs.size))) {s with heap:=s.heap.push (AI vs 0),toks:=tk}):=by
 obtain ⟨raising,htree⟩:=split_sep_tree ⟨t.toArray⟩ ⟨#[c]⟩ u u';refine .of_wp λprog w A R s h=> ?_
 have one:AB c t= [t]->wpAny (model prog w) A.in1 (do ret (<- newList [.str ⟨t.toArray⟩ u])) (λfin s'=>∃v,fin= .done (.ret v)/\R (.ok (.ret v)) s') (λe s'=> R (.error e) s') s:=λhc=>
  wpAny_bind (wpAny_newList (wpAny_pure ⟨_,rfl,h _ _ (.inl ⟨rfl,hc⟩)⟩) (by show 1 <= sizeLine;decide))
 have oc:occurrences ⟨t.toArray⟩ ⟨#[c]⟩ 0 (⟨t.toArray⟩:Str).length ((⟨t.toArray⟩:Str).length + 1)=Ba c t 0:=by
  rw [JR,List.take_of_length_le];have:=My (c:=c) (l:=t) (n:=0);rw [str_len];lia
 rw [htree];generalize h1:(decide ((⟨t.toArray⟩:Str).length < (⟨#[c]⟩:Str).length) ||decide (strKind ⟨t.toArray⟩ < strKind ⟨#[c]⟩))=x9;induction x9 using bC with
 |true=>
  rw [if_pos rfl];refine wpAny_bind (wpAny_rule (one (Fe (PO ?_))));rcases Bool.or_eq_true_iff.mp h1 with h |h
  ·have h:=of_decide_eq_true h;rw [str_len] at h;have:t= []:=List.eq_nil_of_length_eq_zero (by have:(⟨#[c]⟩:Str).length=1:=rfl;lia);clear h h1 htree hz n3 oc one;subst this;exact λm=> nomatch m
  ·have:=kind_free ⟨t.toArray⟩ c (of_decide_eq_true h);simpa using this
 |false=>
  rw [if_neg (by simp),if_neg (by show ¬ ((1==0)=true);decide),oc];generalize hp:Ba c t 0=x9;induction x9 using lC with
  |nil=>
   rw [if_pos (show (true && ([]:List Nat).isEmpty)=true from rfl)];exact wpAny_bind (wpAny_rule (one (Fe hp)))
  |cons a r=>
   rw [if_neg (show ¬ ((true && (a::r).isEmpty)=true) from Bool.false_ne_true),<- hp,show (⟨#[c]⟩:Str).length=1 from rfl,HU];refine wpAny_bind (wpAny_mapM_mkStr _ _ _ (λp hp=> ?_) (wpAny_bind (wpAny_newList (wpAny_pure ⟨_,rfl,h _ _ (.inr rfl)⟩) (by rw [strsFrom_length,List.length_map];exact n3))));clear h h1 htree n3 oc one;obtain ⟨z,hz',rfl⟩:=List.mem_map.mp hp;rw [str_len];exact Nat.le_trans ((split_le (c:=c) (l:=t)).2 z hz') hz
theorem bm_split (oc:C.Ok):Ez C 7 "split" :=λ{x1 l1 s1 v w tag} i1 r1 e1 ok=> by
 cases eBq (show Nat.beq tag 0=true from ok);refine ⟨"str.split",Ie PySem.F.slot_str_split PySem.F.type_str_split r1 e1 λ{x l s vs ws t u Q E} i rs hz ou=> ?_⟩;clear ok;obtain ⟨y,w,rfl,rfl,ry,ou⟩:=Dk (λυ=> ⟨_,rfl⟩) rs ou;obtain ⟨z,h,ou⟩:=Bc (n:=27) ou;obtain ⟨a,h1,h2⟩:=AA h;obtain ⟨b,h3,h4⟩:=AA h2;obtain ⟨c,h5,h6⟩:=AA h4;obtain ⟨h7,h6⟩:=AJ h6;cases (show some t=some a from h1);cases Au h3;cases D3 h5;clear h1 h2 h3 h4 h5 rs;cases h6;clear h6;obtain ⟨u',rfl,_⟩:=ry;have h7:=lBl (show Nat.ble (t.length + 1) LIM=true from h7);obtain ⟨n1,n2⟩:=split_le (c:=c) (l:=t);have n3:(AB c t).length <= LIM:=Nat.le_trans n1 h7;refine Bw.of (call_meets (rest:= [.str ⟨[c].toArray⟩ u']) PySem.F.slot_str_split (typeIs_str _ _ _) PySem.F.entry_str_split (PySem.F.args_str_split_2 _ _) (Mw t c u u' (BN hz) (BN n3)) λvs tk h=> ?_);have k:=Ab s.heap (AI vs 0);have r:C.BF x s.heap vs ((AB c t).map W.str):=by
  clear k ou;rcases h with ⟨rfl,h⟩ |rfl
  ·rw [h];exact ⟨_,[],rfl,⟨u,rfl,hz⟩,rfl⟩
  ·exact Pb λz m=> Nat.le_trans (n2 z m) hz
 exact ou _ {s with heap:=s.heap.push (AI vs 0),toks:=tk} x rfl (.keeps k) (In.keeps oc i k) ⟨_,vs,0,rfl,ET i _ rfl,by rw [List.length_map];exact n3,AD.mono (i.fzk k) (Mu.le_refl _) r⟩
theorem LF {prog:Program} {w:World} {A:Around} {s:Shared} {Q:VP} {E:VP} {t:List Nat} {c:Nat} {u v v':Tok} (h1:v ≠ 0) (h2:v' ≠ 0) (h3:v ≠ v') (q:∀u tk,Q (.str ⟨(Bh c t).toArray⟩ u) {s with toks:=tk}) (hz:t.length <= sizeLine) (hd:(Bh c t).length <= sizeLine):
  wpAny (model prog w) A (call (.builtin "str.replace") [.str ⟨t.toArray⟩ u,.str ⟨#[c]⟩ v,.str ⟨#[]⟩ v']) Q E s:=by
 have oc:occurrences ⟨t.toArray⟩ ⟨#[c]⟩ 0 (⟨t.toArray⟩:Str).length ((⟨t.toArray⟩:Str).length + 1)=Ba c t 0:=by
  rw [JR,List.take_of_length_le];have:=My (c:=c) (l:=t) (n:=0);rw [str_len];lia
 have gl:glued ⟨#[]⟩ (partsBetween ⟨t.toArray⟩ (Ba c t 0) 1)=⟨(Bh c t).toArray⟩:=by rw [HU,QL,Jx]
 refine call_meets (rest:= [.str ⟨#[c]⟩ v,.str ⟨#[]⟩ v']) PySem.F.slot_str_replace (typeIs_str _ _ _) PySem.F.entry_str_replace (PySem.F.args_str_replace_3 _ _ _) (gives_str_replace ⟨t.toArray⟩ ⟨#[c]⟩ ⟨#[]⟩ u v v' λυ=> ⟨?_, ?_, ?_, ?_⟩).meets ?_
 ·exact Bool.or_eq_false_iff.mpr ⟨beq_eq_false_iff_ne.mpr h1,beq_eq_false_iff_ne.mpr h2⟩
 ·exact beq_eq_false_iff_ne.mpr h3
 ·rfl
 ·show decide ((⟨t.toArray⟩:Str).length + _ * 0 > sizeLine)=false;rw [str_len,Nat.mul_zero,Nat.add_zero];exact decide_eq_false (Nat.not_lt.mpr hz)
 ·rw [oc,show (⟨#[c]⟩:Str).length=1 from rfl,gl];generalize hp:Ba c t 0=x9;induction x9 using lC with
  |nil=>
   have:Bh c t=t:=by rw [<- Jx,Fe hp];simp
   show (Made.val _).post _ _;have q:=q u s.toks;rw [this] at q;exact q
  |cons a r=> exact ⟨by rw [str_len];exact hd,q _ _⟩
theorem Sa {m:Nat} (hm:C.T.nm m= "replace") {e:E} {f:SE} {c:Nat} {ap p:Pos} {p1 p2:Nat} (D:EOk C (den C.T e) f) (ns:CM e=true) (lp:ap.endLine=p.line):
  EOk C (.Call (.Attribute (den C.T e) (C.T.nm m) ap) [.Constant (.str ⟨#[c]⟩) 0 (AG p1),.Constant (.str ⟨#[]⟩) 0 (AG p2)] [] p) (Sj f c):=by
 intro x l s Q E i o;rw [hm];refine Dx (es:= [.lit (.str [c]) p1,.lit (.str []) p2]) (p:=p) (k:=λw σ=> kO 46 (ob (Ax w) λs=> some (W.str (Bh c s))) σ) D ns lp (by show 2 < 30;decide) i o λx' s' v w pl i' r o'=> ?_
 obtain ⟨y,h,o'⟩:=Bc o';obtain ⟨t,h1,h2⟩:=AA h;cases Au h1;clear h h1;cases h2;obtain ⟨u,rfl,hz⟩:=r;have hd:(Bh c t).length <= LIM:=Nat.le_trans (List.length_filter_le ..) hz;refine getMethod_builtin (typeIs_str _ _ _) PySem.F.plainAttrs_str PySem.F.slot_str_replace PySem.F.type_str_replace (λυ e=> nomatch e) (BG (BV [.lit (.str [c]) p1,.lit (.str []) p2]) (Bw.pos λh0=> ?_));show wpB _ _ (spliced [(false,eval (den C.T (.lit (.str [c]) p1)) C.env),(false,eval (den C.T (.lit (.str []) p2)) C.env)]) _ _ _;refine Bw.As (Bw.of λυ υ υ=> ?_);refine Bw.As (Bw.of λυ υ υ=> Bw.pure ⟨⟨.machine,Looks.of_pure rfl⟩,Bw.of ?_⟩);refine LF (Nat.ne_of_gt h0) (Nat.ne_of_gt (Nat.le_succ_of_le h0)) (Nat.ne_of_lt (Nat.lt_succ_self _)) (λu tk=> ?_) (BN hz) (BN hd);exact Out.now i' o' ⟨_,rfl,hd⟩
end
end
section
open PySem PySem.W PySem.Calls PyProof.Rows PySem.SeqAt
structure Nu (B:Base) (k:Nat):Prop where
 yes:∀c ∈ B.T.Z.all,Ai (B.T.Z.sub k) c=true->isIn B.KF (.ref c) k=true
 no:∀c ∈ B.T.Z.all,Ai (B.T.Z.sub k) c=false->kin_not B.KF c k=true
 cls:∀c ∈ B.T.Z.all,plainGet B.KF c "__class__" =true/\hasDictIn B.KF c=true/\findIn B.KF (.ref c) "__class__" =some (some (.builtin "object.__class__"))/\mroIn B.KF c (.type "object")=some true
 get:specialIn B.KF (.builtin "object.__class__") "__get__" =some (some (.builtin "getset_descriptor.__get__"))
 takes:takesIn B.KF (.builtin "object.__class__")=some true
 none:isNotIn B.KF "NoneType" k=true
theorem B8 {l:List Nat} {c:Nat} (h:Ai l c=true):c ∈ l:=by
 induction l with
 |nil=> exact nomatch h
 |cons a l ih=>
  have h:Bool.rec (motive:=λυ=> Bool) (Ai l c) true (Nat.beq a c)=true:=h;generalize hb:Nat.beq a c=x9;induction x9 using bC with
  |true=> rw [eBq hb];exact .head _
  |false=> rw [hb] at h;exact .tail _ (ih h)
section
variable {C:Cx}
theorem U7 (B:C.toBase.Ok) {k:Nat} (H:Nu C.toBase k) {x:Wx} {l:LL} {s:Shared} {v:Value} {w:W} {t:Bool} {Q:VP} {E:VP} (i:In C x l s.heap) (r:C.rel x s.heap v w) (e:SG C.T.Z.all (C.T.Z.sub k) w=some t) (q:∀tk,Q (.bool t) {s with toks:=tk}):
  wpAny C.M C.A (call (.builtin "isinstance") [v,.ref k]) Q E s:=by
 have X:=i.KX B;induction w using W.casesOn with
 |none=>
  cases (show v=_ from r);clear r;cases e;exact isn_call (P:=λυ=> True) X (λM=> Looks.of_pure rfl) H.none (λz=> nomatch z) trivial (λp q=> none_cls trivial q) (q _)
 |obj c fs=>
  obtain ⟨h1,h2⟩:=AJ e;have hc:=B8 h1;clear e;obtain ⟨a,o,d,es,n,rfl,f,g1,g2,g3,g4,_⟩:=r;have I:InstAt s.heap a o c (some (AM es n)):=⟨f.1,g1,g2,by rw [g3];exact g4.1⟩;generalize hb:Ai (C.T.Z.sub k) c=x9;induction x9 using bC with
  |true=> rw [hb] at h2;cases h2;exact isi_call X (λM=> I.type) (H.yes c hc hb) (λz=> nomatch z) (q s.toks)
  |false=>
   rw [hb] at h2;cases h2;obtain ⟨k1,k2,k3,k4⟩:=H.cls c hc;exact kin_callC X I (H.no c hc hb) k1 k2 k3 H.get H.takes k4 (q _)
 |_=> exact nn e
theorem VS {x:Wx} {l:LL} {s:Shared} {v:Value} {w:W} {t:Bool} {Q:VP} {E:VP} (i:In C x l s.heap) (r:C.rel x s.heap v w) (e:So w=some t) (q:∀tk,Q (.bool t) {s with toks:=tk}):
  wpAny C.M C.A (call (.builtin "isinstance") [v,.type "str"]) Q E s:=by
 induction w using W.casesOn with
 |str a=> obtain ⟨u,rfl,_⟩:=r;cases e;exact IsiPair.str_str (q s.toks)
 |tup a=> obtain ⟨b,vs,n,rfl,f,_⟩:=r;cases e;exact IsiPair.tuple_str f.1 rfl (q _)
 |lst a=> obtain ⟨b,vs,n,rfl,f,_⟩:=r;cases e;exact IsiPair.list_str f.1 rfl (q _)
 |_=> exact nn e
theorem K5 (B:C.toBase.Ok) (O:C.Ok) {e:E} {f:SE} {n:Nat} {fp p kp:Pos} {kv:Value} {h:W->Option Bool} (hi:C.env.kindOf "isinstance" =some .globalImplicit) (D:EOk C (den C.T e) f)
  (N:∀{x:Wx} {l:LL} {s:Shared} {Q:VP} {E:VP},In C x l s.heap->Q kv s->wpAny C.M C.A (eval (.Name (C.T.nm n) kp) C.env) Q E s)
  (K:∀{x:Wx} {l:LL} {s:Shared} {v:Value} {w:W} {t:Bool} {Q:VP} {E:VP},In C x l s.heap->C.rel x s.heap v w->h w=some t->(∀tk,Q (.bool t) {s with toks:=tk})->wpAny C.M C.A (call (.builtin "isinstance") [v,kv]) Q E s):
  EOk C (.Call (.Name "isinstance" fp) [den C.T e,.Name (C.T.nm n) kp] [] p) (λl σ=> (f l σ).bind λw σ=> BW (h w) σ):=by
 intro x l s Q E i o;rw [arm_eval_Call_Name'];obtain ⟨ii,e2,g⟩:=B.isi;refine Bw.bind (Bw.of (Name_function_global O.kind hi (LN (v:= .builtin "isinstance") B O i g (by decide +kernel) (by decide) ?_) (by decide)));refine BG (by rw [(simple C.T e).star];rfl) ?_;rw [(simple C.T e).star];refine Bw.As (Bw.mono (D.run i o) (λv s1 hx=> ?_) λυ υ e=> e);obtain ⟨x1,w,g1,i1,r1,o1⟩:=hx;show wpB _ _ (spliced [(false,eval (.Name (C.T.nm n) kp) C.env)]) _ _ _;refine Bw.As (Bw.of (N i1 (Bw.pure ⟨⟨.machine,Looks.of_pure rfl⟩, ?_⟩)));obtain ⟨t,h1,q⟩:=Ds i1 o1;exact Bw.of (K i1 r1 h1 q)
end
def litPairs (env:Env) (pos:Pos):List (List Nat)->List Nat->List (W × Nat)->List (Sem Value × Sem Value)
 |k::ks,p::ps,v::vs=> (eval (.Constant (.str ⟨k.toArray⟩) 0 (AG p)) env,do let x <- eval (.Constant (Lr v.1) 0 (AG v.2)) env;standAt pos;pure x)::litPairs env pos ks ps vs
 |_,_,_=> []
theorem P9 {T:Tb} {env:Env} {pos:Pos} {ks:List (List Nat)} {kp:List Nat} {vs:List (W × Nat)} (h1:kp.length=ks.length) (h2:vs.length=ks.length):
  (evalEachOpt (KQ ks kp) env).zip ((evalEach (AV T (vs.map λv=> .lit v.1 v.2)) env).map λv=> do let x <- v;standAt pos;pure x)=(litPairs env pos ks kp vs).map λp=> (some p.1,p.2):=by
 induction ks generalizing kp vs with
 |nil=>
  induction kp using lC with
  |nil=> rfl
  |cons=> exact nomatch h1
 |cons k ks ih=>
  induction kp using lC with
  |nil=> exact nomatch h1
  |cons p kp=> induction vs using lC with
   |nil=> exact nomatch h2
   |cons v vs=> exact congrArg (List.cons _) (ih (Nat.succ.inj h1) (Nat.succ.inj h2))
theorem M5 {T:Tb} {F:Ad} {μ:Mu} {M:Model} {A:Around} {E:VP} {env:Env} {s:Shared} {w:W} {k:Nat} {p:Pos} {Q:VP} (g:EF w=true) (q:∀v tk,Rel T F μ w v->Q v {s with toks:=tk}):wpAny M A (eval (.Constant (Lr w) k p) env) Q E s:=λυ υ υ=> by
 induction w using W.casesOn with
 |none=> exact q .none s.toks rfl
 |bool b=> exact q (.bool b) s.toks rfl
 |int j=> exact q (.int j s.toks) (s.toks + 1) ⟨_,rfl⟩
 |str t=> exact q (.str ⟨t.toArray⟩ s.toks) (s.toks + 1) ⟨_,rfl,lBl g⟩
 |bytes t=> exact q (.bytes t.toArray s.toks) (s.toks + 1) ⟨_,rfl,lBl g⟩
 |_=> exact nomatch (show false=true from g)
theorem Qp {T:Tb} {F:Ad} {μ:Mu} {E:VP} {env:Env} {pos:Pos} {prog:Program} {w:World} {A:Around} {ks:List (List Nat)}:∀{kp:List Nat} {vs:List (W × Nat)} {s:Shared} {Q:List (Value × Value)->Shared->Prop},kp.length=ks.length->vs.length=ks.length->(∀k ∈ ks,k.length <= LIM)->(∀v ∈ vs,EF v.1=true)->
  (∀ps kvs tk,Carries (strKind prog w) ps kvs->KV (Rel T F μ) (ks.zip (vs.map (·.1))) kvs->Q ps {s with toks:=tk})->wpAny (model prog w) A (evalPairs (litPairs env pos ks kp vs)) Q E s:=by
 induction ks with
 |nil=>
  intro kp vs s Q h1 h2 _ _ q;induction kp using lC with
  |nil=> exact evalPairs_nil (q [] [] s.toks trivial rfl)
  |cons=> exact nomatch h1
 |cons k ks ih=>
  intro kp vs s Q h1 h2 hk hv q;induction kp using lC with
  |nil=> exact nomatch h1
  |cons p kp=> induction vs using lC with
   |nil=> exact nomatch h2
   |cons v vs=>
    refine evalPairs_cons (M5 (T:=T) (F:=F) (μ:=μ) (w:= .str k) (Nat.ble_eq_true_of_le (hk k (.head _))) λkv tk rk=> ?_);refine wpAny_bind (M5 (T:=T) (F:=F) (μ:=μ) (hv v (.head _)) λvv tk2 rv=> wpAny_bind (wpAny_standAt (wpAny_pure ?_)));refine ih (Nat.succ.inj h1) (Nat.succ.inj h2) (λk m=> hk k (.tail _ m)) (λv m=> hv v (.tail _ m)) λps kvs tk3 h3 h4=> ?_
    clear h1 hv;obtain ⟨t,rfl,hz⟩:=rk;exact q ((.str ⟨k.toArray⟩ t,vv)::ps) ((⟨k.toArray⟩,vv)::kvs) tk3 ⟨strKind_is prog w _ _,rfl,h3⟩ ⟨vv,kvs,rfl,hz,rv,h4⟩
theorem Nt {kvs:List (Str × Value)}:∀{acc:List (Str × Value)},((acc ++ kvs).map (·.1)).Nodup->merged acc kvs=acc ++ kvs:=by
 induction kvs with
 |nil=> intro acc _;simp [merged]
 |cons p kvs ih=>
  intro acc nd;have:stored acc p.1 p.2=acc ++ [p]:=by
   unfold stored;rw [if_neg];intro h;obtain ⟨q,hq,e⟩:=List.any_eq_true.mp h;rw [List.map_append,List.nodup_append] at nd;exact nd.2.2 q.1 (List.mem_map.mpr ⟨q,hq,rfl⟩) p.1 (by simp) (of_decide_eq_true e)
  have e:merged acc (p::kvs)=merged (stored acc p.1 p.2) kvs:=rfl;rw [e,this,ih (by simpa using nd)];simp
noncomputable def Xi:List E->Option (List (W × Nat))
 | []=> some []
 | .lit w p::r=> (Xi r).map λl=> (w,p)::l
 |_::_=> none
section
variable {C:Cx}
theorem RA (B:C.toBase.Ok) (oc:C.Ok) {ks:List (List Nat)} {kp:List Nat} {vs:List (W × Nat)} {pos:Pos} (h1:kp.length=ks.length) (h2:vs.length=ks.length) (h3:ks.length <= 15) (hk:∀k ∈ ks,k.length <= LIM) (hv:∀v ∈ vs,EF v.1=true) (nd:ks.Nodup):
  EOk C (.Dict (KQ ks kp) (AV C.T (vs.map λv=> .lit v.1 v.2)) pos) (Nx ks (vs.map λv=> AQ v.1)):=by
 intro x l s Q E i o;have ar:args (vs.map λv=> AQ v.1) l x.σ= .ok (vs.map (·.1)) x.σ:=by
  clear o h2 hv;induction vs with
  |nil=> rfl
  |cons v vs ih=> rw [List.map_cons,args_cons,List.map_cons];show R.bind (args _ l x.σ) _=_;rw [ih];rfl
 unfold Nx at o;rw [ar] at o;have fin:∀{h':Heap} {tk:Nat} {es:List DictEntry} {n:Nat},Keeps s.heap h'->h'.get? s.heap.objs.size=some (AM es n)->B2 (Rel C.T (Fz s.heap x.bad) x.mu) C.T.p (ks.zip (vs.map (·.1))) es->Q (.ref s.heap.objs.size) {s with heap:=h',toks:=tk}:=λ{h' tk es n} kp g rd=> by
  have fr:∀a ∈ O.ad (.dict (ks.zip (vs.map (·.1)))) s.heap.objs.size (s.heap.objs.size + 1),lv s.heap <= a/\a < lv h':=λa ha=> by cases mSg ha;exact ⟨Al _,Ak g⟩
  have zl:(ks.zip (vs.map (·.1))).map (·.1)=ks:=by rw [List.map_fst_zip];rw [List.length_map,h2];exact Nat.le_refl _
  refine o _ {s with heap:=h',toks:=tk} (x.add (.dict (ks.zip (vs.map (·.1)))) s.heap.objs.size (s.heap.objs.size + 1)) rfl (Go.add kp fr) (i.add oc kp fr (Nat.ne_of_lt (Nat.lt_succ_self _)) λfz=> ⟨es,n,g,rd.mono λυ υ y=> y.mono fz (x.F4 ..), ?_, ?_,by rw [zl];exact nd⟩) ⟨congrArg Value.ref Dz.symm,by simp [Wx.mu,Wx.add]⟩
  ·have:=congrArg List.length zl;rw [List.length_map] at this;rw [this];unfold LIM;lia
  ·obtain ⟨y,hy⟩:=B.sysm;exact beq_eq_false_iff_ne.mpr (Nat.ne_of_gt (Heap.lt_size (i.wd.top _ _ hy)))
 induction ks using lC with
 |nil=>
  induction kp using lC with
  |cons=> exact nomatch h1
  |nil=>
   induction vs using lC with
   |cons=> exact nomatch h2
   |nil=> exact Bw.of (wpAny_Dict_empty (fin (es:= []) (tk:=s.toks) (Ab _ _) (Heap.get?_push_size _ rfl) rfl))
 |cons k0 ks0=>
  refine Bw.of (wpAny_Dict_pairs (knd:=strKind C.prog C.w) (P9 h1 h2) ?_ ?_ ?_)
  ·induction kp using lC with
   |nil=> exact nomatch h1
   |cons=> induction vs using lC with
    |nil=> exact nomatch h2
    |cons=> exact λz=> nomatch z
  ·have:∀{ks:List (List Nat)} {kp:List Nat} {vs:List (W × Nat)},(litPairs C.env pos ks kp vs).length <= ks.length:=λ{ks}=> by
    induction ks with
    |nil=> exact Nat.le_refl 0
    |cons k ks ih=> intro kp vs;clear ar fin h1 h2 h3 hk hv nd o;cases kp <;> cases vs <;> first |exact Nat.zero_le _ |exact Nat.succ_le_succ ih
   exact Nat.le_trans this h3
  ·have emp:({s with heap:=s.heap.push {cls:= .type "dict",data:= .dict #[]}}:Shared).heap.DictOf (strKind C.prog C.w) s.heap.objs.size []:=⟨_,#[],0,Heap.get?_push_size _ rfl,⟨rfl,rfl,rfl⟩,rfl,λu hu=> absurd hu (Array.not_mem_empty u),.nil,List.nodup_nil⟩;refine Qp (T:=C.T) (F:=Fz s.heap x.bad) (μ:=x.mu) h1 h2 hk hv λps kvs tk c kv=> ⟨kvs,c,emp,λh' hd sb=> ?_⟩
   have kp':Keeps s.heap h':=λb y e=> (sb.2 b (Nat.ne_of_lt (Heap.lt_size e))).trans (Ab _ _ b y e)
   have zl:((k0::ks0).zip (vs.map (·.1))).map (·.1)=k0::ks0:=by rw [List.map_fst_zip];rw [List.length_map,h2];exact Nat.le_refl _
   have mg:merged [] kvs=kvs:=Nt (acc:= []) (by rw [List.nil_append];exact kv.nodup (by rw [zl];exact nd));rw [mg] at hd;obtain ⟨o',es',ep,e1,e2,e3,e4,e5,e6⟩:=hd;exact fin (es:=es'.toList) (n:=ep) kp' (by rw [e1,Im e2 e3]) (B.p▸KV.Y2 (prog:=C.prog) e5 (λe he=> e4 e (Array.mem_toList_iff.mp he)) kv)
end
def Wx.trim (x:Wx) (h:Heap):Wx:={x with bad:=λa=> x.bad a/\a < lv h}
structure Dj (C:Cx) (M:List Addr):Prop where
 my:∀a ∈ M,a ∉ C.my
 fr:∀a ∈ M,a ∉ C.fr
 cells:∀y,∀a ∈ M,C.env.cells.lookup y ≠ some a
structure Own (x:Wx) (M:List Addr):Prop where
 bad:∀a ∈ M,x.bad a
 no:∀a ∈ M,¬ x.owned a
abbrev Bf (M:List Addr) (h h':Heap):Prop:=∀b y,b ∉ M->h.get? b=some y->h'.get? b=some y
section
variable {C:Cx} {x x0:Wx} {l:LL} {s s0:Shared} {h h':Heap} {M:List Addr}
theorem In.away (i:In C x l h) (nw:∀a ∈ M,lv h <= a):Dj C M:=
 ⟨λa m q=> Nat.not_lt.mpr (nw a m) (i.wd.fit _ (i.mine _ q).1),λa m q=> let ⟨_,_,b,_⟩:=i.frame q;Nat.not_lt.mpr (nw a m) (i.wd.fit _ b),λy a m e=> Nat.not_lt.mpr (nw a m) (i.wd.fit _ (i.cell y _ e).1)⟩
theorem In.fresh (oc:C.Ok) (i:In C x l s.heap) (kp:Keeps s.heap h') (nw:∀a ∈ M,lv s.heap <= a/\a < lv h'):Go C x (x.An M) s {s with heap:=h'}/\In C (x.An M) l h'/\Own (x.An M) M:=by
 obtain ⟨g,i'⟩:=i.fly oc (L:=M) (λb o e υ υ=> kp b o e) (λb υ m e=> e.keeps kp) (Cf kp) nw;exact ⟨g,i',λa m=> .inr m,λa m q=> Nat.not_lt.mpr (nw a m).1 (i.wd.fit a (i.wd.DQ q))⟩
theorem In.step (oc:C.Ok) (i:In C x l h) (A:Dj C M) (W:Own x M) (k:Bf M h h'):In C (x.trim h') l h'/\∀a o,Fz h x.bad a o->Fz h' (x.trim h').bad a o:=by
 have fz:∀a o,Fz h x.bad a o->Fz h' (x.trim h').bad a o:=λa o e=> ⟨k a o (λz=> e.2 (W.bad a z)) e.1,λq=> e.2 q.1⟩
 have ow:∀{a},x.owned a->a ∉ M:=λq z=> W.no _ z q
 have nsk:∀a,a ∉ M->∀m,h.Ns a m->h'.Ns a m:=λa n m e=> G5 (λo e=> k a o n e) e
 have cel:∀{y c v},C.env.cells.lookup y=some c->h.IsCell c v->h'.IsCell c v:=λ{y c v} e q=> HB (λo e'=> k c o (λz=> A.cells y c z e) e') q
 have nL:C.env.locals ∉ M:=λz=> A.my _ z oc.mine
 have D:Wd C.T C.hb (x.trim h') h':=by
  refine ⟨λa o e=> (fz a o (i.wd.fz e)).1,λa o e=> (fz a o (i.wd.fz e)).2,λa q=> q.2,λj o e=> ?_,λj o e a ha=> ?_,i.wd.self,i.wd.sep⟩
  ·refine (i.wd.own j o e).mono fz (Mu.le_refl _) λa ha=> ?_
   obtain ⟨y,hy⟩:=i.wd.live e ha;rw [hy];exact k a y (ow ⟨j,o,e,ha⟩) hy
  ·obtain ⟨y,hy⟩:=i.wd.live e ha;exact ⟨i.wd.ownB j o e a ha,Ak (k a y (ow ⟨j,o,e,ha⟩) hy)⟩
 refine And.intro ⟨D,i.dict.imp λm=> nsk _ nL m,λn m w e1 e2=> ?_,λy c e=> ?_,λa m=> ?_,λe he=> ?_⟩ fz
 ·obtain ⟨v,h1,h2⟩:=i.loc n m w e1 e2;exact ⟨v,h1.via (λm=> nsk _ nL m) λc v e q=> cel e q,Rel.mono fz (Mu.le_refl _) h2⟩
 ·obtain ⟨h1,h2,v,h3⟩:=i.cell y c e;obtain ⟨o,h4,_⟩:=cel e h3;exact ⟨⟨h1,Ak h4⟩,h2,v,cel e h3⟩
 ·obtain ⟨h1,h2⟩:=i.mine a m;refine ⟨⟨h1, ?_⟩,h2⟩;by_cases z:a=C.env.locals
  ·clear h1 h2 m;subst z;obtain ⟨mm,hm⟩:=i.dict;exact Cu (nsk _ nL mm hm)
  ·obtain ⟨y,hy⟩:=oc.cellmine a m z;obtain ⟨_,_,v,q⟩:=i.cell y a hy;obtain ⟨o,h4,_⟩:=cel hy q;exact Ak h4
 ·obtain ⟨h1,a,m,h2,h3,h4,h5⟩:=i.frames e he;have na:a ∉ M:=λz=> A.fr a z (LW he h2)
  exact ⟨h1,a,m,h2,nsk a na m h3,⟨h4,Cu (nsk a na m h3)⟩,h5⟩
theorem Go.step (g:Go C x0 x s0 s) (nw:∀a ∈ M,lv s0.heap <= a) (k:Bf M s.heap h') {tk:Nat}:Go C x0 (x.trim h') s0 {s with heap:=h',toks:=tk}:=by
 have ne:∀{a},a < lv s0.heap->a ∉ M:=λq z=> Nat.not_lt.mpr (nw _ z) q
 have live:C2 s0.heap h':=λb o e=> by
  obtain ⟨o',e'⟩:=g.ext.size b o e;exact ⟨o',k b o' (ne (Ak e)) e'⟩
 exact ⟨⟨λa o e n=> k a o (ne (Ak e)) (g.ext.keep a o e n),λa q=> g.ext.bads a q.1,live⟩,g.mu,g.ow,λa ha n m e=> G5 (λo e'=> k a o (ne (Cu e)) e') (g.ns a ha n m e),
  λa ha hb ho=> ⟨g.kb a ha hb ho,Nat.lt_of_lt_of_le ha (Cg live)⟩,g.gens,g.os⟩
theorem Go.machine {x':Wx} {s':Shared} (g:Go C x x' s s') (A:Dj C M) (W:Own x M) (f:∀a ∈ M,∃o,s.heap.get? a=some o/\¬ CW o):(∀a ∈ M,∀o,s.heap.get? a=some o->s'.heap.get? a=some o)/\Own x' M:=by
 refine ⟨λa m o e=> g.ext.keep a o e λq=> ?_,λa m=> ?_,λa m q=> ?_⟩
 ·rcases q with q |q |q |q
  ·exact W.no a m q
  ·exact A.my a m q
  ·exact A.fr a m q
  ·obtain ⟨_,o',e',fl⟩:=q;obtain ⟨o'',e'',nf⟩:=f a m;rw [e''] at e';clear e'';cases e';exact nf fl
 ·obtain ⟨o,e,_⟩:=f a m;exact g.kb a (Ak e) (W.bad a m) (W.no a m)
 ·obtain ⟨o,e,_⟩:=f a m;exact (g.ow a q).elim (W.no a m) λz=> Nat.not_lt.mpr z (Ak e)
end
structure Iter (C:Cx) (t:PySem.Expr) (I:Addr) (M:List Addr) (It:Nat->Heap->Prop) (Mid:Nat->Value->Heap->Prop) (Src:Wx->Heap->Prop) (vals:Nat->List O->Option (Option W)):Prop where
 fly:∀{k h},It k h->∀a ∈ M,∃o,h.get? a=some o/\¬ CW o
 keep:∀{k h h'},(∀a ∈ M,∀o,h.get? a=some o->h'.get? a=some o)->It k h->It k h'
 src:∀{x x':Wx} {h h':Heap},(∀a o,Fz h x.bad a o->Fz h' x'.bad a o)->x.mu.le x'.mu->Src x h->Src x' h'
 next:∀{x:Wx} {s:Shared} {k:Nat} {r:Option W} {Q:Option Value->Shared->Prop} {E:VP},Wd C.T C.hb x s.heap->Own x M->It k s.heap->Src x s.heap->vals k x.σ=some r->
  (r=none->∀h' tk,Bf M s.heap h'->Q none {s with heap:=h',toks:=tk})->
  (∀w,r=some w->∀v h' tk,Bf M s.heap h'->Mid (k + 1) v h'->Rel C.T (Fz h' x.bad) x.mu w v->Q (some v) {s with heap:=h',toks:=tk})->wpAny C.M C.A (pyNext (.ref I)) Q E s
 mid:∀{k v h},Mid k v h->∀a ∈ M,∃o,h.get? a=some o/\¬ CW o
 go:∀{s:Shared} {k:Nat} {v:Value} {Q:Unit->Shared->Prop} {E:VP},Mid k v s.heap->(∀h',Bf M s.heap h'->It k h'->Q () {s with heap:=h'})->wpAny C.M C.A (letOwnedTupleGo t (.ref I) v) Q E s
 self:∀{s:Shared} {k:Nat} {Q:VP} {E:VP},It k s.heap->Q (.ref I) s->wpAny C.M C.A (pyIter (.ref I)) Q E s
namespace Bw
section
variable {prog:Program} {w:World} {A:Around} {s:Shared} {R:Result->Shared->Prop} {env:Env} {E:VP}
theorem block {body:List Stmt} (h:wpB (model prog w) A (execs body env) (λf s'=> R (.ok f) s') (notedBy (model prog w) A env λe s'=> R (.error e) s') s):codeB (model prog w) A (.block body env) R s:=by
 refine ofTree (λυ υ=> rfl) ?_;show wpB _ _ (do return Fin.done (<- (execs body env).onRaise (λx=> do noteFrame x env;theTreesLotGoes x))) _ _ s;exact bind (Iv (mono h (λf s' h'=> pure h') λυ υ h'=> h'))
theorem forLoop {target:PySem.Expr} {it:Value} {body orelse:List Stmt} (I:Nat->Shared->Prop)
  (turn:∀n s,I n s->wpB (model prog w) A (pyNext it) (λr s₁=> match r with
   |none=> wpB (model prog w) A (execs orelse env) (λf s₃=> R (.ok f) s₃) (notedBy (model prog w) A env λe s'=> R (.error e) s') s₁
   |some v=> wpB (model prog w) A (letOwnedTupleGo target it v) (λυ s₁'=>
     wpB (model prog w) A (assign target env v) (λυ s₂=> wpB (model prog w) A (execs body env) (λf s₃=> match f with
      | .next | .cont=>∃m,m < n/\I m s₃
      | .brk=> R (.ok .next) s₃
      | .ret v=> R (.ok (.ret v)) s₃) (notedBy (model prog w) A env λe s'=> R (.error e) s') s₂) (notedBy (model prog w) A env λe s'=> R (.error e) s') s₁') (notedBy (model prog w) A env λe s'=> R (.error e) s') s₁) (notedBy (model prog w) A env λe s'=> R (.error e) s') s)
  (n:Nat) (h:I n s):codeB (model prog w) A (.forLoop target it body orelse env) R s:=by
 refine loop (λυ υ=> rfl) rfl I (λn s hI=> ?_) n h;show wpB _ A ((forTurn target it body orelse env).onRaise (λx=> do noteFrame x env;theTreesLotGoes x)) _ _ s;refine Iv ?_;simp only [forTurn];refine bind (standAt (bind (onRaise (mono (turn n s hI) (λr s₁ h₁=> ?_) λυ υ h'=> standAt h'))));induction r using oC with
 |none=> exact pure (.inr ⟨rfl,block h₁⟩)
 |some v=>
  refine bind (mono h₁ (λυ s₁' h₁'=> bind (mono h₁' (λυ s₂ h₂=> bind (mono h₂ (λf s₃ h₃=> ?_) λυ υ h'=> h')) λυ υ h'=> h')) λυ υ h'=> h');cases f with
  |next=> exact pure (.inl ⟨rfl,h₃⟩)
  |cont=> exact pure (.inl ⟨rfl,h₃⟩)
  |brk=> exact pure h₃
  |ret v=> exact pure h₃
end
end Bw
def F7 (C:Cx) (t:PySem.Expr) (tg:List Nat):Prop:=∀{x:Wx} {l l':LL} {s:Shared} {v:Value} {w:W} {Q:Unit->Shared->Prop} {E:VP},In C x l s.heap->C.rel x s.heap v w->FD tg w l=some l'->(∀s' x',x'.σ=x.σ->Go C x x' s s'->In C x' l' s'.heap->Q () s')->wpB C.M C.A (assign t C.env v) Q E s
theorem Pn {C:Cx} (O:C.Ok) {k n:Nat} {tp:Pos} (hk:nth C.ns k=some (some n)) (mn:AR C (C.T.nm n)):F7 C (.Name (C.T.nm n) tp) [k]:=λ{x l l' s v w Q E} i r e q=> by
 cases e;rw [arm_assign_Name];exact Bw.of (wpAny_bind (wpAny_standAt (wpAny_bindName (Ek O i hk mn r λs'=> q s' x rfl))))
structure MN (tg:List Nat) (b:SS) (vals:Nat->List O->Option (Option W)) (N:Nat) (F:Nat->SS):Prop where
 turn:∀k,k < N->∀l σ,F k l σ=Option.rec (.stuck 93) (λx=> Option.rec (.next l σ) (λx=> Er tg b x (F (k + 1)) l σ) x) (vals k σ)
 last:∀l σ,∃n,F N l σ= .stuck n
section
variable {C:Cx}
theorem Pa {x x0:Wx} {l:LL} {s s0:Shared} {t:Sem Flow} {f k:SS} {Q:Flow->Shared->Prop} {E E':VP} (cv:Conv C E E') (g0:Go C x0 x s0 s) (D:DV C t f) (i:In C x l s.heap) (o:AK C x0 s0 ((f l x.σ).then k) Q E):
  wpB C.M C.A t (λfl s'=> match fl with | .next=>∃x' l',Go C x x' s s'/\In C x' l' s'.heap/\AK C x0 s0 (k l' x'.σ) Q E | .ret v=> Q (.ret v) s' |_=> False) E' s:=by
 refine D x l s _ _ i ?_;generalize h:f l x.σ=x9;induction x9 using RS.casesOn with
 |stuck n=> rw [h] at o;exact o
 |next l' σ=>
  rw [h] at o;intro s' x' e g i';clear h;subst e;exact ⟨x',l',g,i',o⟩
 |ret w σ=> rw [h] at o;exact AK.shift (r:= .ret w σ) g0 o
 |exc c fs l' σ=> rw [h] at o;exact AK.conv (r:= .exc c fs l' σ) cv (AK.shift (r:= .exc c fs l' σ) g0 o)
theorem Own.trim {x:Wx} {M:List Addr} {h:Heap} (W:Own x M) (f:∀a ∈ M,∃o,h.get? a=some o/\¬ CW o):Own (x.trim h) M:=
 ⟨λa m=> ⟨W.bad a m,let ⟨_,e,_⟩:=f a m;Ak e⟩,W.no⟩
theorem Jq (oc:C.Ok) {I:Addr} {M:List Addr} {It:Nat->Heap->Prop} {Mid:Nat->Value->Heap->Prop} {Src:Wx->Heap->Prop} {vals:Nat->List O->Option (Option W)} {N:Nat} {F:Nat->SS} {tg:List Nat} {b:SS} {t:PySem.Expr} {body:List Stmt} (W:Iter C t I M It Mid Src vals) (L:MN tg b vals N F) (T:F7 C t tg) (D:CU C body b) (A:Dj C M)
  {x x0:Wx} {l:LL} {s s0:Shared} {Q:Flow->Shared->Prop} {E:VP} (g0:Go C x0 x s0 s) (nw:∀a ∈ M,lv s0.heap <= a) (i0:In C x l s.heap) (ow0:Own x M) (it0:It 0 s.heap) (src0:Src x s.heap)
  (ou:AK C x0 s0 (F 0 l x.σ) Q E):codeB C.M C.A (.forLoop t (.ref I) body [] C.env) (λr s'=> match r with | .ok f=> Q f s' | .error e=> cameBackBy C.M C.A C.env E e s') s:=by
 refine Bw.forLoop (λn s'=>∃k x' l',k + n=N/\Go C x0 x' s0 s'/\In C x' l' s'.heap/\Own x' M/\It k s'.heap/\Src x' s'.heap/\AK C x0 s0 (F k l' x'.σ) Q E) (λn s' hI=> ?_) N ⟨0,x,l,Nat.zero_add N,g0,i0,ow0,it0,src0,ou⟩;obtain ⟨k,x1,l1,hk,g1,i1,w1,t1,c1,u1⟩:=hI;induction n with
 |zero=>
  obtain ⟨m,h⟩:=L.last l1 x1.σ;rw [show k=N from hk,h] at u1;exact u1.elim
 |succ n=>
  rw [L.turn k (by lia)] at u1;generalize hv:vals k x1.σ=x9;induction x9 using oC with
  |none=> rw [hv] at u1;exact u1.elim
  |some r=>
   rw [hv] at u1;refine Bw.of (W.next i1.wd w1 t1 c1 hv (λhr h' tk kp=> ?_) λw hr v h' tk kp t2 rv=> ?_)
   ·clear hv;subst hr;obtain ⟨i2,fz⟩:=i1.step oc A w1 kp;have u1:AK C x0 s0 (.next l1 x1.σ) Q E:=u1;exact Bw.of (wpAny_execs_nil (u1 {s' with heap:=h',toks:=tk} (x1.trim h') rfl (g1.step nw kp) i2))
   ·clear hv;subst hr;obtain ⟨i2,fz⟩:=i1.step oc A w1 kp;have g2:Go C x0 (x1.trim h') s0 {s' with heap:=h',toks:=tk}:=g1.step nw kp;have u1:AK C x0 s0 (Er tg b w (F (k + 1)) l1 x1.σ) Q E:=u1;have c2:Src (x1.trim h') h':=W.src fz (Mu.le_refl _) c1;have w2:Own (x1.trim h') M:=w1.trim (W.mid t2);refine Bw.of (W.go (s:={s' with heap:=h',toks:=tk}) t2 λh3 kp3 t3=> ?_);obtain ⟨i3,fz3⟩:=In.step (h:=h') oc i2 A w2 kp3;have g3:Go C x0 ((x1.trim h').trim h3) s0 {s' with heap:=h3,toks:=tk}:=Go.step (s:={s' with heap:=h',toks:=tk}) g2 nw kp3;have w3:Own ((x1.trim h').trim h3) M:=w2.trim (W.fly t3);have rv:C.rel ((x1.trim h').trim h3) h3 v w:=Rel.mono (λa o e=> fz3 a o ⟨e.1,λq=> e.2 q.1⟩) (Mu.le_refl _) rv;unfold Er at u1;generalize hl:FD tg w l1=x9;induction x9 using oC with
    |none=> rw [hl] at u1;exact u1.elim
    |some l2=>
     rw [hl] at u1;refine T (s:={s' with heap:=h3,toks:=tk}) i3 rv hl λs4 x4 ex g4 i4=> ?_
     have u1:AK C x0 s0 ((b l2 x4.σ).then (F (k + 1))) Q E:=by rw [ex];exact u1
     obtain ⟨e4,w4⟩:=Go.machine (s:={s' with heap:=h3,toks:=tk}) g4 A w3 (W.fly t3);have t4:It (k + 1) s4.heap:=W.keep (h:=h3) e4 t3;have c4:Src x4 s4.heap:=W.src (Go.fz (s:={s' with heap:=h3,toks:=tk}) i3 g4) g4.mu (W.src fz3 (Mu.le_refl _) c2);refine Bw.mono (Pa (Hh (Q:=Q) oc) (g3.trans g4) D i4 (k:=F (k + 1)) u1) (λf s5 h=> ?_) λυ υ e=> e
     cases f with
     |next=>
      obtain ⟨x5,l5,g5,i5,o5⟩:=h;obtain ⟨e5,w5⟩:=Go.machine g5 A w4 (W.fly t4);exact ⟨n,Nat.lt_succ_self _,k + 1,x5,l5,by lia,g3.trans (g4.trans g5),i5,w5,W.keep e5 t4,W.src (Go.fz i4 g5) g5.mu c4,o5⟩
     |ret v=> exact h
     |_=> exact h.elim
end
def CP (I:Addr) (ty:String) (D:Nat->Array Value) (k:Nat) (h:Heap):Prop:=∃o,h.get? I=some o/\o.cls= .type ty/\o.data= .fields (D k)
noncomputable def NR (ty:String):Bool:= !(ty== "traceback") && !(["enumerate", "zip", "dict_itemiterator", "dict_reverseitemiterator", "odict_iterator", "itertools.zip_longest", "itertools.pairwise"].contains ty)
theorem Cb {ty:String} {o:AN} (h:(ty== "traceback")=false) (hc:o.cls= .type ty):¬ CW o:=λf=> by
 obtain ⟨_,f |⟨c,f⟩⟩:=f
 ·rw [hc] at f;clear hc;cases f;exact absurd h (by decide)
 ·rw [hc] at f;clear hc;cases f
section
variable {C:Cx} {I:Addr} {t:PySem.Expr}
theorem Lk {ty:String} {M:Model} {A:Around} {s:Shared} {o:AN} {vs:Array Value} {v:Value} {t:PySem.Expr} {Q:Unit->Shared->Prop} {E:VP} (ht:NR ty=true) (e:s.heap.get? I=some o) (hc:o.cls= .type ty) (hd:o.data= .fields vs) (q:Q () s):wpAny M A (letOwnedTupleGo t (.ref I) v) Q E s:=by
 have h2:=(Bool.not_eq_true' _).mp (Bool.and_eq_true_iff.mp ht).2;unfold letOwnedTupleGo;have go:∀a:Addr,wpAny M A (do
   let o <- load I
   match o.cls,o.data with
   | .type n,.fields vs=>
    if ["enumerate", "zip", "dict_itemiterator", "dict_reverseitemiterator", "odict_iterator", "itertools.zip_longest", "itertools.pairwise"].contains n && vs[0]? ==some (rawInt a) then
     rule "for.unpacks-the-owned-tuple"
     updateField I 0 .none
   |_,_=> pure ()) Q E s:=λa=> by
  refine wpAny_bind (wpAny_load e ?_);rw [hc,hd];exact bm_if_false (by rw [h2,Bool.false_and]) (wpAny_pure q)
 cases t <;> first
  |exact wpAny_pure q
  |(cases v <;> first
    |exact wpAny_pure q
    |exact go _)
theorem Iter.plain {ty:String} {D:Nat->Array Value} {Src:Wx->Heap->Prop} {vals:Nat->List O->Option (Option W)} (ht:NR ty=true)
  (self:∀{s:Shared} {k:Nat} {Q:VP} {E:VP},CP I ty D k s.heap->Q (.ref I) s->wpAny C.M C.A (pyIter (.ref I)) Q E s)
  (src:∀{x x':Wx} {h h':Heap},(∀a o,Fz h x.bad a o->Fz h' x'.bad a o)->x.mu.le x'.mu->Src x h->Src x' h')
  (next:∀{x:Wx} {s:Shared} {k:Nat} {r:Option W} {Q:Option Value->Shared->Prop} {E:VP},Wd C.T C.hb x s.heap->x.bad I->CP I ty D k s.heap->Src x s.heap->vals k x.σ=some r->
   (r=none->∀h' tk,(∀b y,b ≠ I->s.heap.get? b=some y->h'.get? b=some y)->Q none {s with heap:=h',toks:=tk})->
   (∀w,r=some w->∀v h' tk,(∀b y,b ≠ I->s.heap.get? b=some y->h'.get? b=some y)->CP I ty D (k + 1) h'->Rel C.T (Fz h' x.bad) x.mu w v->Q (some v) {s with heap:=h',toks:=tk})->wpAny C.M C.A (pyNext (.ref I)) Q E s):Iter C t I [I] (CP I ty D) (λk υ=> CP I ty D k) Src vals:=by
 have h1:(ty== "traceback")=false:=by have:=(Bool.and_eq_true_iff.mp ht).1;simpa using this
 have kb:∀{h h':Heap},(∀b y,b ≠ I->h.get? b=some y->h'.get? b=some y)->Bf [I] h h':=λk b y n e=> k b y (λz=> n (z▸ .head _)) e
 refine ⟨λ{k h} it a m=> ?_,λ{k h h'} kp it=> ?_,src,λ{x s k r Q E} i W it sr hv hn hs=> next i (W.bad I (.head _)) it sr hv (λe h' tk k=> hn e h' tk (kb k)) λw e v h' tk k=> hs w e v h' tk (kb k),λ{k v h} it a m=> ?_,λ{s k v Q E} it q=> ?_,self⟩
 ·cases mSg m;obtain ⟨o,e,hc,_⟩:=it;exact ⟨o,e,Cb h1 hc⟩
 ·obtain ⟨o,e,r⟩:=it;exact ⟨o,kp I (.head _) o e,r⟩
 ·cases mSg m;obtain ⟨o,e,hc,_⟩:=it;exact ⟨o,e,Cb h1 hc⟩
 ·obtain ⟨o,e,hc,hd⟩:=id it;exact Lk ht e hc hd (q s.heap (λυ υ υ e=> e) it)
theorem Hf {x:Wx} {h h':Heap} {ws:List W} {vs:List Value} {k:Nat} {w:W} {v:Value} (b:x.bad I) (kp:∀b y,b ≠ I->h.get? b=some y->h'.get? b=some y) (r:AD C.T (Fz h x.bad) x.mu ws vs) (hw:nth ws k=some w) (hv:vs[k]? =some v):Rel C.T (Fz h' x.bad) x.mu w v:=by
 obtain ⟨u,hu,ru⟩:=AD.nth r hw;rw [hv] at hu;cases hu;exact Rel.mono (λa o e=> ⟨kp a o (λz=> e.2 (z▸b)) e.1,e.2⟩) (Mu.le_refl _) ru
theorem DX {α:Type} {l:List α} {k:Nat} (e:nth l k=none):l.length <= k:=by rw [AL] at e;exact List.getElem?_eq_none_iff.mp e
theorem DT {T:Tb} {F:Ad} {μ:Mu} {ws:List W} {vs:List Value} {k:Nat} (r:AD T F μ ws vs) (e:nth ws k=none):vs.toArray[k]? =none:=by
 have:=DX e;rw [<- r.length] at this;simp [this]
def D7 (ws:List W) (k:Nat) (_:List O):Option (Option W):=some (nth ws k)
theorem SU (hh:C.A.handled=none) {a:Addr} {vs:List Value} {n:Nat} {ws:List W}:Iter C t I [I] (CP I "list_iterator" λk=> #[.ref a,.int k 0]) (λk υ=> CP I "list_iterator" (λk=> #[.ref a,.int k 0]) k) (λx h=> Fz h x.bad a (AI vs n)/\AD C.T (Fz h x.bad) x.mu ws vs) (D7 ws):=by
 refine Iter.plain (by decide) (λit q=> wpAny_pyIter_listiter (l:=a) it q) (λfz le h=> ⟨fz _ _ h.1,AD.mono fz le h.2⟩) λ{x s k r Q E} i b it src hv hn hs=> ?_
 obtain ⟨f,rs⟩:=src;cases hv;have hl:s.heap.IsList a vs.toArray:=⟨_,f.1,rfl,_,rfl⟩;have hit:s.heap.IsListIter I a k:=it;generalize hw:nth ws k=x9;induction x9 using oC with
 |none=> exact wpAny_pyNext_list_end hh hit hl (DT rs hw) λh' he=> hn hw h' s.toks he
 |some w=>
  obtain ⟨v,hv,_⟩:=AD.nth rs hw;refine wpAny_pyNext_list_item hit hl (by simpa using hv) λh' hit' sb=> ?_
  exact hs w hw v h' s.toks sb.extBut hit' (Hf b sb.extBut rs hw hv)
theorem Rt (hh:C.A.handled=none) {a:Addr} {vs:List Value} {n:Nat} {ws:List W}:Iter C t I [I] (CP I "tuple_iterator" λk=> #[.ref a,.int k 0]) (λk υ=> CP I "tuple_iterator" (λk=> #[.ref a,.int k 0]) k) (λx h=> Fz h x.bad a (AS vs n)/\AD C.T (Fz h x.bad) x.mu ws vs) (D7 ws):=by
 refine Iter.plain (by decide) (λit q=> wpAny_pyIter_tupleiter (t:=a) it q) (λfz le h=> ⟨fz _ _ h.1,AD.mono fz le h.2⟩) λ{x s k r Q E} i b it src hv hn hs=> ?_
 obtain ⟨f,rs⟩:=src;cases hv;have hl:IsTup s.heap a vs.toArray:=⟨_,f.1,rfl,_,rfl⟩;have hit:IsTupIter s.heap I a k:=it;generalize hw:nth ws k=x9;induction x9 using oC with
 |none=> exact next_tuple_end hh hit hl (DT rs hw) λh' he=> hn hw h' s.toks he
 |some w=>
  obtain ⟨v,hv,_⟩:=AD.nth rs hw;refine next_tuple_item hit hl (by simpa using hv) λh' hit' sb=> ?_
  exact hs w hw v h' s.toks sb.extBut hit' (Hf b sb.extBut rs hw hv)
theorem TP (hh:C.A.handled=none) {a:Addr} {j:Nat}:Iter C t I [I] (CP I "list_iterator" λk=> #[.ref a,.int k 0]) (λk υ=> CP I "list_iterator" (λk=> #[.ref a,.int k 0]) k) (λx υ=> x.μ j=a/\j < x.σ.length) (λk σ=> itemAt σ j k):=by
 refine Iter.plain (by decide) (λit q=> wpAny_pyIter_listiter (l:=a) it q) (λfz le h=> ⟨(le.2 j h.2).trans h.1,Nat.lt_of_lt_of_le h.2 le.1⟩) λ{x s k r Q E} i b it src hv hn hs=> ?_
 obtain ⟨y,hj,h2⟩:=AA hv;obtain ⟨ws,h3,h4⟩:=AA h2;cases Bj h3;clear h2 h3;cases h4;obtain ⟨vs,n,h5,rs,_⟩:=i.own j _ hj;rw [src.1] at h5;have hl:s.heap.IsList a vs.toArray:=⟨_,h5,rfl,_,rfl⟩;have hit:s.heap.IsListIter I a k:=it;generalize hw:nth ws k=x9;induction x9 using oC with
 |none=> exact wpAny_pyNext_list_end hh hit hl (DT rs hw) λh' he=> hn hw h' s.toks he
 |some w=>
  obtain ⟨v,hv,_⟩:=AD.nth rs hw;refine wpAny_pyNext_list_item hit hl (by simpa using hv) λh' hit' sb=> ?_
  exact hs w hw v h' s.toks sb.extBut hit' (Hf b sb.extBut rs hw hv)
end
theorem FI {α β:Type} (f:α->β) (l:List α) (k:Nat):nth (l.map f) k=(nth l k).map f:=by rw [AL,AL,List.getElem?_map]
section
variable {C:Cx} {I:Addr} {tgt:PySem.Expr}
theorem Kt {x:Wx} {h:Heap} {c:Nat} {tk:Tok}:Rel C.T (Fz h x.bad) x.mu (.str [c]) (.str ⟨#[c]⟩ tk):=⟨tk,rfl,by show 1 <= LIM;decide⟩
theorem Ot (hh:C.A.handled=none) {t:List Nat} {u:Tok}:Iter C tgt I [I] (CP I "str_ascii_iterator" λk=> #[.str ⟨t.toArray⟩ u,.int k 0]) (λk υ=> CP I "str_ascii_iterator" (λk=> #[.str ⟨t.toArray⟩ u,.int k 0]) k) (λυ υ=> True) (D7 (Fj t)):=
 Iter.plain (by decide) (λit q=> wpAny_pyIter_striter_ascii (x:=⟨t.toArray⟩) (t:=u) it q) (λυ υ υ=> trivial) λ{x s k r Q E} i b it src hv hn hs=> by
  cases hv;have hit:s.heap.IsStrIter I "str_ascii_iterator" ⟨t.toArray⟩ u k:=it;have hw:nth (Fj t) k=(nth t k).map λc=> .str [c]:=FI ..
  generalize hc:nth t k=x9;induction x9 using oC with
  |none=>
   rw [hc] at hw;exact wpAny_pyNext_ascii_end hh hit (by have:=DX hc;simp [this]) λh' he=> hn hw h' s.toks he
  |some c=>
   rw [hc] at hw;refine wpAny_pyNext_ascii_item hit (by rw [AL] at hc;simpa using hc) λh' hit' sb=> ?_
   exact hs _ hw _ h' _ sb.extBut hit' Kt
theorem PY (hh:C.A.handled=none) {t:List Nat} {u:Tok}:Iter C tgt I [I] (CP I "str_iterator" λk=> #[.str ⟨t.toArray⟩ u,.int k 0]) (λk υ=> CP I "str_iterator" (λk=> #[.str ⟨t.toArray⟩ u,.int k 0]) k) (λυ υ=> True) (D7 (Fj t)):=
 Iter.plain (by decide) (λit q=> wpAny_pyIter_striter_wide (x:=⟨t.toArray⟩) (t:=u) it q) (λυ υ υ=> trivial) λ{x s k r Q E} i b it src hv hn hs=> by
  cases hv;have hit:s.heap.IsStrIter I "str_iterator" ⟨t.toArray⟩ u k:=it;have hw:nth (Fj t) k=(nth t k).map λc=> .str [c]:=FI ..
  generalize hc:nth t k=x9;induction x9 using oC with
  |none=>
   rw [hc] at hw;exact wpAny_pyNext_wide_end hh hit (by have:=DX hc;simp [this]) λh' he=> hn hw h' s.toks he
  |some c=>
   rw [hc] at hw;refine wpAny_pyNext_wide_item hit (by rw [AL] at hc;simpa using hc) λh' hit' sb=> ?_
   exact hs _ hw _ h' _ sb.extBut hit' Kt
theorem Oz (hh:C.A.handled=none) {t:List UInt8} {u:Tok}:Iter C tgt I [I] (CP I "bytes_iterator" λk=> #[.bytes t.toArray u,.int k 0]) (λk υ=> CP I "bytes_iterator" (λk=> #[.bytes t.toArray u,.int k 0]) k) (λυ υ=> True) (D7 (t.map λc=> .int (.ofNat c.toNat))):=
 Iter.plain (by decide) (λit q=> KBw.pyIter_self (b:=t.toArray) (t:=u) it q) (λυ υ υ=> trivial) λ{x s k r Q E} i b it src hv hn hs=> by
  cases hv;have hit:KBw.IsBytesIter s.heap I t.toArray u k:=it;have hw:nth (t.map λc=> W.int (.ofNat c.toNat)) k=(nth t k).map λc=> W.int (.ofNat c.toNat):=FI ..
  generalize hc:nth t k=x9;induction x9 using oC with
  |none=>
   rw [hc] at hw;exact KBw.next_end hh hit (by have:=DX hc;simp [this]) λh' he=> hn hw h' s.toks he
  |some c=>
   rw [hc] at hw;refine KBw.next_item hit (by rw [AL] at hc;simpa using hc) λh' hit' sb=> ?_
   exact hs _ hw _ h' _ sb.extBut hit' ⟨_,rfl⟩
theorem OU (n a:Nat):∀k,nth (CQ n a) k=if k < n then some (.int (.ofNat (a + k))) else none:=by
 induction n generalizing a with
 |zero=> intro k;rw [if_neg (Nat.not_lt_zero k)];rfl
 |succ n ih=>
  intro k;induction k with
  |zero=> rw [if_pos (Nat.succ_pos n)];rfl
  |succ k=>
   rw [show nth (CQ (n + 1) a) (k + 1)=nth (CQ n (a + 1)) k from rfl,ih];by_cases h:k < n
   ·rw [if_pos h,if_pos (Nat.succ_lt_succ h),show a + 1 + k=a + (k + 1) by lia]
   ·rw [if_neg h,if_neg λz=> h (Nat.lt_of_succ_lt_succ z)]
theorem Ov (hh:C.A.handled=none) {n:Nat}:Iter C tgt I [I] (λk h=> IsRangeIter h I (k:Int) ((n:Int) - k) 1) (λk υ h=> IsRangeIter h I (k:Int) ((n:Int) - k) 1) (λυ υ=> True) (D7 (CQ n 0)):=by
 have kb:∀{h h':Heap},(∀b y,b ≠ I->h.get? b=some y->h'.get? b=some y)->Bf [I] h h':=λk b y n e=> k b y (λz=> n (z▸ .head _)) e
 refine ⟨λ{k h} it a m=> ?_,λ{k h h'} kp it=> kp I (.head _) _ it,λυ υ υ=> trivial,λ{x s k r Q E} i W it sr hv hn hs=> ?_,λ{k v h} it a m=> ?_,λ{s k v Q E} it q=> Lk (ty:= "range_iterator") (by decide) it rfl rfl (q s.heap (λυ υ υ e=> e) it),λit q=> wpAny_pyIter_rangeiter it q⟩
 ·cases mSg m;exact ⟨_,it,Cb (ty:= "range_iterator") (by decide) rfl⟩
 ·cases hv;have hw:=OU n 0 k;rw [Nat.zero_add] at hw;by_cases hk:k < n
  ·rw [if_pos hk] at hw;refine wpAny_pyNext_range_item it (by lia) λh' hit' sb=> ?_
   refine hs _ hw _ h' _ (kb sb.extBut) ?_ ⟨_,rfl⟩;rw [show ((k + 1:Nat):Int)=(k:Int) + 1 from rfl,show (n:Int) - ((k:Int) + 1)=(n:Int) - k - 1 by lia];exact hit'
  ·rw [if_neg hk] at hw;exact wpAny_pyNext_range_end hh it (by lia) λh' he=> hn hw h' s.toks (kb he)
 ·cases mSg m;exact ⟨_,it,Cb (ty:= "range_iterator") (by decide) rfl⟩
end
section
variable {C:Cx}
noncomputable def GP (k:Nat) (r:Option W):Option W:=match r with |some x=> some (.tup [.int (.ofNat k),x]) |none=> none
theorem ZW {k:Nat} {r:Option W} {w:W} (e:GP k r=some w):∃x,r=some x/\w= .tup [.int (.ofNat k),x]:=by
 induction r using oC with
 |none=> exact nomatch e
 |some x=> cases e;exact ⟨x,rfl,rfl⟩
theorem ZU {k:Nat} {r:Option W} (e:GP k r=none):r=none:=by
 induction r using oC with
 |none=> rfl
 |some x=> exact nomatch e
theorem Qr (hh:C.A.handled=none) {e it a:Addr} {j:Nat} (ne:e ≠ it) {ts:List PySem.Expr} {cx:Nat} {p:Pos}:
  Iter C (.Tuple ts cx p) e [e,it] (λk h=> (∃old,IsEnum h e it (k:Nat) old)/\h.IsListIter it a k) (λk v h=> (∃b y,v= .ref b/\IsEnumOut h e it (k:Nat) y b)/\h.IsListIter it a k) (λx υ=> x.μ j=a/\j < x.σ.length) (λk σ=> ob (itemAt σ j k) λr=> some (GP k r)):=by
 have li:∀{h:Heap} {k:Nat},h.IsListIter it a k->∃o,h.get? it=some o/\¬ CW o:=λq=> by
  obtain ⟨o,ho,hc,_⟩:=q;exact ⟨o,ho,Cb (ty:= "list_iterator") (by decide) hc⟩
 refine ⟨λ{k h} st b m=> ?_,λ{k h h'} kp st=> ?_,λfz le h=> ⟨(le.2 j h.2).trans h.1,Nat.lt_of_lt_of_le h.2 le.1⟩,λ{x s k r Q E} i W st src hv hn hs=> ?_,λ{k v h} st b m=> ?_,λ{s k v Q E} st q=> ?_,λ{s k Q E} st q=> let ⟨⟨_,he⟩,_⟩:=st;wpAny_pyIter_enum he q⟩
 ·obtain ⟨⟨old,he⟩,hi⟩:=st;rcases mCo m with m |m
  ·clear ne;subst m;exact ⟨_,he,Cb (ty:= "enumerate") (by decide) rfl⟩
  ·cases mSg m;exact li hi
 ·obtain ⟨⟨old,he⟩,hi⟩:=st;exact ⟨⟨old,kp e (.head _) _ he⟩,hi.at λo q=> kp it (.tail _ (.head _)) o q⟩
 ·obtain ⟨r',hr,h2⟩:=AA hv;obtain ⟨y,hj,h2'⟩:=AA hr;obtain ⟨ws,h3,h4⟩:=AA h2';obtain ⟨⟨old,he⟩,hi⟩:=st;cases Bj h3;clear h2' h3 hr hv;cases h4;cases h2;obtain ⟨vs,n,h5,rs,_⟩:=i.own j _ hj;rw [src.1] at h5;have hl:s.heap.IsList a vs.toArray:=⟨_,h5,rfl,_,rfl⟩;have kb:∀{h':Heap},(∀b o,b ≠ e->b ≠ it->s.heap.get? b=some o->h'.get? b=some o)->Bf [e,it] s.heap h':=λq b o m g=> q b o (λz=> m (z▸ .head _)) (λz=> m (z▸ .tail _ (.head _))) g
  generalize hw:nth ws k=x9;induction x9 using oC with
  |none=> exact wpAny_pyNext_enum_end hh he hi hl (DT rs hw) λh' q=> hn (by rw [hw];rfl) h' s.toks (kb λb o υ n g=> q b o n g)
  |some w=>
   obtain ⟨v,hv',rv⟩:=AD.nth rs hw;refine wpAny_pyNext_enum_item he hi hl (by simpa using hv') ne λh' he' hi' ht hz hk=> ?_
   refine hs _ (by rewrite [hw];rfl) _ h' (s.toks + 1) (kb hk) ⟨⟨_,_,rfl,he'⟩,hi'⟩ ?_;have nb:¬ x.bad s.heap.objs.size:=λq=> absurd (i.fit _ q) (Nat.not_lt.mpr (Al _))
   refine ⟨_,[.int k s.toks,v],0,rfl,⟨ht,nb⟩,by show 2 <= LIM;decide,_,_,rfl,⟨_,rfl⟩,_,_,rfl, ?_,rfl⟩;exact Rel.mono (λb o q=> ⟨hk b o (λz=> q.2 (z▸W.bad e (.head _))) (λz=> q.2 (z▸W.bad it (.tail _ (.head _)))) q.1,q.2⟩) (Mu.le_refl _) rv
 ·obtain ⟨⟨b',y,_,he⟩,hi⟩:=st;rcases mCo m with m |m
  ·clear ne;subst m;exact ⟨_,he,Cb (ty:= "enumerate") (by decide) rfl⟩
  ·cases mSg m;exact li hi
 ·obtain ⟨⟨b,y,rfl,he⟩,hi⟩:=st;show wpAny _ _ (load e >>=_) Q E s;refine wpAny_bind (wpAny_load he ?_);refine bm_if_true (by simp) (wpAny_bind (wpAny_rule ?_));refine wpAny_setField_rec he (by simp) λh' he' sb=> ?_
  exact q h' (λc o m g=> sb.extBut c o (λz=> m (z▸ .head _)) g) ⟨⟨_,he'⟩,hi.extBut sb.extBut (Ne.symm ne)⟩
end
theorem Vc {l:List Int} {k:Int} (e:K7 l k=false):k ∉ l:=by
 induction l with
 |nil=> exact List.not_mem_nil
 |cons a l ih=>
  have e:Bool.rec (motive:=λυ=> Bool) (K7 l k) true (Fv a k)=false:=e;rw [HI] at e;by_cases h:a=k
  ·rw [beq_iff_eq.mpr h] at e;exact nomatch e
  ·rw [beq_eq_false_iff_ne.mpr h] at e;exact λm=> (mCo m).elim (λz=> h z.symm) (ih e)
theorem Pe {l:List Int} (e:GV l=true):l.Nodup:=by
 induction l with
 |nil=> exact List.nodup_nil
 |cons a l ih=>
  have e:Bool.rec (motive:=λυ=> Bool) (GV l) false (K7 l a)=true:=e;generalize h:K7 l a=x9;induction x9 using bC with
  |true=> rw [h] at e;exact nomatch e
  |false=> rw [h] at e;exact List.nodup_cons.mpr ⟨Vc h,ih e⟩
theorem ES.pairs {prog:Program} {w:World} {T:Tb} {F:Ad} {μ:Mu} {d:List (Int × W)} {es:List DictEntry} (q:ES (Rel T F μ) d es):E13 (λkvs=> Pairs (intKind prog w) es kvs) (λkvs=> kvs.map (·.1)=d.map (·.1)) (λkvs=> AD T F μ (d.map (·.2)) (kvs.map (·.2))):=by
 induction d generalizing es with
 |nil=> cases (show es= [] from q);exact ⟨[],.nil,rfl,rfl⟩
 |cons c r ih=>
  obtain ⟨e,es',t,rfl,h1,h2,h3,q⟩:=q;obtain ⟨kvs,p,m,r⟩:=ih q;exact ⟨(c.1,e.val)::kvs,.cons (kv:=(c.1,e.val)) (by rw [h1];simp [intKind,Value.isInt]) rfl p,by rw [List.map_cons,List.map_cons,m],⟨_,_,rfl,h3,r⟩⟩
theorem ES.at {prog:Program} {w:World} {T:Tb} {F:Ad} {μ:Mu} {d:List (Int × W)} {es:List DictEntry} {h:Heap} {a:Addr} {n:Nat} (q:ES (Rel T F μ) d es) (nd:GV (d.map λp=> p.1)=true) (f:h.get? a=some (AM es n)):E13 (λkvs=> h.DictAt (intKind prog w) a kvs n) (λkvs=> kvs.map (·.1)=d.map (·.1)) (λkvs=> AD T F μ (d.map (·.2)) (kvs.map (·.2))):=by
 obtain ⟨kvs,p,m,r⟩:=q.pairs (prog:=prog) (w:=w);exact ⟨kvs,⟨_,es.toArray,f,⟨rfl,rfl,rfl⟩,rfl,λu hu=> q.Ih (by simpa using hu),by simpa using p,by rw [m];exact Pe nd⟩,m,r⟩
section
variable {C:Cx} {tgt:PySem.Expr}
theorem Sl (hh:C.A.handled=none) {I a:Addr} {kvs:List (Int × Value)} {es:List DictEntry} {n:Nat} {l:List Int} (hl:kvs.map (·.1)=l) (D:∀h:Heap,h.get? a=some (AM es n)->h.DictAt (intKind C.prog C.w) a kvs n):
  Iter C tgt I [I] (CP I "dict_keyiterator" λk=> #[.ref a,.int k 0,.int kvs.length 0,.int n 0]) (λk υ=> CP I "dict_keyiterator" (λk=> #[.ref a,.int k 0,.int kvs.length 0,.int n 0]) k) (λx h=> Fz h x.bad a (AM es n)) (D7 (l.map λi=> .int i)):=by
 subst hl;refine Iter.plain (by decide) (λit q=> wpAny_pyIter_keyiter (d:=a) it q) (λfz le h=> fz _ _ h) λ{x s k r Q E} i b it src hv hn hs=> ?_
 cases hv;have hm:=D s.heap src.1;have hit:s.heap.IsKeyIter I a k kvs.length n:=it;have hw:nth ((kvs.map (·.1)).map λi=> W.int i) k=(nth kvs k).map λp=> W.int p.1:=by rw [FI,FI,Option.map_map];rfl
 generalize hc:nth kvs k=x9;induction x9 using oC with
 |none=>
  rw [hc] at hw;exact wpAny_pyNext_dict_end hh hit hm (by rw [<- AL];exact hc) λh' he=> hn hw h' s.toks he
 |some p=>
  rw [hc] at hw;refine wpAny_pyNext_dict_item hit hm (k:=p.1) (v:=p.2) (by rw [<- AL];exact hc) λkey h' hk hit' sb=> ?_
  obtain ⟨t,rfl⟩:=Value.isInt_shape (show Value.isInt p.1 key=true from hk);exact hs _ hw _ h' s.toks sb.extBut hit' ⟨_,rfl⟩
end
theorem PA {ks:List Nat} {ws:List W} {l l':LL} {σ:List O} (e:HK ks ws l=some l'):Fh (ks.map Bk) ws l σ= .next l' σ/\ws.length=ks.length:=by
 induction ks generalizing ws l with
 |nil=> induction ws using lC with
  |nil=> cases e;exact ⟨rfl,rfl⟩
  |cons=> exact nomatch e
 |cons k ks ih=> induction ws using lC with
  |nil=> exact nomatch e
  |cons w ws=>
   obtain ⟨h1,h2⟩:=ih e;exact ⟨h1,congrArg Nat.succ h2⟩
theorem La {ks:List Nat} {w:W} {l l':LL} (h:2 <= ks.length) (e:FD ks w l=some l'):∃ws,w= .tup ws/\HK ks ws l=some l':=by
 induction ks using lC with
 |nil=> exact absurd h (by decide)
 |cons k ks=>
  induction ks using lC with
  |nil=> exact absurd (show 2 <= 1 from h) (by decide)
  |cons j ks=>
   obtain ⟨ws,h1,h2⟩:=AA e;exact ⟨ws,Dm h1,h2⟩
section
variable {C:Cx}
theorem Vf (O:C.Ok) (hh:C.A.handled=none) {ts:List PySem.Expr} {ks:List Nat} {cx:Nat} {tp:Pos} (D:FW C ts (ks.map Bk)) (h2:2 <= ks.length):F7 C (.Tuple ts cx tp) ks:=λ{x l l' s v w Q E} i r e q=> by
 obtain ⟨ws,rfl,e'⟩:=La h2 e;obtain ⟨e1,e2⟩:=PA (σ:=x.σ) e';obtain ⟨n1,n2⟩:=LV D (env:=C.env);rw [PyProof.Rows.assign_Tuple];refine Bw.bind (Bw.standAt ?_);unfold unpack;rw [n1,n2];refine Bw.bind (Bw.holding (Bw.of (E3 O hh i r (by rw [e2,<- D.length,List.length_map]) λvs s2 g2 i2 r2=> ?_)));refine Bw.mono (Jy D i2 r2 (Q:=λυ s'=> Q () s') ?_) (λυ υ q=> q) λυ υ e=> e
 rw [e1];exact λs' x' ex g' i'=> q s' x' ex (g2.trans g') i'
end
def UB (tg:List Nat) (b:SS) (ws:List W) (k:Nat):SS:=λl σ=> if k <= ws.length then Dl tg b (ws.drop k) l σ else .stuck 0
theorem Ha {tg:List Nat} {b:SS} {ws:List W} {k:Nat} (h:k <= ws.length):UB tg b ws k=Dl tg b (ws.drop k):=by
 funext l σ;exact if_pos h
theorem Pl {tg:List Nat} {b:SS} {ws:List W}:MN tg b (D7 ws) (ws.length + 1) (UB tg b ws):=by
 refine ⟨λk hk l σ=> ?_,λl σ=> ⟨0,if_neg (Nat.not_succ_le_self _)⟩⟩;rw [Ha (Nat.le_of_lt_succ hk)];unfold D7;generalize h:nth ws k=x9;induction x9 using oC with
 |none=>
  rw [List.drop_eq_nil_of_le (DX h)];rfl
 |some w=>
  have hk':k < ws.length:=Nat.lt_of_not_le λz=> by
   rw [AL,List.getElem?_eq_none_iff.mpr z] at h;exact nomatch h
  rw [AL,List.getElem?_eq_getElem hk'] at h;rw [List.drop_eq_getElem_cons hk',sIj h,Ha hk'];rfl
def EM (i:Nat) (en:Bool) (k:Nat) (σ:List O):Option (Option W):=Bool.rec (itemAt σ i k) (ob (itemAt σ i k) λr=> some (GP k r)) en
theorem Mg {tg:List Nat} {b:SS} {i:Nat} {en:Bool} {n k:Nat} {l:LL} {σ:List O}:EV tg b i en (n + 1) k l σ=Option.rec (.stuck 93) (λx=> Option.rec (.next l σ) (λx=> Er tg b x (EV tg b i en n (k + 1)) l σ) x) (EM i en k σ):=by
 show Option.rec (motive:=λυ=> RS) (.stuck 93) (λx=> Option.rec (motive:=λυ=> RS) (.next l σ) (λx=> Er tg b (Bool.rec (motive:=λυ=> W) x (.tup [.int (.ofNat k),x]) en) (EV tg b i en n (k + 1)) l σ) x) (itemAt σ i k)=_;unfold EM;cases itemAt σ i k with
 |none=> cases en <;> rfl
 |some r=> cases r <;> cases en <;> rfl
theorem RM {tg:List Nat} {b:SS} {i:Nat} {en:Bool} {f:Nat}:MN tg b (EM i en) f (λk=> EV tg b i en (f - k) k):=by
 refine ⟨λk hk l σ=> ?_,λl σ=> ⟨91,by show EV tg b i en (f - f) f l σ=_;rw [Nat.sub_self];rfl⟩⟩;show EV tg b i en (f - k) k l σ=_;rw [show f - k=(f - (k + 1)) + 1 by lia,Mg]
def Lc (it:It):Nat->List O->Option (Option W):=match it with
 | .vals ws=> D7 ws
 | .dyn i en=> EM i en
inductive Ready (C:Cx) (t:PySem.Expr) (it:It) (x:Wx) (l:LL) (s:Shared) (v:Value) (s':Shared):Prop
 |mk (I:Addr) (M:List Addr) (It:Nat->Heap->Prop) (Mid:Nat->Value->Heap->Prop) (Src:Wx->Heap->Prop) (h1:v= .ref I) (h2:Iter C t I M It Mid Src (Lc it)) (h3:Go C x (x.An M) s s') (h4:In C (x.An M) l s'.heap) (h5:Own (x.An M) M) (h6:Dj C M) (h7:∀a ∈ M,lv s.heap <= a) (h8:It 0 s'.heap) (h9:Src (x.An M) s'.heap) (h10:Keeps s.heap s'.heap)
section
variable {C:Cx} {t:PySem.Expr} {it:It} {x:Wx} {l:LL} {s:Shared}
theorem Hy (oc:C.Ok) {I:Addr} {M:List Addr} {It:Nat->Heap->Prop} {Mid:Nat->Value->Heap->Prop} {Src:Wx->Heap->Prop} {h':Heap} {tk:Nat} (W:Iter C t I M It Mid Src (Lc it)) (i:In C x l s.heap) (kp:Keeps s.heap h') (nw:∀a ∈ M,lv s.heap <= a/\a < lv h') (h0:It 0 h') (sr:Src x s.heap):Ready C t it x l s (.ref I) {s with heap:=h',toks:=tk}:=by
 obtain ⟨g,i',ow⟩:=i.fresh oc kp nw;exact ⟨I,M,It,Mid,Src,rfl,W,g.trans .toks,i',ow,i.away λa m=> (nw a m).1,λa m=> (nw a m).1,h0,W.src (Go.fz (s':={s with heap:=h'}) i g) g.mu sr,kp⟩
theorem CN (oc:C.Ok) {It:Nat->Heap->Prop} {Mid:Nat->Value->Heap->Prop} {Src:Wx->Heap->Prop} {o:AN} (W:Iter C t s.heap.objs.size [s.heap.objs.size] It Mid Src (Lc it)) (i:In C x l s.heap) (nf:o.isFreed=false) (h0:(s.heap.push o).get? s.heap.objs.size=some o->It 0 (s.heap.push o)) (sr:Src x s.heap):Ready C t it x l s (.ref s.heap.objs.size) {s with heap:=s.heap.push o}:=by
 have e:=Heap.get?_push_size s.heap (o:=o) nf;exact Hy oc (tk:=s.toks) W i (λb y g=> Heap.get?_push_of_some _ g) (λa m=> by rw [mSg m];exact ⟨Al _,Ak e⟩) (h0 e) sr
theorem LU (oc:C.Ok) (hh:C.A.handled=none) {v:Value} {w:W} {Q:VP} {E:VP} (i:In C x l s.heap) (r:C.rel x s.heap v w) (e:EP 0 w x.σ=some it) (q:∀v s',Ready C t it x l s v s'->Q v s'):wpAny C.M C.A (pyIter v) Q E s:=by
 rcases AX (show orO (ob (H0 w) λl=> some (It.vals l)) (ob (listAt x.σ w) λi=> some (.dyn i false))=some it from e) with e |e
 ·obtain ⟨ws,e1,e2⟩:=AA e;cases e2;induction w using W.casesOn with
  |lst l' =>
   cases e1;obtain ⟨a,vs,n,rfl,f,_,rs⟩:=r;refine wpAny_pyIter_list ⟨_,f.1,rfl,_,rfl⟩ (q _ _ (CN oc (it:= .vals ws) (SU (vs:=vs) (n:=n) hh) i rfl (λe=> ⟨_,e,rfl,rfl⟩) ⟨f,rs⟩))
  |tup l' =>
   cases e1;obtain ⟨a,vs,n,rfl,f,_,rs⟩:=r;exact iter_tuple ⟨_,f.1,rfl,_,rfl⟩ (q _ _ (CN oc (it:= .vals ws) (Rt (vs:=vs) (n:=n) hh) i rfl (λe=> ⟨_,e,rfl,rfl⟩) ⟨f,rs⟩))
  |str b=>
   cases e1;obtain ⟨u,rfl,_⟩:=r;cases ha:(Str.mk b.toArray).cps.all (· < 128)
   ·exact wpAny_pyIter_wide ha (q _ _ (CN oc (it:= .vals (Fj b)) (PY hh) i rfl (λe=> ⟨_,e,rfl,rfl⟩) trivial))
   ·exact wpAny_pyIter_ascii ha (q _ _ (CN oc (it:= .vals (Fj b)) (Ot hh) i rfl (λe=> ⟨_,e,rfl,rfl⟩) trivial))
  |bytes b=>
   cases e1;obtain ⟨u,rfl,_⟩:=r;exact KBw.pyIter_bytes (q _ _ (CN oc (it:= .vals _) (Oz hh) i rfl (λe=> ⟨_,e,rfl,rfl⟩) trivial))
  |dct ks xs=>
   obtain ⟨d,e2,e3⟩:=AA e1;obtain ⟨nd,e3⟩:=AJ e3;clear e1;cases e3;clear e3;obtain ⟨a,es,n,rfl,f,ns,re⟩:=r;obtain ⟨kvs,D,m,_⟩:=(FU re e2).at (prog:=C.prog) (w:=C.w) nd f.1;have D':∀h:Heap,h.get? a=some (AM es n)->h.DictAt (intKind C.prog C.w) a kvs n:=λh g=> by
    obtain ⟨kvs',D',m'⟩:=(FU re e2).at (prog:=C.prog) (w:=C.w) nd g;obtain ⟨o,es',ho,r⟩:=id D;rw [f.1] at ho;clear e;cases ho;exact ⟨_,es',g,r⟩
   have:=Sl (tgt:=t) hh (I:=s.heap.objs.size) m D';rw [List.map_map] at this;exact wpAny_pyIter_dict ns D (q _ _ (CN oc (it:= .vals _) this i rfl (λe=> ⟨_,e,rfl,rfl⟩) f))
  |_=> exact nomatch e1
 ·obtain ⟨j,e1,e2⟩:=AA e;cases e2;obtain ⟨j',o,rfl,hj,e3⟩:=C8 e1;obtain ⟨ws,h3,h4⟩:=AA e3;cases Bj h3;clear e1 e3 h3;cases h4;obtain ⟨rfl,hl⟩:=(show v= .ref (x.μ j)/\j < x.σ.length from r);obtain ⟨vs,n,h5,rs,_⟩:=i.wd.own j _ hj;exact wpAny_pyIter_list (items:=vs.toArray) ⟨_,h5,rfl,_,rfl⟩ (q _ _ (CN oc (it:= .dyn j false) (TP hh) i rfl (λe=> ⟨_,e,rfl,rfl⟩) ⟨rfl,hl⟩))
end
namespace Bw
theorem For {M:Model} {A:Around} {env:Env} {s:Shared} {E:VP} {target iter:PySem.Expr} {body orelse:List Stmt} {pos:Pos} {Q:Flow->Shared->Prop} (hs:∀x,foldedSetIterable iter env x=Pure.pure x)
  (h:wpB M A (eval iter env) (λx s1=> wpB M A (pyIter x) (λit s2=> codeB M A (.forLoop target it body orelse env) (λr s'=> match r with | .ok f=> Q f s' | .error e=> cameBackBy M A env E e s') s2) E s1) E s):wpB M A (exec (.For target iter body orelse pos) env) Q E s:=by
 rw [arm_exec_For];refine bind (standAt (bind (mono h (λx s1 h1=> ?_) λυ υ h=> h)));rw [hs];exact bind (pure (bind (standAt (bind (holding (mono h1 (λit s2 h2=> runOwn h2) λυ υ h=> h))))))
end Bw
section
variable {C:Cx}
theorem Qc (oc:C.Ok) {t:PySem.Expr} {tg:List Nat} {b:SS} {body:List Stmt} {it:It} {x:Wx} {l:LL} {s s':Shared} {v:Value} {Q:Flow->Shared->Prop} {E:VP} (T:F7 C t tg) (D:CU C body b) (R:Ready C t it x l s v s') (o:AK C x s (T5 tg b it l x.σ) Q E):
  codeB C.M C.A (.forLoop t v body [] C.env) (λr s'=> match r with | .ok f=> Q f s' | .error e=> cameBackBy C.M C.A C.env E e s') s':=by
 obtain ⟨I,M,It,Mid,Src,rfl,W,g,i,ow,aw,nw,h0,sr,_⟩:=R;cases it with
 |vals ws=> exact Jq oc W (Pl (tg:=tg) (b:=b)) T D aw g nw i ow h0 sr (by rw [Ha (Nat.zero_le _)];exact o)
 |dyn j en=> exact Jq oc W (RM (tg:=tg) (b:=b) (f:=fuel)) T D aw g nw i ow h0 sr o
def Nq (C:Cx) (t e:PySem.Expr) (ik:Nat) (f:SE):Prop:=∀{x:Wx} {l:LL} {s:Shared} {Q:VP} {E:VP} {F:It->List O->RS} {Q':Flow->Shared->Prop},In C x l s.heap->
 AK C x s ((f l x.σ).toS l λw σ=> Option.rec (.stuck 89) (λi=> F i σ) (EP ik w σ)) Q' E->(∀v s1 s' x1 it,Go C x x1 s s1->Ready C t it x1 l s1 v s'->AK C x1 s1 (F it x1.σ) Q' E->Q v s')->wpB C.M C.A (eval e C.env) (λv s1=> wpB C.M C.A (pyIter v) Q E s1) E s
theorem Th (oc:C.Ok) (hh:C.A.handled=none) {t e:PySem.Expr} {f:SE} (D:EOk C e f):Nq C t e 0 f:=λ{x l s Q E F Q'} i o q=> by
 refine Bw.mono (D.Ew i o) (λv s1 h=> ?_) λυ υ e=> e
 obtain ⟨x1,w,g1,i1,r1,o1⟩:=h;generalize hm:EP 0 w x1.σ=x9;induction x9 using oC with
 |none=> rw [hm] at o1;exact o1.elim
 |some it=>
  rw [hm] at o1;exact Bw.of (LU oc hh i1 r1 hm λv s' R=> q v s1 s' x1 it g1 R o1)
theorem H3 (oc:C.Ok) {t e:PySem.Expr} {tg:List Nat} {ik:Nat} {f:SE} {b:SS} {body:List Stmt} {p:Pos} (hs:∀x,foldedSetIterable e C.env x=Pure.pure x) (K:Nq C t e ik f) (T:F7 C t tg) (D:CU C body b):SOk C (.For t e body [] p) (Xr tg ik f b):=by
 intro x l s Q E i o;refine Bw.For hs (K i o λv s1 s' x1 it g1 R o1=> ?_);exact Qc oc T D R o1
end
section
variable {C:Cx}
theorem gR {j:Nat} {a:Addr}:EM j true=λk σ=> ob (itemAt σ j k) λr=> some (GP k r):=rfl
theorem MS (B:C.toBase.Ok) (oc:C.Ok) {f n:Nat} {fp ip:Pos} {e:E} {g:SE} (hf:f < 10) (hb:C.T.bi f=some n) (hk:C.env.kindOf (C.T.nm n)=some .globalImplicit) (kp:∀h:Heap,∃k,Looks C.M h (keeperOf (GG f)) k) (D:EOk C (den C.T e) g) {x:Wx} {l:LL} {s:Shared} {Q:VP} {E:VP} {F:W->List O->RS} {Q':Flow->Shared->Prop} (i:In C x l s.heap)
  (o:AK C x s ((g l x.σ).toS l F) Q' E)
  (q:∀v s1 x1 w,Go C x x1 s s1->In C x1 l s1.heap->C.rel x1 s1.heap v w->AK C x1 s1 (F w x1.σ) Q' E->wpAny C.M C.A (call (GG f) [v]) (λu s2=> wpB C.M C.A (pyIter u) Q E s2) E s1):
  wpB C.M C.A (eval (.Call (.Name (bnm f) fp) [den C.T e] [] ip) C.env) (λv s1=> wpB C.M C.A (pyIter v) Q E s1) E s:=by
 rw [arm_eval_Call_Name'];refine Bw.bind (Bw.of (H5 B oc hf hb hk i (BG (BV [e]) ?_)));show wpB _ _ (spliced (backTo _ (starEach (den C.T e::AV C.T []) C.env))) _ _ _;rw [(simple C.T e).star];refine Bw.As (Bw.mono (D.Ew i o) (λv s1 hx=> ?_) λυ υ e=> e);obtain ⟨x1,w,g1,i1,r1,o1⟩:=hx;exact Bw.pure ⟨kp _,Bw.of (q v s1 x1 w g1 i1 r1 o1)⟩
theorem S1 (B:C.toBase.Ok) (oc:C.Ok) (hh:C.A.handled=none) {t:PySem.Expr} {n:Nat} {fp ip:Pos} {e:E} {g:SE} (hb:C.T.bi 8=some n) (hk:C.env.kindOf (C.T.nm n)=some .globalImplicit) (D:EOk C (den C.T e) g):Nq C t (.Call (.Name (bnm 8) fp) [den C.T e] [] ip) 1 g:=λ{x l s Q E F Q'} i o q=> by
 refine MS B oc (by decide) hb hk (λh=> ⟨.machine,Looks.of_pure rfl⟩) D i o λv s1 x1 w g1 i1 r1 o1=> ?_
 generalize hm:EP 1 w x1.σ=x9;induction x9 using oC with
 |none=> rw [hm] at o1;exact o1.elim
 |some it=>
  rw [hm] at o1;obtain ⟨j,e1,e2⟩:=AA (show (ob (BL w) λi=> ob (CY i) λn=> gd (Nat.ble n LIM) (some (It.vals (CQ n 0))))=some it from hm);obtain ⟨m,e3,e4⟩:=AA e2;obtain ⟨le,e4⟩:=AJ e4;clear e2 hm;cases e4;cases A8 e1;cases CC e3;clear e1 e3 e4;obtain ⟨u,rfl⟩:=r1;have le:=lBl le;have le':LIM < 2 ^ 62:=by decide
  refine call_range_1 (Bw.of (wpAny_pyIter_range (IsRange.new ..) (small_one (by decide) (by decide) (by lia) (by have:=Int.ofNat_lt.mpr (Nat.lt_of_le_of_lt le le');exact this)) ?_));have hs:Builtin.Range.rangeSize 0 (m:Int) 1=(m:Int) - (0:Nat):=by rw [rangeSize_one];split <;> simp_all <;> lia
  rw [hs];refine q _ s1 _ x1 (.vals (CQ m 0)) g1 (Hy oc (tk:=s1.toks + 1 + 1) (Ov hh (n:=m)) i1 (λb y e=> Heap.get?_push_of_some _ (Heap.get?_push_of_some _ e)) ?_ (Heap.get?_push_size _ rfl) trivial) o1;intro a m';rw [mSg m'];exact ⟨Nat.le_trans (Al _) (by rw [Heap.size_push];exact Nat.le_succ _),Ak (Heap.get?_push_size _ rfl)⟩
theorem Vz (B:C.toBase.Ok) (oc:C.Ok) (hh:C.A.handled=none) {ts:List PySem.Expr} {cx:Nat} {tp:Pos} {n:Nat} {fp ip:Pos} {e:E} {g:SE} {ik:Nat} (hi:2 <= ik) (hb:C.T.bi 9=some n) (hk:C.env.kindOf (C.T.nm n)=some .globalImplicit) (D:EOk C (den C.T e) g):Nq C (.Tuple ts cx tp) (.Call (.Name (bnm 9) fp) [den C.T e] [] ip) ik g:=λ{x l s Q E F Q'} i o q=> by
 refine MS B oc (by decide) hb hk (λh=> ⟨.machine,Looks.of_pure rfl⟩) D i o λv s1 x1 w g1 i1 r1 o1=> ?_
 generalize hm:EP ik w x1.σ=x9;induction x9 using oC with
 |none=> rw [hm] at o1;exact o1.elim
 |some it=>
  rw [hm] at o1;have hm:(ob (listAt x1.σ w) λi=> some (It.dyn i true))=some it:=by
   rcases ik with _ |_ |ik
   ·exact absurd hi (by decide)
   ·exact absurd hi (by decide)
   ·exact hm
  obtain ⟨j,e1,e2⟩:=AA hm;clear hm;cases e2;clear hm;obtain ⟨j',o,rfl,hj,e3⟩:=C8 e1;obtain ⟨ws,h3,h4⟩:=AA e3;cases Bj h3;clear e1 e3 h3;cases h4;obtain ⟨rfl,hl⟩:=(show v= .ref (x1.μ j)/\j < x1.σ.length from r1);obtain ⟨vs,n,h5,rs,_⟩:=i1.wd.own j _ hj;refine call_enumerate_list (items:=vs.toArray) ⟨_,h5,rfl,_,rfl⟩ λh' he hi' hz kp=> ?_
  refine Bw.of (wpAny_pyIter_enum (s:={s1 with heap:=h'}) he ?_);refine q _ s1 _ x1 (.dyn j true) g1 (Hy oc (tk:=s1.toks) (Qr hh (j:=j) (Nat.succ_ne_self _)) i1 kp ?_ ⟨⟨_,he⟩,hi'⟩ ⟨rfl,hl⟩) o1;obtain ⟨_,ho,_⟩:=id hi';intro a m';rcases mCo m' with m' |m'
  ·rw [m'];exact ⟨Nat.le_trans (Al _) (Nat.le_succ _),Ak he⟩
  ·rw [mSg m'];exact ⟨Al _,Ak ho⟩
end
namespace Bw
section
variable {α β:Type} {M:Model} {A:Around} {E:VP} {s:Shared}
theorem XC {a:Addr} {p:Option Value} {k:AN->Sem α} {o:AN} {Q:α->Shared->Prop} (ho:s.heap.get? a=some o) (h:wpB M A (k o) Q E s):wpB M A (.load a p k) Q E s:=λΓ q i d n z=> ⟨o,ho,h Γ q i d n z⟩
end
theorem Ui (C:Addr) (rest:List Value):Cs (.builtin "type.__call__" ⟨.ref C::rest,[]⟩):=λv p=> by
 show (Builtin.Bytes.sameRef (.ref C) v && Builtin.Bytes.decodersThatHold.contains "type.__call__")=false;rw [show Builtin.Bytes.decodersThatHold.contains "type.__call__" =false from by decide +kernel,Bool.and_false]
section
variable {prog:Program} {w:World} {A:Around} {s:Shared} {R:Result->Shared->Prop}
structure Cal (M:Model) (h:Heap) (C f:Addr) (newId:String):Prop where
 obj:∃oc od cd sl,h.get? C=some ⟨oc,od,.cls cd,sl⟩/\cd.mro.isEmpty=false
 call:Looks M h (specialOf (.ref C) "__call__") (some (.builtin "type.__call__"))
 typ:Looks M h (isInstance (.ref C) (.type "type")) true
 made:Looks M h (Bind.madeBy (.ref C)) (some newId)
 self:Looks M h (isSubtype (.ref C) (.ref C)) true
 init:Looks M h (typeLookup (.ref C) "__init__") (some (.ref f))
 bnd:∀x,Looks M h (bindSpecial (.ref f) x) (.ref f,[x])
theorem NQ {C f x:Addr} {newId:String} {rest:List Value} {h1:Heap} {o1:AN} (Y:Cal (model prog w) s.heap C f newId) (kp:∀b o,s.heap.get? b=some o->h1.get? b=some o) (h1x:h1.get? x=some o1) (hc:o1.cls= .ref C)
  (new:∀(A':Around) (R':Result->Shared->Prop),R' (.ok (.ret (.ref x))) {s with heap:=h1}->codeAny (model prog w) A' (.call (.builtin newId) ⟨.ref C::rest,[]⟩) R' s)
  (h:codeB (model prog w) (A.under (.builtin "type.__call__" ⟨.ref C::rest,[]⟩)) (.call (.ref f) ⟨.ref x::rest,[]⟩) (InitBack x R) {s with heap:=h1}):codeB (model prog w) A (.call (.ref C) ⟨rest,[]⟩) R s:=by
 obtain ⟨⟨oc,od,cd,sl,hC,ne⟩,call,typ,made,self,init,bnd⟩:=Y;refine Bw.ofTree (λυ υ=> rfl) ?_;show wpB _ _ (callAny (.ref C) _) _ _ _;refine XC hC ?_;show wpB _ _ (callAny.viaDunder (.ref C) _) _ _ _;unfold callAny.viaDunder;refine Ar (call.here ?_);dsimp only;rw [tc_bind];refine bind (pure (bind (pure ?_)));refine pure (a:=Fin.again (.call (.builtin "type.__call__") ⟨.ref C::rest,[]⟩)) (And.intro rfl (Bw.ofTree (λυ υ=> rfl) ?_));show wpB _ A.in1 (do checkBuiltinCall "type.__call__" ⟨.ref C::rest,[]⟩;again (.builtin "type.__call__" ⟨.ref C::rest,[]⟩)) _ _ s;refine Ar (check_slot tc_kind tc_split typ (tc_args _ _ _) (pure ⟨Code.quiet_builtin _ (by decide +kernel),E2 entry_typeCall (Ui _ _) ?_⟩));unfold Builtin.«type.__call__»;have hm:Looks (model prog w) s.heap (mroOf (.ref C)) cd.mro:=((Looks.ld (part:=none) hC).andThen .now).andThen .now;refine Ar (hm.here (ifF ne (Ar (made.here (bind (pure (bind (holding (runValue (ofCode (new _ _ ?_)))))))))));have t1:Looks (model prog w) h1 (typeOf (.ref x)) (.ref C):=(Looks.ld h1x).andThen (hc▸ .now);refine Ar (Looks.here (s:={s with heap:=h1}) (t1.andThen (self.keeps kp)) (ifF rfl (bind (holding ?_))));unfold callSpecial?;have t2:Looks (model prog w) h1 (specialOf (.ref x) "__init__") (some (.ref f)):=t1.andThen (init.keeps kp);refine Ar (Looks.here (s:={s with heap:=h1}) t2 (holding ?_));refine Ar (Looks.here (s:={s with heap:=h1}) ((bnd (.ref x)).keeps kp) (bind (Bw.call (ER h λr s' z=> ?_))));rcases r with e |(v |_ |_ |_) <;> first |exact z |exact z.elim |skip
 obtain ⟨rfl,z⟩:=z;exact pure (ifF rfl (pure z))
end
end Bw
noncomputable def Bu (l:List Value):Bool:=match l with
 | .ref _::r=> Bu r
 |l=> l== [.type "Exception",.type "BaseException",.type "object"]
set_option tactic.hygienic true in
theorem HN {P:List Value->Prop} (h0:P [.type "Exception",.type "BaseException",.type "object"]) (h1:∀c l,P l->P (.ref c::l)) {l:List Value} (e:Bu l=true):P l:=by
 induction l with
 |nil=> exact nomatch e
 |cons v r ih=>
  by_cases q:∃c,v= .ref c
  ·obtain ⟨c,rfl⟩:=q;unfold Bu at e;exact h1 c r (ih e)
  ·unfold Bu at e
   split at e
   ·rename_i c r' z;clear e;cases z;exact absurd ⟨c,rfl⟩ q
   ·rw [beq_iff_eq.mp e];exact h0
theorem B9 {X:String} {b:Bool} (hb:([.type "Exception",.type "BaseException",.type "object"]:List Value).contains (.type X)=b) {l:List Value} (e:Bu l=true):l.contains (.type X)=b:=
 HN (P:=λl=> l.contains (.type X)=b) hb (λc l q=> by rw [List.contains_cons,q];rfl) e
theorem Lu (self:Value) {l:List Value} (e:Bu l=true):refuseLoop self "__setattr__" l=pure ():=
 HN (P:=λl=> refuseLoop self "__setattr__" l=pure ()) (PySem.F.store_Exception.passes self) (λc l q=> by rw [refuseLoop_ref];exact q) e
section
variable {prog:Program} {w:World} {A:Around} {R:Result->Shared->Prop} {h:Heap} {g:Array GenState} {d:Drawn} {t:Nat} {os:OsState}
variable {nm q:Str} {C N:Addr} {bs bm:List Value} {hdct:Bool} {sn:List Str} {sub:List Value} {ab:Bool} {col:Option Bool} {dd:Option Addr} {k0 k1 k2 k3 k5:Option Value}
noncomputable abbrev A6 (C t:Addr) (dict:Option Addr):AN:={cls:= .ref C,dict:=dict,data:= .fields #[.ref t,.none,.none,.none,.bool false,.none]}
theorem VE (on:Bu bm=true) {rest:List Value} (hC:h.get? C=some (excClassObj nm q C N bs bm hdct sn sub ab col dd k0 k1 k2 k3 k5 "Exception.__new__")) (hrest:rest.length <= sizeLine)
  (hq:R (.ok (.ret (.ref (h.objs.size + 1)))) ⟨(h.push (AS rest 0)).push (A6 C h.objs.size none),g,d,t,os⟩):
  codeAny (model prog w) A (.call (.builtin "Exception.__new__") ⟨.ref C::rest,[]⟩) R ⟨h,g,d,t,os⟩:=by
 have F:=PySem.F.excBase_Exception;have hends:=F.ends;have hstar:=F.noStar;have hcB:(Value.ref C::bm).contains (.type "Exception")=true:=by rw [List.contains_cons,B9 (b:=true) (by decide +kernel) on];rfl
 have hcA:(Value.ref C::bm).contains (.type "AttributeError")=false:=by rw [List.contains_cons,B9 (b:=false) (by decide +kernel) on];rfl
 have hcN:(Value.ref C::bm).contains (.type "NameError")=false:=by rw [List.contains_cons,B9 (b:=false) (by decide +kernel) on];rfl
 refine codeAny_call_builtin_code (Code.quiet_builtin _ F.quiet) ?_;simp only [checkBuiltinCall,F.newKind,F.newSplit,F.newRow]
 repeat (first |refine wpAny_loadPart_at hC ?_ |(refine wpAny_isSubtype_exc hC ?_;rewrite [hcB]) |refine wpAny_staticBase_exc hC ?_ |refine wpAny_madeBy_exc hC ?_ |simp only [bne_self_eq_false,Bool.false_eq_true,if_false] |wp_step)
 refine codeAny_builtinAt F.entry ?_;unfold Builtin.«BaseException.__new__»;refine PySem.wpAt_bind ?_;show PySem.wpAt _ _ _ (stack >>=_) _ _ _;refine PySem.wpAt_bind (PySem.wpAt_stack λp below=> PySem.wpAt_of_wpAny ?_);wp_walk;refine PySem.wpAt_of_wpAny ?_;rw [F.owner]
 repeat (first |with_reducible refine wpAny_madeHere_exc F.canon hC ?_ |with_reducible refine wpAny_loadPart_at hC ?_ |(with_reducible refine wpAny_isSubtype_exc hC ?_;first |rewrite [hcB] |rewrite [hcA] |rewrite [hcN]) |wp_step)
 show R _ _;rw [Heap.size_push];exact hq
end
inductive cz (B:Base) (c:Nat):Prop |mk (nm q:Str) (N:Addr) (bs bm:List Value) (sn:List Str) (sub:List Value) (ab:Bool) (col:Option Bool) (dd:Option Addr) (k0 k1 k2 k3 k5:Option Value) (h1:B.KF.lookup c=some (excClassObj nm q c N bs bm true sn sub ab col dd k0 k1 k2 k3 k5 "Exception.__new__")) (h2:Bu bm=true)
structure E5 (B:Base) (c f:Nat):Prop where
 obj:cz B c
 call:specialIn B.KF (.ref c) "__call__" =some (some (.builtin "type.__call__"))
 typ:instIn B.KF (.ref c) (.type "type")=some true
 init:findIn B.KF (.ref c) "__init__" =some (some (.ref f))
 fn:typeIn B.KF (.ref f)=some (.type "function")
section
variable {B:Base} {c f:Nat} {h:Heap}
theorem E5.cal (Y:E5 B c f) (X:B.KF.In h):Bw.Cal (model B.prog B.w) h c f "Exception.__new__" :=by
 obtain ⟨⟨nm,q,N,bs,bm,sn,sub,ab,col,dd,k0,k1,k2,k3,k5,ho,on⟩,call,typ,init,fn⟩:=Y;have hC:=X _ _ ho;refine ⟨⟨_,_,_,_,hC,rfl⟩,looks_specialIn X call,looks_instIn X typ,λA Q E s k z=> ?_,λA Q E s k z=> ?_,looks_findIn X init,λx=> bind_fn X x fn⟩
 ·obtain ⟨hp,g,d,t,os⟩:=s;exact wpAny_madeBy_exc (k _ _ hC) z
 ·obtain ⟨hp,g,d,t,os⟩:=s;exact wpAny_isSubtype_exc (k _ _ hC) (by rw [List.contains_cons,beq_self_eq_true];exact z)
end
section
variable {C:Cx} {s:Shared}
theorem SI {A:Around} {c f:Nat} {vs:List Value} {R:Result->Shared->Prop} (Y:E5 C.toBase c f) (X:C.KF.In s.heap) (hz:vs.length <= sizeLine)
  (h:codeB C.M (A.under (.builtin "type.__call__" ⟨.ref c::vs,[]⟩)) (.call (.ref f) ⟨.ref (s.heap.objs.size + 1)::vs,[]⟩) (InitBack (s.heap.objs.size + 1) R) {s with heap:=(s.heap.push (AS vs 0)).push (A6 c s.heap.objs.size none)}):
  codeB C.M A (.call (.ref c) ⟨vs,[]⟩) R s:=by
 obtain ⟨nm,q,N,bs,bm,sn,sub,ab,col,dd,k0,k1,k2,k3,k5,ho,on⟩:=Y.obj;refine Bw.NQ (o1:=A6 c s.heap.objs.size none) (Y.cal X) (λb o e=> Heap.get?_push_of_some _ (Heap.get?_push_of_some _ e)) ?_ rfl (λA' R' z=> ?_) h
 ·have:=Heap.get?_push_size (s.heap.push (AS vs 0)) (o:=A6 c s.heap.objs.size none) rfl;rwa [Heap.size_push] at this
 ·obtain ⟨hp,g,d,t,os⟩:=s;exact VE on (X _ _ ho) hz z
end
structure Mk (T:Tb) (F:Ad) (μ:Mu) (sh:AN->Prop) (dk:Addr->Prop) (h0 h:Heap) (c e:Addr) (fs:List W):Prop where
 keep:∀b o,b ≠ e->¬ dk b->h0.get? b=some o->h.get? b=some o
 size:h0.objs.size <= h.objs.size
 at_:∃ox,h.get? e=some ox/\sh ox/\((ox.dict=none/\fs= [])\/∃d' es n,ox.dict=some d'/\(h0.objs.size <= d'\/dk d')/\h.get? d' =some (AM es n)/\Af T F μ fs (AH T c) es)
def shE (c:Addr) (ox:AN):Prop:=∃t d,ox=A6 c t d
abbrev F9 (_:Addr):Prop:=False
section
variable {T:Tb} {F:Ad} {μ:Mu} {sh:AN->Prop} {dk:Addr->Prop} {h0 h h':Heap} {c e:Addr} {fs:List W}
theorem Mk.push (m:Mk T F μ sh dk h0 h c e fs) (k:Keeps h h') (z:h.objs.size <= h'.objs.size):Mk T F μ sh dk h0 h' c e fs:=by
 obtain ⟨m1,m2,ox,h1,hs,h2⟩:=m;refine ⟨λb o n n' q=> k b o (m1 b o n n' q),Nat.le_trans m2 z,ox,k _ _ h1,hs,h2.imp id ?_⟩;exact λh=> by obtain ⟨d',es,n,e1,e2,e3,e4⟩:=h;exact ⟨d',es,n,e1,e2,k _ _ e3,e4⟩
theorem Mk.trans (m:Mk T F μ sh dk h0 h c e []) (m':Mk T F μ sh dk h h' c e fs):Mk T F μ sh dk h0 h' c e fs:=by
 obtain ⟨m1,m2,_⟩:=m;obtain ⟨n1,n2,ox,h1,hs,h2⟩:=m';refine ⟨λb o n n' q=> n1 b o n n' (m1 b o n n' q),Nat.le_trans m2 n2,ox,h1,hs,h2.imp id ?_⟩;exact λh=> by obtain ⟨d',es,n,e1,e2,e3,e4⟩:=h;exact ⟨d',es,n,e1,e2.imp (Nat.le_trans m2) id,e3,e4⟩
theorem Mk.start {t:Addr} (h1:h.get? e=some (A6 c t none)):Mk T F μ (shE c) F9 h h c e []:=⟨λυ υ υ υ q=> q,Nat.le_refl _,_,h1,⟨t,none,rfl⟩,.inl ⟨rfl,rfl⟩⟩
end
def LH (B:Base) (c:Addr) (sh:AN->Prop):Prop:=∀{A:Around} {s:Shared} {F:Ad} {μ:Mu} {dk:Addr->Prop} {h0:Heap} {e:Addr} {fs:List W} {a:Nat} {v:Value} {y:W} {Q:Unit->Shared->Prop} {E:VP},B.KF.In s.heap->Mk B.T F μ sh dk h0 s.heap c e fs->(AH B.T c)[fs.length]? =some a->Rel B.T F μ y v->
 (∀h' tk,Mk B.T F μ sh dk h0 h' c e (fs ++ [y])->Q () {s with heap:=h',toks:=tk})->wpAny (model B.prog B.w) A (PySem.setAttr (.ref e) (B.T.nm a) v) Q E s
theorem LA {B:Base} (BO:B.Ok) {c:Addr} {k:Cls} (hk:B.T.cls c=some k) {sh:AN->Prop} {F:Ad} {μ:Mu} {dk:Addr->Prop} {h0 H:Heap} {e d':Addr} {es:List DictEntry} {n:Nat} {fs:List W} {a:Nat} {v:Value} {y:W} {s:Shared} {tk nt:Nat} {A:Around} {R:Fin->Shared->Prop} {E:VP} {ox:AN} (g1:∀b o,b ≠ e->¬ dk b->h0.get? b=some o->H.get? b=some o) (g2:h0.objs.size <= H.objs.size) (g3:H.get? e=some ox) (hs:sh ox) (hd:ox.dict=some d') (nd:∀es n,ox ≠ AM es n) (g4:H.get? d' =some (AM es n)) (g5:h0.objs.size <= d'\/dk d') (g6:Af B.T F μ fs k.fields es)
  (ha:k.fields[fs.length]? =some a) (rv:Rel B.T F μ y v) (r:∀h' tk,Mk B.T F μ sh dk h0 h' c e (fs ++ [y])->R (.done (.ret .none)) {s with heap:=h',toks:=tk}):wpAny (model B.prog B.w) A (Builtin.ObjectAttr.storeInDict d' (.str (B.T.nm a) nt) (B.T.nm a) v) R E {s with heap:=H,toks:=tk}:=by
 have KC:=BO.cls c k hk;have cf:AH B.T c=k.fields:=by unfold AH;rw [hk]
 refine wpAny_bind (wpAny_pure (wpAny_bind ?_));unfold nsSet;refine wpAny_bind (wpAny_bind (wpAny_askSetting (wpAny_pure (wpAny_bind (wpAny_mkText (wpAny_bind (wpAny_loadPart (s:={s with heap:=H,toks:=tk + 1}) g4 ?_)))))));dsimp only [AM];have c0:(!es.toArray.any (·.key.isStr (B.T.nm a)) && es.toArray.any (·.refKey))=false:=by
  have:es.toArray.any (·.refKey)=false:=by
   rw [List.any_toArray,List.any_eq_false];intro e' he';rw [g6.keys.2.2 e' he'];simp
  rw [this,Bool.and_false]
 rw [aRefKeyMayBeTheName_at,c0];have pa:putAt fs fs.length y=some (fs ++ [y]):=by
  have h1:Nat.blt fs.length fs.length=false:=by
   generalize z:Nat.blt fs.length fs.length=x9;induction x9 using bC with
   |false=> rfl
   |true=> exact absurd (lBl z) (Nat.not_succ_le_self _)
  unfold putAt;rw [h1];show gd (Nat.beq fs.length fs.length) _=_;rw [Nat.beq_refl];rfl
 obtain ⟨es',n',hpn,rf'⟩:=J3 (hs:=PyData.keyHash B.w.params (B.T.nm a)) (t:=tk) (n:=n) BO.names KC.lt KC.nd g6 ha rv pa;refine wpAny_updatePart (s:={s with heap:=H,toks:=tk + 1}) g4 ?_;have hd':(H.update d' (Obj.putName (B.T.nm a) (PyData.keyHash B.w.params (B.T.nm a)) (.str (B.T.nm a) tk) v)).get? d' =some (AM es' n'):=hpn▸Heap.get?_update_self _ g4 (by rw [hpn];rfl);have other:∀b,b ≠ d'->(H.update d' (Obj.putName (B.T.nm a) (PyData.keyHash B.w.params (B.T.nm a)) (.str (B.T.nm a) tk) v)).get? b=H.get? b:=λb hb=> Heap.get?_update_other _ _ (Ne.symm hb)
 have small:es'.length <= 100:=by rw [rf'.keys.1];exact Nat.le_trans rf'.keys.2.1 KC.few
 refine wpAny_bind (wpAny_lookBehind (s:={s with heap:=_,toks:=tk + 1}) hd' (pastItsLine_dict (by rw [List.size_toArray,sizeLine_eq];lia)) ?_);have ne:e ≠ d':=λz=> by rw [z,g4] at g3;exact nd _ _ (sIj g3).symm
 refine wpAny_pure (r _ _ ⟨λb o n n' q=> (other b λz=> g5.elim (λg=> Nat.not_lt.mpr g (z▸Heap.lt_size q)) λg=> n' (z▸g)).trans (g1 b o n n' q),by rw [Heap.size_after_update];exact g2,ox,(other e ne).trans g3,hs,.inr ⟨d',es',n',hd,g5,hd',cf▸rf'⟩⟩)
section
variable {prog:Program} {w:World} {A:Around} {K:Frag} {s:Shared} {R:Result->Shared->Prop} {x C:Addr}
theorem Qk {ox:AN} {od:Option AN} {name:Str} {tk:Tok} {v:Value} {cd:ClassData} (X:K.In s.heap) (I:InstAt s.heap x ox C od) (hc:clsIn K C=some cd) (on:Bu cd.mro=true) (ha:findIn K (.ref C) name=some none)
  (h:∀b,wpAny (model prog w) A.in1 (Builtin.ObjectAttr.storeInOwnDict (.ref x) (.ref C) (.str name tk) name v b)
   (λfin s'=> match fin with | .done f=> R (.ok f) s' | .again c' => c'.quiet=true/\codeAny (model prog w) A c' R s') (λe s'=> R (.error e) s') s):
  codeAny (model prog w) A (.call (.builtin "object.__setattr__") ⟨[.ref x,.str name tk,v],[]⟩) R s:=by
 have SF:=PySem.F.store_object;have ne:cd.mro.isEmpty=false:=by generalize q:cd.mro=x9;induction x9 using lC with |nil=> rw [q] at on;cases on |cons _ _=> rfl
 have sub:Looks (model prog w) s.heap (isInstance (.ref x) (.type "object")) true:=I.type.andThen (looks_mroIn X (by unfold mroIn;rw [hc,Option.bind_some,if_neg (by rw [ne];decide),B9 (b:=true) (by decide +kernel) on]));refine codeAny_call_builtin SF.slot.plain SF.entry (@check_slot (model prog w) _ _ s "object.__setattr__" "object" "__setattr__" (.ref x) [.str name tk,v] [] _ SF.kind SF.split sub (SF.args (.ref x) (.str name tk) v) ?_);have hm:Looks (model prog w) s.heap (mroOf (.ref C)) cd.mro:=(looks_clsIn X hc).andThen .now;have L3:Looks (model prog w) s.heap (Builtin.ObjectAttr.storeTaker? none) none:= .now;rw [osa_eq,refuse_eq];refine wpAny_bind (wpAny_bind (I.type.here (wpAny_bind (hm.here ?_))));rw [Lu _ on];exact wpAny_pure (wpAny_bind (I.type.here (wpAny_bind ((looks_findIn X ha).here (wpAny_bind (L3.here (h _)))))))
end
theorem Un {B:Base} {c f:Addr} (BO:B.Ok) (Y:E5 B c f) {k:Cls} (hk:B.T.cls c=some k) (sa:findIn B.KF (.ref c) "__setattr__" =some (some (.builtin "object.__setattr__"))):LH B c (shE c):=by
 intro A s F μ dk h0 e fs a v y Q E X m ha rv q;obtain ⟨m1,m2,ox,h1,⟨t,d,rfl⟩,h2⟩:=m;have cf:AH B.T c=k.fields:=by unfold AH;rw [hk]
 rw [cf] at ha;obtain ⟨nm,q',N,bs,bm,sn,sub,ab,col,dd,k0,k1,k2,k3,k5,ho,on⟩:=Y.obj;have hC:=X _ _ ho;have hcd:clsIn B.KF c=some {name:=nm,bases:=bs,mro:= .ref c::bm,ns:=N,qualname:=q',hasDict:=true,slotNames:=sn,subclasses:=sub,abstract:=ab,collection:=col,hasDel:=false}:=by unfold clsIn;rw [ho]
 have I:∃od,InstAt s.heap e (A6 c t d) c od:=by
  rcases h2 with ⟨z,_⟩ |⟨d',es,n,z,_,h3,_⟩
  ·cases (show d=none from z);exact ⟨none,h1,rfl,rfl,trivial⟩
  ·cases (show d=some d' from z);exact ⟨some _,h1,rfl,rfl,h3⟩
 obtain ⟨od,I⟩:=I;refine set_plain X I sa ?_;refine Qk (s:={s with toks:=s.toks + 1}) X I hcd on ((BO.cls c k hk).own a (List.mem_of_getElem? ha)) λb=> ?_
 refine wpAny_bind (wpAny_pure (wpAny_bind (wpAny_bind (wpAny_loadPart (s:={s with toks:=s.toks + 1}) h1 (wpAny_bind ((looks_clsIn X hcd) _ _ _ _ (λυ υ e=> e) ?_))))));dsimp only;have nd:∀{d} es n,A6 c t d ≠ AM es n:=λes n z=> nomatch (congrArg PySem.Obj.cls z)
 clear I;rcases h2 with ⟨z,rfl⟩ |⟨d',es,n,z,h5,h3,h4⟩
 ·cases (show d=none from z);have h1':=Heap.get?_push_of_some (h:=s.heap) {cls:= .type "dict",data:= .dict #[]} h1;have hnew:=Heap.get?_push_size s.heap (o:=({cls:= .type "dict",data:= .dict #[]}:AN)) rfl;have ne:e ≠ s.heap.objs.size:=Nat.ne_of_lt (Heap.lt_size h1);refine wpAny_bind (wpAny_alloc (wpAny_bind (wpAny_update (s:={s with heap:=s.heap.push {cls:= .type "dict",data:= .dict #[]},toks:=s.toks + 1}) h1' (wpAny_bind (wpAny_pure ?_)))));have g3:((s.heap.push {cls:= .type "dict",data:= .dict #[]}).update e λo=> {o with dict:=some s.heap.objs.size}).get? e=some (A6 c t (some s.heap.objs.size)):=Heap.get?_update_self _ h1' rfl;have oth:∀b o,b ≠ e->s.heap.get? b=some o->((s.heap.push {cls:= .type "dict",data:= .dict #[]}).update e λo=> {o with dict:=some s.heap.objs.size}).get? b=some o:=λb o n q=> (Heap.get?_update_other _ _ (Ne.symm n)).trans (Heap.get?_push_of_some _ q)
  exact wpAny_pure (LA (s:=s) BO hk (fs:= []) (es:= []) (n:=0) (λb o n n' q=> oth b o n (m1 b o n n' q)) (by rw [Heap.size_after_update,Heap.size_push];lia) g3 ⟨t,_,rfl⟩ rfl nd ((Heap.get?_update_other _ _ ne).trans hnew) (.inl m2) rfl ha rv q)
 ·cases (show d=some d' from z);exact wpAny_pure (LA (s:=s) BO hk m1 m2 h1 ⟨t,_,rfl⟩ rfl nd h3 h5 (cf▸h4) ha rv q)
def shP (c:Addr) (ox:AN):Prop:=∃d,ox=instObj c d
theorem ZD {B:Base} {c:Addr} (BO:B.Ok) {k:Cls} (hk:B.T.cls c=some k) (kk:k.kind ≠ 2):LH B c (shP c):=by
 intro A s F μ dk h0 e fs a v y Q E X m ha rv q;obtain ⟨m1,m2,ox,h1,⟨d,rfl⟩,h2⟩:=m;have cf:AH B.T c=k.fields:=by unfold AH;rw [hk]
 rw [cf] at ha;have K:=BO.cls c k hk;obtain ⟨cd,hcd,hdict⟩:=K.cd;rcases h2 with ⟨z,_⟩ |⟨d',es,n,z,h5,h3,h4⟩
 ·cases z
 ·cases z;have I:InstAt s.heap e (instObj c d) c (some (AM es n)):=⟨h1,rfl,rfl,h3⟩;have ht:takerIn B.KF c (B.T.nm a)=some none:=by unfold takerIn;rw [K.own a (List.mem_of_getElem? ha)];rfl
  refine set_plain X I K.sa ?_;refine osa_open (s:={s with toks:=s.toks + 1}) X I (K.over kk) ht λb=> ?_
  refine wpAny_bind (wpAny_pure (wpAny_bind (wpAny_bind (wpAny_loadPart h1 (wpAny_bind ((looks_clsIn X hcd) _ _ _ _ (λυ υ e=> e) ?_))))));rw [hdict];refine wpAny_pure (a:=some d) ?_;exact LA (s:=s) BO hk m1 m2 h1 ⟨d,rfl⟩ rfl (λes n z=> nomatch (congrArg PySem.Obj.cls z)) h3 h5 (cf▸h4) ha rv q
structure bc (B:Base) (c:Nat):Prop where
 cls:E23 (λf k=> E5 B c f) (λf k=> B.T.cls c=some k) (λf k=> findIn B.KF (.ref c) "__setattr__" =some (some (.builtin "object.__setattr__")))
def Du (B:Base) (fv:Value) (n:Nat) (as:List Nat) (rk:Nat):Prop:=∀(A:Around),A.depth + rk < recursionLimit->∀{s:Shared} {c e:Addr} {F:Ad} {μ:Mu} {ws:List W} {vs:List Value} {R:Result->Shared->Prop},Keeps B.hb s.heap->B.hb.get? e=none->bc B c->as <+:AH B.T c->
 Mk B.T F μ (shE c) F9 s.heap s.heap c e []->AD B.T F μ ws vs->ws.length=n->(∀h' tk,Mk B.T F μ (shE c) F9 s.heap h' c e (ws.take as.length)->R (.ok (.ret .none)) {s with heap:=h',toks:=tk})->codeB (model B.prog B.w) A (.call fv ⟨.ref e::vs,[]⟩) R s
section
variable {prog:Program} {w:World} {A:Around} {R:Result->Shared->Prop} {h:Heap} {g:Array GenState} {d:Drawn} {t:Nat} {os:OsState}
variable {nm q:Str} {C N:Addr} {bs bm:List Value} {hdct:Bool} {sn:List Str} {sub:List Value} {ab:Bool} {col:Option Bool} {dd:Option Addr} {k0 k1 k2 k3 k5:Option Value} {newId:String}
theorem R3 (on:Bu bm=true) {e t0:Addr} {de:Option Addr} {v:Value} (hC:h.get? C=some (excClassObj nm q C N bs bm hdct sn sub ab col dd k0 k1 k2 k3 k5 newId)) (he:h.get? e=some (A6 C t0 de))
  (hq:R (.ok (.ret .none)) ⟨(h.push (AS [v] 0)).update e (Obj.mapFields (·.setIfInBounds 0 (.ref h.objs.size))),g,d,t,os⟩):
  codeAny (model prog w) A (.call (.builtin "Exception.__init__") ⟨[.ref e,v],[]⟩) R ⟨h,g,d,t,os⟩:=by
 have F:=PySem.F.excBase_Exception;have hshort:=F.noStar;have hcB:(Value.ref C::bm).contains (.type "Exception")=true:=by rw [List.contains_cons,B9 (b:=true) (by decide +kernel) on];rfl
 refine codeAny_call_builtin F.init.plain F.initEntry ?_;simp only [checkBuiltinCall,F.initKind,F.initSplit,F.initRow]
 repeat (first |with_reducible refine wpAny_loadPart_at he ?_ |with_reducible refine wpAny_loadPart_at hC ?_ |(with_reducible refine wpAny_isSubtype_exc hC ?_;rewrite [hcB]) |wp_step)
 exact hq
end
theorem Ki {α β:Type} [BEq α] [LawfulBEq α] {l:List (α × β)} (nd:(l.map (·.1)).Nodup) {y:α} {v:β} (m:(y,v) ∈ l):l.lookup y=some v:=by
 induction l with
 |nil=> exact nomatch m
 |cons p r ih=>
  obtain ⟨n1,n2⟩:=List.nodup_cons.mp nd;clear nd;rcases mCo m with rfl |m
  ·exact List.lookup_cons_self
  ·rw [List.lookup_cons,beq_eq_false_iff_ne.mpr λ(z:y=p.1)=> n1 (List.mem_map.mpr ⟨_,m,z⟩)];exact ih n2 m
section
variable {B:Base}
theorem Q4 (BO:B.Ok):Du B (.builtin "Exception.__init__") 1 [] 0:=by
 intro A _ s c e F μ ws vs R kb nf Y _ m r hn q;have X:=BO.K.keeps kb;obtain ⟨f,k,Y,_⟩:=Y;obtain ⟨nm,q',N,bs,bm,sn,sub,ab,col,dd,k0,k1,k2,k3,k5,ho,on⟩:=Y.obj;obtain ⟨ox,h1,⟨t,de,rfl⟩,h2⟩:=m.at_;induction vs using lC with
 |nil=> rw [<- AD.length r] at hn;exact nomatch hn
 |cons v vs=>
  induction vs using lC with
  |cons u us=> rw [<- AD.length r] at hn;exact nomatch hn
  |nil=>
   obtain ⟨hp,g,d,tk,os⟩:=s;dsimp only at h1 h2;have this:∀d' es n,hp.get? d' =some (AM es n)->((hp.push (AS [v] 0)).update e (Obj.mapFields (·.setIfInBounds 0 (.ref hp.objs.size)))).get? d' =some (AM es n):=λd' es n z3=> by
    refine (Heap.get?_update_other _ _ λz=> ?_).trans (Heap.get?_push_of_some _ z3);rw [z,z3] at h1;clear r;cases h1
   refine Bw.ofCode (R3 on (X _ _ ho) h1 (q _ tk ⟨λb o n υ e1=> ?_, ?_,A6 c hp.objs.size de, ?_,⟨_,_,rfl⟩,h2.imp (λz=> ⟨z.1,rfl⟩) λz=> by obtain ⟨d',es,n,z1,z2,z3,z4⟩:=z;exact ⟨d',es,n,z1,z2,this d' es n z3,z4⟩⟩))
   ·exact (Heap.get?_update_other _ _ (Ne.symm n)).trans (Heap.get?_push_of_some _ e1)
   ·rw [Heap.size_after_update,Heap.size_push];exact Nat.le_succ _
   ·exact Heap.get?_update_self _ (Heap.get?_push_of_some _ h1) rfl
structure Fi (B:Base) (env:Env) (L:Addr) (mm:Str->Option Value) (ks:NN):Prop where
 kind:env.scope.kind= .function
 names:env.scope.names=D6 B.T ks
 lt:∀q ∈ ks,q.1 < B.T.cnt
 glob:env.globals=mainGlobals
 bi:env.builtins=builtinsNs
 loc:env.locals=L
theorem Fi.kindOf {env:Env} {L:Addr} {mm:Str->Option Value} {ks:NN} (Y:Fi B env L mm ks) (N:CV B.T) {n k:Nat} (e:lkp ks n=some k):env.kindOf (B.T.nm n)=some (Bp k):=by
 unfold Env.kindOf;rw [Y.names];exact BM N Y.lt e
section
variable {env:Env} {L:Addr} {mm:Str->Option Value} {ks:NN} {A:Around} {s:Shared} {E:VP}
theorem Fi.name (BO:B.Ok) (Y:Fi B env L mm ks) {n:Nat} {v:Value} {p:Pos} {Q:VP} (k:lkp ks n=some 0) (hn:s.heap.Ns L mm) (hv:mm (B.T.nm n)=some v) (q:Q v s):wpAny (model B.prog B.w) A (eval (.Name (B.T.nm n) p) env) Q E s:=
 wpAny_Name (wpAny_loadName_local Y.kind (Y.kindOf BO.names k) (Y.loc▸hn) hv q) (BO.names.plain n (Y.lt _ (AY k))).1
end
end
inductive f6 (n0:Nat) (ns:List Nat) (t:S) (R:List Nat->Prop) (j:Nat) (as:List Nat):Prop |mk (al:NN) (a q1 q2 q3 q4 n:Nat) (as':List Nat) (h1:t= .asg (.attr (.loc 0 n0 q1) al a q2) (.loc (j + 1) n q3) q4) (h2:ns[j + 1]? =some n) (h3:as=a::as') (h4:R as')
def FE (n0:Nat) (ns:List Nat) (b:List S):Nat->List Nat->Prop:=match b with
 | []=> λυ as=> as= []
 |t::r=> λj as=> f6 n0 ns t (λas=> FE n0 ns r (j + 1) as) j as
inductive dC (B:Base) (fn:Fn) (pn j:Nat) (as:List Nat):Prop |mk (g c f m p1 p2 p3 p4 p5 p6 n0 n1:Nat) (rest:List S) (h1:fn.body= .expr (.mown (.glob g pn p1) c f m [.loc 0 n0 p3,.loc 1 n1 p4] p2 p5) p6::rest) (h2:fn.ns[0]? =some n0) (h3:fn.ns[1]? =some n1) (h4:B.T.nm m= "__init__") (h5:(AG p2).endLine=(AG p5).line) (h6:FE n0 fn.ns rest j as)
structure Zf (B:Base) (fn:Fn) (n pn j:Nat) (as:List Nat):Prop where
 np:fn.np=n + 1
 dfl:fn.dfl= []
 loc:∀q ∈ fn.ks,q.2 ≠ 1
 glob:lkp fn.ks pn=some 4
 body:dC B fn pn j as
structure Fc (B:Base) (pn:Nat) (pv fv:Value):Prop where
 load:nsIn B.KF mainGlobals (B.T.nm pn)=some (some pv)\/(nsIn B.KF mainGlobals (B.T.nm pn)=some none/\bootBuiltins (B.T.nm pn)=some pv/\B.T.nm pn ≠ "__name__")
 meth:∀{A:Around} {s:Shared} {E:VP} {pl:Sem Bool} {Q:Value × List Value->Shared->Prop},B.KF.In s.heap->Q (fv,[]) {s with toks:=s.toks + 1}->wpAny (model B.prog B.w) A (getMethod pv "__init__" pl) Q E s
 keep:∀{h:Heap},B.KF.In h->∃k,Looks (model B.prog B.w) h (keeperOf fv) k
theorem Uv {B:Base} {pn:Nat} (hn:nsIn B.KF mainGlobals (B.T.nm pn)=some none) (hb:B.T.nm pn= "Exception") (he:findCls B.KF (.type "Exception") (.type "type") "__init__" =some (.val (.builtin "Exception.__init__"))):Fc B pn (.type "Exception") (.builtin "Exception.__init__"):=
 ⟨.inr ⟨hn,by rw [hb];decide +kernel,by rw [hb];decide⟩,λ{A s E pl Q} X q=> by
  have hstub:opaqueClassAbove (.type "Exception")=pure none:=by kernel_rfl
  have L0:Looks (model B.prog B.w) s.heap (typeOf (.type "Exception")) (.type "type"):=Looks.of_pure (by kernel_rfl);have hg:findIn B.KF (.type "type") "__getattribute__" =some (some (.builtin "type.__getattribute__")):=type_tga;unfold getMethod specialOf;refine wpAny_bind (wpAny_bind (L0.here ((looks_findIn X hg).here ?_)));dsimp only;rw [if_pos canon_tga];refine wpAny_bind (wpAny_mono (Q:=λv=> Q (v,[])) (E:=E) ?_ (λυ υ z=> wpAny_pure z) λυ υ z=> z);refine cls_open X (Looks.of_pure hstub) L0 hg (looks_hook X (r:=none) (by rfl)) (by show subIn B.KF _ _=_;rfl) he (wpAny_pure ?_);show wpAny _ _ (handedOut _) _ _ _;rw [handedOut_of rfl];exact wpAny_pure q,λυ=> ⟨.machine,Looks.of_pure rfl⟩⟩
theorem V7 {B:Base} {pn c f:Nat} {o:AN} {fd:FuncData} (hn:nsIn B.KF mainGlobals (B.T.nm pn)=some (some (.ref c))) (hg:specialIn B.KF (.ref c) "__getattribute__" =some (some (.builtin "type.__getattribute__"))) (hr:readsIn B.KF c (.type "type")=true)
  (he:findCls B.KF (.ref c) (.type "type") "__init__" =some (.val (.ref f))) (ho:B.KF.lookup f=some o) (hd:o.data= .func fd):Fc B pn (.ref c) (.ref f):=
 ⟨.inl hn,λX q=> method_cls X hg (cls_value X hr he rfl q),λX=> by
  obtain ⟨c,d,dt,sl⟩:=o;cases (show dt= .func fd from hd);exact ⟨.frame,(Looks.ld (part:=none) (X _ _ ho)).andThen .now⟩⟩
section
variable {B:Base}
structure FrM (B:Base) (fn:Fn) (env:Env) (L:Addr) (mm:Str->Option Value) (e:Addr) (vs:List Value):Prop where
 fi:Fi B env L mm fn.ks
 locs:∀n ∈ fn.ns,lkp fn.ks n=some 0
 at_:∀(j n:Nat) (v:Value),fn.ns[j]? =some n->(Value.ref e::vs)[j]? =some v->mm (B.T.nm n)=some v
theorem FrM.name {fn:Fn} {env:Env} {L:Addr} {mm:Str->Option Value} {e:Addr} {vs:List Value} (BO:B.Ok) (Y:FrM B fn env L mm e vs) {j n:Nat} {v:Value} {p:Pos} {A:Around} {s:Shared} {E:VP} {Q:VP} (hn:fn.ns[j]? =some n) (hv:(Value.ref e::vs)[j]? =some v) (hL:s.heap.Ns L mm) (q:Q v s):
  wpAny (model B.prog B.w) A (eval (.Name (B.T.nm n) p) env) Q E s:=Y.fi.name BO (Y.locs n (List.mem_of_getElem? hn)) hL (Y.at_ j n v hn hv) q
theorem NK {fn:Fn} {env:Env} {L:Addr} {mm:Str->Option Value} {e c:Addr} {vs:List Value} {ws:List W} {F:Ad} {μ:Mu} {h0:Heap} {n0:Nat} (BO:B.Ok) (Y:FrM B fn env L mm e vs) {sh:AN->Prop} {dk:Addr->Prop} (EC:LH B c sh) (kb:∀b o,B.hb.get? b=some o->b ≠ e/\¬ dk b) (kb0:Keeps B.hb h0) (ndk:¬ dk L) (hn0:fn.ns[0]? =some n0) (r:AD B.T F μ ws vs) (hL:h0.Ns L mm) (ne:L ≠ e)
  {A:Around} {E:VP} {all:List Nat} (pre:all <+:AH B.T c):∀{b:List S} {j:Nat} {as:List Nat} {s:Shared} {Q:Flow->Shared->Prop},FE n0 fn.ns b j as->all.drop j=as->j + as.length <= ws.length->Mk B.T F μ sh dk h0 s.heap c e (ws.take j)->(∀h' tk,Mk B.T F μ sh dk h0 h' c e (ws.take (j + as.length))->Q .next {s with heap:=h',toks:=tk})->
  wpB (model B.prog B.w) A (execs (B6 B.T b) env) Q E s:=by
 intro b;induction b with
 |nil=> intro j as s Q I hd hz m q;cases (show as= [] from I);exact Bw.of (wpAny_execs_nil (q s.heap s.toks m))
 |cons t b ih=>
  intro j as s Q I hd hz m q;obtain ⟨al,a,q1,q2,q3,q4,n,as',rfl,hn,rfl,I⟩:=I;obtain ⟨w,hw⟩:∃w,nth ws j=some w:=⟨_,by rewrite [AL];exact List.getElem?_eq_getElem (by simp at hz;lia)⟩;obtain ⟨v,hv,rv⟩:=AD.nth r hw;have nsL:s.heap.Ns L mm:=G5 (λo e1=> m.keep L o ne ndk e1) hL;have X:B.KF.In s.heap:=BO.K.keeps λb o e1=> m.keep b o (kb b o e1).1 (kb b o e1).2 (kb0 b o e1)
  refine Bw.Dy ?_;show wpB _ _ (exec (.Assign [.Attribute (.Name (B.T.nm n0) (AG q1)) (B.T.nm a) (AG q2)] (.Name (B.T.nm n) (AG q3)) (AG q4)) env) _ _ _;rw [arm_exec_Assign];refine Bw.bind (Bw.standAt ?_);have NS:Ee (den B.T (.loc (j + 1) n q3)):=G9 rfl;show wpB _ _ (swapsWith (den B.T (.loc (j + 1) n q3)) (some (.Attribute (.Name (B.T.nm n0) (AG q1)) (B.T.nm a) (AG q2))) (AG q4).line env >>=_) _ _ _;rw [NS];refine Bw.bind (Bw.pure (Bw.bind (Bw.of (Y.name BO hn hv nsL ?_))));have TG:=target B.T (.attr (.loc 0 n0 q1) al a q2);show wpB _ _ (swappedStores [GI B.T (.attr (.loc 0 n0 q1) al a q2)] _ env >>=_) _ _ _;rw [TG.none];refine Bw.bind (Bw.pure ?_);show wpB _ _ (assign (GI B.T (.attr (.loc 0 n0 q1) al a q2)) env v >>=_) _ _ _;refine Bw.bind ?_;show wpB _ _ (assign (.Attribute (.Name (B.T.nm n0) (AG q1)) (B.T.nm a) (AG q2)) env v) _ _ _;rw [arm_assign_Attribute];refine Bw.bind (Bw.holding (Bw.of (Y.name BO hn0 rfl nsL (Bw.bind (Bw.standAt (Bw.bind (Bw.holding (Bw.of ?_))))))));have hl:(ws.take j).length=j:=by rw [List.length_take];simp at hz;lia
  have ha:(AH B.T c)[(ws.take j).length]? =some a:=by
   rw [hl];obtain ⟨tl,htl⟩:=pre;have e1:all[j]? =some a:=by
    have:(all.drop j)[0]? =some a:=by rw [hd];rfl
    rwa [List.getElem?_drop] at this
   rw [<- htl,List.getElem?_append_left (List.getElem?_eq_some_iff.mp e1).1];exact e1
  refine EC X m ha rv λh' tk m'=> Bw.of (wpAny_release (Bw.pure ?_))
  have tk1:ws.take j ++ [w]=ws.take (j + 1):=by
   rw [AL] at hw;rw [List.take_succ,hw];rfl
  rw [tk1] at m';refine ih (s:={s with heap:=h',toks:=tk}) I (by rw [<- List.drop_drop,hd];rfl) (by simp at hz;lia) m' λh'' tk' m''=> q h'' tk' ?_
  rwa [show j + (a::as').length=j + 1 + as'.length by simp;lia]
end
section
variable {B:Base}
theorem TL {pn:Nat} {pv fv:Value} (BO:B.Ok) (P:Fc B pn pv fv) {env:Env} {L:Addr} {mm:Str->Option Value} {ks:NN} (Y:Fi B env L mm ks) (hk:lkp ks pn=some 4) {A:Around} {s:Shared} {p:Pos} {E:VP} {Q:VP} (kb:Keeps B.hb s.heap) (q:Q pv s):
  wpAny (model B.prog B.w) A (eval (.Name (B.T.nm pn) p) env) Q E s:=by
 have X:=BO.K.keeps kb;refine Name_function_global Y.kind (Y.kindOf BO.names hk) ?_ (BO.names.plain pn (Y.lt _ (AY hk))).1;unfold loadGlobal;rw [Y.glob];rcases P.load with g |⟨g,hb,hn⟩
 ·exact wpAny_bind ((looks_nsIn X g).here (wpAny_pure q))
 ·rw [Y.bi];obtain ⟨mb,⟨o,es,ep,h1,h2⟩,h3⟩:=BO.boot;have nb:s.heap.Ns builtinsNs mb:=⟨o,es,ep,kb _ _ h1,h2⟩;refine wpAny_bind ((looks_nsIn X g).here (wpAny_bind (wpAny_nsGet nb ?_)));rw [h3 _ hn,hb];exact wpAny_pure q
theorem J6 (BO:B.Ok) {f:Nat} {fn:Fn} {n:Nat} (H:FnAt B f fn) (np:fn.np=n + 1) (dfl:fn.dfl= []) (nc:∀q ∈ fn.ks,q.2 ≠ 1) {A:Around} {s:Shared} {e:Addr} {vs:List Value} {R:Result->Shared->Prop} (hroom:A.depth < recursionLimit) (kb:Keeps B.hb s.heap) (hv:vs.length=n)
  (h:∀env h1 mm tk,FrM B fn env s.heap.objs.size mm e vs->h1.Ns s.heap.objs.size mm->Keeps s.heap h1->∀E,wpB (model B.prog B.w) (A.deeper env) (execs (B6 B.T fn.body) env) (λf s'=> R (.ok (.ret (match f with | .ret v=> v |_=> .none))) s') E {s with heap:=h1,toks:=tk}):
  codeB (model B.prog B.w) A (.call (.ref f) ⟨.ref e::vs,[]⟩) R s:=by
 obtain ⟨o,fd,ho,hd,Fi'⟩:=H;have X:=BO.K.keeps kb;obtain ⟨dvs,rd,hbind⟩:=Fi'.dfl;rw [dfl] at rd;cases (show dvs= [] from rd);have hnp:fn.np=(Value.ref e::vs).length:=by rw [np,List.length_cons,hv]
 have pk:∀S,peek B.KF S (bindArgs fd ⟨.ref e::vs,[]⟩)=some (((fn.ns.take fn.np).map B.T.nm).zip (.ref e::vs)):=λS=> by
  rw [hbind S _ (by rw [hnp];exact Nat.le_refl _) (by rw [hnp];exact Nat.le_add_right _ _)];simp
 have fnlt:∀{z},z ∈ fn.ns->z < B.T.cnt:=λhz=> by rcases Fi'.locs _ hz with h |h <;> exact Fi'.ksl _ (AY h)
 have loc0:∀z ∈ fn.ns,lkp fn.ks z=some 0:=λz hz=> (Fi'.locs z hz).resolve_right λh=> nc _ (AY h) rfl
 have nd:((((fn.ns.take fn.np).map B.T.nm).zip (Value.ref e::vs)).map (·.1)).Nodup:=by
  refine List.Nodup.sublist (NA _ _).sublist (List.pairwise_map.mpr (List.Pairwise.imp_of_mem (λ{a b} ha hb hab e=> hab ?_) (Fi'.nodup.sublist (List.take_sublist fn.np _))));exact BO.names.inj a b (fnlt (List.mem_of_mem_take ha)) (fnlt (List.mem_of_mem_take hb)) e
 refine Bw.NY hroom (X _ _ ho) hd (BO.lim.keeps kb) (codeRec_of X Fi'.code) Fi'.body (λM A E Q z=> (Looks.of_peek (M:=M) X (pk _)).here z) (λy hy hc=> ?_) (λy hy=> ?_) (λh1 hns kp=> ?_) Fi'.co Fi'.gen Fi'.kind
 ·rw [Fi'.names] at hy;clear rd;obtain ⟨z,hz,rfl⟩:=List.mem_map.mp hy;refine nc z hz ?_;have hc:Bp z.2= .cell:=hc
  match h:z.2 with
  |0=> rw [h] at hc;clear hy;cases hc
  |1=> rfl
  |2=> rw [h] at hc;clear hy;cases hc
  |3=> rw [h] at hc;clear hy;cases hc
  |n + 4=> rw [h] at hc;clear hy;cases hc
 ·obtain ⟨y1,y2⟩:=y;clear rd;obtain ⟨z,hz,rfl⟩:=List.mem_map.mp (List.of_mem_zip hy).1;rw [Fi'.names];exact BM BO.names Fi'.ksl (loc0 z (List.mem_of_mem_take hz))
 ·refine h _ h1 _ _ ⟨⟨Fi'.kind,Fi'.names,Fi'.ksl,Fi'.glob,Fi'.bi,rfl⟩,loc0,λj n v h1 h2=> Ki ?_ (List.mem_reverse.mpr ?_)⟩ hns kp _
  ·rw [List.map_reverse];unfold List.Nodup;rw [List.pairwise_reverse];exact nd.imp λz=> Ne.symm z
  ·rw [List.mem_iff_getElem?];refine ⟨j, ?_⟩;have hj:j < fn.np:=by rw [hnp];exact (List.getElem?_eq_some_iff.mp h2).1
   rw [List.getElem?_zip_eq_some,List.getElem?_map,List.getElem?_take,if_pos hj,h1];exact ⟨rfl,h2⟩
theorem Fb (BO:B.Ok) {f:Nat} {fn:Fn} {n pn rk:Nat} {pv fv:Value} {as0 as1:List Nat} (H:FnAt B f fn) (I:Zf B fn n pn as0.length as1) (P:Fc B pn pv fv) (P0:Du B fv 1 as0 rk) (hn:1 <= n) (ha:as0.length <= 1) (hl:(as0 ++ as1).length=n):Du B (.ref f) n (as0 ++ as1) (rk + 1):=by
 intro A hroom s c e F μ ws vs R kb nf EC pre m r hws q;obtain ⟨g,c',f',mth,p1,p2,p3,p4,p5,p6,n0,n1,rest,hb,hn0,hn1,hm,hp,hI⟩:=I.body;refine J6 BO H I.np I.dfl I.loc (by lia) kb (by rw [AD.length r,hws]) λenv h1 mm tk FM hns kp E=> ?_
 have sz:s.heap.objs.size <= h1.objs.size:=by
  obtain ⟨o1,_,_,e1,_⟩:=hns;exact Nat.le_of_lt (Heap.lt_size e1)
 have hne:s.heap.objs.size ≠ e:=by
  obtain ⟨ox,he0,_⟩:=m.at_;exact Nat.ne_of_gt (Heap.lt_size he0)
 have m1:Mk B.T F μ (shE c) F9 s.heap h1 c e []:=m.push kp sz;have kb1:Keeps B.hb h1:=λb o e1=> kp b o (kb b o e1)
 have X1:=BO.K.keeps kb1;have hx:∃w0 ws',ws=w0::ws':=by induction ws using lC with |nil=> rw [<- hws] at hn;exact absurd hn (Nat.not_succ_le_zero _) |cons a b=> exact ⟨a,b,rfl⟩
 obtain ⟨w0,ws',rfl⟩:=hx;obtain ⟨v0,vs',rfl,r0,r'⟩:=r;rw [hb];refine Bw.Dy ?_;show wpB _ _ (exec (.Expr (den B.T (.mown (.glob g pn p1) c' f' mth [.loc 0 n0 p3,.loc 1 n1 p4] p2 p5)) (AG p6)) _) _ _ _;have NS:Ee (den B.T (.mown (.glob g pn p1) c' f' mth [.loc 0 n0 p3,.loc 1 n1 p4] p2 p5)):=G9 rfl;rw [arm_exec_Expr];have hi:interactive env=false:=by unfold interactive;rw [FM.fi.kind];rfl
 rw [hi,NS];refine Bw.bind (Bw.standAt (Bw.bind (Bw.pure (Bw.bind ?_))));show wpB _ _ (eval (.Call (.Attribute (den B.T (.glob g pn p1)) (B.T.nm mth) (AG p2)) (AV B.T [.loc 0 n0 p3,.loc 1 n1 p4]) [] (AG p5)) _) _ _ _;rw [arm_eval_Call,Hi rfl,hm];refine Bw.bind (Bw.of (TL BO P FM.fi I.glob kb1 (Bw.bind (Bw.standAt ?_))));unfold methodCall calleeOf;rw [Lw (es:= [.loc 0 n0 p3,.loc 1 n1 p4]) (show 2 < 30 by decide),if_pos rfl];refine Bw.bind (Bw.holding (Bw.of (P.meth X1 (Bw.bind (Bw.of (M7 hp (BG (BV _) ?_)))))));show wpB _ _ (spliced (backTo _ (starEach [den B.T (.loc 0 n0 p3),den B.T (.loc 1 n1 p4)] _))) _ _ _;rw [(simple B.T _).star];refine Bw.As (Bw.of (FM.name BO hn0 rfl hns ?_));show wpB _ _ (spliced (backTo _ (starEach [den B.T (.loc 1 n1 p4)] _))) _ _ _;rw [(simple B.T _).star];refine Bw.As (Bw.of (FM.name BO hn1 rfl hns (Bw.pure ⟨P.keep X1, ?_⟩)));refine Bw.call ?_;have m2:Mk B.T F μ (shE c) F9 h1 h1 c e []:=by
  clear hws q;obtain ⟨ox,a1,⟨t,d,rfl⟩,a2⟩:=m.at_;rcases a2 with ⟨z,_⟩ |⟨d',es,n',_,a3,a4,_⟩
  ·cases (show d=none from z);exact .start (kp _ _ a1)
  ·exact absurd (Heap.lt_size a4) (Nat.not_lt.mpr (a3.resolve_right id))
 refine P0 _ ?_ kb1 nf EC ((List.prefix_append _ _).trans pre) m2 (AD.one r0) rfl λh2 tk m3=> ?_
 ·show A.depth + 1 + rk < _;lia
 have m3':Mk B.T F μ (shE c) F9 h1 h2 c e (List.take as0.length (w0::ws')):=by
  have:List.take as0.length (w0::ws')=List.take as0.length [w0]:=by
   rcases as0 with _ |⟨a,_ |_⟩
   ·rfl
   ·rfl
   ·simp at ha
  rw [this];exact m3
 have kbe:∀b o,B.hb.get? b=some o->b ≠ e/\¬ F9 b:=λb o e1=> ⟨λz=> (by rw [z,nf] at e1;clear z;cases e1),id⟩
 refine Bw.of ?_;unfold dropValue;refine wpAny_pure ?_;obtain ⟨f0,k,Y1,hk,sa⟩:=EC.cls;refine NK (s:={s with heap:=h2,toks:=tk}) BO FM (Un BO Y1 hk sa) kbe kb1 id hn0 (ws:=w0::ws') ⟨v0,vs',rfl,r0,r'⟩ hns hne pre hI (by simp) (by rw [<- List.length_append,hl,hws];exact Nat.le_refl _) m3' λh3 tk3 m4=> ?_
 have m5:=m1.trans m4;rw [<- List.length_append] at m5;exact q h3 tk3 m5
end
section
variable {M:Model} {A:Around} {s:Shared} {E:VP} {env:Env}
variable {nm q:Str} {C N:Addr} {bs bm:List Value} {hdct:Bool} {sn:List Str} {sub:List Value} {ab:Bool} {col:Option Bool} {dd:Option Addr} {k0 k1 k2 k3 k5:Option Value} {newId:String}
theorem IY {x:Sem Value} {Q:Flow->Shared->Prop} (on:Bu bm=true)
  (h:wpB M A x (λv s1=>∃e t d,v= .ref e/\s1.heap.get? C=some (excClassObj nm q C N bs bm hdct sn sub ab col dd k0 k1 k2 k3 k5 newId)/\s1.heap.get? e=some (A6 C t d)/\wpAny M A (raiseNew (.ref e):Sem Flow) Q E s1) E s):
  wpB M A (raiseStmt env (some x) none) Q E s:=by
 have hcB:(Value.ref C::bm).contains (.type "BaseException")=true:=by rw [List.contains_cons,B9 (b:=true) (by decide +kernel) on];rfl
 unfold raiseStmt;refine Bw.bind (Bw.mono h (λv s₁ h₁=> Bw.of ?_) λυ υ x=> x);obtain ⟨e,t,d,rfl,hC,he,hE⟩:=h₁;obtain ⟨hp,g,d,tk,os⟩:=s₁
 repeat (first |with_reducible refine wpAny_loadPart_at he ?_ |with_reducible refine wpAny_loadPart_at hC ?_ |(with_reducible refine wpAny_isSubtype_exc hC ?_;rewrite [hcB]) |wp_step)
 exact hE
theorem KI:entryFor table "proto.unchain" =some Builtin.«proto.unchain»:=entryFor_of_tree (by kernel_rfl)
theorem QU {prog:Program} {w:World} {α:Type} {e a:Addr} {t:Addr} {d:Option Addr} {oa:AN} {vs:Array Value} {Q:α->Shared->Prop} (hh:A.handled=some (.ref a)) (ne:a ≠ e) (he:s.heap.get? e=some (A6 C t d)) (ha:s.heap.get? a=some oa) (hd:oa.data= .fields vs) (h2:vs[2]? =some .none)
  (h:E (.ref e) {s with heap:=s.heap.update e (Obj.mapFields (·.setIfInBounds 2 (.ref a)))}):wpAny (model prog w) A (raiseNew (.ref e):Sem α) Q E s:=by
 unfold raiseNew;refine wpAny_bind (wpAny_handled ?_);rw [hh];dsimp only;rw [if_pos (show (Value.ref a !=Value.ref e)=true from by simp [ne])];refine wpAny_bind (wpAny_holding (wpAny_runValue (codeAny_builtin KI ?_)));unfold Builtin.«proto.unchain»;refine wpAny_bind (wpAny_field ha hd h2 ?_);rw [if_pos (by rfl)];refine wpAny_pure (wpAny_bind ?_);exact wpAny_setField (s:=s) (i:=2) he rfl (show 2 < 6 by decide) (wpAny_throw h)
end
inductive Y5 (B:Base) (c rk:Nat):Prop |mk (f:Nat) (k:Cls) (h1:E5 B c f) (h2:B.T.cls c=some k) (h3:findIn B.KF (.ref c) "__setattr__" =some (some (.builtin "object.__setattr__"))) (h4:Du B (.ref f) k.fields.length k.fields rk) (h5:1 <= k.fields.length)
structure Ed (B:Base) (c rk:Nat):Prop where
 at_:Y5 B c rk
theorem R.K4 {α β:Type} (r:R α) (f:α->List O->R β) (l:LL) (g:β->List O->RS):(r.bind f).toS l g=r.toS l λa σ=> (f a σ).toS l g:=by cases r <;> rfl
section
variable {C:Cx}
theorem MV (B:C.toBase.Ok) (O:C.Ok) {A:Around} {c rk:Nat} (Y:Ed C.toBase c rk) (hroom:A.depth + rk + 1 < recursionLimit) {x:Wx} {l:LL} {s:Shared} {vs:List Value} {ws:List W} {R:Result->Shared->Prop} (i:In C x l s.heap) (r:C.BF x s.heap vs ws) (hn:ws.length=(AH C.T c).length)
  (q:∀h' tk x' e t d,x'.σ=x.σ->Go C x x' s {s with heap:=h',toks:=tk}->In C x' l h'->Keeps s.heap h'->s.heap.objs.size < e->(h'.get? e=some (A6 c t (some d))/\x'.bad e/\¬ x'.owned e)->D5 C.T x' h' (.ref e) c ws none->R (.ok (.ret (.ref e))) {s with heap:=h',toks:=tk}):codeB C.M A (.call (.ref c) ⟨vs,[]⟩) R s:=by
 obtain ⟨f,k,Y1,hk,sa,I0,k1⟩:=Y.at_;have cf:AH C.T c=k.fields:=by unfold AH;rw [hk]
 have few:=(B.cls c k hk).few;have lvs:vs.length=ws.length:=AD.length r;have X:=i.KX B;refine SI Y1 X (by rw [lvs,hn,cf,sizeLine_eq];lia) ?_;have kp1:Keeps s.heap ((s.heap.push (AS vs 0)).push (A6 c s.heap.objs.size none)):=λb o e=> Heap.get?_push_of_some _ (Heap.get?_push_of_some _ e)
 have he1:((s.heap.push (AS vs 0)).push (A6 c s.heap.objs.size none)).get? (s.heap.objs.size + 1)=some (A6 c s.heap.objs.size none):=by
  have:=Heap.get?_push_size (s.heap.push (AS vs 0)) (o:=A6 c s.heap.objs.size none) rfl;rwa [Heap.size_push] at this
 have m0:Mk C.T (Fz s.heap x.bad) x.mu (shE c) F9 ((s.heap.push (AS vs 0)).push (A6 c s.heap.objs.size none)) ((s.heap.push (AS vs 0)).push (A6 c s.heap.objs.size none)) c (s.heap.objs.size + 1) []:= .start he1;have old:∀{b o},s.heap.get? b=some o->b ≠ s.heap.objs.size + 1:=λe=> Nat.ne_of_lt (Nat.lt_succ_of_lt (Heap.lt_size e))
 have nf:C.hb.get? (s.heap.objs.size + 1)=none:=by
  generalize z:C.hb.get? (s.heap.objs.size + 1)=x9;induction x9 using oC with
  |none=> rfl
  |some o=> exact absurd rfl (old (i.wd.top _ _ z))
 refine I0 _ ?_ (λb o e=> kp1 b o (i.wd.top b o e)) nf ⟨f,k,Y1,hk,sa⟩ (by rw [cf];exact List.prefix_refl _) m0 r (by rw [hn,cf]) λh' tk m=> ?_
 ·show A.depth + 1 + rk < _;lia
 clear lvs r;obtain ⟨m1,m2,ox,e1,⟨t,d,rfl⟩,e2⟩:=m;rw [<- cf,<- hn,List.take_length] at e2;rcases e2 with ⟨_,rfl⟩ |⟨d',es,n,z,e3,e4,e5⟩
 ·rw [cf] at hn;rw [<- hn] at k1;exact absurd k1 (Nat.not_succ_le_zero _)
 cases (show d=some d' from z);have e3:=e3.resolve_right id;have kp:Keeps s.heap h':=λb o e=> m1 b o (old e) id (kp1 b o e)
 have nw:∀a ∈ [s.heap.objs.size + 1],lv s.heap <= a/\a < lv h':=λa m=> by
  rw [mSg m];exact ⟨Nat.le_succ_of_le (Al _),Ak e1⟩
 obtain ⟨g,i',ow⟩:=i.fresh O (M:= [s.heap.objs.size + 1]) kp nw;have fz:∀a o,Fz s.heap x.bad a o->Fz h' (x.An [s.heap.objs.size + 1]).bad a o:=Go.fz (s':={s with heap:=h'}) i g;have hsz:((s.heap.push (AS vs 0)).push (A6 c s.heap.objs.size none)).objs.size=s.heap.objs.size + 1 + 1:=by rw [Heap.size_push,Heap.size_push]
 have i2:In C (x.An [s.heap.objs.size + 1]) l ({s with heap:=h',toks:=tk}:Shared).heap:=i';refine ⟨rfl,q h' tk (x.An [s.heap.objs.size + 1]) (s.heap.objs.size + 1) t d' rfl (g.trans .toks) i2 kp (Nat.lt_succ_self _) ⟨e1,ow.bad _ (.head _),ow.no _ (.head _)⟩ ⟨_,_,#[.ref t,.none,.none,.none,.bool false,.none],d',es,n,rfl,e1,rfl,rfl,⟨show 5 < 6 by decide,λυ=> rfl⟩,rfl,⟨e4,λz=> ?_⟩,Af.mono fz (Mu.le_refl _) e5,ow.bad _ (.head _),ow.no _ (.head _),rfl⟩⟩;rcases z with z |z
 ·rw [hsz] at e3;exact Nat.lt_irrefl _ (Nat.lt_of_lt_of_le (Nat.lt_of_lt_of_le (i.wd.fit _ z) (Al s.heap)) (Nat.le_trans (Nat.le_add_right _ 2) e3))
 ·rw [mSg z,hsz] at e3;exact Nat.not_succ_le_self _ e3
theorem Ob (B:C.toBase.Ok) (O:C.Ok) {c rk n:Nat} (Y:Ed C.toBase c rk) (hroom:C.A.depth + rk + 1 < recursionLimit) (hh:C.A.handled=none) (g:nsIn C.KF mainGlobals (C.T.nm n)=some (some (.ref c))) (hk:C.env.kindOf (C.T.nm n)=some .globalImplicit) (hd:(C.T.nm n==("__debug__" :Str))=false)
  {es:List E} {fs:List SE} {fp p pos:Pos} (D:AOk C es fs):SOk C (.Raise (some (.Call (.Name (C.T.nm n) fp) (AV C.T es) [] p)) none pos) (EW (AZ (BE c (AH C.T c).length) fs)):=by
 intro x l s Q E i o;obtain ⟨f,k,Y1,hk',sa,_⟩:=Y.at_;obtain ⟨nm,q',N,bs,bm,sn,sub,ab,col,dd,k0,k1,k2,k3,k5,ho,on⟩:=Y1.obj;rw [arm_exec_Raise];refine Bw.bind (Bw.standAt ?_);show wpB _ _ (raiseStmt C.env (some (eval (.Call (.Name (C.T.nm n) fp) (AV C.T es) [] p) C.env >>=λv=> standAt pos >>=λυ=> pure v)) none) _ _ _;refine IY (C:=c) (nm:=nm) (q:=q') (N:=N) (bs:=bs) (bm:=bm) (hdct:=true) (sn:=sn) (sub:=sub) (ab:=ab) (col:=col) (dd:=dd) (k0:=k0) (k1:=k1) (k2:=k2) (k3:=k3) (k5:=k5) (newId:= "Exception.__new__") on (Bw.bind ?_);rw [arm_eval_Call_Name'];have o:AK C x s ((args fs l x.σ).toS l λws σ=> (BE c (AH C.T c).length ws σ).toS l λw σ=> Option.rec (motive:=λυ=> RS) (.stuck 102) (λp=> .exc p.1 p.2 l σ) (FT w)) Q E:=by rw [<- R.K4];exact o
 refine Bw.bind (Bw.of (G6 B O g hk hd i (BG (BV es) (Bw.mono ((DC D).Ew i o) (λvs s1 h1=> ?_) λυ υ e=> e))));obtain ⟨x1,ws,g1,i1,r1,o1⟩:=h1;have X1:=i1.KX B;generalize hw:Nat.beq ws.length (AH C.T c).length=x9;induction x9 using bC with
 |false=> unfold BE at o1;rw [hw] at o1;exact o1.elim
 |true=>
  unfold BE at o1;rw [hw] at o1;have o1:AK C x1 s1 (.exc c ws l x1.σ) Q E:=o1;refine ⟨⟨.machine,λA Q E s k z=> ?_⟩,Bw.call (MV B O Y hroom i1 r1 (eBq hw) λh' tk x' e t d z1 g2 i2 kp lt he ex=> ?_)⟩
  ·obtain ⟨hp,gg,dd,tk,os⟩:=s;exact wpAny_keeperOf_exc (k _ _ (X1 _ _ ho)) z
  ·refine Bw.bind (Bw.standAt (Bw.pure ⟨e,t,some d,rfl,kp _ _ (X1 _ _ ho),he.1,wpAny_raiseNew_none hh ?_⟩));exact o1 _ _ x' z1 g2 i2 ⟨none,ex,.inl rfl⟩
end
namespace Bw
section
variable {M:Model} {A:Around} {E:VP} {s:Shared} {env:Env}
theorem tryStmt {body orelse:Sem Flow} {h₀:ExceptHandler} {hs:List ExceptHandler} {Q:Flow->Shared->Prop}
  (h:wpB M A body (λf s₁=> match f with | .next=> wpB M A orelse Q E s₁ |f=> Q f s₁) (λe s₁=> wpB M A (do noteFrame e env;setFlight e none;handleBy e env (h₀::hs)) Q E s₁) s):wpB M A (PySem.tryStmt false body (h₀::hs) orelse [] env) Q E s:=by
 unfold PySem.tryStmt;refine bind (attempt (mono h (λf s₁ h₁=> ?_) λe s₁ h₁=> h₁));cases f <;> first |exact h₁ |exact pure h₁
theorem handleBy {e:Value} {t:PySem.Expr} {name:Option Str} {body:List Stmt} {pos:Pos} {rest:List ExceptHandler} {Q:Flow->Shared->Prop}
  (h:codeB M (A.mark (some e)) (.handlers e [.ExceptHandler (some t) none [] pos] env) (λr s₁=> match r with
   | .ok .brk=> codeB M (A.mark (some e)) (.handlers e [.ExceptHandler none name body pos] env) (λr s₂=> match r with
     | .ok f=> (match name with
      |none=> Q f s₂
      |some n=> wpB M A (do PySem.bindName env n .none;unbindBehindTheSuite env n pos) (λυ s₃=> Q f s₃) E s₂)
     | .error x=> cameBackBy M A env E x s₂) s₁
   | .ok _=> False
   | .error x=> cameBackBy M A env E x s₁) s) (hnb:e ≠ byPass):
  wpB M A (PySem.handleBy e env (.ExceptHandler (some t) name body pos::rest)) Q E s:=by
 rw [PySem.handleBy];have hnb':(some e:Option Value) ≠ some byPass:=λx=> hnb (sIj x)
 refine bind (holding (runOwn (ER h (λr s₁ h₁=> ?_)) hnb'));induction r using Except.casesOn with
 |error x=> exact h₁
 |ok f=>
  cases f with
  |brk=>
   refine bind (pure ?_);simp only [Bool.not_true,Bool.false_eq_true,if_false];refine bind (holding (runOwn (ER h₁ (λr s₂ h₂=> ?_)) hnb'));induction r using Except.casesOn with
   |error x=> exact h₂
   |ok f=>
    induction name using oC with
    |none=> exact pure h₂
    |some n=> exact bind (holding (mono h₂ (λυ s₃ h₃=> pure h₃) λυ υ x=> x))
  |_=> exact h₁.elim
end
section
variable {prog:Program} {w:World} {A:Around} {s:Shared} {env:Env} {R:Result->Shared->Prop}
theorem KN {e:Value} {b₀:Stmt} {body:List Stmt} {name:Option Str} {pos:Pos}
  (h:wpB (model prog w) A (handleWith e env [.ExceptHandler none name (b₀::body) pos]) (λf s₂=> R (.ok f) s₂) (notedBy (model prog w) A env λx s₂=> R (.error x) s₂) s):codeB (model prog w) A (.handlers e [.ExceptHandler none name (b₀::body) pos] env) R s:=by
 refine ofTree (λυ υ=> rfl) ?_;show wpB _ A (do return Fin.done (<- (handleWith e env [.ExceptHandler none name (b₀::body) pos]).onRaise (λx=> do noteFrame x env;theTreesLotGoes x))) _ _ s;exact bind (Iv (mono h (λf s₁ h₁=> pure h₁) λυ υ x=> x))
end
end Bw
section
variable {C:Cx}
noncomputable def Cx.hd (C:Cx) (e:Value):Cx:={C with A:=C.A.mark (some e)}
theorem Cx.Ke {e:Value} (O:C.Ok):(C.hd e).Ok:=⟨O.top,O.fr,O.mine,O.glob,O.bi,O.kind,O.names,O.cellmine,O.once,O.apart,O.units,O.cinj,O.guards⟩
theorem In.hd {e:Value} {x:Wx} {l:LL} {h:Heap} (i:In C x l h):In (C.hd e) x l h:=⟨i.wd,i.dict,i.loc,i.cell,i.mine,i.frames⟩
theorem In.un {e:Value} {x:Wx} {l:LL} {h:Heap} (i:In (C.hd e) x l h):In C x l h:=⟨i.wd,i.dict,i.loc,i.cell,i.mine,i.frames⟩
theorem Go.un {e:Value} {x x':Wx} {s s':Shared} (g:Go (C.hd e) x x' s s'):Go C x x' s s':=⟨g.ext,g.mu,g.ow,g.ns,g.kb,g.gens,g.os⟩
def Quiet (C:Cx) (e:PySem.Expr) (f:SE):Prop:=∀{x:Wx} {l:LL} {s:Shared} {E:VP},In C x l s.heap->(∀c fs σ,f l x.σ ≠ .exc c fs σ)/\∀w σ,f l x.σ= .ok w σ->σ=x.σ/\∀{Q:VP},(∀v tk,C.rel x s.heap v w->Q v {s with toks:=tk})->wpAny C.M C.A (eval e C.env) Q E s
theorem Pg (w:W) (k:Nat) (p:Pos) (g:EF w=true):Quiet C (.Constant (Lr w) k p) (AQ w):=λ{x l s E} i=> ⟨λυ υ υ z=> (nomatch z),λw' σ e=> by
 cases e;refine ⟨rfl,λ{Q} q υ υ υ=> ?_⟩;induction w using W.casesOn with
 |none=> exact q .none s.toks rfl
 |bool b=> exact q (.bool b) s.toks rfl
 |int j=> exact q (.int j s.toks) _ ⟨_,rfl⟩
 |str t=> exact q (.str ⟨t.toArray⟩ s.toks) _ ⟨_,rfl,lBl g⟩
 |bytes t=> exact q (.bytes t.toArray s.toks) _ ⟨_,rfl,lBl g⟩
 |_=> exact nomatch (show false=true from g)⟩
theorem OO (B:C.toBase.Ok) (O:C.Ok) {k n a:Nat} {alts:NN} {p p':Pos} (al:Ck C.T alts a) (hk:nth C.ns k=some (some n)):Quiet C (.Attribute (.Name (C.T.nm n) p') (C.T.nm a) p) (Az (AE k) alts):=λ{x l s E} i=> by
 have ex:Az (AE k) alts l x.σ=(GW (nth l k) x.σ).bind λw σ=> kO 62 (AR.getAttr σ w alts) σ:=rfl
 rw [ex];generalize h:nth l k=x9;induction x9 using oC with
 |none=> exact ⟨λυ υ υ z=> (nomatch z),λυ υ z=> (nomatch z)⟩
 |some w=>
  induction w using oC with
  |none=> exact ⟨λυ υ υ z=> (nomatch z),λυ υ z=> (nomatch z)⟩
  |some w=>
   generalize hy:AR.getAttr x.σ w alts=x9;induction x9 using oC with
   |none=>
    have z:(GW (some (some w)) x.σ).bind (λw σ=> kO 62 (AR.getAttr σ w alts) σ)=kO 62 (AR.getAttr x.σ w alts) x.σ:=rfl;rw [z,hy];exact ⟨λυ υ υ z=> (nomatch z),λυ υ z=> (nomatch z)⟩
   |some y=>
    have z:(GW (some (some w)) x.σ).bind (λw σ=> kO 62 (AR.getAttr σ w alts) σ)=kO 62 (AR.getAttr x.σ w alts) x.σ:=rfl;rw [z,hy];refine ⟨λυ υ υ z=> (nomatch z),λw' σ e=> ?_⟩;cases e;refine ⟨rfl,λ{Q} q=> ?_⟩;obtain ⟨v,hv,r⟩:=i.loc k n w hk h;rw [arm_eval_Attribute,show attributeBase (.Name (C.T.nm n) p') (C.T.nm a) C.env (eval (.Name (C.T.nm n) p') C.env)=eval (.Name (C.T.nm n) p') C.env from rfl];have step:∀{P:VP},P v s->wpAny C.M C.A (eval (.Name (C.T.nm n) p') C.env) P E s:=λ{P} z=> by
     refine wpAny_Name ?_ (O.names k n hk).1;rcases hv with ⟨a,m,b,c⟩ |⟨a |a,c,b,d⟩
     ·exact wpAny_loadName_local O.kind a b c z
     ·exact wpAny_loadName_cell O.kind a b d z
     ·exact wpAny_loadName_free O.kind a b d z (O.names k n hk).2
    exact wpAny_bind (step (wpAny_bind (wpAny_standAt (wpAny_bind (wpAny_holding (Gj B i al r hy λu ru=> wpAny_bind (wpAny_letTemporaryGo (wpAny_pure (q u _ ru)))))))))
theorem IU {p:Pos} {es:List E} {fs:List SE} (D:Each (Quiet C) (AV C.T es) fs):∀{x:Wx} {l:LL} {s:Shared} {E:VP},In C x l s.heap->(∀c as σ,args fs l x.σ ≠ .exc c as σ)/\∀ws σ,args fs l x.σ= .ok ws σ->σ=x.σ/\∀{Q:List Value->Shared->Prop},(∀vs tk,C.BF x s.heap vs ws->Q vs {s with toks:=tk})->wpB C.M C.A (spliced (backTo p (starEach (AV C.T es) C.env))) Q E s:=by
 induction es generalizing fs with
 |nil=>
  cases (show fs= [] from D);exact λ{x l s E} i=> ⟨λυ υ υ z=> (nomatch z),λws σ e=> by clear D;cases e;exact ⟨rfl,λq=> Bw.pure (q [] s.toks rfl)⟩⟩
 |cons e es ih=>
  intro x l s E i;obtain ⟨f,fs,rfl,d,D⟩:=D;have d1:=d (E:=E) i;have d2:=λ(tk:Nat)=> ih D (s:={s with toks:=tk}) (E:=E) i
  rw [args_cons];generalize h:f l x.σ=x9;induction x9 using R.casesOn with
  |exc c as σ=> exact absurd h (d1.1 c as σ)
  |stuck n=> exact ⟨λυ υ υ z=> (nomatch z),λυ υ z=> (nomatch z)⟩
  |ok w σ=>
   clear D;obtain ⟨rfl,d3⟩:=d1.2 w σ h;generalize h2:args fs l x.σ=x9;induction x9 using R.casesOn with
   |exc c as σ=> exact absurd h2 ((d2 0).1 c as σ)
   |stuck n=>
    have z:(R.ok w x.σ).bind (λw σ=> (args fs l σ).bind λws σ=> .ok (w::ws) σ)=(args fs l x.σ).bind λws σ=> .ok (w::ws) σ:=rfl
    rw [z,h2];exact ⟨λυ υ υ z=> (nomatch z),λυ υ z=> (nomatch z)⟩
   |ok ws σ=>
    have z:(R.ok w x.σ).bind (λw σ=> (args fs l σ).bind λws σ=> .ok (w::ws) σ)=(args fs l x.σ).bind λws σ=> .ok (w::ws) σ:=rfl
    clear h;obtain ⟨rfl,_⟩:=(d2 0).2 ws σ h2;rw [z,h2];refine ⟨λυ υ υ z=> (nomatch z),λw' σ e=> ?_⟩;cases e;refine ⟨rfl,λ{Q} q=> ?_⟩;show wpB _ _ (spliced (backTo p (starEach (den C.T _::AV C.T es) C.env))) _ _ _;rw [(simple C.T _).star];refine Bw.As (Bw.of (d3 λv tk r=> ?_));exact ((d2 tk).2 ws x.σ h2).2 λvs tk' r'=> q (v::vs) tk' ⟨v,vs,rfl,r,r'⟩
end
section
variable {C:Cx}
theorem aq {x:Wx} {l:LL} {s:Shared} {a:Addr} {o:AN} {vs:Array Value} (i:In C x l s.heap) (e:s.heap.get? a=some o) (d:o.data= .fields vs):∀{b m},s.heap.Ns b m->b ≠ a:=λn z=> BR n (z▸e) d
theorem Ss (B:C.toBase.Ok) (O:C.Ok) {c rk n:Nat} (Y:Ed C.toBase c rk) (hroom:C.A.depth + rk + 1 < recursionLimit) {a:Addr} (hh:C.A.handled=some (.ref a)) (ctx:C.T.ctx c=true) (g:nsIn C.KF mainGlobals (C.T.nm n)=some (some (.ref c))) (hk:C.env.kindOf (C.T.nm n)=some .globalImplicit) (hd:(C.T.nm n==("__debug__" :Str))=false)
  {es:List E} {fs:List SE} {fp p pos:Pos} (D:Each (Quiet C) (AV C.T es) fs) {x:Wx} {l:LL} {s:Shared} {ws:List W} {Q:Flow->Shared->Prop} {E:VP} (i:In C x l s.heap) {oa:AN} {va:Array Value} (ha:s.heap.get? a=some oa) (hda:oa.data= .fields va) (h2:va[2]? =some .none)
  (hargs:args fs l x.σ= .ok ws x.σ) (hn:ws.length=(AH C.T c).length) (q:∀s' x' e,x'.σ=x.σ->Go C x x' s s'->In C x' l s'.heap->D5 C.T x' s'.heap e c ws none->E e s'):
  wpB C.M C.A (exec (.Raise (some (.Call (.Name (C.T.nm n) fp) (AV C.T es) [] p)) none pos) C.env) Q E s:=by
 obtain ⟨f,k,Y1,hk',sa,_⟩:=Y.at_;obtain ⟨nm,q',N,bs,bm,sn,sub,ab,col,dd,k0,k1,k2,k3,k5,ho,on⟩:=Y1.obj;rw [arm_exec_Raise];refine Bw.bind (Bw.standAt ?_);show wpB _ _ (raiseStmt C.env (some (eval (.Call (.Name (C.T.nm n) fp) (AV C.T es) [] p) C.env >>=λv=> standAt pos >>=λυ=> pure v)) none) _ _ _;refine IY (C:=c) (nm:=nm) (q:=q') (N:=N) (bs:=bs) (bm:=bm) (hdct:=true) (sn:=sn) (sub:=sub) (ab:=ab) (col:=col) (dd:=dd) (k0:=k0) (k1:=k1) (k2:=k2) (k3:=k3) (k5:=k5) (newId:= "Exception.__new__") on (Bw.bind ?_);rw [arm_eval_Call_Name'];refine Bw.bind (Bw.of (G6 B O g hk hd i (BG (BV es) (((IU D i).2 ws x.σ hargs).2 λvs tk1 r=> ?_))));have X:=i.KX B;refine ⟨⟨.machine,λA Q E s k z=> ?_⟩,Bw.call (MV (s:={s with toks:=tk1}) B O Y hroom i r hn λh' tk x' e t d z1 g2 i2 kp lt he ex=> ?_)⟩
 ·obtain ⟨hp,gg,dd,tk,os⟩:=s;exact wpAny_keeperOf_exc (k _ _ (X _ _ ho)) z
 ·obtain ⟨he,hb,hno⟩:=he;refine Bw.bind (Bw.standAt (Bw.pure ⟨e,t,some d,rfl,kp _ _ (X _ _ ho),he, ?_⟩));have ne:a ≠ e:=Nat.ne_of_lt (Nat.lt_trans (Heap.lt_size ha) lt);refine QU (s:={s with heap:=h',toks:=tk}) hh ne he (kp _ _ ha) hda h2 ?_;have he2:(h'.update e (Obj.mapFields (·.setIfInBounds 2 (.ref a)))).get? e=some ((A6 c t (some d)).mapFields (·.setIfInBounds 2 (.ref a))):=Heap.get?_update_self _ he rfl;have other:∀b,b ≠ e->(h'.update e (Obj.mapFields (·.setIfInBounds 2 (.ref a)))).get? b=h'.get? b:=λb z=> Heap.get?_update_other _ _ (Ne.symm z)
  obtain ⟨g3,i3⟩:=In.fly (s:={s with heap:=h',toks:=tk}) O i2 (h':=h'.update e (Obj.mapFields (·.setIfInBounds 2 (.ref a)))) (L:= []) (λb o e1 nf υ=> (other b λz=> nf (by clear ex lt ne nf;subst z;rw [he] at e1;cases e1;exact ⟨hb,hno,⟨_,rfl⟩,.inr ⟨c,rfl⟩⟩)).trans e1)
   (λb hb' m e1=> by
    have:b ≠ e:=aq (s:={s with heap:=h',toks:=tk}) i2 he rfl e1;obtain ⟨o,es',ep,z1,z2⟩:=e1;exact ⟨o,es',ep,(other b this).trans z1,z2⟩) (C7 other he2) (λb m=> nomatch m)
  have fz:=Go.fz (s:={s with heap:=h',toks:=tk}) i2 g3;obtain ⟨a',oe,vs',d',es',n',z0,z1',z2,z3,z4,z5,z6,z7,z8,z9,z10⟩:=ex;clear lt ne other z10 z2 z4;cases z0;rw [he] at z1';cases z1';cases z3;cases z5;refine q _ (x'.An []) (.ref e) z1 ((Go.toks (t:=tk1)).trans (g2.trans g3)) i3 ⟨e,_,#[.ref t,.none,.ref a,.none,.bool false,.none],d,es',n',rfl,he2,rfl,rfl,⟨show 5 < 6 by decide,λz=> ?_⟩,rfl,fz _ _ z6,Af.mono fz (Mu.le_refl _) z7,.inl z8,z9,rfl⟩;rw [ctx] at z;clear he2;cases z
theorem Rv (O:C.Ok) {x:Wx} {l:LL} {s:Shared} (i:In C x l s.heap) {e:Value} {c:Nat} {fs:List W} (ex:Exc C x s.heap e c fs) {M:Model} {A':Around} {E E':VP}
  (q:∀x' s',x'.σ=x.σ->Go C x x' s s'->In C x' l s'.heap->Exc C x' s'.heap e c fs->E e s'):wpAny M C.A (noteFrame e C.env) (λυ s''=> cameBackBy M A' C.env E e s'') E' s:=by
 obtain ⟨L,hL,hL'⟩:=O.fr;refine Ej O i ex hL (hL'.trans hL.symm) λx1 s1 z1 g1 i1 e1=> ?_
 unfold cameBackBy;have e1':=e1;clear ex;obtain ⟨a,oe,vs,d,es,n,rfl,he,hcls,hd,hsz,hdict,hfz,hrel,hb,ho,t,oT,ts,h1,_⟩:=e1';refine wpAny_bind (wpAny_field he hd h1 ?_);rw [if_neg (by simp)];rw [hL'];exact Cd O i1 e1 (some L) λx2 s2 z2 g2 i2 e2=> q x2 s2 (z2.trans z1) (g1.trans g2) i2 ⟨_,e2,.inr (.inr ⟨L,hL,rfl⟩)⟩
theorem QA (B:C.toBase.Ok) (O:C.Ok) {k n f:Nat} {cp hp:Pos} {name:Option Str} {b₀:Stmt} {body:List Stmt} (Y:E5 C.toBase k f) (g:nsIn C.KF mainGlobals (C.T.nm n)=some (some (.ref k))) (hk:C.env.kindOf (C.T.nm n)=some .globalImplicit) (hd:(C.T.nm n==("__debug__" :Str))=false)
  {x:Wx} {l:LL} {s:Shared} {e:Value} {fs:List W} {Q:Flow->Shared->Prop} {E:VP} (i:In C x l s.heap) (ex:Exc C x s.heap e k fs)
  (suite:∀x1 s1 a,x1.σ=x.σ->Go C x x1 s s1->In C x1 l s1.heap->e= .ref a->D5 C.T x1 s1.heap e k fs (some .none)->
   wpB C.M (C.A.mark (some e)) (match name with
  |none=> execs (b₀::body) C.env
  |some n=> do
   PySem.bindName C.env n e
   match <- (execs (b₀::body) C.env).attempt with
   | .ok f=> pure f
   | .error x=>
    noteFrame x C.env
    holding [x] <|(do
     PySem.bindName C.env n .none
     unbindBehindTheSuite C.env n hp:Sem Unit).onRaise λυ=> setFlight x none
    passOn "try.except-as" x C.env) (λf s₂=> (match name with
      |none=> Q f s₂
      |some n=> wpB C.M C.A (do PySem.bindName C.env n .none;unbindBehindTheSuite C.env n hp) (λυ s₃=> Q f s₃) E s₂)) (notedBy C.M (C.A.mark (some e)) C.env λx s₂=> cameBackBy C.M C.A C.env E x s₂) s1):
  wpB C.M C.A (do noteFrame e C.env;setFlight e none;PySem.handleBy e C.env [.ExceptHandler (some (.Name (C.T.nm n) cp)) name (b₀::body) hp]) Q E s:=by
 obtain ⟨nm,q',N,bs,bm,sn,sub,ab,col,dd,k0,k1,k2,k3,k5,ho,on⟩:=Y.obj;obtain ⟨L,hL,hL'⟩:=O.fr;refine Bw.Ar (Ej O i ex hL (hL'.trans hL.symm) λx2 s2 z2 g2 i2 e2=> ?_);refine Bw.Ar (Cd O i2 e2 none λx3 s3 z3 g3 i3 e3=> ?_);clear e2 ex;obtain ⟨a,oe,vs,d,es,n',rfl,he,hcls,hdt,_⟩:=id e3;have X:=i3.KX B;refine Bw.handleBy (Bw.ofCode ?_) (by intro z;cases z);refine codeAny_handlers_test (G6 (C:=C.hd (.ref a)) B (Cx.Ke O) g hk hd i3.hd ?_);obtain ⟨hp',gg,dr,tk,os⟩:=s3;refine wpAny_excMatches_sub_self (X _ _ ho) he hcls (B9 (by decide +kernel) on) ?_;show codeB _ _ _ _ _;refine Bw.KN ?_;unfold handleWith;refine Bw.bind (Bw.standAt (Bw.Ar (Cd O i3 e3 none λx4 s4 z4 g4 i4 e4=> ?_)));exact suite x4 s4 a (z4.trans (z3.trans z2)) (g2.trans (g3.trans g4)) i4 rfl e4
end
theorem Sp {k c:Nat} (h:Ai [k] c=true):c=k:=by
 have h:Bool.rec (motive:=λυ=> Bool) false true (Nat.beq k c)=true:=h;generalize hb:Nat.beq k c=x9;induction x9 using bC with
 |false=> rw [hb] at h;exact nomatch h
 |true=> exact (eBq hb).symm
structure MF (B:Base) (k n:Nat):Prop where
 at_:∃f,E5 B k f
 g:nsIn B.KF mainGlobals (B.T.nm n)=some (some (.ref k))
 sub:B.T.Z.sub k= [k]
section
variable {C:Cx}
theorem NX {x:Wx} {l:LL} {s:Shared} {f h:SS} {k:Nat} {name:Option (Nat × Nat)} {Q:Flow->Shared->Prop} {E:VP} (o:AK C x s (HY f [k] name h l x.σ) Q E):
  AK C x s (f l x.σ) (λf s'=> match f with | .next=> wpB C.M C.A (execs [] C.env) Q E s' |f=> Q f s') (λe s'=>∃x' l' fs,Go C x x' s s'/\In C x' l' s'.heap/\Exc C x' s'.heap e k fs/\AK C x' s' (Kf name h k fs l' x'.σ) Q E):=by
 unfold HY at o;generalize hres:f l x.σ=x9;induction x9 using RS.casesOn with
 |stuck n=> rw [hres] at o;exact o
 |next l' σ=> rw [hres] at o;exact λs' x' z g i=> Bw.of (wpAny_execs_nil (o s' x' z g i))
 |ret w σ=> rw [hres] at o;exact o
 |exc c fs l' σ=>
  rw [hres] at o;intro e s' x' z g i ex;have o:AK C x s (Bool.rec (motive:=λυ=> RS) (.stuck 103) (Kf name h c fs l' σ) (Ai [k] c)) Q E:=o;generalize hc:Ai [k] c=x9;induction x9 using bC with
  |false=> rw [hc] at o;exact o.elim
  |true=>
   rw [hc] at o;cases Sp hc;refine ⟨x',l',fs,g,i,ex,AK.shift g ?_⟩;rw [z];exact o
theorem Qa (B:C.toBase.Ok) (O:C.Ok) {b:List Stmt} {f:SS} (D:CU C b f) {k n:Nat} {cp hp p:Pos} (Y:MF C.toBase k n) (hk:C.env.kindOf (C.T.nm n)=some .globalImplicit) (hd:(C.T.nm n==("__debug__" :Str))=false) (ck:C.T.ctx k=false)
  {c rk n':Nat} (Y':Ed C.toBase c rk) (hroom:C.A.depth + rk + 1 < recursionLimit) (ctx:C.T.ctx c=true) (g':nsIn C.KF mainGlobals (C.T.nm n')=some (some (.ref c))) (hk':C.env.kindOf (C.T.nm n')=some .globalImplicit) (hd':(C.T.nm n' ==("__debug__" :Str))=false)
  {es:List E} {fs:List SE} {fp cp' pos:Pos} (DA:∀e,Each (Quiet (C.hd e)) (AV C.T es) fs):
  SOk C (.Try b [.ExceptHandler (some (.Name (C.T.nm n) cp)) none [.Raise (some (.Call (.Name (C.T.nm n') fp) (AV C.T es) [] cp')) none pos] hp] [] [] p) (HY f [k] none (block [EW (AZ (BE c (AH C.T c).length) fs)])):=by
 intro x l s Q E i o;rw [arm_exec_Try];obtain ⟨f0,Y0⟩:=Y.at_;refine Bw.bind (Bw.standAt (Bw.tryStmt (Bw.mono (D x l s _ _ i (NX o)) (λυ υ z=> z) λe s' hx=> ?_)));obtain ⟨x1,l1,fs1,g1,i1,ex1,o1⟩:=hx;refine QA (name:=none) B O Y0 Y.g hk hd i1 ex1 λx2 s2 a z2 g2 i2 ea e2=> ?_
 have o1:AK C x1 s' ((EW (AZ (BE c (AH C.T c).length) fs) l1 x1.σ).then (block [])) Q E:=o1;rw [<- z2] at o1;have o1:=AK.shift g2 o1;have qa:=IU (DA e) (p:=cp') (E:=E) i2.hd;have er:EW (AZ (BE c (AH C.T c).length) fs) l1 x2.σ=(args fs l1 x2.σ).toS l1 λws σ=> (BE c (AH C.T c).length ws σ).toS l1 λw σ=> Option.rec (motive:=λυ=> RS) (.stuck 102) (λp=> .exc p.1 p.2 l1 σ) (FT w):=by rw [<- R.K4];rfl
 rw [er] at o1;generalize ha:args fs l1 x2.σ=x9;induction x9 using R.casesOn with
 |stuck n=> rw [ha] at o1;exact o1.elim
 |exc c' as σ=> exact absurd ha (qa.1 c' as σ)
 |ok ws σ=>
  clear ex1;obtain ⟨rfl,_⟩:=qa.2 ws σ ha;rw [ha] at o1;generalize hw:Nat.beq ws.length (AH C.T c).length=x9;induction x9 using bC with
  |false=>
   have o1:AK C x2 s2 (((BE c (AH C.T c).length ws x2.σ).toS l1 λw σ=> Option.rec (motive:=λυ=> RS) (.stuck 102) (λp=> .exc p.1 p.2 l1 σ) (FT w)).then (block [])) Q E:=o1;unfold BE at o1;rw [hw] at o1;exact o1.elim
  |true=>
   have o1:AK C x2 s2 (((BE c (AH C.T c).length ws x2.σ).toS l1 λw σ=> Option.rec (motive:=λυ=> RS) (.stuck 102) (λp=> .exc p.1 p.2 l1 σ) (FT w)).then (block [])) Q E:=o1;unfold BE at o1;rw [hw] at o1;have o1:AK C x2 s2 (.exc c ws l1 x2.σ) Q E:=o1;clear qa;subst ea;obtain ⟨a',oe,vs,d,es',n0,z0,h1,h2,h3,h4,_⟩:=id e2;cases z0;refine Bw.Dy ?_;refine Bw.mono (Ss (C:=C.hd (.ref a)) (Q:=λυ υ=> False) B (Cx.Ke O) Y' hroom rfl ctx g' hk' hd' (DA _) i2.hd h1 h3 (h4.2 ck) ha (eBq hw) λs3 x3 e3 z3 g3 i3 ex3=> ?_) (λυ υ z=> z.elim) λυ υ z=> z
   exact Rv (C:=C.hd (.ref a)) (Cx.Ke O) i3 ⟨none,ex3,.inl rfl⟩ λx4 s4 z4 g4 i4 ex4=> o1 e3 s4 x4 (z4.trans z3) (g3.un.trans g4.un) i4.un ex4
end
section
variable {C:Cx} {x:Wx} {l:LL} {s:Shared}
theorem In.raw (O:C.Ok) (i:In C x l s.heap) {k n:Nat} (hk:nth C.ns k=some (some n)) {h':Heap} {m m':Str->Option Value} (hn:s.heap.Ns C.env.locals m) (hn':h'.Ns C.env.locals m') (hm:∀y,y ≠ C.T.nm n->m' y=m y) (hs:Heap.SameBut C.env.locals s.heap h'):
  Go C x x s {s with heap:=h'}/\In C x (put l k none) h':=by
 have lz:C2 s.heap h':=let ⟨_,_,_,e,_⟩:=hn';C7 hs.2 e
 have cb:=i.mine _ O.mine;have fz:∀a o,Fz s.heap x.bad a o->Fz h' x.bad a o:=λa o e=> ⟨(hs.2 a λq=> e.2 (q▸cb.1)).trans e.1,e.2⟩
 refine ⟨Go.G2 (tk:=s.toks) O.mine hs lz,i.wd.quiet (mod:=λa=> a=C.env.locals) (bad':=x.bad) ⟨λa o e q=> (hs.2 a q).trans e,λυ=> .inl,lz⟩ (λa q=> q▸cb.1) (λa q=> q▸cb.2) (λa q=> i.wd.DQ q) (λa q=> Nat.lt_of_lt_of_le (i.wd.fit a q) (Cg lz)),⟨_,hn'⟩,λj n' w a e=> ?_,λy c e=> ?_,i.mine,λe he=> ?_⟩
 ·rw [Df] at e
  split at e
  ·split at e
   ·exact nomatch e
   ·exact nn e
  ·rename_i q
   obtain ⟨v,b,z⟩:=i.loc j n' w a e;have ne:C.T.nm n' ≠ C.T.nm n:=λz=> q (O.apart j k n' n a hk z).symm
   refine ⟨v, ?_,z.mono fz (Mu.le_refl _)⟩;rcases b with ⟨b1,m2,b2,b3⟩ |⟨b1,c,b2,b3⟩
   ·exact .inl ⟨b1,m',hn',by rw [hm _ ne,hn.agree b2 _];exact b3⟩
   ·exact .inr ⟨b1,c,b2,b3.sameBut hs λq=> BQ hn (q▸b3)⟩
 ·obtain ⟨z1,z2,v,q⟩:=i.cell y c e;exact ⟨z1,z2,v,q.sameBut hs λz=> BQ hn (z▸q)⟩
 ·obtain ⟨a,b,m2,z,d,q⟩:=i.frames e he;by_cases hb:b=C.env.locals
  ·exact ⟨a,b,_,z,hb▸hn',q⟩
  ·exact ⟨a,b,m2,z,d.sameBut hs hb,q⟩
inductive JX (T:Tb) (x:Wx) (h:Heap) (e:Value) (c:Nat) (fs:List W):Prop |mk (a:Addr) (oe:AN) (vs:Array Value) (d:Addr) (es:List DictEntry) (n:Nat) (h1:e= .ref a) (h2:h.get? a=some oe) (h3:oe.cls= .ref c) (h4:oe.data= .fields vs) (h5:oe.dict=some d) (h6:Fz h x.bad d (AM es n)) (h7:Af T (Fz h x.bad) x.mu fs (AH T c) es)
theorem D5.fields {h:Heap} {e:Value} {c:Nat} {fs:List W} {fl:Option Value} (ex:D5 C.T x h e c fs fl):JX C.T x h e c fs:=by
 obtain ⟨a,oe,vs,d,es,n,h1,h2,h3,h4,_,h5,h6,h7,_⟩:=ex;exact ⟨a,oe,vs,d,es,n,h1,h2,h3,h4,h5,h6,h7⟩
theorem JX.but {h h':Heap} {e:Value} {c:Nat} {fs:List W} {L:Addr} {m:Str->Option Value} (ex:JX C.T x h e c fs) (hn:h.Ns L m) (hL:x.bad L) (hs:Heap.SameBut L h h'):JX C.T x h' e c fs:=by
 obtain ⟨a,oe,vs,d,es,n,h1,h2,h3,h4,h5,h6,h7⟩:=ex;have fz:∀a o,Fz h x.bad a o->Fz h' x.bad a o:=λa o e=> ⟨(hs.2 a λq=> e.2 (q▸hL)).trans e.1,e.2⟩
 exact ⟨a,oe,vs,d,es,n,h1,(hs.2 a λz=> BR hn (z▸h2) h4).trans h2,h3,h4,h5,fz _ _ h6,Af.mono fz (Mu.le_refl _) h7⟩
theorem SR (B:C.toBase.Ok) (O:C.Ok) (i:In C x l s.heap) {e:Value} {c:Nat} {fs:List W} (ex:JX C.T x s.heap e c fs) {n a:Nat} {alts:NN} {y:W} (al:Ck C.T alts a) (hc:∀k,C.T.cls c=some k->k.kind=2) (hy:AR.getAttr x.σ (.obj c fs) alts=some y)
  {m:Str->Option Value} (hn:s.heap.Ns C.env.locals m) (hv:m (C.T.nm n)=some e) (hl:C.env.kindOf (C.T.nm n)=some .local) (hd:(C.T.nm n==("__debug__" :Str))=false) {p p':Pos} {A:Around} {Q:VP} {E:VP} (q:∀u tk,C.rel x s.heap u y->Q u {s with toks:=tk}):
  wpAny C.M A (eval (.Attribute (.Name (C.T.nm n) p') (C.T.nm a) p) C.env) Q E s:=by
 obtain ⟨p0,e1,e0⟩:=AA hy;obtain ⟨j,e2,e3⟩:=AA e0;have:p0=(c,fs):=(sIj (show some (c,fs)=some p0 from e1)).symm;clear e0 e1;subst this;obtain ⟨k,hk,ha⟩:=al _ (AY e2);have K:=B.cls c k hk;have cf:AH C.T c=k.fields:=by unfold AH;rw [hk]
 obtain ⟨b,oe,vs,d,es,n',rfl,h1,h2,h3,h5,h6,h7⟩:=ex;obtain ⟨a',en,g1,g2,_,rv⟩:=(cf▸h7).find B.names K.lt K.nd e3;rw [ha] at g1;cases g1;obtain ⟨cd,k1,k2⟩:=K.cd;have fo:=F1 k1 k2 (K.own a (List.mem_of_getElem? ha)) (od:=AM es n') (v:=en.val) (by unfold lookIn AM;simp only [g2]);have I:InstAt s.heap b oe c (some (AM es n')):=⟨h1,h2,by unfold notCls;rw [h3],by rw [h5];exact h6.1⟩;have kk:=hc k hk;rw [arm_eval_Attribute,show attributeBase (.Name (C.T.nm n) p') (C.T.nm a) C.env (eval (.Name (C.T.nm n) p') C.env)=eval (.Name (C.T.nm n) p') C.env from rfl];refine wpAny_bind (wpAny_Name (wpAny_loadName_local O.kind hl hn hv (wpAny_bind (wpAny_standAt (wpAny_bind (wpAny_holding ?_))))) hd);exact M1 (i.KX B) I (K.gaE kk) K.g (K.mroE kk) fo (FY rv) (wpAny_bind (wpAny_letTemporaryGo (wpAny_pure (q _ _ rv))))
end
theorem ej {e1 e2 e3:SE} {l:LL} {σ:List O} (h:∀e ∈ [e1,e2,e3],(∃n,e l σ= .stuck n)\/∃y,e l σ= .ok y σ):
  (∃n,block [C1 (some (Bo [e1,Bo [e2,e3]]))] l σ= .stuck n)\/∃y1 y2 y3,e1 l σ= .ok y1 σ/\e2 l σ= .ok y2 σ/\e3 l σ= .ok y3 σ/\block [C1 (some (Bo [e1,Bo [e2,e3]]))] l σ= .ret (.tup [y1,.tup [y2,y3]]) σ:=by
 have z:block [C1 (some (Bo [e1,Bo [e2,e3]]))] l σ=((((e1 l σ).bind λw σ=> (args [Bo [e2,e3]] l σ).bind λws σ=> .ok (w::ws) σ).bind JM).toS l λw σ=> .ret w σ).then (block []):=rfl
 rcases h e1 (.head _) with ⟨n,h1⟩ |⟨y1,h1⟩
 ·rw [z,h1];exact .inl ⟨n,rfl⟩
 have z2:args [Bo [e2,e3]] l σ=((((e2 l σ).bind λw σ=> (args [e3] l σ).bind λws σ=> .ok (w::ws) σ).bind JM)).bind λw σ=> .ok [w] σ:=rfl
 have z3:args [e3] l σ=(e3 l σ).bind λw σ=> .ok [w] σ:=rfl
 have z4:∀(y:W) (k:W->List O->R (List W)),(R.ok y σ).bind k=k y σ:=λυ υ=> rfl
 rw [z,h1,z4,z2];rcases h e2 (.tail _ (.head _)) with ⟨n,h2⟩ |⟨y2,h2⟩
 ·rw [h2];exact .inl ⟨n,rfl⟩
 rw [h2,z4,z3];rcases h e3 (.tail _ (.tail _ (.head _))) with ⟨n,h3⟩ |⟨y3,h3⟩
 ·rw [h3];exact .inl ⟨n,rfl⟩
 rw [h3];exact .inr ⟨y1,y2,y3,rfl,rfl,rfl,rfl⟩
section
variable {C:Cx}
theorem R4 {x:Wx} {l:LL} {s:Shared} {k n c:Nat} {fs:List W} {a1 a2 a3:NN} {Q:Flow->Shared->Prop} {E:VP}
  (o:AK C x s (Kf (some (k,n)) (block [C1 (some (Bo [Az (AE k) a1,Bo [Az (AE k) a2,Az (AE k) a3]]))]) c fs l x.σ) Q E):
  ∃y1 y2 y3,AR.getAttr x.σ (.obj c fs) a1=some y1/\AR.getAttr x.σ (.obj c fs) a2=some y2/\AR.getAttr x.σ (.obj c fs) a3=some y3/\AK C x s (.ret (.tup [y1,.tup [y2,y3]]) x.σ) Q E:=by
 have at_:∀a,(∃n,Az (AE k) a (put l k (some (.obj c fs))) x.σ= .stuck n)\/∃y,AR.getAttr x.σ (.obj c fs) a=some y/\Az (AE k) a (put l k (some (.obj c fs))) x.σ= .ok y x.σ:=λa=> by
  have z:Az (AE k) a (put l k (some (.obj c fs))) x.σ=(GW (nth (put l k (some (.obj c fs))) k) x.σ).bind λw σ=> kO 62 (AR.getAttr σ w a) σ:=rfl
  rw [z,Df,if_pos rfl];by_cases q:k < l.length
  ·rw [if_pos q];have z2:(GW (some (some (W.obj c fs))) x.σ).bind (λw σ=> kO 62 (AR.getAttr σ w a) σ)=kO 62 (AR.getAttr x.σ (.obj c fs) a) x.σ:=rfl;rw [z2];generalize hy:AR.getAttr x.σ (.obj c fs) a=x9;induction x9 using oC with
   |none=> exact .inl ⟨62,rfl⟩
   |some y=> exact .inr ⟨y,rfl,rfl⟩
  ·rw [if_neg q];exact .inl ⟨60,rfl⟩
 have o:AK C x s (unb k (block [C1 (some (Bo [Az (AE k) a1,Bo [Az (AE k) a2,Az (AE k) a3]]))] (put l k (some (.obj c fs))) x.σ)) Q E:=o;have yes:∀a y,Az (AE k) a (put l k (some (.obj c fs))) x.σ= .ok y x.σ->AR.getAttr x.σ (.obj c fs) a=some y:=λa y e=> by
  rcases at_ a with ⟨n,h⟩ |⟨y',h,h'⟩
  ·rw [h] at e;cases e
  ·rw [h'] at e;clear h';cases e;exact h
 have hh:∀e ∈ [Az (AE k) a1,Az (AE k) a2,Az (AE k) a3],(∃n,e (put l k (some (.obj c fs))) x.σ= .stuck n)\/∃y,e (put l k (some (.obj c fs))) x.σ= .ok y x.σ:=λe m=> by
  have z:∃a,e=Az (AE k) a:=by
   rcases mCo m with h |m
   ·exact ⟨_,h⟩
   ·rcases mCo m with h |m
    ·exact ⟨_,h⟩
    ·exact ⟨_,mSg m⟩
  clear m;obtain ⟨a,rfl⟩:=z;exact (at_ a).imp id λ⟨y,_,h⟩=> ⟨y,h⟩
 rcases ej hh with ⟨n,h⟩ |⟨y1,y2,y3,h1,h2,h3,h⟩
 ·rw [h] at o;exact o.elim
 ·rw [h] at o;exact ⟨y1,y2,y3,yes _ _ h1,yes _ _ h2,yes _ _ h3,o⟩
theorem Mh (O:C.Ok) {x:Wx} {l:LL} {s:Shared} {k n:Nat} {hp:Pos} {Q:Unit->Shared->Prop} {E:VP} (hk:nth C.ns k=some (some n)) (hl:C.env.kindOf (C.T.nm n)=some .local) (i:In C x l s.heap) (q:∀s',Go C x x s s'->In C x (put (put l k none) k none) s'.heap->Q () s'):
  wpB C.M C.A (do PySem.bindName C.env (C.T.nm n) .none;unbindBehindTheSuite C.env (C.T.nm n) hp) Q E s:=by
 obtain ⟨m,hm⟩:=i.dict;refine Bw.bind (Bw.bindName (Bw.of (wpAny_storeName_local hl hm (λh' hn' hs=> ?_) (by rw [O.kind];rfl))));obtain ⟨g1,i1⟩:=i.raw O hk hm hn' (λy ne=> if_neg ne) hs;refine Bw.onRaise (Bw.of (wpAny_unbindName_local hl hn' (if_pos rfl) (by rw [O.kind];rfl) λh'' u hn'' hs'=> ?_));obtain ⟨g2,i2⟩:=In.raw (s:={s with heap:=h'}) O i1 hk hn' hn'' (λy ne=> if_neg ne) hs';exact q _ (g1.trans (g2.trans (.toks (t:=s.toks + 1)))) i2
theorem QT (B:C.toBase.Ok) (O:C.Ok) {b:List Stmt} {f:SS} (D:CU C b f) {c n k nn:Nat} {cp hp p:Pos} (Y:MF C.toBase c n) (hk:C.env.kindOf (C.T.nm n)=some .globalImplicit) (hd:(C.T.nm n==("__debug__" :Str))=false)
  (hc:∀k,C.T.cls c=some k->k.kind=2) (hkn:nth C.ns k=some (some nn)) (hl:C.env.kindOf (C.T.nm nn)=some .local) {f1 f2 f3:Nat} {a1 a2 a3:NN} (al1:Ck C.T a1 f1) (al2:Ck C.T a2 f2) (al3:Ck C.T a3 f3) {q1 q2 q3 q4 q5 q6 q7 q8 q9:Nat}:
  SOk C (.Try b [.ExceptHandler (some (.Name (C.T.nm n) cp)) (some (C.T.nm nn)) [GN C.T (.ret (some (.tup [.attr (.loc k nn q1) a1 f1 q2,.tup [.attr (.loc k nn q3) a2 f2 q4,.attr (.loc k nn q5) a3 f3 q6] q7] q8)) q9)] hp] [] [] p)
   (HY f [c] (some (k,nn)) (block [C1 (some (Bo [Az (AE k) a1,Bo [Az (AE k) a2,Az (AE k) a3]]))])):=by
 intro x l s Q E i o;rw [arm_exec_Try];obtain ⟨f0,Y0⟩:=Y.at_;refine Bw.bind (Bw.standAt (Bw.tryStmt (Bw.mono (D x l s _ _ i (NX o)) (λυ υ z=> z) λe s' hx=> ?_)));obtain ⟨x1,l1,fs1,g1,i1,ex1,o1⟩:=hx;refine QA (name:=some (C.T.nm nn)) B O Y0 Y.g hk hd i1 ex1 λx2 s2 a z2 g2 i2 ea e2=> ?_
 rw [<- z2] at o1;obtain ⟨y1,y2,y3,h1,h2,h3,o2⟩:=R4 (AK.shift g2 o1);dsimp only;obtain ⟨m,hm⟩:=i2.dict;have nd:=(O.names k nn hkn).1;refine Bw.bind (Bw.bindName (Bw.of (wpAny_storeName_local hl hm (λh' hn' hs=> ?_) (by rw [O.kind];rfl))));obtain ⟨g3,i3⟩:=i2.raw O hkn hm hn' (λy ne=> if_neg ne) hs;have ex3:JX C.T x2 h' e c fs1:=e2.fields.but hm (i2.mine _ O.mine).1 hs;have rd:∀{fa:Nat} {al:NN} {y:W} {tk:Nat} {p1 p2:Nat} {A:Around} {P:VP} {E:VP},Ck C.T al fa->AR.getAttr x2.σ (.obj c fs1) al=some y->(∀u tk,C.rel x2 h' u y->P u {s2 with heap:=h',toks:=tk})->wpB C.M A (eval (den C.T (.attr (.loc k nn p1) al fa p2)) C.env) P E {s2 with heap:=h',toks:=tk}:=λ{fa al y tk p1 p2 A P E} al hy q=>
  Bw.of (SR (s:={s2 with heap:=h',toks:=tk}) B O i3 ex3 al hc hy hn' (if_pos rfl) hl nd λu tk r=> q u tk r)
 refine Bw.bind (Bw.attempt (Bw.Dy ?_));show wpB _ _ (exec (.Return (some (.Tuple (AV C.T [.attr (.loc k nn q1) a1 f1 q2,.tup [.attr (.loc k nn q3) a2 f2 q4,.attr (.loc k nn q5) a3 f3 q6] q7]) 0 (AG q8))) (AG q9)) C.env) _ _ _;rw [arm_exec_Return];refine Bw.bind (Bw.standAt (Bw.bind ?_));rw [arm_eval_Tuple];refine Bw.bind (Bw.standAt (Bw.bind ?_));show wpB _ _ (spliced (backTo _ (starEach (den C.T (.attr (.loc k nn q1) a1 f1 q2)::AV C.T [.tup [.attr (.loc k nn q3) a2 f2 q4,.attr (.loc k nn q5) a3 f3 q6] q7]) C.env))) _ _ _;rw [(simple C.T _).star];refine Bw.As ?_;refine rd (tk:=s2.toks + 1) al1 h1 λu1 t1 r1=> ?_
 show wpB _ _ (spliced (backTo _ (starEach (den C.T (.tup [.attr (.loc k nn q3) a2 f2 q4,.attr (.loc k nn q5) a3 f3 q6] q7)::AV C.T []) C.env))) _ _ _;rw [(simple C.T _).star];refine Bw.As ?_;show wpB _ _ (eval (.Tuple (AV C.T [.attr (.loc k nn q3) a2 f2 q4,.attr (.loc k nn q5) a3 f3 q6]) 0 (AG q7)) C.env) _ _ _;rw [arm_eval_Tuple];refine Bw.bind (Bw.standAt (Bw.bind ?_));show wpB _ _ (spliced (backTo _ (starEach (den C.T (.attr (.loc k nn q3) a2 f2 q4)::AV C.T [.attr (.loc k nn q5) a3 f3 q6]) C.env))) _ _ _;rw [(simple C.T _).star];refine Bw.As ?_;refine rd al2 h2 λu2 t2 r2=> ?_
 show wpB _ _ (spliced (backTo _ (starEach (den C.T (.attr (.loc k nn q5) a3 f3 q6)::AV C.T []) C.env))) _ _ _;rw [(simple C.T _).star];refine Bw.As ?_;refine rd al3 h3 λu3 t3 r3=> Bw.pure ?_
 have k4:=Ab h' (AS [u2,u3] 0);have i4:In C x2 (put l1 k none) (h'.push (AS [u2,u3] 0)):=i3.keeps O k4;refine Bw.of (wpAny_newObj_type ?_ (by show 2 <= sizeLine;rw [sizeLine_eq];decide));refine Bw.pure ?_;have k5:=Ab (h'.push (AS [u2,u3] 0)) (AS [u1,.ref h'.objs.size] 0);have i5:=i4.keeps O k5;refine Bw.of (wpAny_newObj_type ?_ (by show 2 <= sizeLine;rw [sizeLine_eq];decide));have r4:C.rel x2 (h'.push (AS [u2,u3] 0)) (.ref h'.objs.size) (.tup [y2,y3]):=⟨_,[u2,u3],0,rfl,ET i3 _ rfl,(show 2 <= LIM by decide),AD.mono (i3.fzk k4) (Mu.le_refl _) ⟨u2,[u3],rfl,r2,u3,[],rfl,r3,rfl⟩⟩;have r5:C.rel x2 ((h'.push (AS [u2,u3] 0)).push (AS [u1,.ref h'.objs.size] 0)) (.ref (h'.push (AS [u2,u3] 0)).objs.size) (.tup [y1,.tup [y2,y3]]):=
  ⟨_,[u1,.ref h'.objs.size],0,rfl,ET i4 _ rfl,(show 2 <= LIM by decide),⟨u1,[.ref h'.objs.size],rfl,r1.mono (λa o e=> i4.fzk k5 a o (i3.fzk k4 a o e)) (Mu.le_refl _),.ref h'.objs.size,[],rfl,r4.mono (i4.fzk k5) (Mu.le_refl _),rfl⟩⟩
 refine Bw.pure (Bw.pure ?_);have g5:Go C x2 x2 s2 {s2 with heap:=(h'.push (AS [u2,u3] 0)).push (AS [u1,.ref h'.objs.size] 0),toks:=t3}:=g3.trans (Go.keeps (s:={s2 with heap:=h'}) (s':={s2 with heap:=(h'.push (AS [u2,u3] 0)).push (AS [u1,.ref h'.objs.size] 0),toks:=t3}) λb o e=> k5 b o (k4 b o e));refine Mh (s:={s2 with heap:=(h'.push (AS [u2,u3] 0)).push (AS [u1,.ref h'.objs.size] 0),toks:=t3}) O hkn hl i5 λs6 g6 i6=> ?_
 exact o2 _ s6 x2 _ rfl (g5.trans g6) i6 (Aq (s:={s2 with heap:=(h'.push (AS [u2,u3] 0)).push (AS [u1,.ref h'.objs.size] 0),toks:=t3}) i5 g6 r5)
end
def Gw (M:Model) (A:Around) (E:VP) (use:Option (Value->Sem Unit)) (Q:VP) (acc:Value) (cenv:Env) (r:Result) (s':Shared):Prop:=
 match r,use with
 | .ok _,none=>∃m,s'.heap.Ns cenv.locals m/\∀h',Heap.SameBut cenv.locals s'.heap h'->Q acc {s' with heap:=h'}
 | .ok _,some u=> wpAny M A (u acc) (λυ s''=>∃m,s''.heap.Ns cenv.locals m/\∀h',Heap.SameBut cenv.locals s''.heap h'->Q .none {s'' with heap:=h'}) E s'
 | .error x,_=>∃m,s'.heap.Ns cenv.locals m/\∀h',Heap.SameBut cenv.locals s'.heap h'->wpAny M A (passOn "comprehension.variables-let-go" x cenv:Sem Value) (λυ υ=> False) E {s' with heap:=h'}
namespace Bw
section
variable {M:Model} {A:Around} {E:VP} {s:Shared} {env:Env}
theorem Vs {α:Type} {b:Bool} {p:Pos} {k:Unit->Sem α} {Q:α->Shared->Prop} (z:wpB M A (k ()) Q E s):wpB M A (if b=true then PySem.standAt p >>=k else k ()) Q E s:=by
 cases b
 ·exact ifF rfl z
 ·exact ifT rfl (bind (standAt z))
theorem comprehension {e:PySem.Expr} {scope:Scope} {pos:Pos} {newAcc first:Sem Value} {g:Comprehension} {gs:List Comprehension} {cl:List (Str × Addr)} {use:Option (Value->Sem Unit)} {Q:VP}
  (hcl:clausesOf e=g::gs) (hs:∀x,foldedSetIterable g.iter env x=Pure.pure x) (hclos:closureFor scope env=Pure.pure cl) (hkind:scope.kind= .function) (hnames:∀x ∈ scope.names,x.2= .local->scope.names.lookup x.1=some .local)
  (h:wpB M A first (λx s₁=> wpB M A (pyIter x) (λit s₂=> wpAny M A newAcc (λacc s₃=>
   wpAny M A (newFunctionEnv scope env.globals cl [] env.qual none .none (some env)) (λcenv s₄=>
    codeB M A (.compStart e 0 it acc {cenv with scope:=relabel scope env}) (Gw M A E use Q acc {cenv with scope:=relabel scope env}) s₄) E s₃) E s₂) E s₁) E s):
  wpB M A (PySem.comprehension e scope env pos newAcc false first use) Q E s:=by
 unfold PySem.comprehension;rw [hclos,hcl];refine bind (mono h (λx s₁ h₁=> bind (standAt (bind (ofEq (hs x) (bind (holding (mono h₁ (λit s₂ h₂=> ?_) λυ υ h'=> h'))))))) λυ υ h'=> h');refine Vs ?_;refine Ar (wpAny_mono h₂ (λacc s₃ h₃=> ?_) λυ υ h'=> h');refine bind (pure ?_);refine Ar (wpAny_mono h₃ (λcenv s₄ h₄=> ?_) λυ υ h'=> h');dsimp only;have hv:∀x ∈ (scope.names.filter λx=> (x.2== .local ||x.2== .cell) && x.1 !=(".0" :Str)).reverse,x.2= .local->
   Env.kindOf {cenv with scope:=relabel scope env} x.1=some .local:=λx hx hl=> lookup_relabel_local (hnames x (List.mem_filter.mp (List.mem_reverse.mp hx)).1 hl)
 have hv':∀x ∈ (scope.names.filter λx=> (x.2== .local ||x.2== .cell) && x.1 !=(".0" :Str)).reverse.drop 1 ++ (scope.names.filter λx=> (x.2== .local ||x.2== .cell) && x.1 !=(".0" :Str)).reverse.take 1,
   x.2= .local->Env.kindOf {cenv with scope:=relabel scope env} x.1=some .local:=λx hx hl=> by
  rcases List.mem_append.mp hx with h1 |h1
  ·exact hv x (List.mem_of_mem_drop h1) hl
  ·exact hv x (List.mem_of_mem_take h1) hl
 refine holding (bind (attempt (holding (run (ER h₄ λr s' hr=> ?_)))));induction r using Except.casesOn with
 |ok f=>
  induction use using oC with
  |none=>
   obtain ⟨m,hn,hr⟩:=hr;exact bind (holding (of (wpAny_comp_letGo (cenv:={cenv with scope:=relabel scope env}) hkind _ s' m hv hn λh' m' υ hs'=> pure (hr h' hs'))))
  |some u=>
   refine of (wpAny_bind (wpAny_rule (wpAny_bind (wpAny_holding (wpAny_mono hr (λυ s'' hr'=> ?_) λυ υ h'=> h')))));obtain ⟨m,hn,hr'⟩:=hr';exact wpAny_bind (wpAny_comp_letGo (cenv:={cenv with scope:=relabel scope env}) hkind _ s'' m hv' hn λh' m' υ hs'=> wpAny_pure (hr' h' hs'))
 |error x=>
  have hr':∃m,s'.heap.Ns cenv.locals m/\∀h',Heap.SameBut cenv.locals s'.heap h'->wpAny M A (passOn "comprehension.variables-let-go" x {cenv with scope:=relabel scope env}:Sem Value) (λυ υ=> False) E {s' with heap:=h'}:=by clear h h₁ h₂ h₃ h₄;cases use <;> exact hr
  obtain ⟨m,hn,hr⟩:=hr';exact of (wpAny_bind (wpAny_holding (wpAny_comp_letGo (cenv:={cenv with scope:=relabel scope env}) hkind _ s' m hv hn λh' m' υ hs'=> wpAny_mono (hr h' hs') (λυ υ f=> f.elim) λυ υ y=> y)))
end
section
variable {prog:Program} {w:World} {A:Around} {s:Shared} {R:Result->Shared->Prop} {env:Env}
theorem compLoop {elt target iter:PySem.Expr} {scope:Scope} {pos:Pos} {it acc:Value} (I:Nat->Shared->Prop)
  (turn:∀n s,I n s->wpAny (model prog w) A (pyNext it) (λr s₁=> match r with
   |none=> R (.ok .next) s₁
   |some v=> wpAny (model prog w) A (letOwnedTupleGo target it v) (λυ s₁'=> wpB (model prog w) A (assign target env v) (λυ s₂=> wpB (model prog w) A (eval elt env) (λx s₄=>
       wpAny (model prog w) A (PySem.call (.builtin "list.append") [acc,x]) (λυ s₅=>∃m,m < n/\I m s₅) (notedBy (model prog w) A env λe s'=> R (.error e) s') s₄) (notedBy (model prog w) A env λe s'=> R (.error e) s') s₂) (notedBy (model prog w) A env λe s'=> R (.error e) s') s₁') (notedBy (model prog w) A env λe s'=> R (.error e) s') s₁) (notedBy (model prog w) A env λe s'=> R (.error e) s') s)
  (n:Nat) (h:I n s):codeB (model prog w) A (.compLoop (.ListComp elt [⟨target,iter,[],0⟩] scope pos) 0 it acc env) R s:=by
 refine loop (λυ υ=> rfl) rfl I (λn s hI=> ?_) n h;show wpB _ A ((compTurn (.ListComp elt [⟨target,iter,[],0⟩] scope pos) 0 it acc env).onRaise (λx=> do noteFrame x env;theTreesLotGoes x)) _ _ s;refine Iv ?_;rw [compTurn_list];refine bind (standAt (Ar (wpAny_mono (turn n s hI) (λr s₁ h₁=> ?_) λυ υ h'=> h')));induction r using oC with
 |none=> exact pure h₁
 |some v=>
  refine Ar (wpAny_mono h₁ (λυ s₁' h₁'=> bind (mono h₁' (λυ s₂ h₂=> bind (pure ?_)) λυ υ h'=> h')) λυ υ h'=> h');refine bind (bind (mono h₂ (λx s₄ h₄=> Ar (wpAny_mono h₄ (λυ s₅ h₅=> pure (pure (.inl ⟨rfl,h₅⟩))) λυ υ h'=> h')) λυ υ h'=> h'))
theorem compStart {elt target iter:PySem.Expr} {ifs:List PySem.Expr} {rest:List Comprehension} {scope:Scope} {pos:Pos} {it acc:Value}
  (h0:codeB (model prog w) A (.compLoop (.ListComp elt (⟨target,iter,ifs,0⟩::rest) scope pos) 0 it acc env) R s)
  (h:wpAny (model prog w) A (pyIter it) (λit' s'=> codeB (model prog w) A (.compLoop (.ListComp elt (⟨target,iter,ifs,0⟩::rest) scope pos) 0 it' acc env) R s') (notedBy (model prog w) A env λx s'=> R (.error x) s') s):
  codeB (model prog w) A (.compStart (.ListComp elt (⟨target,iter,ifs,0⟩::rest) scope pos) 0 it acc env) R s:=by
 refine ofTree (λυ υ=> rfl) ?_;show wpB _ _ ((PySem.compStart (.ListComp elt (⟨target,iter,ifs,0⟩::rest) scope pos) 0 it acc env).onRaise (λx=> do noteFrame x env;PySem.standAt theWindowsPlace)) _ _ s;refine VB ?_;unfold PySem.compStart;show wpB _ _ (ask >>=_) _ _ s;refine Ar (wpAny_askSetting ?_)
 split
 ·exact bind (pure (pure (And.intro rfl h0)))
 ·exact Ar (wpAny_rule (bind (standAt (Ar (wpAny_mono h (λit' s' h'=> pure (And.intro rfl h')) λυ υ x=> x)))))
end
end Bw
noncomputable def Cx.inner (C:Cx) (sc:Scope) (cl:List (Str × Addr)) (L:Addr) (ns:List (Option Nat)):Cx:={C with env:=compEnvC sc cl L C.env,my:= [L],ns:=ns}
def TZ (sks:NN) (o:Option Nat):Option Nat:=o.bind λn=> if lkp sks n=some 2 then some n else none
def Bn (sks:NN) (ns:List (Option Nat)) (nt:Nat):List (Option Nat):=ns.map (TZ sks) ++ [some nt]
noncomputable def JF (sks:NN):NN:=sks.map λq=> if q.2=2 then (q.1,1) else q
theorem Ld {sks:NN} {n:Nat}:lkp (JF sks) n=(lkp sks n).map λk=> if k=2 then 1 else k:=by
 induction sks with
 |nil=> rfl
 |cons q r ih=>
  show lkp ((if q.2=2 then (q.1,1) else q)::JF r) n=_;rw [FX,FX];have e1:(if q.2=2 then (q.1,1) else q).1=q.1:=by split <;> rfl
  have e2:(if q.2=2 then (q.1,1) else q).2=if q.2=2 then 1 else q.2:=by split <;> rfl
  rw [e1,e2]
  split
  ·rfl
  ·exact ih
theorem Gx {sks:NN} {ns:List (Option Nat)} {nt k n:Nat} (e:nth (Bn sks ns nt) k=some (some n)):(k < ns.length/\nth ns k=some (some n)/\lkp sks n=some 2)\/(k=ns.length/\n=nt):=by
 rcases CZ e with ⟨h1,h2⟩ |⟨h1,h2⟩
 ·rw [List.length_map] at h1;rw [AL,List.getElem?_map] at h2;obtain ⟨o,h3,h4⟩:=Option.map_eq_some_iff.mp h2;unfold TZ at h4;obtain ⟨m,h5,h6⟩:=Option.bind_eq_some_iff.mp h4
  split at h6
  ·clear h4;cases h6;subst h5;exact .inl ⟨h1,by rw [AL];exact h3,by assumption⟩
  ·exact nomatch h6
 ·rw [List.length_map] at h1;exact .inr ⟨h1,sIj h2⟩
structure BZ (C:Cx) (sks:NN) (sc:Scope) (nt:Nat):Prop where
 kind:sc.kind= .function
 names:sc.names=D6 C.T sks
 lt:∀q ∈ sks,q.1 < C.T.cnt
 free:∀q ∈ sks,q.2=2->C.env.kindOf (C.T.nm q.1)=some .cell/\∃c,C.env.cells.lookup (C.T.nm q.1)=some c
 nocell:∀q ∈ sks,q.2 ≠ 1
 loc:∀q ∈ sks,q.2=0->lkp sks q.1=some 0
 tgt:lkp sks nt=some 0
theorem kind_free {k:Nat} (h:Bp k= .free):k=2:=by
 match k with
 |0=> cases h
 |1=> cases h
 |2=> rfl
 |3=> cases h
 |n + 4=> cases h
theorem Rw {k:Nat} (h:Bp k= .local):k=0:=by
 match k with
 |0=> rfl
 |1=> cases h
 |2=> cases h
 |3=> cases h
 |n + 4=> cases h
theorem Ox {env:Env} {names:List (Str × NameKind)} (h:∀x ∈ names,x.2= .free->∃c,env.cells.lookup x.1=some c):∀cs0:List (Str × Addr),∃cl,(forIn names cs0 (λx cs=> if (x.2==NameKind.free)=true then do let c <- cellOf env x.1;pure (ForInStep.yield ((x.1,c)::cs)) else pure (ForInStep.yield cs)):Sem (List (Str × Addr)))=pure cl/\
  (∀y c,cl.lookup y=some c->cs0.lookup y=some c\/env.cells.lookup y=some c)/\∀y,((y,NameKind.free) ∈ names\/(cs0.lookup y).isSome=true)->(cl.lookup y).isSome=true:=by
 induction names with
 |nil=> exact λcs0=> ⟨cs0,rfl,λυ υ=> .inl,λy q=> q.elim (λz=> nomatch z) id⟩
 |cons p r ih=>
  intro cs0;have ih:=ih λx hx=> h x (.tail _ hx)
  obtain ⟨n,k⟩:=p;rw [List.forIn_cons];by_cases hk:k= .free
  ·subst hk;obtain ⟨c,hc⟩:=h _ (.head _) rfl;have e1:cellOf env n=pure c:=by unfold cellOf;rw [hc]
   obtain ⟨cl,g1,g2,g3⟩:=ih ((n,c)::cs0);refine ⟨cl, ?_,λy c' e=> ?_,λy q=> g3 y ?_⟩
   ·simp only [beq_self_eq_true,if_true,e1,pure_bind];exact g1
   ·rcases g2 y c' e with z |z
    ·rw [List.lookup_cons] at z;by_cases hy:y=n
     ·clear e e1 g1 g2 g3 h;subst hy;rw [beq_self_eq_true] at z;cases z;exact .inr hc
     ·rw [beq_eq_false_iff_ne.mpr hy] at z;exact .inl z
    ·exact .inr z
   ·rw [List.lookup_cons];by_cases hy:y=n
    ·clear e1 g1 g2 g3 h hc q;subst hy;rw [beq_self_eq_true];exact .inr rfl
    ·rw [beq_eq_false_iff_ne.mpr hy];refine q.imp (λz=> ?_) id;rcases mCo z with z |z
     ·clear e1 g1 g2 g3 h hc q;cases z;exact absurd rfl hy
     ·exact z
  ·obtain ⟨cl,g1,g2,g3⟩:=ih cs0;have hk':(k==NameKind.free)=false:=beq_eq_false_iff_ne.mpr hk;refine ⟨cl, ?_,g2,λy q=> g3 y (q.imp (λz=> ?_) id)⟩
   ·simp only [hk',Bool.false_eq_true,if_false,pure_bind];exact g1
   ·rcases mCo z with z |z
    ·clear g1 g2 g3 h hk' q;cases z;exact absurd rfl hk
    ·exact z
section
variable {C:Cx} {sks:NN} {sc:Scope} {nt:Nat}
theorem BZ.closure (Y:BZ C sks sc nt):E13 (λcl=> closureFor sc C.env=pure cl) (λcl=> (∀y c,cl.lookup y=some c->C.env.cells.lookup y=some c)) (λcl=>∀q ∈ sks,q.2=2->∃c,cl.lookup (C.T.nm q.1)=some c):=by
 obtain ⟨cl,h1,h2,h3⟩:=Ox (env:=C.env) (names:=sc.names) (λx hx hk=> by
  rw [Y.names] at hx;obtain ⟨q,hq,rfl⟩:=List.mem_map.mp hx;exact (Y.free q hq (kind_free hk)).2) []
 refine ⟨cl, ?_,λy c e=> (h2 y c e).resolve_left (λz=> nomatch z),λq hq hk=> Option.isSome_iff_exists.mp (h3 _ (.inl ?_))⟩
 ·show (forIn sc.names [] _ >>=λcs=> pure cs)=_;rw [bind_pure];exact h1
 ·rw [Y.names];exact List.mem_map.mpr ⟨q,hq,by rw [hk];rfl⟩
theorem BZ.Zc (Y:BZ C sks sc nt) (O:C.Ok):(relabel sc C.env).names=D6 C.T (JF sks):=by
 show sc.names.map _=_;rw [Y.names];unfold D6 JF;rw [List.map_map,List.map_map];refine List.map_congr_left λq hq=> ?_
 show (if (Bp q.2==NameKind.free && C.env.scope.kind== .function && C.env.kindOf (C.T.nm q.1)==some .cell)=true then _ else _)=_;by_cases hk:q.2=2
 ·rw [hk,O.kind,(Y.free q hq hk).1];simp [Bp,hk]
 ·have:(Bp q.2==NameKind.free)=false:=beq_eq_false_iff_ne.mpr λz=> hk (kind_free z)
  rw [this];simp [hk]
theorem BZ.He (Y:BZ C sks sc nt) (O:C.Ok) {cl:List (Str × Addr)} {L:Addr}:(C.inner sc cl L (Bn sks C.ns nt)).Sc (JF sks):=
 ⟨Y.Zc O,λq hq=> by
  obtain ⟨p,hp,rfl⟩:=List.mem_map.mp hq
  split
  ·exact Y.lt p hp
  ·exact Y.lt p hp⟩
theorem BZ.ok (Y:BZ C sks sc nt) (B:C.toBase.Ok) (O:C.Ok) {cl:List (Str × Addr)} {L:Addr} (hc:∀y c,cl.lookup y=some c->C.env.cells.lookup y=some c):(C.inner sc cl L (Bn sks C.ns nt)).Ok:=by
 refine ⟨O.top,O.fr,.head _,O.glob,O.bi,Y.kind,λk n e=> ?_,λa ha hne=> absurd (mSg ha) hne,λa υ ha=> mSg ha,λk k' n n' e e' h=> ?_,O.units,λy y' c h h'=> O.cinj y y' c (hc y c h) (hc y' c h'),O.guards⟩
 ·rcases Gx e with ⟨_,h,_⟩ |⟨_,rfl⟩
  ·exact O.names k n h
  ·have:=B.names.plain n (Y.lt _ (AY Y.tgt));exact ⟨this.1,this.2.1⟩
 ·rcases Gx e with ⟨h0,h1,h2⟩ |⟨h1,h2⟩ <;> rcases Gx e' with ⟨h0',h1',h2'⟩ |⟨h1',h2'⟩
  ·exact O.apart k k' n n' h1 h1' h
  ·have:=B.names.inj n n' (Y.lt _ (AY h2)) (h2'▸Y.lt _ (AY Y.tgt)) h;rw [this,h2',Y.tgt] at h2;exact nomatch h2
  ·have:=B.names.inj n n' (h2▸Y.lt _ (AY Y.tgt)) (Y.lt _ (AY h2')) h;rw [<- this,h2,Y.tgt] at h2';exact nomatch h2'
  ·exact h1.trans h1'.symm
theorem BZ.enter (Y:BZ C sks sc nt) (B:C.toBase.Ok) (O:C.Ok) {x:Wx} {l:LL} {h h₀:Heap} (i:In C x l h) {cl:List (Str × Addr)} {L:Addr} (hc:∀y c,cl.lookup y=some c->C.env.cells.lookup y=some c) (hcl:∀q ∈ sks,q.2=2->∃c,cl.lookup (C.T.nm q.1)=some c)
  (k:Keeps h h₀) (hL:lv h <= L) {m:Str->Option Value} (hn:h₀.Ns L m):In (C.inner sc cl L (Bn sks C.ns nt)) (x.An [L]) (put l C.ns.length none) h₀:=by
 have fr:∀a ∈ [L],lv h <= a/\a < lv h₀:=λa m=> by rw [mSg m];exact ⟨hL,Cu hn⟩
 have fz:=i.K8 (L:= [L]) k λa m=> (fr a m).1
 have no:∀a ∈ [L],¬ x.owned a:=λa m q=> Nat.not_lt.mpr (fr a m).1 (i.wd.fit a (i.wd.DQ q))
 refine ⟨i.wd.An k (EH k) fr,⟨m,hn⟩,λk' n w h1 h2=> ?_,λy c e=> ?_,λa m=> ⟨.inr m,no a m⟩,λe he=> ?_⟩
 ·rw [Df] at h2;rcases Gx h1 with ⟨g0,g1,g2⟩ |⟨rfl,_⟩
  ·rw [if_neg (Nat.ne_of_gt g0)] at h2;obtain ⟨v,hv,r⟩:=i.loc k' n w g1 h2;refine ⟨v,.inr ⟨.inl ?_, ?_⟩,Rel.mono fz (Mu.le_refl _) r⟩
   ·exact Cx.Sc.kind (Y.He O) B.names (by rewrite [Ld,g2];rfl)
   ·have fk:=(Y.free _ (AY g2) rfl).1;rcases hv with ⟨a,_⟩ |⟨_,c,b,q⟩
    ·rw [fk] at a;exact nomatch a
    ·obtain ⟨c',hc'⟩:=hcl _ (AY g2) rfl;have:=hc _ _ hc';rw [b] at this;clear h1;cases this;exact ⟨c,hc',HB (λo e=> k _ o e) q⟩
  ·rw [if_pos rfl] at h2
   split at h2
   ·exact nomatch h2
   ·exact nn h2
 ·obtain ⟨z1,z2,v,q⟩:=i.cell y c (hc y c e);exact ⟨.inl z1,z2,v,HB (λo e=> k _ o e) q⟩
 ·obtain ⟨a,b,m,c,d,q1,q2⟩:=i.frames e he;exact ⟨a,b,m,c,d.keeps k,.inl q1,q2⟩
end
structure Ks (turn:W->List O->R (Option W)) (vals:Nat->List O->Option (Option W)) (N:Nat) (F:Nat->List W->List O->R (List W)):Prop where
 turn:∀k,k < N->∀acc σ,F k acc σ=Option.rec (.stuck 51) (λx=> Option.rec (.ok acc σ) (λx=> (turn x σ).bind λy σ=> Option.rec (F (k + 1) acc σ) (λy=> F (k + 1) (acc ++ [y]) σ) y) x) (vals k σ)
 last:∀acc σ,∃n,F N acc σ= .stuck n
def KS (turn:W->List O->R (Option W)) (ws:List W) (k:Nat):List W->List O->R (List W):=λacc σ=> if k <= ws.length then Dc turn (ws.drop k) acc σ else .stuck 0
theorem Qj {turn:W->List O->R (Option W)} {ws:List W}:Ks turn (D7 ws) (ws.length + 1) (KS turn ws):=by
 refine ⟨λk hk acc σ=> ?_,λl σ=> ⟨0,if_neg (Nat.not_succ_le_self _)⟩⟩;have e:∀{k},k <= ws.length->KS turn ws k=Dc turn (ws.drop k):=λh=> by funext a b;exact if_pos h
 rw [e (Nat.le_of_lt_succ hk)];unfold D7;generalize h:nth ws k=x9;induction x9 using oC with
 |none=> rw [List.drop_eq_nil_of_le (DX h)];rfl
 |some w=>
  have hk':k < ws.length:=Nat.lt_of_not_le λz=> by
   rw [AL,List.getElem?_eq_none_iff.mpr z] at h;exact nomatch h
  rw [AL,List.getElem?_eq_getElem hk'] at h;rw [List.drop_eq_getElem_cons hk',sIj h,e hk'];rfl
theorem SH {turn:W->List O->R (Option W)} {i:Nat} {f:Nat}:Ks turn (EM i false) f (λk=> Gu turn i (f - k) k):=by
 refine ⟨λk hk acc σ=> ?_,λl σ=> ⟨50,by show Gu turn i (f - f) f l σ=_;rw [Nat.sub_self];rfl⟩⟩;show Gu turn i (f - k) k acc σ=_;rw [show f - k=(f - (k + 1)) + 1 by lia];rfl
theorem NM {α:Type} (l:List α) (k:Nat) (a b:α):put (put l k a) k b=put l k b:=by rw [Cm,Cm,Cm,List.set_set]
section
variable {C:Cx}
def JL (C:Cx) (x0:Wx) (s0:Shared) (l0:LL) (D:Addr) (M:List Addr) (L0:Addr) (R':Result->Shared->Prop) (N:Nat) (r:R (List W)):Prop:=match r with
 | .ok ws σ=>∀vs s' x',x'.σ=σ->Go C x0 x' s0 s'->In C x' l0 s'.heap->¬ x'.owned D->s'.heap.PlainList D vs.toArray->AD C.T (Fz s'.heap x'.bad) x'.mu ws vs->ws.length <= N->R' (.ok .next) s'
 | .exc c fs σ=>∀e s' x' l',x'.σ=σ->Go C x0 x' s0 s'->In C x' l' s'.heap->D5 C.T x' s'.heap e c fs (some (rawInt L0))->R' (.error e) s'
 | .stuck _=> False
theorem Ju (oc:C.Ok) {L0:Addr} (hL0:C.fenv.frame=some L0) {I:Addr} {M:List Addr} {It:Nat->Heap->Prop} {Mid:Nat->Value->Heap->Prop} {Src:Wx->Heap->Prop} {vals:Nat->List O->Option (Option W)} {N kt:Nat} {l:LL} {f:SE} {F:Nat->List W->List O->R (List W)} {t elt iter:PySem.Expr} {sc:Scope} {pos:Pos} (W:Iter C t I M It Mid Src vals)
  (L:Ks (λx σ=> (f (put l kt (some x)) σ).bind λw σ=> .ok (some w) σ) vals N F) (T:F7 C t [kt]) (E:EOk C elt f) {D:Addr} (A:Dj C (D::M)) (DM:D ∉ M) (hN:N <= LIM + 1)
  {x x0:Wx} {s s0:Shared} {R':Result->Shared->Prop} (g0:Go C x0 x s0 s) (nw:∀a ∈ D::M,lv s0.heap <= a) (i0:In C x (put l kt none) s.heap) (ow0:Own x (D::M)) (it0:It 0 s.heap) (src0:Src x s.heap) (hD:s.heap.PlainList D #[])
  (ou:JL C x0 s0 (put l kt none) D M L0 R' N (F 0 [] x.σ)):codeB C.M C.A (.compLoop (.ListComp elt [⟨t,iter,[],0⟩] sc pos) 0 (.ref I) (.ref D) C.env) R' s:=by
 refine Bw.compLoop (λn s'=>∃k x' acc vs,k + n=N/\Go C x0 x' s0 s'/\In C x' (put l kt none) s'.heap/\Own x' (D::M)/\It k s'.heap/\Src x' s'.heap/\s'.heap.PlainList D vs.toArray/\AD C.T (Fz s'.heap x'.bad) x'.mu acc vs/\acc.length <= k/\JL C x0 s0 (put l kt none) D M L0 R' N (F k acc x'.σ)) (λn s' hI=> ?_) N ⟨0,x,[],[],Nat.zero_add N,g0,i0,ow0,it0,src0,hD,rfl,Nat.le_refl _,ou⟩;obtain ⟨k,x1,acc,vs,hk,g1,i1,w1,t1,c1,p1,r1,hz,u1⟩:=hI;have sub:∀{x:Wx},Own x (D::M)->Own x M:=λw=> ⟨λa m=> w.bad a (.tail _ m),λa m=> w.no a (.tail _ m)⟩
 have kb2:∀{h h':Heap},Bf M h h'->Bf (D::M) h h':=λq b y n=> q b y λz=> n (.tail _ z)
 have pk:∀{h h':Heap} {ys:Array Value},h.PlainList D ys->(∀o,h.get? D=some o->h'.get? D=some o)->h'.PlainList D ys:=λ⟨n,e⟩ q=> ⟨n,q _ e⟩
 induction n with
 |zero=>
  obtain ⟨m,h⟩:=L.last acc x1.σ;rw [show k=N from hk,h] at u1;exact u1.elim
 |succ n=>
  rw [L.turn k (by lia)] at u1;generalize hv:vals k x1.σ=x9;induction x9 using oC with
  |none=> rw [hv] at u1;exact u1.elim
  |some r=>
   rw [hv] at u1;refine W.next i1.wd (sub w1) t1 c1 hv (λhr h' tk kp=> ?_) λw hr v h' tk kp t2 rv=> ?_
   ·clear hD hv ou ow0 sub;subst hr;obtain ⟨i2,fz⟩:=i1.step oc A w1 (kb2 kp);have u1:JL C x0 s0 (put l kt none) D M L0 R' N (.ok acc x1.σ):=u1;exact u1 vs {s' with heap:=h',toks:=tk} (x1.trim h') rfl (g1.step nw (kb2 kp)) i2 (w1.no D (.head _)) (pk p1 λo e=> kp D o DM e) (AD.mono fz (Mu.le_refl _) r1) (by lia)
   ·clear hD hv ou ow0 sub;subst hr;obtain ⟨i2,fz⟩:=i1.step oc A w1 (kb2 kp);have g2:Go C x0 (x1.trim h') s0 {s' with heap:=h',toks:=tk}:=g1.step nw (kb2 kp);have u1:JL C x0 s0 (put l kt none) D M L0 R' N (((f (put l kt (some w)) x1.σ).bind λw σ=> .ok (some w) σ).bind λy σ=> Option.rec (motive:=λυ=> R (List AR.W)) (F (k + 1) acc σ) (λy=> F (k + 1) (acc ++ [y]) σ) y):=u1;rw [R.assoc] at u1;have nfD:∀{h:Heap} {ys:Array Value},h.PlainList D ys->∃o,h.get? D=some o/\¬ CW o:=λ⟨n,e⟩=> ⟨_,e,λ⟨⟨_,z⟩,_⟩=> nomatch z⟩
    have both:∀{h:Heap} {ys:Array Value},h.PlainList D ys->(∀a ∈ M,∃o,h.get? a=some o/\¬ CW o)->∀a ∈ D::M,∃o,h.get? a=some o/\¬ CW o:=λp q a m=> by
     clear A DM kb2 nw p1 pk u1 w1;rcases mCo m with rfl |m
     ·exact nfD p
     ·exact q a m
    have p2:h'.PlainList D vs.toArray:=pk p1 λo e=> kp D o DM e
    have c2:Src (x1.trim h') h':=W.src fz (Mu.le_refl _) c1;have w2:Own (x1.trim h') (D::M):=w1.trim (both p2 (W.mid t2));have r2:AD C.T (Fz h' (x1.trim h').bad) (x1.trim h').mu acc vs:=AD.mono fz (Mu.le_refl _) r1;refine W.go (s:={s' with heap:=h',toks:=tk}) t2 λh3 kp3 t3=> ?_
    obtain ⟨i3,fz3⟩:=In.step (h:=h') oc i2 A w2 (kb2 kp3);have g3:Go C x0 ((x1.trim h').trim h3) s0 {s' with heap:=h3,toks:=tk}:=Go.step (s:={s' with heap:=h',toks:=tk}) g2 nw (kb2 kp3);have p3:h3.PlainList D vs.toArray:=pk p2 λo e=> kp3 D o DM e
    have w3:Own ((x1.trim h').trim h3) (D::M):=w2.trim (both p3 (W.fly t3));have rv:C.rel ((x1.trim h').trim h3) h3 v w:=Rel.mono (λa o e=> fz3 a o ⟨e.1,λq=> e.2 q.1⟩) (Mu.le_refl _) rv;have r3:=AD.mono fz3 (Mu.le_refl _) r2;refine T (s:={s' with heap:=h3,toks:=tk}) i3 rv rfl λs4 x4 ex g4 i4=> ?_
    rw [NM] at i4;obtain ⟨e4,w4⟩:=Go.machine (s:={s' with heap:=h3,toks:=tk}) g4 A w3 (both p3 (W.fly t3));have t4:It (k + 1) s4.heap:=W.keep (h:=h3) (λa m o e=> e4 a (.tail _ m) o e) t3;have p4:s4.heap.PlainList D vs.toArray:=pk p3 λo e=> e4 D (.head _) o e
    have fz4:=Go.fz (s:={s' with heap:=h3,toks:=tk}) i3 g4;have c4:Src x4 s4.heap:=W.src fz4 g4.mu (W.src fz3 (Mu.le_refl _) c2);have r4:=AD.mono fz4 g4.mu r3;refine E x4 _ s4 _ _ i4 ?_;have ez:x4.σ=x1.σ:=ex;rw [ez];generalize hf:f (put l kt (some w)) x1.σ=x9;induction x9 using R.casesOn with
    |stuck m=> rw [hf] at u1;exact u1.elim
    |exc c fs σ=>
     rw [hf] at u1;intro e s5 x5 z g5 i5 ex5;obtain ⟨L',hL',_⟩:=oc.fr;refine Ej oc i5 ex5 hL0 ?_ λx6 s6 z6 g6 i6 e6=> u1 e s6 x6 _ (z6.trans z) ((g3.trans g4).trans (g5.trans g6)) i6 e6
     obtain ⟨L',h1,h2⟩:=oc.fr;rw [h1,h2]
    |ok y σ=>
     rw [hf] at u1;have u1:JL C x0 s0 (put l kt none) D M L0 R' N (F (k + 1) (acc ++ [y]) σ):=u1;intro u s5 x5 z g5 i5 ru;obtain ⟨e5,w5⟩:=Go.machine g5 A w4 (both p4 (W.fly t4));have t5:It (k + 1) s5.heap:=W.keep (λa m o e=> e5 a (.tail _ m) o e) t4;have p5:s5.heap.PlainList D vs.toArray:=pk p4 λo e=> e5 D (.head _) o e
     have fz5:=Go.fz i4 g5;have c5:Src x5 s5.heap:=W.src fz5 g5.mu c4;have r5:=AD.mono fz5 g5.mu r4;have hsz:vs.toArray.size <= sizeLine:=by
      rw [List.size_toArray,AD.length r1,sizeLine_eq];have:LIM=4000000:=rfl;lia
     refine wpAny_list_append_plain (hsz:=hsz) p5 λh6 p6 sb6=> ?_
     have kp6:Bf (D::M) s5.heap h6:=λb o n e=> (sb6.2 b λz=> n (z▸ .head _)).trans e
     have kpM:∀a ∈ M,∀o,s5.heap.get? a=some o->h6.get? a=some o:=λa m o e=> (sb6.2 a λz=> DM (z▸m)).trans e
     obtain ⟨i6,fz6⟩:=i5.step oc A w5 kp6;have t6:It (k + 1) h6:=W.keep kpM t5;have w6:Own (x5.trim h6) (D::M):=w5.trim (both p6 (W.fly t6));have i7:=i6.forget kt;rw [NM] at i7;have p6':h6.PlainList D (vs ++ [u]).toArray:=by simpa using p6
     exact ⟨n,Nat.lt_succ_self _,k + 1,x5.trim h6,acc ++ [y],vs ++ [u],by lia,((g3.trans g4).trans g5).step nw kp6,i7,w6,t6,W.src fz6 (Mu.le_refl _) c5,p6',
      AD.append (AD.one (Rel.mono fz6 (Mu.le_refl _) ru)) (AD.mono fz6 (Mu.le_refl _) r5),by rw [List.length_append];simp;lia,by rw [show (x5.trim h6).σ=σ from z];exact u1⟩
end
noncomputable def Wx.Dp (x:Wx) (D:Addr):Wx:={x with bad:=λa=> x.bad a/\a ≠ D}
section
variable {C:Cx} {x x':Wx} {l:LL} {s s':Shared} {h:Heap} {D:Addr}
theorem In.Dp (O:C.Ok) (i:In C x l h) (A:Dj C [D]) (no:¬ x.owned D):In C (x.Dp D) l h:=by
 have fz:∀a o,Fz h x.bad a o->Fz h (x.Dp D).bad a o:=λa o e=> ⟨e.1,λq=> e.2 q.1⟩
 refine ⟨⟨λa o e=> (fz a o (i.wd.fz e)).1,λa o e=> (fz a o (i.wd.fz e)).2,λa q=> i.wd.fit a q.1,λj o e=> (i.wd.own j o e).mono fz (Mu.le_refl _) λυ υ=> rfl,λj o e a ha=> ⟨i.wd.ownB j o e a ha,λz=> no (z▸⟨j,o,e,ha⟩)⟩,i.wd.self,i.wd.sep⟩,i.dict,λk n w h1 h2=> ?_,λy c e=> ?_,λa ha=> ?_,λe he=> ?_⟩
 ·obtain ⟨v,hv,r⟩:=i.loc k n w h1 h2;exact ⟨v,hv,Rel.mono fz (Mu.le_refl _) r⟩
 ·obtain ⟨a,b,q⟩:=i.cell y c e;exact ⟨⟨a,λz=> A.cells y D (.head _) (z▸e)⟩,b,q⟩
 ·obtain ⟨a',b⟩:=i.mine a ha;exact ⟨⟨a',λz=> A.my D (.head _) (z▸ha)⟩,b⟩
 ·obtain ⟨a,b,m,c,d,q1,q2⟩:=i.frames e he;exact ⟨a,b,m,c,d,⟨q1,λz=> A.fr D (.head _) (z▸LW he c)⟩,q2⟩
theorem Go.Dp (g:Go C x x' s s') (hD:lv s.heap <= D):Go C x (x'.Dp D) s s':=
 ⟨⟨g.ext.keep,λa q=> g.ext.bads a q.1,g.ext.size⟩,g.mu,g.ow,g.ns,λa ha hb ho=> ⟨g.kb a ha hb ho,λz=> Nat.not_lt.mpr hD (z▸ha)⟩,g.gens,g.os⟩
theorem In.T4 (O:C.Ok) {sc:Scope} {cl:List (Str × Addr)} {L:Addr} {ns:List (Option Nat)} (i:In C x l s.heap) (g:Go (C.inner sc cl L ns) x x' s s') (W:Wd C.T C.hb x' s'.heap) (hL:lv s.heap <= L):Go C x x' s s'/\In C x' l s'.heap:=by
 have old:∀{b o},s.heap.get? b=some o->b ≠ L:=λe z=> Nat.not_lt.mpr hL (z▸Ak e)
 have oldN:∀{b m},s.heap.Ns b m->b ∉ [L]:=λe z=> Nat.not_lt.mpr hL (mSg z▸Cu e)
 have g0:Go C x x' s s':=⟨⟨λa o e n=> g.ext.keep a o e λq=> by
  rcases q with q |q |q |q
  ·exact n (.inl q)
  ·exact old e (mSg q)
  ·exact n (.inr (.inr (.inl q)))
  ·exact n (.inr (.inr (.inr q))),g.ext.bads,g.ext.size⟩,g.mu,g.ow,λa ha υ m e=> g.ns a ha (oldN e) m e,g.kb,g.gens,g.os⟩
 have keep':∀b o,s.heap.get? b=some o->¬ x.owned b->b ∉ C.fr->(∀ws,o.data ≠ .fields ws)->s'.heap.get? b=some o:=λb o e n1 n2 n3=> by
  refine g.ext.keep b o e λq=> ?_
  rcases q with q |q |q |q
  ·exact n1 q
  ·exact old e (mSg q)
  ·exact n2 q
  ·obtain ⟨_,o',e',⟨ws,d⟩,_⟩:=q;rw [e] at e';cases e';exact n3 ws d
 refine ⟨g0,i.after O g0 W (λb hm hnf o e=> keep' b o e (i.mine b hm).2 hnf λws d=> ?_) (λb hb m e=> g.ns b hb (oldN e) m e) λy b v e cl'=> ?_⟩
 ·by_cases hx:b=C.env.locals
  ·clear hnf;subst hx;obtain ⟨m,hm⟩:=i.dict;exact BR hm e d
  ·obtain ⟨y,hy⟩:=O.cellmine b hm hx;obtain ⟨_,_,v,o',e1,e2⟩:=i.cell y b hy;rw [e] at e1;clear hm hnf;cases e1;rw [d] at e2;cases e2
 ·obtain ⟨o,e1,e2⟩:=id cl';refine ⟨o,keep' b o e1 (i.cell y b e).2.1 (λhb=> ?_) (λws d=> by rw [e2] at d;cases d),e2⟩;obtain ⟨m,hm,_⟩:=i.frame hb;exact BQ hm cl'
end
theorem Iter.inner {C:Cx} {t:PySem.Expr} {I:Addr} {M:List Addr} {It:Nat->Heap->Prop} {Mid:Nat->Value->Heap->Prop} {Src:Wx->Heap->Prop} {vals:Nat->List O->Option (Option W)} {sc:Scope} {cl:List (Str × Addr)} {L:Addr} {ns:List (Option Nat)} (W:Iter C t I M It Mid Src vals):Iter (C.inner sc cl L ns) t I M It Mid Src vals:=
 ⟨W.fly,W.keep,W.src,W.next,W.mid,W.go,W.self⟩
def Cw (g:SE) (l:LL) (kt:Nat) (x:W) (σ:List O):R (Option W):=(g (put l kt (some x)) σ).bind λw σ=> .ok (some w) σ
theorem gn (g:SE) (l:LL) (kt:Nat):FP g [kt] [] l=Cw g l kt:=rfl
section
variable {C:Cx}
theorem QM (B:C.toBase.Ok) (O:C.Ok) (hh:C.A.handled=none) {sks:NN} {sc:Scope} {nt:Nat} {cl:List (Str × Addr)} (Y:BZ C sks sc nt) (hc:∀y c,cl.lookup y=some c->C.env.cells.lookup y=some c) (hcl:∀q ∈ sks,q.2=2->∃c,cl.lookup (C.T.nm q.1)=some c)
  {elt iter:PySem.Expr} {tp pos:Pos} {g:SE} (E0:∀L,(C.inner sc cl L (Bn sks C.ns nt)).Ok->EOk (C.inner sc cl L (Bn sks C.ns nt)) elt g) {it:It} (hen:∀i,it ≠ .dyn i true)
  {x1:Wx} {l:LL} {s1 s2:Shared} {v:Value} {use:Option (Value->Sem Unit)} {Q Q':VP} {E:VP} (i1:In C x1 l s1.heap) (Rd:Ready C (.Name (C.T.nm nt) tp) it x1 l s1 v s2)
  (o1:Out C x1 l s1 C.rel ((Co it (Cw g l C.ns.length) x1.σ).bind λvs σ=> mkL false vs σ) Q E)
  (fin:∀D L s' x' ws m,(Co it (Cw g l C.ns.length) x1.σ).bind (λvs σ=> mkL false vs σ)= .ok (.lst ws) x'.σ->Go C x1 x' s1 s'->In C x' l s'.heap->C.rel x' s'.heap (.ref D) (.lst ws)->lv s1.heap <= L->Dj C [L]->Own x' [L]->s'.heap.Ns L m->
   Gw C.M C.A E use Q' (.ref D) (compEnvC sc cl L C.env) (.ok .next) s'):
  wpAny C.M C.A (newList []) (λacc s₃=> wpAny C.M C.A (newFunctionEnv sc C.env.globals cl [] C.env.qual none .none (some C.env)) (λcenv s₄=>
   codeB C.M C.A (.compStart (.ListComp elt [⟨.Name (C.T.nm nt) tp,iter,[],0⟩] sc pos) 0 v acc {cenv with scope:=relabel sc C.env}) (Gw C.M C.A E use Q' acc {cenv with scope:=relabel sc C.env}) s₄) E s₃) E s2:=by
 obtain ⟨I,M,It,Mid,Src,rfl,W,g2,i2,ow,aw,nw,h0,sr,kp2⟩:=Rd;refine wpAny_newObj_type ?_;have hcell:∀y ∈ sc.names,y.2 ≠ .cell:=λy hy hk=> by
  rw [Y.names] at hy;clear W fin hen o1;obtain ⟨q,hq,rfl⟩:=List.mem_map.mp hy;refine Y.nocell q hq ?_;have hk:Bp q.2= .cell:=hk
  match h:q.2 with
  |0=> rw [h] at hk;clear hy;cases hk
  |1=> rfl
  |2=> rw [h] at hk;clear hy;cases hk
  |3=> rw [h] at hk;clear hy;cases hk
  |n + 4=> rw [h] at hk;clear hy;cases hk
 refine wpAny_newFunctionEnv hcell (λy hy=> nomatch hy) (λh₁ hns hsb=> ?_) Y.kind;dsimp only at hns hsb;have eD:({cls:= .type "list",dict:=none,data:= .seq ([]:List Value).toArray}:AN)=AI [] 0:=rfl;rw [eD] at hns hsb;have kD:=Ab s2.heap (AI [] 0);have szD:(s2.heap.push (AI [] 0)).objs.size=s2.heap.objs.size + 1:=Heap.size_push ..;have gD:(s2.heap.push (AI [] 0)).get? s2.heap.objs.size=some (AI [] 0):=Heap.get?_push_size _ rfl;have neL:∀{b o},(s2.heap.push (AI [] 0)).get? b=some o->b ≠ (s2.heap.push (AI [] 0)).objs.size:=λe=> Nat.ne_of_lt (Heap.lt_size e)
 have kL:Keeps (s2.heap.push (AI [] 0)) h₁:=λb o e=> hsb.extBut b o (neL e) (Heap.get?_push_of_some _ e)
 have kp:Keeps s1.heap h₁:=λb o e=> kL b o (kD b o (kp2 b o e))
 have live2:∀a ∈ M,∃o,s2.heap.get? a=some o/\¬ CW o:=W.fly h0;obtain ⟨g3,i3,ow3⟩:=i2.fresh (M:= [s2.heap.objs.size]) O kD (λa m=> by rw [mSg m];exact ⟨Al _,Ak gD⟩);have hDlv:lv s1.heap <= s2.heap.objs.size:=Nat.le_trans (EH kp2) (Al _);have hLlv:lv s1.heap <= (s2.heap.push (AI [] 0)).objs.size:=by rw [szD];exact Nat.le_succ_of_le hDlv
 have i4:=Y.enter B O i3 hc hcl kL (Al _) hns;have Oi:(C.inner sc cl (s2.heap.push (AI [] 0)).objs.size (Bn sks C.ns nt)).Ok:=Y.ok B O hc;have nwD:∀a ∈ s2.heap.objs.size::M,lv s1.heap <= a:=λa m=> by
  clear W fin hen o1;rcases mCo m with rfl |m
  ·exact hDlv
  ·exact nw a m
 have AwC:Dj C (s2.heap.objs.size::M):=i1.away nwD;have ltL:∀a ∈ s2.heap.objs.size::M,a ≠ (s2.heap.push (AI [] 0)).objs.size:=λa m=> by
  clear W fin hen o1;rcases mCo m with rfl |m
  ·exact neL gD
  ·obtain ⟨o,e,_⟩:=live2 a m;exact neL (kD a o e)
 have Aw:Dj (C.inner sc cl (s2.heap.push (AI [] 0)).objs.size (Bn sks C.ns nt)) (s2.heap.objs.size::M):=
  ⟨λa m z=> ltL a m (mSg z),λa m z=> AwC.fr a m z,λy a m z=> AwC.cells y a m (hc _ _ z)⟩
 have DM:s2.heap.objs.size ∉ M:=λm=> by
  obtain ⟨o,e,_⟩:=live2 _ m;exact Nat.lt_irrefl _ (Heap.lt_size e)
 have AwL:Dj C [(s2.heap.push (AI [] 0)).objs.size]:=i1.away λa m=> by rw [mSg m];exact hLlv
 obtain ⟨L0,hL0,hL0'⟩:=O.fr;have g4:Go (C.inner sc cl (s2.heap.push (AI [] 0)).objs.size (Bn sks C.ns nt)) x1 (((x1.An M).An [s2.heap.objs.size]).An [(s2.heap.push (AI [] 0)).objs.size]) s1 {s2 with heap:=h₁,toks:=s2.toks + ([]:List (Str × Value)).length}:=
  ⟨⟨λa o e υ=> kp a o e,λa q=> by
   rcases q with ((q |q) |q) |q
   ·exact .inl q
   ·exact .inr (nw a q)
   ·exact .inr (nwD a (mSg q▸ .head _))
   ·exact .inr (mSg q▸hLlv),Cf kp⟩,Mu.le_refl _,λa=> .inl,λa υ υ m e=> e.keeps kp,λa υ q υ=> .inl (.inl (.inl q)),g2.gens,g2.os⟩
 have ow4:Own (((x1.An M).An [s2.heap.objs.size]).An [(s2.heap.push (AI [] 0)).objs.size]) (s2.heap.objs.size::M):=⟨λa m=> by
  clear W fin hen o1;rcases mCo m with rfl |m
  ·exact .inl (ow3.bad _ (.head _))
  ·exact .inl (.inl (ow.bad a m)),λa m=> by
  clear W fin hen o1;rcases mCo m with rfl |m
  ·exact ow3.no _ (.head _)
  ·exact ow.no a m⟩
 have h1:It 0 h₁:=W.keep (λa m o e=> kL a o (kD a o e)) h0;have src1:Src (((x1.An M).An [s2.heap.objs.size]).An [(s2.heap.push (AI [] 0)).objs.size]) h₁:=W.src (i3.K8 kL λa m=> by rw [mSg m];exact Al _) (Mu.le_refl _) (W.src (Go.fz (s':={s2 with heap:=s2.heap.push (AI [] 0)}) i2 g3) g3.mu sr);have T1:F7 (C.inner sc cl (s2.heap.push (AI [] 0)).objs.size (Bn sks C.ns nt)) (.Name (C.T.nm nt) tp) [C.ns.length]:=Pn Oi (k:=C.ns.length) (n:=nt) (by
   show nth (C.ns.map (TZ sks) ++ [some nt]) C.ns.length=_;rw [AL,List.getElem?_append_right (by rw [List.length_map];exact Nat.le_refl _),List.length_map,Nat.sub_self];rfl)
  (.inl (Cx.Sc.kind (Y.He O) B.names (by rewrite [Ld,Y.tgt];rfl)))
 have behind:∀{N:Nat} {r:R (List AR.W)},N <= LIM + 1->(Co it (Cw g l C.ns.length) x1.σ).bind (λvs σ=> mkL false vs σ)=r.bind (λvs σ=> mkL false vs σ)->
   JL (C.inner sc cl (s2.heap.push (AI [] 0)).objs.size (Bn sks C.ns nt)) x1 s1 (put l C.ns.length none) s2.heap.objs.size M L0 (Gw C.M C.A E use Q' (.ref s2.heap.objs.size) (compEnvC sc cl (s2.heap.push (AI [] 0)).objs.size C.env)) N r:=λ{N r} hN hr=> by
  have o:=o1;rw [hr] at o;induction r using R.casesOn with
  |stuck n=> exact o
  |ok ws σ=>
   intro vs s' x' z gi ii nD pl rs hz;obtain ⟨gc,ic⟩:=In.T4 O i1 gi ii.wd hLlv;have mL:=ii.mine _ (.head _);obtain ⟨m,hm⟩:=ii.dict;have AwD:Dj C [s2.heap.objs.size]:=⟨λa q=> AwC.my a (mSg q▸ .head _),λa q=> AwC.fr a (mSg q▸ .head _),λy a q=> AwC.cells y a (mSg q▸ .head _)⟩;have gu:=gc.Dp (D:=s2.heap.objs.size) hDlv;have iu:=ic.Dp O AwD nD;have fz:∀a o,Fz s'.heap x'.bad a o->Fz s'.heap (x'.Dp s2.heap.objs.size).bad a o:=λa o e=> ⟨e.1,λq=> e.2 q.1⟩
   obtain ⟨n,pl⟩:=pl;have o:Out C x1 l s1 C.rel (mkL false ws σ) Q E:=o;unfold mkL at o;generalize hb:Nat.ble ws.length LIM=x9;induction x9 using bC with
   |false=> rw [hb] at o;exact o.elim
   |true=>
    rw [hb] at o;have z1:(x'.Dp s2.heap.objs.size).σ=σ:=z;refine fin s2.heap.objs.size _ s' (x'.Dp s2.heap.objs.size) ws m (by rw [hr,z1];show mkL false ws σ=_;unfold mkL;rw [hb]) gu iu ⟨s2.heap.objs.size,vs,n,rfl,⟨pl,λq=> q.2 rfl⟩,lBl hb,AD.mono fz (Mu.le_refl _) rs⟩ hLlv AwL ⟨λa q=> ?_,λa q=> ?_⟩ hm
    ·rw [mSg q];exact ⟨mL.1,Ne.symm (neL gD)⟩
    ·rw [mSg q];exact mL.2
  |exc c fs σ=>
   intro e s' x' l' z gi ii ex;have o:Out C x1 l s1 C.rel (.exc c fs σ) Q E:=o;obtain ⟨gc,ic⟩:=In.T4 O i1 gi ii.wd hLlv;have mL:=ii.mine _ (.head _);obtain ⟨m,hm⟩:=ii.dict;have owL:Own x' [(s2.heap.push (AI [] 0)).objs.size]:=⟨λa q=> by rw [mSg q];exact mL.1,λa q=> by rw [mSg q];exact mL.2⟩;have post:∃m,s'.heap.Ns (compEnvC sc cl (s2.heap.push (AI [] 0)).objs.size C.env).locals m/\∀h',Heap.SameBut (compEnvC sc cl (s2.heap.push (AI [] 0)).objs.size C.env).locals s'.heap h'->wpAny C.M C.A (passOn "comprehension.variables-let-go" e (compEnvC sc cl (s2.heap.push (AI [] 0)).objs.size C.env):Sem Value) (λυ υ=> False) E {s' with heap:=h'}:=by
    refine ⟨m,hm,λh' hs=> ?_⟩;have kpL:Bf [(s2.heap.push (AI [] 0)).objs.size] s'.heap h':=λb o n e1=> (hs.2 b λq=> n (q▸ .head _)).trans e1
    obtain ⟨i5,fz5⟩:=ic.step O AwL owL kpL;have g5:Go C x1 (x'.trim h') s1 {s' with heap:=h'}:=gc.step (tk:=s'.toks) (λa q=> by rw [mSg q];exact hLlv) kpL;clear W fin hen hr o1;obtain ⟨a,oe,vs,d,es,n,rfl,e1,e2,e3,e4,e5,e6,e7,e8,e9,t,oT,ts,t1,t2,⟨t3,t3'⟩,t4,t5,t6,t7⟩:=ex;have e1':h'.get? a=some oe:=(hs.2 a λq=> BR hm (q▸e1) e3).trans e1;have t3n:h'.get? t=some oT:=(hs.2 t λq=> BR hm (q▸t3) t4).trans t3;have ex5:D5 C.T (x'.trim h') h' (.ref a) c fs (some (rawInt L0)):=⟨a,oe,vs,d,es,n,rfl,e1',e2,e3,e4,e5,fz5 _ _ e6,Af.mono fz5 (Mu.le_refl _) e7,⟨e8,Ak e1'⟩,e9,t,oT,ts,t1,t2,⟨t3n,t3'⟩,t4,t5,⟨t6,Ak t3n⟩,t7⟩;unfold PySem.passOn;refine wpAny_bind (wpAny_field e1' e3 t1 ?_);rw [if_neg (by simp)];refine wpAny_bind ?_;show wpAny _ _ (setFlight (.ref a) C.env.frame) _ _ _;rw [hL0'];refine Cd (s:={s' with heap:=h'}) O i5 ex5 (some L0) λx6 s6 z6 g6 i6 e6=> wpAny_throw (o (.ref a) s6 x6 (z6.trans z) (g5.trans g6) i6 ⟨_,e6,.inr (.inr ⟨L0,hL0,rfl⟩)⟩)
   clear W fin hen hr o1;cases use <;> exact post
 have loop:codeB C.M C.A (.compLoop (.ListComp elt [⟨.Name (C.T.nm nt) tp,iter,[],0⟩] sc pos) 0 (.ref I) (.ref s2.heap.objs.size) (compEnvC sc cl (s2.heap.push (AI [] 0)).objs.size C.env)) (Gw C.M C.A E use Q' (.ref s2.heap.objs.size) (compEnvC sc cl (s2.heap.push (AI [] 0)).objs.size C.env)) {s2 with heap:=h₁,toks:=s2.toks + ([]:List (Str × Value)).length}:=by
  have pD:h₁.PlainList s2.heap.objs.size #[]:=⟨0,kL _ _ gD⟩;cases it with
  |vals ws=>
   have o2:Out C x1 l s1 C.rel ((Bool.rec (motive:=λυ=> R (List AR.W)) (.stuck 77) (Dc (Cw g l C.ns.length) ws [] x1.σ) (Nat.ble ws.length LIM):R (List AR.W)).bind λvs σ=> mkL false vs σ) Q E:=o1;generalize hb:Nat.ble ws.length LIM=x9;induction x9 using bC with
   |false=> rw [hb] at o2;exact o2.elim
   |true=>
    have hz:=lBl hb;have e:KS (Cw g l C.ns.length) ws 0 [] x1.σ=Dc (Cw g l C.ns.length) ws [] x1.σ:=if_pos (Nat.zero_le _);have e2:Co (.vals ws) (Cw g l C.ns.length) x1.σ=KS (Cw g l C.ns.length) ws 0 [] x1.σ:=by
     show (Bool.rec (motive:=λυ=> R (List AR.W)) (.stuck 77) (Dc (Cw g l C.ns.length) ws [] x1.σ) (Nat.ble ws.length LIM):R (List AR.W))=_;rw [hb,e]
    exact Ju (C:=C.inner sc cl (s2.heap.push (AI [] 0)).objs.size (Bn sks C.ns nt)) (l:=l) Oi hL0 W.inner (Qj (turn:=Cw g l C.ns.length)) T1 (E0 _ Oi) Aw DM (Nat.succ_le_succ hz) g4 nwD i4 ow4 h1 src1 pD (behind (Nat.succ_le_succ hz) (congrArg (λz:R (List AR.W)=> z.bind λvs σ=> mkL false vs σ) e2))
  |dyn j en=>
   induction en using bC with
   |true=> exact absurd rfl (hen j)
   |false=>
    exact Ju (C:=C.inner sc cl (s2.heap.push (AI [] 0)).objs.size (Bn sks C.ns nt)) (l:=l) Oi hL0 W.inner (SH (turn:=Cw g l C.ns.length) (f:=fuel)) T1 (E0 _ Oi) Aw DM (show fuel <= LIM + 1 by decide) g4 nwD i4 ow4 h1 src1 pD (behind (show fuel <= LIM + 1 by decide) rfl)
 exact Bw.compStart loop (W.self (s:={s2 with heap:=h₁,toks:=s2.toks + ([]:List (Str × Value)).length}) h1 loop)
end
theorem Zn {w:W} {σ:List O} {it:It} (e:EP 0 w σ=some it):∀i,it ≠ .dyn i true:=by
 rcases AX (show orO (ob (H0 w) λl=> some (It.vals l)) (ob (listAt σ w) λi=> some (.dyn i false))=some it from e) with e |e
 ·obtain ⟨_,_,e⟩:=AA e;cases e;exact λυ=> nofun
 ·obtain ⟨_,_,e⟩:=AA e;cases e;exact λυ=> nofun
section
variable {C:Cx}
theorem OQ {sks:NN} {sc:Scope} {nt:Nat} (B:C.toBase.Ok) (Y:BZ C sks sc nt):∀x ∈ sc.names,x.2= .local->sc.names.lookup x.1=some .local:=λx hx hk=> by
 rw [Y.names] at hx ⊢;obtain ⟨q,hq,rfl⟩:=List.mem_map.mp hx;exact BM B.names Y.lt (Y.loc q hq (Rw hk))
theorem HQ (B:C.toBase.Ok) (O:C.Ok) (hh:C.A.handled=none) {sks:NN} {sc:Scope} {nt:Nat} (Y:BZ C sks sc nt) {elt iter:PySem.Expr} {tp pos fpos:Pos} {g f:SE} (D:EOk C iter f) (hs:∀x,foldedSetIterable iter C.env x=pure x)
  (E0:∀cl L,(C.inner sc cl L (Bn sks C.ns nt)).Ok->EOk (C.inner sc cl L (Bn sks C.ns nt)) elt g) {x:Wx} {l:LL} {s:Shared} {use:Option (Value->Sem Unit)} {Q':VP} {E:VP} {β:Type} {rel:Wx->Heap->β->W->Prop} {Q0:β->Shared->Prop} (i:In C x l s.heap)
  (o:Out C x l s rel (EG g [C.ns.length] 0 f [] false l x.σ) Q0 E)
  (fin:∀x1 s1 D L cl s' x' ws m,EG g [C.ns.length] 0 f [] false l x.σ= .ok (.lst ws) x'.σ->Go C x x1 s s1->Go C x1 x' s1 s'->In C x' l s'.heap->C.rel x' s'.heap (.ref D) (.lst ws)->lv s1.heap <= L->Dj C [L]->Own x' [L]->s'.heap.Ns L m->
   Gw C.M C.A E use Q' (.ref D) (compEnvC sc cl L C.env) (.ok .next) s'):
  wpB C.M C.A (PySem.comprehension (.ListComp elt [⟨.Name (C.T.nm nt) tp,iter,[],0⟩] sc pos) sc C.env fpos (newList []) false (eval iter C.env) use) Q' E s:=by
 obtain ⟨cl,hclos,hc,hcl⟩:=Y.closure;have e0:EG g [C.ns.length] 0 f [] false l x.σ=(f l x.σ).bind λw σ=> kR 78 (ob (EP 0 w σ) λi=> some ((Co i (FP g [C.ns.length] [] l) σ).bind λvs σ=> mkL false vs σ)):=rfl
 refine Bw.comprehension rfl hs hclos Y.kind (OQ B Y) (D x l s _ _ i ?_);rw [e0] at o fin;generalize hf:f l x.σ=x9;induction x9 using R.casesOn with
 |stuck n=> rw [hf] at o;exact o
 |exc c fs σ=> rw [hf] at o;exact o
 |ok w σ=>
  rw [hf] at o fin;intro v s1 x1 z g1 i1 r1;have z:x1.σ=σ:=z;have o:Out C x l s rel (kR 78 (ob (EP 0 w σ) λi=> some ((Co i (FP g [C.ns.length] [] l) σ).bind λvs σ=> mkL false vs σ))) Q0 E:=o;obtain ⟨y,h,o⟩:=Dw o;obtain ⟨it,hm,h2⟩:=AA h;clear h;cases h2;rw [<- z] at o hm;have o:=Out.shift g1 o;have o2:Out C x1 l s1 C.rel ((Co it (FP g [C.ns.length] [] l) x1.σ).bind λvs σ=> mkL false vs σ) (λυ υ=> True) E:=by
   cases hr:(Co it (FP g [C.ns.length] [] l) x1.σ).bind λvs σ=> mkL false vs σ with
   |stuck n=> rw [hr] at o;exact o
   |exc c fs σ=> rw [hr] at o;exact o
   |ok a σ=> exact λυ υ υ υ υ υ υ=> trivial
  refine Bw.of (LU (t:= .Name (C.T.nm nt) tp) O hh i1 r1 hm λvi s2 Rd=> ?_);refine QM B O hh Y hc hcl (λL Oi=> E0 cl L Oi) (Zn hm) i1 Rd o2 λD L s' x' ws m eq gg ii rr hL aw ow hn=> fin x1 s1 D L cl s' x' ws m ?_ g1 gg ii rr hL aw ow hn
  show kR 78 (ob (EP 0 w σ) λi=> some ((Co i (FP g [C.ns.length] [] l) σ).bind λvs σ=> mkL false vs σ))=_;rw [<- z,hm];exact eq
theorem Q3 (B:C.toBase.Ok) (O:C.Ok) (hh:C.A.handled=none) {sks:NN} {sc:Scope} {nt:Nat} (Y:BZ C sks sc nt) {elt iter:PySem.Expr} {tp pos:Pos} {g f:SE} (D:EOk C iter f) (hs:∀x,foldedSetIterable iter C.env x=pure x)
  (E0:∀cl L,(C.inner sc cl L (Bn sks C.ns nt)).Ok->EOk (C.inner sc cl L (Bn sks C.ns nt)) elt g):EOk C (.ListComp elt [⟨.Name (C.T.nm nt) tp,iter,[],0⟩] sc pos) (EG g [C.ns.length] 0 f [] false):=by
 intro x l s Q E i o;rw [eval_ListComp];refine HQ B O hh Y (use:=none) D hs E0 i o λx1 s1 D L cl s' x' ws m eq g1 gg ii rr hL aw ow hn=> ⟨m,hn,λh' hsb=> ?_⟩
 have kpL:Bf [L] s'.heap h':=λb o n e1=> (hsb.2 b λq=> n (q▸ .head _)).trans e1
 obtain ⟨i5,fz5⟩:=ii.step O aw ow kpL;rw [eq] at o;exact o _ {s' with heap:=h'} (x'.trim h') rfl (g1.trans (gg.step (tk:=s'.toks) (λa q=> by rw [mSg q];exact hL) kpL)) i5 (Rel.mono fz5 (Mu.le_refl _) rr)
theorem QV (B:C.toBase.Ok) (O:C.Ok) (hh:C.A.handled=none) {sks:NN} {sc:Scope} {nt k n:Nat} (Y:BZ C sks sc nt) {elt iter:PySem.Expr} {tp pos py p:Pos} {g f:SE} (D:EOk C iter f) (hs:∀x,foldedSetIterable iter C.env x=pure x)
  (E0:∀cl L,(C.inner sc cl L (Bn sks C.ns nt)).Ok->EOk (C.inner sc cl L (Bn sks C.ns nt)) elt g) (hk:nth C.ns k=some (some n)) (mn:AR C (C.T.nm n))
  (sw:swapsWith (.ListComp elt [⟨.Name (C.T.nm nt) tp,iter,[],0⟩] sc pos) (some (.Name (C.T.nm n) py)) p.line C.env=pure true):
  SOk C (.Assign [.Name (C.T.nm n) py] (.ListComp elt [⟨.Name (C.T.nm nt) tp,iter,[],0⟩] sc pos) p) (EX (Bk k) (EG g [C.ns.length] 0 f [] false)):=by
 intro x l s Q E i o;rw [exec_Assign_Name_used _ _ _ _ sw];refine Bw.bind (Bw.standAt (Bw.bind ?_));show wpB _ _ (do let _ <- PySem.comprehension (.ListComp elt [⟨.Name (C.T.nm nt) tp,iter,[],0⟩] sc pos) sc C.env _ (newList []) false (eval iter C.env) (some (assign (.Name (C.T.nm n) py) C.env))) _ _ s;have o:AK C x s ((EG g [C.ns.length] 0 f [] false l x.σ).toS l λw σ=> Bk k w l σ) Q E:=o;have o':Out C x l s C.rel (EG g [C.ns.length] 0 f [] false l x.σ) (λv s'=> True) E:=by
  generalize h:EG g [C.ns.length] 0 f [] false l x.σ=x9;induction x9 using R.casesOn with
  |stuck n=> rw [h] at o;exact o
  |ok w σ=> exact λυ υ υ υ υ υ υ=> trivial
  |exc c fs σ=> rw [h] at o;exact o
 refine Bw.bind (Bw.mono (HQ B O hh Y (use:=some (assign (.Name (C.T.nm n) py) C.env)) (Q':=λυ s'=> Q .next s') D hs E0 i o' λx1 s1 D L cl s' x' ws m eq g1 gg ii rr hL aw ow hn=> ?_) (λυ s' q=> Bw.pure (Bw.pure q)) λυ υ e=> e);rw [eq] at o;have o:AK C x s (.next (put l k (some (.lst ws))) x'.σ) Q E:=o;show wpAny _ _ (assign (.Name (C.T.nm n) py) C.env (.ref D)) _ _ _;rw [arm_assign_Name];refine wpAny_bind (wpAny_standAt (wpAny_bindName (Ek O ii hk mn rr λs4 g4 i4=> ?_)));have fL:∀a ∈ [L],∃o,s'.heap.get? a=some o/\¬ CW o:=λa q=> by
  obtain ⟨o,es,ep,e1,e2,_⟩:=hn;rw [mSg q];exact ⟨o,e1,λ⟨⟨_,z⟩,_⟩=> by rw [e2] at z;cases z⟩
 obtain ⟨e4,w4⟩:=Go.machine g4 aw ow fL;refine ⟨m,G5 (λo e=> e4 L (.head _) o e) hn,λh' hsb=> ?_⟩;have kpL:Bf [L] s4.heap h':=λb o n e1=> (hsb.2 b λq=> n (q▸ .head _)).trans e1
 obtain ⟨i5,fz5⟩:=i4.step O aw w4 kpL;exact o {s4 with heap:=h'} (x'.trim h') rfl (g1.trans ((gg.trans g4).step (tk:=s4.toks) (λa q=> by rw [mSg q];exact hL) kpL)) i5
end
structure EU (B:Base) (c f:Nat):Prop where
 makes:makesIn B.KF c=true
 init:findIn B.KF (.ref c) "__init__" =some (some (.ref f))
 fn:typeIn B.KF (.ref f)=some (.type "function")
theorem J8 {prog:Program} {w:World} {h:Heap} {c f:Nat} {id:String} (Y:Bw.Cal (model prog w) h c f id):∃k,Looks (model prog w) h (keeperOf (.ref c)) k:=by
 obtain ⟨oc,od,cd,sl,hC,_⟩:=Y.obj;exact ⟨.machine,(Looks.ld (part:=none) hC).andThen (Y.call.andThen (Looks.of_pure (by rw [beq_self_eq_true];rfl)))⟩
section
variable {B:Base} {c f:Nat}
theorem EU.cal (Y:EU B c f) {h:Heap} (X:B.KF.In h):Bw.Cal (model B.prog B.w) h c f "object.__new__" :=by
 obtain ⟨⟨oc,od,cd,sl,hC,_,_,e4⟩,made,base,self,top,call,typ⟩:=makes_of (M:=model B.prog B.w) X Y.makes;exact ⟨⟨oc,od,cd,sl,hC,e4⟩,call,typ,made,self,looks_findIn X Y.init,λx=> bind_fn X x Y.fn⟩
theorem II {A:Around} {s:Shared} {vs:List Value} {R:Result->Shared->Prop} (Y:EU B c f) (X:B.KF.In s.heap)
  (h:codeB (model B.prog B.w) (A.under (.builtin "type.__call__" ⟨.ref c::vs,[]⟩)) (.call (.ref f) ⟨.ref (s.heap.objs.size + 1)::vs,[]⟩) (InitBack (s.heap.objs.size + 1) R) {s with heap:=(s.heap.push emptyDict).push (instObj c s.heap.objs.size)}):
  codeB (model B.prog B.w) A (.call (.ref c) ⟨vs,[]⟩) R s:=by
 refine Bw.NQ (o1:=instObj c s.heap.objs.size) (Y.cal X) (λb o e=> Heap.get?_push_of_some _ (Heap.get?_push_of_some _ e)) ?_ rfl (λA' R' z=> ?_) h
 ·have:=Heap.get?_push_size (s.heap.push emptyDict) (o:=instObj c s.heap.objs.size) rfl;rwa [Heap.size_push] at this
 ·obtain ⟨hp,g,d,tk,os⟩:=s;exact new_K (makes_of X Y.makes) (looks_findIn X Y.init) (.inl rfl) z
end
inductive dQ (B:Base) (c:Nat):Prop |mk (f:Nat) (fn:Fn) (k:Cls) (n0:Nat) (h1:EU B c f) (h2:FnAt B f fn) (h3:B.T.cls c=some k) (h4:k.kind ≠ 2) (h5:fn.np=k.fields.length + 1) (h6:fn.dfl= []) (h7:∀q ∈ fn.ks,q.2 ≠ 1) (h8:fn.ns[0]? =some n0) (h9:FE n0 fn.ns fn.body 0 k.fields)
structure PC (B:Base) (c:Nat):Prop where
 at_:dQ B c
theorem R7 {C:Cx} (B:C.toBase.Ok) (O:C.Ok) {c:Nat} (Y:PC C.toBase c) {A:Around} (hroom:A.depth + 1 < recursionLimit) {x:Wx} {l:LL} {s:Shared} {vs:List Value} {ws:List W} {Q:VP} {E:VP} (i:In C x l s.heap) (r:C.BF x s.heap vs ws)
  (o:Out C x l s C.rel (BE c (AH C.T c).length ws x.σ) Q E):codeB C.M A (.call (.ref c) ⟨vs,[]⟩) (Ic Q E) s:=by
 obtain ⟨f,fn,k,n0,P,H,hk,kk,np,dfl,nc,hn0,I⟩:=Y.at_;have cf:AH C.T c=k.fields:=by unfold AH;rw [hk]
 generalize hw:Nat.beq ws.length (AH C.T c).length=x9;induction x9 using bC with
 |false=> unfold BE at o;rw [hw] at o;exact o.elim
 |true=>
 unfold BE at o;rw [hw] at o;have hn:ws.length=k.fields.length:=cf▸eBq hw;have X:=i.KX B;refine II P X ?_;have kp1:Keeps s.heap ((s.heap.push emptyDict).push (instObj c s.heap.objs.size)):=λb o e=> Heap.get?_push_of_some _ (Heap.get?_push_of_some _ e)
 have z1:((s.heap.push emptyDict).push (instObj c s.heap.objs.size)).objs.size=s.heap.objs.size + 2:=by rw [Heap.size_push,Heap.size_push]
 have he:((s.heap.push emptyDict).push (instObj c s.heap.objs.size)).get? (s.heap.objs.size + 1)=some (instObj c s.heap.objs.size):=by
  have:=Heap.get?_push_size (s.heap.push emptyDict) (o:=instObj c s.heap.objs.size) rfl;rwa [Heap.size_push] at this
 have hd:((s.heap.push emptyDict).push (instObj c s.heap.objs.size)).get? s.heap.objs.size=some (AM [] 0):=Heap.get?_push_of_some _ (Heap.get?_push_size s.heap rfl);have old:∀{b o},s.heap.get? b=some o->b ≠ s.heap.objs.size + 1/\¬ b=s.heap.objs.size:=λe=> ⟨Nat.ne_of_lt (Nat.lt_succ_of_lt (Heap.lt_size e)),Nat.ne_of_lt (Heap.lt_size e)⟩
 refine J6 B H np dfl nc (n:=k.fields.length) ?_ (λb o e=> kp1 b o (i.wd.top b o e)) ((AD.length r).trans hn) λenv h1 mm tk FM hns kp E'=> ?_
 ·exact hroom
 have kp2:Keeps s.heap h1:=λb o e=> kp b o (kp1 b o e)
 rw [z1] at hns FM;have m:Mk C.T (Fz s.heap x.bad) x.mu (shP c) (·=s.heap.objs.size) h1 h1 c (s.heap.objs.size + 1) (ws.take 0):=
  ⟨λυ υ υ υ q=> q,Nat.le_refl _,_,kp _ _ he,⟨_,rfl⟩,.inr ⟨_,[],0,rfl,.inr rfl,kp _ _ hd,rfl⟩⟩
 refine NK (s:={s with heap:=h1,toks:=tk}) B FM (ZD B hk kk) (λb o e=> old (i.wd.top b o e)) (λb o e=> kp2 b o (i.wd.top b o e)) ?_ hn0 r hns ?_ (all:=k.fields) (by rw [cf];exact List.prefix_refl _) I rfl ?_ m λh3 tk3 m3=> ?_
 ·exact λz=> absurd z (by show s.heap.objs.size + 2 ≠ s.heap.objs.size;lia)
 ·show s.heap.objs.size + 2 ≠ s.heap.objs.size + 1;lia
 ·rw [Nat.zero_add,hn];exact Nat.le_refl _
 rw [Nat.zero_add,<- hn,List.take_length] at m3;obtain ⟨m1,m2,ox,e1,⟨d,rfl⟩,e2⟩:=m3;have kp3:Keeps s.heap h3:=λb o e=> m1 b o (old e).1 (old e).2 (kp2 b o e)
 have nb:∀{a},s.heap.objs.size <= a->¬ x.bad a:=λh z=> Nat.not_lt.mpr h (Nat.lt_of_lt_of_le (i.wd.fit _ z) (Al _))
 rcases e2 with ⟨z,_⟩ |⟨d',es,n,z,e3,e4,e5⟩
 ·cases z
 cases z;have hd':s.heap.objs.size <= d:=by
  rcases e3 with e3 |e3
  ·exact Nat.le_trans (Nat.le_of_lt (Heap.lt_size (kp _ _ hd))) e3
  ·exact Nat.le_of_eq e3.symm
 have g:Go C x x s {s with heap:=h3,toks:=tk3}:= .keeps kp3;exact ⟨rfl,o _ _ _ rfl g (i.keeps O kp3) ⟨_,_,d,es,n,rfl,⟨e1,nb (Nat.le_succ _)⟩,rfl,rfl,rfl,⟨e4,nb hd'⟩,Af.mono (Go.fz i g) (Mu.le_refl _) e5⟩⟩
theorem LJ {C:Cx} (B:C.toBase.Ok) (O:C.Ok) {c:Nat} (Y:PC C.toBase c) (hroom:C.A.depth + 1 < recursionLimit):Bi C (.ref c) (BE c (AH C.T c).length):=by
 refine ⟨λi=> ?_,λi r o=> Bw.call (R7 B O Y hroom i r o)⟩;obtain ⟨f,fn,k,n0,P,_⟩:=Y.at_;exact J8 (P.cal (i.KX B))
noncomputable def Cx.tc (C:Cx) (c:Addr) (vs:List Value):Cx:={C with A:=C.A.under (.builtin "type.__call__" ⟨.ref c::vs,[]⟩)}
section
variable {C:Cx} {c:Addr} {vs:List Value}
theorem Cx.ah (O:C.Ok) {rk:Nat} (R:DP C (rk + 1)):(C.tc c vs).Ok/\DP (C.tc c vs) rk:=by
 have u:(C.tc c vs).A.units=C.A.units + (Code.builtin "type.__call__" ⟨.ref c::vs,[]⟩).cUnits:=rfl;have d:(C.tc c vs).A.depth <= C.A.depth + 1:=Nat.le_refl (C.A.depth + 1);have cu:(Code.builtin "type.__call__" ⟨.ref c::vs,[]⟩).cUnits <= 3:=show (1:Nat) <= 3 from by decide
 have:=R.units;have:=R.depth;exact ⟨⟨O.top,O.fr,O.mine,O.glob,O.bi,O.kind,O.names,O.cellmine,O.once,O.apart,by rw [u];lia,O.cinj,O.guards⟩,⟨by lia,by rw [u];lia,R.handled⟩⟩
theorem In.tc {x:Wx} {l:LL} {h:Heap} (i:In C x l h):In (C.tc c vs) x l h:=⟨i.wd,i.dict,i.loc,i.cell,i.mine,i.frames⟩
theorem In.Ko {x:Wx} {l:LL} {h:Heap} (i:In (C.tc c vs) x l h):In C x l h:=⟨i.wd,i.dict,i.loc,i.cell,i.mine,i.frames⟩
theorem Go.Ko {x x':Wx} {s s':Shared} (g:Go (C.tc c vs) x x' s s'):Go C x x' s s':=⟨g.ext,g.mu,g.ow,g.ns,g.kb,g.gens,g.os⟩
theorem Out.tc {α β:Type} {rel:Wx->Heap->β->α->Prop} {x:Wx} {l:LL} {s:Shared} {r:R α} {Q:β->Shared->Prop} {E:VP} (o:Out C x l s rel r Q E):Out (C.tc c vs) x l s rel r Q E:=by
 induction r using R.casesOn with
 |ok a σ=> exact λb s' x' e g i q=> o b s' x' e g.Ko i.Ko q
 |exc c fs σ=> exact λb s' x' e g i q=> o b s' x' e g.Ko i.Ko q
 |stuck n=> exact o
theorem Out.run {α β α' β':Type} {rel:Wx->Heap->β->α->Prop} {rel':Wx->Heap->β'->α'->Prop} {x:Wx} {l:LL} {s:Shared} {r:R α} {g:α->List O->R α'} {Q:β'->Shared->Prop} {E:VP} (o:Out C x l s rel' (r.bind g) Q E):
  Out C x l s rel r (λb s'=>∃x' a,Go C x x' s s'/\In C x' l s'.heap/\rel x' s'.heap b a/\Out C x' l s' rel' (g a x'.σ) Q E) E:=by
 induction r using R.casesOn with
 |ok a σ=> exact λb s' x' e g' i q=> ⟨x',a,g',i,q,Out.shift (r:=g a x'.σ) g' (by rw [e];exact o)⟩
 |exc c fs σ=> exact o
 |stuck n=> exact o
theorem Kh (B:C.toBase.Ok) (OC:C.Ok) {c f rk:Nat} {init:Run} (P:EU C.toBase c f) (S:CE C.toBase f init rk) (R:DP C (rk + 1)):Bi C (.ref c) (H9 c init):=by
 refine ⟨λi=> J8 (P.cal (i.KX B)),λ{x l s vs ws Q E} i r o=> Bw.call (II P (i.KX B) ?_)⟩;have kp1:Keeps s.heap ((s.heap.push emptyDict).push (instObj c s.heap.objs.size)):=λb o e=> Heap.get?_push_of_some _ (Heap.get?_push_of_some _ e)
 have he:((s.heap.push emptyDict).push (instObj c s.heap.objs.size)).get? (s.heap.objs.size + 1)=some (instObj c s.heap.objs.size):=by
  have:=Heap.get?_push_size (s.heap.push emptyDict) (o:=instObj c s.heap.objs.size) rfl;rwa [Heap.size_push] at this
 have hd:((s.heap.push emptyDict).push (instObj c s.heap.objs.size)).get? s.heap.objs.size=some (AM [] 0):=Heap.get?_push_of_some _ (Heap.get?_push_size s.heap rfl);have fr:∀a ∈ O.ad (.inst c []) (s.heap.objs.size + 1) s.heap.objs.size,lv s.heap <= a/\a < lv ((s.heap.push emptyDict).push (instObj c s.heap.objs.size)):=λa ha=> by
  rcases mCo ha with rfl |ha
  ·exact ⟨Nat.le_succ_of_le (Al _),Ak he⟩
  ·cases mSg ha;exact ⟨Al _,Ak hd⟩
 have g:Go C x (x.add (.inst c []) (s.heap.objs.size + 1) s.heap.objs.size) s {s with heap:=(s.heap.push emptyDict).push (instObj c s.heap.objs.size)}:=Go.add kp1 fr;have i1:=i.add OC kp1 fr (Nat.succ_ne_self _) λfz=> ⟨[],0,he,hd,rfl⟩
 have r1:C.rel (x.add (.inst c []) (s.heap.objs.size + 1) s.heap.objs.size) ((s.heap.push emptyDict).push (instObj c s.heap.objs.size)) (.ref (s.heap.objs.size + 1)) (.ref x.σ.length):=⟨congrArg Value.ref Dz.symm,by simp [Wx.mu,Wx.add]⟩;have r3:C.BF (x.add (.inst c []) (s.heap.objs.size + 1) s.heap.objs.size) ((s.heap.push emptyDict).push (instObj c s.heap.objs.size)) vs ws:=CX i g r;obtain ⟨O1,R1⟩:=Cx.ah (c:=c) (vs:=vs) OC R;refine Bw.ER (S (C.tc c vs) rfl O1 R1 i1.tc (vs:= .ref (s.heap.objs.size + 1)::vs) (ws:= .ref x.σ.length::ws) ⟨_,_,rfl,r1,r3⟩ (Out.tc (Out.run (rel:=C.rel) (Out.shift g o)))) λz s' q=> ?_
 rcases z with e |(v |_ |_ |_) <;> first |exact q |exact q.elim |skip
 obtain ⟨x2,w,g2,i2,r2,o2⟩:=q;induction w using W.casesOn with
 |none=> exact ⟨r2,o2 _ _ x2 rfl (Go.refl ..) i2 (Aq i1 g2 r1)⟩
 |_=> exact o2.elim
end
def Wx.free (x:Wx) (k:Nat) (o:O):Wx:={x with bad:=λa=> x.bad a/\a ∉ o.ad (x.μ k) (x.δ k),σ:=put x.σ k .dead}
section
variable {C:Cx} {x:Wx} {l:LL} {s:Shared}
theorem EJ {k j:Nat} {o o':O} (e:nth (x.free k o).σ j=some o'):o' = .dead\/(j ≠ k/\nth x.σ j=some o'):=by
 have e:nth (put x.σ k .dead) j=some o':=e;rw [Df] at e
 split at e
 ·split at e
  ·exact .inl (sIj e).symm
  ·exact nn e
 ·rename_i h;exact .inr ⟨Ne.symm h,e⟩
theorem In.free (OC:C.Ok) (i:In C x l s.heap) {k:Nat} {o:O} (ho:nth x.σ k=some o):In C (x.free k o) l s.heap/\Go C x (x.free k o) s s/\(∀a ∈ o.ad (x.μ k) (x.δ k),¬ (x.free k o).bad a):=by
 have fz:∀a y,Fz s.heap x.bad a y->Fz s.heap (x.free k o).bad a y:=λa y e=> ⟨e.1,λz=> e.2 z.1⟩
 have mu:x.mu.le (x.free k o).mu:=⟨Nat.le_of_eq (Fg _ _ _).symm,λυ υ=> rfl⟩;have ow:∀a,(x.free k o).owned a->x.owned a:=λa z=> by
  obtain ⟨j,o',e,h⟩:=z;rcases EJ e with rfl |⟨_,e⟩
  ·exact nomatch h
  ·exact ⟨j,o',e,h⟩
 have D:=i.wd;refine ⟨i.via ⟨D.top,λa y e z=> D.topF a y e z.1,λa z=> D.fit a z.1,λj o' e=> ?_,λj o' e a h=> ?_,λj c fs e=> ?_,λj j' o1 o2 n e1 e2 a h1 h2=> ?_⟩ mu fz (λa b n=> ⟨⟨b,λz=> n ⟨k,o,ho,z⟩⟩,λz=> n (ow a z)⟩) (λb y υ υ e=> e) OC,
  ⟨⟨λa y e υ=> e,λa z=> .inl z.1,λa y e=> ⟨y,e⟩⟩,mu,λa z=> .inl (ow a z),λυ υ υ υ e=> e,λa υ b n=> ⟨b,λz=> n ⟨k,o,ho,z⟩⟩,rfl,rfl⟩,λa h z=> z.2 h⟩
 ·rcases EJ e with rfl |⟨_,e⟩
  ·trivial
  ·exact (D.own j o' e).mono fz mu λυ υ=> rfl
 ·rcases EJ e with rfl |⟨n,e⟩
  ·exact nomatch h
  ·exact ⟨D.ownB j o' e a h,D.sep j k o' o n e ho a h⟩
 ·rcases EJ e with e |⟨_,e⟩
  ·cases e
  ·exact D.self j c fs e
 ·rcases EJ e1 with rfl |⟨_,e1⟩
  ·exact nomatch h1
  ·rcases EJ e2 with rfl |⟨_,e2⟩
   ·exact nomatch h2
   ·exact D.sep j j' o1 o2 n e1 e2 a h1 h2
inductive Frz (C:Cx) (x:Wx) (l:LL) (s:Shared) (v:Value) (p:W × List O):Prop |mk (x':Wx) (h1:x'.σ=p.2) (h2:Go C x x' s s) (h3:In C x' l s.heap) (h4:C.rel x' s.heap v p.1)
theorem NZ (OC:C.Ok) (i:In C x l s.heap) {w:W} {v:Value} {p:W × List O} (r:C.rel x s.heap v w) (e:LZ x.σ w=some p):Frz C x l s v p:=by
 by_cases q:∃k,w= .ref k
 ·obtain ⟨k,rfl⟩:=q;have e:(ob (nth x.σ k) λo=> ob (Dn o) λl=> some (W.lst l,put x.σ k .dead))=some p:=e;obtain ⟨o,ho,e⟩:=AA e;obtain ⟨ws,hl,e⟩:=AA e;cases e;cases Bj hl;obtain ⟨i',g,nb⟩:=i.free OC ho;obtain ⟨vs,n,h1,h2,h3⟩:=i.wd.own k _ ho;exact ⟨_,rfl,g,i',_,vs,n,r.1,⟨h1,nb _ (.head _)⟩,h3,CX i g h2⟩
 ·have:LZ x.σ w=some (w,x.σ):=by cases w <;> first |rfl |exact absurd ⟨_,rfl⟩ q
  rw [this] at e;clear q;cases e;exact ⟨x,rfl,Go.refl ..,i,r⟩
theorem Vn (OC:C.Ok) {fs:List W}:∀{x:Wx} {as:List Nat} {es:List DictEntry} {p:List W × List O},In C x l s.heap->Af C.T (Fz s.heap x.bad) x.mu fs as es->Oq x.σ fs=some p->∃x',x'.σ=p.2/\Go C x x' s s/\In C x' l s.heap/\Af C.T (Fz s.heap x'.bad) x'.mu p.1 as es:=by
 induction fs with
 |nil=> intro x as es p i r e;cases e;exact ⟨x,rfl,Go.refl ..,i,r⟩
 |cons w fs ih=>
  intro x as es p i r e;obtain ⟨a,as',e0,es',t,rfl,rfl,hk,r1,r2⟩:=r;obtain ⟨p1,e1,e⟩:=AA (show (ob (LZ x.σ w) λp=> ob (Oq p.2 fs) λq=> some (p.1::q.1,q.2))=some p from e);obtain ⟨q,e2,e⟩:=AA e;cases e;obtain ⟨x1,z1,g1,i1,r1⟩:=NZ OC i r1 e1;rw [<- z1] at e2;obtain ⟨x2,z2,g2,i2,r2⟩:=ih i1 (Af.mono (Go.fz i g1) g1.mu r2) e2;exact ⟨x2,z2,g1.trans g2,i2,a,as',e0,es',t,rfl,rfl,hk,Aq i1 g2 r1,r2⟩
theorem U8 (OC:C.Ok) (i:In C x l s.heap) {w:W} {v:Value} {p:W × List O} (r:C.rel x s.heap v w) (e:PD x.σ w=some p):Frz C x l s v p:=by
 rcases AX e with e |e
 ·obtain ⟨t,e1,e⟩:=AA e;obtain ⟨q,e2,e⟩:=AA e;cases e;obtain ⟨k,e3,e1⟩:=AA (show (ob (Gs w) λi=> ob (nth x.σ i) λo=> ob (IS o) λp=> some (i,p.1,p.2))=some t from e1);obtain ⟨o,ho,e1⟩:=AA e1;obtain ⟨y,hy,e1⟩:=AA e1;clear e;cases e1;cases Eg e3;cases Hk hy;obtain ⟨i',g,nb⟩:=i.free OC ho;obtain ⟨es,n,h1,h2,rf⟩:=i.wd.own k _ ho;obtain ⟨x2,z2,g2,i2,r2⟩:=Vn OC i' (Af.mono (Go.fz i g) g.mu rf) e2;have n2:∀{a o},Fz s.heap (x.free k (.inst y.1 y.2)).bad a o->Fz s.heap x2.bad a o:=Go.fz i' g2 _ _;exact ⟨x2,z2,g.trans g2,i2,_,_,_,es,n,r.1,n2 ⟨h1,nb _ (.head _)⟩,rfl,rfl,rfl,n2 ⟨h2,nb _ (.tail _ (.head _))⟩,r2⟩
 ·exact NZ OC i r e
end
section
variable {C:Cx}
theorem RX (OC:C.Ok) {e:PySem.Expr} {f:SE} (D:EOk C e f):EOk C e (XA f):=by
 intro x l s Q E i o;refine Bw.mono (D.run i o) (λv s1 h=> ?_) λυ υ e=> e
 obtain ⟨x1,w,g1,i1,r1,o1⟩:=h;obtain ⟨y,e1,o1⟩:=Dw o1;obtain ⟨p,e3,e2⟩:=AA e1;clear e1;cases e2;obtain ⟨x2,z2,g2,i2,r2⟩:=U8 OC i1 r1 e3;exact o1 v s1 x2 z2 g2 i2 r2
end
theorem Ml:typeOf (.builtin "dict.values")=pure (.type "method_descriptor"):=by show builtinType _=_;rw [builtinType_eq_fast];kernel_rfl
theorem Mn:typeLookup (.type "dict_values") "__contains__" =pure none:=by rw [typeLookup_type,builtinLookup_eq_fast];kernel_rfl
theorem MO:entryFor table "proto.contains_iter" =some Builtin.«proto.contains_iter»:=entryFor_of_tree (by kernel_rfl)
section
variable {prog:Program} {w:World}
theorem VY {it a:Addr} {kvs:List (Int × Value)} {ep:Nat} {y:List Nat} {t:Tok} (hv:∀v ∈ kvs.map (·.2),∃b u,v= .str ⟨b.toArray⟩ u/\eqStr y v=A9 b y) (ne:it ≠ a):∀(j i:Nat) {A:Around} {s:Shared} {R:Result->Shared->Prop},kvs.length=i + j->A.handled=none->s.heap.IsValIter it a i kvs.length ep->s.heap.DictAt (intKind prog w) a kvs ep->
  (∀h',Heap.ExtBut it s.heap h'->R (.ok (.ret (.bool (((kvs.map (·.2)).drop i).any (eqStr y))))) {s with heap:=h'})->codeAny (model prog w) A (.builtin "proto.contains_iter" ⟨[.ref it,.str ⟨y.toArray⟩ t],[]⟩) R s:=by
 intro j;induction j with
 |zero=>
  intro i A s R hj hh hi hd q;refine codeAny_builtin MO ?_;refine wpAny_bind (wpAny_pyNext_values_end (knd:=intKind prog w) hh hi hd (List.getElem?_eq_none (by lia)) λh' e=> ?_);have:=q h' e;rw [List.drop_eq_nil_of_le (by rw [List.length_map];lia)] at this;exact wpAny_bind (wpAny_rule (wpAny_pure this))
 |succ j ih=>
  intro i A s R hj hh hi hd q;have lt:i < kvs.length:=by lia
  obtain ⟨b,u,hb,he⟩:=hv (kvs[i].2) (List.mem_map.mpr ⟨_,List.getElem_mem lt,rfl⟩);refine codeAny_builtin MO ?_;refine wpAny_bind (wpAny_pyNext_values_item (knd:=intKind prog w) (k:=kvs[i].1) (v:=kvs[i].2) hi hd (List.getElem?_eq_getElem lt) λh' hi' sb=> ?_);dsimp only;have dr:(kvs.map (·.2)).drop i=kvs[i].2::(kvs.map (·.2)).drop (i + 1):=by
   rw [List.drop_eq_getElem_cons (by rw [List.length_map];exact lt),List.getElem_map]
  rw [dr,List.any_cons] at q;rw [hb] at q he ⊢;rw [he,DD] at q;refine wpAny_bind (wpAny_eqBool_str ?_);have e1:decide ((⟨b.toArray⟩:Str)=⟨y.toArray⟩)=decide (b=y):=by
   by_cases z:b=y
   ·clear he hv ih q;subst z;simp
   ·rw [decide_eq_false z];exact decide_eq_false λk=> z (by simpa using congrArg (λs:Str=> s.cps.toList) k)
  rw [e1];by_cases z:b=y
  ·rw [decide_eq_true z] at q ⊢;exact wpAny_bind (wpAny_rule (wpAny_pure (q h' sb.extBut)))
  ·rw [decide_eq_false z] at q ⊢;refine wpAny_pure ⟨Code.quiet_builtin _ (by decide +kernel), ?_⟩;have hd':h'.DictAt (intKind prog w) a kvs ep:=by
    obtain ⟨o,es,ho,r⟩:=hd;exact ⟨o,es,(sb.2 a (Ne.symm ne)).trans ho,r⟩
   exact ih (i + 1) (s:={s with heap:=h'}) (by lia) hh hi' hd' λh'' e=> q h'' λx o n g=> e x o n ((sb.2 x n).trans g)
theorem Ql {A:Around} {s:Shared} {E:VP} {v a:Addr} {kvs:List (Int × Value)} {ep:Nat} {y:List Nat} {t:Tok} {Q:Bool->Shared->Prop} (hh:A.handled=none) (hv:∀v ∈ kvs.map (·.2),∃b u,v= .str ⟨b.toArray⟩ u/\eqStr y v=A9 b y) (V:s.heap.IsValuesView v a) (hd:s.heap.DictAt (intKind prog w) a kvs ep)
  (q:∀h',Keeps s.heap h'->Q ((kvs.map (·.2)).any (eqStr y)) {s with heap:=h'}):wpAny (model prog w) A (contains (.ref v) (.str ⟨y.toArray⟩ t)) Q E s:=by
 unfold contains;refine wpAny_holding ?_;have L0:∀{P:Option Value->Shared->Prop},P none s->wpAny (model prog w) A (specialOf (.ref v) "__contains__") P E s:=λp=> by
  unfold specialOf;refine wpAny_bind (wpAny_typeOf V.typeIs ?_);rw [Mn];exact wpAny_pure p
 refine wpAny_bind (L0 ?_);show wpAny _ _ (callSpecialUnlessNone? _ _ _ _ >>=_) _ _ _;refine wpAny_bind ?_;unfold callSpecialUnlessNone?;refine wpAny_bind (L0 (wpAny_pure ?_));refine wpAny_bind (wpAny_rule (wpAny_bind (wpAny_tryCatch (wpAny_pyIter_values (knd:=intKind prog w) V hd ?_))));have lt:a < s.heap.objs.size:=by obtain ⟨o,es,ho,_⟩:=hd;exact Heap.lt_size ho
 have k:=Ab s.heap {cls:= .type "dict_valueiterator",data:= .fields #[.ref a,.int 0 0,.int kvs.length 0,.int ep 0]};refine wpAny_bind (wpAny_runValue (VY (kvs:=kvs) (ep:=ep) hv (Nat.ne_of_gt lt) kvs.length 0 (by lia) hh ⟨_,Heap.get?_push_size _ rfl,rfl,rfl⟩ ?_ λh' e=> wpAny_pure (q h' λb o g=> e b o (Nat.ne_of_lt (Heap.lt_size g)) (k b o g))));obtain ⟨o,es,ho,r⟩:=hd;exact ⟨o,es,k _ _ ho,r⟩
end
section
variable {C:Cx}
def NC (C:Cx) (x:Wx) (h:Heap) (v:Value) (y:W):Prop:=∃u a kvs ep,v= .ref u/\h.IsValuesView u a/\h.DictAt (intKind C.prog C.w) a kvs ep/\∃l,y= .tup l/\C.BF x h (kvs.map (·.2)) l
theorem NP (hh:C.A.handled=none) {x:Wx} {s:Shared} {E:VP} {va vb:Value} {a b:W} {t:Bool} {Q:VP} (ra:C.rel x s.heap va a) (rb:NC C x s.heap vb b) (e:IF a b=some t) (q:∀h',Keeps s.heap h'->Q (.bool t) {s with heap:=h'}):wpAny C.M C.A (compareOp .In va vb) Q E s:=by
 obtain ⟨y,e1,e⟩:=AA e;obtain ⟨l,e2,e⟩:=AA e;cases Au e1;clear e1;obtain ⟨u,rfl,_⟩:=ra;obtain ⟨v,d,kvs,ep,rfl,V,D,l',rfl,rs⟩:=rb;cases e2;obtain ⟨h1,h2⟩:=Jr rs e;refine wpAny_bind (Ql (t:=u) hh h1 V D λh' k=> wpAny_pure ?_);rw [h2];exact q h' k
theorem QB (hh:C.A.handled=none) (OC:C.Ok) {e:E} {f:SE} {ap p:Pos} (D:EOk C (den C.T e) f) (ns:CM e=true) (lp:ap.endLine=p.line):B0 C (NC C) (eval (.Call (.Attribute (den C.T e) "values" ap) [] [] p) C.env) (λl σ=> (f l σ).bind λw σ=> kO 47 (OP w) σ):=by
 intro x l s Q E i o;refine Dx (es:= []) D ns lp (by decide) i o λx' s' v w pl i' r o'=> ?_
 obtain ⟨y,h,o2⟩:=Bc o';obtain ⟨q,e1,h⟩:=AA h;obtain ⟨d,e2,h⟩:=AA h;obtain ⟨nd,h⟩:=AJ h;clear o';cases h;cases HX e1;clear e1 h;obtain ⟨a,es,n,rfl,f,nsys,re⟩:=r;obtain ⟨kvs,DA,m,rl⟩:=(FU re e2).at (prog:=C.prog) (w:=C.w) nd f.1;refine getMethod_builtin ⟨_,f.1,rfl⟩ PySem.F.plainAttrs_dict PySem.F.slot_dict_values Ml (λb e=> by clear h;cases e;exact ⟨_,f.1,rfl⟩) ?_;refine BG (BV (T:=C.T) []) (Bw.pure ⟨⟨.machine,Looks.of_pure rfl⟩, ?_⟩);have K:=Ab s'.heap {cls:= .type "dict_values",data:= .fields #[.ref a]};refine Bw.of (call_meetsIn PySem.F.slot_dict_values ⟨_,f.1,rfl⟩ PySem.F.entry_dict_values (PySem.F.args_dict_values_1 _) (meets_dict_values (intKind C.prog C.w) a nsys) ⟨⟨kvs,DA.dictOf⟩, ?_⟩);have g:Go C x' x' s' {s' with heap:=s'.heap.push {cls:= .type "dict_values",data:= .fields #[.ref a]}}:= .keeps K;refine o2 _ _ x' rfl g (i'.keeps OC K) ⟨_,a,kvs,n,rfl,⟨_,Heap.get?_push_size _ rfl,rfl,rfl⟩, ?_,_,rfl,CX i' g rl⟩;obtain ⟨o,es',ho,r⟩:=DA;exact ⟨o,es',K _ _ ho,r⟩
theorem V1 (OC:C.Ok) (hh:C.A.handled=none) {a d:E} {m mp vp p:Nat} (hn:C.T.nm m= "values") (D:EOk C (den C.T a) (sem C.T.Z a)) (D':EOk C (den C.T d) (sem C.T.Z d)) (ns:CM d=true) (lp:(AG mp).endLine=(AG vp).line):
  EOk C (den C.T (.memv a d m mp vp p)) (sem C.T.Z (.memv a d m mp vp p))/\BOk C (den C.T (.memv a d m mp vp p)) (sem C.T.Z (.memv a d m mp vp p)):=by
 have V:=QB hh OC (ap:=AG mp) (p:=AG vp) D' ns lp;rw [<- hn] at V;have S:DN (.Call (.Attribute (den C.T d) (C.T.nm m) (AG mp)) [] [] (AG vp)):=⟨λυ υ=> rfl,λυ=> rfl,λυ υ=> rfl⟩;refine ⟨λx l s Q E i ou=> ?_,λx l s Q E i ou=> ?_⟩
 ·refine Bw.K1 (Bw.mono (two D V (k:=λu v σ=> BW (IF u v) σ) i ou) (λva s1 h=> Bw.mono h (λvb s2 hx=> Bw.of ?_) λυ υ e=> e) λυ υ e=> e) (S.marks _);obtain ⟨x2,wa,wb,i2,r1,r2,o2⟩:=hx;obtain ⟨t,h,_⟩:=Ds i2 o2;rw [h] at o2;exact NP hh r1 r2 h λh' k=> o2 _ _ x2 rfl (.keeps k) (i2.keeps OC k) rfl
 ·have ou:Out C x l s C.Cj ((sem C.T.Z a l x.σ).bind λu σ=> ((sem C.T.Z d l σ).bind λw σ=> kO 47 (OP w) σ).bind λv σ=> (BW (IF u v) σ).bind A7) Q E:=by rw [<- R.K9];exact ou
  refine Bw.FF (Bw.mono (two D V (k:=λu v σ=> (BW (IF u v) σ).bind A7) i ou) (λva s1 h=> Bw.mono h (λvb s2 hx=> Bw.of ?_) λυ υ e=> e) λυ υ e=> e) (S.marks _);obtain ⟨x2,wa,wb,i2,r1,r2,o2⟩:=hx;obtain ⟨t,h,_⟩:=F0 i2 o2;rw [h] at o2;exact NP hh r1 r2 h λh' k=> Bw.of (wpAny_truthy_bool (o2 t _ x2 rfl (.keeps k) (i2.keeps OC k) rfl))
end
structure Gd where
 meths:List (Nat × Nat × Nat)
 objs:List Nat
 news:NN
 excs:NN
 cats:NN
 isis:List Nat
 dyns:List Nat
 scs:Nat->NN
 bms:NN
 rep:Nat
 vals:Nat
structure Fr where
 ns:List (Option Nat)
 ks:NN
 own:List Nat
noncomputable def eqO (o:Option Nat) (n:Nat):Bool:=Option.rec false (λm=> Nat.beq m n) o
def eqS (o:Option (Option Nat)) (n:Nat):Bool:=Option.rec false (λm=> eqO m n) o
def Fr.g (F:Fr) (n:Nat):Bool:=eqO (lkp F.ks n) 4
def I4 (T:Tb) (a:Nat) (q:Nat × Nat):Bool:=Option.rec false (λk:Cls=> eqO (nth k.fields q.2) a) (T.cls q.1)
def H7 (T:Tb) (a:Nat) (q:Nat × Nat):Bool:=Option.rec false (λk:Cls=> !(Nat.beq k.kind 2) && eqO (nth k.fields q.2) a) (T.cls q.1)
def HA (mp p:Nat):Bool:=Nat.beq (AG mp).endLine (AG p).line
noncomputable def Zo (c f m:Nat) (q:Nat × Nat × Nat):Bool:=Nat.beq q.1 c && Nat.beq q.2.1 f && Nat.beq q.2.2 m
def X0 (e:E):Bool:=match e with
 | .lit x _=> EF x
 |_=> false
noncomputable def CI {α:Type} (l:List α):Bool:=List.rec true (λυ υ υ=> false) l
def Ia:List (List Nat)->Bool
 | []=> true
 |a::r=> !(r.any (A9 a)) && Ia r
noncomputable def LS (e:E):Bool:=match e with
 | .not .. => false | .boolop .. => false | .cmp .. => false | .isN .. => false | .mem .. => false | .cmp2 .. => false | .ite .. => false | .frz _=> false | .memv .. => false
 |_=> true
def Fr.inner (F:Fr) (sks:NN) (nt:Nat):Fr:=⟨Bn sks F.ns nt,JF sks,[]⟩
def skB (F:Fr) (sks:NN) (q:Nat × Nat):Bool:= !(Nat.beq q.2 1) && (!(Nat.beq q.2 2) ||(eqO (lkp F.ks q.1) 1 && Ai F.own q.1)) && (!(Nat.beq q.2 0) ||eqO (lkp sks q.1) 0)
def IZ (G:Gd) (F:Fr) (tg tn:List Nat) (ifs:Bool) (ik sc:Nat) (m:Bool):Option Nat:=ob (one tg) λk=> ob (one tn) λnt=> gd (ifs && Nat.beq k F.ns.length && Nat.beq ik 0 && !m && eqO (lkp (G.scs sc) nt) 0 && (G.scs sc).all (skB F (G.scs sc))) (some nt)
def bcB (f:Nat):Bool:=Ai [0,1,2,3,4,5,6] f
mutual
def okE (T:Tb) (G:Gd) (kn:List Nat):E->Fr->Bool
 | .lit x _=> λF=> EF x
 | .loc k n _=> λF=> eqS (nth F.ns k) n
 | .glob k n _=> λF=> eqO (T.gl k) n && F.g n
 | .attr e alts a _=> λF=> alts.all (I4 T a) && CM e && okE T G kn e F
 | .idx e i _=> λF=> okE T G kn e F && okE T G kn i F
 | .slc e lo hi _ _=> λF=> okE T G kn e F && okO T G kn lo F && okO T G kn hi F
 | .bin _ a b _ _=> λF=> okE T G kn a F && okE T G kn b F
 | .neg a _=> λF=> okE T G kn a F
 | .not a _=> λF=> okE T G kn a F
 | .boolop _ es _=> λF=> okL T G kn es F
 | .cmp a _ b _=> λF=> okE T G kn a F && okE T G kn b F
 | .isN a _ _ _=> λF=> okE T G kn a F
 | .mem a b _ _=> λF=> okE T G kn a F && okE T G kn b F
 | .cmp2 a _ b _ c _=> λF=> okE T G kn a F && okE T G kn b F && okE T G kn c F
 | .ite t a b _=> λF=> okE T G kn t F && okE T G kn a F && okE T G kn b F
 | .tup es _=> λF=> okL T G kn es F
 | .lst es _ _=> λF=> okL T G kn es F
 | .dct ks vs kp _=> λF=> vs.all X0 && Nat.beq kp.length ks.length && Nat.beq vs.length ks.length && Nat.ble ks.length 15 && ks.all (λk=> Nat.ble k.length LIM) && Ia ks
 | .call f args n _ _=> λF=> eqO (T.ga n) f && F.g n && Ai kn f && okL T G kn args F
 | .new c m args n _ _=> λF=> eqO (T.ga n) c && F.g n && okL T G kn args F && (match m with |false=> Ai G.objs c |true=> G.news.any λq=> Nat.beq q.1 c && Ai kn q.2)
 | .bcall f args _ _=> λF=> (Option.rec false F.g (T.bi f)) && bcB f && okL T G kn args F
 | .isi e k n _ _ _=> λF=> F.g T.ii && F.g n && okE T G kn e F && (match k with |0=> eqO (T.bi 6) n |k + 1=> eqO (T.ga n) (k + 1) && Ai G.isis (k + 1))
 | .mown o c f m args mp p=> λF=> CM o && HA mp p && Nat.blt args.length 30 && G.meths.any (Zo c f m) && Ai kn f && okE T G kn o F && okL T G kn args F
 | .mfld o alts m args mp p=> λF=> CM o && HA mp p && Nat.blt args.length 30 && alts.all (H7 T m) && G.dyns.all (Ai kn) && okE T G kn o F && okL T G kn args F
 | .mblt o k m args mp p=> λF=> CM o && HA mp p && Nat.blt args.length 30 && eqO (lkp G.bms m) k && okE T G kn o F && okL T G kn args F
 | .dele o c m mp p1 p2 p=> λF=> CM o && HA mp p && Nat.beq m G.rep && okE T G kn o F
 | .comp elt tg tn tps ik it ifs sc m _ _ tp _=> λF=> okE T G kn it F && Option.rec false (λnt=> okE T G kn elt (F.inner (G.scs sc) nt)) (IZ G F tg tn (CI ifs) ik sc m)
 | .frz e=> λF=> LS e && okE T G kn e F
 | .memv a d m mp vp _=> λF=> CM d && HA mp vp && Nat.beq m G.vals && okE T G kn a F && okE T G kn d F
def okL (T:Tb) (G:Gd) (kn:List Nat):List E->Fr->Bool
 | []=> λF=> true
 |e::r=> λF=> okE T G kn e F && okL T G kn r F
def okO (T:Tb) (G:Gd) (kn:List Nat):Option E->Fr->Bool
 |none=> λF=> true
 |some e=> λF=> okE T G kn e F
end
noncomputable def bmN (k:Nat):Str:=match k with |0=> "append" |1=> "extend" |2=> "pop" |4=> "index" |5=> "lower" |6=> "join" |_=> "split"
structure Gd.At (G:Gd) (B:Base):Prop where
 meth:∀q ∈ G.meths,MethAt B q.1 q.2.1 q.2.2
 obj:∀c ∈ G.objs,PC B c/\B.T.Z.new c false=BE c (AH B.T c).length
 new:∀q ∈ G.news,EU B q.1 q.2/\B.T.Z.new q.1 true=H9 q.1 (B.T.Z.fn q.2)
 exc:∀q ∈ G.excs,Ed B q.1 q.2/\q.2 <= 5/\B.T.Z.new q.1 false=BE q.1 (AH B.T q.1).length
 cat:∀q ∈ G.cats,MF B q.1 q.2/\∀k,B.T.cls q.1=some k->k.kind=2
 isi:∀k ∈ G.isis,Nu B k
 dyn:∀a,(a ∈ G.dyns/\B.T.Z.dyn a=B.T.Z.fn a)\/∀ws σ,∃n,B.T.Z.dyn a ws σ= .stuck n
 sc:∀n,(B.T.sc n).kind= .function/\(B.T.sc n).names=D6 B.T (G.scs n)/\∀q ∈ G.scs n,q.1 < B.T.cnt
 bm:∀q ∈ G.bms,Ai [0,1,2,4,5,6,7] q.2=true/\B.T.nm q.1=bmN q.2
 rep:B.T.nm G.rep= "replace"
 vals:B.T.nm G.vals= "values"
structure Gd.Ok (G:Gd) (B:Base) (kn:List Nat) (rk:Nat):Prop where
 at_:G.At B
 low:5 <= rk
 fn:∀f ∈ kn,(∃F,FnAt B f F)/\CE B f (B.T.Z.fn f) rk
structure Cok (G:Gd) (kn:List Nat) (rk:Nat) (C:Cx) (F:Fr):Prop where
 B:C.toBase.Ok
 OC:C.Ok
 ns:C.ns=F.ns
 sc:C.Sc F.ks
 mine:∀n ∈ F.own,AR C (C.T.nm n)
 R:DP C (rk + 1)
 G:G.Ok C.toBase kn rk
theorem ff {P:Prop} (h:false=true):P:=Bool.noConfusion h
theorem BD {o:Option Nat} {n:Nat} (h:eqO o n=true):o=some n:=by
 induction o using oC with
 |none=> exact ff h
 |some m=> rw [eBq (show Nat.beq m n=true from h)]
theorem IW {o:Option (Option Nat)} {n:Nat} (h:eqS o n=true):o=some (some n):=by
 induction o using oC with
 |none=> exact ff h
 |some m=> rw [BD (o:=m) h]
theorem AF {a b:Bool} (h:(a && b)=true):a=true/\b=true:=(Bool.and_eq_true_iff).mp h
theorem Bb {a b c:Bool} (h:(a && b && c)=true):a=true/\b=true/\c=true:=⟨(AF (AF h).1).1,(AF (AF h).1).2,(AF h).2⟩
theorem Bz {a b c d:Bool} (h:(a && b && c && d)=true):a=true/\b=true/\c=true/\d=true:=⟨(Bb (AF h).1).1,(Bb (AF h).1).2.1,(Bb (AF h).1).2.2,(AF h).2⟩
section
variable {G:Gd} {kn:List Nat} {rk:Nat} {C:Cx} {F:Fr}
theorem Cok.lt (Y:Cok G kn rk C F) {n k:Nat} (e:lkp F.ks n=some k):n < C.T.cnt:=Y.sc.lt _ (AY e)
theorem Cok.kind (Y:Cok G kn rk C F) {n k:Nat} (e:lkp F.ks n=some k):C.env.kindOf (C.T.nm n)=some (Bp k):=Y.sc.kind Y.B.names e
theorem Cok.glob (Y:Cok G kn rk C F) {n:Nat} (e:F.g n=true):C.env.kindOf (C.T.nm n)=some .globalImplicit/\(C.T.nm n==("__debug__" :Str))=false:=⟨Y.kind (BD e),(Y.B.names.plain n (Y.lt (BD e))).1⟩
theorem JO {T:Tb} {alts:NN} {a:Nat} (h:alts.all (I4 T a)=true):Ck T alts a:=λq hq=> by
 have h:I4 T a q=true:=List.all_eq_true.mp h q hq;unfold I4 at h;generalize hc:T.cls q.1=x9;induction x9 using oC with
 |none=> rw [hc] at h;exact ff h
 |some k=> rw [hc] at h;exact ⟨k,rfl,by rw [<- AL];exact BD h⟩
theorem LQ {T:Tb} {alts:NN} {a:Nat} (h:alts.all (H7 T a)=true):HF T alts a:=λq hq=> by
 have h:H7 T a q=true:=List.all_eq_true.mp h q hq;unfold H7 at h;generalize hc:T.cls q.1=x9;induction x9 using oC with
 |none=> rw [hc] at h;exact ff h
 |some k=>
  rw [hc] at h;obtain ⟨h1,h2⟩:=AF h;exact ⟨k,rfl,(λz=> by rw [z] at h1;exact ff h1),by rw [<- AL];exact BD h2⟩
theorem CE.le {B:Base} {a:Nat} {run:Run} {r r':Nat} (S:CE B a run r) (h:r <= r'):CE B a run r':=λC hC O R=> S C hC O ⟨by have:=R.depth;lia,by have:=R.units;lia,R.handled⟩
theorem Cok.fn (Y:Cok G kn rk C F) {f:Nat} (h:Ai kn f=true):Bi C (.ref f) (C.T.Z.fn f):=by
 obtain ⟨⟨Fn',H⟩,S⟩:=Y.G.fn f (B8 h);exact Mp Y.B Y.OC Y.R H (S.le (Nat.le_succ _))
theorem Cok.name (Y:Cok G kn rk C F) {n f:Nat} {fp:Pos} (g:F.g n=true) (h:eqO (C.T.ga n) f=true) {x:Wx} {l:LL} {s:Shared} {Q:VP} {E:VP} (i:In C x l s.heap) (q:Q (.ref f) s):wpAny C.M C.A (eval (.Name (C.T.nm n) fp) C.env) Q E s:=
 G6 Y.B Y.OC (Y.B.addr n f (BD h)) (Y.glob g).1 (Y.glob g).2 i q
end
theorem OR (T:Tb) (env:Env) (x:Value) (e:E):foldedSetIterable (den T e) env x=pure x:=by
 refine @E.rec (λe=> foldedSetIterable (den T e) env x=pure x) (λυ=> True) (λυ=> True) ?_ ?_ ?_ ?_ ?_ ?_ ?_ ?_ ?_ ?_ ?_ ?_ ?_ ?_ ?_ ?_ ?_ ?_ ?_ ?_ ?_ ?_ ?_ ?_ ?_ ?_ ?_ ?_ ?_ ?_ ?_ ?_ ?_ e <;> intros <;> first |trivial |rfl |assumption
theorem MK {T:Tb} {e:E} {env:Env} (h:LS e=true):∀w,isTrue (den T e) env w=(do let v <- w;standAt (den T e).pos;holding [v] (truthy v)):=by
 cases e <;> first |exact λυ=> rfl |exact ff h
abbrev EB (C:Cx) (e:E):Prop:=EOk C (den C.T e) (sem C.T.Z e)/\BOk C (den C.T e) (sem C.T.Z e)
theorem EB.mk' {C:Cx} {e:E} (h:LS e=true) (D:EOk C (den C.T e) (sem C.T.Z e)):EB C e:=⟨D,IA D (MK h)⟩
section
variable {G:Gd} {kn:List Nat} {rk:Nat} {C:Cx} {F:Fr}
theorem A5 {a b:Nat} (h:Nat.beq a b=true):a=b:=eBq h
theorem A4 {a b:Nat} (h:Nat.ble a b=true):a <= b:=lBl h
theorem Bv {a:Bool} (h:(!a)=true):a=false:=by induction a using bC with |true=> exact ff h |false=> rfl
theorem Rb {a b:Bool} (h:(!a ||b)=true) (z:a=true):b=true:=by rw [z] at h;exact h
theorem Ca {α:Type} {l:List α} (h:CI l=true):l= []:=by
 induction l using lC with
 |nil=> rfl
 |cons=> exact ff h
theorem L8 (Y:Cok G kn rk C F) {tg tn:List Nat} {ifs:List E} {ik sc nt:Nat} {m:Bool} (h:IZ G F tg tn (CI ifs) ik sc m=some nt):tg= [C.ns.length]/\tn= [nt]/\ifs= []/\ik=0/\m=false/\BZ C (G.scs sc) (C.T.sc sc) nt/\
  ∀cl L,(C.inner (C.T.sc sc) cl L (Bn (G.scs sc) C.ns nt)).Ok->Cok G kn rk (C.inner (C.T.sc sc) cl L (Bn (G.scs sc) C.ns nt)) (F.inner (G.scs sc) nt):=by
 obtain ⟨k,e1,h⟩:=AA h;obtain ⟨n',e2,h⟩:=AA h;obtain ⟨h0,z0⟩:=AJ h;cases z0;obtain ⟨h,ha⟩:=AF h0;obtain ⟨h,h4⟩:=AF h;obtain ⟨h0,h1,h2,h3⟩:=Bz h;obtain ⟨k1,k2,k3⟩:=Y.G.at_.sc sc;have hall:∀q ∈ G.scs sc,skB F (G.scs sc) q=true:=λq hq=> List.all_eq_true.mp ha q hq
 have S:BZ C (G.scs sc) (C.T.sc sc) nt:=by
  refine ⟨k1,k2,k3,λq hq hk=> ?_,λq hq=> ?_,λq hq hk=> ?_,BD h4⟩
  ·obtain ⟨_,b,_⟩:=Bb (hall q hq);obtain ⟨b1,b2⟩:=AF (Rb b (by rw [hk];rfl));have kc:=Y.kind (BD b1);refine ⟨kc, ?_⟩;rcases Y.mine _ (B8 b2) with z |⟨_,c,z,_⟩
   ·rw [kc] at z;clear h;cases z
   ·exact ⟨c,z⟩
  ·obtain ⟨a,_⟩:=Bb (hall q hq);exact Nat.ne_of_beq_eq_false (Bv a)
  ·obtain ⟨_,_,c⟩:=Bb (hall q hq);exact BD (Rb c (by rw [hk];rfl))
 exact ⟨by rw [D3 e1,A5 h1,Y.ns],D3 e2,Ca h0,A5 h2,Bv h3,S,λcl L oc=> ⟨Y.B,oc,by rw [Y.ns];rfl,S.He Y.OC,λn hn=> (nomatch hn),⟨Y.R.depth,Y.R.units,Y.R.handled⟩,Y.G⟩⟩
theorem SV {T:Tb} {Z:Sys} {vs:List E} (h:vs.all X0=true):∃l:List (W × Nat),(∀v ∈ l,EF v.1=true)/\vs=l.map (λv=> E.lit v.1 v.2)/\CL Z vs=l.map λv=> AQ v.1:=by
 induction vs with
 |nil=> exact ⟨[],λυ h=> (nomatch h),rfl,rfl⟩
 |cons e r ih=>
  rw [List.all_cons] at h;obtain ⟨h1,h2⟩:=AF h;induction e using E.casesOn with
  |lit x p=>
   clear h;obtain ⟨l,a,rfl,c⟩:=ih h2;refine ⟨(x,p)::l,λv hv=> ?_,rfl, ?_⟩
   ·clear h2 ih;rcases mCo hv with rfl |hv
    ·exact h1
    ·exact a v hv
   ·show AQ x::CL Z _=_;rw [c];rfl
  |_=> exact ff h1
theorem P5 {l:List (List Nat)} (h:Ia l=true):l.Nodup:=by
 induction l with
 |nil=> exact .nil
 |cons a r ih=>
  obtain ⟨h1,h2⟩:=AF (show (!(r.any (A9 a)) && Ia r)=true from h);refine List.nodup_cons.mpr ⟨λm=> ?_,ih h2⟩;rw [List.any_eq_true.mpr ⟨a,m,by rw [DD];exact decide_eq_true rfl⟩] at h1;exact ff h1
theorem aW (Y:Cok G kn rk C F) {f:Nat} (h:bcB f=true):Bi C (GG f) (BJ f):=by
 have m:=B8 h;simp only [List.mem_cons,List.not_mem_nil,or_false] at m;have hh:C.A.handled=none:=Y.R.handled;clear h;rcases m with rfl |rfl |rfl |rfl |rfl |rfl |rfl
 ·exact B1.callable (@Wl C) λυ=> ⟨_,rfl⟩
 ·exact B1.callable (@YW C) λυ=> ⟨_,rfl⟩
 ·exact B1.callable (@XR C) λυ=> ⟨_,rfl⟩
 ·exact B1.callable (@RU C Y.OC hh) λυ=> ⟨_,rfl⟩
 ·exact Mv Y.OC
 ·exact B1.callable (@SO C Y.OC) λυ=> ⟨_,rfl⟩
 ·exact B1.callable (@WX C) λυ=> ⟨_,rfl⟩
theorem Zq (Y:Cok G kn rk C F) {k:Nat} (h:Ai [0,1,2,4,5,6,7] k=true):Ez C k (bmN k):=by
 have m:=B8 h;simp only [List.mem_cons,List.not_mem_nil,or_false] at m;clear h;rcases m with rfl |rfl |rfl |rfl |rfl |rfl |rfl
 ·exact @Qu C Y.OC
 ·exact @Qh C Y.OC
 ·exact @WL C Y.OC
 ·exact @RW C
 ·exact @SW C
 ·exact @Vq C
 ·exact @bm_split C Y.OC
theorem WH (Y:Cok G kn rk C F) {c:Nat} {m:Bool} (h:(match m with |false=> Ai G.objs c |true=> G.news.any λq=> Nat.beq q.1 c && Ai kn q.2)=true):Bi C (.ref c) (C.T.Z.new c m):=by
 induction m using bC with
 |false=>
  obtain ⟨K,e⟩:=Y.G.at_.obj c (B8 h);rw [e];exact LJ Y.B Y.OC K (by have:=Y.R.depth;lia)
 |true=>
  obtain ⟨q,hq,h⟩:=List.any_eq_true.mp h;obtain ⟨h1,h2⟩:=AF h;cases A5 h1;obtain ⟨K,e⟩:=Y.G.at_.new q hq;rw [e];exact Kh Y.B Y.OC K (Y.G.fn _ (B8 h2)).2 Y.R
theorem Yt (Y:Cok G kn rk C F) (h:G.dyns.all (Ai kn)=true) (a:Addr):Gf C (.ref a) (C.T.Z.dyn a):=by
 rcases Y.G.at_.dyn a with ⟨m,e⟩ |e
 ·rw [e];exact .inl (Y.fn (List.all_eq_true.mp h a m))
 ·exact .inr e
end
abbrev P1 (T:Tb) (G:Gd) (kn:List Nat) (rk:Nat) (e:E):Prop:=∀C F,C.T=T->Cok G kn rk C F->okE T G kn e F=true->EB C e
abbrev P2 (T:Tb) (G:Gd) (kn:List Nat) (rk:Nat) (es:List E):Prop:=∀C F,C.T=T->Cok G kn rk C F->okL T G kn es F=true->AOk C es (CL C.T.Z es)/\Each (BOk C) (AV C.T es) (CL C.T.Z es)
abbrev P3 (T:Tb) (G:Gd) (kn:List Nat) (rk:Nat) (e:Option E):Prop:=∀C F,C.T=T->Cok G kn rk C F->okO T G kn e F=true->B0 C C.Fo (valueOrNone (evalOpt (N7 C.T e) C.env)) (JG (N5 C.T.Z e))
section
variable {T:Tb} {G:Gd} {kn:List Nat} {rk:Nat}
theorem E7 {mp p:Nat} (h:HA mp p=true):(AG mp).endLine=(AG p).line:=A5 h
theorem ZM {C:Cx} {F:Fr} (Y:Cok G kn rk C F) {e:E} {k n fp kp p:Nat} (D:EOk C (den C.T e) (sem C.T.Z e)) (h1:F.g C.T.ii=true) (h2:F.g n=true) (h4:(match k with |0=> eqO (C.T.bi 6) n |k + 1=> eqO (C.T.ga n) (k + 1) && Ai G.isis (k + 1))=true):EOk C (den C.T (.isi e k n fp kp p)) (sem C.T.Z (.isi e k n fp kp p)):=by
 obtain ⟨_,e2,_⟩:=Y.B.isi;have hi:C.env.kindOf "isinstance" =some .globalImplicit:=e2▸(Y.glob h1).1;induction k with
 |zero=>
  obtain ⟨_,e6,_⟩:=Y.B.bins 6 n (BD h4);exact K5 Y.B Y.OC (h:=So) hi D (λi q=> e6▸H5 Y.B Y.OC (show 6 < 10 by decide) (BD h4) (Y.glob h2).1 i q) λi r e q=> VS i r e q
 |succ k=>
  obtain ⟨h5,h6⟩:=AF h4;exact K5 Y.B Y.OC (h:=SG C.T.Z.all (C.T.Z.sub (k + 1))) hi D (λi q=> Y.name h2 h5 i q) λi r e q=> U7 Y.B (Y.G.at_.isi _ (B8 h6)) i r e q
theorem VK {C:Cx} {F:Fr} (Y:Cok G kn rk C F) {elt it:E} {tg tn tps:List Nat} {ik:Nat} {ifs:List E} {sc:Nat} {m:Bool} {fp ip tp p:Nat} (De:P1 C.T G kn rk elt) (D:EOk C (den C.T it) (sem C.T.Z it)) {nt:Nat} (h:IZ G F tg tn (CI ifs) ik sc m=some nt) (h2:okE C.T G kn elt (F.inner (G.scs sc) nt)=true):
  EOk C (den C.T (.comp elt tg tn tps ik it ifs sc m fp ip tp p)) (sem C.T.Z (.comp elt tg tn tps ik it ifs sc m fp ip tp p)):=by
 obtain ⟨rfl,rfl,rfl,rfl,rfl,S,inn⟩:=L8 Y h;exact Q3 Y.B Y.OC Y.R.handled S D (OR _ _ · _) λcl L oc=> (De (C.inner (C.T.sc sc) cl L (Bn (G.scs sc) C.ns nt)) (F.inner (G.scs sc) nt) rfl (inn cl L oc) h2).1
theorem CG (e:E):P1 T G kn rk e:=by
 refine @E.rec (P1 T G kn rk) (P3 T G kn rk) (P2 T G kn rk) ?_ ?_ ?_ ?_ ?_ ?_ ?_ ?_ ?_ ?_ ?_ ?_ ?_ ?_ ?_ ?_ ?_ ?_ ?_ ?_ ?_ ?_ ?_ ?_ ?_ ?_ ?_ ?_ ?_ ?_ ?_ ?_ ?_ e
 ·exact λx p C F hT Y h=> .mk' rfl (Lg x 0 _ h)
 ·exact λk n p C F hT Y h=> .mk' rfl (SM Y.OC (by rw [Y.ns];exact IW h))
 ·intro k n p C F hT Y h;subst hT;obtain ⟨h1,h2⟩:=AF h;exact .mk' rfl (PK Y.B Y.OC (BD h1) (Y.glob h2).1 (Y.glob h2).2)
 ·intro e alts a p ih C F hT Y h;subst hT;obtain ⟨h1,h2,h3⟩:=Bb h;exact .mk' rfl (QF Y.B (JO h1) (ih C F rfl Y h3).1 h2)
 ·intro e i p ih ih' C F hT Y h;obtain ⟨h1,h2⟩:=AF h;exact .mk' rfl (TN Y.B (simple _ _) (ih C F hT Y h1).1 (ih' C F hT Y h2).1)
 ·intro e lo hi sp p ih i1 i2 C F hT Y h;obtain ⟨h1,h2,h3⟩:=Bb h;exact .mk' rfl (TH Y.OC (ih C F hT Y h1).1 (i1 C F hT Y h2) (i2 C F hT Y h3))
 ·intro o a b m p ih ih' C F hT Y h;obtain ⟨h1,h2⟩:=AF h;exact .mk' rfl (Sz Y.OC (ih C F hT Y h1).1 (ih' C F hT Y h2).1)
 ·exact λa p ih C F hT Y h=> .mk' rfl (Rx (ih C F hT Y h).1)
 ·exact λa p ih C F hT Y h=> ⟨RE (ih C F hT Y h).1,S8 (ih C F hT Y h).2⟩
 ·intro t es p ih C F hT Y h;obtain ⟨h1,h2⟩:=ih C F hT Y h;exact ⟨Ms h1,N1 h2⟩
 ·intro a o b p ih ih' C F hT Y h;obtain ⟨h1,h2⟩:=AF h;exact ⟨HT (NF Y.OC o) (simple _ _) (ih C F hT Y h1).1 (ih' C F hT Y h2).1,Hn (NF Y.OC o) (simple _ _) (ih C F hT Y h1).1 (ih' C F hT Y h2).1⟩
 ·intro a neg cp p ih C F hT Y h;have S:DN (.Constant .none 0 (AG cp)):=simple C.T (.lit .none cp);have D:EOk C (.Constant .none 0 (AG cp)) (AQ .none):=Lg .none 0 _ rfl;exact ⟨HT (@M8 C neg) S (ih C F hT Y h).1 D,Hn (@M8 C neg) S (ih C F hT Y h).1 D⟩
 ·intro a b neg p ih ih' C F hT Y h;obtain ⟨h1,h2⟩:=AF h;exact ⟨HT (M0 Y.B neg) (simple _ _) (ih C F hT Y h1).1 (ih' C F hT Y h2).1,Hn (M0 Y.B neg) (simple _ _) (ih C F hT Y h1).1 (ih' C F hT Y h2).1⟩
 ·intro a o b o' c p i1 i2 i3 C F hT Y h;obtain ⟨h1,h2,h3⟩:=Bb h;exact ⟨QY Y.OC (simple _ _) (i1 C F hT Y h1).1 (i2 C F hT Y h2).1 (i3 C F hT Y h3).1,QQ Y.OC (simple _ _) (i1 C F hT Y h1).1 (i2 C F hT Y h2).1 (i3 C F hT Y h3).1⟩
 ·intro t a b p i1 i2 i3 C F hT Y h;obtain ⟨h1,h2,h3⟩:=Bb h;exact ⟨RL (i1 C F hT Y h1).2 (i2 C F hT Y h2).1 (i3 C F hT Y h3).1,Sk (i1 C F hT Y h1).2 (i2 C F hT Y h2).2 (i3 C F hT Y h3).2⟩
 ·exact λes p ih C F hT Y h=> .mk' rfl (Sv Y.OC (ih C F hT Y h).1)
 ·exact λes m p ih C F hT Y h=> .mk' rfl (Q8 Y.OC (ih C F hT Y h).1)
 ·intro ks vs kp p ih C F hT Y h;refine .mk' rfl ?_;obtain ⟨h,h6⟩:=AF h;obtain ⟨h,h5⟩:=AF h;obtain ⟨h1,h2,h3,h4⟩:=Bz h;clear h ih;obtain ⟨l,a,rfl,c⟩:=SV (T:=C.T) (Z:=C.T.Z) h1;show EOk C _ (Nx ks (CL C.T.Z _));rw [c];exact RA Y.B Y.OC (A5 h2) (by have:=A5 h3;rwa [List.length_map] at this) (A4 h4) (λk hk=> A4 (List.all_eq_true.mp h5 k hk)) a (P5 h6)
 ·intro f as n fp p ih C F hT Y h;subst hT;obtain ⟨h1,h2,h3,h4⟩:=Bz h;exact .mk' rfl (F6 (λi q=> Y.name h2 h1 i q) (Y.fn h3) (ih C F rfl Y h4).1)
 ·intro c m as n fp p ih C F hT Y h;subst hT;obtain ⟨h1,h2,h3,h4⟩:=Bz h;exact .mk' rfl (F6 (λi q=> Y.name h2 h1 i q) (WH Y h4) (ih C F rfl Y h3).1)
 ·intro f as fp p ih C F hT Y h;subst hT;obtain ⟨h1,h2,h3⟩:=Bb h;refine .mk' rfl ?_;generalize hb:C.T.bi f=x9;induction x9 using oC with
  |none=> rw [hb] at h1;exact nomatch h1
  |some n=>
   rw [hb] at h1;have hf:f < 10:=by
    have m:=B8 h2;simp only [List.mem_cons,List.not_mem_nil,or_false] at m;lia
   exact F6 (λi q=> H5 Y.B Y.OC hf hb (Y.glob h1).1 i q) (aW Y h2) (ih C F rfl Y h3).1
 ·intro e k n fp kp p ih C F hT Y h;subst hT;obtain ⟨h1,h2,h3,h4⟩:=Bz h;exact .mk' rfl (ZM Y (ih C F rfl Y h3).1 h1 h2 h4)
 ·intro o c f m as mp p ih ih' C F hT Y h;obtain ⟨h,h7⟩:=AF h;obtain ⟨h,h6⟩:=AF h;obtain ⟨h,h5⟩:=AF h;obtain ⟨h1,h2,h3,h4⟩:=Bz h;obtain ⟨q,hq,z⟩:=List.any_eq_true.mp h4;obtain ⟨z1,z2,z3⟩:=Bb z;have M:=Y.G.at_.meth q hq;rw [A5 z1,A5 z2,A5 z3] at M;exact .mk' rfl (TM Y.B (ih C F hT Y h6).1 h1 (E7 h2) (A4 h3) M (Y.fn h5) (ih' C F hT Y h7).1)
 ·intro o alts m as mp p ih ih' C F hT Y h;subst hT;obtain ⟨h,h7⟩:=AF h;obtain ⟨h,h6⟩:=AF h;obtain ⟨h,h5⟩:=AF h;obtain ⟨h1,h2,h3,h4⟩:=Bz h;exact .mk' rfl (Ra Y.B (LQ h4) (ih C F rfl Y h6).1 h1 (E7 h2) (A4 h3) (Yt Y h5) (ih' C F rfl Y h7).1)
 ·intro o k m as mp p ih ih' C F hT Y h;obtain ⟨h,h6⟩:=AF h;obtain ⟨h,h5⟩:=AF h;obtain ⟨h1,h2,h3,h4⟩:=Bz h;obtain ⟨b1,b2⟩:=Y.G.at_.bm _ (AY (BD h4));have K:Ez C k (C.T.nm m):=by rewrite [show C.T.nm m=bmN k from b2];exact @Zq G kn rk C F Y k b1
  exact .mk' rfl (Q6 (ih C F hT Y h5).1 h1 (E7 h2) (A4 h3) K (ih' C F hT Y h6).1)
 ·intro o c m mp p1 p2 p ih C F hT Y h;obtain ⟨h1,h2,h3,h4⟩:=Bz h;exact .mk' rfl (Sa (by rw [A5 h3];exact Y.G.at_.rep) (ih C F hT Y h4).1 h1 (E7 h2))
 ·intro elt tg tn tps ik it ifs sc m fp ip tp p De Di _ C F hT Y h;subst hT;refine .mk' rfl ?_;obtain ⟨h1,h2⟩:=AF h;generalize hc:IZ G F tg tn (CI ifs) ik sc m=x9;induction x9 using oC with
  |none=> rw [hc] at h2;exact nomatch h2
  |some nt=>
   rw [hc] at h2;exact VK Y De (Di C F rfl Y h1).1 hc h2
 ·intro e ih C F hT Y h;obtain ⟨h1,h2⟩:=AF h;have D:=RX Y.OC (ih C F hT Y h2).1;exact ⟨D,IA (e:=den C.T e) D (MK h1)⟩
 ·intro a d m mp vp p ih ih' C F hT Y h;obtain ⟨h,h5⟩:=AF h;obtain ⟨h1,h2,h3,h4⟩:=Bz h;have hn:C.T.nm m= "values" :=by rw [A5 h3];exact Y.G.at_.vals
  exact V1 Y.OC Y.R.handled hn (ih C F hT Y h4).1 (ih' C F hT Y h5).1 h1 (E7 h2)
 ·exact λC F hT Y h=> J5 (.inl ⟨rfl,rfl⟩)
 ·exact λe ih C F hT Y h=> J5 (.inr ⟨_,_,rfl,rfl,(ih C F hT Y h).1⟩)
 ·exact λC F hT Y h=> ⟨rfl,rfl⟩
 ·intro e r ih ih' C F hT Y h;obtain ⟨h1,h2⟩:=AF h;obtain ⟨a,b⟩:=ih C F hT Y h1;obtain ⟨c,d⟩:=ih' C F hT Y h2;exact ⟨⟨_,_,rfl,a,c⟩,⟨_,_,rfl,b,d⟩⟩
end
def EL (e:E):Bool:=match e with
 | .frz e=> Lb e
 |e=> Lb e
def Jp (F:Fr) (k n:Nat):Bool:=eqS (nth F.ns k) n && Ai F.own n
def okT (T:Tb) (G:Gd) (kn:List Nat) (F:Fr) (t:AR.T):Bool:=match t with
 | .loc k n _=> Jp F k n
 | .attr e alts a _=> alts.all (H7 T a) && okE T G kn e F
 | .idx e i _=> okE T G kn e F && okE T G kn i F
noncomputable def ZK (n:Nat) (q:Nat × Nat):Bool:= !(Nat.beq q.1 n && (Nat.beq q.2 0 ||Nat.beq q.2 1))
noncomputable def Tn (P:Nat->Nat->Bool) (e:E):Bool:=match e with
 | .comp _ _ _ _ _ _ _ sc _ _ _ _ p=> P sc p
 |_=> false
def OF (G:Gd) (F:Fr) (t:AR.T) (e:E):Bool:=match t with
 | .loc _ n py=> Tn (λsc p=> eqO (lkp F.ks n) 0 && Nat.beq (AG py).line (AG p).line && (G.scs sc).all (ZK n)) e
 | .attr .. => false
 | .idx .. => false
def WI (T:Tb) (e:E):Bool:=match e with
 | .tup es _=> !((AV T es).all (constantsAlone 8)) ||(AV T es).all (foldedForSure 8)
 | .frz _=> false
 |_=> true
def E8:List Nat->Bool
 | []=> true
 |a::r=> !(Ai r a) && E8 r
def UX (ts:List AR.T):Bool:=Option.rec true (λp=> E8 p.1) (DO ts)
def OB (F:Fr) (tg:List Nat):List Nat->List Nat->Bool:=List.rec (λtn tps=> CI tn && CI tps) (λk υ ih tn tps=> List.rec false (λn ns υ=> List.rec false (λυ ps υ=> Jp F k n && ih ns ps) tps) tn) tg
def RV (F:Fr) (k:Nat) (tn:List Nat) (ik:Nat):Bool:=Option.rec false (λn=> Jp F k n && Nat.blt ik 2) (one tn)
def tgB (F:Fr) (tg tn tps:List Nat) (ik:Nat):Bool:=Option.rec (Nat.ble 2 tg.length && OB F tg tn tps) (λk=> RV F k tn ik) (one tg)
noncomputable def itB (T:Tb) (F:Fr) (ik:Nat):Bool:=match ik with
 |0=> true
 |1=> Option.rec false F.g (T.bi 8)
 |_=> Option.rec false F.g (T.bi 9)
def TU (T:Tb) (G:Gd) (F:Fr) (c n:Nat):Bool:=NJ (lkp G.excs c) && eqO (T.ga n) c && F.g n
def Sh (P:Nat->List E->Nat->Bool) (e:E):Bool:=match e with
 | .new c m args n _ _=> !m && P c args n
 |_=> false
def PU (T:Tb) (G:Gd) (kn:List Nat) (F:Fr) (e:E):Bool:=Sh (λc args n=> TU T G F c n && okL T G kn args F) e
noncomputable def L9 (P:Nat->Nat->Bool) (e:E):Bool:=match e with
 | .loc k n _=> P k n
 |_=> false
def Qe (T:Tb) (F:Fr) (e:E):Bool:=match e with
 | .lit x _=> EF x
 | .attr o alts a _=> alts.all (I4 T a) && L9 (λk n=> eqS (nth F.ns k) n) o
 |_=> false
def Wq (G:Gd) (F:Fr) (k n:Nat):Bool:=eqO (lkp G.cats k) n && F.g n
def OI (T:Tb) (k n:Nat) (e:E):Bool:=match e with
 | .attr o alts a _=> alts.all (I4 T a) && L9 (λk' n'=> Nat.beq k' k && Nat.beq n' n) o
 |_=> false
def bj (P:E->E->Bool) (l:List E):Bool:=match l with
 | []=> false
 |a::r=> List.rec false (λb r' υ=> CI r' && P a b) r
def Nl (P:E->E->Bool) (e:E):Bool:=match e with
 | .tup es _=> bj P es
 |_=> false
def XW (T:Tb) (G:Gd) (F:Fr) (k:Nat) (t:S):Bool:=match t with
 | .raise e _=> Sh (λc args n=> !(T.ctx k) && T.ctx c && TU T G F c n && args.all (Qe T F)) e
 |_=> false
def aI (T:Tb) (k n:Nat) (e:E):Bool:=Nl (λa r=> OI T k n a && Nl (λb c=> OI T k n b && OI T k n c) r) e
def Wj (T:Tb) (F:Fr) (k n:Nat) (t:S):Bool:=match t with
 | .ret o _=> eqS (nth F.ns k) n && eqO (lkp F.ks n) 0 && Option.rec false (aI T k n) o
 |_=> false
def UJ (T:Tb) (G:Gd) (F:Fr) (k:Nat) (name:Option (Nat × Nat)) (h:List S):Bool:=match h with
 | []=> false
 |t::r=> CI r && Option.rec (XW T G F k t) (λnn=> Wj T F nn.1 nn.2 t) name
mutual
def okS (T:Tb) (G:Gd) (kn:List Nat):S->Fr->Bool
 | .asg t e _=> λF=> okT T G kn F t && okE T G kn e F && (EL e ||OF G F t e)
 | .asgT ts e _ _=> λF=> okE T G kn e F && EL e && WI T e && ts.all (okT T G kn F) && UX ts
 | .expr e _=> λF=> okE T G kn e F && EL e
 | .ret e _=> λF=> okO T G kn e F
 | .ite t a b _=> λF=> okE T G kn t F && okB T G kn a F && okB T G kn b F
 | .while t b _=> λF=> okE T G kn t F && okB T G kn b F
 | .for tg tn tps ik it b _ _ _ _=> λF=> okE T G kn it F && tgB F tg tn tps ik && itB T F ik && okB T G kn b F
 | .raise e _=> λF=> PU T G kn F e
 | .try b k name h n _ _ _=> λF=> okB T G kn b F && Wq G F k n && UJ T G F k name h
 | .pass _=> λF=> true
def okB (T:Tb) (G:Gd) (kn:List Nat):List S->Fr->Bool
 | []=> λF=> true
 |s::r=> λF=> okS T G kn s F && okB T G kn r F
end
theorem GY {T:Tb} {e:E} (h:EL e=true):Ee (den T e):=by
 induction e using E.casesOn with
 |frz e=> exact G9 (T:=T) (e:=e) h
 |comp=> exact ff h
 |_=> exact G9 rfl
section
variable {T:Tb} {G:Gd} {kn:List Nat} {rk:Nat} {C:Cx} {F:Fr}
theorem DL (Y:Cok G kn rk C F) {k n:Nat} (h:Jp F k n=true):nth C.ns k=some (some n)/\AR C (C.T.nm n):=by
 obtain ⟨h1,h2⟩:=AF h;exact ⟨by rw [Y.ns];exact IW h1,Y.mine n (B8 h2)⟩
theorem QN (hT:C.T=T) (Y:Cok G kn rk C F) {t:AR.T} (h:okT T G kn F t=true):TOk C (GI C.T t) (RJ C.T.Z t):=by
 subst hT;induction t using T.casesOn with
 |loc k n p=> obtain ⟨h1,h2⟩:=DL Y h;exact UM Y.OC h1 h2
 |attr e alts a p=> obtain ⟨h1,h2⟩:=AF h;exact YA Y.B Y.OC (LQ h1) (CG e C F rfl Y h2).1
 |idx e i p=> obtain ⟨h1,h2⟩:=AF h;exact bI Y.B Y.OC (CG e C F rfl Y h1).1 (CG i C F rfl Y h2).1
theorem Uk (hT:C.T=T) (Y:Cok G kn rk C F) {ts:List AR.T} (h:ts.all (okT T G kn F)=true):FW C (Cv C.T ts) (EE C.T.Z ts):=by
 induction ts with
 |nil=> rfl
 |cons t ts ih=>
  rw [List.all_cons] at h;obtain ⟨h1,h2⟩:=AF h;exact ⟨_,_,rfl,QN hT Y h1,target _ t,ih h2⟩
theorem Et {l:List Nat} (h:E8 l=true):l.Nodup:=by
 induction l with
 |nil=> exact .nil
 |cons a r ih=>
  obtain ⟨h1,h2⟩:=AF (show (!(Ai r a) && E8 r)=true from h);refine List.nodup_cons.mpr ⟨λm=> ?_,ih h2⟩;have:Ai r a=true:=by
   clear h h1 h2 ih;induction r with
   |nil=> exact nomatch m
   |cons b r ih=>
    show Bool.rec (motive:=λυ=> Bool) (Ai r a) true (Nat.beq b a)=true;generalize hb:Nat.beq b a=x9;induction x9 using bC with
    |true=> rfl
    |false=>
     rcases mCo m with rfl |m
     ·exact absurd rfl (Nat.ne_of_beq_eq_false hb)
     ·exact ih m
  rw [this] at h1;exact ff h1
theorem V5 (Y:Cok G kn rk C F) {ts:List AR.T} {p:List Nat × List Nat} (h:ts.all (okT T G kn F)=true) (e:DO ts=some p):OV C p.1 p.2:=by
 induction ts generalizing p with
 |nil=> clear h;cases e;trivial
 |cons t ts ih=>
  cases t with
  |loc k n q=>
   rw [List.all_cons] at h;obtain ⟨h1,h2⟩:=AF h;clear h;obtain ⟨q,e1,rfl⟩:=Option.map_eq_some_iff.mp (show Option.map _ (DO ts)=some p from e);exact ⟨(DL Y h1).1,(DL Y h1).2,ih h2 e1⟩
  |attr=> exact nn e
  |idx=> exact nn e
theorem V8 (Y:Cok G kn rk C F) {tg tn tps:List Nat} (h:OB F tg tn tps=true):FW C (IJ C.T tn tps) (tg.map Bk):=by
 induction tg generalizing tn tps with
 |nil=>
  obtain ⟨h1,h2⟩:=AF (show (CI tn && CI tps)=true from h);rw [Ca h1];rfl
 |cons k ks ih=>
  induction tn using lC with
  |nil=> exact ff h
  |cons n ns=>
   induction tps using lC with
   |nil=> exact ff h
   |cons p ps=>
    obtain ⟨h1,h2⟩:=AF (show (Jp F k n && OB F ks ns ps)=true from h);exact ⟨_,_,rfl,UM Y.OC (DL Y h1).1 (DL Y h1).2,target C.T (.loc k n p),ih h2⟩
end
abbrev Q1 (T:Tb) (G:Gd) (kn:List Nat) (rk:Nat) (t:S):Prop:=∀C F,C.T=T->Cok G kn rk C F->okS T G kn t F=true->SOk C (GN C.T t) (BK C.T.Z t)
abbrev Q2 (T:Tb) (G:Gd) (kn:List Nat) (rk:Nat) (b:List S):Prop:=∀C F,C.T=T->Cok G kn rk C F->okB T G kn b F=true->CU C (B6 C.T b) (block (Ay C.T.Z b))
section
variable {T:Tb} {G:Gd} {kn:List Nat} {rk:Nat} {C:Cx} {F:Fr}
theorem Zz (Y:Cok G kn rk C F) {tg tn tps:List Nat} {ik tp:Nat} (h:tgB F tg tn tps ik=true):F7 C (tgD C.T tn tps tp) tg/\(2 <= ik->∃ts,tgD C.T tn tps tp= .Tuple ts 0 (AG tp)):=by
 unfold tgB at h;generalize e1:one tg=x9;induction x9 using oC with
 |some k=>
  rw [e1] at h;have h:RV F k tn ik=true:=h;unfold RV at h;generalize e2:one tn=x9;induction x9 using oC with
  |none=> rw [e2] at h;exact ff h
  |some n=>
   rw [e2] at h;obtain ⟨h1,h2⟩:=AF h;rw [D3 e1,D3 e2];exact ⟨Pn Y.OC (DL Y h1).1 (DL Y h1).2,λz=> absurd (A4 h2) (Nat.not_le.mpr (Nat.lt_succ_of_le z))⟩
 |none=>
  rw [e1] at h;obtain ⟨h1,h2⟩:=AF h;have e:tgD C.T tn tps tp= .Tuple (IJ C.T tn tps) 0 (AG tp):=by
   induction tn using lC with
   |nil=> rfl
   |cons n tn=>
    induction tn using lC with
    |cons=> rfl
    |nil=>
     induction tg using lC with
     |nil=> exact ff h1
     |cons k tg=>
      induction tg using lC with
      |nil=> exact ff h1
      |cons k' r=>
       induction tps using lC with
       |nil=> exact ff h2
       |cons p ps=> exact ff (AF h2).2
  rw [e];exact ⟨Vf Y.OC Y.R.handled (V8 Y h2) (A4 h1),λυ=> ⟨_,rfl⟩⟩
theorem Yp (Y:Cok G kn rk C F) {tg tn tps:List Nat} {ik tp fp ip p:Nat} {it:E} {b:List S} (D:EOk C (den C.T it) (sem C.T.Z it)) (h1:tgB F tg tn tps ik=true) (h2:itB C.T F ik=true) (K:CU C (B6 C.T b) (block (Ay C.T.Z b))):
  SOk C (GN C.T (.for tg tn tps ik it b fp ip tp p)) (BK C.T.Z (.for tg tn tps ik it b fp ip tp p)):=by
 obtain ⟨t1,t2⟩:=Zz (tp:=tp) Y h1;have hh:C.A.handled=none:=Y.R.handled
 match ik with
 |0=> exact H3 Y.OC (OR _ _ · _) (Th Y.OC hh D) t1 K
 |1=>
  unfold itB at h2;generalize hb:C.T.bi 8=x9;induction x9 using oC with
  |none=> rw [hb] at h2;exact ff h2
  |some n=> rw [hb] at h2;exact H3 Y.OC (λυ=> rfl) (S1 Y.B Y.OC hh hb (Y.glob h2).1 D) t1 K
 |k + 2=>
  unfold itB at h2;obtain ⟨ts,e⟩:=t2 (Nat.le_add_left 2 k);rw [e] at t1;show SOk C (.For (tgD C.T tn tps tp) _ _ _ _) _;rw [e];generalize hb:C.T.bi 9=x9;induction x9 using oC with
  |none=> rw [hb] at h2;exact ff h2
  |some n=> rw [hb] at h2;exact H3 Y.OC (λυ=> rfl) (Vz Y.B Y.OC hh (Nat.le_add_left 2 k) hb (Y.glob h2).1 D) t1 K
theorem Qz (Y:Cok G kn rk C F) {c n:Nat} (h:TU C.T G F c n=true):∃r,Ed C.toBase c r/\C.A.depth + r + 1 < recursionLimit/\C.T.Z.new c false=BE c (AH C.T c).length/\nsIn C.KF mainGlobals (C.T.nm n)=some (some (.ref c))/\C.env.kindOf (C.T.nm n)=some .globalImplicit/\(C.T.nm n==("__debug__" :Str))=false:=by
 obtain ⟨h1,h2,h3⟩:=Bb h;generalize e:lkp G.excs c=x9;induction x9 using oC with
 |none=> rw [e] at h1;exact ff h1
 |some r=>
  obtain ⟨k1,k2,k3⟩:=Y.G.at_.exc _ (AY e);have:=Y.R.depth;have:=Y.G.low;exact ⟨r,k1,by dsimp only at k2;lia,k3,Y.B.addr n c (BD h2),Y.glob h3⟩
theorem YB (Y:Cok G kn rk C F) {es:List E} (h:okL C.T G kn es F=true):AOk C es (CL C.T.Z es):=by
 induction es with
 |nil=> rfl
 |cons a r ih=> obtain ⟨a1,a2⟩:=AF h;exact ⟨_,_,rfl,(CG a C F rfl Y a1).1,ih a2⟩
theorem Nj {P:Nat->List E->Nat->Bool} {e:E} (h:Sh P e=true):∃c as n fp p,e= .new c false as n fp p/\P c as n=true:=by
 induction e using E.casesOn with
 |new c m as n fp p=>
  obtain ⟨h1,h2⟩:=AF h;induction m using bC with
  |true=> exact ff h1
  |false=> exact ⟨c,as,n,fp,p,rfl,h2⟩
 |_=> exact ff h
theorem Ru (Y:Cok G kn rk C F) {e:E} {p:Nat} (h:PU C.T G kn F e=true):SOk C (GN C.T (.raise e p)) (BK C.T.Z (.raise e p)):=by
 obtain ⟨c,as,n,fp,p',rfl,h⟩:=Nj h;obtain ⟨h1,h2⟩:=AF h;obtain ⟨r,R,room,z,g,k1,k2⟩:=Qz Y h1;have D:=YB Y h2;show SOk C _ (EW (AZ (C.T.Z.new c false) _));rw [z];exact Ob Y.B Y.OC R room Y.R.handled g k1 k2 D
theorem Gq {P:Nat->Nat->Bool} {e:E} (h:L9 P e=true):∃k n p,e= .loc k n p/\P k n=true:=by
 induction e using E.casesOn with
 |loc k n p=> exact ⟨k,n,p,rfl,h⟩
 |_=> exact ff h
theorem R2 (Y:Cok G kn rk C F) {es:List E} (h:es.all (Qe C.T F)=true) (e:Value):Each (Quiet (C.hd e)) (AV C.T es) (CL C.T.Z es):=by
 induction es with
 |nil=> rfl
 |cons a r ih=>
  rw [List.all_cons] at h;obtain ⟨h1,h2⟩:=AF h;induction a using E.casesOn with
  |lit x p=> exact ⟨_,_,rfl, @Pg (C.hd e) x 0 _ h1,ih h2⟩
  |attr o alts a' p' =>
   obtain ⟨h3,h4⟩:=AF h1;clear h h1;obtain ⟨k,n,p,rfl,h5⟩:=Gq h4;exact ⟨_,_,rfl, @OO (C.hd e) Y.B (Cx.Ke Y.OC) k n a' alts _ _ (JO h3) (by show nth C.ns k=_;rw [Y.ns];exact IW h5),ih h2⟩
  |_=> exact ff h1
theorem LP {k n:Nat} {e:E} (h:OI T k n e=true):∃q alts a q',e= .attr (.loc k n q) alts a q'/\Ck T alts a:=by
 induction e using E.casesOn with
 |attr o alts a q' =>
  obtain ⟨h1,h2⟩:=AF h;clear h;obtain ⟨k',n',q,rfl,h3⟩:=Gq h2;obtain ⟨h4,h5⟩:=AF h3;rw [A5 h4,A5 h5];exact ⟨_,_,_,_,rfl,JO h1⟩
 |_=> exact ff h
theorem LK {P:E->E->Bool} {e:E} (h:Nl P e=true):∃a b p,e= .tup [a,b] p/\P a b=true:=by
 induction e using E.casesOn with
 |tup es p=>
  induction es using lC with
  |nil=> exact ff h
  |cons a r=>
   induction r using lC with
   |nil=> exact ff h
   |cons b r=>
    obtain ⟨h1,h2⟩:=AF (show (CI r && P a b)=true from h);rw [Ca h1];exact ⟨a,b,p,rfl,h2⟩
 |_=> exact ff h
theorem WU (Y:Cok G kn rk C F) {b h:List S} {k n cp hp p:Nat} {name:Option (Nat × Nat)} (D:CU C (B6 C.T b) (block (Ay C.T.Z b))) (h1:Wq G F k n=true) (h2:UJ C.T G F k name h=true):
  SOk C (GN C.T (.try b k name h n cp hp p)) (BK C.T.Z (.try b k name h n cp hp p)):=by
 obtain ⟨c1,c2⟩:=AF h1;obtain ⟨K,kind⟩:=Y.G.at_.cat _ (AY (BD c1));show SOk C _ (HY _ (C.T.Z.sub k) name (block (Ay C.T.Z h)));rw [show C.T.Z.sub k= [k] from K.sub];induction h using lC with
 |nil=> exact ff h2
 |cons t r=>
  obtain ⟨z,h2⟩:=AF h2;rw [Ca z];induction name using oC with
  |none=>
   induction t using S.casesOn with
   |raise e pos=>
    obtain ⟨c,as,n',fp,p',rfl,h2⟩:=Nj h2;obtain ⟨h3,h4,h5,h6⟩:=Bz h2;obtain ⟨r,R,room,z,g,k1,k2⟩:=Qz Y h5;show SOk C _ (HY _ _ _ (block [EW (AZ (C.T.Z.new c false) _)]));rw [z];exact Qa Y.B Y.OC D K (Y.glob c2).1 (Y.glob c2).2 (Bv h3) R room h4 g k1 k2 λe=> R2 Y h6 e
   |_=> exact ff h2
  |some nn=>
   induction t using S.casesOn with
   |ret o pos=>
    obtain ⟨a1,a2,a3⟩:=Bb h2;induction o using oC with
    |none=> exact ff a3
    |some e=>
     clear h2;obtain ⟨a,r,q8,rfl,b1⟩:=LK a3;obtain ⟨b2,b3⟩:=AF b1;clear a3 b1 h2;obtain ⟨b',c,q7,rfl,b4⟩:=LK b3;obtain ⟨b5,b6⟩:=AF b4;clear b3 b4;obtain ⟨q1,al1,f1,q2,rfl,A1⟩:=LP b2;clear b2;obtain ⟨q3,al2,f2,q4,rfl,A2⟩:=LP b5;clear b5;obtain ⟨q5,al3,f3,q6,rfl,A3⟩:=LP b6;exact QT Y.B Y.OC D K (Y.glob c2).1 (Y.glob c2).2 kind (by rw [Y.ns];exact IW a1) (Y.kind (BD a2)) A1 A2 A3
   |_=> exact ff h2
theorem Q7 {P:Nat->Nat->Bool} {e:E} (h:Tn P e=true):∃elt tg tn tps ik it ifs sc m fp ip tp p,e= .comp elt tg tn tps ik it ifs sc m fp ip tp p/\P sc p=true:=by
 induction e using E.casesOn with
 |comp elt tg tn tps ik it ifs sc m fp ip tp p=> exact ⟨_,_,_,_,_,_,_,_,_,_,_,_,_,rfl,h⟩
 |_=> exact ff h
theorem RP (Y:Cok G kn rk C F) {k n py p:Nat} {e:E} (h1:Jp F k n=true) (h2:okE C.T G kn e F=true) (h3:OF G F (.loc k n py) e=true):SOk C (GN C.T (.asg (.loc k n py) e p)) (BK C.T.Z (.asg (.loc k n py) e p)):=by
 obtain ⟨elt,tg,tn,tps,ik,it,ifs,sc,m,fp,ip,tp,pos,rfl,h3⟩:=Q7 h3;obtain ⟨s1,s2,s3⟩:=Bb h3;obtain ⟨e1,e2⟩:=AF h2;generalize hb:IZ G F tg tn (CI ifs) ik sc m=x9;induction x9 using oC with
 |none=> rw [hb] at e2;exact ff e2
 |some nt=>
  rw [hb] at e2;clear h2 h3;obtain ⟨rfl,rfl,rfl,rfl,rfl,S,inn⟩:=L8 Y hb;have hk:=Y.kind (BD s1);refine QV Y.B Y.OC Y.R.handled S (CG it C F rfl Y e1).1 (OR _ _ · _) (λcl L oc=> (CG elt (C.inner (C.T.sc sc) cl L (Bn (G.scs sc) C.ns nt)) (F.inner (G.scs sc) nt) rfl (inn cl L oc) e2).1) (DL Y h1).1 (DL Y h1).2 ?_;have b1:(C.env.blockKind==ScopeKind.function)=true:=by unfold Env.blockKind;rw [Y.OC.kind];rfl
  have b2:(C.env.kindOf (C.T.nm n)==some NameKind.local)=true:=by rw [hk];rfl
  have b3:((AG py).line==(AG pos).line)=true:=by rw [A5 s2];exact beq_self_eq_true _
  have b4:((C.T.sc sc).names.any λx=> x.1==C.T.nm n && (x.2==NameKind.local ||x.2==NameKind.cell))=false:=by
   rw [S.names,List.any_eq_false];intro x hx;clear h3 hb;obtain ⟨q,hq,rfl⟩:=List.mem_map.mp hx;have ho:=Bv (List.all_eq_true.mp s3 q hq);dsimp only;rw [Y.B.names.is (Y.lt (BD s1)) (S.lt q hq)];intro z;obtain ⟨z1,z2⟩:=AF z;rw [of_decide_eq_true z1,Nat.beq_refl] at ho;have ho:(Nat.beq q.2 0 ||Nat.beq q.2 1)=false:=ho;have:∀j,(Bp j==NameKind.local ||Bp j==NameKind.cell)=true->(Nat.beq j 0 ||Nat.beq j 1)=true:=λj=> by
    rcases j with _ |_ |_ |_ |j <;> intro z <;> first |rfl |exact ff z
   rw [this _ z2] at ho;exact ff ho.symm
  show pure (C.env.blockKind==ScopeKind.function && C.env.kindOf (C.T.nm n)==some NameKind.local && (AG py).line==(AG pos).line && !((C.T.sc sc).names.any λx=> x.1==C.T.nm n && (x.2==NameKind.local ||x.2==NameKind.cell)))=_;rw [b1,b2,b3,b4];rfl
theorem Xw (Y:Cok G kn rk C F) {t:AR.T} {e:E} {p:Nat} (h1:okT C.T G kn F t=true) (h2:okE C.T G kn e F=true) (h3:(EL e ||OF G F t e)=true):SOk C (GN C.T (.asg t e p)) (BK C.T.Z (.asg t e p)):=by
 generalize hc:EL e=x9;induction x9 using bC with
 |true=> exact TJ (target _ t) (CG e C F rfl Y h2).1 (GY hc) (QN rfl Y h1)
 |false=>
  rw [hc] at h3;induction t using T.casesOn with
  |loc k n py=> exact RP Y h1 h2 h3
  |attr=> exact ff h3
  |idx=> exact ff h3
noncomputable def du (e:PySem.Expr):Bool:=match e with | .Tuple .. => true |_=> false
theorem Y6 (t:S):Q1 T G kn rk t:=by
 refine @S.rec (Q1 T G kn rk) (Q2 T G kn rk) ?_ ?_ ?_ ?_ ?_ ?_ ?_ ?_ ?_ ?_ ?_ ?_ t
 ·intro t e p C F hT Y h;subst hT;obtain ⟨h1,h2,h3⟩:=Bb h;exact Xw Y h1 h2 h3
 ·intro ts e tp p C F hT Y h;subst hT;obtain ⟨h,h5⟩:=AF h;obtain ⟨h1,h2,h3,h4⟩:=Bz h;refine QD Y.OC Y.R.handled (CG e C F rfl Y h1).1 (GY h2) ⟨λvs k p z a=> ?_⟩ (Uk rfl Y h4) λp z=> ⟨V5 Y h4 z, ?_⟩
  ·induction e using E.casesOn with
   |tup es q=> clear h h1 h2;cases z;exact Rb h3 a
   |frz=> exact ff h3
   |_=> exact ff (congrArg du z)
  ·unfold UX at h5;rw [z] at h5;exact Et h5
 ·intro e p C F hT Y h;obtain ⟨h1,h2⟩:=AF h;exact Qf Y.OC (CG e C F hT Y h1).1 (GY h2)
 ·intro e p C F hT Y h;induction e using oC with
  |none=> exact Pm
  |some e=> exact Rm (CG e C F hT Y h).1
 ·intro t a b p ih ih' C F hT Y h;obtain ⟨h1,h2,h3⟩:=Bb h;exact WB (CG t C F hT Y h1).2 (ih C F hT Y h2) (ih' C F hT Y h3)
 ·intro t b p ih C F hT Y h;obtain ⟨h1,h2⟩:=AF h;exact OT Y.OC (CG t C F hT Y h1).2 (ih C F hT Y h2)
 ·intro tg tn tps ik it b fp ip tp p ih C F hT Y h;subst hT;obtain ⟨h1,h2,h3,h4⟩:=Bz h;exact Yp Y (CG it C F rfl Y h1).1 h2 h3 (ih C F rfl Y h4)
 ·intro e p C F hT Y h;subst hT;exact Ru Y h
 ·intro b k name h n cp hp p ih _ C F hT Y hh;subst hT;obtain ⟨h1,h2,h3⟩:=Bb hh;exact WU Y (ih C F rfl Y h1) h2 h3
 ·exact λp C F hT Y h=> PX
 ·exact λC F hT Y h=> M3
 ·intro t r ih ih' C F hT Y h;obtain ⟨h1,h2⟩:=AF h;exact MC (ih C F hT Y h1) (ih' C F hT Y h2)
theorem Qv (b:List S):Q2 T G kn rk b:=by
 induction b with
 |nil=> exact λC F hT Y h=> M3
 |cons t r ih=>
  intro C F hT Y h;obtain ⟨h1,h2⟩:=AF h;exact MC (Y6 t C F hT Y h1) (ih C F hT Y h2)
end
noncomputable def nrW (w:W):Bool:=W.rec (motive_1:=λυ=> Bool) (motive_2:=λυ=> Bool) true (λυ=> true) (λυ=> true) (λυ=> true) (λυ=> true) (λυ=> true) (λυ=> false) (λυ b=> b) (λυ b=> b) (λυ υ b=> b) (λυ υ b=> b) true (λυ υ a b=> Bool.rec false b a) w
noncomputable def nrL (l:List W):Bool:=W.rec_1 (motive_1:=λυ=> Bool) (motive_2:=λυ=> Bool) true (λυ=> true) (λυ=> true) (λυ=> true) (λυ=> true) (λυ=> true) (λυ=> false) (λυ b=> b) (λυ b=> b) (λυ υ b=> b) (λυ υ b=> b) true (λυ υ a b=> Bool.rec false b a) l
theorem C4 {w:W} {r:List W} (h:nrL (w::r)=true):nrW w=true/\nrL r=true:=by
 have h:Bool.rec (motive:=λυ=> Bool) false (nrL r) (nrW w)=true:=h;generalize e:nrW w=x9;induction x9 using bC with
 |false=> rw [e] at h;exact ff h
 |true=> rw [e] at h;exact ⟨rfl,h⟩
section
variable {T:Tb} {F:Ad} {μ μ':Mu}
mutual
theorem Rel.nr:∀{w:W} {v:Value},nrW w=true->Rel T F μ w v->Rel T F μ' w v
 | .none,_,_,h=> h
 | .bool _,_,_,h=> h
 | .int _,_,_,h=> h
 | .str _,_,_,h=> h
 | .bytes _,_,_,h=> h
 | .fn _,_,_,h=> h
 | .ref i,_,e,h=> ff e
 | .tup l,_,e,⟨a,vs,n,h1,h2,h3,h4⟩=> ⟨a,vs,n,h1,h2,h3,AD.nr (l:=l) e h4⟩
 | .lst l,_,e,⟨a,vs,n,h1,h2,h3,h4⟩=> ⟨a,vs,n,h1,h2,h3,AD.nr (l:=l) e h4⟩
 | .dct _ l,_,e,⟨a,es,n,h1,h2,h3,h4⟩=> ⟨a,es,n,h1,h2,h3,CT.nr (l:=l) e h4⟩
 | .obj _ l,_,e,⟨a,o,d,es,n,h1,h2,h3,h4,h5,h6,h7⟩=> ⟨a,o,d,es,n,h1,h2,h3,h4,h5,h6,Af.nr (l:=l) e h7⟩
theorem AD.nr:∀{l:List W} {vs:List Value},nrL l=true->AD T F μ l vs->AD T F μ' l vs
 | [],_,_,h=> h
 |w::_,_,e,⟨v,us,h1,h2,h3⟩=> ⟨v,us,h1,Rel.nr (C4 e).1 h2,AD.nr (C4 e).2 h3⟩
theorem CT.nr:∀{l:List W} {ks:List K} {es:List DictEntry},nrL l=true->CT T F μ l ks es->CT T F μ' l ks es
 | [],_,_,_,h=> h
 |_::_,_,_,e,⟨k,ks,z,es,h1,h2,h3,h4,h5⟩=> ⟨k,ks,z,es,h1,h2,h3,Rel.nr (C4 e).1 h4,CT.nr (C4 e).2 h5⟩
theorem Af.nr:∀{l:List W} {as:List Nat} {es:List DictEntry},nrL l=true->Af T F μ l as es->Af T F μ' l as es
 | [],_,_,_,h=> h
 |_::_,_,_,e,⟨a,as,z,es,t,h1,h2,h3,h4,h5⟩=> ⟨a,as,z,es,t,h1,h2,h3,Rel.nr (C4 e).1 h4,Af.nr (C4 e).2 h5⟩
end
end
def Ga (l:LL):Bool:=List.rec true (λo υ ih=> Bool.rec false ih (Option.rec true nrW o)) l
theorem Vy {l:LL}:∀{k:Nat} {w:W},Ga l=true->nth l k=some (some w)->nrW w=true:=by
 induction l with
 |nil=> exact λυ e=> nn e
 |cons o r ih=>
  intro k w h e;have h:Bool.rec (motive:=λυ=> Bool) false (Ga r) (Option.rec (motive:=λυ=> Bool) true nrW o)=true:=h;generalize q:(Option.rec true nrW o:Bool)=x9;induction x9 using bC with
  |false=> rw [q] at h;exact ff h
  |true=>
   rw [q] at h;induction k with
   |zero=> clear h;cases e;exact q
   |succ k=> exact ih h e
def Ey (σ:List O) (r:RS):RS:=RS.rec (λυ υ=> .next [] σ) (λw υ=> Bool.rec (.stuck 121) (.ret w σ) (nrW w)) (λc fs υ υ=> Bool.rec (.stuck 122) (.exc c fs [] σ) (nrL fs)) (λn=> .stuck n) r
def Kl (f:SS):SS:=λl σ=> Bool.rec (.stuck 120) (Ey σ (f l [])) (Ga l)
theorem CO.RN {T:Tb} {h:Heap} {F:Ad} {μ:Mu} {m d:Addr} {o:O} (at_:CO T h F μ m d o) {a:Addr} (ha:a ∈ O.ad o m d) {y:AN} (hy:h.get? a=some y) {ws:Array Value}:y.data ≠ .fields ws:=by
 intro z;induction o using O.casesOn with
 |list l=> obtain ⟨_,_,e,_⟩:=at_;cases mSg ha;rw [e] at hy;clear ha;cases hy;cases z
 |dict l=> obtain ⟨_,_,e,_⟩:=at_;cases mSg ha;rw [e] at hy;clear ha;cases hy;cases z
 |inst c fs=>
  obtain ⟨_,_,e1,e2,_⟩:=at_;rcases mCo ha with rfl |ha
  ·rw [e1] at hy;clear ha;cases hy;cases z
  ·cases mSg ha;rw [e2] at hy;clear ha;cases hy;clear ha;cases z
 |barr b=> cases mSg ha;rw [at_.1] at hy;clear at_ ha;cases hy;cases z
 |dead=> exact absurd ha List.not_mem_nil
section
variable {C:Cx} {x:Wx} {l:LL} {s:Shared}
noncomputable def Wx.off (x:Wx):Wx:={x with σ:= []}
theorem CK {a:Addr}:¬ x.off.owned a:=λ⟨_,_,e,_⟩=> nn e
theorem In.off {h:Heap} (i:In C x l h) (n:Ga l=true):In C x.off l h:=
 ⟨⟨i.wd.top,i.wd.topF,i.wd.fit,λυ υ e=> nn e,λυ υ e=> nn e,λυ υ υ e=> nn e,λυ υ υ υ υ e=> nn e⟩,i.dict,λk m w a e=> (i.loc k m w a e).imp λv q=> ⟨q.1,q.2.nr (Vy n e)⟩,
  λy c e=> ⟨(i.cell y c e).1,CK,(i.cell y c e).2.2⟩,λa ha=> ⟨(i.mine a ha).1,CK⟩,λe he=> let ⟨a,b,m,c,d,q1,_⟩:=i.frames e he;⟨a,b,m,c,d,q1,CK⟩⟩
theorem J9 {h:Heap} (i:In C x l h) {a:Addr} (ha:x.owned a):∃y,h.get? a=some y/\∀ws,y.data ≠ .fields ws:=by
 obtain ⟨j,o,ho,m⟩:=ha;obtain ⟨y,hy⟩:=i.wd.live ho m;exact ⟨y,hy,λws=> (i.wd.own j o ho).RN m hy⟩
theorem Iu (i:In C x l s.heap) {y':Wx} {s':Shared} (g:Go C x.off y' s s') {a:Addr} (ha:x.owned a) {o:AN} (e:s.heap.get? a=some o):s'.heap.get? a=some o:=by
 refine g.ext.keep a o e λq=> ?_
 rcases q with q |q |q |⟨_,o',e',⟨ws,d⟩,_⟩
 ·exact CK q
 ·exact (i.mine a q).2 ha
 ·obtain ⟨_,_,_,n⟩:=i.frame q;exact n ha
 ·obtain ⟨y,hy,nf⟩:=J9 i ha;rw [hy] at e';clear hy;cases e';exact nf ws d
theorem Hc (i:In C x l s.heap) {y':Wx} {l':LL} {s':Shared} (g:Go C x.off y' s s') (i':In C y' l' s'.heap):Go C x {x with bad:=y'.bad} s s'/\In C {x with bad:=y'.bad} [] s'.heap:=by
 have fz:∀a o,Fz s.heap x.bad a o->Fz s'.heap y'.bad a o:=g.ext.fz λa q=> q.elim (λz=> absurd z CK) λq=> i.mods a (.inr q)
 refine ⟨⟨⟨λa o e n=> g.ext.keep a o e λq=> n (q.elim (λz=> absurd z CK) .inr),g.ext.bads,g.ext.size⟩,Mu.le_refl _,λυ=> .inl,g.ns,λa q b υ=> g.kb a q b CK,g.gens,g.os⟩,
  ⟨⟨i'.wd.top,i'.wd.topF,i'.wd.fit,λj o ho=> ?_,λj o ho a ha=> ?_,i.wd.self,i.wd.sep⟩,i'.dict,λυ υ υ υ e=> nn e,λy c e=> ⟨(i'.cell y c e).1,(i.cell y c e).2.1,(i'.cell y c e).2.2⟩,λa ha=> ⟨(i'.mine a ha).1,(i.mine a ha).2⟩,λe he=> ?_⟩⟩
 ·refine (i.wd.own j o ho).mono fz (Mu.le_refl _) λa ha=> ?_
  obtain ⟨y,hy⟩:=i.wd.live ho ha;rw [hy];exact Iu i g ⟨j,o,ho,ha⟩ hy
 ·have b:=i.wd.ownB j o ho a ha;exact g.kb a (i.wd.fit a b) b CK
 ·obtain ⟨a,b,m,c,d,q1,_⟩:=i'.frames e he;obtain ⟨_,b',_,c',_,_,q2⟩:=i.frames e he;rw [c] at c';cases c';exact ⟨a,b,m,c,d,q1,q2⟩
theorem U1 (i:In C x l s.heap) {y':Wx} {s':Shared} (g:Go C x.off y' s s') {e:Value} {c:Nat} {fs:List W} (n:nrL fs=true) (q:Exc C y' s'.heap e c fs):Exc C {x with bad:=y'.bad} s'.heap e c fs:=by
 have no:∀{a:Addr} {o:AN} {ws:Array Value},s'.heap.get? a=some o->o.data= .fields ws->¬ x.owned a:=λe d z=> by
  obtain ⟨y,hy,nf⟩:=J9 i z;rw [Iu i g z hy] at e;clear hy;cases e;exact nf _ d
 obtain ⟨fl,⟨a,oe,vs,d,es,m,h1,h2,h3,h4,h5,h6,h7,h8,h9,_,h11⟩,hfl⟩:=q;refine ⟨fl,⟨a,oe,vs,d,es,m,h1,h2,h3,h4,h5,h6,h7,h8.nr n,h9,no h2 h4, ?_⟩,hfl⟩;induction fl using oC with
 |none=> exact h11
 |some f=>
  obtain ⟨t,oT,ts,k1,k2,k3,k4,k5,k6,_⟩:=h11;exact ⟨t,oT,ts,k1,k2,k3,k4,k5,k6,no k3.1 k4⟩
theorem Yd {t:Sem Flow} {f:SS} (D:DV C t f):DV C t (Kl f):=by
 intro x l s Q E i o;unfold Kl at o;generalize hl:Ga l=x9;induction x9 using bC with
 |false=> rw [hl] at o;exact o.elim
 |true=>
 rw [hl] at o;have o:AK C x s (Ey x.σ (f l [])) Q E:=o;refine D x.off l s Q E (i.off hl) ?_;show AK C x.off s (f l []) Q E;generalize h:f l []=x9;induction x9 using RS.casesOn with
 |stuck n=> rw [h] at o;exact o
 |next l' σ=>
  rw [h] at o;intro s' y' _ g i';obtain ⟨g',j⟩:=Hc i g i';exact o s' {x with bad:=y'.bad} rfl g' j
 |ret w σ=>
  rw [h] at o;have o:AK C x s (Bool.rec (motive:=λυ=> RS) (.stuck 121) (.ret w x.σ) (nrW w)) Q E:=o;generalize hw:nrW w=x9;induction x9 using bC with
  |false=> rw [hw] at o;exact o.elim
  |true=>
  rw [hw] at o;intro v s' y' l' _ g i' r;obtain ⟨g',j⟩:=Hc i g i';exact o v s' {x with bad:=y'.bad} _ rfl g' j (Rel.nr hw r)
 |exc c fs l' σ=>
  rw [h] at o;have o:AK C x s (Bool.rec (motive:=λυ=> RS) (.stuck 122) (.exc c fs [] x.σ) (nrL fs)) Q E:=o;generalize hw:nrL fs=x9;induction x9 using bC with
  |false=> rw [hw] at o;exact o.elim
  |true=>
  rw [hw] at o;intro e s' y' _ g i' q;obtain ⟨g',j⟩:=Hc i g i';exact o e s' {x with bad:=y'.bad} rfl g' j (U1 i g hw q)
end
def ZH (T:Tb) (G:Gd) (L:List (Nat × Fn)):List Nat->Bool:=List.rec (λυ=> true) (λp υ ih kn=> okB T G kn p.2.body ⟨p.2.ns.map some,p.2.ks,p.2.ns⟩ && ih (p.1::kn)) L
def Fn.go (f:Fn) (b:Bool) (Z:Sys):Run:=Dr f.np f.dfl f.nl (Bool.rec (block (Ay Z f.body)) (Kl (block (Ay Z f.body))) b)
theorem YU {B:Base} (BO:B.Ok) {G:Gd} (GA:G.At B) (I:Nat->Bool) {L:List (Nat × Fn)}:∀{kn:List Nat} {rk:Nat},5 <= rk->(∀p ∈ L,FnAt B p.1 p.2/\B.T.Z.fn p.1=p.2.go (I p.1) B.T.Z)->ZH B.T G L kn=true->(∀f ∈ kn,(∃F,FnAt B f F)/\CE B f (B.T.Z.fn f) rk)->∀p ∈ L,CE B p.1 (p.2.go (I p.1) B.T.Z) (rk + 2 * L.length):=by
 induction L with
 |nil=> intro kn rk _ _ _ _ p hp;exact absurd hp List.not_mem_nil
 |cons q r ih=>
  intro kn rk low H h K p hp;obtain ⟨h1,h2⟩:=AF h;obtain ⟨H1,H2⟩:=H q (.head _);have S:CE B q.1 (q.2.go (I q.1) B.T.Z) (rk + 2):=CE.of B BO H1 λC' hC O Sc hn hm R=> by
   clear H H1 H2 h h2 hp ih;subst hC;have D:DV C' (execs (B6 C'.T q.2.body) C'.env) (block (Ay C'.T.Z q.2.body)):=Qv (T:=C'.T) q.2.body C' _ rfl ⟨BO,O,hn,Sc,hm,R,⟨GA,low,K⟩⟩ h1;cases I q.1 with
   |false=> exact D
   |true=> exact Yd D
  clear h h1;rcases mCo hp with rfl |hp
  ·exact S.le (by rw [List.length_cons];lia)
  ·refine (ih (kn:=q.1::kn) (rk:=rk + 2) (by lia) (λp hp=> H p (.tail _ hp)) h2 (λf hf=> ?_) p hp).le (by rw [List.length_cons];lia);clear H h2 hp ih;rcases mCo hf with rfl |hf
   ·exact ⟨⟨_,H1⟩,H2▸S⟩
   ·obtain ⟨a,b⟩:=K f hf;exact ⟨a,b.le (by lia)⟩
set_option tactic.hygienic true in
theorem Km {α β:Type} {K:Frag} {S:Setting} {t:Sem α} {a:α} {k:α->Sem β} (h:peek K S t=some a):peek K S (t >>=k)=peek K S (k a):=by
 show peek K S (Sem.bind t k)=_;induction t with
 |pure b=> cases h;rfl
 |rule _ j ih=> exact ih () h
 |point _ j ih=> exact ih () h
 |ask j ih=> exact ih _ h
 |load b _ j ih=>
  simp only [peek] at h
  split at h
  ·rename_i o ho
   simp only [Sem.bind,peek,ho];exact ih o h
  ·cases h
 |_=> cases h
theorem MP {N:List Str} {vs:List Value} {n:Str} (h:n ∈ N.take vs.length):∃v,List.lookup n (N.zip vs)=some v:=by
 induction N generalizing vs with
 |nil=> simp at h
 |cons a r ih=>
  induction vs using lC with
  |nil=> simp at h
  |cons v vs=>
   rw [List.zip_cons_cons,List.lookup_cons];by_cases q:n=a
   ·rw [beq_iff_eq.mpr q];exact ⟨v,rfl⟩
   ·rw [beq_eq_false_iff_ne.mpr q];exact ih ((mCo h).resolve_left q)
theorem RC {N:List Str} {vs:List Value} {n:Str} (h:n ∉ N.take vs.length):List.lookup n (N.zip vs)=none:=by
 induction N generalizing vs with
 |nil=> rfl
 |cons a r ih=>
  induction vs using lC with
  |nil=> rfl
  |cons v vs=>
   rw [List.zip_cons_cons,List.lookup_cons,beq_eq_false_iff_ne.mpr (show n ≠ a from λq=> h (by rw [q];exact List.mem_cons_self))];exact ih λm=> h (.tail _ m)
theorem Ja {N:List Str} {M:List (Str × Value)}:∀{vs:List Value},vs.length=N.length->N.Nodup->(∀n ∈ N,List.lookup n M=List.lookup n (N.zip vs))->N.filterMap (λn=> (List.lookup n M).map (n,·))=N.zip vs:=by
 induction N with
 |nil=> intro vs _ _ _;rfl
 |cons a r ih=>
  intro vs h nd k;induction vs using lC with
  |nil=> exact nomatch h
  |cons v vs=>
   obtain ⟨n1,n2⟩:=List.nodup_cons.mp nd;have e1:List.lookup a M=some v:=by rw [k a (.head _),List.zip_cons_cons,List.lookup_cons,beq_self_eq_true]
   rw [List.filterMap_cons,e1];show (a,v)::_=_;rw [ih (Nat.succ.inj h) n2 λn m=> by rw [k n (.tail _ m),List.zip_cons_cons,List.lookup_cons,beq_eq_false_iff_ne.mpr (show n ≠ a from λq=> n1 (q▸m))]];rfl
theorem Sr {K:Frag} {S:Setting} {fd:FuncData} {vs dvs:List Value} {N:List Str} {y:Option (Array Value)} (h1:fd.params.posonlyargs= []) (h2:fd.params.args.map (·.arg)=N) (h3:fd.params.kwonlyargs= []) (h4:fd.params.vararg=none) (h5:fd.params.kwarg=none)
  (hd:peek K S (seqItems? fd.defaults)=some y) (hy:(y.getD #[]).toList=dvs) (nd:N.Nodup) (l1:vs.length <= N.length) (l2:N.length <= vs.length + dvs.length) (l3:dvs.length <= 1) (l4:dvs.length <= N.length):
  peek K S (bindArgs fd ⟨vs,[]⟩)=some (N.zip (vs ++ dvs.drop (dvs.length - (N.length - vs.length)))):=by
 unfold bindArgs;simp only [h1,h2,h3,h4,h5,List.map_nil,List.nil_append,List.append_nil,List.forIn_nil,pure_bind];rw [Km hd];simp only [hy];have z0:dvs.length - N.length=0:=by lia
 rw [if_neg (by simpa using l1),z0,List.drop_zero];have mis:List.filter (λn=> (List.lookup n (N.zip vs)).isNone) (N.take (N.length - dvs.length))= []:=by
  rw [List.filter_eq_nil_iff];intro n hn;obtain ⟨v,e⟩:=MP (vs:=vs) (n:=n) (N:=N) ((List.take_subset_take_left N (by lia)) hn);rw [e];exact Bool.false_ne_true
 rw [mis,if_neg (by decide)];rcases dvs with _ |⟨d,_ |_⟩
 ·have hl:vs.length=N.length:=by simp at l2;lia
  simp only [List.zip_nil_right,List.forIn_nil,pure_bind];show some (N.filterMap _)=some _;rw [Ja hl nd λυ υ=> rfl];simp
 ·have hne:N ≠ []:=λz=> by rw [z] at l4;exact absurd l4 (Nat.not_succ_le_zero _)
  have sp:N=N.dropLast ++ [N.getLast hne]:=(List.dropLast_concat_getLast hne).symm;have dl:N.drop (N.length - 1)= [N.getLast hne]:=by
   have:=List.drop_left' (l₂:= [N.getLast hne]) (show N.dropLast.length=N.length - 1 from List.length_dropLast);rwa [<- sp] at this
  have:N.drop (N.length - [d].length)= [N.getLast hne]:=dl;rw [this];simp only [List.zip_cons_cons,List.zip_nil_right,List.forIn_cons,List.forIn_nil];by_cases hl:vs.length=N.length
  ·obtain ⟨v,e⟩:=MP (vs:=vs) (N:=N) (n:=N.getLast hne) (by rw [hl,List.take_length];exact List.getLast_mem hne);rw [e];show some (N.filterMap _)=some _;rw [Ja hl nd λυ υ=> rfl,hl];simp
  ·have hl':vs.length + 1=N.length:=by simp at l2;lia
   have dlen:N.dropLast.length=vs.length:=by rw [List.length_dropLast];lia
   have nn':N.getLast hne ∉ N.dropLast:=by
    rw [sp] at nd;exact λm=> (List.nodup_append.mp nd).2.2 _ m _ (.head _) rfl
   have tk:N.take vs.length=N.dropLast:=by rw [List.dropLast_eq_take];congr 1;lia
   have e:List.lookup (N.getLast hne) (N.zip vs)=none:=RC (by rw [tk];exact nn');rw [e];show some (N.filterMap _)=some _;have zz:N.zip vs ++ [(N.getLast hne,d)]=N.zip (vs ++ [d]):=by
    conv=> rhs;rw [sp]
    rw [List.zip_append dlen];congr 1
    conv=> lhs;rw [sp]
    rw [<- List.append_nil vs,List.zip_append dlen];simp
   rw [zz,Ja (by simp;lia) nd λυ υ=> rfl];have:N.length - vs.length=1:=by lia
   rw [this];rfl
 ·simp at l3
noncomputable def RY (K:Frag) (a:Nat):Option FuncData:=(K.lookup a).bind λo=> match o.data with
 | .func fd=> some fd
 |_=> none
def Gm (w:W) (v:Value):Bool:=match w with
 | .none=> v== .none
 | .int i=> (match v with | .int j _=> i==j |_=> false)
 | .str s=> (match v with | .str t _=> (⟨s.toArray⟩:Str)==t && Nat.ble s.length LIM |_=> false)
 |_=> false
def IP:List W->List Value->Bool
 | [],[]=> true
 |w::r,v::q=> Gm w v && IP r q
 |_,_=> false
noncomputable def Sg (K:Frag) (v:Value):Option (Option (Array Value)):=match v with
 | .ref t=> (K.lookup t).bind λo=> match o.data with
  | .seq xs _=> some (some xs)
  |_=> none
 | .none=> some none
 |_=> none
def dvL (K:Frag) (v:Value):List Value:=(((Sg K v).join).getD #[]).toList
def Z7 (ks:NN) (n:Nat):Bool:=eqO (lkp ks n) 0 ||eqO (lkp ks n) 1
def fdB (K:Frag) (T:Tb) (f:Fn) (fd:FuncData):Bool:=
 CI fd.closure && fd.globals==mainGlobals && fd.builtins==builtinsNs && codeIn K fd.code fd.qualname && fd.scope.kind== .function && !fd.scope.isCoroutine && !fd.scope.isGenerator &&
 f.ks.all (λq=> Nat.blt q.1 T.cnt) && f.ns.all (Z7 f.ks) && E8 f.ns && Nat.ble f.np f.ns.length &&
 CI fd.params.posonlyargs && CI fd.params.kwonlyargs && fd.params.vararg.isNone && fd.params.kwarg.isNone && (Sg K fd.defaults).isSome && Nat.ble (dvL K fd.defaults).length 1 && Nat.ble (dvL K fd.defaults).length f.np && IP f.dfl (dvL K fd.defaults)
def fnB (K:Frag) (T:Tb) (p:Nat × Fn):Bool:=match RY K p.1 with
 |some fd=> fdB K T p.2 fd
 |none=> false
def ofFd {α:Type} (K:Frag) (d:α) (g:FuncData->α) (a:Nat):α:=((RY K a).map g).getD d
structure KP (B:Base) (L:List (Nat × Fn)):Prop where
 all:L.all (fnB B.KF B.T)=true
 body:L.map (λp=> ofFd B.KF (.stmts []) (·.body) p.1)=L.map λp=> FuncBody.stmts (B6 B.T p.2.body)
 names:L.map (λp=> ofFd B.KF [] (·.scope.names) p.1)=L.map λp=> D6 B.T p.2.ks
 args:L.map (λp=> ofFd B.KF [] (λfd=> fd.params.args.map (·.arg)) p.1)=L.map λp=> (p.2.ns.take p.2.np).map B.T.nm
theorem Ei {α β:Type} {f g:α->β} {L:List α} (h:L.map f=L.map g) {a:α} (m:a ∈ L):f a=g a:=by
 induction L with
 |nil=> exact absurd m List.not_mem_nil
 |cons b r ih=>
  rw [List.map_cons,List.map_cons,List.cons.injEq] at h;rcases mCo m with rfl |m
  ·exact h.1
  ·exact ih h.2 m
theorem Gp {T:Tb} {F:Ad} {l:List W} {vs:List Value} (h:IP l vs=true):AD T F mu0 l vs:=by
 induction l generalizing vs with
 |nil=> induction vs using lC with
  |nil=> rfl
  |cons=> exact ff h
 |cons w r ih=>
  induction vs using lC with
  |nil=> exact ff h
  |cons v q=>
   obtain ⟨h1,h2⟩:=AF (show (Gm w v && IP r q)=true from h);refine ⟨v,q,rfl, ?_,ih h2⟩;induction w using W.casesOn with
   |none=> exact beq_iff_eq.mp h1
   |int i=>
    cases v with
    |int j t=> exact ⟨t,by rw [beq_iff_eq.mp (show (i==j)=true from h1)]⟩
    |_=> exact ff h1
   |str s=>
    cases v with
    |str u t=>
     obtain ⟨h3,h4⟩:=AF (show ((⟨s.toArray⟩:Str)==u && Nat.ble s.length LIM)=true from h1);exact ⟨t,by rw [beq_iff_eq.mp h3],A4 h4⟩
    |_=> exact ff h1
   |_=> exact ff h1
theorem Zg {K:Frag} {S:Setting} {v:Value} (h:(Sg K v).isSome=true):∃y,peek K S (seqItems? v)=some y/\(y.getD #[]).toList=dvL K v:=by
 unfold dvL;cases v with
 |none=> exact ⟨none,rfl,rfl⟩
 |ref t=>
  have h:(Option.bind (K.lookup t) λo=> match o.data with | .seq xs _=> some (some xs) |_=> none).isSome=true:=h;generalize e:K.lookup t=x9;induction x9 using oC with
  |none=> rw [e] at h;exact ff h
  |some o=>
   rw [e] at h;have ld:peek K S (load t)=some o:=by
    show peek K S (Sem.load t none Sem.pure)=_;simp only [peek,e]
   obtain ⟨c,d,dt,sl⟩:=o;cases dt with
   |seq xs n=> exact ⟨some xs,by show peek K S (load t >>=_)=_;rw [Km ld];rfl,by show _=(((Option.bind (K.lookup t) λo=> match o.data with | .seq xs _=> some (some xs) |_=> none).join).getD #[]).toList;rw [e];rfl⟩
   |_=> exact ff h
 |_=> exact ff h
theorem KP.at {B:Base} {L:List (Nat × Fn)} (N:CV B.T) (H:KP B L) {p:Nat × Fn} (m:p ∈ L):FnAt B p.1 p.2:=by
 have hb:=List.all_eq_true.mp H.all p m;unfold fnB at hb;have h1:=Ei H.body m;have h2:=Ei H.names m;have h3:=Ei H.args m;unfold ofFd at h1 h2 h3;generalize e:RY B.KF p.1=x9;induction x9 using oC with
 |none=> rw [e] at hb;exact ff hb
 |some fd=>
  rw [e] at hb h1 h2 h3;have h1:fd.body=_:=h1;have h2:fd.scope.names=_:=h2;have h3:fd.params.args.map (·.arg)=_:=h3;obtain ⟨o,ho,hd⟩:=Option.bind_eq_some_iff.mp e;obtain ⟨c,d,dt,sl⟩:=o;cases dt with
  |func fd' =>
   cases hd;have hb:fdB B.KF B.T p.2 fd=true:=hb;unfold fdB at hb;obtain ⟨hb,b19⟩:=AF hb;obtain ⟨hb,b18⟩:=AF hb;obtain ⟨hb,b17⟩:=AF hb;obtain ⟨hb,b16⟩:=AF hb;obtain ⟨hb,b15⟩:=AF hb;obtain ⟨hb,b14⟩:=AF hb;obtain ⟨hb,b13⟩:=AF hb;obtain ⟨hb,b12⟩:=AF hb;obtain ⟨hb,b11⟩:=AF hb;obtain ⟨hb,b10⟩:=AF hb;obtain ⟨hb,b9⟩:=AF hb;obtain ⟨hb,b8⟩:=AF hb;obtain ⟨hb,b7⟩:=AF hb;obtain ⟨hb,b6⟩:=AF hb;obtain ⟨hb,b5⟩:=AF hb;obtain ⟨b1,b2,b3,b4⟩:=Bz hb;have lt:∀q ∈ p.2.ks,q.1 < B.T.cnt:=λq hq=> A4 (List.all_eq_true.mp b8 q hq)
   have locs:∀n ∈ p.2.ns,lkp p.2.ks n=some 0\/lkp p.2.ks n=some 1:=λn hn=> (Bool.or_eq_true_iff.mp (List.all_eq_true.mp b9 n hn)).imp BD BD
   have nlt:∀n ∈ p.2.ns,n < B.T.cnt:=λn hn=> by rcases locs n hn with z |z <;> exact lt _ (AY z)
   have nd:((p.2.ns.take p.2.np).map B.T.nm).Nodup:=List.pairwise_map.mpr (List.Pairwise.imp_of_mem (λ{a b} ha hb hab e=> hab (N.inj a b (nlt a (List.mem_of_mem_take ha)) (nlt b (List.mem_of_mem_take hb)) e)) ((Et b10).sublist (List.take_sublist _ _)));have len:((p.2.ns.take p.2.np).map B.T.nm).length=p.2.np:=by rw [List.length_map,List.length_take];exact Nat.min_eq_left (A4 b11)
   refine ⟨_,fd,ho,rfl,h1,Ca b1,beq_iff_eq.mp b2,beq_iff_eq.mp b3,b4,beq_iff_eq.mp b5,Bv b6,Bv b7,h2,lt,⟨dvL B.KF fd.defaults,Gp b19,λS vs l1 l2=> ?_⟩,locs,Et b10,A4 b11⟩;obtain ⟨y,hy,hz⟩:=Zg (S:=S) b16;have:=Sr (Ca b12) h3 (Ca b13) (Option.isNone_iff_eq_none.mp b14) (Option.isNone_iff_eq_none.mp b15) hy hz nd (vs:=vs) (by rw [len];exact l1) (by rw [len];exact l2) (A4 b17) (by rw [len];exact A4 b18);rw [len] at this;exact this
  |_=> exact nn hd
theorem AW {α:Type} [BEq α] [LawfulBEq α] {a b:α} (h:(a==b)=true):a=b:=beq_iff_eq.mp h
noncomputable def UI (K:Frag) (c:Nat):Bool:=match clsIn K c with
 |some cd=> cd.hasDict
 |none=> false
noncomputable def findB (K:Frag) (c:Nat) (n:Str) (id:String):Bool:=findIn K (.ref c) n==some (some (.builtin id))
def SX (K:Frag) (T:Tb) (c:Nat) (k:Cls):Bool:=
 UI K c && k.fields.all (λa=> findIn K (.ref c) (T.nm a)==some none && Nat.blt a T.cnt) && E8 k.fields && Nat.ble k.fields.length 100 && findB K c "__setattr__" "object.__setattr__" && findIn K (.ref c) "__getattr__" ==some none &&
 bif Nat.beq k.kind 2 then mroIn K c (.type "BaseException")==some true && findB K c "__getattribute__" "BaseException.__getattribute__" else plainOver K c && findB K c "__getattribute__" "object.__getattribute__"
theorem V3 {B:Base} {c:Nat} {k:Cls} (h:SX B.KF B.T c k=true):ClsAt B c k:=by
 obtain ⟨h,h7⟩:=AF h;obtain ⟨h,h6⟩:=AF h;obtain ⟨h,h5⟩:=AF h;obtain ⟨h1,h2,h3,h4⟩:=Bz h;have hf:=λa ha=> AF (List.all_eq_true.mp h2 a ha)
 have hd:∃cd,clsIn B.KF c=some cd/\cd.hasDict=true:=by
  unfold UI at h1;generalize e:clsIn B.KF c=x9;induction x9 using oC with
  |none=> rw [e] at h1;exact ff h1
  |some cd=> rw [e] at h1;exact ⟨cd,rfl,h1⟩
 have k2:k.kind=2->mroIn B.KF c (.type "BaseException")=some true/\findB B.KF c "__getattribute__" "BaseException.__getattribute__" =true:=λz=> by
  rw [z] at h7;obtain ⟨a,b⟩:=AF h7;exact ⟨AW a,b⟩
 have k1:k.kind ≠ 2->plainOver B.KF c=true/\findB B.KF c "__getattribute__" "object.__getattribute__" =true:=λz=> by
  generalize e:Nat.beq k.kind 2=x9;induction x9 using bC with
  |true=> exact absurd (A5 e) z
  |false=> rw [e] at h7;exact AF h7
 exact ⟨hd,λa ha=> AW (hf a ha).1,λa ha=> A4 (hf a ha).2,Et h3,A4 h4,AW h5,λz=> (k1 z).1,AW h6,λz=> AW (k1 z).2,λz=> (k2 z).1,λz=> AW (k2 z).2⟩
def M4 (K:Frag) (T:Tb) (q:Nat × Nat × Nat):Bool:=findIn K (.ref q.1) (T.nm q.2.2)==some (some (.ref q.2.1)) && typeIn K (.ref q.2.1)==some (.type "function") && Nat.blt q.2.2 T.cnt && Option.rec false (λk:Cls=> !(Nat.beq k.kind 2) && !(Ai k.fields q.2.2)) (T.cls q.1)
theorem Us {l:List Nat} {a:Nat} (m:a ∈ l):Ai l a=true:=by
 induction l with
 |nil=> exact absurd m List.not_mem_nil
 |cons b r ih=>
  show Bool.rec (motive:=λυ=> Bool) (Ai r a) true (Nat.beq b a)=true;generalize hb:Nat.beq b a=x9;induction x9 using bC with
  |true=> rfl
  |false=> exact ih ((mCo m).resolve_left λz=> absurd z.symm (Nat.ne_of_beq_eq_false hb))
theorem S2 {B:Base} {q:Nat × Nat × Nat} (h:M4 B.KF B.T q=true):MethAt B q.1 q.2.1 q.2.2:=by
 obtain ⟨h1,h2,h3,h4⟩:=Bz h;refine ⟨AW h1,AW h2, ?_,A4 h3⟩;generalize e:B.T.cls q.1=x9;induction x9 using oC with
 |none=> rw [e] at h4;exact ff h4
 |some k=>
  rw [e] at h4;obtain ⟨a,b⟩:=AF h4;exact ⟨k,rfl,λz=> by rw [z] at a;exact ff a,λm=> by rw [Us m] at b;exact ff b⟩
noncomputable def JS (K:Frag) (c f:Nat):Bool:=makesIn K c && findIn K (.ref c) "__init__" ==some (some (.ref f)) && typeIn K (.ref f)==some (.type "function")
theorem IL {B:Base} {c f:Nat} (h:JS B.KF c f=true):EU B c f:=by
 obtain ⟨h1,h2,h3⟩:=Bb h;exact ⟨h1,AW h2,AW h3⟩
noncomputable def Oh (l:List (Option Value)):Bool:=Nat.beq l.length 6 && (l[4]?).join==some (.builtin "Exception.__new__")
def Ts (c:Nat) (l:List Value):Bool:=match l with
 | []=> false
 |v::r=> v== .ref c && Bu r
def ai (c:Nat) (o:AN):Bool:=match o.data with
 | .cls cd=> o.cls== .type "type" && Oh o.slots.toList && Ts c cd.mro && cd.hasDict && !cd.hasDel
 |_=> false
def Xs (K:Frag) (c f:Nat):Bool:=Option.rec false (ai c) (K.lookup c) && specialIn K (.ref c) "__call__" ==some (some (.builtin "type.__call__")) && instIn K (.ref c) (.type "type")==some true && findIn K (.ref c) "__init__" ==some (some (.ref f)) && typeIn K (.ref f)==some (.type "function")
theorem RR {l:List (Option Value)} (h:Oh l=true):∃k0 k1 k2 k3 k5,l= [k0,k1,k2,k3,some (.builtin "Exception.__new__"),k5]:=by
 obtain ⟨h1,h2⟩:=AF h;have h1:=A5 h1;have h2:(l[4]?).join=_:=AW h2;rcases l with _ |⟨k0,_ |⟨k1,_ |⟨k2,_ |⟨k3,_ |⟨k4,_ |⟨k5,_ |⟨k6,r⟩⟩⟩⟩⟩⟩⟩ <;> simp at h1
 cases (show k4=_ from h2);exact ⟨k0,k1,k2,k3,k5,rfl⟩
theorem VG {B:Base} {c f:Nat} (h:Xs B.KF c f=true):E5 B c f:=by
 obtain ⟨h,h5⟩:=AF h;obtain ⟨h1,h2,h3,h4⟩:=Bz h;refine ⟨?_,AW h2,AW h3,AW h4,AW h5⟩;generalize e:B.KF.lookup c=x9;induction x9 using oC with
 |none=> rw [e] at h1;exact ff h1
 |some o=>
  rw [e] at h1;obtain ⟨cl,d,dt,⟨sl⟩⟩:=o;cases dt with
  |cls cd=>
   obtain ⟨h,k5⟩:=AF (show (cl== .type "type" && Oh sl && Ts c cd.mro && cd.hasDict && !cd.hasDel)=true from h1);obtain ⟨k1,k2,k3,k4⟩:=Bz h;obtain ⟨nm,bs,mro,ns,q,hd,sn,sub,ab,col,hdel⟩:=cd;cases AW k1;cases (show hd=true from k4);cases (show hdel=false from Bv k5);clear h h1 k1 k4 k5;obtain ⟨s0,s1,s2,s3,s5,rfl⟩:=RR k2;induction mro using lC with
   |nil=> exact ff k3
   |cons v bm=>
    obtain ⟨m1,m2⟩:=AF (show (v== .ref c && Bu bm)=true from k3);cases AW m1;exact ⟨nm,q,ns,bs,bm,sn,sub,ab,col,d,s0,s1,s2,s3,s5,e,m2⟩
  |_=> exact ff h1
noncomputable def dx (P:AR.T->E->Bool) (t:S):Bool:=match t with
 | .asg t e _=> P t e
 |_=> false
noncomputable def aH (P:E->Nat->Bool) (t:AR.T):Bool:=match t with
 | .attr e _ a _=> P e a
 | .loc .. => false
 | .idx .. => false
def Ft (n0:Nat) (ns:List Nat) (j a:Nat) (t:S):Bool:=dx (λt e=> aH (λo b=> L9 (λk n=> Nat.beq k 0 && Nat.beq n n0) o && Nat.beq b a) t && L9 (λk n=> Nat.beq k (j + 1) && eqO (nth ns (j + 1)) n) e) t
def O9 (n0:Nat) (ns:List Nat):List S->Nat->List Nat->Bool
 | [],_,as=> CI as
 |t::r,j,as=> List.rec false (λa as' υ=> Ft n0 ns j a t && O9 n0 ns r (j + 1) as') as
theorem VV {n0 j a:Nat} {ns:List Nat} {t:S} (h:Ft n0 ns j a t=true):E62 (λal q1 q2 q3 q4 n=> t= .asg (.attr (.loc 0 n0 q1) al a q2) (.loc (j + 1) n q3) q4) (λal q1 q2 q3 q4 n=> ns[j + 1]? =some n):=by
 induction t using S.casesOn with
 |asg t e q4=>
  obtain ⟨h1,h2⟩:=AF h;clear h;obtain ⟨k,n,q3,rfl,h3⟩:=Gq h2;obtain ⟨h3,h4⟩:=AF h3;induction t using T.casesOn with
  |attr o al b q2=>
   obtain ⟨h5,h6⟩:=AF h1;clear h1 h2;obtain ⟨k',n',q1,rfl,h7⟩:=Gq h5;obtain ⟨h7,h8⟩:=AF h7;rw [A5 h3,A5 h6,A5 h7,A5 h8];exact ⟨al,q1,q2,q3,q4,n,rfl,by rw [<- AL];exact BD h4⟩
  |_=> exact ff h1
 |_=> exact ff h
theorem FH {n0:Nat} {ns:List Nat} {b:List S}:∀{j:Nat} {as:List Nat},O9 n0 ns b j as=true->FE n0 ns b j as:=by
 induction b with
 |nil=> exact λh=> Ca h
 |cons t r ih=>
  intro j as h;induction as using lC with
  |nil=> exact ff h
  |cons a as' =>
   obtain ⟨h1,h2⟩:=AF (show (Ft n0 ns j a t && O9 n0 ns r (j + 1) as')=true from h);obtain ⟨al,q1,q2,q3,q4,n,e,hn⟩:=VV h1;exact ⟨al,a,q1,q2,q3,q4,n,as',e,hn,rfl,ih h2⟩
noncomputable def UD (l:List Nat):Nat:=match l with
 | []=> 0
 |a::_=> a
def Yh (K:Frag) (T:Tb) (c f:Nat) (fn:Fn):Bool:=JS K c f && Nat.blt 0 fn.ns.length && CI fn.dfl && fn.ks.all (λq=> !(Nat.beq q.2 1)) && Option.rec false (λk:Cls=> !(Nat.beq k.kind 2) && Nat.beq fn.np (k.fields.length + 1) && O9 (UD fn.ns) fn.ns fn.body 0 k.fields) (T.cls c)
theorem VR {B:Base} {c f:Nat} {fn:Fn} (H:FnAt B f fn) (h:Yh B.KF B.T c f fn=true):PC B c:=by
 obtain ⟨h,h5⟩:=AF h;obtain ⟨h1,h2,h3,h4⟩:=Bz h;generalize e:B.T.cls c=x9;induction x9 using oC with
 |none=> rw [e] at h5;exact ff h5
 |some k=>
  rw [e] at h5;obtain ⟨k1,k2,k3⟩:=Bb h5;refine ⟨f,fn,k,UD fn.ns,IL h1,H,e,λz=> by rw [z] at k1;exact ff k1,A5 k2,Ca h3,λq hq=> Nat.ne_of_beq_eq_false (Bv (List.all_eq_true.mp h4 q hq)), ?_,FH k3⟩;generalize hn:fn.ns=x9;induction x9 using lC with
  |nil=> rw [hn] at h2;exact ff h2
  |cons=> rfl
noncomputable def CA {α:Type} (t:Tree α):List (Nat × α):=Tree.rec [] (λk v υ υ a b=> (k,v)::(a ++ b)) t
theorem Hz {α:Type} {t:Tree α} {k:Nat} {v:α} (h:look t k=some v):(k,v) ∈ CA t:=by
 induction t with
 |nil=> exact nn h
 |node j u l r il ir=>
  have h:Bool.rec (motive:=λυ=> Option α) (Bool.rec (motive:=λυ=> Option α) (look r k) (look l k) (Nat.blt k j)) (some u) (Nat.beq j k)=some v:=h;show (k,v) ∈ (j,u)::(CA l ++ CA r);generalize e:Nat.beq j k=x9;induction x9 using bC with
  |true=> rw [e] at h;cases h;cases A5 e;exact .head _
  |false=>
   rw [e] at h;refine .tail _ (List.mem_append.mpr ?_);generalize e2:Nat.blt k j=x9;induction x9 using bC with
   |true=> rw [e2] at h;exact .inl (il h)
   |false=> rw [e2] at h;exact .inr (ir h)
noncomputable def fE (s:Str):Nat:=s.cps.toList.foldl (λh c=> h * 1114112 + c) 1
noncomputable def Iw (f:Nat->Nat) (x:Nat) (n:Nat):Bool:=Nat.rec true (λi ih=> !(Nat.beq (f i) x) && ih) n
def Np (f:Nat->Nat) (n:Nat):Bool:=Nat.rec true (λi ih=> Iw f (f i) i && ih) n
theorem Lz {f:Nat->Nat} {x:Nat} {n:Nat} (h:Iw f x n=true):∀i,i < n->f i ≠ x:=by
 induction n with
 |zero=> exact λi z=> absurd z (Nat.not_lt_zero _)
 |succ n ih=>
  intro i hi;obtain ⟨h1,h2⟩:=AF (show (!(Nat.beq (f n) x) && Iw f x n)=true from h);clear h;rcases Nat.lt_or_eq_of_le (Nat.le_of_lt_succ hi) with z |rfl
  ·exact ih h2 i z
  ·exact Nat.ne_of_beq_eq_false (Bv h1)
theorem Vp {f:Nat->Nat} {n:Nat} (h:Np f n=true):∀i j,i < n->j < n->f i=f j->i=j:=by
 induction n with
 |zero=> exact λi υ z=> absurd z (Nat.not_lt_zero _)
 |succ n ih=>
  intro i j hi hj e;obtain ⟨h1,h2⟩:=AF (show (Iw f (f n) n && Np f n)=true from h);clear h;rcases Nat.lt_or_eq_of_le (Nat.le_of_lt_succ hi) with z |rfl
  ·clear hi;rcases Nat.lt_or_eq_of_le (Nat.le_of_lt_succ hj) with z' |rfl
   ·exact ih h2 i j z z' e
   ·exact absurd e (Lz h1 i z)
  ·clear h2 hi ih;rcases Nat.lt_or_eq_of_le (Nat.le_of_lt_succ hj) with z' |rfl
   ·exact absurd e.symm (Lz h1 j z')
   ·rfl
noncomputable def VN (s:Str):Bool:= !(s== "__debug__") && !(s== "__classdict__") && !(s== "super") && !(s== "__name__")
def Li (T:Tb):Bool:=Np (λn=> fE (T.nm n)) T.cnt && (List.range T.cnt).all λn=> VN (T.nm n)
theorem KD {T:Tb} (h:Li T=true):CV T:=by
 obtain ⟨h1,h2⟩:=AF h;refine ⟨λn n' hn hn' e=> Vp h1 n n' hn hn' (by rw [e]),λn hn=> ?_⟩;obtain ⟨a,b,c,d⟩:=Bz (List.all_eq_true.mp h2 n (List.mem_range.mpr hn));exact ⟨Bv a,Bv b,c,λz=> by rw [z,beq_self_eq_true] at d;exact ff d⟩
def ML (o:AN):Option (List Value):=match o.data with
 | .seq xs n=> gd (o.cls== .type "tuple" && o.dict.isNone && CI o.slots.toList) (some xs.toList)
 |_=> none
def GB (o:AN):Option (List DictEntry):=match o.data with
 | .dict xs n=> gd (o.cls== .type "dict" && o.dict.isNone && CI o.slots.toList) (some xs.toList)
 |_=> none
def kB (k:K) (v:Value):Bool:=match k with
 | .str s=> (match v with | .str t _=> (⟨s.toArray⟩:Str)==t && Nat.ble s.length LIM |_=> false)
 | .int i=> (match v with | .int j _=> i==j |_=> false)
def ON:List K->List W->List DictEntry->Bool
 | [],[],[]=> true
 |k::ks,w::ws,e::es=> kB k e.key && Gm w e.val && ON ks ws es
 |_,_,_=> false
noncomputable def Fp {α:Type} (K:Frag) (v:Value) (f:AN->Option α):Option α:=match v with
 | .ref a=> (K.lookup a).bind f
 |_=> none
def Pk (K:Frag) (v:Value):List DictEntry:=(Fp K v GB).getD []
noncomputable def Yu (v:Value):Bool:=match v with
 | .ref a=> !(a==sysModules)
 |_=> false
def XQ (K:Frag) (w:W) (v:Value):Bool:=match w with
 | .tup l=> Nat.ble l.length LIM && Option.rec false (IP l) (Fp K v ML)
 | .dct ks ws=> Yu v && Option.rec false (ON ks ws) (Fp K v GB)
 | .fn a=> v== .ref a
 |w=> Gm w v
noncomputable def O0 (P:Params) (k:K):Int:=match k with
 | .str s=> PyData.keyHash P ⟨s.toArray⟩
 | .int i=> hashInt i
def hashesW (P:Params) (w:W):List Int:=match w with
 | .dct ks _=> ks.map (O0 P)
 |_=> []
theorem P6 {o:AN} {vs:List Value} (h:ML o=some vs):∃n,o=AS vs n:=by
 obtain ⟨c,d,dt,⟨sl⟩⟩:=o;cases dt with
 |seq xs n=>
  obtain ⟨h1,h2⟩:=AJ h;clear h;cases h2;obtain ⟨a,b,e⟩:=Bb h1;cases AW a;cases (show d=none from Option.isNone_iff_eq_none.mp b);cases (show sl= [] from Ca e);exact ⟨n,rfl⟩
 |_=> exact nn h
theorem Qn {o:AN} {vs:List DictEntry} (h:GB o=some vs):∃n,o=AM vs n:=by
 obtain ⟨c,d,dt,⟨sl⟩⟩:=o;cases dt with
 |dict xs n=>
  obtain ⟨h1,h2⟩:=AJ h;clear h;cases h2;obtain ⟨a,b,e⟩:=Bb h1;cases AW a;cases (show d=none from Option.isNone_iff_eq_none.mp b);cases (show sl= [] from Ca e);exact ⟨n,rfl⟩
 |_=> exact nn h
theorem LY {α:Type} {K:Frag} {v:Value} {f:AN->Option α} {y:α} (h:Fp K v f=some y):E23 (λa o=> v= .ref a) (λa o=> K.lookup a=some o) (λa o=> f o=some y):=by
 cases v with
 |ref a=> obtain ⟨o,h1,h2⟩:=Option.bind_eq_some_iff.mp h;exact ⟨a,o,rfl,h1,h2⟩
 |_=> exact nn h
theorem XM {T:Tb} {F:Ad} {ks:List K}:∀{ws:List W} {es:List DictEntry},ON ks ws es=true->es.map (·.hash)=ks.map (O0 T.p)->CT T F mu0 ws ks es:=by
 induction ks with
 |nil=>
  intro ws es h _;induction ws using lC with
  |nil=> induction es using lC with
   |nil=> exact ⟨rfl,rfl⟩
   |cons=> exact ff h
  |cons=> exact ff h
 |cons k ks ih=>
  intro ws es h hh;induction ws using lC with
  |nil=> exact ff h
  |cons w ws=>
   induction es using lC with
   |nil=> exact ff h
   |cons e es=>
    obtain ⟨h1,h2,h3⟩:=Bb (show (kB k e.key && Gm w e.val && ON ks ws es)=true from h);rw [List.map_cons,List.map_cons,List.cons.injEq] at hh;have c:AD T F mu0 [w] [e.val]:=Gp (by show (Gm w e.val && true)=true;rw [h2];rfl);obtain ⟨_,_,z,c,_⟩:=c;clear h;cases z;refine ⟨k,ks,e,es,rfl,rfl, ?_,c,ih h3 hh.2⟩;induction k using K.casesOn with
    |str s=>
     have h1:(match e.key with | .str t _=> (⟨s.toArray⟩:Str)==t && Nat.ble s.length LIM |_=> false)=true:=h1;cases q:e.key with
     |str u t=>
      rw [q] at h1;obtain ⟨a,b⟩:=AF h1;exact ⟨t,by rw [q,AW a],hh.1,A4 b⟩
     |_=> rw [q] at h1;exact ff h1
    |int i=>
     have h1:(match e.key with | .int j _=> i==j |_=> false)=true:=h1;cases q:e.key with
     |int j t=> rw [q] at h1;exact ⟨t,by rw [q,AW h1],hh.1⟩
     |_=> rw [q] at h1;exact ff h1
theorem ZQ {T:Tb} {K:Frag} {hb:Heap} (X:K.In hb) {w:W} {v:Value} (h:XQ K w v=true) (hh:(Pk K v).map (·.hash)=hashesW T.p w):Rel T (λa o=> hb.get? a=some o) mu0 w v:=by
 have plain:Gm w v=true->Rel T (λa o=> hb.get? a=some o) mu0 w v:=λz=> by
  have c:AD T (λa o=> hb.get? a=some o) mu0 [w] [v]:=Gp (by show (Gm w v && true)=true;rw [z];rfl);obtain ⟨_,_,z,c,_⟩:=c;clear h hh;cases z;exact c
 induction w using W.casesOn with
 |tup l=>
  obtain ⟨h1,h2⟩:=AF h;generalize e:Fp K v ML=x9;induction x9 using oC with
  |none=> rw [e] at h2;exact ff h2
  |some vs=>
   rw [e] at h2;clear h hh plain;obtain ⟨a,o,rfl,ho,hs⟩:=LY e;clear e;obtain ⟨n,rfl⟩:=P6 hs;exact ⟨a,vs,n,rfl,X _ _ ho,A4 h1,Gp h2⟩
 |dct ks ws=>
  obtain ⟨h1,h2⟩:=AF h;generalize e:Fp K v GB=x9;induction x9 using oC with
  |none=> rw [e] at h2;exact ff h2
  |some es=>
   rw [e] at h2;have h3:((Fp K v GB).getD []).map (·.hash)=ks.map (O0 T.p):=hh;rw [e] at h3;clear h hh plain;obtain ⟨a,o,rfl,ho,hs⟩:=LY e;clear e;obtain ⟨n,rfl⟩:=Qn hs;exact ⟨a,es,n,rfl,X _ _ ho,Bv h1,XM h2 h3⟩
 |fn a=> exact AW h
 |none=> exact plain h
 |bool=> exact plain h
 |int=> exact plain h
 |str=> exact plain h
 |bytes=> exact plain h
 |ref=> exact plain h
 |lst=> exact plain h
 |obj=> exact plain h
noncomputable def Oc (K:Frag) (T:Tb) (k:Nat):Option Value:=(T.gl k).bind λn=> (nsIn K mainGlobals (T.nm n)).join
def KO (K:Frag) (T:Tb) (q:Nat × W):Bool:=Option.rec false (XQ K q.2) (Oc K T q.1)
def KZ (K:Frag) (T:Tb) (q:Nat × W):List Int:=(Pk K ((Oc K T q.1).getD .none)).map (·.hash)
noncomputable def UU (K:Frag) (T:Tb) (q:Nat × Nat):Bool:=nsIn K mainGlobals (T.nm q.1)==some (some (.ref q.2))
def W4 (K:Frag) (T:Tb) (q:Nat × Nat):Bool:=Nat.blt q.2 T.cnt && T.nm q.2==bnm q.1 && nsIn K mainGlobals (T.nm q.2)==some none
noncomputable def gb (K:Frag) (k c:Nat):Bool:=(bif Nat.beq k c then isIn K (.ref c) k else kin_not K c k) && plainGet K c "__class__" && hasDictIn K c && findIn K (.ref c) "__class__" ==some (some (.builtin "object.__class__")) && mroIn K c (.type "object")==some true
def Ye (K:Frag) (all:List Nat) (k:Nat):Bool:=all.all (gb K k) && specialIn K (.builtin "object.__class__") "__get__" ==some (some (.builtin "getset_descriptor.__get__")) && takesIn K (.builtin "object.__class__")==some true && isNotIn K "NoneType" k
structure Behind (hb:Heap):Prop where
 boot:∃mb,hb.Ns builtinsNs mb/\∀x:Str,x ≠ "__name__" ->mb x=bootBuiltins x
 lim:hb.NoLimit
 sysm:∃o,hb.get? sysModules=some o
section
variable {B:Base}
theorem VF (X:B.KF.In B.hb) (hp:B.T.p=B.w.params) {gt:Tree W} (hg:∀k,B.T.Z.glob k=look gt k) (h1:(CA gt).all (KO B.KF B.T)=true) (h2:(CA gt).map (KZ B.KF B.T)=(CA gt).map λq=> hashesW B.T.p q.2) {k n:Nat} {y:W} (e1:B.T.gl k=some n) (e2:B.T.Z.glob k=some y):
  ∃v,nsIn B.KF mainGlobals (B.T.nm n)=some (some v)/\Rel B.T (λa o=> B.hb.get? a=some o) mu0 y v:=by
 have m:=Hz ((hg k).symm.trans e2);have h1:=List.all_eq_true.mp h1 _ m;have h2:=Ei h2 m;have e3:Oc B.KF B.T k=(nsIn B.KF mainGlobals (B.T.nm n)).join:=by unfold Oc;rw [e1];rfl
 unfold KO at h1;unfold KZ at h2;dsimp only at h1 h2;rw [e3] at h1 h2;generalize e:nsIn B.KF mainGlobals (B.T.nm n)=x9;induction x9 using oC with
 |none=> rw [e] at h1;exact ff h1
 |some o=>
  induction o using oC with
  |none=> rw [e] at h1;exact ff h1
  |some v=> rw [e] at h1 h2;exact ⟨v,rfl,ZQ X h1 h2⟩
theorem Uw (X:B.KF.In B.hb) (H:Behind B.hb) (hp:B.T.p=B.w.params) (N:Li B.T=true) {gt:Tree W} (hg:∀k,B.T.Z.glob k=look gt k) (h1:(CA gt).all (KO B.KF B.T)=true) (h2:(CA gt).map (KZ B.KF B.T)=(CA gt).map λq=> hashesW B.T.p q.2)
  {ga:Tree Nat} (hga:∀n,B.T.ga n=look ga n) (h3:(CA ga).all (UU B.KF B.T)=true) {bi:NN} (hbi:∀f,B.T.bi f=lkp bi f) (h4:bi.all (W4 B.KF B.T)=true)
  (h5:(Nat.blt B.T.ii B.T.cnt && B.T.nm B.T.ii== "isinstance" && nsIn B.KF mainGlobals "isinstance" ==some none)=true) {ct:Tree Cls} (hct:∀c,B.T.cls c=look ct c) (h6:(CA ct).all (λq=> SX B.KF B.T q.1 q.2)=true):B.Ok where
 glob:=λk n y e1 e2=> VF X hp hg h1 h2 e1 e2
 addr:=λn f e=> AW (List.all_eq_true.mp h3 _ (Hz ((hga n).symm.trans e)))
 bins:=λf n e=> by
  obtain ⟨a,b,c⟩:=Bb (List.all_eq_true.mp h4 _ (AY ((hbi f).symm.trans e)));exact ⟨A4 a,AW b,AW c⟩
 isi:=by
  obtain ⟨a,b,c⟩:=Bb h5;exact ⟨A4 a,AW b,AW c⟩
 boot:=H.boot
 cls:=λc k e=> V3 (List.all_eq_true.mp h6 _ (Hz ((hct c).symm.trans e)))
 K:=X
 p:=hp
 names:=KD N
 lim:=H.lim
 sysm:=H.sysm
theorem VA {k:Nat} (hs:B.T.Z.sub k= [k]) (h:Ye B.KF B.T.Z.all k=true):Nu B k:=by
 obtain ⟨h1,h2,h3,h4⟩:=Bz h;have g:∀c ∈ B.T.Z.all,(bif Nat.beq k c then isIn B.KF (.ref c) k else kin_not B.KF c k)=true/\plainGet B.KF c "__class__" =true/\hasDictIn B.KF c=true/\findIn B.KF (.ref c) "__class__" =some (some (.builtin "object.__class__"))/\mroIn B.KF c (.type "object")=some true:=λc hc=> by
  obtain ⟨h,e⟩:=AF (List.all_eq_true.mp h1 c hc);obtain ⟨a,b,c,d⟩:=Bz h;exact ⟨a,b,c,AW d,AW e⟩
 have hn:∀c,Ai (B.T.Z.sub k) c=Nat.beq k c:=λc=> by
  rw [hs];show Bool.rec (motive:=λυ=> Bool) false true (Nat.beq k c)=_;cases Nat.beq k c <;> rfl
 refine ⟨λc hc z=> ?_,λc hc z=> ?_,λc hc=> (g c hc).2,AW h2,AW h3,h4⟩
 ·have:=(g c hc).1;rw [hn] at z;rw [z] at this;exact this
 ·have:=(g c hc).1;rw [hn] at z;rw [z] at this;exact this
theorem Zm {pn:Nat} (h:(nsIn B.KF mainGlobals (B.T.nm pn)==some none && B.T.nm pn== "Exception")=true) (he:findCls B.KF (.type "Exception") (.type "type") "__init__" =some (.val (.builtin "Exception.__init__"))):Fc B pn (.type "Exception") (.builtin "Exception.__init__"):=by
 obtain ⟨a,b⟩:=AF h;exact Uv (AW a) (AW b) he
theorem aE {pn c f:Nat} {fn:Fn} (H:FnAt B f fn) (h:(nsIn B.KF mainGlobals (B.T.nm pn)==some (some (.ref c)) && specialIn B.KF (.ref c) "__getattribute__" ==some (some (.builtin "type.__getattribute__")) && readsIn B.KF c (.type "type"))=true) (he:findCls B.KF (.ref c) (.type "type") "__init__" =some (.val (.ref f))):Fc B pn (.ref c) (.ref f):=by
 obtain ⟨a,b,c⟩:=Bb h;obtain ⟨o,fd,ho,hd,_⟩:=H;exact V7 (AW a) (AW b) c he ho hd
end
end
section
open PySem PySem.W PySem.Spec PySem.Calls PyProof.Rows PySem.SeqAt
noncomputable abbrev JQ:Code:= .builtin "claim.caller" {}
theorem QE:Cs JQ:=λυ υ=> rfl
theorem YP {prog:Program} {w:World} {t:Sem Fin} {s:Shared} {R:Result->Shared->Prop} (hz:s.asleep) (h1:1 <= s.toks) (h:wpB (model prog w) callerA t (λfin s'=>∃f,fin= .done f/\(R (.ok f) s'/\leftWithCleanup s'.gens=false)) (λe s'=> R (.error e) s'/\leftWithCleanup s'.gens=false) s):
  ∃n r s' s'',runN (denote table) prog w n s ⟨t,JQ,default,[]⟩= .halted (outcomeOf r) s'/\schedN (denote table) prog w n (.single s ⟨t,JQ,default,[]⟩)= .halted (outcomeOf r) s'/\s'.forget=s''.forget/\R r s'':=by
 have hw:Sem.wp (model prog w) ⟨JQ,none,none,[],none⟩ t (Sem.finPost (model prog w) ⟨JQ,none,none,[],none⟩ (λr s'=> R r s'/\leftWithCleanup s'.gens=false)) (λe υ s'=> R (.error e) s'/\leftWithCleanup s'.gens=false) default s:=
  Sem.wp_mono _ _ t (λfin p' s' q=> by obtain ⟨f,rfl,q⟩:=q;exact q) (λυ υ υ q=> q) default s (h _ _ caller_in QE (λx m=> absurd m List.not_mem_nil) h1)
 obtain ⟨n,r,a,b,e1,e2,e3,e4⟩:=wp_halts_full (M:=model prog w) (R:=R) hz hw;exact ⟨n,r,b,a,e2,e1,e3,e4⟩
theorem Yv {c:ClaimW} {tree:List Value->Sem Fin} {w:World} {s:Shared} {free:Addr->Prop} {gens:Prop} {kept:Heap->Prop} (hz:s.asleep) (hg:s.gens=#[])
  (spec:∀args,c.pre args=true->WData.layableAll args=true->∀ord:List DictEntry->List DictEntry,(∀l,(ord l).Perm l)->∃vs s₁,layAllW c.records (classAt s.heap) w.params ord args s=some (vs,s₁)/\1 <= s₁.toks/\
   wpB (model c.prog w) callerA (tree vs) (λfin s'=>∃f,fin= .done f/\(c.Ends s args vs s₁ (.ok f) s'/\s'.os=s.os/\AllBare s'.gens/\kept s'.heap)) (λe s'=> c.Ends s args vs s₁ (.error e) s'/\s'.os=s.os/\AllBare s'.gens/\kept s'.heap) s₁):
  c.CallFrom (λvs=> ⟨tree vs,JQ,default,[]⟩) w free gens kept s:=by
 intro args hp hl ord ho;obtain ⟨vs,s₁,laid,h1,K⟩:=spec args hp hl ord ho;have rest:=layAllW_rest _ _ _ laid;obtain ⟨k,r,s',s'',run,sch,fo,ends,os,kp⟩:=YP (prog:=c.prog) (w:=w) (R:=λr s'=> c.Ends s args vs s₁ r s'/\s'.os=s.os/\kept s'.heap) (Shared.asleep_of_life rest.2.2.2 hz) h1
  (Bw.mono K (λfin s' q=> by obtain ⟨f,e,a,b,d,k⟩:=q;exact ⟨f,e,⟨a,b,k⟩,leftWithCleanup_false_of_bare d⟩) λe s' q=> ⟨⟨q.1,q.2.1,q.2.2.2⟩,leftWithCleanup_false_of_bare q.2.2.1⟩)
 obtain ⟨eh,_,_,eo,_⟩:=Shared.forget_eq fo;have life:s'.heap.life=s.heap.life:=(runN_life _ _ _ run).trans rest.2.2.2;refine ⟨vs,s₁,laid,k,_,s',sch, ?_,λυ i x hx=> ?_,by rw [eh];exact kp,by rw [life],Shared.rest_eq (eo.trans os)⟩
 ·clear run sch;rcases ends.congr eh with ⟨v,rfl,d⟩ |⟨e,ob,cl,rfl,d⟩
  ·exact .inl ⟨v,rfl,d.1,d.2.1,d.2.2.1,λb o y υ=> d.2.2.2.1 b o y,d.2.2.2.2⟩
  ·exact .inr ⟨e,ob,cl,rfl,d.1,d.2.1,d.2.2.1,d.2.2.2.1,λb o y υ=> d.2.2.2.2 b o y⟩
 ·rw [hg] at hx;simp at hx
theorem ZA {r:OpenRow} {q:Program} {loose:List Str} {xt:Shared->Bool} {α:Type} {Yf:Shared->α} {Ya:World->α} {d:DefRec} {kwd:List (Str × PySem.Expr)} {N:Nat} (left:LeftO r.prog q loose xt Yf Ya N true) (hR:r.records= [])
  (hdef:defOf q r.name=some (d,kwd)) (hp:r.prog.theDef r.name=some (d.params,d.body,d.scope)) (hk:kwWritten? d.params.kwonlyargs d.params.kw_defaults=some kwd) (k1:r.wellSaid=true) (ok:(chainsOk q && opensWell r.prog && (frees r.toRowW && r.within.isEmpty))=true) (hb:r.prog.bare) (hw:r.toRowW.promised)
  (call:∀(w:World) (s₀ s₁:Shared) (mg:Str->Option Value),s₁.heap.Ns mainGlobals mg->Yf s₀=Ya w->∀(args:List WData) (vs:List Value) (as:List Addr) (a:Addr),mg r.name=some (.ref a)->r.claim.pre args=true->PySem.W.Laid r.records w s₀ s₁ args vs as->s₁.gens=#[]->
   1 <= s₁.toks/\wpB (model r.prog w) callerA (PySem.call (.ref a) vs) (λv s'=> GoodWG r.claim (classAt s₀.heap) (ExcName.means s₀.heap) args s₁ (.ok (.ret v)) s') (λe s'=> GoodWG r.claim (classAt s₀.heap) (ExcName.means s₀.heap) args s₁ (.error e) s') s₁):r.Holds:=by
 refine ⟨k1,hw, ?_⟩;obtain ⟨ok,k5⟩:=Bool.and_eq_true_iff.mp ok;obtain ⟨hch,o1⟩:=Bool.and_eq_true_iff.mp ok;obtain ⟨k5,k6⟩:=Bool.and_eq_true_iff.mp k5;obtain ⟨hsame,hu,ha,hap,hm⟩:=frees_parts k5;refine ⟨⟨hb,o1,by show r.makers.map _= [];rw [hm];rfl⟩,hw.witness,λw=> ?_⟩;have bh:=left.behind (XP:=λυ h=> RecFacts r.records h) (λs υ=> recFacts_nil hR) hch w;refine ⟨bh.1,λs' hs'=> ?_⟩;obtain ⟨s₀,hf,hg0,s,hT,hz,hgens,hg,G0,y⟩:=bh.2 s' hs';have RF:RecFacts r.records s.heap:=recFacts_nil hR;refine ⟨s₀,hf,hg0,s,hT,λn hn=> ?_,RF.1,RF.2.1, ?_⟩
 ·obtain rfl:n=r.name:=by split at hn <;> simp_all
  exact pinned_of_view hg G0 hdef hp hk
 have hgens:s.gens=#[]:=Array.eq_empty_of_size_eq_zero (beq_iff_eq.mp hgens);have G:Ground q loose r.records _ w s _ _ s.heap:=RF.ground G0;refine Yv (c:=r.claim) hz hgens λargs hpre hlay ord hord=> ?_
 obtain ⟨⟨vs,s₁⟩,hlaid⟩:=Option.isSome_iff_exists.mp (layAllW_isSome (P:=w.params) (ord:=ord) G.has args r.args s (pre_splitW hpre).1);have keeps:=layAllW_keeps _ _ _ hlaid;have hal:=layAllW_rest _ _ _ hlaid;obtain ⟨as,hrd,hin,hold⟩:=reads_layAllW hord _ _ _ hlaid hlay s₁.heap (λυ υ e=> e);have L:PySem.W.Laid r.records w s s₁ args vs as:=⟨⟨ord,hord,hlaid⟩,hrd,hin,hold,keeps,hal.1.trans hgens,hal.2.2.1⟩;have G₁:=G.keeps (λυ υ υ υ υ=> recFacts_nil hR) keeps;obtain ⟨a,o,pm,cd,doc,dV,kV,h1,_⟩:=G₁.fn hdef;obtain ⟨t1,h⟩:=call w s s₁ _ G₁.T.g y args vs as a h1 hpre L (hal.1.trans hgens);have hi:=ident_freeW hu ha hap;have hwi:r.claim.within= []:=List.isEmpty_iff.mp k6;have z:=λ{r' s'} (g:GoodWG r.claim (classAt s.heap) (ExcName.means s.heap) args s₁ r' s')=> g.laid (c:=r.claim) hsame hwi hi L
 refine ⟨vs,s₁,hlaid,t1, ?_⟩;show wpB _ _ (do match <- nsGet mainNs r.name with
   |some f=> do ret (<- PySem.call f vs)
   |none=> unsupported "claim.caller:no-such-global") _ _ _
 refine Bw.Ar (wpAny_nsGet G₁.T.g ?_);rw [h1];have kn:∀{s':Shared},(∀b o,s₁.heap.get? b=some o->asItWas s₁.heap s'.heap b o)->r.writes=true->namesKept r.prog r.keeps s.heap s'.heap/\∀x ∈ r.records,∀a,classAt s.heap x.1=some a->recordClass s'.heap a x.1 (x.2.map (·.1))=true:=λold υ=> ⟨namesKept_of hT hg r.keeps keeps old,λx hx=> by rw [hR] at hx;exact absurd hx List.not_mem_nil⟩
 refine Bw.bind (Bw.mono h (λv s' g=> Bw.pure ⟨_,rfl,(z g).1,(z g).2.1,(z g).2.2,kn g.2.1.old⟩) λe s' g=> ⟨(z g).1,(z g).2.1,(z g).2.2,kn g.2.1.old⟩)
theorem YJ {B:Base} {G:Gd} {kn:List Nat} {rk:Nat} {fn:Fn} (BO:B.Ok) (GO:G.Ok B kn rk) (h:okB B.T G kn fn.body ⟨fn.ns.map some,fn.ks,fn.ns⟩=true) (C':Cx) (hC:C'.toBase=B) (O:C'.Ok) (Sc:C'.Sc fn.ks) (hn:C'.ns=fn.ns.map some) (hm:∀n ∈ fn.ns,AR C' (B.T.nm n)) (R:DP C' (rk + 1)):
  DV C' (execs (B6 B.T fn.body) C'.env) (block (Ay B.T.Z fn.body)):=by
 subst hC;exact Qv (T:=C'.T) fn.body C' _ rfl ⟨BO,O,hn,Sc,hm,R,GO⟩ h
theorem call_top {B:Base} (BO:B.Ok) {f:Nat} {fn:Fn} (H:FnAt B f fn) (np:fn.np=1) (dfl:fn.dfl= []) (nc:∀q ∈ fn.ks,q.2 ≠ 1) {rk:Nat} (rk0:rk <= 210) (body:∀C':Cx,C'.toBase=B->C'.Ok->C'.Sc fn.ks->C'.ns=fn.ns.map some->(∀n ∈ fn.ns,AR C' (B.T.nm n))->DP C' rk->DV C' (execs (B6 B.T fn.body) C'.env) (block (Ay B.T.Z fn.body)))
  {s:Shared} {v:Value} {w:W} {wr:W} {σr:List O} {Q:VP} {E:VP} (kb:Keeps B.hb s.heap) (r:Rel B.T (λa o=> s.heap.get? a=some o) mu0 w v) (run:fn.run B.T.Z [w] []= .ok wr σr)
  (q:∀u s',Keeps s.heap s'.heap->s'.gens=s.gens->s'.os=s.os->(∃F μ,Rel B.T F μ wr u)->Q u s'):codeB (model B.prog B.w) callerA (.call (.ref f) ⟨[v],[]⟩) (Ic Q E) s:=by
 obtain ⟨o,fd,ho,hd,Fi'⟩:=H;have X:=BO.K.keeps kb;obtain ⟨dvs,rd,hbind⟩:=Fi'.dfl;rw [dfl] at rd;cases (show dvs= [] from rd);have pk:∀S,peek B.KF S (bindArgs fd ⟨[v],[]⟩)=some (((fn.ns.take fn.np).map B.T.nm).zip [v]):=λS=> by
  rw [hbind S _ (by rw [np];exact Nat.le_refl _) (by rw [np];exact Nat.le_add_right _ _)];simp
 have fnlt:∀{z},z ∈ fn.ns->z < B.T.cnt:=λhz=> by rcases Fi'.locs _ hz with h |h <;> exact Fi'.ksl _ (AY h)
 have loc0:∀z ∈ fn.ns,lkp fn.ks z=some 0:=λz hz=> (Fi'.locs z hz).resolve_right λh=> nc _ (AY h) rfl
 obtain ⟨n0,ns',hns0⟩:∃n0 ns',fn.ns=n0::ns':=by
  have:=Fi'.many;rw [np] at this;generalize h:fn.ns=x9;induction x9 using lC with
  |nil=> rw [h] at this;exact absurd this (Nat.not_succ_le_zero _)
  |cons a b=> exact ⟨a,b,rfl⟩
 have zp:((fn.ns.take fn.np).map B.T.nm).zip [v]= [(B.T.nm n0,v)]:=by rw [np,hns0];rfl
 rw [zp] at pk;have lk0:fd.scope.names.lookup (B.T.nm n0)=some .local:=by
  rw [Fi'.names];exact BM BO.names Fi'.ksl (loc0 n0 (by rw [hns0];exact .head _))
 refine Bw.NY (by show 1 + claimMargin < recursionLimit;decide) (X _ _ ho) hd (BO.lim.keeps kb) (codeRec_of X Fi'.code) Fi'.body (λM A E Q z=> (Looks.of_peek (M:=M) X (pk _)).here z) (λy hy hc=> ?_) (λy hy=> ?_) (λh1 hns kp=> ?_) Fi'.co Fi'.gen Fi'.kind
 ·rw [Fi'.names] at hy;clear rd run;obtain ⟨z,hz,rfl⟩:=List.mem_map.mp hy;have hc:Bp z.2= .cell:=hc;refine nc z hz ?_
  match h:z.2 with
  |0=> rw [h] at hc;clear h hy;cases hc
  |1=> rfl
  |2=> rw [h] at hc;clear h hy;cases hc
  |3=> rw [h] at hc;clear h hy;cases hc
  |n + 4=> rw [h] at hc;clear h hy;cases hc
 ·cases mSg hy;exact lk0
 ·generalize henv:callEnv fd s.heap.objs.size f=env;have eL:env.locals=s.heap.objs.size:=by rw [<- henv];rfl
  have eF:env.frame=some s.heap.objs.size:=by rw [<- henv];rfl
  have eS:env.scope=fd.scope:=by rw [<- henv];rfl
  have eC:env.cells= []:=by rw [<- henv];show fd.closure= [];exact Fi'.clos
  have eG:env.globals=mainGlobals:=by rw [<- henv];exact Fi'.glob
  have eB:env.builtins=builtinsNs:=by rw [<- henv];exact Fi'.bi
  have hn:h1.Ns env.locals (λx=> [(B.T.nm n0,v)].reverse.lookup x):=by rw [eL];exact hns
  let C':Cx:=⟨B,callerA.deeper env,env,env,[],[env.locals],fn.ns.map some⟩
  have fr1:∀a ∈ C'.fr,a=env.locals:=λa ha=> by
   have:C'.fr= [s.heap.objs.size]:=by show frs [env]=_;unfold frs;rw [List.filterMap_cons,eF];rfl
   rw [this] at ha;rw [mSg ha,eL]
  have nsn:∀k n,nth (fn.ns.map some) k=some (some n)->fn.ns[k]? =some n:=λk n e=> by
   rw [AL,List.getElem?_map] at e;obtain ⟨m,h1,h2⟩:=Option.map_eq_some_iff.mp e;clear rd run;cases h2;exact h1
  have kind:∀{n},lkp fn.ks n=some 0->env.kindOf (B.T.nm n)=some .local:=λe=> by unfold Env.kindOf;rw [eS,Fi'.names];exact BM BO.names Fi'.ksl e
  have ok:C'.Ok:=by
   refine ⟨rfl,⟨_,eF,eF⟩,.head _,eG,eB,by rw [show C'.env.scope=fd.scope from eS];exact Fi'.kind,λk n e=> ?_,λa ha hne=> absurd (mSg ha) hne,λa υ ha=> mSg ha,λk k' n n' e e' h=> ?_,by show 4 + 3 + 100 < cLine;decide,λy y' c h=> ?_,rfl⟩
   ·have:=BO.names.plain n (fnlt (List.mem_of_getElem? (nsn k n e)));exact ⟨this.1,this.2.1⟩
   ·have e1:=nsn k n e;have e2:=nsn k' n' e';have:=BO.names.inj n n' (fnlt (List.mem_of_getElem? e1)) (fnlt (List.mem_of_getElem? e2)) h;clear e' h rd run;subst this;obtain ⟨l1,g1⟩:=List.getElem?_eq_some_iff.mp e1;obtain ⟨l2,g2⟩:=List.getElem?_eq_some_iff.mp e2;exact (List.getElem_inj Fi'.nodup).mp (g1.trans g2.symm)
   ·have h:List.lookup y env.cells=some c:=h;rw [eC] at h;exact nn h
  have lt:∀{b o},s.heap.get? b=some o->b ≠ env.locals:=λe z=> by rw [eL] at z;exact Nat.lt_irrefl _ (z▸Heap.lt_size e)
  have D:Wd B.T B.hb ⟨λb=> b=env.locals,λυ=> 0,λυ=> 0,[]⟩ h1:=⟨λb o e=> kp b o (kb b o e),λb o e z=> lt (kb b o e) z,λb z=> by rw [show b=_ from z];exact Cu hn,λi o e=> nn e,λi o e=> nn e,λi c fs e=> nn e,λi j o1 o2 n e=> nn e⟩;have fz:∀a o,s.heap.get? a=some o->Fz h1 (λb=> b=env.locals) a o:=λa o e=> ⟨kp a o e,lt e⟩
  have i':In C' ⟨λb=> b=env.locals,λυ=> 0,λυ=> 0,[]⟩ (BX fn.nl [w]) h1:=by
   have nown:∀a,¬ (⟨λb=> b=env.locals,λυ=> 0,λυ=> 0,[]⟩:Wx).owned a:=λa z=> by obtain ⟨i,o,e,_⟩:=z;exact nn e
   refine ⟨D,⟨_,hn⟩,λk n w' e1 e2=> ?_,λy c e=> ?_,λa ha=> ⟨mSg ha,nown a⟩,λe he=> ?_⟩
   ·induction k with
    |zero=>
     have e1:=nsn 0 n e1;rw [hns0] at e1;clear rd run;cases e1;have:w' =w:=by
      generalize h:fn.nl=x9;induction x9 with
      |zero=> rw [h] at e2;clear e1 h;cases e2;rfl
      |succ m=> rw [h] at e2;clear e1 h;cases e2;rfl
     clear e1 e2;subst this;exact ⟨v,.inl ⟨kind (loc0 _ (by rw [hns0];exact .head _)),_,hn,by show List.lookup (B.T.nm n0) [(B.T.nm n0,v)]=some v;rw [List.lookup_cons,beq_self_eq_true]⟩,Rel.mono fz (Kw _) r⟩
    |succ k=>
     exfalso;have pad:∀m k,nth (BX m []) k=some (some w')->False:=λm=> by
      induction m with
      |zero=> exact λk e=> nn e
      |succ m ih=> exact λk e=> by induction k with
       |zero=> exact nn (sIj e)
       |succ k=> exact ih k e
     generalize h:fn.nl=x9;induction x9 with
     |zero=> rw [h] at e2;exact nn e2
     |succ m=> rw [h] at e2;exact pad m k e2
   ·have e:List.lookup y env.cells=some c:=e;rw [eC] at e;exact nn e
   ·cases mSg he;exact ⟨by rw [eS,Fi'.kind];exact nofun,_,_,eF,eL▸hn,eL.symm,nown _⟩
  have room:DP C' rk:=⟨by show 1 + claimMargin + 1 + rk < recursionLimit;unfold claimMargin recursionLimit;lia,by show 4 + 3 + 3 * rk + 100 < cLine;unfold cLine;lia,rfl⟩;have sc:C'.Sc fn.ks:=⟨by rw [show C'.env.scope=fd.scope from eS];exact Fi'.names,Fi'.ksl⟩;refine body C' rfl ok sc rfl (λn hn=> .inl (kind (loc0 n hn))) room _ _ {s with heap:=h1,toks:=_} _ _ i' ?_;have run:BC (block (Ay B.T.Z fn.body) (BX fn.nl [w]) [])= .ok wr σr:=by
   unfold Fn.run Dr at run;have:fill fn.np fn.dfl [w]=some [w]:=by rw [np,dfl];rfl
   rw [this] at run;exact run
  have keep:∀{x':Wx} {s':Shared} {tk:Nat},Go C' ⟨λb=> b=env.locals,λυ=> 0,λυ=> 0,[]⟩ x' {s with heap:=h1,toks:=tk} s'->Keeps s.heap s'.heap:=λg b o e=> by
   refine g.ext.keep b o (kp b o e) λm=> ?_
   rcases m with m |m |m |⟨m,_⟩
   ·obtain ⟨i,o,e,_⟩:=m;exact nn e
   ·exact lt e (mSg m)
   ·exact lt e (fr1 b m)
   ·exact lt e m
  show AK _ _ _ (block (Ay B.T.Z fn.body) (BX fn.nl [w]) []) _ _;generalize hres:block (Ay B.T.Z fn.body) (BX fn.nl [w]) []=x9;induction x9 using RS.casesOn with
  |stuck n=> rw [hres] at run;clear hres rd;cases run
  |exc c fs l' σ=> rw [hres] at run;clear hres rd;cases run
  |next l' σ=>
   rw [hres] at run;clear hres rd;cases run;exact λs' x' e g i''=> q _ s' (keep g) g.gens g.os ⟨λυ υ=> True,mu0,rfl⟩
  |ret w1 σ=>
   rw [hres] at run;clear hres rd;cases run;exact λu s' x' l' e g i'' ru=> q _ s' (keep g) g.gens g.os ⟨_,_,ru⟩
end
section
open PySem PySem.W
noncomputable abbrev PW:Program:=PySem.Challenge.pw_nm0175_01
noncomputable def qi (i:Int):Value:= .int i 0
noncomputable def qs (s:String) (t:Nat):Value:= .str (Str.ofString s) t
noncomputable def qe (P:Params) (s:String) (t:Nat) (v:Value):DictEntry:=⟨PyData.keyHash P (Str.ofString s),.str (Str.ofString s) t,v⟩
noncomputable def qt (l:List Value):Obj:={cls:= .type "tuple",data:= .seq l.toArray 0}
noncomputable def qf (l:List Value):Obj:={cls:= .none,data:= .fields l.toArray}
noncomputable def qd (l:List DictEntry) (n:Nat):Obj:={cls:= .type "dict",data:= .dict l.toArray n}
def qc (a b:String) (ta:Nat) (l na x1 x2 fl:Int) (r1:Nat) (bb:Bool) (m:Int) (r2:Nat) (v3 v4 v5 v6:Value) (k:Int) (tc:Nat):Obj:={cls:= .type "code",data:= .fields #[qs a ta,qs b (ta + 1),qs "/claim/cut.py" (ta + 2),qi l,qi na,qi x1,qi x2,qi fl,.ref r1,.bool bb,qi m,.ref r2,v3,v4,v5,v6,qi k,qi l,qs "/claim/cut.py" tc]}
noncomputable def qb (a b:Value):Obj:={cls:= .type "builtin_function_or_method",data:= .fields #[a,b]}
def qw (t a:Nat):Obj:={cls:= .type "getset_descriptor",data:= .fields #[qs "__weakref__" t,.ref a,.builtin "ExceptionGroup.__weakref__",.none]}
def qx (t a:Nat):Obj:={cls:= .type "getset_descriptor",data:= .fields #[qs "__dict__" t,.ref a,.builtin "function.__dict__",.builtin "function.__dict__#set"]}
noncomputable def qu (a:Nat):Obj:={cls:= .type "super",data:= .fields #[.ref a,.ref a,.ref a]}
noncomputable def qy (a b:Nat) (m:Value):Obj:={cls:= .type "frame",slots:=#[some (.ref a),some (.ref 3),some (.ref b),none,some m,none,some (.ref 0)]}
def qk (n:String) (bs:List Value) (a:Nat) (m u:List Value) (d:Option Value) (x y:Nat) (f:String):Obj:={cls:= .type "type",data:= .cls {name:=Str.ofString n,bases:=bs,mro:= .ref a::m,ns:=a - 1,qualname:=Str.ofString n,hasDict:=true,slotNames:= [],subclasses:=u,abstract:=false,collection:=none,hasDel:=false},slots:=#[d,none,some (qs n x),some (qs n y),some (.builtin f),some (.bool true)]}
def hc (i:Nat):Stmt:=((behindTheImports PW)[i]?).getD (.Pass default)
def hm (i j:Nat):Stmt:=match hc i with | .ClassDef _ _ _ b _ _ _ _ _ _ _=> (b[j]?).getD (.Pass default) |s=> s
noncomputable def fN (s:Stmt):Str:=match s with | .FunctionDef n _ _ _ _ _ _ _ _ _=> n |_=> default
noncomputable def fA (s:Stmt):Arguments:=match s with | .FunctionDef _ a _ _ _ _ _ _ _ _=> a |_=> default
noncomputable def fB (s:Stmt):List Stmt:=match s with | .FunctionDef _ _ b _ _ _ _ _ _ _=> b |_=> []
noncomputable def fS (s:Stmt):Scope:=match s with | .FunctionDef _ _ _ _ _ _ c _ _ _=> c |_=> default
def qr (s:Stmt) (q:String):Obj:={cls:= .none,data:= .func {name:=fN s,qualname:=Str.ofString q,params:=fA s,body:= .stmts (fB s),scope:=fS s,globals:=0,closure:= [],defaults:= .none,kwdefaults:= .none}}
def qn (s:Stmt) (q:String) (dv md cd:Value):Obj:={cls:= .type "function",data:= .func {name:=fN s,qualname:=Str.ofString q,params:=fA s,body:= .stmts (fB s),scope:=fS s,globals:=3,closure:= [],defaults:=dv,kwdefaults:= .none,pyModule:=md,code:=cd}}
def nms (l:List String):Nat->List Value:=l.rec (λυ=> []) λs υ ih t=> qs s t::ih (t + 1)
def qC (a:Str) (b:String) (ta:Nat) (l na:Int) (r1:Nat) (v4 v5 v6:Value) (k:Nat):Obj:={cls:= .type "code",data:= .fields #[.str a ta,qs b (ta + 1),qs "/claim/cut.py" (ta + 2),qi l,qi na,qi 0,qi 0,qi 3,.ref r1,.bool true,qi 181,.ref (r1 + 1),.none,v4,v5,v6,qi k,qi l,qs "/claim/cut.py" (k + 1)]}
def fv (b:Nat) (s:Stmt) (q:String) (T:Nat) (l na:Int) (ns:List String) (m:Value) (r:List (Nat × Obj)):List (Nat × Obj):=(b,qt [])::(b + 1,qf [])::(b + 2,qt (nms ns (T + 3)))::(b + 3,qt [])::(b + 4,qr s q)::(b + 5,qC (fN s) q T l na b (.ref (b + 2)) (.ref (b + 3)) (.ref (b + 4)) (T + 3 + ns.length))::(b + 6,qn s q .none m (.ref (b + 5)))::r
def fw (b:Nat) (s:Stmt) (q:String) (T:Nat) (l na:Int) (m:Value) (r:List (Nat × Obj)):List (Nat × Obj):=(b,qt [])::(b + 1,qf [])::(b + 2,qr s q)::(b + 3,qC (fN s) q T l na b .none .none (.ref (b + 2)) (T + 3))::(b + 4,qn s q .none m (.ref (b + 3)))::r
def qN (P:Params) (v:Value) (l:List DictEntry):List DictEntry:=qe P "__name__" 165 v::l.tail
def mo0:Value:=qs "__main__" 164
def mo1:Value:=qs "wasmcore.faults" 200
def mo2:Value:=qs "wasmcore.kinds" 327
def mo3:Value:=qs "wasmcore.octets" 380
def mo4:Value:=qs "wasmcore.lexer" 415
def mo5:Value:=qs "wasmcore.modules" 877
def mo6:Value:=qs "wasmcore.textbody" 1231
def mo7:Value:=qs "wasmcore.spaces" 1249
def mo8:Value:=qs "wasmcore.textfields" 1377
def mo9:Value:=qs "law_nm0175_01" 1777
noncomputable def qL (t:BT) (l:List (Nat × Obj)):BT:=l.foldl (λt p=> t.ins p.1 p.2) t
def qG (i n:Nat):List Stmt:=((behindTheImports PW).drop i).take n
noncomputable def Av:Env:={scope:=PW.main.scope,locals:=mainNs,globals:=mainNs,cells:= [],code:= .ref 13,frame:=some 14}
noncomputable def Cp:Life:={}
noncomputable def hQ0 (P:Params):List Value:= []
def hT0 (P:Params):BT:=qL .nil [(0,boot_o_0 P),(1,boot_o_1 P),(2,boot_o_2 P),(3,boot_o_3 P),(4,boot_o_4 P),(5,boot_o_5 P),(6,boot_o_6 P),(7,boot_o_7 P),(8,boot_o_8 P),(9,boot_o_9 P),(10,boot_o_10 P),(11,qt []),(12,qf (hQ0 P)),(13,qc "<module>" "<module>" 182 1 0 0 0 0 11 false 181 12 .none .none .none .none 185 186),(14,qy 13 3 mo0)]
def hS0 (w:World) (os:OsState):SharedT:=⟨hT0 w.params,15,Cp,#[],⟨0,0,0,0⟩,187,os⟩
def hD1 (P:Params):List DictEntry:= [qe P "__name__" 165 mo2,qe P "__doc__" 166 .none,qe P "__package__" 167 .none,qe P "__loader__" 168 (.builtin "__main__.__loader__#opaque"),qe P "__spec__" 169 .none,qe P "__annotations__" 170 (.ref 6),qe P "__builtins__" 171 (.ref 4),qe P "__file__" 173 (qs "/claim/cut.py" 172),qe P "__cached__" 174 .none,qe P "_wall" 193 (.ref 21),qe P "END" 195 (.int 11 194),qe P "I32_CONST" 197 (.int 65 196),qe P "REF_FUNC" 199 (.int 210 198),qe P "WasmFault" 230 (.ref 38),qe P "Malformed" 256 (.ref 58),qe P "BadText" 284 (.ref 77),qe P "LeftOut" 310 (.ref 96),qe P "Misused" 326 (.ref 108),qe P "I32" 331 (.int (-1) 330),qe P "I64" 334 (.int (-2) 333),qe P "FUNCREF" 337 (.int (-16) 336)]
def hQ1 (P:Params):List Value:=hQ0 P ++ [(qi 1),(qi 0),(.ref 20),(qi 8),(qi 0),(.ref 27),(qi 13),(qi 0),(.ref 47),(qi 18),(qi 0),(.ref 66),(qi 24),(qi 0),(.ref 85),(qi 29),(qi 0),(.ref 104)]
def hT1 (P:Params):BT:=qL (hT0 P) ([(2,{cls:= .none,data:= .dict #[qe P "type.__subclasses__.Exception.0" 227 (qi 38),qe P "type.__subclasses__.Exception.n" 228 (qi 1)] 2}),
 (3,qd (hD1 P) 21),
 (12,qf (hQ1 P))] ++ (fv 15 (hc 0) "_wall" 187 1 1 ["k"] mo0 ([(22,qt [(.type "Exception")]),
 (23,qb (.builtin "type.__prepare__") (.type "type")),
 (24,qd [qe P "__module__" 209 mo1,qe P "__qualname__" 211 (qs "WasmFault" 210),qe P "__firstlineno__" 213 (.int 8 212),qe P "__init__" 221 (.ref 35),qe P "__static_attributes__" 223 (.ref 36)] 5),
 (25,qt []),
 (26,qf [(qi 10),(qi 4),(.ref 34)]),
 (27,qc "WasmFault" "WasmFault" 204 8 0 0 0 0 25 false 181 26 .none .none .none .none 207 208),
 (28,qy 27 24 mo1)] ++ (fv 29 (hm 5 0) "WasmFault.__init__" 214 10 2 ["self", "why"] mo1 ([(36,qt [(qs "why" 222)]),
 (37,qd [qe P "__module__" 209 mo1,qe P "__firstlineno__" 213 (.int 8 212),qe P "__init__" 221 (.ref 35),qe P "__static_attributes__" 223 (.ref 36),qe P "__weakref__" 225 (.ref 39),qe P "__doc__" 226 .none] 3),
 (38,qk "WasmFault" [(.type "Exception")] 38 [(.type "Exception"),(.type "BaseException"),(.type "object")] [(.ref 58),(.ref 77),(.ref 96),(.ref 108)] (some (.ref 22)) 202 210 "Exception.__new__"),
 (39,qw 224 38),
 (40,qu 38),
 (41,qb (.builtin "object.__init_subclass__") (.ref 38)),
 (42,qt [(.ref 38)]),
 (43,qb (.builtin "type.__prepare__") (.type "type")),
 (44,qd [qe P "__module__" 238 mo1,qe P "__qualname__" 240 (qs "Malformed" 239),qe P "__firstlineno__" 242 (.int 13 241),qe P "__init__" 251 (.ref 55),qe P "__static_attributes__" 253 (.ref 56)] 5),
 (45,qt []),
 (46,qf [(qi 15),(qi 4),(.ref 54)]),
 (47,qc "Malformed" "Malformed" 233 13 0 0 0 0 45 false 181 46 .none .none .none .none 236 237),
 (48,qy 47 44 mo1)] ++ (fv 49 (hm 6 0) "Malformed.__init__" 243 15 3 ["self", "why", "at"] mo1 ([(56,qt [(qs "at" 252)]),
 (57,qd [qe P "__module__" 238 mo1,qe P "__firstlineno__" 242 (.int 13 241),qe P "__init__" 251 (.ref 55),qe P "__static_attributes__" 253 (.ref 56),qe P "__doc__" 254 .none] 2),
 (58,qk "Malformed" [(.ref 38)] 58 [(.ref 38),(.type "Exception"),(.type "BaseException"),(.type "object")] [] (some (.ref 42)) 231 239 "Exception.__new__"),
 (59,qu 58),
 (60,qb (.builtin "object.__init_subclass__") (.ref 58)),
 (61,qt [(.ref 38)]),
 (62,qb (.builtin "type.__prepare__") (.type "type")),
 (63,qd [qe P "__module__" 264 mo1,qe P "__qualname__" 266 (qs "BadText" 265),qe P "__firstlineno__" 268 (.int 18 267),qe P "__init__" 278 (.ref 74),qe P "__static_attributes__" 281 (.ref 75)] 5),
 (64,qt []),
 (65,qf [(qi 20),(qi 4),(.ref 73)]),
 (66,qc "BadText" "BadText" 259 18 0 0 0 0 64 false 181 65 .none .none .none .none 262 263),
 (67,qy 66 63 mo1)] ++ (fv 68 (hm 7 0) "BadText.__init__" 269 20 4 ["self", "why", "row", "column"] mo1 ([(75,qt [(qs "column" 279),(qs "row" 280)]),
 (76,qd [qe P "__module__" 264 mo1,qe P "__firstlineno__" 268 (.int 18 267),qe P "__init__" 278 (.ref 74),qe P "__static_attributes__" 281 (.ref 75),qe P "__doc__" 282 .none] 2),
 (77,qk "BadText" [(.ref 38)] 77 [(.ref 38),(.type "Exception"),(.type "BaseException"),(.type "object")] [] (some (.ref 61)) 257 265 "Exception.__new__"),
 (78,qu 77),
 (79,qb (.builtin "object.__init_subclass__") (.ref 77)),
 (80,qt [(.ref 38)]),
 (81,qb (.builtin "type.__prepare__") (.type "type")),
 (82,qd [qe P "__module__" 292 mo1,qe P "__qualname__" 294 (qs "LeftOut" 293),qe P "__firstlineno__" 296 (.int 24 295),qe P "__init__" 305 (.ref 93),qe P "__static_attributes__" 307 (.ref 94)] 5),
 (83,qt []),
 (84,qf [(qi 26),(qi 4),(.ref 92)]),
 (85,qc "LeftOut" "LeftOut" 287 24 0 0 0 0 83 false 181 84 .none .none .none .none 290 291),
 (86,qy 85 82 mo1)] ++ (fv 87 (hm 8 0) "LeftOut.__init__" 297 26 3 ["self", "why", "at"] mo1 [(94,qt [(qs "at" 306)]),
 (95,qd [qe P "__module__" 292 mo1,qe P "__firstlineno__" 296 (.int 24 295),qe P "__init__" 305 (.ref 93),qe P "__static_attributes__" 307 (.ref 94),qe P "__doc__" 308 .none] 2),
 (96,qk "LeftOut" [(.ref 38)] 96 [(.ref 38),(.type "Exception"),(.type "BaseException"),(.type "object")] [] (some (.ref 80)) 285 293 "Exception.__new__"),
 (97,qu 96),
 (98,qb (.builtin "object.__init_subclass__") (.ref 96)),
 (99,qt [(.ref 38)]),
 (100,qb (.builtin "type.__prepare__") (.type "type")),
 (101,qd [qe P "__module__" 318 mo1,qe P "__qualname__" 320 (qs "Misused" 319),qe P "__firstlineno__" 322 (.int 29 321),qe P "__static_attributes__" 323 (.ref 106)] 4),
 (102,qt []),
 (103,qf []),
 (104,qc "Misused" "Misused" 313 29 0 0 0 0 102 false 181 103 .none .none .none .none 316 317),
 (105,qy 104 101 mo1),
 (106,qt []),
 (107,qd [qe P "__module__" 318 mo1,qe P "__firstlineno__" 322 (.int 29 321),qe P "__static_attributes__" 323 (.ref 106),qe P "__doc__" 324 .none] 2),
 (108,qk "Misused" [(.ref 38)] 108 [(.ref 38),(.type "Exception"),(.type "BaseException"),(.type "object")] [] (some (.ref 99)) 311 319 "Exception.__new__"),
 (109,qu 108),
 (110,qb (.builtin "object.__init_subclass__") (.ref 108))]))))))))))
def hS1 (w:World) (os:OsState):SharedT:=⟨hT1 w.params,111,Cp,#[],⟨0,0,0,0⟩,338,os⟩
def hG1:List Stmt:=qG 0 14
abbrev hP1 (w:World):Prop:=(λos=> segRunT treeTable PW w 11 (some (.ref 6)) 1 1298 (hS0 w os) (piecesOf hG1 Av (.body (behindTheImports PW) Av) ⟨0,0,0,0⟩ [topFrame ⟨0,0,0,0⟩]))=λos=> some (.next,hS1 w os,.body (behindTheImports PW) Av,⟨34,0,34,7⟩)
theorem hp1 (w:World):hP1 w:=by unfold hP1;rw [PySem.W.Fast.te10110043849684766642,PySem.W.Fast.te14364793385576792824];kernel_rfl
def hD2 (P:Params):List DictEntry:=qN P mo4 (hD1 P) ++ [qe P "EXTERNREF" 340 (.int (-17) 339),qe P "FUNCTION" 342 (.int 0 341),qe P "KIND_NAMES" 351 (.ref 111),qe P "LEFT_NAMES" 364 (.ref 112),qe P "kind_of" 372 (.ref 119),qe P "is_left_name" 379 (.ref 126),qe P "utf8_of" 391 (.ref 133),qe P "head_of" 399 (.ref 140),qe P "text_of" 414 (.ref 148),qe P "DIGITS" 418 (qs "0123456789" 417),qe P "HEX_DIGITS" 420 (qs "0123456789abcdefABCDEF" 419),qe P "SMALL_LETTERS" 422 (qs "abcdefghijklmnopqrstuvwxyz" 421),qe P "GREAT_LETTERS" 424 (qs "ABCDEFGHIJKLMNOPQRSTUVWXYZ" 423),qe P "ID_SIGNS" 429 (qs "0123456789abcdefghijklmnopqrstuvwxyzABCDEFGHIJKLMNOPQRSTUVWXYZ!#$%&'*+-./:<=>?@\\^_`|~" 428),qe P "LONE_SIGNS" 431 (qs ",;[]{}" 430),qe P "BLANKS" 433 (qs " \t\n\x0d" 432),qe P "ESCAPES" 452 (.ref 149)]
def hQ2 (P:Params):List Value:=hQ1 P ++ [(qi 39),(qi 0),(.ref 118),(qi 44),(qi 0),(.ref 125),(qi 47),(qi 0),(.ref 132),(qi 62),(qi 0),(.ref 139),(qi 72),(qi 0),(.ref 147)]
def hT2 (P:Params):BT:=qL (hT1 P) ([(3,qd (hD2 P) 38),
 (12,qf (hQ2 P)),
 (111,qd [⟨-2,(.int (-1) 330),(qs "i32" 343)⟩,⟨-2,(.int (-2) 333),(qs "i64" 344)⟩,⟨-16,(.int (-16) 336),(qs "funcref" 345)⟩,⟨-17,(.int (-17) 339),(qs "externref" 346)⟩] 4),
 (112,qd [⟨-3,(.int (-3) 353),(qs "f32" 354)⟩,⟨-4,(.int (-4) 356),(qs "f64" 357)⟩,⟨-5,(.int (-5) 359),(qs "v128" 360)⟩] 3)] ++ (fv 113 (hc 18) "kind_of" 365 39 1 ["name", "kind"] mo2 (fv 120 (hc 19) "is_left_name" 373 44 1 ["name"] mo2 (fv 127 (hc 21) "utf8_of" 382 47 1 ["text", "found", "sign", "point"] mo3 (fv 134 (hc 22) "head_of" 392 62 2 ["octet", "at"] mo3 [(141,qt [(.int 0 400)]),
 (142,qt []),
 (143,qf []),
 (144,qt [(qs "octets" 404),(qs "begin" 405),(qs "signs" 406),(qs "at" 407),(qs "follow" 408),(qs "point" 409),(qs "least" 410),(qs "octet" 411)]),
 (145,qt []),
 (146,qr (hc 23) "text_of"),
 (147,qc "text_of" "text_of" 401 72 2 0 0 3 142 true 181 143 .none (.ref 144) (.ref 145) (.ref 146) 412 413),
 (148,qn (hc 23) "text_of" (.ref 141) mo3 (.ref 147)),
 (149,qd [qe P "t" 434 (.int 9 435),qe P "n" 436 (.int 10 437),qe P "r" 438 (.int 13 439),qe P "\"" 440 (.int 34 441),qe P "'" 442 (.int 39 443),qe P "\\" 444 (.int 92 445)] 6)])))))
def hS2 (w:World) (os:OsState):SharedT:=⟨hT2 w.params,150,Cp,#[],⟨0,0,0,0⟩,453,os⟩
def hG2:List Stmt:=qG 14 19
abbrev hP2 (w:World):Prop:=(λos=> segRunT treeTable PW w 11 (some (.ref 6)) 1 525 (hS1 w os) (piecesOf hG2 Av (.body (behindTheImports PW) Av) ⟨34,0,34,7⟩ [topFrame ⟨0,0,0,0⟩]))=λos=> some (.next,hS2 w os,.body (behindTheImports PW) Av,⟨95,0,95,7⟩)
theorem hp2:∀w,hP2 w:=byRow2 "special-get-raises" (P:=hP2) (λw=> by unfold hP2;rw [PySem.W.Fast.te10110043849684766642,PySem.W.Fast.te14364793385576792824];kernel_rfl) (λw=> by unfold hP2;rw [PySem.W.Fast.te10110043849684766642,PySem.W.Fast.te14364793385576792824];kernel_rfl)
def hD3 (P:Params):List DictEntry:=hD2 P ++ [qe P "Token" 489 (.ref 166),qe P "Branch" 530 (.ref 194),qe P "is_branch" 538 (.ref 206),qe P "is_branch_lexer" 539 (.ref 206),qe P "is_token" 548 (.ref 214),qe P "is_token_lexer" 549 (.ref 214),qe P "Items" 677 (.ref 319),qe P "walk_of" 684 (.ref 330),qe P "whole_of" 696 (.ref 337),qe P "number_in" 705 (.ref 344)]
def hQ3 (P:Params):List Value:=hQ2 P ++ [(qi 96),(qi 0),(.ref 155),(qi 104),(qi 0),(.ref 176),(qi 114),(qi 0),(.ref 205),(qi 117),(qi 0),(.ref 213),(qi 120),(qi 0),(.ref 220),(qi 179),(qi 0),(.ref 329),(qi 181),(qi 0),(.ref 336),(qi 194),(qi 0),(.ref 343)]
def hT3 (P:Params):BT:=qL (hT2 P) ([(3,qd (hD3 P) 48),
 (12,qf (hQ3 P)),
 (150,qt []),
 (151,qb (.builtin "type.__prepare__") (.type "type")),
 (152,qd [qe P "__module__" 460 mo4,qe P "__qualname__" 462 (qs "Token" 461),qe P "__firstlineno__" 464 (.int 96 463),qe P "__init__" 476 (.ref 163),qe P "__static_attributes__" 482 (.ref 164)] 5),
 (153,qt []),
 (154,qf [(qi 98),(qi 4),(.ref 162)]),
 (155,qc "Token" "Token" 455 96 0 0 0 0 153 false 181 154 .none .none .none .none 458 459),
 (156,qy 155 152 mo4)] ++ (fv 157 (hm 33 0) "Token.__init__" 465 98 6 ["self", "sort", "text", "value", "row", "column"] mo4 ([(164,qt [(qs "column" 477),(qs "row" 478),(qs "sort" 479),(qs "text" 480),(qs "value" 481)]),
 (165,qd [qe P "__module__" 460 mo4,qe P "__firstlineno__" 464 (.int 96 463),qe P "__init__" 476 (.ref 163),qe P "__static_attributes__" 482 (.ref 164),qe P "__dict__" 484 (.ref 167),qe P "__weakref__" 486 (.ref 168),qe P "__doc__" 487 .none] 4),
 (166,qk "Token" [(.type "object")] 166 [(.type "object")] [] none 453 461 "object.__new__"),
 (167,qx 483 166),
 (168,qw 485 166),
 (169,qu 166),
 (170,qb (.builtin "object.__init_subclass__") (.ref 166)),
 (171,qt []),
 (172,qb (.builtin "type.__prepare__") (.type "type")),
 (173,qd [qe P "__module__" 497 mo4,qe P "__qualname__" 499 (qs "Branch" 498),qe P "__firstlineno__" 501 (.int 104 500),qe P "__init__" 511 (.ref 184),qe P "head" 519 (.ref 191),qe P "__static_attributes__" 523 (.ref 192)] 6),
 (174,qt []),
 (175,qf [(qi 106),(qi 4),(.ref 183),(qi 111),(qi 4),(.ref 190)]),
 (176,qc "Branch" "Branch" 492 104 0 0 0 0 174 false 181 175 .none .none .none .none 495 496),
 (177,qy 176 173 mo4)] ++ (fv 178 (hm 34 0) "Branch.__init__" 502 106 4 ["self", "items", "row", "column"] mo4 (fv 185 (hm 34 1) "Branch.head" 512 111 1 ["self", "first"] mo4 ([(192,qt [(qs "column" 520),(qs "items" 521),(qs "row" 522)]),
 (193,qd [qe P "__module__" 497 mo4,qe P "__firstlineno__" 501 (.int 104 500),qe P "__init__" 511 (.ref 184),qe P "head" 519 (.ref 191),qe P "__static_attributes__" 523 (.ref 192),qe P "__dict__" 525 (.ref 195),qe P "__weakref__" 527 (.ref 196),qe P "__doc__" 528 .none] 4),
 (194,qk "Branch" [(.type "object")] 194 [(.type "object")] [] none 490 498 "object.__new__"),
 (195,qx 524 194),
 (196,qw 526 194),
 (197,qu 194),
 (198,qb (.builtin "object.__init_subclass__") (.ref 194)),
 (199,qt [.none]),
 (200,qt []),
 (201,qf []),
 (202,qt [(qs "item" 534),(qs "head" 535)]),
 (203,qt []),
 (204,qr (hc 35) "is_branch"),
 (205,qc "is_branch" "is_branch" 531 114 2 0 0 3 200 true 181 201 .none (.ref 202) (.ref 203) (.ref 204) 536 537),
 (206,qn (hc 35) "is_branch" (.ref 199) mo4 (.ref 205)),
 (207,qt [.none]),
 (208,qt []),
 (209,qf []),
 (210,qt [(qs "item" 543),(qs "sort" 544),(qs "text" 545)]),
 (211,qt []),
 (212,qr (hc 37) "is_token"),
 (213,qc "is_token" "is_token" 540 117 3 0 0 3 208 true 181 209 .none (.ref 210) (.ref 211) (.ref 212) 546 547),
 (214,qn (hc 37) "is_token" (.ref 207) mo4 (.ref 213)),
 (215,qt []),
 (216,qb (.builtin "type.__prepare__") (.type "type")),
 (217,qd [qe P "__module__" 557 mo4,qe P "__qualname__" 559 (qs "Items" 558),qe P "__firstlineno__" 561 (.int 120 560),qe P "__init__" 571 (.ref 228),qe P "is_done" 578 (.ref 235),qe P "here" 585 (.ref 242),qe P "is_branch" 593 (.ref 250),qe P "is_token" 602 (.ref 258),qe P "fail" 612 (.ref 266),qe P "take" 619 (.ref 273),qe P "take_token" 627 (.ref 280),qe P "take_branch" 635 (.ref 288),qe P "take_id" 642 (.ref 295),qe P "take_word" 650 (.ref 302),qe P "rest" 658 (.ref 309),qe P "want_done" 665 (.ref 316),qe P "__static_attributes__" 670 (.ref 317)] 17),
 (218,qt []),
 (219,qf [(qi 122),(qi 4),(.ref 227),(qi 128),(qi 4),(.ref 234),(qi 131),(qi 4),(.ref 241),(qi 134),(qi 4),(.ref 249),(qi 137),(qi 4),(.ref 257),(qi 140),(qi 4),(.ref 265),(qi 146),(qi 4),(.ref 272),(qi 152),(qi 4),(.ref 279),(qi 157),(qi 4),(.ref 287),(qi 162),(qi 4),(.ref 294),(qi 165),(qi 4),(.ref 301),(qi 171),(qi 4),(.ref 308),(qi 176),(qi 4),(.ref 315)]),
 (220,qc "Items" "Items" 552 120 0 0 0 0 218 false 181 219 .none .none .none .none 555 556),
 (221,qy 220 217 mo4)] ++ (fv 222 (hm 39 0) "Items.__init__" 562 122 4 ["self", "items", "row", "column"] mo4 (fv 229 (hm 39 1) "Items.is_done" 572 128 1 ["self"] mo4 (fv 236 (hm 39 2) "Items.here" 579 131 1 ["self"] mo4 ([(243,qt [.none]),
 (244,qt []),
 (245,qf []),
 (246,qt [(qs "self" 589),(qs "head" 590)]),
 (247,qt []),
 (248,qr (hm 39 3) "Items.is_branch"),
 (249,qc "is_branch" "Items.is_branch" 586 134 2 0 0 3 244 true 181 245 .none (.ref 246) (.ref 247) (.ref 248) 591 592),
 (250,qn (hm 39 3) "Items.is_branch" (.ref 243) mo4 (.ref 249)),
 (251,qt [.none]),
 (252,qt []),
 (253,qf []),
 (254,qt [(qs "self" 597),(qs "sort" 598),(qs "text" 599)]),
 (255,qt []),
 (256,qr (hm 39 4) "Items.is_token"),
 (257,qc "is_token" "Items.is_token" 594 137 3 0 0 3 252 true 181 253 .none (.ref 254) (.ref 255) (.ref 256) 600 601),
 (258,qn (hm 39 4) "Items.is_token" (.ref 251) mo4 (.ref 257)),
 (259,qt [(qs "unexpected token" 603)]),
 (260,qt []),
 (261,qf []),
 (262,qt [(qs "self" 607),(qs "why" 608),(qs "item" 609)]),
 (263,qt []),
 (264,qr (hm 39 5) "Items.fail"),
 (265,qc "fail" "Items.fail" 604 140 2 0 0 3 260 true 181 261 .none (.ref 262) (.ref 263) (.ref 264) 610 611),
 (266,qn (hm 39 5) "Items.fail" (.ref 259) mo4 (.ref 265))] ++ (fv 267 (hm 39 6) "Items.take" 613 146 1 ["self"] mo4 (fv 274 (hm 39 7) "Items.take_token" 620 152 2 ["self", "sort"] mo4 ([(281,qt [.none]),
 (282,qt []),
 (283,qf []),
 (284,qt [(qs "self" 631),(qs "head" 632)]),
 (285,qt []),
 (286,qr (hm 39 8) "Items.take_branch"),
 (287,qc "take_branch" "Items.take_branch" 628 157 2 0 0 3 282 true 181 283 .none (.ref 284) (.ref 285) (.ref 286) 633 634),
 (288,qn (hm 39 8) "Items.take_branch" (.ref 281) mo4 (.ref 287))] ++ (fv 289 (hm 39 9) "Items.take_id" 636 162 1 ["self"] mo4 (fv 296 (hm 39 10) "Items.take_word" 643 165 2 ["self", "text"] mo4 (fv 303 (hm 39 11) "Items.rest" 651 171 1 ["self", "found"] mo4 (fv 310 (hm 39 12) "Items.want_done" 659 176 1 ["self"] mo4 ([(317,qt [(qs "at" 666),(qs "column" 667),(qs "items" 668),(qs "row" 669)]),
 (318,qd [qe P "__module__" 557 mo4,qe P "__firstlineno__" 561 (.int 120 560),qe P "__init__" 571 (.ref 228),qe P "is_done" 578 (.ref 235),qe P "here" 585 (.ref 242),qe P "is_branch" 593 (.ref 250),qe P "is_token" 602 (.ref 258),qe P "fail" 612 (.ref 266),qe P "take" 619 (.ref 273),qe P "take_token" 627 (.ref 280),qe P "take_branch" 635 (.ref 288),qe P "take_id" 642 (.ref 295),qe P "take_word" 650 (.ref 302),qe P "rest" 658 (.ref 309),qe P "want_done" 665 (.ref 316),qe P "__static_attributes__" 670 (.ref 317),qe P "__dict__" 672 (.ref 320),qe P "__weakref__" 674 (.ref 321),qe P "__doc__" 675 .none] 4),
 (319,qk "Items" [(.type "object")] 319 [(.type "object")] [] none 550 558 "object.__new__"),
 (320,qx 671 319),
 (321,qw 673 319),
 (322,qu 319),
 (323,qb (.builtin "object.__init_subclass__") (.ref 319))] ++ (fv 324 (hc 40) "walk_of" 678 179 1 ["branch"] mo4 (fv 331 (hc 41) "whole_of" 685 181 2 ["text", "base", "digits", "found", "was_digit", "sign"] mo4 (fv 338 (hc 42) "number_in" 697 194 1 ["text", "body", "found"] mo4 [])))))))))))))))))))))
def hS3 (w:World) (os:OsState):SharedT:=⟨hT3 w.params,345,Cp,#[],⟨0,0,0,0⟩,706,os⟩
def hG3:List Stmt:=qG 33 10
abbrev hP3 (w:World):Prop:=(λos=> segRunT treeTable PW w 11 (some (.ref 6)) 1 1279 (hS2 w os) (piecesOf hG3 Av (.body (behindTheImports PW) Av) ⟨95,0,95,7⟩ [topFrame ⟨0,0,0,0⟩]))=λos=> some (.next,hS3 w os,.body (behindTheImports PW) Av,⟨194,0,197,74⟩)
theorem hp3 (w:World):hP3 w:=by unfold hP3;rw [PySem.W.Fast.te10110043849684766642,PySem.W.Fast.te14364793385576792824];kernel_rfl
def hD4 (P:Params):List DictEntry:=qN P mo5 (hD3 P) ++ [qe P "sorted_word" 713 (.ref 351),qe P "Lexer" 850 (.ref 446),qe P "tokens" 857 (.ref 457),qe P "trees" 869 (.ref 464),qe P "u32_of" 876 (.ref 471),qe P "Import" 920 (.ref 495),qe P "Func" 960 (.ref 523)]
def hQ4 (P:Params):List Value:=hQ3 P ++ [(qi 198),(qi 0),(.ref 350),(qi 207),(qi 0),(.ref 357),(qi 340),(qi 0),(.ref 456),(qi 342),(qi 0),(.ref 463),(qi 358),(qi 0),(.ref 470),(qi 365),(qi 0),(.ref 477),(qi 375),(qi 0),(.ref 505)]
def hT4 (P:Params):BT:=qL (hT3 P) ([(3,qd (hD4 P) 55),
 (12,qf (hQ4 P))] ++ (fv 345 (hc 43) "sorted_word" 706 198 1 ["text", "number"] mo4 ([(352,qt []),
 (353,qb (.builtin "type.__prepare__") (.type "type")),
 (354,qd [qe P "__module__" 721 mo4,qe P "__qualname__" 723 (qs "Lexer" 722),qe P "__firstlineno__" 725 (.int 207 724),qe P "__init__" 733 (.ref 365),qe P "here" 740 (.ref 372),qe P "starts" 748 (.ref 379),qe P "fail" 756 (.ref 386),qe P "step" 767 (.ref 394),qe P "pass_row" 774 (.ref 401),qe P "pass_block" 784 (.ref 408),qe P "code_point" 793 (.ref 415),qe P "escape" 802 (.ref 422),qe P "string" 813 (.ref 429),qe P "run" 829 (.ref 436),qe P "whole" 837 (.ref 443),qe P "__static_attributes__" 843 (.ref 444)] 16),
 (355,qt []),
 (356,qf [(qi 209),(qi 4),(.ref 364),(qi 216),(qi 4),(.ref 371),(qi 219),(qi 4),(.ref 378),(qi 222),(qi 4),(.ref 385),(qi 225),(qi 4),(.ref 393),(qi 235),(qi 4),(.ref 400),(qi 239),(qi 4),(.ref 407),(qi 254),(qi 4),(.ref 414),(qi 270),(qi 4),(.ref 421),(qi 284),(qi 4),(.ref 428),(qi 303),(qi 4),(.ref 435),(qi 320),(qi 4),(.ref 442)]),
 (357,qc "Lexer" "Lexer" 716 207 0 0 0 0 355 false 181 356 .none .none .none .none 719 720),
 (358,qy 357 354 mo4)] ++ (fv 359 (hm 44 0) "Lexer.__init__" 726 209 2 ["self", "text"] mo4 (fv 366 (hm 44 1) "Lexer.here" 734 216 1 ["self"] mo4 (fv 373 (hm 44 2) "Lexer.starts" 741 219 2 ["self", "word"] mo4 (fv 380 (hm 44 3) "Lexer.fail" 749 222 2 ["self", "why"] mo4 ([(387,qt [(.int 1 757)]),
 (388,qt []),
 (389,qf []),
 (390,qt [(qs "self" 761),(qs "many" 762),(qs "turn" 763),(qs "sign" 764)]),
 (391,qt []),
 (392,qr (hm 44 4) "Lexer.step"),
 (393,qc "step" "Lexer.step" 758 225 2 0 0 3 388 true 181 389 .none (.ref 390) (.ref 391) (.ref 392) 765 766),
 (394,qn (hm 44 4) "Lexer.step" (.ref 387) mo4 (.ref 393))] ++ (fv 395 (hm 44 5) "Lexer.pass_row" 768 235 1 ["self"] mo4 (fv 402 (hm 44 6) "Lexer.pass_block" 775 239 1 ["self", "row", "column", "depth"] mo4 (fv 409 (hm 44 7) "Lexer.code_point" 785 254 1 ["self", "begin", "number"] mo4 (fv 416 (hm 44 8) "Lexer.escape" 794 270 1 ["self", "sign", "both"] mo4 (fv 423 (hm 44 9) "Lexer.string" 803 284 1 ["self", "row", "column", "found", "sign"] mo4 (fv 430 (hm 44 10) "Lexer.run" 814 303 1 ["self", "begin", "row", "column", "octets", "strings", "is_string", "text", "sort", "value"] mo4 (fv 437 (hm 44 11) "Lexer.whole" 830 320 1 ["self", "sign"] mo4 ([(444,qt [(qs "at" 838),(qs "column" 839),(qs "found" 840),(qs "row" 841),(qs "text" 842)]),
 (445,qd [qe P "__module__" 721 mo4,qe P "__firstlineno__" 725 (.int 207 724),qe P "__init__" 733 (.ref 365),qe P "here" 740 (.ref 372),qe P "starts" 748 (.ref 379),qe P "fail" 756 (.ref 386),qe P "step" 767 (.ref 394),qe P "pass_row" 774 (.ref 401),qe P "pass_block" 784 (.ref 408),qe P "code_point" 793 (.ref 415),qe P "escape" 802 (.ref 422),qe P "string" 813 (.ref 429),qe P "run" 829 (.ref 436),qe P "whole" 837 (.ref 443),qe P "__static_attributes__" 843 (.ref 444),qe P "__dict__" 845 (.ref 447),qe P "__weakref__" 847 (.ref 448),qe P "__doc__" 848 .none] 4),
 (446,qk "Lexer" [(.type "object")] 446 [(.type "object")] [] none 714 722 "object.__new__"),
 (447,qx 844 446),
 (448,qw 846 446),
 (449,qu 446),
 (450,qb (.builtin "object.__init_subclass__") (.ref 446))] ++ (fv 451 (hc 45) "tokens" 851 340 1 ["text"] mo4 (fv 458 (hc 46) "trees" 858 342 1 ["text", "found", "opened", "token", "item", "goal"] mo4 (fv 465 (hc 47) "u32_of" 870 358 1 ["token"] mo4 ([(472,qt []),
 (473,qb (.builtin "type.__prepare__") (.type "type")),
 (474,qd [qe P "__module__" 886 mo5,qe P "__qualname__" 888 (qs "Import" 887),qe P "__firstlineno__" 890 (.int 365 889),qe P "__init__" 901 (.ref 485),qe P "plain" 908 (.ref 492),qe P "__static_attributes__" 913 (.ref 493)] 6),
 (475,qt []),
 (476,qf [(qi 367),(qi 4),(.ref 484),(qi 373),(qi 4),(.ref 491)]),
 (477,qc "Import" "Import" 881 365 0 0 0 0 475 false 181 476 .none .none .none .none 884 885),
 (478,qy 477 474 mo5)] ++ (fv 479 (hm 49 0) "Import.__init__" 891 367 5 ["self", "place", "name", "sort", "about"] mo5 (fv 486 (hm 49 1) "Import.plain" 902 373 1 ["self"] mo5 ([(493,qt [(qs "about" 909),(qs "name" 910),(qs "place" 911),(qs "sort" 912)]),
 (494,qd [qe P "__module__" 886 mo5,qe P "__firstlineno__" 890 (.int 365 889),qe P "__init__" 901 (.ref 485),qe P "plain" 908 (.ref 492),qe P "__static_attributes__" 913 (.ref 493),qe P "__dict__" 915 (.ref 496),qe P "__weakref__" 917 (.ref 497),qe P "__doc__" 918 .none] 4),
 (495,qk "Import" [(.type "object")] 495 [(.type "object")] [] none 879 887 "object.__new__"),
 (496,qx 914 495),
 (497,qw 916 495),
 (498,qu 495),
 (499,qb (.builtin "object.__init_subclass__") (.ref 495)),
 (500,qt []),
 (501,qb (.builtin "type.__prepare__") (.type "type")),
 (502,qd [qe P "__module__" 928 mo5,qe P "__qualname__" 930 (qs "Func" 929),qe P "__firstlineno__" 932 (.int 375 931),qe P "__init__" 942 (.ref 513),qe P "plain" 949 (.ref 520),qe P "__static_attributes__" 953 (.ref 521)] 6),
 (503,qt []),
 (504,qf [(qi 377),(qi 4),(.ref 512),(qi 382),(qi 4),(.ref 519)]),
 (505,qc "Func" "Func" 923 375 0 0 0 0 503 false 181 504 .none .none .none .none 926 927),
 (506,qy 505 502 mo5)] ++ (fv 507 (hm 50 0) "Func.__init__" 933 377 4 ["self", "kind", "locals_now", "body"] mo5 (fv 514 (hm 50 1) "Func.plain" 943 382 1 ["self"] mo5 [(521,qt [(qs "body" 950),(qs "kind" 951),(qs "locals" 952)]),
 (522,qd [qe P "__module__" 928 mo5,qe P "__firstlineno__" 932 (.int 375 931),qe P "__init__" 942 (.ref 513),qe P "plain" 949 (.ref 520),qe P "__static_attributes__" 953 (.ref 521),qe P "__dict__" 955 (.ref 524),qe P "__weakref__" 957 (.ref 525),qe P "__doc__" 958 .none] 4),
 (523,qk "Func" [(.type "object")] 523 [(.type "object")] [] none 921 929 "object.__new__"),
 (524,qx 954 523),
 (525,qw 956 523),
 (526,qu 523),
 (527,qb (.builtin "object.__init_subclass__") (.ref 523))])))))))))))))))))))))))))
def hS4 (w:World) (os:OsState):SharedT:=⟨hT4 w.params,528,Cp,#[],⟨0,0,0,0⟩,961,os⟩
def hG4:List Stmt:=qG 43 8
abbrev hP4 (w:World):Prop:=(λos=> segRunT treeTable PW w 11 (some (.ref 6)) 1 1243 (hS3 w os) (piecesOf hG4 Av (.body (behindTheImports PW) Av) ⟨194,0,197,74⟩ [topFrame ⟨0,0,0,0⟩]))=λos=> some (.next,hS4 w os,.body (behindTheImports PW) Av,⟨375,0,383,16⟩)
theorem hp4 (w:World):hP4 w:=by unfold hP4;rw [PySem.W.Fast.te10110043849684766642,PySem.W.Fast.te14364793385576792824];kernel_rfl
def hD5 (P:Params):List DictEntry:=hD4 P ++ [qe P "Global" 1000 (.ref 551),qe P "Elem" 1044 (.ref 579),qe P "Data" 1086 (.ref 607)]
def hQ5 (P:Params):List Value:=hQ4 P ++ [(qi 384),(qi 0),(.ref 533),(qi 393),(qi 0),(.ref 561),(qi 404),(qi 0),(.ref 589)]
def hT5 (P:Params):BT:=qL (hT4 P) ([(3,qd (hD5 P) 58),
 (12,qf (hQ5 P)),
 (528,qt []),
 (529,qb (.builtin "type.__prepare__") (.type "type")),
 (530,qd [qe P "__module__" 968 mo5,qe P "__qualname__" 970 (qs "Global" 969),qe P "__firstlineno__" 972 (.int 384 971),qe P "__init__" 982 (.ref 541),qe P "plain" 989 (.ref 548),qe P "__static_attributes__" 993 (.ref 549)] 6),
 (531,qt []),
 (532,qf [(qi 386),(qi 4),(.ref 540),(qi 391),(qi 4),(.ref 547)]),
 (533,qc "Global" "Global" 963 384 0 0 0 0 531 false 181 532 .none .none .none .none 966 967),
 (534,qy 533 530 mo5)] ++ (fv 535 (hm 51 0) "Global.__init__" 973 386 4 ["self", "kind", "mutable", "body"] mo5 (fv 542 (hm 51 1) "Global.plain" 983 391 1 ["self"] mo5 ([(549,qt [(qs "body" 990),(qs "kind" 991),(qs "mutable" 992)]),
 (550,qd [qe P "__module__" 968 mo5,qe P "__firstlineno__" 972 (.int 384 971),qe P "__init__" 982 (.ref 541),qe P "plain" 989 (.ref 548),qe P "__static_attributes__" 993 (.ref 549),qe P "__dict__" 995 (.ref 552),qe P "__weakref__" 997 (.ref 553),qe P "__doc__" 998 .none] 4),
 (551,qk "Global" [(.type "object")] 551 [(.type "object")] [] none 961 969 "object.__new__"),
 (552,qx 994 551),
 (553,qw 996 551),
 (554,qu 551),
 (555,qb (.builtin "object.__init_subclass__") (.ref 551)),
 (556,qt []),
 (557,qb (.builtin "type.__prepare__") (.type "type")),
 (558,qd [qe P "__module__" 1008 mo5,qe P "__qualname__" 1010 (qs "Elem" 1009),qe P "__firstlineno__" 1012 (.int 393 1011),qe P "__init__" 1024 (.ref 569),qe P "plain" 1031 (.ref 576),qe P "__static_attributes__" 1037 (.ref 577)] 6),
 (559,qt []),
 (560,qf [(qi 395),(qi 4),(.ref 568),(qi 402),(qi 4),(.ref 575)]),
 (561,qc "Elem" "Elem" 1003 393 0 0 0 0 559 false 181 560 .none .none .none .none 1006 1007),
 (562,qy 561 558 mo5)] ++ (fv 563 (hm 52 0) "Elem.__init__" 1013 395 6 ["self", "mode", "table", "offset", "kind", "inits"] mo5 (fv 570 (hm 52 1) "Elem.plain" 1025 402 1 ["self"] mo5 ([(577,qt [(qs "inits" 1032),(qs "kind" 1033),(qs "mode" 1034),(qs "offset" 1035),(qs "table" 1036)]),
 (578,qd [qe P "__module__" 1008 mo5,qe P "__firstlineno__" 1012 (.int 393 1011),qe P "__init__" 1024 (.ref 569),qe P "plain" 1031 (.ref 576),qe P "__static_attributes__" 1037 (.ref 577),qe P "__dict__" 1039 (.ref 580),qe P "__weakref__" 1041 (.ref 581),qe P "__doc__" 1042 .none] 4),
 (579,qk "Elem" [(.type "object")] 579 [(.type "object")] [] none 1001 1009 "object.__new__"),
 (580,qx 1038 579),
 (581,qw 1040 579),
 (582,qu 579),
 (583,qb (.builtin "object.__init_subclass__") (.ref 579)),
 (584,qt []),
 (585,qb (.builtin "type.__prepare__") (.type "type")),
 (586,qd [qe P "__module__" 1052 mo5,qe P "__qualname__" 1054 (qs "Data" 1053),qe P "__firstlineno__" 1056 (.int 404 1055),qe P "__init__" 1067 (.ref 597),qe P "plain" 1074 (.ref 604),qe P "__static_attributes__" 1079 (.ref 605)] 6),
 (587,qt []),
 (588,qf [(qi 406),(qi 4),(.ref 596),(qi 412),(qi 4),(.ref 603)]),
 (589,qc "Data" "Data" 1047 404 0 0 0 0 587 false 181 588 .none .none .none .none 1050 1051),
 (590,qy 589 586 mo5)] ++ (fv 591 (hm 53 0) "Data.__init__" 1057 406 5 ["self", "mode", "memory", "offset", "octets"] mo5 (fv 598 (hm 53 1) "Data.plain" 1068 412 1 ["self"] mo5 [(605,qt [(qs "memory" 1075),(qs "mode" 1076),(qs "octets" 1077),(qs "offset" 1078)]),
 (606,qd [qe P "__module__" 1052 mo5,qe P "__firstlineno__" 1056 (.int 404 1055),qe P "__init__" 1067 (.ref 597),qe P "plain" 1074 (.ref 604),qe P "__static_attributes__" 1079 (.ref 605),qe P "__dict__" 1081 (.ref 608),qe P "__weakref__" 1083 (.ref 609),qe P "__doc__" 1084 .none] 4),
 (607,qk "Data" [(.type "object")] 607 [(.type "object")] [] none 1045 1053 "object.__new__"),
 (608,qx 1080 607),
 (609,qw 1082 607),
 (610,qu 607),
 (611,qb (.builtin "object.__init_subclass__") (.ref 607))])))))))))
def hS5 (w:World) (os:OsState):SharedT:=⟨hT5 w.params,612,Cp,#[],⟨0,0,0,0⟩,1087,os⟩
def hG5:List Stmt:=qG 51 3
abbrev hP5 (w:World):Prop:=(λos=> segRunT treeTable PW w 11 (some (.ref 6)) 1 778 (hS4 w os) (piecesOf hG5 Av (.body (behindTheImports PW) Av) ⟨375,0,383,16⟩ [topFrame ⟨0,0,0,0⟩]))=λos=> some (.next,hS5 w os,.body (behindTheImports PW) Av,⟨404,0,413,16⟩)
theorem hp5 (w:World):hP5 w:=by unfold hP5;rw [PySem.W.Fast.te10110043849684766642,PySem.W.Fast.te14364793385576792824];kernel_rfl
def hD6 (P:Params):List DictEntry:=qN P mo7 (hD5 P) ++ [qe P "Module" 1230 (.ref 722),qe P "refuse" 1240 (.ref 733),qe P "value_kind" 1248 (.ref 740),qe P "SPACES" 1258 (.ref 741)]
def hQ6 (P:Params):List Value:=hQ5 P ++ [(qi 414),(qi 0),(.ref 617),(qi 476),(qi 0),(.ref 732),(qi 480),(qi 0),(.ref 739)]
def hT6 (P:Params):BT:=qL (hT5 P) ([(3,qd (hD6 P) 62),
 (12,qf (hQ6 P)),
 (612,qt []),
 (613,qb (.builtin "type.__prepare__") (.type "type")),
 (614,qd [qe P "__module__" 1094 mo5,qe P "__qualname__" 1096 (qs "Module" 1095),qe P "__firstlineno__" 1098 (.int 414 1097),qe P "__init__" 1105 (.ref 625),qe P "imported" 1113 (.ref 632),qe P "abouts" 1119 (.ref 637),qe P "func_kinds" 1126 (.ref 644),qe P "table_kinds" 1133 (.ref 651),qe P "memory_kinds" 1140 (.ref 658),qe P "global_kinds" 1147 (.ref 665),qe P "many" 1156 (.ref 672),qe P "func" 1165 (.ref 679),qe P "kind_of_func" 1173 (.ref 686),qe P "export" 1184 (.ref 693),qe P "plain" 1191 (.ref 700),qe P "bodies" 1197 (.ref 705),qe P "constants" 1204 (.ref 712),qe P "copy" 1211 (.ref 719),qe P "__static_attributes__" 1223 (.ref 720)] 19),
 (615,qt []),
 (616,qf [(qi 416),(qi 4),(.ref 624),(qi 429),(qi 4),(.ref 631),(qi 432),(qi 4),(.ref 636),(qi 435),(qi 4),(.ref 643),(qi 438),(qi 4),(.ref 650),(qi 441),(qi 4),(.ref 657),(qi 444),(qi 4),(.ref 664),(qi 447),(qi 4),(.ref 671),(qi 451),(qi 4),(.ref 678),(qi 455),(qi 4),(.ref 685),(qi 458),(qi 4),(.ref 692),(qi 464),(qi 4),(.ref 699),(qi 467),(qi 4),(.ref 704),(qi 470),(qi 4),(.ref 711),(qi 473),(qi 4),(.ref 718)]),
 (617,qc "Module" "Module" 1089 414 0 0 0 0 615 false 181 616 .none .none .none .none 1092 1093),
 (618,qy 617 614 mo5)] ++ (fv 619 (hm 54 0) "Module.__init__" 1099 416 1 ["self"] mo5 (fv 626 (hm 54 1) "Module.imported" 1106 429 2 ["self", "sort"] mo5 (fw 633 (hm 54 2) "Module.abouts" 1114 432 2 mo5 (fv 638 (hm 54 3) "Module.func_kinds" 1120 435 1 ["self"] mo5 (fv 645 (hm 54 4) "Module.table_kinds" 1127 438 1 ["self"] mo5 (fv 652 (hm 54 5) "Module.memory_kinds" 1134 441 1 ["self"] mo5 (fv 659 (hm 54 6) "Module.global_kinds" 1141 444 1 ["self"] mo5 (fv 666 (hm 54 7) "Module.many" 1148 447 2 ["self", "sort", "own"] mo5 (fv 673 (hm 54 8) "Module.func" 1157 451 2 ["self", "index", "place"] mo5 (fv 680 (hm 54 9) "Module.kind_of_func" 1166 455 2 ["self", "index"] mo5 (fv 687 (hm 54 10) "Module.export" 1174 458 2 ["self", "name", "told", "sort", "index"] mo5 (fv 694 (hm 54 11) "Module.plain" 1185 464 1 ["self"] mo5 (fw 701 (hm 54 12) "Module.bodies" 1192 467 1 mo5 (fv 706 (hm 54 13) "Module.constants" 1198 470 1 ["self"] mo5 (fv 713 (hm 54 14) "Module.copy" 1205 473 1 ["self"] mo5 ([(720,qt [(qs "customs" 1212),(qs "datas" 1213),(qs "elems" 1214),(qs "exports" 1215),(qs "funcs" 1216),(qs "globals" 1217),(qs "imports" 1218),(qs "kinds" 1219),(qs "memories" 1220),(qs "start" 1221),(qs "tables" 1222)]),
 (721,qd [qe P "__module__" 1094 mo5,qe P "__firstlineno__" 1098 (.int 414 1097),qe P "__init__" 1105 (.ref 625),qe P "imported" 1113 (.ref 632),qe P "abouts" 1119 (.ref 637),qe P "func_kinds" 1126 (.ref 644),qe P "table_kinds" 1133 (.ref 651),qe P "memory_kinds" 1140 (.ref 658),qe P "global_kinds" 1147 (.ref 665),qe P "many" 1156 (.ref 672),qe P "func" 1165 (.ref 679),qe P "kind_of_func" 1173 (.ref 686),qe P "export" 1184 (.ref 693),qe P "plain" 1191 (.ref 700),qe P "bodies" 1197 (.ref 705),qe P "constants" 1204 (.ref 712),qe P "copy" 1211 (.ref 719),qe P "__static_attributes__" 1223 (.ref 720),qe P "__dict__" 1225 (.ref 723),qe P "__weakref__" 1227 (.ref 724),qe P "__doc__" 1228 .none] 4),
 (722,qk "Module" [(.type "object")] 722 [(.type "object")] [] none 1087 1095 "object.__new__"),
 (723,qx 1224 722),
 (724,qw 1226 722),
 (725,qu 722),
 (726,qb (.builtin "object.__init_subclass__") (.ref 722))] ++ (fv 727 (hc 56) "refuse" 1233 476 2 ["why", "item"] mo6 (fv 734 (hc 57) "value_kind" 1241 480 1 ["item", "kind"] mo6 [(741,qt [(qs "type" 1251),(qs "func" 1252),(qs "table" 1253),(qs "memory" 1254),(qs "global" 1255),(qs "elem" 1256),(qs "data" 1257)])])))))))))))))))))))
def hS6 (w:World) (os:OsState):SharedT:=⟨hT6 w.params,742,Cp,#[],⟨0,0,0,0⟩,1259,os⟩
def hG6:List Stmt:=qG 54 6
abbrev hP6 (w:World):Prop:=(λos=> segRunT treeTable PW w 11 (some (.ref 6)) 1 765 (hS5 w os) (piecesOf hG6 Av (.body (behindTheImports PW) Av) ⟨404,0,413,16⟩ [topFrame ⟨0,0,0,0⟩]))=λos=> some (.next,hS6 w os,.body (behindTheImports PW) Av,⟨490,0,490,6⟩)
theorem hp6 (w:World):hP6 w:=by unfold hP6;rw [PySem.W.Fast.te10110043849684766642,PySem.W.Fast.te14364793385576792824];kernel_rfl
def hD7 (P:Params):List DictEntry:=qN P mo8 (hD6 P) ++ [qe P "SPACE_NAMES" 1280 (.ref 742),qe P "kinds_in" 1286 (.ref 747),qe P "signature_in" 1292 (.ref 752),qe P "Spaces" 1376 (.ref 804),qe P "SORTS" 1391 (.ref 809)]
def hQ7 (P:Params):List Value:=hQ6 P ++ [(qi 492),(qi 0),(.ref 746),(qi 504),(qi 0),(.ref 751),(qi 511),(qi 0),(.ref 758)]
def hT7 (P:Params):BT:=qL (hT6 P) ([(3,qd (hD7 P) 67),
 (12,qf (hQ7 P)),
 (742,qd [qe P "type" 1259 (qs "type" 1260),qe P "func" 1261 (qs "function" 1262),qe P "table" 1263 (qs "table" 1264),qe P "memory" 1265 (qs "memory" 1266),qe P "global" 1267 (qs "global" 1268),qe P "elem" 1269 (qs "elem segment" 1270),qe P "data" 1271 (qs "data segment" 1272)] 7)] ++ (fw 743 (hc 61) "kinds_in" 1281 492 3 mo7 (fw 748 (hc 62) "signature_in" 1287 504 2 mo7 ([(753,qt []),
 (754,qb (.builtin "type.__prepare__") (.type "type")),
 (755,qd [qe P "__module__" 1300 mo7,qe P "__qualname__" 1302 (qs "Spaces" 1301),qe P "__firstlineno__" 1304 (.int 511 1303),qe P "__init__" 1312 (.ref 766),qe P "bind" 1322 (.ref 773),qe P "index" 1331 (.ref 780),qe P "kind_index" 1341 (.ref 787),qe P "type_use" 1357 (.ref 794),qe P "params_many" 1365 (.ref 801),qe P "__static_attributes__" 1369 (.ref 802)] 10),
 (756,qt []),
 (757,qf [(qi 513),(qi 4),(.ref 765),(qi 521),(qi 4),(.ref 772),(qi 530),(qi 4),(.ref 779),(qi 537),(qi 4),(.ref 786),(qi 545),(qi 4),(.ref 793),(qi 563),(qi 4),(.ref 800)]),
 (758,qc "Spaces" "Spaces" 1295 511 0 0 0 0 756 false 181 757 .none .none .none .none 1298 1299),
 (759,qy 758 755 mo7)] ++ (fv 760 (hm 63 0) "Spaces.__init__" 1305 513 1 ["self", "space"] mo7 (fv 767 (hm 63 1) "Spaces.bind" 1313 521 3 ["self", "space", "token", "number"] mo7 (fv 774 (hm 63 2) "Spaces.index" 1323 530 3 ["self", "space", "token"] mo7 (fv 781 (hm 63 3) "Spaces.kind_index" 1332 537 2 ["self", "kind", "number", "other"] mo7 (fv 788 (hm 63 4) "Spaces.type_use" 1342 545 3 ["self", "items", "at", "row", "column", "walk", "ids", "told", "inner", "kind"] mo7 (fv 795 (hm 63 5) "Spaces.params_many" 1358 563 2 ["self", "number"] mo7 [(802,qt [(qs "ids" 1366),(qs "kinds" 1367),(qs "many" 1368)]),
 (803,qd [qe P "__module__" 1300 mo7,qe P "__firstlineno__" 1304 (.int 511 1303),qe P "__init__" 1312 (.ref 766),qe P "bind" 1322 (.ref 773),qe P "index" 1331 (.ref 780),qe P "kind_index" 1341 (.ref 787),qe P "type_use" 1357 (.ref 794),qe P "params_many" 1365 (.ref 801),qe P "__static_attributes__" 1369 (.ref 802),qe P "__dict__" 1371 (.ref 805),qe P "__weakref__" 1373 (.ref 806),qe P "__doc__" 1374 .none] 4),
 (804,qk "Spaces" [(.type "object")] 804 [(.type "object")] [] none 1293 1301 "object.__new__"),
 (805,qx 1370 804),
 (806,qw 1372 804),
 (807,qu 804),
 (808,qb (.builtin "object.__init_subclass__") (.ref 804)),
 (809,qd [qe P "func" 1379 (.int 0 1380),qe P "table" 1381 (.int 1 1382),qe P "memory" 1383 (.int 2 1384),qe P "global" 1385 (.int 3 1386)] 4)]))))))))))
def hS7 (w:World) (os:OsState):SharedT:=⟨hT7 w.params,810,Cp,#[],⟨0,0,0,0⟩,1392,os⟩
def hG7:List Stmt:=qG 60 6
abbrev hP7 (w:World):Prop:=(λos=> segRunT treeTable PW w 11 (some (.ref 6)) 1 644 (hS6 w os) (piecesOf hG7 Av (.body (behindTheImports PW) Av) ⟨490,0,490,6⟩ [topFrame ⟨0,0,0,0⟩]))=λos=> some (.next,hS7 w os,.body (behindTheImports PW) Av,⟨566,0,566,5⟩)
theorem hp7:∀w,hP7 w:=byRow2 "special-get-raises" (P:=hP7) (λw=> by unfold hP7;rw [PySem.W.Fast.te10110043849684766642,PySem.W.Fast.te14364793385576792824];kernel_rfl) (λw=> by unfold hP7;rw [PySem.W.Fast.te10110043849684766642,PySem.W.Fast.te14364793385576792824];kernel_rfl)
def hD8 (P:Params):List DictEntry:=hD7 P ++ [qe P "REF_KINDS" 1396 (.ref 810),qe P "TEXT_PAGE" 1398 (.int 65536 1397),qe P "text_in" 1405 (.ref 817),qe P "strings_in" 1413 (.ref 824),qe P "ref_kind_in" 1421 (.ref 831),qe P "is_ref_word" 1428 (.ref 838),qe P "limits_in" 1437 (.ref 845),qe P "table_kind_in" 1446 (.ref 852),qe P "global_kind_in" 1455 (.ref 859),qe P "behind_exports" 1463 (.ref 866),qe P "is_inline_import" 1471 (.ref 873)]
def hQ8 (P:Params):List Value:=hQ7 P ++ [(qi 569),(qi 0),(.ref 816),(qi 574),(qi 0),(.ref 823),(qi 579),(qi 0),(.ref 830),(qi 584),(qi 0),(.ref 837),(qi 586),(qi 0),(.ref 844),(qi 590),(qi 0),(.ref 851),(qi 593),(qi 0),(.ref 858),(qi 600),(qi 0),(.ref 865),(qi 605),(qi 0),(.ref 872)]
def hT8 (P:Params):BT:=qL (hT7 P) ([(3,qd (hD8 P) 78),
 (12,qf (hQ8 P)),
 (810,qd [qe P "funcref" 1392 (.int (-16) 336),qe P "externref" 1393 (.int (-17) 339)] 2)] ++ (fv 811 (hc 68) "text_in" 1399 569 1 ["token"] mo8 (fv 818 (hc 69) "strings_in" 1406 574 1 ["items", "found"] mo8 (fv 825 (hc 70) "ref_kind_in" 1414 579 1 ["items", "token"] mo8 (fv 832 (hc 71) "is_ref_word" 1422 584 1 ["item"] mo8 (fv 839 (hc 72) "limits_in" 1429 586 1 ["items", "least", "most"] mo8 (fv 846 (hc 73) "table_kind_in" 1438 590 1 ["items", "least", "most"] mo8 (fv 853 (hc 74) "global_kind_in" 1447 593 1 ["items", "inner", "kind"] mo8 (fv 860 (hc 75) "behind_exports" 1456 600 1 ["items", "at"] mo8 (fv 867 (hc 76) "is_inline_import" 1464 605 1 ["items", "behind"] mo8 []))))))))))
def hS8 (w:World) (os:OsState):SharedT:=⟨hT8 w.params,874,Cp,#[],⟨0,0,0,0⟩,1472,os⟩
def hG8:List Stmt:=qG 66 11
abbrev hP8 (w:World):Prop:=(λos=> segRunT treeTable PW w 11 (some (.ref 6)) 1 323 (hS7 w os) (piecesOf hG8 Av (.body (behindTheImports PW) Av) ⟨566,0,566,5⟩ [topFrame ⟨0,0,0,0⟩]))=λos=> some (.next,hS8 w os,.body (behindTheImports PW) Av,⟨605,0,607,67⟩)
theorem hp8:∀w,hP8 w:=byRow2 "special-get-raises" (P:=hP8) (λw=> by unfold hP8;rw [PySem.W.Fast.te10110043849684766642,PySem.W.Fast.te14364793385576792824];kernel_rfl) (λw=> by unfold hP8;rw [PySem.W.Fast.te10110043849684766642,PySem.W.Fast.te14364793385576792824];kernel_rfl)
def hD9 (P:Params):List DictEntry:=qN P mo9 (hD8 P) ++ [qe P "Fields" 1776 (.ref 1063),qe P "_law_digit" 1786 (.ref 1074),qe P "_law_plain" 1792 (.ref 1081),qe P "_law_more" 1798 (.ref 1088),qe P "_law_worded" 1810 (.ref 1095),qe P "_law_rest" 1816 (.ref 1102),qe P "_law_right" 1822 (.ref 1109)]
def hQ9 (P:Params):List Value:=hQ8 P ++ [(qi 608),(qi 0),(.ref 879),(qi 866),(qi 0),(.ref 1073),(qi 868),(qi 0),(.ref 1080),(qi 870),(qi 0),(.ref 1087),(qi 872),(qi 0),(.ref 1094),(qi 880),(qi 0),(.ref 1101),(qi 882),(qi 0),(.ref 1108)]
def hT9 (P:Params):BT:=qL (hT8 P) ([(3,qd (hD9 P) 85),
 (12,qf (hQ9 P)),
 (874,qt []),
 (875,qb (.builtin "type.__prepare__") (.type "type")),
 (876,qd [qe P "__module__" 1479 mo8,qe P "__qualname__" 1481 (qs "Fields" 1480),qe P "__firstlineno__" 1483 (.int 608 1482),qe P "__init__" 1493 (.ref 887),qe P "read" 1505 (.ref 894),qe P "name_field" 1516 (.ref 901),qe P "name_import" 1527 (.ref 908),qe P "want_none_ahead" 1536 (.ref 915),qe P "name_parts" 1545 (.ref 922),qe P "read_type" 1554 (.ref 929),qe P "read_field" 1564 (.ref 936),qe P "put_import" 1575 (.ref 943),qe P "read_import" 1588 (.ref 950),qe P "import_kind" 1599 (.ref 957),qe P "next_of" 1607 (.ref 964),qe P "opened" 1619 (.ref 971),qe P "read_func" 1633 (.ref 978),qe P "read_table" 1646 (.ref 985),qe P "read_memory" 1658 (.ref 992),qe P "read_global" 1669 (.ref 999),qe P "read_export" 1681 (.ref 1006),qe P "read_start" 1690 (.ref 1013),qe P "functions" 1696 (.ref 1018),qe P "listed" 1707 (.ref 1025),qe P "used" 1718 (.ref 1032),qe P "offset" 1728 (.ref 1039),qe P "elements" 1737 (.ref 1046),qe P "read_elem" 1750 (.ref 1053),qe P "read_data" 1761 (.ref 1060),qe P "__static_attributes__" 1769 (.ref 1061)] 30),
 (877,qt []),
 (878,qf [(qi 610),(qi 4),(.ref 886),(qi 620),(qi 4),(.ref 893),(qi 633),(qi 4),(.ref 900),(qi 651),(qi 4),(.ref 907),(qi 660),(qi 4),(.ref 914),(qi 664),(qi 4),(.ref 921),(qi 670),(qi 4),(.ref 928),(qi 679),(qi 4),(.ref 935),(qi 700),(qi 4),(.ref 942),(qi 703),(qi 4),(.ref 949),(qi 712),(qi 4),(.ref 956),(qi 724),(qi 4),(.ref 963),(qi 728),(qi 4),(.ref 970),(qi 742),(qi 4),(.ref 977),(qi 756),(qi 4),(.ref 984),(qi 772),(qi 4),(.ref 991),(qi 787),(qi 4),(.ref 998),(qi 795),(qi 4),(.ref 1005),(qi 804),(qi 4),(.ref 1012),(qi 810),(qi 4),(.ref 1017),(qi 813),(qi 4),(.ref 1024),(qi 821),(qi 4),(.ref 1031),(qi 829),(qi 4),(.ref 1038),(qi 834),(qi 4),(.ref 1045),(qi 843),(qi 4),(.ref 1052),(qi 857),(qi 4),(.ref 1059)]),
 (879,qc "Fields" "Fields" 1474 608 0 0 0 0 877 false 181 878 .none .none .none .none 1477 1478),
 (880,qy 879 876 mo8)] ++ (fv 881 (hm 77 0) "Fields.__init__" 1484 610 4 ["self", "branches", "body_of", "constant_of"] mo8 (fv 888 (hm 77 1) "Fields.read" 1494 620 1 ["self", "defined", "branch", "kind", "row", "column"] mo8 (fv 895 (hm 77 2) "Fields.name_field" 1506 633 3 ["self", "branch", "defined", "head", "items"] mo8 (fv 902 (hm 77 3) "Fields.name_import" 1517 651 4 ["self", "branch", "items", "defined", "about"] mo8 (fv 909 (hm 77 4) "Fields.want_none_ahead" 1528 660 3 ["self", "branch", "defined"] mo8 (fv 916 (hm 77 5) "Fields.name_parts" 1537 664 3 ["self", "head", "items"] mo8 (fv 923 (hm 77 6) "Fields.read_type" 1546 670 2 ["self", "items", "inner"] mo8 (fv 930 (hm 77 7) "Fields.read_field" 1555 679 2 ["self", "branch", "head", "items"] mo8 (fv 937 (hm 77 8) "Fields.put_import" 1565 700 5 ["self", "place", "name", "sort", "about"] mo8 (fv 944 (hm 77 9) "Fields.read_import" 1576 703 2 ["self", "items", "place", "name", "about", "head", "inner"] mo8 (fv 951 (hm 77 10) "Fields.import_kind" 1589 712 3 ["self", "head", "items", "found", "ids"] mo8 (fv 958 (hm 77 11) "Fields.next_of" 1600 724 2 ["self", "head"] mo8 (fv 965 (hm 77 12) "Fields.opened" 1608 728 3 ["self", "head", "items", "number", "inner", "found"] mo8 (fv 972 (hm 77 13) "Fields.read_func" 1620 742 2 ["self", "items", "names", "kind", "ids", "many", "found", "body"] mo8 (fv 979 (hm 77 14) "Fields.read_table" 1634 756 2 ["self", "items", "number", "names", "kind", "inner", "inits"] mo8 (fv 986 (hm 77 15) "Fields.read_memory" 1647 772 2 ["self", "items", "number", "names", "octets", "pages"] mo8 (fv 993 (hm 77 16) "Fields.read_global" 1659 787 2 ["self", "items", "names", "kind", "mutable"] mo8 (fv 1000 (hm 77 17) "Fields.read_export" 1670 795 2 ["self", "items", "name", "about", "head", "inner"] mo8 (fv 1007 (hm 77 18) "Fields.read_start" 1682 804 3 ["self", "branch", "items"] mo8 (fw 1014 (hm 77 19) "Fields.functions" 1691 810 2 mo8 (fv 1019 (hm 77 20) "Fields.listed" 1697 813 2 ["self", "items", "found", "branch", "inner"] mo8 (fv 1026 (hm 77 21) "Fields.used" 1708 821 3 ["self", "space", "items", "inner", "number"] mo8 (fv 1033 (hm 77 22) "Fields.offset" 1719 829 2 ["self", "items", "branch", "inner"] mo8 (fv 1040 (hm 77 23) "Fields.elements" 1729 834 3 ["self", "items", "is_short"] mo8 (fv 1047 (hm 77 24) "Fields.read_elem" 1738 843 2 ["self", "items", "kind", "inits", "table", "was_told", "offset"] mo8 (fv 1054 (hm 77 25) "Fields.read_data" 1751 857 2 ["self", "items", "memory", "was_told", "offset"] mo8 ([(1061,qt [(qs "body_of" 1762),(qs "branches" 1763),(qs "constant_of" 1764),(qs "late" 1765),(qs "made" 1766),(qs "module" 1767),(qs "spaces" 1768)]),
 (1062,qd [qe P "__module__" 1479 mo8,qe P "__firstlineno__" 1483 (.int 608 1482),qe P "__init__" 1493 (.ref 887),qe P "read" 1505 (.ref 894),qe P "name_field" 1516 (.ref 901),qe P "name_import" 1527 (.ref 908),qe P "want_none_ahead" 1536 (.ref 915),qe P "name_parts" 1545 (.ref 922),qe P "read_type" 1554 (.ref 929),qe P "read_field" 1564 (.ref 936),qe P "put_import" 1575 (.ref 943),qe P "read_import" 1588 (.ref 950),qe P "import_kind" 1599 (.ref 957),qe P "next_of" 1607 (.ref 964),qe P "opened" 1619 (.ref 971),qe P "read_func" 1633 (.ref 978),qe P "read_table" 1646 (.ref 985),qe P "read_memory" 1658 (.ref 992),qe P "read_global" 1669 (.ref 999),qe P "read_export" 1681 (.ref 1006),qe P "read_start" 1690 (.ref 1013),qe P "functions" 1696 (.ref 1018),qe P "listed" 1707 (.ref 1025),qe P "used" 1718 (.ref 1032),qe P "offset" 1728 (.ref 1039),qe P "elements" 1737 (.ref 1046),qe P "read_elem" 1750 (.ref 1053),qe P "read_data" 1761 (.ref 1060),qe P "__static_attributes__" 1769 (.ref 1061),qe P "__dict__" 1771 (.ref 1064),qe P "__weakref__" 1773 (.ref 1065),qe P "__doc__" 1774 .none] 4),
 (1063,qk "Fields" [(.type "object")] 1063 [(.type "object")] [] none 1472 1480 "object.__new__"),
 (1064,qx 1770 1063),
 (1065,qw 1772 1063),
 (1066,qu 1063),
 (1067,qb (.builtin "object.__init_subclass__") (.ref 1063))] ++ (fv 1068 (hc 79) "_law_digit" 1779 866 2 ["script", "at"] mo9 (fv 1075 (hc 80) "_law_plain" 1787 868 0 [] mo9 (fv 1082 (hc 81) "_law_more" 1793 870 0 [] mo9 (fv 1089 (hc 82) "_law_worded" 1799 872 0 ["utf", "none", "found", "word", "name", "rest"] mo9 (fv 1096 (hc 83) "_law_rest" 1811 880 0 [] mo9 (fv 1103 (hc 84) "_law_right" 1817 882 0 [] mo9 []))))))))))))))))))))))))))))))))))
def hS9 (w:World) (os:OsState):SharedT:=⟨hT9 w.params,1110,Cp,#[],⟨0,0,0,0⟩,1823,os⟩
def hG9:List Stmt:=qG 77 8
abbrev hP9 (w:World):Prop:=(λos=> segRunT treeTable PW w 11 (some (.ref 6)) 1 1282 (hS8 w os) (piecesOf hG9 Av (.body (behindTheImports PW) Av) ⟨605,0,607,67⟩ [topFrame ⟨0,0,0,0⟩]))=λos=> some (.next,hS9 w os,.body (behindTheImports PW) Av,⟨882,0,883,742⟩)
theorem hp9 (w:World):hP9 w:=by unfold hP9;rw [PySem.W.Fast.te10110043849684766642,PySem.W.Fast.te14364793385576792824];kernel_rfl
def cc (P:Params):List DictEntry:=hD9 P ++ [qe P "_law_all" 1828 (.ref 1114),qe P "_law_body_of" 1834 (.ref 1119),qe P "_law_constant_of" 1842 (.ref 1126),qe P "_law_place" 1850 (.ref 1133),qe P "_law_told" 1856 (.ref 1138),qe P "law" 1871 (.ref 1145)]
def dq (P:Params):List Value:=hQ9 P ++ [(qi 884),(qi 0),(.ref 1113),(qi 887),(qi 0),(.ref 1118),(qi 889),(qi 0),(.ref 1125),(qi 891),(qi 0),(.ref 1132),(qi 894),(qi 0),(.ref 1137),(qi 900),(qi 0),(.ref 1144)]
def I1 (P:Params):BT:=qL (hT9 P) ([(3,qd (cc P) 91),
 (12,qf (dq P))] ++ (fw 1110 (hc 85) "_law_all" 1823 884 0 mo9 (fw 1115 (hc 86) "_law_body_of" 1829 887 3 mo9 (fv 1120 (hc 87) "_law_constant_of" 1835 889 2 ["spaces", "items"] mo9 (fv 1127 (hc 88) "_law_place" 1843 891 1 ["text", "ahead"] mo9 (fw 1134 (hc 89) "_law_told" 1851 894 1 mo9 (fv 1139 (hc 90) "law" 1857 900 1 ["script", "rows", "first", "step", "k", "text", "due", "digit", "ahead"] mo9 [])))))))
def Rz (w:World) (os:OsState):SharedT:=⟨I1 w.params,1146,Cp,#[],⟨0,0,0,0⟩,1872,os⟩
def TS:List Stmt:=qG 85 6
abbrev We (w:World):Prop:=(λos=> segRunT treeTable PW w 11 (some (.ref 6)) 1 176 (hS9 w os) (piecesOf TS Av (.body (behindTheImports PW) Av) ⟨882,0,883,742⟩ [topFrame ⟨0,0,0,0⟩]))=λos=> some (.next,Rz w os,.body (behindTheImports PW) Av,⟨900,0,912,15⟩)
theorem fy (w:World):We w:=by unfold We;rw [PySem.W.Fast.te10110043849684766642,PySem.W.Fast.te14364793385576792824];kernel_rfl
def qq:Program:={PW with main:={PW.main with body:= [hc 90]}}
def H1 (P:Params):Heap:=absHeap (I1 P) 1146 Cp
abbrev hF (w:World) (os:OsState):Shared:=⟨H1 w.params,#[],⟨0,0,0,0⟩,1872,os⟩
theorem gr (w:World) (os:OsState):(Rz w os).abs=hF w os:=by kernel_rfl
theorem lk1 (w:World) (os:OsState):staticsOk (importedModules PW.main.body) (boot_heap w.params) (hF w os).heap=true:=by kernel_rfl
theorem lk3 (w:World) (os:OsState):gensDone (hF w os)=true:=by kernel_rfl
theorem lk4 (w:World) (os:OsState):laidKept (boot_heap w.params) (hF w os).heap=true:=by kernel_rfl
end
section
open PySem PySem.W PySem.Calls PyProof.Rows PySem.Spec
theorem lk2 (w:World) (os:OsState):namesBound PW (hF w os).heap=true:=by kernel_rfl
theorem ok1:chainsOk qq=true:=by kernel_rfl
noncomputable def ql:List Str:=PW.boundNames.filter λn=> !(n== "law")
def dL:DefRec × List (Str × Expr):=(defOf qq "law").get (by kernel_rfl)
abbrev cE:Code:= .body (behindTheImports PW) Av
noncomputable abbrev Jd:Option Value:=some (.ref 6)
noncomputable abbrev bF:List Frame:= [topFrame ⟨0,0,0,0⟩]
noncomputable abbrev hB (w:World) (os:OsState):Shared:=⟨boot_heap w.params,#[],boot_drawn,boot_toks,os⟩
theorem aR (w:World) (os:OsState):topGo treeTable PW w 11 Jd 12 (hB w os) (topStub PW)=some ((hS0 w os).abs,⟨denote treeTable cE,cE,⟨0,0,0,0⟩,bF⟩):=by
 rw [PySem.W.Fast.te15667345088766844465,PySem.W.Fast.te14364793385576792824,PySem.W.Fast.te11892475500146522536];kernel_rfl
theorem aA (w:World) (os:OsState):segRun treeTable PW w 11 Jd 1 1 (hS0 w os).abs (blockOf (behindTheImports PW) Av cE ⟨0,0,0,0⟩ bF)=some (.next,(hS0 w os).abs,cE,⟨0,0,0,0⟩):=by
 kernel_rfl
theorem Vl:behindTheImports PW=hG1 ++ (hG2 ++ (hG3 ++ (hG4 ++ (hG5 ++ (hG6 ++ (hG7 ++ (hG8 ++ (hG9 ++ (TS ++ []))))))))):=by kernel_rfl
theorem Ys (w:World):(fencedOpening treeTable PW w 1000000).map (λs=> (s.heap,s.gens,s.drawn,s.toks))=some (boot_heap w.params,Array.mk [],boot_drawn,boot_toks):=
 boot_open (by kernel_rfl) (by decide) (λs=> by kernel_rfl) w
theorem Yi (w:World):((boot_heap w.params).isNs mainGlobals && (Array.mk []:Array GenState).size==0,(boot_heap w.params).objs.size,(boot_heap w.params).nsMap mainGlobals "__annotations__")=(true,11,Jd):=by kernel_rfl
end
section
open PySem PySem.W PySem.Calls PyProof.Rows PySem.Spec PySem.W.X
theorem Z4 (w:World) (os:OsState):topRun treeTable PW w 11 Jd 2 (Rz w os).abs ⟨doneF .next,cE,⟨900,0,912,15⟩,bF⟩=some (hF w os):=by kernel_rfl
noncomputable abbrev hM:Nat:=12 + (1 + (1298 + (525 + (1279 + (1243 + (778 + (765 + (644 + (323 + (1282 + (176 + 2)))))))))))
theorem ao (w:World) (os:OsState):topRun treeTable PW w 11 Jd hM (hB w os) (topStub PW)=some (hF w os):=by
 have k:=piece_nil (tb:=treeTable) (env:=Av) (Z4 w os);have k:=piece_app (l:=TS) (segRun_of (congrFun (fy w) os)) k;have k:=piece_app (l:=hG9) (segRun_of (congrFun (hp9 w) os)) k;have k:=piece_app (l:=hG8) (segRun_of (congrFun (hp8 w) os)) k;have k:=piece_app (l:=hG7) (segRun_of (congrFun (hp7 w) os)) k;have k:=piece_app (l:=hG6) (segRun_of (congrFun (hp6 w) os)) k;have k:=piece_app (l:=hG5) (segRun_of (congrFun (hp5 w) os)) k;have k:=piece_app (l:=hG4) (segRun_of (congrFun (hp4 w) os)) k;have k:=piece_app (l:=hG3) (segRun_of (congrFun (hp3 w) os)) k;have k:=piece_app (l:=hG2) (segRun_of (congrFun (hp2 w) os)) k;have k:=piece_app (l:=hG1) (segRun_of (congrFun (hp1 w) os)) k;rw [<- Vl] at k;exact go_top (aR w os) (piece_block (aA w os) k)
noncomputable abbrev xt (_:Shared):Bool:=true
theorem Yr (w:World) (os:OsState):openSeen qq ql (importedModules PW.main.body) xt true (hF w os)=openGood qq ql:=by kernel_rfl
noncomputable abbrev obs (s:Shared):Heap × Nat:=(s.heap,s.toks)
abbrev val (w:World):Heap × Nat:=(H1 w.params,1872)
theorem lk (w:World) (os:OsState):(staticsOk (importedModules PW.main.body) (boot_heap w.params) (H1 w.params) && namesBound PW (H1 w.params) && gensDone (hF w os) && laidKept (boot_heap w.params) (H1 w.params))=true:=by
 have a:staticsOk (importedModules PW.main.body) (boot_heap w.params) (H1 w.params)=true:=lk1 w os;have b:namesBound PW (H1 w.params)=true:=lk2 w os;have c:laidKept (boot_heap w.params) (H1 w.params)=true:=lk4 w os;rw [a,b,c,lk3];rfl
theorem Zy:LeftO PW qq ql xt obs val 1000000 true:=
 LeftO.of_pieces (m₀:=11) (ann:=Jd) (M:=hM) (H₀:=boot_heap) (H₁:=H1) (gs₁:=#[]) (d₁:=⟨0,0,0,0⟩) (k₁:=1872) Ys Yi ao (by decide) λw=> funext λos=> Prod.ext (lk w os) (Prod.ext (Yr w os) rfl)
end
section
open PySem hiding Expr
noncomputable def pP (p:Pos):Nat:=Nat.add (Nat.add (Nat.add (Nat.mul p.line 134217728) (Nat.mul p.col 65536)) (Nat.mul (Nat.sub p.endLine p.line) 2048)) p.endCol
mutual
def pE:PySem.Expr->List Nat->List Nat
 | .Constant _ _ p,k=> pP p::k
 | .Name _ p,k=> pP p::k
 | .Attribute e _ p,k=> pE e (pP p::k)
 | .Subscript e i p,k=> pE e (pE i (pP p::k))
 | .Slice x y _ p,k=> pO x (pO y (pP p::k))
 | .BinOp x _ y p,k=> pE x (pE y (pP p::k))
 | .UnaryOp _ x p,k=> pE x (pP p::k)
 | .BoolOp _ l p,k=> pL l (pP p::k)
 | .Compare x _ l p,k=> pE x (pL l (pP p::k))
 | .IfExp x y z p,k=> pE x (pE y (pE z (pP p::k)))
 | .Tuple l _ p,k=> pL l (pP p::k)
 | .List l p,k=> pL l (pP p::k)
 | .Dict h l p,k=> pK h (pL l (pP p::k))
 | .Call f l _ p,k=> pE f (pL l (pP p::k))
 | .ListComp e g _ p,k=> pE e (pG g (pP p::k))
 |_,k=> k
def pL:List PySem.Expr->List Nat->List Nat
 | [],k=> k
 |e::l,k=> pE e (pL l k)
def pO:Option PySem.Expr->List Nat->List Nat
 |none,k=> k
 |some e,k=> pE e k
def pK:List (Option PySem.Expr)->List Nat->List Nat
 | [],k=> k
 |e::l,k=> pO e (pK l k)
def pC:Comprehension->List Nat->List Nat
 |⟨x,y,l,_⟩,k=> pE x (pE y (pL l k))
def pG:List Comprehension->List Nat->List Nat
 | [],k=> k
 |e::l,k=> pC e (pG l k)
end
mutual
def pS:Stmt->List Nat->List Nat
 | .Assign l e p,k=> pL l (pE e (pP p::k))
 | .Expr e p,k=> pE e (pP p::k)
 | .Return e p,k=> pO e (pP p::k)
 | .If e x y p,k=> pE e (pB x (pB y (pP p::k)))
 | .While e x _ p,k=> pE e (pB x (pP p::k))
 | .For t e x _ p,k=> pE t (pE e (pB x (pP p::k)))
 | .Raise e _ p,k=> pO e (pP p::k)
 | .Try x h _ _ p,k=> pB x (pY h (pP p::k))
 | .Pass p,k=> pP p::k
 |_,k=> k
def pB:List Stmt->List Nat->List Nat
 | [],k=> k
 |e::l,k=> pS e (pB l k)
def pX:ExceptHandler->List Nat->List Nat
 | .ExceptHandler e _ x p,k=> pO e (pB x (pP p::k))
def pY:List ExceptHandler->List Nat->List Nat
 | [],k=> k
 |e::l,k=> pX e (pY l k)
end
noncomputable def pz (s:List Nat):Nat:=List.rec 0 (λa υ υ=> a) s
noncomputable def nx (s:List Nat):List Nat:=List.rec [] (λυ r υ=> r) s
def psF {α:Type} (l:List α):List Nat->List Nat × List Nat:=l.rec (λs=> ([],s)) λυ υ ih s=> (λq=> (pz s::q.1,q.2)) (ih (nx s))
def tgF (l:List Nat) (s:List Nat):(List Nat × Nat) × List Nat:=match l with
 | [_]=> (([0],pz s),nx s)
 |l=> (λq=> ((q.1,pz q.2),nx q.2)) (psF l s)
def iqF {α:Type} (ik:Nat) (f:List Nat->α × List Nat) (s:List Nat):(α × Nat × Nat) × List Nat:=match ik with
 |0=> (λq=> ((q.1,0,0),q.2)) (f s)
 |_=> (λq=> ((q.1,pz s,pz q.2),nx q.2)) (f (nx s))
mutual
def eF:E->List Nat->E × List Nat
 | .lit x _,s=> (.lit x (pz s),nx s)
 | .loc k n _,s=> (.loc k n (pz s),nx s)
 | .glob k n _,s=> (.glob k n (pz s),nx s)
 | .attr e al a _,s=> (λq=> (.attr q.1 al a (pz q.2),nx q.2)) (eF e s)
 | .idx e i _,s=> (λq=> (λr=> (.idx q.1 r.1 (pz r.2),nx r.2)) (eF i q.2)) (eF e s)
 | .slc e lo hi _ _,s=> (λq=> (λr=> (λu=> (.slc q.1 r.1 u.1 (pz u.2) (pz (nx u.2)),nx (nx u.2))) (oF hi r.2)) (oF lo q.2)) (eF e s)
 | .bin o x y m _,s=> (λq=> (λr=> (.bin o q.1 r.1 m (pz r.2),nx r.2)) (eF y q.2)) (eF x s)
 | .neg e _,s=> (λq=> (.neg q.1 (pz q.2),nx q.2)) (eF e s)
 | .not e _,s=> (λq=> (.not q.1 (pz q.2),nx q.2)) (eF e s)
 | .boolop t es _,s=> (λq=> (.boolop t q.1 (pz q.2),nx q.2)) (lF es s)
 | .cmp x o y _,s=> (λq=> (λr=> (.cmp q.1 o r.1 (pz r.2),nx r.2)) (eF y q.2)) (eF x s)
 | .isN e n _ _,s=> (λq=> (.isN q.1 n (pz q.2) (pz (nx q.2)),nx (nx q.2))) (eF e s)
 | .mem x y n _,s=> (λq=> (λr=> (.mem q.1 r.1 n (pz r.2),nx r.2)) (eF y q.2)) (eF x s)
 | .cmp2 x o y o' z _,s=> (λq=> (λr=> (λu=> (.cmp2 q.1 o r.1 o' u.1 (pz u.2),nx u.2)) (eF z r.2)) (eF y q.2)) (eF x s)
 | .ite x y z _,s=> (λq=> (λr=> (λu=> (.ite q.1 r.1 u.1 (pz u.2),nx u.2)) (eF z r.2)) (eF y q.2)) (eF x s)
 | .tup es _,s=> (λq=> (.tup q.1 (pz q.2),nx q.2)) (lF es s)
 | .lst es m _,s=> (λq=> (.lst q.1 m (pz q.2),nx q.2)) (lF es s)
 | .dct ks es _ _,s=> (λr=> (λq=> (.dct ks q.1 r.1 (pz q.2),nx q.2)) (lF es r.2)) (psF ks s)
 | .call f es n _ _,s=> (λq=> (.call f q.1 n (pz s) (pz q.2),nx q.2)) (lF es (nx s))
 | .new c m es n _ _,s=> (λq=> (.new c m q.1 n (pz s) (pz q.2),nx q.2)) (lF es (nx s))
 | .bcall f es _ _,s=> (λq=> (.bcall f q.1 (pz s) (pz q.2),nx q.2)) (lF es (nx s))
 | .isi e k n _ _ _,s=> (λq=> (.isi q.1 k n (pz s) (pz q.2) (pz (nx q.2)),nx (nx q.2))) (eF e (nx s))
 | .mown e c f m es _ _,s=> (λq=> (λr=> (.mown q.1 c f m r.1 (pz q.2) (pz r.2),nx r.2)) (lF es (nx q.2))) (eF e s)
 | .mfld e al m es _ _,s=> (λq=> (λr=> (.mfld q.1 al m r.1 (pz q.2) (pz r.2),nx r.2)) (lF es (nx q.2))) (eF e s)
 | .mblt e k m es _ _,s=> (λq=> (λr=> (.mblt q.1 k m r.1 (pz q.2) (pz r.2),nx r.2)) (lF es (nx q.2))) (eF e s)
 | .dele e c m _ _ _ _,s=> (λq=> (.dele q.1 c m (pz q.2) (pz (nx q.2)) (pz (nx (nx q.2))) (pz (nx (nx (nx q.2)))),nx (nx (nx (nx q.2))))) (eF e s)
 | .comp e tg tn _ ik it fs sc m _ _ _ _,s=> (λq=> (λp=> (λr=> (λu=> (.comp q.1 tg tn p.1.1 ik r.1.1 u.1 sc m r.1.2.1 r.1.2.2 p.1.2 (pz u.2),nx u.2)) (lF fs r.2)) (iqF ik (eF it) p.2)) (tgF tg q.2)) (eF e s)
 | .frz e,s=> (λq=> (.frz q.1,q.2)) (eF e s)
 | .memv x y m _ _ _,s=> (λq=> (λr=> (.memv q.1 r.1 m (pz r.2) (pz (nx r.2)) (pz (nx (nx r.2))),nx (nx (nx r.2)))) (eF y q.2)) (eF x s)
def lF:List E->List Nat->List E × List Nat
 | [],s=> ([],s)
 |e::r,s=> (λq=> (λu=> (q.1::u.1,u.2)) (lF r q.2)) (eF e s)
def oF:Option E->List Nat->Option E × List Nat
 |none,s=> (none,s)
 |some e,s=> (λq=> (some q.1,q.2)) (eF e s)
end
def tF:T->List Nat->T × List Nat
 | .loc k n _,s=> (.loc k n (pz s),nx s)
 | .attr e al a _,s=> (λq=> (.attr q.1 al a (pz q.2),nx q.2)) (eF e s)
 | .idx e i _,s=> (λq=> (λr=> (.idx q.1 r.1 (pz r.2),nx r.2)) (eF i q.2)) (eF e s)
def tsF:List T->List Nat->List T × List Nat
 | [],s=> ([],s)
 |e::r,s=> (λq=> (λu=> (q.1::u.1,u.2)) (tsF r q.2)) (tF e s)
mutual
def sF:S->List Nat->S × List Nat
 | .asg t e _,s=> (λq=> (λr=> (.asg q.1 r.1 (pz r.2),nx r.2)) (eF e q.2)) (tF t s)
 | .asgT t e _ _,s=> (λq=> (λr=> (.asgT q.1 r.1 (pz q.2) (pz r.2),nx r.2)) (eF e (nx q.2))) (tsF t s)
 | .expr e _,s=> (λq=> (.expr q.1 (pz q.2),nx q.2)) (eF e s)
 | .ret e _,s=> (λq=> (.ret q.1 (pz q.2),nx q.2)) (oF e s)
 | .ite t x y _,s=> (λq=> (λr=> (λu=> (.ite q.1 r.1 u.1 (pz u.2),nx u.2)) (bsF y r.2)) (bsF x q.2)) (eF t s)
 | .while t x _,s=> (λq=> (λr=> (.while q.1 r.1 (pz r.2),nx r.2)) (bsF x q.2)) (eF t s)
 | .for tg tn _ ik it x _ _ _ _,s=> (λp=> (λq=> (λu=> (.for tg tn p.1.1 ik q.1.1 u.1 q.1.2.1 q.1.2.2 p.1.2 (pz u.2),nx u.2)) (bsF x q.2)) (iqF ik (eF it) p.2)) (tgF tg s)
 | .raise e _,s=> (λq=> (.raise q.1 (pz q.2),nx q.2)) (eF e s)
 | .try x c nm h n _ _ _,s=> (λq=> (λr=> (.try q.1 c nm r.1 n (pz q.2) (pz r.2) (pz (nx r.2)),nx (nx r.2))) (bsF h (nx q.2))) (bsF x s)
 | .pass _,s=> (.pass (pz s),nx s)
def bsF:List S->List Nat->List S × List Nat
 | [],s=> ([],s)
 |e::r,s=> (λq=> (λu=> (q.1::u.1,u.2)) (bsF r q.2)) (sF e s)
end
def Fn.fil (f:Fn) (s:Stmt):Fn:={f with body:=(bsF f.body (pB (fB s) [])).1}
noncomputable def dS (k n:Nat):List Nat:=Nat.rec (λυ=> []) (λυ ih n=> Nat.mod n 256::ih (Nat.div n 256)) k n
noncomputable def eL (k n:Nat):E:= .loc k n 0
noncomputable def eI (i:Int):E:= .lit (.int i) 0
def eS (k n:Nat):E:= .lit (.str (dS k n)) 0
noncomputable def eA (al:NN) (a:Nat):E:= .attr (.loc 0 2 0) al a 0
noncomputable def eT (k n:Nat) (al:NN) (a:Nat):E:= .attr (.loc k n 0) al a 0
noncomputable def eM (c f m:Nat) (es:List E):E:= .mown (.loc 0 2 0) c f m es 0 0
noncomputable def eC (f:Nat) (es:List E) (n:Nat):E:= .call f es n 0 0
noncomputable def tn {α:Type} (k:Nat) (v:α) (l r:Tree α):Tree α:= .node k v l r
noncomputable def tl {α:Type} (k:Nat) (v:α):Tree α:= .node k v .nil .nil
noncomputable def e0:E:= .lit .none 0
noncomputable def eb (o:Bop) (a b:E):E:= .bin o a b false 0
noncomputable def eU (l:List E):E:= .lst l true 0
noncomputable def eG (k n:Nat):E:= .glob k n 0
noncomputable def eX (a b:E):E:= .idx a b 0
noncomputable def eB (f:Nat) (l:List E):E:= .bcall f l 0 0
noncomputable def eN (c:Nat) (m:Bool) (l:List E) (n:Nat):E:= .new c m l n 0 0
noncomputable def eK (e:E) (k m:Nat) (l:List E):E:= .mblt e k m l 0 0
noncomputable def eO (e:E) (c f m:Nat) (l:List E):E:= .mown e c f m l 0 0
noncomputable def eV (b:Bool) (l:List E):E:= .boolop b l 0
noncomputable def eQ (a:E) (o:Cop) (b:E):E:= .cmp a o b 0
noncomputable def eJ (a b:E) (m:Bool):E:= .mem a b m 0
noncomputable def eW (t a b:E):E:= .ite t a b 0
noncomputable def eZ (a:E) (m:Bool):E:= .isN a m 0 0
noncomputable def eD (a:E):E:= .not a 0
noncomputable def eP (l:List E):E:= .tup l 0
noncomputable def eH (e:E) (l:NN) (a:Nat):E:= .attr e l a 0
noncomputable def eY (e:E) (x y:Option E):E:= .slc e x y 0 0
noncomputable def tL (k n:Nat):T:= .loc k n 0
noncomputable def sS (l:NN) (a:Nat) (e:E):S:= .asg (.attr (.loc 0 2 0) l a 0) e 0
noncomputable def sT (l:List T) (e:E):S:= .asgT l e 0 0
noncomputable def sW (t:E) (b:List S):S:= .while t b 0
noncomputable def sE (e:E):S:= .raise e 0
noncomputable def sX (e:E):S:= .expr e 0
noncomputable def sR (e:E):S:= .ret (some e) 0
noncomputable def sA (k n:Nat) (e:E):S:= .asg (.loc k n 0) e 0
noncomputable def sI (t:E) (a b:List S):S:= .ite t a b 0
noncomputable def gF (np nl:Nat) (ns gs:List Nat) (dfl:List W) (b:List S):Fn:=⟨np,nl,ns,(ns.map λk=> (k,0)) ++ gs.map λk=> (k,4),dfl,b⟩
end
section
open PySem
noncomputable def ZX:NN:= []
noncomputable def Eb:NN:= [(319,1),(446,1)]
noncomputable def Gv:NN:= [(166,3),(194,1),(319,2),(446,2)]
noncomputable def Cz:NN:= [(166,4),(194,2),(319,3),(446,3)]
noncomputable def PN:NN:= [(166,0),(495,2)]
noncomputable def w_text:NN:= [(166,1),(446,0)]
noncomputable def Vw:NN:= [(166,2)]
noncomputable def Ng:NN:= [(194,0),(319,0)]
noncomputable def BP:NN:= [(194,0),(319,0)]
noncomputable def E9:NN:= [(166,0),(495,2)]
noncomputable def Ag:NN:= [(166,1),(446,0)]
noncomputable def BS:NN:= [(58,1),(96,1),(319,1),(446,1)]
noncomputable def Aj:NN:= [(77,1),(166,3),(194,1),(319,2),(446,2)]
noncomputable def AP:NN:= [(77,2),(166,4),(194,2),(319,3),(446,3)]
noncomputable def V6:NN:= [(446,4)]
noncomputable def Dd:NN:= [(446,4)]
noncomputable def HJ:NN:= [(166,2)]
noncomputable def U2:NN:= [(495,0)]
noncomputable def Xq:NN:= [(495,1)]
noncomputable def VQ:NN:= [(495,3)]
noncomputable def Lm:NN:= [(523,0),(551,0),(579,3)]
noncomputable def Sm:NN:= [(523,1)]
noncomputable def PL:NN:= [(523,2),(551,2)]
noncomputable def PT:NN:= [(551,1)]
noncomputable def P7:NN:= [(579,0),(607,0)]
noncomputable def VU:NN:= [(579,1)]
noncomputable def MQ:NN:= [(579,2),(607,2)]
noncomputable def VO:NN:= [(579,4)]
noncomputable def Rq:NN:= [(607,1)]
noncomputable def Su:NN:= [(607,3)]
noncomputable def Jk:NN:= [(722,0),(804,2)]
noncomputable def Po:NN:= [(722,1)]
noncomputable def Um:NN:= [(722,2)]
noncomputable def Sf:NN:= [(722,3)]
noncomputable def N0:NN:= [(722,4)]
noncomputable def Q5:NN:= [(722,5)]
noncomputable def QP:NN:= [(722,6)]
noncomputable def Na:NN:= [(722,7)]
noncomputable def V0:NN:= [(722,8)]
noncomputable def VI:NN:= [(722,9)]
noncomputable def QW:NN:= [(722,10)]
noncomputable def aZ:NN:= [(804,0)]
noncomputable def ZE:NN:= [(804,1)]
noncomputable def Ik:NN:= [(804,0)]
noncomputable def GF:NN:= [(804,1)]
noncomputable def B4:NN:= [(722,0),(804,2)]
noncomputable def Ny:NN:= [(1063,0)]
noncomputable def KA:NN:= [(1063,1)]
noncomputable def Ct:NN:= [(1063,2)]
noncomputable def TY:NN:= [(1063,3)]
noncomputable def S9:NN:= [(1063,4)]
noncomputable def Ae:NN:= [(1063,4)]
noncomputable def Am:NN:= [(1063,3)]
noncomputable def Y7:NN:= [(1063,5)]
noncomputable def Wf:NN:= [(1063,6)]
noncomputable def IH:NN:= [(1063,0)]
noncomputable def PM:NN:= [(1063,6)]
noncomputable def Qo:NN:= [(722,1)]
noncomputable def GD:NN:= [(1063,5)]
noncomputable def Jv:NN:= [(722,6)]
noncomputable def ND:NN:= [(722,2)]
noncomputable def Ly:NN:= [(722,3)]
noncomputable def G7:NN:= [(722,8)]
noncomputable def Io:NN:= [(722,4)]
noncomputable def Jm:NN:= [(722,9)]
noncomputable def Ph:NN:= [(722,5)]
noncomputable def Uj:NN:= [(722,7)]
noncomputable def Zu:NN:= [(38,0),(58,0),(77,0),(96,0),(108,0)]
noncomputable def X6:NN:= [(523,2),(551,2)]
def g35:Fn:=gF 2 3 [2,3] [0] [] [sX (eO (eG 0 0) 0 0 1 [eL 0 2,eL 1 3]),sS ZX 3 (eL 1 3)]
def f35:Fn:=g35.fil (hm 5 0)
def g55:Fn:=gF 3 4 [2,3,5] [4] [] [sX (eO (eG 0 4) 0 0 1 [eL 0 2,eL 1 3]),sS Eb 5 (eL 2 5)]
def f55:Fn:=g55.fil (hm 6 0)
def g74:Fn:=gF 4 5 [2,3,6,7] [4] [] [sX (eO (eG 0 4) 0 0 1 [eL 0 2,eL 1 3]),sS Gv 6 (eL 2 6),sS Cz 7 (eL 3 7)]
def f74:Fn:=g74.fil (hm 7 0)
def g93:Fn:=gF 3 4 [2,3,5] [4] [] [sX (eO (eG 0 4) 0 0 1 [eL 0 2,eL 1 3]),sS Eb 5 (eL 2 5)]
def f93:Fn:=g93.fil (hm 8 0)
def Xk:Fn:=gF 1 3 [10,8] [9] [] [.for [1] [8] [] 0 (eG 0 9) [sI (eQ (eX (eG 0 9) (eL 1 8)) .eq (eL 0 10)) [sR (eL 1 8)] []] 0 0 0 0,sR e0]
def cy:Fn:=Xk.fil (hc 18)
def X4:Fn:=gF 1 2 [10] [11] [] [sR (.memv (eL 0 10) (eG 1 11) 12 0 0 0)]
def eu:Fn:=X4.fil (hc 19)
def YH:Fn:=gF 1 5 [16,14,15,18] [13,17,19,22] [] [sA 1 14 (eB 4 []),.for [2] [15] [] 0 (eL 0 16) [sA 3 18 (eB 1 [eL 2 15]),sI (.cmp2 (eI 55296) .le (eL 3 18) .lt (eI 57344) 0) [sE (eN 108 false [eS 21 148236118130094842460740121302404592423955799941217] 19)] [],sI (eQ (eL 3 18) .lt (eI 128)) [sX (eK (eL 1 14) 0 20 [eL 3 18])] [sI (eQ (eL 3 18) .lt (eI 2048)) [sX (eK (eL 1 14) 1 21 [.lst [eb .bor (eI 192) (eb .shr (eL 3 18) (eI 6)),eb .bor (eI 128) (eb .band (eL 3 18) (eI 63))] false 0])] [sI (eQ (eL 3 18) .lt (eI 65536)) [sX (eK (eL 1 14) 1 21 [.lst [eb .bor (eI 224) (eb .shr (eL 3 18) (eI 12)),eb .bor (eI 128) (eb .band (eb .shr (eL 3 18) (eI 6)) (eI 63)),eb .bor (eI 128) (eb .band (eL 3 18) (eI 63))] false 0])] [sX (eK (eL 1 14) 1 21 [.lst [eb .bor (eI 240) (eb .shr (eL 3 18) (eI 18)),eb .bor (eI 128) (eb .band (eb .shr (eL 3 18) (eI 12)) (eI 63)),eb .bor (eI 128) (eb .band (eb .shr (eL 3 18) (eI 6)) (eI 63)),eb .bor (eI 128) (eb .band (eL 3 18) (eI 63))] false 0])]]]] 0 0 0 0,sR (eB 3 [eL 1 14])]
def fX:Fn:=YH.fil (hc 21)
def YQ:Fn:=gF 2 3 [23,5] [24] [] [sI (eQ (eL 0 23) .lt (eI 128)) [sR (eP [eI 0,eL 0 23,eI 0])] [],sI (.cmp2 (eI 192) .le (eL 0 23) .lt (eI 224) 0) [sR (eP [eI 1,eb .band (eL 0 23) (eI 31),eI 128])] [],sI (.cmp2 (eI 224) .le (eL 0 23) .lt (eI 240) 0) [sR (eP [eI 2,eb .band (eL 0 23) (eI 15),eI 2048])] [],sI (.cmp2 (eI 240) .le (eL 0 23) .lt (eI 248) 0) [sR (eP [eI 3,eb .band (eL 0 23) (eI 7),eI 65536])] [],sE (eN 58 false [eS 24 2536127990140528378335401926264659991622442834371256541549,eL 1 5] 24)]
def dH:Fn:=YQ.fil (hc 22)
def Xd:Fn:=gF 2 9 [27,28,25,5,30,18,31,23] [26,29,24,32] [(.int 0)] [sT [tL 2 25,tL 3 5] (eP [eU [],eI 0]),sW (eQ (eL 3 5) .lt (eB 0 [eL 0 27])) [sT [tL 4 30,tL 5 18,tL 6 31] (eC 140 [eX (eL 0 27) (eL 3 5),eb .add (eL 1 28) (eL 3 5)] 29),sI (eQ (eb .add (eL 3 5) (eL 4 30)) .ge (eB 0 [eL 0 27])) [sE (eN 58 false [eS 24 2536127990140528378335401926264659991622442834371256541549,eb .add (eL 1 28) (eL 3 5)] 24)] [],.for [7] [23] [] 0 (eY (eL 0 27) (some (eb .add (eL 3 5) (eI 1))) (some (eb .add (eb .add (eL 3 5) (eI 1)) (eL 4 30)))) [sI (eQ (eb .band (eL 7 23) (eI 192)) .ne (eI 128)) [sE (eN 58 false [eS 24 2536127990140528378335401926264659991622442834371256541549,eb .add (eL 1 28) (eL 3 5)] 24)] [],sA 5 18 (eb .bor (eb .shl (eL 5 18) (eI 6)) (eb .band (eL 7 23) (eI 63)))] 0 0 0 0,sI (eV false [eQ (eL 5 18) .lt (eL 6 31),eQ (eL 5 18) .gt (eI 1114111),.cmp2 (eI 55296) .le (eL 5 18) .lt (eI 57344) 0]) [sE (eN 58 false [eS 24 2536127990140528378335401926264659991622442834371256541549,eb .add (eL 1 28) (eL 3 5)] 24)] [],sX (eK (eL 2 25) 0 20 [eB 2 [eL 5 18]]),sA 3 5 (eb .add (eb .add (eL 3 5) (eI 1)) (eL 4 30))],sR (eK (eS 0 0) 6 33 [eL 2 25])]
def dT:Fn:=Xd.fil (hc 23)
def gJ:Fn:=gF 6 7 [2,34,16,35,6,7] [] [] [sS PN 34 (eL 1 34),sS w_text 16 (eL 2 16),sS Vw 35 (eL 3 35),sS Gv 6 (eL 4 6),sS Cz 7 (eL 5 7)]
def YE:Fn:=gJ.fil (hm 33 0)
def XT:Fn:=gF 4 5 [2,36,6,7] [] [] [sS Ng 36 (eL 1 36),sS Gv 6 (eL 2 6),sS Cz 7 (eL 3 7)]
def ek:Fn:=XT.fil (hm 34 0)
def YT:Fn:=gF 1 3 [2,37] [26,39,38] [] [sA 1 37 (eW (eQ (eB 0 [eA BP 36]) .gt (eI 0)) (eX (eA BP 36) (eI 0)) e0),sR (eW (eV true [.isi (eL 1 37) 166 38 0 0 0,eQ (eT 1 37 E9 34) .eq (eS 4 1685221239)]) (eT 1 37 Ag 16) (eS 0 0))]
def d7:Fn:=YT.fil (hm 34 1)
def Y9:Fn:=gF 2 3 [40,42] [39,41] [.none] [sR (eV true [.isi (eL 0 40) 194 41 0 0 0,eV false [eZ (eL 1 42) false,eQ (eO (eL 0 40) 194 191 42 []) .eq (eL 1 42)]])]
def ef:Fn:=Y9.fil (hc 35)
def YY:Fn:=gF 3 4 [40,34,16] [39,38] [.none] [sR (eV true [.isi (eL 0 40) 166 38 0 0 0,eQ (eT 0 40 E9 34) .eq (eL 1 34),eV false [eZ (eL 2 16) false,eQ (eT 0 40 Ag 16) .eq (eL 2 16)]])]
def ee:Fn:=YY.fil (hc 37)
def W6:Fn:=gF 4 5 [2,36,6,7] [] [] [sS Ng 36 (eL 1 36),sS Eb 5 (eI 0),sS Gv 6 (eL 2 6),sS Cz 7 (eL 3 7)]
def dR:Fn:=W6.fil (hm 39 0)
def ZO:Fn:=gF 1 2 [2] [26] [] [sR (eQ (eA BS 5) .eq (eB 0 [eA BP 36]))]
def cC:Fn:=ZO.fil (hm 39 1)
def WE:Fn:=gF 1 2 [2] [] [] [sR (eW (eM 319 235 43 []) e0 (eX (eA BP 36) (eA BS 5)))]
def gP:Fn:=WE.fil (hm 39 2)
def Wo:Fn:=gF 2 3 [2,42] [45] [.none] [sR (eC 206 [eM 319 242 44 [],eL 1 42] 45)]
def gU:Fn:=Wo.fil (hm 39 3)
def Wu:Fn:=gF 3 4 [2,34,16] [46] [.none] [sR (eC 214 [eM 319 242 44 [],eL 1 34,eL 2 16] 46)]
def fZ:Fn:=Wu.fil (hm 39 4)
def Wg:Fn:=gF 2 4 [2,3,40] [47] [(.str (dS 16 (nat_lit 146741680567145814295636984979031158389)))] [sA 2 40 (eM 319 242 44 []),sI (eZ (eL 2 40) false) [sE (eN 77 false [eL 1 3,eA Aj 6,eA AP 7] 47)] [],sE (eN 77 false [eL 1 3,eT 2 40 Aj 6,eT 2 40 AP 7] 47)]
def cM:Fn:=Wg.fil (hm 39 5)
def Xy:Fn:=gF 1 2 [2] [] [] [sI (eM 319 235 43 []) [sX (eM 319 266 48 [])] [],sS Eb 5 (eb .add (eA BS 5) (eI 1)),sR (eX (eA BP 36) (eb .sub (eA BS 5) (eI 1)))]
def cG:Fn:=Xy.fil (hm 39 6)
def Yg:Fn:=gF 2 3 [2,34] [] [] [sI (eD (eM 319 258 49 [eL 1 34])) [sX (eM 319 266 48 [])] [],sR (eM 319 273 50 [])]
def fh:Fn:=Yg.fil (hm 39 7)
def W7:Fn:=gF 2 3 [2,42] [] [.none] [sI (eD (eM 319 250 51 [eL 1 42])) [sX (eM 319 266 48 [])] [],sR (eM 319 273 50 [])]
def ba:Fn:=W7.fil (hm 39 8)
def XJ:Fn:=gF 1 2 [2] [] [] [sR (eW (eM 319 258 49 [eS 2 25705]) (eM 319 273 50 []) e0)]
def fx:Fn:=XJ.fil (hm 39 9)
def Ym:Fn:=gF 2 3 [2,16] [] [] [sI (eD (eM 319 258 49 [eS 4 1685221239,eL 1 16])) [sR (.lit (.bool false) 0)] [],sS Eb 5 (eb .add (eA BS 5) (eI 1)),sR (.lit (.bool true) 0)]
def fY:Fn:=Ym.fil (hm 39 10)
def Xf:Fn:=gF 1 3 [2,14] [26] [] [sA 1 14 (eY (eA BP 36) (some (eA BS 5)) none),sS Eb 5 (eB 0 [eA BP 36]),sR (eL 1 14)]
def cH:Fn:=Xf.fil (hm 39 11)
def X3:Fn:=gF 1 2 [2] [] [] [sI (eD (eM 319 235 43 [])) [sX (eM 319 266 48 [])] []]
def gB:Fn:=X3.fil (hm 39 12)
def Wn:Fn:=gF 1 2 [52] [53] [] [sR (eN 319 true [eY (eT 0 52 BP 36) (some (eI 1)) none,eT 0 52 Aj 6,eT 0 52 AP 7] 53)]
def gj:Fn:=Wn.fil (hc 40)
def WN:Fn:=gF 2 7 [16,54,57,14,58,15] [55,56] [] [sT [tL 2 57,tL 3 14,tL 4 58] (eP [eW (eQ (eL 1 54) .eq (eI 16)) (eG 2 55) (eG 3 56),eI 0,.lit (.bool false) 0]),.for [5] [15] [] 0 (eL 0 16) [sI (eQ (eL 5 15) .eq (eS 1 95)) [sI (eD (eL 4 58)) [sR e0] [],sA 4 58 (.lit (.bool false) 0)] [sI (eJ (eL 5 15) (eL 2 57) false) [sA 3 14 (eb .add (eb .mul (eL 3 14) (eL 1 54)) (eK (eG 2 55) 4 59 [eK (eL 5 15) 5 60 []])),sA 4 58 (.lit (.bool true) 0)] [sR e0]]] 0 0 0 0,sR (eW (eL 4 58) (eL 3 14) e0)]
def cJ:Fn:=WN.fil (hc 41)
def Xb:Fn:=gF 1 4 [16,61,14] [62] [] [sA 1 61 (eW (eJ (eY (eL 0 16) none (some (eI 1))) (eP [eS 1 43,eS 1 45]) false) (eY (eL 0 16) (some (eI 1)) none) (eL 0 16)),sA 2 14 (eW (eQ (eY (eL 1 61) none (some (eI 2))) .eq (eS 2 30768)) (eC 337 [eY (eL 1 61) (some (eI 2)) none,eI 16] 62) (eC 337 [eL 1 61,eI 10] 62)),sR (eW (eZ (eL 2 14) false) e0 (eW (eQ (eY (eL 0 16) none (some (eI 1))) .eq (eS 1 45)) (.neg (eL 2 14) 0) (eL 2 14)))]
def cU:Fn:=Xb.fil (hc 42)
def RH:Fn:=gF 1 3 [16,64] [63,26,65] [] [sA 1 64 (eC 344 [eL 0 16] 63),sI (eZ (eL 1 64) true) [sR (eP [eS 3 7630441,eL 1 64])] [],sI (eV true [eQ (eX (eL 0 16) (eI 0)) .eq (eS 1 36),eQ (eB 0 [eL 0 16]) .gt (eI 1)]) [sR (eP [eS 2 25705,eL 0 16])] [],sI (eJ (eX (eL 0 16) (eI 0)) (eG 4 65) false) [sR (eP [eS 4 1685221239,eL 0 16])] [],sR (eP [eS 8 7234318610140980594,eL 0 16])]
def fI:Fn:=RH.fil (hc 43)
def Yk:Fn:=gF 2 3 [2,16] [] [] [sS w_text 16 (eL 1 16),sS Eb 5 (eI 0),sS Gv 6 (eI 1),sS Cz 7 (eI 1),sS V6 14 (eU [])]
def cB:Fn:=Yk.fil (hm 44 0)
def Wc:Fn:=gF 1 2 [2] [] [] [sR (eY (eA Ag 16) (some (eA BS 5)) (some (eb .add (eA BS 5) (eI 1))))]
def cO:Fn:=Wc.fil (hm 44 1)
def Xl:Fn:=gF 2 3 [2,66] [26] [] [sR (eQ (eY (eA Ag 16) (some (eA BS 5)) (some (eb .add (eA BS 5) (eB 0 [eL 1 66])))) .eq (eL 1 66))]
def fq:Fn:=Xl.fil (hm 44 2)
def YI:Fn:=gF 2 3 [2,3] [47] [] [sE (eN 77 false [eL 1 3,eA Aj 6,eA AP 7] 47)]
def fH:Fn:=YI.fil (hm 44 3)
def Rp:Fn:=gF 2 5 [2,69,68,15] [67] [(.int 1)] [.for [2] [68] [] 1 (eL 1 69) [sA 3 15 (eX (eA Ag 16) (eA BS 5)),sS Eb 5 (eb .add (eA BS 5) (eI 1)),sI (eV false [eQ (eL 3 15) .eq (eS 1 10),eV true [eQ (eL 3 15) .eq (eS 1 13),eQ (eM 446 372 44 []) .ne (eS 1 10)]]) [sS Gv 6 (eb .add (eA Aj 6) (eI 1)),sS Cz 7 (eI 1)] [sS Cz 7 (eb .add (eA AP 7) (eI 1))]] 0 0 0 0]
def bg:Fn:=Rp.fil (hm 44 4)
def Wm:Fn:=gF 1 2 [2] [26] [] [sW (eV true [eQ (eA BS 5) .lt (eB 0 [eA Ag 16]),eJ (eM 446 372 44 []) (eP [eS 1 10,eS 1 13]) true]) [sX (eM 446 394 70 [])]]
def fc:Fn:=Wm.fil (hm 44 5)
def Xp:Fn:=gF 1 5 [2,6,7,71] [26,47] [] [sT [tL 1 6,tL 2 7,tL 3 71] (eP [eA Aj 6,eA AP 7,eI 1]),sX (eM 446 394 70 [eI 2]),sW (eQ (eL 3 71) .gt (eI 0)) [sI (eQ (eA BS 5) .ge (eB 0 [eA Ag 16])) [sE (eN 77 false [eS 16 154763657358597280117821356039217573493,eL 1 6,eL 2 7] 47)] [],sI (eM 446 379 72 [eS 2 15144]) [sA 3 71 (eb .add (eL 3 71) (eI 1)),sX (eM 446 394 70 [eI 2])] [sI (eM 446 379 72 [eS 2 10555]) [sA 3 71 (eb .sub (eL 3 71) (eI 1)),sX (eM 446 394 70 [eI 2])] [sX (eM 446 394 70 [])]]]]
def c8:Fn:=Xp.fil (hm 44 6)
def YM:Fn:=gF 1 4 [2,28,64] [55,62,73,32] [] [sX (eM 446 394 70 []),sI (eQ (eM 446 372 44 []) .ne (eS 1 123)) [sX (eM 446 386 48 [eS 14 2057427064444962733979961175862377])] [],sX (eM 446 394 70 []),sA 1 28 (eA BS 5),sW (eV true [eQ (eM 446 372 44 []) .ne (eS 0 0),eV false [eJ (eM 446 372 44 []) (eG 2 55) false,eQ (eM 446 372 44 []) .eq (eS 1 95)]]) [sX (eM 446 394 70 [])],sA 2 64 (eC 337 [eY (eA Ag 16) (some (eL 1 28)) (some (eA BS 5)),eI 16] 62),sI (eV false [eZ (eL 2 64) false,eQ (eM 446 372 44 []) .ne (eS 1 125)]) [sX (eM 446 386 48 [eS 14 2057427064444962733979961175862377])] [],sI (eV false [eQ (eL 2 64) .ge (eI 1114112),.cmp2 (eI 55296) .le (eL 2 64) .lt (eI 57344) 0]) [sX (eM 446 386 48 [eS 24 2536127990140528378335401926264659991622442834371256541549])] [],sX (eM 446 394 70 []),sR (eC 133 [eB 2 [eL 2 64]] 73)]
def bw:Fn:=YM.fil (hm 44 7)
def RG:Fn:=gF 1 4 [2,15,76] [74,22,26,55,62] [] [sX (eM 446 394 70 []),sA 1 15 (eM 446 372 44 []),sI (eJ (eL 1 15) (eG 5 74) false) [sX (eM 446 394 70 []),sR (eB 3 [.lst [eX (eG 5 74) (eL 1 15)] false 0])] [],sI (eQ (eL 1 15) .eq (eS 1 117)) [sR (eM 446 415 75 [])] [],sA 2 76 (eY (eA Ag 16) (some (eA BS 5)) (some (eb .add (eA BS 5) (eI 2)))),sI (eV false [eQ (eB 0 [eL 2 76]) .lt (eI 2),eJ (eX (eL 2 76) (eI 0)) (eG 2 55) true,eJ (eX (eL 2 76) (eI 1)) (eG 2 55) true]) [sX (eM 446 386 48 [eS 14 2057427064444962733979961175862377])] [],sX (eM 446 394 70 [eI 2]),sR (eB 3 [.lst [eC 337 [eL 2 76,eI 16] 62] false 0])]
def gT:Fn:=RG.fil (hm 44 8)
def RD:Fn:=gF 1 6 [2,6,7,14,15] [13,47,17,73,22] [] [sT [tL 1 6,tL 2 7,tL 3 14] (eP [eA Aj 6,eA AP 7,eB 4 []]),sX (eM 446 394 70 []),sW (eQ (eM 446 372 44 []) .ne (eS 1 34)) [sA 4 15 (eM 446 372 44 []),sI (eV false [eQ (eL 4 15) .eq (eS 0 0),eJ (eL 4 15) (eP [eS 1 10,eS 1 13]) false]) [sE (eN 77 false [eS 15 537045995864623111625013127299690101,eL 1 6,eL 2 7] 47)] [],sI (eV false [eQ (eL 4 15) .lt (eS 1 32),eQ (eL 4 15) .eq (eS 1 127)]) [sX (eM 446 386 48 [eS 35 784893602278151996323833324177087833420717753778070932688584599291205477559484312681])] [],sI (.cmp2 (eI 55296) .le (eB 1 [eL 4 15]) .lt (eI 57344) 0) [sX (eM 446 386 48 [eS 24 2536127990140528378335401926264659991622442834371256541549])] [],sI (eQ (eL 4 15) .eq (eS 1 92)) [sX (eK (eL 3 14) 1 21 [eM 446 422 77 []])] [sX (eK (eL 3 14) 1 21 [eC 133 [eL 4 15] 73]),sX (eM 446 394 70 [])]],sX (eM 446 394 70 []),sR (eB 3 [eL 3 14])]
def dM:Fn:=RD.fil (hm 44 9)
def Sw:Fn:=gF 1 11 [2,28,6,7,27,78,81,16,34,35] [79,82,38] [] [sT [tL 1 28,tL 2 6,tL 3 7,tL 4 27,tL 5 78] (eP [eA BS 5,eA Aj 6,eA AP 7,.lit (.bytes []) 0,eI 0]),sW (eV true [eQ (eM 446 372 44 []) .ne (eS 0 0),eV false [eQ (eM 446 372 44 []) .eq (eS 1 34),eJ (eM 446 372 44 []) (eG 6 79) false]]) [sI (eQ (eM 446 372 44 []) .eq (eS 1 34)) [sT [tL 4 27,tL 5 78] (eP [eM 446 429 80 [],eb .add (eL 5 78) (eI 1)]),sA 6 81 (.lit (.bool true) 0)] [sX (eM 446 394 70 []),sA 6 81 (.lit (.bool false) 0)]],sA 7 16 (eY (eA Ag 16) (some (eL 1 28)) (some (eA BS 5))),sT [tL 8 34,tL 9 35] (eW (eV true [eQ (eL 5 78) .eq (eI 1),eL 6 81]) (eP [eS 6 113723913172083,eL 4 27]) (eP [eS 8 7234318610140980594,eL 7 16])),sI (eQ (eL 5 78) .eq (eI 0)) [sT [tL 8 34,tL 9 35] (eC 351 [eL 7 16] 82)] [sI (eV true [eQ (eL 8 34) .eq (eS 6 113723913172083),eQ (eX (eL 7 16) (eI 0)) .ne (eS 1 34)]) [sT [tL 8 34,tL 9 35] (eP [eS 8 7234318610140980594,eL 7 16])] []],sX (eK (eA Dd 14) 0 20 [eN 166 false [eL 8 34,eL 7 16,eL 9 35,eL 2 6,eL 3 7] 38])]
def ey:Fn:=Sw.fil (hm 44 10)
def Rn:Fn:=gF 1 3 [2,15] [26,83,38,86,79] [] [sW (eQ (eA BS 5) .lt (eB 0 [eA Ag 16])) [sA 1 15 (eM 446 372 44 []),sI (eJ (eL 1 15) (eG 7 83) false) [sX (eM 446 394 70 [])] [sI (eM 446 379 72 [eS 2 15163]) [sX (eM 446 401 84 [])] [sI (eM 446 379 72 [eS 2 15144]) [sX (eM 446 408 85 [])] [sI (eJ (eL 1 15) (eS 2 10536) false) [sX (eK (eA Dd 14) 0 20 [eN 166 false [eL 1 15,eL 1 15,eL 1 15,eA Aj 6,eA AP 7] 38]),sX (eM 446 394 70 [])] [sI (eJ (eL 1 15) (eG 8 86) false) [sX (eK (eA Dd 14) 0 20 [eN 166 false [eS 8 7234318610140980594,eL 1 15,eL 1 15,eA Aj 6,eA AP 7] 38]),sX (eM 446 394 70 [])] [sI (eV false [eQ (eL 1 15) .eq (eS 1 34),eJ (eL 1 15) (eG 6 79) false]) [sX (eM 446 436 87 [])] [sX (eM 446 386 48 [eS 17 38927046178675932953270726203244049886313])]]]]]]],sR (eA Dd 14)]
def dZ:Fn:=Rn.fil (hm 44 11)
def Oy:Fn:=gF 1 2 [16] [88] [] [sR (.frz (eO (eN 446 true [eL 0 16] 88) 446 443 89 []))]
def fe:Fn:=Oy.fil (hc 45)
def OK:Fn:=gF 1 7 [16,14,90,91,40,94] [92,41,26,47] [] [sT [tL 1 14,tL 2 90] (eP [eU [],eU []]),.for [3] [91] [] 0 (eC 457 [eL 0 16] 92) [sI (eQ (eT 3 91 E9 34) .eq (eS 1 40)) [sX (eK (eL 2 90) 0 20 [eN 194 true [eU [],eT 3 91 Aj 6,eT 3 91 AP 7] 41])] [sA 4 40 (eL 3 91),sI (eQ (eT 3 91 E9 34) .eq (eS 1 41)) [sI (eQ (eB 0 [eL 2 90]) .eq (eI 0)) [sE (eN 77 false [eS 16 146741680567145814295636984979031158389,eT 3 91 Aj 6,eT 3 91 AP 7] 47)] [],sA 4 40 (.frz (eK (eL 2 90) 2 93 []))] [],sA 5 94 (eW (eQ (eB 0 [eL 2 90]) .gt (eI 0)) (eH (eX (eL 2 90) (.neg (eI 1) 0)) BP 36) (eL 1 14)),sX (eK (eL 5 94) 0 20 [eL 4 40])]] 0 0 0 0,sI (eQ (eB 0 [eL 2 90]) .gt (eI 0)) [sE (eN 77 false [eS 14 2036987355387462459146963767357045,eH (eX (eL 2 90) (.neg (eI 1) 0)) Aj 6,eH (eX (eL 2 90) (.neg (eI 1) 0)) AP 7] 47)] [],sR (.frz (eL 1 14))]
def d5:Fn:=OK.fil (hc 46)
def Wh:Fn:=gF 1 2 [91] [46,47] [] [sI (eV false [eD (eC 214 [eL 0 91,eS 3 7630441] 46),eJ (eX (eT 0 91 Ag 16) (eI 0)) (eS 2 11563) false]) [sE (eN 77 false [eS 16 146741680567145814295636984979031158389,eT 0 91 Aj 6,eT 0 91 AP 7] 47)] [],sI (eQ (eT 0 91 HJ 35) .ge (eb .pow (eI 2) (eI 32))) [sE (eN 77 false [eS 25 636523400291050011889778886145007118455487724906178828972905,eT 0 91 Aj 6,eT 0 91 AP 7] 47)] [],sR (eT 0 91 HJ 35)]
def f7:Fn:=Wh.fil (hc 47)
def dy:Fn:=gF 5 6 [2,95,10,34,96] [] [] [sS U2 95 (eL 1 95),sS Xq 10 (eL 2 10),sS PN 34 (eL 3 34),sS VQ 96 (eL 4 96)]
def Xj:Fn:=dy.fil (hm 49 0)
def cS:Fn:=gF 4 5 [2,8,97,61] [] [] [sS Lm 8 (eL 1 8),sS Sm 98 (eL 2 97),sS PL 61 (eL 3 61)]
def XG:Fn:=cS.fil (hm 50 0)
def bu:Fn:=gF 4 5 [2,8,99,61] [] [] [sS Lm 8 (eL 1 8),sS PT 99 (eL 2 99),sS PL 61 (eL 3 61)]
def Wk:Fn:=bu.fil (hm 51 0)
def bk:Fn:=gF 6 7 [2,100,101,102,8,103] [] [] [sS P7 100 (eL 1 100),sS VU 101 (eL 2 101),sS MQ 102 (eL 3 102),sS Lm 8 (eL 4 8),sS VO 103 (eL 5 103)]
def WR:Fn:=bk.fil (hm 52 0)
def dj:Fn:=gF 5 6 [2,100,104,102,27] [] [] [sS P7 100 (eL 1 100),sS Rq 104 (eL 2 104),sS MQ 102 (eL 3 102),sS Su 27 (eL 4 27)]
def Wv:Fn:=dj.fil (hm 53 0)
def WQ:Fn:=gF 1 2 [2] [] [] [sS Jk 105 (eU []),sS Po 106 (eU []),sS Um 107 (eU []),sS Sf 108 (eU []),sS N0 109 (eU []),sS Q5 110 (eU []),sS QP 111 (eU []),sS Na 112 e0,sS V0 113 (eU []),sS VI 114 (eU []),sS QW 115 (eU [])]
def bz:Fn:=WQ.fil (hm 54 0)
def WY:Fn:=gF 2 3 [3,40] [39,41,47] [] [sI (eV true [eQ (eL 0 3) .eq (eS 16 146741680567145814295636984979031158389),eD (.isi (eL 1 40) 194 41 0 0 0),eQ (eT 1 40 E9 34) .eq (eS 8 7234318610140980594)]) [sE (eN 77 false [eS 16 152110696950827486437596839959839075957,eT 1 40 Aj 6,eT 1 40 AP 7] 47)] [],sE (eN 77 false [eL 0 3,eT 1 40 Aj 6,eT 1 40 AP 7] 47)]
def bt:Fn:=WY.fil (hc 56)
def XK:Fn:=gF 1 3 [40,8] [39,41,116,117,118,119] [] [sI (eV false [.isi (eL 0 40) 194 41 0 0 0,eQ (eT 0 40 E9 34) .ne (eS 4 1685221239)]) [sX (eC 733 [eS 16 146741680567145814295636984979031158389,eL 0 40] 116)] [],sI (eC 126 [eT 0 40 Ag 16] 117) [sE (eN 96 false [eT 0 40 Ag 16,eT 0 40 Aj 6] 118)] [],sA 1 8 (eC 119 [eT 0 40 Ag 16] 119),sI (eZ (eL 1 8) false) [sX (eC 733 [eS 16 146741680567145814295636984979031158389,eL 0 40] 116)] [],sR (eL 1 8)]
def gS:Fn:=XK.fil (hc 57)
def Yb:Fn:=gF 3 7 [52,126,69,121,91,8] [120,47,125] [] [sA 3 121 (eC 330 [eL 0 52] 120),sA 4 91 (eO (eL 3 121) 319 295 122 []),sI (eZ (eL 4 91) false) [sR (.comp (eC 740 [eL 6 40] 125) [6] [40] [] 0 (eO (eL 3 121) 319 309 123 []) [] 0 false 0 0 0 0)] [],sI (eZ (eL 1 126) true) [sI (eJ (eT 4 91 Ag 16) (eL 1 126) false) [sE (eN 77 false [eb .add (eS 16 43098039197642265506926043314965738852) (eT 4 91 Ag 16),eT 4 91 Aj 6,eT 4 91 AP 7] 47)] [],.asg (.idx (eL 1 126) (eT 4 91 Ag 16) 0) (eL 2 69) 0] [],sA 5 8 (eC 740 [eO (eL 3 121) 319 273 50 []] 125),sX (eO (eL 3 121) 319 316 127 []),sR (.lst [eL 5 8] false 0)]
def d9:Fn:=Yb.fil (hc 61)
def ZG:Fn:=gF 2 5 [36,126,128,129] [130,26,120,131] [] [sT [tL 2 128,tL 3 129] (eP [eU [],eU []]),sW (eO (eL 0 36) 319 250 51 [eS 5 469786321264]) [sX (eK (eL 2 128) 1 21 [eC 747 [eO (eL 0 36) 319 273 50 [],eL 1 126,eB 0 [eL 2 128]] 130])],sW (eO (eL 0 36) 319 250 51 [eS 6 128009175786866]) [sX (eK (eL 3 129) 1 21 [.comp (eC 740 [eL 4 40] 125) [4] [40] [] 0 (eO (eC 330 [eO (eL 0 36) 319 273 50 []] 120) 319 309 123 []) [] 1 false 0 0 0 0])],sR (eP [eB 5 [eL 2 128],eB 5 [eL 3 129]])]
def fM:Fn:=ZG.fil (hc 62)
def XS:Fn:=gF 1 3 [2,132] [133] [] [sS aZ 126 (.dct [] [] [] 0),sS ZE 69 (.dct [] [] [] 0),sS Jk 105 (eU []),.for [1] [132] [] 0 (eG 9 133) [.asg (.idx (eA Ik 126) (eL 1 132) 0) (.dct [] [] [] 0) 0,.asg (.idx (eA GF 69) (eL 1 132) 0) (eI 0) 0] 0 0 0 0]
def fR:Fn:=XS.fil (hm 63 0)
def X8:Fn:=gF 3 5 [2,132,91,64] [47] [] [sA 3 64 (eX (eA GF 69) (eL 1 132)),sI (eZ (eL 2 91) true) [sI (eJ (eT 2 91 Ag 16) (eX (eA Ik 126) (eL 1 132)) false) [sE (eN 77 false [eb .add (eb .add (eb .add (eS 10 152987234696558894151012) (eL 1 132)) (eS 1 32)) (eT 2 91 Ag 16),eT 2 91 Aj 6,eT 2 91 AP 7] 47)] [],.asg (.idx (eX (eA Ik 126) (eL 1 132)) (eT 2 91 Ag 16) 0) (eL 3 64) 0] [],.asg (.idx (eA GF 69) (eL 1 132) 0) (eb .add (eL 3 64) (eI 1)) 0,sR (eL 3 64)]
def gE:Fn:=X8.fil (hm 63 1)
def Wr:Fn:=gF 3 4 [2,132,91] [46,134,47,135] [] [sI (eD (eC 214 [eL 2 91,eS 2 25705] 46)) [sR (eC 471 [eL 2 91] 134)] [],sI (eJ (eT 2 91 Ag 16) (eX (eA Ik 126) (eL 1 132)) true) [sE (eN 77 false [eb .add (eb .add (eb .add (eS 8 2336936577129475701) (eX (eG 10 135) (eL 1 132))) (eS 1 32)) (eT 2 91 Ag 16),eT 2 91 Aj 6,eT 2 91 AP 7] 47)] [],sR (eX (eX (eA Ik 126) (eL 1 132)) (eT 2 91 Ag 16))]
def cX:Fn:=Wr.fil (hm 63 2)
def YX:Fn:=gF 2 5 [2,8,64,137] [136,26] [] [.for [2,3] [64,137] [] 2 (eA B4 105) [sI (eQ (eL 3 137) .eq (eL 1 8)) [sR (eL 2 64)] []] 0 0 0 0,sX (eK (eA B4 105) 0 20 [eL 1 8]),.asg (.idx (eA GF 69) (eS 4 1701869940) 0) (eB 0 [eA B4 105]) 0,sR (eb .sub (eB 0 [eA B4 105]) (eI 1))]
def ew:Fn:=YX.fil (hm 63 3)
def Xu:Fn:=gF 3 11 [2,36,5,6,7,138,126,139,121,8] [26,53,120,140,47,142] [] [sT [tL 3 6,tL 4 7] (eW (eQ (eL 2 5) .lt (eB 0 [eL 1 36])) (eP [eH (eX (eL 1 36) (eL 2 5)) Aj 6,eH (eX (eL 1 36) (eL 2 5)) AP 7]) (eP [eI 0,eI 0])),sT [tL 5 138,tL 6 126,tL 7 139] (eP [eN 319 true [eL 1 36,eL 3 6,eL 4 7] 53,.dct [] [] [] 0,e0]),.asg (.attr (eL 5 138) Eb 5 0) (eL 2 5) 0,sI (eO (eL 5 138) 319 250 51 [eS 4 1701869940]) [sA 8 121 (eC 330 [eO (eL 5 138) 319 273 50 []] 120),sA 7 139 (eM 804 780 59 [eS 4 1701869940,eO (eL 8 121) 319 273 50 []]),sX (eO (eL 8 121) 319 316 127 [])] [],sA 9 8 (eC 752 [eL 5 138,eL 6 126] 140),sI (eZ (eL 7 139) false) [sR (eP [eM 804 787 141 [eL 9 8],eL 6 126,eT 5 138 BS 5])] [],sI (eQ (eL 9 8) .ne (eP [eP [],eP []])) [sI (eQ (eL 7 139) .ge (eB 0 [eA B4 105])) [sE (eN 77 false [eb .add (eS 13 2566695159688715169756684709493) (eB 6 [eL 7 139]),eL 3 6,eL 4 7] 47)] [],sI (eQ (eX (eA B4 105) (eL 7 139)) .ne (eL 9 8)) [sE (eN 77 false [eS 20 579116331417904235780105210074018647978097274473,eL 3 6,eL 4 7] 47)] []] [],sR (eP [eL 7 139,eL 6 126,eT 5 138 BS 5])]
def fP:Fn:=Xu.fil (hm 63 4)
def XH:Fn:=gF 2 3 [2,64] [26] [] [sR (eW (eQ (eL 1 64) .lt (eB 0 [eA B4 105])) (eB 0 [eX (eX (eA B4 105) (eL 1 64)) (eI 0)]) (eI 0))]
def dP:Fn:=XH.fil (hm 63 5)
def Wb:Fn:=gF 1 2 [91] [143,24,47] [] [.try [sR (eC 148 [eT 0 91 HJ 35,eI 0] 143)] 58 none [sE (eN 77 false [eS 24 2536127990140528378335401926264659991622442834371256541549,eT 0 91 Aj 6,eT 0 91 AP 7] 47)] 24 0 0 0]
def fQ:Fn:=Wb.fil (hc 68)
def XD:Fn:=gF 1 3 [36,14] [13,22] [] [sA 1 14 (eB 4 []),sW (eD (eO (eL 0 36) 319 235 43 [])) [sX (eK (eL 1 14) 1 21 [eH (eO (eL 0 36) 319 280 144 [eS 6 113723913172083]) HJ 35])],sR (eB 3 [eL 1 14])]
def gO:Fn:=XD.fil (hc 69)
def X9:Fn:=gF 1 3 [36,91] [145,47] [] [sA 1 91 (eO (eL 0 36) 319 280 144 [eS 4 1685221239]),sI (eJ (eT 1 91 Ag 16) (eG 11 145) true) [sE (eN 77 false [eS 16 146741680567145814295636984979031158389,eT 1 91 Aj 6,eT 1 91 AP 7] 47)] [],sR (eX (eG 11 145) (eT 1 91 Ag 16))]
def df:Fn:=X9.fil (hc 70)
def XU:Fn:=gF 1 2 [40] [46,145] [] [sR (eV true [eC 214 [eL 0 40,eS 4 1685221239] 46,eJ (eT 0 40 Ag 16) (eG 11 145) false])]
def fg:Fn:=XU.fil (hc 71)
def Xx:Fn:=gF 1 4 [36,31,146] [134] [] [sA 1 31 (eC 471 [eO (eL 0 36) 319 280 144 [eS 3 7630441]] 134),sA 2 146 (eW (eO (eL 0 36) 319 258 49 [eS 3 7630441]) (eC 471 [eO (eL 0 36) 319 273 50 []] 134) e0),sR (eP [eL 1 31,eL 2 146])]
def dw:Fn:=Xx.fil (hc 72)
def YC:Fn:=gF 1 4 [36,31,146] [147,148] [] [sT [tL 1 31,tL 2 146] (eC 845 [eL 0 36] 147),sR (eP [eC 831 [eL 0 36] 148,eL 1 31,eL 2 146])]
def gI:Fn:=YC.fil (hc 73)
def Ww:Fn:=gF 1 4 [36,121,8] [120,125] [] [sI (eO (eL 0 36) 319 250 51 [eS 3 7632237]) [sA 1 121 (eC 330 [eO (eL 0 36) 319 273 50 []] 120),sA 2 8 (eC 740 [eO (eL 1 121) 319 273 50 []] 125),sX (eO (eL 1 121) 319 316 127 []),sR (eP [eL 2 8,eI 1])] [],sR (eP [eC 740 [eO (eL 0 36) 319 273 50 []] 125,eI 0])]
def dh:Fn:=Ww.fil (hc 74)
def X5:Fn:=gF 1 3 [36,5] [26,45] [] [sA 1 5 (eT 0 36 BS 5),sW (eV true [eQ (eL 1 5) .lt (eB 0 [eT 0 36 BP 36]),eC 206 [eX (eT 0 36 BP 36) (eL 1 5),eS 6 128034844735589] 45]) [sA 1 5 (eb .add (eL 1 5) (eI 1))],sR (eY (eT 0 36 BP 36) (some (eL 1 5)) none)]
def gK:Fn:=X5.fil (hc 75)
def ZI:Fn:=gF 1 3 [36,150] [149,26,45] [] [sA 1 150 (eC 866 [eL 0 36] 149),sR (eV true [eQ (eB 0 [eL 1 150]) .gt (eI 0),eC 206 [eX (eL 1 150) (eI 0),eS 6 128034844732777] 45])]
def bf:Fn:=ZI.fil (hc 76)
def XI:Fn:=gF 4 5 [2,151,152,153] [154,156] [] [sS Ny 151 (eL 1 151),sS KA 152 (eL 2 152),sS Ct 153 (eL 3 153),sS TY 155 (eN 722 true [] 154),sS S9 157 (eN 804 true [] 156),.asg (.attr (eA Am 155) Jk 105 0) (eH (eA Ae 157) B4 105) 0,sS Y7 158 (.dct [(dS 4 (nat_lit 1668183398)),(dS 5 (nat_lit 435610083700)),(dS 6 (nat_lit 133532402673005)),(dS 6 (nat_lit 119165519096935))] [eI 0,eI 0,eI 0,eI 0] [] 0),sS Wf 159 (eU [])]
def bx:Fn:=XI.fil (hm 77 0)
def Yn:Fn:=gF 1 7 [2,160,52,8,6,7] [45,47,26,142] [] [sA 1 160 (eU []),.for [2] [52] [] 0 (eA IH 151) [sI (eD (eC 206 [eL 2 52] 45)) [sE (eN 77 false [eS 16 146741680567145814295636984979031158389,eT 2 52 Aj 6,eT 2 52 AP 7] 47)] [],sX (eM 1063 901 161 [eL 2 52,eL 1 160])] 0 0 0 0,.for [2] [52] [] 0 (eA IH 151) [sX (eM 1063 936 162 [eL 2 52])] 0 0 0 0,.for [3,4,5] [8,6,7] [] 0 (eA PM 159) [sI (eQ (eL 3 8) .lt (eB 0 [eH (eA Ae 157) B4 105])) [sE (eN 77 false [eb .add (eS 13 2566695159688715169756684709493) (eB 6 [eL 3 8]),eL 4 6,eL 5 7] 47)] []] 0 0 0 0,sR (eA Am 155)]
def fT:Fn:=Yn.fil (hm 77 1)
def YG:Fn:=gF 3 6 [2,52,160,42,36] [120,165,167,149,47] [] [sT [tL 3 42,tL 4 36] (eP [eO (eL 1 52) 194 191 42 [],eC 330 [eL 1 52] 120]),sI (eQ (eL 3 42) .eq (eS 4 1701869940)) [sX (eM 1063 929 163 [eL 4 36])] [sI (eQ (eL 3 42) .eq (eS 6 128034844732777)) [sX (eM 1063 908 164 [eL 1 52,eL 4 36,eL 2 160])] [sI (eJ (eL 3 42) (eG 12 165) false) [sX (eO (eA Ae 157) 804 773 166 [eL 3 42,eO (eL 4 36) 319 295 122 []]),sI (eC 873 [eL 4 36] 167) [sX (eM 1063 915 168 [eL 1 52,eL 2 160])] [sX (eK (eL 2 160) 0 20 [eL 3 42]),sX (eM 1063 922 169 [eL 3 42,eC 866 [eL 4 36] 149])]] [sI (eJ (eL 3 42) (eP [eS 4 1835363429,eS 4 1635017060]) false) [sX (eO (eA Ae 157) 804 773 166 [eL 3 42,eO (eL 4 36) 319 295 122 []])] [sI (eJ (eL 3 42) (eP [eS 6 128034844735589,eS 5 500135195763]) true) [sE (eN 77 false [eS 16 146741680567145814295636984979031158389,eT 1 52 Aj 6,eT 1 52 AP 7] 47)] []]]]]]
def d4:Fn:=YG.fil (hm 77 2)
def YZ:Fn:=gF 4 6 [2,52,36,160,96] [165,47,120] [] [sX (eO (eL 2 36) 319 280 144 [eS 6 113723913172083]),sX (eO (eL 2 36) 319 280 144 [eS 6 113723913172083]),sA 4 96 (eO (eL 2 36) 319 288 170 []),sI (eJ (eO (eL 4 96) 194 191 42 []) (eG 12 165) true) [sE (eN 77 false [eS 16 146741680567145814295636984979031158389,eT 4 96 Aj 6,eT 4 96 AP 7] 47)] [],sX (eM 1063 915 168 [eL 1 52,eL 3 160]),sX (eO (eA Ae 157) 804 773 166 [eO (eL 4 96) 194 191 42 [],eO (eC 330 [eL 4 96] 120) 319 295 122 []])]
def fC:Fn:=YZ.fil (hm 77 3)
def WM:Fn:=gF 3 4 [2,52,160] [26,47,135] [] [sI (eQ (eB 0 [eL 2 160]) .gt (eI 0)) [sE (eN 77 false [eb .add (eS 13 2570705142766951848627674312041) (eX (eG 10 135) (eX (eL 2 160) (eI 0))),eT 1 52 Aj 6,eT 1 52 AP 7] 47)] []]
def dF:Fn:=WM.fil (hm 77 4)
def WK:Fn:=gF 3 4 [2,42,36] [26,45,171] [] [sI (eV true [eQ (eL 1 42) .eq (eS 6 133532402673005),eQ (eB 0 [eL 2 36]) .gt (eI 0),eC 206 [eX (eL 2 36) (eI 0),eS 4 1635017060] 45]) [sX (eO (eA Ae 157) 804 773 166 [eS 4 1635017060,e0])] [],sI (eV true [eQ (eL 1 42) .eq (eS 5 435610083700),eQ (eB 0 [eL 2 36]) .gt (eI 1),eC 838 [eX (eL 2 36) (eI 0)] 171,eC 206 [eX (eL 2 36) (eI 1),eS 4 1835363429] 45]) [sX (eO (eA Ae 157) 804 773 166 [eS 4 1835363429,e0])] []]
def gC:Fn:=WK.fil (hm 77 5)
def Wz:Fn:=gF 2 4 [2,36,121] [120,140] [] [sX (eO (eA Ae 157) 804 773 166 [eS 4 1701869940,eO (eL 1 36) 319 295 122 []]),sA 2 121 (eC 330 [eO (eL 1 36) 319 288 170 [eS 4 1668183398]] 120),sX (eK (eH (eA Ae 157) B4 105) 0 20 [eC 752 [eL 2 121,e0] 140]),sI (eO (eL 2 121) 319 250 51 [eS 5 469786321264]) [sX (eO (eL 2 121) 319 266 48 [eS 23 10956989428241554219684958185666179125541828459836433778])] [],sX (eO (eL 2 121) 319 316 127 []),sX (eO (eL 1 36) 319 316 127 [])]
def fj:Fn:=Wz.fil (hm 77 6)
def Yq:Fn:=gF 2 5 [2,52,42,36] [120] [] [sT [tL 2 42,tL 3 36] (eP [eO (eL 1 52) 194 191 42 [],eC 330 [eL 1 52] 120]),sI (eQ (eL 2 42) .eq (eS 6 128034844732777)) [sX (eM 1063 950 172 [eL 3 36])] [sI (eQ (eL 2 42) .eq (eS 4 1668183398)) [sX (eM 1063 978 173 [eL 3 36])] [sI (eQ (eL 2 42) .eq (eS 5 435610083700)) [sX (eM 1063 985 174 [eL 3 36])] [sI (eQ (eL 2 42) .eq (eS 6 133532402673005)) [sX (eM 1063 992 175 [eL 3 36])] [sI (eQ (eL 2 42) .eq (eS 6 119165519096935)) [sX (eM 1063 999 176 [eL 3 36])] [sI (eQ (eL 2 42) .eq (eS 6 128034844735589)) [sX (eM 1063 1006 177 [eL 3 36])] [sI (eQ (eL 2 42) .eq (eS 5 500135195763)) [sX (eM 1063 1013 178 [eL 1 52,eL 3 36])] [sI (eQ (eL 2 42) .eq (eS 4 1835363429)) [sX (eM 1063 1053 179 [eL 3 36])] [sI (eQ (eL 2 42) .eq (eS 4 1635017060)) [sX (eM 1063 1060 180 [eL 3 36])] []]]]]]]]]]
def cK:Fn:=Yq.fil (hm 77 7)
def YL:Fn:=gF 5 6 [2,95,10,34,96] [181] [] [sX (eK (eH (eA Am 155) Qo 106) 0 20 [eN 495 false [eL 1 95,eL 2 10,eL 3 34,eL 4 96] 181])]
def dB:Fn:=YL.fil (hm 77 8)
def Wt:Fn:=gF 2 8 [2,36,95,10,96,42,121] [182,120,165] [] [sT [tL 2 95,tL 3 10] (eP [eC 817 [eO (eL 1 36) 319 280 144 [eS 6 113723913172083]] 182,eC 817 [eO (eL 1 36) 319 280 144 [eS 6 113723913172083]] 182]),sA 4 96 (eO (eL 1 36) 319 288 170 []),sX (eO (eL 1 36) 319 316 127 []),sT [tL 5 42,tL 6 121] (eP [eO (eL 4 96) 194 191 42 [],eC 330 [eL 4 96] 120]),sX (eM 1063 964 183 [eL 5 42]),sX (eO (eL 6 121) 319 295 122 []),sX (eM 1063 943 184 [eL 2 95,eL 3 10,eX (eG 12 165) (eL 5 42),eM 1063 957 185 [eL 5 42,eL 6 121]])]
def cw:Fn:=Wt.fil (hm 77 9)
def WS:Fn:=gF 3 6 [2,42,36,14,126] [187,147,188] [] [sI (eQ (eL 1 42) .eq (eS 4 1668183398)) [sT [tL 3 14,tL 4 126,.attr (eL 2 36) Eb 5 0] (eO (eA Ae 157) 804 794 186 [eT 2 36 BP 36,eT 2 36 BS 5])] [sI (eQ (eL 1 42) .eq (eS 5 435610083700)) [sA 3 14 (eC 852 [eL 2 36] 187)] [sI (eQ (eL 1 42) .eq (eS 6 133532402673005)) [sA 3 14 (eC 845 [eL 2 36] 147)] [sA 3 14 (eC 859 [eL 2 36] 188)]]],sX (eO (eL 2 36) 319 316 127 []),sR (eL 3 14)]
def cZ:Fn:=WS.fil (hm 77 10)
def Xm:Fn:=gF 2 3 [2,42] [] [] [.asg (.idx (eA GD 158) (eL 1 42) 0) (eb .add (eX (eA GD 158) (eL 1 42)) (eI 1)) 0,sR (eb .sub (eX (eA GD 158) (eL 1 42)) (eI 1))]
def bq:Fn:=Xm.fil (hm 77 11)
def YN:Fn:=gF 3 7 [2,42,36,64,121,14] [120,182,165] [] [sA 3 64 (eM 1063 964 183 [eL 1 42]),sX (eO (eL 2 36) 319 295 122 []),sW (eO (eL 2 36) 319 250 51 [eS 6 128034844735589]) [sA 4 121 (eC 330 [eO (eL 2 36) 319 273 50 []] 120),sX (eK (eH (eA Am 155) Jv 111) 0 20 [eP [eC 817 [eO (eL 4 121) 319 280 144 [eS 6 113723913172083]] 182,eX (eG 12 165) (eL 1 42),eL 3 64]]),sX (eO (eL 4 121) 319 316 127 [])],sI (eD (eO (eL 2 36) 319 250 51 [eS 6 128034844732777])) [sR e0] [],sA 4 121 (eC 330 [eO (eL 2 36) 319 273 50 []] 120),sA 5 14 (eP [eC 817 [eO (eL 4 121) 319 280 144 [eS 6 113723913172083]] 182,eC 817 [eO (eL 4 121) 319 280 144 [eS 6 113723913172083]] 182]),sX (eO (eL 4 121) 319 316 127 []),sR (eL 5 14)]
def cL:Fn:=YN.fil (hm 77 12)
def ZP:Fn:=gF 2 9 [2,36,189,8,126,69,14,61] [26,130,191,131] [] [sA 2 189 (eM 1063 971 90 [eS 4 1668183398,eL 1 36]),sI (eZ (eL 2 189) true) [sX (eM 1063 943 184 [eX (eL 2 189) (eI 0),eX (eL 2 189) (eI 1),eI 0,eM 1063 957 185 [eS 4 1668183398,eL 1 36]]),.ret none 0] [],sT [tL 3 8,tL 4 126,.attr (eL 1 36) Eb 5 0] (eO (eA Ae 157) 804 794 186 [eT 1 36 BP 36,eT 1 36 BS 5]),sI (eQ (eL 3 8) .ge (eB 0 [eH (eA Ae 157) B4 105])) [sX (eK (eA PM 159) 0 20 [eP [eL 3 8,eT 1 36 Aj 6,eT 1 36 AP 7]])] [],sT [tL 5 69,tL 6 14] (eP [eO (eA Ae 157) 804 801 190 [eL 3 8],eU []]),sW (eO (eL 1 36) 319 250 51 [eS 5 465490374508]) [sX (eK (eL 6 14) 1 21 [eC 747 [eO (eL 1 36) 319 273 50 [],eL 4 126,eb .add (eL 5 69) (eB 0 [eL 6 14])] 130])],sA 7 61 (.mfld (eL 0 2) KA 152 [eA Ae 157,eL 4 126,eO (eL 1 36) 319 309 123 []] 0 0),sX (eK (eH (eA Am 155) ND 107) 0 20 [eN 523 false [eL 3 8,eB 5 [eL 6 14],eL 7 61] 191])]
def ed:Fn:=ZP.fil (hm 77 13)
def WT:Fn:=gF 2 8 [2,36,64,189,8,121,103] [171,148,120,45,26,196,194,195,187] [] [sA 2 64 (eX (eA GD 158) (eS 5 435610083700)),sA 3 189 (eM 1063 971 90 [eS 5 435610083700,eL 1 36]),sI (eZ (eL 3 189) true) [sX (eM 1063 943 184 [eX (eL 3 189) (eI 0),eX (eL 3 189) (eI 1),eI 1,eM 1063 957 185 [eS 5 435610083700,eL 1 36]])] [sI (eC 838 [eO (eL 1 36) 319 242 44 []] 171) [sA 4 8 (eC 831 [eL 1 36] 148),sA 5 121 (eC 330 [eO (eL 1 36) 319 288 170 [eS 4 1835363429]] 120),sX (eO (eL 1 36) 319 316 127 []),sA 6 103 (eW (eC 206 [eO (eL 5 121) 319 242 44 []] 45) (eM 1063 1025 192 [eL 5 121]) (eM 1063 1018 193 [eL 5 121])),sX (eK (eH (eA Am 155) Ly 108) 0 20 [eP [eL 4 8,eB 0 [eL 6 103],eB 0 [eL 6 103]]]),sX (eK (eH (eA Am 155) G7 113) 0 20 [eN 579 false [eI 1,eL 2 64,.lst [eP [eG 13 194,eI 0],eP [eG 14 195]] false 0,eL 4 8,eL 6 103] 196])] [sX (eK (eH (eA Am 155) Ly 108) 0 20 [eC 852 [eL 1 36] 187]),sX (eO (eL 1 36) 319 316 127 [])]]]
def f9:Fn:=WT.fil (hm 77 14)
def ZR:Fn:=gF 2 7 [2,36,64,189,27,199] [197,120,26,198,200,194,195,147] [] [sA 2 64 (eX (eA GD 158) (eS 6 133532402673005)),sA 3 189 (eM 1063 971 90 [eS 6 133532402673005,eL 1 36]),sI (eZ (eL 3 189) true) [sX (eM 1063 943 184 [eX (eL 3 189) (eI 0),eX (eL 3 189) (eI 1),eI 2,eM 1063 957 185 [eS 6 133532402673005,eL 1 36]])] [sI (eO (eL 1 36) 319 250 51 [eS 4 1635017060]) [sA 4 27 (eC 824 [eC 330 [eO (eL 1 36) 319 273 50 []] 120] 197),sX (eO (eL 1 36) 319 316 127 []),sA 5 199 (eb .fdiv (eb .sub (eb .add (eB 0 [eL 4 27]) (eG 15 198)) (eI 1)) (eG 15 198)),sX (eK (eH (eA Am 155) Io 109) 0 20 [eP [eL 5 199,eL 5 199]]),sX (eK (eH (eA Am 155) Jm 114) 0 20 [eN 607 false [eI 1,eL 2 64,.lst [eP [eG 13 194,eI 0],eP [eG 14 195]] false 0,eL 4 27] 200])] [sX (eK (eH (eA Am 155) Io 109) 0 20 [eC 845 [eL 1 36] 147]),sX (eO (eL 1 36) 319 316 127 [])]]]
def gM:Fn:=ZR.fil (hm 77 15)
def Xg:Fn:=gF 2 6 [2,36,189,8,99] [188,201] [] [sA 2 189 (eM 1063 971 90 [eS 6 119165519096935,eL 1 36]),sI (eZ (eL 2 189) true) [sX (eM 1063 943 184 [eX (eL 2 189) (eI 0),eX (eL 2 189) (eI 1),eI 3,eM 1063 957 185 [eS 6 119165519096935,eL 1 36]]),.ret none 0] [],sT [tL 3 8,tL 4 99] (eC 859 [eL 1 36] 188),sX (eK (eH (eA Am 155) Ph 110) 0 20 [eN 551 false [eL 3 8,eL 4 99,.mfld (eL 0 2) Ct 153 [eA Ae 157,eO (eL 1 36) 319 309 123 []] 0 0] 201])]
def bo:Fn:=Xg.fil (hm 77 16)
def UK:Fn:=gF 2 7 [2,36,10,96,42,121] [182,120,165,47] [] [sT [tL 2 10,tL 3 96] (eP [eC 817 [eO (eL 1 36) 319 280 144 [eS 6 113723913172083]] 182,eO (eL 1 36) 319 288 170 []]),sX (eO (eL 1 36) 319 316 127 []),sT [tL 4 42,tL 5 121] (eP [eO (eL 3 96) 194 191 42 [],eC 330 [eL 3 96] 120]),sI (eJ (eL 4 42) (eG 12 165) true) [sE (eN 77 false [eS 16 146741680567145814295636984979031158389,eT 3 96 Aj 6,eT 3 96 AP 7] 47)] [],sX (eK (eH (eA Am 155) Jv 111) 0 20 [eP [eL 2 10,eX (eG 12 165) (eL 4 42),eO (eA Ae 157) 804 780 59 [eL 4 42,eO (eL 5 121) 319 273 50 []]]]),sX (eO (eL 5 121) 319 316 127 [])]
def aO:Fn:=UK.fil (hm 77 17)
def Ub:Fn:=gF 3 4 [2,52,36] [47] [] [sI (eZ (eH (eA Am 155) Uj 112) true) [sE (eN 77 false [eS 23 11056130414802134143239896076073460455259549139156628845,eT 1 52 Aj 6,eT 1 52 AP 7] 47)] [],.asg (.attr (eA Am 155) Na 112 0) (eO (eA Ae 157) 804 780 59 [eS 4 1668183398,eO (eL 2 36) 319 273 50 []]) 0,sX (eO (eL 2 36) 319 316 127 [])]
def aX:Fn:=Ub.fil (hm 77 18)
def UG:Fn:=⟨2,3,[2,36],[(2,1),(36,0)],[],[sR (.comp (.lst [eP [eG 16 202,eO (eA Ae 157) 804 780 59 [eS 4 1668183398,eL 2 91]],eP [eG 14 195]] false 0) [2] [91] [] 0 (eO (eL 1 36) 319 309 123 []) [] 2 false 0 0 0 0)]⟩
def bK:Fn:=UG.fil (hm 77 19)
def UZ:Fn:=gF 2 6 [2,36,14,52,121] [45] [] [sA 2 14 (eU []),sW (eD (eO (eL 1 36) 319 235 43 [])) [sA 3 52 (eO (eL 1 36) 319 288 170 []),sA 4 121 (eW (eC 206 [eL 3 52,eS 4 1835365481] 45) (eY (eT 3 52 BP 36) (some (eI 1)) none) (.lst [eL 3 52] false 0)),sX (eK (eL 2 14) 0 20 [.mfld (eL 0 2) Ct 153 [eA Ae 157,eL 4 121] 0 0])],sR (.frz (eL 2 14))]
def ay:Fn:=UZ.fil (hm 77 20)
def UR:Fn:=gF 3 6 [2,132,36,121,64] [120] [] [sI (eD (eO (eL 2 36) 319 250 51 [eL 1 132])) [sR (eP [eI 0,.lit (.bool false) 0])] [],sA 3 121 (eC 330 [eO (eL 2 36) 319 273 50 []] 120),sA 4 64 (eO (eA Ae 157) 804 780 59 [eL 1 132,eO (eL 3 121) 319 273 50 []]),sX (eO (eL 3 121) 319 316 127 []),sR (eP [eL 4 64,.lit (.bool true) 0])]
def Za:Fn:=UR.fil (hm 77 21)
def UY:Fn:=gF 2 5 [2,36,52,121] [45] [] [sA 2 52 (eO (eL 1 36) 319 288 170 []),sA 3 121 (eW (eC 206 [eL 2 52,eS 6 127979076609647] 45) (eY (eT 2 52 BP 36) (some (eI 1)) none) (.lst [eL 2 52] false 0)),sR (.mfld (eL 0 2) Ct 153 [eA Ae 157,eL 3 121] 0 0)]
def Zv:Fn:=UY.fil (hm 77 22)
def Tu:Fn:=gF 3 4 [2,36,205] [204,171,148] [] [sI (eO (eL 1 36) 319 302 203 [eS 4 1668183398]) [sR (eP [eG 17 204,eM 1063 1018 193 [eL 1 36]])] [],sI (eC 838 [eO (eL 1 36) 319 242 44 []] 171) [sR (eP [eC 831 [eL 1 36] 148,eM 1063 1025 192 [eL 1 36]])] [],sI (eD (eL 2 205)) [sX (eO (eL 1 36) 319 266 48 [])] [],sR (eP [eG 17 204,eM 1063 1018 193 [eL 1 36]])]
def bT:Fn:=Tu.fil (hm 77 23)
def T8:Fn:=gF 2 8 [2,36,8,103,101,208,102] [196] [] [sX (eO (eL 1 36) 319 295 122 []),sI (eO (eL 1 36) 319 302 203 [eS 7 28554735403623780]) [sT [tL 2 8,tL 3 103] (eM 1063 1046 206 [eL 1 36,.lit (.bool false) 0]),sX (eK (eH (eA Am 155) G7 113) 0 20 [eN 579 false [eI 2,eI 0,e0,eL 2 8,eL 3 103] 196])] [sI (eO (eL 1 36) 319 250 51 []) [sT [tL 4 101,tL 5 208] (eM 1063 1032 207 [eS 5 435610083700,eL 1 36]),sA 6 102 (eM 1063 1039 102 [eL 1 36]),sT [tL 2 8,tL 3 103] (eM 1063 1046 206 [eL 1 36,eD (eL 5 208)]),sX (eK (eH (eA Am 155) G7 113) 0 20 [eN 579 false [eI 1,eL 4 101,eL 6 102,eL 2 8,eL 3 103] 196])] [sT [tL 2 8,tL 3 103] (eM 1063 1046 206 [eL 1 36,.lit (.bool false) 0]),sX (eK (eH (eA Am 155) G7 113) 0 20 [eN 579 false [eI 0,eI 0,e0,eL 2 8,eL 3 103] 196])]]]
def au:Fn:=T8.fil (hm 77 24)
def Tp:Fn:=gF 2 6 [2,36,104,208,102] [200,197] [] [sX (eO (eL 1 36) 319 295 122 []),sI (eO (eL 1 36) 319 250 51 []) [sT [tL 2 104,tL 3 208] (eM 1063 1032 207 [eS 6 133532402673005,eL 1 36]),sA 4 102 (eM 1063 1039 102 [eL 1 36]),sX (eK (eH (eA Am 155) Jm 114) 0 20 [eN 607 false [eI 1,eL 2 104,eL 4 102,eC 824 [eL 1 36] 197] 200])] [sX (eK (eH (eA Am 155) Jm 114) 0 20 [eN 607 false [eI 0,eI 0,e0,eC 824 [eL 1 36] 197] 200])]]
def bE:Fn:=Tp.fil (hm 77 25)
def KW:Fn:=gF 2 3 [209,5] [26] [] [sR (eW (eQ (eL 1 5) .lt (eB 0 [eL 0 209])) (eX (eL 0 209) (eL 1 5)) (eI 0))]
def bD:Fn:=KW.fil (hc 79)
def UO:Fn:=gF 0 1 [] [] [] [sR (.lst [eS 4 1886350912,eS 3 2697280,eS 6 45562882566208,eS 18 3609863464573878724777651639751075746313000,eS 7 11652007793535040,eS 12 12809090684767093001431905320,eS 17 14101968030591404674279242473601507095592,eS 24 1009281296364398654594397168653348575608973588453186434088,eS 26 66142831111127836591112367504072108994153080467388237050639400,eS 33 4766093286609265171617929819109376089456522941236547462182379172434686632358952,eS 30 284081296075770037844466360652767480338307165931329285600915025573803048,eS 22 15400410405950907039007214768986589432889346465032488,eS 22 15400410405950907040545032787123803175251992512391464,eS 17 13997342640417485121736890762975928461376,eS 24 1009285024603672268045092290892884442603206173913357576488,eS 20 234986458469139997119355948451501228128518105384,eS 31 72726381923499470721415250703514920172566442138365031158672553284217956648,eS 48 6335224608628062154070746703293623838608271387234123285129515952649385924432183530820121328681249227576484947650856,eS 37 20470283445789772129358984832749532460274363354014855059066357773702648486218876947622184,eS 36 79963590455799941553728590212339830313064118658981235638108659724743498391828315334952,eS 26 66144798857857213486045008527617369293244873536609243246717224,eS 34 1220123950771642411839647873923206248761200085797992762090535950585758483965897000,eS 40 343433215193384147519330976461642918079164347879896143413275926851621165011962426237079417350440,eS 18 3585689885238764802427229420744084922132008,eS 16 54713593824394833273695094035713451560,eS 24 1009256958964439451082684050193675893324867554493305546280,eS 28 4334725713615004029473386569458431186109027939377188894873927116328,eS 22 15400472171587515190759310323089323857026132294854184,eS 20 234985951110779117455213923001778416237292119592,eS 30 284088798848200476878503741524663015775930059736412723122353261176514088,eS 37 20487872765061069053008040634848766361321471073631749019514678900811227329149988725945384,eS 36 80426463883532709383846920337372858771546897960769500069542718096469845562865765149992,eS 34 1221166627013535916504783060771555552514725586005877532155138999004922944579987240,eS 18 3585620765377571081890824428986646454953512,eS 21 60158317427736684454898320311478564934824731436584,eS 26 66143051906410568353109409754818761833702542963508789044930088,eS 18 3585714995185733575796301965112275228780072,eS 8 2982909498000418880,eS 10 195835255891234463511592,eS 16 55030019692905150865265057864959141952,eS 22 15489573511447418384954089184005041121797568857207848,eS 14 835556112850968870993328064263208,eS 20 235166944329948792778551983448288039477807510568,eS 41 87919132754247499387317260309260151213767843457546281038958209175005997118641715351340146466321448,eS 32 18617553442488670885191894081434623303486844782155405410086116109475555406888,eS 30 284088478794732519604615465119976488851123932792748569693599170826433576,eS 9 765067686563669682240,eS 12 12748327012526676063730101544,eS 15 213883089835817478940227525090307368,eS 23 3942502174727913079104088538133730163718899549405015336,eS 19 917935633802995319225044737395988691467726120,eS 9 764126138481628358720,eS 15 213724976802238446942945544063706920,eS 23 3942433113241825601643884762269170822051406641288210216,eS 14 839456567116896208895574645958440,eS 15 213719727312666154009431317628610344,eS 20 234987144567844747376992002532103115870358234408,eS 13 3259013923195527146279920805952] false 0)]
def av:Fn:=UO.fil (hc 80)
def UN:Fn:=gF 0 1 [] [] [] [sR (.lst [eS 22 15400117507266321713872116886309292004783796671505704,eS 24 1009262521427896361170432752566741823980724434109438911784,eS 20 234991613860334887773348274752833876268447982888,eS 31 72724998744469265157099473377524193788277101935093508250690702845616350504,eS 8 2987138215744579648,eS 12 12748425593054878410961351464,eS 7 11660756422830144,eS 9 759793321588646765864,eS 17 14015712951629649992433369028854230574376,eS 24 1016834783650149524172383313736769568804626431510766708008,eS 28 4337653059017252859594843217478273655258413577457982707872599663912,eS 28 4334857421753396112926215696329864397627004033962679155519264679208,eS 17 14006325278907563271311026204488214325312,eS 17 14015712951704875359261658652688880788776,eS 28 4334846173211870305873317065545490473687515582871516413488939164968,eS 9 759793321537358095400,eS 22 15390166777010644474770700054089874634620771651118120,eS 18 3612522844818713093954940110036138905920552,eS 29 1109723499968869404909111218260445285794099468627222404399833345516584,eS 18 3585619271806463796246417098595789302933568] false 0)]
def Zw:Fn:=UN.fil (hc 81)
def Uc:Fn:=gF 0 7 [210,211,14,66,10,123] [] [] [sT [tL 0 210,tL 1 211] (eP [eS 24 2536127990140528378335401926264659991622442834371256541549,eS 5 435644493348]),sA 2 14 (eU [eP [eS 39 1341535992941049720279868383986281369025970220877536224406109069613109976954655021667957961768,eS 23 10956989428241554219684958185666179125541828459836433778],eP [eS 20 235141884591249275759074991229033328618551669544,eS 23 11056130414802134143239896076073460455259549139156628845],eP [eS 54 1783214481656843604312686430531831663860057283366066237079808988278375435035281644867412343825310628295673260116593183619394447424,eS 14 996404765738620565943171997724277],eP [eS 86 206482130389283778500672705355952583845574049291608127734106501708042732229850128494499580124353086604914729343546944026852271047753300276438259429551201807053425396440012579732196150265242950722075533600296,eS 14 996404765738620565943171997724277],eP [eS 20 234991788076972840564442931696002374440938989096,eS 18 8835920055662008147674065367943438442131061],eP [eS 37 20470283068854892793300139619379859489406193215716654213771004461277539245084959231534632,eS 18 10465767575059581024545056352214778077279588],eP [eS 37 20470283068854852155817649716540279073563676128590790062218548885296054344342371550193192,eS 18 8462184998629095351672706663656526848226660],eP [eS 22 15419168806161849683648728904028487984227298287381800,eS 25 636523400291050011889778886145007118455487724906178828972905],eP [eS 20 235277844332303614557628309692838142432359312680,eS 25 636523400291050011889778886145007118455487724906178828972905],eP [eS 26 66144259038537229514072183740560395997890354519931457953949992,eL 0 210],eP [eS 26 66144259038537229514069552180667800221892159439308294739290408,eL 0 210],eP [eS 22 15400037933587341105778380577337531859762517795759656,eL 0 210],eP [eS 26 66142659281917050008886711001849038533847627208603271557375528,eL 0 210],eP [eS 24 1009262100899317243189561077839793361448755700527611274536,eL 0 210]]),.for [3,4,5] [66,10,123] [] 0 (.lst [eP [eS 4 1668183398,eS 8 7957695015192261990,eS 0 0],eP [eS 5 435610083700,eS 5 435610083700,eS 10 483552744957341998264352],eP [eS 6 133532402673005,eS 6 133532402673005,eS 2 12320],eP [eS 6 119165519096935,eS 6 119165519096935,eS 4 842230048]] false 0) [sX (eK (eL 2 14) 0 20 [eP [eb .add (eb .add (eb .add (eb .add (eb .add (eb .add (eb .add (eb .add (eS 1 40) (eL 3 66)) (eS 3 7414816)) (eL 5 123)) (eS 3 2629673)) (eL 3 66)) (eS 4 1898201120)) (eL 5 123)) (eS 1 41),eb .add (eb .add (eS 10 152987234696558894151012) (eL 3 66)) (eS 3 7414816)]]),sX (eK (eL 2 14) 0 20 [eP [eb .add (eb .add (eb .add (eS 1 40) (eL 3 66)) (eL 5 123)) (eS 26 66144259038537229514072183740565208727130699160434947477479465),eb .add (eS 13 2570705142766951848627674312041) (eL 4 10)]]),sX (eK (eL 2 14) 0 20 [eP [eb .add (eb .add (eS 13 3179071658619663926038390924584) (eL 3 66)) (eS 9 759299418775162732576),eb .add (eb .add (eb .add (eS 8 2336936577129475701) (eL 4 10)) (eS 1 32)) (eL 1 211)]])] 0 0 0 0,sR (.frz (eL 2 14))]
def Z1:Fn:=Uc.fil (hc 82)
def UA:Fn:=gF 0 1 [] [] [] [sR (.lst [eP [eS 34 1220146218429046083144952758579284838626139004136698528347260555041234405648069672,eS 17 38499927880848288702256992045850596242788],eP [eS 30 285652267585664193554305398648131438306424701773286743728636285881705768,eS 17 38499928042232014304798476018568580330852],eP [eS 20 236591763674617716353531358856298370272354985000,eS 17 38499927800028115954658541584719576855908],eP [eS 37 20610049366323640011763165343280986739099120063321776945021273098752230632004492578351400,eS 17 38499927840123758304924362537685660759396],eP [eS 53 7006133118302690011411076841896236647442828367657089766742481355010000830990884444376499915868023326530536174625521919020330280,eS 19 2708358886373641169032770006139773969851510121],eP [eS 14 839615016225634527383750169621288,eS 22 37949987669138836581480816610218918322511149257158261],eP [eS 29 1109717343764303262064904877952875591369045755842838739248488332227624,eS 22 37949987669138836581480816610218918322511149257158261],eP [eS 18 3606119035919609651881270840293075532408104,eS 22 37949987669138836581480816610218918322511149257158261],eP [eS 30 284089215992030567656732473038346873378471921758900300320602444251555112,eS 19 2261995534249474084538727219997314354300808821],eP [eS 31 72726839293959825320123513097816799584888813556714409658614812629985748008,eS 20 579070856767865771769512959255098874472461725301]] false 0)]
def ZZ:Fn:=UA.fil (hc 83)
def T7:Fn:=gF 0 1 [] [] [] [sR (.lst [eP [eS 53 6965681568972045329346431369264967436953348763148696238593003860462404043106568925263329468067619721008136186594779717057209896,.lst [eP [eI 0,eI 3,eI 0,eI 0,eI 0,eI 0,eI 0],eP [eI 1,eI 3,eI 0,eI 0,eI 0,eI 0,eI 0],eP [eI 2,eI 3,eI 0,eI 0,eI 0,eI 0,eI 0]] false 0],eP [eS 68 9310143132697945309038491594693575010959845629529989508525798475971291499185741446519368785957293703424871085367034859178506043293973635642772824429171264561706024,.lst [eP [eI 1,eI 1,eI 1,eI 1,eI 0,eI 2,eI 2]] false 0],eP [eS 85 806570220320968732458035129644625285120365356122100431729884421353760393159626009329526921032680084511111086875467620460125782641842870967839928345454979050677986917612052838639021293838401268713538741544,.lst [eP [eI 2,eI 2,eI 0,eI 0,eI 0,eI 1,eI 1]] false 0],eP [eS 51 106875201736653802363235047290150659623310232340828199909579206711659045773033730891533329026927323093613701909015890588712,.lst [eP [eI 1,eI 1,eI 1,eI 0,eI 0,eI 1,eI 0]] false 0],eP [eS 48 6370258434811461112693886978525061319475841925062696814699831522519991127187524471309819249626837648423589417151784,.lst [eP [eI 1,eI 1,eI 0,eI 1,eI 0,eI 0,eI 1]] false 0],eP [eS 99 4211097361068543126466241432504127575498916664718165709491800539645047566966232286403848486898540226847261771801313364704970665767152379434508283100311491379948142039000157751810837098805441806480854938861418697827459778787605958453457960,.lst [eP [eI 1,eI 1,eI 1,eI 1,eI 1,eI 0,eI 0]] false 0],eP [eS 64 2167686618095716766195091152867397507923116298595442340878447101368104448431251554488896618434176150526508438516301149949116595484196784916603301849229096,.lst [eP [eI 1,eI 1,eI 1,eI 1,eI 2,eI 0,eI 0]] false 0]] false 0)]
def ax:Fn:=T7.fil (hc 84)
def To:Fn:=gF 0 2 [14] [212,213,214,215,216] [] [sA 0 14 (.comp (eP [eL 1 16,eS 16 146741680567145814295636984979031158389]) [1] [16] [] 0 (eb .add (eC 1081 [] 212) (eC 1088 [] 213)) [] 3 false 0 0 0 0),sR (eb .add (eb .add (eb .add (eL 0 14) (eC 1095 [] 214)) (eC 1102 [] 215)) (eC 1109 [] 216))]
def bN:Fn:=To.fil (hc 85)
def UC:Fn:=⟨3,4,[157,126,36],[(157,1),(126,0),(36,0),(131,4)],[],[sR (.lst [eB 5 [.comp (eX (eT 0 157 GF 69) (eL 3 132)) [3] [132] [] 0 (eP [eS 4 1701869940,eS 4 1668183398,eS 5 435610083700,eS 6 133532402673005,eS 6 119165519096935,eS 4 1835363429,eS 4 1635017060]) [] 4 false 0 0 0 0]] false 0)]⟩
def Ze:Fn:=UC.fil (hc 86)
def Tv:Fn:=gF 2 3 [157,36] [] [] [sR (.lst [eP [eI 11]] false 0)]
def bV:Fn:=Tv.fil (hc 87)
def Kg:Fn:=gF 1 3 [16,218] [26] [] [sA 1 218 (eK (eY (eL 0 16) none (some (eK (eL 0 16) 4 59 [eS 1 64]))) 7 217 [eS 1 10]),sR (eP [eB 0 [eL 1 218],eb .add (eB 0 [eX (eL 1 218) (.neg (eI 1) 0)]) (eI 1)])]
def Z9:Fn:=Kg.fil (hc 88)
def HE:Fn:=gF 1 4 [16,155,219] [223,220,221,222,47] [] [.try [sA 1 155 (eO (eN 1063 true [eC 464 [eL 0 16] 220,eG 18 221,eG 19 222] 223) 1063 894 224 [])] 77 (some (2,219)) [sR (eP [eT 2 219 Zu 3,eP [eT 2 219 Aj 6,eT 2 219 AP 7]])] 47 0 0 0,sR (.comp (eX (eT 3 225 X6 61) (eI 0)) [3] [225] [] 0 (eT 1 155 ND 107) [] 5 false 0 0 0 0)]
def Zp:Fn:=HE.fil (hc 89)
def Fq:Fn:=gF 1 10 [209,227,37,70,229,16,230,231,218] [226,228,67,26,39,142,232,234] [] [sA 1 227 (eC 1114 [] 226),sT [tL 2 37,tL 3 70] (eP [eC 1074 [eL 0 209,eI 0] 228,eb .add (eI 1) (eb .mod (eC 1074 [eL 0 209,eI 1] 228) (eI 7))]),.for [4] [229] [] 1 (eI 8) [sT [tL 5 16,tL 6 230] (eX (eL 1 227) (eb .mod (eb .add (eL 2 37) (eb .mul (eL 3 70) (eL 4 229))) (eB 0 [eL 1 227]))),sA 7 231 (eC 1074 [eL 0 209,eb .add (eI 2) (eL 4 229)] 228),sA 8 218 (eX (.lst [eS 0 0,eS 23 3080391199238175990080792581513607810989817977407825192,eS 48 6335240885335804648250083645158565587504357597725575765206085175889646041461778480620283077685272899485276980143400] false 0) (eb .mod (eL 7 231) (eI 3))),sA 5 16 (eb .add (eb .add (eb .add (eb .mul (eS 1 10) (eb .mod (eb .fdiv (eL 7 231) (eI 3)) (eI 3))) (eb .mul (eS 1 32) (eb .mod (eb .fdiv (eL 7 231) (eI 9)) (eI 4)))) (eL 8 218)) (eL 5 16)),sI (.isi (eL 6 230) 0 142 0 0 0) [sA 6 230 (eP [eL 6 230,eC 1133 [eL 5 16] 232])] [],sI (eQ (eC 1138 [.dele (eL 5 16) 64 233 0 0 0 0] 234) .ne (eL 6 230)) [sR (.lit (.bool false) 0)] []] 0 0 0 0,sR (.lit (.bool true) 0)]
def Cq:Fn:=Fq.fil (hc 90)
def OW:Tree Cls:=(tn 446 ⟨0,[16,5,6,7,14]⟩
 (tn 108 ⟨2,[3]⟩
 (tn 77 ⟨2,[3,6,7]⟩
 (tn 58 ⟨2,[3,5]⟩
 (tn 38 ⟨2,[3]⟩
 .nil
 .nil)
 .nil)
 (tn 96 ⟨2,[3,5]⟩
 .nil
 .nil))
 (tn 194 ⟨1,[36,6,7]⟩
 (tn 166 ⟨1,[34,16,35,6,7]⟩
 .nil
 .nil)
 (tn 319 ⟨0,[36,5,6,7]⟩
 .nil
 .nil)))
 (tn 607 ⟨1,[100,104,102,27]⟩
 (tn 551 ⟨1,[8,99,61]⟩
 (tn 523 ⟨1,[8,98,61]⟩
 (tn 495 ⟨1,[95,10,34,96]⟩
 .nil
 .nil)
 .nil)
 (tn 579 ⟨1,[100,101,102,8,103]⟩
 .nil
 .nil))
 (tn 804 ⟨0,[126,69,105]⟩
 (tn 722 ⟨0,[105,106,107,108,109,110,111,112,113,114,115]⟩
 .nil
 .nil)
 (tn 1063 ⟨0,[151,152,153,155,157,158,159]⟩
 .nil
 .nil))))
def globT:Tree W:=(tn 10 (.dct [(.str (dS 4 (nat_lit 1701869940))),(.str (dS 4 (nat_lit 1668183398))),(.str (dS 5 (nat_lit 435610083700))),(.str (dS 6 (nat_lit 133532402673005))),(.str (dS 6 (nat_lit 119165519096935))),(.str (dS 4 (nat_lit 1835363429))),(.str (dS 4 (nat_lit 1635017060)))] [(.str (dS 4 (nat_lit 1701869940))),(.str (dS 8 (nat_lit 7957695015192261990))),(.str (dS 5 (nat_lit 435610083700))),(.str (dS 6 (nat_lit 133532402673005))),(.str (dS 6 (nat_lit 119165519096935))),(.str (dS 12 (nat_lit 36033721956593998791465856101))),(.str (dS 12 (nat_lit 36033721956593998791265509732)))])
 (tn 5 (.dct [(.str (dS 1 (nat_lit 116))),(.str (dS 1 (nat_lit 110))),(.str (dS 1 (nat_lit 114))),(.str (dS 1 (nat_lit 34))),(.str (dS 1 (nat_lit 39))),(.str (dS 1 (nat_lit 92)))] [(.int 9),(.int 10),(.int 13),(.int 34),(.int 39),(.int 92)])
 (tn 2 (.str (dS 22 (nat_lit 26291342665239622251265189840170011249128153612955952)))
 (tn 1 (.dct [(.int (-3)),(.int (-4)),(.int (-5))] [(.str (dS 3 (nat_lit 3289958))),(.str (dS 3 (nat_lit 3421798))),(.str (dS 4 (nat_lit 942813558)))])
 (tn 0 (.dct [(.int (-1)),(.int (-2)),(.int (-16)),(.int (-17))] [(.str (dS 3 (nat_lit 3289961))),(.str (dS 3 (nat_lit 3421801))),(.str (dS 7 (nat_lit 28821989593347430))),(.str (dS 9 (nat_lit 1888877922101157460069)))])
 .nil
 .nil)
 .nil)
 (tn 4 (.str (dS 26 (nat_lit 196808924543273351654744084199064270893917454994213902225728097)))
 (tn 3 (.str (dS 10 (nat_lit 270211885617516653982000)))
 .nil
 .nil)
 .nil))
 (tn 8 (.str (dS 6 (nat_lit 137968800709420)))
 (tn 7 (.str (dS 4 (nat_lit 218761504)))
 (tn 6 (.str (dS 85 (nat_lit 2478557590769166910491294548840731502236992589966683272357836390233543010115586465169639545325603501142290197998782469427079162457349843931251470687811423484484629421059981162888708096042483701908692414768)))
 .nil
 .nil)
 .nil)
 (tn 9 (.tup [(.str (dS 4 (nat_lit 1701869940))),(.str (dS 4 (nat_lit 1668183398))),(.str (dS 5 (nat_lit 435610083700))),(.str (dS 6 (nat_lit 133532402673005))),(.str (dS 6 (nat_lit 119165519096935))),(.str (dS 4 (nat_lit 1835363429))),(.str (dS 4 (nat_lit 1635017060)))])
 .nil
 .nil)))
 (tn 15 (.int 65536)
 (tn 13 (.int 65)
 (tn 12 (.dct [(.str (dS 4 (nat_lit 1668183398))),(.str (dS 5 (nat_lit 435610083700))),(.str (dS 6 (nat_lit 133532402673005))),(.str (dS 6 (nat_lit 119165519096935)))] [(.int 0),(.int 1),(.int 2),(.int 3)])
 (tn 11 (.dct [(.str (dS 7 (nat_lit 28821989593347430))),(.str (dS 9 (nat_lit 1888877922101157460069)))] [(.int (-16)),(.int (-17))])
 .nil
 .nil)
 .nil)
 (tn 14 (.int 11)
 .nil
 .nil))
 (tn 18 (.fn 1119)
 (tn 17 (.int (-16))
 (tn 16 (.int 210)
 .nil
 .nil)
 .nil)
 (tn 19 (.fn 1126)
 .nil
 .nil))))
def nmT:Tree Str:=(tn 117 "is_left_name"
 (tn 58 "was_digit"
 (tn 29 "head_of"
 (tn 14 "found"
 (tn 7 "column"
 (tn 3 "why"
 (tn 1 "__init__"
 (tn 0 "Exception"
 .nil
 .nil)
 (tn 2 "self"
 .nil
 .nil))
 (tn 5 "at"
 (tn 4 "WasmFault"
 .nil
 .nil)
 (tn 6 "row"
 .nil
 .nil)))
 (tn 11 "LEFT_NAMES"
 (tn 9 "KIND_NAMES"
 (tn 8 "kind"
 .nil
 .nil)
 (tn 10 "name"
 .nil
 .nil))
 (tn 13 "bytearray"
 (tn 12 "values"
 .nil
 .nil)
 .nil)))
 (tn 22 "bytes"
 (tn 18 "point"
 (tn 16 "text"
 (tn 15 "sign"
 .nil
 .nil)
 (tn 17 "ord"
 .nil
 .nil))
 (tn 20 "append"
 (tn 19 "Misused"
 .nil
 .nil)
 (tn 21 "extend"
 .nil
 .nil)))
 (tn 26 "len"
 (tn 24 "Malformed"
 (tn 23 "octet"
 .nil
 .nil)
 (tn 25 "signs"
 .nil
 .nil))
 (tn 28 "begin"
 (tn 27 "octets"
 .nil
 .nil)
 .nil))))
 (tn 44 "here"
 (tn 37 "first"
 (tn 33 "join"
 (tn 31 "least"
 (tn 30 "follow"
 .nil
 .nil)
 (tn 32 "chr"
 .nil
 .nil))
 (tn 35 "value"
 (tn 34 "sort"
 .nil
 .nil)
 (tn 36 "items"
 .nil
 .nil)))
 (tn 41 "Branch"
 (tn 39 "isinstance"
 (tn 38 "Token"
 .nil
 .nil)
 (tn 40 "item"
 .nil
 .nil))
 (tn 43 "is_done"
 (tn 42 "head"
 .nil
 .nil)
 .nil)))
 (tn 51 "is_branch"
 (tn 48 "fail"
 (tn 46 "is_token_lexer"
 (tn 45 "is_branch_lexer"
 .nil
 .nil)
 (tn 47 "BadText"
 .nil
 .nil))
 (tn 50 "take"
 (tn 49 "is_token"
 .nil
 .nil)
 .nil))
 (tn 55 "HEX_DIGITS"
 (tn 53 "Items"
 (tn 52 "branch"
 .nil
 .nil)
 (tn 54 "base"
 .nil
 .nil))
 (tn 57 "digits"
 (tn 56 "DIGITS"
 .nil
 .nil)
 .nil)))))
 (tn 88 "Lexer"
 (tn 73 "utf8_of"
 (tn 66 "word"
 (tn 62 "whole_of"
 (tn 60 "lower"
 (tn 59 "index"
 .nil
 .nil)
 (tn 61 "body"
 .nil
 .nil))
 (tn 64 "number"
 (tn 63 "number_in"
 .nil
 .nil)
 (tn 65 "SMALL_LETTERS"
 .nil
 .nil)))
 (tn 70 "step"
 (tn 68 "turn"
 (tn 67 "range"
 .nil
 .nil)
 (tn 69 "many"
 .nil
 .nil))
 (tn 72 "starts"
 (tn 71 "depth"
 .nil
 .nil)
 .nil)))
 (tn 81 "is_string"
 (tn 77 "escape"
 (tn 75 "code_point"
 (tn 74 "ESCAPES"
 .nil
 .nil)
 (tn 76 "both"
 .nil
 .nil))
 (tn 79 "ID_SIGNS"
 (tn 78 "strings"
 .nil
 .nil)
 (tn 80 "string"
 .nil
 .nil)))
 (tn 85 "pass_block"
 (tn 83 "BLANKS"
 (tn 82 "sorted_word"
 .nil
 .nil)
 (tn 84 "pass_row"
 .nil
 .nil))
 (tn 87 "run"
 (tn 86 "LONE_SIGNS"
 .nil
 .nil)
 .nil))))
 (tn 103 "inits"
 (tn 96 "about"
 (tn 92 "tokens"
 (tn 90 "opened"
 (tn 89 "whole"
 .nil
 .nil)
 (tn 91 "token"
 .nil
 .nil))
 (tn 94 "goal"
 (tn 93 "pop"
 .nil
 .nil)
 (tn 95 "place"
 .nil
 .nil)))
 (tn 100 "mode"
 (tn 98 "locals"
 (tn 97 "locals_now"
 .nil
 .nil)
 (tn 99 "mutable"
 .nil
 .nil))
 (tn 102 "offset"
 (tn 101 "table"
 .nil
 .nil)
 .nil)))
 (tn 110 "globals"
 (tn 107 "funcs"
 (tn 105 "kinds"
 (tn 104 "memory"
 .nil
 .nil)
 (tn 106 "imports"
 .nil
 .nil))
 (tn 109 "memories"
 (tn 108 "tables"
 .nil
 .nil)
 .nil))
 (tn 114 "datas"
 (tn 112 "start"
 (tn 111 "exports"
 .nil
 .nil)
 (tn 113 "elems"
 .nil
 .nil))
 (tn 116 "refuse"
 (tn 115 "customs"
 .nil
 .nil)
 .nil))))))
 (tn 176 "read_global"
 (tn 147 "limits_in"
 (tn 132 "space"
 (tn 125 "value_kind"
 (tn 121 "inner"
 (tn 119 "kind_of"
 (tn 118 "LeftOut"
 .nil
 .nil)
 (tn 120 "walk_of"
 .nil
 .nil))
 (tn 123 "rest"
 (tn 122 "take_id"
 .nil
 .nil)
 (tn 124 ".0"
 .nil
 .nil)))
 (tn 129 "results"
 (tn 127 "want_done"
 (tn 126 "ids"
 .nil
 .nil)
 (tn 128 "params"
 .nil
 .nil))
 (tn 131 "tuple"
 (tn 130 "kinds_in"
 .nil
 .nil)
 .nil)))
 (tn 140 "signature_in"
 (tn 136 "enumerate"
 (tn 134 "u32_of"
 (tn 133 "SPACES"
 .nil
 .nil)
 (tn 135 "SPACE_NAMES"
 .nil
 .nil))
 (tn 138 "walk"
 (tn 137 "other"
 .nil
 .nil)
 (tn 139 "told"
 .nil
 .nil)))
 (tn 144 "take_token"
 (tn 142 "str"
 (tn 141 "kind_index"
 .nil
 .nil)
 (tn 143 "text_of"
 .nil
 .nil))
 (tn 146 "most"
 (tn 145 "REF_KINDS"
 .nil
 .nil)
 .nil))))
 (tn 162 "read_field"
 (tn 155 "module"
 (tn 151 "branches"
 (tn 149 "behind_exports"
 (tn 148 "ref_kind_in"
 .nil
 .nil)
 (tn 150 "behind"
 .nil
 .nil))
 (tn 153 "constant_of"
 (tn 152 "body_of"
 .nil
 .nil)
 (tn 154 "Module"
 .nil
 .nil)))
 (tn 159 "late"
 (tn 157 "spaces"
 (tn 156 "Spaces"
 .nil
 .nil)
 (tn 158 "made"
 .nil
 .nil))
 (tn 161 "name_field"
 (tn 160 "defined"
 .nil
 .nil)
 .nil)))
 (tn 169 "name_parts"
 (tn 166 "bind"
 (tn 164 "name_import"
 (tn 163 "read_type"
 .nil
 .nil)
 (tn 165 "SORTS"
 .nil
 .nil))
 (tn 168 "want_none_ahead"
 (tn 167 "is_inline_import"
 .nil
 .nil)
 .nil))
 (tn 173 "read_func"
 (tn 171 "is_ref_word"
 (tn 170 "take_branch"
 .nil
 .nil)
 (tn 172 "read_import"
 .nil
 .nil))
 (tn 175 "read_memory"
 (tn 174 "read_table"
 .nil
 .nil)
 .nil)))))
 (tn 206 "elements"
 (tn 191 "Func"
 (tn 184 "put_import"
 (tn 180 "read_data"
 (tn 178 "read_start"
 (tn 177 "read_export"
 .nil
 .nil)
 (tn 179 "read_elem"
 .nil
 .nil))
 (tn 182 "text_in"
 (tn 181 "Import"
 .nil
 .nil)
 (tn 183 "next_of"
 .nil
 .nil)))
 (tn 188 "global_kind_in"
 (tn 186 "type_use"
 (tn 185 "import_kind"
 .nil
 .nil)
 (tn 187 "table_kind_in"
 .nil
 .nil))
 (tn 190 "params_many"
 (tn 189 "names"
 .nil
 .nil)
 .nil)))
 (tn 199 "pages"
 (tn 195 "END"
 (tn 193 "functions"
 (tn 192 "listed"
 .nil
 .nil)
 (tn 194 "I32_CONST"
 .nil
 .nil))
 (tn 197 "strings_in"
 (tn 196 "Elem"
 .nil
 .nil)
 (tn 198 "TEXT_PAGE"
 .nil
 .nil)))
 (tn 203 "take_word"
 (tn 201 "Global"
 (tn 200 "Data"
 .nil
 .nil)
 (tn 202 "REF_FUNC"
 .nil
 .nil))
 (tn 205 "is_short"
 (tn 204 "FUNCREF"
 .nil
 .nil)
 .nil))))
 (tn 221 "_law_body_of"
 (tn 214 "_law_worded"
 (tn 210 "utf"
 (tn 208 "was_told"
 (tn 207 "used"
 .nil
 .nil)
 (tn 209 "script"
 .nil
 .nil))
 (tn 212 "_law_plain"
 (tn 211 "none"
 .nil
 .nil)
 (tn 213 "_law_more"
 .nil
 .nil)))
 (tn 218 "ahead"
 (tn 216 "_law_right"
 (tn 215 "_law_rest"
 .nil
 .nil)
 (tn 217 "split"
 .nil
 .nil))
 (tn 220 "trees"
 (tn 219 "fault"
 .nil
 .nil)
 .nil)))
 (tn 228 "_law_digit"
 (tn 225 "func"
 (tn 223 "Fields"
 (tn 222 "_law_constant_of"
 .nil
 .nil)
 (tn 224 "read"
 .nil
 .nil))
 (tn 227 "rows"
 (tn 226 "_law_all"
 .nil
 .nil)
 .nil))
 (tn 232 "_law_place"
 (tn 230 "due"
 (tn 229 "k"
 .nil
 .nil)
 (tn 231 "digit"
 .nil
 .nil))
 (tn 234 "_law_told"
 (tn 233 "replace"
 .nil
 .nil)
 .nil)))))))
noncomputable def scL:List NN:= [[(124,0),(40,0),(125,4)],[(124,0),(40,0),(125,4)],[(124,0),(91,0),(202,4),(195,4),(2,2)],[(124,0),(16,0)],[(124,0),(132,0),(157,2)],[(124,0),(225,0)]]
noncomputable def glL:List Nat:= [9,11,55,56,65,74,79,83,86,133,135,145,165,194,195,198,202,204,221,222]
def gaT:Tree Nat:=(tn 147 845 (tn 73 133 (tn 46 214 (tn 29 140 (tn 19 108 (tl 4 38) (tl 24 58)) (tn 41 194 (tl 38 166) (tl 45 206))) (tn 53 319 (tn 49 214 (tl 47 77) (tl 51 206)) (tn 63 344 (tl 62 337) .nil))) (tn 119 119 (tn 116 733 (tn 88 446 (tl 82 351) (tl 92 457)) (tn 118 96 (tl 117 126) .nil)) (tn 134 471 (tn 125 740 (tl 120 330) (tl 130 747)) (tn 143 148 (tl 140 752) .nil)))) (tn 201 551 (tn 182 817 (tn 156 804 (tn 149 866 (tl 148 831) (tl 154 722)) (tn 171 838 (tl 167 873) (tl 181 495))) (tn 196 579 (tn 188 859 (tl 187 852) (tl 191 523)) (tn 200 607 (tl 197 824) .nil))) (tn 221 1119 (tn 215 1102 (tn 213 1088 (tl 212 1081) (tl 214 1095)) (tn 220 464 (tl 216 1109) .nil)) (tn 228 1074 (tn 223 1063 (tl 222 1126) (tl 226 1114)) (tn 234 1138 (tl 232 1133) .nil)))))
noncomputable def biL:NN:= [(0,26),(1,17),(2,32),(3,22),(4,13),(5,131),(6,142),(8,67),(9,136)]
noncomputable def Hx:NN:= [(194,184),(319,228),(446,365),(722,625),(804,766),(1063,887)]
noncomputable def OG:List Nat:= [1119,1126]
def nm1 (k:Nat):Str:=Option.rec "" (λs=> s) (look nmT k)
def fu (c:Nat):List Nat:=match look OW c with |some k=> k.fields |none=> []
noncomputable def Zi:Run:=λυ υ=> .stuck 200
def DG (o:Option Run):Run:=Option.rec Zi (λr=> r) o
def zz (t:Nat->Option Run):Sys:=⟨look globT,λf=> DG (t f),λa=> DG (lkp (OG.map λd=> (d,DG (t d))) a),λc m=> Bool.rec (BE c (fu c).length) (H9 c (DG (ob (lkp Hx c) t))) m,λc=> [c],[166,194]⟩
abbrev rN (f:Fn) (l:List (Nat × Run)):Run:=f.go false (zz (lkp l))
abbrev rI (f:Fn) (l:List (Nat × Run)):Run:=f.go true (zz (lkp l))
def PH (k:Nat):NN:=Option.rec [] (λl=> l) (nth scL k)
def sc1 (k:Nat):PySem.Scope:=⟨.function,(PH k).map λq=> (nm1 q.1,Bp q.2),false,false,[]⟩
def KY:Run:=rI KW []
def T2:Run:=rN UO []
def US:Run:=rN UN []
def Tr:Run:=rN Uc []
def T6:Run:=rN UA []
def UH:Run:=rN T7 []
def Ip:Run:=rI To [(1081,T2),(1088,US),(1095,Tr),(1102,T6),(1109,UH)]
def HD:Run:=rI Kg []
def OZ:Run:=rN XT []
def OH:Run:=rN Yk []
def CD:Run:=rN Wc []
def Hr:Run:=rN Xl []
def Gg:Run:=rN YI []
def Bl:Run:=rN Rp [(372,CD)]
def Td:Run:=rN Wm [(372,CD),(394,Bl)]
def r408:Run:=rN Xp [(379,Hr),(394,Bl)]
def FV:Run:=rI WN []
def SA:Run:=rN Xb [(337,FV)]
def H4:Run:=rI RH [(344,SA)]
def Ge:Run:=rI YH []
def Rf:Run:=rN YM [(133,Ge),(337,FV),(372,CD),(386,Gg),(394,Bl)]
def Gh:Run:=rN RG [(337,FV),(372,CD),(386,Gg),(394,Bl),(415,Rf)]
def Jb:Run:=rN RD [(133,Ge),(372,CD),(386,Gg),(394,Bl),(422,Gh)]
def Fl:Run:=rN Sw [(351,H4),(372,CD),(394,Bl),(429,Jb)]
def Hv:Run:=rN Rn [(372,CD),(379,Hr),(386,Gg),(394,Bl),(401,Td),(408,r408),(436,Fl)]
def PB:Run:=rI Oy [(365,OH),(443,Hv)]
def K2:Run:=rI OK [(184,OZ),(457,PB)]
def Yj:Run:=rN WQ []
def YD:Run:=rN XS []
def Jc:Run:=rN XI [(625,Yj),(766,YD)]
def Hd:Run:=rN YT []
def Fw:Run:=rN Y9 [(191,Hd)]
def MR:Run:=rN YY []
def I5:Run:=rN ZO []
def I3:Run:=rN WE [(235,I5)]
def MH:Run:=rN Wu [(214,MR),(242,I3)]
def HZ:Run:=rN Wg [(242,I3)]
def DB:Run:=rN Xy [(235,I5),(266,HZ)]
def Fm:Run:=rN XJ [(258,MH),(273,DB)]
def R5:Run:=rN W6 []
def C0:Run:=rN Wn [(228,R5)]
def MJ:Run:=rN X8 []
def Se:Run:=rN X5 [(206,Fw)]
def W5:Run:=rN ZI [(206,Fw),(866,Se)]
def F5:Run:=rN Yg [(258,MH),(266,HZ),(273,DB)]
def ED:Run:=rN Wo [(206,Fw),(242,I3)]
def GC:Run:=rN W7 [(250,ED),(266,HZ),(273,DB)]
def Rh:Run:=rN WM []
def XE:Run:=rN YZ [(191,Hd),(280,F5),(288,GC),(295,Fm),(330,C0),(773,MJ),(915,Rh)]
def N9:Run:=rN XU [(214,MR)]
def X2:Run:=rN WK [(206,Fw),(773,MJ),(838,N9)]
def DY:Run:=rN X3 [(235,I5),(266,HZ)]
def Jj:Run:=rN Xf []
def XO:Run:=rN Xk []
def YO:Run:=rN X4 []
def ZF:Run:=rN WY []
def PJ:Run:=rN XK [(119,XO),(126,YO),(733,ZF)]
def Sb:Run:=rN Yb [(273,DB),(295,Fm),(309,Jj),(316,DY),(330,C0),(740,PJ)]
def RO:Run:=rN ZG [(250,ED),(273,DB),(309,Jj),(330,C0),(740,PJ),(747,Sb)]
def Y4:Run:=rN Wz [(250,ED),(266,HZ),(288,GC),(295,Fm),(316,DY),(330,C0),(752,RO),(773,MJ)]
def ZC:Run:=rN YG [(191,Hd),(295,Fm),(330,C0),(773,MJ),(866,Se),(873,W5),(908,XE),(915,Rh),(922,X2),(929,Y4)]
def X7:Run:=rN YQ []
def Yx:Run:=rN Xd [(140,X7)]
def O6:Run:=rN Wb [(148,Yx)]
def JB:Run:=rN YL []
def Tf:Run:=rN Wh [(214,MR)]
def JA:Run:=rN Wr [(214,MR),(471,Tf)]
def Yo:Run:=rN YX []
def TB:Run:=rN Xu [(228,R5),(250,ED),(273,DB),(316,DY),(330,C0),(752,RO),(780,JA),(787,Yo)]
def Ou:Run:=rN Xx [(258,MH),(273,DB),(280,F5),(471,Tf)]
def O8:Run:=rN X9 [(280,F5)]
def Ri:Run:=rN YC [(831,O8),(845,Ou)]
def Ro:Run:=rN Ww [(250,ED),(273,DB),(316,DY),(330,C0),(740,PJ)]
def Jl:Run:=rN WS [(316,DY),(794,TB),(845,Ou),(852,Ri),(859,Ro)]
def Tg:Run:=rN Xm []
def ZN:Run:=rN Wt [(191,Hd),(280,F5),(288,GC),(295,Fm),(316,DY),(330,C0),(817,O6),(943,JB),(957,Jl),(964,Tg)]
def WG:Run:=rN XH []
def L7:Run:=rN YN [(250,ED),(273,DB),(280,F5),(295,Fm),(316,DY),(330,C0),(817,O6),(964,Tg)]
def Il:Run:=rN UC []
def ID:Run:=rN Tv []
def Yy:Run:=rN ZP [(250,ED),(273,DB),(309,Jj),(747,Sb),(794,TB),(801,WG),(943,JB),(957,Jl),(971,L7),(1119,Il),(1126,ID)]
def PI:Run:=rN UG [(309,Jj),(780,JA)]
def O4:Run:=rN UZ [(206,Fw),(235,I5),(288,GC),(1119,Il),(1126,ID)]
def YV:Run:=rN WT [(206,Fw),(242,I3),(288,GC),(316,DY),(330,C0),(831,O8),(838,N9),(852,Ri),(943,JB),(957,Jl),(971,L7),(1018,PI),(1025,O4)]
def S5:Run:=rN XD [(235,I5),(280,F5)]
def Yc:Run:=rN ZR [(250,ED),(273,DB),(316,DY),(330,C0),(824,S5),(845,Ou),(943,JB),(957,Jl),(971,L7)]
def W2:Run:=rN Xg [(309,Jj),(859,Ro),(943,JB),(957,Jl),(971,L7),(1119,Il),(1126,ID)]
def Tx:Run:=rN UK [(191,Hd),(273,DB),(280,F5),(288,GC),(316,DY),(330,C0),(780,JA),(817,O6)]
def UL:Run:=rN Ub [(273,DB),(316,DY),(780,JA)]
def Ta:Run:=rN Ym [(258,MH)]
def Nz:Run:=rN UR [(250,ED),(273,DB),(316,DY),(330,C0),(780,JA)]
def Nk:Run:=rN UY [(206,Fw),(288,GC),(1119,Il),(1126,ID)]
def UP:Run:=rN Tu [(242,I3),(266,HZ),(302,Ta),(831,O8),(838,N9),(1018,PI),(1025,O4)]
def UE:Run:=rN T8 [(250,ED),(295,Fm),(302,Ta),(1032,Nz),(1039,Nk),(1046,UP)]
def UW:Run:=rN Tp [(250,ED),(295,Fm),(824,S5),(1032,Nz),(1039,Nk)]
def Xz:Run:=rN Yq [(191,Hd),(330,C0),(950,ZN),(978,Yy),(985,YV),(992,Yc),(999,W2),(1006,Tx),(1013,UL),(1053,UE),(1060,UW)]
def JV:Run:=rN Yn [(206,Fw),(901,ZC),(936,Xz)]
def FJ:Run:=rI HE [(464,K2),(887,Jc),(894,JV)]
def aF:Run:=rN Fq [(1074,KY),(1114,Ip),(1133,HD),(1138,FJ)]
noncomputable def I7:List Nat:= [1074,1114,1133,337,351,133,457,464,1138]
def GL:Tree Run:=(tn 787 Yo (tn 344 SA (tn 250 ED (tn 191 Hd (tn 140 X7 (tn 126 YO (tl 119 XO) (tl 133 Ge)) (tn 184 OZ (tl 148 Yx) .nil)) (tn 228 R5 (tn 214 MR (tl 206 Fw) .nil) (tn 242 I3 (tl 235 I5) .nil))) (tn 295 Fm (tn 273 DB (tn 266 HZ (tl 258 MH) .nil) (tn 288 GC (tl 280 F5) .nil)) (tn 316 DY (tn 309 Jj (tl 302 Ta) .nil) (tn 337 FV (tl 330 C0) .nil)))) (tn 443 Hv (tn 401 Td (tn 379 Hr (tn 365 OH (tl 351 H4) (tl 372 CD)) (tn 394 Bl (tl 386 Gg) .nil)) (tn 422 Gh (tn 415 Rf (tl 408 r408) .nil) (tn 436 Fl (tl 429 Jb) .nil))) (tn 740 PJ (tn 471 Tf (tn 464 K2 (tl 457 PB) .nil) (tn 733 ZF (tl 625 Yj) .nil)) (tn 766 YD (tn 752 RO (tl 747 Sb) .nil) (tn 780 JA (tl 773 MJ) .nil))))) (tn 978 Yy (tn 894 JV (tn 845 Ou (tn 824 S5 (tn 801 WG (tl 794 TB) (tl 817 O6)) (tn 838 N9 (tl 831 O8) .nil)) (tn 866 Se (tn 859 Ro (tl 852 Ri) .nil) (tn 887 Jc (tl 873 W5) .nil))) (tn 936 Xz (tn 915 Rh (tn 908 XE (tl 901 ZC) .nil) (tn 929 Y4 (tl 922 X2) .nil)) (tn 957 Jl (tn 950 ZN (tl 943 JB) .nil) (tn 971 L7 (tl 964 Tg) .nil)))) (tn 1074 KY (tn 1025 O4 (tn 1006 Tx (tn 992 Yc (tl 985 YV) (tl 999 W2)) (tn 1018 PI (tl 1013 UL) .nil)) (tn 1046 UP (tn 1039 Nk (tl 1032 Nz) .nil) (tn 1060 UW (tl 1053 UE) .nil))) (tn 1114 Ip (tn 1095 Tr (tn 1088 US (tl 1081 T2) .nil) (tn 1109 UH (tl 1102 T6) .nil)) (tn 1133 HD (tn 1126 ID (tl 1119 Il) .nil) (tn 1145 aF (tl 1138 FJ) .nil))))))
def T1 (P:Params):Tb:=⟨nm1,sc1,look OW,zz (look GL),P,nth glL,look gaT,lkp biL,39,235,λc=> Nat.beq c 77⟩
def G1:Gd:=⟨[(194,191,42),(319,235,43),(319,242,44),(319,266,48),(319,258,49),(319,273,50),(319,250,51),(446,372,44),(446,394,70),(446,379,72),(446,386,48),(446,415,75),(446,422,77),(446,429,80),(446,401,84),(446,408,85),(446,436,87),(446,443,89),(319,295,122),(319,309,123),(319,316,127),(804,780,59),(804,787,141),(319,280,144),(1063,901,161),(1063,936,162),(1063,929,163),(1063,908,164),(804,773,166),(1063,915,168),(1063,922,169),(319,288,170),(1063,950,172),(1063,978,173),(1063,985,174),(1063,992,175),(1063,999,176),(1063,1006,177),(1063,1013,178),(1063,1053,179),(1063,1060,180),(1063,964,183),(1063,943,184),(1063,957,185),(804,794,186),(1063,971,90),(804,801,190),(1063,1025,192),(1063,1018,193),(319,302,203),(1063,1046,206),(1063,1032,207),(1063,1039,102),(1063,894,224)],[166,495,523,551,579,607],Hx,[(38,1),(58,2),(77,2),(96,2),(108,1)],[(58,24),(77,47)],[166,194],OG,PH,[(20,0),(21,1),(93,2),(59,4),(60,5),(33,6),(217,7)],233,12⟩
def L1:List (Nat × Fn):= [(1074,bD),(1081,av),(1088,Zw),(1095,Z1),(1102,ZZ),(1109,ax),(1114,bN),(1133,Z9),(184,ek),(365,cB),(372,cO),(379,fq),(386,fH),(394,bg),(401,fc),(408,c8),(337,cJ),(344,cU),(351,fI),(133,fX),(415,bw),(422,gT),(429,dM),(436,ey),(443,dZ),(457,fe),(464,d5),(625,bz),(766,fR),(887,bx),(191,d7),(206,ef),(214,ee),(235,cC),(242,gP),(258,fZ),(266,cM),(273,cG),(295,fx),(228,dR),(330,gj),(773,gE),(866,gK),(873,bf),(280,fh),(250,gU),(288,ba),(915,dF),(908,fC),(838,fg),(922,gC),(316,gB),(309,cH),(119,cy),(126,eu),(733,bt),(740,gS),(747,d9),(752,fM),(929,fj),(901,d4),(140,dH),(148,dT),(817,fQ),(943,dB),(471,f7),(780,cX),(787,ew),(794,fP),(845,dw),(831,df),(852,gI),(859,dh),(957,cZ),(964,bq),(950,cw),(801,dP),(971,cL),(1119,Ze),(1126,bV),(978,ed),(1018,bK),(1025,ay),(985,f9),(824,gO),(992,gM),(999,bo),(1006,aO),(1013,aX),(302,fY),(1032,Za),(1039,Zv),(1046,bT),(1053,au),(1060,bE),(936,cK),(894,fT),(1138,Zp),(1145,Cq)]
end
section
open PySem PySem.W PySem.Calls PyProof.Rows PySem.SeqAt
def KK (P:Params):Frag:=(List.range 1146).map λa=> (a,((I1 P).get a).getD default)
def EZ:List (Nat × Fn):= [(35,f35),(55,f55),(74,f74),(93,f93),(163,YE),(485,Xj),(513,XG),(541,Wk),(569,WR),(597,Wv)]
def R0:List (Nat × Nat × Fn):= [(166,163,YE),(495,485,Xj),(523,513,XG),(551,541,Wk),(579,569,WR),(607,597,Wv)]
section
variable (P:Params)
theorem Zj:L1.all (fnB (KK P) (T1 P))=true:=by kernel_rfl
theorem ZY:(L1.map λp=> ofFd (KK P) (.stmts []) (·.body) p.1)=L1.map λp=> FuncBody.stmts (B6 (T1 P) p.2.body):=by kernel_rfl
theorem aa:(L1.map λp=> ofFd (KK P) [] (·.scope.names) p.1)=L1.map λp=> D6 (T1 P) p.2.ks:=by kernel_rfl
theorem Z6:(L1.map λp=> ofFd (KK P) [] (λfd=> fd.params.args.map (·.arg)) p.1)=L1.map λp=> (p.2.ns.take p.2.np).map (T1 P).nm:=by kernel_rfl
theorem aJ:EZ.all (fnB (KK P) (T1 P))=true:=by kernel_rfl
theorem af:(EZ.map λp=> ofFd (KK P) (.stmts []) (·.body) p.1)=EZ.map λp=> FuncBody.stmts (B6 (T1 P) p.2.body):=by kernel_rfl
theorem Z0:(EZ.map λp=> ofFd (KK P) [] (·.scope.names) p.1)=EZ.map λp=> D6 (T1 P) p.2.ks:=by kernel_rfl
theorem aP:(EZ.map λp=> ofFd (KK P) [] (λfd=> fd.params.args.map (·.arg)) p.1)=EZ.map λp=> (p.2.ns.take p.2.np).map (T1 P).nm:=by kernel_rfl
theorem Xn:Li (T1 P)=true:=by kernel_rfl
theorem aL:(CA globT).all (KO (KK P) (T1 P))=true:=by kernel_rfl
theorem Zl:(CA globT).map (KZ (KK P) (T1 P))=(CA globT).map λq=> hashesW P q.2:=by kernel_rfl
theorem f5:(CA gaT).all (UU (KK P) (T1 P))=true:=by kernel_rfl
theorem eR:biL.all (W4 (KK P) (T1 P))=true:=by kernel_rfl
theorem gN:(Nat.blt (T1 P).ii (T1 P).cnt && (T1 P).nm (T1 P).ii== "isinstance" && nsIn (KK P) mainGlobals "isinstance" ==some none)=true:=by kernel_rfl
theorem aj:(CA OW).all (λq=> SX (KK P) (T1 P) q.1 q.2)=true:=by kernel_rfl
theorem XY:G1.meths.all (M4 (KK P) (T1 P))=true:=by kernel_rfl
theorem Z2:Hx.all (λq=> JS (KK P) q.1 q.2)=true:=by kernel_rfl
theorem bB:R0.all (λq=> Yh (KK P) (T1 P) q.1 q.2.1 q.2.2)=true:=by kernel_rfl
theorem bL: [(38,35),(58,55),(77,74),(96,93),(108,35)].all (λq=> Xs (KK P) q.1 q.2)=true:=by kernel_rfl
theorem bU: [166,194].all (Ye (KK P) [166,194])=true:=by kernel_rfl
theorem WZ:(nsIn (KK P) mainGlobals ((T1 P).nm 0)==some none && (T1 P).nm 0== "Exception")=true:=by kernel_rfl
theorem Wi:(nsIn (KK P) mainGlobals ((T1 P).nm 4)==some (some (.ref 38)) && specialIn (KK P) (.ref 38) "__getattribute__" ==some (some (.builtin "type.__getattribute__")) && readsIn (KK P) 38 (.type "type"))=true:=by kernel_rfl
theorem Xo:findCls (KK P) (.type "Exception") (.type "type") "__init__" =some (.val (.builtin "Exception.__init__")):=by kernel_rfl
theorem Xh:findCls (KK P) (.ref 38) (.type "type") "__init__" =some (.val (.ref 35)):=by kernel_rfl
theorem c9:ZH (T1 P) G1 L1 []=true:=by kernel_rfl
theorem bM:(nsIn (KK P) mainGlobals ((T1 P).nm 24)==some (some (.ref 58)) && nsIn (KK P) mainGlobals ((T1 P).nm 47)==some (some (.ref 77)))=true:=by kernel_rfl
theorem Zd:scL.all (λl=> l.all λq=> Nat.blt q.1 235)=true:=by kernel_rfl
end
abbrev BB (hb:Heap) (prog:Program) (w:World):Base:=⟨T1 w.params,KK w.params,hb,prog,w⟩
section
variable {hb:Heap} {prog:Program} {w:World}
theorem names1:CV (BB hb prog w).T:=KD (Xn _)
theorem S7:KP (BB hb prog w) L1:=⟨Zj _,ZY _,aa _,Z6 _⟩
theorem ag:KP (BB hb prog w) EZ:=⟨aJ _,af _,Z0 _,aP _⟩
theorem Tj (X:(KK w.params).In hb) (H:Behind hb):(BB hb prog w).Ok:=
 Uw (B:=BB hb prog w) (gt:=globT) (ga:=gaT) (bi:=biL) (ct:=OW) X H rfl (Xn w.params) (λυ=> rfl) (aL w.params) (Zl w.params) (λυ=> rfl) (f5 w.params) (λυ=> rfl) (eR w.params) (gN w.params) (λυ=> rfl) (aj w.params)
theorem JH {a:Nat} {f:Fn} (m:(a,f) ∈ EZ):FnAt (BB hb prog w) a f:=ag.at names1 m
theorem HW {c f:Nat} (m:(c,f) ∈ [(38,35),(58,55),(77,74),(96,93),(108,35)]):E5 (BB hb prog w) c f:=by
 have h:=List.all_eq_true.mp (bL w.params) _ m;exact VG (B:=BB hb prog w) h
theorem IK (BO:(BB hb prog w).Ok):Du (BB hb prog w) (.ref 35) 1 [3] 1:=
 Fb (pn:=0) (as0:= []) (as1:= [3]) BO (JH (f:=f35) (.head _)) ⟨rfl,rfl,by decide,rfl,⟨0,0,0,1,_,_,_,_,_,_,2,3,_,rfl,rfl,rfl,rfl,rfl,FH rfl⟩⟩ (Zm (WZ w.params) (Xo w.params)) (Q4 BO) (by decide) (by decide) rfl
theorem TA:Fc (BB hb prog w) 4 (.ref 38) (.ref 35):=aE (JH (f:=f35) (.head _)) (Wi w.params) (Xh w.params)
theorem bY (BO:(BB hb prog w).Ok):Du (BB hb prog w) (.ref 55) 2 [3,5] 2:=
 Fb (pn:=4) (as0:= [3]) (as1:= [5]) BO (JH (f:=f55) (.tail _ (.head _))) ⟨rfl,rfl,by decide,rfl,⟨0,0,0,1,_,_,_,_,_,_,2,3,_,rfl,rfl,rfl,rfl,rfl,FH rfl⟩⟩ TA (IK BO) (by decide) (by decide) rfl
theorem bQ (BO:(BB hb prog w).Ok):Du (BB hb prog w) (.ref 74) 3 [3,6,7] 2:=
 Fb (pn:=4) (as0:= [3]) (as1:= [6,7]) BO (JH (f:=f74) (.tail _ (.tail _ (.head _)))) ⟨rfl,rfl,by decide,rfl,⟨0,0,0,1,_,_,_,_,_,_,2,3,_,rfl,rfl,rfl,rfl,rfl,FH rfl⟩⟩ TA (IK BO) (by decide) (by decide) rfl
theorem bA (BO:(BB hb prog w).Ok):Du (BB hb prog w) (.ref 93) 2 [3,5] 2:=
 Fb (pn:=4) (as0:= [3]) (as1:= [5]) BO (JH (f:=f93) (.tail _ (.tail _ (.tail _ (.head _))))) ⟨rfl,rfl,by decide,rfl,⟨0,0,0,1,_,_,_,_,_,_,2,3,_,rfl,rfl,rfl,rfl,rfl,FH rfl⟩⟩ TA (IK BO) (by decide) (by decide) rfl
theorem WW (BO:(BB hb prog w).Ok) (q:Nat × Nat) (hq:q ∈ G1.excs):Ed (BB hb prog w) q.1 q.2/\q.2 <= 5/\(BB hb prog w).T.Z.new q.1 false=BE q.1 (AH (BB hb prog w).T q.1).length:=by
 refine ⟨?_, ?_,rfl⟩
 ·rcases mCo hq with rfl |hq
  ·exact ⟨35,⟨2,[3]⟩,HW (by decide),rfl,(BO.cls 38 ⟨2,[3]⟩ rfl).sa,IK BO,by decide⟩
  rcases mCo hq with rfl |hq
  ·exact ⟨55,⟨2,[3,5]⟩,HW (by decide),rfl,(BO.cls 58 ⟨2,[3,5]⟩ rfl).sa,bY BO,by decide⟩
  rcases mCo hq with rfl |hq
  ·exact ⟨74,⟨2,[3,6,7]⟩,HW (by decide),rfl,(BO.cls 77 ⟨2,[3,6,7]⟩ rfl).sa,bQ BO,by decide⟩
  rcases mCo hq with rfl |hq
  ·exact ⟨93,⟨2,[3,5]⟩,HW (by decide),rfl,(BO.cls 96 ⟨2,[3,5]⟩ rfl).sa,bA BO,by decide⟩
  cases mSg hq;exact ⟨35,⟨2,[3]⟩,HW (by decide),rfl,(BO.cls 108 ⟨2,[3]⟩ rfl).sa,IK BO,by decide⟩
 ·have:G1.excs.all (λq=> Nat.ble q.2 5)=true:=by kernel_rfl
  exact A4 (List.all_eq_true.mp this q hq)
theorem gd1 (BO:(BB hb prog w).Ok):G1.At (BB hb prog w) where
 meth:=λq hq=> by have h:=List.all_eq_true.mp (XY w.params) q hq;exact S2 (B:=BB hb prog w) h
 obj:=λc hc=> by
  refine ⟨?_,rfl⟩;have e:G1.objs=R0.map (·.1):=by kernel_rfl
  rw [e] at hc;obtain ⟨q,hq,rfl⟩:=List.mem_map.mp hc;have h:=List.all_eq_true.mp (bB w.params) q hq;have e2:R0.map (λq=> (q.2.1,q.2.2))=EZ.drop 4:=by kernel_rfl
  have m:(q.2.1,q.2.2) ∈ EZ:=List.mem_of_mem_drop (e2▸List.mem_map.mpr ⟨q,hq,rfl⟩);exact VR (B:=BB hb prog w) (JH m) h
 new:=λq hq=> by
  have h:=List.all_eq_true.mp (Z2 w.params) q hq;refine ⟨IL (B:=BB hb prog w) h, ?_⟩;have e:Hx.map (λq=> lkp Hx q.1)=Hx.map λq=> some q.2:=by kernel_rfl
  have e:=Ei e hq;show H9 q.1 (DG (ob (lkp Hx q.1) (look GL)))=_;rw [e];rfl
 exc:=WW BO
 cat:=λq hq=> by
  obtain ⟨k1,k2⟩:=AF (bM w.params);rcases mCo hq with rfl |hq
  ·exact ⟨⟨⟨55,HW (by decide)⟩,AW k1,rfl⟩,λk e=> by cases (show some (⟨2,[3,5]⟩:Cls)=some k from e);rfl⟩
  ·cases mSg hq;exact ⟨⟨⟨74,HW (by decide)⟩,AW k2,rfl⟩,λk e=> by cases (show some (⟨2,[3,6,7]⟩:Cls)=some k from e);rfl⟩
 isi:=λk hk=> by
  have h:=List.all_eq_true.mp (bU w.params) k hk;exact VA (B:=BB hb prog w) rfl h
 dyn:=λa=> by
  have e:(BB hb prog w).T.Z.dyn a=DG (lkp (OG.map λd=> (d,DG (look GL d))) a):=rfl;cases h:lkp (OG.map λd=> (d,DG (look GL d))) a with
  |none=> exact .inr λws σ=> ⟨200,by rw [e,h];rfl⟩
  |some r=>
   obtain ⟨d,hd,z⟩:=List.mem_map.mp (AY h);cases z;exact .inl ⟨hd,by rw [e,h];rfl⟩
 sc:=λn=> ⟨rfl,rfl,λq hq=> by
  have hq:q ∈ PH n:=hq;unfold PH at hq;cases e:nth scL n with
  |none=> rw [e] at hq;exact absurd hq List.not_mem_nil
  |some l=>
   rw [e] at hq;rw [AL] at e;exact A4 (List.all_eq_true.mp (List.all_eq_true.mp Zd l (List.mem_of_getElem? e)) q hq)⟩
 bm:=λq hq=> by
  have:G1.bms.all (λq=> Ai [0,1,2,4,5,6,7] q.2 && nm1 q.1==bmN q.2)=true:=by kernel_rfl
  obtain ⟨a,b⟩:=AF (List.all_eq_true.mp this q hq);exact ⟨a,AW b⟩
 rep:=by kernel_rfl
 vals:=by kernel_rfl
theorem Z8 (X:(KK w.params).In hb) (H:Behind hb) {a:Nat} {f:Fn} (m:(a,f) ∈ L1):CE (BB hb prog w) a (f.go (Ai I7 a) (T1 w.params).Z) 203:=by
 have BO:=Tj (prog:=prog) X H;have runs:L1.map (λp=> DG (look GL p.1))=L1.map λp=> p.2.go (Ai I7 p.1) (T1 w.params).Z:=by kernel_rfl
 have:=YU BO (gd1 BO) (Ai I7) (L:=L1) (kn:= []) (rk:=5) (Nat.le_refl _) (λp hp=> ⟨S7.at names1 hp,Ei runs hp⟩) (c9 w.params) (λf hf=> absurd hf List.not_mem_nil) (a,f) m;exact this
end
end
section
open PySem PySem.W PySem.Spec PySem.Calls PyProof.Rows PySem.SeqAt
section
theorem W0 (P:Params):(List.range 1146).all (λa=> (((I1 P).get a).bind alive).isSome)=true:=by kernel_rfl
theorem mem_lookup {α:Type} {f:Nat->α} {l:List Nat} {a:Nat} {o:α} (h:(l.map λa=> (a,f a)).lookup a=some o):a ∈ l/\o=f a:=by
 induction l with
 |nil=> exact nn h
 |cons b r ih=>
  rw [List.map_cons,List.lookup_cons] at h;by_cases q:a=b
  ·subst q;rw [beq_self_eq_true] at h;exact ⟨.head _,(sIj h).symm⟩
  ·rw [beq_eq_false_iff_ne.mpr q] at h;obtain ⟨h1,h2⟩:=ih h;exact ⟨.tail _ h1,h2⟩
theorem Tw (P:Params):(KK P).In (H1 P):=λa o e=> by
 obtain ⟨h1,h2⟩:=mem_lookup (f:=λa=> ((I1 P).get a).getD default) e;have lt:=List.mem_range.mp h1;have al:=List.all_eq_true.mp (W0 P) a h1;generalize g:(I1 P).get a=x9;induction x9 using oC with
 |none=> rw [g] at al;exact ff al
 |some y=>
  rw [g] at al h2;have:(H1 P).get? a=alive y:=abs_get lt g;rw [this,h2];obtain ⟨c,d,dt,sl⟩:=y;cases dt <;> first |rfl |exact ff al
theorem d8 (P:Params):((H1 P).isNs builtinsNs && (H1 P).isNs cStatics)=true:=by kernel_rfl
theorem ae (P:Params):(H1 P).bltView=bltViewBooted:=by kernel_rfl
theorem aV (P:Params):(H1 P).nsMap cStatics "sys.recursionlimit" =none:=by kernel_rfl
theorem Z3 (P:Params):((KK P).lookup sysModules).isSome=true:=by kernel_rfl
theorem NG (P:Params):Behind (H1 P):=by
 obtain ⟨a,b⟩:=AF (d8 P);refine ⟨⟨_,.of_isNs a,Heap.of_bltView a (ae P)⟩,⟨_,.of_isNs b,aV P⟩, ?_⟩;obtain ⟨o,ho⟩:=Option.isSome_iff_exists.mp (Z3 P);exact ⟨o,Tw P _ _ ho⟩
noncomputable def kn1:List Nat:=(L1.map (·.1)).filter λa=> !(Nat.beq a 1145)
theorem Zk (P:Params):okB (T1 P) G1 kn1 Cq.body ⟨Cq.ns.map some,Cq.ks,Cq.ns⟩=true:=by kernel_rfl
section
variable {prog:Program} {w:World}
theorem Vk {s:Shared} {v:Value} {ws:W} {wr:W} {σr:List O} {Q:VP} {E:VP} (kb:Keeps (H1 w.params) s.heap) (r:Rel (T1 w.params) (λa o=> s.heap.get? a=some o) mu0 ws v) (run:Cq.run (T1 w.params).Z [ws] []= .ok wr σr)
  (q:∀u s',Keeps s.heap s'.heap->s'.gens=s.gens->s'.os=s.os->(∃F μ,Rel (T1 w.params) F μ wr u)->Q u s'):codeB (model prog w) callerA (.call (.ref 1145) ⟨[v],[]⟩) (Ic Q E) s:=by
 have X:=Tw w.params;have BO:=Tj (prog:=prog) X (NG w.params);have m:(1145,Cq) ∈ L1:=by
  have:L1.getLast? =some (1145,Cq):=by kernel_rfl
  exact List.mem_of_getLast? this
 have H:FnAt (BB (H1 w.params) prog w) 1145 Cq:=S7.at names1 m;have h0:Cq.ks.all (λq=> !(Nat.beq q.2 1))=true:=by kernel_rfl
 have runs:L1.map (λp=> DG (look GL p.1))=L1.map λp=> p.2.go (Ai I7 p.1) (T1 w.params).Z:=by kernel_rfl
 have GO:G1.Ok (BB (H1 w.params) prog w) kn1 203:=⟨gd1 BO,by decide,λf hf=> by
  obtain ⟨p,hp,rfl⟩:=List.mem_map.mp (List.mem_filter.mp hf).1;refine ⟨⟨_,S7.at names1 hp⟩, ?_⟩;have e:DG (look GL p.1)=p.2.go (Ai I7 p.1) (T1 w.params).Z:=Ei runs hp;have:(BB (H1 w.params) prog w).T.Z.fn p.1=p.2.go (Ai I7 p.1) (T1 w.params).Z:=e;rw [this];exact Z8 X (NG w.params) hp⟩
 exact call_top (rk:=204) BO H rfl rfl (λq hq=> Nat.ne_of_beq_eq_false (Bv (List.all_eq_true.mp h0 q hq))) (by decide) (YJ BO GO (Zk w.params)) kb r run q
end
end
noncomputable abbrev RW1:OpenLaw:=PySem.Challenge.rw_nm0175_01
theorem c6:(chainsOk qq && opensWell PW && (frees RW1.row.toRowW && RW1.row.within.isEmpty))=true:=by kernel_rfl
theorem bS:PW.bare:=⟨rfl,rfl,rfl,rfl,rfl,by decide +kernel⟩
theorem d1:defOf qq RW1.row.name=some (dL.1,dL.2):=by kernel_rfl
theorem d2:PW.theDef RW1.row.name=some (dL.1.params,dL.1.body,dL.1.scope):=by kernel_rfl
theorem d3:kwWritten? dL.1.params.kwonlyargs dL.1.params.kw_defaults=some dL.2:=by kernel_rfl
end
section
noncomputable def LX (t:List Nat) (k:Nat) (r c:Int) (F:List W) (J:List O):List O:= .inst 446 [.str t,.int (.ofNat k),.int r,.int c,.ref 1]:: .list F::J
section
variable {t:List Nat} {k:Nat} {r c:Int} {F:List W} {J:List O}
theorem Tt:CD [.ref 0] (LX t k r c F J)= .ok (.str (Bq t k (some (k + 1)))) (LX t k r c F J):=rfl
theorem dW {ch:Nat} {s:List Nat} (h:t.drop k=ch::s):Bq t k (some (k + 1))= [ch]:=by
 show cut (k + 1 - k) (drop' k t)= [ch];rw [BA,h,Cn,Nat.add_sub_cancel_left];rfl
theorem aQ (h:t.drop k= []):Bq t k (some (k + 1))= []:=by
 show cut (k + 1 - k) (drop' k t)= [];rw [BA,h,Cn];simp
theorem here {ch:Nat} {s:List Nat} (h:t.drop k=ch::s):CD [.ref 0] (LX t k r c F J)= .ok (.str [ch]) (LX t k r c F J):=Tt.trans (by rw [dW h])
theorem Zs (h:t.drop k= []):CD [.ref 0] (LX t k r c F J)= .ok (.str []) (LX t k r c F J):=Tt.trans (by rw [aQ h])
end
def sAt (l:List S) (i:Nat):S:=(nth l i).getD (.pass 0)
noncomputable def wT (s:S):E:=match s with | .ret (some e) _=> e | .while t _ _=> t | .ite t _ _ _=> t | .asg _ e _=> e | .asgT _ e _ _=> e | .expr e _=> e |_=> .lit .none 0
noncomputable def wA (s:S):List S:=match s with | .while _ b _=> b | .ite _ a _ _=> a | .for _ _ _ _ _ b _ _ _ _=> b |_=> []
noncomputable def wB (s:S):List S:=match s with | .ite _ _ b _=> b |_=> []
abbrev JE (Z:Sys) (t:ST) (s:S):SS:=EX t (sem Z (wT s))
abbrev Dg (Z:Sys) (s:S):SS:=Ex (sem Z (wT s)) (block (Ay Z (wA s))) (block (Ay Z (wB s)))
abbrev DK (Z:Sys) (s:S):SS:=Fu (sem Z (wT s))
section
variable {l l':LL} {σ σ':List O} {s:SS} {r:RS} {w:W} {ss:List SS} {e:SE} {t:SE} {a b:SS}
theorem blk (h:s l σ= .next l' σ') (q:block ss l' σ' =r):block (s::ss) l σ=r:=by
 show (s l σ).then (block ss)=r
 rw [h];exact q
theorem Bx (h:s l σ=r):block [s] l σ=r:=by
 show (s l σ).then (λl σ=> .next l σ)=r
 rw [h];cases r <;> rfl
theorem Nn (h:s l σ= .ret w σ'):block (s::ss) l σ= .ret w σ':=by
 show (s l σ).then (block ss)=_
 rw [h];rfl
theorem asg {t:ST} (h:e l σ= .ok w σ') (q:t w l σ' =r):EX t e l σ=r:=by
 show (e l σ).toS l _=r;rw [h];exact q
theorem xpr (h:e l σ= .ok w σ'):Fu e l σ= .next l σ':=by
 show (e l σ).toS l _=_;rw [h];rfl
theorem itT (h:t l σ= .ok (.bool true) σ') (q:a l σ' =r):Ex t a b l σ=r:=by
 show (t l σ).toS l _=r;rw [h];exact q
theorem itF (h:t l σ= .ok (.bool false) σ') (q:b l σ' =r):Ex t a b l σ=r:=by
 show (t l σ).toS l _=r;rw [h];exact q
theorem whT {n:Nat} (h:t l σ= .ok (.bool true) σ') {l2:LL} {σ2:List O} (h2:a l σ' = .next l2 σ2) (q:B5 t a n l2 σ2=r):B5 t a (n + 1) l σ=r:=by
 show (t l σ).toS l _=r;rw [h];show (a l σ').then _=r
 rw [h2];exact q
theorem whF {n:Nat} (h:t l σ= .ok (.bool false) σ'):B5 t a (n + 1) l σ= .next l σ':=by
 show (t l σ).toS l _=_;rw [h];rfl
theorem orT {es:List SE} (h:e l σ= .ok (.bool true) σ'):Aa false (e::es) l σ= .ok (.bool true) σ':=by
 induction es using lC with
 |nil=> exact h
 |cons=> show (e l σ).bind _=_;rw [h];rfl
theorem orF {es:List SE} {e2:SE} {q:R W} (h:e l σ= .ok (.bool false) σ') (g:Aa false (e2::es) l σ' =q):Aa false (e::e2::es) l σ=q:=by
 show (e l σ).bind _=_;rw [h];exact g
theorem or1 {q:R W} (h:e l σ=q):Aa false [e] l σ=q:=h
theorem an1 {q:R W} (h:e l σ=q):Aa true [e] l σ=q:=h
theorem anF {es:List SE} (h:e l σ= .ok (.bool false) σ'):Aa true (e::es) l σ= .ok (.bool false) σ':=by
 induction es using lC with
 |nil=> exact h
 |cons=> show (e l σ).bind _=_;rw [h];rfl
theorem anT {es:List SE} {e2:SE} {q:R W} (h:e l σ= .ok (.bool true) σ') (g:Aa true (e2::es) l σ' =q):Aa true (e::e2::es) l σ=q:=by
 show (e l σ).bind _=_;rw [h];exact g
theorem kb {o:Option Bool} {v:Bool} (h:o=some v):BW o σ= .ok (.bool v) σ:=by rw [h];rfl
theorem CH {x y:SE} {o:Cop} {w2:W} {σ2:List O} {v:Bool} (h:x l σ= .ok w σ') (h2:y l σ' = .ok w2 σ2) (q:C5 o w w2=some v):B7 x o y l σ= .ok (.bool v) σ2:=by
 show (x l σ).bind _=_;rw [h];show (y l σ').bind _=_;rw [h2];exact kb q
theorem I9 {x y:SE} {n:Bool} {w2:W} {σ2:List O} {v:Bool} (h:x l σ= .ok w σ') (h2:y l σ' = .ok w2 σ2) (q:EY σ2 w w2=some v):E1 x y n l σ= .ok (.bool (v !=n)) σ2:=by
 show (x l σ).bind _=_;rw [h];show (y l σ').bind _=_;rw [h2];exact kb (by rw [q];rfl)
theorem N6 {e2:SE} {w2:W} {σ2:List O} (h:e l σ= .ok w σ') (h2:e2 l σ' = .ok w2 σ2):args [e,e2] l σ= .ok [w,w2] σ2:=by
 show (e l σ).bind _=_;rw [h];show ((e2 l σ').bind _).bind _=_;rw [h2];rfl
theorem G8 {r:Run} {q:R W} (h:e l σ= .ok w σ') (g:r [w] σ' =q):AZ r [e] l σ=q:=by
 show ((e l σ).bind _).bind r=_;rw [h];exact g
theorem call2 {r:Run} {q:R W} {e2:SE} {w2:W} {σ2:List O} (h:e l σ= .ok w σ') (h2:e2 l σ' = .ok w2 σ2) (g:r [w,w2] σ2=q):AZ r [e,e2] l σ=q:=by
 show (args [e,e2] l σ).bind r=_;rw [N6 h h2];exact g
theorem Hq {o:Bop} {m:Bool} {q:R W} {e2:SE} {w2:W} {σ2:List O} (h:e l σ= .ok w σ') (h2:e2 l σ' = .ok w2 σ2) (g:Hu o m w w2 σ2=q):BU o e e2 m l σ=q:=by
 show (e l σ).bind _=_;rw [h];show (e2 l σ').bind _=_;rw [h2];exact g
theorem RB {q:R W} {e2:SE} {w2:W} {σ2:List O} (h:e l σ= .ok w σ') (h2:e2 l σ' = .ok w2 σ2) (g:kO 63 (getIdx σ2 w w2) σ2=q):C9 e e2 l σ=q:=by
 show (e l σ).bind _=_;rw [h];show (e2 l σ').bind _=_;rw [h2];exact g
theorem Rl (h:e l σ= .ok w σ'):args [e] l σ= .ok [w] σ':=by
 show (e l σ).bind _=_;rw [h];rfl
end
theorem eq1 {ch a:Nat}:C5 .eq (W.str [ch]) (W.str [a])=some (Nat.beq ch a):=by
 show some (Bool.rec (motive:=λυ=> Bool) false true (Nat.beq ch a))=_;cases Nat.beq ch a <;> rfl
theorem ne1 {ch a:Nat}:C5 .ne (W.str [ch]) (W.str [a])=some (!Nat.beq ch a):=by
 show Jo (some (Bool.rec (motive:=λυ=> Bool) false true (Nat.beq ch a)))=_;cases Nat.beq ch a <;> rfl
theorem eq0 {ch:Nat}:C5 .eq (W.str [ch]) (W.str [])=some false:=rfl
theorem ne0 {ch:Nat}:C5 .ne (W.str [ch]) (W.str [])=some true:=rfl
theorem OM {σ:List O} {ch:Nat} {s:List Nat}:EY σ (W.str [ch]) (W.str s)=some (Ac ch s):=rfl
section
variable {t:List Nat} {k:Nat} {r c:Int} {F:List W} {J:List O}
theorem fO {σ:List O} {ch:Nat} (h:nth t k=some ch):getIdx σ (W.str t) (W.int (Int.ofNat k))=some (W.str [ch]):=by
 show orO (orO none (orO (ob (nth t k) λc=> some (W.str [c])) (orO none none))) none=_;rw [h];rfl
theorem Lj {ch:Nat} {s:List Nat} (h:t.drop k=ch::s):nth t k=some ch:=by
 rw [AL,<- List.head?_drop,h];rfl
theorem CF {ch:Nat} {s:List Nat} (h:t.drop k=ch::s):t.drop (k + 1)=s:=by
 rw [<- List.tail_drop,h];rfl
def Gb:Sys:=zz (lkp [(372,CD)])
def Ep:List S:=wA (sAt Rp.body 0)
noncomputable def FR (ch:Nat) (r:Int):Int:=Bool.rec r (Int.add r 1) (Nat.beq ch 10)
noncomputable def FQ (ch:Nat) (c:Int):Int:=Bool.rec (Int.add c 1) 1 (Nat.beq ch 10)
theorem H6 {ch:Nat} {a b d e:Option W} (h:nth t k=some ch) (h13:Nat.beq ch 13=false):
  block (Ay Gb Ep) [some (W.ref 0),a,b,d,e] (LX t k r c F J)= .next [some (W.ref 0),a,b,some (W.str [ch]),e] (LX t (k + 1) (FR ch r) (FQ ch c) F J):=by
 refine blk (s:=BK Gb (sAt Ep 0)) (ss:= [BK Gb (sAt Ep 1),BK Gb (sAt Ep 2)]) (l':= [some (W.ref 0),a,b,some (W.str [ch]),e]) (σ':=LX t k r c F J) ?_ (blk (l':= [some (W.ref 0),a,b,some (W.str [ch]),e]) (σ':=LX t (k + 1) r c F J) rfl (Bx ?_))
 ·refine asg (w:=W.str [ch]) (σ':=LX t k r c F J) ?_ rfl;show kO 63 (getIdx _ (W.str t) (W.int (Int.ofNat k))) _=_;rw [fO h];rfl
 ·unfold FR FQ;generalize h10:Nat.beq ch 10=x9;induction x9 using bC with
  |true=> exact itT (orT (CH (w:=W.str [ch]) (w2:=W.str [10]) rfl rfl (eq1.trans (congrArg some h10)))) rfl
  |false=> exact itF (orF (CH (w:=W.str [ch]) (w2:=W.str [10]) rfl rfl (eq1.trans (congrArg some h10))) (or1 (anF (CH (w:=W.str [ch]) (w2:=W.str [13]) rfl rfl (eq1.trans (congrArg some h13)))))) rfl
theorem Tq {ch:Nat} {s:List Nat} (h:t.drop k=ch::s) (h13:Nat.beq ch 13=false):Bl [W.ref 0] (LX t k r c F J)= .ok .none (LX t (k + 1) (FR ch r) (FQ ch c) F J):=by
 have e:Bl [W.ref 0] (LX t k r c F J)=BC (((block (Ay Gb Ep) [some (W.ref 0),some (W.int 1),some (W.int 0),none,none] (LX t k r c F J)).then λl σ=> .next l σ).then λl σ=> .next l σ):=rfl;rw [e,H6 (Lj h) h13];rfl
theorem aS {ch ch2:Nat} {s:List Nat} (h:t.drop k=ch::ch2::s) (h13:Nat.beq ch 13=false) (h13':Nat.beq ch2 13=false):Bl [W.ref 0,W.int 2] (LX t k r c F J)= .ok .none (LX t (k + 2) (FR ch2 (FR ch r)) (FQ ch2 (FQ ch c)) F J):=by
 have e:Bl [W.ref 0,W.int 2] (LX t k r c F J)=BC (((block (Ay Gb Ep) [some (W.ref 0),some (W.int 2),some (W.int 0),none,none] (LX t k r c F J)).then λl σ=> Er [2] (block (Ay Gb Ep)) (W.int 1) (λl σ=> .next l σ) l σ).then λl σ=> .next l σ):=rfl;rw [e,H6 (Lj h) h13];show BC (((block (Ay Gb Ep) [some (W.ref 0),some (W.int 2),some (W.int 1),some (W.str [ch]),none] _).then _).then _)=_;rw [H6 (Lj (CF h)) h13'];rfl
theorem U5 {a b:Nat}:Hr [W.ref 0,W.str [a,b]] (LX t k r c F J)= .ok (.bool (A9 (cut 2 (drop' k t)) [a,b])) (LX t k r c F J):=by
 have e:Hr [W.ref 0,W.str [a,b]] (LX t k r c F J)= .ok (.bool (A9 (Bq t k (some (k + 2))) [a,b])) (LX t k r c F J):=rfl;rw [e];show R.ok (W.bool (A9 (cut (k + 2 - k) (drop' k t)) _)) _=_;rw [Nat.add_sub_cancel_left]
end
theorem Ef {f:Fn} {Z:Sys} {ws:List W} {w:W} {σ σ':List O} (h:f.go true Z ws []= .ok w σ'):f.go true Z ws σ= .ok w σ:=by
 have h:Option.rec (motive:=λυ=> R W) (.stuck 110) (λas=> BC (Kl (block (Ay Z f.body)) (BX f.nl as) [])) (fill f.np f.dfl ws)= .ok w σ':=h;show Option.rec (motive:=λυ=> R W) (.stuck 110) (λas=> BC (Kl (block (Ay Z f.body)) (BX f.nl as) σ)) (fill f.np f.dfl ws)= .ok w σ;generalize e:fill f.np f.dfl ws=x9;induction x9 using oC with
 |none=> rw [e] at h;cases h
 |some as=>
 rw [e] at h;show BC (Bool.rec (motive:=λυ=> RS) (.stuck 120) (Ey σ (block (Ay Z f.body) (BX f.nl as) [])) (Ga (BX f.nl as)))=_;have h:BC (Bool.rec (motive:=λυ=> RS) (.stuck 120) (Ey [] (block (Ay Z f.body) (BX f.nl as) [])) (Ga (BX f.nl as)))= .ok w σ':=h;generalize e2:Ga (BX f.nl as)=x9;induction x9 using bC with
 |false=> rw [e2] at h;cases h
 |true=>
 rw [e2] at h;show BC (Ey σ (block (Ay Z f.body) (BX f.nl as) []))=_;have h:BC (Ey [] (block (Ay Z f.body) (BX f.nl as) []))= .ok w σ':=h;generalize e3:block (Ay Z f.body) (BX f.nl as) []=x9;induction x9 using RS.casesOn with
 |next l s=> rw [e3] at h;cases h;rfl
 |ret v s=>
  rw [e3] at h;have h:BC (Bool.rec (motive:=λυ=> RS) (.stuck 121) (.ret v []) (nrW v))= .ok w σ':=h;show BC (Bool.rec (motive:=λυ=> RS) (.stuck 121) (.ret v σ) (nrW v))=_;generalize e4:nrW v=x9;induction x9 using bC with
  |false=> rw [e4] at h;cases h
  |true=> rw [e4] at h;cases h;rfl
 |exc c fs l s=>
  rw [e3] at h;have h:BC (Bool.rec (motive:=λυ=> RS) (.stuck 122) (.exc c fs [] []) (nrL fs))= .ok w σ':=h;generalize e4:nrL fs=x9;induction x9 using bC with
  |false=> rw [e4] at h;cases h
  |true=> rw [e4] at h;cases h
 |stuck n=> rw [e3] at h;cases h
def gW (k:Nat):W:=(look globT k).getD .none
noncomputable def plain (ch:Nat):Bool:= !Nat.beq ch 10 && !Nat.beq ch 13
def noE (a:Nat):Bool:=match EY [] (.str [a]) (gW 5) with |some b=> !b && !Nat.beq a 117 |none=> false
def DW:List Nat:=match gW 2 with | .str s=> s |_=> []
def Hj (a b:Nat):Option (List UInt8):=match FV [.str [a,b],.int 16] [] with | .ok w _=> ob (IV [] (.lst [w])) DZ |_=> none
def Hw (a:Nat):Option (List UInt8):=match Ge [.str [a]] [] with | .ok w _=> DZ w |_=> none
theorem Bg {b:Bool} (h:(!b)=true):b=false:=by cases b <;> first |rfl |exact ff h
theorem BY {a b:Bool} (h:(a && b)=true):a=true/\b=true:=by cases a <;> cases b <;> first |exact ⟨rfl,rfl⟩ |exact ff h
section
variable {t:List Nat} {k:Nat} {r c:Int} {F:List W} {J:List O} {l:LL}
theorem own {run run':Run} {q:R W} (e:run=run') (h:run' [W.ref 0] (LX t k r c F J)=q):CS (AE 0) 446 run [] (some (W.ref 0)::l) (LX t k r c F J)=q:=by
 subst e;exact h
theorem Yl {run run':Run} {q:R W} {x:SE} {w:W} (e:run=run') (hx:x (some (W.ref 0)::l) (LX t k r c F J)= .ok w (LX t k r c F J)) (h:run' [W.ref 0,w] (LX t k r c F J)=q):CS (AE 0) 446 run [x] (some (W.ref 0)::l) (LX t k r c F J)=q:=by
 subst e;show (args [x] _ _).bind _=_;rw [Rl hx];exact h
theorem Gr {ch:Nat} {s:List Nat} (h:t.drop k=ch::s) (p:plain ch=true):Bl [W.ref 0] (LX t k r c F J)= .ok .none (LX t (k + 1) r (Int.add c 1) F J):=by
 obtain ⟨a,b⟩:=BY p;rw [Tq h (Bg b)];unfold FR FQ;rw [Bg a]
theorem ZJ {ch ch2:Nat} {s:List Nat} (h:t.drop k=ch::ch2::s) (p:plain ch=true) (p2:plain ch2=true):Bl [W.ref 0,W.int 2] (LX t k r c F J)= .ok .none (LX t (k + 2) r (Int.add (Int.add c 1) 1) F J):=by
 obtain ⟨a,b⟩:=BY p;obtain ⟨a',b'⟩:=BY p2;rw [aS h (Bg b) (Bg b')];unfold FR FQ;rw [Bg a,Bg a']
theorem b0 {ch ch2:Nat} {s:List Nat} (h:t.drop k=ch::ch2::s):Bq t k (some (k + 2))= [ch,ch2]:=by
 show cut (k + 2 - k) (drop' k t)=_;rw [BA,h,Cn,Nat.add_sub_cancel_left];rfl
def D8:Sys:=zz (lkp [(337,FV),(372,CD),(386,Gg),(394,Bl),(415,Rf)])
def F2 (i:Nat):S:=sAt RG.body i
theorem gf:Gh=Dr 1 [] 4 (block [DK D8 (F2 0),JE D8 (Bk 1) (F2 1),Dg D8 (F2 2),Dg D8 (F2 3),JE D8 (Bk 2) (F2 4),Dg D8 (F2 5),DK D8 (F2 6),C1 (some (sem D8 (wT (F2 7))))]):=rfl
theorem z1:D8.fn 394=Bl:=rfl
theorem z2:D8.fn 372=CD:=rfl
theorem z3:D8.fn 337=FV:=rfl
theorem Wy {σ:List O} {a:Nat} (h:noE a=true):EY σ (.str [a]) (gW 5)=some false/\Nat.beq a 117=false:=by
 have e:EY σ (.str [a]) (gW 5)=EY [] (.str [a]) (gW 5):=rfl;rw [e];unfold noE at h;generalize q:EY [] (.str [a]) (gW 5)=x9;induction x9 using oC with
 |none=> rw [q] at h;exact ff h
 |some b=>
  rw [q] at h;obtain ⟨h1,h2⟩:=BY h;exact ⟨congrArg some (Bg h1),Bg h2⟩
theorem Ug {σ:List O} {a b:Nat} {bs:List UInt8} (h:Hj a b=some bs):∃w,FV [.str [a,b],.int 16] σ= .ok w σ/\IV σ (.lst [w])=some (.bytes bs):=by
 unfold Hj at h;generalize e:FV [.str [a,b],.int 16] []=x9;induction x9 using R.casesOn with
 |ok w s=>
  rw [e] at h;obtain ⟨v,h1,h2⟩:=AA h;cases Ce h2;exact ⟨w,Ef e,by rw [<- h1];rfl⟩
 |exc=> rw [e] at h;cases h
 |stuck=> rw [e] at h;cases h
theorem YR {c0 a b:Nat} {s:List Nat} {bs:List UInt8} (h:t.drop k=c0::a::b::s) (p0:plain c0=true) (p1:plain a=true) (p2:plain b=true) (n1:noE a=true) (x1:Ac a DW=true) (x2:Ac b DW=true) (hb:Hj a b=some bs):
  Gh [W.ref 0] (LX t k r c F J)= .ok (.bytes bs) (LX t (k + 3) r (Int.add (Int.add (Int.add c 1) 1) 1) F J):=by
 have h1:=CF h;rw [gf];refine congrArg BC (a₁:=block _ [some (W.ref 0),none,none,none] (LX t k r c F J)) (a₂:= .ret (.bytes bs) _) ?_;refine blk (σ':=LX t (k + 1) r (Int.add c 1) F J) (xpr (by exact own z1 (Gr h p0))) ?_;refine blk (l':= [some (W.ref 0),some (W.str [a]),none,none]) (asg (σ':=LX t (k + 1) r (Int.add c 1) F J) (w:=W.str [a]) (by exact own z2 (here h1)) rfl) ?_;refine blk (itF (σ':=LX t (k + 1) r (Int.add c 1) F J) ?_ rfl) (blk (itF (σ':=LX t (k + 1) r (Int.add c 1) F J) ?_ rfl) ?_)
 ·show E1 (AE 1) (DS (some (gW 5))) false _ _=_;exact I9 (w:=W.str [a]) (w2:=gW 5) rfl rfl (Wy n1).1
 ·show B7 (AE 1) .eq (AQ (.str [117])) _ _=_;exact CH (w:=W.str [a]) (w2:=W.str [117]) rfl rfl (eq1.trans (congrArg some (Wy (σ:= []) n1).2))
 refine blk (l':= [some (W.ref 0),some (W.str [a]),some (W.str [a,b]),none]) (asg (w:=W.str [a,b]) (σ':=LX t (k + 1) r (Int.add c 1) F J) ?_ rfl) (blk (itF (σ':=LX t (k + 1) r (Int.add c 1) F J) ?_ rfl) ?_)
 ·have e:kO 65 (EN (W.str t) (some (W.int (Int.ofNat (k + 1)))) (some (W.int (Int.ofNat (k + 1 + 2))))) (LX t (k + 1) r (Int.add c 1) F J)=R.ok (.str (Bq t (k + 1) (some (k + 1 + 2)))) (LX t (k + 1) r (Int.add c 1) F J):=rfl;rw [b0 h1] at e;exact e
 ·show Aa false [B7 (AZ (BJ 0) [AE 2]) .lt (AQ (.int 2)),E1 (C9 (AE 2) (AQ (.int 0))) (DS (some (.str DW))) true,E1 (C9 (AE 2) (AQ (.int 1))) (DS (some (.str DW))) true] _ _=_;exact orF (CH (w:=W.int 2) (w2:=W.int 2) rfl rfl rfl) (orF (I9 (n:=true) (w:=W.str [a]) (w2:=W.str DW) rfl rfl (OM.trans (congrArg some x1))) (or1 (I9 (n:=true) (w:=W.str [b]) (w2:=W.str DW) rfl rfl (OM.trans (congrArg some x2)))))
 refine blk (xpr (σ':=LX t (k + 3) r (Int.add (Int.add (Int.add c 1) 1) 1) F J) (by exact Yl (w:=W.int 2) z1 rfl (ZJ h1 p1 p2))) ?_;obtain ⟨w,hw,hw2⟩:=Ug (σ:=LX t (k + 3) r (Int.add (Int.add (Int.add c 1) 1) 1) F J) hb;refine Nn (ss:= []) ?_;show R.toS _ (((((D8.fn 337 [.str [a,b],.int 16] (LX t (k + 3) r (Int.add (Int.add (Int.add c 1) 1) 1) F J)).bind λw σ=> R.ok [w] σ).bind λws σ=> mkL false ws σ).bind λw σ=> R.ok [w] σ).bind (BJ 3)) _=_;rw [z3,hw];show R.toS _ (kO 11 (IV _ (.lst [w])) _) _=_;rw [hw2];rfl
end
def okC (ch:Nat):Bool:=plain ch && !ltS [ch] [32] && !Nat.beq ch 127 && Nat.blt ch 55296
def EO (n:Nat):List Nat->Option (List UInt8 × Nat × List Nat):=Nat.rec (λυ=> none) (λυ ih s=> match s with
 | []=> none
 |ch::s1=> bif Nat.beq ch 34 then some ([],0,s1) else bif Nat.beq ch 92 then (match s1 with
  |a::b::s2=> gd (plain a && plain b && noE a && Ac a DW && Ac b DW) (ob (Hj a b) λbs=> ob (ih s2) λq=> some (bs ++ q.1,q.2.1 + 3,q.2.2))
  |_=> none) else gd (okC ch) (ob (Hw ch) λbs=> ob (ih s1) λq=> some (bs ++ q.1,q.2.1 + 1,q.2.2))) n
noncomputable def AU (c:Int) (n:Nat):Int:=Nat.rec c (λυ ih=> Int.add ih 1) n
theorem FZ (c:Int) (n:Nat):AU (Int.add c 1) n=AU c (n + 1):=by
 induction n with
 |zero=> rfl
 |succ n ih=> exact congrArg (λi=> Int.add i 1) ih
theorem Gz {α:Type} (J:List α) (o:α):nth (J ++ [o]) J.length=some o:=by rw [AL];simp
theorem Vv {α:Type} (J:List α) (o o':α):put (J ++ [o]) J.length o' =J ++ [o']:=by rw [Cm];simp
theorem QR {a b:Nat} (h:Nat.beq a b=false):Nat.beq b a=false:=by
 generalize e:Nat.beq b a=x9;induction x9 using bC with
 |false=> rfl
 |true=> rw [eBq e,Nat.beq_refl] at h;exact h
theorem U4 {σ:List O} {a:Nat} {bs:List UInt8} (h:Hw a=some bs):Ge [.str [a]] σ= .ok (.bytes bs) σ:=by
 unfold Hw at h;generalize e:Ge [.str [a]] []=x9;induction x9 using R.casesOn with
 |ok w s=> rw [e] at h;cases Ce h;exact Ef e
 |exc=> rw [e] at h;cases h
 |stuck=> rw [e] at h;cases h
section
variable {t:List Nat} {k:Nat} {r c:Int} {F:List W} {J:List O} {l:LL}
theorem Mx {e:SE} {b bs:List UInt8} {k':Nat} {r' c':Int} (h:e l (LX t k r c F (J ++ [.barr b]))= .ok (.bytes bs) (LX t k' r' c' F (J ++ [.barr b]))) (hl:nth l 3=some (some (.ref (J.length + 2)))) (z:b.length + bs.length <= LIM):
  DF (AE 3) 1 [e] l (LX t k r c F (J ++ [.barr b]))= .ok .none (LX t k' r' c' F (J ++ [.barr (b ++ bs)])):=by
 show (GW (nth l 3) _).bind _=_;rw [hl];show kR 44 (ob (ob (nth (J ++ [O.barr b]) J.length) Gn) λt=> gd (Ka 1 t) (some ((args [e] l (LX _ k r c F (J ++ [.barr b]))).bind λws σ=> kR 45 (ob (Ci σ (.ref (J.length + 2))) λu=> gd (Nat.beq t u) (some (Cc 1 (.ref (J.length + 2)) ws σ))))))=_;rw [Gz];show (args [e] l (LX _ k r c F (J ++ [.barr b]))).bind _=_;rw [Rl h];show kR 45 (ob (ob (nth (J ++ [O.barr b]) J.length) Gn) λu=> gd (Nat.beq 2 u) (some (Cc 1 (.ref (J.length + 2)) [.bytes bs] (LX t k' r' c' F (J ++ [.barr b])))))=_;rw [Gz];show kR 21 (ob (ob (nth (J ++ [O.barr b]) J.length) λo=> WV (LX t k' r' c' F (J ++ [.barr b])) (J.length + 2) o (.bytes bs)) λσ=> some (R.ok W.none σ))=_;rw [Gz];show kR 21 (ob (gd (Nat.ble (b.length + bs.length) LIM) (some (LX t k' r' c' F (put (J ++ [O.barr b]) J.length (.barr (b ++ bs)))))) λσ=> some (R.ok W.none σ))=_;rw [Nat.ble_eq_true_of_le z,Vv];rfl
def Br:Sys:=zz (lkp [(133,Ge),(372,CD),(386,Gg),(394,Bl),(422,Gh)])
def FK (i:Nat):S:=sAt RD.body i
def GZ (i:Nat):S:=sAt (wA (FK 2)) i
abbrev Y8 (i:Nat):SE:=sem Br (wT (GZ i))
abbrev XX:SS:=DK Br (sAt (wA (GZ 4)) 0)
abbrev JN:SS:=block [JE Br (Bk 4) (GZ 0),Dg Br (GZ 1),Dg Br (GZ 2),Dg Br (GZ 3),Ex (Y8 4) (block [XX]) (block [DK Br (sAt (wB (GZ 4)) 0),DK Br (sAt (wB (GZ 4)) 1)])]
abbrev Hs:SE:=sem Br (wT (FK 2))
theorem dU:Jb=Dr 1 [] 6 (block [BK Br (FK 0),DK Br (FK 1),CB Hs JN,DK Br (FK 3),C1 (some (sem Br (wT (FK 4))))]):=rfl
theorem y1:Br.fn 394=Bl:=rfl
theorem y2:Br.fn 372=CD:=rfl
theorem y3:Br.fn 133=Ge:=rfl
theorem y4:Br.fn 422=Gh:=rfl
noncomputable abbrev ls (w1 w2:W) (n:Nat) (x:Option W):LL:= [some (.ref 0),some w1,some w2,some (.ref (n + 2)),x,none]
theorem Uu {ch:Nat} {s:List Nat} {w1 w2:W} {n:Nat} {x:Option W} (h:t.drop k=ch::s):Hs (ls w1 w2 n x) (LX t k r c F J)= .ok (.bool (!Nat.beq ch 34)) (LX t k r c F J):=by
 show B7 (CS (AE 0) 446 (Br.fn 372) []) .ne (AQ (.str [34])) _ _=_;exact CH (own y2 (here h)) rfl ne1
theorem cq {σ:List O} {ch:Nat} (p:plain ch=true):EY σ (.str [ch]) (.tup [.str [10],.str [13]])=some false:=by
 obtain ⟨a,b⟩:=BY p;show some (Bool.rec (motive:=λυ=> Bool) false true (Nat.beq 10 ch) ||(Bool.rec (motive:=λυ=> Bool) false true (Nat.beq 13 ch) ||false))=_;rw [QR (Bg a),QR (Bg b)];rfl
theorem WA {ch:Nat} {s:List Nat} {w1 w2:W} {b bs:List UInt8} {x:Option W} {k':Nat} {c':Int} (h:t.drop k=ch::s) (p:plain ch=true) (h1:ltS [ch] [32]=false) (h2:Nat.beq ch 127=false) (h3:Nat.blt ch 55296=true) (z:b.length + bs.length <= LIM)
  (q:(Nat.beq ch 92=true/\Gh [W.ref 0] (LX t k r c F (J ++ [.barr b]))= .ok (.bytes bs) (LX t k' r c' F (J ++ [.barr b])))\/(Nat.beq ch 92=false/\Hw ch=some bs/\k' =k + 1/\c' =Int.add c 1)):
  JN (ls w1 w2 J.length x) (LX t k r c F (J ++ [.barr b]))= .next (ls w1 w2 J.length (some (.str [ch]))) (LX t k' r c' F (J ++ [.barr (b ++ bs)])):=by
 refine blk (l':=ls w1 w2 J.length (some (.str [ch]))) (asg (σ':=LX t k r c F (J ++ [.barr b])) (w:=W.str [ch]) (by exact own y2 (here h)) rfl) ?_;refine blk (itF (σ':=LX t k r c F (J ++ [.barr b])) ?_ rfl) (blk (itF (σ':=LX t k r c F (J ++ [.barr b])) ?_ rfl) (blk (itF (σ':=LX t k r c F (J ++ [.barr b])) ?_ rfl) (Bx ?_)))
 ·show Aa false [B7 (AE 4) .eq (AQ (.str [])),E1 (AE 4) (Bo [AQ (.str [10]),AQ (.str [13])]) false] _ _=_;exact orF (CH (w:=W.str [ch]) (w2:=W.str []) rfl rfl eq0) (or1 (I9 (n:=false) (w:=W.str [ch]) (w2:=W.tup [.str [10],.str [13]]) rfl rfl (cq p)))
 ·show Aa false [B7 (AE 4) .lt (AQ (.str [32])),B7 (AE 4) .eq (AQ (.str [127]))] _ _=_;exact orF (CH (w:=W.str [ch]) (w2:=W.str [32]) rfl rfl (congrArg some h1)) (or1 (CH (w:=W.str [ch]) (w2:=W.str [127]) rfl rfl (eq1.trans (congrArg some h2))))
 ·show br 72 (some (!Nat.blt ch 55296)) ((AQ (.int 57344) _ _).bind λz σ=> BW (C5 .lt (W.int (Int.ofNat ch)) z) σ) (.ok (.bool false) _)=_;rw [h3];rfl
 ·have c4:Y8 4 (ls w1 w2 J.length (some (.str [ch]))) (LX t k r c F (J ++ [.barr b]))= .ok (.bool (Nat.beq ch 92)) (LX t k r c F (J ++ [.barr b])):=by
   show B7 (AE 4) .eq (AQ (.str [92])) _ _=_;exact CH (w:=W.str [ch]) (w2:=W.str [92]) rfl rfl eq1
  rcases q with ⟨q,he⟩ |⟨q,hu,rfl,rfl⟩
  ·rw [q] at c4;refine itT c4 (Bx (xpr (w:= .none) ?_));show DF (AE 3) 1 [CS (AE 0) 446 (Br.fn 422) []] _ _=_;exact Mx (own y4 he) rfl z
  ·rw [q] at c4;refine itF c4 (blk (xpr (w:= .none) (σ':=LX t k r c F (J ++ [.barr (b ++ bs)])) ?_) (Bx (xpr (by exact own y1 (Gr h p)))));show DF (AE 3) 1 [AZ (Br.fn 133) [AE 4]] _ _=_;exact Mx (by show Br.fn 133 [W.str [ch]] _=_;rw [y3];exact U4 hu) rfl z
end
section
variable {t:List Nat} {k:Nat} {r c:Int} {F:List W} {J:List O} {l:LL}
theorem QK (c:Int) (d j:Nat):AU (AU c d) j=AU c (j + d):=by
 induction j with
 |zero=> rw [Nat.zero_add];rfl
 |succ j ih=> rw [Nat.succ_add];exact congrArg (λi=> Int.add i 1) ih
theorem Vm {w1 w2:W}:∀(n:Nat) (s:List Nat) (k:Nat) (c:Int) (b:List UInt8) (x:Option W) (q:List UInt8 × Nat × List Nat) (m:Nat),EO n s=some q->t.drop k=s->b.length + q.1.length <= LIM->n <= m->
  (∃x',B5 Hs JN m (ls w1 w2 J.length x) (LX t k r c F (J ++ [.barr b]))= .next (ls w1 w2 J.length x') (LX t (k + q.2.1) r (AU c q.2.1) F (J ++ [.barr (b ++ q.1)])))/\t.drop (k + q.2.1)=34::q.2.2:=by
 intro n;induction n with
 |zero=> intro s k c b x q m e;exact nn e
 |succ n ih=>
 intro s k c b x q m e h z hm;obtain ⟨m,rfl⟩:∃m',m=m' + 1:=⟨m - 1,by lia⟩;induction s using lC with
 |nil=> exact nn e
 |cons ch s1=>
 have e:(bif Nat.beq ch 34 then some ([],0,s1) else bif Nat.beq ch 92 then (match s1 with
  |a::b::s2=> gd (plain a && plain b && noE a && Ac a DW && Ac b DW) (ob (Hj a b) λbs=> ob (EO n s2) λq=> some (bs ++ q.1,q.2.1 + 3,q.2.2))
  |_=> none) else gd (okC ch) (ob (Hw ch) λbs=> ob (EO n s1) λq=> some (bs ++ q.1,q.2.1 + 1,q.2.2)))=some q:=e
 have cd:Hs (ls w1 w2 J.length x) (LX t k r c F (J ++ [.barr b]))= .ok (.bool (!Nat.beq ch 34)) _:=Uu h;generalize h34:Nat.beq ch 34=x9;induction x9 using bC with
 |true=>
  rw [h34] at e cd;cases e;refine ⟨⟨x, ?_⟩,by rw [<- eBq h34];exact h⟩;rw [List.append_nil];exact whF cd
 |false=>
 rw [h34] at e cd;have e:(bif Nat.beq ch 92 then (match s1 with
  |a::b::s2=> gd (plain a && plain b && noE a && Ac a DW && Ac b DW) (ob (Hj a b) λbs=> ob (EO n s2) λq=> some (bs ++ q.1,q.2.1 + 3,q.2.2))
  |_=> none) else gd (okC ch) (ob (Hw ch) λbs=> ob (EO n s1) λq=> some (bs ++ q.1,q.2.1 + 1,q.2.2)))=some q:=e
 have go:∀{bs:List UInt8} {q':List UInt8 × Nat × List Nat} {s2:List Nat} {d:Nat},EO n s2=some q'->t.drop (k + d)=s2->q=(bs ++ q'.1,q'.2.1 + d,q'.2.2)->plain ch=true->ltS [ch] [32]=false->Nat.beq ch 127=false->Nat.blt ch 55296=true->
   (b.length + bs.length <= LIM->(Nat.beq ch 92=true/\Gh [W.ref 0] (LX t k r c F (J ++ [.barr b]))= .ok (.bytes bs) (LX t (k + d) r (AU c d) F (J ++ [.barr b])))\/(Nat.beq ch 92=false/\Hw ch=some bs/\k + d=k + 1/\AU c d=Int.add c 1))->
   (∃x',B5 Hs JN (m + 1) (ls w1 w2 J.length x) (LX t k r c F (J ++ [.barr b]))= .next (ls w1 w2 J.length x') (LX t (k + q.2.1) r (AU c q.2.1) F (J ++ [.barr (b ++ q.1)])))/\t.drop (k + q.2.1)=34::q.2.2:=by
  intro bs q' s2 d e1 h1 eq p p1 p2 p3 w;subst eq;have z:b.length + (bs ++ q'.1).length <= LIM:=z;rw [List.length_append] at z;obtain ⟨⟨x',e2⟩,h2⟩:=ih s2 (k + d) (AU c d) (b ++ bs) (some (.str [ch])) q' m e1 h1 (by rw [List.length_append];lia) (by lia);have ec:=QK c d q'.2.1;refine ⟨⟨x',whT cd (WA h p p1 p2 p3 (by lia) (w (by lia))) ?_⟩, ?_⟩
  ·rw [e2,ec,List.append_assoc,show k + d + q'.2.1=k + (q'.2.1 + d) by lia]
  ·rw [<- h2];congr 1;show k + (q'.2.1 + d)=k + d + q'.2.1;lia
 generalize h92:Nat.beq ch 92=x9;induction x9 using bC with
 |true=>
  rw [h92] at e;have e:(match (generalizing:=false) s1 with
   |a::b::s2=> gd (plain a && plain b && noE a && Ac a DW && Ac b DW) (ob (Hj a b) λbs=> ob (EO n s2) λq=> some (bs ++ q.1,q.2.1 + 3,q.2.2))
   |_=> none)=some q:=e
  induction s1 using lC with
  |nil=> exact nn e
  |cons a s1=>
  induction s1 using lC with
  |nil=> exact nn e
  |cons a2 s2=>
  obtain ⟨e0,e⟩:=AJ e;obtain ⟨bs,e1,e⟩:=AA e;obtain ⟨q',e2,e⟩:=AA e;cases e;obtain ⟨e0,g5⟩:=BY e0;obtain ⟨e0,g4⟩:=BY e0;obtain ⟨e0,g3⟩:=BY e0;obtain ⟨g1,g2⟩:=BY e0;obtain rfl:=eBq h92;exact go (d:=3) e2 (CF (CF (CF h))) rfl rfl rfl rfl rfl λυ=> .inl ⟨h92,YR h rfl g1 g2 g3 g4 g5 e1⟩
 |false=>
  rw [h92] at e;obtain ⟨e0,e⟩:=AJ e;obtain ⟨bs,e1,e⟩:=AA e;obtain ⟨q',e2,e⟩:=AA e;cases e;obtain ⟨e0,g4⟩:=BY e0;obtain ⟨e0,g3⟩:=BY e0;obtain ⟨g1,g2⟩:=BY e0;exact go (d:=1) e2 (CF h) rfl g1 (Bg g2) (Bg g3) g4 λυ=> .inr ⟨h92,e1,rfl,rfl⟩
end
def idS:List Nat:=match gW 6 with | .str s=> s |_=> []
noncomputable def idM:Nat:=idS.foldl (λm c=> Nat.lor m (Nat.shiftLeft 1 c)) 0
def idB (ch:Nat):Bool:=Nat.blt ch 128 && Nat.beq (Nat.land (Nat.shiftRight idM ch) 1) 1
theorem Vo {ch:Nat} {l:List Nat} (h:l.all (λa=> Nat.blt a 128)=true) (g:Nat.blt ch 128=false):Ac ch l=false:=by
 induction l with
 |nil=> rfl
 |cons a l ih=>
  rw [List.all_cons] at h;obtain ⟨h1,h2⟩:=BY h;show Bool.rec (motive:=λυ=> Bool) (Ac ch l) true (Nat.beq a ch)=false;generalize e:Nat.beq a ch=x9;induction x9 using bC with
  |true=> rw [<- eBq e,h1] at g;exact ff g.symm
  |false=> exact ih h2
theorem Ux:(List.range 128).all (λc=> idB c==Ac c idS)=true:=by kernel_rfl
theorem WC:idS.all (λa=> Nat.blt a 128)=true:=by kernel_rfl
theorem Kx (ch:Nat):idB ch=Ac ch idS:=by
 generalize e:Nat.blt ch 128=x9;induction x9 using bC with
 |true=> exact eq_of_beq (List.all_eq_true.mp Ux ch (List.mem_range.mpr (lBl e)))
 |false=> rw [Vo WC e];unfold idB;rw [e];rfl
def K3 (s:List Nat):Option (List Nat × List Nat):=List.rec (some ([],[])) (λch s ih=> bif idB ch then gd (plain ch && !Nat.beq ch 34) (ob ih λq=> some (ch::q.1,q.2)) else gd (!Nat.beq ch 34) (some ([],ch::s))) s
def Kd (s:List Nat):Bool:=match s with | []=> true |ch::_=> !(Nat.beq ch 34 ||idB ch)
def Kn (w:List Nat):Option (W × W):=match H4 [.str w] [] with | .ok (.tup [a,b]) _=> some (a,b) |_=> none
section
variable {t:List Nat} {k:Nat} {r c:Int} {F:List W} {J:List O} {l:LL}
theorem Jz {n:Nat} {s:List Nat} {q:List UInt8 × Nat × List Nat} (h:t.drop k=34::s) (e:EO n s=some q) (z:q.1.length <= LIM) (hn:n <= fuel):
  ∃J',Jb [.ref 0] (LX t k r c F J)= .ok (.bytes q.1) (LX t (k + (q.2.1 + 2)) r (AU c (q.2.1 + 2)) F J')/\t.drop (k + (q.2.1 + 2))=q.2.2:=by
 obtain ⟨⟨x',e1⟩,e2⟩:=Vm (r:=r) (F:=F) (J:=J) (w1:= .int r) (w2:= .int c) n s (k + 1) (Int.add c 1) [] none q fuel e (CF h) (by rw [List.length_nil];lia) hn;have e1:CB Hs JN (ls (.int r) (.int c) J.length none) (LX t (k + 1) r (Int.add c 1) F (J ++ [.barr []]))= .next (ls (.int r) (.int c) J.length x') (LX t (k + 1 + q.2.1) r (AU (Int.add c 1) q.2.1) F (J ++ [.barr q.1])):=e1;refine ⟨J ++ [.barr q.1], ?_, ?_⟩
 ·rw [dU];refine congrArg BC (a₁:=block _ [some (W.ref 0),none,none,none,none,none] (LX t k r c F J)) (a₂:= .ret (.bytes q.1) _) ?_;have hs:DK Br (FK 1) (ls (.int r) (.int c) J.length none) (LX t k r c F (J ++ [.barr []]))= .next (ls (.int r) (.int c) J.length none) (LX t (k + 1) r (Int.add c 1) F (J ++ [.barr []])):=xpr (by exact own y1 (Gr h rfl));have he:DK Br (FK 3) (ls (.int r) (.int c) J.length x') (LX t (k + 1 + q.2.1) r (AU (Int.add c 1) q.2.1) F (J ++ [.barr q.1]))= .next (ls (.int r) (.int c) J.length x') (LX t (k + 1 + q.2.1 + 1) r (Int.add (AU (Int.add c 1) q.2.1) 1) F (J ++ [.barr q.1])):=xpr (by exact own y1 (Gr e2 rfl));have h0:BK Br (FK 0) [some (W.ref 0),none,none,none,none,none] (LX t k r c F J)= .next (ls (.int r) (.int c) J.length none) (LX t k r c F (J ++ [.barr []])):=rfl;refine blk h0 (blk hs (blk (s:=CB Hs JN) e1 (blk he (Nn (ss:= []) ?_))));rw [FZ,show k + 1 + q.2.1 + 1=k + (q.2.1 + 2) by lia];show R.toS _ (kO 11 (ob (atO FN (LX t _ r _ F (J ++ [O.barr q.1])) (.ref (J.length + 2))) λb=> some (W.bytes b)) _) _=_;show R.toS _ (kO 11 (ob (ob (nth (J ++ [O.barr q.1]) J.length) FN) λb=> some (W.bytes b)) _) _=_;rw [Gz];rfl
 ·rw [<- CF e2];congr 1;lia
theorem Nh {e:SE} {w:W} (h:e (some (.ref 0)::l) (LX t k r c F J)= .ok w (LX t k r c F J)) (z:F.length < LIM):
  DF (Az (AE 0) Dd) 0 [e] (some (.ref 0)::l) (LX t k r c F J)= .ok .none (LX t k r c (F ++ [w]) J):=by
 show (args [e] _ _).bind _=_;rw [Rl h];show kR 20 (ob (orO (gd (Nat.blt F.length LIM) (some (LX t k r c (F ++ [w]) J))) none) λσ=> some (R.ok W.none σ))=_;rw [show Nat.blt F.length LIM=true from Nat.ble_eq_true_of_le z];rfl
def A0:Sys:=zz (lkp [(351,H4),(372,CD),(394,Bl),(429,Jb)])
def Cy (i:Nat):S:=sAt Sw.body i
def F3:S:=sAt (wA (Cy 1)) 0
abbrev D9:SE:=sem A0 (wT (Cy 1))
abbrev Hp:SS:=block [Ex (sem A0 (wT F3)) (block [BK A0 (sAt (wA F3) 0),BK A0 (sAt (wA F3) 1)]) (block [DK A0 (sAt (wB F3) 0),BK A0 (sAt (wB F3) 1)])]
theorem d0:Fl=Dr 1 [] 11 (block [BK A0 (Cy 0),CB D9 Hp,BK A0 (Cy 2),BK A0 (Cy 3),Dg A0 (Cy 4),DK A0 (Cy 5)]):=rfl
theorem x1:A0.fn 394=Bl:=rfl
theorem x2:A0.fn 372=CD:=rfl
theorem x3:A0.fn 429=Jb:=rfl
theorem x4:A0.fn 351=H4:=rfl
noncomputable abbrev lr (k:Nat) (r c:Int) (o:List UInt8) (n:Int) (x:Option W) (a b d:Option W):LL:= [some (.ref 0),some (.int (.ofNat k)),some (.int r),some (.int c),some (.bytes o),some (.int n),x,a,b,d,none]
theorem JJ {ch:Nat} {s:List Nat} (h:t.drop k=ch::s):D9 (some (.ref 0)::l) (LX t k r c F J)= .ok (.bool (Nat.beq ch 34 ||Ac ch idS)) (LX t k r c F J):=by
 have hh:CS (AE 0) 446 (A0.fn 372) [] (some (.ref 0)::l) (LX t k r c F J)= .ok (.str [ch]) (LX t k r c F J):=own x2 (here h);show Aa true [B7 (CS (AE 0) 446 (A0.fn 372) []) .ne (AQ (.str [])),Aa false [B7 (CS (AE 0) 446 (A0.fn 372) []) .eq (AQ (.str [34])),E1 (CS (AE 0) 446 (A0.fn 372) []) (DS (some (.str idS))) false]] _ _=_;refine anT (CH hh rfl ne0) (an1 ?_);generalize e:Nat.beq ch 34=x9;induction x9 using bC with
 |true=> exact orT (CH (y:=AQ (.str [34])) hh rfl (eq1.trans (congrArg some e)))
 |false=>
  refine orF (CH (y:=AQ (.str [34])) hh rfl (eq1.trans (congrArg some e))) ?_;have:=I9 (n:=false) (y:=DS (some (.str idS))) (l:=some (.ref 0)::l) (σ':=LX t k r c F J) (σ2:=LX t k r c F J) hh rfl OM;generalize e2:Ac ch idS=x9;induction x9 using bC with
  |true=> rw [e2] at this;exact this
  |false=> rw [e2] at this;exact this
theorem Ky (h:t.drop k= []):D9 (some (.ref 0)::l) (LX t k r c F J)= .ok (.bool false) (LX t k r c F J):=by
 show Aa true [B7 (CS (AE 0) 446 (A0.fn 372) []) .ne (AQ (.str [])),Aa false [B7 (CS (AE 0) 446 (A0.fn 372) []) .eq (AQ (.str [34])),E1 (CS (AE 0) 446 (A0.fn 372) []) (DS (some (.str idS))) false]] _ _=_;exact anF (CH (own x2 (Zs h)) rfl rfl)
theorem Up {s:List Nat} (h:t.drop k=s) (e:Kd s=true):D9 (some (.ref 0)::l) (LX t k r c F J)= .ok (.bool false) (LX t k r c F J):=by
 induction s using lC with
 |nil=> exact Ky h
 |cons ch s=> rw [JJ h,<- Kx,Bg e]
theorem QZ {ch:Nat} {s:List Nat} (h:t.drop k=ch::s):sem A0 (wT F3) (some (.ref 0)::l) (LX t k r c F J)= .ok (.bool (Nat.beq ch 34)) (LX t k r c F J):=by
 show B7 (CS (AE 0) 446 (A0.fn 372) []) .eq (AQ (.str [34])) _ _=_;exact CH (own x2 (here h)) rfl eq1
theorem Nc {k0:Nat} {r0 c0:Int} {o:List UInt8}:∀(s:List Nat) (k:Nat) (c:Int) (x:Option W) (q:List Nat × List Nat) (m:Nat),K3 s=some q->t.drop k=s->s.length < m->
  (∃x',B5 D9 Hp m (lr k0 r0 c0 o 0 x none none none) (LX t k r c F J)= .next (lr k0 r0 c0 o 0 x' none none none) (LX t (k + q.1.length) r (AU c q.1.length) F J))/\t.drop (k + q.1.length)=q.2/\s=q.1 ++ q.2:=by
 intro s;induction s with
 |nil=>
  intro k c x q m e h hm;obtain ⟨m,rfl⟩:∃m',m=m' + 1:=⟨m - 1,by lia⟩;cases e;exact ⟨⟨x,whF (Ky h)⟩,h,rfl⟩
 |cons ch s ih=>
  intro k c x q m e h hm;obtain ⟨m,rfl⟩:∃m',m=m' + 1:=⟨m - 1,by lia⟩;have e:(bif idB ch then gd (plain ch && !Nat.beq ch 34) (ob (K3 s) λq=> some (ch::q.1,q.2)) else gd (!Nat.beq ch 34) (some ([],ch::s)))=some q:=e;rw [Kx] at e;have cd:D9 (lr k0 r0 c0 o 0 x none none none) (LX t k r c F J)=_:=JJ h;generalize hi:Ac ch idS=x9;induction x9 using bC with
  |true=>
   rw [hi] at e cd;obtain ⟨e0,e⟩:=AJ e;obtain ⟨q',e1,e⟩:=AA e;cases e;obtain ⟨g1,g2⟩:=BY e0;obtain ⟨⟨x',e2⟩,e3,e4⟩:=ih (k + 1) (Int.add c 1) (some (.bool false)) q' m e1 (CF h) (by rw [List.length_cons] at hm;lia);rw [Bg g2] at cd;have iq:=QZ (l:= [some (.int (.ofNat k0)),some (.int r0),some (.int c0),some (.bytes o),some (.int 0),x,none,none,none,none]) (r:=r) (c:=c) (F:=F) (J:=J) h;rw [Bg g2] at iq;refine ⟨⟨x',whT cd (Bx (itF iq (blk (xpr (by exact own x1 (Gr h g1))) (Bx (r:= .next (lr k0 r0 c0 o 0 (some (.bool false)) none none none) _) rfl)))) ?_⟩, ?_,congrArg (ch::·) e4⟩
   ·rw [e2,FZ];show RS.next _ (LX t (k + 1 + q'.1.length) _ _ _ _)=RS.next _ (LX t (k + (q'.1.length + 1)) _ _ _ _);rw [show k + 1 + q'.1.length=k + (q'.1.length + 1) by lia];rfl
   ·rw [<- e3];congr 1;show k + (q'.1.length + 1)=_;lia
  |false=>
   rw [hi] at e cd;obtain ⟨e0,e⟩:=AJ e;cases e;rw [Bg e0] at cd;exact ⟨⟨x,whF cd⟩,h,rfl⟩
end
section
variable {t:List Nat} {k:Nat} {r c:Int} {F:List W} {J:List O} {l:LL}
theorem Ur {σ:List O} {w:List Nat} {q:W × W} (h:Kn w=some q):H4 [.str w] σ= .ok (.tup [q.1,q.2]) σ:=by
 unfold Kn at h;generalize e:H4 [.str w] []=x9;induction x9 using R.casesOn with
 |ok v s=>
  rw [e] at h;refine Ef (f:=RH) (Z:=zz (lkp [(344,SA)])) (σ':=s) (e.trans (congrArg (R.ok · s) ?_));induction v using W.casesOn with
  |tup l=>
   induction l using lC with
   |nil=> exact nn h
   |cons a l=> induction l using lC with
    |nil=> exact nn h
    |cons b l=> induction l using lC with
     |nil=> cases h;rfl
     |cons=> exact nn h
  |_=> exact nn h
 |exc=> rw [e] at h;cases h
 |stuck=> rw [e] at h;cases h
theorem cN {w rest:List Nat} (h:t.drop k=w ++ rest):Bq t k (some (k + w.length))=w:=by
 show cut (k + w.length - k) (drop' k t)=w;rw [BA,h,Cn,Nat.add_sub_cancel_left,List.take_left'];rfl
def OD:W:=match wT (Cy 3) with | .ite _ (.tup (.lit x _::_) _) _ _=> x |_=> .none
def gY:W:=match wT (Cy 3) with | .ite _ _ (.tup (.lit x _::_) _) _=> x |_=> .none
theorem Mz {k1:Nat} {c1:Int} {o:List UInt8} {n:Int} {x tx so va:W} {y:Option W} {J':List O} (a0:CB D9 Hp (lr k r c [] 0 none none none none) (LX t k r c F J)= .next (lr k r c o n y none none none) (LX t k1 r c1 F J')) (a1:BK A0 (Cy 2) (lr k r c o n y none none none) (LX t k1 r c1 F J')= .next (lr k r c o n y (some tx) none none) (LX t k1 r c1 F J'))
  (a2:∃so1 va1,BK A0 (Cy 3) (lr k r c o n y (some tx) none none) (LX t k1 r c1 F J')= .next (lr k r c o n y (some tx) (some so1) (some va1)) (LX t k1 r c1 F J')/\Dg A0 (Cy 4) (lr k r c o n y (some tx) (some so1) (some va1)) (LX t k1 r c1 F J')= .next (lr k r c o n y (some tx) (some so) (some va)) (LX t k1 r c1 F J'))
  (z:F.length < LIM):
  Fl [.ref 0] (LX t k r c F J)= .ok .none (LX t k1 r c1 (F ++ [.obj 166 [so,tx,va,.int r,.int c]]) J'):=by
 rw [d0];refine congrArg BC (a₁:=block _ [some (W.ref 0),none,none,none,none,none,none,none,none,none,none] (LX t k r c F J)) (a₂:= .next (lr k r c o n y (some tx) (some so) (some va)) _) ?_;obtain ⟨so1,va1,a2,a3⟩:=a2;have h0:BK A0 (Cy 0) [some (W.ref 0),none,none,none,none,none,none,none,none,none,none] (LX t k r c F J)= .next (lr k r c [] 0 none none none none) (LX t k r c F J):=rfl;refine blk h0 (blk (s:=CB D9 Hp) a0 (blk a1 (blk a2 (blk a3 (Bx (xpr (w:= .none) ?_))))));show DF (Az (AE 0) Dd) 0 [AZ (A0.new 166 false) [AE 8,AE 7,AE 9,AE 2,AE 3]] _ _=_;exact Nh rfl z
theorem TV {s:List Nat} {q:List Nat × List Nat} {sv:W × W} (h:t.drop k=s) (e:K3 s=some q) (e2:Kn q.1=some sv) (z:F.length < LIM) (hn:s.length < fuel):
  Fl [.ref 0] (LX t k r c F J)= .ok .none (LX t (k + q.1.length) r (AU c q.1.length) (F ++ [.obj 166 [sv.1,.str q.1,sv.2,.int r,.int c]]) J)/\t.drop (k + q.1.length)=q.2:=by
 obtain ⟨⟨x',h1⟩,h2,h3⟩:=Nc (k0:=k) (r0:=r) (c0:=c) (o:= []) (r:=r) (F:=F) (J:=J) s k c none q fuel e h hn;have h1:CB D9 Hp (lr k r c [] 0 none none none none) (LX t k r c F J)= .next (lr k r c [] 0 x' none none none) (LX t (k + q.1.length) r (AU c q.1.length) F J):=h1;refine ⟨Mz (x:= .none) h1 ?_ ⟨gY,.str q.1,rfl, ?_⟩ z,h2⟩
 ·show JE A0 (Bk 7) (Cy 2) _ _=_;refine asg (w:= .str q.1) (σ':=LX t (k + q.1.length) r (AU c q.1.length) F J) ?_ rfl;have e:kO 65 (EN (.str t) (some (.int (.ofNat k))) (some (.int (.ofNat (k + q.1.length))))) (LX t (k + q.1.length) r (AU c q.1.length) F J)= .ok (.str (Bq t k (some (k + q.1.length)))) (LX t (k + q.1.length) r (AU c q.1.length) F J):=rfl;rw [cN (h.trans h3)] at e;exact e
 ·refine itT (σ':=LX t (k + q.1.length) r (AU c q.1.length) F J) rfl (Bx ?_);show R.toS _ (A0.fn 351 [.str q.1] _) _=_;rw [x4,Ur e2];rfl
theorem V2 {n:Nat} {s:List Nat} {q:List UInt8 × Nat × List Nat} (h:t.drop k=34::s) (e:EO n s=some q) (z1:q.1.length <= LIM) (hn:n <= fuel) (st:Kd q.2.2=true) (z:F.length < LIM):
  ∃J',Fl [.ref 0] (LX t k r c F J)= .ok .none (LX t (k + (q.2.1 + 2)) r (AU c (q.2.1 + 2)) (F ++ [.obj 166 [OD,.str (cut (q.2.1 + 2) (34::s)),.bytes q.1,.int r,.int c]]) J')/\t.drop (k + (q.2.1 + 2))=q.2.2:=by
 obtain ⟨J',h1,h2⟩:=Jz (r:=r) (c:=c) (F:=F) (J:=J) h e z1 hn;refine ⟨J', ?_,h2⟩;have cd:D9 (lr k r c [] 0 none none none none) (LX t k r c F J)= .ok (.bool true) (LX t k r c F J):=JJ h;have iq:sem A0 (wT F3) (lr k r c [] 0 none none none none) (LX t k r c F J)= .ok (.bool true) (LX t k r c F J):=QZ h;have b1:BK A0 (sAt (wA F3) 0) (lr k r c [] 0 none none none none) (LX t k r c F J)= .next (lr k r c q.1 1 none none none none) (LX t (k + (q.2.1 + 2)) r (AU c (q.2.1 + 2)) F J'):=by
  show R.toS _ (R.bind (R.bind (A0.fn 429 [.ref 0] (LX t k r c F J)) _) _) _=_;rw [x3,h1];rfl
 have wl:B5 D9 Hp (999998 + 1 + 1) (lr k r c [] 0 none none none none) (LX t k r c F J)= .next (lr k r c q.1 1 (some (.bool true)) none none none) (LX t (k + (q.2.1 + 2)) r (AU c (q.2.1 + 2)) F J'):=
  whT cd (Bx (itT iq (blk b1 (Bx (r:= .next (lr k r c q.1 1 (some (.bool true)) none none none) _) rfl)))) (whF (Up h2 st))
 have wl:CB D9 Hp (lr k r c [] 0 none none none none) (LX t k r c F J)= .next (lr k r c q.1 1 (some (.bool true)) none none none) (LX t (k + (q.2.1 + 2)) r (AU c (q.2.1 + 2)) F J'):=wl;refine Mz (x:= .none) wl ?_ ⟨OD,.bytes q.1,rfl, ?_⟩ z
 ·show JE A0 (Bk 7) (Cy 2) _ _=_;refine asg (w:= .str (cut (q.2.1 + 2) (34::s))) (σ':=LX t (k + (q.2.1 + 2)) r (AU c (q.2.1 + 2)) F J') ?_ rfl;have e:kO 65 (EN (.str t) (some (.int (.ofNat k))) (some (.int (.ofNat (k + (q.2.1 + 2)))))) (LX t (k + (q.2.1 + 2)) r (AU c (q.2.1 + 2)) F J')= .ok (.str (cut (k + (q.2.1 + 2) - k) (drop' k t))) (LX t (k + (q.2.1 + 2)) r (AU c (q.2.1 + 2)) F J'):=rfl;rw [BA,h,Nat.add_sub_cancel_left] at e;exact e
 ·refine itF (σ':=LX t (k + (q.2.1 + 2)) r (AU c (q.2.1 + 2)) F J') rfl (Bx (itF (σ':=LX t (k + (q.2.1 + 2)) r (AU c (q.2.1 + 2)) F J') rfl rfl))
end
def blS:List Nat:=match gW 7 with | .str s=> s |_=> []
def loS:List Nat:=match gW 8 with | .str s=> s |_=> []
noncomputable def tok (a:W) (b:W) (d:W) (r c:Int):W:= .obj 166 [a,b,d,.int r,.int c]
def C3 (n:Nat):List Nat->Int->Int->Option (List W):=Nat.rec (λυ υ υ=> none) (λυ ih s r c=> match s with
 | []=> some []
 |ch::s1=> bif Ac ch blS then gd (!Nat.beq ch 13) (ih s1 (FR ch r) (FQ ch c))
  else gd (!A9 (cut 2 (ch::s1)) [59,59] && !A9 (cut 2 (ch::s1)) [40,59]) (bif Ac ch [40,41] then ob (ih s1 r (Int.add c 1)) λq=> some (tok (.str [ch]) (.str [ch]) (.str [ch]) r c::q)
   else gd (!Ac ch loS) (bif Nat.beq ch 34 then ob (EO 1000 s1) λq=> gd (Kd q.2.2 && Nat.ble q.1.length 1000) (ob (ih q.2.2 r (AU c (q.2.1 + 2))) λe=> some (tok OD (.str (cut (q.2.1 + 2) (34::s1))) (.bytes q.1) r c::e))
    else gd (idB ch) (ob (K3 (ch::s1)) λq=> ob (Kn q.1) λv=> ob (ih q.2 r (AU c q.1.length)) λe=> some (tok v.1 (.str q.1) v.2 r c::e))))) n
section
variable {t:List Nat} {k:Nat} {r c:Int} {F:List W} {J:List O} {l:LL}
def Bt:Sys:=zz (lkp [(372,CD),(379,Hr),(386,Gg),(394,Bl),(401,Td),(408,r408),(436,Fl)])
def PF (i:Nat):S:=sAt Rn.body i
abbrev I6:SE:=sem Bt (wT (PF 0))
def v0:S:=sAt (wA (PF 0)) 1
def v1:S:=sAt (wB v0) 0
def v2:S:=sAt (wB v1) 0
def v3:S:=sAt (wB v2) 0
def v4:S:=sAt (wB v3) 0
def v5:S:=sAt (wB v4) 0
abbrev Nw (v:S) (y:SS):SS:=Ex (sem Bt (wT v)) (block (Ay Bt (wA v))) (block [y])
abbrev dI:SS:=Nw v0 (Nw v1 (Nw v2 (Ex (sem Bt (wT v3)) (block [DK Bt (sAt (wA v3) 0),DK Bt (sAt (wA v3) 1)]) (block [Nw v4 (Ex (sem Bt (wT v5)) (block [DK Bt (sAt (wA v5) 0)]) (block (Ay Bt (wB v5))))]))))
abbrev Ho:SS:=block [JE Bt (Bk 1) (sAt (wA (PF 0)) 0),dI]
theorem fG:Hv=Dr 1 [] 3 (block [CB I6 Ho,C1 (some (sem Bt (wT (PF 1))))]):=rfl
theorem u1:Bt.fn 394=Bl:=rfl
theorem u2:Bt.fn 372=CD:=rfl
theorem u3:Bt.fn 379=Hr:=rfl
theorem u4:Bt.fn 436=Fl:=rfl
theorem NV (z:t.length < 1000000):I6 (some (.ref 0)::l) (LX t k r c F J)= .ok (.bool (Nat.blt k t.length)) (LX t k r c F J):=by
 have e:D4 (LX t k r c F J) (.str t)=some (.int (.ofNat t.length)):=by
  show gd (Nat.ble t.length LIM) _=_;rw [Nat.ble_eq_true_of_le (Nat.le_of_lt (Nat.lt_of_lt_of_le z (by decide)))];rfl
 show B7 (Az (AE 0) BS) .lt (AZ (BJ 0) [Az (AE 0) Ag]) _ _=_;refine CH (w:= .int (.ofNat k)) (σ':=LX t k r c F J) (w2:= .int (.ofNat t.length)) rfl ?_ rfl;show kO 11 (D4 (LX t k r c F J) (.str t)) _=_;rw [e];rfl
theorem par {ch:Nat} (h:Ac ch [40,41]=true):plain ch=true/\Ac ch blS=false:=by
 have h:Bool.rec (motive:=λυ=> Bool) (Bool.rec (motive:=λυ=> Bool) false true (Nat.beq 41 ch)) true (Nat.beq 40 ch)=true:=h;generalize e:Nat.beq 40 ch=x9;induction x9 using bC with
 |true=> cases eBq e;exact ⟨rfl,rfl⟩
 |false=>
  rw [e] at h;generalize e:Nat.beq 41 ch=x9;induction x9 using bC with
  |true=> cases eBq e;exact ⟨rfl,rfl⟩
  |false=> rw [e] at h;exact ff h
noncomputable abbrev lw (x:Option W):LL:= [some (.ref 0),x,none]
theorem Od {ch:Nat} {s:List Nat} {σ:List O}:E1 (AE 1) (DS (some (.str s))) false (lw (some (.str [ch]))) σ= .ok (.bool (Ac ch s)) σ:=by
 have:=I9 (n:=false) (x:=AE 1) (y:=DS (some (.str s))) (l:=lw (some (.str [ch]))) (σ:=σ) (σ':=σ) (σ2:=σ) rfl rfl (OM (ch:=ch) (s:=s));generalize e:Ac ch s=x9;induction x9 using bC with
 |true=> rw [e] at this;exact this
 |false=> rw [e] at this;exact this
theorem G3 {ch:Nat} {s1:List Nat} {x:Option W} {σ':List O} (h:t.drop k=ch::s1)
  (w:(Ac ch blS=true/\Bl [.ref 0] (LX t k r c F J)= .ok .none σ')\/(Ac ch blS=false/\A9 (cut 2 (ch::s1)) [59,59]=false/\A9 (cut 2 (ch::s1)) [40,59]=false/\
   ((Ac ch [40,41]=true/\F.length < LIM/\Bl [.ref 0] (LX t k r c (F ++ [tok (.str [ch]) (.str [ch]) (.str [ch]) r c]) J)= .ok .none σ')\/
    (Ac ch [40,41]=false/\Ac ch loS=false/\(Nat.beq ch 34 ||Ac ch idS)=true/\Fl [.ref 0] (LX t k r c F J)= .ok .none σ')))):
  Ho (lw x) (LX t k r c F J)= .next (lw (some (.str [ch]))) σ':=by
 refine blk (l':=lw (some (.str [ch]))) (asg (σ':=LX t k r c F J) (w:=W.str [ch]) (by exact own u2 (here h)) rfl) (Bx ?_);have s2:∀{a b:Nat} {v:Bool},A9 (cut 2 (ch::s1)) [a,b]=v->CS (AE 0) 446 (Bt.fn 379) [AQ (.str [a,b])] (lw (some (.str [ch]))) (LX t k r c F J)= .ok (.bool v) (LX t k r c F J):=λ{a b v} e=> Yl (w:= .str [a,b]) u3 rfl (by rw [U5,BA,h,e])
 have c0:sem Bt (wT v0) (lw (some (.str [ch]))) (LX t k r c F J)= .ok (.bool (Ac ch blS)) (LX t k r c F J):=Od;rcases w with ⟨e,w⟩ |⟨e,e1,e2,w⟩
 ·rw [e] at c0;refine itT c0 (Bx ?_);show Fu (CS (AE 0) 446 (Bt.fn 394) []) _ _=_;exact xpr (own u1 w)
 ·rw [e] at c0;refine itF c0 (Bx (itF (s2 (a:=59) (b:=59) e1) (Bx (itF (s2 (a:=40) (b:=59) e2) (Bx ?_)))));have c3:sem Bt (wT v3) (lw (some (.str [ch]))) (LX t k r c F J)= .ok (.bool (Ac ch [40,41])) (LX t k r c F J):=Od;rcases w with ⟨e3,z,w⟩ |⟨e3,e4,e5,w⟩
  ·rw [e3] at c3;refine itT c3 (blk (l':=lw (some (.str [ch]))) (σ':=LX t k r c (F ++ [tok (.str [ch]) (.str [ch]) (.str [ch]) r c]) J) (xpr (w:= .none) ?_) (Bx ?_))
   ·show DF (Az (AE 0) Dd) 0 [AZ (Bt.new 166 false) [AE 1,AE 1,AE 1,Az (AE 0) Aj,Az (AE 0) AP]] _ _=_;exact Nh rfl z
   ·show Fu (CS (AE 0) 446 (Bt.fn 394) []) _ _=_;exact xpr (own u1 w)
  ·rw [e3] at c3;have c4:sem Bt (wT v4) (lw (some (.str [ch]))) (LX t k r c F J)= .ok (.bool (Ac ch loS)) (LX t k r c F J):=Od;rw [e4] at c4;have c5:sem Bt (wT v5) (lw (some (.str [ch]))) (LX t k r c F J)= .ok (.bool true) (LX t k r c F J):=by
    show Aa false [B7 (AE 1) .eq (AQ (.str [34])),E1 (AE 1) (DS (some (.str idS))) false] _ _=_;generalize e6:Nat.beq ch 34=x9;induction x9 using bC with
    |true=> exact orT (CH (x:=AE 1) (y:=AQ (.str [34])) (w:=W.str [ch]) rfl rfl (eq1.trans (congrArg some e6)))
    |false=>
     rw [e6] at e5;refine orF (CH (x:=AE 1) (y:=AQ (.str [34])) (w:=W.str [ch]) rfl rfl (eq1.trans (congrArg some e6))) ?_;have:=Od (ch:=ch) (s:=idS) (σ:=LX t k r c F J);rw [show Ac ch idS=true from e5] at this;exact this
   refine itF c3 (Bx (itF c4 (Bx (itT c5 (Bx ?_)))));show Fu (CS (AE 0) 446 (Bt.fn 436) []) _ _=_;exact xpr (own u4 w)
end
section
variable {t:List Nat} {k:Nat} {r c:Int} {F:List W} {J:List O} {l:LL}
def Ends (t:List Nat) (m:Nat) (x:Option W) (k:Nat) (r c:Int) (F:List W) (J:List O) (ts:List W):Prop:=
 ∃x' k' r' c' J',B5 I6 Ho m (lw x) (LX t k r c F J)= .next (lw x') (LX t k' r' c' (F ++ ts) J')
theorem Ends.step {ch:Nat} {s1:List Nat} {x:Option W} {m:Nat} {k2:Nat} {r2 c2:Int} {J2:List O} {T ts:List W} (z:t.length < 1000000) (h:t.drop k=ch::s1)
  (b:Ho (lw x) (LX t k r c F J)= .next (lw (some (.str [ch]))) (LX t k2 r2 c2 (F ++ T) J2)) (e:Ends t m (some (.str [ch])) k2 r2 c2 (F ++ T) J2 ts):Ends t (m + 1) x k r c F J (T ++ ts):=by
 obtain ⟨x',k',r',c',J',e⟩:=e;have cd:I6 (lw x) (LX t k r c F J)= .ok (.bool true) (LX t k r c F J):=by
  have q:=NV (l:= [x,none]) (k:=k) (r:=r) (c:=c) (F:=F) (J:=J) z;rw [show Nat.blt k t.length=true from ?_] at q
  ·exact q
  ·refine Nat.ble_eq_true_of_le ?_;have:=congrArg List.length h;rw [List.length_drop,List.length_cons] at this;lia
 exact ⟨x',k',r',c',J',whT cd b (by rw [e,List.append_assoc])⟩
theorem VT (z:t.length < 1000000):∀(n:Nat) (s:List Nat) (k:Nat) (r c:Int) (F:List W) (J:List O) (x:Option W) (m:Nat) (ts:List W),C3 n s r c=some ts->t.drop k=s->F.length + ts.length <= LIM->n <= m->Ends t m x k r c F J ts:=by
 intro n;induction n with
 |zero=> intro s k r c F J x m ts e;exact nn e
 |succ n ih=>
 intro s k r c F J x m ts e h hz hm;obtain ⟨m,rfl⟩:∃m',m=m' + 1:=⟨m - 1,by lia⟩;have hm:n <= m:=Nat.le_of_succ_le_succ hm;induction s using lC with
 |nil=>
  cases e;have q:=NV (l:= [x,none]) (k:=k) (r:=r) (c:=c) (F:=F) (J:=J) z;rw [show Nat.blt k t.length=false from ?_] at q
  ·exact ⟨x,k,r,c,J,by rw [List.append_nil];exact whF q⟩
  ·have:=List.drop_eq_nil_iff.mp h;generalize e:Nat.blt k t.length=x9;induction x9 using bC with
   |false=> rfl
   |true=> exact absurd (lBl e) (Nat.not_le.mpr (Nat.lt_succ_of_le this))
 |cons ch s1=>
 have e:(bif Ac ch blS then gd (!Nat.beq ch 13) (C3 n s1 (FR ch r) (FQ ch c))
  else gd (!A9 (cut 2 (ch::s1)) [59,59] && !A9 (cut 2 (ch::s1)) [40,59]) (bif Ac ch [40,41] then ob (C3 n s1 r (Int.add c 1)) λq=> some (tok (.str [ch]) (.str [ch]) (.str [ch]) r c::q)
   else gd (!Ac ch loS) (bif Nat.beq ch 34 then ob (EO 1000 s1) λq=> gd (Kd q.2.2 && Nat.ble q.1.length 1000) (ob (C3 n q.2.2 r (AU c (q.2.1 + 2))) λe=> some (tok OD (.str (cut (q.2.1 + 2) (34::s1))) (.bytes q.1) r c::e))
    else gd (idB ch) (ob (K3 (ch::s1)) λq=> ob (Kn q.1) λv=> ob (C3 n q.2 r (AU c q.1.length)) λe=> some (tok v.1 (.str q.1) v.2 r c::e)))))=some ts:=e
 rw [Kx] at e;generalize hb:Ac ch blS=x9;induction x9 using bC with
 |true=>
  rw [hb] at e;obtain ⟨e0,e⟩:=AJ e;have hF:F.length + ([]:List W).length <= LIM:=Nat.le_trans (Nat.add_le_add_left (Nat.zero_le _) _) hz;exact Ends.step (T:= []) z h (G3 h (.inl ⟨hb,by rw [List.append_nil];exact Tq h (Bg e0)⟩)) (ih s1 (k + 1) _ _ (F ++ []) J _ m ts e (CF h) (by rw [List.append_nil];exact hz) hm)
 |false=>
  rw [hb] at e;obtain ⟨e0,e⟩:=AJ e;obtain ⟨e1,e2⟩:=BY e0;have more:∀{k2:Nat} {r2 c2:Int} {J2:List O} {s2:List Nat} {T:W} {ts':List W},ts=T::ts'->C3 n s2 r2 c2=some ts'->t.drop k2=s2->(F.length < LIM->Ho (lw x) (LX t k r c F J)= .next (lw (some (.str [ch]))) (LX t k2 r2 c2 (F ++ [T]) J2))->Ends t (m + 1) x k r c F J ts:=by
   intro k2 r2 c2 J2 s2 T ts' et el hd b;subst et;rw [List.length_cons] at hz;exact Ends.step (T:= [T]) z h (b (by lia)) (ih s2 k2 r2 c2 (F ++ [T]) J2 _ m ts' el hd (by rw [List.length_append];show F.length + 1 + ts'.length <= LIM;lia) hm)
  generalize hp:Ac ch [40,41]=x9;induction x9 using bC with
  |true=>
   rw [hp] at e;obtain ⟨ts',e3,e⟩:=AA e;exact more (sIj e).symm e3 (CF h) λzF=> G3 h (.inr ⟨hb,Bg e1,Bg e2,.inl ⟨hp,zF,Gr h (par hp).1⟩⟩)
  |false=>
   rw [hp] at e;obtain ⟨e3,e⟩:=AJ e;generalize hq:Nat.beq ch 34=x9;induction x9 using bC with
   |true=>
    rw [hq] at e;obtain ⟨q,e4,e⟩:=AA e;obtain ⟨e5,e⟩:=AJ e;obtain ⟨ts',e6,e9⟩:=AA e;obtain ⟨e7,e8⟩:=BY e5;obtain rfl:=eBq hq;have zq:q.1.length <= LIM:=Nat.le_trans (lBl e8) (by decide);by_cases zF:F.length < LIM
    ·obtain ⟨J',g1,g2⟩:=V2 (r:=r) (c:=c) (F:=F) (J:=J) h e4 zq (by decide) e7 zF;exact more (sIj e9).symm e6 g2 λzF=> G3 h (.inr ⟨hb,Bg e1,Bg e2,.inr ⟨hp,Bg e3,rfl,g1⟩⟩)
    ·exact more (J2:=J) (sIj e9).symm e6 (s2:=q.2.2) (k2:=k + (q.2.1 + 2)) (by
      obtain ⟨J',g1,g2⟩:=Jz (r:=r) (c:=c) (F:=F) (J:=J) h e4 zq (by decide);exact g2) λq=> absurd q zF
   |false=>
    rw [hq] at e;obtain ⟨e4,e⟩:=AJ e;obtain ⟨q,e5,e⟩:=AA e;obtain ⟨v,e6,e⟩:=AA e;obtain ⟨ts',e7,e⟩:=AA e;have hn:(ch::s1).length < fuel:=by
     rw [<- h,List.length_drop];show _ < 1000000;lia
    have g2:=(Nc (k0:=0) (r0:=r) (c0:=c) (o:= []) (r:=r) (F:=F) (J:=J) (ch::s1) k c none q fuel e5 h hn).2.1;exact more (sIj e).symm e7 g2 λzF=> G3 h (.inr ⟨hb,Bg e1,Bg e2,.inr ⟨hp,Bg e3,by rw [hq];exact e4,(TV h e5 e6 zF hn).1⟩⟩)
theorem Xe {n:Nat} {ts:List W} {σ:List O} (e:C3 n t 1 1=some ts) (z:t.length < 1000000) (z2:ts.length <= LIM) (hn:n <= 1000000) (nr:nrL ts=true):PB [.str t] σ= .ok (.lst ts) σ:=by
 obtain ⟨x',k',r',c',J',w⟩:=VT z n t 0 1 1 [] [] none 1000000 ts e rfl (by rw [List.length_nil];lia) hn;have w:CB I6 Ho (lw none) (LX t 0 1 1 [] [])= .next (lw x') (LX t k' r' c' ts J'):=w;have h:Hv [.ref 0] (LX t 0 1 1 [] [])= .ok (.ref 1) (LX t k' r' c' ts J'):=by
  rw [fG];refine congrArg BC (a₁:=block _ (lw none) (LX t 0 1 1 [] [])) (a₂:= .ret (.ref 1) _) ?_;exact blk (s:=CB I6 Ho) w rfl
 refine Ef (f:=Oy) (Z:=zz (lkp [(365,OH),(443,Hv)])) (σ':= []) ?_;have e1:Oy.go true (zz (lkp [(365,OH),(443,Hv)])) [.str t] []=BC (Ey [] ((((Hv [.ref 0] (LX t 0 1 1 [] [])).bind λw σ=> kR 79 (ob (PD σ w) λp=> some (R.ok p.1 p.2))).toS [some (.str t),none] λw σ=> .ret w σ).then λl σ=> .next l σ)):=rfl;rw [e1,h];have e2:((R.ok (W.ref 1) (LX t k' r' c' ts J')).bind λw σ=> kR 79 (ob (PD σ w) λp=> some (R.ok p.1 p.2)))= .ok (.lst ts) (put (LX t k' r' c' ts J') 1 .dead):=rfl;rw [e2];show BC (Bool.rec (motive:=λυ=> RS) (.stuck 121) (.ret (.lst ts) []) (nrL ts))=_;rw [nr];rfl
end
def ME (t:List Nat) (x:R W):R W:=OK.go true (zz (lkp [(184,OZ),(457,λυ υ=> x)])) [.str t] []
def Kc (t:List Nat) (ts:List W):R W:=HE.go true (zz (lkp [(464,λυ υ=> ME t (.ok (.lst ts) [.list [],.list []])),(887,Jc),(894,JV)])) [.str t] []
theorem RI (t:List Nat) (tk:Run):OK.go true (zz (lkp [(184,OZ),(457,tk)])) [.str t] []=ME t (tk [.str t] [.list [],.list []]):=rfl
theorem U9 (t:List Nat) (tk:Run):HE.go true (zz (lkp [(464,tk),(887,Jc),(894,JV)])) [.str t] []=HE.go true (zz (lkp [(464,λυ υ=> tk [.str t] []),(887,Jc),(894,JV)])) [.str t] []:=rfl
theorem Ue {t:List Nat} {n:Nat} {ts:List W} (e:C3 n t 1 1=some ts) (z:t.length < 1000000) (z2:ts.length <= LIM) (hn:n <= 1000000) (nr:nrL ts=true):FJ [.str t] []=Kc t ts:=by
 have h:=RI t PB;rw [Xe e z z2 hn nr] at h;have h:K2 [.str t] []=ME t (.ok (.lst ts) [.list [],.list []]):=h;have g:=U9 t K2;rw [h] at g;exact g
def Bd:List W:=match Ip [] [] with | .ok (.lst l) _=> l |_=> []
noncomputable def Hl (w:W):List Nat:=match w with | .tup (.str s::_)=> s |_=> []
noncomputable def Lp (w:W):W:=match w with | .tup [_,d]=> d |_=> .none
noncomputable def gA (e:E):List E:=match e with | .lst es _ _=> es | .idx e _ _=> (match e with | .lst es _ _=> es |_=> []) |_=> []
noncomputable def litS (e:E):List Nat:=match e with | .lit (.str s) _=> s |_=> []
def Ap (i:Nat):List Nat:=litS ((nth (gA (wT (sAt (wA (sAt Fq.body 2)) 2))) i).getD (.lit .none 0))
noncomputable def Bs (s:List Nat):Int->Int->Option (Int × Int):=List.rec (λυ υ=> none) (λch υ ih r c=> bif Nat.beq ch 64 then some (r,c) else bif Nat.beq ch 10 then ih (Int.add r 1) 1 else ih r (Int.add c 1)) s
def MU (d:W) (s:List Nat) (r c:Int):Option W:=match d with | .str w=> ob (Bs s r c) λp=> some (.tup [.str w,.tup [.int p.1,.int p.2]]) |d=> some d
def Q9 (s:List Nat) (r c:Int):Option (List W):=ob (C3 400 s r c) λts=> gd (nrL ts && Nat.ble ts.length 4000) (some ts)
def tw (t:List Nat) (r c:Int) (s:List Nat):R W:=Option.rec (.stuck 300) (λts=> Kc t ts) (Q9 s r c)
noncomputable def Kz (o:Option W):R W:=Option.rec (.stuck 301) (λd=> .ok d []) o
def gv (w:W) (a:List Nat) (t:List Nat) (r c:Int):Prop:=tw t r c (Bh 64 (a ++ Hl w))=Kz (MU (Lp w) (a ++ Hl w) r c)
def Cr (i:Nat):W:=(nth Bd i).getD .none
def cutAt (s:List Nat):Option (List Nat):=List.rec none (λch υ ih=> bif Nat.beq ch 64 then some [] else ob ih λp=> some (ch::p)) s
theorem GU (s:List Nat):∃x y,AB 10 s=x::y:=by
 induction s with
 |nil=> exact ⟨[],[],rfl⟩
 |cons ch s ih=>
  unfold AB;cases Nat.beq ch 10 with
  |true=> exact ⟨_,_,rfl⟩
  |false=> obtain ⟨x,y,e⟩:=ih;exact ⟨ch::x,y,by rw [e];rfl⟩
theorem VD (s:List Nat):∀n,hd? (Ba 64 s n)=ob (cutAt s) λp=> some (n + p.length):=by
 induction s with
 |nil=> intro n;rfl
 |cons ch s ih=>
  intro n;show hd? (Bool.rec (motive:=λυ=> List Nat) (Ba 64 s (n + 1)) (n::Ba 64 s (n + 1)) (Nat.beq ch 64))=ob (bif Nat.beq ch 64 then some [] else ob (cutAt s) λp=> some (ch::p)) _;cases Nat.beq ch 64 with
  |true=> rfl
  |false=>
   show hd? (Ba 64 s (n + 1))=ob (ob (cutAt s) λp=> some (ch::p)) _;rw [ih (n + 1)];cases cutAt s with
   |none=> rfl
   |some p=> exact congrArg some (by rw [List.length_cons];lia)
theorem OS {s p:List Nat} (h:cutAt s=some p):s.take p.length=p:=by
 induction s generalizing p with
 |nil=> exact nn h
 |cons ch s ih=>
  have h:(bif Nat.beq ch 64 then some [] else ob (cutAt s) λp=> some (ch::p))=some p:=h;generalize e:Nat.beq ch 64=x9;induction x9 using bC with
  |true=> rw [e] at h;cases h;rfl
  |false=> rw [e] at h;obtain ⟨q,h1,h2⟩:=AA h;cases h2;exact congrArg (ch::·) (ih h1)
def Be (l:List (List Nat)):Nat:=((nth l (l.length - 1)).getD []).length
theorem Uy (s:List Nat):∀(r c:Nat),Bs s (Int.ofNat r) (Int.ofNat c)=ob (cutAt s) λp=> some (Int.ofNat (r + ((AB 10 p).length - 1)),Int.ofNat (if (AB 10 p).length=1 then c + Be (AB 10 p) else 1 + Be (AB 10 p))):=by
 induction s with
 |nil=> intro r c;rfl
 |cons ch s ih=>
  intro r c;show (bif Nat.beq ch 64 then some (Int.ofNat r,Int.ofNat c) else bif Nat.beq ch 10 then Bs s (Int.ofNat (r + 1)) (Int.ofNat 1) else Bs s (Int.ofNat r) (Int.ofNat (c + 1)))=ob (bif Nat.beq ch 64 then some [] else ob (cutAt s) λp=> some (ch::p)) _;cases Nat.beq ch 64 with
  |true=> rfl
  |false=>
  show (bif Nat.beq ch 10 then Bs s (Int.ofNat (r + 1)) (Int.ofNat 1) else Bs s (Int.ofNat r) (Int.ofNat (c + 1)))=ob (ob (cutAt s) λp=> some (ch::p)) _;generalize e:Nat.beq ch 10=x9;induction x9 using bC with
  |true=>
   show Bs s (Int.ofNat (r + 1)) (Int.ofNat 1)=_;rw [ih];cases cutAt s with
   |none=> rfl
   |some p=>
    obtain ⟨x,y,e2⟩:=GU p;have e3:AB 10 (ch::p)= []::AB 10 p:=by
     show (bif Nat.beq ch 10 then []::AB 10 p else _)=_;rw [e];rfl
    refine congrArg some ?_;show (Int.ofNat (r + 1 + ((AB 10 p).length - 1)),Int.ofNat (if (AB 10 p).length=1 then 1 + Be (AB 10 p) else 1 + Be (AB 10 p)))=(Int.ofNat (r + ((AB 10 (ch::p)).length - 1)),Int.ofNat (if (AB 10 (ch::p)).length=1 then c + Be (AB 10 (ch::p)) else 1 + Be (AB 10 (ch::p))));have e4:Be ([]::AB 10 p)=Be (AB 10 p):=by rw [e2];rfl
    rw [ite_self,e3,e4,if_neg (by rw [e2];simp),List.length_cons,e2,List.length_cons];congr 2;lia
  |false=>
   show Bs s (Int.ofNat r) (Int.ofNat (c + 1))=_;rw [ih];cases cutAt s with
   |none=> rfl
   |some p=>
    obtain ⟨x,y,e2⟩:=GU p;have e3:AB 10 (ch::p)=(ch::x)::y:=by
     show (bif Nat.beq ch 10 then []::AB 10 p else match AB 10 p with | []=> [[ch]] |x::y=> (ch::x)::y)=_;rw [e,e2];rfl
    refine congrArg some ?_;show (Int.ofNat (r + ((AB 10 p).length - 1)),Int.ofNat (if (AB 10 p).length=1 then c + 1 + Be (AB 10 p) else 1 + Be (AB 10 p)))=(Int.ofNat (r + ((AB 10 (ch::p)).length - 1)),Int.ofNat (if (AB 10 (ch::p)).length=1 then c + Be (AB 10 (ch::p)) else 1 + Be (AB 10 (ch::p))));rw [e3,e2];induction y using lC with
    |nil=>
     show (_,Int.ofNat (c + 1 + x.length))=(_,Int.ofNat (c + (x.length + 1)));rw [Nat.add_assoc,Nat.add_comm 1];rfl
    |cons z y=> rfl
theorem VC (l:List Nat):(AB 10 l).length <= l.length + 1:=by
 induction l with
 |nil=> exact Nat.le_refl _
 |cons ch l ih=>
  unfold AB;obtain ⟨x,y,e⟩:=GU l;cases Nat.beq ch 10 with
  |true=> exact Nat.succ_le_succ ih
  |false=> rw [e] at ih ⊢;exact Nat.le_succ_of_le ih
theorem TO (l:List Nat):∀w ∈ AB 10 l,w.length <= l.length:=by
 induction l with
 |nil=> intro w h;cases mSg h;exact Nat.le_refl _
 |cons ch l ih=>
  unfold AB;obtain ⟨x,y,e⟩:=GU l;cases Nat.beq ch 10 with
  |true=>
   intro w h;rcases mCo h with rfl |h
   ·exact Nat.zero_le _
   ·exact Nat.le_succ_of_le (ih w h)
  |false=>
   rw [e] at ih ⊢;intro w h;rcases mCo h with rfl |h
   ·exact Nat.succ_le_succ (ih x (.head _))
   ·exact Nat.le_succ_of_le (ih w (.tail _ h))
theorem RQ {s:List Nat} {q:Int × Int} {σ:List O} (h:Bs s 1 1=some q) (z:s.length < 1000000):HD [.str s] σ= .ok (.tup [.int q.1,.int q.2]) σ:=by
 have h:Bs s (Int.ofNat 1) (Int.ofNat 1)=some q:=h;rw [Uy] at h;obtain ⟨p,hp,h⟩:=AA h;cases h;have tk:=OS hp;have pl:p.length < 1000000:=by
  have:=congrArg List.length tk;rw [List.length_take] at this;lia
 obtain ⟨x,y,e2⟩:=GU p;have sz:(AB 10 p).length <= LIM:=Nat.le_trans (VC p) (Nat.le_trans pl (by decide));obtain ⟨w,hw,wl⟩:∃w,nth (AB 10 p) ((AB 10 p).length - 1)=some w/\w.length <= p.length:=by
  obtain ⟨x,y,e2⟩:=GU p;have hl:(AB 10 p).length - 1 < (AB 10 p).length:=by rw [e2,List.length_cons];lia
  exact ⟨(AB 10 p)[(AB 10 p).length - 1],by rw [AL,List.getElem?_eq_getElem hl],TO p _ (List.getElem_mem hl)⟩
 have wz:w.length <= LIM:=Nat.le_trans wl (Nat.le_trans (Nat.le_of_lt pl) (by decide));have h0:JW (AE 0) none (some (DF (AE 0) 4 [AQ (.str [64])])) [some (.str s),none,none] []= .ok (.str p) []:=by
  show (R.bind (kO 24 (ob (hd? (Ba 64 s 0)) mkNat) []) λw σ=> R.ok (some w) σ).bind (λb σ=> kO 65 (EN (.str s) none b) σ)=_;rw [VD,hp];show (R.bind (kO 24 (gd (Nat.ble (0 + p.length) LIM) (some (.int (.ofNat (0 + p.length))))) []) λw σ=> R.ok (some w) σ).bind (λb σ=> kO 65 (EN (.str s) none b) σ)=_;rw [Nat.zero_add,Nat.ble_eq_true_of_le (Nat.le_trans (Nat.le_of_lt pl) (by decide))];show R.ok (W.str (cut p.length s)) []=_;rw [Cn,tk]
 have h1:DF (JW (AE 0) none (some (DF (AE 0) 4 [AQ (.str [64])]))) 7 [AQ (.str [10])] [some (.str s),none,none] []= .ok (.lst ((AB 10 p).map W.str)) []:=by
  show (JW (AE 0) none (some (DF (AE 0) 4 [AQ (.str [64])])) [some (.str s),none,none] []).bind _=_;rw [h0];show kO 27 (gd (Nat.blt p.length LIM) (some (W.lst ((AB 10 p).map W.str)))) []=_;rw [show Nat.blt p.length LIM=true from Nat.ble_eq_true_of_le (Nat.le_trans pl (by decide))];rfl
 have g1:D4 [] (W.lst ((AB 10 p).map W.str))=some (W.int (.ofNat (AB 10 p).length)):=by
  show gd (Nat.ble ((AB 10 p).map W.str).length LIM) (some (W.int (.ofNat ((AB 10 p).map W.str).length)))=_;rw [List.length_map,Nat.ble_eq_true_of_le sz];rfl
 have g2:getIdx [] (W.lst ((AB 10 p).map W.str)) (W.int (Int.neg 1))=some (W.str w):=by
  show orO (orO (gd (Nat.blt 0 ((AB 10 p).map W.str).length) (nth ((AB 10 p).map W.str) (((AB 10 p).map W.str).length - 1))) _) _=_;rw [List.length_map,AL,List.getElem?_map,<- AL,hw];obtain ⟨x,y,e2⟩:=GU p;rw [e2];rfl
 have g3:D4 [] (W.str w)=some (W.int (.ofNat w.length)):=by
  show gd (Nat.ble w.length LIM) _=_;rw [Nat.ble_eq_true_of_le wz];rfl
 have hA:AZ (BJ 0) [AE 1] [some (.str s),some (.lst ((AB 10 p).map W.str)),none] []= .ok (.int (.ofNat (AB 10 p).length)) []:=G8 rfl (by show kO 11 (D4 [] _) []=_;rw [g1];rfl);have hI:C9 (AE 1) (Jn (AQ (.int 1))) [some (.str s),some (.lst ((AB 10 p).map W.str)),none] []= .ok (.str w) []:=RB rfl rfl (by show kO 63 (getIdx [] _ (W.int (Int.neg 1))) []=_;rw [g2];rfl);have hC:AZ (BJ 0) [C9 (AE 1) (Jn (AQ (.int 1)))] [some (.str s),some (.lst ((AB 10 p).map W.str)),none] []= .ok (.int (.ofNat w.length)) []:=G8 hI (by show kO 11 (D4 [] _) []=_;rw [g3];rfl);have h2:Bo [AZ (BJ 0) [AE 1],BU .add (AZ (BJ 0) [C9 (AE 1) (Jn (AQ (.int 1)))]) (AQ (.int 1)) false] [some (.str s),some (.lst ((AB 10 p).map W.str)),none] []= .ok (.tup [.int (.ofNat (AB 10 p).length),.int (.ofNat (w.length + 1))]) []:=by
  show (args _ _ _).bind JM=_;rw [N6 hA (Hq hC rfl rfl)];rfl
 have hl:Be (AB 10 p)=w.length:=by unfold Be;rw [hw];rfl
 have len1:1 + ((AB 10 p).length - 1)=(AB 10 p).length:=by obtain ⟨x,y,e2⟩:=GU p;rw [e2,List.length_cons];lia
 rw [ite_self,hl,len1,Nat.add_comm 1];have e1:Kg.go true (zz (lkp [])) [.str s] []=BC (Ey [] (block [EX (Bk 1) (DF (JW (AE 0) none (some (DF (AE 0) 4 [AQ (.str [64])]))) 7 [AQ (.str [10])]),C1 (some (Bo [AZ (BJ 0) [AE 1],BU .add (AZ (BJ 0) [C9 (AE 1) (Jn (AQ (.int 1)))]) (AQ (.int 1)) false]))] [some (.str s),none,none] [])):=by kernel_rfl
 refine Ef (f:=Kg) (Z:=zz (lkp [])) (σ':= []) ?_;rw [e1,blk (l':= [some (.str s),some (.lst ((AB 10 p).map W.str)),none]) (asg h1 rfl) (Nn (w:= .tup [.int (.ofNat (AB 10 p).length),.int (.ofNat (w.length + 1))]) (σ':= []) (by show R.toS _ (Bo _ _ _) _=_;rw [h2];rfl))];rfl
def Ea (a:Nat) (r c:Int):List W:=(C3 60 (Ap a) r c).getD []
noncomputable def rA (a:Nat) (r:Int):Int:=match a with |2=> Int.add r 1 |_=> r
def cA (a:Nat) (c:Int):Int:=match a with |0=> c |1=> AU c 23 |_=> AU 1 23
noncomputable def nA (a:Nat):Nat:=match a with |0=> 0 |1=> 12 |_=> 23
def Jf (l:List W) (o:Option (List W)):Option (List W):=List.rec o (λt υ ih=> ob ih λq=> some (t::q)) l
theorem Kr (l ts:List W):Jf l (some ts)=some (l ++ ts):=by
 induction l with
 |nil=> rfl
 |cons t l ih=> show ob (Jf l (some ts)) _=_;rw [ih];rfl
theorem lt3 {a:Nat} (h:a < 3):a=0\/a=1\/a=2:=by lia
theorem dJ (a:Nat) (ha:a < 3) (m:Nat) (s:List Nat) (r c:Int):C3 (m + nA a) (Ap a ++ s) r c=Jf (Ea a r c) (C3 m s (rA a r) (cA a c)):=by
 rcases lt3 ha with rfl |rfl |rfl
 ·kernel_rfl
 ·kernel_rfl
 ·kernel_rfl
theorem dK (a:Nat) (ha:a < 3) (s:List Nat) (r c:Int):Bs (Ap a ++ s) r c=Bs s (rA a r) (cA a c):=by
 rcases lt3 ha with rfl |rfl |rfl
 ·kernel_rfl
 ·kernel_rfl
 ·kernel_rfl
theorem cQ (a:Nat) (ha:a < 3) (s:List Nat):Bh 64 (Ap a ++ s)=Ap a ++ Bh 64 s:=by
 rcases lt3 ha with rfl |rfl |rfl
 ·kernel_rfl
 ·kernel_rfl
 ·kernel_rfl
theorem nrA (a:Nat) (ha:a < 3) (r c:Int):(nrL (Ea a r c) && Nat.ble (Ea a r c).length 100 && Nat.ble (Ap a).length 100)=true:=by
 rcases lt3 ha with rfl |rfl |rfl
 ·kernel_rfl
 ·kernel_rfl
 ·kernel_rfl
theorem lt4 {a:Nat} (h:a < 4):a=0\/a=1\/a=2\/a=3:=by lia
theorem gG (b c:Nat) (hb:b < 3) (hc:c < 4) (m:Nat) (s:List Nat):C3 (m + (b + c)) (Ah 10 b ++ (Ah 32 c ++ s)) 1 1=C3 m s (AU 1 b) (AU 1 c):=by
 rcases lt3 hb with rfl |rfl |rfl <;> rcases lt4 hc with rfl |rfl |rfl |rfl <;> rfl
theorem C6 (a n:Nat):(Ah a n).length=n:=by
 induction n with
 |zero=> rfl
 |succ n ih=> exact congrArg Nat.succ ih
theorem gX (b c:Nat) (s:List Nat):∀r k:Int,Bs (Ah 10 b ++ (Ah 32 c ++ s)) r k=Bs (Ah 32 c ++ s) (AU r b) (match b with |0=> k |_=> 1):=by
 induction b with
 |zero=> intro r k;rfl
 |succ b ih=>
  intro r k;show Bs (Ah 10 b ++ (Ah 32 c ++ s)) (Int.add r 1) 1=_;rw [ih,FZ];cases b <;> rfl
theorem dG (c:Nat) (s:List Nat):∀r k:Int,Bs (Ah 32 c ++ s) r k=Bs s r (AU k c):=by
 induction c with
 |zero=> intro r k;rfl
 |succ c ih=>
  intro r k;show Bs (Ah 32 c ++ s) r (Int.add k 1)=_;rw [ih,FZ]
theorem Y3 (b a:Nat) (h:(!Nat.beq a 64)=true) (s:List Nat):Bh 64 (Ah a b ++ s)=Ah a b ++ Bh 64 s:=by
 induction b with
 |zero=> rfl
 |succ b ih=>
  show List.filter _ (a::(Ah a b ++ s))=a::(Ah a b ++ Bh 64 s);rw [List.filter_cons_of_pos (p:=λa=> !Nat.beq a 64) h,<- ih];rfl
theorem Nm {l l':List W} (h:nrL l=true) (h':nrL l' =true):nrL (l ++ l')=true:=by
 induction l with
 |nil=> exact h'
 |cons w l ih=>
  obtain ⟨a,b⟩:=C4 h;show Bool.rec (motive:=λυ=> Bool) false (nrL (l ++ l')) (nrW w)=true;rw [a];exact ih b
def Fx (t:List Nat) (o:Option (List W)) (pre:List W):R W:=Option.rec (.stuck 300) (λts=> Kc t (pre ++ ts)) o
def GS (i:Nat) (t:List Nat) (r c r1 c1:Int):R W × R W × R W:=(λo=> (Fx t o [],Fx t o (Ea 1 r1 c1),Fx t o (Ea 2 r1 c1))) (Q9 (Bh 64 (Hl (Cr i))) r c)
def Gi (i:Nat) (r c:Int):R W × R W × R W:=(Kz (MU (Lp (Cr i)) (Hl (Cr i)) r c),Kz (MU (Lp (Cr i)) (Hl (Cr i)) r c),Kz (MU (Lp (Cr i)) (Hl (Cr i)) r c))
def BI (j:Nat) (t:List Nat) (r c r1 c1:Int):(R W × R W × R W) × (R W × R W × R W) × (R W × R W × R W) × (R W × R W × R W):=(GS (4 * j) t r c r1 c1,GS (4 * j + 1) t r c r1 c1,GS (4 * j + 2) t r c r1 c1,GS (4 * j + 3) t r c r1 c1)
def BH (j:Nat) (r c:Int):(R W × R W × R W) × (R W × R W × R W) × (R W × R W × R W) × (R W × R W × R W):=(Gi (4 * j) r c,Gi (4 * j + 1) r c,Gi (4 * j + 2) r c,Gi (4 * j + 3) r c)
def Xc (i:Nat) (t:List Nat) (r c r1 c1:Int):Prop:=GS i t r c r1 c1=Gi i r c
theorem fr0 (t:List Nat) (r c r1 c1:Int):BI 0 t r c r1 c1=BH 0 r c:=by kernel_rfl
theorem fr1 (t:List Nat) (r c r1 c1:Int):BI 1 t r c r1 c1=BH 1 r c:=by kernel_rfl
theorem fr2 (t:List Nat) (r c r1 c1:Int):BI 2 t r c r1 c1=BH 2 r c:=by kernel_rfl
theorem fr3 (t:List Nat) (r c r1 c1:Int):BI 3 t r c r1 c1=BH 3 r c:=by kernel_rfl
theorem fr4 (t:List Nat) (r c r1 c1:Int):BI 4 t r c r1 c1=BH 4 r c:=by kernel_rfl
theorem fr5 (t:List Nat) (r c r1 c1:Int):BI 5 t r c r1 c1=BH 5 r c:=by kernel_rfl
theorem fr6 (t:List Nat) (r c r1 c1:Int):BI 6 t r c r1 c1=BH 6 r c:=by kernel_rfl
theorem fr7 (t:List Nat) (r c r1 c1:Int):BI 7 t r c r1 c1=BH 7 r c:=by kernel_rfl
theorem fr8 (t:List Nat) (r c r1 c1:Int):BI 8 t r c r1 c1=BH 8 r c:=by kernel_rfl
theorem fr9 (t:List Nat) (r c r1 c1:Int):BI 9 t r c r1 c1=BH 9 r c:=by kernel_rfl
theorem dp (t:List Nat) (r c r1 c1:Int):BI 10 t r c r1 c1=BH 10 r c:=by kernel_rfl
theorem dN (t:List Nat) (r c r1 c1:Int):BI 11 t r c r1 c1=BH 11 r c:=by kernel_rfl
theorem cj (t:List Nat) (r c r1 c1:Int):BI 12 t r c r1 c1=BH 12 r c:=by kernel_rfl
theorem dY (t:List Nat) (r c r1 c1:Int):BI 13 t r c r1 c1=BH 13 r c:=by kernel_rfl
theorem da (t:List Nat) (r c r1 c1:Int):BI 14 t r c r1 c1=BH 14 r c:=by kernel_rfl
theorem fF (t:List Nat) (r c r1 c1:Int):BI 15 t r c r1 c1=BH 15 r c:=by kernel_rfl
theorem eE (t:List Nat) (r c r1 c1:Int):BI 16 t r c r1 c1=BH 16 r c:=by kernel_rfl
theorem cI (t:List Nat) (r c r1 c1:Int):BI 17 t r c r1 c1=BH 17 r c:=by kernel_rfl
theorem cT (t:List Nat) (r c r1 c1:Int):BI 18 t r c r1 c1=BH 18 r c:=by kernel_rfl
theorem d6 (t:List Nat) (r c r1 c1:Int):BI 19 t r c r1 c1=BH 19 r c:=by kernel_rfl
theorem gZ (t:List Nat) (r c r1 c1:Int):BI 20 t r c r1 c1=BH 20 r c:=by kernel_rfl
theorem fJ (t:List Nat) (r c r1 c1:Int):BI 21 t r c r1 c1=BH 21 r c:=by kernel_rfl
theorem cF (t:List Nat) (r c r1 c1:Int):BI 22 t r c r1 c1=BH 22 r c:=by kernel_rfl
theorem cD (t:List Nat) (r c r1 c1:Int):BI 23 t r c r1 c1=BH 23 r c:=by kernel_rfl
theorem fU (t:List Nat) (r c r1 c1:Int):BI 24 t r c r1 c1=BH 24 r c:=by kernel_rfl
theorem fW (t:List Nat) (r c r1 c1:Int):BI 25 t r c r1 c1=BH 25 r c:=by kernel_rfl
theorem dn (t:List Nat) (r c r1 c1:Int):BI 26 t r c r1 c1=BH 26 r c:=by kernel_rfl
theorem cP (t:List Nat) (r c r1 c1:Int):BI 27 t r c r1 c1=BH 27 r c:=by kernel_rfl
theorem c7 (t:List Nat) (r c r1 c1:Int):BI 28 t r c r1 c1=BH 28 r c:=by kernel_rfl
theorem dO (t:List Nat) (r c r1 c1:Int):BI 29 t r c r1 c1=BH 29 r c:=by kernel_rfl
theorem frE (t:List Nat) (r c r1 c1:Int):GS 120 t r c r1 c1=Gi 120 r c:=by kernel_rfl
def Sq (P:Nat->Prop) (n:Nat):Nat->Prop:=Nat.rec (λυ=> True) (λυ ih i=> P i/\ih (i + 1)) n
theorem Sq.at {P:Nat->Prop} {n:Nat}:∀{i j:Nat},Sq P n i->i <= j->j < i + n->P j:=by
 induction n with
 |zero=> intro i j _ h1 h2;lia
 |succ n ih=>
  intro i j h h1 h2;by_cases e:j=i
  ·subst e;exact h.1
  ·exact ih h.2 (by lia) (by lia)
section
variable {t:List Nat} {r c r1 c1:Int}
theorem cR:Sq (λj=> BI j t r c r1 c1=BH j r c) 30 0:=⟨fr0 ..,fr1 ..,fr2 ..,fr3 ..,fr4 ..,fr5 ..,fr6 ..,fr7 ..,fr8 ..,fr9 ..,dp ..,dN ..,cj ..,dY ..,da ..,fF ..,eE ..,cI ..,cT ..,d6 ..,gZ ..,fJ ..,cF ..,cD ..,fU ..,fW ..,dn ..,cP ..,c7 ..,dO ..,trivial⟩
theorem MT {i:Nat} (h:i < 121):Xc i t r c r1 c1:=by
 by_cases e:i=120
 ·subst e;exact frE ..
 ·have q:=(cR (t:=t) (r:=r) (c:=c) (r1:=r1) (c1:=c1)).at (j:=i / 4) (Nat.zero_le _) (by lia);have hi:=Nat.div_add_mod i 4;have hk:i % 4 < 4:=Nat.mod_lt _ (by decide);generalize i / 4=j at *
  generalize i % 4=k at *
  subst hi
  match k,hk with
  |0,_=> exact congrArg (λx=> x.1) q
  |1,_=> exact congrArg (λx=> x.2.1) q
  |2,_=> exact congrArg (λx=> x.2.2.1) q
  |3,_=> exact congrArg (λx=> x.2.2.2) q
end
theorem Pz (w:List Nat):A9 w w=true:=by
 induction w with
 |nil=> rfl
 |cons a w ih=>
  show Bool.rec (motive:=λυ=> Bool) false (A9 w w) (Nat.beq a a)=true;rw [Nat.beq_refl];exact ih
theorem Jw (a:Int):Fv a a=true:=by cases a <;> exact Nat.beq_refl _
theorem R9 (w:List Nat) (a b:Int):eqW (.tup [.str w,.tup [.int a,.int b]]) (.tup [.str w,.tup [.int a,.int b]])=some true:=by
 show JI (some (A9 w w)) (JI (JI (some (Fv a a)) (JI (some (Fv b b)) (some true))) (some true))=_;rw [Pz,Jw,Jw];rfl
theorem S3 (ns:List Int):nrL (ns.map W.int)=true:=by
 induction ns with
 |nil=> rfl
 |cons a l ih=> exact ih
theorem Qg {s:List Nat}:∀{r c:Int},(cutAt s).isSome=true->∃q,Bs s r c=some q:=by
 induction s with
 |nil=> intro r c h;cases h
 |cons ch s ih=>
  intro r c h;show ∃q,(bif Nat.beq ch 64 then some (r,c) else bif Nat.beq ch 10 then Bs s (Int.add r 1) 1 else Bs s r (Int.add c 1))=some q;have h:(bif Nat.beq ch 64 then some [] else ob (cutAt s) λp=> some (ch::p)).isSome=true:=h;generalize e:Nat.beq ch 64=x9;induction x9 using bC with
  |true=> exact ⟨_,rfl⟩
  |false=>
   rw [e] at h;have h:(ob (cutAt s) λp=> some (ch::p)).isSome=true:=h;have h:(cutAt s).isSome=true:=by generalize e2:cutAt s=x9;induction x9 using oC with
    |none=> rw [e2] at h;cases h
    |some=> rfl
   cases Nat.beq ch 10 with
   |true=> exact ih h
   |false=> exact ih h
theorem KU (x:Int) (n:Nat) (h:0 < n):∃i,i < n/\Int.fmod x (Int.ofNat n)=Int.ofNat i:=by
 have h1:=Int.fmod_nonneg_of_pos x (b:=(n:Int)) (by lia);have h2:=Int.fmod_lt_of_pos x (b:=(n:Int)) (by lia);obtain ⟨i,hi⟩:=Int.eq_ofNat_of_zero_le h1;exact ⟨i,by lia,hi⟩
def cV (w:W):Bool:=match w with
 | .tup [.str s,d]=> Nat.ble s.length 1000 && (match d with | .str _=> (cutAt s).isSome | .lst _=> (match eqW d d with |some b=> b |none=> false) |_=> false)
 |_=> false
theorem LD:Bd.length=121:=by kernel_rfl
theorem Va:Ip [] []= .ok (.lst Bd) []:=by kernel_rfl
theorem Uz:Bd.all cV=true:=by kernel_rfl
theorem Xv {i:Nat} (h:i < 121):∃s d,nth Bd i=some (.tup [.str s,d])/\Cr i= .tup [.str s,d]/\s.length <= 1000/\((∃w,d= .str w/\(cutAt s).isSome=true)\/(∃l,d= .lst l/\eqW d d=some true)):=by
 have hl:i < Bd.length:=by rw [LD];exact h
 have e:nth Bd i=some Bd[i]:=by rw [AL,List.getElem?_eq_getElem hl]
 have b:=List.all_eq_true.mp Uz _ (List.getElem_mem hl);unfold Cr;rw [e];generalize Bd[i]=w at b;induction w using W.casesOn with
 |tup l=> induction l using lC with
  |cons a l=> induction a using W.casesOn with
   |str s=> induction l using lC with
    |cons d l=> induction l using lC with
     |nil=>
      obtain ⟨b1,b2⟩:=BY b;refine ⟨s,d,rfl,rfl,lBl b1, ?_⟩;induction d using W.casesOn with
      |str w=> exact .inl ⟨_,rfl,b2⟩
      |lst l=>
       refine .inr ⟨_,rfl, ?_⟩;revert b2;show (match eqW (.lst l) (.lst l) with |some b=> b |none=> false)=true->_;cases eqW (.lst l) (.lst l) with
       |none=> exact λb2=> ff b2
       |some q=> exact λb2=> b2▸rfl
      |_=> exact ff b2
     |cons _ _=> exact ff b
    |nil=> exact ff b
   |_=> exact ff b
  |nil=> exact ff b
 |_=> exact ff b
theorem W9 {o:Option W} {V:W} (h:o=some V):Kz o= .ok V []:=by rw [h];rfl
theorem aU (a:Nat) (h:a < 3):nA a <= 23:=by rcases lt3 h with rfl |rfl |rfl <;> decide
theorem MG {n:Nat} (h:n <= 5000):n <= LIM:=Nat.le_trans h (by decide)
theorem aC (r c:Int):Ea 0 r c= []:=by kernel_rfl
theorem aG {a:Nat} (ha:a < 3) {t:List Nat} {o:Option (List W)} {r c:Int} {v:R W} (h:(Fx t o [],Fx t o (Ea 1 r c),Fx t o (Ea 2 r c))=(v,v,v)):Fx t o (Ea a r c)=v:=by
 obtain ⟨h0,h⟩:=Prod.mk.inj h;obtain ⟨h1,h2⟩:=Prod.mk.inj h;rcases lt3 ha with rfl |rfl |rfl
 ·rw [aC];exact h0
 ·exact h1
 ·exact h2
theorem MM (RF:∀{t:List Nat} {r c r1 c1:Int} {i:Nat},i < 121->Xc i t r c r1 c1) {i a b k:Nat} {s:List Nat} {d V:W} (hi:i < 121) (e:Cr i= .tup [.str s,d]) (ha:a < 3) (hb:b < 3) (hk:k < 4) (sl:s.length <= 1000) (hV:MU d s (rA a (AU 1 b)) (cA a (AU 1 k))=some V) {σ:List O}:
  FJ [.str (Bh 64 (Ah 10 b ++ (Ah 32 k ++ (Ap a ++ s))))] σ= .ok V σ:=by
 have dl:Bh 64 (Ah 10 b ++ (Ah 32 k ++ (Ap a ++ s)))=Ah 10 b ++ (Ah 32 k ++ (Ap a ++ Bh 64 s)):=by
  rw [Y3 b 10 rfl,Y3 k 32 rfl,cQ a ha]
 rw [dl];generalize ht:Ah 10 b ++ (Ah 32 k ++ (Ap a ++ Bh 64 s))=t;have rf:GS i t (rA a (AU 1 b)) (cA a (AU 1 k)) (AU 1 b) (AU 1 k)=Gi i (rA a (AU 1 b)) (cA a (AU 1 k)):=RF hi;have rT:Hl (Cr i)=s:=by rw [e];rfl
 have rD:Lp (Cr i)=d:=by rw [e];rfl
 unfold GS Gi at rf;rw [rT,rD,W9 hV] at rf;have h3:=aG ha rf;generalize o:Q9 (Bh 64 s) (rA a (AU 1 b)) (cA a (AU 1 k))=x9;induction x9 using oC with
 |none=> rw [o] at h3;cases h3
 |some ts=>
 rw [o] at h3;have h3:Kc t (Ea a (AU 1 b) (AU 1 k) ++ ts)= .ok V []:=h3;obtain ⟨ts',o1,o2⟩:=AA o;obtain ⟨o3,o4⟩:=AJ o2;cases o4;obtain ⟨n1,n2⟩:=BY o3;obtain ⟨m1,m3⟩:=BY (nrA a ha (AU 1 b) (AU 1 k));obtain ⟨m1,m2⟩:=BY m1;have m2:=lBl m2;have m3:=lBl m3;have n2:=lBl n2;have lx:C3 (400 + nA a + (b + k)) t 1 1=some (Ea a (AU 1 b) (AU 1 k) ++ ts):=by
  rw [<- ht,gG b k hb hk,dJ a ha,o1,Kr]
 have nz:=aU a ha;have dz:(Bh 64 s).length <= 1000:=Nat.le_trans (List.length_filter_le ..) sl;have tl:t.length < 1000000:=by
  rw [<- ht];simp only [List.length_append,C6];lia
 have g:=Ue lx tl (MG (by rw [List.length_append];lia)) (by lia) (Nm m1 n1);exact Ef (f:=HE) (Z:=zz (lkp [(464,K2),(887,Jc),(894,JV)])) (σ':= []) (g.trans h3)
section
variable {l l':LL} {σ σ':List O} {w:W} {e:SE}
theorem aN {o:Bop} {a b v:Int} (h:E6 o a b=some v):Hu o false (.int a) (.int b) σ= .ok (.int v) σ:=by
 have g:gd (isAdd o) (snap σ (.int a))=none:=by cases o <;> rfl
 show Option.rec (motive:=λυ=> R W) (kO 66 (orO (ob (E6 o a b) λc=> some (W.int c)) none) σ) _ (gd (isAdd o) (snap σ (.int a)))=_;rw [g,h];rfl
theorem Oj {a b:List Nat} (h:a.length + b.length <= 5000):Hu .add false (.str a) (.str b) σ= .ok (.str (a ++ b)) σ:=by
 show kO 66 (ob (gd (Nat.ble (a.length + b.length) LIM) (some (a ++ b))) λc=> some (W.str c)) σ=_;rw [Nat.ble_eq_true_of_le (MG h)];rfl
theorem Tz {a n:Nat} (h:n <= 100):Hu .mul false (.str [a]) (.int (.ofNat n)) σ= .ok (.str (Ah a n)) σ:=by
 show kO 66 (ob (gd (Nat.ble n 1000000) (some (Ah a n))) λc=> some (W.str c)) σ=_;rw [Nat.ble_eq_true_of_le (Nat.le_trans h (by decide))];rfl
theorem binI {o:Bop} {x y:SE} {a b v:Int} (h:x l σ= .ok (.int a) σ) (h2:y l σ= .ok (.int b) σ) (g:E6 o a b=some v):BU o x y false l σ= .ok (.int v) σ:=Hq h h2 (aN g)
end
def B3 (ns:List Int) (k:Nat):Int:=(nth ns k).getD 0
theorem Ll {ns:List Int} {k:Nat} {σ:List O} (z:ns.length <= 5000):KY [.lst (ns.map W.int),.int (.ofNat k)] σ= .ok (.int (B3 ns k)) σ:=by
 refine Ef (f:=KW) (Z:=zz (lkp [])) (σ':= []) ?_;have hl:D4 [] (W.lst (ns.map W.int))=some (W.int (.ofNat ns.length)):=by
  show gd (Nat.ble (ns.map W.int).length LIM) (some (W.int (.ofNat (ns.map W.int).length)))=_;rw [List.length_map,Nat.ble_eq_true_of_le (MG z)];rfl
 have e1:KW.go true (zz (lkp [])) [.lst (ns.map W.int),.int (.ofNat k)] []=BC (Bool.rec (motive:=λυ=> RS) (.stuck 120) (Ey [] (block [C1 (some (HV (B7 (AE 1) .lt (AZ (BJ 0) [AE 0])) (C9 (AE 0) (AE 1)) (AQ (.int 0))))] [some (.lst (ns.map W.int)),some (.int (.ofNat k)),none] [])) (Bool.rec (motive:=λυ=> Bool) false true (nrL (ns.map W.int)))):=by kernel_rfl
 rw [e1,S3];show BC (Ey [] _)=_;have h:HV (B7 (AE 1) .lt (AZ (BJ 0) [AE 0])) (C9 (AE 0) (AE 1)) (AQ (.int 0)) [some (.lst (ns.map W.int)),some (.int (.ofNat k)),none] []= .ok (.int (B3 ns k)) []:=by
  have c:B7 (AE 1) .lt (AZ (BJ 0) [AE 0]) [some (.lst (ns.map W.int)),some (.int (.ofNat k)),none] []= .ok (.bool (Nat.blt k ns.length)) []:=CH (w:= .int (.ofNat k)) (w2:= .int (.ofNat ns.length)) rfl (G8 (w:= .lst (ns.map W.int)) rfl (by show kO 11 (D4 [] _) []=_;rw [hl];rfl)) rfl;show R.bind (B7 _ _ _ _ _) _=_;rw [c];unfold B3;generalize q:Nat.blt k ns.length=x9;induction x9 using bC with
  |false=>
   have:nth ns k=none:=by
    rw [AL];refine List.getElem?_eq_none ?_;refine Nat.le_of_not_lt λh=> ?_
    rw [show Nat.blt k ns.length=true from Nat.ble_eq_true_of_le h] at q;cases q
   rw [this];rfl
  |true=>
   have hk:k < ns.length:=lBl q;have e2:nth ns k=some ns[k]:=by rw [AL,List.getElem?_eq_getElem hk]
   show kO 63 (orO (orO (nth (ns.map W.int) k) _) _) []=_;rw [AL,List.getElem?_map,<- AL,e2];rfl
 rw [Nn (w:= .int (B3 ns k)) (σ':= []) (by show R.toS _ (HV _ _ _ _ _) _=_;rw [h];rfl)];rfl
def ZT:Sys:=zz (look GL)
def lb (i:Nat):S:=sAt (wA (sAt Fq.body 2)) i
abbrev HH:SS:=block [BK ZT (lb 0),BK ZT (lb 1),BK ZT (lb 2),BK ZT (lb 3),Dg ZT (lb 4),Dg ZT (lb 5)]
theorem t1:ZT.fn 1114=Ip:=rfl
theorem t2:ZT.fn 1074=KY:=rfl
theorem t3:ZT.fn 1133=HD:=rfl
theorem t4:ZT.fn 1138=FJ:=rfl
abbrev lL (S:W) (f st:Int) (x4 x5 x6 x7 x8:Option W):LL:= [some S,some (.lst Bd),some (.int f),some (.int st),x4,x5,x6,x7,x8,none]
theorem dE {a:Int} {k:Nat} (h:k < 8):E6 .mul a (.ofNat k)=some (Int.mul a (.ofNat k)):=by
 show gd (FC a ||FC (.ofNat k)) _=_;have:FC (.ofNat k)=true:=Nat.ble_eq_true_of_le (Nat.le_trans h (by decide));rw [this,Bool.or_true];rfl
theorem SP {a:Nat} (ha:a < 3) {σ:List O}:getIdx σ (.lst [.str (Ap 0),.str (Ap 1),.str (Ap 2)]) (.int (.ofNat a))=some (.str (Ap a)):=by
 rcases lt3 ha with rfl |rfl |rfl <;> rfl
theorem P8 {σ:List O} {w v:W} (h:D4 σ w=some v):BJ 0 [w] σ= .ok v σ:=by
 show kO 11 (D4 σ w) σ=_;rw [h];rfl
theorem fb {σ:List O}:D4 σ (W.lst Bd)=some (W.int (.ofNat 121)):=by
 show gd (Nat.ble Bd.length LIM) (some (W.int (.ofNat Bd.length)))=_;rw [LD];rfl
section
variable {ns:List Int} {k:Nat} {f st:Int} {x5 x6 x7 x8:Option W} {σ:List O}
theorem l0 (hk:k < 8) {i:Nat} {s:List Nat} {d S:W} (hi:Int.fmod (Int.add f (Int.mul st (.ofNat k))) (.ofNat 121)= .ofNat i) (e:nth Bd i=some (.tup [.str s,d])):
  BK ZT (lb 0) (lL S f st (some (.int (.ofNat k))) x5 x6 x7 x8) σ= .next (lL S f st (some (.int (.ofNat k))) (some (.str s)) (some d) x7 x8) σ:=by
 show KR [Bk 5,Bk 6] (C9 (AE 1) (BU .mod (BU .add (AE 2) (BU .mul (AE 3) (AE 4) false) false) (AZ (BJ 0) [AE 1]) false)) _ _=_;have g:E6 .mod (Int.add f (Int.mul st (.ofNat k))) (.ofNat 121)=some (.ofNat i):=by
  show some (Int.fmod (Int.add f (Int.mul st (.ofNat k))) (.ofNat 121))=_;rw [hi]
 have hx:C9 (AE 1) (BU .mod (BU .add (AE 2) (BU .mul (AE 3) (AE 4) false) false) (AZ (BJ 0) [AE 1]) false) (lL S f st (some (.int (.ofNat k))) x5 x6 x7 x8) σ= .ok (.tup [.str s,d]) σ:=
  RB (w:= .lst Bd) rfl (binI (binI (v:=Int.add f (Int.mul st (.ofNat k))) rfl (binI rfl rfl (dE hk)) rfl) (G8 (w:= .lst Bd) rfl (P8 fb)) g) (by
   show kO 63 (orO (orO (nth Bd i) _) _) σ=_;rw [e];rfl)
 show R.toS _ (C9 _ _ _ _) _=_;rw [hx];rfl
theorem l1 (z:ns.length <= 5000):BK ZT (lb 1) (lL (.lst (ns.map W.int)) f st (some (.int (.ofNat k))) x5 x6 x7 x8) σ= .next (lL (.lst (ns.map W.int)) f st (some (.int (.ofNat k))) x5 x6 (some (.int (B3 ns (2 + k)))) x8) σ:=by
 show EX (Bk 7) (AZ (ZT.fn 1074) [AE 0,BU .add (AQ (.int 2)) (AE 4) false]) _ _=_;exact asg (call2 (w:= .lst (ns.map W.int)) (w2:= .int (.ofNat (2 + k))) rfl (binI rfl rfl rfl) (by rw [t2];exact Ll z)) rfl
theorem l2 {a:Nat} {dg:Int} {S:W} (ha:a < 3) (h:Int.fmod dg (.ofNat 3)= .ofNat a):BK ZT (lb 2) (lL S f st (some (.int (.ofNat k))) x5 x6 (some (.int dg)) x8) σ= .next (lL S f st (some (.int (.ofNat k))) x5 x6 (some (.int dg)) (some (.str (Ap a)))) σ:=by
 show EX (Bk 8) (C9 (S0 [AQ (.str (Ap 0)),AQ (.str (Ap 1)),AQ (.str (Ap 2))] false) (BU .mod (AE 7) (AQ (.int 3)) false)) _ _=_;have g:E6 .mod dg (.ofNat 3)=some (.ofNat a):=by
  show some (Int.fmod dg (.ofNat 3))=_;rw [h]
 exact asg (RB (w:= .lst [.str (Ap 0),.str (Ap 1),.str (Ap 2)]) (w2:= .int (.ofNat a)) rfl (binI rfl rfl g) (by rw [SP ha];rfl)) rfl
theorem l3 {b c:Nat} {dg:Int} {S d:W} {s u:List Nat} (hb:b < 3) (hc:c < 4) (h1:Int.fmod (Int.fdiv dg (.ofNat 3)) (.ofNat 3)= .ofNat b) (h2:Int.fmod (Int.fdiv dg (.ofNat 9)) (.ofNat 4)= .ofNat c) (sl:s.length <= 1000) (ul:u.length <= 100):
  BK ZT (lb 3) (lL S f st (some (.int (.ofNat k))) (some (.str s)) (some d) (some (.int dg)) (some (.str u))) σ= .next (lL S f st (some (.int (.ofNat k))) (some (.str (Ah 10 b ++ (Ah 32 c ++ (u ++ s))))) (some d) (some (.int dg)) (some (.str u))) σ:=by
 show EX (Bk 5) (BU .add (BU .add (BU .add (BU .mul (AQ (.str [10])) (BU .mod (BU .fdiv (AE 7) (AQ (.int 3)) false) (AQ (.int 3)) false) false) (BU .mul (AQ (.str [32])) (BU .mod (BU .fdiv (AE 7) (AQ (.int 9)) false) (AQ (.int 4)) false) false) false) (AE 8) false) (AE 5) false) _ _=_;have g1:E6 .mod (Int.fdiv dg (.ofNat 3)) (.ofNat 3)=some (.ofNat b):=by
  show some (Int.fmod (Int.fdiv dg (.ofNat 3)) (.ofNat 3))=_;rw [h1]
 have g2:E6 .mod (Int.fdiv dg (.ofNat 9)) (.ofNat 4)=some (.ofNat c):=by
  show some (Int.fmod (Int.fdiv dg (.ofNat 9)) (.ofNat 4))=_;rw [h2]
 rw [<- List.append_assoc,<- List.append_assoc];have L1:(Ah 10 b ++ Ah 32 c).length <= 10:=by rw [List.length_append,C6,C6];lia
 have L2:(Ah 10 b ++ Ah 32 c ++ u).length <= 200:=by rw [List.length_append];lia
 refine asg (Hq (Hq (Hq (Hq rfl (binI (binI rfl rfl rfl) rfl g1) (Tz (by lia))) (Hq rfl (binI (binI rfl rfl rfl) rfl g2) (Tz (by lia))) (Oj (by rw [C6,C6];lia))) rfl (Oj (by lia))) rfl (Oj (by lia))) ?_;rfl
end
section
variable {k:Nat} {f st:Int} {x5 x6 x7 x8:Option W} {σ:List O} {S:W}
theorem l45 {t:List Nat} {d V:W} (h:FJ [.str (Bh 64 t)] σ= .ok V σ) (hd:(∃(w:List Nat) (q:Int × Int),d= .str w/\V= .tup [.str w,.tup [.int q.1,.int q.2]]/\HD [.str t] σ= .ok (.tup [.int q.1,.int q.2]) σ)\/(∃l,d= .lst l/\V=d/\eqW d d=some true)):
  block [Dg ZT (lb 4),Dg ZT (lb 5)] (lL S f st (some (.int (.ofNat k))) (some (.str t)) (some d) x7 x8) σ= .next (lL S f st (some (.int (.ofNat k))) (some (.str t)) (some V) x7 x8) σ:=by
 have last:eqW V V=some true->Dg ZT (lb 5) (lL S f st (some (.int (.ofNat k))) (some (.str t)) (some V) x7 x8) σ= .next (lL S f st (some (.int (.ofNat k))) (some (.str t)) (some V) x7 x8) σ:=λe=> by
  refine itF (σ':=σ) ?_ rfl;show B7 (AZ (ZT.fn 1138) [Sj (AE 5) 64]) .ne (AE 6) _ _=_;refine CH (w:=V) (w2:=V) (G8 (w:= .str (Bh 64 t)) rfl (by rw [t4];exact h)) rfl ?_;show Jo (eqW V V)=_;rw [e];rfl
 rcases hd with ⟨w,q,rfl,rfl,hp⟩ |⟨l,rfl,rfl,e⟩
 ·refine blk (l':=lL S f st (some (.int (.ofNat k))) (some (.str t)) (some (.tup [.str w,.tup [.int q.1,.int q.2]])) x7 x8) (itT (σ':=σ) rfl (Bx ?_)) (Bx (last (R9 _ _ _)));show EX (Bk 6) (Bo [AE 6,AZ (ZT.fn 1133) [AE 5]]) _ _=_;refine asg (w:= .tup [.str w,.tup [.int q.1,.int q.2]]) (σ':=σ) ?_ rfl;show (args _ _ _).bind JM=_;rw [N6 (w:= .str w) (w2:= .tup [.int q.1,.int q.2]) (σ':=σ) (σ2:=σ) rfl (G8 (w:= .str t) rfl (by rw [t3];exact hp))];rfl
 ·exact blk (l':=lL S f st (some (.int (.ofNat k))) (some (.str t)) (some (.lst l)) x7 x8) (itF (σ':=σ) rfl rfl) (Bx (last e))
theorem Vj {ns:List Int} (z:ns.length <= 5000) (hk:k < 8):∃y5 y6 y7 y8,HH (lL (.lst (ns.map W.int)) f st (some (.int (.ofNat k))) x5 x6 x7 x8) σ= .next (lL (.lst (ns.map W.int)) f st (some (.int (.ofNat k))) y5 y6 y7 y8) σ:=by
 obtain ⟨i,hi,ei⟩:=KU (Int.add f (Int.mul st (.ofNat k))) 121 (by decide);obtain ⟨s,d,e1,e2,sl,hd⟩:=Xv hi;obtain ⟨a,ha,ea⟩:=KU (B3 ns (2 + k)) 3 (by decide);obtain ⟨b,hb,eb⟩:=KU (Int.fdiv (B3 ns (2 + k)) (.ofNat 3)) 3 (by decide);obtain ⟨c,hc,ec⟩:=KU (Int.fdiv (B3 ns (2 + k)) (.ofNat 9)) 4 (by decide);have al:(Ap a).length <= 100:=lBl (BY (nrA a ha 1 1)).2;have tl:(Ah 10 b ++ (Ah 32 c ++ (Ap a ++ s))).length < 1000000:=by
  rw [List.length_append,List.length_append,List.length_append,C6,C6];lia
 have pl:Bs (Ah 10 b ++ (Ah 32 c ++ (Ap a ++ s))) 1 1=Bs s (rA a (AU 1 b)) (cA a (AU 1 c)):=by
  rw [gX,dG,dK a ha];cases b <;> rfl
 have fin:∃V,FJ [.str (Bh 64 (Ah 10 b ++ (Ah 32 c ++ (Ap a ++ s))))] σ= .ok V σ/\((∃(w:List Nat) (q:Int × Int),d= .str w/\V= .tup [.str w,.tup [.int q.1,.int q.2]]/\HD [.str (Ah 10 b ++ (Ah 32 c ++ (Ap a ++ s)))] σ= .ok (.tup [.int q.1,.int q.2]) σ)\/(∃l,d= .lst l/\V=d/\eqW d d=some true)):=by
  rcases hd with ⟨w,rfl,g⟩ |⟨l,rfl,g⟩
  ·obtain ⟨q,hq⟩:=Qg (r:=rA a (AU 1 b)) (c:=cA a (AU 1 c)) g;refine ⟨_,MM (λh=> MT h) hi e2 ha hb hc sl (V:= .tup [.str w,.tup [.int q.1,.int q.2]]) ?_,.inl ⟨w,q,rfl,rfl,RQ (pl.trans hq) tl⟩⟩;show ob (Bs s _ _) _=_;rw [hq];rfl
  ·exact ⟨_,MM (λh=> MT h) hi e2 ha hb hc sl (V:= .lst l) rfl,.inr ⟨l,rfl,rfl,g⟩⟩
 obtain ⟨V,g1,g2⟩:=fin;exact ⟨_,_,_,_,blk (l0 hk ei e1) (blk (l1 z) (blk (l2 ha ea) (blk (l3 hb hc eb ec sl al) (l45 g1 g2))))⟩
end
theorem PS {ns:List Int} (z:ns.length <= 5000):Fq.run ZT [.lst (ns.map W.int)] []= .ok (.bool true) []:=by
 have e0:Fq.run ZT [.lst (ns.map W.int)] []=BC (block [EX (Bk 1) (AZ (ZT.fn 1114) []),KR [Bk 2,Bk 3] (Bo [AZ (ZT.fn 1074) [AE 0,AQ (.int 0)],BU .add (AQ (.int 1)) (BU .mod (AZ (ZT.fn 1074) [AE 0,AQ (.int 1)]) (AQ (.int 7)) false) false]),λl σ=> Dl [4] HH (CQ 8 0) l σ,C1 (some (AQ (.bool true)))] [some (.lst (ns.map W.int)),none,none,none,none,none,none,none,none,none] []):=rfl;rw [e0];refine congrArg BC (a₂:= .ret (.bool true) []) ?_;refine blk (l':= [some (.lst (ns.map W.int)),some (.lst Bd),none,none,none,none,none,none,none,none]) (σ':= []) (asg (w:= .lst Bd) (σ':= []) ?_ rfl) ?_
 ·show ZT.fn 1114 [] []=_;rw [t1];exact Va
 refine blk (l':=lL (.lst (ns.map W.int)) (B3 ns 0) (Int.add 1 (Int.fmod (B3 ns 1) 7)) none none none none none) (σ':= []) ?_ ?_
 ·have h:Bo [AZ (ZT.fn 1074) [AE 0,AQ (.int 0)],BU .add (AQ (.int 1)) (BU .mod (AZ (ZT.fn 1074) [AE 0,AQ (.int 1)]) (AQ (.int 7)) false) false] [some (.lst (ns.map W.int)),some (.lst Bd),none,none,none,none,none,none,none,none] []= .ok (.tup [.int (B3 ns 0),.int (Int.add 1 (Int.fmod (B3 ns 1) 7))]) []:=by
   show (args _ _ _).bind JM=_;rw [N6 (σ2:= []) (call2 (w:= .lst (ns.map W.int)) (w2:= .int (.ofNat 0)) rfl rfl (by rw [t2];exact Ll z)) (binI (v:=Int.add 1 (Int.fmod (B3 ns 1) 7)) rfl (binI (v:=Int.fmod (B3 ns 1) 7) (call2 (w:= .lst (ns.map W.int)) (w2:= .int (.ofNat 1)) rfl rfl (by rw [t2];exact Ll z)) rfl rfl) rfl)];rfl
  show R.toS _ (Bo _ _ _) _=_;rw [h];rfl
 have loop:∀(n j:Nat),n + j=8->∀x4 x5 x6 x7 x8,∃y4 y5 y6 y7 y8,Dl [4] HH (CQ n j) (lL (.lst (ns.map W.int)) (B3 ns 0) (Int.add 1 (Int.fmod (B3 ns 1) 7)) x4 x5 x6 x7 x8) []= .next (lL (.lst (ns.map W.int)) (B3 ns 0) (Int.add 1 (Int.fmod (B3 ns 1) 7)) y4 y5 y6 y7 y8) []:=by
  intro n;induction n with
  |zero=> intro j _ x4 x5 x6 x7 x8;exact ⟨x4,x5,x6,x7,x8,rfl⟩
  |succ n ih=>
   intro j hj x4 x5 x6 x7 x8;obtain ⟨y5,y6,y7,y8,e⟩:=Vj (k:=j) (f:=B3 ns 0) (st:=Int.add 1 (Int.fmod (B3 ns 1) 7)) (x5:=x5) (x6:=x6) (x7:=x7) (x8:=x8) (σ:= []) z (by lia);obtain ⟨a4,a5,a6,a7,a8,g⟩:=ih (j + 1) (by lia) (some (.int (.ofNat j))) y5 y6 y7 y8;refine ⟨a4,a5,a6,a7,a8, ?_⟩;show (HH (lL (.lst (ns.map W.int)) (B3 ns 0) (Int.add 1 (Int.fmod (B3 ns 1) 7)) (some (.int (.ofNat j))) x5 x6 x7 x8) []).then (Dl [4] HH (CQ n (j + 1)))=_
   rw [e];exact g
 obtain ⟨y4,y5,y6,y7,y8,e⟩:=loop 8 0 rfl none none none none none;exact blk (s:=λl σ=> Dl [4] HH (CQ 8 0) l σ) e rfl
theorem V4:Cq.run ZT=Fq.run ZT:=by kernel_rfl
theorem Vd {ns:List Int} (z:ns.length <= 5000):Cq.run ZT [.lst (ns.map W.int)] []= .ok (.bool true) []:=(congrFun (congrFun V4 _) _).trans (PS z)
end
section
open PySem PySem.W PySem.Spec PySem.Calls PyProof.Rows PySem.SeqAt
theorem Vr {R:WRecords} {xs:List WData} (h:WShape.hasItems R xs .int=true):∃ns:List Int,xs=ofPys (ns.map PyData.int):=by
 induction xs with
 |nil=> exact ⟨[],rfl⟩
 |cons x xs ih=>
  unfold WShape.hasItems at h;obtain ⟨h1,h2⟩:=Bool.and_eq_true_iff.mp h;obtain ⟨i,rfl⟩:=hasW_int h1;obtain ⟨ns,rfl⟩:=ih h2;exact ⟨i::ns,rfl⟩
theorem Qq (ns:List Int):(ofPys (ns.map PyData.int)).length=ns.length:=by
 induction ns with
 |nil=> rfl
 |cons i ns ih=> exact congrArg Nat.succ ih
theorem TF {R:WRecords} {cl:Str->Option Addr} {h:Heap} {T:Tb} {F:Ad} {μ:Mu}:∀(ns:List Int) {vs:List Value} {as:List Addr},ReadsAllW R cl h vs (ofPys (ns.map PyData.int)) as->AD T F μ (ns.map W.int) vs:=by
 intro ns;induction ns with
 |nil=> intro vs as r;cases r;rfl
 |cons i ns ih=>
  intro vs as r;obtain ⟨v,vs',a,b,rfl,rfl,r1,r2⟩:=readsAllW_cons_inv r;obtain ⟨t,rfl,_⟩:=readsW_int_inv r1;exact ⟨_,_,rfl,⟨t,rfl⟩,ih r2⟩
theorem short {ns:List Int} (h:RW1.row.pre.holds RW1.row.records {args:= [.list (ofPys (ns.map PyData.int))]}=true):ns.length <= 63:=by
 have h1:WTm.holds RW1.row.records (WTm.not (WTm.lt (WTm.lit (.int 63)) (WTm.len (WTm.arg 0)))) {args:= [.list (ofPys (ns.map PyData.int))]}=true:=(holds_andW h).1;simp [WTm.holds,WTm.value,W.less?,Num.less?,Qq] at h1;by_cases q:(63:Int) < ns.length
 ·simp [q] at h1
 ·lia
theorem QG:RW1.row.toRowW.promised:=by
 refine ⟨[.list []], ?_, ?_⟩
 ·decide +kernel
 ·decide +kernel
theorem Zr (args:List WData):RW1.row.toRowW.claim.post args (.bool true) args=true:=by
 kernel_rfl
theorem ZL (P:Params):((H1 P).isNs mainGlobals,(H1 P).nsMap mainGlobals RW1.row.name)=(true,some (.ref 1145)):=by kernel_rfl
set_option tactic.hygienic true in
theorem Qx (said:RW1.row.wellSaid=true):RW1.row.Holds:=by
 refine ZA (r:=RW1.row) Zy rfl d1 d2 d3 said c6 bS QG λw s₀ s₁ mg hmg y args vs as a ha hpre L hg=> ?_
 obtain ⟨y1,y2⟩:=Prod.mk.inj y;have hc:=pre_splitW hpre;obtain ⟨d,r,rfl,hd,hr⟩:=hasAllW_cons hc.1;obtain rfl:=hasAllW_nil hr;obtain ⟨xs,rfl,hx⟩:=hasW_list hd;obtain ⟨ns,rfl⟩:=Vr hx;have len:=short hc.2;obtain ⟨v,vs',as1,as2,rfl,rfl,r1,r2⟩:=readsAllW_cons_inv L.reads;obtain ⟨rfl,rfl⟩:=readsAllW_nil_inv r2;have keep:Keeps (H1 w.params) s₁.heap:=λb o e=> L.keeps b o (by rw [y1];exact e)
 obtain ⟨n1,n2⟩:=Prod.mk.inj (ZL w.params);have hN:=(Heap.Ns.of_isNs n1).keeps keep;have:=hmg.agree hN RW1.row.name;rw [ha,n2] at this;cases this;have tk:1 <= s₁.toks:=by
  cases r1
  rename_i b o vs n xs o1 o2 o3 r
  rw [List.append_nil] at L;exact Nat.le_trans (by decide) (X.script_toks L y2)
 refine ⟨tk, ?_⟩;have rv:Rel (T1 w.params) (λa o=> s₁.heap.get? a=some o) mu0 (.lst (ns.map W.int)) v:=by
  cases r1
  rename_i b o vs n xs o1 o2 o3 r
  rw [List.append_nil] at L;have hl:s₁.heap.IsList b vs:=⟨o,o1,o2,n,o3⟩;have g:=X.script_obj L hl;refine ⟨b,vs.toList,0,rfl, ?_, ?_,TF ns r⟩
  ·exact g
  ·rw [List.length_map];exact Nat.le_trans len (by decide)
 refine Bw.call (Vk keep rv (Vd (Nat.le_trans len (by decide))) λu s' k1 k2 k3 k4=> ?_);obtain ⟨F,μ,k4⟩:=k4;obtain rfl:u= .bool true:=k4;exact ⟨.inl ⟨_,.bool true,[],rfl,λυ=> rfl,.bool true,Zr _,λυ=> ⟨List.nodup_nil,λa h=> absurd h List.not_mem_nil⟩⟩,.of_keep k1,k3,.of_eq (k2.trans hg)⟩
end
end AR
end
theorem PySem.Challenge.cw_nm0175_01_holds : PySem.Challenge.rw_nm0175_01.Holds :=
  PySem.W.holds_law AR.bW AR.Qx
