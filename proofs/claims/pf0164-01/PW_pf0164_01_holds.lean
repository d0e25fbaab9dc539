import PyProof.Rows.All
import Wide.All
import OpenK.AllK
import Wide.FinOn
import KE.KLam
import KE.KDictOf
import KE.KStateDown
import Lean
import PySem.Challenge.RW_pf0164_01
set_option Elab.async false
set_option linter.unusedVariables false
set_option linter.unusedSimpArgs false
set_option maxRecDepth 100000
set_option tactic.hygienic false
set_option genSizeOf false
set_option bootstrap.genMatcherCode false
open PySem PySem.W PyProof.Rows
namespace Mine.Internal
section
variable {a b c d e n m k i j x y z:Nat}
theorem lb (h:a≤b) (g:Nat.ble b c=true):a≤c:=Nat.le_trans h (Nat.le_of_ble_eq_true g)
theorem la (h:a≤b) (g:Nat.ble (b+n) c=true):a+n≤c:=lb (Nat.add_le_add_right h n) g
theorem lm (h:a≤b) (g:c≤d) (k:Nat.ble (b+d) e=true):a+c≤e:=lb (Nat.add_le_add h g) k
theorem ll (h:a+b≤c) (g:d≤a):d≤c:=Nat.le_trans g (Nat.le_trans (Nat.le_add_right a b) h)
theorem lq (h:a+b≤c) (g:Nat.ble c d=true):a≤d:=lb (Nat.le_trans (Nat.le_add_right a b) h) g
theorem lo (h:a+b≤c):a≤c:=Nat.le_trans (Nat.le_add_right a b) h
theorem Iz (h:a+b≤c):b≤c:=Nat.le_trans (Nat.le_add_left b a) h
theorem yF (h:a≤c) (g:a=b):b≤c:=g ▸ h
theorem Jv (h:a≤c) (g:b=a):b≤c:=g ▸ h
theorem CB (h:c≤a) (g:a=b):c≤b:=g ▸ h
theorem Jm (h:a≤c) (g:a=b) (k:Nat.ble c d=true):b≤d:=lb (g ▸ h) k
theorem bv (h:a+(b+c)≤d):a+b+c≤d:=Nat.add_assoc a b c ▸ h
theorem eH (h:a+(b+c)≤d):a+c+b≤d:=bv (Nat.add_comm b c ▸ h)
theorem gq (h:a+(b+c)≤d):a+c≤d:=lo (eH h)
theorem JR (h:a+(b+c)≤d):a+b≤d:=lo (bv h)
theorem FH (h:a+(b+c)≤d) (g:Nat.ble d e=true):a+b≤e:=lb (JR h) g
theorem ad1:a+b+c=a+(c+b):=(Nat.add_assoc a b c).trans (congrArg _ (Nat.add_comm b c))
theorem yP:a+(c+b)=a+b+c:=ad1.symm
theorem ls (h:a≤b):a≤b+c:=Nat.le_trans h (Nat.le_add_right b c)
theorem lk (h:a+b≤c) (g:d≤a):d+b≤c:=Nat.le_trans (Nat.add_le_add_right g b) h
theorem vu (h:a≤b) (g:d≤a) (k:Nat.ble b c=true):d≤c:=lb (Nat.le_trans g h) k
theorem GH (h:¬ b < a):a≤b:=Nat.le_of_not_lt h
theorem ic {i:Int} (h:a≤b) (g:decide ((b:Int)≤i)=true):(a:Int)≤i:=Int.le_trans (Int.ofNat_le.2 h) (of_decide_eq_true g)
theorem El (h:n≤m) (g:x=n) (k:y≤a+n * b) (r:Nat.ble (a+m * b) c=true):y≤c :=
  lb (Nat.le_trans k (Nat.add_le_add_left (Nat.mul_le_mul_right b h) a)) r
theorem tb (h:a≤b) (g:Nat.ble (b+1) c=true):a < c:=la (n:=1) h g
theorem Fa (h:a≤b) (g:Nat.ble (b+(n+1)) c=true):a+n < c:=la (n:=n+1) h g
theorem tt (h:a < b) (g:Nat.ble b c=true):a < c:=lb (a:=a+1) h g
theorem bt (h:a < b) (g:Nat.ble b (c+1)=true):a≤c:=Nat.le_of_lt_succ (tt h g)
theorem w1 (h:a+(b+1)≤d) (g:c≤a+1):c+b≤d:=Nat.le_trans (Nat.add_le_add_right g b) (eH (c:=1) h |> fun h=>Nat.add_right_comm a b 1 ▸ h)
theorem w2 (h:a+(b+1)≤d) (g:Nat.ble d e=true):a < e:=lb (gq h) g
theorem w5 (h:a+(b+1)≤d):a < d:=gq h
theorem w7 (h:a+b≤c) (g:d < a) (k:Nat.ble (c+0) e=true):d < e:=Nat.lt_of_lt_of_le g (lb (lo h) k)
theorem IF (h:a≤b) (g:c=a+n) (k:Nat.ble (b+n) e=true):c≤e:=g ▸ la h k
theorem lp (g:Nat.ble 1 n=true):a < a+n:=Nat.lt_add_of_pos_right (Nat.le_of_ble_eq_true g)
theorem JS (g:Nat.ble (n+1) m=true):a+n < a+m:=Nat.add_lt_add_left (Nat.le_of_ble_eq_true g) a
theorem jb (h:j+(k+1)≤4) (g:y≤a+m * j) (r:Nat.ble (a+m * 3) e=true):y≤e :=
  lb (Nat.le_trans g (Nat.add_le_add_left (Nat.mul_le_mul_left m (Nat.le_of_lt_succ (w5 h))) a)) r
theorem Jo (h:j+(k+1)≤4) (g:y≤m * j) (r:Nat.ble (0+m * 3) e=true):y≤e:=jb h (a:=0) ((Nat.zero_add _).symm ▸ g) r
theorem jc (h:y≤a+m * j) (g:x≤m):y+x≤a+m * (j+1):=Nat.le_trans (Nat.add_le_add h g) (Nat.le_of_eq (Nat.add_assoc a (m * j) m))
theorem jd (h:y≤a+m * j):y≤a+m * (j+1):=jc (x:=0) h (Nat.zero_le m)
theorem ne (h:¬ a < b) (g:a < b+1):a=b:=Nat.le_antisymm (Nat.le_of_lt_succ g) (Nat.le_of_not_lt h)
theorem ed (h:a+b≤c) (g:a=d) (k:b=e):d+e≤c:=g ▸ k ▸ h
theorem I9 (h:a < b) (g:c≤a):c≤b:=Nat.le_trans g (Nat.le_of_lt h)
theorem HW {j k i:Int} (h:a≤b) (g:decide ((b:Int)+j+k≤i)=true):(a:Int)+j+k≤i:=Int.le_trans (Int.add_le_add_right (Int.add_le_add_right (Int.ofNat_le.2 h) _) _) (of_decide_eq_true g)
theorem Cc {x:Int} (h:x.natAbs≤1048576) : -2 ^ 62≤x:=by omega
theorem Cd {x:Int} (h:x.natAbs≤1048576):x < 2 ^ 62:=by omega
theorem su (h:i < n):n+1 - (i+1) < n+1 - i:=Nat.sub_lt_sub_left (Nat.lt_succ_of_lt h) (Nat.lt_succ_self i)
theorem mi {x:Int}:x+(i:Int) * -1=x - (i:Int):=by rw [Int.mul_neg,Int.mul_one]; rfl
theorem H7 (h:b - a≤c) (g:a=d):b - d≤c:=g ▸ h
theorem Ib (h:a≤b) (g:b - a≤c) (k:a=d):d+(c - (c - (b - d)))=b:=by rw [← k,Nat.sub_sub_self g,Nat.add_sub_cancel' h]
theorem GM {v w:Int} (h:v < w) (g:n=v.toNat) (k:m=n) (r:decide (w≤((2+1:Nat):Int))=true):m≤2 :=
  k ▸ g ▸ Int.toNat_le.2 (Int.le_of_lt_add_one (Int.lt_of_lt_of_le h (of_decide_eq_true r)))
theorem JU {v w:Int} (h:v < w) (g:n=v.toNat) (r:decide (w≤(c:Int))=true):n≤c :=
  g ▸ Int.toNat_le.2 (Int.le_of_lt (Int.lt_of_lt_of_le h (of_decide_eq_true r)))
theorem nz (h:a≤b):0+a≤b:=(Nat.zero_add a).symm ▸ h
theorem H9 (h:a < b):(a:Int) < (b:Int):=Int.ofNat_lt.2 h
end
section
variable {a b c d:Int}
theorem ib (h:a≤b) (g:decide (b≤c)=true):a≤c:=Int.le_trans h (of_decide_eq_true g)
theorem Gc (h:c≤a) (g:decide (b≤c)=true):b≤a:=Int.le_trans (of_decide_eq_true g) h
theorem iz (n:Nat):0≤(n:Int):=Int.natCast_nonneg n
theorem it (h:a < b) (g:decide (b≤c)=true):a < c:=Int.lt_of_lt_of_le h (of_decide_eq_true g)
theorem yc {s:Int} (h:¬ a=b):¬ a+s=b+s:=fun q=>h ((Int.add_left_inj s).1 q)
theorem Jz {s:Int} (h:a=b):a+s=b+s:=h ▸ rfl
theorem in1:¬ a=a+1:=fun q=>absurd (Int.lt_succ a) (q ▸ Int.lt_irrefl a)
theorem inl (h:a < b):¬ a=b:=Int.ne_of_lt h
theorem FD (h:a < b):¬ a=b+1:=Int.ne_of_lt (Int.lt_trans h (Int.lt_succ b))
theorem Ju (h:0≤a) {n:Nat}:0≤a+(n:Int):=Int.add_nonneg h (iz n)
theorem inr (h:0≤a) (g:0≤b):0≤b+a:=Int.add_nonneg g h
theorem oa (h:0≤a) (g:decide (0≤c)=true):0≤c+a:=Int.add_nonneg (of_decide_eq_true g) h
theorem ob (h:a < b) (g:decide (d+b≤c)=true):d+a≤c:=Int.le_trans (Int.add_le_add_left (Int.le_of_lt h) d) (of_decide_eq_true g)
theorem Jw (h:a ≠ b) (g:c=a):c ≠ b:=g ▸ h
end
end Mine.Internal
namespace Mine.Internal
set_option genSizeOf false
inductive W where
  | goto_ | switch_ | call_ | drop_ | assert_ | use_ | box_ | binary_ | checked_ | unary_ | cast_ | tuple_ | array_ | adt_
  | index_ | const_ | ref_ | discriminant_ | assign_ | live_ | dead_ | print_ | return_ | move_ | copy_ | fn_ | unreachable_
  | int_ | u8_ | plus_ | xor_ | lt_ | h_ | g_ | main_ | field_ | worths_ | alive_ | bad_
  deriving DecidableEq
noncomputable def W.text:W→String
  | .goto_ => "goto" | .switch_ => "switch" | .call_ => "call" | .drop_ => "drop" | .assert_ => "assert" | .use_ => "use" | .box_ => "box"
  | .binary_ => "binary" | .checked_ => "checked" | .unary_ => "unary" | .cast_ => "cast" | .tuple_ => "tuple" | .array_ => "array" | .adt_ => "adt"
  | .index_ => "index" | .const_ => "const" | .ref_ => "ref" | .discriminant_ => "discriminant" | .assign_ => "assign" | .live_ => "live" | .dead_ => "dead"
  | .print_ => "print" | .return_ => "return" | .move_ => "move" | .copy_ => "copy" | .fn_ => "fn" | .unreachable_ => "unreachable"
  | .int_ => "int" | .u8_ => "u8" | .plus_ => "+" | .xor_ => "^" | .lt_ => "<" | .h_ => "h" | .g_ => "g" | .main_ => "main" | .field_ => "field"
  | .worths_ => "worths" | .alive_ => "alive" | .bad_ => "bad"
noncomputable def W.str (w:W):Str:=Str.ofString w.text
inductive Cls where | body | caller
inductive Fld where | name | argCount | locals | blocks | spots | body
  deriving DecidableEq
noncomputable def Fld.text:Fld→String
  | .name => "name" | .argCount => "arg_count" | .locals => "locals" | .blocks => "blocks" | .spots => "spots" | .body => "body"
noncomputable def Fld.str (f:Fld):Str:=Str.ofString f.text
set_option genCtorIdx false
inductive Dat where
  | none | any | bool (b:Bool) | int (i:Int) | str (w:W) | tup (xs:List Dat) | lst (xs:List Dat) | rng (a b c:Int)
  | dct (ks:List W) (xs:List Dat) | spots (n:Nat) | obj (c:Cls) (fs:List Fld) (xs:List Dat)
set_option genCtorIdx true
inductive Val where
  | d (x:Dat) | r (i:Nat) | clo (k:Int)
set_option genCtorIdx false
inductive MObj where
  | list (xs:List Val) | sdict (ks:List W) (xs:List Val) | idict (ks:List (Int × Dat)) | spots (n:Nat) | inst (c:Cls) (fs:List Fld) (xs:List Val) | frz (d:Dat)
noncomputable abbrev Mu:=List MObj
noncomputable abbrev ag:=List (Option Val)
theorem xe1.{u0} {α0:Sort u0} {p:α0→Prop} {G:Prop} (h:∃ x0,p x0) (g:∀ x0,p x0→G):G:=by obtain ⟨x0,h⟩:=h; exact g x0 h
theorem xe2.{u0,u1} {α0:Sort u0} {α1:Sort u1} {p:α0→α1→Prop} {G:Prop} (h:∃ x0 x1,p x0 x1) (g:∀ x0 x1,p x0 x1→G):G:=by obtain ⟨x0,x1,h⟩:=h; exact g x0 x1 h
theorem xe3.{u0,u1,u2} {α0:Sort u0} {α1:Sort u1} {α2:Sort u2} {p:α0→α1→α2→Prop} {G:Prop} (h:∃ x0 x1 x2,p x0 x1 x2) (g:∀ x0 x1 x2,p x0 x1 x2→G):G:=by obtain ⟨x0,x1,x2,h⟩:=h; exact g x0 x1 x2 h
theorem xe4.{u0,u1,u2,u3} {α0:Sort u0} {α1:Sort u1} {α2:Sort u2} {α3:Sort u3} {p:α0→α1→α2→α3→Prop} {G:Prop} (h:∃ x0 x1 x2 x3,p x0 x1 x2 x3) (g:∀ x0 x1 x2 x3,p x0 x1 x2 x3→G):G:=by obtain ⟨x0,x1,x2,x3,h⟩:=h; exact g x0 x1 x2 x3 h
theorem xe5.{u0,u1,u2,u3,u4} {α0:Sort u0} {α1:Sort u1} {α2:Sort u2} {α3:Sort u3} {α4:Sort u4} {p:α0→α1→α2→α3→α4→Prop} {G:Prop} (h:∃ x0 x1 x2 x3 x4,p x0 x1 x2 x3 x4) (g:∀ x0 x1 x2 x3 x4,p x0 x1 x2 x3 x4→G):G:=by obtain ⟨x0,x1,x2,x3,x4,h⟩:=h; exact g x0 x1 x2 x3 x4 h
theorem xe9.{u0,u1,u2,u3,u4,u5,u6,u7,u8} {α0:Sort u0} {α1:Sort u1} {α2:Sort u2} {α3:Sort u3} {α4:Sort u4} {α5:Sort u5} {α6:Sort u6} {α7:Sort u7} {α8:Sort u8} {p:α0→α1→α2→α3→α4→α5→α6→α7→α8→Prop} {G:Prop} (h:∃ x0 x1 x2 x3 x4 x5 x6 x7 x8,p x0 x1 x2 x3 x4 x5 x6 x7 x8) (g:∀ x0 x1 x2 x3 x4 x5 x6 x7 x8,p x0 x1 x2 x3 x4 x5 x6 x7 x8→G):G:=by obtain ⟨x0,x1,x2,x3,x4,x5,x6,x7,x8,h⟩:=h; exact g x0 x1 x2 x3 x4 x5 x6 x7 x8 h
theorem aN {p0 p1 G:Prop} (h:p0∧p1) (g:p0→p1→G):G:=by obtain ⟨h0,h1⟩:=h; exact g h0 h1
theorem gD {p0 p1 p2 G:Prop} (h:p0∧p1∧p2) (g:p0→p1→p2→G):G:=by obtain ⟨h0,h1,h2⟩:=h; exact g h0 h1 h2
theorem vp {p0 p1 p2 p3 G:Prop} (h:p0∧p1∧p2∧p3) (g:p0→p1→p2→p3→G):G:=by obtain ⟨h0,h1,h2,h3⟩:=h; exact g h0 h1 h2 h3
theorem JG {p0 p1 p2 p3 p4 G:Prop} (h:p0∧p1∧p2∧p3∧p4) (g:p0→p1→p2→p3→p4→G):G:=by obtain ⟨h0,h1,h2,h3,h4⟩:=h; exact g h0 h1 h2 h3 h4
theorem Iu {p0 p1 p2 p3 p4 p5 p6 G:Prop} (h:p0∧p1∧p2∧p3∧p4∧p5∧p6) (g:p0→p1→p2→p3→p4→p5→p6→G):G:=by obtain ⟨h0,h1,h2,h3,h4,h5,h6⟩:=h; exact g h0 h1 h2 h3 h4 h5 h6
theorem Jr {p0 p1 p2 p3 p4 p5 p6 p7 p8 G:Prop} (h:p0∧p1∧p2∧p3∧p4∧p5∧p6∧p7∧p8) (g:p0→p1→p2→p3→p4→p5→p6→p7→p8→G):G:=by obtain ⟨h0,h1,h2,h3,h4,h5,h6,h7,h8⟩:=h; exact g h0 h1 h2 h3 h4 h5 h6 h7 h8
theorem dK {α:Type} {P:α→Prop} {x:α} (h:P x):∀ a ∈ [x],P a:=fun a ha=>by rw [List.mem_singleton.mp ha]; exact h
theorem tT {α:Type} {P:α→Prop} {x y:α} (h:P x) (h':P y):∀ a ∈ [x,y],P a:=fun a ha=>(List.mem_cons.mp ha).elim (fun e=>by rw [e]; exact h) fun ha=>by rw [List.mem_singleton.mp ha]; exact h'
section
variable {α β:Type}
theorem nS {y:α} {P:Prop} (h:none=some y):P:=nomatch h
theorem iS {x y:α} (h:some x=some y):x=y:=Option.some.inj h
noncomputable def one:List α→Option α
  | []=>none
  | [x]=>some x
  | _::_::_=>none
theorem BK {l:List α} {x:α} (h:one l=some x):l=[x]:=by
  cases l with
  | nil=>exact nS h
  | cons a r=>cases r with
    | nil=>exact iS h ▸ rfl
    | cons b r=>exact nS h
noncomputable def two:List α→Option (α × α)
  | []=>none
  | [_]=>none
  | [x,y]=>some (x,y)
  | _::_::_::_=>none
theorem Cq {l:List α} {q:α × α} (h:two l=some q):l=[q.1,q.2]:=by
  cases l with
  | nil=>exact nS h
  | cons a r=>cases r with
    | nil=>exact nS h
    | cons b r=>cases r with
      | nil=>exact iS h ▸ rfl
      | cons c r=>exact nS h
theorem bP {x:Option α} {f:α→Option β} {y:β} (h:x.bind f=some y):∃ a,x=some a∧f a=some y:=Option.bind_eq_some_iff.mp h
theorem kS {c:Prop} [Decidable c] {x:Option α} {y:α} (h:(if c then x else none)=some y):c∧x=some y:=by
  by_cases q:c
  · rw [if_pos q] at h; exact ⟨q,h⟩
  · rw [if_neg q] at h; exact nS h
theorem y4 {c:Prop} [Decidable c] {x:Option α} {y:α} (h:(if c then none else x)=some y):¬c∧x=some y:=by
  by_cases q:c
  · rw [if_pos q] at h; exact nS h
  · rw [if_neg q] at h; exact ⟨q,h⟩
theorem gc {x:Option α} {f:α→β} {y:β} (h:x.map f=some y):∃ a,x=some a∧f a=y:=Option.map_eq_some_iff.mp h
theorem bJ {γ:Type} {x:Option (α × β)} {f:α × β→Option γ} {y:γ} {G:Prop} (h:x.bind f=some y) (g:∀ a m,x=some (a,m)→f (a,m)=some y→G):G:=by
  obtain ⟨⟨a,m⟩,h1,h2⟩:=bP h; exact g a m h1 h2
theorem bg {x:Option α} {f:α→Option β} {y:β} {G:Prop} (h:x.bind f=some y) (g:∀ a,x=some a→f a=some y→G):G:=by
  obtain ⟨a,h1,h2⟩:=bP h; exact g a h1 h2
theorem bM {x:Option α} {f:α→β} {y:β} {G:Prop} (h:x.map f=some y) (g:∀ a,x=some a→f a=y→G):G:=by
  obtain ⟨a,h1,h2⟩:=gc h; exact g a h1 h2
theorem li {c:Prop} [Decidable c] {x:Option α} {y:α} {G:Prop} (h:(if c then x else none)=some y) (g:c→x=some y→G):G:=(kS h).elim g
theorem ym {b:Bool} {x:Option α} {y:α} {G:Prop} (h:(if b=false then none else x)=some y) (g:b=true→x=some y→G):G:=by
  cases b with
  | false=>exact nS h
  | true=>exact g rfl h
theorem Bw {x:Option α} {a:Option β} {f:α→Option β} {y:β} {G:Prop} (h:x.elim a f=some y) (g1:x=none→a=some y→G) (g2:∀ z,x=some z→f z=some y→G):G:=by
  cases x with
  | none=>exact g1 rfl h
  | some z=>exact g2 z rfl h
theorem dx {a c:α} {b d:β} {G:Prop} (h:some (a,b)=some (c,d)) (g:a=c→b=d→G):G:=by cases h; exact g rfl rfl
theorem eJ {a c:α} {b d:β} {G:Prop} (h:(a,b)=(c,d)) (g:a=c→b=d→G):G:=by cases h; exact g rfl rfl
theorem fM {x:Option α} {a:β} {f:α→β} {G:β→Prop} (h:G (x.elim a f)):(x=none∧G a)∨∃ y,x=some y∧G (f y):=by
  cases x with
  | none=>exact .inl ⟨rfl,h⟩
  | some y=>exact .inr ⟨y,rfl,h⟩
end
noncomputable def vD (v:Val):Option Dat:=Val.casesOn (motive:=fun Z=>Option Dat) v some (fun Z=>none) (fun Z=>none)
noncomputable def vR (v:Val):Option Nat:=Val.casesOn (motive:=fun Z=>Option Nat) v (fun Z=>none) some (fun Z=>none)
noncomputable def vC (v:Val):Option Int:=Val.casesOn (motive:=fun Z=>Option Int) v (fun Z=>none) (fun Z=>none) some
theorem gx {x:Val} {y:Dat} (h:vD x=some y):x=.d y:=by cases x <;> first | exact nS h | exact (iS h) ▸ rfl
theorem gR {x:Val} {y:Nat} (h:vR x=some y):x=.r y:=by cases x <;> first | exact nS h | exact (iS h) ▸ rfl
theorem IP {x:Val} {y:Int} (h:vC x=some y):x=.clo y:=by cases x <;> first | exact nS h | exact (iS h) ▸ rfl
noncomputable def dB (x:Dat):Option (Bool):=Dat.casesOn (motive_1:=fun Z=>Option (Bool)) x none none some (fun Z=>none) (fun Z=>none) (fun Z=>none) (fun Z=>none) (fun Z Z Z=>none) (fun Z Z=>none) (fun Z=>none) (fun Z Z Z=>none)
theorem Fd {x:Dat} {y:Bool} (h:dB x=some y):x=.bool y:=by cases x <;> first | exact nS h | (exact iS h ▸ rfl)
noncomputable def dI (x:Dat):Option (Int):=Dat.casesOn (motive_1:=fun Z=>Option (Int)) x none none (fun Z=>none) some (fun Z=>none) (fun Z=>none) (fun Z=>none) (fun Z Z Z=>none) (fun Z Z=>none) (fun Z=>none) (fun Z Z Z=>none)
theorem sB {x:Dat} {y:Int} (h:dI x=some y):x=.int y:=by cases x <;> first | exact nS h | (exact iS h ▸ rfl)
noncomputable def dS (x:Dat):Option (W):=Dat.casesOn (motive_1:=fun Z=>Option (W)) x none none (fun Z=>none) (fun Z=>none) some (fun Z=>none) (fun Z=>none) (fun Z Z Z=>none) (fun Z Z=>none) (fun Z=>none) (fun Z Z Z=>none)
theorem A5 {x:Dat} {y:W} (h:dS x=some y):x=.str y:=by cases x <;> first | exact nS h | (exact iS h ▸ rfl)
noncomputable def dT (x:Dat):Option (List Dat):=Dat.casesOn (motive_1:=fun Z=>Option (List Dat)) x none none (fun Z=>none) (fun Z=>none) (fun Z=>none) some (fun Z=>none) (fun Z Z Z=>none) (fun Z Z=>none) (fun Z=>none) (fun Z Z Z=>none)
theorem AP {x:Dat} {y:List Dat} (h:dT x=some y):x=.tup y:=by cases x <;> first | exact nS h | (exact iS h ▸ rfl)
noncomputable def dL (x:Dat):Option (List Dat):=Dat.casesOn (motive_1:=fun Z=>Option (List Dat)) x none none (fun Z=>none) (fun Z=>none) (fun Z=>none) (fun Z=>none) some (fun Z Z Z=>none) (fun Z Z=>none) (fun Z=>none) (fun Z Z Z=>none)
theorem zW {x:Dat} {y:List Dat} (h:dL x=some y):x=.lst y:=by cases x <;> first | exact nS h | (exact iS h ▸ rfl)
noncomputable def tO (x:Dat):Option (List Dat):=Dat.casesOn (motive_1:=fun Z=>Option (List Dat)) x none none (fun Z=>none) (fun Z=>none) (fun Z=>none) some some (fun Z Z Z=>none) (fun Z Z=>none) (fun Z=>none) (fun Z Z Z=>none)
theorem vZ {x:Dat} {y:List Dat} (h:tO x=some y):x=.tup y∨x=.lst y:=by cases x <;> first | exact nS h | (first | exact .inl (iS h ▸ rfl) | exact .inr (iS h ▸ rfl))
noncomputable def dP (x:Dat):Option (Nat):=Dat.casesOn (motive_1:=fun Z=>Option (Nat)) x none none (fun Z=>none) (fun Z=>none) (fun Z=>none) (fun Z=>none) (fun Z=>none) (fun Z Z Z=>none) (fun Z Z=>none) some (fun Z Z Z=>none)
theorem Jf {x:Dat} {y:Nat} (h:dP x=some y):x=.spots y:=by cases x <;> first | exact nS h | (exact iS h ▸ rfl)
noncomputable def dN (x:Dat):Option (Unit):=Dat.casesOn (motive_1:=fun Z=>Option (Unit)) x (some ()) none (fun Z=>none) (fun Z=>none) (fun Z=>none) (fun Z=>none) (fun Z=>none) (fun Z Z Z=>none) (fun Z Z=>none) (fun Z=>none) (fun Z Z Z=>none)
theorem Bf {x:Dat} {y:Unit} (h:dN x=some y):x=.none:=by cases x <;> first | exact nS h | (rfl)
noncomputable def dA (x:Dat):Option (Unit):=Dat.casesOn (motive_1:=fun Z=>Option (Unit)) x none (some ()) (fun Z=>none) (fun Z=>none) (fun Z=>none) (fun Z=>none) (fun Z=>none) (fun Z Z Z=>none) (fun Z Z=>none) (fun Z=>none) (fun Z Z Z=>none)
theorem IJ {x:Dat} {y:Unit} (h:dA x=some y):x=.any:=by cases x <;> first | exact nS h | (rfl)
noncomputable def dG (x:Dat):Option (List W × List Dat):=Dat.casesOn (motive_1:=fun Z=>Option (List W × List Dat)) x none none (fun Z=>none) (fun Z=>none) (fun Z=>none) (fun Z=>none) (fun Z=>none) (fun Z Z Z=>none) (fun a b=>some (a,b)) (fun Z=>none) (fun Z Z Z=>none)
theorem Fg {x:Dat} {y:List W × List Dat} (h:dG x=some y):x=.dct y.1 y.2:=by cases x <;> first | exact nS h | (exact iS h ▸ rfl)
noncomputable def dO (x:Dat):Option (List Fld × List Dat):=Dat.casesOn (motive_1:=fun Z=>Option (List Fld × List Dat)) x none none (fun Z=>none) (fun Z=>none) (fun Z=>none) (fun Z=>none) (fun Z=>none) (fun Z Z Z=>none) (fun Z Z=>none) (fun Z=>none) (fun Z a b=>some (a,b))
theorem Jk {x:Dat} {y:List Fld × List Dat} (h:dO x=some y):∃ c,x=.obj c y.1 y.2:=by cases x <;> first | exact nS h | (exact ⟨_,by rw [← iS h]⟩)
noncomputable def oL (x:MObj):Option (List Val):=MObj.casesOn (motive:=fun Z=>Option (List Val)) x some (fun Z Z=>none) (fun Z=>none) (fun Z=>none) (fun Z Z Z=>none) (fun Z=>none)
theorem E2 {x:MObj} {y:List Val} (h:oL x=some y):x=.list y:=by cases x <;> first | exact nS h | (exact iS h ▸ rfl)
theorem kz {mu:Mu} {k:Nat} {y:List Val} (h:(mu[k]?).bind oL=some y):mu[k]? = some (.list y):=by obtain ⟨x,h1,h2⟩:=bP h; rw [h1,E2 h2]
noncomputable def oD (x:MObj):Option (List W × List Val):=MObj.casesOn (motive:=fun Z=>Option (List W × List Val)) x (fun Z=>none) (fun a b=>some (a,b)) (fun Z=>none) (fun Z=>none) (fun Z Z Z=>none) (fun Z=>none)
theorem IG {x:MObj} {y:List W × List Val} (h:oD x=some y):x=.sdict y.1 y.2:=by cases x <;> first | exact nS h | (exact iS h ▸ rfl)
theorem Bs {mu:Mu} {k:Nat} {y:List W × List Val} (h:(mu[k]?).bind oD=some y):mu[k]? = some (.sdict y.1 y.2):=by obtain ⟨x,h1,h2⟩:=bP h; rw [h1,IG h2]
noncomputable def oI (x:MObj):Option (List (Int × Dat)):=MObj.casesOn (motive:=fun Z=>Option (List (Int × Dat))) x (fun Z=>none) (fun Z Z=>none) some (fun Z=>none) (fun Z Z Z=>none) (fun Z=>none)
theorem Ak {x:MObj} {y:List (Int × Dat)} (h:oI x=some y):x=.idict y:=by cases x <;> first | exact nS h | (exact iS h ▸ rfl)
theorem xj {mu:Mu} {k:Nat} {y:List (Int × Dat)} (h:(mu[k]?).bind oI=some y):mu[k]? = some (.idict y):=by obtain ⟨x,h1,h2⟩:=bP h; rw [h1,Ak h2]
noncomputable def oP (x:MObj):Option (Nat):=MObj.casesOn (motive:=fun Z=>Option (Nat)) x (fun Z=>none) (fun Z Z=>none) (fun Z=>none) some (fun Z Z Z=>none) (fun Z=>none)
theorem Ei {x:MObj} {y:Nat} (h:oP x=some y):x=.spots y:=by cases x <;> first | exact nS h | (exact iS h ▸ rfl)
theorem BV {mu:Mu} {k:Nat} {y:Nat} (h:(mu[k]?).bind oP=some y):mu[k]? = some (.spots y):=by obtain ⟨x,h1,h2⟩:=bP h; rw [h1,Ei h2]
noncomputable def oO (x:MObj):Option (Cls × List Fld × List Val):=MObj.casesOn (motive:=fun Z=>Option (Cls × List Fld × List Val)) x (fun Z=>none) (fun Z Z=>none) (fun Z=>none) (fun Z=>none) (fun c a b=>some (c,a,b)) (fun Z=>none)
theorem Fq {x:MObj} {y:Cls × List Fld × List Val} (h:oO x=some y):x=.inst y.1 y.2.1 y.2.2:=by cases x <;> first | exact nS h | (exact iS h ▸ rfl)
theorem wx {mu:Mu} {k:Nat} {y:Cls × List Fld × List Val} (h:(mu[k]?).bind oO=some y):mu[k]? = some (.inst y.1 y.2.1 y.2.2):=by obtain ⟨x,h1,h2⟩:=bP h; rw [h1,Fq h2]
noncomputable def oF (x:MObj):Option (Dat):=MObj.casesOn (motive:=fun Z=>Option (Dat)) x (fun Z=>none) (fun Z Z=>none) (fun Z=>none) (fun Z=>none) (fun Z Z Z=>none) some
theorem IT {x:MObj} {y:Dat} (h:oF x=some y):x=.frz y:=by cases x <;> first | exact nS h | (exact iS h ▸ rfl)
theorem Hp {mu:Mu} {k:Nat} {y:Dat} (h:(mu[k]?).bind oF=some y):mu[k]? = some (.frz y):=by obtain ⟨x,h1,h2⟩:=bP h; rw [h1,IT h2]
noncomputable def vB (v:Val):Option (Bool):=(vD v).bind dB
theorem Gn {x:Val} {y:Bool} (h:vB x=some y):x=.d (.bool y):=by obtain ⟨z,h1,h2⟩:=bP h; rw [gx h1,Fd h2]
noncomputable def vI (v:Val):Option (Int):=(vD v).bind dI
theorem fJ {x:Val} {y:Int} (h:vI x=some y):x=.d (.int y):=by obtain ⟨z,h1,h2⟩:=bP h; rw [gx h1,sB h2]
noncomputable def vS (v:Val):Option (W):=(vD v).bind dS
theorem zR {x:Val} {y:W} (h:vS x=some y):x=.d (.str y):=by obtain ⟨z,h1,h2⟩:=bP h; rw [gx h1,A5 h2]
noncomputable def vT (v:Val):Option (List Dat):=(vD v).bind dT
theorem oM {x:Val} {y:List Dat} (h:vT x=some y):x=.d (.tup y):=by obtain ⟨z,h1,h2⟩:=bP h; rw [gx h1,AP h2]
noncomputable def vL (v:Val):Option (List Dat):=(vD v).bind dL
theorem tU {x:Val} {y:List Dat} (h:vL x=some y):x=.d (.lst y):=by obtain ⟨z,h1,h2⟩:=bP h; rw [gx h1,zW h2]
noncomputable def vN (v:Val):Option (Unit):=(vD v).bind dN
theorem Jg {x:Val} {y:Unit} (h:vN x=some y):x=.d .none:=by obtain ⟨z,h1,h2⟩:=bP h; rw [gx h1,Bf h2]
noncomputable def vA (v:Val):Option (Unit):=(vD v).bind dA
theorem I7 {x:Val} {y:Unit} (h:vA x=some y):x=.d .any:=by obtain ⟨z,h1,h2⟩:=bP h; rw [gx h1,IJ h2]
noncomputable def Ay (v:Val):Option Unit:=(vT v).bind fun xs=>(two xs).bind fun q=>(dI q.1).bind fun Z=>(dI q.2).map fun Z=>()
theorem zA {v:Val} {u:Unit} (h:Ay v=some u):∃ i j,v=.d (.tup [.int i,.int j]):=by
  obtain ⟨xs,h1,h⟩:=bP h
  obtain ⟨q,h2,h⟩:=bP h
  obtain ⟨i,h3,h⟩:=bP h
  obtain ⟨j,h4,_⟩:=gc h
  exact ⟨i,j,by rw [oM h1,Cq h2,sB h3,sB h4]⟩
noncomputable def jt {α:Type} (a b:Val) (f:Int→Int→Option α):Option α:=(vI a).bind fun x=>(vI b).bind fun y=>f x y
theorem wW {α:Type} {a b:Val} {f:Int→Int→Option α} {r:α} (h:jt a b f=some r):∃ x y,a=.d (.int x)∧b=.d (.int y)∧f x y=some r:=by
  obtain ⟨x,h1,h⟩:=bP h
  obtain ⟨y,h2,h⟩:=bP h
  exact ⟨x,y,fJ h1,fJ h2,h⟩
noncomputable def Cls.isC (c:Cls):Bool:=Cls.casesOn (motive:=fun Z=>Bool) c false true
noncomputable def rT (ob:MObj):Option Unit:=(oO ob).bind fun q=>if q.1.isC=true∧q.2.1=[.body] then some () else none
theorem C8 {ob:MObj} {u:Unit} (h:rT ob=some u):∃ xs,ob=.inst .caller [.body] xs:=by
  obtain ⟨⟨c,fs,xs⟩,h1,h⟩:=bP h
  have h1:=Fq h1
  by_cases q:c.isC=true∧fs=[.body]
  · obtain ⟨q1,q2⟩:=q
    cases c with
    | body=>cases q1
    | caller=>exact ⟨xs,by rw [h1,q2]⟩
  · rw [if_neg q] at h; exact nS h
noncomputable def l6 (v:Val):Option Bool:=(vC v).elim (some (vN v).isSome) fun Z=>none
noncomputable def A2 (r:Option MObj):Bool:=(r.bind oL).isSome
noncomputable def mU (r:Option MObj):Bool:=r.elim false fun ob=>(oI ob).isSome || (oP ob).isSome
set_option genCtorIdx true
inductive Fn where
  | retargeted | copied | operandsOf | withOperands | isSmall | movedPlace | movedOperand | movedOperands | movedRvalue | movedStatement | movedTerminator
  | calledKey | inlined | pool | take | one | value | set | do_ | run | place | number | small | middle | mainL | calls | told | law
  | initBody | initCaller | put | tellSpots | putBlock
inductive Bop where | add | sub | mul | fdiv | mod | pow | xor
inductive Cop where | eq | ne | lt | gt | ge | le | in_ | notIn
inductive Bi where | len | max | int | sum | tuple | dict | range
set_option genCtorIdx false
set_option genInjectivity false
mutual
inductive CE where
  | any
  | loc (i:Nat) | byte | int (i:Int) | str (w:W) | bool (b:Bool) | none
  | tup (es:CEs) | list (q:Bool) (es:CEs)
  | bin (q:Bool) (o:Bop) (a b:CE) | neg (a:CE)
  | cmp (o:Cop) (a b:CE) | isN (a:CE) | notN (a:CE)
  | and (es:CEs) | or (es:CEs) | not (a:CE)
  | ifx (t a b:CE)
  | attr (e:CE) (f:Fld)
  | sub (e i:CE) | slo (e lo:CE)
  | call (f:Fn) (es:CEs) | new (c:Cls) (es:CEs) | meth (e:CE) (f:Fn) (es:CEs) | bi (b:Bi) (es:CEs) | toList (q:Bool) (e:CE)
  | app (e x:CE) | ext (e x:CE) | pop0 (e:CE) | get (e k:CE) | getd (e k d:CE) | popd (e k:CE)
  | comp (q:Bool) (elt:CE) (ts:List Nat) (it:CE) | compif (elt:CE) (ts:List Nat) (it:CE) (c:CE)
  | lam (i:Nat) | callv (i:Nat) (x:CE)
  | emptyI | emptyP | sdisp (frozen:Bool) (ws:List W) (es:CEs)
  | frz (e:CE)
inductive CEs where
  | nil | cons (e:CE) (r:CEs)
end
mutual
inductive CS where
  | any
  | asg (i:Nat) (e:CE) | unp (is:List Nat) (e:CE) | multi (is:List Nat) (es:CEs)
  | sett (o i v:CE) | seta (o:CE) (f:Fld) (v:CE)
  | ifs (c:CE) (a b:CSs) | ret (e:CE) | expr (e:CE)
  | for_ (ts:List Nat) (it:CE) (b:CSs) | forEnum (i j:Nat) (it:CE) (b:CSs)
inductive CSs where
  | nil | cons (s:CS) (r:CSs)
end
set_option genInjectivity true
set_option genCtorIdx true
noncomputable def CEs.of:List CE→CEs
  | []=>.nil
  | e::r=>.cons e (CEs.of r)
noncomputable def CSs.of:List CS→CSs
  | []=>.nil
  | e::r=>.cons e (CSs.of r)
noncomputable def lim:Nat:=1048576
noncomputable def gu (xs:List Dat):Option Val:=if xs.length≤lim then some (.d (.tup xs)) else none
noncomputable def cy (q:Bool) (mu:Mu) (xs:List Val) (f:Option (List Dat)):Option (Val × Mu) :=
  if xs.length≤lim then (if q then some (.r mu.length,mu++[.list xs]) else f.map fun ds=>(.d (.lst ds),mu)) else none
noncomputable def dh:Dat:=.tup [.str .int_,.str .u8_]
noncomputable def norm (mu:Mu) (v:Val):Val:=(vR v).elim v fun k=>((mu[k]?).bind oF).elim v .d
noncomputable def look (loc:ag) (mu:Mu) (i:Nat):Option Val:=(loc[i]?).bind fun o=>o.map (norm mu)
noncomputable def f9 (mu:Mu) (v:Val):Option (List Val):=(vR v).elim ((vL v).map fun xs=>xs.map .d) fun k=>(mu[k]?).bind oL
noncomputable def bN:List Val→Option (List Dat)
  | []=>some []
  | v::r=>(vD v).bind fun x=>(bN r).map (x::·)
theorem Gm {v:Val} {r:List Val}:bN (v::r)=(vD v).bind fun x=>(bN r).map (x::·):=rfl
noncomputable def kq:List Dat→Option (List W)
  | []=>some []
  | x::r=>(dS x).bind fun w=>(kq r).map (w::·)
noncomputable def gg:List Dat→Option (List Int)
  | []=>some []
  | x::r=>(dI x).bind fun w=>(gg r).map (w::·)
theorem JH {x:Dat} {r:List Dat}:gg (x::r)=(dI x).bind fun w=>(gg r).map (w::·):=rfl
mutual
noncomputable def Dat.plain:Dat→Bool
  | .none | .bool _ | .int _ | .str _=>true
  | .tup xs | .lst xs=>cQ xs
  | .any | .rng _ _ _ | .dct _ _ | .spots _ | .obj _ _ _=>false
noncomputable def cQ:List Dat→Bool
  | []=>true
  | x::xs=>x.plain && cQ xs
end
theorem JB {xs:List Dat}:(Dat.tup xs).plain=cQ xs:=rfl
theorem Cr {xs:List Dat}:(Dat.lst xs).plain=cQ xs:=rfl
theorem uT {x:Dat} {xs:List Dat}:cQ (x::xs)=(x.plain && cQ xs):=rfl
mutual
noncomputable def Dat.dep:Dat→Nat
  | .tup xs | .lst xs=>gf xs+1
  | .none | .bool _ | .int _ | .str _ | .any | .rng _ _ _ | .dct _ _ | .spots _ | .obj _ _ _=>0
noncomputable def gf:List Dat→Nat
  | []=>0
  | x::xs=>max x.dep (gf xs)
end
theorem Jy {xs:List Dat}:(Dat.tup xs).dep=gf xs+1:=rfl
theorem BD {xs:List Dat}:(Dat.lst xs).dep=gf xs+1:=rfl
theorem Je:gf []=0:=rfl
theorem qG {x:Dat} {xs:List Dat}:gf (x::xs)=max x.dep (gf xs):=rfl
mutual
noncomputable def Dat.eqv:Dat→Dat→Option Bool
  | .none,y=>(dN y).map fun Z=>true
  | .bool a,y=>(dB y).map fun b=>a == b
  | .int a,y=>(dI y).map fun b=>decide (a=b)
  | .str a,y=>(dS y).map fun b=>decide (a=b)
  | .tup xs,y=>(dT y).bind fun ys=>iG xs ys
  | .lst xs,y=>(dL y).bind fun ys=>iG xs ys
  | .any,_ | .rng _ _ _,_ | .dct _ _,_ | .spots _,_ | .obj _ _ _,_=>none
noncomputable def iG:List Dat→List Dat→Option Bool
  | [],ys=>some ys.isEmpty
  | x::xs,ys=>match ys with
    | []=>some false
    | y::ys=>(Dat.eqv x y).bind fun a=>(iG xs ys).map fun b=>a && b
end
theorem Jx {xs:List Dat} {y:Dat}:(Dat.lst xs).eqv y=(dL y).bind fun ys=>iG xs ys:=rfl
theorem IY {ys:List Dat}:iG [] ys=some ys.isEmpty:=rfl
theorem Jl {x:Dat} {xs:List Dat}:iG (x::xs) []=some false:=rfl
noncomputable def gE (x y:Dat):Option Bool:=if x.plain && y.plain && decide (min x.dep y.dep≤64) then Dat.eqv x y else none
noncomputable def ku (mu:Mu) (a b:Val):Option Bool:=(vD b).bind fun y=>(vR a).elim ((vD a).bind fun x=>gE x y) fun i=>(dL y).bind fun ys=>((mu[i]?).bind oL).bind fun xs=>(bN xs).bind fun ds=>gE (.lst ds) (.lst ys)
noncomputable def dC {α β:Type} [DecidableEq α] (k:α):List α→List β→Option β
  | a::as,b::bs=>if a=k then some b else dC k as bs
  | [],_=>none
  | _::_,[]=>none
theorem JJ {α β:Type} [DecidableEq α] {k a:α} {b:β} {as:List α} {bs:List β}:dC k (a::as) (b::bs)=if a=k then some b else dC k as bs:=rfl
noncomputable def jZ {α:Type} [DecidableEq α] (k:α):List α→List α
  | []=>[k]
  | a::as=>if a=k then a::as else a::jZ k as
noncomputable def jm {α β:Type} [DecidableEq α] (k:α) (v:β):List α→List β→List β
  | a::as,b::bs=>if a=k then v::bs else b::jm k v as bs
  | [],_=>[v]
  | _::_,[]=>[v]
theorem EX {α:Type} [DecidableEq α] {k:α}:jZ k []=[k]:=rfl
theorem EQ {α:Type} [DecidableEq α] {k a:α} {as:List α}:jZ k (a::as)=if a=k then a::as else a::jZ k as:=rfl
theorem GI {α β:Type} [DecidableEq α] {k:α} {v:β} {l:List β}:jm k v [] l=[v]:=rfl
theorem Ed {α β:Type} [DecidableEq α] {k a:α} {v b:β} {as:List α} {bs:List β}:jm k v (a::as) (b::bs)=if a=k then v::bs else b::jm k v as bs:=rfl
theorem Ig {α β:Type} [DecidableEq α] {k a:α} {v:β} {as:List α}:jm k v (a::as) []=[v]:=rfl
noncomputable def lV {α β:Type} [DecidableEq α] (k:α) (v:β) (ks:List α) (xs:List β):List β:=List.zipWith (fun a b=>if a=k then v else b) ks xs
noncomputable def dg (i:Int) (n:Nat):Option Nat:=if 0≤i∧i.toNat < n∧i.toNat < lim then some i.toNat else none
noncomputable def bj (mu:Mu) (o i:Val):Option Val:=(vI i).elim
  ((vS i).bind fun w=>(vR o).elim ((vD o).bind fun x=>(dG x).bind fun q=>(dC w q.1 q.2).map .d) fun a=>((mu[a]?).bind oD).bind fun q=>(dC w q.1 q.2).map (norm mu))
  fun k=>(vR o).elim ((vD o).bind fun x=>(tO x).bind fun xs=>(dg k xs.length).bind fun j=>xs[j]?.map .d) fun a=>((mu[a]?).bind oL).bind fun xs=>(dg k xs.length).bind fun j=>xs[j]?.map (norm mu)
noncomputable def fO (mu:Mu) (o:Val) (f:Fld):Option Val :=
  (vR o).elim ((vD o).bind fun x=>(dO x).bind fun q=>(dC f q.1 q.2).map .d) fun a=>((mu[a]?).bind oO).bind fun q=>(dC f q.2.1 q.2.2).map (norm mu)
noncomputable def df (v:Val):Option Bool:=vB v
noncomputable def jr (a b:Int):Bool:=decide (a.natAbs≤lim) && decide (b.natAbs≤lim)
noncomputable def items:Dat→Option (List Dat)
  | .tup xs=>some xs
  | .lst xs=>some xs
  | .rng a b c=>if jr a b=false then none else if c=1 then some ((List.range (b - a).toNat).map fun (i:Nat)=>Dat.int (a+(i:Int)))
      else if c = -1 then some ((List.range (a - b).toNat).map fun (i:Nat)=>Dat.int (a - (i:Int))) else none
  | .none | .bool _ | .int _ | .str _ | .any | .dct _ _ | .spots _ | .obj _ _ _=>none
noncomputable def fq (v:Val):Option (List Dat):=(vD v).bind items
noncomputable def jS (v:Val):Option (List Dat):=(vD v).bind tO
noncomputable def ci {α β:Type} [DecidableEq α] (k:α) (v:β) (l:List (α × β)):List (α × β) :=
  if l.any (fun kv=>kv.1=k) then l.map (fun kv=>if kv.1=k then (kv.1,v) else kv) else l++[(k,v)]
noncomputable def cM {α β:Type} [DecidableEq α] (k:α) (l:List (α × β)):List (α × β):=l.filter fun kv=>decide (kv.1 ≠ k)
noncomputable def Fk (mu:Mu) (q:Bool) (a b:Val):Option (Val × Mu):=(f9 mu a).bind fun xs=>(f9 mu b).bind fun ys=>cy q mu (xs++ys) (bN (xs++ys))
noncomputable def Ec (mu:Mu) (q:Bool) (a:Val) (n:Int):Option (Val × Mu):=(f9 mu a).bind fun xs=>if 1≤n∧n≤8 then cy q mu (List.replicate n.toNat xs).flatten (bN (List.replicate n.toNat xs).flatten) else none
noncomputable def fF (mu:Mu) (q:Bool) (o:Bop) (a b:Val):Option (Val × Mu):=match o with
  | .add=>(vI a).elim ((vT a).elim (Fk mu q a b) fun xs=>(vT b).bind fun ys=>if xs.isEmpty || ys.isEmpty then none else (gu (xs++ys)).map (·,mu)) fun x=>(vI b).map fun y=>(.d (.int (x+y)),mu)
  | .sub=>jt a b fun x y=>some (.d (.int (x - y)),mu)
  | .mul=>(vI b).bind fun y=>(vI a).elim ((vT a).elim (Ec mu q a y) fun xs=>if y=2 then (one xs).bind fun x=>(gu [x,x]).map (·,mu) else none) fun x=>if y.natAbs < 2 ^ 64 then some (.d (.int (x * y)),mu) else none
  | .fdiv=>jt a b fun x y=>if y=0∨1073741824≤y.natAbs then none else some (.d (.int (x.fdiv y)),mu)
  | .mod=>jt a b fun x y=>if y=0 then none else some (.d (.int (x.fmod y)),mu)
  | .pow=>jt a b fun x y=>if x=10∧y=18 then some (.d (.int (10 ^ 18)),mu) else none
  | .xor=>jt a b fun x y=>some (.d (.int (PySem.Builtin.bitXor x y)),mu)
noncomputable def Ip (a b:Val):Option Bool:=(vI a).elim ((vS a).bind fun w=>(vD b).bind fun y=>(dT y).elim ((dG y).map fun q=>q.1.contains w) fun xs=>(kq xs).map (·.contains w)) fun x=>(vL b).bind fun xs=>(gg xs).map (·.contains x)
noncomputable def dU (mu:Mu) (o:Cop) (a b:Val):Option Bool:=match o with
  | .lt=>jt a b fun x y=>some (decide (x < y))
  | .gt=>jt a b fun x y=>some (decide (y < x))
  | .ge=>jt a b fun x y=>some (decide (y≤x))
  | .le=>jt a b fun x y=>some (decide (x≤y))
  | .eq=>ku mu a b
  | .ne=>(ku mu a b).map (!·)
  | .in_=>Ip a b
  | .notIn=>(vI a).bind fun x=>(vL b).bind fun xs=>(gg xs).map (!·.contains x)
noncomputable def Dat.isB (x:Dat):Bool:=(dB x).isSome
noncomputable def q9 (f:Mu→Val→Option (Dat × Mu)):Mu→List Val→Option (List Dat × Mu)
  | mu,[]=>some ([],mu)
  | mu,v::r=>(f mu v).bind fun (x,m1)=>(q9 f m1 r).bind fun (xs,m2)=>some (x::xs,m2)
noncomputable def wt (g:Mu→List Val→Option (List Dat × Mu)) (i:Nat) (mu:Mu):MObj→Option (Dat × Mu)
  | .frz d=>if d.isB then none else some (d,mu)
  | .spots b=>some (.spots b,mu.set i (.frz (.spots b)))
  | .list xs=>(g mu xs).bind fun (ds,m1)=>((m1[i]?).bind oL).map fun Z=>(.lst ds,m1.set i (.frz (.lst ds)))
  | .inst c fs xs=>(g mu xs).bind fun (ds,m1)=>((m1[i]?).bind oO).map fun Z=>(.obj c fs ds,m1.set i (.frz (.obj c fs ds)))
  | .sdict _ _ | .idict _=>none
noncomputable def freeze:Nat→Mu→Val→Option (Dat × Mu)
  | 0,_,_=>none
  | n+1,mu,v=>(vR v).elim ((vD v).map (·,mu)) fun i=>(mu[i]?).bind fun ob=>wt (q9 (freeze n)) i mu ob
noncomputable abbrev freeze.go (n:Nat) (mu:Mu) (l:List Val):Option (List Dat × Mu):=q9 (freeze n) mu l
noncomputable def m9 (mu:Mu) (v:Val):Bool:=(vR v).elim false fun k=>A2 mu[k]?
noncomputable def js (mu:Mu) (v:Val):Bool:=(vR v).elim false fun k=>mU mu[k]?
noncomputable def Cls.init:Cls→Fn
  | .body=>.initBody
  | .caller=>.initCaller
theorem xX:Cls.init .body=.initBody:=rfl
noncomputable abbrev Calls:=Fn→List Val→Mu→Option (Val × Mu)
noncomputable def za:List Val→Option Val
  | []=>none
  | [b]=>(vI b).map fun b=>.d (.rng 0 b 1)
  | [a,b]=>jt a b fun a b=>some (.d (.rng a b 1))
  | [a,b,c]=>jt a b fun a b=>(vI c).bind fun c=>if c = -1∧jr a b=true then some (.d (.rng a b c)) else none
  | _::_::_::_::_=>none
noncomputable def bi (mu:Mu) (b:Bi) (vs:List Val):Option Val:=match b with
  | .len=>(one vs).bind fun v=>(vT v).elim ((f9 mu v).bind fun xs=>if xs.length≤lim then some (.d (.int xs.length)) else none) fun xs=>if xs.length≤lim then some (.d (.int xs.length)) else none
  | .max=>(two vs).bind fun q=>jt q.1 q.2 fun x y=>some (.d (.int (if x < y then y else x)))
  | .int=>(one vs).bind fun v=>(vB v).map fun b=>.d (.int (if b then 1 else 0))
  | .sum=>(one vs).bind fun v=>(vL v).bind fun xs=>(gg xs).map fun is=>.d (.int is.sum)
  | .tuple=>(one vs).bind fun v=>(vT v).elim ((f9 mu v).bind fun xs=>(bN xs).bind gu) fun xs=>some (.d (.tup xs))
  | .range=>za vs
  | .dict=>none
noncomputable def Bi.isDict (b:Bi):Bool:=Bi.casesOn (motive:=fun Z=>Bool) b false false false false false true false
noncomputable def w4 (m:Mu) (vs:List Val):Option (Val × Mu):=(one vs).bind fun v=>(vD v).bind fun x=>(dP x).bind fun n=>if n=0 then some (.r m.length,m++[.spots 0]) else none
noncomputable def D1 (m:Mu) (b:Bi) (vs:List Val):Option (Val × Mu):=cond b.isDict (w4 m vs) ((bi m b vs).map (·,m))
noncomputable def np (m:Mu) (x:Val):Option (List Val):=(vD x).elim (f9 m x) fun x=>(items x).map fun xs=>xs.map Val.d
noncomputable def ap:List Nat→List Val→ag→Option ag
  | [],[],loc=>some loc
  | i::is,v::vs,loc=>if i < loc.length then ap is vs (loc.set i (some v)) else none
  | [],_::_,_=>none
  | _::_,[],_=>none
noncomputable def gY (ts:List Nat) (x:Dat) (loc:ag):Option ag:=(tO x).bind fun xs=>if ts.length=xs.length then ap ts (xs.map .d) loc else none
noncomputable def cU (ts:List Nat) (x:Dat) (loc:ag):Option ag:=match ts with
  | [t]=>ap [t] [.d x] loc
  | []=>gY [] x loc
  | t::u::ts=>gY (t::u::ts) x loc
noncomputable def cD (f:ag→Mu→Option (Option Val × Mu)) (ts:List Nat):List Dat→ag→Mu→Option (List Val × Mu)
  | [],_,mu=>some ([],mu)
  | x::xs,loc,mu=>(cU ts x loc).bind fun l1=>(f l1 mu).bind fun (v,m1)=>(cD f ts xs l1 m1).bind fun (vs,m2)=>some (v.toList++vs,m2)
theorem JN {f:ag→Mu→Option (Option Val × Mu)} {ts:List Nat} {x:Dat} {xs:List Dat} {l:ag} {mu:Mu}:cD f ts (x::xs) l mu=(cU ts x l).bind fun l1=>(f l1 mu).bind fun (v,m1)=>(cD f ts xs l1 m1).bind fun (vs,m2)=>some (v.toList++vs,m2):=rfl
noncomputable def wz (k:Nat) (m:Mu):List Val→Option (Val × Mu)
  | []=>none
  | x::xs=>if xs.length < lim then some (x,m.set k (.list xs)) else none
noncomputable def xu (a:Nat) (x z:Val) (m:Mu):Option (Val × Mu):=(vI x).elim
  ((Ay x).bind fun Z=>(vI z).bind fun j=>if j=0 then ((m[a]?).bind oP).map fun Z=>(.d .any,m) else none)
  fun i=>(vD z).bind fun z=>((m[a]?).bind oI).map fun ks=>(.d ((ks.lookup i).getD z),m)
mutual
noncomputable def ev (C:Calls) (loc:ag) (mu:Mu):CE→Option (Val × Mu)
  | .any=>none
  | .loc i=>(look loc mu i).map (·,mu)
  | .byte=>some (.d dh,mu)
  | .int i=>some (.d (.int i),mu)
  | .str w=>some (.d (.str w),mu)
  | .bool b=>some (.d (.bool b),mu)
  | .none=>some (.d .none,mu)
  | .tup es=>(cS C loc mu es).bind fun (vs,m)=>((bN vs).bind gu).map (·,m)
  | .list q es=>(cS C loc mu es).bind fun (vs,m)=>cy q m vs (bN vs)
  | .bin q o a b=>(ev C loc mu a).bind fun (x,m)=>(ev C loc m b).bind fun (y,m)=>fF m q o x y
  | .neg a=>(ev C loc mu a).bind fun (x,m)=>(vI x).map fun i=>(.d (.int (-i)),m)
  | .cmp o a b=>(ev C loc mu a).bind fun (x,m)=>(ev C loc m b).bind fun (y,m)=>(dU m o x y).map fun b=>(.d (.bool b),m)
  | .isN a=>(ev C loc mu a).bind fun (x,m)=>(l6 x).map fun b=>(.d (.bool b),m)
  | .notN a=>(ev C loc mu a).bind fun (x,m)=>(l6 x).map fun b=>(.d (.bool !b),m)
  | .and es=>gj C loc mu es
  | .or es=>iy C loc mu es
  | .not a=>(ev C loc mu a).bind fun (x,m)=>(df x).map fun b=>(.d (.bool !b),m)
  | .ifx t a b=>(ev C loc mu t).bind fun (x,m)=>(df x).bind fun c=>if c then ev C loc m a else ev C loc m b
  | .attr e f=>(ev C loc mu e).bind fun (x,m)=>(fO m x f).map (·,m)
  | .sub e i=>(ev C loc mu e).bind fun (x,m)=>(ev C loc m i).bind fun (y,m)=>(bj m x y).map (·,m)
  | .slo e lo=>(ev C loc mu e).bind fun (x,m)=>(ev C loc m lo).bind fun (y,m)=>(vT x).bind fun xs=>(vI y).bind fun k=>if 1≤k∧k≤8∧k.toNat≤xs.length then (gu (xs.drop k.toNat)).map (·,m) else none
  | .call f es=>(cS C loc mu es).bind fun (vs,m)=>C f vs m
  | .new c es=>(cS C loc mu es).bind fun (vs,m)=>(C c.init (.r m.length::vs) (m++[.inst c [] []])).bind fun (x,m1)=>(vN x).map fun Z=>(.r m.length,m1)
  | .meth e f es=>(ev C loc mu e).bind fun (x,m)=>(vR x).bind fun k=>((m[k]?).bind rT).bind fun Z=>(cS C loc m es).bind fun (vs,m)=>C f (.r k::vs) m
  | .bi b es=>(cS C loc mu es).bind fun (vs,m)=>D1 m b vs
  | .toList q e=>(ev C loc mu e).bind fun (x,m)=>(np m x).bind fun xs=>cy q m xs (bN xs)
  | .app e x=>(ev C loc mu e).bind fun (o,m)=>if m9 m o=false then none else (ev C loc m x).bind fun (v,m)=>(vR o).bind fun k=>((m[k]?).bind oL).bind fun xs=>if xs.length < lim then some (.d .none,m.set k (.list (xs++[v]))) else none
  | .ext e x=>(ev C loc mu e).bind fun (o,m)=>if m9 m o=false then none else (ev C loc m x).bind fun (v,m)=>(vR o).bind fun k=>(vL v).bind fun ds=>((m[k]?).bind oL).bind fun xs=>if xs.length+ds.length≤lim then some (.d .none,m.set k (.list (xs++ds.map .d))) else none
  | .pop0 e=>(ev C loc mu e).bind fun (o,m)=>(vR o).bind fun k=>((m[k]?).bind oL).bind fun l=>wz k m l
  | .get e k=>(ev C loc mu e).bind fun (o,m)=>if js m o=false then none else (ev C loc m k).bind fun (x,m)=>(vR o).bind fun a=>(vI x).bind fun i=>((m[a]?).bind oI).map fun ks=>(.d ((ks.lookup i).getD .none),m)
  | .getd e k d=>(ev C loc mu e).bind fun (o,m)=>if js m o=false then none else (ev C loc m k).bind fun (x,m)=>(ev C loc m d).bind fun (z,m)=>(vR o).bind fun a=>xu a x z m
  | .popd e k=>(ev C loc mu e).bind fun (o,m)=>if js m o=false then none else (ev C loc m k).bind fun (x,m)=>(vR o).bind fun a=>(vI x).bind fun i=>((m[a]?).bind oI).bind fun ks=>if ks.length≤lim then some (.d ((ks.lookup i).getD .none),m.set a (.idict (cM i ks))) else none
  | .comp q elt ts it=>(ev C loc mu it).bind fun (x,m)=>(fq x).bind fun xs =>
      (cD (fun l m=>(ev C l m elt).map fun (v,m)=>(some v,m)) ts xs loc m).bind fun (vs,m) =>
        cy q m vs (bN vs)
  | .compif elt ts it c=>(ev C loc mu it).bind fun (x,m)=>(fq x).bind fun xs =>
      (cD (fun l m=>(ev C l m c).bind fun (t,m)=>(df t).bind fun b=>if b then (ev C l m elt).map fun (v,m)=>(some v,m) else some (none,m)) ts xs loc m).bind fun (vs,m)=>cy false m vs (bN vs)
  | .lam i=>(look loc mu i).bind fun v=>(vI v).map fun k=>(.clo k,mu)
  | .callv i x=>(look loc mu i).bind fun v=>(ev C loc mu x).bind fun (y,m)=>(vC v).bind fun k=>(vI y).map fun b=>(.d (.int (b+k)),m)
  | .emptyI=>some (.r mu.length,mu++[.idict []])
  | .emptyP=>some (.r mu.length,mu++[.spots 0])
  | .sdisp frozen ws es=>(cS C loc mu es).bind fun (vs,m)=>if ws.length=vs.length∧ws.Nodup∧ws.length≤8 then
      (if frozen then (bN vs).map fun ds=>(.d (.dct ws ds),m) else some (.r m.length,m++[.sdict ws vs])) else none
  | .frz e=>(ev C loc mu e).bind fun (v,m)=>(freeze 4 m v).map fun (d,m)=>(.d d,m)
noncomputable def cS (C:Calls) (loc:ag) (mu:Mu):CEs→Option (List Val × Mu)
  | .nil=>some ([],mu)
  | .cons e r=>(ev C loc mu e).bind fun (v,m)=>(cS C loc m r).bind fun (vs,m)=>some (v::vs,m)
noncomputable def gj (C:Calls) (loc:ag) (mu:Mu):CEs→Option (Val × Mu)
  | .nil=>none
  | .cons e .nil=>ev C loc mu e
  | .cons e r=>(ev C loc mu e).bind fun (v,m)=>(df v).bind fun b=>if b then gj C loc m r else some (v,m)
noncomputable def iy (C:Calls) (loc:ag) (mu:Mu):CEs→Option (Val × Mu)
  | .nil=>none
  | .cons e .nil=>ev C loc mu e
  | .cons e r=>(ev C loc mu e).bind fun (v,m)=>(df v).bind fun b=>if b then some (v,m) else iy C loc m r
end
inductive Fl where | next | ret (v:Val)
noncomputable def cY (f:ag→Mu→Option (Fl × ag × Mu)) (ts:List Nat):List Dat→ag→Mu→Option (Fl × ag × Mu)
  | [],loc,mu=>some (.next,loc,mu)
  | x::xs,loc,mu=>(cU ts x loc).bind fun l1=>(f l1 mu).bind fun (fl,l2,m2)=>match fl with
      | .next=>cY f ts xs l2 m2
      | .ret v=>some (.ret v,l2,m2)
theorem JI {f:ag→Mu→Option (Fl × ag × Mu)} {ts:List Nat} {x:Dat} {xs:List Dat} {l:ag} {mu:Mu}:cY f ts (x::xs) l mu=(cU ts x l).bind fun l1=>(f l1 mu).bind fun (fl,l2,m2)=>match fl with
      | .next=>cY f ts xs l2 m2
      | .ret v=>some (.ret v,l2,m2):=rfl
noncomputable def hZ:List Dat→Nat→List Dat
  | [],_=>[]
  | x::xs,n=>.tup [.int n,x]::hZ xs (n+1)
theorem BH {n:Nat}:hZ [] n=[]:=rfl
theorem xS {x:Dat} {xs:List Dat} {n:Nat}:hZ (x::xs) n=.tup [.int n,x]::hZ xs (n+1):=rfl
noncomputable def BW (loc:ag) (x:Val) (a:Nat) (k:Int) (m:Mu) (ob:MObj):Option (Fl × ag × Mu):=(oL ob).elim ((oI ob).bind fun ks=>(vD x).bind fun x=>if ks.length < lim then some (.next,loc,m.set a (.idict (ci k x ks))) else none)
  fun xs=>(dg k xs.length).map fun j=>(.next,loc,m.set a (.list (xs.set j x)))
noncomputable def Cu (loc:ag) (x:Val) (a:Nat) (w:W) (m:Mu) (q:List W × List Val):Option (Fl × ag × Mu):=if q.1.contains w=true∧q.1.length≤lim then some (.next,loc,m.set a (.sdict q.1 (lV w x q.1 q.2))) else none
noncomputable def Co (loc:ag) (x:Val) (a:Nat) (m:Mu) (n:Nat):Option (Fl × ag × Mu):=(vA x).bind fun Z=>if n < lim then some (.next,loc,m.set a (.spots (n+1))) else none
noncomputable def r6 (loc:ag) (x:Val) (a:Nat) (k:Val) (m:Mu):Option (Fl × ag × Mu):=(vI k).elim ((vS k).elim ((Ay k).bind fun Z=>((m[a]?).bind oP).bind fun n=>Co loc x a m n) fun w=>((m[a]?).bind oD).bind fun q=>Cu loc x a w m q)
  fun k=>(m[a]?).bind fun ob=>BW loc x a k m ob
mutual
noncomputable def ex (C:Calls) (loc:ag) (mu:Mu):CS→Option (Fl × ag × Mu)
  | .any=>none
  | .asg i e=>(ev C loc mu e).bind fun (v,m)=>if i < loc.length then some (.next,loc.set i (some v),m) else none
  | .unp is e=>(ev C loc mu e).bind fun (v,m)=>(vD v).bind fun x=>(tO x).bind fun xs=>if is.length=xs.length then (ap is (xs.map .d) loc).map fun l=>(.next,l,m) else none
  | .multi is es=>(cS C loc mu es).bind fun (vs,m)=>if is.length=vs.length∧is.length≤8 then (ap is vs loc).map fun l=>(.next,l,m) else none
  | .sett o i v=>(ev C loc mu v).bind fun (x,m)=>(ev C loc m o).bind fun (a,m)=>(ev C loc m i).bind fun (k,m)=>(vR a).bind fun a=>r6 loc x a k m
  | .seta o f v=>(ev C loc mu v).bind fun (x,m)=>(ev C loc m o).bind fun (a,m)=>(vR a).bind fun a=>((m[a]?).bind oO).bind fun q=>if q.2.1.length < lim then some (.next,loc,m.set a (.inst q.1 (jZ f q.2.1) (jm f x q.2.1 q.2.2))) else none
  | .ifs c a b=>(ev C loc mu c).bind fun (x,m)=>(df x).bind fun t=>if t then ea C loc m a else ea C loc m b
  | .ret e=>(ev C loc mu e).map fun (v,m)=>(.ret v,loc,m)
  | .expr e=>(ev C loc mu e).map fun (_,m)=>(.next,loc,m)
  | .for_ ts it b=>(ev C loc mu it).bind fun (x,m)=>(fq x).bind fun xs=>cY (fun l m=>ea C l m b) ts xs loc m
  | .forEnum i j it b=>(ev C loc mu it).bind fun (x,m)=>(jS x).bind fun xs=>cY (fun l m=>ea C l m b) [i,j] (hZ xs 0) loc m
noncomputable def ea (C:Calls) (loc:ag) (mu:Mu):CSs→Option (Fl × ag × Mu)
  | .nil=>some (.next,loc,mu)
  | .cons s r=>(ex C loc mu s).bind fun (fl,l,m)=>match fl with
      | .next=>ea C l m r
      | .ret v=>some (.ret v,l,m)
end
set_option genCtorIdx false in
set_option genInjectivity false in
structure FDef where
  names:List String
  params:Nat
  dflts:List Dat
  cut:Bool
  body:CSs
  wr:List String:=[]
  fz:List String:=[]
noncomputable def FDef.strs (d:FDef):List Str:=d.names.map Str.ofString
noncomputable def FDef.args (d:FDef):List Str:=d.strs.take d.params
noncomputable def Val.okB (n:Nat):Val→Bool
  | .d _=>true
  | .r i=>decide (i < n)
  | .clo _=>true
noncomputable def MObj.okB (n:Nat):MObj→Bool
  | .list xs=>xs.all (Val.okB n)
  | .sdict _ xs=>xs.all (Val.okB n)
  | .idict _=>true
  | .spots _=>true
  | .inst _ _ xs=>xs.all (Val.okB n)
  | .frz _=>true
section
variable {n:Nat} {xs:List Val} {ws:List W} {ks:List (Int × Dat)} {c:Cls} {fs:List Fld} {d:Dat} {i:Nat} {k:Int}
theorem pO:Val.okB n (.d d)=true:=rfl
theorem sm:Val.okB n (.r i)=decide (i < n):=rfl
theorem s7:Val.okB n (.clo k)=true:=rfl
theorem tu:MObj.okB n (.list xs)=xs.all (Val.okB n):=rfl
theorem Gq:MObj.okB n (.sdict ws xs)=xs.all (Val.okB n):=rfl
theorem GO:MObj.okB n (.idict ks)=true:=rfl
theorem Gf:MObj.okB n (.spots i)=true:=rfl
theorem Fu:MObj.okB n (.inst c fs xs)=xs.all (Val.okB n):=rfl
theorem Ea:MObj.okB n (.frz d)=true:=rfl
end
noncomputable def cE (cut:Bool) (n:Nat) (v:Val) (mu:Mu):Option (Val × Mu) :=
  if cut then (if v.okB 0 && (mu.take n).all (MObj.okB n) then some (v,mu.take n) else none) else some (v,mu)
noncomputable def an (P:Fn→FDef):Nat→Calls
  | 0,_,_,_=>none
  | n+1,f,vs,mu =>
    let d:=P f
    let args:=vs++((d.dflts.drop (d.dflts.length - (d.params - vs.length))).map Val.d)
    if vs.length≤d.params∧d.params - vs.length≤d.dflts.length then
      (ea (an P n) (args.map some++List.replicate (d.names.length - d.params) none) mu d.body).bind fun (fl,_,m) =>
        cE d.cut mu.length (match fl with | .ret v=>v | .next=>.d .none) m
    else none
theorem BR {P:Fn→FDef} {n:Nat} {f:Fn} {vs:List Val} {mu:Mu}:an P (n+1) f vs mu=(let d:=P f
    let args:=vs++((d.dflts.drop (d.dflts.length - (d.params - vs.length))).map Val.d)
    if vs.length≤d.params∧d.params - vs.length≤d.dflts.length then
      (ea (an P n) (args.map some++List.replicate (d.names.length - d.params) none) mu d.body).bind fun (fl,_,m) =>
        cE d.cut mu.length (match fl with | .ret v=>v | .next=>.d .none) m
    else none):=rfl
end Mine.Internal
namespace Mine.Internal
theorem pB {C:Calls} {loc:ag} {mu:Mu}:ev C loc mu .any=none:=rfl
theorem Gk {C:Calls} {loc:ag} {mu:Mu} {i}:ev C loc mu (.loc i)=(look loc mu i).map (·,mu):=rfl
theorem CO {C:Calls} {loc:ag} {mu:Mu}:ev C loc mu .byte=some (.d dh,mu):=rfl
theorem Gd {C:Calls} {loc:ag} {mu:Mu} {i}:ev C loc mu (.int i)=some (.d (.int i),mu):=rfl
theorem Ge {C:Calls} {loc:ag} {mu:Mu} {w}:ev C loc mu (.str w)=some (.d (.str w),mu):=rfl
theorem DA {C:Calls} {loc:ag} {mu:Mu} {b}:ev C loc mu (.bool b)=some (.d (.bool b),mu):=rfl
theorem vf {C:Calls} {loc:ag} {mu:Mu}:ev C loc mu .none=some (.d .none,mu):=rfl
theorem EK {C:Calls} {loc:ag} {mu:Mu} {es}:ev C loc mu (.tup es)=(cS C loc mu es).bind fun (vs,m)=>((bN vs).bind gu).map (·,m):=rfl
theorem CV {C:Calls} {loc:ag} {mu:Mu} {q} {es}:ev C loc mu (.list q es)=(cS C loc mu es).bind fun (vs,m)=>cy q m vs (bN vs):=rfl
theorem FP {C:Calls} {loc:ag} {mu:Mu} {q} {o} {a} {b}:ev C loc mu (.bin q o a b)=(ev C loc mu a).bind fun (x,m)=>(ev C loc m b).bind fun (y,m)=>fF m q o x y:=rfl
theorem xR {C:Calls} {loc:ag} {mu:Mu} {a}:ev C loc mu (.neg a)=(ev C loc mu a).bind fun (x,m)=>(vI x).map fun i=>(.d (.int (-i)),m):=rfl
theorem yk {C:Calls} {loc:ag} {mu:Mu} {o} {a} {b}:ev C loc mu (.cmp o a b)=(ev C loc mu a).bind fun (x,m)=>(ev C loc m b).bind fun (y,m)=>(dU m o x y).map fun b=>(.d (.bool b),m):=rfl
theorem yV {C:Calls} {loc:ag} {mu:Mu} {a}:ev C loc mu (.isN a)=(ev C loc mu a).bind fun (x,m)=>(l6 x).map fun b=>(.d (.bool b),m):=rfl
theorem vh {C:Calls} {loc:ag} {mu:Mu} {a}:ev C loc mu (.notN a)=(ev C loc mu a).bind fun (x,m)=>(l6 x).map fun b=>(.d (.bool !b),m):=rfl
theorem zi {C:Calls} {loc:ag} {mu:Mu} {es}:ev C loc mu (.and es)=gj C loc mu es:=rfl
theorem B1 {C:Calls} {loc:ag} {mu:Mu} {es}:ev C loc mu (.or es)=iy C loc mu es:=rfl
theorem yE {C:Calls} {loc:ag} {mu:Mu} {a}:ev C loc mu (.not a)=(ev C loc mu a).bind fun (x,m)=>(df x).map fun b=>(.d (.bool !b),m):=rfl
theorem zw {C:Calls} {loc:ag} {mu:Mu} {t} {a} {b}:ev C loc mu (.ifx t a b)=(ev C loc mu t).bind fun (x,m)=>(df x).bind fun c=>if c then ev C loc m a else ev C loc m b:=rfl
theorem CL {C:Calls} {loc:ag} {mu:Mu} {e} {f}:ev C loc mu (.attr e f)=(ev C loc mu e).bind fun (x,m)=>(fO m x f).map (·,m):=rfl
theorem DV {C:Calls} {loc:ag} {mu:Mu} {e} {i}:ev C loc mu (.sub e i)=(ev C loc mu e).bind fun (x,m)=>(ev C loc m i).bind fun (y,m)=>(bj m x y).map (·,m):=rfl
theorem ED {C:Calls} {loc:ag} {mu:Mu} {e} {lo}:ev C loc mu (.slo e lo)=(ev C loc mu e).bind fun (x,m)=>(ev C loc m lo).bind fun (y,m)=>(vT x).bind fun xs=>(vI y).bind fun k=>if 1≤k∧k≤8∧k.toNat≤xs.length then (gu (xs.drop k.toNat)).map (·,m) else none:=rfl
theorem CI {C:Calls} {loc:ag} {mu:Mu} {f} {es}:ev C loc mu (.call f es)=(cS C loc mu es).bind fun (vs,m)=>C f vs m:=rfl
theorem Et {C:Calls} {loc:ag} {mu:Mu} {c} {es}:ev C loc mu (.new c es)=(cS C loc mu es).bind fun (vs,m)=>(C c.init (.r m.length::vs) (m++[.inst c [] []])).bind fun (x,m1)=>(vN x).map fun Z=>(.r m.length,m1):=rfl
theorem CT {C:Calls} {loc:ag} {mu:Mu} {e} {f} {es}:ev C loc mu (.meth e f es)=(ev C loc mu e).bind fun (x,m)=>(vR x).bind fun k=>((m[k]?).bind rT).bind fun Z=>(cS C loc m es).bind fun (vs,m)=>C f (.r k::vs) m:=rfl
theorem Hy {C:Calls} {loc:ag} {mu:Mu} {b} {es}:ev C loc mu (.bi b es)=(cS C loc mu es).bind fun (vs,m)=>D1 m b vs:=rfl
theorem xL {C:Calls} {loc:ag} {mu:Mu} {q} {e}:ev C loc mu (.toList q e)=(ev C loc mu e).bind fun (x,m)=>(np m x).bind fun xs=>cy q m xs (bN xs):=rfl
theorem Fy {C:Calls} {loc:ag} {mu:Mu} {e} {x}:ev C loc mu (.app e x)=(ev C loc mu e).bind fun (o,m)=>if m9 m o=false then none else (ev C loc m x).bind fun (v,m)=>(vR o).bind fun k=>((m[k]?).bind oL).bind fun xs=>if xs.length < lim then some (.d .none,m.set k (.list (xs++[v]))) else none:=rfl
theorem GC {C:Calls} {loc:ag} {mu:Mu} {e} {x}:ev C loc mu (.ext e x)=(ev C loc mu e).bind fun (o,m)=>if m9 m o=false then none else (ev C loc m x).bind fun (v,m)=>(vR o).bind fun k=>(vL v).bind fun ds=>((m[k]?).bind oL).bind fun xs=>if xs.length+ds.length≤lim then some (.d .none,m.set k (.list (xs++ds.map .d))) else none:=rfl
theorem Dk {C:Calls} {loc:ag} {mu:Mu} {e}:ev C loc mu (.pop0 e)=(ev C loc mu e).bind fun (o,m)=>(vR o).bind fun k=>((m[k]?).bind oL).bind fun l=>wz k m l:=rfl
theorem Ev {C:Calls} {loc:ag} {mu:Mu} {e} {k}:ev C loc mu (.get e k)=(ev C loc mu e).bind fun (o,m)=>if js m o=false then none else (ev C loc m k).bind fun (x,m)=>(vR o).bind fun a=>(vI x).bind fun i=>((m[a]?).bind oI).map fun ks=>(.d ((ks.lookup i).getD .none),m):=rfl
theorem Dl {C:Calls} {loc:ag} {mu:Mu} {e} {k} {d}:ev C loc mu (.getd e k d)=(ev C loc mu e).bind fun (o,m)=>if js m o=false then none else (ev C loc m k).bind fun (x,m)=>(ev C loc m d).bind fun (z,m)=>(vR o).bind fun a=>xu a x z m:=rfl
theorem DR {C:Calls} {loc:ag} {mu:Mu} {e} {k}:ev C loc mu (.popd e k)=(ev C loc mu e).bind fun (o,m)=>if js m o=false then none else (ev C loc m k).bind fun (x,m)=>(vR o).bind fun a=>(vI x).bind fun i=>((m[a]?).bind oI).bind fun ks=>if ks.length≤lim then some (.d ((ks.lookup i).getD .none),m.set a (.idict (cM i ks))) else none:=rfl
theorem uV {C:Calls} {loc:ag} {mu:Mu} {q} {elt} {ts} {it}:ev C loc mu (.comp q elt ts it)=(ev C loc mu it).bind fun (x,m)=>(fq x).bind fun xs =>
      (cD (fun l m=>(ev C l m elt).map fun (v,m)=>(some v,m)) ts xs loc m).bind fun (vs,m) =>
        cy q m vs (bN vs):=rfl
theorem rk {C:Calls} {loc:ag} {mu:Mu} {elt} {ts} {it} {c}:ev C loc mu (.compif elt ts it c)=(ev C loc mu it).bind fun (x,m)=>(fq x).bind fun xs =>
      (cD (fun l m=>(ev C l m c).bind fun (t,m)=>(df t).bind fun b=>if b then (ev C l m elt).map fun (v,m)=>(some v,m) else some (none,m)) ts xs loc m).bind fun (vs,m)=>cy false m vs (bN vs):=rfl
theorem FY {C:Calls} {loc:ag} {mu:Mu} {i}:ev C loc mu (.lam i)=(look loc mu i).bind fun v=>(vI v).map fun k=>(.clo k,mu):=rfl
theorem Ai {C:Calls} {loc:ag} {mu:Mu} {i} {x}:ev C loc mu (.callv i x)=(look loc mu i).bind fun v=>(ev C loc mu x).bind fun (y,m)=>(vC v).bind fun k=>(vI y).map fun b=>(.d (.int (b+k)),m):=rfl
theorem zu {C:Calls} {loc:ag} {mu:Mu}:ev C loc mu .emptyI=some (.r mu.length,mu++[.idict []]):=rfl
theorem yQ {C:Calls} {loc:ag} {mu:Mu}:ev C loc mu .emptyP=some (.r mu.length,mu++[.spots 0]):=rfl
theorem Ag {C:Calls} {loc:ag} {mu:Mu} {frozen} {ws} {es}:ev C loc mu (.sdisp frozen ws es)=(cS C loc mu es).bind fun (vs,m)=>if ws.length=vs.length∧ws.Nodup∧ws.length≤8 then
      (if frozen then (bN vs).map fun ds=>(.d (.dct ws ds),m) else some (.r m.length,m++[.sdict ws vs])) else none:=rfl
theorem qa {C:Calls} {loc:ag} {mu:Mu} {e}:ev C loc mu (.frz e)=(ev C loc mu e).bind fun (v,m)=>(freeze 4 m v).map fun (d,m)=>(.d d,m):=rfl
theorem nb {C:Calls} {loc:ag} {mu:Mu}:cS C loc mu .nil=some ([],mu):=rfl
theorem oJ {C:Calls} {loc:ag} {mu:Mu} {e} {r}:cS C loc mu (.cons e r)=(ev C loc mu e).bind fun (v,m)=>(cS C loc m r).bind fun (vs,m)=>some (v::vs,m):=rfl
theorem rp {C:Calls} {loc:ag} {mu:Mu}:gj C loc mu .nil=none:=rfl
theorem rE {C:Calls} {loc:ag} {mu:Mu} {e}:gj C loc mu (.cons e .nil)=ev C loc mu e:=rfl
theorem pd {C:Calls} {loc:ag} {mu:Mu} {e} {e2} {r}:gj C loc mu (.cons e (.cons e2 r))=(ev C loc mu e).bind fun (v,m)=>(df v).bind fun b=>if b then gj C loc m (.cons e2 r) else some (v,m):=rfl
theorem sw {C:Calls} {loc:ag} {mu:Mu}:iy C loc mu .nil=none:=rfl
theorem tP {C:Calls} {loc:ag} {mu:Mu} {e}:iy C loc mu (.cons e .nil)=ev C loc mu e:=rfl
theorem ry {C:Calls} {loc:ag} {mu:Mu} {e} {e2} {r}:iy C loc mu (.cons e (.cons e2 r))=(ev C loc mu e).bind fun (v,m)=>(df v).bind fun b=>if b then some (v,m) else iy C loc m (.cons e2 r):=rfl
theorem DY {C:Calls} {loc:ag} {mu:Mu}:ex C loc mu .any=none:=rfl
theorem GJ {C:Calls} {loc:ag} {mu:Mu} {i} {e}:ex C loc mu (.asg i e)=(ev C loc mu e).bind fun (v,m)=>if i < loc.length then some (.next,loc.set i (some v),m) else none:=rfl
theorem F7 {C:Calls} {loc:ag} {mu:Mu} {is} {e}:ex C loc mu (.unp is e)=(ev C loc mu e).bind fun (v,m)=>(vD v).bind fun x=>(tO x).bind fun xs=>if is.length=xs.length then (ap is (xs.map .d) loc).map fun l=>(.next,l,m) else none:=rfl
theorem A8 {C:Calls} {loc:ag} {mu:Mu} {is} {es}:ex C loc mu (.multi is es)=(cS C loc mu es).bind fun (vs,m)=>if is.length=vs.length∧is.length≤8 then (ap is vs loc).map fun l=>(.next,l,m) else none:=rfl
theorem CM {C:Calls} {loc:ag} {mu:Mu} {o} {i} {v}:ex C loc mu (.sett o i v)=(ev C loc mu v).bind fun (x,m)=>(ev C loc m o).bind fun (a,m)=>(ev C loc m i).bind fun (k,m)=>(vR a).bind fun a=>r6 loc x a k m:=rfl
theorem CQ {C:Calls} {loc:ag} {mu:Mu} {o} {f} {v}:ex C loc mu (.seta o f v)=(ev C loc mu v).bind fun (x,m)=>(ev C loc m o).bind fun (a,m)=>(vR a).bind fun a=>((m[a]?).bind oO).bind fun q=>if q.2.1.length < lim then some (.next,loc,m.set a (.inst q.1 (jZ f q.2.1) (jm f x q.2.1 q.2.2))) else none:=rfl
theorem GD {C:Calls} {loc:ag} {mu:Mu} {c} {a} {b}:ex C loc mu (.ifs c a b)=(ev C loc mu c).bind fun (x,m)=>(df x).bind fun t=>if t then ea C loc m a else ea C loc m b:=rfl
theorem EE {C:Calls} {loc:ag} {mu:Mu} {e}:ex C loc mu (.ret e)=(ev C loc mu e).map fun (v,m)=>(.ret v,loc,m):=rfl
theorem DK {C:Calls} {loc:ag} {mu:Mu} {e}:ex C loc mu (.expr e)=(ev C loc mu e).map fun (_,m)=>(.next,loc,m):=rfl
theorem DG {C:Calls} {loc:ag} {mu:Mu} {ts} {it} {b}:ex C loc mu (.for_ ts it b)=(ev C loc mu it).bind fun (x,m)=>(fq x).bind fun xs=>cY (fun l m=>ea C l m b) ts xs loc m:=rfl
theorem wj {C:Calls} {loc:ag} {mu:Mu} {i} {j} {it} {b}:ex C loc mu (.forEnum i j it b)=(ev C loc mu it).bind fun (x,m)=>(jS x).bind fun xs=>cY (fun l m=>ea C l m b) [i,j] (hZ xs 0) loc m:=rfl
theorem CF {C:Calls} {loc:ag} {mu:Mu}:ea C loc mu .nil=some (.next,loc,mu):=rfl
theorem AX {C:Calls} {loc:ag} {mu:Mu} {s} {r}:ea C loc mu (.cons s r)=(ex C loc mu s).bind fun (fl,l,m)=>match fl with
      | .next=>ea C l m r
      | .ret v=>some (.ret v,l,m):=rfl
theorem GT {mu:Mu} {v:Val}:freeze 0 mu v=none:=rfl
theorem AF {n:Nat} {mu:Mu} {v:Val} {r:List Val}:freeze.go n mu (v::r)=(freeze n mu v).bind fun (x,m1)=>(freeze.go n m1 r).bind fun (xs,m2)=>some (x::xs,m2):=rfl
end Mine.Internal
namespace Mine.Internal
noncomputable def fj:FDef :=
  { names:=["self", "name", "arg_count", "locals_told", "blocks", "spots"],params:=6,dflts:=[.none,.none],cut:=false,body:=.of [
    (.seta (.loc 0) .name (.loc 1)),
    (.seta (.loc 0) .argCount (.loc 2)),
    (.seta (.loc 0) .locals (.toList true (.loc 3))),
    (.seta (.loc 0) .blocks (.ifx (.isN (.loc 4)) (.list true (.of [])) (.loc 4))),
    (.seta (.loc 0) .spots (.ifx (.isN (.loc 5)) .emptyP (.loc 5)))],wr:=[],fz:=[] }
noncomputable def fI:FDef :=
  { names:=["terminator", "turned", "word", "rows", "value", "block"],params:=2,dflts:=[],cut:=true,body:=.of [
    (.asg 2 (.sub (.loc 0) (.int 0))),
    (.ifs (.cmp .eq (.loc 2) (.str .goto_)) (.of [(.ret (.tup (.of [(.str .goto_),(.callv 1 (.sub (.loc 0) (.int 1)))])))]) .nil),
    (.ifs (.cmp .eq (.loc 2) (.str .switch_)) (.of [(.asg 3 (.bi .tuple (.of [(.comp false (.tup (.of [(.loc 4),(.callv 1 (.loc 5))])) [4,5] (.sub (.loc 0) (.int 2)))]))),(.ret (.tup (.of [(.str .switch_),(.sub (.loc 0) (.int 1)),(.loc 3),(.ifx (.isN (.sub (.loc 0) (.int 3))) .none (.callv 1 (.sub (.loc 0) (.int 3))))])))]) .nil),
    (.ifs (.cmp .eq (.loc 2) (.str .call_)) (.of [.any]) .nil),
    (.ifs (.cmp .eq (.loc 2) (.str .drop_)) (.of [.any]) .nil),
    (.ifs (.cmp .eq (.loc 2) (.str .assert_)) (.of [.any]) .nil),
    (.ret (.loc 0))],wr:=[],fz:=[] }
noncomputable def lT:FDef :=
  { names:=["body", "blocks", "statements", "terminator"],params:=1,dflts:=[],cut:=false,body:=.of [
    (.asg 1 (.comp true (.list false (.of [(.toList false (.loc 2)),(.loc 3)])) [2,3] (.attr (.loc 0) .blocks))),
    (.ret (.new .body (.of [(.attr (.loc 0) .name),(.attr (.loc 0) .argCount),(.attr (.loc 0) .locals),(.loc 1),(.bi .dict (.of [(.attr (.loc 0) .spots)]))])))],wr:=[],fz:=[] }
noncomputable def iF:FDef :=
  { names:=["rvalue", "word"],params:=1,dflts:=[],cut:=true,body:=.of [
    (.asg 1 (.sub (.loc 0) (.int 0))),
    (.ifs (.cmp .in_ (.loc 1) (.tup (.of [(.str .use_),(.str .box_)]))) (.of [(.ret (.list false (.of [(.sub (.loc 0) (.int 1))])))]) .nil),
    (.ifs (.cmp .in_ (.loc 1) (.tup (.of [(.str .binary_),(.str .checked_)]))) (.of [(.ret (.list false (.of [(.sub (.loc 0) (.int 2)),(.sub (.loc 0) (.int 3))])))]) .nil),
    (.ifs (.cmp .eq (.loc 1) (.str .unary_)) (.of [.any]) .nil),
    (.ifs (.cmp .eq (.loc 1) (.str .cast_)) (.of [.any]) .nil),
    (.ifs (.cmp .in_ (.loc 1) (.tup (.of [(.str .tuple_),(.str .array_)]))) (.of [(.ret (.toList false (.sub (.loc 0) (.int 1))))]) .nil),
    (.ret .any)],wr:=[],fz:=[] }
noncomputable def da:FDef :=
  { names:=["rvalue", "operands", "word"],params:=2,dflts:=[],cut:=true,body:=.of [
    (.asg 2 (.sub (.loc 0) (.int 0))),
    (.ifs (.cmp .in_ (.loc 2) (.tup (.of [(.str .use_),(.str .box_)]))) (.of [(.ret (.tup (.of [(.loc 2),(.sub (.loc 1) (.int 0))])))]) .nil),
    (.ifs (.cmp .in_ (.loc 2) (.tup (.of [(.str .binary_),(.str .checked_)]))) (.of [(.ret (.tup (.of [(.loc 2),(.sub (.loc 0) (.int 1)),(.sub (.loc 1) (.int 0)),(.sub (.loc 1) (.int 1))])))]) .nil),
    (.ifs (.cmp .eq (.loc 2) (.str .unary_)) (.of [.any]) .nil),
    (.ifs (.cmp .eq (.loc 2) (.str .cast_)) (.of [.any]) .nil),
    (.ifs (.cmp .in_ (.loc 2) (.tup (.of [(.str .tuple_),(.str .array_)]))) (.of [(.ret (.tup (.of [(.loc 2),(.bi .tuple (.of [(.loc 1)]))])))]) .nil),
    (.ret .any)],wr:=[],fz:=[] }
noncomputable def g7:FDef :=
  { names:=["body", "most", "many", "statements", "terminator"],params:=2,dflts:=[],cut:=true,body:=.of [
    (.asg 2 (.int 0)),
    (.for_ [3,4] (.attr (.loc 0) .blocks) (.of [(.asg 2 (.bin false .add (.bin false .add (.loc 2) (.bi .len (.of [(.loc 3)]))) (.int 1))),(.ifs (.cmp .eq (.sub (.loc 4) (.int 0)) (.str .call_)) (.of [(.ret (.bool false))]) .nil)])),
    (.ret (.cmp .le (.loc 2) (.loc 1)))],wr:=[],fz:=[] }
noncomputable def gA:FDef :=
  { names:=["place", "shift", "told", "projection"],params:=2,dflts:=[],cut:=true,body:=.of [
    (.asg 2 (.list true (.of []))),
    (.for_ [3] (.sub (.loc 0) (.int 1)) (.of [(.expr (.app (.loc 2) (.ifx (.cmp .eq (.sub (.loc 3) (.int 0)) (.str .index_)) (.tup (.of [(.str .index_),(.bin false .add (.sub (.loc 3) (.int 1)) (.loc 1))])) (.loc 3))))])),
    (.ret (.tup (.of [(.bin false .add (.sub (.loc 0) (.int 0)) (.loc 1)),(.bi .tuple (.of [(.loc 2)]))])))],wr:=[],fz:=[] }
noncomputable def eO:FDef :=
  { names:=["operand", "shift"],params:=2,dflts:=[],cut:=true,body:=.of [
    (.ret (.ifx (.cmp .eq (.sub (.loc 0) (.int 0)) (.str .const_)) (.loc 0) (.tup (.of [(.sub (.loc 0) (.int 0)),(.call .movedPlace (.of [(.sub (.loc 0) (.int 1)),(.loc 1)]))]))))],wr:=[],fz:=[] }
noncomputable def ef:FDef :=
  { names:=["operands", "shift", "operand"],params:=2,dflts:=[],cut:=true,body:=.of [
    (.ret (.bi .tuple (.of [(.comp false (.call .movedOperand (.of [(.loc 2),(.loc 1)])) [2] (.loc 0))])))],wr:=[],fz:=[] }
noncomputable def eZ:FDef :=
  { names:=["rvalue", "shift"],params:=2,dflts:=[],cut:=true,body:=.of [
    (.ifs (.cmp .eq (.sub (.loc 0) (.int 0)) (.str .ref_)) (.of [.any]) .nil),
    (.ifs (.cmp .eq (.sub (.loc 0) (.int 0)) (.str .discriminant_)) (.of [.any]) .nil),
    (.ret (.call .withOperands (.of [(.loc 0),(.call .movedOperands (.of [(.call .operandsOf (.of [(.loc 0)])),(.loc 1)]))])))],wr:=[],fz:=[] }
noncomputable def fW:FDef :=
  { names:=["statement", "shift", "kind"],params:=2,dflts:=[],cut:=true,body:=.of [
    (.asg 2 (.sub (.loc 0) (.int 0))),
    (.ifs (.cmp .eq (.loc 2) (.str .assign_)) (.of [(.ret (.tup (.of [(.loc 2),(.call .movedPlace (.of [(.sub (.loc 0) (.int 1)),(.loc 1)])),(.call .movedRvalue (.of [(.sub (.loc 0) (.int 2)),(.loc 1)]))])))]) .nil),
    (.ifs (.cmp .in_ (.loc 2) (.tup (.of [(.str .live_),(.str .dead_)]))) (.of [(.ret (.tup (.of [(.loc 2),(.bin false .add (.sub (.loc 0) (.int 1)) (.loc 1))])))]) .nil),
    (.ifs (.cmp .eq (.loc 2) (.str .print_)) (.of [(.ret (.tup (.of [(.loc 2),(.call .movedOperand (.of [(.sub (.loc 0) (.int 1)),(.loc 1)]))])))]) .nil),
    (.ret (.loc 0))],wr:=[],fz:=[] }
noncomputable def du:FDef :=
  { names:=["terminator", "shift", "blocks", "told"],params:=3,dflts:=[],cut:=true,body:=.of [
    (.asg 3 (.call .retargeted (.of [(.loc 0),(.lam 2)]))),
    (.ifs (.cmp .in_ (.sub (.loc 3) (.int 0)) (.tup (.of [(.str .switch_),(.str .assert_)]))) (.of [(.ret (.bin false .add (.tup (.of [(.sub (.loc 3) (.int 0)),(.call .movedOperand (.of [(.sub (.loc 3) (.int 1)),(.loc 1)]))])) (.bi .tuple (.of [(.slo (.loc 3) (.int 2))]))))]) .nil),
    (.ifs (.cmp .eq (.sub (.loc 3) (.int 0)) (.str .drop_)) (.of [.any]) .nil),
    (.ret (.loc 3))],wr:=[],fz:=["blocks"] }
noncomputable def ir:FDef :=
  { names:=["self", "body"],params:=2,dflts:=[],cut:=false,body:=.of [
    (.seta (.loc 0) .body (.call .copied (.of [(.loc 1)])))],wr:=[],fz:=[] }
noncomputable def se:FDef :=
  { names:=["self", "number", "inner", "spot", "begun", "statements", "terminator", "place", "behind", "shift", "blocks", "at", "operand", "local"],params:=3,dflts:=[],cut:=true,body:=.of [
    (.unp [5,6] (.sub (.attr (.attr (.loc 0) .body) .blocks) (.loc 1))),
    (.multi [7,8] (.of [(.sub (.loc 6) (.int 3)),(.sub (.loc 6) (.int 4))])),
    (.multi [9,10] (.of [(.bi .len (.of [(.attr (.attr (.loc 0) .body) .locals)])),(.bi .len (.of [(.attr (.attr (.loc 0) .body) .blocks)]))])),
    (.asg 3 (.getd (.attr (.attr (.loc 0) .body) .spots) (.tup (.of [(.loc 1),(.bi .len (.of [(.loc 5)]))])) (.int 0))),
    (.asg 4 (.bin true .add (.toList false (.loc 5)) (.comp false (.tup (.of [(.str .live_),(.bin false .add (.loc 9) (.loc 13))])) [13] (.bi .range (.of [(.bin false .add (.attr (.loc 2) .argCount) (.int 1))]))))),
    (.forEnum 11 12 (.sub (.loc 6) (.int 2)) (.of [(.expr (.app (.loc 4) (.tup (.of [(.str .assign_),(.tup (.of [(.bin false .add (.bin false .add (.loc 9) (.loc 11)) (.int 1)),(.tup (.of []))])),(.tup (.of [(.str .use_),(.loc 12)]))]))))])),
    (.sett (.attr (.attr (.loc 0) .body) .blocks) (.loc 1) (.list false (.of [(.frz (.loc 4)),(.tup (.of [(.str .goto_),(.loc 10)]))]))),
    (.expr (.meth (.loc 0) .tellSpots (.of [(.loc 1),(.bi .len (.of [(.loc 5)])),(.bin false .add (.bi .len (.of [(.loc 4)])) (.int 1)),(.loc 3)]))),
    (.expr (.ext (.attr (.attr (.loc 0) .body) .locals) (.attr (.loc 2) .locals))),
    (.for_ [5,6] (.attr (.loc 2) .blocks) (.of [(.expr (.meth (.loc 0) .putBlock (.of [(.loc 5),(.loc 6),(.tup (.of [(.loc 9),(.loc 10),(.loc 7),(.loc 8),(.attr (.loc 2) .argCount)])),(.loc 3)])))]))],wr:=["shift"],fz:=[] }
noncomputable def i6:FDef :=
  { names:=["self", "number", "first", "last", "spot", "at"],params:=5,dflts:=[],cut:=true,body:=.of [
    (.for_ [5] (.bi .range (.of [(.loc 2),(.loc 3)])) (.of [(.sett (.attr (.attr (.loc 0) .body) .spots) (.tup (.of [(.loc 1),(.loc 5)])) (.loc 4))]))],wr:=[],fz:=[] }
noncomputable def gH:FDef :=
  { names:=["self", "statements", "terminator", "call", "spot", "made", "told", "shift", "blocks", "place", "behind", "many", "statement", "local"],params:=5,dflts:=[],cut:=true,body:=.of [
    (.unp [7,8,9,10,11] (.loc 3)),
    (.asg 5 (.comp true (.call .movedStatement (.of [(.loc 12),(.loc 7)])) [12] (.loc 1))),
    (.asg 6 (.call .movedTerminator (.of [(.loc 2),(.loc 7),(.loc 8)]))),
    (.ifs (.cmp .eq (.sub (.loc 6) (.int 0)) (.str .return_)) (.of [(.expr (.app (.loc 5) (.tup (.of [(.str .assign_),(.loc 9),(.tup (.of [(.str .use_),(.tup (.of [(.str .move_),(.tup (.of [(.loc 7),(.tup (.of []))]))]))]))])))),(.expr (.ext (.loc 5) (.comp false (.tup (.of [(.str .dead_),(.bin false .add (.loc 7) (.loc 13))])) [13] (.bi .range (.of [(.loc 11),(.neg (.int 1)),(.neg (.int 1))]))))),(.asg 6 (.ifx (.isN (.loc 10)) (.tup (.of [(.str .unreachable_)])) (.tup (.of [(.str .goto_),(.loc 10)]))))]) .nil),
    (.expr (.app (.attr (.attr (.loc 0) .body) .blocks) (.list false (.of [(.frz (.loc 5)),(.loc 6)])))),
    (.expr (.meth (.loc 0) .tellSpots (.of [(.bin false .sub (.bi .len (.of [(.attr (.attr (.loc 0) .body) .blocks)])) (.int 1)),(.int 0),(.bin false .add (.bi .len (.of [(.loc 5)])) (.int 1)),(.loc 4)])))],wr:=["shift"],fz:=[] }
noncomputable def iW:FDef :=
  { names:=["terminator"],params:=1,dflts:=[],cut:=true,body:=.of [
    (.ifs (.and (.of [(.cmp .eq (.sub (.loc 0) (.int 0)) (.str .call_)),(.cmp .eq (.sub (.sub (.loc 0) (.int 1)) (.int 0)) (.str .fn_)),(.cmp .eq (.sub (.sub (.loc 0) (.int 1)) (.int 2)) (.tup (.of [])))])) (.of [(.ret (.sub (.sub (.loc 0) (.int 1)) (.int 1)))]) .nil),
    (.ret .none)],wr:=[],fz:=[] }
noncomputable def kQ:FDef :=
  { names:=["body", "program", "most", "caller", "number", "key"],params:=3,dflts:=[.int 12],cut:=true,body:=.of [
    (.asg 3 (.new .caller (.of [(.loc 0)]))),
    (.for_ [4] (.bi .range (.of [(.bi .len (.of [(.attr (.loc 0) .blocks)]))])) (.of [(.asg 5 (.call .calledKey (.of [(.sub (.sub (.attr (.loc 0) .blocks) (.loc 4)) (.int 1))]))),(.ifs (.and (.of [(.notN (.loc 5)),(.cmp .in_ (.loc 5) (.loc 1)),(.call .isSmall (.of [(.sub (.loc 1) (.loc 5)),(.loc 2)])),(.cmp .eq (.sub (.sub (.sub (.sub (.attr (.loc 0) .blocks) (.loc 4)) (.int 1)) (.int 3)) (.int 1)) (.tup (.of [])))])) (.of [(.expr (.meth (.loc 3) .put (.of [(.loc 4),(.sub (.loc 1) (.loc 5))])))]) .nil)])),
    (.ret (.frz (.attr (.loc 3) .body)))],wr:=[],fz:=[] }
noncomputable def mx:FDef :=
  { names:=["script", "row", "cell", "big", "mixed"],params:=2,dflts:=[],cut:=false,body:=.of [
    (.asg 2 (.ifx (.cmp .ne (.loc 0) (.list false (.of []))) (.sub (.loc 0) (.int 0)) (.int 0))),
    (.asg 3 (.bi .max (.of [(.loc 2),(.bin false .sub (.neg (.int 1)) (.loc 2))]))),
    (.asg 4 (.bin false .mod (.bin false .mul (.bin false .add (.bin false .mod (.loc 3) (.int 2147483629)) (.int 17)) (.int 48271)) (.int 2147483647))),
    (.ret (.list true (.of [(.bin true .mul (.loc 3) (.bi .int (.of [(.cmp .ge (.loc 3) (.bin false .pow (.int 10) (.int 18)))]))),(.loc 4),(.ifx (.cmp .eq (.loc 0) (.list false (.of []))) (.loc 1) (.list true (.of [])))])))],wr:=[],fz:=[] }
noncomputable def jf:FDef :=
  { names:=["source", "top", "drawn"],params:=2,dflts:=[],cut:=true,body:=.of [
    (.ifs (.cmp .ne (.sub (.loc 0) (.int 2)) (.list false (.of []))) (.of [(.ret (.bin false .mod (.pop0 (.sub (.loc 0) (.int 2))) (.loc 1)))]) .nil),
    (.ifs (.cmp .gt (.sub (.loc 0) (.int 0)) (.int 0)) (.of [(.asg 2 (.bin false .mod (.sub (.loc 0) (.int 0)) (.loc 1))),(.sett (.loc 0) (.int 0) (.bin false .fdiv (.sub (.loc 0) (.int 0)) (.loc 1))),(.ret (.loc 2))]) .nil),
    (.sett (.loc 0) (.int 1) (.bin false .mod (.bin false .add (.bin false .mul (.sub (.loc 0) (.int 1)) (.int 39373)) (.int 7)) (.int 2147483647))),
    (.ret (.bin false .mod (.bin false .fdiv (.bin false .mod (.bin false .mul (.sub (.loc 0) (.int 1)) (.sub (.loc 0) (.int 1))) (.int 2147483629)) (.int 32)) (.loc 1)))],wr:=[],fz:=[] }
noncomputable def r5:FDef :=
  { names:=["source", "things"],params:=2,dflts:=[],cut:=true,body:=.of [
    (.ret (.sub (.loc 1) (.call .take (.of [(.loc 0),(.bi .len (.of [(.loc 1)]))]))))],wr:=[],fz:=[] }
noncomputable def hH:FDef :=
  { names:=["store", "operand", "value", "local", "steps"],params:=2,dflts:=[],cut:=true,body:=.of [
    (.ifs (.cmp .eq (.sub (.loc 1) (.int 0)) (.str .const_)) (.of [(.ret (.sub (.loc 1) (.int 2)))]) .nil),
    (.unp [3,4] (.sub (.loc 1) (.int 1))),
    (.asg 2 (.get (.sub (.loc 0) (.str .worths_)) (.loc 3))),
    (.ifs (.or (.of [(.cmp .notIn (.loc 3) (.sub (.loc 0) (.str .alive_))),(.isN (.loc 2))])) (.of [(.sett (.loc 0) (.str .bad_) (.bool true)),(.ret (.int 0))]) .nil),
    (.ret (.ifx (.cmp .ne (.loc 4) (.tup (.of []))) (.sub (.loc 2) (.sub (.sub (.loc 4) (.int 0)) (.int 1))) (.loc 2)))],wr:=[],fz:=[] }
noncomputable def nI:FDef :=
  { names:=["store", "place", "value", "pair", "local", "steps"],params:=3,dflts:=[],cut:=true,body:=.of [
    (.unp [4,5] (.loc 1)),
    (.ifs (.cmp .notIn (.loc 4) (.sub (.loc 0) (.str .alive_))) (.of [(.sett (.loc 0) (.str .bad_) (.bool true))]) .nil),
    (.ifs (.cmp .eq (.loc 5) (.tup (.of []))) (.of [(.sett (.sub (.loc 0) (.str .worths_)) (.loc 4) (.loc 2)),(.ret .none)]) .nil),
    (.asg 3 (.toList true (.getd (.sub (.loc 0) (.str .worths_)) (.loc 4) (.tup (.of [(.int 0),(.int 0)]))))),
    (.sett (.loc 3) (.sub (.sub (.loc 5) (.int 0)) (.int 1)) (.loc 2)),
    (.sett (.sub (.loc 0) (.str .worths_)) (.loc 4) (.bi .tuple (.of [(.loc 3)])))],wr:=[],fz:=[] }
noncomputable def iH:FDef :=
  { names:=["store", "row", "prints", "kind", "some", "worths", "one"],params:=3,dflts:=[],cut:=true,body:=.of [
    (.ifs (.cmp .eq (.sub (.loc 1) (.int 0)) (.str .print_)) (.of [(.expr (.app (.loc 2) (.call .value (.of [(.loc 0),(.sub (.loc 1) (.int 1))]))))]) (.of [(.ifs (.cmp .eq (.sub (.loc 1) (.int 0)) (.str .live_)) (.of [(.sett (.loc 0) (.str .bad_) (.or (.of [(.sub (.loc 0) (.str .bad_)),(.cmp .in_ (.sub (.loc 1) (.int 1)) (.sub (.loc 0) (.str .alive_)))]))),(.sett (.loc 0) (.str .alive_) (.bin false .add (.sub (.loc 0) (.str .alive_)) (.list false (.of [(.sub (.loc 1) (.int 1))]))))]) (.of [(.ifs (.cmp .eq (.sub (.loc 1) (.int 0)) (.str .dead_)) (.of [(.sett (.loc 0) (.str .bad_) (.or (.of [(.sub (.loc 0) (.str .bad_)),(.cmp .notIn (.sub (.loc 1) (.int 1)) (.sub (.loc 0) (.str .alive_)))]))),(.sett (.loc 0) (.str .alive_) (.compif (.loc 6) [6] (.sub (.loc 0) (.str .alive_)) (.cmp .ne (.loc 6) (.sub (.loc 1) (.int 1))))),(.expr (.popd (.sub (.loc 0) (.str .worths_)) (.sub (.loc 1) (.int 1))))]) (.of [(.asg 3 (.sub (.sub (.loc 1) (.int 2)) (.int 0))),(.asg 4 (.ifx (.cmp .eq (.loc 3) (.str .tuple_)) (.sub (.sub (.loc 1) (.int 2)) (.int 1)) (.slo (.sub (.loc 1) (.int 2)) (.ifx (.cmp .eq (.loc 3) (.str .binary_)) (.int 2) (.int 1))))),(.asg 5 (.comp false (.call .value (.of [(.loc 0),(.loc 6)])) [6] (.loc 4))),(.ifs (.cmp .eq (.loc 3) (.str .binary_)) (.of [(.asg 5 (.list false (.of [(.bin false .mod (.sub (.sdisp true [.plus_,.xor_,.lt_] (.of [(.bi .sum (.of [(.loc 5)])),(.bin false .xor (.sub (.loc 5) (.int 0)) (.sub (.loc 5) (.int 1))),(.bi .int (.of [(.cmp .lt (.sub (.loc 5) (.int 0)) (.sub (.loc 5) (.int 1)))]))])) (.sub (.sub (.loc 1) (.int 2)) (.int 1))) (.int 256))])))]) .nil),(.expr (.call .set (.of [(.loc 0),(.sub (.loc 1) (.int 1)),(.ifx (.cmp .eq (.loc 3) (.str .tuple_)) (.bi .tuple (.of [(.loc 5)])) (.sub (.loc 5) (.int 0)))])))]))]))]))],wr:=[],fz:=[] }
noncomputable def f_run:FDef :=
  { names:=["program", "body", "told", "prints", "deep", "store", "number", "turn", "at", "value", "row", "statements", "end", "inner", "given", "is_good", "one", "worth", "goal"],params:=5,dflts:=[],cut:=true,body:=.of [
    (.ifs (.cmp .gt (.loc 4) (.int 3)) (.of [(.ret (.tup (.of [(.int 0),(.bool false)])))]) .nil),
    (.asg 5 (.sdisp false [.worths_,.alive_,.bad_] (.of [.emptyI,(.toList false (.bi .range (.of [(.bin false .add (.attr (.loc 1) .argCount) (.int 1))]))),(.bool false)]))),
    (.forEnum 8 9 (.loc 2) (.of [(.sett (.sub (.loc 5) (.str .worths_)) (.bin false .add (.loc 8) (.int 1)) (.loc 9))])),
    (.asg 6 (.int 0)),
    (.for_ [7] (.bi .range (.of [(.int 60)])) (.of [(.unp [11,12] (.sub (.attr (.loc 1) .blocks) (.loc 6))),(.for_ [10] (.loc 11) (.of [(.expr (.call .do_ (.of [(.loc 5),(.loc 10),(.loc 3)])))])),(.ifs (.cmp .eq (.sub (.loc 12) (.int 0)) (.str .return_)) (.of [(.ret (.tup (.of [(.call .value (.of [(.loc 5),(.tup (.of [(.str .copy_),(.tup (.of [(.int 0),(.tup (.of []))]))]))])),(.not (.sub (.loc 5) (.str .bad_)))])))]) .nil),(.ifs (.cmp .eq (.sub (.loc 12) (.int 0)) (.str .goto_)) (.of [(.asg 6 (.sub (.loc 12) (.int 1)))]) (.of [(.ifs (.cmp .eq (.sub (.loc 12) (.int 0)) (.str .switch_)) (.of [(.asg 9 (.call .value (.of [(.loc 5),(.sub (.loc 12) (.int 1))]))),(.asg 6 (.sub (.bin false .add (.compif (.loc 18) [17,18] (.sub (.loc 12) (.int 2)) (.cmp .eq (.loc 17) (.loc 9))) (.list false (.of [(.sub (.loc 12) (.int 3))]))) (.int 0)))]) (.of [(.asg 13 (.comp false (.call .value (.of [(.loc 5),(.loc 16)])) [16] (.sub (.loc 12) (.int 2)))),(.unp [14,15] (.call .run (.of [(.loc 0),(.sub (.loc 0) (.sub (.sub (.loc 12) (.int 1)) (.int 1))),(.loc 13),(.loc 3),(.bin false .add (.loc 4) (.int 1))]))),(.sett (.loc 5) (.str .bad_) (.or (.of [(.sub (.loc 5) (.str .bad_)),(.not (.loc 15))]))),(.expr (.call .set (.of [(.loc 5),(.sub (.loc 12) (.int 3)),(.loc 14)]))),(.asg 6 (.sub (.loc 12) (.int 4)))]))]))])),
    (.ret (.tup (.of [(.int 0),(.bool false)])))],wr:=["store", "value"],fz:=[] }
noncomputable def nB:FDef :=
  { names:=["local"],params:=1,dflts:=[],cut:=true,body:=.of [
    (.ret (.tup (.of [(.str .copy_),(.tup (.of [(.loc 0),(.tup (.of []))]))])))],wr:=[],fz:=[] }
noncomputable def lP:FDef :=
  { names:=["value"],params:=1,dflts:=[],cut:=true,body:=.of [
    (.ret (.tup (.of [(.str .const_),.byte,(.loc 0)])))],wr:=[],fz:=[] }
noncomputable def nG:FDef :=
  { names:=["source", "body", "rows", "turn", "last", "other", "op"],params:=1,dflts:=[],cut:=true,body:=.of [
    (.asg 1 (.new .body (.of [(.str .h_),(.int 1),(.bin false .mul (.list false (.of [(.tup (.of [.byte,(.bool true),.none]))])) (.int 3))]))),
    (.asg 2 (.list true (.of [(.tup (.of [(.str .live_),(.int 2)])),(.tup (.of [(.str .assign_),(.tup (.of [(.int 2),(.tup (.of []))])),(.tup (.of [(.str .binary_),(.str .plus_),(.call .place (.of [(.int 1)])),(.call .number (.of [(.bin false .add (.int 1) (.call .take (.of [(.loc 0),(.int 9)])))]))]))]))]))),
    (.for_ [3] (.bi .range (.of [(.call .take (.of [(.loc 0),(.int 3)]))])) (.of [(.asg 6 (.call .one (.of [(.loc 0),(.list false (.of [(.str .plus_),(.str .xor_),(.str .lt_)]))]))),(.expr (.app (.loc 2) (.tup (.of [(.str .assign_),(.tup (.of [(.int 2),(.tup (.of []))])),(.tup (.of [(.str .binary_),(.loc 6),(.call .place (.of [(.int 2)])),(.call .number (.of [(.call .take (.of [(.loc 0),(.int 256)]))]))]))]))))])),
    (.asg 4 (.list false (.of [(.tup (.of [(.str .assign_),(.tup (.of [(.int 0),(.tup (.of []))])),(.tup (.of [(.str .use_),(.call .place (.of [(.int 2)]))]))])),(.tup (.of [(.str .dead_),(.int 2)]))]))),
    (.ifs (.cmp .eq (.call .take (.of [(.loc 0),(.int 2)])) (.int 0)) (.of [(.expr (.app (.attr (.loc 1) .blocks) (.list false (.of [(.bin false .add (.loc 2) (.loc 4)),(.tup (.of [(.str .return_)]))])))),(.ret (.frz (.loc 1)))]) .nil),
    (.expr (.app (.attr (.loc 1) .blocks) (.list false (.of [(.frz (.loc 2)),(.tup (.of [(.str .switch_),(.call .place (.of [(.int 1)])),(.tup (.of [(.tup (.of [(.call .take (.of [(.loc 0),(.int 4)])),(.int 1)]))])),(.int 2)]))])))),
    (.expr (.app (.attr (.loc 1) .blocks) (.list false (.of [(.loc 4),(.tup (.of [(.str .return_)]))])))),
    (.asg 5 (.list false (.of [(.tup (.of [(.str .print_),(.call .place (.of [(.int 2)]))])),(.tup (.of [(.str .assign_),(.tup (.of [(.int 0),(.tup (.of []))])),(.tup (.of [(.str .use_),(.call .number (.of [(.int 7)]))]))])),(.tup (.of [(.str .dead_),(.int 2)]))]))),
    (.expr (.app (.attr (.loc 1) .blocks) (.list false (.of [(.loc 5),(.tup (.of [(.str .return_)]))])))),
    (.ret (.frz (.loc 1)))],wr:=[],fz:=[] }
noncomputable def iQ:FDef :=
  { names:=["source", "body", "turn", "rows"],params:=1,dflts:=[],cut:=true,body:=.of [
    (.asg 1 (.new .body (.of [(.str .g_),(.int 1),(.bin false .mul (.list false (.of [(.tup (.of [.byte,(.bool true),.none]))])) (.int 3))]))),
    (.expr (.app (.attr (.loc 1) .blocks) (.list false (.of [(.list false (.of [(.tup (.of [(.str .live_),(.int 2)]))])),(.tup (.of [(.str .call_),(.tup (.of [(.str .fn_),(.str .h_),(.tup (.of []))])),(.tup (.of [(.call .place (.of [(.int 1)]))])),(.tup (.of [(.int 2),(.tup (.of []))])),(.int 1)]))])))),
    (.for_ [2] (.bi .range (.of [(.call .take (.of [(.loc 0),(.int 2)]))])) (.of [(.asg 3 (.list false (.of [(.tup (.of [(.str .assign_),(.tup (.of [(.int 2),(.tup (.of []))])),(.tup (.of [(.str .binary_),(.str .plus_),(.call .place (.of [(.int 2)])),(.call .place (.of [(.int 1)]))]))]))]))),(.expr (.app (.attr (.loc 1) .blocks) (.list false (.of [(.loc 3),(.tup (.of [(.str .call_),(.tup (.of [(.str .fn_),(.str .h_),(.tup (.of []))])),(.tup (.of [(.call .place (.of [(.int 2)]))])),(.tup (.of [(.int 2),(.tup (.of []))])),(.bin false .add (.bi .len (.of [(.attr (.loc 1) .blocks)])) (.int 1))]))]))))])),
    (.asg 3 (.list false (.of [(.tup (.of [(.str .assign_),(.tup (.of [(.int 0),(.tup (.of []))])),(.tup (.of [(.str .binary_),(.str .xor_),(.call .place (.of [(.int 2)])),(.call .place (.of [(.int 1)]))]))])),(.tup (.of [(.str .dead_),(.int 2)]))]))),
    (.expr (.app (.attr (.loc 1) .blocks) (.list false (.of [(.loc 3),(.tup (.of [(.str .return_)]))])))),
    (.ret (.frz (.loc 1)))],wr:=[],fz:=[] }
noncomputable def f_mainL:FDef :=
  { names:=["source", "sorts", "rows", "turn", "body", "calls", "told", "place", "name", "is_part", "one"],params:=1,dflts:=[],cut:=true,body:=.of [
    (.asg 1 (.list false (.of [.byte,.byte,(.tup (.of [(.str .tuple_),(.bin false .mul (.tup (.of [.byte])) (.int 2))]))]))),
    (.multi [4,5] (.of [(.new .body (.of [(.str .main_),(.int 0),(.comp false (.tup (.of [(.loc 10),(.bool true),.none])) [10] (.loc 1))])),(.list true (.of []))])),
    (.asg 2 (.list true (.of [(.tup (.of [(.str .live_),(.int 1)])),(.tup (.of [(.str .live_),(.int 2)])),(.tup (.of [(.str .assign_),(.tup (.of [(.int 1),(.tup (.of []))])),(.tup (.of [(.str .use_),(.call .number (.of [(.call .take (.of [(.loc 0),(.int 256)]))]))]))]))]))),
    (.expr (.app (.loc 2) (.tup (.of [(.str .assign_),(.tup (.of [(.int 2),(.tup (.of []))])),(.tup (.of [(.str .tuple_),(.tup (.of [(.call .place (.of [(.int 1)])),(.call .number (.of [(.int 5)]))]))]))])))),
    (.for_ [3] (.bi .range (.of [(.bin false .add (.int 1) (.call .take (.of [(.loc 0),(.int 3)])))])) (.of [(.multi [8,9] (.of [(.call .one (.of [(.loc 0),(.list false (.of [(.str .h_),(.str .g_),(.str .g_)]))])),(.cmp .eq (.call .take (.of [(.loc 0),(.int 4)])) (.int 0))])),(.asg 6 (.call .one (.of [(.loc 0),(.list false (.of [(.call .place (.of [(.int 1)])),(.call .number (.of [(.int 3)])),(.tup (.of [(.str .copy_),(.tup (.of [(.int 2),(.tup (.of [(.tup (.of [(.str .field_),(.int 1)]))]))]))]))]))]))),(.asg 7 (.ifx (.loc 9) (.tup (.of [(.int 2),(.tup (.of [(.tup (.of [(.str .field_),(.int 0)]))]))])) (.tup (.of [(.int 1),(.tup (.of []))])))),(.expr (.app (.loc 5) (.tup (.of [(.loc 8),(.loc 9)])))),(.expr (.app (.attr (.loc 4) .blocks) (.list false (.of [(.frz (.loc 2)),(.tup (.of [(.str .call_),(.tup (.of [(.str .fn_),(.loc 8),(.tup (.of []))])),(.tup (.of [(.loc 6)])),(.loc 7),(.bin false .add (.bi .len (.of [(.attr (.loc 4) .blocks)])) (.int 1))]))])))),(.asg 2 (.list false (.of [(.tup (.of [(.str .print_),(.call .place (.of [(.int 1)]))])),(.tup (.of [(.str .print_),(.tup (.of [(.str .copy_),(.tup (.of [(.int 2),(.tup (.of [(.tup (.of [(.str .field_),(.int 0)]))]))]))]))]))])))])),
    (.asg 2 (.bin false .add (.loc 2) (.list false (.of [(.tup (.of [(.str .assign_),(.tup (.of [(.int 0),(.tup (.of []))])),(.tup (.of [(.str .use_),(.call .place (.of [(.int 1)]))]))])),(.tup (.of [(.str .dead_),(.int 1)])),(.tup (.of [(.str .dead_),(.int 2)]))])))),
    (.expr (.app (.attr (.loc 4) .blocks) (.list false (.of [(.frz (.loc 2)),(.tup (.of [(.str .return_)]))])))),
    (.ret (.tup (.of [(.frz (.loc 4)),(.frz (.loc 5))])))],wr:=[],fz:=[] }
noncomputable def nN:FDef :=
  { names:=["body", "statements", "end"],params:=1,dflts:=[],cut:=true,body:=.of [
    (.ret (.compif (.sub (.sub (.loc 2) (.int 1)) (.int 1)) [1,2] (.attr (.loc 0) .blocks) (.cmp .eq (.sub (.loc 2) (.int 0)) (.str .call_))))],wr:=[],fz:=[] }
noncomputable def qc:FDef :=
  { names:=["program", "body", "prints", "given"],params:=2,dflts:=[],cut:=true,body:=.of [
    (.asg 2 (.list true (.of []))),
    (.asg 3 (.call .run (.of [(.loc 0),(.loc 1),(.list false (.of [])),(.loc 2),(.int 0)]))),
    (.ret (.tup (.of [(.frz (.loc 2)),(.loc 3)])))],wr:=[],fz:=[] }
noncomputable def f_law:FDef :=
  { names:=["script", "source", "program", "due", "first", "whole", "second", "put", "small", "middle", "body", "calls", "simple", "caller", "name", "is_part", "one"],params:=1,dflts:=[],cut:=true,body:=.of [
    (.asg 1 (.call .pool (.of [(.loc 0),(.list true (.of [(.int 0),(.int 1),(.int 0),(.int 9),(.int 0),(.int 0),(.int 4),(.int 1),(.int 1),(.int 1),(.int 0)]))]))),
    (.multi [8,9] (.of [(.call .small (.of [(.loc 1)])),(.call .middle (.of [(.loc 1)]))])),
    (.unp [10,11] (.call .mainL (.of [(.loc 1)]))),
    (.asg 2 (.sdisp true [.h_,.g_] (.of [(.loc 8),(.loc 9)]))),
    (.asg 3 (.call .told (.of [(.loc 2),(.loc 10)]))),
    (.ifs (.not (.sub (.sub (.loc 3) (.int 1)) (.int 1))) (.of [(.ret (.bool false))]) .nil),
    (.asg 4 (.call .inlined (.of [(.loc 10),(.loc 2),(.int 40)]))),
    (.ifs (.cmp .ne (.call .calls (.of [(.loc 4)])) (.compif (.loc 14) [14,15] (.loc 11) (.or (.of [(.loc 15),(.cmp .eq (.loc 14) (.str .g_))])))) (.of [(.ret (.bool false))]) .nil),
    (.asg 5 (.call .inlined (.of [(.loc 9),(.sdisp true [.h_] (.of [(.loc 8)])),(.int 40)]))),
    (.asg 6 (.call .inlined (.of [(.loc 10),(.sdisp true [.h_,.g_] (.of [(.loc 8),(.loc 5)])),(.int 90)]))),
    (.ifs (.or (.of [(.cmp .ne (.call .calls (.of [(.loc 5)])) (.list false (.of []))),(.cmp .ne (.call .calls (.of [(.loc 6)])) (.compif (.loc 14) [14,15] (.loc 11) (.loc 15)))])) (.of [(.ret (.bool false))]) .nil),
    (.ifs (.or (.of [(.cmp .ne (.call .told (.of [(.loc 2),(.loc 4)])) (.loc 3)),(.cmp .ne (.call .told (.of [(.sdisp true [.h_,.g_] (.of [(.loc 8),(.loc 5)])),(.loc 6)])) (.loc 3))])) (.of [(.ret (.bool false))]) .nil),
    (.asg 7 (.compif (.sub (.sdisp true [.h_,.g_] (.of [(.loc 8),(.loc 5)])) (.loc 14)) [14,15] (.loc 11) (.not (.loc 15)))),
    (.ifs (.cmp .ne (.bi .len (.of [(.attr (.loc 6) .locals)])) (.bin false .add (.bi .len (.of [(.attr (.loc 10) .locals)])) (.bi .sum (.of [(.comp false (.bi .len (.of [(.attr (.loc 16) .locals)])) [16] (.loc 7))])))) (.of [(.ret (.bool false))]) .nil),
    (.ifs (.cmp .ne (.bi .len (.of [(.attr (.loc 6) .blocks)])) (.bin false .add (.bi .len (.of [(.attr (.loc 10) .blocks)])) (.bi .sum (.of [(.comp false (.bi .len (.of [(.attr (.loc 16) .blocks)])) [16] (.loc 7))])))) (.of [(.ret (.bool false))]) .nil),
    (.multi [12,13] (.of [(.new .body (.of [(.str .h_),(.int 1),(.bin false .mul (.list false (.of [(.tup (.of [.byte,(.bool true),.none]))])) (.int 2))])),(.new .body (.of [(.str .main_),(.int 0),(.list false (.of [(.tup (.of [.byte,(.bool true),.none]))]))]))])),
    (.expr (.app (.attr (.loc 12) .blocks) (.list false (.of [(.list false (.of [(.tup (.of [(.str .assign_),(.tup (.of [(.int 0),(.tup (.of []))])),(.tup (.of [(.str .binary_),(.str .plus_),(.call .place (.of [(.int 1)])),(.call .number (.of [(.int 1)]))]))]))])),(.tup (.of [(.str .return_)]))])))),
    (.expr (.app (.attr (.loc 13) .blocks) (.list false (.of [(.list false (.of [])),(.tup (.of [(.str .call_),(.tup (.of [(.str .fn_),(.str .h_),(.tup (.of []))])),(.tup (.of [(.call .number (.of [(.int 2)]))])),(.tup (.of [(.int 0),(.tup (.of []))])),(.int 1)]))])))),
    (.expr (.app (.attr (.loc 13) .blocks) (.list false (.of [(.list false (.of [])),(.tup (.of [(.str .return_)]))])))),
    (.ret (.cmp .eq (.call .told (.of [(.sdisp true [] .nil),(.call .inlined (.of [(.frz (.loc 13)),(.sdisp true [.h_] (.of [(.frz (.loc 12))]))]))])) (.tup (.of [(.list false (.of [])),(.tup (.of [(.int 3),(.bool true)]))]))))],wr:=["small", "whole"],fz:=[] }
noncomputable def prog:Fn→FDef
  | .initBody=>fj
  | .retargeted=>fI
  | .copied=>lT
  | .operandsOf=>iF
  | .withOperands=>da
  | .isSmall=>g7
  | .movedPlace=>gA
  | .movedOperand=>eO
  | .movedOperands=>ef
  | .movedRvalue=>eZ
  | .movedStatement=>fW
  | .movedTerminator=>du
  | .initCaller=>ir
  | .put=>se
  | .tellSpots=>i6
  | .putBlock=>gH
  | .calledKey=>iW
  | .inlined=>kQ
  | .pool=>mx
  | .take=>jf
  | .one=>r5
  | .value=>hH
  | .set=>nI
  | .do_=>iH
  | .run=>f_run
  | .place=>nB
  | .number=>lP
  | .small=>nG
  | .middle=>iQ
  | .mainL=>f_mainL
  | .calls=>nN
  | .told=>qc
  | .law=>f_law
end Mine.Internal
namespace Mine.Internal
noncomputable abbrev aE:=Addr→Option Obj
noncomputable def Sub (p q:aE):Prop:=∀ a o,p a=some o→q a=some o
theorem Sub.refl {p:aE}:Sub p p:=fun Z Z e=>e
theorem Sub.trans {p q r:aE} (h:Sub p q) (k:Sub q r):Sub p r:=fun Z Z e=>k _ _ (h _ _ e)
noncomputable def put1 (p:aE) (a:Addr) (o:Obj):aE:=fun b=>if b=a then some o else p b
theorem b8 {p:aE} {a:Addr} {o:Obj}:put1 p a o a=some o:=if_pos rfl
theorem eN {p:aE} {a b:Addr} {o:Obj} (h:b ≠ a):put1 p a o b=p b:=if_neg h
theorem Sub.put1 {p:aE} {a:Addr} {o:Obj} (h:p a=none):Sub p (put1 p a o):=fun b ob e=>by
  rw [eN (fun q=>by rw [q,h] at e; exact nS e)]; exact e
set_option genCtorIdx false in
set_option genInjectivity false in
structure Amb where
  prog:Program
  w:World
  H₀:Heap
  K:Frag
  cls:Cls→Addr
  fn:Fn→Addr
  mg:Str→Option Value
  mb:Str→Option Value
  cd:Addr
  tab:Addr
  lq:Str
noncomputable abbrev d7 (its:Array Value) (n:Nat):Obj:={ cls:=.type "tuple", data:=.seq its n }
noncomputable def g6 (P:Params):List Str→List DictEntry→Prop
  | [],[]=>True
  | x::xs,e::es=>(∃ t,e.key=.str x t)∧e.hash=PyData.keyHash P x∧g6 P xs es
  | _,_=>False
noncomputable def KeyObj (X:Amb) (ks:List Int) (ob:Obj):Prop:=ob.cls=.type "tuple" ∧ ∃ items n,ob.data=.seq items n∧ItemsAre (intKind X.prog X.w) ks items.toList
inductive Cns (P:Value→Prop) (R:List Value→Prop) (vs:List Value):Prop
  | mk (v r):vs=v::r→P v→R r→Cns P R vs
inductive RSeq (f:Array Value→Nat→Obj) (p:aE) (R:List Value→Prop) (v:Value):Prop
  | mk (a vs n):v=.ref a→p a=some (f vs n)→R vs.toList→RSeq f p R v
theorem RSeq.el {f:Array Value→Nat→Obj} {p:aE} {R:List Value→Prop} {v:Value} {G:Prop} (h:RSeq f p R v) (g:∀ a vs n,v=.ref a→p a=some (f vs n)→R vs.toList→G):G:=h.rec g
inductive RRng (p:aE) (a b c:Int) (v:Value):Prop
  | mk (r t u x):v=.ref r→p r=some { cls:=.type "range", data:=.fields #[.int a t,.int b u,.int c x] }→RRng p a b c v
theorem RRng.el {p:aE} {a b c:Int} {v:Value} {G:Prop} (h:RRng p a b c v) (g:∀ r t u x,v=.ref r→p r=some { cls:=.type "range", data:=.fields #[.int a t,.int b u,.int c x] }→G):G:=h.rec g
inductive RDct (X:Amb) (p:aE) (ks:List W) (R:List Value→Prop) (v:Value):Prop
  | mk (a o kvs):v=.ref a→(a == sysModules)=false→p a=some o→o.IsDictOf (strKind X.prog X.w) kvs→kvs.map (·.1)=ks.map W.str→R (kvs.map (·.2))→RDct X p ks R v
inductive RSpo (p:aE) (b:Nat) (v:Value):Prop
  | mk (a es n):v=.ref a→(a == sysModules)=false→p a=some (dictOf es n)→es.length≤b→RSpo p b v
inductive RObj (X:Amb) (p:aE) (c:Cls) (fs:List Fld) (R:List Value→Prop) (v:Value):Prop
  | mk (a d es n):v=.ref a→p a=some (instObj (X.cls c) d)→p d=some (dictOf es n)→g6 X.w.params (fs.map Fld.str) es→R (es.map (·.val))→RObj X p c fs R v
inductive RRef (as:List (Addr × Addr)) (i:Nat) (v:Value):Prop
  | mk (q):as[i]? = some q→v=.ref q.1→RRef as i v
inductive MLst (h:Heap) (a:Addr) (R:List Value→Prop):Prop
  | mk (vs n):h.get? a=some (listOf vs n)→R vs.toList→MLst h a R
inductive MDct {K:Type} [DecidableEq K] {prog:Program} {w:World} (knd:KeyKind prog w K) (h:Heap) (a:Addr) (ks:List K) (R:List Value→Prop):Prop
  | mk (z:(a == sysModules)=false) (kvs):h.DictOf knd a kvs→kvs.map (·.1)=ks∧R (kvs.map (·.2))→MDct knd h a ks R
inductive MSpo (X:Amb) (h:Heap) (p:aE) (a:Addr) (b:Nat):Prop
  | mk (z:(a == sysModules)=false) (es:List DictEntry) (n:Nat) (xs:List (List Int × Addr × Value)):h.get? a=some (dictOf es n)→es=xs.map (entryOfKey (tupleKind (intKind X.prog X.w)))→(∀ x ∈ xs,(∃ ob,p x.2.1=some ob∧KeyObj X x.1 ob)∧∃ k t,x.2.2=.int k t)→(xs.map (·.1)).Nodup∧xs.length≤b→MSpo X h p a b
inductive MIns (X:Amb) (h:Heap) (q:Addr × Addr) (c:Cls) (fs:List Fld) (R:List Value→Prop):Prop
  | mk (es n):h.get? q.1=some (instObj (X.cls c) q.2)→h.get? q.2=some (dictOf es n)→g6 X.w.params (fs.map Fld.str) es→R (es.map (·.val))→MIns X h q c fs R
section
variable (X:Amb) (p:aE)
mutual
noncomputable def DRel:Dat→Value→Prop
  | .none,v=>v=.none
  | .any,v=>∃ i t,v=.int i t
  | .bool b,v=>v=.bool b
  | .int i,v=>∃ t,v=.int i t
  | .str w,v=>∃ t,v=.str w.str t
  | .tup xs,v=>RSeq d7 p (DRels xs) v
  | .lst xs,v=>RSeq listOf p (DRels xs) v
  | .rng a b c,v=>RRng p a b c v
  | .dct ks xs,v=>RDct X p ks (DRels xs) v
  | .spots b,v=>RSpo p b v
  | .obj c fs xs,v=>RObj X p c fs (DRels xs) v
noncomputable def DRels:List Dat→List Value→Prop
  | [],vs=>vs=[]
  | x::xs,vs=>Cns (DRel x) (DRels xs) vs
end
end
section
variable {X:Amb} {p:aE} {v:Value} {vs:List Value} {xs:List Dat}
theorem H2:DRel X p .none v=(v=.none):=rfl
theorem HZ:DRel X p .any v=(∃ i t,v=.int i t):=rfl
theorem Ij {b:Bool}:DRel X p (.bool b) v=(v=.bool b):=rfl
theorem te {i:Int}:DRel X p (.int i) v=(∃ t,v=.int i t):=rfl
theorem Im {w:W}:DRel X p (.str w) v=(∃ t,v=.str w.str t):=rfl
theorem Id:DRel X p (.tup xs) v=RSeq d7 p (DRels X p xs) v:=rfl
theorem yx:DRel X p (.lst xs) v=RSeq listOf p (DRels X p xs) v:=rfl
theorem Jn {a b c:Int}:DRel X p (.rng a b c) v=RRng p a b c v:=rfl
theorem Fo {ks:List W}:DRel X p (.dct ks xs) v=RDct X p ks (DRels X p xs) v:=rfl
theorem Io {b:Nat}:DRel X p (.spots b) v=RSpo p b v:=rfl
theorem H8 {c:Cls} {fs:List Fld}:DRel X p (.obj c fs xs) v=RObj X p c fs (DRels X p xs) v:=rfl
theorem ds0:DRels X p [] vs=(vs=[]):=rfl
theorem j8 {x:Dat}:DRels X p (x::xs) vs=Cns (DRel X p x) (DRels X p xs) vs:=rfl
theorem dc {x:Dat} (h:DRel X p x v) (g:DRels X p xs vs):DRels X p (x::xs) (v::vs):=.mk v vs rfl h g
theorem dz:DRels X p [] []:=rfl
theorem di {i:Int} (t:Tok):DRel X p (.int i) (.int i t):=⟨t,rfl⟩
theorem dw {w:W} (t:Tok):DRel X p (.str w) (.str w.str t):=⟨t,rfl⟩
theorem dn:DRel X p .none .none:=rfl
theorem Jt {a:Addr} {us:Array Value} {n:Nat} (h:p a=some (d7 us n)) (g:DRels X p xs us.toList):DRel X p (.tup xs) (.ref a):=.mk a us n rfl h g
theorem Jp {a:Addr} {us:Array Value} {n:Nat} (h:p a=some (listOf us n)) (g:DRels X p xs us.toList):DRel X p (.lst xs) (.ref a):=.mk a us n rfl h g
end
mutual
theorem DRel.mono {X:Amb} {p q:aE} (h:Sub p q):∀ {d:Dat} {v:Value},DRel X p d v→DRel X q d v
  | .none,_,k | .any,_,k | .bool _,_,k | .int _,_,k | .str _,_,k=>k
  | .tup xs,_,k | .lst xs,_,k=>by obtain ⟨a,vs,n,e1,e2,r⟩:=k; exact RSeq.mk a vs n e1 (h _ _ e2) (DRels.mono h r)
  | .rng _ _ _,_,k=>by obtain ⟨r,t,u,x,e1,e2⟩:=k; exact RRng.mk r t u x e1 (h _ _ e2)
  | .dct ks xs,_,k=>by obtain ⟨a,o,kvs,e1,e0,e2,e3,e4,r⟩:=k; exact RDct.mk a o kvs e1 e0 (h _ _ e2) e3 e4 (DRels.mono h r)
  | .spots b,_,k=>by obtain ⟨a,es,n,e1,e0,e2,r⟩:=k; exact RSpo.mk a es n e1 e0 (h _ _ e2) r
  | .obj c fs xs,_,k=>by obtain ⟨a,d,es,n,e1,e2,e3,e4,r⟩:=k; exact RObj.mk a d es n e1 (h _ _ e2) (h _ _ e3) e4 (DRels.mono h r)
theorem DRels.mono {X:Amb} {p q:aE} (h:Sub p q):∀ {ds:List Dat} {vs:List Value},DRels X p ds vs→DRels X q ds vs
  | [],_,k=>k
  | x::xs,_,k=>by obtain ⟨v,r,e,a,b⟩:=k; exact Cns.mk v r e (DRel.mono h a) (DRels.mono h b)
end
noncomputable abbrev gz:Str:=Str.ofString "block"
noncomputable abbrev ca:Str:=Str.ofString "blocks"
structure LamOK (params:Arguments) (body:Expr) (scope:Scope):Prop where
  body:∃ p1 p2 p3,body=.BinOp (.Name gz p1) .Add (.Name ca p2) p3
  args:params.args.map (·.arg)=[gz]∧params.posonlyargs=[]∧params.kwonlyargs=[]∧params.vararg=none∧params.kwarg=none
  kind:scope.kind=.function∧scope.isCoroutine=false∧scope.isGenerator=false
  l1:scope.names.lookup gz=some .local
  l2:scope.names.lookup ca=some .free
  l3:∀ x ∈ scope.names,x.2 ≠ .cell
inductive CloRel (X:Amb) (p:aE) (k:Int):Value→Prop
  | mk {f name qual params body scope cl pm c' ctv cell t ob oc vs tq}:p f=some (kla_obj name qual params body scope cl pm c' ctv)→LamOK params body scope →
    cl.lookup ca=some cell→p cell=some ob→ob.data=.cell (some (.int k t))→p c'=some oc→oc.data=.fields vs→vs[1]? = some (.str qual tq)→CloRel X p k (.ref f)
theorem CloRel.mono {X:Amb} {p q:aE} (h:Sub p q) {k:Int} {v:Value} (r:CloRel X p k v):CloRel X q k v :=
  let .mk e2 e3 e4 e5 e8 e6 e7 e9:=r; .mk (h _ _ e2) e3 e4 (h _ _ e5) e8 (h _ _ e6) e7 e9
noncomputable abbrev As:=List (Addr × Addr)
noncomputable def VRel (X:Amb) (p:aE) (as:As):Val→Value→Prop
  | .d x,v=>DRel X p x v
  | .r i,v=>RRef as i v
  | .clo k,v=>CloRel X p k v
noncomputable def VRels (X:Amb) (p:aE) (as:As):List Val→List Value→Prop
  | [],vs=>vs=[]
  | x::xs,vs=>Cns (VRel X p as x) (VRels X p as xs) vs
theorem pJ {α:Type} {l m:List α} (h:l <+: m) {i:Nat} {x:α} (e:l[i]? = some x):m[i]? = some x:=by
  obtain ⟨t,rfl⟩:=h
  rw [List.getElem?_append_left (List.getElem?_eq_some_iff.mp e).1]; exact e
theorem VRel.mono {X:Amb} {p q:aE} {as bs:As} (h:Sub p q) (k:as <+: bs) {x:Val} {v:Value} (r:VRel X p as x v):VRel X q bs x v:=by
  cases x with
  | d x=>exact DRel.mono h r
  | r i=>obtain ⟨c,e,f⟩:=r; exact ⟨c,pJ k e,f⟩
  | clo k=>exact CloRel.mono (X:=X) h r
theorem VRels.mono {X:Amb} {p q:aE} {as bs:As} (h:Sub p q) (k:as <+: bs):∀ {xs:List Val} {vs:List Value},VRels X p as xs vs→VRels X q bs xs vs
  | [],_,r=>r
  | _::_,_,⟨v,r,e,a,b⟩=>⟨v,r,e,a.mono h k,VRels.mono h k b⟩
noncomputable def MRel (X:Amb) (h:Heap) (p:aE) (as:As) (q:Addr × Addr):MObj→Prop
  | .list xs=>MLst h q.1 (VRels X p as xs)
  | .sdict ks xs=>MDct (strKind X.prog X.w) h q.1 (ks.map W.str) (VRels X p as xs)
  | .idict ks=>MDct (intKind X.prog X.w) h q.1 (ks.map (·.1)) (DRels X p (ks.map (·.2)))
  | .spots b=>MSpo X h p q.1 b
  | .inst c fs xs=>MIns X h q c fs (VRels X p as xs)
  | .frz d=>DRel X p d (.ref q.1)
noncomputable def dW (q:Addr × Addr):MObj→List Addr
  | .inst .. => [q.1,q.2]
  | .frz _=>[]
  | _=>[q.1]
section
variable {q:Addr × Addr} {xs:List Val} {ws:List W} {ks:List (Int × Dat)} {n:Nat} {c:Cls} {fs:List Fld} {d:Dat}
theorem kg:dW q (.list xs)=[q.1]:=rfl
theorem zj:dW q (.sdict ws xs)=[q.1]:=rfl
theorem Em:dW q (.idict ks)=[q.1]:=rfl
theorem tK:dW q (.spots n)=[q.1]:=rfl
theorem oe:dW q (.inst c fs xs)=[q.1,q.2]:=rfl
end
noncomputable def cw:As→Mu→List Addr
  | q::as,m::mu=>dW q m++cw as mu
  | _,_=>[]
theorem uL {m:Mu}:cw [] m=[]:=rfl
theorem ti {q:Addr × Addr} {as:As} {m:MObj} {mu:Mu}:cw (q::as) (m::mu)=dW q m++cw as mu:=rfl
theorem DictOf.at1 {prog:Program} {w:World} {K:Type} [DecidableEq K] {knd:KeyKind prog w K} {h h':Heap} {a:Addr} {kvs:List (K × Value)} (x:h.DictOf knd a kvs) (hk:∀ o,h.get? a=some o→h'.get? a=some o):h'.DictOf knd a kvs :=
  let ⟨o,es,ep,ho,r⟩:=x; ⟨o,es,ep,hk o ho,r⟩
theorem MRel.mono {X:Amb} {h h':Heap} {p p':aE} {as as':As} {q:Addr × Addr} {m:MObj} (hp:Sub p p') (ha:as <+: as') (hk:∀ a ∈ dW q m,∀ o,h.get? a=some o→h'.get? a=some o)
    (r:MRel X h p as q m):MRel X h' p' as' q m:=by
  cases m with
  | list xs=>obtain ⟨vs,n,e,r⟩:=r; exact ⟨vs,n,hk _ (by simp [kg]) _ e,r.mono hp ha⟩
  | sdict ks xs=>obtain ⟨e0,kvs,e,k,r⟩:=r; exact ⟨e0,kvs,DictOf.at1 e fun o=>hk _ (by simp [zj]) o,k,r.mono hp ha⟩
  | idict ks=>obtain ⟨e0,kvs,e,k,r⟩:=r; exact ⟨e0,kvs,DictOf.at1 e fun o=>hk _ (by simp [Em]) o,k,r.mono hp⟩
  | spots b =>
    obtain ⟨e0,es,n,xs,e,e2,k,r⟩:=r
    exact ⟨e0,es,n,xs,hk _ (by simp [tK]) _ e,e2,fun x hx=>let ⟨⟨ob,a,b⟩,c⟩:=k x hx; ⟨⟨ob,hp _ _ a,b⟩,c⟩,r⟩
  | inst c fs xs=>obtain ⟨es,n,e,f,k,r⟩:=r; exact ⟨es,n,hk _ (by simp [oe]) _ e,hk _ (by simp [oe]) _ f,k,r.mono hp ha⟩
  | frz d=>exact DRel.mono (X:=X) hp r
theorem fy {as:As} {mu:Mu}:∀ {i:Nat} {q:Addr × Addr} {m:MObj},as[i]? = some q→mu[i]? = some m→∀ a ∈ dW q m,a ∈ cw as mu:=by
  induction as generalizing mu with
  | nil=>intro i q m e; exact nS e
  | cons x as ih =>
    intro i q m e f a ha
    cases mu with
    | nil=>exact nS f
    | cons y mu =>
      rw [ti]
      cases i with
      | zero=>simp only [List.getElem?_cons_zero,Option.some.injEq] at e f; subst e; subst f; exact List.mem_append_left _ ha
      | succ i=>exact List.mem_append_right _ (ih (by simpa using e) (by simpa using f) a ha)
theorem nV {bs:As} {nu:Mu}:∀ {as:As} {mu:Mu},as.length=mu.length→cw (as++bs) (mu++nu)=cw as mu++cw bs nu
  | [],[],_=>by simp [uL]
  | _::as,_::mu,e=>by
    have:=nV (bs:=bs) (nu:=nu) (as:=as) (mu:=mu) (by simpa using e)
    simp only [List.cons_append,ti,this,List.append_assoc]
  | [],_::_,e=>by simp at e
  | _::_,[],e=>by simp at e
set_option genCtorIdx false in
set_option genInjectivity false in
structure Fm where
  env:Env
  own:List Addr
  names:List Str
  wr:List Str
  fz:List Str
noncomputable def Rd (h:Heap) (env:Env) (m:Str→Option Value) (x:Str) (u:Value):Prop :=
  (env.kindOf x=some .local∧m x=some u)∨((env.kindOf x=some .cell∨env.kindOf x=some .free)∧∃ c,env.cells.lookup x=some c∧h.IsCell c (some u))
noncomputable def pL (env:Env) (x:Str):Prop:=env.kindOf x=some .local∨env.kindOf x=some .cell∨env.kindOf x=some .free
structure FrOK (X:Amb) (h:Heap) (o p:aE) (as:As) (F:Fm) (loc:ag):Prop where
  kind:F.env.scope.kind=.function
  glob:F.env.globals=mainGlobals
  bltn:F.env.builtins=builtinsNs
  len:loc.length=F.names.length
  nodup:F.names.Nodup
  plain:∀ x ∈ F.names,(x == ("__debug__" : Str))=false∧(x == ("__classdict__" : Str))=false
  mine:F.env.locals ∈ F.own
  ns:∃ m,h.Ns F.env.locals m∧∀ (i:Nat) (x:Str) (v:Val),F.names[i]? = some x→loc[i]? = some (some v)→pL F.env x→∃ u,Rd h F.env m x u∧VRel X p as v u
  inj:∀ x y c,F.env.cells.lookup x=some c→F.env.cells.lookup y=some c→x=y
  apart:∀ x c,F.env.cells.lookup x=some c→c ≠ F.env.locals
  cell:∀ x c,F.env.cells.lookup x=some c→(∃ v,h.IsCell c v)∧(c ∈ F.own∨(p c).isSome∨(o c).isSome)
  wcell:∀ x ∈ F.wr,∃ c,F.env.kindOf x=some .cell∧F.env.cells.lookup x=some c∧c ∈ F.own
  fcell:∀ x ∈ F.fz,∀ c,F.env.cells.lookup x=some c→(p c).isSome=true
  lam:∀ x ∈ F.fz,F.env.code=.ref X.cd∧F.env.qual++("<lambda>" : Str)=X.lq
  has:∀ x,F.env.kindOf x=some .cell∨F.env.kindOf x=some .free→(F.env.cells.lookup x).isSome=true
noncomputable def TabOK (X:Amb) (p:aE) (ps:Array Value):Prop :=
  TriplesOk ps.toList∧∀ pos cv,codeAmong pos ps.toList=some cv→∃ c' oc vs tq,cv=.ref c'∧p c'=some oc∧oc.data=.fields vs∧vs[1]? = some (.str X.lq tq)
structure Out3 (p o:aE) (h:Heap) (a:Addr):Prop where
  n1:p a=none
  n2:o a=none
  x:∃ ob,h.get? a=some ob
structure Inv (X:Amb) (s₀:Shared) (o p:aE) (as:As) (mu:Mu) (F:Fm) (loc:ag) (s:Shared):Prop where
  sh:∃ tk,s={ s₀ with heap:=s.heap,toks:=tk }
  base:Sub X.H₀.get? p
  ple:Sub p s.heap.get?
  ole:Sub o s.heap.get?
  dj:∀ a,(p a).isSome→o a=none
  len:as.length=mu.length
  mus:∀ (i:Nat) (q:Addr × Addr) (m:MObj),as[i]? = some q→mu[i]? = some m→MRel X s.heap p as q m
  nodup:(X.tab::(F.own++cw as mu)).Nodup
  out:∀ a ∈ X.tab::(F.own++cw as mu),Out3 p o s.heap a
  fr:FrOK X s.heap o p as F loc
  tb:∃ ps,s.heap.get? X.tab=some (tabObj ps)∧TabOK X p ps
structure Rm (n:Nat) (A:Around):Prop where
  hand:A.handled=none
  depth:A.depth+4 * n+4 < recursionLimit
  units:A.units+100 * n+100 < cLine
structure Rc (n:Nat) (A:Around):Prop where
  hand:A.handled=none
  depth:A.depth+4 * n+2 < recursionLimit
  units:A.units+100 * n+50 < cLine
theorem Rm.rc {n:Nat} {A:Around} (h:Rm n A):Rc n A:=⟨h.hand,by have:=h.depth; omega,by have:=h.units; omega⟩
theorem Rc.rm {n:Nat} {A:Around} (h:Rc (n+1) A) (env:Env):Rm n (A.deeper env):=⟨h.hand,by have:=h.depth; show A.depth+1+4 * n+4 < _; omega,by have:=h.units; show A.units+3+100 * n+100 < _; omega⟩
theorem Rc.room {n:Nat} {A:Around} (h:Rc n A):A.depth < recursionLimit:=by have:=h.depth; omega
section
variable {X:Amb} {s₀ s:Shared} {o p:aE} {as:As} {mu:Mu} {F:Fm} {loc:ag}
theorem Rd.on {h h':Heap} {env:Env} {m:Str→Option Value} {x:Str} {u:Value} (r:Rd h env m x u) (k:∀ c,env.cells.lookup x=some c→∀ v,h.IsCell c v→h'.IsCell c v):Rd h' env m x u:=by
  rcases r with r | ⟨r,c,e,g⟩
  · exact .inl r
  · exact .inr ⟨r,c,e,k c e _ g⟩
theorem FrOK.on {h h':Heap} {p':aE} {as':As} (f:FrOK X h o p as F loc) (hp:Sub p p') (ha:as <+: as')
    (hk:∀ a,a ∈ F.own∨(p a).isSome∨(o a).isSome→∀ ob,h.get? a=some ob→h'.get? a=some ob):FrOK X h' o p' as' F loc where
  kind:=f.kind
  glob:=f.glob
  bltn:=f.bltn
  len:=f.len
  nodup:=f.nodup
  plain:=f.plain
  mine:=f.mine
  ns:=by
    obtain ⟨m,hn,hr⟩:=f.ns
    refine ⟨m,hn.at' fun ob e=>hk _ (.inl f.mine) ob e,fun i x v e1 e2 kn=>?_⟩
    obtain ⟨u,r,v'⟩:=hr i x v e1 e2 kn
    refine ⟨u,r.on fun c hc v hv=>?_,v'.mono hp ha⟩
    obtain ⟨ob,e,d⟩:=hv
    exact ⟨ob,hk c (f.cell _ c hc).2 ob e,d⟩
  inj:=f.inj
  apart:=f.apart
  cell:=fun x c hc=>by
    obtain ⟨⟨v,ob,e,d⟩,r⟩:=f.cell x c hc
    refine ⟨⟨v,ob,hk c r ob e,d⟩,r.imp_right fun r=>r.imp_left fun r=>?_⟩
    refine xe1 (Option.isSome_iff_exists.mp r) fun b hb=>?_
    rw [hp _ _ hb]; rfl
  wcell:=f.wcell
  fcell:=fun x hx c hc=>by
    refine xe1 (Option.isSome_iff_exists.mp (f.fcell x hx c hc)) fun b hb=>?_
    rw [hp _ _ hb]; rfl
  lam:=f.lam
  has:=f.has
theorem TabOK.mono {p p':aE} (hp:Sub p p') {ps:Array Value} (t:TabOK X p ps):TabOK X p' ps :=
  ⟨t.1,fun pos cv h=>let ⟨c',oc,vs,tq,e1,e2,r⟩:=t.2 pos cv h; ⟨c',oc,vs,tq,e1,hp _ _ e2,r⟩⟩
theorem Inv.tok (I:Inv X s₀ o p as mu F loc s) (t:Nat):Inv X s₀ o p as mu F loc { s with toks:=t } :=
  ⟨by obtain ⟨k,e⟩:=I.sh; exact ⟨t,by rw [e]⟩,I.base,I.ple,I.ole,I.dj,I.len,I.mus,I.nodup,I.out,I.fr,I.tb⟩
theorem Inv.keeps (I:Inv X s₀ o p as mu F loc s) {h':Heap} (hk:∀ a ob,s.heap.get? a=some ob→h'.get? a=some ob):Inv X s₀ o p as mu F loc { s with heap:=h' } where
  sh:=by obtain ⟨k,e⟩:=I.sh; exact ⟨k,by rw [e]⟩
  base:=I.base
  ple:=fun a ob e=>hk _ _ (I.ple a ob e)
  ole:=fun a ob e=>hk _ _ (I.ole a ob e)
  dj:=I.dj
  len:=I.len
  mus:=fun i q m e f=>(I.mus i q m e f).mono Sub.refl (List.prefix_refl _) fun a Z ob e=>hk a ob e
  nodup:=I.nodup
  out:=fun a ha=>by obtain ⟨a1,a2,ob,e⟩:=I.out a ha; exact ⟨a1,a2,ob,hk _ _ e⟩
  fr:=I.fr.on Sub.refl (List.prefix_refl _) fun a Z ob e=>hk a ob e
  tb:=let ⟨ps,e,t⟩:=I.tb; ⟨ps,hk _ _ e,t⟩
theorem Inv.push (I:Inv X s₀ o p as mu F loc s) (ob:Obj):Inv X s₀ o p as mu F loc { s with heap:=s.heap.push ob }:=I.keeps fun Z Z e=>Heap.get?_push_of_some _ e
theorem Inv.fresh_p (I:Inv X s₀ o p as mu F loc s):p s.heap.objs.size=none:=by
  cases q:p s.heap.objs.size with
  | none=>rfl
  | some ob=>exact absurd (Heap.lt_size (I.ple _ _ q)) (Nat.lt_irrefl _)
theorem Inv.fresh_o (I:Inv X s₀ o p as mu F loc s):o s.heap.objs.size=none:=by
  cases q:o s.heap.objs.size with
  | none=>rfl
  | some ob=>exact absurd (Heap.lt_size (I.ole _ _ q)) (Nat.lt_irrefl _)
theorem Inv.fresh_own (I:Inv X s₀ o p as mu F loc s):s.heap.objs.size ∉ X.tab::(F.own++cw as mu):=fun h=>by
  obtain ⟨_,_,ob,e⟩:=I.out _ h
  exact absurd (Heap.lt_size e) (Nat.lt_irrefl _)
theorem Inv.fresh_of (I:Inv X s₀ o p as mu F loc s) {a:Addr} (ha:s.heap.objs.size≤a):p a=none∧o a=none∧a ∉ X.tab::(F.own++cw as mu):=by
  refine ⟨?_,?_,fun h=>?_⟩
  · cases q:p a with
    | none=>rfl
    | some ob=>exact absurd (Heap.lt_size (I.ple _ _ q)) (Nat.not_lt.mpr ha)
  · cases q:o a with
    | none=>rfl
    | some ob=>exact absurd (Heap.lt_size (I.ole _ _ q)) (Nat.not_lt.mpr ha)
  · obtain ⟨_,_,ob,e⟩:=I.out _ h
    exact absurd (Heap.lt_size e) (Nat.not_lt.mpr ha)
theorem Inv.toP (I:Inv X s₀ o p as mu F loc s) {a:Addr} {ob:Obj} (e:s.heap.get? a=some ob) (h1:p a=none) (h2:o a=none) (h3:a ∉ X.tab::(F.own++cw as mu)):Inv X s₀ o (put1 p a ob) as mu F loc s where
  sh:=I.sh
  base:=I.base.trans (Sub.put1 h1)
  ple:=fun b x f=>by
    by_cases hb:b=a
    · subst hb; rw [b8] at f; (replace f:=iS f; subst f); exact e
    · rw [eN hb] at f; exact I.ple _ _ f
  ole:=I.ole
  dj:=fun b f=>by
    by_cases hb:b=a
    · rw [hb]; exact h2
    · rw [eN hb] at f; exact I.dj _ f
  len:=I.len
  mus:=fun i q m e f=>(I.mus i q m e f).mono (Sub.put1 h1) (List.prefix_refl _) fun Z Z Z e=>e
  nodup:=I.nodup
  out:=fun b hb=>by
    obtain ⟨a1,a2,r⟩:=I.out b hb
    exact ⟨by rw [eN (fun q:b=a=>h3 (q ▸ hb))]; exact a1,a2,r⟩
  fr:=I.fr.on (Sub.put1 h1) (List.prefix_refl _) fun Z Z Z e=>e
  tb:=let ⟨ps,e,t⟩:=I.tb; ⟨ps,e,t.mono (Sub.put1 h1)⟩
theorem Inv.pushP (I:Inv X s₀ o p as mu F loc s) (ob:Obj) (hf:ob.isFreed=false):Inv X s₀ o (put1 p s.heap.objs.size ob) as mu F loc { s with heap:=s.heap.push ob } :=
  (I.push ob).toP (Heap.get?_push_size _ hf) I.fresh_p I.fresh_o I.fresh_own
theorem Inv.toM (I:Inv X s₀ o p as mu F loc s) {q:Addr × Addr} {m:MObj} (hm:MRel X s.heap p (as++[q]) q m) (hn:(dW q m).Nodup) (h3:∀ a ∈ dW q m,a ∉ X.tab::(F.own++cw as mu))
    (h1:∀ a ∈ dW q m,Out3 p o s.heap a):Inv X s₀ o p (as++[q]) (mu++[m]) F loc s:=by
  have ow:cw (as++[q]) (mu++[m])=cw as mu++dW q m:=by rw [nV I.len]; simp [uL,ti]
  refine ⟨I.sh,I.base,I.ple,I.ole,I.dj,by simp [I.len],fun i r n e f=>?_,?_,fun a ha=>?_,I.fr.on Sub.refl (List.prefix_append _ _) fun Z Z Z e=>e,I.tb⟩
  · by_cases hi:i < as.length
    · rw [List.getElem?_append_left hi] at e
      rw [List.getElem?_append_left (by rw [← I.len]; exact hi)] at f
      exact (I.mus i r n e f).mono Sub.refl (List.prefix_append _ _) fun Z Z Z e=>e
    · have:i=as.length:=by have:=(List.getElem?_eq_some_iff.mp e).1; simp at this; exact ne hi this
      subst this
      rw [List.getElem?_concat_length] at e
      rw [I.len,List.getElem?_concat_length] at f
      (replace e:=iS e; subst e); (replace f:=iS f; subst f); exact hm
  · rw [ow,← List.append_assoc,← List.cons_append]
    exact List.nodup_append.mpr ⟨I.nodup,hn,fun a ha b hb q=>h3 b hb (q ▸ ha)⟩
  · rw [ow,← List.append_assoc,← List.cons_append] at ha
    rcases List.mem_append.mp ha with ha | ha
    · exact I.out a ha
    · exact h1 a ha
theorem Inv.pushM (I:Inv X s₀ o p as mu F loc s) (ob:Obj) (hf:ob.isFreed=false) {m:MObj} (ho:dW (s.heap.objs.size,0) m=[s.heap.objs.size])
    (hm:MRel X (s.heap.push ob) p (as++[(s.heap.objs.size,0)]) (s.heap.objs.size,0) m):Inv X s₀ o p (as++[(s.heap.objs.size,0)]) (mu++[m]) F loc { s with heap:=s.heap.push ob }:=by
  refine (I.push ob).toM hm (by rw [ho]; simp) (fun a ha=>?_) fun a ha=>?_
  · rw [ho,List.mem_singleton] at ha; subst ha; exact I.fresh_own
  · rw [ho,List.mem_singleton] at ha; subst ha; exact ⟨I.fresh_p,I.fresh_o,_,Heap.get?_push_size _ hf⟩
theorem sS {as:As} {mu:Mu}:∀ {i:Nat} {q:Addr × Addr} {m m':MObj},as[i]? = some q→mu[i]? = some m→dW q m'=dW q m→cw as (mu.set i m')=cw as mu:=by
  induction as generalizing mu with
  | nil=>intro i q m m' e; exact nS e
  | cons x as ih =>
    intro i q m m' e f g
    cases mu with
    | nil=>exact nS f
    | cons y mu =>
      cases i with
      | zero=>simp only [List.getElem?_cons_zero,Option.some.injEq] at e f; subst e; subst f; simp only [List.set_cons_zero,ti,g]
      | succ i=>simp only [List.set_cons_succ,ti]; rw [ih (by simpa using e) (by simpa using f) g]
theorem wl {as:As} {mu:Mu}:∀ {i j:Nat} {q r:Addr × Addr} {m n:MObj},as[i]? = some q→mu[i]? = some m→as[j]? = some r→mu[j]? = some n→(cw as mu).Nodup→i ≠ j→∀ a ∈ dW q m,a ∉ dW r n:=by
  induction as generalizing mu with
  | nil=>intro i j q r m n e; exact nS e
  | cons x as ih =>
    intro i j q r m n e f g h nd hij a ha hb
    cases mu with
    | nil=>exact nS f
    | cons y mu =>
      rw [ti] at nd
      refine gD (List.nodup_append.mp nd) fun n1 n2 n3=>?_
      cases i with
      | zero =>
        cases j with
        | zero=>exact hij rfl
        | succ j =>
          simp only [List.getElem?_cons_zero,Option.some.injEq] at e f; subst e; subst f
          exact n3 a ha a (fy (by simpa using g) (by simpa using h) a hb) rfl
      | succ i =>
        cases j with
        | zero =>
          simp only [List.getElem?_cons_zero,Option.some.injEq] at g h; subst g; subst h
          exact n3 a hb a (fy (by simpa using e) (by simpa using f) a ha) rfl
        | succ j=>exact ih (by simpa using e) (by simpa using f) (by simpa using g) (by simpa using h) n2 (fun q=>hij (by rw [q])) a ha hb
theorem Inv.nd_owns (I:Inv X s₀ o p as mu F loc s):(cw as mu).Nodup:=(List.nodup_append.mp (List.nodup_cons.mp I.nodup).2).2.1
theorem Inv.own_owns (I:Inv X s₀ o p as mu F loc s) {a:Addr} (h:a ∈ F.own):a ∉ cw as mu:=fun k=>(List.nodup_append.mp (List.nodup_cons.mp I.nodup).2).2.2 a h a k rfl
theorem Inv.tab_own (I:Inv X s₀ o p as mu F loc s):X.tab ∉ F.own:=fun k=>(List.nodup_cons.mp I.nodup).1 (List.mem_append_left _ k)
theorem Inv.tab_owns (I:Inv X s₀ o p as mu F loc s):X.tab ∉ cw as mu:=fun k=>(List.nodup_cons.mp I.nodup).1 (List.mem_append_right _ k)
theorem Inv.upd (I:Inv X s₀ o p as mu F loc s) {i:Nat} {q:Addr × Addr} {m m':MObj} (e:as[i]? = some q) (f:mu[i]? = some m) (ho:dW q m'=dW q m) {a:Addr} (ha:a ∈ dW q m) {h':Heap}
    (hs:Heap.SameBut a s.heap h') (hl:∃ ob,h'.get? a=some ob) (hm:MRel X h' p as q m'):Inv X s₀ o p as (mu.set i m') F loc { s with heap:=h' }:=by
  have mo:a ∈ cw as mu:=fy e f a ha
  have ma:a ∈ X.tab::(F.own++cw as mu):=List.mem_cons_of_mem _ (List.mem_append_right _ mo)
  obtain ⟨pa,oa,_⟩:=I.out a ma
  have keep:∀ b,b ≠ a→∀ ob,s.heap.get? b=some ob→h'.get? b=some ob:=fun b hb ob x=>(hs.2 b hb).trans x
  refine ⟨by obtain ⟨k,x⟩:=I.sh; exact ⟨k,by rw [x]⟩,I.base,fun b ob x=>keep b (fun y=>by rw [y,pa] at x; exact nS x) ob (I.ple b ob x),fun b ob x=>keep b (fun y=>by rw [y,oa] at x; exact nS x) ob (I.ole b ob x),I.dj,by simp [I.len],fun j r n g k=>?_,?_,fun b hb=>?_,?_,?_⟩
  · by_cases hj:i=j
    · subst hj
      rw [List.getElem?_set_self (List.getElem?_eq_some_iff.mp f).1] at k
      rw [e] at g; (replace g:=iS g; subst g); (replace k:=iS k; subst k); exact hm
    · rw [List.getElem?_set_ne hj] at k
      refine (I.mus j r n g k).mono Sub.refl (List.prefix_refl _) fun b hb ob x=>keep b (fun y=>?_) ob x
      subst y
      exact wl e f g k I.nd_owns hj b ha hb
  · rw [sS e f ho]; exact I.nodup
  · rw [sS e f ho] at hb
    obtain ⟨b1,b2,ob,x⟩:=I.out b hb
    refine ⟨b1,b2,?_⟩
    by_cases y:b=a
    · subst y; exact hl
    · exact ⟨ob,keep b y ob x⟩
  · refine I.fr.on Sub.refl (List.prefix_refl _) fun b hb ob x=>keep b (fun y=>?_) ob x
    subst y
    rcases hb with hb | hb | hb
    · exact I.own_owns hb mo
    · rw [pa] at hb; cases hb
    · rw [oa] at hb; cases hb
  · obtain ⟨ps,x,t⟩:=I.tb
    exact ⟨ps,keep _ (fun y=>I.tab_owns (by rw [y]; exact mo)) _ x,t⟩
end
end Mine.Internal
namespace Mine.Internal
section
variable {X:Amb} {s₀ s:Shared} {o p:aE} {as:As} {mu:Mu} {F:Fm} {loc:ag}
theorem VRel.norm (I:Inv X s₀ o p as mu F loc s) {v:Val} {u:Value} (r:VRel X p as v u):VRel X p as (norm mu v) u:=by
  cases v with
  | r k =>
    show VRel X p as (((mu[k]?).bind oF).elim (.r k) .d) u
    cases h:(mu[k]?).bind oF with
    | some d =>
      have hd:=Hp h
      obtain ⟨q,e,rfl⟩:=r
      exact I.mus k q _ e hd
    | none=>exact r
  | d x=>exact r
  | clo k=>exact r
theorem VRels.get {xs:List Val}:∀ {vs:List Value},VRels X p as xs vs→xs.length=vs.length∧∀ (i:Nat) (x:Val),xs[i]? = some x→∃ u,vs[i]? = some u∧VRel X p as x u:=by
  induction xs with
  | nil=>intro vs r; cases r; exact ⟨rfl,fun i x e=>by simp at e⟩
  | cons y ys ih =>
    intro vs r
    obtain ⟨v,r',rfl,a,b⟩:=r
    obtain ⟨l,g⟩:=ih b
    refine ⟨by simp [l],fun i x e=>?_⟩
    cases i with
    | zero=>simp only [List.getElem?_cons_zero,Option.some.injEq] at e; subst e; exact ⟨v,rfl,a⟩
    | succ i=>exact g i x (by simpa using e)
theorem DRels.get {xs:List Dat}:∀ {vs:List Value},DRels X p xs vs→xs.length=vs.length∧∀ (i:Nat) (x:Dat),xs[i]? = some x→∃ u,vs[i]? = some u∧DRel X p x u:=by
  induction xs with
  | nil=>intro vs r; rw [ds0] at r; subst r; exact ⟨rfl,fun i x e=>by simp at e⟩
  | cons y ys ih =>
    intro vs r
    rw [j8] at r
    obtain ⟨v,r',rfl,a,b⟩:=r
    obtain ⟨l,g⟩:=ih b
    refine ⟨by simp [l],fun i x e=>?_⟩
    cases i with
    | zero=>simp only [List.getElem?_cons_zero,Option.some.injEq] at e; subst e; exact ⟨v,rfl,a⟩
    | succ i=>exact g i x (by simpa using e)
theorem VRels.ofD:∀ {xs:List Dat} {vs:List Value},DRels X p xs vs→VRels X p as (xs.map .d) vs
  | [],_,r=>by rw [ds0] at r; subst r; rfl
  | _::_,_,r=>by rw [j8] at r; obtain ⟨v,r',e,a,b⟩:=r; exact ⟨v,r',e,a,VRels.ofD b⟩
theorem VRels.toD:∀ {vs:List Val} {ds:List Dat} {us:List Value},bN vs=some ds→VRels X p as vs us→DRels X p ds us
  | [],ds,us,e,r=>by (replace e:=iS e; subst e); rw [ds0]; exact r
  | .d x::vs,ds,us,e,r=>by
    rw [Gm] at e
    refine bM e fun ds' e' e2_=>?_
    clear e
    subst e2_
    obtain ⟨v,r',rfl,a,b⟩:=r
    rw [j8]
    exact ⟨v,r',rfl,a,VRels.toD e' b⟩
  | .r _::_,_,_,e,_=>by exact nS e
  | .clo _::_,_,_,e,_=>by exact nS e
theorem kU:∀ {vs:List Val} {ds:List Dat},bN vs=some ds→ds.length=vs.length
  | [],_,e=>by (replace e:=iS e; subst e); rfl
  | .d x::vs,ds,e=>by
    rw [Gm] at e
    refine bM e fun ds' e' e2_=>?_
    clear e
    subst e2_
    simp [kU e']
  | .r _::_,_,e=>by exact nS e
  | .clo _::_,_,e=>by exact nS e
theorem VRels.length {xs:List Val} {vs:List Value} (r:VRels X p as xs vs):xs.length=vs.length:=r.get.1
theorem DRels.length {xs:List Dat} {vs:List Value} (r:DRels X p xs vs):xs.length=vs.length:=r.get.1
theorem VRels.append:∀ {xs ys:List Val} {us vs:List Value},VRels X p as xs us→VRels X p as ys vs→VRels X p as (xs++ys) (us++vs)
  | [],_,_,_,a,b=>by cases a; exact b
  | _::_,_,_,_,⟨v,r,e,a,a'⟩,b=>by subst e; exact ⟨v,_,rfl,a,a'.append b⟩
theorem VRels.snoc {xs:List Val} {us:List Value} {x:Val} {u:Value} (a:VRels X p as xs us) (b:VRel X p as x u):VRels X p as (xs++[x]) (us++[u]):=a.append ⟨u,[],rfl,b,rfl⟩
theorem DRels.append:∀ {xs ys:List Dat} {us vs:List Value},DRels X p xs us→DRels X p ys vs→DRels X p (xs++ys) (us++vs)
  | [],_,_,_,a,b=>by rw [ds0] at a; subst a; exact b
  | _::_,_,_,_,a,b=>by
    rw [j8] at a
    obtain ⟨v,r,e,a,a'⟩:=a
    subst e; rw [List.cons_append,j8]; exact ⟨v,_,rfl,a,a'.append b⟩
theorem VRels.set:∀ {xs:List Val} {us:List Value} {x:Val} {u:Value} (i:Nat),VRels X p as xs us→VRel X p as x u→VRels X p as (xs.set i x) (us.set i u)
  | [],_,_,_,_,a,b=>by cases a; exact rfl
  | _::_,_,x,u,0,⟨v,r,e,a,a'⟩,b=>by subst e; exact ⟨u,r,rfl,b,a'⟩
  | _::_,_,x,u,i+1,⟨v,r,e,a,a'⟩,b=>by subst e; exact ⟨v,_,rfl,a,a'.set i b⟩
theorem DRels.drop:∀ {xs:List Dat} {us:List Value} (k:Nat),DRels X p xs us→DRels X p (xs.drop k) (us.drop k)
  | _,_,0,a=>a
  | [],_,k+1,a=>by rw [ds0] at a; subst a; simp [ds0]
  | _::_,_,k+1,a=>by rw [j8] at a; obtain ⟨v,r,e,a,a'⟩:=a; subst e; exact DRels.drop k a'
theorem Bg {as:As} {mu:Mu}:∀ {i:Nat} {q:Addr × Addr} {m:MObj} {d:Dat},as[i]? = some q→mu[i]? = some m→(cw as mu).Nodup →
    (cw as (mu.set i (.frz d))).Sublist (cw as mu)∧∀ a ∈ dW q m,a ∉ cw as (mu.set i (.frz d)):=by
  induction as generalizing mu with
  | nil=>intro i q m d e; exact nS e
  | cons x as ih =>
    intro i q m d e f nd
    cases mu with
    | nil=>exact nS f
    | cons y mu =>
      rw [ti] at nd
      refine gD (List.nodup_append.mp nd) fun n1 n2 n3=>?_
      cases i with
      | zero =>
        simp only [List.getElem?_cons_zero,Option.some.injEq] at e f
        subst e; subst f
        simp only [List.set_cons_zero,uL,kg,List.nil_append]
        exact ⟨List.sublist_append_right _ _,fun a ha hb=>n3 a ha a hb rfl⟩
      | succ i =>
        obtain ⟨s1,s2⟩:=ih (d:=d) (by simpa using e) (by simpa using f) n2
        simp only [List.set_cons_succ,uL]
        refine ⟨List.Sublist.append_left s1 _,fun a ha hb=>?_⟩
        rcases List.mem_append.mp hb with hb | hb
        · exact n3 a hb a (fy (by simpa using e) (by simpa using f) a ha) rfl
        · exact s2 a ha hb
theorem Inv.frz1 (I:Inv X s₀ o p as mu F loc s) {i:Nat} {q:Addr × Addr} {m:MObj} {d:Dat} {p':aE} (e:as[i]? = some q) (f:mu[i]? = some m) (hp:Sub p p')
    (hp':∀ a ob,p' a=some ob→p a=some ob∨(a ∈ dW q m∧s.heap.get? a=some ob)) (hd:DRel X p' d (.ref q.1)):Inv X s₀ o p' as (mu.set i (.frz d)) F loc s:=by
  have mo:∀ a ∈ dW q m,a ∈ cw as mu:=fy e f
  refine aN (Bg (d:=d) e f I.nd_owns) fun s1 s2=>?_
  have sub:(X.tab::(F.own++cw as (mu.set i (.frz d)))).Sublist (X.tab::(F.own++cw as mu)):=(List.Sublist.append_left s1 _).cons_cons _
  refine ⟨I.sh,I.base.trans hp,fun a ob x=>?_,I.ole,fun a x=>?_,by simp [I.len],fun j r n g k=>?_,sub.nodup I.nodup,fun a ha=>?_,I.fr.on hp (List.prefix_refl _) fun Z Z Z e=>e,let ⟨ps,e,t⟩:=I.tb; ⟨ps,e,t.mono hp⟩⟩
  · rcases hp' a ob x with y | ⟨_,y⟩
    · exact I.ple _ _ y
    · exact y
  · refine xe1 (Option.isSome_iff_exists.mp x) fun ob x=>?_
    rcases hp' a ob x with y | ⟨y,_⟩
    · exact I.dj a (by rw [y]; rfl)
    · exact (I.out a (List.mem_cons_of_mem _ (List.mem_append_right _ (mo a y)))).2
  · by_cases hj:i=j
    · subst hj
      rw [List.getElem?_set_self (List.getElem?_eq_some_iff.mp f).1] at k
      rw [e] at g; (replace g:=iS g; subst g); (replace k:=iS k; subst k); exact hd
    · rw [List.getElem?_set_ne hj] at k
      exact (I.mus j r n g k).mono hp (List.prefix_refl _) fun Z Z Z e=>e
  · obtain ⟨a1,a2,a3⟩:=I.out a (sub.subset ha)
    refine ⟨?_,a2,a3⟩
    cases x:p' a with
    | none=>rfl
    | some ob =>
      rcases hp' a ob x with y | ⟨y,_⟩
      · rw [a1] at y; exact nS y
      · rcases List.mem_cons.mp ha with h | h
        · exact absurd (mo a y) (h ▸ I.tab_owns)
        · rcases List.mem_append.mp h with h | h
          · exact absurd (mo a y) (I.own_owns h)
          · exact absurd h (s2 a y)
theorem Inv.none_own (I:Inv X s₀ o p as mu F loc s) {i:Nat} {q:Addr × Addr} {m:MObj} (e:as[i]? = some q) (f:mu[i]? = some m):∀ a ∈ dW q m,p a=none:=fun a ha =>
  (I.out a (List.mem_cons_of_mem _ (List.mem_append_right _ (fy e f a ha)))).1
theorem rJ {n:Nat} {mu:Mu}:freeze.go n mu []=some ([],mu):=rfl
noncomputable def BJ (X:Amb) (s₀:Shared) (o:aE) (as:As) (F:Fm) (loc:ag) (s:Shared) (n:Nat):Prop:=∀ {v:Val} {mu mu':Mu} {d:Dat} {p:aE} {u:Value},freeze n mu v=some (d,mu')→Inv X s₀ o p as mu F loc s→VRel X p as v u →
    ∃ p',Sub p p'∧Inv X s₀ o p' as mu' F loc s∧DRel X p' d u
theorem mR {n:Nat} (ih:BJ X s₀ o as F loc s n):∀ {vs:List Val} {mu mu':Mu} {ds:List Dat} {p:aE} {us:List Value},freeze.go n mu vs=some (ds,mu')→Inv X s₀ o p as mu F loc s→VRels X p as vs us →
    ∃ p',Sub p p'∧Inv X s₀ o p' as mu' F loc s∧DRels X p' ds us:=by
  intro vs
  induction vs with
  | nil =>
    intro mu mu' ds p us e I r
    rw [rJ] at e; (refine dx e fun h1_ h2_=>?_; subst h1_; subst h2_)
    exact ⟨p,Sub.refl,I,by rw [ds0]; exact r⟩
  | cons v vs ihv =>
    intro mu mu' ds p us e I r
    rw [AF] at e
    refine bJ e fun x m1 e1 e2=>?_
    clear e
    refine bJ e2 fun xs m2 e3 e4=>?_
    clear e2
    (refine dx e4 fun h1_ h2_=>?_; rw [← h1_]; subst h2_)
    obtain ⟨u,us',rfl,a,b⟩:=r
    obtain ⟨p1,s1,I1,r1⟩:=ih e1 I a
    obtain ⟨p2,s2,I2,r2⟩:=ihv e3 I1 (b.mono s1 (List.prefix_refl _))
    exact ⟨p2,s1.trans s2,I2,by rw [j8]; exact ⟨u,us',rfl,r1.mono s2,r2⟩⟩
theorem qX (n:Nat):BJ X s₀ o as F loc s n:=by
  induction n with
  | zero=>intro v mu mu' d p u e I r; rw [GT] at e; exact nS e
  | succ n ih =>
    intro v mu mu' d p u e I r
    cases v with
    | d x=>have e:some (x,mu)=some (d,mu'):=e; (refine dx e fun h1_ h2_=>?_; rw [← h1_]; rw [← h2_]); exact ⟨p,Sub.refl,I,r⟩
    | clo k=>exact nS (show none=some (d,mu') from e)
    | r i =>
      obtain ⟨q,hq,rfl⟩:=r
      refine xe1 (bP (x:=mu[i]?) (f:=fun ob=>wt (q9 (freeze n)) i mu ob) e) fun ob r_=>aN r_ fun hd e=>?_
      cases ob with
      | frz d' =>
        have e:(if d'.isB=true then none else some (d',mu))=some (d,mu'):=e
        split at e
        · exact nS e
        (refine dx e fun h1_ h2_=>?_; rw [← h1_]; rw [← h2_])
        exact ⟨p,Sub.refl,I,I.mus i q _ hq hd⟩
      | spots b =>
        have e:some (_,_)=some (d,mu'):=e
        (refine dx e fun h1_ h2_=>?_; rw [← h1_]; rw [← h2_])
        obtain ⟨e0,es,m,xs,x1,x2,x3,x4,x5⟩:=I.mus i q _ hq hd
        have pn:=I.none_own hq hd q.1 (by simp [tK])
        refine ⟨put1 p q.1 (dictOf es m),Sub.put1 pn,I.frz1 hq hd (Sub.put1 pn) (fun a ob x=>?_) ?_,?_⟩
        · by_cases ha:a=q.1
          · subst ha; rw [b8] at x; (replace x:=iS x; subst x); exact .inr ⟨by simp [tK],x1⟩
          · rw [eN ha] at x; exact .inl x
        all_goals
          rw [Io]
          exact ⟨q.1,es,m,rfl,e0,b8,by rw [x2,List.length_map]; exact x5⟩
      | list xs =>
        refine bJ e fun ds m1 e1 e2=>?_
        clear e
        obtain ⟨vs,k,x1,x2⟩:=I.mus i q _ hq hd
        refine xe1 (mR ih e1 I x2) fun p1 r_=>gD r_ fun s1 I1 r1=>?_
        refine xe1 (gc (show ((m1[i]?).bind oL).map _=some (d,mu') from e2)) fun xs' r_=>aN r_ fun hd' e2=>?_
        replace hd':=kz hd'
        · (refine eJ e2 fun h1_ h2_=>?_; rw [← h1_]; rw [← h2_])
          have pn:=I1.none_own hq hd' q.1 (by simp [kg])
          refine ⟨put1 p1 q.1 (listOf vs k),s1.trans (Sub.put1 pn),I1.frz1 hq hd' (Sub.put1 pn) (fun a ob x=>?_) ?_,?_⟩
          · by_cases ha:a=q.1
            · subst ha; rw [b8] at x; (replace x:=iS x; subst x); exact .inr ⟨by simp [kg],x1⟩
            · rw [eN ha] at x; exact .inl x
          all_goals
            rw [yx]
            exact ⟨q.1,vs,k,rfl,b8,r1.mono (Sub.put1 pn)⟩
      | inst c fs xs =>
        refine bJ e fun ds m1 e1 e2=>?_
        clear e
        obtain ⟨es,k,x1,x2,x3,x4⟩:=I.mus i q _ hq hd
        refine xe1 (mR ih e1 I x4) fun p1 r_=>gD r_ fun s1 I1 r1=>?_
        refine xe1 (gc (show ((m1[i]?).bind oO).map _=some (d,mu') from e2)) fun q0_ r_=>aN r_ fun hd' e2=>?_
        obtain ⟨c',fs',xs'⟩:=q0_
        replace hd':=wx hd'
        · (refine eJ e2 fun h1_ h2_=>?_; rw [← h1_]; rw [← h2_])
          have pn:=I1.none_own hq hd' q.1 (by simp [oe])
          have pn2:=I1.none_own hq hd' q.2 (by simp [oe])
          have ne:q.2 ≠ q.1:=fun y=>by rw [y,x1] at x2; cases x2
          have S:Sub p1 (put1 (put1 p1 q.1 (instObj (X.cls c) q.2)) q.2 (dictOf es k)):=(Sub.put1 pn).trans (Sub.put1 (by rw [eN ne]; exact pn2))
          have g1:put1 (put1 p1 q.1 (instObj (X.cls c) q.2)) q.2 (dictOf es k) q.1=some (instObj (X.cls c) q.2):=by rw [eN ne.symm,b8]
          refine ⟨_,s1.trans S,I1.frz1 hq hd' S (fun a ob x=>?_) ?_,?_⟩
          · by_cases ha:a=q.2
            · subst ha; rw [b8] at x; (replace x:=iS x; subst x); exact .inr ⟨by simp [oe],x2⟩
            · rw [eN ha] at x
              by_cases hb:a=q.1
              · subst hb; rw [b8] at x; (replace x:=iS x; subst x); exact .inr ⟨by simp [oe],x1⟩
              · rw [eN hb] at x; exact .inl x
          all_goals
            rw [H8]
            exact ⟨q.1,q.2,es,k,rfl,g1,b8,x3,r1.mono S⟩
      | sdict _ _=>exact nS (show none=some (d,mu') from e)
      | idict _=>exact nS (show none=some (d,mu') from e)
end
end Mine.Internal
namespace Mine.Internal
section
variable {X:Amb} {s₀ s:Shared} {o p:aE} {as:As} {mu:Mu} {F:Fm} {loc:ag} {M:Model} {A:Around} {E:Value→Shared→Prop}
theorem rg {x:Str} {i:Nat} (h:F.names[i]? = some x):x ∈ F.names:=List.mem_of_getElem? h
theorem uu {i:Nat} {x:Str} {v:Val} {Q:Value→Shared→Prop} (I:Inv X s₀ o p as mu F loc s) (hx:F.names[i]? = some x) (kn:pL F.env x) (hl:loc[i]? = some (some v))
    (h:∀ u,VRel X p as v u→Q u s):wpAny M A (loadName F.env x) Q E s:=by
  obtain ⟨m,hn,hr⟩:=I.fr.ns
  obtain ⟨u,r,vr⟩:=hr i x v hx hl kn
  have pl:=I.fr.plain x (rg hx)
  rcases r with ⟨k,hm⟩ | ⟨k | k,c,hc,hv⟩
  · exact wpAny_loadName_local I.fr.kind k hn hm (h u vr)
  · exact wpAny_loadName_cell I.fr.kind k hc hv (h u vr)
  · exact wpAny_loadName_free I.fr.kind k hc hv (h u vr) pl.2
theorem vw {i:Nat} {x:Str} {pos:Pos} {v:Val} {Q:Value→Shared→Prop} (I:Inv X s₀ o p as mu F loc s) (hx:F.names[i]? = some x) (kn:pL F.env x) (hl:look loc mu i=some v)
    (h:∀ u,VRel X p as v u→Q u s):wpAny M A (eval (.Name x pos) F.env) Q E s:=by
  refine bg hl fun o' hv hl=>?_
  refine bM hl fun v' e1_ e2_=>?_
  clear hl
  subst e1_
  subst e2_
  exact wpAny_Name (uu I hx kn hv fun u r=>h u (r.norm I)) (I.fr.plain x (rg hx)).1
theorem Inv.frame (I:Inv X s₀ o p as mu F loc s) {a:Addr} (ha:a ∈ F.own) {h':Heap} (hs:Heap.SameBut a s.heap h') (hl:∃ ob,h'.get? a=some ob) {loc':ag} (f:FrOK X h' o p as F loc') :
    Inv X s₀ o p as mu F loc' { s with heap:=h' }:=by
  have ma:a ∈ X.tab::(F.own++cw as mu):=List.mem_cons_of_mem _ (List.mem_append_left _ ha)
  obtain ⟨pa,oa,_⟩:=I.out a ma
  have keep:∀ b,b ≠ a→∀ ob,s.heap.get? b=some ob→h'.get? b=some ob:=fun b hb ob x=>(hs.2 b hb).trans x
  refine ⟨by obtain ⟨k,x⟩:=I.sh; exact ⟨k,by rw [x]⟩,I.base,fun b ob x=>keep b (fun y=>by rw [y,pa] at x; exact nS x) ob (I.ple b ob x),fun b ob x=>keep b (fun y=>by rw [y,oa] at x; exact nS x) ob (I.ole b ob x),I.dj,I.len,fun j r n g k=>?_,I.nodup,fun b hb=>?_,f,?_⟩
  · refine (I.mus j r n g k).mono Sub.refl (List.prefix_refl _) fun b hb ob x=>keep b (fun y=>?_) ob x
    subst y
    exact I.own_owns ha (fy g k b hb)
  · obtain ⟨b1,b2,ob,x⟩:=I.out b hb
    refine ⟨b1,b2,?_⟩
    by_cases y:b=a
    · rw [y]; exact hl
    · exact ⟨ob,keep b y ob x⟩
  · obtain ⟨ps,x,t⟩:=I.tb
    exact ⟨ps,keep _ (fun y=>I.tab_own (by rw [y]; exact ha)) _ x,t⟩
theorem xW {l:List Str} (h:l.Nodup) {i j:Nat} {x:Str} (a:l[i]? = some x) (b:l[j]? = some x):i=j:=by
  refine xe1 (List.getElem?_eq_some_iff.mp a) fun h1 e1=>?_
  refine xe1 (List.getElem?_eq_some_iff.mp b) fun h2 e2=>?_
  exact (List.getElem_inj h).mp (e1.trans e2.symm)
theorem ko {i:Nat} {x:Str} {v:Val} {u:Value} {Q:Unit→Shared→Prop} (I:Inv X s₀ o p as mu F loc s) (hx:F.names[i]? = some x) (kn:F.env.kindOf x=some .local∨x ∈ F.wr) (vr:VRel X p as v u)
    (h:∀ s',Inv X s₀ o p as mu F (loc.set i (some v)) s'→Q () s'):wpAny M A (storeName F.env x u) Q E s:=by
  obtain ⟨m,hn,hr⟩:=I.fr.ns
  have hi:i < F.names.length:=(List.getElem?_eq_some_iff.mp hx).1
  have hi':i < loc.length:=by rw [I.fr.len]; exact hi
  have other:∀ {j:Nat} {y:Str},F.names[j]? = some y→j ≠ i→y ≠ x:=fun hj hn e=>hn (xW I.fr.nodup hj (e ▸ hx))
  by_cases kl:F.env.kindOf x=some .local
  · refine wpAny_storeName_local kl hn (fun h' hn' hs=>h _ (((I.frame I.fr.mine hs ?_ ?_).tok _))) (by rw [I.fr.kind]; rfl)
    · obtain ⟨ob,_,_,e,_⟩:=hn'; exact ⟨ob,e⟩
    · have hcell:∀ {c:Addr} {z:Str} {v:Option Value},F.env.cells.lookup z=some c→s.heap.IsCell c v→h'.IsCell c v:=fun hc ⟨ob,e,d⟩=>⟨ob,(hs.2 _ (I.fr.apart _ _ hc)).trans e,d⟩
      refine ⟨I.fr.kind,I.fr.glob,I.fr.bltn,by simp [I.fr.len],I.fr.nodup,I.fr.plain,I.fr.mine,⟨_,hn',fun j y w hj hl kn'=>?_⟩,I.fr.inj,I.fr.apart,fun z c hc=>?_,I.fr.wcell,I.fr.fcell,I.fr.lam,I.fr.has⟩
      · by_cases hji:j=i
        · subst hji
          rw [List.getElem?_set_self hi'] at hl
          cases hl
          rw [hx] at hj; (replace hj:=iS hj; subst hj)
          exact ⟨u,.inl ⟨kl,if_pos rfl⟩,vr⟩
        · rw [List.getElem?_set_ne (Ne.symm hji)] at hl
          obtain ⟨w',r,vr'⟩:=hr j y w hj hl kn'
          refine ⟨w',?_,vr'⟩
          rcases r with ⟨k,hm⟩ | ⟨k,c,hc,hv⟩
          · exact .inl ⟨k,(if_neg (other hj hji)).trans hm⟩
          · exact .inr ⟨k,c,hc,hcell hc hv⟩
      · obtain ⟨⟨w,hw⟩,r⟩:=I.fr.cell z c hc
        exact ⟨⟨w,hcell hc hw⟩,r⟩
  · obtain ⟨c,kc,hc,co⟩:=I.fr.wcell x (kn.resolve_left kl)
    obtain ⟨⟨w,hw⟩,_⟩:=I.fr.cell x c hc
    refine wpAny_storeName_cell I.fr.kind kc hc hw fun h' hv hs=>h _ (I.frame co hs ?_ ?_)
    · obtain ⟨ob,e,_⟩:=hv; exact ⟨ob,e⟩
    · refine ⟨I.fr.kind,I.fr.glob,I.fr.bltn,by simp [I.fr.len],I.fr.nodup,I.fr.plain,I.fr.mine,⟨m,hn.sameBut hs (Ne.symm (I.fr.apart _ _ hc)),fun j y w' hj hl kn'=>?_⟩,I.fr.inj,I.fr.apart,fun z c' hc'=>?_,I.fr.wcell,I.fr.fcell,I.fr.lam,I.fr.has⟩
      · by_cases hji:j=i
        · subst hji
          rw [List.getElem?_set_self hi'] at hl
          cases hl
          rw [hx] at hj; (replace hj:=iS hj; subst hj)
          exact ⟨u,.inr ⟨.inl kc,c,hc,hv⟩,vr⟩
        · rw [List.getElem?_set_ne (Ne.symm hji)] at hl
          obtain ⟨w'',r,vr'⟩:=hr j y w' hj hl kn'
          refine ⟨w'',?_,vr'⟩
          rcases r with ⟨k,hm⟩ | ⟨k,c',hc',ob,e,d⟩
          · exact .inl ⟨k,hm⟩
          · exact .inr ⟨k,c',hc',ob,(hs.2 c' fun q=>other hj hji (I.fr.inj _ _ _ hc' (by rw [q]; exact hc))).trans e,d⟩
      · obtain ⟨⟨w',ob,e,d⟩,r⟩:=I.fr.cell z c' hc'
        refine ⟨?_,r⟩
        by_cases q:c'=c
        · rw [q]; exact ⟨_,hv⟩
        · exact ⟨w',ob,(hs.2 c' q).trans e,d⟩
end
end Mine.Internal
namespace Mine.Internal
theorem j6 {α β:Type} {f g:α→Option β}:∀ {l:List α},(∀ x ∈ l,f x=g x)→l.filterMap f=l.filterMap g
  | [],_=>rfl
  | x::l,h=>by rw [List.filterMap_cons,List.filterMap_cons,h x (.head _),j6 fun y hy=>h y (.tail _ hy)]
theorem wM {names:List Str}:∀ {vals:List Value},names.Nodup→names.length=vals.length→names.filterMap (fun n=>((names.zip vals).lookup n).map (n,·))=names.zip vals:=by
  induction names with
  | nil=>intro vals Z Z; cases vals <;> rfl
  | cons x xs ih =>
    intro vals nd e
    cases vals with
    | nil=>simp at e
    | cons v vs =>
      refine aN (List.nodup_cons.mp nd) fun n1 n2=>?_
      have h:=ih n2 (by simpa using e)
      simp only [List.zip_cons_cons,List.filterMap_cons,List.lookup_cons,beq_self_eq_true,Option.map_some]
      congr 1
      refine Eq.trans (j6 fun y hy=>?_) h
      have:(y == x)=false:=beq_eq_false_iff_ne.mpr fun q=>n1 (q ▸ hy)
      rw [this]
theorem o8 {names:List Str}:∀ {vals:List Value},names.length=vals.length→∀ n ∈ names,((names.zip vals).lookup n).isNone=false:=by
  induction names with
  | nil=>intro vals Z n h; cases h
  | cons x xs ih =>
    intro vals e n hn
    cases vals with
    | nil=>simp at e
    | cons v vs =>
      simp only [List.zip_cons_cons,List.lookup_cons]
      cases hb:n == x with
      | true=>rfl
      | false =>
        rcases List.mem_cons.mp hn with q | hn
        · rw [q] at hb; simp at hb
        · exact ih (by simpa using e) n hn
theorem rj {fd:FuncData} {vals:List Value} {names:List Str} (hn:fd.params.args.map (·.arg)=names) (h1:fd.params.posonlyargs=[]) (h2:fd.params.kwonlyargs=[]) (h3:fd.params.vararg=none) (h4:fd.params.kwarg=none) (hd:fd.defaults=.none)
    (nd:names.Nodup) (hl:names.length=vals.length):bindArgs fd ⟨vals,[]⟩=pure (names.zip vals):=by
  unfold bindArgs
  have hm:∀ k,List.filter (fun n=>((names.zip vals).lookup n).isNone) (names.take k)=[]:=fun k=>List.filter_eq_nil_iff.mpr fun n h=>by rw [o8 hl n (List.mem_of_mem_take h)]; decide
  have hs:seqItems? Value.none=pure none:=rfl
  simp only [h1,h2,h3,h4,hd,hn,hs,List.map_nil,List.nil_append,List.append_nil,pure_bind,Option.getD_none]
  simp [hl,hm,wM nd hl]
end Mine.Internal
namespace Mine.Internal
structure FnOK (X:Amb) (d:FDef) (a:Addr) (fd:FuncData) (body:List Stmt):Prop where
  at_:∃ ob,X.H₀.get? a=some ob∧ob.data=.func fd
  body:fd.body=.stmts body
  glob:fd.globals=mainGlobals
  bltn:fd.builtins=builtinsNs
  clos:fd.closure=[]
  code:X.H₀.CodeRec fd.code fd.qualname
  kind:fd.scope.kind=.function
  co:fd.scope.isCoroutine=false
  gen:fd.scope.isGenerator=false
  kinds:∀ x ∈ d.args,fd.scope.names.lookup x=some .local∨fd.scope.names.lookup x=some .cell
  wr:∀ x ∈ d.wr.map Str.ofString,fd.scope.names.lookup x=some .cell∧x ∉ d.fz.map Str.ofString
  lam:∀ x ∈ d.fz.map Str.ofString,fd.code=.ref X.cd∧(fd.qualname ++ ".<locals>.")++("<lambda>" : Str)=X.lq
  nofree:∀ x ∈ fd.scope.names,x.2 ≠ .free
  cnd:((cellsFrom 0 fd.scope.names []).map (·.1)).Nodup
  nodup:d.strs.Nodup
  plain:∀ x ∈ d.strs,(x == ("__debug__" : Str))=false∧(x == ("__classdict__" : Str))=false
  pars:d.params≤d.names.length
  bind:∀ (s:Shared) (vals:List Value),(∀ a o,X.H₀.get? a=some o→s.heap.get? a=some o)→vals.length≤d.params→d.params - vals.length≤d.dflts.length →
    ∃ us,DRels X X.H₀.get? (d.dflts.drop (d.dflts.length - (d.params - vals.length))) us∧BindsTo s fd ⟨vals,[]⟩ (d.args.zip (vals++us))
theorem nX {kindOf:Str→Option NameKind}:∀ {l:List (Str × Value)} {m:Str→Option Value} {x:Str},x ∉ l.map (·.1)→bindL kindOf l m x=m x
  | [],_,_,_=>rfl
  | (n,v)::r,m,x,h=>by
    unfold bindL
    rw [nX fun k=>h (List.mem_cons_of_mem _ k)]
    have:x ≠ n:=fun e=>h (e ▸ List.mem_cons_self)
    split
    · exact if_neg this
    · rfl
theorem n7 {kindOf:Str→Option NameKind}:∀ {l:List (Str × Value)} {m:Str→Option Value} {x:Str},x ∉ l.map (·.1)→bindC kindOf l m x=m x
  | [],_,_,_=>rfl
  | (n,v)::r,m,x,h=>by
    unfold bindC
    rw [n7 fun k=>h (List.mem_cons_of_mem _ k)]
    have:x ≠ n:=fun e=>h (e ▸ List.mem_cons_self)
    split
    · rfl
    · exact if_neg this
theorem oH {kindOf:Str→Option NameKind}:∀ {l:List (Str × Value)} {m:Str→Option Value} {x:Str} {u:Value},(l.map (·.1)).Nodup→(x,u) ∈ l→kindOf x=some .local→bindL kindOf l m x=some u
  | (n,v)::r,m,x,u,nd,h,k=>by
    refine aN (List.nodup_cons.mp nd) fun n1 n2=>?_
    unfold bindL
    rcases List.mem_cons.mp h with e | h
    · (refine eJ e fun h1_ h2_=>?_; subst h1_; subst h2_)
      rw [nX n1,if_pos k]
      exact if_pos rfl
    · exact oH n2 h k
theorem oU {kindOf:Str→Option NameKind}:∀ {l:List (Str × Value)} {m:Str→Option Value} {x:Str} {u:Value},(l.map (·.1)).Nodup→(x,u) ∈ l→¬ kindOf x=some .local→bindC kindOf l m x=some u
  | (n,v)::r,m,x,u,nd,h,k=>by
    refine aN (List.nodup_cons.mp nd) fun n1 n2=>?_
    unfold bindC
    rcases List.mem_cons.mp h with e | h
    · (refine eJ e fun h1_ h2_=>?_; subst h1_; subst h2_)
      rw [n7 n1,if_neg k]
      exact if_pos rfl
    · exact oU n2 h k
section
variable {X:Amb} {s₀ s:Shared} {o p:aE} {as:As} {mu:Mu} {F:Fm} {loc:ag}
noncomputable def c7 (o:aE) (own:List Addr) (h:Heap):aE:=fun a=>if a ∈ own then h.get? a else o a
theorem dv {o:aE} {own:List Addr} {h:Heap} {a:Addr} (k:a ∈ own):c7 o own h a=h.get? a:=if_pos k
theorem ch {o:aE} {own:List Addr} {h:Heap} {a:Addr} (k:a ∉ own):c7 o own h a=o a:=if_neg k
theorem Inv.leave {o' p'':aE} {as'':As} {mu'':Mu} {F':Fm} {loc'':ag} {s'':Shared} (I0:Inv X s₀ o p as mu F loc s) (I1:Inv X s₀ (c7 o F.own s.heap) p'' as'' mu'' F' loc'' s'')
    (hp:Sub p p'') (ha:as <+: as''):Inv X s₀ o p'' as'' mu'' F loc s'':=by
  have own:∀ a ∈ F.own,∃ ob,s.heap.get? a=some ob∧c7 o F.own s.heap a=some ob∧p'' a=none∧o a=none∧s''.heap.get? a=some ob:=fun a h=>by
    obtain ⟨_,a2,ob,e⟩:=I0.out a (List.mem_cons_of_mem _ (List.mem_append_left _ h))
    have k:c7 o F.own s.heap a=some ob:=(dv h).trans e
    refine ⟨ob,e,k,?_,a2,I1.ole _ _ k⟩
    cases q:p'' a with
    | none=>rfl
    | some ob'=>have:=I1.dj a (by rw [q]; rfl); rw [k] at this; exact nS this.symm
  have o_held:∀ a ob,o a=some ob→c7 o F.own s.heap a=some ob:=fun a ob e=>by
    by_cases h:a ∈ F.own
    · obtain ⟨_,_,_,_,z,_⟩:=own a h; rw [z] at e; exact nS e
    · exact (ch h).trans e
  refine ⟨I1.sh,I1.base,I1.ple,fun a ob e=>I1.ole a ob (o_held a ob e),fun a h=>?_,I1.len,I1.mus,?_,fun a h=>?_,I0.fr.on hp ha fun a h ob e=>?_,I1.tb⟩
  · cases q:o a with
    | none=>rfl
    | some ob=>have:=I1.dj a h; rw [o_held a ob q] at this; exact nS this.symm
  · have n1:=List.nodup_cons.mp I1.nodup
    refine List.nodup_cons.mpr ⟨fun h=>?_,List.nodup_append.mpr ⟨(List.nodup_append.mp (List.nodup_cons.mp I0.nodup).2).1,I1.nd_owns,fun a h b h' q=>?_⟩⟩
    · rcases List.mem_append.mp h with h | h
      · exact I0.tab_own h
      · exact I1.tab_owns h
    · subst q
      obtain ⟨_,_,k,_⟩:=own a h
      have:=(I1.out a (List.mem_cons_of_mem _ (List.mem_append_right _ h'))).2
      rw [k] at this; exact nS this.symm
  · rcases List.mem_cons.mp h with h | h
    · subst h
      obtain ⟨a1,a2,a3⟩:=I1.out X.tab (.head _)
      exact ⟨a1,by rw [ch I0.tab_own] at a2; exact a2,a3⟩
    · rcases List.mem_append.mp h with h | h
      · obtain ⟨ob,_,_,a1,a2,a3⟩:=own a h
        exact ⟨a1,a2,ob,a3⟩
      · obtain ⟨a1,a2,a3⟩:=I1.out a (List.mem_cons_of_mem _ (List.mem_append_right _ h))
        refine ⟨a1,?_,a3⟩
        cases q:o a with
        | none=>rfl
        | some ob=>rw [o_held a ob q] at a2; exact nS a2.symm
  · rcases h with h | h | h
    · obtain ⟨ob',e',_,_,_,z⟩:=own a h
      rw [e] at e'; (replace e':=iS e'; rw [e']); exact z
    · refine xe1 (Option.isSome_iff_exists.mp h) fun ob' q=>?_
      have:=I0.ple _ _ q
      rw [e] at this; (replace this:=iS this; subst this)
      exact I1.ple _ _ (hp _ _ q)
    · refine xe1 (Option.isSome_iff_exists.mp h) fun ob' q=>?_
      have:=I0.ole _ _ q
      rw [e] at this; (replace this:=iS this; subst this)
      exact I1.ole _ _ (o_held _ _ q)
theorem Inv.leave_fr {o' p'':aE} {as'':As} {mu'':Mu} {F':Fm} {loc'':ag} {s'':Shared} (I0:Inv X s₀ o p as mu F loc s) (I1:Inv X s₀ (c7 o F.own s.heap) p'' as'' mu'' F' loc'' s'')
    (hp:Sub p p''):FrOK X s''.heap o p'' as F loc:=by
  refine I0.fr.on hp (List.prefix_refl _) fun a h ob e=>?_
  by_cases ho:a ∈ F.own
  · exact I1.ole _ _ ((dv ho).trans e)
  · rcases h with h | h | h
    · exact absurd h ho
    · refine xe1 (Option.isSome_iff_exists.mp h) fun ob' q=>?_
      have:=I0.ple _ _ q
      rw [e] at this; (replace this:=iS this; subst this)
      exact I1.ple _ _ (hp _ _ q)
    · refine xe1 (Option.isSome_iff_exists.mp h) fun ob' q=>?_
      have:=I0.ole _ _ q
      rw [e] at this; (replace this:=iS this; subst this)
      exact I1.ole _ _ ((ch ho).trans q)
theorem VRel.cut {as'':As} (ha:as <+: as'') {v:Val} {u:Value} (h:v.okB as.length=true) (r:VRel X p as'' v u):VRel X p as v u:=by
  cases v with
  | d x=>exact r
  | clo k=>exact r
  | r i =>
    obtain ⟨q,e,rfl⟩:=r
    have:i < as.length:=of_decide_eq_true h
    obtain ⟨t,rfl⟩:=ha
    rw [List.getElem?_append_left this] at e
    exact ⟨q,e,rfl⟩
theorem VRels.cut {as'':As} (ha:as <+: as''):∀ {vs:List Val} {us:List Value},vs.all (Val.okB as.length)=true→VRels X p as'' vs us→VRels X p as vs us
  | [],_,_,r=>r
  | v::vs,_,h,⟨u,r,e,a,b⟩=>by
    rw [List.all_cons,Bool.and_eq_true] at h
    exact ⟨u,r,e,a.cut ha h.1,b.cut ha h.2⟩
theorem ze {as as'':As} {mu:Mu}:as <+: as''→as.length≤mu.length→(cw as (mu.take as.length)).Sublist (cw as'' mu):=by
  induction as generalizing as'' mu with
  | nil=>intro Z Z; simp [uL]
  | cons q as ih =>
    intro h k
    obtain ⟨t,rfl⟩:=h
    cases mu with
    | nil=>simp at k
    | cons m mu =>
      simp only [List.length_cons,List.take_succ_cons,uL,List.cons_append]
      exact List.Sublist.append_left (ih (List.prefix_append _ _) (by simpa using k)) _
theorem Inv.cut {as'':As} {mu'':Mu} (I:Inv X s₀ o p as'' mu'' F loc s) (I0:FrOK X s.heap o p as F loc) (ha:as <+: as'') (h:(mu''.take as.length).all (MObj.okB as.length)=true) :
    Inv X s₀ o p as (mu''.take as.length) F loc s:=by
  have hle:as.length≤mu''.length:=by rw [← I.len]; exact ha.length_le
  have sub:(X.tab::(F.own++cw as (mu''.take as.length))).Sublist (X.tab::(F.own++cw as'' mu'')):=(List.Sublist.append_left (ze ha hle) _).cons_cons _
  refine ⟨I.sh,I.base,I.ple,I.ole,I.dj,by rw [List.length_take]; omega,fun i q m e f=>?_,sub.nodup I.nodup,fun a k=>I.out a (sub.subset k),I0,I.tb⟩
  have hi:i < as.length:=(List.getElem?_eq_some_iff.mp e).1
  have ok:m.okB as.length=true:=List.all_eq_true.mp h m (List.mem_of_getElem? f)
  rw [List.getElem?_take_of_lt hi] at f
  have r:=I.mus i q m (pJ ha e) f
  cases m with
  | list xs=>obtain ⟨vs,n,a,b⟩:=r; exact ⟨vs,n,a,b.cut ha ok⟩
  | sdict ks xs=>obtain ⟨a0,kvs,a,b,c⟩:=r; exact ⟨a0,kvs,a,b,c.cut ha ok⟩
  | idict ks=>exact r
  | spots b=>exact r
  | inst c fs xs=>obtain ⟨es,n,a,b,c,d⟩:=r; exact ⟨es,n,a,b,c,d.cut ha ok⟩
  | frz d=>exact r
end
end Mine.Internal
namespace Mine.Internal
section
variable {X:Amb} {s₀ s:Shared} {o p:aE} {as:As} {mu:Mu} {F:Fm} {loc:ag}
theorem ot {α β:Type}:∀ {l:List α} {m:List β},l.length≤m.length→(l.zip m).map (·.1)=l
  | [],_,_=>rfl
  | x::l,[],h=>by simp at h
  | x::l,y::m,h=>by simp [ot (l:=l) (m:=m) (by simpa using h)]
theorem sA {α β:Type}:∀ {l:List α} {m:List β} {i:Nat} {x:α} {y:β},l[i]? = some x→m[i]? = some y→(x,y) ∈ l.zip m
  | a::l,b::m,0,x,y,e,f=>by simp at e f; subst e; subst f; simp
  | a::l,b::m,i+1,x,y,e,f=>List.mem_cons_of_mem _ (sA (by simpa using e) (by simpa using f))
  | [],_,_,_,_,e,_=>by simp at e
  | _::_,[],_,_,_,_,f=>by simp at f
noncomputable def fU (fz:List Str) (cells:List (Str × Addr)):List Addr:=(cells.filter fun c=>decide (c.1 ∈ fz)).map (·.2)
noncomputable def pt (fz:List Str) (cells:List (Str × Addr)):List Addr:=(cells.filter fun c=>decide (c.1 ∉ fz)).map (·.2)
theorem mq {fz:List Str} {cells:List (Str × Addr)} {y:Str} {c:Addr} (h:(y,c) ∈ cells) (k:y ∈ fz):c ∈ fU fz cells:=List.mem_map.mpr ⟨(y,c),List.mem_filter.mpr ⟨h,decide_eq_true k⟩,rfl⟩
theorem kR {fz:List Str} {cells:List (Str × Addr)} {y:Str} {c:Addr} (h:(y,c) ∈ cells) (k:y ∉ fz):c ∈ pt fz cells:=List.mem_map.mpr ⟨(y,c),List.mem_filter.mpr ⟨h,decide_eq_true k⟩,rfl⟩
noncomputable def yo (p:aE) (l:List Addr) (h:Heap):aE:=fun a=>if a ∈ l then h.get? a else p a
theorem zU {prog:Program} {w:World} {A:Around} {R:Result→Shared→Prop} {d:FDef} {a:Addr} {fd:FuncData} {body:List Stmt} {vs:List Val} {us:List Value}
    (hX:X.H₀.NoLimit) (K:FnOK X d a fd body) (hr:A.depth < recursionLimit) (I:Inv X s₀ o p as mu F loc s) (hv:VRels X p as vs us) (h1:vs.length≤d.params) (h2:d.params - vs.length≤d.dflts.length)
    (h:∀ F' p' s',F'.names=d.strs→F'.env.scope=fd.scope→F'.wr=d.wr.map Str.ofString→F'.fz=d.fz.map Str.ofString→F'.env.code=fd.code→Sub p p' →
      Inv X s₀ (c7 o F.own s.heap) p' as mu F' ((vs++((d.dflts.drop (d.dflts.length - (d.params - vs.length))).map Val.d)).map some++List.replicate (d.names.length - d.params) none) s' →
      wpAny (model prog w) (A.deeper F'.env) (execs body F'.env) (fun f s''=>R (.ok (.ret (match f with | .ret v=>v | _=>.none))) s'') (fun Z Z=>False) s') :
    codeAny (model prog w) A (.call (.ref a) ⟨us,[]⟩) R s:=by
  obtain ⟨ob,ho,hdat⟩:=K.at_
  have keep:∀ b ob,X.H₀.get? b=some ob→s.heap.get? b=some ob:=fun b ob e=>I.ple _ _ (I.base _ _ e)
  have lu:=hv.length
  obtain ⟨ds,hds,hb⟩:=K.bind s us keep (by exact yF h1 lu) (by exact H7 h2 lu)
  have hargs:VRels X p as (vs++((d.dflts.drop (d.dflts.length - (d.params - vs.length))).map Val.d)) (us++ds):=by
    rw [lu]; exact hv.append (VRels.ofD (hds.mono I.base))
  have lds:(d.dflts.drop (d.dflts.length - (d.params - us.length))).length=ds.length:=hds.length
  have la:(us++ds).length=d.params:=by rw [List.length_append,← lds,List.length_drop]; exact Ib h1 h2 lu
  have lar:d.args.length=d.params:=by unfold FDef.args FDef.strs; rw [List.length_take,List.length_map]; exact Nat.min_eq_left K.pars
  have ndA:d.args.Nodup:=(List.take_sublist _ _).nodup K.nodup
  have keys:(d.args.zip (us++ds)).map (·.1)=d.args:=ot (by omega)
  have hkind:∀ x ∈ d.args.zip (us++ds),fd.scope.names.lookup x.1=some .local∨(fd.scope.names.lookup x.1=some .cell∧((cellsFrom (s.heap.objs.size+1) fd.scope.names []).lookup x.1).isSome=true):=fun x hx=>by
    have:x.1 ∈ d.args:=by rw [← keys]; exact List.mem_map_of_mem hx
    rcases K.kinds _ this with k | k
    · exact .inl k
    · exact .inr ⟨k,cellsFrom_some _ _ _ (.inl k)⟩
  refine codeAny_call_function hr (keep _ _ ho) hdat K.co K.gen K.body (K.code.keeps keep) (hb _ _ _ _ ?_)
  rw [K.clos]
  refine wpAny_newFunctionEnv_cells K.kind hkind fun env he s' x=>?_
  have hk₁:=x.toInCall.keep
  refine ⟨hX.keeps fun b ob e=>hk₁ b ob (keep b ob e),codeAny_func ?_⟩
  obtain ⟨h₁,tk,rfl,_⟩:=x.done
  have cnd:(env.cells.map (·.1)).Nodup:=by
    rw [he]
    exact cellsFrom_names fd.scope.names 0 (s.heap.objs.size+1) [] [] rfl ▸ K.cnd
  have esc:env.scope=fd.scope:=by rw [he]; rfl
  have eL:env.locals=s.heap.objs.size:=by rw [he]; rfl
  have eC:env.code=fd.code:=by rw [he]; rfl
  have eQ:env.qual=fd.qualname ++ ".<locals>." := by rw [he]; rfl
  have eG:env.globals=mainGlobals:=by rw [he]; exact K.glob
  have eB:env.builtins=builtinsNs:=by rw [he]; exact K.bltn
  have ec:env.cells=cellsFrom (s.heap.objs.size+1) fd.scope.names []:=by rw [he]; rfl
  have lk:∀ {n:Str} {c:Addr},(n,c) ∈ env.cells→env.cells.lookup n=some c:=fun hm=>lookup_of_mem_nodup cnd hm
  have ab:=x.above
  rw [eL] at ab
  have cAt:∀ {n:Str} {c:Addr},(n,c) ∈ env.cells→h₁.IsCell c (bindC env.kindOf (d.args.zip (us++ds)) (fun Z=>none) n):=fun hm=>x.cell _ _ (lk hm)
  let fz:=d.fz.map Str.ofString
  have mfz:∀ {c:Addr},c ∈ fU fz env.cells→∃ n,(n,c) ∈ env.cells∧n ∈ fz:=fun hc=>by
    refine xe1 (List.mem_map.mp hc) fun q r_=>aN r_ fun hq e2_=>?_
    subst e2_
    have:=List.mem_filter.mp hq
    exact ⟨q.1,this.1,of_decide_eq_true this.2⟩
  have mno:∀ {c:Addr},c ∈ pt fz env.cells→∃ n,(n,c) ∈ env.cells∧n ∉ fz:=fun hc=>by
    refine xe1 (List.mem_map.mp hc) fun q r_=>aN r_ fun hq e2_=>?_
    subst e2_
    have:=List.mem_filter.mp hq
    exact ⟨q.1,this.1,of_decide_eq_true this.2⟩
  have up:∀ {c:Addr},s.heap.objs.size≤c→p c=none∧c7 o F.own s.heap c=none∧c ∉ X.tab::(F.own++cw as mu):=fun hc=>by
    obtain ⟨a1,a2,a3⟩:=I.fresh_of hc
    exact ⟨a1,by rw [ch fun k=>a3 (List.mem_cons_of_mem _ (List.mem_append_left _ k))]; exact a2,a3⟩
  have cUp:∀ {n:Str} {c:Addr},(n,c) ∈ env.cells→s.heap.objs.size≤c:=fun hm=>Nat.le_of_lt (ab _ _ hm)
  let p':=yo p (fU fz env.cells) h₁
  have hp:Sub p p':=fun c ob e=>by
    show (if c ∈ fU fz env.cells then _ else _)=_
    rw [if_neg fun k=>by obtain ⟨n,hm,_⟩:=mfz k; rw [(up (cUp hm)).1] at e; cases e]; exact e
  have held_lt:∀ {c:Addr} {ob:Obj},c7 o F.own s.heap c=some ob→s.heap.get? c=some ob:=fun {c ob} e=>by
    by_cases k:c ∈ F.own
    · rw [dv k] at e; exact e
    · rw [ch k] at e; exact I.ole _ _ e
  have apartN:∀ {n n':Str} {c:Addr},(n,c) ∈ env.cells→(n',c) ∈ env.cells→n=n':=fun a b=>name_of_addr x.apart a b
  let F':Fm:=⟨env,s.heap.objs.size::pt fz env.cells,d.strs,d.wr.map Str.ofString,fz⟩
  have own_up:∀ c ∈ F'.own,s.heap.objs.size≤c:=fun c hc=>by
    rcases List.mem_cons.mp hc with rfl | hc
    · exact Nat.le_refl _
    · obtain ⟨n,hm,_⟩:=mno hc; exact cUp hm
  have pdis:∀ c ∈ F'.own,p' c=none:=fun c hc=>by
    show (if c ∈ fU fz env.cells then _ else _)=_
    rw [if_neg fun k=>?_]
    · exact (up (own_up c hc)).1
    · obtain ⟨n,hm,hn⟩:=mfz k
      rcases List.mem_cons.mp hc with rfl | hc
      · exact absurd (ab _ _ hm) (Nat.lt_irrefl _)
      · obtain ⟨n',hm',hn'⟩:=mno hc
        exact hn' (apartN hm hm' ▸ hn)
  refine wpAny_mono (h F' p' _ rfl esc rfl rfl eC hp ⟨?_,I.base.trans hp,fun c ob e=>?_,fun c ob e=>hk₁ _ _ (held_lt e),fun c e=>?_,I.len,fun i q m e f=>(I.mus i q m e f).mono hp (List.prefix_refl _) fun c Z ob e=>hk₁ c ob e,?_,fun c hc=>?_,?_,?_⟩) (fun Z Z z=>z) (fun Z Z z=>z.elim)
  · obtain ⟨tk₀,e⟩:=I.sh
    exact ⟨tk,by rw [e]⟩
  · have e:(if c ∈ fU fz env.cells then h₁.get? c else p c)=some ob:=e
    split at e
    · exact e
    · exact hk₁ _ _ (I.ple _ _ e)
  · refine xe1 (Option.isSome_iff_exists.mp e) fun ob e=>?_
    have e:(if c ∈ fU fz env.cells then h₁.get? c else p c)=some ob:=e
    split at e
    · rename_i k; obtain ⟨n,hm,_⟩:=mfz k; exact (up (cUp hm)).2.1
    · have z:=I.dj c (by rw [e]; rfl)
      by_cases k:c ∈ F.own
      · have:=(I.out c (List.mem_cons_of_mem _ (List.mem_append_left _ k))).1
        rw [e] at this; exact nS this.symm
      · rw [ch k]; exact z
  · refine List.nodup_cons.mpr ⟨fun k=>?_,List.nodup_append.mpr ⟨List.nodup_cons.mpr ⟨fun k=>?_,?_⟩,I.nd_owns,fun c k c' k' q=>?_⟩⟩
    · rcases List.mem_append.mp k with k | k
      · exact (up (own_up _ k)).2.2 (.head _)
      · exact I.tab_owns k
    · obtain ⟨n,hm,_⟩:=mno k
      exact absurd (ab _ _ hm) (Nat.lt_irrefl _)
    · have:=x.apart
      refine List.Pairwise.map _ (fun Z Z h=>h) (List.Pairwise.filter _ ?_)
      exact this
    · subst q
      exact (up (own_up _ k)).2.2 (List.mem_cons_of_mem _ (List.mem_append_right _ k'))
  · rcases List.mem_cons.mp hc with rfl | hc
    · obtain ⟨a1,a2,ob,a3⟩:=I.out X.tab (.head _)
      refine ⟨?_,by rw [ch I.tab_own]; exact a2,ob,hk₁ _ _ a3⟩
      show (if X.tab ∈ fU fz env.cells then _ else _)=_
      rw [if_neg fun k=>?_]
      · exact a1
      · obtain ⟨n,hm,_⟩:=mfz k; exact (up (cUp hm)).2.2 (.head _)
    · rcases List.mem_append.mp hc with hc | hc
      · refine ⟨pdis c hc,(up (own_up c hc)).2.1,?_⟩
        rcases List.mem_cons.mp hc with rfl | hc
        · have:=x.toInCall.ns
          rw [eL] at this
          obtain ⟨ob,_,_,e,_⟩:=this
          exact ⟨ob,e⟩
        · obtain ⟨n,hm,_⟩:=mno hc
          obtain ⟨ob,e,_⟩:=cAt hm
          exact ⟨ob,e⟩
      · obtain ⟨a1,a2,ob,a3⟩:=I.out c (List.mem_cons_of_mem _ (List.mem_append_right _ hc))
        refine ⟨?_,by rw [ch fun k=>I.own_owns k hc]; exact a2,ob,hk₁ _ _ a3⟩
        show (if c ∈ fU fz env.cells then _ else _)=_
        rw [if_neg fun k=>?_]
        · exact a1
        · obtain ⟨n,hm,_⟩:=mfz k; exact (up (cUp hm)).2.2 (List.mem_cons_of_mem _ (List.mem_append_right _ hc))
  · refine ⟨by rw [show F'.env.scope=fd.scope from esc]; exact K.kind,eG,eB,?_,K.nodup,K.plain,by show env.locals ∈ _; rw [eL]; exact .head _,⟨_,x.toInCall.ns,fun i y v hi hl kn=>?_⟩,fun y z c hy hz=>apartN (mem_of_lookup hy) (mem_of_lookup hz),fun y c hy=>?_,fun y c hy=>?_,fun y hy=>?_,fun y hy c hc=>?_,fun y hy=>?_,fun y hy=>?_⟩
    · have:=hargs.length
      simp only [List.length_append,List.length_map,List.length_replicate] at this ⊢
      rw [List.length_append] at la
      show _=d.strs.length
      unfold FDef.strs
      rw [List.length_map]
      have:=K.pars
      omega
    · have hL:(vs++((d.dflts.drop (d.dflts.length - (d.params - vs.length))).map Val.d)).length=d.params:=by rw [hargs.length]; exact la
      have hi':i < d.params:=by
        by_cases k:i < d.params
        · exact k
        · rw [List.getElem?_append_right (by rw [List.length_map,hL]; exact GH k)] at hl
          simp only [List.getElem?_replicate] at hl
          split at hl <;> cases hl
      rw [List.getElem?_append_left (by rw [List.length_map,hL]; exact hi'),List.getElem?_map] at hl
      refine bM hl fun v' hv' e'=>?_
      cases e'
      obtain ⟨u,hu,vr⟩:=hargs.get.2 i v hv'
      have ha:d.args[i]? = some y:=by unfold FDef.args; rw [List.getElem?_take_of_lt hi']; exact hi
      have hm:(y,u) ∈ d.args.zip (us++ds):=sA ha hu
      refine ⟨u,?_,vr.mono hp (List.prefix_refl _)⟩
      have nd2:((d.args.zip (us++ds)).map (·.1)).Nodup:=by rw [keys]; exact ndA
      by_cases k:env.kindOf y=some .local
      · exact .inl ⟨k,oH nd2 hm k⟩
      · rcases hkind _ hm with q | ⟨q,z⟩
        · exact absurd (show env.kindOf y=some .local by unfold Env.kindOf; rw [esc]; exact q) k
        · have q':env.kindOf y=some .cell:=by unfold Env.kindOf; rw [esc]; exact q
          refine xe1 (Option.isSome_iff_exists.mp z) fun c hc=>?_
          have hc:env.cells.lookup y=some c:=by rw [ec]; exact hc
          exact .inr ⟨.inl q',c,hc,by have:=cAt (mem_of_lookup hc); rw [oU nd2 hm k] at this; exact this⟩
    · show c ≠ env.locals
      rw [eL]; exact Nat.ne_of_gt (ab _ _ (mem_of_lookup hy))
    · refine ⟨⟨_,cAt (mem_of_lookup hy)⟩,?_⟩
      by_cases k:y ∈ fz
      · refine .inr (.inl ?_)
        obtain ⟨ob,e,_⟩:=cAt (mem_of_lookup hy)
        show (if c ∈ fU fz env.cells then _ else _:Option Obj).isSome=true
        rw [if_pos (mq (mem_of_lookup hy) k),e]; rfl
      · exact .inl (List.mem_cons_of_mem _ (kR (mem_of_lookup hy) k))
    · obtain ⟨q,nf⟩:=K.wr y hy
      have z:(env.cells.lookup y).isSome=true:=by rw [ec]; exact cellsFrom_some _ _ _ (.inl q)
      refine xe1 (Option.isSome_iff_exists.mp z) fun c hc=>?_
      exact ⟨c,by unfold Env.kindOf; rw [show F'.env.scope=fd.scope from esc]; exact q,hc,List.mem_cons_of_mem _ (kR (mem_of_lookup hc) nf)⟩
    · obtain ⟨ob,e,_⟩:=cAt (mem_of_lookup hc)
      show (if c ∈ fU fz env.cells then _ else _:Option Obj).isSome=true
      rw [if_pos (mq (mem_of_lookup hc) hy),e]; rfl
    · obtain ⟨q1,q2⟩:=K.lam y hy
      exact ⟨(show env.code=_ from eC).trans q1,by rw [show F'.env.qual=_ from eQ]; exact q2⟩
    · have hy':fd.scope.names.lookup y=some .cell∨fd.scope.names.lookup y=some .free:=by unfold Env.kindOf at hy; rw [show F'.env.scope=fd.scope from esc] at hy; exact hy
      rcases hy' with q | q
      · rw [show F'.env.cells=_ from ec]; exact cellsFrom_some _ _ _ (.inl q)
      · exact absurd rfl (K.nofree _ (mem_of_lookup q))
  · obtain ⟨ps,e,t⟩:=I.tb
    exact ⟨ps,hk₁ _ _ e,t.mono hp⟩
end
end Mine.Internal
namespace Mine.Internal
noncomputable def Fn.nm:Fn→String
  | .retargeted => "retargeted" | .copied => "copied" | .operandsOf => "operands_of" | .withOperands => "with_operands" | .isSmall => "is_small" | .movedPlace => "moved_place" | .movedOperand => "moved_operand"
  | .movedOperands => "moved_operands" | .movedRvalue => "moved_rvalue" | .movedStatement => "moved_statement" | .movedTerminator => "moved_terminator" | .calledKey => "called_key" | .inlined => "inlined"
  | .pool => "_law_pool" | .take => "_law_take" | .one => "_law_one" | .value => "_law_value" | .set => "_law_set" | .do_ => "_law_do" | .run => "_law_run" | .place => "_law_place" | .number => "_law_number"
  | .small => "_law_small" | .middle => "_law_middle" | .mainL => "_law_main" | .calls => "_law_calls" | .told => "_law_told" | .law => "law"
  | .put => "put" | .tellSpots => "tell_spots" | .putBlock => "put_block" | .initBody | .initCaller => "__init__"
noncomputable def Fn.isTop:Fn→Bool
  | .put | .tellSpots | .putBlock | .initBody | .initCaller=>false
  | _=>true
noncomputable def Fn.isMeth:Fn→Bool
  | .put | .tellSpots | .putBlock=>true
  | _=>false
noncomputable def Cls.nm:Cls→String
  | .body => "Body" | .caller => "Caller"
noncomputable def Bi.nm:Bi→String
  | .len => "len" | .max => "max" | .int => "int" | .sum => "sum" | .tuple => "tuple" | .dict => "dict" | .range => "range"
noncomputable def Bi.val:Bi→Value
  | .len=>.builtin "len" | .max=>.builtin "max" | .sum=>.builtin "sum" | .int=>.type "int" | .tuple=>.type "tuple" | .dict=>.type "dict" | .range=>.type "range"
noncomputable def Bop.op:Bop→Operator
  | .add=>.Add | .sub=>.Sub | .mul=>.Mult | .fdiv=>.FloorDiv | .mod=>.Mod | .pow=>.Pow | .xor=>.BitXor
noncomputable def Cop.op:Cop→CmpOp
  | .eq=>.Eq | .ne=>.NotEq | .lt=>.Lt | .gt=>.Gt | .ge=>.GtE | .le=>.LtE | .in_=>.In | .notIn=>.NotIn
noncomputable abbrev Kd:=Str→Option NameKind
noncomputable def KN (kd:Kd) (x:Str):Prop:=kd x=some .local∨kd x=some .cell∨kd x=some .free
noncomputable abbrev Gl (kd:Kd) (x:String):Prop:=kd (Str.ofString x)=some .globalImplicit
noncomputable abbrev cR (x:Expr):Prop:=(x.ctorIdx == 16)=false
noncomputable abbrev gv (x:Expr):Prop:=(x.ctorIdx == 26)=false
noncomputable abbrev bI (x:Expr):Prop:=(x.ctorIdx == 22)=false
noncomputable abbrev qo (x:Expr):Prop:=(x.ctorIdx == 8 || x.ctorIdx == 9 || x.ctorIdx == 10)=false
noncomputable abbrev tR (x:Expr):Prop:=(x.ctorIdx == 25)=false
noncomputable abbrev jT (x:Expr):Prop:=(x.ctorIdx == 7)=false
theorem iD {P:Prop} (h:true=false):P:=(Bool.noConfusion h)
noncomputable def cx (sc:Scope):Kd:=fun x=>sc.names.lookup x
noncomputable def MtTs (names:List Str) (ok:Str→Prop):List Nat→List Expr→Prop
  | [],l=>l=[]
  | i::is,l=>∃ x pos r,l=.Name x pos::r∧names[i]? = some x∧ok x∧MtTs names ok is r
noncomputable def MtT (names:List Str) (ok:Str→Prop):List Nat→Expr→Prop
  | [i],e=>∃ x pos,e=.Name x pos∧names[i]? = some x∧ok x
  | is,e=>∃ l k pos,e=.Tuple l k pos∧MtTs names ok is l
noncomputable def gM:List W→List (Option Expr)→Prop
  | [],l=>l=[]
  | w::ws,l=>∃ k pos r,l=some (.Constant (.str w.str) k pos)::r∧gM ws r
structure CompSc (sc:Scope) (kd:Kd) (names:List Str) (ts:List Nat):Prop where
  loc:∀ q ∈ names.zipIdx,sc.names.lookup q.1=some .local→q.2 ∈ ts
  kind:sc.kind=.function
  cell:∀ x ∈ sc.names,x.2 ≠ .cell
  one:∀ x ∈ sc.names,sc.names.lookup x.1=some x.2
  free:∀ x ∈ sc.names,x.2=.free→kd x.1=some .cell∨kd x.1=some .free
mutual
noncomputable def Mt (names:List Str):List Str→Kd→CE→Expr→Prop
  | fz,kd,.any,_=>True
  | fz,kd,.loc i,X=>∀ G:Expr→Prop,(∀ x pos,names[i]? = some x→KN kd x→G (.Name x pos))→G X
  | fz,kd,.byte,X=>∀ G:Expr→Prop,(∀ pos,Gl kd "_law_byte" → G (.Name (Str.ofString "_law_byte") pos))→G X
  | fz,kd,.int i,X=>∀ G:Expr→Prop,(∀ k pos,G (.Constant (.int i) k pos))→G X
  | fz,kd,.str w,X=>∀ G:Expr→Prop,(∀ s k pos,w.str=s→G (.Constant (.str s) k pos))→G X
  | fz,kd,.bool b,X=>∀ G:Expr→Prop,(∀ k pos,G (.Constant (.bool b) k pos))→G X
  | fz,kd,.none,X=>∀ G:Expr→Prop,(∀ k pos,G (.Constant .none k pos))→G X
  | fz,kd,.tup es,X=>∀ G:Expr→Prop,(∀ l k pos,MtL names fz kd es l→G (.Tuple l k pos))→G X
  | fz,kd,.list q es,X=>∀ G:Expr→Prop,(∀ l pos,MtL names fz kd es l→G (.List l pos))→G X
  | fz,kd,.bin q o a b,X=>∀ G:Expr→Prop,(∀ x y pos,Mt names fz kd a x→Mt names fz kd b y→G (.BinOp x o.op y pos))→G X
  | fz,kd,.neg a,X=>∀ G:Expr→Prop,(∀ x pos,Mt names fz kd a x→G (.UnaryOp .USub x pos))→G X
  | fz,kd,.cmp o a b,X=>∀ G:Expr→Prop,(∀ x y pos,jT y→Mt names fz kd a x→Mt names fz kd b y→G (.Compare x [o.op] [y] pos))→G X
  | fz,kd,.isN a,X=>∀ G:Expr→Prop,(∀ x k p pos,Mt names fz kd a x→G (.Compare x [.Is] [.Constant .none k p] pos))→G X
  | fz,kd,.notN a,X=>∀ G:Expr→Prop,(∀ x k p pos,Mt names fz kd a x→G (.Compare x [.IsNot] [.Constant .none k p] pos))→G X
  | fz,kd,.and es,X=>∀ G:Expr→Prop,(∀ l pos,MtL names fz kd es l→G (.BoolOp .And l pos))→G X
  | fz,kd,.or es,X=>∀ G:Expr→Prop,(∀ l pos,MtL names fz kd es l→G (.BoolOp .Or l pos))→G X
  | fz,kd,.not a,X=>∀ G:Expr→Prop,(∀ x pos,Mt names fz kd a x→G (.UnaryOp .Not x pos))→G X
  | fz,kd,.ifx t a b,X=>∀ G:Expr→Prop,(∀ x y z pos,Mt names fz kd t x→Mt names fz kd a y→Mt names fz kd b z→G (.IfExp x y z pos))→G X
  | fz,kd,.attr e f,X=>∀ G:Expr→Prop,(∀ x s pos,cR x→Mt names fz kd e x→Fld.str f=s→G (.Attribute x s pos))→G X
  | fz,kd,.sub e i,X=>∀ G:Expr→Prop,(∀ x y pos,gv y→Mt names fz kd e x→Mt names fz kd i y→G (.Subscript x y pos))→G X
  | fz,kd,.slo e lo,X=>∀ G:Expr→Prop,(∀ x y p pos,Mt names fz kd e x→Mt names fz kd lo y→G (.Subscript x (.Slice (some y) none none p) pos))→G X
  | fz,kd,.call f es,X=>∀ G:Expr→Prop,(∀ s p l pos,f.isTop=true→Str.ofString f.nm=s→kd s=some .globalImplicit→MtL names fz kd es l→G (.Call (.Name s p) l [] pos))→G X
  | fz,kd,.new c es,X=>∀ G:Expr→Prop,(∀ s p l pos,Str.ofString c.nm=s→kd s=some .globalImplicit→MtL names fz kd es l→G (.Call (.Name s p) l [] pos))→G X
  | fz,kd,.meth e f es,X=>∀ G:Expr→Prop,(∀ x s p l pos,cR x→l.length < 30→(p.endLine == pos.line)=true→f.isMeth=true→Str.ofString f.nm=s→Mt names fz kd e x→MtL names fz kd es l→G (.Call (.Attribute x s p) l [] pos))→G X
  | fz,kd,.bi b es,X=>∀ G:Expr→Prop,(∀ s p l pos,Str.ofString b.nm=s→kd s=some .globalImplicit→MtL names fz kd es l→G (.Call (.Name s p) l [] pos))→G X
  | fz,kd,.toList q e,X=>∀ G:Expr→Prop,(∀ x p pos,bI x→Gl kd "list" → Mt names fz kd e x→G (.Call (.Name (Str.ofString "list") p) [x] [] pos))→G X
  | fz,kd,.app e y,X=>∀ G:Expr→Prop,(∀ a b p pos,cR a→bI b→(p.endLine == pos.line)=true→Mt names fz kd e a→Mt names fz kd y b→G (.Call (.Attribute a (Str.ofString "append") p) [b] [] pos))→G X
  | fz,kd,.ext e y,X=>∀ G:Expr→Prop,(∀ a b p pos,cR a→bI b→(p.endLine == pos.line)=true→Mt names fz kd e a→Mt names fz kd y b→G (.Call (.Attribute a (Str.ofString "extend") p) [b] [] pos))→G X
  | fz,kd,.pop0 e,X=>∀ G:Expr→Prop,(∀ a k q p pos,cR a→(p.endLine == pos.line)=true→Mt names fz kd e a→G (.Call (.Attribute a (Str.ofString "pop") p) [.Constant (.int 0) k q] [] pos))→G X
  | fz,kd,.get e y,X=>∀ G:Expr→Prop,(∀ a b p pos,cR a→bI b→(p.endLine == pos.line)=true→Mt names fz kd e a→Mt names fz kd y b→G (.Call (.Attribute a (Str.ofString "get") p) [b] [] pos))→G X
  | fz,kd,.getd e y d,X=>∀ G:Expr→Prop,(∀ a b c p pos,cR a→bI b→bI c→(p.endLine == pos.line)=true→Mt names fz kd e a→Mt names fz kd y b→Mt names fz kd d c→G (.Call (.Attribute a (Str.ofString "get") p) [b,c] [] pos))→G X
  | fz,kd,.popd e y,X=>∀ G:Expr→Prop,(∀ a b k q p pos,cR a→bI b→(p.endLine == pos.line)=true→Mt names fz kd e a→Mt names fz kd y b→G (.Call (.Attribute a (Str.ofString "pop") p) [b,.Constant .none k q] [] pos))→G X
  | fz,kd,.comp q elt ts it,X=>∀ G:Expr→Prop,(∀ x t y sc pos,CompSc sc kd names ts→Mt names fz kd it y→MtT names (fun n=>cx sc n=some .local) ts t→Mt names [] (cx sc) elt x→G (.ListComp x [⟨t,y,[],0⟩] sc pos))→G X
  | fz,kd,.compif elt ts it c,X=>∀ G:Expr→Prop,(∀ x t y z sc pos,CompSc sc kd names ts→Mt names fz kd it y→MtT names (fun n=>cx sc n=some .local) ts t→Mt names [] (cx sc) elt x→Mt names [] (cx sc) c z→G (.ListComp x [⟨t,y,[z],0⟩] sc pos))→G X
  | fz,kd,.lam i,X=>∀ G:Expr→Prop,(∀ ps b sc pos,ca ∈ fz→LamOK ps b sc→ps.defaults=[]→ps.kw_defaults=[]→ps.kwonlyargs=[]→names[i]? = some ca→kd ca=some .cell→sc.names.lookup ca=some .free→(∀ x ∈ sc.names,x.2=.free→x.1=ca)→G (.Lambda ps b sc pos))→G X
  | fz,kd,.callv i y,X=>∀ G:Expr→Prop,(∀ s b p pos,bI b→names[i]? = some s→KN kd s→Mt names fz kd y b→G (.Call (.Name s p) [b] [] pos))→G X
  | fz,kd,.emptyI,X=>∀ G:Expr→Prop,(∀ pos,G (.Dict [] [] pos))→G X
  | fz,kd,.emptyP,X=>∀ G:Expr→Prop,(∀ pos,G (.Dict [] [] pos))→G X
  | fz,kd,.sdisp fr ws es,X=>∀ G:Expr→Prop,(∀ ks l pos,gM ws ks→MtL names fz kd es l→G (.Dict ks l pos))→G X
  | fz,kd,.frz e,X=>Mt names fz kd e X
noncomputable def MtL (names:List Str):List Str→Kd→CEs→List Expr→Prop
  | fz,kd,.nil,l=>∀ G:List Expr→Prop,G []→G l
  | fz,kd,.cons e r,l=>∀ G:List Expr→Prop,(∀ x l,bI x→Mt names fz kd e x→MtL names fz kd r l→G (x::l))→G l
end
mutual
noncomputable def Ez (names wr fz:List Str) (kd:Kd):CS→Stmt→Prop
  | .any,_=>True
  | .asg i e,X=>∀ G:Stmt→Prop,(∀ n q x pos,names[i]? = some n→(kd n=some .local∨n ∈ wr)→Mt names fz kd e x→G (.Assign [.Name n q] x pos))→G X
  | .unp is e,X=>∀ G:Stmt→Prop,(∀ l k q x pos,tR x→MtTs names (fun n=>kd n=some .local∨n ∈ wr) is l→Mt names fz kd e x→G (.Assign [.Tuple l k q] x pos))→G X
  | .multi is es,X=>∀ G:Stmt→Prop,(∀ l k q l' k' q' pos,MtTs names (fun n=>kd n=some .local∨n ∈ wr) is l→l'.all (constantsAlone 8)=false→MtL names fz kd es l'→G (.Assign [.Tuple l k q] (.Tuple l' k' q') pos))→G X
  | .sett o i v,X=>∀ G:Stmt→Prop,(∀ x y z q pos,gv y→Mt names fz kd o x→Mt names fz kd i y→Mt names fz kd v z→G (.Assign [.Subscript x y q] z pos))→G X
  | .seta o f v,X=>∀ G:Stmt→Prop,(∀ x s z q pos,Mt names fz kd o x→Fld.str f=s→Mt names fz kd v z→G (.Assign [.Attribute x s q] z pos))→G X
  | .ifs c a b,X=>∀ G:Stmt→Prop,(∀ x l l' pos,Mt names fz kd c x→fB names wr fz kd a l→fB names wr fz kd b l'→G (.If x l l' pos))→G X
  | .ret e,X=>∀ G:Stmt→Prop,(∀ x pos,Mt names fz kd e x→G (.Return (some x) pos))→(∀ pos,e=.none→G (.Return none pos))→G X
  | .expr e,X=>∀ G:Stmt→Prop,(∀ x pos,qo x→Mt names fz kd e x→G (.Expr x pos))→G X
  | .for_ ts it b,X=>∀ G:Stmt→Prop,(∀ t x l pos,MtT names (fun n=>kd n=some .local∨n ∈ wr) ts t→Mt names fz kd it x→fB names wr fz kd b l→G (.For t x l [] pos))→G X
  | .forEnum i j it b,X=>∀ G:Stmt→Prop,(∀ t x l p q pos,MtT names (fun n=>kd n=some .local∨n ∈ wr) [i,j] t→Gl kd "enumerate" → Mt names fz kd it x→fB names wr fz kd b l→G (.For t (.Call (.Name (Str.ofString "enumerate") p) [x] [] q) l [] pos))→G X
noncomputable def fB (names wr fz:List Str) (kd:Kd):CSs→List Stmt→Prop
  | .nil,l=>∀ G:List Stmt→Prop,G []→G l
  | .cons s r,l=>∀ G:List Stmt→Prop,(∀ x l,Ez names wr fz kd s x→fB names wr fz kd r l→G (x::l))→G l
end
end Mine.Internal
namespace Mine.Internal
noncomputable abbrev Cy (x:Expr):Prop:=(x.ctorIdx == 9 || x.ctorIdx == 10)=false
noncomputable abbrev BE (x:Expr):Prop:=(x.ctorIdx == 8)=false
noncomputable def Solid (x:Expr):Prop:=jT x∧bI x∧Cy x
theorem Solid.of {x:Expr} (a:jT x) (b:bI x) (c:Cy x):Solid x:=⟨a,b,c⟩
noncomputable def fd:CE→Nat
  | .frz a=>fd a+1
  | _=>0
noncomputable def cidx:CE→Nat
  | .any | .frz _=>100
  | .loc _ | .byte=>23
  | .int _ | .str _ | .bool _ | .none=>19
  | .tup _=>25
  | .list .. => 24
  | .bin .. => 2
  | .neg _ | .not _=>3
  | .cmp .. | .isN _ | .notN _=>15
  | .and _ | .or _=>0
  | .ifx .. => 5
  | .attr .. => 20
  | .sub .. | .slo .. => 21
  | .comp .. | .compif .. => 8
  | .lam _=>4
  | .emptyI | .emptyP | .sdisp .. => 6
  | _=>16
noncomputable abbrev F1 (e:CE):Bool:=cidx e == 100
noncomputable abbrev Bx (e:CE):Bool:=cidx e == 100 || cidx e == 8
noncomputable def EY (e:CE):Bool:=!(cidx e == 100 || (cidx e == 0 || cidx e == 3 || cidx e == 5 || cidx e == 15))
noncomputable abbrev m8 (x:Expr):Prop:=(x.ctorIdx == 0 || x.ctorIdx == 3 || x.ctorIdx == 5 || x.ctorIdx == 15)=false
theorem sK {names fz:List Str} {kd:Kd} {e:CE} {x:Expr} (h:Mt names fz kd e x):F1 e=false→x.ctorIdx=cidx e:=by
  cases e <;> first | (refine h (fun x=>_→x.ctorIdx=_) ?_; intros; rfl) | exact fun hp=>(iD hp)
theorem DL (e:CE):(cidx e == 7 || cidx e == 22 || cidx e == 9 || cidx e == 10)=false:=by cases e <;> rfl
theorem zM {names fz:List Str} {kd:Kd} {e:CE} {x:Expr} (h:Mt names fz kd e x) (hp:F1 e=false):Solid x:=by
  have:=DL e
  rw [← sK h hp,Bool.or_assoc,Bool.or_assoc,Bool.or_eq_false_iff,Bool.or_eq_false_iff] at this
  exact ⟨this.1,this.2.1,this.2.2⟩
theorem sM {names fz:List Str} {kd:Kd} {e:CE} {x:Expr} (h:Mt names fz kd e x) (hp:Bx e=false):BE x:=by
  have hp:=(Bool.or_eq_false_iff.mp hp)
  unfold BE; rw [sK h hp.1]; exact hp.2
theorem zZ {names fz:List Str} {kd:Kd} {e:CE} {x:Expr} (h:Mt names fz kd e x) (hp:EY e=true):m8 x:=by
  have hp:=Bool.or_eq_false_iff.mp (Eq.mp (Bool.not_eq_true' _) hp)
  unfold m8; rw [sK h hp.1]; exact hp.2
end Mine.Internal
namespace Mine.Internal
theorem yT:fillsNumberSlot (.type "tuple") "mul" = pure false :=
  PySem.fillsNumberSlot_seq (id := "tuple.__mul__") (r:=some (.builtin "tuple.__rmul__")) F.slot_tuple_mul.lookup (by decide +kernel) F.slot_tuple_rmul.lookup (by decide +kernel)
theorem xI:seqRepeat? (.type "tuple")=pure (some (.builtin "tuple.__mul__")):=by
  unfold seqRepeat?
  rw [PySem.seqSlot_of (T := "tuple") (name := "__mul__") (id := "tuple.__mul__") F.slot_tuple_mul.lookup (by decide +kernel),PySem.seqSlot_of (T := "tuple") (name := "__rmul__") (id := "tuple.__rmul__") F.slot_tuple_rmul.lookup (by decide +kernel)]
  rfl
theorem uz (a:Int) (t:Tok) (l:Addr) (items:Array Value) (n:Nat) :
    Meets (Builtin.«int.__rmul__» ⟨[.int a t,.ref l],[]⟩) (fun Z R s=>s.heap.get? l=some (d7 items n)∧R (.ok (.ret Value.notImplemented)) s) :=
  .of_wp fun prog w A R s h=>by obtain ⟨hp,g,d,tk,os⟩:=s; obtain ⟨hl,h⟩:=h; wp_walk; exact ⟨_,rfl,h⟩
theorem Go (l:Addr) (v:Value) (n:Nat) (u:Tok) :
    Meets (Builtin.«tuple.__mul__» ⟨[.ref l,.int 2 u],[]⟩) (fun Z R s=>s.heap.get? l=some (d7 #[v] n)∧R (.ok (.ret (Value.ref s.heap.objs.size))) { s with heap:=s.heap.push (d7 #[v,v] 0) }) :=
  .of_wp fun prog w A R s h=>by
    obtain ⟨hp,g,d,tk,os⟩:=s; obtain ⟨hl,h⟩:=h
    wp_walk
    repeat (first | rw [if_neg (by decide)] | rw [if_neg (by simp)] | refine wpAny_bind ?_)
    exact ⟨_,rfl,h⟩
theorem DJ {prog:Program} {w:World} {A:Around} {E:Value→Shared→Prop} {s:Shared} {l:Addr} {v:Value} {n:Nat} {u:Tok} {Q:Value→Shared→Prop} (ho:s.heap.get? l=some (d7 #[v] n))
    (h:Q (.ref s.heap.objs.size) { s with heap:=s.heap.push (d7 #[v,v] 0) }):wpAny (model prog w) A (binaryOp .Mult (.ref l) (.int 2 u)) Q E s :=
  wpAny_binaryOp_repeat_ref (T := "tuple") (U := "int") (by decide) ⟨_,ho,rfl⟩ (fun s'=>typeIs_int s' 2 u) yT F.fills_int_mul F.slot_int_rmul xI F.slot_int_index.lookup
    (call_meets F.slot_int_rmul (typeIs_int s 2 u) F.entry_int_rmul (F.args_int_rmul_2 _ _) (uz 2 u l _ n)
      ⟨ho,rfl,⟨_,ho,rfl⟩,call_meets F.slot_tuple_mul ⟨_,ho,rfl⟩ F.entry_tuple_mul (F.args_tuple_mul_2 _ _) (Go l v n u) ⟨ho,h⟩⟩)
theorem Dv {prog:Program} {w:World} {A:Around} {E:Value→Shared→Prop} {s:Shared} {l:Addr} {vs:Array Value} {n:Nat} {x:Int} {u:Tok} {Q:Value→Shared→Prop} (ho:s.heap.get? l=some (listOf vs n)) (h0:0≤x) (h8:x≤8) (hz:vs.size≤1048576)
    (h:Q (.ref s.heap.objs.size) { s with heap:=s.heap.push (listOf (List.replicate x.toNat vs.toList).flatten.toArray 0) }):wpAny (model prog w) A (binaryOp .Mult (.ref l) (.int x u)) Q E s:=by
  have hsz:vs.size * x.toNat≤2 ^ 24:=Nat.le_trans (Nat.mul_le_mul hz (show x.toNat≤8 by omega)) (by decide)
  refine wpAny_binaryOp_repeat_ref (T := "list") (U := "int") (by decide) ⟨_,ho,rfl⟩ (fun s'=>typeIs_int s' x u) noFill_list_mul F.fills_int_mul F.slot_int_rmul repeat_list F.slot_int_index.lookup
    (call_meets F.slot_int_rmul (typeIs_int s x u) F.entry_int_rmul (F.args_int_rmul_2 _ _) (lm_int_rmul_list_any x u l vs n none #[])
      ⟨ho,rfl,⟨_,ho,rfl⟩,call_meets F.slot_list_mul ⟨_,ho,rfl⟩ F.entry_list_mul (F.args_list_mul_2 _ _)
        (lm_list_mul_any l vs n none #[] x u (by simp [Builtin.List.listFitsIndex]; omega) (by omega) (by simp [Builtin.List.listTooLong,sizeLine]; exact hsz))
        ⟨ho,?_⟩⟩)
  rw [listMul_foldl_if]
  exact h
section
variable {X:Amb} {s₀ s:Shared} {o p:aE} {as:As} {mu mu':Mu} {F:Fm} {loc:ag} {A:Around} {E:Value→Shared→Prop} {Q:Value→Shared→Prop}
noncomputable abbrev Kv (X:Amb) (s₀:Shared) (o p:aE) (as:As) (mu':Mu) (F:Fm) (loc:ag) (Q:Value→Shared→Prop) (v:Val):Prop :=
  ∀ p' as' s' u,Sub p p'→as <+: as'→Inv X s₀ o p' as' mu' F loc s'→VRel X p' as' v u→Q u s'
theorem Kv.here {v:Val} {u:Value} {t:Nat} (K:Kv X s₀ o p as mu' F loc Q v) (I:Inv X s₀ o p as mu' F loc s) (r:VRel X p as v u):Q u { s with toks:=t }:=K p as _ u Sub.refl (List.prefix_refl _) (I.tok t) r
theorem Kv.now {v:Val} {u:Value} (K:Kv X s₀ o p as mu' F loc Q v) (I:Inv X s₀ o p as mu' F loc s) (r:VRel X p as v u):Q u s:=K p as _ u Sub.refl (List.prefix_refl _) I r
theorem Kv.mono {p₁:aE} {as₁:As} {v:Val} (K:Kv X s₀ o p as mu' F loc Q v) (hp:Sub p p₁) (ha:as <+: as₁):Kv X s₀ o p₁ as₁ mu' F loc Q v :=
  fun p' as' s' u a b c d=>K p' as' s' u (hp.trans a) (ha.trans b) c d
theorem Kv.eqP {v v':Val} {m:Mu} (K:Kv X s₀ o p as mu' F loc Q v') (h:(v,m)=(v',mu')):Kv X s₀ o p as m F loc Q v:=by cases h; exact K
theorem Kv.eqS {v v':Val} {m:Mu} (K:Kv X s₀ o p as mu' F loc Q v') (h:some (v,m)=some (v',mu')):Kv X s₀ o p as m F loc Q v:=by cases h; exact K
theorem ek {i:Int} {t:Tok}:VRel X p as (.d (.int i)) (.int i t):=by show DRel X p (.int i) _; rw [te]; exact ⟨t,rfl⟩
theorem dq {b:Bool}:VRel X p as (.d (.bool b)) (.bool b):=by show DRel X p (.bool b) _; rw [Ij]
theorem hU:VRel X p as (.d .none) .none:=by show DRel X p .none _; rw [H2]
theorem GA {w:W} {t:Tok}:VRel X p as (.d (.str w)) (.str w.str t):=by show DRel X p (.str w) _; rw [Im]; exact ⟨t,rfl⟩
theorem cP {i:Int} {u:Value} (r:VRel X p as (.d (.int i)) u):∃ t,u=.int i t:=r
theorem iU {b:Bool} {u:Value} (r:VRel X p as (.d (.bool b)) u):u=.bool b:=r
theorem uI {u:Value} (r:VRel X p as (.d .none) u):u=.none:=r
theorem t6 {w:W} {u:Value} (r:VRel X p as (.d (.str w)) u):∃ t,u=.str w.str t:=r
theorem fR {xs:List Dat} {u:Value} (r:VRel X p as (.d (.tup xs)) u):RSeq d7 p (DRels X p xs) u:=r
theorem iw {xs:List Dat} {u:Value} (r:VRel X p as (.d (.lst xs)) u):RSeq listOf p (DRels X p xs) u:=r
theorem jJ (I:Inv X s₀ o p as mu F loc s) {v:Val} {u:Value} {xs:List Val} (e:f9 mu v=some xs) (r:VRel X p as v u):RSeq listOf s.heap.get? (VRels X p as xs) u:=by
  cases v with
  | d x =>
    refine xe1 (gc (show (vL (.d x)).map (fun xs=>xs.map Val.d)=some xs from e)) fun ds r_=>aN r_ fun h e2_=>?_
    rw [← e2_]
    cases tU h
    refine RSeq.el (iw r) fun a vs n e3_ h k=>?_
    rw [e3_]
    exact ⟨a,vs,n,rfl,I.ple _ _ h,.ofD k⟩
  | r k =>
    have h:=kz (show (mu[k]?).bind oL=some xs from e)
    obtain ⟨q,hq,rfl⟩:=r
    obtain ⟨vs,n,h1,h2⟩:=I.mus _ _ _ hq h
    exact ⟨q.1,vs,n,rfl,h1,h2⟩
  | clo k=>exact nS (show none=some xs from e)
theorem qx {q:Bool} {xs:List Val} {v:Val} {vs:List Value} {n:Nat} {t:Nat} (e:cy q mu xs (bN xs)=some (v,mu')) (I:Inv X s₀ o p as mu F loc s) (r:VRels X p as xs vs) (K:Kv X s₀ o p as mu' F loc Q v) :
    Q (.ref s.heap.objs.size) { s with heap:=s.heap.push (listOf vs.toArray n),toks:=t }:=by
  unfold cy at e
  split at e
  · cases q with
    | true =>
      (refine dx e fun h1_ h2_=>?_; subst h1_; subst h2_)
      have I':=I.pushM (m:=.list xs) (listOf vs.toArray n) rfl rfl ⟨vs.toArray,n,Heap.get?_push_size _ rfl,by simpa using r.mono Sub.refl (List.prefix_append _ _)⟩
      exact K _ _ _ _ Sub.refl (List.prefix_append _ _) (I'.tok t) ⟨_,by rw [← I.len]; exact List.getElem?_concat_length ..,rfl⟩
    | false =>
      refine bM e fun ds e1 e2=>?_
      clear e
      (refine eJ e2 fun h1_ h2_=>?_; subst h1_; subst h2_)
      have I':=I.pushP (listOf vs.toArray n) rfl
      refine K _ _ _ _ (Sub.put1 I.fresh_p) (List.prefix_refl _) (I'.tok t) ?_
      show DRel X _ (.lst ds) _
      rw [yx]
      exact ⟨_,vs.toArray,n,rfl,b8,by simpa using (VRels.toD e1 r).mono (Sub.put1 I.fresh_p)⟩
  · exact nS e
theorem j1 {q:Bool} {xs:List Val} {v:Val} (e:cy q mu xs (bN xs)=some (v,mu')):xs.length≤lim:=by
  unfold cy at e
  split at e
  · assumption
  · exact nS e
theorem m6 {ds:List Dat} {v:Val} {vs:Array Value} {n:Nat} {t:Nat} (e:(gu ds).map (·,mu)=some (v,mu')) (I:Inv X s₀ o p as mu F loc s) (r:DRels X p ds vs.toList) (K:Kv X s₀ o p as mu' F loc Q v) :
    Q (.ref s.heap.objs.size) { s with heap:=s.heap.push (d7 vs n),toks:=t }:=by
  refine bM e fun v' e1 e2=>?_
  clear e
  (refine eJ e2 fun h1_ h2_=>?_; subst h1_; subst h2_)
  unfold gu at e1
  split at e1
  · (replace e1:=iS e1; subst e1)
    have I':=I.pushP (d7 vs n) rfl
    refine K _ _ _ _ (Sub.put1 I.fresh_p) (List.prefix_refl _) (I'.tok t) ?_
    show DRel X _ (.tup ds) _
    rw [Id]
    exact ⟨_,vs,n,rfl,b8,r.mono (Sub.put1 I.fresh_p)⟩
  · exact nS e1
theorem nj {ds:List Dat} {v:Val} (e:(gu ds).map (·,mu)=some (v,mu')):ds.length≤lim:=by
  refine bM e fun v' e1 e2=>?_
  clear e
  unfold gu at e1
  split at e1
  · assumption
  · exact nS e1
end
end Mine.Internal
namespace Mine.Internal
section
variable {X:Amb} {s₀ s:Shared} {o p:aE} {as:As} {mu mu':Mu} {F:Fm} {loc:ag} {A:Around} {E:Value→Shared→Prop} {Q:Value→Shared→Prop}
theorem fu {n:Nat} (h:n≤lim):n≤sizeLine:=by rw [sizeLine_eq]; unfold lim at h; exact lb h rfl
theorem we {b:Int} (h:b.natAbs < 2 ^ 64):Builtin.Int.intBits b≤64:=by
  unfold Builtin.Int.intBits
  split
  · exact Nat.le_add_left _ _
  · rename_i h0
    have:b.natAbs.log2 < 64:=(Nat.log2_lt (by simpa using h0)).mpr h
    exact this
theorem Da {q:Bool} {a v:Val} {n:Int} {u1:Value} {t':Tok} (e:Ec mu q a n=some (v,mu')) (I:Inv X s₀ o p as mu F loc s) (r1:VRel X p as a u1) (K:Kv X s₀ o p as mu' F loc Q v) :
    wpAny (model X.prog X.w) A (binaryOp .Mult u1 (.int n t')) Q E s:=by
  refine bg e fun xs hx e=>?_
  refine RSeq.el (jJ I hx r1) fun a vs m e3_ h1 k1=>?_
  rw [e3_]
  have l1:=k1.length
  refine aN (kS e) fun hn e=>?_
  have hl:=j1 e
  have hz:vs.size≤1048576:=by
    rw [List.length_flatten,List.map_replicate,List.sum_replicate_nat] at hl
    have:1 * xs.length≤n.toNat * xs.length:=Nat.mul_le_mul_right _ (by omega)
    rw [← Array.length_toList,← l1]; unfold lim at hl; omega
  refine Dv h1 (by exact Gc hn.1 rfl) hn.2 hz (qx e I ?_ K)
  have rep:∀ k:Nat,VRels X p as (List.replicate k xs).flatten (List.replicate k vs.toList).flatten:=fun k=>by
    induction k with
    | zero=>exact rfl
    | succ k ih=>rw [List.replicate_succ,List.replicate_succ,List.flatten_cons,List.flatten_cons]; exact k1.append ih
  exact rep _
theorem Dt {q:Bool} {a b v:Val} {u1 u2:Value} (e:Fk mu q a b=some (v,mu')) (I:Inv X s₀ o p as mu F loc s) (r1:VRel X p as a u1) (r2:VRel X p as b u2) (K:Kv X s₀ o p as mu' F loc Q v) :
    wpAny (model X.prog X.w) A (binaryOp .Add u1 u2) Q E s:=by
  refine bg e fun xs hx e=>?_
  refine bg e fun ys hy e=>?_
  refine RSeq.el (jJ I hx r1) fun a vs n e3_ h1 k1=>?_
  rw [e3_]
  refine RSeq.el (jJ I hy r2) fun b ws m e3_ h2 k2=>?_
  rw [e3_]
  have hl:=j1 e
  have l1:=k1.length
  have l2:=k2.length
  rw [List.length_append] at hl
  have sz:vs.size+ws.size≤sizeLine:=by rw [← Array.length_toList,← Array.length_toList]; exact fu (by exact ed hl l1 l2)
  refine P.add_list (hsz:=sz) h1 h2 ?_
  have:=qx (n:=0) (t:=s.toks) e I (k1.append k2) K
  rw [← Array.toList_append,Array.toArray_toList] at this
  exact this
theorem Du {xs ys:List Dat} {v:Val} {u1 u2:Value} (hne:¬ (xs.isEmpty || ys.isEmpty)=true) (e:(gu (xs++ys)).map (·,mu)=some (v,mu')) (I:Inv X s₀ o p as mu F loc s) (r1:VRel X p as (.d (.tup xs)) u1) (r2:VRel X p as (.d (.tup ys)) u2) (K:Kv X s₀ o p as mu' F loc Q v) :
    wpAny (model X.prog X.w) A (binaryOp .Add u1 u2) Q E s:=by
  refine RSeq.el (fR r1) fun a vs n e3_ h1 k1=>?_
  rw [e3_]
  refine RSeq.el (fR r2) fun b ws m e3_ h2 k2=>?_
  rw [e3_]
  rw [Bool.or_eq_true,not_or] at hne
  have l1:=k1.length; have l2:=k2.length
  have hl:=nj e
  rw [List.length_append] at hl
  have e1:¬ vs.isEmpty=true:=fun z=>hne.1 (by rw [Array.isEmpty_iff] at z; subst z; rw [List.isEmpty_iff]; exact List.eq_nil_of_length_eq_zero l1)
  have e2:¬ ws.isEmpty=true:=fun z=>hne.2 (by rw [Array.isEmpty_iff] at z; subst z; rw [List.isEmpty_iff]; exact List.eq_nil_of_length_eq_zero l2)
  have sz:vs.size+ws.size≤sizeLine:=by rw [← Array.length_toList,← Array.length_toList]; exact fu (by exact ed hl l1 l2)
  exact P.add_tuple (hsz:=sz) (I.ple _ _ h1) (I.ple _ _ h2) e1 e2 (m6 e I (by rw [Array.toList_append]; exact k1.append k2) K)
theorem fA {α:Type} {a b:Val} {u1 u2:Value} {f:Int→Int→Option α} {r:α} {G:Value→Value→Prop} (e:jt a b f=some r) (r1:VRel X p as a u1) (r2:VRel X p as b u2) (h:∀ x t y t',f x y=some r→G (.int x t) (.int y t')):G u1 u2:=by
  refine xe2 (wW e) fun x y r_=>gD r_ fun e2_ e3_ e=>?_
  subst e2_
  subst e3_
  refine xe1 (cP r1) fun t e1_=>?_
  subst e1_
  obtain ⟨t',rfl⟩:=cP r2
  exact h x t y t' e
theorem AI {q:Bool} {op:Bop} {a b v:Val} {u1 u2:Value} (e:fF mu q op a b=some (v,mu')) (I:Inv X s₀ o p as mu F loc s) (r1:VRel X p as a u1) (r2:VRel X p as b u2) (K:Kv X s₀ o p as mu' F loc Q v) :
    wpAny (model X.prog X.w) A (binaryOp op.op u1 u2) Q E s:=by
  cases op with
  | add =>
    rcases fM (G:=fun r=>r=some (v,mu')) e with ⟨_,e⟩ | ⟨x,hx,e⟩
    · rcases fM (G:=fun r=>r=some (v,mu')) e with ⟨_,e⟩ | ⟨xs,hx,e⟩
      · exact Dt e I r1 r2 K
      · refine bg e fun ys hy e=>?_
        refine aN (y4 e) fun hne e=>?_
        rw [oM hx] at r1; rw [oM hy] at r2
        exact Du hne e I r1 r2 K
    · refine bM e fun y hy e=>?_
      replace K:=Kv.eqP K e
      rw [fJ hx] at r1; rw [fJ hy] at r2
      refine xe1 (cP r1) fun t e1_=>?_
      subst e1_
      obtain ⟨t',rfl⟩:=cP r2
      exact P.add_int (K.here I ek)
  | sub=>exact fA (G:=fun u1 u2=>wpAny (model X.prog X.w) A (binaryOp .Sub u1 u2) Q E s) e r1 r2 fun x t y t' e=>by replace K:=Kv.eqS K e; exact P.sub_int (K.here I ek)
  | mul =>
    refine bg e fun y hy e=>?_
    rw [fJ hy] at r2
    refine xe1 (cP r2) fun t' e1_=>?_
    subst e1_
    rcases fM (G:=fun r=>r=some (v,mu')) e with ⟨_,e⟩ | ⟨x,hx,e⟩
    · rcases fM (G:=fun r=>r=some (v,mu')) e with ⟨_,e⟩ | ⟨xs,hx,e⟩
      · exact Da e I r1 K
      · refine aN (kS e) fun h2 e=>?_
        subst h2
        refine bg e fun x h1 e=>?_
        rw [oM hx,BK h1] at r1
        refine RSeq.el (fR r1) fun a vs n e3_ h1 k1=>?_
        subst e3_
        simp only [j8] at k1
        obtain ⟨w,r,e1,k2,rfl⟩:=k1
        obtain ⟨l⟩:=vs
        simp only at e1
        subst e1
        refine DJ (I.ple _ _ h1) (m6 e I ?_ K)
        simp only [ds0]
        exact ⟨w,[w],rfl,k2,w,[],rfl,k2,rfl⟩
    · refine aN (kS e) fun h e=>?_
      replace K:=Kv.eqS K e
      rw [fJ hx] at r1
      refine xe1 (cP r1) fun t e1_=>?_
      subst e1_
      exact P.mul_int (K.here I ek) (IntMulOk.of_right (we h))
  | fdiv =>
    exact fA (G:=fun u1 u2=>wpAny (model X.prog X.w) A (binaryOp .FloorDiv u1 u2) Q E s) e r1 r2 fun x t y t' e=>by
      refine aN (y4 e) fun h e=>?_
      replace K:=Kv.eqS K e; exact floordiv_int (fun z=>h (.inl z)) (K.here I ek) (.inl (PyProof.noPylong_small (by omega)))
  | mod =>
    exact fA (G:=fun u1 u2=>wpAny (model X.prog X.w) A (binaryOp .Mod u1 u2) Q E s) e r1 r2 fun x t y t' e=>by
      refine aN (y4 e) fun h e=>?_
      replace K:=Kv.eqS K e; exact mod_int' h (K.here I ek)
  | pow =>
    exact fA (G:=fun u1 u2=>wpAny (model X.prog X.w) A (binaryOp .Pow u1 u2) Q E s) e r1 r2 fun x t y t' e=>by
      refine aN (kS e) fun h e=>?_
      obtain ⟨rfl,rfl⟩:=h
      replace K:=Kv.eqS K e; exact pow_int_small (by decide) (by decide) (by decide) (K.here I ek)
  | xor=>exact fA (G:=fun u1 u2=>wpAny (model X.prog X.w) A (binaryOp .BitXor u1 u2) Q E s) e r1 r2 fun x t y t' e=>by replace K:=Kv.eqS K e; exact xor_int (K.here I ek)
end
end Mine.Internal
namespace Mine.Internal
noncomputable def allW:List W:=[.goto_,.switch_,.call_,.drop_,.assert_,.use_,.box_,.binary_,.checked_,.unary_,.cast_,.tuple_,.array_,.adt_,.index_,.const_,.ref_,.discriminant_,.assign_,.live_,.dead_,.print_,.return_,.move_,.copy_,.fn_,.unreachable_,
  .int_,.u8_,.plus_,.xor_,.lt_,.h_,.g_,.main_,.field_,.worths_,.alive_,.bad_]
theorem tx:(allW.all fun w=>decide (allW.find? (fun v=>decide (v.str=w.str))=some w))=true:=by decide +kernel
theorem wI (w:W):w ∈ allW:=by cases w <;> decide
theorem W.inj {a b:W} (h:a.str=b.str):a=b:=by
  have h1:=of_decide_eq_true (List.all_eq_true.mp tx a (wI a))
  have h2:=of_decide_eq_true (List.all_eq_true.mp tx b (wI b))
  rw [h,h2] at h1
  exact (Option.some.inj h1).symm
theorem Gp:(allW.all fun w=>PyData.strOk w.str)=true:=by decide +kernel
theorem W.ok (w:W):PyData.strOk w.str=true:=List.all_eq_true.mp Gp w (wI w)
mutual
noncomputable def Dat.py:Dat→PyData
  | .bool b=>.bool b
  | .int i=>.int i
  | .str w=>.str w.str
  | .tup xs=>.tuple (jq xs)
  | .lst xs=>.list (jq xs)
  | .none | .any | .rng _ _ _ | .dct _ _ | .spots _ | .obj _ _ _=>.none
noncomputable def jq:List Dat→List PyData
  | []=>[]
  | x::xs=>x.py::jq xs
end
theorem JF {i:Int}:(Dat.int i).py=.int i:=rfl
theorem JL {w:W}:(Dat.str w).py=.str w.str:=rfl
theorem JC {i j:Int}:PyData.eqv (.int i) (.int j)=(i == j):=rfl
theorem JP {i j:Str}:PyData.eqv (.str i) (.str j)=(i == j):=rfl
theorem Ir {x:Dat} {xs:List Dat}:jq (x::xs)=x.py::jq xs:=rfl
section
variable {X:Amb} {s₀ s:Shared} {o p:aE} {as:As} {mu mu':Mu} {F:Fm} {loc:ag} {A:Around} {E:Value→Shared→Prop} {Q:Value→Shared→Prop} {n:Nat}
theorem DX {P:Prop} (h:false=true):P:=(Bool.false_ne_true h).elim
mutual
theorem ji:∀ {x:Dat},x.plain=true→x.py.canLay0=true
  | .none=>fun Z=>rfl
  | .bool _=>fun Z=>rfl
  | .int _=>fun Z=>rfl
  | .str w=>fun Z=>w.ok
  | .tup xs=>fun h=>jK (xs:=xs) h
  | .lst xs=>fun h=>jK (xs:=xs) h
  | .any | .rng _ _ _ | .dct _ _ | .spots _ | .obj _ _ _=>DX
theorem jK:∀ {xs:List Dat},cQ xs=true→PyData.canLayAll0 (jq xs)=true
  | []=>fun Z=>rfl
  | x::xs=>fun h=>by
    have h:=Eq.mp (Bool.and_eq_true _ _) (show (x.plain && cQ xs)=true from h)
    show (x.py.canLay0 && PyData.canLayAll0 (jq xs))=true
    rw [ji h.1,jK h.2]; rfl
end
mutual
theorem ty:∀ {x:Dat},x.plain=true→x.py.depth=x.dep
  | .none=>fun Z=>rfl
  | .bool _=>fun Z=>rfl
  | .int _=>fun Z=>rfl
  | .str w=>fun Z=>rfl
  | .tup xs=>fun h=>congrArg (· + 1) (jI (xs:=xs) h)
  | .lst xs=>fun h=>congrArg (· + 1) (jI (xs:=xs) h)
  | .any | .rng _ _ _ | .dct _ _ | .spots _ | .obj _ _ _=>DX
theorem jI:∀ {xs:List Dat},cQ xs=true→PyData.depthAll (jq xs)=gf xs
  | []=>fun Z=>rfl
  | x::xs=>fun h=>by
    have h:=Eq.mp (Bool.and_eq_true _ _) (show (x.plain && cQ xs)=true from h)
    show max x.py.depth (PyData.depthAll (jq xs))=max x.dep (gf xs)
    rw [ty h.1,jI h.2]
end
mutual
theorem ua:∀ {x y:Dat} {b:Bool},Dat.eqv x y=some b→PyData.eqv x.py y.py=b
  | .none,y,b=>fun h=>by obtain ⟨_,h1,rfl⟩:=gc h; rw [Bf h1]; rfl
  | .bool a,y,b=>fun h=>by obtain ⟨_,h1,rfl⟩:=gc h; rw [Fd h1]; rfl
  | .int a,y,b=>fun h=>by obtain ⟨_,h1,rfl⟩:=gc h; rw [sB h1]; rfl
  | .str x,y,b=>fun h=>by
    refine bM h fun z h1 e2_=>?_
    subst e2_
    rw [A5 h1]
    show (x.str == z.str)=decide (x=z)
    by_cases e:x=z
    · subst e; simp
    · rw [decide_eq_false e]; exact beq_eq_false_iff_ne.mpr fun z=>e (W.inj z)
  | .tup xs,y,b=>fun h=>by obtain ⟨ys,h1,h⟩:=bP h; rw [AP h1]; exact qw (xs:=xs) (ys:=ys) h
  | .lst xs,y,b=>fun h=>by obtain ⟨ys,h1,h⟩:=bP h; rw [zW h1]; exact qw (xs:=xs) (ys:=ys) h
  | .any,_,_ | .rng _ _ _,_,_ | .dct _ _,_,_ | .spots _,_,_ | .obj _ _ _,_,_=>nS
theorem qw:∀ {xs ys:List Dat} {b:Bool},iG xs ys=some b→PyData.eqvAll (jq xs) (jq ys)=b
  | [],ys,b=>fun h=>by (replace h:=iS h; subst h); cases ys <;> rfl
  | x::xs,ys,b=>fun h=>by
    cases ys with
    | nil=>(replace h:=iS h; subst h); rfl
    | cons y ys =>
      refine xe1 (bP (x:=Dat.eqv x y) h) fun a r_=>aN r_ fun ha h=>?_
      refine bM h fun c hc e2_=>?_
      subst e2_
      show (PyData.eqv x.py y.py && PyData.eqvAll (jq xs) (jq ys))=(a && c)
      rw [ua ha,qw hc]
end
mutual
theorem gC {h:Heap} (hp:Sub p h.get?):∀ {x:Dat} {v:Value},x.plain=true→DRel X p x v→∃ l,Reads h v x.py l
  | .none,v=>fun Z r=>by rw [H2] at r; subst r; exact ⟨_,.none⟩
  | .bool b,v=>fun Z r=>by rw [Ij] at r; subst r; exact ⟨_,.bool b⟩
  | .int i,v=>fun Z r=>by rw [te] at r; obtain ⟨t,rfl⟩:=r; exact ⟨_,.int i t⟩
  | .str w,v=>fun Z r=>by rw [Im] at r; obtain ⟨t,rfl⟩:=r; exact ⟨_,.str w.str t⟩
  | .tup xs,v=>fun k r=>by
    rw [Id] at r
    obtain ⟨a,vs,n,rfl,e,q⟩:=r
    obtain ⟨l,z⟩:=ky hp (xs:=xs) k q
    exact ⟨_,.tuple (hp _ _ e) rfl rfl z⟩
  | .lst xs,v=>fun k r=>by
    rw [yx] at r
    obtain ⟨a,vs,n,rfl,e,q⟩:=r
    obtain ⟨l,z⟩:=ky hp (xs:=xs) k q
    exact ⟨_,.list (hp _ _ e) rfl rfl z⟩
  | .any,_ | .rng _ _ _,_ | .dct _ _,_ | .spots _,_ | .obj _ _ _,_=>fun h=>DX h
theorem ky {h:Heap} (hp:Sub p h.get?):∀ {xs:List Dat} {vs:List Value},cQ xs=true→DRels X p xs vs→∃ l,ReadsAll h vs (jq xs) l
  | [],vs=>fun Z r=>by rw [ds0] at r; subst r; exact ⟨_,.nil⟩
  | x::xs,vs=>fun k r=>by
    have k:=Eq.mp (Bool.and_eq_true _ _) (show (x.plain && cQ xs)=true from k)
    rw [j8] at r
    obtain ⟨v,r',rfl,a,b⟩:=r
    obtain ⟨l,z⟩:=gC hp k.1 a
    obtain ⟨l',z'⟩:=ky hp k.2 b
    exact ⟨_,.cons z z'⟩
end
theorem zC {x y:Dat} {b:Bool} {u1 u2:Value} {l1 l2:List Addr} (e:gE x y=some b) (hR:Rm n A) (r1:Reads s.heap u1 x.py l1) (r2:Reads s.heap u2 y.py l2) :
    (Q (.bool b) s→wpAny (model X.prog X.w) A (compareOp .Eq u1 u2) Q E s)∧(Q (.bool !b) s→wpAny (model X.prog X.w) A (compareOp .NotEq u1 u2) Q E s):=by
  unfold gE at e
  split at e
  · rename_i h
    rw [Bool.and_eq_true,Bool.and_eq_true,decide_eq_true_eq] at h
    have hu:A.units+min x.py.depth y.py.depth < cLine:=by rw [ty h.1.1,ty h.1.2]; have:=hR.units; omega
    exact ⟨fun q=>SeqAt.compareEq_reads r1 r2 (ji h.1.1) (ji h.1.2) hu (by rw [ua e]; exact q),fun q=>SeqAt.compareNe_reads r1 r2 (ji h.1.1) (ji h.1.2) hu (by rw [ua e]; exact q)⟩
  · exact nS e
theorem q8 {x y:Dat} {b:Bool} (e:gE x y=some b):x.plain=true∧y.plain=true:=by
  unfold gE at e
  split at e
  · rename_i h
    rw [Bool.and_eq_true,Bool.and_eq_true] at h
    exact h.1
  · exact nS e
theorem tV {a b:Val} {c:Bool} {u1 u2:Value} (e:ku mu a b=some c) (hR:Rm n A) (I:Inv X s₀ o p as mu F loc s) (r1:VRel X p as a u1) (r2:VRel X p as b u2) :
    (Q (.bool c) s→wpAny (model X.prog X.w) A (compareOp .Eq u1 u2) Q E s)∧(Q (.bool !c) s→wpAny (model X.prog X.w) A (compareOp .NotEq u1 u2) Q E s):=by
  refine bg e fun y hy e=>?_
  rw [gx hy] at r2
  rcases fM (G:=fun r=>r=some c) e with ⟨_,e⟩ | ⟨i,hi,e⟩
  · refine bg e fun x hx e=>?_
    rw [gx hx] at r1
    refine aN (q8 e) fun p1 p2=>?_
    refine xe1 (gC I.ple p1 r1) fun l1 q1=>?_
    refine xe1 (gC I.ple p2 r2) fun l2 q2=>?_
    exact zC e hR q1 q2
  · rw [gR hi] at r1
    refine bg e fun ys hy e=>?_
    rw [zW hy] at r2
    refine bg e fun xs hx e=>?_
    refine bg e fun ds hd e=>?_
    refine aN (q8 e) fun p1 p2=>?_
    obtain ⟨q,hq,rfl⟩:=r1
    obtain ⟨vs,k,h1,h2⟩:=I.mus _ _ _ hq (kz hx)
    refine xe1 (ky I.ple (xs:=ds) p1 (VRels.toD hd h2)) fun l1 q1=>?_
    refine xe1 (gC I.ple p2 r2) fun l2 q2=>?_
    exact zC e hR (.list h1 rfl rfl q1) q2
end
end Mine.Internal
namespace Mine.Internal
section
variable {X:Amb} {s₀ s:Shared} {o p:aE} {as:As} {mu mu':Mu} {F:Fm} {loc:ag} {A:Around} {E:Value→Shared→Prop} {Q:Value→Shared→Prop} {n:Nat}
theorem pC:∀ {xs:List Dat} {ws:List W},kq xs=some ws→xs=ws.map .str
  | [],ws=>fun h=>by (replace h:=iS h; subst h); rfl
  | x::r,ws=>fun h=>by
    refine xe1 (bP (x:=dS x) h) fun w r_=>aN r_ fun h1 h=>?_
    refine bM h fun ws' h' e2_=>?_
    clear h
    rw [← e2_]
    rw [List.map_cons,← pC h',A5 h1]
theorem kL:∀ {xs:List Dat} {ws:List Int},gg xs=some ws→xs=ws.map .int
  | [],ws=>fun h=>by (replace h:=iS h; subst h); rfl
  | x::r,ws=>fun h=>by
    refine xe1 (bP (x:=dI x) h) fun w r_=>aN r_ fun h1 h=>?_
    refine bM h fun ws' h' e2_=>?_
    clear h
    subst e2_
    rw [List.map_cons,← kL h',sB h1]
theorem iI:∀ ws:List W,cQ (ws.map Dat.str)=true
  | []=>rfl
  | w::ws=>by rw [List.map_cons,uT,iI ws]; rfl
theorem gd:∀ ws:List Int,cQ (ws.map Dat.int)=true
  | []=>rfl
  | w::ws=>by rw [List.map_cons,uT,gd ws]; rfl
theorem pW:∀ ws:List W,gf (ws.map Dat.str)=0
  | []=>rfl
  | w::ws=>by rw [List.map_cons,qG,pW ws]; rfl
theorem mS:∀ ws:List Int,gf (ws.map Dat.int)=0
  | []=>rfl
  | w::ws=>by rw [List.map_cons,qG,mS ws]; rfl
theorem ri (w:W):∀ ws:List W,(jq (ws.map Dat.str)).any (fun y=>PyData.eqv y (.str w.str))=ws.contains w
  | []=>rfl
  | v::ws=>by
    rw [List.map_cons,Ir,List.any_cons,ri w ws,List.contains_cons]
    congr 1
    rw [JL,JP]
    by_cases e:w=v
    · subst e; simp
    · rw [beq_eq_false_iff_ne.mpr e]; exact beq_eq_false_iff_ne.mpr fun z=>e (W.inj z).symm
theorem tZ (w:Int):∀ ws:List Int,(jq (ws.map Dat.int)).any (fun y=>PyData.eqv y (.int w))=ws.contains w
  | []=>rfl
  | v::ws=>by
    rw [List.map_cons,Ir,List.any_cons,tZ w ws,List.contains_cons]
    congr 1
    rw [JF,JC]
    by_cases e:w=v
    · subst e; simp
    · rw [beq_eq_false_iff_ne.mpr e]; exact beq_eq_false_iff_ne.mpr fun z=>e z.symm
theorem lK {K:Type} [DecidableEq K]:∀ {kvs:List (K × Value)} {k:K},(valueAt kvs k).isSome=decide (k ∈ kvs.map (·.1))
  | [],k=>rfl
  | (a,v)::r,k=>by
    have ih:=lK (kvs:=r) (k:=k)
    unfold valueAt at ih ⊢
    rw [List.find?_cons]
    by_cases h:a=k
    · subst h; simp
    · simp only [h,decide_false,List.map_cons,List.mem_cons]
      rw [ih]
      simp [Ne.symm h]
theorem m7 {ks:List W} {w:W} {l:List Str} (h:l=ks.map W.str):decide (w.str ∈ l)=ks.contains w:=by
  subst h
  rw [Bool.eq_iff_iff,decide_eq_true_eq,List.contains_iff_mem,List.mem_map]
  exact ⟨fun ⟨v,hv,e⟩=>W.inj e ▸ hv,fun h=>⟨w,h,rfl⟩⟩
theorem rD {x:Int} {ws:List Int} {u1 u2:Value} (hR:Rm n A) (I:Inv X s₀ o p as mu F loc s) (r1:VRel X p as (.d (.int x)) u1) (r2:VRel X p as (.d (.lst (ws.map Dat.int))) u2) :
    (Q (.bool (ws.contains x)) s→wpAny (model X.prog X.w) A (compareOp .In u1 u2) Q E s)∧(Q (.bool !ws.contains x) s→wpAny (model X.prog X.w) A (compareOp .NotIn u1 u2) Q E s):=by
  have hu:=hR.units
  refine xe1 (gC I.ple rfl r1) fun l1 q1=>?_
  refine xe1 (gC I.ple (x:=.lst (ws.map Dat.int)) (gd ws) r2) fun l2 q2=>?_
  have ha:=tZ x ws
  exact ⟨fun q=>SeqAt.in_list_reads q2 q1 (jK (gd ws)) (ji rfl) (by rw [jI (gd ws),mS]; omega) (by rw [show (Dat.int x).py=.int x from rfl,ha]; exact q),
    fun q=>SeqAt.notIn_list_reads q2 q1 (jK (gd ws)) (ji rfl) (by rw [jI (gd ws),mS]; omega) (by rw [show (Dat.int x).py=.int x from rfl,ha]; exact q)⟩
theorem Ej {a b:Val} {c:Bool} {u1 u2:Value} (e:Ip a b=some c) (hR:Rm n A) (I:Inv X s₀ o p as mu F loc s) (r1:VRel X p as a u1) (r2:VRel X p as b u2)
    (K:Kv X s₀ o p as mu F loc Q (.d (.bool c))):wpAny (model X.prog X.w) A (compareOp .In u1 u2) Q E s:=by
  have hu:=hR.units
  rcases fM (G:=fun r=>r=some c) e with ⟨_,e1⟩ | ⟨x,hx,e1⟩
  · refine bg e1 fun w hw e2=>?_
    clear e1
    rw [zR hw] at r1
    refine bg e2 fun y hy e3=>?_
    clear e2
    rw [gx hy] at r2
    rcases fM (G:=fun r=>r=some c) e3 with ⟨_,e4⟩ | ⟨xs,hxs,e4⟩
    · refine bM e4 fun q hq e2_=>?_
      clear e4
      subst e2_
      rw [Fg hq] at r2
      have r2':DRel X p (.dct q.1 q.2) u2:=r2
      rw [Fo] at r2'
      obtain ⟨a,ob,kvs,rfl,h0,h1,h2,h3,h4⟩:=r2'
      refine xe1 (t6 r1) fun t e1_=>?_
      subst e1_
      have hd:s.heap.DictOf (strKind X.prog X.w) a kvs:=Heap.dictOf_iff.mpr ⟨ob,I.ple _ _ h1,h2⟩
      refine wpAny_in_of (strKind_is _ _ _ _) h0 hd.mapOf (K.here I ?_)
      rw [lK,m7 h3]; exact dq
    · refine bM e4 fun ws hw e2_=>?_
      clear e4
      subst e2_
      rw [AP hxs,pC hw] at r2
      refine xe1 (gC I.ple rfl r1) fun l1 q1=>?_
      refine xe1 (gC I.ple (x:=.tup (ws.map Dat.str)) (iI ws) r2) fun l2 q2=>?_
      refine SeqAt.in_tuple_reads q2 q1 (jK (iI ws)) (ji rfl) ?_ ?_
      · rw [jI (iI ws),pW]; omega
      · rw [show (Dat.str w).py=.str w.str from rfl,ri]; exact K.now I dq
  · refine bg e1 fun xs hxs e2=>?_
    clear e1
    refine bM e2 fun ws hw e2_=>?_
    clear e2
    subst e2_
    rw [fJ hx] at r1; rw [tU hxs,kL hw] at r2
    exact (rD hR I r1 r2).1 (K.now I dq)
theorem tz {op:Cop} {a b:Val} {c:Bool} {u1 u2:Value} (e:dU mu op a b=some c) (hR:Rm n A) (I:Inv X s₀ o p as mu F loc s) (r1:VRel X p as a u1) (r2:VRel X p as b u2)
    (K:Kv X s₀ o p as mu F loc Q (.d (.bool c))):wpAny (model X.prog X.w) A (compareOp op.op u1 u2) Q E s:=by
  cases op with
  | lt=>exact fA (G:=fun u1 u2=>wpAny (model X.prog X.w) A (compareOp .Lt u1 u2) Q E s) e r1 r2 fun x t y t' e=>by (replace e:=iS e; subst e); exact P.lt_int (K.now I dq)
  | gt=>exact fA (G:=fun u1 u2=>wpAny (model X.prog X.w) A (compareOp .Gt u1 u2) Q E s) e r1 r2 fun x t y t' e=>by (replace e:=iS e; subst e); exact P.gt_int (K.now I dq)
  | ge=>exact fA (G:=fun u1 u2=>wpAny (model X.prog X.w) A (compareOp .GtE u1 u2) Q E s) e r1 r2 fun x t y t' e=>by (replace e:=iS e; subst e); exact P.ge_int (K.now I dq)
  | le=>exact fA (G:=fun u1 u2=>wpAny (model X.prog X.w) A (compareOp .LtE u1 u2) Q E s) e r1 r2 fun x t y t' e=>by (replace e:=iS e; subst e); exact P.le_int (K.now I dq)
  | eq=>exact (tV e hR I r1 r2).1 (K.now I dq)
  | ne =>
    refine bM e fun c' e' e2_=>?_
    clear e
    subst e2_
    exact (tV e' hR I r1 r2).2 (K.now I dq)
  | in_=>exact Ej e hR I r1 r2 K
  | notIn =>
    refine bg e fun x hx e1=>?_
    clear e
    refine bg e1 fun xs hxs e2=>?_
    clear e1
    refine bM e2 fun ws hw e2_=>?_
    clear e2
    subst e2_
    rw [fJ hx] at r1; rw [tU hxs,kL hw] at r2
    exact (rD hR I r1 r2).2 (K.now I dq)
end
end Mine.Internal
namespace Mine.Internal
noncomputable def allF:List Fld:=[.name,.argCount,.locals,.blocks,.spots,.body]
theorem qY:(allF.all fun w=>decide (allF.find? (fun v=>decide (v.str=w.str))=some w))=true:=by decide +kernel
theorem B5 (w:Fld):w ∈ allF:=by cases w <;> decide
theorem Fld.inj {a b:Fld} (h:a.str=b.str):a=b:=by
  have h1:=of_decide_eq_true (List.all_eq_true.mp qY a (B5 a))
  have h2:=of_decide_eq_true (List.all_eq_true.mp qY b (B5 b))
  rw [h,h2] at h1
  exact (Option.some.inj h1).symm
structure ClsOK (X:Amb) (c:Cls):Prop where
  get:∀ f:Fld,plainGet X.K (X.cls c) f.str=true∧findIn X.K (.ref (X.cls c)) f.str=some none
  dict:hasDictIn X.K (X.cls c)=true
  set:findIn X.K (.ref (X.cls c)) "__setattr__" = some (some (.builtin "object.__setattr__"))
  over:plainOver X.K (X.cls c)=true
  taker:∀ f:Fld,takerIn X.K (X.cls c) f.str=some none
section
variable {X:Amb} {s₀ s:Shared} {o p:aE} {as:As} {mu mu':Mu} {F:Fm} {loc:ag} {A:Around} {E:Value→Shared→Prop} {Q:Value→Shared→Prop} {n:Nat}
theorem Inv.K (hK:X.K.In X.H₀) (I:Inv X s₀ o p as mu F loc s):X.K.In s.heap:=fun a o e=>I.ple _ _ (I.base _ _ (hK a o e))
theorem kW {y:Expr} (h:gv y) (o i:Value):subscripted y false o i=operate [o,i] (getItem o i):=by cases y <;> first | rfl | exact (iD h)
theorem mn {i:Int} {n k:Nat} (h:dg i n=some k):0≤i∧i.toNat=k∧k < n∧i < 2 ^ 62:=by
  unfold dg at h
  split at h
  · (replace h:=iS h; subst h); unfold lim at *; omega
  · exact nS h
theorem uq {i:Int} {n k:Nat} (h:dg i n=some k):seqIndex? i n=some k:=by
  refine vp (mn h) fun h1 h2 h3 h4=>?_
  unfold seqIndex?
  simp only [show ¬ i < 0 by omega,if_false]
  rw [if_pos (by simp; omega),h2]
theorem B8 {n:Nat}:∀ {ks:List W} {xs:List Val} {kvs:List (Str × Value)} {w:W} {x:Val},kvs.map (·.1)=ks.map W.str→VRels X p as xs (kvs.map (·.2))→dC w ks xs=some x→∃ u,valueAt kvs w.str=some u∧VRel X p as x u
  | [],xs,_,_,_=>fun Z Z h=>nS (show none=some _ from h)
  | k::ks,[],_,_,_=>fun Z Z h=>nS (show none=some _ from h)
  | k::ks,y::ys,[],w,x=>fun hk Z Z=>nomatch hk
  | k::ks,y::ys,q::kvs,w,x=>fun hk ⟨v,r,e1,a1,a2⟩ h=>by
    cases e1
    have h:(if k=w then some y else dC w ks ys)=some x:=h
    have hk1:q.1=k.str:=(List.cons.inj hk).1
    by_cases e2:k=w
    · subst e2
      rw [if_pos rfl] at h
      exact ⟨q.2,by unfold valueAt; rw [List.find?_cons,decide_eq_true hk1]; rfl,iS h ▸ a1⟩
    · rw [if_neg e2] at h
      obtain ⟨u,h1,h2⟩:=B8 (n:=n) (List.cons.inj hk).2 a2 h
      refine ⟨u,?_,h2⟩
      unfold valueAt at h1 ⊢
      rw [List.find?_cons,decide_eq_false fun z=>e2 (W.inj (hk1 ▸ z))]
      exact h1
theorem oT {α:Type} [DecidableEq α] {f:α} {x:Dat}:∀ {fs:List α} {xs:List Dat},dC f fs xs=some x→dC f fs (xs.map Val.d)=some (.d x)
  | [],_=>fun h=>nS (show none=some _ from h)
  | g::fs,[]=>fun h=>nS (show none=some _ from h)
  | g::fs,y::ys=>fun h=>by
    have h:(if g=f then some y else dC f fs ys)=some x:=h
    show (if g=f then some (Val.d y) else dC f fs (ys.map Val.d))=some (.d x)
    by_cases e2:g=f
    · rw [if_pos e2] at h ⊢; rw [iS h]
    · rw [if_neg e2] at h ⊢; exact oT h
theorem qA {xs:List Val} {vs:Array Value} {k:Int} {j:Nat} {x:Val} {t:Addr} {tk:Tok} {value slice:Expr} (T:s.heap.IsList t vs∨∃ m,s.heap.get? t=some (d7 vs m)) (h2:VRels X p as xs vs.toList) (hj:dg k xs.length=some j) (hx:xs[j]? = some x) (hs:gv slice)
    (K:∀ u,VRel X p as x u→Q u s):wpAny (model X.prog X.w) A (subscriptTail value slice (.ref t) (.int k tk)) Q E s:=by
  obtain ⟨u,hu,vr⟩:=h2.get.2 j x hx
  refine vp (mn hj) fun i1 i2 i3 i4=>?_
  rcases T with hl | ⟨m,h1⟩
  · exact tail_any hl.typeIs slot_list_getitem.lookup (wpAny_getItem_list hl i1 (by exact ib i4 rfl) (by rw [i2,← Array.getElem?_toList]; exact hu) (K u vr)) (kW hs _ _)
  · have hl:seqIndex? k vs.size=some j:=uq (by rw [h2.length,Array.length_toList] at hj; exact hj)
    exact tail_any ⟨_,h1,rfl⟩ slot_tuple_getitem.lookup (P.getItem_tuple h1 (by exact Gc i1 rfl) (by exact ib i4 rfl) hl (by rw [← Array.getElem?_toList]; exact hu) (K u vr)) (kW hs _ _)
theorem uX {ks:List W} {xs:List Val} {kvs:List (Str × Value)} {w:W} {x:Val} {a:Addr} {tk:Tok} {value slice:Expr} (h0:(a == sysModules)=false) (hd:s.heap.DictOf (strKind X.prog X.w) a kvs) (h3:kvs.map (·.1)=ks.map W.str) (h4:VRels X p as xs (kvs.map (·.2))) (hx:dC w ks xs=some x) (hs:gv slice)
    (K:∀ u tk,VRel X p as x u→Q u { s with toks:=tk }):wpAny (model X.prog X.w) A (subscriptTail value slice (.ref a) (.str w.str tk)) Q E s:=by
  refine xe1 (B8 (n:=0) h3 h4 hx) fun u r_=>aN r_ fun hu vr=>?_
  exact tail_any hd.typeIs slot_dict_getitem.lookup (wpAny_getItem_of (strKind_is _ _ _ _) hd.mapOf hu (K u _ vr)) (kW hs _ _)
theorem E8 {a b v:Val} {u1 u2:Value} {value slice:Expr} (e:bj mu a b=some v) (hs:gv slice) (I:Inv X s₀ o p as mu F loc s) (r1:VRel X p as a u1) (r2:VRel X p as b u2)
    (K:Kv X s₀ o p as mu F loc Q v):wpAny (model X.prog X.w) A (subscriptTail value slice u1 u2) Q E s:=by
  rcases fM (G:=fun r=>r=some v) e with ⟨_,e1⟩ | ⟨k,hk,e1⟩
  · refine bg e1 fun w hw e2=>?_
    clear e1
    rw [zR hw] at r2
    refine xe1 (t6 r2) fun tk e1_=>?_
    rw [e1_]
    rcases fM (G:=fun r=>r=some v) e2 with ⟨_,e3⟩ | ⟨i,hi,e3⟩
    · refine bg e3 fun y hy e4=>?_
      clear e3
      refine bg e4 fun q hq e5=>?_
      clear e4
      refine bM e5 fun x hx e2_=>?_
      clear e5
      subst e2_
      rw [gx hy,Fg hq] at r1
      have r1':DRel X p (.dct q.1 q.2) u1:=r1
      rw [Fo] at r1'
      obtain ⟨a,ob,kvs,rfl,h0,h1,h2,h3,h4⟩:=r1'
      exact uX h0 (Heap.dictOf_iff.mpr ⟨ob,I.ple _ _ h1,h2⟩) h3 (VRels.ofD (as:=as) h4) (oT hx) hs fun u tk vr=>K.here I vr
    · refine bg e3 fun y hy e4=>?_
      clear e3
      refine bM e4 fun x hx e2_=>?_
      clear e4
      subst e2_
      rw [gR hi] at r1
      obtain ⟨q,hq,rfl⟩:=r1
      obtain ⟨h0,kvs,hd,h3,h4⟩:=I.mus _ _ _ hq (Bs hy)
      exact uX h0 hd h3 h4 hx hs fun u tk vr=>K.here I (vr.norm I)
  · rw [fJ hk] at r2
    refine xe1 (cP r2) fun tk e1_=>?_
    subst e1_
    rcases fM (G:=fun r=>r=some v) e1 with ⟨_,e2⟩ | ⟨i,hi,e2⟩
    · refine bg e2 fun y hy e3=>?_
      clear e2
      refine bg e3 fun xs hxs e4=>?_
      clear e3
      refine bg e4 fun j hj e5=>?_
      clear e4
      refine bM e5 fun x hx e2_=>?_
      clear e5
      subst e2_
      rw [gx hy] at r1
      have hx':(xs.map Val.d)[j]? = some (.d x):=by rw [List.getElem?_map,hx]; rfl
      have hj':dg k (xs.map Val.d).length=some j:=by rw [List.length_map]; exact hj
      rcases vZ hxs with q | q <;> rw [q] at r1
      · refine RSeq.el (fR r1) fun t vs m e3_ h1 h2=>?_
        subst e3_
        exact qA (.inr ⟨m,I.ple _ _ h1⟩) (VRels.ofD (as:=as) h2) hj' hx' hs fun u vr=>K.now I vr
      · refine RSeq.el (iw r1) fun t vs m e3_ h1 h2=>?_
        subst e3_
        exact qA (.inl ⟨_,I.ple _ _ h1,rfl,m,rfl⟩) (VRels.ofD (as:=as) h2) hj' hx' hs fun u vr=>K.now I vr
    · refine bg e2 fun xs hxs e3=>?_
      clear e2
      refine bg e3 fun j hj e4=>?_
      clear e3
      refine bM e4 fun x hx e2_=>?_
      clear e4
      subst e2_
      rw [gR hi] at r1
      obtain ⟨q,hq,rfl⟩:=r1
      obtain ⟨vs,m,h1,h2⟩:=I.mus _ _ _ hq (kz hxs)
      exact qA (.inl ⟨_,h1,rfl,m,rfl⟩) h2 hj hx hs fun u vr=>K.now I (vr.norm I)
theorem yS {v:Val} {u:Value} (r:VRel X p as v u):handedIn u=true:=by
  cases v with
  | r i=>obtain ⟨q,_,rfl⟩:=r; rfl
  | clo k=>cases r; rfl
  | d x =>
    have r:DRel X p x u:=r
    cases x
    all_goals first
      | (obtain rfl:=r; rfl)
      | (obtain ⟨a,rfl,_⟩:=r; rfl)
      | (obtain ⟨a,rfl⟩:=r; rfl)
      | (obtain ⟨a,b,rfl⟩:=r; rfl)
      | (obtain ⟨a,b,c,rfl,_⟩:=r; rfl)
      | (obtain ⟨a,b,c,d,rfl,_⟩:=r; rfl)
theorem rt {P:Params} {f:Fld}:∀ {fs:List Fld} {es:List DictEntry},g6 P (fs.map Fld.str) es→(∀ e ∈ es,e.refKey=false)∧es.length=fs.length
  | [],[],_=>by simp
  | [],_::_,h=>h.elim
  | _::_,[],h=>h.elim
  | g::fs,e::es,⟨⟨t,h1⟩,h2,h3⟩=>by
    obtain ⟨a,b⟩:=rt (f:=f) h3
    refine ⟨fun e' he=>?_,by simp [b]⟩
    rcases List.mem_cons.mp he with rfl | he
    · unfold DictEntry.refKey; rw [h1]
    · exact a e' he
theorem to {P:Params} {f:Fld} {n:Nat}:∀ {fs:List Fld} {es:List DictEntry} {xs:List Val} {x:Val},g6 P (fs.map Fld.str) es→VRels X p as xs (es.map (·.val))→dC f fs xs=some x →
    ∃ u,(es.find? (·.key.isStr f.str)).map (·.val)=some u∧VRel X p as x u
  | [],_,xs,_,_,_,h=>by cases xs <;> exact nS h
  | _::_,[],_,_,h,_,_=>h.elim
  | g::fs,e::es,[],_,_,_,h=>by exact nS h
  | g::fs,e::es,y::ys,x,⟨⟨t,h1⟩,h2,h3⟩,⟨v,r,e1,a1,a2⟩,h=>by
    cases e1
    rw [JJ] at h
    rw [List.find?_cons]
    by_cases e2:g=f
    · subst e2
      rw [if_pos rfl] at h; (replace h:=iS h; subst h)
      exact ⟨e.val,by rw [h1]; simp [Value.isStr],a1⟩
    · rw [if_neg e2] at h
      have:Value.isStr e.key f.str=false:=by rw [h1]; exact beq_eq_false_iff_ne.mpr fun z=>e2 (Fld.inj z)
      rw [this]
      exact to (n:=n) h3 a2 h
theorem qZ {f:Fld} {es:List DictEntry} {n:Nat} {u:Value} (h:(es.find? (·.key.isStr f.str)).map (·.val)=some u):lookIn f.str (dictOf es n)=some (some u):=by
  rw [lookIn_dict]
  unfold getL
  refine bM h fun e he e2_=>?_
  clear h
  subst e2_
  rw [he]
theorem Di {a v:Val} {f:Fld} {u:Value} {ex:Bool} (e:fO mu a f=some v) (hK:X.K.In X.H₀) (hC:∀ c,ClsOK X c) (I:Inv X s₀ o p as mu F loc s) (r:VRel X p as a u)
    (K:Kv X s₀ o p as mu F loc Q v):wpAny (model X.prog X.w) A (getAttr u f.str ex) Q E s:=by
  rcases fM (G:=fun r=>r=some v) e with ⟨_,e1⟩ | ⟨i,hi,e1⟩
  · refine bg e1 fun y hy e2=>?_
    clear e1
    refine bg e2 fun q hq e3=>?_
    clear e2
    refine bM e3 fun x hx e2_=>?_
    clear e3
    subst e2_
    refine xe1 (Jk hq) fun c hc=>?_
    rw [gx hy,hc] at r
    have r':DRel X p (.obj c q.1 q.2) u:=r
    rw [H8] at r'
    obtain ⟨a,d,es,k,rfl,h1,h2,h3,h4⟩:=r'
    refine xe1 (to (n:=k) (as:=as) h3 (VRels.ofD h4) (oT hx)) fun w r_=>aN r_ fun hw vr=>?_
    obtain ⟨g1,g2⟩:=(hC c).get f
    exact get_value (I.K hK) ⟨I.ple _ _ h1,rfl,rfl,I.ple _ _ h2⟩ (plainGet_of g1).1 (findObj_own (hC c).dict g2 rfl (qZ (n:=k) hw)) (yS vr) (K.here I vr)
  · refine bg e1 fun q0_ hk e2=>?_
    clear e1
    obtain ⟨c,fs,xs⟩:=q0_
    refine bM e2 fun x hx e2_=>?_
    clear e2
    subst e2_
    rw [gR hi] at r
    obtain ⟨q,hq,rfl⟩:=r
    obtain ⟨es,k,h1,h2,h3,h4⟩:=I.mus _ _ _ hq (wx hk)
    refine xe1 (to (n:=k) h3 h4 hx) fun w r_=>aN r_ fun hw vr=>?_
    obtain ⟨g1,g2⟩:=(hC c).get f
    exact get_value (I.K hK) ⟨h1,rfl,rfl,h2⟩ (plainGet_of g1).1 (findObj_own (hC c).dict g2 rfl (qZ (n:=k) hw)) (yS vr) (K.here I (vr.norm I))
end
end Mine.Internal
namespace Mine.Internal
section
variable {M:Model} {A:Around} {E:Value→Shared→Prop} {s:Shared} {env:Env} {Q:Value→Shared→Prop}
noncomputable def eD (l:List Expr) (env:Env):List (Bool × Sem Value):=l.map fun e=>(false,eval e env)
theorem cB {env:Env}:∀ {l:List Expr},(∀ e ∈ l,bI e)→starEach l env=eD l env
  | [],_=>rfl
  | e::r,h=>by
    have h1:=h e (.head _)
    have h2:=cB (env:=env) fun x hx=>h x (.tail _ hx)
    cases e <;> first | exact (iD h1) | (show _::starEach r env=_; rw [h2]; rfl)
theorem c6 {env:Env} {pos:Pos}:∀ {l:List Expr},backTo pos (eD l env)=eD l env
  | []=>rfl
  | e::r=>by
    have:=c6 (env:=env) (pos:=pos) (l:=r)
    unfold backTo eD at this ⊢
    rw [List.map_cons,List.map_cons,this]; rfl
theorem d3 {l:List Expr}:(eD l env).any (·.1)=false:=by unfold eD; simp
theorem MtL.star {names:List Str}:∀ {es:CEs} {fz:List Str} {kd:Kd} {l:List Expr},MtL names fz kd es l→∀ e ∈ l,bI e
  | .nil,_,_,_,h=>h (fun l=>∀ e ∈ l,bI e) fun e h=>nomatch h
  | .cons _ _,_,_,_,h=>h (fun l=>∀ e ∈ l,bI e) fun x l hs Z r e he=>(List.mem_cons.mp he).elim (fun q=>q ▸ hs) (r.star e)
theorem ej {f:Value} {l:List Expr} {P:Args→Shared→Prop} (h:wpAny M A (spliced (eD l env)) (fun vs s'=>P ⟨vs,[]⟩ s') E s):wpAny M A (evalArgs f true (eD l env) []) P E s:=by
  cases l with
  | nil =>
    unfold evalArgs
    show wpAny M A (spliced [] >>= _) _ E s
    refine wpAny_bind (wpAny_mono h (fun vs s' h'=>?_) fun Z Z x=>x)
    exact wpAny_bind (wpAny_pure (wpAny_holding (wpAny_bind (wpAny_pure (wpAny_bind (wpAny_pure (wpAny_pure h')))))))
  | cons e r=>exact Calls.evalArgs_plain h
end
end Mine.Internal
namespace Mine.Internal
theorem mI {a:Expr} {nm:Str} {env:Env} (h:cR a):attributeBase a nm env (eval a env)=eval a env:=by cases a <;> first | rfl | exact (iD h)
theorem oh {l:List Expr} {env:Env}:(eD l env).all (fun x=>!x.1)=true:=by unfold eD; simp
section
variable {prog:Program} {w:World} {A:Around} {E:Value→Shared→Prop} {s:Shared} {env:Env} {Q:Value→Shared→Prop}
theorem gG {a:Expr} {name:Str} {p pos:Pos} {l:List Expr} {T id:String} (hc:cR a) (hl:(p.endLine == pos.line)=true) (hst:∀ e ∈ l,bI e) (hlen:l.length < 30)
    (pa:PlainAttrs T) (slot:Slot T name id) (hty:typeOf (.builtin id)=pure (.type "method_descriptor"))
    (h:wpAny (model prog w) A (eval a env) (fun ov s₁=>(s₁.TypeIs ov T∧∀ a,ov=.ref a→∃ ob,s₁.heap.get? a=some ob∧ob.dict=none) ∧
      wpAny (model prog w) A (spliced (eD l env)) (fun vs s₂=>wpAny (model prog w) A (call (.builtin id) (ov::vs)) Q E s₂) E s₁) E s) :
    wpAny (model prog w) A (eval (.Call (.Attribute a name p) l [] pos) env) Q E s:=by
  refine wpAny_Call_method (mI hc) ?_ hl pa slot hty (wpAny_mono h (fun ov s₁ h₁=>⟨h₁.1.1,h₁.1.2,?_⟩) fun Z Z x=>x)
  · rw [cB hst,c6,oh]
    have:backToKw pos (keywordEach [] env)=[]:=rfl
    simp [this]; exact hlen
  · rw [cB hst,c6]
    exact Calls.callWith_builtin d3 (ej h₁.2)
end
inductive LAt (as:As) (k:Nat) (u:Value) (h:Heap) (R:List Value→Prop):Prop
  | mk (q vs n):as[k]? = some q→u=.ref q.1→h.get? q.1=some (listOf vs n)→R vs.toList→LAt as k u h R
section
variable {X:Amb} {s₀ s:Shared} {o p:aE} {as:As} {mu mu':Mu} {F:Fm} {loc:ag} {A:Around} {E:Value→Shared→Prop} {Q:Value→Shared→Prop} {n:Nat}
theorem Inv.list_at (I:Inv X s₀ o p as mu F loc s) {k:Nat} {xs:List Val} {u:Value} (hk:mu[k]? = some (.list xs)) (r:VRel X p as (.r k) u) :
    LAt as k u s.heap (VRels X p as xs):=by
  obtain ⟨q,hq,rfl⟩:=r
  obtain ⟨vs,n,h1,h2⟩:=I.mus _ _ _ hq hk
  exact ⟨q,vs,n,hq,rfl,h1,h2⟩
theorem Ff {k:Nat} {xs:List Val} {v:Val} {u1 u2:Value} (hk:mu[k]? = some (.list xs)) (hl:xs.length < lim) (I:Inv X s₀ o p as mu F loc s) (r1:VRel X p as (.r k) u1) (r2:VRel X p as v u2)
    (K:Kv X s₀ o p as (mu.set k (.list (xs++[v]))) F loc Q (.d .none)):wpAny (model X.prog X.w) A (call (.builtin "list.append") [u1,u2]) Q E s:=by
  obtain ⟨q,vs,n,hq,rfl,h1,h2⟩:=I.list_at hk r1
  have hsz:xs.length=vs.size:=by simpa using h2.length
  refine append_at h1 (fun h' hs hg=>K.now (I.upd (m':=.list (xs++[v])) hq hk rfl (a:=q.1) (by simp [kg]) hs ⟨_,hg⟩ ⟨_,_,hg,by simpa using h2.snoc r2⟩) hU) (fu (by omega))
theorem FB {k:Nat} {xs:List Val} {ds:List Dat} {u1 u2:Value} (hk:mu[k]? = some (.list xs)) (hl:xs.length+ds.length≤lim) (I:Inv X s₀ o p as mu F loc s) (r1:VRel X p as (.r k) u1) (r2:VRel X p as (.d (.lst ds)) u2)
    (K:Kv X s₀ o p as (mu.set k (.list (xs++ds.map .d))) F loc Q (.d .none)):wpAny (model X.prog X.w) A (call (.builtin "list.extend") [u1,u2]) Q E s:=by
  obtain ⟨q,vs,n,hq,rfl,h1,h2⟩:=I.list_at hk r1
  refine RSeq.el (iw r2) fun b ws m e3_ h3 h4=>?_
  subst e3_
  have e1:xs.length=vs.size:=by simpa using h2.length
  have e2:ds.length=ws.size:=by simpa using h4.length
  have hz:vs.size+ws.size≤lim:=by exact ed hl e1 e2
  have hne:q.1 ≠ b:=fun e=>by
    have:=(I.out q.1 (List.mem_cons_of_mem _ (List.mem_append_right _ (fy hq hk q.1 (by simp [kg]))))).1
    rw [e,h3] at this; exact nS this.symm
  refine call_meets PySem.F.slot_list_extend ⟨_,h1,rfl⟩ PySem.F.entry_list_extend (PySem.F.args_list_extend_2 _ _) (PySem.AutoSeq1.list_extend_list_list_0 q.1 vs n b ws m (by simp [Builtin.List.listTooLong,sizeLine_eq]; unfold lim at hz; omega) (fu (by exact lq hz rfl)) (by have:=fu hz; exact lb hz rfl)) ⟨h1,I.ple _ _ h3,?_⟩
  have up:(s.heap.update q.1 (Obj.mapSeq fun x=>x++ws)).get? q.1=some (listOf (vs++ws) _):=IsL.update (show IsL s.heap q.1 vs n from h1) _
  exact K.here (I.upd (m':=.list (xs++ds.map .d)) hq hk rfl (a:=q.1) (by simp [kg]) (Heap.SameBut.update ..) ⟨_,up⟩ ⟨_,_,up,by simpa using h2.append (.ofD h4)⟩) hU
end
end Mine.Internal
namespace Mine.Internal
section
variable {X:Amb} {p:aE}
noncomputable def Side (X:Amb) (p:aE) (ks:List (Int × Dat)) (kvs:List (Int × Value)):Prop:=kvs.map (·.1)=ks.map (·.1)∧DRels X p (ks.map (·.2)) (kvs.map (·.2))
theorem Side.nil:Side X p [] []:=⟨rfl,by simp [ds0]⟩
theorem Side.cons {k:Int} {d:Dat} {u:Value} {ks:List (Int × Dat)} {kvs:List (Int × Value)} (a:DRel X p d u) (h:Side X p ks kvs):Side X p ((k,d)::ks) ((k,u)::kvs) :=
  ⟨by simp [h.1],by rw [List.map_cons,List.map_cons,j8]; exact ⟨_,_,rfl,a,h.2⟩⟩
theorem Side.cases {P:List (Int × Dat)→List (Int × Value)→Prop} (h0:P [] []) (h1:∀ k d u ks kvs,DRel X p d u→Side X p ks kvs→P ks kvs→P ((k,d)::ks) ((k,u)::kvs)):∀ {ks:List (Int × Dat)} {kvs:List (Int × Value)},Side X p ks kvs→P ks kvs
  | [],[],_=>h0
  | [],_::_,h=>by have:=h.1; simp at this
  | _::_,[],h=>by have:=h.1; simp at this
  | (k,d)::ks,(k',u)::kvs,h=>by
    obtain ⟨a,b⟩:=h
    rw [List.map_cons,List.map_cons,j8] at b
    obtain ⟨v,r,e,b1,b2⟩:=b
    cases e
    simp only [List.map_cons,List.cons.injEq] at a
    obtain ⟨rfl,a⟩:=a
    exact h1 _ _ _ _ _ b1 ⟨a,b2⟩ (Side.cases h0 h1 ⟨a,b2⟩)
theorem Side.look {i:Int} {ks:List (Int × Dat)} {kvs:List (Int × Value)} (h:Side X p ks kvs):(ks.lookup i=none∧valueAt kvs i=none)∨∃ d u,ks.lookup i=some d∧valueAt kvs i=some u∧DRel X p d u:=by
  refine Side.cases (P:=fun ks kvs=>(ks.lookup i=none∧valueAt kvs i=none)∨∃ d u,ks.lookup i=some d∧valueAt kvs i=some u∧DRel X p d u) (.inl ⟨rfl,rfl⟩) (fun k d u ks kvs a Z ih=>?_) h
  unfold valueAt at ih ⊢
  rw [List.lookup_cons,List.find?_cons]
  by_cases e:i=k
  · subst e
    simp only [beq_self_eq_true,decide_true]
    exact .inr ⟨d,u,rfl,rfl,a⟩
  · have e1:(i == k)=false:=beq_eq_false_iff_ne.mpr e
    have e2:¬ k=i:=fun q=>e q.symm
    simp only [e1,e2,decide_false]
    exact ih
theorem Side.any {i:Int} {ks:List (Int × Dat)} {kvs:List (Int × Value)} (h:Side X p ks kvs):kvs.any (fun kv=>kv.1=i)=ks.any (fun kv=>kv.1=i):=by
  refine Side.cases (P:=fun ks kvs=>kvs.any (fun kv=>kv.1=i)=ks.any (fun kv=>kv.1=i)) rfl (fun k d u ks kvs a Z ih=>?_) h
  rw [List.any_cons,List.any_cons,ih]
theorem Side.app {k:Int} {d:Dat} {u:Value} {ks:List (Int × Dat)} {kvs:List (Int × Value)} (a:DRel X p d u) (h:Side X p ks kvs):Side X p (ks++[(k,d)]) (kvs++[(k,u)]) :=
  Side.cases (P:=fun ks kvs=>Side X p (ks++[(k,d)]) (kvs++[(k,u)])) (.cons a .nil) (fun Z Z Z Z Z b Z ih=>.cons b ih) h
theorem Side.put {i:Int} {d:Dat} {u:Value} {ks:List (Int × Dat)} {kvs:List (Int × Value)} (a:DRel X p d u) (h:Side X p ks kvs):Side X p (ci i d ks) (PySem.stored kvs i u):=by
  unfold ci PySem.stored
  rw [h.any]
  split
  · refine Side.cases (P:=fun ks kvs=>Side X p (ks.map fun kv=>if kv.1=i then (kv.1,d) else kv) (kvs.map fun kv=>if kv.1=i then (kv.1,u) else kv)) .nil (fun k Z Z Z Z b Z ih=>?_) h
    rw [List.map_cons,List.map_cons]
    by_cases e:k=i
    · simp only [e,if_true]; exact .cons a ih
    · simp only [e,if_false]; exact .cons b ih
  · exact h.app a
theorem Side.del {i:Int} {ks:List (Int × Dat)} {kvs:List (Int × Value)} (h:Side X p ks kvs):Side X p (cM i ks) (PySem.without kvs i):=by
  unfold cM PySem.without
  refine Side.cases (P:=fun ks kvs=>Side X p (ks.filter fun kv=>decide (kv.1 ≠ i)) (kvs.filter fun kv=>decide (kv.1 ≠ i))) .nil (fun k Z Z Z Z b Z ih=>?_) h
  rw [List.filter_cons,List.filter_cons]
  by_cases e:k=i
  · simp only [e,ne_eq,not_true_eq_false,decide_false,Bool.false_eq_true,if_false]; simpa using ih
  · simp only [e,ne_eq,not_false_eq_true,decide_true,if_true]; exact .cons b (by simpa using ih)
theorem Side.length {ks:List (Int × Dat)} {kvs:List (Int × Value)} (h:Side X p ks kvs):kvs.length=ks.length:=by have:=congrArg List.length h.1; simpa using this
end
section
variable {X:Amb} {s₀ s:Shared} {o p:aE} {as:As} {mu mu':Mu} {F:Fm} {loc:ag} {A:Around} {E:Value→Shared→Prop} {Q:Value→Shared→Prop} {n:Nat}
theorem DD {k:Nat} {x:Val} {xs:List Val} {u1:Value} {t:Tok} (hk:mu[k]? = some (.list (x::xs))) (hl:xs.length < lim) (I:Inv X s₀ o p as mu F loc s) (r1:VRel X p as (.r k) u1)
    (K:Kv X s₀ o p as (mu.set k (.list xs)) F loc Q x):wpAny (model X.prog X.w) A (call (.builtin "list.pop") [u1,.int 0 t]) Q E s:=by
  obtain ⟨q,vs,n,hq,rfl,h1,h2⟩:=I.list_at hk r1
  obtain ⟨v,r,e,a,b⟩:=h2
  have ev:vs=(v::r).toArray:=by rw [← e]
  subst ev
  have e1:=b.length
  refine call_meets PySem.F.slot_list_pop ⟨_,h1,rfl⟩ PySem.F.entry_list_pop (PySem.F.args_list_pop_2 _ _) (PySem.MeetsSeq.list_pop_at q.1 _ n 0 t 0 v (by decide +kernel) (by simp [seqIndex?]) rfl (by rw [sizeLine_eq]; simp; unfold lim at hl; omega)) ⟨h1,?_⟩
  have up:(s.heap.update q.1 (Obj.mapSeq fun x=>x.eraseIdxIfInBounds 0)).get? q.1=some (listOf ((v::r).toArray.eraseIdxIfInBounds 0) _):=IsL.update (show IsL s.heap q.1 _ n from h1) _
  exact K.now (I.upd (m':=.list xs) hq hk rfl (a:=q.1) (by simp [kg]) (Heap.SameBut.update ..) ⟨_,up⟩ ⟨_,_,up,by simpa using b⟩) a
inductive IAt (X:Amb) (p:aE) (as:As) (k:Nat) (u:Value) (h:Heap) (ks:List (Int × Dat)):Prop
  | mk (q kvs):as[k]? = some q→u=.ref q.1→(q.1 == sysModules)=false→h.DictOf (intKind X.prog X.w) q.1 kvs→Side X p ks kvs→IAt X p as k u h ks
theorem Inv.idict_at (I:Inv X s₀ o p as mu F loc s) {k:Nat} {ks:List (Int × Dat)} {u:Value} (hk:mu[k]? = some (.idict ks)) (r:VRel X p as (.r k) u) :
    IAt X p as k u s.heap ks:=by
  obtain ⟨q,hq,rfl⟩:=r
  obtain ⟨h0,kvs,h1,h2,h3⟩:=I.mus _ _ _ hq hk
  exact ⟨q,kvs,hq,rfl,h0,h1,h2,h3⟩
theorem mc {i:Int} {t:Tok}:(intKind X.prog X.w).is i (.int i t)=true:=by simp [intKind,Value.isInt]
theorem C7 {k:Nat} {ks:List (Int × Dat)} {i:Int} {z:Dat} {u1 u2 u3:Value} (hk:mu[k]? = some (.idict ks)) (I:Inv X s₀ o p as mu F loc s) (r1:VRel X p as (.r k) u1) (r2:VRel X p as (.d (.int i)) u2) (r3:VRel X p as (.d z) u3)
    (K:Kv X s₀ o p as mu F loc Q (.d ((ks.lookup i).getD z))):wpAny (model X.prog X.w) A (call (.builtin "dict.get") [u1,u2,u3]) Q E s:=by
  obtain ⟨q,kvs,hq,rfl,h0,h1,h2⟩:=I.idict_at hk r1
  refine xe1 (cP r2) fun t e1_=>?_
  rw [e1_]
  refine call_meetsIn PySem.F.slot_dict_get h1.typeIs PySem.F.entry_dict_get (PySem.F.args_dict_get_3 _ _ _) (meets_dict_get_default (knd:=intKind X.prog X.w) (hkey:=mc) (hd:=h0) (dflt:=u3)) ⟨_,h1.mapOf,K.here I ?_⟩
  rcases h2.look (i:=i) with ⟨a,b⟩ | ⟨d,u,a,b,c⟩ <;> rw [a,b]
  · exact r3
  · exact c
theorem Ef {k:Nat} {ks:List (Int × Dat)} {i:Int} {u1 u2:Value} (hk:mu[k]? = some (.idict ks)) (I:Inv X s₀ o p as mu F loc s) (r1:VRel X p as (.r k) u1) (r2:VRel X p as (.d (.int i)) u2)
    (K:Kv X s₀ o p as mu F loc Q (.d ((ks.lookup i).getD .none))):wpAny (model X.prog X.w) A (call (.builtin "dict.get") [u1,u2]) Q E s:=by
  obtain ⟨q,kvs,hq,rfl,h0,h1,h2⟩:=I.idict_at hk r1
  refine xe1 (cP r2) fun t e1_=>?_
  subst e1_
  refine call_meetsIn PySem.F.slot_dict_get h1.typeIs PySem.F.entry_dict_get (PySem.F.args_dict_get_2 _ _) (meets_dict_get (knd:=intKind X.prog X.w) (hkey:=mc) (hd:=h0)) ⟨_,h1.mapOf,K.here I ?_⟩
  rcases h2.look (i:=i) with ⟨a,b⟩ | ⟨d,u,a,b,c⟩ <;> rw [a,b]
  · exact hU
  · exact c
theorem oB {prog:Program} {w:World} {K:Type} [DecidableEq K] {knd:KeyKind prog w K} {d:Addr} {k:K} {key dflt:Value} (hd:(d == sysModules)=false) (hkey:knd.is k key=true) (hpart:(keyPart key).isSome=true) :
    MeetsIn prog w (Builtin.«dict.pop» ⟨[.ref d,key,dflt],[]⟩) (fun Z R s=>∃ kvs,s.heap.DictOf knd d kvs∧kvs.length≤sizeLine∧valueAt kvs k=none∧R (.ok (.ret dflt)) { s with toks:=s.toks+1 }) :=
  .of_wp fun A R s ⟨kvs,hm,hsz,hv,h⟩=>by
    unfold Builtin.«dict.pop»
    refine wpAny_bind ?_
    unfold Builtin.Dict.keyAndDefault
    refine wpAny_bind (wpAny_notOrdered_dict hm.typeIs ?_)
    show wpAny _ _ (pure (d,key,some dflt)) _ _ s
    refine wpAny_pure ?_
    simp only [hpart,if_true]
    refine wpAny_bind (wpAny_pure ?_)
    simp only [Bool.false_eq_true,if_false]
    refine wpAny_bind (wpAny_takeOut_pairs (hsz:=hsz) hkey hm (fun Z=>?_) fun e Z he=>by rw [he] at hv; exact nS hv.symm)
    simp only [Option.isNone_none,if_true]
    exact wpAny_bind (wpAny_missedRemoval_other hd (wpAny_bind (wpAny_rule (wpAny_pure ⟨_,rfl,h⟩))))
theorem DH {k:Nat} {ks:List (Int × Dat)} {i:Int} {u1 u2:Value} (hk:mu[k]? = some (.idict ks)) (hl:ks.length≤lim) (I:Inv X s₀ o p as mu F loc s) (r1:VRel X p as (.r k) u1) (r2:VRel X p as (.d (.int i)) u2)
    (K:Kv X s₀ o p as (mu.set k (.idict (cM i ks))) F loc Q (.d ((ks.lookup i).getD .none))):wpAny (model X.prog X.w) A (call (.builtin "dict.pop") [u1,u2,.none]) Q E s:=by
  obtain ⟨q,kvs,hq,rfl,h0,h1,h2⟩:=I.idict_at hk r1
  refine xe1 (cP r2) fun t e1_=>?_
  subst e1_
  have hz:kvs.length≤sizeLine:=by rw [h2.length]; exact fu hl
  rcases h2.look (i:=i) with ⟨a,b⟩ | ⟨d,u,a,b,c⟩
  · refine call_meetsIn PySem.F.slot_dict_pop h1.typeIs PySem.F.entry_dict_pop (PySem.F.args_dict_pop_3 _ _ _) (oB h0 mc rfl) ⟨kvs,h1,hz,b,K.here ?_ ?_⟩
    · have e:cM i ks=ks:=by
        unfold cM
        refine List.filter_eq_self.mpr fun kv hkv=>decide_eq_true fun q=>?_
        subst q
        have:ks.lookup kv.1 ≠ none:=by
          clear hk a h2 K hl hz
          induction ks with
          | nil=>cases hkv
          | cons x xs ih =>
            rw [List.lookup_cons]
            split
            · simp
            · rcases List.mem_cons.mp hkv with rfl | z
              · rename_i w; simp at w
              · exact ih z
        exact this a
      have e2:mu.set k (.idict ks)=mu:=by
        refine xe1 (List.getElem?_eq_some_iff.mp hk) fun h1 h2=>?_
        rw [← h2,List.set_getElem_self]
      rw [e,e2]; exact I
    · rw [a]; exact hU
  · refine call_meetsIn PySem.F.slot_dict_pop h1.typeIs PySem.F.entry_dict_pop (PySem.F.args_dict_pop_3 _ _ _) (meets_dict_pop_there (knd:=intKind X.prog X.w) (d:=q.1) (hkey:=mc) (rest:=[.none]) (hrest:=.inr ⟨_,rfl⟩) (hpart:=rfl)) ⟨kvs,u,h1,hz,b,fun h' hd hs=>K.here (I.upd (m':=.idict (cM i ks)) hq hk rfl (a:=q.1) (by simp [Em]) hs ?_ ⟨h0,_,hd,h2.del⟩) ?_⟩
    · obtain ⟨ob,_,_,e,_⟩:=hd; exact ⟨ob,e⟩
    · rw [a]; exact c
theorem ItemsAre.two {i j:Int} {a b:Value} (ha:(intKind X.prog X.w).is i a=true) (hb:(intKind X.prog X.w).is j b=true):ItemsAre (intKind X.prog X.w) [i,j] [a,b]:=.cons ha (.cons hb .nil)
theorem sy {i j:Int} {u:Value} (r:VRel X p as (.d (.tup [.int i,.int j])) u):∃ a ob,u=.ref a∧p a=some ob∧KeyObj X [i,j] ob:=by
  refine RSeq.el (fR r) fun a vs n e3_ h1 h2=>?_
  rw [e3_]
  rw [j8] at h2
  obtain ⟨v,r,e,a1,h2⟩:=h2
  rw [j8] at h2
  obtain ⟨v',r',e',a2,h2⟩:=h2
  rw [ds0] at h2
  subst h2
  subst e'
  rw [te] at a1 a2
  obtain ⟨t,rfl⟩:=a1
  obtain ⟨t',rfl⟩:=a2
  exact ⟨a,_,rfl,h1,rfl,vs,n,rfl,e ▸ ItemsAre.two mc mc⟩
theorem KeyObj.is {ks:List Int} {ob:Obj} {a:Addr} {h:Heap} (k:KeyObj X ks ob) (e:h.get? a=some ob):(tupleKind (intKind X.prog X.w)).is h ks a:=by
  obtain ⟨h1,items,n,h2,h3⟩:=k
  exact ⟨ob,items,n,e,h1,h2,h3⟩
noncomputable abbrev Hb (X:Amb) (p:aE) (xs:List (List Int × Addr × Value)):Prop:=∀ x ∈ xs,(∃ ob,p x.2.1=some ob∧KeyObj X x.1 ob)∧∃ k t,x.2.2=.int k t
inductive SAt (X:Amb) (p:aE) (as:As) (k:Nat) (u:Value) (h:Heap) (b:Nat):Prop
  | mk (q xs):as[k]? = some q→u=.ref q.1→(q.1 == sysModules)=false→h.DictOfH (tupleKind (intKind X.prog X.w)) q.1 xs→Hb X p xs→xs.length≤b→SAt X p as k u h b
theorem Inv.spots_at (I:Inv X s₀ o p as mu F loc s) {k b:Nat} {u:Value} (hk:mu[k]? = some (.spots b)) (r:VRel X p as (.r k) u) :
    SAt X p as k u s.heap b:=by
  obtain ⟨q,hq,rfl⟩:=r
  obtain ⟨h0,es,n,xs,h1,h2,h3,h4,h5⟩:=I.mus _ _ _ hq hk
  refine ⟨q,xs,hq,rfl,h0,⟨_,es.toArray,n,h1,⟨rfl,rfl,rfl⟩,rfl,by simpa using h2,fun x hx=>?_,h4⟩,h3,h5⟩
  obtain ⟨⟨ob,e,k⟩,_⟩:=h3 x hx
  exact k.is (I.ple _ _ e)
theorem zO {k b:Nat} {i j:Int} {u1 u2:Value} {t:Tok} (hR:Rm n A) (hk:mu[k]? = some (.spots b)) (I:Inv X s₀ o p as mu F loc s) (r1:VRel X p as (.r k) u1) (r2:VRel X p as (.d (.tup [.int i,.int j])) u2)
    (K:Kv X s₀ o p as mu F loc Q (.d .any)):wpAny (model X.prog X.w) A (call (.builtin "dict.get") [u1,u2,.int 0 t]) Q E s:=by
  obtain ⟨q,xs,hq,rfl,h0,h1,h2,h3⟩:=I.spots_at hk r1
  refine xe2 (sy r2) fun a ob r_=>gD r_ fun e2_ ha kk=>?_
  rw [e2_]
  refine call_meetsIn PySem.F.slot_dict_get h1.typeIs PySem.F.entry_dict_get (PySem.F.args_dict_get_3 _ _ _) (meetsH_dict_get_default (knd:=tupleKind (intKind X.prog X.w)) (d:=q.1) (a:=a) (hd:=h0) (dflt:=.int 0 t))
    ⟨tupleKind_room_in1 (by have:=hR.units; omega),_,xs,kk.is (I.ple _ _ ha),h1,K.here I ?_⟩
  show DRel X p .any _
  rw [HZ]
  cases e:atKey xs [i,j] with
  | none=>exact ⟨0,t,rfl⟩
  | some z =>
    unfold atKey at e
    refine bM e fun x hx e2_=>?_
    clear e
    subst e2_
    obtain ⟨_,k',t',e'⟩:=h2 x (List.mem_of_find?_eq_some hx)
    exact ⟨k',t',e'⟩
theorem rl {o:Obj} {es:Array DictEntry} {n:Nat} (h:o.ExactDict) (hd:o.data=.dict es n):o=dictOf es.toList n:=by
  obtain ⟨c,d,dt,sl⟩:=o
  obtain ⟨h1,h2,h3⟩:=h
  dsimp only at h1 h2 h3 hd
  subst h1; subst h2; subst h3; subst hd
  simp
theorem xU {k b:Nat} {i j:Int} {u1 u2 u3:Value} {Q:Unit→Shared→Prop} (hR:Rm n A) (hk:mu[k]? = some (.spots b)) (hb:b < lim) (I:Inv X s₀ o p as mu F loc s) (r1:VRel X p as (.r k) u1) (r2:VRel X p as (.d (.tup [.int i,.int j])) u2)
    (r3:VRel X p as (.d .any) u3) (K:∀ s',Inv X s₀ o p as (mu.set k (.spots (b+1))) F loc s'→Q () s'):wpAny (model X.prog X.w) A (setItem u1 u2 u3) Q E s:=by
  obtain ⟨q,xs,hq,rfl,h0,h1,h2,h3⟩:=I.spots_at hk r1
  refine xe2 (sy r2) fun a ob r_=>gD r_ fun e2_ ha kk=>?_
  rw [e2_]
  have r3':DRel X p .any u3:=r3
  rw [HZ] at r3'
  obtain ⟨z,t,rfl⟩:=r3'
  refine wpAny_setItem_heap (knd:=tupleKind (intKind X.prog X.w)) (tupleKind_room_in1 (by have:=hR.units; omega)) (kk.is (I.ple _ _ ha)) h1 (fun h' hd hs=>K _ ((I.upd (m':=.spots (b+1)) hq hk rfl (a:=q.1) (by simp [tK]) hs ?_ ?_).tok _)) (fu (by exact I9 hb h3))
  · obtain ⟨ob,_,_,e,_⟩:=hd; exact ⟨ob,e⟩
  · obtain ⟨ob',es,ep,e,h4,h5,h6,h7,h8⟩:=hd
    refine ⟨h0,es.toList,ep,storedH xs [i,j] a (.int z t),by rw [e,rl h4 h5],h6,?_,h8,?_⟩
    · intro x hx
      unfold storedH at hx
      split at hx
      · refine xe1 (List.mem_map.mp hx) fun y r_=>aN r_ fun hy e2_=>?_
        rw [← e2_]
        obtain ⟨a1,a2⟩:=h2 y hy
        unfold putAt
        split
        · exact ⟨a1,z,t,rfl⟩
        · exact ⟨a1,a2⟩
      · rcases List.mem_append.mp hx with hx | hx
        · exact h2 x hx
        · rw [List.mem_singleton] at hx
          rw [hx]
          exact ⟨⟨ob,ha,kk⟩,z,t,rfl⟩
    · unfold storedH
      split <;> simp <;> omega
end
end Mine.Internal
namespace Mine.Internal
section
variable {X:Amb} {s₀ s:Shared} {o p:aE} {as:As} {mu mu':Mu} {F:Fm} {loc:ag} {A:Around} {E:Value→Shared→Prop} {Q:Unit→Shared→Prop} {n:Nat}
theorem rN {l:Addr} {items:Array Value} {m:Nat} {k:Int} {t:Tok} {v:Value} (hl:s.heap.get? l=some (listOf items m)) (h0:0≤k) (hfit:k < 2 ^ 63) (hn:k < items.size)
    (hQ:∀ m' h',h'.get? l=some (listOf (items.setIfInBounds k.toNat v) m')→Heap.SameBut l s.heap h'→Q () { s with heap:=h' }):wpAny (model X.prog X.w) A (setItem (.ref l) (.int k t) v) Q E s:=by
  have hT:s.TypeIs (.ref l) "list" := ⟨_,hl,rfl⟩
  unfold setItem
  try with_reducible refine wpAny_holding ?_
  first | refine wpAny_bind (wpAny_pure ?_) | skip
  refine wpAny_bind (wpAny_sequenceKey hT (by decide) ?_)
  refine wpAny_bind (wpAny_callSpecial?_slot (name:=Str.ofString "__setitem__") hT slot_list_setitem
    (wpAny_call_entry slot_list_setitem hT entry_list_setitem ?_ (args_list_setitem _ _ _)))
  show wpAny _ _ (Builtin.List.listSubscript? (.int k t) >>= _) _ _ s
  refine wpAny_bind (wpAny_listSubscript_int (fitsIndex_of h0 hfit) ?_)
  clear hfit
  refine xe1 (Int.eq_ofNat_of_zero_le h0) fun j e1_=>?_
  subst e1_
  have hj:j < items.size:=by omega
  have hx':items[j]? = some items[j]:=Array.getElem?_eq_getElem hj
  show wpAny _ _ ((seqItemAt l j >>= fun r=>pure (r.map (j,·))) >>= _) _ _ s
  refine wpAny_bind (wpAny_bind (wpAny_seqItemAt hl rfl (wpAny_pure ?_)))
  rw [hx']
  show wpAny _ _ (setSeqItemAt l j v >>= _) _ _ s
  have up:(s.heap.update l (Obj.mapSeq fun x=>x.setIfInBounds j v)).get? l=some (listOf (items.setIfInBounds j v) _):=IsL.update (show IsL s.heap l items m from hl) _
  refine wpAny_bind (wpAny_setSeqItemAt hl rfl ?_)
  first
    | exact wpAny_bind (wpAny_pure (wpAny_pure ⟨.none,rfl,wpAny_pure (hQ _ _ up (Heap.SameBut.update ..))⟩))
    | exact wpAny_pure ⟨.none,rfl,wpAny_pure (hQ _ _ up (Heap.SameBut.update ..))⟩
theorem Ao {k j:Nat} {xs:List Val} {i:Int} {x:Val} {u1 u2 u3:Value} (hk:mu[k]? = some (.list xs)) (hj:dg i xs.length=some j) (I:Inv X s₀ o p as mu F loc s) (r1:VRel X p as (.r k) u1) (r2:VRel X p as (.d (.int i)) u2)
    (r3:VRel X p as x u3) (K:∀ s',Inv X s₀ o p as (mu.set k (.list (xs.set j x))) F loc s'→Q () s'):wpAny (model X.prog X.w) A (setItem u1 u2 u3) Q E s:=by
  obtain ⟨q,vs,n,hq,rfl,h1,h2⟩:=I.list_at hk r1
  refine xe1 (cP r2) fun t e1_=>?_
  subst e1_
  refine vp (mn hj) fun i1 e1_ i3 i4=>?_
  subst e1_
  have hz:xs.length=vs.size:=by simpa using h2.length
  refine rN h1 i1 (by exact ib i4 rfl) (by omega) fun m' h' hl hs=>K _ (I.upd (m':=.list (xs.set i.toNat x)) hq hk rfl (a:=q.1) (by simp [kg]) hs ⟨_,hl⟩ ⟨_,_,hl,?_⟩)
  simpa using h2.set i.toNat r3
theorem zN {k:Nat} {ks:List (Int × Dat)} {i:Int} {x:Dat} {u1 u2 u3:Value} (hk:mu[k]? = some (.idict ks)) (hl:ks.length < lim) (I:Inv X s₀ o p as mu F loc s) (r1:VRel X p as (.r k) u1) (r2:VRel X p as (.d (.int i)) u2)
    (r3:VRel X p as (.d x) u3) (K:∀ s',Inv X s₀ o p as (mu.set k (.idict (ci i x ks))) F loc s'→Q () s'):wpAny (model X.prog X.w) A (setItem u1 u2 u3) Q E s:=by
  obtain ⟨q,kvs,hq,rfl,h0,h1,h2⟩:=I.idict_at hk r1
  refine xe1 (cP r2) fun t e1_=>?_
  subst e1_
  refine wpAny_setItem_pairs (knd:=intKind X.prog X.w) mc h1 (fun h' hd hs=>K _ ((I.upd (m':=.idict (ci i x ks)) hq hk rfl (a:=q.1) (by simp [Em]) hs ?_ ⟨h0,_,hd,h2.put r3⟩).tok _)) (fu (by rw [h2.length]; exact bt hl rfl))
  obtain ⟨ob,_,_,e,_⟩:=hd; exact ⟨ob,e⟩
theorem rh {w:W} {x:Val} {u:Value}:∀ {ks:List W} {xs:List Val} {kvs:List (Str × Value)},kvs.map (·.1)=ks.map W.str→VRels X p as xs (kvs.map (·.2))→VRel X p as x u →
    (kvs.map fun kv=>if kv.1=w.str then (kv.1,u) else kv).map (·.1)=ks.map W.str∧VRels X p as (lV w x ks xs) ((kvs.map fun kv=>if kv.1=w.str then (kv.1,u) else kv).map (·.2))
  | [],xs,[],_,h,_=>by
    have:xs=[]:=by have:=h.length; simpa using this
    subst this
    exact ⟨rfl,rfl⟩
  | [],_,_::_,h,_,_=>by simp at h
  | _::_,_,[],h,_,_=>by simp at h
  | k::ks,[],q::kvs,_,h,_=>by have:=h.length; simp at this
  | k::ks,y::ys,q::kvs,hk,h,r=>by
    obtain ⟨v,z,e,a1,a2⟩:=h
    cases e
    simp only [List.map_cons,List.cons.injEq] at hk
    obtain ⟨b1,b2⟩:=rh hk.2 a2 r
    have e1:(q.1=w.str) ↔ k=w:=⟨fun e=>W.inj (hk.1 ▸ e),fun e=>by rw [hk.1,e]⟩
    unfold lV
    simp only [List.map_cons,List.zipWith_cons_cons]
    by_cases e:k=w
    · have e':=e1.mpr e
      simp only [e,e',if_true]
      exact ⟨by rw [b1],_,_,rfl,r,b2⟩
    · have e':¬ q.1=w.str:=fun z=>e (e1.mp z)
      simp only [e,e',if_false]
      exact ⟨by rw [b1,hk.1],_,_,rfl,a1,b2⟩
theorem yl {k:Nat} {ks:List W} {xs:List Val} {w:W} {x:Val} {u1 u2 u3:Value} (hk:mu[k]? = some (.sdict ks xs)) (hc:ks.contains w=true) (hl:ks.length≤lim) (I:Inv X s₀ o p as mu F loc s) (r1:VRel X p as (.r k) u1) (r2:VRel X p as (.d (.str w)) u2)
    (r3:VRel X p as x u3) (K:∀ s',Inv X s₀ o p as (mu.set k (.sdict ks (lV w x ks xs))) F loc s'→Q () s'):wpAny (model X.prog X.w) A (setItem u1 u2 u3) Q E s:=by
  obtain ⟨q,hq,rfl⟩:=r1
  obtain ⟨h0,kvs,h1,h2,h3⟩:=I.mus _ _ _ hq hk
  refine xe1 (t6 r2) fun t e1_=>?_
  subst e1_
  have hlen:kvs.length=ks.length:=by have:=congrArg List.length h2; simpa using this
  have any:kvs.any (fun kv=>kv.1=w.str)=true:=by
    have:=m7 (w:=w) h2
    rw [hc] at this
    refine xe1 (List.mem_map.mp (of_decide_eq_true this)) fun kv r_=>aN r_ fun a b=>?_
    exact List.any_eq_true.mpr ⟨kv,a,decide_eq_true b⟩
  have st:stored kvs w.str u3=kvs.map fun kv=>if kv.1=w.str then (kv.1,u3) else kv:=by unfold stored; rw [any]; rfl
  refine aN (rh (w:=w) h2 h3 r3) fun b1 b2=>?_
  refine wpAny_setItem_pairs (knd:=strKind X.prog X.w) (strKind_is _ _ _ _) h1 (fun h' hd hs=>K _ ((I.upd (m':=.sdict ks (lV w x ks xs)) hq hk rfl (a:=q.1) (by simp [zj]) hs ?_ ⟨h0,_,hd,by rw [st]; exact b1,by rw [st]; exact b2⟩).tok _)) (fu (by exact Jv hl hlen))
  obtain ⟨ob,_,_,e,_⟩:=hd; exact ⟨ob,e⟩
theorem Dq {fs:List Fld}:∀ {es:List DictEntry} {xs:List Val} {f:Fld} {x:Val} {u:Value} {t:Tok} , g6 X.w.params (fs.map Fld.str) es→VRels X p as xs (es.map (·.val))→VRel X p as x u →
    g6 X.w.params ((jZ f fs).map Fld.str) (putL f.str (PyData.keyHash X.w.params f.str) (.str f.str t) u es)∧VRels X p as (jm f x fs xs) ((putL f.str (PyData.keyHash X.w.params f.str) (.str f.str t) u es).map (·.val)):=by
  induction fs with
  | nil =>
    intro es xs f x u t hk hv hr
    cases es with
    | cons _ _=>exact hk.elim
    | nil =>
      have:xs=[]:=by have:=hv.length; simpa using this
      rw [this]
      exact ⟨⟨⟨t,rfl⟩,rfl,trivial⟩,u,[],rfl,hr,rfl⟩
  | cons g fs ih =>
    intro es xs f x u t hk hv hr
    cases es with
    | nil=>exact hk.elim
    | cons e es =>
      obtain ⟨⟨t',h1⟩,h2,h3⟩:=hk
      cases xs with
      | nil=>have:=hv.length; simp at this
      | cons y ys =>
        obtain ⟨v,r,e1,a1,a2⟩:=hv
        cases e1
        rw [EQ]; rw [Ed]; unfold putL
        by_cases e2:g=f
        · subst e2
          have e3:Value.isStr e.key g.str=true:=by rw [h1]; simp [Value.isStr]
          simp only [e3,if_true]
          exact ⟨⟨⟨t',h1⟩,h2,h3⟩,u,_,rfl,hr,a2⟩
        · have e3:Value.isStr e.key f.str=false:=by rw [h1]; exact beq_eq_false_iff_ne.mpr fun z=>e2 (Fld.inj z)
          simp only [e2,if_false,e3,Bool.false_eq_true]
          obtain ⟨b1,b2⟩:=ih (f:=f) (x:=x) (u:=u) (t:=t) h3 a2 hr
          exact ⟨⟨⟨t',h1⟩,h2,b1⟩,_,_,rfl,a1,b2⟩
theorem pf {P:Params}:∀ {fs:List Fld} {es:List DictEntry},g6 P (fs.map Fld.str) es→es.any (·.refKey)=false
  | [],[],_=>rfl
  | [],_::_,h=>h.elim
  | _::_,[],h=>h.elim
  | g::fs,e::es,⟨⟨t,h1⟩,h2,h3⟩=>by
    rw [List.any_cons,pf h3,Bool.or_false]
    unfold DictEntry.refKey; rw [h1]
theorem nW {f:Str} {h:Int} {k v:Value}:∀ {es:List DictEntry},(putL f h k v es).length≤es.length+1
  | []=>by simp [putL]
  | e::es=>by
    unfold putL
    split
    · simp
    · simpa using nW (es:=es)
theorem z0 {k:Nat} {c:Cls} {fs:List Fld} {xs:List Val} {f:Fld} {x:Val} {u1 u3:Value} (hk:mu[k]? = some (.inst c fs xs)) (hl:fs.length < lim) (hK:X.K.In X.H₀) (hC:∀ c,ClsOK X c) (I:Inv X s₀ o p as mu F loc s)
    (r1:VRel X p as (.r k) u1) (r3:VRel X p as x u3) (K:∀ s',Inv X s₀ o p as (mu.set k (.inst c (jZ f fs) (jm f x fs xs))) F loc s'→Q () s'):wpAny (model X.prog X.w) A (setAttr u1 f.str u3) Q E s:=by
  obtain ⟨q,hq,rfl⟩:=r1
  obtain ⟨es,m,h1,h2,h3,h4⟩:=I.mus _ _ _ hq hk
  have hz:=(rt (f:=f) h3).2
  have IA:InstAt s.heap q.1 (instObj (X.cls c) q.2) (X.cls c) (some (dictOf es m)):=⟨h1,rfl,rfl,h2⟩
  have Xs:X.K.In s.heap:=I.K hK
  refine set_plain Xs IA (hC c).set (osa_open (s:={ s with toks:=s.toks+1 }) Xs IA (hC c).over ((hC c).taker f) fun b=>?_)
  refine xe1 (any_some (hC c).dict) fun cd r_=>aN r_ fun hc hd'=>?_
  dsimp only
  refine wpAny_bind (wpAny_pure (wpAny_bind (wpAny_bind (wpAny_loadPart (s:={ s with toks:=s.toks+1 }) h1 (wpAny_bind (Looks.here (s:={ s with toks:=s.toks+1 }) (looks_clsIn Xs hc) ?_))))))
  rw [hd']
  refine wpAny_pure (a:=some q.2) (wpAny_bind (wpAny_pure (wpAny_bind ?_)))
  unfold nsSet
  refine wpAny_bind (wpAny_bind (wpAny_askSetting (wpAny_pure (wpAny_bind (wpAny_mkText (wpAny_bind (wpAny_loadPart h2 ?_)))))))
  dsimp only
  have cc:(!es.toArray.any (·.key.isStr f.str) && es.toArray.any (·.refKey))=false:=by
    rw [← Array.any_toList,← Array.any_toList]
    simp only [pf h3,Bool.and_false]
  rw [aRefKeyMayBeTheName_at,cc]
  refine wpAny_updatePart h2 ?_
  have up:(s.heap.update q.2 (Obj.putName f.str (PyData.keyHash X.w.params f.str) (.str f.str (s.toks+1)) u3)).get? q.2=some (dictOf (putL f.str (PyData.keyHash X.w.params f.str) (.str f.str (s.toks+1)) u3 es) (putN f.str es m)):=by
    have:=Heap.get?_update_self (Obj.putName f.str (PyData.keyHash X.w.params f.str) (.str f.str (s.toks+1)) u3) h2 (by rw [putName_dict]; rfl)
    rw [putName_dict] at this; exact this
  have zl:=nW (f:=f.str) (h:=PyData.keyHash X.w.params f.str) (k:=.str f.str (s.toks+1)) (v:=u3) (es:=es)
  refine wpAny_bind (wpAny_lookBehind (s:=⟨s.heap.update q.2 (Obj.putName f.str (PyData.keyHash X.w.params f.str) (.str f.str (s.toks+1)) u3),s.gens,s.drawn,s.toks+2,s.os⟩) up (pastItsLine_dict (by rw [List.size_toArray,sizeLine_eq]; unfold lim at hl; omega)) ?_)
  refine wpAny_pure ?_
  refine aN (Dq (f:=f) (x:=x) (u:=u3) (t:=s.toks+1) h3 h4 r3) fun b1 b2=>?_
  refine K _ ((I.upd (m':=.inst c (jZ f fs) (jm f x fs xs)) hq hk rfl (a:=q.2) (by simp [oe]) (Heap.SameBut.update ..) ⟨_,up⟩ ⟨_,_,?_,up,b1,b2⟩).tok _)
  refine (Heap.get?_update_other _ _ ?_).trans h1
  intro e
  rw [← e,h2] at h1
  cases h1
end
end Mine.Internal
namespace Mine.Internal
section
variable {X:Amb} {s₀ s:Shared} {o p:aE} {as:As} {mu mu':Mu} {F:Fm} {loc:ag} {A:Around} {E:Value→Shared→Prop} {Q:Value→Shared→Prop} {n:Nat}
theorem Inv.keepsT (I:Inv X s₀ o p as mu F loc s) {h':Heap} {tk:Nat} (hk:∀ a ob,s.heap.get? a=some ob→h'.get? a=some ob):Inv X s₀ o p as mu F loc { s with heap:=h',toks:=tk }:=(I.keeps hk).tok tk
theorem uW {q:Bool} {xs:List Val} {v:Val} {vs:Array Value} {m tk:Nat} {h':Heap} {a:Addr} (e:cy q mu xs (bN xs)=some (v,mu')) (I:Inv X s₀ o p as mu F loc s) (hk:∀ a ob,s.heap.get? a=some ob→h'.get? a=some ob)
    (ha:s.heap.objs.size≤a) (hg:h'.get? a=some (listOf vs m)) (r:VRels X p as xs vs.toList) (K:Kv X s₀ o p as mu' F loc Q v):Q (.ref a) { s with heap:=h',toks:=tk }:=by
  have I':=I.keepsT (tk:=tk) hk
  obtain ⟨f1,f2,f3⟩:=I.fresh_of ha
  unfold cy at e
  split at e
  · cases q with
    | true =>
      replace K:=Kv.eqS K e
      refine K _ _ _ _ Sub.refl (List.prefix_append _ [(a,0)]) (I'.toM (q:=(a,0)) (m:=.list xs) ⟨vs,m,hg,r.mono Sub.refl (List.prefix_append _ _)⟩ (by simp [kg]) (fun b hb=>?_) fun b hb=>?_) ⟨(a,0),by rw [← I.len]; exact List.getElem?_concat_length ..,rfl⟩
      · simp only [kg,List.mem_singleton] at hb; rw [hb]; exact f3
      · simp only [kg,List.mem_singleton] at hb; rw [hb]; exact ⟨f1,f2,_,hg⟩
    | false =>
      refine bM e fun ds e1 e2=>?_
      clear e
      replace K:=Kv.eqP K e2
      refine K _ _ _ _ (Sub.put1 f1) (List.prefix_refl _) (I'.toP hg f1 f2 f3) ?_
      show DRel X _ (.lst ds) _
      rw [yx]
      exact ⟨_,vs,m,rfl,b8,(VRels.toD e1 r).mono (Sub.put1 f1)⟩
  · exact nS e
theorem DRels.ints {is:List Int}:∀ {vs:List Value},DRels X p (is.map .int) vs→∃ xs:Array (Int × Tok),vs.toArray=intItems xs∧xs.toList.map (·.1)=is:=by
  induction is with
  | nil=>intro vs h; rw [List.map_nil,ds0] at h; subst h; exact ⟨#[],by simp [intItems],rfl⟩
  | cons i is ih =>
    intro vs h
    rw [List.map_cons,j8] at h
    obtain ⟨v,r,rfl,a,b⟩:=h
    rw [te] at a
    obtain ⟨t,rfl⟩:=a
    obtain ⟨xs,e1,e2⟩:=ih b
    refine ⟨⟨(i,t)::xs.toList⟩,?_,by simp [e2]⟩
    have:=congrArg Array.toList e1
    simp only [intItems] at this ⊢
    simp only [List.map_toArray,Array.toList_map] at this ⊢
    simp only [List.map_cons]
    rw [← this]
theorem vK {a b c:Int} {xs:List Dat} {acc:Array Value} {k:Nat} (e:items (.rng a b c)=some xs) (hn:Builtin.Range.rangeSize a b c=k) (h:ItemsOf (fun i v=>∃ t,v=.int (a+i * c) t) acc k) :
    DRels X p xs acc.toList:=by
  unfold items at e
  dsimp only at e
  split at e
  · exact nS e
  · have gen:∀ {n:Nat} {f:Nat→Int} {vs:List Value},vs.length=n→(∀ i v,vs[i]? = some v→∃ t,v=Value.int (f i) t)→DRels X p ((List.range n).map fun i=>Dat.int (f i)) vs:=by
      intro n
      induction n with
      | zero =>
        intro f vs h Z; have:vs=[]:=by simpa using h
        subst this; exact dz
      | succ n ih =>
        intro f vs h g
        cases vs with
        | nil=>simp at h
        | cons v vs =>
          rw [List.range_succ_eq_map,List.map_cons,j8,List.map_map]
          refine ⟨v,vs,rfl,?_,ih (f:=fun i=>f (i+1)) (by simpa using h) fun i w hw=>g (i+1) w (by simpa using hw)⟩
          rw [te]
          exact g 0 v rfl
    obtain ⟨h1,h2⟩:=h
    split at e
    · rename_i hc
      subst hc
      (replace e:=iS e; subst e)
      rw [rangeSize_one] at hn
      refine gen (by rw [Array.length_toList,h1]; split at hn <;> omega) fun i v hv=>?_
      obtain ⟨t,rfl⟩:=h2 i v (by simpa using hv)
      exact ⟨t,by simp⟩
    · split at e
      · rename_i hc
        subst hc
        (replace e:=iS e; subst e)
        rw [rangeSize_downNat] at hn
        refine gen (by rw [Array.length_toList,h1]; omega) fun i v hv=>?_
        obtain ⟨t,rfl⟩:=h2 i v (by simpa using hv)
        exact ⟨t,by congr 1; exact mi⟩
      · exact nS e
theorem qH {a b c:Int} {t u x:Tok} {tk:Nat} (I:Inv X s₀ o p as mu F loc s) (K:Kv X s₀ o p as mu F loc Q (.d (.rng a b c))) :
    Q (.ref s.heap.objs.size) { s with heap:=s.heap.push { cls:=.type "range", data:=.fields #[.int a t,.int b u,.int c x] },toks:=tk }:=by
  refine K _ _ _ _ (Sub.put1 I.fresh_p) (List.prefix_refl _) ((I.pushP _ rfl).tok tk) ?_
  show DRel X _ (.rng a b c) _
  rw [Jn]
  exact ⟨_,t,u,x,rfl,b8⟩
theorem mw {vs:List Val} {us:List Value} {v:Val} (h:one vs=some v) (r:VRels X p as vs us):∃ u,us=[u]∧VRel X p as v u:=by
  rw [BK h] at r
  obtain ⟨u,_,rfl,r1,rfl⟩:=r
  exact ⟨u,rfl,r1⟩
theorem y0 {a:Val} {k:Nat} {v:Val} {u:Value} (hlim:k≤lim) (e:some (Val.d (.int k))=some v) (I:Inv X s₀ o p as mu F loc s) (T:(∃ xs,a=.d (.tup xs)∧xs.length=k)∨∃ xs,f9 mu a=some xs∧xs.length=k) (r:VRel X p as a u) (K:Kv X s₀ o p as mu F loc Q v):wpAny (model X.prog X.w) A (call (.builtin "len") [u]) Q E s:=by
  rw [← iS e] at K
  have hs:∀ {ws:Array Value},k=ws.toList.length→ws.size=k:=fun h=>by rw [h,Array.length_toList]
  rcases T with ⟨xs,rfl,rfl⟩ | ⟨xs,ex,rfl⟩
  · refine RSeq.el (fR r) fun a ws m e3_ h1 h2=>?_
    subst e3_
    have hz:=hs h2.length
    refine len_tuple ⟨_,I.ple _ _ h1,rfl,m,rfl⟩ (by unfold lim at *; omega) ?_
    rw [hz]; exact K.here I ek
  · refine RSeq.el (jJ I ex r) fun a ws m e3_ h1 h2=>?_
    subst e3_
    have hz:=hs h2.length
    refine Calls.call_len_list ⟨_,h1,rfl,m,rfl⟩ (by unfold lim at *; omega) ?_
    rw [hz]; exact K.here I ek
theorem Fw {vs:List Val} {us:List Value} {v:Val} (e:za vs=some v) (I:Inv X s₀ o p as mu F loc s) (r:VRels X p as vs us) (K:Kv X s₀ o p as mu F loc Q v):wpAny (model X.prog X.w) A (call (.type "range") us) Q E s:=by
  match vs,e,r with
  | [],e,_=>exact nS e
  | [b],e,r =>
    refine xe1 (gc (show (vI b).map (fun b=>Val.d (.rng 0 b 1))=some v from e)) fun x r_=>aN r_ fun hx e2_=>?_
    subst e2_
    rw [fJ hx] at r
    obtain ⟨u1,_,rfl,r1,rfl⟩:=r
    refine xe1 (cP r1) fun t1 e1_=>?_
    subst e1_
    exact call_range_1 (qH I K)
  | [a,b],e,r =>
    refine xe2 (wW (show jt a b (fun a b=>some (Val.d (.rng a b 1)))=some v from e)) fun x y r_=>gD r_ fun e2_ e3_ e=>?_
    subst e2_
    subst e3_
    (replace e:=iS e; subst e)
    obtain ⟨u1,_,rfl,r1,u2,_,rfl,r2,rfl⟩:=r
    refine xe1 (cP r1) fun t1 e1_=>?_
    rw [e1_]
    refine xe1 (cP r2) fun t2 e1_=>?_
    subst e1_
    exact call_range_2 (qH I K)
  | [a,b,c],e,r =>
    refine xe2 (wW (show jt a b (fun a b=>(vI c).bind fun c=>if c = -1∧jr a b=true then some (Val.d (.rng a b c)) else none)=some v from e)) fun x y r_=>gD r_ fun e2_ e3_ e=>?_
    subst e2_
    subst e3_
    refine bg e fun z hz e=>?_
    refine aN (kS e) fun q0_ e=>?_
    obtain ⟨rfl,hr⟩:=q0_
    (replace e:=iS e; subst e)
    rw [fJ hz] at r
    obtain ⟨u1,_,rfl,r1,u2,_,rfl,r2,u3,_,rfl,r3,rfl⟩:=r
    refine xe1 (cP r1) fun t1 e1_=>?_
    rw [e1_]
    refine xe1 (cP r2) fun t2 e1_=>?_
    rw [e1_]
    refine xe1 (cP r3) fun t3 e1_=>?_
    rw [e1_]
    exact call_range_3 (by decide) (qH I K) (.inl (PyProof.noPylong_small (by decide)))
  | _::_::_::_::_,e,_=>exact nS e
theorem Hz {b:Bi} {vs:List Val} {us:List Value} {v:Val} (e:bi mu b vs=some v) (hR:Rm n A) (I:Inv X s₀ o p as mu F loc s) (r:VRels X p as vs us) (K:Kv X s₀ o p as mu F loc Q v):wpAny (model X.prog X.w) A (call b.val us) Q E s:=by
  cases b with
  | len =>
    refine bg e fun a ha e1=>?_
    clear e
    refine xe1 (mw ha r) fun u r_=>aN r_ fun e1_ r1=>?_
    subst e1_
    rcases fM (G:=fun r=>r=some v) e1 with ⟨_,e2⟩ | ⟨xs,hx,e2⟩
    · refine bg e2 fun xs hx e3=>?_
      clear e2
      refine aN (kS e3) fun hl e4=>?_
      exact y0 hl e4 I (.inr ⟨xs,hx,rfl⟩) r1 K
    · refine aN (kS e2) fun hl e4=>?_
      exact y0 hl e4 I (.inl ⟨xs,oM hx,rfl⟩) r1 K
  | max =>
    refine bJ e fun a b ha e1=>?_
    clear e
    rw [Cq ha] at r
    obtain ⟨u1,_,rfl,r1,u2,_,rfl,r2,rfl⟩:=r
    refine fA (G:=fun u1 u2=>wpAny (model X.prog X.w) A (call (.builtin "max") [u1,u2]) Q E s) e1 r1 r2 fun x t y t' e=>?_
    (replace e:=iS e; subst e)
    refine max_two_ints hR.hand fun h' tk hk=>?_
    have K:=K _ _ { s with heap:=h',toks:=tk } (.int (if x < y then y else x) (if x < y then t' else t)) Sub.refl (List.prefix_refl _) (I.keepsT hk) ek
    by_cases c:x < y
    · rw [if_pos (show y > x from c)]; rw [if_pos c,if_pos c] at K; exact K
    · rw [if_neg (show ¬ y > x from c)]; rw [if_neg c,if_neg c] at K; exact K
  | int =>
    refine bg e fun a ha e1=>?_
    clear e
    refine xe1 (mw ha r) fun u r_=>aN r_ fun e1_ r1=>?_
    subst e1_
    refine bM e1 fun c hc e2_=>?_
    clear e1
    subst e2_
    rw [Gn hc] at r1
    cases iU r1
    exact call_int_bool (K.here I ek)
  | sum =>
    refine bg e fun a ha e1=>?_
    clear e
    refine xe1 (mw ha r) fun u r_=>aN r_ fun e1_ r1=>?_
    subst e1_
    refine bg e1 fun zs hz e2=>?_
    clear e1
    refine bM e2 fun is ei e2_=>?_
    clear e2
    subst e2_
    rw [tU hz] at r1
    refine RSeq.el (iw r1) fun a ws m e3_ h1 h2=>?_
    rw [e3_]
    rw [kL ei] at h2
    obtain ⟨xs,e1,e2⟩:=h2.ints
    have e1:ws=intItems xs:=by rw [← e1,Array.toArray_toList]
    subst e1
    refine sum_intListG hR.hand ⟨_,I.ple _ _ h1,rfl,m,rfl⟩ fun h' tk t' hk=>?_
    rw [preSum_eq,List.take_of_length_le (by simp),e2]
    exact K _ _ _ _ Sub.refl (List.prefix_refl _) (I.keepsT hk) ek
  | tuple =>
    refine bg e fun a ha e1=>?_
    clear e
    refine xe1 (mw ha r) fun u r_=>aN r_ fun e1_ r1=>?_
    subst e1_
    rcases fM (G:=fun r=>r=some v) e1 with ⟨_,e2⟩ | ⟨xs,hx,e2⟩
    · refine bg e2 fun xs ex e3=>?_
      clear e2
      refine bg e3 fun ds ed e4=>?_
      clear e3
      have em:(gu ds).map (·,mu)=some (v,mu):=by rw [e4]; rfl
      refine RSeq.el (jJ I ex r1) fun a ws m e3_ h1 h2=>?_
      rw [e3_]
      have hz:=nj em
      have hz2:xs.length=ws.size:=by rw [h2.length,Array.length_toList]
      rw [kU ed] at hz
      exact call_tuple_list ⟨_,h1,rfl,m,rfl⟩ (fun h' hk=>m6 (t:=s.toks) (mu:=mu) (mu':=mu) (n:=0) (s:={ s with heap:=h' }) em (I.keeps hk) (VRels.toD ed h2) K) (fu (by exact yF hz hz2))
    · (replace e2:=iS e2; subst e2)
      rw [oM hx] at r1
      refine RSeq.el (fR r1) fun a ws m e3_ h1 h2=>?_
      subst e3_
      exact call_tuple_tup ⟨_,I.ple _ _ h1,rfl,m,rfl⟩ (K.now I r1)
  | dict=>exact nS e
  | range=>exact Fw e I r K
end
end Mine.Internal
namespace Mine.Internal
section
variable {X:Amb} {s₀ s:Shared} {o p:aE} {as:As} {mu mu':Mu} {F:Fm} {loc:ag} {A:Around} {E:Value→Shared→Prop} {Q:Value→Shared→Prop} {n:Nat}
theorem Inv.not_sys (I:Inv X s₀ o p as mu F loc s) (hs:sysModules < X.tab) {a:Addr} (ha:s.heap.objs.size≤a):(a == sysModules)=false:=by
  obtain ⟨ps,e,_⟩:=I.tb
  have h1:X.tab < s.heap.objs.size:=Heap.lt_size e
  exact beq_eq_false_iff_ne.mpr fun q=>absurd (Nat.lt_trans hs h1) (Nat.not_lt.mpr (q ▸ ha))
theorem Ds {u:Value} (hs:sysModules < X.tab) (I:Inv X s₀ o p as mu F loc s) (r:VRel X p as (.d (.spots 0)) u) (K:Kv X s₀ o p as (mu++[.spots 0]) F loc Q (.r mu.length)) :
    wpAny (model X.prog X.w) A (call (.type "dict") [u]) Q E s:=by
  have r':DRel X p (.spots 0) u:=r
  rw [Io] at r'
  obtain ⟨a,es,m,rfl,h0,h1,h2⟩:=r'
  have:es=[]:=by simpa using h2
  subst this
  refine kt_call_dict (knd:=strKind X.prog X.w) (more:=[]) h0 ⟨_,#[],m,I.ple _ _ h1,⟨rfl,rfl,rfl⟩,rfl,fun Z h=>by simp at h,Pairs.nil,List.nodup_nil⟩ (by simp) fun h' hd hb=>?_
  obtain ⟨ob,es,ep,e,h4,h5,h6,h7,h8⟩:=hd
  have hes:es.toList=[]:=by have:=h7.length; simpa using this
  have hk:∀ a ob,s.heap.get? a=some ob→h'.get? a=some ob:=fun a ob e=>(hb.2 a (Nat.ne_of_lt (Heap.lt_size e))).trans (Heap.get?_push_of_some _ e)
  obtain ⟨f1,f2,f3⟩:=I.fresh_of (Nat.le_refl _)
  have eo:=rl h4 h5
  refine K _ _ _ _ Sub.refl (List.prefix_append _ [(s.heap.objs.size,0)]) ((I.keeps hk).toM (q:=(s.heap.objs.size,0)) (m:=.spots 0) ⟨I.not_sys hs (Nat.le_refl _),[],ep,[],by rw [e,eo,hes],rfl,by simp,by simp,by simp⟩ (by simp [tK]) (fun b hb=>?_) fun b hb=>?_) ⟨(s.heap.objs.size,0),by rw [← I.len]; exact List.getElem?_concat_length ..,rfl⟩
  · simp only [tK,List.mem_singleton] at hb; rw [hb]; exact f3
  · simp only [tK,List.mem_singleton] at hb; rw [hb]; exact ⟨f1,f2,_,e⟩
theorem rd {a b c:Int} (h:jr a b=true) (hc:c=1∨c = -1):Builtin.Range.small a b c=true:=by
  unfold jr lim at h
  rw [Bool.and_eq_true] at h
  have h1:=of_decide_eq_true h.1
  have h2:=of_decide_eq_true h.2
  rcases hc with rfl | rfl
  · exact small_one (by exact Cc h1) (by exact Cd h1) (by exact Cc h2) (by exact Cd h2)
  · exact small_down (by exact Cc h1) (by exact Cd h1) (by exact Cc h2) (by exact Cd h2)
theorem zt {a b c:Int} {u:Value} (r:VRel X p as (.d (.rng a b c)) u):RRng p a b c u:=r
theorem rG {a b c:Int} {xs:List Dat} (e:items (.rng a b c)=some xs):jr a b=true∧(c=1∨c = -1)∧∃ k:Nat,Builtin.Range.rangeSize a b c=k∧xs.length=k∧k≤2 ^ 24:=by
  unfold items at e
  dsimp only at e
  split at e
  · exact nS e
  · rename_i hk
    have hk:jr a b=true:=by simpa using hk
    have hz:=hk
    unfold jr lim at hz
    rw [Bool.and_eq_true] at hz
    have h1:=of_decide_eq_true hz.1
    have h2:=of_decide_eq_true hz.2
    split at e
    · rename_i hc
      subst hc
      (replace e:=iS e; subst e)
      exact ⟨hk,.inl rfl,(b - a).toNat,by rw [rangeSize_one]; split <;> omega,by simp,by omega⟩
    · split at e
      · rename_i hc
        subst hc
        (replace e:=iS e; subst e)
        exact ⟨hk,.inr rfl,(a - b).toNat,rangeSize_downNat a b,by simp,by omega⟩
      · exact nS e
theorem zG {q:Bool} {x v:Val} {xs:List Val} {u:Value} (e:np mu x=some xs) (en:cy q mu xs (bN xs)=some (v,mu')) (hR:Rm n A) (I:Inv X s₀ o p as mu F loc s) (r:VRel X p as x u)
    (K:Kv X s₀ o p as mu' F loc Q v):wpAny (model X.prog X.w) A (call (.type "list") [u]) Q E s:=by
  have hlen:=j1 en
  have gen:∀ {vs:Array Value} {a m T},(T = "list" ∨ T = "tuple")→u=.ref a→s.heap.get? a=some { cls:=.type T,data:=.seq vs m }→VRels X p as xs vs.toList→wpAny (model X.prog X.w) A (call (.type "list") [u]) Q E s:=by
    intro vs a m T hT eu hg hr
    subst eu
    have hz:xs.length=vs.size:=by simpa using hr.length
    exact call_list_seq a hT hg rfl rfl (fun h' c' hk hg'=>uW (tk:=s.toks) en I hk (Nat.le_refl _) hg' hr K) (fu (by exact yF hlen hz))
  have lst:f9 mu x=some xs→wpAny (model X.prog X.w) A (call (.type "list") [u]) Q E s:=fun ex=>by
    refine RSeq.el (jJ I ex r) fun a vs m eu h1 h2=>?_
    exact gen (.inl rfl) eu h1 h2
  cases x with
  | r k=>exact lst e
  | clo k=>exact lst e
  | d x =>
    refine xe1 (gc (show (items x).map (fun xs=>xs.map Val.d)=some xs from e)) fun ds r_=>aN r_ fun e1 e2_=>?_
    subst e2_
    cases x with
    | tup ys =>
      (replace e1:=iS e1; subst e1)
      refine RSeq.el (fR r) fun a vs m eu h1 h2=>?_
      exact gen (.inr rfl) eu (I.ple _ _ h1) (.ofD h2)
    | lst ys =>
      (replace e1:=iS e1; subst e1)
      refine RSeq.el (iw r) fun a vs m eu h1 h2=>?_
      exact gen (.inl rfl) eu (I.ple _ _ h1) (.ofD h2)
    | rng a b c =>
      refine gD (rG e1) fun ok hc r_=>xe1 r_ fun k r_=>gD r_ fun hk hl hz=>?_
      refine RRng.el (zt r) fun q' t v' x e4_ h1=>?_
      subst e4_
      exact call_list_range hR.hand (I.ple _ _ h1) (rd ok hc) hk hz fun h' tk acc c' hkp hg hi=>uW en I hkp (Nat.le_refl _) hg (.ofD (vK e1 hk hi)) K
    | _=>exact nS e1
end
end Mine.Internal
namespace Mine.Internal
structure AmbOK (X:Amb) (P:Fn→FDef):Prop where
  K:X.K.In X.H₀
  lim:X.H₀.NoLimit
  cls:∀ c,ClsOK X c
  sys:sysModules < X.tab
  g:X.H₀.Ns mainGlobals X.mg
  b:X.H₀.Ns builtinsNs X.mb
  fns:∀ f,f.isTop=true→X.mg (Str.ofString f.nm)=some (.ref (X.fn f))
  clss:∀ c:Cls,X.mg (Str.ofString c.nm)=some (.ref (X.cls c))
  bis:∀ b:Bi,X.mg (Str.ofString b.nm)=none∧X.mb (Str.ofString b.nm)=some b.val
  lst:X.mg (Str.ofString "list")=none∧X.mb (Str.ofString "list")=some (.type "list")
  enm:X.mg (Str.ofString "enumerate")=none∧X.mb (Str.ofString "enumerate")=some (.type "enumerate")
  byte:∃ v,X.mg (Str.ofString "_law_byte")=some v∧DRel X X.H₀.get? dh v
  keepF:∀ f,keepIn X.K (.ref (X.fn f))=true
  keepC:∀ c,keepIn X.K (.ref (X.cls c))=true
  fn:∀ f,∃ fd body,FnOK X (P f) (X.fn f) fd body∧fB (P f).strs ((P f).wr.map Str.ofString) ((P f).fz.map Str.ofString) (cx fd.scope) (P f).body body
  hd:CodeHd X.H₀ X.cd X.tab
  bat:X.H₀.BuiltinsAt X.mg X.tab
  gtab:mainGlobals ≠ X.tab
  makes:∀ c,makesIn X.K (X.cls c)=true
  init:findIn X.K (.ref (X.cls .body)) "__init__" = some (some (.ref (X.fn .initBody)))∧findIn X.K (.ref (X.cls .caller)) "__init__" = some (some (.ref (X.fn .initCaller)))
  func:∀ f,typeIn X.K (.ref (X.fn f))=some (.type "function")
  meth:∀ f:Fn,f.isMeth=true→findIn X.K (.ref (X.cls .caller)) (Str.ofString f.nm)=some (some (.ref (X.fn f)))
section
variable {X:Amb} {P:Fn→FDef} {s₀ s:Shared} {o p:aE} {as:As} {mu mu':Mu} {F:Fm} {loc:ag} {A:Around} {E:Value→Shared→Prop} {Q:Value→Shared→Prop} {n:Nat}
theorem Inv.keepH (I:Inv X s₀ o p as mu F loc s):∀ b ob,X.H₀.get? b=some ob→s.heap.get? b=some ob:=fun b ob e=>I.ple _ _ (I.base _ _ e)
theorem qv {M:Model} {x:Str} {pos:Pos} {v:Value} (hX:AmbOK X P) (I:Inv X s₀ o p as mu F loc s) (hk:F.env.kindOf x=some .globalImplicit) (hv:X.mg x=some v) (hd:(x == ("__debug__" : Str))=false) (h:Q v s) :
    wpAny M A (eval (.Name x pos) F.env) Q E s :=
  Calls.Name_function_global I.fr.kind hk (Calls.loadGlobal_global (by rw [I.fr.glob]; exact hX.g.keeps I.keepH) hv h) hd
theorem qy {M:Model} {x:Str} {pos:Pos} {v:Value} (hX:AmbOK X P) (I:Inv X s₀ o p as mu F loc s) (hk:F.env.kindOf x=some .globalImplicit) (hv:X.mg x=none∧X.mb x=some v) (hd:(x == ("__debug__" : Str))=false) (h:Q v s) :
    wpAny M A (eval (.Name x pos) F.env) Q E s :=
  Calls.Name_function_global I.fr.kind hk (Calls.loadGlobal_builtin (by rw [I.fr.glob]; exact hX.g.keeps I.keepH) hv.1 (by rw [I.fr.bltn]; exact hX.b.keeps I.keepH) hv.2 h) hd
theorem Fn.nodbg (f:Fn):(Str.ofString f.nm == ("__debug__" : Str))=false:=by cases f <;> decide +kernel
theorem Cls.nodbg (f:Cls):(Str.ofString f.nm == ("__debug__" : Str))=false:=by cases f <;> decide +kernel
theorem Bi.nodbg (f:Bi):(Str.ofString f.nm == ("__debug__" : Str))=false:=by cases f <;> decide +kernel
theorem Ep {i:Int} {u:Value} (I:Inv X s₀ o p as mu F loc s) (r:VRel X p as (.d (.int i)) u) (K:Kv X s₀ o p as mu F loc Q (.d (.int (-i)))):wpAny (model X.prog X.w) A (unaryOp .USub u) Q E s:=by
  refine xe1 (cP r) fun t e1_=>?_
  subst e1_
  exact P.neg_int (K.here I ek)
theorem GQ {xs:List Dat} {k:Int} {v:Val} {u1 u2:Value} {value y:Expr} {pp:Pos} (h1:1≤k) (h8:k≤8) (hl:k.toNat≤xs.length) (e:(gu (xs.drop k.toNat)).map (·,mu)=some (v,mu')) (I:Inv X s₀ o p as mu F loc s) (r1:VRel X p as (.d (.tup xs)) u1)
    (r2:VRel X p as (.d (.int k)) u2) (K:Kv X s₀ o p as mu' F loc Q v) :
    wpAny (model X.prog X.w) A (subscriptTail value (.Slice (some y) none none pp) u1 (.ref s.heap.objs.size)) Q E { s with heap:=s.heap.push { cls:=.type "slice", data:=.fields #[u2,.none,.none] } }:=by
  refine RSeq.el (fR r1) fun a vs m e3_ g1 g2=>?_
  subst e3_
  refine xe1 (cP r2) fun t e1_=>?_
  subst e1_
  refine xe1 (Int.eq_ofNat_of_zero_le (show 0≤k by exact Gc h1 rfl)) fun j e1_=>?_
  subst e1_
  have hz:xs.length=vs.size:=by simpa using g2.length
  have hlen:=nj e
  rw [List.length_drop] at hlen
  have I':=I.push { cls:=.type "slice", data:=.fields #[.int (j:Int) t,.none,.none] }
  have ht:IsTup (s.heap.push { cls:=.type "slice", data:=.fields #[.int (j:Int) t,.none,.none] }) a vs:=⟨_,I'.ple _ _ g1,rfl,m,rfl⟩
  refine tail_any ht.typeIs slot_tuple_getitem.lookup (getItem_tuple_from (a:=j) ht (Heap.IsSliceOf.new _ _ _ _) (by omega) (by simp at hl; exact CB hl hz) (m6 (t:=s.toks) (n:=0) e I' (by simpa using g2.drop j) K) (by rw [sizeLine_eq]; unfold lim at hlen; simp at hlen; omega)) rfl
end
end Mine.Internal
namespace Mine.Internal
section
variable {X:Amb} {P:Fn→FDef} {s₀ s:Shared} {o p:aE} {as:As} {mu mu':Mu} {F:Fm} {loc:ag} {A:Around} {E:Value→Shared→Prop} {Q:Value→Shared→Prop} {n:Nat}
noncomputable def cH (X:Amb) (o p:aE) (as:As) (mu:Mu) (F:Fm) (a:Addr):Prop:=p a=none∧o a=none∧a ∉ X.tab::(F.own++cw as mu)
theorem Inv.ne_alien (I:Inv X s₀ o p as mu F loc s) {a b:Addr} (h:cH X o p as mu F a) (k:b ∈ X.tab::(F.own++cw as mu)∨(p b).isSome∨(o b).isSome):b ≠ a:=fun q=>by
  subst q
  rcases k with k | k | k
  · exact h.2.2 k
  · rw [h.1] at k; cases k
  · rw [h.2.1] at k; cases k
theorem Inv.alien (I:Inv X s₀ o p as mu F loc s) {l:List Addr} (hl:∀ a ∈ l,cH X o p as mu F a) {h':Heap} (hk:∀ b,b ∉ l→∀ ob,s.heap.get? b=some ob→h'.get? b=some ob):Inv X s₀ o p as mu F loc { s with heap:=h' }:=by
  have keep:∀ b,b ∈ X.tab::(F.own++cw as mu)∨(p b).isSome∨(o b).isSome→∀ ob,s.heap.get? b=some ob→h'.get? b=some ob:=fun b k ob e=>hk b (fun q=>I.ne_alien (hl b q) k rfl) ob e
  refine ⟨by obtain ⟨k,e⟩:=I.sh; exact ⟨k,by rw [e]⟩,I.base,fun b ob e=>keep b (.inr (.inl (by rw [e]; rfl))) ob (I.ple _ _ e),fun b ob e=>keep b (.inr (.inr (by rw [e]; rfl))) ob (I.ole _ _ e),I.dj,I.len,
    fun i q m e f=>(I.mus i q m e f).mono Sub.refl (List.prefix_refl _) fun b hb ob x=>keep b (.inl (List.mem_cons_of_mem _ (List.mem_append_right _ (fy e f b hb)))) ob x,I.nodup,
    fun b hb=>?_,I.fr.on Sub.refl (List.prefix_refl _) fun b hb ob x=>keep b ?_ ob x,?_⟩
  · obtain ⟨b1,b2,ob,x⟩:=I.out b hb
    exact ⟨b1,b2,ob,keep b (.inl hb) ob x⟩
  · rcases hb with hb | hb | hb
    · exact .inl (List.mem_cons_of_mem _ (List.mem_append_left _ hb))
    · exact .inr (.inl hb)
    · exact .inr (.inr hb)
  · obtain ⟨ps,x,t⟩:=I.tb
    exact ⟨ps,keep _ (.inl (.head _)) _ x,t⟩
theorem Inv.hold (I:Inv X s₀ o p as mu F loc s) {l:List Addr} (hl:∀ a ∈ l,cH X o p as mu F a):Inv X s₀ (c7 o l s.heap) p as mu F loc s:=by
  refine ⟨I.sh,I.base,I.ple,fun b ob e=>?_,fun b hb=>?_,I.len,I.mus,I.nodup,fun b hb=>?_,?_,I.tb⟩
  · by_cases k:b ∈ l
    · rw [dv k] at e; exact e
    · rw [ch k] at e; exact I.ole _ _ e
  · rw [ch fun k=>by rw [(hl b k).1] at hb; cases hb]; exact I.dj b hb
  · obtain ⟨b1,b2,r⟩:=I.out b hb
    exact ⟨b1,by rw [ch fun k=>(hl b k).2.2 hb]; exact b2,r⟩
  · have f:=I.fr
    exact ⟨f.kind,f.glob,f.bltn,f.len,f.nodup,f.plain,f.mine,f.ns,f.inj,f.apart,fun x c hc=>by
      obtain ⟨h1,h2⟩:=f.cell x c hc
      refine ⟨h1,h2.imp_right fun h2=>h2.imp_right fun h2=>?_⟩
      rw [ch fun k=>by rw [(hl c k).2.1] at h2; cases h2]; exact h2,f.wcell,f.fcell,f.lam,f.has⟩
theorem Inv.unhold {h:Heap} {l:List Addr} (I:Inv X s₀ (c7 o l h) p as mu F loc s) (hl:∀ a ∈ l,o a=none) (hs:∀ a ∈ l,∃ ob,h.get? a=some ob) (hc:∀ x c,F.env.cells.lookup x=some c→c ∉ l) :
    Inv X s₀ o p as mu F loc s∧∀ a ∈ l,cH X o p as mu F a∧s.heap.get? a=h.get? a:=by
  have sub:Sub o (c7 o l h):=fun b ob e=>by rw [ch fun k=>by rw [hl b k] at e; cases e]; exact e
  refine ⟨⟨I.sh,I.base,I.ple,fun b ob e=>I.ole _ _ (sub _ _ e),fun b hb=>?_,I.len,I.mus,I.nodup,fun b hb=>?_,?_,I.tb⟩,fun a ha=>?_⟩
  · have:=I.dj b hb
    cases q:o b with
    | none=>rfl
    | some ob=>rw [sub _ _ q] at this; exact nS this.symm
  · obtain ⟨b1,b2,r⟩:=I.out b hb
    refine ⟨b1,?_,r⟩
    cases q:o b with
    | none=>rfl
    | some ob=>rw [sub _ _ q] at b2; exact nS b2.symm
  · have f:=I.fr
    exact ⟨f.kind,f.glob,f.bltn,f.len,f.nodup,f.plain,f.mine,f.ns,f.inj,f.apart,fun x c hx=>by
      obtain ⟨h1,h2⟩:=f.cell x c hx
      refine ⟨h1,h2.imp_right fun h2=>h2.imp_right fun h2=>?_⟩
      rw [ch (hc x c hx)] at h2; exact h2,f.wcell,f.fcell,f.lam,f.has⟩
  · obtain ⟨ob,e⟩:=hs a ha
    have k:c7 o l h a=some ob:=(dv ha).trans e
    refine ⟨⟨?_,hl a ha,fun hm=>?_⟩,by rw [e]; exact I.ole _ _ k⟩
    · cases q:p a with
      | none=>rfl
      | some ob'=>have:=I.dj a (by rw [q]; rfl); rw [k] at this; exact nS this.symm
    · have:=(I.out a hm).2
      rw [k] at this; exact nS this.symm
theorem Dx {q:Bool} {xs:List Val} {v:Val} {vs:Array Value} {m:Nat} {a:Addr} (e:cy q mu xs (bN xs)=some (v,mu')) (I:Inv X s₀ o p as mu F loc s) (ha:cH X o p as mu F a) (hg:s.heap.get? a=some (listOf vs m)) (r:VRels X p as xs vs.toList) :
    ∃ p' as',Sub p p'∧as <+: as'∧Inv X s₀ o p' as' mu' F loc s∧VRel X p' as' v (.ref a):=by
  obtain ⟨f1,f2,f3⟩:=ha
  unfold cy at e
  split at e
  · cases q with
    | true =>
      (refine dx e fun h1_ h2_=>?_; subst h1_; rw [← h2_])
      refine ⟨p,as++[(a,0)],Sub.refl,List.prefix_append _ [(a,0)],I.toM (q:=(a,0)) (m:=.list xs) ⟨vs,m,hg,r.mono Sub.refl (List.prefix_append _ _)⟩ (by simp [kg]) (fun b hb=>?_) fun b hb=>?_,(a,0),by rw [← I.len]; exact List.getElem?_concat_length ..,rfl⟩
      · simp only [kg,List.mem_singleton] at hb; rw [hb]; exact f3
      · simp only [kg,List.mem_singleton] at hb; rw [hb]; exact ⟨f1,f2,_,hg⟩
    | false =>
      refine bM e fun ds e1 e2=>?_
      clear e
      (refine eJ e2 fun h1_ h2_=>?_; subst h1_; subst h2_)
      refine ⟨_,as,Sub.put1 f1,List.prefix_refl _,I.toP hg f1 f2 f3,?_⟩
      show DRel X _ (.lst ds) _
      rw [yx]
      exact ⟨_,vs,m,rfl,b8,(VRels.toD e1 r).mono (Sub.put1 f1)⟩
  · exact nS e
noncomputable def Agree (env:Env) (kd:Kd):Prop:=∀ x,(kd x=some .local→env.kindOf x=some .local)∧(kd x=some .globalImplicit→env.kindOf x=some .globalImplicit)∧(kd x=some .cell→env.kindOf x=some .cell) ∧
  (kd x=some .free→env.kindOf x=some .cell∨env.kindOf x=some .free)
theorem Agree.known {env:Env} {kd:Kd} (h:Agree env kd) {x:Str} (k:KN kd x):pL env x:=by
  obtain ⟨h1,h2,h3,h4⟩:=h x
  rcases k with k | k | k
  · exact .inl (h1 k)
  · exact .inr (.inl (h3 k))
  · exact .inr (h4 k)
noncomputable def blank:List Nat→ag→ag
  | [],l=>l
  | i::is,l=>blank is (l.set i none)
theorem HS {i:Nat} {is:List Nat} {l:ag}:blank (i::is) l=blank is (l.set i none):=rfl
theorem blank_length:∀ {is:List Nat} {l:ag},(blank is l).length=l.length
  | [],_=>rfl
  | i::is,l=>by rw [HS,blank_length,List.length_set]
theorem mK:∀ {is:List Nat} {l:ag} {i:Nat} {v:Val},(blank is l)[i]? = some (some v)→i ∉ is∧l[i]? = some (some v)
  | [],l,i,v,h=>⟨by simp,h⟩
  | j::is,l,i,v,h=>by
    obtain ⟨h1,h2⟩:=mK (is:=is) h
    by_cases e:j=i
    · subst e
      by_cases z:j < l.length
      · rw [List.getElem?_set_self z] at h2; cases h2
      · rw [List.getElem?_eq_none (by rw [List.length_set]; exact GH z)] at h2; exact nS h2
    · rw [List.getElem?_set_ne e] at h2
      exact ⟨by simp [Ne.symm e,h1],h2⟩
theorem m4:∀ {is:List Nat} {vs:List Val} {l l' l2:ag},ap is vs l=some l'→l.length=l2.length→(∀ j,j ∉ is→l[j]? = l2[j]?)→ap is vs l2=some l'
  | [],[],l,l',l2,h,_,k=>by
    have:l=l2:=List.ext_getElem? fun j=>k j (by simp)
    rw [← this]; exact h
  | i::is,v::vs,l,l',l2,h,hl,k=>by
    have h':(if i < l.length then ap is vs (l.set i (some v)) else none)=some l':=h
    show (if i < l2.length then ap is vs (l2.set i (some v)) else none)=some l'
    split at h'
    · rename_i hi
      rw [if_pos (by exact CB hi hl)]
      refine m4 h' (by simp [hl]) fun j hj=>?_
      by_cases e:i=j
      · subst e
        rw [List.getElem?_set_self hi,List.getElem?_set_self (by exact CB hi hl)]
      · rw [List.getElem?_set_ne e,List.getElem?_set_ne e]
        exact k j (by simp [Ne.symm e,hj])
    · exact nS h'
  | [],_::_,_,_,_,h,_,_=>by exact nS h
  | _::_,[],_,_,_,h,_,_=>by exact nS h
theorem nY:∀ {is:List Nat} {l:ag} {j:Nat},j ∉ is→(blank is l)[j]? = l[j]?
  | [],_,_,_=>rfl
  | i::is,l,j,h=>by
    rw [HS,nY (is:=is) (fun k=>h (List.mem_cons_of_mem _ k)),List.getElem?_set_ne (fun e=>h (by simp [e]))]
theorem qU {is:List Nat} {d:Dat} {l l':ag} (h:cU is d l=some l'):cU is d (blank is l)=some l':=by
  have gen:∀ {vs:List Val},ap is vs l=some l'→ap is vs (blank is l)=some l':=fun e=>m4 e blank_length.symm fun j hj=>(nY hj).symm
  have many:gY is d l=some l'→gY is d (blank is l)=some l':=fun h=>by
    refine bg h fun xs h1 h=>?_
    refine aN (kS h) fun h2 h=>?_
    unfold gY
    rw [h1]
    show (if is.length=xs.length then ap is (xs.map Val.d) (blank is l) else none)=some l'
    rw [if_pos h2]; exact gen h
  cases is with
  | nil=>exact many h
  | cons i r=>cases r with
    | nil=>exact gen (vs:=[.d d]) h
    | cons _ _=>exact many h
theorem xq {is:List Nat} {d:Dat} {l l':ag} (h:gY is d l=some l'):∃ xs,(d=.tup xs∨d=.lst xs)∧is.length=xs.length∧ap is (xs.map .d) l=some l':=by
  refine bg h fun xs h1 h=>?_
  refine aN (kS h) fun h2 h=>?_
  exact ⟨xs,vZ h1,h2,h⟩
theorem Inv.weak (I:Inv X s₀ o p as mu F loc s) {loc':ag} (hl:loc'.length=loc.length) (h:∀ (i:Nat) (v:Val),loc'[i]? = some (some v)→loc[i]? = some (some v)):Inv X s₀ o p as mu F loc' s:=by
  refine ⟨I.sh,I.base,I.ple,I.ole,I.dj,I.len,I.mus,I.nodup,I.out,?_,I.tb⟩
  have f:=I.fr
  obtain ⟨m,hm,hr⟩:=f.ns
  exact ⟨f.kind,f.glob,f.bltn,hl.trans f.len,f.nodup,f.plain,f.mine,⟨m,hm,fun i x v hi hv kn=>hr i x v hi (h i v hv) kn⟩,f.inj,f.apart,f.cell,f.wcell,f.fcell,f.lam,f.has⟩
theorem Inv.blank (I:Inv X s₀ o p as mu F loc s) (ts:List Nat):Inv X s₀ o p as mu F (blank ts loc) s:=I.weak blank_length fun i v h=>(mK h).2
end
section
variable {prog:Program} {w:World} {A:Around} {E:Value→Shared→Prop} {s:Shared}
theorem rB {it t:Addr} {items:Array Value} (hne:t ≠ it):∀ (n i:Nat) (s:Shared) (Q:List Value→Shared→Prop),s.heap.IsListIter it t i→s.heap.IsList t items→i+n≤items.size →
    (∀ h',h'.IsListIter it t (i+n)→Heap.SameBut it s.heap h'→Q ((items.toList.drop i).take n) { s with heap:=h' })→wpAny (model prog w) A (draw (.ref it) n) Q E s
  | 0,i,s,Q,hit,_,_,hQ=>by
    show wpAny _ _ (pure []) Q E s
    exact wpAny_pure (by simpa using hQ s.heap hit (Heap.SameBut.refl ..))
  | n+1,i,s,Q,hit,ht,hle,hQ=>by
    have hlt:i < items.size:=by exact w5 hle
    show wpAny _ _ (pyNext (.ref it) >>= _) Q E s
    refine wpAny_bind (wpAny_pyNext_list_item hit ht (x:=items[i]) (by simp [hlt]) fun h₁ hit₁ hs₁=>?_)
    refine wpAny_bind (wpAny_holding (rB hne n (i+1) _ _ hit₁ (ht.extBut hs₁.extBut hne) (by exact eH hle) fun h₂ hit₂ hs₂=>wpAny_pure ?_))
    have hd:items.toList.drop i=items[i]::items.toList.drop (i+1):=by simp [List.drop_eq_getElem_cons,hlt]
    have:=hQ h₂ (by rw [show i+(n+1)=i+1+n by exact yP]; exact hit₂) (hs₁.trans hs₂)
    rw [hd,List.take_succ_cons] at this
    exact this
theorem ox {t:Addr} {items:Array Value} {Q:List Value→Shared→Prop} (hh:A.handled=none) (ht:s.heap.IsList t items)
    (hQ:∀ h',Heap.ExtBut s.heap.objs.size s.heap h'→Q items.toList { s with heap:=h' }):wpAny (model prog w) A (unpackItems (.ref t) items.size none) Q E s:=by
  have hlt:t ≠ s.heap.objs.size:=by obtain ⟨o,ho,_⟩:=ht; exact Nat.ne_of_lt (Heap.lt_size ho)
  unfold unpackItems
  refine wpAny_bind ?_
  · unfold notIterableAtAll
    refine wpAny_bind (wpAny_specialOf ht.typeIs slot_list_iter.lookup ?_)
    refine wpAny_pure ?_
    simp only [Bool.false_eq_true,if_false]
    refine wpAny_bind (wpAny_holding (wpAny_pyIter_list ht ?_))
    refine wpAny_bind (wpAny_holding (rB hlt items.size 0 _ _ ⟨_,Heap.get?_push_size _ rfl,rfl,rfl⟩ (ht.push _) (by omega) fun h₁ hit₁ hs₁=>?_))
    have hall:List.take items.size (List.drop 0 items.toList)=items.toList:=by
      rw [List.drop_zero]; exact List.take_of_length_le (by simp)
    rw [hall]
    rw [if_neg (by simp)]
    have ht₁:h₁.IsList t items:=(ht.push _).extBut hs₁.extBut hlt
    refine wpAny_bind (wpAny_holding (wpAny_pyNext_list_end hh hit₁ ht₁ (by simp) fun h₂ he₂=>?_))
    simp only [Option.isSome_none,Bool.false_eq_true,if_false]
    refine wpAny_pure (hQ h₂ fun b o hb e=>he₂ b o hb (hs₁.extBut b o hb (Heap.get?_push_of_some _ e)))
theorem nQ {env:Env} {elts:List Expr} {x1} {pos:Pos} {t:Addr} {items:Array Value} {Q:Unit→Shared→Prop} (hh:A.handled=none) (ht:s.heap.IsList t items)
    (hn:(assignEach elts env).length=items.size) (hstar:(assignEach elts env).findIdx? (·.1)=none)
    (h:∀ h',Heap.ExtBut s.heap.objs.size s.heap h'→wpAny (model prog w) A (assignInOrder ((assignEach elts env).map (·.2)) items.toList) Q E { s with heap:=h' }) :
    wpAny (model prog w) A (assign (.Tuple elts x1 pos) env (.ref t)) Q E s:=by
  rw [assign_Tuple]
  refine wpAny_bind (wpAny_standAt ?_)
  unfold unpack
  rw [hn,hstar]
  exact wpAny_bind (wpAny_holding (ox hh ht h))
end
end Mine.Internal
namespace Mine.Internal
section
variable {X:Amb} {P:Fn→FDef} {s₀ s:Shared} {o p:aE} {as:As} {mu mu':Mu} {F:Fm} {loc loc':ag} {A:Around} {E:Value→Shared→Prop} {n:Nat}
noncomputable abbrev iK (F:Fm) (x:Str):Prop:=F.env.kindOf x=some .local∨x ∈ F.wr
theorem qS {ok:Str→Prop} {names:List Str} {env:Env}:∀ {is:List Nat} {l:List Expr},MtTs names ok is l→assignEach l env=l.map fun e=>(false,assign e env)
  | [],l,h=>by have h:l=[]:=h; subst h; rfl
  | i::is,l,h=>by
    obtain ⟨x,pos,r,rfl,_,_,h⟩:=h
    show _::assignEach r env=_
    rw [qS h]; rfl
theorem MtTs.len {ok:Str→Prop} {names:List Str}:∀ {is:List Nat} {l:List Expr},MtTs names ok is l→l.length=is.length
  | [],l,h=>by have h:l=[]:=h; subst h; rfl
  | i::is,l,h=>by
    obtain ⟨x,pos,r,rfl,_,_,h⟩:=h
    simp [h.len]
theorem mr:∀ {is:List Nat} {l:List Expr} {vs:List Val} {us:List Value} {loc:ag} {s:Shared} {Q:Unit→Shared→Prop},MtTs F.names (iK F) is l→ap is vs loc=some loc'→Inv X s₀ o p as mu F loc s→VRels X p as vs us →
    (∀ s',Inv X s₀ o p as mu F loc' s'→Q () s')→wpAny (model X.prog X.w) A (assignInOrder (l.map fun e=>assign e F.env) us) Q E s
  | [],l,[],us,loc,s,Q,h,e,I,r,K=>by
    have h:l=[]:=h
    have r:us=[]:=r
    subst h; subst r
    (replace e:=iS e; subst e)
    exact wpAny_pure (K _ I)
  | i::is,l,v::vs,us,loc,s,Q,h,e,I,r,K=>by
    obtain ⟨x,pos,l',rfl,hx,ok,h⟩:=h
    obtain ⟨u,us',rfl,r1,r2⟩:=r
    have e':(if i < loc.length then ap is vs (loc.set i (some v)) else none)=some loc':=e
    split at e'
    · show wpAny _ A (holding us' (assign (.Name x pos) F.env u) >>= fun Z=>assignInOrder (l'.map fun e=>assign e F.env) us') Q E s
      exact wpAny_bind (wpAny_holding (wpAny_assign_Name (ko I hx ok r1 fun s' I'=>mr h e' I' r2 K)))
    · exact nS e'
  | [],_,_::_,_,_,_,_,_,e,_,_,_=>by exact nS e
  | _::_,_,[],_,_,_,_,_,e,_,_,_=>by exact nS e
theorem MtT.one {ok:Str→Prop} {names:List Str} {i:Nat} {e:Expr} (h:MtT names ok [i] e):∃ x pos,e=.Name x pos∧names[i]? = some x∧ok x:=h
theorem MtT.more {ok:Str→Prop} {names:List Str} {is:List Nat} {e:Expr} (h:MtT names ok is e) (hn:∀ t,is=[t]→False):∃ l k pos,e=.Tuple l k pos∧MtTs names ok is l:=by
  cases is with
  | nil=>exact h
  | cons i r =>
    cases r with
    | nil=>exact absurd rfl (hn i)
    | cons j r=>exact h
theorem Inv.ext (I:Inv X s₀ o p as mu F loc s) {h':Heap} (he:Heap.ExtBut s.heap.objs.size s.heap h'):Inv X s₀ o p as mu F loc { s with heap:=h' }:=I.keeps fun a ob e=>he a ob (Nat.ne_of_lt (Heap.lt_size e)) e
theorem j0 {l:List Expr} {env:Env}:(l.map fun e=>(false,assign e env)).findIdx? (·.1)=none:=by
  rw [List.findIdx?_eq_none_iff]
  intro x hx
  refine xe1 (List.mem_map.mp hx) fun e r_=>aN r_ fun Z e2_=>?_
  subst e2_
  rfl
theorem iv {is:List Nat} {l:List Expr} {k} {pos:Pos} {T:Addr} {vs:Array Value} {m:Nat} {xs:List Dat} {Q:Unit→Shared→Prop} (hh:A.handled=none) (h:MtTs F.names (iK F) is l) (e:ap is (xs.map .d) loc=some loc') (hl:is.length=xs.length)
    (I:Inv X s₀ o p as mu F loc s) (hT:s.heap.get? T=some (d7 vs m)∨s.heap.get? T=some (listOf vs m)) (r:DRels X p xs vs.toList) (K:∀ s',Inv X s₀ o p as mu F loc' s'→Q () s') :
    wpAny (model X.prog X.w) A (assign (.Tuple l k pos) F.env (.ref T)) Q E s:=by
  have hz:xs.length=vs.size:=by simpa using r.length
  have he:=qS (env:=F.env) h
  have fin:∀ h',Heap.ExtBut s.heap.objs.size s.heap h'→wpAny (model X.prog X.w) A (assignInOrder ((assignEach l F.env).map (·.2)) vs.toList) Q E { s with heap:=h' }:=fun h' hx=>by
    rw [he,List.map_map]
    exact mr h e (I.ext hx) (.ofD r) K
  rcases hT with hT | hT
  · exact assign_Tuple_tuple hh ⟨_,hT,rfl,m,rfl⟩ (by rw [he,List.length_map,h.len]; exact Eq.trans hl hz) (by rw [he]; exact j0) fin
  · exact nQ hh ⟨_,hT,rfl,m,rfl⟩ (by rw [he,List.length_map,h.len]; exact Eq.trans hl hz) (by rw [he]; exact j0) fin
theorem n9 {is:List Nat} {t:Expr} {d:Dat} {v:Value} {Q:Unit→Shared→Prop} (hh:A.handled=none) (h:MtT F.names (iK F) is t) (e:cU is d loc=some loc') (I:Inv X s₀ o p as mu F loc s) (r:DRel X p d v)
    (K:∀ s',Inv X s₀ o p as mu F loc' s'→Q () s'):wpAny (model X.prog X.w) A (assign t F.env v) Q E s:=by
  have many:gY is d loc=some loc'→(∃ l k pos,t=.Tuple l k pos∧MtTs F.names (iK F) is l)→wpAny (model X.prog X.w) A (assign t F.env v) Q E s:=fun e ⟨l,k,pos,ht,hm⟩=>by
    rw [ht]
    refine xe1 (xq e) fun xs r_=>gD r_ fun hd hl e1=>?_
    rcases hd with q | q <;> rw [q] at r
    · refine RSeq.el (fR (as:=as) (show VRel X p as (.d (.tup xs)) v from r)) fun a vs m e3_ h1 h2=>?_
      subst e3_
      exact iv hh hm e1 hl I (.inl (I.ple _ _ h1)) h2 K
    · refine RSeq.el (iw (as:=as) (show VRel X p as (.d (.lst xs)) v from r)) fun a vs m e3_ h1 h2=>?_
      subst e3_
      exact iv hh hm e1 hl I (.inr (I.ple _ _ h1)) h2 K
  cases is with
  | nil=>exact many e h
  | cons i r=>cases r with
    | nil =>
      obtain ⟨x,pos,rfl,hx,ok⟩:=h.one
      refine aN (kS (show (if i < loc.length then ap [] [] (loc.set i (some (.d d))) else none)=some loc' from e)) fun Z e'=>?_
      (replace e':=iS e'; subst e')
      exact wpAny_assign_Name (ko I hx ok (show VRel X p as (.d d) v from r) fun s' I'=>K s' I')
    | cons _ _=>exact many e h
structure Itr (X:Amb) (A:Around) (p:aE) (ds:List Dat) (I:Addr) (fp:List Addr) (Pr:Nat→Value→Prop) (St:Nat→Heap→Prop):Prop where
  w:Walks X.prog X.w A I fp [I] ds.length Pr St
  fp:∀ b ∈ fp,b=I∨(p b).isSome
  ex:∀ i h,St i h→∃ ob,h.get? I=some ob
  val:∀ i v d,Pr i v→ds[i]? = some d→DRel X p d v
  go:∀ i (s:Shared) t v (Q:Unit→Shared→Prop) (E:Value→Shared→Prop),St i s.heap→Q () s→wpAny (model X.prog X.w) A (letOwnedTupleGo t (.ref I) v) Q E s
theorem pQ {prog:Program} {w:World} {E:Value→Shared→Prop} {target:Expr} {I:Addr} {x l st:Int} {v:Value} {Q':Unit→Shared→Prop} {s':Shared} (hit:IsRangeIter s'.heap I x l st) (h:Q' () s') :
    wpAny (model prog w) A (letOwnedTupleGo target (.ref I) v) Q' E s':=by
  unfold letOwnedTupleGo
  cases target <;> first
    | exact wpAny_pure h
    | (cases v <;> first
        | exact wpAny_pure h
        | (refine wpAny_bind (wpAny_load hit ?_)
           exact wpAny_pure h))
theorem uU {d:Dat} {ds:List Dat} {u:Value} {Q:Value→Shared→Prop} (e:items d=some ds) (hh:A.handled=none) (I:Inv X s₀ o p as mu F loc s) (r:DRel X p d u)
    (K:∀ It ob fp Pr St,It=s.heap.objs.size→ob.isFreed=false→Itr X A p ds It fp Pr St→St 0 (s.heap.push ob)→Q (.ref It) { s with heap:=s.heap.push ob }):wpAny (model X.prog X.w) A (pyIter u) Q E s:=by
  cases d with
  | lst xs =>
    cases e
    refine RSeq.el (iw (as:=as) (show VRel X p as (.d (.lst _)) u from r)) fun a vs m e3_ h1 h2=>?_
    subst e3_
    have hz:ds.length=vs.size:=by simpa using h2.length
    have hL:s.heap.IsList a vs:=⟨_,I.ple _ _ h1,rfl,m,rfl⟩
    have hne:a ≠ s.heap.objs.size:=Nat.ne_of_lt (Heap.lt_size (I.ple _ _ h1))
    refine wpAny_pyIter_list hL (K _ _ _ _ _ rfl rfl ⟨hz ▸ Walks.list hh s.heap.objs.size a hne vs,?_,fun i h st=>(let ⟨ob,e,_⟩:=st.1; ⟨ob,e⟩),?_,fun i s t v Q E st h=>letGo_listiter st.1 h⟩ ⟨⟨_,Heap.get?_push_size _ rfl,rfl,rfl⟩,hL.push _⟩)
    · intro b hb
      rcases List.mem_cons.mp hb with hq_ | hb
      · rw [hq_]; exact .inl rfl
      · rw [List.mem_singleton] at hb; rw [hb]; exact .inr (by rw [h1]; rfl)
    · intro i v d hv hd
      obtain ⟨u,hu,dr⟩:=h2.get.2 i d hd
      have hv:vs[i]? = some v:=hv
      rw [Array.getElem?_toList,hv] at hu; (replace hu:=iS hu; subst hu); exact dr
  | tup xs =>
    cases e
    refine RSeq.el (fR (as:=as) (show VRel X p as (.d (.tup _)) u from r)) fun a vs m e3_ h1 h2=>?_
    subst e3_
    have hz:ds.length=vs.size:=by simpa using h2.length
    have hL:s.heap.IsTuple a vs:=⟨_,I.ple _ _ h1,rfl,m,rfl⟩
    have hne:a ≠ s.heap.objs.size:=Nat.ne_of_lt (Heap.lt_size (I.ple _ _ h1))
    refine iter_tuple (show IsTup s.heap a vs from hL) (K _ _ _ _ _ rfl rfl ⟨hz ▸ Walks.tuple hh s.heap.objs.size a hne vs,?_,fun i h st=>(let ⟨ob,e,_⟩:=st.1; ⟨ob,e⟩),?_,fun i s t v Q E st h=>letGo_tupleiter st.1 h⟩ ⟨⟨_,Heap.get?_push_size _ rfl,rfl,rfl⟩,⟨_,Heap.get?_push_of_some _ (I.ple _ _ h1),rfl,m,rfl⟩⟩)
    · intro b hb
      rcases List.mem_cons.mp hb with hq_ | hb
      · rw [hq_]; exact .inl rfl
      · rw [List.mem_singleton] at hb; rw [hb]; exact .inr (by rw [h1]; rfl)
    · intro i v d hv hd
      obtain ⟨u,hu,dr⟩:=h2.get.2 i d hd
      have hv:vs[i]? = some v:=hv
      rw [Array.getElem?_toList,hv] at hu; (replace hu:=iS hu; subst hu); exact dr
  | rng a b c =>
    refine gD (rG e) fun ok hc r_=>xe1 r_ fun k r_=>gD r_ fun hk hl hz=>?_
    subst hl
    refine RRng.el (zt (as:=as) (show VRel X p as (.d (.rng a b c)) u from r)) fun q' t v' x e4_ h1=>?_
    rw [e4_]
    refine wpAny_pyIter_range (I.ple _ _ h1) (rd ok hc) (K _ _ _ _ _ rfl rfl ⟨Walks.range hh s.heap.objs.size a c ds.length,fun b hb=>.inl (by simpa using hb),fun i h st=>⟨_,st⟩,?_,fun i s t v Q E st h=>pQ st h⟩ ?_)
    · intro i v d hv hd
      obtain ⟨t,rfl⟩:=hv
      have e0:=e
      unfold items at e0
      dsimp only at e0
      rw [if_neg (by rw [ok]; decide)] at e0
      rcases hc with rfl | rfl
      · rw [if_pos rfl] at e0; (replace e0:=iS e0; subst e0)
        rw [List.getElem?_map] at hd
        refine bM hd fun j hj e2_=>?_
        clear hd
        subst e2_
        refine xe1 (List.getElem?_eq_some_iff.mp hj) fun Z e1_=>?_
        subst e1_
        rw [te]
        exact ⟨t,by simp⟩
      · rw [if_neg (by decide),if_pos rfl] at e0; (replace e0:=iS e0; subst e0)
        rw [List.getElem?_map] at hd
        refine bM hd fun j hj e2_=>?_
        clear hd
        subst e2_
        refine xe1 (List.getElem?_eq_some_iff.mp hj) fun Z e1_=>?_
        subst e1_
        rw [te]
        exact ⟨t,by rw [List.getElem_range]; congr 1; exact mi⟩
    · have:=Heap.get?_push_size s.heap (o:={ cls:=.type "range_iterator", data:=.fields #[rawInt a,rawInt (Builtin.Range.rangeSize a b c),rawInt c] }) rfl
      rw [hk] at this
      show IsRangeIter _ _ (a+((0:Nat):Int) * c) ((ds.length:Int) - ((0:Nat):Int)) c
      rw [show a+((0:Nat):Int) * c=a by simp,show (ds.length:Int) - ((0:Nat):Int)=ds.length by simp,hk]
      exact this
  | _=>exact nS e
end
end Mine.Internal
namespace Mine.Internal
noncomputable def i7 (env:Env):List (Str × NameKind)→List (Str × Addr)→List (Str × Addr)
  | [],acc=>acc
  | (x,k)::r,acc=>if k=.free then i7 env r ((x,(env.cells.lookup x).getD 0)::acc) else i7 env r acc
theorem H6 {env:Env} {x:Str} {k:NameKind} {r:List (Str × NameKind)} {acc:List (Str × Addr)}:i7 env ((x,k)::r) acc=if k=.free then i7 env r ((x,(env.cells.lookup x).getD 0)::acc) else i7 env r acc:=rfl
theorem pN {sc:Scope} {env:Env} (h:∀ x ∈ sc.names,x.2=.free→(env.cells.lookup x.1).isSome=true):closureFor sc env=pure (i7 env sc.names []):=by
  simp only [closureFor]
  generalize sc.names=l at h
  generalize ([]:List (Str × Addr))=acc
  induction l generalizing acc with
  | nil=>rfl
  | cons x l ih =>
    obtain ⟨x,k⟩:=x
    rw [List.forIn_cons,H6]
    have ih':=ih fun y hy=>h y (.tail _ hy)
    by_cases e:k=.free
    · subst e
      refine xe1 (Option.isSome_iff_exists.mp (h (x,.free) (.head _) rfl)) fun c hc=>?_
      have:cellOf env x=pure c:=by unfold cellOf; rw [show List.lookup x env.cells=some c from hc]
      simp only [this,hc,beq_self_eq_true,if_true,pure_bind,Option.getD_some]
      exact ih' _
    · have e':(k == NameKind.free)=false:=beq_eq_false_iff_ne.mpr e
      simp only [e',Bool.false_eq_true,if_false,pure_bind,e]
      exact ih' _
theorem ig {env:Env}:∀ {l:List (Str × NameKind)} {acc:List (Str × Addr)},(∀ x ∈ l,x.2=.free→(env.cells.lookup x.1).isSome=true)→(∀ x c,acc.lookup x=some c→env.cells.lookup x=some c) →
    (∀ x c,(i7 env l acc).lookup x=some c→env.cells.lookup x=some c)∧∀ x,(acc.lookup x).isSome=true∨(x,NameKind.free) ∈ l→((i7 env l acc).lookup x).isSome=true
  | [],acc,_,h=>⟨h,fun x k=>k.elim id fun k=>by cases k⟩
  | (x,k)::r,acc,h1,h=>by
    rw [H6]
    by_cases e:k=.free
    · subst e
      refine xe1 (Option.isSome_iff_exists.mp (h1 (x,.free) (.head _) rfl)) fun c hc=>?_
      have hc:env.cells.lookup x=some c:=hc
      rw [if_pos rfl,hc]
      have hh:∀ (y:Str) (c':Addr),List.lookup y ((x,c)::acc)=some c'→env.cells.lookup y=some c':=fun y c' hy=>by
        rw [List.lookup_cons] at hy
        split at hy
        · rename_i q; (replace hy:=iS hy; subst hy); rw [eq_of_beq q]; exact hc
        · exact h y c' hy
      obtain ⟨a,b⟩:=ig (l:=r) (acc:=(x,c)::acc) (fun y hy=>h1 y (.tail _ hy)) hh
      refine ⟨a,fun y hy=>b y ?_⟩
      rw [List.lookup_cons]
      rcases hy with hy | hy
      · left
        split
        · rfl
        · exact hy
      · rcases List.mem_cons.mp hy with q | q
        · (refine eJ q fun h1_ h2_=>?_; rw [h1_]); left; simp
        · exact .inr q
    · rw [if_neg e]
      obtain ⟨a,b⟩:=ig (l:=r) (acc:=acc) (fun y hy=>h1 y (.tail _ hy)) h
      refine ⟨a,fun y hy=>b y ?_⟩
      rcases hy with hy | hy
      · exact .inl hy
      · rcases List.mem_cons.mp hy with q | q
        · (refine eJ q fun h1_ h2_=>?_; rw [h1_]; subst h2_); exact absurd rfl e
        · exact .inr q
theorem k9 {sc:Scope} {env:Env} {x:Str}:(relabel sc env).names.lookup x=(sc.names.lookup x).map fun k=>if (k == .free && env.scope.kind == .function && env.kindOf x == some .cell) then .cell else k:=by
  unfold relabel
  dsimp only
  induction sc.names with
  | nil=>rfl
  | cons q l ih =>
    obtain ⟨y,k⟩:=q
    rw [List.map_cons]
    dsimp only
    by_cases c:(k == .free && env.scope.kind == .function && env.kindOf y == some .cell)=true
    · rw [if_pos c]
      by_cases e:x=y
      · subst e
        simp only [List.lookup_cons,beq_self_eq_true,Option.map_some]
        rw [if_pos c]
      · have e':(x == y)=false:=beq_eq_false_iff_ne.mpr e
        simp only [List.lookup_cons,e']
        exact ih
    · rw [if_neg c]
      by_cases e:x=y
      · subst e
        simp only [List.lookup_cons,beq_self_eq_true,Option.map_some]
        rw [if_neg c]
      · have e':(x == y)=false:=beq_eq_false_iff_ne.mpr e
        simp only [List.lookup_cons,e']
        exact ih
section
variable {X:Amb} {P:Fn→FDef} {s₀ s:Shared} {o p:aE} {as:As} {mu mu':Mu} {F:Fm} {loc loc':ag} {A:Around} {E:Value→Shared→Prop} {n:Nat}
theorem CompSc.agree {sc:Scope} {kd:Kd} {names:List Str} {ts:List Nat} {env:Env} {cl:List (Str × Addr)} {C:Addr} (h:CompSc sc kd names ts):Agree (compEnvC sc cl C env) (cx sc):=fun x=>by
  have e:(compEnvC sc cl C env).kindOf x=(relabel sc env).names.lookup x:=rfl
  rw [e,k9]
  unfold cx
  refine ⟨fun h=>by rw [h]; rfl,fun h=>by rw [h]; rfl,fun h=>by rw [h]; rfl,fun h=>?_⟩
  rw [h]
  by_cases c:(NameKind.free == NameKind.free && env.scope.kind == .function && env.kindOf x == some .cell)=true
  · left; simp only [Option.map_some]; rw [if_pos c]
  · right; simp only [Option.map_some]; rw [if_neg c]
noncomputable abbrev gT (F:Fm) (sc:Scope) (cl:List (Str × Addr)) (C:Addr):Fm:={ env:=compEnvC sc cl C F.env,own:=[C],names:=F.names,wr:=[],fz:=[] }
theorem xi {sc:Scope} {kd:Kd} {ts:List Nat} {cl:List (Str × Addr)} {C:Addr} {m0:Str→Option Value} (hC:CompSc sc kd F.names ts) (hA:Agree F.env kd) (I:Inv X s₀ o p as mu F loc s) (hal:cH X o p as mu F C) (hns:s.heap.Ns C m0)
    (h1:∀ x c,cl.lookup x=some c→F.env.cells.lookup x=some c) (h2:∀ x,(x,NameKind.free) ∈ sc.names→(cl.lookup x).isSome=true):Inv X s₀ (c7 o F.own s.heap) p as mu (gT F sc cl C) (blank ts loc) s:=by
  have f:=I.fr
  obtain ⟨obC,_,_,eC,_⟩:=id hns
  have mem_free:∀ x,sc.names.lookup x=some .free→(x,NameKind.free) ∈ sc.names:=fun x e=>mem_of_lookup e
  refine ⟨I.sh,I.base,I.ple,fun b ob e=>?_,fun b hb=>?_,I.len,I.mus,?_,fun b hb=>?_,?_,I.tb⟩
  · by_cases k:b ∈ F.own
    · rw [dv k] at e; exact e
    · rw [ch k] at e; exact I.ole _ _ e
  · rw [ch fun k=>?_]
    · exact I.dj b hb
    · have:=(I.out b (List.mem_cons_of_mem _ (List.mem_append_left _ k))).1
      rw [this] at hb; cases hb
  · refine List.nodup_cons.mpr ⟨fun h=>?_,List.nodup_append.mpr ⟨by simp,I.nd_owns,fun a ha b hb q=>?_⟩⟩
    · rcases List.mem_append.mp h with h | h
      · rw [List.mem_singleton] at h; exact hal.2.2 (h ▸ .head _)
      · exact I.tab_owns h
    · rw [List.mem_singleton] at ha; subst ha; subst q
      exact hal.2.2 (List.mem_cons_of_mem _ (List.mem_append_right _ hb))
  · rcases List.mem_cons.mp hb with rfl | hb
    · obtain ⟨a1,a2,a3⟩:=I.out X.tab (.head _)
      exact ⟨a1,by rw [ch I.tab_own]; exact a2,a3⟩
    · rcases List.mem_append.mp hb with hb | hb
      · rw [List.mem_singleton] at hb; rw [hb]
        exact ⟨hal.1,by rw [ch fun k=>hal.2.2 (List.mem_cons_of_mem _ (List.mem_append_left _ k))]; exact hal.2.1,_,eC⟩
      · obtain ⟨a1,a2,a3⟩:=I.out b (List.mem_cons_of_mem _ (List.mem_append_right _ hb))
        exact ⟨a1,by rw [ch fun k=>I.own_owns k hb]; exact a2,a3⟩
  · have kind:∀ x,(compEnvC sc cl C F.env).kindOf x=(sc.names.lookup x).map fun k=>if (k == .free && F.env.scope.kind == .function && F.env.kindOf x == some .cell) then .cell else k:=fun x=>k9
    have isfree:∀ x,(compEnvC sc cl C F.env).kindOf x=some .cell∨(compEnvC sc cl C F.env).kindOf x=some .free→sc.names.lookup x=some .free:=fun x k=>by
      rw [kind] at k
      cases e:sc.names.lookup x with
      | none=>rw [e] at k; rcases k with k | k <;> exact nS k
      | some z =>
        have hm:=mem_of_lookup e
        have ncell:=hC.cell _ hm
        rw [e] at k
        simp only [Option.map_some,Option.some.injEq] at k
        by_cases c:z=.free
        · rw [c]
        · have c':(z == NameKind.free)=false:=beq_eq_false_iff_ne.mpr c
          rcases k with k | k
          · rw [if_neg (by simp [c'])] at k
            exact absurd k ncell
          · rw [if_neg (by simp [c'])] at k
            exact absurd k c
    obtain ⟨m,hm,hr⟩:=f.ns
    refine ⟨hC.kind,f.glob,f.bltn,by rw [blank_length]; exact f.len,f.nodup,f.plain,.head _,⟨m0,hns,fun i x v hi hv kn=>?_⟩,fun x y c hx hy=>f.inj x y c (h1 _ _ hx) (h1 _ _ hy),fun x c hx=>?_,fun x c hx=>?_,fun x hx=>(by cases hx),fun x hx=>(by cases hx),fun x hx=>(by cases hx),fun x hx=>h2 x (mem_free x (isfree x hx))⟩
    · refine aN (mK hv) fun b1 b2=>?_
      rcases kn with kn | kn
      · have:sc.names.lookup x=some .local:=by
          have kn:(compEnvC sc cl C F.env).kindOf x=some .local:=kn
          rw [kind] at kn
          cases e:sc.names.lookup x with
          | none=>rw [e] at kn; exact nS kn
          | some z =>
            rw [e] at kn
            simp only [Option.map_some,Option.some.injEq] at kn
            split at kn
            · cases kn
            · rw [kn]
        exact absurd (hC.loc (x,i) (List.mem_zipIdx_iff_getElem?.mpr hi) this) b1
      · have fr:=isfree x kn
        have kf:pL F.env x:=by
          have:=hC.free _ (mem_free x fr) rfl
          rcases this with q | q
          · exact hA.known (.inr (.inl q))
          · exact hA.known (.inr (.inr q))
        obtain ⟨u,r,vr⟩:=hr i x v hi b2 kf
        refine ⟨u,.inr ⟨kn,?_⟩,vr⟩
        refine xe1 (Option.isSome_iff_exists.mp (h2 x (mem_free x fr))) fun c hc=>?_
        refine ⟨c,hc,?_⟩
        rcases r with ⟨k,_⟩ | ⟨_,c',hc',g⟩
        · exfalso
          have:=hC.free _ (mem_free x fr) rfl
          rcases this with q | q
          · rw [(hA x).2.2.1 q] at k; cases k
          · rcases (hA x).2.2.2 q with z | z <;> rw [z] at k <;> cases k
        · rw [h1 _ _ hc] at hc'; (replace hc':=iS hc'; subst hc'); exact g
    · have:=(f.cell x c (h1 _ _ hx)).2
      show c ≠ C
      intro q
      subst q
      rcases this with k | k | k
      · exact hal.2.2 (List.mem_cons_of_mem _ (List.mem_append_left _ k))
      · rw [hal.1] at k; cases k
      · rw [hal.2.1] at k; cases k
    · obtain ⟨a1,a2⟩:=f.cell x c (h1 _ _ hx)
      refine ⟨a1,?_⟩
      by_cases k:c ∈ F.own
      · right; right
        obtain ⟨_,_,ob,e⟩:=I.out c (List.mem_cons_of_mem _ (List.mem_append_left _ k))
        rw [dv k,e]; rfl
      · rcases a2 with q | q | q
        · exact absurd q k
        · exact .inr (.inl q)
        · right; right; rw [ch k]; exact q
end
end Mine.Internal
namespace Mine.Internal
section
variable {X:Amb} {P:Fn→FDef} {s₀ s:Shared} {o p:aE} {as:As} {mu mu':Mu} {F:Fm} {loc loc':ag} {A:Around} {E:Value→Shared→Prop} {n:Nat}
theorem Inv.swap {l:List Addr} {h h':Heap} {tk:Nat} (I:Inv X s₀ (c7 o l h) p as mu F loc s) (hl:∀ a ∈ l,o a=none) (hs:∀ a ∈ l,∃ ob,h.get? a=some ob) (hc:∀ x c,F.env.cells.lookup x=some c→c ∉ l)
    (hk:∀ b,b ∉ l→∀ ob,s.heap.get? b=some ob→h'.get? b=some ob):Inv X s₀ (c7 o l h') p as mu F loc { s with heap:=h',toks:=tk }:=by
  obtain ⟨I1,al⟩:=I.unhold hl hs hc
  exact ((I1.alien (fun a ha=>(al a ha).1) hk).tok tk).hold (l:=l) fun a ha=>(al a ha).1
noncomputable def OV (X:Amb) (p:aE) (as:As):Option Val→Option Value→Prop
  | some v,some u=>VRel X p as v u
  | none,none=>True
  | _,_=>False
noncomputable def mH (X:Amb) (s₀:Shared) (F:Fm) (A:Around) (f:ag→Mu→Option (Option Val × Mu)) (elt:Expr) (ifs:List Expr):Prop :=
  ∀ {o p as mu mu' loc s ov},Inv X s₀ o p as mu F loc s→f loc mu=some (ov,mu')→∀ (Q:Option Value→Shared→Prop) (E:Value→Shared→Prop),
    (∀ p' as' s' ou,Sub p p'→as <+: as'→Inv X s₀ o p' as' mu' F loc s'→OV X p' as' ov ou→Q ou s') →
    wpAny (model X.prog X.w) A (forIn ifs true fun c r=>if r=true then do let ok ← isTrue c F.env (eval c F.env); pure (ForInStep.yield ok) else pure (ForInStep.yield r))
      (fun ok s₃=>if ok=true then wpAny (model X.prog X.w) A (eval elt F.env) (fun u s₄=>Q (some u) s₄) E s₃ else Q none s₃) E s
theorem xB {f:ag→Mu→Option (Option Val × Mu)} {elt target iter:Expr} {ifs:List Expr} {sc:Scope} {pos:Pos} {ts:List Nat} {ds:List Dat} {It D:Addr} {fp:List Addr} {Pr:Nat→Value→Prop} {St:Nat→Heap→Prop}
    {total:List Val} {muE:Mu} {R:Result→Shared→Prop} {ob:Obj} (hh:A.handled=none) (hT:mH X s₀ F A f elt ifs) (ht:MtT F.names (iK F) ts target) (T:Itr X A p ds It fp Pr St) (hlim:total.length≤lim) (e:cD f ts ds loc mu=some (total,muE))
    (I:Inv X s₀ (c7 o [D,It] s.heap) p as mu F (blank ts loc) s) (hl:∀ a ∈ [D,It],o a=none) (hc:∀ x c,F.env.cells.lookup x=some c→c ∉ [D,It]) (hst:St 0 s.heap) (hne:D ≠ It) (hIt:s.heap.get? It=some ob) {m:Nat}
    (hD:s.heap.get? D=some (listOf #[] m))
    (hR:∀ p' as' loc' s' ys m,Sub p p'→as <+: as'→Inv X s₀ (c7 o [D] s'.heap) p' as' muE F loc' s'→s'.heap.get? D=some (listOf ys m)→VRels X p' as' total ys.toList→R (.ok .next) s') :
    codeAny (model X.prog X.w) A (.compLoop (.ListComp elt [⟨target,iter,ifs,0⟩] sc pos) 0 (.ref It) (.ref D) F.env) R s:=by
  refine codeAny_loop rfl (fun k s'=>∃ (i:Nat) (p':aE) (as':As) (mu':Mu) (loc':ag) (ys:Array Value) (m:Nat) (vals rest:List Val),k=ds.length+1 - i∧i≤ds.length∧Inv X s₀ (c7 o [D,It] s'.heap) p' as' mu' F (blank ts loc') s' ∧
    s'.heap.get? D=some (listOf ys m)∧(∃ ob,s'.heap.get? It=some ob)∧VRels X p' as' vals ys.toList∧St i s'.heap∧cD f ts (ds.drop i) loc' mu'=some (rest,muE)∧vals++rest=total∧Sub p p'∧as <+: as') (fun k s' hI=>?_) (ds.length+1 - 0)
    ⟨0,p,as,mu,loc,#[],m,[],total,rfl,Nat.zero_le _,I,hD,⟨_,hIt⟩,rfl,hst,e,rfl,Sub.refl,List.prefix_refl _⟩
  refine xe9 hI fun i p' as' mu' loc' ys m vals rest r_=>Jr r_ fun hk_ hi I' hD' hx_ hv hst' e' r_=>gD r_ fun hvr sp sa=>xe1 hx_ fun ob' hIt'=>?_
  rw [hk_]
  clear hI hk_ hx_
  show wpAny _ A ((compTurn (.ListComp elt [⟨target,iter,ifs,0⟩] sc pos) 0 (.ref It) (.ref D) F.env).onRaise (fun x=>do noteFrame x F.env; theTreesLotGoes x)) _ _ s'
  refine wpAny_noted ?_
  rw [compTurn_list]
  have has:∀ a ∈ [D,It],∃ ob,s'.heap.get? a=some ob:=tT (⟨_,hD'⟩) (⟨_,hIt'⟩)
  by_cases hlt:i < ds.length
  · have hd:ds.drop i=ds[i]::ds.drop (i+1):=List.drop_eq_getElem_cons hlt
    rw [hd] at e'
    rw [JN] at e'
    refine bg e' fun l1 e1 e'=>?_
    refine bJ e' fun ov m1 e2 e'=>?_
    refine bJ e' fun vs m2 e3 e'=>?_
    refine dx e' fun h1_ h2_=>?_
    clear e'
    rw [← h1_] at hvr; rw [h2_] at e3
    refine wpAny_bind (wpAny_standAt (wpAny_bind (T.w.item i s' _ _ hlt hst' fun v h' tk hpr hst1 hk=>?_)))
    have hk':∀ b,b ∉ [D,It]→∀ ob,s'.heap.get? b=some ob→h'.get? b=some ob:=fun b hb ob e=>hk b ob (fun q=>hb (by simp at q; simp [q])) e
    have I1:=I'.swap (h':=h') (tk:=tk) hl has hc hk'
    have dr:DRel X p' ds[i] v:=(T.val i v ds[i] hpr (List.getElem?_eq_getElem hlt)).mono sp
    have hD1:h'.get? D=some (listOf ys m):=hk D _ (by simpa using hne) hD'
    refine xe1 (T.ex _ _ hst1) fun ob1 hIt1=>?_
    have has1:∀ a ∈ [D,It],∃ ob,h'.get? a=some ob:=tT (⟨_,hD1⟩) (⟨_,hIt1⟩)
    dsimp only
    refine wpAny_bind (T.go (i+1) _ target v _ _ hst1 ?_)
    refine wpAny_bind (n9 hh ht (qU e1) I1 dr fun s2 I2=>?_)
    refine wpAny_bind (wpAny_mono (hT I2 e2 (fun ou s3=>∃ p3 gq,Sub p' p3∧as' <+: gq∧Inv X s₀ (c7 o [D,It] h') p3 gq m1 F l1 s3∧OV X p3 gq ov ou) _
      fun p3 gq s3 ou a b c d=>⟨p3,gq,a,b,c,d⟩) (fun ok s3 h3=>?_) fun Z Z x=>x)
    have held_at:∀ {p3 gq s3},Inv X s₀ (c7 o [D,It] h') p3 gq m1 F l1 s3→Sub p' p3→∀ {h4:Heap},(∀ b,b ∉ [D,It]→∀ ob,s3.heap.get? b=some ob→h4.get? b=some ob)→h4.get? It=h'.get? It→St (i+1) h4:=fun {p3 gq s3} I3 hp3 {h4} h34 hh4=>by
      refine T.w.frame _ _ _ hst1 fun b hb ob e=>?_
      rcases T.fp b hb with hq_ | hb
      · rw [hq_] at e ⊢; rw [hh4]; exact e
      · refine xe1 (Option.isSome_iff_exists.mp hb) fun ob2 q=>?_
        have q3:=hp3 _ _ (sp _ _ q)
        have e1:=I1.ple _ _ (sp _ _ q)
        have hoo:ob=ob2:=iS ((show h'.get? b=some ob from e).symm.trans e1)
        rw [hoo]
        refine h34 b (fun hm=>?_) _ (I3.ple _ _ q3)
        have:=I3.dj b (by rw [q3]; rfl)
        obtain ⟨ob5,e5⟩:=has1 b hm
        rw [dv hm,e5] at this; exact nS this.symm
    clear e2 h1_ h2_
    cases ok with
    | false =>
      simp only [Bool.false_eq_true,if_false] at h3 ⊢
      refine xe2 h3 fun p3 gq r_=>vp r_ fun sp3 sa3 I3 hov=>?_
      clear h3
      cases ov with
      | some v=>exact hov.elim
      | none =>
        have hD3:s3.heap.get? D=some (listOf ys m):=I3.ole _ _ ((dv (by simp)).trans hD1)
        have hI3:s3.heap.get? It=some ob1:=I3.ole _ _ ((dv (by simp)).trans hIt1)
        have I3':=I3.swap (h':=s3.heap) (tk:=s3.toks) hl has1 hc fun b Z ob e=>e
        refine wpAny_pure ⟨rfl,ds.length+1 - (i+1),by exact su hlt,i+1,p3,gq,m1,l1,ys,m,vals,vs,rfl,hlt,I3'.blank ts,hD3,⟨_,hI3⟩,hv.mono sp3 sa3,held_at I3 sp3 (fun b Z ob e=>e) (by rw [hI3,hIt1]),e3,hvr,sp.trans sp3,sa.trans sa3⟩
    | true =>
      simp only [if_true] at h3 ⊢
      refine wpAny_bind (wpAny_bind (wpAny_mono h3 (fun u s4 h4=>?_) fun Z Z x=>x))
      refine xe2 h4 fun p3 gq r_=>vp r_ fun sp3 sa3 I3 hov=>?_
      clear h4
      cases ov with
      | none=>exact hov.elim
      | some v =>
        have hov:VRel X p3 gq v u:=hov
        have hD3:s4.heap.get? D=some (listOf ys m):=I3.ole _ _ ((dv (by simp)).trans hD1)
        have hI3:s4.heap.get? It=some ob1:=I3.ole _ _ ((dv (by simp)).trans hIt1)
        have hz:vals.length=ys.size:=by simpa using hv.length
        have hle:vals.length≤lim:=by have:=congrArg List.length hvr; rw [List.length_append] at this; omega
        refine wpAny_bind (append_at hD3 (fun h5 hs5 hg5=>wpAny_pure ?_) (fu (by exact yF hle hz)))
        have I5:=I3.swap (h':=h5) (tk:=s4.toks) hl has1 hc fun b hb ob e=>(hs5.2 b fun q=>hb (by simp [q])).trans e
        refine wpAny_pure ⟨rfl,ds.length+1 - (i+1),by exact su hlt,i+1,p3,gq,m1,l1,ys.push u,m+1,vals++[v],vs,rfl,hlt,I5.blank ts,hg5,⟨ob1,(hs5.2 It (Ne.symm hne)).trans hI3⟩,?_,?_,e3,?_,sp.trans sp3,sa.trans sa3⟩
        · rw [Array.toList_push]; exact (hv.mono sp3 sa3).snoc hov
        · exact held_at I3 sp3 (fun b hb ob e=>(hs5.2 b fun q=>hb (by simp [q])).trans e) (by rw [hs5.2 It (Ne.symm hne),hI3,hIt1])
        · rw [← hvr]; simp
  · have hil:i=ds.length:=by omega
    rw [hil,List.drop_length] at e'
    rw [hil] at hst'
    refine dx e' fun h1_ h2_=>?_
    clear e'
    rw [← h1_] at hvr; rw [h2_] at I'
    refine wpAny_bind (wpAny_standAt (wpAny_bind (T.w.done s' _ _ hst' fun h' tk hk=>?_)))
    have hk':∀ b,b ∉ [D,It]→∀ ob,s'.heap.get? b=some ob→h'.get? b=some ob:=fun b hb ob e=>hk b ob (fun q=>hb (by simp at q; simp [q])) e
    refine aN (I'.unhold hl has hc) fun I1 al=>?_
    have hk2:∀ b,b ∉ [It]→∀ ob,s'.heap.get? b=some ob→h'.get? b=some ob:=fun b hb ob e=>hk b ob hb e
    have I2:=((I1.alien (l:=[It]) (fun a ha=>(al a (List.mem_cons_of_mem _ ha)).1) hk2).tok tk).hold (l:=[D]) fun a ha=>(al a (by rw [List.mem_singleton] at ha; rw [ha]; exact .head _)).1
    exact wpAny_pure (hR p' as' _ _ ys m sp sa I2 (hk D _ (by simpa using hne) hD') (by rw [← hvr,List.append_nil]; exact hv))
end
end Mine.Internal
namespace Mine.Internal
section
variable {X:Amb} {P:Fn→FDef} {s₀ s:Shared} {o p:aE} {as:As} {mu mu':Mu} {F:Fm} {loc loc':ag} {A:Around} {E:Value→Shared→Prop} {n:Nat}
theorem Inv.no_cell (I:Inv X s₀ o p as mu F loc s) {a:Addr} (h:cH X o p as mu F a):∀ x c,F.env.cells.lookup x=some c→c ≠ a:=fun x c hc=>by
  refine I.ne_alien h ?_
  rcases (I.fr.cell x c hc).2 with k | k | k
  · exact .inl (List.mem_cons_of_mem _ (List.mem_append_left _ k))
  · exact .inr (.inl k)
  · exact .inr (.inr k)
theorem yW {f:ag→Mu→Option (Option Val × Mu)} {elt target iter:Expr} {ifs:List Expr} {sc:Scope} {kd:Kd} {pos:Pos} {ts:List Nat} {vs:List Val} {v:Val} {q:Bool} {use:Option (Value→Sem Unit)} {Q:Value→Shared→Prop}
    {cl:List (Str × Addr)} {C D It:Addr} {m0:Str→Option Value} {ds:List Dat} {fp:List Addr} {Pr:Nat→Value→Prop} {St:Nat→Heap→Prop} {muE:Mu} {k:Nat}
    (hh:A.handled=none) (hC:CompSc sc kd F.names ts) (hA:Agree F.env kd) (ht:MtT F.names (fun n=>cx sc n=some .local) ts target) (hT:mH X s₀ (gT F sc cl C) A f elt ifs)
    (I:Inv X s₀ o p as mu F loc s) (aC:cH X o p as mu F C) (aD:cH X o p as mu F D) (aI:cH X o p as mu F It) (nCD:C ≠ D) (nCI:C ≠ It) (nDI:D ≠ It) (hns:s.heap.Ns C m0) (hD:s.heap.get? D=some (listOf #[] k))
    (T:Itr X A p ds It fp Pr St) (hst:St 0 s.heap) (hgo:cD f ts ds loc mu=some (vs,muE)) (hnew:cy q muE vs (bN vs)=some (v,mu'))
    (h1:∀ x c,cl.lookup x=some c→F.env.cells.lookup x=some c) (h2:∀ x,(x,NameKind.free) ∈ sc.names→(cl.lookup x).isSome=true)
    (K:∀ p' as' s' u m,Sub p p'→as <+: as'→Inv X s₀ o p' as' mu' F loc s'→VRel X p' as' v u→cH X o p' as' mu' F C→s'.heap.Ns C m→compPost (model X.prog X.w) A E use Q u C (.ok .next) s') :
    codeAny (model X.prog X.w) A (.compStart (.ListComp elt [⟨target,iter,ifs,0⟩] sc pos) 0 (.ref It) (.ref D) (gT F sc cl C).env) (compPost (model X.prog X.w) A E use Q (.ref D) C) s:=by
  have IC:=xi hC hA I aC hns h1 h2
  have nown:∀ {a},cH X o p as mu F a→c7 o F.own s.heap a=none:=fun {a} h=>by rw [ch fun k=>h.2.2 (List.mem_cons_of_mem _ (List.mem_append_left _ k))]; exact h.2.1
  have inner:∀ {a},cH X o p as mu F a→a ≠ C→cH X (c7 o F.own s.heap) p as mu (gT F sc cl C) a:=fun {a} h hn=>⟨h.1,nown h,fun k=>by
    rcases List.mem_cons.mp k with hq_ | k
    · exact h.2.2 (hq_ ▸ .head _)
    · rcases List.mem_append.mp k with k | k
      · exact hn (by simpa using k)
      · exact h.2.2 (List.mem_cons_of_mem _ (List.mem_append_right _ k))⟩
  have cellne:∀ {a},cH X o p as mu F a→∀ x c,cl.lookup x=some c→c ≠ a:=fun {a} h x c hc=>I.no_cell h x c (h1 x c hc)
  have two:∀ a ∈ [D,It],cH X o p as mu F a∧a ≠ C:=tT (⟨aD,Ne.symm nCD⟩) (⟨aI,Ne.symm nCI⟩)
  have IH:=IC.hold (l:=[D,It]) fun a ha=>inner (two a ha).1 (two a ha).2
  obtain ⟨obI,hIt⟩:=T.ex _ _ hst
  have htt:MtT (gT F sc cl C).names (iK (gT F sc cl C)) ts target:=by
    have imp:∀ x,cx sc x=some .local→iK (gT F sc cl C) x:=fun x hx=>.inl ((hC.agree (env:=F.env) (cl:=cl) (C:=C) x).1 hx)
    have imps:∀ {is:List Nat} {l:List Expr},MtTs F.names (fun n=>cx sc n=some .local) is l→MtTs F.names (iK (gT F sc cl C)) is l:=by
      intro is
      induction is with
      | nil=>intro l h; exact h
      | cons i is ih=>intro l h; obtain ⟨x,pos,r,e1,e2,e3,h⟩:=h; exact ⟨x,pos,r,e1,e2,imp x e3,ih h⟩
    cases ts with
    | nil=>obtain ⟨l,k,pos,e,h⟩:=ht; exact ⟨l,k,pos,e,imps h⟩
    | cons i r =>
      cases r with
      | nil=>obtain ⟨x,pos,e1,e2,e3⟩:=ht; exact ⟨x,pos,e1,e2,imp x e3⟩
      | cons j r=>obtain ⟨l,k,pos,e,h⟩:=ht; exact ⟨l,k,pos,e,imps h⟩
  have hlim:vs.length≤lim:=j1 hnew
  have loop:codeAny (model X.prog X.w) A (.compLoop (.ListComp elt [⟨target,iter,ifs,0⟩] sc pos) 0 (.ref It) (.ref D) (gT F sc cl C).env) (compPost (model X.prog X.w) A E use Q (.ref D) C) s:=by
    refine xB hh hT htt T hlim hgo IH (fun a ha=>nown (two a ha).1) (fun x c hc hm=>cellne (two c hm).1 x c hc rfl) hst nDI hIt hD fun p' as' loc' s' ys m' sp sa I' hg hv=>?_
    obtain ⟨I1,al⟩:=I'.unhold (fun a ha=>nown (two a (by rw [List.mem_singleton] at ha; rw [ha]; exact .head _)).1) ((dK (⟨_,hg⟩))) (fun x c hc hm=>cellne aD x c hc (by simpa using hm))
    have IL:Inv X s₀ o p' as' muE F loc s':=Inv.leave (o':=o) (p'':=p') I I1 sp sa
    have ownC:∀ {a},cH X o p as mu F a→a ∉ F.own:=fun {a} h k=>h.2.2 (List.mem_cons_of_mem _ (List.mem_append_left _ k))
    have aC':cH X o p' as' muE F C:=by
      obtain ⟨b1,b2,b3⟩:=I1.out C (List.mem_cons_of_mem _ (List.mem_append_left _ (.head _)))
      refine ⟨b1,aC.2.1,fun k=>?_⟩
      rcases List.mem_cons.mp k with k | k
      · exact (List.nodup_cons.mp I1.nodup).1 (k ▸ List.mem_append_left _ (.head _))
      · rcases List.mem_append.mp k with k | k
        · exact ownC aC k
        · exact I1.own_owns (.head _) k
    have aD':cH X o p' as' muE F D:=by
      obtain ⟨⟨b1,b2,b3⟩,_⟩:=al D (.head _)
      refine ⟨b1,aD.2.1,fun k=>?_⟩
      rcases List.mem_cons.mp k with k | k
      · exact b3 (k ▸ .head _)
      · rcases List.mem_append.mp k with k | k
        · exact ownC aD k
        · exact b3 (List.mem_cons_of_mem _ (List.mem_append_right _ k))
    obtain ⟨mC,hnC,_⟩:=I1.fr.ns
    have hnC:s'.heap.Ns C mC:=hnC
    have IK:=IL.hold (l:=[C]) (dK (aC'))
    have aDK:cH X (c7 o [C] s'.heap) p' as' muE F D:=⟨aD'.1,by rw [ch (by simpa using Ne.symm nCD)]; exact aD'.2.1,aD'.2.2⟩
    refine xe2 (Dx hnew IK aDK hg hv) fun p2 eH r_=>vp r_ fun sp2 sa2 I2 vr=>?_
    obtain ⟨obC,_,_,eC,_⟩:=id hnC
    obtain ⟨I3,al3⟩:=I2.unhold ((dK (aC.2.1))) ((dK (⟨_,eC⟩))) (fun x c hc hm=>I.no_cell aC x c hc (by simpa using hm))
    exact K p2 eH s' (.ref D) mC (sp.trans sp2) (sa.trans sa2) I3 vr (al3 C (.head _)).1 hnC
  exact codeAny_compStart_list loop (T.w.self 0 _ _ _ hst loop)
theorem y5 {f:ag→Mu→Option (Option Val × Mu)} {elt target iter:Expr} {ifs:List Expr} {sc:Scope} {kd:Kd} {pos pos':Pos} {ts:List Nat} {vs:List Val} {v:Val} {q:Bool} {use:Option (Value→Sem Unit)} {Q:Value→Shared→Prop}
    (hh:A.handled=none) (hC:CompSc sc kd F.names ts) (hA:Agree F.env kd) (ht:MtT F.names (fun n=>cx sc n=some .local) ts target) (hT:∀ cl C,mH X s₀ (gT F sc cl C) A f elt ifs) (hs:jT iter)
    (I:Inv X s₀ o p as mu F loc s)
    (h:wpAny (model X.prog X.w) A (eval iter F.env) (fun u s₁=>∃ p1 bv mu1 d ds m2,Sub p p1∧as <+: bv∧Inv X s₀ o p1 bv mu1 F loc s₁∧DRel X p1 d u∧items d=some ds∧cD f ts ds loc mu1=some (vs,m2)∧cy q m2 vs (bN vs)=some (v,mu')) E s)
    (K:∀ p' as' s' u C m,Sub p p'→as <+: as'→Inv X s₀ o p' as' mu' F loc s'→VRel X p' as' v u→cH X o p' as' mu' F C→s'.heap.Ns C m→compPost (model X.prog X.w) A E use Q u C (.ok .next) s') :
    wpAny (model X.prog X.w) A (comprehension (.ListComp elt [⟨target,iter,ifs,0⟩] sc pos) sc F.env pos' (newList []) false (eval iter F.env) use) Q E s:=by
  have cells:∀ x ∈ sc.names,x.2=.free→(F.env.cells.lookup x.1).isSome=true:=fun x hx hf=>I.fr.has x.1 (by
    rcases hC.free x hx hf with q | q
    · exact .inl ((hA x.1).2.2.1 q)
    · exact (hA x.1).2.2.2 q)
  have hcl:=pN cells
  refine aN (ig (acc:=[]) cells (fun x c h=>by exact nS h)) fun c1 c2=>?_
  generalize i7 F.env sc.names []=cl at hcl c1 c2
  refine wpAny_comprehension_free rfl (fun x=>by cases iter <;> first | rfl | exact (iD hs)) hcl hC.kind (fun x hx hl=>(hC.one x hx).trans (by rw [hl])) (wpAny_mono h (fun u s₁ h₁=>?_) fun Z Z x=>x)
  obtain ⟨p1,bv,mu1,d,ds,m2,sp,sa,I1,dr,hi,hgo,hnew⟩:=h₁
  refine uU hi hh I1 dr fun It ob fp Pr St eIt hf T hst=>?_
  have I2:=I1.push ob
  refine wpAny_newObj_type ?_
  have I3:=I2.push (listOf #[] 0)
  refine wpAny_newFunctionEnv hC.cell (by intro y hy; simp at hy) (fun h₄ hns hsb=>?_) hC.kind
  have k4:∀ b ob',((s₁.heap.push ob).push (listOf #[] 0)).get? b=some ob'→h₄.get? b=some ob':=fun b ob' e=>(hsb.2 b (Nat.ne_of_lt (Heap.lt_size e))).trans (Heap.get?_push_of_some _ e)
  have I4:=I3.keeps k4
  have ob1:(s₁.heap.push ob).objs.size=It+1:=by rw [Heap.size_push,eIt]
  have fresh:∀ a,s₁.heap.objs.size≤a→cH X o p1 bv mu1 F a:=fun a ha=>I1.fresh_of ha
  have sC:((s₁.heap.push ob).push (listOf #[] 0)).objs.size=It+1+1:=by rw [Heap.size_push,ob1]
  refine yW (C:=((s₁.heap.push ob).push (listOf #[] 0)).objs.size) (D:=(s₁.heap.push ob).objs.size) (s:={ s₁ with heap:=h₄,toks:=s₁.toks+0 }) hh hC hA ht (hT cl _) (I4.tok _) (fresh _ (by rw [sC,← eIt]; exact Nat.le_of_lt (by exact Nat.le_add_right _ _))) (fresh _ (by rw [ob1,← eIt]; exact Nat.le_add_right _ _)) (fresh _ (by rw [eIt]; exact Nat.le_refl _)) (by rw [sC,ob1]; exact Nat.ne_of_gt (Nat.lt_succ_self _)) (by rw [sC]; exact Nat.ne_of_gt (by exact Nat.le_add_right _ _)) (by rw [ob1]; exact Nat.ne_of_gt (Nat.lt_succ_self _)) hns
    (k4 _ _ (Heap.get?_push_size _ rfl)) T (T.w.frame _ _ _ hst fun b Z ob' e=>k4 _ _ (Heap.get?_push_of_some _ e)) hgo hnew c1 (fun x hx=>c2 x (.inr hx)) fun p' as' s' u m a b c d e f=>K p' as' s' u _ m (sp.trans a) (sa.trans b) c d e f
end
end Mine.Internal
namespace Mine.Internal
noncomputable def HT (X:Amb) (p:aE) (as:As):Fl→Flow→Prop
  | .next,f=>f=.next
  | .ret v,f=>∃ u,f=.ret u∧VRel X p as v u
noncomputable def aR (X:Amb) (s₀:Shared) (C:Calls) (n:Nat) (e:CE):Prop:=∀ ⦃kd F x A o p as mu mu' loc s v Q E⦄,Mt F.names F.fz kd e x→Agree F.env kd→Rm n A→Inv X s₀ o p as mu F loc s →
  ev C loc mu e=some (v,mu')→Kv X s₀ o p as mu' F loc Q v→wpAny (model X.prog X.w) A (eval x F.env) Q E s
noncomputable def eg (X:Amb) (s₀:Shared) (C:Calls) (n:Nat) (e:CE):Prop:=∀ ⦃kd F x A o p as mu mu' loc s v b⦄ ⦃Q:Bool→Shared→Prop⦄ ⦃E⦄,Mt F.names F.fz kd e x→Agree F.env kd→Rm n A→Inv X s₀ o p as mu F loc s →
  ev C loc mu e=some (v,mu')→df v=some b→(∀ p' as' s',Sub p p'→as <+: as'→Inv X s₀ o p' as' mu' F loc s'→Q b s')→wpAny (model X.prog X.w) A (isTrue x F.env (eval x F.env)) Q E s
noncomputable def kY (X:Amb) (s₀:Shared) (C:Calls) (n:Nat) (es:CEs):Prop:=∀ ⦃kd F l A o p as mu mu' loc s vs⦄ ⦃Q:List Value→Shared→Prop⦄ ⦃E⦄,MtL F.names F.fz kd es l→Agree F.env kd→Rm n A→Inv X s₀ o p as mu F loc s →
  cS C loc mu es=some (vs,mu')→(∀ p' as' s' us,Sub p p'→as <+: as'→Inv X s₀ o p' as' mu' F loc s'→VRels X p' as' vs us→Q us s')→wpAny (model X.prog X.w) A (spliced (eD l F.env)) Q E s
noncomputable abbrev Kf (X:Amb) (s₀:Shared) (o p:aE) (as:As) (mu':Mu) (F:Fm) (loc':ag) (Q:Flow→Shared→Prop) (fl:Fl):Prop :=
  ∀ p' as' s' f,Sub p p'→as <+: as'→Inv X s₀ o p' as' mu' F loc' s'→HT X p' as' fl f→Q f s'
theorem Kf.eqP {X:Amb} {s₀:Shared} {o p:aE} {as:As} {mu m:Mu} {F:Fm} {loc l:ag} {Q:Flow→Shared→Prop} {fl f:Fl} (K:Kf X s₀ o p as mu F loc Q fl) (h:(f,l,m)=(fl,loc,mu)):Kf X s₀ o p as m F l Q f:=by cases h; exact K
theorem Kf.eqS {X:Amb} {s₀:Shared} {o p:aE} {as:As} {mu m:Mu} {F:Fm} {loc l:ag} {Q:Flow→Shared→Prop} {fl f:Fl} (K:Kf X s₀ o p as mu F loc Q fl) (h:some (f,l,m)=some (fl,loc,mu)):Kf X s₀ o p as m F l Q f:=by cases h; exact K
noncomputable def iT (X:Amb) (s₀:Shared) (C:Calls) (n:Nat) (c:CS):Prop:=∀ ⦃kd F x A o p as mu mu' loc loc' s fl Q E⦄,Ez F.names F.wr F.fz kd c x→Agree F.env kd→Rm n A→Inv X s₀ o p as mu F loc s →
  ex C loc mu c=some (fl,loc',mu')→Kf X s₀ o p as mu' F loc' Q fl→wpAny (model X.prog X.w) A (exec x F.env) Q E s
noncomputable def jF (X:Amb) (s₀:Shared) (C:Calls) (n:Nat) (c:CSs):Prop:=∀ ⦃kd F l A o p as mu mu' loc loc' s fl Q E⦄,fB F.names F.wr F.fz kd c l→Agree F.env kd→Rm n A→Inv X s₀ o p as mu F loc s →
  ea C loc mu c=some (fl,loc',mu')→Kf X s₀ o p as mu' F loc' Q fl→wpAny (model X.prog X.w) A (execs l F.env) Q E s
noncomputable def vE (Q:Value→Shared→Prop) (E:Value→Shared→Prop) (r:Result) (s':Shared):Prop:=match r with
  | .ok (.ret u)=>Q u s'
  | .ok _=>False
  | .error e=>E e s'
noncomputable def cr (X:Amb) (s₀:Shared) (C:Calls) (n:Nat):Prop:=∀ ⦃f vs us A o p as mu mu' F loc s v Q E⦄,Rc n A→Inv X s₀ o p as mu F loc s→VRels X p as vs us→C f vs mu=some (v,mu')→Kv X s₀ o p as mu' F loc Q v →
  codeAny (model X.prog X.w) A (.call (.ref (X.fn f)) ⟨us,[]⟩) (vE Q E) s
section
variable {X:Amb} {P:Fn→FDef} {s₀ s:Shared} {o p:aE} {as:As} {mu mu':Mu} {F:Fm} {loc loc':ag} {A:Around} {E:Value→Shared→Prop} {n:Nat} {C:Calls}
theorem lU {C:Calls} {loc:ag} {mu:Mu} (n:Nat) {names fz:List Str} {e:CE} {kd:Kd} {x:Expr} {r:Val × Mu} (hn:fd e=n) (h:Mt names fz kd e x) (he:ev C loc mu e=some r):Solid x:=by
  induction n generalizing e r with
  | zero =>
    cases e with
    | frz a=>cases hn
    | any=>rw [pB] at he; exact nS he
    | _=>exact zM h rfl
  | succ n ih =>
    cases e with
    | frz a =>
      rw [qa] at he
      exact (Option.bind_eq_some_iff.mp he).elim fun q hq=>ih (Nat.succ.inj hn) h hq.1
    | _=>cases hn
theorem Mt.nset {names:List Str} {fz:List Str} {e:CE} {kd:Kd} {x:Expr} {C:Calls} {loc:ag} {mu:Mu} {r:Val × Mu} (h:Mt names fz kd e x) (he:ev C loc mu e=some r):jT x:=(lU _ rfl h he).1
noncomputable def Cg (C:Calls) (q:Bool) (elt:CE) (ts:List Nat) (it:CE) (c:Option CE) (loc:ag) (mu:Mu):Option (Val × Mu):=(ev C loc mu it).bind fun (x,m)=>(fq x).bind fun xs =>
  (cD (fun l m=>match c with
    | none=>(ev C l m elt).map fun (v,m)=>(some v,m)
    | some c=>(ev C l m c).bind fun (t,m)=>(df t).bind fun b=>if b then (ev C l m elt).map fun (v,m)=>(some v,m) else some (none,m)) ts xs loc m).bind fun (vs,m)=>cy q m vs (bN vs)
theorem xe {elt:CE} {x:Expr} {kd:Kd} (he:aR X s₀ C n elt) (hm:Mt F.names F.fz kd elt x) (hA:Agree F.env kd) (hR:Rm n A):mH X s₀ F A (fun l m=>(ev C l m elt).map fun (v,m)=>(some v,m)) x []:=by
  intro o p as mu mu' loc s ov I e Q E K
  refine bM e fun q0_ e1 e2=>?_
  clear e
  obtain ⟨v,m⟩:=q0_
  (refine eJ e2 fun h1_ h2_=>?_; subst h1_; subst h2_)
  refine wpAny_tests_nil ?_
  simp only [if_true]
  exact he hm hA hR I e1 fun p' as' s' u a b c d=>K p' as' s' (some u) a b c d
theorem yL {elt c:CE} {x z:Expr} {kd:Kd} (he:aR X s₀ C n elt) (hc:eg X s₀ C n c) (hm:Mt F.names F.fz kd elt x) (hz:Mt F.names F.fz kd c z) (hA:Agree F.env kd) (hR:Rm n A) :
    mH X s₀ F A (fun l m=>(ev C l m c).bind fun (t,m)=>(df t).bind fun b=>if b then (ev C l m elt).map fun (v,m)=>(some v,m) else some (none,m)) x [z]:=by
  intro o p as mu mu' loc s ov I e Q E K
  refine bJ e fun t m e1 e2=>?_
  clear e
  refine bg e2 fun b e2 e3=>?_
  refine wpAny_tests_one (hc hz hA hR I e1 e2 fun p' as' s' sp sa I'=>?_)
  cases b with
  | false=>(refine dx e3 fun h1_ h2_=>?_; subst h1_; subst h2_); simp only [Bool.false_eq_true,if_false]; exact K p' as' s' none sp sa I' trivial
  | true =>
    simp only [if_true] at e3 ⊢
    refine bM e3 fun q0_ e4 e5=>?_
    clear e3
    obtain ⟨v,m'⟩:=q0_
    (refine eJ e5 fun h1_ h2_=>?_; subst h1_; subst h2_)
    exact he hm hA hR I' e4 fun p2 eH s2 u a b c d=>K p2 eH s2 (some u) (sp.trans a) (sa.trans b) c d
theorem ny {q:Bool} {elt it:CE} {c:Option CE} {ts:List Nat} {x t y:Expr} {zs:List Expr} {sc:Scope} {kd:Kd} {pos pos':Pos} {v:Val} {use:Option (Value→Sem Unit)} {Q:Value→Shared→Prop}
    (hi:aR X s₀ C n it) (hl:aR X s₀ C n elt) (hc:∀ c',c=some c'→eg X s₀ C n c') (hS:CompSc sc kd F.names ts) (hy:Mt F.names F.fz kd it y) (ht:MtT F.names (fun n=>cx sc n=some .local) ts t) (hx:Mt F.names [] (cx sc) elt x)
    (hz:match c with | none=>zs=[] | some c'=>∃ z,zs=[z]∧Mt F.names [] (cx sc) c' z) (hA:Agree F.env kd) (hR:Rm n A) (I:Inv X s₀ o p as mu F loc s) (e:Cg C q elt ts it c loc mu=some (v,mu'))
    (K:∀ p' as' s' u C m,Sub p p'→as <+: as'→Inv X s₀ o p' as' mu' F loc s'→VRel X p' as' v u→cH X o p' as' mu' F C→s'.heap.Ns C m→compPost (model X.prog X.w) A E use Q u C (.ok .next) s') :
    wpAny (model X.prog X.w) A (comprehension (.ListComp x [⟨t,y,zs,0⟩] sc pos) sc F.env pos' (newList []) false (eval y F.env) use) Q E s:=by
  unfold Cg at e
  refine bJ e fun xv m1 e1 f1=>?_
  refine bg f1 fun xs e2 f2=>?_
  refine bJ f2 fun vs m2 e3 e4=>?_
  clear e f1 f2
  cases xv with
  | r k=>exact nS e2
  | clo k=>exact nS e2
  | d d =>
    refine y5 (q:=q) (vs:=vs) (v:=v) (mu':=mu') hR.hand hS hA ht (f:=_) (fun cl Ca=>?_) (hy.nset e1) I (hi hy hA hR I e1 fun p1 bv s1 u sp sa I1 r=>⟨p1,bv,m1,d,xs,m2,sp,sa,I1,r,e2,e3,e4⟩) K
    cases c with
    | none=>subst hz; exact xe (F:=gT F sc cl Ca) hl hx hS.agree hR
    | some c'=>obtain ⟨z,rfl,hz⟩:=hz; exact yL (F:=gT F sc cl Ca) hl (hc c' rfl) hx hz hS.agree hR
theorem mO {u:Value} {Cl:Addr} {v:Val} {m:Str→Option Value} {Q:Value→Shared→Prop} (I:Inv X s₀ o p as mu F loc s) (al:cH X o p as mu F Cl) (hn:s.heap.Ns Cl m) (vr:VRel X p as v u) (K:Kv X s₀ o p as mu F loc Q v) :
    compPost (model X.prog X.w) A E none Q u Cl (.ok .next) s :=
  ⟨m,hn,fun h' hs=>K.now (I.alien (l:=[Cl]) ((dK (al))) fun b hb ob e=>(hs.2 b (by simpa using hb)).trans e) vr⟩
theorem rH {u:Value} {Cl:Addr} {v:Val} {m:Str→Option Value} {Q:Value→Shared→Prop} {i:Nat} {x:Str} {px:Pos} (hx:F.names[i]? = some x) (ok:iK F x) (I:Inv X s₀ o p as mu F loc s) (al:cH X o p as mu F Cl) (hn:s.heap.Ns Cl m) (vr:VRel X p as v u)
    (K:∀ s',Inv X s₀ o p as mu F (loc.set i (some v)) s'→Q .none s'):compPost (model X.prog X.w) A E (some (assign (.Name x px) F.env)) Q u Cl (.ok .next) s:=by
  obtain ⟨obC,es,ep,eC,r⟩:=id hn
  have IK:=I.hold (l:=[Cl]) (dK (al))
  refine wpAny_assign_Name (ko IK hx ok vr fun s' I'=>?_)
  obtain ⟨I2,al2⟩:=I'.unhold ((dK (al.2.1))) ((dK (⟨_,eC⟩))) (fun y c hc hm=>I.no_cell al y c hc (by simpa using hm))
  obtain ⟨a1,a2⟩:=al2 Cl (.head _)
  exact ⟨m,⟨obC,es,ep,a2.trans eC,r⟩,fun h' hs=>K _ (I2.alien (l:=[Cl]) ((dK (a1))) fun b hb ob e=>(hs.2 b (by simpa using hb)).trans e)⟩
end
end Mine.Internal
namespace Mine.Internal
section
variable {X:Amb} {P:Fn→FDef} {s₀ s:Shared} {o p:aE} {as:As} {mu mu':Mu} {F:Fm} {loc loc':ag} {A:Around} {E:Value→Shared→Prop} {n:Nat} {C:Calls}
theorem o0 {pos:Pos} {r:List Value}:∀ (l:List Value),TriplesOk l→codeAmong pos (l++r)=(codeAmong pos l).or (codeAmong pos r):=fun l h=>by
  fun_induction TriplesOk l with
  | case1=>simp [codeAmong]
  | case2 a t b u x rest ih =>
    simp only [List.cons_append,codeAmong]
    split
    · rfl
    · exact ih h
  | case3 l h1 h2=>exact h.elim
theorem Inv.retab (I:Inv X s₀ o p as mu F loc s) {h':Heap} {c':Addr} {oc:Obj} {ps':Array Value} (hk:Heap.ExtBut X.tab s.heap h') (hc:s.heap.objs.size≤c') (hg:h'.get? c'=some oc) (ht:h'.get? X.tab=some (tabObj ps')) (tt:TabOK X (put1 p c' oc) ps') :
    Inv X s₀ o (put1 p c' oc) as mu F loc { s with heap:=h' }:=by
  obtain ⟨f1,f2,f3⟩:=I.fresh_of hc
  have ptab:=(I.out X.tab (.head _))
  have sp:Sub p (put1 p c' oc):=Sub.put1 f1
  have keep:∀ b,b ≠ X.tab→∀ ob,s.heap.get? b=some ob→h'.get? b=some ob:=fun b hb ob e=>hk b ob hb e
  refine ⟨by obtain ⟨k,e⟩:=I.sh; exact ⟨k,by rw [e]⟩,I.base.trans sp,fun b ob e=>?_,fun b ob e=>keep b (fun q=>by rw [q,ptab.2] at e; exact nS e) ob (I.ole _ _ e),fun b hb=>?_,I.len,
    fun i q m e f=>(I.mus i q m e f).mono sp (List.prefix_refl _) fun b hb ob x=>keep b (fun y=>I.tab_owns (by rw [← y]; exact fy e f b hb)) ob x,I.nodup,fun b hb=>?_,?_,⟨ps',ht,tt⟩⟩
  · by_cases q:b=c'
    · subst q; rw [b8] at e; (replace e:=iS e; subst e); exact hg
    · rw [eN q] at e
      exact keep b (fun z=>by rw [z,ptab.1] at e; exact nS e) ob (I.ple _ _ e)
  · by_cases q:b=c'
    · rw [q]; exact f2
    · rw [eN q] at hb; exact I.dj b hb
  · obtain ⟨b1,b2,ob,x⟩:=I.out b hb
    refine ⟨by rw [eN (fun q:b=c'=>f3 (q ▸ hb))]; exact b1,b2,?_⟩
    by_cases q:b=X.tab
    · rw [q]; exact ⟨_,ht⟩
    · exact ⟨ob,keep b q ob x⟩
  · refine I.fr.on sp (List.prefix_refl _) fun b hb ob x=>keep b (fun y=>?_) ob x
    subst y
    rcases hb with hb | hb | hb
    · exact I.tab_own hb
    · rw [ptab.1] at hb; cases hb
    · rw [ptab.2] at hb; cases hb
theorem z1 {k b:Int} {fv u:Value} {Q:Value→Shared→Prop} (hX:X.H₀.NoLimit) (hr:A.depth < recursionLimit) (I:Inv X s₀ o p as mu F loc s) (r:CloRel X p k fv) (rb:VRel X p as (.d (.int b)) u) (K:Kv X s₀ o p as mu F loc Q (.d (.int (b+k)))) :
    codeAny (model X.prog X.w) A (.call fv ⟨[u],[]⟩) (vE Q E) s:=by
  refine xe1 (cP rb) fun t e1_=>?_
  subst e1_
  obtain @⟨f,name,qual,params,body,scope,cl,pm,c',ctv,cell,tc,ob,oc,vs,tq,e1,⟨⟨p1,p2,p3,rfl⟩,⟨a1,a2,a3,a4,a5⟩,⟨k1,k2,k3⟩,l1,l2,l3⟩,e2,e3,e4,e5,e6,e7⟩:=r
  refine kla_callFunE hr (I.ple _ _ e1) rfl k2 k3 rfl ⟨c',oc,vs,tq,rfl,I.ple _ _ e5,e6,e7⟩ ?_
  rw [rj (names:=[gz]) a1 a2 a3 a4 a5 rfl (by simp) (by rfl)]
  refine wpAny_pure (wpAny_newFunctionEnv l3 (fun x hx=>?_) (fun h₁ hns hsb=>⟨(hX.keeps I.keepH).fresh _ hsb,?_⟩) k1)
  · have:x=(gz,.int b t):=by simpa using hx
    subst this; exact l1
  have hk₁:∀ b o,s.heap.get? b=some o→h₁.get? b=some o:=fun b o e=>hsb.extBut b o (Nat.ne_of_lt (Heap.lt_size e)) (Heap.get?_push_of_some _ e)
  have I':=I.keepsT (tk:=s.toks+([gz].zip [Value.int b t]).length) hk₁
  refine kla_codeExpr (wpAny_BinOp (wpAny_Name (wpAny_loadName_local k1 l1 hns (v:=.int b t) (by simp) (wpAny_Name (wpAny_loadName_free k1 l2 e2 (v:=.int k tc) ⟨ob,hk₁ _ _ (I.ple _ _ e3),e4⟩ ?_ (by decide +kernel)) (by decide +kernel))) (by decide +kernel)))
  exact wpAny_add_int (K.here I' ek)
theorem Ad {i:Nat} {k:Int} {ps:Arguments} {b:Expr} {sc:Scope} {pos:Pos} {kd:Kd} {Q:Value→Shared→Prop} (hX:AmbOK X P) (hfz:ca ∈ F.fz) (hL:LamOK ps b sc) (h1:ps.defaults=[]) (h2:ps.kw_defaults=[]) (h3:ps.kwonlyargs=[]) (hx:F.names[i]? = some ca)
    (hk:kd ca=some .cell) (hf:sc.names.lookup ca=some .free) (ho:∀ x ∈ sc.names,x.2=.free→x.1=ca) (hA:Agree F.env kd) (I:Inv X s₀ o p as mu F loc s) (hl:look loc mu i=some (.d (.int k)))
    (K:Kv X s₀ o p as mu F loc Q (.clo k)):wpAny (model X.prog X.w) A (eval (.Lambda ps b sc pos) F.env) Q E s:=by
  have kc:F.env.kindOf ca=some .cell:=(hA ca).2.2.1 hk
  have cells:∀ x ∈ sc.names,x.2=.free→(F.env.cells.lookup x.1).isSome=true:=fun x hx hf=>by rw [ho x hx hf]; exact I.fr.has _ (.inl kc)
  have hcl:=pN cells
  refine aN (ig (acc:=[]) cells (fun x c h=>by exact nS h)) fun c1 c2=>?_
  generalize i7 F.env sc.names []=cl at hcl c1 c2
  refine xe1 (Option.isSome_iff_exists.mp (c2 ca (.inr (mem_of_lookup hf)))) fun c hc=>?_
  have hc':=c1 _ _ hc
  obtain ⟨code,qual⟩:=I.fr.lam ca hfz
  refine xe1 (Option.isSome_iff_exists.mp (I.fr.fcell ca hfz c hc')) fun obc pc=>?_
  have hcell:∃ t,obc.data=.cell (some (.int k t)):=by
    refine bg hl fun ov hv' hl2=>?_
    clear hl
    refine bM hl2 fun v' e1_ hl3=>?_
    clear hl2
    subst e1_
    · obtain ⟨m,hn,hr⟩:=I.fr.ns
      obtain ⟨u,r,vr⟩:=hr i ca v' hx hv' (.inr (.inl kc))
      have vr2:=vr.norm I
      rw [hl3] at vr2
      refine xe1 (cP vr2) fun t e1_=>?_
      subst e1_
      rcases r with ⟨z,_⟩ | ⟨_,c2,hc2,ob2,e2,d2⟩
      · rw [kc] at z; cases z
      · rw [hc'] at hc2; (replace hc2:=iS hc2; subst hc2)
        rw [I.ple _ _ pc] at e2; (replace e2:=iS e2; rw [e2])
        exact ⟨t,d2⟩
  obtain ⟨tc,hcell⟩:=hcell
  obtain ⟨pst,hP,tri,tab⟩:=I.tb
  have CH:=hX.hd.keeps I.keepH
  have BA:=hX.bat.keeps I.keepH
  have hgs:=hX.g.keeps I.keepH
  refine kla_eval (by obtain ⟨q1,q2,q3,q4,q5,q6,q7⟩:=ps; dsimp only at h1 h2 h3; rw [h1]; rw [h2]; rw [h3]; rfl) ?_
  rw [qual]
  cases hca:codeAmong pos pst.toList with
  | none =>
    refine kla_makeFunction hcl I.fr.glob hgs code CH hP tri hca hX.gtab BA fun c' ctv h' tk hext hge hlt hrec htab=>?_
    obtain ⟨c'',oc,vs,tq,q1,q2,q3,q4⟩:=hrec
    cases q1
    have I1:=I.retab (c':=c') (oc:=oc) hext hge q2 htab ⟨by rw [Array.toList_append]; exact TriplesOk_snoc _ _ _ _ tri,fun pos' cv hcv=>by
      rw [Array.toList_append,o0 _ tri] at hcv
      cases z:codeAmong pos' pst.toList with
      | some w =>
        rw [z] at hcv
        obtain ⟨c2,oc2,vs2,tq2,r1,r2,r3,r4⟩:=tab pos' w z
        have hcv:some w=some cv:=hcv
        (replace hcv:=iS hcv; rw [← hcv])
        exact ⟨c2,oc2,vs2,tq2,r1,Sub.put1 (I.fresh_of hge).1 _ _ r2,r3,r4⟩
      | none =>
        rw [z] at hcv
        have hcv:codeAmong pos' [rawInt pos.line,rawInt pos.col,.ref c']=some cv:=hcv
        simp only [codeAmong,rawInt] at hcv
        split at hcv
        · (replace hcv:=iS hcv; rw [← hcv])
          exact ⟨c',oc,vs,tq,rfl,b8,q3,q4⟩
        · cases hcv⟩
    have I2:=(I1.pushP (kla_obj "<lambda>" X.lq ps b sc cl ((X.mg "__name__").getD .none) c' ctv) rfl).tok tk
    have sp1:Sub p (put1 p c' oc):=Sub.put1 (I.fresh_of hge).1
    have sp2:=Sub.put1 (o:=kla_obj "<lambda>" X.lq ps b sc cl ((X.mg "__name__").getD .none) c' ctv) I1.fresh_p
    have sp2:Sub (put1 p c' oc) (put1 (put1 p c' oc) h'.objs.size (kla_obj "<lambda>" X.lq ps b sc cl ((X.mg "__name__").getD .none) c' ctv)):=sp2
    refine K _ _ _ _ (sp1.trans sp2) (List.prefix_refl _) I2 ?_
    exact .mk b8 hL hc (sp2 _ _ (sp1 _ _ pc)) hcell (sp2 _ _ b8) q3 q4
  | some cv =>
    obtain ⟨c',oc,vs,tq,rfl,r2,r3,r4⟩:=tab pos cv hca
    refine kla_makeFunctionHit hcl I.fr.glob hgs code CH hP tri hca BA fun ctv h' tk hk hle=>?_
    have I1:=I.keeps hk
    have I2:=(I1.pushP (kla_obj "<lambda>" X.lq ps b sc cl ((X.mg "__name__").getD .none) c' ctv) rfl).tok tk
    have sp2:=Sub.put1 (o:=kla_obj "<lambda>" X.lq ps b sc cl ((X.mg "__name__").getD .none) c' ctv) I1.fresh_p
    have sp2:Sub p (put1 p h'.objs.size (kla_obj "<lambda>" X.lq ps b sc cl ((X.mg "__name__").getD .none) c' ctv)):=sp2
    refine K _ _ _ _ sp2 (List.prefix_refl _) I2 ?_
    exact .mk b8 hL hc (sp2 _ _ pc) hcell (sp2 _ _ r2) r3 r4
end
end Mine.Internal
namespace Mine.Internal
theorem lW {Q:Value→Shared→Prop} {E:Value→Shared→Prop} {M:Model} {A:Around} {c:Code} {s:Shared} (h:codeAny M A c (vE Q E) s) :
    codeAny M A c (fun r s'=>match r with | .ok (.ret v)=>Q v s' | .ok _=>False | .error e=>E e s') s:=h
theorem Fn.meth_ne {f:Fn} (h:f.isMeth=true):Str.ofString f.nm ≠ Fld.body.str:=by cases f <;> first | exact absurd h (by decide) | decide +kernel
section
variable {X:Amb} {P:Fn→FDef} {s₀ s:Shared} {o p:aE} {as:As} {mu mu':Mu} {F:Fm} {loc loc':ag} {A:Around} {E:Value→Shared→Prop} {n:Nat} {C:Calls}
theorem kX {fv:Value} {first:List Value} {l:List Expr} {pos:Pos} {Q:Value→Shared→Prop} {env:Env} (hk:keepIn X.K fv=true) (hst:∀ e ∈ l,bI e)
    (h:wpAny (model X.prog X.w) A (spliced (eD l env)) (fun us s₁=>X.K.In s₁.heap∧wpAny (model X.prog X.w) A (call fv (first++us)) Q E s₁) E s) :
    wpAny (model X.prog X.w) A (callWith pos fv first (backTo pos (starEach l env)) []) Q E s:=by
  rw [cB hst,c6]
  exact callWith_of (by rw [d3]; rfl) (keeps_K hk) (ej h)
theorem Gu {c:Cls} {vs:List Val} {us:List Value} {Q:Value→Shared→Prop} (hX:AmbOK X P) (hC:cr X s₀ C n) (hR:Rm n A) (I:Inv X s₀ o p as mu F loc s) (r:VRels X p as vs us)
    (e:C c.init (.r mu.length::vs) (mu++[.inst c [] []])=some (.d .none,mu')) (K:Kv X s₀ o p as mu' F loc Q (.r mu.length)) :
    codeAny (model X.prog X.w) A (.call (.ref (X.cls c)) ⟨us,[]⟩) (vE Q E) s:=by
  have Xs:X.K.In s.heap:=I.K hX.K
  obtain ⟨hh,g,d,t,os⟩:=s
  have init:findIn X.K (.ref (X.cls c)) "__init__" = some (some (.ref (X.fn c.init))):=by
    cases c
    · exact hX.init.1
    · exact hX.init.2
  refine make_core (makes_of Xs (hX.makes c)) (looks_findIn Xs init) (fun self=>bind_fn Xs self (hX.func _)) (.inl rfl) ?_
  have I1:=(I.push emptyDict).push (instObj (X.cls c) hh.objs.size)
  have h1:((hh.push emptyDict).push (instObj (X.cls c) hh.objs.size)).get? (hh.objs.size+1)=some (instObj (X.cls c) hh.objs.size):=by
    have:=Heap.get?_push_size (hh.push emptyDict) (o:=instObj (X.cls c) hh.objs.size) rfl
    rwa [Heap.size_push] at this
  have h2:((hh.push emptyDict).push (instObj (X.cls c) hh.objs.size)).get? hh.objs.size=some emptyDict:=Heap.get?_push_of_some _ (Heap.get?_push_size _ rfl)
  have f1:=I.fresh_of (a:=hh.objs.size) (Nat.le_refl _)
  have f2:=I.fresh_of (a:=hh.objs.size+1) (Nat.le_succ _)
  have I2:=I1.toM (q:=(hh.objs.size+1,hh.objs.size)) (m:=.inst c [] []) ⟨[],0,h1,h2,trivial,rfl⟩ (by simp [oe]) (fun a ha=>by
      simp only [oe,List.mem_cons,List.not_mem_nil,or_false] at ha
      rcases ha with rfl | rfl
      · exact f2.2.2
      · exact f1.2.2) (fun a ha=>by
      simp only [oe,List.mem_cons,List.not_mem_nil,or_false] at ha
      rcases ha with rfl | rfl
      · exact ⟨f2.1,f2.2.1,_,h1⟩
      · exact ⟨f1.1,f1.2.1,_,h2⟩)
  have sa:as <+: as++[(hh.objs.size+1,hh.objs.size)]:=List.prefix_append _ _
  have hRc:Rc n (A.under (.builtin "type.__call__" ⟨.ref (X.cls c)::us,[]⟩)):=by
    have w1:Code.weight (.builtin "type.__call__" ⟨.ref (X.cls c)::us,[]⟩)=1:=by rfl
    have w2:Code.cUnits (.builtin "type.__call__" ⟨.ref (X.cls c)::us,[]⟩)=1:=by rfl
    have d1:=hR.depth
    have d2:=hR.units
    refine ⟨hR.hand,?_,?_⟩
    · show A.depth+Code.weight _+4 * n+2 < _
      rw [w1]; omega
    · show A.units+Code.cUnits _+100 * n+50 < _
      rw [w2]; omega
  have me:VRel X p (as++[(hh.objs.size+1,hh.objs.size)]) (.r mu.length) (.ref (hh.objs.size+1)):=⟨(hh.objs.size+1,hh.objs.size),by rw [← I.len]; exact List.getElem?_concat_length ..,rfl⟩
  refine codeAny_mono (hC hRc I2 (vs:=.r mu.length::vs) (us:=.ref (hh.objs.size+1)::us) ⟨_,us,rfl,me,r.mono Sub.refl sa⟩ e (Q:=fun u s'=>u=.none∧Q (.ref (hh.objs.size+1)) s') (E:=E) fun p' as' s' u sp sa' I' vr=>⟨uI vr,K p' as' s' _ sp (sa.trans sa') I' (me.mono sp sa')⟩) fun r s' h=>?_
  cases r with
  | error e=>exact h
  | ok f=>cases f with
    | ret v=>exact h
    | _=>exact h.elim
theorem xD {a:Expr} {f:Fn} {nm:Str} {q pos:Pos} {l:List Expr} {k:Nat} {xs:List Val} {Q:Value→Shared→Prop} (hX:AmbOK X P) (hf:f.isMeth=true) (hn:Str.ofString f.nm=nm) (hc:cR a) (hlen:l.length < 30) (hl:(q.endLine == pos.line)=true) (hst:∀ e ∈ l,bI e)
    (h:wpAny (model X.prog X.w) A (eval a F.env) (fun u s₁=>(∃ p₁ as₁ mu₁,Inv X s₀ o p₁ as₁ mu₁ F loc s₁∧VRel X p₁ as₁ (.r k) u∧mu₁[k]? = some (.inst .caller [.body] xs)) ∧
      wpAny (model X.prog X.w) A (spliced (eD l F.env)) (fun us s₂=>X.K.In s₂.heap∧wpAny (model X.prog X.w) A (call (.ref (X.fn f)) (u::us)) Q E s₂) E s₁) E s) :
    wpAny (model X.prog X.w) A (eval (.Call (.Attribute a nm q) l [] pos) F.env) Q E s:=by
  subst hn
  rw [arm_eval_Call,mI hc]
  refine wpAny_bind (wpAny_mono h (fun u s₁ h₁=>?_) fun Z Z x=>x)
  obtain ⟨⟨p₁,as₁,mu₁,I,r,hk⟩,hcall⟩:=h₁
  obtain ⟨qq,hq,rfl⟩:=r
  obtain ⟨es,m,h1,h2,h3,h4⟩:=I.mus _ _ _ hq hk
  have Xs:=I.K hX.K
  have IA:W.InstAt s₁.heap qq.1 (instObj (X.cls .caller) qq.2) (X.cls .caller) (some (dictOf es m)):=⟨h1,rfl,rfl,h2⟩
  have g1:=((hX.cls .caller).get .body).1
  have pg:=plainGet_of g1
  refine wpAny_bind (wpAny_standAt ?_)
  have hform:methodCallForm (l.length+([]:List Keyword).length) (backTo pos (starEach l F.env)) (backToKw pos (keywordEach [] F.env))=true:=by
    rw [cB hst,c6]
    unfold methodCallForm
    rw [oh]
    have:backToKw pos (keywordEach [] F.env)=[]:=rfl
    simp [this]; exact hlen
  have hpos:methodCallPos true a F.env q pos=pure pos:=by unfold methodCallPos; simp [hl]
  unfold methodCall
  rw [hform]
  have shadow:shadowIn (some (dictOf es m)) (Str.ofString f.nm)=some false:=by
    cases es with
    | nil=>exact h3.elim
    | cons e es =>
      obtain ⟨⟨t,k1⟩,k2,k3⟩:=h3
      cases es with
      | cons _ _=>exact k3.elim
      | nil =>
        have kn:Value.isStr e.key (Str.ofString f.nm)=false:=by rw [k1]; exact beq_eq_false_iff_ne.mpr (Ne.symm (Fn.meth_ne hf))
        have kr:e.refKey=false:=by unfold DictEntry.refKey; rw [k1]
        show (lookIn _ (dictOf [e] m)).map _=_
        rw [lookIn_dict]
        unfold getL
        simp [kn,kr]
  refine wpAny_bind (wpAny_holding (method_fn Xs IA ?_ ?_ (hX.meth f hf) (hX.func f) shadow ?_))
  · exact pg.1
  · exact pg.2
  · refine wpAny_bind (wpAny_of_eq hpos ?_)
    exact kX (first:=[.ref qq.1]) (hX.keepF f) hst hcall
end
end Mine.Internal
namespace Mine.Internal
variable {X:Amb} {P:Fn→FDef} {s₀:Shared} {n:Nat} {C:Calls}
theorem HL:aR X s₀ C n .any:=fun kd F x A o p as mu mu' loc s v Q E hm hA hR I e K=>by rw [pB] at e; exact nS e
theorem Bj {i:Nat}:aR X s₀ C n (.loc i):=fun kd F x A o p as mu mu' loc s v Q E hm hA hR I e K=>by
  refine hm (fun x=>wpAny (model X.prog X.w) A (eval x F.env) Q E s) fun Z Z hx kn=>?_
  ·
    rw [Gk] at e
    refine bM e fun v' e1 e2=>?_
    clear e
    replace K:=Kv.eqP K e2
    exact vw I hx (hA.known kn) e1 fun u r=>K.now I r
theorem xC (hX:AmbOK X P):aR X s₀ C n .byte:=fun kd F x A o p as mu mu' loc s v Q E hm hA hR I e K=>by
  refine hm (fun x=>wpAny (model X.prog X.w) A (eval x F.env) Q E s) fun Z hk=>?_
  ·
    rw [CO] at e
    replace K:=Kv.eqS K e
    obtain ⟨v,h1,h2⟩:=hX.byte
    exact qv hX I ((hA _).2.1 hk) h1 (by decide +kernel) (K.now I (h2.mono I.base))
theorem BZ {i:Int}:aR X s₀ C n (.int i):=fun kd F x A o p as mu mu' loc s v Q E hm hA hR I e K=>by
  refine hm (fun x=>wpAny (model X.prog X.w) A (eval x F.env) Q E s) fun Z Z=>?_
  · rw [Gd] at e; replace K:=Kv.eqS K e; exact wpAny_Constant_int (K.here I ek)
theorem Bk {w:W}:aR X s₀ C n (.str w):=fun kd F x A o p as mu mu' loc s v Q E hm hA hR I e K=>by
  refine hm (fun x=>wpAny (model X.prog X.w) A (eval x F.env) Q E s) fun Z Z Z hs=>?_
  · subst hs; rw [Ge] at e; replace K:=Kv.eqS K e; exact Calls.Constant_str (K.here I GA)
theorem xA {b:Bool}:aR X s₀ C n (.bool b):=fun kd F x A o p as mu mu' loc s v Q E hm hA hR I e K=>by
  refine hm (fun x=>wpAny (model X.prog X.w) A (eval x F.env) Q E s) fun Z Z=>?_
  · rw [DA] at e; replace K:=Kv.eqS K e; exact Constant_bool (K.now I dq)
theorem yR:aR X s₀ C n .none:=fun kd F x A o p as mu mu' loc s v Q E hm hA hR I e K=>by
  refine hm (fun x=>wpAny (model X.prog X.w) A (eval x F.env) Q E s) fun Z Z=>?_
  · rw [vf] at e; replace K:=Kv.eqS K e; exact Constant_none (K.now I hU)
theorem Bp {es:CEs} (h:kY X s₀ C n es):aR X s₀ C n (.tup es):=fun kd F x A o p as mu mu' loc s v Q E hm hA hR I e K=>by
  refine hm (fun x=>wpAny (model X.prog X.w) A (eval x F.env) Q E s) fun Z Z Z hl=>?_
  ·
    rw [EK] at e
    refine bJ e fun vs m e1 e2=>?_
    clear e
    refine bM e2 fun v' e3 e4=>?_
    clear e2
    cases e4
    refine bg e3 fun ds e5 e6=>?_
    clear e3
    rw [arm_eval_Tuple,cB hl.star,c6]
    refine wpAny_bind (wpAny_standAt (wpAny_bind (h hl hA hR I e1 fun p' as' s' us sp sa I' r=>?_)))
    have hmk:(gu ds).map (·,mu')=some (v,mu'):=by rw [e6]; rfl
    have hz:=nj hmk
    have hu:us.length=ds.length:=by rw [kU e5]; exact r.length.symm
    exact wpAny_newObj_type (m6 (t:=s'.toks) (n:=0) hmk I' (by simpa using VRels.toD e5 r) (K.mono sp sa)) (by show us.toArray.size≤_; rw [List.size_toArray,hu]; exact fu hz)
theorem zk {q:Bool} {es:CEs} (h:kY X s₀ C n es):aR X s₀ C n (.list q es):=fun kd F x A o p as mu mu' loc s v Q E hm hA hR I e K=>by
  refine hm (fun x=>wpAny (model X.prog X.w) A (eval x F.env) Q E s) fun Z Z hl=>?_
  ·
    rw [CV] at e
    refine bJ e fun vs m e1 e2=>?_
    clear e
    rw [arm_eval_List,cB hl.star,c6]
    refine wpAny_bind (wpAny_standAt (wpAny_bind (h hl hA hR I e1 fun p' as' s' us sp sa I' r=>?_)))
    exact wpAny_newObj_type (qx (t:=s'.toks) (n:=0) e2 I' r (K.mono sp sa)) (by show us.toArray.size≤_; rw [List.size_toArray,← r.length]; exact fu (j1 e2))
theorem B0 {q:Bool} {op:Bop} {a b:CE} (ha:aR X s₀ C n a) (hb:aR X s₀ C n b):aR X s₀ C n (.bin q op a b):=fun kd F x A o p as mu mu' loc s v Q E hm hA hR I e K=>by
  refine hm (fun x=>wpAny (model X.prog X.w) A (eval x F.env) Q E s) fun Z Z Z h1 h2=>?_
  ·
    rw [FP] at e
    refine bJ e fun x1 m1 e1 f1=>?_
    clear e
    refine bJ f1 fun x2 m2 e2 e3=>?_
    clear f1
    exact wpAny_BinOp (ha h1 hA hR I e1 fun p1 bv s1 u1 sp1 sa1 I1 r1=>hb h2 hA hR I1 e2 fun p2 eH s2 u2 sp2 sa2 I2 r2=>AI e3 I2 (r1.mono sp2 sa2) r2 (K.mono (sp1.trans sp2) (sa1.trans sa2)))
theorem Hh {a:CE} (ha:aR X s₀ C n a):aR X s₀ C n (.neg a):=fun kd F x A o p as mu mu' loc s v Q E hm hA hR I e K=>by
  refine hm (fun x=>wpAny (model X.prog X.w) A (eval x F.env) Q E s) fun Z Z h1=>?_
  ·
    rw [xR] at e
    refine bJ e fun x1 m1 e1 e2=>bM e2 fun i e3 e4=>?_
    clear e
    replace K:=Kv.eqP K e4
    exact UnaryOp_ (ha h1 hA hR I e1 fun p1 bv s1 u1 sp1 sa1 I1 r1=>Ep I1 (fJ e3 ▸ r1) (K.mono sp1 sa1))
theorem pS {op:CmpOp} {y:Expr} (h:jT y):behindInMarks op y=false:=by cases y <;> first | rfl | exact (iD h)
theorem GW {op:Cop} {a b:CE} (ha:aR X s₀ C n a) (hb:aR X s₀ C n b):aR X s₀ C n (.cmp op a b):=fun kd F x A o p as mu mu' loc s v Q E hm hA hR I e K=>by
  refine hm (fun x=>wpAny (model X.prog X.w) A (eval x F.env) Q E s) fun Z Z Z hs h1 h2=>?_
  ·
    rw [yk] at e
    refine bJ e fun x1 m1 e1 f1=>?_
    clear e
    refine bJ f1 fun x2 m2 e2 e3=>?_
    clear f1
    refine bM e3 fun c e4 e5=>?_
    clear e3
    replace K:=Kv.eqP K e5
    exact wpAny_Compare1 (ha h1 hA hR I e1 fun p1 bv s1 u1 sp1 sa1 I1 r1=>hb h2 hA hR I1 e2 fun p2 eH s2 u2 sp2 sa2 I2 r2=>tz e4 hR I2 (r1.mono sp2 sa2) r2 (K.mono (sp1.trans sp2) (sa1.trans sa2))) (pS hs)
theorem sJ {p:aE} {as:As} {v:Val} {u:Value} (r:VRel X p as v u) (h:v ≠ .d .none):(u == .none)=false:=by
  cases v with
  | r i=>obtain ⟨q,_,rfl⟩:=r; rfl
  | clo k=>cases r; rfl
  | d x =>
    have r:DRel X p x u:=r
    cases x
    all_goals first
      | exact absurd rfl h
      | (obtain rfl:=r; rfl)
      | (obtain ⟨a,rfl,_⟩:=r; rfl)
      | (obtain ⟨a,rfl⟩:=r; rfl)
      | (obtain ⟨a,b,rfl⟩:=r; rfl)
      | (obtain ⟨a,b,c,rfl,_⟩:=r; rfl)
      | (obtain ⟨a,b,c,d,rfl,_⟩:=r; rfl)
theorem nH {p:aE} {as:As} {v:Val} {u:Value} {b:Bool} (r:VRel X p as v u) (h:l6 v=some b):(u == .none)=b:=by
  cases v with
  | clo k=>exact nS h
  | r k=>(replace h:=iS h; subst h); exact sJ r (fun z=>nomatch z)
  | d x =>
    cases hx:dN x with
    | some _ =>
      have e:l6 (.d x)=some (dN x).isSome:=rfl
      rw [e,hx] at h; (replace h:=iS h; subst h)
      rw [Bf hx] at r
      cases uI r; rfl
    | none =>
      have e:l6 (.d x)=some (dN x).isSome:=rfl
      rw [e,hx] at h; (replace h:=iS h; subst h)
      exact sJ r fun z=>by cases z; exact nS hx.symm
theorem G4 {a:CE} (ha:aR X s₀ C n a):aR X s₀ C n (.isN a):=fun kd F x A o p as mu mu' loc s v Q E hm hA hR I e K=>by
  refine hm (fun x=>wpAny (model X.prog X.w) A (eval x F.env) Q E s) fun Z Z Z Z h1=>?_
  ·
    rw [yV] at e
    refine bJ e fun x1 m1 e1 e2=>bM e2 fun b e3 e4=>?_
    clear e
    replace K:=Kv.eqP K e4
    refine wpAny_Compare1 (ha h1 hA hR I e1 fun p1 bv s1 u1 sp1 sa1 I1 r1=>Constant_none (is_none ?_)) rfl
    rw [nH r1 e3]
    exact (K.mono sp1 sa1).now I1 dq
theorem GK {a:CE} (ha:aR X s₀ C n a):aR X s₀ C n (.notN a):=fun kd F x A o p as mu mu' loc s v Q E hm hA hR I e K=>by
  refine hm (fun x=>wpAny (model X.prog X.w) A (eval x F.env) Q E s) fun Z Z Z Z h1=>?_
  ·
    rw [vh] at e
    refine bJ e fun x1 m1 e1 e2=>bM e2 fun b e3 e4=>?_
    clear e
    replace K:=Kv.eqP K e4
    refine wpAny_Compare1 (ha h1 hA hR I e1 fun p1 bv s1 u1 sp1 sa1 I1 r1=>Constant_none (isNot_none ?_)) rfl
    rw [nH r1 e3]
    exact (K.mono sp1 sa1).now I1 dq
theorem lf {v:Val} {b:Bool} (h:df v=some b):v=.d (.bool b):=Gn h
theorem Ht {a:CE} (ha:aR X s₀ C n a):aR X s₀ C n (.not a):=fun kd F x A o p as mu mu' loc s v Q E hm hA hR I e K=>by
  refine hm (fun x=>wpAny (model X.prog X.w) A (eval x F.env) Q E s) fun Z Z h1=>?_
  ·
    rw [yE] at e
    refine bJ e fun x1 m1 e1 e2=>?_
    clear e
    refine bM e2 fun b e3 e4=>?_
    clear e2
    replace K:=Kv.eqP K e4
    cases lf e3
    exact UnaryOp_ (ha h1 hA hR I e1 fun p1 bv s1 u1 sp1 sa1 I1 r1=>not_of (by cases iU r1; exact wpAny_truthy_bool ((K.mono sp1 sa1).now I1 dq)))
theorem GU {t a b:CE} (ht:eg X s₀ C n t) (ha:aR X s₀ C n a) (hb:aR X s₀ C n b):aR X s₀ C n (.ifx t a b):=fun kd F x A o p as mu mu' loc s v Q E hm hA hR I e K=>by
  refine hm (fun x=>wpAny (model X.prog X.w) A (eval x F.env) Q E s) fun Z Z Z Z h1 h2 h3=>?_
  ·
    rw [zw] at e
    refine bJ e fun x1 m1 e1 e2=>?_
    clear e
    refine bg e2 fun c e3 e4=>?_
    clear e2
    refine IfExp_ (ht h1 hA hR I e1 e3 fun p1 bv s1 sp1 sa1 I1=>?_)
    cases c with
    | true=>exact ha h2 hA hR I1 e4 (K.mono sp1 sa1)
    | false=>exact hb h3 hA hR I1 e4 (K.mono sp1 sa1)
theorem zy {a:CE} {f:Fld} (hX:AmbOK X P) (ha:aR X s₀ C n a):aR X s₀ C n (.attr a f):=fun kd F x A o p as mu mu' loc s v Q E hm hA hR I e K=>by
  refine hm (fun x=>wpAny (model X.prog X.w) A (eval x F.env) Q E s) fun Z Z Z hc h1 hs=>?_
  ·
    subst hs
    rw [CL] at e
    refine bJ e fun x1 m1 e1 e2=>?_
    clear e
    refine bM e2 fun v' e3 e4=>?_
    clear e2
    replace K:=Kv.eqP K e4
    refine Attribute_any_ (ha h1 hA hR I e1 fun p1 bv s1 u1 sp1 sa1 I1 r1=>Di e3 hX.K hX.cls I1 r1 (K.mono sp1 sa1)) ?_
    rw [arm_eval_Attribute,mI hc]
theorem Ck {a i:CE} (ha:aR X s₀ C n a) (hi:aR X s₀ C n i):aR X s₀ C n (.sub a i):=fun kd F x A o p as mu mu' loc s v Q E hm hA hR I e K=>by
  refine hm (fun x=>wpAny (model X.prog X.w) A (eval x F.env) Q E s) fun Z Z Z hs h1 h2=>?_
  ·
    rw [DV] at e
    refine bJ e fun x1 m1 e1 f1=>?_
    clear e
    refine bJ f1 fun x2 m2 e2 e3=>?_
    clear f1
    refine bM e3 fun c e4 e5=>?_
    clear e3
    replace K:=Kv.eqP K e5
    exact Subscript_ (ha h1 hA hR I e1 fun p1 bv s1 u1 sp1 sa1 I1 r1=>hi h2 hA hR I1 e2 fun p2 eH s2 u2 sp2 sa2 I2 r2=>E8 e4 hs I2 (r1.mono sp2 sa2) r2 (K.mono (sp1.trans sp2) (sa1.trans sa2)))
theorem Bv {a i:CE} (ha:aR X s₀ C n a) (hi:aR X s₀ C n i):aR X s₀ C n (.slo a i):=fun kd F x A o p as mu mu' loc s v Q E hm hA hR I e K=>by
  refine hm (fun x=>wpAny (model X.prog X.w) A (eval x F.env) Q E s) fun Z Z Z Z h1 h2=>?_
  ·
    rw [ED] at e
    refine bJ e fun x1 m1 e1 f1=>bJ f1 fun x2 m2 e2 e3=>bg e3 fun xs e4 e5=>bg e5 fun k e6 e7=>li e7 fun hc e8=>?_
    clear e
    exact Subscript_ (ha h1 hA hR I e1 fun p1 bv s1 u1 sp1 sa1 I1 r1=>wpAny_Slice (hi h2 hA hR I1 e2 fun p2 eH s2 u2 sp2 sa2 I2 r2=>wpAny_pure (wpAny_pure (GQ hc.1 hc.2.1 hc.2.2 e8 I2 (oM e4 ▸ r1.mono sp2 sa2) (fJ e6 ▸ r2) (K.mono (sp1.trans sp2) (sa1.trans sa2))))))
theorem xF {f:Fn} {es:CEs} (hX:AmbOK X P) (hC:cr X s₀ C n) (h:kY X s₀ C n es):aR X s₀ C n (.call f es):=fun kd F x A o p as mu mu' loc s v Q E hm hA hR I e K=>by
  refine hm (fun x=>wpAny (model X.prog X.w) A (eval x F.env) Q E s) fun Z Z Z Z ht hs hk hl=>?_
  ·
    subst hs
    rw [CI] at e
    refine bJ e fun vs m e1 e2=>?_
    clear e
    refine Call_ (qv hX I ((hA _).2.1 hk) (hX.fns f ht) f.nodbg (kX (hX.keepF f) hl.star (h hl hA hR I e1 fun p' as' s' us sp sa I' r=>⟨I'.K hX.K,?_⟩))) ?_
    · exact wpAny_call (lW (hC hR.rc I' r e2 (K.mono sp sa)))
    · rfl
theorem Cm {c:Cls} {es:CEs} (hX:AmbOK X P) (hC:cr X s₀ C n) (h:kY X s₀ C n es):aR X s₀ C n (.new c es):=fun kd F x A o p as mu mu' loc s v Q E hm hA hR I e K=>by
  refine hm (fun x=>wpAny (model X.prog X.w) A (eval x F.env) Q E s) fun Z Z Z Z hs hk hl=>?_
  ·
    subst hs
    rw [Et] at e
    refine bJ e fun vs m e1 f1=>bJ f1 fun x1 m1 e2 e3=>bM e3 fun Z e4 e5=>?_
    clear e
    replace K:=Kv.eqP K e5
    rw [Jg e4] at e2
    refine Call_ (qv hX I ((hA _).2.1 hk) (hX.clss c) c.nodbg (kX (hX.keepC c) hl.star (h hl hA hR I e1 fun p' as' s' us sp sa I' r=>⟨I'.K hX.K,?_⟩))) rfl
    exact wpAny_call (lW (Gu hX hC hR I' r e2 (K.mono sp sa)))
theorem yi {a:CE} {f:Fn} {es:CEs} (hX:AmbOK X P) (hC:cr X s₀ C n) (ha:aR X s₀ C n a) (h:kY X s₀ C n es):aR X s₀ C n (.meth a f es):=fun kd F x A o p as mu mu' loc s v Q E hm hA hR I e K=>by
  refine hm (fun x=>wpAny (model X.prog X.w) A (eval x F.env) Q E s) fun Z Z Z Z Z hc hlen hl hf hs h1 hes=>?_
  ·
    rw [CT] at e
    refine bJ e fun x1 m1 e1 f1=>bg f1 fun k f2 f3=>bg f3 fun Z f4 f5=>bJ f5 fun vs m e2 e3=>bg f4 fun ob f6 f7=>?_
    clear e
    refine xe1 (C8 f7) fun xs hob=>?_
    have hk:m1[k]? = some (.inst .caller [.body] xs):=hob ▸ f6
    rw [gR f2] at e1
    refine xD (k:=k) (xs:=xs) hX hf hs hc hlen hl hes.star (ha h1 hA hR I e1 fun p1 bv s1 u1 sp1 sa1 I1 r1=>⟨⟨p1,bv,m1,I1,r1,hk⟩,h hes hA hR I1 e2 fun p' as' s' us sp sa I' r=>⟨I'.K hX.K,?_⟩⟩)
    exact wpAny_call (lW (hC hR.rc I' (vs:=.r k::vs) (us:=u1::us) ⟨_,_,rfl,r1.mono sp sa,r⟩ e3 (K.mono (sp1.trans sp) (sa1.trans sa))))
end Mine.Internal
namespace Mine.Internal
variable {X:Amb} {P:Fn→FDef} {s₀:Shared} {n:Nat} {C:Calls}
theorem uv {M:Model} {A:Around} {E:Value→Shared→Prop} {s:Shared} {b:Bi} {l:List Expr} {pos:Pos} {env:Env} {Q:Value→Shared→Prop} (hst:∀ e ∈ l,bI e)
    (h:wpAny M A (spliced (eD l env)) (fun us s₁=>wpAny M A (call b.val us) Q E s₁) E s):wpAny M A (callWith pos b.val [] (backTo pos (starEach l env)) []) Q E s:=by
  rw [cB hst,c6]
  cases b
  case len=>exact Calls.callWith_builtin d3 (ej h)
  case max=>exact Calls.callWith_builtin d3 (ej h)
  case sum=>exact Calls.callWith_builtin d3 (ej h)
  case int=>exact PySem.callWith_type d3 (ej h)
  case tuple=>exact PySem.callWith_type d3 (ej h)
  case dict=>exact PySem.callWith_type d3 (ej h)
  case range=>exact PySem.callWith_type d3 (ej h)
theorem G2 {m:Mu} {b:Bi} {vs:List Val} {r:Val × Mu} (h:D1 m b vs=some r):(b=.dict∧w4 m vs=some r)∨(bi m b vs).map (·,m)=some r:=by
  cases b with
  | dict=>exact .inl ⟨rfl,h⟩
  | _=>exact .inr h
theorem F8 {b:Bi} {es:CEs} (hX:AmbOK X P) (h:kY X s₀ C n es):aR X s₀ C n (.bi b es):=fun kd F x A o p as mu mu' loc s v Q E hm hA hR I e K=>by
  refine hm (fun x=>wpAny (model X.prog X.w) A (eval x F.env) Q E s) fun Z q0 l0 pos0 hs hk hl=>?_
  ·
    subst hs
    have go:∀ {vs m},cS C loc mu es=some (vs,m)→(∀ p' as' s' us,Sub p p'→as <+: as'→Inv X s₀ o p' as' m F loc s'→VRels X p' as' vs us→wpAny (model X.prog X.w) A (call b.val us) Q E s')→wpAny (model X.prog X.w) A (eval (.Call (.Name (Str.ofString b.nm) q0) l0 [] pos0) F.env) Q E s:=fun e1 h1 =>
      Call_ (qy hX I ((hA _).2.1 hk) (hX.bis b) b.nodbg (uv hl.star (h hl hA hR I e1 h1))) rfl
    rw [Hy] at e
    refine bJ e fun vs m e1 e2=>?_
    rcases G2 e2 with ⟨hd,e2⟩ | e2
    · refine bg e2 fun a f1 f2=>bg f2 fun x f3 f4=>bg f4 fun k f5 f6=>li f6 fun f7 f8=>?_
      replace K:=Kv.eqS K f8
      refine go e1 fun p' as' s' us sp sa I' r=>?_
      refine xe1 (mw f1 r) fun u r_=>aN r_ fun e1_ r1=>?_
      rw [e1_]
      rw [gx f3,Jf f5,f7] at r1
      rw [hd]
      exact Ds hX.sys I' r1 (K.mono sp sa)
    · refine bM e2 fun v' e3 e4=>?_
      replace K:=Kv.eqP K e4
      exact go e1 fun p' as' s' us sp sa I' r=>Hz e3 hR I' r (K.mono sp sa)
theorem ui {q:Bool} {a:CE} (hX:AmbOK X P) (ha:aR X s₀ C n a):aR X s₀ C n (.toList q a):=fun kd F x A o p as mu mu' loc s v Q E hm hA hR I e K=>by
  refine hm (fun x=>wpAny (model X.prog X.w) A (eval x F.env) Q E s) fun Z Z Z hs hk h1=>?_
  ·
    rw [xL] at e
    refine bJ e fun x1 m1 e1 f1=>?_
    refine bg f1 fun xs e2 e3=>?_
    refine Call_ (qy hX I ((hA _).2.1 hk) hX.lst (by decide +kernel) ?_) rfl
    rw [cB (dK (hs)),c6]
    refine PySem.callWith_type d3 (ej (Calls.spliced_cons (ha h1 hA hR I e1 fun p1 bv s1 u1 sp1 sa1 I1 r1=>Calls.spliced_nil ?_)))
    exact zG e2 e3 hR I1 r1 (K.mono sp1 sa1)
theorem iP {b:Expr} (h:bI b):∀ e ∈ [b],bI e:=dK (h)
theorem ud {b c:Expr} (h:bI b) (h':bI c):∀ e ∈ [b,c],bI e:=tT (h) (h')
theorem qV {M:Model} {A:Around} {E:Value→Shared→Prop} {s:Shared} {b:Expr} {env:Env} {Q:List Value→Shared→Prop} (h:wpAny M A (eval b env) (fun u s₁=>Q [u] s₁) E s):wpAny M A (spliced (eD [b] env)) Q E s :=
  Calls.spliced_cons (wpAny_mono h (fun u s₁ h₁=>Calls.spliced_nil h₁) fun Z Z x=>x)
theorem EN {M:Model} {A:Around} {E:Value→Shared→Prop} {s:Shared} {b c:Expr} {env:Env} {Q:List Value→Shared→Prop} (h:wpAny M A (eval b env) (fun u s₁=>wpAny M A (eval c env) (fun u' s₂=>Q [u,u'] s₂) E s₁) E s):wpAny M A (spliced (eD [b,c] env)) Q E s :=
  Calls.spliced_cons (wpAny_mono h (fun u s₁ h₁=>Calls.spliced_cons (wpAny_mono h₁ (fun u' s₂ h₂=>Calls.spliced_nil h₂) fun Z Z x=>x)) fun Z Z x=>x)
theorem oG {o p:aE} {as:As} {mu:Mu} {F:Fm} {loc:ag} {s:Shared} {v:Val} {u:Value} (I:Inv X s₀ o p as mu F loc s) (h:m9 mu v=true) (r:VRel X p as v u) :
    s.TypeIs u "list" ∧ ∀ a,u=.ref a→∃ ob,s.heap.get? a=some ob∧ob.dict=none:=by
  cases hr:vR v with
  | none=>rw [show m9 mu v=false by unfold m9; rw [hr]; rfl] at h; exact (Bool.false_ne_true h).elim
  | some k =>
    rw [show m9 mu v=((mu[k]?).bind oL).isSome by unfold m9; rw [hr]; rfl] at h
    refine xe1 (Option.isSome_iff_exists.mp h) fun xs hk=>?_
    rw [gR hr] at r
    obtain ⟨q,vs,m,hq,rfl,h1,h2⟩:=I.list_at (kz hk) r
    exact ⟨⟨_,h1,rfl⟩,fun a e=>by cases e; exact ⟨_,h1,rfl⟩⟩
theorem oV {o p:aE} {as:As} {mu:Mu} {F:Fm} {loc:ag} {s:Shared} {v:Val} {u:Value} (I:Inv X s₀ o p as mu F loc s) (h:js mu v=true) (r:VRel X p as v u) :
    s.TypeIs u "dict" ∧ ∀ a,u=.ref a→∃ ob,s.heap.get? a=some ob∧ob.dict=none:=by
  cases hr:vR v with
  | none=>rw [show js mu v=false by unfold js; rw [hr]; rfl] at h; exact (Bool.false_ne_true h).elim
  | some k =>
    rw [gR hr] at r
    cases hm:mu[k]? with
    | none=>rw [show js mu v=false by unfold js mU; rw [hr]; show Option.elim mu[k]? _ _=_; rw [hm]; rfl] at h; exact (Bool.false_ne_true h).elim
    | some ob =>
      rw [show js mu v=((oI ob).isSome || (oP ob).isSome) by unfold js mU; rw [hr]; show Option.elim mu[k]? _ _=_; rw [hm]; rfl,Bool.or_eq_true] at h
      rcases h with h | h <;> obtain ⟨xs,hk⟩:=Option.isSome_iff_exists.mp h
      · rw [Ak hk] at hm
        obtain ⟨q,kvs,hq,rfl,_,h1,_⟩:=I.idict_at hm r
        exact ⟨h1.typeIs,fun a e=>by cases e; obtain ⟨ob,_,_,e1,e2,_⟩:=h1; exact ⟨ob,e1,e2.2.1⟩⟩
      · rw [Ei hk] at hm
        obtain ⟨q,kvs,hq,rfl,_,h1,_⟩:=I.spots_at hm r
        exact ⟨h1.typeIs,fun a e=>by cases e; obtain ⟨ob,_,_,e1,e2,_⟩:=h1; exact ⟨ob,e1,e2.2.1⟩⟩
theorem B3 {a b:CE} (ha:aR X s₀ C n a) (hb:aR X s₀ C n b):aR X s₀ C n (.app a b):=fun kd F x A o p as mu mu' loc s v Q E hm hA hR I e K=>by
  refine hm (fun x=>wpAny (model X.prog X.w) A (eval x F.env) Q E s) fun Z Z Z Z hc hs hl h1 h2=>?_
  ·
    rw [Fy] at e
    refine bJ e fun x1 m1 e1 f1=>ym f1 fun g1 f2=>bJ f2 fun x2 m2 e2 e3=>bg e3 fun k f3 f4=>bg f4 fun xs hk f5=>li f5 fun hz f6=>?_
    replace K:=Kv.eqS K f6
    exact gG hc hl (iP hs) (by simp) PySem.F.plainAttrs_list PySem.F.slot_list_append PySem.F.type_list_append (ha h1 hA hR I e1 fun p1 bv s1 u1 sp1 sa1 I1 r1=>⟨oG I1 g1 r1,qV (hb h2 hA hR I1 e2 fun p2 eH s2 u2 sp2 sa2 I2 r2=>Ff (kz hk) hz I2 (gR f3 ▸ r1.mono sp2 sa2) (r2) (K.mono (sp1.trans sp2) (sa1.trans sa2)))⟩)
theorem Ch {a b:CE} (ha:aR X s₀ C n a) (hb:aR X s₀ C n b):aR X s₀ C n (.ext a b):=fun kd F x A o p as mu mu' loc s v Q E hm hA hR I e K=>by
  refine hm (fun x=>wpAny (model X.prog X.w) A (eval x F.env) Q E s) fun Z Z Z Z hc hs hl h1 h2=>?_
  ·
    rw [GC] at e
    refine bJ e fun x1 m1 e1 f1=>ym f1 fun g1 f2=>bJ f2 fun x2 m2 e2 e3=>bg e3 fun k f3 f4=>bg f4 fun ds hd f5=>bg f5 fun xs hk f6=>li f6 fun hz f7=>?_
    replace K:=Kv.eqS K f7
    exact gG hc hl (iP hs) (by simp) PySem.F.plainAttrs_list PySem.F.slot_list_extend PySem.F.type_list_extend (ha h1 hA hR I e1 fun p1 bv s1 u1 sp1 sa1 I1 r1=>⟨oG I1 g1 r1,qV (hb h2 hA hR I1 e2 fun p2 eH s2 u2 sp2 sa2 I2 r2=>FB (kz hk) hz I2 (gR f3 ▸ r1.mono sp2 sa2) (tU hd ▸ r2) (K.mono (sp1.trans sp2) (sa1.trans sa2)))⟩)
theorem zp {a:CE} (ha:aR X s₀ C n a):aR X s₀ C n (.pop0 a):=fun kd F x A o p as mu mu' loc s v Q E hm hA hR I e K=>by
  refine hm (fun x=>wpAny (model X.prog X.w) A (eval x F.env) Q E s) fun Z Z Z Z Z hc hl h1=>?_
  ·
    rw [Dk] at e
    refine bJ e fun x1 m1 e1 e3=>bg e3 fun k hr f1=>bg f1 fun l hk f2=>?_
    cases l with
    | nil=>exact nS f2
    | cons y ys =>
      refine aN (kS (show (if ys.length < lim then some (y,m1.set k (.list ys)) else none)=some (v,mu') from f2)) fun hz f3=>?_
      replace K:=Kv.eqS K f3
      rw [gR hr] at e1
      refine gG hc hl (iP rfl) (by simp) PySem.F.plainAttrs_list PySem.F.slot_list_pop PySem.F.type_list_pop (ha h1 hA hR I e1 fun p1 bv s1 u1 sp1 sa1 I1 r1=>⟨oG I1 (v:=.r k) (show ((m1[k]?).bind oL).isSome=true by rw [hk]; rfl) r1,qV (wpAny_Constant_int ?_)⟩)
      exact DD (kz hk) hz (I1.tok _) r1 (K.mono sp1 sa1)
theorem Bm {a b:CE} (ha:aR X s₀ C n a) (hb:aR X s₀ C n b):aR X s₀ C n (.get a b):=fun kd F x A o p as mu mu' loc s v Q E hm hA hR I e K=>by
  refine hm (fun x=>wpAny (model X.prog X.w) A (eval x F.env) Q E s) fun Z Z Z Z hc hs hl h1 h2=>?_
  ·
    rw [Ev] at e
    refine bJ e fun x1 m1 e1 f1=>ym f1 fun g1 f2=>bJ f2 fun x2 m2 e2 e3=>bg e3 fun k f3 f4=>bg f4 fun i hi f5=>bM f5 fun ks hk f6=>?_
    replace K:=Kv.eqP K f6
    exact gG hc hl (iP hs) (by simp) PySem.F.plainAttrs_dict PySem.F.slot_dict_get PySem.F.type_dict_get (ha h1 hA hR I e1 fun p1 bv s1 u1 sp1 sa1 I1 r1=>⟨oV I1 g1 r1,qV (hb h2 hA hR I1 e2 fun p2 eH s2 u2 sp2 sa2 I2 r2=>Ef (xj hk) I2 (gR f3 ▸ r1.mono sp2 sa2) (fJ hi ▸ r2) (K.mono (sp1.trans sp2) (sa1.trans sa2)))⟩)
theorem xP {a b c:CE} (ha:aR X s₀ C n a) (hb:aR X s₀ C n b) (hcc:aR X s₀ C n c):aR X s₀ C n (.getd a b c):=fun kd F x A o p as mu mu' loc s v Q E hm hA hR I e K=>by
  refine hm (fun x=>wpAny (model X.prog X.w) A (eval x F.env) Q E s) fun Z Z Z Z Z hc hs hs' hl h1 h2 h3=>?_
  ·
    rw [Dl] at e
    refine bJ e fun x1 m1 e1 f1=>ym f1 fun g1 f2=>bJ f2 fun x2 m2 e2 f3=>bJ f3 fun x3 m3 e3 e4=>?_
    have go:∀ {Kq:Prop},(∀ p1 bv s1 u1 u2 u3,Sub p p1→as <+: bv→Inv X s₀ o p1 bv m3 F loc s1→VRel X p1 bv x1 u1→VRel X p1 bv x2 u2→VRel X p1 bv x3 u3→wpAny (model X.prog X.w) A (call (.builtin "dict.get") [u1,u2,u3]) Q E s1)→wpAny (model X.prog X.w) A (eval (.Call (.Attribute _ (Str.ofString "get") _) [_,_] [] _) F.env) Q E s:=fun k =>
      gG hc hl (ud hs hs') (by simp) PySem.F.plainAttrs_dict PySem.F.slot_dict_get PySem.F.type_dict_get (ha h1 hA hR I e1 fun p1 bv s1 u1 sp1 sa1 I1 r1=>⟨oV I1 g1 r1,EN (hb h2 hA hR I1 e2 fun p2 eH s2 u2 sp2 sa2 I2 r2=>hcc h3 hA hR I2 e3 fun p3 gq s3 u3 sp3 sa3 I3 r3 =>
        k p3 gq s3 u1 u2 u3 (sp1.trans (sp2.trans sp3)) (sa1.trans (sa2.trans sa3)) I3 (r1.mono (sp2.trans sp3) (sa2.trans sa3)) (r2.mono sp3 sa3) r3)⟩)
    refine bg e4 fun a hr e5=>Bw e5 (fun Z e6=>?_) (fun i hi e6=>?_)
    · refine bg e6 fun Z hp e7=>bg e7 fun j hj e8=>li e8 fun h0 e9=>bM e9 fun n hk e10=>?_
      replace K:=Kv.eqP K e10
      refine xe2 (zA hp) fun i j' hx2=>?_
      exact go (Kq:=True) fun p1 bv s1 u1 u2 u3 sp sa I' r1 r2 r3=>by
        rw [gR hr] at r1; rw [hx2] at r2; rw [fJ hj,h0] at r3
        refine xe1 (cP r3) fun t e1_=>?_
        rw [e1_]
        exact zO hR (BV hk) I' r1 r2 (K.mono sp sa)
    · refine bg e6 fun z hz e7=>bM e7 fun ks hk e8=>?_
      replace K:=Kv.eqP K e8
      exact go (Kq:=True) fun p1 bv s1 u1 u2 u3 sp sa I' r1 r2 r3=>C7 (xj hk) I' (gR hr ▸ r1) (fJ hi ▸ r2) (gx hz ▸ r3) (K.mono sp sa)
theorem zo {a b:CE} (ha:aR X s₀ C n a) (hb:aR X s₀ C n b):aR X s₀ C n (.popd a b):=fun kd F x A o p as mu mu' loc s v Q E hm hA hR I e K=>by
  refine hm (fun x=>wpAny (model X.prog X.w) A (eval x F.env) Q E s) fun Z Z Z Z Z Z hc hs hl h1 h2=>?_
  ·
    rw [DR] at e
    refine bJ e fun x1 m1 e1 f1=>ym f1 fun g1 f2=>bJ f2 fun x2 m2 e2 e3=>bg e3 fun k f3 f4=>bg f4 fun i hi f5=>bg f5 fun ks hk f6=>li f6 fun hz f7=>?_
    replace K:=Kv.eqS K f7
    exact gG hc hl (ud hs rfl) (by simp) PySem.F.plainAttrs_dict PySem.F.slot_dict_pop PySem.F.type_dict_pop (ha h1 hA hR I e1 fun p1 bv s1 u1 sp1 sa1 I1 r1=>⟨oV I1 g1 r1,EN (hb h2 hA hR I1 e2 fun p2 eH s2 u2 sp2 sa2 I2 r2=>Constant_none (DH (xj hk) hz I2 (gR f3 ▸ r1.mono sp2 sa2) (fJ hi ▸ r2) (K.mono (sp1.trans sp2) (sa1.trans sa2))))⟩)
end Mine.Internal
namespace Mine.Internal
variable {X:Amb} {P:Fn→FDef} {s₀:Shared} {n:Nat} {C:Calls}
theorem yM {q:Bool} {elt it:CE} {ts:List Nat} (hi:aR X s₀ C n it) (hl:aR X s₀ C n elt):aR X s₀ C n (.comp q elt ts it):=fun kd F x A o p as mu mu' loc s v Q E hm hA hR I e K=>by
  refine hm (fun x=>wpAny (model X.prog X.w) A (eval x F.env) Q E s) fun Z Z Z Z Z hS hy ht hx=>?_
  ·
    rw [uV] at e
    rw [arm_eval_ListComp]
    exact ny (q:=q) (c:=none) (use:=none) hi hl (fun c' h=>by exact nS h) hS hy ht hx rfl hA hR I e fun p' as' s' u Cl m sp sa I' vr al hn=>mO I' al hn vr (K.mono sp sa)
theorem tE {elt it c:CE} {ts:List Nat} (hi:aR X s₀ C n it) (hl:aR X s₀ C n elt) (hc:eg X s₀ C n c):aR X s₀ C n (.compif elt ts it c):=fun kd F x A o p as mu mu' loc s v Q E hm hA hR I e K=>by
  refine hm (fun x=>wpAny (model X.prog X.w) A (eval x F.env) Q E s) fun Z Z Z Z Z Z hS hy ht hx hz=>?_
  ·
    rw [rk] at e
    rw [arm_eval_ListComp]
    exact ny (q:=false) (c:=some c) (use:=none) hi hl (fun c' h=>by (replace h:=iS h; subst h); exact hc) hS hy ht hx ⟨_,rfl,hz⟩ hA hR I e fun p' as' s' u Cl m sp sa I' vr al hn=>mO I' al hn vr (K.mono sp sa)
theorem B7 {i:Nat} (hX:AmbOK X P):aR X s₀ C n (.lam i):=fun kd F x A o p as mu mu' loc s v Q E hm hA hR I e K=>by
  refine hm (fun x=>wpAny (model X.prog X.w) A (eval x F.env) Q E s) fun Z Z Z Z hfz hL h1 h2 h3 hx hk hf ho=>?_
  ·
    rw [FY] at e
    refine bg e fun v' e1 e2=>bM e2 fun k e3 e4=>?_
    clear e
    replace K:=Kv.eqP K e4
    rw [fJ e3] at e1
    exact Ad hX hfz hL h1 h2 h3 hx hk hf ho hA I e1 K
theorem vk {i:Nat} {b:CE} (hX:AmbOK X P) (hb:aR X s₀ C n b):aR X s₀ C n (.callv i b):=fun kd F x A o p as mu mu' loc s v Q E hm hA hR I e K=>by
  refine hm (fun x=>wpAny (model X.prog X.w) A (eval x F.env) Q E s) fun Z Z Z Z hs hx kn h1=>?_
  ·
    rw [Ai] at e
    refine bg e fun v' e1 f1=>bJ f1 fun x1 m1 e2 e3=>bg e3 fun k e4 e5=>bM e5 fun c e6 e7=>?_
    clear e
    replace K:=Kv.eqP K e7
    refine Call_ (vw I hx (hA.known kn) e1 fun u r=>?_) rfl
    rw [cB (iP hs),c6]
    have r':CloRel X p k u:=(show VRel X p as (.clo k) u from IP e4 ▸ r)
    obtain @⟨f,name,qual,params,body,scope,cl,pm,c',ctv,cell,tc,ob,oc,vs,tq,e5,h2,h3,h4,h5,h6,h7,h8⟩:=id r'
    clear h2 h3 h4 h5 h6 h7 h8
    refine Calls.callWith_function (o:=kla_obj name qual params body scope cl pm c' ctv) (ej (qV (hb h1 hA hR I e2 fun p1 bv s1 u1 sp1 sa1 I1 r1=>⟨⟨I1.ple _ _ (sp1 _ _ e5),rfl⟩,?_⟩)))
    exact wpAny_call (lW (z1 hX.lim (by have:=hR.depth; omega) I1 (r'.mono sp1) (fJ e6 ▸ r1) (K.mono sp1 sa1)))
theorem xZ {o p:aE} {as:As} {mu:Mu} {F:Fm} {loc:ag} {A:Around} {s:Shared} {Q E:Value→Shared→Prop} {pos:Pos} {m:MObj} (hX:AmbOK X P) (ho:∀ a,dW (a,0) m=[a]) (hm:∀ a,(a == sysModules)=false→s.heap.objs.size=a→MRel X (s.heap.push { cls:=.type "dict", data:=.dict #[] }) p (as++[(a,0)]) (a,0) m) (I:Inv X s₀ o p as mu F loc s)
    (K:Kv X s₀ o p as (mu++[m]) F loc Q (.r mu.length)):wpAny (model X.prog X.w) A (eval (.Dict [] [] pos) F.env) Q E s:=by
  rw [eval_Dict_empty]
  refine wpAny_bind (wpAny_standAt (wpAny_newObj_type ?_))
  have ns:=I.not_sys hX.sys (Nat.le_refl _)
  exact K _ _ _ _ Sub.refl (List.prefix_append _ _) (I.pushM _ rfl (ho _) (hm _ ns rfl)) ⟨(s.heap.objs.size,0),by rw [← I.len]; exact List.getElem?_concat_length ..,rfl⟩
theorem tv (hX:AmbOK X P):aR X s₀ C n .emptyI:=fun kd F x A o p as mu mu' loc s v Q E hm hA hR I e K=>by
  refine hm (fun x=>wpAny (model X.prog X.w) A (eval x F.env) Q E s) fun Z=>?_
  ·
    rw [zu] at e; replace K:=Kv.eqS K e
    exact xZ (m:=.idict []) hX (fun Z=>rfl) (fun a ha hz=>⟨ha,[],by subst hz; exact Heap.DictOf.new _,rfl,by rw [List.map_nil,List.map_nil,ds0]⟩) I K
theorem sL (hX:AmbOK X P):aR X s₀ C n .emptyP:=fun kd F x A o p as mu mu' loc s v Q E hm hA hR I e K=>by
  refine hm (fun x=>wpAny (model X.prog X.w) A (eval x F.env) Q E s) fun Z=>?_
  ·
    rw [yQ] at e; replace K:=Kv.eqS K e
    exact xZ (m:=.spots 0) hX (fun Z=>rfl) (fun a ha hz=>⟨ha,[],0,[],by subst hz; exact Heap.get?_push_size _ rfl,rfl,by simp,by simp,by simp⟩) I K
theorem G6 {a:CE} (ha:aR X s₀ C n a):aR X s₀ C n (.frz a):=fun kd F x A o p as mu mu' loc s v Q E hm hA hR I e K=>by
  have h1:=hm
  ·
    rw [qa] at e
    refine bJ e fun x1 m1 e1 e2=>?_
    clear e
    refine bM e2 fun q0_ e3 e4=>?_
    clear e2
    obtain ⟨d,m2⟩:=q0_
    replace K:=Kv.eqP K e4
    refine ha h1 hA hR I e1 fun p1 bv s1 u1 sp1 sa1 I1 r1=>?_
    refine xe1 (qX 4 e3 I1 r1) fun p2 r_=>gD r_ fun sp2 I2 r2=>?_
    exact K p2 bv s1 u1 (sp1.trans sp2) sa1 I2 r2
noncomputable def nh (X:Amb) (s₀:Shared) (C:Calls) (n:Nat) (es:CEs):Prop:=∀ ⦃kd F l A o p as mu mu' loc s v pos Q E⦄,MtL F.names F.fz kd es l→Agree F.env kd→Rm n A→Inv X s₀ o p as mu F loc s →
  gj C loc mu es=some (v,mu')→Kv X s₀ o p as mu' F loc Q v→wpAny (model X.prog X.w) A (eval (.BoolOp .And l pos) F.env) Q E s
noncomputable def qn (X:Amb) (s₀:Shared) (C:Calls) (n:Nat) (es:CEs):Prop:=∀ ⦃kd F l A o p as mu mu' loc s v pos Q E⦄,MtL F.names F.fz kd es l→Agree F.env kd→Rm n A→Inv X s₀ o p as mu F loc s →
  iy C loc mu es=some (v,mu')→Kv X s₀ o p as mu' F loc Q v→wpAny (model X.prog X.w) A (eval (.BoolOp .Or l pos) F.env) Q E s
noncomputable def ln (X:Amb) (s₀:Shared) (C:Calls) (n:Nat) (es:CEs):Prop:=∀ ⦃kd F l A o p as mu mu' loc s v b pos whole⦄ ⦃Q:Bool→Shared→Prop⦄ ⦃E⦄,MtL F.names F.fz kd es l→Agree F.env kd→Rm n A→Inv X s₀ o p as mu F loc s →
  gj C loc mu es=some (v,mu')→df v=some b→(∀ p' as' s',Sub p p'→as <+: as'→Inv X s₀ o p' as' mu' F loc s'→Q b s')→wpAny (model X.prog X.w) A (isTrue (.BoolOp .And l pos) F.env whole) Q E s
noncomputable def nJ (X:Amb) (s₀:Shared) (C:Calls) (n:Nat) (es:CEs):Prop:=∀ ⦃kd F l A o p as mu mu' loc s v b pos whole⦄ ⦃Q:Bool→Shared→Prop⦄ ⦃E⦄,MtL F.names F.fz kd es l→Agree F.env kd→Rm n A→Inv X s₀ o p as mu F loc s →
  iy C loc mu es=some (v,mu')→df v=some b→(∀ p' as' s',Sub p p'→as <+: as'→Inv X s₀ o p' as' mu' F loc s'→Q b s')→wpAny (model X.prog X.w) A (isTrue (.BoolOp .Or l pos) F.env whole) Q E s
theorem Dz:nh X s₀ C n .nil:=fun kd F l A o p as mu mu' loc s v pos Q E hm hA hR I e K=>by rw [rp] at e; exact nS e
theorem F4:qn X s₀ C n .nil:=fun kd F l A o p as mu mu' loc s v pos Q E hm hA hR I e K=>by rw [sw] at e; exact nS e
theorem C9 {a:CE} (ha:aR X s₀ C n a):nh X s₀ C n (.cons a .nil):=fun kd F l A o p as mu mu' loc s v pos Q E hm hA hR I e K=>by
  refine hm (fun l=>wpAny (model X.prog X.w) A (eval (.BoolOp .And l pos) F.env) Q E s) fun x l hs h1 hr=>?_
  refine hr (fun l=>wpAny (model X.prog X.w) A (eval (.BoolOp .And (x::l) pos) F.env) Q E s) ?_; rw [rE] at e; exact BoolOp_one (ha h1 hA hR I e K)
theorem EF {a:CE} (ha:aR X s₀ C n a):qn X s₀ C n (.cons a .nil):=fun kd F l A o p as mu mu' loc s v pos Q E hm hA hR I e K=>by
  refine hm (fun l=>wpAny (model X.prog X.w) A (eval (.BoolOp .Or l pos) F.env) Q E s) fun x l hs h1 hr=>?_
  refine hr (fun l=>wpAny (model X.prog X.w) A (eval (.BoolOp .Or (x::l) pos) F.env) Q E s) ?_; rw [tP] at e; exact BoolOp_one (ha h1 hA hR I e K)
theorem AB {a b:CE} {r:CEs} (ha:aR X s₀ C n a) (hr:nh X s₀ C n (.cons b r)):nh X s₀ C n (.cons a (.cons b r)):=fun kd F l A o p as mu mu' loc s v pos Q E hm hA hR I e K=>by
  refine hm (fun l=>wpAny (model X.prog X.w) A (eval (.BoolOp .And l pos) F.env) Q E s) fun x l hs h1 h2=>?_
  refine h2 (fun l=>MtL F.names F.fz kd (.cons b r) l→wpAny (model X.prog X.w) A (eval (.BoolOp .And (x::l) pos) F.env) Q E s) (fun Z Z hs2 h3 h4 h2'=>?_) h2
  rw [pd] at e
  · refine bJ e fun x1 m1 e1 f1=>?_
    clear e
    refine bg f1 fun c e2 e3=>?_
    clear f1
    cases lf e2
    refine BoolOp_and (ha h1 hA hR I e1 fun p1 bv s1 u1 sp1 sa1 I1 r1=>?_)
    cases iU r1
    refine wpAny_truthy_bool ?_
    cases c with
    | true=>exact hr h2' hA hR I1 e3 (K.mono sp1 sa1)
    | false=>replace K:=Kv.eqS K e3; exact (K.mono sp1 sa1).now I1 dq
theorem CZ {a b:CE} {r:CEs} (ha:aR X s₀ C n a) (hr:qn X s₀ C n (.cons b r)):qn X s₀ C n (.cons a (.cons b r)):=fun kd F l A o p as mu mu' loc s v pos Q E hm hA hR I e K=>by
  refine hm (fun l=>wpAny (model X.prog X.w) A (eval (.BoolOp .Or l pos) F.env) Q E s) fun x l hs h1 h2=>?_
  refine h2 (fun l=>MtL F.names F.fz kd (.cons b r) l→wpAny (model X.prog X.w) A (eval (.BoolOp .Or (x::l) pos) F.env) Q E s) (fun Z Z hs2 h3 h4 h2'=>?_) h2
  rw [ry] at e
  · refine bJ e fun x1 m1 e1 f1=>?_
    clear e
    refine bg f1 fun c e2 e3=>?_
    clear f1
    cases lf e2
    refine BoolOp_or (ha h1 hA hR I e1 fun p1 bv s1 u1 sp1 sa1 I1 r1=>?_)
    cases iU r1
    refine wpAny_truthy_bool ?_
    cases c with
    | false=>exact hr h2' hA hR I1 e3 (K.mono sp1 sa1)
    | true=>replace K:=Kv.eqS K e3; exact (K.mono sp1 sa1).now I1 dq
theorem AH:ln X s₀ C n .nil:=fun kd F l A o p as mu mu' loc s v b pos whole Q E hm hA hR I e ht K=>by rw [rp] at e; exact nS e
theorem DS:nJ X s₀ C n .nil:=fun kd F l A o p as mu mu' loc s v b pos whole Q E hm hA hR I e ht K=>by rw [sw] at e; exact nS e
theorem zV {a:CE} (ha:eg X s₀ C n a):ln X s₀ C n (.cons a .nil):=fun kd F l A o p as mu mu' loc s v b pos whole Q E hm hA hR I e ht K=>by
  refine hm (fun l=>wpAny (model X.prog X.w) A (isTrue (.BoolOp .And l pos) F.env whole) Q E s) fun x l hs h1 hr=>?_
  refine hr (fun l=>wpAny (model X.prog X.w) A (isTrue (.BoolOp .And (x::l) pos) F.env whole) Q E s) ?_; rw [rE] at e
  refine isTrue_and (ha h1 hA hR I e ht fun p' as' s' a b' c=>?_)
  cases b with
  | true=>exact isTrue_and_nil (K p' as' s' a b' c)
  | false=>exact K p' as' s' a b' c
theorem Dw {a:CE} (ha:eg X s₀ C n a):nJ X s₀ C n (.cons a .nil):=fun kd F l A o p as mu mu' loc s v b pos whole Q E hm hA hR I e ht K=>by
  refine hm (fun l=>wpAny (model X.prog X.w) A (isTrue (.BoolOp .Or l pos) F.env whole) Q E s) fun x l hs h1 hr=>?_
  refine hr (fun l=>wpAny (model X.prog X.w) A (isTrue (.BoolOp .Or (x::l) pos) F.env whole) Q E s) ?_; rw [tP] at e
  refine isTrue_or (ha h1 hA hR I e ht fun p' as' s' a b' c=>?_)
  cases b with
  | false=>exact isTrue_or_nil (K p' as' s' a b' c)
  | true=>exact K p' as' s' a b' c
theorem xY {a b:CE} {r:CEs} (ha:eg X s₀ C n a) (hr:ln X s₀ C n (.cons b r)):ln X s₀ C n (.cons a (.cons b r)):=fun kd F l A o p as mu mu' loc s v bb pos whole Q E hm hA hR I e ht K=>by
  refine hm (fun l=>wpAny (model X.prog X.w) A (isTrue (.BoolOp .And l pos) F.env whole) Q E s) fun x l hs h1 h2=>?_
  rw [pd] at e
  · refine bJ e fun x1 m1 e1 f1=>?_
    clear e
    refine bg f1 fun c e2 e3=>?_
    clear f1
    refine isTrue_and (ha h1 hA hR I e1 e2 fun p1 bv s1 sp1 sa1 I1=>?_)
    cases c with
    | true=>exact hr h2 hA hR I1 e3 ht fun p' as' s' a b' c=>K p' as' s' (sp1.trans a) (sa1.trans b') c
    | false=>(refine dx e3 fun h1_ h2_=>?_; subst h1_; subst h2_); rw [e2] at ht; (replace ht:=iS ht; subst ht); exact K p1 bv s1 sp1 sa1 I1
theorem Bb {a b:CE} {r:CEs} (ha:eg X s₀ C n a) (hr:nJ X s₀ C n (.cons b r)):nJ X s₀ C n (.cons a (.cons b r)):=fun kd F l A o p as mu mu' loc s v bb pos whole Q E hm hA hR I e ht K=>by
  refine hm (fun l=>wpAny (model X.prog X.w) A (isTrue (.BoolOp .Or l pos) F.env whole) Q E s) fun x l hs h1 h2=>?_
  rw [ry] at e
  · refine bJ e fun x1 m1 e1 f1=>?_
    clear e
    refine bg f1 fun c e2 e3=>?_
    clear f1
    refine isTrue_or (ha h1 hA hR I e1 e2 fun p1 bv s1 sp1 sa1 I1=>?_)
    cases c with
    | false=>exact hr h2 hA hR I1 e3 ht fun p' as' s' a b' c=>K p' as' s' (sp1.trans a) (sa1.trans b') c
    | true=>(refine dx e3 fun h1_ h2_=>?_; subst h1_; subst h2_); rw [e2] at ht; (replace ht:=iS ht; subst ht); exact K p1 bv s1 sp1 sa1 I1
theorem Hn {es:CEs} (h:nh X s₀ C n es):aR X s₀ C n (.and es):=fun kd F x A o p as mu mu' loc s v Q E hm hA hR I e K=>by
  refine hm (fun x=>wpAny (model X.prog X.w) A (eval x F.env) Q E s) fun Z Z hl=>?_
  · rw [zi] at e; exact h hl hA hR I e K
theorem IS {es:CEs} (h:qn X s₀ C n es):aR X s₀ C n (.or es):=fun kd F x A o p as mu mu' loc s v Q E hm hA hR I e K=>by
  refine hm (fun x=>wpAny (model X.prog X.w) A (eval x F.env) Q E s) fun Z Z hl=>?_
  · rw [B1] at e; exact h hl hA hR I e K
theorem Gh:kY X s₀ C n .nil:=fun kd F l A o p as mu mu' loc s vs Q E hm hA hR I e K=>by
  refine hm (fun l=>wpAny (model X.prog X.w) A (spliced (eD l F.env)) Q E s) ?_
  rw [nb] at e; (refine dx e fun h1_ h2_=>?_; subst h1_; subst h2_); exact Calls.spliced_nil (K p as s [] Sub.refl (List.prefix_refl _) I rfl)
theorem DN {a:CE} {r:CEs} (ha:aR X s₀ C n a) (hr:kY X s₀ C n r):kY X s₀ C n (.cons a r):=fun kd F l A o p as mu mu' loc s vs Q E hm hA hR I e K=>by
  refine hm (fun l=>wpAny (model X.prog X.w) A (spliced (eD l F.env)) Q E s) fun Z Z hs h1 h2=>?_
  rw [oJ] at e
  refine bJ e fun x1 m1 e1 f1=>?_
  clear e
  refine bJ f1 fun x2 m2 e2 e3=>?_
  clear f1
  (refine dx e3 fun h1_ h2_=>?_; subst h1_; subst h2_)
  exact Calls.spliced_cons (ha h1 hA hR I e1 fun p1 bv s1 u1 sp1 sa1 I1 r1=>hr h2 hA hR I1 e2 fun p2 eH s2 us sp2 sa2 I2 r2=>K p2 eH s2 (u1::us) (sp1.trans sp2) (sa1.trans sa2) I2 ⟨u1,us,rfl,r1.mono sp2 sa2,r2⟩)
end Mine.Internal
namespace Mine.Internal
variable {X:Amb} {P:Fn→FDef} {s₀:Shared} {n:Nat} {C:Calls}
noncomputable def rC:List (Option Expr)→List Expr→Env→Pos→List (Sem Value × Sem Value)
  | some k::ks,v::vs,env,pos=>(eval k env,do let x ← eval v env; standAt pos; pure x)::rC ks vs env pos
  | _,_,_,_=>[]
theorem Be {k:Expr} {ks:List (Option Expr)} {v:Expr} {vs:List Expr} {env:Env} {pos:Pos}:rC (some k::ks) (v::vs) env pos=(eval k env,do let x ← eval v env; standAt pos; pure x)::rC ks vs env pos:=rfl
theorem rz {env:Env} {pos:Pos}:∀ {ws:List W} {ks:List (Option Expr)} {l:List Expr},gM ws ks→l.length=ws.length →
    (evalEachOpt ks env).zip ((evalEach l env).map fun v=>do let x ← v; standAt pos; pure x)=(rC ks l env pos).map (fun p=>(some p.1,p.2))∧(rC ks l env pos).length=ws.length
  | [],ks,l,h,e=>by
    have h:ks=[]:=h
    have e:l=[]:=by simpa using e
    subst h; subst e
    exact ⟨rfl,rfl⟩
  | w::ws,ks,l,h,e=>by
    obtain ⟨k,q,r,rfl,h⟩:=h
    cases l with
    | nil=>simp at e
    | cons v l =>
      obtain ⟨a,b⟩:=rz (env:=env) (pos:=pos) h (by simpa using e:l.length=ws.length)
      refine ⟨?_,by rw [Be,List.length_cons,List.length_cons,b]⟩
      rw [Be,List.map_cons,← a]
      rfl
noncomputable def ss (X:Amb) (s₀:Shared) (C:Calls) (n:Nat) (es:CEs):Prop:=∀ ⦃kd F l ks ws pos A o p as mu mu' loc s vs⦄ ⦃Q:List (Value × Value)→Shared→Prop⦄ ⦃E⦄,MtL F.names F.fz kd es l→gM ws ks→ws.length=vs.length→Agree F.env kd→Rm n A→Inv X s₀ o p as mu F loc s →
  cS C loc mu es=some (vs,mu')→(∀ p' as' s' prv kvs,Sub p p'→as <+: as'→Inv X s₀ o p' as' mu' F loc s'→Carries (strKind X.prog X.w) prv kvs→kvs.map (·.1)=ws.map W.str→VRels X p' as' vs (kvs.map (·.2))→Q prv s') →
  wpAny (model X.prog X.w) A (evalPairs (rC ks l F.env pos)) Q E s
theorem FK:ss X s₀ C n .nil:=fun kd F l ks ws pos A o p as mu mu' loc s vs Q E hm hk hw hA hR I e K=>by
  refine hm (fun l=>wpAny (model X.prog X.w) A (evalPairs (rC ks l F.env pos)) Q E s) ?_
  rw [nb] at e; (refine dx e fun h1_ h2_=>?_; subst h1_; subst h2_)
  have:ws=[]:=by simpa using hw
  subst this
  have hk:ks=[]:=hk
  subst hk
  exact evalPairs_nil (K p as s [] [] Sub.refl (List.prefix_refl _) I trivial rfl rfl)
theorem DB {a:CE} {r:CEs} (ha:aR X s₀ C n a) (hr:ss X s₀ C n r):ss X s₀ C n (.cons a r):=fun kd F l ks ws pos A o p as mu mu' loc s vs Q E hm hk hw hA hR I e K=>by
  refine hm (fun l=>wpAny (model X.prog X.w) A (evalPairs (rC ks l F.env pos)) Q E s) fun Z Z hs h1 h2=>?_
  rw [oJ] at e
  refine bJ e fun x1 m1 e1 f1=>?_
  clear e
  refine bJ f1 fun x2 m2 e2 e3=>?_
  clear f1
  (refine dx e3 fun h1_ h2_=>?_; subst h1_; subst h2_)
  cases ws with
  | nil=>simp at hw
  | cons w ws =>
    obtain ⟨kk,q,rs,rfl,hk⟩:=hk
    rw [Be]
    refine evalPairs_cons (Calls.Constant_str (wpAny_bind (ha h1 hA hR (I.tok _) e1 fun p1 bv s1 u1 sp1 sa1 I1 r1=>wpAny_bind (wpAny_standAt (wpAny_pure (hr h2 hk (by simpa using hw) hA hR I1 e2 fun p2 eH s2 prv kvs sp2 sa2 I2 cc ck cv=>?_))))))
    exact K p2 eH s2 ((.str w.str s.toks,u1)::prv) ((w.str,u1)::kvs) (sp1.trans sp2) (sa1.trans sa2) I2 ⟨strKind_is _ _ _ _,rfl,cc⟩ (by rw [List.map_cons,List.map_cons,ck]) ⟨u1,_,rfl,r1.mono sp2 sa2,cv⟩
theorem va:∀ {es:CEs} {loc:ag} {mu:Mu} {vs:List Val} {m:Mu} {names fz:List Str} {kd:Kd} {l:List Expr},cS C loc mu es=some (vs,m)→MtL names fz kd es l→l.length=vs.length
  | .nil,_,_,_,_,_,_,_,_,e,h=>by rw [nb] at e; (refine dx e fun h1_ h2_=>?_; subst h1_; subst h2_); exact h (fun l=>l.length=0) rfl
  | .cons _ _,_,_,_,_,_,_,_,_,e,h=>by
    rw [oJ] at e
    refine bJ e fun x1 m1 e1 f1=>?_
    clear e
    refine bJ f1 fun x2 m2 e2 e3=>?_
    clear f1
    (refine dx e3 fun h1_ h2_=>?_; subst h1_; subst h2_)
    refine h (fun l=>l.length=_) fun Z Z Z Z h=>?_
    rw [List.length_cons,List.length_cons,va e2 h]
theorem ro {o p:aE} {as:As} {mu mu':Mu} {F:Fm} {loc:ag} {s:Shared} {Q:Value→Shared→Prop} {fr:Bool} {ws:List W} {vs:List Val} {v:Val} {a:Addr} {kvs:List (Str × Value)}
    (e:(if fr=true then (bN vs).map fun ds=>((.d (.dct ws ds):Val),mu) else some (.r mu.length,mu++[.sdict ws vs]))=some (v,mu')) (I:Inv X s₀ o p as mu F loc s) (al:cH X o p as mu F a) (ns:(a == sysModules)=false)
    (hd:s.heap.DictOf (strKind X.prog X.w) a kvs) (hk:kvs.map (·.1)=ws.map W.str) (hv:VRels X p as vs (kvs.map (·.2))) (K:Kv X s₀ o p as mu' F loc Q v):Q (.ref a) s:=by
  obtain ⟨f1,f2,f3⟩:=al
  refine xe1 (Heap.dictOf_iff.mp hd) fun ob r_=>aN r_ fun eo io=>?_
  cases fr with
  | true =>
    refine xe1 (Option.map_eq_some_iff.mp (show (bN vs).map (fun ds=>((.d (.dct ws ds):Val),mu))=some (v,mu') from e)) fun ds r_=>aN r_ fun e1 e2=>?_
    (refine eJ e2 fun h1_ h2_=>?_; subst h1_; subst h2_)
    refine K _ _ _ _ (Sub.put1 f1) (List.prefix_refl _) (I.toP eo f1 f2 f3) ?_
    show DRel X _ (.dct ws ds) _
    rw [Fo]
    exact ⟨a,ob,kvs,rfl,ns,b8,io,hk,(VRels.toD e1 hv).mono (Sub.put1 f1)⟩
  | false =>
    (refine dx e fun h1_ h2_=>?_; subst h1_; subst h2_)
    refine K _ _ _ _ Sub.refl (List.prefix_append _ [(a,0)]) (I.toM (q:=(a,0)) (m:=.sdict ws vs) ⟨ns,kvs,hd,hk,hv.mono Sub.refl (List.prefix_append _ _)⟩ (by simp [zj]) (fun b hb=>?_) fun b hb=>?_) ⟨(a,0),by rw [← I.len]; exact List.getElem?_concat_length ..,rfl⟩
    · simp only [zj,List.mem_singleton] at hb; rw [hb]; exact f3
    · simp only [zj,List.mem_singleton] at hb; rw [hb]; exact ⟨f1,f2,_,eo⟩
theorem W.str_inj_nodup:∀ {ws:List W},ws.Nodup→(ws.map W.str).Nodup:=fun h=>h.map (f:=W.str) fun a b hab e=>hab (W.inj e)
theorem uZ {fr:Bool} {ws:List W} {es:CEs} (hX:AmbOK X P) (h:ss X s₀ C n es):aR X s₀ C n (.sdisp fr ws es):=fun kd F x A o p as mu mu' loc s v Q E hm hA hR I e K=>by
  refine hm (fun x=>wpAny (model X.prog X.w) A (eval x F.env) Q E s) fun Z Z Z hk hl=>?_
  ·
    rw [Ag] at e
    refine bJ e fun vs m e1 e2=>?_
    clear e
    dsimp only at e2
    split at e2
    · rename_i hc
      obtain ⟨hlen,hnd,h8⟩:=hc
      have hll:=va e1 hl
      cases ws with
      | nil =>
        have hk:_=[]:=hk
        have hvs:vs=[]:=by simpa using hlen.symm
        subst hvs
        cases es with
        | cons _ _=>exact (hl (fun l=>l.length=0→False) (fun Z Z Z Z Z h=>nomatch h) hll).elim
        | nil =>
          refine hl (fun l=>wpAny (model X.prog X.w) A (eval (.Dict _ l _) F.env) Q E s) ?_
          rw [nb] at e1; (refine dx e1 fun h1_ h2_=>?_; subst h2_)
          rw [hk]
          rw [eval_Dict_empty]
          refine wpAny_bind (wpAny_standAt (wpAny_newObj_type ?_))
          exact ro e2 (I.push _) (I.fresh_of (Nat.le_refl _)) (I.not_sys hX.sys (Nat.le_refl _)) (Heap.DictOf.new _) rfl rfl K
      | cons w ws =>
        refine aN (rz (env:=F.env) (pos:=by assumption) hk (by rw [hll,hlen])) fun sh shl=>?_
        refine wpAny_Dict_pairs (knd:=strKind X.prog X.w) sh (fun q=>by rw [q] at shl; simp at shl) (by rw [shl]; exact lb h8 rfl) ?_
        have I1:=I.push { cls:=.type "dict", data:=.dict #[] }
        have al:=I.fresh_of (a:=s.heap.objs.size) (Nat.le_refl _)
        have IH:=I1.hold (l:=[s.heap.objs.size]) (dK (al))
        have hd0:(s.heap.push { cls:=.type "dict", data:=.dict #[] }).get? s.heap.objs.size=some { cls:=.type "dict", data:=.dict #[] }:=Heap.get?_push_size _ rfl
        refine h hl hk hlen hA hR IH e1 fun p' as' s' prv kvs sp sa I' cc ck cv=>⟨kvs,cc,?_,fun h' hd hs=>?_⟩
        · have:s'.heap.get? s.heap.objs.size=some { cls:=.type "dict", data:=.dict #[] }:=I'.ole _ _ ((dv (List.mem_singleton.mpr rfl)).trans hd0)
          exact ⟨_,#[],0,this,⟨rfl,rfl,rfl⟩,rfl,fun Z he=>by simp at he,Pairs.nil,List.nodup_nil⟩
        · obtain ⟨I2,al2⟩:=I'.unhold ((dK (al.2.1))) ((dK (⟨_,hd0⟩))) (fun y c hc hm=>I1.no_cell (show cH X o p as mu F _ from al) y c hc (by simpa using hm))
          obtain ⟨a1,_⟩:=al2 _ (.head _)
          have I3:=(I2.alien (l:=[s.heap.objs.size]) (h':=h') ((dK (a1))) fun b hb ob e=>(hs.2 b (by simpa using hb)).trans e).tok (s'.toks+prv.length)
          rw [merged_nil_of_nodup _ (by rw [ck]; exact W.str_inj_nodup hnd)] at hd
          exact ro e2 I3 a1 (I.not_sys hX.sys (Nat.le_refl _)) hd ck cv (K.mono sp sa)
    · exact nS e2
end Mine.Internal
namespace Mine.Internal
variable {X:Amb} {P:Fn→FDef} {s₀:Shared} {n:Nat} {C:Calls}
theorem sn {x:Expr} {env:Env} {whole:Sem Value} (h:m8 x):isTrue x env whole=(do let v ← whole; standAt x.pos; holding [v] (truthy v)):=by
  cases x
  all_goals first | rfl | exact (iD h)
theorem cG {e:CE} (h:aR X s₀ C n e) (hp:EY e=true):eg X s₀ C n e:=fun kd F x A o p as mu mu' loc s v b Q E hm hA hR I e ht K=>by
  cases lf ht
  refine isTrue_plain (h hm hA hR I e fun p1 bv s1 u1 sp1 sa1 I1 r1=>?_) (sn (zZ hm hp))
  cases iU r1
  exact wpAny_truthy_bool (K p1 bv s1 sp1 sa1 I1)
theorem GS {a:CE}:eg X s₀ C n (.neg a):=fun kd F x A o p as mu mu' loc s v b Q E hm hA hR I e ht K=>by
  rw [xR] at e
  refine bJ e fun y m Z e2=>bM e2 fun i Z e3=>eJ e3 fun e4 Z=>?_
  clear e
  rw [← e4] at ht; exact nS ht
theorem G5:eg X s₀ C n .any:=fun kd F x A o p as mu mu' loc s v b Q E hm hA hR I e ht K=>by rw [pB] at e; exact nS e
theorem Hf {a:CE} (h:eg X s₀ C n a):eg X s₀ C n (.not a):=fun kd F x A o p as mu mu' loc s v b Q E hm hA hR I e ht K=>by
  refine hm (fun x=>wpAny (model X.prog X.w) A (isTrue x F.env (eval x F.env)) Q E s) fun Z Z h1=>?_
  ·
    rw [yE] at e
    refine bJ e fun x1 m1 e1 e2=>?_
    clear e
    refine bM e2 fun c e3 e4=>?_
    clear e2
    (refine eJ e4 fun h1_ h2_=>?_; subst h1_; subst h2_)
    (replace ht:=iS ht; subst ht)
    exact isTrue_not (h h1 hA hR I e1 e3 fun p1 bv s1 sp1 sa1 I1=>K p1 bv s1 sp1 sa1 I1)
theorem HQ {es:CEs} (h:ln X s₀ C n es):eg X s₀ C n (.and es):=fun kd F x A o p as mu mu' loc s v b Q E hm hA hR I e ht K=>by
  refine hm (fun x=>wpAny (model X.prog X.w) A (isTrue x F.env (eval x F.env)) Q E s) fun Z Z hl=>?_
  · rw [zi] at e; exact h hl hA hR I e ht K
theorem Ja {es:CEs} (h:nJ X s₀ C n es):eg X s₀ C n (.or es):=fun kd F x A o p as mu mu' loc s v b Q E hm hA hR I e ht K=>by
  refine hm (fun x=>wpAny (model X.prog X.w) A (isTrue x F.env (eval x F.env)) Q E s) fun Z Z hl=>?_
  · rw [B1] at e; exact h hl hA hR I e ht K
theorem G3 {t a b:CE} (ht:eg X s₀ C n t) (ha:eg X s₀ C n a) (hb:eg X s₀ C n b):eg X s₀ C n (.ifx t a b):=fun kd F x A o p as mu mu' loc s v bb Q E hm hA hR I e hv K=>by
  refine hm (fun x=>wpAny (model X.prog X.w) A (isTrue x F.env (eval x F.env)) Q E s) fun Z Z Z Z h1 h2 h3=>?_
  ·
    rw [zw] at e
    refine bJ e fun x1 m1 e1 e2=>?_
    clear e
    refine bg e2 fun c e3 e4=>?_
    clear e2
    refine isTrue_IfExp (ht h1 hA hR I e1 e3 fun p1 bv s1 sp1 sa1 I1=>?_)
    cases c with
    | true=>exact ha h2 hA hR I1 e4 hv fun p' as' s' a b c=>K p' as' s' (sp1.trans a) (sa1.trans b) c
    | false=>exact hb h3 hA hR I1 e4 hv fun p' as' s' a b c=>K p' as' s' (sp1.trans a) (sa1.trans b) c
theorem Hc {op:Cop} {a b:CE} (ha:aR X s₀ C n a) (hb:aR X s₀ C n b):eg X s₀ C n (.cmp op a b):=fun kd F x A o p as mu mu' loc s v bb Q E hm hA hR I e hv K=>by
  refine hm (fun x=>wpAny (model X.prog X.w) A (isTrue x F.env (eval x F.env)) Q E s) fun Z Z Z hs h1 h2=>?_
  ·
    rw [yk] at e
    refine bJ e fun x1 m1 e1 f1=>?_
    clear e
    refine bJ f1 fun x2 m2 e2 e3=>?_
    clear f1
    refine bM e3 fun c e4 e5=>?_
    clear e3
    (refine eJ e5 fun h1_ h2_=>?_; subst h1_; subst h2_)
    (replace hv:=iS hv; subst hv)
    refine wpAny_isTrue_Compare1 (ha h1 hA hR I e1 fun p1 bv s1 u1 sp1 sa1 I1 r1=>hb h2 hA hR I1 e2 fun p2 eH s2 u2 sp2 sa2 I2 r2=>tz e4 hR I2 (r1.mono sp2 sa2) r2 fun p' as' s' u a b c r=>?_) (pS hs)
    cases iU r
    exact wpAny_truthy_bool (K p' as' s' (sp1.trans (sp2.trans a)) (sa1.trans (sa2.trans b)) c)
theorem HK {a:CE} (ha:aR X s₀ C n a):eg X s₀ C n (.isN a):=fun kd F x A o p as mu mu' loc s v bb Q E hm hA hR I e hv K=>by
  refine hm (fun x=>wpAny (model X.prog X.w) A (isTrue x F.env (eval x F.env)) Q E s) fun Z Z Z Z h1=>?_
  ·
    rw [yV] at e
    refine bJ e fun x1 m1 e1 e2=>bM e2 fun b e3 e4=>?_
    clear e
    (refine eJ e4 fun h1_ h2_=>?_; subst h1_; subst h2_); (replace hv:=iS hv; subst hv)
    refine wpAny_isTrue_Compare1 (ha h1 hA hR I e1 fun p1 bv s1 u1 sp1 sa1 I1 r1=>Constant_none (is_none ?_)) rfl
    rw [nH r1 e3]
    exact wpAny_truthy_bool (K p1 bv s1 sp1 sa1 I1)
theorem Es {a:CE} (ha:aR X s₀ C n a):eg X s₀ C n (.notN a):=fun kd F x A o p as mu mu' loc s v bb Q E hm hA hR I e hv K=>by
  refine hm (fun x=>wpAny (model X.prog X.w) A (isTrue x F.env (eval x F.env)) Q E s) fun Z Z Z Z h1=>?_
  ·
    rw [vh] at e
    refine bJ e fun x1 m1 e1 e2=>bM e2 fun b e3 e4=>?_
    clear e
    (refine eJ e4 fun h1_ h2_=>?_; subst h1_; subst h2_); (replace hv:=iS hv; subst hv)
    refine wpAny_isTrue_Compare1 (ha h1 hA hR I e1 fun p1 bv s1 u1 sp1 sa1 I1 r1=>Constant_none (isNot_none ?_)) rfl
    rw [nH r1 e3]
    exact wpAny_truthy_bool (K p1 bv s1 sp1 sa1 I1)
theorem HE {a:CE} (h:eg X s₀ C n a):eg X s₀ C n (.frz a):=fun kd F x A o p as mu mu' loc s v b Q E hm hA hR I e ht K=>by
  have h1:=hm
  ·
    rw [qa] at e
    refine bJ e fun x1 m1 e1 e2=>?_
    clear e
    refine bM e2 fun q0_ e3 e4=>?_
    clear e2
    obtain ⟨d,m2⟩:=q0_
    cases e4
    cases lf ht
    have:x1=.d (.bool b)∧mu'=m1:=by
      cases x1 with
      | d x=>have e3:some (x,m1)=some (.bool b,mu'):=e3; (refine dx e3 fun h1_ h2_=>?_; rw [h1_]; rw [h2_]); exact ⟨rfl,rfl⟩
      | clo k=>exact nS e3
      | r i =>
        refine bg (x:=m1[i]?) (f:=fun ob=>wt (q9 (freeze 3)) i m1 ob) e3 fun ob Z e4=>?_
        cases ob with
        | frz d=>exact absurd (by rw [(dx (y4 e4).2 fun a Z=>a:d=.bool b)]; rfl) (y4 e4).1
        | spots n=>exact dx (show some (Dat.spots n,_)=some (Dat.bool b,mu') from e4) fun a Z=>nS (congrArg dB a)
        | list xs=>exact bJ (x:=q9 (freeze 3) m1 xs) e4 fun ds m3 Z e5=>bM (x:=(m3[i]?).bind oL) e5 fun Z Z e6=>eJ e6 fun a Z=>nS (congrArg dB a)
        | inst c fs xs=>exact bJ (x:=q9 (freeze 3) m1 xs) e4 fun ds m3 Z e5=>bM (x:=(m3[i]?).bind oO) e5 fun Z Z e6=>eJ e6 fun a Z=>nS (congrArg dB a)
        | sdict _ _=>exact nS e4
        | idict _=>exact nS e4
    obtain ⟨rfl,rfl⟩:=this
    exact h h1 hA hR I e1 rfl K
mutual
theorem aG (hX:AmbOK X P) (hC:cr X s₀ C n):∀ e:CE,aR X s₀ C n e
  | .any=>HL
  | .loc i=>Bj
  | .byte=>xC hX
  | .int i=>BZ
  | .str w=>Bk
  | .bool b=>xA
  | .none=>yR
  | .tup es=>Bp (gh hX hC es)
  | .list q es=>zk (gh hX hC es)
  | .bin q o a b=>B0 (aG hX hC a) (aG hX hC b)
  | .neg a=>Hh (aG hX hC a)
  | .cmp o a b=>GW (aG hX hC a) (aG hX hC b)
  | .isN a=>G4 (aG hX hC a)
  | .notN a=>GK (aG hX hC a)
  | .and es=>Hn (yB hX hC es)
  | .or es=>IS (Ct hX hC es)
  | .not a=>Ht (aG hX hC a)
  | .ifx t a b=>GU (gk hX hC t) (aG hX hC a) (aG hX hC b)
  | .attr e f=>zy hX (aG hX hC e)
  | .sub e i=>Ck (aG hX hC e) (aG hX hC i)
  | .slo e i=>Bv (aG hX hC e) (aG hX hC i)
  | .call f es=>xF hX hC (gh hX hC es)
  | .new c es=>Cm hX hC (gh hX hC es)
  | .meth e f es=>yi hX hC (aG hX hC e) (gh hX hC es)
  | .bi b es=>F8 hX (gh hX hC es)
  | .toList q e=>ui hX (aG hX hC e)
  | .app e x=>B3 (aG hX hC e) (aG hX hC x)
  | .ext e x=>Ch (aG hX hC e) (aG hX hC x)
  | .pop0 e=>zp (aG hX hC e)
  | .get e k=>Bm (aG hX hC e) (aG hX hC k)
  | .getd e k d=>xP (aG hX hC e) (aG hX hC k) (aG hX hC d)
  | .popd e k=>zo (aG hX hC e) (aG hX hC k)
  | .comp q elt ts it=>yM (aG hX hC it) (aG hX hC elt)
  | .compif elt ts it c=>tE (aG hX hC it) (aG hX hC elt) (gk hX hC c)
  | .lam i=>B7 hX
  | .callv i x=>vk hX (aG hX hC x)
  | .emptyI=>tv hX
  | .emptyP=>sL hX
  | .sdisp fr ws es=>uZ hX (wR hX hC es)
  | .frz e=>G6 (aG hX hC e)
theorem gk (hX:AmbOK X P) (hC:cr X s₀ C n):∀ e:CE,eg X s₀ C n e
  | .any=>G5
  | .loc i=>cG Bj rfl
  | .byte=>cG (xC hX) rfl
  | .int i=>cG BZ rfl
  | .str w=>cG Bk rfl
  | .bool b=>cG xA rfl
  | .none=>cG yR rfl
  | .tup es=>cG (Bp (gh hX hC es)) rfl
  | .list q es=>cG (zk (gh hX hC es)) rfl
  | .bin q o a b=>cG (B0 (aG hX hC a) (aG hX hC b)) rfl
  | .neg a=>GS
  | .cmp o a b=>Hc (aG hX hC a) (aG hX hC b)
  | .isN a=>HK (aG hX hC a)
  | .notN a=>Es (aG hX hC a)
  | .and es=>HQ (vm hX hC es)
  | .or es=>Ja (yu hX hC es)
  | .not a=>Hf (gk hX hC a)
  | .ifx t a b=>G3 (gk hX hC t) (gk hX hC a) (gk hX hC b)
  | .attr e f=>cG (zy hX (aG hX hC e)) rfl
  | .sub e i=>cG (Ck (aG hX hC e) (aG hX hC i)) rfl
  | .slo e i=>cG (Bv (aG hX hC e) (aG hX hC i)) rfl
  | .call f es=>cG (xF hX hC (gh hX hC es)) rfl
  | .new c es=>cG (Cm hX hC (gh hX hC es)) rfl
  | .meth e f es=>cG (yi hX hC (aG hX hC e) (gh hX hC es)) rfl
  | .bi b es=>cG (F8 hX (gh hX hC es)) rfl
  | .toList q e=>cG (ui hX (aG hX hC e)) rfl
  | .app e x=>cG (B3 (aG hX hC e) (aG hX hC x)) rfl
  | .ext e x=>cG (Ch (aG hX hC e) (aG hX hC x)) rfl
  | .pop0 e=>cG (zp (aG hX hC e)) rfl
  | .get e k=>cG (Bm (aG hX hC e) (aG hX hC k)) rfl
  | .getd e k d=>cG (xP (aG hX hC e) (aG hX hC k) (aG hX hC d)) rfl
  | .popd e k=>cG (zo (aG hX hC e) (aG hX hC k)) rfl
  | .comp q elt ts it=>cG (yM (aG hX hC it) (aG hX hC elt)) rfl
  | .compif elt ts it c=>cG (tE (aG hX hC it) (aG hX hC elt) (gk hX hC c)) rfl
  | .lam i=>cG (B7 hX) rfl
  | .callv i x=>cG (vk hX (aG hX hC x)) rfl
  | .emptyI=>cG (tv hX) rfl
  | .emptyP=>cG (sL hX) rfl
  | .sdisp fr ws es=>cG (uZ hX (wR hX hC es)) rfl
  | .frz e=>HE (gk hX hC e)
theorem gh (hX:AmbOK X P) (hC:cr X s₀ C n):∀ es:CEs,kY X s₀ C n es
  | .nil=>Gh
  | .cons e r=>DN (aG hX hC e) (gh hX hC r)
theorem wR (hX:AmbOK X P) (hC:cr X s₀ C n):∀ es:CEs,ss X s₀ C n es
  | .nil=>FK
  | .cons e r=>DB (aG hX hC e) (wR hX hC r)
theorem yB (hX:AmbOK X P) (hC:cr X s₀ C n):∀ es:CEs,nh X s₀ C n es
  | .nil=>Dz
  | .cons e .nil=>C9 (aG hX hC e)
  | .cons e (.cons b r)=>AB (aG hX hC e) (yB hX hC (.cons b r))
theorem Ct (hX:AmbOK X P) (hC:cr X s₀ C n):∀ es:CEs,qn X s₀ C n es
  | .nil=>F4
  | .cons e .nil=>EF (aG hX hC e)
  | .cons e (.cons b r)=>CZ (aG hX hC e) (Ct hX hC (.cons b r))
theorem vm (hX:AmbOK X P) (hC:cr X s₀ C n):∀ es:CEs,ln X s₀ C n es
  | .nil=>AH
  | .cons e .nil=>zV (gk hX hC e)
  | .cons e (.cons b r)=>xY (gk hX hC e) (vm hX hC (.cons b r))
theorem yu (hX:AmbOK X P) (hC:cr X s₀ C n):∀ es:CEs,nJ X s₀ C n es
  | .nil=>DS
  | .cons e .nil=>Dw (gk hX hC e)
  | .cons e (.cons b r)=>Bb (gk hX hC e) (yu hX hC (.cons b r))
end
end Mine.Internal
namespace Mine.Internal
variable {X:Amb} {P:Fn→FDef} {s₀:Shared} {n:Nat} {C:Calls}
theorem uQ (e:CE) (h:Bx e=false→False):(∃ a,e=.frz a)∨e=.any∨(∃ q el ts it,e=.comp q el ts it)∨∃ el ts it c,e=.compif el ts it c:=by
  revert h
  cases e with
  | frz a=>exact fun Z=>.inl ⟨a,rfl⟩
  | any=>exact fun Z=>.inr (.inl rfl)
  | comp q el ts it=>exact fun Z=>.inr (.inr (.inl ⟨q,el,ts,it,rfl⟩))
  | compif el ts it c=>exact fun Z=>.inr (.inr (.inr ⟨el,ts,it,c,rfl⟩))
  | _=>exact fun h=>(h rfl).elim
theorem AW {A:Around} {F:Fm} {kd:Kd} {use:Option (Value→Sem Unit)} {Q E:Value→Shared→Prop} {elt:Expr} {gens:List Comprehension} {sc:Scope} {pos pos':Pos} (hX:AmbOK X P) (hC:cr X s₀ C n) (hA:Agree F.env kd) (hR:Rm n A) :
    ∀ (k:Nat) (e:CE) {o p:aE} {as:As} {mu mu':Mu} {loc:ag} {s:Shared} {v:Val},fd e=k→Mt F.names F.fz kd e (.ListComp elt gens sc pos)→Inv X s₀ o p as mu F loc s→ev C loc mu e=some (v,mu') →
      (∀ p' as' s' u Ca m,Sub p p'→as <+: as'→Inv X s₀ o p' as' mu' F loc s'→VRel X p' as' v u→cH X o p' as' mu' F Ca→s'.heap.Ns Ca m→compPost (model X.prog X.w) A E use Q u Ca (.ok .next) s') →
      wpAny (model X.prog X.w) A (comprehension (.ListComp elt gens sc pos) sc F.env pos' (newList []) (firstAsync gens) (firstIter gens F.env) use) Q E s:=by
  intro k e
  induction k generalizing e with
  | zero =>
    intro o p as mu mu' loc s v hk hm I e0 K
    rcases uQ e (fun h=>iD (sM hm h)) with ⟨a,rfl⟩ | rfl | ⟨q,el,ts,it,rfl⟩ | ⟨el,ts,it,c,rfl⟩
    · cases hk
    · rw [pB] at e0; exact nS e0
    · refine hm (fun Y=>Expr.ListComp elt gens sc pos=Y→wpAny (model X.prog X.w) A (comprehension (.ListComp elt gens sc pos) sc F.env pos' (newList []) (firstAsync gens) (firstIter gens F.env) use) Q E s) (fun Z Z Z Z Z hS hy ht hx hq=>?_) rfl
      cases hq
      rw [uV] at e0; exact ny (q:=q) (c:=none) (use:=use) (aG hX hC it) (aG hX hC el) (fun c' h=>by exact nS h) hS hy ht hx rfl hA hR I e0 K
    · refine hm (fun Y=>Expr.ListComp elt gens sc pos=Y→wpAny (model X.prog X.w) A (comprehension (.ListComp elt gens sc pos) sc F.env pos' (newList []) (firstAsync gens) (firstIter gens F.env) use) Q E s) (fun Z Z Z Z Z Z hS hy ht hx hz hq=>?_) rfl
      cases hq
      rw [rk] at e0; exact ny (q:=false) (c:=some c) (use:=use) (aG hX hC it) (aG hX hC el) (fun c' h=>by (replace h:=iS h; subst h); exact gk hX hC c) hS hy ht hx ⟨_,rfl,hz⟩ hA hR I e0 K
  | succ k ih =>
    intro o p as mu mu' loc s v hk hm I e0 K
    rcases uQ e (fun h=>iD (sM hm h)) with ⟨a,rfl⟩ | rfl | ⟨q,el,ts,it,rfl⟩ | ⟨el,ts,it,c,rfl⟩
    · rw [qa] at e0
      refine bJ e0 fun x1 m1 e1 e2=>bM e2 fun dm e3 e4=>?_
      clear e0
      (refine eJ e4 fun h1_ h2_=>?_; subst h1_; subst h2_)
      refine ih a (Nat.succ.inj hk) hm I e1 fun p1 bv s1 u1 Ca m sp1 sa1 I1 r1 al hn=>?_
      have IK:=I1.hold (l:=[Ca]) (dK (al))
      obtain ⟨obC,es,ep,eC,r⟩:=id hn
      refine xe1 (qX 4 e3 IK r1) fun p2 r_=>gD r_ fun sp2 I2 r2=>?_
      obtain ⟨I3,al3⟩:=I2.unhold ((dK (al.2.1))) ((dK (⟨_,eC⟩))) (fun y c hc hm=>I1.no_cell al y c hc (by simpa using hm))
      exact K p2 bv s1 u1 Ca m (sp1.trans sp2) sa1 I3 r2 (al3 Ca (.head _)).1 hn
    · cases hk
    · cases hk
    · cases hk
set_option tactic.hygienic true in
theorem uC (x:Expr) (t:Str) (q:Pos) (line:Nat) (env:Env) :
    swapsWith x (some (.Name t q)) line env=pure false∨(swapsWith x (some (.Name t q)) line env=pure true∧∃ elt gens sc pos,x=.ListComp elt gens sc pos)∨(∃ a b c d,x=.SetComp a b c d)∨(∃ a b c d e,x=.DictComp a b c d e):=by
  cases x
  case ListComp elt gens sc pos =>
    have:∃ b:Bool,swapsWith (.ListComp elt gens sc pos) (some (.Name t q)) line env=pure b:=⟨_,rfl⟩
    obtain ⟨b,hb⟩:=this
    cases b
    · exact .inl hb
    · exact .inr (.inl ⟨hb,_,_,_,_,rfl⟩)
  case SetComp=>exact .inr (.inr (.inl ⟨_,_,_,_,rfl⟩))
  case DictComp=>exact .inr (.inr (.inr ⟨_,_,_,_,_,rfl⟩))
  all_goals exact .inl rfl
theorem xM {names fz:List Str} {kd:Kd} {e:CE} {x:Expr} {loc:ag} {mu:Mu} {r:Val × Mu} (h:Mt names fz kd e x) (he:ev C loc mu e=some r):(∀ a b c d,x ≠ .SetComp a b c d)∧(∀ a b c d e,x ≠ .DictComp a b c d e) :=
  ⟨fun Z Z Z Z hx=>by have:=(lU _ rfl h he).2.2; rw [hx] at this; exact iD this,fun Z Z Z Z Z hx=>by have:=(lU _ rfl h he).2.2; rw [hx] at this; exact iD this⟩
theorem Dr {names fz:List Str} {kd:Kd} {e:CE} {x:Expr} {loc:ag} {mu:Mu} {r:Val × Mu} (h:Mt names fz kd e x) (he:ev C loc mu e=some r):bI x:=(lU _ rfl h he).2.1
theorem Hi {i:Nat} {e:CE} (hX:AmbOK X P) (hC:cr X s₀ C n):iT X s₀ C n (.asg i e):=fun kd F x A o p as mu mu' loc loc' s fl Q E hm hA hR I e K=>by
  refine hm (fun x=>wpAny (model X.prog X.w) A (exec x F.env) Q E s) fun n q x pos hx hok he=>?_
  rw [GJ] at e
  refine bJ e fun v m e1 e2=>li e2 fun Z e3=>?_
  clear e
  replace K:=Kf.eqS K e3
  have ok:iK F n:=hok.imp_left (hA n).1
  rcases uC x n q pos.line F.env with h | ⟨h,elt,gens,sc,pc,rfl⟩ | ⟨a,b,c,d,rfl⟩ | ⟨a,b,c,d,f,rfl⟩
  · exact wpAny_Assign_Name (aG hX hC _ he hA hR I e1 fun p1 bv s1 u1 sp1 sa1 I1 r1=>ko I1 hx ok r1 fun s' I'=>K p1 bv s' .next sp1 sa1 I' rfl) h
  · rw [exec_Assign_Name_used _ _ _ _ h]
    refine wpAny_bind (wpAny_standAt (wpAny_bind ?_))
    rw [arm_evalThenUse_ListComp]
    refine wpAny_bind (wpAny_mono (AW (Q:=fun Z s'=>Q .next s') hX hC hA hR _ _ rfl he I e1 fun p1 bv s1 u Ca mm sp1 sa1 I1 r1 al hn=>rH hx ok I1 al hn r1 fun s' I'=>K p1 bv s' .next sp1 sa1 I' rfl) (fun Z s' hq=>wpAny_pure (wpAny_pure hq)) fun Z Z e=>e)
  · exact absurd rfl ((xM he e1).1 a b c d)
  · exact absurd rfl ((xM he e1).2 a b c d f)
theorem n5 {F:Fm} {A:Around} {E:Value→Shared→Prop} {o p:aE} {as:As} {mu:Mu} {loc loc':ag} {s:Shared} {is:List Nat} {l:List Expr} {k} {pos:Pos} {T:Addr} {vs:Array Value} {xs:List Val} {Q:Unit→Shared→Prop} (hh:A.handled=none) (h:MtTs F.names (iK F) is l) (e:ap is xs loc=some loc') (hl:is.length=xs.length)
    (I:Inv X s₀ o p as mu F loc s) (hT:IsTup s.heap T vs) (r:VRels X p as xs vs.toList) (K:∀ s',Inv X s₀ o p as mu F loc' s'→Q () s') :
    wpAny (model X.prog X.w) A (assign (.Tuple l k pos) F.env (.ref T)) Q E s:=by
  have hz:xs.length=vs.size:=by simpa using r.length
  have he:=qS (env:=F.env) h
  refine assign_Tuple_tuple hh hT (by rw [he,List.length_map,h.len]; exact Eq.trans hl hz) (by rw [he]; exact j0) fun h' hx=>?_
  rw [he,List.map_map]
  exact mr h e (I.ext hx) r K
theorem MtTs.okn {F:Fm} {kd:Kd} (hA:Agree F.env kd):∀ {is:List Nat} {l:List Expr},MtTs F.names (fun n=>kd n=some .local∨n ∈ F.wr) is l→MtTs F.names (iK F) is l
  | [],_,h=>h
  | i::is,_,⟨x,pos,r,e,hx,ok,h⟩=>⟨x,pos,r,e,hx,ok.imp_left (hA x).1,h.okn hA⟩
theorem MtT.okn {F:Fm} {kd:Kd} (hA:Agree F.env kd) {is:List Nat} {t:Expr} (h:MtT F.names (fun n=>kd n=some .local∨n ∈ F.wr) is t):MtT F.names (iK F) is t:=by
  cases is with
  | nil=>obtain ⟨l,k,pos,e,h⟩:=h; exact ⟨l,k,pos,e,h⟩
  | cons i is =>
    cases is with
    | nil=>obtain ⟨x,pos,e,hx,ok⟩:=h; exact ⟨x,pos,e,hx,ok.imp_left (hA x).1⟩
    | cons j is=>obtain ⟨l,k,pos,e,h⟩:=h; exact ⟨l,k,pos,e,MtTs.okn hA h⟩
theorem s9 {x:Expr} {l k q} {env:Env} (h:tR x):swappedStores [.Tuple l k q] x env=pure none:=by cases x <;> first | rfl | exact (iD h)
theorem lX {x:Expr} {l k q} {line:Nat} {env:Env}:swapsWithSole [.Tuple l k q] x line env=pure false:=by cases x <;> rfl
theorem Hg {is:List Nat} {e:CE} (hX:AmbOK X P) (hC:cr X s₀ C n):iT X s₀ C n (.unp is e):=fun kd F x A o p as mu mu' loc loc' s fl Q E hm hA hR I e K=>by
  refine hm (fun x=>wpAny (model X.prog X.w) A (exec x F.env) Q E s) fun Z Z Z Z Z hn ht he=>?_
  rw [F7] at e
  refine bJ e fun v m e1 e2=>bg e2 fun x hx f1=>bg f1 fun xs hxs f2=>li f2 fun hl f3=>bM f3 fun l2 e3 e4=>?_
  clear e
  replace K:=Kf.eqP K e4
  refine Assign_Tuple (aG hX hC _ he hA hR I e1 fun p1 bv s1 u1 sp1 sa1 I1 r1=>?_) lX (s9 hn)
  rw [gx hx] at r1
  rcases vZ hxs with q | q <;> rw [q] at r1
  · refine RSeq.el (fR r1) fun a vs mm e3_ h1 h2=>?_
    subst e3_
    exact iv hR.hand (ht.okn hA) e3 hl I1 (.inl (I1.ple _ _ h1)) h2 fun s' I'=>K p1 bv s' .next sp1 sa1 I' rfl
  · refine RSeq.el (iw r1) fun a vs mm e3_ h1 h2=>?_
    subst e3_
    exact iv hR.hand (ht.okn hA) e3 hl I1 (.inr (I1.ple _ _ h1)) h2 fun s' I'=>K p1 bv s' .next sp1 sa1 I' rfl
theorem yd {z a b:Expr} {q:Pos} {line:Nat} {env:Env}:swapsWith z (some (.Subscript a b q)) line env=pure false:=by cases z <;> rfl
theorem wV {z a:Expr} {f:Str} {q:Pos} {line:Nat} {env:Env}:swapsWith z (some (.Attribute a f q)) line env=pure false:=by cases z <;> rfl
theorem CU {A:Around} {F:Fm} {o p:aE} {as:As} {mu mu':Mu} {loc loc':ag} {s:Shared} {x k:Val} {a:Nat} {fl:Fl} {u1 u2 u3:Value} {Q:Unit→Shared→Prop} {E:Value→Shared→Prop} (hR:Rm n A) (e:r6 loc x a k mu=some (fl,loc',mu')) (I:Inv X s₀ o p as mu F loc s) (r1:VRel X p as (.r a) u1) (r2:VRel X p as k u2) (r3:VRel X p as x u3)
    (K:∀ s',Inv X s₀ o p as mu' F loc' s'→HT X p as fl .next→Q () s'):wpAny (model X.prog X.w) A (setItem u1 u2 u3) Q E s:=by
  have fin:∀ {mu1:Mu},(Fl.next,loc,mu1)=(fl,loc',mu')→∀ s',Inv X s₀ o p as mu1 F loc s'→Q () s':=fun e s' I'=>by (refine eJ e fun h1_ h2_=>eJ h2_ fun h2_ h3_=>?_; subst h1_; subst h2_; subst h3_); exact K s' I' rfl
  refine Bw (x:=vI k) e (fun Z e1=>Bw (x:=vS k) e1 (fun Z e2=>?_) (fun w hw e2=>?_)) (fun i hi e1=>?_)
  · refine bg e2 fun Z hp e3=>bg e3 fun c hk e4=>bg e4 fun Z ha e5=>li e5 fun hb e6=>?_
    clear e2
    refine xe2 (zA hp) fun i j hkk=>?_
    rw [hkk] at r2; rw [I7 ha] at r3
    exact xU hR (BV hk) hb I r1 r2 r3 (fin (iS e6))
  · refine bg e2 fun q hk e3=>li e3 fun hc e4=>?_
    clear e2
    rw [zR hw] at r2
    exact yl (Bs hk) hc.1 hc.2 I r1 r2 r3 (fin (iS e4))
  · rw [fJ hi] at r2
    refine bg e1 fun ob hk e2=>Bw (x:=oL ob) e2 (fun Z e3=>?_) (fun xs hx e3=>?_)
    · refine bg e3 fun ks hks e4=>bg e4 fun d hd e5=>li e5 fun hl e6=>?_
      clear e3
      rw [gx hd] at r3
      exact zN (Ak hks ▸ hk) hl I r1 r2 r3 (fin (iS e6))
    · refine bM e3 fun j g1 g2=>?_
      clear e3
      exact Ao (E2 hx ▸ hk) g1 I r1 r2 r3 (fin g2)
theorem Fz {a i v:CE} (hX:AmbOK X P) (hC:cr X s₀ C n):iT X s₀ C n (.sett a i v):=fun kd F x A o p as mu mu' loc loc' s fl Q E hm hA hR I e K=>by
  refine hm (fun x=>wpAny (model X.prog X.w) A (exec x F.env) Q E s) fun Z Z Z Z Z hn h1 h2 h3=>?_
  rw [CM] at e
  refine bJ e fun x3 m3 e3 f1=>bJ f1 fun x1 m1 e1 f2=>bJ f2 fun x2 m2 e2 f3=>bg f3 fun ad hr f4=>?_
  clear e
  refine wpAny_Assign_Subscript (aG hX hC _ h3 hA hR I e3 fun p3 gq s3 u3 sp3 sa3 I3 r3=>aG hX hC _ h1 hA hR I3 e1 fun p1 bv s1 u1 sp1 sa1 I1 r1=>aG hX hC _ h2 hA hR I1 e2 fun p2 eH s2 u2 sp2 sa2 I2 r2=>?_) yd
  exact CU (u3:=u3) hR f4 I2 (gR hr ▸ r1.mono sp2 sa2) r2 (r3.mono (sp1.trans sp2) (sa1.trans sa2)) fun s' I' hf=>K p2 eH s' .next (sp3.trans (sp1.trans sp2)) (sa3.trans (sa1.trans sa2)) I' hf
theorem F5 {a v:CE} {f:Fld} (hX:AmbOK X P) (hC:cr X s₀ C n):iT X s₀ C n (.seta a f v):=fun kd F x A o p as mu mu' loc loc' s fl Q E hm hA hR I e K=>by
  refine hm (fun x=>wpAny (model X.prog X.w) A (exec x F.env) Q E s) fun Z Z Z Z Z h1 hs h3=>?_
  subst hs
  rw [CQ] at e
  refine bJ e fun x3 m3 e3 f1=>bJ f1 fun x1 m1 e1 f3=>bg f3 fun ad hr f4=>bg f4 fun q hk f5=>li f5 fun hl f6=>?_
  clear e
  replace K:=Kf.eqS K f6
  refine plainObj_wpAny_Assign_Attribute (aG hX hC _ h3 hA hR I e3 fun p3 gq s3 u3 sp3 sa3 I3 r3=>aG hX hC _ h1 hA hR I3 e1 fun p1 bv s1 u1 sp1 sa1 I1 r1=>?_) wV
  exact z0 (wx hk) hl hX.K hX.cls I1 (gR hr ▸ r1) (r3.mono sp1 sa1) fun s' I'=>K p1 bv s' .next (sp3.trans sp1) (sa3.trans sa1) I' rfl
theorem HP {c:CE} {a b:CSs} (hX:AmbOK X P) (hC:cr X s₀ C n) (ha:jF X s₀ C n a) (hb:jF X s₀ C n b):iT X s₀ C n (.ifs c a b):=fun kd F x A o p as mu mu' loc loc' s fl Q E hm hA hR I e K=>by
  refine hm (fun x=>wpAny (model X.prog X.w) A (exec x F.env) Q E s) fun Z Z Z Z h1 h2 h3=>?_
  rw [GD] at e
  refine bJ e fun x1 m1 e1 f1=>?_
  clear e
  refine bg f1 fun t e2 f2=>?_
  clear f1
  refine wpAny_If (gk hX hC c h1 hA hR I e1 e2 fun p1 bv s1 sp1 sa1 I1=>?_)
  cases t with
  | true=>exact ha h2 hA hR I1 f2 fun p' as' s' f a b c d=>K p' as' s' f (sp1.trans a) (sa1.trans b) c d
  | false=>exact hb h3 hA hR I1 f2 fun p' as' s' f a b c d=>K p' as' s' f (sp1.trans a) (sa1.trans b) c d
theorem HJ {e:CE} (hX:AmbOK X P) (hC:cr X s₀ C n):iT X s₀ C n (.ret e):=fun kd F x A o p as mu mu' loc loc' s fl Q E hm hA hR I e K=>by
  rw [EE] at e
  refine bM e fun q0_ e1 e2=>?_
  clear e
  obtain ⟨v,m⟩:=q0_
  replace K:=Kf.eqP K e2
  refine hm (fun x=>wpAny (model X.prog X.w) A (exec x F.env) Q E s) (fun Z Z he=>?_) (fun Z he=>?_)
  · exact wpAny_Return_some (aG hX hC _ he hA hR I e1 fun p1 bv s1 u1 sp1 sa1 I1 r1=>K p1 bv s1 (.ret u1) sp1 sa1 I1 ⟨u1,rfl,r1⟩)
  · subst he; rw [vf] at e1; (refine dx e1 fun h1_ h2_=>?_; subst h1_; subst h2_); exact wpAny_Return_none (K p as s (.ret .none) Sub.refl (List.prefix_refl _) I ⟨_,rfl,hU⟩)
theorem vH {z:Expr} {line:Nat} {env:Env} (h:qo z):swapsWith z none line env=pure false:=by cases z <;> first | rfl | exact (iD h)
theorem Gz {e:CE} (hX:AmbOK X P) (hC:cr X s₀ C n):iT X s₀ C n (.expr e):=fun kd F x A o p as mu mu' loc loc' s fl Q E hm hA hR I e K=>by
  refine hm (fun x=>wpAny (model X.prog X.w) A (exec x F.env) Q E s) fun Z Z hn he=>?_
  rw [DK] at e
  refine bM e fun q0_ e1 e2=>?_
  clear e
  obtain ⟨v,m⟩:=q0_
  replace K:=Kf.eqP K e2
  exact wpAny_Expr_any (aG hX hC _ he hA hR I e1 fun p1 bv s1 u1 sp1 sa1 I1 r1=>K p1 bv s1 .next sp1 sa1 I1 rfl) (by unfold interactive; rw [I.fr.kind]; rfl) (vH hn)
end Mine.Internal
namespace Mine.Internal
variable {X:Amb} {P:Fn→FDef} {s₀:Shared} {n:Nat} {C:Calls}
noncomputable def iO (env:Env) (line:Nat):Expr→Option Str
  | .Name id pos=>if env.kindOf id == some .local && pos.line == line then some id else none
  | _=>none
theorem rP {l l':List Expr} {k k':_} {q q':Pos} {env:Env} (h:l'.all (constantsAlone 8)=false) :
    swappedStores [.Tuple l k q] (.Tuple l' k' q') env=pure none∨∃ line names,swappedStores [.Tuple l k q] (.Tuple l' k' q') env=pure (some names)∧names=l.filterMap (iO env line)∧names.length=l.length∧names.eraseDups.length=names.length∧(l.length=2∨l.length=3):=by
  unfold swappedStores
  dsimp only
  split
  · exact .inl rfl
  · rename_i h1
    split
    · exact .inl rfl
    · split
      · exact .inl rfl
      · rename_i h3
        split
        · exact .inl rfl
        · split
          · rename_i h5; rw [h] at h5; cases h5
          · rw [Bool.or_eq_true,not_or] at h3
            obtain ⟨h3,h4⟩:=h3
            refine .inr ⟨_,_,rfl,rfl,?_,?_,?_⟩
            · exact Classical.byContradiction fun z=>h3 (bne_iff_ne.mpr z)
            · exact Classical.byContradiction fun z=>h4 (bne_iff_ne.mpr z)
            · rw [Bool.or_eq_true,Bool.or_eq_true,not_or,not_or] at h1
              have:=h1.1.1
              simp only [Bool.not_eq_true',Bool.not_eq_false,Bool.or_eq_true,beq_iff_eq] at this
              exact this
noncomputable def NmOK (F:Fm):List Nat→List Str→Prop
  | [],xs=>xs=[]
  | i::is,xs=>∃ x r,xs=x::r∧F.names[i]? = some x∧iK F x∧NmOK F is r
theorem BL {F:Fm} {line:Nat}:∀ {is:List Nat} {l:List Expr},MtTs F.names (iK F) is l→(l.filterMap (iO F.env line)).length=l.length→NmOK F is (l.filterMap (iO F.env line))
  | [],l=>fun h Z=>by have h:l=[]:=h; rw [h]; rfl
  | i::is,l=>fun ⟨x,pos,r,hl,hx,ok,h⟩ e=>by
    subst hl
    have le:=List.length_filterMap_le (iO F.env line) r
    rw [List.filterMap_cons] at e ⊢
    cases hp:iO F.env line (.Name x pos) with
    | none=>rw [hp] at e; exact absurd (Nat.le_trans (Nat.le_of_eq e.symm) le) (Nat.not_succ_le_self _)
    | some y =>
      rw [hp] at e
      have hy:y=x:=by
        unfold iO at hp
        dsimp only at hp
        split at hp
        · (replace hp:=iS hp; subst hp); rfl
        · exact nS hp
      rw [hy]
      exact ⟨x,_,rfl,hx,ok,BL h (Nat.succ.inj e)⟩
theorem NmOK.mem {F:Fm}:∀ {is:List Nat} {xs:List Str},NmOK F is xs→∀ i ∈ is,∃ x ∈ xs,F.names[i]? = some x
  | [],_=>fun Z i hi=>nomatch hi
  | i::is,_=>fun ⟨x,r,e,hx,_,h⟩ j hj=>by
    subst e
    rcases List.mem_cons.mp hj with hq_ | hj
    · rw [hq_]; exact ⟨x,.head _,hx⟩
    · obtain ⟨y,hy,e⟩:=h.mem j hj; exact ⟨y,.tail _ hy,e⟩
theorem NmOK.nodup {F:Fm}:∀ {is:List Nat} {xs:List Str},NmOK F is xs→xs.Nodup→is.Nodup
  | [],_=>fun Z Z=>List.nodup_nil
  | i::is,_=>fun ⟨x,r,e,hx,_,h⟩ hn=>by
    subst e
    have hn:=List.nodup_cons.mp hn
    refine List.nodup_cons.mpr ⟨fun hi=>?_,h.nodup hn.2⟩
    obtain ⟨y,hy,e⟩:=h.mem i hi
    rw [hx] at e
    exact hn.1 (Option.some.inj e ▸ hy)
theorem NmOK.snoc {F:Fm} {i:Nat} {x:Str} (hx:F.names[i]? = some x) (ok:iK F x):∀ {is:List Nat} {xs:List Str},NmOK F is xs→NmOK F (is++[i]) (xs++[x])
  | [],_=>fun h=>by have h:_=[]:=h; subst h; exact ⟨x,[],rfl,hx,ok,rfl⟩
  | j::is,_=>fun ⟨y,r,e,hy,oy,h⟩=>by subst e; exact ⟨y,r++[x],rfl,hy,oy,NmOK.snoc hx ok h⟩
theorem NmOK.rev {F:Fm}:∀ {is:List Nat} {xs:List Str},NmOK F is xs→NmOK F is.reverse xs.reverse
  | [],_=>fun h=>by have h:_=[]:=h; subst h; rfl
  | i::is,_=>fun ⟨x,r,e,hx,ok,h⟩=>by subst e; rw [List.reverse_cons,List.reverse_cons]; exact NmOK.snoc hx ok h.rev
theorem VRels.rev {p:aE} {as:As}:∀ {vs:List Val} {us:List Value},VRels X p as vs us→VRels X p as vs.reverse us.reverse
  | [],_=>fun h=>by have h:_=[]:=h; subst h; rfl
  | v::vs,_=>fun ⟨u,r,e,h1,h2⟩=>by rw [e]; rw [List.reverse_cons,List.reverse_cons]; exact h2.rev.append ⟨u,[],rfl,h1,rfl⟩
noncomputable def jX:List Nat→List Val→ag→ag
  | [],_,l=>l
  | i::is,vs,l=>match vs with
    | []=>l
    | v::vs=>jX is vs (l.set i (some v))
theorem og:∀ {is:List Nat} {vs:List Val} {l l':ag},ap is vs l=some l'→l'=jX is vs l
  | [],[],l,l'=>fun h=>(iS (show some l=some l' from h)).symm
  | [],_::_,_,_=>fun h=>nS h
  | _::_,[],_,_=>fun h=>nS h
  | i::is,v::vs,l,l'=>fun h=>og (is:=is) (vs:=vs) (kS (show (if i < l.length then ap is vs (l.set i (some v)) else none)=some l' from h)).2
theorem uM {i:Nat} {v:Val}:∀ {is:List Nat} {vs:List Val} {l:ag},i ∉ is→jX is vs (l.set i (some v))=(jX is vs l).set i (some v)
  | [],_,_=>fun Z=>rfl
  | _::_,[],_=>fun Z=>rfl
  | j::is,w::vs,l=>fun h=>by
    show jX is vs ((l.set i (some v)).set j (some w))=(jX is vs (l.set j (some w))).set i (some v)
    have ne:i ≠ j:=fun e=>h (by rw [e]; exact .head _)
    rw [List.set_comm _ _ ne,uM fun e=>h (.tail _ e)]
theorem tM {i:Nat} {v:Val}:∀ {is:List Nat} {vs:List Val} {l:ag},is.length=vs.length→jX (is++[i]) (vs++[v]) l=(jX is vs l).set i (some v)
  | [],[],_=>fun Z=>rfl
  | [],_::_,_=>fun h=>nomatch h
  | _::_,[],_=>fun h=>nomatch h
  | j::is,w::vs,l=>fun h=>tM (is:=is) (vs:=vs) (Nat.succ.inj h)
theorem uJ:∀ {is:List Nat} {vs:List Val} {l:ag},is.length=vs.length→is.Nodup→jX is.reverse vs.reverse l=jX is vs l
  | [],_,_=>fun Z Z=>rfl
  | _::_,[],_=>fun h=>nomatch h
  | j::is,w::vs,l=>fun h hn=>by
    have hn:=List.nodup_cons.mp hn
    have h:=Nat.succ.inj h
    rw [List.reverse_cons,List.reverse_cons,tM (by rw [List.length_reverse,List.length_reverse,h]),uJ h hn.2]
    exact (uM hn.1).symm
theorem tl {A:Around} {E:Value→Shared→Prop} {F:Fm} {o p:aE} {as:As} {mu:Mu} {Q:Unit→Shared→Prop}:∀ {is:List Nat} {xs:List Str} {vs:List Val} {us:List Value} {loc:ag} {s:Shared},NmOK F is xs→VRels X p as vs us→is.length=vs.length→Inv X s₀ o p as mu F loc s →
    (∀ s',Inv X s₀ o p as mu F (jX is vs loc) s'→Q () s')→wpAny (model X.prog X.w) A (assignInOrder (xs.map fun n=>bindName F.env n) us) Q E s
  | [],_,[],_,_,_=>fun h r Z I K=>by have h:_=[]:=h; have r:_=[]:=r; subst h; subst r; exact wpAny_pure (K _ I)
  | [],_,_::_,_,_,_=>fun Z Z h=>nomatch h
  | _::_,_,[],_,_,_=>fun Z Z h=>nomatch h
  | i::is,_,v::vs,_,loc,s=>fun ⟨x,xs,ex,hx,ok,h⟩ ⟨u,us,eu,r1,r2⟩ hl I K=>by
    subst ex; subst eu
    exact wpAny_bind (wpAny_holding (wpAny_bindName (ko I hx ok r1 fun s' I'=>tl h r2 (Nat.succ.inj hl) I' K)))
theorem Jj {a b:Str} (h:[a,b].eraseDups.length=2):a ≠ b:=fun e=>by
  subst e
  simp [List.eraseDups_cons] at h
theorem I8 {a b c:Str} (h:[a,b,c].eraseDups.length=3):a ≠ b∧a ≠ c∧b ≠ c:=by
  refine ⟨fun e=>?_,fun e=>?_,fun e=>?_⟩ <;> subst e <;> simp [List.eraseDups_cons,List.filter_cons] at h
  · by_cases q:c=a <;> simp [q,List.eraseDups_cons] at h
  · by_cases q:b=a <;> simp [q,List.eraseDups_cons] at h
  · by_cases q:b=a <;> simp [q,List.eraseDups_cons] at h
theorem FQ {α:Type} {l:List α} (h:l.length=2):∃ a b,l=[a,b]:=by
  cases l with
  | nil=>cases h
  | cons a l=>cases l with
    | nil=>cases h
    | cons b l=>exact ⟨a,b,by rw [List.eq_nil_of_length_eq_zero (Nat.succ.inj (Nat.succ.inj h))]⟩
theorem IO {α:Type} {l:List α} (h:l.length=3):∃ a b c,l=[a,b,c]:=by
  cases l with
  | nil=>cases h
  | cons a l=>obtain ⟨b,c,e⟩:=FQ (Nat.succ.inj h); exact ⟨a,b,c,by rw [e]⟩
theorem Aa {ns:List Str} (h:ns.eraseDups.length=ns.length) (hl:ns.length=2∨ns.length=3):ns.Nodup:=by
  rcases hl with hl | hl
  · refine xe2 (FQ hl) fun a b e2_=>?_
    subst e2_
    have:=Jj h
    simp [this]
  · refine xe3 (IO hl) fun a b c e3_=>?_
    subst e3_
    refine gD (I8 h) fun h1 h2 h3=>?_
    simp [h1,h2,h3]
theorem DM {is:List Nat} {es:CEs} (hX:AmbOK X P) (hC:cr X s₀ C n):iT X s₀ C n (.multi is es):=fun kd F x A o p as mu mu' loc loc' s fl Q E hm hA hR I e K=>by
  refine hm (fun x=>wpAny (model X.prog X.w) A (exec x F.env) Q E s) fun l k q l' k' q' pos ht hc hl=>?_
  rw [A8] at e
  refine bJ e fun vs m e1 f1=>li f1 fun hlen f2=>bM f2 fun l2 e3 e4=>?_
  clear e
  cases e4
  obtain ⟨hlen,h8⟩:=hlen
  have ht:=ht.okn hA
  have tup:∀ {Q':Value→Shared→Prop},(∀ p1 bv (s1:Shared) us,Sub p p1→as <+: bv→Inv X s₀ o p1 bv mu' F loc s1→VRels X p1 bv vs us→Q' (.ref s1.heap.objs.size) { s1 with heap:=s1.heap.push (d7 us.toArray 0) })→wpAny (model X.prog X.w) A (eval (.Tuple l' k' q') F.env) Q' E s:=fun {Q'} kk=>by
    rw [arm_eval_Tuple,cB hl.star,c6]
    refine wpAny_bind (wpAny_standAt (wpAny_bind (gh hX hC _ hl hA hR I e1 fun p1 bv s1 us sp1 sa1 I1 r1=>?_)))
    exact wpAny_newObj_type (kk p1 bv s1 us sp1 sa1 I1 r1) (by show us.toArray.size≤_; rw [List.size_toArray,← r1.length,sizeLine_eq]; exact Jm h8 hlen rfl)
  have hT:∀ {s1:Shared} {us:List Value},IsTup (s1.heap.push (d7 us.toArray 0)) s1.heap.objs.size us.toArray:=⟨_,Heap.get?_push_size _ rfl,rfl,0,rfl⟩
  rcases rP (l:=l) (k:=k) (q:=q) (k':=k') (q':=q') (env:=F.env) hc with hw | ⟨line,names,hw,hnames,hn1,hn2,hn3⟩
  · refine Assign_Tuple (tup fun p1 bv s1 us sp1 sa1 I1 r1=>?_) lX hw
    exact n5 hR.hand ht e3 hlen (I1.push _) hT (by rw [List.toList_toArray]; exact r1) fun s' I'=>K p1 bv s' .next sp1 sa1 I' rfl
  · refine Assign_Tuple_swapped (names:=names) (tup fun p1 bv s1 us sp1 sa1 I1 r1=>?_) lX hw
    have hnz:names.length=us.toArray.size:=by rw [List.size_toArray,← r1.length,← hlen,hn1]; exact ht.len
    rw [hnz]
    refine unpackItems_tuple hR.hand hT fun h' hx=>?_
    have pk:=BL ht (line:=line) (by rw [← hnames]; exact hn1)
    rw [← hnames] at pk
    rw [List.toList_toArray]
    refine tl pk.rev r1.rev (by rw [List.length_reverse,List.length_reverse]; exact hlen) ((I1.push (d7 us.toArray 0)).ext (h':=h') hx) fun s' I'=>K p1 bv s' .next sp1 sa1 ?_ rfl
    rw [uJ hlen (pk.nodup (Aa hn2 (hn1 ▸ hn3))),← og e3] at I'
    exact I'
end Mine.Internal
namespace Mine.Internal
variable {X:Amb} {P:Fn→FDef} {s₀:Shared} {n:Nat} {C:Calls}
structure Turns (X:Amb) (s₀:Shared) (A:Around) (F:Fm) (o p:aE) (ts:List Nat) (target:Expr) (ds:List Dat) (it:Value) (l:List Addr) (fp:List Addr) (St:Nat→Heap→Prop):Prop where
  frame:∀ i h h',St i h→(∀ b ∈ fp,∀ ob,h.get? b=some ob→h'.get? b=some ob)→St i h'
  fp:∀ b ∈ fp,b ∈ l∨(p b).isSome
  ex:∀ i h,St i h→∀ a ∈ l,∃ ob,h.get? a=some ob
  item:∀ (i:Nat) (s:Shared) (p':aE) (as:As) (mu:Mu) (loc l1:ag) (d:Dat) (Q:Shared→Prop) (E:Value→Shared→Prop),ds[i]? = some d→St i s.heap→Inv X s₀ (c7 o l s.heap) p' as mu F loc s→Sub p p'→cU ts d loc=some l1 →
    (∀ s2,Inv X s₀ (c7 o l s2.heap) p' as mu F l1 s2→St (i+1) s2.heap→Q s2) →
    wpAny (model X.prog X.w) A (pyNext it) (fun r s₁=>match r with
      | none=>False
      | some v=>wpAny (model X.prog X.w) A (letOwnedTupleGo target it v) (fun Z s₁'=>wpAny (model X.prog X.w) A (assign target F.env v) (fun Z s₂=>Q s₂) E s₁') E s₁) E s
  done:∀ (s:Shared) (p':aE) (as:As) (mu:Mu) (loc:ag) (Q:Shared→Prop) (E:Value→Shared→Prop),St ds.length s.heap→Inv X s₀ (c7 o l s.heap) p' as mu F loc s→Sub p p'→(∀ s2,Inv X s₀ o p' as mu F loc s2→Q s2) →
    wpAny (model X.prog X.w) A (pyNext it) (fun r s₁=>match r with
      | none=>Q s₁
      | some v=>False) E s
theorem sk {A:Around} {F:Fm} {kd:Kd} {o p:aE} {as:As} {mu muE:Mu} {loc locE:ag} {s:Shared} {ts:List Nat} {target:Expr} {ds:List Dat} {it:Value} {l fp:List Addr} {St:Nat→Heap→Prop} {b:CSs} {body:List Stmt} {fl:Fl} {Q:Flow→Shared→Prop} {R:Result→Shared→Prop}
    (T:Turns X s₀ A F o p ts target ds it l fp St) (hb:jF X s₀ C n b) (hm:fB F.names F.wr F.fz kd b body) (hA:Agree F.env kd) (hR:Rm n A) (I:Inv X s₀ (c7 o l s.heap) p as mu F loc s) (hst:St 0 s.heap)
    (hl:∀ a ∈ l,o a=none) (hc:∀ x c,F.env.cells.lookup x=some c→c ∉ l)
    (e:cY (fun l m=>ea C l m b) ts ds loc mu=some (fl,locE,muE)) (K:Kf X s₀ o p as muE F locE Q fl) (hQ:∀ f s',Q f s'→R (.ok f) s') :
    codeAny (model X.prog X.w) A (.forLoop target it body [] F.env) R s:=by
  refine codeAny_forLoop_any (fun k s'=>∃ (i:Nat) (p':aE) (as':As) (mu':Mu) (loc':ag),k=ds.length+1 - i∧i≤ds.length∧Inv X s₀ (c7 o l s'.heap) p' as' mu' F loc' s'∧St i s'.heap ∧
      cY (fun l m=>ea C l m b) ts (ds.drop i) loc' mu'=some (fl,locE,muE)∧Sub p p'∧as <+: as') (fun k s' hI=>?_) (ds.length+1 - 0) ⟨0,p,as,mu,loc,rfl,Nat.zero_le _,I,hst,e,Sub.refl,List.prefix_refl _⟩
  refine xe5 hI fun i p' as' mu' loc' r_=>Iu r_ fun hk_ hi I' hst' e' sp sa=>?_
  rw [hk_]
  clear hI hk_
  by_cases hlt:i < ds.length
  · have hd:ds.drop i=ds[i]::ds.drop (i+1):=List.drop_eq_getElem_cons hlt
    rw [hd] at e'
    rw [JI] at e'
    refine bg e' fun l1 e1 e'=>?_
    refine bg e' fun q0_ e2 e3=>?_
    clear e'
    clear e'
    obtain ⟨f1,l2,m2⟩:=q0_
    dsimp only at e3
    refine wpAny_mono (T.item i s' p' as' mu' loc' l1 ds[i] (fun s2=>Inv X s₀ (c7 o l s2.heap) p' as' mu' F l1 s2∧St (i+1) s2.heap) _ (List.getElem?_eq_getElem hlt) hst' I' sp e1 fun s2 I2 hst2=>⟨I2,hst2⟩) (fun r s1 h1=>?_) fun Z Z x=>x
    cases r with
    | none=>exact h1.elim
    | some v =>
      refine wpAny_mono h1 (fun Z s1' h2=>wpAny_mono h2 (fun Z s2 h3=>?_) fun Z Z x=>x) fun Z Z x=>x
      refine aN h3 fun I2 hst2=>?_
      refine hb hm hA hR I2 e2 fun p3 gq s3 f sp3 sa3 I3 fr=>?_
      have has2:=T.ex _ _ hst2
      clear e2 h3
      cases f1 with
      | next =>
        have fr:f=.next:=fr
        rw [fr]
        have I4:=I3.swap (h':=s3.heap) (tk:=s3.toks) hl has2 hc fun b Z ob e=>e
        refine ⟨ds.length+1 - (i+1),by exact su hlt,i+1,p3,gq,m2,l2,rfl,hlt,I4,?_,e3,sp.trans sp3,sa.trans sa3⟩
        refine T.frame _ _ _ hst2 fun b hb ob e=>?_
        rcases T.fp b hb with hb | hb
        · exact I3.ole _ _ ((dv hb).trans e)
        · refine xe1 (Option.isSome_iff_exists.mp hb) fun ob2 q=>?_
          have q2:=I2.ple _ _ (sp _ _ q)
          have q3:=I3.ple _ _ (sp3 _ _ (sp _ _ q))
          rw [e] at q2; rw [iS q2]; exact q3
      | ret u =>
        replace K:=Kf.eqS K e3
        refine xe1 fr fun w r_=>aN r_ fun hw_ vr=>?_
        clear fr
        rw [hw_]
        exact hQ _ _ (K p3 gq s3 (.ret w) (sp.trans sp3) (sa.trans sa3) (I3.unhold hl has2 hc).1 ⟨w,rfl,vr⟩)
  · have hil:i=ds.length:=by omega
    rw [hil,List.drop_length] at e'
    rw [hil] at hst'
    replace K:=Kf.eqS K (show some (Fl.next,loc',mu')=some (fl,locE,muE) from e')
    refine wpAny_mono (T.done s' p' as' _ _ (fun s2=>Inv X s₀ o p' as' mu' F loc' s2) _ hst' I' sp fun s2 I2=>I2) (fun r s1 h1=>?_) fun Z Z x=>x
    cases r with
    | some v=>exact h1.elim
    | none=>exact wpAny_execs_nil (hQ _ _ (K p' as' s1 .next sp sa h1 rfl))
theorem Itr.turns {A:Around} {F:Fm} {o p:aE} {ts:List Nat} {target:Expr} {ds:List Dat} {It:Addr} {fp:List Addr} {Pr:Nat→Value→Prop} {St:Nat→Heap→Prop} (hh:A.handled=none) (ht:MtT F.names (iK F) ts target) (hl:o It=none) (hc:∀ x c,F.env.cells.lookup x=some c→c ∉ [It])
    (T:Itr X A p ds It fp Pr St):Turns X s₀ A F o p ts target ds (.ref It) [It] fp St where
  frame:=T.w.frame
  fp:=fun b hb=>by
    rcases T.fp b hb with rfl | h
    · exact .inl (.head _)
    · exact .inr h
  ex:=fun i h st=>(dK (T.ex i h st))
  item:=fun i s p' as mu loc l1 d Q E hd hst I sp e K=>by
    have hlt:i < ds.length:=(List.getElem?_eq_some_iff.mp hd).1
    refine T.w.item i s _ _ hlt hst fun v h' tk hpr hst1 hk=>?_
    have I1:=I.swap (h':=h') (tk:=tk) ((dK (hl))) ((dK (T.ex i _ hst))) hc fun b hb ob e=>hk b ob hb e
    have dr:DRel X p' d v:=(T.val i v d hpr hd).mono sp
    refine T.go (i+1) _ target v _ _ hst1 (n9 hh ht e I1 dr fun s2 I2=>?_)
    obtain ⟨ob1,hIt1⟩:=T.ex _ _ hst1
    have has1:∀ a ∈ [It],∃ ob,h'.get? a=some ob:=(dK (⟨_,hIt1⟩))
    have I3:=I2.swap (h':=s2.heap) (tk:=s2.toks) ((dK (hl))) has1 hc fun b Z ob e=>e
    refine K s2 I3 (T.w.frame _ _ _ hst1 fun b hb ob e=>?_)
    rcases T.fp b hb with rfl | hb
    · exact I2.ole _ _ ((dv (.head _)).trans e)
    · refine xe1 (Option.isSome_iff_exists.mp hb) fun ob2 q=>?_
      have q2:=I1.ple _ _ (sp _ _ q)
      rw [show h'.get? b=some ob from e] at q2; (replace q2:=iS q2; rw [q2])
      exact I2.ple _ _ (sp _ _ q)
  done:=fun s p' as mu loc Q E hst I sp K=>by
    refine T.w.done s _ _ hst fun h' tk hk=>?_
    obtain ⟨I1,al⟩:=I.unhold ((dK (hl))) ((dK (T.ex _ _ hst))) hc
    exact K _ ((I1.alien (l:=[It]) (fun a ha=>(al a ha).1) fun b hb ob e=>hk b ob hb e).tok tk)
theorem Ho {ts:List Nat} {it:CE} {b:CSs} (hX:AmbOK X P) (hC:cr X s₀ C n) (hb:jF X s₀ C n b):iT X s₀ C n (.for_ ts it b):=fun kd F x A o p as mu mu' loc loc' s fl Q E hm hA hR I e K=>by
  refine hm (fun x=>wpAny (model X.prog X.w) A (exec x F.env) Q E s) fun t iter body pos ht h1 h2=>?_
  rw [DG] at e
  refine bJ e fun x1 m1 e1 f1=>?_
  clear e
  refine bg f1 fun xs e2 e3=>?_
  clear f1
  have hns:=h1.nset e1
  refine wpAny_For (aG hX hC _ h1 hA hR I e1 fun p1 bv s1 u1 sp1 sa1 I1 r1=>?_) (fun x=>by cases iter <;> first | rfl | exact (iD hns))
  cases x1 with
  | r k=>exact nS e2
  | clo k=>exact nS e2
  | d d =>
    refine uU e2 hR.hand I1 r1 fun It ob fp Pr St eIt hf T hst=>?_
    subst eIt
    have al:=I1.fresh_of (Nat.le_refl _)
    have I2:=I1.push ob
    have hc:∀ x c,F.env.cells.lookup x=some c→c ∉ [s1.heap.objs.size]:=fun x c hx hm=>I2.no_cell (show cH X o p1 bv m1 F _ from al) x c hx (by simpa using hm)
    have IH:=I2.hold (l:=[s1.heap.objs.size]) (dK (al))
    have hl:∀ a ∈ [s1.heap.objs.size],o a=none:=(dK (al.2.1))
    exact sk (T.turns hR.hand (ht.okn hA) al.2.1 hc) hb h2 hA hR IH hst hl hc e3 (fun p' as' s' f a b c d=>K p' as' s' f (sp1.trans a) (sa1.trans b) c d) fun f s' q=>q
mutual
theorem JD (hX:AmbOK X P) (hC:cr X s₀ C n):∀ c:CS,(∀ i j it b,jF X s₀ C n b→iT X s₀ C n (.forEnum i j it b))→iT X s₀ C n c
  | .any,_=>fun kd F x A o p as mu mu' loc loc' s fl Q E hm hA hR I e K=>by rw [DY] at e; exact nS e
  | .asg i e,_=>Hi hX hC
  | .unp is e,_=>Hg hX hC
  | .multi is es,_=>DM hX hC
  | .sett o i v,_=>Fz hX hC
  | .seta o f v,_=>F5 hX hC
  | .ifs c a b,h=>HP hX hC (qP hX hC a h) (qP hX hC b h)
  | .ret e,_=>HJ hX hC
  | .expr e,_=>Gz hX hC
  | .for_ ts it b,h=>Ho hX hC (qP hX hC b h)
  | .forEnum i j it b,h=>h i j it b (qP hX hC b h)
theorem qP (hX:AmbOK X P) (hC:cr X s₀ C n):∀ c:CSs,(∀ i j it b,jF X s₀ C n b→iT X s₀ C n (.forEnum i j it b))→jF X s₀ C n c
  | .nil,_=>fun kd F l A o p as mu mu' loc loc' s fl Q E hm hA hR I e K=>by
    refine hm (fun l=>wpAny (model X.prog X.w) A (execs l F.env) Q E s) ?_
    rw [CF] at e; replace K:=Kf.eqS K e; exact wpAny_execs_nil (K p as s .next Sub.refl (List.prefix_refl _) I rfl)
  | .cons c r,h=>fun kd F l A o p as mu mu' loc loc' s fl Q E hm hA hR I e K=>by
    refine hm (fun l=>wpAny (model X.prog X.w) A (execs l F.env) Q E s) fun Z Z h1 h2=>?_
    rw [AX] at e
    refine bg e fun q0_ e1 e2=>?_
    clear e
    obtain ⟨f1,l1,m1⟩:=q0_
    dsimp only at e2
    refine wpAny_execs_cons (JD hX hC c h h1 hA hR I e1 fun p1 bv s1 f sp1 sa1 I1 fr=>?_)
    cases f1 with
    | next =>
      have fr:f=.next:=fr
      rw [fr]
      exact qP hX hC r h h2 hA hR I1 e2 fun p' as' s' f a b c d=>K p' as' s' f (sp1.trans a) (sa1.trans b) c d
    | ret v =>
      obtain ⟨w,rfl,vr⟩:=fr
      replace K:=Kf.eqS K e2
      exact K p1 bv s1 (.ret w) sp1 sa1 I1 ⟨w,rfl,vr⟩
end
end Mine.Internal
namespace Mine.Internal
section
variable {prog:Program} {w:World} {A:Around} {E:Value→Shared→Prop} {s:Shared}
theorem CD {α:Type} {x:α} {Q:α→Shared→Prop} (h:∀ b,Q b s):wpAny (model prog w) A (pure x) Q E s:=wpAny_pure (h x)
set_option maxHeartbeats 1000000 in
theorem zd (l:Addr) (items:Array Value) (n:Nat) :
    Meets (Builtin.«enumerate.__new__» ⟨[.type "enumerate", .ref l],[]⟩) (fun Z R s=>s.heap.get? l=some (d7 items n) ∧
      R (.ok (.ret (.ref (s.heap.push { cls:=.type "tuple_iterator", data:=.fields #[.ref l,.int 0 0] }).objs.size)))
        { s with heap:=(s.heap.push { cls:=.type "tuple_iterator", data:=.fields #[.ref l,.int 0 0] }).push { cls:=.type "enumerate", data:=.fields #[.none,.bool false,.ref s.heap.objs.size,rawInt 0,.none,.none] } }) :=
  .of_wp fun prog w A R s h=>by
    obtain ⟨hp,g,d,tk,os⟩:=s; obtain ⟨hl,h⟩:=h
    have hsub:=sub_enumerate
    have hL:IsTup (Shared.heap ⟨hp,g,d,tk,os⟩) l items:=⟨_,hl,rfl,n,rfl⟩
    wp_walk using AutoSeq1.wpAny_loadPart' hl
    refine wpAny_stack_any fun st=>CD fun b=>?_
    cases b
    · wp_walk using AutoSeq1.wpAny_loadPart' hl,iter_tuple hL
      exact ⟨_,rfl,h⟩
    · wp_walk using AutoSeq1.wpAny_loadPart' hl,iter_tuple hL
      exact ⟨_,rfl,h⟩
theorem xt {l:Addr} {items:Array Value} {n:Nat} {Q:Value→Shared→Prop} (hL:s.heap.get? l=some (d7 items n))
    (h:∀ h',IsEnum h' (s.heap.objs.size+1) s.heap.objs.size 0 .none→h'.IsTupleIter s.heap.objs.size l 0→h'.objs.size=s.heap.objs.size+2 →
      (∀ b o,s.heap.get? b=some o→h'.get? b=some o)→Q (.ref (s.heap.objs.size+1)) { s with heap:=h' }) :
    wpAny (model prog w) A (call (.type "enumerate") [.ref l]) Q E s:=by
  refine callType_new PySem.F.called_enumerate (by decide) (PySem.F.typeCall_enumerate_1 _) (PySem.F.newCall_enumerate_1 _) (fun obj=>PySem.F.args_object_init_2 obj _) PySem.F.entry_enumerate_new (zd l items n) ⟨hL,?_⟩
  have hz:(s.heap.push { cls:=.type "tuple_iterator", data:=.fields #[.ref l,.int 0 0] }).objs.size=s.heap.objs.size+1:=Heap.size_push ..
  show _∧_
  rw [hz]
  have he:IsEnum ((s.heap.push { cls:=.type "tuple_iterator", data:=.fields #[.ref l,.int 0 0] }).push
      { cls:=.type "enumerate", data:=.fields #[.none,.bool false,.ref s.heap.objs.size,rawInt 0,.none,.none] }) (s.heap.objs.size+1) s.heap.objs.size 0 .none:=by
    have:=Heap.get?_push_size (s.heap.push { cls:=.type "tuple_iterator", data:=.fields #[.ref l,.int 0 0] })
      (o:={ cls:=.type "enumerate", data:=.fields #[.none,.bool false,.ref s.heap.objs.size,rawInt 0,.none,.none] }) rfl
    rw [hz] at this; exact this
  exact ⟨⟨_,he,rfl⟩,h _ he ⟨_,Heap.get?_push_of_some _ (Heap.get?_push_size _ rfl),rfl,rfl⟩ (by rw [Heap.size_push,hz]) fun b o x=>Heap.get?_push_of_some _ (Heap.get?_push_of_some _ x)⟩
theorem wd {it l:Addr} {i:Nat} {items} {x:Value} {Q:Value→Shared→Prop} (hit:s.heap.IsTupleIter it l i) (hl:s.heap.IsTuple l items) (hx:items[i]? = some x)
    (hQ:∀ h',h'.IsTupleIter it l (i+1)→Heap.SameBut it s.heap h'→Q x { s with heap:=h' }) :
    wpAny (model prog w) A (Builtin.SmallTypes.nextOf (.ref it)) Q E s:=by
  obtain ⟨o,ho,hc,hd⟩:=id hit
  obtain ⟨ol,hol,_,nl,hdl⟩:=hl
  unfold Builtin.SmallTypes.nextOf
  refine wpAny_bind (wpAny_callSpecial?_slot (name:=Str.ofString "__next__") hit.typeIs PySem.F.slot_tuple_iterator_next
    (wpAny_call_entry PySem.F.slot_tuple_iterator_next hit.typeIs PySem.F.entry_tuple_iterator_next ?_ (PySem.F.args_tuple_iterator_next_1 _)))
  show wpAny _ _ (field (.ref it) 0 >>= _) _ _ s
  refine wpAny_bind (wpAny_field ho hd (x:=.ref l) rfl ?_)
  show wpAny _ _ (if (Value.ref l == Value.none)=true then _ else _) _ _ s
  rw [if_neg (show ¬ ((Value.ref l == Value.none)=true) from Bool.false_ne_true)]
  show wpAny _ _ (field (.ref it) 1 >>= _) _ _ s
  refine wpAny_bind (wpAny_field ho hd (x:=.int i 0) rfl ?_)
  show wpAny _ _ (seqItems? (.ref l) >>= _) _ _ s
  refine wpAny_bind (wpAny_seqItems hol hdl ?_)
  simp only [Int.toNat_natCast,hx]
  refine wpAny_bind (wpAny_setField ho hd (by simp) (wpAny_pure ⟨x,rfl,wpAny_pure (hQ _ ?_ (Heap.SameBut.update ..))⟩))
  exact ⟨_,Heap.get?_update_self _ ho (Obj.isFreed_of_fields (Obj.data_mapFields hd _)),(Obj.cls_mapFields ..).trans hc,by
    rw [Obj.data_mapFields hd]; simp [rawInt]⟩
theorem xO {it l:Addr} {i:Nat} {items} {Q:Value→Shared→Prop} (hh:A.handled=none) (hit:s.heap.IsTupleIter it l i) (hl:s.heap.IsTuple l items) (hx:items[i]? = none)
    (hE:∀ h' e,Heap.ExtBut it s.heap h'→(∃ o,h'.get? e=some o∧o.cls=.type "StopIteration")→E (.ref e) { s with heap:=h' }) :
    wpAny (model prog w) A (Builtin.SmallTypes.nextOf (.ref it)) Q E s:=by
  obtain ⟨o,ho,hc,hd⟩:=id hit
  obtain ⟨ol,hol,_,nl,hdl⟩:=hl
  unfold Builtin.SmallTypes.nextOf
  refine wpAny_bind (wpAny_callSpecial?_slot (name:=Str.ofString "__next__") hit.typeIs PySem.F.slot_tuple_iterator_next
    (wpAny_call_entry PySem.F.slot_tuple_iterator_next hit.typeIs PySem.F.entry_tuple_iterator_next ?_ (PySem.F.args_tuple_iterator_next_1 _)))
  show wpAny _ _ (field (.ref it) 0 >>= _) _ _ s
  refine wpAny_bind (wpAny_field ho hd (x:=.ref l) rfl ?_)
  show wpAny _ _ (if (Value.ref l == Value.none)=true then _ else _) _ _ s
  rw [if_neg (show ¬ ((Value.ref l == Value.none)=true) from Bool.false_ne_true)]
  show wpAny _ _ (field (.ref it) 1 >>= _) _ _ s
  refine wpAny_bind (wpAny_field ho hd (x:=.int i 0) rfl ?_)
  show wpAny _ _ (seqItems? (.ref l) >>= _) _ _ s
  refine wpAny_bind (wpAny_seqItems hol hdl ?_)
  simp only [Int.toNat_natCast,hx]
  refine wpAny_bind (wpAny_rule (wpAny_bind (wpAny_setField ho hd (by simp) ?_)))
  show wpAny _ _ (newExc (.type "StopIteration") [] >>= _) _ _ _
  refine wpAny_bind ?_
  simp only [newExc,newTuple]
  refine wpAny_bind (wpAny_newObj_type ?_ (by size_fits))
  refine wpAny_bind (m:=firstArgMember _ _) (wpAny_of_eq (a:=Value.none) (by first | rfl | (simp only [firstArgMember]; rfl)) ?_)
  refine wpAny_newObj_type ?_ (by size_fits)
  simp only [raiseNew]
  refine wpAny_bind (wpAny_handled ?_)
  first | rw [show A.in1.handled=none from hh] | rw [hh]
  refine wpAny_bind (wpAny_pure (wpAny_throw ?_))
  exact hE _ _ (((Heap.SameBut.update ..).extBut.push _).push _) ⟨_,Heap.get?_push_size _ rfl,rfl⟩
theorem GG (hh:A.handled=none) (it l:Addr) (hne:l ≠ it) (items:Array Value) :
    Draws prog w A it [it,l] items.size (fun i v=>items[i]? = some v) (fun i h=>h.IsTupleIter it l i∧h.IsTuple l items) where
  live:=fun Z Z st=>let ⟨o,ho,_⟩:=st.1; ⟨o,ho⟩
  frame:=fun Z Z Z st hk=>⟨let ⟨o,ho,r⟩:=st.1; ⟨o,hk it (by simp) o ho,r⟩,let ⟨o,ho,r⟩:=st.2; ⟨o,hk l (by simp) o ho,r⟩⟩
  item:=fun i s Q E hi st hQ=>by
    refine wd st.1 st.2 (x:=items[i]) (by simp [hi]) fun h' hit' hs'=>?_
    exact hQ _ h' s.toks (by simp [hi]) ⟨hit',let ⟨o,ho,r⟩:=st.2; ⟨o,hs'.extBut l o hne ho,r⟩⟩ hs'
  done:=fun s Q E st hE=>xO hh st.1 st.2 (by simp) hE
end
end Mine.Internal
namespace Mine.Internal
variable {X:Amb} {P:Fn→FDef} {s₀:Shared} {n:Nat} {C:Calls}
theorem ra:∀ (ds:List Dat) (k i:Nat) (d:Dat),(hZ ds k)[i]? = some d→∃ x,ds[i]? = some x∧d=.tup [.int ((k+i:Nat):Int),x]
  | [],k,i,d,e=>by rw [BH] at e; simp at e
  | x::ds,k,0,d,e=>by rw [xS] at e; simp only [List.getElem?_cons_zero,Option.some.injEq] at e; exact ⟨x,rfl,e.symm⟩
  | x::ds,k,i+1,d,e=>by
    rw [xS] at e
    obtain ⟨y,h1,h2⟩:=ra ds (k+1) i d (by simpa using e)
    exact ⟨y,by simpa using h1,by rw [h2]; congr 4; exact ad1⟩
theorem mA:∀ (ds:List Dat) (k:Nat),(hZ ds k).length=ds.length
  | [],_=>rfl
  | x::ds,k=>by rw [xS,List.length_cons,List.length_cons,mA ds]
theorem yh {A:Around} {F:Fm} {o p:aE} {i j:Nat} {target:Expr} {ds:List Dat} {e it:Addr} {fp:List Addr} {Pr:Nat→Value→Prop} {St:Nat→Heap→Prop} (hh:A.handled=none) (ht:MtT F.names (iK F) [i,j] target) (hl:∀ a ∈ [e,it],o a=none) (hc:∀ x c,F.env.cells.lookup x=some c→c ∉ [e,it])
    (D:Draws X.prog X.w A.in1 it fp ds.length Pr St) (hei:e ≠ it) (hef:e ∉ fp) (hif:it ∈ fp) (hfp:∀ b ∈ fp,b=it∨(p b).isSome) (hv:∀ i v d,Pr i v→ds[i]? = some d→DRel X p d v) :
    Turns X s₀ A F o p [i,j] target (hZ ds 0) (.ref e) [e,it] (e::fp) (fun (i:Nat) h=>(∃ old,IsEnum h e it (i:Int) old)∧St i h):=by
  have W:=WalksT.enumerateD D e hei hef hif
  have hz:=mA ds 0
  have has:∀ (i:Nat) h,((∃ old,IsEnum h e it (i:Int) old)∧St i h)→∀ a ∈ [e,it],∃ ob,h.get? a=some ob:=fun i h st a ha=>by
    rcases List.mem_cons.mp ha with rfl | ha
    · obtain ⟨⟨old,h1⟩,_⟩:=st; exact ⟨_,h1⟩
    · rw [List.mem_singleton] at ha; rw [ha]; exact D.live _ _ st.2
  refine ⟨W.frame,fun b hb=>?_,has,fun i' s p' as mu loc l1 d Q E hd hst I sp eb K=>?_,fun s p' as mu loc Q E hst I sp K=>?_⟩
  · rcases List.mem_cons.mp hb with hq_ | hb
    · rw [hq_]; exact .inl (.head _)
    · rcases hfp b hb with rfl | h
      · exact .inl (.tail _ (.head _))
      · exact .inr h
  · have hlt:i' < ds.length:=by have:=(List.getElem?_eq_some_iff.mp hd).1; exact CB this hz
    refine xe1 (ra ds 0 i' d hd) fun x r_=>aN r_ fun hx e2_=>?_
    subst e2_
    refine W.item i' s _ _ hlt hst fun T vals h' tk hpr hT hTup hmid hk=>?_
    obtain ⟨t,xv,hpx,rfl⟩:=hpr
    have I1:=I.swap (h':=h') (tk:=tk) hl (has _ _ hst) hc fun b hb ob e=>hk b ob hb e
    obtain ⟨l,k,pos,rfl,hm⟩:=ht.more (fun t h=>by cases h)
    refine W.go l k pos i' T _ _ _ hmid fun h2 hst2 hk2=>?_
    have has1:∀ a ∈ [e,it],∃ ob,h'.get? a=some ob:=fun a ha=>by
      obtain ⟨⟨xx,h1⟩,h2,_⟩:=hmid
      rcases List.mem_cons.mp ha with hq_ | ha
      · rw [hq_]; exact ⟨_,h1⟩
      · rw [List.mem_singleton] at ha; rw [ha]; exact D.live _ _ h2
    have I2:=I1.swap (h':=h2) (tk:=tk) hl has1 hc fun b hb ob e=>hk2 b ob hb e
    have hT2:IsTup h2 T #[.int (i':Int) t,xv]:=by
      obtain ⟨ob,q,r⟩:=hTup
      exact ⟨ob,hk2 T ob (W.apart _ _ _ hmid) q,r⟩
    have dr:DRel X p' x xv:=(hv i' xv x hpx hx).mono sp
    have e3:ap [i,j] [.d (.int ((0+i':Nat):Int)),.d x] loc=some l1:=by
      exact (kS (show (if [i,j].length=[Dat.int ((0+i':Nat):Int),x].length then ap [i,j] [.d (.int ((0+i':Nat):Int)),.d x] loc else none)=some l1 from eb)).2
    refine n5 hh hm e3 rfl I2 hT2 ⟨_,_,rfl,by rw [Nat.zero_add]; exact ek,xv,[],rfl,dr,rfl⟩ fun s' I3=>?_
    have has2:=has _ _ hst2
    have I4:=I3.swap (h':=s'.heap) (tk:=s'.toks) hl has2 hc fun b Z ob e=>e
    refine K s' I4 (W.frame _ _ _ hst2 fun b hb ob eb'=>?_)
    have:b ∈ [e,it]∨(p b).isSome:=by
      rcases List.mem_cons.mp hb with hq_ | hb
      · rw [hq_]; exact .inl (.head _)
      · rcases hfp b hb with rfl | h
        · exact .inl (.tail _ (.head _))
        · exact .inr h
    rcases this with hb | hb
    · exact I3.ole _ _ ((dv hb).trans eb')
    · refine xe1 (Option.isSome_iff_exists.mp hb) fun ob2 q=>?_
      have q2:=I2.ple _ _ (sp _ _ q)
      rw [show h2.get? b=some ob from eb'] at q2; (replace q2:=iS q2; subst q2)
      exact I3.ple _ _ (sp _ _ q)
  · rw [hz] at hst
    refine W.done s _ _ hst fun h' tk hk=>?_
    obtain ⟨I1,al⟩:=I.unhold hl (has _ _ hst) hc
    exact K _ ((I1.alien (l:=[e,it]) (fun a ha=>(al a ha).1) fun b hb ob e=>hk b ob hb e).tok tk)
theorem DQ {A:Around} {o p:aE} {as:As} {mu:Mu} {F:Fm} {loc:ag} {s:Shared} {E Q:Value→Shared→Prop} {d:Dat} {ds:List Dat} {u:Value} (e:jS (.d d)=some ds) (hh:A.handled=none) (I:Inv X s₀ o p as mu F loc s) (r:DRel X p d u)
    (K:∀ h' fp Pr St,Draws X.prog X.w A.in1 s.heap.objs.size fp ds.length Pr St→s.heap.objs.size ∈ fp→(∀ b ∈ fp,b=s.heap.objs.size∨(p b).isSome)→(∀ i v d,Pr i v→ds[i]? = some d→DRel X p d v)→IsEnum h' (s.heap.objs.size+1) s.heap.objs.size 0 .none→St 0 h'→(∀ b ob,s.heap.get? b=some ob→h'.get? b=some ob) →
      Q (.ref (s.heap.objs.size+1)) { s with heap:=h' }):wpAny (model X.prog X.w) A (call (.type "enumerate") [u]) Q E s:=by
  have hh':A.in1.handled=none:=hh
  cases d with
  | lst xs =>
    cases e
    refine RSeq.el (iw (as:=as) (show VRel X p as (.d (.lst _)) u from r)) fun a vs m e3_ h1 h2=>?_
    subst e3_
    have hz:ds.length=vs.size:=by simpa using h2.length
    have hne:a ≠ s.heap.objs.size:=Nat.ne_of_lt (Heap.lt_size (I.ple _ _ h1))
    refine call_enumerate_list (items:=vs) ⟨_,I.ple _ _ h1,rfl,m,rfl⟩ fun h' he hit hsz hk=>?_
    refine K h' [s.heap.objs.size,a] _ _ (hz ▸ Draws.list hh' s.heap.objs.size a hne vs) (.head _) (fun b hb=>?_) (fun i v d hv hd=>?_) he ⟨hit,⟨_,hk _ _ (I.ple _ _ h1),rfl,m,rfl⟩⟩ hk
    · rcases List.mem_cons.mp hb with hq_ | hb
      · rw [hq_]; exact .inl rfl
      · rw [List.mem_singleton] at hb; rw [hb]; exact .inr (by rw [h1]; rfl)
    · obtain ⟨u,hu,dr⟩:=h2.get.2 i d hd
      have hv:vs[i]? = some v:=hv
      rw [Array.getElem?_toList,hv] at hu; (replace hu:=iS hu; subst hu); exact dr
  | tup xs =>
    cases e
    refine RSeq.el (fR (as:=as) (show VRel X p as (.d (.tup _)) u from r)) fun a vs m e3_ h1 h2=>?_
    subst e3_
    have hz:ds.length=vs.size:=by simpa using h2.length
    have hne:a ≠ s.heap.objs.size:=Nat.ne_of_lt (Heap.lt_size (I.ple _ _ h1))
    refine xt (I.ple _ _ h1) fun h' he hit hsz hk=>?_
    refine K h' [s.heap.objs.size,a] _ _ (hz ▸ GG hh' s.heap.objs.size a hne vs) (.head _) (fun b hb=>?_) (fun i v d hv hd=>?_) he ⟨hit,⟨_,hk _ _ (I.ple _ _ h1),rfl,m,rfl⟩⟩ hk
    · rcases List.mem_cons.mp hb with hq_ | hb
      · rw [hq_]; exact .inl rfl
      · rw [List.mem_singleton] at hb; rw [hb]; exact .inr (by rw [h1]; rfl)
    · obtain ⟨u,hu,dr⟩:=h2.get.2 i d hd
      have hv:vs[i]? = some v:=hv
      rw [Array.getElem?_toList,hv] at hu; (replace hu:=iS hu; subst hu); exact dr
  | _=>exact nS e
theorem yZ {i j:Nat} {it:CE} {b:CSs} (hX:AmbOK X P) (hC:cr X s₀ C n) (hb:jF X s₀ C n b):iT X s₀ C n (.forEnum i j it b):=fun kd F x A o p as mu mu' loc loc' s fl Q E hm hA hR I e K=>by
  refine hm (fun x=>wpAny (model X.prog X.w) A (exec x F.env) Q E s) fun t iter body q1 q2 pos ht hk h1 h2=>?_
  rw [wj] at e
  refine bJ e fun x1 m1 e1 f1=>?_
  clear e
  refine bg f1 fun xs e2 e3=>?_
  clear f1
  have hst:=Dr h1 e1
  refine wpAny_For (Call_ (qy hX I ((hA _).2.1 hk) hX.enm (by decide +kernel) ?_) rfl) (fun x=>rfl)
  rw [cB (iP hst),c6]
  refine PySem.callWith_type d3 (ej (qV (aG hX hC _ h1 hA hR I e1 fun p1 bv s1 u1 sp1 sa1 I1 r1=>?_)))
  cases x1 with
  | r k=>exact nS e2
  | clo k=>exact nS e2
  | d d =>
    refine DQ e2 hR.hand I1 r1 fun h' fp Pr St D hif hfp hv he hst0 hk'=>?_
    refine wpAny_pyIter_enum he ?_
    have al1:=I1.fresh_of (a:=s1.heap.objs.size) (Nat.le_refl _)
    have al2:=I1.fresh_of (a:=s1.heap.objs.size+1) (Nat.le_succ _)
    have I2:=I1.keeps hk'
    have al:∀ a ∈ [s1.heap.objs.size+1,s1.heap.objs.size],cH X o p1 bv m1 F a:=tT (al2) (al1)
    have hc:∀ x c,F.env.cells.lookup x=some c→c ∉ [s1.heap.objs.size+1,s1.heap.objs.size]:=fun x c hx hm=>I2.no_cell (al c hm) x c hx rfl
    have IH:=I2.hold al
    have hl:∀ a ∈ [s1.heap.objs.size+1,s1.heap.objs.size],o a=none:=fun a ha=>(al a ha).2.1
    have hef:s1.heap.objs.size+1 ∉ fp:=fun hm=>by
      rcases hfp _ hm with q | q
      · exact absurd q (Nat.succ_ne_self _)
      · rw [al2.1] at q; cases q
    exact sk (yh hR.hand (ht.okn hA) hl hc D (Nat.succ_ne_self _) hef hif hfp hv) hb h2 hA hR IH ⟨⟨_,he⟩,hst0⟩ hl hc e3 (fun p' as' s' f a b c d=>K p' as' s' f (sp1.trans a) (sa1.trans b) c d) fun f s' q=>q
theorem zf (hX:AmbOK X P) (hC:cr X s₀ C n) (c:CSs):jF X s₀ C n c:=qP hX hC c fun i j it b hb=>yZ hX hC hb
end Mine.Internal
namespace Mine.Internal
variable {X:Amb} {P:Fn→FDef} {s₀:Shared}
theorem uR (hX:AmbOK X P):∀ n,cr X s₀ (an P n) n
  | 0=>fun f vs us A o p as mu mu' F loc s v Q E hR I r e K=>by exact nS e
  | n+1=>fun f vs us A o p as mu mu' F loc s v Q E hR I r e K=>by
    obtain ⟨fd,body,hK,hm⟩:=hX.fn f
    rw [BR] at e
    dsimp only at e
    split at e
    · rename_i hc
      refine bg e fun q0_ e1 e2=>?_
      clear e
      obtain ⟨fl,l2,m2⟩:=q0_
      refine zU hX.lim hK hR.room I r hc.1 hc.2 fun F' p' s' hn hsc hwr hfz hcd sp I'=>?_
      have hA:Agree F'.env (cx fd.scope):=fun x=>by
        have:F'.env.kindOf x=cx fd.scope x:=by unfold Env.kindOf cx; rw [hsc]
        rw [this]
        exact ⟨id,id,id,.inr⟩
      rw [← hn,← hwr,← hfz] at hm
      have e1':=e1
      refine zf hX (uR hX n) (P f).body hm hA (hR.rm F'.env) I' e1 fun p2 eH s2 fw sp2 sa2 I2 fr=>?_
      have I3:=I.leave (o':=o) I2 (sp.trans sp2) sa2
      have fin:∀ (vv:Val) (w:Value),VRel X p2 eH vv w→cE (P f).cut mu.length vv m2=some (v,mu')→Q w s2:=fun vv w vr e2=>by
        unfold cE at e2
        split at e2
        · split at e2
          · rename_i hok
            rw [Bool.and_eq_true] at hok
            (refine dx e2 fun h1_ h2_=>?_; subst h1_; subst h2_)
            rw [← I.len] at hok
            have hl:mu.length=as.length:=I.len.symm
            refine K p2 as s2 _ (sp.trans sp2) (List.prefix_refl _) ?_ ?_
            · rw [hl]; exact I3.cut (I.leave_fr (o':=o) I2 (sp.trans sp2)) sa2 hok.2
            · exact (vr.cut (as:=[]) List.nil_prefix hok.1).mono Sub.refl List.nil_prefix
          · exact nS e2
        · (refine dx e2 fun h1_ h2_=>?_; subst h1_; subst h2_)
          exact K p2 eH s2 _ (sp.trans sp2) sa2 I3 vr
      cases fl with
      | next=>have fr:fw=.next:=fr; subst fr; exact fin _ _ hU e2
      | ret v=>obtain ⟨w,rfl,h⟩:=fr; exact fin _ _ h e2
    · exact nS e
end Mine.Internal
namespace Mine.Internal
section
variable {X:Amb} {s₀ s:Shared} {o p:aE}
structure Inv0 (X:Amb) (s₀:Shared) (p:aE) (s:Shared):Prop where
  sh:∃ tk,s={ s₀ with heap:=s.heap,toks:=tk }
  base:Sub X.H₀.get? p
  ple:Sub p s.heap.get?
  tab:p X.tab=none
  tb:∃ ps,s.heap.get? X.tab=some (tabObj ps)∧TabOK X p ps
noncomputable abbrev GZ:aE:=fun Z=>none
theorem yK {prog:Program} {w:World} {A:Around} {R:Result→Shared→Prop} {d:FDef} {a:Addr} {fd:FuncData} {body:List Stmt} {vs:List Val} {us:List Value}
    (hX:X.H₀.NoLimit) (K:FnOK X d a fd body) (hr:A.depth < recursionLimit) (I:Inv0 X s₀ p s) (hv:VRels X p [] vs us) (h1:vs.length≤d.params) (h2:d.params - vs.length≤d.dflts.length)
    (h:∀ F' p' s',F'.names=d.strs→F'.env.scope=fd.scope→F'.wr=d.wr.map Str.ofString→F'.fz=d.fz.map Str.ofString→F'.env.code=fd.code→Sub p p' →
      Inv X s₀ GZ p' [] [] F' ((vs++((d.dflts.drop (d.dflts.length - (d.params - vs.length))).map Val.d)).map some++List.replicate (d.names.length - d.params) none) s' →
      wpAny (model prog w) (A.deeper F'.env) (execs body F'.env) (fun f s''=>R (.ok (.ret (match f with | .ret v=>v | _=>.none))) s'') (fun Z Z=>False) s') :
    codeAny (model prog w) A (.call (.ref a) ⟨us,[]⟩) R s:=by
  obtain ⟨ob,ho,hdat⟩:=K.at_
  have keep:∀ b ob,X.H₀.get? b=some ob→s.heap.get? b=some ob:=fun b ob e=>I.ple _ _ (I.base _ _ e)
  have lu:=hv.length
  obtain ⟨ds,hds,hb⟩:=K.bind s us keep (by exact yF h1 lu) (by exact H7 h2 lu)
  have hargs:VRels X p [] (vs++((d.dflts.drop (d.dflts.length - (d.params - vs.length))).map Val.d)) (us++ds):=by
    rw [lu]; exact hv.append (VRels.ofD (hds.mono I.base))
  have lds:(d.dflts.drop (d.dflts.length - (d.params - us.length))).length=ds.length:=hds.length
  have la:(us++ds).length=d.params:=by rw [List.length_append,← lds,List.length_drop]; exact Ib h1 h2 lu
  have lar:d.args.length=d.params:=by unfold FDef.args FDef.strs; rw [List.length_take,List.length_map]; exact Nat.min_eq_left K.pars
  have ndA:d.args.Nodup:=(List.take_sublist _ _).nodup K.nodup
  have keys:(d.args.zip (us++ds)).map (·.1)=d.args:=ot (by omega)
  have hkind:∀ x ∈ d.args.zip (us++ds),fd.scope.names.lookup x.1=some .local∨(fd.scope.names.lookup x.1=some .cell∧((cellsFrom (s.heap.objs.size+1) fd.scope.names []).lookup x.1).isSome=true):=fun x hx=>by
    have:x.1 ∈ d.args:=by rw [← keys]; exact List.mem_map_of_mem hx
    rcases K.kinds _ this with k | k
    · exact .inl k
    · exact .inr ⟨k,cellsFrom_some _ _ _ (.inl k)⟩
  refine codeAny_call_function hr (keep _ _ ho) hdat K.co K.gen K.body (K.code.keeps keep) (hb _ _ _ _ ?_)
  rw [K.clos]
  refine wpAny_newFunctionEnv_cells K.kind hkind fun env he s' x=>?_
  have hk₁:=x.toInCall.keep
  refine ⟨hX.keeps fun b ob e=>hk₁ b ob (keep b ob e),codeAny_func ?_⟩
  obtain ⟨h₁,tk,rfl,_⟩:=x.done
  have cnd:(env.cells.map (·.1)).Nodup:=by
    rw [he]
    exact cellsFrom_names fd.scope.names 0 (s.heap.objs.size+1) [] [] rfl ▸ K.cnd
  have esc:env.scope=fd.scope:=by rw [he]; rfl
  have eL:env.locals=s.heap.objs.size:=by rw [he]; rfl
  have eC:env.code=fd.code:=by rw [he]; rfl
  have eQ:env.qual=fd.qualname ++ ".<locals>." := by rw [he]; rfl
  have eG:env.globals=mainGlobals:=by rw [he]; exact K.glob
  have eB:env.builtins=builtinsNs:=by rw [he]; exact K.bltn
  have ec:env.cells=cellsFrom (s.heap.objs.size+1) fd.scope.names []:=by rw [he]; rfl
  have lk:∀ {n:Str} {c:Addr},(n,c) ∈ env.cells→env.cells.lookup n=some c:=fun hm=>lookup_of_mem_nodup cnd hm
  have ab:=x.above
  rw [eL] at ab
  have cAt:∀ {n:Str} {c:Addr},(n,c) ∈ env.cells→h₁.IsCell c (bindC env.kindOf (d.args.zip (us++ds)) (fun Z=>none) n):=fun hm=>x.cell _ _ (lk hm)
  let fz:=d.fz.map Str.ofString
  have mfz:∀ {c:Addr},c ∈ fU fz env.cells→∃ n,(n,c) ∈ env.cells∧n ∈ fz:=fun hc=>by
    refine xe1 (List.mem_map.mp hc) fun q r_=>aN r_ fun hq e2_=>?_
    subst e2_
    have:=List.mem_filter.mp hq
    exact ⟨q.1,this.1,of_decide_eq_true this.2⟩
  have mno:∀ {c:Addr},c ∈ pt fz env.cells→∃ n,(n,c) ∈ env.cells∧n ∉ fz:=fun hc=>by
    refine xe1 (List.mem_map.mp hc) fun q r_=>aN r_ fun hq e2_=>?_
    subst e2_
    have:=List.mem_filter.mp hq
    exact ⟨q.1,this.1,of_decide_eq_true this.2⟩
  obtain ⟨ps,et,tt⟩:=I.tb
  have tlt:X.tab < s.heap.objs.size:=Heap.lt_size et
  have up:∀ {c:Addr},s.heap.objs.size≤c→p c=none∧c ≠ X.tab:=fun hc=>by
    refine ⟨?_,fun q=>absurd tlt (Nat.not_lt.mpr (q ▸ hc))⟩
    cases q:p _ with
    | none=>rfl
    | some ob=>exact absurd (Heap.lt_size (I.ple _ _ q)) (Nat.not_lt.mpr hc)
  have cUp:∀ {n:Str} {c:Addr},(n,c) ∈ env.cells→s.heap.objs.size≤c:=fun hm=>Nat.le_of_lt (ab _ _ hm)
  let p':=yo p (fU fz env.cells) h₁
  have hp:Sub p p':=fun c ob e=>by
    show (if c ∈ fU fz env.cells then _ else _)=_
    rw [if_neg fun k=>by obtain ⟨n,hm,_⟩:=mfz k; rw [(up (cUp hm)).1] at e; cases e]; exact e
  have apartN:∀ {n n':Str} {c:Addr},(n,c) ∈ env.cells→(n',c) ∈ env.cells→n=n':=fun a b=>name_of_addr x.apart a b
  let F':Fm:=⟨env,s.heap.objs.size::pt fz env.cells,d.strs,d.wr.map Str.ofString,fz⟩
  have own_up:∀ c ∈ F'.own,s.heap.objs.size≤c:=fun c hc=>by
    rcases List.mem_cons.mp hc with rfl | hc
    · exact Nat.le_refl _
    · obtain ⟨n,hm,_⟩:=mno hc; exact cUp hm
  have pdis:∀ c ∈ F'.own,p' c=none:=fun c hc=>by
    show (if c ∈ fU fz env.cells then _ else _)=_
    rw [if_neg fun k=>?_]
    · exact (up (own_up c hc)).1
    · obtain ⟨n,hm,hn⟩:=mfz k
      rcases List.mem_cons.mp hc with rfl | hc
      · exact absurd (ab _ _ hm) (Nat.lt_irrefl _)
      · obtain ⟨n',hm',hn'⟩:=mno hc
        exact hn' (apartN hm hm' ▸ hn)
  refine wpAny_mono (h F' p' _ rfl esc rfl rfl eC hp ⟨?_,I.base.trans hp,fun c ob e=>?_,fun c ob e=>(by exact nS e),fun c e=>rfl,rfl,fun i q m e f=>(by exact nS e),?_,fun c hc=>?_,?_,?_⟩) (fun Z Z z=>z) (fun Z Z z=>z.elim)
  · obtain ⟨tk₀,e⟩:=I.sh
    exact ⟨tk,by rw [e]⟩
  · have e:(if c ∈ fU fz env.cells then h₁.get? c else p c)=some ob:=e
    split at e
    · exact e
    · exact hk₁ _ _ (I.ple _ _ e)
  · refine List.nodup_cons.mpr ⟨fun k=>?_,List.nodup_append.mpr ⟨List.nodup_cons.mpr ⟨fun k=>?_,?_⟩,List.nodup_nil,fun c k c' k' q=>(by cases k')⟩⟩
    · rcases List.mem_append.mp k with k | k
      · exact (up (own_up _ k)).2 rfl
      · cases k
    · obtain ⟨n,hm,_⟩:=mno k
      exact absurd (ab _ _ hm) (Nat.lt_irrefl _)
    · have:=x.apart
      refine List.Pairwise.map _ (fun Z Z h=>h) (List.Pairwise.filter _ ?_)
      exact this
  · rcases List.mem_cons.mp hc with rfl | hc
    · refine ⟨?_,rfl,_,hk₁ _ _ et⟩
      show (if X.tab ∈ fU fz env.cells then _ else _)=_
      rw [if_neg fun k=>?_]
      · exact I.tab
      · obtain ⟨n,hm,_⟩:=mfz k; exact (up (cUp hm)).2 rfl
    · rcases List.mem_append.mp hc with hc | hc
      · refine ⟨pdis c hc,rfl,?_⟩
        rcases List.mem_cons.mp hc with rfl | hc
        · have:=x.toInCall.ns
          rw [eL] at this
          obtain ⟨ob,_,_,e,_⟩:=this
          exact ⟨ob,e⟩
        · obtain ⟨n,hm,_⟩:=mno hc
          obtain ⟨ob,e,_⟩:=cAt hm
          exact ⟨ob,e⟩
      · cases hc
  · refine ⟨by rw [show F'.env.scope=fd.scope from esc]; exact K.kind,eG,eB,?_,K.nodup,K.plain,by show env.locals ∈ _; rw [eL]; exact .head _,⟨_,x.toInCall.ns,fun i y v hi hl kn=>?_⟩,fun y z c hy hz=>apartN (mem_of_lookup hy) (mem_of_lookup hz),fun y c hy=>?_,fun y c hy=>?_,fun y hy=>?_,fun y hy c hc=>?_,fun y hy=>?_,fun y hy=>?_⟩
    · have:=hargs.length
      simp only [List.length_append,List.length_map,List.length_replicate] at this ⊢
      rw [List.length_append] at la
      show _=d.strs.length
      unfold FDef.strs
      rw [List.length_map]
      have:=K.pars
      omega
    · have hL:(vs++((d.dflts.drop (d.dflts.length - (d.params - vs.length))).map Val.d)).length=d.params:=by rw [hargs.length]; exact la
      have hi':i < d.params:=by
        by_cases k:i < d.params
        · exact k
        · rw [List.getElem?_append_right (by rw [List.length_map,hL]; exact GH k)] at hl
          simp only [List.getElem?_replicate] at hl
          split at hl <;> cases hl
      rw [List.getElem?_append_left (by rw [List.length_map,hL]; exact hi'),List.getElem?_map] at hl
      refine bM hl fun v' hv' e'=>?_
      cases e'
      obtain ⟨u,hu,vr⟩:=hargs.get.2 i v hv'
      have ha:d.args[i]? = some y:=by unfold FDef.args; rw [List.getElem?_take_of_lt hi']; exact hi
      have hm:(y,u) ∈ d.args.zip (us++ds):=sA ha hu
      refine ⟨u,?_,vr.mono hp (List.prefix_refl _)⟩
      have nd2:((d.args.zip (us++ds)).map (·.1)).Nodup:=by rw [keys]; exact ndA
      by_cases k:env.kindOf y=some .local
      · exact .inl ⟨k,oH nd2 hm k⟩
      · rcases hkind _ hm with q | ⟨q,z⟩
        · exact absurd (show env.kindOf y=some .local by unfold Env.kindOf; rw [esc]; exact q) k
        · have q':env.kindOf y=some .cell:=by unfold Env.kindOf; rw [esc]; exact q
          refine xe1 (Option.isSome_iff_exists.mp z) fun c hc=>?_
          have hc:env.cells.lookup y=some c:=by rw [ec]; exact hc
          exact .inr ⟨.inl q',c,hc,by have:=cAt (mem_of_lookup hc); rw [oU nd2 hm k] at this; exact this⟩
    · show c ≠ env.locals
      rw [eL]; exact Nat.ne_of_gt (ab _ _ (mem_of_lookup hy))
    · refine ⟨⟨_,cAt (mem_of_lookup hy)⟩,?_⟩
      by_cases k:y ∈ fz
      · refine .inr (.inl ?_)
        obtain ⟨ob,e,_⟩:=cAt (mem_of_lookup hy)
        show (if c ∈ fU fz env.cells then _ else _:Option Obj).isSome=true
        rw [if_pos (mq (mem_of_lookup hy) k),e]; rfl
      · exact .inl (List.mem_cons_of_mem _ (kR (mem_of_lookup hy) k))
    · obtain ⟨q,nf⟩:=K.wr y hy
      have z:(env.cells.lookup y).isSome=true:=by rw [ec]; exact cellsFrom_some _ _ _ (.inl q)
      refine xe1 (Option.isSome_iff_exists.mp z) fun c hc=>?_
      exact ⟨c,by unfold Env.kindOf; rw [show F'.env.scope=fd.scope from esc]; exact q,hc,List.mem_cons_of_mem _ (kR (mem_of_lookup hc) nf)⟩
    · obtain ⟨ob,e,_⟩:=cAt (mem_of_lookup hc)
      show (if c ∈ fU fz env.cells then _ else _:Option Obj).isSome=true
      rw [if_pos (mq (mem_of_lookup hc) hy),e]; rfl
    · obtain ⟨q1,q2⟩:=K.lam y hy
      exact ⟨(show env.code=_ from eC).trans q1,by rw [show F'.env.qual=_ from eQ]; exact q2⟩
    · have hy':fd.scope.names.lookup y=some .cell∨fd.scope.names.lookup y=some .free:=by unfold Env.kindOf at hy; rw [show F'.env.scope=fd.scope from esc] at hy; exact hy
      rcases hy' with q | q
      · rw [show F'.env.cells=_ from ec]; exact cellsFrom_some _ _ _ (.inl q)
      · exact absurd rfl (K.nofree _ (mem_of_lookup q))
  · exact ⟨ps,hk₁ _ _ et,tt.mono hp⟩
theorem E7 {P:Fn→FDef} (hX:AmbOK X P) {A:Around} {n:Nat} {f:Fn} {ds:List Dat} {us:List Value} {b:Bool} {m:Mu} {R:Result→Shared→Prop} (hR:Rc (n+1) A) (h0:Sub X.H₀.get? s.heap.get?) (hn:X.H₀.get? X.tab=none)
    (ht:s.heap.get? X.tab=some (tabObj #[])) (hv:DRels X X.H₀.get? ds us) (e:an P (n+1) f (ds.map .d) []=some (.d (.bool b),m))
    (K:∀ h' tk,(∀ a ob,X.H₀.get? a=some ob→h'.get? a=some ob)→(∃ ps,h'.get? X.tab=some (tabObj ps))→R (.ok (.ret (.bool b))) { s with heap:=h',toks:=tk }) :
    codeAny (model X.prog X.w) A (.call (.ref (X.fn f)) ⟨us,[]⟩) R s:=by
  obtain ⟨fd,body,hK,hm⟩:=hX.fn f
  rw [BR] at e
  dsimp only at e
  split at e
  · rename_i hc
    refine bg e fun q0_ e1 e2=>?_
    obtain ⟨fl,l2,m2⟩:=q0_
    have I:Inv0 X s X.H₀.get? s:=⟨⟨s.toks,rfl⟩,Sub.refl,h0,hn,#[],ht,trivial,fun pos cv h=>by simp [codeAmong] at h⟩
    refine yK hX.lim hK hR.room I (vs:=ds.map .d) (VRels.ofD hv) hc.1 hc.2 fun F' p' s' hn hsc hwr hfz hcd sp I'=>?_
    have hA:Agree F'.env (cx fd.scope):=fun x=>by
      have:F'.env.kindOf x=cx fd.scope x:=by unfold Env.kindOf cx; rw [hsc]
      rw [this]
      exact ⟨id,id,id,.inr⟩
    rw [← hn,← hwr,← hfz] at hm
    refine zf hX (uR hX n) (P f).body hm hA (hR.rm F'.env) I' e1 fun p2 eH s2 fw sp2 sa2 I2 fr=>?_
    have fin:∀ (vv:Val) (w:Value),VRel X p2 eH vv w→cE (P f).cut ([]:Mu).length vv m2=some (.d (.bool b),m)→R (.ok (.ret w)) s2:=fun vv w vr e2=>by
      have:vv=.d (.bool b):=by
        unfold cE at e2
        split at e2
        · split at e2
          · (refine dx e2 fun h1_ h2_=>?_; subst h1_; subst h2_); rfl
          · exact nS e2
        · (refine dx e2 fun h1_ h2_=>?_; subst h1_; subst h2_); rfl
      subst this
      cases iU vr
      obtain ⟨tk,es⟩:=I2.sh
      obtain ⟨ps,et,_⟩:=I2.tb
      rw [es]
      exact K _ tk (fun a ob e=>I2.ple _ _ (I2.base _ _ e)) ⟨ps,et⟩
    cases fl with
    | next=>have fr:fw=.next:=fr; subst fr; exact fin _ _ hU e2
    | ret v=>obtain ⟨w,rfl,h⟩:=fr; exact fin _ _ h e2
  · exact nS e
end
end Mine.Internal
namespace Mine.Internal
theorem eP {c:Prop} [Decidable c] {f:c→Bool} {G:Prop} (h:(if h:c then f h else false)=true) (g:∀ h:c,f h=true→G):G:=by
  by_cases hc:c
  · rw [dif_pos hc] at h; exact g hc h
  · rw [dif_neg hc] at h; exact (Bool.false_ne_true h).elim
noncomputable def wName (E:Expr) (K:Str→Pos→Bool):Bool:=if h:E.ctorIdx=23 then Expr.Name.elim (motive_1:=fun Z=>Bool) E h K else false
theorem dM {E:Expr} {K:Str→Pos→Bool} {G:Expr→Prop} (h:wName E K=true) (g:∀ x p,K x p=true→G (.Name x p)):G E :=
  eP h fun h'=>Expr.Name.elim (motive_1:=fun E=>∀ h',Expr.Name.elim (motive_1:=fun Z=>Bool) E h' K=true→G E) E h' (fun x p Z h=>g _ _ h) h'
noncomputable def eM (E:Expr) (K:Const→Nat→Pos→Bool):Bool:=if h:E.ctorIdx=19 then Expr.Constant.elim (motive_1:=fun Z=>Bool) E h K else false
theorem dp {E:Expr} {K:Const→Nat→Pos→Bool} {G:Expr→Prop} (h:eM E K=true) (g:∀ c k p,K c k p=true→G (.Constant c k p)):G E :=
  eP h fun h'=>Expr.Constant.elim (motive_1:=fun E=>∀ h',Expr.Constant.elim (motive_1:=fun Z=>Bool) E h' K=true→G E) E h' (fun c k p Z h=>g _ _ _ h) h'
noncomputable def kh (E:Expr) (K:List Expr→Nat→Pos→Bool):Bool:=if h:E.ctorIdx=25 then Expr.Tuple.elim (motive_1:=fun Z=>Bool) E h K else false
theorem g8 {E:Expr} {K:List Expr→Nat→Pos→Bool} {G:Expr→Prop} (h:kh E K=true) (g:∀ l k p,K l k p=true→G (.Tuple l k p)):G E :=
  eP h fun h'=>Expr.Tuple.elim (motive_1:=fun E=>∀ h',Expr.Tuple.elim (motive_1:=fun Z=>Bool) E h' K=true→G E) E h' (fun l k p Z h=>g _ _ _ h) h'
noncomputable def Bu (E:Expr) (K:List Expr→Pos→Bool):Bool:=if h:E.ctorIdx=24 then Expr.List.elim (motive_1:=fun Z=>Bool) E h K else false
theorem AU {E:Expr} {K:List Expr→Pos→Bool} {G:Expr→Prop} (h:Bu E K=true) (g:∀ l p,K l p=true→G (.List l p)):G E :=
  eP h fun h'=>Expr.List.elim (motive_1:=fun E=>∀ h',Expr.List.elim (motive_1:=fun Z=>Bool) E h' K=true→G E) E h' (fun l p Z h=>g _ _ h) h'
noncomputable def tY (E:Expr) (K:Expr→Operator→Expr→Pos→Bool):Bool:=if h:E.ctorIdx=2 then Expr.BinOp.elim (motive_1:=fun Z=>Bool) E h K else false
theorem re {E:Expr} {K:Expr→Operator→Expr→Pos→Bool} {G:Expr→Prop} (h:tY E K=true) (g:∀ x o y p,K x o y p=true→G (.BinOp x o y p)):G E :=
  eP h fun h'=>Expr.BinOp.elim (motive_1:=fun E=>∀ h',Expr.BinOp.elim (motive_1:=fun Z=>Bool) E h' K=true→G E) E h' (fun x o y p Z h=>g _ _ _ _ h) h'
noncomputable def oj (E:Expr) (K:UnaryOp→Expr→Pos→Bool):Bool:=if h:E.ctorIdx=3 then Expr.UnaryOp.elim (motive_1:=fun Z=>Bool) E h K else false
theorem od {E:Expr} {K:UnaryOp→Expr→Pos→Bool} {G:Expr→Prop} (h:oj E K=true) (g:∀ o x p,K o x p=true→G (.UnaryOp o x p)):G E :=
  eP h fun h'=>Expr.UnaryOp.elim (motive_1:=fun E=>∀ h',Expr.UnaryOp.elim (motive_1:=fun Z=>Bool) E h' K=true→G E) E h' (fun o x p Z h=>g _ _ _ h) h'
noncomputable def l9 (E:Expr) (K:Expr→List CmpOp→List Expr→Pos→Bool):Bool:=if h:E.ctorIdx=15 then Expr.Compare.elim (motive_1:=fun Z=>Bool) E h K else false
theorem kT {E:Expr} {K:Expr→List CmpOp→List Expr→Pos→Bool} {G:Expr→Prop} (h:l9 E K=true) (g:∀ x o l p,K x o l p=true→G (.Compare x o l p)):G E :=
  eP h fun h'=>Expr.Compare.elim (motive_1:=fun E=>∀ h',Expr.Compare.elim (motive_1:=fun Z=>Bool) E h' K=true→G E) E h' (fun x o l p Z h=>g _ _ _ _ h) h'
noncomputable def qh (E:Expr) (K:BoolOp→List Expr→Pos→Bool):Bool:=if h:E.ctorIdx=0 then Expr.BoolOp.elim (motive_1:=fun Z=>Bool) E h K else false
theorem pI {E:Expr} {K:BoolOp→List Expr→Pos→Bool} {G:Expr→Prop} (h:qh E K=true) (g:∀ o l p,K o l p=true→G (.BoolOp o l p)):G E :=
  eP h fun h'=>Expr.BoolOp.elim (motive_1:=fun E=>∀ h',Expr.BoolOp.elim (motive_1:=fun Z=>Bool) E h' K=true→G E) E h' (fun o l p Z h=>g _ _ _ h) h'
noncomputable def xQ (E:Expr) (K:Expr→Expr→Expr→Pos→Bool):Bool:=if h:E.ctorIdx=5 then Expr.IfExp.elim (motive_1:=fun Z=>Bool) E h K else false
theorem yp {E:Expr} {K:Expr→Expr→Expr→Pos→Bool} {G:Expr→Prop} (h:xQ E K=true) (g:∀ x y z p,K x y z p=true→G (.IfExp x y z p)):G E :=
  eP h fun h'=>Expr.IfExp.elim (motive_1:=fun E=>∀ h',Expr.IfExp.elim (motive_1:=fun Z=>Bool) E h' K=true→G E) E h' (fun x y z p Z h=>g _ _ _ _ h) h'
noncomputable def wAttribute (E:Expr) (K:Expr→Str→Pos→Bool):Bool:=if h:E.ctorIdx=20 then Expr.Attribute.elim (motive_1:=fun Z=>Bool) E h K else false
theorem c4 {E:Expr} {K:Expr→Str→Pos→Bool} {G:Expr→Prop} (h:wAttribute E K=true) (g:∀ x s p,K x s p=true→G (.Attribute x s p)):G E :=
  eP h fun h'=>Expr.Attribute.elim (motive_1:=fun E=>∀ h',Expr.Attribute.elim (motive_1:=fun Z=>Bool) E h' K=true→G E) E h' (fun x s p Z h=>g _ _ _ h) h'
noncomputable def jy (E:Expr) (K:Expr→Expr→Pos→Bool):Bool:=if h:E.ctorIdx=21 then Expr.Subscript.elim (motive_1:=fun Z=>Bool) E h K else false
theorem jo {E:Expr} {K:Expr→Expr→Pos→Bool} {G:Expr→Prop} (h:jy E K=true) (g:∀ x y p,K x y p=true→G (.Subscript x y p)):G E :=
  eP h fun h'=>Expr.Subscript.elim (motive_1:=fun E=>∀ h',Expr.Subscript.elim (motive_1:=fun Z=>Bool) E h' K=true→G E) E h' (fun x y p Z h=>g _ _ _ h) h'
noncomputable def zb (E:Expr) (K:Option Expr→Option Expr→Option Expr→Pos→Bool):Bool:=if h:E.ctorIdx=26 then Expr.Slice.elim (motive_1:=fun Z=>Bool) E h K else false
theorem yz {E:Expr} {K:Option Expr→Option Expr→Option Expr→Pos→Bool} {G:Expr→Prop} (h:zb E K=true) (g:∀ x y z p,K x y z p=true→G (.Slice x y z p)):G E :=
  eP h fun h'=>Expr.Slice.elim (motive_1:=fun E=>∀ h',Expr.Slice.elim (motive_1:=fun Z=>Bool) E h' K=true→G E) E h' (fun x y z p Z h=>g _ _ _ _ h) h'
noncomputable def wCall (E:Expr) (K:Expr→List Expr→List Keyword→Pos→Bool):Bool:=if h:E.ctorIdx=16 then Expr.Call.elim (motive_1:=fun Z=>Bool) E h K else false
theorem dJ {E:Expr} {K:Expr→List Expr→List Keyword→Pos→Bool} {G:Expr→Prop} (h:wCall E K=true) (g:∀ f l w p,K f l w p=true→G (.Call f l w p)):G E :=
  eP h fun h'=>Expr.Call.elim (motive_1:=fun E=>∀ h',Expr.Call.elim (motive_1:=fun Z=>Bool) E h' K=true→G E) E h' (fun f l w p Z h=>g _ _ _ _ h) h'
noncomputable def mZ (E:Expr) (K:Expr→List Comprehension→Scope→Pos→Bool):Bool:=if h:E.ctorIdx=8 then Expr.ListComp.elim (motive_1:=fun Z=>Bool) E h K else false
theorem mW {E:Expr} {K:Expr→List Comprehension→Scope→Pos→Bool} {G:Expr→Prop} (h:mZ E K=true) (g:∀ x gs c p,K x gs c p=true→G (.ListComp x gs c p)):G E :=
  eP h fun h'=>Expr.ListComp.elim (motive_1:=fun E=>∀ h',Expr.ListComp.elim (motive_1:=fun Z=>Bool) E h' K=true→G E) E h' (fun x gs c p Z h=>g _ _ _ _ h) h'
noncomputable def vt (E:Expr) (K:Arguments→Expr→Scope→Pos→Bool):Bool:=if h:E.ctorIdx=4 then Expr.Lambda.elim (motive_1:=fun Z=>Bool) E h K else false
theorem wb {E:Expr} {K:Arguments→Expr→Scope→Pos→Bool} {G:Expr→Prop} (h:vt E K=true) (g:∀ a b c p,K a b c p=true→G (.Lambda a b c p)):G E :=
  eP h fun h'=>Expr.Lambda.elim (motive_1:=fun E=>∀ h',Expr.Lambda.elim (motive_1:=fun Z=>Bool) E h' K=true→G E) E h' (fun a b c p Z h=>g _ _ _ _ h) h'
noncomputable def r7 (E:Expr) (K:List (Option Expr)→List Expr→Pos→Bool):Bool:=if h:E.ctorIdx=6 then Expr.Dict.elim (motive_1:=fun Z=>Bool) E h K else false
theorem oz {E:Expr} {K:List (Option Expr)→List Expr→Pos→Bool} {G:Expr→Prop} (h:r7 E K=true) (g:∀ a l p,K a l p=true→G (.Dict a l p)):G E :=
  eP h fun h'=>Expr.Dict.elim (motive_1:=fun E=>∀ h',Expr.Dict.elim (motive_1:=fun Z=>Bool) E h' K=true→G E) E h' (fun a l p Z h=>g _ _ _ h) h'
noncomputable def jG (E:Stmt) (K:List Expr→Expr→Pos→Bool):Bool:=if h:E.ctorIdx=5 then Stmt.Assign.elim (motive_2:=fun Z=>Bool) E h K else false
theorem ik {E:Stmt} {K:List Expr→Expr→Pos→Bool} {G:Stmt→Prop} (h:jG E K=true) (g:∀ a x p,K a x p=true→G (.Assign a x p)):G E :=
  eP h fun h'=>Stmt.Assign.elim (motive_2:=fun E=>∀ h',Stmt.Assign.elim (motive_2:=fun Z=>Bool) E h' K=true→G E) E h' (fun a x p Z h=>g _ _ _ h) h'
noncomputable def IE (E:Stmt) (K:Expr→List Stmt→List Stmt→Pos→Bool):Bool:=if h:E.ctorIdx=12 then Stmt.If.elim (motive_2:=fun Z=>Bool) E h K else false
theorem EP {E:Stmt} {K:Expr→List Stmt→List Stmt→Pos→Bool} {G:Stmt→Prop} (h:IE E K=true) (g:∀ x a b p,K x a b p=true→G (.If x a b p)):G E :=
  eP h fun h'=>Stmt.If.elim (motive_2:=fun E=>∀ h',Stmt.If.elim (motive_2:=fun Z=>Bool) E h' K=true→G E) E h' (fun x a b p Z h=>g _ _ _ _ h) h'
noncomputable def uO (E:Stmt) (K:Option Expr→Pos→Bool):Bool:=if h:E.ctorIdx=3 then Stmt.Return.elim (motive_2:=fun Z=>Bool) E h K else false
theorem wk {E:Stmt} {K:Option Expr→Pos→Bool} {G:Stmt→Prop} (h:uO E K=true) (g:∀ x p,K x p=true→G (.Return x p)):G E :=
  eP h fun h'=>Stmt.Return.elim (motive_2:=fun E=>∀ h',Stmt.Return.elim (motive_2:=fun Z=>Bool) E h' K=true→G E) E h' (fun x p Z h=>g _ _ h) h'
noncomputable def Br (E:Stmt) (K:Expr→Pos→Bool):Bool:=if h:E.ctorIdx=24 then Stmt.Expr.elim (motive_2:=fun Z=>Bool) E h K else false
theorem z5 {E:Stmt} {K:Expr→Pos→Bool} {G:Stmt→Prop} (h:Br E K=true) (g:∀ x p,K x p=true→G (.Expr x p)):G E :=
  eP h fun h'=>Stmt.Expr.elim (motive_2:=fun E=>∀ h',Stmt.Expr.elim (motive_2:=fun Z=>Bool) E h' K=true→G E) E h' (fun x p Z h=>g _ _ h) h'
noncomputable def AO (E:Stmt) (K:Expr→Expr→List Stmt→List Stmt→Pos→Bool):Bool:=if h:E.ctorIdx=9 then Stmt.For.elim (motive_2:=fun Z=>Bool) E h K else false
theorem vb {E:Stmt} {K:Expr→Expr→List Stmt→List Stmt→Pos→Bool} {G:Stmt→Prop} (h:AO E K=true) (g:∀ t x a b p,K t x a b p=true→G (.For t x a b p)):G E :=
  eP h fun h'=>Stmt.For.elim (motive_2:=fun E=>∀ h',Stmt.For.elim (motive_2:=fun Z=>Bool) E h' K=true→G E) E h' (fun t x a b p Z h=>g _ _ _ _ _ h) h'
section
variable {α:Type}
noncomputable def wNil (l:List α) (b:Bool):Bool:=match l with | []=>b | _=>false
theorem b9 {l:List α} {b:Bool} {G:List α→Prop} (h:wNil l b=true) (g:b=true→G []):G l:=by cases l <;> first | exact g h | exact (Bool.false_ne_true h).elim
noncomputable def wCons (l:List α) (k:α→List α→Bool):Bool:=match l with | []=>false | a::r=>k a r
theorem gW {l:List α} {k:α→List α→Bool} {G:List α→Prop} (h:wCons l k=true) (g:∀ a r,k a r=true→G (a::r)):G l:=by cases l <;> first | exact g _ _ h | exact (Bool.false_ne_true h).elim
theorem mG {l:List α} {b:Bool} {G:Prop} (h:wNil l b=true) (g:l=[]→b=true→G):G:=b9 (G:=fun l'=>l=l'→G) h (fun h e=>g e h) rfl
noncomputable def wOne (l:List α) (k:α→Bool):Bool:=wCons l fun a r=>wNil r (k a)
theorem cu {l:List α} {k:α→Bool} {G:List α→Prop} (h:wOne l k=true) (g:∀ a,k a=true→G [a]):G l:=gW (G:=G) h fun a r h=>b9 (G:=fun r=>G (a::r)) h (g a)
noncomputable def wNo (l:Option α) (b:Bool):Bool:=match l with | none=>b | _=>false
theorem sD {l:Option α} {b:Bool} {G:Option α→Prop} (h:wNo l b=true) (g:b=true→G none):G l:=by cases l <;> first | exact g h | exact (Bool.false_ne_true h).elim
theorem Cf {l:Option α} {b:Bool} {G:Prop} (h:wNo l b=true) (g:l=none→b=true→G):G:=sD (G:=fun l'=>l=l'→G) h (fun h e=>g e h) rfl
noncomputable def tr (l:Option α) (k:α→Bool):Bool:=match l with | none=>false | some a=>k a
theorem mX {l:Option α} {k:α→Bool} {G:Option α→Prop} (h:tr l k=true) (g:∀ a,k a=true→G (some a)):G l:=by cases l <;> first | exact g _ h | exact (Bool.false_ne_true h).elim
theorem wA {a b:Bool} {G:Prop} (h:(a && b)=true) (g:a=true→b=true→G):G:=by rw [Bool.and_eq_true] at h; exact g h.1 h.2
noncomputable def wE [DecidableEq α] (a b:α) (r:Bool):Bool:=decide (a=b) && r
theorem b7 [DecidableEq α] {a b:α} {r:Bool} {G:α→Prop} (h:wE a b r=true) (g:r=true→G b):G a:=wA h fun h1 h2=>of_decide_eq_true h1 ▸ g h2
noncomputable def wD (p:Prop) [Decidable p] (r:Bool):Bool:=decide p && r
theorem aZ {p:Prop} [Decidable p] {r:Bool} {G:Prop} (h:wD p r=true) (g:p→r=true→G):G:=wA h fun h1 h2=>g (of_decide_eq_true h1) h2
end
noncomputable def vl (names:List Str) (ok:Str→Prop) [DecidablePred ok]:List Nat→List Expr→Bool
  | [],l=>wNil l true
  | i::is,l=>wCons l fun e r=>wName e fun x Z=>wD (names[i]? = some x) (wD (ok x) (vl names ok is r))
theorem mT {names:List Str} {ok:Str→Prop} [DecidablePred ok]:∀ {is:List Nat} {l:List Expr},vl names ok is l=true→MtTs names ok is l
  | [],_,h=>b9 (G:=fun l=>l=[]) h fun Z=>rfl
  | i::is,_,h=>gW (G:=MtTs names ok (i::is)) h fun e r h=>dM (G:=fun e=>MtTs names ok (i::is) (e::r)) h fun x p h=>aZ h fun h1 h=>aZ h fun h2 h=>⟨x,p,r,rfl,h1,h2,mT h⟩
noncomputable def tB (names:List Str) (ok:Str→Prop) [DecidablePred ok] (is:List Nat) (e:Expr):Bool :=
  match is with
  | [i]=>wName e fun x Z=>wD (names[i]? = some x) (decide (ok x))
  | i::j::is=>kh e fun l Z Z=>vl names ok (i::j::is) l
  | []=>kh e fun l Z Z=>vl names ok [] l
theorem si {names:List Str} {ok:Str→Prop} [DecidablePred ok] {is:List Nat} {e:Expr} (h:tB names ok is e=true):MtT names ok is e:=by
  match is with
  | [i]=>exact dM (G:=MtT names ok [i]) h fun x p h=>aZ h fun h1 h=>⟨x,p,rfl,h1,of_decide_eq_true h⟩
  | i::j::is=>exact g8 (G:=MtT names ok (i::j::is)) h fun l k p h=>⟨l,k,p,rfl,mT h⟩
  | []=>exact g8 (G:=MtT names ok []) h fun l k p h=>⟨l,k,p,rfl,mT h⟩
noncomputable def FU:List W→List (Option Expr)→Bool
  | [],l=>wNil l true
  | w::ws,l=>wCons l fun o r=>tr o fun e=>eM e fun c Z Z=>wE c (.str w.str) (FU ws r)
theorem yX:∀ {ws:List W} {l:List (Option Expr)},FU ws l=true→gM ws l
  | [],_,h=>b9 (G:=fun l=>l=[]) h fun Z=>rfl
  | w::ws,_,h=>gW (G:=gM (w::ws)) h fun o r h=>mX (G:=fun o=>gM (w::ws) (o::r)) h fun e h=>dp (G:=fun e=>gM (w::ws) (some e::r)) h fun c k p h =>
      b7 (G:=fun c=>gM (w::ws) (some (.Constant c k p)::r)) h fun h=>⟨k,p,r,rfl,yX h⟩
noncomputable def DW (sc:Scope) (kd:Kd) (names:List Str) (ts:List Nat):Bool :=
  wD (∀ q ∈ names.zipIdx,sc.names.lookup q.1=some .local→q.2 ∈ ts) <| wD (sc.kind=.function) <| wD (∀ x ∈ sc.names,x.2 ≠ .cell) <| wD (∀ x ∈ sc.names,sc.names.lookup x.1=some x.2) <|
    decide (∀ x ∈ sc.names,x.2=.free→kd x.1=some .cell∨kd x.1=some .free)
theorem zg {sc:Scope} {kd:Kd} {names:List Str} {ts:List Nat} (h:DW sc kd names ts=true):CompSc sc kd names ts :=
  aZ h fun h1 h=>aZ h fun h2 h=>aZ h fun h3 h=>aZ h fun h4 h=>⟨h1,h2,h3,h4,of_decide_eq_true h⟩
noncomputable def Gr (ps:Arguments) (b:Expr) (sc:Scope):Bool:=tY b fun x o y Z=>wE o .Add <| wName x fun s Z=>wE s gz <| wName y fun t Z=>wE t ca <|
  wD (ps.args.map (·.arg)=[gz]) <| wNil ps.posonlyargs <| wNil ps.kwonlyargs <| wNo ps.vararg <| wNo ps.kwarg <| wD (sc.kind=.function) <| wD (sc.isCoroutine=false) <| wD (sc.isGenerator=false) <|
  wD (sc.names.lookup gz=some .local) <| wD (sc.names.lookup ca=some .free) <| decide (∀ x ∈ sc.names,x.2 ≠ .cell)
theorem C1 {ps:Arguments} {b:Expr} {sc:Scope} (h:Gr ps b sc=true):LamOK ps b sc :=
  re (G:=fun b=>LamOK ps b sc) h fun x o y p3 h=>b7 (G:=fun o=>LamOK ps (.BinOp x o y p3) sc) h fun h=>dM (G:=fun x=>LamOK ps (.BinOp x .Add y p3) sc) h fun s p1 h=>b7 (G:=fun s=>LamOK ps (.BinOp (.Name s p1) .Add y p3) sc) h fun h =>
  dM (G:=fun y=>LamOK ps (.BinOp (.Name gz p1) .Add y p3) sc) h fun t p2 h=>b7 (G:=fun t=>LamOK ps (.BinOp (.Name gz p1) .Add (.Name t p2) p3) sc) h fun h =>
  aZ h fun h1 h=>mG h fun e1 h=>mG h fun e2 h=>Cf h fun e3 h=>Cf h fun e4 h=>aZ h fun k1 h=>aZ h fun k2 h=>aZ h fun k3 h=>aZ h fun l1 h=>aZ h fun l2 h =>
    ⟨⟨p1,p2,p3,rfl⟩,⟨h1,e1,e2,e3,e4⟩,⟨k1,k2,k3⟩,l1,l2,of_decide_eq_true h⟩
noncomputable def AA (g:Comprehension) (K:Expr→Expr→List Expr→Int→Bool):Bool:=K g.target g.iter g.ifs g.is_async
theorem uY {g:Comprehension} {K:Expr→Expr→List Expr→Int→Bool} {G:Comprehension→Prop} (h:AA g K=true) (k:∀ a b c d,K a b c d=true→G ⟨a,b,c,d⟩):G g:=by cases g; exact k _ _ _ _ h
noncomputable abbrev wB (a b:Bool):Bool:=a && b
mutual
noncomputable def cC (names:List Str):List Str→Kd→CE→Expr→Bool
  | _,_,.any,_=>true
  | fz,kd,.frz e,E=>cC names fz kd e E
  | fz,kd,.loc i,E=>wName E fun x pos=>wD (names[i]? = some x) <| wD (kd x=some .local∨kd x=some .cell∨kd x=some .free) <| true
  | fz,kd,.byte,E=>wName E fun x pos=>wE x (Str.ofString "_law_byte") <| wD (kd (Str.ofString "_law_byte")=some .globalImplicit) <| true
  | fz,kd,.int i,E=>eM E fun c k pos=>wE c (.int i) <| true
  | fz,kd,.str w,E=>eM E fun c k pos=>wE c (.str w.str) <| true
  | fz,kd,.bool b,E=>eM E fun c k pos=>wE c (.bool b) <| true
  | fz,kd,.none,E=>eM E fun c k pos=>wE c .none <| true
  | fz,kd,.tup es,E=>kh E fun l k pos=>wB (jn names fz kd es l) <| true
  | fz,kd,.list q es,E=>Bu E fun l pos=>wB (jn names fz kd es l) <| true
  | fz,kd,.bin q o a b,E=>tY E fun x o1 y pos=>wE o1 o.op <| wB (cC names fz kd a x) <| wB (cC names fz kd b y) <| true
  | fz,kd,.neg a,E=>oj E fun o1 x pos=>wE o1 .USub <| wB (cC names fz kd a x) <| true
  | fz,kd,.cmp o a b,E=>l9 E fun x os ys pos=>wOne os fun o1=>wE o1 o.op <| wOne ys fun y=>wD (jT y) <| wB (cC names fz kd a x) <| wB (cC names fz kd b y) <| true
  | fz,kd,.isN a,E=>l9 E fun x os ys pos=>wOne os fun o1=>wE o1 .Is <| wOne ys fun y=>eM y fun c k p=>wE c .none <| wB (cC names fz kd a x) <| true
  | fz,kd,.notN a,E=>l9 E fun x os ys pos=>wOne os fun o1=>wE o1 .IsNot <| wOne ys fun y=>eM y fun c k p=>wE c .none <| wB (cC names fz kd a x) <| true
  | fz,kd,.and es,E=>qh E fun o1 l pos=>wE o1 .And <| wB (jn names fz kd es l) <| true
  | fz,kd,.or es,E=>qh E fun o1 l pos=>wE o1 .Or <| wB (jn names fz kd es l) <| true
  | fz,kd,.not a,E=>oj E fun o1 x pos=>wE o1 .Not <| wB (cC names fz kd a x) <| true
  | fz,kd,.ifx t a b,E=>xQ E fun x y z pos=>wB (cC names fz kd t x) <| wB (cC names fz kd a y) <| wB (cC names fz kd b z) <| true
  | fz,kd,.attr e1 f,E=>wAttribute E fun x s pos=>wE s f.str <| wD (cR x) <| wB (cC names fz kd e1 x) <| true
  | fz,kd,.sub e1 i,E=>jy E fun x y pos=>wD (gv y) <| wB (cC names fz kd e1 x) <| wB (cC names fz kd i y) <| true
  | fz,kd,.slo e1 lo,E=>jy E fun x y pos=>zb y fun u1 u2 u3 p=>tr u1 fun y1=>wNo u2 <| wNo u3 <| wB (cC names fz kd e1 x) <| wB (cC names fz kd lo y1) <| true
  | fz,kd,.call f es,E=>wCall E fun f0 l ks pos=>wNil ks <| wName f0 fun s p=>wE s (Str.ofString f.nm) <| wD (f.isTop=true) <| wD (kd (Str.ofString f.nm)=some .globalImplicit) <| wB (jn names fz kd es l) <| true
  | fz,kd,.new c es,E=>wCall E fun f0 l ks pos=>wNil ks <| wName f0 fun s p=>wE s (Str.ofString c.nm) <| wD (kd (Str.ofString c.nm)=some .globalImplicit) <| wB (jn names fz kd es l) <| true
  | fz,kd,.meth e1 f es,E=>wCall E fun f0 l ks pos=>wNil ks <| wAttribute f0 fun x s p=>wE s (Str.ofString f.nm) <| wD (cR x) <| wD (l.length < 30) <| wD ((p.endLine == pos.line)=true) <| wD (f.isMeth=true) <| wB (cC names fz kd e1 x) <| wB (jn names fz kd es l) <| true
  | fz,kd,.bi b es,E=>wCall E fun f0 l ks pos=>wNil ks <| wName f0 fun s p=>wE s (Str.ofString b.nm) <| wD (kd (Str.ofString b.nm)=some .globalImplicit) <| wB (jn names fz kd es l) <| true
  | fz,kd,.toList q e1,E=>wCall E fun f0 l ks pos=>wNil ks <| wName f0 fun s p=>wE s (Str.ofString "list") <| wOne l fun x=>wD (bI x) <| wD (kd (Str.ofString "list")=some .globalImplicit) <| wB (cC names fz kd e1 x) <| true
  | fz,kd,.app e1 y,E=>wCall E fun f0 l ks pos=>wNil ks <| wAttribute f0 fun a s p=>wE s (Str.ofString "append") <| wOne l fun b=>wD (cR a) <| wD (bI b) <| wD ((p.endLine == pos.line)=true) <| wB (cC names fz kd e1 a) <| wB (cC names fz kd y b) <| true
  | fz,kd,.ext e1 y,E=>wCall E fun f0 l ks pos=>wNil ks <| wAttribute f0 fun a s p=>wE s (Str.ofString "extend") <| wOne l fun b=>wD (cR a) <| wD (bI b) <| wD ((p.endLine == pos.line)=true) <| wB (cC names fz kd e1 a) <| wB (cC names fz kd y b) <| true
  | fz,kd,.get e1 y,E=>wCall E fun f0 l ks pos=>wNil ks <| wAttribute f0 fun a s p=>wE s (Str.ofString "get") <| wOne l fun b=>wD (cR a) <| wD (bI b) <| wD ((p.endLine == pos.line)=true) <| wB (cC names fz kd e1 a) <| wB (cC names fz kd y b) <| true
  | fz,kd,.pop0 e1,E=>wCall E fun f0 l ks pos=>wNil ks <| wAttribute f0 fun a s p=>wE s (Str.ofString "pop") <| wOne l fun b=>eM b fun c k q=>wE c (.int 0) <| wD (cR a) <| wD ((p.endLine == pos.line)=true) <| wB (cC names fz kd e1 a) <| true
  | fz,kd,.getd e1 y d1,E=>wCall E fun f0 l ks pos=>wNil ks <| wAttribute f0 fun a s p=>wE s (Str.ofString "get") <| wCons l fun b r=>wOne r fun c=>wD (cR a) <| wD (bI b) <| wD (bI c) <| wD ((p.endLine == pos.line)=true) <| wB (cC names fz kd e1 a) <| wB (cC names fz kd y b) <| wB (cC names fz kd d1 c) <| true
  | fz,kd,.popd e1 y,E=>wCall E fun f0 l ks pos=>wNil ks <| wAttribute f0 fun a s p=>wE s (Str.ofString "pop") <| wCons l fun b r=>wOne r fun c0=>eM c0 fun c k q=>wE c .none <| wD (cR a) <| wD (bI b) <| wD ((p.endLine == pos.line)=true) <| wB (cC names fz kd e1 a) <| wB (cC names fz kd y b) <| true
  | fz,kd,.comp q elt ts it,E=>mZ E fun x gs sc pos=>wOne gs fun g1=>AA g1 fun t y zs as=>wE as 0 <| wNil zs <| wB (DW sc kd names ts) <| wB (cC names fz kd it y) <| wB (tB names (fun n=>cx sc n=some .local) ts t) <| wB (cC names [] (cx sc) elt x) <| true
  | fz,kd,.compif elt ts it c,E=>mZ E fun x gs sc pos=>wOne gs fun g1=>AA g1 fun t y zs as=>wE as 0 <| wOne zs fun z=>wB (DW sc kd names ts) <| wB (cC names fz kd it y) <| wB (tB names (fun n=>cx sc n=some .local) ts t) <| wB (cC names [] (cx sc) elt x) <| wB (cC names [] (cx sc) c z) <| true
  | fz,kd,.lam i,E=>vt E fun ps b sc pos=>wD (ca ∈ fz) <| wB (Gr ps b sc) <| wNil ps.defaults <| wNil ps.kw_defaults <| wNil ps.kwonlyargs <| wD (names[i]? = some ca) <| wD (kd ca=some .cell) <| wD (sc.names.lookup ca=some .free) <| wD (∀ x ∈ sc.names,x.2=.free→x.1=ca) <| true
  | fz,kd,.callv i y,E=>wCall E fun f0 l ks pos=>wNil ks <| wName f0 fun s p=>wOne l fun b=>wD (bI b) <| wD (names[i]? = some s) <| wD (kd s=some .local∨kd s=some .cell∨kd s=some .free) <| wB (cC names fz kd y b) <| true
  | fz,kd,.emptyI,E=>r7 E fun ks l pos=>wNil ks <| wNil l <| true
  | fz,kd,.emptyP,E=>r7 E fun ks l pos=>wNil ks <| wNil l <| true
  | fz,kd,.sdisp fr ws es,E=>r7 E fun ks l pos=>wB (FU ws ks) <| wB (jn names fz kd es l) <| true
noncomputable def jn (names:List Str):List Str→Kd→CEs→List Expr→Bool
  | _,_,.nil,l=>wNil l true
  | fz,kd,.cons e r,l=>wCons l fun x l=>wD (bI x) <| wB (cC names fz kd e x) (jn names fz kd r l)
end
mutual
theorem bc {names:List Str}:∀ {fz:List Str} {kd:Kd} {e:CE} {E:Expr},cC names fz kd e E=true→Mt names fz kd e E
  | _,_,.any,_,_=>trivial
  | _,_,.frz e,_,h=>bc (e:=e) h
  | fz,kd,.loc i,E,h=>fun G g=>dM (G:=fun E=>G E) h fun x pos h=>aZ h fun h0 h=>aZ h fun h1 h=>g _ _ h0 h1
  | fz,kd,.byte,E,h=>fun G g=>dM (G:=fun E=>G E) h fun x pos h=>b7 (G:=fun x=>G (.Name x pos)) h fun h=>aZ h fun h0 h=>g _ h0
  | fz,kd,.int i,E,h=>fun G g=>dp (G:=fun E=>G E) h fun c k pos h=>b7 (G:=fun c=>G (.Constant c k pos)) h fun h=>g _ _
  | fz,kd,.str w,E,h=>fun G g=>dp (G:=fun E=>G E) h fun c k pos h=>b7 (G:=fun c=>G (.Constant c k pos)) h fun h=>g _ _ _ rfl
  | fz,kd,.bool b,E,h=>fun G g=>dp (G:=fun E=>G E) h fun c k pos h=>b7 (G:=fun c=>G (.Constant c k pos)) h fun h=>g _ _
  | fz,kd,.none,E,h=>fun G g=>dp (G:=fun E=>G E) h fun c k pos h=>b7 (G:=fun c=>G (.Constant c k pos)) h fun h=>g _ _
  | fz,kd,.tup es,E,h=>fun G g=>g8 (G:=fun E=>G E) h fun l k pos h=>wA h fun h0 h=>g _ _ _ (fN h0)
  | fz,kd,.list q es,E,h=>fun G g=>AU (G:=fun E=>G E) h fun l pos h=>wA h fun h0 h=>g _ _ (fN h0)
  | fz,kd,.bin q o a b,E,h=>fun G g=>re (G:=fun E=>G E) h fun x o1 y pos h=>b7 (G:=fun o1=>G (.BinOp x o1 y pos)) h fun h=>wA h fun h0 h=>wA h fun h1 h=>g _ _ _ (bc h0) (bc h1)
  | fz,kd,.neg a,E,h=>fun G g=>od (G:=fun E=>G E) h fun o1 x pos h=>b7 (G:=fun o1=>G (.UnaryOp o1 x pos)) h fun h=>wA h fun h0 h=>g _ _ (bc h0)
  | fz,kd,.cmp o a b,E,h=>fun G g=>kT (G:=fun E=>G E) h fun x os ys pos h=>cu (G:=fun os=>G (.Compare x os ys pos)) h fun o1 h=>b7 (G:=fun o1=>G (.Compare x [o1] ys pos)) h fun h=>cu (G:=fun ys=>G (.Compare x [o.op] ys pos)) h fun y h=>aZ h fun h0 h=>wA h fun h1 h=>wA h fun h2 h=>g _ _ _ h0 (bc h1) (bc h2)
  | fz,kd,.isN a,E,h=>fun G g=>kT (G:=fun E=>G E) h fun x os ys pos h=>cu (G:=fun os=>G (.Compare x os ys pos)) h fun o1 h=>b7 (G:=fun o1=>G (.Compare x [o1] ys pos)) h fun h=>cu (G:=fun ys=>G (.Compare x [.Is] ys pos)) h fun y h=>dp (G:=fun y=>G (.Compare x [.Is] [y] pos)) h fun c k p h=>b7 (G:=fun c=>G (.Compare x [.Is] [(.Constant c k p)] pos)) h fun h=>wA h fun h0 h=>g _ _ _ _ (bc h0)
  | fz,kd,.notN a,E,h=>fun G g=>kT (G:=fun E=>G E) h fun x os ys pos h=>cu (G:=fun os=>G (.Compare x os ys pos)) h fun o1 h=>b7 (G:=fun o1=>G (.Compare x [o1] ys pos)) h fun h=>cu (G:=fun ys=>G (.Compare x [.IsNot] ys pos)) h fun y h=>dp (G:=fun y=>G (.Compare x [.IsNot] [y] pos)) h fun c k p h=>b7 (G:=fun c=>G (.Compare x [.IsNot] [(.Constant c k p)] pos)) h fun h=>wA h fun h0 h=>g _ _ _ _ (bc h0)
  | fz,kd,.and es,E,h=>fun G g=>pI (G:=fun E=>G E) h fun o1 l pos h=>b7 (G:=fun o1=>G (.BoolOp o1 l pos)) h fun h=>wA h fun h0 h=>g _ _ (fN h0)
  | fz,kd,.or es,E,h=>fun G g=>pI (G:=fun E=>G E) h fun o1 l pos h=>b7 (G:=fun o1=>G (.BoolOp o1 l pos)) h fun h=>wA h fun h0 h=>g _ _ (fN h0)
  | fz,kd,.not a,E,h=>fun G g=>od (G:=fun E=>G E) h fun o1 x pos h=>b7 (G:=fun o1=>G (.UnaryOp o1 x pos)) h fun h=>wA h fun h0 h=>g _ _ (bc h0)
  | fz,kd,.ifx t a b,E,h=>fun G g=>yp (G:=fun E=>G E) h fun x y z pos h=>wA h fun h0 h=>wA h fun h1 h=>wA h fun h2 h=>g _ _ _ _ (bc h0) (bc h1) (bc h2)
  | fz,kd,.attr e1 f,E,h=>fun G g=>c4 (G:=fun E=>G E) h fun x s pos h=>b7 (G:=fun s=>G (.Attribute x s pos)) h fun h=>aZ h fun h0 h=>wA h fun h1 h=>g _ _ _ h0 (bc h1) rfl
  | fz,kd,.sub e1 i,E,h=>fun G g=>jo (G:=fun E=>G E) h fun x y pos h=>aZ h fun h0 h=>wA h fun h1 h=>wA h fun h2 h=>g _ _ _ h0 (bc h1) (bc h2)
  | fz,kd,.slo e1 lo,E,h=>fun G g=>jo (G:=fun E=>G E) h fun x y pos h=>yz (G:=fun y=>G (.Subscript x y pos)) h fun u1 u2 u3 p h=>mX (G:=fun u1=>G (.Subscript x (.Slice u1 u2 u3 p) pos)) h fun y1 h=>sD (G:=fun u2=>G (.Subscript x (.Slice (some y1) u2 u3 p) pos)) h fun h=>sD (G:=fun u3=>G (.Subscript x (.Slice (some y1) none u3 p) pos)) h fun h=>wA h fun h0 h=>wA h fun h1 h=>g _ _ _ _ (bc h0) (bc h1)
  | fz,kd,.call f es,E,h=>fun G g=>dJ (G:=fun E=>G E) h fun f0 l ks pos h=>b9 (G:=fun ks=>G (.Call f0 l ks pos)) h fun h=>dM (G:=fun f0=>G (.Call f0 l [] pos)) h fun s p h=>b7 (G:=fun s=>G (.Call (.Name s p) l [] pos)) h fun h=>aZ h fun h0 h=>aZ h fun h1 h=>wA h fun h2 h=>g _ _ _ _ h0 rfl h1 (fN h2)
  | fz,kd,.new c es,E,h=>fun G g=>dJ (G:=fun E=>G E) h fun f0 l ks pos h=>b9 (G:=fun ks=>G (.Call f0 l ks pos)) h fun h=>dM (G:=fun f0=>G (.Call f0 l [] pos)) h fun s p h=>b7 (G:=fun s=>G (.Call (.Name s p) l [] pos)) h fun h=>aZ h fun h0 h=>wA h fun h1 h=>g _ _ _ _ rfl h0 (fN h1)
  | fz,kd,.meth e1 f es,E,h=>fun G g=>dJ (G:=fun E=>G E) h fun f0 l ks pos h=>b9 (G:=fun ks=>G (.Call f0 l ks pos)) h fun h=>c4 (G:=fun f0=>G (.Call f0 l [] pos)) h fun x s p h=>b7 (G:=fun s=>G (.Call (.Attribute x s p) l [] pos)) h fun h=>aZ h fun h0 h=>aZ h fun h1 h=>aZ h fun h2 h=>aZ h fun h3 h=>wA h fun h4 h=>wA h fun h5 h=>g _ _ _ _ _ h0 h1 h2 h3 rfl (bc h4) (fN h5)
  | fz,kd,.bi b es,E,h=>fun G g=>dJ (G:=fun E=>G E) h fun f0 l ks pos h=>b9 (G:=fun ks=>G (.Call f0 l ks pos)) h fun h=>dM (G:=fun f0=>G (.Call f0 l [] pos)) h fun s p h=>b7 (G:=fun s=>G (.Call (.Name s p) l [] pos)) h fun h=>aZ h fun h0 h=>wA h fun h1 h=>g _ _ _ _ rfl h0 (fN h1)
  | fz,kd,.toList q e1,E,h=>fun G g=>dJ (G:=fun E=>G E) h fun f0 l ks pos h=>b9 (G:=fun ks=>G (.Call f0 l ks pos)) h fun h=>dM (G:=fun f0=>G (.Call f0 l [] pos)) h fun s p h=>b7 (G:=fun s=>G (.Call (.Name s p) l [] pos)) h fun h=>cu (G:=fun l=>G (.Call (.Name (Str.ofString "list") p) l [] pos)) h fun x h=>aZ h fun h0 h=>aZ h fun h1 h=>wA h fun h2 h=>g _ _ _ h0 h1 (bc h2)
  | fz,kd,.app e1 y,E,h=>fun G g=>dJ (G:=fun E=>G E) h fun f0 l ks pos h=>b9 (G:=fun ks=>G (.Call f0 l ks pos)) h fun h=>c4 (G:=fun f0=>G (.Call f0 l [] pos)) h fun a s p h=>b7 (G:=fun s=>G (.Call (.Attribute a s p) l [] pos)) h fun h=>cu (G:=fun l=>G (.Call (.Attribute a (Str.ofString "append") p) l [] pos)) h fun b h=>aZ h fun h0 h=>aZ h fun h1 h=>aZ h fun h2 h=>wA h fun h3 h=>wA h fun h4 h=>g _ _ _ _ h0 h1 h2 (bc h3) (bc h4)
  | fz,kd,.ext e1 y,E,h=>fun G g=>dJ (G:=fun E=>G E) h fun f0 l ks pos h=>b9 (G:=fun ks=>G (.Call f0 l ks pos)) h fun h=>c4 (G:=fun f0=>G (.Call f0 l [] pos)) h fun a s p h=>b7 (G:=fun s=>G (.Call (.Attribute a s p) l [] pos)) h fun h=>cu (G:=fun l=>G (.Call (.Attribute a (Str.ofString "extend") p) l [] pos)) h fun b h=>aZ h fun h0 h=>aZ h fun h1 h=>aZ h fun h2 h=>wA h fun h3 h=>wA h fun h4 h=>g _ _ _ _ h0 h1 h2 (bc h3) (bc h4)
  | fz,kd,.get e1 y,E,h=>fun G g=>dJ (G:=fun E=>G E) h fun f0 l ks pos h=>b9 (G:=fun ks=>G (.Call f0 l ks pos)) h fun h=>c4 (G:=fun f0=>G (.Call f0 l [] pos)) h fun a s p h=>b7 (G:=fun s=>G (.Call (.Attribute a s p) l [] pos)) h fun h=>cu (G:=fun l=>G (.Call (.Attribute a (Str.ofString "get") p) l [] pos)) h fun b h=>aZ h fun h0 h=>aZ h fun h1 h=>aZ h fun h2 h=>wA h fun h3 h=>wA h fun h4 h=>g _ _ _ _ h0 h1 h2 (bc h3) (bc h4)
  | fz,kd,.pop0 e1,E,h=>fun G g=>dJ (G:=fun E=>G E) h fun f0 l ks pos h=>b9 (G:=fun ks=>G (.Call f0 l ks pos)) h fun h=>c4 (G:=fun f0=>G (.Call f0 l [] pos)) h fun a s p h=>b7 (G:=fun s=>G (.Call (.Attribute a s p) l [] pos)) h fun h=>cu (G:=fun l=>G (.Call (.Attribute a (Str.ofString "pop") p) l [] pos)) h fun b h=>dp (G:=fun b=>G (.Call (.Attribute a (Str.ofString "pop") p) [b] [] pos)) h fun c k q h=>b7 (G:=fun c=>G (.Call (.Attribute a (Str.ofString "pop") p) [(.Constant c k q)] [] pos)) h fun h=>aZ h fun h0 h=>aZ h fun h1 h=>wA h fun h2 h=>g _ _ _ _ _ h0 h1 (bc h2)
  | fz,kd,.getd e1 y d1,E,h=>fun G g=>dJ (G:=fun E=>G E) h fun f0 l ks pos h=>b9 (G:=fun ks=>G (.Call f0 l ks pos)) h fun h=>c4 (G:=fun f0=>G (.Call f0 l [] pos)) h fun a s p h=>b7 (G:=fun s=>G (.Call (.Attribute a s p) l [] pos)) h fun h=>gW (G:=fun l=>G (.Call (.Attribute a (Str.ofString "get") p) l [] pos)) h fun b r h=>cu (G:=fun r=>G (.Call (.Attribute a (Str.ofString "get") p) (b::r) [] pos)) h fun c h=>aZ h fun h0 h=>aZ h fun h1 h=>aZ h fun h2 h=>aZ h fun h3 h=>wA h fun h4 h=>wA h fun h5 h=>wA h fun h6 h=>g _ _ _ _ _ h0 h1 h2 h3 (bc h4) (bc h5) (bc h6)
  | fz,kd,.popd e1 y,E,h=>fun G g=>dJ (G:=fun E=>G E) h fun f0 l ks pos h=>b9 (G:=fun ks=>G (.Call f0 l ks pos)) h fun h=>c4 (G:=fun f0=>G (.Call f0 l [] pos)) h fun a s p h=>b7 (G:=fun s=>G (.Call (.Attribute a s p) l [] pos)) h fun h=>gW (G:=fun l=>G (.Call (.Attribute a (Str.ofString "pop") p) l [] pos)) h fun b r h=>cu (G:=fun r=>G (.Call (.Attribute a (Str.ofString "pop") p) (b::r) [] pos)) h fun c0 h=>dp (G:=fun c0=>G (.Call (.Attribute a (Str.ofString "pop") p) (b::[c0]) [] pos)) h fun c k q h=>b7 (G:=fun c=>G (.Call (.Attribute a (Str.ofString "pop") p) (b::[(.Constant c k q)]) [] pos)) h fun h=>aZ h fun h0 h=>aZ h fun h1 h=>aZ h fun h2 h=>wA h fun h3 h=>wA h fun h4 h=>g _ _ _ _ _ _ h0 h1 h2 (bc h3) (bc h4)
  | fz,kd,.comp q elt ts it,E,h=>fun G g=>mW (G:=fun E=>G E) h fun x gs sc pos h=>cu (G:=fun gs=>G (.ListComp x gs sc pos)) h fun g1 h=>uY (G:=fun g1=>G (.ListComp x [g1] sc pos)) h fun t y zs as h=>b7 (G:=fun as=>G (.ListComp x [⟨t,y,zs,as⟩] sc pos)) h fun h=>b9 (G:=fun zs=>G (.ListComp x [⟨t,y,zs,0⟩] sc pos)) h fun h=>wA h fun h0 h=>wA h fun h1 h=>wA h fun h2 h=>wA h fun h3 h=>g _ _ _ _ _ (zg h0) (bc h1) (si h2) (bc h3)
  | fz,kd,.compif elt ts it c,E,h=>fun G g=>mW (G:=fun E=>G E) h fun x gs sc pos h=>cu (G:=fun gs=>G (.ListComp x gs sc pos)) h fun g1 h=>uY (G:=fun g1=>G (.ListComp x [g1] sc pos)) h fun t y zs as h=>b7 (G:=fun as=>G (.ListComp x [⟨t,y,zs,as⟩] sc pos)) h fun h=>cu (G:=fun zs=>G (.ListComp x [⟨t,y,zs,0⟩] sc pos)) h fun z h=>wA h fun h0 h=>wA h fun h1 h=>wA h fun h2 h=>wA h fun h3 h=>wA h fun h4 h=>g _ _ _ _ _ _ (zg h0) (bc h1) (si h2) (bc h3) (bc h4)
  | fz,kd,.lam i,E,h=>fun G g=>wb (G:=fun E=>G E) h fun ps b sc pos h=>aZ h fun h0 h=>wA h fun h1 h=>mG h fun h2 h=>mG h fun h3 h=>mG h fun h4 h=>aZ h fun h5 h=>aZ h fun h6 h=>aZ h fun h7 h=>aZ h fun h8 h=>g _ _ _ _ h0 (C1 h1) h2 h3 h4 h5 h6 h7 h8
  | fz,kd,.callv i y,E,h=>fun G g=>dJ (G:=fun E=>G E) h fun f0 l ks pos h=>b9 (G:=fun ks=>G (.Call f0 l ks pos)) h fun h=>dM (G:=fun f0=>G (.Call f0 l [] pos)) h fun s p h=>cu (G:=fun l=>G (.Call (.Name s p) l [] pos)) h fun b h=>aZ h fun h0 h=>aZ h fun h1 h=>aZ h fun h2 h=>wA h fun h3 h=>g _ _ _ _ h0 h1 h2 (bc h3)
  | fz,kd,.emptyI,E,h=>fun G g=>oz (G:=fun E=>G E) h fun ks l pos h=>b9 (G:=fun ks=>G (.Dict ks l pos)) h fun h=>b9 (G:=fun l=>G (.Dict [] l pos)) h fun h=>g _
  | fz,kd,.emptyP,E,h=>fun G g=>oz (G:=fun E=>G E) h fun ks l pos h=>b9 (G:=fun ks=>G (.Dict ks l pos)) h fun h=>b9 (G:=fun l=>G (.Dict [] l pos)) h fun h=>g _
  | fz,kd,.sdisp fr ws es,E,h=>fun G g=>oz (G:=fun E=>G E) h fun ks l pos h=>wA h fun h0 h=>wA h fun h1 h=>g _ _ _ (yX h0) (fN h1)
theorem fN {names:List Str}:∀ {fz:List Str} {kd:Kd} {es:CEs} {l:List Expr},jn names fz kd es l=true→MtL names fz kd es l
  | _,_,.nil,l,h=>fun G g=>b9 h fun Z=>g
  | _,_,.cons e r,l,h=>fun G g=>gW h fun x l h=>aZ h fun h1 h=>wA h fun h2 h=>g _ _ h1 (bc h2) (fN h)
end
mutual
noncomputable def D3 (names wr fz:List Str) (kd:Kd):CS→Stmt→Bool
  | .any,_=>true
  | .ret e,E=>uO E fun x Z=>match x with | some x=>cC names fz kd e x | none=>match e with | .none=>true | _=>false
  | .asg i e1,E=>jG E fun t0 x pos=>wOne t0 fun t1=>wName t1 fun n q=>wD (names[i]? = some n) <| wD (kd n=some .local∨n ∈ wr) <| wB (cC names fz kd e1 x) <| true
  | .unp is e1,E=>jG E fun t0 x pos=>wOne t0 fun t1=>kh t1 fun l k q=>wD (tR x) <| wB (vl names (fun n=>kd n=some .local∨n ∈ wr) is l) <| wB (cC names fz kd e1 x) <| true
  | .multi is es,E=>jG E fun t0 x pos=>wOne t0 fun t1=>kh t1 fun l k q=>kh x fun l1 k1 q1=>wB (vl names (fun n=>kd n=some .local∨n ∈ wr) is l) <| wD (l1.all (constantsAlone 8)=false) <| wB (jn names fz kd es l1) <| true
  | .sett o i v1,E=>jG E fun t0 x pos=>wOne t0 fun t1=>jy t1 fun a y q=>wD (gv y) <| wB (cC names fz kd o a) <| wB (cC names fz kd i y) <| wB (cC names fz kd v1 x) <| true
  | .seta o f v1,E=>jG E fun t0 x pos=>wOne t0 fun t1=>wAttribute t1 fun a s q=>wE s f.str <| wB (cC names fz kd o a) <| wB (cC names fz kd v1 x) <| true
  | .ifs c a b,E=>IE E fun x l l1 pos=>wB (cC names fz kd c x) <| wB (kM names wr fz kd a l) <| wB (kM names wr fz kd b l1) <| true
  | .expr e1,E=>Br E fun x pos=>wD (qo x) <| wB (cC names fz kd e1 x) <| true
  | .for_ ts it b,E=>AO E fun t x l l0 pos=>wNil l0 <| wB (tB names (fun n=>kd n=some .local∨n ∈ wr) ts t) <| wB (cC names fz kd it x) <| wB (kM names wr fz kd b l) <| true
  | .forEnum i j it b,E=>AO E fun t x0 l l0 pos=>wNil l0 <| wCall x0 fun f0 a0 ks q=>wNil ks <| wName f0 fun s p=>wE s (Str.ofString "enumerate") <| wOne a0 fun x=>wB (tB names (fun n=>kd n=some .local∨n ∈ wr) [i,j] t) <| wD (kd (Str.ofString "enumerate")=some .globalImplicit) <| wB (cC names fz kd it x) <| wB (kM names wr fz kd b l) <| true
noncomputable def kM (names wr fz:List Str) (kd:Kd):CSs→List Stmt→Bool
  | .nil,l=>wNil l true
  | .cons s r,l=>wCons l fun x l=>wB (D3 names wr fz kd s x) (kM names wr fz kd r l)
end
mutual
theorem Do {names wr fz:List Str} {kd:Kd}:∀ {s:CS} {E:Stmt},D3 names wr fz kd s E=true→Ez names wr fz kd s E
  | .any,_,_=>trivial
  | .ret e,E,h=>fun G g1 g2=>wk (G:=G) h fun x pos h=>by
    cases x with
    | some x=>exact g1 _ _ (bc h)
    | none=>cases e <;> first | exact g2 _ rfl | exact (Bool.false_ne_true h).elim
  | .asg i e1,E,h=>fun G g=>ik (G:=fun E=>G E) h fun t0 x pos h=>cu (G:=fun t0=>G (.Assign t0 x pos)) h fun t1 h=>dM (G:=fun t1=>G (.Assign [t1] x pos)) h fun n q h=>aZ h fun h0 h=>aZ h fun h1 h=>wA h fun h2 h=>g _ _ _ _ h0 h1 (bc h2)
  | .unp is e1,E,h=>fun G g=>ik (G:=fun E=>G E) h fun t0 x pos h=>cu (G:=fun t0=>G (.Assign t0 x pos)) h fun t1 h=>g8 (G:=fun t1=>G (.Assign [t1] x pos)) h fun l k q h=>aZ h fun h0 h=>wA h fun h1 h=>wA h fun h2 h=>g _ _ _ _ _ h0 (mT h1) (bc h2)
  | .multi is es,E,h=>fun G g=>ik (G:=fun E=>G E) h fun t0 x pos h=>cu (G:=fun t0=>G (.Assign t0 x pos)) h fun t1 h=>g8 (G:=fun t1=>G (.Assign [t1] x pos)) h fun l k q h=>g8 (G:=fun x=>G (.Assign [(.Tuple l k q)] x pos)) h fun l1 k1 q1 h=>wA h fun h0 h=>aZ h fun h1 h=>wA h fun h2 h=>g _ _ _ _ _ _ _ (mT h0) h1 (fN h2)
  | .sett o i v1,E,h=>fun G g=>ik (G:=fun E=>G E) h fun t0 x pos h=>cu (G:=fun t0=>G (.Assign t0 x pos)) h fun t1 h=>jo (G:=fun t1=>G (.Assign [t1] x pos)) h fun a y q h=>aZ h fun h0 h=>wA h fun h1 h=>wA h fun h2 h=>wA h fun h3 h=>g _ _ _ _ _ h0 (bc h1) (bc h2) (bc h3)
  | .seta o f v1,E,h=>fun G g=>ik (G:=fun E=>G E) h fun t0 x pos h=>cu (G:=fun t0=>G (.Assign t0 x pos)) h fun t1 h=>c4 (G:=fun t1=>G (.Assign [t1] x pos)) h fun a s q h=>b7 (G:=fun s=>G (.Assign [(.Attribute a s q)] x pos)) h fun h=>wA h fun h0 h=>wA h fun h1 h=>g _ _ _ _ _ (bc h0) rfl (bc h1)
  | .ifs c a b,E,h=>fun G g=>EP (G:=fun E=>G E) h fun x l l1 pos h=>wA h fun h0 h=>wA h fun h1 h=>wA h fun h2 h=>g _ _ _ _ (bc h0) (iN h1) (iN h2)
  | .expr e1,E,h=>fun G g=>z5 (G:=fun E=>G E) h fun x pos h=>aZ h fun h0 h=>wA h fun h1 h=>g _ _ h0 (bc h1)
  | .for_ ts it b,E,h=>fun G g=>vb (G:=fun E=>G E) h fun t x l l0 pos h=>b9 (G:=fun l0=>G (.For t x l l0 pos)) h fun h=>wA h fun h0 h=>wA h fun h1 h=>wA h fun h2 h=>g _ _ _ _ (si h0) (bc h1) (iN h2)
  | .forEnum i j it b,E,h=>fun G g=>vb (G:=fun E=>G E) h fun t x0 l l0 pos h=>b9 (G:=fun l0=>G (.For t x0 l l0 pos)) h fun h=>dJ (G:=fun x0=>G (.For t x0 l [] pos)) h fun f0 a0 ks q h=>b9 (G:=fun ks=>G (.For t (.Call f0 a0 ks q) l [] pos)) h fun h=>dM (G:=fun f0=>G (.For t (.Call f0 a0 [] q) l [] pos)) h fun s p h=>b7 (G:=fun s=>G (.For t (.Call (.Name s p) a0 [] q) l [] pos)) h fun h=>cu (G:=fun a0=>G (.For t (.Call (.Name (Str.ofString "enumerate") p) a0 [] q) l [] pos)) h fun x h=>wA h fun h0 h=>aZ h fun h1 h=>wA h fun h2 h=>wA h fun h3 h=>g _ _ _ _ _ _ (si h0) h1 (bc h2) (iN h3)
theorem iN {names wr fz:List Str} {kd:Kd}:∀ {c:CSs} {l:List Stmt},kM names wr fz kd c l=true→fB names wr fz kd c l
  | .nil,l,h=>fun G g=>b9 h fun Z=>g
  | .cons s r,l,h=>fun G g=>gW h fun x l h=>wA h fun h2 h=>g _ _ (Do h2) (iN h)
end
noncomputable def gS (st:Stmt) (sc:Scope) (b:List Stmt):Prop:=∃ n a d r tp ts bd ps,st=.FunctionDef n a b d r tp sc ts bd ps
noncomputable def qd (st:Stmt) (i:Nat) (m:Stmt):Prop:=∃ n a b d r tp sc ts bd ps pz,st=.ClassDef n a b d r tp sc ts (bd) ps (pz)∧d[i]? = some m
noncomputable def xd (d:FDef) (st:Stmt):Bool:=if h:st.ctorIdx=0 then Stmt.FunctionDef.elim (motive_2:=fun Z=>Bool) st h (fun Z Z b Z Z Z sc Z Z Z=>kM d.strs (d.wr.map Str.ofString) (d.fz.map Str.ofString) (cx sc) d.body b) else false
theorem ve {d:FDef} {st:Stmt} (h:xd d st=true):∃ sc b,gS st sc b∧fB d.strs (d.wr.map Str.ofString) (d.fz.map Str.ofString) (cx sc) d.body b :=
  eP h fun h'=>Stmt.FunctionDef.elim (motive_2:=fun st=>∀ h',Stmt.FunctionDef.elim (motive_2:=fun Z=>Bool) st h' (fun Z Z b Z Z Z sc Z Z Z=>kM d.strs (d.wr.map Str.ofString) (d.fz.map Str.ofString) (cx sc) d.body b)=true→∃ sc b,gS st sc b∧fB d.strs (d.wr.map Str.ofString) (d.fz.map Str.ofString) (cx sc) d.body b) st h'
    (fun n a b dd r tp sc ts bd ps Z h=>⟨sc,b,⟨n,a,dd,r,tp,ts,bd,ps,rfl⟩,iN h⟩) h'
noncomputable def IV (d:FDef) (k:Nat):Bool:=tr (PySem.Challenge.pw_pf0164_01.main.body[k]?) (xd d)
noncomputable abbrev dk (d:FDef) (k:Nat):Prop:=∃ st sc b,PySem.Challenge.pw_pf0164_01.main.body[k]? = some st∧gS st sc b∧fB d.strs (d.wr.map Str.ofString) (d.fz.map Str.ofString) (cx sc) d.body b
theorem bW {d:FDef} {k:Nat} (h:IV d k=true):dk d k :=
  mX (G:=fun o=>∃ st sc b,o=some st∧gS st sc b∧fB d.strs (d.wr.map Str.ofString) (d.fz.map Str.ofString) (cx sc) d.body b) h fun st h=>(ve h).elim fun sc q=>q.elim fun b q=>⟨st,sc,b,rfl,q⟩
noncomputable def II (d:FDef) (k i:Nat):Bool:=tr (PySem.Challenge.pw_pf0164_01.main.body[k]?) fun st=>if h:st.ctorIdx=2 then Stmt.ClassDef.elim (motive_2:=fun Z=>Bool) st h (fun Z Z Z l Z Z Z Z Z Z Z=>tr l[i]? (xd d)) else false
noncomputable abbrev qJ (d:FDef) (k i:Nat):Prop:=∃ st m sc b,PySem.Challenge.pw_pf0164_01.main.body[k]? = some st∧qd st i m∧gS m sc b∧fB d.strs (d.wr.map Str.ofString) (d.fz.map Str.ofString) (cx sc) d.body b
theorem lC {d:FDef} {k i:Nat} (h:II d k i=true):qJ d k i :=
  mX (G:=fun o=>∃ st m sc b,o=some st∧qd st i m∧gS m sc b∧fB d.strs (d.wr.map Str.ofString) (d.fz.map Str.ofString) (cx sc) d.body b) h fun st h =>
    eP h fun h'=>Stmt.ClassDef.elim (motive_2:=fun st=>∀ h',Stmt.ClassDef.elim (motive_2:=fun Z=>Bool) st h' (fun Z Z Z l Z Z Z Z Z Z Z=>tr l[i]? (xd d))=true→∃ st' m sc b,some st=some st'∧qd st' i m∧gS m sc b∧fB d.strs (d.wr.map Str.ofString) (d.fz.map Str.ofString) (cx sc) d.body b) st h'
      (fun n a bb l r tp sc ts bd ps pz Z h=>mX (G:=fun o=>o=l[i]? → ∃ st' m sc' b,some (Stmt.ClassDef n a bb l r tp sc ts bd ps pz)=some st'∧qd st' i m∧gS m sc' b∧fB d.strs (d.wr.map Str.ofString) (d.fz.map Str.ofString) (cx sc') d.body b) h
        (fun m h e=>(ve h).elim fun sc' q=>q.elim fun b q=>⟨_,m,sc',b,rfl,⟨_,_,_,_,_,_,_,_,_,_,_,rfl,e.symm⟩,q⟩) rfl) h'
theorem rO:dk fI 3:=bW (by decide +kernel)
theorem yy:dk lT 4:=bW (by decide +kernel)
theorem rK:dk iF 5:=bW (by decide +kernel)
theorem pA:dk da 6:=bW (by decide +kernel)
theorem xa:dk g7 9:=bW (by decide +kernel)
theorem rM:dk gA 10:=bW (by decide +kernel)
theorem pV:dk eO 11:=bW (by decide +kernel)
theorem oK:dk ef 12:=bW (by decide +kernel)
theorem qC:dk eZ 13:=bW (by decide +kernel)
theorem nT:dk fW 14:=bW (by decide +kernel)
theorem mV:dk du 15:=bW (by decide +kernel)
theorem t7:dk iW 17:=bW (by decide +kernel)
theorem wo:dk kQ 18:=bW (by decide +kernel)
theorem DO:dk mx 21:=bW (by decide +kernel)
theorem DT:dk jf 22:=bW (by decide +kernel)
theorem FE:dk r5 23:=bW (by decide +kernel)
theorem AR:dk hH 24:=bW (by decide +kernel)
theorem Fr:dk nI 25:=bW (by decide +kernel)
theorem Eh:dk iH 26:=bW (by decide +kernel)
theorem GN:dk f_run 27:=bW (by decide +kernel)
theorem AT:dk nB 28:=bW (by decide +kernel)
theorem yC:dk lP 29:=bW (by decide +kernel)
theorem AV:dk nG 30:=bW (by decide +kernel)
theorem zn:dk iQ 31:=bW (by decide +kernel)
theorem A4:dk f_mainL 32:=bW (by decide +kernel)
theorem Aj:dk nN 33:=bW (by decide +kernel)
theorem Dc:dk qc 34:=bW (by decide +kernel)
theorem Er:dk f_law 35:=bW (by decide +kernel)
theorem uy:qJ fj 2 0:=lC (by decide +kernel)
theorem rI:qJ ir 16 0:=lC (by decide +kernel)
theorem GL:qJ se 16 1:=lC (by decide +kernel)
theorem ub:qJ i6 16 2:=lC (by decide +kernel)
theorem uA:qJ gH 16 3:=lC (by decide +kernel)
end Mine.Internal
namespace Mine.Internal
section
variable {C:Calls} {loc:ag} {mu m m1:Mu}
noncomputable abbrev R1:=Option (Val × Mu)
noncomputable abbrev Rs:=Option (List Val × Mu)
noncomputable abbrev Rx:=Option (Fl × ag × Mu)
noncomputable def pv (m:Mu) (r:Option Val):R1:=r.map (·,m)
theorem am {v:Val}:pv m (some v)=some (v,m):=rfl
noncomputable def iB (k:Nat) (r:Option MObj):Val:=(r.bind oF).elim (.r k) .d
theorem ae {x:Dat}:norm mu (.d x)=.d x:=rfl
theorem t5 {x:Int}:norm mu (.clo x)=.clo x:=rfl
theorem ar {k:Nat}:norm mu (.r k)=iB k mu[k]? := rfl
theorem l7 {k:Nat} {d:Dat}:iB k (some (.frz d))=.d d:=rfl
theorem bz {k:Nat} {d:List Val}:iB k (some (.list d))=.r k:=rfl
theorem cg {k:Nat} {d:List W} {x:List Val}:iB k (some (.sdict d x))=.r k:=rfl
theorem fV {k:Nat} {d:List (Int × Dat)}:iB k (some (.idict d))=.r k:=rfl
theorem oC {k:Nat} {d:Nat}:iB k (some (.spots d))=.r k:=rfl
theorem b0 {k:Nat} {c:Cls} {f:List Fld} {x:List Val}:iB k (some (.inst c f x))=.r k:=rfl
noncomputable def Cx (mu:Mu) (r:Option (Option Val)):Option Val:=r.bind fun o=>o.map (norm mu)
theorem ah {i:Nat}:look loc mu i=Cx mu loc[i]? := rfl
theorem af {v:Val}:Cx mu (some (some v))=some (norm mu v):=rfl
noncomputable def wp (r:Option MObj):Option (List Val):=r.bind oL
theorem jN {xs:List Dat}:f9 mu (.d (.lst xs))=some (xs.map .d):=rfl
theorem fb {xs:List Val}:wp (some (.list xs))=some xs:=rfl
theorem ai {i:Nat}:ev C loc mu (.loc i)=pv mu (look loc mu i):=rfl
theorem lr:ev C loc mu .byte=some (.d dh,mu):=rfl
theorem av {i:Int}:ev C loc mu (.int i)=some (.d (.int i),mu):=rfl
theorem aS {i:W}:ev C loc mu (.str i)=some (.d (.str i),mu):=rfl
theorem ij {i:Bool}:ev C loc mu (.bool i)=some (.d (.bool i),mu):=rfl
theorem j7:ev C loc mu .none=some (.d .none,mu):=rfl
noncomputable def Hq (m:Mu) (r:Option (List Dat)):R1:=(r.bind gu).map (·,m)
noncomputable def oY (r:Rs):R1:=r.bind fun (vs,m)=>Hq m (bN vs)
theorem bC {es:CEs}:ev C loc mu (.tup es)=oY (cS C loc mu es):=rfl
theorem jE {ds:List Dat}:gu ds=if ds.length≤lim then some (.d (.tup ds)) else none:=rfl
noncomputable def no (q:Bool) (r:Rs):R1:=r.bind fun (vs,m)=>cy q m vs (bN vs)
theorem bF {q:Bool} {es:CEs}:ev C loc mu (.list q es)=no q (cS C loc mu es):=rfl
theorem cb {xs:List Val} {f:Option (List Dat)}:cy true mu xs f=if xs.length≤lim then some (.r mu.length,mu++[.list xs]) else none:=rfl
theorem b4 {xs:List Val} {f:List Dat}:cy false mu xs (some f)=if xs.length≤lim then some (.d (.lst f),mu) else none:=rfl
noncomputable def w9 (q:Bool) (o:Bop) (x:Val) (r:R1):R1:=r.bind fun (y,m)=>fF m q o x y
noncomputable def Gy (C:Calls) (loc:ag) (q:Bool) (o:Bop) (b:CE) (r:R1):R1:=r.bind fun (x,m)=>w9 q o x (ev C loc m b)
theorem b6 {q:Bool} {o:Bop} {a b:CE}:ev C loc mu (.bin q o a b)=Gy C loc q o b (ev C loc mu a):=rfl
theorem bO {q:Bool} {o:Bop} {b:CE} {x:Val}:Gy C loc q o b (some (x,m))=w9 q o x (ev C loc m b):=rfl
theorem bQ {q:Bool} {o:Bop} {x y:Val}:w9 q o x (some (y,m))=fF m q o x y:=rfl
noncomputable def Ey (r:R1):R1:=r.bind fun (x,m)=>(vI x).map fun i=>(.d (.int (-i)),m)
theorem wO {a:CE}:ev C loc mu (.neg a)=Ey (ev C loc mu a):=rfl
theorem sH {i:Int}:Ey (some (.d (.int i),m))=some (.d (.int (-i)),m):=rfl
noncomputable def wn (m:Mu) (r:Option Bool):R1:=r.map fun b=>(.d (.bool b),m)
noncomputable def wg (o:Cop) (x:Val) (r:R1):R1:=r.bind fun (y,m)=>wn m (dU m o x y)
noncomputable def E0 (C:Calls) (loc:ag) (o:Cop) (b:CE) (r:R1):R1:=r.bind fun (x,m)=>wg o x (ev C loc m b)
theorem aP {o:Cop} {a b:CE}:ev C loc mu (.cmp o a b)=E0 C loc o b (ev C loc mu a):=rfl
theorem ay {o:Cop} {b:CE} {x:Val}:E0 C loc o b (some (x,m))=wg o x (ev C loc m b):=rfl
theorem aA {o:Cop} {x y:Val}:wg o x (some (y,m))=wn m (dU m o x y):=rfl
theorem aw {b:Bool}:wn m (some b)=some (.d (.bool b),m):=rfl
noncomputable def qr (r:R1):R1:=r.bind fun (x,m)=>(l6 x).map fun b=>(.d (.bool b),m)
theorem kK {a:CE}:ev C loc mu (.isN a)=qr (ev C loc mu a):=rfl
theorem Fj:qr (some (.d .none,m))=some (.d (.bool true),m):=rfl
theorem zx {x:Int}:qr (some (.d (.int x),m))=some (.d (.bool false),m):=rfl
theorem yH {x:List Dat}:qr (some (.d (.tup x),m))=some (.d (.bool false),m):=rfl
theorem E3 {k:Nat}:qr (some (.r k,m))=some (.d (.bool false),m):=rfl
noncomputable def Af (r:R1):R1:=r.bind fun (x,m)=>(l6 x).map fun b=>(.d (.bool !b),m)
theorem nk {a:CE}:ev C loc mu (.notN a)=Af (ev C loc mu a):=rfl
theorem sF:Af (some (.d .none,m))=some (.d (.bool false),m):=rfl
theorem tS {x:W}:Af (some (.d (.str x),m))=some (.d (.bool true),m):=rfl
theorem md {es:CEs}:ev C loc mu (.and es)=gj C loc mu es:=rfl
theorem km {es:CEs}:ev C loc mu (.or es)=iy C loc mu es:=rfl
noncomputable def zT (C:Calls) (loc:ag) (r:CEs) (v:R1):R1:=v.bind fun (v,m)=>(df v).bind fun b=>if b then gj C loc m r else some (v,m)
noncomputable def FM (C:Calls) (loc:ag) (r:CEs) (v:R1):R1:=v.bind fun (v,m)=>(df v).bind fun b=>if b then some (v,m) else iy C loc m r
theorem sN {e:CE}:gj C loc mu (.cons e .nil)=ev C loc mu e:=rfl
theorem jU {e f:CE} {r:CEs}:gj C loc mu (.cons e (.cons f r))=zT C loc (.cons f r) (ev C loc mu e):=rfl
theorem pH {r:CEs}:zT C loc r (some (.d (.bool true),m))=gj C loc m r:=rfl
theorem mL {r:CEs}:zT C loc r (some (.d (.bool false),m))=some (.d (.bool false),m):=rfl
theorem i8 {e:CE}:iy C loc mu (.cons e .nil)=ev C loc mu e:=rfl
theorem ip {e f:CE} {r:CEs}:iy C loc mu (.cons e (.cons f r))=FM C loc (.cons f r) (ev C loc mu e):=rfl
theorem HO {r:CEs}:FM C loc r (some (.d (.bool true),m))=some (.d (.bool true),m):=rfl
theorem iX {r:CEs}:FM C loc r (some (.d (.bool false),m))=iy C loc m r:=rfl
noncomputable def D0 (r:R1):R1:=r.bind fun (x,m)=>(df x).map fun b=>(.d (.bool !b),m)
theorem pi {a:CE}:ev C loc mu (.not a)=D0 (ev C loc mu a):=rfl
theorem m5 {b:Bool}:D0 (some (.d (.bool b),m))=some (.d (.bool !b),m):=rfl
noncomputable def Az (C:Calls) (loc:ag) (a b:CE) (r:R1):R1:=r.bind fun (x,m)=>(df x).bind fun c=>if c then ev C loc m a else ev C loc m b
theorem dQ {t a b:CE}:ev C loc mu (.ifx t a b)=Az C loc a b (ev C loc mu t):=rfl
theorem gB {a b:CE}:Az C loc a b (some (.d (.bool true),m))=ev C loc m a:=rfl
theorem eR {a b:CE}:Az C loc a b (some (.d (.bool false),m))=ev C loc m b:=rfl
noncomputable def yG (mu:Mu) (f:Fld) (r:Option MObj):Option Val:=(r.bind oO).bind fun q=>(dC f q.2.1 q.2.2).map (norm mu)
theorem c3 {k:Nat} {f:Fld}:fO mu (.r k) f=yG mu f mu[k]? := rfl
theorem cK {c:Cls} {fs:List Fld} {xs:List Val} {f:Fld}:yG mu f (some (.inst c fs xs))=(dC f fs xs).map (norm mu):=rfl
noncomputable def CA (f:Fld) (r:R1):R1:=r.bind fun (x,m)=>pv m (fO m x f)
theorem bE {a:CE} {f:Fld}:ev C loc mu (.attr a f)=CA f (ev C loc mu a):=rfl
theorem bu {f:Fld} {x:Val}:CA f (some (x,m))=pv m (fO m x f):=rfl
noncomputable def wa (x:Val) (r:R1):R1:=r.bind fun (y,m)=>pv m (bj m x y)
noncomputable def D7 (C:Calls) (loc:ag) (i:CE) (r:R1):R1:=r.bind fun (x,m)=>wa x (ev C loc m i)
theorem aQ {a i:CE}:ev C loc mu (.sub a i)=D7 C loc i (ev C loc mu a):=rfl
theorem ax {i:CE} {x:Val}:D7 C loc i (some (x,m))=wa x (ev C loc m i):=rfl
theorem az {x y:Val}:wa x (some (y,m))=pv m (bj m x y):=rfl
noncomputable def qK {α:Type} (xs:List α) (r:Option Nat):Option α:=r.bind fun j=>xs[j]?
theorem dE {α:Type} {xs:List α} {j:Nat}:qK xs (some j)=xs[j]? := rfl
theorem dF {xs:List Dat} {k:Int}:bj mu (.d (.lst xs)) (.d (.int k))=(qK xs (dg k xs.length)).map .d:=by show (dg k xs.length).bind (fun j=>xs[j]?.map Val.d)=_; unfold qK; cases dg k xs.length <;> rfl
theorem jk {ks:List W} {xs:List Dat} {w:W}:bj mu (.d (.dct ks xs)) (.d (.str w))=(dC w ks xs).map .d:=rfl
noncomputable def wq (mu:Mu) (k:Int) (r:Option MObj):Option Val:=(r.bind oL).bind fun xs=>(qK xs (dg k xs.length)).map (norm mu)
theorem qb {a:Nat} {k:Int}:bj mu (.r a) (.d (.int k))=wq mu k mu[a]? := by
  show ((mu[a]?).bind oL).bind (fun xs=>(dg k xs.length).bind fun j=>xs[j]?.map (norm mu))=_
  unfold wq qK
  cases (mu[a]?).bind oL with
  | none=>rfl
  | some xs=>show (dg k xs.length).bind _=Option.map _ ((dg k xs.length).bind _); cases dg k xs.length <;> rfl
theorem nq {k:Int} {xs:List Val}:wq mu k (some (.list xs))=(qK xs (dg k xs.length)).map (norm mu):=rfl
noncomputable def Ci (mu:Mu) (w:W) (r:Option MObj):Option Val:=(r.bind oD).bind fun q=>(dC w q.1 q.2).map (norm mu)
theorem fZ {a:Nat} {w:W}:bj mu (.r a) (.d (.str w))=Ci mu w mu[a]? := rfl
theorem ff {ks:List W} {xs:List Val} {w:W}:Ci mu w (some (.sdict ks xs))=(dC w ks xs).map (norm mu):=rfl
theorem bX {i:Int} {n:Nat}:dg i n=if 0≤i∧i.toNat < n∧i.toNat < lim then some i.toNat else none:=rfl
noncomputable def rY (x:Val) (r:R1):R1:=r.bind fun (y,m)=>(vT x).bind fun xs=>(vI y).bind fun k=>if 1≤k∧k≤8∧k.toNat≤xs.length then pv m (gu (xs.drop k.toNat)) else none
noncomputable def Gi (C:Calls) (loc:ag) (i:CE) (r:R1):R1:=r.bind fun (x,m)=>rY x (ev C loc m i)
theorem o6 {a i:CE}:ev C loc mu (.slo a i)=Gi C loc i (ev C loc mu a):=rfl
theorem mD {i:CE} {x:Val}:Gi C loc i (some (x,m))=rY x (ev C loc m i):=rfl
noncomputable def BY (C:Calls) (f:Fn) (r:Rs):R1:=r.bind fun (vs,m)=>C f vs m
theorem aO {f:Fn} {es:CEs}:ev C loc mu (.call f es)=BY C f (cS C loc mu es):=rfl
theorem aB {f:Fn} {vs:List Val}:BY C f (some (vs,m))=C f vs m:=rfl
noncomputable def xk (m:Mu) (r:R1):R1:=r.bind fun (x,m1)=>(vN x).map fun Z=>(.r m.length,m1)
noncomputable def E6 (C:Calls) (c:Cls) (r:Rs):R1:=r.bind fun (vs,m)=>xk m (C c.init (.r m.length::vs) (m++[.inst c [] []]))
theorem lR {c:Cls} {es:CEs}:ev C loc mu (.new c es)=E6 C c (cS C loc mu es):=rfl
theorem jR {c:Cls} {vs:List Val}:E6 C c (some (vs,m))=xk m (C c.init (.r m.length::vs) (m++[.inst c [] []])):=rfl
theorem j3:xk m (some (.d .none,m1))=some (.r m.length,m1):=rfl
theorem C4:Cls.init .body=.initBody:=rfl
theorem CX:Cls.init .caller=.initCaller:=rfl
noncomputable def tA (C:Calls) (f:Fn) (k:Nat) (r:Rs):R1:=r.bind fun (vs,m)=>C f (.r k::vs) m
noncomputable def sW (C:Calls) (loc:ag) (f:Fn) (es:CEs) (k:Nat) (m:Mu) (r:Option MObj):R1:=(r.bind rT).bind fun Z=>tA C f k (cS C loc m es)
noncomputable def Cb (C:Calls) (loc:ag) (f:Fn) (es:CEs) (r:R1):R1:=r.bind fun (x,m)=>(vR x).bind fun k=>sW C loc f es k m m[k]?
theorem lg {e:CE} {f:Fn} {es:CEs}:ev C loc mu (.meth e f es)=Cb C loc f es (ev C loc mu e):=rfl
theorem jH {f:Fn} {es:CEs} {k:Nat}:Cb C loc f es (some (.r k,m))=sW C loc f es k m m[k]? := rfl
theorem jO {f:Fn} {es:CEs} {k:Nat} {xs:List Val}:sW C loc f es k m (some (.inst .caller [.body] xs))=tA C f k (cS C loc m es):=rfl
theorem jM {f:Fn} {k:Nat} {vs:List Val}:tA C f k (some (vs,m))=C f (.r k::vs) m:=rfl
noncomputable def Bn (r:Rs):R1:=r.bind fun (vs,m)=>w4 m vs
theorem EG {es:CEs}:ev C loc mu (.bi .dict es)=Bn (cS C loc mu es):=rfl
theorem DI:Bn (some ([.d (.spots 0)],m))=some (.r m.length,m++[.spots 0]):=rfl
noncomputable def tW (b:Bi) (r:Rs):R1:=r.bind fun (vs,m)=>pv m (bi m b vs)
theorem dH {es:CEs}:ev C loc mu (.bi .len es)=tW .len (cS C loc mu es):=rfl
theorem uE {es:CEs}:ev C loc mu (.bi .max es)=tW .max (cS C loc mu es):=rfl
theorem lx {es:CEs}:ev C loc mu (.bi .int es)=tW .int (cS C loc mu es):=rfl
theorem lw {es:CEs}:ev C loc mu (.bi .sum es)=tW .sum (cS C loc mu es):=rfl
theorem ga {es:CEs}:ev C loc mu (.bi .tuple es)=tW .tuple (cS C loc mu es):=rfl
theorem gb {es:CEs}:ev C loc mu (.bi .range es)=tW .range (cS C loc mu es):=rfl
theorem cf {b:Bi} {vs:List Val}:tW b (some (vs,m))=pv m (bi m b vs):=rfl
noncomputable def vY (r:Option (List Val)):Option Val:=r.bind fun xs=>if xs.length≤lim then some (.d (.int xs.length)) else none
theorem fX {xs:List Dat}:bi mu .len [.d (.lst xs)]=if xs.length≤lim then some (.d (.int xs.length)) else none:=by
  show vY (some (xs.map .d))=_; unfold vY; simp
theorem ki {k:Nat}:bi mu .len [.r k]=vY (wp mu[k]?):=rfl
theorem jY {xs:List Val}:vY (some xs)=if xs.length≤lim then some (.d (.int xs.length)) else none:=rfl
theorem BN {x y:Int}:bi mu .max [.d (.int x),.d (.int y)]=some (.d (.int (if x < y then y else x))):=rfl
theorem mP {b:Bool}:bi mu .int [.d (.bool b)]=some (.d (.int (if b then 1 else 0))):=rfl
theorem o7 {xs:List Dat}:bi mu .sum [.d (.lst xs)]=(gg xs).map fun is=>.d (.int is.sum):=rfl
theorem FL {xs:List Dat}:bi mu .tuple [.d (.tup xs)]=some (.d (.tup xs)):=rfl
noncomputable def Ex (r:Option (List Dat)):Option Val:=r.bind gu
theorem j2 {xs:List Dat}:bN (xs.map Val.d)=some xs:=by
  induction xs with
  | nil=>rfl
  | cons x xs ih=>rw [List.map_cons,Gm,ih]; rfl
theorem pM {xs:List Dat}:bi mu .tuple [.d (.lst xs)]=gu xs:=by
  show (bN (xs.map Val.d)).bind gu=_; rw [j2]; rfl
noncomputable def Gb (r:Option (List Val)):Option Val:=r.bind fun xs=>Ex (bN xs)
theorem pF {k:Nat}:bi mu .tuple [.r k]=Gb (wp mu[k]?):=rfl
theorem nL {xs:List Val}:Gb (some xs)=Ex (bN xs):=rfl
theorem nw {xs:List Dat}:Ex (some xs)=gu xs:=rfl
theorem jl {b:Int}:bi mu .range [.d (.int b)]=some (.d (.rng 0 b 1)):=rfl
theorem Fc {a b:Int}:bi mu .range [.d (.int a),.d (.int b)]=some (.d (.rng a b 1)):=rfl
theorem DZ {a b c:Int}:bi mu .range [.d (.int a),.d (.int b),.d (.int c)]=if c = -1∧jr a b=true then some (.d (.rng a b c)) else none:=rfl
noncomputable def wQ (q:Bool) (m:Mu) (r:Option (List Val)):R1:=r.bind fun xs=>cy q m xs (bN xs)
noncomputable def wc (q:Bool) (r:R1):R1:=r.bind fun (x,m)=>wQ q m (np m x)
theorem jz {q:Bool} {e:CE}:ev C loc mu (.toList q e)=wc q (ev C loc mu e):=rfl
theorem qf {q:Bool} {xs:List Dat}:wc q (some (.d (.lst xs),m))=cy q m (xs.map .d) (some xs):=by show cy q m _ (bN (xs.map Val.d))=_; rw [j2]
theorem uk {q:Bool} {xs:List Dat}:wc q (some (.d (.tup xs),m))=cy q m (xs.map .d) (some xs):=by show cy q m _ (bN (xs.map Val.d))=_; rw [j2]
theorem zc {q:Bool} {a b c:Int}:wc q (some (.d (.rng a b c),m))=wQ q m ((items (.rng a b c)).map fun xs=>xs.map Val.d):=rfl
theorem yN {q:Bool} {xs:List Val}:wQ q m (some xs)=cy q m xs (bN xs):=rfl
noncomputable def wH (k:Nat) (v:Val) (m:Mu) (r:Option MObj):R1:=(r.bind oL).bind fun xs=>if xs.length < lim then some (.d .none,m.set k (.list (xs++[v]))) else none
noncomputable def o9 (o:Val) (r:R1):R1:=r.bind fun (v,m)=>(vR o).bind fun k=>wH k v m m[k]?
noncomputable def vV (C:Calls) (loc:ag) (x:CE) (k:Nat) (m:Mu) (r:Option MObj):R1:=(r.bind oL).bind fun Z=>o9 (.r k) (ev C loc m x)
noncomputable def GF (C:Calls) (loc:ag) (x:CE) (r:R1):R1:=r.bind fun (o,m)=>if m9 m o=false then none else o9 o (ev C loc m x)
theorem d8 {e x:CE}:ev C loc mu (.app e x)=GF C loc x (ev C loc mu e):=rfl
theorem de {x:CE} {k:Nat}:GF C loc x (some (.r k,m))=vV C loc x k m m[k]? := by
  show (if A2 m[k]? = false then none else o9 (.r k) (ev C loc m x))=vV C loc x k m m[k]?
  cases m[k]? with
  | none=>rfl
  | some ob=>cases ob <;> rfl
theorem c8 {x:CE} {k:Nat} {xs:List Val}:vV C loc x k m (some (.list xs))=o9 (.r k) (ev C loc m x):=rfl
theorem db {k:Nat} {v:Val}:o9 (.r k) (some (v,m))=wH k v m m[k]? := rfl
theorem c9 {k:Nat} {v:Val} {xs:List Val}:wH k v m (some (.list xs))=if xs.length < lim then some (.d .none,m.set k (.list (xs++[v]))) else none:=rfl
noncomputable def vP (k:Nat) (ds:List Dat) (m:Mu) (r:Option MObj):R1:=(r.bind oL).bind fun xs=>if xs.length+ds.length≤lim then some (.d .none,m.set k (.list (xs++ds.map .d))) else none
noncomputable def pU (o:Val) (r:R1):R1:=r.bind fun (v,m)=>(vR o).bind fun k=>(vL v).bind fun ds=>vP k ds m m[k]?
noncomputable def w8 (C:Calls) (loc:ag) (x:CE) (k:Nat) (m:Mu) (r:Option MObj):R1:=(r.bind oL).bind fun Z=>pU (.r k) (ev C loc m x)
noncomputable def E4 (C:Calls) (loc:ag) (x:CE) (r:R1):R1:=r.bind fun (o,m)=>if m9 m o=false then none else pU o (ev C loc m x)
theorem Bz {e x:CE}:ev C loc mu (.ext e x)=E4 C loc x (ev C loc mu e):=rfl
theorem xz {x:CE} {k:Nat}:E4 C loc x (some (.r k,m))=w8 C loc x k m m[k]? := by
  show (if A2 m[k]? = false then none else pU (.r k) (ev C loc m x))=w8 C loc x k m m[k]?
  cases m[k]? with
  | none=>rfl
  | some ob=>cases ob <;> rfl
theorem yA {x:CE} {k:Nat} {xs:List Val}:w8 C loc x k m (some (.list xs))=pU (.r k) (ev C loc m x):=rfl
theorem zQ {k:Nat} {ds:List Dat}:pU (.r k) (some (.d (.lst ds),m))=vP k ds m m[k]? := rfl
theorem zm {k:Nat} {ds:List Dat} {xs:List Val}:vP k ds m (some (.list xs))=if xs.length+ds.length≤lim then some (.d .none,m.set k (.list (xs++ds.map .d))) else none:=rfl
noncomputable def wX (k:Nat) (m:Mu) (r:Option MObj):R1:=(r.bind oL).bind fun l=>wz k m l
noncomputable def Ga (r:R1):R1:=r.bind fun (o,m)=>(vR o).bind fun k=>wX k m m[k]?
theorem Hu {e:CE}:ev C loc mu (.pop0 e)=Ga (ev C loc mu e):=rfl
theorem Gv {k:Nat}:Ga (some (.r k,m))=wX k m m[k]? := rfl
theorem EI {k:Nat} {x:Val} {xs:List Val}:wX k m (some (.list (x::xs)))=if xs.length < lim then some (x,m.set k (.list xs)) else none:=rfl
noncomputable def vX (i:Int) (m:Mu) (r:Option MObj):R1:=(r.bind oI).map fun ks=>(.d ((ks.lookup i).getD .none),m)
noncomputable def sj (o:Val) (r:R1):R1:=r.bind fun (x,m)=>(vR o).bind fun a=>(vI x).bind fun i=>vX i m m[a]?
noncomputable def Cn (C:Calls) (loc:ag) (x:CE) (k:Nat) (m:Mu) (b:Bool):R1:=if b=false then none else sj (.r k) (ev C loc m x)
noncomputable def FW (C:Calls) (loc:ag) (x:CE) (r:R1):R1:=r.bind fun (o,m)=>if js m o=false then none else sj o (ev C loc m x)
theorem rX {e x:CE}:ev C loc mu (.get e x)=FW C loc x (ev C loc mu e):=rfl
theorem pE {x:CE} {k:Nat}:FW C loc x (some (.r k,m))=Cn C loc x k m (mU m[k]?):=rfl
theorem pT {x:CE} {k:Nat}:Cn C loc x k m true=sj (.r k) (ev C loc m x):=rfl
theorem ka {ks:List (Int × Dat)}:mU (some (.idict ks))=true:=rfl
theorem FZ {n:Nat}:mU (some (.spots n))=true:=rfl
theorem po {k:Nat} {i:Int}:sj (.r k) (some (.d (.int i),m))=vX i m m[k]? := rfl
theorem pZ {i:Int} {ks:List (Int × Dat)}:vX i m (some (.idict ks))=some (.d ((ks.lookup i).getD .none),m):=rfl
noncomputable def ES (i:Int) (z:Dat) (m:Mu) (r:Option MObj):R1:=(r.bind oI).map fun ks=>(.d ((ks.lookup i).getD z),m)
noncomputable def Gw (m:Mu) (r:Option MObj):R1:=(r.bind oP).map fun Z=>(.d .any,m)
noncomputable def xl (o x:Val) (r:R1):R1:=r.bind fun (z,m)=>(vR o).bind fun a=>xu a x z m
noncomputable def wL (C:Calls) (loc:ag) (d:CE) (o:Val) (r:R1):R1:=r.bind fun (x,m)=>xl o x (ev C loc m d)
noncomputable def Gg (C:Calls) (loc:ag) (x d:CE) (k:Nat) (m:Mu) (b:Bool):R1:=if b=false then none else wL C loc d (.r k) (ev C loc m x)
noncomputable def Ix (C:Calls) (loc:ag) (x d:CE) (r:R1):R1:=r.bind fun (o,m)=>if js m o=false then none else wL C loc d o (ev C loc m x)
theorem AS {e x d:CE}:ev C loc mu (.getd e x d)=Ix C loc x d (ev C loc mu e):=rfl
theorem vJ {x d:CE} {k:Nat}:Ix C loc x d (some (.r k,m))=Gg C loc x d k m (mU m[k]?):=rfl
theorem wF {x d:CE} {k:Nat}:Gg C loc x d k m true=wL C loc d (.r k) (ev C loc m x):=rfl
theorem vz {d:CE} {o x:Val}:wL C loc d o (some (x,m))=xl o x (ev C loc m d):=rfl
theorem BQ {k:Nat} {i:Int} {z:Dat}:xl (.r k) (.d (.int i)) (some (.d z,m))=ES i z m m[k]? := rfl
theorem Hm {k:Nat} {i j:Int}:xl (.r k) (.d (.tup [.int i,.int j])) (some (.d (.int 0),m))=Gw m m[k]? := rfl
theorem BG {i:Int} {z:Dat} {ks:List (Int × Dat)}:ES i z m (some (.idict ks))=some (.d ((ks.lookup i).getD z),m):=rfl
theorem Ha {n:Nat}:Gw m (some (.spots n))=some (.d .any,m):=rfl
noncomputable def A3 (a:Nat) (i:Int) (m:Mu) (r:Option MObj):R1:=(r.bind oI).bind fun ks=>if ks.length≤lim then some (.d ((ks.lookup i).getD .none),m.set a (.idict (cM i ks))) else none
noncomputable def w3 (o:Val) (r:R1):R1:=r.bind fun (x,m)=>(vR o).bind fun a=>(vI x).bind fun i=>A3 a i m m[a]?
noncomputable def EL (C:Calls) (loc:ag) (x:CE) (k:Nat) (m:Mu) (b:Bool):R1:=if b=false then none else w3 (.r k) (ev C loc m x)
noncomputable def Iv (C:Calls) (loc:ag) (x:CE) (r:R1):R1:=r.bind fun (o,m)=>if js m o=false then none else w3 o (ev C loc m x)
theorem IM {e x:CE}:ev C loc mu (.popd e x)=Iv C loc x (ev C loc mu e):=rfl
theorem GY {x:CE} {k:Nat}:Iv C loc x (some (.r k,m))=EL C loc x k m (mU m[k]?):=rfl
theorem G9 {x:CE} {k:Nat}:EL C loc x k m true=w3 (.r k) (ev C loc m x):=rfl
theorem HC {k:Nat} {i:Int}:w3 (.r k) (some (.d (.int i),m))=A3 k i m m[k]? := rfl
theorem HB {k:Nat} {i:Int} {ks:List (Int × Dat)}:A3 k i m (some (.idict ks))=if ks.length≤lim then some (.d ((ks.lookup i).getD .none),m.set k (.idict (cM i ks))) else none:=rfl
noncomputable abbrev Ro:=Option (Option Val × Mu)
noncomputable def tX (r:R1):Ro:=r.map fun (v,m)=>(some v,m)
noncomputable def qm (C:Calls) (e:CE):ag→Mu→Ro:=fun l m=>tX (ev C l m e)
noncomputable def wK (C:Calls) (e:CE) (l:ag) (r:R1):Ro:=r.bind fun (t,m)=>(df t).bind fun b=>if b then tX (ev C l m e) else some (none,m)
noncomputable def mj (C:Calls) (e c:CE):ag→Mu→Ro:=fun l m=>wK C e l (ev C l m c)
theorem er {e:CE}:qm C e loc mu=tX (ev C loc mu e):=rfl
theorem dl {v:Val}:tX (some (v,m))=some (some v,m):=rfl
theorem ee {e c:CE}:mj C e c loc mu=wK C e loc (ev C loc mu c):=rfl
theorem kb {e:CE}:wK C e loc (some (.d (.bool true),m))=tX (ev C loc m e):=rfl
theorem jj {e:CE}:wK C e loc (some (.d (.bool false),m))=some (none,m):=rfl
noncomputable def sT (q:Bool) (r:Rs):R1:=r.bind fun (vs,m)=>cy q m vs (bN vs)
noncomputable def uj (q:Bool) (f:ag→Mu→Ro) (ts:List Nat) (loc:ag) (m:Mu) (r:Option (List Dat)):R1:=r.bind fun xs=>sT q (cD f ts xs loc m)
noncomputable def vF (q:Bool) (f:ag→Mu→Ro) (ts:List Nat) (loc:ag) (r:R1):R1:=r.bind fun (x,m)=>uj q f ts loc m (fq x)
theorem dZ {q:Bool} {e it:CE} {ts:List Nat}:ev C loc mu (.comp q e ts it)=vF q (qm C e) ts loc (ev C loc mu it):=rfl
theorem gX {e it c:CE} {ts:List Nat}:ev C loc mu (.compif e ts it c)=vF false (mj C e c) ts loc (ev C loc mu it):=rfl
theorem cm {q:Bool} {f:ag→Mu→Ro} {ts:List Nat} {x:Val}:vF q f ts loc (some (x,m))=uj q f ts loc m (fq x):=rfl
theorem cn {q:Bool} {f:ag→Mu→Ro} {ts:List Nat} {xs:List Dat}:uj q f ts loc m (some xs)=sT q (cD f ts xs loc m):=rfl
theorem cj {q:Bool} {vs:List Val}:sT q (some (vs,m))=cy q m vs (bN vs):=rfl
noncomputable def xo (v:Option Val) (r:Rs):Rs:=r.bind fun (vs,m2)=>some (v.toList++vs,m2)
noncomputable def Bh (f:ag→Mu→Ro) (ts:List Nat) (xs:List Dat) (l1:ag) (r:Ro):Rs:=r.bind fun (v,m1)=>xo v (cD f ts xs l1 m1)
noncomputable def EU (f:ag→Mu→Ro) (ts:List Nat) (xs:List Dat) (mu:Mu) (r:Option ag):Rs:=r.bind fun l1=>Bh f ts xs l1 (f l1 mu)
theorem gn {f:ag→Mu→Ro} {ts:List Nat}:cD f ts [] loc mu=some ([],mu):=rfl
theorem eh {f:ag→Mu→Ro} {ts:List Nat} {x:Dat} {xs:List Dat}:cD f ts (x::xs) loc mu=EU f ts xs mu (cU ts x loc):=rfl
theorem c5 {f:ag→Mu→Ro} {ts:List Nat} {xs:List Dat} {l1:ag}:EU f ts xs mu (some l1)=Bh f ts xs l1 (f l1 mu):=rfl
theorem cV {f:ag→Mu→Ro} {ts:List Nat} {xs:List Dat} {l1:ag} {v:Option Val}:Bh f ts xs l1 (some (v,m))=xo v (cD f ts xs l1 m):=rfl
theorem eA {v:Val} {vs:List Val}:xo (some v) (some (vs,m))=some (v::vs,m):=rfl
theorem wP {vs:List Val}:xo none (some (vs,m))=some (vs,m):=rfl
theorem dR {xs:List Dat}:fq (.d (.lst xs))=some xs:=rfl
theorem il {xs:List Dat}:fq (.d (.tup xs))=some xs:=rfl
theorem iZ {a b c:Int}:fq (.d (.rng a b c))=items (.rng a b c):=rfl
theorem BM {xs:List Dat}:jS (.d (.lst xs))=some xs:=rfl
theorem G8 {xs:List Dat}:jS (.d (.tup xs))=some xs:=rfl
noncomputable def EM (m:Mu) (r:Option Val):R1:=r.bind fun v=>(vI v).map fun k=>(.clo k,m)
theorem wC {i:Nat}:ev C loc mu (.lam i)=EM mu (look loc mu i):=rfl
theorem sx {k:Int}:EM m (some (.d (.int k)))=some (.clo k,m):=rfl
noncomputable def Aw (v:Val) (r:R1):R1:=r.bind fun (y,m)=>(vC v).bind fun k=>(vI y).map fun b=>(.d (.int (b+k)),m)
noncomputable def H4 (C:Calls) (loc:ag) (mu:Mu) (x:CE) (r:Option Val):R1:=r.bind fun v=>Aw v (ev C loc mu x)
theorem uK {i:Nat} {x:CE}:ev C loc mu (.callv i x)=H4 C loc mu x (look loc mu i):=rfl
theorem sv {x:CE} {v:Val}:H4 C loc mu x (some v)=Aw v (ev C loc mu x):=rfl
theorem um {k b:Int}:Aw (.clo k) (some (.d (.int b),m))=some (.d (.int (b+k)),m):=rfl
theorem ug:ev C loc mu .emptyI=some (.r mu.length,mu++[.idict []]):=rfl
theorem zS:ev C loc mu .emptyP=some (.r mu.length,mu++[.spots 0]):=rfl
noncomputable def Ah (ws:List W) (m:Mu) (r:Option (List Dat)):R1:=r.map fun ds=>(.d (.dct ws ds),m)
noncomputable def ER (fr:Bool) (ws:List W) (r:Rs):R1:=r.bind fun (vs,m)=>if ws.length=vs.length∧ws.Nodup∧ws.length≤8 then
      (if fr then Ah ws m (bN vs) else some (.r m.length,m++[.sdict ws vs])) else none
theorem j4 {fr:Bool} {ws:List W} {es:CEs}:ev C loc mu (.sdisp fr ws es)=ER fr ws (cS C loc mu es):=rfl
theorem jA {ws:List W} {vs:List Val}:ER true ws (some (vs,m))=if ws.length=vs.length∧ws.Nodup∧ws.length≤8 then Ah ws m (bN vs) else none:=rfl
theorem B4 {ws:List W} {vs:List Val}:ER false ws (some (vs,m))=if ws.length=vs.length∧ws.Nodup∧ws.length≤8 then some (.r m.length,m++[.sdict ws vs]) else none:=rfl
theorem jD {ws:List W} {ds:List Dat}:Ah ws m (some ds)=some (.d (.dct ws ds),m):=rfl
noncomputable def AQ (r:Option (Dat × Mu)):R1:=r.map fun (d,m)=>(.d d,m)
noncomputable def Ik (r:R1):R1:=r.bind fun (v,m)=>AQ (freeze 4 m v)
theorem gm {e:CE}:ev C loc mu (.frz e)=Ik (ev C loc mu e):=rfl
theorem fk {v:Val}:Ik (some (v,m))=AQ (freeze 4 m v):=rfl
theorem ft {d:Dat}:AQ (some (d,m))=some (.d d,m):=rfl
noncomputable abbrev vn:=Option (Dat × Mu)
noncomputable abbrev xG:=Option (List Dat × Mu)
noncomputable def vG (i:Nat) (ds:List Dat) (m1:Mu) (r:Option MObj):vn:=(r.bind oL).map fun Z=>(.lst ds,m1.set i (.frz (.lst ds)))
noncomputable def FJ (i:Nat) (r:xG):vn:=r.bind fun (ds,m1)=>vG i ds m1 m1[i]?
noncomputable def vW (i:Nat) (c:Cls) (fs:List Fld) (ds:List Dat) (m1:Mu) (r:Option MObj):vn:=(r.bind oO).map fun Z=>(.obj c fs ds,m1.set i (.frz (.obj c fs ds)))
noncomputable def FN (i:Nat) (c:Cls) (fs:List Fld) (r:xG):vn:=r.bind fun (ds,m1)=>vW i c fs ds m1 m1[i]?
noncomputable def Bo (n i:Nat) (mu:Mu) (r:Option MObj):vn:=r.bind fun ob=>wt (q9 (freeze n)) i mu ob
theorem lz {n:Nat} {x:Dat}:freeze (n+1) mu (.d x)=some (x,mu):=rfl
theorem cN {n k:Nat}:freeze (n+1) mu (.r k)=Bo n k mu mu[k]? := rfl
theorem td {n k b:Nat}:Bo n k mu (some (.spots b))=some (.spots b,mu.set k (.frz (.spots b))):=rfl
theorem gr {n k:Nat} {xs:List Val}:Bo n k mu (some (.list xs))=FJ k (freeze.go n mu xs):=rfl
theorem th {n k:Nat} {c:Cls} {fs:List Fld} {xs:List Val}:Bo n k mu (some (.inst c fs xs))=FN k c fs (freeze.go n mu xs):=rfl
theorem fP {k:Nat} {ds:List Dat}:FJ k (some (ds,m))=vG k ds m m[k]? := rfl
theorem fG {k:Nat} {ds:List Dat} {xs:List Val}:vG k ds m (some (.list xs))=some (.lst ds,m.set k (.frz (.lst ds))):=rfl
theorem qO {k:Nat} {c:Cls} {fs:List Fld} {ds:List Dat}:FN k c fs (some (ds,m))=vW k c fs ds m m[k]? := rfl
theorem qj {k:Nat} {c c':Cls} {fs fs':List Fld} {ds:List Dat} {xs:List Val}:vW k c fs ds m (some (.inst c' fs' xs))=some (.obj c fs ds,m.set k (.frz (.obj c fs ds))):=rfl
noncomputable def A7 (x:Dat) (r:xG):xG:=r.bind fun (xs,m2)=>some (x::xs,m2)
noncomputable def GP (n:Nat) (vs:List Val) (r:vn):xG:=r.bind fun (x,m1)=>A7 x (freeze.go n m1 vs)
theorem rW {n:Nat}:freeze.go n mu []=some ([],mu):=rfl
theorem xg {n:Nat} {v:Val} {vs:List Val}:freeze.go n mu (v::vs)=GP n vs (freeze n mu v):=rfl
theorem r0 {n:Nat} {vs:List Val} {x:Dat}:GP n vs (some (x,m))=A7 x (freeze.go n m vs):=rfl
theorem sg {x:Dat} {xs:List Dat}:A7 x (some (xs,m))=some (x::xs,m):=rfl
theorem gU {n:Nat}:∀ {xs:List Dat},freeze.go (n+1) mu (xs.map Val.d)=some (xs,mu)
  | []=>rW
  | x::xs=>by rw [List.map_cons,xg,lz,r0,gU,sg]
noncomputable def EH (v:Val) (r:Rs):Rs:=r.bind fun (vs,m)=>some (v::vs,m)
noncomputable def Ia (C:Calls) (loc:ag) (es:CEs) (r:R1):Rs:=r.bind fun (v,m)=>EH v (cS C loc m es)
theorem aF:cS C loc mu .nil=some ([],mu):=rfl
theorem bo {e:CE} {es:CEs}:cS C loc mu (.cons e es)=Ia C loc es (ev C loc mu e):=rfl
theorem aL {es:CEs} {v:Val}:Ia C loc es (some (v,m))=EH v (cS C loc m es):=rfl
theorem aM {v:Val} {vs:List Val}:EH v (some (vs,m))=some (v::vs,m):=rfl
noncomputable def k8 (loc:ag) (i:Nat) (r:R1):Rx:=r.bind fun (v,m)=>if i < loc.length then some (.next,loc.set i (some v),m) else none
theorem aV {i:Nat} {e:CE}:ex C loc mu (.asg i e)=k8 loc i (ev C loc mu e):=rfl
noncomputable def kG (m:Mu) (r:Option ag):Rx:=r.map fun l=>(.next,l,m)
theorem cT {l:ag}:kG m (some l)=some (.next,l,m):=rfl
noncomputable def sR (loc:ag) (is:List Nat) (r:R1):Rx:=r.bind fun (v,m)=>(vD v).bind fun x=>(tO x).bind fun xs=>if is.length=xs.length then kG m (ap is (xs.map .d) loc) else none
theorem fx {is:List Nat} {e:CE}:ex C loc mu (.unp is e)=sR loc is (ev C loc mu e):=rfl
noncomputable def Fb (loc:ag) (is:List Nat) (r:Rs):Rx:=r.bind fun (vs,m)=>if is.length=vs.length∧is.length≤8 then kG m (ap is vs loc) else none
theorem nv {is:List Nat} {es:CEs}:ex C loc mu (.multi is es)=Fb loc is (cS C loc mu es):=rfl
theorem be:ap [] [] loc=some loc:=rfl
theorem hY {i:Nat} {is:List Nat} {v:Val} {vs:List Val}:ap (i::is) (v::vs) loc=if i < loc.length then ap is vs (loc.set i (some v)) else none:=rfl
noncomputable def Eg (loc:ag) (x:Val) (a:Nat) (k:Int) (m:Mu) (r:Option MObj):Rx:=r.bind fun ob=>BW loc x a k m ob
noncomputable def Ih (loc:ag) (x:Val) (a:Nat) (w:W) (m:Mu) (r:Option MObj):Rx:=(r.bind oD).bind fun q=>Cu loc x a w m q
noncomputable def Iy (loc:ag) (x:Val) (a:Nat) (m:Mu) (r:Option MObj):Rx:=(r.bind oP).bind fun n=>Co loc x a m n
noncomputable def xE (loc:ag) (x a:Val) (r:R1):Rx:=r.bind fun (k,m)=>(vR a).bind fun a=>r6 loc x a k m
noncomputable def Fh (C:Calls) (loc:ag) (i:CE) (x:Val) (r:R1):Rx:=r.bind fun (a,m)=>xE loc x a (ev C loc m i)
noncomputable def HU (C:Calls) (loc:ag) (o i:CE) (r:R1):Rx:=r.bind fun (x,m)=>Fh C loc i x (ev C loc m o)
theorem gw {o i v:CE}:ex C loc mu (.sett o i v)=HU C loc o i (ev C loc mu v):=rfl
theorem kp {o i:CE} {x:Val}:HU C loc o i (some (x,m))=Fh C loc i x (ev C loc m o):=rfl
theorem kj {i:CE} {x a:Val}:Fh C loc i x (some (a,m))=xE loc x a (ev C loc m i):=rfl
theorem oR {x:Val} {a:Nat} {k:Int}:xE loc x (.r a) (some (.d (.int k),m))=Eg loc x a k m m[a]? := rfl
theorem w6 {x:Val} {a:Nat} {w:W}:xE loc x (.r a) (some (.d (.str w),m))=Ih loc x a w m m[a]? := rfl
theorem HN {x:Val} {a:Nat} {i j:Int}:xE loc x (.r a) (some (.d (.tup [.int i,.int j]),m))=Iy loc x a m m[a]? := rfl
theorem pD {x:Val} {a:Nat} {k:Int} {xs:List Val}:Eg loc x a k m (some (.list xs))=(dg k xs.length).map fun j=>(.next,loc,m.set a (.list (xs.set j x))):=rfl
theorem rU {x:Dat} {a:Nat} {k:Int} {ks:List (Int × Dat)}:Eg loc (.d x) a k m (some (.idict ks))=if ks.length < lim then some (.next,loc,m.set a (.idict (ci k x ks))) else none:=rfl
theorem Ar {x:Val} {a:Nat} {w:W} {ks:List W} {xs:List Val}:Ih loc x a w m (some (.sdict ks xs))=if ks.contains w=true∧ks.length≤lim then some (.next,loc,m.set a (.sdict ks (lV w x ks xs))) else none:=rfl
theorem Jh {a n:Nat}:Iy loc (.d .any) a m (some (.spots n))=if n < lim then some (.next,loc,m.set a (.spots (n+1))) else none:=rfl
noncomputable def Eb (loc:ag) (f:Fld) (x:Val) (a:Nat) (m:Mu) (r:Option MObj):Rx:=(r.bind oO).bind fun q=>if q.2.1.length < lim then some (.next,loc,m.set a (.inst q.1 (jZ f q.2.1) (jm f x q.2.1 q.2.2))) else none
noncomputable def FC (loc:ag) (f:Fld) (x:Val) (r:R1):Rx:=r.bind fun (a,m)=>(vR a).bind fun a=>Eb loc f x a m m[a]?
noncomputable def Iw (C:Calls) (loc:ag) (o:CE) (f:Fld) (r:R1):Rx:=r.bind fun (x,m)=>FC loc f x (ev C loc m o)
theorem ul {o v:CE} {f:Fld}:ex C loc mu (.seta o f v)=Iw C loc o f (ev C loc mu v):=rfl
theorem wY {o:CE} {f:Fld} {x:Val}:Iw C loc o f (some (x,m))=FC loc f x (ev C loc m o):=rfl
theorem xf {f:Fld} {x:Val} {a:Nat}:FC loc f x (some (.r a,m))=Eb loc f x a m m[a]? := rfl
theorem ww {f:Fld} {x:Val} {a:Nat} {c:Cls} {fs:List Fld} {xs:List Val}:Eb loc f x a m (some (.inst c fs xs))=if fs.length < lim then some (.next,loc,m.set a (.inst c (jZ f fs) (jm f x fs xs))) else none:=rfl
noncomputable def zY (C:Calls) (loc:ag) (a b:CSs) (r:R1):Rx:=r.bind fun (x,m)=>(df x).bind fun t=>if t then ea C loc m a else ea C loc m b
theorem bf {c:CE} {a b:CSs}:ex C loc mu (.ifs c a b)=zY C loc a b (ev C loc mu c):=rfl
theorem ct {a b:CSs}:zY C loc a b (some (.d (.bool true),m))=ea C loc m a:=rfl
theorem bh {a b:CSs}:zY C loc a b (some (.d (.bool false),m))=ea C loc m b:=rfl
noncomputable def FV (loc:ag) (r:R1):Rx:=r.map fun (v,m)=>(.ret v,loc,m)
theorem bD {e:CE}:ex C loc mu (.ret e)=FV loc (ev C loc mu e):=rfl
theorem bn {v:Val}:FV loc (some (v,m))=some (.ret v,loc,m):=rfl
noncomputable def En (loc:ag) (r:R1):Rx:=r.map fun (_,m)=>(.next,loc,m)
theorem cI {e:CE}:ex C loc mu (.expr e)=En loc (ev C loc mu e):=rfl
theorem ce {v:Val}:En loc (some (v,m))=some (.next,loc,m):=rfl
noncomputable def ez (C:Calls) (b:CSs):ag→Mu→Rx:=fun l m=>ea C l m b
theorem fH {b:CSs}:ez C b loc mu=ea C loc mu b:=rfl
noncomputable def vO (f:ag→Mu→Rx) (ts:List Nat) (loc:ag) (m:Mu) (r:Option (List Dat)):Rx:=r.bind fun xs=>cY f ts xs loc m
noncomputable def ET (f:ag→Mu→Rx) (ts:List Nat) (loc:ag) (r:R1):Rx:=r.bind fun (x,m)=>vO f ts loc m (fq x)
noncomputable def t9 (f:ag→Mu→Rx) (ts:List Nat) (loc:ag) (m:Mu) (r:Option (List Dat)):Rx:=r.bind fun xs=>cY f ts (hZ xs 0) loc m
noncomputable def BX (f:ag→Mu→Rx) (ts:List Nat) (loc:ag) (r:R1):Rx:=r.bind fun (x,m)=>t9 f ts loc m (jS x)
theorem fo {ts:List Nat} {it:CE} {b:CSs}:ex C loc mu (.for_ ts it b)=ET (ez C b) ts loc (ev C loc mu it):=rfl
theorem d0 {f:ag→Mu→Rx} {ts:List Nat} {x:Val}:ET f ts loc (some (x,m))=vO f ts loc m (fq x):=rfl
theorem dX {f:ag→Mu→Rx} {ts:List Nat} {xs:List Dat}:vO f ts loc m (some xs)=cY f ts xs loc m:=rfl
theorem s5 {i j:Nat} {it:CE} {b:CSs}:ex C loc mu (.forEnum i j it b)=BX (ez C b) [i,j] loc (ev C loc mu it):=rfl
theorem qN {f:ag→Mu→Rx} {ts:List Nat} {x:Val}:BX f ts loc (some (x,m))=t9 f ts loc m (jS x):=rfl
theorem qk {f:ag→Mu→Rx} {ts:List Nat} {xs:List Dat}:t9 f ts loc m (some xs)=cY f ts (hZ xs 0) loc m:=rfl
noncomputable def wy (f:ag→Mu→Rx) (ts:List Nat) (xs:List Dat) (r:Rx):Rx:=r.bind fun (fl,l2,m2)=>match fl with
      | .next=>cY f ts xs l2 m2
      | .ret v=>some (.ret v,l2,m2)
noncomputable def Gj (f:ag→Mu→Rx) (ts:List Nat) (xs:List Dat) (mu:Mu) (r:Option ag):Rx:=r.bind fun l1=>wy f ts xs (f l1 mu)
theorem ii {f:ag→Mu→Rx} {ts:List Nat}:cY f ts [] loc mu=some (.next,loc,mu):=rfl
theorem gQ {f:ag→Mu→Rx} {ts:List Nat} {x:Dat} {xs:List Dat}:cY f ts (x::xs) loc mu=Gj f ts xs mu (cU ts x loc):=rfl
theorem fD {f:ag→Mu→Rx} {ts:List Nat} {xs:List Dat} {l1:ag}:Gj f ts xs mu (some l1)=wy f ts xs (f l1 mu):=rfl
theorem fS {f:ag→Mu→Rx} {ts:List Nat} {xs:List Dat} {l:ag}:wy f ts xs (some (.next,l,m))=cY f ts xs l m:=rfl
theorem BB {f:ag→Mu→Rx} {ts:List Nat} {xs:List Dat} {l:ag} {v:Val}:wy f ts xs (some (.ret v,l,m))=some (.ret v,l,m):=rfl
theorem cp {t:Nat} {x:Dat}:cU [t] x loc=ap [t] [.d x] loc:=by cases x <;> rfl
theorem HM {t u:Nat} {ts:List Nat} {xs:List Dat}:cU (t::u::ts) (.tup xs) loc=if (t::u::ts).length=xs.length then ap (t::u::ts) (xs.map .d) loc else none:=rfl
noncomputable def AD (C:Calls) (r:CSs) (v:Rx):Rx:=v.bind fun (fl,l,m)=>match fl with
      | .next=>ea C l m r
      | .ret v=>some (.ret v,l,m)
theorem bx:ea C loc mu .nil=some (.next,loc,mu):=rfl
theorem aT {s:CS} {r:CSs}:ea C loc mu (.cons s r)=AD C r (ex C loc mu s):=rfl
theorem aH {r:CSs}:AD C r (some (.next,loc,mu))=ea C loc mu r:=rfl
theorem bV {r:CSs} {v:Val}:AD C r (some (.ret v,loc,mu))=some (.ret v,loc,mu):=rfl
theorem ak:CEs.of []=.nil:=rfl
theorem ao {e:CE} {r:List CE}:CEs.of (e::r)=.cons e (CEs.of r):=rfl
theorem aq:CSs.of []=.nil:=rfl
theorem aJ {e:CS} {r:List CS}:CSs.of (e::r)=.cons e (CSs.of r):=rfl
theorem bG:bN []=some []:=rfl
theorem bK {x:Dat} {r:List Val}:bN (.d x::r)=(bN r).map (x::·):=rfl
noncomputable def vU (cut:Bool) (n:Nat) (r:Rx):R1:=r.bind fun (fl,_,m)=>cE cut n (match fl with | .ret v=>v | .next=>.d .none) m
theorem aU {cut:Bool} {n:Nat} {v:Val} {l:ag}:vU cut n (some (.ret v,l,m))=cE cut n v m:=rfl
theorem cZ {cut:Bool} {n:Nat} {l:ag}:vU cut n (some (.next,l,m))=cE cut n (.d .none) m:=rfl
theorem aX {P:Fn→FDef} {n:Nat} {f:Fn} {vs:List Val} {d:FDef} (hd:P f=d) (h:vs.length=d.params) :
    an P (n+1) f vs mu=vU d.cut mu.length (ea (an P n) (vs.map some++List.replicate (d.names.length - d.params) none) mu d.body):=by
  subst hd
  rw [BR]
  dsimp only
  rw [if_pos ⟨Nat.le_of_eq h,by rw [h,Nat.sub_self]; exact Nat.zero_le _⟩,h,Nat.sub_self,Nat.sub_zero,List.drop_length,List.map_nil,List.append_nil]
  rfl
end
section
variable {mu:Mu} {q:Bool}
theorem cA {x y:Int}:fF mu q .add (.d (.int x)) (.d (.int y))=some (.d (.int (x+y)),mu):=rfl
theorem lG {x y:Int}:fF mu q .sub (.d (.int x)) (.d (.int y))=some (.d (.int (x - y)),mu):=rfl
theorem ql {x y:Int}:fF mu q .mul (.d (.int x)) (.d (.int y))=if y.natAbs < 2 ^ 64 then some (.d (.int (x * y)),mu) else none:=rfl
theorem Dy {x:Dat} {n:Int}:fF mu q .mul (.d (.tup [x])) (.d (.int n))=if n=2 then (gu [x,x]).map (·,mu) else none:=rfl
theorem vd {x y:Int}:fF mu q .fdiv (.d (.int x)) (.d (.int y))=if y=0∨1073741824≤y.natAbs then none else some (.d (.int (x.fdiv y)),mu):=rfl
theorem je {x y:Int}:fF mu q .mod (.d (.int x)) (.d (.int y))=if y=0 then none else some (.d (.int (x.fmod y)),mu):=rfl
theorem zh {x y:Int}:fF mu q .pow (.d (.int x)) (.d (.int y))=if x=10∧y=18 then some (.d (.int (10 ^ 18)),mu) else none:=rfl
theorem tj {x y:Int}:fF mu q .xor (.d (.int x)) (.d (.int y))=some (.d (.int (PySem.Builtin.bitXor x y)),mu):=rfl
noncomputable def A1 (mu:Mu) (q:Bool) (xs:List Val) (r:Option (List Val)):Option (Val × Mu):=r.bind fun ys=>cy q mu (xs++ys) (bN (xs++ys))
noncomputable def Ew (mu:Mu) (q:Bool) (b:Val) (r:Option (List Val)):Option (Val × Mu):=r.bind fun xs=>A1 mu q xs (f9 mu b)
noncomputable def H5 (mu:Mu) (q:Bool) (n:Int) (r:Option (List Val)):Option (Val × Mu):=r.bind fun xs=>if 1≤n∧n≤8 then cy q mu (List.replicate n.toNat xs).flatten (bN (List.replicate n.toNat xs).flatten) else none
theorem lA {xs:List Dat} {b:Val}:fF mu q .add (.d (.lst xs)) b=Ew mu q b (some (xs.map .d)):=rfl
theorem C0 {k:Nat} {b:Val}:fF mu q .add (.r k) b=Ew mu q b (wp mu[k]?):=rfl
theorem nC {xs:List Dat} {n:Int}:fF mu q .mul (.d (.lst xs)) (.d (.int n))=H5 mu q n (some (xs.map .d)):=rfl
theorem nK {xs:List Val} {b:Val}:Ew mu q b (some xs)=A1 mu q xs (f9 mu b):=rfl
theorem nM {xs ys:List Val}:A1 mu q xs (some ys)=cy q mu (xs++ys) (bN (xs++ys)):=rfl
theorem sd {xs:List Val} {n:Int}:H5 mu q n (some xs)=if 1≤n∧n≤8 then cy q mu (List.replicate n.toNat xs).flatten (bN (List.replicate n.toNat xs).flatten) else none:=rfl
theorem bH {α β:Type} [DecidableEq α] {k a:α} {as:List α} {b:β} {bs:List β}:dC k (a::as) (b::bs)=if a=k then some b else dC k as bs:=rfl
theorem wN {x y:Int}:dU mu .lt (.d (.int x)) (.d (.int y))=some (decide (x < y)):=rfl
theorem sf {x y:Int}:dU mu .gt (.d (.int x)) (.d (.int y))=some (decide (y < x)):=rfl
theorem B6 {x y:Int}:dU mu .ge (.d (.int x)) (.d (.int y))=some (decide (y≤x)):=rfl
theorem Hx {x y:Int}:dU mu .le (.d (.int x)) (.d (.int y))=some (decide (x≤y)):=rfl
theorem bw {a b:Val}:dU mu .eq a b=ku mu a b:=rfl
theorem iA {a b:Val}:dU mu .ne a b=(ku mu a b).map (!·):=rfl
theorem ja {w:W} {xs:List Dat}:dU mu .in_ (.d (.str w)) (.d (.tup xs))=(kq xs).map (·.contains w):=rfl
theorem s6 {w:W} {ks:List W} {xs:List Dat}:dU mu .in_ (.d (.str w)) (.d (.dct ks xs))=some (ks.contains w):=rfl
theorem GE {x:Int} {xs:List Dat}:dU mu .in_ (.d (.int x)) (.d (.lst xs))=(gg xs).map (·.contains x):=rfl
theorem jh {x:Int} {xs:List Dat}:dU mu .notIn (.d (.int x)) (.d (.lst xs))=(gg xs).map (!·.contains x):=rfl
theorem aW {x y:Dat}:ku mu (.d x) (.d y)=gE x y:=rfl
noncomputable def EZ (ys:List Dat) (r:Option MObj):Option Bool:=(r.bind oL).bind fun xs=>(bN xs).bind fun ds=>gE (.lst ds) (.lst ys)
theorem E1 {i:Nat} {ys:List Dat}:ku mu (.r i) (.d (.lst ys))=EZ ys mu[i]? := rfl
theorem Dg {ys:List Dat} {xs:List Val}:EZ ys (some (.list xs))=(bN xs).bind fun ds=>gE (.lst ds) (.lst ys):=rfl
theorem tH {x y:Dat}:gE x y=if x.plain && y.plain && decide (min x.dep y.dep≤64) then Dat.eqv x y else none:=rfl
theorem BC {b:Int}:Dat.plain (.int b)=true:=rfl
theorem w0 {b:List Dat}:Dat.plain (.lst b)=cQ b:=rfl
theorem sZ:cQ []=true:=rfl
theorem zE {x:Dat} {xs:List Dat}:cQ (x::xs)=(x.plain && cQ xs):=rfl
theorem GV {b:Int}:Dat.dep (.int b)=0:=rfl
theorem wu {b:List Dat}:Dat.dep (.lst b)=gf b+1:=rfl
theorem tG:gf []=0:=rfl
theorem EA {x:Dat} {xs:List Dat}:gf (x::xs)=max x.dep (gf xs):=rfl
theorem wm {a b:List Dat}:Dat.eqv (.lst a) (.lst b)=iG a b:=rfl
theorem FT:iG [] []=some true:=rfl
theorem yb {y:Dat} {ys:List Dat}:iG (y::ys) []=some false:=rfl
theorem kI:kq []=some []:=rfl
theorem kt {w:W} {r:List Dat}:kq (.str w::r)=(kq r).map (w::·):=rfl
end
section
variable {C:Calls} {mu m:Mu} {loc:ag}
theorem aj {α:Type} {a0:α} {l:List α}:(a0::l)[0]? = some a0:=rfl
theorem lZ {a0 a1:Option Val} {l:ag} {v:Val}:k8 (a0::a1::l) 1 (some (v,m))=some (.next,a0::some v::l,m):=rfl
theorem rZ {a0 a1:Option Val} {l:ag} {v:Val} {is:List Nat} {vs:List Val}:ap (1::is) (v::vs) (a0::a1::l)=ap is vs (a0::some v::l):=rfl
theorem cW {a0 a1 a2:Option Val} {l:ag} {v:Val}:k8 (a0::a1::a2::l) 2 (some (v,m))=some (.next,a0::a1::some v::l,m):=rfl
theorem kO {a0 a1 a2:Option Val} {l:ag} {v:Val} {is:List Nat} {vs:List Val}:ap (2::is) (v::vs) (a0::a1::a2::l)=ap is vs (a0::a1::some v::l):=rfl
theorem ew {a0 a1 a2 a3:Option Val} {l:ag} {v:Val}:k8 (a0::a1::a2::a3::l) 3 (some (v,m))=some (.next,a0::a1::a2::some v::l,m):=rfl
theorem kH {a0 a1 a2 a3:Option Val} {l:ag} {v:Val} {is:List Nat} {vs:List Val}:ap (3::is) (v::vs) (a0::a1::a2::a3::l)=ap is vs (a0::a1::a2::some v::l):=rfl
theorem im {a0 a1 a2 a3 a4:Option Val} {l:ag} {v:Val}:k8 (a0::a1::a2::a3::a4::l) 4 (some (v,m))=some (.next,a0::a1::a2::a3::some v::l,m):=rfl
theorem iu {a0 a1 a2 a3 a4:Option Val} {l:ag} {v:Val} {is:List Nat} {vs:List Val}:ap (4::is) (v::vs) (a0::a1::a2::a3::a4::l)=ap is vs (a0::a1::a2::a3::some v::l):=rfl
theorem eX {a0 a1 a2 a3 a4 a5:Option Val} {l:ag} {v:Val}:k8 (a0::a1::a2::a3::a4::a5::l) 5 (some (v,m))=some (.next,a0::a1::a2::a3::a4::some v::l,m):=rfl
theorem nP {a0 a1 a2 a3 a4 a5:Option Val} {l:ag} {v:Val} {is:List Nat} {vs:List Val}:ap (5::is) (v::vs) (a0::a1::a2::a3::a4::a5::l)=ap is vs (a0::a1::a2::a3::a4::some v::l):=rfl
theorem gO {a0 a1 a2 a3 a4 a5 a6:Option Val} {l:ag} {v:Val}:k8 (a0::a1::a2::a3::a4::a5::a6::l) 6 (some (v,m))=some (.next,a0::a1::a2::a3::a4::a5::some v::l,m):=rfl
theorem kJ {a0 a1 a2 a3 a4 a5 a6:Option Val} {l:ag} {v:Val} {is:List Nat} {vs:List Val}:ap (6::is) (v::vs) (a0::a1::a2::a3::a4::a5::a6::l)=ap is vs (a0::a1::a2::a3::a4::a5::some v::l):=rfl
theorem v8 {a0 a1 a2 a3 a4 a5 a6 a7:Option Val} {l:ag} {v:Val}:k8 (a0::a1::a2::a3::a4::a5::a6::a7::l) 7 (some (v,m))=some (.next,a0::a1::a2::a3::a4::a5::a6::some v::l,m):=rfl
theorem rR {a0 a1 a2 a3 a4 a5 a6 a7:Option Val} {l:ag} {v:Val} {is:List Nat} {vs:List Val}:ap (7::is) (v::vs) (a0::a1::a2::a3::a4::a5::a6::a7::l)=ap is vs (a0::a1::a2::a3::a4::a5::a6::some v::l):=rfl
theorem kA {a0 a1 a2 a3 a4 a5 a6 a7 a8:Option Val} {l:ag} {v:Val} {is:List Nat} {vs:List Val}:ap (8::is) (v::vs) (a0::a1::a2::a3::a4::a5::a6::a7::a8::l)=ap is vs (a0::a1::a2::a3::a4::a5::a6::a7::some v::l):=rfl
theorem CC {a0 a1 a2 a3 a4 a5 a6 a7 a8 a9:Option Val} {l:ag} {v:Val}:k8 (a0::a1::a2::a3::a4::a5::a6::a7::a8::a9::l) 9 (some (v,m))=some (.next,a0::a1::a2::a3::a4::a5::a6::a7::a8::some v::l,m):=rfl
theorem kw {a0 a1 a2 a3 a4 a5 a6 a7 a8 a9:Option Val} {l:ag} {v:Val} {is:List Nat} {vs:List Val}:ap (9::is) (v::vs) (a0::a1::a2::a3::a4::a5::a6::a7::a8::a9::l)=ap is vs (a0::a1::a2::a3::a4::a5::a6::a7::a8::some v::l):=rfl
theorem lj {a0 a1 a2 a3 a4 a5 a6 a7 a8 a9 a10:Option Val} {l:ag} {v:Val} {is:List Nat} {vs:List Val}:ap (10::is) (v::vs) (a0::a1::a2::a3::a4::a5::a6::a7::a8::a9::a10::l)=ap is vs (a0::a1::a2::a3::a4::a5::a6::a7::a8::a9::some v::l):=rfl
theorem iC {a0 a1 a2 a3 a4 a5 a6 a7 a8 a9 a10 a11:Option Val} {l:ag} {v:Val} {is:List Nat} {vs:List Val}:ap (11::is) (v::vs) (a0::a1::a2::a3::a4::a5::a6::a7::a8::a9::a10::a11::l)=ap is vs (a0::a1::a2::a3::a4::a5::a6::a7::a8::a9::a10::some v::l):=rfl
theorem j5 {a0 a1 a2 a3 a4 a5 a6 a7 a8 a9 a10 a11 a12:Option Val} {l:ag} {v:Val} {is:List Nat} {vs:List Val}:ap (12::is) (v::vs) (a0::a1::a2::a3::a4::a5::a6::a7::a8::a9::a10::a11::a12::l)=ap is vs (a0::a1::a2::a3::a4::a5::a6::a7::a8::a9::a10::a11::some v::l):=rfl
theorem Eo {a0 a1 a2 a3 a4 a5 a6 a7 a8 a9 a10 a11 a12 a13:Option Val} {l:ag} {v:Val}:k8 (a0::a1::a2::a3::a4::a5::a6::a7::a8::a9::a10::a11::a12::a13::l) 13 (some (v,m))=some (.next,a0::a1::a2::a3::a4::a5::a6::a7::a8::a9::a10::a11::a12::some v::l,m):=rfl
theorem sE {a0 a1 a2 a3 a4 a5 a6 a7 a8 a9 a10 a11 a12 a13:Option Val} {l:ag} {v:Val} {is:List Nat} {vs:List Val}:ap (13::is) (v::vs) (a0::a1::a2::a3::a4::a5::a6::a7::a8::a9::a10::a11::a12::a13::l)=ap is vs (a0::a1::a2::a3::a4::a5::a6::a7::a8::a9::a10::a11::a12::some v::l):=rfl
theorem EJ {a0 a1 a2 a3 a4 a5 a6 a7 a8 a9 a10 a11 a12 a13 a14:Option Val} {l:ag} {v:Val} {is:List Nat} {vs:List Val}:ap (14::is) (v::vs) (a0::a1::a2::a3::a4::a5::a6::a7::a8::a9::a10::a11::a12::a13::a14::l)=ap is vs (a0::a1::a2::a3::a4::a5::a6::a7::a8::a9::a10::a11::a12::a13::some v::l):=rfl
theorem FG {a0 a1 a2 a3 a4 a5 a6 a7 a8 a9 a10 a11 a12 a13 a14 a15:Option Val} {l:ag} {v:Val} {is:List Nat} {vs:List Val}:ap (15::is) (v::vs) (a0::a1::a2::a3::a4::a5::a6::a7::a8::a9::a10::a11::a12::a13::a14::a15::l)=ap is vs (a0::a1::a2::a3::a4::a5::a6::a7::a8::a9::a10::a11::a12::a13::a14::some v::l):=rfl
theorem Fe {a0 a1 a2 a3 a4 a5 a6 a7 a8 a9 a10 a11 a12 a13 a14 a15 a16:Option Val} {l:ag} {v:Val} {is:List Nat} {vs:List Val}:ap (16::is) (v::vs) (a0::a1::a2::a3::a4::a5::a6::a7::a8::a9::a10::a11::a12::a13::a14::a15::a16::l)=ap is vs (a0::a1::a2::a3::a4::a5::a6::a7::a8::a9::a10::a11::a12::a13::a14::a15::some v::l):=rfl
theorem xN {a0 a1 a2 a3 a4 a5 a6 a7 a8 a9 a10 a11 a12 a13 a14 a15 a16 a17:Option Val} {l:ag} {v:Val} {is:List Nat} {vs:List Val}:ap (17::is) (v::vs) (a0::a1::a2::a3::a4::a5::a6::a7::a8::a9::a10::a11::a12::a13::a14::a15::a16::a17::l)=ap is vs (a0::a1::a2::a3::a4::a5::a6::a7::a8::a9::a10::a11::a12::a13::a14::a15::a16::some v::l):=rfl
theorem xJ {a0 a1 a2 a3 a4 a5 a6 a7 a8 a9 a10 a11 a12 a13 a14 a15 a16 a17 a18:Option Val} {l:ag} {v:Val} {is:List Nat} {vs:List Val}:ap (18::is) (v::vs) (a0::a1::a2::a3::a4::a5::a6::a7::a8::a9::a10::a11::a12::a13::a14::a15::a16::a17::a18::l)=ap is vs (a0::a1::a2::a3::a4::a5::a6::a7::a8::a9::a10::a11::a12::a13::a14::a15::a16::a17::some v::l):=rfl
theorem cL:oY (some ([],m))=some (.d (.tup []),m):=rfl
theorem iV:no false (some ([],m))=some (.d (.lst []),m):=rfl
theorem gK {a0:Dat}:oY (some ([.d a0],m))=some (.d (.tup [a0]),m):=rfl
theorem gJ {a0:Dat}:no false (some ([.d a0],m))=some (.d (.lst [a0]),m):=rfl
theorem b5 {a0 a1:Dat}:oY (some ([.d a0,.d a1],m))=some (.d (.tup [a0,a1]),m):=rfl
theorem eU {a0 a1:Dat}:no false (some ([.d a0,.d a1],m))=some (.d (.lst [a0,a1]),m):=rfl
theorem d6 {a0 a1 a2:Dat}:oY (some ([.d a0,.d a1,.d a2],m))=some (.d (.tup [a0,a1,a2]),m):=rfl
theorem ni {a0 a1 a2:Dat}:no false (some ([.d a0,.d a1,.d a2],m))=some (.d (.lst [a0,a1,a2]),m):=rfl
theorem kC {a0 a1 a2 a3:Dat}:oY (some ([.d a0,.d a1,.d a2,.d a3],m))=some (.d (.tup [a0,a1,a2,a3]),m):=rfl
theorem lQ {a0 a1 a2 a3 a4:Dat}:oY (some ([.d a0,.d a1,.d a2,.d a3,.d a4],m))=some (.d (.tup [a0,a1,a2,a3,a4]),m):=rfl
theorem ju {vs:List Val}:no true (some (vs,m))=cy true m vs (bN vs):=rfl
theorem hV {a0 a1:Dat} {i0 i1:Nat}:sR loc [i0,i1] (some (.d (.tup [a0,a1]),m))=kG m (ap [i0,i1] [.d a0,.d a1] loc):=rfl
theorem FR {a0 a1:Dat} {i0 i1:Nat}:sR loc [i0,i1] (some (.d (.lst [a0,a1]),m))=kG m (ap [i0,i1] [.d a0,.d a1] loc):=rfl
theorem nA {a0 a1:Val} {i0 i1:Nat}:Fb loc [i0,i1] (some ([a0,a1],m))=kG m (ap [i0,i1] [a0,a1] loc):=rfl
theorem mJ {a0 a1:Dat} {i0 i1:Nat}:cU [i0,i1] (.tup [a0,a1]) loc=ap [i0,i1] [.d a0,.d a1] loc:=rfl
theorem tg {a0 a1 a2 a3 a4:Dat} {i0 i1 i2 i3 i4:Nat}:sR loc [i0,i1,i2,i3,i4] (some (.d (.tup [a0,a1,a2,a3,a4]),m))=kG m (ap [i0,i1,i2,i3,i4] [.d a0,.d a1,.d a2,.d a3,.d a4] loc):=rfl
theorem gl {a0:Dat} {l:List Dat}:bj mu (.d (.tup (a0::l))) (.d (.int 0))=some (.d a0):=rfl
theorem gi {a0 a1:Dat} {l:List Dat}:bj mu (.d (.tup (a0::a1::l))) (.d (.int 1))=some (.d a1):=rfl
theorem BT {a0 a1 a2:Dat} {l:List Dat}:bj mu (.d (.tup (a0::a1::a2::l))) (.d (.int 2))=some (.d a2):=rfl
theorem Hw {a0 a1 a2 a3:Dat} {l:List Dat}:bj mu (.d (.tup (a0::a1::a2::a3::l))) (.d (.int 3))=some (.d a3):=rfl
theorem bR {a b:W}:gE (.str a) (.str b)=some (decide (a=b)):=rfl
theorem kN {a b:Int}:gE (.int a) (.int b)=some (decide (a=b)):=rfl
theorem pq:gE (.tup []) (.tup [])=some true:=rfl
theorem qg {w:W} {i:Int}:gE (.tup [.tup [.str w,.int i]]) (.tup [])=some false:=rfl
theorem jB {b r:Mu} {a:MObj}:(b++a::r)[b.length]? = some a:=by simp
theorem Hl {b l:Mu} {k:Nat}:(b++l)[b.length+k]? = l[k]? := by rw [List.getElem?_append_right (Nat.le_add_right _ _),Nat.add_sub_cancel_left]
theorem GX {b r:Mu} {a x:MObj} {p:Nat}:(b.set p x++a::r)[b.length]? = some a:=by simp
theorem HH {b l:Mu} {x:MObj} {p k:Nat}:(b.set p x++l)[b.length+k]? = l[k]? := by rw [List.getElem?_append_right (by rw [List.length_set]; exact Nat.le_add_right _ _),List.length_set,Nat.add_sub_cancel_left]
end
end Mine.Internal
namespace Mine.Internal
inductive Op where
  | const (v:Int) | copy (l:Int) (j:Option Int) | move (l:Int)
inductive Rv where
  | use (o:Op) | bin (w:W) (a b:Op) | tup (a b:Op)
inductive St where
  | print (o:Op) | live (l:Int) | dead (l:Int) | assign (l:Int) (j:Option Int) (r:Rv)
inductive Tm where
  | ret | goto (n:Int) | switch (o:Op) (v a b:Int) | call (w:W) (o:Op) (l:Int) (j:Option Int) (n:Int)
structure Blk where
  sts:List St
  tm:Tm
set_option genCtorIdx false in
set_option genInjectivity false in
structure Bd where
  name:W
  argc:Int
  locs:List Dat
  blks:List Blk
noncomputable def pX:Option Int→Dat
  | none=>.tup []
  | some j=>.tup [.tup [.str .field_,.int j]]
noncomputable def eF (l:Int) (j:Option Int):Dat:=.tup [.int l,pX j]
noncomputable def Op.e:Op→Dat
  | .const v=>.tup [.str .const_,dh,.int v]
  | .copy l j=>.tup [.str .copy_,eF l j]
  | .move l=>.tup [.str .move_,eF l none]
noncomputable def Rv.e:Rv→Dat
  | .use o=>.tup [.str .use_,o.e]
  | .bin w a b=>.tup [.str .binary_,.str w,a.e,b.e]
  | .tup a b=>.tup [.str .tuple_,.tup [a.e,b.e]]
noncomputable def St.e:St→Dat
  | .print o=>.tup [.str .print_,o.e]
  | .live l=>.tup [.str .live_,.int l]
  | .dead l=>.tup [.str .dead_,.int l]
  | .assign l j r=>.tup [.str .assign_,eF l j,r.e]
noncomputable def Tm.e:Tm→Dat
  | .ret=>.tup [.str .return_]
  | .goto n=>.tup [.str .goto_,.int n]
  | .switch o v a b=>.tup [.str .switch_,o.e,.tup [.tup [.int v,.int a]],.int b]
  | .call w o l j n=>.tup [.str .call_,.tup [.str .fn_,.str w,.tup []],.tup [o.e],eF l j,.int n]
section
variable {v l n x y:Int} {j:Option Int} {o a b:Op} {r:Rv} {w:W}
theorem nZ:pX none=.tup []:=rfl
theorem BU:pX (some x)=.tup [.tup [.str .field_,.int x]]:=rfl
theorem Ii:(Op.const v).e=.tup [.str .const_,dh,.int v]:=rfl
theorem H3:(Op.copy l j).e=.tup [.str .copy_,eF l j]:=rfl
theorem JK:(Op.move l).e=.tup [.str .move_,eF l none]:=rfl
theorem zv:(Rv.use o).e=.tup [.str .use_,o.e]:=rfl
theorem JO:(St.print o).e=.tup [.str .print_,o.e]:=rfl
theorem JQ:Tm.ret.e=.tup [.str .return_]:=rfl
end
noncomputable def eS (l:List St):List Dat:=l.map St.e
noncomputable def Blk.e (b:Blk):Dat:=.lst [.lst (eS b.sts),b.tm.e]
noncomputable def eB (l:List Blk):List Dat:=l.map Blk.e
theorem ix {l:List St}:(eS l).length=l.length:=List.length_map ..
theorem d9 {l:List Blk}:(eB l).length=l.length:=List.length_map ..
theorem lc {l r:List St}:eS (l++r)=eS l++eS r:=List.map_append ..
theorem lh {l r:List Blk}:eB (l++r)=eB l++eB r:=List.map_append ..
theorem fY {l:List Blk} {i:Nat}:(eB l)[i]? = l[i]?.map Blk.e:=List.getElem?_map ..
theorem FA {l:List Blk} {i:Nat} {b:Blk}:(eB l).set i b.e=eB (l.set i b):=(List.map_set ..).symm
theorem gV {xs:List Dat}:bN (xs.map Val.d)=some xs:=j2
noncomputable def Bd.e (b:Bd) (n:Nat):Dat:=.obj .body [.name,.argCount,.locals,.blocks,.spots] [.str b.name,.int b.argc,.lst b.locs,.lst (eB b.blks),.spots n]
noncomputable def Op.mv (s:Int):Op→Op
  | .const v=>.const v
  | .copy l j=>.copy (l+s) j
  | .move l=>.move (l+s)
noncomputable def Rv.mv (s:Int):Rv→Rv
  | .use o=>.use (o.mv s)
  | .bin w a b=>.bin w (a.mv s) (b.mv s)
  | .tup a b=>.tup (a.mv s) (b.mv s)
noncomputable def St.mv (s:Int):St→St
  | .print o=>.print (o.mv s)
  | .live l=>.live (l+s)
  | .dead l=>.dead (l+s)
  | .assign l j r=>.assign (l+s) j (r.mv s)
noncomputable def Tm.mv (s k:Int):Tm→Tm
  | .ret=>.ret
  | .goto n=>.goto (n+k)
  | .switch o v a b=>.switch (o.mv s) v (a+k) (b+k)
  | .call w o l j n=>.call w o l j n
noncomputable def WFm (mu:Mu):Prop:=mu.all (MObj.okB mu.length)=true
theorem AJ {base r:Mu}:(base++r).take base.length=base:=by simp
theorem iL {base r:Mu} {v:Val} (h:WFm base) (hv:v.okB 0=true):cE true base.length v (base++r)=some (v,base):=by
  unfold cE
  rw [AJ]
  unfold WFm at h
  simp [h,hv]
theorem bB {base:Mu} {v:Val} (h:WFm base) (hv:v.okB 0=true):cE true base.length v base=some (v,base):=by
  have:=iL (r:=[]) h hv
  simpa using this
section
variable {mu:Mu}
theorem xT {o:Op}:bj mu (.d (Rv.use o).e) (.d (.int 0))=some (.d (.str .use_)):=rfl
theorem pj {w:W} {a b:Op}:bj mu (.d (Rv.bin w a b).e) (.d (.int 0))=some (.d (.str .binary_)):=rfl
theorem sY {w:W} {a b:Op}:bj mu (.d (Rv.bin w a b).e) (.d (.int 1))=some (.d (.str w)):=rfl
theorem zL {a b:Op}:bj mu (.d (Rv.tup a b).e) (.d (.int 0))=some (.d (.str .tuple_)):=rfl
theorem EC {a b:Op}:bj mu (.d (Rv.tup a b).e) (.d (.int 1))=some (.d (.tup [a.e,b.e])):=rfl
theorem D5 {v:Int}:bj mu (.d (Op.const v).e) (.d (.int 0))=some (.d (.str .const_)):=rfl
theorem Gx {v:Int}:bj mu (.d (Op.const v).e) (.d (.int 2))=some (.d (.int v)):=rfl
theorem sX {l:Int} {j:Option Int}:bj mu (.d (Op.copy l j).e) (.d (.int 0))=some (.d (.str .copy_)):=rfl
theorem tL {l:Int} {j:Option Int}:bj mu (.d (Op.copy l j).e) (.d (.int 1))=some (.d (eF l j)):=rfl
theorem FS {l:Int}:bj mu (.d (Op.move l).e) (.d (.int 0))=some (.d (.str .move_)):=rfl
theorem Ft {l:Int}:bj mu (.d (Op.move l).e) (.d (.int 1))=some (.d (eF l none)):=rfl
theorem Cz {l:Int} {j:Option Int}:bj mu (.d (eF l j)) (.d (.int 1))=some (.d (pX j)):=rfl
theorem zq {o:Op}:bj mu (.d (St.print o).e) (.d (.int 0))=some (.d (.str .print_)):=rfl
theorem yY {o:Op}:bj mu (.d (St.print o).e) (.d (.int 1))=some (.d o.e):=rfl
theorem xK {l:Int}:bj mu (.d (St.live l).e) (.d (.int 0))=some (.d (.str .live_)):=rfl
theorem xV {l:Int}:bj mu (.d (St.live l).e) (.d (.int 1))=some (.d (.int l)):=rfl
theorem yr {l:Int}:bj mu (.d (St.dead l).e) (.d (.int 0))=some (.d (.str .dead_)):=rfl
theorem pG {l:Int}:bj mu (.d (St.dead l).e) (.d (.int 1))=some (.d (.int l)):=rfl
theorem lI {l:Int} {j:Option Int} {r:Rv}:bj mu (.d (St.assign l j r).e) (.d (.int 0))=some (.d (.str .assign_)):=rfl
theorem lE {l:Int} {j:Option Int} {r:Rv}:bj mu (.d (St.assign l j r).e) (.d (.int 1))=some (.d (eF l j)):=rfl
theorem lD {l:Int} {j:Option Int} {r:Rv}:bj mu (.d (St.assign l j r).e) (.d (.int 2))=some (.d r.e):=rfl
theorem lH:bj mu (.d Tm.ret.e) (.d (.int 0))=some (.d (.str .return_)):=rfl
theorem lB {n:Int}:bj mu (.d (Tm.goto n).e) (.d (.int 0))=some (.d (.str .goto_)):=rfl
theorem zr {n:Int}:bj mu (.d (Tm.goto n).e) (.d (.int 1))=some (.d (.int n)):=rfl
theorem ke {o:Op} {v a b:Int}:bj mu (.d (Tm.switch o v a b).e) (.d (.int 0))=some (.d (.str .switch_)):=rfl
theorem pe {o:Op} {v a b:Int}:bj mu (.d (Tm.switch o v a b).e) (.d (.int 1))=some (.d o.e):=rfl
theorem un {o:Op} {v a b:Int}:bj mu (.d (Tm.switch o v a b).e) (.d (.int 2))=some (.d (.tup [.tup [.int v,.int a]])):=rfl
theorem uh {o:Op} {v a b:Int}:bj mu (.d (Tm.switch o v a b).e) (.d (.int 3))=some (.d (.int b)):=rfl
theorem tN {w:W} {o:Op} {l:Int} {j:Option Int} {n:Int}:bj mu (.d (Tm.call w o l j n).e) (.d (.int 0))=some (.d (.str .call_)):=rfl
theorem tI {w:W} {o:Op} {l:Int} {j:Option Int} {n:Int}:bj mu (.d (Tm.call w o l j n).e) (.d (.int 1))=some (.d (.tup [.str .fn_,.str w,.tup []])):=rfl
theorem yt {w:W} {o:Op} {l:Int} {j:Option Int} {n:Int}:bj mu (.d (Tm.call w o l j n).e) (.d (.int 2))=some (.d (.tup [o.e])):=rfl
theorem o4 {w:W} {o:Op} {l:Int} {j:Option Int} {n:Int}:bj mu (.d (Tm.call w o l j n).e) (.d (.int 3))=some (.d (eF l j)):=rfl
theorem yI {w:W} {o:Op} {l:Int} {j:Option Int} {n:Int}:bj mu (.d (Tm.call w o l j n).e) (.d (.int 4))=some (.d (.int n)):=rfl
end
end Mine.Internal
namespace Mine.Internal
theorem na (n:Nat) {mu:Mu} (h:WFm mu) (l s:Int) (j:Option Int):an prog (n+1) .movedPlace [.d (eF l j),.d (.int s)] mu=some (.d (eF (l+s) j),mu):=by
  rw [aX (d:=gA) rfl rfl]
  cases j with
  | none =>
    simp [am,ae,ar,bz,ah,af,fb,ai,av,bC,jE,bF,cb,b6,bO,bQ,aQ,ax,az,ga,cf,pF,nL,nw,il,aF,bo,aL,aM,aV,bD,bn,fo,d0,dX,ii,aT,aH,bV,ak,ao,aq,aJ,bG,aU,cA,aj,cW,b5,ju,gl,gi,jB,lim,-getElem?_pos,gA,eF,nZ]
    exact iL h rfl
  | some j =>
    simp [am,ae,ar,bz,ah,af,fb,ai,av,aS,bC,jE,bF,cb,b6,bO,bQ,aP,ay,aA,aw,dQ,eR,aQ,ax,az,ga,cf,pF,nL,nw,d8,de,c8,db,c9,il,aF,bo,aL,aM,aV,be,bD,bn,cI,ce,fH,fo,d0,dX,ii,gQ,fD,fS,cp,bx,aT,aH,bV,ak,ao,aq,aJ,bG,bK,aU,cA,bw,aW,aj,cW,kH,b5,ju,gl,gi,bR,jB,lim,-getElem?_pos,gA,eF,BU]
    exact iL h rfl
theorem gN (n:Nat) {mu:Mu} (h:WFm mu) (o:Op) (s:Int):an prog (n+2) .movedOperand [.d o.e,.d (.int s)] mu=some (.d (o.mv s).e,mu):=by
  rw [aX (d:=eO) rfl rfl]
  have hp:=fun l j=>na n h l s j
  cases o with
  | const v =>
    simp [am,ae,ah,af,ai,av,aS,aP,ay,aA,aw,dQ,gB,aQ,ax,az,bD,bn,aT,bV,ak,ao,aq,aJ,aU,bw,aW,aj,gl,bR,-getElem?_pos,eO,Ii,Op.mv]
    exact bB h rfl
  | copy l j =>
    simp [am,ae,ah,af,ai,av,aS,bC,aP,ay,aA,aw,dQ,eR,aQ,ax,az,aO,aB,aF,bo,aL,aM,bD,bn,aT,bV,ak,ao,aq,aJ,aU,bw,aW,aj,b5,gl,gi,bR,-getElem?_pos,eO,H3,Op.mv,hp]
    exact bB h rfl
  | move l =>
    simp [am,ae,ah,af,ai,av,aS,bC,aP,ay,aA,aw,dQ,eR,aQ,ax,az,aO,aB,aF,bo,aL,aM,bD,bn,aT,bV,ak,ao,aq,aJ,aU,bw,aW,aj,b5,gl,gi,bR,-getElem?_pos,eO,JK,Op.mv,hp]
    exact bB h rfl
theorem oX (n:Nat) {mu:Mu} (h:WFm mu) (a:Op) (s:Int):an prog (n+3) .movedOperands [.d (.lst [a.e]),.d (.int s)] mu=some (.d (.tup [(a.mv s).e]),mu):=by
  rw [aX (d:=ef) rfl rfl]
  have hp:=fun o=>gN n h o s
  simp [am,ae,ah,af,ai,jE,b4,aO,aB,ga,cf,pM,er,dl,dZ,cm,cn,cj,gn,eh,c5,cV,eA,dR,aF,bo,aL,aM,be,bD,bn,cp,aT,bV,ak,ao,aq,aJ,bG,bK,aU,aj,kO,lim,-getElem?_pos,ef,hp]
  exact bB h rfl
theorem oo (n:Nat) {mu:Mu} (h:WFm mu) (a b:Op) (s:Int):an prog (n+3) .movedOperands [.d (.lst [a.e,b.e]),.d (.int s)] mu=some (.d (.tup [(a.mv s).e,(b.mv s).e]),mu):=by
  rw [aX (d:=ef) rfl rfl]
  have hp:=fun o=>gN n h o s
  simp [am,ae,ah,af,ai,jE,b4,aO,aB,ga,cf,pM,er,dl,dZ,cm,cn,cj,gn,eh,c5,cV,eA,dR,aF,bo,aL,aM,be,bD,bn,cp,aT,bV,ak,ao,aq,aJ,bG,bK,aU,aj,kO,lim,-getElem?_pos,ef,hp]
  exact bB h rfl
noncomputable def Rv.ops:Rv→List Op
  | .use o=>[o]
  | .bin _ a b=>[a,b]
  | .tup a b=>[a,b]
theorem HV {o:Op}:(Rv.use o).ops=[o]:=rfl
theorem Jq {w:W} {a b:Op}:(Rv.bin w a b).ops=[a,b]:=rfl
theorem JT {a b:Op}:(Rv.tup a b).ops=[a,b]:=rfl
theorem tD (n:Nat) {mu:Mu} (h:WFm mu) (r:Rv):an prog (n+1) .operandsOf [.d r.e] mu=some (.d (.lst (r.ops.map Op.e)),mu):=by
  rw [aX (d:=iF) rfl rfl]
  cases r <;>
  · simp [am,ae,ah,af,ai,av,aS,bC,bF,b4,aP,ay,aA,aw,aQ,ax,az,jz,uk,aF,bo,aL,aM,aV,bf,ct,bh,bD,bn,bx,aT,aH,bV,ak,ao,aq,aJ,aU,bw,ja,aW,kI,kt,aj,lZ,gJ,b5,eU,gl,gi,BT,Hw,bR,lim,-getElem?_pos,iF,zv,HV]
    exact bB h rfl
theorem zD (n:Nat) {mu:Mu} (h:WFm mu) (o a:Op):an prog (n+1) .withOperands [.d (Rv.use o).e,.d (.tup [a.e])] mu=some (.d (Rv.use a).e,mu):=by
  rw [aX (d:=da) rfl rfl]
  simp [am,ae,ah,af,ai,av,aS,bC,aP,ay,aA,aw,aQ,ax,az,aF,bo,aL,aM,aV,bf,ct,bD,bn,aT,aH,bV,ak,ao,aq,aJ,aU,ja,kI,kt,aj,cW,b5,gl,-getElem?_pos,da,zv]
  exact bB h rfl
theorem xH (n:Nat) {mu:Mu} (h:WFm mu) (w:W) (o p a b:Op):an prog (n+1) .withOperands [.d (Rv.bin w o p).e,.d (.tup [a.e,b.e])] mu=some (.d (Rv.bin w a b).e,mu):=by
  rw [aX (d:=da) rfl rfl]
  simp [am,ae,ah,af,ai,av,aS,bC,aP,ay,aA,aw,aQ,ax,az,aF,bo,aL,aM,aV,bf,ct,bh,bD,bn,bx,aT,aH,bV,ak,ao,aq,aJ,aU,ja,kI,kt,aj,cW,b5,kC,gl,gi,-getElem?_pos,da,zv]
  exact bB h rfl
theorem ya (n:Nat) {mu:Mu} (h:WFm mu) (o p a b:Op):an prog (n+1) .withOperands [.d (Rv.tup o p).e,.d (.tup [a.e,b.e])] mu=some (.d (Rv.tup a b).e,mu):=by
  rw [aX (d:=da) rfl rfl]
  simp [am,ae,ah,af,ai,av,aS,bC,aP,ay,aA,aw,aQ,ax,az,ga,cf,FL,aF,bo,aL,aM,aV,bf,ct,bh,bD,bn,bx,aT,aH,bV,ak,ao,aq,aJ,aU,bw,ja,aW,kI,kt,aj,cW,b5,gl,bR,-getElem?_pos,da,zv]
  exact bB h rfl
theorem rL (n:Nat) {mu:Mu} (h:WFm mu) (r:Rv) (s:Int):an prog (n+4) .movedRvalue [.d r.e,.d (.int s)] mu=some (.d (r.mv s).e,mu):=by
  rw [aX (d:=eZ) rfl rfl]
  have h1:=tD (n+2) h r
  have h2:=fun a=>oX n h a s
  have h3:=fun a b=>oo n h a b s
  have h4:=fun o a=>zD (n+2) h o a
  have h5:=fun w o p a b=>xH (n+2) h w o p a b
  have h6:=fun o p a b=>ya (n+2) h o p a b
  cases r with
  | use o =>
    simp only [HV,List.map_cons,List.map_nil] at h1
    simp [am,ae,ah,af,ai,av,aS,aP,ay,aA,aw,aQ,ax,az,aO,aB,aF,bo,aL,aM,bf,bh,bD,bn,bx,aT,aH,bV,ak,ao,aq,aJ,aU,xT,bw,aW,aj,bR,-getElem?_pos,eZ,h1,h2,h4,Rv.mv]
    exact bB h rfl
  | bin w a b =>
    simp only [Jq,List.map_cons,List.map_nil] at h1
    simp [am,ae,ah,af,ai,av,aS,aP,ay,aA,aw,aQ,ax,az,aO,aB,aF,bo,aL,aM,bf,bh,bD,bn,bx,aT,aH,bV,ak,ao,aq,aJ,aU,pj,bw,aW,aj,bR,-getElem?_pos,eZ,h1,h3,h5,Rv.mv]
    exact bB h rfl
  | tup a b =>
    simp only [JT,List.map_cons,List.map_nil] at h1
    simp [am,ae,ah,af,ai,av,aS,aP,ay,aA,aw,aQ,ax,az,aO,aB,aF,bo,aL,aM,bf,bh,bD,bn,bx,aT,aH,bV,ak,ao,aq,aJ,aU,zL,bw,aW,aj,bR,-getElem?_pos,eZ,h1,h3,h6,Rv.mv]
    exact bB h rfl
theorem oE (n:Nat) {mu:Mu} (h:WFm mu) (t:St) (s:Int):an prog (n+5) .movedStatement [.d t.e,.d (.int s)] mu=some (.d (t.mv s).e,mu):=by
  rw [aX (d:=fW) rfl rfl]
  have h1:=fun l j=>na (n+3) h l s j
  have h2:=fun o=>gN (n+2) h o s
  have h3:=fun r=>rL n h r s
  cases t <;>
  · simp [am,ae,ah,af,ai,av,aS,bC,b6,bO,bQ,aP,ay,aA,aw,aQ,ax,az,aO,aB,aF,bo,aL,aM,aV,bf,ct,bh,bD,bn,bx,aT,aH,bV,ak,ao,aq,aJ,aU,zq,yY,xK,xV,yr,pG,lI,lE,lD,cA,bw,ja,aW,kI,kt,aj,cW,b5,d6,bR,-getElem?_pos,fW,h1,h2,h3,St.mv]
    exact bB h rfl
theorem t4 (n:Nat) {mu:Mu} (h:WFm mu) (t:Tm) (ht:∀ w o l j n,t ≠ .call w o l j n) (k:Int):an prog (n+1) .retargeted [.d t.e,.clo k] mu=some (.d (match t with
    | .goto n=>(Tm.goto (n+k)).e | .switch o v a b=>(Tm.switch o v (a+k) (b+k)).e | t=>t.e),mu):=by
  rw [aX (d:=fI) rfl rfl]
  cases t with
  | call w o l j n=>exact absurd rfl (ht w o l j n)
  | ret =>
    simp [am,ae,ah,af,ai,av,aS,aP,ay,aA,aw,aQ,ax,az,aV,bf,bh,bD,bn,bx,aT,aH,bV,ak,ao,aq,aJ,aU,lH,bw,aW,aj,cW,bR,-getElem?_pos,fI]
    exact bB h rfl
  | goto m =>
    simp [am,ae,t5,ah,af,ai,av,aS,bC,aP,ay,aA,aw,aQ,ax,az,uK,sv,um,aF,bo,aL,aM,aV,bf,ct,bD,bn,aT,aH,bV,ak,ao,aq,aJ,aU,lB,zr,bw,aW,aj,cW,b5,bR,-getElem?_pos,fI]
    exact bB h rfl
  | switch o v a b =>
    simp [am,ae,t5,ah,af,ai,av,aS,bC,jE,b4,aP,ay,aA,aw,kK,zx,dQ,eR,aQ,ax,az,ga,cf,pM,er,dl,dZ,cm,cn,cj,gn,eh,c5,cV,eA,il,uK,sv,um,aF,bo,aL,aM,aV,be,bf,ct,bh,bD,bn,bx,aT,aH,bV,ak,ao,aq,aJ,bG,bK,aU,ke,pe,un,uh,bw,aW,aj,cW,ew,iu,nP,b5,kC,mJ,bR,lim,-getElem?_pos,fI]
    exact bB h rfl
theorem nR (n:Nat) {mu:Mu} (h:WFm mu) (t:Tm) (ht:∀ w o l j n,t ≠ .call w o l j n) (s k:Int):an prog (n+3) .movedTerminator [.d t.e,.d (.int s),.d (.int k)] mu=some (.d (t.mv s k).e,mu):=by
  rw [aX (d:=du) rfl rfl]
  have h1:=t4 (n+1) h t ht k
  have h2:=fun o=>gN n h o s
  cases t with
  | call w o l j n=>exact absurd rfl (ht w o l j n)
  | ret =>
    simp [am,ae,ah,af,ai,av,aS,bC,aP,ay,aA,aw,aQ,ax,az,aO,aB,wC,sx,aF,bo,aL,aM,aV,bf,bh,bD,bn,bx,aT,aH,bV,ak,ao,aq,aJ,aU,lH,bw,ja,aW,kI,kt,aj,ew,b5,bR,-getElem?_pos,du,h1,Tm.mv]
    exact bB h rfl
  | goto m =>
    simp [am,ae,ah,af,ai,av,aS,bC,aP,ay,aA,aw,aQ,ax,az,aO,aB,wC,sx,aF,bo,aL,aM,aV,bf,bh,bD,bn,bx,aT,aH,bV,ak,ao,aq,aJ,aU,lB,bw,ja,aW,kI,kt,aj,ew,b5,bR,-getElem?_pos,du,h1,Tm.mv]
    exact bB h rfl
  | switch o v a b =>
    dsimp only at h1
    simp [am,ae,ah,af,ai,av,aS,bC,b6,bO,aP,ay,aA,aw,aQ,ax,az,o6,mD,aO,aB,ga,wC,sx,aF,bo,aL,aM,aV,bf,ct,bD,aT,aH,ak,ao,aq,aJ,ke,pe,ja,kI,kt,aj,ew,b5,-getElem?_pos,du,h1,h2,Tm.mv]
    exact bB h rfl
end Mine.Internal
namespace Mine.Internal
noncomputable def Tm.isCall:Tm→Bool
  | .call .. => true
  | _=>false
theorem B9:Tm.ret.isCall=false:=rfl
theorem H0 {n:Int}:(Tm.goto n).isCall=false:=rfl
theorem Ie {o:Op} {v a b:Int}:(Tm.switch o v a b).isCall=false:=rfl
theorem Iq {w:W} {o:Op} {l:Int} {j:Option Int} {n:Int}:(Tm.call w o l j n).isCall=true:=rfl
noncomputable def iJ:List Blk→Nat
  | []=>0
  | b::r=>b.sts.length+1+iJ r
theorem uP:iJ []=0:=rfl
theorem vc {b:Blk} {r:List Blk}:iJ (b::r)=b.sts.length+1+iJ r:=rfl
theorem eV {mu:Mu} {b:Bd} {k:Nat}:fO mu (.d (b.e k)) .blocks=some (.d (.lst (eB b.blks))):=rfl
theorem rQ {mu:Mu} {b:Bd} {k:Nat}:fO mu (.d (b.e k)) .locals=some (.d (.lst b.locs)):=rfl
theorem G7 {mu:Mu} {b:Bd} {k:Nat}:fO mu (.d (b.e k)) .name=some (.d (.str b.name)):=rfl
theorem ph {mu:Mu} {b:Bd} {k:Nat}:fO mu (.d (b.e k)) .argCount=some (.d (.int b.argc)):=rfl
theorem Hj {mu:Mu} {b:Bd} {k:Nat}:fO mu (.d (b.e k)) .spots=some (.d (.spots k)):=rfl
theorem q_bind2 {t u:Nat} {b:Blk} {loc:ag}:cU [t,u] b.e loc=ap [t,u] [.d (.lst (eS b.sts)),.d b.tm.e] loc:=rfl
theorem Ic {mu:Mu} (t:Tm):∃ w,bj mu (.d t.e) (.d (.int 0))=some (.d (.str w))∧(w=.call_ ↔ t.isCall=true):=by
  cases t <;> exact ⟨_,rfl,by simp [B9,H0,Ie,Iq]⟩
theorem my {f:ag→Mu→Rx} {ts:List Nat} (I:Nat→ag→Mu→Prop):∀ (xs:List Dat) (k:Nat) {loc:ag} {mu:Mu},I k loc mu →
    (∀ i x l m,xs[i]? = some x→I (k+i) l m→∃ l1 l2 m2,cU ts x l=some l1∧f l1 m=some (.next,l2,m2)∧I (k+i+1) l2 m2)→∃ l m,cY f ts xs loc mu=some (.next,l,m)∧I (k+xs.length) l m
  | [],k,loc,mu,h0,st=>⟨loc,mu,rfl,h0⟩
  | x::xs,k,loc,mu,h0,st=>by
    obtain ⟨l1,l2,m2,e1,e2,h1⟩:=st 0 x loc mu rfl h0
    obtain ⟨l,m,e3,h3⟩:=my I xs (k+1) h1 fun i y l m hy hI=>by
      have:=st (i+1) y l m hy (by rw [show k+(i+1)=k+1+i by exact yP]; exact hI)
      rw [show k+(i+1)=k+1+i by exact yP] at this
      exact this
    refine ⟨l,m,?_,by rw [List.length_cons,show k+(xs.length+1)=k+1+xs.length by exact yP]; exact h3⟩
    rw [gQ,e1,fD,e2,fS,e3]
theorem wT {f:ag→Mu→Ro} {t:Nat} {g:Dat→Dat} {mu:Mu}:∀ (xs:List Dat) (loc:ag),t < loc.length→(∀ x ∈ xs,f (loc.set t (some (.d x))) mu=some (some (.d (g x)),mu))→cD f [t] xs loc mu=some ((xs.map g).map .d,mu)
  | [],loc,ht,h=>rfl
  | x::xs,loc,ht,h=>by
    have h1:=h x (.head _)
    have ih:=wT (f:=f) (t:=t) (g:=g) (mu:=mu) xs (loc.set t (some (.d x))) (by rw [List.length_set]; exact ht) fun y hy=>by rw [List.set_set]; exact h y (.tail _ hy)
    rw [eh,cp,hY,if_pos ht,be,c5,h1,cV,ih,eA]
    rfl
theorem vo:∀ (a b:List Blk),iJ (a++b)=iJ a+iJ b
  | [],b=>by simp [uP]
  | x::a,b=>by rw [List.cons_append,vc,vc,vo a b]; omega
theorem z3 {blks:List Blk} {i:Nat} {b:Blk} (h:blks[i]? = some b):iJ (blks.take (i+1))=iJ (blks.take i)+(b.sts.length+1):=by
  rw [List.take_add_one,h,vo]
  simp [uP,vc]
set_option tactic.hygienic true in
theorem wv (n:Nat) {mu:Mu} (h:WFm mu) (b:Bd) (k:Nat) (most:Int) (hb:∀ k ∈ b.blks,k.tm.isCall=false∧k.sts.length≤1000) (hc:(iJ b.blks:Int)≤most):an prog (n+1) .isSmall [.d (b.e k),.d (.int most)] mu=some (.d (.bool true),mu):=by
  rw [aX (d:=g7) rfl rfl]
  simp [am,ae,ah,af,ai,av,bE,bu,dR,aV,fo,d0,dX,aT,aH,ak,ao,aq,aJ,eV,aj,cW,-getElem?_pos,g7]
  generalize hf:ez _ _=f
  obtain ⟨l,m,e,x,y,rfl,rfl⟩:=my (f:=f) (ts:=[3,4]) (fun i l m=>∃ x y,l=[some (.d (b.e k)),some (.d (.int most)),some (.d (.int (iJ (b.blks.take i)))),x,y]∧m=mu) (eB b.blks) 0 ⟨none,none,rfl,rfl⟩ fun i x l m hx ⟨x1,y1,hl,hm⟩=>by
    subst hl; subst hm
    rw [Nat.zero_add]
    rw [fY] at hx
    refine bM hx fun bk hk e2_=>?_
    subst e2_
    obtain ⟨h1,h2⟩:=hb bk (List.mem_of_getElem? hk)
    refine xe1 (Ic (mu:=m) bk.tm) fun w r_=>aN r_ fun e1 e2=>?_
    have hw:¬ w=.call_:=fun q=>by rw [e2.mp q] at h1; cases h1
    have hl:bk.sts.length≤1048576:=by exact lb h2 rfl
    refine ⟨_,_,_,q_bind2.trans (by simp [be,kH,iu,-getElem?_pos]; rfl),?_,⟨some (.d (.lst (eS bk.sts))),some (.d bk.tm.e),rfl,rfl⟩⟩
    rw [← hf,fH,z3 hk]
    simp [am,ae,ah,af,ai,av,aS,b6,bO,bQ,aP,ay,aA,aw,aQ,ax,az,dH,cf,fX,aF,bo,aL,aM,aV,bf,bh,bx,aT,aH,ix,cA,bw,aW,aj,cW,bR,lim,-getElem?_pos,e1,hw,hl]
    exact Int.natCast_add _ _
  simp [uP] at e
  rw [e]
  simp [am,ae,ah,af,ai,aP,ay,aA,aw,bD,bn,aT,aH,bV,aU,d9,Hx,aj,-getElem?_pos,hc]
  exact bB h rfl
theorem wU (n:Nat) {mu:Mu} (h:WFm mu) (b:Bd) (k:Nat) (most:Int) {b1:Blk} {r:List Blk} (hb:b.blks=b1::r) (h1:b1.tm.isCall=true) (h2:b1.sts.length≤1000):an prog (n+1) .isSmall [.d (b.e k),.d (.int most)] mu=some (.d (.bool false),mu):=by
  rw [aX (d:=g7) rfl rfl]
  refine xe1 (Ic (mu:=mu) b1.tm) fun w r_=>aN r_ fun e1 e2=>?_
  have hl:b1.sts.length≤1048576:=by exact lb h2 rfl
  simp [am,ae,ah,af,ai,av,aS,ij,b6,bO,bQ,aP,ay,aA,aw,bE,bu,aQ,ax,az,dH,cf,fX,dR,aF,bo,aL,aM,aV,be,bf,ct,bD,bn,fH,fo,d0,dX,gQ,fD,BB,aT,aH,bV,ak,ao,aq,aJ,aU,ix,eV,q_bind2,cA,bw,aW,aj,cW,kH,iu,bR,lim,-getElem?_pos,g7,hb,eB,q_bind2,e1,e2.mpr h1,hl]
  exact bB h rfl
theorem uw (n:Nat) {mu:Mu} (h:WFm mu) (t:Tm):an prog (n+1) .calledKey [.d t.e] mu=some (.d (match t with | .call w _ _ _ _=>.str w | _=>.none),mu):=by
  rw [aX (d:=iW) rfl rfl]
  cases t <;>
  · simp [am,ae,ah,af,ai,av,aS,j7,bC,aP,ay,aA,aw,md,sN,jU,pH,mL,aQ,ax,az,aF,bf,ct,bh,bD,bn,bx,aT,aH,bV,ak,ao,aq,aJ,aU,lH,lB,ke,tN,tI,bw,aW,aj,cL,gl,gi,BT,bR,pq,-getElem?_pos,iW]
    exact bB h rfl
theorem AE {mu:Mu} {P:Fn→FDef} {n:Nat} {f:Fn} {vs:List Val} {d:FDef} (hd:P f=d) (h:vs.length≤d.params) (h2:d.params - vs.length≤d.dflts.length) :
    an P (n+1) f vs mu=vU d.cut mu.length (ea (an P n) ((vs++((d.dflts.drop (d.dflts.length - (d.params - vs.length))).map Val.d)).map some++List.replicate (d.names.length - d.params) none) mu d.body):=by
  subst hd
  rw [BR]
  dsimp only
  rw [if_pos ⟨h,h2⟩]
  rfl
theorem uD (n:Nat) {base:List MObj} {nm ac:Dat} {locs:List Dat} {bl:List Val} (hl:locs.length≤1000) :
    an prog (n+1) .initBody [.r (base.length+2),.d nm,.d ac,.d (.lst locs),.r base.length,.r (base.length+1)] (base++[.list bl,.spots 0,.inst .body [] []]) =
      some (.d .none,base++[.list bl,.spots 0,.inst .body [.name,.argCount,.locals,.blocks,.spots] [.d nm,.d ac,.r (base.length+3),.r base.length,.r (base.length+1)],.list (locs.map .d)]):=by
  rw [aX (d:=fj) rfl rfl]
  have hl':locs.length≤1048576:=by exact lb hl rfl
  simp [am,ae,ar,bz,oC,b0,ah,af,ai,cb,kK,E3,dQ,eR,jz,qf,ul,wY,xf,ww,bx,aT,aH,ak,aq,aJ,cZ,aj,jB,Hl,lim,-getElem?_pos,fj,hl',EX,EQ,GI,Ed,Ig,cE]
theorem ur (n:Nat) {base:List MObj} {nm ac:Dat} {locs:List Dat} (hl:locs.length≤1000) :
    an prog (n+1) .initBody [.r base.length,.d nm,.d ac,.d (.lst locs)] (base++[.inst .body [] []]) =
      some (.d .none,base++[.inst .body [.name,.argCount,.locals,.blocks,.spots] [.d nm,.d ac,.r (base.length+1),.r (base.length+2),.r (base.length+3)],.list (locs.map .d),.list [],.spots 0]):=by
  rw [AE (d:=fj) rfl (by simp [fj]) (by simp [fj])]
  have hl':locs.length≤1048576:=by exact lb hl rfl
  simp [am,ae,ar,b0,ah,af,ai,bF,cb,kK,Fj,dQ,gB,jz,qf,zS,aF,ul,wY,xf,ww,bx,aT,aH,ak,aq,aJ,bG,cZ,aj,ju,jB,lim,-getElem?_pos,fj,hl',EX,EQ,GI,Ed,Ig,cE]
theorem n8 {n:Nat} {mu:Mu} {a b:Option Val}:∀ (bs:List Blk) {x y:Option Val},(∀ k ∈ bs,k.sts.length≤1000) →
    cD (qm (an prog n) (.list false (.of [(.toList false (.loc 2)),(.loc 3)]))) [2,3] (eB bs) [a,b,x,y] mu=some ((eB bs).map .d,mu)
  | [],x,y,h=>rfl
  | k::r,x,y,h=>by
    have hk:k.sts.length≤1048576:=by have:=h k (.head _); exact lb this rfl
    have ih:=n8 (n:=n) (mu:=mu) (a:=a) (b:=b) r (x:=some (.d (.lst (eS k.sts)))) (y:=some (.d k.tm.e)) fun z hz=>h z (.tail _ hz)
    rw [show eB (k::r)=k.e::eB r from rfl]
    simp [am,ae,ah,af,ai,bF,b4,jz,qf,er,dl,eh,c5,cV,aF,bo,aL,aM,be,ak,ao,ix,q_bind2,aj,kO,kH,eU,lim,-getElem?_pos,hk] at ih ⊢
    rw [ih]
    simp [eA,-getElem?_pos,Blk.e]
theorem AG (n:Nat) {base:List MObj} {b:Bd} (h:∀ k ∈ b.blks,k.sts.length≤1000) (h2:b.blks.length≤1000) (h3:b.locs.length≤1000) :
    an prog (n+2) .copied [.d (b.e 0)] base=some (.r (base.length+2),base++[.list ((eB b.blks).map .d),.spots 0,.inst .body [.name,.argCount,.locals,.blocks,.spots] [.d (.str b.name),.d (.int b.argc),.r (base.length+3),.r base.length,.r (base.length+1)],.list (b.locs.map .d)]):=by
  rw [aX (d:=lT) rfl rfl]
  have hl':b.blks.length≤1048576:=by exact lb h2 rfl
  have h1:=n8 (n:=n+1) (mu:=base) (a:=some (.d (b.e 0))) (b:=none) b.blks (x:=none) (y:=none) h
  have h4:=uD n (base:=base) (nm:=.str b.name) (ac:=.int b.argc) (locs:=b.locs) (bl:=(eB b.blks).map .d) h3
  simp only [ao,ak] at h1
  simp [am,ae,ar,bz,ah,af,ai,cb,bE,bu,lR,jR,C4,EG,DI,dZ,cm,cn,cj,dR,aF,bo,aL,aM,aV,bD,aT,aH,ak,ao,aq,aJ,d9,gV,eV,rQ,G7,ph,Hj,aj,lZ,jB,lim,-getElem?_pos,lT,hl',cE,h1]
  rw [h4]
  simp [j3,bn,bV,aU,-getElem?_pos,cE]
end Mine.Internal
namespace Mine.Internal
noncomputable def bT (base:List MObj) (nm:W) (ac:Int) (blks:List Dat) (n:Nat) (locs:List Dat) (r:List MObj):List MObj :=
  base++[.inst .caller [.body] [.r (base.length+3)],.list (blks.map .d),.spots n,
    .inst .body [.name,.argCount,.locals,.blocks,.spots] [.d (.str nm),.d (.int ac),.r (base.length+4),.r (base.length+1),.r (base.length+2)],.list (locs.map .d)]++r
section
variable {base r:List MObj} {nm:W} {ac:Int} {blks locs:List Dat} {n:Nat}
theorem kE:(bT base nm ac blks n locs r)[base.length]? = some (.inst .caller [.body] [.r (base.length+3)]):=by simp [bT]
theorem o5:(bT base nm ac blks n locs r)[base.length+1]? = some (.list (blks.map .d)):=by simp [bT]
theorem v6:(bT base nm ac blks n locs r)[base.length+2]? = some (.spots n):=by simp [bT]
theorem ng:(bT base nm ac blks n locs r)[base.length+3]? = some (.inst .body [.name,.argCount,.locals,.blocks,.spots] [.d (.str nm),.d (.int ac),.r (base.length+4),.r (base.length+1),.r (base.length+2)]):=by simp [bT]
theorem Cv:(bT base nm ac blks n locs r)[base.length+4]? = some (.list (locs.map .d)):=by simp [bT]
theorem i9:(bT base nm ac blks n locs r).length=base.length+5+r.length:=by simp [bT]; omega
theorem nD {xs:List Dat}:(bT base nm ac blks n locs r).set (base.length+1) (.list (xs.map .d))=bT base nm ac xs n locs r:=by simp [bT]
theorem DP {k:Nat}:(bT base nm ac blks n locs r).set (base.length+2) (.spots k)=bT base nm ac blks k locs r:=by simp [bT]
theorem CG {xs:List Dat}:(bT base nm ac blks n locs r).set (base.length+4) (.list (xs.map .d))=bT base nm ac blks n xs r:=by simp [bT]
theorem pR {xs:List Val} {f:Option (List Dat)}:cy true (bT base nm ac blks n locs r) xs f=if xs.length≤lim then some (.r (base.length+5+r.length),bT base nm ac blks n locs (r++[.list xs])) else none:=by rw [cb,i9]; simp [bT]
theorem mh {x:MObj}:bT base nm ac blks n locs (r++[x])=bT base nm ac blks n locs r++[x]:=by unfold bT; simp
theorem r9 {x:MObj}:(bT base nm ac blks n locs (r++[x]))[base.length+5+r.length]? = some x:=by
  rw [mh,← i9 (base:=base) (nm:=nm) (ac:=ac) (blks:=blks) (n:=n) (locs:=locs) (r:=r)]
  simp
theorem lS {x y:MObj}:(bT base nm ac blks n locs (r++[x])).set (base.length+5+r.length) y=bT base nm ac blks n locs (r++[y]):=by
  rw [mh,mh,← i9 (base:=base) (nm:=nm) (ac:=ac) (blks:=blks) (n:=n) (locs:=locs) (r:=r)]
  simp
theorem eK {xs:List Dat} {v:Dat}:xs.map Val.d++[Val.d v]=(xs++[v]).map Val.d:=by rw [List.map_append]; rfl
theorem zz {xs ys:List Dat}:xs.map Val.d++ys.map Val.d=(xs++ys).map Val.d:=by rw [List.map_append]
theorem mN {xs:List Dat} {v w:Dat}:xs.map Val.d++[Val.d v,Val.d w]=(xs++[v,w]).map Val.d:=by rw [List.map_append]; rfl
theorem z2 {k k':Nat} (h:k≤k'):∀ {m:MObj},MObj.okB k m=true→MObj.okB k' m=true:=by
  have hv:∀ v:Val,Val.okB k v=true→Val.okB k' v=true:=fun v=>by
    cases v with
    | r i=>intro e; have e:decide (i < k)=true:=e; exact decide_eq_true (Nat.lt_of_lt_of_le (of_decide_eq_true e) h)
    | d x=>exact id
    | clo x=>exact id
  intro m e
  cases m with
  | list xs=>exact List.all_eq_true.mpr fun v hv'=>hv v (List.all_eq_true.mp e v hv')
  | sdict ks xs=>exact List.all_eq_true.mpr fun v hv'=>hv v (List.all_eq_true.mp e v hv')
  | idict ks=>rfl
  | spots b=>rfl
  | inst c fs xs=>exact List.all_eq_true.mpr fun v hv'=>hv v (List.all_eq_true.mp e v hv')
  | frz d=>rfl
theorem WFm.app {base r:List MObj} (h:WFm base) (hr:r.all (MObj.okB (base++r).length)=true):WFm (base++r):=by
  unfold WFm at h ⊢
  rw [List.all_append,Bool.and_eq_true]
  refine ⟨List.all_eq_true.mpr fun m hm=>z2 (by simp) (List.all_eq_true.mp h m hm),hr⟩
theorem mt {k:Nat} {xs:List Dat}:MObj.okB k (.list (xs.map .d))=true:=by
  show (xs.map Val.d).all _=true
  simp [pO]
theorem fQ {m:List MObj} {k:Nat} {v:Val} (hk:m.length=k) (h:WFm m) (hv:v.okB 0=true):cE true k v m=some (v,m):=by
  subst hk; exact bB h hv
theorem lO {m r:List MObj} {k:Nat} {v:Val} (hk:m.length=k) (h:WFm m) (hv:v.okB 0=true):cE true k v (m++r)=some (v,m):=by
  subst hk; exact iL h hv
theorem qe (h:WFm (bT base nm ac blks n locs r)) {blks' locs':List Dat} {n':Nat}:WFm (bT base nm ac blks' n' locs' r):=by
  unfold WFm at h ⊢
  rw [i9] at h ⊢
  unfold bT at h ⊢
  simp only [List.all_append,List.all_cons,List.all_nil,mt,Bool.and_true,Bool.true_and] at h ⊢
  exact h
theorem nr (h:WFm (bT base nm ac blks n locs r)) {blks' locs':List Dat} {n':Nat} {x:MObj} (hx:∀ k,x.okB k=true):WFm (bT base nm ac blks' n' locs' (r++[x])):=by
  have h':=qe (blks':=blks') (locs':=locs') (n':=n') h
  have:=WFm.app (r:=[x]) h' (by simp [hx])
  unfold bT at this ⊢
  rw [List.append_assoc] at this
  exact this
theorem DE (h:WFm base):WFm (bT base nm ac blks n locs []):=by
  unfold bT
  rw [List.append_nil]
  refine h.app ?_
  simp only [List.all_cons,List.all_nil,mt,Bool.and_true,Bool.true_and,List.length_append,List.length_cons,List.length_nil]
  simp [tu,Gq,GO,Gf,Fu,Ea,pO,sm,s7]
theorem nO {m m':Nat} {blks' locs':List Dat} {v:Val} {x:MObj} (h:WFm (bT base nm ac blks n locs r)) (hv:v.okB 0=true):cE true (bT base nm ac blks n locs r).length v (bT base nm ac blks' m' locs' (r++[x]))=some (v,bT base nm ac blks' m' locs' r):=by
  have:bT base nm ac blks' m' locs' (r++[x])=bT base nm ac blks' m' locs' r++[x]:=mh
  rw [this]
  exact lO (by rw [i9,i9]) (qe h) hv
end
theorem lF {nn:Nat} {base r:List MObj} {nm:W} {ac:Int} {blks locs:List Dat} {f:ag→Mu→Rx} {number first last:Int}
    (hf:ez (an prog nn) (.cons (.sett (.attr (.attr (.loc 0) .body) .spots) (.tup (.cons (.loc 1) (.cons (.loc 5) .nil))) (.loc 4)) .nil)=f) :
    ∀ (k:Nat) (xs:List Int) (n:Nat) (x:Option Val),n+xs.length≤100000→xs.length=k →
    ∃ y,cY f [5] (xs.map .int) [some (.r base.length),some (.d (.int number)),some (.d (.int first)),some (.d (.int last)),some (.d .any),x] (bT base nm ac blks n locs r) =
      some (.next,[some (.r base.length),some (.d (.int number)),some (.d (.int first)),some (.d (.int last)),some (.d .any),y],bT base nm ac blks (n+xs.length) locs r)
  | _,[],n,x,h,_=>⟨x,by simp [ii]⟩
  | _,a::l,n,x,h,_=>by
    rw [List.length_cons] at h
    obtain ⟨y,ih⟩:=lF (nm:=nm) (ac:=ac) (blks:=blks) (locs:=locs) (first:=first) (last:=last) (number:=number) (base:=base) (r:=r) hf l.length l (n+1) (some (.d (.int a))) (by exact eH h) rfl
    have hn:n < 1048576:=by exact w2 h rfl
    refine ⟨y,?_⟩
    rw [List.map_cons,gQ,cp]
    simp [hY,be,fD]
    rw [← hf,fH]
    simp [am,ae,ar,oC,b0,ah,af,ai,bC,c3,cK,bE,bu,aF,bo,aL,aM,gw,kp,kj,HN,Jh,fS,bx,aT,aH,kE,v6,ng,DP,bH,aj,b5,lim,-getElem?_pos,hn]
    rw [hf,ih,show n+1+l.length=n+(l.length+1) by exact ad1]
theorem iY (nn:Nat) {base r:List MObj} {nm:W} {ac:Int} {blks locs:List Dat} {n:Nat} {number:Int} {k:Nat} {first last:Int} (hw:WFm (bT base nm ac blks n locs r)) (hk:last - first=k) (h0:0≤first) (h1:last≤100000) (hn:n+k≤100000) :
    an prog (nn+1) .tellSpots [.r base.length,.d (.int number),.d (.int first),.d (.int last),.d .any] (bT base nm ac blks n locs r)=some (.d .none,bT base nm ac blks (n+k) locs r):=by
  rw [aX (d:=i6) rfl rfl]
  have hr:jr first last=true:=by unfold jr lim; simp; omega
  have hl:k≤100000:=by exact Iz hn
  have hit:items (.rng first last 1)=some (((List.range k).map fun (i:Nat)=>first+(i:Int)).map Dat.int):=by
    unfold items; dsimp only
    rw [hr,if_neg (by decide),if_pos rfl,hk,List.map_map]; rfl
  simp [am,ae,ah,af,ai,gb,cf,Fc,iZ,aF,bo,aL,aM,fo,d0,aT,ak,ao,aq,aJ,aj,-getElem?_pos,i6]
  rw [hit]
  simp only [dX]
  generalize hf:ez _ _=f
  obtain ⟨y,e⟩:=lF (r:=r) (nm:=nm) (ac:=ac) (blks:=blks) (locs:=locs) (number:=number) (first:=first) (last:=last) hf k ((List.range k).map fun (i:Nat)=>first+(i:Int)) n none (by simpa using hn) (by simp)
  rw [e]
  simp [bx,aH,cZ,-getElem?_pos]
  exact fQ (by rw [i9,i9]) (qe hw) rfl
noncomputable def cF (s k l nx:Int) (b:Blk):Blk:=match b.tm with
  | .ret=>⟨b.sts.map (St.mv s)++[.assign l none (.use (.move s)),.dead (s+1),.dead s],.goto nx⟩
  | t=>⟨b.sts.map (St.mv s),t.mv s k⟩
theorem Jd:items (.rng 1 (-1) (-1))=some [.int 1,.int 0]:=rfl
theorem F6:items (.rng 0 2 1)=some [.int 0,.int 1]:=rfl
theorem HG:jr 1 (-1)=true:=by decide +kernel
noncomputable def iq (s:Int) (l:List St):List St:=l.map (St.mv s)
theorem fK {s:Int} {l:List St}:(iq s l).length=l.length:=List.length_map ..
theorem uS {n:Nat} {mu:List MObj} (h:WFm mu) (s:Int):∀ (sts:List St) {a0 a1 a2 a3 a4 a5 a6 a8 a9 a10 a11 x a13:Option Val},
    cD (qm (an prog (n+5)) (.call .movedStatement (.cons (.loc 12) (.cons (.loc 7) .nil)))) [12] (eS sts) [a0,a1,a2,a3,a4,a5,a6,some (.d (.int s)),a8,a9,a10,a11,x,a13] mu=some ((eS (iq s sts)).map .d,mu)
  | [],_,_,_,_,_,_,_,_,_,_,_,_,_=>rfl
  | t::r,a0,a1,a2,a3,a4,a5,a6,a8,a9,a10,a11,x,a13=>by
    have ih:=uS (n:=n) h s r (a0:=a0) (a1:=a1) (a2:=a2) (a3:=a3) (a4:=a4) (a5:=a5) (a6:=a6) (a8:=a8) (a9:=a9) (a10:=a10) (a11:=a11) (x:=some (.d t.e)) (a13:=a13)
    have h1:=oE n h t s
    rw [show eS (t::r)=t.e::eS r from rfl,show eS (iq s (t::r))=(t.mv s).e::eS (iq s r) from rfl]
    simp [am,ae,ah,af,ai,aO,aB,er,dl,eh,c5,cV,aF,bo,aL,aM,be,cp,aj,j5,-getElem?_pos,h1]
    rw [ih]
    simp [eA,-getElem?_pos]
theorem xn (n:Nat) {base r:List MObj} {nm:W} {ac:Int} {blks locs:List Dat} {m:Nat} (hw:WFm (bT base nm ac blks m locs r)) (b:Blk) (hb:b.tm.isCall=false) (h1:b.sts.length≤1000) (h2:blks.length < 1000) (h3:m≤90000) {s k l nx:Int} :
    an prog (n+6) .putBlock [.r base.length,.d (.lst (eS b.sts)),.d b.tm.e,.d (.tup [.int s,.int k,eF l none,.int nx,.int 1]),.d .any] (bT base nm ac blks m locs r) =
      some (.d .none,bT base nm ac (blks++[(cF s k l nx b).e]) (m+((cF s k l nx b).sts.length+1)) locs r):=by
  rw [aX (d:=gH) rfl rfl]
  have e1:=fun (sts:List St)=>@uS n _ hw s sts
  have hl:b.sts.length≤1048576:=by exact lb h1 rfl
  have hl':(iq s b.sts).length≤1048576:=by rw [fK]; exact hl
  have ht:∀ w o l j n,b.tm ≠ .call w o l j n:=fun w o l j n q=>by rw [q] at hb; cases hb
  have e2:=nR (n+2) (mu:=bT base nm ac blks m locs (r++[.list ((eS (iq s b.sts)).map .d)])) (nr hw fun k=>mt) b.tm ht s k
  have hl2:(iq s b.sts).length < 1048576:=by rw [fK]; exact tb h1 rfl
  have hl3:(iq s b.sts).length+1+2≤1048576:=by rw [fK]; exact Fa h1 rfl
  have hl4:(iq s b.sts).length+2+1≤1048576:=by rw [fK]; exact Fa h1 rfl
  have hb2:blks.length < 1048576:=by exact lb h2 rfl
  have hb3:blks.length+1≤1048576:=by exact hb2
  have wfr:∀ (d:Dat) (bs:List Dat) (n:Nat),WFm (bT base nm ac bs n locs (r++[.frz d])):=fun d bs n=>nr hw fun Z=>rfl
  cases hbt:b.tm with
  | call w o l j n=>exact absurd hbt (ht w o l j n)
  | ret =>
    rw [hbt] at e2
    have hl6:(iq s b.sts).length+3≤1048576:=by rw [fK]; exact la h1 rfl
    have h5:=fun (d:Dat) (bs:List Dat) (number:Int)=>iY (n+4) (base:=base) (r:=r++[.frz d]) (nm:=nm) (ac:=ac) (blks:=bs) (locs:=locs) (n:=m) (number:=number) (k:=(iq s b.sts).length+3+1) (first:=0) (last:=((iq s b.sts).length:Int)+3+1) (wfr d bs _) (by exact Int.natCast_add _ _) (by exact iz _) (by rw [fK]; exact HW h1 rfl) (by rw [fK]; omega)
    have hM:(cF s k l nx b)=⟨iq s b.sts++[.assign l none (.use (.move s)),.dead (s+1),.dead s],.goto nx⟩:=by unfold cF; rw [hbt]; rfl
    rw [hM]
    simp [am,ae,ar,l7,bz,b0,ah,af,fb,ai,av,aS,bC,bF,b4,b6,bO,bQ,wO,sH,aP,ay,aA,aw,kK,zx,dQ,eR,c3,cK,bE,bu,aQ,ax,az,aO,aB,lg,jH,jO,jM,dH,gb,cf,fX,ki,jY,DZ,d8,de,c8,db,c9,Bz,xz,yA,zQ,zm,er,dl,dZ,cm,cn,cj,gn,eh,c5,cV,eA,dR,iZ,gm,fk,ft,cN,gr,fP,fG,gU,aF,bo,aL,aM,aV,cT,fx,be,bf,ct,cI,ce,cp,bx,aT,aH,ak,ao,aq,aJ,bG,bK,cZ,ix,gV,lH,kE,o5,ng,nD,pR,r9,lS,eK,mN,cA,lG,bH,bw,aW,aj,eX,gO,rR,kA,kw,lj,iC,sE,cL,b5,eU,d6,tg,bR,lim,-getElem?_pos,gH,e1,hl',e2,Tm.mv,HG,Jd,hl2,hl3,hb2,hb3,h5,hl6,-List.map_append]
    simp [-getElem?_pos,Blk.e,lc,eS,JO,eF,nZ,zv,Ii,JQ]
    exact nO (m:=0) hw rfl
  | goto g =>
    rw [hbt] at e2
    have h5:=fun (d:Dat) (bs:List Dat) (number:Int)=>iY (n+4) (base:=base) (r:=r++[.frz d]) (nm:=nm) (ac:=ac) (blks:=bs) (locs:=locs) (n:=m) (number:=number) (k:=(iq s b.sts).length+1) (first:=0) (last:=((iq s b.sts).length:Int)+1) (wfr d bs _) (by exact Int.natCast_add _ _) (by exact iz _) (by rw [fK]; omega) (by rw [fK]; omega)
    have hM:(cF s k l nx b)=⟨iq s b.sts,.goto (g+k)⟩:=by unfold cF; rw [hbt]; rfl
    rw [hM]
    simp [am,ae,ar,l7,bz,b0,ah,af,fb,ai,av,aS,bF,b6,bO,bQ,aP,ay,aA,aw,c3,cK,bE,bu,aQ,ax,az,aO,aB,lg,jH,jO,jM,dH,cf,fX,ki,jY,d8,de,c8,db,c9,dZ,cm,cn,cj,dR,gm,fk,ft,cN,gr,fP,fG,gU,aF,bo,aL,aM,aV,cT,fx,be,bf,bh,cI,ce,bx,aT,aH,ak,ao,aq,aJ,cZ,ix,gV,lB,kE,o5,ng,nD,pR,r9,lS,eK,cA,lG,bH,bw,aW,aj,eX,gO,rR,kA,kw,lj,iC,eU,tg,bR,lim,-getElem?_pos,gH,e1,hl',e2,Tm.mv,hb2,hb3,h5,-List.map_append]
    simp [-getElem?_pos,Blk.e]
    exact nO (m:=0) hw rfl
  | switch o v a c =>
    rw [hbt] at e2
    have h5:=fun (d:Dat) (bs:List Dat) (number:Int)=>iY (n+4) (base:=base) (r:=r++[.frz d]) (nm:=nm) (ac:=ac) (blks:=bs) (locs:=locs) (n:=m) (number:=number) (k:=(iq s b.sts).length+1) (first:=0) (last:=((iq s b.sts).length:Int)+1) (wfr d bs _) (by exact Int.natCast_add _ _) (by exact iz _) (by rw [fK]; omega) (by rw [fK]; omega)
    have hM:(cF s k l nx b)=⟨iq s b.sts,.switch (o.mv s) v (a+k) (c+k)⟩:=by unfold cF; rw [hbt]; rfl
    rw [hM]
    simp [am,ae,ar,l7,bz,b0,ah,af,fb,ai,av,aS,bF,b6,bO,bQ,aP,ay,aA,aw,c3,cK,bE,bu,aQ,ax,az,aO,aB,lg,jH,jO,jM,dH,cf,fX,ki,jY,d8,de,c8,db,c9,dZ,cm,cn,cj,dR,gm,fk,ft,cN,gr,fP,fG,gU,aF,bo,aL,aM,aV,cT,fx,be,bf,bh,cI,ce,bx,aT,aH,ak,ao,aq,aJ,cZ,ix,gV,ke,kE,o5,ng,nD,pR,r9,lS,eK,cA,lG,bH,bw,aW,aj,eX,gO,rR,kA,kw,lj,iC,eU,tg,bR,lim,-getElem?_pos,gH,e1,hl',e2,Tm.mv,hb2,hb3,h5,-List.map_append]
    simp [-getElem?_pos,Blk.e]
    exact nO (m:=0) hw rfl
end Mine.Internal
namespace Mine.Internal
theorem zX {xs:List Dat} {i:Nat} {v:Dat}:(xs.map Val.d).set i (.d v)=(xs.set i v).map Val.d:=(List.map_set ..).symm
noncomputable def rA (s k l nx:Int):List Blk→Nat
  | []=>0
  | b::r=>((cF s k l nx b).sts.length+1)+rA s k l nx r
theorem HY {s k l nx:Int}:rA s k l nx []=0:=rfl
theorem IB {s k l nx:Int} {b:Blk} {r:List Blk}:rA s k l nx (b::r)=((cF s k l nx b).sts.length+1)+rA s k l nx r:=rfl
theorem ru {s k l nx:Int} {b:Blk}:(cF s k l nx b).sts.length≤b.sts.length+3:=by
  unfold cF
  split <;> simp
theorem zK {s k l nx:Int}:∀ {bs:List Blk},(∀ b ∈ bs,b.sts.length≤1000)→rA s k l nx bs≤1004 * bs.length
  | [],_=>by simp [HY]
  | b::r,h=>by
    have:=ru (s:=s) (k:=k) (l:=l) (nx:=nx) (b:=b)
    have h1:=h b (.head _)
    have h2:=zK (s:=s) (k:=k) (l:=l) (nx:=nx) fun x hx=>h x (.tail _ hx)
    rw [IB,List.length_cons]; omega
theorem lL {n:Nat} {base r:List MObj} {nm:W} {ac:Int} {locs:List Dat} {f:ag→Mu→Rx} {s k l nx:Int} {a1 a4 a11 a12 a13:Option Val} {inner:Bd} {q:Nat} (hac:inner.argc=1)
    (hf:ez (an prog (n+6)) (.cons (.expr (.meth (.loc 0) .putBlock (.cons (.loc 5) (.cons (.loc 6) (.cons (.tup (.cons (.loc 9) (.cons (.loc 10) (.cons (.loc 7) (.cons (.loc 8) (.cons (.attr (.loc 2) .argCount) .nil)))))) (.cons (.loc 3) .nil)))))) .nil)=f) :
    ∀ (bs:List Blk) {blks:List Dat} {m:Nat} {x y:Option Val},WFm (bT base nm ac blks m locs r)→(∀ b ∈ bs,b.tm.isCall=false∧b.sts.length≤1000)→blks.length+bs.length≤500→m+1004 * bs.length≤90000 →
    ∃ x' y',cY f [5,6] (eB bs) [some (.r base.length),a1,some (.d (inner.e q)),some (.d .any),a4,x,y,some (.d (eF l none)),some (.d (.int nx)),some (.d (.int s)),some (.d (.int k)),a11,a12,a13] (bT base nm ac blks m locs r) =
      some (.next,[some (.r base.length),a1,some (.d (inner.e q)),some (.d .any),a4,x',y',some (.d (eF l none)),some (.d (.int nx)),some (.d (.int s)),some (.d (.int k)),a11,a12,a13],bT base nm ac (blks++eB (bs.map (cF s k l nx))) (m+rA s k l nx bs) locs r)
  | [],blks,m,x,y,hw,h,hl,hm=>⟨x,y,by simp [ii,eB,HY]⟩
  | b::t,blks,m,x,y,hw,h,hl,hm=>by
    obtain ⟨hb1,hb2⟩:=h b (.head _)
    rw [List.length_cons] at hl hm
    have hs:=ru (s:=s) (k:=k) (l:=l) (nx:=nx) (b:=b)
    obtain ⟨x',y',ih⟩:=lL (a1:=a1) (a4:=a4) (a11:=a11) (a12:=a12) (a13:=a13) (q:=q) hac hf t (blks:=blks++[(cF s k l nx b).e]) (m:=m+((cF s k l nx b).sts.length+1)) (x:=some (.d (.lst (eS b.sts)))) (y:=some (.d b.tm.e)) (qe hw) (fun z hz=>h z (.tail _ hz)) (by simp; exact eH hl) (by omega)
    have h1:=xn n hw b hb1 hb2 (by exact w2 hl rfl) (by exact lq hm rfl) (s:=s) (k:=k) (l:=l) (nx:=nx)
    refine ⟨x',y',?_⟩
    rw [show eB (b::t)=b.e::eB t from rfl,gQ,q_bind2]
    simp [hY,be,fD]
    rw [← hf,fH]
    simp [am,ae,ar,b0,ah,af,ai,bC,bE,bu,lg,jH,jO,jM,aF,bo,aL,aM,cI,ce,fS,bx,aT,aH,ph,kE,aj,lQ,-getElem?_pos,hac,h1]
    rw [hf,ih]
    simp [IB,eB,Nat.add_assoc]
noncomputable def d5 (s:Int) (sts:List St) (o:Op):List St:=sts++[.live s,.live (s+1),.assign (s+1) none (.use o)]
theorem Hs (n:Nat) {base r:List MObj} {nm:W} {ac:Int} {bs:List Blk} {locs:List Dat} {m j:Nat} (hw:WFm (bT base nm ac (eB bs) m locs r)) {sts:List St} {w:W} {o:Op} {l nx:Int} (hj:bs[j]? = some ⟨sts,.call w o l none nx⟩) (hsts:sts.length≤1000)
    {inner:Bd} {q:Nat} (hac:inner.argc=1) (hi:∀ b ∈ inner.blks,b.tm.isCall=false∧b.sts.length≤1000) (hl:bs.length+inner.blks.length≤500) (hm:m+4+1004 * inner.blks.length≤90000) (hL:locs.length+inner.locs.length≤1000) :
    an prog (n+7) .put [.r base.length,.d (.int j),.d (inner.e q)] (bT base nm ac (eB bs) m locs r) =
      some (.d .none,bT base nm ac (eB (bs.set j ⟨d5 locs.length sts o,.goto bs.length⟩++inner.blks.map (cF locs.length bs.length l nx))) (m+4+rA locs.length bs.length l nx inner.blks) (locs++inner.locs) r):=by
  rw [aX (d:=se) rfl rfl]
  have hjl:j < bs.length:=(List.getElem?_eq_some_iff.mp hj).1
  have hj2:j < 1048576:=by exact w7 hl hjl rfl
  have hs1:sts.length≤1048576:=by exact lb hsts rfl
  have hs2:sts.length+2≤1048576:=by exact la hsts rfl
  have hs3:sts.length+2 < 1048576:=by exact Fa hsts rfl
  have hs4:sts.length+3≤1048576:=by exact hs3
  have hb1:bs.length≤1048576:=by exact lq hl rfl
  have hl1:locs.length≤1048576:=by exact lq hL rfl
  have hl2:locs.length+inner.locs.length≤1048576:=by exact lb hL rfl
  have h5:=fun (d:Dat) (bs':List Dat)=>iY (n+5) (base:=base) (r:=r++[.frz d]) (nm:=nm) (ac:=ac) (blks:=bs') (locs:=locs) (n:=m) (number:=(j:Int)) (k:=4) (first:=(sts.length:Int)) (last:=(sts.length:Int)+3+1) (nr hw fun Z=>rfl) (by omega) (by exact iz _) (by exact HW hsts rfl) (by exact lq hm rfl)
  have hsA:sts.length≤1048574:=by exact lb hsts rfl
  have hsB:sts.length < 1048574:=by exact tb hsts rfl
  have hsC:sts.length≤1048573:=by exact lb hsts rfl
  have hidx:dg (j:Int) bs.length=some j:=by rw [bX,if_pos ⟨by exact iz _,by simpa using hjl,by unfold lim; simp; exact hj2⟩]; simp
  clear hjl
  simp [am,ae,ar,l7,bz,oC,b0,ah,af,jN,fb,ai,av,aS,bC,bF,b4,b6,bO,bQ,c3,cK,bE,bu,aQ,ax,az,dE,qb,nq,lg,jH,jO,jM,dH,gb,cf,fX,ki,jY,jl,jz,qf,d8,de,c8,db,c9,Bz,xz,yA,zQ,zm,FZ,AS,vJ,wF,vz,Hm,Ha,er,dl,dZ,cm,cn,cj,gn,eh,c5,cV,eA,dR,iZ,G8,gm,fk,ft,cN,gr,fP,fG,gU,aF,bo,aL,aM,aV,cT,fx,nv,be,gw,kp,kj,oR,pD,cI,ce,fH,fo,d0,dX,s5,qN,qk,ii,gQ,fD,fS,cp,bx,aT,aH,ak,ao,aq,aJ,bG,bK,ix,d9,gV,yt,o4,yI,eV,rQ,ph,kE,o5,v6,ng,Cv,nD,CG,pR,r9,lS,eK,zz,mN,zX,cA,lA,nK,nM,bH,aj,ew,im,nP,kJ,rR,kA,kw,lj,iC,j5,sE,cL,b5,eU,d6,FR,nA,mJ,lim,-getElem?_pos,se,hj,hidx,fY,Blk.e,hsA,hsB,hsC,hs1,hs2,hs3,hs4,hb1,hl1,hl2,hac,F6,BH,xS,h5,-List.map_append,-bX,-List.map_set]
  generalize hf:ez _ _=f
  obtain ⟨x',y',e⟩:=lL (s:=locs.length) (k:=bs.length) (l:=l) (nx:=nx) (a1:=some (.d (.int (j:Int)))) (a4:=some (.r (base.length+5+r.length))) (a11:=some (.d (.int 0))) (a12:=some (.d o.e)) (a13:=none) (q:=q) hac hf inner.blks (blks:=(eB bs).set j (Blk.e ⟨d5 locs.length sts o,.goto bs.length⟩)) (m:=m+4) (locs:=locs++inner.locs)
    (r:=r++[.frz (.lst (eS (d5 locs.length sts o)))]) (x:=some (.d (.lst (eS sts)))) (y:=some (.d (Tm.call w o l none nx).e)) (nr hw fun Z=>rfl) hi (by rw [List.length_set,d9]; exact hl) hm
  have hB:Blk.e ⟨d5 locs.length sts o,.goto bs.length⟩=.lst [.lst (eS sts++[.tup [.str .live_,.int locs.length],.tup [.str .live_,.int (locs.length+1)],.tup [.str .assign_,.tup [.int (locs.length+1),.tup []],.tup [.str .use_,o.e]]]),.tup [.str .goto_,.int bs.length]]:=by
    unfold Blk.e d5; rw [lc]; rfl
  have hE:eS (d5 locs.length sts o)=eS sts++[.tup [.str .live_,.int locs.length],.tup [.str .live_,.int (locs.length+1)],.tup [.str .assign_,.tup [.int (locs.length+1),.tup []],.tup [.str .use_,o.e]]]:=by
    unfold d5; rw [lc]; rfl
  rw [lh,← FA]
  rw [hB,hE] at e
  rw [hB,e]
  simp [aH,bx,cZ]
  exact nO (m:=0) hw rfl
theorem tJ (n:Nat) {base:List MObj} {b:Bd} (h:∀ k ∈ b.blks,k.sts.length≤1000) (h2:b.blks.length≤1000) (h3:b.locs.length≤1000) :
    an prog (n+3) .initCaller [.r base.length,.d (b.e 0)] (base++[.inst .caller [] []])=some (.d .none,bT base b.name b.argc (eB b.blks) 0 b.locs []):=by
  rw [aX (d:=ir) rfl rfl]
  have h1:=AG n (base:=base++[.inst .caller [] []]) h h2 h3
  simp [am,ae,ar,b0,ah,af,ai,aO,aB,aF,bo,aL,aM,ul,wY,xf,ww,bx,aT,aH,ak,ao,aq,aJ,cZ,aj,jB,lim,-getElem?_pos,ir,h1,cE,EX,GI,bT]
end Mine.Internal
namespace Mine.Internal
structure Cs where
  bs:List Blk
  locs:List Dat
noncomputable def cJ (P:W→Option Bd) (c:Cs) (j:Nat) (b:Blk):Cs:=match b.tm with
  | .call w o l none nx=>(match P w with
    | some inner=>⟨c.bs.set j ⟨d5 c.locs.length b.sts o,.goto c.bs.length⟩++inner.blks.map (cF c.locs.length c.bs.length l nx),c.locs++inner.locs⟩
    | none=>c)
  | _=>c
noncomputable def kB (P:W→Option Bd):List Blk→Nat→Cs→Cs
  | [],_,c=>c
  | b::r,j,c=>kB P r (j+1) (cJ P c j b)
theorem ID {P:W→Option Bd} {j:Nat} {c:Cs}:kB P [] j c=c:=rfl
theorem H1 {P:W→Option Bd} {b:Blk} {r:List Blk} {j:Nat} {c:Cs}:kB P (b::r) j c=kB P r (j+1) (cJ P c j b):=rfl
noncomputable def Bd.inl (b:Bd) (P:W→Option Bd):Bd :=
  let c:=kB P b.blks 0 ⟨b.blks,b.locs⟩
  ⟨b.name,b.argc,c.locs,c.bs⟩
structure Small (b:Bd):Prop where
  argc:b.argc=1
  blks:∀ k ∈ b.blks,k.tm.isCall=false∧k.sts.length≤1000
  n1:b.blks.length≤20
  n2:b.locs.length≤20
structure PAt (ws:List W) (ds:List Dat) (most:Int) (P:W→Option Bd) (w:W):Prop where
  has:ws.contains w=true
  at_:∃ (b:Bd) (q:Nat),dC w ws ds=some (b.e q)∧((P w=some b∧Small b∧(iJ b.blks:Int)≤most)∨(P w=none∧∃ b1 r,b.blks=b1::r∧b1.tm.isCall=true∧b1.sts.length≤1000))
theorem Ae (n:Nat) {base:List MObj} {nm:W} {ac:Int} {B:Bd} {ws:List W} {ds:List Dat} {most:Int} {P:W→Option Bd} {c:Cs} {m j:Nat} {b:Blk} {key:Option Val} {f:ag→Mu→Rx} (hw:∀ bs m locs,WFm (bT base nm ac bs m locs []))
    (hf:ez (an prog (n+7)) (.of [(.asg 5 (.call .calledKey (.of [(.sub (.sub (.attr (.loc 0) .blocks) (.loc 4)) (.int 1))]))),(.ifs (.and (.of [(.notN (.loc 5)),(.cmp .in_ (.loc 5) (.loc 1)),(.call .isSmall (.of [(.sub (.loc 1) (.loc 5)),(.loc 2)])),(.cmp .eq (.sub (.sub (.sub (.sub (.attr (.loc 0) .blocks) (.loc 4)) (.int 1)) (.int 3)) (.int 1)) (.tup (.of [])))])) (.of [(.expr (.meth (.loc 3) .put (.of [(.loc 4),(.sub (.loc 1) (.loc 5))])))]) .nil)])=f)
    (hb:B.blks[j]? = some b) (hc:c.bs[j]? = some b) (hP:∀ w o l s nx,b.tm=.call w o l s nx→PAt ws ds most P w) (hs:b.sts.length≤1000) (h1:c.bs.length≤400) (h2:m≤60300) (h3:c.locs.length≤900) :
    ∃ key' m',m'≤m+20084∧f [some (.d (B.e 0)),some (.d (.dct ws ds)),some (.d (.int most)),some (.r base.length),some (.d (.int j)),key] (bT base nm ac (eB c.bs) m c.locs []) =
      some (.next,[some (.d (B.e 0)),some (.d (.dct ws ds)),some (.d (.int most)),some (.r base.length),some (.d (.int j)),key'],bT base nm ac (eB (cJ P c j b).bs) m' (cJ P c j b).locs []):=by
  have hjl:j < c.bs.length:=(List.getElem?_eq_some_iff.mp hc).1
  have hjB:j < B.blks.length:=(List.getElem?_eq_some_iff.mp hb).1
  have hidx:dg (j:Int) B.blks.length=some j:=by rw [bX,if_pos ⟨by exact iz _,by simpa using hjB,by unfold lim; simp; exact vu h1 hjl rfl⟩]; simp
  have hW:=hw (eB c.bs) m c.locs
  have k1:=uw (n+6) hW b.tm
  have hB1:∀ mu,bj mu (.d b.e) (.d (.int 1))=some (.d b.tm.e):=fun Z=>rfl
  clear hjB
  rw [← hf,fH]
  cases hbt:b.tm with
  | ret =>
    rw [hbt] at k1
    refine ⟨some (.d .none),m,by exact Nat.le_add_right _ _,?_⟩
    simp [am,ae,ah,af,ai,av,nk,sF,md,jU,mL,bE,bu,aQ,ax,az,dE,dF,aO,aB,aF,bo,aL,aM,aV,bf,bh,bx,aT,aH,ak,ao,aq,aJ,d9,eV,aj,eX,-getElem?_pos,hb,hidx,fY,hB1,hbt,k1,cJ,-bX]
  | goto g =>
    rw [hbt] at k1
    refine ⟨some (.d .none),m,by exact Nat.le_add_right _ _,?_⟩
    simp [am,ae,ah,af,ai,av,nk,sF,md,jU,mL,bE,bu,aQ,ax,az,dE,dF,aO,aB,aF,bo,aL,aM,aV,bf,bh,bx,aT,aH,ak,ao,aq,aJ,d9,eV,aj,eX,-getElem?_pos,hb,hidx,fY,hB1,hbt,k1,cJ,-bX]
  | switch o v a e =>
    rw [hbt] at k1
    refine ⟨some (.d .none),m,by exact Nat.le_add_right _ _,?_⟩
    simp [am,ae,ah,af,ai,av,nk,sF,md,jU,mL,bE,bu,aQ,ax,az,dE,dF,aO,aB,aF,bo,aL,aM,aV,bf,bh,bx,aT,aH,ak,ao,aq,aJ,d9,eV,aj,eX,-getElem?_pos,hb,hidx,fY,hB1,hbt,k1,cJ,-bX]
  | call w o l s nx =>
    rw [hbt] at k1
    obtain ⟨h4,b2,q,h5,h6⟩:=hP w o l s nx hbt
    have hbb:b=⟨b.sts,.call w o l s nx⟩:=by rw [← hbt]
    have h4':w ∈ ws:=by simpa using h4
    rcases h6 with ⟨h7,h8,h9⟩ | ⟨h7,b1,r,h8,h9,h10⟩
    · have k2:=wv (n+6) hW b2 q most h8.blks h9
      cases s with
      | some s =>
        refine ⟨some (.d (.str w)),m,by exact Nat.le_add_right _ _,?_⟩
        simp [am,ae,ah,af,ai,av,bC,aP,ay,aA,aw,nk,tS,md,sN,jU,pH,bE,bu,aQ,ax,az,dE,dF,jk,aO,aB,aF,bo,aL,aM,aV,bf,bh,bx,aT,aH,ak,ao,aq,aJ,d9,Cz,o4,eV,bw,s6,aW,aj,eX,cL,qg,-getElem?_pos,hb,hidx,fY,hB1,hbt,k1,k2,h4',h5,cJ,BU,-bX]
      | none =>
        have n1:=h8.n1
        have n2:=h8.n2
        have k3:=Hs n hW (hbb ▸ hc) hs h8.argc h8.blks (q:=q) (by exact lm h1 n1 rfl) (by omega) (by exact lm h3 n2 rfl)
        refine ⟨some (.d (.str w)),m+4+rA c.locs.length c.bs.length l nx b2.blks,?_,?_⟩
        · have:=zK (s:=c.locs.length) (k:=c.bs.length) (l:=l) (nx:=nx) fun z hz=>(h8.blks z hz).2
          omega
        · simp [am,ae,ar,b0,ah,af,ai,av,bC,aP,ay,aA,aw,nk,tS,md,sN,jU,pH,bE,bu,aQ,ax,az,dE,dF,jk,aO,aB,lg,jH,jO,jM,aF,bo,aL,aM,aV,bf,ct,cI,ce,bx,aT,aH,ak,ao,aq,aJ,d9,Cz,o4,eV,kE,bw,s6,aW,aj,eX,cL,pq,-getElem?_pos,hb,hidx,fY,hB1,hbt,k1,k2,h4',h5,k3,cJ,h7,nZ,-bX]
    · have k2:=wU (n+6) hW b2 q most h8 h9 h10
      refine ⟨some (.d (.str w)),m,by exact Nat.le_add_right _ _,?_⟩
      have hst:cJ P c j b=c:=by
        unfold cJ; rw [hbt]
        cases s with
        | none=>dsimp only; rw [h7]
        | some s=>rfl
      rw [hst]
      simp [am,ae,ah,af,ai,av,aP,ay,aA,aw,nk,tS,md,jU,pH,mL,bE,bu,aQ,ax,az,dE,dF,jk,aO,aB,aF,bo,aL,aM,aV,bf,bh,bx,aT,aH,ak,ao,aq,aJ,d9,eV,s6,aj,eX,-getElem?_pos,hb,hidx,fY,hB1,hbt,k1,k2,h4',h5,nZ,-bX]
set_option tactic.hygienic true in
theorem tF (n:Nat) {base:List MObj} {nm:W} {ac:Int} {B:Bd} {ws:List W} {ds:List Dat} {most:Int} {P:W→Option Bd} {f:ag→Mu→Rx} (hw:∀ bs m locs,WFm (bT base nm ac bs m locs []))
    (hf:ez (an prog (n+7)) (.of [(.asg 5 (.call .calledKey (.of [(.sub (.sub (.attr (.loc 0) .blocks) (.loc 4)) (.int 1))]))),(.ifs (.and (.of [(.notN (.loc 5)),(.cmp .in_ (.loc 5) (.loc 1)),(.call .isSmall (.of [(.sub (.loc 1) (.loc 5)),(.loc 2)])),(.cmp .eq (.sub (.sub (.sub (.sub (.attr (.loc 0) .blocks) (.loc 4)) (.int 1)) (.int 3)) (.int 1)) (.tup (.of [])))])) (.of [(.expr (.meth (.loc 3) .put (.of [(.loc 4),(.sub (.loc 1) (.loc 5))])))]) .nil)])=f)
    (hP:∀ b ∈ B.blks,b.sts.length≤1000∧∀ w o l s nx,b.tm=.call w o l s nx→PAt ws ds most P w) :
    ∀ (rest:List Blk) (c:Cs) (m j:Nat) (x key:Option Val),(∀ i b,rest[i]? = some b→B.blks[j+i]? = some b∧c.bs[j+i]? = some b)→j+rest.length≤4→c.bs.length≤4+20 * j→c.locs.length≤20+20 * j→m≤20084 * j →
    ∃ x' key' m',cY f [4] ((List.range rest.length).map fun (i:Nat)=>Dat.int ((j+i:Nat):Int)) [some (.d (B.e 0)),some (.d (.dct ws ds)),some (.d (.int most)),some (.r base.length),x,key] (bT base nm ac (eB c.bs) m c.locs []) =
      some (.next,[some (.d (B.e 0)),some (.d (.dct ws ds)),some (.d (.int most)),some (.r base.length),x',key'],bT base nm ac (eB (kB P rest j c).bs) m' (kB P rest j c).locs [])
  | [],c,m,j,x,key,hr,hj,h1,h2,h3=>⟨x,key,m,by simp [ii,ID]⟩
  | b::rest,c,m,j,x,key,hr,hj,h1,h2,h3=>by
    obtain ⟨g1,g2⟩:=hr 0 b rfl
    rw [Nat.add_zero] at g1 g2
    rw [List.length_cons] at hj
    obtain ⟨p1,p2⟩:=hP b (List.mem_of_getElem? g1)
    refine xe2 (Ae n (B:=B) (c:=c) (m:=m) (j:=j) (b:=b) (key:=key) hw hf g1 g2 p2 p1 (by exact jb hj h1 rfl) (by exact Jo hj h3 rfl) (by exact jb hj h2 rfl)) fun key' m' r_=>aN r_ fun hm' e=>?_
    have hjl:j < c.bs.length:=(List.getElem?_eq_some_iff.mp g2).1
    have hst:(cJ P c j b).bs.length≤4+20 * (j+1)∧(cJ P c j b).locs.length≤20+20 * (j+1)∧∀ i,j+1≤i→i < c.bs.length→(cJ P c j b).bs[i]? = c.bs[i]? := by
      unfold cJ
      split
      · rename_i w o l nx hbt
        split
        · rename_i inner hin
          obtain ⟨_,b2,q,_,h6⟩:=p2 w o l none nx hbt
          rcases h6 with ⟨h7,h8,_⟩ | ⟨h7,_⟩
          · rw [hin] at h7; (replace h7:=iS h7; subst h7)
            have n1:=h8.n1
            have n2:=h8.n2
            refine ⟨by simp; exact jc h1 n1,by simp; exact jc h2 n2,fun i hi hi2=>?_⟩
            dsimp only
            rw [List.getElem?_append_left (by rw [List.length_set]; exact hi2),List.getElem?_set_ne (by exact Nat.ne_of_lt hi)]
          · rw [hin] at h7; exact nS h7.symm
        · exact ⟨by exact jd h1,by exact jd h2,fun Z Z Z=>rfl⟩
      · exact ⟨by exact jd h1,by exact jd h2,fun Z Z Z=>rfl⟩
    obtain ⟨s1,s2,s3⟩:=hst
    obtain ⟨x',key'',m'',ih⟩:=tF n hw hf hP rest (cJ P c j b) m' (j+1) (some (.d (.int (j:Int)))) key' (fun i b' hb'=>by
      obtain ⟨g3,g4⟩:=hr (i+1) b' (by simpa using hb')
      rw [show j+(i+1)=j+1+i by exact yP] at g3 g4
      exact ⟨g3,(s3 _ (by exact Nat.le_add_right _ _) (List.getElem?_eq_some_iff.mp g4).1).trans g4⟩) (by exact eH hj) s1 s2 (by omega)
    refine ⟨x',key'',m'',?_⟩
    rw [List.length_cons,List.range_succ_eq_map,List.map_cons,List.map_map,gQ,cp]
    simp only [hY,be,List.length_cons,List.length_nil,Nat.reduceAdd,Nat.reduceLT,if_true,fD,List.set_cons_succ,List.set_cons_zero,Nat.add_zero]
    rw [e,fS]
    have:((fun (i:Nat)=>Dat.int ((j+i:Nat):Int)) ∘ Nat.succ)=fun (i:Nat)=>Dat.int ((j+1+i:Nat):Int):=by
      funext i; simp; omega
    rw [this,ih]
    rfl
theorem kF (n:Nat) {base:List MObj} {B:Bd} {ws:List W} {ds:List Dat} {most:Int} {P:W→Option Bd} (hw:WFm base)
    (hP:∀ b ∈ B.blks,b.sts.length≤1000∧∀ w o l s nx,b.tm=.call w o l s nx→PAt ws ds most P w) (h1:B.blks.length≤4) (h2:B.locs.length≤20) :
    ∃ q,an prog (n+8) .inlined [.d (B.e 0),.d (.dct ws ds),.d (.int most)] base=some (.d ((B.inl P).e q),base):=by
  rw [aX (d:=kQ) rfl rfl]
  have k1:=tJ (n+4) (base:=base) (b:=B) (fun k hk=>(hP k hk).1) (by exact lb h1 rfl) (by exact lb h2 rfl)
  have hl:B.blks.length≤1048576:=by exact lb h1 rfl
  have hok:jr 0 (B.blks.length:Int)=true:=by unfold jr lim; simp; exact hl
  have hit:items (.rng 0 (B.blks.length:Int) 1)=some ((List.range B.blks.length).map fun (i:Nat)=>Dat.int ((0+i:Nat):Int)):=by
    unfold items; dsimp only
    rw [hok,if_neg (by decide),if_pos rfl]
    simp
  simp [am,ae,ah,af,ai,bE,bu,lR,jR,j3,CX,dH,gb,cf,fX,jl,iZ,aF,bo,aL,aM,aV,fo,d0,aT,aH,ak,ao,aq,aJ,d9,eV,aj,ew,lim,-getElem?_pos,kQ,k1,hl]
  rw [hit]
  simp only [dX]
  generalize hf:ez _ _=f
  refine xe3 (tF n (base:=base) (nm:=B.name) (ac:=B.argc) (B:=B) (ws:=ws) (ds:=ds) (most:=most) (P:=P) (fun Z Z Z=>DE hw) hf hP B.blks ⟨B.blks,B.locs⟩ 0 0 none none (fun i b hb=>by rw [Nat.zero_add]; exact ⟨hb,hb⟩) (by exact nz h1) (by exact h1) (by exact h2) (by exact Nat.le_add_left _ _)) fun x' key' m' e=>?_
  rw [e]
  refine ⟨m',?_⟩
  simp [am,ar,b0,ah,af,ai,c3,cK,bE,bu,gm,fk,ft,lz,cN,td,gr,th,fP,fG,qO,qj,rW,xg,r0,sg,gU,bD,bn,aT,aH,bV,aU,kE,o5,v6,ng,Cv,bH,aj,-getElem?_pos]
  simp [bT,-List.map_append]
  exact iL hw rfl
end Mine.Internal
namespace Mine.Internal
inductive V where
  | i (x:Int) | p (a b:Int)
  deriving DecidableEq
noncomputable def V.e:V→Dat
  | .i x=>.int x
  | .p a b=>.tup [.int a,.int b]
theorem s0 {x:Int}:(V.i x).e=.int x:=rfl
theorem GB {a b:Int}:(V.p a b).e=.tup [.int a,.int b]:=rfl
structure Sto where
  ws:List (Int × V)
  al:List Int
noncomputable def Sto.get (σ:Sto) (l:Int):Option V:=if l ∈ σ.al then σ.ws.lookup l else none
noncomputable def V.at_ (v:V) (j:Int):Option V:=match v with
  | .p a b=>if j=0 then some (.i a) else if j=1 then some (.i b) else none
  | _=>none
noncomputable def Sto.val (σ:Sto):Op→Option V
  | .const v=>some (.i v)
  | .copy l none=>σ.get l
  | .copy l (some j)=>(σ.get l).bind fun v=>v.at_ j
  | .move l=>σ.get l
noncomputable def V.put (v:V) (j x:Int):Option V:=match v with
  | .p a b=>if j=0 then some (.p x b) else if j=1 then some (.p a x) else none
  | _=>none
noncomputable def Sto.set (σ:Sto) (l:Int) (j:Option Int) (v:V):Option Sto:=if l ∈ σ.al then (match j with
    | none=>some ⟨ci l v σ.ws,σ.al⟩
    | some j=>(match v,σ.ws.lookup l with
      | .i x,some w=>(w.put j x).map fun u=>⟨ci l u σ.ws,σ.al⟩
      | _,_=>none)) else none
noncomputable def D6 (w:W) (x y:Int):Option Int:=match w with
  | .plus_=>some (x+y)
  | .xor_=>some (PySem.Builtin.bitXor x y)
  | .lt_=>some (if x < y then 1 else 0)
  | _=>none
noncomputable def Sto.rv (σ:Sto):Rv→Option V
  | .use o=>σ.val o
  | .bin w a b=>(match σ.val a,σ.val b with
    | some (.i x),some (.i y)=>(D6 w x y).map fun z=>.i (z.fmod 256)
    | _,_=>none)
  | .tup a b=>(match σ.val a,σ.val b with
    | some (.i x),some (.i y)=>some (.p x y)
    | _,_=>none)
noncomputable def Sto.step (σ:Sto):St→Option (Sto × List V)
  | .print o=>(σ.val o).map fun v=>(σ,[v])
  | .live l=>if l ∈ σ.al then none else some (⟨σ.ws,σ.al++[l]⟩,[])
  | .dead l=>if l ∈ σ.al then some (⟨cM l σ.ws,σ.al.filter fun x=>x != l⟩,[]) else none
  | .assign l j r=>(σ.rv r).bind fun v=>(σ.set l j v).map fun τ=>(τ,[])
noncomputable def Sto.steps (σ:Sto):List St→Option (Sto × List V)
  | []=>some (σ,[])
  | t::r=>(σ.step t).bind fun (τ,ps)=>(τ.steps r).map fun (υ,qs)=>(υ,ps++qs)
theorem Il {σ:Sto} {t:St} {r:List St}:σ.steps (t::r)=(σ.step t).bind fun (τ,ps)=>(τ.steps r).map fun (υ,qs)=>(υ,ps++qs):=rfl
noncomputable def eW (ws:List (Int × V)):List (Int × Dat):=ws.map fun kv=>(kv.1,kv.2.e)
theorem qL {l:Int}:∀ {ws:List (Int × V)},(eW ws).lookup l=(ws.lookup l).map V.e
  | []=>rfl
  | (k,v)::r=>by
    have ih:=qL (l:=l) (ws:=r)
    unfold eW at ih ⊢
    rw [List.map_cons,List.lookup_cons,List.lookup_cons]
    cases l == k <;> simp [ih]
theorem t8 {l:Int} {v:V} {ws:List (Int × V)}:ci l v.e (eW ws)=eW (ci l v ws):=by
  unfold ci eW
  rw [List.any_map]
  have:((fun kv:Int × Dat=>decide (kv.1=l)) ∘ fun kv:Int × V=>(kv.1,kv.2.e))=fun kv=>decide (kv.1=l):=rfl
  rw [this]
  split
  · rw [List.map_map,List.map_map]
    congr 1
    funext kv
    by_cases h:kv.1=l <;> simp [h]
  · simp
theorem EB {l:Int} {ws:List (Int × V)}:cM l (eW ws)=eW (cM l ws):=by
  unfold cM eW
  rw [List.filter_map]
  rfl
theorem yq {ws:List (Int × V)}:(eW ws).length=ws.length:=List.length_map ..
noncomputable def eI (l:List Int):List Dat:=l.map .int
theorem d4:∀ {l:List Int},gg (eI l)=some l
  | []=>rfl
  | x::r=>by
    have:=d4 (l:=r)
    unfold eI at this ⊢
    rw [List.map_cons,JH,this]; rfl
noncomputable def fr (base:List MObj) (p:Nat) (pr:List Dat) (ws:List (Int × V)) (al:List Int):List MObj :=
  base.set p (.list (pr.map .d))++[.idict (eW ws),.sdict [.worths_,.alive_,.bad_] [.r base.length,.d (.lst (eI al)),.d (.bool false)]]
section
variable {base:List MObj} {p:Nat} {pr:List Dat} {ws:List (Int × V)} {al:List Int}
theorem jx:(fr base p pr ws al)[base.length]? = some (.idict (eW ws)):=by simp [fr]
theorem dD:(fr base p pr ws al)[base.length+1]? = some (.sdict [.worths_,.alive_,.bad_] [.r base.length,.d (.lst (eI al)),.d (.bool false)]):=by simp [fr]
theorem qW (hp:p < base.length):(fr base p pr ws al)[p]? = some (.list (pr.map .d)):=by
  unfold fr; rw [List.getElem?_append_left (by simpa using hp),List.getElem?_set_self hp]
theorem pP {ws':List (Int × V)}:(fr base p pr ws al).set base.length (.idict (eW ws'))=fr base p pr ws' al:=by simp [fr]
theorem sI {al':List Int}:(fr base p pr ws al).set (base.length+1) (.sdict [.worths_,.alive_,.bad_] [.r base.length,.d (.lst (eI al')),.d (.bool false)])=fr base p pr ws al':=by simp [fr]
theorem rV (hp:p < base.length) {pr':List Dat}:(fr base p pr ws al).set p (.list (pr'.map .d))=fr base p pr' ws al:=by
  unfold fr; rw [List.set_append_left _ _ (by simpa using hp),List.set_set]
theorem cq:(fr base p pr ws al).length=base.length+2:=by simp [fr]
theorem Cw (h:∀ pr:List Dat,WFm (base.set p (.list (pr.map .d)))):WFm (fr base p pr ws al):=by
  unfold fr
  refine (h pr).app ?_
  simp only [List.all_cons,List.all_nil,Bool.and_true]
  simp [tu,Gq,GO,Gf,Fu,Ea,pO,sm,s7]
end
theorem vg {v:V} {m:Mu}:qr (some (.d v.e,m))=some (.d (.bool false),m):=by cases v <;> rfl
theorem gP (n:Nat) {base:List MObj} {p:Nat} {pr:List Dat} {σ:Sto} (hW:WFm (fr base p pr σ.ws σ.al)) {o:Op} {v:V} (h:σ.val o=some v) :
    an prog (n+1) .value [.r (base.length+1),.d o.e] (fr base p pr σ.ws σ.al)=some (.d v.e,fr base p pr σ.ws σ.al):=by
  rw [aX (d:=hH) rfl rfl]
  have getv:∀ {l:Int} {w:V},σ.get l=some w→l ∈ σ.al∧(eW σ.ws).lookup l=some w.e:=fun {l w} e=>by
    unfold Sto.get at e
    split at e
    · rename_i hl; exact ⟨hl,by rw [qL,e]; rfl⟩
    · exact nS e
  cases o with
  | const c =>
    (replace h:=iS h; subst h)
    simp [am,ae,ah,af,ai,av,aS,aP,ay,aA,aw,aQ,ax,az,bf,ct,bD,bn,aT,bV,ak,ao,aq,aJ,aU,D5,Gx,bw,aW,aj,bR,-getElem?_pos,hH]
    exact bB hW rfl
  | move l =>
    obtain ⟨h1,h2⟩:=getv h
    simp [am,ae,ar,cg,fV,ah,af,ai,av,aS,bC,aP,ay,aA,aw,kK,km,i8,ip,iX,dQ,eR,aQ,ax,az,fZ,ff,rX,pE,pT,ka,po,pZ,aF,aV,cT,fx,be,bf,bh,bD,bn,bx,aT,aH,bV,ak,ao,aq,aJ,aU,FS,Ft,d4,jx,dD,bH,bw,iA,jh,aW,aj,cW,kH,iu,cL,hV,bR,pq,-getElem?_pos,hH,eF,nZ,h1,h2,vg]
    exact bB hW rfl
  | copy l j =>
    cases j with
    | none =>
      obtain ⟨h1,h2⟩:=getv h
      simp [am,ae,ar,cg,fV,ah,af,ai,av,aS,bC,aP,ay,aA,aw,kK,km,i8,ip,iX,dQ,eR,aQ,ax,az,fZ,ff,rX,pE,pT,ka,po,pZ,aF,aV,cT,fx,be,bf,bh,bD,bn,bx,aT,aH,bV,ak,ao,aq,aJ,aU,sX,tL,d4,jx,dD,bH,bw,iA,jh,aW,aj,cW,kH,iu,cL,hV,bR,pq,-getElem?_pos,hH,eF,nZ,h1,h2,vg]
      exact bB hW rfl
    | some j =>
      refine xe1 (Option.bind_eq_some_iff.mp (show (σ.get l).bind (fun v=>v.at_ j)=some v from h)) fun w r_=>aN r_ fun e1 e2=>?_
      obtain ⟨h1,h2⟩:=getv e1
      cases w with
      | i x=>exact nS e2
      | p a b =>
        unfold V.at_ at e2
        dsimp only at e2
        split at e2
        · rename_i hj
          subst hj; (replace e2:=iS e2; subst e2)
          simp [am,ae,ar,cg,fV,ah,af,ai,av,aS,bC,aP,ay,aA,aw,kK,yH,km,i8,ip,iX,dQ,gB,aQ,ax,az,fZ,ff,rX,pE,pT,ka,po,pZ,aF,aV,cT,fx,be,bf,bh,bD,bn,bx,aT,aH,bV,ak,ao,aq,aJ,aU,sX,tL,d4,jx,dD,bH,bw,iA,jh,aW,aj,cW,kH,iu,cL,hV,gl,gi,bR,qg,-getElem?_pos,hH,eF,nZ,h1,h2,s0]
          exact bB hW rfl
        · split at e2
          · rename_i hj
            subst hj; (replace e2:=iS e2; subst e2)
            simp [am,ae,ar,cg,fV,ah,af,ai,av,aS,bC,aP,ay,aA,aw,kK,yH,km,i8,ip,iX,dQ,gB,aQ,ax,az,fZ,ff,rX,pE,pT,ka,po,pZ,aF,aV,cT,fx,be,bf,bh,bD,bn,bx,aT,aH,bV,ak,ao,aq,aJ,aU,sX,tL,d4,jx,dD,bH,bw,iA,jh,aW,aj,cW,kH,iu,cL,hV,gl,gi,bR,qg,-getElem?_pos,hH,eF,nZ,h1,h2,s0]
            exact bB hW rfl
          · exact nS e2
set_option tactic.hygienic true in
theorem Bl (n:Nat) {base:List MObj} {p:Nat} {pr:List Dat} {σ τ:Sto} (hW:∀ ws,WFm (fr base p pr ws σ.al)) {l:Int} {j:Option Int} {v:V} (h:σ.set l j v=some τ) (hl:σ.ws.length≤1000) :
    an prog (n+1) .set [.r (base.length+1),.d (eF l j),.d v.e] (fr base p pr σ.ws σ.al)=some (.d .none,fr base p pr τ.ws τ.al):=by
  rw [aX (d:=nI) rfl rfl]
  have hl':(eW σ.ws).length < 1048576:=by rw [yq]; exact tb hl rfl
  unfold Sto.set at h
  split at h
  · rename_i h1
    cases j with
    | none =>
      (replace h:=iS h; subst h)
      simp [am,ae,ar,cg,fV,ah,af,ai,aS,j7,bC,aP,ay,aA,aw,aQ,ax,az,fZ,ff,aF,cT,fx,be,gw,kp,kj,oR,rU,bf,ct,bh,bD,bn,bx,aT,aH,bV,ak,ao,aq,aJ,aU,d4,jx,dD,pP,bH,bw,jh,aW,aj,iu,nP,cL,hV,pq,lim,-getElem?_pos,nI,eF,nZ,h1,hl',t8]
      exact fQ (by rw [cq,cq]) (hW _) rfl
    | some j =>
      dsimp only at h
      split at h
      · rename_i x w e1
        refine bM h fun u e2 e3=>?_
        subst e3
        have e1':(eW σ.ws).lookup l=some w.e:=by rw [qL,e1]; rfl
        cases w with
        | i y=>exact nS e2
        | p a b =>
          unfold V.put at e2
          dsimp only at e2
          have hp1:ci l (Dat.tup [.int x,.int b]) (eW σ.ws)=eW (ci l (V.p x b) σ.ws):=t8 (v:=.p x b)
          have hp2:ci l (Dat.tup [.int a,.int x]) (eW σ.ws)=eW (ci l (V.p a x) σ.ws):=t8 (v:=.p a x)
          have hset0:∀ (y:MObj),(fr base p pr σ.ws σ.al++[y]).set base.length (.idict (eW (ci l (V.p x b) σ.ws)))=fr base p pr (ci l (V.p x b) σ.ws) σ.al++[y]:=fun y=>by rw [List.set_append_left _ _ (by rw [cq]; exact lp rfl),pP]
          have hset1:∀ (y:MObj),(fr base p pr σ.ws σ.al++[y]).set base.length (.idict (eW (ci l (V.p a x) σ.ws)))=fr base p pr (ci l (V.p a x) σ.ws) σ.al++[y]:=fun y=>by rw [List.set_append_left _ _ (by rw [cq]; exact lp rfl),pP]
          have g0:∀ (y:MObj),(fr base p pr σ.ws σ.al++[y])[base.length]? = some (.idict (eW σ.ws)):=fun y=>by rw [List.getElem?_append_left (by rw [cq]; exact lp rfl),jx]
          have g1:∀ (y:MObj),(fr base p pr σ.ws σ.al++[y])[base.length+1]? = some (.sdict [.worths_,.alive_,.bad_] [.r base.length,.d (.lst (eI σ.al)),.d (.bool false)]):=fun y=>by rw [List.getElem?_append_left (by rw [cq]; exact JS rfl),dD]
          split at e2
          · rename_i hj
            subst hj; (replace e2:=iS e2; subst e2)
            simp [am,ae,ar,bz,cg,fV,ah,af,fb,ai,av,aS,bC,jE,cb,aP,ay,aA,aw,aQ,ax,az,fZ,ff,bX,ga,cf,pF,nL,nw,jz,uk,ka,AS,vJ,wF,vz,BQ,BG,aF,bo,aL,aM,aV,cT,fx,be,gw,kp,kj,oR,pD,rU,bf,bh,bx,aT,aH,ak,ao,aq,aJ,bG,bK,cZ,d4,jx,dD,bH,bw,jh,aW,aj,ew,iu,nP,cL,b5,hV,gl,gi,qg,jB,lim,-getElem?_pos,nI,eF,BU,h1,hl',e1',s0,GB,g0,g1,hp1,hset0]
            exact lO (by rw [cq,cq]) (hW _) rfl
          · split at e2
            · rename_i hj
              subst hj; (replace e2:=iS e2; subst e2)
              simp [am,ae,ar,bz,cg,fV,ah,af,fb,ai,av,aS,bC,jE,cb,aP,ay,aA,aw,aQ,ax,az,fZ,ff,bX,ga,cf,pF,nL,nw,jz,uk,ka,AS,vJ,wF,vz,BQ,BG,aF,bo,aL,aM,aV,cT,fx,be,gw,kp,kj,oR,pD,rU,bf,bh,bx,aT,aH,ak,ao,aq,aJ,bG,bK,cZ,d4,jx,dD,bH,bw,jh,aW,aj,ew,iu,nP,cL,b5,hV,gl,gi,qg,jB,lim,-getElem?_pos,nI,eF,BU,h1,hl',e1',s0,GB,g0,g1,hp2,hset1]
              exact lO (by rw [cq,cq]) (hW _) rfl
            · exact nS e2
      · exact nS h
  · exact nS h
end Mine.Internal
namespace Mine.Internal
theorem vQ:gg []=some []:=rfl
theorem xb {x:Int} {r:List Dat}:gg (.int x::r)=(gg r).map (x::·):=rfl
theorem EW {o:Op} {m:Mu}:rY (.d (Rv.use o).e) (some (.d (.int 1),m))=some (.d (.tup [o.e]),m):=rfl
theorem sV {w:W} {a b:Op} {m:Mu}:rY (.d (Rv.bin w a b).e) (some (.d (.int 2),m))=some (.d (.tup [a.e,b.e]),m):=rfl
theorem Dj {al:List Int} {l:Int}:eI al++[.int l]=eI (al++[l]):=by unfold eI; rw [List.map_append]; rfl
theorem yn {al:List Int}:(eI al).length=al.length:=List.length_map ..
theorem pb {C:Calls} {mu:Mu} {l:Int} {a0 a2 a3 a4 a5:Option Val}:∀ (al:List Int) {x:Option Val},
    cD (mj C (.loc 6) (.cmp .ne (.loc 6) (.sub (.loc 1) (.int 1)))) [6] (eI al) [a0,some (.d (St.dead l).e),a2,a3,a4,a5,x] mu=some ((eI (al.filter fun x=>x != l)).map .d,mu)
  | [],x=>rfl
  | k::r,x=>by
    have ih:=pb (C:=C) (mu:=mu) (l:=l) (a0:=a0) (a2:=a2) (a3:=a3) (a4:=a4) (a5:=a5) r (x:=some (.d (.int k)))
    rw [show eI (k::r)=.int k::eI r from rfl]
    by_cases h:k=l
    · subst h
      simp [am,ae,ah,af,ai,av,aP,ay,aA,aw,aQ,ax,az,ee,jj,eh,c5,cV,be,cp,pG,iA,aW,aj,kJ,kN,-getElem?_pos]
      rw [ih]
      simp [wP,-getElem?_pos]
    · simp [am,ae,ah,af,ai,av,aP,ay,aA,aw,aQ,ax,az,dl,ee,kb,eh,c5,cV,be,cp,pG,iA,aW,aj,kJ,kN,-getElem?_pos,h]
      rw [ih]
      simp [eA,-getElem?_pos,h,eI]
set_option tactic.hygienic true in
theorem IU (n:Nat) {base:List MObj} {p:Nat} {pr:List Dat} {σ τ:Sto} {ps:List V} (hp:p < base.length) (hW:∀ pr ws al,WFm (fr base p pr ws al)) {t:St} (h:σ.step t=some (τ,ps)) (hl:σ.ws.length≤1000) (ha:σ.al.length≤1000) (hpr:pr.length≤1000) :
    an prog (n+2) .do_ [.r (base.length+1),.d t.e,.r p] (fr base p pr σ.ws σ.al)=some (.d .none,fr base p (pr++ps.map V.e) τ.ws τ.al):=by
  rw [aX (d:=iH) rfl rfl]
  have gp:∀ pr ws al,(fr base p pr ws al)[p]? = some (.list (pr.map .d)):=fun Z Z Z=>qW hp
  have sp:∀ pr ws al (pr':List Dat),(fr base p pr ws al).set p (.list (pr'.map .d))=fr base p pr' ws al:=fun Z Z Z Z=>rV hp
  have hpr':pr.length < 1048576:=by exact tb hpr rfl
  have ha':σ.al.length < 1048576:=by exact tb ha rfl
  have hl':σ.ws.length≤1048576:=by exact lb hl rfl
  cases t with
  | print o =>
    refine xe1 (Option.map_eq_some_iff.mp (show (σ.val o).map _=_ from h)) fun v r_=>aN r_ fun e1 e2=>?_
    (refine eJ e2 fun h1_ h2_=>?_; subst h1_; subst h2_)
    have k1:=gP n (hW pr σ.ws σ.al) e1
    simp [am,ae,ar,bz,cg,ah,af,ai,av,aS,aP,ay,aA,aw,aQ,ax,az,aO,aB,d8,de,c8,db,c9,aF,bo,aL,aM,bf,ct,cI,ce,bx,aT,aH,ak,ao,aq,aJ,cZ,zq,yY,eK,dD,bw,aW,aj,bR,lim,-getElem?_pos,iH,gp,k1,hpr',sp,-List.map_append]
    exact fQ (by rw [cq,cq]) (hW _ _ _) rfl
  | live l =>
    have h:(if l ∈ σ.al then none else some ((⟨σ.ws,σ.al++[l]⟩ : Sto),([]:List V)))=some (τ,ps):=h
    split at h
    · exact nS h
    · rename_i h1
      (refine dx h fun h1_ h2_=>?_; subst h1_; subst h2_)
      have ha2:σ.al.length+1≤1048576:=by exact ha'
      simp [am,ae,ar,cg,ah,af,jN,ai,av,aS,bF,b4,b6,bO,bQ,aP,ay,aA,aw,km,i8,ip,iX,aQ,ax,az,fZ,ff,aF,bo,aL,aM,gw,kp,kj,w6,Ar,bf,ct,bh,bx,aT,aH,ak,ao,aq,aJ,cZ,gV,xK,xV,eK,d4,dD,sI,lA,nK,nM,bH,bw,GE,aW,aj,gJ,bR,lim,-getElem?_pos,iH,h1,lV,yn,ha2,ha',Dj,-List.map_append]
      exact fQ (by rw [cq,cq]) (hW _ _ _) rfl
  | dead l =>
    have h:(if l ∈ σ.al then some ((⟨cM l σ.ws,σ.al.filter fun x=>x != l⟩ : Sto),([]:List V)) else none)=some (τ,ps):=h
    split at h
    · rename_i h1
      (refine dx h fun h1_ h2_=>?_; subst h1_; subst h2_)
      have hf:(σ.al.filter fun x=>x != l).length≤1048576:=by have:=List.length_filter_le (fun x=>x != l) σ.al; exact vu ha this rfl
      have k1:=@pb (an prog (n+1)) (fr base p pr σ.ws σ.al) l (some (.r (base.length+1))) (some (.r p)) none none none σ.al none
      simp [am,ae,ar,cg,fV,ah,af,ai,av,aS,b4,aP,ay,aA,aw,km,i8,ip,iX,aQ,ax,az,fZ,ff,ka,IM,GY,G9,HC,HB,gX,cm,cn,cj,dR,gw,kp,kj,w6,Ar,bf,ct,bh,cI,ce,bx,aT,aH,ak,ao,aq,aJ,cZ,gV,yr,pG,d4,jx,dD,pP,sI,bH,bw,jh,aW,aj,bR,lim,-getElem?_pos,iH,h1,lV,yn,k1,hf,hl',EB,yq,-List.map_append]
      exact fQ (by rw [cq,cq]) (hW _ _ _) rfl
    · exact nS h
  | assign l j r =>
    refine xe1 (Option.bind_eq_some_iff.mp (show (σ.rv r).bind _=_ from h)) fun v r_=>aN r_ fun e1 e2=>?_
    refine bM e2 fun τ' e3 e4=>?_
    (refine eJ e4 fun h1_ h2_=>?_; subst h1_; subst h2_)
    have k2:=Bl n (pr:=pr) (fun ws=>hW pr ws σ.al) e3 hl
    cases r with
    | use o =>
      have k1:=gP n (hW pr σ.ws σ.al) (show σ.val o=some v from e1)
      simp [am,ae,ar,cg,ah,af,ai,av,aS,b4,aP,ay,aA,aw,dQ,eR,aQ,ax,az,dE,dF,bX,o6,mD,aO,aB,er,dl,dZ,cm,cn,cj,gn,eh,c5,cV,eA,il,aF,bo,aL,aM,aV,be,bf,bh,cI,ce,cp,bx,aT,aH,ak,ao,aq,aJ,bG,bK,cZ,xT,lI,lE,lD,dD,EW,bw,aW,aj,ew,im,eX,kJ,bR,lim,-getElem?_pos,iH,k1,k2,-List.map_append]
      exact fQ (by rw [cq,cq]) (hW _ _ _) rfl
    | bin w a b =>
      unfold Sto.rv at e1
      dsimp only at e1
      split at e1
      · rename_i x y ex ey
        refine bM e1 fun z e5 e6=>?_
        subst e6
        have k1:=gP n (hW pr σ.ws σ.al) ex
        have k3:=gP n (hW pr σ.ws σ.al) ey
        simp only [s0] at k1 k3 k2
        unfold D6 at e5
        split at e5
        · (replace e5:=iS e5; subst e5)
          simp [am,ae,ar,cg,ah,af,ai,av,aS,bF,b4,b6,bO,bQ,aP,ay,aA,aw,dQ,gB,eR,aQ,ax,az,dE,dF,jk,bX,o6,mD,aO,aB,lx,lw,cf,mP,o7,er,dl,dZ,cm,cn,cj,gn,eh,c5,cV,eA,il,j4,jA,jD,aF,bo,aL,aM,aV,be,bf,ct,bh,cI,ce,cp,bx,aT,aH,ak,ao,aq,aJ,bG,bK,cZ,pj,sY,lI,lE,lD,dD,vQ,xb,sV,je,tj,bH,wN,bw,aW,aj,ew,im,eX,kJ,gJ,bR,lim,-getElem?_pos,iH,k1,k3,k2,-List.map_append]
          exact fQ (by rw [cq,cq]) (hW _ _ _) rfl
        · (replace e5:=iS e5; subst e5)
          simp [am,ae,ar,cg,ah,af,ai,av,aS,bF,b4,b6,bO,bQ,aP,ay,aA,aw,dQ,gB,eR,aQ,ax,az,dE,dF,jk,bX,o6,mD,aO,aB,lx,lw,cf,mP,o7,er,dl,dZ,cm,cn,cj,gn,eh,c5,cV,eA,il,j4,jA,jD,aF,bo,aL,aM,aV,be,bf,ct,bh,cI,ce,cp,bx,aT,aH,ak,ao,aq,aJ,bG,bK,cZ,pj,sY,lI,lE,lD,dD,vQ,xb,sV,je,tj,bH,wN,bw,aW,aj,ew,im,eX,kJ,gJ,bR,lim,-getElem?_pos,iH,k1,k3,k2,-List.map_append]
          exact fQ (by rw [cq,cq]) (hW _ _ _) rfl
        · (replace e5:=iS e5; subst e5)
          simp [am,ae,ar,cg,ah,af,ai,av,aS,bF,b4,b6,bO,bQ,aP,ay,aA,aw,dQ,gB,eR,aQ,ax,az,dE,dF,jk,bX,o6,mD,aO,aB,lx,lw,cf,mP,o7,er,dl,dZ,cm,cn,cj,gn,eh,c5,cV,eA,il,j4,jA,jD,aF,bo,aL,aM,aV,be,bf,ct,bh,cI,ce,cp,bx,aT,aH,ak,ao,aq,aJ,bG,bK,cZ,pj,sY,lI,lE,lD,dD,vQ,xb,sV,je,tj,bH,wN,bw,aW,aj,ew,im,eX,kJ,gJ,bR,lim,-getElem?_pos,iH,k1,k3,k2,-List.map_append]
          exact fQ (by rw [cq,cq]) (hW _ _ _) rfl
        · exact nS e5
      · exact nS e1
    | tup a b =>
      unfold Sto.rv at e1
      dsimp only at e1
      split at e1
      · rename_i x y ex ey
        (replace e1:=iS e1; subst e1)
        have k1:=gP n (hW pr σ.ws σ.al) ex
        have k3:=gP n (hW pr σ.ws σ.al) ey
        simp only [s0,GB] at k1 k3 k2
        simp [am,ae,ar,cg,ah,af,ai,av,aS,jE,b4,aP,ay,aA,aw,dQ,gB,aQ,ax,az,aO,aB,ga,cf,pM,er,dl,dZ,cm,cn,cj,gn,eh,c5,cV,eA,il,aF,bo,aL,aM,aV,be,bf,bh,cI,ce,cp,bx,aT,aH,ak,ao,aq,aJ,bG,bK,cZ,zL,EC,lI,lE,lD,dD,bw,aW,aj,ew,im,eX,kJ,bR,lim,-getElem?_pos,iH,k1,k3,k2,-List.map_append]
        exact fQ (by rw [cq,cq]) (hW _ _ _) rfl
      · exact nS e1
end Mine.Internal
namespace Mine.Internal
theorem tC {k:Int} {v:V} {l:List (Int × V)}:(ci k v l).length≤l.length+1:=by
  unfold ci; split <;> simp
theorem DC {σ τ:Sto} {l:Int} {j:Option Int} {v:V} (h:σ.set l j v=some τ):τ.ws.length≤σ.ws.length+1∧τ.al.length≤σ.al.length+1:=by
  unfold Sto.set at h
  split at h
  · split at h
    · (replace h:=iS h; subst h); exact ⟨tC,Nat.le_succ _⟩
    · split at h
      · refine bM h fun u Z e=>?_
        subst e; exact ⟨tC,Nat.le_succ _⟩
      · exact nS h
  · exact nS h
theorem tf {σ τ:Sto} {t:St} {ps:List V} (h:σ.step t=some (τ,ps)):τ.ws.length≤σ.ws.length+1∧τ.al.length≤σ.al.length+1:=by
  cases t with
  | print o =>
    refine xe1 (Option.map_eq_some_iff.mp (show (σ.val o).map _=_ from h)) fun v r_=>aN r_ fun Z e=>?_
    (refine eJ e fun h1_ h2_=>?_; subst h1_; subst h2_); exact ⟨Nat.le_succ _,Nat.le_succ _⟩
  | live l =>
    have h:(if l ∈ σ.al then none else some ((⟨σ.ws,σ.al++[l]⟩ : Sto),([]:List V)))=some (τ,ps):=h
    split at h
    · exact nS h
    · (refine dx h fun h1_ h2_=>?_; subst h1_; subst h2_); exact ⟨Nat.le_succ _,by simp⟩
  | dead l =>
    have h:(if l ∈ σ.al then some ((⟨cM l σ.ws,σ.al.filter fun x=>x != l⟩ : Sto),([]:List V)) else none)=some (τ,ps):=h
    split at h
    · (refine dx h fun h1_ h2_=>?_; subst h1_; subst h2_)
      have h1:=List.length_filter_le (fun x=>x != l) σ.al
      have h2:=List.length_filter_le (fun kv=>decide (kv.1 ≠ l)) σ.ws
      exact ⟨by unfold cM; dsimp only; exact ls h2,by dsimp only; exact ls h1⟩
    · exact nS h
  | assign l j r =>
    refine xe1 (Option.bind_eq_some_iff.mp (show (σ.rv r).bind _=_ from h)) fun v r_=>aN r_ fun e1 e2=>?_
    refine bM e2 fun τ' e3 e4=>?_
    (refine eJ e4 fun h1_ h2_=>?_; subst h1_; subst h2_)
    exact DC e3
theorem iE {n:Nat} {base:List MObj} {p:Nat} {f:ag→Mu→Rx} (hp:p < base.length) (hW:∀ pr ws al,WFm (fr base p pr ws al))
    (hf:ez (an prog (n+2)) (.cons (.expr (.call .do_ (.cons (.loc 5) (.cons (.loc 10) (.cons (.loc 3) .nil))))) .nil)=f)
    {a0 a1 a2 a4 a6 a7 a8 a9 a11 a12 a13 a14 a15 a16 a17 a18:Option Val}:∀ (sts:List St) {σ τ:Sto} {ps:List V} {pr:List Dat} {x:Option Val},σ.steps sts=some (τ,ps)→σ.ws.length+sts.length≤1000→σ.al.length+sts.length≤1000→pr.length+ps.length≤1000 →
    ∃ x',cY f [10] (eS sts) [a0,a1,a2,some (.r p),a4,some (.r (base.length+1)),a6,a7,a8,a9,x,a11,a12,a13,a14,a15,a16,a17,a18] (fr base p pr σ.ws σ.al) =
      some (.next,[a0,a1,a2,some (.r p),a4,some (.r (base.length+1)),a6,a7,a8,a9,x',a11,a12,a13,a14,a15,a16,a17,a18],fr base p (pr++ps.map V.e) τ.ws τ.al)
  | [],σ,τ,ps,pr,x,h,_,_,_=>by
    (refine dx h fun h1_ h2_=>?_; subst h1_; subst h2_)
    exact ⟨x,by simp [ii,eS]⟩
  | t::r,σ,τ,ps,pr,x,h,h1,h2,h3=>by
    refine xe1 (Option.bind_eq_some_iff.mp (show (σ.step t).bind _=_ from h)) fun q0_ r_=>aN r_ fun e1 e2=>?_
    obtain ⟨υ,p1⟩:=q0_
    refine bM e2 fun q0_ e3 e4=>?_
    obtain ⟨υ',p2⟩:=q0_
    (refine eJ e4 fun h1_ h2_=>?_; subst h1_; subst h2_)
    rw [List.length_cons] at h1 h2
    rw [List.length_append] at h3
    refine aN (tf e1) fun g1 g2=>?_
    have k1:=IU n hp hW (pr:=pr) e1 (by exact lq h1 rfl) (by exact lq h2 rfl) (by exact lq h3 rfl)
    have gp:∀ pr ws al,(fr base p pr ws al)[p]? = some (.list (pr.map .d)):=fun Z Z Z=>qW hp
    obtain ⟨x',ih⟩:=iE hp hW hf r (x:=some (.d t.e)) (pr:=pr++p1.map V.e) e3 (by exact w1 h1 g1) (by exact w1 h2 g2) (by simp; exact bv h3)
    refine ⟨x',?_⟩
    rw [show eS (t::r)=t.e::eS r from rfl,gQ,cp]
    simp [hY,be,fD]
    rw [← hf,fH]
    simp [am,ae,ar,bz,cg,ah,af,ai,aO,aB,aF,bo,aL,aM,cI,ce,fS,bx,aT,aH,dD,aj,-getElem?_pos,gp,k1]
    rw [hf,ih]
    simp
noncomputable def fC (blks:List Blk) (k:Int):Option Blk:=if 0≤k then blks[k.toNat]? else none
inductive Run (P:W→Option Bd):Nat→List Blk→Nat→Int→Sto→List V→V→Prop
  | ret {h blks k sts σ τ ps v}:fC blks k=some ⟨sts,.ret⟩→σ.ws.length≤100→σ.al.length≤100→sts.length≤100→σ.steps sts=some (τ,ps)→τ.get 0=some v→Run P h blks 1 k σ ps v
  | goto {h blks t k sts g σ τ ps qs v}:fC blks k=some ⟨sts,.goto g⟩→σ.ws.length≤100→σ.al.length≤100→sts.length≤100→σ.steps sts=some (τ,ps)→Run P h blks t g τ qs v→Run P h blks (t+1) k σ (ps++qs) v
  | switch {h blks t k sts o c a b x σ τ ps qs v}:fC blks k=some ⟨sts,.switch o c a b⟩→σ.ws.length≤100→σ.al.length≤100→sts.length≤100→σ.steps sts=some (τ,ps)→τ.val o=some (.i x)→Run P h blks t (if c=x then a else b) τ qs v→Run P h blks (t+1) k σ (ps++qs) v
  | call {h blks t t' k sts w o l j nx a K r σ τ υ ps qs rs v}:fC blks k=some ⟨sts,.call w o l j nx⟩→σ.ws.length≤100→σ.al.length≤100→sts.length≤100→σ.steps sts=some (τ,ps)→τ.val o=some a→P w=some K→K.argc=1→K.blks.length≤100 →
      Run P h K.blks t' 0 ⟨[(1,a)],[0,1]⟩ qs r→t'≤60→τ.set l j r=some υ→Run P (h+1) blks t nx υ rs v→Run P (h+1) blks (t+1) k σ (ps++(qs++rs)) v
noncomputable def gL:CSs:=match f_run.body with
  | .cons _ (.cons _ (.cons _ (.cons _ (.cons (.for_ _ _ b) _))))=>b
  | _=>.nil
end Mine.Internal
namespace Mine.Internal
noncomputable def gy (D:Dat) (h:Nat) (blks:List Blk) (t:Nat) (k:Int) (σ:Sto) (ps:List V) (v:V):Prop :=
  ∀ {n:Nat} {base:List MObj} {p:Nat} {pr:List Dat} {d:Int} {B:Bd} {q:Nat} {told:Option Val} {f:ag→Mu→Rx} {its:List Dat} {x7 x8 x9 x10 x11 x12 x13 x14 x15 x16 x17 x18:Option Val},
    B.blks=blks→blks.length≤100→p < base.length→(∀ pr ws al,WFm (fr base p pr ws al))→ez (an prog (n+h+3)) gL=f→d+h≤3→pr.length+ps.length≤900→t≤its.length →
    ∃ (loc':ag) (τ:Sto),cY f [7] its [some (.d D),some (.d (B.e q)),told,some (.r p),some (.d (.int d)),some (.r (base.length+1)),some (.d (.int k)),x7,x8,x9,x10,x11,x12,x13,x14,x15,x16,x17,x18] (fr base p pr σ.ws σ.al) =
      some (.ret (.d (.tup [v.e,.bool true])),loc',fr base p (pr++ps.map V.e) τ.ws τ.al)
theorem lY {blks:List Blk} {k:Int} {b:Blk} (h:fC blks k=some b) (hl:blks.length≤100):dg k blks.length=some k.toNat∧blks[k.toNat]? = some b:=by
  unfold fC at h
  split at h
  · rename_i h0
    have:=(List.getElem?_eq_some_iff.mp h).1
    exact ⟨by rw [bX,if_pos ⟨h0,this,by unfold lim; exact vu hl this rfl⟩],h⟩
  · exact nS h
theorem rS {sts:List St} {tm:Tm} {is:List Nat} {loc:ag} {m:Mu} {a b:Nat}:sR loc [a,b] (some (.d (Blk.e ⟨sts,tm⟩),m))=kG m (ap [a,b] [.d (.lst (eS sts)),.d tm.e] loc):=rfl
theorem Al {D:Dat} {h:Nat} {blks:List Blk} {k:Int} {sts:List St} {σ τ:Sto} {ps:List V} {v:V} (hb:fC blks k=some ⟨sts,.ret⟩) (h1:σ.ws.length≤100) (h2:σ.al.length≤100) (h3:sts.length≤100) (hs:σ.steps sts=some (τ,ps)) (hv:τ.get 0=some v):gy D h blks 1 k σ ps v:=by
  intro n base p pr d B q told f its x7 x8 x9 x10 x11 x12 x13 x14 x15 x16 x17 x18 hB hl hp hW hf hd hpr ht
  subst hB
  have hfe:∀ l m,f l m=ea (an prog (n+h+3)) l m gL:=fun l m=>by rw [← hf]; rfl
  refine aN (lY hb hl) fun i1 i2=>?_
  cases its with
  | nil=>simp at ht
  | cons x its =>
    have kv:=gP (n+h+2) (hW (pr++ps.map V.e) τ.ws τ.al) (o:=.copy 0 none) hv
    have gp:∀ pr ws al,(fr base p pr ws al)[p]? = some (.list (pr.map .d)):=fun Z Z Z=>qW hp
    simp only [H3,eF,nZ] at kv
    rw [gQ,cp]
    simp [hY,be,fD]
    rw [hfe]
    simp [am,ae,ah,af,ai,bE,bu,aQ,ax,az,dE,dF,dR,cT,fx,be,fo,d0,dX,aT,aH,ak,ao,aq,aJ,d9,eV,rS,aj,iC,j5,-getElem?_pos,gL,f_run,i1,i2,fY,gp,-bX]
    generalize hg:ez _ _=g
    obtain ⟨x',e⟩:=iE (n:=n+h+1) hp hW hg sts (pr:=pr) hs (by exact lm h1 h3 rfl) (by exact lm h2 h3 rfl) (by exact lb hpr rfl)
      (a0:=some (.d D)) (a1:=some (.d (B.e q))) (a2:=told) (a4:=some (.d (.int d))) (a6:=some (.d (.int k))) (a7:=some (.d x)) (a8:=x8) (a9:=x9) (x:=x10) (a11:=some (.d (.lst (eS sts)))) (a12:=some (.d Tm.ret.e)) (a13:=x13) (a14:=x14) (a15:=x15) (a16:=x16) (a17:=x17) (a18:=x18)
    rw [e]
    simp [am,ae,ar,cg,ah,af,ai,av,aS,bC,aP,ay,aA,aw,pi,m5,aQ,ax,az,fZ,ff,aO,aB,aF,bo,aL,aM,bf,ct,bD,bn,BB,aT,aH,bV,lH,dD,bH,bw,aW,aj,cL,b5,bR,-getElem?_pos,kv,gp]
    exact ⟨τ,rfl⟩
theorem yU {D:Dat} {h t:Nat} {blks:List Blk} {k g:Int} {sts:List St} {σ τ:Sto} {ps qs:List V} {v:V} (hb:fC blks k=some ⟨sts,.goto g⟩) (h1:σ.ws.length≤100) (h2:σ.al.length≤100) (h3:sts.length≤100) (hs:σ.steps sts=some (τ,ps)) (ih:gy D h blks t g τ qs v):gy D h blks (t+1) k σ (ps++qs) v:=by
  intro n base p pr d B q told f its x7 x8 x9 x10 x11 x12 x13 x14 x15 x16 x17 x18 hB hl hp hW hf hd hpr ht
  subst hB
  have hfe:∀ l m,f l m=ea (an prog (n+h+3)) l m gL:=fun l m=>by rw [← hf]; rfl
  refine aN (lY hb hl) fun i1 i2=>?_
  rw [List.length_append] at hpr
  cases its with
  | nil=>simp at ht
  | cons x its =>
    have gp:∀ pr ws al,(fr base p pr ws al)[p]? = some (.list (pr.map .d)):=fun Z Z Z=>qW hp
    rw [gQ,cp]
    simp [hY,be,fD]
    rw [hfe]
    simp [am,ae,ah,af,ai,bE,bu,aQ,ax,az,dE,dF,dR,cT,fx,be,fo,d0,dX,aT,aH,ak,ao,aq,aJ,d9,eV,rS,aj,iC,j5,-getElem?_pos,gL,f_run,i1,i2,fY,gp,-bX]
    generalize hg:ez _ _=g'
    obtain ⟨x',e⟩:=iE (n:=n+h+1) hp hW hg sts (pr:=pr) hs (by exact lm h1 h3 rfl) (by exact lm h2 h3 rfl) (by exact FH hpr rfl)
      (a0:=some (.d D)) (a1:=some (.d (B.e q))) (a2:=told) (a4:=some (.d (.int d))) (a6:=some (.d (.int k))) (a7:=some (.d x)) (a8:=x8) (a9:=x9) (x:=x10) (a11:=some (.d (.lst (eS sts)))) (a12:=some (.d (Tm.goto g).e)) (a13:=x13) (a14:=x14) (a15:=x15) (a16:=x16) (a17:=x17) (a18:=x18)
    rw [e]
    simp [am,ae,ah,af,ai,av,aS,aP,ay,aA,aw,aQ,ax,az,aV,bf,ct,bh,fS,bx,aT,aH,lB,zr,bw,aW,aj,gO,bR,-getElem?_pos,gp]
    obtain ⟨loc',υ,e2⟩:=ih (n:=n) (base:=base) (p:=p) (pr:=pr++ps.map V.e) (d:=d) (B:=B) (q:=q) (told:=told) (its:=its) (x7:=some (.d x)) (x8:=x8) (x9:=x9) (x10:=x') (x11:=some (.d (.lst (eS sts)))) (x12:=some (.d (Tm.goto g).e)) (x13:=x13) (x14:=x14) (x15:=x15) (x16:=x16) (x17:=x17) (x18:=x18) rfl hl hp hW hf hd (by simp; exact bv hpr) (by simpa using ht)
    rw [e2]
    exact ⟨loc',υ,by simp⟩
theorem uB {D:Dat} {h t:Nat} {blks:List Blk} {k c a b x0:Int} {o:Op} {sts:List St} {σ τ:Sto} {ps qs:List V} {v:V} (hb:fC blks k=some ⟨sts,.switch o c a b⟩) (h1:σ.ws.length≤100) (h2:σ.al.length≤100) (h3:sts.length≤100) (hs:σ.steps sts=some (τ,ps)) (ho:τ.val o=some (.i x0)) (ih:gy D h blks t (if c=x0 then a else b) τ qs v):gy D h blks (t+1) k σ (ps++qs) v:=by
  intro n base p pr d B q told f its x7 x8 x9 x10 x11 x12 x13 x14 x15 x16 x17 x18 hB hl hp hW hf hd hpr ht
  subst hB
  have hfe:∀ l m,f l m=ea (an prog (n+h+3)) l m gL:=fun l m=>by rw [← hf]; rfl
  refine aN (lY hb hl) fun i1 i2=>?_
  rw [List.length_append] at hpr
  cases its with
  | nil=>simp at ht
  | cons x its =>
    have gp:∀ pr ws al,(fr base p pr ws al)[p]? = some (.list (pr.map .d)):=fun Z Z Z=>qW hp
    have kv:=gP (n+h+2) (hW (pr++ps.map V.e) τ.ws τ.al) ho
    simp only [s0] at kv
    rw [gQ,cp]
    simp [hY,be,fD]
    rw [hfe]
    simp [am,ae,ah,af,ai,bE,bu,aQ,ax,az,dE,dF,dR,cT,fx,be,fo,d0,dX,aT,aH,ak,ao,aq,aJ,d9,eV,rS,aj,iC,j5,-getElem?_pos,gL,f_run,i1,i2,fY,gp,-bX]
    generalize hg:ez _ _=g'
    obtain ⟨x',e⟩:=iE (n:=n+h+1) hp hW hg sts (pr:=pr) hs (by exact lm h1 h3 rfl) (by exact lm h2 h3 rfl) (by exact FH hpr rfl)
      (a0:=some (.d D)) (a1:=some (.d (B.e q))) (a2:=told) (a4:=some (.d (.int d))) (a6:=some (.d (.int k))) (a7:=some (.d x)) (a8:=x8) (a9:=x9) (x:=x10) (a11:=some (.d (.lst (eS sts)))) (a12:=some (.d (Tm.switch o c a b).e)) (a13:=x13) (a14:=x14) (a15:=x15) (a16:=x16) (a17:=x17) (a18:=x18)
    rw [e]
    by_cases hc:c=x0
    · rw [if_pos hc] at ih
      simp [am,ae,ar,cg,ah,af,jN,ai,av,aS,bF,b4,b6,bO,bQ,aP,ay,aA,aw,aQ,ax,az,dE,dF,bX,aO,aB,dl,ee,kb,gX,cm,cn,cj,gn,eh,c5,cV,eA,il,aF,bo,aL,aM,aV,be,bf,ct,bh,fS,bx,aT,aH,bG,bK,ke,pe,un,uh,dD,lA,nK,nM,bw,aW,aj,gO,CC,xN,xJ,gJ,mJ,bR,kN,lim,-getElem?_pos,gp,kv,hc]
      obtain ⟨loc',υ,e2⟩:=ih (n:=n) (base:=base) (p:=p) (pr:=pr++ps.map V.e) (d:=d) (B:=B) (q:=q) (told:=told) (its:=its) (x7:=some (.d x)) (x8:=x8) (x9:=some (.d (.int x0))) (x10:=x') (x11:=some (.d (.lst (eS sts)))) (x12:=some (.d (Tm.switch o c a b).e)) (x13:=x13) (x14:=x14) (x15:=x15) (x16:=x16) (x17:=x17) (x18:=x18) rfl hl hp hW hf hd (by simp; exact bv hpr) (by simpa using ht)
      rw [hc] at e2
      rw [e2]
      exact ⟨loc',υ,by simp⟩
    · rw [if_neg hc] at ih
      simp [am,ae,ar,cg,ah,af,jN,ai,av,aS,bF,b4,b6,bO,bQ,aP,ay,aA,aw,aQ,ax,az,dE,dF,bX,aO,aB,ee,jj,gX,cm,cn,cj,gn,eh,c5,cV,wP,il,aF,bo,aL,aM,aV,be,bf,ct,bh,fS,bx,aT,aH,bG,bK,ke,pe,un,uh,dD,lA,nK,nM,bw,aW,aj,gO,CC,xN,xJ,gJ,mJ,bR,kN,lim,-getElem?_pos,gp,kv,hc]
      obtain ⟨loc',υ,e2⟩:=ih (n:=n) (base:=base) (p:=p) (pr:=pr++ps.map V.e) (d:=d) (B:=B) (q:=q) (told:=told) (its:=its) (x7:=some (.d x)) (x8:=x8) (x9:=some (.d (.int x0))) (x10:=x') (x11:=some (.d (.lst (eS sts)))) (x12:=some (.d (Tm.switch o c a b).e)) (x13:=x13) (x14:=x14) (x15:=x15) (x16:=x16) (x17:=x17) (x18:=x18) rfl hl hp hW hf hd (by simp; exact bv hpr) (by simpa using ht)
      rw [e2]
      exact ⟨loc',υ,by simp⟩
noncomputable def BF (D:Dat) (h:Nat) (K:Bd) (told:List V) (ps:List V) (v:V):Prop :=
  ∀ {n:Nat} {base:List MObj} {p:Nat} {pr:List Dat} {d:Int} {q:Nat},p < base.length→(∀ pr:List Dat,WFm (base.set p (.list (pr.map .d))))→d+h≤3→pr.length+ps.length≤900 →
    an prog (n+h+4) .run [.d D,.d (K.e q),.d (.lst (told.map V.e)),.r p,.d (.int d)] (base.set p (.list (pr.map .d)))=some (.d (.tup [v.e,.bool true]),base.set p (.list ((pr++ps.map V.e).map .d)))
noncomputable def its60:List Dat:=(List.range 60).map fun (i:Nat)=>Dat.int (0+(i:Int))
theorem FX:items (.rng 0 60 1)=some its60:=rfl
theorem IN:items (.rng 0 1 1)=some [.int 0]:=rfl
theorem rF:its60.length=60:=by unfold its60; simp
theorem yj {base:List MObj} {p:Nat} {pr':List Dat} {ws:List (Int × V)} {al:List Int} {v:Val} (h:WFm (base.set p (.list (pr'.map .d)))) (hv:v.okB 0=true):cE true base.length v (fr base p pr' ws al)=some (v,base.set p (.list (pr'.map .d))) :=
  lO (by rw [List.length_set]) h hv
theorem Df {D:Dat} {h t:Nat} {K:Bd} {a v:V} {ps:List V} (hK:K.argc=1) (hl:K.blks.length≤100) (ht:t≤60) (H:gy D h K.blks t 0 ⟨[(1,a)],[0,1]⟩ ps v):BF D h K [a] ps v:=by
  intro n base p pr d q hp hW hd hpr
  rw [show n+h+4=(n+h+3)+1 from rfl,aX (d:=f_run) rfl rfl]
  have hd3:¬ 3 < d:=by omega
  have hfr:base.set p (.list (pr.map .d))++[.idict (ci 1 a.e []),.sdict [.worths_,.alive_,.bad_] [.r base.length,.d (.lst [.int 0,.int 1]),.d (.bool false)]]=fr base p pr [(1,a)] [0,1]:=rfl
  simp [am,ae,ar,cg,fV,ah,af,ai,av,aS,ij,b4,b6,bO,bQ,aP,ay,aA,aw,bE,bu,aQ,ax,az,fZ,ff,gb,cf,jl,jz,zc,yN,iZ,BM,ug,j4,B4,aF,bo,aL,aM,aV,be,gw,kp,kj,oR,rU,bf,bh,fH,fo,d0,dX,s5,qN,qk,ii,gQ,fD,fS,bx,aT,aH,ak,ao,aq,aJ,bG,bK,ph,cA,bH,sf,aj,eX,gO,kA,kw,mJ,GX,HH,lim,-getElem?_pos,f_run,hd3,hK,F6,FX,BH,xS,-List.map_append]
  rw [hfr]
  generalize hf:ez _ _=f
  obtain ⟨loc',τ,e⟩:=H (n:=n) (base:=base) (p:=p) (pr:=pr) (d:=d) (B:=K) (q:=q) (told:=some (.d (.lst [a.e]))) (its:=its60) (f:=f) (x7:=none) (x8:=some (.d (.int 0))) (x9:=some (.d a.e)) (x10:=none) (x11:=none) (x12:=none) (x13:=none) (x14:=none) (x15:=none) (x16:=none) (x17:=none) (x18:=none) rfl hl hp (fun pr ws al=>Cw hW) hf hd hpr (by rw [rF]; exact ht)
  rw [e]
  simp [bV,aU,-List.map_append]
  exact yj (hW _) rfl
theorem CR {D:Dat} {h t:Nat} {K:Bd} {v:V} {ps:List V} (hK:K.argc=0) (hl:K.blks.length≤100) (ht:t≤60) (H:gy D h K.blks t 0 ⟨[],[0]⟩ ps v):BF D h K [] ps v:=by
  intro n base p pr d q hp hW hd hpr
  rw [show n+h+4=(n+h+3)+1 from rfl,aX (d:=f_run) rfl rfl]
  have hd3:¬ 3 < d:=by omega
  have hfr:base.set p (.list (pr.map .d))++[.idict [],.sdict [.worths_,.alive_,.bad_] [.r base.length,.d (.lst [.int 0]),.d (.bool false)]]=fr base p pr [] [0]:=rfl
  simp [am,ae,ah,af,ai,av,ij,b4,b6,bO,bQ,aP,ay,aA,aw,bE,bu,gb,cf,jl,jz,zc,yN,iZ,BM,ug,j4,B4,aF,bo,aL,aM,aV,bf,bh,fo,d0,dX,s5,qN,qk,ii,bx,aT,aH,ak,ao,aq,aJ,bG,bK,ph,cA,sf,aj,eX,gO,lim,-getElem?_pos,f_run,hd3,hK,IN,FX,BH,-List.map_append]
  rw [hfr]
  generalize hf:ez _ _=f
  obtain ⟨loc',τ,e⟩:=H (n:=n) (base:=base) (p:=p) (pr:=pr) (d:=d) (B:=K) (q:=q) (told:=some (.d (.lst []))) (its:=its60) (f:=f) (x7:=none) (x8:=none) (x9:=none) (x10:=none) (x11:=none) (x12:=none) (x13:=none) (x14:=none) (x15:=none) (x16:=none) (x17:=none) (x18:=none) rfl hl hp (fun pr ws al=>Cw hW) hf hd hpr (by rw [rF]; exact ht)
  rw [e]
  simp [bV,aU,-List.map_append]
  exact yj (hW _) rfl
theorem zF {ws0:List W} {ds0:List Dat} {h t t':Nat} {blks:List Blk} {k l nx:Int} {w:W} {j:Option Int} {o:Op} {a r:V} {K:Bd} {sts:List St} {σ τ υ:Sto} {ps qs rs:List V} {v:V} {q':Nat} (hb:fC blks k=some ⟨sts,.call w o l j nx⟩) (h1:σ.ws.length≤100) (h2:σ.al.length≤100) (h3:sts.length≤100) (hs:σ.steps sts=some (τ,ps)) (ho:τ.val o=some a)
    (hP:dC w ws0 ds0=some (K.e q')) (hK:K.argc=1) (hKl:K.blks.length≤100) (ih1:gy (.dct ws0 ds0) h K.blks t' 0 ⟨[(1,a)],[0,1]⟩ qs r) (ht':t'≤60) (hset:τ.set l j r=some υ) (ih:gy (.dct ws0 ds0) (h+1) blks t nx υ rs v):gy (.dct ws0 ds0) (h+1) blks (t+1) k σ (ps++(qs++rs)) v:=by
  intro n base p pr d B q told f its x7 x8 x9 x10 x11 x12 x13 x14 x15 x16 x17 x18 hB hl hp hW hf hd hpr ht
  subst hB
  have hfe:∀ l m,f l m=ea (an prog (n+h+4)) l m gL:=fun l m=>by rw [← hf]; rfl
  refine aN (lY hb hl) fun i1 i2=>?_
  rw [List.length_append,List.length_append] at hpr
  have hτ:∀ (sts:List St) {σ τ:Sto} {ps:List V},σ.steps sts=some (τ,ps)→τ.ws.length≤σ.ws.length+sts.length:=fun sts=>by
    induction sts with
    | nil=>intro σ τ ps h; (refine dx h fun h1_ h2_=>?_; subst h1_; subst h2_); exact Nat.le_refl _
    | cons t r ih =>
      intro σ τ ps h
      refine xe1 (Option.bind_eq_some_iff.mp (show (σ.step t).bind _=_ from h)) fun q0_ r_=>aN r_ fun e1 e2=>?_
      obtain ⟨υ,p1⟩:=q0_
      refine bM e2 fun q0_ e3 e4=>?_
      obtain ⟨υ',p2⟩:=q0_
      (refine eJ e4 fun h1_ h2_=>?_; subst h1_; subst h2_)
      have:=ih e3
      have:=(tf e1).1
      rw [List.length_cons]; omega
  cases its with
  | nil=>simp at ht
  | cons x its =>
    have gp:∀ pr ws al,(fr base p pr ws al)[p]? = some (.list (pr.map .d)):=fun Z Z Z=>qW hp
    have kv:=gP (n+h+3) (hW (pr++ps.map V.e) τ.ws τ.al) ho
    have kr:=Df hK hKl ht' ih1 (n:=n) (base:=fr base p (pr++ps.map V.e) τ.ws τ.al) (p:=p) (pr:=pr++ps.map V.e) (d:=d+1) (q:=q') (by rw [cq]; exact ls hp) (fun pr'=>by rw [rV hp]; exact hW _ _ _) (by omega) (by simp; omega)
    rw [rV hp,rV hp] at kr
    simp only [List.map_cons,List.map_nil] at kr
    have ks:=Bl (n+h+3) (pr:=pr++ps.map V.e++qs.map V.e) (fun ws=>hW _ ws τ.al) hset (by have:=hτ sts hs; omega)
    rw [gQ,cp]
    simp [hY,be,fD]
    rw [hfe]
    simp [am,ae,ah,af,ai,bE,bu,aQ,ax,az,dE,dF,dR,cT,fx,be,fo,d0,dX,aT,aH,ak,ao,aq,aJ,d9,eV,rS,aj,iC,j5,-getElem?_pos,gL,f_run,i1,i2,fY,gp,-bX]
    generalize hg:ez _ _=g'
    obtain ⟨x',e⟩:=iE (n:=n+h+2) hp hW hg sts (pr:=pr) hs (by exact lm h1 h3 rfl) (by exact lm h2 h3 rfl) (by exact FH hpr rfl)
      (a0:=some (.d (.dct ws0 ds0))) (a1:=some (.d (B.e q))) (a2:=told) (a4:=some (.d (.int d))) (a6:=some (.d (.int k))) (a7:=some (.d x)) (a8:=x8) (a9:=x9) (x:=x10) (a11:=some (.d (.lst (eS sts)))) (a12:=some (.d (Tm.call w o l j nx).e)) (a13:=x13) (a14:=x14) (a15:=x15) (a16:=x16) (a17:=x17) (a18:=x18)
    rw [e]
    simp [am,ae,ar,bz,cg,ah,af,ai,av,aS,b4,b6,bO,bQ,aP,ay,aA,aw,aQ,ax,az,jk,aO,aB,er,dl,dZ,cm,cn,cj,gn,eh,c5,cV,eA,il,aF,bo,aL,aM,aV,fx,be,bf,bh,cp,bx,aT,aH,bG,bK,tN,tI,yt,dD,cA,bw,aW,aj,Eo,Fe,gi,bR,lim,-getElem?_pos,gp,kv,hP,-List.map_append]
    rw [kr]
    simp [am,ae,ar,cg,ah,af,ai,av,aS,km,i8,ip,iX,pi,m5,aQ,ax,az,fZ,ff,aO,aB,aF,bo,aL,aM,cT,be,gw,kp,kj,w6,Ar,cI,aT,aH,o4,dD,sI,bH,aj,EJ,FG,hV,lim,-getElem?_pos,gp,lV,-List.map_append]
    simp only [List.map_append,← List.append_assoc]
    rw [ks]
    simp [am,ae,ah,af,ai,av,aQ,ax,az,aV,ce,fS,bx,aT,aH,yI,aj,gO,-getElem?_pos,gp,-List.map_append]
    obtain ⟨loc',ζ,e2⟩:=ih (n:=n) (base:=base) (p:=p) (pr:=pr++ps.map V.e++qs.map V.e) (d:=d) (B:=B) (q:=q) (told:=told) (its:=its) (f:=f) (x7:=some (.d x)) (x8:=x8) (x9:=x9) (x10:=x') (x11:=some (.d (.lst (eS sts)))) (x12:=some (.d (Tm.call w o l j nx).e)) (x13:=some (.d (.lst [a.e]))) (x14:=some (.d r.e)) (x15:=some (.d (.bool true))) (x16:=x16) (x17:=x17) (x18:=x18) rfl hl hp hW hf (by exact hd) (by simp; omega) (by simpa using ht)
    refine ⟨loc',ζ,?_⟩
    simp only [List.append_assoc] at e2 ⊢
    exact e2
theorem AK {ws0:List W} {ds0:List Dat} {P:W→Option Bd} (hP:∀ w K,P w=some K→∃ q,dC w ws0 ds0=some (K.e q)) {h:Nat} {blks:List Blk} {t:Nat} {k:Int} {σ:Sto} {ps:List V} {v:V} (H:Run P h blks t k σ ps v):gy (.dct ws0 ds0) h blks t k σ ps v:=by
  induction H with
  | ret hb h1 h2 h3 hs hv=>exact Al hb h1 h2 h3 hs hv
  | goto hb h1 h2 h3 hs _ ih=>exact yU hb h1 h2 h3 hs ih
  | switch hb h1 h2 h3 hs ho _ ih=>exact uB hb h1 h2 h3 hs ho ih
  | call hb h1 h2 h3 hs ho hw hK hKl _ ht hset _ ih1 ih =>
    obtain ⟨q,hq⟩:=hP _ _ hw
    exact zF hb h1 h2 h3 hs ho hq hK hKl ih1 ht hset ih
theorem pu (n:Nat) {base:List MObj} {ws0:List W} {ds0:List Dat} {P:W→Option Bd} (hP:∀ w K,P w=some K→∃ q,dC w ws0 ds0=some (K.e q)) {B:Bd} {q h t:Nat} {ps:List V} {v:V} (hB:B.argc=0) (hl:B.blks.length≤100) (ht:t≤60) (hh:h≤3) (hps:ps.length≤900) (hw:WFm base)
    (H:Run P h B.blks t 0 ⟨[],[0]⟩ ps v):an prog (n+h+5) .told [.d (.dct ws0 ds0),.d (B.e q)] base=some (.d (.tup [.lst (ps.map V.e),.tup [v.e,.bool true]]),base):=by
  rw [show n+h+5=(n+h+4)+1 from rfl,aX (d:=qc) rfl rfl]
  have hps':ps.length≤1048576:=by exact lb hps rfl
  have kr:=CR hB hl ht (AK hP H) (n:=n) (base:=base++[.list []]) (p:=base.length) (pr:=[]) (d:=0) (q:=q) (by simp) (fun pr=>by
    have:(base++[MObj.list []]).set base.length (.list (pr.map .d))=base++[.list (pr.map .d)]:=by simp
    rw [this]
    exact hw.app (by simp only [List.all_cons,List.all_nil,mt,Bool.and_true])) (by omega) (by simp; exact hps)
  simp only [List.map_nil,List.nil_append] at kr
  have e1:(base++[MObj.list []]).set base.length (.list [])=base++[.list []]:=by simp
  have e2:(base++[MObj.list []]).set base.length (.list ((ps.map V.e).map .d))=base++[.list ((ps.map V.e).map .d)]:=by simp
  rw [e1,e2] at kr
  simp [am,ae,ar,bz,ah,af,ai,av,bC,bF,cb,aO,aB,gm,fk,ft,cN,gr,fP,fG,gU,aF,bo,aL,aM,aV,bD,bn,aT,aH,bV,ak,ao,aq,aJ,bG,aU,aj,cW,ew,iV,b5,ju,jB,lim,-getElem?_pos,qc,kr,-List.map_map]
  exact iL hw rfl
end Mine.Internal
namespace Mine.Internal
inductive Seg (P:W→Option Bd) (N:Nat):Nat→List Blk→Nat→Int→Sto→List V→Sto→Prop
  | ret {h blks k sts σ τ ps}:fC blks k=some ⟨sts,.ret⟩→σ.ws.length≤N→σ.al.length≤N→sts.length≤N→σ.steps sts=some (τ,ps)→Seg P N h blks 1 k σ ps τ
  | goto {h blks t k sts g σ τ ps qs υ}:fC blks k=some ⟨sts,.goto g⟩→σ.ws.length≤N→σ.al.length≤N→sts.length≤N→σ.steps sts=some (τ,ps)→Seg P N h blks t g τ qs υ→Seg P N h blks (t+1) k σ (ps++qs) υ
  | switch {h blks t k sts o c a b x σ τ ps qs υ}:fC blks k=some ⟨sts,.switch o c a b⟩→σ.ws.length≤N→σ.al.length≤N→sts.length≤N→σ.steps sts=some (τ,ps)→τ.val o=some (.i x)→Seg P N h blks t (if c=x then a else b) τ qs υ→Seg P N h blks (t+1) k σ (ps++qs) υ
  | call {h blks t t' k sts w o l j nx a K r σ τ υ ps qs rs ζ}:fC blks k=some ⟨sts,.call w o l j nx⟩→σ.ws.length≤N→σ.al.length≤N→sts.length≤N→σ.steps sts=some (τ,ps)→τ.val o=some a→P w=some K→K.argc=1→K.blks.length≤100 →
      Run P h K.blks t' 0 ⟨[(1,a)],[0,1]⟩ qs r→t'≤60→τ.set l j r=some υ→Seg P N (h+1) blks t nx υ rs ζ→Seg P N (h+1) blks (t+1) k σ (ps++(qs++rs)) ζ
theorem Seg.run {P:W→Option Bd} {N h:Nat} (hN:N≤100) {blks:List Blk} {t:Nat} {k:Int} {σ τ:Sto} {ps:List V} {v:V} (H:Seg P N h blks t k σ ps τ) (hv:τ.get 0=some v):Run P h blks t k σ ps v:=by
  induction H with
  | ret hb h1 h2 h3 hs=>exact .ret hb (Nat.le_trans h1 hN) (Nat.le_trans h2 hN) (Nat.le_trans h3 hN) hs hv
  | goto hb h1 h2 h3 hs _ ih=>exact .goto hb (Nat.le_trans h1 hN) (Nat.le_trans h2 hN) (Nat.le_trans h3 hN) hs (ih hv)
  | switch hb h1 h2 h3 hs ho _ ih=>exact .switch hb (Nat.le_trans h1 hN) (Nat.le_trans h2 hN) (Nat.le_trans h3 hN) hs ho (ih hv)
  | call hb h1 h2 h3 hs ho hw hK hKl hr ht hset _ ih=>exact .call hb (Nat.le_trans h1 hN) (Nat.le_trans h2 hN) (Nat.le_trans h3 hN) hs ho hw hK hKl hr ht hset (ih hv)
theorem Seg.mono {P:W→Option Bd} {N N' h:Nat} (hN:N≤N') {blks:List Blk} {t:Nat} {k:Int} {σ τ:Sto} {ps:List V} (H:Seg P N h blks t k σ ps τ):Seg P N' h blks t k σ ps τ:=by
  induction H with
  | ret hb h1 h2 h3 hs=>exact .ret hb (Nat.le_trans h1 hN) (Nat.le_trans h2 hN) (Nat.le_trans h3 hN) hs
  | goto hb h1 h2 h3 hs _ ih=>exact .goto hb (Nat.le_trans h1 hN) (Nat.le_trans h2 hN) (Nat.le_trans h3 hN) hs ih
  | switch hb h1 h2 h3 hs ho _ ih=>exact .switch hb (Nat.le_trans h1 hN) (Nat.le_trans h2 hN) (Nat.le_trans h3 hN) hs ho ih
  | call hb h1 h2 h3 hs ho hw hK hKl hr ht hset _ ih=>exact .call hb (Nat.le_trans h1 hN) (Nat.le_trans h2 hN) (Nat.le_trans h3 hN) hs ho hw hK hKl hr ht hset ih
noncomputable def Sto.join (σ:Sto) (s:Int) (τ:Sto):Sto:=⟨σ.ws++τ.ws.map fun kv=>(kv.1+s,kv.2),σ.al++τ.al.map (· + s)⟩
structure Below (σ:Sto) (s:Int):Prop where
  al:∀ x ∈ σ.al,x < s
  ws:∀ kv ∈ σ.ws,kv.1 < s
noncomputable def NN (τ:Sto):Prop:=∀ x ∈ τ.al,0≤x
theorem oN {l:Int}:∀ {ws ws':List (Int × V)},(∀ kv ∈ ws,kv.1 ≠ l)→(ws++ws').lookup l=ws'.lookup l
  | [],_,_=>rfl
  | (k,v)::r,ws',h=>by
    rw [List.cons_append,List.lookup_cons]
    have:(l == k)=false:=beq_eq_false_iff_ne.mpr fun e=>h (k,v) (.head _) e.symm
    rw [this]
    exact oN fun kv hk=>h kv (.tail _ hk)
theorem qz {l s:Int}:∀ {ws:List (Int × V)},(ws.map fun kv=>(kv.1+s,kv.2)).lookup (l+s)=ws.lookup l
  | []=>rfl
  | (k,v)::r=>by
    rw [List.map_cons,List.lookup_cons,List.lookup_cons,qz]
    by_cases h:l=k
    · subst h; simp
    · have h1:(l == k)=false:=beq_eq_false_iff_ne.mpr h
      have h2:(l+s == k+s)=false:=beq_eq_false_iff_ne.mpr (by exact yc h)
      rw [h1,h2]
theorem qE {σ:Sto} {l:Int} {v:V} (h:σ.get l=some v):l ∈ σ.al∧σ.ws.lookup l=some v:=by
  unfold Sto.get at h
  split at h
  · rename_i hl; exact ⟨hl,h⟩
  · exact nS h
theorem l5 {σ τ:Sto} {s l:Int} {v:V} (hσ:Below σ s) (hτ:NN τ) (h:τ.get l=some v):(σ.join s τ).get (l+s)=some v:=by
  refine aN (qE h) fun h1 h2=>?_
  have:=hτ l h1
  unfold Sto.get Sto.join
  rw [if_pos (List.mem_append_right _ (List.mem_map_of_mem h1))]
  dsimp only
  rw [oN fun kv hk=>by have:=hσ.ws kv hk; omega,qz,h2]
theorem gZ {σ τ:Sto} {s:Int} {o:Op} {v:V} (hσ:Below σ s) (hτ:NN τ) (h:τ.val o=some v):(σ.join s τ).val (o.mv s)=some v:=by
  cases o with
  | const c=>exact h
  | move l=>exact l5 hσ hτ h
  | copy l j =>
    cases j with
    | none=>exact l5 hσ hτ h
    | some j =>
      refine xe1 (Option.bind_eq_some_iff.mp (show (τ.get l).bind (fun v=>v.at_ j)=some v from h)) fun w r_=>aN r_ fun e1 e2=>?_
      show ((σ.join s τ).get (l+s)).bind (fun v=>v.at_ j)=some v
      rw [l5 hσ hτ e1]; exact e2
theorem Av {l:Int} {v:V} {a b:List (Int × V)} (h:∀ kv ∈ a,kv.1 ≠ l):ci l v (a++b)=a++ci l v b:=by
  have ha:a.any (fun kv=>decide (kv.1=l))=false:=by
    rw [List.any_eq_false]; intro kv hk; simpa using h kv hk
  have hm:a.map (fun kv=>if kv.1=l then (kv.1,v) else kv)=a:=by
    conv=>rhs; rw [← List.map_id a]
    refine List.map_congr_left fun kv hk=>?_
    rw [if_neg (h kv hk)]; rfl
  unfold ci
  rw [List.any_append,ha,Bool.false_or,List.map_append,hm]
  split <;> simp
theorem DU {l s:Int} {v:V} {b:List (Int × V)}:ci (l+s) v (b.map fun kv=>(kv.1+s,kv.2))=(ci l v b).map fun kv=>(kv.1+s,kv.2):=by
  have e:((fun kv:Int × V=>decide (kv.1=l+s)) ∘ fun kv:Int × V=>(kv.1+s,kv.2))=fun kv=>decide (kv.1=l):=by
    funext kv
    show decide (kv.1+s=l+s)=decide (kv.1=l)
    by_cases h:kv.1=l
    · simp [h]
    · rw [decide_eq_false h,decide_eq_false (by exact yc h)]
  unfold ci
  rw [List.any_map,e]
  split
  · rw [List.map_map,List.map_map]
    refine List.map_congr_left fun kv Z=>?_
    show (if kv.1+s=l+s then (kv.1+s,v) else (kv.1+s,kv.2))=(((if kv.1=l then (kv.1,v) else kv):Int × V).1+s,((if kv.1=l then (kv.1,v) else kv):Int × V).2)
    by_cases h:kv.1=l
    · rw [if_pos (by exact Jz h),if_pos h]
    · rw [if_neg (by exact yc h),if_neg h]
  · simp
set_option tactic.hygienic true in
theorem AN {σ τ τ':Sto} {s l:Int} {j:Option Int} {v:V} (hσ:Below σ s) (hτ:NN τ) (h:τ.set l j v=some τ'):(σ.join s τ).set (l+s) j v=some (σ.join s τ')∧τ'.al=τ.al:=by
  unfold Sto.set at h
  split at h
  · rename_i hl
    have:=hτ l hl
    have hm:l+s ∈ (σ.join s τ).al:=List.mem_append_right _ (List.mem_map_of_mem hl)
    have hne:∀ kv ∈ σ.ws,kv.1 ≠ l+s:=fun kv hk=>by have:=hσ.ws kv hk; omega
    have hlk:(σ.join s τ).ws.lookup (l+s)=τ.ws.lookup l:=by
      show (σ.ws++τ.ws.map _).lookup (l+s)=_
      rw [oN hne,qz]
    have hput:∀ u,ci (l+s) u (σ.join s τ).ws=σ.ws++(ci l u τ.ws).map fun kv=>(kv.1+s,kv.2):=fun u=>by
      show ci (l+s) u (σ.ws++τ.ws.map _)=_
      rw [Av hne,DU]
    unfold Sto.set
    rw [if_pos hm]
    cases j with
    | none=>(replace h:=iS h; subst h); exact ⟨by dsimp only; rw [hput]; rfl,rfl⟩
    | some j =>
      dsimp only at h ⊢
      rw [hlk]
      split at h
      · rename_i x w e1
        refine bM h fun u e2 e3=>?_
        subst e3
        rw [e2]
        exact ⟨by show some (Sto.mk (ci (l+s) u (σ.join s τ).ws) _)=_; rw [hput]; rfl,rfl⟩
      · exact nS h
  · exact nS h
set_option tactic.hygienic true in
theorem Db {σ τ:Sto} {s:Int} {r:Rv} {v:V} (hσ:Below σ s) (hτ:NN τ) (h:τ.rv r=some v):(σ.join s τ).rv (r.mv s)=some v:=by
  cases r with
  | use o=>exact gZ hσ hτ h
  | bin w a b =>
    unfold Sto.rv at h
    dsimp only at h
    split at h
    · rename_i x y ex ey
      unfold Sto.rv Rv.mv
      dsimp only
      rw [gZ hσ hτ ex,gZ hσ hτ ey]
      exact h
    · exact nS h
  | tup a b =>
    unfold Sto.rv at h
    dsimp only at h
    split at h
    · rename_i x y ex ey
      unfold Sto.rv Rv.mv
      dsimp only
      rw [gZ hσ hτ ex,gZ hσ hτ ey]
      exact h
    · exact nS h
theorem Ba {l:Int} {a b:List (Int × V)} (h:∀ kv ∈ a,kv.1 ≠ l):cM l (a++b)=a++cM l b:=by
  unfold cM
  rw [List.filter_append,List.filter_eq_self.mpr fun kv hk=>by simpa using h kv hk]
theorem CY {l s:Int} {b:List (Int × V)}:cM (l+s) (b.map fun kv=>(kv.1+s,kv.2))=(cM l b).map fun kv=>(kv.1+s,kv.2):=by
  unfold cM
  rw [List.filter_map]
  congr 1
  refine List.filter_congr fun kv Z=>?_
  show decide (kv.1+s ≠ l+s)=decide (kv.1 ≠ l)
  by_cases h:kv.1=l
  · simp [h]
  · rw [decide_eq_true (by exact yc h),decide_eq_true h]
theorem CW {l:Int} {a b:List Int} (h:∀ x ∈ a,x ≠ l):(a++b).filter (fun x=>x != l)=a++b.filter fun x=>x != l:=by
  rw [List.filter_append,List.filter_eq_self.mpr fun x hx=>by simpa using h x hx]
theorem Fx {l s:Int} {b:List Int}:(b.map (· + s)).filter (fun x=>x != l+s)=(b.filter fun x=>x != l).map (· + s):=by
  rw [List.filter_map]
  congr 1
  refine List.filter_congr fun x Z=>?_
  show (x+s != l+s)=(x != l)
  by_cases h:x=l
  · simp [h]
  · rw [bne_iff_ne.mpr (by exact yc h),bne_iff_ne.mpr h]
noncomputable def cO:St→Prop
  | .live l=>0≤l
  | _=>True
theorem Cj {l:Int}:cO (.live l)=(0≤l):=rfl
theorem Bt {l:Int}:cO (.dead l)=True:=rfl
theorem yg {o:Op}:cO (.print o)=True:=rfl
theorem Cp {l:Int} {j:Option Int} {r:Rv}:cO (.assign l j r)=True:=rfl
theorem zJ {σ τ τ':Sto} {s:Int} {t:St} {ps:List V} (hσ:Below σ s) (hτ:NN τ) (ht:cO t) (h:τ.step t=some (τ',ps)):(σ.join s τ).step (t.mv s)=some (σ.join s τ',ps)∧NN τ':=by
  cases t with
  | print o =>
    refine xe1 (Option.map_eq_some_iff.mp (show (τ.val o).map _=_ from h)) fun v r_=>aN r_ fun e1 e2=>?_
    (refine eJ e2 fun h1_ h2_=>?_; subst h1_; subst h2_)
    refine ⟨?_,hτ⟩
    show ((σ.join s τ).val (o.mv s)).map _=_
    rw [gZ hσ hτ e1]; rfl
  | live l =>
    have h:(if l ∈ τ.al then none else some ((⟨τ.ws,τ.al++[l]⟩ : Sto),([]:List V)))=some (τ',ps):=h
    have h0:0≤l:=ht
    split at h
    · exact nS h
    · rename_i hl
      (refine dx h fun h1_ h2_=>?_; subst h1_; subst h2_)
      refine ⟨?_,fun x hx=>by
        rcases List.mem_append.mp hx with hx | hx
        · exact hτ x hx
        · rw [List.mem_singleton] at hx; omega⟩
      show (if l+s ∈ (σ.join s τ).al then none else some ((⟨(σ.join s τ).ws,(σ.join s τ).al++[l+s]⟩ : Sto),([]:List V)))=_
      rw [if_neg fun hm=>?_]
      · unfold Sto.join; simp
      · rcases List.mem_append.mp hm with hm | hm
        · have:=hσ.al _ hm; omega
        · refine xe1 (List.mem_map.mp hm) fun x r_=>aN r_ fun hx e=>?_
          have:x=l:=by have e:x+s=l+s:=e; omega
          exact hl (this ▸ hx)
  | dead l =>
    have h:(if l ∈ τ.al then some ((⟨cM l τ.ws,τ.al.filter fun x=>x != l⟩ : Sto),([]:List V)) else none)=some (τ',ps):=h
    split at h
    · rename_i hl
      (refine dx h fun h1_ h2_=>?_; subst h1_; subst h2_)
      have:=hτ l hl
      refine ⟨?_,fun x hx=>hτ x (List.mem_filter.mp hx).1⟩
      show (if l+s ∈ (σ.join s τ).al then some ((⟨cM (l+s) (σ.join s τ).ws,(σ.join s τ).al.filter fun x=>x != l+s⟩ : Sto),([]:List V)) else none)=_
      have hm:l+s ∈ (σ.join s τ).al:=List.mem_append_right _ (List.mem_map_of_mem hl)
      rw [if_pos hm]
      unfold Sto.join
      dsimp only
      rw [Ba fun kv hk=>by have:=hσ.ws kv hk; omega,CY,CW fun x hx=>by have:=hσ.al x hx; omega,Fx]
    · exact nS h
  | assign l j r =>
    refine xe1 (Option.bind_eq_some_iff.mp (show (τ.rv r).bind _=_ from h)) fun v r_=>aN r_ fun e1 e2=>?_
    refine bM e2 fun υ e3 e4=>?_
    (refine eJ e4 fun h1_ h2_=>?_; subst h1_; subst h2_)
    refine aN (AN hσ hτ e3) fun g1 g2=>?_
    refine ⟨?_,fun x hx=>hτ x (g2 ▸ hx)⟩
    show ((σ.join s τ).rv (r.mv s)).bind _=_
    rw [Db hσ hτ e1]
    show ((σ.join s τ).set (l+s) j v).map _=_
    rw [g1]; rfl
theorem jw {σ:Sto} {s:Int} (hσ:Below σ s):∀ (sts:List St) {τ τ':Sto} {ps:List V},NN τ→(∀ t ∈ sts,cO t)→τ.steps sts=some (τ',ps)→(σ.join s τ).steps (sts.map (St.mv s))=some (σ.join s τ',ps)∧NN τ'
  | [],τ,τ',ps,hτ,ht,h=>by (refine dx h fun h1_ h2_=>?_; subst h1_; subst h2_); exact ⟨rfl,hτ⟩
  | t::r,τ,τ',ps,hτ,ht,h=>by
    refine xe1 (Option.bind_eq_some_iff.mp (show (τ.step t).bind _=_ from h)) fun q0_ r_=>aN r_ fun e1 e2=>?_
    obtain ⟨υ,p1⟩:=q0_
    refine bM e2 fun q0_ e3 e4=>?_
    obtain ⟨υ',p2⟩:=q0_
    (refine eJ e4 fun h1_ h2_=>?_; subst h1_; subst h2_)
    refine aN (zJ hσ hτ (ht t (.head _)) e1) fun g1 g2=>?_
    obtain ⟨g3,g4⟩:=jw hσ r g2 (fun x hx=>ht x (.tail _ hx)) e3
    refine ⟨?_,g4⟩
    show ((σ.join s τ).step (t.mv s)).bind _=_
    rw [g1]
    show ((σ.join s υ).steps (r.map (St.mv s))).map _=_
    rw [g3]; rfl
theorem uH {σ τ υ:Sto} {t:St} {r:List St} {ps qs:List V} (h:σ.step t=some (τ,ps)) (g:τ.steps r=some (υ,qs)):σ.steps (t::r)=some (υ,ps++qs):=by
  rw [Il,h]; show (τ.steps r).map _=_; rw [g]; rfl
theorem kx {sts r:List St}:∀ {σ τ υ:Sto} {ps qs:List V},σ.steps sts=some (τ,ps)→τ.steps r=some (υ,qs)→σ.steps (sts++r)=some (υ,ps++qs):=by
  induction sts with
  | nil=>intro σ τ υ ps qs h1 h2; (refine dx h1 fun h1_ h2_=>?_; subst h1_; subst h2_); exact h2
  | cons t l ih =>
    intro σ τ υ ps qs h1 h2
    refine xe1 (Option.bind_eq_some_iff.mp (show (σ.step t).bind _=_ from h1)) fun q0_ r_=>aN r_ fun e1 e2=>?_
    obtain ⟨ζ,p1⟩:=q0_
    refine bM e2 fun q0_ e3 e4=>?_
    obtain ⟨ζ',p2⟩:=q0_
    (refine eJ e4 fun h1_ h2_=>?_; subst h1_; subst h2_)
    have:=ih e3 h2
    show (σ.step t).bind _=_
    rw [e1]
    show (ζ.steps (l++r)).map _=_
    rw [this]
    simp
end Mine.Internal
namespace Mine.Internal
theorem sU {l x:Int} {v:V} (h:l ≠ x):∀ {ws:List (Int × V)},cM x (ci l v ws)=ci l v (cM x ws):=by
  intro ws
  have ha:(cM x ws).any (fun kv=>decide (kv.1=l))=ws.any (fun kv=>decide (kv.1=l)):=by
    rw [Bool.eq_iff_iff,List.any_eq_true,List.any_eq_true]
    unfold cM
    constructor
    · rintro ⟨kv,h1,h2⟩; exact ⟨kv,(List.mem_filter.mp h1).1,h2⟩
    · rintro ⟨kv,h1,h2⟩
      have:kv.1=l:=of_decide_eq_true h2
      exact ⟨kv,List.mem_filter.mpr ⟨h1,decide_eq_true (by exact Jw h this)⟩,h2⟩
  unfold ci
  rw [ha]
  split
  · unfold cM
    rw [List.filter_map]
    congr 1
    refine List.filter_congr fun kv Z=>?_
    show decide ((if kv.1=l then (kv.1,v) else kv).1 ≠ x)=decide (kv.1 ≠ x)
    split <;> rfl
  · unfold cM
    rw [List.filter_append]
    congr 1
    simp [h]
structure Done (τ:Sto) (r:V):Prop where
  res:τ.get 0=some r
  arg:1 ∈ τ.al
  al:∀ x ∈ τ.al,x=0∨x=1
  ws:∀ kv ∈ τ.ws,kv.1=0∨kv.1=1
theorem Ji {σ τ:Sto} {s:Int} {r:V} (hσ:Below σ s) (hd:Done τ r):cM s (cM (s+1) (σ.join s τ).ws)=σ.ws:=by
  unfold cM Sto.join
  dsimp only
  rw [List.filter_filter,List.filter_append,List.filter_eq_self.mpr fun kv hk=>?_,List.filter_eq_nil_iff.mpr fun kv hk=>?_,List.append_nil]
  · refine xe1 (List.mem_map.mp hk) fun kv' r_=>aN r_ fun h1 e2_=>?_
    subst e2_
    rcases hd.ws kv' h1 with h | h <;> simp [h] <;> omega
  · have:=hσ.ws kv hk
    simp; omega
theorem Hd {σ τ:Sto} {s:Int} {r:V} (hσ:Below σ s) (hd:Done τ r):((σ.join s τ).al.filter fun x=>x != s+1).filter (fun x=>x != s)=σ.al:=by
  unfold Sto.join
  dsimp only
  rw [List.filter_filter,List.filter_append,List.filter_eq_self.mpr fun x hk=>?_,List.filter_eq_nil_iff.mpr fun x hk=>?_,List.append_nil]
  · refine xe1 (List.mem_map.mp hk) fun x' r_=>aN r_ fun h1 e2_=>?_
    subst e2_
    rcases hd.al x' h1 with h | h <;> simp [h] <;> omega
  · have:=hσ.al x hk
    simp; omega
theorem zP {σ σ' τ:Sto} {s l:Int} {r:V} (hσ:Below σ s) (hn:NN τ) (hd:Done τ r) (hs:σ.set l none r=some σ'):(σ.join s τ).steps [.assign l none (.use (.move s)),.dead (s+1),.dead s]=some (σ',[]):=by
  unfold Sto.set at hs
  split at hs
  · rename_i hl
    (replace hs:=iS hs; subst hs)
    have hls:=hσ.al l hl
    have h0:=(qE hd.res).1
    have hv:(σ.join s τ).val (.move s)=some r:=by
      have:=l5 hσ hn hd.res
      rw [Int.zero_add] at this; exact this
    have hlm:l ∈ (σ.join s τ).al:=List.mem_append_left _ hl
    have h1m:s+1 ∈ (σ.join s τ).al:=List.mem_append_right _ (List.mem_map.mpr ⟨1,hd.arg,by exact Int.add_comm _ _⟩)
    have h0m:s ∈ (σ.join s τ).al.filter fun x=>x != s+1:=List.mem_filter.mpr ⟨List.mem_append_right _ (List.mem_map.mpr ⟨0,h0,by exact Int.zero_add _⟩),by simp; exact in1⟩
    have e1:(σ.join s τ).step (.assign l none (.use (.move s)))=some (⟨ci l r (σ.join s τ).ws,(σ.join s τ).al⟩,[]):=by
      show ((σ.join s τ).rv (.use (.move s))).bind _=_
      rw [show (σ.join s τ).rv (.use (.move s))=some r from hv]
      show ((σ.join s τ).set l none r).map _=_
      unfold Sto.set
      rw [if_pos hlm]; rfl
    have e2:(⟨ci l r (σ.join s τ).ws,(σ.join s τ).al⟩ : Sto).step (.dead (s+1))=some (⟨cM (s+1) (ci l r (σ.join s τ).ws),(σ.join s τ).al.filter fun x=>x != s+1⟩,[]):=if_pos h1m
    have e3:(⟨cM (s+1) (ci l r (σ.join s τ).ws),(σ.join s τ).al.filter fun x=>x != s+1⟩ : Sto).step (.dead s)=some (⟨ci l r σ.ws,σ.al⟩,[]):=by
      refine (if_pos h0m).trans ?_
      rw [Hd hσ hd,sU (by exact FD hls),sU (by exact inl hls),Ji hσ hd]
    exact uH e1 (uH e2 (uH e3 rfl))
  · exact nS hs
theorem ly {blks:List Blk} {k:Int} {b:Blk} (h:fC blks k=some b):0≤k∧blks[k.toNat]? = some b:=by
  unfold fC at h
  split at h
  · exact ⟨‹_›,h⟩
  · exact nS h
theorem oQ {blks:List Blk} {k:Nat}:fC blks (k:Int)=blks[k]? := by
  unfold fC; rw [if_pos (by exact iz _)]; simp
theorem oW {K BS:List Blk} {off:Nat} {f:Blk→Blk} (hBS:∀ i b,K[i]? = some b→BS[off+i]? = some (f b)) {k:Int} {b:Blk} (h:fC K k=some b):fC BS (k+off)=some (f b):=by
  refine aN (ly h) fun h1 h2=>?_
  have:=hBS _ _ h2
  unfold fC
  rw [if_pos (by exact Ju h1),show (k+off).toNat=off+k.toNat by omega,this]
theorem oA {σ τ:Sto} {s:Int} {N N':Nat} (h1:σ.ws.length+N≤N') (h2:σ.al.length+N≤N') (h3:τ.ws.length≤N) (h4:τ.al.length≤N):(σ.join s τ).ws.length≤N'∧(σ.join s τ).al.length≤N':=by
  unfold Sto.join
  simp; omega
theorem JE {P P':W→Option Bd} {N N' h h':Nat} {K BS:List Blk} {s l nx:Int} {off t':Nat} {σ σ' ζ:Sto} {r:V} {qs:List V}
    (hK:∀ b ∈ K,b.tm.isCall=false∧∀ t ∈ b.sts,cO t) (hBS:∀ i b,K[i]? = some b→BS[off+i]? = some (cF s off l nx b)) (hσ:Below σ s) (hw:σ.ws.length+N≤N') (ha:σ.al.length+N≤N') (hN:N+3≤N')
    (hs:σ.set l none r=some σ') (hend:Seg P' N' h' BS t' nx σ' qs ζ) {t:Nat} {k:Int} {τ0 τ1:Sto} {ps:List V} (H:Seg P N h K t k τ0 ps τ1):NN τ0→Done τ1 r→Seg P' N' h' BS (t+t') (k+off) (σ.join s τ0) (ps++qs) ζ:=by
  induction H with
  | ret hb h1 h2 h3 hst =>
    intro hn hd
    refine aN (oA hw ha h1 h2 (s:=s)) fun g1 g2=>?_
    have hm:=List.mem_of_getElem? (ly hb).2
    refine aN (jw hσ _ hn (hK _ hm).2 hst) fun e1 e2=>?_
    have e3:=kx e1 (zP hσ e2 hd hs)
    rw [List.append_nil] at e3
    rw [Nat.add_comm]
    exact .goto (oW hBS hb) g1 g2 (by simp; exact lk hN h3) e3 hend
  | goto hb h1 h2 h3 hst _ ih =>
    intro hn hd
    refine aN (oA hw ha h1 h2 (s:=s)) fun g1 g2=>?_
    have hm:=List.mem_of_getElem? (ly hb).2
    refine aN (jw hσ _ hn (hK _ hm).2 hst) fun e1 e2=>?_
    rw [List.append_assoc,Nat.add_right_comm]
    exact .goto (oW hBS hb) g1 g2 (by simp; exact ll hN h3) e1 (ih hK hBS e2 hd)
  | switch hb h1 h2 h3 hst ho _ ih =>
    intro hn hd
    refine aN (oA hw ha h1 h2 (s:=s)) fun g1 g2=>?_
    have hm:=List.mem_of_getElem? (ly hb).2
    refine aN (jw hσ _ hn (hK _ hm).2 hst) fun e1 e2=>?_
    rw [List.append_assoc,Nat.add_right_comm]
    refine .switch (oW hBS hb) g1 g2 (by simp; exact ll hN h3) e1 (gZ hσ e2 ho) ?_
    have:=ih hK hBS e2 hd
    split <;> rename_i hc
    · rw [if_pos hc] at this; exact this
    · rw [if_neg hc] at this; exact this
  | call hb h1 h2 h3 hst ho hw' hK' hKl hr ht hset _ ih =>
    have hm:=List.mem_of_getElem? (ly hb).2
    have:=(hK _ hm).1
    cases this
theorem C6 {σ:Sto} {s:Int} {ps:List V} {τ:Sto} {sts:List St} {o:Op} {x:V} {N N':Nat} (hst:σ.steps sts=some (τ,ps)) (ho:τ.val o=some x) (hτ:Below τ s):σ.steps (d5 s sts o)=some (τ.join s ⟨[(1,x)],[0,1]⟩,ps):=by
  have h0:s ∉ τ.al:=fun h=>by have:=hτ.al s h; omega
  have h1:s+1 ∉ τ.al++[s]:=fun h=>by
    rcases List.mem_append.mp h with h | h
    · have:=hτ.al _ h; omega
    · rw [List.mem_singleton] at h; omega
  have hm:s+1 ∈ (τ.al++[s])++[s+1]:=by simp
  have hv:∀ al,(∀ y ∈ τ.al,y ∈ al)→(⟨τ.ws,al⟩ : Sto).val o=some x:=fun al hal=>by
    have hg:∀ {l:Int} {v:V},τ.get l=some v→(⟨τ.ws,al⟩ : Sto).get l=some v:=fun {l v} h=>by
      refine aN (qE h) fun g1 g2=>?_
      unfold Sto.get
      rw [if_pos (hal _ g1)]; exact g2
    cases o with
    | const c=>exact ho
    | move l=>exact hg ho
    | copy l j =>
      cases j with
      | none=>exact hg ho
      | some j =>
        refine xe1 (Option.bind_eq_some_iff.mp (show (τ.get l).bind (fun v=>v.at_ j)=some x from ho)) fun w r_=>aN r_ fun e1 e2=>?_
        show ((⟨τ.ws,al⟩ : Sto).get l).bind (fun v=>v.at_ j)=some x
        rw [hg e1]; exact e2
  have e1:τ.step (.live s)=some (⟨τ.ws,τ.al++[s]⟩,[]):=if_neg h0
  have e2:(⟨τ.ws,τ.al++[s]⟩ : Sto).step (.live (s+1))=some (⟨τ.ws,(τ.al++[s])++[s+1]⟩,[]):=if_neg h1
  have e3:(⟨τ.ws,(τ.al++[s])++[s+1]⟩ : Sto).step (.assign (s+1) none (.use o))=some (τ.join s ⟨[(1,x)],[0,1]⟩,[]):=by
    show ((⟨τ.ws,(τ.al++[s])++[s+1]⟩ : Sto).val o).bind _=_
    rw [hv _ fun y hy=>by simp [hy]]
    show ((⟨τ.ws,(τ.al++[s])++[s+1]⟩ : Sto).set (s+1) none x).map _=_
    unfold Sto.set
    rw [if_pos hm]
    unfold ci Sto.join
    rw [if_neg]
    · simp [Int.add_comm]
    · rw [Bool.not_eq_true,List.any_eq_false]
      intro kv hk
      have:=hτ.ws kv hk
      simp; exact FD this
  have e4:τ.steps [.live s,.live (s+1),.assign (s+1) none (.use o)]=some (τ.join s ⟨[(1,x)],[0,1]⟩,[]):=by
    exact uH e1 (uH e2 (uH e3 rfl))
  have:=kx hst e4
  rw [List.append_nil] at this
  exact this
end Mine.Internal
namespace Mine.Internal
set_option genCtorIdx false in
set_option genInjectivity false in
structure Ca where
  rows:List St
  w:W
  o:Op
  l:Int
  j:Option Int
noncomputable def cX (k:Nat):List Ca→List St→List Blk
  | [],last=>[⟨last,.ret⟩]
  | c::cs,last=>⟨c.rows,.call c.w c.o c.l c.j ((k+1:Nat):Int)⟩::cX (k+1) cs last
theorem Js {k:Nat} {last:List St}:cX k [] last=[⟨last,.ret⟩]:=rfl
theorem By {k:Nat} {c:Ca} {cs:List Ca} {last:List St}:cX k (c::cs) last=⟨c.rows,.call c.w c.o c.l c.j ((k+1:Nat):Int)⟩::cX (k+1) cs last:=rfl
theorem hJ:∀ {cs:List Ca} {k:Nat} {last:List St},(cX k cs last).length=cs.length+1
  | [],_,_=>rfl
  | c::cs,k,last=>by rw [By,List.length_cons,hJ,List.length_cons]
set_option genCtorIdx false in
set_option genInjectivity false in
structure Out where
  mid:List Blk
  new:List Blk
  locs:List Dat
noncomputable def bZ (P:W→Option Bd) (c:Ca):Option Bd:=match c.j with
  | none=>P c.w
  | some _=>none
noncomputable def eY (P:W→Option Bd) (last:List St):Nat→Nat→Nat→List Ca→Out
  | n,s,k,[]=>⟨[⟨last,.ret⟩],[],[]⟩
  | n,s,k,c::cs=>match bZ P c with
    | some K =>
      let r:=eY P last (n+K.blks.length) (s+K.locs.length) (k+1) cs
      ⟨⟨d5 s c.rows c.o,.goto n⟩::r.mid,K.blks.map (cF s n c.l ((k+1:Nat):Int))++r.new,K.locs++r.locs⟩
    | none =>
      let r:=eY P last n s (k+1) cs
      ⟨⟨c.rows,.call c.w c.o c.l c.j ((k+1:Nat):Int)⟩::r.mid,r.new,r.locs⟩
theorem sq {P:W→Option Bd} {last:List St} {n s k:Nat}:eY P last n s k []=⟨[⟨last,.ret⟩],[],[]⟩:=rfl
theorem rr {P:W→Option Bd} {last:List St} {n s k:Nat} {c:Ca} {cs:List Ca}:eY P last n s k (c::cs)=match bZ P c with
    | some K =>
      let r:=eY P last (n+K.blks.length) (s+K.locs.length) (k+1) cs
      ⟨⟨d5 s c.rows c.o,.goto n⟩::r.mid,K.blks.map (cF s n c.l ((k+1:Nat):Int))++r.new,K.locs++r.locs⟩
    | none =>
      let r:=eY P last n s (k+1) cs
      ⟨⟨c.rows,.call c.w c.o c.l c.j ((k+1:Nat):Int)⟩::r.mid,r.new,r.locs⟩:=rfl
theorem JA {P:W→Option Bd} {last:List St} {n s k:Nat} {c:Ca} {cs:List Ca} (h:bZ P c=none):eY P last n s k (c::cs)=let r:=eY P last n s (k+1) cs
      ⟨⟨c.rows,.call c.w c.o c.l c.j ((k+1:Nat):Int)⟩::r.mid,r.new,r.locs⟩:=by rw [rr,h]
theorem JM {P:W→Option Bd} {last:List St} {n s k:Nat} {c:Ca} {cs:List Ca} {K:Bd} (h:bZ P c=some K):eY P last n s k (c::cs)=let r:=eY P last (n+K.blks.length) (s+K.locs.length) (k+1) cs
      ⟨⟨d5 s c.rows c.o,.goto n⟩::r.mid,K.blks.map (cF s n c.l ((k+1:Nat):Int))++r.new,K.locs++r.locs⟩:=by rw [rr,h]
theorem iM {P:W→Option Bd} {last:List St}:∀ {cs:List Ca} {n s k:Nat},(eY P last n s k cs).mid.length=cs.length+1
  | [],_,_,_=>rfl
  | c::cs,n,s,k=>by
    rw [rr]
    cases bZ P c with
    | none=>dsimp only; rw [List.length_cons,iM,List.length_cons]
    | some K=>dsimp only; rw [List.length_cons,iM,List.length_cons]
theorem mB {P:W→Option Bd} {last:List St}:∀ (cs:List Ca) (pre post:List Blk) (locs:List Dat),
    kB P (cX pre.length cs last) pre.length ⟨pre++cX pre.length cs last++post,locs⟩ =
      let r:=eY P last (pre.length+(cs.length+1)+post.length) locs.length pre.length cs
      ⟨pre++r.mid++(post++r.new),locs++r.locs⟩
  | [],pre,post,locs=>by
    simp [Js,ID,H1,sq,cJ]
  | c::cs,pre,post,locs=>by
    have ihn:=mB (P:=P) (last:=last) cs (pre++[⟨c.rows,.call c.w c.o c.l c.j ((pre.length+1:Nat):Int)⟩]) post locs
    rw [show (pre++[(⟨c.rows,.call c.w c.o c.l c.j ((pre.length+1:Nat):Int)⟩ : Blk)]).length=pre.length+1 by simp] at ihn
    rw [rr]; rw [By]
    rw [H1]
    cases hp:bZ P c with
    | none =>
      have hst:cJ P ⟨pre++(⟨c.rows,.call c.w c.o c.l c.j ((pre.length+1:Nat):Int)⟩::cX (pre.length+1) cs last)++post,locs⟩ pre.length ⟨c.rows,.call c.w c.o c.l c.j ((pre.length+1:Nat):Int)⟩=⟨pre++[⟨c.rows,.call c.w c.o c.l c.j ((pre.length+1:Nat):Int)⟩]++cX (pre.length+1) cs last++post,locs⟩:=by
        unfold cJ
        unfold bZ at hp
        cases hj:c.j with
        | none=>rw [hj] at hp; dsimp only at hp ⊢; rw [hp]; simp
        | some j=>dsimp only; simp
      rw [hst,ihn]
      dsimp only
      rw [show pre.length+1+(cs.length+1)+post.length=pre.length+((c::cs).length+1)+post.length by simp; exact ad1]
      simp
    | some K =>
      unfold bZ at hp
      cases hj:c.j with
      | some j=>rw [hj] at hp; exact nS hp
      | none =>
        rw [hj] at hp
        dsimp only at hp
        have ih:=mB (P:=P) (last:=last) cs (pre++[⟨d5 locs.length c.rows c.o,.goto ((pre.length+((c::cs).length+1)+post.length:Nat):Int)⟩]) (post++K.blks.map (cF locs.length ((pre.length+((c::cs).length+1)+post.length:Nat):Int) c.l ((pre.length+1:Nat):Int))) (locs++K.locs)
        rw [show (pre++[(⟨d5 locs.length c.rows c.o,.goto ((pre.length+((c::cs).length+1)+post.length:Nat):Int)⟩ : Blk)]).length=pre.length+1 by simp] at ih
        have hst:cJ P ⟨pre++(⟨c.rows,.call c.w c.o c.l none ((pre.length+1:Nat):Int)⟩::cX (pre.length+1) cs last)++post,locs⟩ pre.length ⟨c.rows,.call c.w c.o c.l none ((pre.length+1:Nat):Int)⟩ =
          ⟨pre++[⟨d5 locs.length c.rows c.o,.goto ((pre.length+((c::cs).length+1)+post.length:Nat):Int)⟩]++cX (pre.length+1) cs last++(post++K.blks.map (cF locs.length ((pre.length+((c::cs).length+1)+post.length:Nat):Int) c.l ((pre.length+1:Nat):Int))),locs++K.locs⟩:=by
          unfold cJ
          dsimp only
          rw [hp]
          have hlen:(pre++(⟨c.rows,.call c.w c.o c.l none ((pre.length+1:Nat):Int)⟩::cX (pre.length+1) cs last)++post).length=pre.length+((c::cs).length+1)+post.length:=by
            simp [hJ]; omega
          dsimp only
          rw [hlen]
          simp
        rw [hst,ih]
        dsimp only
        rw [show pre.length+1+(cs.length+1)+(post++K.blks.map (cF locs.length ((pre.length+((c::cs).length+1)+post.length:Nat):Int) c.l ((pre.length+1:Nat):Int))).length=pre.length+((c::cs).length+1)+post.length+K.blks.length by simp; omega,List.length_append]
        simp
inductive Lay (P:W→Option Bd) (BS:List Blk) (last:List St):Nat→List Ca→Prop
  | nil {k}:BS[k]? = some ⟨last,.ret⟩→Lay P BS last k []
  | keep {k c cs}:BS[k]? = some ⟨c.rows,.call c.w c.o c.l c.j ((k+1:Nat):Int)⟩→bZ P c=none→Lay P BS last (k+1) cs→Lay P BS last k (c::cs)
  | put {k c cs K} {s off:Nat}:bZ P c=some K→3≤s→BS[k]? = some ⟨d5 ((s:Nat):Int) c.rows c.o,.goto ((off:Nat):Int)⟩→(∀ i b,K.blks[i]? = some b→BS[off+i]? = some (cF s off c.l ((k+1:Nat):Int) b))→Lay P BS last (k+1) cs→Lay P BS last k (c::cs)
theorem qp {P:W→Option Bd} {last:List St} {BS:List Blk}:∀ (cs:List Ca) {n s k:Nat},3≤s→(∀ i b,(eY P last n s k cs).mid[i]? = some b→BS[k+i]? = some b)→(∀ i b,(eY P last n s k cs).new[i]? = some b→BS[n+i]? = some b)→Lay P BS last k cs
  | [],n,s,k,hs,h1,h2=>.nil (by have:=h1 0 ⟨last,.ret⟩ rfl; simpa using this)
  | c::cs,n,s,k,hs,h1,h2=>by
    cases hp:bZ P c with
    | none =>
      rw [JA hp] at h1 h2
      dsimp only at h1 h2
      refine .keep (by have:=h1 0 _ rfl; simpa using this) hp (qp cs hs (fun i b hb=>?_) h2)
      rw [show k+1+i=k+(i+1) by exact ad1]
      exact h1 (i+1) b (by simpa using hb)
    | some K =>
      rw [JM hp] at h1 h2
      dsimp only at h1 h2
      refine .put (off:=n) hp hs (by have:=h1 0 _ rfl; simpa using this) (fun i b hb=>?_) (qp cs (n:=n+K.blks.length) (s:=s+K.locs.length) (by exact ls hs) (fun i b hb=>?_) fun i b hb=>?_)
      · refine h2 i _ ?_
        rw [List.getElem?_append_left (by rw [List.length_map]; exact (List.getElem?_eq_some_iff.mp hb).1),List.getElem?_map,hb]; rfl
      · rw [show k+1+i=k+(i+1) by exact ad1]
        exact h1 (i+1) b (by simpa using hb)
      · rw [show n+K.blks.length+i=n+(K.blks.length+i) by exact Nat.add_assoc _ _ _]
        refine h2 _ b ?_
        rw [List.getElem?_append_right (by rw [List.length_map]; exact Nat.le_add_right _ _),List.length_map,show K.blks.length+i - K.blks.length=i by exact Nat.add_sub_cancel_left _ _]
        exact hb
theorem mM {last:List St} {BS:List Blk}:∀ (cs:List Ca) {k:Nat},(∀ i b,(cX k cs last)[i]? = some b→BS[k+i]? = some b)→Lay (fun Z=>none) BS last k cs
  | [],k,h1=>.nil (by have:=h1 0 ⟨last,.ret⟩ rfl; simpa using this)
  | c::cs,k,h1=>by
    rw [By] at h1
    refine .keep (by have:=h1 0 _ rfl; simpa using this) (by unfold bZ; cases c.j <;> rfl) (mM cs fun i b hb=>?_)
    rw [show k+1+i=k+(i+1) by exact ad1]
    exact h1 (i+1) b (by simpa using hb)
theorem gF {P:W→Option Bd} {last:List St} {B:Bd} {cs:List Ca} (hB:B.blks=cX 0 cs last):(B.inl P).blks=(eY P last (cs.length+1) B.locs.length 0 cs).mid++(eY P last (cs.length+1) B.locs.length 0 cs).new∧(B.inl P).locs=B.locs++(eY P last (cs.length+1) B.locs.length 0 cs).locs:=by
  have:=mB (P:=P) (last:=last) cs [] [] B.locs
  simp at this
  unfold Bd.inl
  rw [hB]
  simp [this]
theorem qu {P:W→Option Bd} {last:List St} {B:Bd} {cs:List Ca} (hB:B.blks=cX 0 cs last) (hs:3≤B.locs.length):Lay P (B.inl P).blks last 0 cs:=by
  rw [(gF hB).1]
  refine qp cs (n:=cs.length+1) (s:=B.locs.length) hs (fun i b hb=>?_) fun i b hb=>?_
  · rw [Nat.zero_add,List.getElem?_append_left (List.getElem?_eq_some_iff.mp hb).1]; exact hb
  · rw [List.getElem?_append_right (by rw [iM]; exact Nat.le_add_right _ _),iM,show cs.length+1+i - (cs.length+1)=i by exact Nat.add_sub_cancel_left _ _]; exact hb
inductive Den (F:W→Int→List V→Int→Prop) (N:Nat) (last:List St):List Ca→Sto→List V→Sto→Prop
  | nil {σ τ ps}:σ.ws.length≤N→σ.al.length≤N→last.length≤N→σ.steps last=some (τ,ps)→Den F N last [] σ ps τ
  | cons {c cs σ τ υ ζ ps x qs r rs}:σ.ws.length≤N→σ.al.length≤N→c.rows.length≤N→σ.steps c.rows=some (τ,ps)→Below τ 3→τ.ws.length≤N→τ.al.length≤N→τ.val c.o=some (.i x)→F c.w x qs r→τ.set c.l c.j (.i r)=some υ→Den F N last cs υ rs ζ→Den F N last (c::cs) σ (ps++(qs++rs)) ζ
noncomputable def xy (F:Int→List V→Int→Prop) (N T:Nat) (K:Bd):Prop:=(∀ b ∈ K.blks,b.tm.isCall=false∧∀ t ∈ b.sts,cO t)∧∀ x ps r,F x ps r→∃ t τ P h,t≤T∧Seg P N h K.blks t 0 ⟨[(1,.i x)],[0,1]⟩ ps τ∧Done τ (.i r)
noncomputable def ld (P:W→Option Bd) (h:Nat) (F:Int→List V→Int→Prop) (K:Bd):Prop:=K.argc=1∧K.blks.length≤100∧∀ x ps r,F x ps r→∃ t,t≤60∧Run P h K.blks t 0 ⟨[(1,.i x)],[0,1]⟩ ps (.i r)
theorem xw {σ:Sto} {s s':Int} (h:Below σ s) (hs:s≤s'):Below σ s':=⟨fun x hx=>by have:=h.al x hx; exact Int.le_trans this hs,fun x hx=>by have:=h.ws x hx; exact Int.le_trans this hs⟩
theorem Jc {x:V}:NN ⟨[(1,x)],[0,1]⟩:=fun y hy=>by
  have:y=0∨y=1:=by simpa using hy
  omega
theorem lM {P P':W→Option Bd} {last:List St} {BS:List Blk} {F:W→Int→List V→Int→Prop} {N N1 N' h T:Nat} (hN:N+N1≤N') (hN3:N1+3≤N') (hN5:N+3≤N')
    (hin:∀ c K,bZ P c=some K→xy (F c.w) N1 T K) {k:Nat} {cs:List Ca} (L:Lay P BS last k cs):∀ {σ ζ:Sto} {ps:List V},(∀ c ∈ cs,bZ P c=none→∃ K,P' c.w=some K∧ld P' h (F c.w) K)→Den F N last cs σ ps ζ →
    ∃ t,t≤1+cs.length * (1+T)∧Seg P' N' (h+1) BS t k σ ps ζ:=by
  induction L with
  | nil hb =>
    intro σ ζ ps hrun D
    cases D with
    | nil h1 h2 h3 hst=>exact ⟨1,by simp,.ret (by rw [oQ]; exact hb) (by exact ll hN h1) (by exact ll hN h2) (by exact ll hN h3) hst⟩
  | @keep k c cs hb hp _ ih =>
    intro σ ζ ps hrun D
    cases D with
    | cons h1 h2 h3 hst hlow h4 h5 ho hF hset D =>
      obtain ⟨t,ht,S⟩:=ih (fun c hc=>hrun c (.tail _ hc)) D
      obtain ⟨K,hK,k1,k2,k3⟩:=hrun c (.head _) hp
      obtain ⟨t',ht',R⟩:=k3 _ _ _ hF
      refine ⟨t+1,?_,.call (by rw [oQ]; exact hb) (by exact ll hN h1) (by exact ll hN h2) (by exact ll hN h3) hst ho hK k1 k2 R ht' hset S⟩
      rw [List.length_cons,Nat.succ_mul]; omega
  | @put k c cs K s off hp hs hb hK _ ih =>
    intro σ ζ ps hrun D
    cases D with
    | @cons _ _ _ τ υ _ _ x _ r _ h1 h2 h3 hst hlow h4 h5 ho hF hset D =>
      obtain ⟨t,ht,S⟩:=ih (fun c hc=>hrun c (.tail _ hc)) D
      obtain ⟨k1,k2⟩:=hin c K hp
      obtain ⟨t',τ1,_,_,ht',R,hd⟩:=k2 _ _ _ hF
      have hcj:c.j=none:=by
        unfold bZ at hp
        cases hj:c.j with
        | none=>rfl
        | some j=>rw [hj] at hp; exact nS hp
      rw [hcj] at hset
      have hlow':Below τ s:=xw hlow (by exact H9 hs)
      have B:=JE k1 hK hlow' (N':=N') (by exact lk hN h4) (by exact lk hN h5) hN3 hset S R Jc hd
      refine ⟨t'+t+1,?_,.goto (by rw [oQ]; exact hb) (by exact ll hN h1) (by exact ll hN h2) (by simp [d5]; exact lk hN5 h3) (C6 (N:=0) (N':=0) hst ho hlow') (by rw [Int.zero_add] at B; exact B)⟩
      rw [List.length_cons,Nat.succ_mul]; omega
end Mine.Internal
namespace Mine.Internal
noncomputable def aa:Dat:=.tup [dh,.bool true,.none]
noncomputable def hG:Dat:=.tup [.tup [.str .tuple_,.tup [dh,dh]],.bool true,.none]
set_option genCtorIdx false in
set_option genInjectivity false in
structure HD where
  c0:Int
  ops:List (W × Int)
  tw:Option Int
structure HD.OK (d:HD):Prop where
  len:d.ops.length≤2
  ops:∀ p ∈ d.ops,p.1=.plus_∨p.1=.xor_∨p.1=.lt_
noncomputable def D9 (p:W × Int):St:=.assign 2 none (.bin p.1 (.copy 2 none) (.const p.2))
noncomputable def bS (d:HD):List St:=.live 2::.assign 2 none (.bin .plus_ (.copy 1 none) (.const d.c0))::d.ops.map D9
noncomputable def fE:List St:=[.assign 0 none (.use (.copy 2 none)),.dead 2]
noncomputable def ia:List St:=[.print (.copy 2 none),.assign 0 none (.use (.const 7)),.dead 2]
noncomputable def fh (d:HD):List Blk:=match d.tw with
  | none=>[⟨bS d++fE,.ret⟩]
  | some v=>[⟨bS d,.switch (.copy 1 none) v 1 2⟩,⟨fE,.ret⟩,⟨ia,.ret⟩]
noncomputable def au (d:HD):Bd:=⟨.h_,1,[aa,aa,aa],fh d⟩
noncomputable def Fp (y:Int) (p:W × Int):Int:=((D6 p.1 y p.2).getD 0).fmod 256
noncomputable def oq (d:HD) (x:Int):Int:=d.ops.foldl Fp ((x+d.c0).fmod 256)
noncomputable def HR (d:HD) (x:Int) (ps:List V) (r:Int):Prop:=match d.tw with
  | none=>ps=[]∧r=oq d x
  | some v=>if v=x then ps=[]∧r=oq d x else ps=[.i (oq d x)]∧r=7
theorem oZ (d:HD) (x:Int):∃ ps r,HR d x ps r∧ps.length≤1:=by
  unfold HR
  cases d.tw with
  | none=>exact ⟨[],_,⟨rfl,rfl⟩,by simp⟩
  | some v =>
    dsimp only
    by_cases h:v=x
    · exact ⟨[],oq d x,by rw [if_pos h]; exact ⟨rfl,rfl⟩,by simp⟩
    · exact ⟨[.i (oq d x)],7,by rw [if_neg h]; exact ⟨rfl,rfl⟩,by simp⟩
theorem rn {x:Int}:∀ (ops:List (W × Int)) (y:Int),(∀ p ∈ ops,p.1=.plus_∨p.1=.xor_∨p.1=.lt_) →
    (⟨[(1,.i x),(2,.i y)],[0,1,2]⟩ : Sto).steps (ops.map D9)=some (⟨[(1,.i x),(2,.i (ops.foldl Fp y))],[0,1,2]⟩,[])
  | [],y,h=>rfl
  | (w,c)::r,y,h=>by
    have e1:(⟨[(1,.i x),(2,.i y)],[0,1,2]⟩ : Sto).step (D9 (w,c))=some (⟨[(1,.i x),(2,.i (Fp y (w,c)))],[0,1,2]⟩,[]):=by
      rcases h (w,c) (.head _) with h | h | h <;> (dsimp only at h; subst h; rfl)
    rw [List.map_cons,Il,e1]
    unfold Option.bind
    dsimp only
    rw [rn r _ fun p hp=>h p (.tail _ hp)]
    rfl
theorem k6 {d:HD} (h:d.OK) (x:Int):(⟨[(1,.i x)],[0,1]⟩ : Sto).steps (bS d)=some (⟨[(1,.i x),(2,.i (oq d x))],[0,1,2]⟩,[]):=by
  have e1:(⟨[(1,.i x)],[0,1]⟩ : Sto).steps [.live 2,.assign 2 none (.bin .plus_ (.copy 1 none) (.const d.c0))]=some (⟨[(1,.i x),(2,.i ((x+d.c0).fmod 256))],[0,1,2]⟩,[]):=rfl
  exact kx e1 (rn d.ops _ h.ops)
theorem n6 {x y:Int}:(⟨[(1,.i x),(2,.i y)],[0,1,2]⟩ : Sto).steps fE=some (⟨[(1,.i x),(0,.i y)],[0,1]⟩,[]):=rfl
theorem s8 {x y:Int}:(⟨[(1,.i x),(2,.i y)],[0,1,2]⟩ : Sto).steps ia=some (⟨[(1,.i x),(0,.i 7)],[0,1]⟩,[.i y]):=rfl
theorem qM {x r:Int}:Done ⟨[(1,.i x),(0,.i r)],[0,1]⟩ (.i r):=⟨rfl,by simp,by simp,by simp⟩
theorem kP {d:HD} (h:d.OK):(bS d).length≤4:=by
  have:=h.len
  unfold bS; simp; exact this
theorem xr {P:W→Option Bd} {h:Nat} {d:HD} (hd:d.OK) {x r:Int} {ps:List V} (H:HR d x ps r):∃ t,t≤2∧Seg P 10 h (fh d) t 0 ⟨[(1,.i x)],[0,1]⟩ ps ⟨[(1,.i x),(0,.i r)],[0,1]⟩:=by
  have hl:=kP hd
  unfold HR at H
  unfold fh
  cases htw:d.tw with
  | none =>
    rw [htw] at H
    obtain ⟨rfl,rfl⟩:=H
    exact ⟨1,by exact Nat.le_add_left _ _,.ret rfl (by simp) (by simp) (by simp [fE]; exact lb hl rfl) (kx (k6 hd x) n6)⟩
  | some v =>
    rw [htw] at H
    dsimp only at H
    refine ⟨2,by exact Nat.le_add_left _ _,?_⟩
    by_cases hv:v=x
    · rw [if_pos hv] at H
      obtain ⟨rfl,rfl⟩:=H
      refine .switch (t:=1) (ps:=[]) (qs:=[]) (x:=x) rfl (by simp) (by simp) (by exact lb hl rfl) (k6 hd x) rfl ?_
      rw [if_pos hv]
      exact .ret rfl (by simp) (by simp) (by simp [fE]) n6
    · rw [if_neg hv] at H
      obtain ⟨rfl,rfl⟩:=H
      refine .switch (t:=1) (ps:=[]) (qs:=[.i (oq d x)]) (x:=x) rfl (by simp) (by simp) (by exact lb hl rfl) (k6 hd x) rfl ?_
      rw [if_neg hv]
      exact .ret rfl (by simp) (by simp) (by simp [ia]) s8
theorem ml (d:HD):∀ b ∈ fh d,b.tm.isCall=false:=by
  unfold fh
  cases d.tw <;> simp [B9,H0,Ie,Iq]
theorem pw {d:HD}:∀ t ∈ bS d,cO t:=by
  unfold bS
  intro t ht
  rcases List.mem_cons.mp ht with rfl | ht
  · show (0:Int)≤2; decide
  · rcases List.mem_cons.mp ht with rfl | ht
    · exact trivial
    · refine xe1 (List.mem_map.mp ht) fun p r_=>aN r_ fun Z e2_=>?_
      subst e2_
      exact trivial
theorem sQ (d:HD):∀ b ∈ fh d,∀ t ∈ b.sts,cO t:=by
  unfold fh
  cases d.tw with
  | none =>
    intro b hb t ht
    rw [List.mem_singleton] at hb; subst hb
    rcases List.mem_append.mp ht with ht | ht
    · exact pw t ht
    · have:t=.assign 0 none (.use (.copy 2 none))∨t=.dead 2:=by simpa [fE] using ht
      rcases this with rfl | rfl <;> exact trivial
  | some v =>
    intro b hb t ht
    have hb:b=⟨bS d,.switch (.copy 1 none) v 1 2⟩∨b=⟨fE,.ret⟩∨b=⟨ia,.ret⟩:=by simpa using hb
    rcases hb with rfl | rfl | rfl
    · exact pw t ht
    · have:t=.assign 0 none (.use (.copy 2 none))∨t=.dead 2:=by simpa [fE] using ht
      rcases this with rfl | rfl <;> exact trivial
    · have:t=.print (.copy 2 none)∨t=.assign 0 none (.use (.const 7))∨t=.dead 2:=by simpa [ia] using ht
      rcases this with rfl | rfl | rfl <;> exact trivial
theorem xp {d:HD} (hd:d.OK):∀ b ∈ fh d,b.sts.length≤6:=by
  have hl:=kP hd
  unfold fh
  cases d.tw <;> simp [fE,ia] <;> omega
theorem mz {d:HD}:(fh d).length≤3:=by unfold fh; cases d.tw <;> simp
theorem wG {d:HD} (hd:d.OK):iJ (fh d)≤12:=by
  have hl:=kP hd
  unfold fh
  cases d.tw <;> simp [uP,vc,fE,ia] <;> omega
theorem wJ {d:HD} (hd:d.OK):xy (HR d) 10 2 (au d) :=
  ⟨fun b hb=>⟨ml d b hb,sQ d b hb⟩,fun x ps r H=>by
    refine xe1 (xr (P:=fun Z=>none) (h:=0) hd H) fun t r_=>aN r_ fun ht S=>?_
    exact ⟨t,_,_,_,ht,S,qM⟩⟩
theorem zB {P:W→Option Bd} {h:Nat} {d:HD} (hd:d.OK):ld P h (HR d) (au d) :=
  ⟨rfl,Nat.le_trans mz (by decide),fun x ps r H=>by
    refine xe1 (xr (P:=P) (h:=h) hd H) fun t r_=>aN r_ fun ht S=>?_
    exact ⟨t,by exact lb r_.1 rfl,S.run (by decide) rfl⟩⟩
noncomputable def fL (two:Bool):List Ca:=⟨[.live 2],.h_,.copy 1 none,2,none⟩::if two then [⟨[.assign 2 none (.bin .plus_ (.copy 2 none) (.copy 1 none))],.h_,.copy 2 none,2,none⟩] else []
noncomputable def gLast:List St:=[.assign 0 none (.bin .xor_ (.copy 2 none) (.copy 1 none)),.dead 2]
noncomputable def ba (two:Bool):Bd:=⟨.g_,1,[aa,aa,aa],cX 0 (fL two) gLast⟩
noncomputable def GR (d:HD) (two:Bool) (x:Int) (ps:List V) (r:Int):Prop:=ps.length≤2∧Den (fun Z=>HR d) 10 gLast (fL two) ⟨[(1,.i x)],[0,1]⟩ ps ⟨[(1,.i x),(0,.i r)],[0,1]⟩
theorem pK {σ:Sto} (h1:∀ x ∈ σ.al,x < 3) (h2:∀ kv ∈ σ.ws,kv.1 < 3):Below σ 3:=⟨h1,h2⟩
theorem Aq (d:HD) (two:Bool) (x:Int):∃ ps r,GR d two x ps r:=by
  refine xe2 (oZ d x) fun ps r r_=>aN r_ fun H hl=>?_
  have hend:∀ r:Int,(⟨[(1,.i x),(2,.i r)],[0,1,2]⟩ : Sto).steps gLast=some (⟨[(1,.i x),(0,.i ((PySem.Builtin.bitXor r x).fmod 256))],[0,1]⟩,[]):=fun r=>rfl
  cases two with
  | false =>
    refine ⟨[]++(ps++[]),_,by simp; exact lb r_.2 rfl,.cons (τ:=⟨[(1,.i x)],[0,1,2]⟩) (by simp) (by simp) (by simp) rfl (pK (by simp) (by simp)) (by simp) (by simp) rfl H rfl (.nil (by simp [ci]) (by simp) (by simp [gLast]) (hend r))⟩
  | true =>
    refine xe2 (oZ d ((r+x).fmod 256)) fun qs r' r_=>aN r_ fun H' hl'=>?_
    refine ⟨[]++(ps++([]++(qs++[]))),_,by simp; exact lm hl r_.2 rfl,.cons (τ:=⟨[(1,.i x)],[0,1,2]⟩) (by simp) (by simp) (by simp) rfl (pK (by simp) (by simp)) (by simp) (by simp) rfl H rfl (.cons (τ:=⟨[(1,.i x),(2,.i ((r+x).fmod 256))],[0,1,2]⟩) (by simp [ci]) (by simp) (by simp) rfl (pK (by simp) (by simp)) (by simp) (by simp) rfl H' rfl (.nil (by simp [ci]) (by simp) (by simp [gLast]) (hend r')))⟩
theorem jW {two:Bool}:(fL two).length≤2:=by cases two <;> simp [fL]
theorem sr {two:Bool}:∀ c ∈ fL two,c.w=.h_∧c.j=none∧c.rows.length=1:=by cases two <;> simp [fL]
theorem yO {P:W→Option Bd} {h:Nat} {d:HD} {two:Bool} (hd:d.OK) (hP:P .h_=some (au d)):ld P (h+1) (GR d two) (ba two):=by
  have hl:=jW (two:=two)
  refine ⟨rfl,by show (cX 0 (fL two) gLast).length≤100; rw [hJ]; exact la hl rfl,fun x ps r H=>?_⟩
  have L:Lay (fun Z=>none) (cX 0 (fL two) gLast) gLast 0 (fL two):=mM _ fun i b hb=>by rw [Nat.zero_add]; exact hb
  obtain ⟨t,ht,S⟩:=lM (P':=P) (F:=fun Z=>HR d) (N:=10) (N1:=10) (N':=20) (h:=h) (T:=0) (by decide) (by decide) (by decide) (fun c K hp=>by unfold bZ at hp; cases hj:c.j <;> rw [hj] at hp <;> exact nS hp) L (fun c hc Z=>⟨au d,by rw [(sr c hc).1]; exact hP,zB hd⟩) H.2
  exact ⟨t,by omega,S.run (by decide) rfl⟩
noncomputable def Ph (d:HD):W→Option Bd:=fun w=>if w=.h_ then some (au d) else none
noncomputable def bp (d:HD) (two:Bool):Bd:=(ba two).inl (Ph d)
theorem G0 (d:HD) (two:Bool):Lay (Ph d) (bp d two).blks gLast 0 (fL two):=qu (B:=ba two) rfl (by show 3≤3; decide)
theorem yw {d:HD} {two:Bool}:∀ c ∈ fL two,bZ (Ph d) c=some (au d):=fun c hc=>by
  refine gD (sr c hc) fun h1 h2 Z=>?_
  unfold bZ Ph
  rw [h2,h1]; rfl
theorem BI {P:W→Option Bd} {h:Nat} {d:HD} {two:Bool} (hd:d.OK) {x r:Int} {ps:List V} (H:GR d two x ps r):∃ t,t≤7∧Seg P 20 (h+1) (bp d two).blks t 0 ⟨[(1,.i x)],[0,1]⟩ ps ⟨[(1,.i x),(0,.i r)],[0,1]⟩:=by
  have hl:=jW (two:=two)
  obtain ⟨t,ht,S⟩:=lM (P':=P) (F:=fun Z=>HR d) (N:=10) (N1:=10) (N':=20) (h:=h) (T:=2) (by decide) (by decide) (by decide) (fun c K hp=>by
    unfold bZ at hp
    cases hj:c.j <;> rw [hj] at hp
    · dsimp only [Ph] at hp
      split at hp <;> cases hp
      exact wJ hd
    · exact nS hp) (G0 d two) (fun c hc hp=>by rw [yw c hc] at hp; exact nS hp.symm) H.2
  exact ⟨t,by have:=Nat.mul_le_mul_right (1+2) hl; omega,S⟩
structure Fine (M:Nat) (l:List Blk):Prop where
  nc:∀ b ∈ l,b.tm.isCall=false
  lv:∀ b ∈ l,∀ t ∈ b.sts,cO t
  len:∀ b ∈ l,b.sts.length≤M
theorem CJ {s:Int} (hs:0≤s) {t:St} (h:cO t):cO (t.mv s):=by
  cases t with
  | live l=>have:0≤l:=h; show 0≤l+s; exact inr hs this
  | _=>trivial
theorem v9 {s off l nx:Int} (hs:0≤s) {b:Blk} (h1:b.tm.isCall=false) (h2:∀ t ∈ b.sts,cO t):(cF s off l nx b).tm.isCall=false∧(∀ t ∈ (cF s off l nx b).sts,cO t)∧(cF s off l nx b).sts.length≤b.sts.length+3:=by
  have hm:∀ t ∈ b.sts.map (St.mv s),cO t:=fun t ht=>by
    refine xe1 (List.mem_map.mp ht) fun t' r_=>aN r_ fun h e2_=>?_
    subst e2_
    exact CJ hs (h2 t' h)
  unfold cF
  cases hb:b.tm with
  | ret =>
    refine ⟨rfl,fun t ht=>?_,by simp⟩
    rcases List.mem_append.mp ht with ht | ht
    · exact hm t ht
    · have:t=.assign l none (.use (.move s))∨t=.dead (s+1)∨t=.dead s:=by simpa using ht
      rcases this with rfl | rfl | rfl <;> exact trivial
  | goto n=>exact ⟨rfl,hm,by simp⟩
  | switch o v a b=>exact ⟨rfl,hm,by simp⟩
  | call w o l j n=>rw [hb] at h1; cases h1
theorem l8 {P:W→Option Bd} {last:List St} {M:Nat} (hP:∀ c K,bZ P c=some K→Fine M K.blks) (hl:last.length≤M+3∧∀ t ∈ last,cO t):∀ (cs:List Ca) {n s k:Nat},(∀ c ∈ cs,c.rows.length≤M∧∀ t ∈ c.rows,cO t) →
    Fine (M+3) (eY P last n s k cs).new∧((∀ c ∈ cs,bZ P c ≠ none)→Fine (M+3) (eY P last n s k cs).mid)
  | [],n,s,k,h=>⟨⟨by simp [sq],by simp [sq],by simp [sq]⟩,fun Z=>⟨by simp [sq,B9],fun b hb=>by
      have hb:b=⟨last,.ret⟩:=by simpa [sq] using hb
      subst hb; exact hl.2,fun b hb=>by
      have hb:b=⟨last,.ret⟩:=by simpa [sq] using hb
      subst hb; exact hl.1⟩⟩
  | c::cs,n,s,k,h=>by
    rw [rr]
    obtain ⟨c1,c2⟩:=h c (.head _)
    cases hp:bZ P c with
    | none =>
      dsimp only
      exact ⟨(l8 hP hl cs fun c hc=>h c (.tail _ hc)).1,fun hn=>absurd hp (hn c (.head _))⟩
    | some K =>
      dsimp only
      obtain ⟨i1,i2⟩:=l8 hP hl cs (n:=n+K.blks.length) (s:=s+K.locs.length) (k:=k+1) fun c hc=>h c (.tail _ hc)
      have hK:=hP c K hp
      have hm:∀ b ∈ K.blks.map (cF s n c.l ((k+1:Nat):Int)),b.tm.isCall=false∧(∀ t ∈ b.sts,cO t)∧b.sts.length≤M+3:=fun b hb=>by
        refine xe1 (List.mem_map.mp hb) fun b' r_=>aN r_ fun hb' e2_=>?_
        subst e2_
        refine gD (v9 (s:=s) (off:=n) (l:=c.l) (nx:=((k+1:Nat):Int)) (by exact iz _) (hK.nc b' hb') (hK.lv b' hb')) fun g1 g2 g3=>?_
        have:=hK.len b' hb'
        exact ⟨g1,g2,by omega⟩
      refine ⟨⟨fun b hb=>?_,fun b hb=>?_,fun b hb=>?_⟩,fun hn=>?_⟩
      · rcases List.mem_append.mp hb with hb | hb
        · exact (hm b hb).1
        · exact i1.nc b hb
      · rcases List.mem_append.mp hb with hb | hb
        · exact (hm b hb).2.1
        · exact i1.lv b hb
      · rcases List.mem_append.mp hb with hb | hb
        · exact (hm b hb).2.2
        · exact i1.len b hb
      · have i3:=i2 fun c hc=>hn c (.tail _ hc)
        have hbeg:∀ t ∈ d5 s c.rows c.o,cO t:=fun t ht=>by
          rcases List.mem_append.mp ht with ht | ht
          · exact c2 t ht
          · have:t=.live s∨t=.live (s+1)∨t=.assign (s+1) none (.use c.o):=by simpa using ht
            rcases this with rfl | rfl | rfl
            · show (0:Int)≤s; exact iz _
            · show (0:Int)≤s+1; exact iz _
            · trivial
        refine ⟨fun b hb=>?_,fun b hb=>?_,fun b hb=>?_⟩
        · rcases List.mem_cons.mp hb with rfl | hb
          · rfl
          · exact i3.nc b hb
        · rcases List.mem_cons.mp hb with rfl | hb
          · exact hbeg
          · exact i3.lv b hb
        · rcases List.mem_cons.mp hb with rfl | hb
          · show (d5 s c.rows c.o).length≤M+3
            unfold d5; simp; exact c1
          · exact i3.len b hb
end Mine.Internal
namespace Mine.Internal
theorem F3 {d:HD} (hd:d.OK):Fine 6 (fh d):=⟨ml d,sQ d,xp hd⟩
theorem ut {two:Bool}:∀ c ∈ fL two,c.rows.length≤6∧∀ t ∈ c.rows,cO t:=by
  cases two <;> simp [fL,Cj,Bt,yg,Cp]
theorem vM:gLast.length≤6+3∧∀ t ∈ gLast,cO t:=by simp [gLast,Cj,Bt,yg,Cp]
noncomputable def k7 (l:List Nat):Nat:=l.foldr (· + ·) 0
theorem lN {P:W→Option Bd} {last:List St}:∀ {cs:List Ca} {n s k:Nat},(eY P last n s k cs).new.length=k7 ((cs.filterMap (bZ P)).map fun K=>K.blks.length)
  | [],_,_,_=>rfl
  | c::cs,n,s,k=>by
    rw [rr]
    rw [List.filterMap_cons]
    cases bZ P c with
    | none=>exact lN
    | some K=>dsimp only; rw [List.length_append,List.length_map,lN]; rfl
theorem jV {P:W→Option Bd} {last:List St}:∀ {cs:List Ca} {n s k:Nat},(eY P last n s k cs).locs.length=k7 ((cs.filterMap (bZ P)).map fun K=>K.locs.length)
  | [],_,_,_=>rfl
  | c::cs,n,s,k=>by
    rw [rr]
    rw [List.filterMap_cons]
    cases bZ P c with
    | none=>exact jV
    | some K=>dsimp only; rw [List.length_append,jV]; rfl
noncomputable def Blk.callee (b:Blk):Option W:=match b.tm with
  | .call w .. => some w
  | _=>none
noncomputable def cz (l:List Blk):List W:=l.filterMap Blk.callee
theorem ux {b:Blk} (h:b.tm.isCall=false):b.callee=none:=by
  unfold Blk.callee
  cases hb:b.tm with
  | call w o l j n=>rw [hb] at h; cases h
  | _=>rfl
theorem n4 {l:List Blk} (h:∀ b ∈ l,b.tm.isCall=false):cz l=[]:=by
  unfold cz
  rw [List.filterMap_eq_nil_iff]
  exact fun b hb=>ux (h b hb)
theorem mY {P:W→Option Bd} {last:List St}:∀ {cs:List Ca} {n s k:Nat},cz (eY P last n s k cs).mid=(cs.filter fun c=>(bZ P c).isNone).map (·.w)
  | [],_,_,_=>rfl
  | c::cs,n,s,k=>by
    rw [rr]
    rw [List.filter_cons]
    cases bZ P c with
    | none =>
      dsimp only
      unfold cz
      rw [List.filterMap_cons]
      have ih:=mY (P:=P) (last:=last) (cs:=cs) (n:=n) (s:=s) (k:=k+1)
      unfold cz at ih
      simp [Blk.callee,ih]
    | some K =>
      dsimp only
      unfold cz
      rw [List.filterMap_cons]
      have ih:=mY (P:=P) (last:=last) (cs:=cs) (n:=n+K.blks.length) (s:=s+K.locs.length) (k:=k+1)
      unfold cz at ih
      simp [Blk.callee,ih]
theorem vi {d:HD} (hd:d.OK):∀ c K,bZ (Ph d) c=some K→Fine 6 K.blks:=fun c K hp=>by
  unfold bZ at hp
  cases hj:c.j <;> rw [hj] at hp
  · dsimp only [Ph] at hp
    split at hp <;> cases hp
    exact F3 hd
  · exact nS hp
theorem An {M:Nat} {a b:List Blk} (h1:Fine M a) (h2:Fine M b):Fine M (a++b) :=
  ⟨fun x hx=>(List.mem_append.mp hx).elim (h1.nc x) (h2.nc x),fun x hx=>(List.mem_append.mp hx).elim (h1.lv x) (h2.lv x),fun x hx=>(List.mem_append.mp hx).elim (h1.len x) (h2.len x)⟩
theorem j9 {d:HD} {two:Bool} (hd:d.OK):Fine 9 (bp d two).blks:=by
  unfold bp
  rw [(gF (B:=ba two) (P:=Ph d) rfl).1]
  refine aN (l8 (M:=6) (P:=Ph d) (last:=gLast) (vi hd) vM (fL two) (n:=(fL two).length+1) (s:=(ba two).locs.length) (k:=0) ut) fun i1 i2=>?_
  exact An (i2 fun c hc=>by rw [yw c hc]; simp) i1
theorem jQ {P:W→Option Bd} {f:Bd→Nat} {m:Nat} (h:∀ c K,bZ P c=some K→f K≤m):∀ (cs:List Ca),k7 ((cs.filterMap (bZ P)).map f)≤cs.length * m
  | []=>by simp [k7]
  | c::cs=>by
    have ih:=jQ h cs
    rw [List.filterMap_cons,List.length_cons,Nat.succ_mul]
    cases hp:bZ P c with
    | none=>dsimp only; exact ls ih
    | some K =>
      dsimp only
      have:=h c K hp
      rw [List.map_cons]
      show f K+k7 _≤_
      omega
theorem qt {d:HD}:∀ c K,bZ (Ph d) c=some K→K.blks.length≤3∧K.locs.length≤3:=fun c K hp=>by
  unfold bZ at hp
  cases hj:c.j <;> rw [hj] at hp
  · dsimp only [Ph] at hp
    split at hp <;> cases hp
    exact ⟨mz,Nat.le_refl 3⟩
  · exact nS hp
theorem lJ {d:HD} {two:Bool}:(bp d two).blks.length≤9:=by
  unfold bp
  rw [(gF (B:=ba two) (P:=Ph d) rfl).1,List.length_append,iM,lN]
  have h1:=jW (two:=two)
  have:=jQ (f:=fun K=>K.blks.length) (fun c K h=>(qt (d:=d) c K h).1) (fL two)
  have:(fL two).length * 3≤2 * 3:=Nat.mul_le_mul_right _ h1
  omega
theorem uo {d:HD} {two:Bool}:(bp d two).locs.length≤9:=by
  unfold bp
  rw [(gF (B:=ba two) (P:=Ph d) rfl).2,List.length_append,jV]
  have h1:=jW (two:=two)
  have:=jQ (f:=fun K=>K.locs.length) (fun c K h=>(qt (d:=d) c K h).2) (fL two)
  have:(fL two).length * 3≤2 * 3:=Nat.mul_le_mul_right _ h1
  have:(ba two).locs.length=3:=rfl
  omega
theorem yf {M:Nat}:∀ {l:List Blk},(∀ b ∈ l,b.sts.length≤M)→iJ l≤l.length * (M+1)
  | [],_=>by simp [uP]
  | b::r,h=>by
    have ih:=yf fun x hx=>h x (List.mem_cons_of_mem b hx)
    have:=h b (.head _)
    rw [vc,List.length_cons,Nat.succ_mul]; omega
theorem G1 {d:HD} {two:Bool} (hd:d.OK):iJ (bp d two).blks≤90:=by
  have h1:=yf (j9 (two:=two) hd).len
  have h2:=lJ (d:=d) (two:=two)
  have:(bp d two).blks.length * (9+1)≤9 * (9+1):=Nat.mul_le_mul_right _ h2
  exact vu this h1 rfl
theorem Dm {d:HD} {two:Bool} (hd:d.OK):Small (bp d two) :=
  ⟨rfl,fun b hb=>⟨(j9 hd).nc b hb,Nat.le_trans ((j9 hd).len b hb) (by decide)⟩,Nat.le_trans lJ (by decide),Nat.le_trans uo (by decide)⟩
theorem qF {d:HD} (hd:d.OK):Small (au d) :=
  ⟨rfl,fun b hb=>⟨ml d b hb,Nat.le_trans (xp hd b hb) (by decide)⟩,Nat.le_trans mz (by decide),by show 3≤20; decide⟩
theorem IZ {d:HD} {two:Bool} (hd:d.OK):xy (GR d two) 20 7 (bp d two) :=
  ⟨fun b hb=>⟨(j9 hd).nc b hb,(j9 hd).lv b hb⟩,fun x ps r H=>by
    refine xe1 (BI (P:=fun Z=>none) (h:=0) hd H) fun t r_=>aN r_ fun ht S=>?_
    exact ⟨t,_,_,_,ht,S,qM⟩⟩
theorem FF {P:W→Option Bd} {h:Nat} {d:HD} {two:Bool} (hd:d.OK):ld P (h+1) (GR d two) (bp d two) :=
  ⟨rfl,Nat.le_trans lJ (by decide),fun x ps r H=>by
    refine xe1 (BI (P:=P) (h:=h) hd H) fun t r_=>aN r_ fun ht S=>?_
    exact ⟨t,by exact lb r_.1 rfl,S.run (by decide) rfl⟩⟩
set_option genCtorIdx false in
set_option genInjectivity false in
structure MD where
  nm:W
  part:Bool
  o:Op
structure MD.OK (m:MD):Prop where
  nm:m.nm=.h_∨m.nm=.g_
  o:m.o=.copy 1 none∨m.o=.const 3∨m.o=.copy 2 (some 1)
noncomputable def bA (c0:Int):List St:=[.live 1,.live 2,.assign 1 none (.use (.const c0)),.assign 2 none (.tup (.copy 1 none) (.const 5))]
noncomputable def mRowsN:List St:=[.print (.copy 1 none),.print (.copy 2 (some 0))]
noncomputable def mEnd:List St:=[.assign 0 none (.use (.copy 1 none)),.dead 1,.dead 2]
noncomputable def oi (rows:List St) (m:MD):Ca:=⟨rows,m.nm,m.o,if m.part then 2 else 1,if m.part then some 0 else none⟩
noncomputable def dy (rows:List St):List MD→List Ca
  | []=>[]
  | m::r=>oi rows m::dy mRowsN r
theorem yD {rows:List St} {m:MD} {r:List MD}:dy rows (m::r)=oi rows m::dy mRowsN r:=rfl
noncomputable def aK (c0:Int) (ms:List MD):Bd:=⟨.main_,0,[aa,aa,hG],cX 0 (dy (bA c0) ms) (mRowsN++mEnd)⟩
theorem hO:∀ {ms:List MD} {rows:List St},(dy rows ms).length=ms.length
  | [],_=>rfl
  | m::r,_=>by rw [yD,List.length_cons,hO,List.length_cons]
noncomputable def F (d:HD) (two:Bool) (w:W):Int→List V→Int→Prop:=if w=.g_ then GR d two else HR d
theorem vx (d:HD) (two:Bool) (w:W) (x:Int):∃ ps r,F d two w x ps r∧ps.length≤2:=by
  unfold F
  by_cases h:w=.g_
  · rw [if_pos h]
    refine xe2 (Aq d two x) fun ps r H=>?_
    exact ⟨ps,r,H,H.1⟩
  · rw [if_neg h]
    refine xe2 (oZ d x) fun ps r r_=>aN r_ fun H hl=>?_
    exact ⟨ps,r,H,by exact lb r_.2 rfl⟩
noncomputable def U (a b c:Int):Sto:=⟨[(1,.i a),(2,.p b c)],[0,1,2]⟩
theorem zH {m:MD} (hm:m.OK) (a b c:Int):(∃ x,(U a b c).val m.o=some (.i x))∧∀ r,∃ a' b' c',(U a b c).set (if m.part then 2 else 1) (if m.part then some 0 else none) (.i r)=some (U a' b' c'):=by
  constructor
  · rcases hm.o with h | h | h <;> rw [h]
    · exact ⟨a,rfl⟩
    · exact ⟨3,rfl⟩
    · exact ⟨c,rfl⟩
  · intro r
    cases m.part
    · exact ⟨r,b,c,rfl⟩
    · exact ⟨a,r,c,rfl⟩
theorem uG {a b c:Int}:Below (U a b c) 3:=pK (by simp [U]) (by simp [U])
theorem Bq (d:HD) (two:Bool):∀ (ms:List MD) (a b c:Int),(∀ m ∈ ms,m.OK)→∃ ps z,Den (F d two) 10 (mRowsN++mEnd) (dy mRowsN ms) (U a b c) ps ⟨[(0,.i z)],[0]⟩∧ps.length≤2+4 * ms.length
  | [],a,b,c,h=>⟨[.i a,.i b],a,.nil (by simp [U]) (by simp [U]) (by simp [mRowsN,mEnd]) rfl,by simp⟩
  | m::r,a,b,c,h=>by
    refine aN (zH (h m (.head _)) a b c) fun q0_ hs=>?_
    obtain ⟨x,hx⟩:=q0_
    refine xe2 (vx d two m.nm x) fun qs y r_=>aN r_ fun hF hl=>?_
    obtain ⟨a',b',c',hset⟩:=hs y
    obtain ⟨ps,z,D,hl2⟩:=Bq d two r a' b' c' fun m hm=>h m (.tail _ hm)
    exact ⟨[.i a,.i b]++(qs++ps),z,.cons (τ:=U a b c) (by simp [U]) (by simp [U]) (by simp [oi,mRowsN]) rfl uG (by simp [U]) (by simp [U]) hx hF hset D,by simp; omega⟩
theorem FI (d:HD) (two:Bool) (c0:Int) {ms:List MD} (h0:ms ≠ []) (h:∀ m ∈ ms,m.OK):∃ ps z,Den (F d two) 10 (mRowsN++mEnd) (dy (bA c0) ms) ⟨[],[0]⟩ ps ⟨[(0,.i z)],[0]⟩∧ps.length≤2+4 * ms.length:=by
  cases ms with
  | nil=>exact absurd rfl h0
  | cons m r =>
    refine aN (zH (h m (.head _)) c0 c0 5) fun q0_ hs=>?_
    obtain ⟨x,hx⟩:=q0_
    refine xe2 (vx d two m.nm x) fun qs y r_=>aN r_ fun hF hl=>?_
    obtain ⟨a',b',c',hset⟩:=hs y
    refine xe2 (Bq d two r a' b' c' fun m hm=>h m (.tail _ hm)) fun ps z r_=>aN r_ fun D hl2=>?_
    exact ⟨[]++(qs++ps),z,.cons (τ:=U c0 c0 5) (by simp) (by simp) (by simp [oi,bA]) rfl uG (by simp [U]) (by simp [U]) hx hF hset D,by simp; omega⟩
noncomputable def B2 (a b:Bd):W→Option Bd:=fun w=>if w=.h_ then some a else if w=.g_ then some b else none
theorem qI {c:Ca}:∀ (ms:List MD) {rows:List St},c ∈ dy rows ms→∃ m ∈ ms,∃ rows',(rows'=rows∨rows'=mRowsN)∧c=oi rows' m:=fun ms=>by
  induction ms with
  | nil=>intro rows h; exact absurd h List.not_mem_nil
  | cons m r ih =>
    intro rows h
    rcases List.mem_cons.mp h with rfl | h
    · exact ⟨m,.head _,rows,.inl rfl,rfl⟩
    · obtain ⟨m',hm,rows',hr,e⟩:=ih h
      exact ⟨m',.tail _ hm,rows',.inr (hr.elim id id),e⟩
theorem sP {d:HD} {two:Bool} (hd:d.OK) {g:Bd} (hg:ld (B2 (au d) g) 1 (GR d two) g) {w:W} (hw:w=.h_∨w=.g_):∃ K,B2 (au d) g w=some K∧ld (B2 (au d) g) 1 (F d two w) K:=by
  rcases hw with rfl | rfl
  · exact ⟨au d,rfl,zB hd⟩
  · exact ⟨g,rfl,hg⟩
theorem FO {d:HD} {two:Bool} (hd:d.OK) {c0:Int} {ms:List MD} (h0:ms ≠ []) (h:∀ m ∈ ms,m.OK) (hl:ms.length≤3):∃ ps z t t1 t2,ps.length≤50∧t≤60∧t1≤60∧t2≤60 ∧
    Run (B2 (au d) (ba two)) 2 (aK c0 ms).blks t 0 ⟨[],[0]⟩ ps (.i z) ∧
    Run (B2 (au d) (ba two)) 2 ((aK c0 ms).inl (Ph d)).blks t1 0 ⟨[],[0]⟩ ps (.i z) ∧
    Run (B2 (au d) (bp d two)) 2 ((aK c0 ms).inl (B2 (au d) (bp d two))).blks t2 0 ⟨[],[0]⟩ ps (.i z):=by
  refine xe2 (FI d two c0 h0 h) fun ps z r_=>aN r_ fun D hps=>?_
  have hml:=hO (ms:=ms) (rows:=bA c0)
  have hw:∀ c ∈ dy (bA c0) ms,c.w=.h_∨c.w=.g_:=fun c hc=>by
    refine xe1 (qI _ hc) fun m r_=>aN r_ fun hm r_=>xe1 r_ fun rows r_=>aN r_ fun Z e4_=>?_
    subst e4_
    exact (h m hm).nm
  have L0:Lay (fun Z=>none) (cX 0 (dy (bA c0) ms) (mRowsN++mEnd)) (mRowsN++mEnd) 0 (dy (bA c0) ms):=mM _ fun i b hb=>by rw [Nat.zero_add]; exact hb
  have L1:Lay (Ph d) ((aK c0 ms).inl (Ph d)).blks (mRowsN++mEnd) 0 (dy (bA c0) ms):=qu rfl (Nat.le_refl 3)
  have L2:Lay (B2 (au d) (bp d two)) ((aK c0 ms).inl (B2 (au d) (bp d two))).blks (mRowsN++mEnd) 0 (dy (bA c0) ms):=qu rfl (Nat.le_refl 3)
  obtain ⟨t,ht,S⟩:=lM (P':=B2 (au d) (ba two)) (F:=F d two) (N:=10) (N1:=20) (N':=40) (h:=1) (T:=7) (by decide) (by decide) (by decide) (fun c K hp=>by unfold bZ at hp; cases hj:c.j <;> rw [hj] at hp <;> exact nS hp) L0 (fun c hc Z=>sP hd (yO hd rfl) (hw c hc)) D
  obtain ⟨t1,ht1,S1⟩:=lM (P':=B2 (au d) (ba two)) (F:=F d two) (N:=10) (N1:=10) (N':=40) (h:=1) (T:=7) (by decide) (by decide) (by decide) (fun c K hp=>by
    unfold bZ at hp
    cases hj:c.j <;> rw [hj] at hp
    · dsimp only [Ph] at hp
      split at hp
      · rename_i hc
        (replace hp:=iS hp; subst hp)
        have:F d two c.w=HR d:=by unfold F; rw [hc]; rfl
        rw [this]
        exact ⟨(wJ hd).1,fun x ps r H=>by
          refine xe4 ((wJ hd).2 x ps r H) fun t τ P h r_=>gD r_ fun ht S D=>?_
          exact ⟨t,τ,P,h,by exact lb r_.1 rfl,S,D⟩⟩
      · exact nS hp
    · exact nS hp) L1 (fun c hc Z=>sP hd (yO hd rfl) (hw c hc)) D
  have h20:xy (HR d) 20 7 (au d):=⟨(wJ hd).1,fun x ps r H=>by
    refine xe1 (xr (P:=fun Z=>none) (h:=0) hd H) fun t r_=>aN r_ fun ht S=>?_
    exact ⟨t,_,_,_,by exact lb r_.1 rfl,S.mono (by decide),qM⟩⟩
  obtain ⟨t2,ht2,S2⟩:=lM (P':=B2 (au d) (bp d two)) (F:=F d two) (N:=10) (N1:=20) (N':=40) (h:=1) (T:=7) (by decide) (by decide) (by decide) (fun c K hp=>by
    unfold bZ at hp
    cases hj:c.j <;> rw [hj] at hp
    · dsimp only [B2] at hp
      split at hp
      · rename_i hc
        (replace hp:=iS hp; subst hp)
        have:F d two c.w=HR d:=by unfold F; rw [hc]; rfl
        rw [this]; exact h20
      · split at hp
        · rename_i hc
          (replace hp:=iS hp; subst hp)
          have:F d two c.w=GR d two:=by unfold F; rw [hc]; rfl
          rw [this]; exact IZ hd
        · exact nS hp
    · exact nS hp) L2 (fun c hc Z=>sP hd (FF hd) (hw c hc)) D
  rw [hml] at ht ht1 ht2
  exact ⟨ps,z,t,t1,t2,by omega,by exact El hl hml ht rfl,by exact El hl hml ht1 rfl,by exact El hl hml ht2 rfl,S.run (by decide) rfl,S1.run (by decide) rfl,S2.run (by decide) rfl⟩
end Mine.Internal
namespace Mine.Internal
theorem vq {k:Nat} {xs:List Int}:MObj.okB k (.list (xs.map fun x=>.d (.int x)))=true:=by
  show (xs.map fun x=>Val.d (.int x)).all _=true
  simp [pO]
theorem nF {mu:Mu} {i:Nat} {c:MObj} (h:WFm mu) (hc:c.okB mu.length=true):WFm (mu.set i c):=by
  unfold WFm at h ⊢
  rw [List.length_set]
  refine List.all_eq_true.mpr fun m hm=>?_
  rcases List.mem_or_eq_of_mem_set hm with h1 | rfl
  · exact List.all_eq_true.mp h m h1
  · exact hc
inductive SrcX (base:Mu) (s:Nat):Prop
  | mk (a b:Int) (k:Nat) (xs:List Int):base[s]? = some (.list [.d (.int a),.d (.int b),.r k])→base[k]? = some (.list (xs.map fun x=>.d (.int x)))→k ≠ s∧xs.length≤100→SrcX base s
structure Src (N:Nat) (base:Mu) (s:Nat):Prop where
  len:base.length=N
  wf:WFm base
  src:SrcX base s
noncomputable def fT (N:Nat) (r:List MObj):Prop:=r.all (MObj.okB (N+r.length))=true
theorem Src.app {N s:Nat} {base r:List MObj} (h:Src N base s) (hr:fT N r):WFm (base++r):=by
  refine h.wf.app ?_
  rw [List.length_append,h.len]; exact hr
theorem Src.fin {N s:Nat} {base r:List MObj} {v:Val} (h:Src N base s) (hr:fT N r) (hv:v.okB 0=true):cE true (N+r.length) v (base++r)=some (v,base++r) :=
  fQ (by rw [List.length_append,h.len]) (h.app hr) hv
theorem kD {a b:Int} (h:0 < b):0≤a.fmod b∧a.fmod b < b:=⟨Int.fmod_nonneg_of_pos a h,Int.fmod_lt_of_pos a h⟩
theorem gI {base r:List MObj} {i:Nat} {c:MObj} (h:base[i]? = some c):(base++r)[i]? = some c:=by
  rw [List.getElem?_append_left (List.getElem?_eq_some_iff.mp h).1]; exact h
theorem qR {base r:List MObj} {i:Nat} {c x:MObj} (h:base[i]? = some c):(base++r).set i x=base.set i x++r :=
  List.set_append_left _ _ (List.getElem?_eq_some_iff.mp h).1
theorem sO {xs:List Int}:bN (xs.map fun x=>.d (.int x))=some (xs.map .int):=by
  have:=j2 (xs:=xs.map Dat.int)
  rw [List.map_map] at this; exact this
theorem jC:∀ {xs:List Int},cQ (xs.map .int)=true∧gf (xs.map .int)=0
  | []=>⟨rfl,rfl⟩
  | x::r=>by
    obtain ⟨h1,h2⟩:=jC (xs:=r)
    exact ⟨by rw [List.map_cons,uT,h1]; rfl,by rw [List.map_cons,qG,h2]; rfl⟩
theorem C2:∀ {xs:List Int},iG (xs.map .int) []=some (decide (xs=[]))
  | []=>by rw [List.map_nil,IY]; rfl
  | x::r=>by rw [List.map_cons,Jl]; rfl
theorem Dh {xs:List Int}:gE (.lst (xs.map .int)) (.lst [])=some (decide (xs=[])):=by
  refine aN (jC (xs:=xs)) fun h1 h2=>?_
  unfold gE
  rw [Cr,Cr,BD,BD,h1,h2,Jx]
  show (if _ then iG (List.map Dat.int xs) [] else none)=_
  rw [C2]
  rfl
inductive TakeR (N s:Nat) (base:Mu) (top:Int):Prop
  | mk (v:Int) (base':Mu):0≤v→v < top→Src N base' s→(∀ (n:Nat) (r:List MObj),fT N r→an prog (n+1) .take [.r s,.d (.int top)] (base++r)=some (.d (.int v),base'++r))→TakeR N s base top
theorem TakeR.el {N s:Nat} {base:Mu} {top:Int} {G:Prop} (h:TakeR N s base top) (g:∀ (v:Int) (base':Mu),0≤v→v < top→Src N base' s→(∀ (n:Nat) (r:List MObj),fT N r→an prog (n+1) .take [.r s,.d (.int top)] (base++r)=some (.d (.int v),base'++r))→G):G:=h.rec g
inductive OneR (N s:Nat) (base:Mu) (things:List Dat):Prop
  | mk (x:Dat) (base':Mu):x ∈ things→Src N base' s→(∀ (n:Nat) (r:List MObj),fT N r→an prog (n+2) .one [.r s,.d (.lst things)] (base++r)=some (.d x,base'++r))→OneR N s base things
theorem OneR.el {N s:Nat} {base:Mu} {things:List Dat} {G:Prop} (h:OneR N s base things) (g:∀ (x:Dat) (base':Mu),x ∈ things→Src N base' s→(∀ (n:Nat) (r:List MObj),fT N r→an prog (n+2) .one [.r s,.d (.lst things)] (base++r)=some (.d x,base'++r))→G):G:=h.rec g
theorem eE {N s:Nat} {base:Mu} (h:Src N base s) {top:Int} (h0:0 < top) (h1:top≤1000):TakeR N s base top:=by
  obtain ⟨a,b,k,xs,e1,e2,hk,hl⟩:=h.src
  have hs:s < base.length:=(List.getElem?_eq_some_iff.mp e1).1
  have hkl:k < base.length:=(List.getElem?_eq_some_iff.mp e2).1
  have htop:¬ top=0:=by omega
  have htop2:¬ 1073741824≤top.natAbs:=by omega
  have f1:∀ r:List MObj,(base++r)[s]? = some (.list [.d (.int a),.d (.int b),.r k]):=fun r=>gI e1
  have f2:∀ r:List MObj,(base++r)[k]? = some (.list (xs.map fun x=>.d (.int x))):=fun r=>gI e2
  have f3:∀ (r:List MObj) x,(base++r).set s x=base.set s x++r:=fun r x=>qR e1
  have hN:=h.len
  cases hx:xs with
  | cons x xs' =>
    subst hx
    have hl':xs'.length < 1048576:=by rw [List.length_cons] at hl; exact lb hl rfl
    refine ⟨x.fmod top,base.set k (.list (xs'.map fun x=>.d (.int x))),(kD h0).1,(kD h0).2,⟨by rw [List.length_set]; exact hN,nF h.wf vq,a,b,k,xs',by rw [List.getElem?_set_ne hk]; exact e1,List.getElem?_set_self hkl,hk,by rw [List.length_cons] at hl; exact lq hl rfl⟩,fun n r hr=>?_⟩
    have hS:Src N (base.set k (.list (xs'.map fun x=>.d (.int x)))) s:=⟨by rw [List.length_set]; exact hN,nF h.wf vq,a,b,k,xs',by rw [List.getElem?_set_ne hk]; exact e1,List.getElem?_set_self hkl,hk,by rw [List.length_cons] at hl; exact lq hl rfl⟩
    rw [aX (d:=jf) rfl rfl]
    have f4:∀ (r:List MObj) x,(base++r).set k x=base.set k x++r:=fun r x=>qR e2
    have hd:=sO (xs:=x::xs')
    have hp:=(jC (xs:=xs')).1
    rw [List.map_cons] at hd
    have hfin:=hS.fin (v:=.d (.int (x.fmod top))) hr rfl
    simp only [List.map_cons] at f2
    simp [am,ae,ar,bz,ah,af,ai,av,bF,b6,bO,bQ,aP,ay,aA,aw,aQ,ax,az,dE,qb,nq,bX,Hu,Gv,EI,aF,bf,ct,bD,bn,aT,bV,ak,aq,aJ,bK,aU,je,iA,E1,Dg,BC,w0,sZ,zE,wu,tG,wm,yb,aj,iV,lim,-getElem?_pos,jf,f1,f2,hN,htop,hl',f4,sO,hp,tH]
    exact hfin
  | nil =>
    subst hx
    have ev0:∀ r,ku (base++r) (.r k) (.d (.lst []))=some true:=fun r=>by
      show (((base++r)[k]?).bind oL).bind (fun xs=>(bN xs).bind fun ds=>gE (.lst ds) (.lst []))=_
      rw [f2]
      exact Dh (xs:=[])
    by_cases ha:0 < a
    · have hS:Src N (base.set s (.list [.d (.int (a.fdiv top)),.d (.int b),.r k])) s:=⟨by rw [List.length_set]; exact hN,nF h.wf (by simp [tu,pO,sm,s7]; exact hkl),a.fdiv top,b,k,[],List.getElem?_set_self hs,by rw [List.getElem?_set_ne (Ne.symm hk)]; exact e2,hk,hl⟩
      refine ⟨a.fmod top,_,(kD h0).1,(kD h0).2,hS,fun n r hr=>?_⟩
      rw [aX (d:=jf) rfl rfl]
      have hfin:=hS.fin (v:=.d (.int (a.fmod top))) hr rfl
      simp [am,ae,ar,bz,ah,af,ai,av,bF,b6,bO,bQ,aP,ay,aA,aw,aQ,ax,az,dE,qb,nq,bX,aF,aV,gw,kp,kj,oR,pD,bf,ct,bh,bD,bn,bx,aT,aH,bV,ak,aq,aJ,aU,vd,je,sf,iA,aj,cW,iV,lim,-getElem?_pos,jf,f1,f2,hN,htop,htop2,f3,ha,ev0]
      exact hfin
    · have hb:∀ c:Int,¬ 18446744073709551616≤(c.fmod 2147483647).natAbs:=fun c=>by
        have:=kD (a:=c) (b:=2147483647) (by decide)
        omega
      have hS:Src N (base.set s (.list [.d (.int a),.d (.int ((b * 39373+7).fmod 2147483647)),.r k])) s:=⟨by rw [List.length_set]; exact hN,nF h.wf (by simp [tu,pO,sm,s7]; exact hkl),a,_,k,[],List.getElem?_set_self hs,by rw [List.getElem?_set_ne (Ne.symm hk)]; exact e2,hk,hl⟩
      have g1:∀ r:List MObj,(base.set s (.list [.d (.int a),.d (.int ((b * 39373+7).fmod 2147483647)),.r k])++r)[s]? = some (.list [.d (.int a),.d (.int ((b * 39373+7).fmod 2147483647)),.r k]):=fun r=>gI (List.getElem?_set_self hs)
      generalize hc:(b * 39373+7).fmod 2147483647=c at hS g1
      have hc2:c.natAbs < 18446744073709551616:=by
        have:=kD (a:=b * 39373+7) (b:=2147483647) (by decide)
        omega
      refine ⟨(((c * c).fmod 2147483629).fdiv 32).fmod top,_,(kD h0).1,(kD h0).2,hS,fun n r hr=>?_⟩
      rw [aX (d:=jf) rfl rfl]
      have hfin:=hS.fin (v:=.d (.int ((((c * c).fmod 2147483629).fdiv 32).fmod top))) hr rfl
      simp [am,ae,ar,bz,ah,af,ai,av,bF,b6,bO,bQ,aP,ay,aA,aw,aQ,ax,az,dE,qb,nq,bX,aF,gw,kp,kj,oR,pD,bf,bh,bD,bn,bx,aT,aH,bV,ak,aq,aJ,aU,cA,ql,vd,je,sf,iA,aj,iV,lim,-getElem?_pos,jf,f1,f2,hN,htop,htop2,f3,ha,ev0,hc,g1,hc2]
      exact hfin
theorem oS {N s:Nat} {base:Mu} (h:Src N base s) {things:List Dat} (h0:0 < things.length) (h1:things.length≤1000):OneR N s base things:=by
  refine TakeR.el (eE h (top:=things.length) (by exact H9 h0) (by exact ic h1 rfl)) fun v base' v0 v1 hS hc=>?_
  have hv:v.toNat < things.length:=by omega
  refine ⟨things[v.toNat],base',List.getElem_mem hv,hS,fun n r hr=>?_⟩
  rw [aX (d:=r5) rfl rfl]
  have hidx:dg v things.length=some v.toNat:=by rw [bX,if_pos ⟨v0,hv,by unfold lim; exact vu h1 hv rfl⟩]
  have hg:things[v.toNat]? = some things[v.toNat]:=List.getElem?_eq_getElem hv
  have hl:things.length≤1048576:=by exact lb h1 rfl
  have hN:=h.len
  obtain ⟨a,b,k,xs,e1,_⟩:=h.src
  have f1:∀ r:List MObj,(base++r)[s]? = some (.list [.d (.int a),.d (.int b),.r k]):=fun r=>gI e1
  have hc':=hc n r hr
  have hfin:=hS.fin (v:=.d things[v.toNat]) hr rfl
  simp [am,ae,ar,bz,ah,af,ai,aQ,ax,az,dF,aO,aB,dH,cf,fX,aF,bo,aL,aM,bD,aT,ak,ao,aq,aJ,aj,lim,-getElem?_pos,r5,hN,hl,hc',f1,-bX]
  rw [hidx]
  simp [am,dE,bn,bV,aU,-getElem?_pos,hg]
  exact hfin
theorem fg (n:Nat) {mu:Mu} (h:WFm mu) (l:Int):an prog (n+1) .place [.d (.int l)] mu=some (.d (Op.copy l none).e,mu):=by
  rw [aX (d:=nB) rfl rfl]
  simp [am,ae,ah,af,ai,aS,bC,aF,bo,aL,aM,bD,bn,aT,bV,ak,ao,aq,aJ,aU,aj,cL,b5,-getElem?_pos,nB]
  exact bB h rfl
theorem g5 (n:Nat) {mu:Mu} (h:WFm mu) (v:Int):an prog (n+1) .number [.d (.int v)] mu=some (.d (Op.const v).e,mu):=by
  rw [aX (d:=lP) rfl rfl]
  simp [am,ae,ah,af,ai,lr,aS,bC,aF,bo,aL,aM,bD,bn,aT,bV,ak,ao,aq,aJ,aU,aj,d6,-getElem?_pos,lP]
  exact bB h rfl
end Mine.Internal
namespace Mine.Internal
theorem Src.norm {N s:Nat} {base:Mu} (h:Src N base s) (r:List MObj):iB s (base++r)[s]? = .r s:=by
  obtain ⟨a,b,k,xs,e1,_⟩:=h.src
  rw [gI e1]; rfl
theorem Src.norm0 {N s:Nat} {base:Mu} (h:Src N base s):iB s base[s]? = .r s:=by
  obtain ⟨a,b,k,xs,e1,_⟩:=h.src
  rw [e1]; rfl
theorem Src.drop {N s:Nat} {base:Mu} {r:List MObj} {v:Val} (h:Src N base s) (hv:v.okB 0=true):cE true N v (base++r)=some (v,base):=by
  rw [← h.len]; exact iL h.wf hv
theorem Gs {v:Int} (h0:0≤v) (h1:v≤1000):∃ its,items (.rng 0 v 1)=some its∧its.length=v.toNat:=by
  have:jr 0 v=true:=by unfold jr lim; simp; omega
  refine ⟨_,by unfold items; dsimp only; rw [this,if_neg (by decide),if_pos rfl],by simp⟩
noncomputable def sC (N:Nat) (nm:W) (ac:Int) (locs blks:List Dat) (rest:List MObj):List MObj :=
  [.inst .body [.name,.argCount,.locals,.blocks,.spots] [.d (.str nm),.d (.int ac),.r (N+1),.r (N+2),.r (N+3)],.list (locs.map .d),.list (blks.map .d),.spots 0]++rest
section
variable {N s:Nat} {base:Mu} {nm:W} {ac:Int} {locs blks:List Dat} {rest:List MObj}
theorem jp (h:base.length=N):(base++sC N nm ac locs blks rest)[N]? = some (.inst .body [.name,.argCount,.locals,.blocks,.spots] [.d (.str nm),.d (.int ac),.r (N+1),.r (N+2),.r (N+3)]):=by subst h; simp [sC]
theorem iR (h:base.length=N):(base++sC N nm ac locs blks rest)[N+2]? = some (.list (blks.map .d)):=by subst h; simp [sC]
theorem kZ (h:base.length=N) {c:MObj}:(base++sC N nm ac locs blks (c::rest))[N+4]? = some c:=by subst h; simp [sC]
theorem nE (h:base.length=N) {xs:List Dat}:(base++sC N nm ac locs blks rest).set (N+2) (.list (xs.map .d))=base++sC N nm ac locs xs rest:=by subst h; simp [sC]
theorem sb (h:base.length=N) {c d:MObj}:(base++sC N nm ac locs blks (c::rest)).set (N+4) d=base++sC N nm ac locs blks (d::rest):=by subst h; simp [sC]
theorem ye (h:base.length=N):(base++sC N nm ac locs blks rest).length=N+4+rest.length:=by subst h; simp [sC]; omega
theorem uc (h:base.length=N) {xs:List Val} {f:Option (List Dat)}:cy true (base++sC N nm ac locs blks rest) xs f=if xs.length≤lim then some (.r (N+4+rest.length),base++sC N nm ac locs blks (rest++[.list xs])) else none:=by
  rw [cb,ye h]; simp [sC]
theorem ie (hr:∀ k,rest.all (MObj.okB k)=true):fT N (sC N nm ac locs blks rest):=by
  unfold fT sC
  rw [List.all_append,hr,Bool.and_true]
  simp only [List.all_cons,List.all_nil,mt,Bool.and_true,Bool.true_and]
  simp [tu,Gq,GO,Gf,Fu,Ea,pO,sm,s7]
theorem pY (h:base.length=N):∃ r,freeze 4 (base++sC N nm ac locs blks rest) (.r N)=some (.obj .body [.name,.argCount,.locals,.blocks,.spots] [.str nm,.int ac,.lst locs,.lst blks,.spots 0],base++r):=by
  subst h
  refine ⟨[.frz (.obj .body [.name,.argCount,.locals,.blocks,.spots] [.str nm,.int ac,.lst locs,.lst blks,.spots 0]),.frz (.lst locs),.frz (.lst blks),.frz (.spots 0)]++rest,?_⟩
  rw [cN]
  simp [sC,lz,cN,td,gr,th,fP,fG,qO,qj,rW,xg,r0,sg,gU]
theorem De (h:base.length=N) {xs:List Dat}:freeze 4 (base++sC N nm ac locs blks (.list (xs.map .d)::rest)) (.r (N+4))=some (.lst xs,base++sC N nm ac locs blks (.frz (.lst xs)::rest)):=by
  rw [cN,kZ h,gr,gU,fP,kZ h,fG,sb h]
end
theorem jg (n:Nat) {base:Mu} {N:Nat} (hN:base.length=N) {nm:W} {ac:Int} {locs:List Dat} (hl:locs.length≤1000) :
    an prog (n+1) .initBody [.r N,.d (.str nm),.d (.int ac),.d (.lst locs)] (base++[.inst .body [] []])=some (.d .none,base++sC N nm ac locs [] []):=by
  subst hN
  rw [ur n hl]
  simp [sC]
inductive SmallR (N s:Nat) (c0:Int) (f:ag→Mu→Rx) (base:Mu) (its:List Dat) (x3 x6:Option Val):Prop
  | mk (base':Mu) (ops:List (W × Int)) (x3' x6':Option Val):ops.length=its.length→(∀ p ∈ ops,p.1=.plus_∨p.1=.xor_∨p.1=.lt_)→Src N base' s →
    cY f [3] its [some (.r s),some (.r N),some (.r (N+4)),x3,none,none,x6] (base++sC N .h_ 1 [aa,aa,aa] [] [.list ((eS (bS ⟨c0,[],none⟩)).map .d)]) =
        some (.next,[some (.r s),some (.r N),some (.r (N+4)),x3',none,none,x6'],base'++sC N .h_ 1 [aa,aa,aa] [] [.list ((eS (bS ⟨c0,ops,none⟩)).map .d)]) →
    SmallR N s c0 f base its x3 x6
theorem SmallR.el {N s:Nat} {c0:Int} {f:ag→Mu→Rx} {base:Mu} {its:List Dat} {x3 x6:Option Val} {G:Prop} (h:SmallR N s c0 f base its x3 x6) (g:∀ (base':Mu) (ops:List (W × Int)) (x3' x6':Option Val),ops.length=its.length→(∀ p ∈ ops,p.1=.plus_∨p.1=.xor_∨p.1=.lt_)→Src N base' s →
    cY f [3] its [some (.r s),some (.r N),some (.r (N+4)),x3,none,none,x6] (base++sC N .h_ 1 [aa,aa,aa] [] [.list ((eS (bS ⟨c0,[],none⟩)).map .d)]) =
        some (.next,[some (.r s),some (.r N),some (.r (N+4)),x3',none,none,x6'],base'++sC N .h_ 1 [aa,aa,aa] [] [.list ((eS (bS ⟨c0,ops,none⟩)).map .d)])→G):G:=h.rec g
theorem xc {N s:Nat} (n:Nat) {c0:Int} {f:ag→Mu→Rx} (hf:ez (an prog (n+2)) (.of [(.asg 6 (.call .one (.of [(.loc 0),(.list false (.of [(.str .plus_),(.str .xor_),(.str .lt_)]))]))),(.expr (.app (.loc 2) (.tup (.of [(.str .assign_),(.tup (.of [(.int 2),(.tup (.of []))])),(.tup (.of [(.str .binary_),(.loc 6),(.call .place (.of [(.int 2)])),(.call .number (.of [(.call .take (.of [(.loc 0),(.int 256)]))]))]))]))))])=f) {base:Mu} (h:Src N base s) (its:List Dat) (hits:its.length≤1000) {x3 x6:Option Val} :
    SmallR N s c0 f base its x3 x6:=by
  obtain ⟨l,m,e,base',ops,x3',x6',rfl,rfl,hS,h1,h2⟩:=my (f:=f) (ts:=[3]) (fun i l m=>∃ base' ops x3 x6,l=[some (.r s),some (.r N),some (.r (N+4)),x3,none,none,x6]∧m=base'++sC N .h_ 1 [aa,aa,aa] [] [.list ((eS (bS ⟨c0,ops,none⟩)).map .d)]∧Src N base' s∧ops.length=i∧∀ p ∈ ops,p.1=.plus_∨p.1=.xor_∨p.1=.lt_)
    its 0 (loc:=[some (.r s),some (.r N),some (.r (N+4)),x3,none,none,x6]) (mu:=base++sC N .h_ 1 [aa,aa,aa] [] [.list ((eS (bS ⟨c0,[],none⟩)).map .d)]) ⟨base,[],x3,x6,rfl,rfl,h,rfl,by simp⟩ fun i x l m hx ⟨base1,ops,y3,y6,hl,hm,h1,h2,h3⟩=>by
      subst hl; subst hm
      refine OneR.el (oS h1 (things:=[.str .plus_,.str .xor_,.str .lt_]) (by decide) (by decide)) fun w' base2 hw' S2 k2=>?_
      obtain ⟨w,rfl,hw⟩ : ∃ w,w'=.str w∧(w=.plus_∨w=.xor_∨w=.lt_):=by
        have:w'=.str .plus_∨w'=.str .xor_∨w'=.str .lt_:=by simpa using hw'
        rcases this with rfl | rfl | rfl
        · exact ⟨_,rfl,.inl rfl⟩
        · exact ⟨_,rfl,.inr (.inl rfl)⟩
        · exact ⟨_,rfl,.inr (.inr rfl)⟩
      refine TakeR.el (eE S2 (top:=256) (by decide) (by decide)) fun v base3 v0 v1 S3 k3=>?_
      have ok:fT N (sC N .h_ 1 [aa,aa,aa] [] [.list ((eS (bS ⟨c0,ops,none⟩)).map .d)]):=ie fun k=>by simp only [List.all_cons,List.all_nil,mt,Bool.and_true]
      have hi:i < its.length:=(List.getElem?_eq_some_iff.mp hx).1
      have hlen:(bS ⟨c0,ops,none⟩).length < 1048576:=by unfold bS; simp; omega
      have hlen2:(eS (bS ⟨c0,ops,none⟩)).length < 1048576:=by rw [ix]; exact hlen
      have k2':=k2 n _ ok
      have k3':=k3 (n+1) _ ok
      have k4:=fg (n+1) (S2.app ok) 2
      have k5:=g5 (n+1) (S3.app ok) v
      have hrow:eS (bS ⟨c0,ops,none⟩)++[Dat.tup [.str .assign_,.tup [.int 2,.tup []],.tup [.str .binary_,.str w,(Op.copy 2 none).e,(Op.const v).e]]]=eS (bS ⟨c0,ops++[(w,v)],none⟩):=by
        unfold bS
        rw [List.map_append,← List.cons_append,← List.cons_append,lc]; rfl
      refine ⟨[some (.r s),some (.r N),some (.r (N+4)),some (.d x),none,none,y6],[some (.r s),some (.r N),some (.r (N+4)),some (.d x),none,none,some (.d (.str w))],base3++sC N .h_ 1 [aa,aa,aa] [] [.list ((eS (bS ⟨c0,ops++[(w,v)],none⟩)).map .d)],by simp [cp,hY,be],?_,base3,ops++[(w,v)],_,_,rfl,rfl,S3,by simp; omega,fun p hp=>?_⟩
      · rw [← hf,fH]
        simp [am,ae,ar,bz,ah,af,ai,av,aS,bC,bF,aO,aB,d8,de,c8,db,c9,aF,bo,aL,aM,aV,cI,ce,bx,aT,aH,ak,ao,aq,aJ,ix,eK,aj,gO,cL,b5,d6,ni,kC,lim,-getElem?_pos,h1.norm,S2.norm,S3.norm,k2',k3',k4,k5,kZ h1.len,kZ S2.len,kZ S3.len,sb S3.len,hlen,-List.map_append]
        rw [hrow]
      · rcases List.mem_append.mp hp with hp | hp
        · exact h3 p hp
        · rw [List.mem_singleton] at hp; subst hp; exact hw
  rw [Nat.zero_add] at h1
  exact ⟨base',ops,x3',x6',h1,h2,hS,e⟩
end Mine.Internal
namespace Mine.Internal
section
variable {N s:Nat} {base:Mu} {nm:W} {ac:Int} {locs blks:List Dat} {rest:List MObj}
theorem jL (h:base.length=N) {x:Dat}:(base++sC N nm ac locs blks rest).set (N+2) (.list [.d x])=base++sC N nm ac locs [x] rest:=nE h (xs:=[x])
theorem nt (h:base.length=N) {x y:Dat}:(base++sC N nm ac locs blks rest).set (N+2) (.list [.d x,.d y])=base++sC N nm ac locs [x,y] rest:=nE h (xs:=[x,y])
theorem uN (h:base.length=N) {x y z:Dat}:(base++sC N nm ac locs blks rest).set (N+2) (.list [.d x,.d y,.d z])=base++sC N nm ac locs [x,y,z] rest:=nE h (xs:=[x,y,z])
end
noncomputable def b3:List Dat:=[aa,aa,aa]
theorem CN (n:Nat) {N s:Nat} {base:Mu} (h:Src N base s):∃ d base',d.OK∧Src N base' s∧an prog (n+3) .small [.r s] base=some (.d ((au d).e 0),base'):=by
  refine TakeR.el (eE h (top:=9) (by decide) (by decide)) fun v1 base1 v10 v11 S1 k1=>?_
  refine TakeR.el (eE S1 (top:=3) (by decide) (by decide)) fun v2 base2 v20 v21 S2 k2=>?_
  refine xe1 (Gs v20 (by omega)) fun its r_=>aN r_ fun hits hitl=>?_
  have okA:fT N (sC N .h_ 1 [aa,aa,aa] [] []):=ie fun k=>rfl
  have okB:∀ {blks xs:List Dat},fT N (sC N .h_ 1 [aa,aa,aa] blks [.list (xs.map .d)]):=ie fun k=>by simp only [List.all_cons,List.all_nil,mt,Bool.and_true]
  have okF:∀ {blks:List Dat} {d:Dat},fT N (sC N .h_ 1 [aa,aa,aa] blks [.frz d]):=ie fun k=>rfl
  have p1:=jg (n+1) h.len (nm:=.h_) (ac:=1) (locs:=[aa,aa,aa]) (by decide)
  have p2:=fg (n+1) (h.app okA) 1
  have p3:=k1 (n+1) _ okA
  have p4:=g5 (n+1) (S1.app okA) (1+v1)
  have p5:=k2 (n+1) _ (okB (blks:=[]) (xs:=eS (bS ⟨1+v1,[],none⟩)))
  have hrow0:MObj.list [Val.d (Dat.tup [.str .live_,.int 2]),Val.d (Dat.tup [.str .assign_,.tup [.int 2,.tup []],.tup [.str .binary_,.str .plus_,(Op.copy 1 none).e,(Op.const (1+v1)).e]])]=.list ((eS (bS ⟨1+v1,[],none⟩)).map .d):=rfl
  have hby:Dat.tup [dh,.bool true,.none]=aa:=rfl
  rw [aX (d:=nG) rfl rfl]
  simp [am,ar,ah,af,ai,lr,av,aS,ij,j7,bC,bF,b4,b6,bO,bQ,aO,aB,lR,jR,j3,gb,aF,bo,aL,aM,aV,fo,aT,aH,ak,ao,aq,aJ,bG,bK,cA,nC,sd,aj,lZ,cW,cL,gJ,b5,d6,kC,ju,lim,-getElem?_pos,nG,h.len,hby,List.replicate,xX,p1,p2,p3,p4,h.norm,S1.norm,uc S1.len,-List.map_append,-cb,-exists_and_left]
  rw [hrow0]
  simp [am,cf,jl,iZ,aF,aL,aM,d0,dX,-getElem?_pos,S1.norm,p5,hits,-exists_and_left]
  generalize hf:ez _ _=f
  refine SmallR.el (xc n hf S2 its (by exact JU v21 r_.2 rfl) (c0:=1+v1) (x3:=none) (x6:=none)) fun base3 ops x3 x6 ho1 ho2 S3 eL=>?_
  rw [eL]
  refine TakeR.el (eE S3 (top:=2) (by decide) (by decide)) fun v4 base4 v40 v41 S4 k4=>?_
  have p6:=fg (n+1) (S3.app (okB (blks:=[]) (xs:=eS (bS ⟨1+v1,ops,none⟩)))) 2
  have p7:=k4 (n+1) _ (okB (blks:=[]) (xs:=eS (bS ⟨1+v1,ops,none⟩)))
  have hlen:(bS ⟨1+v1,ops,none⟩).length≤4:=kP ⟨by show ops.length≤2; exact GM v21 hitl ho1 rfl,ho2⟩
  have hlenA:(bS ⟨1+v1,ops,none⟩).length+2≤1048576:=by exact la hlen rfl
  by_cases hv:v4=0
  · subst hv
    refine ⟨⟨1+v1,ops,none⟩,base4,⟨by show ops.length≤2; exact GM v21 hitl ho1 rfl,ho2⟩,S4,?_⟩
    refine xe1 (pY S4.len (nm:=.h_) (ac:=1) (locs:=[aa,aa,aa]) (blks:=[Blk.e ⟨bS ⟨1+v1,ops,none⟩++fE,.ret⟩]) (rest:=[.list ((eS (bS ⟨1+v1,ops,none⟩)).map .d)])) fun r hr=>?_
    have hb:Dat.lst [.lst (eS (bS ⟨1+v1,ops,none⟩)++[.tup [.str .assign_,.tup [.int 0,.tup []],.tup [.str .use_,(Op.copy 2 none).e]],.tup [.str .dead_,.int 2]]),.tup [.str .return_]]=Blk.e ⟨bS ⟨1+v1,ops,none⟩++fE,.ret⟩:=by
      unfold Blk.e; rw [lc]; rfl
    simp [am,ae,ar,bz,b0,ah,af,jN,fb,ai,av,aS,bC,bF,b4,b6,bO,bQ,aP,ay,aA,aw,c3,cK,bE,bu,aO,aB,d8,de,c8,db,c9,gm,fk,ft,aF,bo,aL,aM,aV,bf,ct,bD,bn,cI,ce,aT,aH,bV,aU,ix,gV,mN,C0,nK,nM,bH,bw,aW,aj,im,cL,gK,b5,eU,d6,kN,lim,-getElem?_pos,S3.norm,S4.norm,p6,p7,jp S4.len,iR S4.len,kZ S4.len,jL S4.len,hlenA,hb,hr,-List.map_append,-cb]
    exact S4.drop rfl
  · refine TakeR.el (eE S4 (top:=4) (by decide) (by decide)) fun v5 base5 v50 v51 S5 k5=>?_
    refine ⟨⟨1+v1,ops,some v5⟩,base5,⟨by show ops.length≤2; exact GM v21 hitl ho1 rfl,ho2⟩,S5,?_⟩
    have hb0:Dat.lst [.lst (eS (bS ⟨1+v1,ops,none⟩)),.tup [.str .switch_,(Op.copy 1 none).e,.tup [.tup [.int v5,.int 1]],.int 2]]=Blk.e ⟨bS ⟨1+v1,ops,none⟩,.switch (.copy 1 none) v5 1 2⟩:=rfl
    have hb1:Dat.lst [.lst [.tup [.str .assign_,.tup [.int 0,.tup []],.tup [.str .use_,(Op.copy 2 none).e]],.tup [.str .dead_,.int 2]],.tup [.str .return_]]=Blk.e ⟨fE,.ret⟩:=rfl
    have hb2:Dat.lst [.lst [.tup [.str .print_,(Op.copy 2 none).e],.tup [.str .assign_,.tup [.int 0,.tup []],.tup [.str .use_,(Op.const 7).e]],.tup [.str .dead_,.int 2]],.tup [.str .return_]]=Blk.e ⟨ia,.ret⟩:=rfl
    refine xe1 (pY S5.len (nm:=.h_) (ac:=1) (locs:=[aa,aa,aa]) (blks:=[Blk.e ⟨bS ⟨1+v1,ops,none⟩,.switch (.copy 1 none) v5 1 2⟩,Blk.e ⟨fE,.ret⟩,Blk.e ⟨ia,.ret⟩]) (rest:=[.frz (.lst (eS (bS ⟨1+v1,ops,none⟩)))])) fun r hr=>?_
    have f1:=De S4.len (nm:=.h_) (ac:=1) (locs:=[aa,aa,aa]) (blks:=[]) (rest:=[]) (xs:=eS (bS ⟨1+v1,ops,none⟩))
    have p8:=fg (n+1) (S4.app (okF (blks:=[]) (d:=.lst (eS (bS ⟨1+v1,ops,none⟩))))) 1
    have p9:=k5 (n+1) _ (okF (blks:=[]) (d:=.lst (eS (bS ⟨1+v1,ops,none⟩))))
    have p10:=fg (n+1) (S5.app (okF (blks:=[Blk.e ⟨bS ⟨1+v1,ops,none⟩,.switch (.copy 1 none) v5 1 2⟩,Blk.e ⟨fE,.ret⟩]) (d:=.lst (eS (bS ⟨1+v1,ops,none⟩))))) 2
    have p11:=g5 (n+1) (S5.app (okF (blks:=[Blk.e ⟨bS ⟨1+v1,ops,none⟩,.switch (.copy 1 none) v5 1 2⟩,Blk.e ⟨fE,.ret⟩]) (d:=.lst (eS (bS ⟨1+v1,ops,none⟩))))) 7
    simp [am,ae,ar,bz,b0,ah,af,ai,av,aS,bC,bF,aP,ay,aA,aw,c3,cK,bE,bu,aO,aB,d8,de,c8,db,c9,gm,fk,ft,aF,bo,aL,aM,aV,bf,bh,bD,bn,cI,ce,bx,aT,aH,bV,aU,bH,bw,aW,aj,im,eX,cL,gK,b5,eU,d6,ni,kC,kN,lim,-getElem?_pos,S3.norm,S4.norm,S5.norm,p6,p7,p8,p9,p10,p11,jp S4.len,iR S4.len,kZ S4.len,jp S5.len,iR S5.len,jL S5.len,nt S5.len,uN S5.len,hv,f1,hb0,hb1,hb2,hr,-List.map_append,-cb,-cN]
    exact S5.drop rfl
end Mine.Internal
namespace Mine.Internal
theorem AY (n:Nat) {N s:Nat} {base:Mu} (h:Src N base s):∃ two base',Src N base' s∧an prog (n+2) .middle [.r s] base=some (.d ((ba two).e 0),base'):=by
  refine TakeR.el (eE h (top:=2) (by decide) (by decide)) fun v base1 v0 v1 S1 k1=>?_
  have okA:∀ {blks:List Dat},fT N (sC N .g_ 1 [aa,aa,aa] blks []):=ie fun k=>rfl
  have hby:Dat.tup [dh,.bool true,.none]=aa:=rfl
  have hb0:Dat.lst [.lst [.tup [.str .live_,.int 2]],.tup [.str .call_,.tup [.str .fn_,.str .h_,.tup []],.tup [(Op.copy 1 none).e],.tup [.int 2,.tup []],.int 1]]=Blk.e ⟨[.live 2],.call .h_ (.copy 1 none) 2 none 1⟩:=rfl
  have hb1:Dat.lst [.lst [.tup [.str .assign_,.tup [.int 2,.tup []],.tup [.str .binary_,.str .plus_,(Op.copy 2 none).e,(Op.copy 1 none).e]]],.tup [.str .call_,.tup [.str .fn_,.str .h_,.tup []],.tup [(Op.copy 2 none).e],.tup [.int 2,.tup []],.int 2]]=Blk.e ⟨[.assign 2 none (.bin .plus_ (.copy 2 none) (.copy 1 none))],.call .h_ (.copy 2 none) 2 none 2⟩:=rfl
  have hb2:Dat.lst [.lst [.tup [.str .assign_,.tup [.int 0,.tup []],.tup [.str .binary_,.str .xor_,(Op.copy 2 none).e,(Op.copy 1 none).e]],.tup [.str .dead_,.int 2]],.tup [.str .return_]]=Blk.e ⟨gLast,.ret⟩:=rfl
  have p1:=jg n h.len (nm:=.g_) (ac:=1) (locs:=[aa,aa,aa]) (by decide)
  have p2:=fg n (h.app (okA (blks:=[]))) 1
  have p3:=k1 n _ (okA (blks:=[Blk.e ⟨[.live 2],.call .h_ (.copy 1 none) 2 none 1⟩]))
  have p4:=fun blks l=>fg n (S1.app (okA (blks:=blks))) l
  have hcases:v=0∨v=1:=by omega
  rcases hcases with rfl | rfl
  · have it0:items (.rng 0 0 1)=some []:=rfl
    refine ⟨false,base1,S1,?_⟩
    refine xe1 (pY S1.len (nm:=.g_) (ac:=1) (locs:=[aa,aa,aa]) (blks:=[Blk.e ⟨[.live 2],.call .h_ (.copy 1 none) 2 none 1⟩,Blk.e ⟨gLast,.ret⟩]) (rest:=[])) fun r hr=>?_
    rw [aX (d:=iQ) rfl rfl]
    simp [am,ar,bz,b0,ah,af,ai,lr,av,aS,ij,j7,bC,bF,b4,b6,bO,bQ,c3,cK,bE,bu,aO,aB,lR,jR,j3,gb,cf,jl,d8,de,c8,db,c9,iZ,aF,bo,aL,aM,aV,cI,ce,fo,d0,aT,aH,ak,ao,aq,aJ,bG,bK,nC,sd,bH,aj,lZ,cL,gK,gJ,b5,eU,d6,lQ,lim,-getElem?_pos,iQ,h.len,hby,List.replicate,xX,p1,p2,p3,h.norm,S1.norm,jp h.len,iR h.len,jL h.len,hb0,-List.map_append,-cb]
    rw [it0]
    simp [am,ae,ar,bz,b0,ah,af,ai,av,aS,bC,bF,c3,cK,bE,bu,aO,aB,d8,de,c8,db,c9,gm,fk,ft,aF,bo,aL,aM,aV,bD,bn,cI,ce,dX,ii,aT,aH,bV,aU,bH,aj,ew,cL,gK,b5,eU,d6,kC,lim,-getElem?_pos,p4,S1.norm,jp S1.len,iR S1.len,nt S1.len,hb2,hr,-List.map_append,-cb,-cN]
    exact S1.drop rfl
  · have it1:items (.rng 0 1 1)=some [.int 0]:=rfl
    refine ⟨true,base1,S1,?_⟩
    refine xe1 (pY S1.len (nm:=.g_) (ac:=1) (locs:=[aa,aa,aa]) (blks:=[Blk.e ⟨[.live 2],.call .h_ (.copy 1 none) 2 none 1⟩,Blk.e ⟨[.assign 2 none (.bin .plus_ (.copy 2 none) (.copy 1 none))],.call .h_ (.copy 2 none) 2 none 2⟩,Blk.e ⟨gLast,.ret⟩]) (rest:=[])) fun r hr=>?_
    rw [aX (d:=iQ) rfl rfl]
    simp [am,ar,bz,b0,ah,af,ai,lr,av,aS,ij,j7,bC,bF,b4,b6,bO,bQ,c3,cK,bE,bu,aO,aB,lR,jR,j3,gb,cf,jl,d8,de,c8,db,c9,iZ,aF,bo,aL,aM,aV,cI,ce,fo,d0,aT,aH,ak,ao,aq,aJ,bG,bK,nC,sd,bH,aj,lZ,cL,gK,gJ,b5,eU,d6,lQ,lim,-getElem?_pos,iQ,h.len,hby,List.replicate,xX,p1,p2,p3,h.norm,S1.norm,jp h.len,iR h.len,jL h.len,hb0,-List.map_append,-cb]
    rw [it1]
    simp [am,ae,ar,bz,b0,ah,af,fb,ai,av,aS,bC,bF,b6,bO,bQ,c3,cK,bE,bu,aO,aB,dH,cf,ki,jY,d8,de,c8,db,c9,gm,fk,ft,aF,bo,aL,aM,aV,be,bD,bn,cI,ce,fH,dX,ii,gQ,fD,fS,cp,bx,aT,aH,bV,aU,cA,bH,aj,kO,ew,cL,gK,gJ,b5,eU,d6,kC,lQ,lim,-getElem?_pos,p4,S1.norm,jp S1.len,iR S1.len,nt S1.len,uN S1.len,hb1,hb2,hr,-List.map_append,-cb,-cN]
    exact S1.drop rfl
end Mine.Internal
namespace Mine.Internal
section
variable {N s:Nat} {base:Mu} {nm:W} {ac:Int} {locs blks:List Dat} {rest:List MObj}
theorem wi (h:base.length=N) {c d:MObj}:(base++sC N nm ac locs blks (c::d::rest))[N+5]? = some d:=by subst h; simp [sC]
theorem Ce (h:base.length=N) {c d e:MObj}:(base++sC N nm ac locs blks (c::d::rest)).set (N+5) e=base++sC N nm ac locs blks (c::e::rest):=by subst h; simp [sC]
theorem C5 (h:base.length=N) {xs:List Dat} {c:MObj}:freeze 4 (base++sC N nm ac locs blks (c::.list (xs.map .d)::rest)) (.r (N+5))=some (.lst xs,base++sC N nm ac locs blks (c::.frz (.lst xs)::rest)):=by
  rw [cN,wi h,gr,gU,fP,wi h,fG,Ce h]
theorem C3 (h:base.length=N):freeze 4 (base++sC N nm ac locs blks rest) (.r N)=some (.obj .body [.name,.argCount,.locals,.blocks,.spots] [.str nm,.int ac,.lst locs,.lst blks,.spots 0],base++([.frz (.obj .body [.name,.argCount,.locals,.blocks,.spots] [.str nm,.int ac,.lst locs,.lst blks,.spots 0]),.frz (.lst locs),.frz (.lst blks),.frz (.spots 0)]++rest)):=by
  subst h
  rw [cN]
  simp [sC,lz,cN,td,gr,th,fP,fG,qO,qj,rW,xg,r0,sg,gU]
end
noncomputable def aY (ms:List MD):List Dat:=ms.map fun m=>.tup [.str m.nm,.bool m.part]
noncomputable def dY (k:Nat):List Ca→List Blk
  | []=>[]
  | c::cs=>⟨c.rows,.call c.w c.o c.l c.j ((k+1:Nat):Int)⟩::dY (k+1) cs
theorem BO {k:Nat} {c:Ca} {cs:List Ca}:dY k (c::cs)=⟨c.rows,.call c.w c.o c.l c.j ((k+1:Nat):Int)⟩::dY (k+1) cs:=rfl
theorem vj {last:List St}:∀ {cs:List Ca} {k:Nat},cX k cs last=dY k cs++[⟨last,.ret⟩]
  | [],_=>rfl
  | c::cs,k=>by rw [By,BO,vj]; rfl
theorem jv:∀ {cs:List Ca} {k:Nat},(dY k cs).length=cs.length
  | [],_=>rfl
  | c::cs,k=>by rw [BO,List.length_cons,jv,List.length_cons]
theorem nU {c:Ca}:∀ {cs:List Ca} {k:Nat},dY k (cs++[c])=dY k cs++[⟨c.rows,.call c.w c.o c.l c.j ((k+cs.length+1:Nat):Int)⟩]
  | [],_=>rfl
  | d::cs,k=>by
    rw [List.cons_append,BO,BO,nU,List.length_cons,show k+1+cs.length+1=k+(cs.length+1)+1 by omega]; rfl
theorem sG {m:MD}:∀ {ms:List MD} {rows:List St},ms ≠ []→dy rows (ms++[m])=dy rows ms++[oi mRowsN m]
  | [],_,h=>absurd rfl h
  | [a],rows,_=>rfl
  | a::b::r,rows,_=>by
    rw [List.cons_append,yD,sG (by simp),yD]; rfl
noncomputable def o3:CSs:=match f_mainL.body with
  | .cons _ (.cons _ (.cons _ (.cons _ (.cons (.for_ _ _ b) _))))=>b
  | _=>.nil
inductive TurnR (n N s:Nat) (base:Mu) (rows:List St) (rv:Val) (X X':MObj) (locs:List Dat) (bl:List Blk) (cl:List Dat) (a1 x3 y6 y7 y8 y9 y10:Option Val):Prop
  | mk (m:MD) (base':Mu) (z6 z7 z8 z9:Option Val):MD.OK m→Src N base' s →
    ea (an prog (n+2)) [some (.r s),a1,some rv,x3,some (.r N),some (.r (N+4)),y6,y7,y8,y9,y10] (base++sC N .main_ 0 locs (eB bl) [.list (cl.map .d),X]) o3 =
      some (.next,[some (.r s),a1,some (.d (.lst (eS mRowsN))),x3,some (.r N),some (.r (N+4)),z6,z7,z8,z9,y10],base'++sC N .main_ 0 locs (eB (bl++[⟨rows,.call m.nm m.o (if m.part then 2 else 1) (if m.part then some 0 else none) ((bl.length+1:Nat):Int)⟩])) [.list ((cl++[Dat.tup [.str m.nm,.bool m.part]]).map .d),X']) →
    TurnR n N s base rows rv X X' locs bl cl a1 x3 y6 y7 y8 y9 y10
theorem rq (n:Nat) {N s:Nat} {base:Mu} (h:Src N base s) {rows:List St} {rv:Val} {X X':MObj} {locs:List Dat} (hX:∀ k,X.okB k=true) (hX':∀ k,X'.okB k=true)
    (hn:∀ (base:Mu) (blks:List Dat) (c:MObj),base.length=N→norm (base++sC N .main_ 0 locs blks [c,X]) rv=rv)
    (hfr:∀ (base:Mu) (blks:List Dat) (c:MObj),base.length=N→freeze 4 (base++sC N .main_ 0 locs blks [c,X]) rv=some (.lst (eS rows),base++sC N .main_ 0 locs blks [c,X']))
    {bl:List Blk} {cl:List Dat} (hbl:bl.length≤100) (hcl:cl.length≤100) {a1 x3 y6 y7 y8 y9 y10:Option Val} :
    TurnR n N s base rows rv X X' locs bl cl a1 x3 y6 y7 y8 y9 y10:=by
  refine OneR.el (oS h (things:=[.str .h_,.str .g_,.str .g_]) (by decide) (by decide)) fun w' base1 hw' S1 k1=>?_
  obtain ⟨w,rfl,hw⟩ : ∃ w,w'=.str w∧(w=.h_∨w=.g_):=by
    have:w'=.str .h_∨w'=.str .g_:=by simpa using hw'
    rcases this with rfl | rfl
    · exact ⟨_,rfl,.inl rfl⟩
    · exact ⟨_,rfl,.inr rfl⟩
  refine TakeR.el (eE S1 (top:=4) (by decide) (by decide)) fun v base2 v0 v1 S2 k2=>?_
  refine OneR.el (oS S2 (things:=[(Op.copy 1 none).e,(Op.const 3).e,(Op.copy 2 (some 1)).e]) (by simp) (by simp)) fun x' base3 hx' S3 k3=>?_
  obtain ⟨o,rfl,ho⟩ : ∃ o:Op,x'=o.e∧(o=.copy 1 none∨o=.const 3∨o=.copy 2 (some 1)):=by
    have:x'=(Op.copy 1 none).e∨x'=(Op.const 3).e∨x'=(Op.copy 2 (some 1)).e:=by simpa using hx'
    rcases this with rfl | rfl | rfl
    · exact ⟨_,rfl,.inl rfl⟩
    · exact ⟨_,rfl,.inr (.inl rfl)⟩
    · exact ⟨_,rfl,.inr (.inr rfl)⟩
  have ok:∀ {blks cl:List Dat},fT N (sC N .main_ 0 locs blks [.list (cl.map .d),X]):=fun {_ _}=>ie fun k=>by simp only [List.all_cons,List.all_nil,mt,hX,Bool.and_true]
  have ok':∀ {blks cl:List Dat},fT N (sC N .main_ 0 locs blks [.list (cl.map .d),X']):=fun {_ _}=>ie fun k=>by simp only [List.all_cons,List.all_nil,mt,hX',Bool.and_true]
  have p1:=k1 n _ (ok (blks:=eB bl) (cl:=cl))
  have p2:=k2 (n+1) _ (ok (blks:=eB bl) (cl:=cl))
  have p3:=k3 n _ (ok (blks:=eB bl) (cl:=cl))
  have p4:=fg (n+1) (S2.app (ok (blks:=eB bl) (cl:=cl))) 1
  have p5:=g5 (n+1) (S2.app (ok (blks:=eB bl) (cl:=cl))) 3
  have he:Dat.tup [.str .copy_,.tup [.int 2,.tup [.tup [.str .field_,.int 1]]]]=(Op.copy 2 (some 1)).e:=rfl
  have hbl1:bl.length < 1048576:=by exact tb hbl rfl
  have hbl2:bl.length≤1048576:=by exact lb hbl rfl
  have hcl1:cl.length < 1048576:=by exact tb hcl rfl
  have hprt:Dat.lst [.tup [.str .print_,(Op.copy 1 none).e],.tup [.str .print_,.tup [.str .copy_,.tup [.int 2,.tup [.tup [.str .field_,.int 0]]]]]]=.lst (eS mRowsN):=rfl
  have p6:=fun blks cl=>fg (n+1) (S3.app (ok' (blks:=blks) (cl:=cl))) 1
  by_cases hv:v=0
  · refine ⟨⟨w,true,o⟩,base3,some (.d o.e),some (.d (eF 2 (some 0))),some (.d (.str w)),some (.d (.bool true)),⟨hw,ho⟩,S3,?_⟩
    have hb:Dat.lst [.lst (eS rows),.tup [.str .call_,.tup [.str .fn_,.str w,.tup []],.tup [o.e],.tup [.int 2,.tup [.tup [.str .field_,.int 0]]],.int ((bl.length:Int)+1)]]=Blk.e ⟨rows,.call w o 2 (some 0) ((bl.length+1:Nat):Int)⟩:=rfl
    have hB:eB bl++[Blk.e ⟨rows,.call w o 2 (some 0) ((bl.length+1:Nat):Int)⟩]=eB (bl++[⟨rows,.call w o 2 (some 0) ((bl.length+1:Nat):Int)⟩]):=by rw [lh]; rfl
    have hpl:Dat.tup [.int 2,.tup [.tup [.str .field_,.int 0]]]=eF 2 (some 0):=rfl
    simp [am,ae,ar,bz,b0,ah,af,fb,ai,av,aS,bC,bF,b6,bO,bQ,aP,ay,aA,aw,dQ,gB,c3,cK,bE,bu,aO,aB,dH,cf,ki,jY,d8,de,c8,db,c9,gm,fk,ft,aF,bo,aL,aM,aV,cT,nv,be,cI,ce,bx,aT,aH,ak,ao,aq,aJ,d9,eK,cA,bH,bw,aW,aj,cW,gO,v8,kA,kw,cL,gK,b5,eU,d6,ni,lQ,nA,kN,lim,-getElem?_pos,o3,f_mainL,h.norm,S1.norm,S2.norm,S3.norm,p1,p2,p3,p4,p5,p6,he,hv,hbl1,hbl2,hcl1,jp S3.len,iR S3.len,kZ S3.len,sb S3.len,nE S3.len,hn _ _ _ S3.len,hfr _ _ _ S3.len,hb,hB,hprt,-List.map_append,-cb,-cN]
    exact ⟨rfl,by rw [lh]; rfl⟩
  · refine ⟨⟨w,false,o⟩,base3,some (.d o.e),some (.d (eF 1 none)),some (.d (.str w)),some (.d (.bool false)),⟨hw,ho⟩,S3,?_⟩
    have hb:Dat.lst [.lst (eS rows),.tup [.str .call_,.tup [.str .fn_,.str w,.tup []],.tup [o.e],.tup [.int 1,.tup []],.int ((bl.length:Int)+1)]]=Blk.e ⟨rows,.call w o 1 none ((bl.length+1:Nat):Int)⟩:=rfl
    have hB:eB bl++[Blk.e ⟨rows,.call w o 1 none ((bl.length+1:Nat):Int)⟩]=eB (bl++[⟨rows,.call w o 1 none ((bl.length+1:Nat):Int)⟩]):=by rw [lh]; rfl
    have hpl:Dat.tup [.int 1,.tup []]=eF 1 none:=rfl
    simp [am,ae,ar,bz,b0,ah,af,fb,ai,av,aS,bC,bF,b6,bO,bQ,aP,ay,aA,aw,dQ,eR,c3,cK,bE,bu,aO,aB,dH,cf,ki,jY,d8,de,c8,db,c9,gm,fk,ft,aF,bo,aL,aM,aV,cT,nv,be,cI,ce,bx,aT,aH,ak,ao,aq,aJ,d9,eK,cA,bH,bw,aW,aj,cW,gO,v8,kA,kw,cL,gK,b5,eU,d6,ni,lQ,nA,kN,lim,-getElem?_pos,o3,f_mainL,h.norm,S1.norm,S2.norm,S3.norm,p1,p2,p3,p4,p5,p6,he,hv,hbl1,hbl2,hcl1,jp S3.len,iR S3.len,kZ S3.len,sb S3.len,nE S3.len,hn _ _ _ S3.len,hfr _ _ _ S3.len,hb,hB,hprt,-List.map_append,-cb,-cN]
    exact ⟨rfl,by rw [lh]; rfl⟩
end Mine.Internal
namespace Mine.Internal
section
variable {N s:Nat} {base:Mu} {nm:W} {ac:Int} {locs blks:List Dat} {rest:List MObj}
theorem qT (h:base.length=N):freeze 4 (base++sC N nm ac locs blks rest) (.r N)=some (.obj .body [.name,.argCount,.locals,.blocks,.spots] [.str nm,.int ac,.lst locs,.lst blks,.spots 0],base++(.frz (.obj .body [.name,.argCount,.locals,.blocks,.spots] [.str nm,.int ac,.lst locs,.lst blks,.spots 0])::.frz (.lst locs)::.frz (.lst blks)::.frz (.spots 0)::rest)):=C3 h
theorem xm (h:base.length=N) {a b c d e:MObj}:(base++(a::b::c::d::e::rest))[N+4]? = some e:=by subst h; simp
theorem CP (h:base.length=N) {a b c d:MObj} {xs:List Dat}:freeze 4 (base++(a::b::c::d::.list (xs.map .d)::rest)) (.r (N+4))=some (.lst xs,base++(a::b::c::d::.frz (.lst xs)::rest)):=by
  rw [cN,xm h,gr,gU,fP,xm h,fG]
  subst h; simp
end
theorem Dp {xs:List Dat} {u v w:Dat}:xs.map Val.d++[Val.d u,Val.d v,Val.d w]=(xs++[u,v,w]).map Val.d:=by rw [List.map_append]; rfl
theorem wZ {ms:List MD}:(aY ms).length=ms.length:=List.length_map ..
inductive MainR (N s:Nat) (c0:Int) (locs:List Dat) (f:ag→Mu→Rx) (a1 y10:Option Val) (its:List Dat) (base:Mu) (ms:List MD) (x3 y6 y7 y8 y9:Option Val):Prop
  | mk (base' ms' x3' z6 z7 z8 z9):ms' ≠ []→(∀ m ∈ ms',m.OK)→ms'.length=ms.length+its.length→Src N base' s →
    cY f [3] its [some (.r s),a1,some (.d (.lst (eS mRowsN))),x3,some (.r N),some (.r (N+4)),y6,y7,y8,y9,y10] (base++sC N .main_ 0 locs (eB (dY 0 (dy (bA c0) ms))) [.list ((aY ms).map .d),.frz (.lst (eS (bA c0)))]) =
        some (.next,[some (.r s),a1,some (.d (.lst (eS mRowsN))),x3',some (.r N),some (.r (N+4)),z6,z7,z8,z9,y10],base'++sC N .main_ 0 locs (eB (dY 0 (dy (bA c0) ms'))) [.list ((aY ms').map .d),.frz (.lst (eS (bA c0)))]) →
    MainR N s c0 locs f a1 y10 its base ms x3 y6 y7 y8 y9
theorem rf {N s:Nat} (n:Nat) {c0:Int} {locs:List Dat} {f:ag→Mu→Rx} (hf:ez (an prog (n+2)) o3=f) {a1 y10:Option Val}:∀ (its:List Dat) {base:Mu} (h:Src N base s) {ms:List MD} (h0:ms ≠ []) (hok:∀ m ∈ ms,m.OK) (hl:ms.length+its.length≤20) {x3 y6 y7 y8 y9:Option Val},
    MainR N s c0 locs f a1 y10 its base ms x3 y6 y7 y8 y9
  | [],base,h,ms,h0,hok,hl,x3,y6,y7,y8,y9=>⟨base,ms,x3,y6,y7,y8,y9,h0,hok,rfl,h,rfl⟩
  | x::its,base,h,ms,h0,hok,hl,x3,y6,y7,y8,y9=>by
    rw [List.length_cons] at hl
    obtain ⟨m,base1,z6,z7,z8,z9,hm,S1,e⟩:=rq n h (rows:=mRowsN) (rv:=.d (.lst (eS mRowsN))) (X:=.frz (.lst (eS (bA c0)))) (X':=.frz (.lst (eS (bA c0)))) (locs:=locs) (fun Z=>rfl) (fun Z=>rfl) (fun Z Z Z Z=>rfl) (fun Z Z Z Z=>lz)
      (bl:=dY 0 (dy (bA c0) ms)) (cl:=aY ms) (by rw [jv,hO]; exact lq hl rfl) (by rw [wZ]; exact lq hl rfl) (a1:=a1) (x3:=some (.d x)) (y6:=y6) (y7:=y7) (y8:=y8) (y9:=y9) (y10:=y10)
    have hb:dY 0 (dy (bA c0) ms)++[⟨mRowsN,.call m.nm m.o (if m.part then 2 else 1) (if m.part then some 0 else none) (((dY 0 (dy (bA c0) ms)).length+1:Nat):Int)⟩]=dY 0 (dy (bA c0) (ms++[m])):=by
      rw [sG h0,nU,jv,Nat.zero_add]; rfl
    have hc:aY ms++[Dat.tup [.str m.nm,.bool m.part]]=aY (ms++[m]):=by unfold aY; rw [List.map_append]; rfl
    rw [hb,hc] at e
    obtain ⟨base',ms',x3',u6,u7,u8,u9,i1,i2,i3,i4,i5⟩:=rf n hf its S1 (ms:=ms++[m]) (by simp) (fun k hk=>by
      rcases List.mem_append.mp hk with hk | hk
      · exact hok k hk
      · rw [List.mem_singleton] at hk; subst hk; exact hm) (by simp; exact eH hl) (x3:=some (.d x)) (y6:=z6) (y7:=z7) (y8:=z8) (y9:=z9)
    refine ⟨base',ms',x3',u6,u7,u8,u9,i1,i2,by rw [i3]; simp; exact ad1,i4,?_⟩
    rw [gQ,cp]
    simp only [hY,be,List.length_cons,List.length_nil,Nat.reduceAdd,Nat.reduceLT,if_true,fD,List.set_cons_succ,List.set_cons_zero]
    rw [← hf,fH,e,fS,hf,i5]
theorem EV (n:Nat) {N s:Nat} {base:Mu} (h:Src N base s):∃ c0 ms base',ms ≠ []∧(∀ m ∈ ms,MD.OK m)∧ms.length≤3∧Src N base' s∧an prog (n+3) .mainL [.r s] base=some (.d (.tup [(aK c0 ms).e 0,.lst (aY ms)]),base'):=by
  refine TakeR.el (eE h (top:=256) (by decide) (by decide)) fun c0 base1 c00 c01 S1 k1=>?_
  refine TakeR.el (eE S1 (top:=3) (by decide) (by decide)) fun v2 base2 v20 v21 S2 k2=>?_
  refine xe1 (Gs (v:=1+v2) (by exact oa v20 rfl) (by exact ob v21 rfl)) fun its r_=>aN r_ fun hits hitl=>?_
  have okA:∀ {r:List MObj},(∀ k,r.all (MObj.okB k)=true)→fT N (sC N .main_ 0 [aa,aa,hG] [] r):=ie
  have hby:Dat.tup [dh,.bool true,.none]=aa:=rfl
  have hbp:Dat.tup [.tup [.str .tuple_,.tup [dh,dh]],.bool true,.none]=hG:=rfl
  have p1:=jg (n+1) h.len (nm:=.main_) (ac:=0) (locs:=[aa,aa,hG]) (by decide)
  have p2:=k1 (n+1) _ (okA (r:=[.list []]) fun Z=>rfl)
  have p3:=g5 (n+1) (S1.app (okA (r:=[.list []]) fun Z=>rfl)) c0
  have hrow3:MObj.list [Val.d (Dat.tup [.str .live_,.int 1]),Val.d (Dat.tup [.str .live_,.int 2]),Val.d (Dat.tup [.str .assign_,.tup [.int 1,.tup []],.tup [.str .use_,(Op.const c0).e]])]=.list (([St.live 1,.live 2,.assign 1 none (.use (.const c0))].map St.e).map .d):=rfl
  have ok3:∀ {xs:List Dat},fT N (sC N .main_ 0 [aa,aa,hG] [] [.list [],.list (xs.map .d)]):=fun {xs}=>okA fun k=>by simp only [List.all_cons,List.all_nil,mt,Bool.and_true]; rfl
  have p4:=fg (n+1) (S1.app (ok3 (xs:=[St.live 1,.live 2,.assign 1 none (.use (.const c0))].map St.e))) 1
  have p5:=g5 (n+1) (S1.app (ok3 (xs:=[St.live 1,.live 2,.assign 1 none (.use (.const c0))].map St.e))) 5
  have p6:=k2 (n+1) _ (ok3 (xs:=eS (bA c0)))
  cases hi:its with
  | nil=>rw [hi] at hitl; simp at hitl; omega
  | cons x its' =>
    rw [hi,List.length_cons] at hitl
    obtain ⟨m,base3,z6,z7,z8,z9,hm,S3,eT⟩:=rq n S2 (rows:=bA c0) (rv:=.r (N+5)) (X:=.list ((eS (bA c0)).map .d)) (X':=.frz (.lst (eS (bA c0)))) (locs:=[aa,aa,hG]) (fun Z=>mt) (fun Z=>rfl) (fun b bl c hb=>by rw [ar,wi hb]; rfl) (fun b bl c hb=>C5 hb)
      (bl:=[]) (cl:=[]) (by simp) (by simp) (a1:=some (.d (.lst [dh,dh,.tup [.str .tuple_,.tup [dh,dh]]]))) (x3:=some (.d x)) (y6:=none) (y7:=none) (y8:=none) (y9:=none) (y10:=none)
    have hb0:([]:List Blk)++[⟨bA c0,.call m.nm m.o (if m.part then 2 else 1) (if m.part then some 0 else none) ((([]:List Blk).length+1:Nat):Int)⟩]=dY 0 (dy (bA c0) [m]):=rfl
    have hc0:([]:List Dat)++[Dat.tup [.str m.nm,.bool m.part]]=aY [m]:=rfl
    rw [hb0,hc0] at eT
    obtain ⟨base4,ms,x3',u6,u7,u8,u9,i1,i2,i3,S4,eL⟩:=rf n (c0:=c0) (locs:=[aa,aa,hG]) rfl its' S3 (ms:=[m]) (by simp) (fun k hk=>by
      rw [List.mem_singleton] at hk; subst hk; exact hm) (by simp; omega) (a1:=some (.d (.lst [dh,dh,.tup [.str .tuple_,.tup [dh,dh]]]))) (y10:=none) (x3:=some (.d x)) (y6:=z6) (y7:=z7) (y8:=z8) (y9:=z9)
    have hmsl:ms.length≤3:=by rw [i3]; simp; omega
    refine ⟨c0,ms,base4,i1,i2,hmsl,S4,?_⟩
    rw [aX (d:=f_mainL) rfl rfl]
    simp [am,ae,ar,ah,af,ai,lr,av,aS,ij,j7,bC,jE,bF,b4,b6,bO,bQ,aO,aB,lR,jR,j3,d8,er,dl,dZ,cm,cn,cj,gn,eh,c5,cV,eA,dR,aF,bo,aL,aM,aV,cT,nv,be,cI,cp,aT,aH,ak,ao,aq,aJ,bG,bK,Dy,aj,lZ,cW,iu,nP,lj,cL,gK,b5,d6,ni,ju,nA,lim,-getElem?_pos,f_mainL,h.len,hby,hbp,xX,p1,p2,p3,h.norm,S1.norm,uc h.len,uc S1.len,-List.map_append,-cb]
    have hN5:N+4+1=N+5:=rfl
    rw [← hrow3] at p4 p5
    have hrow4:MObj.list [Val.d (Dat.tup [.str .live_,.int 1]),Val.d (Dat.tup [.str .live_,.int 2]),Val.d (Dat.tup [.str .assign_,.tup [.int 1,.tup []],.tup [.str .use_,(Op.const c0).e]]),Val.d (Dat.tup [.str .assign_,.tup [.int 2,.tup []],.tup [.str .tuple_,.tup [(Op.copy 1 none).e,(Op.const 5).e]]])]=.list ((eS (bA c0)).map .d):=rfl
    simp [am,ar,bz,ah,af,ai,av,aS,bC,b6,bO,aO,aB,gb,de,c8,db,c9,aF,bo,aL,aM,ce,fo,aT,aH,aj,cL,b5,d6,lim,-getElem?_pos,hN5,p4,p5,S1.norm,wi S1.len,Ce S1.len,-List.map_append,-cb]
    rw [hrow4]
    rw [hi] at hits
    simp [am,bQ,cf,jl,iZ,aF,aL,aM,d0,cA,-getElem?_pos,p6,S1.norm]
    rw [hits]
    simp only [dX]
    generalize hf:ez _ _=f
    have hf':ez (an prog (n+2)) o3=f:=hf
    rw [← fH,hf'] at eT
    rw [hf'] at eL
    simp only [List.map_nil,show eB []=[] from rfl] at eT
    rw [gQ,cp]
    simp only [hY,be,List.length_cons,List.length_nil,Nat.reduceAdd,Nat.reduceLT,if_true,fD,List.set_cons_succ,List.set_cons_zero]
    rw [eT,fS,eL]
    have ok4:∀ {blks:List Dat},fT N (sC N .main_ 0 [aa,aa,hG] blks [.list ((aY ms).map .d),.frz (.lst (eS (bA c0)))]):=ie fun k=>by simp only [List.all_cons,List.all_nil,mt,Bool.and_true]; rfl
    have p7:=fg (n+1) (S4.app (ok4 (blks:=eB (dY 0 (dy (bA c0) ms))))) 1
    have hrE:eS mRowsN++[Dat.tup [.str .assign_,.tup [.int 0,.tup []],.tup [.str .use_,(Op.copy 1 none).e]],.tup [.str .dead_,.int 1],.tup [.str .dead_,.int 2]]=eS (mRowsN++mEnd):=by rw [lc]; rfl
    have hbE:Dat.lst [.lst (eS (mRowsN++mEnd)),.tup [.str .return_]]=Blk.e ⟨mRowsN++mEnd,.ret⟩:=rfl
    have hBE:eB (dY 0 (dy (bA c0) ms))++[Blk.e ⟨mRowsN++mEnd,.ret⟩]=eB (cX 0 (dy (bA c0) ms) (mRowsN++mEnd)):=by rw [vj,lh]; rfl
    have hl1:(dY 0 (dy (bA c0) ms)).length < 1048576:=by rw [jv,hO]; exact tb hmsl rfl
    have hl2:mRowsN.length+mEnd.length≤1048576:=by simp [mRowsN,mEnd]
    simp [am,ae,ar,bz,b0,ah,af,jN,ai,av,aS,bC,bF,b4,b6,bO,bQ,c3,cK,bE,bu,aO,aB,d8,de,c8,db,c9,gm,fk,ft,lz,aF,bo,aL,aM,aV,bD,bn,cI,ce,aT,aH,bV,aU,ix,d9,gV,eK,lA,nK,nM,bH,aj,cW,cL,gK,b5,eU,d6,ni,lim,-getElem?_pos,p7,Dp,hrE,hbE,hBE,hl1,hl2,S4.norm,jp S4.len,iR S4.len,kZ S4.len,nE S4.len,qT S4.len,xm S4.len,CP S4.len,-List.map_append,-cb,-cN]
    exact S4.drop rfl
end Mine.Internal
namespace Mine.Internal
theorem qB (n:Nat) {mu:Mu} (h:WFm mu) {b:Bd} {k:Nat} (hl:b.blks.length≤1000):an prog (n+1) .calls [.d (b.e k)] mu=some (.d (.lst ((cz b.blks).map .str)),mu):=by
  have loop:∀ (bl:List Blk) {x y:Option Val},cD (mj (an prog n) (.sub (.sub (.loc 2) (.int 1)) (.int 1)) (.cmp .eq (.sub (.loc 2) (.int 0)) (.str .call_))) [1,2] (eB bl) [some (.d (b.e k)),x,y] mu=some (((cz bl).map Dat.str).map .d,mu):=fun bl=>by
    induction bl with
    | nil=>intro x y; rfl
    | cons c r ih =>
      intro x y
      have i:=ih (x:=some (.d (.lst (eS c.sts)))) (y:=some (.d c.tm.e))
      rw [show eB (c::r)=c.e::eB r from rfl]
      cases hc:c.tm with
      | ret =>
        rw [hc] at i
        have hcl:cz (c::r)=cz r:=by unfold cz; rw [List.filterMap_cons]; unfold Blk.callee; rw [hc]
        simp [am,ae,ah,af,ai,av,aS,aP,ay,aA,aw,aQ,ax,az,ee,jj,eh,c5,cV,be,lH,q_bind2,bw,aW,aj,rZ,kO,bR,-getElem?_pos,hc,hcl] at i ⊢
        rw [i]; rfl
      | goto g =>
        rw [hc] at i
        have hcl:cz (c::r)=cz r:=by unfold cz; rw [List.filterMap_cons]; unfold Blk.callee; rw [hc]
        simp [am,ae,ah,af,ai,av,aS,aP,ay,aA,aw,aQ,ax,az,ee,jj,eh,c5,cV,be,lB,q_bind2,bw,aW,aj,rZ,kO,bR,-getElem?_pos,hc,hcl] at i ⊢
        rw [i]; rfl
      | switch o v a e =>
        rw [hc] at i
        have hcl:cz (c::r)=cz r:=by unfold cz; rw [List.filterMap_cons]; unfold Blk.callee; rw [hc]
        simp [am,ae,ah,af,ai,av,aS,aP,ay,aA,aw,aQ,ax,az,ee,jj,eh,c5,cV,be,ke,q_bind2,bw,aW,aj,rZ,kO,bR,-getElem?_pos,hc,hcl] at i ⊢
        rw [i]; rfl
      | call w o l j nx =>
        rw [hc] at i
        have hcl:cz (c::r)=w::cz r:=by unfold cz; rw [List.filterMap_cons]; unfold Blk.callee; rw [hc]
        simp [am,ae,ah,af,ai,av,aS,aP,ay,aA,aw,aQ,ax,az,dl,ee,kb,eh,c5,cV,be,tN,tI,q_bind2,bw,aW,aj,rZ,kO,gi,bR,-getElem?_pos,hc,hcl] at i ⊢
        rw [i]; rfl
  rw [aX (d:=nN) rfl rfl]
  have l:=loop b.blks (x:=none) (y:=none)
  have hcl:(cz b.blks).length≤1048576:=by
    have:=List.length_filterMap_le Blk.callee b.blks
    unfold cz; exact vu hl this rfl
  simp [am,ae,ah,af,ai,bE,bu,gX,cm,cn,dR,bD,aT,aq,aJ,eV,aj,-getElem?_pos,nN]
  rw [l]
  simp [b4,cj,bn,bV,aU,gV,lim,-getElem?_pos,hcl,-List.map_map]
  exact bB h rfl
set_option tactic.hygienic true in
theorem Fi (n:Nat) {base:Mu} {k0:Nat} (h:WFm base) {row:List Int} (hk:base[k0]? = some (.list (row.map fun x=>.d (.int x)))) (hrow:row.length≤100) {l:List Int} (hl:l.length≤100) :
    ∃ r s N,an prog (n+1) .pool [.d (.lst (l.map .int)),.r k0] base=some (.r s,base++r)∧Src N (base++r) s:=by
  have hkl:k0 < base.length:=(List.getElem?_eq_some_iff.mp hk).1
  have hn:∀ r:List MObj,iB k0 (base++r)[k0]? = .r k0:=fun r=>by rw [gI hk]; rfl
  have hn0:iB k0 base[k0]? = .r k0:=by rw [hk]; rfl
  rw [aX (d:=mx) rfl rfl]
  cases l with
  | nil =>
    refine ⟨[.list [.d (.int 0),.d (.int 820607),.r k0]],base.length,base.length+1,?_,by simp,h.app (by simp [tu,pO,sm,s7]; exact ls hkl),0,820607,k0,row,by simp,gI hk,by exact Nat.ne_of_lt hkl,hrow⟩
    simp [am,ae,ar,ah,af,ai,av,bF,cb,b6,bO,bQ,wO,sH,aP,ay,aA,aw,dQ,gB,eR,uE,lx,cf,BN,mP,aF,bo,aL,aM,aV,bD,bn,aT,aH,bV,ak,ao,aq,aJ,bK,aU,cA,lG,ql,je,zh,B6,bw,iA,aW,w0,sZ,wu,tG,wm,FT,aj,cW,ew,im,iV,ju,lim,-getElem?_pos,tH,mx,hn0,cE]
  | cons c l =>
    have hp:=(jC (xs:=l)).1
    generalize hbig:(if c < -1 - c then -1 - c else c)=big
    refine ⟨[.list [],.list [.d (.int (big * (if 10 ^ 18≤big then 1 else 0))),.d (.int (((big.fmod 2147483629+17) * 48271).fmod 2147483647)),.r base.length]],base.length+1,base.length+2,?_,by simp,h.app (by simp [tu,pO,sm,s7]),_,_,base.length,[],by simp; exact ⟨rfl,rfl⟩,by simp,by omega,by simp⟩
    have hg:(if 1000000000000000000≤big then (1:Int) else 0).natAbs < 18446744073709551616:=by split <;> decide
    simp [am,ae,ah,af,ai,av,bF,cb,b6,bO,bQ,wO,sH,aP,ay,aA,aw,dQ,gB,eR,aQ,ax,az,dE,dF,bX,uE,lx,cf,BN,mP,aF,bo,aL,aM,aV,bD,bn,aT,aH,bV,ak,ao,aq,aJ,bG,bK,aU,cA,lG,ql,je,zh,B6,bw,iA,aW,BC,w0,sZ,zE,GV,wu,tG,EA,wm,yb,aj,cW,ew,im,iV,ju,lim,-getElem?_pos,tH,mx,hn0,cE,hp,hbig,hg]
end Mine.Internal
namespace Mine.Internal
theorem IR {P:Prop} (h:false=true):P:=(Bool.false_ne_true h).elim
mutual
theorem ue:∀ d:Dat,d.plain=true→d.eqv d=some true
  | .none=>fun Z=>rfl
  | .bool a=>fun Z=>congrArg some (beq_self_eq_true a)
  | .int a=>fun Z=>congrArg some (decide_eq_true rfl)
  | .str a=>fun Z=>congrArg some (decide_eq_true rfl)
  | .tup xs=>fun h=>mQ xs h
  | .lst xs=>fun h=>mQ xs h
  | .any | .dct _ _ | .obj _ _ _ | .rng _ _ _ | .spots _=>fun h=>IR h
theorem mQ:∀ l:List Dat,cQ l=true→iG l l=some true
  | []=>fun Z=>rfl
  | x::r=>fun h=>by
    have h:=Eq.mp (Bool.and_eq_true _ _) (show (x.plain && cQ r)=true from h)
    show (Dat.eqv x x).bind (fun a=>(iG r r).map fun b=>a && b)=some true
    rw [ue x h.1,mQ r h.2]
    rfl
end
theorem ta {d:Dat} (h1:d.plain=true) (h2:d.dep≤64):gE d d=some true:=by
  unfold gE
  rw [h1,Nat.min_self,decide_eq_true h2]
  exact ue d h1
theorem mf:∀ {l:List W},cQ (l.map .str)=true∧gf (l.map .str)=0
  | []=>⟨rfl,rfl⟩
  | x::r=>by
    obtain ⟨h1,h2⟩:=mf (l:=r)
    exact ⟨by rw [List.map_cons,uT,h1]; rfl,by rw [List.map_cons,qG,h2]; rfl⟩
theorem Ac {l:List W}:gE (.lst (l.map .str)) (.lst (l.map .str))=some true :=
  ta (by rw [Cr]; exact mf.1) (by rw [BD,mf.2]; decide)
theorem tn:∀ {l:List V},cQ (l.map V.e)=true∧gf (l.map V.e)≤1
  | []=>⟨rfl,by rw [List.map_nil,Je]; decide⟩
  | x::r=>by
    obtain ⟨h1,h2⟩:=tn (l:=r)
    refine ⟨by rw [List.map_cons,uT,h1]; cases x <;> rfl,?_⟩
    rw [List.map_cons,qG]
    have:(V.e x).dep≤1:=by cases x <;> exact Nat.le_of_ble_eq_true rfl
    omega
noncomputable def bU (ps:List V) (z:Int):Dat:=.tup [.lst (ps.map V.e),.tup [.int z,.bool true]]
theorem uF {ps:List V} {z:Int}:gE (bU ps z) (bU ps z)=some true:=by
  have h:=tn (l:=ps)
  refine ta ?_ ?_
  · unfold bU
    rw [JB,uT,Cr,h.1]; rfl
  · unfold bU
    rw [Jy,qG,BD]
    exact Nat.succ_le_succ (Nat.max_le.2 ⟨Nat.succ_le_succ (lb h.2 rfl),Nat.le_of_ble_eq_true rfl⟩)
noncomputable def g9 (a:List (Option Val)) (x y z:Option Val):ag:=a++[x,y,z]
theorem wh (p:MD→Bool) (g:MD→Dat) {f:ag→Mu→Ro} {mu:Mu} {a:List (Option Val)} {z:Option Val} (ha:a.length=14):∀ (ms:List MD) {x y:Option Val},
    (∀ m ∈ ms,f (g9 a (some (.d (.str m.nm))) (some (.d (.bool m.part))) z) mu=some (if p m then some (.d (g m)) else none,mu)) →
    cD f [14,15] (aY ms) (g9 a x y z) mu=some (((ms.filter p).map g).map .d,mu)
  | [],x,y,h=>rfl
  | m::r,x,y,h=>by
    have e1:cU [14,15] (.tup [.str m.nm,.bool m.part]) (g9 a x y z)=some (g9 a (some (.d (.str m.nm))) (some (.d (.bool m.part))) z):=by
      rw [HM,if_pos (show [14,15].length=[Dat.str m.nm,Dat.bool m.part].length from rfl)]
      simp only [List.map_cons,List.map_nil,hY,be]
      have l1:(g9 a x y z).length=17:=by unfold g9; simp [ha]
      have l2:(g9 a x y z).set 14 (some (.d (.str m.nm)))=g9 a (some (.d (.str m.nm))) y z:=by unfold g9; simp [ha]
      have l3:(g9 a (some (.d (.str m.nm))) y z).length=17:=by unfold g9; simp [ha]
      have l4:(g9 a (some (.d (.str m.nm))) y z).set 15 (some (.d (.bool m.part)))=g9 a (some (.d (.str m.nm))) (some (.d (.bool m.part))) z:=by unfold g9; simp [ha]
      rw [l1,if_pos (by decide),l2,l3,if_pos (by decide),l4]
    have ih:=wh p g ha r (x:=some (.d (.str m.nm))) (y:=some (.d (.bool m.part))) (f:=f) (mu:=mu) fun k hk=>h k (.tail _ hk)
    rw [show aY (m::r)=.tup [.str m.nm,.bool m.part]::aY r from rfl,eh,e1,c5,h m (.head _)]
    rw [List.filter_cons]
    cases hp:p m with
    | true=>rw [if_pos rfl,cV,ih,eA]; rfl
    | false=>rw [if_neg (by decide),cV,ih,wP]; rfl
theorem tQ {P:W→Option Bd} {rows:List St} {m:MD}:bZ P (oi rows m)=if m.part then none else P m.nm:=by
  unfold bZ oi
  cases m.part <;> rfl
theorem qi {P:W→Option Bd}:∀ (ms:List MD) {rows:List St},((dy rows ms).filter fun c=>(bZ P c).isNone).map (·.w)=(ms.filter fun m=>(if m.part then none else P m.nm).isNone).map (·.nm)
  | [],_=>rfl
  | m::r,rows=>by
    rw [yD,List.filter_cons,List.filter_cons,tQ]
    cases ((if m.part then none else P m.nm).isNone) with
    | true=>rw [if_pos rfl,if_pos rfl,List.map_cons,List.map_cons,qi r]; rfl
    | false=>rw [if_neg (by decide),if_neg (by decide),qi r]
theorem qQ {P:W→Option Bd} {g:MD→Bd}:∀ (ms:List MD) {rows:List St},(∀ m ∈ ms,P m.nm=some (g m))→(dy rows ms).filterMap (bZ P)=(ms.filter fun m=>!m.part).map g
  | [],_,_=>rfl
  | m::r,rows,h=>by
    rw [yD,List.filterMap_cons,List.filter_cons,tQ,h m (.head _)]
    cases m.part with
    | true=>exact qQ r fun k hk=>h k (.tail _ hk)
    | false=>exact congrArg (g m::·) (qQ r fun k hk=>h k (.tail _ hk))
theorem uf {c0:Int} {ms:List MD}:∀ c ∈ dy (bA c0) ms,c.rows.length≤6∧∀ t ∈ c.rows,cO t:=fun c hc=>by
  refine xe1 (qI _ hc) fun m r_=>aN r_ fun hm r_=>xe1 r_ fun rows r_=>aN r_ fun hr e4_=>?_
  subst e4_
  rcases hr with rfl | rfl
  · simp [oi,bA,Cj,Bt,yg,Cp]
  · simp [oi,mRowsN,yg]
theorem vy {P:W→Option Bd} {M:Nat} (hM:6≤M) (hP:∀ c K,bZ P c=some K→Fine M K.blks) (c0:Int) (ms:List MD):cz ((aK c0 ms).inl P).blks=(ms.filter fun m=>(if m.part then none else P m.nm).isNone).map (·.nm):=by
  rw [(gF (B:=aK c0 ms) (P:=P) rfl).1]
  unfold cz
  rw [List.filterMap_append]
  have h1:=mY (P:=P) (last:=mRowsN++mEnd) (cs:=dy (bA c0) ms) (n:=(dy (bA c0) ms).length+1) (s:=(aK c0 ms).locs.length) (k:=0)
  have h2:=n4 (l8 (P:=P) (last:=mRowsN++mEnd) hP ⟨by simp [mRowsN,mEnd]; exact Iz hM,by simp [mRowsN,mEnd,Cj,Bt,yg,Cp]⟩ (dy (bA c0) ms) (n:=(dy (bA c0) ms).length+1) (s:=(aK c0 ms).locs.length) (k:=0) fun c hc=>⟨by have:=(uf c hc).1; exact Nat.le_trans this hM,(uf c hc).2⟩).1.nc
  unfold cz at h1 h2
  rw [h1,h2,List.append_nil,qi]
theorem Ee {P:W→Option Bd} {g:MD→Bd} {c0:Int} {ms:List MD} (h:∀ m ∈ ms,P m.nm=some (g m)):((aK c0 ms).inl P).blks.length=(aK c0 ms).blks.length+k7 (((ms.filter fun m=>!m.part).map g).map fun K=>K.blks.length)∧((aK c0 ms).inl P).locs.length=(aK c0 ms).locs.length+k7 (((ms.filter fun m=>!m.part).map g).map fun K=>K.locs.length):=by
  refine aN (gF (B:=aK c0 ms) (P:=P) (last:=mRowsN++mEnd) (cs:=dy (bA c0) ms) rfl) fun h1 h2=>?_
  rw [h1,h2,List.length_append,List.length_append,iM,lN,jV,qQ ms h]
  refine ⟨?_,rfl⟩
  show _=(cX 0 (dy (bA c0) ms) (mRowsN++mEnd)).length+_
  rw [hJ]
theorem yJ {P:W→Option Bd} {c0:Int} {ms:List MD} (hm:ms.length≤3) (h:∀ c K,bZ P c=some K→K.blks.length≤20):((aK c0 ms).inl P).blks.length≤64:=by
  rw [(gF (B:=aK c0 ms) (P:=P) rfl).1,List.length_append,iM,lN,hO]
  have:=jQ (f:=fun K=>K.blks.length) h (dy (bA c0) ms)
  rw [hO] at this
  have:ms.length * 20≤3 * 20:=Nat.mul_le_mul_right _ hm
  omega
theorem mF {last:List St} {b:Blk}:∀ {cs:List Ca} {k:Nat},b ∈ cX k cs last→b=⟨last,.ret⟩∨∃ c ∈ cs,b.sts=c.rows∧∃ nx,b.tm=.call c.w c.o c.l c.j nx
  | [],_,h=>.inl (List.mem_singleton.mp h)
  | c::cs,k,h=>by
    rcases List.mem_cons.mp h with rfl | h
    · exact .inr ⟨c,.head _,rfl,_,rfl⟩
    · rcases mF h with h | ⟨d,hd,h⟩
      · exact .inl h
      · exact .inr ⟨d,.tail _ hd,h⟩
theorem om {f:Bd→Nat}:∀ {l:List Bd},((l.map fun K=>(f K:Int)).sum)=(k7 (l.map f):Int)
  | []=>rfl
  | x::r=>by
    rw [List.map_cons,List.map_cons,List.sum_cons,om]
    show (f x:Int)+(k7 (r.map f):Int)=((f x+k7 (r.map f):Nat):Int)
    exact Int.natCast_add _ _
end Mine.Internal
namespace Mine.Internal
theorem IW {d:HD} {two:Bool}:PAt [.h_,.g_] [(au d).e 0,(ba two).e 0] 40 (Ph d) .g_:=by
  refine ⟨rfl,ba two,0,rfl,.inr ⟨rfl,⟨[.live 2],.call .h_ (.copy 1 none) 2 none 1⟩,(ba two).blks.tail,?_,rfl,by simp⟩⟩
  cases two <;> rfl
theorem I6 {d:HD} (hd:d.OK) {g:Dat}:PAt [.h_,.g_] [(au d).e 0,g] 40 (Ph d) .h_:=by
  refine ⟨rfl,au d,0,rfl,.inl ⟨rfl,qF hd,?_⟩⟩
  have:=wG hd
  show (iJ (fh d):Int)≤40
  exact ic this rfl
theorem HI {d:HD} (hd:d.OK):PAt [.h_] [(au d).e 0] 40 (Ph d) .h_:=by
  refine ⟨rfl,au d,0,rfl,.inl ⟨rfl,qF hd,?_⟩⟩
  have:=wG hd
  show (iJ (fh d):Int)≤40
  exact ic this rfl
theorem IQ {d:HD} {two:Bool} (hd:d.OK) {g:Dat}:PAt [.h_,.g_] [(au d).e 0,g] 90 (B2 (au d) (bp d two)) .h_:=by
  refine ⟨rfl,au d,0,rfl,.inl ⟨rfl,qF hd,?_⟩⟩
  have:=wG hd
  show (iJ (fh d):Int)≤90
  exact ic this rfl
theorem Jb {d:HD} {two:Bool} (hd:d.OK) {q:Nat}:PAt [.h_,.g_] [(au d).e 0,(bp d two).e q] 90 (B2 (au d) (bp d two)) .g_:=by
  refine ⟨rfl,bp d two,q,rfl,.inl ⟨rfl,Dm hd,?_⟩⟩
  have:=G1 (two:=two) hd
  exact ic this rfl
theorem yv {c0:Int} {ms:List MD} (hok:∀ m ∈ ms,m.OK) {ws:List W} {ds:List Dat} {most:Int} {P:W→Option Bd} (h1:PAt ws ds most P .h_) (h2:PAt ws ds most P .g_):∀ b ∈ (aK c0 ms).blks,b.sts.length≤1000∧∀ w o l s nx,b.tm=.call w o l s nx→PAt ws ds most P w:=fun b hb=>by
  rcases mF hb with rfl | ⟨c,hc,e1,nx,e2⟩
  · exact ⟨by simp [mRowsN,mEnd],fun w o l s nx h=>by cases h⟩
  · refine xe1 (qI _ hc) fun m r_=>aN r_ fun hm r_=>xe1 r_ fun rows r_=>aN r_ fun hr e4_=>?_
    subst e4_
    have:=(uf _ hc).1
    refine ⟨by rw [e1]; exact lb this rfl,fun w o l s nx' h=>?_⟩
    rw [e2] at h
    cases h
    rcases (hok m hm).nm with h | h <;> (show PAt ws ds most P m.nm) <;> rw [h]
    · exact h1
    · exact h2
theorem D8 {two:Bool} {ws:List W} {ds:List Dat} {most:Int} {P:W→Option Bd} (h1:PAt ws ds most P .h_):∀ b ∈ (ba two).blks,b.sts.length≤1000∧∀ w o l s nx,b.tm=.call w o l s nx→PAt ws ds most P w:=fun b hb=>by
  rcases mF hb with rfl | ⟨c,hc,e1,nx,e2⟩
  · exact ⟨by simp [gLast],fun w o l s nx h=>by cases h⟩
  · refine gD (sr c hc) fun g1 g2 g3=>?_
    refine ⟨by rw [e1,g3]; decide,fun w o l s nx' h=>?_⟩
    rw [e2] at h
    cases h
    rw [g1]; exact h1
theorem r8 {c0:Int} {ms:List MD}:(aK c0 ms).blks.length=ms.length+1:=by
  show (cX 0 (dy (bA c0) ms) (mRowsN++mEnd)).length=_
  rw [hJ,hO]
theorem Hk {two:Bool}:(ba two).blks.length≤3:=by
  show (cX 0 (fL two) gLast).length≤3
  have:=jW (two:=two)
  rw [hJ]; exact la this rfl
theorem He {ps:List V} {z:Int} {mu:Mu}:bj mu (.d (bU ps z)) (.d (.int 1))=some (.d (.tup [.int z,.bool true])):=rfl
noncomputable def E5:CS:=(.asg 1 (.call .pool (.of [(.loc 0),(.list true (.of [(.int 0),(.int 1),(.int 0),(.int 9),(.int 0),(.int 0),(.int 4),(.int 1),(.int 1),(.int 1),(.int 0)]))])))
noncomputable def F2:CS:=(.multi [8,9] (.of [(.call .small (.of [(.loc 1)])),(.call .middle (.of [(.loc 1)]))]))
noncomputable def Ek:CS:=(.unp [10,11] (.call .mainL (.of [(.loc 1)])))
noncomputable def Fs:CS:=(.asg 2 (.sdisp true [.h_,.g_] (.of [(.loc 8),(.loc 9)])))
noncomputable def EO:CS:=(.asg 3 (.call .told (.of [(.loc 2),(.loc 10)])))
noncomputable def D2:CS:=(.ifs (.not (.sub (.sub (.loc 3) (.int 1)) (.int 1))) (.of [(.ret (.bool false))]) .nil)
noncomputable def Fv:CS:=(.asg 4 (.call .inlined (.of [(.loc 10),(.loc 2),(.int 40)])))
noncomputable def Eu:CS:=(.ifs (.cmp .ne (.call .calls (.of [(.loc 4)])) (.compif (.loc 14) [14,15] (.loc 11) (.or (.of [(.loc 15),(.cmp .eq (.loc 14) (.str .g_))])))) (.of [(.ret (.bool false))]) .nil)
noncomputable def F0:CS:=(.asg 5 (.call .inlined (.of [(.loc 9),(.sdisp true [.h_] (.of [(.loc 8)])),(.int 40)])))
noncomputable def AC:CS:=(.asg 6 (.call .inlined (.of [(.loc 10),(.sdisp true [.h_,.g_] (.of [(.loc 8),(.loc 5)])),(.int 90)])))
noncomputable def Am:CS:=(.ifs (.or (.of [(.cmp .ne (.call .calls (.of [(.loc 5)])) (.list false (.of []))),(.cmp .ne (.call .calls (.of [(.loc 6)])) (.compif (.loc 14) [14,15] (.loc 11) (.loc 15)))])) (.of [(.ret (.bool false))]) .nil)
noncomputable def A6:CS:=(.ifs (.or (.of [(.cmp .ne (.call .told (.of [(.loc 2),(.loc 4)])) (.loc 3)),(.cmp .ne (.call .told (.of [(.sdisp true [.h_,.g_] (.of [(.loc 8),(.loc 5)])),(.loc 6)])) (.loc 3))])) (.of [(.ret (.bool false))]) .nil)
noncomputable def AM:CS:=(.asg 7 (.compif (.sub (.sdisp true [.h_,.g_] (.of [(.loc 8),(.loc 5)])) (.loc 14)) [14,15] (.loc 11) (.not (.loc 15))))
noncomputable def Ax:CS:=(.ifs (.cmp .ne (.bi .len (.of [(.attr (.loc 6) .locals)])) (.bin false .add (.bi .len (.of [(.attr (.loc 10) .locals)])) (.bi .sum (.of [(.comp false (.bi .len (.of [(.attr (.loc 16) .locals)])) [16] (.loc 7))])))) (.of [(.ret (.bool false))]) .nil)
noncomputable def z4:CS:=(.ifs (.cmp .ne (.bi .len (.of [(.attr (.loc 6) .blocks)])) (.bin false .add (.bi .len (.of [(.attr (.loc 10) .blocks)])) (.bi .sum (.of [(.comp false (.bi .len (.of [(.attr (.loc 16) .blocks)])) [16] (.loc 7))])))) (.of [(.ret (.bool false))]) .nil)
noncomputable def Ab:CS:=(.multi [12,13] (.of [(.new .body (.of [(.str .h_),(.int 1),(.bin false .mul (.list false (.of [(.tup (.of [.byte,(.bool true),.none]))])) (.int 2))])),(.new .body (.of [(.str .main_),(.int 0),(.list false (.of [(.tup (.of [.byte,(.bool true),.none]))]))]))]))
noncomputable def AZ:CS:=(.expr (.app (.attr (.loc 12) .blocks) (.list false (.of [(.list false (.of [(.tup (.of [(.str .assign_),(.tup (.of [(.int 0),(.tup (.of []))])),(.tup (.of [(.str .binary_),(.str .plus_),(.call .place (.of [(.int 1)])),(.call .number (.of [(.int 1)]))]))]))])),(.tup (.of [(.str .return_)]))]))))
noncomputable def At:CS:=(.expr (.app (.attr (.loc 13) .blocks) (.list false (.of [(.list false (.of [])),(.tup (.of [(.str .call_),(.tup (.of [(.str .fn_),(.str .h_),(.tup (.of []))])),(.tup (.of [(.call .number (.of [(.int 2)]))])),(.tup (.of [(.int 0),(.tup (.of []))])),(.int 1)]))]))))
noncomputable def A0:CS:=(.expr (.app (.attr (.loc 13) .blocks) (.list false (.of [(.list false (.of [])),(.tup (.of [(.str .return_)]))]))))
noncomputable def Ap:CS:=(.ret (.cmp .eq (.call .told (.of [(.sdisp true [] .nil),(.call .inlined (.of [(.frz (.loc 13)),(.sdisp true [.h_] (.of [(.frz (.loc 12))]))]))])) (.tup (.of [(.list false (.of [])),(.tup (.of [(.int 3),(.bool true)]))]))))
theorem Bc:f_law.body=CSs.cons E5 (CSs.cons F2 (CSs.cons Ek (CSs.cons Fs (CSs.cons EO (CSs.cons D2 (CSs.cons Fv (CSs.cons Eu (CSs.cons F0 (CSs.cons AC (CSs.cons Am (CSs.cons A6 (CSs.cons AM (CSs.cons Ax (CSs.cons z4 (CSs.cons Ab (CSs.cons AZ (CSs.cons At (CSs.cons A0 (CSs.cons Ap (.nil)))))))))))))))))))):=rfl
theorem zI {C:Calls} {loc:ag} {mu:Mu}:∀ (xs:List Int),cS C loc mu (.of (xs.map .int))=some (xs.map fun x=>.d (.int x),mu)
  | []=>by rw [List.map_nil,ak,aF]; rfl
  | x::r=>by rw [List.map_cons,ao,bo,av,aL,zI r,aM]; rfl
theorem A9 {C:Calls} {loc:ag} {mu:Mu}:cS C loc mu (.cons (.int 0) (.cons (.int 1) (.cons (.int 0) (.cons (.int 9) (.cons (.int 0) (.cons (.int 0) (.cons (.int 4) (.cons (.int 1) (.cons (.int 1) (.cons (.int 1) (.cons (.int 0) .nil)))))))))))=some ([.d (.int 0),.d (.int 1),.d (.int 0),.d (.int 9),.d (.int 0),.d (.int 0),.d (.int 4),.d (.int 1),.d (.int 1),.d (.int 1),.d (.int 0)],mu) :=
  zI [0,1,0,9,0,0,4,1,1,1,0]
theorem xh (F:Bd→Nat) {f:ag→Mu→Ro} {mu:Mu} {t:Nat}:∀ (bs:List (Bd × Nat)) (loc:ag),t < loc.length→(∀ x ∈ bs,f (loc.set t (some (.d (x.1.e x.2)))) mu=some (some (.d (.int (F x.1))),mu))→cD f [t] (bs.map fun x=>x.1.e x.2) loc mu=some ((eI (bs.map fun x=>(F x.1:Int))).map .d,mu)
  | [],loc,ht,h=>rfl
  | x::r,loc,ht,h=>by
    have ih:=xh F r (loc.set t (some (.d (x.1.e x.2)))) (by rw [List.length_set]; exact ht) fun y hy=>by rw [List.set_set]; exact h y (.tail _ hy)
    rw [List.map_cons,eh,cp,hY,if_pos ht,be,c5,h x (.head _),cV,ih,eA]
    rfl
theorem Dn {P:W→Option Bd} {c0:Int} {ms:List MD} (hm:ms.length≤3) (h:∀ c K,bZ P c=some K→K.locs.length≤20):((aK c0 ms).inl P).locs.length≤63:=by
  rw [(gF (B:=aK c0 ms) (P:=P) rfl).2,List.length_append,jV]
  have:=jQ (f:=fun K=>K.locs.length) h (dy (bA c0) ms)
  rw [hO] at this
  have:ms.length * 20≤3 * 20:=Nat.mul_le_mul_right _ hm
  have:(aK c0 ms).locs.length=3:=rfl
  omega
theorem qD {mu:Mu} {l:List W}:dU mu .ne (.d (.lst (l.map .str))) (.d (.lst (l.map .str)))=some false:=by
  show (gE (.lst (l.map .str)) (.lst (l.map .str))).map _=_
  rw [Ac]; rfl
theorem D4 {mu:Mu}:dU mu .ne (.d (.lst [])) (.d (.lst []))=some false:=qD (l:=[])
theorem F9 {mu:Mu} {ps:List V} {z:Int}:dU mu .ne (.d (bU ps z)) (.d (bU ps z))=some false:=by
  show (gE (bU ps z) (bU ps z)).map _=_
  rw [uF]; rfl
theorem y2 {mu:Mu} {a b:Int} (h:a=b):dU mu .ne (.d (.int a)) (.d (.int b))=some false:=by
  subst h
  show (some (decide (a=a))).map (!·)=some false
  rw [decide_eq_true rfl]; rfl
theorem CK {mu:Mu} {a b:W}:dU mu .eq (.d (.str a)) (.d (.str b))=some (decide (a=b)):=rfl
noncomputable def sBd:Bd:=⟨.h_,1,[aa,aa],[⟨[.assign 0 none (.bin .plus_ (.copy 1 none) (.const 1))],.ret⟩]⟩
noncomputable def cBd:Bd:=⟨.main_,0,[aa],[⟨[],.call .h_ (.const 2) 0 none 1⟩,⟨[],.ret⟩]⟩
noncomputable def Ps:W→Option Bd:=fun w=>if w=.h_ then some sBd else none
theorem DF:Small sBd:=⟨rfl,by simp [sBd,B9],by simp [sBd],by simp [sBd]⟩
theorem Hv:Run (fun Z=>none) 0 (cBd.inl Ps).blks 3 0 ⟨[],[0]⟩ [] (.i 3):=by
  refine .goto (t:=2) (ps:=[]) (qs:=[]) (τ:=⟨[(2,.i 2)],[0,1,2]⟩) rfl (by decide) (by decide) (by decide) rfl ?_
  refine .goto (t:=1) (ps:=[]) (qs:=[]) (τ:=⟨[(0,.i 3)],[0]⟩) rfl (by decide) (by decide) (by decide) rfl ?_
  exact .ret rfl (by decide) (by decide) (by decide) rfl rfl
theorem c_inl2 {n:Nat} {a b:Val} {base:Mu}:an prog (n+1) .inlined [a,b] base=an prog (n+1) .inlined [a,b,.d (.int 12)] base:=rfl
theorem Dd {base:Mu} (hW:WFm base):∃ q,an prog 12 .inlined [.d (cBd.e 0),.d (.dct [.h_] [sBd.e 0])] base=some (.d ((cBd.inl Ps).e q),base)∧an prog 12 .told [.d (.dct [] []),.d ((cBd.inl Ps).e q)] base=some (.d (bU [] 3),base):=by
  have hp:PAt [.h_] [sBd.e 0] 12 Ps .h_:=⟨rfl,sBd,0,rfl,.inl ⟨rfl,DF,by simp [uP,vc,sBd]⟩⟩
  obtain ⟨q,e⟩:=kF 4 (B:=cBd) (P:=Ps) (ws:=[.h_]) (ds:=[sBd.e 0]) (most:=12) hW (fun b hb=>by
    have:b=⟨[],.call .h_ (.const 2) 0 none 1⟩∨b=⟨[],.ret⟩:=by simpa [cBd] using hb
    rcases this with rfl | rfl
    · exact ⟨by simp,fun w o l s nx h=>by cases h; exact hp⟩
    · exact ⟨by simp,fun w o l s nx h=>by cases h⟩) (by decide) (by decide)
  refine ⟨q,?_,?_⟩
  · exact c_inl2.trans e
  · exact pu 7 (P:=fun Z=>none) (ws0:=[]) (ds0:=[]) (B:=cBd.inl Ps) (q:=q) (h:=0) (t:=3) (ps:=[]) (v:=.i 3) (fun w K h=>by exact nS h) rfl (by decide) (by decide) (by decide) (by decide) hW Hv
end Mine.Internal
namespace Mine.Internal
theorem AL (l:List Int) (h:l.length≤63):∃ m,an prog 13 .law [.d (.lst (l.map .int))] []=some (.d (.bool true),m):=by
  refine xe3 (Fi 11 (base:=[.list (([0,1,0,9,0,0,4,1,1,1,0]:List Int).map fun x=>.d (.int x))]) (k0:=0) (row:=[0,1,0,9,0,0,4,1,1,1,0]) rfl rfl (by decide) (l:=l) (by exact lb h rfl)) fun r s N r_=>aN r_ fun p1 S0=>?_
  generalize hB0:[MObj.list (([0,1,0,9,0,0,4,1,1,1,0]:List Int).map fun x=>.d (.int x))]++r=base0 at p1 S0
  refine xe2 (CN 9 S0) fun d base1 r_=>gD r_ fun hd S1 p2=>?_
  refine xe2 (AY 10 S1) fun two base2 r_=>aN r_ fun S2 p3=>?_
  refine xe3 (EV 9 S2) fun c0 ms mu r_=>JG r_ fun h0 hok hml S3 p4=>?_
  refine xe5 (FO hd (two:=two) (c0:=c0) h0 hok hml) fun ps z t t1 t2 r_=>Iu r_ fun hps ht ht1 ht2 R0 R1 R2=>?_
  have hW:=S3.wf
  have hP0:∀ w K,B2 (au d) (ba two) w=some K→∃ q,dC w [.h_,.g_] [(au d).e 0,(ba two).e 0]=some (K.e q):=fun w K hw=>by
    unfold B2 at hw
    split at hw
    · rename_i e; (replace hw:=iS hw; subst hw); subst e; exact ⟨0,rfl⟩
    · split at hw
      · rename_i e; (replace hw:=iS hw; subst hw); subst e; exact ⟨0,rfl⟩
      · exact nS hw
  have p5:=pu 5 (q:=0) hP0 rfl (by rw [r8]; exact la hml rfl) ht (by decide) (by exact lb r_.1 rfl) hW R0
  refine xe1 (kF 4 (B:=aK c0 ms) (P:=Ph d) hW (yv hok (I6 hd) (IW (two:=two))) (by rw [r8]; exact la hml rfl) (by show 3≤20; decide)) fun q1 p6=>?_
  refine xe1 (kF 4 (B:=ba two) (P:=Ph d) hW (D8 (HI hd)) (by have:=Hk (two:=two); exact lb this rfl) (by show 3≤20; decide)) fun q2 p7=>?_
  refine xe1 (kF 4 (B:=aK c0 ms) (P:=B2 (au d) (bp d two)) hW (yv hok (IQ hd) (Jb hd (q:=q2))) (by rw [r8]; exact la hml rfl) (by show 3≤20; decide)) fun q3 p8=>?_
  have hP2:∀ w K,B2 (au d) (bp d two) w=some K→∃ q,dC w [.h_,.g_] [(au d).e 0,(bp d two).e q2]=some (K.e q):=fun w K hw=>by
    unfold B2 at hw
    split at hw
    · rename_i e; (replace hw:=iS hw; subst hw); subst e; exact ⟨0,rfl⟩
    · split at hw
      · rename_i e; (replace hw:=iS hw; subst hw); subst e; exact ⟨q2,rfl⟩
      · exact nS hw
  have hpk1:∀ c K,bZ (Ph d) c=some K→K.blks.length≤20:=fun c K hp=>Nat.le_trans (qt c K hp).1 (by decide)
  have hpk2:∀ c K,bZ (B2 (au d) (bp d two)) c=some K→K.blks.length≤20∧Fine 9 K.blks:=fun c K hp=>by
    unfold bZ at hp
    cases hj:c.j <;> rw [hj] at hp
    · dsimp only [B2] at hp
      split at hp
      · (replace hp:=iS hp; subst hp); exact ⟨Nat.le_trans mz (by decide),⟨ml d,sQ d,fun b hb=>Nat.le_trans (xp hd b hb) (by decide)⟩⟩
      · split at hp
        · (replace hp:=iS hp; subst hp); exact ⟨Nat.le_trans lJ (by decide),j9 hd⟩
        · exact nS hp
    · exact nS hp
  have l1:=yJ (c0:=c0) hml hpk1
  have l2:=yJ (c0:=c0) hml fun c K hp=>(hpk2 c K hp).1
  have p9:=pu 5 (B:=(aK c0 ms).inl (Ph d)) (q:=q1) hP0 rfl (by exact lb l1 rfl) ht1 (by decide) (by exact lb r_.1 rfl) hW R1
  have p10:=pu 5 (B:=(aK c0 ms).inl (B2 (au d) (bp d two))) (q:=q3) hP2 rfl (by exact lb l2 rfl) ht2 (by decide) (by exact lb r_.1 rfl) hW R2
  have p11:=qB 11 hW (b:=(aK c0 ms).inl (Ph d)) (k:=q1) (by exact lb l1 rfl)
  have p12:=qB 11 hW (b:=bp d two) (k:=q2) (by have:=lJ (d:=d) (two:=two); exact lb this rfl)
  have p13:=qB 11 hW (b:=(aK c0 ms).inl (B2 (au d) (bp d two))) (k:=q3) (by exact lb l2 rfl)
  rw [vy (Nat.le_refl 6) (vi hd)] at p11
  rw [n4 (j9 hd).nc] at p12
  rw [vy (M:=9) (by decide) fun c K hp=>(hpk2 c K hp).2] at p13
  change an prog 12 .pool [.d (.lst (l.map .int)),.r 0] [.list [.d (.int 0),.d (.int 1),.d (.int 0),.d (.int 9),.d (.int 0),.d (.int 0),.d (.int 4),.d (.int 1),.d (.int 1),.d (.int 1),.d (.int 0)]]=some (.r s,base0) at p1
  change an prog 12 .small _ _=_ at p2
  change an prog 12 .middle _ _=_ at p3
  change an prog 12 .mainL _ _=_ at p4
  change an prog 12 .told _ _=some (.d (bU ps z),mu) at p5
  change an prog 12 .inlined _ _=_ at p6
  change an prog 12 .inlined _ _=some (.d ((bp d two).e q2),mu) at p7
  change an prog 12 .inlined _ _=_ at p8
  change an prog 12 .told _ _=some (.d (bU ps z),mu) at p9
  change an prog 12 .told _ _=some (.d (bU ps z),mu) at p10
  change an prog 12 .calls _ _=_ at p11
  change an prog 12 .calls _ _=some (.d (.lst []),mu) at p12
  change an prog 12 .calls _ _=_ at p13
  have n0:=S0.norm0
  have n1:=S1.norm0
  have n2:=S2.norm0
  have hM:∀ {b1:List Dat},(mu++sC N .h_ 1 [aa,aa] b1 []).length=N+4:=fun {_}=>ye S3.len
  have p14:an prog 12 .initBody _ _=_:=jg 11 (N:=N) S3.len (nm:=.h_) (ac:=1) (locs:=[aa,aa]) (by decide)
  have p15:an prog 12 .initBody _ _=_:=jg 11 (N:=N+4) (hM (b1:=[])) (nm:=.main_) (ac:=0) (locs:=[aa]) (by decide)
  refine xe1 (Dd (base:=mu++(.frz (sBd.e 0)::.frz (.lst [aa,aa])::.frz (.lst [Blk.e ⟨[.assign 0 none (.bin .plus_ (.copy 1 none) (.const 1))],.ret⟩])::.frz (.spots 0)::.frz (cBd.e 0)::.frz (.lst [aa])::.frz (.lst [Blk.e ⟨[],.call .h_ (.const 2) 0 none 1⟩,Blk.e ⟨[],.ret⟩])::.frz (.spots 0)::[])) (S3.app (by unfold fT; rfl))) fun q5 r_=>aN r_ fun p16 p17=>?_
  have hW2:∀ b1 b2,WFm ((mu++sC N .h_ 1 [aa,aa] b1 [])++sC (N+4) .main_ 0 [aa] b2 []):=fun b1 b2=>by
    refine (S3.app (ie fun k=>rfl)).app ?_
    rw [List.length_append,hM]
    exact ie (N:=N+4) fun k=>rfl
  have p18:∀ b1 b2,an prog 12 .place _ _=_:=fun b1 b2=>fg 11 (hW2 b1 b2) 1
  have p19:∀ b1 b2 v,an prog 12 .number _ _=_:=fun b1 b2 v=>g5 11 (hW2 b1 b2) v
  have X0:∀ b1 r,((mu++sC N .h_ 1 [aa,aa] b1 [])++r)[N]? = _:=fun b1 r=>gI (jp S3.len)
  have X2:∀ b1 r,((mu++sC N .h_ 1 [aa,aa] b1 [])++r)[N+2]? = _:=fun b1 r=>gI (iR S3.len)
  have XS:∀ b1 r x,((mu++sC N .h_ 1 [aa,aa] b1 [])++r).set (N+2) (.list [.d x])=(mu++sC N .h_ 1 [aa,aa] [x] [])++r:=fun b1 r x=>by rw [qR (iR S3.len),jL S3.len]
  have Y0:∀ b1 b2,((mu++sC N .h_ 1 [aa,aa] b1 [])++sC (N+4) .main_ 0 [aa] b2 [])[N+4]? = _:=fun b1 b2=>jp hM
  have Y2:∀ b1 b2,((mu++sC N .h_ 1 [aa,aa] b1 [])++sC (N+4) .main_ 0 [aa] b2 [])[N+4+2]? = _:=fun b1 b2=>iR hM
  have YS:∀ b1 b2 x,((mu++sC N .h_ 1 [aa,aa] b1 [])++sC (N+4) .main_ 0 [aa] b2 []).set (N+4+2) (.list [.d x])=((mu++sC N .h_ 1 [aa,aa] b1 [])++sC (N+4) .main_ 0 [aa] [x] []):=fun b1 b2 x=>jL hM
  have YT:∀ b1 b2 x y,((mu++sC N .h_ 1 [aa,aa] b1 [])++sC (N+4) .main_ 0 [aa] b2 []).set (N+4+2) (.list [.d x,.d y])=((mu++sC N .h_ 1 [aa,aa] b1 [])++sC (N+4) .main_ 0 [aa] [x,y] []):=fun b1 b2 x y=>nt hM
  have Z13:freeze 4 ((mu++sC N .h_ 1 [aa,aa] [Blk.e ⟨[.assign 0 none (.bin .plus_ (.copy 1 none) (.const 1))],.ret⟩] [])++sC (N+4) .main_ 0 [aa] [Blk.e ⟨[],.call .h_ (.const 2) 0 none 1⟩,Blk.e ⟨[],.ret⟩] []) (.r (N+4))=some (cBd.e 0,(mu++sC N .h_ 1 [aa,aa] [Blk.e ⟨[.assign 0 none (.bin .plus_ (.copy 1 none) (.const 1))],.ret⟩] [])++(.frz (cBd.e 0)::.frz (.lst [aa])::.frz (.lst [Blk.e ⟨[],.call .h_ (.const 2) 0 none 1⟩,Blk.e ⟨[],.ret⟩])::.frz (.spots 0)::[])):=qT hM
  have Z12:∀ R,freeze 4 ((mu++sC N .h_ 1 [aa,aa] [Blk.e ⟨[.assign 0 none (.bin .plus_ (.copy 1 none) (.const 1))],.ret⟩] [])++R) (.r N)=some (sBd.e 0,mu++(.frz (sBd.e 0)::.frz (.lst [aa,aa])::.frz (.lst [Blk.e ⟨[.assign 0 none (.bin .plus_ (.copy 1 none) (.const 1))],.ret⟩])::.frz (.spots 0)::R)):=fun R=>by
    have:(mu++sC N .h_ 1 [aa,aa] [Blk.e ⟨[.assign 0 none (.bin .plus_ (.copy 1 none) (.const 1))],.ret⟩] [])++R=mu++sC N .h_ 1 [aa,aa] [Blk.e ⟨[.assign 0 none (.bin .plus_ (.copy 1 none) (.const 1))],.ret⟩] R:=by simp [sC]
    rw [this]; exact qT S3.len
  have ll2:=Dn (c0:=c0) (P:=B2 (au d) (bp d two)) hml fun c K hp=>by
    unfold bZ at hp
    cases hj:c.j <;> rw [hj] at hp
    · dsimp only [B2] at hp
      split at hp
      · (replace hp:=iS hp; subst hp); show 3≤20; decide
      · split at hp
        · (replace hp:=iS hp; subst hp); exact Nat.le_trans uo (by decide)
        · exact nS hp
    · exact nS hp
  generalize hbq:(fun m:MD=>if m.nm=.h_ then (au d,0) else (bp d two,q2))=bq
  have hbq':∀ m,bq m=if m.nm=.h_ then (au d,0) else (bp d two,q2):=fun m=>by rw [← hbq]
  obtain ⟨hB,hL⟩:=Ee (P:=B2 (au d) (bp d two)) (g:=fun m=>(bq m).1) (c0:=c0) (ms:=ms) fun m hm=>by
    rw [hbq']
    rcases (hok m hm).nm with h | h <;> rw [h] <;> rfl
  have hfl:∀ p:MD→Bool,(ms.filter p).length≤3:=fun p=>Nat.le_trans (List.length_filter_le _ _) hml
  have hbqb:∀ m,(bq m).1.blks.length≤100∧(bq m).1.locs.length≤100:=fun m=>by
    rw [hbq']
    split
    · exact ⟨Nat.le_trans mz (by decide),by show 3≤100; decide⟩
    · exact ⟨Nat.le_trans lJ (by decide),Nat.le_trans uo (by decide)⟩
  have hLi:(((aK c0 ms).inl (B2 (au d) (bp d two))).locs.length:Int)=((aK c0 ms).locs.length:Int)+((((ms.filter fun m=>!m.part).map bq).map fun x=>(x.1.locs.length:Int))).sum:=by
    have:=om (f:=fun K=>K.locs.length) (l:=(ms.filter fun m=>!m.part).map fun m=>(bq m).1)
    rw [List.map_map] at this ⊢
    rw [hL]
    have e:((fun K:Bd=>(K.locs.length:Int)) ∘ fun m=>(bq m).1)=(fun x:Bd × Nat=>(x.1.locs.length:Int)) ∘ bq:=rfl
    rw [← e,this]
    exact Int.natCast_add _ _
  have hBi:(((aK c0 ms).inl (B2 (au d) (bp d two))).blks.length:Int)=((aK c0 ms).blks.length:Int)+((((ms.filter fun m=>!m.part).map bq).map fun x=>(x.1.blks.length:Int))).sum:=by
    have:=om (f:=fun K=>K.blks.length) (l:=(ms.filter fun m=>!m.part).map fun m=>(bq m).1)
    rw [List.map_map] at this ⊢
    rw [hB]
    have e:((fun K:Bd=>(K.blks.length:Int)) ∘ fun m=>(bq m).1)=(fun x:Bd × Nat=>(x.1.blks.length:Int)) ∘ bq:=rfl
    rw [← e,this]
    exact Int.natCast_add _ _
  have hml2:=r8 (c0:=c0) (ms:=ms)
  have hby:Dat.tup [dh,.bool true,.none]=aa:=rfl
  clear R0 R1 R2 hP0 hP2
  rw [show (13:Nat)=12+1 from rfl,aX (d:=f_law) rfl rfl,Bc]
  generalize an prog 12=C at *
  have e1:ex C [some (.d (.lst (l.map .int))),none,none,none,none,none,none,none,none,none,none,none,none,none,none,none,none] ([]) E5=some (.next,[some (.d (.lst (l.map .int))),some (.r s),none,none,none,none,none,none,none,none,none,none,none,none,none,none,none],base0):=by
    unfold E5
    simp [am,ae,ah,af,ai,bF,cb,aO,aB,aF,bo,aL,aM,aV,ak,ao,bG,bK,aj,lZ,ju,lim,-getElem?_pos,↓A9,p1,-List.map_map]
  have e2:ex C [some (.d (.lst (l.map .int))),some (.r s),none,none,none,none,none,none,none,none,none,none,none,none,none,none,none] (base0) F2=some (.next,[some (.d (.lst (l.map .int))),some (.r s),none,none,none,none,none,none,some (.d ((au d).e 0)),some (.d ((ba two).e 0)),none,none,none,none,none,none,none],base2):=by
    unfold F2
    simp [am,ar,ah,af,ai,aO,aB,aF,bo,aL,aM,cT,nv,be,ak,ao,aj,kA,kw,nA,-getElem?_pos,n0,n1,p2,p3,-List.map_map]
  have e3:ex C [some (.d (.lst (l.map .int))),some (.r s),none,none,none,none,none,none,some (.d ((au d).e 0)),some (.d ((ba two).e 0)),none,none,none,none,none,none,none] (base2) Ek=some (.next,[some (.d (.lst (l.map .int))),some (.r s),none,none,none,none,none,none,some (.d ((au d).e 0)),some (.d ((ba two).e 0)),some (.d ((aK c0 ms).e 0)),some (.d (.lst (aY ms))),none,none,none,none,none],mu):=by
    unfold Ek
    simp [am,ar,ah,af,ai,aO,aB,aF,bo,aL,aM,cT,fx,be,ak,ao,aj,lj,iC,hV,-getElem?_pos,n2,p4,-List.map_map]
  have e4:ex C [some (.d (.lst (l.map .int))),some (.r s),none,none,none,none,none,none,some (.d ((au d).e 0)),some (.d ((ba two).e 0)),some (.d ((aK c0 ms).e 0)),some (.d (.lst (aY ms))),none,none,none,none,none] (mu) Fs=some (.next,[some (.d (.lst (l.map .int))),some (.r s),some (.d (.dct [.h_,.g_] [(au d).e 0,(ba two).e 0])),none,none,none,none,none,some (.d ((au d).e 0)),some (.d ((ba two).e 0)),some (.d ((aK c0 ms).e 0)),some (.d (.lst (aY ms))),none,none,none,none,none],mu):=by
    unfold Fs
    simp [am,ae,ah,af,ai,j4,jA,jD,aF,bo,aL,aM,aV,ak,ao,bG,bK,aj,cW,-getElem?_pos,-List.map_map]
  have e5:ex C [some (.d (.lst (l.map .int))),some (.r s),some (.d (.dct [.h_,.g_] [(au d).e 0,(ba two).e 0])),none,none,none,none,none,some (.d ((au d).e 0)),some (.d ((ba two).e 0)),some (.d ((aK c0 ms).e 0)),some (.d (.lst (aY ms))),none,none,none,none,none] (mu) EO=some (.next,[some (.d (.lst (l.map .int))),some (.r s),some (.d (.dct [.h_,.g_] [(au d).e 0,(ba two).e 0])),some (.d (bU ps z)),none,none,none,none,some (.d ((au d).e 0)),some (.d ((ba two).e 0)),some (.d ((aK c0 ms).e 0)),some (.d (.lst (aY ms))),none,none,none,none,none],mu):=by
    unfold EO
    simp [am,ae,ah,af,ai,aO,aB,aF,bo,aL,aM,aV,ak,ao,aj,ew,-getElem?_pos,p5,-List.map_map]
  have e6:ex C [some (.d (.lst (l.map .int))),some (.r s),some (.d (.dct [.h_,.g_] [(au d).e 0,(ba two).e 0])),some (.d (bU ps z)),none,none,none,none,some (.d ((au d).e 0)),some (.d ((ba two).e 0)),some (.d ((aK c0 ms).e 0)),some (.d (.lst (aY ms))),none,none,none,none,none] (mu) D2=some (.next,[some (.d (.lst (l.map .int))),some (.r s),some (.d (.dct [.h_,.g_] [(au d).e 0,(ba two).e 0])),some (.d (bU ps z)),none,none,none,none,some (.d ((au d).e 0)),some (.d ((ba two).e 0)),some (.d ((aK c0 ms).e 0)),some (.d (.lst (aY ms))),none,none,none,none,none],mu):=by
    unfold D2
    simp [am,ae,ah,af,ai,av,pi,m5,aQ,ax,az,bf,bh,bx,aq,aJ,aj,gi,-getElem?_pos,He,-List.map_map]
  have e7:ex C [some (.d (.lst (l.map .int))),some (.r s),some (.d (.dct [.h_,.g_] [(au d).e 0,(ba two).e 0])),some (.d (bU ps z)),none,none,none,none,some (.d ((au d).e 0)),some (.d ((ba two).e 0)),some (.d ((aK c0 ms).e 0)),some (.d (.lst (aY ms))),none,none,none,none,none] (mu) Fv=some (.next,[some (.d (.lst (l.map .int))),some (.r s),some (.d (.dct [.h_,.g_] [(au d).e 0,(ba two).e 0])),some (.d (bU ps z)),some (.d (((aK c0 ms).inl (Ph d)).e q1)),none,none,none,some (.d ((au d).e 0)),some (.d ((ba two).e 0)),some (.d ((aK c0 ms).e 0)),some (.d (.lst (aY ms))),none,none,none,none,none],mu):=by
    unfold Fv
    simp [am,ae,ah,af,ai,av,aO,aB,aF,bo,aL,aM,aV,ak,ao,aj,im,-getElem?_pos,p6,-List.map_map]
  have e8:ex C [some (.d (.lst (l.map .int))),some (.r s),some (.d (.dct [.h_,.g_] [(au d).e 0,(ba two).e 0])),some (.d (bU ps z)),some (.d (((aK c0 ms).inl (Ph d)).e q1)),none,none,none,some (.d ((au d).e 0)),some (.d ((ba two).e 0)),some (.d ((aK c0 ms).e 0)),some (.d (.lst (aY ms))),none,none,none,none,none] (mu) Eu=some (.next,[some (.d (.lst (l.map .int))),some (.r s),some (.d (.dct [.h_,.g_] [(au d).e 0,(ba two).e 0])),some (.d (bU ps z)),some (.d (((aK c0 ms).inl (Ph d)).e q1)),none,none,none,some (.d ((au d).e 0)),some (.d ((ba two).e 0)),some (.d ((aK c0 ms).e 0)),some (.d (.lst (aY ms))),none,none,none,none,none],mu):=by
    have fl:=wh (f:=mj C (.loc 14) (.or (.of [(.loc 15),(.cmp .eq (.loc 14) (.str .g_))]))) (mu:=mu) (fun m=>(if m.part then none else Ph d m.nm).isNone) (fun m=>.str m.nm) (a:=[some (.d (.lst (l.map .int))),some (.r s),some (.d (.dct [.h_,.g_] [(au d).e 0,(ba two).e 0])),some (.d (bU ps z)),some (.d (((aK c0 ms).inl (Ph d)).e q1)),none,none,none,some (.d ((au d).e 0)),some (.d ((ba two).e 0)),some (.d ((aK c0 ms).e 0)),some (.d (.lst (aY ms))),none,none]) (z:=none) rfl ms (x:=none) (y:=none) (fun m hm=>by
      unfold g9
      cases hp:m.part with
      | true=>simp [am,ae,ah,af,ai,km,ip,HO,dl,ee,kb,ak,ao,aj,-getElem?_pos]
      | false =>
        rcases (hok m hm).nm with h | h <;> rw [h] <;> simp [am,ae,ah,af,ai,aS,aP,ay,aA,aw,km,i8,ip,iX,dl,ee,kb,jj,ak,ao,aj,-getElem?_pos,CK,Ph])
    unfold g9 at fl
    simp only [ao,ak,List.cons_append,List.nil_append] at fl
    have fe:((ms.filter fun m=>(if m.part then none else Ph d m.nm).isNone).map fun m=>Dat.str m.nm)=((ms.filter fun m=>(if m.part then none else Ph d m.nm).isNone).map (·.nm)).map .str:=by rw [List.map_map]; rfl
    have fm:((ms.filter fun m=>(if m.part then none else Ph d m.nm).isNone)).length≤1048576:=Nat.le_trans (hfl _) (by decide)
    rw [fe] at fl
    unfold Eu
    simp [am,ae,ah,af,ai,b4,aP,ay,aA,aw,aO,aB,gX,cm,cn,cj,dR,aF,bo,aL,aM,bf,bh,bx,ak,ao,aq,aJ,gV,aj,lim,-getElem?_pos,p11,fl,fm,qD,-List.map_map]
  have e9:ex C [some (.d (.lst (l.map .int))),some (.r s),some (.d (.dct [.h_,.g_] [(au d).e 0,(ba two).e 0])),some (.d (bU ps z)),some (.d (((aK c0 ms).inl (Ph d)).e q1)),none,none,none,some (.d ((au d).e 0)),some (.d ((ba two).e 0)),some (.d ((aK c0 ms).e 0)),some (.d (.lst (aY ms))),none,none,none,none,none] (mu) F0=some (.next,[some (.d (.lst (l.map .int))),some (.r s),some (.d (.dct [.h_,.g_] [(au d).e 0,(ba two).e 0])),some (.d (bU ps z)),some (.d (((aK c0 ms).inl (Ph d)).e q1)),some (.d ((bp d two).e q2)),none,none,some (.d ((au d).e 0)),some (.d ((ba two).e 0)),some (.d ((aK c0 ms).e 0)),some (.d (.lst (aY ms))),none,none,none,none,none],mu):=by
    unfold F0
    simp [am,ae,ah,af,ai,av,aO,aB,j4,jA,jD,aF,bo,aL,aM,aV,ak,ao,bG,bK,aj,eX,-getElem?_pos,p7,-List.map_map]
  have e10:ex C [some (.d (.lst (l.map .int))),some (.r s),some (.d (.dct [.h_,.g_] [(au d).e 0,(ba two).e 0])),some (.d (bU ps z)),some (.d (((aK c0 ms).inl (Ph d)).e q1)),some (.d ((bp d two).e q2)),none,none,some (.d ((au d).e 0)),some (.d ((ba two).e 0)),some (.d ((aK c0 ms).e 0)),some (.d (.lst (aY ms))),none,none,none,none,none] (mu) AC=some (.next,[some (.d (.lst (l.map .int))),some (.r s),some (.d (.dct [.h_,.g_] [(au d).e 0,(ba two).e 0])),some (.d (bU ps z)),some (.d (((aK c0 ms).inl (Ph d)).e q1)),some (.d ((bp d two).e q2)),some (.d (((aK c0 ms).inl (B2 (au d) (bp d two))).e q3)),none,some (.d ((au d).e 0)),some (.d ((ba two).e 0)),some (.d ((aK c0 ms).e 0)),some (.d (.lst (aY ms))),none,none,none,none,none],mu):=by
    unfold AC
    simp [am,ae,ah,af,ai,av,aO,aB,j4,jA,jD,aF,bo,aL,aM,aV,ak,ao,bG,bK,aj,gO,-getElem?_pos,p8,-List.map_map]
  have e11:ex C [some (.d (.lst (l.map .int))),some (.r s),some (.d (.dct [.h_,.g_] [(au d).e 0,(ba two).e 0])),some (.d (bU ps z)),some (.d (((aK c0 ms).inl (Ph d)).e q1)),some (.d ((bp d two).e q2)),some (.d (((aK c0 ms).inl (B2 (au d) (bp d two))).e q3)),none,some (.d ((au d).e 0)),some (.d ((ba two).e 0)),some (.d ((aK c0 ms).e 0)),some (.d (.lst (aY ms))),none,none,none,none,none] (mu) Am=some (.next,[some (.d (.lst (l.map .int))),some (.r s),some (.d (.dct [.h_,.g_] [(au d).e 0,(ba two).e 0])),some (.d (bU ps z)),some (.d (((aK c0 ms).inl (Ph d)).e q1)),some (.d ((bp d two).e q2)),some (.d (((aK c0 ms).inl (B2 (au d) (bp d two))).e q3)),none,some (.d ((au d).e 0)),some (.d ((ba two).e 0)),some (.d ((aK c0 ms).e 0)),some (.d (.lst (aY ms))),none,none,none,none,none],mu):=by
    have fl:=wh (f:=mj C (.loc 14) (.loc 15)) (mu:=mu) (fun m=>(if m.part then none else B2 (au d) (bp d two) m.nm).isNone) (fun m=>.str m.nm) (a:=[some (.d (.lst (l.map .int))),some (.r s),some (.d (.dct [.h_,.g_] [(au d).e 0,(ba two).e 0])),some (.d (bU ps z)),some (.d (((aK c0 ms).inl (Ph d)).e q1)),some (.d ((bp d two).e q2)),some (.d (((aK c0 ms).inl (B2 (au d) (bp d two))).e q3)),none,some (.d ((au d).e 0)),some (.d ((ba two).e 0)),some (.d ((aK c0 ms).e 0)),some (.d (.lst (aY ms))),none,none]) (z:=none) rfl ms (x:=none) (y:=none) (fun m hm=>by
      unfold g9
      cases hp:m.part with
      | true=>simp [am,ae,ah,af,ai,dl,ee,kb,aj,-getElem?_pos]
      | false =>
        rcases (hok m hm).nm with h | h <;> rw [h] <;> simp [am,ae,ah,af,ai,ee,jj,aj,-getElem?_pos,B2])
    unfold g9 at fl
    simp only [List.cons_append,List.nil_append] at fl
    have fe:((ms.filter fun m=>(if m.part then none else B2 (au d) (bp d two) m.nm).isNone).map fun m=>Dat.str m.nm)=((ms.filter fun m=>(if m.part then none else B2 (au d) (bp d two) m.nm).isNone).map (·.nm)).map .str:=by rw [List.map_map]; rfl
    have fm:((ms.filter fun m=>(if m.part then none else B2 (au d) (bp d two) m.nm).isNone)).length≤1048576:=Nat.le_trans (hfl _) (by decide)
    rw [fe] at fl
    unfold Am
    simp [am,ae,ah,af,ai,bF,b4,aP,ay,aA,aw,km,i8,ip,iX,aO,aB,gX,cm,cn,cj,dR,aF,bo,aL,aM,bf,bh,bx,ak,ao,aq,aJ,gV,aj,iV,lim,-getElem?_pos,p12,p13,fl,fm,qD,D4,-List.map_map]
  have e12:ex C [some (.d (.lst (l.map .int))),some (.r s),some (.d (.dct [.h_,.g_] [(au d).e 0,(ba two).e 0])),some (.d (bU ps z)),some (.d (((aK c0 ms).inl (Ph d)).e q1)),some (.d ((bp d two).e q2)),some (.d (((aK c0 ms).inl (B2 (au d) (bp d two))).e q3)),none,some (.d ((au d).e 0)),some (.d ((ba two).e 0)),some (.d ((aK c0 ms).e 0)),some (.d (.lst (aY ms))),none,none,none,none,none] (mu) A6=some (.next,[some (.d (.lst (l.map .int))),some (.r s),some (.d (.dct [.h_,.g_] [(au d).e 0,(ba two).e 0])),some (.d (bU ps z)),some (.d (((aK c0 ms).inl (Ph d)).e q1)),some (.d ((bp d two).e q2)),some (.d (((aK c0 ms).inl (B2 (au d) (bp d two))).e q3)),none,some (.d ((au d).e 0)),some (.d ((ba two).e 0)),some (.d ((aK c0 ms).e 0)),some (.d (.lst (aY ms))),none,none,none,none,none],mu):=by
    unfold A6
    simp [am,ae,ah,af,ai,aP,ay,aA,aw,km,i8,ip,iX,aO,aB,j4,jA,jD,aF,bo,aL,aM,bf,bh,bx,ak,ao,aq,aJ,bG,bK,aj,-getElem?_pos,p9,p10,F9,-List.map_map]
  have e13:ex C [some (.d (.lst (l.map .int))),some (.r s),some (.d (.dct [.h_,.g_] [(au d).e 0,(ba two).e 0])),some (.d (bU ps z)),some (.d (((aK c0 ms).inl (Ph d)).e q1)),some (.d ((bp d two).e q2)),some (.d (((aK c0 ms).inl (B2 (au d) (bp d two))).e q3)),none,some (.d ((au d).e 0)),some (.d ((ba two).e 0)),some (.d ((aK c0 ms).e 0)),some (.d (.lst (aY ms))),none,none,none,none,none] (mu) AM=some (.next,[some (.d (.lst (l.map .int))),some (.r s),some (.d (.dct [.h_,.g_] [(au d).e 0,(ba two).e 0])),some (.d (bU ps z)),some (.d (((aK c0 ms).inl (Ph d)).e q1)),some (.d ((bp d two).e q2)),some (.d (((aK c0 ms).inl (B2 (au d) (bp d two))).e q3)),some (.d (.lst (((ms.filter fun m=>!m.part).map bq).map fun x=>x.1.e x.2))),some (.d ((au d).e 0)),some (.d ((ba two).e 0)),some (.d ((aK c0 ms).e 0)),some (.d (.lst (aY ms))),none,none,none,none,none],mu):=by
    have fl:=wh (f:=mj C (.sub (.sdisp true [.h_,.g_] (.of [(.loc 8),(.loc 5)])) (.loc 14)) (.not (.loc 15))) (mu:=mu) (fun m=>!m.part) (fun m=>(bq m).1.e (bq m).2) (a:=[some (.d (.lst (l.map .int))),some (.r s),some (.d (.dct [.h_,.g_] [(au d).e 0,(ba two).e 0])),some (.d (bU ps z)),some (.d (((aK c0 ms).inl (Ph d)).e q1)),some (.d ((bp d two).e q2)),some (.d (((aK c0 ms).inl (B2 (au d) (bp d two))).e q3)),none,some (.d ((au d).e 0)),some (.d ((ba two).e 0)),some (.d ((aK c0 ms).e 0)),some (.d (.lst (aY ms))),none,none]) (z:=none) rfl ms (x:=none) (y:=none) (fun m hm=>by
      unfold g9
      rw [hbq']
      cases hp:m.part with
      | true=>simp [am,ae,ah,af,ai,pi,m5,ee,jj,ak,ao,aj,-getElem?_pos]
      | false =>
        rcases (hok m hm).nm with h | h <;> rw [h] <;> simp [am,ae,ah,af,ai,pi,m5,aQ,ax,az,jk,dl,ee,kb,j4,jA,jD,aF,bo,aL,aM,ak,ao,bG,bK,bH,aj,-getElem?_pos])
    unfold g9 at fl
    simp only [ao,ak,List.cons_append,List.nil_append] at fl
    have fe:((ms.filter fun m=>!m.part).map fun m=>(bq m).1.e (bq m).2)=((ms.filter fun m=>!m.part).map bq).map fun x=>x.1.e x.2:=by rw [List.map_map]; rfl
    have fm:((ms.filter fun m=>!m.part)).length≤1048576:=Nat.le_trans (hfl _) (by decide)
    rw [fe] at fl
    unfold AM
    simp [am,ae,ah,af,ai,b4,gX,cm,cn,cj,dR,aV,ak,ao,gV,aj,v8,lim,-getElem?_pos,fl,fm,-List.map_map]
  have e14:ex C [some (.d (.lst (l.map .int))),some (.r s),some (.d (.dct [.h_,.g_] [(au d).e 0,(ba two).e 0])),some (.d (bU ps z)),some (.d (((aK c0 ms).inl (Ph d)).e q1)),some (.d ((bp d two).e q2)),some (.d (((aK c0 ms).inl (B2 (au d) (bp d two))).e q3)),some (.d (.lst (((ms.filter fun m=>!m.part).map bq).map fun x=>x.1.e x.2))),some (.d ((au d).e 0)),some (.d ((ba two).e 0)),some (.d ((aK c0 ms).e 0)),some (.d (.lst (aY ms))),none,none,none,none,none] (mu) Ax=some (.next,[some (.d (.lst (l.map .int))),some (.r s),some (.d (.dct [.h_,.g_] [(au d).e 0,(ba two).e 0])),some (.d (bU ps z)),some (.d (((aK c0 ms).inl (Ph d)).e q1)),some (.d ((bp d two).e q2)),some (.d (((aK c0 ms).inl (B2 (au d) (bp d two))).e q3)),some (.d (.lst (((ms.filter fun m=>!m.part).map bq).map fun x=>x.1.e x.2))),some (.d ((au d).e 0)),some (.d ((ba two).e 0)),some (.d ((aK c0 ms).e 0)),some (.d (.lst (aY ms))),none,none,none,none,none],mu):=by
    have fc:=xh (fun K=>K.locs.length) (f:=qm C (.bi .len (.of [(.attr (.loc 16) .locals)]))) (mu:=mu) (t:=16) ((ms.filter fun m=>!m.part).map bq) [some (.d (.lst (l.map .int))),some (.r s),some (.d (.dct [.h_,.g_] [(au d).e 0,(ba two).e 0])),some (.d (bU ps z)),some (.d (((aK c0 ms).inl (Ph d)).e q1)),some (.d ((bp d two).e q2)),some (.d (((aK c0 ms).inl (B2 (au d) (bp d two))).e q3)),some (.d (.lst (((ms.filter fun m=>!m.part).map bq).map fun x=>x.1.e x.2))),some (.d ((au d).e 0)),some (.d ((ba two).e 0)),some (.d ((aK c0 ms).e 0)),some (.d (.lst (aY ms))),none,none,none,none,none] (by simp) (fun x hx=>by
      refine xe1 (List.mem_map.mp hx) fun m r_=>aN r_ fun Z e2_=>?_
      subst e2_
      obtain ⟨u1,u2⟩:=hbqb m
      have u3:(bq m).1.blks.length≤1048576:=by exact lb u1 rfl
      have u4:(bq m).1.locs.length≤1048576:=by exact lb u2 rfl
      simp [am,ae,ah,af,ai,bE,bu,dH,cf,fX,er,dl,aF,bo,aL,aM,ak,ao,rQ,aj,lim,-getElem?_pos,u3,u4])
    simp only [ao,ak] at fc
    have fm:((ms.filter fun m=>!m.part)).length≤1048576:=Nat.le_trans (hfl _) (by decide)
    have v1:((aK c0 ms).inl (B2 (au d) (bp d two))).blks.length≤1048576:=by exact lb l2 rfl
    have v2:((aK c0 ms).inl (B2 (au d) (bp d two))).locs.length≤1048576:=by exact lb ll2 rfl
    have v3:(aK c0 ms).blks.length≤1048576:=by exact IF hml hml2 rfl
    have v4:(aK c0 ms).locs.length≤1048576:=by show 3≤1048576; decide
    have fi:∀ l:List Int,(eI l).length=l.length:=fun l=>List.length_map ..
    unfold Ax
    simp [am,ae,ah,af,ai,b4,b6,bO,bQ,aP,ay,aA,aw,bE,bu,dH,lw,cf,fX,o7,dZ,cm,cn,cj,dR,aF,bo,aL,aM,bf,bh,bx,ak,ao,aq,aJ,gV,rQ,d4,cA,aj,lim,-getElem?_pos,fc,fm,v2,v4,fi,d4,y2 hLi,-List.map_map]
  have e15:ex C [some (.d (.lst (l.map .int))),some (.r s),some (.d (.dct [.h_,.g_] [(au d).e 0,(ba two).e 0])),some (.d (bU ps z)),some (.d (((aK c0 ms).inl (Ph d)).e q1)),some (.d ((bp d two).e q2)),some (.d (((aK c0 ms).inl (B2 (au d) (bp d two))).e q3)),some (.d (.lst (((ms.filter fun m=>!m.part).map bq).map fun x=>x.1.e x.2))),some (.d ((au d).e 0)),some (.d ((ba two).e 0)),some (.d ((aK c0 ms).e 0)),some (.d (.lst (aY ms))),none,none,none,none,none] (mu) z4=some (.next,[some (.d (.lst (l.map .int))),some (.r s),some (.d (.dct [.h_,.g_] [(au d).e 0,(ba two).e 0])),some (.d (bU ps z)),some (.d (((aK c0 ms).inl (Ph d)).e q1)),some (.d ((bp d two).e q2)),some (.d (((aK c0 ms).inl (B2 (au d) (bp d two))).e q3)),some (.d (.lst (((ms.filter fun m=>!m.part).map bq).map fun x=>x.1.e x.2))),some (.d ((au d).e 0)),some (.d ((ba two).e 0)),some (.d ((aK c0 ms).e 0)),some (.d (.lst (aY ms))),none,none,none,none,none],mu):=by
    have fc:=xh (fun K=>K.blks.length) (f:=qm C (.bi .len (.of [(.attr (.loc 16) .blocks)]))) (mu:=mu) (t:=16) ((ms.filter fun m=>!m.part).map bq) [some (.d (.lst (l.map .int))),some (.r s),some (.d (.dct [.h_,.g_] [(au d).e 0,(ba two).e 0])),some (.d (bU ps z)),some (.d (((aK c0 ms).inl (Ph d)).e q1)),some (.d ((bp d two).e q2)),some (.d (((aK c0 ms).inl (B2 (au d) (bp d two))).e q3)),some (.d (.lst (((ms.filter fun m=>!m.part).map bq).map fun x=>x.1.e x.2))),some (.d ((au d).e 0)),some (.d ((ba two).e 0)),some (.d ((aK c0 ms).e 0)),some (.d (.lst (aY ms))),none,none,none,none,none] (by simp) (fun x hx=>by
      refine xe1 (List.mem_map.mp hx) fun m r_=>aN r_ fun Z e2_=>?_
      subst e2_
      obtain ⟨u1,u2⟩:=hbqb m
      have u3:(bq m).1.blks.length≤1048576:=by exact lb u1 rfl
      have u4:(bq m).1.locs.length≤1048576:=by exact lb u2 rfl
      simp [am,ae,ah,af,ai,bE,bu,dH,cf,fX,er,dl,aF,bo,aL,aM,ak,ao,d9,eV,aj,lim,-getElem?_pos,u3,u4])
    simp only [ao,ak] at fc
    have fm:((ms.filter fun m=>!m.part)).length≤1048576:=Nat.le_trans (hfl _) (by decide)
    have v1:((aK c0 ms).inl (B2 (au d) (bp d two))).blks.length≤1048576:=by exact lb l2 rfl
    have v2:((aK c0 ms).inl (B2 (au d) (bp d two))).locs.length≤1048576:=by exact lb ll2 rfl
    have v3:(aK c0 ms).blks.length≤1048576:=by exact IF hml hml2 rfl
    have v4:(aK c0 ms).locs.length≤1048576:=by show 3≤1048576; decide
    have fi:∀ l:List Int,(eI l).length=l.length:=fun l=>List.length_map ..
    unfold z4
    simp [am,ae,ah,af,ai,b4,b6,bO,bQ,aP,ay,aA,aw,bE,bu,dH,lw,cf,fX,o7,dZ,cm,cn,cj,dR,aF,bo,aL,aM,bf,bh,bx,ak,ao,aq,aJ,d9,gV,eV,d4,cA,aj,lim,-getElem?_pos,fc,fm,v1,v3,fi,d4,y2 hBi,-List.map_map]
  have e16:ex C [some (.d (.lst (l.map .int))),some (.r s),some (.d (.dct [.h_,.g_] [(au d).e 0,(ba two).e 0])),some (.d (bU ps z)),some (.d (((aK c0 ms).inl (Ph d)).e q1)),some (.d ((bp d two).e q2)),some (.d (((aK c0 ms).inl (B2 (au d) (bp d two))).e q3)),some (.d (.lst (((ms.filter fun m=>!m.part).map bq).map fun x=>x.1.e x.2))),some (.d ((au d).e 0)),some (.d ((ba two).e 0)),some (.d ((aK c0 ms).e 0)),some (.d (.lst (aY ms))),none,none,none,none,none] (mu) Ab=some (.next,[some (.d (.lst (l.map .int))),some (.r s),some (.d (.dct [.h_,.g_] [(au d).e 0,(ba two).e 0])),some (.d (bU ps z)),some (.d (((aK c0 ms).inl (Ph d)).e q1)),some (.d ((bp d two).e q2)),some (.d (((aK c0 ms).inl (B2 (au d) (bp d two))).e q3)),some (.d (.lst (((ms.filter fun m=>!m.part).map bq).map fun x=>x.1.e x.2))),some (.d ((au d).e 0)),some (.d ((ba two).e 0)),some (.d ((aK c0 ms).e 0)),some (.d (.lst (aY ms))),some (.r N),some (.r (N+4)),none,none,none],(mu++sC N .h_ 1 [aa,aa] [] [])++sC (N+4) .main_ 0 [aa] [] []):=by
    unfold Ab
    simp [lr,av,aS,ij,j7,bC,bF,b4,b6,bO,bQ,lR,jR,j3,aF,bo,aL,aM,cT,nv,be,ak,ao,bG,bK,nC,sd,j5,sE,gJ,d6,nA,lim,-getElem?_pos,S3.len,hby,List.replicate,xX,p14,p15,hM,-List.map_map,-List.append_assoc,-cb]
  have e17:ex C [some (.d (.lst (l.map .int))),some (.r s),some (.d (.dct [.h_,.g_] [(au d).e 0,(ba two).e 0])),some (.d (bU ps z)),some (.d (((aK c0 ms).inl (Ph d)).e q1)),some (.d ((bp d two).e q2)),some (.d (((aK c0 ms).inl (B2 (au d) (bp d two))).e q3)),some (.d (.lst (((ms.filter fun m=>!m.part).map bq).map fun x=>x.1.e x.2))),some (.d ((au d).e 0)),some (.d ((ba two).e 0)),some (.d ((aK c0 ms).e 0)),some (.d (.lst (aY ms))),some (.r N),some (.r (N+4)),none,none,none] ((mu++sC N .h_ 1 [aa,aa] [] [])++sC (N+4) .main_ 0 [aa] [] []) AZ=some (.next,[some (.d (.lst (l.map .int))),some (.r s),some (.d (.dct [.h_,.g_] [(au d).e 0,(ba two).e 0])),some (.d (bU ps z)),some (.d (((aK c0 ms).inl (Ph d)).e q1)),some (.d ((bp d two).e q2)),some (.d (((aK c0 ms).inl (B2 (au d) (bp d two))).e q3)),some (.d (.lst (((ms.filter fun m=>!m.part).map bq).map fun x=>x.1.e x.2))),some (.d ((au d).e 0)),some (.d ((ba two).e 0)),some (.d ((aK c0 ms).e 0)),some (.d (.lst (aY ms))),some (.r N),some (.r (N+4)),none,none,none],(mu++sC N .h_ 1 [aa,aa] [Blk.e ⟨[.assign 0 none (.bin .plus_ (.copy 1 none) (.const 1))],.ret⟩] [])++sC (N+4) .main_ 0 [aa] [] []):=by
    have hb0:Dat.lst [.lst [.tup [.str .assign_,.tup [.int 0,.tup []],.tup [.str .binary_,.str .plus_,(Op.copy 1 none).e,(Op.const 1).e]]],.tup [.str .return_]]=Blk.e ⟨[.assign 0 none (.bin .plus_ (.copy 1 none) (.const 1))],.ret⟩:=rfl
    unfold AZ
    simp [am,ar,bz,b0,ah,af,ai,av,aS,bC,bF,c3,cK,bE,bu,aO,aB,d8,de,c8,db,c9,aF,bo,aL,aM,cI,ce,ak,ao,bH,aj,cL,gK,gJ,b5,eU,d6,kC,lim,-getElem?_pos,X0,X2,XS,p18,p19,hb0,-List.map_map,-List.append_assoc,-cb,-cN]
  have e18:ex C [some (.d (.lst (l.map .int))),some (.r s),some (.d (.dct [.h_,.g_] [(au d).e 0,(ba two).e 0])),some (.d (bU ps z)),some (.d (((aK c0 ms).inl (Ph d)).e q1)),some (.d ((bp d two).e q2)),some (.d (((aK c0 ms).inl (B2 (au d) (bp d two))).e q3)),some (.d (.lst (((ms.filter fun m=>!m.part).map bq).map fun x=>x.1.e x.2))),some (.d ((au d).e 0)),some (.d ((ba two).e 0)),some (.d ((aK c0 ms).e 0)),some (.d (.lst (aY ms))),some (.r N),some (.r (N+4)),none,none,none] ((mu++sC N .h_ 1 [aa,aa] [Blk.e ⟨[.assign 0 none (.bin .plus_ (.copy 1 none) (.const 1))],.ret⟩] [])++sC (N+4) .main_ 0 [aa] [] []) At=some (.next,[some (.d (.lst (l.map .int))),some (.r s),some (.d (.dct [.h_,.g_] [(au d).e 0,(ba two).e 0])),some (.d (bU ps z)),some (.d (((aK c0 ms).inl (Ph d)).e q1)),some (.d ((bp d two).e q2)),some (.d (((aK c0 ms).inl (B2 (au d) (bp d two))).e q3)),some (.d (.lst (((ms.filter fun m=>!m.part).map bq).map fun x=>x.1.e x.2))),some (.d ((au d).e 0)),some (.d ((ba two).e 0)),some (.d ((aK c0 ms).e 0)),some (.d (.lst (aY ms))),some (.r N),some (.r (N+4)),none,none,none],(mu++sC N .h_ 1 [aa,aa] [Blk.e ⟨[.assign 0 none (.bin .plus_ (.copy 1 none) (.const 1))],.ret⟩] [])++sC (N+4) .main_ 0 [aa] [Blk.e ⟨[],.call .h_ (.const 2) 0 none 1⟩] []):=by
    have hb0:Dat.lst [.lst [],.tup [.str .call_,.tup [.str .fn_,.str .h_,.tup []],.tup [(Op.const 2).e],.tup [.int 0,.tup []],.int 1]]=Blk.e ⟨[],.call .h_ (.const 2) 0 none 1⟩:=rfl
    unfold At
    simp [am,ar,bz,b0,ah,af,ai,av,aS,bC,bF,c3,cK,bE,bu,aO,aB,d8,de,c8,db,c9,aF,bo,aL,aM,cI,ce,ak,ao,bH,aj,cL,iV,gK,b5,eU,d6,lQ,lim,-getElem?_pos,Y0,Y2,YS,p18,p19,hb0,-List.map_map,-List.append_assoc,-cb,-cN]
  have e19:ex C [some (.d (.lst (l.map .int))),some (.r s),some (.d (.dct [.h_,.g_] [(au d).e 0,(ba two).e 0])),some (.d (bU ps z)),some (.d (((aK c0 ms).inl (Ph d)).e q1)),some (.d ((bp d two).e q2)),some (.d (((aK c0 ms).inl (B2 (au d) (bp d two))).e q3)),some (.d (.lst (((ms.filter fun m=>!m.part).map bq).map fun x=>x.1.e x.2))),some (.d ((au d).e 0)),some (.d ((ba two).e 0)),some (.d ((aK c0 ms).e 0)),some (.d (.lst (aY ms))),some (.r N),some (.r (N+4)),none,none,none] ((mu++sC N .h_ 1 [aa,aa] [Blk.e ⟨[.assign 0 none (.bin .plus_ (.copy 1 none) (.const 1))],.ret⟩] [])++sC (N+4) .main_ 0 [aa] [Blk.e ⟨[],.call .h_ (.const 2) 0 none 1⟩] []) A0=some (.next,[some (.d (.lst (l.map .int))),some (.r s),some (.d (.dct [.h_,.g_] [(au d).e 0,(ba two).e 0])),some (.d (bU ps z)),some (.d (((aK c0 ms).inl (Ph d)).e q1)),some (.d ((bp d two).e q2)),some (.d (((aK c0 ms).inl (B2 (au d) (bp d two))).e q3)),some (.d (.lst (((ms.filter fun m=>!m.part).map bq).map fun x=>x.1.e x.2))),some (.d ((au d).e 0)),some (.d ((ba two).e 0)),some (.d ((aK c0 ms).e 0)),some (.d (.lst (aY ms))),some (.r N),some (.r (N+4)),none,none,none],(mu++sC N .h_ 1 [aa,aa] [Blk.e ⟨[.assign 0 none (.bin .plus_ (.copy 1 none) (.const 1))],.ret⟩] [])++sC (N+4) .main_ 0 [aa] [Blk.e ⟨[],.call .h_ (.const 2) 0 none 1⟩,Blk.e ⟨[],.ret⟩] []):=by
    have hb0:Dat.lst [.lst [],.tup [.str .return_]]=Blk.e ⟨[],.ret⟩:=rfl
    unfold A0
    simp [am,ar,bz,b0,ah,af,ai,aS,bC,bF,c3,cK,bE,bu,d8,de,c8,db,c9,aF,bo,aL,aM,cI,ce,ak,ao,bH,aj,iV,gK,eU,lim,-getElem?_pos,Y0,Y2,YT,hb0,-List.map_map,-List.append_assoc,-cb,-cN]
  have cmE:∀ mu,dU mu .eq (.d (bU [] 3)) (.d (.tup [.lst [],.tup [.int 3,.bool true]]))=some true:=fun mu=>uF (ps:=[]) (z:=3)
  have e20:∃ m,ex C [some (.d (.lst (l.map .int))),some (.r s),some (.d (.dct [.h_,.g_] [(au d).e 0,(ba two).e 0])),some (.d (bU ps z)),some (.d (((aK c0 ms).inl (Ph d)).e q1)),some (.d ((bp d two).e q2)),some (.d (((aK c0 ms).inl (B2 (au d) (bp d two))).e q3)),some (.d (.lst (((ms.filter fun m=>!m.part).map bq).map fun x=>x.1.e x.2))),some (.d ((au d).e 0)),some (.d ((ba two).e 0)),some (.d ((aK c0 ms).e 0)),some (.d (.lst (aY ms))),some (.r N),some (.r (N+4)),none,none,none] ((mu++sC N .h_ 1 [aa,aa] [Blk.e ⟨[.assign 0 none (.bin .plus_ (.copy 1 none) (.const 1))],.ret⟩] [])++sC (N+4) .main_ 0 [aa] [Blk.e ⟨[],.call .h_ (.const 2) 0 none 1⟩,Blk.e ⟨[],.ret⟩] []) Ap=some (.ret (.d (.bool true)),[some (.d (.lst (l.map .int))),some (.r s),some (.d (.dct [.h_,.g_] [(au d).e 0,(ba two).e 0])),some (.d (bU ps z)),some (.d (((aK c0 ms).inl (Ph d)).e q1)),some (.d ((bp d two).e q2)),some (.d (((aK c0 ms).inl (B2 (au d) (bp d two))).e q3)),some (.d (.lst (((ms.filter fun m=>!m.part).map bq).map fun x=>x.1.e x.2))),some (.d ((au d).e 0)),some (.d ((ba two).e 0)),some (.d ((aK c0 ms).e 0)),some (.d (.lst (aY ms))),some (.r N),some (.r (N+4)),none,none,none],m):=by
    refine ⟨mu++(.frz (sBd.e 0)::.frz (.lst [aa,aa])::.frz (.lst [Blk.e ⟨[.assign 0 none (.bin .plus_ (.copy 1 none) (.const 1))],.ret⟩])::.frz (.spots 0)::.frz (cBd.e 0)::.frz (.lst [aa])::.frz (.lst [Blk.e ⟨[],.call .h_ (.const 2) 0 none 1⟩,Blk.e ⟨[],.ret⟩])::.frz (.spots 0)::[]),?_⟩
    unfold Ap
    simp [am,ar,b0,ah,af,ai,av,ij,bC,bF,aP,ay,aA,aw,aO,aB,j4,jA,jD,gm,fk,ft,aF,bo,aL,aM,bD,bn,ak,ao,bG,bK,aj,iV,b5,-getElem?_pos,X0,Y0,Z13,Z12,p16,p17,cmE,-List.map_map,-List.append_assoc,-cb,-cN]
  obtain ⟨mE,e20⟩:=e20
  have e0:(List.map some [Val.d (.lst (l.map .int))]++List.replicate (f_law.names.length - f_law.params) none:ag)=[some (.d (.lst (l.map .int))),none,none,none,none,none,none,none,none,none,none,none,none,none,none,none,none]:=rfl
  rw [e0,aT,e1,aH,aT,e2,aH,aT,e3,aH,aT,e4,aH,aT,e5,aH,aT,e6,aH,aT,e7,aH,aT,e8,aH,aT,e9,aH,aT,e10,aH,aT,e11,aH,aT,e12,aH,aT,e13,aH,aT,e14,aH,aT,e15,aH,aT,e16,aH,aT,e17,aH,aT,e18,aH,aT,e19,aH,aT,e20,bV,aU]
  exact ⟨_,rfl⟩
end Mine.Internal
namespace Mine.Internal
set_option maxHeartbeats 8000000
noncomputable def IX:Fn→Addr
  | .retargeted=>91 | .copied=>96 | .operandsOf=>103 | .withOperands=>110 | .isSmall=>117 | .movedPlace=>124 | .movedOperand=>131 | .movedOperands=>136 | .movedRvalue=>143 | .movedStatement=>150 | .movedTerminator=>157
  | .initCaller=>171 | .put=>176 | .tellSpots=>183 | .putBlock=>188 | .calledKey=>202 | .inlined=>210 | .pool=>218 | .take=>225 | .one=>232 | .value=>239 | .set=>246 | .do_=>251 | .run=>256 | .place=>263 | .number=>270
  | .small=>277 | .middle=>284 | .mainL=>289 | .calls=>294 | .told=>301 | .law=>306 | .initBody=>36
noncomputable def HF:Cls→Addr
  | .body=>82 | .caller=>191
theorem bL {X:Amb} {d:FDef} {a:Addr} {ob:Obj} {fd:FuncData} {body:List Stmt} (hk:X.K.lookup a=some ob) (hK:X.K.In X.H₀) (hd:ob.data=.func fd) (hb:fd.body=.stmts body) (g:fd.globals=mainGlobals) (bl:fd.builtins=builtinsNs) (cl:fd.closure=[])
    (code:∃ c oc vs t,fd.code=.ref c∧X.K.lookup c=some oc∧oc.data=.fields vs∧vs[1]? = some (.str fd.qualname t))
    (h1:fd.params.args.map (·.arg)=d.strs.take d.params) (h2:fd.params.posonlyargs=[]∧fd.params.kwonlyargs=[]∧fd.params.vararg=none∧fd.params.kwarg=none)
    (sc:fd.scope.kind=.function∧fd.scope.isCoroutine=false∧fd.scope.isGenerator=false)
    (kinds:d.args.all (fun x=>fd.scope.names.lookup x == some .local || fd.scope.names.lookup x == some .cell)=true)
    (wr:(d.wr.map Str.ofString).all (fun x=>fd.scope.names.lookup x == some .cell && !(d.fz.map Str.ofString).contains x)=true)
    (lam:∀ x ∈ d.fz.map Str.ofString,fd.code=.ref X.cd∧(fd.qualname ++ ".<locals>.")++("<lambda>" : Str)=X.lq)
    (nofree:fd.scope.names.all (fun x=>x.2 != .free)=true) (cnd:((cellsFrom 0 fd.scope.names []).map (·.1)).Nodup) (nodup:d.strs.Nodup)
    (plain:d.strs.all (fun x=>!(x == ("__debug__" : Str)) && !(x == ("__classdict__" : Str)))=true) (pars:d.params≤d.names.length)
    (bind:∀ (s:Shared) (vals:List Value),(∀ a o,X.H₀.get? a=some o→s.heap.get? a=some o)→vals.length≤d.params→d.params - vals.length≤d.dflts.length→∃ us,DRels X X.H₀.get? (d.dflts.drop (d.dflts.length - (d.params - vals.length))) us∧BindsTo s fd ⟨vals,[]⟩ (d.args.zip (vals++us))):FnOK X d a fd body where
  at_:=⟨ob,hK _ _ hk,hd⟩
  body:=hb
  glob:=g
  bltn:=bl
  clos:=cl
  code:=let ⟨c,oc,vs,t,e1,e2,e3,e4⟩:=code; ⟨c,oc,vs,t,e1,hK _ _ e2,e3,e4⟩
  kind:=sc.1
  co:=sc.2.1
  gen:=sc.2.2
  kinds:=fun x hx=>by
    have:=List.all_eq_true.mp kinds x hx
    rw [Bool.or_eq_true,beq_iff_eq,beq_iff_eq] at this
    exact this
  wr:=fun x hx=>by
    have:=List.all_eq_true.mp wr x hx
    rw [Bool.and_eq_true,beq_iff_eq] at this
    exact ⟨this.1,fun h=>by have h2:=this.2; rw [Bool.not_eq_true'] at h2; rw [List.contains_iff_mem.mpr h] at h2; cases h2⟩
  lam:=lam
  nofree:=fun x hx=>by have:=List.all_eq_true.mp nofree x hx; exact bne_iff_ne.mp this
  cnd:=cnd
  nodup:=nodup
  plain:=fun x hx=>by
    have:=List.all_eq_true.mp plain x hx
    rw [Bool.and_eq_true,Bool.not_eq_true',Bool.not_eq_true'] at this
    exact this
  pars:=pars
  bind:=bind
theorem br {X:Amb} {d:FDef} {fd:FuncData} (h1:fd.params.args.map (·.arg)=d.strs.take d.params) (h2:fd.params.posonlyargs=[]∧fd.params.kwonlyargs=[]∧fd.params.vararg=none∧fd.params.kwarg=none) (nodup:d.strs.Nodup) (hdf:fd.defaults=.none) (hdd:d.dflts=[]) (pars:d.params≤d.names.length) :
    ∀ (s:Shared) (vals:List Value),(∀ a o,X.H₀.get? a=some o→s.heap.get? a=some o)→vals.length≤d.params→d.params - vals.length≤d.dflts.length→∃ us,DRels X X.H₀.get? (d.dflts.drop (d.dflts.length - (d.params - vals.length))) us∧BindsTo s fd ⟨vals,[]⟩ (d.args.zip (vals++us)):=fun s vals keep l1 l2=>by
  rw [hdd] at l2 ⊢
  simp only [List.length_nil,Nat.le_zero_eq] at l2
  refine ⟨[],by rw [List.drop_nil]; exact dz,?_⟩
  rw [List.append_nil]
  refine BindsTo.of_eq (rj (names:=d.args) h1 h2.1 h2.2.1 h2.2.2.1 h2.2.2.2 hdf ((List.take_sublist _ _).nodup nodup) ?_)
  unfold FDef.args FDef.strs
  rw [List.length_take,List.length_map]
  omega
noncomputable def wS:Stmt→Option (Scope × List Stmt)
  | .FunctionDef _ _ b _ _ _ sc _ _ _=>some (sc,b)
  | _=>none
theorem bY {l:List Stmt} {i:Nat} {d:FDef} {sc':Scope} {body':List Stmt} (h:∃ st sc b,l[i]? = some st∧gS st sc b∧fB d.strs (d.wr.map Str.ofString) (d.fz.map Str.ofString) (cx sc) d.body b)
    (e:l[i]?.bind wS=some (sc',body')):fB d.strs (d.wr.map Str.ofString) (d.fz.map Str.ofString) (cx sc') d.body body':=by
  obtain ⟨st,sc,b,h1,⟨_,_,_,_,_,_,_,_,rfl⟩,h3⟩:=h
  rw [h1] at e
  cases e
  exact h3
noncomputable def BP (i:Nat):Stmt→Option Stmt
  | .ClassDef _ _ _ d _ _ _ _ _ _ _=>d[i]?
  | _=>none
theorem jP {l:List Stmt} {i j:Nat} {d:FDef} {sc':Scope} {body':List Stmt} (h:∃ st m sc b,l[i]? = some st∧qd st j m∧gS m sc b∧fB d.strs (d.wr.map Str.ofString) (d.fz.map Str.ofString) (cx sc) d.body b)
    (e:(l[i]?.bind (BP j)).bind wS=some (sc',body')):fB d.strs (d.wr.map Str.ofString) (d.fz.map Str.ofString) (cx sc') d.body body':=by
  obtain ⟨st,m,sc,b,h1,⟨_,_,_,_,_,_,_,_,_,_,_,rfl,h2⟩,⟨_,_,_,_,_,_,_,_,rfl⟩,h3⟩:=h
  rw [h1] at e
  have e':(_:Option Stmt).bind wS=some (sc',body'):=e
  unfold BP at e
  dsimp only [Option.bind] at e
  rw [h2] at e
  cases e
  exact h3
theorem Hr {vals:List Value} (h1:vals.length≤3) (h2:3 - vals.length≤1):(∃ a b,vals=[a,b])∨∃ a b c,vals=[a,b,c]:=by
  match vals,h1,h2 with
  | [],_,h=>simp at h
  | [_],_,h=>simp at h
  | [a,b],_,_=>exact .inl ⟨a,b,rfl⟩
  | [a,b,c],_,_=>exact .inr ⟨a,b,c,rfl⟩
  | _::_::_::_::_,h,_=>simp at h
theorem HA {vals:List Value} (h1:vals.length≤6) (h2:6 - vals.length≤2):(∃ a b c d,vals=[a,b,c,d])∨(∃ a b c d e,vals=[a,b,c,d,e])∨∃ a b c d e f,vals=[a,b,c,d,e,f]:=by
  match vals,h1,h2 with
  | [],_,h=>simp at h
  | [_],_,h=>simp at h
  | [_,_],_,h=>simp at h
  | [_,_,_],_,h=>simp at h
  | [a,b,c,d],_,_=>exact .inl ⟨a,b,c,d,rfl⟩
  | [a,b,c,d,e],_,_=>exact .inr (.inl ⟨a,b,c,d,e,rfl⟩)
  | [a,b,c,d,e,f],_,_=>exact .inr (.inr ⟨a,b,c,d,e,f,rfl⟩)
  | _::_::_::_::_::_::_::_,h,_=>simp at h
noncomputable abbrev E9 (w:World) (s₁:Shared) (K:Frag) (mg mb:Str→Option Value):Amb :=
  { prog:=PySem.Challenge.rw_pf0164_01.row.prog,w:=w,H₀:=ghostOf s₁.heap [(156,152)],K:=K,cls:=HF,fn:=IX,mg:=mg,mb:=mb,cd:=156,tab:=152,lq:=Str.ofString "moved_terminator.<locals>.<lambda>" }
theorem rx {P:Params} {h:Heap} {X:Amb} {p:aE}:∀ {l:List Int} {vs:List Value},WellAll P h vs (ofPys (l.map PyData.int))→DRels X p (l.map Dat.int) vs
  | [],vs,w=>by cases w; exact dz
  | i::l,vs,w=>by
    cases w with
    | cons w1 w2 =>
      cases w1
      exact dc (di _) (rx w2)
theorem v7 {P:Params} {h:Heap} {X:Amb} {p:aE} {a:Addr} {l:List Int} (w:Well P h (.ref a) (ofPy (.list (l.map PyData.int)))):∃ vs:Array Value,h.get? a=some (listOf vs 0)∧DRels X p (l.map Dat.int) vs.toList:=by
  have w':Well P h (.ref a) (.list (ofPys (l.map PyData.int))):=w
  cases w' with
  | list h1 h2=>exact ⟨_,h1,by simpa using rx h2⟩
theorem Au {cl:Str→Option Addr} {mean:ExcName→Option Value} {args:List WData} {s₁:Shared} {h':Heap} {tk:Nat} {h₀:Heap} (hk:∀ a ob,h₀.get? a=some ob→h'.get? a=some ob) (hg:s₁.gens = #[]) :
    GoodW PySem.Challenge.rw_pf0164_01.row.claim cl mean args { heap:=h₀,gens:=s₁.gens,drawn:=s₁.drawn,toks:=s₁.toks,os:=s₁.os } (.ok (.ret (.bool true))) { s₁ with heap:=h',toks:=tk } :=
  ⟨.inl ⟨_,.bool true,[],rfl,fun Z=>rfl,.bool true,by wrow_post,fun Z=>⟨.nil,fun Z h=>nomatch h⟩⟩,hk,rfl,hg⟩
noncomputable def hd.tw16434018374808013631:Unit:=()
noncomputable def hd.tw8348189931502524920:Unit:=()
noncomputable def hd.tw10000147801426223185:Unit:=()
noncomputable def hd.tw10010880442989136664:Unit:=()
noncomputable def hd.tw10168931427177779312:Unit:=()
noncomputable def hd.tw10169186735810369720:Unit:=()
noncomputable def hd.tw10193104807299194216:Unit:=()
noncomputable def hd.tw10200059711980206030:Unit:=()
noncomputable def hd.tw10200596682531068870:Unit:=()
noncomputable def hd.tw10257909930514227660:Unit:=()
noncomputable def hd.tw10314814847376767113:Unit:=()
noncomputable def hd.tw10418821070498059912:Unit:=()
noncomputable def hd.tw10506787317307311964:Unit:=()
noncomputable def hd.tw10584903055604394054:Unit:=()
noncomputable def hd.tw10592794516085672850:Unit:=()
noncomputable def hd.tw10611771540298893143:Unit:=()
noncomputable def hd.tw10652557068286136655:Unit:=()
noncomputable def hd.tw10913585522690886933:Unit:=()
noncomputable def hd.tw10954896027920521500:Unit:=()
noncomputable def hd.tw10980597926105621645:Unit:=()
noncomputable def hd.tw10981247840145607329:Unit:=()
noncomputable def hd.tw11043565332798135927:Unit:=()
noncomputable def hd.tw1109879514587821502:Unit:=()
noncomputable def hd.tw11122842944015723790:Unit:=()
noncomputable def hd.tw11155353856842241703:Unit:=()
noncomputable def hd.tw11290029481284117407:Unit:=()
noncomputable def hd.tw11570111164570437037:Unit:=()
noncomputable def hd.tw11585793122591300342:Unit:=()
noncomputable def hd.tw1160317203684671307:Unit:=()
noncomputable def hd.tw11810988563341916252:Unit:=()
noncomputable def hd.tw11815352881546339388:Unit:=()
noncomputable def hd.tw11912248818721715553:Unit:=()
noncomputable def hd.tw11934350699983728027:Unit:=()
noncomputable def hd.tw12010918843540018363:Unit:=()
noncomputable def hd.tw12023000035769693673:Unit:=()
noncomputable def hd.tw12149660499277099224:Unit:=()
noncomputable def hd.tw12280789728482893115:Unit:=()
noncomputable def hd.tw12289785986931056098:Unit:=()
noncomputable def hd.tw1235247223174674489:Unit:=()
noncomputable def hd.tw12426564226344084313:Unit:=()
noncomputable def hd.tw12472767505862618925:Unit:=()
noncomputable def hd.tw12538513643702813137:Unit:=()
noncomputable def hd.tw126899189614909607:Unit:=()
noncomputable def hd.tw12801012565498045964:Unit:=()
noncomputable def hd.tw12905145899662694839:Unit:=()
noncomputable def hd.tw12917748928761252462:Unit:=()
noncomputable def hd.tw1292574782506224866:Unit:=()
noncomputable def hd.tw12978694689486476534:Unit:=()
noncomputable def hd.tw1298781202104834068:Unit:=()
noncomputable def hd.tw13043773894940636711:Unit:=()
noncomputable def hd.tw1311894858572065410:Unit:=()
noncomputable def hd.tw13253541544203528774:Unit:=()
noncomputable def hd.tw13291438424144138419:Unit:=()
noncomputable def hd.tw13331704739837112769:Unit:=()
noncomputable def hd.tw13414662886053400026:Unit:=()
noncomputable def hd.tw13419790239819088309:Unit:=()
noncomputable def hd.tw13436793889874751463:Unit:=()
noncomputable def hd.tw13675884382191442351:Unit:=()
noncomputable def hd.tw13702962655247883447:Unit:=()
noncomputable def hd.tw13704628199583507327:Unit:=()
noncomputable def hd.tw13862642468083079315:Unit:=()
noncomputable def hd.tw14019357707464180739:Unit:=()
noncomputable def hd.tw14076141398139754965:Unit:=()
noncomputable def hd.tw141379768648097825:Unit:=()
noncomputable def hd.tw14170626163746665929:Unit:=()
noncomputable def hd.tw14194955961183906216:Unit:=()
noncomputable def hd.tw14304563500966998132:Unit:=()
noncomputable def hd.tw14321712812228375884:Unit:=()
noncomputable def hd.tw14323767728887713897:Unit:=()
noncomputable def hd.tw14479959197142875710:Unit:=()
noncomputable def hd.tw14487415735459167684:Unit:=()
noncomputable def hd.tw14766628837263464153:Unit:=()
noncomputable def hd.tw14791417324727343718:Unit:=()
noncomputable def hd.tw1479440292816680990:Unit:=()
noncomputable def hd.tw14846430730451215336:Unit:=()
noncomputable def hd.tw14851662188348016525:Unit:=()
noncomputable def hd.tw14885124812403076695:Unit:=()
noncomputable def hd.tw15008555091322755903:Unit:=()
noncomputable def hd.tw15051540443700079324:Unit:=()
noncomputable def hd.tw1513407473488127497:Unit:=()
noncomputable def hd.tw15170166819509798712:Unit:=()
noncomputable def hd.tw15230860919284253270:Unit:=()
noncomputable def hd.tw1523212933880916979:Unit:=()
noncomputable def hd.tw15253597959013096350:Unit:=()
noncomputable def hd.tw15293771430684577509:Unit:=()
noncomputable def hd.tw15313804776001833728:Unit:=()
noncomputable def hd.tw1532897608927182526:Unit:=()
noncomputable def hd.tw1546340448729182881:Unit:=()
noncomputable def hd.tw15544853520655005638:Unit:=()
noncomputable def hd.tw15610926135251115398:Unit:=()
noncomputable def hd.tw15614994299816657964:Unit:=()
noncomputable def hd.tw15831449180804048182:Unit:=()
noncomputable def hd.tw16009306857160682382:Unit:=()
noncomputable def hd.tw16049856711259736594:Unit:=()
noncomputable def hd.tw16064010049021166651:Unit:=()
noncomputable def hd.tw16140346037966671567:Unit:=()
noncomputable def hd.tw16192249821931289364:Unit:=()
noncomputable def hd.tw1626954789893016217:Unit:=()
noncomputable def hd.tw16331016480089262388:Unit:=()
noncomputable def hd.tw16490958093706603973:Unit:=()
noncomputable def hd.tw16561031784554278298:Unit:=()
noncomputable def hd.tw16607972267231536329:Unit:=()
noncomputable def hd.tw16633321846759511662:Unit:=()
noncomputable def hd.tw16644201821892198081:Unit:=()
noncomputable def hd.tw1665519426611977725:Unit:=()
noncomputable def hd.tw16732195475098059574:Unit:=()
noncomputable def hd.tw1683403540481929176:Unit:=()
noncomputable def hd.tw16874378897286668274:Unit:=()
noncomputable def hd.tw16953484572288141156:Unit:=()
noncomputable def hd.tw16973133056051306746:Unit:=()
noncomputable def hd.tw17059487216203745038:Unit:=()
noncomputable def hd.tw17106247454124805299:Unit:=()
noncomputable def hd.tw17204449605386721941:Unit:=()
noncomputable def hd.tw17213202801741711188:Unit:=()
noncomputable def hd.tw17237978297281736309:Unit:=()
noncomputable def hd.tw17287459089854585945:Unit:=()
noncomputable def hd.tw17327716533671561472:Unit:=()
noncomputable def hd.tw17438610683811369668:Unit:=()
noncomputable def hd.tw17523582860893176437:Unit:=()
noncomputable def hd.tw17587535071971633485:Unit:=()
noncomputable def hd.tw17745206419663925312:Unit:=()
noncomputable def hd.tw17775649180985745786:Unit:=()
noncomputable def hd.tw17896979994045829828:Unit:=()
noncomputable def hd.tw17992777665364332788:Unit:=()
noncomputable def hd.tw18001230695176581838:Unit:=()
noncomputable def hd.tw18059793885086720939:Unit:=()
noncomputable def hd.tw18066081243835392563:Unit:=()
noncomputable def hd.tw18150562674833509941:Unit:=()
noncomputable def hd.tw18153037698230563350:Unit:=()
noncomputable def hd.tw18229235640690726180:Unit:=()
noncomputable def hd.tw18260245816743181511:Unit:=()
noncomputable def hd.tw18272491874396864091:Unit:=()
noncomputable def hd.tw18280231356768202928:Unit:=()
noncomputable def hd.tw18313958262992902728:Unit:=()
noncomputable def hd.tw18315960055377521309:Unit:=()
noncomputable def hd.tw1838016361993159935:Unit:=()
noncomputable def hd.tw18423960213122298384:Unit:=()
noncomputable def hd.tw187721451887068916:Unit:=()
noncomputable def hd.tw1942723855846508794:Unit:=()
noncomputable def hd.tw1981489810998205183:Unit:=()
noncomputable def hd.tw1992405202823017090:Unit:=()
noncomputable def hd.tw2114883523508822293:Unit:=()
noncomputable def hd.tw2116293081078497426:Unit:=()
noncomputable def hd.tw2155373148024153087:Unit:=()
noncomputable def hd.tw2177979273374649106:Unit:=()
noncomputable def hd.tw2234841607322767675:Unit:=()
noncomputable def hd.tw2241180450144564393:Unit:=()
noncomputable def hd.tw231678842138440352:Unit:=()
noncomputable def hd.tw2382034009712293678:Unit:=()
noncomputable def hd.tw2395360589981782600:Unit:=()
noncomputable def hd.tw2417802982746472137:Unit:=()
noncomputable def hd.tw2601553834287326237:Unit:=()
noncomputable def hd.tw2655586099545260437:Unit:=()
noncomputable def hd.tw2686811819572748776:Unit:=()
noncomputable def hd.tw270159884227141191:Unit:=()
noncomputable def hd.tw2777310486606898128:Unit:=()
noncomputable def hd.tw3020274298221478276:Unit:=()
noncomputable def hd.tw3062554034549116351:Unit:=()
noncomputable def hd.tw3219386304998410691:Unit:=()
noncomputable def hd.tw3227706676992921592:Unit:=()
noncomputable def hd.tw3241314515751092627:Unit:=()
noncomputable def hd.tw3490399344014754336:Unit:=()
noncomputable def hd.tw3503359234994187029:Unit:=()
noncomputable def hd.tw3641903923722224168:Unit:=()
noncomputable def hd.tw3655753129109681850:Unit:=()
noncomputable def hd.tw367857026772771265:Unit:=()
noncomputable def hd.tw3692403537964248751:Unit:=()
noncomputable def hd.tw3751741238260587452:Unit:=()
noncomputable def hd.tw3780787445193727532:Unit:=()
noncomputable def hd.tw3896432864908169337:Unit:=()
noncomputable def hd.tw3916285193714390168:Unit:=()
noncomputable def hd.tw4144914912218024235:Unit:=()
noncomputable def hd.tw4158538966326616356:Unit:=()
noncomputable def hd.tw4195166080166848607:Unit:=()
noncomputable def hd.tw4229197034057890473:Unit:=()
noncomputable def hd.tw4455062051430825911:Unit:=()
noncomputable def hd.tw4458026342584188919:Unit:=()
noncomputable def hd.tw4544679596462431387:Unit:=()
noncomputable def hd.tw455996952264472808:Unit:=()
noncomputable def hd.tw4568231203091369911:Unit:=()
noncomputable def hd.tw4572055151466897615:Unit:=()
noncomputable def hd.tw4577393864431605276:Unit:=()
noncomputable def hd.tw4691370680777177264:Unit:=()
noncomputable def hd.tw4790182246096814837:Unit:=()
noncomputable def hd.tw4794295470348331434:Unit:=()
noncomputable def hd.tw4855435815858847083:Unit:=()
noncomputable def hd.tw4932915121498799041:Unit:=()
noncomputable def hd.tw4992423415846252249:Unit:=()
noncomputable def hd.tw5109750279720785074:Unit:=()
noncomputable def hd.tw5129100327938481947:Unit:=()
noncomputable def hd.tw5165858259965997201:Unit:=()
noncomputable def hd.tw539589783910026877:Unit:=()
noncomputable def hd.tw543636222009071611:Unit:=()
noncomputable def hd.tw5462893749543862879:Unit:=()
noncomputable def hd.tw5479632107175813453:Unit:=()
noncomputable def hd.tw5486493490053360157:Unit:=()
noncomputable def hd.tw5533284921534288411:Unit:=()
noncomputable def hd.tw5594199804548315133:Unit:=()
noncomputable def hd.tw5604250919994444252:Unit:=()
noncomputable def hd.tw5630533868503338980:Unit:=()
noncomputable def hd.tw5636303146250169470:Unit:=()
noncomputable def hd.tw5766817342387943034:Unit:=()
noncomputable def hd.tw580301670077480640:Unit:=()
noncomputable def hd.tw5813924530853040166:Unit:=()
noncomputable def hd.tw5848525411004977341:Unit:=()
noncomputable def hd.tw5910955368310942365:Unit:=()
noncomputable def hd.tw5963049168890907350:Unit:=()
noncomputable def hd.tw597430841090971830:Unit:=()
noncomputable def hd.tw6034331834246549318:Unit:=()
noncomputable def hd.tw6046201485432095634:Unit:=()
noncomputable def hd.tw6064361311239337953:Unit:=()
noncomputable def hd.tw6078900312468773854:Unit:=()
noncomputable def hd.tw6128699546485818623:Unit:=()
noncomputable def hd.tw6156775387982992289:Unit:=()
noncomputable def hd.tw6362447207671622590:Unit:=()
noncomputable def hd.tw6418394132375852581:Unit:=()
noncomputable def hd.tw6496468359453899740:Unit:=()
noncomputable def hd.tw6584964919600876763:Unit:=()
noncomputable def hd.tw6597962789093873526:Unit:=()
noncomputable def hd.tw6742079255410503971:Unit:=()
noncomputable def hd.tw6825794384878216377:Unit:=()
noncomputable def hd.tw690909109011163107:Unit:=()
noncomputable def hd.tw69890677706110351:Unit:=()
noncomputable def hd.tw7011742071773796823:Unit:=()
noncomputable def hd.tw7104915865109316593:Unit:=()
noncomputable def hd.tw7107885837275350853:Unit:=()
noncomputable def hd.tw7225735259654059117:Unit:=()
noncomputable def hd.tw7252744027004354421:Unit:=()
noncomputable def hd.tw7339385377263174568:Unit:=()
noncomputable def hd.tw735499216457412341:Unit:=()
noncomputable def hd.tw7363439029260755892:Unit:=()
noncomputable def hd.tw7409293659646686610:Unit:=()
noncomputable def hd.tw7504022934668878425:Unit:=()
noncomputable def hd.tw754995371310844855:Unit:=()
noncomputable def hd.tw778996663928911553:Unit:=()
noncomputable def hd.tw7828148429267724845:Unit:=()
noncomputable def hd.tw7839861392634791998:Unit:=()
noncomputable def hd.tw8019583575661373409:Unit:=()
noncomputable def hd.tw803298182361166000:Unit:=()
noncomputable def hd.tw8113946606531873331:Unit:=()
noncomputable def hd.tw8132022325370165942:Unit:=()
noncomputable def hd.tw8138335841240258086:Unit:=()
noncomputable def hd.tw8151924304054899687:Unit:=()
noncomputable def hd.tw8390539997926843411:Unit:=()
noncomputable def hd.tw8455509636433690358:Unit:=()
noncomputable def hd.tw8494178379519767217:Unit:=()
noncomputable def hd.tw8499867674576427667:Unit:=()
noncomputable def hd.tw8547976606474840627:Unit:=()
noncomputable def hd.tw8580518863689810338:Unit:=()
noncomputable def hd.tw8583156150137307454:Unit:=()
noncomputable def hd.tw8594091374061654533:Unit:=()
noncomputable def hd.tw8637924245605089610:Unit:=()
noncomputable def hd.tw8722938342819674158:Unit:=()
noncomputable def hd.tw8764165114954018434:Unit:=()
noncomputable def hd.tw8890726212758104139:Unit:=()
noncomputable def hd.tw8899746735614894663:Unit:=()
noncomputable def hd.tw8983397095688490290:Unit:=()
noncomputable def hd.tw9003164874222133143:Unit:=()
noncomputable def hd.tw9013603393401162020:Unit:=()
noncomputable def hd.tw9027985886240724871:Unit:=()
noncomputable def hd.tw9032869535437464162:Unit:=()
noncomputable def hd.tw9180358300632990600:Unit:=()
noncomputable def hd.tw9193979096431994668:Unit:=()
noncomputable def hd.tw9221647939110133654:Unit:=()
noncomputable def hd.tw9257564877634915833:Unit:=()
noncomputable def hd.tw9276349011584097663:Unit:=()
noncomputable def hd.tw9285060498679892708:Unit:=()
noncomputable def hd.tw9365843419700471067:Unit:=()
noncomputable def hd.tw9368504840272485767:Unit:=()
noncomputable def hd.tw9372208762206411727:Unit:=()
noncomputable def hd.tw9666415797876524396:Unit:=()
noncomputable def hd.tw9673087150982176410:Unit:=()
noncomputable def hd.tw9691164852092459200:Unit:=()
noncomputable def hd.tw9692193050773601005:Unit:=()
noncomputable def hd.tw9729328000736971776:Unit:=()
noncomputable def hd.tw9747750627657676039:Unit:=()
noncomputable def hd.tw9789424005658652060:Unit:=()
noncomputable def hd.tw9812517637422296469:Unit:=()
noncomputable def hd.tw9878135420369046608:Unit:=()
set_option maxHeartbeats 8000000
set_option Elab.async true
theorem hd:PySem.Challenge.rw_pf0164_01.Holds:=by
  w_on; o_law; k_head; (case hw=>w_witness2)
  w_strict (
  k_fill
  intro w s₀ s₁ mg mb G Y fa o pm cd doc dV kV ho hd hcd hD hmg hg args vals as hpre hlay hrd hwl hlo
  have KX:=km_in_of Y
  km_tabs Y
  have X:=(Ground.X G).1
  have V:=(Ground.X G).2
  refine Ground.open G ?_
  intro T B D TE TW
  try (refine guard_noD D (by decide +kernel) ?_; clear D)
  km_lay T hmg ho hd cd
  wrow_args hpre hlay hrd hwl hlo
  have X':=ghost_K hT9 KX (by kernel_rfl)
  have T':=ghost_top hT9 T
  refine enter_call ?_
  refine kn_post hT9 (fun Z Z=>rfl) ?_
  have HX:AmbOK (E9 w s₁ (_root_.Mine.Internal.hd.heap_1_39 w.params) mg mb) prog:={
    K:=X'
    lim:=T'.nolimit
    cls:=fun c=>{ get:=fun f=>⟨by cases c <;> cases f <;> kernel_rfl,by cases c <;> cases f <;> kernel_rfl⟩,dict:=by cases c <;> kernel_rfl,set:=by cases c <;> kernel_rfl,over:=by cases c <;> kernel_rfl,taker:=fun f=>by cases c <;> cases f <;> kernel_rfl }
    sys:=(by decide:(1:Nat) < 152)
    g:=T'.g
    b:=T'.b
    fns:=fun f hf=>mg_of X' T'.g (by cases f <;> first | exact absurd hf (by decide) | kernel_rfl)
    clss:=fun c=>mg_of X' T'.g (by cases c <;> kernel_rfl)
    bis:=fun b=>⟨mg_none_of X' T'.g (by cases b <;> kernel_rfl),(T'.builtins _ (by cases b <;> decide)).trans (by
      cases b
      · exact (by boot_fast:bootBuiltins (Str.ofString "len")=some (.builtin "len"))
      · exact (by boot_fast:bootBuiltins (Str.ofString "max")=some (.builtin "max"))
      · exact (by boot_fast:bootBuiltins (Str.ofString "int")=some (.type "int"))
      · exact (by boot_fast:bootBuiltins (Str.ofString "sum")=some (.builtin "sum"))
      · exact (by boot_fast:bootBuiltins (Str.ofString "tuple")=some (.type "tuple"))
      · exact (by boot_fast:bootBuiltins (Str.ofString "dict")=some (.type "dict"))
      · exact (by boot_fast:bootBuiltins (Str.ofString "range")=some (.type "range")))⟩
    lst:=⟨mg_none_of X' T'.g (by kernel_rfl),(T'.builtins _ (by decide)).trans (by boot_fast)⟩
    enm:=⟨mg_none_of X' T'.g (by kernel_rfl),(T'.builtins _ (by decide)).trans (by boot_fast)⟩
    byte:=⟨.ref 211,mg_of X' T'.g (by kernel_rfl),by
      exact Jt (us:=#[.str (Str.ofString "int") 452,.str (Str.ofString "u8") 453]) (n:=0) (X' _ _ (by kernel_rfl)) (dc (dw _) (dc (dw _) dz))⟩
    keepF:=by intro f; cases f <;> kernel_rfl
    keepC:=by intro f; cases f <;> kernel_rfl
    fn:=fun f=>by
      cases f
      case retargeted =>
        refine ⟨_,_,bL (hk:=rfl) X' rfl rfl rfl rfl rfl ⟨_,_,_,_,rfl,rfl,rfl,rfl⟩ (by decide +kernel) ⟨rfl,rfl,rfl,rfl⟩ ⟨rfl,rfl,rfl⟩ (by decide +kernel) (by decide +kernel) (fun x hx=>absurd hx List.not_mem_nil) (by decide +kernel) (by decide +kernel) (by decide +kernel) (by decide +kernel) (by decide) ?_,bY rO ?_⟩
        · exact br (by decide +kernel) ⟨rfl,rfl,rfl,rfl⟩ (by decide +kernel) rfl rfl (by decide)
        · kernel_rfl
      case copied =>
        refine ⟨_,_,bL (hk:=rfl) X' rfl rfl rfl rfl rfl ⟨_,_,_,_,rfl,rfl,rfl,rfl⟩ (by decide +kernel) ⟨rfl,rfl,rfl,rfl⟩ ⟨rfl,rfl,rfl⟩ (by decide +kernel) (by decide +kernel) (fun x hx=>absurd hx List.not_mem_nil) (by decide +kernel) (by decide +kernel) (by decide +kernel) (by decide +kernel) (by decide) ?_,bY yy ?_⟩
        · exact br (by decide +kernel) ⟨rfl,rfl,rfl,rfl⟩ (by decide +kernel) rfl rfl (by decide)
        · kernel_rfl
      case operandsOf =>
        refine ⟨_,_,bL (hk:=rfl) X' rfl rfl rfl rfl rfl ⟨_,_,_,_,rfl,rfl,rfl,rfl⟩ (by decide +kernel) ⟨rfl,rfl,rfl,rfl⟩ ⟨rfl,rfl,rfl⟩ (by decide +kernel) (by decide +kernel) (fun x hx=>absurd hx List.not_mem_nil) (by decide +kernel) (by decide +kernel) (by decide +kernel) (by decide +kernel) (by decide) ?_,bY rK ?_⟩
        · exact br (by decide +kernel) ⟨rfl,rfl,rfl,rfl⟩ (by decide +kernel) rfl rfl (by decide)
        · kernel_rfl
      case withOperands =>
        refine ⟨_,_,bL (hk:=rfl) X' rfl rfl rfl rfl rfl ⟨_,_,_,_,rfl,rfl,rfl,rfl⟩ (by decide +kernel) ⟨rfl,rfl,rfl,rfl⟩ ⟨rfl,rfl,rfl⟩ (by decide +kernel) (by decide +kernel) (fun x hx=>absurd hx List.not_mem_nil) (by decide +kernel) (by decide +kernel) (by decide +kernel) (by decide +kernel) (by decide) ?_,bY pA ?_⟩
        · exact br (by decide +kernel) ⟨rfl,rfl,rfl,rfl⟩ (by decide +kernel) rfl rfl (by decide)
        · kernel_rfl
      case isSmall =>
        refine ⟨_,_,bL (hk:=rfl) X' rfl rfl rfl rfl rfl ⟨_,_,_,_,rfl,rfl,rfl,rfl⟩ (by decide +kernel) ⟨rfl,rfl,rfl,rfl⟩ ⟨rfl,rfl,rfl⟩ (by decide +kernel) (by decide +kernel) (fun x hx=>absurd hx List.not_mem_nil) (by decide +kernel) (by decide +kernel) (by decide +kernel) (by decide +kernel) (by decide) ?_,bY xa ?_⟩
        · exact br (by decide +kernel) ⟨rfl,rfl,rfl,rfl⟩ (by decide +kernel) rfl rfl (by decide)
        · kernel_rfl
      case movedPlace =>
        refine ⟨_,_,bL (hk:=rfl) X' rfl rfl rfl rfl rfl ⟨_,_,_,_,rfl,rfl,rfl,rfl⟩ (by decide +kernel) ⟨rfl,rfl,rfl,rfl⟩ ⟨rfl,rfl,rfl⟩ (by decide +kernel) (by decide +kernel) (fun x hx=>absurd hx List.not_mem_nil) (by decide +kernel) (by decide +kernel) (by decide +kernel) (by decide +kernel) (by decide) ?_,bY rM ?_⟩
        · exact br (by decide +kernel) ⟨rfl,rfl,rfl,rfl⟩ (by decide +kernel) rfl rfl (by decide)
        · kernel_rfl
      case movedOperand =>
        refine ⟨_,_,bL (hk:=rfl) X' rfl rfl rfl rfl rfl ⟨_,_,_,_,rfl,rfl,rfl,rfl⟩ (by decide +kernel) ⟨rfl,rfl,rfl,rfl⟩ ⟨rfl,rfl,rfl⟩ (by decide +kernel) (by decide +kernel) (fun x hx=>absurd hx List.not_mem_nil) (by decide +kernel) (by decide +kernel) (by decide +kernel) (by decide +kernel) (by decide) ?_,bY pV ?_⟩
        · exact br (by decide +kernel) ⟨rfl,rfl,rfl,rfl⟩ (by decide +kernel) rfl rfl (by decide)
        · kernel_rfl
      case movedOperands =>
        refine ⟨_,_,bL (hk:=rfl) X' rfl rfl rfl rfl rfl ⟨_,_,_,_,rfl,rfl,rfl,rfl⟩ (by decide +kernel) ⟨rfl,rfl,rfl,rfl⟩ ⟨rfl,rfl,rfl⟩ (by decide +kernel) (by decide +kernel) (fun x hx=>absurd hx List.not_mem_nil) (by decide +kernel) (by decide +kernel) (by decide +kernel) (by decide +kernel) (by decide) ?_,bY oK ?_⟩
        · exact br (by decide +kernel) ⟨rfl,rfl,rfl,rfl⟩ (by decide +kernel) rfl rfl (by decide)
        · kernel_rfl
      case movedRvalue =>
        refine ⟨_,_,bL (hk:=rfl) X' rfl rfl rfl rfl rfl ⟨_,_,_,_,rfl,rfl,rfl,rfl⟩ (by decide +kernel) ⟨rfl,rfl,rfl,rfl⟩ ⟨rfl,rfl,rfl⟩ (by decide +kernel) (by decide +kernel) (fun x hx=>absurd hx List.not_mem_nil) (by decide +kernel) (by decide +kernel) (by decide +kernel) (by decide +kernel) (by decide) ?_,bY qC ?_⟩
        · exact br (by decide +kernel) ⟨rfl,rfl,rfl,rfl⟩ (by decide +kernel) rfl rfl (by decide)
        · kernel_rfl
      case movedStatement =>
        refine ⟨_,_,bL (hk:=rfl) X' rfl rfl rfl rfl rfl ⟨_,_,_,_,rfl,rfl,rfl,rfl⟩ (by decide +kernel) ⟨rfl,rfl,rfl,rfl⟩ ⟨rfl,rfl,rfl⟩ (by decide +kernel) (by decide +kernel) (fun x hx=>absurd hx List.not_mem_nil) (by decide +kernel) (by decide +kernel) (by decide +kernel) (by decide +kernel) (by decide) ?_,bY nT ?_⟩
        · exact br (by decide +kernel) ⟨rfl,rfl,rfl,rfl⟩ (by decide +kernel) rfl rfl (by decide)
        · kernel_rfl
      case movedTerminator =>
        refine ⟨_,_,bL (hk:=rfl) X' rfl rfl rfl rfl rfl ⟨_,_,_,_,rfl,rfl,rfl,rfl⟩ (by decide +kernel) ⟨rfl,rfl,rfl,rfl⟩ ⟨rfl,rfl,rfl⟩ (by decide +kernel) (by decide +kernel) (fun x hx=>⟨rfl,rfl⟩) (by decide +kernel) (by decide +kernel) (by decide +kernel) (by decide +kernel) (by decide) ?_,bY mV ?_⟩
        · exact br (by decide +kernel) ⟨rfl,rfl,rfl,rfl⟩ (by decide +kernel) rfl rfl (by decide)
        · kernel_rfl
      case calledKey =>
        refine ⟨_,_,bL (hk:=rfl) X' rfl rfl rfl rfl rfl ⟨_,_,_,_,rfl,rfl,rfl,rfl⟩ (by decide +kernel) ⟨rfl,rfl,rfl,rfl⟩ ⟨rfl,rfl,rfl⟩ (by decide +kernel) (by decide +kernel) (fun x hx=>absurd hx List.not_mem_nil) (by decide +kernel) (by decide +kernel) (by decide +kernel) (by decide +kernel) (by decide) ?_,bY t7 ?_⟩
        · exact br (by decide +kernel) ⟨rfl,rfl,rfl,rfl⟩ (by decide +kernel) rfl rfl (by decide)
        · kernel_rfl
      case inlined =>
        refine ⟨_,_,bL (hk:=rfl) X' rfl rfl rfl rfl rfl ⟨_,_,_,_,rfl,rfl,rfl,rfl⟩ (by decide +kernel) ⟨rfl,rfl,rfl,rfl⟩ ⟨rfl,rfl,rfl⟩ (by decide +kernel) (by decide +kernel) (fun x hx=>absurd hx List.not_mem_nil) (by decide +kernel) (by decide +kernel) (by decide +kernel) (by decide +kernel) (by decide) ?_,bY wo ?_⟩
        · intro s vals keep l1 l2
          have hT:=keep _ _ (X' 203 (d7 #[.int 12 313] 0) (by kernel_rfl))
          rcases Hr l1 l2 with ⟨a,b,rfl⟩ | ⟨a,b,c,rfl⟩
          · exact ⟨[.int 12 313],dc (di _) dz,BindsTo.of_defaults rfl hT rfl rfl rfl⟩
          · exact ⟨[],dz,BindsTo.of_defaults rfl hT rfl rfl rfl⟩
        · kernel_rfl
      case pool =>
        refine ⟨_,_,bL (hk:=rfl) X' rfl rfl rfl rfl rfl ⟨_,_,_,_,rfl,rfl,rfl,rfl⟩ (by decide +kernel) ⟨rfl,rfl,rfl,rfl⟩ ⟨rfl,rfl,rfl⟩ (by decide +kernel) (by decide +kernel) (fun x hx=>absurd hx List.not_mem_nil) (by decide +kernel) (by decide +kernel) (by decide +kernel) (by decide +kernel) (by decide) ?_,bY DO ?_⟩
        · exact br (by decide +kernel) ⟨rfl,rfl,rfl,rfl⟩ (by decide +kernel) rfl rfl (by decide)
        · kernel_rfl
      case take =>
        refine ⟨_,_,bL (hk:=rfl) X' rfl rfl rfl rfl rfl ⟨_,_,_,_,rfl,rfl,rfl,rfl⟩ (by decide +kernel) ⟨rfl,rfl,rfl,rfl⟩ ⟨rfl,rfl,rfl⟩ (by decide +kernel) (by decide +kernel) (fun x hx=>absurd hx List.not_mem_nil) (by decide +kernel) (by decide +kernel) (by decide +kernel) (by decide +kernel) (by decide) ?_,bY DT ?_⟩
        · exact br (by decide +kernel) ⟨rfl,rfl,rfl,rfl⟩ (by decide +kernel) rfl rfl (by decide)
        · kernel_rfl
      case one =>
        refine ⟨_,_,bL (hk:=rfl) X' rfl rfl rfl rfl rfl ⟨_,_,_,_,rfl,rfl,rfl,rfl⟩ (by decide +kernel) ⟨rfl,rfl,rfl,rfl⟩ ⟨rfl,rfl,rfl⟩ (by decide +kernel) (by decide +kernel) (fun x hx=>absurd hx List.not_mem_nil) (by decide +kernel) (by decide +kernel) (by decide +kernel) (by decide +kernel) (by decide) ?_,bY FE ?_⟩
        · exact br (by decide +kernel) ⟨rfl,rfl,rfl,rfl⟩ (by decide +kernel) rfl rfl (by decide)
        · kernel_rfl
      case value =>
        refine ⟨_,_,bL (hk:=rfl) X' rfl rfl rfl rfl rfl ⟨_,_,_,_,rfl,rfl,rfl,rfl⟩ (by decide +kernel) ⟨rfl,rfl,rfl,rfl⟩ ⟨rfl,rfl,rfl⟩ (by decide +kernel) (by decide +kernel) (fun x hx=>absurd hx List.not_mem_nil) (by decide +kernel) (by decide +kernel) (by decide +kernel) (by decide +kernel) (by decide) ?_,bY AR ?_⟩
        · exact br (by decide +kernel) ⟨rfl,rfl,rfl,rfl⟩ (by decide +kernel) rfl rfl (by decide)
        · kernel_rfl
      case set =>
        refine ⟨_,_,bL (hk:=rfl) X' rfl rfl rfl rfl rfl ⟨_,_,_,_,rfl,rfl,rfl,rfl⟩ (by decide +kernel) ⟨rfl,rfl,rfl,rfl⟩ ⟨rfl,rfl,rfl⟩ (by decide +kernel) (by decide +kernel) (fun x hx=>absurd hx List.not_mem_nil) (by decide +kernel) (by decide +kernel) (by decide +kernel) (by decide +kernel) (by decide) ?_,bY Fr ?_⟩
        · exact br (by decide +kernel) ⟨rfl,rfl,rfl,rfl⟩ (by decide +kernel) rfl rfl (by decide)
        · kernel_rfl
      case do_ =>
        refine ⟨_,_,bL (hk:=rfl) X' rfl rfl rfl rfl rfl ⟨_,_,_,_,rfl,rfl,rfl,rfl⟩ (by decide +kernel) ⟨rfl,rfl,rfl,rfl⟩ ⟨rfl,rfl,rfl⟩ (by decide +kernel) (by decide +kernel) (fun x hx=>absurd hx List.not_mem_nil) (by decide +kernel) (by decide +kernel) (by decide +kernel) (by decide +kernel) (by decide) ?_,bY Eh ?_⟩
        · exact br (by decide +kernel) ⟨rfl,rfl,rfl,rfl⟩ (by decide +kernel) rfl rfl (by decide)
        · kernel_rfl
      case run =>
        refine ⟨_,_,bL (hk:=rfl) X' rfl rfl rfl rfl rfl ⟨_,_,_,_,rfl,rfl,rfl,rfl⟩ (by decide +kernel) ⟨rfl,rfl,rfl,rfl⟩ ⟨rfl,rfl,rfl⟩ (by decide +kernel) (by decide +kernel) (fun x hx=>absurd hx List.not_mem_nil) (by decide +kernel) (by decide +kernel) (by decide +kernel) (by decide +kernel) (by decide) ?_,bY GN ?_⟩
        · exact br (by decide +kernel) ⟨rfl,rfl,rfl,rfl⟩ (by decide +kernel) rfl rfl (by decide)
        · kernel_rfl
      case place =>
        refine ⟨_,_,bL (hk:=rfl) X' rfl rfl rfl rfl rfl ⟨_,_,_,_,rfl,rfl,rfl,rfl⟩ (by decide +kernel) ⟨rfl,rfl,rfl,rfl⟩ ⟨rfl,rfl,rfl⟩ (by decide +kernel) (by decide +kernel) (fun x hx=>absurd hx List.not_mem_nil) (by decide +kernel) (by decide +kernel) (by decide +kernel) (by decide +kernel) (by decide) ?_,bY AT ?_⟩
        · exact br (by decide +kernel) ⟨rfl,rfl,rfl,rfl⟩ (by decide +kernel) rfl rfl (by decide)
        · kernel_rfl
      case number =>
        refine ⟨_,_,bL (hk:=rfl) X' rfl rfl rfl rfl rfl ⟨_,_,_,_,rfl,rfl,rfl,rfl⟩ (by decide +kernel) ⟨rfl,rfl,rfl,rfl⟩ ⟨rfl,rfl,rfl⟩ (by decide +kernel) (by decide +kernel) (fun x hx=>absurd hx List.not_mem_nil) (by decide +kernel) (by decide +kernel) (by decide +kernel) (by decide +kernel) (by decide) ?_,bY yC ?_⟩
        · exact br (by decide +kernel) ⟨rfl,rfl,rfl,rfl⟩ (by decide +kernel) rfl rfl (by decide)
        · kernel_rfl
      case small =>
        refine ⟨_,_,bL (hk:=rfl) X' rfl rfl rfl rfl rfl ⟨_,_,_,_,rfl,rfl,rfl,rfl⟩ (by decide +kernel) ⟨rfl,rfl,rfl,rfl⟩ ⟨rfl,rfl,rfl⟩ (by decide +kernel) (by decide +kernel) (fun x hx=>absurd hx List.not_mem_nil) (by decide +kernel) (by decide +kernel) (by decide +kernel) (by decide +kernel) (by decide) ?_,bY AV ?_⟩
        · exact br (by decide +kernel) ⟨rfl,rfl,rfl,rfl⟩ (by decide +kernel) rfl rfl (by decide)
        · kernel_rfl
      case middle =>
        refine ⟨_,_,bL (hk:=rfl) X' rfl rfl rfl rfl rfl ⟨_,_,_,_,rfl,rfl,rfl,rfl⟩ (by decide +kernel) ⟨rfl,rfl,rfl,rfl⟩ ⟨rfl,rfl,rfl⟩ (by decide +kernel) (by decide +kernel) (fun x hx=>absurd hx List.not_mem_nil) (by decide +kernel) (by decide +kernel) (by decide +kernel) (by decide +kernel) (by decide) ?_,bY zn ?_⟩
        · exact br (by decide +kernel) ⟨rfl,rfl,rfl,rfl⟩ (by decide +kernel) rfl rfl (by decide)
        · kernel_rfl
      case mainL =>
        refine ⟨_,_,bL (hk:=rfl) X' rfl rfl rfl rfl rfl ⟨_,_,_,_,rfl,rfl,rfl,rfl⟩ (by decide +kernel) ⟨rfl,rfl,rfl,rfl⟩ ⟨rfl,rfl,rfl⟩ (by decide +kernel) (by decide +kernel) (fun x hx=>absurd hx List.not_mem_nil) (by decide +kernel) (by decide +kernel) (by decide +kernel) (by decide +kernel) (by decide) ?_,bY A4 ?_⟩
        · exact br (by decide +kernel) ⟨rfl,rfl,rfl,rfl⟩ (by decide +kernel) rfl rfl (by decide)
        · kernel_rfl
      case calls =>
        refine ⟨_,_,bL (hk:=rfl) X' rfl rfl rfl rfl rfl ⟨_,_,_,_,rfl,rfl,rfl,rfl⟩ (by decide +kernel) ⟨rfl,rfl,rfl,rfl⟩ ⟨rfl,rfl,rfl⟩ (by decide +kernel) (by decide +kernel) (fun x hx=>absurd hx List.not_mem_nil) (by decide +kernel) (by decide +kernel) (by decide +kernel) (by decide +kernel) (by decide) ?_,bY Aj ?_⟩
        · exact br (by decide +kernel) ⟨rfl,rfl,rfl,rfl⟩ (by decide +kernel) rfl rfl (by decide)
        · kernel_rfl
      case told =>
        refine ⟨_,_,bL (hk:=rfl) X' rfl rfl rfl rfl rfl ⟨_,_,_,_,rfl,rfl,rfl,rfl⟩ (by decide +kernel) ⟨rfl,rfl,rfl,rfl⟩ ⟨rfl,rfl,rfl⟩ (by decide +kernel) (by decide +kernel) (fun x hx=>absurd hx List.not_mem_nil) (by decide +kernel) (by decide +kernel) (by decide +kernel) (by decide +kernel) (by decide) ?_,bY Dc ?_⟩
        · exact br (by decide +kernel) ⟨rfl,rfl,rfl,rfl⟩ (by decide +kernel) rfl rfl (by decide)
        · kernel_rfl
      case law =>
        refine ⟨_,_,bL (hk:=rfl) X' rfl rfl rfl rfl rfl ⟨_,_,_,_,rfl,rfl,rfl,rfl⟩ (by decide +kernel) ⟨rfl,rfl,rfl,rfl⟩ ⟨rfl,rfl,rfl⟩ (by decide +kernel) (by decide +kernel) (fun x hx=>absurd hx List.not_mem_nil) (by decide +kernel) (by decide +kernel) (by decide +kernel) (by decide +kernel) (by decide) ?_,bY Er ?_⟩
        · exact br (by decide +kernel) ⟨rfl,rfl,rfl,rfl⟩ (by decide +kernel) rfl rfl (by decide)
        · kernel_rfl
      case put =>
        refine ⟨_,_,bL (hk:=rfl) X' rfl rfl rfl rfl rfl ⟨_,_,_,_,rfl,rfl,rfl,rfl⟩ (by decide +kernel) ⟨rfl,rfl,rfl,rfl⟩ ⟨rfl,rfl,rfl⟩ (by decide +kernel) (by decide +kernel) (fun x hx=>absurd hx List.not_mem_nil) (by decide +kernel) (by decide +kernel) (by decide +kernel) (by decide +kernel) (by decide) ?_,jP GL ?_⟩
        · exact br (by decide +kernel) ⟨rfl,rfl,rfl,rfl⟩ (by decide +kernel) rfl rfl (by decide)
        · kernel_rfl
      case tellSpots =>
        refine ⟨_,_,bL (hk:=rfl) X' rfl rfl rfl rfl rfl ⟨_,_,_,_,rfl,rfl,rfl,rfl⟩ (by decide +kernel) ⟨rfl,rfl,rfl,rfl⟩ ⟨rfl,rfl,rfl⟩ (by decide +kernel) (by decide +kernel) (fun x hx=>absurd hx List.not_mem_nil) (by decide +kernel) (by decide +kernel) (by decide +kernel) (by decide +kernel) (by decide) ?_,jP ub ?_⟩
        · exact br (by decide +kernel) ⟨rfl,rfl,rfl,rfl⟩ (by decide +kernel) rfl rfl (by decide)
        · kernel_rfl
      case putBlock =>
        refine ⟨_,_,bL (hk:=rfl) X' rfl rfl rfl rfl rfl ⟨_,_,_,_,rfl,rfl,rfl,rfl⟩ (by decide +kernel) ⟨rfl,rfl,rfl,rfl⟩ ⟨rfl,rfl,rfl⟩ (by decide +kernel) (by decide +kernel) (fun x hx=>absurd hx List.not_mem_nil) (by decide +kernel) (by decide +kernel) (by decide +kernel) (by decide +kernel) (by decide) ?_,jP uA ?_⟩
        · exact br (by decide +kernel) ⟨rfl,rfl,rfl,rfl⟩ (by decide +kernel) rfl rfl (by decide)
        · kernel_rfl
      case initCaller =>
        refine ⟨_,_,bL (hk:=rfl) X' rfl rfl rfl rfl rfl ⟨_,_,_,_,rfl,rfl,rfl,rfl⟩ (by decide +kernel) ⟨rfl,rfl,rfl,rfl⟩ ⟨rfl,rfl,rfl⟩ (by decide +kernel) (by decide +kernel) (fun x hx=>absurd hx List.not_mem_nil) (by decide +kernel) (by decide +kernel) (by decide +kernel) (by decide +kernel) (by decide) ?_,jP rI ?_⟩
        · exact br (by decide +kernel) ⟨rfl,rfl,rfl,rfl⟩ (by decide +kernel) rfl rfl (by decide)
        · kernel_rfl
      case initBody =>
        refine ⟨_,_,bL (hk:=rfl) X' rfl rfl rfl rfl rfl ⟨_,_,_,_,rfl,rfl,rfl,rfl⟩ (by decide +kernel) ⟨rfl,rfl,rfl,rfl⟩ ⟨rfl,rfl,rfl⟩ (by decide +kernel) (by decide +kernel) (fun x hx=>absurd hx List.not_mem_nil) (by decide +kernel) (by decide +kernel) (by decide +kernel) (by decide +kernel) (by decide) ?_,jP uy ?_⟩
        · intro s vals keep l1 l2
          have hT:=keep _ _ (X' 29 (d7 #[.none,.none] 0) (by kernel_rfl))
          rcases HA l1 l2 with ⟨a,b,c,d,rfl⟩ | ⟨a,b,c,d,e,rfl⟩ | ⟨a,b,c,d,e,g,rfl⟩
          · exact ⟨[.none,.none],dc dn (dc dn dz),BindsTo.of_defaults rfl hT rfl rfl rfl⟩
          · exact ⟨[.none],dc dn dz,BindsTo.of_defaults rfl hT rfl rfl rfl⟩
          · exact ⟨[],dz,BindsTo.of_defaults rfl hT rfl rfl rfl⟩
        · kernel_rfl
    hd:=(ghost_code hT9).1
    bat:=by
      obtain ⟨bm,ob,h1,h2,h3,h4,h5,h6⟩:=T'.bmain
      refine ⟨bm,ob,h1,h2,fun q=>?_,fun q=>?_,h3,h4,h5,h6⟩
      · subst q
        obtain ⟨o2,es,ep,e,hd2,_⟩:=T'.g
        rw [h3] at e; cases e; rw [h6] at hd2; cases hd2
      · subst q
        have:=mg_of X' T'.g (n:=Str.ofString "__builtins__") (v:=.ref 4) (by kernel_rfl)
        rw [h1] at this; cases this
    gtab:=(by decide:(3:Nat) ≠ 152)
    makes:=by intro f; cases f <;> kernel_rfl
    init:=⟨by kernel_rfl,by kernel_rfl⟩
    func:=by intro f; cases f <;> kernel_rfl
    meth:=by intro f hf; cases f <;> first | exact absurd hf (by decide) | kernel_rfl }
  have hfa:fa=306:=by
    have:=mg_of KX T.g (n:=Str.ofString "law") (v:=.ref 306) (by kernel_rfl)
    have e2:=hmg.symm.trans this
    cases e2
    rfl
  subst hfa
  clear hmg hd hcd hD
  rename Well _ _ _ _=>hW
  rename ¬ _ < _=>hlen
  obtain ⟨vs,e1,e2⟩:=v7 (X:=E9 w s₁ (_root_.Mine.Internal.hd.heap_1_39 w.params) mg mb) (p:=(ghostOf s₁.heap [(156,152)]).get?) hW
  rename List Int=>l
  obtain ⟨m,e3⟩:=AL l (by omega)
  refine E7 (f:=.law) HX (n:=12) (ds:=[.lst (l.map .int)]) ⟨rfl,by decide,by decide⟩ (fun a ob e=>of_hideAll _ e) (hideAll_none _ (.head _)) (hT8 152 (.head _)) ?_ e3 fun h' tk hk hg'=>⟨Au hk hg,hg',trivial⟩
  have e1':=ghost_get (tabs:=[(156,152)]) hT9 e1 (fun q=>by have:=congrArg Obj.cls q; cases this)
  exact dc (Jp (us:=vs) e1' e2) dz)
set_option Elab.async false
end Mine.Internal
theorem PySem.Challenge.cw_pf0164_01_holds : PySem.Challenge.rw_pf0164_01.Holds :=
  Mine.Internal.hd
