import PyProof.Rows.All
import Wide.All
import OpenK.AllK
import Wide.FinOn
import KE.KLam
import KE.KDictOf
import KE.KStateDown
import Lean
import PySem.Challenge.RW_pf0164_01
set_option Elab.async false
set_option linter.unusedVariables false
set_option linter.unusedSimpArgs false
set_option maxRecDepth 100000
set_option tactic.hygienic false
set_option genSizeOf false
set_option bootstrap.genMatcherCode false
open PySem PySem.W PyProof.Rows
namespace Mine.Internal
section
variable {a b c d e n m k i j x y z:Nat}
theorem lb (h:a≤b) (g:Nat.ble b c=true):a≤c:=Nat.le_trans h (Nat.le_of_ble_eq_true g)
theorem la (h:a≤b) (g:Nat.ble (b+n) c=true):a+n≤c:=lb (Nat.add_le_add_right h n) g
theorem lm (h:a≤b) (g:c≤d) (k:Nat.ble (b+d) e=true):a+c≤e:=lb (Nat.add_le_add h g) k
theorem ll (h:a+b≤c) (g:d≤a):d≤c:=Nat.le_trans g (Nat.le_trans (Nat.le_add_right a b) h)
theorem lr (h:a+b≤c) (g:d≤b):d≤c:=Nat.le_trans g (Nat.le_trans (Nat.le_add_left b a) h)
theorem lq (h:a+b≤c) (g:Nat.ble c d=true):a≤d:=lb (Nat.le_trans (Nat.le_add_right a b) h) g
theorem lo (h:a+b≤c):a≤c:=Nat.le_trans (Nat.le_add_right a b) h
theorem Ib (h:a+b≤c):b≤c:=Nat.le_trans (Nat.le_add_left b a) h
theorem Mv (h:a+b≤c) (g:Nat.ble (c+n) d=true):a+n≤d:=la (lo h) g
theorem yN (h:a≤c) (g:a=b):b≤c:=g ▸ h
theorem KO (h:a≤c) (g:b=a):b≤c:=g ▸ h
theorem Cj (h:c≤a) (g:a=b):c≤b:=g ▸ h
theorem MF (h:c≤a) (g:b=a):c≤b:=g ▸ h
theorem L9 (h:a≤c) (g:b=a) (k:Nat.ble c d=true):b≤d:=lb (g ▸ h) k
theorem JW (h:a≤c) (g:a=b) (k:Nat.ble c d=true):b≤d:=lb (g ▸ h) k
theorem bv (h:a+(b+c)≤d):a+b+c≤d:=Nat.add_assoc a b c ▸ h
theorem eV (h:a+(b+c)≤d):a+c+b≤d:=bv (Nat.add_comm b c ▸ h)
theorem gv (h:a+(b+c)≤d):a+c≤d:=lo (eV h)
theorem KA (h:a+(b+c)≤d):a+b≤d:=lo (bv h)
theorem Gj (h:a+(b+c)≤d) (g:Nat.ble d e=true):a+b≤e:=lb (KA h) g
theorem ME (h:a+(b+c)≤d) (g:Nat.ble d e=true):a+c≤e:=lb (gv h) g
theorem ad1:a+b+c=a+(c+b):=(Nat.add_assoc a b c).trans (congrArg _ (Nat.add_comm b c))
theorem zn:a+(c+b)=a+b+c:=ad1.symm
theorem ls (h:a≤b):a≤b+c:=Nat.le_trans h (Nat.le_add_right b c)
theorem lk (h:a+b≤c) (g:d≤a):d+b≤c:=Nat.le_trans (Nat.add_le_add_right g b) h
theorem MH (h:a+b≤c) (g:d≤b):a+d≤c:=Nat.le_trans (Nat.add_le_add_left g a) h
theorem vo (h:a≤b) (g:d≤a) (k:Nat.ble b c=true):d≤c:=lb (Nat.le_trans g h) k
theorem ln (h:n≤m):n+a≤m+a:=Nat.add_le_add_right h a
theorem GO (h:¬ b < a):a≤b:=Nat.le_of_not_lt h
theorem ic {i:Int} (h:a≤b) (g:decide ((b:Int)≤i)=true):(a:Int)≤i:=Int.le_trans (Int.ofNat_le.2 h) (of_decide_eq_true g)
theorem Fj (h:n≤m) (g:x=n) (k:y≤a+n * b) (r:Nat.ble (a+m * b) c=true):y≤c :=
  lb (Nat.le_trans k (Nat.add_le_add_left (Nat.mul_le_mul_right b h) a)) r
theorem tb (h:a≤b) (g:Nat.ble (b+1) c=true):a < c:=la (n:=1) h g
theorem GG (h:a≤b) (g:Nat.ble (b+(n+1)) c=true):a+n < c:=la (n:=n+1) h g
theorem tt (h:a < b) (g:Nat.ble b c=true):a < c:=lb (a:=a+1) h g
theorem bt (h:a < b) (g:Nat.ble b (c+1)=true):a≤c:=Nat.le_of_lt_succ (tt h g)
theorem tn (h:a < b) (g:Nat.ble (b+n) (c+1)=true):a+n≤c:=Nat.le_of_lt_succ (Nat.lt_of_lt_of_le (Nat.add_lt_add_right h n) (Nat.le_of_ble_eq_true g))
theorem tl (h:a < b) (g:b≤c) (k:Nat.ble c d=true):a < d:=tt (Nat.lt_of_lt_of_le h g) k
theorem w1 (h:a+(b+1)≤d) (g:c≤a+1):c+b≤d:=Nat.le_trans (Nat.add_le_add_right g b) (eV (c:=1) h |> fun h=>Nat.add_right_comm a b 1 ▸ h)
theorem w2 (h:a+(b+1)≤d) (g:Nat.ble d e=true):a < e:=lb (gv h) g
theorem w3 (h:a+1≤b) (g:Nat.ble b c=true):a < c:=lb h g
theorem w4 (h:a+b≤c) (g:Nat.ble (c+1) d=true):a < d:=tb (lo h) g
theorem w5 (h:a+(b+1)≤d):a < d:=gv h
theorem w6 (h:a+(b+c)≤d):a≤d:=lo h
theorem w7 (h:a+b≤c) (g:d < a) (k:Nat.ble (c+0) e=true):d < e:=Nat.lt_of_lt_of_le g (lb (lo h) k)
theorem MJ (h:a≤b) (g:d≤a) (k:Nat.ble (b+n) c=true):d+n≤c:=la (Nat.le_trans g h) k
theorem H9 (h:a≤b) (g:c=a+n) (k:Nat.ble (b+n) e=true):c≤e:=g ▸ la h k
theorem lp (g:Nat.ble 1 n=true):a < a+n:=Nat.lt_add_of_pos_right (Nat.le_of_ble_eq_true g)
theorem KQ (g:Nat.ble (n+1) m=true):a+n < a+m:=Nat.add_lt_add_left (Nat.le_of_ble_eq_true g) a
theorem jb (h:j+(k+1)≤4) (g:y≤a+m * j) (r:Nat.ble (a+m * 3) e=true):y≤e :=
  lb (Nat.le_trans g (Nat.add_le_add_left (Nat.mul_le_mul_left m (Nat.le_of_lt_succ (w5 h))) a)) r
theorem Lk (h:j+(k+1)≤4) (g:y≤m * j) (r:Nat.ble (0+m * 3) e=true):y≤e:=jb h (a:=0) ((Nat.zero_add _).symm ▸ g) r
theorem jc (h:y≤a+m * j) (g:x≤m):y+x≤a+m * (j+1):=Nat.le_trans (Nat.add_le_add h g) (Nat.le_of_eq (Nat.add_assoc a (m * j) m))
theorem jd (h:y≤a+m * j):y≤a+m * (j+1):=jc (x:=0) h (Nat.zero_le m)
theorem nt (h:a < b) (g:b < c):a≤c:=Nat.le_of_lt (Nat.lt_trans h g)
theorem ne (h:¬ a < b) (g:a < b+1):a=b:=Nat.le_antisymm (Nat.le_of_lt_succ g) (Nat.le_of_not_lt h)
theorem ee (h:a=b) (g:a=c):b=c:=h ▸ g
theorem ef (h:a=b) (g:c=b):a=c:=h.trans g.symm
theorem eg (h:a < b) (g:b=c):a < c:=g ▸ h
theorem MI (h:a < b) (g:c=b):a < c:=g ▸ h
theorem MG (h:a < b) (g:a=c):c < b:=g ▸ h
theorem Mb (h:a < b) (g:c=a):c < b:=g ▸ h
theorem ed (h:a+b≤c) (g:a=d) (k:b=e):d+e≤c:=g ▸ k ▸ h
theorem Mw (h:a+b≤c) (g:a=d):d≤c:=g ▸ lo h
theorem Md (h:a+b≤c) (g:d=a):d≤c:=g ▸ lo h
theorem eh (h:a≤b) (g:b≤c) (k:a=d):d≤c:=k ▸ Nat.le_trans h g
theorem Jt (h:a < b) (g:c≤a):c≤b:=Nat.le_trans g (Nat.le_of_lt h)
theorem Ii {j k i:Int} (h:a≤b) (g:decide ((b:Int)+j+k≤i)=true):(a:Int)+j+k≤i:=Int.le_trans (Int.add_le_add_right (Int.add_le_add_right (Int.ofNat_le.2 h) _) _) (of_decide_eq_true g)
theorem Mh {j i:Int} (h:a≤b) (g:decide ((b:Int)+j≤i)=true):(a:Int)+j≤i:=Int.le_trans (Int.add_le_add_right (Int.ofNat_le.2 h) _) (of_decide_eq_true g)
theorem CF {x:Int} (h:x.natAbs≤1048576) : -2 ^ 62≤x:=by omega
theorem BJ {x:Int} (h:x.natAbs≤1048576):x < 2 ^ 62:=by omega
theorem su (h:i < n):n+1 - (i+1) < n+1 - i:=Nat.sub_lt_sub_left (Nat.lt_succ_of_lt h) (Nat.lt_succ_self i)
theorem mi {x:Int}:x+(i:Int) * -1=x - (i:Int):=by rw [Int.mul_neg,Int.mul_one]; rfl
theorem Ic (h:b - a≤c) (g:a=d):b - d≤c:=g ▸ h
theorem IG (h:a≤b) (g:b - a≤c) (k:a=d):d+(c - (c - (b - d)))=b:=by rw [← k,Nat.sub_sub_self g,Nat.add_sub_cancel' h]
theorem F9 {v w:Int} (h:v < w) (g:n=v.toNat) (k:m=n) (r:decide (w≤((2+1:Nat):Int))=true):m≤2 :=
  k ▸ g ▸ Int.toNat_le.2 (Int.le_of_lt_add_one (Int.lt_of_lt_of_le h (of_decide_eq_true r)))
theorem KV {v w:Int} (h:v < w) (g:n=v.toNat) (r:decide (w≤(c:Int))=true):n≤c :=
  g ▸ Int.toNat_le.2 (Int.le_of_lt (Int.lt_of_lt_of_le h (of_decide_eq_true r)))
theorem nz (h:a≤b):0+a≤b:=(Nat.zero_add a).symm ▸ h
theorem IP (h:a < b):(a:Int) < (b:Int):=Int.ofNat_lt.2 h
end
section
variable {a b c d:Int}
theorem ib (h:a≤b) (g:decide (b≤c)=true):a≤c:=Int.le_trans h (of_decide_eq_true g)
theorem EK (h:c≤a) (g:decide (b≤c)=true):b≤a:=Int.le_trans (of_decide_eq_true g) h
theorem iz (n:Nat):0≤(n:Int):=Int.natCast_nonneg n
theorem it (h:a < b) (g:decide (b≤c)=true):a < c:=Int.lt_of_lt_of_le h (of_decide_eq_true g)
theorem Ml (h:a≤b) (g:decide (b < c)=true):a < c:=Int.lt_of_le_of_lt h (of_decide_eq_true g)
theorem Mz (h:a≤b) (g:decide (c < a)=true):c < b:=Int.lt_of_lt_of_le (of_decide_eq_true g) h
theorem L5 (h:a < b) (g:decide (c≤a)=true):c≤b:=Int.le_trans (of_decide_eq_true g) (Int.le_of_lt h)
theorem xX {s:Int} (h:¬ a=b):¬ a+s=b+s:=fun q=>h ((Int.add_left_inj s).1 q)
theorem Kc {s:Int} (h:a=b):a+s=b+s:=h ▸ rfl
theorem in1:¬ a=a+1:=fun q=>absurd (Int.lt_succ a) (q ▸ Int.lt_irrefl a)
theorem inl (h:a < b):¬ a=b:=Int.ne_of_lt h
theorem GS (h:a < b):¬ a=b+1:=Int.ne_of_lt (Int.lt_trans h (Int.lt_succ b))
theorem Mq (h:a < b) (g:0≤c):¬ a=c+b:=Int.ne_of_lt (Int.lt_of_lt_of_le h (Int.le_add_of_nonneg_left g))
theorem Kp (h:0≤a) {n:Nat}:0≤a+(n:Int):=Int.add_nonneg h (iz n)
theorem inr (h:0≤a) (g:0≤b):0≤b+a:=Int.add_nonneg g h
theorem oa (h:0≤a) (g:decide (0≤c)=true):0≤c+a:=Int.add_nonneg (of_decide_eq_true g) h
theorem ob (h:a < b) (g:decide (d+b≤c)=true):d+a≤c:=Int.le_trans (Int.add_le_add_left (Int.le_of_lt h) d) (of_decide_eq_true g)
theorem Mk (h:a < b) (g:b≤c) (k:decide (c≤d)=true):a≤d:=Int.le_trans (Int.le_of_lt (Int.lt_of_lt_of_le h g)) (of_decide_eq_true k)
theorem KT (h:a ≠ b) (g:c=a):c ≠ b:=g ▸ h
end
end Mine.Internal
namespace Mine.Internal
set_option genSizeOf false
inductive W where
  | goto_ | switch_ | call_ | drop_ | assert_ | use_ | box_ | binary_ | checked_ | unary_ | cast_ | tuple_ | array_ | adt_
  | index_ | const_ | ref_ | discriminant_ | assign_ | live_ | dead_ | print_ | return_ | move_ | copy_ | fn_ | unreachable_
  | int_ | u8_ | plus_ | xor_ | lt_ | h_ | g_ | main_ | field_ | worths_ | alive_ | bad_
  deriving DecidableEq
noncomputable def W.text:W→String
  | .goto_ => "goto" | .switch_ => "switch" | .call_ => "call" | .drop_ => "drop" | .assert_ => "assert" | .use_ => "use" | .box_ => "box"
  | .binary_ => "binary" | .checked_ => "checked" | .unary_ => "unary" | .cast_ => "cast" | .tuple_ => "tuple" | .array_ => "array" | .adt_ => "adt"
  | .index_ => "index" | .const_ => "const" | .ref_ => "ref" | .discriminant_ => "discriminant" | .assign_ => "assign" | .live_ => "live" | .dead_ => "dead"
  | .print_ => "print" | .return_ => "return" | .move_ => "move" | .copy_ => "copy" | .fn_ => "fn" | .unreachable_ => "unreachable"
  | .int_ => "int" | .u8_ => "u8" | .plus_ => "+" | .xor_ => "^" | .lt_ => "<" | .h_ => "h" | .g_ => "g" | .main_ => "main" | .field_ => "field"
  | .worths_ => "worths" | .alive_ => "alive" | .bad_ => "bad"
noncomputable def W.str (w:W):Str:=Str.ofString w.text
inductive Cls where | body | caller
inductive Fld where | name | argCount | locals | blocks | spots | body
  deriving DecidableEq
noncomputable def Fld.text:Fld→String
  | .name => "name" | .argCount => "arg_count" | .locals => "locals" | .blocks => "blocks" | .spots => "spots" | .body => "body"
noncomputable def Fld.str (f:Fld):Str:=Str.ofString f.text
set_option genCtorIdx false
inductive Dat where
  | none | any | bool (b:Bool) | int (i:Int) | str (w:W) | tup (xs:List Dat) | lst (xs:List Dat) | rng (a b c:Int)
  | dct (ks:List W) (xs:List Dat) | spots (n:Nat) | obj (c:Cls) (fs:List Fld) (xs:List Dat)
set_option genCtorIdx true
inductive Val where
  | d (x:Dat) | r (i:Nat) | clo (k:Int)
set_option genCtorIdx false
inductive MObj where
  | list (xs:List Val) | sdict (ks:List W) (xs:List Val) | idict (ks:List (Int × Dat)) | spots (n:Nat) | inst (c:Cls) (fs:List Fld) (xs:List Val) | frz (d:Dat)
noncomputable abbrev Mu:=List MObj
noncomputable abbrev ae:=List (Option Val)
theorem xe1.{u0} {α0:Sort u0} {p:α0→Prop} {G:Prop} (h:∃ x0,p x0) (g:∀ x0,p x0→G):G:=by obtain ⟨x0,h⟩:=h; exact g x0 h
theorem xe2.{u0,u1} {α0:Sort u0} {α1:Sort u1} {p:α0→α1→Prop} {G:Prop} (h:∃ x0 x1,p x0 x1) (g:∀ x0 x1,p x0 x1→G):G:=by obtain ⟨x0,x1,h⟩:=h; exact g x0 x1 h
theorem xe3.{u0,u1,u2} {α0:Sort u0} {α1:Sort u1} {α2:Sort u2} {p:α0→α1→α2→Prop} {G:Prop} (h:∃ x0 x1 x2,p x0 x1 x2) (g:∀ x0 x1 x2,p x0 x1 x2→G):G:=by obtain ⟨x0,x1,x2,h⟩:=h; exact g x0 x1 x2 h
theorem xe4.{u0,u1,u2,u3} {α0:Sort u0} {α1:Sort u1} {α2:Sort u2} {α3:Sort u3} {p:α0→α1→α2→α3→Prop} {G:Prop} (h:∃ x0 x1 x2 x3,p x0 x1 x2 x3) (g:∀ x0 x1 x2 x3,p x0 x1 x2 x3→G):G:=by obtain ⟨x0,x1,x2,x3,h⟩:=h; exact g x0 x1 x2 x3 h
theorem xe5.{u0,u1,u2,u3,u4} {α0:Sort u0} {α1:Sort u1} {α2:Sort u2} {α3:Sort u3} {α4:Sort u4} {p:α0→α1→α2→α3→α4→Prop} {G:Prop} (h:∃ x0 x1 x2 x3 x4,p x0 x1 x2 x3 x4) (g:∀ x0 x1 x2 x3 x4,p x0 x1 x2 x3 x4→G):G:=by obtain ⟨x0,x1,x2,x3,x4,h⟩:=h; exact g x0 x1 x2 x3 x4 h
theorem xe6.{u0,u1,u2,u3,u4,u5} {α0:Sort u0} {α1:Sort u1} {α2:Sort u2} {α3:Sort u3} {α4:Sort u4} {α5:Sort u5} {p:α0→α1→α2→α3→α4→α5→Prop} {G:Prop} (h:∃ x0 x1 x2 x3 x4 x5,p x0 x1 x2 x3 x4 x5) (g:∀ x0 x1 x2 x3 x4 x5,p x0 x1 x2 x3 x4 x5→G):G:=by obtain ⟨x0,x1,x2,x3,x4,x5,h⟩:=h; exact g x0 x1 x2 x3 x4 x5 h
theorem xe7.{u0,u1,u2,u3,u4,u5,u6} {α0:Sort u0} {α1:Sort u1} {α2:Sort u2} {α3:Sort u3} {α4:Sort u4} {α5:Sort u5} {α6:Sort u6} {p:α0→α1→α2→α3→α4→α5→α6→Prop} {G:Prop} (h:∃ x0 x1 x2 x3 x4 x5 x6,p x0 x1 x2 x3 x4 x5 x6) (g:∀ x0 x1 x2 x3 x4 x5 x6,p x0 x1 x2 x3 x4 x5 x6→G):G:=by obtain ⟨x0,x1,x2,x3,x4,x5,x6,h⟩:=h; exact g x0 x1 x2 x3 x4 x5 x6 h
theorem xe8.{u0,u1,u2,u3,u4,u5,u6,u7} {α0:Sort u0} {α1:Sort u1} {α2:Sort u2} {α3:Sort u3} {α4:Sort u4} {α5:Sort u5} {α6:Sort u6} {α7:Sort u7} {p:α0→α1→α2→α3→α4→α5→α6→α7→Prop} {G:Prop} (h:∃ x0 x1 x2 x3 x4 x5 x6 x7,p x0 x1 x2 x3 x4 x5 x6 x7) (g:∀ x0 x1 x2 x3 x4 x5 x6 x7,p x0 x1 x2 x3 x4 x5 x6 x7→G):G:=by obtain ⟨x0,x1,x2,x3,x4,x5,x6,x7,h⟩:=h; exact g x0 x1 x2 x3 x4 x5 x6 x7 h
theorem xe9.{u0,u1,u2,u3,u4,u5,u6,u7,u8} {α0:Sort u0} {α1:Sort u1} {α2:Sort u2} {α3:Sort u3} {α4:Sort u4} {α5:Sort u5} {α6:Sort u6} {α7:Sort u7} {α8:Sort u8} {p:α0→α1→α2→α3→α4→α5→α6→α7→α8→Prop} {G:Prop} (h:∃ x0 x1 x2 x3 x4 x5 x6 x7 x8,p x0 x1 x2 x3 x4 x5 x6 x7 x8) (g:∀ x0 x1 x2 x3 x4 x5 x6 x7 x8,p x0 x1 x2 x3 x4 x5 x6 x7 x8→G):G:=by obtain ⟨x0,x1,x2,x3,x4,x5,x6,x7,x8,h⟩:=h; exact g x0 x1 x2 x3 x4 x5 x6 x7 x8 h
theorem aO {p0 p1 G:Prop} (h:p0∧p1) (g:p0→p1→G):G:=by obtain ⟨h0,h1⟩:=h; exact g h0 h1
theorem gF {p0 p1 p2 G:Prop} (h:p0∧p1∧p2) (g:p0→p1→p2→G):G:=by obtain ⟨h0,h1,h2⟩:=h; exact g h0 h1 h2
theorem uW {p0 p1 p2 p3 G:Prop} (h:p0∧p1∧p2∧p3) (g:p0→p1→p2→p3→G):G:=by obtain ⟨h0,h1,h2,h3⟩:=h; exact g h0 h1 h2 h3
theorem JS {p0 p1 p2 p3 p4 G:Prop} (h:p0∧p1∧p2∧p3∧p4) (g:p0→p1→p2→p3→p4→G):G:=by obtain ⟨h0,h1,h2,h3,h4⟩:=h; exact g h0 h1 h2 h3 h4
theorem L7 {p0 p1 p2 p3 p4 p5 G:Prop} (h:p0∧p1∧p2∧p3∧p4∧p5) (g:p0→p1→p2→p3→p4→p5→G):G:=by obtain ⟨h0,h1,h2,h3,h4,h5⟩:=h; exact g h0 h1 h2 h3 h4 h5
theorem IR {p0 p1 p2 p3 p4 p5 p6 G:Prop} (h:p0∧p1∧p2∧p3∧p4∧p5∧p6) (g:p0→p1→p2→p3→p4→p5→p6→G):G:=by obtain ⟨h0,h1,h2,h3,h4,h5,h6⟩:=h; exact g h0 h1 h2 h3 h4 h5 h6
theorem MA {p0 p1 p2 p3 p4 p5 p6 p7 G:Prop} (h:p0∧p1∧p2∧p3∧p4∧p5∧p6∧p7) (g:p0→p1→p2→p3→p4→p5→p6→p7→G):G:=by obtain ⟨h0,h1,h2,h3,h4,h5,h6,h7⟩:=h; exact g h0 h1 h2 h3 h4 h5 h6 h7
theorem J6 {p0 p1 p2 p3 p4 p5 p6 p7 p8 G:Prop} (h:p0∧p1∧p2∧p3∧p4∧p5∧p6∧p7∧p8) (g:p0→p1→p2→p3→p4→p5→p6→p7→p8→G):G:=by obtain ⟨h0,h1,h2,h3,h4,h5,h6,h7,h8⟩:=h; exact g h0 h1 h2 h3 h4 h5 h6 h7 h8
theorem dM {α:Type} {P:α→Prop} {x:α} (h:P x):∀ a ∈ [x],P a:=fun a ha=>by rw [List.mem_singleton.mp ha]; exact h
theorem tY {α:Type} {P:α→Prop} {x y:α} (h:P x) (h':P y):∀ a ∈ [x,y],P a:=fun a ha=>(List.mem_cons.mp ha).elim (fun e=>by rw [e]; exact h) fun ha=>by rw [List.mem_singleton.mp ha]; exact h'
section
variable {α β:Type}
theorem nS {y:α} {P:Prop} (h:none=some y):P:=nomatch h
theorem iS {x y:α} (h:some x=some y):x=y:=Option.some.inj h
noncomputable def one:List α→Option α
  | []=>none
  | [x]=>some x
  | _::_::_=>none
theorem CA {l:List α} {x:α} (h:one l=some x):l=[x]:=by
  cases l with
  | nil=>exact nS h
  | cons a r=>cases r with
    | nil=>exact iS h ▸ rfl
    | cons b r=>exact nS h
noncomputable def two:List α→Option (α × α)
  | []=>none
  | [_]=>none
  | [x,y]=>some (x,y)
  | _::_::_::_=>none
theorem CJ {l:List α} {q:α × α} (h:two l=some q):l=[q.1,q.2]:=by
  cases l with
  | nil=>exact nS h
  | cons a r=>cases r with
    | nil=>exact nS h
    | cons b r=>cases r with
      | nil=>exact iS h ▸ rfl
      | cons c r=>exact nS h
theorem bP {x:Option α} {f:α→Option β} {y:β} (h:x.bind f=some y):∃ a,x=some a∧f a=some y:=Option.bind_eq_some_iff.mp h
theorem kI {c:Prop} [Decidable c] {x:Option α} {y:α} (h:(if c then x else none)=some y):c∧x=some y:=by
  by_cases q:c
  · rw [if_pos q] at h; exact ⟨q,h⟩
  · rw [if_neg q] at h; exact nS h
theorem zo {c:Prop} [Decidable c] {x:Option α} {y:α} (h:(if c then none else x)=some y):¬c∧x=some y:=by
  by_cases q:c
  · rw [if_pos q] at h; exact nS h
  · rw [if_neg q] at h; exact ⟨q,h⟩
theorem gq {x:Option α} {f:α→β} {y:β} (h:x.map f=some y):∃ a,x=some a∧f a=y:=Option.map_eq_some_iff.mp h
theorem bK {γ:Type} {x:Option (α × β)} {f:α × β→Option γ} {y:γ} {G:Prop} (h:x.bind f=some y) (g:∀ a m,x=some (a,m)→f (a,m)=some y→G):G:=by
  obtain ⟨⟨a,m⟩,h1,h2⟩:=bP h; exact g a m h1 h2
theorem bh {x:Option α} {f:α→Option β} {y:β} {G:Prop} (h:x.bind f=some y) (g:∀ a,x=some a→f a=some y→G):G:=by
  obtain ⟨a,h1,h2⟩:=bP h; exact g a h1 h2
theorem bN {x:Option α} {f:α→β} {y:β} {G:Prop} (h:x.map f=some y) (g:∀ a,x=some a→f a=y→G):G:=by
  obtain ⟨a,h1,h2⟩:=gq h; exact g a h1 h2
theorem lG {c:Prop} [Decidable c] {x:Option α} {y:α} {G:Prop} (h:(if c then x else none)=some y) (g:c→x=some y→G):G:=(kI h).elim g
theorem z0 {b:Bool} {x:Option α} {y:α} {G:Prop} (h:(if b=false then none else x)=some y) (g:b=true→x=some y→G):G:=by
  cases b with
  | false=>exact nS h
  | true=>exact g rfl h
theorem BO {x:Option α} {a:Option β} {f:α→Option β} {y:β} {G:Prop} (h:x.elim a f=some y) (g1:x=none→a=some y→G) (g2:∀ z,x=some z→f z=some y→G):G:=by
  cases x with
  | none=>exact g1 rfl h
  | some z=>exact g2 z rfl h
theorem dy {a c:α} {b d:β} {G:Prop} (h:some (a,b)=some (c,d)) (g:a=c→b=d→G):G:=by cases h; exact g rfl rfl
theorem eR {a c:α} {b d:β} {G:Prop} (h:(a,b)=(c,d)) (g:a=c→b=d→G):G:=by cases h; exact g rfl rfl
theorem fY {x:Option α} {a:β} {f:α→β} {G:β→Prop} (h:G (x.elim a f)):(x=none∧G a)∨∃ y,x=some y∧G (f y):=by
  cases x with
  | none=>exact .inl ⟨rfl,h⟩
  | some y=>exact .inr ⟨y,rfl,h⟩
end
noncomputable def vD (v:Val):Option Dat:=Val.casesOn (motive:=fun Z=>Option Dat) v some (fun Z=>none) (fun Z=>none)
noncomputable def vR (v:Val):Option Nat:=Val.casesOn (motive:=fun Z=>Option Nat) v (fun Z=>none) some (fun Z=>none)
noncomputable def vC (v:Val):Option Int:=Val.casesOn (motive:=fun Z=>Option Int) v (fun Z=>none) (fun Z=>none) some
theorem gK {x:Val} {y:Dat} (h:vD x=some y):x=.d y:=by cases x <;> first | exact nS h | exact (iS h) ▸ rfl
theorem gZ {x:Val} {y:Nat} (h:vR x=some y):x=.r y:=by cases x <;> first | exact nS h | exact (iS h) ▸ rfl
theorem I9 {x:Val} {y:Int} (h:vC x=some y):x=.clo y:=by cases x <;> first | exact nS h | exact (iS h) ▸ rfl
noncomputable def dB (x:Dat):Option (Bool):=Dat.casesOn (motive_1:=fun Z=>Option (Bool)) x none none some (fun Z=>none) (fun Z=>none) (fun Z=>none) (fun Z=>none) (fun Z Z Z=>none) (fun Z Z=>none) (fun Z=>none) (fun Z Z Z=>none)
theorem En {x:Dat} {y:Bool} (h:dB x=some y):x=.bool y:=by cases x <;> first | exact nS h | (exact iS h ▸ rfl)
noncomputable def dI (x:Dat):Option (Int):=Dat.casesOn (motive_1:=fun Z=>Option (Int)) x none none (fun Z=>none) some (fun Z=>none) (fun Z=>none) (fun Z=>none) (fun Z Z Z=>none) (fun Z Z=>none) (fun Z=>none) (fun Z Z Z=>none)
theorem tQ {x:Dat} {y:Int} (h:dI x=some y):x=.int y:=by cases x <;> first | exact nS h | (exact iS h ▸ rfl)
noncomputable def dS (x:Dat):Option (W):=Dat.casesOn (motive_1:=fun Z=>Option (W)) x none none (fun Z=>none) (fun Z=>none) some (fun Z=>none) (fun Z=>none) (fun Z Z Z=>none) (fun Z Z=>none) (fun Z=>none) (fun Z Z Z=>none)
theorem Be {x:Dat} {y:W} (h:dS x=some y):x=.str y:=by cases x <;> first | exact nS h | (exact iS h ▸ rfl)
noncomputable def dT (x:Dat):Option (List Dat):=Dat.casesOn (motive_1:=fun Z=>Option (List Dat)) x none none (fun Z=>none) (fun Z=>none) (fun Z=>none) some (fun Z=>none) (fun Z Z Z=>none) (fun Z Z=>none) (fun Z=>none) (fun Z Z Z=>none)
theorem Bu {x:Dat} {y:List Dat} (h:dT x=some y):x=.tup y:=by cases x <;> first | exact nS h | (exact iS h ▸ rfl)
noncomputable def dL (x:Dat):Option (List Dat):=Dat.casesOn (motive_1:=fun Z=>Option (List Dat)) x none none (fun Z=>none) (fun Z=>none) (fun Z=>none) (fun Z=>none) some (fun Z Z Z=>none) (fun Z Z=>none) (fun Z=>none) (fun Z Z Z=>none)
theorem Ah {x:Dat} {y:List Dat} (h:dL x=some y):x=.lst y:=by cases x <;> first | exact nS h | (exact iS h ▸ rfl)
noncomputable def sW (x:Dat):Option (List Dat):=Dat.casesOn (motive_1:=fun Z=>Option (List Dat)) x none none (fun Z=>none) (fun Z=>none) (fun Z=>none) some some (fun Z Z Z=>none) (fun Z Z=>none) (fun Z=>none) (fun Z Z Z=>none)
theorem xr {x:Dat} {y:List Dat} (h:sW x=some y):x=.tup y∨x=.lst y:=by cases x <;> first | exact nS h | (first | exact .inl (iS h ▸ rfl) | exact .inr (iS h ▸ rfl))
noncomputable def dP (x:Dat):Option (Nat):=Dat.casesOn (motive_1:=fun Z=>Option (Nat)) x none none (fun Z=>none) (fun Z=>none) (fun Z=>none) (fun Z=>none) (fun Z=>none) (fun Z Z Z=>none) (fun Z Z=>none) some (fun Z Z Z=>none)
theorem Jc {x:Dat} {y:Nat} (h:dP x=some y):x=.spots y:=by cases x <;> first | exact nS h | (exact iS h ▸ rfl)
noncomputable def dN (x:Dat):Option (Unit):=Dat.casesOn (motive_1:=fun Z=>Option (Unit)) x (some ()) none (fun Z=>none) (fun Z=>none) (fun Z=>none) (fun Z=>none) (fun Z=>none) (fun Z Z Z=>none) (fun Z Z=>none) (fun Z=>none) (fun Z Z Z=>none)
theorem Ax {x:Dat} {y:Unit} (h:dN x=some y):x=.none:=by cases x <;> first | exact nS h | (rfl)
noncomputable def dA (x:Dat):Option (Unit):=Dat.casesOn (motive_1:=fun Z=>Option (Unit)) x none (some ()) (fun Z=>none) (fun Z=>none) (fun Z=>none) (fun Z=>none) (fun Z=>none) (fun Z Z Z=>none) (fun Z Z=>none) (fun Z=>none) (fun Z Z Z=>none)
theorem Jj {x:Dat} {y:Unit} (h:dA x=some y):x=.any:=by cases x <;> first | exact nS h | (rfl)
noncomputable def dG (x:Dat):Option (List W × List Dat):=Dat.casesOn (motive_1:=fun Z=>Option (List W × List Dat)) x none none (fun Z=>none) (fun Z=>none) (fun Z=>none) (fun Z=>none) (fun Z=>none) (fun Z Z Z=>none) (fun a b=>some (a,b)) (fun Z=>none) (fun Z Z Z=>none)
theorem Ej {x:Dat} {y:List W × List Dat} (h:dG x=some y):x=.dct y.1 y.2:=by cases x <;> first | exact nS h | (exact iS h ▸ rfl)
noncomputable def dO (x:Dat):Option (List Fld × List Dat):=Dat.casesOn (motive_1:=fun Z=>Option (List Fld × List Dat)) x none none (fun Z=>none) (fun Z=>none) (fun Z=>none) (fun Z=>none) (fun Z=>none) (fun Z Z Z=>none) (fun Z Z=>none) (fun Z=>none) (fun Z a b=>some (a,b))
theorem Jf {x:Dat} {y:List Fld × List Dat} (h:dO x=some y):∃ c,x=.obj c y.1 y.2:=by cases x <;> first | exact nS h | (exact ⟨_,by rw [← iS h]⟩)
noncomputable def dR (x:Dat):Option (Int × Int × Int):=Dat.casesOn (motive_1:=fun Z=>Option (Int × Int × Int)) x none none (fun Z=>none) (fun Z=>none) (fun Z=>none) (fun Z=>none) (fun Z=>none) (fun a b c=>some (a,b,c)) (fun Z Z=>none) (fun Z=>none) (fun Z Z Z=>none)
theorem LZ {x:Dat} {y:Int × Int × Int} (h:dR x=some y):x=.rng y.1 y.2.1 y.2.2:=by cases x <;> first | exact nS h | (exact iS h ▸ rfl)
noncomputable def oL (x:MObj):Option (List Val):=MObj.casesOn (motive:=fun Z=>Option (List Val)) x some (fun Z Z=>none) (fun Z=>none) (fun Z=>none) (fun Z Z Z=>none) (fun Z=>none)
theorem EP {x:MObj} {y:List Val} (h:oL x=some y):x=.list y:=by cases x <;> first | exact nS h | (exact iS h ▸ rfl)
theorem kE {mu:Mu} {k:Nat} {y:List Val} (h:(mu[k]?).bind oL=some y):mu[k]? = some (.list y):=by obtain ⟨x,h1,h2⟩:=bP h; rw [h1,EP h2]
noncomputable def oD (x:MObj):Option (List W × List Val):=MObj.casesOn (motive:=fun Z=>Option (List W × List Val)) x (fun Z=>none) (fun a b=>some (a,b)) (fun Z=>none) (fun Z=>none) (fun Z Z Z=>none) (fun Z=>none)
theorem IZ {x:MObj} {y:List W × List Val} (h:oD x=some y):x=.sdict y.1 y.2:=by cases x <;> first | exact nS h | (exact iS h ▸ rfl)
theorem B6 {mu:Mu} {k:Nat} {y:List W × List Val} (h:(mu[k]?).bind oD=some y):mu[k]? = some (.sdict y.1 y.2):=by obtain ⟨x,h1,h2⟩:=bP h; rw [h1,IZ h2]
noncomputable def oI (x:MObj):Option (List (Int × Dat)):=MObj.casesOn (motive:=fun Z=>Option (List (Int × Dat))) x (fun Z=>none) (fun Z Z=>none) some (fun Z=>none) (fun Z Z Z=>none) (fun Z=>none)
theorem A6 {x:MObj} {y:List (Int × Dat)} (h:oI x=some y):x=.idict y:=by cases x <;> first | exact nS h | (exact iS h ▸ rfl)
theorem wL {mu:Mu} {k:Nat} {y:List (Int × Dat)} (h:(mu[k]?).bind oI=some y):mu[k]? = some (.idict y):=by obtain ⟨x,h1,h2⟩:=bP h; rw [h1,A6 h2]
noncomputable def oP (x:MObj):Option (Nat):=MObj.casesOn (motive:=fun Z=>Option (Nat)) x (fun Z=>none) (fun Z Z=>none) (fun Z=>none) some (fun Z Z Z=>none) (fun Z=>none)
theorem F7 {x:MObj} {y:Nat} (h:oP x=some y):x=.spots y:=by cases x <;> first | exact nS h | (exact iS h ▸ rfl)
theorem BU {mu:Mu} {k:Nat} {y:Nat} (h:(mu[k]?).bind oP=some y):mu[k]? = some (.spots y):=by obtain ⟨x,h1,h2⟩:=bP h; rw [h1,F7 h2]
noncomputable def oO (x:MObj):Option (Cls × List Fld × List Val):=MObj.casesOn (motive:=fun Z=>Option (Cls × List Fld × List Val)) x (fun Z=>none) (fun Z Z=>none) (fun Z=>none) (fun Z=>none) (fun c a b=>some (c,a,b)) (fun Z=>none)
theorem FG {x:MObj} {y:Cls × List Fld × List Val} (h:oO x=some y):x=.inst y.1 y.2.1 y.2.2:=by cases x <;> first | exact nS h | (exact iS h ▸ rfl)
theorem xf {mu:Mu} {k:Nat} {y:Cls × List Fld × List Val} (h:(mu[k]?).bind oO=some y):mu[k]? = some (.inst y.1 y.2.1 y.2.2):=by obtain ⟨x,h1,h2⟩:=bP h; rw [h1,FG h2]
noncomputable def oF (x:MObj):Option (Dat):=MObj.casesOn (motive:=fun Z=>Option (Dat)) x (fun Z=>none) (fun Z Z=>none) (fun Z=>none) (fun Z=>none) (fun Z Z Z=>none) some
theorem Ji {x:MObj} {y:Dat} (h:oF x=some y):x=.frz y:=by cases x <;> first | exact nS h | (exact iS h ▸ rfl)
theorem Hv {mu:Mu} {k:Nat} {y:Dat} (h:(mu[k]?).bind oF=some y):mu[k]? = some (.frz y):=by obtain ⟨x,h1,h2⟩:=bP h; rw [h1,Ji h2]
noncomputable def vB (v:Val):Option (Bool):=(vD v).bind dB
theorem Fc {x:Val} {y:Bool} (h:vB x=some y):x=.d (.bool y):=by obtain ⟨z,h1,h2⟩:=bP h; rw [gK h1,En h2]
noncomputable def vI (v:Val):Option (Int):=(vD v).bind dI
theorem fR {x:Val} {y:Int} (h:vI x=some y):x=.d (.int y):=by obtain ⟨z,h1,h2⟩:=bP h; rw [gK h1,tQ h2]
noncomputable def vS (v:Val):Option (W):=(vD v).bind dS
theorem A8 {x:Val} {y:W} (h:vS x=some y):x=.d (.str y):=by obtain ⟨z,h1,h2⟩:=bP h; rw [gK h1,Be h2]
noncomputable def vT (v:Val):Option (List Dat):=(vD v).bind dT
theorem oX {x:Val} {y:List Dat} (h:vT x=some y):x=.d (.tup y):=by obtain ⟨z,h1,h2⟩:=bP h; rw [gK h1,Bu h2]
noncomputable def vL (v:Val):Option (List Dat):=(vD v).bind dL
theorem tL {x:Val} {y:List Dat} (h:vL x=some y):x=.d (.lst y):=by obtain ⟨z,h1,h2⟩:=bP h; rw [gK h1,Ah h2]
noncomputable def vN (v:Val):Option (Unit):=(vD v).bind dN
theorem Je {x:Val} {y:Unit} (h:vN x=some y):x=.d .none:=by obtain ⟨z,h1,h2⟩:=bP h; rw [gK h1,Ax h2]
noncomputable def vA (v:Val):Option (Unit):=(vD v).bind dA
theorem JC {x:Val} {y:Unit} (h:vA x=some y):x=.d .any:=by obtain ⟨z,h1,h2⟩:=bP h; rw [gK h1,Jj h2]
noncomputable def Av (v:Val):Option Unit:=(vT v).bind fun xs=>(two xs).bind fun q=>(dI q.1).bind fun Z=>(dI q.2).map fun Z=>()
theorem xP {v:Val} {u:Unit} (h:Av v=some u):∃ i j,v=.d (.tup [.int i,.int j]):=by
  obtain ⟨xs,h1,h⟩:=bP h
  obtain ⟨q,h2,h⟩:=bP h
  obtain ⟨i,h3,h⟩:=bP h
  obtain ⟨j,h4,_⟩:=gq h
  exact ⟨i,j,by rw [oX h1,CJ h2,tQ h3,tQ h4]⟩
noncomputable def jA {α:Type} (a b:Val) (f:Int→Int→Option α):Option α:=(vI a).bind fun x=>(vI b).bind fun y=>f x y
theorem xu {α:Type} {a b:Val} {f:Int→Int→Option α} {r:α} (h:jA a b f=some r):∃ x y,a=.d (.int x)∧b=.d (.int y)∧f x y=some r:=by
  obtain ⟨x,h1,h⟩:=bP h
  obtain ⟨y,h2,h⟩:=bP h
  exact ⟨x,y,fR h1,fR h2,h⟩
noncomputable def Cls.isC (c:Cls):Bool:=Cls.casesOn (motive:=fun Z=>Bool) c false true
noncomputable def r8 (ob:MObj):Option Unit:=(oO ob).bind fun q=>if q.1.isC=true∧q.2.1=[.body] then some () else none
theorem DG {ob:MObj} {u:Unit} (h:r8 ob=some u):∃ xs,ob=.inst .caller [.body] xs:=by
  obtain ⟨⟨c,fs,xs⟩,h1,h⟩:=bP h
  have h1:=FG h1
  by_cases q:c.isC=true∧fs=[.body]
  · obtain ⟨q1,q2⟩:=q
    cases c with
    | body=>cases q1
    | caller=>exact ⟨xs,by rw [h1,q2]⟩
  · rw [if_neg q] at h; exact nS h
noncomputable def lZ (v:Val):Option Bool:=(vC v).elim (some (vN v).isSome) fun Z=>none
noncomputable def AA (r:Option MObj):Bool:=(r.bind oL).isSome
noncomputable def ni (r:Option MObj):Bool:=r.elim false fun ob=>(oI ob).isSome || (oP ob).isSome
set_option genCtorIdx true
inductive Fn where
  | retargeted | copied | operandsOf | withOperands | isSmall | movedPlace | movedOperand | movedOperands | movedRvalue | movedStatement | movedTerminator
  | calledKey | inlined | pool | take | one | value | set | do_ | run | place | number | small | middle | mainL | calls | told | law
  | initBody | initCaller | put | tellSpots | putBlock
inductive Bop where | add | sub | mul | fdiv | mod | pow | xor
inductive Cop where | eq | ne | lt | gt | ge | le | in_ | notIn
inductive Bi where | len | max | int | sum | tuple | dict | range
set_option genCtorIdx false
set_option genInjectivity false
mutual
inductive CE where
  | any
  | loc (i:Nat) | byte | int (i:Int) | str (w:W) | bool (b:Bool) | none
  | tup (es:CEs) | list (q:Bool) (es:CEs)
  | bin (q:Bool) (o:Bop) (a b:CE) | neg (a:CE)
  | cmp (o:Cop) (a b:CE) | isN (a:CE) | notN (a:CE)
  | and (es:CEs) | or (es:CEs) | not (a:CE)
  | ifx (t a b:CE)
  | attr (e:CE) (f:Fld)
  | sub (e i:CE) | slo (e lo:CE)
  | call (f:Fn) (es:CEs) | new (c:Cls) (es:CEs) | meth (e:CE) (f:Fn) (es:CEs) | bi (b:Bi) (es:CEs) | toList (q:Bool) (e:CE)
  | app (e x:CE) | ext (e x:CE) | pop0 (e:CE) | get (e k:CE) | getd (e k d:CE) | popd (e k:CE)
  | comp (q:Bool) (elt:CE) (ts:List Nat) (it:CE) | compif (elt:CE) (ts:List Nat) (it:CE) (c:CE)
  | lam (i:Nat) | callv (i:Nat) (x:CE)
  | emptyI | emptyP | sdisp (frozen:Bool) (ws:List W) (es:CEs)
  | frz (e:CE)
inductive CEs where
  | nil | cons (e:CE) (r:CEs)
end
mutual
inductive CS where
  | any
  | asg (i:Nat) (e:CE) | unp (is:List Nat) (e:CE) | multi (is:List Nat) (es:CEs)
  | sett (o i v:CE) | seta (o:CE) (f:Fld) (v:CE)
  | ifs (c:CE) (a b:CSs) | ret (e:CE) | expr (e:CE)
  | for_ (ts:List Nat) (it:CE) (b:CSs) | forEnum (i j:Nat) (it:CE) (b:CSs)
inductive CSs where
  | nil | cons (s:CS) (r:CSs)
end
set_option genInjectivity true
set_option genCtorIdx true
noncomputable def CEs.of:List CE→CEs
  | []=>.nil
  | e::r=>.cons e (CEs.of r)
noncomputable def CSs.of:List CS→CSs
  | []=>.nil
  | e::r=>.cons e (CSs.of r)
noncomputable def lim:Nat:=1048576
noncomputable def f9 (xs:List Dat):Option Val:=if xs.length≤lim then some (.d (.tup xs)) else none
noncomputable def MK (xs:List Dat):Option Val:=if xs.length≤lim then some (.d (.lst xs)) else none
noncomputable def cx (q:Bool) (mu:Mu) (xs:List Val) (f:Option (List Dat)):Option (Val × Mu) :=
  if xs.length≤lim then (if q then some (.r mu.length,mu++[.list xs]) else f.map fun ds=>(.d (.lst ds),mu)) else none
noncomputable def dp:Dat:=.tup [.str .int_,.str .u8_]
noncomputable def norm (mu:Mu) (v:Val):Val:=(vR v).elim v fun k=>((mu[k]?).bind oF).elim v .d
noncomputable def look (loc:ae) (mu:Mu) (i:Nat):Option Val:=(loc[i]?).bind fun o=>o.map (norm mu)
noncomputable def fP (mu:Mu) (v:Val):Option (List Val):=(vR v).elim ((vL v).map fun xs=>xs.map .d) fun k=>(mu[k]?).bind oL
noncomputable def bE:List Val→Option (List Dat)
  | []=>some []
  | v::r=>(vD v).bind fun x=>(bE r).map (x::·)
theorem Mi:bE []=some []:=rfl
theorem Gq {v:Val} {r:List Val}:bE (v::r)=(vD v).bind fun x=>(bE r).map (x::·):=rfl
noncomputable def kg:List Dat→Option (List W)
  | []=>some []
  | x::r=>(dS x).bind fun w=>(kg r).map (w::·)
noncomputable def gr:List Dat→Option (List Int)
  | []=>some []
  | x::r=>(dI x).bind fun w=>(gr r).map (w::·)
theorem J1 {x:Dat} {r:List Dat}:gr (x::r)=(dI x).bind fun w=>(gr r).map (w::·):=rfl
mutual
noncomputable def Dat.plain:Dat→Bool
  | .none | .bool _ | .int _ | .str _=>true
  | .tup xs | .lst xs=>cE xs
  | .any | .rng _ _ _ | .dct _ _ | .spots _ | .obj _ _ _=>false
noncomputable def cE:List Dat→Bool
  | []=>true
  | x::xs=>x.plain && cE xs
end
theorem Kn {xs:List Dat}:(Dat.tup xs).plain=cE xs:=rfl
theorem B8 {xs:List Dat}:(Dat.lst xs).plain=cE xs:=rfl
theorem ML:cE []=true:=rfl
theorem vc {x:Dat} {xs:List Dat}:cE (x::xs)=(x.plain && cE xs):=rfl
mutual
noncomputable def Dat.dep:Dat→Nat
  | .tup xs | .lst xs=>gg xs+1
  | .none | .bool _ | .int _ | .str _ | .any | .rng _ _ _ | .dct _ _ | .spots _ | .obj _ _ _=>0
noncomputable def gg:List Dat→Nat
  | []=>0
  | x::xs=>max x.dep (gg xs)
end
theorem Lj {xs:List Dat}:(Dat.tup xs).dep=gg xs+1:=rfl
theorem BW {xs:List Dat}:(Dat.lst xs).dep=gg xs+1:=rfl
theorem Jw:gg []=0:=rfl
theorem qV {x:Dat} {xs:List Dat}:gg (x::xs)=max x.dep (gg xs):=rfl
mutual
noncomputable def Dat.eqv:Dat→Dat→Option Bool
  | .none,y=>(dN y).map fun Z=>true
  | .bool a,y=>(dB y).map fun b=>a == b
  | .int a,y=>(dI y).map fun b=>decide (a=b)
  | .str a,y=>(dS y).map fun b=>decide (a=b)
  | .tup xs,y=>(dT y).bind fun ys=>gd xs ys
  | .lst xs,y=>(dL y).bind fun ys=>gd xs ys
  | .any,_ | .rng _ _ _,_ | .dct _ _,_ | .spots _,_ | .obj _ _ _,_=>none
noncomputable def gd:List Dat→List Dat→Option Bool
  | [],ys=>some ys.isEmpty
  | x::xs,ys=>match ys with
    | []=>some false
    | y::ys=>(Dat.eqv x y).bind fun a=>(gd xs ys).map fun b=>a && b
end
theorem Mr {xs:List Dat} {y:Dat}:(Dat.tup xs).eqv y=(dT y).bind fun ys=>gd xs ys:=rfl
theorem J2 {xs:List Dat} {y:Dat}:(Dat.lst xs).eqv y=(dL y).bind fun ys=>gd xs ys:=rfl
theorem JD {ys:List Dat}:gd [] ys=some ys.isEmpty:=rfl
theorem Jd {x:Dat} {xs:List Dat}:gd (x::xs) []=some false:=rfl
noncomputable def gu (x y:Dat):Option Bool:=if x.plain && y.plain && decide (min x.dep y.dep≤64) then Dat.eqv x y else none
noncomputable def kF (mu:Mu) (a b:Val):Option Bool:=(vD b).bind fun y=>(vR a).elim ((vD a).bind fun x=>gu x y) fun i=>(dL y).bind fun ys=>((mu[i]?).bind oL).bind fun xs=>(bE xs).bind fun ds=>gu (.lst ds) (.lst ys)
noncomputable def c9 {α β:Type} [DecidableEq α] (k:α):List α→List β→Option β
  | a::as,b::bs=>if a=k then some b else c9 k as bs
  | [],_=>none
  | _::_,[]=>none
theorem L8 {α β:Type} [DecidableEq α] {k:α} {l:List β}:c9 k [] l=none:=rfl
theorem KJ {α β:Type} [DecidableEq α] {k a:α} {b:β} {as:List α} {bs:List β}:c9 k (a::as) (b::bs)=if a=k then some b else c9 k as bs:=rfl
theorem Mj {α β:Type} [DecidableEq α] {k a:α} {as:List α}:c9 (β:=β) k (a::as) []=none:=rfl
noncomputable def ko {α:Type} [DecidableEq α] (k:α):List α→List α
  | []=>[k]
  | a::as=>if a=k then a::as else a::ko k as
noncomputable def jx {α β:Type} [DecidableEq α] (k:α) (v:β):List α→List β→List β
  | a::as,b::bs=>if a=k then v::bs else b::jx k v as bs
  | [],_=>[v]
  | _::_,[]=>[v]
theorem GT {α:Type} [DecidableEq α] {k:α}:ko k []=[k]:=rfl
theorem GV {α:Type} [DecidableEq α] {k a:α} {as:List α}:ko k (a::as)=if a=k then a::as else a::ko k as:=rfl
theorem Fv {α β:Type} [DecidableEq α] {k:α} {v:β} {l:List β}:jx k v [] l=[v]:=rfl
theorem Fi {α β:Type} [DecidableEq α] {k a:α} {v b:β} {as:List α} {bs:List β}:jx k v (a::as) (b::bs)=if a=k then v::bs else b::jx k v as bs:=rfl
theorem Il {α β:Type} [DecidableEq α] {k a:α} {v:β} {as:List α}:jx k v (a::as) []=[v]:=rfl
noncomputable def my {α β:Type} [DecidableEq α] (k:α) (v:β) (ks:List α) (xs:List β):List β:=List.zipWith (fun a b=>if a=k then v else b) ks xs
noncomputable def cU (i:Int) (n:Nat):Option Nat:=if 0≤i∧i.toNat < n∧i.toNat < lim then some i.toNat else none
noncomputable def aX (mu:Mu) (o i:Val):Option Val:=(vI i).elim
  ((vS i).bind fun w=>(vR o).elim ((vD o).bind fun x=>(dG x).bind fun q=>(c9 w q.1 q.2).map .d) fun a=>((mu[a]?).bind oD).bind fun q=>(c9 w q.1 q.2).map (norm mu))
  fun k=>(vR o).elim ((vD o).bind fun x=>(sW x).bind fun xs=>(cU k xs.length).bind fun j=>xs[j]?.map .d) fun a=>((mu[a]?).bind oL).bind fun xs=>(cU k xs.length).bind fun j=>xs[j]?.map (norm mu)
noncomputable def fu (mu:Mu) (o:Val) (f:Fld):Option Val :=
  (vR o).elim ((vD o).bind fun x=>(dO x).bind fun q=>(c9 f q.1 q.2).map .d) fun a=>((mu[a]?).bind oO).bind fun q=>(c9 f q.2.1 q.2.2).map (norm mu)
noncomputable def dh (v:Val):Option Bool:=vB v
noncomputable def jy (a b:Int):Bool:=decide (a.natAbs≤lim) && decide (b.natAbs≤lim)
noncomputable def items:Dat→Option (List Dat)
  | .tup xs=>some xs
  | .lst xs=>some xs
  | .rng a b c=>if jy a b=false then none else if c=1 then some ((List.range (b - a).toNat).map fun (i:Nat)=>Dat.int (a+(i:Int)))
      else if c = -1 then some ((List.range (a - b).toNat).map fun (i:Nat)=>Dat.int (a - (i:Int))) else none
  | .none | .bool _ | .int _ | .str _ | .any | .dct _ _ | .spots _ | .obj _ _ _=>none
noncomputable def fF (v:Val):Option (List Dat):=(vD v).bind items
noncomputable def ky (v:Val):Option (List Dat):=(vD v).bind sW
noncomputable def cj {α β:Type} [DecidableEq α] (k:α) (v:β) (l:List (α × β)):List (α × β) :=
  if l.any (fun kv=>kv.1=k) then l.map (fun kv=>if kv.1=k then (kv.1,v) else kv) else l++[(k,v)]
noncomputable def cO {α β:Type} [DecidableEq α] (k:α) (l:List (α × β)):List (α × β):=l.filter fun kv=>decide (kv.1 ≠ k)
noncomputable def Ek (mu:Mu) (q:Bool) (a b:Val):Option (Val × Mu):=(fP mu a).bind fun xs=>(fP mu b).bind fun ys=>cx q mu (xs++ys) (bE (xs++ys))
noncomputable def Ez (mu:Mu) (q:Bool) (a:Val) (n:Int):Option (Val × Mu):=(fP mu a).bind fun xs=>if 1≤n∧n≤8 then cx q mu (List.replicate n.toNat xs).flatten (bE (List.replicate n.toNat xs).flatten) else none
noncomputable def fG (mu:Mu) (q:Bool) (o:Bop) (a b:Val):Option (Val × Mu):=match o with
  | .add=>(vI a).elim ((vT a).elim (Ek mu q a b) fun xs=>(vT b).bind fun ys=>if xs.isEmpty || ys.isEmpty then none else (f9 (xs++ys)).map (·,mu)) fun x=>(vI b).map fun y=>(.d (.int (x+y)),mu)
  | .sub=>jA a b fun x y=>some (.d (.int (x - y)),mu)
  | .mul=>(vI b).bind fun y=>(vI a).elim ((vT a).elim (Ez mu q a y) fun xs=>if y=2 then (one xs).bind fun x=>(f9 [x,x]).map (·,mu) else none) fun x=>if y.natAbs < 2 ^ 64 then some (.d (.int (x * y)),mu) else none
  | .fdiv=>jA a b fun x y=>if y=0∨1073741824≤y.natAbs then none else some (.d (.int (x.fdiv y)),mu)
  | .mod=>jA a b fun x y=>if y=0 then none else some (.d (.int (x.fmod y)),mu)
  | .pow=>jA a b fun x y=>if x=10∧y=18 then some (.d (.int (10 ^ 18)),mu) else none
  | .xor=>jA a b fun x y=>some (.d (.int (PySem.Builtin.bitXor x y)),mu)
noncomputable def Ig (a b:Val):Option Bool:=(vI a).elim ((vS a).bind fun w=>(vD b).bind fun y=>(dT y).elim ((dG y).map fun q=>q.1.contains w) fun xs=>(kg xs).map (·.contains w)) fun x=>(vL b).bind fun xs=>(gr xs).map (·.contains x)
noncomputable def dY (mu:Mu) (o:Cop) (a b:Val):Option Bool:=match o with
  | .lt=>jA a b fun x y=>some (decide (x < y))
  | .gt=>jA a b fun x y=>some (decide (y < x))
  | .ge=>jA a b fun x y=>some (decide (y≤x))
  | .le=>jA a b fun x y=>some (decide (x≤y))
  | .eq=>kF mu a b
  | .ne=>(kF mu a b).map (!·)
  | .in_=>Ig a b
  | .notIn=>(vI a).bind fun x=>(vL b).bind fun xs=>(gr xs).map (!·.contains x)
noncomputable def Dat.isB (x:Dat):Bool:=(dB x).isSome
noncomputable def pj (f:Mu→Val→Option (Dat × Mu)):Mu→List Val→Option (List Dat × Mu)
  | mu,[]=>some ([],mu)
  | mu,v::r=>(f mu v).bind fun (x,m1)=>(pj f m1 r).bind fun (xs,m2)=>some (x::xs,m2)
noncomputable def tC (g:Mu→List Val→Option (List Dat × Mu)) (i:Nat) (mu:Mu):MObj→Option (Dat × Mu)
  | .frz d=>if d.isB then none else some (d,mu)
  | .spots b=>some (.spots b,mu.set i (.frz (.spots b)))
  | .list xs=>(g mu xs).bind fun (ds,m1)=>((m1[i]?).bind oL).map fun Z=>(.lst ds,m1.set i (.frz (.lst ds)))
  | .inst c fs xs=>(g mu xs).bind fun (ds,m1)=>((m1[i]?).bind oO).map fun Z=>(.obj c fs ds,m1.set i (.frz (.obj c fs ds)))
  | .sdict _ _ | .idict _=>none
noncomputable def freeze:Nat→Mu→Val→Option (Dat × Mu)
  | 0,_,_=>none
  | n+1,mu,v=>(vR v).elim ((vD v).map (·,mu)) fun i=>(mu[i]?).bind fun ob=>tC (pj (freeze n)) i mu ob
noncomputable abbrev freeze.go (n:Nat) (mu:Mu) (l:List Val):Option (List Dat × Mu):=pj (freeze n) mu l
noncomputable def mJ (mu:Mu) (v:Val):Bool:=(vR v).elim false fun k=>AA mu[k]?
noncomputable def jB (mu:Mu) (v:Val):Bool:=(vR v).elim false fun k=>ni mu[k]?
noncomputable def Cls.init:Cls→Fn
  | .body=>.initBody
  | .caller=>.initCaller
theorem zv:Cls.init .body=.initBody:=rfl
theorem L6:Cls.init .caller=.initCaller:=rfl
noncomputable abbrev Calls:=Fn→List Val→Mu→Option (Val × Mu)
noncomputable def zb:List Val→Option Val
  | []=>none
  | [b]=>(vI b).map fun b=>.d (.rng 0 b 1)
  | [a,b]=>jA a b fun a b=>some (.d (.rng a b 1))
  | [a,b,c]=>jA a b fun a b=>(vI c).bind fun c=>if c = -1∧jy a b=true then some (.d (.rng a b c)) else none
  | _::_::_::_::_=>none
noncomputable def bi (mu:Mu) (b:Bi) (vs:List Val):Option Val:=match b with
  | .len=>(one vs).bind fun v=>(vT v).elim ((fP mu v).bind fun xs=>if xs.length≤lim then some (.d (.int xs.length)) else none) fun xs=>if xs.length≤lim then some (.d (.int xs.length)) else none
  | .max=>(two vs).bind fun q=>jA q.1 q.2 fun x y=>some (.d (.int (if x < y then y else x)))
  | .int=>(one vs).bind fun v=>(vB v).map fun b=>.d (.int (if b then 1 else 0))
  | .sum=>(one vs).bind fun v=>(vL v).bind fun xs=>(gr xs).map fun is=>.d (.int is.sum)
  | .tuple=>(one vs).bind fun v=>(vT v).elim ((fP mu v).bind fun xs=>(bE xs).bind f9) fun xs=>some (.d (.tup xs))
  | .range=>zb vs
  | .dict=>none
noncomputable def Bi.isDict (b:Bi):Bool:=Bi.casesOn (motive:=fun Z=>Bool) b false false false false false true false
noncomputable def vW (m:Mu) (vs:List Val):Option (Val × Mu):=(one vs).bind fun v=>(vD v).bind fun x=>(dP x).bind fun n=>if n=0 then some (.r m.length,m++[.spots 0]) else none
noncomputable def Gs (m:Mu) (b:Bi) (vs:List Val):Option (Val × Mu):=cond b.isDict (vW m vs) ((bi m b vs).map (·,m))
noncomputable def nX (m:Mu) (x:Val):Option (List Val):=(vD x).elim (fP m x) fun x=>(items x).map fun xs=>xs.map Val.d
noncomputable def ai:List Nat→List Val→ae→Option ae
  | [],[],loc=>some loc
  | i::is,v::vs,loc=>if i < loc.length then ai is vs (loc.set i (some v)) else none
  | [],_::_,_=>none
  | _::_,[],_=>none
noncomputable def g9 (ts:List Nat) (x:Dat) (loc:ae):Option ae:=(sW x).bind fun xs=>if ts.length=xs.length then ai ts (xs.map .d) loc else none
noncomputable def b4 (ts:List Nat) (x:Dat) (loc:ae):Option ae:=match ts with
  | [t]=>ai [t] [.d x] loc
  | []=>g9 [] x loc
  | t::u::ts=>g9 (t::u::ts) x loc
noncomputable def cB (f:ae→Mu→Option (Option Val × Mu)) (ts:List Nat):List Dat→ae→Mu→Option (List Val × Mu)
  | [],_,mu=>some ([],mu)
  | x::xs,loc,mu=>(b4 ts x loc).bind fun l1=>(f l1 mu).bind fun (v,m1)=>(cB f ts xs l1 m1).bind fun (vs,m2)=>some (v.toList++vs,m2)
theorem MC {f:ae→Mu→Option (Option Val × Mu)} {ts:List Nat} {l:ae} {mu:Mu}:cB f ts [] l mu=some ([],mu):=rfl
theorem JU {f:ae→Mu→Option (Option Val × Mu)} {ts:List Nat} {x:Dat} {xs:List Dat} {l:ae} {mu:Mu}:cB f ts (x::xs) l mu=(b4 ts x l).bind fun l1=>(f l1 mu).bind fun (v,m1)=>(cB f ts xs l1 m1).bind fun (vs,m2)=>some (v.toList++vs,m2):=rfl
noncomputable def w0 (k:Nat) (m:Mu):List Val→Option (Val × Mu)
  | []=>none
  | x::xs=>if xs.length < lim then some (x,m.set k (.list xs)) else none
noncomputable def xO (a:Nat) (x z:Val) (m:Mu):Option (Val × Mu):=(vI x).elim
  ((Av x).bind fun Z=>(vI z).bind fun j=>if j=0 then ((m[a]?).bind oP).map fun Z=>(.d .any,m) else none)
  fun i=>(vD z).bind fun z=>((m[a]?).bind oI).map fun ks=>(.d ((ks.lookup i).getD z),m)
mutual
noncomputable def ev (C:Calls) (loc:ae) (mu:Mu):CE→Option (Val × Mu)
  | .any=>none
  | .loc i=>(look loc mu i).map (·,mu)
  | .byte=>some (.d dp,mu)
  | .int i=>some (.d (.int i),mu)
  | .str w=>some (.d (.str w),mu)
  | .bool b=>some (.d (.bool b),mu)
  | .none=>some (.d .none,mu)
  | .tup es=>(cV C loc mu es).bind fun (vs,m)=>((bE vs).bind f9).map (·,m)
  | .list q es=>(cV C loc mu es).bind fun (vs,m)=>cx q m vs (bE vs)
  | .bin q o a b=>(ev C loc mu a).bind fun (x,m)=>(ev C loc m b).bind fun (y,m)=>fG m q o x y
  | .neg a=>(ev C loc mu a).bind fun (x,m)=>(vI x).map fun i=>(.d (.int (-i)),m)
  | .cmp o a b=>(ev C loc mu a).bind fun (x,m)=>(ev C loc m b).bind fun (y,m)=>(dY m o x y).map fun b=>(.d (.bool b),m)
  | .isN a=>(ev C loc mu a).bind fun (x,m)=>(lZ x).map fun b=>(.d (.bool b),m)
  | .notN a=>(ev C loc mu a).bind fun (x,m)=>(lZ x).map fun b=>(.d (.bool !b),m)
  | .and es=>gz C loc mu es
  | .or es=>iO C loc mu es
  | .not a=>(ev C loc mu a).bind fun (x,m)=>(dh x).map fun b=>(.d (.bool !b),m)
  | .ifx t a b=>(ev C loc mu t).bind fun (x,m)=>(dh x).bind fun c=>if c then ev C loc m a else ev C loc m b
  | .attr e f=>(ev C loc mu e).bind fun (x,m)=>(fu m x f).map (·,m)
  | .sub e i=>(ev C loc mu e).bind fun (x,m)=>(ev C loc m i).bind fun (y,m)=>(aX m x y).map (·,m)
  | .slo e lo=>(ev C loc mu e).bind fun (x,m)=>(ev C loc m lo).bind fun (y,m)=>(vT x).bind fun xs=>(vI y).bind fun k=>if 1≤k∧k≤8∧k.toNat≤xs.length then (f9 (xs.drop k.toNat)).map (·,m) else none
  | .call f es=>(cV C loc mu es).bind fun (vs,m)=>C f vs m
  | .new c es=>(cV C loc mu es).bind fun (vs,m)=>(C c.init (.r m.length::vs) (m++[.inst c [] []])).bind fun (x,m1)=>(vN x).map fun Z=>(.r m.length,m1)
  | .meth e f es=>(ev C loc mu e).bind fun (x,m)=>(vR x).bind fun k=>((m[k]?).bind r8).bind fun Z=>(cV C loc m es).bind fun (vs,m)=>C f (.r k::vs) m
  | .bi b es=>(cV C loc mu es).bind fun (vs,m)=>Gs m b vs
  | .toList q e=>(ev C loc mu e).bind fun (x,m)=>(nX m x).bind fun xs=>cx q m xs (bE xs)
  | .app e x=>(ev C loc mu e).bind fun (o,m)=>if mJ m o=false then none else (ev C loc m x).bind fun (v,m)=>(vR o).bind fun k=>((m[k]?).bind oL).bind fun xs=>if xs.length < lim then some (.d .none,m.set k (.list (xs++[v]))) else none
  | .ext e x=>(ev C loc mu e).bind fun (o,m)=>if mJ m o=false then none else (ev C loc m x).bind fun (v,m)=>(vR o).bind fun k=>(vL v).bind fun ds=>((m[k]?).bind oL).bind fun xs=>if xs.length+ds.length≤lim then some (.d .none,m.set k (.list (xs++ds.map .d))) else none
  | .pop0 e=>(ev C loc mu e).bind fun (o,m)=>(vR o).bind fun k=>((m[k]?).bind oL).bind fun l=>w0 k m l
  | .get e k=>(ev C loc mu e).bind fun (o,m)=>if jB m o=false then none else (ev C loc m k).bind fun (x,m)=>(vR o).bind fun a=>(vI x).bind fun i=>((m[a]?).bind oI).map fun ks=>(.d ((ks.lookup i).getD .none),m)
  | .getd e k d=>(ev C loc mu e).bind fun (o,m)=>if jB m o=false then none else (ev C loc m k).bind fun (x,m)=>(ev C loc m d).bind fun (z,m)=>(vR o).bind fun a=>xO a x z m
  | .popd e k=>(ev C loc mu e).bind fun (o,m)=>if jB m o=false then none else (ev C loc m k).bind fun (x,m)=>(vR o).bind fun a=>(vI x).bind fun i=>((m[a]?).bind oI).bind fun ks=>if ks.length≤lim then some (.d ((ks.lookup i).getD .none),m.set a (.idict (cO i ks))) else none
  | .comp q elt ts it=>(ev C loc mu it).bind fun (x,m)=>(fF x).bind fun xs =>
      (cB (fun l m=>(ev C l m elt).map fun (v,m)=>(some v,m)) ts xs loc m).bind fun (vs,m) =>
        cx q m vs (bE vs)
  | .compif elt ts it c=>(ev C loc mu it).bind fun (x,m)=>(fF x).bind fun xs =>
      (cB (fun l m=>(ev C l m c).bind fun (t,m)=>(dh t).bind fun b=>if b then (ev C l m elt).map fun (v,m)=>(some v,m) else some (none,m)) ts xs loc m).bind fun (vs,m)=>cx false m vs (bE vs)
  | .lam i=>(look loc mu i).bind fun v=>(vI v).map fun k=>(.clo k,mu)
  | .callv i x=>(look loc mu i).bind fun v=>(ev C loc mu x).bind fun (y,m)=>(vC v).bind fun k=>(vI y).map fun b=>(.d (.int (b+k)),m)
  | .emptyI=>some (.r mu.length,mu++[.idict []])
  | .emptyP=>some (.r mu.length,mu++[.spots 0])
  | .sdisp frozen ws es=>(cV C loc mu es).bind fun (vs,m)=>if ws.length=vs.length∧ws.Nodup∧ws.length≤8 then
      (if frozen then (bE vs).map fun ds=>(.d (.dct ws ds),m) else some (.r m.length,m++[.sdict ws vs])) else none
  | .frz e=>(ev C loc mu e).bind fun (v,m)=>(freeze 4 m v).map fun (d,m)=>(.d d,m)
noncomputable def cV (C:Calls) (loc:ae) (mu:Mu):CEs→Option (List Val × Mu)
  | .nil=>some ([],mu)
  | .cons e r=>(ev C loc mu e).bind fun (v,m)=>(cV C loc m r).bind fun (vs,m)=>some (v::vs,m)
noncomputable def gz (C:Calls) (loc:ae) (mu:Mu):CEs→Option (Val × Mu)
  | .nil=>none
  | .cons e .nil=>ev C loc mu e
  | .cons e r=>(ev C loc mu e).bind fun (v,m)=>(dh v).bind fun b=>if b then gz C loc m r else some (v,m)
noncomputable def iO (C:Calls) (loc:ae) (mu:Mu):CEs→Option (Val × Mu)
  | .nil=>none
  | .cons e .nil=>ev C loc mu e
  | .cons e r=>(ev C loc mu e).bind fun (v,m)=>(dh v).bind fun b=>if b then some (v,m) else iO C loc m r
end
inductive Fl where | next | ret (v:Val)
noncomputable def cT (f:ae→Mu→Option (Fl × ae × Mu)) (ts:List Nat):List Dat→ae→Mu→Option (Fl × ae × Mu)
  | [],loc,mu=>some (.next,loc,mu)
  | x::xs,loc,mu=>(b4 ts x loc).bind fun l1=>(f l1 mu).bind fun (fl,l2,m2)=>match fl with
      | .next=>cT f ts xs l2 m2
      | .ret v=>some (.ret v,l2,m2)
theorem Mx {f:ae→Mu→Option (Fl × ae × Mu)} {ts:List Nat} {l:ae} {mu:Mu}:cT f ts [] l mu=some (.next,l,mu):=rfl
theorem J4 {f:ae→Mu→Option (Fl × ae × Mu)} {ts:List Nat} {x:Dat} {xs:List Dat} {l:ae} {mu:Mu}:cT f ts (x::xs) l mu=(b4 ts x l).bind fun l1=>(f l1 mu).bind fun (fl,l2,m2)=>match fl with
      | .next=>cT f ts xs l2 m2
      | .ret v=>some (.ret v,l2,m2):=rfl
noncomputable def iG:List Dat→Nat→List Dat
  | [],_=>[]
  | x::xs,n=>.tup [.int n,x]::iG xs (n+1)
theorem Cv {n:Nat}:iG [] n=[]:=rfl
theorem zS {x:Dat} {xs:List Dat} {n:Nat}:iG (x::xs) n=.tup [.int n,x]::iG xs (n+1):=rfl
noncomputable def B5 (loc:ae) (x:Val) (a:Nat) (k:Int) (m:Mu) (ob:MObj):Option (Fl × ae × Mu):=(oL ob).elim ((oI ob).bind fun ks=>(vD x).bind fun x=>if ks.length < lim then some (.next,loc,m.set a (.idict (cj k x ks))) else none)
  fun xs=>(cU k xs.length).map fun j=>(.next,loc,m.set a (.list (xs.set j x)))
noncomputable def Cw (loc:ae) (x:Val) (a:Nat) (w:W) (m:Mu) (q:List W × List Val):Option (Fl × ae × Mu):=if q.1.contains w=true∧q.1.length≤lim then some (.next,loc,m.set a (.sdict q.1 (my w x q.1 q.2))) else none
noncomputable def Cp (loc:ae) (x:Val) (a:Nat) (m:Mu) (n:Nat):Option (Fl × ae × Mu):=(vA x).bind fun Z=>if n < lim then some (.next,loc,m.set a (.spots (n+1))) else none
noncomputable def sd (loc:ae) (x:Val) (a:Nat) (k:Val) (m:Mu):Option (Fl × ae × Mu):=(vI k).elim ((vS k).elim ((Av k).bind fun Z=>((m[a]?).bind oP).bind fun n=>Cp loc x a m n) fun w=>((m[a]?).bind oD).bind fun q=>Cw loc x a w m q)
  fun k=>(m[a]?).bind fun ob=>B5 loc x a k m ob
mutual
noncomputable def ex (C:Calls) (loc:ae) (mu:Mu):CS→Option (Fl × ae × Mu)
  | .any=>none
  | .asg i e=>(ev C loc mu e).bind fun (v,m)=>if i < loc.length then some (.next,loc.set i (some v),m) else none
  | .unp is e=>(ev C loc mu e).bind fun (v,m)=>(vD v).bind fun x=>(sW x).bind fun xs=>if is.length=xs.length then (ai is (xs.map .d) loc).map fun l=>(.next,l,m) else none
  | .multi is es=>(cV C loc mu es).bind fun (vs,m)=>if is.length=vs.length∧is.length≤8 then (ai is vs loc).map fun l=>(.next,l,m) else none
  | .sett o i v=>(ev C loc mu v).bind fun (x,m)=>(ev C loc m o).bind fun (a,m)=>(ev C loc m i).bind fun (k,m)=>(vR a).bind fun a=>sd loc x a k m
  | .seta o f v=>(ev C loc mu v).bind fun (x,m)=>(ev C loc m o).bind fun (a,m)=>(vR a).bind fun a=>((m[a]?).bind oO).bind fun q=>if q.2.1.length < lim then some (.next,loc,m.set a (.inst q.1 (ko f q.2.1) (jx f x q.2.1 q.2.2))) else none
  | .ifs c a b=>(ev C loc mu c).bind fun (x,m)=>(dh x).bind fun t=>if t then er C loc m a else er C loc m b
  | .ret e=>(ev C loc mu e).map fun (v,m)=>(.ret v,loc,m)
  | .expr e=>(ev C loc mu e).map fun (_,m)=>(.next,loc,m)
  | .for_ ts it b=>(ev C loc mu it).bind fun (x,m)=>(fF x).bind fun xs=>cT (fun l m=>er C l m b) ts xs loc m
  | .forEnum i j it b=>(ev C loc mu it).bind fun (x,m)=>(ky x).bind fun xs=>cT (fun l m=>er C l m b) [i,j] (iG xs 0) loc m
noncomputable def er (C:Calls) (loc:ae) (mu:Mu):CSs→Option (Fl × ae × Mu)
  | .nil=>some (.next,loc,mu)
  | .cons s r=>(ex C loc mu s).bind fun (fl,l,m)=>match fl with
      | .next=>er C l m r
      | .ret v=>some (.ret v,l,m)
end
set_option genCtorIdx false in
set_option genInjectivity false in
structure FDef where
  names:List String
  params:Nat
  dflts:List Dat
  cut:Bool
  body:CSs
  wr:List String:=[]
  fz:List String:=[]
noncomputable def FDef.strs (d:FDef):List Str:=d.names.map Str.ofString
noncomputable def FDef.args (d:FDef):List Str:=d.strs.take d.params
noncomputable def Val.okB (n:Nat):Val→Bool
  | .d _=>true
  | .r i=>decide (i < n)
  | .clo _=>true
noncomputable def MObj.okB (n:Nat):MObj→Bool
  | .list xs=>xs.all (Val.okB n)
  | .sdict _ xs=>xs.all (Val.okB n)
  | .idict _=>true
  | .spots _=>true
  | .inst _ _ xs=>xs.all (Val.okB n)
  | .frz _=>true
section
variable {n:Nat} {xs:List Val} {ws:List W} {ks:List (Int × Dat)} {c:Cls} {fs:List Fld} {d:Dat} {i:Nat} {k:Int}
theorem pH:Val.okB n (.d d)=true:=rfl
theorem t8:Val.okB n (.r i)=decide (i < n):=rfl
theorem sF:Val.okB n (.clo k)=true:=rfl
theorem sL:MObj.okB n (.list xs)=xs.all (Val.okB n):=rfl
theorem EN:MObj.okB n (.sdict ws xs)=xs.all (Val.okB n):=rfl
theorem ER:MObj.okB n (.idict ks)=true:=rfl
theorem G5:MObj.okB n (.spots i)=true:=rfl
theorem Gk:MObj.okB n (.inst c fs xs)=xs.all (Val.okB n):=rfl
theorem Ex:MObj.okB n (.frz d)=true:=rfl
end
noncomputable def cD (cut:Bool) (n:Nat) (v:Val) (mu:Mu):Option (Val × Mu) :=
  if cut then (if v.okB 0 && (mu.take n).all (MObj.okB n) then some (v,mu.take n) else none) else some (v,mu)
noncomputable def an (P:Fn→FDef):Nat→Calls
  | 0,_,_,_=>none
  | n+1,f,vs,mu =>
    let d:=P f
    let args:=vs++((d.dflts.drop (d.dflts.length - (d.params - vs.length))).map Val.d)
    if vs.length≤d.params∧d.params - vs.length≤d.dflts.length then
      (er (an P n) (args.map some++List.replicate (d.names.length - d.params) none) mu d.body).bind fun (fl,_,m) =>
        cD d.cut mu.length (match fl with | .ret v=>v | .next=>.d .none) m
    else none
theorem MB {P:Fn→FDef} {f:Fn} {vs:List Val} {mu:Mu}:an P 0 f vs mu=none:=rfl
theorem CG {P:Fn→FDef} {n:Nat} {f:Fn} {vs:List Val} {mu:Mu}:an P (n+1) f vs mu=(let d:=P f
    let args:=vs++((d.dflts.drop (d.dflts.length - (d.params - vs.length))).map Val.d)
    if vs.length≤d.params∧d.params - vs.length≤d.dflts.length then
      (er (an P n) (args.map some++List.replicate (d.names.length - d.params) none) mu d.body).bind fun (fl,_,m) =>
        cD d.cut mu.length (match fl with | .ret v=>v | .next=>.d .none) m
    else none):=rfl
end Mine.Internal
namespace Mine.Internal
theorem qn {C:Calls} {loc:ae} {mu:Mu}:ev C loc mu .any=none:=rfl
theorem Gb {C:Calls} {loc:ae} {mu:Mu} {i}:ev C loc mu (.loc i)=(look loc mu i).map (·,mu):=rfl
theorem CV {C:Calls} {loc:ae} {mu:Mu}:ev C loc mu .byte=some (.d dp,mu):=rfl
theorem GM {C:Calls} {loc:ae} {mu:Mu} {i}:ev C loc mu (.int i)=some (.d (.int i),mu):=rfl
theorem Fb {C:Calls} {loc:ae} {mu:Mu} {w}:ev C loc mu (.str w)=some (.d (.str w),mu):=rfl
theorem Di {C:Calls} {loc:ae} {mu:Mu} {b}:ev C loc mu (.bool b)=some (.d (.bool b),mu):=rfl
theorem vF {C:Calls} {loc:ae} {mu:Mu}:ev C loc mu .none=some (.d .none,mu):=rfl
theorem GY {C:Calls} {loc:ae} {mu:Mu} {es}:ev C loc mu (.tup es)=(cV C loc mu es).bind fun (vs,m)=>((bE vs).bind f9).map (·,m):=rfl
theorem DL {C:Calls} {loc:ae} {mu:Mu} {q} {es}:ev C loc mu (.list q es)=(cV C loc mu es).bind fun (vs,m)=>cx q m vs (bE vs):=rfl
theorem EW {C:Calls} {loc:ae} {mu:Mu} {q} {o} {a} {b}:ev C loc mu (.bin q o a b)=(ev C loc mu a).bind fun (x,m)=>(ev C loc m b).bind fun (y,m)=>fG m q o x y:=rfl
theorem yt {C:Calls} {loc:ae} {mu:Mu} {a}:ev C loc mu (.neg a)=(ev C loc mu a).bind fun (x,m)=>(vI x).map fun i=>(.d (.int (-i)),m):=rfl
theorem yW {C:Calls} {loc:ae} {mu:Mu} {o} {a} {b}:ev C loc mu (.cmp o a b)=(ev C loc mu a).bind fun (x,m)=>(ev C loc m b).bind fun (y,m)=>(dY m o x y).map fun b=>(.d (.bool b),m):=rfl
theorem y2 {C:Calls} {loc:ae} {mu:Mu} {a}:ev C loc mu (.isN a)=(ev C loc mu a).bind fun (x,m)=>(lZ x).map fun b=>(.d (.bool b),m):=rfl
theorem vH {C:Calls} {loc:ae} {mu:Mu} {a}:ev C loc mu (.notN a)=(ev C loc mu a).bind fun (x,m)=>(lZ x).map fun b=>(.d (.bool !b),m):=rfl
theorem zO {C:Calls} {loc:ae} {mu:Mu} {es}:ev C loc mu (.and es)=gz C loc mu es:=rfl
theorem Cu {C:Calls} {loc:ae} {mu:Mu} {es}:ev C loc mu (.or es)=iO C loc mu es:=rfl
theorem zx {C:Calls} {loc:ae} {mu:Mu} {a}:ev C loc mu (.not a)=(ev C loc mu a).bind fun (x,m)=>(dh x).map fun b=>(.d (.bool !b),m):=rfl
theorem yL {C:Calls} {loc:ae} {mu:Mu} {t} {a} {b}:ev C loc mu (.ifx t a b)=(ev C loc mu t).bind fun (x,m)=>(dh x).bind fun c=>if c then ev C loc m a else ev C loc m b:=rfl
theorem DS {C:Calls} {loc:ae} {mu:Mu} {e} {f}:ev C loc mu (.attr e f)=(ev C loc mu e).bind fun (x,m)=>(fu m x f).map (·,m):=rfl
theorem GN {C:Calls} {loc:ae} {mu:Mu} {e} {i}:ev C loc mu (.sub e i)=(ev C loc mu e).bind fun (x,m)=>(ev C loc m i).bind fun (y,m)=>(aX m x y).map (·,m):=rfl
theorem Ea {C:Calls} {loc:ae} {mu:Mu} {e} {lo}:ev C loc mu (.slo e lo)=(ev C loc mu e).bind fun (x,m)=>(ev C loc m lo).bind fun (y,m)=>(vT x).bind fun xs=>(vI y).bind fun k=>if 1≤k∧k≤8∧k.toNat≤xs.length then (f9 (xs.drop k.toNat)).map (·,m) else none:=rfl
theorem C6 {C:Calls} {loc:ae} {mu:Mu} {f} {es}:ev C loc mu (.call f es)=(cV C loc mu es).bind fun (vs,m)=>C f vs m:=rfl
theorem EV {C:Calls} {loc:ae} {mu:Mu} {c} {es}:ev C loc mu (.new c es)=(cV C loc mu es).bind fun (vs,m)=>(C c.init (.r m.length::vs) (m++[.inst c [] []])).bind fun (x,m1)=>(vN x).map fun Z=>(.r m.length,m1):=rfl
theorem CX {C:Calls} {loc:ae} {mu:Mu} {e} {f} {es}:ev C loc mu (.meth e f es)=(ev C loc mu e).bind fun (x,m)=>(vR x).bind fun k=>((m[k]?).bind r8).bind fun Z=>(cV C loc m es).bind fun (vs,m)=>C f (.r k::vs) m:=rfl
theorem H5 {C:Calls} {loc:ae} {mu:Mu} {b} {es}:ev C loc mu (.bi b es)=(cV C loc mu es).bind fun (vs,m)=>Gs m b vs:=rfl
theorem xS {C:Calls} {loc:ae} {mu:Mu} {q} {e}:ev C loc mu (.toList q e)=(ev C loc mu e).bind fun (x,m)=>(nX m x).bind fun xs=>cx q m xs (bE xs):=rfl
theorem Ep {C:Calls} {loc:ae} {mu:Mu} {e} {x}:ev C loc mu (.app e x)=(ev C loc mu e).bind fun (o,m)=>if mJ m o=false then none else (ev C loc m x).bind fun (v,m)=>(vR o).bind fun k=>((m[k]?).bind oL).bind fun xs=>if xs.length < lim then some (.d .none,m.set k (.list (xs++[v]))) else none:=rfl
theorem Fa {C:Calls} {loc:ae} {mu:Mu} {e} {x}:ev C loc mu (.ext e x)=(ev C loc mu e).bind fun (o,m)=>if mJ m o=false then none else (ev C loc m x).bind fun (v,m)=>(vR o).bind fun k=>(vL v).bind fun ds=>((m[k]?).bind oL).bind fun xs=>if xs.length+ds.length≤lim then some (.d .none,m.set k (.list (xs++ds.map .d))) else none:=rfl
theorem D5 {C:Calls} {loc:ae} {mu:Mu} {e}:ev C loc mu (.pop0 e)=(ev C loc mu e).bind fun (o,m)=>(vR o).bind fun k=>((m[k]?).bind oL).bind fun l=>w0 k m l:=rfl
theorem G2 {C:Calls} {loc:ae} {mu:Mu} {e} {k}:ev C loc mu (.get e k)=(ev C loc mu e).bind fun (o,m)=>if jB m o=false then none else (ev C loc m k).bind fun (x,m)=>(vR o).bind fun a=>(vI x).bind fun i=>((m[a]?).bind oI).map fun ks=>(.d ((ks.lookup i).getD .none),m):=rfl
theorem C9 {C:Calls} {loc:ae} {mu:Mu} {e} {k} {d}:ev C loc mu (.getd e k d)=(ev C loc mu e).bind fun (o,m)=>if jB m o=false then none else (ev C loc m k).bind fun (x,m)=>(ev C loc m d).bind fun (z,m)=>(vR o).bind fun a=>xO a x z m:=rfl
theorem DX {C:Calls} {loc:ae} {mu:Mu} {e} {k}:ev C loc mu (.popd e k)=(ev C loc mu e).bind fun (o,m)=>if jB m o=false then none else (ev C loc m k).bind fun (x,m)=>(vR o).bind fun a=>(vI x).bind fun i=>((m[a]?).bind oI).bind fun ks=>if ks.length≤lim then some (.d ((ks.lookup i).getD .none),m.set a (.idict (cO i ks))) else none:=rfl
theorem vG {C:Calls} {loc:ae} {mu:Mu} {q} {elt} {ts} {it}:ev C loc mu (.comp q elt ts it)=(ev C loc mu it).bind fun (x,m)=>(fF x).bind fun xs =>
      (cB (fun l m=>(ev C l m elt).map fun (v,m)=>(some v,m)) ts xs loc m).bind fun (vs,m) =>
        cx q m vs (bE vs):=rfl
theorem rS {C:Calls} {loc:ae} {mu:Mu} {elt} {ts} {it} {c}:ev C loc mu (.compif elt ts it c)=(ev C loc mu it).bind fun (x,m)=>(fF x).bind fun xs =>
      (cB (fun l m=>(ev C l m c).bind fun (t,m)=>(dh t).bind fun b=>if b then (ev C l m elt).map fun (v,m)=>(some v,m) else some (none,m)) ts xs loc m).bind fun (vs,m)=>cx false m vs (bE vs):=rfl
theorem Es {C:Calls} {loc:ae} {mu:Mu} {i}:ev C loc mu (.lam i)=(look loc mu i).bind fun v=>(vI v).map fun k=>(.clo k,mu):=rfl
theorem Af {C:Calls} {loc:ae} {mu:Mu} {i} {x}:ev C loc mu (.callv i x)=(look loc mu i).bind fun v=>(ev C loc mu x).bind fun (y,m)=>(vC v).bind fun k=>(vI y).map fun b=>(.d (.int (b+k)),m):=rfl
theorem yq {C:Calls} {loc:ae} {mu:Mu}:ev C loc mu .emptyI=some (.r mu.length,mu++[.idict []]):=rfl
theorem yX {C:Calls} {loc:ae} {mu:Mu}:ev C loc mu .emptyP=some (.r mu.length,mu++[.spots 0]):=rfl
theorem AC {C:Calls} {loc:ae} {mu:Mu} {frozen} {ws} {es}:ev C loc mu (.sdisp frozen ws es)=(cV C loc mu es).bind fun (vs,m)=>if ws.length=vs.length∧ws.Nodup∧ws.length≤8 then
      (if frozen then (bE vs).map fun ds=>(.d (.dct ws ds),m) else some (.r m.length,m++[.sdict ws vs])) else none:=rfl
theorem pA {C:Calls} {loc:ae} {mu:Mu} {e}:ev C loc mu (.frz e)=(ev C loc mu e).bind fun (v,m)=>(freeze 4 m v).map fun (d,m)=>(.d d,m):=rfl
theorem nW {C:Calls} {loc:ae} {mu:Mu}:cV C loc mu .nil=some ([],mu):=rfl
theorem oJ {C:Calls} {loc:ae} {mu:Mu} {e} {r}:cV C loc mu (.cons e r)=(ev C loc mu e).bind fun (v,m)=>(cV C loc m r).bind fun (vs,m)=>some (v::vs,m):=rfl
theorem rK {C:Calls} {loc:ae} {mu:Mu}:gz C loc mu .nil=none:=rfl
theorem rO {C:Calls} {loc:ae} {mu:Mu} {e}:gz C loc mu (.cons e .nil)=ev C loc mu e:=rfl
theorem qk {C:Calls} {loc:ae} {mu:Mu} {e} {e2} {r}:gz C loc mu (.cons e (.cons e2 r))=(ev C loc mu e).bind fun (v,m)=>(dh v).bind fun b=>if b then gz C loc m (.cons e2 r) else some (v,m):=rfl
theorem tN {C:Calls} {loc:ae} {mu:Mu}:iO C loc mu .nil=none:=rfl
theorem sZ {C:Calls} {loc:ae} {mu:Mu} {e}:iO C loc mu (.cons e .nil)=ev C loc mu e:=rfl
theorem rz {C:Calls} {loc:ae} {mu:Mu} {e} {e2} {r}:iO C loc mu (.cons e (.cons e2 r))=(ev C loc mu e).bind fun (v,m)=>(dh v).bind fun b=>if b then some (v,m) else iO C loc m (.cons e2 r):=rfl
theorem Gi {C:Calls} {loc:ae} {mu:Mu}:ex C loc mu .any=none:=rfl
theorem GP {C:Calls} {loc:ae} {mu:Mu} {i} {e}:ex C loc mu (.asg i e)=(ev C loc mu e).bind fun (v,m)=>if i < loc.length then some (.next,loc.set i (some v),m) else none:=rfl
theorem GH {C:Calls} {loc:ae} {mu:Mu} {is} {e}:ex C loc mu (.unp is e)=(ev C loc mu e).bind fun (v,m)=>(vD v).bind fun x=>(sW x).bind fun xs=>if is.length=xs.length then (ai is (xs.map .d) loc).map fun l=>(.next,l,m) else none:=rfl
theorem AO {C:Calls} {loc:ae} {mu:Mu} {is} {es}:ex C loc mu (.multi is es)=(cV C loc mu es).bind fun (vs,m)=>if is.length=vs.length∧is.length≤8 then (ai is vs loc).map fun l=>(.next,l,m) else none:=rfl
theorem Dr {C:Calls} {loc:ae} {mu:Mu} {o} {i} {v}:ex C loc mu (.sett o i v)=(ev C loc mu v).bind fun (x,m)=>(ev C loc m o).bind fun (a,m)=>(ev C loc m i).bind fun (k,m)=>(vR a).bind fun a=>sd loc x a k m:=rfl
theorem DE {C:Calls} {loc:ae} {mu:Mu} {o} {f} {v}:ex C loc mu (.seta o f v)=(ev C loc mu v).bind fun (x,m)=>(ev C loc m o).bind fun (a,m)=>(vR a).bind fun a=>((m[a]?).bind oO).bind fun q=>if q.2.1.length < lim then some (.next,loc,m.set a (.inst q.1 (ko f q.2.1) (jx f x q.2.1 q.2.2))) else none:=rfl
theorem Eh {C:Calls} {loc:ae} {mu:Mu} {c} {a} {b}:ex C loc mu (.ifs c a b)=(ev C loc mu c).bind fun (x,m)=>(dh x).bind fun t=>if t then er C loc m a else er C loc m b:=rfl
theorem FS {C:Calls} {loc:ae} {mu:Mu} {e}:ex C loc mu (.ret e)=(ev C loc mu e).map fun (v,m)=>(.ret v,loc,m):=rfl
theorem Db {C:Calls} {loc:ae} {mu:Mu} {e}:ex C loc mu (.expr e)=(ev C loc mu e).map fun (_,m)=>(.next,loc,m):=rfl
theorem DN {C:Calls} {loc:ae} {mu:Mu} {ts} {it} {b}:ex C loc mu (.for_ ts it b)=(ev C loc mu it).bind fun (x,m)=>(fF x).bind fun xs=>cT (fun l m=>er C l m b) ts xs loc m:=rfl
theorem xC {C:Calls} {loc:ae} {mu:Mu} {i} {j} {it} {b}:ex C loc mu (.forEnum i j it b)=(ev C loc mu it).bind fun (x,m)=>(ky x).bind fun xs=>cT (fun l m=>er C l m b) [i,j] (iG xs 0) loc m:=rfl
theorem D3 {C:Calls} {loc:ae} {mu:Mu}:er C loc mu .nil=some (.next,loc,mu):=rfl
theorem AY {C:Calls} {loc:ae} {mu:Mu} {s} {r}:er C loc mu (.cons s r)=(ex C loc mu s).bind fun (fl,l,m)=>match fl with
      | .next=>er C l m r
      | .ret v=>some (.ret v,l,m):=rfl
theorem HB {mu:Mu} {v:Val}:freeze 0 mu v=none:=rfl
theorem Lu {n:Nat} {mu:Mu} {v:Val}:freeze (n+1) mu v=(vR v).elim ((vD v).map (·,mu)) fun i=>(mu[i]?).bind fun ob=>tC (pj (freeze n)) i mu ob:=rfl
theorem JM {n:Nat} {mu:Mu}:freeze.go n mu []=some ([],mu):=rfl
theorem AI {n:Nat} {mu:Mu} {v:Val} {r:List Val}:freeze.go n mu (v::r)=(freeze n mu v).bind fun (x,m1)=>(freeze.go n m1 r).bind fun (xs,m2)=>some (x::xs,m2):=rfl
end Mine.Internal
namespace Mine.Internal
noncomputable def fx:FDef :=
  { names:=["self", "name", "arg_count", "locals_told", "blocks", "spots"],params:=6,dflts:=[.none,.none],cut:=false,body:=.of [
    (.seta (.loc 0) .name (.loc 1)),
    (.seta (.loc 0) .argCount (.loc 2)),
    (.seta (.loc 0) .locals (.toList true (.loc 3))),
    (.seta (.loc 0) .blocks (.ifx (.isN (.loc 4)) (.list true (.of [])) (.loc 4))),
    (.seta (.loc 0) .spots (.ifx (.isN (.loc 5)) .emptyP (.loc 5)))],wr:=[],fz:=[] }
noncomputable def fZ:FDef :=
  { names:=["terminator", "turned", "word", "rows", "value", "block"],params:=2,dflts:=[],cut:=true,body:=.of [
    (.asg 2 (.sub (.loc 0) (.int 0))),
    (.ifs (.cmp .eq (.loc 2) (.str .goto_)) (.of [(.ret (.tup (.of [(.str .goto_),(.callv 1 (.sub (.loc 0) (.int 1)))])))]) .nil),
    (.ifs (.cmp .eq (.loc 2) (.str .switch_)) (.of [(.asg 3 (.bi .tuple (.of [(.comp false (.tup (.of [(.loc 4),(.callv 1 (.loc 5))])) [4,5] (.sub (.loc 0) (.int 2)))]))),(.ret (.tup (.of [(.str .switch_),(.sub (.loc 0) (.int 1)),(.loc 3),(.ifx (.isN (.sub (.loc 0) (.int 3))) .none (.callv 1 (.sub (.loc 0) (.int 3))))])))]) .nil),
    (.ifs (.cmp .eq (.loc 2) (.str .call_)) (.of [.any]) .nil),
    (.ifs (.cmp .eq (.loc 2) (.str .drop_)) (.of [.any]) .nil),
    (.ifs (.cmp .eq (.loc 2) (.str .assert_)) (.of [.any]) .nil),
    (.ret (.loc 0))],wr:=[],fz:=[] }
noncomputable def l5:FDef :=
  { names:=["body", "blocks", "statements", "terminator"],params:=1,dflts:=[],cut:=false,body:=.of [
    (.asg 1 (.comp true (.list false (.of [(.toList false (.loc 2)),(.loc 3)])) [2,3] (.attr (.loc 0) .blocks))),
    (.ret (.new .body (.of [(.attr (.loc 0) .name),(.attr (.loc 0) .argCount),(.attr (.loc 0) .locals),(.loc 1),(.bi .dict (.of [(.attr (.loc 0) .spots)]))])))],wr:=[],fz:=[] }
noncomputable def iF:FDef :=
  { names:=["rvalue", "word"],params:=1,dflts:=[],cut:=true,body:=.of [
    (.asg 1 (.sub (.loc 0) (.int 0))),
    (.ifs (.cmp .in_ (.loc 1) (.tup (.of [(.str .use_),(.str .box_)]))) (.of [(.ret (.list false (.of [(.sub (.loc 0) (.int 1))])))]) .nil),
    (.ifs (.cmp .in_ (.loc 1) (.tup (.of [(.str .binary_),(.str .checked_)]))) (.of [(.ret (.list false (.of [(.sub (.loc 0) (.int 2)),(.sub (.loc 0) (.int 3))])))]) .nil),
    (.ifs (.cmp .eq (.loc 1) (.str .unary_)) (.of [.any]) .nil),
    (.ifs (.cmp .eq (.loc 1) (.str .cast_)) (.of [.any]) .nil),
    (.ifs (.cmp .in_ (.loc 1) (.tup (.of [(.str .tuple_),(.str .array_)]))) (.of [(.ret (.toList false (.sub (.loc 0) (.int 1))))]) .nil),
    (.ret .any)],wr:=[],fz:=[] }
noncomputable def dg:FDef :=
  { names:=["rvalue", "operands", "word"],params:=2,dflts:=[],cut:=true,body:=.of [
    (.asg 2 (.sub (.loc 0) (.int 0))),
    (.ifs (.cmp .in_ (.loc 2) (.tup (.of [(.str .use_),(.str .box_)]))) (.of [(.ret (.tup (.of [(.loc 2),(.sub (.loc 1) (.int 0))])))]) .nil),
    (.ifs (.cmp .in_ (.loc 2) (.tup (.of [(.str .binary_),(.str .checked_)]))) (.of [(.ret (.tup (.of [(.loc 2),(.sub (.loc 0) (.int 1)),(.sub (.loc 1) (.int 0)),(.sub (.loc 1) (.int 1))])))]) .nil),
    (.ifs (.cmp .eq (.loc 2) (.str .unary_)) (.of [.any]) .nil),
    (.ifs (.cmp .eq (.loc 2) (.str .cast_)) (.of [.any]) .nil),
    (.ifs (.cmp .in_ (.loc 2) (.tup (.of [(.str .tuple_),(.str .array_)]))) (.of [(.ret (.tup (.of [(.loc 2),(.bi .tuple (.of [(.loc 1)]))])))]) .nil),
    (.ret .any)],wr:=[],fz:=[] }
noncomputable def ii:FDef :=
  { names:=["body", "most", "many", "statements", "terminator"],params:=2,dflts:=[],cut:=true,body:=.of [
    (.asg 2 (.int 0)),
    (.for_ [3,4] (.attr (.loc 0) .blocks) (.of [(.asg 2 (.bin false .add (.bin false .add (.loc 2) (.bi .len (.of [(.loc 3)]))) (.int 1))),(.ifs (.cmp .eq (.sub (.loc 4) (.int 0)) (.str .call_)) (.of [(.ret (.bool false))]) .nil)])),
    (.ret (.cmp .le (.loc 2) (.loc 1)))],wr:=[],fz:=[] }
noncomputable def gN:FDef :=
  { names:=["place", "shift", "told", "projection"],params:=2,dflts:=[],cut:=true,body:=.of [
    (.asg 2 (.list true (.of []))),
    (.for_ [3] (.sub (.loc 0) (.int 1)) (.of [(.expr (.app (.loc 2) (.ifx (.cmp .eq (.sub (.loc 3) (.int 0)) (.str .index_)) (.tup (.of [(.str .index_),(.bin false .add (.sub (.loc 3) (.int 1)) (.loc 1))])) (.loc 3))))])),
    (.ret (.tup (.of [(.bin false .add (.sub (.loc 0) (.int 0)) (.loc 1)),(.bi .tuple (.of [(.loc 2)]))])))],wr:=[],fz:=[] }
noncomputable def eX:FDef :=
  { names:=["operand", "shift"],params:=2,dflts:=[],cut:=true,body:=.of [
    (.ret (.ifx (.cmp .eq (.sub (.loc 0) (.int 0)) (.str .const_)) (.loc 0) (.tup (.of [(.sub (.loc 0) (.int 0)),(.call .movedPlace (.of [(.sub (.loc 0) (.int 1)),(.loc 1)]))]))))],wr:=[],fz:=[] }
noncomputable def d7:FDef :=
  { names:=["operands", "shift", "operand"],params:=2,dflts:=[],cut:=true,body:=.of [
    (.ret (.bi .tuple (.of [(.comp false (.call .movedOperand (.of [(.loc 2),(.loc 1)])) [2] (.loc 0))])))],wr:=[],fz:=[] }
noncomputable def fq:FDef :=
  { names:=["rvalue", "shift"],params:=2,dflts:=[],cut:=true,body:=.of [
    (.ifs (.cmp .eq (.sub (.loc 0) (.int 0)) (.str .ref_)) (.of [.any]) .nil),
    (.ifs (.cmp .eq (.sub (.loc 0) (.int 0)) (.str .discriminant_)) (.of [.any]) .nil),
    (.ret (.call .withOperands (.of [(.loc 0),(.call .movedOperands (.of [(.call .operandsOf (.of [(.loc 0)])),(.loc 1)]))])))],wr:=[],fz:=[] }
noncomputable def ga:FDef :=
  { names:=["statement", "shift", "kind"],params:=2,dflts:=[],cut:=true,body:=.of [
    (.asg 2 (.sub (.loc 0) (.int 0))),
    (.ifs (.cmp .eq (.loc 2) (.str .assign_)) (.of [(.ret (.tup (.of [(.loc 2),(.call .movedPlace (.of [(.sub (.loc 0) (.int 1)),(.loc 1)])),(.call .movedRvalue (.of [(.sub (.loc 0) (.int 2)),(.loc 1)]))])))]) .nil),
    (.ifs (.cmp .in_ (.loc 2) (.tup (.of [(.str .live_),(.str .dead_)]))) (.of [(.ret (.tup (.of [(.loc 2),(.bin false .add (.sub (.loc 0) (.int 1)) (.loc 1))])))]) .nil),
    (.ifs (.cmp .eq (.loc 2) (.str .print_)) (.of [(.ret (.tup (.of [(.loc 2),(.call .movedOperand (.of [(.sub (.loc 0) (.int 1)),(.loc 1)]))])))]) .nil),
    (.ret (.loc 0))],wr:=[],fz:=[] }
noncomputable def dv:FDef :=
  { names:=["terminator", "shift", "blocks", "told"],params:=3,dflts:=[],cut:=true,body:=.of [
    (.asg 3 (.call .retargeted (.of [(.loc 0),(.lam 2)]))),
    (.ifs (.cmp .in_ (.sub (.loc 3) (.int 0)) (.tup (.of [(.str .switch_),(.str .assert_)]))) (.of [(.ret (.bin false .add (.tup (.of [(.sub (.loc 3) (.int 0)),(.call .movedOperand (.of [(.sub (.loc 3) (.int 1)),(.loc 1)]))])) (.bi .tuple (.of [(.slo (.loc 3) (.int 2))]))))]) .nil),
    (.ifs (.cmp .eq (.sub (.loc 3) (.int 0)) (.str .drop_)) (.of [.any]) .nil),
    (.ret (.loc 3))],wr:=[],fz:=["blocks"] }
noncomputable def im:FDef :=
  { names:=["self", "body"],params:=2,dflts:=[],cut:=false,body:=.of [
    (.seta (.loc 0) .body (.call .copied (.of [(.loc 1)])))],wr:=[],fz:=[] }
noncomputable def sb:FDef :=
  { names:=["self", "number", "inner", "spot", "begun", "statements", "terminator", "place", "behind", "shift", "blocks", "at", "operand", "local"],params:=3,dflts:=[],cut:=true,body:=.of [
    (.unp [5,6] (.sub (.attr (.attr (.loc 0) .body) .blocks) (.loc 1))),
    (.multi [7,8] (.of [(.sub (.loc 6) (.int 3)),(.sub (.loc 6) (.int 4))])),
    (.multi [9,10] (.of [(.bi .len (.of [(.attr (.attr (.loc 0) .body) .locals)])),(.bi .len (.of [(.attr (.attr (.loc 0) .body) .blocks)]))])),
    (.asg 3 (.getd (.attr (.attr (.loc 0) .body) .spots) (.tup (.of [(.loc 1),(.bi .len (.of [(.loc 5)]))])) (.int 0))),
    (.asg 4 (.bin true .add (.toList false (.loc 5)) (.comp false (.tup (.of [(.str .live_),(.bin false .add (.loc 9) (.loc 13))])) [13] (.bi .range (.of [(.bin false .add (.attr (.loc 2) .argCount) (.int 1))]))))),
    (.forEnum 11 12 (.sub (.loc 6) (.int 2)) (.of [(.expr (.app (.loc 4) (.tup (.of [(.str .assign_),(.tup (.of [(.bin false .add (.bin false .add (.loc 9) (.loc 11)) (.int 1)),(.tup (.of []))])),(.tup (.of [(.str .use_),(.loc 12)]))]))))])),
    (.sett (.attr (.attr (.loc 0) .body) .blocks) (.loc 1) (.list false (.of [(.frz (.loc 4)),(.tup (.of [(.str .goto_),(.loc 10)]))]))),
    (.expr (.meth (.loc 0) .tellSpots (.of [(.loc 1),(.bi .len (.of [(.loc 5)])),(.bin false .add (.bi .len (.of [(.loc 4)])) (.int 1)),(.loc 3)]))),
    (.expr (.ext (.attr (.attr (.loc 0) .body) .locals) (.attr (.loc 2) .locals))),
    (.for_ [5,6] (.attr (.loc 2) .blocks) (.of [(.expr (.meth (.loc 0) .putBlock (.of [(.loc 5),(.loc 6),(.tup (.of [(.loc 9),(.loc 10),(.loc 7),(.loc 8),(.attr (.loc 2) .argCount)])),(.loc 3)])))]))],wr:=["shift"],fz:=[] }
noncomputable def jh:FDef :=
  { names:=["self", "number", "first", "last", "spot", "at"],params:=5,dflts:=[],cut:=true,body:=.of [
    (.for_ [5] (.bi .range (.of [(.loc 2),(.loc 3)])) (.of [(.sett (.attr (.attr (.loc 0) .body) .spots) (.tup (.of [(.loc 1),(.loc 5)])) (.loc 4))]))],wr:=[],fz:=[] }
noncomputable def gT:FDef :=
  { names:=["self", "statements", "terminator", "call", "spot", "made", "told", "shift", "blocks", "place", "behind", "many", "statement", "local"],params:=5,dflts:=[],cut:=true,body:=.of [
    (.unp [7,8,9,10,11] (.loc 3)),
    (.asg 5 (.comp true (.call .movedStatement (.of [(.loc 12),(.loc 7)])) [12] (.loc 1))),
    (.asg 6 (.call .movedTerminator (.of [(.loc 2),(.loc 7),(.loc 8)]))),
    (.ifs (.cmp .eq (.sub (.loc 6) (.int 0)) (.str .return_)) (.of [(.expr (.app (.loc 5) (.tup (.of [(.str .assign_),(.loc 9),(.tup (.of [(.str .use_),(.tup (.of [(.str .move_),(.tup (.of [(.loc 7),(.tup (.of []))]))]))]))])))),(.expr (.ext (.loc 5) (.comp false (.tup (.of [(.str .dead_),(.bin false .add (.loc 7) (.loc 13))])) [13] (.bi .range (.of [(.loc 11),(.neg (.int 1)),(.neg (.int 1))]))))),(.asg 6 (.ifx (.isN (.loc 10)) (.tup (.of [(.str .unreachable_)])) (.tup (.of [(.str .goto_),(.loc 10)]))))]) .nil),
    (.expr (.app (.attr (.attr (.loc 0) .body) .blocks) (.list false (.of [(.frz (.loc 5)),(.loc 6)])))),
    (.expr (.meth (.loc 0) .tellSpots (.of [(.bin false .sub (.bi .len (.of [(.attr (.attr (.loc 0) .body) .blocks)])) (.int 1)),(.int 0),(.bin false .add (.bi .len (.of [(.loc 5)])) (.int 1)),(.loc 4)])))],wr:=["shift"],fz:=[] }
noncomputable def i8:FDef :=
  { names:=["terminator"],params:=1,dflts:=[],cut:=true,body:=.of [
    (.ifs (.and (.of [(.cmp .eq (.sub (.loc 0) (.int 0)) (.str .call_)),(.cmp .eq (.sub (.sub (.loc 0) (.int 1)) (.int 0)) (.str .fn_)),(.cmp .eq (.sub (.sub (.loc 0) (.int 1)) (.int 2)) (.tup (.of [])))])) (.of [(.ret (.sub (.sub (.loc 0) (.int 1)) (.int 1)))]) .nil),
    (.ret .none)],wr:=[],fz:=[] }
noncomputable def kZ:FDef :=
  { names:=["body", "program", "most", "caller", "number", "key"],params:=3,dflts:=[.int 12],cut:=true,body:=.of [
    (.asg 3 (.new .caller (.of [(.loc 0)]))),
    (.for_ [4] (.bi .range (.of [(.bi .len (.of [(.attr (.loc 0) .blocks)]))])) (.of [(.asg 5 (.call .calledKey (.of [(.sub (.sub (.attr (.loc 0) .blocks) (.loc 4)) (.int 1))]))),(.ifs (.and (.of [(.notN (.loc 5)),(.cmp .in_ (.loc 5) (.loc 1)),(.call .isSmall (.of [(.sub (.loc 1) (.loc 5)),(.loc 2)])),(.cmp .eq (.sub (.sub (.sub (.sub (.attr (.loc 0) .blocks) (.loc 4)) (.int 1)) (.int 3)) (.int 1)) (.tup (.of [])))])) (.of [(.expr (.meth (.loc 3) .put (.of [(.loc 4),(.sub (.loc 1) (.loc 5))])))]) .nil)])),
    (.ret (.frz (.attr (.loc 3) .body)))],wr:=[],fz:=[] }
noncomputable def m5:FDef :=
  { names:=["script", "row", "cell", "big", "mixed"],params:=2,dflts:=[],cut:=false,body:=.of [
    (.asg 2 (.ifx (.cmp .ne (.loc 0) (.list false (.of []))) (.sub (.loc 0) (.int 0)) (.int 0))),
    (.asg 3 (.bi .max (.of [(.loc 2),(.bin false .sub (.neg (.int 1)) (.loc 2))]))),
    (.asg 4 (.bin false .mod (.bin false .mul (.bin false .add (.bin false .mod (.loc 3) (.int 2147483629)) (.int 17)) (.int 48271)) (.int 2147483647))),
    (.ret (.list true (.of [(.bin true .mul (.loc 3) (.bi .int (.of [(.cmp .ge (.loc 3) (.bin false .pow (.int 10) (.int 18)))]))),(.loc 4),(.ifx (.cmp .eq (.loc 0) (.list false (.of []))) (.loc 1) (.list true (.of [])))])))],wr:=[],fz:=[] }
noncomputable def jl:FDef :=
  { names:=["source", "top", "drawn"],params:=2,dflts:=[],cut:=true,body:=.of [
    (.ifs (.cmp .ne (.sub (.loc 0) (.int 2)) (.list false (.of []))) (.of [(.ret (.bin false .mod (.pop0 (.sub (.loc 0) (.int 2))) (.loc 1)))]) .nil),
    (.ifs (.cmp .gt (.sub (.loc 0) (.int 0)) (.int 0)) (.of [(.asg 2 (.bin false .mod (.sub (.loc 0) (.int 0)) (.loc 1))),(.sett (.loc 0) (.int 0) (.bin false .fdiv (.sub (.loc 0) (.int 0)) (.loc 1))),(.ret (.loc 2))]) .nil),
    (.sett (.loc 0) (.int 1) (.bin false .mod (.bin false .add (.bin false .mul (.sub (.loc 0) (.int 1)) (.int 39373)) (.int 7)) (.int 2147483647))),
    (.ret (.bin false .mod (.bin false .fdiv (.bin false .mod (.bin false .mul (.sub (.loc 0) (.int 1)) (.sub (.loc 0) (.int 1))) (.int 2147483629)) (.int 32)) (.loc 1)))],wr:=[],fz:=[] }
noncomputable def sn:FDef :=
  { names:=["source", "things"],params:=2,dflts:=[],cut:=true,body:=.of [
    (.ret (.sub (.loc 1) (.call .take (.of [(.loc 0),(.bi .len (.of [(.loc 1)]))]))))],wr:=[],fz:=[] }
noncomputable def ig:FDef :=
  { names:=["store", "operand", "value", "local", "steps"],params:=2,dflts:=[],cut:=true,body:=.of [
    (.ifs (.cmp .eq (.sub (.loc 1) (.int 0)) (.str .const_)) (.of [(.ret (.sub (.loc 1) (.int 2)))]) .nil),
    (.unp [3,4] (.sub (.loc 1) (.int 1))),
    (.asg 2 (.get (.sub (.loc 0) (.str .worths_)) (.loc 3))),
    (.ifs (.or (.of [(.cmp .notIn (.loc 3) (.sub (.loc 0) (.str .alive_))),(.isN (.loc 2))])) (.of [(.sett (.loc 0) (.str .bad_) (.bool true)),(.ret (.int 0))]) .nil),
    (.ret (.ifx (.cmp .ne (.loc 4) (.tup (.of []))) (.sub (.loc 2) (.sub (.sub (.loc 4) (.int 0)) (.int 1))) (.loc 2)))],wr:=[],fz:=[] }
noncomputable def nM:FDef :=
  { names:=["store", "place", "value", "pair", "local", "steps"],params:=3,dflts:=[],cut:=true,body:=.of [
    (.unp [4,5] (.loc 1)),
    (.ifs (.cmp .notIn (.loc 4) (.sub (.loc 0) (.str .alive_))) (.of [(.sett (.loc 0) (.str .bad_) (.bool true))]) .nil),
    (.ifs (.cmp .eq (.loc 5) (.tup (.of []))) (.of [(.sett (.sub (.loc 0) (.str .worths_)) (.loc 4) (.loc 2)),(.ret .none)]) .nil),
    (.asg 3 (.toList true (.getd (.sub (.loc 0) (.str .worths_)) (.loc 4) (.tup (.of [(.int 0),(.int 0)]))))),
    (.sett (.loc 3) (.sub (.sub (.loc 5) (.int 0)) (.int 1)) (.loc 2)),
    (.sett (.sub (.loc 0) (.str .worths_)) (.loc 4) (.bi .tuple (.of [(.loc 3)])))],wr:=[],fz:=[] }
noncomputable def iy:FDef :=
  { names:=["store", "row", "prints", "kind", "some", "worths", "one"],params:=3,dflts:=[],cut:=true,body:=.of [
    (.ifs (.cmp .eq (.sub (.loc 1) (.int 0)) (.str .print_)) (.of [(.expr (.app (.loc 2) (.call .value (.of [(.loc 0),(.sub (.loc 1) (.int 1))]))))]) (.of [(.ifs (.cmp .eq (.sub (.loc 1) (.int 0)) (.str .live_)) (.of [(.sett (.loc 0) (.str .bad_) (.or (.of [(.sub (.loc 0) (.str .bad_)),(.cmp .in_ (.sub (.loc 1) (.int 1)) (.sub (.loc 0) (.str .alive_)))]))),(.sett (.loc 0) (.str .alive_) (.bin false .add (.sub (.loc 0) (.str .alive_)) (.list false (.of [(.sub (.loc 1) (.int 1))]))))]) (.of [(.ifs (.cmp .eq (.sub (.loc 1) (.int 0)) (.str .dead_)) (.of [(.sett (.loc 0) (.str .bad_) (.or (.of [(.sub (.loc 0) (.str .bad_)),(.cmp .notIn (.sub (.loc 1) (.int 1)) (.sub (.loc 0) (.str .alive_)))]))),(.sett (.loc 0) (.str .alive_) (.compif (.loc 6) [6] (.sub (.loc 0) (.str .alive_)) (.cmp .ne (.loc 6) (.sub (.loc 1) (.int 1))))),(.expr (.popd (.sub (.loc 0) (.str .worths_)) (.sub (.loc 1) (.int 1))))]) (.of [(.asg 3 (.sub (.sub (.loc 1) (.int 2)) (.int 0))),(.asg 4 (.ifx (.cmp .eq (.loc 3) (.str .tuple_)) (.sub (.sub (.loc 1) (.int 2)) (.int 1)) (.slo (.sub (.loc 1) (.int 2)) (.ifx (.cmp .eq (.loc 3) (.str .binary_)) (.int 2) (.int 1))))),(.asg 5 (.comp false (.call .value (.of [(.loc 0),(.loc 6)])) [6] (.loc 4))),(.ifs (.cmp .eq (.loc 3) (.str .binary_)) (.of [(.asg 5 (.list false (.of [(.bin false .mod (.sub (.sdisp true [.plus_,.xor_,.lt_] (.of [(.bi .sum (.of [(.loc 5)])),(.bin false .xor (.sub (.loc 5) (.int 0)) (.sub (.loc 5) (.int 1))),(.bi .int (.of [(.cmp .lt (.sub (.loc 5) (.int 0)) (.sub (.loc 5) (.int 1)))]))])) (.sub (.sub (.loc 1) (.int 2)) (.int 1))) (.int 256))])))]) .nil),(.expr (.call .set (.of [(.loc 0),(.sub (.loc 1) (.int 1)),(.ifx (.cmp .eq (.loc 3) (.str .tuple_)) (.bi .tuple (.of [(.loc 5)])) (.sub (.loc 5) (.int 0)))])))]))]))]))],wr:=[],fz:=[] }
noncomputable def f_run:FDef :=
  { names:=["program", "body", "told", "prints", "deep", "store", "number", "turn", "at", "value", "row", "statements", "end", "inner", "given", "is_good", "one", "worth", "goal"],params:=5,dflts:=[],cut:=true,body:=.of [
    (.ifs (.cmp .gt (.loc 4) (.int 3)) (.of [(.ret (.tup (.of [(.int 0),(.bool false)])))]) .nil),
    (.asg 5 (.sdisp false [.worths_,.alive_,.bad_] (.of [.emptyI,(.toList false (.bi .range (.of [(.bin false .add (.attr (.loc 1) .argCount) (.int 1))]))),(.bool false)]))),
    (.forEnum 8 9 (.loc 2) (.of [(.sett (.sub (.loc 5) (.str .worths_)) (.bin false .add (.loc 8) (.int 1)) (.loc 9))])),
    (.asg 6 (.int 0)),
    (.for_ [7] (.bi .range (.of [(.int 60)])) (.of [(.unp [11,12] (.sub (.attr (.loc 1) .blocks) (.loc 6))),(.for_ [10] (.loc 11) (.of [(.expr (.call .do_ (.of [(.loc 5),(.loc 10),(.loc 3)])))])),(.ifs (.cmp .eq (.sub (.loc 12) (.int 0)) (.str .return_)) (.of [(.ret (.tup (.of [(.call .value (.of [(.loc 5),(.tup (.of [(.str .copy_),(.tup (.of [(.int 0),(.tup (.of []))]))]))])),(.not (.sub (.loc 5) (.str .bad_)))])))]) .nil),(.ifs (.cmp .eq (.sub (.loc 12) (.int 0)) (.str .goto_)) (.of [(.asg 6 (.sub (.loc 12) (.int 1)))]) (.of [(.ifs (.cmp .eq (.sub (.loc 12) (.int 0)) (.str .switch_)) (.of [(.asg 9 (.call .value (.of [(.loc 5),(.sub (.loc 12) (.int 1))]))),(.asg 6 (.sub (.bin false .add (.compif (.loc 18) [17,18] (.sub (.loc 12) (.int 2)) (.cmp .eq (.loc 17) (.loc 9))) (.list false (.of [(.sub (.loc 12) (.int 3))]))) (.int 0)))]) (.of [(.asg 13 (.comp false (.call .value (.of [(.loc 5),(.loc 16)])) [16] (.sub (.loc 12) (.int 2)))),(.unp [14,15] (.call .run (.of [(.loc 0),(.sub (.loc 0) (.sub (.sub (.loc 12) (.int 1)) (.int 1))),(.loc 13),(.loc 3),(.bin false .add (.loc 4) (.int 1))]))),(.sett (.loc 5) (.str .bad_) (.or (.of [(.sub (.loc 5) (.str .bad_)),(.not (.loc 15))]))),(.expr (.call .set (.of [(.loc 5),(.sub (.loc 12) (.int 3)),(.loc 14)]))),(.asg 6 (.sub (.loc 12) (.int 4)))]))]))])),
    (.ret (.tup (.of [(.int 0),(.bool false)])))],wr:=["store", "value"],fz:=[] }
noncomputable def nF:FDef :=
  { names:=["local"],params:=1,dflts:=[],cut:=true,body:=.of [
    (.ret (.tup (.of [(.str .copy_),(.tup (.of [(.loc 0),(.tup (.of []))]))])))],wr:=[],fz:=[] }
noncomputable def md:FDef :=
  { names:=["value"],params:=1,dflts:=[],cut:=true,body:=.of [
    (.ret (.tup (.of [(.str .const_),.byte,(.loc 0)])))],wr:=[],fz:=[] }
noncomputable def f_small:FDef :=
  { names:=["source", "body", "rows", "turn", "last", "other", "op"],params:=1,dflts:=[],cut:=true,body:=.of [
    (.asg 1 (.new .body (.of [(.str .h_),(.int 1),(.bin false .mul (.list false (.of [(.tup (.of [.byte,(.bool true),.none]))])) (.int 3))]))),
    (.asg 2 (.list true (.of [(.tup (.of [(.str .live_),(.int 2)])),(.tup (.of [(.str .assign_),(.tup (.of [(.int 2),(.tup (.of []))])),(.tup (.of [(.str .binary_),(.str .plus_),(.call .place (.of [(.int 1)])),(.call .number (.of [(.bin false .add (.int 1) (.call .take (.of [(.loc 0),(.int 9)])))]))]))]))]))),
    (.for_ [3] (.bi .range (.of [(.call .take (.of [(.loc 0),(.int 3)]))])) (.of [(.asg 6 (.call .one (.of [(.loc 0),(.list false (.of [(.str .plus_),(.str .xor_),(.str .lt_)]))]))),(.expr (.app (.loc 2) (.tup (.of [(.str .assign_),(.tup (.of [(.int 2),(.tup (.of []))])),(.tup (.of [(.str .binary_),(.loc 6),(.call .place (.of [(.int 2)])),(.call .number (.of [(.call .take (.of [(.loc 0),(.int 256)]))]))]))]))))])),
    (.asg 4 (.list false (.of [(.tup (.of [(.str .assign_),(.tup (.of [(.int 0),(.tup (.of []))])),(.tup (.of [(.str .use_),(.call .place (.of [(.int 2)]))]))])),(.tup (.of [(.str .dead_),(.int 2)]))]))),
    (.ifs (.cmp .eq (.call .take (.of [(.loc 0),(.int 2)])) (.int 0)) (.of [(.expr (.app (.attr (.loc 1) .blocks) (.list false (.of [(.bin false .add (.loc 2) (.loc 4)),(.tup (.of [(.str .return_)]))])))),(.ret (.frz (.loc 1)))]) .nil),
    (.expr (.app (.attr (.loc 1) .blocks) (.list false (.of [(.frz (.loc 2)),(.tup (.of [(.str .switch_),(.call .place (.of [(.int 1)])),(.tup (.of [(.tup (.of [(.call .take (.of [(.loc 0),(.int 4)])),(.int 1)]))])),(.int 2)]))])))),
    (.expr (.app (.attr (.loc 1) .blocks) (.list false (.of [(.loc 4),(.tup (.of [(.str .return_)]))])))),
    (.asg 5 (.list false (.of [(.tup (.of [(.str .print_),(.call .place (.of [(.int 2)]))])),(.tup (.of [(.str .assign_),(.tup (.of [(.int 0),(.tup (.of []))])),(.tup (.of [(.str .use_),(.call .number (.of [(.int 7)]))]))])),(.tup (.of [(.str .dead_),(.int 2)]))]))),
    (.expr (.app (.attr (.loc 1) .blocks) (.list false (.of [(.loc 5),(.tup (.of [(.str .return_)]))])))),
    (.ret (.frz (.loc 1)))],wr:=[],fz:=[] }
noncomputable def iZ:FDef :=
  { names:=["source", "body", "turn", "rows"],params:=1,dflts:=[],cut:=true,body:=.of [
    (.asg 1 (.new .body (.of [(.str .g_),(.int 1),(.bin false .mul (.list false (.of [(.tup (.of [.byte,(.bool true),.none]))])) (.int 3))]))),
    (.expr (.app (.attr (.loc 1) .blocks) (.list false (.of [(.list false (.of [(.tup (.of [(.str .live_),(.int 2)]))])),(.tup (.of [(.str .call_),(.tup (.of [(.str .fn_),(.str .h_),(.tup (.of []))])),(.tup (.of [(.call .place (.of [(.int 1)]))])),(.tup (.of [(.int 2),(.tup (.of []))])),(.int 1)]))])))),
    (.for_ [2] (.bi .range (.of [(.call .take (.of [(.loc 0),(.int 2)]))])) (.of [(.asg 3 (.list false (.of [(.tup (.of [(.str .assign_),(.tup (.of [(.int 2),(.tup (.of []))])),(.tup (.of [(.str .binary_),(.str .plus_),(.call .place (.of [(.int 2)])),(.call .place (.of [(.int 1)]))]))]))]))),(.expr (.app (.attr (.loc 1) .blocks) (.list false (.of [(.loc 3),(.tup (.of [(.str .call_),(.tup (.of [(.str .fn_),(.str .h_),(.tup (.of []))])),(.tup (.of [(.call .place (.of [(.int 2)]))])),(.tup (.of [(.int 2),(.tup (.of []))])),(.bin false .add (.bi .len (.of [(.attr (.loc 1) .blocks)])) (.int 1))]))]))))])),
    (.asg 3 (.list false (.of [(.tup (.of [(.str .assign_),(.tup (.of [(.int 0),(.tup (.of []))])),(.tup (.of [(.str .binary_),(.str .xor_),(.call .place (.of [(.int 2)])),(.call .place (.of [(.int 1)]))]))])),(.tup (.of [(.str .dead_),(.int 2)]))]))),
    (.expr (.app (.attr (.loc 1) .blocks) (.list false (.of [(.loc 3),(.tup (.of [(.str .return_)]))])))),
    (.ret (.frz (.loc 1)))],wr:=[],fz:=[] }
noncomputable def f_mainL:FDef :=
  { names:=["source", "sorts", "rows", "turn", "body", "calls", "told", "place", "name", "is_part", "one"],params:=1,dflts:=[],cut:=true,body:=.of [
    (.asg 1 (.list false (.of [.byte,.byte,(.tup (.of [(.str .tuple_),(.bin false .mul (.tup (.of [.byte])) (.int 2))]))]))),
    (.multi [4,5] (.of [(.new .body (.of [(.str .main_),(.int 0),(.comp false (.tup (.of [(.loc 10),(.bool true),.none])) [10] (.loc 1))])),(.list true (.of []))])),
    (.asg 2 (.list true (.of [(.tup (.of [(.str .live_),(.int 1)])),(.tup (.of [(.str .live_),(.int 2)])),(.tup (.of [(.str .assign_),(.tup (.of [(.int 1),(.tup (.of []))])),(.tup (.of [(.str .use_),(.call .number (.of [(.call .take (.of [(.loc 0),(.int 256)]))]))]))]))]))),
    (.expr (.app (.loc 2) (.tup (.of [(.str .assign_),(.tup (.of [(.int 2),(.tup (.of []))])),(.tup (.of [(.str .tuple_),(.tup (.of [(.call .place (.of [(.int 1)])),(.call .number (.of [(.int 5)]))]))]))])))),
    (.for_ [3] (.bi .range (.of [(.bin false .add (.int 1) (.call .take (.of [(.loc 0),(.int 3)])))])) (.of [(.multi [8,9] (.of [(.call .one (.of [(.loc 0),(.list false (.of [(.str .h_),(.str .g_),(.str .g_)]))])),(.cmp .eq (.call .take (.of [(.loc 0),(.int 4)])) (.int 0))])),(.asg 6 (.call .one (.of [(.loc 0),(.list false (.of [(.call .place (.of [(.int 1)])),(.call .number (.of [(.int 3)])),(.tup (.of [(.str .copy_),(.tup (.of [(.int 2),(.tup (.of [(.tup (.of [(.str .field_),(.int 1)]))]))]))]))]))]))),(.asg 7 (.ifx (.loc 9) (.tup (.of [(.int 2),(.tup (.of [(.tup (.of [(.str .field_),(.int 0)]))]))])) (.tup (.of [(.int 1),(.tup (.of []))])))),(.expr (.app (.loc 5) (.tup (.of [(.loc 8),(.loc 9)])))),(.expr (.app (.attr (.loc 4) .blocks) (.list false (.of [(.frz (.loc 2)),(.tup (.of [(.str .call_),(.tup (.of [(.str .fn_),(.loc 8),(.tup (.of []))])),(.tup (.of [(.loc 6)])),(.loc 7),(.bin false .add (.bi .len (.of [(.attr (.loc 4) .blocks)])) (.int 1))]))])))),(.asg 2 (.list false (.of [(.tup (.of [(.str .print_),(.call .place (.of [(.int 1)]))])),(.tup (.of [(.str .print_),(.tup (.of [(.str .copy_),(.tup (.of [(.int 2),(.tup (.of [(.tup (.of [(.str .field_),(.int 0)]))]))]))]))]))])))])),
    (.asg 2 (.bin false .add (.loc 2) (.list false (.of [(.tup (.of [(.str .assign_),(.tup (.of [(.int 0),(.tup (.of []))])),(.tup (.of [(.str .use_),(.call .place (.of [(.int 1)]))]))])),(.tup (.of [(.str .dead_),(.int 1)])),(.tup (.of [(.str .dead_),(.int 2)]))])))),
    (.expr (.app (.attr (.loc 4) .blocks) (.list false (.of [(.frz (.loc 2)),(.tup (.of [(.str .return_)]))])))),
    (.ret (.tup (.of [(.frz (.loc 4)),(.frz (.loc 5))])))],wr:=[],fz:=[] }
noncomputable def nN:FDef :=
  { names:=["body", "statements", "end"],params:=1,dflts:=[],cut:=true,body:=.of [
    (.ret (.compif (.sub (.sub (.loc 2) (.int 1)) (.int 1)) [1,2] (.attr (.loc 0) .blocks) (.cmp .eq (.sub (.loc 2) (.int 0)) (.str .call_))))],wr:=[],fz:=[] }
noncomputable def qc:FDef :=
  { names:=["program", "body", "prints", "given"],params:=2,dflts:=[],cut:=true,body:=.of [
    (.asg 2 (.list true (.of []))),
    (.asg 3 (.call .run (.of [(.loc 0),(.loc 1),(.list false (.of [])),(.loc 2),(.int 0)]))),
    (.ret (.tup (.of [(.frz (.loc 2)),(.loc 3)])))],wr:=[],fz:=[] }
noncomputable def f_law:FDef :=
  { names:=["script", "source", "program", "due", "first", "whole", "second", "put", "small", "middle", "body", "calls", "simple", "caller", "name", "is_part", "one"],params:=1,dflts:=[],cut:=true,body:=.of [
    (.asg 1 (.call .pool (.of [(.loc 0),(.list true (.of [(.int 0),(.int 1),(.int 0),(.int 9),(.int 0),(.int 0),(.int 4),(.int 1),(.int 1),(.int 1),(.int 0)]))]))),
    (.multi [8,9] (.of [(.call .small (.of [(.loc 1)])),(.call .middle (.of [(.loc 1)]))])),
    (.unp [10,11] (.call .mainL (.of [(.loc 1)]))),
    (.asg 2 (.sdisp true [.h_,.g_] (.of [(.loc 8),(.loc 9)]))),
    (.asg 3 (.call .told (.of [(.loc 2),(.loc 10)]))),
    (.ifs (.not (.sub (.sub (.loc 3) (.int 1)) (.int 1))) (.of [(.ret (.bool false))]) .nil),
    (.asg 4 (.call .inlined (.of [(.loc 10),(.loc 2),(.int 40)]))),
    (.ifs (.cmp .ne (.call .calls (.of [(.loc 4)])) (.compif (.loc 14) [14,15] (.loc 11) (.or (.of [(.loc 15),(.cmp .eq (.loc 14) (.str .g_))])))) (.of [(.ret (.bool false))]) .nil),
    (.asg 5 (.call .inlined (.of [(.loc 9),(.sdisp true [.h_] (.of [(.loc 8)])),(.int 40)]))),
    (.asg 6 (.call .inlined (.of [(.loc 10),(.sdisp true [.h_,.g_] (.of [(.loc 8),(.loc 5)])),(.int 90)]))),
    (.ifs (.or (.of [(.cmp .ne (.call .calls (.of [(.loc 5)])) (.list false (.of []))),(.cmp .ne (.call .calls (.of [(.loc 6)])) (.compif (.loc 14) [14,15] (.loc 11) (.loc 15)))])) (.of [(.ret (.bool false))]) .nil),
    (.ifs (.or (.of [(.cmp .ne (.call .told (.of [(.loc 2),(.loc 4)])) (.loc 3)),(.cmp .ne (.call .told (.of [(.sdisp true [.h_,.g_] (.of [(.loc 8),(.loc 5)])),(.loc 6)])) (.loc 3))])) (.of [(.ret (.bool false))]) .nil),
    (.asg 7 (.compif (.sub (.sdisp true [.h_,.g_] (.of [(.loc 8),(.loc 5)])) (.loc 14)) [14,15] (.loc 11) (.not (.loc 15)))),
    (.ifs (.cmp .ne (.bi .len (.of [(.attr (.loc 6) .locals)])) (.bin false .add (.bi .len (.of [(.attr (.loc 10) .locals)])) (.bi .sum (.of [(.comp false (.bi .len (.of [(.attr (.loc 16) .locals)])) [16] (.loc 7))])))) (.of [(.ret (.bool false))]) .nil),
    (.ifs (.cmp .ne (.bi .len (.of [(.attr (.loc 6) .blocks)])) (.bin false .add (.bi .len (.of [(.attr (.loc 10) .blocks)])) (.bi .sum (.of [(.comp false (.bi .len (.of [(.attr (.loc 16) .blocks)])) [16] (.loc 7))])))) (.of [(.ret (.bool false))]) .nil),
    (.multi [12,13] (.of [(.new .body (.of [(.str .h_),(.int 1),(.bin false .mul (.list false (.of [(.tup (.of [.byte,(.bool true),.none]))])) (.int 2))])),(.new .body (.of [(.str .main_),(.int 0),(.list false (.of [(.tup (.of [.byte,(.bool true),.none]))]))]))])),
    (.expr (.app (.attr (.loc 12) .blocks) (.list false (.of [(.list false (.of [(.tup (.of [(.str .assign_),(.tup (.of [(.int 0),(.tup (.of []))])),(.tup (.of [(.str .binary_),(.str .plus_),(.call .place (.of [(.int 1)])),(.call .number (.of [(.int 1)]))]))]))])),(.tup (.of [(.str .return_)]))])))),
    (.expr (.app (.attr (.loc 13) .blocks) (.list false (.of [(.list false (.of [])),(.tup (.of [(.str .call_),(.tup (.of [(.str .fn_),(.str .h_),(.tup (.of []))])),(.tup (.of [(.call .number (.of [(.int 2)]))])),(.tup (.of [(.int 0),(.tup (.of []))])),(.int 1)]))])))),
    (.expr (.app (.attr (.loc 13) .blocks) (.list false (.of [(.list false (.of [])),(.tup (.of [(.str .return_)]))])))),
    (.ret (.cmp .eq (.call .told (.of [(.sdisp true [] .nil),(.call .inlined (.of [(.frz (.loc 13)),(.sdisp true [.h_] (.of [(.frz (.loc 12))]))]))])) (.tup (.of [(.list false (.of [])),(.tup (.of [(.int 3),(.bool true)]))]))))],wr:=["small", "whole"],fz:=[] }
noncomputable def prog:Fn→FDef
  | .initBody=>fx
  | .retargeted=>fZ
  | .copied=>l5
  | .operandsOf=>iF
  | .withOperands=>dg
  | .isSmall=>ii
  | .movedPlace=>gN
  | .movedOperand=>eX
  | .movedOperands=>d7
  | .movedRvalue=>fq
  | .movedStatement=>ga
  | .movedTerminator=>dv
  | .initCaller=>im
  | .put=>sb
  | .tellSpots=>jh
  | .putBlock=>gT
  | .calledKey=>i8
  | .inlined=>kZ
  | .pool=>m5
  | .take=>jl
  | .one=>sn
  | .value=>ig
  | .set=>nM
  | .do_=>iy
  | .run=>f_run
  | .place=>nF
  | .number=>md
  | .small=>f_small
  | .middle=>iZ
  | .mainL=>f_mainL
  | .calls=>nN
  | .told=>qc
  | .law=>f_law
end Mine.Internal
namespace Mine.Internal
noncomputable abbrev aw:=Addr→Option Obj
noncomputable def Sub (p q:aw):Prop:=∀ a o,p a=some o→q a=some o
theorem Sub.refl {p:aw}:Sub p p:=fun Z Z e=>e
theorem Sub.trans {p q r:aw} (h:Sub p q) (k:Sub q r):Sub p r:=fun Z Z e=>k _ _ (h _ _ e)
noncomputable def put1 (p:aw) (a:Addr) (o:Obj):aw:=fun b=>if b=a then some o else p b
theorem cb {p:aw} {a:Addr} {o:Obj}:put1 p a o a=some o:=if_pos rfl
theorem eY {p:aw} {a b:Addr} {o:Obj} (h:b ≠ a):put1 p a o b=p b:=if_neg h
theorem Sub.put1 {p:aw} {a:Addr} {o:Obj} (h:p a=none):Sub p (put1 p a o):=fun b ob e=>by
  rw [eY (fun q=>by rw [q,h] at e; exact nS e)]; exact e
set_option genCtorIdx false in
set_option genInjectivity false in
structure Amb where
  prog:Program
  w:World
  H₀:Heap
  K:Frag
  cls:Cls→Addr
  fn:Fn→Addr
  mg:Str→Option Value
  mb:Str→Option Value
  cd:Addr
  tab:Addr
  lq:Str
noncomputable abbrev d8 (its:Array Value) (n:Nat):Obj:={ cls:=.type "tuple", data:=.seq its n }
noncomputable def ia (P:Params):List Str→List DictEntry→Prop
  | [],[]=>True
  | x::xs,e::es=>(∃ t,e.key=.str x t)∧e.hash=PyData.keyHash P x∧ia P xs es
  | _,_=>False
noncomputable def KeyObj (X:Amb) (ks:List Int) (ob:Obj):Prop:=ob.cls=.type "tuple" ∧ ∃ items n,ob.data=.seq items n∧ItemsAre (intKind X.prog X.w) ks items.toList
inductive Cns (P:Value→Prop) (R:List Value→Prop) (vs:List Value):Prop
  | mk (v r):vs=v::r→P v→R r→Cns P R vs
inductive RSeq (f:Array Value→Nat→Obj) (p:aw) (R:List Value→Prop) (v:Value):Prop
  | mk (a vs n):v=.ref a→p a=some (f vs n)→R vs.toList→RSeq f p R v
theorem RSeq.el {f:Array Value→Nat→Obj} {p:aw} {R:List Value→Prop} {v:Value} {G:Prop} (h:RSeq f p R v) (g:∀ a vs n,v=.ref a→p a=some (f vs n)→R vs.toList→G):G:=h.rec g
inductive RRng (p:aw) (a b c:Int) (v:Value):Prop
  | mk (r t u x):v=.ref r→p r=some { cls:=.type "range", data:=.fields #[.int a t,.int b u,.int c x] }→RRng p a b c v
theorem RRng.el {p:aw} {a b c:Int} {v:Value} {G:Prop} (h:RRng p a b c v) (g:∀ r t u x,v=.ref r→p r=some { cls:=.type "range", data:=.fields #[.int a t,.int b u,.int c x] }→G):G:=h.rec g
inductive RDct (X:Amb) (p:aw) (ks:List W) (R:List Value→Prop) (v:Value):Prop
  | mk (a o kvs):v=.ref a→(a == sysModules)=false→p a=some o→o.IsDictOf (strKind X.prog X.w) kvs→kvs.map (·.1)=ks.map W.str→R (kvs.map (·.2))→RDct X p ks R v
inductive RSpo (p:aw) (b:Nat) (v:Value):Prop
  | mk (a es n):v=.ref a→(a == sysModules)=false→p a=some (dictOf es n)→es.length≤b→RSpo p b v
inductive RObj (X:Amb) (p:aw) (c:Cls) (fs:List Fld) (R:List Value→Prop) (v:Value):Prop
  | mk (a d es n):v=.ref a→p a=some (instObj (X.cls c) d)→p d=some (dictOf es n)→ia X.w.params (fs.map Fld.str) es→R (es.map (·.val))→RObj X p c fs R v
inductive RRef (as:List (Addr × Addr)) (i:Nat) (v:Value):Prop
  | mk (q):as[i]? = some q→v=.ref q.1→RRef as i v
inductive MLst (h:Heap) (a:Addr) (R:List Value→Prop):Prop
  | mk (vs n):h.get? a=some (listOf vs n)→R vs.toList→MLst h a R
inductive MDct {K:Type} [DecidableEq K] {prog:Program} {w:World} (knd:KeyKind prog w K) (h:Heap) (a:Addr) (ks:List K) (R:List Value→Prop):Prop
  | mk (z:(a == sysModules)=false) (kvs):h.DictOf knd a kvs→kvs.map (·.1)=ks∧R (kvs.map (·.2))→MDct knd h a ks R
inductive MSpo (X:Amb) (h:Heap) (p:aw) (a:Addr) (b:Nat):Prop
  | mk (z:(a == sysModules)=false) (es:List DictEntry) (n:Nat) (xs:List (List Int × Addr × Value)):h.get? a=some (dictOf es n)→es=xs.map (entryOfKey (tupleKind (intKind X.prog X.w)))→(∀ x ∈ xs,(∃ ob,p x.2.1=some ob∧KeyObj X x.1 ob)∧∃ k t,x.2.2=.int k t)→(xs.map (·.1)).Nodup∧xs.length≤b→MSpo X h p a b
inductive MIns (X:Amb) (h:Heap) (q:Addr × Addr) (c:Cls) (fs:List Fld) (R:List Value→Prop):Prop
  | mk (es n):h.get? q.1=some (instObj (X.cls c) q.2)→h.get? q.2=some (dictOf es n)→ia X.w.params (fs.map Fld.str) es→R (es.map (·.val))→MIns X h q c fs R
section
variable (X:Amb) (p:aw)
mutual
noncomputable def DRel:Dat→Value→Prop
  | .none,v=>v=.none
  | .any,v=>∃ i t,v=.int i t
  | .bool b,v=>v=.bool b
  | .int i,v=>∃ t,v=.int i t
  | .str w,v=>∃ t,v=.str w.str t
  | .tup xs,v=>RSeq d8 p (DRels xs) v
  | .lst xs,v=>RSeq listOf p (DRels xs) v
  | .rng a b c,v=>RRng p a b c v
  | .dct ks xs,v=>RDct X p ks (DRels xs) v
  | .spots b,v=>RSpo p b v
  | .obj c fs xs,v=>RObj X p c fs (DRels xs) v
noncomputable def DRels:List Dat→List Value→Prop
  | [],vs=>vs=[]
  | x::xs,vs=>Cns (DRel x) (DRels xs) vs
end
end
section
variable {X:Amb} {p:aw} {v:Value} {vs:List Value} {xs:List Dat}
theorem Ih:DRel X p .none v=(v=.none):=rfl
theorem IB:DRel X p .any v=(∃ i t,v=.int i t):=rfl
theorem Iv {b:Bool}:DRel X p (.bool b) v=(v=.bool b):=rfl
theorem uc {i:Int}:DRel X p (.int i) v=(∃ t,v=.int i t):=rfl
theorem IO {w:W}:DRel X p (.str w) v=(∃ t,v=.str w.str t):=rfl
theorem IS:DRel X p (.tup xs) v=RSeq d8 p (DRels X p xs) v:=rfl
theorem yK:DRel X p (.lst xs) v=RSeq listOf p (DRels X p xs) v:=rfl
theorem Ks {a b c:Int}:DRel X p (.rng a b c) v=RRng p a b c v:=rfl
theorem F6 {ks:List W}:DRel X p (.dct ks xs) v=RDct X p ks (DRels X p xs) v:=rfl
theorem IJ {b:Nat}:DRel X p (.spots b) v=RSpo p b v:=rfl
theorem Iy {c:Cls} {fs:List Fld}:DRel X p (.obj c fs xs) v=RObj X p c fs (DRels X p xs) v:=rfl
theorem ds0:DRels X p [] vs=(vs=[]):=rfl
theorem kj {x:Dat}:DRels X p (x::xs) vs=Cns (DRel X p x) (DRels X p xs) vs:=rfl
theorem dc {x:Dat} (h:DRel X p x v) (g:DRels X p xs vs):DRels X p (x::xs) (v::vs):=.mk v vs rfl h g
theorem dz:DRels X p [] []:=rfl
theorem di {i:Int} (t:Tok):DRel X p (.int i) (.int i t):=⟨t,rfl⟩
theorem dw {w:W} (t:Tok):DRel X p (.str w) (.str w.str t):=⟨t,rfl⟩
theorem dn:DRel X p .none .none:=rfl
theorem Kj {a:Addr} {us:Array Value} {n:Nat} (h:p a=some (d8 us n)) (g:DRels X p xs us.toList):DRel X p (.tup xs) (.ref a):=.mk a us n rfl h g
theorem Kz {a:Addr} {us:Array Value} {n:Nat} (h:p a=some (listOf us n)) (g:DRels X p xs us.toList):DRel X p (.lst xs) (.ref a):=.mk a us n rfl h g
end
mutual
theorem DRel.mono {X:Amb} {p q:aw} (h:Sub p q):∀ {d:Dat} {v:Value},DRel X p d v→DRel X q d v
  | .none,_,k | .any,_,k | .bool _,_,k | .int _,_,k | .str _,_,k=>k
  | .tup xs,_,k | .lst xs,_,k=>by obtain ⟨a,vs,n,e1,e2,r⟩:=k; exact RSeq.mk a vs n e1 (h _ _ e2) (DRels.mono h r)
  | .rng _ _ _,_,k=>by obtain ⟨r,t,u,x,e1,e2⟩:=k; exact RRng.mk r t u x e1 (h _ _ e2)
  | .dct ks xs,_,k=>by obtain ⟨a,o,kvs,e1,e0,e2,e3,e4,r⟩:=k; exact RDct.mk a o kvs e1 e0 (h _ _ e2) e3 e4 (DRels.mono h r)
  | .spots b,_,k=>by obtain ⟨a,es,n,e1,e0,e2,r⟩:=k; exact RSpo.mk a es n e1 e0 (h _ _ e2) r
  | .obj c fs xs,_,k=>by obtain ⟨a,d,es,n,e1,e2,e3,e4,r⟩:=k; exact RObj.mk a d es n e1 (h _ _ e2) (h _ _ e3) e4 (DRels.mono h r)
theorem DRels.mono {X:Amb} {p q:aw} (h:Sub p q):∀ {ds:List Dat} {vs:List Value},DRels X p ds vs→DRels X q ds vs
  | [],_,k=>k
  | x::xs,_,k=>by obtain ⟨v,r,e,a,b⟩:=k; exact Cns.mk v r e (DRel.mono h a) (DRels.mono h b)
end
noncomputable abbrev gE:Str:=Str.ofString "block"
noncomputable abbrev ca:Str:=Str.ofString "blocks"
structure LamOK (params:Arguments) (body:Expr) (scope:Scope):Prop where
  body:∃ p1 p2 p3,body=.BinOp (.Name gE p1) .Add (.Name ca p2) p3
  args:params.args.map (·.arg)=[gE]∧params.posonlyargs=[]∧params.kwonlyargs=[]∧params.vararg=none∧params.kwarg=none
  kind:scope.kind=.function∧scope.isCoroutine=false∧scope.isGenerator=false
  l1:scope.names.lookup gE=some .local
  l2:scope.names.lookup ca=some .free
  l3:∀ x ∈ scope.names,x.2 ≠ .cell
inductive CloRel (X:Amb) (p:aw) (k:Int):Value→Prop
  | mk {f name qual params body scope cl pm c' ctv cell t ob oc vs tq}:p f=some (kla_obj name qual params body scope cl pm c' ctv)→LamOK params body scope →
    cl.lookup ca=some cell→p cell=some ob→ob.data=.cell (some (.int k t))→p c'=some oc→oc.data=.fields vs→vs[1]? = some (.str qual tq)→CloRel X p k (.ref f)
theorem CloRel.mono {X:Amb} {p q:aw} (h:Sub p q) {k:Int} {v:Value} (r:CloRel X p k v):CloRel X q k v :=
  let .mk e2 e3 e4 e5 e8 e6 e7 e9:=r; .mk (h _ _ e2) e3 e4 (h _ _ e5) e8 (h _ _ e6) e7 e9
noncomputable abbrev As:=List (Addr × Addr)
noncomputable def VRel (X:Amb) (p:aw) (as:As):Val→Value→Prop
  | .d x,v=>DRel X p x v
  | .r i,v=>RRef as i v
  | .clo k,v=>CloRel X p k v
noncomputable def VRels (X:Amb) (p:aw) (as:As):List Val→List Value→Prop
  | [],vs=>vs=[]
  | x::xs,vs=>Cns (VRel X p as x) (VRels X p as xs) vs
theorem pZ {α:Type} {l m:List α} (h:l <+: m) {i:Nat} {x:α} (e:l[i]? = some x):m[i]? = some x:=by
  obtain ⟨t,rfl⟩:=h
  rw [List.getElem?_append_left (List.getElem?_eq_some_iff.mp e).1]; exact e
theorem VRel.mono {X:Amb} {p q:aw} {as bs:As} (h:Sub p q) (k:as <+: bs) {x:Val} {v:Value} (r:VRel X p as x v):VRel X q bs x v:=by
  cases x with
  | d x=>exact DRel.mono h r
  | r i=>obtain ⟨c,e,f⟩:=r; exact ⟨c,pZ k e,f⟩
  | clo k=>exact CloRel.mono (X:=X) h r
theorem VRels.mono {X:Amb} {p q:aw} {as bs:As} (h:Sub p q) (k:as <+: bs):∀ {xs:List Val} {vs:List Value},VRels X p as xs vs→VRels X q bs xs vs
  | [],_,r=>r
  | _::_,_,⟨v,r,e,a,b⟩=>⟨v,r,e,a.mono h k,VRels.mono h k b⟩
noncomputable def MRel (X:Amb) (h:Heap) (p:aw) (as:As) (q:Addr × Addr):MObj→Prop
  | .list xs=>MLst h q.1 (VRels X p as xs)
  | .sdict ks xs=>MDct (strKind X.prog X.w) h q.1 (ks.map W.str) (VRels X p as xs)
  | .idict ks=>MDct (intKind X.prog X.w) h q.1 (ks.map (·.1)) (DRels X p (ks.map (·.2)))
  | .spots b=>MSpo X h p q.1 b
  | .inst c fs xs=>MIns X h q c fs (VRels X p as xs)
  | .frz d=>DRel X p d (.ref q.1)
noncomputable def dK (q:Addr × Addr):MObj→List Addr
  | .inst .. => [q.1,q.2]
  | .frz _=>[]
  | _=>[q.1]
section
variable {q:Addr × Addr} {xs:List Val} {ws:List W} {ks:List (Int × Dat)} {n:Nat} {c:Cls} {fs:List Fld} {d:Dat}
theorem kb:dK q (.list xs)=[q.1]:=rfl
theorem zf:dK q (.sdict ws xs)=[q.1]:=rfl
theorem FI:dK q (.idict ks)=[q.1]:=rfl
theorem ty:dK q (.spots n)=[q.1]:=rfl
theorem oz:dK q (.inst c fs xs)=[q.1,q.2]:=rfl
theorem Ma:dK q (.frz d)=[]:=rfl
end
noncomputable def cy:As→Mu→List Addr
  | q::as,m::mu=>dK q m++cy as mu
  | _,_=>[]
theorem vz {m:Mu}:cy [] m=[]:=rfl
theorem sO {q:Addr × Addr} {as:As} {m:MObj} {mu:Mu}:cy (q::as) (m::mu)=dK q m++cy as mu:=rfl
theorem DictOf.at1 {prog:Program} {w:World} {K:Type} [DecidableEq K] {knd:KeyKind prog w K} {h h':Heap} {a:Addr} {kvs:List (K × Value)} (x:h.DictOf knd a kvs) (hk:∀ o,h.get? a=some o→h'.get? a=some o):h'.DictOf knd a kvs :=
  let ⟨o,es,ep,ho,r⟩:=x; ⟨o,es,ep,hk o ho,r⟩
theorem MRel.mono {X:Amb} {h h':Heap} {p p':aw} {as as':As} {q:Addr × Addr} {m:MObj} (hp:Sub p p') (ha:as <+: as') (hk:∀ a ∈ dK q m,∀ o,h.get? a=some o→h'.get? a=some o)
    (r:MRel X h p as q m):MRel X h' p' as' q m:=by
  cases m with
  | list xs=>obtain ⟨vs,n,e,r⟩:=r; exact ⟨vs,n,hk _ (by simp [kb]) _ e,r.mono hp ha⟩
  | sdict ks xs=>obtain ⟨e0,kvs,e,k,r⟩:=r; exact ⟨e0,kvs,DictOf.at1 e fun o=>hk _ (by simp [zf]) o,k,r.mono hp ha⟩
  | idict ks=>obtain ⟨e0,kvs,e,k,r⟩:=r; exact ⟨e0,kvs,DictOf.at1 e fun o=>hk _ (by simp [FI]) o,k,r.mono hp⟩
  | spots b =>
    obtain ⟨e0,es,n,xs,e,e2,k,r⟩:=r
    exact ⟨e0,es,n,xs,hk _ (by simp [ty]) _ e,e2,fun x hx=>let ⟨⟨ob,a,b⟩,c⟩:=k x hx; ⟨⟨ob,hp _ _ a,b⟩,c⟩,r⟩
  | inst c fs xs=>obtain ⟨es,n,e,f,k,r⟩:=r; exact ⟨es,n,hk _ (by simp [oz]) _ e,hk _ (by simp [oz]) _ f,k,r.mono hp ha⟩
  | frz d=>exact DRel.mono (X:=X) hp r
theorem fH {as:As} {mu:Mu}:∀ {i:Nat} {q:Addr × Addr} {m:MObj},as[i]? = some q→mu[i]? = some m→∀ a ∈ dK q m,a ∈ cy as mu:=by
  induction as generalizing mu with
  | nil=>intro i q m e; exact nS e
  | cons x as ih =>
    intro i q m e f a ha
    cases mu with
    | nil=>exact nS f
    | cons y mu =>
      rw [sO]
      cases i with
      | zero=>simp only [List.getElem?_cons_zero,Option.some.injEq] at e f; subst e; subst f; exact List.mem_append_left _ ha
      | succ i=>exact List.mem_append_right _ (ih (by simpa using e) (by simpa using f) a ha)
theorem oB {bs:As} {nu:Mu}:∀ {as:As} {mu:Mu},as.length=mu.length→cy (as++bs) (mu++nu)=cy as mu++cy bs nu
  | [],[],_=>by simp [vz]
  | _::as,_::mu,e=>by
    have:=oB (bs:=bs) (nu:=nu) (as:=as) (mu:=mu) (by simpa using e)
    simp only [List.cons_append,sO,this,List.append_assoc]
  | [],_::_,e=>by simp at e
  | _::_,[],e=>by simp at e
set_option genCtorIdx false in
set_option genInjectivity false in
structure Fm where
  env:Env
  own:List Addr
  names:List Str
  wr:List Str
  fz:List Str
noncomputable def Rd (h:Heap) (env:Env) (m:Str→Option Value) (x:Str) (u:Value):Prop :=
  (env.kindOf x=some .local∧m x=some u)∨((env.kindOf x=some .cell∨env.kindOf x=some .free)∧∃ c,env.cells.lookup x=some c∧h.IsCell c (some u))
noncomputable def pu (env:Env) (x:Str):Prop:=env.kindOf x=some .local∨env.kindOf x=some .cell∨env.kindOf x=some .free
structure FrOK (X:Amb) (h:Heap) (o p:aw) (as:As) (F:Fm) (loc:ae):Prop where
  kind:F.env.scope.kind=.function
  glob:F.env.globals=mainGlobals
  bltn:F.env.builtins=builtinsNs
  len:loc.length=F.names.length
  nodup:F.names.Nodup
  plain:∀ x ∈ F.names,(x == ("__debug__" : Str))=false∧(x == ("__classdict__" : Str))=false
  mine:F.env.locals ∈ F.own
  ns:∃ m,h.Ns F.env.locals m∧∀ (i:Nat) (x:Str) (v:Val),F.names[i]? = some x→loc[i]? = some (some v)→pu F.env x→∃ u,Rd h F.env m x u∧VRel X p as v u
  inj:∀ x y c,F.env.cells.lookup x=some c→F.env.cells.lookup y=some c→x=y
  apart:∀ x c,F.env.cells.lookup x=some c→c ≠ F.env.locals
  cell:∀ x c,F.env.cells.lookup x=some c→(∃ v,h.IsCell c v)∧(c ∈ F.own∨(p c).isSome∨(o c).isSome)
  wcell:∀ x ∈ F.wr,∃ c,F.env.kindOf x=some .cell∧F.env.cells.lookup x=some c∧c ∈ F.own
  fcell:∀ x ∈ F.fz,∀ c,F.env.cells.lookup x=some c→(p c).isSome=true
  lam:∀ x ∈ F.fz,F.env.code=.ref X.cd∧F.env.qual++("<lambda>" : Str)=X.lq
  has:∀ x,F.env.kindOf x=some .cell∨F.env.kindOf x=some .free→(F.env.cells.lookup x).isSome=true
noncomputable def TabOK (X:Amb) (p:aw) (ps:Array Value):Prop :=
  TriplesOk ps.toList∧∀ pos cv,codeAmong pos ps.toList=some cv→∃ c' oc vs tq,cv=.ref c'∧p c'=some oc∧oc.data=.fields vs∧vs[1]? = some (.str X.lq tq)
structure Out3 (p o:aw) (h:Heap) (a:Addr):Prop where
  n1:p a=none
  n2:o a=none
  x:∃ ob,h.get? a=some ob
structure Inv (X:Amb) (s₀:Shared) (o p:aw) (as:As) (mu:Mu) (F:Fm) (loc:ae) (s:Shared):Prop where
  sh:∃ tk,s={ s₀ with heap:=s.heap,toks:=tk }
  base:Sub X.H₀.get? p
  ple:Sub p s.heap.get?
  ole:Sub o s.heap.get?
  dj:∀ a,(p a).isSome→o a=none
  len:as.length=mu.length
  mus:∀ (i:Nat) (q:Addr × Addr) (m:MObj),as[i]? = some q→mu[i]? = some m→MRel X s.heap p as q m
  nodup:(X.tab::(F.own++cy as mu)).Nodup
  out:∀ a ∈ X.tab::(F.own++cy as mu),Out3 p o s.heap a
  fr:FrOK X s.heap o p as F loc
  tb:∃ ps,s.heap.get? X.tab=some (tabObj ps)∧TabOK X p ps
structure Rm (n:Nat) (A:Around):Prop where
  hand:A.handled=none
  depth:A.depth+4 * n+4 < recursionLimit
  units:A.units+100 * n+100 < cLine
structure Rc (n:Nat) (A:Around):Prop where
  hand:A.handled=none
  depth:A.depth+4 * n+2 < recursionLimit
  units:A.units+100 * n+50 < cLine
theorem Rm.rc {n:Nat} {A:Around} (h:Rm n A):Rc n A:=⟨h.hand,by have:=h.depth; omega,by have:=h.units; omega⟩
theorem Rc.rm {n:Nat} {A:Around} (h:Rc (n+1) A) (env:Env):Rm n (A.deeper env):=⟨h.hand,by have:=h.depth; show A.depth+1+4 * n+4 < _; omega,by have:=h.units; show A.units+3+100 * n+100 < _; omega⟩
theorem Rc.room {n:Nat} {A:Around} (h:Rc n A):A.depth < recursionLimit:=by have:=h.depth; omega
section
variable {X:Amb} {s₀ s:Shared} {o p:aw} {as:As} {mu:Mu} {F:Fm} {loc:ae}
theorem Rd.on {h h':Heap} {env:Env} {m:Str→Option Value} {x:Str} {u:Value} (r:Rd h env m x u) (k:∀ c,env.cells.lookup x=some c→∀ v,h.IsCell c v→h'.IsCell c v):Rd h' env m x u:=by
  rcases r with r | ⟨r,c,e,g⟩
  · exact .inl r
  · exact .inr ⟨r,c,e,k c e _ g⟩
theorem FrOK.on {h h':Heap} {p':aw} {as':As} (f:FrOK X h o p as F loc) (hp:Sub p p') (ha:as <+: as')
    (hk:∀ a,a ∈ F.own∨(p a).isSome∨(o a).isSome→∀ ob,h.get? a=some ob→h'.get? a=some ob):FrOK X h' o p' as' F loc where
  kind:=f.kind
  glob:=f.glob
  bltn:=f.bltn
  len:=f.len
  nodup:=f.nodup
  plain:=f.plain
  mine:=f.mine
  ns:=by
    obtain ⟨m,hn,hr⟩:=f.ns
    refine ⟨m,hn.at' fun ob e=>hk _ (.inl f.mine) ob e,fun i x v e1 e2 kn=>?_⟩
    obtain ⟨u,r,v'⟩:=hr i x v e1 e2 kn
    refine ⟨u,r.on fun c hc v hv=>?_,v'.mono hp ha⟩
    obtain ⟨ob,e,d⟩:=hv
    exact ⟨ob,hk c (f.cell _ c hc).2 ob e,d⟩
  inj:=f.inj
  apart:=f.apart
  cell:=fun x c hc=>by
    obtain ⟨⟨v,ob,e,d⟩,r⟩:=f.cell x c hc
    refine ⟨⟨v,ob,hk c r ob e,d⟩,r.imp_right fun r=>r.imp_left fun r=>?_⟩
    refine xe1 (Option.isSome_iff_exists.mp r) fun b hb=>?_
    rw [hp _ _ hb]; rfl
  wcell:=f.wcell
  fcell:=fun x hx c hc=>by
    refine xe1 (Option.isSome_iff_exists.mp (f.fcell x hx c hc)) fun b hb=>?_
    rw [hp _ _ hb]; rfl
  lam:=f.lam
  has:=f.has
theorem TabOK.mono {p p':aw} (hp:Sub p p') {ps:Array Value} (t:TabOK X p ps):TabOK X p' ps :=
  ⟨t.1,fun pos cv h=>let ⟨c',oc,vs,tq,e1,e2,r⟩:=t.2 pos cv h; ⟨c',oc,vs,tq,e1,hp _ _ e2,r⟩⟩
theorem Inv.tok (I:Inv X s₀ o p as mu F loc s) (t:Nat):Inv X s₀ o p as mu F loc { s with toks:=t } :=
  ⟨by obtain ⟨k,e⟩:=I.sh; exact ⟨t,by rw [e]⟩,I.base,I.ple,I.ole,I.dj,I.len,I.mus,I.nodup,I.out,I.fr,I.tb⟩
theorem Inv.keeps (I:Inv X s₀ o p as mu F loc s) {h':Heap} (hk:∀ a ob,s.heap.get? a=some ob→h'.get? a=some ob):Inv X s₀ o p as mu F loc { s with heap:=h' } where
  sh:=by obtain ⟨k,e⟩:=I.sh; exact ⟨k,by rw [e]⟩
  base:=I.base
  ple:=fun a ob e=>hk _ _ (I.ple a ob e)
  ole:=fun a ob e=>hk _ _ (I.ole a ob e)
  dj:=I.dj
  len:=I.len
  mus:=fun i q m e f=>(I.mus i q m e f).mono Sub.refl (List.prefix_refl _) fun a Z ob e=>hk a ob e
  nodup:=I.nodup
  out:=fun a ha=>by obtain ⟨a1,a2,ob,e⟩:=I.out a ha; exact ⟨a1,a2,ob,hk _ _ e⟩
  fr:=I.fr.on Sub.refl (List.prefix_refl _) fun a Z ob e=>hk a ob e
  tb:=let ⟨ps,e,t⟩:=I.tb; ⟨ps,hk _ _ e,t⟩
theorem Inv.push (I:Inv X s₀ o p as mu F loc s) (ob:Obj):Inv X s₀ o p as mu F loc { s with heap:=s.heap.push ob }:=I.keeps fun Z Z e=>Heap.get?_push_of_some _ e
theorem Inv.fresh_p (I:Inv X s₀ o p as mu F loc s):p s.heap.objs.size=none:=by
  cases q:p s.heap.objs.size with
  | none=>rfl
  | some ob=>exact absurd (Heap.lt_size (I.ple _ _ q)) (Nat.lt_irrefl _)
theorem Inv.fresh_o (I:Inv X s₀ o p as mu F loc s):o s.heap.objs.size=none:=by
  cases q:o s.heap.objs.size with
  | none=>rfl
  | some ob=>exact absurd (Heap.lt_size (I.ole _ _ q)) (Nat.lt_irrefl _)
theorem Inv.fresh_own (I:Inv X s₀ o p as mu F loc s):s.heap.objs.size ∉ X.tab::(F.own++cy as mu):=fun h=>by
  obtain ⟨_,_,ob,e⟩:=I.out _ h
  exact absurd (Heap.lt_size e) (Nat.lt_irrefl _)
theorem Inv.fresh_of (I:Inv X s₀ o p as mu F loc s) {a:Addr} (ha:s.heap.objs.size≤a):p a=none∧o a=none∧a ∉ X.tab::(F.own++cy as mu):=by
  refine ⟨?_,?_,fun h=>?_⟩
  · cases q:p a with
    | none=>rfl
    | some ob=>exact absurd (Heap.lt_size (I.ple _ _ q)) (Nat.not_lt.mpr ha)
  · cases q:o a with
    | none=>rfl
    | some ob=>exact absurd (Heap.lt_size (I.ole _ _ q)) (Nat.not_lt.mpr ha)
  · obtain ⟨_,_,ob,e⟩:=I.out _ h
    exact absurd (Heap.lt_size e) (Nat.not_lt.mpr ha)
theorem Inv.toP (I:Inv X s₀ o p as mu F loc s) {a:Addr} {ob:Obj} (e:s.heap.get? a=some ob) (h1:p a=none) (h2:o a=none) (h3:a ∉ X.tab::(F.own++cy as mu)):Inv X s₀ o (put1 p a ob) as mu F loc s where
  sh:=I.sh
  base:=I.base.trans (Sub.put1 h1)
  ple:=fun b x f=>by
    by_cases hb:b=a
    · subst hb; rw [cb] at f; (replace f:=iS f; subst f); exact e
    · rw [eY hb] at f; exact I.ple _ _ f
  ole:=I.ole
  dj:=fun b f=>by
    by_cases hb:b=a
    · rw [hb]; exact h2
    · rw [eY hb] at f; exact I.dj _ f
  len:=I.len
  mus:=fun i q m e f=>(I.mus i q m e f).mono (Sub.put1 h1) (List.prefix_refl _) fun Z Z Z e=>e
  nodup:=I.nodup
  out:=fun b hb=>by
    obtain ⟨a1,a2,r⟩:=I.out b hb
    exact ⟨by rw [eY (fun q:b=a=>h3 (q ▸ hb))]; exact a1,a2,r⟩
  fr:=I.fr.on (Sub.put1 h1) (List.prefix_refl _) fun Z Z Z e=>e
  tb:=let ⟨ps,e,t⟩:=I.tb; ⟨ps,e,t.mono (Sub.put1 h1)⟩
theorem Inv.pushP (I:Inv X s₀ o p as mu F loc s) (ob:Obj) (hf:ob.isFreed=false):Inv X s₀ o (put1 p s.heap.objs.size ob) as mu F loc { s with heap:=s.heap.push ob } :=
  (I.push ob).toP (Heap.get?_push_size _ hf) I.fresh_p I.fresh_o I.fresh_own
theorem Inv.toM (I:Inv X s₀ o p as mu F loc s) {q:Addr × Addr} {m:MObj} (hm:MRel X s.heap p (as++[q]) q m) (hn:(dK q m).Nodup) (h3:∀ a ∈ dK q m,a ∉ X.tab::(F.own++cy as mu))
    (h1:∀ a ∈ dK q m,Out3 p o s.heap a):Inv X s₀ o p (as++[q]) (mu++[m]) F loc s:=by
  have ow:cy (as++[q]) (mu++[m])=cy as mu++dK q m:=by rw [oB I.len]; simp [vz,sO]
  refine ⟨I.sh,I.base,I.ple,I.ole,I.dj,by simp [I.len],fun i r n e f=>?_,?_,fun a ha=>?_,I.fr.on Sub.refl (List.prefix_append _ _) fun Z Z Z e=>e,I.tb⟩
  · by_cases hi:i < as.length
    · rw [List.getElem?_append_left hi] at e
      rw [List.getElem?_append_left (by rw [← I.len]; exact hi)] at f
      exact (I.mus i r n e f).mono Sub.refl (List.prefix_append _ _) fun Z Z Z e=>e
    · have:i=as.length:=by have:=(List.getElem?_eq_some_iff.mp e).1; simp at this; exact ne hi this
      subst this
      rw [List.getElem?_concat_length] at e
      rw [I.len,List.getElem?_concat_length] at f
      (replace e:=iS e; subst e); (replace f:=iS f; subst f); exact hm
  · rw [ow,← List.append_assoc,← List.cons_append]
    exact List.nodup_append.mpr ⟨I.nodup,hn,fun a ha b hb q=>h3 b hb (q ▸ ha)⟩
  · rw [ow,← List.append_assoc,← List.cons_append] at ha
    rcases List.mem_append.mp ha with ha | ha
    · exact I.out a ha
    · exact h1 a ha
theorem Inv.pushM (I:Inv X s₀ o p as mu F loc s) (ob:Obj) (hf:ob.isFreed=false) {m:MObj} (ho:dK (s.heap.objs.size,0) m=[s.heap.objs.size])
    (hm:MRel X (s.heap.push ob) p (as++[(s.heap.objs.size,0)]) (s.heap.objs.size,0) m):Inv X s₀ o p (as++[(s.heap.objs.size,0)]) (mu++[m]) F loc { s with heap:=s.heap.push ob }:=by
  refine (I.push ob).toM hm (by rw [ho]; simp) (fun a ha=>?_) fun a ha=>?_
  · rw [ho,List.mem_singleton] at ha; subst ha; exact I.fresh_own
  · rw [ho,List.mem_singleton] at ha; subst ha; exact ⟨I.fresh_p,I.fresh_o,_,Heap.get?_push_size _ hf⟩
theorem sH {as:As} {mu:Mu}:∀ {i:Nat} {q:Addr × Addr} {m m':MObj},as[i]? = some q→mu[i]? = some m→dK q m'=dK q m→cy as (mu.set i m')=cy as mu:=by
  induction as generalizing mu with
  | nil=>intro i q m m' e; exact nS e
  | cons x as ih =>
    intro i q m m' e f g
    cases mu with
    | nil=>exact nS f
    | cons y mu =>
      cases i with
      | zero=>simp only [List.getElem?_cons_zero,Option.some.injEq] at e f; subst e; subst f; simp only [List.set_cons_zero,sO,g]
      | succ i=>simp only [List.set_cons_succ,sO]; rw [ih (by simpa using e) (by simpa using f) g]
theorem wT {as:As} {mu:Mu}:∀ {i j:Nat} {q r:Addr × Addr} {m n:MObj},as[i]? = some q→mu[i]? = some m→as[j]? = some r→mu[j]? = some n→(cy as mu).Nodup→i ≠ j→∀ a ∈ dK q m,a ∉ dK r n:=by
  induction as generalizing mu with
  | nil=>intro i j q r m n e; exact nS e
  | cons x as ih =>
    intro i j q r m n e f g h nd hij a ha hb
    cases mu with
    | nil=>exact nS f
    | cons y mu =>
      rw [sO] at nd
      refine gF (List.nodup_append.mp nd) fun n1 n2 n3=>?_
      cases i with
      | zero =>
        cases j with
        | zero=>exact hij rfl
        | succ j =>
          simp only [List.getElem?_cons_zero,Option.some.injEq] at e f; subst e; subst f
          exact n3 a ha a (fH (by simpa using g) (by simpa using h) a hb) rfl
      | succ i =>
        cases j with
        | zero =>
          simp only [List.getElem?_cons_zero,Option.some.injEq] at g h; subst g; subst h
          exact n3 a hb a (fH (by simpa using e) (by simpa using f) a ha) rfl
        | succ j=>exact ih (by simpa using e) (by simpa using f) (by simpa using g) (by simpa using h) n2 (fun q=>hij (by rw [q])) a ha hb
theorem Inv.nd_owns (I:Inv X s₀ o p as mu F loc s):(cy as mu).Nodup:=(List.nodup_append.mp (List.nodup_cons.mp I.nodup).2).2.1
theorem Inv.own_owns (I:Inv X s₀ o p as mu F loc s) {a:Addr} (h:a ∈ F.own):a ∉ cy as mu:=fun k=>(List.nodup_append.mp (List.nodup_cons.mp I.nodup).2).2.2 a h a k rfl
theorem Inv.tab_own (I:Inv X s₀ o p as mu F loc s):X.tab ∉ F.own:=fun k=>(List.nodup_cons.mp I.nodup).1 (List.mem_append_left _ k)
theorem Inv.tab_owns (I:Inv X s₀ o p as mu F loc s):X.tab ∉ cy as mu:=fun k=>(List.nodup_cons.mp I.nodup).1 (List.mem_append_right _ k)
theorem Inv.upd (I:Inv X s₀ o p as mu F loc s) {i:Nat} {q:Addr × Addr} {m m':MObj} (e:as[i]? = some q) (f:mu[i]? = some m) (ho:dK q m'=dK q m) {a:Addr} (ha:a ∈ dK q m) {h':Heap}
    (hs:Heap.SameBut a s.heap h') (hl:∃ ob,h'.get? a=some ob) (hm:MRel X h' p as q m'):Inv X s₀ o p as (mu.set i m') F loc { s with heap:=h' }:=by
  have mo:a ∈ cy as mu:=fH e f a ha
  have ma:a ∈ X.tab::(F.own++cy as mu):=List.mem_cons_of_mem _ (List.mem_append_right _ mo)
  obtain ⟨pa,oa,_⟩:=I.out a ma
  have keep:∀ b,b ≠ a→∀ ob,s.heap.get? b=some ob→h'.get? b=some ob:=fun b hb ob x=>(hs.2 b hb).trans x
  refine ⟨by obtain ⟨k,x⟩:=I.sh; exact ⟨k,by rw [x]⟩,I.base,fun b ob x=>keep b (fun y=>by rw [y,pa] at x; exact nS x) ob (I.ple b ob x),fun b ob x=>keep b (fun y=>by rw [y,oa] at x; exact nS x) ob (I.ole b ob x),I.dj,by simp [I.len],fun j r n g k=>?_,?_,fun b hb=>?_,?_,?_⟩
  · by_cases hj:i=j
    · subst hj
      rw [List.getElem?_set_self (List.getElem?_eq_some_iff.mp f).1] at k
      rw [e] at g; (replace g:=iS g; subst g); (replace k:=iS k; subst k); exact hm
    · rw [List.getElem?_set_ne hj] at k
      refine (I.mus j r n g k).mono Sub.refl (List.prefix_refl _) fun b hb ob x=>keep b (fun y=>?_) ob x
      subst y
      exact wT e f g k I.nd_owns hj b ha hb
  · rw [sH e f ho]; exact I.nodup
  · rw [sH e f ho] at hb
    obtain ⟨b1,b2,ob,x⟩:=I.out b hb
    refine ⟨b1,b2,?_⟩
    by_cases y:b=a
    · subst y; exact hl
    · exact ⟨ob,keep b y ob x⟩
  · refine I.fr.on Sub.refl (List.prefix_refl _) fun b hb ob x=>keep b (fun y=>?_) ob x
    subst y
    rcases hb with hb | hb | hb
    · exact I.own_owns hb mo
    · rw [pa] at hb; cases hb
    · rw [oa] at hb; cases hb
  · obtain ⟨ps,x,t⟩:=I.tb
    exact ⟨ps,keep _ (fun y=>I.tab_owns (by rw [y]; exact mo)) _ x,t⟩
end
end Mine.Internal
namespace Mine.Internal
section
variable {X:Amb} {s₀ s:Shared} {o p:aw} {as:As} {mu:Mu} {F:Fm} {loc:ae}
theorem VRel.norm (I:Inv X s₀ o p as mu F loc s) {v:Val} {u:Value} (r:VRel X p as v u):VRel X p as (norm mu v) u:=by
  cases v with
  | r k =>
    show VRel X p as (((mu[k]?).bind oF).elim (.r k) .d) u
    cases h:(mu[k]?).bind oF with
    | some d =>
      have hd:=Hv h
      obtain ⟨q,e,rfl⟩:=r
      exact I.mus k q _ e hd
    | none=>exact r
  | d x=>exact r
  | clo k=>exact r
theorem VRels.get {xs:List Val}:∀ {vs:List Value},VRels X p as xs vs→xs.length=vs.length∧∀ (i:Nat) (x:Val),xs[i]? = some x→∃ u,vs[i]? = some u∧VRel X p as x u:=by
  induction xs with
  | nil=>intro vs r; cases r; exact ⟨rfl,fun i x e=>by simp at e⟩
  | cons y ys ih =>
    intro vs r
    obtain ⟨v,r',rfl,a,b⟩:=r
    obtain ⟨l,g⟩:=ih b
    refine ⟨by simp [l],fun i x e=>?_⟩
    cases i with
    | zero=>simp only [List.getElem?_cons_zero,Option.some.injEq] at e; subst e; exact ⟨v,rfl,a⟩
    | succ i=>exact g i x (by simpa using e)
theorem DRels.get {xs:List Dat}:∀ {vs:List Value},DRels X p xs vs→xs.length=vs.length∧∀ (i:Nat) (x:Dat),xs[i]? = some x→∃ u,vs[i]? = some u∧DRel X p x u:=by
  induction xs with
  | nil=>intro vs r; rw [ds0] at r; subst r; exact ⟨rfl,fun i x e=>by simp at e⟩
  | cons y ys ih =>
    intro vs r
    rw [kj] at r
    obtain ⟨v,r',rfl,a,b⟩:=r
    obtain ⟨l,g⟩:=ih b
    refine ⟨by simp [l],fun i x e=>?_⟩
    cases i with
    | zero=>simp only [List.getElem?_cons_zero,Option.some.injEq] at e; subst e; exact ⟨v,rfl,a⟩
    | succ i=>exact g i x (by simpa using e)
theorem VRels.ofD:∀ {xs:List Dat} {vs:List Value},DRels X p xs vs→VRels X p as (xs.map .d) vs
  | [],_,r=>by rw [ds0] at r; subst r; rfl
  | _::_,_,r=>by rw [kj] at r; obtain ⟨v,r',e,a,b⟩:=r; exact ⟨v,r',e,a,VRels.ofD b⟩
theorem VRels.toD:∀ {vs:List Val} {ds:List Dat} {us:List Value},bE vs=some ds→VRels X p as vs us→DRels X p ds us
  | [],ds,us,e,r=>by (replace e:=iS e; subst e); rw [ds0]; exact r
  | .d x::vs,ds,us,e,r=>by
    rw [Gq] at e
    refine bN e fun ds' e' e2_=>?_
    clear e
    subst e2_
    obtain ⟨v,r',rfl,a,b⟩:=r
    rw [kj]
    exact ⟨v,r',rfl,a,VRels.toD e' b⟩
  | .r _::_,_,_,e,_=>by exact nS e
  | .clo _::_,_,_,e,_=>by exact nS e
theorem k9:∀ {vs:List Val} {ds:List Dat},bE vs=some ds→ds.length=vs.length
  | [],_,e=>by (replace e:=iS e; subst e); rfl
  | .d x::vs,ds,e=>by
    rw [Gq] at e
    refine bN e fun ds' e' e2_=>?_
    clear e
    subst e2_
    simp [k9 e']
  | .r _::_,_,e=>by exact nS e
  | .clo _::_,_,e=>by exact nS e
theorem VRels.length {xs:List Val} {vs:List Value} (r:VRels X p as xs vs):xs.length=vs.length:=r.get.1
theorem DRels.length {xs:List Dat} {vs:List Value} (r:DRels X p xs vs):xs.length=vs.length:=r.get.1
theorem VRels.append:∀ {xs ys:List Val} {us vs:List Value},VRels X p as xs us→VRels X p as ys vs→VRels X p as (xs++ys) (us++vs)
  | [],_,_,_,a,b=>by cases a; exact b
  | _::_,_,_,_,⟨v,r,e,a,a'⟩,b=>by subst e; exact ⟨v,_,rfl,a,a'.append b⟩
theorem VRels.snoc {xs:List Val} {us:List Value} {x:Val} {u:Value} (a:VRels X p as xs us) (b:VRel X p as x u):VRels X p as (xs++[x]) (us++[u]):=a.append ⟨u,[],rfl,b,rfl⟩
theorem DRels.append:∀ {xs ys:List Dat} {us vs:List Value},DRels X p xs us→DRels X p ys vs→DRels X p (xs++ys) (us++vs)
  | [],_,_,_,a,b=>by rw [ds0] at a; subst a; exact b
  | _::_,_,_,_,a,b=>by
    rw [kj] at a
    obtain ⟨v,r,e,a,a'⟩:=a
    subst e; rw [List.cons_append,kj]; exact ⟨v,_,rfl,a,a'.append b⟩
theorem VRels.set:∀ {xs:List Val} {us:List Value} {x:Val} {u:Value} (i:Nat),VRels X p as xs us→VRel X p as x u→VRels X p as (xs.set i x) (us.set i u)
  | [],_,_,_,_,a,b=>by cases a; exact rfl
  | _::_,_,x,u,0,⟨v,r,e,a,a'⟩,b=>by subst e; exact ⟨u,r,rfl,b,a'⟩
  | _::_,_,x,u,i+1,⟨v,r,e,a,a'⟩,b=>by subst e; exact ⟨v,_,rfl,a,a'.set i b⟩
theorem DRels.drop:∀ {xs:List Dat} {us:List Value} (k:Nat),DRels X p xs us→DRels X p (xs.drop k) (us.drop k)
  | _,_,0,a=>a
  | [],_,k+1,a=>by rw [ds0] at a; subst a; simp [ds0]
  | _::_,_,k+1,a=>by rw [kj] at a; obtain ⟨v,r,e,a,a'⟩:=a; subst e; exact DRels.drop k a'
theorem A9 {as:As} {mu:Mu}:∀ {i:Nat} {q:Addr × Addr} {m:MObj} {d:Dat},as[i]? = some q→mu[i]? = some m→(cy as mu).Nodup →
    (cy as (mu.set i (.frz d))).Sublist (cy as mu)∧∀ a ∈ dK q m,a ∉ cy as (mu.set i (.frz d)):=by
  induction as generalizing mu with
  | nil=>intro i q m d e; exact nS e
  | cons x as ih =>
    intro i q m d e f nd
    cases mu with
    | nil=>exact nS f
    | cons y mu =>
      rw [sO] at nd
      refine gF (List.nodup_append.mp nd) fun n1 n2 n3=>?_
      cases i with
      | zero =>
        simp only [List.getElem?_cons_zero,Option.some.injEq] at e f
        subst e; subst f
        simp only [List.set_cons_zero,vz,kb,List.nil_append]
        exact ⟨List.sublist_append_right _ _,fun a ha hb=>n3 a ha a hb rfl⟩
      | succ i =>
        obtain ⟨s1,s2⟩:=ih (d:=d) (by simpa using e) (by simpa using f) n2
        simp only [List.set_cons_succ,vz]
        refine ⟨List.Sublist.append_left s1 _,fun a ha hb=>?_⟩
        rcases List.mem_append.mp hb with hb | hb
        · exact n3 a hb a (fH (by simpa using e) (by simpa using f) a ha) rfl
        · exact s2 a ha hb
theorem Inv.frz1 (I:Inv X s₀ o p as mu F loc s) {i:Nat} {q:Addr × Addr} {m:MObj} {d:Dat} {p':aw} (e:as[i]? = some q) (f:mu[i]? = some m) (hp:Sub p p')
    (hp':∀ a ob,p' a=some ob→p a=some ob∨(a ∈ dK q m∧s.heap.get? a=some ob)) (hd:DRel X p' d (.ref q.1)):Inv X s₀ o p' as (mu.set i (.frz d)) F loc s:=by
  have mo:∀ a ∈ dK q m,a ∈ cy as mu:=fH e f
  refine aO (A9 (d:=d) e f I.nd_owns) fun s1 s2=>?_
  have sub:(X.tab::(F.own++cy as (mu.set i (.frz d)))).Sublist (X.tab::(F.own++cy as mu)):=(List.Sublist.append_left s1 _).cons_cons _
  refine ⟨I.sh,I.base.trans hp,fun a ob x=>?_,I.ole,fun a x=>?_,by simp [I.len],fun j r n g k=>?_,sub.nodup I.nodup,fun a ha=>?_,I.fr.on hp (List.prefix_refl _) fun Z Z Z e=>e,let ⟨ps,e,t⟩:=I.tb; ⟨ps,e,t.mono hp⟩⟩
  · rcases hp' a ob x with y | ⟨_,y⟩
    · exact I.ple _ _ y
    · exact y
  · refine xe1 (Option.isSome_iff_exists.mp x) fun ob x=>?_
    rcases hp' a ob x with y | ⟨y,_⟩
    · exact I.dj a (by rw [y]; rfl)
    · exact (I.out a (List.mem_cons_of_mem _ (List.mem_append_right _ (mo a y)))).2
  · by_cases hj:i=j
    · subst hj
      rw [List.getElem?_set_self (List.getElem?_eq_some_iff.mp f).1] at k
      rw [e] at g; (replace g:=iS g; subst g); (replace k:=iS k; subst k); exact hd
    · rw [List.getElem?_set_ne hj] at k
      exact (I.mus j r n g k).mono hp (List.prefix_refl _) fun Z Z Z e=>e
  · obtain ⟨a1,a2,a3⟩:=I.out a (sub.subset ha)
    refine ⟨?_,a2,a3⟩
    cases x:p' a with
    | none=>rfl
    | some ob =>
      rcases hp' a ob x with y | ⟨y,_⟩
      · rw [a1] at y; exact nS y
      · rcases List.mem_cons.mp ha with h | h
        · exact absurd (mo a y) (h ▸ I.tab_owns)
        · rcases List.mem_append.mp h with h | h
          · exact absurd (mo a y) (I.own_owns h)
          · exact absurd h (s2 a y)
theorem Inv.none_own (I:Inv X s₀ o p as mu F loc s) {i:Nat} {q:Addr × Addr} {m:MObj} (e:as[i]? = some q) (f:mu[i]? = some m):∀ a ∈ dK q m,p a=none:=fun a ha =>
  (I.out a (List.mem_cons_of_mem _ (List.mem_append_right _ (fH e f a ha)))).1
theorem r0 {n:Nat} {mu:Mu}:freeze.go n mu []=some ([],mu):=rfl
noncomputable def Cx (X:Amb) (s₀:Shared) (o:aw) (as:As) (F:Fm) (loc:ae) (s:Shared) (n:Nat):Prop:=∀ {v:Val} {mu mu':Mu} {d:Dat} {p:aw} {u:Value},freeze n mu v=some (d,mu')→Inv X s₀ o p as mu F loc s→VRel X p as v u →
    ∃ p',Sub p p'∧Inv X s₀ o p' as mu' F loc s∧DRel X p' d u
theorem nq {n:Nat} (ih:Cx X s₀ o as F loc s n):∀ {vs:List Val} {mu mu':Mu} {ds:List Dat} {p:aw} {us:List Value},freeze.go n mu vs=some (ds,mu')→Inv X s₀ o p as mu F loc s→VRels X p as vs us →
    ∃ p',Sub p p'∧Inv X s₀ o p' as mu' F loc s∧DRels X p' ds us:=by
  intro vs
  induction vs with
  | nil =>
    intro mu mu' ds p us e I r
    rw [r0] at e; (refine dy e fun h1_ h2_=>?_; subst h1_; subst h2_)
    exact ⟨p,Sub.refl,I,by rw [ds0]; exact r⟩
  | cons v vs ihv =>
    intro mu mu' ds p us e I r
    rw [AI] at e
    refine bK e fun x m1 e1 e2=>?_
    clear e
    refine bK e2 fun xs m2 e3 e4=>?_
    clear e2
    (refine dy e4 fun h1_ h2_=>?_; rw [← h1_]; subst h2_)
    obtain ⟨u,us',rfl,a,b⟩:=r
    obtain ⟨p1,s1,I1,r1⟩:=ih e1 I a
    obtain ⟨p2,s2,I2,r2⟩:=ihv e3 I1 (b.mono s1 (List.prefix_refl _))
    exact ⟨p2,s1.trans s2,I2,by rw [kj]; exact ⟨u,us',rfl,r1.mono s2,r2⟩⟩
theorem rM (n:Nat):Cx X s₀ o as F loc s n:=by
  induction n with
  | zero=>intro v mu mu' d p u e I r; rw [HB] at e; exact nS e
  | succ n ih =>
    intro v mu mu' d p u e I r
    cases v with
    | d x=>have e:some (x,mu)=some (d,mu'):=e; (refine dy e fun h1_ h2_=>?_; rw [← h1_]; rw [← h2_]); exact ⟨p,Sub.refl,I,r⟩
    | clo k=>exact nS (show none=some (d,mu') from e)
    | r i =>
      obtain ⟨q,hq,rfl⟩:=r
      refine xe1 (bP (x:=mu[i]?) (f:=fun ob=>tC (pj (freeze n)) i mu ob) e) fun ob r_=>aO r_ fun hd e=>?_
      cases ob with
      | frz d' =>
        have e:(if d'.isB=true then none else some (d',mu))=some (d,mu'):=e
        split at e
        · exact nS e
        (refine dy e fun h1_ h2_=>?_; rw [← h1_]; rw [← h2_])
        exact ⟨p,Sub.refl,I,I.mus i q _ hq hd⟩
      | spots b =>
        have e:some (_,_)=some (d,mu'):=e
        (refine dy e fun h1_ h2_=>?_; rw [← h1_]; rw [← h2_])
        obtain ⟨e0,es,m,xs,x1,x2,x3,x4,x5⟩:=I.mus i q _ hq hd
        have pn:=I.none_own hq hd q.1 (by simp [ty])
        refine ⟨put1 p q.1 (dictOf es m),Sub.put1 pn,I.frz1 hq hd (Sub.put1 pn) (fun a ob x=>?_) ?_,?_⟩
        · by_cases ha:a=q.1
          · subst ha; rw [cb] at x; (replace x:=iS x; subst x); exact .inr ⟨by simp [ty],x1⟩
          · rw [eY ha] at x; exact .inl x
        all_goals
          rw [IJ]
          exact ⟨q.1,es,m,rfl,e0,cb,by rw [x2,List.length_map]; exact x5⟩
      | list xs =>
        refine bK e fun ds m1 e1 e2=>?_
        clear e
        obtain ⟨vs,k,x1,x2⟩:=I.mus i q _ hq hd
        refine xe1 (nq ih e1 I x2) fun p1 r_=>gF r_ fun s1 I1 r1=>?_
        refine xe1 (gq (show ((m1[i]?).bind oL).map _=some (d,mu') from e2)) fun xs' r_=>aO r_ fun hd' e2=>?_
        replace hd':=kE hd'
        · (refine eR e2 fun h1_ h2_=>?_; rw [← h1_]; rw [← h2_])
          have pn:=I1.none_own hq hd' q.1 (by simp [kb])
          refine ⟨put1 p1 q.1 (listOf vs k),s1.trans (Sub.put1 pn),I1.frz1 hq hd' (Sub.put1 pn) (fun a ob x=>?_) ?_,?_⟩
          · by_cases ha:a=q.1
            · subst ha; rw [cb] at x; (replace x:=iS x; subst x); exact .inr ⟨by simp [kb],x1⟩
            · rw [eY ha] at x; exact .inl x
          all_goals
            rw [yK]
            exact ⟨q.1,vs,k,rfl,cb,r1.mono (Sub.put1 pn)⟩
      | inst c fs xs =>
        refine bK e fun ds m1 e1 e2=>?_
        clear e
        obtain ⟨es,k,x1,x2,x3,x4⟩:=I.mus i q _ hq hd
        refine xe1 (nq ih e1 I x4) fun p1 r_=>gF r_ fun s1 I1 r1=>?_
        refine xe1 (gq (show ((m1[i]?).bind oO).map _=some (d,mu') from e2)) fun q0_ r_=>aO r_ fun hd' e2=>?_
        obtain ⟨c',fs',xs'⟩:=q0_
        replace hd':=xf hd'
        · (refine eR e2 fun h1_ h2_=>?_; rw [← h1_]; rw [← h2_])
          have pn:=I1.none_own hq hd' q.1 (by simp [oz])
          have pn2:=I1.none_own hq hd' q.2 (by simp [oz])
          have ne:q.2 ≠ q.1:=fun y=>by rw [y,x1] at x2; cases x2
          have S:Sub p1 (put1 (put1 p1 q.1 (instObj (X.cls c) q.2)) q.2 (dictOf es k)):=(Sub.put1 pn).trans (Sub.put1 (by rw [eY ne]; exact pn2))
          have g1:put1 (put1 p1 q.1 (instObj (X.cls c) q.2)) q.2 (dictOf es k) q.1=some (instObj (X.cls c) q.2):=by rw [eY ne.symm,cb]
          refine ⟨_,s1.trans S,I1.frz1 hq hd' S (fun a ob x=>?_) ?_,?_⟩
          · by_cases ha:a=q.2
            · subst ha; rw [cb] at x; (replace x:=iS x; subst x); exact .inr ⟨by simp [oz],x2⟩
            · rw [eY ha] at x
              by_cases hb:a=q.1
              · subst hb; rw [cb] at x; (replace x:=iS x; subst x); exact .inr ⟨by simp [oz],x1⟩
              · rw [eY hb] at x; exact .inl x
          all_goals
            rw [Iy]
            exact ⟨q.1,q.2,es,k,rfl,g1,cb,x3,r1.mono S⟩
      | sdict _ _=>exact nS (show none=some (d,mu') from e)
      | idict _=>exact nS (show none=some (d,mu') from e)
end
end Mine.Internal
namespace Mine.Internal
section
variable {X:Amb} {s₀ s:Shared} {o p:aw} {as:As} {mu:Mu} {F:Fm} {loc:ae} {M:Model} {A:Around} {E:Value→Shared→Prop}
theorem rr {x:Str} {i:Nat} (h:F.names[i]? = some x):x ∈ F.names:=List.mem_of_getElem? h
theorem uM {i:Nat} {x:Str} {v:Val} {Q:Value→Shared→Prop} (I:Inv X s₀ o p as mu F loc s) (hx:F.names[i]? = some x) (kn:pu F.env x) (hl:loc[i]? = some (some v))
    (h:∀ u,VRel X p as v u→Q u s):wpAny M A (loadName F.env x) Q E s:=by
  obtain ⟨m,hn,hr⟩:=I.fr.ns
  obtain ⟨u,r,vr⟩:=hr i x v hx hl kn
  have pl:=I.fr.plain x (rr hx)
  rcases r with ⟨k,hm⟩ | ⟨k | k,c,hc,hv⟩
  · exact wpAny_loadName_local I.fr.kind k hn hm (h u vr)
  · exact wpAny_loadName_cell I.fr.kind k hc hv (h u vr)
  · exact wpAny_loadName_free I.fr.kind k hc hv (h u vr) pl.2
theorem uT {i:Nat} {x:Str} {pos:Pos} {v:Val} {Q:Value→Shared→Prop} (I:Inv X s₀ o p as mu F loc s) (hx:F.names[i]? = some x) (kn:pu F.env x) (hl:look loc mu i=some v)
    (h:∀ u,VRel X p as v u→Q u s):wpAny M A (eval (.Name x pos) F.env) Q E s:=by
  refine bh hl fun o' hv hl=>?_
  refine bN hl fun v' e1_ e2_=>?_
  clear hl
  subst e1_
  subst e2_
  exact wpAny_Name (uM I hx kn hv fun u r=>h u (r.norm I)) (I.fr.plain x (rr hx)).1
theorem Inv.frame (I:Inv X s₀ o p as mu F loc s) {a:Addr} (ha:a ∈ F.own) {h':Heap} (hs:Heap.SameBut a s.heap h') (hl:∃ ob,h'.get? a=some ob) {loc':ae} (f:FrOK X h' o p as F loc') :
    Inv X s₀ o p as mu F loc' { s with heap:=h' }:=by
  have ma:a ∈ X.tab::(F.own++cy as mu):=List.mem_cons_of_mem _ (List.mem_append_left _ ha)
  obtain ⟨pa,oa,_⟩:=I.out a ma
  have keep:∀ b,b ≠ a→∀ ob,s.heap.get? b=some ob→h'.get? b=some ob:=fun b hb ob x=>(hs.2 b hb).trans x
  refine ⟨by obtain ⟨k,x⟩:=I.sh; exact ⟨k,by rw [x]⟩,I.base,fun b ob x=>keep b (fun y=>by rw [y,pa] at x; exact nS x) ob (I.ple b ob x),fun b ob x=>keep b (fun y=>by rw [y,oa] at x; exact nS x) ob (I.ole b ob x),I.dj,I.len,fun j r n g k=>?_,I.nodup,fun b hb=>?_,f,?_⟩
  · refine (I.mus j r n g k).mono Sub.refl (List.prefix_refl _) fun b hb ob x=>keep b (fun y=>?_) ob x
    subst y
    exact I.own_owns ha (fH g k b hb)
  · obtain ⟨b1,b2,ob,x⟩:=I.out b hb
    refine ⟨b1,b2,?_⟩
    by_cases y:b=a
    · rw [y]; exact hl
    · exact ⟨ob,keep b y ob x⟩
  · obtain ⟨ps,x,t⟩:=I.tb
    exact ⟨ps,keep _ (fun y=>I.tab_own (by rw [y]; exact ha)) _ x,t⟩
theorem zT {l:List Str} (h:l.Nodup) {i j:Nat} {x:Str} (a:l[i]? = some x) (b:l[j]? = some x):i=j:=by
  refine xe1 (List.getElem?_eq_some_iff.mp a) fun h1 e1=>?_
  refine xe1 (List.getElem?_eq_some_iff.mp b) fun h2 e2=>?_
  exact (List.getElem_inj h).mp (e1.trans e2.symm)
theorem jZ {i:Nat} {x:Str} {v:Val} {u:Value} {Q:Unit→Shared→Prop} (I:Inv X s₀ o p as mu F loc s) (hx:F.names[i]? = some x) (kn:F.env.kindOf x=some .local∨x ∈ F.wr) (vr:VRel X p as v u)
    (h:∀ s',Inv X s₀ o p as mu F (loc.set i (some v)) s'→Q () s'):wpAny M A (storeName F.env x u) Q E s:=by
  obtain ⟨m,hn,hr⟩:=I.fr.ns
  have hi:i < F.names.length:=(List.getElem?_eq_some_iff.mp hx).1
  have hi':i < loc.length:=by rw [I.fr.len]; exact hi
  have other:∀ {j:Nat} {y:Str},F.names[j]? = some y→j ≠ i→y ≠ x:=fun hj hn e=>hn (zT I.fr.nodup hj (e ▸ hx))
  by_cases kl:F.env.kindOf x=some .local
  · refine wpAny_storeName_local kl hn (fun h' hn' hs=>h _ (((I.frame I.fr.mine hs ?_ ?_).tok _))) (by rw [I.fr.kind]; rfl)
    · obtain ⟨ob,_,_,e,_⟩:=hn'; exact ⟨ob,e⟩
    · have hcell:∀ {c:Addr} {z:Str} {v:Option Value},F.env.cells.lookup z=some c→s.heap.IsCell c v→h'.IsCell c v:=fun hc ⟨ob,e,d⟩=>⟨ob,(hs.2 _ (I.fr.apart _ _ hc)).trans e,d⟩
      refine ⟨I.fr.kind,I.fr.glob,I.fr.bltn,by simp [I.fr.len],I.fr.nodup,I.fr.plain,I.fr.mine,⟨_,hn',fun j y w hj hl kn'=>?_⟩,I.fr.inj,I.fr.apart,fun z c hc=>?_,I.fr.wcell,I.fr.fcell,I.fr.lam,I.fr.has⟩
      · by_cases hji:j=i
        · subst hji
          rw [List.getElem?_set_self hi'] at hl
          cases hl
          rw [hx] at hj; (replace hj:=iS hj; subst hj)
          exact ⟨u,.inl ⟨kl,if_pos rfl⟩,vr⟩
        · rw [List.getElem?_set_ne (Ne.symm hji)] at hl
          obtain ⟨w',r,vr'⟩:=hr j y w hj hl kn'
          refine ⟨w',?_,vr'⟩
          rcases r with ⟨k,hm⟩ | ⟨k,c,hc,hv⟩
          · exact .inl ⟨k,(if_neg (other hj hji)).trans hm⟩
          · exact .inr ⟨k,c,hc,hcell hc hv⟩
      · obtain ⟨⟨w,hw⟩,r⟩:=I.fr.cell z c hc
        exact ⟨⟨w,hcell hc hw⟩,r⟩
  · obtain ⟨c,kc,hc,co⟩:=I.fr.wcell x (kn.resolve_left kl)
    obtain ⟨⟨w,hw⟩,_⟩:=I.fr.cell x c hc
    refine wpAny_storeName_cell I.fr.kind kc hc hw fun h' hv hs=>h _ (I.frame co hs ?_ ?_)
    · obtain ⟨ob,e,_⟩:=hv; exact ⟨ob,e⟩
    · refine ⟨I.fr.kind,I.fr.glob,I.fr.bltn,by simp [I.fr.len],I.fr.nodup,I.fr.plain,I.fr.mine,⟨m,hn.sameBut hs (Ne.symm (I.fr.apart _ _ hc)),fun j y w' hj hl kn'=>?_⟩,I.fr.inj,I.fr.apart,fun z c' hc'=>?_,I.fr.wcell,I.fr.fcell,I.fr.lam,I.fr.has⟩
      · by_cases hji:j=i
        · subst hji
          rw [List.getElem?_set_self hi'] at hl
          cases hl
          rw [hx] at hj; (replace hj:=iS hj; subst hj)
          exact ⟨u,.inr ⟨.inl kc,c,hc,hv⟩,vr⟩
        · rw [List.getElem?_set_ne (Ne.symm hji)] at hl
          obtain ⟨w'',r,vr'⟩:=hr j y w' hj hl kn'
          refine ⟨w'',?_,vr'⟩
          rcases r with ⟨k,hm⟩ | ⟨k,c',hc',ob,e,d⟩
          · exact .inl ⟨k,hm⟩
          · exact .inr ⟨k,c',hc',ob,(hs.2 c' fun q=>other hj hji (I.fr.inj _ _ _ hc' (by rw [q]; exact hc))).trans e,d⟩
      · obtain ⟨⟨w',ob,e,d⟩,r⟩:=I.fr.cell z c' hc'
        refine ⟨?_,r⟩
        by_cases q:c'=c
        · rw [q]; exact ⟨_,hv⟩
        · exact ⟨w',ob,(hs.2 c' q).trans e,d⟩
end
end Mine.Internal
namespace Mine.Internal
theorem j9 {α β:Type} {f g:α→Option β}:∀ {l:List α},(∀ x ∈ l,f x=g x)→l.filterMap f=l.filterMap g
  | [],_=>rfl
  | x::l,h=>by rw [List.filterMap_cons,List.filterMap_cons,h x (.head _),j9 fun y hy=>h y (.tail _ hy)]
theorem wI {names:List Str}:∀ {vals:List Value},names.Nodup→names.length=vals.length→names.filterMap (fun n=>((names.zip vals).lookup n).map (n,·))=names.zip vals:=by
  induction names with
  | nil=>intro vals Z Z; cases vals <;> rfl
  | cons x xs ih =>
    intro vals nd e
    cases vals with
    | nil=>simp at e
    | cons v vs =>
      refine aO (List.nodup_cons.mp nd) fun n1 n2=>?_
      have h:=ih n2 (by simpa using e)
      simp only [List.zip_cons_cons,List.filterMap_cons,List.lookup_cons,beq_self_eq_true,Option.map_some]
      congr 1
      refine Eq.trans (j9 fun y hy=>?_) h
      have:(y == x)=false:=beq_eq_false_iff_ne.mpr fun q=>n1 (q ▸ hy)
      rw [this]
theorem qh {names:List Str}:∀ {vals:List Value},names.length=vals.length→∀ n ∈ names,((names.zip vals).lookup n).isNone=false:=by
  induction names with
  | nil=>intro vals Z n h; cases h
  | cons x xs ih =>
    intro vals e n hn
    cases vals with
    | nil=>simp at e
    | cons v vs =>
      simp only [List.zip_cons_cons,List.lookup_cons]
      cases hb:n == x with
      | true=>rfl
      | false =>
        rcases List.mem_cons.mp hn with q | hn
        · rw [q] at hb; simp at hb
        · exact ih (by simpa using e) n hn
theorem rn {fd:FuncData} {vals:List Value} {names:List Str} (hn:fd.params.args.map (·.arg)=names) (h1:fd.params.posonlyargs=[]) (h2:fd.params.kwonlyargs=[]) (h3:fd.params.vararg=none) (h4:fd.params.kwarg=none) (hd:fd.defaults=.none)
    (nd:names.Nodup) (hl:names.length=vals.length):bindArgs fd ⟨vals,[]⟩=pure (names.zip vals):=by
  unfold bindArgs
  have hm:∀ k,List.filter (fun n=>((names.zip vals).lookup n).isNone) (names.take k)=[]:=fun k=>List.filter_eq_nil_iff.mpr fun n h=>by rw [qh hl n (List.mem_of_mem_take h)]; decide
  have hs:seqItems? Value.none=pure none:=rfl
  simp only [h1,h2,h3,h4,hd,hn,hs,List.map_nil,List.nil_append,List.append_nil,pure_bind,Option.getD_none]
  simp [hl,hm,wI nd hl]
end Mine.Internal
namespace Mine.Internal
structure FnOK (X:Amb) (d:FDef) (a:Addr) (fd:FuncData) (body:List Stmt):Prop where
  at_:∃ ob,X.H₀.get? a=some ob∧ob.data=.func fd
  body:fd.body=.stmts body
  glob:fd.globals=mainGlobals
  bltn:fd.builtins=builtinsNs
  clos:fd.closure=[]
  code:X.H₀.CodeRec fd.code fd.qualname
  kind:fd.scope.kind=.function
  co:fd.scope.isCoroutine=false
  gen:fd.scope.isGenerator=false
  kinds:∀ x ∈ d.args,fd.scope.names.lookup x=some .local∨fd.scope.names.lookup x=some .cell
  wr:∀ x ∈ d.wr.map Str.ofString,fd.scope.names.lookup x=some .cell∧x ∉ d.fz.map Str.ofString
  lam:∀ x ∈ d.fz.map Str.ofString,fd.code=.ref X.cd∧(fd.qualname ++ ".<locals>.")++("<lambda>" : Str)=X.lq
  nofree:∀ x ∈ fd.scope.names,x.2 ≠ .free
  cnd:((cellsFrom 0 fd.scope.names []).map (·.1)).Nodup
  nodup:d.strs.Nodup
  plain:∀ x ∈ d.strs,(x == ("__debug__" : Str))=false∧(x == ("__classdict__" : Str))=false
  pars:d.params≤d.names.length
  bind:∀ (s:Shared) (vals:List Value),(∀ a o,X.H₀.get? a=some o→s.heap.get? a=some o)→vals.length≤d.params→d.params - vals.length≤d.dflts.length →
    ∃ us,DRels X X.H₀.get? (d.dflts.drop (d.dflts.length - (d.params - vals.length))) us∧BindsTo s fd ⟨vals,[]⟩ (d.args.zip (vals++us))
theorem oA {kindOf:Str→Option NameKind}:∀ {l:List (Str × Value)} {m:Str→Option Value} {x:Str},x ∉ l.map (·.1)→bindL kindOf l m x=m x
  | [],_,_,_=>rfl
  | (n,v)::r,m,x,h=>by
    unfold bindL
    rw [oA fun k=>h (List.mem_cons_of_mem _ k)]
    have:x ≠ n:=fun e=>h (e ▸ List.mem_cons_self)
    split
    · exact if_neg this
    · rfl
theorem ot {kindOf:Str→Option NameKind}:∀ {l:List (Str × Value)} {m:Str→Option Value} {x:Str},x ∉ l.map (·.1)→bindC kindOf l m x=m x
  | [],_,_,_=>rfl
  | (n,v)::r,m,x,h=>by
    unfold bindC
    rw [ot fun k=>h (List.mem_cons_of_mem _ k)]
    have:x ≠ n:=fun e=>h (e ▸ List.mem_cons_self)
    split
    · rfl
    · exact if_neg this
theorem oK {kindOf:Str→Option NameKind}:∀ {l:List (Str × Value)} {m:Str→Option Value} {x:Str} {u:Value},(l.map (·.1)).Nodup→(x,u) ∈ l→kindOf x=some .local→bindL kindOf l m x=some u
  | (n,v)::r,m,x,u,nd,h,k=>by
    refine aO (List.nodup_cons.mp nd) fun n1 n2=>?_
    unfold bindL
    rcases List.mem_cons.mp h with e | h
    · (refine eR e fun h1_ h2_=>?_; subst h1_; subst h2_)
      rw [oA n1,if_pos k]
      exact if_pos rfl
    · exact oK n2 h k
theorem oV {kindOf:Str→Option NameKind}:∀ {l:List (Str × Value)} {m:Str→Option Value} {x:Str} {u:Value},(l.map (·.1)).Nodup→(x,u) ∈ l→¬ kindOf x=some .local→bindC kindOf l m x=some u
  | (n,v)::r,m,x,u,nd,h,k=>by
    refine aO (List.nodup_cons.mp nd) fun n1 n2=>?_
    unfold bindC
    rcases List.mem_cons.mp h with e | h
    · (refine eR e fun h1_ h2_=>?_; subst h1_; subst h2_)
      rw [ot n1,if_neg k]
      exact if_pos rfl
    · exact oV n2 h k
section
variable {X:Amb} {s₀ s:Shared} {o p:aw} {as:As} {mu:Mu} {F:Fm} {loc:ae}
noncomputable def c8 (o:aw) (own:List Addr) (h:Heap):aw:=fun a=>if a ∈ own then h.get? a else o a
theorem dx {o:aw} {own:List Addr} {h:Heap} {a:Addr} (k:a ∈ own):c8 o own h a=h.get? a:=if_pos k
theorem ch {o:aw} {own:List Addr} {h:Heap} {a:Addr} (k:a ∉ own):c8 o own h a=o a:=if_neg k
theorem Inv.leave {o' p'':aw} {as'':As} {mu'':Mu} {F':Fm} {loc'':ae} {s'':Shared} (I0:Inv X s₀ o p as mu F loc s) (I1:Inv X s₀ (c8 o F.own s.heap) p'' as'' mu'' F' loc'' s'')
    (hp:Sub p p'') (ha:as <+: as''):Inv X s₀ o p'' as'' mu'' F loc s'':=by
  have own:∀ a ∈ F.own,∃ ob,s.heap.get? a=some ob∧c8 o F.own s.heap a=some ob∧p'' a=none∧o a=none∧s''.heap.get? a=some ob:=fun a h=>by
    obtain ⟨_,a2,ob,e⟩:=I0.out a (List.mem_cons_of_mem _ (List.mem_append_left _ h))
    have k:c8 o F.own s.heap a=some ob:=(dx h).trans e
    refine ⟨ob,e,k,?_,a2,I1.ole _ _ k⟩
    cases q:p'' a with
    | none=>rfl
    | some ob'=>have:=I1.dj a (by rw [q]; rfl); rw [k] at this; exact nS this.symm
  have o_held:∀ a ob,o a=some ob→c8 o F.own s.heap a=some ob:=fun a ob e=>by
    by_cases h:a ∈ F.own
    · obtain ⟨_,_,_,_,z,_⟩:=own a h; rw [z] at e; exact nS e
    · exact (ch h).trans e
  refine ⟨I1.sh,I1.base,I1.ple,fun a ob e=>I1.ole a ob (o_held a ob e),fun a h=>?_,I1.len,I1.mus,?_,fun a h=>?_,I0.fr.on hp ha fun a h ob e=>?_,I1.tb⟩
  · cases q:o a with
    | none=>rfl
    | some ob=>have:=I1.dj a h; rw [o_held a ob q] at this; exact nS this.symm
  · have n1:=List.nodup_cons.mp I1.nodup
    refine List.nodup_cons.mpr ⟨fun h=>?_,List.nodup_append.mpr ⟨(List.nodup_append.mp (List.nodup_cons.mp I0.nodup).2).1,I1.nd_owns,fun a h b h' q=>?_⟩⟩
    · rcases List.mem_append.mp h with h | h
      · exact I0.tab_own h
      · exact I1.tab_owns h
    · subst q
      obtain ⟨_,_,k,_⟩:=own a h
      have:=(I1.out a (List.mem_cons_of_mem _ (List.mem_append_right _ h'))).2
      rw [k] at this; exact nS this.symm
  · rcases List.mem_cons.mp h with h | h
    · subst h
      obtain ⟨a1,a2,a3⟩:=I1.out X.tab (.head _)
      exact ⟨a1,by rw [ch I0.tab_own] at a2; exact a2,a3⟩
    · rcases List.mem_append.mp h with h | h
      · obtain ⟨ob,_,_,a1,a2,a3⟩:=own a h
        exact ⟨a1,a2,ob,a3⟩
      · obtain ⟨a1,a2,a3⟩:=I1.out a (List.mem_cons_of_mem _ (List.mem_append_right _ h))
        refine ⟨a1,?_,a3⟩
        cases q:o a with
        | none=>rfl
        | some ob=>rw [o_held a ob q] at a2; exact nS a2.symm
  · rcases h with h | h | h
    · obtain ⟨ob',e',_,_,_,z⟩:=own a h
      rw [e] at e'; (replace e':=iS e'; rw [e']); exact z
    · refine xe1 (Option.isSome_iff_exists.mp h) fun ob' q=>?_
      have:=I0.ple _ _ q
      rw [e] at this; (replace this:=iS this; subst this)
      exact I1.ple _ _ (hp _ _ q)
    · refine xe1 (Option.isSome_iff_exists.mp h) fun ob' q=>?_
      have:=I0.ole _ _ q
      rw [e] at this; (replace this:=iS this; subst this)
      exact I1.ole _ _ (o_held _ _ q)
theorem Inv.leave_fr {o' p'':aw} {as'':As} {mu'':Mu} {F':Fm} {loc'':ae} {s'':Shared} (I0:Inv X s₀ o p as mu F loc s) (I1:Inv X s₀ (c8 o F.own s.heap) p'' as'' mu'' F' loc'' s'')
    (hp:Sub p p''):FrOK X s''.heap o p'' as F loc:=by
  refine I0.fr.on hp (List.prefix_refl _) fun a h ob e=>?_
  by_cases ho:a ∈ F.own
  · exact I1.ole _ _ ((dx ho).trans e)
  · rcases h with h | h | h
    · exact absurd h ho
    · refine xe1 (Option.isSome_iff_exists.mp h) fun ob' q=>?_
      have:=I0.ple _ _ q
      rw [e] at this; (replace this:=iS this; subst this)
      exact I1.ple _ _ (hp _ _ q)
    · refine xe1 (Option.isSome_iff_exists.mp h) fun ob' q=>?_
      have:=I0.ole _ _ q
      rw [e] at this; (replace this:=iS this; subst this)
      exact I1.ole _ _ ((ch ho).trans q)
theorem VRel.cut {as'':As} (ha:as <+: as'') {v:Val} {u:Value} (h:v.okB as.length=true) (r:VRel X p as'' v u):VRel X p as v u:=by
  cases v with
  | d x=>exact r
  | clo k=>exact r
  | r i =>
    obtain ⟨q,e,rfl⟩:=r
    have:i < as.length:=of_decide_eq_true h
    obtain ⟨t,rfl⟩:=ha
    rw [List.getElem?_append_left this] at e
    exact ⟨q,e,rfl⟩
theorem VRels.cut {as'':As} (ha:as <+: as''):∀ {vs:List Val} {us:List Value},vs.all (Val.okB as.length)=true→VRels X p as'' vs us→VRels X p as vs us
  | [],_,_,r=>r
  | v::vs,_,h,⟨u,r,e,a,b⟩=>by
    rw [List.all_cons,Bool.and_eq_true] at h
    exact ⟨u,r,e,a.cut ha h.1,b.cut ha h.2⟩
theorem xR {as as'':As} {mu:Mu}:as <+: as''→as.length≤mu.length→(cy as (mu.take as.length)).Sublist (cy as'' mu):=by
  induction as generalizing as'' mu with
  | nil=>intro Z Z; simp [vz]
  | cons q as ih =>
    intro h k
    obtain ⟨t,rfl⟩:=h
    cases mu with
    | nil=>simp at k
    | cons m mu =>
      simp only [List.length_cons,List.take_succ_cons,vz,List.cons_append]
      exact List.Sublist.append_left (ih (List.prefix_append _ _) (by simpa using k)) _
theorem Inv.cut {as'':As} {mu'':Mu} (I:Inv X s₀ o p as'' mu'' F loc s) (I0:FrOK X s.heap o p as F loc) (ha:as <+: as'') (h:(mu''.take as.length).all (MObj.okB as.length)=true) :
    Inv X s₀ o p as (mu''.take as.length) F loc s:=by
  have hle:as.length≤mu''.length:=by rw [← I.len]; exact ha.length_le
  have sub:(X.tab::(F.own++cy as (mu''.take as.length))).Sublist (X.tab::(F.own++cy as'' mu'')):=(List.Sublist.append_left (xR ha hle) _).cons_cons _
  refine ⟨I.sh,I.base,I.ple,I.ole,I.dj,by rw [List.length_take]; omega,fun i q m e f=>?_,sub.nodup I.nodup,fun a k=>I.out a (sub.subset k),I0,I.tb⟩
  have hi:i < as.length:=(List.getElem?_eq_some_iff.mp e).1
  have ok:m.okB as.length=true:=List.all_eq_true.mp h m (List.mem_of_getElem? f)
  rw [List.getElem?_take_of_lt hi] at f
  have r:=I.mus i q m (pZ ha e) f
  cases m with
  | list xs=>obtain ⟨vs,n,a,b⟩:=r; exact ⟨vs,n,a,b.cut ha ok⟩
  | sdict ks xs=>obtain ⟨a0,kvs,a,b,c⟩:=r; exact ⟨a0,kvs,a,b,c.cut ha ok⟩
  | idict ks=>exact r
  | spots b=>exact r
  | inst c fs xs=>obtain ⟨es,n,a,b,c,d⟩:=r; exact ⟨es,n,a,b,c,d.cut ha ok⟩
  | frz d=>exact r
end
end Mine.Internal
namespace Mine.Internal
section
variable {X:Amb} {s₀ s:Shared} {o p:aw} {as:As} {mu:Mu} {F:Fm} {loc:ae}
theorem oU {α β:Type}:∀ {l:List α} {m:List β},l.length≤m.length→(l.zip m).map (·.1)=l
  | [],_,_=>rfl
  | x::l,[],h=>by simp at h
  | x::l,y::m,h=>by simp [oU (l:=l) (m:=m) (by simpa using h)]
theorem um {α β:Type}:∀ {l:List α} {m:List β} {i:Nat} {x:α} {y:β},l[i]? = some x→m[i]? = some y→(x,y) ∈ l.zip m
  | a::l,b::m,0,x,y,e,f=>by simp at e f; subst e; subst f; simp
  | a::l,b::m,i+1,x,y,e,f=>List.mem_cons_of_mem _ (um (by simpa using e) (by simpa using f))
  | [],_,_,_,_,e,_=>by simp at e
  | _::_,[],_,_,_,_,f=>by simp at f
noncomputable def gc (fz:List Str) (cells:List (Str × Addr)):List Addr:=(cells.filter fun c=>decide (c.1 ∈ fz)).map (·.2)
noncomputable def pB (fz:List Str) (cells:List (Str × Addr)):List Addr:=(cells.filter fun c=>decide (c.1 ∉ fz)).map (·.2)
theorem ml {fz:List Str} {cells:List (Str × Addr)} {y:Str} {c:Addr} (h:(y,c) ∈ cells) (k:y ∈ fz):c ∈ gc fz cells:=List.mem_map.mpr ⟨(y,c),List.mem_filter.mpr ⟨h,decide_eq_true k⟩,rfl⟩
theorem kD {fz:List Str} {cells:List (Str × Addr)} {y:Str} {c:Addr} (h:(y,c) ∈ cells) (k:y ∉ fz):c ∈ pB fz cells:=List.mem_map.mpr ⟨(y,c),List.mem_filter.mpr ⟨h,decide_eq_true k⟩,rfl⟩
noncomputable def zL (p:aw) (l:List Addr) (h:Heap):aw:=fun a=>if a ∈ l then h.get? a else p a
theorem Bl {prog:Program} {w:World} {A:Around} {R:Result→Shared→Prop} {d:FDef} {a:Addr} {fd:FuncData} {body:List Stmt} {vs:List Val} {us:List Value}
    (hX:X.H₀.NoLimit) (K:FnOK X d a fd body) (hr:A.depth < recursionLimit) (I:Inv X s₀ o p as mu F loc s) (hv:VRels X p as vs us) (h1:vs.length≤d.params) (h2:d.params - vs.length≤d.dflts.length)
    (h:∀ F' p' s',F'.names=d.strs→F'.env.scope=fd.scope→F'.wr=d.wr.map Str.ofString→F'.fz=d.fz.map Str.ofString→F'.env.code=fd.code→Sub p p' →
      Inv X s₀ (c8 o F.own s.heap) p' as mu F' ((vs++((d.dflts.drop (d.dflts.length - (d.params - vs.length))).map Val.d)).map some++List.replicate (d.names.length - d.params) none) s' →
      wpAny (model prog w) (A.deeper F'.env) (execs body F'.env) (fun f s''=>R (.ok (.ret (match f with | .ret v=>v | _=>.none))) s'') (fun Z Z=>False) s') :
    codeAny (model prog w) A (.call (.ref a) ⟨us,[]⟩) R s:=by
  obtain ⟨ob,ho,hdat⟩:=K.at_
  have keep:∀ b ob,X.H₀.get? b=some ob→s.heap.get? b=some ob:=fun b ob e=>I.ple _ _ (I.base _ _ e)
  have lu:=hv.length
  obtain ⟨ds,hds,hb⟩:=K.bind s us keep (by exact yN h1 lu) (by exact Ic h2 lu)
  have hargs:VRels X p as (vs++((d.dflts.drop (d.dflts.length - (d.params - vs.length))).map Val.d)) (us++ds):=by
    rw [lu]; exact hv.append (VRels.ofD (hds.mono I.base))
  have lds:(d.dflts.drop (d.dflts.length - (d.params - us.length))).length=ds.length:=hds.length
  have la:(us++ds).length=d.params:=by rw [List.length_append,← lds,List.length_drop]; exact IG h1 h2 lu
  have lar:d.args.length=d.params:=by unfold FDef.args FDef.strs; rw [List.length_take,List.length_map]; exact Nat.min_eq_left K.pars
  have ndA:d.args.Nodup:=(List.take_sublist _ _).nodup K.nodup
  have keys:(d.args.zip (us++ds)).map (·.1)=d.args:=oU (by omega)
  have hkind:∀ x ∈ d.args.zip (us++ds),fd.scope.names.lookup x.1=some .local∨(fd.scope.names.lookup x.1=some .cell∧((cellsFrom (s.heap.objs.size+1) fd.scope.names []).lookup x.1).isSome=true):=fun x hx=>by
    have:x.1 ∈ d.args:=by rw [← keys]; exact List.mem_map_of_mem hx
    rcases K.kinds _ this with k | k
    · exact .inl k
    · exact .inr ⟨k,cellsFrom_some _ _ _ (.inl k)⟩
  refine codeAny_call_function hr (keep _ _ ho) hdat K.co K.gen K.body (K.code.keeps keep) (hb _ _ _ _ ?_)
  rw [K.clos]
  refine wpAny_newFunctionEnv_cells K.kind hkind fun env he s' x=>?_
  have hk₁:=x.toInCall.keep
  refine ⟨hX.keeps fun b ob e=>hk₁ b ob (keep b ob e),codeAny_func ?_⟩
  obtain ⟨h₁,tk,rfl,_⟩:=x.done
  have cnd:(env.cells.map (·.1)).Nodup:=by
    rw [he]
    exact cellsFrom_names fd.scope.names 0 (s.heap.objs.size+1) [] [] rfl ▸ K.cnd
  have esc:env.scope=fd.scope:=by rw [he]; rfl
  have eL:env.locals=s.heap.objs.size:=by rw [he]; rfl
  have eC:env.code=fd.code:=by rw [he]; rfl
  have eQ:env.qual=fd.qualname ++ ".<locals>." := by rw [he]; rfl
  have eG:env.globals=mainGlobals:=by rw [he]; exact K.glob
  have eB:env.builtins=builtinsNs:=by rw [he]; exact K.bltn
  have ec:env.cells=cellsFrom (s.heap.objs.size+1) fd.scope.names []:=by rw [he]; rfl
  have lk:∀ {n:Str} {c:Addr},(n,c) ∈ env.cells→env.cells.lookup n=some c:=fun hm=>lookup_of_mem_nodup cnd hm
  have ab:=x.above
  rw [eL] at ab
  have cAt:∀ {n:Str} {c:Addr},(n,c) ∈ env.cells→h₁.IsCell c (bindC env.kindOf (d.args.zip (us++ds)) (fun Z=>none) n):=fun hm=>x.cell _ _ (lk hm)
  let fz:=d.fz.map Str.ofString
  have mfz:∀ {c:Addr},c ∈ gc fz env.cells→∃ n,(n,c) ∈ env.cells∧n ∈ fz:=fun hc=>by
    refine xe1 (List.mem_map.mp hc) fun q r_=>aO r_ fun hq e2_=>?_
    subst e2_
    have:=List.mem_filter.mp hq
    exact ⟨q.1,this.1,of_decide_eq_true this.2⟩
  have mno:∀ {c:Addr},c ∈ pB fz env.cells→∃ n,(n,c) ∈ env.cells∧n ∉ fz:=fun hc=>by
    refine xe1 (List.mem_map.mp hc) fun q r_=>aO r_ fun hq e2_=>?_
    subst e2_
    have:=List.mem_filter.mp hq
    exact ⟨q.1,this.1,of_decide_eq_true this.2⟩
  have up:∀ {c:Addr},s.heap.objs.size≤c→p c=none∧c8 o F.own s.heap c=none∧c ∉ X.tab::(F.own++cy as mu):=fun hc=>by
    obtain ⟨a1,a2,a3⟩:=I.fresh_of hc
    exact ⟨a1,by rw [ch fun k=>a3 (List.mem_cons_of_mem _ (List.mem_append_left _ k))]; exact a2,a3⟩
  have cUp:∀ {n:Str} {c:Addr},(n,c) ∈ env.cells→s.heap.objs.size≤c:=fun hm=>Nat.le_of_lt (ab _ _ hm)
  let p':=zL p (gc fz env.cells) h₁
  have hp:Sub p p':=fun c ob e=>by
    show (if c ∈ gc fz env.cells then _ else _)=_
    rw [if_neg fun k=>by obtain ⟨n,hm,_⟩:=mfz k; rw [(up (cUp hm)).1] at e; cases e]; exact e
  have held_lt:∀ {c:Addr} {ob:Obj},c8 o F.own s.heap c=some ob→s.heap.get? c=some ob:=fun {c ob} e=>by
    by_cases k:c ∈ F.own
    · rw [dx k] at e; exact e
    · rw [ch k] at e; exact I.ole _ _ e
  have apartN:∀ {n n':Str} {c:Addr},(n,c) ∈ env.cells→(n',c) ∈ env.cells→n=n':=fun a b=>name_of_addr x.apart a b
  let F':Fm:=⟨env,s.heap.objs.size::pB fz env.cells,d.strs,d.wr.map Str.ofString,fz⟩
  have own_up:∀ c ∈ F'.own,s.heap.objs.size≤c:=fun c hc=>by
    rcases List.mem_cons.mp hc with rfl | hc
    · exact Nat.le_refl _
    · obtain ⟨n,hm,_⟩:=mno hc; exact cUp hm
  have pdis:∀ c ∈ F'.own,p' c=none:=fun c hc=>by
    show (if c ∈ gc fz env.cells then _ else _)=_
    rw [if_neg fun k=>?_]
    · exact (up (own_up c hc)).1
    · obtain ⟨n,hm,hn⟩:=mfz k
      rcases List.mem_cons.mp hc with rfl | hc
      · exact absurd (ab _ _ hm) (Nat.lt_irrefl _)
      · obtain ⟨n',hm',hn'⟩:=mno hc
        exact hn' (apartN hm hm' ▸ hn)
  refine wpAny_mono (h F' p' _ rfl esc rfl rfl eC hp ⟨?_,I.base.trans hp,fun c ob e=>?_,fun c ob e=>hk₁ _ _ (held_lt e),fun c e=>?_,I.len,fun i q m e f=>(I.mus i q m e f).mono hp (List.prefix_refl _) fun c Z ob e=>hk₁ c ob e,?_,fun c hc=>?_,?_,?_⟩) (fun Z Z z=>z) (fun Z Z z=>z.elim)
  · obtain ⟨tk₀,e⟩:=I.sh
    exact ⟨tk,by rw [e]⟩
  · have e:(if c ∈ gc fz env.cells then h₁.get? c else p c)=some ob:=e
    split at e
    · exact e
    · exact hk₁ _ _ (I.ple _ _ e)
  · refine xe1 (Option.isSome_iff_exists.mp e) fun ob e=>?_
    have e:(if c ∈ gc fz env.cells then h₁.get? c else p c)=some ob:=e
    split at e
    · rename_i k; obtain ⟨n,hm,_⟩:=mfz k; exact (up (cUp hm)).2.1
    · have z:=I.dj c (by rw [e]; rfl)
      by_cases k:c ∈ F.own
      · have:=(I.out c (List.mem_cons_of_mem _ (List.mem_append_left _ k))).1
        rw [e] at this; exact nS this.symm
      · rw [ch k]; exact z
  · refine List.nodup_cons.mpr ⟨fun k=>?_,List.nodup_append.mpr ⟨List.nodup_cons.mpr ⟨fun k=>?_,?_⟩,I.nd_owns,fun c k c' k' q=>?_⟩⟩
    · rcases List.mem_append.mp k with k | k
      · exact (up (own_up _ k)).2.2 (.head _)
      · exact I.tab_owns k
    · obtain ⟨n,hm,_⟩:=mno k
      exact absurd (ab _ _ hm) (Nat.lt_irrefl _)
    · have:=x.apart
      refine List.Pairwise.map _ (fun Z Z h=>h) (List.Pairwise.filter _ ?_)
      exact this
    · subst q
      exact (up (own_up _ k)).2.2 (List.mem_cons_of_mem _ (List.mem_append_right _ k'))
  · rcases List.mem_cons.mp hc with rfl | hc
    · obtain ⟨a1,a2,ob,a3⟩:=I.out X.tab (.head _)
      refine ⟨?_,by rw [ch I.tab_own]; exact a2,ob,hk₁ _ _ a3⟩
      show (if X.tab ∈ gc fz env.cells then _ else _)=_
      rw [if_neg fun k=>?_]
      · exact a1
      · obtain ⟨n,hm,_⟩:=mfz k; exact (up (cUp hm)).2.2 (.head _)
    · rcases List.mem_append.mp hc with hc | hc
      · refine ⟨pdis c hc,(up (own_up c hc)).2.1,?_⟩
        rcases List.mem_cons.mp hc with rfl | hc
        · have:=x.toInCall.ns
          rw [eL] at this
          obtain ⟨ob,_,_,e,_⟩:=this
          exact ⟨ob,e⟩
        · obtain ⟨n,hm,_⟩:=mno hc
          obtain ⟨ob,e,_⟩:=cAt hm
          exact ⟨ob,e⟩
      · obtain ⟨a1,a2,ob,a3⟩:=I.out c (List.mem_cons_of_mem _ (List.mem_append_right _ hc))
        refine ⟨?_,by rw [ch fun k=>I.own_owns k hc]; exact a2,ob,hk₁ _ _ a3⟩
        show (if c ∈ gc fz env.cells then _ else _)=_
        rw [if_neg fun k=>?_]
        · exact a1
        · obtain ⟨n,hm,_⟩:=mfz k; exact (up (cUp hm)).2.2 (List.mem_cons_of_mem _ (List.mem_append_right _ hc))
  · refine ⟨by rw [show F'.env.scope=fd.scope from esc]; exact K.kind,eG,eB,?_,K.nodup,K.plain,by show env.locals ∈ _; rw [eL]; exact .head _,⟨_,x.toInCall.ns,fun i y v hi hl kn=>?_⟩,fun y z c hy hz=>apartN (mem_of_lookup hy) (mem_of_lookup hz),fun y c hy=>?_,fun y c hy=>?_,fun y hy=>?_,fun y hy c hc=>?_,fun y hy=>?_,fun y hy=>?_⟩
    · have:=hargs.length
      simp only [List.length_append,List.length_map,List.length_replicate] at this ⊢
      rw [List.length_append] at la
      show _=d.strs.length
      unfold FDef.strs
      rw [List.length_map]
      have:=K.pars
      omega
    · have hL:(vs++((d.dflts.drop (d.dflts.length - (d.params - vs.length))).map Val.d)).length=d.params:=by rw [hargs.length]; exact la
      have hi':i < d.params:=by
        by_cases k:i < d.params
        · exact k
        · rw [List.getElem?_append_right (by rw [List.length_map,hL]; exact GO k)] at hl
          simp only [List.getElem?_replicate] at hl
          split at hl <;> cases hl
      rw [List.getElem?_append_left (by rw [List.length_map,hL]; exact hi'),List.getElem?_map] at hl
      refine bN hl fun v' hv' e'=>?_
      cases e'
      obtain ⟨u,hu,vr⟩:=hargs.get.2 i v hv'
      have ha:d.args[i]? = some y:=by unfold FDef.args; rw [List.getElem?_take_of_lt hi']; exact hi
      have hm:(y,u) ∈ d.args.zip (us++ds):=um ha hu
      refine ⟨u,?_,vr.mono hp (List.prefix_refl _)⟩
      have nd2:((d.args.zip (us++ds)).map (·.1)).Nodup:=by rw [keys]; exact ndA
      by_cases k:env.kindOf y=some .local
      · exact .inl ⟨k,oK nd2 hm k⟩
      · rcases hkind _ hm with q | ⟨q,z⟩
        · exact absurd (show env.kindOf y=some .local by unfold Env.kindOf; rw [esc]; exact q) k
        · have q':env.kindOf y=some .cell:=by unfold Env.kindOf; rw [esc]; exact q
          refine xe1 (Option.isSome_iff_exists.mp z) fun c hc=>?_
          have hc:env.cells.lookup y=some c:=by rw [ec]; exact hc
          exact .inr ⟨.inl q',c,hc,by have:=cAt (mem_of_lookup hc); rw [oV nd2 hm k] at this; exact this⟩
    · show c ≠ env.locals
      rw [eL]; exact Nat.ne_of_gt (ab _ _ (mem_of_lookup hy))
    · refine ⟨⟨_,cAt (mem_of_lookup hy)⟩,?_⟩
      by_cases k:y ∈ fz
      · refine .inr (.inl ?_)
        obtain ⟨ob,e,_⟩:=cAt (mem_of_lookup hy)
        show (if c ∈ gc fz env.cells then _ else _:Option Obj).isSome=true
        rw [if_pos (ml (mem_of_lookup hy) k),e]; rfl
      · exact .inl (List.mem_cons_of_mem _ (kD (mem_of_lookup hy) k))
    · obtain ⟨q,nf⟩:=K.wr y hy
      have z:(env.cells.lookup y).isSome=true:=by rw [ec]; exact cellsFrom_some _ _ _ (.inl q)
      refine xe1 (Option.isSome_iff_exists.mp z) fun c hc=>?_
      exact ⟨c,by unfold Env.kindOf; rw [show F'.env.scope=fd.scope from esc]; exact q,hc,List.mem_cons_of_mem _ (kD (mem_of_lookup hc) nf)⟩
    · obtain ⟨ob,e,_⟩:=cAt (mem_of_lookup hc)
      show (if c ∈ gc fz env.cells then _ else _:Option Obj).isSome=true
      rw [if_pos (ml (mem_of_lookup hc) hy),e]; rfl
    · obtain ⟨q1,q2⟩:=K.lam y hy
      exact ⟨(show env.code=_ from eC).trans q1,by rw [show F'.env.qual=_ from eQ]; exact q2⟩
    · have hy':fd.scope.names.lookup y=some .cell∨fd.scope.names.lookup y=some .free:=by unfold Env.kindOf at hy; rw [show F'.env.scope=fd.scope from esc] at hy; exact hy
      rcases hy' with q | q
      · rw [show F'.env.cells=_ from ec]; exact cellsFrom_some _ _ _ (.inl q)
      · exact absurd rfl (K.nofree _ (mem_of_lookup q))
  · obtain ⟨ps,e,t⟩:=I.tb
    exact ⟨ps,hk₁ _ _ e,t.mono hp⟩
end
end Mine.Internal
namespace Mine.Internal
noncomputable def Fn.nm:Fn→String
  | .retargeted => "retargeted" | .copied => "copied" | .operandsOf => "operands_of" | .withOperands => "with_operands" | .isSmall => "is_small" | .movedPlace => "moved_place" | .movedOperand => "moved_operand"
  | .movedOperands => "moved_operands" | .movedRvalue => "moved_rvalue" | .movedStatement => "moved_statement" | .movedTerminator => "moved_terminator" | .calledKey => "called_key" | .inlined => "inlined"
  | .pool => "_law_pool" | .take => "_law_take" | .one => "_law_one" | .value => "_law_value" | .set => "_law_set" | .do_ => "_law_do" | .run => "_law_run" | .place => "_law_place" | .number => "_law_number"
  | .small => "_law_small" | .middle => "_law_middle" | .mainL => "_law_main" | .calls => "_law_calls" | .told => "_law_told" | .law => "law"
  | .put => "put" | .tellSpots => "tell_spots" | .putBlock => "put_block" | .initBody | .initCaller => "__init__"
noncomputable def Fn.isTop:Fn→Bool
  | .put | .tellSpots | .putBlock | .initBody | .initCaller=>false
  | _=>true
noncomputable def Fn.isMeth:Fn→Bool
  | .put | .tellSpots | .putBlock=>true
  | _=>false
noncomputable def Cls.nm:Cls→String
  | .body => "Body" | .caller => "Caller"
noncomputable def Bi.nm:Bi→String
  | .len => "len" | .max => "max" | .int => "int" | .sum => "sum" | .tuple => "tuple" | .dict => "dict" | .range => "range"
noncomputable def Bi.val:Bi→Value
  | .len=>.builtin "len" | .max=>.builtin "max" | .sum=>.builtin "sum" | .int=>.type "int" | .tuple=>.type "tuple" | .dict=>.type "dict" | .range=>.type "range"
noncomputable def Bop.op:Bop→Operator
  | .add=>.Add | .sub=>.Sub | .mul=>.Mult | .fdiv=>.FloorDiv | .mod=>.Mod | .pow=>.Pow | .xor=>.BitXor
noncomputable def Cop.op:Cop→CmpOp
  | .eq=>.Eq | .ne=>.NotEq | .lt=>.Lt | .gt=>.Gt | .ge=>.GtE | .le=>.LtE | .in_=>.In | .notIn=>.NotIn
noncomputable abbrev Kd:=Str→Option NameKind
noncomputable def KN (kd:Kd) (x:Str):Prop:=kd x=some .local∨kd x=some .cell∨kd x=some .free
noncomputable abbrev Gl (kd:Kd) (x:String):Prop:=kd (Str.ofString x)=some .globalImplicit
noncomputable abbrev cS (x:Expr):Prop:=(x.ctorIdx == 16)=false
noncomputable abbrev gJ (x:Expr):Prop:=(x.ctorIdx == 26)=false
noncomputable abbrev bI (x:Expr):Prop:=(x.ctorIdx == 22)=false
noncomputable abbrev qx (x:Expr):Prop:=(x.ctorIdx == 8 || x.ctorIdx == 9 || x.ctorIdx == 10)=false
noncomputable abbrev tf (x:Expr):Prop:=(x.ctorIdx == 25)=false
noncomputable abbrev ke (x:Expr):Prop:=(x.ctorIdx == 7)=false
theorem iP {P:Prop} (h:true=false):P:=(Bool.noConfusion h)
noncomputable def cz (sc:Scope):Kd:=fun x=>sc.names.lookup x
noncomputable def MtTs (names:List Str) (ok:Str→Prop):List Nat→List Expr→Prop
  | [],l=>l=[]
  | i::is,l=>∃ x pos r,l=.Name x pos::r∧names[i]? = some x∧ok x∧MtTs names ok is r
noncomputable def MtT (names:List Str) (ok:Str→Prop):List Nat→Expr→Prop
  | [i],e=>∃ x pos,e=.Name x pos∧names[i]? = some x∧ok x
  | is,e=>∃ l k pos,e=.Tuple l k pos∧MtTs names ok is l
noncomputable def gR:List W→List (Option Expr)→Prop
  | [],l=>l=[]
  | w::ws,l=>∃ k pos r,l=some (.Constant (.str w.str) k pos)::r∧gR ws r
structure CompSc (sc:Scope) (kd:Kd) (names:List Str) (ts:List Nat):Prop where
  loc:∀ q ∈ names.zipIdx,sc.names.lookup q.1=some .local→q.2 ∈ ts
  kind:sc.kind=.function
  cell:∀ x ∈ sc.names,x.2 ≠ .cell
  one:∀ x ∈ sc.names,sc.names.lookup x.1=some x.2
  free:∀ x ∈ sc.names,x.2=.free→kd x.1=some .cell∨kd x.1=some .free
mutual
noncomputable def Mt (names:List Str):List Str→Kd→CE→Expr→Prop
  | fz,kd,.any,_=>True
  | fz,kd,.loc i,X=>∀ G:Expr→Prop,(∀ x pos,names[i]? = some x→KN kd x→G (.Name x pos))→G X
  | fz,kd,.byte,X=>∀ G:Expr→Prop,(∀ pos,Gl kd "_law_byte" → G (.Name (Str.ofString "_law_byte") pos))→G X
  | fz,kd,.int i,X=>∀ G:Expr→Prop,(∀ k pos,G (.Constant (.int i) k pos))→G X
  | fz,kd,.str w,X=>∀ G:Expr→Prop,(∀ s k pos,w.str=s→G (.Constant (.str s) k pos))→G X
  | fz,kd,.bool b,X=>∀ G:Expr→Prop,(∀ k pos,G (.Constant (.bool b) k pos))→G X
  | fz,kd,.none,X=>∀ G:Expr→Prop,(∀ k pos,G (.Constant .none k pos))→G X
  | fz,kd,.tup es,X=>∀ G:Expr→Prop,(∀ l k pos,MtL names fz kd es l→G (.Tuple l k pos))→G X
  | fz,kd,.list q es,X=>∀ G:Expr→Prop,(∀ l pos,MtL names fz kd es l→G (.List l pos))→G X
  | fz,kd,.bin q o a b,X=>∀ G:Expr→Prop,(∀ x y pos,Mt names fz kd a x→Mt names fz kd b y→G (.BinOp x o.op y pos))→G X
  | fz,kd,.neg a,X=>∀ G:Expr→Prop,(∀ x pos,Mt names fz kd a x→G (.UnaryOp .USub x pos))→G X
  | fz,kd,.cmp o a b,X=>∀ G:Expr→Prop,(∀ x y pos,ke y→Mt names fz kd a x→Mt names fz kd b y→G (.Compare x [o.op] [y] pos))→G X
  | fz,kd,.isN a,X=>∀ G:Expr→Prop,(∀ x k p pos,Mt names fz kd a x→G (.Compare x [.Is] [.Constant .none k p] pos))→G X
  | fz,kd,.notN a,X=>∀ G:Expr→Prop,(∀ x k p pos,Mt names fz kd a x→G (.Compare x [.IsNot] [.Constant .none k p] pos))→G X
  | fz,kd,.and es,X=>∀ G:Expr→Prop,(∀ l pos,MtL names fz kd es l→G (.BoolOp .And l pos))→G X
  | fz,kd,.or es,X=>∀ G:Expr→Prop,(∀ l pos,MtL names fz kd es l→G (.BoolOp .Or l pos))→G X
  | fz,kd,.not a,X=>∀ G:Expr→Prop,(∀ x pos,Mt names fz kd a x→G (.UnaryOp .Not x pos))→G X
  | fz,kd,.ifx t a b,X=>∀ G:Expr→Prop,(∀ x y z pos,Mt names fz kd t x→Mt names fz kd a y→Mt names fz kd b z→G (.IfExp x y z pos))→G X
  | fz,kd,.attr e f,X=>∀ G:Expr→Prop,(∀ x s pos,cS x→Mt names fz kd e x→Fld.str f=s→G (.Attribute x s pos))→G X
  | fz,kd,.sub e i,X=>∀ G:Expr→Prop,(∀ x y pos,gJ y→Mt names fz kd e x→Mt names fz kd i y→G (.Subscript x y pos))→G X
  | fz,kd,.slo e lo,X=>∀ G:Expr→Prop,(∀ x y p pos,Mt names fz kd e x→Mt names fz kd lo y→G (.Subscript x (.Slice (some y) none none p) pos))→G X
  | fz,kd,.call f es,X=>∀ G:Expr→Prop,(∀ s p l pos,f.isTop=true→Str.ofString f.nm=s→kd s=some .globalImplicit→MtL names fz kd es l→G (.Call (.Name s p) l [] pos))→G X
  | fz,kd,.new c es,X=>∀ G:Expr→Prop,(∀ s p l pos,Str.ofString c.nm=s→kd s=some .globalImplicit→MtL names fz kd es l→G (.Call (.Name s p) l [] pos))→G X
  | fz,kd,.meth e f es,X=>∀ G:Expr→Prop,(∀ x s p l pos,cS x→l.length < 30→(p.endLine == pos.line)=true→f.isMeth=true→Str.ofString f.nm=s→Mt names fz kd e x→MtL names fz kd es l→G (.Call (.Attribute x s p) l [] pos))→G X
  | fz,kd,.bi b es,X=>∀ G:Expr→Prop,(∀ s p l pos,Str.ofString b.nm=s→kd s=some .globalImplicit→MtL names fz kd es l→G (.Call (.Name s p) l [] pos))→G X
  | fz,kd,.toList q e,X=>∀ G:Expr→Prop,(∀ x p pos,bI x→Gl kd "list" → Mt names fz kd e x→G (.Call (.Name (Str.ofString "list") p) [x] [] pos))→G X
  | fz,kd,.app e y,X=>∀ G:Expr→Prop,(∀ a b p pos,cS a→bI b→(p.endLine == pos.line)=true→Mt names fz kd e a→Mt names fz kd y b→G (.Call (.Attribute a (Str.ofString "append") p) [b] [] pos))→G X
  | fz,kd,.ext e y,X=>∀ G:Expr→Prop,(∀ a b p pos,cS a→bI b→(p.endLine == pos.line)=true→Mt names fz kd e a→Mt names fz kd y b→G (.Call (.Attribute a (Str.ofString "extend") p) [b] [] pos))→G X
  | fz,kd,.pop0 e,X=>∀ G:Expr→Prop,(∀ a k q p pos,cS a→(p.endLine == pos.line)=true→Mt names fz kd e a→G (.Call (.Attribute a (Str.ofString "pop") p) [.Constant (.int 0) k q] [] pos))→G X
  | fz,kd,.get e y,X=>∀ G:Expr→Prop,(∀ a b p pos,cS a→bI b→(p.endLine == pos.line)=true→Mt names fz kd e a→Mt names fz kd y b→G (.Call (.Attribute a (Str.ofString "get") p) [b] [] pos))→G X
  | fz,kd,.getd e y d,X=>∀ G:Expr→Prop,(∀ a b c p pos,cS a→bI b→bI c→(p.endLine == pos.line)=true→Mt names fz kd e a→Mt names fz kd y b→Mt names fz kd d c→G (.Call (.Attribute a (Str.ofString "get") p) [b,c] [] pos))→G X
  | fz,kd,.popd e y,X=>∀ G:Expr→Prop,(∀ a b k q p pos,cS a→bI b→(p.endLine == pos.line)=true→Mt names fz kd e a→Mt names fz kd y b→G (.Call (.Attribute a (Str.ofString "pop") p) [b,.Constant .none k q] [] pos))→G X
  | fz,kd,.comp q elt ts it,X=>∀ G:Expr→Prop,(∀ x t y sc pos,CompSc sc kd names ts→Mt names fz kd it y→MtT names (fun n=>cz sc n=some .local) ts t→Mt names [] (cz sc) elt x→G (.ListComp x [⟨t,y,[],0⟩] sc pos))→G X
  | fz,kd,.compif elt ts it c,X=>∀ G:Expr→Prop,(∀ x t y z sc pos,CompSc sc kd names ts→Mt names fz kd it y→MtT names (fun n=>cz sc n=some .local) ts t→Mt names [] (cz sc) elt x→Mt names [] (cz sc) c z→G (.ListComp x [⟨t,y,[z],0⟩] sc pos))→G X
  | fz,kd,.lam i,X=>∀ G:Expr→Prop,(∀ ps b sc pos,ca ∈ fz→LamOK ps b sc→ps.defaults=[]→ps.kw_defaults=[]→ps.kwonlyargs=[]→names[i]? = some ca→kd ca=some .cell→sc.names.lookup ca=some .free→(∀ x ∈ sc.names,x.2=.free→x.1=ca)→G (.Lambda ps b sc pos))→G X
  | fz,kd,.callv i y,X=>∀ G:Expr→Prop,(∀ s b p pos,bI b→names[i]? = some s→KN kd s→Mt names fz kd y b→G (.Call (.Name s p) [b] [] pos))→G X
  | fz,kd,.emptyI,X=>∀ G:Expr→Prop,(∀ pos,G (.Dict [] [] pos))→G X
  | fz,kd,.emptyP,X=>∀ G:Expr→Prop,(∀ pos,G (.Dict [] [] pos))→G X
  | fz,kd,.sdisp fr ws es,X=>∀ G:Expr→Prop,(∀ ks l pos,gR ws ks→MtL names fz kd es l→G (.Dict ks l pos))→G X
  | fz,kd,.frz e,X=>Mt names fz kd e X
noncomputable def MtL (names:List Str):List Str→Kd→CEs→List Expr→Prop
  | fz,kd,.nil,l=>∀ G:List Expr→Prop,G []→G l
  | fz,kd,.cons e r,l=>∀ G:List Expr→Prop,(∀ x l,bI x→Mt names fz kd e x→MtL names fz kd r l→G (x::l))→G l
end
mutual
noncomputable def Fh (names wr fz:List Str) (kd:Kd):CS→Stmt→Prop
  | .any,_=>True
  | .asg i e,X=>∀ G:Stmt→Prop,(∀ n q x pos,names[i]? = some n→(kd n=some .local∨n ∈ wr)→Mt names fz kd e x→G (.Assign [.Name n q] x pos))→G X
  | .unp is e,X=>∀ G:Stmt→Prop,(∀ l k q x pos,tf x→MtTs names (fun n=>kd n=some .local∨n ∈ wr) is l→Mt names fz kd e x→G (.Assign [.Tuple l k q] x pos))→G X
  | .multi is es,X=>∀ G:Stmt→Prop,(∀ l k q l' k' q' pos,MtTs names (fun n=>kd n=some .local∨n ∈ wr) is l→l'.all (constantsAlone 8)=false→MtL names fz kd es l'→G (.Assign [.Tuple l k q] (.Tuple l' k' q') pos))→G X
  | .sett o i v,X=>∀ G:Stmt→Prop,(∀ x y z q pos,gJ y→Mt names fz kd o x→Mt names fz kd i y→Mt names fz kd v z→G (.Assign [.Subscript x y q] z pos))→G X
  | .seta o f v,X=>∀ G:Stmt→Prop,(∀ x s z q pos,Mt names fz kd o x→Fld.str f=s→Mt names fz kd v z→G (.Assign [.Attribute x s q] z pos))→G X
  | .ifs c a b,X=>∀ G:Stmt→Prop,(∀ x l l' pos,Mt names fz kd c x→fJ names wr fz kd a l→fJ names wr fz kd b l'→G (.If x l l' pos))→G X
  | .ret e,X=>∀ G:Stmt→Prop,(∀ x pos,Mt names fz kd e x→G (.Return (some x) pos))→(∀ pos,e=.none→G (.Return none pos))→G X
  | .expr e,X=>∀ G:Stmt→Prop,(∀ x pos,qx x→Mt names fz kd e x→G (.Expr x pos))→G X
  | .for_ ts it b,X=>∀ G:Stmt→Prop,(∀ t x l pos,MtT names (fun n=>kd n=some .local∨n ∈ wr) ts t→Mt names fz kd it x→fJ names wr fz kd b l→G (.For t x l [] pos))→G X
  | .forEnum i j it b,X=>∀ G:Stmt→Prop,(∀ t x l p q pos,MtT names (fun n=>kd n=some .local∨n ∈ wr) [i,j] t→Gl kd "enumerate" → Mt names fz kd it x→fJ names wr fz kd b l→G (.For t (.Call (.Name (Str.ofString "enumerate") p) [x] [] q) l [] pos))→G X
noncomputable def fJ (names wr fz:List Str) (kd:Kd):CSs→List Stmt→Prop
  | .nil,l=>∀ G:List Stmt→Prop,G []→G l
  | .cons s r,l=>∀ G:List Stmt→Prop,(∀ x l,Fh names wr fz kd s x→fJ names wr fz kd r l→G (x::l))→G l
end
end Mine.Internal
namespace Mine.Internal
noncomputable abbrev CM (x:Expr):Prop:=(x.ctorIdx == 9 || x.ctorIdx == 10)=false
noncomputable abbrev CO (x:Expr):Prop:=(x.ctorIdx == 8)=false
noncomputable def Solid (x:Expr):Prop:=ke x∧bI x∧CM x
theorem Solid.of {x:Expr} (a:ke x) (b:bI x) (c:CM x):Solid x:=⟨a,b,c⟩
noncomputable def fd:CE→Nat
  | .frz a=>fd a+1
  | _=>0
noncomputable def cidx:CE→Nat
  | .any | .frz _=>100
  | .loc _ | .byte=>23
  | .int _ | .str _ | .bool _ | .none=>19
  | .tup _=>25
  | .list .. => 24
  | .bin .. => 2
  | .neg _ | .not _=>3
  | .cmp .. | .isN _ | .notN _=>15
  | .and _ | .or _=>0
  | .ifx .. => 5
  | .attr .. => 20
  | .sub .. | .slo .. => 21
  | .comp .. | .compif .. => 8
  | .lam _=>4
  | .emptyI | .emptyP | .sdisp .. => 6
  | _=>16
noncomputable abbrev FR (e:CE):Bool:=cidx e == 100
noncomputable abbrev Ce (e:CE):Bool:=cidx e == 100 || cidx e == 8
noncomputable def Ev (e:CE):Bool:=!(cidx e == 100 || (cidx e == 0 || cidx e == 3 || cidx e == 5 || cidx e == 15))
noncomputable abbrev mZ (x:Expr):Prop:=(x.ctorIdx == 0 || x.ctorIdx == 3 || x.ctorIdx == 5 || x.ctorIdx == 15)=false
theorem tJ {names fz:List Str} {kd:Kd} {e:CE} {x:Expr} (h:Mt names fz kd e x):FR e=false→x.ctorIdx=cidx e:=by
  cases e <;> first | (refine h (fun x=>_→x.ctorIdx=_) ?_; intros; rfl) | exact fun hp=>(iP hp)
theorem DB (e:CE):(cidx e == 7 || cidx e == 22 || cidx e == 9 || cidx e == 10)=false:=by cases e <;> rfl
theorem zM {names fz:List Str} {kd:Kd} {e:CE} {x:Expr} (h:Mt names fz kd e x) (hp:FR e=false):Solid x:=by
  have:=DB e
  rw [← tJ h hp,Bool.or_assoc,Bool.or_assoc,Bool.or_eq_false_iff,Bool.or_eq_false_iff] at this
  exact ⟨this.1,this.2.1,this.2.2⟩
theorem tS {names fz:List Str} {kd:Kd} {e:CE} {x:Expr} (h:Mt names fz kd e x) (hp:Ce e=false):CO x:=by
  have hp:=(Bool.or_eq_false_iff.mp hp)
  unfold CO; rw [tJ h hp.1]; exact hp.2
theorem A1 {names fz:List Str} {kd:Kd} {e:CE} {x:Expr} (h:Mt names fz kd e x) (hp:Ev e=true):mZ x:=by
  have hp:=Bool.or_eq_false_iff.mp (Eq.mp (Bool.not_eq_true' _) hp)
  unfold mZ; rw [tJ h hp.1]; exact hp.2
end Mine.Internal
namespace Mine.Internal
theorem zE:fillsNumberSlot (.type "tuple") "mul" = pure false :=
  PySem.fillsNumberSlot_seq (id := "tuple.__mul__") (r:=some (.builtin "tuple.__rmul__")) F.slot_tuple_mul.lookup (by decide +kernel) F.slot_tuple_rmul.lookup (by decide +kernel)
theorem z3:seqRepeat? (.type "tuple")=pure (some (.builtin "tuple.__mul__")):=by
  unfold seqRepeat?
  rw [PySem.seqSlot_of (T := "tuple") (name := "__mul__") (id := "tuple.__mul__") F.slot_tuple_mul.lookup (by decide +kernel),PySem.seqSlot_of (T := "tuple") (name := "__rmul__") (id := "tuple.__rmul__") F.slot_tuple_rmul.lookup (by decide +kernel)]
  rfl
theorem uP (a:Int) (t:Tok) (l:Addr) (items:Array Value) (n:Nat) :
    Meets (Builtin.«int.__rmul__» ⟨[.int a t,.ref l],[]⟩) (fun Z R s=>s.heap.get? l=some (d8 items n)∧R (.ok (.ret Value.notImplemented)) s) :=
  .of_wp fun prog w A R s h=>by obtain ⟨hp,g,d,tk,os⟩:=s; obtain ⟨hl,h⟩:=h; wp_walk; exact ⟨_,rfl,h⟩
theorem EY (l:Addr) (v:Value) (n:Nat) (u:Tok) :
    Meets (Builtin.«tuple.__mul__» ⟨[.ref l,.int 2 u],[]⟩) (fun Z R s=>s.heap.get? l=some (d8 #[v] n)∧R (.ok (.ret (Value.ref s.heap.objs.size))) { s with heap:=s.heap.push (d8 #[v,v] 0) }) :=
  .of_wp fun prog w A R s h=>by
    obtain ⟨hp,g,d,tk,os⟩:=s; obtain ⟨hl,h⟩:=h
    wp_walk
    repeat (first | rw [if_neg (by decide)] | rw [if_neg (by simp)] | refine wpAny_bind ?_)
    exact ⟨_,rfl,h⟩
theorem DV {prog:Program} {w:World} {A:Around} {E:Value→Shared→Prop} {s:Shared} {l:Addr} {v:Value} {n:Nat} {u:Tok} {Q:Value→Shared→Prop} (ho:s.heap.get? l=some (d8 #[v] n))
    (h:Q (.ref s.heap.objs.size) { s with heap:=s.heap.push (d8 #[v,v] 0) }):wpAny (model prog w) A (binaryOp .Mult (.ref l) (.int 2 u)) Q E s :=
  wpAny_binaryOp_repeat_ref (T := "tuple") (U := "int") (by decide) ⟨_,ho,rfl⟩ (fun s'=>typeIs_int s' 2 u) zE F.fills_int_mul F.slot_int_rmul z3 F.slot_int_index.lookup
    (call_meets F.slot_int_rmul (typeIs_int s 2 u) F.entry_int_rmul (F.args_int_rmul_2 _ _) (uP 2 u l _ n)
      ⟨ho,rfl,⟨_,ho,rfl⟩,call_meets F.slot_tuple_mul ⟨_,ho,rfl⟩ F.entry_tuple_mul (F.args_tuple_mul_2 _ _) (EY l v n u) ⟨ho,h⟩⟩)
theorem D4 {prog:Program} {w:World} {A:Around} {E:Value→Shared→Prop} {s:Shared} {l:Addr} {vs:Array Value} {n:Nat} {x:Int} {u:Tok} {Q:Value→Shared→Prop} (ho:s.heap.get? l=some (listOf vs n)) (h0:0≤x) (h8:x≤8) (hz:vs.size≤1048576)
    (h:Q (.ref s.heap.objs.size) { s with heap:=s.heap.push (listOf (List.replicate x.toNat vs.toList).flatten.toArray 0) }):wpAny (model prog w) A (binaryOp .Mult (.ref l) (.int x u)) Q E s:=by
  have hsz:vs.size * x.toNat≤2 ^ 24:=Nat.le_trans (Nat.mul_le_mul hz (show x.toNat≤8 by omega)) (by decide)
  refine wpAny_binaryOp_repeat_ref (T := "list") (U := "int") (by decide) ⟨_,ho,rfl⟩ (fun s'=>typeIs_int s' x u) noFill_list_mul F.fills_int_mul F.slot_int_rmul repeat_list F.slot_int_index.lookup
    (call_meets F.slot_int_rmul (typeIs_int s x u) F.entry_int_rmul (F.args_int_rmul_2 _ _) (lm_int_rmul_list_any x u l vs n none #[])
      ⟨ho,rfl,⟨_,ho,rfl⟩,call_meets F.slot_list_mul ⟨_,ho,rfl⟩ F.entry_list_mul (F.args_list_mul_2 _ _)
        (lm_list_mul_any l vs n none #[] x u (by simp [Builtin.List.listFitsIndex]; omega) (by omega) (by simp [Builtin.List.listTooLong,sizeLine]; exact hsz))
        ⟨ho,?_⟩⟩)
  rw [listMul_foldl_if]
  exact h
section
variable {X:Amb} {s₀ s:Shared} {o p:aw} {as:As} {mu mu':Mu} {F:Fm} {loc:ae} {A:Around} {E:Value→Shared→Prop} {Q:Value→Shared→Prop}
noncomputable abbrev Kv (X:Amb) (s₀:Shared) (o p:aw) (as:As) (mu':Mu) (F:Fm) (loc:ae) (Q:Value→Shared→Prop) (v:Val):Prop :=
  ∀ p' as' s' u,Sub p p'→as <+: as'→Inv X s₀ o p' as' mu' F loc s'→VRel X p' as' v u→Q u s'
theorem Kv.here {v:Val} {u:Value} {t:Nat} (K:Kv X s₀ o p as mu' F loc Q v) (I:Inv X s₀ o p as mu' F loc s) (r:VRel X p as v u):Q u { s with toks:=t }:=K p as _ u Sub.refl (List.prefix_refl _) (I.tok t) r
theorem Kv.now {v:Val} {u:Value} (K:Kv X s₀ o p as mu' F loc Q v) (I:Inv X s₀ o p as mu' F loc s) (r:VRel X p as v u):Q u s:=K p as _ u Sub.refl (List.prefix_refl _) I r
theorem Kv.mono {p₁:aw} {as₁:As} {v:Val} (K:Kv X s₀ o p as mu' F loc Q v) (hp:Sub p p₁) (ha:as <+: as₁):Kv X s₀ o p₁ as₁ mu' F loc Q v :=
  fun p' as' s' u a b c d=>K p' as' s' u (hp.trans a) (ha.trans b) c d
theorem Kv.eqP {v v':Val} {m:Mu} (K:Kv X s₀ o p as mu' F loc Q v') (h:(v,m)=(v',mu')):Kv X s₀ o p as m F loc Q v:=by cases h; exact K
theorem Kv.eqS {v v':Val} {m:Mu} (K:Kv X s₀ o p as mu' F loc Q v') (h:some (v,m)=some (v',mu')):Kv X s₀ o p as m F loc Q v:=by cases h; exact K
theorem eE {i:Int} {t:Tok}:VRel X p as (.d (.int i)) (.int i t):=by show DRel X p (.int i) _; rw [uc]; exact ⟨t,rfl⟩
theorem du {b:Bool}:VRel X p as (.d (.bool b)) (.bool b):=by show DRel X p (.bool b) _; rw [Iv]
theorem hZ:VRel X p as (.d .none) .none:=by show DRel X p .none _; rw [Ih]
theorem E9 {w:W} {t:Tok}:VRel X p as (.d (.str w)) (.str w.str t):=by show DRel X p (.str w) _; rw [IO]; exact ⟨t,rfl⟩
theorem cQ {i:Int} {u:Value} (r:VRel X p as (.d (.int i)) u):∃ t,u=.int i t:=r
theorem iY {b:Bool} {u:Value} (r:VRel X p as (.d (.bool b)) u):u=.bool b:=r
theorem vn {u:Value} (r:VRel X p as (.d .none) u):u=.none:=r
theorem tZ {w:W} {u:Value} (r:VRel X p as (.d (.str w)) u):∃ t,u=.str w.str t:=r
theorem fX {xs:List Dat} {u:Value} (r:VRel X p as (.d (.tup xs)) u):RSeq d8 p (DRels X p xs) u:=r
theorem iR {xs:List Dat} {u:Value} (r:VRel X p as (.d (.lst xs)) u):RSeq listOf p (DRels X p xs) u:=r
theorem jT (I:Inv X s₀ o p as mu F loc s) {v:Val} {u:Value} {xs:List Val} (e:fP mu v=some xs) (r:VRel X p as v u):RSeq listOf s.heap.get? (VRels X p as xs) u:=by
  cases v with
  | d x =>
    refine xe1 (gq (show (vL (.d x)).map (fun xs=>xs.map Val.d)=some xs from e)) fun ds r_=>aO r_ fun h e2_=>?_
    rw [← e2_]
    cases tL h
    refine RSeq.el (iR r) fun a vs n e3_ h k=>?_
    rw [e3_]
    exact ⟨a,vs,n,rfl,I.ple _ _ h,.ofD k⟩
  | r k =>
    have h:=kE (show (mu[k]?).bind oL=some xs from e)
    obtain ⟨q,hq,rfl⟩:=r
    obtain ⟨vs,n,h1,h2⟩:=I.mus _ _ _ hq h
    exact ⟨q.1,vs,n,rfl,h1,h2⟩
  | clo k=>exact nS (show none=some xs from e)
theorem qM {q:Bool} {xs:List Val} {v:Val} {vs:List Value} {n:Nat} {t:Nat} (e:cx q mu xs (bE xs)=some (v,mu')) (I:Inv X s₀ o p as mu F loc s) (r:VRels X p as xs vs) (K:Kv X s₀ o p as mu' F loc Q v) :
    Q (.ref s.heap.objs.size) { s with heap:=s.heap.push (listOf vs.toArray n),toks:=t }:=by
  unfold cx at e
  split at e
  · cases q with
    | true =>
      (refine dy e fun h1_ h2_=>?_; subst h1_; subst h2_)
      have I':=I.pushM (m:=.list xs) (listOf vs.toArray n) rfl rfl ⟨vs.toArray,n,Heap.get?_push_size _ rfl,by simpa using r.mono Sub.refl (List.prefix_append _ _)⟩
      exact K _ _ _ _ Sub.refl (List.prefix_append _ _) (I'.tok t) ⟨_,by rw [← I.len]; exact List.getElem?_concat_length ..,rfl⟩
    | false =>
      refine bN e fun ds e1 e2=>?_
      clear e
      (refine eR e2 fun h1_ h2_=>?_; subst h1_; subst h2_)
      have I':=I.pushP (listOf vs.toArray n) rfl
      refine K _ _ _ _ (Sub.put1 I.fresh_p) (List.prefix_refl _) (I'.tok t) ?_
      show DRel X _ (.lst ds) _
      rw [yK]
      exact ⟨_,vs.toArray,n,rfl,cb,by simpa using (VRels.toD e1 r).mono (Sub.put1 I.fresh_p)⟩
  · exact nS e
theorem jY {q:Bool} {xs:List Val} {v:Val} (e:cx q mu xs (bE xs)=some (v,mu')):xs.length≤lim:=by
  unfold cx at e
  split at e
  · assumption
  · exact nS e
theorem m9 {ds:List Dat} {v:Val} {vs:Array Value} {n:Nat} {t:Nat} (e:(f9 ds).map (·,mu)=some (v,mu')) (I:Inv X s₀ o p as mu F loc s) (r:DRels X p ds vs.toList) (K:Kv X s₀ o p as mu' F loc Q v) :
    Q (.ref s.heap.objs.size) { s with heap:=s.heap.push (d8 vs n),toks:=t }:=by
  refine bN e fun v' e1 e2=>?_
  clear e
  (refine eR e2 fun h1_ h2_=>?_; subst h1_; subst h2_)
  unfold f9 at e1
  split at e1
  · (replace e1:=iS e1; subst e1)
    have I':=I.pushP (d8 vs n) rfl
    refine K _ _ _ _ (Sub.put1 I.fresh_p) (List.prefix_refl _) (I'.tok t) ?_
    show DRel X _ (.tup ds) _
    rw [IS]
    exact ⟨_,vs,n,rfl,cb,r.mono (Sub.put1 I.fresh_p)⟩
  · exact nS e1
theorem nP {ds:List Dat} {v:Val} (e:(f9 ds).map (·,mu)=some (v,mu')):ds.length≤lim:=by
  refine bN e fun v' e1 e2=>?_
  clear e
  unfold f9 at e1
  split at e1
  · assumption
  · exact nS e1
end
end Mine.Internal
namespace Mine.Internal
section
variable {X:Amb} {s₀ s:Shared} {o p:aw} {as:As} {mu mu':Mu} {F:Fm} {loc:ae} {A:Around} {E:Value→Shared→Prop} {Q:Value→Shared→Prop}
theorem fC {n:Nat} (h:n≤lim):n≤sizeLine:=by rw [sizeLine_eq]; unfold lim at h; exact lb h rfl
theorem xk {b:Int} (h:b.natAbs < 2 ^ 64):Builtin.Int.intBits b≤64:=by
  unfold Builtin.Int.intBits
  split
  · exact Nat.le_add_left _ _
  · rename_i h0
    have:b.natAbs.log2 < 64:=(Nat.log2_lt (by simpa using h0)).mpr h
    exact this
theorem CU {q:Bool} {a v:Val} {n:Int} {u1:Value} {t':Tok} (e:Ez mu q a n=some (v,mu')) (I:Inv X s₀ o p as mu F loc s) (r1:VRel X p as a u1) (K:Kv X s₀ o p as mu' F loc Q v) :
    wpAny (model X.prog X.w) A (binaryOp .Mult u1 (.int n t')) Q E s:=by
  refine bh e fun xs hx e=>?_
  refine RSeq.el (jT I hx r1) fun a vs m e3_ h1 k1=>?_
  rw [e3_]
  have l1:=k1.length
  refine aO (kI e) fun hn e=>?_
  have hl:=jY e
  have hz:vs.size≤1048576:=by
    rw [List.length_flatten,List.map_replicate,List.sum_replicate_nat] at hl
    have:1 * xs.length≤n.toNat * xs.length:=Nat.mul_le_mul_right _ (by omega)
    rw [← Array.length_toList,← l1]; unfold lim at hl; omega
  refine D4 h1 (by exact EK hn.1 rfl) hn.2 hz (qM e I ?_ K)
  have rep:∀ k:Nat,VRels X p as (List.replicate k xs).flatten (List.replicate k vs.toList).flatten:=fun k=>by
    induction k with
    | zero=>exact rfl
    | succ k ih=>rw [List.replicate_succ,List.replicate_succ,List.flatten_cons,List.flatten_cons]; exact k1.append ih
  exact rep _
theorem C1 {q:Bool} {a b v:Val} {u1 u2:Value} (e:Ek mu q a b=some (v,mu')) (I:Inv X s₀ o p as mu F loc s) (r1:VRel X p as a u1) (r2:VRel X p as b u2) (K:Kv X s₀ o p as mu' F loc Q v) :
    wpAny (model X.prog X.w) A (binaryOp .Add u1 u2) Q E s:=by
  refine bh e fun xs hx e=>?_
  refine bh e fun ys hy e=>?_
  refine RSeq.el (jT I hx r1) fun a vs n e3_ h1 k1=>?_
  rw [e3_]
  refine RSeq.el (jT I hy r2) fun b ws m e3_ h2 k2=>?_
  rw [e3_]
  have hl:=jY e
  have l1:=k1.length
  have l2:=k2.length
  rw [List.length_append] at hl
  have sz:vs.size+ws.size≤sizeLine:=by rw [← Array.length_toList,← Array.length_toList]; exact fC (by exact ed hl l1 l2)
  refine P.add_list (hsz:=sz) h1 h2 ?_
  have:=qM (n:=0) (t:=s.toks) e I (k1.append k2) K
  rw [← Array.toList_append,Array.toArray_toList] at this
  exact this
theorem Dx {xs ys:List Dat} {v:Val} {u1 u2:Value} (hne:¬ (xs.isEmpty || ys.isEmpty)=true) (e:(f9 (xs++ys)).map (·,mu)=some (v,mu')) (I:Inv X s₀ o p as mu F loc s) (r1:VRel X p as (.d (.tup xs)) u1) (r2:VRel X p as (.d (.tup ys)) u2) (K:Kv X s₀ o p as mu' F loc Q v) :
    wpAny (model X.prog X.w) A (binaryOp .Add u1 u2) Q E s:=by
  refine RSeq.el (fX r1) fun a vs n e3_ h1 k1=>?_
  rw [e3_]
  refine RSeq.el (fX r2) fun b ws m e3_ h2 k2=>?_
  rw [e3_]
  rw [Bool.or_eq_true,not_or] at hne
  have l1:=k1.length; have l2:=k2.length
  have hl:=nP e
  rw [List.length_append] at hl
  have e1:¬ vs.isEmpty=true:=fun z=>hne.1 (by rw [Array.isEmpty_iff] at z; subst z; rw [List.isEmpty_iff]; exact List.eq_nil_of_length_eq_zero l1)
  have e2:¬ ws.isEmpty=true:=fun z=>hne.2 (by rw [Array.isEmpty_iff] at z; subst z; rw [List.isEmpty_iff]; exact List.eq_nil_of_length_eq_zero l2)
  have sz:vs.size+ws.size≤sizeLine:=by rw [← Array.length_toList,← Array.length_toList]; exact fC (by exact ed hl l1 l2)
  exact P.add_tuple (hsz:=sz) (I.ple _ _ h1) (I.ple _ _ h2) e1 e2 (m9 e I (by rw [Array.toList_append]; exact k1.append k2) K)
theorem fK {α:Type} {a b:Val} {u1 u2:Value} {f:Int→Int→Option α} {r:α} {G:Value→Value→Prop} (e:jA a b f=some r) (r1:VRel X p as a u1) (r2:VRel X p as b u2) (h:∀ x t y t',f x y=some r→G (.int x t) (.int y t')):G u1 u2:=by
  refine xe2 (xu e) fun x y r_=>gF r_ fun e2_ e3_ e=>?_
  subst e2_
  subst e3_
  refine xe1 (cQ r1) fun t e1_=>?_
  subst e1_
  obtain ⟨t',rfl⟩:=cQ r2
  exact h x t y t' e
theorem Bb {q:Bool} {op:Bop} {a b v:Val} {u1 u2:Value} (e:fG mu q op a b=some (v,mu')) (I:Inv X s₀ o p as mu F loc s) (r1:VRel X p as a u1) (r2:VRel X p as b u2) (K:Kv X s₀ o p as mu' F loc Q v) :
    wpAny (model X.prog X.w) A (binaryOp op.op u1 u2) Q E s:=by
  cases op with
  | add =>
    rcases fY (G:=fun r=>r=some (v,mu')) e with ⟨_,e⟩ | ⟨x,hx,e⟩
    · rcases fY (G:=fun r=>r=some (v,mu')) e with ⟨_,e⟩ | ⟨xs,hx,e⟩
      · exact C1 e I r1 r2 K
      · refine bh e fun ys hy e=>?_
        refine aO (zo e) fun hne e=>?_
        rw [oX hx] at r1; rw [oX hy] at r2
        exact Dx hne e I r1 r2 K
    · refine bN e fun y hy e=>?_
      replace K:=Kv.eqP K e
      rw [fR hx] at r1; rw [fR hy] at r2
      refine xe1 (cQ r1) fun t e1_=>?_
      subst e1_
      obtain ⟨t',rfl⟩:=cQ r2
      exact P.add_int (K.here I eE)
  | sub=>exact fK (G:=fun u1 u2=>wpAny (model X.prog X.w) A (binaryOp .Sub u1 u2) Q E s) e r1 r2 fun x t y t' e=>by replace K:=Kv.eqS K e; exact P.sub_int (K.here I eE)
  | mul =>
    refine bh e fun y hy e=>?_
    rw [fR hy] at r2
    refine xe1 (cQ r2) fun t' e1_=>?_
    subst e1_
    rcases fY (G:=fun r=>r=some (v,mu')) e with ⟨_,e⟩ | ⟨x,hx,e⟩
    · rcases fY (G:=fun r=>r=some (v,mu')) e with ⟨_,e⟩ | ⟨xs,hx,e⟩
      · exact CU e I r1 K
      · refine aO (kI e) fun h2 e=>?_
        subst h2
        refine bh e fun x h1 e=>?_
        rw [oX hx,CA h1] at r1
        refine RSeq.el (fX r1) fun a vs n e3_ h1 k1=>?_
        subst e3_
        simp only [kj] at k1
        obtain ⟨w,r,e1,k2,rfl⟩:=k1
        obtain ⟨l⟩:=vs
        simp only at e1
        subst e1
        refine DV (I.ple _ _ h1) (m9 e I ?_ K)
        simp only [ds0]
        exact ⟨w,[w],rfl,k2,w,[],rfl,k2,rfl⟩
    · refine aO (kI e) fun h e=>?_
      replace K:=Kv.eqS K e
      rw [fR hx] at r1
      refine xe1 (cQ r1) fun t e1_=>?_
      subst e1_
      exact P.mul_int (K.here I eE) (IntMulOk.of_right (xk h))
  | fdiv =>
    exact fK (G:=fun u1 u2=>wpAny (model X.prog X.w) A (binaryOp .FloorDiv u1 u2) Q E s) e r1 r2 fun x t y t' e=>by
      refine aO (zo e) fun h e=>?_
      replace K:=Kv.eqS K e; exact floordiv_int (fun z=>h (.inl z)) (K.here I eE) (.inl (PyProof.noPylong_small (by omega)))
  | mod =>
    exact fK (G:=fun u1 u2=>wpAny (model X.prog X.w) A (binaryOp .Mod u1 u2) Q E s) e r1 r2 fun x t y t' e=>by
      refine aO (zo e) fun h e=>?_
      replace K:=Kv.eqS K e; exact mod_int' h (K.here I eE)
  | pow =>
    exact fK (G:=fun u1 u2=>wpAny (model X.prog X.w) A (binaryOp .Pow u1 u2) Q E s) e r1 r2 fun x t y t' e=>by
      refine aO (kI e) fun h e=>?_
      obtain ⟨rfl,rfl⟩:=h
      replace K:=Kv.eqS K e; exact pow_int_small (by decide) (by decide) (by decide) (K.here I eE)
  | xor=>exact fK (G:=fun u1 u2=>wpAny (model X.prog X.w) A (binaryOp .BitXor u1 u2) Q E s) e r1 r2 fun x t y t' e=>by replace K:=Kv.eqS K e; exact xor_int (K.here I eE)
end
end Mine.Internal
namespace Mine.Internal
noncomputable def allW:List W:=[.goto_,.switch_,.call_,.drop_,.assert_,.use_,.box_,.binary_,.checked_,.unary_,.cast_,.tuple_,.array_,.adt_,.index_,.const_,.ref_,.discriminant_,.assign_,.live_,.dead_,.print_,.return_,.move_,.copy_,.fn_,.unreachable_,
  .int_,.u8_,.plus_,.xor_,.lt_,.h_,.g_,.main_,.field_,.worths_,.alive_,.bad_]
theorem sD:(allW.all fun w=>decide (allW.find? (fun v=>decide (v.str=w.str))=some w))=true:=by decide +kernel
theorem wC (w:W):w ∈ allW:=by cases w <;> decide
theorem W.inj {a b:W} (h:a.str=b.str):a=b:=by
  have h1:=of_decide_eq_true (List.all_eq_true.mp sD a (wC a))
  have h2:=of_decide_eq_true (List.all_eq_true.mp sD b (wC b))
  rw [h,h2] at h1
  exact (Option.some.inj h1).symm
theorem EG:(allW.all fun w=>PyData.strOk w.str)=true:=by decide +kernel
theorem W.ok (w:W):PyData.strOk w.str=true:=List.all_eq_true.mp EG w (wC w)
mutual
noncomputable def Dat.py:Dat→PyData
  | .bool b=>.bool b
  | .int i=>.int i
  | .str w=>.str w.str
  | .tup xs=>.tuple (jz xs)
  | .lst xs=>.list (jz xs)
  | .none | .any | .rng _ _ _ | .dct _ _ | .spots _ | .obj _ _ _=>.none
noncomputable def jz:List Dat→List PyData
  | []=>[]
  | x::xs=>x.py::jz xs
end
theorem Kr {i:Int}:(Dat.int i).py=.int i:=rfl
theorem Lc {w:W}:(Dat.str w).py=.str w.str:=rfl
theorem Km {i j:Int}:PyData.eqv (.int i) (.int j)=(i == j):=rfl
theorem K0 {i j:Str}:PyData.eqv (.str i) (.str j)=(i == j):=rfl
theorem Io {x:Dat} {xs:List Dat}:jz (x::xs)=x.py::jz xs:=rfl
section
variable {X:Amb} {s₀ s:Shared} {o p:aw} {as:As} {mu mu':Mu} {F:Fm} {loc:ae} {A:Around} {E:Value→Shared→Prop} {Q:Value→Shared→Prop} {n:Nat}
theorem GB {P:Prop} (h:false=true):P:=(Bool.false_ne_true h).elim
mutual
theorem jo:∀ {x:Dat},x.plain=true→x.py.canLay0=true
  | .none=>fun Z=>rfl
  | .bool _=>fun Z=>rfl
  | .int _=>fun Z=>rfl
  | .str w=>fun Z=>w.ok
  | .tup xs=>fun h=>jP (xs:=xs) h
  | .lst xs=>fun h=>jP (xs:=xs) h
  | .any | .rng _ _ _ | .dct _ _ | .spots _ | .obj _ _ _=>GB
theorem jP:∀ {xs:List Dat},cE xs=true→PyData.canLayAll0 (jz xs)=true
  | []=>fun Z=>rfl
  | x::xs=>fun h=>by
    have h:=Eq.mp (Bool.and_eq_true _ _) (show (x.plain && cE xs)=true from h)
    show (x.py.canLay0 && PyData.canLayAll0 (jz xs))=true
    rw [jo h.1,jP h.2]; rfl
end
mutual
theorem tR:∀ {x:Dat},x.plain=true→x.py.depth=x.dep
  | .none=>fun Z=>rfl
  | .bool _=>fun Z=>rfl
  | .int _=>fun Z=>rfl
  | .str w=>fun Z=>rfl
  | .tup xs=>fun h=>congrArg (· + 1) (jR (xs:=xs) h)
  | .lst xs=>fun h=>congrArg (· + 1) (jR (xs:=xs) h)
  | .any | .rng _ _ _ | .dct _ _ | .spots _ | .obj _ _ _=>GB
theorem jR:∀ {xs:List Dat},cE xs=true→PyData.depthAll (jz xs)=gg xs
  | []=>fun Z=>rfl
  | x::xs=>fun h=>by
    have h:=Eq.mp (Bool.and_eq_true _ _) (show (x.plain && cE xs)=true from h)
    show max x.py.depth (PyData.depthAll (jz xs))=max x.dep (gg xs)
    rw [tR h.1,jR h.2]
end
mutual
theorem ug:∀ {x y:Dat} {b:Bool},Dat.eqv x y=some b→PyData.eqv x.py y.py=b
  | .none,y,b=>fun h=>by obtain ⟨_,h1,rfl⟩:=gq h; rw [Ax h1]; rfl
  | .bool a,y,b=>fun h=>by obtain ⟨_,h1,rfl⟩:=gq h; rw [En h1]; rfl
  | .int a,y,b=>fun h=>by obtain ⟨_,h1,rfl⟩:=gq h; rw [tQ h1]; rfl
  | .str x,y,b=>fun h=>by
    refine bN h fun z h1 e2_=>?_
    subst e2_
    rw [Be h1]
    show (x.str == z.str)=decide (x=z)
    by_cases e:x=z
    · subst e; simp
    · rw [decide_eq_false e]; exact beq_eq_false_iff_ne.mpr fun z=>e (W.inj z)
  | .tup xs,y,b=>fun h=>by obtain ⟨ys,h1,h⟩:=bP h; rw [Bu h1]; exact re (xs:=xs) (ys:=ys) h
  | .lst xs,y,b=>fun h=>by obtain ⟨ys,h1,h⟩:=bP h; rw [Ah h1]; exact re (xs:=xs) (ys:=ys) h
  | .any,_,_ | .rng _ _ _,_,_ | .dct _ _,_,_ | .spots _,_,_ | .obj _ _ _,_,_=>nS
theorem re:∀ {xs ys:List Dat} {b:Bool},gd xs ys=some b→PyData.eqvAll (jz xs) (jz ys)=b
  | [],ys,b=>fun h=>by (replace h:=iS h; subst h); cases ys <;> rfl
  | x::xs,ys,b=>fun h=>by
    cases ys with
    | nil=>(replace h:=iS h; subst h); rfl
    | cons y ys =>
      refine xe1 (bP (x:=Dat.eqv x y) h) fun a r_=>aO r_ fun ha h=>?_
      refine bN h fun c hc e2_=>?_
      subst e2_
      show (PyData.eqv x.py y.py && PyData.eqvAll (jz xs) (jz ys))=(a && c)
      rw [ug ha,re hc]
end
mutual
theorem gM {h:Heap} (hp:Sub p h.get?):∀ {x:Dat} {v:Value},x.plain=true→DRel X p x v→∃ l,Reads h v x.py l
  | .none,v=>fun Z r=>by rw [Ih] at r; subst r; exact ⟨_,.none⟩
  | .bool b,v=>fun Z r=>by rw [Iv] at r; subst r; exact ⟨_,.bool b⟩
  | .int i,v=>fun Z r=>by rw [uc] at r; obtain ⟨t,rfl⟩:=r; exact ⟨_,.int i t⟩
  | .str w,v=>fun Z r=>by rw [IO] at r; obtain ⟨t,rfl⟩:=r; exact ⟨_,.str w.str t⟩
  | .tup xs,v=>fun k r=>by
    rw [IS] at r
    obtain ⟨a,vs,n,rfl,e,q⟩:=r
    obtain ⟨l,z⟩:=kJ hp (xs:=xs) k q
    exact ⟨_,.tuple (hp _ _ e) rfl rfl z⟩
  | .lst xs,v=>fun k r=>by
    rw [yK] at r
    obtain ⟨a,vs,n,rfl,e,q⟩:=r
    obtain ⟨l,z⟩:=kJ hp (xs:=xs) k q
    exact ⟨_,.list (hp _ _ e) rfl rfl z⟩
  | .any,_ | .rng _ _ _,_ | .dct _ _,_ | .spots _,_ | .obj _ _ _,_=>fun h=>GB h
theorem kJ {h:Heap} (hp:Sub p h.get?):∀ {xs:List Dat} {vs:List Value},cE xs=true→DRels X p xs vs→∃ l,ReadsAll h vs (jz xs) l
  | [],vs=>fun Z r=>by rw [ds0] at r; subst r; exact ⟨_,.nil⟩
  | x::xs,vs=>fun k r=>by
    have k:=Eq.mp (Bool.and_eq_true _ _) (show (x.plain && cE xs)=true from k)
    rw [kj] at r
    obtain ⟨v,r',rfl,a,b⟩:=r
    obtain ⟨l,z⟩:=gM hp k.1 a
    obtain ⟨l',z'⟩:=kJ hp k.2 b
    exact ⟨_,.cons z z'⟩
end
theorem zN {x y:Dat} {b:Bool} {u1 u2:Value} {l1 l2:List Addr} (e:gu x y=some b) (hR:Rm n A) (r1:Reads s.heap u1 x.py l1) (r2:Reads s.heap u2 y.py l2) :
    (Q (.bool b) s→wpAny (model X.prog X.w) A (compareOp .Eq u1 u2) Q E s)∧(Q (.bool !b) s→wpAny (model X.prog X.w) A (compareOp .NotEq u1 u2) Q E s):=by
  unfold gu at e
  split at e
  · rename_i h
    rw [Bool.and_eq_true,Bool.and_eq_true,decide_eq_true_eq] at h
    have hu:A.units+min x.py.depth y.py.depth < cLine:=by rw [tR h.1.1,tR h.1.2]; have:=hR.units; omega
    exact ⟨fun q=>SeqAt.compareEq_reads r1 r2 (jo h.1.1) (jo h.1.2) hu (by rw [ug e]; exact q),fun q=>SeqAt.compareNe_reads r1 r2 (jo h.1.1) (jo h.1.2) hu (by rw [ug e]; exact q)⟩
  · exact nS e
theorem rR {x y:Dat} {b:Bool} (e:gu x y=some b):x.plain=true∧y.plain=true:=by
  unfold gu at e
  split at e
  · rename_i h
    rw [Bool.and_eq_true,Bool.and_eq_true] at h
    exact h.1
  · exact nS e
theorem sP {a b:Val} {c:Bool} {u1 u2:Value} (e:kF mu a b=some c) (hR:Rm n A) (I:Inv X s₀ o p as mu F loc s) (r1:VRel X p as a u1) (r2:VRel X p as b u2) :
    (Q (.bool c) s→wpAny (model X.prog X.w) A (compareOp .Eq u1 u2) Q E s)∧(Q (.bool !c) s→wpAny (model X.prog X.w) A (compareOp .NotEq u1 u2) Q E s):=by
  refine bh e fun y hy e=>?_
  rw [gK hy] at r2
  rcases fY (G:=fun r=>r=some c) e with ⟨_,e⟩ | ⟨i,hi,e⟩
  · refine bh e fun x hx e=>?_
    rw [gK hx] at r1
    refine aO (rR e) fun p1 p2=>?_
    refine xe1 (gM I.ple p1 r1) fun l1 q1=>?_
    refine xe1 (gM I.ple p2 r2) fun l2 q2=>?_
    exact zN e hR q1 q2
  · rw [gZ hi] at r1
    refine bh e fun ys hy e=>?_
    rw [Ah hy] at r2
    refine bh e fun xs hx e=>?_
    refine bh e fun ds hd e=>?_
    refine aO (rR e) fun p1 p2=>?_
    obtain ⟨q,hq,rfl⟩:=r1
    obtain ⟨vs,k,h1,h2⟩:=I.mus _ _ _ hq (kE hx)
    refine xe1 (kJ I.ple (xs:=ds) p1 (VRels.toD hd h2)) fun l1 q1=>?_
    refine xe1 (gM I.ple p2 r2) fun l2 q2=>?_
    exact zN e hR (.list h1 rfl rfl q1) q2
end
end Mine.Internal
namespace Mine.Internal
section
variable {X:Amb} {s₀ s:Shared} {o p:aw} {as:As} {mu mu':Mu} {F:Fm} {loc:ae} {A:Around} {E:Value→Shared→Prop} {Q:Value→Shared→Prop} {n:Nat}
theorem pt:∀ {xs:List Dat} {ws:List W},kg xs=some ws→xs=ws.map .str
  | [],ws=>fun h=>by (replace h:=iS h; subst h); rfl
  | x::r,ws=>fun h=>by
    refine xe1 (bP (x:=dS x) h) fun w r_=>aO r_ fun h1 h=>?_
    refine bN h fun ws' h' e2_=>?_
    clear h
    rw [← e2_]
    rw [List.map_cons,← pt h',Be h1]
theorem kR:∀ {xs:List Dat} {ws:List Int},gr xs=some ws→xs=ws.map .int
  | [],ws=>fun h=>by (replace h:=iS h; subst h); rfl
  | x::r,ws=>fun h=>by
    refine xe1 (bP (x:=dI x) h) fun w r_=>aO r_ fun h1 h=>?_
    refine bN h fun ws' h' e2_=>?_
    clear h
    subst e2_
    rw [List.map_cons,← kR h',tQ h1]
theorem iu:∀ ws:List W,cE (ws.map Dat.str)=true
  | []=>rfl
  | w::ws=>by rw [List.map_cons,vc,iu ws]; rfl
theorem gl:∀ ws:List Int,cE (ws.map Dat.int)=true
  | []=>rfl
  | w::ws=>by rw [List.map_cons,vc,gl ws]; rfl
theorem qf:∀ ws:List W,gg (ws.map Dat.str)=0
  | []=>rfl
  | w::ws=>by rw [List.map_cons,qV,qf ws]; rfl
theorem na:∀ ws:List Int,gg (ws.map Dat.int)=0
  | []=>rfl
  | w::ws=>by rw [List.map_cons,qV,na ws]; rfl
theorem rP (w:W):∀ ws:List W,(jz (ws.map Dat.str)).any (fun y=>PyData.eqv y (.str w.str))=ws.contains w
  | []=>rfl
  | v::ws=>by
    rw [List.map_cons,Io,List.any_cons,rP w ws,List.contains_cons]
    congr 1
    rw [Lc,K0]
    by_cases e:w=v
    · subst e; simp
    · rw [beq_eq_false_iff_ne.mpr e]; exact beq_eq_false_iff_ne.mpr fun z=>e (W.inj z).symm
theorem tI (w:Int):∀ ws:List Int,(jz (ws.map Dat.int)).any (fun y=>PyData.eqv y (.int w))=ws.contains w
  | []=>rfl
  | v::ws=>by
    rw [List.map_cons,Io,List.any_cons,tI w ws,List.contains_cons]
    congr 1
    rw [Kr,Km]
    by_cases e:w=v
    · subst e; simp
    · rw [beq_eq_false_iff_ne.mpr e]; exact beq_eq_false_iff_ne.mpr fun z=>e z.symm
theorem lB {K:Type} [DecidableEq K]:∀ {kvs:List (K × Value)} {k:K},(valueAt kvs k).isSome=decide (k ∈ kvs.map (·.1))
  | [],k=>rfl
  | (a,v)::r,k=>by
    have ih:=lB (kvs:=r) (k:=k)
    unfold valueAt at ih ⊢
    rw [List.find?_cons]
    by_cases h:a=k
    · subst h; simp
    · simp only [h,decide_false,List.map_cons,List.mem_cons]
      rw [ih]
      simp [Ne.symm h]
theorem no {ks:List W} {w:W} {l:List Str} (h:l=ks.map W.str):decide (w.str ∈ l)=ks.contains w:=by
  subst h
  rw [Bool.eq_iff_iff,decide_eq_true_eq,List.contains_iff_mem,List.mem_map]
  exact ⟨fun ⟨v,hv,e⟩=>W.inj e ▸ hv,fun h=>⟨w,h,rfl⟩⟩
theorem rF {x:Int} {ws:List Int} {u1 u2:Value} (hR:Rm n A) (I:Inv X s₀ o p as mu F loc s) (r1:VRel X p as (.d (.int x)) u1) (r2:VRel X p as (.d (.lst (ws.map Dat.int))) u2) :
    (Q (.bool (ws.contains x)) s→wpAny (model X.prog X.w) A (compareOp .In u1 u2) Q E s)∧(Q (.bool !ws.contains x) s→wpAny (model X.prog X.w) A (compareOp .NotIn u1 u2) Q E s):=by
  have hu:=hR.units
  refine xe1 (gM I.ple rfl r1) fun l1 q1=>?_
  refine xe1 (gM I.ple (x:=.lst (ws.map Dat.int)) (gl ws) r2) fun l2 q2=>?_
  have ha:=tI x ws
  exact ⟨fun q=>SeqAt.in_list_reads q2 q1 (jP (gl ws)) (jo rfl) (by rw [jR (gl ws),na]; omega) (by rw [show (Dat.int x).py=.int x from rfl,ha]; exact q),
    fun q=>SeqAt.notIn_list_reads q2 q1 (jP (gl ws)) (jo rfl) (by rw [jR (gl ws),na]; omega) (by rw [show (Dat.int x).py=.int x from rfl,ha]; exact q)⟩
theorem E8 {a b:Val} {c:Bool} {u1 u2:Value} (e:Ig a b=some c) (hR:Rm n A) (I:Inv X s₀ o p as mu F loc s) (r1:VRel X p as a u1) (r2:VRel X p as b u2)
    (K:Kv X s₀ o p as mu F loc Q (.d (.bool c))):wpAny (model X.prog X.w) A (compareOp .In u1 u2) Q E s:=by
  have hu:=hR.units
  rcases fY (G:=fun r=>r=some c) e with ⟨_,e1⟩ | ⟨x,hx,e1⟩
  · refine bh e1 fun w hw e2=>?_
    clear e1
    rw [A8 hw] at r1
    refine bh e2 fun y hy e3=>?_
    clear e2
    rw [gK hy] at r2
    rcases fY (G:=fun r=>r=some c) e3 with ⟨_,e4⟩ | ⟨xs,hxs,e4⟩
    · refine bN e4 fun q hq e2_=>?_
      clear e4
      subst e2_
      rw [Ej hq] at r2
      have r2':DRel X p (.dct q.1 q.2) u2:=r2
      rw [F6] at r2'
      obtain ⟨a,ob,kvs,rfl,h0,h1,h2,h3,h4⟩:=r2'
      refine xe1 (tZ r1) fun t e1_=>?_
      subst e1_
      have hd:s.heap.DictOf (strKind X.prog X.w) a kvs:=Heap.dictOf_iff.mpr ⟨ob,I.ple _ _ h1,h2⟩
      refine wpAny_in_of (strKind_is _ _ _ _) h0 hd.mapOf (K.here I ?_)
      rw [lB,no h3]; exact du
    · refine bN e4 fun ws hw e2_=>?_
      clear e4
      subst e2_
      rw [Bu hxs,pt hw] at r2
      refine xe1 (gM I.ple rfl r1) fun l1 q1=>?_
      refine xe1 (gM I.ple (x:=.tup (ws.map Dat.str)) (iu ws) r2) fun l2 q2=>?_
      refine SeqAt.in_tuple_reads q2 q1 (jP (iu ws)) (jo rfl) ?_ ?_
      · rw [jR (iu ws),qf]; omega
      · rw [show (Dat.str w).py=.str w.str from rfl,rP]; exact K.now I du
  · refine bh e1 fun xs hxs e2=>?_
    clear e1
    refine bN e2 fun ws hw e2_=>?_
    clear e2
    subst e2_
    rw [fR hx] at r1; rw [tL hxs,kR hw] at r2
    exact (rF hR I r1 r2).1 (K.now I du)
theorem sA {op:Cop} {a b:Val} {c:Bool} {u1 u2:Value} (e:dY mu op a b=some c) (hR:Rm n A) (I:Inv X s₀ o p as mu F loc s) (r1:VRel X p as a u1) (r2:VRel X p as b u2)
    (K:Kv X s₀ o p as mu F loc Q (.d (.bool c))):wpAny (model X.prog X.w) A (compareOp op.op u1 u2) Q E s:=by
  cases op with
  | lt=>exact fK (G:=fun u1 u2=>wpAny (model X.prog X.w) A (compareOp .Lt u1 u2) Q E s) e r1 r2 fun x t y t' e=>by (replace e:=iS e; subst e); exact P.lt_int (K.now I du)
  | gt=>exact fK (G:=fun u1 u2=>wpAny (model X.prog X.w) A (compareOp .Gt u1 u2) Q E s) e r1 r2 fun x t y t' e=>by (replace e:=iS e; subst e); exact P.gt_int (K.now I du)
  | ge=>exact fK (G:=fun u1 u2=>wpAny (model X.prog X.w) A (compareOp .GtE u1 u2) Q E s) e r1 r2 fun x t y t' e=>by (replace e:=iS e; subst e); exact P.ge_int (K.now I du)
  | le=>exact fK (G:=fun u1 u2=>wpAny (model X.prog X.w) A (compareOp .LtE u1 u2) Q E s) e r1 r2 fun x t y t' e=>by (replace e:=iS e; subst e); exact P.le_int (K.now I du)
  | eq=>exact (sP e hR I r1 r2).1 (K.now I du)
  | ne =>
    refine bN e fun c' e' e2_=>?_
    clear e
    subst e2_
    exact (sP e' hR I r1 r2).2 (K.now I du)
  | in_=>exact E8 e hR I r1 r2 K
  | notIn =>
    refine bh e fun x hx e1=>?_
    clear e
    refine bh e1 fun xs hxs e2=>?_
    clear e1
    refine bN e2 fun ws hw e2_=>?_
    clear e2
    subst e2_
    rw [fR hx] at r1; rw [tL hxs,kR hw] at r2
    exact (rF hR I r1 r2).2 (K.now I du)
end
end Mine.Internal
namespace Mine.Internal
noncomputable def allF:List Fld:=[.name,.argCount,.locals,.blocks,.spots,.body]
theorem ru:(allF.all fun w=>decide (allF.find? (fun v=>decide (v.str=w.str))=some w))=true:=by decide +kernel
theorem CI (w:Fld):w ∈ allF:=by cases w <;> decide
theorem Fld.inj {a b:Fld} (h:a.str=b.str):a=b:=by
  have h1:=of_decide_eq_true (List.all_eq_true.mp ru a (CI a))
  have h2:=of_decide_eq_true (List.all_eq_true.mp ru b (CI b))
  rw [h,h2] at h1
  exact (Option.some.inj h1).symm
structure ClsOK (X:Amb) (c:Cls):Prop where
  get:∀ f:Fld,plainGet X.K (X.cls c) f.str=true∧findIn X.K (.ref (X.cls c)) f.str=some none
  dict:hasDictIn X.K (X.cls c)=true
  set:findIn X.K (.ref (X.cls c)) "__setattr__" = some (some (.builtin "object.__setattr__"))
  over:plainOver X.K (X.cls c)=true
  taker:∀ f:Fld,takerIn X.K (X.cls c) f.str=some none
section
variable {X:Amb} {s₀ s:Shared} {o p:aw} {as:As} {mu mu':Mu} {F:Fm} {loc:ae} {A:Around} {E:Value→Shared→Prop} {Q:Value→Shared→Prop} {n:Nat}
theorem Inv.K (hK:X.K.In X.H₀) (I:Inv X s₀ o p as mu F loc s):X.K.In s.heap:=fun a o e=>I.ple _ _ (I.base _ _ (hK a o e))
theorem lc {y:Expr} (h:gJ y) (o i:Value):subscripted y false o i=operate [o,i] (getItem o i):=by cases y <;> first | rfl | exact (iP h)
theorem mA {i:Int} {n k:Nat} (h:cU i n=some k):0≤i∧i.toNat=k∧k < n∧i < 2 ^ 62:=by
  unfold cU at h
  split at h
  · (replace h:=iS h; subst h); unfold lim at *; omega
  · exact nS h
theorem uE {i:Int} {n k:Nat} (h:cU i n=some k):seqIndex? i n=some k:=by
  refine uW (mA h) fun h1 h2 h3 h4=>?_
  unfold seqIndex?
  simp only [show ¬ i < 0 by omega,if_false]
  rw [if_pos (by simp; omega),h2]
theorem BZ {n:Nat}:∀ {ks:List W} {xs:List Val} {kvs:List (Str × Value)} {w:W} {x:Val},kvs.map (·.1)=ks.map W.str→VRels X p as xs (kvs.map (·.2))→c9 w ks xs=some x→∃ u,valueAt kvs w.str=some u∧VRel X p as x u
  | [],xs,_,_,_=>fun Z Z h=>nS (show none=some _ from h)
  | k::ks,[],_,_,_=>fun Z Z h=>nS (show none=some _ from h)
  | k::ks,y::ys,[],w,x=>fun hk Z Z=>nomatch hk
  | k::ks,y::ys,q::kvs,w,x=>fun hk ⟨v,r,e1,a1,a2⟩ h=>by
    cases e1
    have h:(if k=w then some y else c9 w ks ys)=some x:=h
    have hk1:q.1=k.str:=(List.cons.inj hk).1
    by_cases e2:k=w
    · subst e2
      rw [if_pos rfl] at h
      exact ⟨q.2,by unfold valueAt; rw [List.find?_cons,decide_eq_true hk1]; rfl,iS h ▸ a1⟩
    · rw [if_neg e2] at h
      obtain ⟨u,h1,h2⟩:=BZ (n:=n) (List.cons.inj hk).2 a2 h
      refine ⟨u,?_,h2⟩
      unfold valueAt at h1 ⊢
      rw [List.find?_cons,decide_eq_false fun z=>e2 (W.inj (hk1 ▸ z))]
      exact h1
theorem oM {α:Type} [DecidableEq α] {f:α} {x:Dat}:∀ {fs:List α} {xs:List Dat},c9 f fs xs=some x→c9 f fs (xs.map Val.d)=some (.d x)
  | [],_=>fun h=>nS (show none=some _ from h)
  | g::fs,[]=>fun h=>nS (show none=some _ from h)
  | g::fs,y::ys=>fun h=>by
    have h:(if g=f then some y else c9 f fs ys)=some x:=h
    show (if g=f then some (Val.d y) else c9 f fs (ys.map Val.d))=some (.d x)
    by_cases e2:g=f
    · rw [if_pos e2] at h ⊢; rw [iS h]
    · rw [if_neg e2] at h ⊢; exact oM h
theorem qX {xs:List Val} {vs:Array Value} {k:Int} {j:Nat} {x:Val} {t:Addr} {tk:Tok} {value slice:Expr} (T:s.heap.IsList t vs∨∃ m,s.heap.get? t=some (d8 vs m)) (h2:VRels X p as xs vs.toList) (hj:cU k xs.length=some j) (hx:xs[j]? = some x) (hs:gJ slice)
    (K:∀ u,VRel X p as x u→Q u s):wpAny (model X.prog X.w) A (subscriptTail value slice (.ref t) (.int k tk)) Q E s:=by
  obtain ⟨u,hu,vr⟩:=h2.get.2 j x hx
  refine uW (mA hj) fun i1 i2 i3 i4=>?_
  rcases T with hl | ⟨m,h1⟩
  · exact tail_any hl.typeIs slot_list_getitem.lookup (wpAny_getItem_list hl i1 (by exact ib i4 rfl) (by rw [i2,← Array.getElem?_toList]; exact hu) (K u vr)) (lc hs _ _)
  · have hl:seqIndex? k vs.size=some j:=uE (by rw [h2.length,Array.length_toList] at hj; exact hj)
    exact tail_any ⟨_,h1,rfl⟩ slot_tuple_getitem.lookup (P.getItem_tuple h1 (by exact EK i1 rfl) (by exact ib i4 rfl) hl (by rw [← Array.getElem?_toList]; exact hu) (K u vr)) (lc hs _ _)
theorem vu {ks:List W} {xs:List Val} {kvs:List (Str × Value)} {w:W} {x:Val} {a:Addr} {tk:Tok} {value slice:Expr} (h0:(a == sysModules)=false) (hd:s.heap.DictOf (strKind X.prog X.w) a kvs) (h3:kvs.map (·.1)=ks.map W.str) (h4:VRels X p as xs (kvs.map (·.2))) (hx:c9 w ks xs=some x) (hs:gJ slice)
    (K:∀ u tk,VRel X p as x u→Q u { s with toks:=tk }):wpAny (model X.prog X.w) A (subscriptTail value slice (.ref a) (.str w.str tk)) Q E s:=by
  refine xe1 (BZ (n:=0) h3 h4 hx) fun u r_=>aO r_ fun hu vr=>?_
  exact tail_any hd.typeIs slot_dict_getitem.lookup (wpAny_getItem_of (strKind_is _ _ _ _) hd.mapOf hu (K u _ vr)) (lc hs _ _)
theorem D9 {a b v:Val} {u1 u2:Value} {value slice:Expr} (e:aX mu a b=some v) (hs:gJ slice) (I:Inv X s₀ o p as mu F loc s) (r1:VRel X p as a u1) (r2:VRel X p as b u2)
    (K:Kv X s₀ o p as mu F loc Q v):wpAny (model X.prog X.w) A (subscriptTail value slice u1 u2) Q E s:=by
  rcases fY (G:=fun r=>r=some v) e with ⟨_,e1⟩ | ⟨k,hk,e1⟩
  · refine bh e1 fun w hw e2=>?_
    clear e1
    rw [A8 hw] at r2
    refine xe1 (tZ r2) fun tk e1_=>?_
    rw [e1_]
    rcases fY (G:=fun r=>r=some v) e2 with ⟨_,e3⟩ | ⟨i,hi,e3⟩
    · refine bh e3 fun y hy e4=>?_
      clear e3
      refine bh e4 fun q hq e5=>?_
      clear e4
      refine bN e5 fun x hx e2_=>?_
      clear e5
      subst e2_
      rw [gK hy,Ej hq] at r1
      have r1':DRel X p (.dct q.1 q.2) u1:=r1
      rw [F6] at r1'
      obtain ⟨a,ob,kvs,rfl,h0,h1,h2,h3,h4⟩:=r1'
      exact vu h0 (Heap.dictOf_iff.mpr ⟨ob,I.ple _ _ h1,h2⟩) h3 (VRels.ofD (as:=as) h4) (oM hx) hs fun u tk vr=>K.here I vr
    · refine bh e3 fun y hy e4=>?_
      clear e3
      refine bN e4 fun x hx e2_=>?_
      clear e4
      subst e2_
      rw [gZ hi] at r1
      obtain ⟨q,hq,rfl⟩:=r1
      obtain ⟨h0,kvs,hd,h3,h4⟩:=I.mus _ _ _ hq (B6 hy)
      exact vu h0 hd h3 h4 hx hs fun u tk vr=>K.here I (vr.norm I)
  · rw [fR hk] at r2
    refine xe1 (cQ r2) fun tk e1_=>?_
    subst e1_
    rcases fY (G:=fun r=>r=some v) e1 with ⟨_,e2⟩ | ⟨i,hi,e2⟩
    · refine bh e2 fun y hy e3=>?_
      clear e2
      refine bh e3 fun xs hxs e4=>?_
      clear e3
      refine bh e4 fun j hj e5=>?_
      clear e4
      refine bN e5 fun x hx e2_=>?_
      clear e5
      subst e2_
      rw [gK hy] at r1
      have hx':(xs.map Val.d)[j]? = some (.d x):=by rw [List.getElem?_map,hx]; rfl
      have hj':cU k (xs.map Val.d).length=some j:=by rw [List.length_map]; exact hj
      rcases xr hxs with q | q <;> rw [q] at r1
      · refine RSeq.el (fX r1) fun t vs m e3_ h1 h2=>?_
        subst e3_
        exact qX (.inr ⟨m,I.ple _ _ h1⟩) (VRels.ofD (as:=as) h2) hj' hx' hs fun u vr=>K.now I vr
      · refine RSeq.el (iR r1) fun t vs m e3_ h1 h2=>?_
        subst e3_
        exact qX (.inl ⟨_,I.ple _ _ h1,rfl,m,rfl⟩) (VRels.ofD (as:=as) h2) hj' hx' hs fun u vr=>K.now I vr
    · refine bh e2 fun xs hxs e3=>?_
      clear e2
      refine bh e3 fun j hj e4=>?_
      clear e3
      refine bN e4 fun x hx e2_=>?_
      clear e4
      subst e2_
      rw [gZ hi] at r1
      obtain ⟨q,hq,rfl⟩:=r1
      obtain ⟨vs,m,h1,h2⟩:=I.mus _ _ _ hq (kE hxs)
      exact qX (.inl ⟨_,h1,rfl,m,rfl⟩) h2 hj hx hs fun u vr=>K.now I (vr.norm I)
theorem zC {v:Val} {u:Value} (r:VRel X p as v u):handedIn u=true:=by
  cases v with
  | r i=>obtain ⟨q,_,rfl⟩:=r; rfl
  | clo k=>cases r; rfl
  | d x =>
    have r:DRel X p x u:=r
    cases x
    all_goals first
      | (obtain rfl:=r; rfl)
      | (obtain ⟨a,rfl,_⟩:=r; rfl)
      | (obtain ⟨a,rfl⟩:=r; rfl)
      | (obtain ⟨a,b,rfl⟩:=r; rfl)
      | (obtain ⟨a,b,c,rfl,_⟩:=r; rfl)
      | (obtain ⟨a,b,c,d,rfl,_⟩:=r; rfl)
theorem rI {P:Params} {f:Fld}:∀ {fs:List Fld} {es:List DictEntry},ia P (fs.map Fld.str) es→(∀ e ∈ es,e.refKey=false)∧es.length=fs.length
  | [],[],_=>by simp
  | [],_::_,h=>h.elim
  | _::_,[],h=>h.elim
  | g::fs,e::es,⟨⟨t,h1⟩,h2,h3⟩=>by
    obtain ⟨a,b⟩:=rI (f:=f) h3
    refine ⟨fun e' he=>?_,by simp [b]⟩
    rcases List.mem_cons.mp he with rfl | he
    · unfold DictEntry.refKey; rw [h1]
    · exact a e' he
theorem te {P:Params} {f:Fld} {n:Nat}:∀ {fs:List Fld} {es:List DictEntry} {xs:List Val} {x:Val},ia P (fs.map Fld.str) es→VRels X p as xs (es.map (·.val))→c9 f fs xs=some x →
    ∃ u,(es.find? (·.key.isStr f.str)).map (·.val)=some u∧VRel X p as x u
  | [],_,xs,_,_,_,h=>by cases xs <;> exact nS h
  | _::_,[],_,_,h,_,_=>h.elim
  | g::fs,e::es,[],_,_,_,h=>by exact nS h
  | g::fs,e::es,y::ys,x,⟨⟨t,h1⟩,h2,h3⟩,⟨v,r,e1,a1,a2⟩,h=>by
    cases e1
    rw [KJ] at h
    rw [List.find?_cons]
    by_cases e2:g=f
    · subst e2
      rw [if_pos rfl] at h; (replace h:=iS h; subst h)
      exact ⟨e.val,by rw [h1]; simp [Value.isStr],a1⟩
    · rw [if_neg e2] at h
      have:Value.isStr e.key f.str=false:=by rw [h1]; exact beq_eq_false_iff_ne.mpr fun z=>e2 (Fld.inj z)
      rw [this]
      exact te (n:=n) h3 a2 h
theorem rC {f:Fld} {es:List DictEntry} {n:Nat} {u:Value} (h:(es.find? (·.key.isStr f.str)).map (·.val)=some u):lookIn f.str (dictOf es n)=some (some u):=by
  rw [lookIn_dict]
  unfold getL
  refine bN h fun e he e2_=>?_
  clear h
  subst e2_
  rw [he]
theorem C7 {a v:Val} {f:Fld} {u:Value} {ex:Bool} (e:fu mu a f=some v) (hK:X.K.In X.H₀) (hC:∀ c,ClsOK X c) (I:Inv X s₀ o p as mu F loc s) (r:VRel X p as a u)
    (K:Kv X s₀ o p as mu F loc Q v):wpAny (model X.prog X.w) A (getAttr u f.str ex) Q E s:=by
  rcases fY (G:=fun r=>r=some v) e with ⟨_,e1⟩ | ⟨i,hi,e1⟩
  · refine bh e1 fun y hy e2=>?_
    clear e1
    refine bh e2 fun q hq e3=>?_
    clear e2
    refine bN e3 fun x hx e2_=>?_
    clear e3
    subst e2_
    refine xe1 (Jf hq) fun c hc=>?_
    rw [gK hy,hc] at r
    have r':DRel X p (.obj c q.1 q.2) u:=r
    rw [Iy] at r'
    obtain ⟨a,d,es,k,rfl,h1,h2,h3,h4⟩:=r'
    refine xe1 (te (n:=k) (as:=as) h3 (VRels.ofD h4) (oM hx)) fun w r_=>aO r_ fun hw vr=>?_
    obtain ⟨g1,g2⟩:=(hC c).get f
    exact get_value (I.K hK) ⟨I.ple _ _ h1,rfl,rfl,I.ple _ _ h2⟩ (plainGet_of g1).1 (findObj_own (hC c).dict g2 rfl (rC (n:=k) hw)) (zC vr) (K.here I vr)
  · refine bh e1 fun q0_ hk e2=>?_
    clear e1
    obtain ⟨c,fs,xs⟩:=q0_
    refine bN e2 fun x hx e2_=>?_
    clear e2
    subst e2_
    rw [gZ hi] at r
    obtain ⟨q,hq,rfl⟩:=r
    obtain ⟨es,k,h1,h2,h3,h4⟩:=I.mus _ _ _ hq (xf hk)
    refine xe1 (te (n:=k) h3 h4 hx) fun w r_=>aO r_ fun hw vr=>?_
    obtain ⟨g1,g2⟩:=(hC c).get f
    exact get_value (I.K hK) ⟨h1,rfl,rfl,h2⟩ (plainGet_of g1).1 (findObj_own (hC c).dict g2 rfl (rC (n:=k) hw)) (zC vr) (K.here I (vr.norm I))
end
end Mine.Internal
namespace Mine.Internal
section
variable {M:Model} {A:Around} {E:Value→Shared→Prop} {s:Shared} {env:Env} {Q:Value→Shared→Prop}
noncomputable def eM (l:List Expr) (env:Env):List (Bool × Sem Value):=l.map fun e=>(false,eval e env)
theorem cG {env:Env}:∀ {l:List Expr},(∀ e ∈ l,bI e)→starEach l env=eM l env
  | [],_=>rfl
  | e::r,h=>by
    have h1:=h e (.head _)
    have h2:=cG (env:=env) fun x hx=>h x (.tail _ hx)
    cases e <;> first | exact (iP h1) | (show _::starEach r env=_; rw [h2]; rfl)
theorem c7 {env:Env} {pos:Pos}:∀ {l:List Expr},backTo pos (eM l env)=eM l env
  | []=>rfl
  | e::r=>by
    have:=c7 (env:=env) (pos:=pos) (l:=r)
    unfold backTo eM at this ⊢
    rw [List.map_cons,List.map_cons,this]; rfl
theorem d5 {l:List Expr}:(eM l env).any (·.1)=false:=by unfold eM; simp
theorem MtL.star {names:List Str}:∀ {es:CEs} {fz:List Str} {kd:Kd} {l:List Expr},MtL names fz kd es l→∀ e ∈ l,bI e
  | .nil,_,_,_,h=>h (fun l=>∀ e ∈ l,bI e) fun e h=>nomatch h
  | .cons _ _,_,_,_,h=>h (fun l=>∀ e ∈ l,bI e) fun x l hs Z r e he=>(List.mem_cons.mp he).elim (fun q=>q ▸ hs) (r.star e)
theorem ez {f:Value} {l:List Expr} {P:Args→Shared→Prop} (h:wpAny M A (spliced (eM l env)) (fun vs s'=>P ⟨vs,[]⟩ s') E s):wpAny M A (evalArgs f true (eM l env) []) P E s:=by
  cases l with
  | nil =>
    unfold evalArgs
    show wpAny M A (spliced [] >>= _) _ E s
    refine wpAny_bind (wpAny_mono h (fun vs s' h'=>?_) fun Z Z x=>x)
    exact wpAny_bind (wpAny_pure (wpAny_holding (wpAny_bind (wpAny_pure (wpAny_bind (wpAny_pure (wpAny_pure h')))))))
  | cons e r=>exact Calls.evalArgs_plain h
end
end Mine.Internal
namespace Mine.Internal
theorem ng {a:Expr} {nm:Str} {env:Env} (h:cS a):attributeBase a nm env (eval a env)=eval a env:=by cases a <;> first | rfl | exact (iP h)
theorem ox {l:List Expr} {env:Env}:(eM l env).all (fun x=>!x.1)=true:=by unfold eM; simp
section
variable {prog:Program} {w:World} {A:Around} {E:Value→Shared→Prop} {s:Shared} {env:Env} {Q:Value→Shared→Prop}
theorem gP {a:Expr} {name:Str} {p pos:Pos} {l:List Expr} {T id:String} (hc:cS a) (hl:(p.endLine == pos.line)=true) (hst:∀ e ∈ l,bI e) (hlen:l.length < 30)
    (pa:PlainAttrs T) (slot:Slot T name id) (hty:typeOf (.builtin id)=pure (.type "method_descriptor"))
    (h:wpAny (model prog w) A (eval a env) (fun ov s₁=>(s₁.TypeIs ov T∧∀ a,ov=.ref a→∃ ob,s₁.heap.get? a=some ob∧ob.dict=none) ∧
      wpAny (model prog w) A (spliced (eM l env)) (fun vs s₂=>wpAny (model prog w) A (call (.builtin id) (ov::vs)) Q E s₂) E s₁) E s) :
    wpAny (model prog w) A (eval (.Call (.Attribute a name p) l [] pos) env) Q E s:=by
  refine wpAny_Call_method (ng hc) ?_ hl pa slot hty (wpAny_mono h (fun ov s₁ h₁=>⟨h₁.1.1,h₁.1.2,?_⟩) fun Z Z x=>x)
  · rw [cG hst,c7,ox]
    have:backToKw pos (keywordEach [] env)=[]:=rfl
    simp [this]; exact hlen
  · rw [cG hst,c7]
    exact Calls.callWith_builtin d5 (ez h₁.2)
end
inductive LAt (as:As) (k:Nat) (u:Value) (h:Heap) (R:List Value→Prop):Prop
  | mk (q vs n):as[k]? = some q→u=.ref q.1→h.get? q.1=some (listOf vs n)→R vs.toList→LAt as k u h R
section
variable {X:Amb} {s₀ s:Shared} {o p:aw} {as:As} {mu mu':Mu} {F:Fm} {loc:ae} {A:Around} {E:Value→Shared→Prop} {Q:Value→Shared→Prop} {n:Nat}
theorem Inv.list_at (I:Inv X s₀ o p as mu F loc s) {k:Nat} {xs:List Val} {u:Value} (hk:mu[k]? = some (.list xs)) (r:VRel X p as (.r k) u) :
    LAt as k u s.heap (VRels X p as xs):=by
  obtain ⟨q,hq,rfl⟩:=r
  obtain ⟨vs,n,h1,h2⟩:=I.mus _ _ _ hq hk
  exact ⟨q,vs,n,hq,rfl,h1,h2⟩
theorem EU {k:Nat} {xs:List Val} {v:Val} {u1 u2:Value} (hk:mu[k]? = some (.list xs)) (hl:xs.length < lim) (I:Inv X s₀ o p as mu F loc s) (r1:VRel X p as (.r k) u1) (r2:VRel X p as v u2)
    (K:Kv X s₀ o p as (mu.set k (.list (xs++[v]))) F loc Q (.d .none)):wpAny (model X.prog X.w) A (call (.builtin "list.append") [u1,u2]) Q E s:=by
  obtain ⟨q,vs,n,hq,rfl,h1,h2⟩:=I.list_at hk r1
  have hsz:xs.length=vs.size:=by simpa using h2.length
  refine append_at h1 (fun h' hs hg=>K.now (I.upd (m':=.list (xs++[v])) hq hk rfl (a:=q.1) (by simp [kb]) hs ⟨_,hg⟩ ⟨_,_,hg,by simpa using h2.snoc r2⟩) hZ) (fC (by omega))
theorem Em {k:Nat} {xs:List Val} {ds:List Dat} {u1 u2:Value} (hk:mu[k]? = some (.list xs)) (hl:xs.length+ds.length≤lim) (I:Inv X s₀ o p as mu F loc s) (r1:VRel X p as (.r k) u1) (r2:VRel X p as (.d (.lst ds)) u2)
    (K:Kv X s₀ o p as (mu.set k (.list (xs++ds.map .d))) F loc Q (.d .none)):wpAny (model X.prog X.w) A (call (.builtin "list.extend") [u1,u2]) Q E s:=by
  obtain ⟨q,vs,n,hq,rfl,h1,h2⟩:=I.list_at hk r1
  refine RSeq.el (iR r2) fun b ws m e3_ h3 h4=>?_
  subst e3_
  have e1:xs.length=vs.size:=by simpa using h2.length
  have e2:ds.length=ws.size:=by simpa using h4.length
  have hz:vs.size+ws.size≤lim:=by exact ed hl e1 e2
  have hne:q.1 ≠ b:=fun e=>by
    have:=(I.out q.1 (List.mem_cons_of_mem _ (List.mem_append_right _ (fH hq hk q.1 (by simp [kb]))))).1
    rw [e,h3] at this; exact nS this.symm
  refine call_meets PySem.F.slot_list_extend ⟨_,h1,rfl⟩ PySem.F.entry_list_extend (PySem.F.args_list_extend_2 _ _) (PySem.AutoSeq1.list_extend_list_list_0 q.1 vs n b ws m (by simp [Builtin.List.listTooLong,sizeLine_eq]; unfold lim at hz; omega) (fC (by exact lq hz rfl)) (by have:=fC hz; exact lb hz rfl)) ⟨h1,I.ple _ _ h3,?_⟩
  have up:(s.heap.update q.1 (Obj.mapSeq fun x=>x++ws)).get? q.1=some (listOf (vs++ws) _):=IsL.update (show IsL s.heap q.1 vs n from h1) _
  exact K.here (I.upd (m':=.list (xs++ds.map .d)) hq hk rfl (a:=q.1) (by simp [kb]) (Heap.SameBut.update ..) ⟨_,up⟩ ⟨_,_,up,by simpa using h2.append (.ofD h4)⟩) hZ
end
end Mine.Internal
namespace Mine.Internal
section
variable {X:Amb} {p:aw}
noncomputable def Side (X:Amb) (p:aw) (ks:List (Int × Dat)) (kvs:List (Int × Value)):Prop:=kvs.map (·.1)=ks.map (·.1)∧DRels X p (ks.map (·.2)) (kvs.map (·.2))
theorem Side.nil:Side X p [] []:=⟨rfl,by simp [ds0]⟩
theorem Side.cons {k:Int} {d:Dat} {u:Value} {ks:List (Int × Dat)} {kvs:List (Int × Value)} (a:DRel X p d u) (h:Side X p ks kvs):Side X p ((k,d)::ks) ((k,u)::kvs) :=
  ⟨by simp [h.1],by rw [List.map_cons,List.map_cons,kj]; exact ⟨_,_,rfl,a,h.2⟩⟩
theorem Side.cases {P:List (Int × Dat)→List (Int × Value)→Prop} (h0:P [] []) (h1:∀ k d u ks kvs,DRel X p d u→Side X p ks kvs→P ks kvs→P ((k,d)::ks) ((k,u)::kvs)):∀ {ks:List (Int × Dat)} {kvs:List (Int × Value)},Side X p ks kvs→P ks kvs
  | [],[],_=>h0
  | [],_::_,h=>by have:=h.1; simp at this
  | _::_,[],h=>by have:=h.1; simp at this
  | (k,d)::ks,(k',u)::kvs,h=>by
    obtain ⟨a,b⟩:=h
    rw [List.map_cons,List.map_cons,kj] at b
    obtain ⟨v,r,e,b1,b2⟩:=b
    cases e
    simp only [List.map_cons,List.cons.injEq] at a
    obtain ⟨rfl,a⟩:=a
    exact h1 _ _ _ _ _ b1 ⟨a,b2⟩ (Side.cases h0 h1 ⟨a,b2⟩)
theorem Side.look {i:Int} {ks:List (Int × Dat)} {kvs:List (Int × Value)} (h:Side X p ks kvs):(ks.lookup i=none∧valueAt kvs i=none)∨∃ d u,ks.lookup i=some d∧valueAt kvs i=some u∧DRel X p d u:=by
  refine Side.cases (P:=fun ks kvs=>(ks.lookup i=none∧valueAt kvs i=none)∨∃ d u,ks.lookup i=some d∧valueAt kvs i=some u∧DRel X p d u) (.inl ⟨rfl,rfl⟩) (fun k d u ks kvs a Z ih=>?_) h
  unfold valueAt at ih ⊢
  rw [List.lookup_cons,List.find?_cons]
  by_cases e:i=k
  · subst e
    simp only [beq_self_eq_true,decide_true]
    exact .inr ⟨d,u,rfl,rfl,a⟩
  · have e1:(i == k)=false:=beq_eq_false_iff_ne.mpr e
    have e2:¬ k=i:=fun q=>e q.symm
    simp only [e1,e2,decide_false]
    exact ih
theorem Side.any {i:Int} {ks:List (Int × Dat)} {kvs:List (Int × Value)} (h:Side X p ks kvs):kvs.any (fun kv=>kv.1=i)=ks.any (fun kv=>kv.1=i):=by
  refine Side.cases (P:=fun ks kvs=>kvs.any (fun kv=>kv.1=i)=ks.any (fun kv=>kv.1=i)) rfl (fun k d u ks kvs a Z ih=>?_) h
  rw [List.any_cons,List.any_cons,ih]
theorem Side.app {k:Int} {d:Dat} {u:Value} {ks:List (Int × Dat)} {kvs:List (Int × Value)} (a:DRel X p d u) (h:Side X p ks kvs):Side X p (ks++[(k,d)]) (kvs++[(k,u)]) :=
  Side.cases (P:=fun ks kvs=>Side X p (ks++[(k,d)]) (kvs++[(k,u)])) (.cons a .nil) (fun Z Z Z Z Z b Z ih=>.cons b ih) h
theorem Side.put {i:Int} {d:Dat} {u:Value} {ks:List (Int × Dat)} {kvs:List (Int × Value)} (a:DRel X p d u) (h:Side X p ks kvs):Side X p (cj i d ks) (PySem.stored kvs i u):=by
  unfold cj PySem.stored
  rw [h.any]
  split
  · refine Side.cases (P:=fun ks kvs=>Side X p (ks.map fun kv=>if kv.1=i then (kv.1,d) else kv) (kvs.map fun kv=>if kv.1=i then (kv.1,u) else kv)) .nil (fun k Z Z Z Z b Z ih=>?_) h
    rw [List.map_cons,List.map_cons]
    by_cases e:k=i
    · simp only [e,if_true]; exact .cons a ih
    · simp only [e,if_false]; exact .cons b ih
  · exact h.app a
theorem Side.del {i:Int} {ks:List (Int × Dat)} {kvs:List (Int × Value)} (h:Side X p ks kvs):Side X p (cO i ks) (PySem.without kvs i):=by
  unfold cO PySem.without
  refine Side.cases (P:=fun ks kvs=>Side X p (ks.filter fun kv=>decide (kv.1 ≠ i)) (kvs.filter fun kv=>decide (kv.1 ≠ i))) .nil (fun k Z Z Z Z b Z ih=>?_) h
  rw [List.filter_cons,List.filter_cons]
  by_cases e:k=i
  · simp only [e,ne_eq,not_true_eq_false,decide_false,Bool.false_eq_true,if_false]; simpa using ih
  · simp only [e,ne_eq,not_false_eq_true,decide_true,if_true]; exact .cons b (by simpa using ih)
theorem Side.length {ks:List (Int × Dat)} {kvs:List (Int × Value)} (h:Side X p ks kvs):kvs.length=ks.length:=by have:=congrArg List.length h.1; simpa using this
end
section
variable {X:Amb} {s₀ s:Shared} {o p:aw} {as:As} {mu mu':Mu} {F:Fm} {loc:ae} {A:Around} {E:Value→Shared→Prop} {Q:Value→Shared→Prop} {n:Nat}
theorem C5 {k:Nat} {x:Val} {xs:List Val} {u1:Value} {t:Tok} (hk:mu[k]? = some (.list (x::xs))) (hl:xs.length < lim) (I:Inv X s₀ o p as mu F loc s) (r1:VRel X p as (.r k) u1)
    (K:Kv X s₀ o p as (mu.set k (.list xs)) F loc Q x):wpAny (model X.prog X.w) A (call (.builtin "list.pop") [u1,.int 0 t]) Q E s:=by
  obtain ⟨q,vs,n,hq,rfl,h1,h2⟩:=I.list_at hk r1
  obtain ⟨v,r,e,a,b⟩:=h2
  have ev:vs=(v::r).toArray:=by rw [← e]
  subst ev
  have e1:=b.length
  refine call_meets PySem.F.slot_list_pop ⟨_,h1,rfl⟩ PySem.F.entry_list_pop (PySem.F.args_list_pop_2 _ _) (PySem.MeetsSeq.list_pop_at q.1 _ n 0 t 0 v (by decide +kernel) (by simp [seqIndex?]) rfl (by rw [sizeLine_eq]; simp; unfold lim at hl; omega)) ⟨h1,?_⟩
  have up:(s.heap.update q.1 (Obj.mapSeq fun x=>x.eraseIdxIfInBounds 0)).get? q.1=some (listOf ((v::r).toArray.eraseIdxIfInBounds 0) _):=IsL.update (show IsL s.heap q.1 _ n from h1) _
  exact K.now (I.upd (m':=.list xs) hq hk rfl (a:=q.1) (by simp [kb]) (Heap.SameBut.update ..) ⟨_,up⟩ ⟨_,_,up,by simpa using b⟩) a
inductive IAt (X:Amb) (p:aw) (as:As) (k:Nat) (u:Value) (h:Heap) (ks:List (Int × Dat)):Prop
  | mk (q kvs):as[k]? = some q→u=.ref q.1→(q.1 == sysModules)=false→h.DictOf (intKind X.prog X.w) q.1 kvs→Side X p ks kvs→IAt X p as k u h ks
theorem Inv.idict_at (I:Inv X s₀ o p as mu F loc s) {k:Nat} {ks:List (Int × Dat)} {u:Value} (hk:mu[k]? = some (.idict ks)) (r:VRel X p as (.r k) u) :
    IAt X p as k u s.heap ks:=by
  obtain ⟨q,hq,rfl⟩:=r
  obtain ⟨h0,kvs,h1,h2,h3⟩:=I.mus _ _ _ hq hk
  exact ⟨q,kvs,hq,rfl,h0,h1,h2,h3⟩
theorem mh {i:Int} {t:Tok}:(intKind X.prog X.w).is i (.int i t)=true:=by simp [intKind,Value.isInt]
theorem Ds {k:Nat} {ks:List (Int × Dat)} {i:Int} {z:Dat} {u1 u2 u3:Value} (hk:mu[k]? = some (.idict ks)) (I:Inv X s₀ o p as mu F loc s) (r1:VRel X p as (.r k) u1) (r2:VRel X p as (.d (.int i)) u2) (r3:VRel X p as (.d z) u3)
    (K:Kv X s₀ o p as mu F loc Q (.d ((ks.lookup i).getD z))):wpAny (model X.prog X.w) A (call (.builtin "dict.get") [u1,u2,u3]) Q E s:=by
  obtain ⟨q,kvs,hq,rfl,h0,h1,h2⟩:=I.idict_at hk r1
  refine xe1 (cQ r2) fun t e1_=>?_
  rw [e1_]
  refine call_meetsIn PySem.F.slot_dict_get h1.typeIs PySem.F.entry_dict_get (PySem.F.args_dict_get_3 _ _ _) (meets_dict_get_default (knd:=intKind X.prog X.w) (hkey:=mh) (hd:=h0) (dflt:=u3)) ⟨_,h1.mapOf,K.here I ?_⟩
  rcases h2.look (i:=i) with ⟨a,b⟩ | ⟨d,u,a,b,c⟩ <;> rw [a,b]
  · exact r3
  · exact c
theorem EJ {k:Nat} {ks:List (Int × Dat)} {i:Int} {u1 u2:Value} (hk:mu[k]? = some (.idict ks)) (I:Inv X s₀ o p as mu F loc s) (r1:VRel X p as (.r k) u1) (r2:VRel X p as (.d (.int i)) u2)
    (K:Kv X s₀ o p as mu F loc Q (.d ((ks.lookup i).getD .none))):wpAny (model X.prog X.w) A (call (.builtin "dict.get") [u1,u2]) Q E s:=by
  obtain ⟨q,kvs,hq,rfl,h0,h1,h2⟩:=I.idict_at hk r1
  refine xe1 (cQ r2) fun t e1_=>?_
  subst e1_
  refine call_meetsIn PySem.F.slot_dict_get h1.typeIs PySem.F.entry_dict_get (PySem.F.args_dict_get_2 _ _) (meets_dict_get (knd:=intKind X.prog X.w) (hkey:=mh) (hd:=h0)) ⟨_,h1.mapOf,K.here I ?_⟩
  rcases h2.look (i:=i) with ⟨a,b⟩ | ⟨d,u,a,b,c⟩ <;> rw [a,b]
  · exact hZ
  · exact c
theorem oW {prog:Program} {w:World} {K:Type} [DecidableEq K] {knd:KeyKind prog w K} {d:Addr} {k:K} {key dflt:Value} (hd:(d == sysModules)=false) (hkey:knd.is k key=true) (hpart:(keyPart key).isSome=true) :
    MeetsIn prog w (Builtin.«dict.pop» ⟨[.ref d,key,dflt],[]⟩) (fun Z R s=>∃ kvs,s.heap.DictOf knd d kvs∧kvs.length≤sizeLine∧valueAt kvs k=none∧R (.ok (.ret dflt)) { s with toks:=s.toks+1 }) :=
  .of_wp fun A R s ⟨kvs,hm,hsz,hv,h⟩=>by
    unfold Builtin.«dict.pop»
    refine wpAny_bind ?_
    unfold Builtin.Dict.keyAndDefault
    refine wpAny_bind (wpAny_notOrdered_dict hm.typeIs ?_)
    show wpAny _ _ (pure (d,key,some dflt)) _ _ s
    refine wpAny_pure ?_
    simp only [hpart,if_true]
    refine wpAny_bind (wpAny_pure ?_)
    simp only [Bool.false_eq_true,if_false]
    refine wpAny_bind (wpAny_takeOut_pairs (hsz:=hsz) hkey hm (fun Z=>?_) fun e Z he=>by rw [he] at hv; exact nS hv.symm)
    simp only [Option.isNone_none,if_true]
    exact wpAny_bind (wpAny_missedRemoval_other hd (wpAny_bind (wpAny_rule (wpAny_pure ⟨_,rfl,h⟩))))
theorem D2 {k:Nat} {ks:List (Int × Dat)} {i:Int} {u1 u2:Value} (hk:mu[k]? = some (.idict ks)) (hl:ks.length≤lim) (I:Inv X s₀ o p as mu F loc s) (r1:VRel X p as (.r k) u1) (r2:VRel X p as (.d (.int i)) u2)
    (K:Kv X s₀ o p as (mu.set k (.idict (cO i ks))) F loc Q (.d ((ks.lookup i).getD .none))):wpAny (model X.prog X.w) A (call (.builtin "dict.pop") [u1,u2,.none]) Q E s:=by
  obtain ⟨q,kvs,hq,rfl,h0,h1,h2⟩:=I.idict_at hk r1
  refine xe1 (cQ r2) fun t e1_=>?_
  subst e1_
  have hz:kvs.length≤sizeLine:=by rw [h2.length]; exact fC hl
  rcases h2.look (i:=i) with ⟨a,b⟩ | ⟨d,u,a,b,c⟩
  · refine call_meetsIn PySem.F.slot_dict_pop h1.typeIs PySem.F.entry_dict_pop (PySem.F.args_dict_pop_3 _ _ _) (oW h0 mh rfl) ⟨kvs,h1,hz,b,K.here ?_ ?_⟩
    · have e:cO i ks=ks:=by
        unfold cO
        refine List.filter_eq_self.mpr fun kv hkv=>decide_eq_true fun q=>?_
        subst q
        have:ks.lookup kv.1 ≠ none:=by
          clear hk a h2 K hl hz
          induction ks with
          | nil=>cases hkv
          | cons x xs ih =>
            rw [List.lookup_cons]
            split
            · simp
            · rcases List.mem_cons.mp hkv with rfl | z
              · rename_i w; simp at w
              · exact ih z
        exact this a
      have e2:mu.set k (.idict ks)=mu:=by
        refine xe1 (List.getElem?_eq_some_iff.mp hk) fun h1 h2=>?_
        rw [← h2,List.set_getElem_self]
      rw [e,e2]; exact I
    · rw [a]; exact hZ
  · refine call_meetsIn PySem.F.slot_dict_pop h1.typeIs PySem.F.entry_dict_pop (PySem.F.args_dict_pop_3 _ _ _) (meets_dict_pop_there (knd:=intKind X.prog X.w) (d:=q.1) (hkey:=mh) (rest:=[.none]) (hrest:=.inr ⟨_,rfl⟩) (hpart:=rfl)) ⟨kvs,u,h1,hz,b,fun h' hd hs=>K.here (I.upd (m':=.idict (cO i ks)) hq hk rfl (a:=q.1) (by simp [FI]) hs ?_ ⟨h0,_,hd,h2.del⟩) ?_⟩
    · obtain ⟨ob,_,_,e,_⟩:=hd; exact ⟨ob,e⟩
    · rw [a]; exact c
theorem ItemsAre.two {i j:Int} {a b:Value} (ha:(intKind X.prog X.w).is i a=true) (hb:(intKind X.prog X.w).is j b=true):ItemsAre (intKind X.prog X.w) [i,j] [a,b]:=.cons ha (.cons hb .nil)
theorem tE {i j:Int} {u:Value} (r:VRel X p as (.d (.tup [.int i,.int j])) u):∃ a ob,u=.ref a∧p a=some ob∧KeyObj X [i,j] ob:=by
  refine RSeq.el (fX r) fun a vs n e3_ h1 h2=>?_
  rw [e3_]
  rw [kj] at h2
  obtain ⟨v,r,e,a1,h2⟩:=h2
  rw [kj] at h2
  obtain ⟨v',r',e',a2,h2⟩:=h2
  rw [ds0] at h2
  subst h2
  subst e'
  rw [uc] at a1 a2
  obtain ⟨t,rfl⟩:=a1
  obtain ⟨t',rfl⟩:=a2
  exact ⟨a,_,rfl,h1,rfl,vs,n,rfl,e ▸ ItemsAre.two mh mh⟩
theorem KeyObj.is {ks:List Int} {ob:Obj} {a:Addr} {h:Heap} (k:KeyObj X ks ob) (e:h.get? a=some ob):(tupleKind (intKind X.prog X.w)).is h ks a:=by
  obtain ⟨h1,items,n,h2,h3⟩:=k
  exact ⟨ob,items,n,e,h1,h2,h3⟩
noncomputable abbrev HC (X:Amb) (p:aw) (xs:List (List Int × Addr × Value)):Prop:=∀ x ∈ xs,(∃ ob,p x.2.1=some ob∧KeyObj X x.1 ob)∧∃ k t,x.2.2=.int k t
inductive SAt (X:Amb) (p:aw) (as:As) (k:Nat) (u:Value) (h:Heap) (b:Nat):Prop
  | mk (q xs):as[k]? = some q→u=.ref q.1→(q.1 == sysModules)=false→h.DictOfH (tupleKind (intKind X.prog X.w)) q.1 xs→HC X p xs→xs.length≤b→SAt X p as k u h b
theorem Inv.spots_at (I:Inv X s₀ o p as mu F loc s) {k b:Nat} {u:Value} (hk:mu[k]? = some (.spots b)) (r:VRel X p as (.r k) u) :
    SAt X p as k u s.heap b:=by
  obtain ⟨q,hq,rfl⟩:=r
  obtain ⟨h0,es,n,xs,h1,h2,h3,h4,h5⟩:=I.mus _ _ _ hq hk
  refine ⟨q,xs,hq,rfl,h0,⟨_,es.toArray,n,h1,⟨rfl,rfl,rfl⟩,rfl,by simpa using h2,fun x hx=>?_,h4⟩,h3,h5⟩
  obtain ⟨⟨ob,e,k⟩,_⟩:=h3 x hx
  exact k.is (I.ple _ _ e)
theorem yC {k b:Nat} {i j:Int} {u1 u2:Value} {t:Tok} (hR:Rm n A) (hk:mu[k]? = some (.spots b)) (I:Inv X s₀ o p as mu F loc s) (r1:VRel X p as (.r k) u1) (r2:VRel X p as (.d (.tup [.int i,.int j])) u2)
    (K:Kv X s₀ o p as mu F loc Q (.d .any)):wpAny (model X.prog X.w) A (call (.builtin "dict.get") [u1,u2,.int 0 t]) Q E s:=by
  obtain ⟨q,xs,hq,rfl,h0,h1,h2,h3⟩:=I.spots_at hk r1
  refine xe2 (tE r2) fun a ob r_=>gF r_ fun e2_ ha kk=>?_
  rw [e2_]
  refine call_meetsIn PySem.F.slot_dict_get h1.typeIs PySem.F.entry_dict_get (PySem.F.args_dict_get_3 _ _ _) (meetsH_dict_get_default (knd:=tupleKind (intKind X.prog X.w)) (d:=q.1) (a:=a) (hd:=h0) (dflt:=.int 0 t))
    ⟨tupleKind_room_in1 (by have:=hR.units; omega),_,xs,kk.is (I.ple _ _ ha),h1,K.here I ?_⟩
  show DRel X p .any _
  rw [IB]
  cases e:atKey xs [i,j] with
  | none=>exact ⟨0,t,rfl⟩
  | some z =>
    unfold atKey at e
    refine bN e fun x hx e2_=>?_
    clear e
    subst e2_
    obtain ⟨_,k',t',e'⟩:=h2 x (List.mem_of_find?_eq_some hx)
    exact ⟨k',t',e'⟩
theorem rD {o:Obj} {es:Array DictEntry} {n:Nat} (h:o.ExactDict) (hd:o.data=.dict es n):o=dictOf es.toList n:=by
  obtain ⟨c,d,dt,sl⟩:=o
  obtain ⟨h1,h2,h3⟩:=h
  dsimp only at h1 h2 h3 hd
  subst h1; subst h2; subst h3; subst hd
  simp
theorem xT {k b:Nat} {i j:Int} {u1 u2 u3:Value} {Q:Unit→Shared→Prop} (hR:Rm n A) (hk:mu[k]? = some (.spots b)) (hb:b < lim) (I:Inv X s₀ o p as mu F loc s) (r1:VRel X p as (.r k) u1) (r2:VRel X p as (.d (.tup [.int i,.int j])) u2)
    (r3:VRel X p as (.d .any) u3) (K:∀ s',Inv X s₀ o p as (mu.set k (.spots (b+1))) F loc s'→Q () s'):wpAny (model X.prog X.w) A (setItem u1 u2 u3) Q E s:=by
  obtain ⟨q,xs,hq,rfl,h0,h1,h2,h3⟩:=I.spots_at hk r1
  refine xe2 (tE r2) fun a ob r_=>gF r_ fun e2_ ha kk=>?_
  rw [e2_]
  have r3':DRel X p .any u3:=r3
  rw [IB] at r3'
  obtain ⟨z,t,rfl⟩:=r3'
  refine wpAny_setItem_heap (knd:=tupleKind (intKind X.prog X.w)) (tupleKind_room_in1 (by have:=hR.units; omega)) (kk.is (I.ple _ _ ha)) h1 (fun h' hd hs=>K _ ((I.upd (m':=.spots (b+1)) hq hk rfl (a:=q.1) (by simp [ty]) hs ?_ ?_).tok _)) (fC (by exact Jt hb h3))
  · obtain ⟨ob,_,_,e,_⟩:=hd; exact ⟨ob,e⟩
  · obtain ⟨ob',es,ep,e,h4,h5,h6,h7,h8⟩:=hd
    refine ⟨h0,es.toList,ep,storedH xs [i,j] a (.int z t),by rw [e,rD h4 h5],h6,?_,h8,?_⟩
    · intro x hx
      unfold storedH at hx
      split at hx
      · refine xe1 (List.mem_map.mp hx) fun y r_=>aO r_ fun hy e2_=>?_
        rw [← e2_]
        obtain ⟨a1,a2⟩:=h2 y hy
        unfold putAt
        split
        · exact ⟨a1,z,t,rfl⟩
        · exact ⟨a1,a2⟩
      · rcases List.mem_append.mp hx with hx | hx
        · exact h2 x hx
        · rw [List.mem_singleton] at hx
          rw [hx]
          exact ⟨⟨ob,ha,kk⟩,z,t,rfl⟩
    · unfold storedH
      split <;> simp <;> omega
end
end Mine.Internal
namespace Mine.Internal
section
variable {X:Amb} {s₀ s:Shared} {o p:aw} {as:As} {mu mu':Mu} {F:Fm} {loc:ae} {A:Around} {E:Value→Shared→Prop} {Q:Unit→Shared→Prop} {n:Nat}
theorem r5 {l:Addr} {items:Array Value} {m:Nat} {k:Int} {t:Tok} {v:Value} (hl:s.heap.get? l=some (listOf items m)) (h0:0≤k) (hfit:k < 2 ^ 63) (hn:k < items.size)
    (hQ:∀ m' h',h'.get? l=some (listOf (items.setIfInBounds k.toNat v) m')→Heap.SameBut l s.heap h'→Q () { s with heap:=h' }):wpAny (model X.prog X.w) A (setItem (.ref l) (.int k t) v) Q E s:=by
  have hT:s.TypeIs (.ref l) "list" := ⟨_,hl,rfl⟩
  unfold setItem
  try with_reducible refine wpAny_holding ?_
  first | refine wpAny_bind (wpAny_pure ?_) | skip
  refine wpAny_bind (wpAny_sequenceKey hT (by decide) ?_)
  refine wpAny_bind (wpAny_callSpecial?_slot (name:=Str.ofString "__setitem__") hT slot_list_setitem
    (wpAny_call_entry slot_list_setitem hT entry_list_setitem ?_ (args_list_setitem _ _ _)))
  show wpAny _ _ (Builtin.List.listSubscript? (.int k t) >>= _) _ _ s
  refine wpAny_bind (wpAny_listSubscript_int (fitsIndex_of h0 hfit) ?_)
  clear hfit
  refine xe1 (Int.eq_ofNat_of_zero_le h0) fun j e1_=>?_
  subst e1_
  have hj:j < items.size:=by omega
  have hx':items[j]? = some items[j]:=Array.getElem?_eq_getElem hj
  show wpAny _ _ ((seqItemAt l j >>= fun r=>pure (r.map (j,·))) >>= _) _ _ s
  refine wpAny_bind (wpAny_bind (wpAny_seqItemAt hl rfl (wpAny_pure ?_)))
  rw [hx']
  show wpAny _ _ (setSeqItemAt l j v >>= _) _ _ s
  have up:(s.heap.update l (Obj.mapSeq fun x=>x.setIfInBounds j v)).get? l=some (listOf (items.setIfInBounds j v) _):=IsL.update (show IsL s.heap l items m from hl) _
  refine wpAny_bind (wpAny_setSeqItemAt hl rfl ?_)
  first
    | exact wpAny_bind (wpAny_pure (wpAny_pure ⟨.none,rfl,wpAny_pure (hQ _ _ up (Heap.SameBut.update ..))⟩))
    | exact wpAny_pure ⟨.none,rfl,wpAny_pure (hQ _ _ up (Heap.SameBut.update ..))⟩
theorem A5 {k j:Nat} {xs:List Val} {i:Int} {x:Val} {u1 u2 u3:Value} (hk:mu[k]? = some (.list xs)) (hj:cU i xs.length=some j) (I:Inv X s₀ o p as mu F loc s) (r1:VRel X p as (.r k) u1) (r2:VRel X p as (.d (.int i)) u2)
    (r3:VRel X p as x u3) (K:∀ s',Inv X s₀ o p as (mu.set k (.list (xs.set j x))) F loc s'→Q () s'):wpAny (model X.prog X.w) A (setItem u1 u2 u3) Q E s:=by
  obtain ⟨q,vs,n,hq,rfl,h1,h2⟩:=I.list_at hk r1
  refine xe1 (cQ r2) fun t e1_=>?_
  subst e1_
  refine uW (mA hj) fun i1 e1_ i3 i4=>?_
  subst e1_
  have hz:xs.length=vs.size:=by simpa using h2.length
  refine r5 h1 i1 (by exact ib i4 rfl) (by omega) fun m' h' hl hs=>K _ (I.upd (m':=.list (xs.set i.toNat x)) hq hk rfl (a:=q.1) (by simp [kb]) hs ⟨_,hl⟩ ⟨_,_,hl,?_⟩)
  simpa using h2.set i.toNat r3
theorem zV {k:Nat} {ks:List (Int × Dat)} {i:Int} {x:Dat} {u1 u2 u3:Value} (hk:mu[k]? = some (.idict ks)) (hl:ks.length < lim) (I:Inv X s₀ o p as mu F loc s) (r1:VRel X p as (.r k) u1) (r2:VRel X p as (.d (.int i)) u2)
    (r3:VRel X p as (.d x) u3) (K:∀ s',Inv X s₀ o p as (mu.set k (.idict (cj i x ks))) F loc s'→Q () s'):wpAny (model X.prog X.w) A (setItem u1 u2 u3) Q E s:=by
  obtain ⟨q,kvs,hq,rfl,h0,h1,h2⟩:=I.idict_at hk r1
  refine xe1 (cQ r2) fun t e1_=>?_
  subst e1_
  refine wpAny_setItem_pairs (knd:=intKind X.prog X.w) mh h1 (fun h' hd hs=>K _ ((I.upd (m':=.idict (cj i x ks)) hq hk rfl (a:=q.1) (by simp [FI]) hs ?_ ⟨h0,_,hd,h2.put r3⟩).tok _)) (fC (by rw [h2.length]; exact bt hl rfl))
  obtain ⟨ob,_,_,e,_⟩:=hd; exact ⟨ob,e⟩
theorem rx {w:W} {x:Val} {u:Value}:∀ {ks:List W} {xs:List Val} {kvs:List (Str × Value)},kvs.map (·.1)=ks.map W.str→VRels X p as xs (kvs.map (·.2))→VRel X p as x u →
    (kvs.map fun kv=>if kv.1=w.str then (kv.1,u) else kv).map (·.1)=ks.map W.str∧VRels X p as (my w x ks xs) ((kvs.map fun kv=>if kv.1=w.str then (kv.1,u) else kv).map (·.2))
  | [],xs,[],_,h,_=>by
    have:xs=[]:=by have:=h.length; simpa using this
    subst this
    exact ⟨rfl,rfl⟩
  | [],_,_::_,h,_,_=>by simp at h
  | _::_,_,[],h,_,_=>by simp at h
  | k::ks,[],q::kvs,_,h,_=>by have:=h.length; simp at this
  | k::ks,y::ys,q::kvs,hk,h,r=>by
    obtain ⟨v,z,e,a1,a2⟩:=h
    cases e
    simp only [List.map_cons,List.cons.injEq] at hk
    obtain ⟨b1,b2⟩:=rx hk.2 a2 r
    have e1:(q.1=w.str) ↔ k=w:=⟨fun e=>W.inj (hk.1 ▸ e),fun e=>by rw [hk.1,e]⟩
    unfold my
    simp only [List.map_cons,List.zipWith_cons_cons]
    by_cases e:k=w
    · have e':=e1.mpr e
      simp only [e,e',if_true]
      exact ⟨by rw [b1],_,_,rfl,r,b2⟩
    · have e':¬ q.1=w.str:=fun z=>e (e1.mp z)
      simp only [e,e',if_false]
      exact ⟨by rw [b1,hk.1],_,_,rfl,a1,b2⟩
theorem zj {k:Nat} {ks:List W} {xs:List Val} {w:W} {x:Val} {u1 u2 u3:Value} (hk:mu[k]? = some (.sdict ks xs)) (hc:ks.contains w=true) (hl:ks.length≤lim) (I:Inv X s₀ o p as mu F loc s) (r1:VRel X p as (.r k) u1) (r2:VRel X p as (.d (.str w)) u2)
    (r3:VRel X p as x u3) (K:∀ s',Inv X s₀ o p as (mu.set k (.sdict ks (my w x ks xs))) F loc s'→Q () s'):wpAny (model X.prog X.w) A (setItem u1 u2 u3) Q E s:=by
  obtain ⟨q,hq,rfl⟩:=r1
  obtain ⟨h0,kvs,h1,h2,h3⟩:=I.mus _ _ _ hq hk
  refine xe1 (tZ r2) fun t e1_=>?_
  subst e1_
  have hlen:kvs.length=ks.length:=by have:=congrArg List.length h2; simpa using this
  have any:kvs.any (fun kv=>kv.1=w.str)=true:=by
    have:=no (w:=w) h2
    rw [hc] at this
    refine xe1 (List.mem_map.mp (of_decide_eq_true this)) fun kv r_=>aO r_ fun a b=>?_
    exact List.any_eq_true.mpr ⟨kv,a,decide_eq_true b⟩
  have st:stored kvs w.str u3=kvs.map fun kv=>if kv.1=w.str then (kv.1,u3) else kv:=by unfold stored; rw [any]; rfl
  refine aO (rx (w:=w) h2 h3 r3) fun b1 b2=>?_
  refine wpAny_setItem_pairs (knd:=strKind X.prog X.w) (strKind_is _ _ _ _) h1 (fun h' hd hs=>K _ ((I.upd (m':=.sdict ks (my w x ks xs)) hq hk rfl (a:=q.1) (by simp [zf]) hs ?_ ⟨h0,_,hd,by rw [st]; exact b1,by rw [st]; exact b2⟩).tok _)) (fC (by exact KO hl hlen))
  obtain ⟨ob,_,_,e,_⟩:=hd; exact ⟨ob,e⟩
theorem DY {fs:List Fld}:∀ {es:List DictEntry} {xs:List Val} {f:Fld} {x:Val} {u:Value} {t:Tok} , ia X.w.params (fs.map Fld.str) es→VRels X p as xs (es.map (·.val))→VRel X p as x u →
    ia X.w.params ((ko f fs).map Fld.str) (putL f.str (PyData.keyHash X.w.params f.str) (.str f.str t) u es)∧VRels X p as (jx f x fs xs) ((putL f.str (PyData.keyHash X.w.params f.str) (.str f.str t) u es).map (·.val)):=by
  induction fs with
  | nil =>
    intro es xs f x u t hk hv hr
    cases es with
    | cons _ _=>exact hk.elim
    | nil =>
      have:xs=[]:=by have:=hv.length; simpa using this
      rw [this]
      exact ⟨⟨⟨t,rfl⟩,rfl,trivial⟩,u,[],rfl,hr,rfl⟩
  | cons g fs ih =>
    intro es xs f x u t hk hv hr
    cases es with
    | nil=>exact hk.elim
    | cons e es =>
      obtain ⟨⟨t',h1⟩,h2,h3⟩:=hk
      cases xs with
      | nil=>have:=hv.length; simp at this
      | cons y ys =>
        obtain ⟨v,r,e1,a1,a2⟩:=hv
        cases e1
        rw [GV]; rw [Fi]; unfold putL
        by_cases e2:g=f
        · subst e2
          have e3:Value.isStr e.key g.str=true:=by rw [h1]; simp [Value.isStr]
          simp only [e3,if_true]
          exact ⟨⟨⟨t',h1⟩,h2,h3⟩,u,_,rfl,hr,a2⟩
        · have e3:Value.isStr e.key f.str=false:=by rw [h1]; exact beq_eq_false_iff_ne.mpr fun z=>e2 (Fld.inj z)
          simp only [e2,if_false,e3,Bool.false_eq_true]
          obtain ⟨b1,b2⟩:=ih (f:=f) (x:=x) (u:=u) (t:=t) h3 a2 hr
          exact ⟨⟨⟨t',h1⟩,h2,b1⟩,_,_,rfl,a1,b2⟩
theorem pK {P:Params}:∀ {fs:List Fld} {es:List DictEntry},ia P (fs.map Fld.str) es→es.any (·.refKey)=false
  | [],[],_=>rfl
  | [],_::_,h=>h.elim
  | _::_,[],h=>h.elim
  | g::fs,e::es,⟨⟨t,h1⟩,h2,h3⟩=>by
    rw [List.any_cons,pK h3,Bool.or_false]
    unfold DictEntry.refKey; rw [h1]
theorem oq {f:Str} {h:Int} {k v:Value}:∀ {es:List DictEntry},(putL f h k v es).length≤es.length+1
  | []=>by simp [putL]
  | e::es=>by
    unfold putL
    split
    · simp
    · simpa using oq (es:=es)
theorem AL {k:Nat} {c:Cls} {fs:List Fld} {xs:List Val} {f:Fld} {x:Val} {u1 u3:Value} (hk:mu[k]? = some (.inst c fs xs)) (hl:fs.length < lim) (hK:X.K.In X.H₀) (hC:∀ c,ClsOK X c) (I:Inv X s₀ o p as mu F loc s)
    (r1:VRel X p as (.r k) u1) (r3:VRel X p as x u3) (K:∀ s',Inv X s₀ o p as (mu.set k (.inst c (ko f fs) (jx f x fs xs))) F loc s'→Q () s'):wpAny (model X.prog X.w) A (setAttr u1 f.str u3) Q E s:=by
  obtain ⟨q,hq,rfl⟩:=r1
  obtain ⟨es,m,h1,h2,h3,h4⟩:=I.mus _ _ _ hq hk
  have hz:=(rI (f:=f) h3).2
  have IA:InstAt s.heap q.1 (instObj (X.cls c) q.2) (X.cls c) (some (dictOf es m)):=⟨h1,rfl,rfl,h2⟩
  have Xs:X.K.In s.heap:=I.K hK
  refine set_plain Xs IA (hC c).set (osa_open (s:={ s with toks:=s.toks+1 }) Xs IA (hC c).over ((hC c).taker f) fun b=>?_)
  refine xe1 (any_some (hC c).dict) fun cd r_=>aO r_ fun hc hd'=>?_
  dsimp only
  refine wpAny_bind (wpAny_pure (wpAny_bind (wpAny_bind (wpAny_loadPart (s:={ s with toks:=s.toks+1 }) h1 (wpAny_bind (Looks.here (s:={ s with toks:=s.toks+1 }) (looks_clsIn Xs hc) ?_))))))
  rw [hd']
  refine wpAny_pure (a:=some q.2) (wpAny_bind (wpAny_pure (wpAny_bind ?_)))
  unfold nsSet
  refine wpAny_bind (wpAny_bind (wpAny_askSetting (wpAny_pure (wpAny_bind (wpAny_mkText (wpAny_bind (wpAny_loadPart h2 ?_)))))))
  dsimp only
  have cc:(!es.toArray.any (·.key.isStr f.str) && es.toArray.any (·.refKey))=false:=by
    rw [← Array.any_toList,← Array.any_toList]
    simp only [pK h3,Bool.and_false]
  rw [aRefKeyMayBeTheName_at,cc]
  refine wpAny_updatePart h2 ?_
  have up:(s.heap.update q.2 (Obj.putName f.str (PyData.keyHash X.w.params f.str) (.str f.str (s.toks+1)) u3)).get? q.2=some (dictOf (putL f.str (PyData.keyHash X.w.params f.str) (.str f.str (s.toks+1)) u3 es) (putN f.str es m)):=by
    have:=Heap.get?_update_self (Obj.putName f.str (PyData.keyHash X.w.params f.str) (.str f.str (s.toks+1)) u3) h2 (by rw [putName_dict]; rfl)
    rw [putName_dict] at this; exact this
  have zl:=oq (f:=f.str) (h:=PyData.keyHash X.w.params f.str) (k:=.str f.str (s.toks+1)) (v:=u3) (es:=es)
  refine wpAny_bind (wpAny_lookBehind (s:=⟨s.heap.update q.2 (Obj.putName f.str (PyData.keyHash X.w.params f.str) (.str f.str (s.toks+1)) u3),s.gens,s.drawn,s.toks+2,s.os⟩) up (pastItsLine_dict (by rw [List.size_toArray,sizeLine_eq]; unfold lim at hl; omega)) ?_)
  refine wpAny_pure ?_
  refine aO (DY (f:=f) (x:=x) (u:=u3) (t:=s.toks+1) h3 h4 r3) fun b1 b2=>?_
  refine K _ ((I.upd (m':=.inst c (ko f fs) (jx f x fs xs)) hq hk rfl (a:=q.2) (by simp [oz]) (Heap.SameBut.update ..) ⟨_,up⟩ ⟨_,_,?_,up,b1,b2⟩).tok _)
  refine (Heap.get?_update_other _ _ ?_).trans h1
  intro e
  rw [← e,h2] at h1
  cases h1
end
end Mine.Internal
namespace Mine.Internal
section
variable {X:Amb} {s₀ s:Shared} {o p:aw} {as:As} {mu mu':Mu} {F:Fm} {loc:ae} {A:Around} {E:Value→Shared→Prop} {Q:Value→Shared→Prop} {n:Nat}
theorem Inv.keepsT (I:Inv X s₀ o p as mu F loc s) {h':Heap} {tk:Nat} (hk:∀ a ob,s.heap.get? a=some ob→h'.get? a=some ob):Inv X s₀ o p as mu F loc { s with heap:=h',toks:=tk }:=(I.keeps hk).tok tk
theorem ve {q:Bool} {xs:List Val} {v:Val} {vs:Array Value} {m tk:Nat} {h':Heap} {a:Addr} (e:cx q mu xs (bE xs)=some (v,mu')) (I:Inv X s₀ o p as mu F loc s) (hk:∀ a ob,s.heap.get? a=some ob→h'.get? a=some ob)
    (ha:s.heap.objs.size≤a) (hg:h'.get? a=some (listOf vs m)) (r:VRels X p as xs vs.toList) (K:Kv X s₀ o p as mu' F loc Q v):Q (.ref a) { s with heap:=h',toks:=tk }:=by
  have I':=I.keepsT (tk:=tk) hk
  obtain ⟨f1,f2,f3⟩:=I.fresh_of ha
  unfold cx at e
  split at e
  · cases q with
    | true =>
      replace K:=Kv.eqS K e
      refine K _ _ _ _ Sub.refl (List.prefix_append _ [(a,0)]) (I'.toM (q:=(a,0)) (m:=.list xs) ⟨vs,m,hg,r.mono Sub.refl (List.prefix_append _ _)⟩ (by simp [kb]) (fun b hb=>?_) fun b hb=>?_) ⟨(a,0),by rw [← I.len]; exact List.getElem?_concat_length ..,rfl⟩
      · simp only [kb,List.mem_singleton] at hb; rw [hb]; exact f3
      · simp only [kb,List.mem_singleton] at hb; rw [hb]; exact ⟨f1,f2,_,hg⟩
    | false =>
      refine bN e fun ds e1 e2=>?_
      clear e
      replace K:=Kv.eqP K e2
      refine K _ _ _ _ (Sub.put1 f1) (List.prefix_refl _) (I'.toP hg f1 f2 f3) ?_
      show DRel X _ (.lst ds) _
      rw [yK]
      exact ⟨_,vs,m,rfl,cb,(VRels.toD e1 r).mono (Sub.put1 f1)⟩
  · exact nS e
theorem DRels.ints {is:List Int}:∀ {vs:List Value},DRels X p (is.map .int) vs→∃ xs:Array (Int × Tok),vs.toArray=intItems xs∧xs.toList.map (·.1)=is:=by
  induction is with
  | nil=>intro vs h; rw [List.map_nil,ds0] at h; subst h; exact ⟨#[],by simp [intItems],rfl⟩
  | cons i is ih =>
    intro vs h
    rw [List.map_cons,kj] at h
    obtain ⟨v,r,rfl,a,b⟩:=h
    rw [uc] at a
    obtain ⟨t,rfl⟩:=a
    obtain ⟨xs,e1,e2⟩:=ih b
    refine ⟨⟨(i,t)::xs.toList⟩,?_,by simp [e2]⟩
    have:=congrArg Array.toList e1
    simp only [intItems] at this ⊢
    simp only [List.map_toArray,Array.toList_map] at this ⊢
    simp only [List.map_cons]
    rw [← this]
theorem xh {a b c:Int} {xs:List Dat} {acc:Array Value} {k:Nat} (e:items (.rng a b c)=some xs) (hn:Builtin.Range.rangeSize a b c=k) (h:ItemsOf (fun i v=>∃ t,v=.int (a+i * c) t) acc k) :
    DRels X p xs acc.toList:=by
  unfold items at e
  dsimp only at e
  split at e
  · exact nS e
  · have gen:∀ {n:Nat} {f:Nat→Int} {vs:List Value},vs.length=n→(∀ i v,vs[i]? = some v→∃ t,v=Value.int (f i) t)→DRels X p ((List.range n).map fun i=>Dat.int (f i)) vs:=by
      intro n
      induction n with
      | zero =>
        intro f vs h Z; have:vs=[]:=by simpa using h
        subst this; exact dz
      | succ n ih =>
        intro f vs h g
        cases vs with
        | nil=>simp at h
        | cons v vs =>
          rw [List.range_succ_eq_map,List.map_cons,kj,List.map_map]
          refine ⟨v,vs,rfl,?_,ih (f:=fun i=>f (i+1)) (by simpa using h) fun i w hw=>g (i+1) w (by simpa using hw)⟩
          rw [uc]
          exact g 0 v rfl
    obtain ⟨h1,h2⟩:=h
    split at e
    · rename_i hc
      subst hc
      (replace e:=iS e; subst e)
      rw [rangeSize_one] at hn
      refine gen (by rw [Array.length_toList,h1]; split at hn <;> omega) fun i v hv=>?_
      obtain ⟨t,rfl⟩:=h2 i v (by simpa using hv)
      exact ⟨t,by simp⟩
    · split at e
      · rename_i hc
        subst hc
        (replace e:=iS e; subst e)
        rw [rangeSize_downNat] at hn
        refine gen (by rw [Array.length_toList,h1]; omega) fun i v hv=>?_
        obtain ⟨t,rfl⟩:=h2 i v (by simpa using hv)
        exact ⟨t,by congr 1; exact mi⟩
      · exact nS e
theorem qD {a b c:Int} {t u x:Tok} {tk:Nat} (I:Inv X s₀ o p as mu F loc s) (K:Kv X s₀ o p as mu F loc Q (.d (.rng a b c))) :
    Q (.ref s.heap.objs.size) { s with heap:=s.heap.push { cls:=.type "range", data:=.fields #[.int a t,.int b u,.int c x] },toks:=tk }:=by
  refine K _ _ _ _ (Sub.put1 I.fresh_p) (List.prefix_refl _) ((I.pushP _ rfl).tok tk) ?_
  show DRel X _ (.rng a b c) _
  rw [Ks]
  exact ⟨_,t,u,x,rfl,cb⟩
theorem m7 {vs:List Val} {us:List Value} {v:Val} (h:one vs=some v) (r:VRels X p as vs us):∃ u,us=[u]∧VRel X p as v u:=by
  rw [CA h] at r
  obtain ⟨u,_,rfl,r1,rfl⟩:=r
  exact ⟨u,rfl,r1⟩
theorem yw {a:Val} {k:Nat} {v:Val} {u:Value} (hlim:k≤lim) (e:some (Val.d (.int k))=some v) (I:Inv X s₀ o p as mu F loc s) (T:(∃ xs,a=.d (.tup xs)∧xs.length=k)∨∃ xs,fP mu a=some xs∧xs.length=k) (r:VRel X p as a u) (K:Kv X s₀ o p as mu F loc Q v):wpAny (model X.prog X.w) A (call (.builtin "len") [u]) Q E s:=by
  rw [← iS e] at K
  have hs:∀ {ws:Array Value},k=ws.toList.length→ws.size=k:=fun h=>by rw [h,Array.length_toList]
  rcases T with ⟨xs,rfl,rfl⟩ | ⟨xs,ex,rfl⟩
  · refine RSeq.el (fX r) fun a ws m e3_ h1 h2=>?_
    subst e3_
    have hz:=hs h2.length
    refine len_tuple ⟨_,I.ple _ _ h1,rfl,m,rfl⟩ (by unfold lim at *; omega) ?_
    rw [hz]; exact K.here I eE
  · refine RSeq.el (jT I ex r) fun a ws m e3_ h1 h2=>?_
    subst e3_
    have hz:=hs h2.length
    refine Calls.call_len_list ⟨_,h1,rfl,m,rfl⟩ (by unfold lim at *; omega) ?_
    rw [hz]; exact K.here I eE
theorem F8 {vs:List Val} {us:List Value} {v:Val} (e:zb vs=some v) (I:Inv X s₀ o p as mu F loc s) (r:VRels X p as vs us) (K:Kv X s₀ o p as mu F loc Q v):wpAny (model X.prog X.w) A (call (.type "range") us) Q E s:=by
  match vs,e,r with
  | [],e,_=>exact nS e
  | [b],e,r =>
    refine xe1 (gq (show (vI b).map (fun b=>Val.d (.rng 0 b 1))=some v from e)) fun x r_=>aO r_ fun hx e2_=>?_
    subst e2_
    rw [fR hx] at r
    obtain ⟨u1,_,rfl,r1,rfl⟩:=r
    refine xe1 (cQ r1) fun t1 e1_=>?_
    subst e1_
    exact call_range_1 (qD I K)
  | [a,b],e,r =>
    refine xe2 (xu (show jA a b (fun a b=>some (Val.d (.rng a b 1)))=some v from e)) fun x y r_=>gF r_ fun e2_ e3_ e=>?_
    subst e2_
    subst e3_
    (replace e:=iS e; subst e)
    obtain ⟨u1,_,rfl,r1,u2,_,rfl,r2,rfl⟩:=r
    refine xe1 (cQ r1) fun t1 e1_=>?_
    rw [e1_]
    refine xe1 (cQ r2) fun t2 e1_=>?_
    subst e1_
    exact call_range_2 (qD I K)
  | [a,b,c],e,r =>
    refine xe2 (xu (show jA a b (fun a b=>(vI c).bind fun c=>if c = -1∧jy a b=true then some (Val.d (.rng a b c)) else none)=some v from e)) fun x y r_=>gF r_ fun e2_ e3_ e=>?_
    subst e2_
    subst e3_
    refine bh e fun z hz e=>?_
    refine aO (kI e) fun q0_ e=>?_
    obtain ⟨rfl,hr⟩:=q0_
    (replace e:=iS e; subst e)
    rw [fR hz] at r
    obtain ⟨u1,_,rfl,r1,u2,_,rfl,r2,u3,_,rfl,r3,rfl⟩:=r
    refine xe1 (cQ r1) fun t1 e1_=>?_
    rw [e1_]
    refine xe1 (cQ r2) fun t2 e1_=>?_
    rw [e1_]
    refine xe1 (cQ r3) fun t3 e1_=>?_
    rw [e1_]
    exact call_range_3 (by decide) (qD I K) (.inl (PyProof.noPylong_small (by decide)))
  | _::_::_::_::_,e,_=>exact nS e
theorem Hj {b:Bi} {vs:List Val} {us:List Value} {v:Val} (e:bi mu b vs=some v) (hR:Rm n A) (I:Inv X s₀ o p as mu F loc s) (r:VRels X p as vs us) (K:Kv X s₀ o p as mu F loc Q v):wpAny (model X.prog X.w) A (call b.val us) Q E s:=by
  cases b with
  | len =>
    refine bh e fun a ha e1=>?_
    clear e
    refine xe1 (m7 ha r) fun u r_=>aO r_ fun e1_ r1=>?_
    subst e1_
    rcases fY (G:=fun r=>r=some v) e1 with ⟨_,e2⟩ | ⟨xs,hx,e2⟩
    · refine bh e2 fun xs hx e3=>?_
      clear e2
      refine aO (kI e3) fun hl e4=>?_
      exact yw hl e4 I (.inr ⟨xs,hx,rfl⟩) r1 K
    · refine aO (kI e2) fun hl e4=>?_
      exact yw hl e4 I (.inl ⟨xs,oX hx,rfl⟩) r1 K
  | max =>
    refine bK e fun a b ha e1=>?_
    clear e
    rw [CJ ha] at r
    obtain ⟨u1,_,rfl,r1,u2,_,rfl,r2,rfl⟩:=r
    refine fK (G:=fun u1 u2=>wpAny (model X.prog X.w) A (call (.builtin "max") [u1,u2]) Q E s) e1 r1 r2 fun x t y t' e=>?_
    (replace e:=iS e; subst e)
    refine max_two_ints hR.hand fun h' tk hk=>?_
    have K:=K _ _ { s with heap:=h',toks:=tk } (.int (if x < y then y else x) (if x < y then t' else t)) Sub.refl (List.prefix_refl _) (I.keepsT hk) eE
    by_cases c:x < y
    · rw [if_pos (show y > x from c)]; rw [if_pos c,if_pos c] at K; exact K
    · rw [if_neg (show ¬ y > x from c)]; rw [if_neg c,if_neg c] at K; exact K
  | int =>
    refine bh e fun a ha e1=>?_
    clear e
    refine xe1 (m7 ha r) fun u r_=>aO r_ fun e1_ r1=>?_
    subst e1_
    refine bN e1 fun c hc e2_=>?_
    clear e1
    subst e2_
    rw [Fc hc] at r1
    cases iY r1
    exact call_int_bool (K.here I eE)
  | sum =>
    refine bh e fun a ha e1=>?_
    clear e
    refine xe1 (m7 ha r) fun u r_=>aO r_ fun e1_ r1=>?_
    subst e1_
    refine bh e1 fun zs hz e2=>?_
    clear e1
    refine bN e2 fun is ei e2_=>?_
    clear e2
    subst e2_
    rw [tL hz] at r1
    refine RSeq.el (iR r1) fun a ws m e3_ h1 h2=>?_
    rw [e3_]
    rw [kR ei] at h2
    obtain ⟨xs,e1,e2⟩:=h2.ints
    have e1:ws=intItems xs:=by rw [← e1,Array.toArray_toList]
    subst e1
    refine sum_intListG hR.hand ⟨_,I.ple _ _ h1,rfl,m,rfl⟩ fun h' tk t' hk=>?_
    rw [preSum_eq,List.take_of_length_le (by simp),e2]
    exact K _ _ _ _ Sub.refl (List.prefix_refl _) (I.keepsT hk) eE
  | tuple =>
    refine bh e fun a ha e1=>?_
    clear e
    refine xe1 (m7 ha r) fun u r_=>aO r_ fun e1_ r1=>?_
    subst e1_
    rcases fY (G:=fun r=>r=some v) e1 with ⟨_,e2⟩ | ⟨xs,hx,e2⟩
    · refine bh e2 fun xs ex e3=>?_
      clear e2
      refine bh e3 fun ds ed e4=>?_
      clear e3
      have em:(f9 ds).map (·,mu)=some (v,mu):=by rw [e4]; rfl
      refine RSeq.el (jT I ex r1) fun a ws m e3_ h1 h2=>?_
      rw [e3_]
      have hz:=nP em
      have hz2:xs.length=ws.size:=by rw [h2.length,Array.length_toList]
      rw [k9 ed] at hz
      exact call_tuple_list ⟨_,h1,rfl,m,rfl⟩ (fun h' hk=>m9 (t:=s.toks) (mu:=mu) (mu':=mu) (n:=0) (s:={ s with heap:=h' }) em (I.keeps hk) (VRels.toD ed h2) K) (fC (by exact yN hz hz2))
    · (replace e2:=iS e2; subst e2)
      rw [oX hx] at r1
      refine RSeq.el (fX r1) fun a ws m e3_ h1 h2=>?_
      subst e3_
      exact call_tuple_tup ⟨_,I.ple _ _ h1,rfl,m,rfl⟩ (K.now I r1)
  | dict=>exact nS e
  | range=>exact F8 e I r K
end
end Mine.Internal
namespace Mine.Internal
section
variable {X:Amb} {s₀ s:Shared} {o p:aw} {as:As} {mu mu':Mu} {F:Fm} {loc:ae} {A:Around} {E:Value→Shared→Prop} {Q:Value→Shared→Prop} {n:Nat}
theorem Inv.not_sys (I:Inv X s₀ o p as mu F loc s) (hs:sysModules < X.tab) {a:Addr} (ha:s.heap.objs.size≤a):(a == sysModules)=false:=by
  obtain ⟨ps,e,_⟩:=I.tb
  have h1:X.tab < s.heap.objs.size:=Heap.lt_size e
  exact beq_eq_false_iff_ne.mpr fun q=>absurd (Nat.lt_trans hs h1) (Nat.not_lt.mpr (q ▸ ha))
theorem Dq {u:Value} (hs:sysModules < X.tab) (I:Inv X s₀ o p as mu F loc s) (r:VRel X p as (.d (.spots 0)) u) (K:Kv X s₀ o p as (mu++[.spots 0]) F loc Q (.r mu.length)) :
    wpAny (model X.prog X.w) A (call (.type "dict") [u]) Q E s:=by
  have r':DRel X p (.spots 0) u:=r
  rw [IJ] at r'
  obtain ⟨a,es,m,rfl,h0,h1,h2⟩:=r'
  have:es=[]:=by simpa using h2
  subst this
  refine kt_call_dict (knd:=strKind X.prog X.w) (more:=[]) h0 ⟨_,#[],m,I.ple _ _ h1,⟨rfl,rfl,rfl⟩,rfl,fun Z h=>by simp at h,Pairs.nil,List.nodup_nil⟩ (by simp) fun h' hd hb=>?_
  obtain ⟨ob,es,ep,e,h4,h5,h6,h7,h8⟩:=hd
  have hes:es.toList=[]:=by have:=h7.length; simpa using this
  have hk:∀ a ob,s.heap.get? a=some ob→h'.get? a=some ob:=fun a ob e=>(hb.2 a (Nat.ne_of_lt (Heap.lt_size e))).trans (Heap.get?_push_of_some _ e)
  obtain ⟨f1,f2,f3⟩:=I.fresh_of (Nat.le_refl _)
  have eo:=rD h4 h5
  refine K _ _ _ _ Sub.refl (List.prefix_append _ [(s.heap.objs.size,0)]) ((I.keeps hk).toM (q:=(s.heap.objs.size,0)) (m:=.spots 0) ⟨I.not_sys hs (Nat.le_refl _),[],ep,[],by rw [e,eo,hes],rfl,by simp,by simp,by simp⟩ (by simp [ty]) (fun b hb=>?_) fun b hb=>?_) ⟨(s.heap.objs.size,0),by rw [← I.len]; exact List.getElem?_concat_length ..,rfl⟩
  · simp only [ty,List.mem_singleton] at hb; rw [hb]; exact f3
  · simp only [ty,List.mem_singleton] at hb; rw [hb]; exact ⟨f1,f2,_,e⟩
theorem rL {a b c:Int} (h:jy a b=true) (hc:c=1∨c = -1):Builtin.Range.small a b c=true:=by
  unfold jy lim at h
  rw [Bool.and_eq_true] at h
  have h1:=of_decide_eq_true h.1
  have h2:=of_decide_eq_true h.2
  rcases hc with rfl | rfl
  · exact small_one (by exact CF h1) (by exact BJ h1) (by exact CF h2) (by exact BJ h2)
  · exact small_down (by exact CF h1) (by exact BJ h1) (by exact CF h2) (by exact BJ h2)
theorem z1 {a b c:Int} {u:Value} (r:VRel X p as (.d (.rng a b c)) u):RRng p a b c u:=r
theorem rQ {a b c:Int} {xs:List Dat} (e:items (.rng a b c)=some xs):jy a b=true∧(c=1∨c = -1)∧∃ k:Nat,Builtin.Range.rangeSize a b c=k∧xs.length=k∧k≤2 ^ 24:=by
  unfold items at e
  dsimp only at e
  split at e
  · exact nS e
  · rename_i hk
    have hk:jy a b=true:=by simpa using hk
    have hz:=hk
    unfold jy lim at hz
    rw [Bool.and_eq_true] at hz
    have h1:=of_decide_eq_true hz.1
    have h2:=of_decide_eq_true hz.2
    split at e
    · rename_i hc
      subst hc
      (replace e:=iS e; subst e)
      exact ⟨hk,.inl rfl,(b - a).toNat,by rw [rangeSize_one]; split <;> omega,by simp,by omega⟩
    · split at e
      · rename_i hc
        subst hc
        (replace e:=iS e; subst e)
        exact ⟨hk,.inr rfl,(a - b).toNat,rangeSize_downNat a b,by simp,by omega⟩
      · exact nS e
theorem yH {q:Bool} {x v:Val} {xs:List Val} {u:Value} (e:nX mu x=some xs) (en:cx q mu xs (bE xs)=some (v,mu')) (hR:Rm n A) (I:Inv X s₀ o p as mu F loc s) (r:VRel X p as x u)
    (K:Kv X s₀ o p as mu' F loc Q v):wpAny (model X.prog X.w) A (call (.type "list") [u]) Q E s:=by
  have hlen:=jY en
  have gen:∀ {vs:Array Value} {a m T},(T = "list" ∨ T = "tuple")→u=.ref a→s.heap.get? a=some { cls:=.type T,data:=.seq vs m }→VRels X p as xs vs.toList→wpAny (model X.prog X.w) A (call (.type "list") [u]) Q E s:=by
    intro vs a m T hT eu hg hr
    subst eu
    have hz:xs.length=vs.size:=by simpa using hr.length
    exact call_list_seq a hT hg rfl rfl (fun h' c' hk hg'=>ve (tk:=s.toks) en I hk (Nat.le_refl _) hg' hr K) (fC (by exact yN hlen hz))
  have lst:fP mu x=some xs→wpAny (model X.prog X.w) A (call (.type "list") [u]) Q E s:=fun ex=>by
    refine RSeq.el (jT I ex r) fun a vs m eu h1 h2=>?_
    exact gen (.inl rfl) eu h1 h2
  cases x with
  | r k=>exact lst e
  | clo k=>exact lst e
  | d x =>
    refine xe1 (gq (show (items x).map (fun xs=>xs.map Val.d)=some xs from e)) fun ds r_=>aO r_ fun e1 e2_=>?_
    subst e2_
    cases x with
    | tup ys =>
      (replace e1:=iS e1; subst e1)
      refine RSeq.el (fX r) fun a vs m eu h1 h2=>?_
      exact gen (.inr rfl) eu (I.ple _ _ h1) (.ofD h2)
    | lst ys =>
      (replace e1:=iS e1; subst e1)
      refine RSeq.el (iR r) fun a vs m eu h1 h2=>?_
      exact gen (.inl rfl) eu (I.ple _ _ h1) (.ofD h2)
    | rng a b c =>
      refine gF (rQ e1) fun ok hc r_=>xe1 r_ fun k r_=>gF r_ fun hk hl hz=>?_
      refine RRng.el (z1 r) fun q' t v' x e4_ h1=>?_
      subst e4_
      exact call_list_range hR.hand (I.ple _ _ h1) (rL ok hc) hk hz fun h' tk acc c' hkp hg hi=>ve en I hkp (Nat.le_refl _) hg (.ofD (xh e1 hk hi)) K
    | _=>exact nS e1
end
end Mine.Internal
namespace Mine.Internal
structure AmbOK (X:Amb) (P:Fn→FDef):Prop where
  K:X.K.In X.H₀
  lim:X.H₀.NoLimit
  cls:∀ c,ClsOK X c
  sys:sysModules < X.tab
  g:X.H₀.Ns mainGlobals X.mg
  b:X.H₀.Ns builtinsNs X.mb
  fns:∀ f,f.isTop=true→X.mg (Str.ofString f.nm)=some (.ref (X.fn f))
  clss:∀ c:Cls,X.mg (Str.ofString c.nm)=some (.ref (X.cls c))
  bis:∀ b:Bi,X.mg (Str.ofString b.nm)=none∧X.mb (Str.ofString b.nm)=some b.val
  lst:X.mg (Str.ofString "list")=none∧X.mb (Str.ofString "list")=some (.type "list")
  enm:X.mg (Str.ofString "enumerate")=none∧X.mb (Str.ofString "enumerate")=some (.type "enumerate")
  byte:∃ v,X.mg (Str.ofString "_law_byte")=some v∧DRel X X.H₀.get? dp v
  keepF:∀ f,keepIn X.K (.ref (X.fn f))=true
  keepC:∀ c,keepIn X.K (.ref (X.cls c))=true
  fn:∀ f,∃ fd body,FnOK X (P f) (X.fn f) fd body∧fJ (P f).strs ((P f).wr.map Str.ofString) ((P f).fz.map Str.ofString) (cz fd.scope) (P f).body body
  hd:CodeHd X.H₀ X.cd X.tab
  bat:X.H₀.BuiltinsAt X.mg X.tab
  gtab:mainGlobals ≠ X.tab
  makes:∀ c,makesIn X.K (X.cls c)=true
  init:findIn X.K (.ref (X.cls .body)) "__init__" = some (some (.ref (X.fn .initBody)))∧findIn X.K (.ref (X.cls .caller)) "__init__" = some (some (.ref (X.fn .initCaller)))
  func:∀ f,typeIn X.K (.ref (X.fn f))=some (.type "function")
  meth:∀ f:Fn,f.isMeth=true→findIn X.K (.ref (X.cls .caller)) (Str.ofString f.nm)=some (some (.ref (X.fn f)))
section
variable {X:Amb} {P:Fn→FDef} {s₀ s:Shared} {o p:aw} {as:As} {mu mu':Mu} {F:Fm} {loc:ae} {A:Around} {E:Value→Shared→Prop} {Q:Value→Shared→Prop} {n:Nat}
theorem Inv.keepH (I:Inv X s₀ o p as mu F loc s):∀ b ob,X.H₀.get? b=some ob→s.heap.get? b=some ob:=fun b ob e=>I.ple _ _ (I.base _ _ e)
noncomputable def Me:Str := "__debug__"
theorem qA {M:Model} {x:Str} {pos:Pos} {v:Value} (hX:AmbOK X P) (I:Inv X s₀ o p as mu F loc s) (hk:F.env.kindOf x=some .globalImplicit) (hv:X.mg x=some v) (hd:(x == ("__debug__" : Str))=false) (h:Q v s) :
    wpAny M A (eval (.Name x pos) F.env) Q E s :=
  Calls.Name_function_global I.fr.kind hk (Calls.loadGlobal_global (by rw [I.fr.glob]; exact hX.g.keeps I.keepH) hv h) hd
theorem qN {M:Model} {x:Str} {pos:Pos} {v:Value} (hX:AmbOK X P) (I:Inv X s₀ o p as mu F loc s) (hk:F.env.kindOf x=some .globalImplicit) (hv:X.mg x=none∧X.mb x=some v) (hd:(x == ("__debug__" : Str))=false) (h:Q v s) :
    wpAny M A (eval (.Name x pos) F.env) Q E s :=
  Calls.Name_function_global I.fr.kind hk (Calls.loadGlobal_builtin (by rw [I.fr.glob]; exact hX.g.keeps I.keepH) hv.1 (by rw [I.fr.bltn]; exact hX.b.keeps I.keepH) hv.2 h) hd
theorem Fn.nodbg (f:Fn):(Str.ofString f.nm == ("__debug__" : Str))=false:=by cases f <;> decide +kernel
theorem Cls.nodbg (f:Cls):(Str.ofString f.nm == ("__debug__" : Str))=false:=by cases f <;> decide +kernel
theorem Bi.nodbg (f:Bi):(Str.ofString f.nm == ("__debug__" : Str))=false:=by cases f <;> decide +kernel
theorem Fk {i:Int} {u:Value} (I:Inv X s₀ o p as mu F loc s) (r:VRel X p as (.d (.int i)) u) (K:Kv X s₀ o p as mu F loc Q (.d (.int (-i)))):wpAny (model X.prog X.w) A (unaryOp .USub u) Q E s:=by
  refine xe1 (cQ r) fun t e1_=>?_
  subst e1_
  exact P.neg_int (K.here I eE)
theorem E6 {xs:List Dat} {k:Int} {v:Val} {u1 u2:Value} {value y:Expr} {pp:Pos} (h1:1≤k) (h8:k≤8) (hl:k.toNat≤xs.length) (e:(f9 (xs.drop k.toNat)).map (·,mu)=some (v,mu')) (I:Inv X s₀ o p as mu F loc s) (r1:VRel X p as (.d (.tup xs)) u1)
    (r2:VRel X p as (.d (.int k)) u2) (K:Kv X s₀ o p as mu' F loc Q v) :
    wpAny (model X.prog X.w) A (subscriptTail value (.Slice (some y) none none pp) u1 (.ref s.heap.objs.size)) Q E { s with heap:=s.heap.push { cls:=.type "slice", data:=.fields #[u2,.none,.none] } }:=by
  refine RSeq.el (fX r1) fun a vs m e3_ g1 g2=>?_
  subst e3_
  refine xe1 (cQ r2) fun t e1_=>?_
  subst e1_
  refine xe1 (Int.eq_ofNat_of_zero_le (show 0≤k by exact EK h1 rfl)) fun j e1_=>?_
  subst e1_
  have hz:xs.length=vs.size:=by simpa using g2.length
  have hlen:=nP e
  rw [List.length_drop] at hlen
  have I':=I.push { cls:=.type "slice", data:=.fields #[.int (j:Int) t,.none,.none] }
  have ht:IsTup (s.heap.push { cls:=.type "slice", data:=.fields #[.int (j:Int) t,.none,.none] }) a vs:=⟨_,I'.ple _ _ g1,rfl,m,rfl⟩
  refine tail_any ht.typeIs slot_tuple_getitem.lookup (getItem_tuple_from (a:=j) ht (Heap.IsSliceOf.new _ _ _ _) (by omega) (by simp at hl; exact Cj hl hz) (m9 (t:=s.toks) (n:=0) e I' (by simpa using g2.drop j) K) (by rw [sizeLine_eq]; unfold lim at hlen; simp at hlen; omega)) rfl
end
end Mine.Internal
namespace Mine.Internal
section
variable {X:Amb} {P:Fn→FDef} {s₀ s:Shared} {o p:aw} {as:As} {mu mu':Mu} {F:Fm} {loc:ae} {A:Around} {E:Value→Shared→Prop} {Q:Value→Shared→Prop} {n:Nat}
noncomputable def cJ (X:Amb) (o p:aw) (as:As) (mu:Mu) (F:Fm) (a:Addr):Prop:=p a=none∧o a=none∧a ∉ X.tab::(F.own++cy as mu)
theorem Inv.ne_alien (I:Inv X s₀ o p as mu F loc s) {a b:Addr} (h:cJ X o p as mu F a) (k:b ∈ X.tab::(F.own++cy as mu)∨(p b).isSome∨(o b).isSome):b ≠ a:=fun q=>by
  subst q
  rcases k with k | k | k
  · exact h.2.2 k
  · rw [h.1] at k; cases k
  · rw [h.2.1] at k; cases k
theorem Inv.alien (I:Inv X s₀ o p as mu F loc s) {l:List Addr} (hl:∀ a ∈ l,cJ X o p as mu F a) {h':Heap} (hk:∀ b,b ∉ l→∀ ob,s.heap.get? b=some ob→h'.get? b=some ob):Inv X s₀ o p as mu F loc { s with heap:=h' }:=by
  have keep:∀ b,b ∈ X.tab::(F.own++cy as mu)∨(p b).isSome∨(o b).isSome→∀ ob,s.heap.get? b=some ob→h'.get? b=some ob:=fun b k ob e=>hk b (fun q=>I.ne_alien (hl b q) k rfl) ob e
  refine ⟨by obtain ⟨k,e⟩:=I.sh; exact ⟨k,by rw [e]⟩,I.base,fun b ob e=>keep b (.inr (.inl (by rw [e]; rfl))) ob (I.ple _ _ e),fun b ob e=>keep b (.inr (.inr (by rw [e]; rfl))) ob (I.ole _ _ e),I.dj,I.len,
    fun i q m e f=>(I.mus i q m e f).mono Sub.refl (List.prefix_refl _) fun b hb ob x=>keep b (.inl (List.mem_cons_of_mem _ (List.mem_append_right _ (fH e f b hb)))) ob x,I.nodup,
    fun b hb=>?_,I.fr.on Sub.refl (List.prefix_refl _) fun b hb ob x=>keep b ?_ ob x,?_⟩
  · obtain ⟨b1,b2,ob,x⟩:=I.out b hb
    exact ⟨b1,b2,ob,keep b (.inl hb) ob x⟩
  · rcases hb with hb | hb | hb
    · exact .inl (List.mem_cons_of_mem _ (List.mem_append_left _ hb))
    · exact .inr (.inl hb)
    · exact .inr (.inr hb)
  · obtain ⟨ps,x,t⟩:=I.tb
    exact ⟨ps,keep _ (.inl (.head _)) _ x,t⟩
theorem Inv.hold (I:Inv X s₀ o p as mu F loc s) {l:List Addr} (hl:∀ a ∈ l,cJ X o p as mu F a):Inv X s₀ (c8 o l s.heap) p as mu F loc s:=by
  refine ⟨I.sh,I.base,I.ple,fun b ob e=>?_,fun b hb=>?_,I.len,I.mus,I.nodup,fun b hb=>?_,?_,I.tb⟩
  · by_cases k:b ∈ l
    · rw [dx k] at e; exact e
    · rw [ch k] at e; exact I.ole _ _ e
  · rw [ch fun k=>by rw [(hl b k).1] at hb; cases hb]; exact I.dj b hb
  · obtain ⟨b1,b2,r⟩:=I.out b hb
    exact ⟨b1,by rw [ch fun k=>(hl b k).2.2 hb]; exact b2,r⟩
  · have f:=I.fr
    exact ⟨f.kind,f.glob,f.bltn,f.len,f.nodup,f.plain,f.mine,f.ns,f.inj,f.apart,fun x c hc=>by
      obtain ⟨h1,h2⟩:=f.cell x c hc
      refine ⟨h1,h2.imp_right fun h2=>h2.imp_right fun h2=>?_⟩
      rw [ch fun k=>by rw [(hl c k).2.1] at h2; cases h2]; exact h2,f.wcell,f.fcell,f.lam,f.has⟩
theorem Inv.unhold {h:Heap} {l:List Addr} (I:Inv X s₀ (c8 o l h) p as mu F loc s) (hl:∀ a ∈ l,o a=none) (hs:∀ a ∈ l,∃ ob,h.get? a=some ob) (hc:∀ x c,F.env.cells.lookup x=some c→c ∉ l) :
    Inv X s₀ o p as mu F loc s∧∀ a ∈ l,cJ X o p as mu F a∧s.heap.get? a=h.get? a:=by
  have sub:Sub o (c8 o l h):=fun b ob e=>by rw [ch fun k=>by rw [hl b k] at e; cases e]; exact e
  refine ⟨⟨I.sh,I.base,I.ple,fun b ob e=>I.ole _ _ (sub _ _ e),fun b hb=>?_,I.len,I.mus,I.nodup,fun b hb=>?_,?_,I.tb⟩,fun a ha=>?_⟩
  · have:=I.dj b hb
    cases q:o b with
    | none=>rfl
    | some ob=>rw [sub _ _ q] at this; exact nS this.symm
  · obtain ⟨b1,b2,r⟩:=I.out b hb
    refine ⟨b1,?_,r⟩
    cases q:o b with
    | none=>rfl
    | some ob=>rw [sub _ _ q] at b2; exact nS b2.symm
  · have f:=I.fr
    exact ⟨f.kind,f.glob,f.bltn,f.len,f.nodup,f.plain,f.mine,f.ns,f.inj,f.apart,fun x c hx=>by
      obtain ⟨h1,h2⟩:=f.cell x c hx
      refine ⟨h1,h2.imp_right fun h2=>h2.imp_right fun h2=>?_⟩
      rw [ch (hc x c hx)] at h2; exact h2,f.wcell,f.fcell,f.lam,f.has⟩
  · obtain ⟨ob,e⟩:=hs a ha
    have k:c8 o l h a=some ob:=(dx ha).trans e
    refine ⟨⟨?_,hl a ha,fun hm=>?_⟩,by rw [e]; exact I.ole _ _ k⟩
    · cases q:p a with
      | none=>rfl
      | some ob'=>have:=I.dj a (by rw [q]; rfl); rw [k] at this; exact nS this.symm
    · have:=(I.out a hm).2
      rw [k] at this; exact nS this.symm
theorem DH {q:Bool} {xs:List Val} {v:Val} {vs:Array Value} {m:Nat} {a:Addr} (e:cx q mu xs (bE xs)=some (v,mu')) (I:Inv X s₀ o p as mu F loc s) (ha:cJ X o p as mu F a) (hg:s.heap.get? a=some (listOf vs m)) (r:VRels X p as xs vs.toList) :
    ∃ p' as',Sub p p'∧as <+: as'∧Inv X s₀ o p' as' mu' F loc s∧VRel X p' as' v (.ref a):=by
  obtain ⟨f1,f2,f3⟩:=ha
  unfold cx at e
  split at e
  · cases q with
    | true =>
      (refine dy e fun h1_ h2_=>?_; subst h1_; rw [← h2_])
      refine ⟨p,as++[(a,0)],Sub.refl,List.prefix_append _ [(a,0)],I.toM (q:=(a,0)) (m:=.list xs) ⟨vs,m,hg,r.mono Sub.refl (List.prefix_append _ _)⟩ (by simp [kb]) (fun b hb=>?_) fun b hb=>?_,(a,0),by rw [← I.len]; exact List.getElem?_concat_length ..,rfl⟩
      · simp only [kb,List.mem_singleton] at hb; rw [hb]; exact f3
      · simp only [kb,List.mem_singleton] at hb; rw [hb]; exact ⟨f1,f2,_,hg⟩
    | false =>
      refine bN e fun ds e1 e2=>?_
      clear e
      (refine eR e2 fun h1_ h2_=>?_; subst h1_; subst h2_)
      refine ⟨_,as,Sub.put1 f1,List.prefix_refl _,I.toP hg f1 f2 f3,?_⟩
      show DRel X _ (.lst ds) _
      rw [yK]
      exact ⟨_,vs,m,rfl,cb,(VRels.toD e1 r).mono (Sub.put1 f1)⟩
  · exact nS e
noncomputable def Agree (env:Env) (kd:Kd):Prop:=∀ x,(kd x=some .local→env.kindOf x=some .local)∧(kd x=some .globalImplicit→env.kindOf x=some .globalImplicit)∧(kd x=some .cell→env.kindOf x=some .cell) ∧
  (kd x=some .free→env.kindOf x=some .cell∨env.kindOf x=some .free)
theorem Agree.known {env:Env} {kd:Kd} (h:Agree env kd) {x:Str} (k:KN kd x):pu env x:=by
  obtain ⟨h1,h2,h3,h4⟩:=h x
  rcases k with k | k | k
  · exact .inl (h1 k)
  · exact .inr (.inl (h3 k))
  · exact .inr (h4 k)
noncomputable def blank:List Nat→ae→ae
  | [],l=>l
  | i::is,l=>blank is (l.set i none)
theorem Im {i:Nat} {is:List Nat} {l:ae}:blank (i::is) l=blank is (l.set i none):=rfl
theorem blank_length:∀ {is:List Nat} {l:ae},(blank is l).length=l.length
  | [],_=>rfl
  | i::is,l=>by rw [Im,blank_length,List.length_set]
theorem mS:∀ {is:List Nat} {l:ae} {i:Nat} {v:Val},(blank is l)[i]? = some (some v)→i ∉ is∧l[i]? = some (some v)
  | [],l,i,v,h=>⟨by simp,h⟩
  | j::is,l,i,v,h=>by
    obtain ⟨h1,h2⟩:=mS (is:=is) h
    by_cases e:j=i
    · subst e
      by_cases z:j < l.length
      · rw [List.getElem?_set_self z] at h2; cases h2
      · rw [List.getElem?_eq_none (by rw [List.length_set]; exact GO z)] at h2; exact nS h2
    · rw [List.getElem?_set_ne e] at h2
      exact ⟨by simp [Ne.symm e,h1],h2⟩
theorem nj:∀ {is:List Nat} {vs:List Val} {l l' l2:ae},ai is vs l=some l'→l.length=l2.length→(∀ j,j ∉ is→l[j]? = l2[j]?)→ai is vs l2=some l'
  | [],[],l,l',l2,h,_,k=>by
    have:l=l2:=List.ext_getElem? fun j=>k j (by simp)
    rw [← this]; exact h
  | i::is,v::vs,l,l',l2,h,hl,k=>by
    have h':(if i < l.length then ai is vs (l.set i (some v)) else none)=some l':=h
    show (if i < l2.length then ai is vs (l2.set i (some v)) else none)=some l'
    split at h'
    · rename_i hi
      rw [if_pos (by exact Cj hi hl)]
      refine nj h' (by simp [hl]) fun j hj=>?_
      by_cases e:i=j
      · subst e
        rw [List.getElem?_set_self hi,List.getElem?_set_self (by exact Cj hi hl)]
      · rw [List.getElem?_set_ne e,List.getElem?_set_ne e]
        exact k j (by simp [Ne.symm e,hj])
    · exact nS h'
  | [],_::_,_,_,_,h,_,_=>by exact nS h
  | _::_,[],_,_,_,h,_,_=>by exact nS h
theorem oC:∀ {is:List Nat} {l:ae} {j:Nat},j ∉ is→(blank is l)[j]? = l[j]?
  | [],_,_,_=>rfl
  | i::is,l,j,h=>by
    rw [Im,oC (is:=is) (fun k=>h (List.mem_cons_of_mem _ k)),List.getElem?_set_ne (fun e=>h (by simp [e]))]
theorem qC {is:List Nat} {d:Dat} {l l':ae} (h:b4 is d l=some l'):b4 is d (blank is l)=some l':=by
  have gen:∀ {vs:List Val},ai is vs l=some l'→ai is vs (blank is l)=some l':=fun e=>nj e blank_length.symm fun j hj=>(oC hj).symm
  have many:g9 is d l=some l'→g9 is d (blank is l)=some l':=fun h=>by
    refine bh h fun xs h1 h=>?_
    refine aO (kI h) fun h2 h=>?_
    unfold g9
    rw [h1]
    show (if is.length=xs.length then ai is (xs.map Val.d) (blank is l) else none)=some l'
    rw [if_pos h2]; exact gen h
  cases is with
  | nil=>exact many h
  | cons i r=>cases r with
    | nil=>exact gen (vs:=[.d d]) h
    | cons _ _=>exact many h
theorem wt {is:List Nat} {d:Dat} {l l':ae} (h:g9 is d l=some l'):∃ xs,(d=.tup xs∨d=.lst xs)∧is.length=xs.length∧ai is (xs.map .d) l=some l':=by
  refine bh h fun xs h1 h=>?_
  refine aO (kI h) fun h2 h=>?_
  exact ⟨xs,xr h1,h2,h⟩
theorem Inv.weak (I:Inv X s₀ o p as mu F loc s) {loc':ae} (hl:loc'.length=loc.length) (h:∀ (i:Nat) (v:Val),loc'[i]? = some (some v)→loc[i]? = some (some v)):Inv X s₀ o p as mu F loc' s:=by
  refine ⟨I.sh,I.base,I.ple,I.ole,I.dj,I.len,I.mus,I.nodup,I.out,?_,I.tb⟩
  have f:=I.fr
  obtain ⟨m,hm,hr⟩:=f.ns
  exact ⟨f.kind,f.glob,f.bltn,hl.trans f.len,f.nodup,f.plain,f.mine,⟨m,hm,fun i x v hi hv kn=>hr i x v hi (h i v hv) kn⟩,f.inj,f.apart,f.cell,f.wcell,f.fcell,f.lam,f.has⟩
theorem Inv.blank (I:Inv X s₀ o p as mu F loc s) (ts:List Nat):Inv X s₀ o p as mu F (blank ts loc) s:=I.weak blank_length fun i v h=>(mS h).2
end
section
variable {prog:Program} {w:World} {A:Around} {E:Value→Shared→Prop} {s:Shared}
theorem rA {it t:Addr} {items:Array Value} (hne:t ≠ it):∀ (n i:Nat) (s:Shared) (Q:List Value→Shared→Prop),s.heap.IsListIter it t i→s.heap.IsList t items→i+n≤items.size →
    (∀ h',h'.IsListIter it t (i+n)→Heap.SameBut it s.heap h'→Q ((items.toList.drop i).take n) { s with heap:=h' })→wpAny (model prog w) A (draw (.ref it) n) Q E s
  | 0,i,s,Q,hit,_,_,hQ=>by
    show wpAny _ _ (pure []) Q E s
    exact wpAny_pure (by simpa using hQ s.heap hit (Heap.SameBut.refl ..))
  | n+1,i,s,Q,hit,ht,hle,hQ=>by
    have hlt:i < items.size:=by exact w5 hle
    show wpAny _ _ (pyNext (.ref it) >>= _) Q E s
    refine wpAny_bind (wpAny_pyNext_list_item hit ht (x:=items[i]) (by simp [hlt]) fun h₁ hit₁ hs₁=>?_)
    refine wpAny_bind (wpAny_holding (rA hne n (i+1) _ _ hit₁ (ht.extBut hs₁.extBut hne) (by exact eV hle) fun h₂ hit₂ hs₂=>wpAny_pure ?_))
    have hd:items.toList.drop i=items[i]::items.toList.drop (i+1):=by simp [List.drop_eq_getElem_cons,hlt]
    have:=hQ h₂ (by rw [show i+(n+1)=i+1+n by exact zn]; exact hit₂) (hs₁.trans hs₂)
    rw [hd,List.take_succ_cons] at this
    exact this
theorem oR {t:Addr} {items:Array Value} {Q:List Value→Shared→Prop} (hh:A.handled=none) (ht:s.heap.IsList t items)
    (hQ:∀ h',Heap.ExtBut s.heap.objs.size s.heap h'→Q items.toList { s with heap:=h' }):wpAny (model prog w) A (unpackItems (.ref t) items.size none) Q E s:=by
  have hlt:t ≠ s.heap.objs.size:=by obtain ⟨o,ho,_⟩:=ht; exact Nat.ne_of_lt (Heap.lt_size ho)
  unfold unpackItems
  refine wpAny_bind ?_
  · unfold notIterableAtAll
    refine wpAny_bind (wpAny_specialOf ht.typeIs slot_list_iter.lookup ?_)
    refine wpAny_pure ?_
    simp only [Bool.false_eq_true,if_false]
    refine wpAny_bind (wpAny_holding (wpAny_pyIter_list ht ?_))
    refine wpAny_bind (wpAny_holding (rA hlt items.size 0 _ _ ⟨_,Heap.get?_push_size _ rfl,rfl,rfl⟩ (ht.push _) (by omega) fun h₁ hit₁ hs₁=>?_))
    have hall:List.take items.size (List.drop 0 items.toList)=items.toList:=by
      rw [List.drop_zero]; exact List.take_of_length_le (by simp)
    rw [hall]
    rw [if_neg (by simp)]
    have ht₁:h₁.IsList t items:=(ht.push _).extBut hs₁.extBut hlt
    refine wpAny_bind (wpAny_holding (wpAny_pyNext_list_end hh hit₁ ht₁ (by simp) fun h₂ he₂=>?_))
    simp only [Option.isSome_none,Bool.false_eq_true,if_false]
    refine wpAny_pure (hQ h₂ fun b o hb e=>he₂ b o hb (hs₁.extBut b o hb (Heap.get?_push_of_some _ e)))
theorem n8 {env:Env} {elts:List Expr} {x1} {pos:Pos} {t:Addr} {items:Array Value} {Q:Unit→Shared→Prop} (hh:A.handled=none) (ht:s.heap.IsList t items)
    (hn:(assignEach elts env).length=items.size) (hstar:(assignEach elts env).findIdx? (·.1)=none)
    (h:∀ h',Heap.ExtBut s.heap.objs.size s.heap h'→wpAny (model prog w) A (assignInOrder ((assignEach elts env).map (·.2)) items.toList) Q E { s with heap:=h' }) :
    wpAny (model prog w) A (assign (.Tuple elts x1 pos) env (.ref t)) Q E s:=by
  rw [assign_Tuple]
  refine wpAny_bind (wpAny_standAt ?_)
  unfold unpack
  rw [hn,hstar]
  exact wpAny_bind (wpAny_holding (oR hh ht h))
end
end Mine.Internal
namespace Mine.Internal
section
variable {X:Amb} {P:Fn→FDef} {s₀ s:Shared} {o p:aw} {as:As} {mu mu':Mu} {F:Fm} {loc loc':ae} {A:Around} {E:Value→Shared→Prop} {n:Nat}
noncomputable abbrev iT (F:Fm) (x:Str):Prop:=F.env.kindOf x=some .local∨x ∈ F.wr
theorem qL {ok:Str→Prop} {names:List Str} {env:Env}:∀ {is:List Nat} {l:List Expr},MtTs names ok is l→assignEach l env=l.map fun e=>(false,assign e env)
  | [],l,h=>by have h:l=[]:=h; subst h; rfl
  | i::is,l,h=>by
    obtain ⟨x,pos,r,rfl,_,_,h⟩:=h
    show _::assignEach r env=_
    rw [qL h]; rfl
theorem MtTs.len {ok:Str→Prop} {names:List Str}:∀ {is:List Nat} {l:List Expr},MtTs names ok is l→l.length=is.length
  | [],l,h=>by have h:l=[]:=h; subst h; rfl
  | i::is,l,h=>by
    obtain ⟨x,pos,r,rfl,_,_,h⟩:=h
    simp [h.len]
theorem l8:∀ {is:List Nat} {l:List Expr} {vs:List Val} {us:List Value} {loc:ae} {s:Shared} {Q:Unit→Shared→Prop},MtTs F.names (iT F) is l→ai is vs loc=some loc'→Inv X s₀ o p as mu F loc s→VRels X p as vs us →
    (∀ s',Inv X s₀ o p as mu F loc' s'→Q () s')→wpAny (model X.prog X.w) A (assignInOrder (l.map fun e=>assign e F.env) us) Q E s
  | [],l,[],us,loc,s,Q,h,e,I,r,K=>by
    have h:l=[]:=h
    have r:us=[]:=r
    subst h; subst r
    (replace e:=iS e; subst e)
    exact wpAny_pure (K _ I)
  | i::is,l,v::vs,us,loc,s,Q,h,e,I,r,K=>by
    obtain ⟨x,pos,l',rfl,hx,ok,h⟩:=h
    obtain ⟨u,us',rfl,r1,r2⟩:=r
    have e':(if i < loc.length then ai is vs (loc.set i (some v)) else none)=some loc':=e
    split at e'
    · show wpAny _ A (holding us' (assign (.Name x pos) F.env u) >>= fun Z=>assignInOrder (l'.map fun e=>assign e F.env) us') Q E s
      exact wpAny_bind (wpAny_holding (wpAny_assign_Name (jZ I hx ok r1 fun s' I'=>l8 h e' I' r2 K)))
    · exact nS e'
  | [],_,_::_,_,_,_,_,_,e,_,_,_=>by exact nS e
  | _::_,_,[],_,_,_,_,_,e,_,_,_=>by exact nS e
theorem MtT.one {ok:Str→Prop} {names:List Str} {i:Nat} {e:Expr} (h:MtT names ok [i] e):∃ x pos,e=.Name x pos∧names[i]? = some x∧ok x:=h
theorem MtT.more {ok:Str→Prop} {names:List Str} {is:List Nat} {e:Expr} (h:MtT names ok is e) (hn:∀ t,is=[t]→False):∃ l k pos,e=.Tuple l k pos∧MtTs names ok is l:=by
  cases is with
  | nil=>exact h
  | cons i r =>
    cases r with
    | nil=>exact absurd rfl (hn i)
    | cons j r=>exact h
theorem Inv.ext (I:Inv X s₀ o p as mu F loc s) {h':Heap} (he:Heap.ExtBut s.heap.objs.size s.heap h'):Inv X s₀ o p as mu F loc { s with heap:=h' }:=I.keeps fun a ob e=>he a ob (Nat.ne_of_lt (Heap.lt_size e)) e
theorem km {l:List Expr} {env:Env}:(l.map fun e=>(false,assign e env)).findIdx? (·.1)=none:=by
  rw [List.findIdx?_eq_none_iff]
  intro x hx
  refine xe1 (List.mem_map.mp hx) fun e r_=>aO r_ fun Z e2_=>?_
  subst e2_
  rfl
theorem iC {is:List Nat} {l:List Expr} {k} {pos:Pos} {T:Addr} {vs:Array Value} {m:Nat} {xs:List Dat} {Q:Unit→Shared→Prop} (hh:A.handled=none) (h:MtTs F.names (iT F) is l) (e:ai is (xs.map .d) loc=some loc') (hl:is.length=xs.length)
    (I:Inv X s₀ o p as mu F loc s) (hT:s.heap.get? T=some (d8 vs m)∨s.heap.get? T=some (listOf vs m)) (r:DRels X p xs vs.toList) (K:∀ s',Inv X s₀ o p as mu F loc' s'→Q () s') :
    wpAny (model X.prog X.w) A (assign (.Tuple l k pos) F.env (.ref T)) Q E s:=by
  have hz:xs.length=vs.size:=by simpa using r.length
  have he:=qL (env:=F.env) h
  have fin:∀ h',Heap.ExtBut s.heap.objs.size s.heap h'→wpAny (model X.prog X.w) A (assignInOrder ((assignEach l F.env).map (·.2)) vs.toList) Q E { s with heap:=h' }:=fun h' hx=>by
    rw [he,List.map_map]
    exact l8 h e (I.ext hx) (.ofD r) K
  rcases hT with hT | hT
  · exact assign_Tuple_tuple hh ⟨_,hT,rfl,m,rfl⟩ (by rw [he,List.length_map,h.len]; exact Eq.trans hl hz) (by rw [he]; exact km) fin
  · exact n8 hh ⟨_,hT,rfl,m,rfl⟩ (by rw [he,List.length_map,h.len]; exact Eq.trans hl hz) (by rw [he]; exact km) fin
theorem oH {is:List Nat} {t:Expr} {d:Dat} {v:Value} {Q:Unit→Shared→Prop} (hh:A.handled=none) (h:MtT F.names (iT F) is t) (e:b4 is d loc=some loc') (I:Inv X s₀ o p as mu F loc s) (r:DRel X p d v)
    (K:∀ s',Inv X s₀ o p as mu F loc' s'→Q () s'):wpAny (model X.prog X.w) A (assign t F.env v) Q E s:=by
  have many:g9 is d loc=some loc'→(∃ l k pos,t=.Tuple l k pos∧MtTs F.names (iT F) is l)→wpAny (model X.prog X.w) A (assign t F.env v) Q E s:=fun e ⟨l,k,pos,ht,hm⟩=>by
    rw [ht]
    refine xe1 (wt e) fun xs r_=>gF r_ fun hd hl e1=>?_
    rcases hd with q | q <;> rw [q] at r
    · refine RSeq.el (fX (as:=as) (show VRel X p as (.d (.tup xs)) v from r)) fun a vs m e3_ h1 h2=>?_
      subst e3_
      exact iC hh hm e1 hl I (.inl (I.ple _ _ h1)) h2 K
    · refine RSeq.el (iR (as:=as) (show VRel X p as (.d (.lst xs)) v from r)) fun a vs m e3_ h1 h2=>?_
      subst e3_
      exact iC hh hm e1 hl I (.inr (I.ple _ _ h1)) h2 K
  cases is with
  | nil=>exact many e h
  | cons i r=>cases r with
    | nil =>
      obtain ⟨x,pos,rfl,hx,ok⟩:=h.one
      refine aO (kI (show (if i < loc.length then ai [] [] (loc.set i (some (.d d))) else none)=some loc' from e)) fun Z e'=>?_
      (replace e':=iS e'; subst e')
      exact wpAny_assign_Name (jZ I hx ok (show VRel X p as (.d d) v from r) fun s' I'=>K s' I')
    | cons _ _=>exact many e h
structure Itr (X:Amb) (A:Around) (p:aw) (ds:List Dat) (I:Addr) (fp:List Addr) (Pr:Nat→Value→Prop) (St:Nat→Heap→Prop):Prop where
  w:Walks X.prog X.w A I fp [I] ds.length Pr St
  fp:∀ b ∈ fp,b=I∨(p b).isSome
  ex:∀ i h,St i h→∃ ob,h.get? I=some ob
  val:∀ i v d,Pr i v→ds[i]? = some d→DRel X p d v
  go:∀ i (s:Shared) t v (Q:Unit→Shared→Prop) (E:Value→Shared→Prop),St i s.heap→Q () s→wpAny (model X.prog X.w) A (letOwnedTupleGo t (.ref I) v) Q E s
theorem po {prog:Program} {w:World} {E:Value→Shared→Prop} {target:Expr} {I:Addr} {x l st:Int} {v:Value} {Q':Unit→Shared→Prop} {s':Shared} (hit:IsRangeIter s'.heap I x l st) (h:Q' () s') :
    wpAny (model prog w) A (letOwnedTupleGo target (.ref I) v) Q' E s':=by
  unfold letOwnedTupleGo
  cases target <;> first
    | exact wpAny_pure h
    | (cases v <;> first
        | exact wpAny_pure h
        | (refine wpAny_bind (wpAny_load hit ?_)
           exact wpAny_pure h))
theorem uR {d:Dat} {ds:List Dat} {u:Value} {Q:Value→Shared→Prop} (e:items d=some ds) (hh:A.handled=none) (I:Inv X s₀ o p as mu F loc s) (r:DRel X p d u)
    (K:∀ It ob fp Pr St,It=s.heap.objs.size→ob.isFreed=false→Itr X A p ds It fp Pr St→St 0 (s.heap.push ob)→Q (.ref It) { s with heap:=s.heap.push ob }):wpAny (model X.prog X.w) A (pyIter u) Q E s:=by
  cases d with
  | lst xs =>
    cases e
    refine RSeq.el (iR (as:=as) (show VRel X p as (.d (.lst _)) u from r)) fun a vs m e3_ h1 h2=>?_
    subst e3_
    have hz:ds.length=vs.size:=by simpa using h2.length
    have hL:s.heap.IsList a vs:=⟨_,I.ple _ _ h1,rfl,m,rfl⟩
    have hne:a ≠ s.heap.objs.size:=Nat.ne_of_lt (Heap.lt_size (I.ple _ _ h1))
    refine wpAny_pyIter_list hL (K _ _ _ _ _ rfl rfl ⟨hz ▸ Walks.list hh s.heap.objs.size a hne vs,?_,fun i h st=>(let ⟨ob,e,_⟩:=st.1; ⟨ob,e⟩),?_,fun i s t v Q E st h=>letGo_listiter st.1 h⟩ ⟨⟨_,Heap.get?_push_size _ rfl,rfl,rfl⟩,hL.push _⟩)
    · intro b hb
      rcases List.mem_cons.mp hb with hq_ | hb
      · rw [hq_]; exact .inl rfl
      · rw [List.mem_singleton] at hb; rw [hb]; exact .inr (by rw [h1]; rfl)
    · intro i v d hv hd
      obtain ⟨u,hu,dr⟩:=h2.get.2 i d hd
      have hv:vs[i]? = some v:=hv
      rw [Array.getElem?_toList,hv] at hu; (replace hu:=iS hu; subst hu); exact dr
  | tup xs =>
    cases e
    refine RSeq.el (fX (as:=as) (show VRel X p as (.d (.tup _)) u from r)) fun a vs m e3_ h1 h2=>?_
    subst e3_
    have hz:ds.length=vs.size:=by simpa using h2.length
    have hL:s.heap.IsTuple a vs:=⟨_,I.ple _ _ h1,rfl,m,rfl⟩
    have hne:a ≠ s.heap.objs.size:=Nat.ne_of_lt (Heap.lt_size (I.ple _ _ h1))
    refine iter_tuple (show IsTup s.heap a vs from hL) (K _ _ _ _ _ rfl rfl ⟨hz ▸ Walks.tuple hh s.heap.objs.size a hne vs,?_,fun i h st=>(let ⟨ob,e,_⟩:=st.1; ⟨ob,e⟩),?_,fun i s t v Q E st h=>letGo_tupleiter st.1 h⟩ ⟨⟨_,Heap.get?_push_size _ rfl,rfl,rfl⟩,⟨_,Heap.get?_push_of_some _ (I.ple _ _ h1),rfl,m,rfl⟩⟩)
    · intro b hb
      rcases List.mem_cons.mp hb with hq_ | hb
      · rw [hq_]; exact .inl rfl
      · rw [List.mem_singleton] at hb; rw [hb]; exact .inr (by rw [h1]; rfl)
    · intro i v d hv hd
      obtain ⟨u,hu,dr⟩:=h2.get.2 i d hd
      have hv:vs[i]? = some v:=hv
      rw [Array.getElem?_toList,hv] at hu; (replace hu:=iS hu; subst hu); exact dr
  | rng a b c =>
    refine gF (rQ e) fun ok hc r_=>xe1 r_ fun k r_=>gF r_ fun hk hl hz=>?_
    subst hl
    refine RRng.el (z1 (as:=as) (show VRel X p as (.d (.rng a b c)) u from r)) fun q' t v' x e4_ h1=>?_
    rw [e4_]
    refine wpAny_pyIter_range (I.ple _ _ h1) (rL ok hc) (K _ _ _ _ _ rfl rfl ⟨Walks.range hh s.heap.objs.size a c ds.length,fun b hb=>.inl (by simpa using hb),fun i h st=>⟨_,st⟩,?_,fun i s t v Q E st h=>po st h⟩ ?_)
    · intro i v d hv hd
      obtain ⟨t,rfl⟩:=hv
      have e0:=e
      unfold items at e0
      dsimp only at e0
      rw [if_neg (by rw [ok]; decide)] at e0
      rcases hc with rfl | rfl
      · rw [if_pos rfl] at e0; (replace e0:=iS e0; subst e0)
        rw [List.getElem?_map] at hd
        refine bN hd fun j hj e2_=>?_
        clear hd
        subst e2_
        refine xe1 (List.getElem?_eq_some_iff.mp hj) fun Z e1_=>?_
        subst e1_
        rw [uc]
        exact ⟨t,by simp⟩
      · rw [if_neg (by decide),if_pos rfl] at e0; (replace e0:=iS e0; subst e0)
        rw [List.getElem?_map] at hd
        refine bN hd fun j hj e2_=>?_
        clear hd
        subst e2_
        refine xe1 (List.getElem?_eq_some_iff.mp hj) fun Z e1_=>?_
        subst e1_
        rw [uc]
        exact ⟨t,by rw [List.getElem_range]; congr 1; exact mi⟩
    · have:=Heap.get?_push_size s.heap (o:={ cls:=.type "range_iterator", data:=.fields #[rawInt a,rawInt (Builtin.Range.rangeSize a b c),rawInt c] }) rfl
      rw [hk] at this
      show IsRangeIter _ _ (a+((0:Nat):Int) * c) ((ds.length:Int) - ((0:Nat):Int)) c
      rw [show a+((0:Nat):Int) * c=a by simp,show (ds.length:Int) - ((0:Nat):Int)=ds.length by simp,hk]
      exact this
  | _=>exact nS e
end
end Mine.Internal
namespace Mine.Internal
noncomputable def jf (env:Env):List (Str × NameKind)→List (Str × Addr)→List (Str × Addr)
  | [],acc=>acc
  | (x,k)::r,acc=>if k=.free then jf env r ((x,(env.cells.lookup x).getD 0)::acc) else jf env r acc
theorem H7 {env:Env} {x:Str} {k:NameKind} {r:List (Str × NameKind)} {acc:List (Str × Addr)}:jf env ((x,k)::r) acc=if k=.free then jf env r ((x,(env.cells.lookup x).getD 0)::acc) else jf env r acc:=rfl
theorem pS {sc:Scope} {env:Env} (h:∀ x ∈ sc.names,x.2=.free→(env.cells.lookup x.1).isSome=true):closureFor sc env=pure (jf env sc.names []):=by
  simp only [closureFor]
  generalize sc.names=l at h
  generalize ([]:List (Str × Addr))=acc
  induction l generalizing acc with
  | nil=>rfl
  | cons x l ih =>
    obtain ⟨x,k⟩:=x
    rw [List.forIn_cons,H7]
    have ih':=ih fun y hy=>h y (.tail _ hy)
    by_cases e:k=.free
    · subst e
      refine xe1 (Option.isSome_iff_exists.mp (h (x,.free) (.head _) rfl)) fun c hc=>?_
      have:cellOf env x=pure c:=by unfold cellOf; rw [show List.lookup x env.cells=some c from hc]
      simp only [this,hc,beq_self_eq_true,if_true,pure_bind,Option.getD_some]
      exact ih' _
    · have e':(k == NameKind.free)=false:=beq_eq_false_iff_ne.mpr e
      simp only [e',Bool.false_eq_true,if_false,pure_bind,e]
      exact ih' _
theorem iE {env:Env}:∀ {l:List (Str × NameKind)} {acc:List (Str × Addr)},(∀ x ∈ l,x.2=.free→(env.cells.lookup x.1).isSome=true)→(∀ x c,acc.lookup x=some c→env.cells.lookup x=some c) →
    (∀ x c,(jf env l acc).lookup x=some c→env.cells.lookup x=some c)∧∀ x,(acc.lookup x).isSome=true∨(x,NameKind.free) ∈ l→((jf env l acc).lookup x).isSome=true
  | [],acc,_,h=>⟨h,fun x k=>k.elim id fun k=>by cases k⟩
  | (x,k)::r,acc,h1,h=>by
    rw [H7]
    by_cases e:k=.free
    · subst e
      refine xe1 (Option.isSome_iff_exists.mp (h1 (x,.free) (.head _) rfl)) fun c hc=>?_
      have hc:env.cells.lookup x=some c:=hc
      rw [if_pos rfl,hc]
      have hh:∀ (y:Str) (c':Addr),List.lookup y ((x,c)::acc)=some c'→env.cells.lookup y=some c':=fun y c' hy=>by
        rw [List.lookup_cons] at hy
        split at hy
        · rename_i q; (replace hy:=iS hy; subst hy); rw [eq_of_beq q]; exact hc
        · exact h y c' hy
      obtain ⟨a,b⟩:=iE (l:=r) (acc:=(x,c)::acc) (fun y hy=>h1 y (.tail _ hy)) hh
      refine ⟨a,fun y hy=>b y ?_⟩
      rw [List.lookup_cons]
      rcases hy with hy | hy
      · left
        split
        · rfl
        · exact hy
      · rcases List.mem_cons.mp hy with q | q
        · (refine eR q fun h1_ h2_=>?_; rw [h1_]); left; simp
        · exact .inr q
    · rw [if_neg e]
      obtain ⟨a,b⟩:=iE (l:=r) (acc:=acc) (fun y hy=>h1 y (.tail _ hy)) h
      refine ⟨a,fun y hy=>b y ?_⟩
      rcases hy with hy | hy
      · exact .inl hy
      · rcases List.mem_cons.mp hy with q | q
        · (refine eR q fun h1_ h2_=>?_; rw [h1_]; subst h2_); exact absurd rfl e
        · exact .inr q
theorem lz {sc:Scope} {env:Env} {x:Str}:(relabel sc env).names.lookup x=(sc.names.lookup x).map fun k=>if (k == .free && env.scope.kind == .function && env.kindOf x == some .cell) then .cell else k:=by
  unfold relabel
  dsimp only
  induction sc.names with
  | nil=>rfl
  | cons q l ih =>
    obtain ⟨y,k⟩:=q
    rw [List.map_cons]
    dsimp only
    by_cases c:(k == .free && env.scope.kind == .function && env.kindOf y == some .cell)=true
    · rw [if_pos c]
      by_cases e:x=y
      · subst e
        simp only [List.lookup_cons,beq_self_eq_true,Option.map_some]
        rw [if_pos c]
      · have e':(x == y)=false:=beq_eq_false_iff_ne.mpr e
        simp only [List.lookup_cons,e']
        exact ih
    · rw [if_neg c]
      by_cases e:x=y
      · subst e
        simp only [List.lookup_cons,beq_self_eq_true,Option.map_some]
        rw [if_neg c]
      · have e':(x == y)=false:=beq_eq_false_iff_ne.mpr e
        simp only [List.lookup_cons,e']
        exact ih
section
variable {X:Amb} {P:Fn→FDef} {s₀ s:Shared} {o p:aw} {as:As} {mu mu':Mu} {F:Fm} {loc loc':ae} {A:Around} {E:Value→Shared→Prop} {n:Nat}
theorem CompSc.agree {sc:Scope} {kd:Kd} {names:List Str} {ts:List Nat} {env:Env} {cl:List (Str × Addr)} {C:Addr} (h:CompSc sc kd names ts):Agree (compEnvC sc cl C env) (cz sc):=fun x=>by
  have e:(compEnvC sc cl C env).kindOf x=(relabel sc env).names.lookup x:=rfl
  rw [e,lz]
  unfold cz
  refine ⟨fun h=>by rw [h]; rfl,fun h=>by rw [h]; rfl,fun h=>by rw [h]; rfl,fun h=>?_⟩
  rw [h]
  by_cases c:(NameKind.free == NameKind.free && env.scope.kind == .function && env.kindOf x == some .cell)=true
  · left; simp only [Option.map_some]; rw [if_pos c]
  · right; simp only [Option.map_some]; rw [if_neg c]
noncomputable abbrev g6 (F:Fm) (sc:Scope) (cl:List (Str × Addr)) (C:Addr):Fm:={ env:=compEnvC sc cl C F.env,own:=[C],names:=F.names,wr:=[],fz:=[] }
theorem xp {sc:Scope} {kd:Kd} {ts:List Nat} {cl:List (Str × Addr)} {C:Addr} {m0:Str→Option Value} (hC:CompSc sc kd F.names ts) (hA:Agree F.env kd) (I:Inv X s₀ o p as mu F loc s) (hal:cJ X o p as mu F C) (hns:s.heap.Ns C m0)
    (h1:∀ x c,cl.lookup x=some c→F.env.cells.lookup x=some c) (h2:∀ x,(x,NameKind.free) ∈ sc.names→(cl.lookup x).isSome=true):Inv X s₀ (c8 o F.own s.heap) p as mu (g6 F sc cl C) (blank ts loc) s:=by
  have f:=I.fr
  obtain ⟨obC,_,_,eC,_⟩:=id hns
  have mem_free:∀ x,sc.names.lookup x=some .free→(x,NameKind.free) ∈ sc.names:=fun x e=>mem_of_lookup e
  refine ⟨I.sh,I.base,I.ple,fun b ob e=>?_,fun b hb=>?_,I.len,I.mus,?_,fun b hb=>?_,?_,I.tb⟩
  · by_cases k:b ∈ F.own
    · rw [dx k] at e; exact e
    · rw [ch k] at e; exact I.ole _ _ e
  · rw [ch fun k=>?_]
    · exact I.dj b hb
    · have:=(I.out b (List.mem_cons_of_mem _ (List.mem_append_left _ k))).1
      rw [this] at hb; cases hb
  · refine List.nodup_cons.mpr ⟨fun h=>?_,List.nodup_append.mpr ⟨by simp,I.nd_owns,fun a ha b hb q=>?_⟩⟩
    · rcases List.mem_append.mp h with h | h
      · rw [List.mem_singleton] at h; exact hal.2.2 (h ▸ .head _)
      · exact I.tab_owns h
    · rw [List.mem_singleton] at ha; subst ha; subst q
      exact hal.2.2 (List.mem_cons_of_mem _ (List.mem_append_right _ hb))
  · rcases List.mem_cons.mp hb with rfl | hb
    · obtain ⟨a1,a2,a3⟩:=I.out X.tab (.head _)
      exact ⟨a1,by rw [ch I.tab_own]; exact a2,a3⟩
    · rcases List.mem_append.mp hb with hb | hb
      · rw [List.mem_singleton] at hb; rw [hb]
        exact ⟨hal.1,by rw [ch fun k=>hal.2.2 (List.mem_cons_of_mem _ (List.mem_append_left _ k))]; exact hal.2.1,_,eC⟩
      · obtain ⟨a1,a2,a3⟩:=I.out b (List.mem_cons_of_mem _ (List.mem_append_right _ hb))
        exact ⟨a1,by rw [ch fun k=>I.own_owns k hb]; exact a2,a3⟩
  · have kind:∀ x,(compEnvC sc cl C F.env).kindOf x=(sc.names.lookup x).map fun k=>if (k == .free && F.env.scope.kind == .function && F.env.kindOf x == some .cell) then .cell else k:=fun x=>lz
    have isfree:∀ x,(compEnvC sc cl C F.env).kindOf x=some .cell∨(compEnvC sc cl C F.env).kindOf x=some .free→sc.names.lookup x=some .free:=fun x k=>by
      rw [kind] at k
      cases e:sc.names.lookup x with
      | none=>rw [e] at k; rcases k with k | k <;> exact nS k
      | some z =>
        have hm:=mem_of_lookup e
        have ncell:=hC.cell _ hm
        rw [e] at k
        simp only [Option.map_some,Option.some.injEq] at k
        by_cases c:z=.free
        · rw [c]
        · have c':(z == NameKind.free)=false:=beq_eq_false_iff_ne.mpr c
          rcases k with k | k
          · rw [if_neg (by simp [c'])] at k
            exact absurd k ncell
          · rw [if_neg (by simp [c'])] at k
            exact absurd k c
    obtain ⟨m,hm,hr⟩:=f.ns
    refine ⟨hC.kind,f.glob,f.bltn,by rw [blank_length]; exact f.len,f.nodup,f.plain,.head _,⟨m0,hns,fun i x v hi hv kn=>?_⟩,fun x y c hx hy=>f.inj x y c (h1 _ _ hx) (h1 _ _ hy),fun x c hx=>?_,fun x c hx=>?_,fun x hx=>(by cases hx),fun x hx=>(by cases hx),fun x hx=>(by cases hx),fun x hx=>h2 x (mem_free x (isfree x hx))⟩
    · refine aO (mS hv) fun b1 b2=>?_
      rcases kn with kn | kn
      · have:sc.names.lookup x=some .local:=by
          have kn:(compEnvC sc cl C F.env).kindOf x=some .local:=kn
          rw [kind] at kn
          cases e:sc.names.lookup x with
          | none=>rw [e] at kn; exact nS kn
          | some z =>
            rw [e] at kn
            simp only [Option.map_some,Option.some.injEq] at kn
            split at kn
            · cases kn
            · rw [kn]
        exact absurd (hC.loc (x,i) (List.mem_zipIdx_iff_getElem?.mpr hi) this) b1
      · have fr:=isfree x kn
        have kf:pu F.env x:=by
          have:=hC.free _ (mem_free x fr) rfl
          rcases this with q | q
          · exact hA.known (.inr (.inl q))
          · exact hA.known (.inr (.inr q))
        obtain ⟨u,r,vr⟩:=hr i x v hi b2 kf
        refine ⟨u,.inr ⟨kn,?_⟩,vr⟩
        refine xe1 (Option.isSome_iff_exists.mp (h2 x (mem_free x fr))) fun c hc=>?_
        refine ⟨c,hc,?_⟩
        rcases r with ⟨k,_⟩ | ⟨_,c',hc',g⟩
        · exfalso
          have:=hC.free _ (mem_free x fr) rfl
          rcases this with q | q
          · rw [(hA x).2.2.1 q] at k; cases k
          · rcases (hA x).2.2.2 q with z | z <;> rw [z] at k <;> cases k
        · rw [h1 _ _ hc] at hc'; (replace hc':=iS hc'; subst hc'); exact g
    · have:=(f.cell x c (h1 _ _ hx)).2
      show c ≠ C
      intro q
      subst q
      rcases this with k | k | k
      · exact hal.2.2 (List.mem_cons_of_mem _ (List.mem_append_left _ k))
      · rw [hal.1] at k; cases k
      · rw [hal.2.1] at k; cases k
    · obtain ⟨a1,a2⟩:=f.cell x c (h1 _ _ hx)
      refine ⟨a1,?_⟩
      by_cases k:c ∈ F.own
      · right; right
        obtain ⟨_,_,ob,e⟩:=I.out c (List.mem_cons_of_mem _ (List.mem_append_left _ k))
        rw [dx k,e]; rfl
      · rcases a2 with q | q | q
        · exact absurd q k
        · exact .inr (.inl q)
        · right; right; rw [ch k]; exact q
end
end Mine.Internal
namespace Mine.Internal
section
variable {X:Amb} {P:Fn→FDef} {s₀ s:Shared} {o p:aw} {as:As} {mu mu':Mu} {F:Fm} {loc loc':ae} {A:Around} {E:Value→Shared→Prop} {n:Nat}
theorem Inv.swap {l:List Addr} {h h':Heap} {tk:Nat} (I:Inv X s₀ (c8 o l h) p as mu F loc s) (hl:∀ a ∈ l,o a=none) (hs:∀ a ∈ l,∃ ob,h.get? a=some ob) (hc:∀ x c,F.env.cells.lookup x=some c→c ∉ l)
    (hk:∀ b,b ∉ l→∀ ob,s.heap.get? b=some ob→h'.get? b=some ob):Inv X s₀ (c8 o l h') p as mu F loc { s with heap:=h',toks:=tk }:=by
  obtain ⟨I1,al⟩:=I.unhold hl hs hc
  exact ((I1.alien (fun a ha=>(al a ha).1) hk).tok tk).hold (l:=l) fun a ha=>(al a ha).1
noncomputable def OV (X:Amb) (p:aw) (as:As):Option Val→Option Value→Prop
  | some v,some u=>VRel X p as v u
  | none,none=>True
  | _,_=>False
noncomputable def mW (X:Amb) (s₀:Shared) (F:Fm) (A:Around) (f:ae→Mu→Option (Option Val × Mu)) (elt:Expr) (ifs:List Expr):Prop :=
  ∀ {o p as mu mu' loc s ov},Inv X s₀ o p as mu F loc s→f loc mu=some (ov,mu')→∀ (Q:Option Value→Shared→Prop) (E:Value→Shared→Prop),
    (∀ p' as' s' ou,Sub p p'→as <+: as'→Inv X s₀ o p' as' mu' F loc s'→OV X p' as' ov ou→Q ou s') →
    wpAny (model X.prog X.w) A (forIn ifs true fun c r=>if r=true then do let ok ← isTrue c F.env (eval c F.env); pure (ForInStep.yield ok) else pure (ForInStep.yield r))
      (fun ok s₃=>if ok=true then wpAny (model X.prog X.w) A (eval elt F.env) (fun u s₄=>Q (some u) s₄) E s₃ else Q none s₃) E s
theorem yP {f:ae→Mu→Option (Option Val × Mu)} {elt target iter:Expr} {ifs:List Expr} {sc:Scope} {pos:Pos} {ts:List Nat} {ds:List Dat} {It D:Addr} {fp:List Addr} {Pr:Nat→Value→Prop} {St:Nat→Heap→Prop}
    {total:List Val} {muE:Mu} {R:Result→Shared→Prop} {ob:Obj} (hh:A.handled=none) (hT:mW X s₀ F A f elt ifs) (ht:MtT F.names (iT F) ts target) (T:Itr X A p ds It fp Pr St) (hlim:total.length≤lim) (e:cB f ts ds loc mu=some (total,muE))
    (I:Inv X s₀ (c8 o [D,It] s.heap) p as mu F (blank ts loc) s) (hl:∀ a ∈ [D,It],o a=none) (hc:∀ x c,F.env.cells.lookup x=some c→c ∉ [D,It]) (hst:St 0 s.heap) (hne:D ≠ It) (hIt:s.heap.get? It=some ob) {m:Nat}
    (hD:s.heap.get? D=some (listOf #[] m))
    (hR:∀ p' as' loc' s' ys m,Sub p p'→as <+: as'→Inv X s₀ (c8 o [D] s'.heap) p' as' muE F loc' s'→s'.heap.get? D=some (listOf ys m)→VRels X p' as' total ys.toList→R (.ok .next) s') :
    codeAny (model X.prog X.w) A (.compLoop (.ListComp elt [⟨target,iter,ifs,0⟩] sc pos) 0 (.ref It) (.ref D) F.env) R s:=by
  refine codeAny_loop rfl (fun k s'=>∃ (i:Nat) (p':aw) (as':As) (mu':Mu) (loc':ae) (ys:Array Value) (m:Nat) (vals rest:List Val),k=ds.length+1 - i∧i≤ds.length∧Inv X s₀ (c8 o [D,It] s'.heap) p' as' mu' F (blank ts loc') s' ∧
    s'.heap.get? D=some (listOf ys m)∧(∃ ob,s'.heap.get? It=some ob)∧VRels X p' as' vals ys.toList∧St i s'.heap∧cB f ts (ds.drop i) loc' mu'=some (rest,muE)∧vals++rest=total∧Sub p p'∧as <+: as') (fun k s' hI=>?_) (ds.length+1 - 0)
    ⟨0,p,as,mu,loc,#[],m,[],total,rfl,Nat.zero_le _,I,hD,⟨_,hIt⟩,rfl,hst,e,rfl,Sub.refl,List.prefix_refl _⟩
  refine xe9 hI fun i p' as' mu' loc' ys m vals rest r_=>J6 r_ fun hk_ hi I' hD' hx_ hv hst' e' r_=>gF r_ fun hvr sp sa=>xe1 hx_ fun ob' hIt'=>?_
  rw [hk_]
  clear hI hk_ hx_
  show wpAny _ A ((compTurn (.ListComp elt [⟨target,iter,ifs,0⟩] sc pos) 0 (.ref It) (.ref D) F.env).onRaise (fun x=>do noteFrame x F.env; theTreesLotGoes x)) _ _ s'
  refine wpAny_noted ?_
  rw [compTurn_list]
  have has:∀ a ∈ [D,It],∃ ob,s'.heap.get? a=some ob:=tY (⟨_,hD'⟩) (⟨_,hIt'⟩)
  by_cases hlt:i < ds.length
  · have hd:ds.drop i=ds[i]::ds.drop (i+1):=List.drop_eq_getElem_cons hlt
    rw [hd] at e'
    rw [JU] at e'
    refine bh e' fun l1 e1 e'=>?_
    refine bK e' fun ov m1 e2 e'=>?_
    refine bK e' fun vs m2 e3 e'=>?_
    refine dy e' fun h1_ h2_=>?_
    clear e'
    rw [← h1_] at hvr; rw [h2_] at e3
    refine wpAny_bind (wpAny_standAt (wpAny_bind (T.w.item i s' _ _ hlt hst' fun v h' tk hpr hst1 hk=>?_)))
    have hk':∀ b,b ∉ [D,It]→∀ ob,s'.heap.get? b=some ob→h'.get? b=some ob:=fun b hb ob e=>hk b ob (fun q=>hb (by simp at q; simp [q])) e
    have I1:=I'.swap (h':=h') (tk:=tk) hl has hc hk'
    have dr:DRel X p' ds[i] v:=(T.val i v ds[i] hpr (List.getElem?_eq_getElem hlt)).mono sp
    have hD1:h'.get? D=some (listOf ys m):=hk D _ (by simpa using hne) hD'
    refine xe1 (T.ex _ _ hst1) fun ob1 hIt1=>?_
    have has1:∀ a ∈ [D,It],∃ ob,h'.get? a=some ob:=tY (⟨_,hD1⟩) (⟨_,hIt1⟩)
    dsimp only
    refine wpAny_bind (T.go (i+1) _ target v _ _ hst1 ?_)
    refine wpAny_bind (oH hh ht (qC e1) I1 dr fun s2 I2=>?_)
    refine wpAny_bind (wpAny_mono (hT I2 e2 (fun ou s3=>∃ p3 gv,Sub p' p3∧as' <+: gv∧Inv X s₀ (c8 o [D,It] h') p3 gv m1 F l1 s3∧OV X p3 gv ov ou) _
      fun p3 gv s3 ou a b c d=>⟨p3,gv,a,b,c,d⟩) (fun ok s3 h3=>?_) fun Z Z x=>x)
    have held_at:∀ {p3 gv s3},Inv X s₀ (c8 o [D,It] h') p3 gv m1 F l1 s3→Sub p' p3→∀ {h4:Heap},(∀ b,b ∉ [D,It]→∀ ob,s3.heap.get? b=some ob→h4.get? b=some ob)→h4.get? It=h'.get? It→St (i+1) h4:=fun {p3 gv s3} I3 hp3 {h4} h34 hh4=>by
      refine T.w.frame _ _ _ hst1 fun b hb ob e=>?_
      rcases T.fp b hb with hq_ | hb
      · rw [hq_] at e ⊢; rw [hh4]; exact e
      · refine xe1 (Option.isSome_iff_exists.mp hb) fun ob2 q=>?_
        have q3:=hp3 _ _ (sp _ _ q)
        have e1:=I1.ple _ _ (sp _ _ q)
        have hoo:ob=ob2:=iS ((show h'.get? b=some ob from e).symm.trans e1)
        rw [hoo]
        refine h34 b (fun hm=>?_) _ (I3.ple _ _ q3)
        have:=I3.dj b (by rw [q3]; rfl)
        obtain ⟨ob5,e5⟩:=has1 b hm
        rw [dx hm,e5] at this; exact nS this.symm
    clear e2 h1_ h2_
    cases ok with
    | false =>
      simp only [Bool.false_eq_true,if_false] at h3 ⊢
      refine xe2 h3 fun p3 gv r_=>uW r_ fun sp3 sa3 I3 hov=>?_
      clear h3
      cases ov with
      | some v=>exact hov.elim
      | none =>
        have hD3:s3.heap.get? D=some (listOf ys m):=I3.ole _ _ ((dx (by simp)).trans hD1)
        have hI3:s3.heap.get? It=some ob1:=I3.ole _ _ ((dx (by simp)).trans hIt1)
        have I3':=I3.swap (h':=s3.heap) (tk:=s3.toks) hl has1 hc fun b Z ob e=>e
        refine wpAny_pure ⟨rfl,ds.length+1 - (i+1),by exact su hlt,i+1,p3,gv,m1,l1,ys,m,vals,vs,rfl,hlt,I3'.blank ts,hD3,⟨_,hI3⟩,hv.mono sp3 sa3,held_at I3 sp3 (fun b Z ob e=>e) (by rw [hI3,hIt1]),e3,hvr,sp.trans sp3,sa.trans sa3⟩
    | true =>
      simp only [if_true] at h3 ⊢
      refine wpAny_bind (wpAny_bind (wpAny_mono h3 (fun u s4 h4=>?_) fun Z Z x=>x))
      refine xe2 h4 fun p3 gv r_=>uW r_ fun sp3 sa3 I3 hov=>?_
      clear h4
      cases ov with
      | none=>exact hov.elim
      | some v =>
        have hov:VRel X p3 gv v u:=hov
        have hD3:s4.heap.get? D=some (listOf ys m):=I3.ole _ _ ((dx (by simp)).trans hD1)
        have hI3:s4.heap.get? It=some ob1:=I3.ole _ _ ((dx (by simp)).trans hIt1)
        have hz:vals.length=ys.size:=by simpa using hv.length
        have hle:vals.length≤lim:=by have:=congrArg List.length hvr; rw [List.length_append] at this; omega
        refine wpAny_bind (append_at hD3 (fun h5 hs5 hg5=>wpAny_pure ?_) (fC (by exact yN hle hz)))
        have I5:=I3.swap (h':=h5) (tk:=s4.toks) hl has1 hc fun b hb ob e=>(hs5.2 b fun q=>hb (by simp [q])).trans e
        refine wpAny_pure ⟨rfl,ds.length+1 - (i+1),by exact su hlt,i+1,p3,gv,m1,l1,ys.push u,m+1,vals++[v],vs,rfl,hlt,I5.blank ts,hg5,⟨ob1,(hs5.2 It (Ne.symm hne)).trans hI3⟩,?_,?_,e3,?_,sp.trans sp3,sa.trans sa3⟩
        · rw [Array.toList_push]; exact (hv.mono sp3 sa3).snoc hov
        · exact held_at I3 sp3 (fun b hb ob e=>(hs5.2 b fun q=>hb (by simp [q])).trans e) (by rw [hs5.2 It (Ne.symm hne),hI3,hIt1])
        · rw [← hvr]; simp
  · have hil:i=ds.length:=by omega
    rw [hil,List.drop_length] at e'
    rw [hil] at hst'
    refine dy e' fun h1_ h2_=>?_
    clear e'
    rw [← h1_] at hvr; rw [h2_] at I'
    refine wpAny_bind (wpAny_standAt (wpAny_bind (T.w.done s' _ _ hst' fun h' tk hk=>?_)))
    have hk':∀ b,b ∉ [D,It]→∀ ob,s'.heap.get? b=some ob→h'.get? b=some ob:=fun b hb ob e=>hk b ob (fun q=>hb (by simp at q; simp [q])) e
    refine aO (I'.unhold hl has hc) fun I1 al=>?_
    have hk2:∀ b,b ∉ [It]→∀ ob,s'.heap.get? b=some ob→h'.get? b=some ob:=fun b hb ob e=>hk b ob hb e
    have I2:=((I1.alien (l:=[It]) (fun a ha=>(al a (List.mem_cons_of_mem _ ha)).1) hk2).tok tk).hold (l:=[D]) fun a ha=>(al a (by rw [List.mem_singleton] at ha; rw [ha]; exact .head _)).1
    exact wpAny_pure (hR p' as' _ _ ys m sp sa I2 (hk D _ (by simpa using hne) hD') (by rw [← hvr,List.append_nil]; exact hv))
end
end Mine.Internal
namespace Mine.Internal
section
variable {X:Amb} {P:Fn→FDef} {s₀ s:Shared} {o p:aw} {as:As} {mu mu':Mu} {F:Fm} {loc loc':ae} {A:Around} {E:Value→Shared→Prop} {n:Nat}
theorem Inv.no_cell (I:Inv X s₀ o p as mu F loc s) {a:Addr} (h:cJ X o p as mu F a):∀ x c,F.env.cells.lookup x=some c→c ≠ a:=fun x c hc=>by
  refine I.ne_alien h ?_
  rcases (I.fr.cell x c hc).2 with k | k | k
  · exact .inl (List.mem_cons_of_mem _ (List.mem_append_left _ k))
  · exact .inr (.inl k)
  · exact .inr (.inr k)
theorem yF {f:ae→Mu→Option (Option Val × Mu)} {elt target iter:Expr} {ifs:List Expr} {sc:Scope} {kd:Kd} {pos:Pos} {ts:List Nat} {vs:List Val} {v:Val} {q:Bool} {use:Option (Value→Sem Unit)} {Q:Value→Shared→Prop}
    {cl:List (Str × Addr)} {C D It:Addr} {m0:Str→Option Value} {ds:List Dat} {fp:List Addr} {Pr:Nat→Value→Prop} {St:Nat→Heap→Prop} {muE:Mu} {k:Nat}
    (hh:A.handled=none) (hC:CompSc sc kd F.names ts) (hA:Agree F.env kd) (ht:MtT F.names (fun n=>cz sc n=some .local) ts target) (hT:mW X s₀ (g6 F sc cl C) A f elt ifs)
    (I:Inv X s₀ o p as mu F loc s) (aC:cJ X o p as mu F C) (aD:cJ X o p as mu F D) (aI:cJ X o p as mu F It) (nCD:C ≠ D) (nCI:C ≠ It) (nDI:D ≠ It) (hns:s.heap.Ns C m0) (hD:s.heap.get? D=some (listOf #[] k))
    (T:Itr X A p ds It fp Pr St) (hst:St 0 s.heap) (hgo:cB f ts ds loc mu=some (vs,muE)) (hnew:cx q muE vs (bE vs)=some (v,mu'))
    (h1:∀ x c,cl.lookup x=some c→F.env.cells.lookup x=some c) (h2:∀ x,(x,NameKind.free) ∈ sc.names→(cl.lookup x).isSome=true)
    (K:∀ p' as' s' u m,Sub p p'→as <+: as'→Inv X s₀ o p' as' mu' F loc s'→VRel X p' as' v u→cJ X o p' as' mu' F C→s'.heap.Ns C m→compPost (model X.prog X.w) A E use Q u C (.ok .next) s') :
    codeAny (model X.prog X.w) A (.compStart (.ListComp elt [⟨target,iter,ifs,0⟩] sc pos) 0 (.ref It) (.ref D) (g6 F sc cl C).env) (compPost (model X.prog X.w) A E use Q (.ref D) C) s:=by
  have IC:=xp hC hA I aC hns h1 h2
  have nown:∀ {a},cJ X o p as mu F a→c8 o F.own s.heap a=none:=fun {a} h=>by rw [ch fun k=>h.2.2 (List.mem_cons_of_mem _ (List.mem_append_left _ k))]; exact h.2.1
  have inner:∀ {a},cJ X o p as mu F a→a ≠ C→cJ X (c8 o F.own s.heap) p as mu (g6 F sc cl C) a:=fun {a} h hn=>⟨h.1,nown h,fun k=>by
    rcases List.mem_cons.mp k with hq_ | k
    · exact h.2.2 (hq_ ▸ .head _)
    · rcases List.mem_append.mp k with k | k
      · exact hn (by simpa using k)
      · exact h.2.2 (List.mem_cons_of_mem _ (List.mem_append_right _ k))⟩
  have cellne:∀ {a},cJ X o p as mu F a→∀ x c,cl.lookup x=some c→c ≠ a:=fun {a} h x c hc=>I.no_cell h x c (h1 x c hc)
  have two:∀ a ∈ [D,It],cJ X o p as mu F a∧a ≠ C:=tY (⟨aD,Ne.symm nCD⟩) (⟨aI,Ne.symm nCI⟩)
  have IH:=IC.hold (l:=[D,It]) fun a ha=>inner (two a ha).1 (two a ha).2
  obtain ⟨obI,hIt⟩:=T.ex _ _ hst
  have htt:MtT (g6 F sc cl C).names (iT (g6 F sc cl C)) ts target:=by
    have imp:∀ x,cz sc x=some .local→iT (g6 F sc cl C) x:=fun x hx=>.inl ((hC.agree (env:=F.env) (cl:=cl) (C:=C) x).1 hx)
    have imps:∀ {is:List Nat} {l:List Expr},MtTs F.names (fun n=>cz sc n=some .local) is l→MtTs F.names (iT (g6 F sc cl C)) is l:=by
      intro is
      induction is with
      | nil=>intro l h; exact h
      | cons i is ih=>intro l h; obtain ⟨x,pos,r,e1,e2,e3,h⟩:=h; exact ⟨x,pos,r,e1,e2,imp x e3,ih h⟩
    cases ts with
    | nil=>obtain ⟨l,k,pos,e,h⟩:=ht; exact ⟨l,k,pos,e,imps h⟩
    | cons i r =>
      cases r with
      | nil=>obtain ⟨x,pos,e1,e2,e3⟩:=ht; exact ⟨x,pos,e1,e2,imp x e3⟩
      | cons j r=>obtain ⟨l,k,pos,e,h⟩:=ht; exact ⟨l,k,pos,e,imps h⟩
  have hlim:vs.length≤lim:=jY hnew
  have loop:codeAny (model X.prog X.w) A (.compLoop (.ListComp elt [⟨target,iter,ifs,0⟩] sc pos) 0 (.ref It) (.ref D) (g6 F sc cl C).env) (compPost (model X.prog X.w) A E use Q (.ref D) C) s:=by
    refine yP hh hT htt T hlim hgo IH (fun a ha=>nown (two a ha).1) (fun x c hc hm=>cellne (two c hm).1 x c hc rfl) hst nDI hIt hD fun p' as' loc' s' ys m' sp sa I' hg hv=>?_
    obtain ⟨I1,al⟩:=I'.unhold (fun a ha=>nown (two a (by rw [List.mem_singleton] at ha; rw [ha]; exact .head _)).1) ((dM (⟨_,hg⟩))) (fun x c hc hm=>cellne aD x c hc (by simpa using hm))
    have IL:Inv X s₀ o p' as' muE F loc s':=Inv.leave (o':=o) (p'':=p') I I1 sp sa
    have ownC:∀ {a},cJ X o p as mu F a→a ∉ F.own:=fun {a} h k=>h.2.2 (List.mem_cons_of_mem _ (List.mem_append_left _ k))
    have aC':cJ X o p' as' muE F C:=by
      obtain ⟨b1,b2,b3⟩:=I1.out C (List.mem_cons_of_mem _ (List.mem_append_left _ (.head _)))
      refine ⟨b1,aC.2.1,fun k=>?_⟩
      rcases List.mem_cons.mp k with k | k
      · exact (List.nodup_cons.mp I1.nodup).1 (k ▸ List.mem_append_left _ (.head _))
      · rcases List.mem_append.mp k with k | k
        · exact ownC aC k
        · exact I1.own_owns (.head _) k
    have aD':cJ X o p' as' muE F D:=by
      obtain ⟨⟨b1,b2,b3⟩,_⟩:=al D (.head _)
      refine ⟨b1,aD.2.1,fun k=>?_⟩
      rcases List.mem_cons.mp k with k | k
      · exact b3 (k ▸ .head _)
      · rcases List.mem_append.mp k with k | k
        · exact ownC aD k
        · exact b3 (List.mem_cons_of_mem _ (List.mem_append_right _ k))
    obtain ⟨mC,hnC,_⟩:=I1.fr.ns
    have hnC:s'.heap.Ns C mC:=hnC
    have IK:=IL.hold (l:=[C]) (dM (aC'))
    have aDK:cJ X (c8 o [C] s'.heap) p' as' muE F D:=⟨aD'.1,by rw [ch (by simpa using Ne.symm nCD)]; exact aD'.2.1,aD'.2.2⟩
    refine xe2 (DH hnew IK aDK hg hv) fun p2 eV r_=>uW r_ fun sp2 sa2 I2 vr=>?_
    obtain ⟨obC,_,_,eC,_⟩:=id hnC
    obtain ⟨I3,al3⟩:=I2.unhold ((dM (aC.2.1))) ((dM (⟨_,eC⟩))) (fun x c hc hm=>I.no_cell aC x c hc (by simpa using hm))
    exact K p2 eV s' (.ref D) mC (sp.trans sp2) (sa.trans sa2) I3 vr (al3 C (.head _)).1 hnC
  exact codeAny_compStart_list loop (T.w.self 0 _ _ _ hst loop)
theorem yM {f:ae→Mu→Option (Option Val × Mu)} {elt target iter:Expr} {ifs:List Expr} {sc:Scope} {kd:Kd} {pos pos':Pos} {ts:List Nat} {vs:List Val} {v:Val} {q:Bool} {use:Option (Value→Sem Unit)} {Q:Value→Shared→Prop}
    (hh:A.handled=none) (hC:CompSc sc kd F.names ts) (hA:Agree F.env kd) (ht:MtT F.names (fun n=>cz sc n=some .local) ts target) (hT:∀ cl C,mW X s₀ (g6 F sc cl C) A f elt ifs) (hs:ke iter)
    (I:Inv X s₀ o p as mu F loc s)
    (h:wpAny (model X.prog X.w) A (eval iter F.env) (fun u s₁=>∃ p1 bv mu1 d ds m2,Sub p p1∧as <+: bv∧Inv X s₀ o p1 bv mu1 F loc s₁∧DRel X p1 d u∧items d=some ds∧cB f ts ds loc mu1=some (vs,m2)∧cx q m2 vs (bE vs)=some (v,mu')) E s)
    (K:∀ p' as' s' u C m,Sub p p'→as <+: as'→Inv X s₀ o p' as' mu' F loc s'→VRel X p' as' v u→cJ X o p' as' mu' F C→s'.heap.Ns C m→compPost (model X.prog X.w) A E use Q u C (.ok .next) s') :
    wpAny (model X.prog X.w) A (comprehension (.ListComp elt [⟨target,iter,ifs,0⟩] sc pos) sc F.env pos' (newList []) false (eval iter F.env) use) Q E s:=by
  have cells:∀ x ∈ sc.names,x.2=.free→(F.env.cells.lookup x.1).isSome=true:=fun x hx hf=>I.fr.has x.1 (by
    rcases hC.free x hx hf with q | q
    · exact .inl ((hA x.1).2.2.1 q)
    · exact (hA x.1).2.2.2 q)
  have hcl:=pS cells
  refine aO (iE (acc:=[]) cells (fun x c h=>by exact nS h)) fun c1 c2=>?_
  generalize jf F.env sc.names []=cl at hcl c1 c2
  refine wpAny_comprehension_free rfl (fun x=>by cases iter <;> first | rfl | exact (iP hs)) hcl hC.kind (fun x hx hl=>(hC.one x hx).trans (by rw [hl])) (wpAny_mono h (fun u s₁ h₁=>?_) fun Z Z x=>x)
  obtain ⟨p1,bv,mu1,d,ds,m2,sp,sa,I1,dr,hi,hgo,hnew⟩:=h₁
  refine uR hi hh I1 dr fun It ob fp Pr St eIt hf T hst=>?_
  have I2:=I1.push ob
  refine wpAny_newObj_type ?_
  have I3:=I2.push (listOf #[] 0)
  refine wpAny_newFunctionEnv hC.cell (by intro y hy; simp at hy) (fun h₄ hns hsb=>?_) hC.kind
  have k4:∀ b ob',((s₁.heap.push ob).push (listOf #[] 0)).get? b=some ob'→h₄.get? b=some ob':=fun b ob' e=>(hsb.2 b (Nat.ne_of_lt (Heap.lt_size e))).trans (Heap.get?_push_of_some _ e)
  have I4:=I3.keeps k4
  have ob1:(s₁.heap.push ob).objs.size=It+1:=by rw [Heap.size_push,eIt]
  have fresh:∀ a,s₁.heap.objs.size≤a→cJ X o p1 bv mu1 F a:=fun a ha=>I1.fresh_of ha
  have sC:((s₁.heap.push ob).push (listOf #[] 0)).objs.size=It+1+1:=by rw [Heap.size_push,ob1]
  refine yF (C:=((s₁.heap.push ob).push (listOf #[] 0)).objs.size) (D:=(s₁.heap.push ob).objs.size) (s:={ s₁ with heap:=h₄,toks:=s₁.toks+0 }) hh hC hA ht (hT cl _) (I4.tok _) (fresh _ (by rw [sC,← eIt]; exact Nat.le_of_lt (by exact Nat.le_add_right _ _))) (fresh _ (by rw [ob1,← eIt]; exact Nat.le_add_right _ _)) (fresh _ (by rw [eIt]; exact Nat.le_refl _)) (by rw [sC,ob1]; exact Nat.ne_of_gt (Nat.lt_succ_self _)) (by rw [sC]; exact Nat.ne_of_gt (by exact Nat.le_add_right _ _)) (by rw [ob1]; exact Nat.ne_of_gt (Nat.lt_succ_self _)) hns
    (k4 _ _ (Heap.get?_push_size _ rfl)) T (T.w.frame _ _ _ hst fun b Z ob' e=>k4 _ _ (Heap.get?_push_of_some _ e)) hgo hnew c1 (fun x hx=>c2 x (.inr hx)) fun p' as' s' u m a b c d e f=>K p' as' s' u _ m (sp.trans a) (sa.trans b) c d e f
end
end Mine.Internal
namespace Mine.Internal
noncomputable def Gc (X:Amb) (p:aw) (as:As):Fl→Flow→Prop
  | .next,f=>f=.next
  | .ret v,f=>∃ u,f=.ret u∧VRel X p as v u
noncomputable def aR (X:Amb) (s₀:Shared) (C:Calls) (n:Nat) (e:CE):Prop:=∀ ⦃kd F x A o p as mu mu' loc s v Q E⦄,Mt F.names F.fz kd e x→Agree F.env kd→Rm n A→Inv X s₀ o p as mu F loc s →
  ev C loc mu e=some (v,mu')→Kv X s₀ o p as mu' F loc Q v→wpAny (model X.prog X.w) A (eval x F.env) Q E s
noncomputable def eA (X:Amb) (s₀:Shared) (C:Calls) (n:Nat) (e:CE):Prop:=∀ ⦃kd F x A o p as mu mu' loc s v b⦄ ⦃Q:Bool→Shared→Prop⦄ ⦃E⦄,Mt F.names F.fz kd e x→Agree F.env kd→Rm n A→Inv X s₀ o p as mu F loc s →
  ev C loc mu e=some (v,mu')→dh v=some b→(∀ p' as' s',Sub p p'→as <+: as'→Inv X s₀ o p' as' mu' F loc s'→Q b s')→wpAny (model X.prog X.w) A (isTrue x F.env (eval x F.env)) Q E s
noncomputable def lf (X:Amb) (s₀:Shared) (C:Calls) (n:Nat) (es:CEs):Prop:=∀ ⦃kd F l A o p as mu mu' loc s vs⦄ ⦃Q:List Value→Shared→Prop⦄ ⦃E⦄,MtL F.names F.fz kd es l→Agree F.env kd→Rm n A→Inv X s₀ o p as mu F loc s →
  cV C loc mu es=some (vs,mu')→(∀ p' as' s' us,Sub p p'→as <+: as'→Inv X s₀ o p' as' mu' F loc s'→VRels X p' as' vs us→Q us s')→wpAny (model X.prog X.w) A (spliced (eM l F.env)) Q E s
noncomputable abbrev Kf (X:Amb) (s₀:Shared) (o p:aw) (as:As) (mu':Mu) (F:Fm) (loc':ae) (Q:Flow→Shared→Prop) (fl:Fl):Prop :=
  ∀ p' as' s' f,Sub p p'→as <+: as'→Inv X s₀ o p' as' mu' F loc' s'→Gc X p' as' fl f→Q f s'
theorem Kf.eqP {X:Amb} {s₀:Shared} {o p:aw} {as:As} {mu m:Mu} {F:Fm} {loc l:ae} {Q:Flow→Shared→Prop} {fl f:Fl} (K:Kf X s₀ o p as mu F loc Q fl) (h:(f,l,m)=(fl,loc,mu)):Kf X s₀ o p as m F l Q f:=by cases h; exact K
theorem Kf.eqS {X:Amb} {s₀:Shared} {o p:aw} {as:As} {mu m:Mu} {F:Fm} {loc l:ae} {Q:Flow→Shared→Prop} {fl f:Fl} (K:Kf X s₀ o p as mu F loc Q fl) (h:some (f,l,m)=some (fl,loc,mu)):Kf X s₀ o p as m F l Q f:=by cases h; exact K
noncomputable def iw (X:Amb) (s₀:Shared) (C:Calls) (n:Nat) (c:CS):Prop:=∀ ⦃kd F x A o p as mu mu' loc loc' s fl Q E⦄,Fh F.names F.wr F.fz kd c x→Agree F.env kd→Rm n A→Inv X s₀ o p as mu F loc s →
  ex C loc mu c=some (fl,loc',mu')→Kf X s₀ o p as mu' F loc' Q fl→wpAny (model X.prog X.w) A (exec x F.env) Q E s
noncomputable def jJ (X:Amb) (s₀:Shared) (C:Calls) (n:Nat) (c:CSs):Prop:=∀ ⦃kd F l A o p as mu mu' loc loc' s fl Q E⦄,fJ F.names F.wr F.fz kd c l→Agree F.env kd→Rm n A→Inv X s₀ o p as mu F loc s →
  er C loc mu c=some (fl,loc',mu')→Kf X s₀ o p as mu' F loc' Q fl→wpAny (model X.prog X.w) A (execs l F.env) Q E s
noncomputable def wz (Q:Value→Shared→Prop) (E:Value→Shared→Prop) (r:Result) (s':Shared):Prop:=match r with
  | .ok (.ret u)=>Q u s'
  | .ok _=>False
  | .error e=>E e s'
noncomputable def cq (X:Amb) (s₀:Shared) (C:Calls) (n:Nat):Prop:=∀ ⦃f vs us A o p as mu mu' F loc s v Q E⦄,Rc n A→Inv X s₀ o p as mu F loc s→VRels X p as vs us→C f vs mu=some (v,mu')→Kv X s₀ o p as mu' F loc Q v →
  codeAny (model X.prog X.w) A (.call (.ref (X.fn f)) ⟨us,[]⟩) (wz Q E) s
section
variable {X:Amb} {P:Fn→FDef} {s₀ s:Shared} {o p:aw} {as:As} {mu mu':Mu} {F:Fm} {loc loc':ae} {A:Around} {E:Value→Shared→Prop} {n:Nat} {C:Calls}
theorem mf {C:Calls} {loc:ae} {mu:Mu} (n:Nat) {names fz:List Str} {e:CE} {kd:Kd} {x:Expr} {r:Val × Mu} (hn:fd e=n) (h:Mt names fz kd e x) (he:ev C loc mu e=some r):Solid x:=by
  induction n generalizing e r with
  | zero =>
    cases e with
    | frz a=>cases hn
    | any=>rw [qn] at he; exact nS he
    | _=>exact zM h rfl
  | succ n ih =>
    cases e with
    | frz a =>
      rw [pA] at he
      exact (Option.bind_eq_some_iff.mp he).elim fun q hq=>ih (Nat.succ.inj hn) h hq.1
    | _=>cases hn
theorem Mt.nset {names:List Str} {fz:List Str} {e:CE} {kd:Kd} {x:Expr} {C:Calls} {loc:ae} {mu:Mu} {r:Val × Mu} (h:Mt names fz kd e x) (he:ev C loc mu e=some r):ke x:=(mf _ rfl h he).1
noncomputable def BE (C:Calls) (q:Bool) (elt:CE) (ts:List Nat) (it:CE) (c:Option CE) (loc:ae) (mu:Mu):Option (Val × Mu):=(ev C loc mu it).bind fun (x,m)=>(fF x).bind fun xs =>
  (cB (fun l m=>match c with
    | none=>(ev C l m elt).map fun (v,m)=>(some v,m)
    | some c=>(ev C l m c).bind fun (t,m)=>(dh t).bind fun b=>if b then (ev C l m elt).map fun (v,m)=>(some v,m) else some (none,m)) ts xs loc m).bind fun (vs,m)=>cx q m vs (bE vs)
theorem wW {elt:CE} {x:Expr} {kd:Kd} (he:aR X s₀ C n elt) (hm:Mt F.names F.fz kd elt x) (hA:Agree F.env kd) (hR:Rm n A):mW X s₀ F A (fun l m=>(ev C l m elt).map fun (v,m)=>(some v,m)) x []:=by
  intro o p as mu mu' loc s ov I e Q E K
  refine bN e fun q0_ e1 e2=>?_
  clear e
  obtain ⟨v,m⟩:=q0_
  (refine eR e2 fun h1_ h2_=>?_; subst h1_; subst h2_)
  refine wpAny_tests_nil ?_
  simp only [if_true]
  exact he hm hA hR I e1 fun p' as' s' u a b c d=>K p' as' s' (some u) a b c d
theorem yQ {elt c:CE} {x z:Expr} {kd:Kd} (he:aR X s₀ C n elt) (hc:eA X s₀ C n c) (hm:Mt F.names F.fz kd elt x) (hz:Mt F.names F.fz kd c z) (hA:Agree F.env kd) (hR:Rm n A) :
    mW X s₀ F A (fun l m=>(ev C l m c).bind fun (t,m)=>(dh t).bind fun b=>if b then (ev C l m elt).map fun (v,m)=>(some v,m) else some (none,m)) x [z]:=by
  intro o p as mu mu' loc s ov I e Q E K
  refine bK e fun t m e1 e2=>?_
  clear e
  refine bh e2 fun b e2 e3=>?_
  refine wpAny_tests_one (hc hz hA hR I e1 e2 fun p' as' s' sp sa I'=>?_)
  cases b with
  | false=>(refine dy e3 fun h1_ h2_=>?_; subst h1_; subst h2_); simp only [Bool.false_eq_true,if_false]; exact K p' as' s' none sp sa I' trivial
  | true =>
    simp only [if_true] at e3 ⊢
    refine bN e3 fun q0_ e4 e5=>?_
    clear e3
    obtain ⟨v,m'⟩:=q0_
    (refine eR e5 fun h1_ h2_=>?_; subst h1_; subst h2_)
    exact he hm hA hR I' e4 fun p2 eV s2 u a b c d=>K p2 eV s2 (some u) (sp.trans a) (sa.trans b) c d
theorem nU {q:Bool} {elt it:CE} {c:Option CE} {ts:List Nat} {x t y:Expr} {zs:List Expr} {sc:Scope} {kd:Kd} {pos pos':Pos} {v:Val} {use:Option (Value→Sem Unit)} {Q:Value→Shared→Prop}
    (hi:aR X s₀ C n it) (hl:aR X s₀ C n elt) (hc:∀ c',c=some c'→eA X s₀ C n c') (hS:CompSc sc kd F.names ts) (hy:Mt F.names F.fz kd it y) (ht:MtT F.names (fun n=>cz sc n=some .local) ts t) (hx:Mt F.names [] (cz sc) elt x)
    (hz:match c with | none=>zs=[] | some c'=>∃ z,zs=[z]∧Mt F.names [] (cz sc) c' z) (hA:Agree F.env kd) (hR:Rm n A) (I:Inv X s₀ o p as mu F loc s) (e:BE C q elt ts it c loc mu=some (v,mu'))
    (K:∀ p' as' s' u C m,Sub p p'→as <+: as'→Inv X s₀ o p' as' mu' F loc s'→VRel X p' as' v u→cJ X o p' as' mu' F C→s'.heap.Ns C m→compPost (model X.prog X.w) A E use Q u C (.ok .next) s') :
    wpAny (model X.prog X.w) A (comprehension (.ListComp x [⟨t,y,zs,0⟩] sc pos) sc F.env pos' (newList []) false (eval y F.env) use) Q E s:=by
  unfold BE at e
  refine bK e fun xv m1 e1 f1=>?_
  refine bh f1 fun xs e2 f2=>?_
  refine bK f2 fun vs m2 e3 e4=>?_
  clear e f1 f2
  cases xv with
  | r k=>exact nS e2
  | clo k=>exact nS e2
  | d d =>
    refine yM (q:=q) (vs:=vs) (v:=v) (mu':=mu') hR.hand hS hA ht (f:=_) (fun cl Ca=>?_) (hy.nset e1) I (hi hy hA hR I e1 fun p1 bv s1 u sp sa I1 r=>⟨p1,bv,m1,d,xs,m2,sp,sa,I1,r,e2,e3,e4⟩) K
    cases c with
    | none=>subst hz; exact wW (F:=g6 F sc cl Ca) hl hx hS.agree hR
    | some c'=>obtain ⟨z,rfl,hz⟩:=hz; exact yQ (F:=g6 F sc cl Ca) hl (hc c' rfl) hx hz hS.agree hR
theorem m8 {u:Value} {Cl:Addr} {v:Val} {m:Str→Option Value} {Q:Value→Shared→Prop} (I:Inv X s₀ o p as mu F loc s) (al:cJ X o p as mu F Cl) (hn:s.heap.Ns Cl m) (vr:VRel X p as v u) (K:Kv X s₀ o p as mu F loc Q v) :
    compPost (model X.prog X.w) A E none Q u Cl (.ok .next) s :=
  ⟨m,hn,fun h' hs=>K.now (I.alien (l:=[Cl]) ((dM (al))) fun b hb ob e=>(hs.2 b (by simpa using hb)).trans e) vr⟩
theorem rU {u:Value} {Cl:Addr} {v:Val} {m:Str→Option Value} {Q:Value→Shared→Prop} {i:Nat} {x:Str} {px:Pos} (hx:F.names[i]? = some x) (ok:iT F x) (I:Inv X s₀ o p as mu F loc s) (al:cJ X o p as mu F Cl) (hn:s.heap.Ns Cl m) (vr:VRel X p as v u)
    (K:∀ s',Inv X s₀ o p as mu F (loc.set i (some v)) s'→Q .none s'):compPost (model X.prog X.w) A E (some (assign (.Name x px) F.env)) Q u Cl (.ok .next) s:=by
  obtain ⟨obC,es,ep,eC,r⟩:=id hn
  have IK:=I.hold (l:=[Cl]) (dM (al))
  refine wpAny_assign_Name (jZ IK hx ok vr fun s' I'=>?_)
  obtain ⟨I2,al2⟩:=I'.unhold ((dM (al.2.1))) ((dM (⟨_,eC⟩))) (fun y c hc hm=>I.no_cell al y c hc (by simpa using hm))
  obtain ⟨a1,a2⟩:=al2 Cl (.head _)
  exact ⟨m,⟨obC,es,ep,a2.trans eC,r⟩,fun h' hs=>K _ (I2.alien (l:=[Cl]) ((dM (a1))) fun b hb ob e=>(hs.2 b (by simpa using hb)).trans e)⟩
end
end Mine.Internal
namespace Mine.Internal
section
variable {X:Amb} {P:Fn→FDef} {s₀ s:Shared} {o p:aw} {as:As} {mu mu':Mu} {F:Fm} {loc loc':ae} {A:Around} {E:Value→Shared→Prop} {n:Nat} {C:Calls}
theorem o0 {pos:Pos} {r:List Value}:∀ (l:List Value),TriplesOk l→codeAmong pos (l++r)=(codeAmong pos l).or (codeAmong pos r):=fun l h=>by
  fun_induction TriplesOk l with
  | case1=>simp [codeAmong]
  | case2 a t b u x rest ih =>
    simp only [List.cons_append,codeAmong]
    split
    · rfl
    · exact ih h
  | case3 l h1 h2=>exact h.elim
theorem Inv.retab (I:Inv X s₀ o p as mu F loc s) {h':Heap} {c':Addr} {oc:Obj} {ps':Array Value} (hk:Heap.ExtBut X.tab s.heap h') (hc:s.heap.objs.size≤c') (hg:h'.get? c'=some oc) (ht:h'.get? X.tab=some (tabObj ps')) (tt:TabOK X (put1 p c' oc) ps') :
    Inv X s₀ o (put1 p c' oc) as mu F loc { s with heap:=h' }:=by
  obtain ⟨f1,f2,f3⟩:=I.fresh_of hc
  have ptab:=(I.out X.tab (.head _))
  have sp:Sub p (put1 p c' oc):=Sub.put1 f1
  have keep:∀ b,b ≠ X.tab→∀ ob,s.heap.get? b=some ob→h'.get? b=some ob:=fun b hb ob e=>hk b ob hb e
  refine ⟨by obtain ⟨k,e⟩:=I.sh; exact ⟨k,by rw [e]⟩,I.base.trans sp,fun b ob e=>?_,fun b ob e=>keep b (fun q=>by rw [q,ptab.2] at e; exact nS e) ob (I.ole _ _ e),fun b hb=>?_,I.len,
    fun i q m e f=>(I.mus i q m e f).mono sp (List.prefix_refl _) fun b hb ob x=>keep b (fun y=>I.tab_owns (by rw [← y]; exact fH e f b hb)) ob x,I.nodup,fun b hb=>?_,?_,⟨ps',ht,tt⟩⟩
  · by_cases q:b=c'
    · subst q; rw [cb] at e; (replace e:=iS e; subst e); exact hg
    · rw [eY q] at e
      exact keep b (fun z=>by rw [z,ptab.1] at e; exact nS e) ob (I.ple _ _ e)
  · by_cases q:b=c'
    · rw [q]; exact f2
    · rw [eY q] at hb; exact I.dj b hb
  · obtain ⟨b1,b2,ob,x⟩:=I.out b hb
    refine ⟨by rw [eY (fun q:b=c'=>f3 (q ▸ hb))]; exact b1,b2,?_⟩
    by_cases q:b=X.tab
    · rw [q]; exact ⟨_,ht⟩
    · exact ⟨ob,keep b q ob x⟩
  · refine I.fr.on sp (List.prefix_refl _) fun b hb ob x=>keep b (fun y=>?_) ob x
    subst y
    rcases hb with hb | hb | hb
    · exact I.tab_own hb
    · rw [ptab.1] at hb; cases hb
    · rw [ptab.2] at hb; cases hb
theorem Bh {k b:Int} {fv u:Value} {Q:Value→Shared→Prop} (hX:X.H₀.NoLimit) (hr:A.depth < recursionLimit) (I:Inv X s₀ o p as mu F loc s) (r:CloRel X p k fv) (rb:VRel X p as (.d (.int b)) u) (K:Kv X s₀ o p as mu F loc Q (.d (.int (b+k)))) :
    codeAny (model X.prog X.w) A (.call fv ⟨[u],[]⟩) (wz Q E) s:=by
  refine xe1 (cQ rb) fun t e1_=>?_
  subst e1_
  obtain @⟨f,name,qual,params,body,scope,cl,pm,c',ctv,cell,tc,ob,oc,vs,tq,e1,⟨⟨p1,p2,p3,rfl⟩,⟨a1,a2,a3,a4,a5⟩,⟨k1,k2,k3⟩,l1,l2,l3⟩,e2,e3,e4,e5,e6,e7⟩:=r
  refine kla_callFunE hr (I.ple _ _ e1) rfl k2 k3 rfl ⟨c',oc,vs,tq,rfl,I.ple _ _ e5,e6,e7⟩ ?_
  rw [rn (names:=[gE]) a1 a2 a3 a4 a5 rfl (by simp) (by rfl)]
  refine wpAny_pure (wpAny_newFunctionEnv l3 (fun x hx=>?_) (fun h₁ hns hsb=>⟨(hX.keeps I.keepH).fresh _ hsb,?_⟩) k1)
  · have:x=(gE,.int b t):=by simpa using hx
    subst this; exact l1
  have hk₁:∀ b o,s.heap.get? b=some o→h₁.get? b=some o:=fun b o e=>hsb.extBut b o (Nat.ne_of_lt (Heap.lt_size e)) (Heap.get?_push_of_some _ e)
  have I':=I.keepsT (tk:=s.toks+([gE].zip [Value.int b t]).length) hk₁
  refine kla_codeExpr (wpAny_BinOp (wpAny_Name (wpAny_loadName_local k1 l1 hns (v:=.int b t) (by simp) (wpAny_Name (wpAny_loadName_free k1 l2 e2 (v:=.int k tc) ⟨ob,hk₁ _ _ (I.ple _ _ e3),e4⟩ ?_ (by decide +kernel)) (by decide +kernel))) (by decide +kernel)))
  exact wpAny_add_int (K.here I' eE)
theorem Ao {i:Nat} {k:Int} {ps:Arguments} {b:Expr} {sc:Scope} {pos:Pos} {kd:Kd} {Q:Value→Shared→Prop} (hX:AmbOK X P) (hfz:ca ∈ F.fz) (hL:LamOK ps b sc) (h1:ps.defaults=[]) (h2:ps.kw_defaults=[]) (h3:ps.kwonlyargs=[]) (hx:F.names[i]? = some ca)
    (hk:kd ca=some .cell) (hf:sc.names.lookup ca=some .free) (ho:∀ x ∈ sc.names,x.2=.free→x.1=ca) (hA:Agree F.env kd) (I:Inv X s₀ o p as mu F loc s) (hl:look loc mu i=some (.d (.int k)))
    (K:Kv X s₀ o p as mu F loc Q (.clo k)):wpAny (model X.prog X.w) A (eval (.Lambda ps b sc pos) F.env) Q E s:=by
  have kc:F.env.kindOf ca=some .cell:=(hA ca).2.2.1 hk
  have cells:∀ x ∈ sc.names,x.2=.free→(F.env.cells.lookup x.1).isSome=true:=fun x hx hf=>by rw [ho x hx hf]; exact I.fr.has _ (.inl kc)
  have hcl:=pS cells
  refine aO (iE (acc:=[]) cells (fun x c h=>by exact nS h)) fun c1 c2=>?_
  generalize jf F.env sc.names []=cl at hcl c1 c2
  refine xe1 (Option.isSome_iff_exists.mp (c2 ca (.inr (mem_of_lookup hf)))) fun c hc=>?_
  have hc':=c1 _ _ hc
  obtain ⟨code,qual⟩:=I.fr.lam ca hfz
  refine xe1 (Option.isSome_iff_exists.mp (I.fr.fcell ca hfz c hc')) fun obc pc=>?_
  have hcell:∃ t,obc.data=.cell (some (.int k t)):=by
    refine bh hl fun ov hv' hl2=>?_
    clear hl
    refine bN hl2 fun v' e1_ hl3=>?_
    clear hl2
    subst e1_
    · obtain ⟨m,hn,hr⟩:=I.fr.ns
      obtain ⟨u,r,vr⟩:=hr i ca v' hx hv' (.inr (.inl kc))
      have vr2:=vr.norm I
      rw [hl3] at vr2
      refine xe1 (cQ vr2) fun t e1_=>?_
      subst e1_
      rcases r with ⟨z,_⟩ | ⟨_,c2,hc2,ob2,e2,d2⟩
      · rw [kc] at z; cases z
      · rw [hc'] at hc2; (replace hc2:=iS hc2; subst hc2)
        rw [I.ple _ _ pc] at e2; (replace e2:=iS e2; rw [e2])
        exact ⟨t,d2⟩
  obtain ⟨tc,hcell⟩:=hcell
  obtain ⟨pst,hP,tri,tab⟩:=I.tb
  have CH:=hX.hd.keeps I.keepH
  have BA:=hX.bat.keeps I.keepH
  have hgs:=hX.g.keeps I.keepH
  refine kla_eval (by obtain ⟨q1,q2,q3,q4,q5,q6,q7⟩:=ps; dsimp only at h1 h2 h3; rw [h1]; rw [h2]; rw [h3]; rfl) ?_
  rw [qual]
  cases hca:codeAmong pos pst.toList with
  | none =>
    refine kla_makeFunction hcl I.fr.glob hgs code CH hP tri hca hX.gtab BA fun c' ctv h' tk hext hge hlt hrec htab=>?_
    obtain ⟨c'',oc,vs,tq,q1,q2,q3,q4⟩:=hrec
    cases q1
    have I1:=I.retab (c':=c') (oc:=oc) hext hge q2 htab ⟨by rw [Array.toList_append]; exact TriplesOk_snoc _ _ _ _ tri,fun pos' cv hcv=>by
      rw [Array.toList_append,o0 _ tri] at hcv
      cases z:codeAmong pos' pst.toList with
      | some w =>
        rw [z] at hcv
        obtain ⟨c2,oc2,vs2,tq2,r1,r2,r3,r4⟩:=tab pos' w z
        have hcv:some w=some cv:=hcv
        (replace hcv:=iS hcv; rw [← hcv])
        exact ⟨c2,oc2,vs2,tq2,r1,Sub.put1 (I.fresh_of hge).1 _ _ r2,r3,r4⟩
      | none =>
        rw [z] at hcv
        have hcv:codeAmong pos' [rawInt pos.line,rawInt pos.col,.ref c']=some cv:=hcv
        simp only [codeAmong,rawInt] at hcv
        split at hcv
        · (replace hcv:=iS hcv; rw [← hcv])
          exact ⟨c',oc,vs,tq,rfl,cb,q3,q4⟩
        · cases hcv⟩
    have I2:=(I1.pushP (kla_obj "<lambda>" X.lq ps b sc cl ((X.mg "__name__").getD .none) c' ctv) rfl).tok tk
    have sp1:Sub p (put1 p c' oc):=Sub.put1 (I.fresh_of hge).1
    have sp2:=Sub.put1 (o:=kla_obj "<lambda>" X.lq ps b sc cl ((X.mg "__name__").getD .none) c' ctv) I1.fresh_p
    have sp2:Sub (put1 p c' oc) (put1 (put1 p c' oc) h'.objs.size (kla_obj "<lambda>" X.lq ps b sc cl ((X.mg "__name__").getD .none) c' ctv)):=sp2
    refine K _ _ _ _ (sp1.trans sp2) (List.prefix_refl _) I2 ?_
    exact .mk cb hL hc (sp2 _ _ (sp1 _ _ pc)) hcell (sp2 _ _ cb) q3 q4
  | some cv =>
    obtain ⟨c',oc,vs,tq,rfl,r2,r3,r4⟩:=tab pos cv hca
    refine kla_makeFunctionHit hcl I.fr.glob hgs code CH hP tri hca BA fun ctv h' tk hk hle=>?_
    have I1:=I.keeps hk
    have I2:=(I1.pushP (kla_obj "<lambda>" X.lq ps b sc cl ((X.mg "__name__").getD .none) c' ctv) rfl).tok tk
    have sp2:=Sub.put1 (o:=kla_obj "<lambda>" X.lq ps b sc cl ((X.mg "__name__").getD .none) c' ctv) I1.fresh_p
    have sp2:Sub p (put1 p h'.objs.size (kla_obj "<lambda>" X.lq ps b sc cl ((X.mg "__name__").getD .none) c' ctv)):=sp2
    refine K _ _ _ _ sp2 (List.prefix_refl _) I2 ?_
    exact .mk cb hL hc (sp2 _ _ pc) hcell (sp2 _ _ r2) r3 r4
end
end Mine.Internal
namespace Mine.Internal
theorem l9 {Q:Value→Shared→Prop} {E:Value→Shared→Prop} {M:Model} {A:Around} {c:Code} {s:Shared} (h:codeAny M A c (wz Q E) s) :
    codeAny M A c (fun r s'=>match r with | .ok (.ret v)=>Q v s' | .ok _=>False | .error e=>E e s') s:=h
theorem Fn.meth_ne {f:Fn} (h:f.isMeth=true):Str.ofString f.nm ≠ Fld.body.str:=by cases f <;> first | exact absurd h (by decide) | decide +kernel
section
variable {X:Amb} {P:Fn→FDef} {s₀ s:Shared} {o p:aw} {as:As} {mu mu':Mu} {F:Fm} {loc loc':ae} {A:Around} {E:Value→Shared→Prop} {n:Nat} {C:Calls}
theorem lg {fv:Value} {first:List Value} {l:List Expr} {pos:Pos} {Q:Value→Shared→Prop} {env:Env} (hk:keepIn X.K fv=true) (hst:∀ e ∈ l,bI e)
    (h:wpAny (model X.prog X.w) A (spliced (eM l env)) (fun us s₁=>X.K.In s₁.heap∧wpAny (model X.prog X.w) A (call fv (first++us)) Q E s₁) E s) :
    wpAny (model X.prog X.w) A (callWith pos fv first (backTo pos (starEach l env)) []) Q E s:=by
  rw [cG hst,c7]
  exact callWith_of (by rw [d5]; rfl) (keeps_K hk) (ez h)
theorem Fq {c:Cls} {vs:List Val} {us:List Value} {Q:Value→Shared→Prop} (hX:AmbOK X P) (hC:cq X s₀ C n) (hR:Rm n A) (I:Inv X s₀ o p as mu F loc s) (r:VRels X p as vs us)
    (e:C c.init (.r mu.length::vs) (mu++[.inst c [] []])=some (.d .none,mu')) (K:Kv X s₀ o p as mu' F loc Q (.r mu.length)) :
    codeAny (model X.prog X.w) A (.call (.ref (X.cls c)) ⟨us,[]⟩) (wz Q E) s:=by
  have Xs:X.K.In s.heap:=I.K hX.K
  obtain ⟨hh,g,d,t,os⟩:=s
  have init:findIn X.K (.ref (X.cls c)) "__init__" = some (some (.ref (X.fn c.init))):=by
    cases c
    · exact hX.init.1
    · exact hX.init.2
  refine make_core (makes_of Xs (hX.makes c)) (looks_findIn Xs init) (fun self=>bind_fn Xs self (hX.func _)) (.inl rfl) ?_
  have I1:=(I.push emptyDict).push (instObj (X.cls c) hh.objs.size)
  have h1:((hh.push emptyDict).push (instObj (X.cls c) hh.objs.size)).get? (hh.objs.size+1)=some (instObj (X.cls c) hh.objs.size):=by
    have:=Heap.get?_push_size (hh.push emptyDict) (o:=instObj (X.cls c) hh.objs.size) rfl
    rwa [Heap.size_push] at this
  have h2:((hh.push emptyDict).push (instObj (X.cls c) hh.objs.size)).get? hh.objs.size=some emptyDict:=Heap.get?_push_of_some _ (Heap.get?_push_size _ rfl)
  have f1:=I.fresh_of (a:=hh.objs.size) (Nat.le_refl _)
  have f2:=I.fresh_of (a:=hh.objs.size+1) (Nat.le_succ _)
  have I2:=I1.toM (q:=(hh.objs.size+1,hh.objs.size)) (m:=.inst c [] []) ⟨[],0,h1,h2,trivial,rfl⟩ (by simp [oz]) (fun a ha=>by
      simp only [oz,List.mem_cons,List.not_mem_nil,or_false] at ha
      rcases ha with rfl | rfl
      · exact f2.2.2
      · exact f1.2.2) (fun a ha=>by
      simp only [oz,List.mem_cons,List.not_mem_nil,or_false] at ha
      rcases ha with rfl | rfl
      · exact ⟨f2.1,f2.2.1,_,h1⟩
      · exact ⟨f1.1,f1.2.1,_,h2⟩)
  have sa:as <+: as++[(hh.objs.size+1,hh.objs.size)]:=List.prefix_append _ _
  have hRc:Rc n (A.under (.builtin "type.__call__" ⟨.ref (X.cls c)::us,[]⟩)):=by
    have w1:Code.weight (.builtin "type.__call__" ⟨.ref (X.cls c)::us,[]⟩)=1:=by rfl
    have w2:Code.cUnits (.builtin "type.__call__" ⟨.ref (X.cls c)::us,[]⟩)=1:=by rfl
    have d1:=hR.depth
    have d2:=hR.units
    refine ⟨hR.hand,?_,?_⟩
    · show A.depth+Code.weight _+4 * n+2 < _
      rw [w1]; omega
    · show A.units+Code.cUnits _+100 * n+50 < _
      rw [w2]; omega
  have me:VRel X p (as++[(hh.objs.size+1,hh.objs.size)]) (.r mu.length) (.ref (hh.objs.size+1)):=⟨(hh.objs.size+1,hh.objs.size),by rw [← I.len]; exact List.getElem?_concat_length ..,rfl⟩
  refine codeAny_mono (hC hRc I2 (vs:=.r mu.length::vs) (us:=.ref (hh.objs.size+1)::us) ⟨_,us,rfl,me,r.mono Sub.refl sa⟩ e (Q:=fun u s'=>u=.none∧Q (.ref (hh.objs.size+1)) s') (E:=E) fun p' as' s' u sp sa' I' vr=>⟨vn vr,K p' as' s' _ sp (sa.trans sa') I' (me.mono sp sa')⟩) fun r s' h=>?_
  cases r with
  | error e=>exact h
  | ok f=>cases f with
    | ret v=>exact h
    | _=>exact h.elim
theorem yV {a:Expr} {f:Fn} {nm:Str} {q pos:Pos} {l:List Expr} {k:Nat} {xs:List Val} {Q:Value→Shared→Prop} (hX:AmbOK X P) (hf:f.isMeth=true) (hn:Str.ofString f.nm=nm) (hc:cS a) (hlen:l.length < 30) (hl:(q.endLine == pos.line)=true) (hst:∀ e ∈ l,bI e)
    (h:wpAny (model X.prog X.w) A (eval a F.env) (fun u s₁=>(∃ p₁ as₁ mu₁,Inv X s₀ o p₁ as₁ mu₁ F loc s₁∧VRel X p₁ as₁ (.r k) u∧mu₁[k]? = some (.inst .caller [.body] xs)) ∧
      wpAny (model X.prog X.w) A (spliced (eM l F.env)) (fun us s₂=>X.K.In s₂.heap∧wpAny (model X.prog X.w) A (call (.ref (X.fn f)) (u::us)) Q E s₂) E s₁) E s) :
    wpAny (model X.prog X.w) A (eval (.Call (.Attribute a nm q) l [] pos) F.env) Q E s:=by
  subst hn
  rw [arm_eval_Call,ng hc]
  refine wpAny_bind (wpAny_mono h (fun u s₁ h₁=>?_) fun Z Z x=>x)
  obtain ⟨⟨p₁,as₁,mu₁,I,r,hk⟩,hcall⟩:=h₁
  obtain ⟨qq,hq,rfl⟩:=r
  obtain ⟨es,m,h1,h2,h3,h4⟩:=I.mus _ _ _ hq hk
  have Xs:=I.K hX.K
  have IA:W.InstAt s₁.heap qq.1 (instObj (X.cls .caller) qq.2) (X.cls .caller) (some (dictOf es m)):=⟨h1,rfl,rfl,h2⟩
  have g1:=((hX.cls .caller).get .body).1
  have pg:=plainGet_of g1
  refine wpAny_bind (wpAny_standAt ?_)
  have hform:methodCallForm (l.length+([]:List Keyword).length) (backTo pos (starEach l F.env)) (backToKw pos (keywordEach [] F.env))=true:=by
    rw [cG hst,c7]
    unfold methodCallForm
    rw [ox]
    have:backToKw pos (keywordEach [] F.env)=[]:=rfl
    simp [this]; exact hlen
  have hpos:methodCallPos true a F.env q pos=pure pos:=by unfold methodCallPos; simp [hl]
  unfold methodCall
  rw [hform]
  have shadow:shadowIn (some (dictOf es m)) (Str.ofString f.nm)=some false:=by
    cases es with
    | nil=>exact h3.elim
    | cons e es =>
      obtain ⟨⟨t,k1⟩,k2,k3⟩:=h3
      cases es with
      | cons _ _=>exact k3.elim
      | nil =>
        have kn:Value.isStr e.key (Str.ofString f.nm)=false:=by rw [k1]; exact beq_eq_false_iff_ne.mpr (Ne.symm (Fn.meth_ne hf))
        have kr:e.refKey=false:=by unfold DictEntry.refKey; rw [k1]
        show (lookIn _ (dictOf [e] m)).map _=_
        rw [lookIn_dict]
        unfold getL
        simp [kn,kr]
  refine wpAny_bind (wpAny_holding (method_fn Xs IA ?_ ?_ (hX.meth f hf) (hX.func f) shadow ?_))
  · exact pg.1
  · exact pg.2
  · refine wpAny_bind (wpAny_of_eq hpos ?_)
    exact lg (first:=[.ref qq.1]) (hX.keepF f) hst hcall
end
end Mine.Internal
namespace Mine.Internal
variable {X:Amb} {P:Fn→FDef} {s₀:Shared} {n:Nat} {C:Calls}
theorem HT:aR X s₀ C n .any:=fun kd F x A o p as mu mu' loc s v Q E hm hA hR I e K=>by rw [qn] at e; exact nS e
theorem Ci {i:Nat}:aR X s₀ C n (.loc i):=fun kd F x A o p as mu mu' loc s v Q E hm hA hR I e K=>by
  refine hm (fun x=>wpAny (model X.prog X.w) A (eval x F.env) Q E s) fun Z Z hx kn=>?_
  ·
    rw [Gb] at e
    refine bN e fun v' e1 e2=>?_
    clear e
    replace K:=Kv.eqP K e2
    exact uT I hx (hA.known kn) e1 fun u r=>K.now I r
theorem xZ (hX:AmbOK X P):aR X s₀ C n .byte:=fun kd F x A o p as mu mu' loc s v Q E hm hA hR I e K=>by
  refine hm (fun x=>wpAny (model X.prog X.w) A (eval x F.env) Q E s) fun Z hk=>?_
  ·
    rw [CV] at e
    replace K:=Kv.eqS K e
    obtain ⟨v,h1,h2⟩:=hX.byte
    exact qA hX I ((hA _).2.1 hk) h1 (by decide +kernel) (K.now I (h2.mono I.base))
theorem Cz {i:Int}:aR X s₀ C n (.int i):=fun kd F x A o p as mu mu' loc s v Q E hm hA hR I e K=>by
  refine hm (fun x=>wpAny (model X.prog X.w) A (eval x F.env) Q E s) fun Z Z=>?_
  · rw [GM] at e; replace K:=Kv.eqS K e; exact wpAny_Constant_int (K.here I eE)
theorem CT {w:W}:aR X s₀ C n (.str w):=fun kd F x A o p as mu mu' loc s v Q E hm hA hR I e K=>by
  refine hm (fun x=>wpAny (model X.prog X.w) A (eval x F.env) Q E s) fun Z Z Z hs=>?_
  · subst hs; rw [Fb] at e; replace K:=Kv.eqS K e; exact Calls.Constant_str (K.here I E9)
theorem yB {b:Bool}:aR X s₀ C n (.bool b):=fun kd F x A o p as mu mu' loc s v Q E hm hA hR I e K=>by
  refine hm (fun x=>wpAny (model X.prog X.w) A (eval x F.env) Q E s) fun Z Z=>?_
  · rw [Di] at e; replace K:=Kv.eqS K e; exact Constant_bool (K.now I du)
theorem yz:aR X s₀ C n .none:=fun kd F x A o p as mu mu' loc s v Q E hm hA hR I e K=>by
  refine hm (fun x=>wpAny (model X.prog X.w) A (eval x F.env) Q E s) fun Z Z=>?_
  · rw [vF] at e; replace K:=Kv.eqS K e; exact Constant_none (K.now I hZ)
theorem BV {es:CEs} (h:lf X s₀ C n es):aR X s₀ C n (.tup es):=fun kd F x A o p as mu mu' loc s v Q E hm hA hR I e K=>by
  refine hm (fun x=>wpAny (model X.prog X.w) A (eval x F.env) Q E s) fun Z Z Z hl=>?_
  ·
    rw [GY] at e
    refine bK e fun vs m e1 e2=>?_
    clear e
    refine bN e2 fun v' e3 e4=>?_
    clear e2
    cases e4
    refine bh e3 fun ds e5 e6=>?_
    clear e3
    rw [arm_eval_Tuple,cG hl.star,c7]
    refine wpAny_bind (wpAny_standAt (wpAny_bind (h hl hA hR I e1 fun p' as' s' us sp sa I' r=>?_)))
    have hmk:(f9 ds).map (·,mu')=some (v,mu'):=by rw [e6]; rfl
    have hz:=nP hmk
    have hu:us.length=ds.length:=by rw [k9 e5]; exact r.length.symm
    exact wpAny_newObj_type (m9 (t:=s'.toks) (n:=0) hmk I' (by simpa using VRels.toD e5 r) (K.mono sp sa)) (by show us.toArray.size≤_; rw [List.size_toArray,hu]; exact fC hz)
theorem yf {q:Bool} {es:CEs} (h:lf X s₀ C n es):aR X s₀ C n (.list q es):=fun kd F x A o p as mu mu' loc s v Q E hm hA hR I e K=>by
  refine hm (fun x=>wpAny (model X.prog X.w) A (eval x F.env) Q E s) fun Z Z hl=>?_
  ·
    rw [DL] at e
    refine bK e fun vs m e1 e2=>?_
    clear e
    rw [arm_eval_List,cG hl.star,c7]
    refine wpAny_bind (wpAny_standAt (wpAny_bind (h hl hA hR I e1 fun p' as' s' us sp sa I' r=>?_)))
    exact wpAny_newObj_type (qM (t:=s'.toks) (n:=0) e2 I' r (K.mono sp sa)) (by show us.toArray.size≤_; rw [List.size_toArray,← r.length]; exact fC (jY e2))
theorem CN {q:Bool} {op:Bop} {a b:CE} (ha:aR X s₀ C n a) (hb:aR X s₀ C n b):aR X s₀ C n (.bin q op a b):=fun kd F x A o p as mu mu' loc s v Q E hm hA hR I e K=>by
  refine hm (fun x=>wpAny (model X.prog X.w) A (eval x F.env) Q E s) fun Z Z Z h1 h2=>?_
  ·
    rw [EW] at e
    refine bK e fun x1 m1 e1 f1=>?_
    clear e
    refine bK f1 fun x2 m2 e2 e3=>?_
    clear f1
    exact wpAny_BinOp (ha h1 hA hR I e1 fun p1 bv s1 u1 sp1 sa1 I1 r1=>hb h2 hA hR I1 e2 fun p2 eV s2 u2 sp2 sa2 I2 r2=>Bb e3 I2 (r1.mono sp2 sa2) r2 (K.mono (sp1.trans sp2) (sa1.trans sa2)))
theorem Hf {a:CE} (ha:aR X s₀ C n a):aR X s₀ C n (.neg a):=fun kd F x A o p as mu mu' loc s v Q E hm hA hR I e K=>by
  refine hm (fun x=>wpAny (model X.prog X.w) A (eval x F.env) Q E s) fun Z Z h1=>?_
  ·
    rw [yt] at e
    refine bK e fun x1 m1 e1 e2=>bN e2 fun i e3 e4=>?_
    clear e
    replace K:=Kv.eqP K e4
    exact UnaryOp_ (ha h1 hA hR I e1 fun p1 bv s1 u1 sp1 sa1 I1 r1=>Fk I1 (fR e3 ▸ r1) (K.mono sp1 sa1))
theorem qg {op:CmpOp} {y:Expr} (h:ke y):behindInMarks op y=false:=by cases y <;> first | rfl | exact (iP h)
theorem HE {op:Cop} {a b:CE} (ha:aR X s₀ C n a) (hb:aR X s₀ C n b):aR X s₀ C n (.cmp op a b):=fun kd F x A o p as mu mu' loc s v Q E hm hA hR I e K=>by
  refine hm (fun x=>wpAny (model X.prog X.w) A (eval x F.env) Q E s) fun Z Z Z hs h1 h2=>?_
  ·
    rw [yW] at e
    refine bK e fun x1 m1 e1 f1=>?_
    clear e
    refine bK f1 fun x2 m2 e2 e3=>?_
    clear f1
    refine bN e3 fun c e4 e5=>?_
    clear e3
    replace K:=Kv.eqP K e5
    exact wpAny_Compare1 (ha h1 hA hR I e1 fun p1 bv s1 u1 sp1 sa1 I1 r1=>hb h2 hA hR I1 e2 fun p2 eV s2 u2 sp2 sa2 I2 r2=>sA e4 hR I2 (r1.mono sp2 sa2) r2 (K.mono (sp1.trans sp2) (sa1.trans sa2))) (qg hs)
theorem sN {p:aw} {as:As} {v:Val} {u:Value} (r:VRel X p as v u) (h:v ≠ .d .none):(u == .none)=false:=by
  cases v with
  | r i=>obtain ⟨q,_,rfl⟩:=r; rfl
  | clo k=>cases r; rfl
  | d x =>
    have r:DRel X p x u:=r
    cases x
    all_goals first
      | exact absurd rfl h
      | (obtain rfl:=r; rfl)
      | (obtain ⟨a,rfl,_⟩:=r; rfl)
      | (obtain ⟨a,rfl⟩:=r; rfl)
      | (obtain ⟨a,b,rfl⟩:=r; rfl)
      | (obtain ⟨a,b,c,rfl,_⟩:=r; rfl)
      | (obtain ⟨a,b,c,d,rfl,_⟩:=r; rfl)
theorem n6 {p:aw} {as:As} {v:Val} {u:Value} {b:Bool} (r:VRel X p as v u) (h:lZ v=some b):(u == .none)=b:=by
  cases v with
  | clo k=>exact nS h
  | r k=>(replace h:=iS h; subst h); exact sN r (fun z=>nomatch z)
  | d x =>
    cases hx:dN x with
    | some _ =>
      have e:lZ (.d x)=some (dN x).isSome:=rfl
      rw [e,hx] at h; (replace h:=iS h; subst h)
      rw [Ax hx] at r
      cases vn r; rfl
    | none =>
      have e:lZ (.d x)=some (dN x).isSome:=rfl
      rw [e,hx] at h; (replace h:=iS h; subst h)
      exact sN r fun z=>by cases z; exact nS hx.symm
theorem HL {a:CE} (ha:aR X s₀ C n a):aR X s₀ C n (.isN a):=fun kd F x A o p as mu mu' loc s v Q E hm hA hR I e K=>by
  refine hm (fun x=>wpAny (model X.prog X.w) A (eval x F.env) Q E s) fun Z Z Z Z h1=>?_
  ·
    rw [y2] at e
    refine bK e fun x1 m1 e1 e2=>bN e2 fun b e3 e4=>?_
    clear e
    replace K:=Kv.eqP K e4
    refine wpAny_Compare1 (ha h1 hA hR I e1 fun p1 bv s1 u1 sp1 sa1 I1 r1=>Constant_none (is_none ?_)) rfl
    rw [n6 r1 e3]
    exact (K.mono sp1 sa1).now I1 du
theorem FZ {a:CE} (ha:aR X s₀ C n a):aR X s₀ C n (.notN a):=fun kd F x A o p as mu mu' loc s v Q E hm hA hR I e K=>by
  refine hm (fun x=>wpAny (model X.prog X.w) A (eval x F.env) Q E s) fun Z Z Z Z h1=>?_
  ·
    rw [vH] at e
    refine bK e fun x1 m1 e1 e2=>bN e2 fun b e3 e4=>?_
    clear e
    replace K:=Kv.eqP K e4
    refine wpAny_Compare1 (ha h1 hA hR I e1 fun p1 bv s1 u1 sp1 sa1 I1 r1=>Constant_none (isNot_none ?_)) rfl
    rw [n6 r1 e3]
    exact (K.mono sp1 sa1).now I1 du
theorem lU {v:Val} {b:Bool} (h:dh v=some b):v=.d (.bool b):=Fc h
theorem Hc {a:CE} (ha:aR X s₀ C n a):aR X s₀ C n (.not a):=fun kd F x A o p as mu mu' loc s v Q E hm hA hR I e K=>by
  refine hm (fun x=>wpAny (model X.prog X.w) A (eval x F.env) Q E s) fun Z Z h1=>?_
  ·
    rw [zx] at e
    refine bK e fun x1 m1 e1 e2=>?_
    clear e
    refine bN e2 fun b e3 e4=>?_
    clear e2
    replace K:=Kv.eqP K e4
    cases lU e3
    exact UnaryOp_ (ha h1 hA hR I e1 fun p1 bv s1 u1 sp1 sa1 I1 r1=>not_of (by cases iY r1; exact wpAny_truthy_bool ((K.mono sp1 sa1).now I1 du)))
theorem H0 {t a b:CE} (ht:eA X s₀ C n t) (ha:aR X s₀ C n a) (hb:aR X s₀ C n b):aR X s₀ C n (.ifx t a b):=fun kd F x A o p as mu mu' loc s v Q E hm hA hR I e K=>by
  refine hm (fun x=>wpAny (model X.prog X.w) A (eval x F.env) Q E s) fun Z Z Z Z h1 h2 h3=>?_
  ·
    rw [yL] at e
    refine bK e fun x1 m1 e1 e2=>?_
    clear e
    refine bh e2 fun c e3 e4=>?_
    clear e2
    refine IfExp_ (ht h1 hA hR I e1 e3 fun p1 bv s1 sp1 sa1 I1=>?_)
    cases c with
    | true=>exact ha h2 hA hR I1 e4 (K.mono sp1 sa1)
    | false=>exact hb h3 hA hR I1 e4 (K.mono sp1 sa1)
theorem zm {a:CE} {f:Fld} (hX:AmbOK X P) (ha:aR X s₀ C n a):aR X s₀ C n (.attr a f):=fun kd F x A o p as mu mu' loc s v Q E hm hA hR I e K=>by
  refine hm (fun x=>wpAny (model X.prog X.w) A (eval x F.env) Q E s) fun Z Z Z hc h1 hs=>?_
  ·
    subst hs
    rw [DS] at e
    refine bK e fun x1 m1 e1 e2=>?_
    clear e
    refine bN e2 fun v' e3 e4=>?_
    clear e2
    replace K:=Kv.eqP K e4
    refine Attribute_any_ (ha h1 hA hR I e1 fun p1 bv s1 u1 sp1 sa1 I1 r1=>C7 e3 hX.K hX.cls I1 r1 (K.mono sp1 sa1)) ?_
    rw [arm_eval_Attribute,ng hc]
theorem B7 {a i:CE} (ha:aR X s₀ C n a) (hi:aR X s₀ C n i):aR X s₀ C n (.sub a i):=fun kd F x A o p as mu mu' loc s v Q E hm hA hR I e K=>by
  refine hm (fun x=>wpAny (model X.prog X.w) A (eval x F.env) Q E s) fun Z Z Z hs h1 h2=>?_
  ·
    rw [GN] at e
    refine bK e fun x1 m1 e1 f1=>?_
    clear e
    refine bK f1 fun x2 m2 e2 e3=>?_
    clear f1
    refine bN e3 fun c e4 e5=>?_
    clear e3
    replace K:=Kv.eqP K e5
    exact Subscript_ (ha h1 hA hR I e1 fun p1 bv s1 u1 sp1 sa1 I1 r1=>hi h2 hA hR I1 e2 fun p2 eV s2 u2 sp2 sa2 I2 r2=>D9 e4 hs I2 (r1.mono sp2 sa2) r2 (K.mono (sp1.trans sp2) (sa1.trans sa2)))
theorem Cr {a i:CE} (ha:aR X s₀ C n a) (hi:aR X s₀ C n i):aR X s₀ C n (.slo a i):=fun kd F x A o p as mu mu' loc s v Q E hm hA hR I e K=>by
  refine hm (fun x=>wpAny (model X.prog X.w) A (eval x F.env) Q E s) fun Z Z Z Z h1 h2=>?_
  ·
    rw [Ea] at e
    refine bK e fun x1 m1 e1 f1=>bK f1 fun x2 m2 e2 e3=>bh e3 fun xs e4 e5=>bh e5 fun k e6 e7=>lG e7 fun hc e8=>?_
    clear e
    exact Subscript_ (ha h1 hA hR I e1 fun p1 bv s1 u1 sp1 sa1 I1 r1=>wpAny_Slice (hi h2 hA hR I1 e2 fun p2 eV s2 u2 sp2 sa2 I2 r2=>wpAny_pure (wpAny_pure (E6 hc.1 hc.2.1 hc.2.2 e8 I2 (oX e4 ▸ r1.mono sp2 sa2) (fR e6 ▸ r2) (K.mono (sp1.trans sp2) (sa1.trans sa2))))))
theorem yZ {f:Fn} {es:CEs} (hX:AmbOK X P) (hC:cq X s₀ C n) (h:lf X s₀ C n es):aR X s₀ C n (.call f es):=fun kd F x A o p as mu mu' loc s v Q E hm hA hR I e K=>by
  refine hm (fun x=>wpAny (model X.prog X.w) A (eval x F.env) Q E s) fun Z Z Z Z ht hs hk hl=>?_
  ·
    subst hs
    rw [C6] at e
    refine bK e fun vs m e1 e2=>?_
    clear e
    refine Call_ (qA hX I ((hA _).2.1 hk) (hX.fns f ht) f.nodbg (lg (hX.keepF f) hl.star (h hl hA hR I e1 fun p' as' s' us sp sa I' r=>⟨I'.K hX.K,?_⟩))) ?_
    · exact wpAny_call (l9 (hC hR.rc I' r e2 (K.mono sp sa)))
    · rfl
theorem BQ {c:Cls} {es:CEs} (hX:AmbOK X P) (hC:cq X s₀ C n) (h:lf X s₀ C n es):aR X s₀ C n (.new c es):=fun kd F x A o p as mu mu' loc s v Q E hm hA hR I e K=>by
  refine hm (fun x=>wpAny (model X.prog X.w) A (eval x F.env) Q E s) fun Z Z Z Z hs hk hl=>?_
  ·
    subst hs
    rw [EV] at e
    refine bK e fun vs m e1 f1=>bK f1 fun x1 m1 e2 e3=>bN e3 fun Z e4 e5=>?_
    clear e
    replace K:=Kv.eqP K e5
    rw [Je e4] at e2
    refine Call_ (qA hX I ((hA _).2.1 hk) (hX.clss c) c.nodbg (lg (hX.keepC c) hl.star (h hl hA hR I e1 fun p' as' s' us sp sa I' r=>⟨I'.K hX.K,?_⟩))) rfl
    exact wpAny_call (l9 (Fq hX hC hR I' r e2 (K.mono sp sa)))
theorem xY {a:CE} {f:Fn} {es:CEs} (hX:AmbOK X P) (hC:cq X s₀ C n) (ha:aR X s₀ C n a) (h:lf X s₀ C n es):aR X s₀ C n (.meth a f es):=fun kd F x A o p as mu mu' loc s v Q E hm hA hR I e K=>by
  refine hm (fun x=>wpAny (model X.prog X.w) A (eval x F.env) Q E s) fun Z Z Z Z Z hc hlen hl hf hs h1 hes=>?_
  ·
    rw [CX] at e
    refine bK e fun x1 m1 e1 f1=>bh f1 fun k f2 f3=>bh f3 fun Z f4 f5=>bK f5 fun vs m e2 e3=>bh f4 fun ob f6 f7=>?_
    clear e
    refine xe1 (DG f7) fun xs hob=>?_
    have hk:m1[k]? = some (.inst .caller [.body] xs):=hob ▸ f6
    rw [gZ f2] at e1
    refine yV (k:=k) (xs:=xs) hX hf hs hc hlen hl hes.star (ha h1 hA hR I e1 fun p1 bv s1 u1 sp1 sa1 I1 r1=>⟨⟨p1,bv,m1,I1,r1,hk⟩,h hes hA hR I1 e2 fun p' as' s' us sp sa I' r=>⟨I'.K hX.K,?_⟩⟩)
    exact wpAny_call (l9 (hC hR.rc I' (vs:=.r k::vs) (us:=u1::us) ⟨_,_,rfl,r1.mono sp sa,r⟩ e3 (K.mono (sp1.trans sp) (sa1.trans sa))))
end Mine.Internal
namespace Mine.Internal
variable {X:Amb} {P:Fn→FDef} {s₀:Shared} {n:Nat} {C:Calls}
theorem uO {M:Model} {A:Around} {E:Value→Shared→Prop} {s:Shared} {b:Bi} {l:List Expr} {pos:Pos} {env:Env} {Q:Value→Shared→Prop} (hst:∀ e ∈ l,bI e)
    (h:wpAny M A (spliced (eM l env)) (fun us s₁=>wpAny M A (call b.val us) Q E s₁) E s):wpAny M A (callWith pos b.val [] (backTo pos (starEach l env)) []) Q E s:=by
  rw [cG hst,c7]
  cases b
  case len=>exact Calls.callWith_builtin d5 (ez h)
  case max=>exact Calls.callWith_builtin d5 (ez h)
  case sum=>exact Calls.callWith_builtin d5 (ez h)
  case int=>exact PySem.callWith_type d5 (ez h)
  case tuple=>exact PySem.callWith_type d5 (ez h)
  case dict=>exact PySem.callWith_type d5 (ez h)
  case range=>exact PySem.callWith_type d5 (ez h)
theorem Hp {m:Mu} {b:Bi} {vs:List Val} {r:Val × Mu} (h:Gs m b vs=some r):(b=.dict∧vW m vs=some r)∨(bi m b vs).map (·,m)=some r:=by
  cases b with
  | dict=>exact .inl ⟨rfl,h⟩
  | _=>exact .inr h
theorem Fx {b:Bi} {es:CEs} (hX:AmbOK X P) (h:lf X s₀ C n es):aR X s₀ C n (.bi b es):=fun kd F x A o p as mu mu' loc s v Q E hm hA hR I e K=>by
  refine hm (fun x=>wpAny (model X.prog X.w) A (eval x F.env) Q E s) fun Z q0 l0 pos0 hs hk hl=>?_
  ·
    subst hs
    have go:∀ {vs m},cV C loc mu es=some (vs,m)→(∀ p' as' s' us,Sub p p'→as <+: as'→Inv X s₀ o p' as' m F loc s'→VRels X p' as' vs us→wpAny (model X.prog X.w) A (call b.val us) Q E s')→wpAny (model X.prog X.w) A (eval (.Call (.Name (Str.ofString b.nm) q0) l0 [] pos0) F.env) Q E s:=fun e1 h1 =>
      Call_ (qN hX I ((hA _).2.1 hk) (hX.bis b) b.nodbg (uO hl.star (h hl hA hR I e1 h1))) rfl
    rw [H5] at e
    refine bK e fun vs m e1 e2=>?_
    rcases Hp e2 with ⟨hd,e2⟩ | e2
    · refine bh e2 fun a f1 f2=>bh f2 fun x f3 f4=>bh f4 fun k f5 f6=>lG f6 fun f7 f8=>?_
      replace K:=Kv.eqS K f8
      refine go e1 fun p' as' s' us sp sa I' r=>?_
      refine xe1 (m7 f1 r) fun u r_=>aO r_ fun e1_ r1=>?_
      rw [e1_]
      rw [gK f3,Jc f5,f7] at r1
      rw [hd]
      exact Dq hX.sys I' r1 (K.mono sp sa)
    · refine bN e2 fun v' e3 e4=>?_
      replace K:=Kv.eqP K e4
      exact go e1 fun p' as' s' us sp sa I' r=>Hj e3 hR I' r (K.mono sp sa)
theorem s6 {q:Bool} {a:CE} (hX:AmbOK X P) (ha:aR X s₀ C n a):aR X s₀ C n (.toList q a):=fun kd F x A o p as mu mu' loc s v Q E hm hA hR I e K=>by
  refine hm (fun x=>wpAny (model X.prog X.w) A (eval x F.env) Q E s) fun Z Z Z hs hk h1=>?_
  ·
    rw [xS] at e
    refine bK e fun x1 m1 e1 f1=>?_
    refine bh f1 fun xs e2 e3=>?_
    refine Call_ (qN hX I ((hA _).2.1 hk) hX.lst (by decide +kernel) ?_) rfl
    rw [cG (dM (hs)),c7]
    refine PySem.callWith_type d5 (ez (Calls.spliced_cons (ha h1 hA hR I e1 fun p1 bv s1 u1 sp1 sa1 I1 r1=>Calls.spliced_nil ?_)))
    exact yH e2 e3 hR I1 r1 (K.mono sp1 sa1)
theorem iX {b:Expr} (h:bI b):∀ e ∈ [b],bI e:=dM (h)
theorem tO {b c:Expr} (h:bI b) (h':bI c):∀ e ∈ [b,c],bI e:=tY (h) (h')
theorem qU {M:Model} {A:Around} {E:Value→Shared→Prop} {s:Shared} {b:Expr} {env:Env} {Q:List Value→Shared→Prop} (h:wpAny M A (eval b env) (fun u s₁=>Q [u] s₁) E s):wpAny M A (spliced (eM [b] env)) Q E s :=
  Calls.spliced_cons (wpAny_mono h (fun u s₁ h₁=>Calls.spliced_nil h₁) fun Z Z x=>x)
theorem EM {M:Model} {A:Around} {E:Value→Shared→Prop} {s:Shared} {b c:Expr} {env:Env} {Q:List Value→Shared→Prop} (h:wpAny M A (eval b env) (fun u s₁=>wpAny M A (eval c env) (fun u' s₂=>Q [u,u'] s₂) E s₁) E s):wpAny M A (spliced (eM [b,c] env)) Q E s :=
  Calls.spliced_cons (wpAny_mono h (fun u s₁ h₁=>Calls.spliced_cons (wpAny_mono h₁ (fun u' s₂ h₂=>Calls.spliced_nil h₂) fun Z Z x=>x)) fun Z Z x=>x)
theorem ph {o p:aw} {as:As} {mu:Mu} {F:Fm} {loc:ae} {s:Shared} {v:Val} {u:Value} (I:Inv X s₀ o p as mu F loc s) (h:mJ mu v=true) (r:VRel X p as v u) :
    s.TypeIs u "list" ∧ ∀ a,u=.ref a→∃ ob,s.heap.get? a=some ob∧ob.dict=none:=by
  cases hr:vR v with
  | none=>rw [show mJ mu v=false by unfold mJ; rw [hr]; rfl] at h; exact (Bool.false_ne_true h).elim
  | some k =>
    rw [show mJ mu v=((mu[k]?).bind oL).isSome by unfold mJ; rw [hr]; rfl] at h
    refine xe1 (Option.isSome_iff_exists.mp h) fun xs hk=>?_
    rw [gZ hr] at r
    obtain ⟨q,vs,m,hq,rfl,h1,h2⟩:=I.list_at (kE hk) r
    exact ⟨⟨_,h1,rfl⟩,fun a e=>by cases e; exact ⟨_,h1,rfl⟩⟩
theorem pb {o p:aw} {as:As} {mu:Mu} {F:Fm} {loc:ae} {s:Shared} {v:Val} {u:Value} (I:Inv X s₀ o p as mu F loc s) (h:jB mu v=true) (r:VRel X p as v u) :
    s.TypeIs u "dict" ∧ ∀ a,u=.ref a→∃ ob,s.heap.get? a=some ob∧ob.dict=none:=by
  cases hr:vR v with
  | none=>rw [show jB mu v=false by unfold jB; rw [hr]; rfl] at h; exact (Bool.false_ne_true h).elim
  | some k =>
    rw [gZ hr] at r
    cases hm:mu[k]? with
    | none=>rw [show jB mu v=false by unfold jB ni; rw [hr]; show Option.elim mu[k]? _ _=_; rw [hm]; rfl] at h; exact (Bool.false_ne_true h).elim
    | some ob =>
      rw [show jB mu v=((oI ob).isSome || (oP ob).isSome) by unfold jB ni; rw [hr]; show Option.elim mu[k]? _ _=_; rw [hm]; rfl,Bool.or_eq_true] at h
      rcases h with h | h <;> obtain ⟨xs,hk⟩:=Option.isSome_iff_exists.mp h
      · rw [A6 hk] at hm
        obtain ⟨q,kvs,hq,rfl,_,h1,_⟩:=I.idict_at hm r
        exact ⟨h1.typeIs,fun a e=>by cases e; obtain ⟨ob,_,_,e1,e2,_⟩:=h1; exact ⟨ob,e1,e2.2.1⟩⟩
      · rw [F7 hk] at hm
        obtain ⟨q,kvs,hq,rfl,_,h1,_⟩:=I.spots_at hm r
        exact ⟨h1.typeIs,fun a e=>by cases e; obtain ⟨ob,_,_,e1,e2,_⟩:=h1; exact ⟨ob,e1,e2.2.1⟩⟩
theorem B3 {a b:CE} (ha:aR X s₀ C n a) (hb:aR X s₀ C n b):aR X s₀ C n (.app a b):=fun kd F x A o p as mu mu' loc s v Q E hm hA hR I e K=>by
  refine hm (fun x=>wpAny (model X.prog X.w) A (eval x F.env) Q E s) fun Z Z Z Z hc hs hl h1 h2=>?_
  ·
    rw [Ep] at e
    refine bK e fun x1 m1 e1 f1=>z0 f1 fun g1 f2=>bK f2 fun x2 m2 e2 e3=>bh e3 fun k f3 f4=>bh f4 fun xs hk f5=>lG f5 fun hz f6=>?_
    replace K:=Kv.eqS K f6
    exact gP hc hl (iX hs) (by simp) PySem.F.plainAttrs_list PySem.F.slot_list_append PySem.F.type_list_append (ha h1 hA hR I e1 fun p1 bv s1 u1 sp1 sa1 I1 r1=>⟨ph I1 g1 r1,qU (hb h2 hA hR I1 e2 fun p2 eV s2 u2 sp2 sa2 I2 r2=>EU (kE hk) hz I2 (gZ f3 ▸ r1.mono sp2 sa2) (r2) (K.mono (sp1.trans sp2) (sa1.trans sa2)))⟩)
theorem BC {a b:CE} (ha:aR X s₀ C n a) (hb:aR X s₀ C n b):aR X s₀ C n (.ext a b):=fun kd F x A o p as mu mu' loc s v Q E hm hA hR I e K=>by
  refine hm (fun x=>wpAny (model X.prog X.w) A (eval x F.env) Q E s) fun Z Z Z Z hc hs hl h1 h2=>?_
  ·
    rw [Fa] at e
    refine bK e fun x1 m1 e1 f1=>z0 f1 fun g1 f2=>bK f2 fun x2 m2 e2 e3=>bh e3 fun k f3 f4=>bh f4 fun ds hd f5=>bh f5 fun xs hk f6=>lG f6 fun hz f7=>?_
    replace K:=Kv.eqS K f7
    exact gP hc hl (iX hs) (by simp) PySem.F.plainAttrs_list PySem.F.slot_list_extend PySem.F.type_list_extend (ha h1 hA hR I e1 fun p1 bv s1 u1 sp1 sa1 I1 r1=>⟨ph I1 g1 r1,qU (hb h2 hA hR I1 e2 fun p2 eV s2 u2 sp2 sa2 I2 r2=>Em (kE hk) hz I2 (gZ f3 ▸ r1.mono sp2 sa2) (tL hd ▸ r2) (K.mono (sp1.trans sp2) (sa1.trans sa2)))⟩)
theorem xV {a:CE} (ha:aR X s₀ C n a):aR X s₀ C n (.pop0 a):=fun kd F x A o p as mu mu' loc s v Q E hm hA hR I e K=>by
  refine hm (fun x=>wpAny (model X.prog X.w) A (eval x F.env) Q E s) fun Z Z Z Z Z hc hl h1=>?_
  ·
    rw [D5] at e
    refine bK e fun x1 m1 e1 e3=>bh e3 fun k hr f1=>bh f1 fun l hk f2=>?_
    cases l with
    | nil=>exact nS f2
    | cons y ys =>
      refine aO (kI (show (if ys.length < lim then some (y,m1.set k (.list ys)) else none)=some (v,mu') from f2)) fun hz f3=>?_
      replace K:=Kv.eqS K f3
      rw [gZ hr] at e1
      refine gP hc hl (iX rfl) (by simp) PySem.F.plainAttrs_list PySem.F.slot_list_pop PySem.F.type_list_pop (ha h1 hA hR I e1 fun p1 bv s1 u1 sp1 sa1 I1 r1=>⟨ph I1 (v:=.r k) (show ((m1[k]?).bind oL).isSome=true by rw [hk]; rfl) r1,qU (wpAny_Constant_int ?_)⟩)
      exact C5 (kE hk) hz (I1.tok _) r1 (K.mono sp1 sa1)
theorem Cq {a b:CE} (ha:aR X s₀ C n a) (hb:aR X s₀ C n b):aR X s₀ C n (.get a b):=fun kd F x A o p as mu mu' loc s v Q E hm hA hR I e K=>by
  refine hm (fun x=>wpAny (model X.prog X.w) A (eval x F.env) Q E s) fun Z Z Z Z hc hs hl h1 h2=>?_
  ·
    rw [G2] at e
    refine bK e fun x1 m1 e1 f1=>z0 f1 fun g1 f2=>bK f2 fun x2 m2 e2 e3=>bh e3 fun k f3 f4=>bh f4 fun i hi f5=>bN f5 fun ks hk f6=>?_
    replace K:=Kv.eqP K f6
    exact gP hc hl (iX hs) (by simp) PySem.F.plainAttrs_dict PySem.F.slot_dict_get PySem.F.type_dict_get (ha h1 hA hR I e1 fun p1 bv s1 u1 sp1 sa1 I1 r1=>⟨pb I1 g1 r1,qU (hb h2 hA hR I1 e2 fun p2 eV s2 u2 sp2 sa2 I2 r2=>EJ (wL hk) I2 (gZ f3 ▸ r1.mono sp2 sa2) (fR hi ▸ r2) (K.mono (sp1.trans sp2) (sa1.trans sa2)))⟩)
theorem zw {a b c:CE} (ha:aR X s₀ C n a) (hb:aR X s₀ C n b) (hcc:aR X s₀ C n c):aR X s₀ C n (.getd a b c):=fun kd F x A o p as mu mu' loc s v Q E hm hA hR I e K=>by
  refine hm (fun x=>wpAny (model X.prog X.w) A (eval x F.env) Q E s) fun Z Z Z Z Z hc hs hs' hl h1 h2 h3=>?_
  ·
    rw [C9] at e
    refine bK e fun x1 m1 e1 f1=>z0 f1 fun g1 f2=>bK f2 fun x2 m2 e2 f3=>bK f3 fun x3 m3 e3 e4=>?_
    have go:∀ {Kq:Prop},(∀ p1 bv s1 u1 u2 u3,Sub p p1→as <+: bv→Inv X s₀ o p1 bv m3 F loc s1→VRel X p1 bv x1 u1→VRel X p1 bv x2 u2→VRel X p1 bv x3 u3→wpAny (model X.prog X.w) A (call (.builtin "dict.get") [u1,u2,u3]) Q E s1)→wpAny (model X.prog X.w) A (eval (.Call (.Attribute _ (Str.ofString "get") _) [_,_] [] _) F.env) Q E s:=fun k =>
      gP hc hl (tO hs hs') (by simp) PySem.F.plainAttrs_dict PySem.F.slot_dict_get PySem.F.type_dict_get (ha h1 hA hR I e1 fun p1 bv s1 u1 sp1 sa1 I1 r1=>⟨pb I1 g1 r1,EM (hb h2 hA hR I1 e2 fun p2 eV s2 u2 sp2 sa2 I2 r2=>hcc h3 hA hR I2 e3 fun p3 gv s3 u3 sp3 sa3 I3 r3 =>
        k p3 gv s3 u1 u2 u3 (sp1.trans (sp2.trans sp3)) (sa1.trans (sa2.trans sa3)) I3 (r1.mono (sp2.trans sp3) (sa2.trans sa3)) (r2.mono sp3 sa3) r3)⟩)
    refine bh e4 fun a hr e5=>BO e5 (fun Z e6=>?_) (fun i hi e6=>?_)
    · refine bh e6 fun Z hp e7=>bh e7 fun j hj e8=>lG e8 fun h0 e9=>bN e9 fun n hk e10=>?_
      replace K:=Kv.eqP K e10
      refine xe2 (xP hp) fun i j' hx2=>?_
      exact go (Kq:=True) fun p1 bv s1 u1 u2 u3 sp sa I' r1 r2 r3=>by
        rw [gZ hr] at r1; rw [hx2] at r2; rw [fR hj,h0] at r3
        refine xe1 (cQ r3) fun t e1_=>?_
        rw [e1_]
        exact yC hR (BU hk) I' r1 r2 (K.mono sp sa)
    · refine bh e6 fun z hz e7=>bN e7 fun ks hk e8=>?_
      replace K:=Kv.eqP K e8
      exact go (Kq:=True) fun p1 bv s1 u1 u2 u3 sp sa I' r1 r2 r3=>Ds (wL hk) I' (gZ hr ▸ r1) (fR hi ▸ r2) (gK hz ▸ r3) (K.mono sp sa)
theorem zY {a b:CE} (ha:aR X s₀ C n a) (hb:aR X s₀ C n b):aR X s₀ C n (.popd a b):=fun kd F x A o p as mu mu' loc s v Q E hm hA hR I e K=>by
  refine hm (fun x=>wpAny (model X.prog X.w) A (eval x F.env) Q E s) fun Z Z Z Z Z Z hc hs hl h1 h2=>?_
  ·
    rw [DX] at e
    refine bK e fun x1 m1 e1 f1=>z0 f1 fun g1 f2=>bK f2 fun x2 m2 e2 e3=>bh e3 fun k f3 f4=>bh f4 fun i hi f5=>bh f5 fun ks hk f6=>lG f6 fun hz f7=>?_
    replace K:=Kv.eqS K f7
    exact gP hc hl (tO hs rfl) (by simp) PySem.F.plainAttrs_dict PySem.F.slot_dict_pop PySem.F.type_dict_pop (ha h1 hA hR I e1 fun p1 bv s1 u1 sp1 sa1 I1 r1=>⟨pb I1 g1 r1,EM (hb h2 hA hR I1 e2 fun p2 eV s2 u2 sp2 sa2 I2 r2=>Constant_none (D2 (wL hk) hz I2 (gZ f3 ▸ r1.mono sp2 sa2) (fR hi ▸ r2) (K.mono (sp1.trans sp2) (sa1.trans sa2))))⟩)
theorem IX {o p:aw} {as:As} {mu:Mu} {F:Fm} {loc:ae} {s:Shared} {k:Nat} {xs:List Val} {u:Value} (I:Inv X s₀ o p as mu F loc s) (hk:mu[k]? = some (.list xs)) (r:VRel X p as (.r k) u) :
    s.TypeIs u "list" ∧ ∀ a,u=.ref a→∃ ob,s.heap.get? a=some ob∧ob.dict=none:=by
  obtain ⟨q,vs,m,hq,rfl,h1,h2⟩:=I.list_at hk r
  exact ⟨⟨_,h1,rfl⟩,fun a e=>by cases e; exact ⟨_,h1,rfl⟩⟩
theorem Jb {o p:aw} {as:As} {mu:Mu} {F:Fm} {loc:ae} {s:Shared} {a:Addr} {vs:Array Value} {m:Nat} (h1:s.heap.get? a=some (listOf vs m)):s.TypeIs (.ref a) "list" ∧ ∀ b,(Value.ref a)=.ref b→∃ ob,s.heap.get? b=some ob∧ob.dict=none :=
  ⟨⟨_,h1,rfl⟩,fun b e=>by cases e; exact ⟨_,h1,rfl⟩⟩
end Mine.Internal
namespace Mine.Internal
variable {X:Amb} {P:Fn→FDef} {s₀:Shared} {n:Nat} {C:Calls}
theorem yn {q:Bool} {elt it:CE} {ts:List Nat} (hi:aR X s₀ C n it) (hl:aR X s₀ C n elt):aR X s₀ C n (.comp q elt ts it):=fun kd F x A o p as mu mu' loc s v Q E hm hA hR I e K=>by
  refine hm (fun x=>wpAny (model X.prog X.w) A (eval x F.env) Q E s) fun Z Z Z Z Z hS hy ht hx=>?_
  ·
    rw [vG] at e
    rw [arm_eval_ListComp]
    exact nU (q:=q) (c:=none) (use:=none) hi hl (fun c' h=>by exact nS h) hS hy ht hx rfl hA hR I e fun p' as' s' u Cl m sp sa I' vr al hn=>m8 I' al hn vr (K.mono sp sa)
theorem t5 {elt it c:CE} {ts:List Nat} (hi:aR X s₀ C n it) (hl:aR X s₀ C n elt) (hc:eA X s₀ C n c):aR X s₀ C n (.compif elt ts it c):=fun kd F x A o p as mu mu' loc s v Q E hm hA hR I e K=>by
  refine hm (fun x=>wpAny (model X.prog X.w) A (eval x F.env) Q E s) fun Z Z Z Z Z Z hS hy ht hx hz=>?_
  ·
    rw [rS] at e
    rw [arm_eval_ListComp]
    exact nU (q:=false) (c:=some c) (use:=none) hi hl (fun c' h=>by (replace h:=iS h; subst h); exact hc) hS hy ht hx ⟨_,rfl,hz⟩ hA hR I e fun p' as' s' u Cl m sp sa I' vr al hn=>m8 I' al hn vr (K.mono sp sa)
theorem B4 {i:Nat} (hX:AmbOK X P):aR X s₀ C n (.lam i):=fun kd F x A o p as mu mu' loc s v Q E hm hA hR I e K=>by
  refine hm (fun x=>wpAny (model X.prog X.w) A (eval x F.env) Q E s) fun Z Z Z Z hfz hL h1 h2 h3 hx hk hf ho=>?_
  ·
    rw [Es] at e
    refine bh e fun v' e1 e2=>bN e2 fun k e3 e4=>?_
    clear e
    replace K:=Kv.eqP K e4
    rw [fR e3] at e1
    exact Ao hX hfz hL h1 h2 h3 hx hk hf ho hA I e1 K
theorem vl {i:Nat} {b:CE} (hX:AmbOK X P) (hb:aR X s₀ C n b):aR X s₀ C n (.callv i b):=fun kd F x A o p as mu mu' loc s v Q E hm hA hR I e K=>by
  refine hm (fun x=>wpAny (model X.prog X.w) A (eval x F.env) Q E s) fun Z Z Z Z hs hx kn h1=>?_
  ·
    rw [Af] at e
    refine bh e fun v' e1 f1=>bK f1 fun x1 m1 e2 e3=>bh e3 fun k e4 e5=>bN e5 fun c e6 e7=>?_
    clear e
    replace K:=Kv.eqP K e7
    refine Call_ (uT I hx (hA.known kn) e1 fun u r=>?_) rfl
    rw [cG (iX hs),c7]
    have r':CloRel X p k u:=(show VRel X p as (.clo k) u from I9 e4 ▸ r)
    obtain @⟨f,name,qual,params,body,scope,cl,pm,c',ctv,cell,tc,ob,oc,vs,tq,e5,h2,h3,h4,h5,h6,h7,h8⟩:=id r'
    clear h2 h3 h4 h5 h6 h7 h8
    refine Calls.callWith_function (o:=kla_obj name qual params body scope cl pm c' ctv) (ez (qU (hb h1 hA hR I e2 fun p1 bv s1 u1 sp1 sa1 I1 r1=>⟨⟨I1.ple _ _ (sp1 _ _ e5),rfl⟩,?_⟩)))
    exact wpAny_call (l9 (Bh hX.lim (by have:=hR.depth; omega) I1 (r'.mono sp1) (fR e6 ▸ r1) (K.mono sp1 sa1)))
theorem zr {o p:aw} {as:As} {mu:Mu} {F:Fm} {loc:ae} {A:Around} {s:Shared} {Q E:Value→Shared→Prop} {pos:Pos} {m:MObj} (hX:AmbOK X P) (ho:∀ a,dK (a,0) m=[a]) (hm:∀ a,(a == sysModules)=false→s.heap.objs.size=a→MRel X (s.heap.push { cls:=.type "dict", data:=.dict #[] }) p (as++[(a,0)]) (a,0) m) (I:Inv X s₀ o p as mu F loc s)
    (K:Kv X s₀ o p as (mu++[m]) F loc Q (.r mu.length)):wpAny (model X.prog X.w) A (eval (.Dict [] [] pos) F.env) Q E s:=by
  rw [eval_Dict_empty]
  refine wpAny_bind (wpAny_standAt (wpAny_newObj_type ?_))
  have ns:=I.not_sys hX.sys (Nat.le_refl _)
  exact K _ _ _ _ Sub.refl (List.prefix_append _ _) (I.pushM _ rfl (ho _) (hm _ ns rfl)) ⟨(s.heap.objs.size,0),by rw [← I.len]; exact List.getElem?_concat_length ..,rfl⟩
theorem sV (hX:AmbOK X P):aR X s₀ C n .emptyI:=fun kd F x A o p as mu mu' loc s v Q E hm hA hR I e K=>by
  refine hm (fun x=>wpAny (model X.prog X.w) A (eval x F.env) Q E s) fun Z=>?_
  ·
    rw [yq] at e; replace K:=Kv.eqS K e
    exact zr (m:=.idict []) hX (fun Z=>rfl) (fun a ha hz=>⟨ha,[],by subst hz; exact Heap.DictOf.new _,rfl,by rw [List.map_nil,List.map_nil,ds0]⟩) I K
theorem ui (hX:AmbOK X P):aR X s₀ C n .emptyP:=fun kd F x A o p as mu mu' loc s v Q E hm hA hR I e K=>by
  refine hm (fun x=>wpAny (model X.prog X.w) A (eval x F.env) Q E s) fun Z=>?_
  ·
    rw [yX] at e; replace K:=Kv.eqS K e
    exact zr (m:=.spots 0) hX (fun Z=>rfl) (fun a ha hz=>⟨ha,[],0,[],by subst hz; exact Heap.get?_push_size _ rfl,rfl,by simp,by simp,by simp⟩) I K
theorem HO {a:CE} (ha:aR X s₀ C n a):aR X s₀ C n (.frz a):=fun kd F x A o p as mu mu' loc s v Q E hm hA hR I e K=>by
  have h1:=hm
  ·
    rw [pA] at e
    refine bK e fun x1 m1 e1 e2=>?_
    clear e
    refine bN e2 fun q0_ e3 e4=>?_
    clear e2
    obtain ⟨d,m2⟩:=q0_
    replace K:=Kv.eqP K e4
    refine ha h1 hA hR I e1 fun p1 bv s1 u1 sp1 sa1 I1 r1=>?_
    refine xe1 (rM 4 e3 I1 r1) fun p2 r_=>gF r_ fun sp2 I2 r2=>?_
    exact K p2 bv s1 u1 (sp1.trans sp2) sa1 I2 r2
noncomputable def n4 (X:Amb) (s₀:Shared) (C:Calls) (n:Nat) (es:CEs):Prop:=∀ ⦃kd F l A o p as mu mu' loc s v pos Q E⦄,MtL F.names F.fz kd es l→Agree F.env kd→Rm n A→Inv X s₀ o p as mu F loc s →
  gz C loc mu es=some (v,mu')→Kv X s₀ o p as mu' F loc Q v→wpAny (model X.prog X.w) A (eval (.BoolOp .And l pos) F.env) Q E s
noncomputable def ri (X:Amb) (s₀:Shared) (C:Calls) (n:Nat) (es:CEs):Prop:=∀ ⦃kd F l A o p as mu mu' loc s v pos Q E⦄,MtL F.names F.fz kd es l→Agree F.env kd→Rm n A→Inv X s₀ o p as mu F loc s →
  iO C loc mu es=some (v,mu')→Kv X s₀ o p as mu' F loc Q v→wpAny (model X.prog X.w) A (eval (.BoolOp .Or l pos) F.env) Q E s
noncomputable def ly (X:Amb) (s₀:Shared) (C:Calls) (n:Nat) (es:CEs):Prop:=∀ ⦃kd F l A o p as mu mu' loc s v b pos whole⦄ ⦃Q:Bool→Shared→Prop⦄ ⦃E⦄,MtL F.names F.fz kd es l→Agree F.env kd→Rm n A→Inv X s₀ o p as mu F loc s →
  gz C loc mu es=some (v,mu')→dh v=some b→(∀ p' as' s',Sub p p'→as <+: as'→Inv X s₀ o p' as' mu' F loc s'→Q b s')→wpAny (model X.prog X.w) A (isTrue (.BoolOp .And l pos) F.env whole) Q E s
noncomputable def nG (X:Amb) (s₀:Shared) (C:Calls) (n:Nat) (es:CEs):Prop:=∀ ⦃kd F l A o p as mu mu' loc s v b pos whole⦄ ⦃Q:Bool→Shared→Prop⦄ ⦃E⦄,MtL F.names F.fz kd es l→Agree F.env kd→Rm n A→Inv X s₀ o p as mu F loc s →
  iO C loc mu es=some (v,mu')→dh v=some b→(∀ p' as' s',Sub p p'→as <+: as'→Inv X s₀ o p' as' mu' F loc s'→Q b s')→wpAny (model X.prog X.w) A (isTrue (.BoolOp .Or l pos) F.env whole) Q E s
theorem C3:n4 X s₀ C n .nil:=fun kd F l A o p as mu mu' loc s v pos Q E hm hA hR I e K=>by rw [rK] at e; exact nS e
theorem F1:ri X s₀ C n .nil:=fun kd F l A o p as mu mu' loc s v pos Q E hm hA hR I e K=>by rw [tN] at e; exact nS e
theorem Da {a:CE} (ha:aR X s₀ C n a):n4 X s₀ C n (.cons a .nil):=fun kd F l A o p as mu mu' loc s v pos Q E hm hA hR I e K=>by
  refine hm (fun l=>wpAny (model X.prog X.w) A (eval (.BoolOp .And l pos) F.env) Q E s) fun x l hs h1 hr=>?_
  refine hr (fun l=>wpAny (model X.prog X.w) A (eval (.BoolOp .And (x::l) pos) F.env) Q E s) ?_; rw [rO] at e; exact BoolOp_one (ha h1 hA hR I e K)
theorem FO {a:CE} (ha:aR X s₀ C n a):ri X s₀ C n (.cons a .nil):=fun kd F l A o p as mu mu' loc s v pos Q E hm hA hR I e K=>by
  refine hm (fun l=>wpAny (model X.prog X.w) A (eval (.BoolOp .Or l pos) F.env) Q E s) fun x l hs h1 hr=>?_
  refine hr (fun l=>wpAny (model X.prog X.w) A (eval (.BoolOp .Or (x::l) pos) F.env) Q E s) ?_; rw [sZ] at e; exact BoolOp_one (ha h1 hA hR I e K)
theorem Ay {a b:CE} {r:CEs} (ha:aR X s₀ C n a) (hr:n4 X s₀ C n (.cons b r)):n4 X s₀ C n (.cons a (.cons b r)):=fun kd F l A o p as mu mu' loc s v pos Q E hm hA hR I e K=>by
  refine hm (fun l=>wpAny (model X.prog X.w) A (eval (.BoolOp .And l pos) F.env) Q E s) fun x l hs h1 h2=>?_
  refine h2 (fun l=>MtL F.names F.fz kd (.cons b r) l→wpAny (model X.prog X.w) A (eval (.BoolOp .And (x::l) pos) F.env) Q E s) (fun Z Z hs2 h3 h4 h2'=>?_) h2
  rw [qk] at e
  · refine bK e fun x1 m1 e1 f1=>?_
    clear e
    refine bh f1 fun c e2 e3=>?_
    clear f1
    cases lU e2
    refine BoolOp_and (ha h1 hA hR I e1 fun p1 bv s1 u1 sp1 sa1 I1 r1=>?_)
    cases iY r1
    refine wpAny_truthy_bool ?_
    cases c with
    | true=>exact hr h2' hA hR I1 e3 (K.mono sp1 sa1)
    | false=>replace K:=Kv.eqS K e3; exact (K.mono sp1 sa1).now I1 du
theorem D6 {a b:CE} {r:CEs} (ha:aR X s₀ C n a) (hr:ri X s₀ C n (.cons b r)):ri X s₀ C n (.cons a (.cons b r)):=fun kd F l A o p as mu mu' loc s v pos Q E hm hA hR I e K=>by
  refine hm (fun l=>wpAny (model X.prog X.w) A (eval (.BoolOp .Or l pos) F.env) Q E s) fun x l hs h1 h2=>?_
  refine h2 (fun l=>MtL F.names F.fz kd (.cons b r) l→wpAny (model X.prog X.w) A (eval (.BoolOp .Or (x::l) pos) F.env) Q E s) (fun Z Z hs2 h3 h4 h2'=>?_) h2
  rw [rz] at e
  · refine bK e fun x1 m1 e1 f1=>?_
    clear e
    refine bh f1 fun c e2 e3=>?_
    clear f1
    cases lU e2
    refine BoolOp_or (ha h1 hA hR I e1 fun p1 bv s1 u1 sp1 sa1 I1 r1=>?_)
    cases iY r1
    refine wpAny_truthy_bool ?_
    cases c with
    | false=>exact hr h2' hA hR I1 e3 (K.mono sp1 sa1)
    | true=>replace K:=Kv.eqS K e3; exact (K.mono sp1 sa1).now I1 du
theorem Bc:ly X s₀ C n .nil:=fun kd F l A o p as mu mu' loc s v b pos whole Q E hm hA hR I e ht K=>by rw [rK] at e; exact nS e
theorem Dz:nG X s₀ C n .nil:=fun kd F l A o p as mu mu' loc s v b pos whole Q E hm hA hR I e ht K=>by rw [tN] at e; exact nS e
theorem Ae {a:CE} (ha:eA X s₀ C n a):ly X s₀ C n (.cons a .nil):=fun kd F l A o p as mu mu' loc s v b pos whole Q E hm hA hR I e ht K=>by
  refine hm (fun l=>wpAny (model X.prog X.w) A (isTrue (.BoolOp .And l pos) F.env whole) Q E s) fun x l hs h1 hr=>?_
  refine hr (fun l=>wpAny (model X.prog X.w) A (isTrue (.BoolOp .And (x::l) pos) F.env whole) Q E s) ?_; rw [rO] at e
  refine isTrue_and (ha h1 hA hR I e ht fun p' as' s' a b' c=>?_)
  cases b with
  | true=>exact isTrue_and_nil (K p' as' s' a b' c)
  | false=>exact K p' as' s' a b' c
theorem DP {a:CE} (ha:eA X s₀ C n a):nG X s₀ C n (.cons a .nil):=fun kd F l A o p as mu mu' loc s v b pos whole Q E hm hA hR I e ht K=>by
  refine hm (fun l=>wpAny (model X.prog X.w) A (isTrue (.BoolOp .Or l pos) F.env whole) Q E s) fun x l hs h1 hr=>?_
  refine hr (fun l=>wpAny (model X.prog X.w) A (isTrue (.BoolOp .Or (x::l) pos) F.env whole) Q E s) ?_; rw [sZ] at e
  refine isTrue_or (ha h1 hA hR I e ht fun p' as' s' a b' c=>?_)
  cases b with
  | false=>exact isTrue_or_nil (K p' as' s' a b' c)
  | true=>exact K p' as' s' a b' c
theorem zd {a b:CE} {r:CEs} (ha:eA X s₀ C n a) (hr:ly X s₀ C n (.cons b r)):ly X s₀ C n (.cons a (.cons b r)):=fun kd F l A o p as mu mu' loc s v bb pos whole Q E hm hA hR I e ht K=>by
  refine hm (fun l=>wpAny (model X.prog X.w) A (isTrue (.BoolOp .And l pos) F.env whole) Q E s) fun x l hs h1 h2=>?_
  rw [qk] at e
  · refine bK e fun x1 m1 e1 f1=>?_
    clear e
    refine bh f1 fun c e2 e3=>?_
    clear f1
    refine isTrue_and (ha h1 hA hR I e1 e2 fun p1 bv s1 sp1 sa1 I1=>?_)
    cases c with
    | true=>exact hr h2 hA hR I1 e3 ht fun p' as' s' a b' c=>K p' as' s' (sp1.trans a) (sa1.trans b') c
    | false=>(refine dy e3 fun h1_ h2_=>?_; subst h1_; subst h2_); rw [e2] at ht; (replace ht:=iS ht; subst ht); exact K p1 bv s1 sp1 sa1 I1
theorem Bn {a b:CE} {r:CEs} (ha:eA X s₀ C n a) (hr:nG X s₀ C n (.cons b r)):nG X s₀ C n (.cons a (.cons b r)):=fun kd F l A o p as mu mu' loc s v bb pos whole Q E hm hA hR I e ht K=>by
  refine hm (fun l=>wpAny (model X.prog X.w) A (isTrue (.BoolOp .Or l pos) F.env whole) Q E s) fun x l hs h1 h2=>?_
  rw [rz] at e
  · refine bK e fun x1 m1 e1 f1=>?_
    clear e
    refine bh f1 fun c e2 e3=>?_
    clear f1
    refine isTrue_or (ha h1 hA hR I e1 e2 fun p1 bv s1 sp1 sa1 I1=>?_)
    cases c with
    | false=>exact hr h2 hA hR I1 e3 ht fun p' as' s' a b' c=>K p' as' s' (sp1.trans a) (sa1.trans b') c
    | true=>(refine dy e3 fun h1_ h2_=>?_; subst h1_; subst h2_); rw [e2] at ht; (replace ht:=iS ht; subst ht); exact K p1 bv s1 sp1 sa1 I1
theorem H1 {es:CEs} (h:n4 X s₀ C n es):aR X s₀ C n (.and es):=fun kd F x A o p as mu mu' loc s v Q E hm hA hR I e K=>by
  refine hm (fun x=>wpAny (model X.prog X.w) A (eval x F.env) Q E s) fun Z Z hl=>?_
  · rw [zO] at e; exact h hl hA hR I e K
theorem Ju {es:CEs} (h:ri X s₀ C n es):aR X s₀ C n (.or es):=fun kd F x A o p as mu mu' loc s v Q E hm hA hR I e K=>by
  refine hm (fun x=>wpAny (model X.prog X.w) A (eval x F.env) Q E s) fun Z Z hl=>?_
  · rw [Cu] at e; exact h hl hA hR I e K
theorem Gn:lf X s₀ C n .nil:=fun kd F l A o p as mu mu' loc s vs Q E hm hA hR I e K=>by
  refine hm (fun l=>wpAny (model X.prog X.w) A (spliced (eM l F.env)) Q E s) ?_
  rw [nW] at e; (refine dy e fun h1_ h2_=>?_; subst h1_; subst h2_); exact Calls.spliced_nil (K p as s [] Sub.refl (List.prefix_refl _) I rfl)
theorem C0 {a:CE} {r:CEs} (ha:aR X s₀ C n a) (hr:lf X s₀ C n r):lf X s₀ C n (.cons a r):=fun kd F l A o p as mu mu' loc s vs Q E hm hA hR I e K=>by
  refine hm (fun l=>wpAny (model X.prog X.w) A (spliced (eM l F.env)) Q E s) fun Z Z hs h1 h2=>?_
  rw [oJ] at e
  refine bK e fun x1 m1 e1 f1=>?_
  clear e
  refine bK f1 fun x2 m2 e2 e3=>?_
  clear f1
  (refine dy e3 fun h1_ h2_=>?_; subst h1_; subst h2_)
  exact Calls.spliced_cons (ha h1 hA hR I e1 fun p1 bv s1 u1 sp1 sa1 I1 r1=>hr h2 hA hR I1 e2 fun p2 eV s2 us sp2 sa2 I2 r2=>K p2 eV s2 (u1::us) (sp1.trans sp2) (sa1.trans sa2) I2 ⟨u1,us,rfl,r1.mono sp2 sa2,r2⟩)
end Mine.Internal
namespace Mine.Internal
variable {X:Amb} {P:Fn→FDef} {s₀:Shared} {n:Nat} {C:Calls}
noncomputable def rl:List (Option Expr)→List Expr→Env→Pos→List (Sem Value × Sem Value)
  | some k::ks,v::vs,env,pos=>(eval k env,do let x ← eval v env; standAt pos; pure x)::rl ks vs env pos
  | _,_,_,_=>[]
theorem Am {k:Expr} {ks:List (Option Expr)} {v:Expr} {vs:List Expr} {env:Env} {pos:Pos}:rl (some k::ks) (v::vs) env pos=(eval k env,do let x ← eval v env; standAt pos; pure x)::rl ks vs env pos:=rfl
theorem rG {env:Env} {pos:Pos}:∀ {ws:List W} {ks:List (Option Expr)} {l:List Expr},gR ws ks→l.length=ws.length →
    (evalEachOpt ks env).zip ((evalEach l env).map fun v=>do let x ← v; standAt pos; pure x)=(rl ks l env pos).map (fun p=>(some p.1,p.2))∧(rl ks l env pos).length=ws.length
  | [],ks,l,h,e=>by
    have h:ks=[]:=h
    have e:l=[]:=by simpa using e
    subst h; subst e
    exact ⟨rfl,rfl⟩
  | w::ws,ks,l,h,e=>by
    obtain ⟨k,q,r,rfl,h⟩:=h
    cases l with
    | nil=>simp at e
    | cons v l =>
      obtain ⟨a,b⟩:=rG (env:=env) (pos:=pos) h (by simpa using e:l.length=ws.length)
      refine ⟨?_,by rw [Am,List.length_cons,List.length_cons,b]⟩
      rw [Am,List.map_cons,← a]
      rfl
noncomputable def sQ (X:Amb) (s₀:Shared) (C:Calls) (n:Nat) (es:CEs):Prop:=∀ ⦃kd F l ks ws pos A o p as mu mu' loc s vs⦄ ⦃Q:List (Value × Value)→Shared→Prop⦄ ⦃E⦄,MtL F.names F.fz kd es l→gR ws ks→ws.length=vs.length→Agree F.env kd→Rm n A→Inv X s₀ o p as mu F loc s →
  cV C loc mu es=some (vs,mu')→(∀ p' as' s' prv kvs,Sub p p'→as <+: as'→Inv X s₀ o p' as' mu' F loc s'→Carries (strKind X.prog X.w) prv kvs→kvs.map (·.1)=ws.map W.str→VRels X p' as' vs (kvs.map (·.2))→Q prv s') →
  wpAny (model X.prog X.w) A (evalPairs (rl ks l F.env pos)) Q E s
theorem ES:sQ X s₀ C n .nil:=fun kd F l ks ws pos A o p as mu mu' loc s vs Q E hm hk hw hA hR I e K=>by
  refine hm (fun l=>wpAny (model X.prog X.w) A (evalPairs (rl ks l F.env pos)) Q E s) ?_
  rw [nW] at e; (refine dy e fun h1_ h2_=>?_; subst h1_; subst h2_)
  have:ws=[]:=by simpa using hw
  subst this
  have hk:ks=[]:=hk
  subst hk
  exact evalPairs_nil (K p as s [] [] Sub.refl (List.prefix_refl _) I trivial rfl rfl)
theorem Dc {a:CE} {r:CEs} (ha:aR X s₀ C n a) (hr:sQ X s₀ C n r):sQ X s₀ C n (.cons a r):=fun kd F l ks ws pos A o p as mu mu' loc s vs Q E hm hk hw hA hR I e K=>by
  refine hm (fun l=>wpAny (model X.prog X.w) A (evalPairs (rl ks l F.env pos)) Q E s) fun Z Z hs h1 h2=>?_
  rw [oJ] at e
  refine bK e fun x1 m1 e1 f1=>?_
  clear e
  refine bK f1 fun x2 m2 e2 e3=>?_
  clear f1
  (refine dy e3 fun h1_ h2_=>?_; subst h1_; subst h2_)
  cases ws with
  | nil=>simp at hw
  | cons w ws =>
    obtain ⟨kk,q,rs,rfl,hk⟩:=hk
    rw [Am]
    refine evalPairs_cons (Calls.Constant_str (wpAny_bind (ha h1 hA hR (I.tok _) e1 fun p1 bv s1 u1 sp1 sa1 I1 r1=>wpAny_bind (wpAny_standAt (wpAny_pure (hr h2 hk (by simpa using hw) hA hR I1 e2 fun p2 eV s2 prv kvs sp2 sa2 I2 cc ck cv=>?_))))))
    exact K p2 eV s2 ((.str w.str s.toks,u1)::prv) ((w.str,u1)::kvs) (sp1.trans sp2) (sa1.trans sa2) I2 ⟨strKind_is _ _ _ _,rfl,cc⟩ (by rw [List.map_cons,List.map_cons,ck]) ⟨u1,_,rfl,r1.mono sp2 sa2,cv⟩
theorem vb:∀ {es:CEs} {loc:ae} {mu:Mu} {vs:List Val} {m:Mu} {names fz:List Str} {kd:Kd} {l:List Expr},cV C loc mu es=some (vs,m)→MtL names fz kd es l→l.length=vs.length
  | .nil,_,_,_,_,_,_,_,_,e,h=>by rw [nW] at e; (refine dy e fun h1_ h2_=>?_; subst h1_; subst h2_); exact h (fun l=>l.length=0) rfl
  | .cons _ _,_,_,_,_,_,_,_,_,e,h=>by
    rw [oJ] at e
    refine bK e fun x1 m1 e1 f1=>?_
    clear e
    refine bK f1 fun x2 m2 e2 e3=>?_
    clear f1
    (refine dy e3 fun h1_ h2_=>?_; subst h1_; subst h2_)
    refine h (fun l=>l.length=_) fun Z Z Z Z h=>?_
    rw [List.length_cons,List.length_cons,vb e2 h]
theorem rN {o p:aw} {as:As} {mu mu':Mu} {F:Fm} {loc:ae} {s:Shared} {Q:Value→Shared→Prop} {fr:Bool} {ws:List W} {vs:List Val} {v:Val} {a:Addr} {kvs:List (Str × Value)}
    (e:(if fr=true then (bE vs).map fun ds=>((.d (.dct ws ds):Val),mu) else some (.r mu.length,mu++[.sdict ws vs]))=some (v,mu')) (I:Inv X s₀ o p as mu F loc s) (al:cJ X o p as mu F a) (ns:(a == sysModules)=false)
    (hd:s.heap.DictOf (strKind X.prog X.w) a kvs) (hk:kvs.map (·.1)=ws.map W.str) (hv:VRels X p as vs (kvs.map (·.2))) (K:Kv X s₀ o p as mu' F loc Q v):Q (.ref a) s:=by
  obtain ⟨f1,f2,f3⟩:=al
  refine xe1 (Heap.dictOf_iff.mp hd) fun ob r_=>aO r_ fun eo io=>?_
  cases fr with
  | true =>
    refine xe1 (Option.map_eq_some_iff.mp (show (bE vs).map (fun ds=>((.d (.dct ws ds):Val),mu))=some (v,mu') from e)) fun ds r_=>aO r_ fun e1 e2=>?_
    (refine eR e2 fun h1_ h2_=>?_; subst h1_; subst h2_)
    refine K _ _ _ _ (Sub.put1 f1) (List.prefix_refl _) (I.toP eo f1 f2 f3) ?_
    show DRel X _ (.dct ws ds) _
    rw [F6]
    exact ⟨a,ob,kvs,rfl,ns,cb,io,hk,(VRels.toD e1 hv).mono (Sub.put1 f1)⟩
  | false =>
    (refine dy e fun h1_ h2_=>?_; subst h1_; subst h2_)
    refine K _ _ _ _ Sub.refl (List.prefix_append _ [(a,0)]) (I.toM (q:=(a,0)) (m:=.sdict ws vs) ⟨ns,kvs,hd,hk,hv.mono Sub.refl (List.prefix_append _ _)⟩ (by simp [zf]) (fun b hb=>?_) fun b hb=>?_) ⟨(a,0),by rw [← I.len]; exact List.getElem?_concat_length ..,rfl⟩
    · simp only [zf,List.mem_singleton] at hb; rw [hb]; exact f3
    · simp only [zf,List.mem_singleton] at hb; rw [hb]; exact ⟨f1,f2,_,eo⟩
theorem W.str_inj_nodup:∀ {ws:List W},ws.Nodup→(ws.map W.str).Nodup:=fun h=>h.map (f:=W.str) fun a b hab e=>hab (W.inj e)
theorem vt {fr:Bool} {ws:List W} {es:CEs} (hX:AmbOK X P) (h:sQ X s₀ C n es):aR X s₀ C n (.sdisp fr ws es):=fun kd F x A o p as mu mu' loc s v Q E hm hA hR I e K=>by
  refine hm (fun x=>wpAny (model X.prog X.w) A (eval x F.env) Q E s) fun Z Z Z hk hl=>?_
  ·
    rw [AC] at e
    refine bK e fun vs m e1 e2=>?_
    clear e
    dsimp only at e2
    split at e2
    · rename_i hc
      obtain ⟨hlen,hnd,h8⟩:=hc
      have hll:=vb e1 hl
      cases ws with
      | nil =>
        have hk:_=[]:=hk
        have hvs:vs=[]:=by simpa using hlen.symm
        subst hvs
        cases es with
        | cons _ _=>exact (hl (fun l=>l.length=0→False) (fun Z Z Z Z Z h=>nomatch h) hll).elim
        | nil =>
          refine hl (fun l=>wpAny (model X.prog X.w) A (eval (.Dict _ l _) F.env) Q E s) ?_
          rw [nW] at e1; (refine dy e1 fun h1_ h2_=>?_; subst h2_)
          rw [hk]
          rw [eval_Dict_empty]
          refine wpAny_bind (wpAny_standAt (wpAny_newObj_type ?_))
          exact rN e2 (I.push _) (I.fresh_of (Nat.le_refl _)) (I.not_sys hX.sys (Nat.le_refl _)) (Heap.DictOf.new _) rfl rfl K
      | cons w ws =>
        refine aO (rG (env:=F.env) (pos:=by assumption) hk (by rw [hll,hlen])) fun sh shl=>?_
        refine wpAny_Dict_pairs (knd:=strKind X.prog X.w) sh (fun q=>by rw [q] at shl; simp at shl) (by rw [shl]; exact lb h8 rfl) ?_
        have I1:=I.push { cls:=.type "dict", data:=.dict #[] }
        have al:=I.fresh_of (a:=s.heap.objs.size) (Nat.le_refl _)
        have IH:=I1.hold (l:=[s.heap.objs.size]) (dM (al))
        have hd0:(s.heap.push { cls:=.type "dict", data:=.dict #[] }).get? s.heap.objs.size=some { cls:=.type "dict", data:=.dict #[] }:=Heap.get?_push_size _ rfl
        refine h hl hk hlen hA hR IH e1 fun p' as' s' prv kvs sp sa I' cc ck cv=>⟨kvs,cc,?_,fun h' hd hs=>?_⟩
        · have:s'.heap.get? s.heap.objs.size=some { cls:=.type "dict", data:=.dict #[] }:=I'.ole _ _ ((dx (List.mem_singleton.mpr rfl)).trans hd0)
          exact ⟨_,#[],0,this,⟨rfl,rfl,rfl⟩,rfl,fun Z he=>by simp at he,Pairs.nil,List.nodup_nil⟩
        · obtain ⟨I2,al2⟩:=I'.unhold ((dM (al.2.1))) ((dM (⟨_,hd0⟩))) (fun y c hc hm=>I1.no_cell (show cJ X o p as mu F _ from al) y c hc (by simpa using hm))
          obtain ⟨a1,_⟩:=al2 _ (.head _)
          have I3:=(I2.alien (l:=[s.heap.objs.size]) (h':=h') ((dM (a1))) fun b hb ob e=>(hs.2 b (by simpa using hb)).trans e).tok (s'.toks+prv.length)
          rw [merged_nil_of_nodup _ (by rw [ck]; exact W.str_inj_nodup hnd)] at hd
          exact rN e2 I3 a1 (I.not_sys hX.sys (Nat.le_refl _)) hd ck cv (K.mono sp sa)
    · exact nS e2
end Mine.Internal
namespace Mine.Internal
variable {X:Amb} {P:Fn→FDef} {s₀:Shared} {n:Nat} {C:Calls}
theorem t9 {x:Expr} {env:Env} {whole:Sem Value} (h:mZ x):isTrue x env whole=(do let v ← whole; standAt x.pos; holding [v] (truthy v)):=by
  cases x
  all_goals first | rfl | exact (iP h)
theorem cI {e:CE} (h:aR X s₀ C n e) (hp:Ev e=true):eA X s₀ C n e:=fun kd F x A o p as mu mu' loc s v b Q E hm hA hR I e ht K=>by
  cases lU ht
  refine isTrue_plain (h hm hA hR I e fun p1 bv s1 u1 sp1 sa1 I1 r1=>?_) (t9 (A1 hm hp))
  cases iY r1
  exact wpAny_truthy_bool (K p1 bv s1 sp1 sa1 I1)
theorem HM {a:CE}:eA X s₀ C n (.neg a):=fun kd F x A o p as mu mu' loc s v b Q E hm hA hR I e ht K=>by
  rw [yt] at e
  refine bK e fun y m Z e2=>bN e2 fun i Z e3=>eR e3 fun e4 Z=>?_
  clear e
  rw [← e4] at ht; exact nS ht
theorem HZ:eA X s₀ C n .any:=fun kd F x A o p as mu mu' loc s v b Q E hm hA hR I e ht K=>by rw [qn] at e; exact nS e
theorem He {a:CE} (h:eA X s₀ C n a):eA X s₀ C n (.not a):=fun kd F x A o p as mu mu' loc s v b Q E hm hA hR I e ht K=>by
  refine hm (fun x=>wpAny (model X.prog X.w) A (isTrue x F.env (eval x F.env)) Q E s) fun Z Z h1=>?_
  ·
    rw [zx] at e
    refine bK e fun x1 m1 e1 e2=>?_
    clear e
    refine bN e2 fun c e3 e4=>?_
    clear e2
    (refine eR e4 fun h1_ h2_=>?_; subst h1_; subst h2_)
    (replace ht:=iS ht; subst ht)
    exact isTrue_not (h h1 hA hR I e1 e3 fun p1 bv s1 sp1 sa1 I1=>K p1 bv s1 sp1 sa1 I1)
theorem G7 {es:CEs} (h:ly X s₀ C n es):eA X s₀ C n (.and es):=fun kd F x A o p as mu mu' loc s v b Q E hm hA hR I e ht K=>by
  refine hm (fun x=>wpAny (model X.prog X.w) A (isTrue x F.env (eval x F.env)) Q E s) fun Z Z hl=>?_
  · rw [zO] at e; exact h hl hA hR I e ht K
theorem Jq {es:CEs} (h:nG X s₀ C n es):eA X s₀ C n (.or es):=fun kd F x A o p as mu mu' loc s v b Q E hm hA hR I e ht K=>by
  refine hm (fun x=>wpAny (model X.prog X.w) A (isTrue x F.env (eval x F.env)) Q E s) fun Z Z hl=>?_
  · rw [Cu] at e; exact h hl hA hR I e ht K
theorem HJ {t a b:CE} (ht:eA X s₀ C n t) (ha:eA X s₀ C n a) (hb:eA X s₀ C n b):eA X s₀ C n (.ifx t a b):=fun kd F x A o p as mu mu' loc s v bb Q E hm hA hR I e hv K=>by
  refine hm (fun x=>wpAny (model X.prog X.w) A (isTrue x F.env (eval x F.env)) Q E s) fun Z Z Z Z h1 h2 h3=>?_
  ·
    rw [yL] at e
    refine bK e fun x1 m1 e1 e2=>?_
    clear e
    refine bh e2 fun c e3 e4=>?_
    clear e2
    refine isTrue_IfExp (ht h1 hA hR I e1 e3 fun p1 bv s1 sp1 sa1 I1=>?_)
    cases c with
    | true=>exact ha h2 hA hR I1 e4 hv fun p' as' s' a b c=>K p' as' s' (sp1.trans a) (sa1.trans b) c
    | false=>exact hb h3 hA hR I1 e4 hv fun p' as' s' a b c=>K p' as' s' (sp1.trans a) (sa1.trans b) c
theorem H2 {op:Cop} {a b:CE} (ha:aR X s₀ C n a) (hb:aR X s₀ C n b):eA X s₀ C n (.cmp op a b):=fun kd F x A o p as mu mu' loc s v bb Q E hm hA hR I e hv K=>by
  refine hm (fun x=>wpAny (model X.prog X.w) A (isTrue x F.env (eval x F.env)) Q E s) fun Z Z Z hs h1 h2=>?_
  ·
    rw [yW] at e
    refine bK e fun x1 m1 e1 f1=>?_
    clear e
    refine bK f1 fun x2 m2 e2 e3=>?_
    clear f1
    refine bN e3 fun c e4 e5=>?_
    clear e3
    (refine eR e5 fun h1_ h2_=>?_; subst h1_; subst h2_)
    (replace hv:=iS hv; subst hv)
    refine wpAny_isTrue_Compare1 (ha h1 hA hR I e1 fun p1 bv s1 u1 sp1 sa1 I1 r1=>hb h2 hA hR I1 e2 fun p2 eV s2 u2 sp2 sa2 I2 r2=>sA e4 hR I2 (r1.mono sp2 sa2) r2 fun p' as' s' u a b c r=>?_) (qg hs)
    cases iY r
    exact wpAny_truthy_bool (K p' as' s' (sp1.trans (sp2.trans a)) (sa1.trans (sa2.trans b)) c)
theorem Hd {a:CE} (ha:aR X s₀ C n a):eA X s₀ C n (.isN a):=fun kd F x A o p as mu mu' loc s v bb Q E hm hA hR I e hv K=>by
  refine hm (fun x=>wpAny (model X.prog X.w) A (isTrue x F.env (eval x F.env)) Q E s) fun Z Z Z Z h1=>?_
  ·
    rw [y2] at e
    refine bK e fun x1 m1 e1 e2=>bN e2 fun b e3 e4=>?_
    clear e
    (refine eR e4 fun h1_ h2_=>?_; subst h1_; subst h2_); (replace hv:=iS hv; subst hv)
    refine wpAny_isTrue_Compare1 (ha h1 hA hR I e1 fun p1 bv s1 u1 sp1 sa1 I1 r1=>Constant_none (is_none ?_)) rfl
    rw [n6 r1 e3]
    exact wpAny_truthy_bool (K p1 bv s1 sp1 sa1 I1)
theorem GA {a:CE} (ha:aR X s₀ C n a):eA X s₀ C n (.notN a):=fun kd F x A o p as mu mu' loc s v bb Q E hm hA hR I e hv K=>by
  refine hm (fun x=>wpAny (model X.prog X.w) A (isTrue x F.env (eval x F.env)) Q E s) fun Z Z Z Z h1=>?_
  ·
    rw [vH] at e
    refine bK e fun x1 m1 e1 e2=>bN e2 fun b e3 e4=>?_
    clear e
    (refine eR e4 fun h1_ h2_=>?_; subst h1_; subst h2_); (replace hv:=iS hv; subst hv)
    refine wpAny_isTrue_Compare1 (ha h1 hA hR I e1 fun p1 bv s1 u1 sp1 sa1 I1 r1=>Constant_none (isNot_none ?_)) rfl
    rw [n6 r1 e3]
    exact wpAny_truthy_bool (K p1 bv s1 sp1 sa1 I1)
theorem Hn {a:CE} (h:eA X s₀ C n a):eA X s₀ C n (.frz a):=fun kd F x A o p as mu mu' loc s v b Q E hm hA hR I e ht K=>by
  have h1:=hm
  ·
    rw [pA] at e
    refine bK e fun x1 m1 e1 e2=>?_
    clear e
    refine bN e2 fun q0_ e3 e4=>?_
    clear e2
    obtain ⟨d,m2⟩:=q0_
    cases e4
    cases lU ht
    have:x1=.d (.bool b)∧mu'=m1:=by
      cases x1 with
      | d x=>have e3:some (x,m1)=some (.bool b,mu'):=e3; (refine dy e3 fun h1_ h2_=>?_; rw [h1_]; rw [h2_]); exact ⟨rfl,rfl⟩
      | clo k=>exact nS e3
      | r i =>
        refine bh (x:=m1[i]?) (f:=fun ob=>tC (pj (freeze 3)) i m1 ob) e3 fun ob Z e4=>?_
        cases ob with
        | frz d=>exact absurd (by rw [(dy (zo e4).2 fun a Z=>a:d=.bool b)]; rfl) (zo e4).1
        | spots n=>exact dy (show some (Dat.spots n,_)=some (Dat.bool b,mu') from e4) fun a Z=>nS (congrArg dB a)
        | list xs=>exact bK (x:=pj (freeze 3) m1 xs) e4 fun ds m3 Z e5=>bN (x:=(m3[i]?).bind oL) e5 fun Z Z e6=>eR e6 fun a Z=>nS (congrArg dB a)
        | inst c fs xs=>exact bK (x:=pj (freeze 3) m1 xs) e4 fun ds m3 Z e5=>bN (x:=(m3[i]?).bind oO) e5 fun Z Z e6=>eR e6 fun a Z=>nS (congrArg dB a)
        | sdict _ _=>exact nS e4
        | idict _=>exact nS e4
    obtain ⟨rfl,rfl⟩:=this
    exact h h1 hA hR I e1 rfl K
mutual
theorem aG (hX:AmbOK X P) (hC:cq X s₀ C n):∀ e:CE,aR X s₀ C n e
  | .any=>HT
  | .loc i=>Ci
  | .byte=>xZ hX
  | .int i=>Cz
  | .str w=>CT
  | .bool b=>yB
  | .none=>yz
  | .tup es=>BV (gC hX hC es)
  | .list q es=>yf (gC hX hC es)
  | .bin q o a b=>CN (aG hX hC a) (aG hX hC b)
  | .neg a=>Hf (aG hX hC a)
  | .cmp o a b=>HE (aG hX hC a) (aG hX hC b)
  | .isN a=>HL (aG hX hC a)
  | .notN a=>FZ (aG hX hC a)
  | .and es=>H1 (zD hX hC es)
  | .or es=>Ju (CL hX hC es)
  | .not a=>Hc (aG hX hC a)
  | .ifx t a b=>H0 (gA hX hC t) (aG hX hC a) (aG hX hC b)
  | .attr e f=>zm hX (aG hX hC e)
  | .sub e i=>B7 (aG hX hC e) (aG hX hC i)
  | .slo e i=>Cr (aG hX hC e) (aG hX hC i)
  | .call f es=>yZ hX hC (gC hX hC es)
  | .new c es=>BQ hX hC (gC hX hC es)
  | .meth e f es=>xY hX hC (aG hX hC e) (gC hX hC es)
  | .bi b es=>Fx hX (gC hX hC es)
  | .toList q e=>s6 hX (aG hX hC e)
  | .app e x=>B3 (aG hX hC e) (aG hX hC x)
  | .ext e x=>BC (aG hX hC e) (aG hX hC x)
  | .pop0 e=>xV (aG hX hC e)
  | .get e k=>Cq (aG hX hC e) (aG hX hC k)
  | .getd e k d=>zw (aG hX hC e) (aG hX hC k) (aG hX hC d)
  | .popd e k=>zY (aG hX hC e) (aG hX hC k)
  | .comp q elt ts it=>yn (aG hX hC it) (aG hX hC elt)
  | .compif elt ts it c=>t5 (aG hX hC it) (aG hX hC elt) (gA hX hC c)
  | .lam i=>B4 hX
  | .callv i x=>vl hX (aG hX hC x)
  | .emptyI=>sV hX
  | .emptyP=>ui hX
  | .sdisp fr ws es=>vt hX (xL hX hC es)
  | .frz e=>HO (aG hX hC e)
theorem gA (hX:AmbOK X P) (hC:cq X s₀ C n):∀ e:CE,eA X s₀ C n e
  | .any=>HZ
  | .loc i=>cI Ci rfl
  | .byte=>cI (xZ hX) rfl
  | .int i=>cI Cz rfl
  | .str w=>cI CT rfl
  | .bool b=>cI yB rfl
  | .none=>cI yz rfl
  | .tup es=>cI (BV (gC hX hC es)) rfl
  | .list q es=>cI (yf (gC hX hC es)) rfl
  | .bin q o a b=>cI (CN (aG hX hC a) (aG hX hC b)) rfl
  | .neg a=>HM
  | .cmp o a b=>H2 (aG hX hC a) (aG hX hC b)
  | .isN a=>Hd (aG hX hC a)
  | .notN a=>GA (aG hX hC a)
  | .and es=>G7 (va hX hC es)
  | .or es=>Jq (zQ hX hC es)
  | .not a=>He (gA hX hC a)
  | .ifx t a b=>HJ (gA hX hC t) (gA hX hC a) (gA hX hC b)
  | .attr e f=>cI (zm hX (aG hX hC e)) rfl
  | .sub e i=>cI (B7 (aG hX hC e) (aG hX hC i)) rfl
  | .slo e i=>cI (Cr (aG hX hC e) (aG hX hC i)) rfl
  | .call f es=>cI (yZ hX hC (gC hX hC es)) rfl
  | .new c es=>cI (BQ hX hC (gC hX hC es)) rfl
  | .meth e f es=>cI (xY hX hC (aG hX hC e) (gC hX hC es)) rfl
  | .bi b es=>cI (Fx hX (gC hX hC es)) rfl
  | .toList q e=>cI (s6 hX (aG hX hC e)) rfl
  | .app e x=>cI (B3 (aG hX hC e) (aG hX hC x)) rfl
  | .ext e x=>cI (BC (aG hX hC e) (aG hX hC x)) rfl
  | .pop0 e=>cI (xV (aG hX hC e)) rfl
  | .get e k=>cI (Cq (aG hX hC e) (aG hX hC k)) rfl
  | .getd e k d=>cI (zw (aG hX hC e) (aG hX hC k) (aG hX hC d)) rfl
  | .popd e k=>cI (zY (aG hX hC e) (aG hX hC k)) rfl
  | .comp q elt ts it=>cI (yn (aG hX hC it) (aG hX hC elt)) rfl
  | .compif elt ts it c=>cI (t5 (aG hX hC it) (aG hX hC elt) (gA hX hC c)) rfl
  | .lam i=>cI (B4 hX) rfl
  | .callv i x=>cI (vl hX (aG hX hC x)) rfl
  | .emptyI=>cI (sV hX) rfl
  | .emptyP=>cI (ui hX) rfl
  | .sdisp fr ws es=>cI (vt hX (xL hX hC es)) rfl
  | .frz e=>Hn (gA hX hC e)
theorem gC (hX:AmbOK X P) (hC:cq X s₀ C n):∀ es:CEs,lf X s₀ C n es
  | .nil=>Gn
  | .cons e r=>C0 (aG hX hC e) (gC hX hC r)
theorem xL (hX:AmbOK X P) (hC:cq X s₀ C n):∀ es:CEs,sQ X s₀ C n es
  | .nil=>ES
  | .cons e r=>Dc (aG hX hC e) (xL hX hC r)
theorem zD (hX:AmbOK X P) (hC:cq X s₀ C n):∀ es:CEs,n4 X s₀ C n es
  | .nil=>C3
  | .cons e .nil=>Da (aG hX hC e)
  | .cons e (.cons b r)=>Ay (aG hX hC e) (zD hX hC (.cons b r))
theorem CL (hX:AmbOK X P) (hC:cq X s₀ C n):∀ es:CEs,ri X s₀ C n es
  | .nil=>F1
  | .cons e .nil=>FO (aG hX hC e)
  | .cons e (.cons b r)=>D6 (aG hX hC e) (CL hX hC (.cons b r))
theorem va (hX:AmbOK X P) (hC:cq X s₀ C n):∀ es:CEs,ly X s₀ C n es
  | .nil=>Bc
  | .cons e .nil=>Ae (gA hX hC e)
  | .cons e (.cons b r)=>zd (gA hX hC e) (va hX hC (.cons b r))
theorem zQ (hX:AmbOK X P) (hC:cq X s₀ C n):∀ es:CEs,nG X s₀ C n es
  | .nil=>Dz
  | .cons e .nil=>DP (gA hX hC e)
  | .cons e (.cons b r)=>Bn (gA hX hC e) (zQ hX hC (.cons b r))
end
end Mine.Internal
namespace Mine.Internal
variable {X:Amb} {P:Fn→FDef} {s₀:Shared} {n:Nat} {C:Calls}
theorem vf (e:CE) (h:Ce e=false→False):(∃ a,e=.frz a)∨e=.any∨(∃ q el ts it,e=.comp q el ts it)∨∃ el ts it c,e=.compif el ts it c:=by
  revert h
  cases e with
  | frz a=>exact fun Z=>.inl ⟨a,rfl⟩
  | any=>exact fun Z=>.inr (.inl rfl)
  | comp q el ts it=>exact fun Z=>.inr (.inr (.inl ⟨q,el,ts,it,rfl⟩))
  | compif el ts it c=>exact fun Z=>.inr (.inr (.inr ⟨el,ts,it,c,rfl⟩))
  | _=>exact fun h=>(h rfl).elim
theorem Bw {A:Around} {F:Fm} {kd:Kd} {use:Option (Value→Sem Unit)} {Q E:Value→Shared→Prop} {elt:Expr} {gens:List Comprehension} {sc:Scope} {pos pos':Pos} (hX:AmbOK X P) (hC:cq X s₀ C n) (hA:Agree F.env kd) (hR:Rm n A) :
    ∀ (k:Nat) (e:CE) {o p:aw} {as:As} {mu mu':Mu} {loc:ae} {s:Shared} {v:Val},fd e=k→Mt F.names F.fz kd e (.ListComp elt gens sc pos)→Inv X s₀ o p as mu F loc s→ev C loc mu e=some (v,mu') →
      (∀ p' as' s' u Ca m,Sub p p'→as <+: as'→Inv X s₀ o p' as' mu' F loc s'→VRel X p' as' v u→cJ X o p' as' mu' F Ca→s'.heap.Ns Ca m→compPost (model X.prog X.w) A E use Q u Ca (.ok .next) s') →
      wpAny (model X.prog X.w) A (comprehension (.ListComp elt gens sc pos) sc F.env pos' (newList []) (firstAsync gens) (firstIter gens F.env) use) Q E s:=by
  intro k e
  induction k generalizing e with
  | zero =>
    intro o p as mu mu' loc s v hk hm I e0 K
    rcases vf e (fun h=>iP (tS hm h)) with ⟨a,rfl⟩ | rfl | ⟨q,el,ts,it,rfl⟩ | ⟨el,ts,it,c,rfl⟩
    · cases hk
    · rw [qn] at e0; exact nS e0
    · refine hm (fun Y=>Expr.ListComp elt gens sc pos=Y→wpAny (model X.prog X.w) A (comprehension (.ListComp elt gens sc pos) sc F.env pos' (newList []) (firstAsync gens) (firstIter gens F.env) use) Q E s) (fun Z Z Z Z Z hS hy ht hx hq=>?_) rfl
      cases hq
      rw [vG] at e0; exact nU (q:=q) (c:=none) (use:=use) (aG hX hC it) (aG hX hC el) (fun c' h=>by exact nS h) hS hy ht hx rfl hA hR I e0 K
    · refine hm (fun Y=>Expr.ListComp elt gens sc pos=Y→wpAny (model X.prog X.w) A (comprehension (.ListComp elt gens sc pos) sc F.env pos' (newList []) (firstAsync gens) (firstIter gens F.env) use) Q E s) (fun Z Z Z Z Z Z hS hy ht hx hz hq=>?_) rfl
      cases hq
      rw [rS] at e0; exact nU (q:=false) (c:=some c) (use:=use) (aG hX hC it) (aG hX hC el) (fun c' h=>by (replace h:=iS h; subst h); exact gA hX hC c) hS hy ht hx ⟨_,rfl,hz⟩ hA hR I e0 K
  | succ k ih =>
    intro o p as mu mu' loc s v hk hm I e0 K
    rcases vf e (fun h=>iP (tS hm h)) with ⟨a,rfl⟩ | rfl | ⟨q,el,ts,it,rfl⟩ | ⟨el,ts,it,c,rfl⟩
    · rw [pA] at e0
      refine bK e0 fun x1 m1 e1 e2=>bN e2 fun dm e3 e4=>?_
      clear e0
      (refine eR e4 fun h1_ h2_=>?_; subst h1_; subst h2_)
      refine ih a (Nat.succ.inj hk) hm I e1 fun p1 bv s1 u1 Ca m sp1 sa1 I1 r1 al hn=>?_
      have IK:=I1.hold (l:=[Ca]) (dM (al))
      obtain ⟨obC,es,ep,eC,r⟩:=id hn
      refine xe1 (rM 4 e3 IK r1) fun p2 r_=>gF r_ fun sp2 I2 r2=>?_
      obtain ⟨I3,al3⟩:=I2.unhold ((dM (al.2.1))) ((dM (⟨_,eC⟩))) (fun y c hc hm=>I1.no_cell al y c hc (by simpa using hm))
      exact K p2 bv s1 u1 Ca m (sp1.trans sp2) sa1 I3 r2 (al3 Ca (.head _)).1 hn
    · cases hk
    · cases hk
    · cases hk
theorem JH {p:aw} {as:As}:Gc X p as .next .next:=rfl
set_option tactic.hygienic true in
theorem uF (x:Expr) (t:Str) (q:Pos) (line:Nat) (env:Env) :
    swapsWith x (some (.Name t q)) line env=pure false∨(swapsWith x (some (.Name t q)) line env=pure true∧∃ elt gens sc pos,x=.ListComp elt gens sc pos)∨(∃ a b c d,x=.SetComp a b c d)∨(∃ a b c d e,x=.DictComp a b c d e):=by
  cases x
  case ListComp elt gens sc pos =>
    have:∃ b:Bool,swapsWith (.ListComp elt gens sc pos) (some (.Name t q)) line env=pure b:=⟨_,rfl⟩
    obtain ⟨b,hb⟩:=this
    cases b
    · exact .inl hb
    · exact .inr (.inl ⟨hb,_,_,_,_,rfl⟩)
  case SetComp=>exact .inr (.inr (.inl ⟨_,_,_,_,rfl⟩))
  case DictComp=>exact .inr (.inr (.inr ⟨_,_,_,_,_,rfl⟩))
  all_goals exact .inl rfl
theorem yd {names fz:List Str} {kd:Kd} {e:CE} {x:Expr} {loc:ae} {mu:Mu} {r:Val × Mu} (h:Mt names fz kd e x) (he:ev C loc mu e=some r):(∀ a b c d,x ≠ .SetComp a b c d)∧(∀ a b c d e,x ≠ .DictComp a b c d e) :=
  ⟨fun Z Z Z Z hx=>by have:=(mf _ rfl h he).2.2; rw [hx] at this; exact iP this,fun Z Z Z Z Z hx=>by have:=(mf _ rfl h he).2.2; rw [hx] at this; exact iP this⟩
theorem Dl {names fz:List Str} {kd:Kd} {e:CE} {x:Expr} {loc:ae} {mu:Mu} {r:Val × Mu} (h:Mt names fz kd e x) (he:ev C loc mu e=some r):bI x:=(mf _ rfl h he).2.1
theorem H4 {i:Nat} {e:CE} (hX:AmbOK X P) (hC:cq X s₀ C n):iw X s₀ C n (.asg i e):=fun kd F x A o p as mu mu' loc loc' s fl Q E hm hA hR I e K=>by
  refine hm (fun x=>wpAny (model X.prog X.w) A (exec x F.env) Q E s) fun n q x pos hx hok he=>?_
  rw [GP] at e
  refine bK e fun v m e1 e2=>lG e2 fun Z e3=>?_
  clear e
  replace K:=Kf.eqS K e3
  have ok:iT F n:=hok.imp_left (hA n).1
  rcases uF x n q pos.line F.env with h | ⟨h,elt,gens,sc,pc,rfl⟩ | ⟨a,b,c,d,rfl⟩ | ⟨a,b,c,d,f,rfl⟩
  · exact wpAny_Assign_Name (aG hX hC _ he hA hR I e1 fun p1 bv s1 u1 sp1 sa1 I1 r1=>jZ I1 hx ok r1 fun s' I'=>K p1 bv s' .next sp1 sa1 I' rfl) h
  · rw [exec_Assign_Name_used _ _ _ _ h]
    refine wpAny_bind (wpAny_standAt (wpAny_bind ?_))
    rw [arm_evalThenUse_ListComp]
    refine wpAny_bind (wpAny_mono (Bw (Q:=fun Z s'=>Q .next s') hX hC hA hR _ _ rfl he I e1 fun p1 bv s1 u Ca mm sp1 sa1 I1 r1 al hn=>rU hx ok I1 al hn r1 fun s' I'=>K p1 bv s' .next sp1 sa1 I' rfl) (fun Z s' hq=>wpAny_pure (wpAny_pure hq)) fun Z Z e=>e)
  · exact absurd rfl ((yd he e1).1 a b c d)
  · exact absurd rfl ((yd he e1).2 a b c d f)
theorem oh {F:Fm} {A:Around} {E:Value→Shared→Prop} {o p:aw} {as:As} {mu:Mu} {loc loc':ae} {s:Shared} {is:List Nat} {l:List Expr} {k} {pos:Pos} {T:Addr} {vs:Array Value} {xs:List Val} {Q:Unit→Shared→Prop} (hh:A.handled=none) (h:MtTs F.names (iT F) is l) (e:ai is xs loc=some loc') (hl:is.length=xs.length)
    (I:Inv X s₀ o p as mu F loc s) (hT:IsTup s.heap T vs) (r:VRels X p as xs vs.toList) (K:∀ s',Inv X s₀ o p as mu F loc' s'→Q () s') :
    wpAny (model X.prog X.w) A (assign (.Tuple l k pos) F.env (.ref T)) Q E s:=by
  have hz:xs.length=vs.size:=by simpa using r.length
  have he:=qL (env:=F.env) h
  refine assign_Tuple_tuple hh hT (by rw [he,List.length_map,h.len]; exact Eq.trans hl hz) (by rw [he]; exact km) fun h' hx=>?_
  rw [he,List.map_map]
  exact l8 h e (I.ext hx) r K
theorem MtTs.okn {F:Fm} {kd:Kd} (hA:Agree F.env kd):∀ {is:List Nat} {l:List Expr},MtTs F.names (fun n=>kd n=some .local∨n ∈ F.wr) is l→MtTs F.names (iT F) is l
  | [],_,h=>h
  | i::is,_,⟨x,pos,r,e,hx,ok,h⟩=>⟨x,pos,r,e,hx,ok.imp_left (hA x).1,h.okn hA⟩
theorem MtT.okn {F:Fm} {kd:Kd} (hA:Agree F.env kd) {is:List Nat} {t:Expr} (h:MtT F.names (fun n=>kd n=some .local∨n ∈ F.wr) is t):MtT F.names (iT F) is t:=by
  cases is with
  | nil=>obtain ⟨l,k,pos,e,h⟩:=h; exact ⟨l,k,pos,e,h⟩
  | cons i is =>
    cases is with
    | nil=>obtain ⟨x,pos,e,hx,ok⟩:=h; exact ⟨x,pos,e,hx,ok.imp_left (hA x).1⟩
    | cons j is=>obtain ⟨l,k,pos,e,h⟩:=h; exact ⟨l,k,pos,e,MtTs.okn hA h⟩
theorem uq {x:Expr} {l k q} {env:Env} (h:tf x):swappedStores [.Tuple l k q] x env=pure none:=by cases x <;> first | rfl | exact (iP h)
theorem mG {x:Expr} {l k q} {line:Nat} {env:Env}:swapsWithSole [.Tuple l k q] x line env=pure false:=by cases x <;> rfl
theorem Hg {is:List Nat} {e:CE} (hX:AmbOK X P) (hC:cq X s₀ C n):iw X s₀ C n (.unp is e):=fun kd F x A o p as mu mu' loc loc' s fl Q E hm hA hR I e K=>by
  refine hm (fun x=>wpAny (model X.prog X.w) A (exec x F.env) Q E s) fun Z Z Z Z Z hn ht he=>?_
  rw [GH] at e
  refine bK e fun v m e1 e2=>bh e2 fun x hx f1=>bh f1 fun xs hxs f2=>lG f2 fun hl f3=>bN f3 fun l2 e3 e4=>?_
  clear e
  replace K:=Kf.eqP K e4
  refine Assign_Tuple (aG hX hC _ he hA hR I e1 fun p1 bv s1 u1 sp1 sa1 I1 r1=>?_) mG (uq hn)
  rw [gK hx] at r1
  rcases xr hxs with q | q <;> rw [q] at r1
  · refine RSeq.el (fX r1) fun a vs mm e3_ h1 h2=>?_
    subst e3_
    exact iC hR.hand (ht.okn hA) e3 hl I1 (.inl (I1.ple _ _ h1)) h2 fun s' I'=>K p1 bv s' .next sp1 sa1 I' rfl
  · refine RSeq.el (iR r1) fun a vs mm e3_ h1 h2=>?_
    subst e3_
    exact iC hR.hand (ht.okn hA) e3 hl I1 (.inr (I1.ple _ _ h1)) h2 fun s' I'=>K p1 bv s' .next sp1 sa1 I' rfl
theorem y5 {z a b:Expr} {q:Pos} {line:Nat} {env:Env}:swapsWith z (some (.Subscript a b q)) line env=pure false:=by cases z <;> rfl
theorem xE {z a:Expr} {f:Str} {q:Pos} {line:Nat} {env:Env}:swapsWith z (some (.Attribute a f q)) line env=pure false:=by cases z <;> rfl
theorem De {A:Around} {F:Fm} {o p:aw} {as:As} {mu mu':Mu} {loc loc':ae} {s:Shared} {x k:Val} {a:Nat} {fl:Fl} {u1 u2 u3:Value} {Q:Unit→Shared→Prop} {E:Value→Shared→Prop} (hR:Rm n A) (e:sd loc x a k mu=some (fl,loc',mu')) (I:Inv X s₀ o p as mu F loc s) (r1:VRel X p as (.r a) u1) (r2:VRel X p as k u2) (r3:VRel X p as x u3)
    (K:∀ s',Inv X s₀ o p as mu' F loc' s'→Gc X p as fl .next→Q () s'):wpAny (model X.prog X.w) A (setItem u1 u2 u3) Q E s:=by
  have fin:∀ {mu1:Mu},(Fl.next,loc,mu1)=(fl,loc',mu')→∀ s',Inv X s₀ o p as mu1 F loc s'→Q () s':=fun e s' I'=>by (refine eR e fun h1_ h2_=>eR h2_ fun h2_ h3_=>?_; subst h1_; subst h2_; subst h3_); exact K s' I' rfl
  refine BO (x:=vI k) e (fun Z e1=>BO (x:=vS k) e1 (fun Z e2=>?_) (fun w hw e2=>?_)) (fun i hi e1=>?_)
  · refine bh e2 fun Z hp e3=>bh e3 fun c hk e4=>bh e4 fun Z ha e5=>lG e5 fun hb e6=>?_
    clear e2
    refine xe2 (xP hp) fun i j hkk=>?_
    rw [hkk] at r2; rw [JC ha] at r3
    exact xT hR (BU hk) hb I r1 r2 r3 (fin (iS e6))
  · refine bh e2 fun q hk e3=>lG e3 fun hc e4=>?_
    clear e2
    rw [A8 hw] at r2
    exact zj (B6 hk) hc.1 hc.2 I r1 r2 r3 (fin (iS e4))
  · rw [fR hi] at r2
    refine bh e1 fun ob hk e2=>BO (x:=oL ob) e2 (fun Z e3=>?_) (fun xs hx e3=>?_)
    · refine bh e3 fun ks hks e4=>bh e4 fun d hd e5=>lG e5 fun hl e6=>?_
      clear e3
      rw [gK hd] at r3
      exact zV (A6 hks ▸ hk) hl I r1 r2 r3 (fin (iS e6))
    · refine bN e3 fun j g1 g2=>?_
      clear e3
      exact A5 (EP hx ▸ hk) g1 I r1 r2 r3 (fin g2)
theorem Gw {a i v:CE} (hX:AmbOK X P) (hC:cq X s₀ C n):iw X s₀ C n (.sett a i v):=fun kd F x A o p as mu mu' loc loc' s fl Q E hm hA hR I e K=>by
  refine hm (fun x=>wpAny (model X.prog X.w) A (exec x F.env) Q E s) fun Z Z Z Z Z hn h1 h2 h3=>?_
  rw [Dr] at e
  refine bK e fun x3 m3 e3 f1=>bK f1 fun x1 m1 e1 f2=>bK f2 fun x2 m2 e2 f3=>bh f3 fun ad hr f4=>?_
  clear e
  refine wpAny_Assign_Subscript (aG hX hC _ h3 hA hR I e3 fun p3 gv s3 u3 sp3 sa3 I3 r3=>aG hX hC _ h1 hA hR I3 e1 fun p1 bv s1 u1 sp1 sa1 I1 r1=>aG hX hC _ h2 hA hR I1 e2 fun p2 eV s2 u2 sp2 sa2 I2 r2=>?_) y5
  exact De (u3:=u3) hR f4 I2 (gZ hr ▸ r1.mono sp2 sa2) r2 (r3.mono (sp1.trans sp2) (sa1.trans sa2)) fun s' I' hf=>K p2 eV s' .next (sp3.trans (sp1.trans sp2)) (sa3.trans (sa1.trans sa2)) I' hf
theorem Ga {a v:CE} {f:Fld} (hX:AmbOK X P) (hC:cq X s₀ C n):iw X s₀ C n (.seta a f v):=fun kd F x A o p as mu mu' loc loc' s fl Q E hm hA hR I e K=>by
  refine hm (fun x=>wpAny (model X.prog X.w) A (exec x F.env) Q E s) fun Z Z Z Z Z h1 hs h3=>?_
  subst hs
  rw [DE] at e
  refine bK e fun x3 m3 e3 f1=>bK f1 fun x1 m1 e1 f3=>bh f3 fun ad hr f4=>bh f4 fun q hk f5=>lG f5 fun hl f6=>?_
  clear e
  replace K:=Kf.eqS K f6
  refine plainObj_wpAny_Assign_Attribute (aG hX hC _ h3 hA hR I e3 fun p3 gv s3 u3 sp3 sa3 I3 r3=>aG hX hC _ h1 hA hR I3 e1 fun p1 bv s1 u1 sp1 sa1 I1 r1=>?_) xE
  exact AL (xf hk) hl hX.K hX.cls I1 (gZ hr ▸ r1) (r3.mono sp1 sa1) fun s' I'=>K p1 bv s' .next (sp3.trans sp1) (sa3.trans sa1) I' rfl
theorem Hw {c:CE} {a b:CSs} (hX:AmbOK X P) (hC:cq X s₀ C n) (ha:jJ X s₀ C n a) (hb:jJ X s₀ C n b):iw X s₀ C n (.ifs c a b):=fun kd F x A o p as mu mu' loc loc' s fl Q E hm hA hR I e K=>by
  refine hm (fun x=>wpAny (model X.prog X.w) A (exec x F.env) Q E s) fun Z Z Z Z h1 h2 h3=>?_
  rw [Eh] at e
  refine bK e fun x1 m1 e1 f1=>?_
  clear e
  refine bh f1 fun t e2 f2=>?_
  clear f1
  refine wpAny_If (gA hX hC c h1 hA hR I e1 e2 fun p1 bv s1 sp1 sa1 I1=>?_)
  cases t with
  | true=>exact ha h2 hA hR I1 f2 fun p' as' s' f a b c d=>K p' as' s' f (sp1.trans a) (sa1.trans b) c d
  | false=>exact hb h3 hA hR I1 f2 fun p' as' s' f a b c d=>K p' as' s' f (sp1.trans a) (sa1.trans b) c d
theorem HW {e:CE} (hX:AmbOK X P) (hC:cq X s₀ C n):iw X s₀ C n (.ret e):=fun kd F x A o p as mu mu' loc loc' s fl Q E hm hA hR I e K=>by
  rw [FS] at e
  refine bN e fun q0_ e1 e2=>?_
  clear e
  obtain ⟨v,m⟩:=q0_
  replace K:=Kf.eqP K e2
  refine hm (fun x=>wpAny (model X.prog X.w) A (exec x F.env) Q E s) (fun Z Z he=>?_) (fun Z he=>?_)
  · exact wpAny_Return_some (aG hX hC _ he hA hR I e1 fun p1 bv s1 u1 sp1 sa1 I1 r1=>K p1 bv s1 (.ret u1) sp1 sa1 I1 ⟨u1,rfl,r1⟩)
  · subst he; rw [vF] at e1; (refine dy e1 fun h1_ h2_=>?_; subst h1_; subst h2_); exact wpAny_Return_none (K p as s (.ret .none) Sub.refl (List.prefix_refl _) I ⟨_,rfl,hZ⟩)
theorem wO {z:Expr} {line:Nat} {env:Env} (h:qx z):swapsWith z none line env=pure false:=by cases z <;> first | rfl | exact (iP h)
theorem E7 {e:CE} (hX:AmbOK X P) (hC:cq X s₀ C n):iw X s₀ C n (.expr e):=fun kd F x A o p as mu mu' loc loc' s fl Q E hm hA hR I e K=>by
  refine hm (fun x=>wpAny (model X.prog X.w) A (exec x F.env) Q E s) fun Z Z hn he=>?_
  rw [Db] at e
  refine bN e fun q0_ e1 e2=>?_
  clear e
  obtain ⟨v,m⟩:=q0_
  replace K:=Kf.eqP K e2
  exact wpAny_Expr_any (aG hX hC _ he hA hR I e1 fun p1 bv s1 u1 sp1 sa1 I1 r1=>K p1 bv s1 .next sp1 sa1 I1 rfl) (by unfold interactive; rw [I.fr.kind]; rfl) (wO hn)
end Mine.Internal
namespace Mine.Internal
variable {X:Amb} {P:Fn→FDef} {s₀:Shared} {n:Nat} {C:Calls}
noncomputable def iV (env:Env) (line:Nat):Expr→Option Str
  | .Name id pos=>if env.kindOf id == some .local && pos.line == line then some id else none
  | _=>none
theorem rZ {l l':List Expr} {k k':_} {q q':Pos} {env:Env} (h:l'.all (constantsAlone 8)=false) :
    swappedStores [.Tuple l k q] (.Tuple l' k' q') env=pure none∨∃ line names,swappedStores [.Tuple l k q] (.Tuple l' k' q') env=pure (some names)∧names=l.filterMap (iV env line)∧names.length=l.length∧names.eraseDups.length=names.length∧(l.length=2∨l.length=3):=by
  unfold swappedStores
  dsimp only
  split
  · exact .inl rfl
  · rename_i h1
    split
    · exact .inl rfl
    · split
      · exact .inl rfl
      · rename_i h3
        split
        · exact .inl rfl
        · split
          · rename_i h5; rw [h] at h5; cases h5
          · rw [Bool.or_eq_true,not_or] at h3
            obtain ⟨h3,h4⟩:=h3
            refine .inr ⟨_,_,rfl,rfl,?_,?_,?_⟩
            · exact Classical.byContradiction fun z=>h3 (bne_iff_ne.mpr z)
            · exact Classical.byContradiction fun z=>h4 (bne_iff_ne.mpr z)
            · rw [Bool.or_eq_true,Bool.or_eq_true,not_or,not_or] at h1
              have:=h1.1.1
              simp only [Bool.not_eq_true',Bool.not_eq_false,Bool.or_eq_true,beq_iff_eq] at this
              exact this
noncomputable def NmOK (F:Fm):List Nat→List Str→Prop
  | [],xs=>xs=[]
  | i::is,xs=>∃ x r,xs=x::r∧F.names[i]? = some x∧iT F x∧NmOK F is r
theorem B9 {F:Fm} {line:Nat}:∀ {is:List Nat} {l:List Expr},MtTs F.names (iT F) is l→(l.filterMap (iV F.env line)).length=l.length→NmOK F is (l.filterMap (iV F.env line))
  | [],l=>fun h Z=>by have h:l=[]:=h; rw [h]; rfl
  | i::is,l=>fun ⟨x,pos,r,hl,hx,ok,h⟩ e=>by
    subst hl
    have le:=List.length_filterMap_le (iV F.env line) r
    rw [List.filterMap_cons] at e ⊢
    cases hp:iV F.env line (.Name x pos) with
    | none=>rw [hp] at e; exact absurd (Nat.le_trans (Nat.le_of_eq e.symm) le) (Nat.not_succ_le_self _)
    | some y =>
      rw [hp] at e
      have hy:y=x:=by
        unfold iV at hp
        dsimp only at hp
        split at hp
        · (replace hp:=iS hp; subst hp); rfl
        · exact nS hp
      rw [hy]
      exact ⟨x,_,rfl,hx,ok,B9 h (Nat.succ.inj e)⟩
theorem NmOK.mem {F:Fm}:∀ {is:List Nat} {xs:List Str},NmOK F is xs→∀ i ∈ is,∃ x ∈ xs,F.names[i]? = some x
  | [],_=>fun Z i hi=>nomatch hi
  | i::is,_=>fun ⟨x,r,e,hx,_,h⟩ j hj=>by
    subst e
    rcases List.mem_cons.mp hj with hq_ | hj
    · rw [hq_]; exact ⟨x,.head _,hx⟩
    · obtain ⟨y,hy,e⟩:=h.mem j hj; exact ⟨y,.tail _ hy,e⟩
theorem NmOK.nodup {F:Fm}:∀ {is:List Nat} {xs:List Str},NmOK F is xs→xs.Nodup→is.Nodup
  | [],_=>fun Z Z=>List.nodup_nil
  | i::is,_=>fun ⟨x,r,e,hx,_,h⟩ hn=>by
    subst e
    have hn:=List.nodup_cons.mp hn
    refine List.nodup_cons.mpr ⟨fun hi=>?_,h.nodup hn.2⟩
    obtain ⟨y,hy,e⟩:=h.mem i hi
    rw [hx] at e
    exact hn.1 (Option.some.inj e ▸ hy)
theorem NmOK.snoc {F:Fm} {i:Nat} {x:Str} (hx:F.names[i]? = some x) (ok:iT F x):∀ {is:List Nat} {xs:List Str},NmOK F is xs→NmOK F (is++[i]) (xs++[x])
  | [],_=>fun h=>by have h:_=[]:=h; subst h; exact ⟨x,[],rfl,hx,ok,rfl⟩
  | j::is,_=>fun ⟨y,r,e,hy,oy,h⟩=>by subst e; exact ⟨y,r++[x],rfl,hy,oy,NmOK.snoc hx ok h⟩
theorem NmOK.rev {F:Fm}:∀ {is:List Nat} {xs:List Str},NmOK F is xs→NmOK F is.reverse xs.reverse
  | [],_=>fun h=>by have h:_=[]:=h; subst h; rfl
  | i::is,_=>fun ⟨x,r,e,hx,ok,h⟩=>by subst e; rw [List.reverse_cons,List.reverse_cons]; exact NmOK.snoc hx ok h.rev
theorem VRels.rev {p:aw} {as:As}:∀ {vs:List Val} {us:List Value},VRels X p as vs us→VRels X p as vs.reverse us.reverse
  | [],_=>fun h=>by have h:_=[]:=h; subst h; rfl
  | v::vs,_=>fun ⟨u,r,e,h1,h2⟩=>by rw [e]; rw [List.reverse_cons,List.reverse_cons]; exact h2.rev.append ⟨u,[],rfl,h1,rfl⟩
noncomputable def jX:List Nat→List Val→ae→ae
  | [],_,l=>l
  | i::is,vs,l=>match vs with
    | []=>l
    | v::vs=>jX is vs (l.set i (some v))
theorem oj:∀ {is:List Nat} {vs:List Val} {l l':ae},ai is vs l=some l'→l'=jX is vs l
  | [],[],l,l'=>fun h=>(iS (show some l=some l' from h)).symm
  | [],_::_,_,_=>fun h=>nS h
  | _::_,[],_,_=>fun h=>nS h
  | i::is,v::vs,l,l'=>fun h=>oj (is:=is) (vs:=vs) (kI (show (if i < l.length then ai is vs (l.set i (some v)) else none)=some l' from h)).2
theorem vh {i:Nat} {v:Val}:∀ {is:List Nat} {vs:List Val} {l:ae},i ∉ is→jX is vs (l.set i (some v))=(jX is vs l).set i (some v)
  | [],_,_=>fun Z=>rfl
  | _::_,[],_=>fun Z=>rfl
  | j::is,w::vs,l=>fun h=>by
    show jX is vs ((l.set i (some v)).set j (some w))=(jX is vs (l.set j (some w))).set i (some v)
    have ne:i ≠ j:=fun e=>h (by rw [e]; exact .head _)
    rw [List.set_comm _ _ ne,vh fun e=>h (.tail _ e)]
theorem t6 {i:Nat} {v:Val}:∀ {is:List Nat} {vs:List Val} {l:ae},is.length=vs.length→jX (is++[i]) (vs++[v]) l=(jX is vs l).set i (some v)
  | [],[],_=>fun Z=>rfl
  | [],_::_,_=>fun h=>nomatch h
  | _::_,[],_=>fun h=>nomatch h
  | j::is,w::vs,l=>fun h=>t6 (is:=is) (vs:=vs) (Nat.succ.inj h)
theorem vw:∀ {is:List Nat} {vs:List Val} {l:ae},is.length=vs.length→is.Nodup→jX is.reverse vs.reverse l=jX is vs l
  | [],_,_=>fun Z Z=>rfl
  | _::_,[],_=>fun h=>nomatch h
  | j::is,w::vs,l=>fun h hn=>by
    have hn:=List.nodup_cons.mp hn
    have h:=Nat.succ.inj h
    rw [List.reverse_cons,List.reverse_cons,t6 (by rw [List.length_reverse,List.length_reverse,h]),vw h hn.2]
    exact (vh hn.1).symm
theorem sK {A:Around} {E:Value→Shared→Prop} {F:Fm} {o p:aw} {as:As} {mu:Mu} {Q:Unit→Shared→Prop}:∀ {is:List Nat} {xs:List Str} {vs:List Val} {us:List Value} {loc:ae} {s:Shared},NmOK F is xs→VRels X p as vs us→is.length=vs.length→Inv X s₀ o p as mu F loc s →
    (∀ s',Inv X s₀ o p as mu F (jX is vs loc) s'→Q () s')→wpAny (model X.prog X.w) A (assignInOrder (xs.map fun n=>bindName F.env n) us) Q E s
  | [],_,[],_,_,_=>fun h r Z I K=>by have h:_=[]:=h; have r:_=[]:=r; subst h; subst r; exact wpAny_pure (K _ I)
  | [],_,_::_,_,_,_=>fun Z Z h=>nomatch h
  | _::_,_,[],_,_,_=>fun Z Z h=>nomatch h
  | i::is,_,v::vs,_,loc,s=>fun ⟨x,xs,ex,hx,ok,h⟩ ⟨u,us,eu,r1,r2⟩ hl I K=>by
    subst ex; subst eu
    exact wpAny_bind (wpAny_holding (wpAny_bindName (jZ I hx ok r1 fun s' I'=>sK h r2 (Nat.succ.inj hl) I' K)))
theorem JB {a b:Str} (h:[a,b].eraseDups.length=2):a ≠ b:=fun e=>by
  subst e
  simp [List.eraseDups_cons] at h
theorem Ja {a b c:Str} (h:[a,b,c].eraseDups.length=3):a ≠ b∧a ≠ c∧b ≠ c:=by
  refine ⟨fun e=>?_,fun e=>?_,fun e=>?_⟩ <;> subst e <;> simp [List.eraseDups_cons,List.filter_cons] at h
  · by_cases q:c=a <;> simp [q,List.eraseDups_cons] at h
  · by_cases q:b=a <;> simp [q,List.eraseDups_cons] at h
  · by_cases q:b=a <;> simp [q,List.eraseDups_cons] at h
theorem Eg {α:Type} {l:List α} (h:l.length=2):∃ a b,l=[a,b]:=by
  cases l with
  | nil=>cases h
  | cons a l=>cases l with
    | nil=>cases h
    | cons b l=>exact ⟨a,b,by rw [List.eq_nil_of_length_eq_zero (Nat.succ.inj (Nat.succ.inj h))]⟩
theorem JA {α:Type} {l:List α} (h:l.length=3):∃ a b c,l=[a,b,c]:=by
  cases l with
  | nil=>cases h
  | cons a l=>obtain ⟨b,c,e⟩:=Eg (Nat.succ.inj h); exact ⟨a,b,c,by rw [e]⟩
theorem A3 {ns:List Str} (h:ns.eraseDups.length=ns.length) (hl:ns.length=2∨ns.length=3):ns.Nodup:=by
  rcases hl with hl | hl
  · refine xe2 (Eg hl) fun a b e2_=>?_
    subst e2_
    have:=JB h
    simp [this]
  · refine xe3 (JA hl) fun a b c e3_=>?_
    subst e3_
    refine gF (Ja h) fun h1 h2 h3=>?_
    simp [h1,h2,h3]
theorem DO {is:List Nat} {es:CEs} (hX:AmbOK X P) (hC:cq X s₀ C n):iw X s₀ C n (.multi is es):=fun kd F x A o p as mu mu' loc loc' s fl Q E hm hA hR I e K=>by
  refine hm (fun x=>wpAny (model X.prog X.w) A (exec x F.env) Q E s) fun l k q l' k' q' pos ht hc hl=>?_
  rw [AO] at e
  refine bK e fun vs m e1 f1=>lG f1 fun hlen f2=>bN f2 fun l2 e3 e4=>?_
  clear e
  cases e4
  obtain ⟨hlen,h8⟩:=hlen
  have ht:=ht.okn hA
  have tup:∀ {Q':Value→Shared→Prop},(∀ p1 bv (s1:Shared) us,Sub p p1→as <+: bv→Inv X s₀ o p1 bv mu' F loc s1→VRels X p1 bv vs us→Q' (.ref s1.heap.objs.size) { s1 with heap:=s1.heap.push (d8 us.toArray 0) })→wpAny (model X.prog X.w) A (eval (.Tuple l' k' q') F.env) Q' E s:=fun {Q'} kk=>by
    rw [arm_eval_Tuple,cG hl.star,c7]
    refine wpAny_bind (wpAny_standAt (wpAny_bind (gC hX hC _ hl hA hR I e1 fun p1 bv s1 us sp1 sa1 I1 r1=>?_)))
    exact wpAny_newObj_type (kk p1 bv s1 us sp1 sa1 I1 r1) (by show us.toArray.size≤_; rw [List.size_toArray,← r1.length,sizeLine_eq]; exact JW h8 hlen rfl)
  have hT:∀ {s1:Shared} {us:List Value},IsTup (s1.heap.push (d8 us.toArray 0)) s1.heap.objs.size us.toArray:=⟨_,Heap.get?_push_size _ rfl,rfl,0,rfl⟩
  rcases rZ (l:=l) (k:=k) (q:=q) (k':=k') (q':=q') (env:=F.env) hc with hw | ⟨line,names,hw,hnames,hn1,hn2,hn3⟩
  · refine Assign_Tuple (tup fun p1 bv s1 us sp1 sa1 I1 r1=>?_) mG hw
    exact oh hR.hand ht e3 hlen (I1.push _) hT (by rw [List.toList_toArray]; exact r1) fun s' I'=>K p1 bv s' .next sp1 sa1 I' rfl
  · refine Assign_Tuple_swapped (names:=names) (tup fun p1 bv s1 us sp1 sa1 I1 r1=>?_) mG hw
    have hnz:names.length=us.toArray.size:=by rw [List.size_toArray,← r1.length,← hlen,hn1]; exact ht.len
    rw [hnz]
    refine unpackItems_tuple hR.hand hT fun h' hx=>?_
    have pk:=B9 ht (line:=line) (by rw [← hnames]; exact hn1)
    rw [← hnames] at pk
    rw [List.toList_toArray]
    refine sK pk.rev r1.rev (by rw [List.length_reverse,List.length_reverse]; exact hlen) ((I1.push (d8 us.toArray 0)).ext (h':=h') hx) fun s' I'=>K p1 bv s' .next sp1 sa1 ?_ rfl
    rw [vw hlen (pk.nodup (A3 hn2 (hn1 ▸ hn3))),← oj e3] at I'
    exact I'
end Mine.Internal
namespace Mine.Internal
variable {X:Amb} {P:Fn→FDef} {s₀:Shared} {n:Nat} {C:Calls}
structure Turns (X:Amb) (s₀:Shared) (A:Around) (F:Fm) (o p:aw) (ts:List Nat) (target:Expr) (ds:List Dat) (it:Value) (l:List Addr) (fp:List Addr) (St:Nat→Heap→Prop):Prop where
  frame:∀ i h h',St i h→(∀ b ∈ fp,∀ ob,h.get? b=some ob→h'.get? b=some ob)→St i h'
  fp:∀ b ∈ fp,b ∈ l∨(p b).isSome
  ex:∀ i h,St i h→∀ a ∈ l,∃ ob,h.get? a=some ob
  item:∀ (i:Nat) (s:Shared) (p':aw) (as:As) (mu:Mu) (loc l1:ae) (d:Dat) (Q:Shared→Prop) (E:Value→Shared→Prop),ds[i]? = some d→St i s.heap→Inv X s₀ (c8 o l s.heap) p' as mu F loc s→Sub p p'→b4 ts d loc=some l1 →
    (∀ s2,Inv X s₀ (c8 o l s2.heap) p' as mu F l1 s2→St (i+1) s2.heap→Q s2) →
    wpAny (model X.prog X.w) A (pyNext it) (fun r s₁=>match r with
      | none=>False
      | some v=>wpAny (model X.prog X.w) A (letOwnedTupleGo target it v) (fun Z s₁'=>wpAny (model X.prog X.w) A (assign target F.env v) (fun Z s₂=>Q s₂) E s₁') E s₁) E s
  done:∀ (s:Shared) (p':aw) (as:As) (mu:Mu) (loc:ae) (Q:Shared→Prop) (E:Value→Shared→Prop),St ds.length s.heap→Inv X s₀ (c8 o l s.heap) p' as mu F loc s→Sub p p'→(∀ s2,Inv X s₀ o p' as mu F loc s2→Q s2) →
    wpAny (model X.prog X.w) A (pyNext it) (fun r s₁=>match r with
      | none=>Q s₁
      | some v=>False) E s
theorem sI {A:Around} {F:Fm} {kd:Kd} {o p:aw} {as:As} {mu muE:Mu} {loc locE:ae} {s:Shared} {ts:List Nat} {target:Expr} {ds:List Dat} {it:Value} {l fp:List Addr} {St:Nat→Heap→Prop} {b:CSs} {body:List Stmt} {fl:Fl} {Q:Flow→Shared→Prop} {R:Result→Shared→Prop}
    (T:Turns X s₀ A F o p ts target ds it l fp St) (hb:jJ X s₀ C n b) (hm:fJ F.names F.wr F.fz kd b body) (hA:Agree F.env kd) (hR:Rm n A) (I:Inv X s₀ (c8 o l s.heap) p as mu F loc s) (hst:St 0 s.heap)
    (hl:∀ a ∈ l,o a=none) (hc:∀ x c,F.env.cells.lookup x=some c→c ∉ l)
    (e:cT (fun l m=>er C l m b) ts ds loc mu=some (fl,locE,muE)) (K:Kf X s₀ o p as muE F locE Q fl) (hQ:∀ f s',Q f s'→R (.ok f) s') :
    codeAny (model X.prog X.w) A (.forLoop target it body [] F.env) R s:=by
  refine codeAny_forLoop_any (fun k s'=>∃ (i:Nat) (p':aw) (as':As) (mu':Mu) (loc':ae),k=ds.length+1 - i∧i≤ds.length∧Inv X s₀ (c8 o l s'.heap) p' as' mu' F loc' s'∧St i s'.heap ∧
      cT (fun l m=>er C l m b) ts (ds.drop i) loc' mu'=some (fl,locE,muE)∧Sub p p'∧as <+: as') (fun k s' hI=>?_) (ds.length+1 - 0) ⟨0,p,as,mu,loc,rfl,Nat.zero_le _,I,hst,e,Sub.refl,List.prefix_refl _⟩
  refine xe5 hI fun i p' as' mu' loc' r_=>IR r_ fun hk_ hi I' hst' e' sp sa=>?_
  rw [hk_]
  clear hI hk_
  by_cases hlt:i < ds.length
  · have hd:ds.drop i=ds[i]::ds.drop (i+1):=List.drop_eq_getElem_cons hlt
    rw [hd] at e'
    rw [J4] at e'
    refine bh e' fun l1 e1 e'=>?_
    refine bh e' fun q0_ e2 e3=>?_
    clear e'
    clear e'
    obtain ⟨f1,l2,m2⟩:=q0_
    dsimp only at e3
    refine wpAny_mono (T.item i s' p' as' mu' loc' l1 ds[i] (fun s2=>Inv X s₀ (c8 o l s2.heap) p' as' mu' F l1 s2∧St (i+1) s2.heap) _ (List.getElem?_eq_getElem hlt) hst' I' sp e1 fun s2 I2 hst2=>⟨I2,hst2⟩) (fun r s1 h1=>?_) fun Z Z x=>x
    cases r with
    | none=>exact h1.elim
    | some v =>
      refine wpAny_mono h1 (fun Z s1' h2=>wpAny_mono h2 (fun Z s2 h3=>?_) fun Z Z x=>x) fun Z Z x=>x
      refine aO h3 fun I2 hst2=>?_
      refine hb hm hA hR I2 e2 fun p3 gv s3 f sp3 sa3 I3 fr=>?_
      have has2:=T.ex _ _ hst2
      clear e2 h3
      cases f1 with
      | next =>
        have fr:f=.next:=fr
        rw [fr]
        have I4:=I3.swap (h':=s3.heap) (tk:=s3.toks) hl has2 hc fun b Z ob e=>e
        refine ⟨ds.length+1 - (i+1),by exact su hlt,i+1,p3,gv,m2,l2,rfl,hlt,I4,?_,e3,sp.trans sp3,sa.trans sa3⟩
        refine T.frame _ _ _ hst2 fun b hb ob e=>?_
        rcases T.fp b hb with hb | hb
        · exact I3.ole _ _ ((dx hb).trans e)
        · refine xe1 (Option.isSome_iff_exists.mp hb) fun ob2 q=>?_
          have q2:=I2.ple _ _ (sp _ _ q)
          have q3:=I3.ple _ _ (sp3 _ _ (sp _ _ q))
          rw [e] at q2; rw [iS q2]; exact q3
      | ret u =>
        replace K:=Kf.eqS K e3
        refine xe1 fr fun w r_=>aO r_ fun hw_ vr=>?_
        clear fr
        rw [hw_]
        exact hQ _ _ (K p3 gv s3 (.ret w) (sp.trans sp3) (sa.trans sa3) (I3.unhold hl has2 hc).1 ⟨w,rfl,vr⟩)
  · have hil:i=ds.length:=by omega
    rw [hil,List.drop_length] at e'
    rw [hil] at hst'
    replace K:=Kf.eqS K (show some (Fl.next,loc',mu')=some (fl,locE,muE) from e')
    refine wpAny_mono (T.done s' p' as' _ _ (fun s2=>Inv X s₀ o p' as' mu' F loc' s2) _ hst' I' sp fun s2 I2=>I2) (fun r s1 h1=>?_) fun Z Z x=>x
    cases r with
    | some v=>exact h1.elim
    | none=>exact wpAny_execs_nil (hQ _ _ (K p' as' s1 .next sp sa h1 rfl))
theorem Itr.turns {A:Around} {F:Fm} {o p:aw} {ts:List Nat} {target:Expr} {ds:List Dat} {It:Addr} {fp:List Addr} {Pr:Nat→Value→Prop} {St:Nat→Heap→Prop} (hh:A.handled=none) (ht:MtT F.names (iT F) ts target) (hl:o It=none) (hc:∀ x c,F.env.cells.lookup x=some c→c ∉ [It])
    (T:Itr X A p ds It fp Pr St):Turns X s₀ A F o p ts target ds (.ref It) [It] fp St where
  frame:=T.w.frame
  fp:=fun b hb=>by
    rcases T.fp b hb with rfl | h
    · exact .inl (.head _)
    · exact .inr h
  ex:=fun i h st=>(dM (T.ex i h st))
  item:=fun i s p' as mu loc l1 d Q E hd hst I sp e K=>by
    have hlt:i < ds.length:=(List.getElem?_eq_some_iff.mp hd).1
    refine T.w.item i s _ _ hlt hst fun v h' tk hpr hst1 hk=>?_
    have I1:=I.swap (h':=h') (tk:=tk) ((dM (hl))) ((dM (T.ex i _ hst))) hc fun b hb ob e=>hk b ob hb e
    have dr:DRel X p' d v:=(T.val i v d hpr hd).mono sp
    refine T.go (i+1) _ target v _ _ hst1 (oH hh ht e I1 dr fun s2 I2=>?_)
    obtain ⟨ob1,hIt1⟩:=T.ex _ _ hst1
    have has1:∀ a ∈ [It],∃ ob,h'.get? a=some ob:=(dM (⟨_,hIt1⟩))
    have I3:=I2.swap (h':=s2.heap) (tk:=s2.toks) ((dM (hl))) has1 hc fun b Z ob e=>e
    refine K s2 I3 (T.w.frame _ _ _ hst1 fun b hb ob e=>?_)
    rcases T.fp b hb with rfl | hb
    · exact I2.ole _ _ ((dx (.head _)).trans e)
    · refine xe1 (Option.isSome_iff_exists.mp hb) fun ob2 q=>?_
      have q2:=I1.ple _ _ (sp _ _ q)
      rw [show h'.get? b=some ob from e] at q2; (replace q2:=iS q2; rw [q2])
      exact I2.ple _ _ (sp _ _ q)
  done:=fun s p' as mu loc Q E hst I sp K=>by
    refine T.w.done s _ _ hst fun h' tk hk=>?_
    obtain ⟨I1,al⟩:=I.unhold ((dM (hl))) ((dM (T.ex _ _ hst))) hc
    exact K _ ((I1.alien (l:=[It]) (fun a ha=>(al a ha).1) fun b hb ob e=>hk b ob hb e).tok tk)
theorem Hy {ts:List Nat} {it:CE} {b:CSs} (hX:AmbOK X P) (hC:cq X s₀ C n) (hb:jJ X s₀ C n b):iw X s₀ C n (.for_ ts it b):=fun kd F x A o p as mu mu' loc loc' s fl Q E hm hA hR I e K=>by
  refine hm (fun x=>wpAny (model X.prog X.w) A (exec x F.env) Q E s) fun t iter body pos ht h1 h2=>?_
  rw [DN] at e
  refine bK e fun x1 m1 e1 f1=>?_
  clear e
  refine bh f1 fun xs e2 e3=>?_
  clear f1
  have hns:=h1.nset e1
  refine wpAny_For (aG hX hC _ h1 hA hR I e1 fun p1 bv s1 u1 sp1 sa1 I1 r1=>?_) (fun x=>by cases iter <;> first | rfl | exact (iP hns))
  cases x1 with
  | r k=>exact nS e2
  | clo k=>exact nS e2
  | d d =>
    refine uR e2 hR.hand I1 r1 fun It ob fp Pr St eIt hf T hst=>?_
    subst eIt
    have al:=I1.fresh_of (Nat.le_refl _)
    have I2:=I1.push ob
    have hc:∀ x c,F.env.cells.lookup x=some c→c ∉ [s1.heap.objs.size]:=fun x c hx hm=>I2.no_cell (show cJ X o p1 bv m1 F _ from al) x c hx (by simpa using hm)
    have IH:=I2.hold (l:=[s1.heap.objs.size]) (dM (al))
    have hl:∀ a ∈ [s1.heap.objs.size],o a=none:=(dM (al.2.1))
    exact sI (T.turns hR.hand (ht.okn hA) al.2.1 hc) hb h2 hA hR IH hst hl hc e3 (fun p' as' s' f a b c d=>K p' as' s' f (sp1.trans a) (sa1.trans b) c d) fun f s' q=>q
mutual
theorem Ie (hX:AmbOK X P) (hC:cq X s₀ C n):∀ c:CS,(∀ i j it b,jJ X s₀ C n b→iw X s₀ C n (.forEnum i j it b))→iw X s₀ C n c
  | .any,_=>fun kd F x A o p as mu mu' loc loc' s fl Q E hm hA hR I e K=>by rw [Gi] at e; exact nS e
  | .asg i e,_=>H4 hX hC
  | .unp is e,_=>Hg hX hC
  | .multi is es,_=>DO hX hC
  | .sett o i v,_=>Gw hX hC
  | .seta o f v,_=>Ga hX hC
  | .ifs c a b,h=>Hw hX hC (rh hX hC a h) (rh hX hC b h)
  | .ret e,_=>HW hX hC
  | .expr e,_=>E7 hX hC
  | .for_ ts it b,h=>Hy hX hC (rh hX hC b h)
  | .forEnum i j it b,h=>h i j it b (rh hX hC b h)
theorem rh (hX:AmbOK X P) (hC:cq X s₀ C n):∀ c:CSs,(∀ i j it b,jJ X s₀ C n b→iw X s₀ C n (.forEnum i j it b))→jJ X s₀ C n c
  | .nil,_=>fun kd F l A o p as mu mu' loc loc' s fl Q E hm hA hR I e K=>by
    refine hm (fun l=>wpAny (model X.prog X.w) A (execs l F.env) Q E s) ?_
    rw [D3] at e; replace K:=Kf.eqS K e; exact wpAny_execs_nil (K p as s .next Sub.refl (List.prefix_refl _) I rfl)
  | .cons c r,h=>fun kd F l A o p as mu mu' loc loc' s fl Q E hm hA hR I e K=>by
    refine hm (fun l=>wpAny (model X.prog X.w) A (execs l F.env) Q E s) fun Z Z h1 h2=>?_
    rw [AY] at e
    refine bh e fun q0_ e1 e2=>?_
    clear e
    obtain ⟨f1,l1,m1⟩:=q0_
    dsimp only at e2
    refine wpAny_execs_cons (Ie hX hC c h h1 hA hR I e1 fun p1 bv s1 f sp1 sa1 I1 fr=>?_)
    cases f1 with
    | next =>
      have fr:f=.next:=fr
      rw [fr]
      exact rh hX hC r h h2 hA hR I1 e2 fun p' as' s' f a b c d=>K p' as' s' f (sp1.trans a) (sa1.trans b) c d
    | ret v =>
      obtain ⟨w,rfl,vr⟩:=fr
      replace K:=Kf.eqS K e2
      exact K p1 bv s1 (.ret w) sp1 sa1 I1 ⟨w,rfl,vr⟩
end
end Mine.Internal
namespace Mine.Internal
section
variable {prog:Program} {w:World} {A:Around} {E:Value→Shared→Prop} {s:Shared}
theorem D8 {α:Type} {x:α} {Q:α→Shared→Prop} (h:∀ b,Q b s):wpAny (model prog w) A (pure x) Q E s:=wpAny_pure (h x)
set_option maxHeartbeats 1000000 in
theorem z5 (l:Addr) (items:Array Value) (n:Nat) :
    Meets (Builtin.«enumerate.__new__» ⟨[.type "enumerate", .ref l],[]⟩) (fun Z R s=>s.heap.get? l=some (d8 items n) ∧
      R (.ok (.ret (.ref (s.heap.push { cls:=.type "tuple_iterator", data:=.fields #[.ref l,.int 0 0] }).objs.size)))
        { s with heap:=(s.heap.push { cls:=.type "tuple_iterator", data:=.fields #[.ref l,.int 0 0] }).push { cls:=.type "enumerate", data:=.fields #[.none,.bool false,.ref s.heap.objs.size,rawInt 0,.none,.none] } }) :=
  .of_wp fun prog w A R s h=>by
    obtain ⟨hp,g,d,tk,os⟩:=s; obtain ⟨hl,h⟩:=h
    have hsub:=sub_enumerate
    have hL:IsTup (Shared.heap ⟨hp,g,d,tk,os⟩) l items:=⟨_,hl,rfl,n,rfl⟩
    wp_walk using AutoSeq1.wpAny_loadPart' hl
    refine wpAny_stack_any fun st=>D8 fun b=>?_
    cases b
    · wp_walk using AutoSeq1.wpAny_loadPart' hl,iter_tuple hL
      exact ⟨_,rfl,h⟩
    · wp_walk using AutoSeq1.wpAny_loadPart' hl,iter_tuple hL
      exact ⟨_,rfl,h⟩
theorem xD {l:Addr} {items:Array Value} {n:Nat} {Q:Value→Shared→Prop} (hL:s.heap.get? l=some (d8 items n))
    (h:∀ h',IsEnum h' (s.heap.objs.size+1) s.heap.objs.size 0 .none→h'.IsTupleIter s.heap.objs.size l 0→h'.objs.size=s.heap.objs.size+2 →
      (∀ b o,s.heap.get? b=some o→h'.get? b=some o)→Q (.ref (s.heap.objs.size+1)) { s with heap:=h' }) :
    wpAny (model prog w) A (call (.type "enumerate") [.ref l]) Q E s:=by
  refine callType_new PySem.F.called_enumerate (by decide) (PySem.F.typeCall_enumerate_1 _) (PySem.F.newCall_enumerate_1 _) (fun obj=>PySem.F.args_object_init_2 obj _) PySem.F.entry_enumerate_new (z5 l items n) ⟨hL,?_⟩
  have hz:(s.heap.push { cls:=.type "tuple_iterator", data:=.fields #[.ref l,.int 0 0] }).objs.size=s.heap.objs.size+1:=Heap.size_push ..
  show _∧_
  rw [hz]
  have he:IsEnum ((s.heap.push { cls:=.type "tuple_iterator", data:=.fields #[.ref l,.int 0 0] }).push
      { cls:=.type "enumerate", data:=.fields #[.none,.bool false,.ref s.heap.objs.size,rawInt 0,.none,.none] }) (s.heap.objs.size+1) s.heap.objs.size 0 .none:=by
    have:=Heap.get?_push_size (s.heap.push { cls:=.type "tuple_iterator", data:=.fields #[.ref l,.int 0 0] })
      (o:={ cls:=.type "enumerate", data:=.fields #[.none,.bool false,.ref s.heap.objs.size,rawInt 0,.none,.none] }) rfl
    rw [hz] at this; exact this
  exact ⟨⟨_,he,rfl⟩,h _ he ⟨_,Heap.get?_push_of_some _ (Heap.get?_push_size _ rfl),rfl,rfl⟩ (by rw [Heap.size_push,hz]) fun b o x=>Heap.get?_push_of_some _ (Heap.get?_push_of_some _ x)⟩
theorem wp {it l:Addr} {i:Nat} {items} {x:Value} {Q:Value→Shared→Prop} (hit:s.heap.IsTupleIter it l i) (hl:s.heap.IsTuple l items) (hx:items[i]? = some x)
    (hQ:∀ h',h'.IsTupleIter it l (i+1)→Heap.SameBut it s.heap h'→Q x { s with heap:=h' }) :
    wpAny (model prog w) A (Builtin.SmallTypes.nextOf (.ref it)) Q E s:=by
  obtain ⟨o,ho,hc,hd⟩:=id hit
  obtain ⟨ol,hol,_,nl,hdl⟩:=hl
  unfold Builtin.SmallTypes.nextOf
  refine wpAny_bind (wpAny_callSpecial?_slot (name:=Str.ofString "__next__") hit.typeIs PySem.F.slot_tuple_iterator_next
    (wpAny_call_entry PySem.F.slot_tuple_iterator_next hit.typeIs PySem.F.entry_tuple_iterator_next ?_ (PySem.F.args_tuple_iterator_next_1 _)))
  show wpAny _ _ (field (.ref it) 0 >>= _) _ _ s
  refine wpAny_bind (wpAny_field ho hd (x:=.ref l) rfl ?_)
  show wpAny _ _ (if (Value.ref l == Value.none)=true then _ else _) _ _ s
  rw [if_neg (show ¬ ((Value.ref l == Value.none)=true) from Bool.false_ne_true)]
  show wpAny _ _ (field (.ref it) 1 >>= _) _ _ s
  refine wpAny_bind (wpAny_field ho hd (x:=.int i 0) rfl ?_)
  show wpAny _ _ (seqItems? (.ref l) >>= _) _ _ s
  refine wpAny_bind (wpAny_seqItems hol hdl ?_)
  simp only [Int.toNat_natCast,hx]
  refine wpAny_bind (wpAny_setField ho hd (by simp) (wpAny_pure ⟨x,rfl,wpAny_pure (hQ _ ?_ (Heap.SameBut.update ..))⟩))
  exact ⟨_,Heap.get?_update_self _ ho (Obj.isFreed_of_fields (Obj.data_mapFields hd _)),(Obj.cls_mapFields ..).trans hc,by
    rw [Obj.data_mapFields hd]; simp [rawInt]⟩
theorem yo {it l:Addr} {i:Nat} {items} {Q:Value→Shared→Prop} (hh:A.handled=none) (hit:s.heap.IsTupleIter it l i) (hl:s.heap.IsTuple l items) (hx:items[i]? = none)
    (hE:∀ h' e,Heap.ExtBut it s.heap h'→(∃ o,h'.get? e=some o∧o.cls=.type "StopIteration")→E (.ref e) { s with heap:=h' }) :
    wpAny (model prog w) A (Builtin.SmallTypes.nextOf (.ref it)) Q E s:=by
  obtain ⟨o,ho,hc,hd⟩:=id hit
  obtain ⟨ol,hol,_,nl,hdl⟩:=hl
  unfold Builtin.SmallTypes.nextOf
  refine wpAny_bind (wpAny_callSpecial?_slot (name:=Str.ofString "__next__") hit.typeIs PySem.F.slot_tuple_iterator_next
    (wpAny_call_entry PySem.F.slot_tuple_iterator_next hit.typeIs PySem.F.entry_tuple_iterator_next ?_ (PySem.F.args_tuple_iterator_next_1 _)))
  show wpAny _ _ (field (.ref it) 0 >>= _) _ _ s
  refine wpAny_bind (wpAny_field ho hd (x:=.ref l) rfl ?_)
  show wpAny _ _ (if (Value.ref l == Value.none)=true then _ else _) _ _ s
  rw [if_neg (show ¬ ((Value.ref l == Value.none)=true) from Bool.false_ne_true)]
  show wpAny _ _ (field (.ref it) 1 >>= _) _ _ s
  refine wpAny_bind (wpAny_field ho hd (x:=.int i 0) rfl ?_)
  show wpAny _ _ (seqItems? (.ref l) >>= _) _ _ s
  refine wpAny_bind (wpAny_seqItems hol hdl ?_)
  simp only [Int.toNat_natCast,hx]
  refine wpAny_bind (wpAny_rule (wpAny_bind (wpAny_setField ho hd (by simp) ?_)))
  show wpAny _ _ (newExc (.type "StopIteration") [] >>= _) _ _ _
  refine wpAny_bind ?_
  simp only [newExc,newTuple]
  refine wpAny_bind (wpAny_newObj_type ?_ (by size_fits))
  refine wpAny_bind (m:=firstArgMember _ _) (wpAny_of_eq (a:=Value.none) (by first | rfl | (simp only [firstArgMember]; rfl)) ?_)
  refine wpAny_newObj_type ?_ (by size_fits)
  simp only [raiseNew]
  refine wpAny_bind (wpAny_handled ?_)
  first | rw [show A.in1.handled=none from hh] | rw [hh]
  refine wpAny_bind (wpAny_pure (wpAny_throw ?_))
  exact hE _ _ (((Heap.SameBut.update ..).extBut.push _).push _) ⟨_,Heap.get?_push_size _ rfl,rfl⟩
theorem Ey (hh:A.handled=none) (it l:Addr) (hne:l ≠ it) (items:Array Value) :
    Draws prog w A it [it,l] items.size (fun i v=>items[i]? = some v) (fun i h=>h.IsTupleIter it l i∧h.IsTuple l items) where
  live:=fun Z Z st=>let ⟨o,ho,_⟩:=st.1; ⟨o,ho⟩
  frame:=fun Z Z Z st hk=>⟨let ⟨o,ho,r⟩:=st.1; ⟨o,hk it (by simp) o ho,r⟩,let ⟨o,ho,r⟩:=st.2; ⟨o,hk l (by simp) o ho,r⟩⟩
  item:=fun i s Q E hi st hQ=>by
    refine wp st.1 st.2 (x:=items[i]) (by simp [hi]) fun h' hit' hs'=>?_
    exact hQ _ h' s.toks (by simp [hi]) ⟨hit',let ⟨o,ho,r⟩:=st.2; ⟨o,hs'.extBut l o hne ho,r⟩⟩ hs'
  done:=fun s Q E st hE=>yo hh st.1 st.2 (by simp) hE
end
end Mine.Internal
namespace Mine.Internal
variable {X:Amb} {P:Fn→FDef} {s₀:Shared} {n:Nat} {C:Calls}
theorem rH:∀ (ds:List Dat) (k i:Nat) (d:Dat),(iG ds k)[i]? = some d→∃ x,ds[i]? = some x∧d=.tup [.int ((k+i:Nat):Int),x]
  | [],k,i,d,e=>by rw [Cv] at e; simp at e
  | x::ds,k,0,d,e=>by rw [zS] at e; simp only [List.getElem?_cons_zero,Option.some.injEq] at e; exact ⟨x,rfl,e.symm⟩
  | x::ds,k,i+1,d,e=>by
    rw [zS] at e
    obtain ⟨y,h1,h2⟩:=rH ds (k+1) i d (by simpa using e)
    exact ⟨y,by simpa using h1,by rw [h2]; congr 4; exact ad1⟩
theorem nA:∀ (ds:List Dat) (k:Nat),(iG ds k).length=ds.length
  | [],_=>rfl
  | x::ds,k=>by rw [zS,List.length_cons,List.length_cons,nA ds]
theorem yG {A:Around} {F:Fm} {o p:aw} {i j:Nat} {target:Expr} {ds:List Dat} {e it:Addr} {fp:List Addr} {Pr:Nat→Value→Prop} {St:Nat→Heap→Prop} (hh:A.handled=none) (ht:MtT F.names (iT F) [i,j] target) (hl:∀ a ∈ [e,it],o a=none) (hc:∀ x c,F.env.cells.lookup x=some c→c ∉ [e,it])
    (D:Draws X.prog X.w A.in1 it fp ds.length Pr St) (hei:e ≠ it) (hef:e ∉ fp) (hif:it ∈ fp) (hfp:∀ b ∈ fp,b=it∨(p b).isSome) (hv:∀ i v d,Pr i v→ds[i]? = some d→DRel X p d v) :
    Turns X s₀ A F o p [i,j] target (iG ds 0) (.ref e) [e,it] (e::fp) (fun (i:Nat) h=>(∃ old,IsEnum h e it (i:Int) old)∧St i h):=by
  have W:=WalksT.enumerateD D e hei hef hif
  have hz:=nA ds 0
  have has:∀ (i:Nat) h,((∃ old,IsEnum h e it (i:Int) old)∧St i h)→∀ a ∈ [e,it],∃ ob,h.get? a=some ob:=fun i h st a ha=>by
    rcases List.mem_cons.mp ha with rfl | ha
    · obtain ⟨⟨old,h1⟩,_⟩:=st; exact ⟨_,h1⟩
    · rw [List.mem_singleton] at ha; rw [ha]; exact D.live _ _ st.2
  refine ⟨W.frame,fun b hb=>?_,has,fun i' s p' as mu loc l1 d Q E hd hst I sp eb K=>?_,fun s p' as mu loc Q E hst I sp K=>?_⟩
  · rcases List.mem_cons.mp hb with hq_ | hb
    · rw [hq_]; exact .inl (.head _)
    · rcases hfp b hb with rfl | h
      · exact .inl (.tail _ (.head _))
      · exact .inr h
  · have hlt:i' < ds.length:=by have:=(List.getElem?_eq_some_iff.mp hd).1; exact Cj this hz
    refine xe1 (rH ds 0 i' d hd) fun x r_=>aO r_ fun hx e2_=>?_
    subst e2_
    refine W.item i' s _ _ hlt hst fun T vals h' tk hpr hT hTup hmid hk=>?_
    obtain ⟨t,xv,hpx,rfl⟩:=hpr
    have I1:=I.swap (h':=h') (tk:=tk) hl (has _ _ hst) hc fun b hb ob e=>hk b ob hb e
    obtain ⟨l,k,pos,rfl,hm⟩:=ht.more (fun t h=>by cases h)
    refine W.go l k pos i' T _ _ _ hmid fun h2 hst2 hk2=>?_
    have has1:∀ a ∈ [e,it],∃ ob,h'.get? a=some ob:=fun a ha=>by
      obtain ⟨⟨xx,h1⟩,h2,_⟩:=hmid
      rcases List.mem_cons.mp ha with hq_ | ha
      · rw [hq_]; exact ⟨_,h1⟩
      · rw [List.mem_singleton] at ha; rw [ha]; exact D.live _ _ h2
    have I2:=I1.swap (h':=h2) (tk:=tk) hl has1 hc fun b hb ob e=>hk2 b ob hb e
    have hT2:IsTup h2 T #[.int (i':Int) t,xv]:=by
      obtain ⟨ob,q,r⟩:=hTup
      exact ⟨ob,hk2 T ob (W.apart _ _ _ hmid) q,r⟩
    have dr:DRel X p' x xv:=(hv i' xv x hpx hx).mono sp
    have e3:ai [i,j] [.d (.int ((0+i':Nat):Int)),.d x] loc=some l1:=by
      exact (kI (show (if [i,j].length=[Dat.int ((0+i':Nat):Int),x].length then ai [i,j] [.d (.int ((0+i':Nat):Int)),.d x] loc else none)=some l1 from eb)).2
    refine oh hh hm e3 rfl I2 hT2 ⟨_,_,rfl,by rw [Nat.zero_add]; exact eE,xv,[],rfl,dr,rfl⟩ fun s' I3=>?_
    have has2:=has _ _ hst2
    have I4:=I3.swap (h':=s'.heap) (tk:=s'.toks) hl has2 hc fun b Z ob e=>e
    refine K s' I4 (W.frame _ _ _ hst2 fun b hb ob eb'=>?_)
    have:b ∈ [e,it]∨(p b).isSome:=by
      rcases List.mem_cons.mp hb with hq_ | hb
      · rw [hq_]; exact .inl (.head _)
      · rcases hfp b hb with rfl | h
        · exact .inl (.tail _ (.head _))
        · exact .inr h
    rcases this with hb | hb
    · exact I3.ole _ _ ((dx hb).trans eb')
    · refine xe1 (Option.isSome_iff_exists.mp hb) fun ob2 q=>?_
      have q2:=I2.ple _ _ (sp _ _ q)
      rw [show h2.get? b=some ob from eb'] at q2; (replace q2:=iS q2; subst q2)
      exact I3.ple _ _ (sp _ _ q)
  · rw [hz] at hst
    refine W.done s _ _ hst fun h' tk hk=>?_
    obtain ⟨I1,al⟩:=I.unhold hl (has _ _ hst) hc
    exact K _ ((I1.alien (l:=[e,it]) (fun a ha=>(al a ha).1) fun b hb ob e=>hk b ob hb e).tok tk)
theorem Dg {A:Around} {o p:aw} {as:As} {mu:Mu} {F:Fm} {loc:ae} {s:Shared} {E Q:Value→Shared→Prop} {d:Dat} {ds:List Dat} {u:Value} (e:ky (.d d)=some ds) (hh:A.handled=none) (I:Inv X s₀ o p as mu F loc s) (r:DRel X p d u)
    (K:∀ h' fp Pr St,Draws X.prog X.w A.in1 s.heap.objs.size fp ds.length Pr St→s.heap.objs.size ∈ fp→(∀ b ∈ fp,b=s.heap.objs.size∨(p b).isSome)→(∀ i v d,Pr i v→ds[i]? = some d→DRel X p d v)→IsEnum h' (s.heap.objs.size+1) s.heap.objs.size 0 .none→St 0 h'→(∀ b ob,s.heap.get? b=some ob→h'.get? b=some ob) →
      Q (.ref (s.heap.objs.size+1)) { s with heap:=h' }):wpAny (model X.prog X.w) A (call (.type "enumerate") [u]) Q E s:=by
  have hh':A.in1.handled=none:=hh
  cases d with
  | lst xs =>
    cases e
    refine RSeq.el (iR (as:=as) (show VRel X p as (.d (.lst _)) u from r)) fun a vs m e3_ h1 h2=>?_
    subst e3_
    have hz:ds.length=vs.size:=by simpa using h2.length
    have hne:a ≠ s.heap.objs.size:=Nat.ne_of_lt (Heap.lt_size (I.ple _ _ h1))
    refine call_enumerate_list (items:=vs) ⟨_,I.ple _ _ h1,rfl,m,rfl⟩ fun h' he hit hsz hk=>?_
    refine K h' [s.heap.objs.size,a] _ _ (hz ▸ Draws.list hh' s.heap.objs.size a hne vs) (.head _) (fun b hb=>?_) (fun i v d hv hd=>?_) he ⟨hit,⟨_,hk _ _ (I.ple _ _ h1),rfl,m,rfl⟩⟩ hk
    · rcases List.mem_cons.mp hb with hq_ | hb
      · rw [hq_]; exact .inl rfl
      · rw [List.mem_singleton] at hb; rw [hb]; exact .inr (by rw [h1]; rfl)
    · obtain ⟨u,hu,dr⟩:=h2.get.2 i d hd
      have hv:vs[i]? = some v:=hv
      rw [Array.getElem?_toList,hv] at hu; (replace hu:=iS hu; subst hu); exact dr
  | tup xs =>
    cases e
    refine RSeq.el (fX (as:=as) (show VRel X p as (.d (.tup _)) u from r)) fun a vs m e3_ h1 h2=>?_
    subst e3_
    have hz:ds.length=vs.size:=by simpa using h2.length
    have hne:a ≠ s.heap.objs.size:=Nat.ne_of_lt (Heap.lt_size (I.ple _ _ h1))
    refine xD (I.ple _ _ h1) fun h' he hit hsz hk=>?_
    refine K h' [s.heap.objs.size,a] _ _ (hz ▸ Ey hh' s.heap.objs.size a hne vs) (.head _) (fun b hb=>?_) (fun i v d hv hd=>?_) he ⟨hit,⟨_,hk _ _ (I.ple _ _ h1),rfl,m,rfl⟩⟩ hk
    · rcases List.mem_cons.mp hb with hq_ | hb
      · rw [hq_]; exact .inl rfl
      · rw [List.mem_singleton] at hb; rw [hb]; exact .inr (by rw [h1]; rfl)
    · obtain ⟨u,hu,dr⟩:=h2.get.2 i d hd
      have hv:vs[i]? = some v:=hv
      rw [Array.getElem?_toList,hv] at hu; (replace hu:=iS hu; subst hu); exact dr
  | _=>exact nS e
theorem ro {i j:Nat} {it:CE} {b:CSs} (hX:AmbOK X P) (hC:cq X s₀ C n) (hb:jJ X s₀ C n b):iw X s₀ C n (.forEnum i j it b):=fun kd F x A o p as mu mu' loc loc' s fl Q E hm hA hR I e K=>by
  refine hm (fun x=>wpAny (model X.prog X.w) A (exec x F.env) Q E s) fun t iter body q1 q2 pos ht hk h1 h2=>?_
  rw [xC] at e
  refine bK e fun x1 m1 e1 f1=>?_
  clear e
  refine bh f1 fun xs e2 e3=>?_
  clear f1
  have hst:=Dl h1 e1
  refine wpAny_For (Call_ (qN hX I ((hA _).2.1 hk) hX.enm (by decide +kernel) ?_) rfl) (fun x=>rfl)
  rw [cG (iX hst),c7]
  refine PySem.callWith_type d5 (ez (qU (aG hX hC _ h1 hA hR I e1 fun p1 bv s1 u1 sp1 sa1 I1 r1=>?_)))
  cases x1 with
  | r k=>exact nS e2
  | clo k=>exact nS e2
  | d d =>
    refine Dg e2 hR.hand I1 r1 fun h' fp Pr St D hif hfp hv he hst0 hk'=>?_
    refine wpAny_pyIter_enum he ?_
    have al1:=I1.fresh_of (a:=s1.heap.objs.size) (Nat.le_refl _)
    have al2:=I1.fresh_of (a:=s1.heap.objs.size+1) (Nat.le_succ _)
    have I2:=I1.keeps hk'
    have al:∀ a ∈ [s1.heap.objs.size+1,s1.heap.objs.size],cJ X o p1 bv m1 F a:=tY (al2) (al1)
    have hc:∀ x c,F.env.cells.lookup x=some c→c ∉ [s1.heap.objs.size+1,s1.heap.objs.size]:=fun x c hx hm=>I2.no_cell (al c hm) x c hx rfl
    have IH:=I2.hold al
    have hl:∀ a ∈ [s1.heap.objs.size+1,s1.heap.objs.size],o a=none:=fun a ha=>(al a ha).2.1
    have hef:s1.heap.objs.size+1 ∉ fp:=fun hm=>by
      rcases hfp _ hm with q | q
      · exact absurd q (Nat.succ_ne_self _)
      · rw [al2.1] at q; cases q
    exact sI (yG hR.hand (ht.okn hA) hl hc D (Nat.succ_ne_self _) hef hif hfp hv) hb h2 hA hR IH ⟨⟨_,he⟩,hst0⟩ hl hc e3 (fun p' as' s' f a b c d=>K p' as' s' f (sp1.trans a) (sa1.trans b) c d) fun f s' q=>q
theorem Lw (hX:AmbOK X P) (hC:cq X s₀ C n) (c:CS):iw X s₀ C n c:=Ie hX hC c fun i j it b hb=>ro hX hC hb
theorem yU (hX:AmbOK X P) (hC:cq X s₀ C n) (c:CSs):jJ X s₀ C n c:=rh hX hC c fun i j it b hb=>ro hX hC hb
end Mine.Internal
namespace Mine.Internal
variable {X:Amb} {P:Fn→FDef} {s₀:Shared}
theorem vi (hX:AmbOK X P):∀ n,cq X s₀ (an P n) n
  | 0=>fun f vs us A o p as mu mu' F loc s v Q E hR I r e K=>by exact nS e
  | n+1=>fun f vs us A o p as mu mu' F loc s v Q E hR I r e K=>by
    obtain ⟨fd,body,hK,hm⟩:=hX.fn f
    rw [CG] at e
    dsimp only at e
    split at e
    · rename_i hc
      refine bh e fun q0_ e1 e2=>?_
      clear e
      obtain ⟨fl,l2,m2⟩:=q0_
      refine Bl hX.lim hK hR.room I r hc.1 hc.2 fun F' p' s' hn hsc hwr hfz hcd sp I'=>?_
      have hA:Agree F'.env (cz fd.scope):=fun x=>by
        have:F'.env.kindOf x=cz fd.scope x:=by unfold Env.kindOf cz; rw [hsc]
        rw [this]
        exact ⟨id,id,id,.inr⟩
      rw [← hn,← hwr,← hfz] at hm
      have e1':=e1
      refine yU hX (vi hX n) (P f).body hm hA (hR.rm F'.env) I' e1 fun p2 eV s2 fw sp2 sa2 I2 fr=>?_
      have I3:=I.leave (o':=o) I2 (sp.trans sp2) sa2
      have fin:∀ (vv:Val) (w:Value),VRel X p2 eV vv w→cD (P f).cut mu.length vv m2=some (v,mu')→Q w s2:=fun vv w vr e2=>by
        unfold cD at e2
        split at e2
        · split at e2
          · rename_i hok
            rw [Bool.and_eq_true] at hok
            (refine dy e2 fun h1_ h2_=>?_; subst h1_; subst h2_)
            rw [← I.len] at hok
            have hl:mu.length=as.length:=I.len.symm
            refine K p2 as s2 _ (sp.trans sp2) (List.prefix_refl _) ?_ ?_
            · rw [hl]; exact I3.cut (I.leave_fr (o':=o) I2 (sp.trans sp2)) sa2 hok.2
            · exact (vr.cut (as:=[]) List.nil_prefix hok.1).mono Sub.refl List.nil_prefix
          · exact nS e2
        · (refine dy e2 fun h1_ h2_=>?_; subst h1_; subst h2_)
          exact K p2 eV s2 _ (sp.trans sp2) sa2 I3 vr
      cases fl with
      | next=>have fr:fw=.next:=fr; subst fr; exact fin _ _ hZ e2
      | ret v=>obtain ⟨w,rfl,h⟩:=fr; exact fin _ _ h e2
    · exact nS e
end Mine.Internal
namespace Mine.Internal
section
variable {X:Amb} {s₀ s:Shared} {o p:aw}
structure Inv0 (X:Amb) (s₀:Shared) (p:aw) (s:Shared):Prop where
  sh:∃ tk,s={ s₀ with heap:=s.heap,toks:=tk }
  base:Sub X.H₀.get? p
  ple:Sub p s.heap.get?
  tab:p X.tab=none
  tb:∃ ps,s.heap.get? X.tab=some (tabObj ps)∧TabOK X p ps
noncomputable abbrev Hb:aw:=fun Z=>none
theorem yr {prog:Program} {w:World} {A:Around} {R:Result→Shared→Prop} {d:FDef} {a:Addr} {fd:FuncData} {body:List Stmt} {vs:List Val} {us:List Value}
    (hX:X.H₀.NoLimit) (K:FnOK X d a fd body) (hr:A.depth < recursionLimit) (I:Inv0 X s₀ p s) (hv:VRels X p [] vs us) (h1:vs.length≤d.params) (h2:d.params - vs.length≤d.dflts.length)
    (h:∀ F' p' s',F'.names=d.strs→F'.env.scope=fd.scope→F'.wr=d.wr.map Str.ofString→F'.fz=d.fz.map Str.ofString→F'.env.code=fd.code→Sub p p' →
      Inv X s₀ Hb p' [] [] F' ((vs++((d.dflts.drop (d.dflts.length - (d.params - vs.length))).map Val.d)).map some++List.replicate (d.names.length - d.params) none) s' →
      wpAny (model prog w) (A.deeper F'.env) (execs body F'.env) (fun f s''=>R (.ok (.ret (match f with | .ret v=>v | _=>.none))) s'') (fun Z Z=>False) s') :
    codeAny (model prog w) A (.call (.ref a) ⟨us,[]⟩) R s:=by
  obtain ⟨ob,ho,hdat⟩:=K.at_
  have keep:∀ b ob,X.H₀.get? b=some ob→s.heap.get? b=some ob:=fun b ob e=>I.ple _ _ (I.base _ _ e)
  have lu:=hv.length
  obtain ⟨ds,hds,hb⟩:=K.bind s us keep (by exact yN h1 lu) (by exact Ic h2 lu)
  have hargs:VRels X p [] (vs++((d.dflts.drop (d.dflts.length - (d.params - vs.length))).map Val.d)) (us++ds):=by
    rw [lu]; exact hv.append (VRels.ofD (hds.mono I.base))
  have lds:(d.dflts.drop (d.dflts.length - (d.params - us.length))).length=ds.length:=hds.length
  have la:(us++ds).length=d.params:=by rw [List.length_append,← lds,List.length_drop]; exact IG h1 h2 lu
  have lar:d.args.length=d.params:=by unfold FDef.args FDef.strs; rw [List.length_take,List.length_map]; exact Nat.min_eq_left K.pars
  have ndA:d.args.Nodup:=(List.take_sublist _ _).nodup K.nodup
  have keys:(d.args.zip (us++ds)).map (·.1)=d.args:=oU (by omega)
  have hkind:∀ x ∈ d.args.zip (us++ds),fd.scope.names.lookup x.1=some .local∨(fd.scope.names.lookup x.1=some .cell∧((cellsFrom (s.heap.objs.size+1) fd.scope.names []).lookup x.1).isSome=true):=fun x hx=>by
    have:x.1 ∈ d.args:=by rw [← keys]; exact List.mem_map_of_mem hx
    rcases K.kinds _ this with k | k
    · exact .inl k
    · exact .inr ⟨k,cellsFrom_some _ _ _ (.inl k)⟩
  refine codeAny_call_function hr (keep _ _ ho) hdat K.co K.gen K.body (K.code.keeps keep) (hb _ _ _ _ ?_)
  rw [K.clos]
  refine wpAny_newFunctionEnv_cells K.kind hkind fun env he s' x=>?_
  have hk₁:=x.toInCall.keep
  refine ⟨hX.keeps fun b ob e=>hk₁ b ob (keep b ob e),codeAny_func ?_⟩
  obtain ⟨h₁,tk,rfl,_⟩:=x.done
  have cnd:(env.cells.map (·.1)).Nodup:=by
    rw [he]
    exact cellsFrom_names fd.scope.names 0 (s.heap.objs.size+1) [] [] rfl ▸ K.cnd
  have esc:env.scope=fd.scope:=by rw [he]; rfl
  have eL:env.locals=s.heap.objs.size:=by rw [he]; rfl
  have eC:env.code=fd.code:=by rw [he]; rfl
  have eQ:env.qual=fd.qualname ++ ".<locals>." := by rw [he]; rfl
  have eG:env.globals=mainGlobals:=by rw [he]; exact K.glob
  have eB:env.builtins=builtinsNs:=by rw [he]; exact K.bltn
  have ec:env.cells=cellsFrom (s.heap.objs.size+1) fd.scope.names []:=by rw [he]; rfl
  have lk:∀ {n:Str} {c:Addr},(n,c) ∈ env.cells→env.cells.lookup n=some c:=fun hm=>lookup_of_mem_nodup cnd hm
  have ab:=x.above
  rw [eL] at ab
  have cAt:∀ {n:Str} {c:Addr},(n,c) ∈ env.cells→h₁.IsCell c (bindC env.kindOf (d.args.zip (us++ds)) (fun Z=>none) n):=fun hm=>x.cell _ _ (lk hm)
  let fz:=d.fz.map Str.ofString
  have mfz:∀ {c:Addr},c ∈ gc fz env.cells→∃ n,(n,c) ∈ env.cells∧n ∈ fz:=fun hc=>by
    refine xe1 (List.mem_map.mp hc) fun q r_=>aO r_ fun hq e2_=>?_
    subst e2_
    have:=List.mem_filter.mp hq
    exact ⟨q.1,this.1,of_decide_eq_true this.2⟩
  have mno:∀ {c:Addr},c ∈ pB fz env.cells→∃ n,(n,c) ∈ env.cells∧n ∉ fz:=fun hc=>by
    refine xe1 (List.mem_map.mp hc) fun q r_=>aO r_ fun hq e2_=>?_
    subst e2_
    have:=List.mem_filter.mp hq
    exact ⟨q.1,this.1,of_decide_eq_true this.2⟩
  obtain ⟨ps,et,tt⟩:=I.tb
  have tlt:X.tab < s.heap.objs.size:=Heap.lt_size et
  have up:∀ {c:Addr},s.heap.objs.size≤c→p c=none∧c ≠ X.tab:=fun hc=>by
    refine ⟨?_,fun q=>absurd tlt (Nat.not_lt.mpr (q ▸ hc))⟩
    cases q:p _ with
    | none=>rfl
    | some ob=>exact absurd (Heap.lt_size (I.ple _ _ q)) (Nat.not_lt.mpr hc)
  have cUp:∀ {n:Str} {c:Addr},(n,c) ∈ env.cells→s.heap.objs.size≤c:=fun hm=>Nat.le_of_lt (ab _ _ hm)
  let p':=zL p (gc fz env.cells) h₁
  have hp:Sub p p':=fun c ob e=>by
    show (if c ∈ gc fz env.cells then _ else _)=_
    rw [if_neg fun k=>by obtain ⟨n,hm,_⟩:=mfz k; rw [(up (cUp hm)).1] at e; cases e]; exact e
  have apartN:∀ {n n':Str} {c:Addr},(n,c) ∈ env.cells→(n',c) ∈ env.cells→n=n':=fun a b=>name_of_addr x.apart a b
  let F':Fm:=⟨env,s.heap.objs.size::pB fz env.cells,d.strs,d.wr.map Str.ofString,fz⟩
  have own_up:∀ c ∈ F'.own,s.heap.objs.size≤c:=fun c hc=>by
    rcases List.mem_cons.mp hc with rfl | hc
    · exact Nat.le_refl _
    · obtain ⟨n,hm,_⟩:=mno hc; exact cUp hm
  have pdis:∀ c ∈ F'.own,p' c=none:=fun c hc=>by
    show (if c ∈ gc fz env.cells then _ else _)=_
    rw [if_neg fun k=>?_]
    · exact (up (own_up c hc)).1
    · obtain ⟨n,hm,hn⟩:=mfz k
      rcases List.mem_cons.mp hc with rfl | hc
      · exact absurd (ab _ _ hm) (Nat.lt_irrefl _)
      · obtain ⟨n',hm',hn'⟩:=mno hc
        exact hn' (apartN hm hm' ▸ hn)
  refine wpAny_mono (h F' p' _ rfl esc rfl rfl eC hp ⟨?_,I.base.trans hp,fun c ob e=>?_,fun c ob e=>(by exact nS e),fun c e=>rfl,rfl,fun i q m e f=>(by exact nS e),?_,fun c hc=>?_,?_,?_⟩) (fun Z Z z=>z) (fun Z Z z=>z.elim)
  · obtain ⟨tk₀,e⟩:=I.sh
    exact ⟨tk,by rw [e]⟩
  · have e:(if c ∈ gc fz env.cells then h₁.get? c else p c)=some ob:=e
    split at e
    · exact e
    · exact hk₁ _ _ (I.ple _ _ e)
  · refine List.nodup_cons.mpr ⟨fun k=>?_,List.nodup_append.mpr ⟨List.nodup_cons.mpr ⟨fun k=>?_,?_⟩,List.nodup_nil,fun c k c' k' q=>(by cases k')⟩⟩
    · rcases List.mem_append.mp k with k | k
      · exact (up (own_up _ k)).2 rfl
      · cases k
    · obtain ⟨n,hm,_⟩:=mno k
      exact absurd (ab _ _ hm) (Nat.lt_irrefl _)
    · have:=x.apart
      refine List.Pairwise.map _ (fun Z Z h=>h) (List.Pairwise.filter _ ?_)
      exact this
  · rcases List.mem_cons.mp hc with rfl | hc
    · refine ⟨?_,rfl,_,hk₁ _ _ et⟩
      show (if X.tab ∈ gc fz env.cells then _ else _)=_
      rw [if_neg fun k=>?_]
      · exact I.tab
      · obtain ⟨n,hm,_⟩:=mfz k; exact (up (cUp hm)).2 rfl
    · rcases List.mem_append.mp hc with hc | hc
      · refine ⟨pdis c hc,rfl,?_⟩
        rcases List.mem_cons.mp hc with rfl | hc
        · have:=x.toInCall.ns
          rw [eL] at this
          obtain ⟨ob,_,_,e,_⟩:=this
          exact ⟨ob,e⟩
        · obtain ⟨n,hm,_⟩:=mno hc
          obtain ⟨ob,e,_⟩:=cAt hm
          exact ⟨ob,e⟩
      · cases hc
  · refine ⟨by rw [show F'.env.scope=fd.scope from esc]; exact K.kind,eG,eB,?_,K.nodup,K.plain,by show env.locals ∈ _; rw [eL]; exact .head _,⟨_,x.toInCall.ns,fun i y v hi hl kn=>?_⟩,fun y z c hy hz=>apartN (mem_of_lookup hy) (mem_of_lookup hz),fun y c hy=>?_,fun y c hy=>?_,fun y hy=>?_,fun y hy c hc=>?_,fun y hy=>?_,fun y hy=>?_⟩
    · have:=hargs.length
      simp only [List.length_append,List.length_map,List.length_replicate] at this ⊢
      rw [List.length_append] at la
      show _=d.strs.length
      unfold FDef.strs
      rw [List.length_map]
      have:=K.pars
      omega
    · have hL:(vs++((d.dflts.drop (d.dflts.length - (d.params - vs.length))).map Val.d)).length=d.params:=by rw [hargs.length]; exact la
      have hi':i < d.params:=by
        by_cases k:i < d.params
        · exact k
        · rw [List.getElem?_append_right (by rw [List.length_map,hL]; exact GO k)] at hl
          simp only [List.getElem?_replicate] at hl
          split at hl <;> cases hl
      rw [List.getElem?_append_left (by rw [List.length_map,hL]; exact hi'),List.getElem?_map] at hl
      refine bN hl fun v' hv' e'=>?_
      cases e'
      obtain ⟨u,hu,vr⟩:=hargs.get.2 i v hv'
      have ha:d.args[i]? = some y:=by unfold FDef.args; rw [List.getElem?_take_of_lt hi']; exact hi
      have hm:(y,u) ∈ d.args.zip (us++ds):=um ha hu
      refine ⟨u,?_,vr.mono hp (List.prefix_refl _)⟩
      have nd2:((d.args.zip (us++ds)).map (·.1)).Nodup:=by rw [keys]; exact ndA
      by_cases k:env.kindOf y=some .local
      · exact .inl ⟨k,oK nd2 hm k⟩
      · rcases hkind _ hm with q | ⟨q,z⟩
        · exact absurd (show env.kindOf y=some .local by unfold Env.kindOf; rw [esc]; exact q) k
        · have q':env.kindOf y=some .cell:=by unfold Env.kindOf; rw [esc]; exact q
          refine xe1 (Option.isSome_iff_exists.mp z) fun c hc=>?_
          have hc:env.cells.lookup y=some c:=by rw [ec]; exact hc
          exact .inr ⟨.inl q',c,hc,by have:=cAt (mem_of_lookup hc); rw [oV nd2 hm k] at this; exact this⟩
    · show c ≠ env.locals
      rw [eL]; exact Nat.ne_of_gt (ab _ _ (mem_of_lookup hy))
    · refine ⟨⟨_,cAt (mem_of_lookup hy)⟩,?_⟩
      by_cases k:y ∈ fz
      · refine .inr (.inl ?_)
        obtain ⟨ob,e,_⟩:=cAt (mem_of_lookup hy)
        show (if c ∈ gc fz env.cells then _ else _:Option Obj).isSome=true
        rw [if_pos (ml (mem_of_lookup hy) k),e]; rfl
      · exact .inl (List.mem_cons_of_mem _ (kD (mem_of_lookup hy) k))
    · obtain ⟨q,nf⟩:=K.wr y hy
      have z:(env.cells.lookup y).isSome=true:=by rw [ec]; exact cellsFrom_some _ _ _ (.inl q)
      refine xe1 (Option.isSome_iff_exists.mp z) fun c hc=>?_
      exact ⟨c,by unfold Env.kindOf; rw [show F'.env.scope=fd.scope from esc]; exact q,hc,List.mem_cons_of_mem _ (kD (mem_of_lookup hc) nf)⟩
    · obtain ⟨ob,e,_⟩:=cAt (mem_of_lookup hc)
      show (if c ∈ gc fz env.cells then _ else _:Option Obj).isSome=true
      rw [if_pos (ml (mem_of_lookup hc) hy),e]; rfl
    · obtain ⟨q1,q2⟩:=K.lam y hy
      exact ⟨(show env.code=_ from eC).trans q1,by rw [show F'.env.qual=_ from eQ]; exact q2⟩
    · have hy':fd.scope.names.lookup y=some .cell∨fd.scope.names.lookup y=some .free:=by unfold Env.kindOf at hy; rw [show F'.env.scope=fd.scope from esc] at hy; exact hy
      rcases hy' with q | q
      · rw [show F'.env.cells=_ from ec]; exact cellsFrom_some _ _ _ (.inl q)
      · exact absurd rfl (K.nofree _ (mem_of_lookup q))
  · exact ⟨ps,hk₁ _ _ et,tt.mono hp⟩
theorem Fs {P:Fn→FDef} (hX:AmbOK X P) {A:Around} {n:Nat} {f:Fn} {ds:List Dat} {us:List Value} {b:Bool} {m:Mu} {R:Result→Shared→Prop} (hR:Rc (n+1) A) (h0:Sub X.H₀.get? s.heap.get?) (hn:X.H₀.get? X.tab=none)
    (ht:s.heap.get? X.tab=some (tabObj #[])) (hv:DRels X X.H₀.get? ds us) (e:an P (n+1) f (ds.map .d) []=some (.d (.bool b),m))
    (K:∀ h' tk,(∀ a ob,X.H₀.get? a=some ob→h'.get? a=some ob)→(∃ ps,h'.get? X.tab=some (tabObj ps))→R (.ok (.ret (.bool b))) { s with heap:=h',toks:=tk }) :
    codeAny (model X.prog X.w) A (.call (.ref (X.fn f)) ⟨us,[]⟩) R s:=by
  obtain ⟨fd,body,hK,hm⟩:=hX.fn f
  rw [CG] at e
  dsimp only at e
  split at e
  · rename_i hc
    refine bh e fun q0_ e1 e2=>?_
    obtain ⟨fl,l2,m2⟩:=q0_
    have I:Inv0 X s X.H₀.get? s:=⟨⟨s.toks,rfl⟩,Sub.refl,h0,hn,#[],ht,trivial,fun pos cv h=>by simp [codeAmong] at h⟩
    refine yr hX.lim hK hR.room I (vs:=ds.map .d) (VRels.ofD hv) hc.1 hc.2 fun F' p' s' hn hsc hwr hfz hcd sp I'=>?_
    have hA:Agree F'.env (cz fd.scope):=fun x=>by
      have:F'.env.kindOf x=cz fd.scope x:=by unfold Env.kindOf cz; rw [hsc]
      rw [this]
      exact ⟨id,id,id,.inr⟩
    rw [← hn,← hwr,← hfz] at hm
    refine yU hX (vi hX n) (P f).body hm hA (hR.rm F'.env) I' e1 fun p2 eV s2 fw sp2 sa2 I2 fr=>?_
    have fin:∀ (vv:Val) (w:Value),VRel X p2 eV vv w→cD (P f).cut ([]:Mu).length vv m2=some (.d (.bool b),m)→R (.ok (.ret w)) s2:=fun vv w vr e2=>by
      have:vv=.d (.bool b):=by
        unfold cD at e2
        split at e2
        · split at e2
          · (refine dy e2 fun h1_ h2_=>?_; subst h1_; subst h2_); rfl
          · exact nS e2
        · (refine dy e2 fun h1_ h2_=>?_; subst h1_; subst h2_); rfl
      subst this
      cases iY vr
      obtain ⟨tk,es⟩:=I2.sh
      obtain ⟨ps,et,_⟩:=I2.tb
      rw [es]
      exact K _ tk (fun a ob e=>I2.ple _ _ (I2.base _ _ e)) ⟨ps,et⟩
    cases fl with
    | next=>have fr:fw=.next:=fr; subst fr; exact fin _ _ hZ e2
    | ret v=>obtain ⟨w,rfl,h⟩:=fr; exact fin _ _ h e2
  · exact nS e
end
end Mine.Internal
namespace Mine.Internal
theorem fb {c:Prop} [Decidable c] {f:c→Bool} {G:Prop} (h:(if h:c then f h else false)=true) (g:∀ h:c,f h=true→G):G:=by
  by_cases hc:c
  · rw [dif_pos hc] at h; exact g hc h
  · rw [dif_neg hc] at h; exact (Bool.false_ne_true h).elim
noncomputable def wName (E:Expr) (K:Str→Pos→Bool):Bool:=if h:E.ctorIdx=23 then Expr.Name.elim (motive_1:=fun Z=>Bool) E h K else false
theorem dQ {E:Expr} {K:Str→Pos→Bool} {G:Expr→Prop} (h:wName E K=true) (g:∀ x p,K x p=true→G (.Name x p)):G E :=
  fb h fun h'=>Expr.Name.elim (motive_1:=fun E=>∀ h',Expr.Name.elim (motive_1:=fun Z=>Bool) E h' K=true→G E) E h' (fun x p Z h=>g _ _ h) h'
noncomputable def eU (E:Expr) (K:Const→Nat→Pos→Bool):Bool:=if h:E.ctorIdx=19 then Expr.Constant.elim (motive_1:=fun Z=>Bool) E h K else false
theorem dl {E:Expr} {K:Const→Nat→Pos→Bool} {G:Expr→Prop} (h:eU E K=true) (g:∀ c k p,K c k p=true→G (.Constant c k p)):G E :=
  fb h fun h'=>Expr.Constant.elim (motive_1:=fun E=>∀ h',Expr.Constant.elim (motive_1:=fun Z=>Bool) E h' K=true→G E) E h' (fun c k p Z h=>g _ _ _ h) h'
noncomputable def kt (E:Expr) (K:List Expr→Nat→Pos→Bool):Bool:=if h:E.ctorIdx=25 then Expr.Tuple.elim (motive_1:=fun Z=>Bool) E h K else false
theorem hU {E:Expr} {K:List Expr→Nat→Pos→Bool} {G:Expr→Prop} (h:kt E K=true) (g:∀ l k p,K l k p=true→G (.Tuple l k p)):G E :=
  fb h fun h'=>Expr.Tuple.elim (motive_1:=fun E=>∀ h',Expr.Tuple.elim (motive_1:=fun Z=>Bool) E h' K=true→G E) E h' (fun l k p Z h=>g _ _ _ h) h'
noncomputable def CP (E:Expr) (K:List Expr→Pos→Bool):Bool:=if h:E.ctorIdx=24 then Expr.List.elim (motive_1:=fun Z=>Bool) E h K else false
theorem Ad {E:Expr} {K:List Expr→Pos→Bool} {G:Expr→Prop} (h:CP E K=true) (g:∀ l p,K l p=true→G (.List l p)):G E :=
  fb h fun h'=>Expr.List.elim (motive_1:=fun E=>∀ h',Expr.List.elim (motive_1:=fun Z=>Bool) E h' K=true→G E) E h' (fun l p Z h=>g _ _ h) h'
noncomputable def sR (E:Expr) (K:Expr→Operator→Expr→Pos→Bool):Bool:=if h:E.ctorIdx=2 then Expr.BinOp.elim (motive_1:=fun Z=>Bool) E h K else false
theorem rj {E:Expr} {K:Expr→Operator→Expr→Pos→Bool} {G:Expr→Prop} (h:sR E K=true) (g:∀ x o y p,K x o y p=true→G (.BinOp x o y p)):G E :=
  fb h fun h'=>Expr.BinOp.elim (motive_1:=fun E=>∀ h',Expr.BinOp.elim (motive_1:=fun Z=>Bool) E h' K=true→G E) E h' (fun x o y p Z h=>g _ _ _ _ h) h'
noncomputable def pd (E:Expr) (K:UnaryOp→Expr→Pos→Bool):Bool:=if h:E.ctorIdx=3 then Expr.UnaryOp.elim (motive_1:=fun Z=>Bool) E h K else false
theorem oo {E:Expr} {K:UnaryOp→Expr→Pos→Bool} {G:Expr→Prop} (h:pd E K=true) (g:∀ o x p,K o x p=true→G (.UnaryOp o x p)):G E :=
  fb h fun h'=>Expr.UnaryOp.elim (motive_1:=fun E=>∀ h',Expr.UnaryOp.elim (motive_1:=fun Z=>Bool) E h' K=true→G E) E h' (fun o x p Z h=>g _ _ _ h) h'
noncomputable def mx (E:Expr) (K:Expr→List CmpOp→List Expr→Pos→Bool):Bool:=if h:E.ctorIdx=15 then Expr.Compare.elim (motive_1:=fun Z=>Bool) E h K else false
theorem k8 {E:Expr} {K:Expr→List CmpOp→List Expr→Pos→Bool} {G:Expr→Prop} (h:mx E K=true) (g:∀ x o l p,K x o l p=true→G (.Compare x o l p)):G E :=
  fb h fun h'=>Expr.Compare.elim (motive_1:=fun E=>∀ h',Expr.Compare.elim (motive_1:=fun Z=>Bool) E h' K=true→G E) E h' (fun x o l p Z h=>g _ _ _ _ h) h'
noncomputable def qO (E:Expr) (K:BoolOp→List Expr→Pos→Bool):Bool:=if h:E.ctorIdx=0 then Expr.BoolOp.elim (motive_1:=fun Z=>Bool) E h K else false
theorem pL {E:Expr} {K:BoolOp→List Expr→Pos→Bool} {G:Expr→Prop} (h:qO E K=true) (g:∀ o l p,K o l p=true→G (.BoolOp o l p)):G E :=
  fb h fun h'=>Expr.BoolOp.elim (motive_1:=fun E=>∀ h',Expr.BoolOp.elim (motive_1:=fun Z=>Bool) E h' K=true→G E) E h' (fun o l p Z h=>g _ _ _ h) h'
noncomputable def yp (E:Expr) (K:Expr→Expr→Expr→Pos→Bool):Bool:=if h:E.ctorIdx=5 then Expr.IfExp.elim (motive_1:=fun Z=>Bool) E h K else false
theorem yO {E:Expr} {K:Expr→Expr→Expr→Pos→Bool} {G:Expr→Prop} (h:yp E K=true) (g:∀ x y z p,K x y z p=true→G (.IfExp x y z p)):G E :=
  fb h fun h'=>Expr.IfExp.elim (motive_1:=fun E=>∀ h',Expr.IfExp.elim (motive_1:=fun Z=>Bool) E h' K=true→G E) E h' (fun x y z p Z h=>g _ _ _ _ h) h'
noncomputable def wAttribute (E:Expr) (K:Expr→Str→Pos→Bool):Bool:=if h:E.ctorIdx=20 then Expr.Attribute.elim (motive_1:=fun Z=>Bool) E h K else false
theorem c6 {E:Expr} {K:Expr→Str→Pos→Bool} {G:Expr→Prop} (h:wAttribute E K=true) (g:∀ x s p,K x s p=true→G (.Attribute x s p)):G E :=
  fb h fun h'=>Expr.Attribute.elim (motive_1:=fun E=>∀ h',Expr.Attribute.elim (motive_1:=fun Z=>Bool) E h' K=true→G E) E h' (fun x s p Z h=>g _ _ _ h) h'
noncomputable def jK (E:Expr) (K:Expr→Expr→Pos→Bool):Bool:=if h:E.ctorIdx=21 then Expr.Subscript.elim (motive_1:=fun Z=>Bool) E h K else false
theorem jw {E:Expr} {K:Expr→Expr→Pos→Bool} {G:Expr→Prop} (h:jK E K=true) (g:∀ x y p,K x y p=true→G (.Subscript x y p)):G E :=
  fb h fun h'=>Expr.Subscript.elim (motive_1:=fun E=>∀ h',Expr.Subscript.elim (motive_1:=fun Z=>Bool) E h' K=true→G E) E h' (fun x y p Z h=>g _ _ _ h) h'
noncomputable def zW (E:Expr) (K:Option Expr→Option Expr→Option Expr→Pos→Bool):Bool:=if h:E.ctorIdx=26 then Expr.Slice.elim (motive_1:=fun Z=>Bool) E h K else false
theorem yR {E:Expr} {K:Option Expr→Option Expr→Option Expr→Pos→Bool} {G:Expr→Prop} (h:zW E K=true) (g:∀ x y z p,K x y z p=true→G (.Slice x y z p)):G E :=
  fb h fun h'=>Expr.Slice.elim (motive_1:=fun E=>∀ h',Expr.Slice.elim (motive_1:=fun Z=>Bool) E h' K=true→G E) E h' (fun x y z p Z h=>g _ _ _ _ h) h'
noncomputable def wCall (E:Expr) (K:Expr→List Expr→List Keyword→Pos→Bool):Bool:=if h:E.ctorIdx=16 then Expr.Call.elim (motive_1:=fun Z=>Bool) E h K else false
theorem dJ {E:Expr} {K:Expr→List Expr→List Keyword→Pos→Bool} {G:Expr→Prop} (h:wCall E K=true) (g:∀ f l w p,K f l w p=true→G (.Call f l w p)):G E :=
  fb h fun h'=>Expr.Call.elim (motive_1:=fun E=>∀ h',Expr.Call.elim (motive_1:=fun Z=>Bool) E h' K=true→G E) E h' (fun f l w p Z h=>g _ _ _ _ h) h'
noncomputable def mO (E:Expr) (K:Expr→List Comprehension→Scope→Pos→Bool):Bool:=if h:E.ctorIdx=8 then Expr.ListComp.elim (motive_1:=fun Z=>Bool) E h K else false
theorem np {E:Expr} {K:Expr→List Comprehension→Scope→Pos→Bool} {G:Expr→Prop} (h:mO E K=true) (g:∀ x gs c p,K x gs c p=true→G (.ListComp x gs c p)):G E :=
  fb h fun h'=>Expr.ListComp.elim (motive_1:=fun E=>∀ h',Expr.ListComp.elim (motive_1:=fun Z=>Bool) E h' K=true→G E) E h' (fun x gs c p Z h=>g _ _ _ _ h) h'
noncomputable def uX (E:Expr) (K:Arguments→Expr→Scope→Pos→Bool):Bool:=if h:E.ctorIdx=4 then Expr.Lambda.elim (motive_1:=fun Z=>Bool) E h K else false
theorem xd {E:Expr} {K:Arguments→Expr→Scope→Pos→Bool} {G:Expr→Prop} (h:uX E K=true) (g:∀ a b c p,K a b c p=true→G (.Lambda a b c p)):G E :=
  fb h fun h'=>Expr.Lambda.elim (motive_1:=fun E=>∀ h',Expr.Lambda.elim (motive_1:=fun Z=>Bool) E h' K=true→G E) E h' (fun a b c p Z h=>g _ _ _ _ h) h'
noncomputable def se (E:Expr) (K:List (Option Expr)→List Expr→Pos→Bool):Bool:=if h:E.ctorIdx=6 then Expr.Dict.elim (motive_1:=fun Z=>Bool) E h K else false
theorem pe {E:Expr} {K:List (Option Expr)→List Expr→Pos→Bool} {G:Expr→Prop} (h:se E K=true) (g:∀ a l p,K a l p=true→G (.Dict a l p)):G E :=
  fb h fun h'=>Expr.Dict.elim (motive_1:=fun E=>∀ h',Expr.Dict.elim (motive_1:=fun Z=>Bool) E h' K=true→G E) E h' (fun a l p Z h=>g _ _ _ h) h'
noncomputable def jW (E:Stmt) (K:List Expr→Expr→Pos→Bool):Bool:=if h:E.ctorIdx=5 then Stmt.Assign.elim (motive_2:=fun Z=>Bool) E h K else false
theorem ip {E:Stmt} {K:List Expr→Expr→Pos→Bool} {G:Stmt→Prop} (h:jW E K=true) (g:∀ a x p,K a x p=true→G (.Assign a x p)):G E :=
  fb h fun h'=>Stmt.Assign.elim (motive_2:=fun E=>∀ h',Stmt.Assign.elim (motive_2:=fun Z=>Bool) E h' K=true→G E) E h' (fun a x p Z h=>g _ _ _ h) h'
noncomputable def H8 (E:Stmt) (K:Expr→List Stmt→List Stmt→Pos→Bool):Bool:=if h:E.ctorIdx=12 then Stmt.If.elim (motive_2:=fun Z=>Bool) E h K else false
theorem Fu {E:Stmt} {K:Expr→List Stmt→List Stmt→Pos→Bool} {G:Stmt→Prop} (h:H8 E K=true) (g:∀ x a b p,K x a b p=true→G (.If x a b p)):G E :=
  fb h fun h'=>Stmt.If.elim (motive_2:=fun E=>∀ h',Stmt.If.elim (motive_2:=fun Z=>Bool) E h' K=true→G E) E h' (fun x a b p Z h=>g _ _ _ _ h) h'
noncomputable def uU (E:Stmt) (K:Option Expr→Pos→Bool):Bool:=if h:E.ctorIdx=3 then Stmt.Return.elim (motive_2:=fun Z=>Bool) E h K else false
theorem xy {E:Stmt} {K:Option Expr→Pos→Bool} {G:Stmt→Prop} (h:uU E K=true) (g:∀ x p,K x p=true→G (.Return x p)):G E :=
  fb h fun h'=>Stmt.Return.elim (motive_2:=fun E=>∀ h',Stmt.Return.elim (motive_2:=fun Z=>Bool) E h' K=true→G E) E h' (fun x p Z h=>g _ _ h) h'
noncomputable def B1 (E:Stmt) (K:Expr→Pos→Bool):Bool:=if h:E.ctorIdx=24 then Stmt.Expr.elim (motive_2:=fun Z=>Bool) E h K else false
theorem AP {E:Stmt} {K:Expr→Pos→Bool} {G:Stmt→Prop} (h:B1 E K=true) (g:∀ x p,K x p=true→G (.Expr x p)):G E :=
  fb h fun h'=>Stmt.Expr.elim (motive_2:=fun E=>∀ h',Stmt.Expr.elim (motive_2:=fun Z=>Bool) E h' K=true→G E) E h' (fun x p Z h=>g _ _ h) h'
noncomputable def Bk (E:Stmt) (K:Expr→Expr→List Stmt→List Stmt→Pos→Bool):Bool:=if h:E.ctorIdx=9 then Stmt.For.elim (motive_2:=fun Z=>Bool) E h K else false
theorem uV {E:Stmt} {K:Expr→Expr→List Stmt→List Stmt→Pos→Bool} {G:Stmt→Prop} (h:Bk E K=true) (g:∀ t x a b p,K t x a b p=true→G (.For t x a b p)):G E :=
  fb h fun h'=>Stmt.For.elim (motive_2:=fun E=>∀ h',Stmt.For.elim (motive_2:=fun Z=>Bool) E h' K=true→G E) E h' (fun t x a b p Z h=>g _ _ _ _ _ h) h'
section
variable {α:Type}
noncomputable def wNil (l:List α) (b:Bool):Bool:=match l with | []=>b | _=>false
theorem b9 {l:List α} {b:Bool} {G:List α→Prop} (h:wNil l b=true) (g:b=true→G []):G l:=by cases l <;> first | exact g h | exact (Bool.false_ne_true h).elim
noncomputable def wCons (l:List α) (k:α→List α→Bool):Bool:=match l with | []=>false | a::r=>k a r
theorem hJ {l:List α} {k:α→List α→Bool} {G:List α→Prop} (h:wCons l k=true) (g:∀ a r,k a r=true→G (a::r)):G l:=by cases l <;> first | exact g _ _ h | exact (Bool.false_ne_true h).elim
theorem mK {l:List α} {b:Bool} {G:Prop} (h:wNil l b=true) (g:l=[]→b=true→G):G:=b9 (G:=fun l'=>l=l'→G) h (fun h e=>g e h) rfl
noncomputable def wOne (l:List α) (k:α→Bool):Bool:=wCons l fun a r=>wNil r (k a)
theorem ct {l:List α} {k:α→Bool} {G:List α→Prop} (h:wOne l k=true) (g:∀ a,k a=true→G [a]):G l:=hJ (G:=G) h fun a r h=>b9 (G:=fun r=>G (a::r)) h (g a)
noncomputable def wNo (l:Option α) (b:Bool):Bool:=match l with | none=>b | _=>false
theorem uB {l:Option α} {b:Bool} {G:Option α→Prop} (h:wNo l b=true) (g:b=true→G none):G l:=by cases l <;> first | exact g h | exact (Bool.false_ne_true h).elim
theorem Cn {l:Option α} {b:Bool} {G:Prop} (h:wNo l b=true) (g:l=none→b=true→G):G:=uB (G:=fun l'=>l=l'→G) h (fun h e=>g e h) rfl
noncomputable def tP (l:Option α) (k:α→Bool):Bool:=match l with | none=>false | some a=>k a
theorem nr {l:Option α} {k:α→Bool} {G:Option α→Prop} (h:tP l k=true) (g:∀ a,k a=true→G (some a)):G l:=by cases l <;> first | exact g _ h | exact (Bool.false_ne_true h).elim
theorem wA {a b:Bool} {G:Prop} (h:(a && b)=true) (g:a=true→b=true→G):G:=by rw [Bool.and_eq_true] at h; exact g h.1 h.2
noncomputable def wE [DecidableEq α] (a b:α) (r:Bool):Bool:=decide (a=b) && r
theorem b7 [DecidableEq α] {a b:α} {r:Bool} {G:α→Prop} (h:wE a b r=true) (g:r=true→G b):G a:=wA h fun h1 h2=>of_decide_eq_true h1 ▸ g h2
noncomputable def wD (p:Prop) [Decidable p] (r:Bool):Bool:=decide p && r
theorem ba {p:Prop} [Decidable p] {r:Bool} {G:Prop} (h:wD p r=true) (g:p→r=true→G):G:=wA h fun h1 h2=>g (of_decide_eq_true h1) h2
end
noncomputable def vM (names:List Str) (ok:Str→Prop) [DecidablePred ok]:List Nat→List Expr→Bool
  | [],l=>wNil l true
  | i::is,l=>wCons l fun e r=>wName e fun x Z=>wD (names[i]? = some x) (wD (ok x) (vM names ok is r))
theorem nv {names:List Str} {ok:Str→Prop} [DecidablePred ok]:∀ {is:List Nat} {l:List Expr},vM names ok is l=true→MtTs names ok is l
  | [],_,h=>b9 (G:=fun l=>l=[]) h fun Z=>rfl
  | i::is,_,h=>hJ (G:=MtTs names ok (i::is)) h fun e r h=>dQ (G:=fun e=>MtTs names ok (i::is) (e::r)) h fun x p h=>ba h fun h1 h=>ba h fun h2 h=>⟨x,p,r,rfl,h1,h2,nv h⟩
noncomputable def tB (names:List Str) (ok:Str→Prop) [DecidablePred ok] (is:List Nat) (e:Expr):Bool :=
  match is with
  | [i]=>wName e fun x Z=>wD (names[i]? = some x) (decide (ok x))
  | i::j::is=>kt e fun l Z Z=>vM names ok (i::j::is) l
  | []=>kt e fun l Z Z=>vM names ok [] l
theorem sv {names:List Str} {ok:Str→Prop} [DecidablePred ok] {is:List Nat} {e:Expr} (h:tB names ok is e=true):MtT names ok is e:=by
  match is with
  | [i]=>exact dQ (G:=MtT names ok [i]) h fun x p h=>ba h fun h1 h=>⟨x,p,rfl,h1,of_decide_eq_true h⟩
  | i::j::is=>exact hU (G:=MtT names ok (i::j::is)) h fun l k p h=>⟨l,k,p,rfl,nv h⟩
  | []=>exact hU (G:=MtT names ok []) h fun l k p h=>⟨l,k,p,rfl,nv h⟩
noncomputable def Ft:List W→List (Option Expr)→Bool
  | [],l=>wNil l true
  | w::ws,l=>wCons l fun o r=>tP o fun e=>eU e fun c Z Z=>wE c (.str w.str) (Ft ws r)
theorem yh:∀ {ws:List W} {l:List (Option Expr)},Ft ws l=true→gR ws l
  | [],_,h=>b9 (G:=fun l=>l=[]) h fun Z=>rfl
  | w::ws,_,h=>hJ (G:=gR (w::ws)) h fun o r h=>nr (G:=fun o=>gR (w::ws) (o::r)) h fun e h=>dl (G:=fun e=>gR (w::ws) (some e::r)) h fun c k p h =>
      b7 (G:=fun c=>gR (w::ws) (some (.Constant c k p)::r)) h fun h=>⟨k,p,r,rfl,yh h⟩
noncomputable def G1 (sc:Scope) (kd:Kd) (names:List Str) (ts:List Nat):Bool :=
  wD (∀ q ∈ names.zipIdx,sc.names.lookup q.1=some .local→q.2 ∈ ts) <| wD (sc.kind=.function) <| wD (∀ x ∈ sc.names,x.2 ≠ .cell) <| wD (∀ x ∈ sc.names,sc.names.lookup x.1=some x.2) <|
    decide (∀ x ∈ sc.names,x.2=.free→kd x.1=some .cell∨kd x.1=some .free)
theorem zA {sc:Scope} {kd:Kd} {names:List Str} {ts:List Nat} (h:G1 sc kd names ts=true):CompSc sc kd names ts :=
  ba h fun h1 h=>ba h fun h2 h=>ba h fun h3 h=>ba h fun h4 h=>⟨h1,h2,h3,h4,of_decide_eq_true h⟩
noncomputable def GJ (ps:Arguments) (b:Expr) (sc:Scope):Bool:=sR b fun x o y Z=>wE o .Add <| wName x fun s Z=>wE s gE <| wName y fun t Z=>wE t ca <|
  wD (ps.args.map (·.arg)=[gE]) <| wNil ps.posonlyargs <| wNil ps.kwonlyargs <| wNo ps.vararg <| wNo ps.kwarg <| wD (sc.kind=.function) <| wD (sc.isCoroutine=false) <| wD (sc.isGenerator=false) <|
  wD (sc.names.lookup gE=some .local) <| wD (sc.names.lookup ca=some .free) <| decide (∀ x ∈ sc.names,x.2 ≠ .cell)
theorem D0 {ps:Arguments} {b:Expr} {sc:Scope} (h:GJ ps b sc=true):LamOK ps b sc :=
  rj (G:=fun b=>LamOK ps b sc) h fun x o y p3 h=>b7 (G:=fun o=>LamOK ps (.BinOp x o y p3) sc) h fun h=>dQ (G:=fun x=>LamOK ps (.BinOp x .Add y p3) sc) h fun s p1 h=>b7 (G:=fun s=>LamOK ps (.BinOp (.Name s p1) .Add y p3) sc) h fun h =>
  dQ (G:=fun y=>LamOK ps (.BinOp (.Name gE p1) .Add y p3) sc) h fun t p2 h=>b7 (G:=fun t=>LamOK ps (.BinOp (.Name gE p1) .Add (.Name t p2) p3) sc) h fun h =>
  ba h fun h1 h=>mK h fun e1 h=>mK h fun e2 h=>Cn h fun e3 h=>Cn h fun e4 h=>ba h fun k1 h=>ba h fun k2 h=>ba h fun k3 h=>ba h fun l1 h=>ba h fun l2 h =>
    ⟨⟨p1,p2,p3,rfl⟩,⟨h1,e1,e2,e3,e4⟩,⟨k1,k2,k3⟩,l1,l2,of_decide_eq_true h⟩
noncomputable def An (g:Comprehension) (K:Expr→Expr→List Expr→Int→Bool):Bool:=K g.target g.iter g.ifs g.is_async
theorem vk {g:Comprehension} {K:Expr→Expr→List Expr→Int→Bool} {G:Comprehension→Prop} (h:An g K=true) (k:∀ a b c d,K a b c d=true→G ⟨a,b,c,d⟩):G g:=by cases g; exact k _ _ _ _ h
noncomputable abbrev wB (a b:Bool):Bool:=a && b
mutual
noncomputable def cF (names:List Str):List Str→Kd→CE→Expr→Bool
  | _,_,.any,_=>true
  | fz,kd,.frz e,E=>cF names fz kd e E
  | fz,kd,.loc i,E=>wName E fun x pos=>wD (names[i]? = some x) <| wD (kd x=some .local∨kd x=some .cell∨kd x=some .free) <| true
  | fz,kd,.byte,E=>wName E fun x pos=>wE x (Str.ofString "_law_byte") <| wD (kd (Str.ofString "_law_byte")=some .globalImplicit) <| true
  | fz,kd,.int i,E=>eU E fun c k pos=>wE c (.int i) <| true
  | fz,kd,.str w,E=>eU E fun c k pos=>wE c (.str w.str) <| true
  | fz,kd,.bool b,E=>eU E fun c k pos=>wE c (.bool b) <| true
  | fz,kd,.none,E=>eU E fun c k pos=>wE c .none <| true
  | fz,kd,.tup es,E=>kt E fun l k pos=>wB (jt names fz kd es l) <| true
  | fz,kd,.list q es,E=>CP E fun l pos=>wB (jt names fz kd es l) <| true
  | fz,kd,.bin q o a b,E=>sR E fun x o1 y pos=>wE o1 o.op <| wB (cF names fz kd a x) <| wB (cF names fz kd b y) <| true
  | fz,kd,.neg a,E=>pd E fun o1 x pos=>wE o1 .USub <| wB (cF names fz kd a x) <| true
  | fz,kd,.cmp o a b,E=>mx E fun x os ys pos=>wOne os fun o1=>wE o1 o.op <| wOne ys fun y=>wD (ke y) <| wB (cF names fz kd a x) <| wB (cF names fz kd b y) <| true
  | fz,kd,.isN a,E=>mx E fun x os ys pos=>wOne os fun o1=>wE o1 .Is <| wOne ys fun y=>eU y fun c k p=>wE c .none <| wB (cF names fz kd a x) <| true
  | fz,kd,.notN a,E=>mx E fun x os ys pos=>wOne os fun o1=>wE o1 .IsNot <| wOne ys fun y=>eU y fun c k p=>wE c .none <| wB (cF names fz kd a x) <| true
  | fz,kd,.and es,E=>qO E fun o1 l pos=>wE o1 .And <| wB (jt names fz kd es l) <| true
  | fz,kd,.or es,E=>qO E fun o1 l pos=>wE o1 .Or <| wB (jt names fz kd es l) <| true
  | fz,kd,.not a,E=>pd E fun o1 x pos=>wE o1 .Not <| wB (cF names fz kd a x) <| true
  | fz,kd,.ifx t a b,E=>yp E fun x y z pos=>wB (cF names fz kd t x) <| wB (cF names fz kd a y) <| wB (cF names fz kd b z) <| true
  | fz,kd,.attr e1 f,E=>wAttribute E fun x s pos=>wE s f.str <| wD (cS x) <| wB (cF names fz kd e1 x) <| true
  | fz,kd,.sub e1 i,E=>jK E fun x y pos=>wD (gJ y) <| wB (cF names fz kd e1 x) <| wB (cF names fz kd i y) <| true
  | fz,kd,.slo e1 lo,E=>jK E fun x y pos=>zW y fun u1 u2 u3 p=>tP u1 fun y1=>wNo u2 <| wNo u3 <| wB (cF names fz kd e1 x) <| wB (cF names fz kd lo y1) <| true
  | fz,kd,.call f es,E=>wCall E fun f0 l ks pos=>wNil ks <| wName f0 fun s p=>wE s (Str.ofString f.nm) <| wD (f.isTop=true) <| wD (kd (Str.ofString f.nm)=some .globalImplicit) <| wB (jt names fz kd es l) <| true
  | fz,kd,.new c es,E=>wCall E fun f0 l ks pos=>wNil ks <| wName f0 fun s p=>wE s (Str.ofString c.nm) <| wD (kd (Str.ofString c.nm)=some .globalImplicit) <| wB (jt names fz kd es l) <| true
  | fz,kd,.meth e1 f es,E=>wCall E fun f0 l ks pos=>wNil ks <| wAttribute f0 fun x s p=>wE s (Str.ofString f.nm) <| wD (cS x) <| wD (l.length < 30) <| wD ((p.endLine == pos.line)=true) <| wD (f.isMeth=true) <| wB (cF names fz kd e1 x) <| wB (jt names fz kd es l) <| true
  | fz,kd,.bi b es,E=>wCall E fun f0 l ks pos=>wNil ks <| wName f0 fun s p=>wE s (Str.ofString b.nm) <| wD (kd (Str.ofString b.nm)=some .globalImplicit) <| wB (jt names fz kd es l) <| true
  | fz,kd,.toList q e1,E=>wCall E fun f0 l ks pos=>wNil ks <| wName f0 fun s p=>wE s (Str.ofString "list") <| wOne l fun x=>wD (bI x) <| wD (kd (Str.ofString "list")=some .globalImplicit) <| wB (cF names fz kd e1 x) <| true
  | fz,kd,.app e1 y,E=>wCall E fun f0 l ks pos=>wNil ks <| wAttribute f0 fun a s p=>wE s (Str.ofString "append") <| wOne l fun b=>wD (cS a) <| wD (bI b) <| wD ((p.endLine == pos.line)=true) <| wB (cF names fz kd e1 a) <| wB (cF names fz kd y b) <| true
  | fz,kd,.ext e1 y,E=>wCall E fun f0 l ks pos=>wNil ks <| wAttribute f0 fun a s p=>wE s (Str.ofString "extend") <| wOne l fun b=>wD (cS a) <| wD (bI b) <| wD ((p.endLine == pos.line)=true) <| wB (cF names fz kd e1 a) <| wB (cF names fz kd y b) <| true
  | fz,kd,.get e1 y,E=>wCall E fun f0 l ks pos=>wNil ks <| wAttribute f0 fun a s p=>wE s (Str.ofString "get") <| wOne l fun b=>wD (cS a) <| wD (bI b) <| wD ((p.endLine == pos.line)=true) <| wB (cF names fz kd e1 a) <| wB (cF names fz kd y b) <| true
  | fz,kd,.pop0 e1,E=>wCall E fun f0 l ks pos=>wNil ks <| wAttribute f0 fun a s p=>wE s (Str.ofString "pop") <| wOne l fun b=>eU b fun c k q=>wE c (.int 0) <| wD (cS a) <| wD ((p.endLine == pos.line)=true) <| wB (cF names fz kd e1 a) <| true
  | fz,kd,.getd e1 y d1,E=>wCall E fun f0 l ks pos=>wNil ks <| wAttribute f0 fun a s p=>wE s (Str.ofString "get") <| wCons l fun b r=>wOne r fun c=>wD (cS a) <| wD (bI b) <| wD (bI c) <| wD ((p.endLine == pos.line)=true) <| wB (cF names fz kd e1 a) <| wB (cF names fz kd y b) <| wB (cF names fz kd d1 c) <| true
  | fz,kd,.popd e1 y,E=>wCall E fun f0 l ks pos=>wNil ks <| wAttribute f0 fun a s p=>wE s (Str.ofString "pop") <| wCons l fun b r=>wOne r fun c0=>eU c0 fun c k q=>wE c .none <| wD (cS a) <| wD (bI b) <| wD ((p.endLine == pos.line)=true) <| wB (cF names fz kd e1 a) <| wB (cF names fz kd y b) <| true
  | fz,kd,.comp q elt ts it,E=>mO E fun x gs sc pos=>wOne gs fun g1=>An g1 fun t y zs as=>wE as 0 <| wNil zs <| wB (G1 sc kd names ts) <| wB (cF names fz kd it y) <| wB (tB names (fun n=>cz sc n=some .local) ts t) <| wB (cF names [] (cz sc) elt x) <| true
  | fz,kd,.compif elt ts it c,E=>mO E fun x gs sc pos=>wOne gs fun g1=>An g1 fun t y zs as=>wE as 0 <| wOne zs fun z=>wB (G1 sc kd names ts) <| wB (cF names fz kd it y) <| wB (tB names (fun n=>cz sc n=some .local) ts t) <| wB (cF names [] (cz sc) elt x) <| wB (cF names [] (cz sc) c z) <| true
  | fz,kd,.lam i,E=>uX E fun ps b sc pos=>wD (ca ∈ fz) <| wB (GJ ps b sc) <| wNil ps.defaults <| wNil ps.kw_defaults <| wNil ps.kwonlyargs <| wD (names[i]? = some ca) <| wD (kd ca=some .cell) <| wD (sc.names.lookup ca=some .free) <| wD (∀ x ∈ sc.names,x.2=.free→x.1=ca) <| true
  | fz,kd,.callv i y,E=>wCall E fun f0 l ks pos=>wNil ks <| wName f0 fun s p=>wOne l fun b=>wD (bI b) <| wD (names[i]? = some s) <| wD (kd s=some .local∨kd s=some .cell∨kd s=some .free) <| wB (cF names fz kd y b) <| true
  | fz,kd,.emptyI,E=>se E fun ks l pos=>wNil ks <| wNil l <| true
  | fz,kd,.emptyP,E=>se E fun ks l pos=>wNil ks <| wNil l <| true
  | fz,kd,.sdisp fr ws es,E=>se E fun ks l pos=>wB (Ft ws ks) <| wB (jt names fz kd es l) <| true
noncomputable def jt (names:List Str):List Str→Kd→CEs→List Expr→Bool
  | _,_,.nil,l=>wNil l true
  | fz,kd,.cons e r,l=>wCons l fun x l=>wD (bI x) <| wB (cF names fz kd e x) (jt names fz kd r l)
end
mutual
theorem bc {names:List Str}:∀ {fz:List Str} {kd:Kd} {e:CE} {E:Expr},cF names fz kd e E=true→Mt names fz kd e E
  | _,_,.any,_,_=>trivial
  | _,_,.frz e,_,h=>bc (e:=e) h
  | fz,kd,.loc i,E,h=>fun G g=>dQ (G:=fun E=>G E) h fun x pos h=>ba h fun h0 h=>ba h fun h1 h=>g _ _ h0 h1
  | fz,kd,.byte,E,h=>fun G g=>dQ (G:=fun E=>G E) h fun x pos h=>b7 (G:=fun x=>G (.Name x pos)) h fun h=>ba h fun h0 h=>g _ h0
  | fz,kd,.int i,E,h=>fun G g=>dl (G:=fun E=>G E) h fun c k pos h=>b7 (G:=fun c=>G (.Constant c k pos)) h fun h=>g _ _
  | fz,kd,.str w,E,h=>fun G g=>dl (G:=fun E=>G E) h fun c k pos h=>b7 (G:=fun c=>G (.Constant c k pos)) h fun h=>g _ _ _ rfl
  | fz,kd,.bool b,E,h=>fun G g=>dl (G:=fun E=>G E) h fun c k pos h=>b7 (G:=fun c=>G (.Constant c k pos)) h fun h=>g _ _
  | fz,kd,.none,E,h=>fun G g=>dl (G:=fun E=>G E) h fun c k pos h=>b7 (G:=fun c=>G (.Constant c k pos)) h fun h=>g _ _
  | fz,kd,.tup es,E,h=>fun G g=>hU (G:=fun E=>G E) h fun l k pos h=>wA h fun h0 h=>g _ _ _ (fV h0)
  | fz,kd,.list q es,E,h=>fun G g=>Ad (G:=fun E=>G E) h fun l pos h=>wA h fun h0 h=>g _ _ (fV h0)
  | fz,kd,.bin q o a b,E,h=>fun G g=>rj (G:=fun E=>G E) h fun x o1 y pos h=>b7 (G:=fun o1=>G (.BinOp x o1 y pos)) h fun h=>wA h fun h0 h=>wA h fun h1 h=>g _ _ _ (bc h0) (bc h1)
  | fz,kd,.neg a,E,h=>fun G g=>oo (G:=fun E=>G E) h fun o1 x pos h=>b7 (G:=fun o1=>G (.UnaryOp o1 x pos)) h fun h=>wA h fun h0 h=>g _ _ (bc h0)
  | fz,kd,.cmp o a b,E,h=>fun G g=>k8 (G:=fun E=>G E) h fun x os ys pos h=>ct (G:=fun os=>G (.Compare x os ys pos)) h fun o1 h=>b7 (G:=fun o1=>G (.Compare x [o1] ys pos)) h fun h=>ct (G:=fun ys=>G (.Compare x [o.op] ys pos)) h fun y h=>ba h fun h0 h=>wA h fun h1 h=>wA h fun h2 h=>g _ _ _ h0 (bc h1) (bc h2)
  | fz,kd,.isN a,E,h=>fun G g=>k8 (G:=fun E=>G E) h fun x os ys pos h=>ct (G:=fun os=>G (.Compare x os ys pos)) h fun o1 h=>b7 (G:=fun o1=>G (.Compare x [o1] ys pos)) h fun h=>ct (G:=fun ys=>G (.Compare x [.Is] ys pos)) h fun y h=>dl (G:=fun y=>G (.Compare x [.Is] [y] pos)) h fun c k p h=>b7 (G:=fun c=>G (.Compare x [.Is] [(.Constant c k p)] pos)) h fun h=>wA h fun h0 h=>g _ _ _ _ (bc h0)
  | fz,kd,.notN a,E,h=>fun G g=>k8 (G:=fun E=>G E) h fun x os ys pos h=>ct (G:=fun os=>G (.Compare x os ys pos)) h fun o1 h=>b7 (G:=fun o1=>G (.Compare x [o1] ys pos)) h fun h=>ct (G:=fun ys=>G (.Compare x [.IsNot] ys pos)) h fun y h=>dl (G:=fun y=>G (.Compare x [.IsNot] [y] pos)) h fun c k p h=>b7 (G:=fun c=>G (.Compare x [.IsNot] [(.Constant c k p)] pos)) h fun h=>wA h fun h0 h=>g _ _ _ _ (bc h0)
  | fz,kd,.and es,E,h=>fun G g=>pL (G:=fun E=>G E) h fun o1 l pos h=>b7 (G:=fun o1=>G (.BoolOp o1 l pos)) h fun h=>wA h fun h0 h=>g _ _ (fV h0)
  | fz,kd,.or es,E,h=>fun G g=>pL (G:=fun E=>G E) h fun o1 l pos h=>b7 (G:=fun o1=>G (.BoolOp o1 l pos)) h fun h=>wA h fun h0 h=>g _ _ (fV h0)
  | fz,kd,.not a,E,h=>fun G g=>oo (G:=fun E=>G E) h fun o1 x pos h=>b7 (G:=fun o1=>G (.UnaryOp o1 x pos)) h fun h=>wA h fun h0 h=>g _ _ (bc h0)
  | fz,kd,.ifx t a b,E,h=>fun G g=>yO (G:=fun E=>G E) h fun x y z pos h=>wA h fun h0 h=>wA h fun h1 h=>wA h fun h2 h=>g _ _ _ _ (bc h0) (bc h1) (bc h2)
  | fz,kd,.attr e1 f,E,h=>fun G g=>c6 (G:=fun E=>G E) h fun x s pos h=>b7 (G:=fun s=>G (.Attribute x s pos)) h fun h=>ba h fun h0 h=>wA h fun h1 h=>g _ _ _ h0 (bc h1) rfl
  | fz,kd,.sub e1 i,E,h=>fun G g=>jw (G:=fun E=>G E) h fun x y pos h=>ba h fun h0 h=>wA h fun h1 h=>wA h fun h2 h=>g _ _ _ h0 (bc h1) (bc h2)
  | fz,kd,.slo e1 lo,E,h=>fun G g=>jw (G:=fun E=>G E) h fun x y pos h=>yR (G:=fun y=>G (.Subscript x y pos)) h fun u1 u2 u3 p h=>nr (G:=fun u1=>G (.Subscript x (.Slice u1 u2 u3 p) pos)) h fun y1 h=>uB (G:=fun u2=>G (.Subscript x (.Slice (some y1) u2 u3 p) pos)) h fun h=>uB (G:=fun u3=>G (.Subscript x (.Slice (some y1) none u3 p) pos)) h fun h=>wA h fun h0 h=>wA h fun h1 h=>g _ _ _ _ (bc h0) (bc h1)
  | fz,kd,.call f es,E,h=>fun G g=>dJ (G:=fun E=>G E) h fun f0 l ks pos h=>b9 (G:=fun ks=>G (.Call f0 l ks pos)) h fun h=>dQ (G:=fun f0=>G (.Call f0 l [] pos)) h fun s p h=>b7 (G:=fun s=>G (.Call (.Name s p) l [] pos)) h fun h=>ba h fun h0 h=>ba h fun h1 h=>wA h fun h2 h=>g _ _ _ _ h0 rfl h1 (fV h2)
  | fz,kd,.new c es,E,h=>fun G g=>dJ (G:=fun E=>G E) h fun f0 l ks pos h=>b9 (G:=fun ks=>G (.Call f0 l ks pos)) h fun h=>dQ (G:=fun f0=>G (.Call f0 l [] pos)) h fun s p h=>b7 (G:=fun s=>G (.Call (.Name s p) l [] pos)) h fun h=>ba h fun h0 h=>wA h fun h1 h=>g _ _ _ _ rfl h0 (fV h1)
  | fz,kd,.meth e1 f es,E,h=>fun G g=>dJ (G:=fun E=>G E) h fun f0 l ks pos h=>b9 (G:=fun ks=>G (.Call f0 l ks pos)) h fun h=>c6 (G:=fun f0=>G (.Call f0 l [] pos)) h fun x s p h=>b7 (G:=fun s=>G (.Call (.Attribute x s p) l [] pos)) h fun h=>ba h fun h0 h=>ba h fun h1 h=>ba h fun h2 h=>ba h fun h3 h=>wA h fun h4 h=>wA h fun h5 h=>g _ _ _ _ _ h0 h1 h2 h3 rfl (bc h4) (fV h5)
  | fz,kd,.bi b es,E,h=>fun G g=>dJ (G:=fun E=>G E) h fun f0 l ks pos h=>b9 (G:=fun ks=>G (.Call f0 l ks pos)) h fun h=>dQ (G:=fun f0=>G (.Call f0 l [] pos)) h fun s p h=>b7 (G:=fun s=>G (.Call (.Name s p) l [] pos)) h fun h=>ba h fun h0 h=>wA h fun h1 h=>g _ _ _ _ rfl h0 (fV h1)
  | fz,kd,.toList q e1,E,h=>fun G g=>dJ (G:=fun E=>G E) h fun f0 l ks pos h=>b9 (G:=fun ks=>G (.Call f0 l ks pos)) h fun h=>dQ (G:=fun f0=>G (.Call f0 l [] pos)) h fun s p h=>b7 (G:=fun s=>G (.Call (.Name s p) l [] pos)) h fun h=>ct (G:=fun l=>G (.Call (.Name (Str.ofString "list") p) l [] pos)) h fun x h=>ba h fun h0 h=>ba h fun h1 h=>wA h fun h2 h=>g _ _ _ h0 h1 (bc h2)
  | fz,kd,.app e1 y,E,h=>fun G g=>dJ (G:=fun E=>G E) h fun f0 l ks pos h=>b9 (G:=fun ks=>G (.Call f0 l ks pos)) h fun h=>c6 (G:=fun f0=>G (.Call f0 l [] pos)) h fun a s p h=>b7 (G:=fun s=>G (.Call (.Attribute a s p) l [] pos)) h fun h=>ct (G:=fun l=>G (.Call (.Attribute a (Str.ofString "append") p) l [] pos)) h fun b h=>ba h fun h0 h=>ba h fun h1 h=>ba h fun h2 h=>wA h fun h3 h=>wA h fun h4 h=>g _ _ _ _ h0 h1 h2 (bc h3) (bc h4)
  | fz,kd,.ext e1 y,E,h=>fun G g=>dJ (G:=fun E=>G E) h fun f0 l ks pos h=>b9 (G:=fun ks=>G (.Call f0 l ks pos)) h fun h=>c6 (G:=fun f0=>G (.Call f0 l [] pos)) h fun a s p h=>b7 (G:=fun s=>G (.Call (.Attribute a s p) l [] pos)) h fun h=>ct (G:=fun l=>G (.Call (.Attribute a (Str.ofString "extend") p) l [] pos)) h fun b h=>ba h fun h0 h=>ba h fun h1 h=>ba h fun h2 h=>wA h fun h3 h=>wA h fun h4 h=>g _ _ _ _ h0 h1 h2 (bc h3) (bc h4)
  | fz,kd,.get e1 y,E,h=>fun G g=>dJ (G:=fun E=>G E) h fun f0 l ks pos h=>b9 (G:=fun ks=>G (.Call f0 l ks pos)) h fun h=>c6 (G:=fun f0=>G (.Call f0 l [] pos)) h fun a s p h=>b7 (G:=fun s=>G (.Call (.Attribute a s p) l [] pos)) h fun h=>ct (G:=fun l=>G (.Call (.Attribute a (Str.ofString "get") p) l [] pos)) h fun b h=>ba h fun h0 h=>ba h fun h1 h=>ba h fun h2 h=>wA h fun h3 h=>wA h fun h4 h=>g _ _ _ _ h0 h1 h2 (bc h3) (bc h4)
  | fz,kd,.pop0 e1,E,h=>fun G g=>dJ (G:=fun E=>G E) h fun f0 l ks pos h=>b9 (G:=fun ks=>G (.Call f0 l ks pos)) h fun h=>c6 (G:=fun f0=>G (.Call f0 l [] pos)) h fun a s p h=>b7 (G:=fun s=>G (.Call (.Attribute a s p) l [] pos)) h fun h=>ct (G:=fun l=>G (.Call (.Attribute a (Str.ofString "pop") p) l [] pos)) h fun b h=>dl (G:=fun b=>G (.Call (.Attribute a (Str.ofString "pop") p) [b] [] pos)) h fun c k q h=>b7 (G:=fun c=>G (.Call (.Attribute a (Str.ofString "pop") p) [(.Constant c k q)] [] pos)) h fun h=>ba h fun h0 h=>ba h fun h1 h=>wA h fun h2 h=>g _ _ _ _ _ h0 h1 (bc h2)
  | fz,kd,.getd e1 y d1,E,h=>fun G g=>dJ (G:=fun E=>G E) h fun f0 l ks pos h=>b9 (G:=fun ks=>G (.Call f0 l ks pos)) h fun h=>c6 (G:=fun f0=>G (.Call f0 l [] pos)) h fun a s p h=>b7 (G:=fun s=>G (.Call (.Attribute a s p) l [] pos)) h fun h=>hJ (G:=fun l=>G (.Call (.Attribute a (Str.ofString "get") p) l [] pos)) h fun b r h=>ct (G:=fun r=>G (.Call (.Attribute a (Str.ofString "get") p) (b::r) [] pos)) h fun c h=>ba h fun h0 h=>ba h fun h1 h=>ba h fun h2 h=>ba h fun h3 h=>wA h fun h4 h=>wA h fun h5 h=>wA h fun h6 h=>g _ _ _ _ _ h0 h1 h2 h3 (bc h4) (bc h5) (bc h6)
  | fz,kd,.popd e1 y,E,h=>fun G g=>dJ (G:=fun E=>G E) h fun f0 l ks pos h=>b9 (G:=fun ks=>G (.Call f0 l ks pos)) h fun h=>c6 (G:=fun f0=>G (.Call f0 l [] pos)) h fun a s p h=>b7 (G:=fun s=>G (.Call (.Attribute a s p) l [] pos)) h fun h=>hJ (G:=fun l=>G (.Call (.Attribute a (Str.ofString "pop") p) l [] pos)) h fun b r h=>ct (G:=fun r=>G (.Call (.Attribute a (Str.ofString "pop") p) (b::r) [] pos)) h fun c0 h=>dl (G:=fun c0=>G (.Call (.Attribute a (Str.ofString "pop") p) (b::[c0]) [] pos)) h fun c k q h=>b7 (G:=fun c=>G (.Call (.Attribute a (Str.ofString "pop") p) (b::[(.Constant c k q)]) [] pos)) h fun h=>ba h fun h0 h=>ba h fun h1 h=>ba h fun h2 h=>wA h fun h3 h=>wA h fun h4 h=>g _ _ _ _ _ _ h0 h1 h2 (bc h3) (bc h4)
  | fz,kd,.comp q elt ts it,E,h=>fun G g=>np (G:=fun E=>G E) h fun x gs sc pos h=>ct (G:=fun gs=>G (.ListComp x gs sc pos)) h fun g1 h=>vk (G:=fun g1=>G (.ListComp x [g1] sc pos)) h fun t y zs as h=>b7 (G:=fun as=>G (.ListComp x [⟨t,y,zs,as⟩] sc pos)) h fun h=>b9 (G:=fun zs=>G (.ListComp x [⟨t,y,zs,0⟩] sc pos)) h fun h=>wA h fun h0 h=>wA h fun h1 h=>wA h fun h2 h=>wA h fun h3 h=>g _ _ _ _ _ (zA h0) (bc h1) (sv h2) (bc h3)
  | fz,kd,.compif elt ts it c,E,h=>fun G g=>np (G:=fun E=>G E) h fun x gs sc pos h=>ct (G:=fun gs=>G (.ListComp x gs sc pos)) h fun g1 h=>vk (G:=fun g1=>G (.ListComp x [g1] sc pos)) h fun t y zs as h=>b7 (G:=fun as=>G (.ListComp x [⟨t,y,zs,as⟩] sc pos)) h fun h=>ct (G:=fun zs=>G (.ListComp x [⟨t,y,zs,0⟩] sc pos)) h fun z h=>wA h fun h0 h=>wA h fun h1 h=>wA h fun h2 h=>wA h fun h3 h=>wA h fun h4 h=>g _ _ _ _ _ _ (zA h0) (bc h1) (sv h2) (bc h3) (bc h4)
  | fz,kd,.lam i,E,h=>fun G g=>xd (G:=fun E=>G E) h fun ps b sc pos h=>ba h fun h0 h=>wA h fun h1 h=>mK h fun h2 h=>mK h fun h3 h=>mK h fun h4 h=>ba h fun h5 h=>ba h fun h6 h=>ba h fun h7 h=>ba h fun h8 h=>g _ _ _ _ h0 (D0 h1) h2 h3 h4 h5 h6 h7 h8
  | fz,kd,.callv i y,E,h=>fun G g=>dJ (G:=fun E=>G E) h fun f0 l ks pos h=>b9 (G:=fun ks=>G (.Call f0 l ks pos)) h fun h=>dQ (G:=fun f0=>G (.Call f0 l [] pos)) h fun s p h=>ct (G:=fun l=>G (.Call (.Name s p) l [] pos)) h fun b h=>ba h fun h0 h=>ba h fun h1 h=>ba h fun h2 h=>wA h fun h3 h=>g _ _ _ _ h0 h1 h2 (bc h3)
  | fz,kd,.emptyI,E,h=>fun G g=>pe (G:=fun E=>G E) h fun ks l pos h=>b9 (G:=fun ks=>G (.Dict ks l pos)) h fun h=>b9 (G:=fun l=>G (.Dict [] l pos)) h fun h=>g _
  | fz,kd,.emptyP,E,h=>fun G g=>pe (G:=fun E=>G E) h fun ks l pos h=>b9 (G:=fun ks=>G (.Dict ks l pos)) h fun h=>b9 (G:=fun l=>G (.Dict [] l pos)) h fun h=>g _
  | fz,kd,.sdisp fr ws es,E,h=>fun G g=>pe (G:=fun E=>G E) h fun ks l pos h=>wA h fun h0 h=>wA h fun h1 h=>g _ _ _ (yh h0) (fV h1)
theorem fV {names:List Str}:∀ {fz:List Str} {kd:Kd} {es:CEs} {l:List Expr},jt names fz kd es l=true→MtL names fz kd es l
  | _,_,.nil,l,h=>fun G g=>b9 h fun Z=>g
  | _,_,.cons e r,l,h=>fun G g=>hJ h fun x l h=>ba h fun h1 h=>wA h fun h2 h=>g _ _ h1 (bc h2) (fV h)
end
mutual
noncomputable def GI (names wr fz:List Str) (kd:Kd):CS→Stmt→Bool
  | .any,_=>true
  | .ret e,E=>uU E fun x Z=>match x with | some x=>cF names fz kd e x | none=>match e with | .none=>true | _=>false
  | .asg i e1,E=>jW E fun t0 x pos=>wOne t0 fun t1=>wName t1 fun n q=>wD (names[i]? = some n) <| wD (kd n=some .local∨n ∈ wr) <| wB (cF names fz kd e1 x) <| true
  | .unp is e1,E=>jW E fun t0 x pos=>wOne t0 fun t1=>kt t1 fun l k q=>wD (tf x) <| wB (vM names (fun n=>kd n=some .local∨n ∈ wr) is l) <| wB (cF names fz kd e1 x) <| true
  | .multi is es,E=>jW E fun t0 x pos=>wOne t0 fun t1=>kt t1 fun l k q=>kt x fun l1 k1 q1=>wB (vM names (fun n=>kd n=some .local∨n ∈ wr) is l) <| wD (l1.all (constantsAlone 8)=false) <| wB (jt names fz kd es l1) <| true
  | .sett o i v1,E=>jW E fun t0 x pos=>wOne t0 fun t1=>jK t1 fun a y q=>wD (gJ y) <| wB (cF names fz kd o a) <| wB (cF names fz kd i y) <| wB (cF names fz kd v1 x) <| true
  | .seta o f v1,E=>jW E fun t0 x pos=>wOne t0 fun t1=>wAttribute t1 fun a s q=>wE s f.str <| wB (cF names fz kd o a) <| wB (cF names fz kd v1 x) <| true
  | .ifs c a b,E=>H8 E fun x l l1 pos=>wB (cF names fz kd c x) <| wB (kW names wr fz kd a l) <| wB (kW names wr fz kd b l1) <| true
  | .expr e1,E=>B1 E fun x pos=>wD (qx x) <| wB (cF names fz kd e1 x) <| true
  | .for_ ts it b,E=>Bk E fun t x l l0 pos=>wNil l0 <| wB (tB names (fun n=>kd n=some .local∨n ∈ wr) ts t) <| wB (cF names fz kd it x) <| wB (kW names wr fz kd b l) <| true
  | .forEnum i j it b,E=>Bk E fun t x0 l l0 pos=>wNil l0 <| wCall x0 fun f0 a0 ks q=>wNil ks <| wName f0 fun s p=>wE s (Str.ofString "enumerate") <| wOne a0 fun x=>wB (tB names (fun n=>kd n=some .local∨n ∈ wr) [i,j] t) <| wD (kd (Str.ofString "enumerate")=some .globalImplicit) <| wB (cF names fz kd it x) <| wB (kW names wr fz kd b l) <| true
noncomputable def kW (names wr fz:List Str) (kd:Kd):CSs→List Stmt→Bool
  | .nil,l=>wNil l true
  | .cons s r,l=>wCons l fun x l=>wB (GI names wr fz kd s x) (kW names wr fz kd r l)
end
mutual
theorem DT {names wr fz:List Str} {kd:Kd}:∀ {s:CS} {E:Stmt},GI names wr fz kd s E=true→Fh names wr fz kd s E
  | .any,_,_=>trivial
  | .ret e,E,h=>fun G g1 g2=>xy (G:=G) h fun x pos h=>by
    cases x with
    | some x=>exact g1 _ _ (bc h)
    | none=>cases e <;> first | exact g2 _ rfl | exact (Bool.false_ne_true h).elim
  | .asg i e1,E,h=>fun G g=>ip (G:=fun E=>G E) h fun t0 x pos h=>ct (G:=fun t0=>G (.Assign t0 x pos)) h fun t1 h=>dQ (G:=fun t1=>G (.Assign [t1] x pos)) h fun n q h=>ba h fun h0 h=>ba h fun h1 h=>wA h fun h2 h=>g _ _ _ _ h0 h1 (bc h2)
  | .unp is e1,E,h=>fun G g=>ip (G:=fun E=>G E) h fun t0 x pos h=>ct (G:=fun t0=>G (.Assign t0 x pos)) h fun t1 h=>hU (G:=fun t1=>G (.Assign [t1] x pos)) h fun l k q h=>ba h fun h0 h=>wA h fun h1 h=>wA h fun h2 h=>g _ _ _ _ _ h0 (nv h1) (bc h2)
  | .multi is es,E,h=>fun G g=>ip (G:=fun E=>G E) h fun t0 x pos h=>ct (G:=fun t0=>G (.Assign t0 x pos)) h fun t1 h=>hU (G:=fun t1=>G (.Assign [t1] x pos)) h fun l k q h=>hU (G:=fun x=>G (.Assign [(.Tuple l k q)] x pos)) h fun l1 k1 q1 h=>wA h fun h0 h=>ba h fun h1 h=>wA h fun h2 h=>g _ _ _ _ _ _ _ (nv h0) h1 (fV h2)
  | .sett o i v1,E,h=>fun G g=>ip (G:=fun E=>G E) h fun t0 x pos h=>ct (G:=fun t0=>G (.Assign t0 x pos)) h fun t1 h=>jw (G:=fun t1=>G (.Assign [t1] x pos)) h fun a y q h=>ba h fun h0 h=>wA h fun h1 h=>wA h fun h2 h=>wA h fun h3 h=>g _ _ _ _ _ h0 (bc h1) (bc h2) (bc h3)
  | .seta o f v1,E,h=>fun G g=>ip (G:=fun E=>G E) h fun t0 x pos h=>ct (G:=fun t0=>G (.Assign t0 x pos)) h fun t1 h=>c6 (G:=fun t1=>G (.Assign [t1] x pos)) h fun a s q h=>b7 (G:=fun s=>G (.Assign [(.Attribute a s q)] x pos)) h fun h=>wA h fun h0 h=>wA h fun h1 h=>g _ _ _ _ _ (bc h0) rfl (bc h1)
  | .ifs c a b,E,h=>fun G g=>Fu (G:=fun E=>G E) h fun x l l1 pos h=>wA h fun h0 h=>wA h fun h1 h=>wA h fun h2 h=>g _ _ _ _ (bc h0) (iU h1) (iU h2)
  | .expr e1,E,h=>fun G g=>AP (G:=fun E=>G E) h fun x pos h=>ba h fun h0 h=>wA h fun h1 h=>g _ _ h0 (bc h1)
  | .for_ ts it b,E,h=>fun G g=>uV (G:=fun E=>G E) h fun t x l l0 pos h=>b9 (G:=fun l0=>G (.For t x l l0 pos)) h fun h=>wA h fun h0 h=>wA h fun h1 h=>wA h fun h2 h=>g _ _ _ _ (sv h0) (bc h1) (iU h2)
  | .forEnum i j it b,E,h=>fun G g=>uV (G:=fun E=>G E) h fun t x0 l l0 pos h=>b9 (G:=fun l0=>G (.For t x0 l l0 pos)) h fun h=>dJ (G:=fun x0=>G (.For t x0 l [] pos)) h fun f0 a0 ks q h=>b9 (G:=fun ks=>G (.For t (.Call f0 a0 ks q) l [] pos)) h fun h=>dQ (G:=fun f0=>G (.For t (.Call f0 a0 [] q) l [] pos)) h fun s p h=>b7 (G:=fun s=>G (.For t (.Call (.Name s p) a0 [] q) l [] pos)) h fun h=>ct (G:=fun a0=>G (.For t (.Call (.Name (Str.ofString "enumerate") p) a0 [] q) l [] pos)) h fun x h=>wA h fun h0 h=>ba h fun h1 h=>wA h fun h2 h=>wA h fun h3 h=>g _ _ _ _ _ _ (sv h0) h1 (bc h2) (iU h3)
theorem iU {names wr fz:List Str} {kd:Kd}:∀ {c:CSs} {l:List Stmt},kW names wr fz kd c l=true→fJ names wr fz kd c l
  | .nil,l,h=>fun G g=>b9 h fun Z=>g
  | .cons s r,l,h=>fun G g=>hJ h fun x l h=>wA h fun h2 h=>g _ _ (DT h2) (iU h)
end
noncomputable def g5 (st:Stmt) (sc:Scope) (b:List Stmt):Prop:=∃ n a d r tp ts bd ps,st=.FunctionDef n a b d r tp sc ts bd ps
noncomputable def pO (st:Stmt) (i:Nat) (m:Stmt):Prop:=∃ n a b d r tp sc ts bd ps pz,st=.ClassDef n a b d r tp sc ts (bd) ps (pz)∧d[i]? = some m
noncomputable def ww (d:FDef) (st:Stmt):Bool:=if h:st.ctorIdx=0 then Stmt.FunctionDef.elim (motive_2:=fun Z=>Bool) st h (fun Z Z b Z Z Z sc Z Z Z=>kW d.strs (d.wr.map Str.ofString) (d.fz.map Str.ofString) (cz sc) d.body b) else false
theorem uY {d:FDef} {st:Stmt} (h:ww d st=true):∃ sc b,g5 st sc b∧fJ d.strs (d.wr.map Str.ofString) (d.fz.map Str.ofString) (cz sc) d.body b :=
  fb h fun h'=>Stmt.FunctionDef.elim (motive_2:=fun st=>∀ h',Stmt.FunctionDef.elim (motive_2:=fun Z=>Bool) st h' (fun Z Z b Z Z Z sc Z Z Z=>kW d.strs (d.wr.map Str.ofString) (d.fz.map Str.ofString) (cz sc) d.body b)=true→∃ sc b,g5 st sc b∧fJ d.strs (d.wr.map Str.ofString) (d.fz.map Str.ofString) (cz sc) d.body b) st h'
    (fun n a b dd r tp sc ts bd ps Z h=>⟨sc,b,⟨n,a,dd,r,tp,ts,bd,ps,rfl⟩,iU h⟩) h'
noncomputable def I6 (d:FDef) (k:Nat):Bool:=tP (PySem.Challenge.pw_pf0164_01.main.body[k]?) (ww d)
noncomputable abbrev dq (d:FDef) (k:Nat):Prop:=∃ st sc b,PySem.Challenge.pw_pf0164_01.main.body[k]? = some st∧g5 st sc b∧fJ d.strs (d.wr.map Str.ofString) (d.fz.map Str.ofString) (cz sc) d.body b
theorem bY {d:FDef} {k:Nat} (h:I6 d k=true):dq d k :=
  nr (G:=fun o=>∃ st sc b,o=some st∧g5 st sc b∧fJ d.strs (d.wr.map Str.ofString) (d.fz.map Str.ofString) (cz sc) d.body b) h fun st h=>(uY h).elim fun sc q=>q.elim fun b q=>⟨st,sc,b,rfl,q⟩
noncomputable def Jz (d:FDef) (k i:Nat):Bool:=tP (PySem.Challenge.pw_pf0164_01.main.body[k]?) fun st=>if h:st.ctorIdx=2 then Stmt.ClassDef.elim (motive_2:=fun Z=>Bool) st h (fun Z Z Z l Z Z Z Z Z Z Z=>tP l[i]? (ww d)) else false
noncomputable abbrev rd (d:FDef) (k i:Nat):Prop:=∃ st m sc b,PySem.Challenge.pw_pf0164_01.main.body[k]? = some st∧pO st i m∧g5 m sc b∧fJ d.strs (d.wr.map Str.ofString) (d.fz.map Str.ofString) (cz sc) d.body b
theorem lI {d:FDef} {k i:Nat} (h:Jz d k i=true):rd d k i :=
  nr (G:=fun o=>∃ st m sc b,o=some st∧pO st i m∧g5 m sc b∧fJ d.strs (d.wr.map Str.ofString) (d.fz.map Str.ofString) (cz sc) d.body b) h fun st h =>
    fb h fun h'=>Stmt.ClassDef.elim (motive_2:=fun st=>∀ h',Stmt.ClassDef.elim (motive_2:=fun Z=>Bool) st h' (fun Z Z Z l Z Z Z Z Z Z Z=>tP l[i]? (ww d))=true→∃ st' m sc b,some st=some st'∧pO st' i m∧g5 m sc b∧fJ d.strs (d.wr.map Str.ofString) (d.fz.map Str.ofString) (cz sc) d.body b) st h'
      (fun n a bb l r tp sc ts bd ps pz Z h=>nr (G:=fun o=>o=l[i]? → ∃ st' m sc' b,some (Stmt.ClassDef n a bb l r tp sc ts bd ps pz)=some st'∧pO st' i m∧g5 m sc' b∧fJ d.strs (d.wr.map Str.ofString) (d.fz.map Str.ofString) (cz sc') d.body b) h
        (fun m h e=>(uY h).elim fun sc' q=>q.elim fun b q=>⟨_,m,sc',b,rfl,⟨_,_,_,_,_,_,_,_,_,_,_,rfl,e.symm⟩,q⟩) rfl) h'
theorem rY:dq fZ 3:=bY (by decide +kernel)
theorem zK:dq l5 4:=bY (by decide +kernel)
theorem rX:dq iF 5:=bY (by decide +kernel)
theorem qp:dq dg 6:=bY (by decide +kernel)
theorem wi:dq ii 9:=bY (by decide +kernel)
theorem rV:dq gN 10:=bY (by decide +kernel)
theorem qm:dq eX 11:=bY (by decide +kernel)
theorem o5:dq d7 12:=bY (by decide +kernel)
theorem qS:dq fq 13:=bY (by decide +kernel)
theorem n9:dq ga 14:=bY (by decide +kernel)
theorem mP:dq dv 15:=bY (by decide +kernel)
theorem ux:dq i8 17:=bY (by decide +kernel)
theorem wn:dq kZ 18:=bY (by decide +kernel)
theorem CW:dq m5 21:=bY (by decide +kernel)
theorem Dn:dq jl 22:=bY (by decide +kernel)
theorem Er:dq sn 23:=bY (by decide +kernel)
theorem AS:dq ig 24:=bY (by decide +kernel)
theorem GE:dq nM 25:=bY (by decide +kernel)
theorem FF:dq iy 26:=bY (by decide +kernel)
theorem Fp:dq f_run 27:=bY (by decide +kernel)
theorem Az:dq nF 28:=bY (by decide +kernel)
theorem yE:dq md 29:=bY (by decide +kernel)
theorem Al:dq f_small 30:=bY (by decide +kernel)
theorem yI:dq iZ 31:=bY (by decide +kernel)
theorem AK:dq f_mainL 32:=bY (by decide +kernel)
theorem Ag:dq nN 33:=bY (by decide +kernel)
theorem Do:dq qc 34:=bY (by decide +kernel)
theorem Gv:dq f_law 35:=bY (by decide +kernel)
theorem uQ:rd fx 2 0:=lI (by decide +kernel)
theorem rW:rd im 16 0:=lI (by decide +kernel)
theorem GQ:rd sb 16 1:=lI (by decide +kernel)
theorem uf:rd jh 16 2:=lI (by decide +kernel)
theorem uJ:rd gT 16 3:=lI (by decide +kernel)
end Mine.Internal
namespace Mine.Internal
section
variable {C:Calls} {loc:ae} {mu m m1:Mu}
noncomputable abbrev R1:=Option (Val × Mu)
noncomputable abbrev Rs:=Option (List Val × Mu)
noncomputable abbrev Rx:=Option (Fl × ae × Mu)
noncomputable def mL (m:Mu) (r:Option Val):R1:=r.map (·,m)
theorem ao {v:Val}:mL m (some v)=some (v,m):=rfl
noncomputable def iJ (k:Nat) (r:Option MObj):Val:=(r.bind oF).elim (.r k) .d
theorem af {x:Dat}:norm mu (.d x)=.d x:=rfl
theorem tv {x:Int}:norm mu (.clo x)=.clo x:=rfl
theorem ar {k:Nat}:norm mu (.r k)=iJ k mu[k]? := rfl
theorem lY {k:Nat} {d:Dat}:iJ k (some (.frz d))=.d d:=rfl
theorem bz {k:Nat} {d:List Val}:iJ k (some (.list d))=.r k:=rfl
theorem ci {k:Nat} {d:List W} {x:List Val}:iJ k (some (.sdict d x))=.r k:=rfl
theorem gf {k:Nat} {d:List (Int × Dat)}:iJ k (some (.idict d))=.r k:=rfl
theorem oT {k:Nat} {d:Nat}:iJ k (some (.spots d))=.r k:=rfl
theorem b0 {k:Nat} {c:Cls} {f:List Fld} {x:List Val}:iJ k (some (.inst c f x))=.r k:=rfl
noncomputable def BG (mu:Mu) (r:Option (Option Val)):Option Val:=r.bind fun o=>o.map (norm mu)
theorem ah {i:Nat}:look loc mu i=BG mu loc[i]? := rfl
theorem ag {v:Val}:BG mu (some (some v))=some (norm mu v):=rfl
noncomputable def uw (r:Option MObj):Option (List Val):=r.bind oL
theorem jQ {xs:List Dat}:fP mu (.d (.lst xs))=some (xs.map .d):=rfl
theorem JJ {k:Nat}:fP mu (.r k)=uw mu[k]? := rfl
theorem fo {xs:List Val}:uw (some (.list xs))=some xs:=rfl
theorem ak {i:Nat}:ev C loc mu (.loc i)=mL mu (look loc mu i):=rfl
theorem lO:ev C loc mu .byte=some (.d dp,mu):=rfl
theorem av {i:Int}:ev C loc mu (.int i)=some (.d (.int i),mu):=rfl
theorem aS {i:W}:ev C loc mu (.str i)=some (.d (.str i),mu):=rfl
theorem iN {i:Bool}:ev C loc mu (.bool i)=some (.d (.bool i),mu):=rfl
theorem j5:ev C loc mu .none=some (.d .none,mu):=rfl
noncomputable def wP (m:Mu) (r:Option (List Dat)):R1:=(r.bind f9).map (·,m)
noncomputable def m4 (r:Rs):R1:=r.bind fun (vs,m)=>wP m (bE vs)
theorem bC {es:CEs}:ev C loc mu (.tup es)=m4 (cV C loc mu es):=rfl
theorem K7 {vs:List Val}:m4 (some (vs,m))=wP m (bE vs):=rfl
theorem K9 {ds:List Dat}:wP m (some ds)=mL m (f9 ds):=rfl
theorem jC {ds:List Dat}:f9 ds=if ds.length≤lim then some (.d (.tup ds)) else none:=rfl
noncomputable def kQ (q:Bool) (r:Rs):R1:=r.bind fun (vs,m)=>cx q m vs (bE vs)
theorem bF {q:Bool} {es:CEs}:ev C loc mu (.list q es)=kQ q (cV C loc mu es):=rfl
theorem JN {q:Bool} {vs:List Val}:kQ q (some (vs,m))=cx q m vs (bE vs):=rfl
theorem cf {xs:List Val} {f:Option (List Dat)}:cx true mu xs f=if xs.length≤lim then some (.r mu.length,mu++[.list xs]) else none:=rfl
theorem b5 {xs:List Val} {f:List Dat}:cx false mu xs (some f)=if xs.length≤lim then some (.d (.lst f),mu) else none:=rfl
noncomputable def wm (q:Bool) (o:Bop) (x:Val) (r:R1):R1:=r.bind fun (y,m)=>fG m q o x y
noncomputable def E2 (C:Calls) (loc:ae) (q:Bool) (o:Bop) (b:CE) (r:R1):R1:=r.bind fun (x,m)=>wm q o x (ev C loc m b)
theorem b8 {q:Bool} {o:Bop} {a b:CE}:ev C loc mu (.bin q o a b)=E2 C loc q o b (ev C loc mu a):=rfl
theorem bO {q:Bool} {o:Bop} {b:CE} {x:Val}:E2 C loc q o b (some (x,m))=wm q o x (ev C loc m b):=rfl
theorem bQ {q:Bool} {o:Bop} {x y:Val}:wm q o x (some (y,m))=fG m q o x y:=rfl
noncomputable def Gh (r:R1):R1:=r.bind fun (x,m)=>(vI x).map fun i=>(.d (.int (-i)),m)
theorem xI {a:CE}:ev C loc mu (.neg a)=Gh (ev C loc mu a):=rfl
theorem uh {i:Int}:Gh (some (.d (.int i),m))=some (.d (.int (-i)),m):=rfl
noncomputable def wa (m:Mu) (r:Option Bool):R1:=r.map fun b=>(.d (.bool b),m)
noncomputable def xl (o:Cop) (x:Val) (r:R1):R1:=r.bind fun (y,m)=>wa m (dY m o x y)
noncomputable def EO (C:Calls) (loc:ae) (o:Cop) (b:CE) (r:R1):R1:=r.bind fun (x,m)=>xl o x (ev C loc m b)
theorem aP {o:Cop} {a b:CE}:ev C loc mu (.cmp o a b)=EO C loc o b (ev C loc mu a):=rfl
theorem aB {o:Cop} {b:CE} {x:Val}:EO C loc o b (some (x,m))=xl o x (ev C loc m b):=rfl
theorem az {o:Cop} {x y:Val}:xl o x (some (y,m))=wa m (dY m o x y):=rfl
theorem ax {b:Bool}:wa m (some b)=some (.d (.bool b),m):=rfl
noncomputable def ny (r:R1):R1:=r.bind fun (x,m)=>(lZ x).map fun b=>(.d (.bool b),m)
theorem kN {a:CE}:ev C loc mu (.isN a)=ny (ev C loc mu a):=rfl
theorem Ff:ny (some (.d .none,m))=some (.d (.bool true),m):=rfl
theorem zi {x:Int}:ny (some (.d (.int x),m))=some (.d (.bool false),m):=rfl
theorem yY {x:List Dat}:ny (some (.d (.tup x),m))=some (.d (.bool false),m):=rfl
theorem Kh {x:W}:ny (some (.d (.str x),m))=some (.d (.bool false),m):=rfl
theorem Ec {k:Nat}:ny (some (.r k,m))=some (.d (.bool false),m):=rfl
theorem KZ {x:List Dat}:ny (some (.d (.lst x),m))=some (.d (.bool false),m):=rfl
noncomputable def Au (r:R1):R1:=r.bind fun (x,m)=>(lZ x).map fun b=>(.d (.bool !b),m)
theorem nQ {a:CE}:ev C loc mu (.notN a)=Au (ev C loc mu a):=rfl
theorem tA:Au (some (.d .none,m))=some (.d (.bool false),m):=rfl
theorem uA {x:W}:Au (some (.d (.str x),m))=some (.d (.bool true),m):=rfl
theorem mq {es:CEs}:ev C loc mu (.and es)=gz C loc mu es:=rfl
theorem j6 {es:CEs}:ev C loc mu (.or es)=iO C loc mu es:=rfl
noncomputable def Bm (C:Calls) (loc:ae) (r:CEs) (v:R1):R1:=v.bind fun (v,m)=>(dh v).bind fun b=>if b then gz C loc m r else some (v,m)
noncomputable def E5 (C:Calls) (loc:ae) (r:CEs) (v:R1):R1:=v.bind fun (v,m)=>(dh v).bind fun b=>if b then some (v,m) else iO C loc m r
theorem tz {e:CE}:gz C loc mu (.cons e .nil)=ev C loc mu e:=rfl
theorem kw {e f:CE} {r:CEs}:gz C loc mu (.cons e (.cons f r))=Bm C loc (.cons f r) (ev C loc mu e):=rfl
theorem pN {r:CEs}:Bm C loc r (some (.d (.bool true),m))=gz C loc m r:=rfl
theorem nh {r:CEs}:Bm C loc r (some (.d (.bool false),m))=some (.d (.bool false),m):=rfl
theorem i9 {e:CE}:iO C loc mu (.cons e .nil)=ev C loc mu e:=rfl
theorem iH {e f:CE} {r:CEs}:iO C loc mu (.cons e (.cons f r))=E5 C loc (.cons f r) (ev C loc mu e):=rfl
theorem Ha {r:CEs}:E5 C loc r (some (.d (.bool true),m))=some (.d (.bool true),m):=rfl
theorem ja {r:CEs}:E5 C loc r (some (.d (.bool false),m))=iO C loc m r:=rfl
noncomputable def Fy (r:R1):R1:=r.bind fun (x,m)=>(dh x).map fun b=>(.d (.bool !b),m)
theorem pq {a:CE}:ev C loc mu (.not a)=Fy (ev C loc mu a):=rfl
theorem mT {b:Bool}:Fy (some (.d (.bool b),m))=some (.d (.bool !b),m):=rfl
noncomputable def Bo (C:Calls) (loc:ae) (a b:CE) (r:R1):R1:=r.bind fun (x,m)=>(dh x).bind fun c=>if c then ev C loc m a else ev C loc m b
theorem dW {t a b:CE}:ev C loc mu (.ifx t a b)=Bo C loc a b (ev C loc mu t):=rfl
theorem gL {a b:CE}:Bo C loc a b (some (.d (.bool true),m))=ev C loc m a:=rfl
theorem eZ {a b:CE}:Bo C loc a b (some (.d (.bool false),m))=ev C loc m b:=rfl
noncomputable def xU (mu:Mu) (f:Fld) (r:Option MObj):Option Val:=(r.bind oO).bind fun q=>(c9 f q.2.1 q.2.2).map (norm mu)
theorem JI {c:Cls} {fs:List Fld} {xs:List Dat} {f:Fld}:fu mu (.d (.obj c fs xs)) f=(c9 f fs xs).map .d:=rfl
theorem c3 {k:Nat} {f:Fld}:fu mu (.r k) f=xU mu f mu[k]? := rfl
theorem cM {c:Cls} {fs:List Fld} {xs:List Val} {f:Fld}:xU mu f (some (.inst c fs xs))=(c9 f fs xs).map (norm mu):=rfl
noncomputable def Ck (f:Fld) (r:R1):R1:=r.bind fun (x,m)=>mL m (fu m x f)
theorem bG {a:CE} {f:Fld}:ev C loc mu (.attr a f)=Ck f (ev C loc mu a):=rfl
theorem bu {f:Fld} {x:Val}:Ck f (some (x,m))=mL m (fu m x f):=rfl
noncomputable def wH (x:Val) (r:R1):R1:=r.bind fun (y,m)=>mL m (aX m x y)
noncomputable def FN (C:Calls) (loc:ae) (i:CE) (r:R1):R1:=r.bind fun (x,m)=>wH x (ev C loc m i)
theorem aQ {a i:CE}:ev C loc mu (.sub a i)=FN C loc i (ev C loc mu a):=rfl
theorem ay {i:CE} {x:Val}:FN C loc i (some (x,m))=wH x (ev C loc m i):=rfl
theorem aA {x y:Val}:wH x (some (y,m))=mL m (aX m x y):=rfl
noncomputable def nb {α:Type} (xs:List α) (r:Option Nat):Option α:=r.bind fun j=>xs[j]?
theorem dE {α:Type} {xs:List α} {j:Nat}:nb xs (some j)=xs[j]? := rfl
theorem KH {xs:List Dat} {k:Int}:aX mu (.d (.tup xs)) (.d (.int k))=(nb xs (cU k xs.length)).map .d:=by show (cU k xs.length).bind (fun j=>xs[j]?.map Val.d)=_; unfold nb; cases cU k xs.length <;> rfl
theorem dF {xs:List Dat} {k:Int}:aX mu (.d (.lst xs)) (.d (.int k))=(nb xs (cU k xs.length)).map .d:=by show (cU k xs.length).bind (fun j=>xs[j]?.map Val.d)=_; unfold nb; cases cU k xs.length <;> rfl
theorem js {ks:List W} {xs:List Dat} {w:W}:aX mu (.d (.dct ks xs)) (.d (.str w))=(c9 w ks xs).map .d:=rfl
noncomputable def wq (mu:Mu) (k:Int) (r:Option MObj):Option Val:=(r.bind oL).bind fun xs=>(nb xs (cU k xs.length)).map (norm mu)
theorem qa {a:Nat} {k:Int}:aX mu (.r a) (.d (.int k))=wq mu k mu[a]? := by
  show ((mu[a]?).bind oL).bind (fun xs=>(cU k xs.length).bind fun j=>xs[j]?.map (norm mu))=_
  unfold wq nb
  cases (mu[a]?).bind oL with
  | none=>rfl
  | some xs=>show (cU k xs.length).bind _=Option.map _ ((cU k xs.length).bind _); cases cU k xs.length <;> rfl
theorem nR {k:Int} {xs:List Val}:wq mu k (some (.list xs))=(nb xs (cU k xs.length)).map (norm mu):=rfl
noncomputable def BB (mu:Mu) (w:W) (r:Option MObj):Option Val:=(r.bind oD).bind fun q=>(c9 w q.1 q.2).map (norm mu)
theorem gk {a:Nat} {w:W}:aX mu (.r a) (.d (.str w))=BB mu w mu[a]? := rfl
theorem fk {ks:List W} {xs:List Val} {w:W}:BB mu w (some (.sdict ks xs))=(c9 w ks xs).map (norm mu):=rfl
theorem bX {i:Int} {n:Nat}:cU i n=if 0≤i∧i.toNat < n∧i.toNat < lim then some i.toNat else none:=rfl
noncomputable def pT (x:Val) (r:R1):R1:=r.bind fun (y,m)=>(vT x).bind fun xs=>(vI y).bind fun k=>if 1≤k∧k≤8∧k.toNat≤xs.length then mL m (f9 (xs.drop k.toNat)) else none
noncomputable def FV (C:Calls) (loc:ae) (i:CE) (r:R1):R1:=r.bind fun (x,m)=>pT x (ev C loc m i)
theorem qt {a i:CE}:ev C loc mu (.slo a i)=FV C loc i (ev C loc mu a):=rfl
theorem nk {i:CE} {x:Val}:FV C loc i (some (x,m))=pT x (ev C loc m i):=rfl
theorem KL {xs:List Dat} {k:Int}:pT (.d (.tup xs)) (some (.d (.int k),m))=if 1≤k∧k≤8∧k.toNat≤xs.length then mL m (f9 (xs.drop k.toNat)) else none:=rfl
noncomputable def CB (C:Calls) (f:Fn) (r:Rs):R1:=r.bind fun (vs,m)=>C f vs m
theorem aN {f:Fn} {es:CEs}:ev C loc mu (.call f es)=CB C f (cV C loc mu es):=rfl
theorem aE {f:Fn} {vs:List Val}:CB C f (some (vs,m))=C f vs m:=rfl
noncomputable def xt (m:Mu) (r:R1):R1:=r.bind fun (x,m1)=>(vN x).map fun Z=>(.r m.length,m1)
noncomputable def ET (C:Calls) (c:Cls) (r:Rs):R1:=r.bind fun (vs,m)=>xt m (C c.init (.r m.length::vs) (m++[.inst c [] []]))
theorem mB {c:Cls} {es:CEs}:ev C loc mu (.new c es)=ET C c (cV C loc mu es):=rfl
theorem j7 {c:Cls} {vs:List Val}:ET C c (some (vs,m))=xt m (C c.init (.r m.length::vs) (m++[.inst c [] []])):=rfl
theorem j0:xt m (some (.d .none,m1))=some (.r m.length,m1):=rfl
theorem Dj:Cls.init .body=.initBody:=rfl
theorem DR:Cls.init .caller=.initCaller:=rfl
noncomputable def sS (C:Calls) (f:Fn) (k:Nat) (r:Rs):R1:=r.bind fun (vs,m)=>C f (.r k::vs) m
noncomputable def t4 (C:Calls) (loc:ae) (f:Fn) (es:CEs) (k:Nat) (m:Mu) (r:Option MObj):R1:=(r.bind r8).bind fun Z=>sS C f k (cV C loc m es)
noncomputable def Ch (C:Calls) (loc:ae) (f:Fn) (es:CEs) (r:R1):R1:=r.bind fun (x,m)=>(vR x).bind fun k=>t4 C loc f es k m m[k]?
theorem lE {e:CE} {f:Fn} {es:CEs}:ev C loc mu (.meth e f es)=Ch C loc f es (ev C loc mu e):=rfl
theorem jV {f:Fn} {es:CEs} {k:Nat}:Ch C loc f es (some (.r k,m))=t4 C loc f es k m m[k]? := rfl
theorem jU {f:Fn} {es:CEs} {k:Nat} {xs:List Val}:t4 C loc f es k m (some (.inst .caller [.body] xs))=sS C f k (cV C loc m es):=rfl
theorem jS {f:Fn} {k:Nat} {vs:List Val}:sS C f k (some (vs,m))=C f (.r k::vs) m:=rfl
noncomputable def BN (r:Rs):R1:=r.bind fun (vs,m)=>vW m vs
theorem Fr {es:CEs}:ev C loc mu (.bi .dict es)=BN (cV C loc mu es):=rfl
theorem DF:BN (some ([.d (.spots 0)],m))=some (.r m.length,m++[.spots 0]):=rfl
noncomputable def sY (b:Bi) (r:Rs):R1:=r.bind fun (vs,m)=>mL m (bi m b vs)
theorem dH {es:CEs}:ev C loc mu (.bi .len es)=sY .len (cV C loc mu es):=rfl
theorem vd {es:CEs}:ev C loc mu (.bi .max es)=sY .max (cV C loc mu es):=rfl
theorem lj {es:CEs}:ev C loc mu (.bi .int es)=sY .int (cV C loc mu es):=rfl
theorem lW {es:CEs}:ev C loc mu (.bi .sum es)=sY .sum (cV C loc mu es):=rfl
theorem gn {es:CEs}:ev C loc mu (.bi .tuple es)=sY .tuple (cV C loc mu es):=rfl
theorem gm {es:CEs}:ev C loc mu (.bi .range es)=sY .range (cV C loc mu es):=rfl
theorem cg {b:Bi} {vs:List Val}:sY b (some (vs,m))=mL m (bi m b vs):=rfl
noncomputable def xn (r:Option (List Val)):Option Val:=r.bind fun xs=>if xs.length≤lim then some (.d (.int xs.length)) else none
theorem Le {xs:List Dat}:bi mu .len [.d (.tup xs)]=if xs.length≤lim then some (.d (.int xs.length)) else none:=rfl
theorem gi {xs:List Dat}:bi mu .len [.d (.lst xs)]=if xs.length≤lim then some (.d (.int xs.length)) else none:=by
  show xn (some (xs.map .d))=_; unfold xn; simp
theorem j8 {k:Nat}:bi mu .len [.r k]=xn (uw mu[k]?):=rfl
theorem kB {xs:List Val}:xn (some xs)=if xs.length≤lim then some (.d (.int xs.length)) else none:=rfl
theorem BX {x y:Int}:bi mu .max [.d (.int x),.d (.int y)]=some (.d (.int (if x < y then y else x))):=rfl
theorem mV {b:Bool}:bi mu .int [.d (.bool b)]=some (.d (.int (if b then 1 else 0))):=rfl
theorem pJ {xs:List Dat}:bi mu .sum [.d (.lst xs)]=(gr xs).map fun is=>.d (.int is.sum):=rfl
theorem Ed {xs:List Dat}:bi mu .tuple [.d (.tup xs)]=some (.d (.tup xs)):=rfl
noncomputable def Eo (r:Option (List Dat)):Option Val:=r.bind f9
theorem j2 {xs:List Dat}:bE (xs.map Val.d)=some xs:=by
  induction xs with
  | nil=>rfl
  | cons x xs ih=>rw [List.map_cons,Gq,ih]; rfl
theorem qr {xs:List Dat}:bi mu .tuple [.d (.lst xs)]=f9 xs:=by
  show (bE (xs.map Val.d)).bind f9=_; rw [j2]; rfl
noncomputable def Fg (r:Option (List Val)):Option Val:=r.bind fun xs=>Eo (bE xs)
theorem pV {k:Nat}:bi mu .tuple [.r k]=Fg (uw mu[k]?):=rfl
theorem nJ {xs:List Val}:Fg (some xs)=Eo (bE xs):=rfl
theorem nV {xs:List Dat}:Eo (some xs)=f9 xs:=rfl
theorem jq {b:Int}:bi mu .range [.d (.int b)]=some (.d (.rng 0 b 1)):=rfl
theorem FX {a b:Int}:bi mu .range [.d (.int a),.d (.int b)]=some (.d (.rng a b 1)):=rfl
theorem Ef {a b c:Int}:bi mu .range [.d (.int a),.d (.int b),.d (.int c)]=if c = -1∧jy a b=true then some (.d (.rng a b c)) else none:=rfl
noncomputable def xb (q:Bool) (m:Mu) (r:Option (List Val)):R1:=r.bind fun xs=>cx q m xs (bE xs)
noncomputable def xJ (q:Bool) (r:R1):R1:=r.bind fun (x,m)=>xb q m (nX m x)
theorem jG {q:Bool} {e:CE}:ev C loc mu (.toList q e)=xJ q (ev C loc mu e):=rfl
theorem pU {q:Bool} {xs:List Dat}:xJ q (some (.d (.lst xs),m))=cx q m (xs.map .d) (some xs):=by show cx q m _ (bE (xs.map Val.d))=_; rw [j2]
theorem s0 {q:Bool} {xs:List Dat}:xJ q (some (.d (.tup xs),m))=cx q m (xs.map .d) (some xs):=by show cx q m _ (bE (xs.map Val.d))=_; rw [j2]
theorem xW {q:Bool} {a b c:Int}:xJ q (some (.d (.rng a b c),m))=xb q m ((items (.rng a b c)).map fun xs=>xs.map Val.d):=rfl
theorem zJ {q:Bool} {xs:List Val}:xb q m (some xs)=cx q m xs (bE xs):=rfl
noncomputable def wM (k:Nat) (v:Val) (m:Mu) (r:Option MObj):R1:=(r.bind oL).bind fun xs=>if xs.length < lim then some (.d .none,m.set k (.list (xs++[v]))) else none
noncomputable def pi (o:Val) (r:R1):R1:=r.bind fun (v,m)=>(vR o).bind fun k=>wM k v m m[k]?
noncomputable def wR (C:Calls) (loc:ae) (x:CE) (k:Nat) (m:Mu) (r:Option MObj):R1:=(r.bind oL).bind fun Z=>pi (.r k) (ev C loc m x)
noncomputable def El (C:Calls) (loc:ae) (x:CE) (r:R1):R1:=r.bind fun (o,m)=>if mJ m o=false then none else pi o (ev C loc m x)
theorem ej {e x:CE}:ev C loc mu (.app e x)=El C loc x (ev C loc mu e):=rfl
theorem da {x:CE} {k:Nat}:El C loc x (some (.r k,m))=wR C loc x k m m[k]? := by
  show (if AA m[k]? = false then none else pi (.r k) (ev C loc m x))=wR C loc x k m m[k]?
  cases m[k]? with
  | none=>rfl
  | some ob=>cases ob <;> rfl
theorem db {x:CE} {k:Nat} {xs:List Val}:wR C loc x k m (some (.list xs))=pi (.r k) (ev C loc m x):=rfl
theorem de {k:Nat} {v:Val}:pi (.r k) (some (v,m))=wM k v m m[k]? := rfl
theorem df {k:Nat} {v:Val} {xs:List Val}:wM k v m (some (.list xs))=if xs.length < lim then some (.d .none,m.set k (.list (xs++[v]))) else none:=rfl
noncomputable def xz (k:Nat) (ds:List Dat) (m:Mu) (r:Option MObj):R1:=(r.bind oL).bind fun xs=>if xs.length+ds.length≤lim then some (.d .none,m.set k (.list (xs++ds.map .d))) else none
noncomputable def pQ (o:Val) (r:R1):R1:=r.bind fun (v,m)=>(vR o).bind fun k=>(vL v).bind fun ds=>xz k ds m m[k]?
noncomputable def xA (C:Calls) (loc:ae) (x:CE) (k:Nat) (m:Mu) (r:Option MObj):R1:=(r.bind oL).bind fun Z=>pQ (.r k) (ev C loc m x)
noncomputable def F0 (C:Calls) (loc:ae) (x:CE) (r:R1):R1:=r.bind fun (o,m)=>if mJ m o=false then none else pQ o (ev C loc m x)
theorem BM {e x:CE}:ev C loc mu (.ext e x)=F0 C loc x (ev C loc mu e):=rfl
theorem zq {x:CE} {k:Nat}:F0 C loc x (some (.r k,m))=xA C loc x k m m[k]? := by
  show (if AA m[k]? = false then none else pQ (.r k) (ev C loc m x))=xA C loc x k m m[k]?
  cases m[k]? with
  | none=>rfl
  | some ob=>cases ob <;> rfl
theorem zh {x:CE} {k:Nat} {xs:List Val}:xA C loc x k m (some (.list xs))=pQ (.r k) (ev C loc m x):=rfl
theorem zu {k:Nat} {ds:List Dat}:pQ (.r k) (some (.d (.lst ds),m))=xz k ds m m[k]? := rfl
theorem yi {k:Nat} {ds:List Dat} {xs:List Val}:xz k ds m (some (.list xs))=if xs.length+ds.length≤lim then some (.d .none,m.set k (.list (xs++ds.map .d))) else none:=rfl
noncomputable def xc (k:Nat) (m:Mu) (r:Option MObj):R1:=(r.bind oL).bind fun l=>w0 k m l
noncomputable def FL (r:R1):R1:=r.bind fun (o,m)=>(vR o).bind fun k=>xc k m m[k]?
theorem HA {e:CE}:ev C loc mu (.pop0 e)=FL (ev C loc mu e):=rfl
theorem GU {k:Nat}:FL (some (.r k,m))=xc k m m[k]? := rfl
theorem GC {k:Nat} {x:Val} {xs:List Val}:xc k m (some (.list (x::xs)))=if xs.length < lim then some (x,m.set k (.list xs)) else none:=rfl
noncomputable def wv (i:Int) (m:Mu) (r:Option MObj):R1:=(r.bind oI).map fun ks=>(.d ((ks.lookup i).getD .none),m)
noncomputable def sq (o:Val) (r:R1):R1:=r.bind fun (x,m)=>(vR o).bind fun a=>(vI x).bind fun i=>wv i m m[a]?
noncomputable def BK (C:Calls) (loc:ae) (x:CE) (k:Nat) (m:Mu) (b:Bool):R1:=if b=false then none else sq (.r k) (ev C loc m x)
noncomputable def EF (C:Calls) (loc:ae) (x:CE) (r:R1):R1:=r.bind fun (o,m)=>if jB m o=false then none else sq o (ev C loc m x)
theorem sg {e x:CE}:ev C loc mu (.get e x)=EF C loc x (ev C loc mu e):=rfl
theorem pw {x:CE} {k:Nat}:EF C loc x (some (.r k,m))=BK C loc x k m (ni m[k]?):=rfl
theorem pv {x:CE} {k:Nat}:BK C loc x k m true=sq (.r k) (ev C loc m x):=rfl
theorem j1 {ks:List (Int × Dat)}:ni (some (.idict ks))=true:=rfl
theorem E1 {n:Nat}:ni (some (.spots n))=true:=rfl
theorem pC {k:Nat} {i:Int}:sq (.r k) (some (.d (.int i),m))=wv i m m[k]? := rfl
theorem pI {i:Int} {ks:List (Int × Dat)}:wv i m (some (.idict ks))=some (.d ((ks.lookup i).getD .none),m):=rfl
noncomputable def Gp (i:Int) (z:Dat) (m:Mu) (r:Option MObj):R1:=(r.bind oI).map fun ks=>(.d ((ks.lookup i).getD z),m)
noncomputable def Gy (m:Mu) (r:Option MObj):R1:=(r.bind oP).map fun Z=>(.d .any,m)
noncomputable def v7 (o x:Val) (r:R1):R1:=r.bind fun (z,m)=>(vR o).bind fun a=>xO a x z m
noncomputable def vX (C:Calls) (loc:ae) (d:CE) (o:Val) (r:R1):R1:=r.bind fun (x,m)=>v7 o x (ev C loc m d)
noncomputable def E0 (C:Calls) (loc:ae) (x d:CE) (k:Nat) (m:Mu) (b:Bool):R1:=if b=false then none else vX C loc d (.r k) (ev C loc m x)
noncomputable def IM (C:Calls) (loc:ae) (x d:CE) (r:R1):R1:=r.bind fun (o,m)=>if jB m o=false then none else vX C loc d o (ev C loc m x)
theorem A2 {e x d:CE}:ev C loc mu (.getd e x d)=IM C loc x d (ev C loc mu e):=rfl
theorem xM {x d:CE} {k:Nat}:IM C loc x d (some (.r k,m))=E0 C loc x d k m (ni m[k]?):=rfl
theorem wJ {x d:CE} {k:Nat}:E0 C loc x d k m true=vX C loc d (.r k) (ev C loc m x):=rfl
theorem wF {d:CE} {o x:Val}:vX C loc d o (some (x,m))=v7 o x (ev C loc m d):=rfl
theorem BH {k:Nat} {i:Int} {z:Dat}:v7 (.r k) (.d (.int i)) (some (.d z,m))=Gp i z m m[k]? := rfl
theorem HU {k:Nat} {i j:Int}:v7 (.r k) (.d (.tup [.int i,.int j])) (some (.d (.int 0),m))=Gy m m[k]? := rfl
theorem CC {i:Int} {z:Dat} {ks:List (Int × Dat)}:Gp i z m (some (.idict ks))=some (.d ((ks.lookup i).getD z),m):=rfl
theorem G9 {n:Nat}:Gy m (some (.spots n))=some (.d .any,m):=rfl
noncomputable def By (a:Nat) (i:Int) (m:Mu) (r:Option MObj):R1:=(r.bind oI).bind fun ks=>if ks.length≤lim then some (.d ((ks.lookup i).getD .none),m.set a (.idict (cO i ks))) else none
noncomputable def v9 (o:Val) (r:R1):R1:=r.bind fun (x,m)=>(vR o).bind fun a=>(vI x).bind fun i=>By a i m m[a]?
noncomputable def EA (C:Calls) (loc:ae) (x:CE) (k:Nat) (m:Mu) (b:Bool):R1:=if b=false then none else v9 (.r k) (ev C loc m x)
noncomputable def Iw (C:Calls) (loc:ae) (x:CE) (r:R1):R1:=r.bind fun (o,m)=>if jB m o=false then none else v9 o (ev C loc m x)
theorem Jh {e x:CE}:ev C loc mu (.popd e x)=Iw C loc x (ev C loc mu e):=rfl
theorem Hq {x:CE} {k:Nat}:Iw C loc x (some (.r k,m))=EA C loc x k m (ni m[k]?):=rfl
theorem Hz {x:CE} {k:Nat}:EA C loc x k m true=v9 (.r k) (ev C loc m x):=rfl
theorem Hx {k:Nat} {i:Int}:v9 (.r k) (some (.d (.int i),m))=By k i m m[k]? := rfl
theorem HQ {k:Nat} {i:Int} {ks:List (Int × Dat)}:By k i m (some (.idict ks))=if ks.length≤lim then some (.d ((ks.lookup i).getD .none),m.set k (.idict (cO i ks))) else none:=rfl
noncomputable abbrev Ro:=Option (Option Val × Mu)
noncomputable def sJ (r:R1):Ro:=r.map fun (v,m)=>(some v,m)
noncomputable def qP (C:Calls) (e:CE):ae→Mu→Ro:=fun l m=>sJ (ev C l m e)
noncomputable def vY (C:Calls) (e:CE) (l:ae) (r:R1):Ro:=r.bind fun (t,m)=>(dh t).bind fun b=>if b then sJ (ev C l m e) else some (none,m)
noncomputable def l7 (C:Calls) (e c:CE):ae→Mu→Ro:=fun l m=>vY C e l (ev C l m c)
theorem eF {e:CE}:qP C e loc mu=sJ (ev C loc mu e):=rfl
theorem dk {v:Val}:sJ (some (v,m))=some (some v,m):=rfl
theorem d6 {e c:CE}:l7 C e c loc mu=vY C e loc (ev C loc mu c):=rfl
theorem ku {e:CE}:vY C e loc (some (.d (.bool true),m))=sJ (ev C loc m e):=rfl
theorem jm {e:CE}:vY C e loc (some (.d (.bool false),m))=some (none,m):=rfl
noncomputable def ur (q:Bool) (r:Rs):R1:=r.bind fun (vs,m)=>cx q m vs (bE vs)
noncomputable def sG (q:Bool) (f:ae→Mu→Ro) (ts:List Nat) (loc:ae) (m:Mu) (r:Option (List Dat)):R1:=r.bind fun xs=>ur q (cB f ts xs loc m)
noncomputable def wk (q:Bool) (f:ae→Mu→Ro) (ts:List Nat) (loc:ae) (r:R1):R1:=r.bind fun (x,m)=>sG q f ts loc m (fF x)
theorem d4 {q:Bool} {e it:CE} {ts:List Nat}:ev C loc mu (.comp q e ts it)=wk q (qP C e) ts loc (ev C loc mu it):=rfl
theorem hH {e it c:CE} {ts:List Nat}:ev C loc mu (.compif e ts it c)=wk false (l7 C e c) ts loc (ev C loc mu it):=rfl
theorem cp {q:Bool} {f:ae→Mu→Ro} {ts:List Nat} {x:Val}:wk q f ts loc (some (x,m))=sG q f ts loc m (fF x):=rfl
theorem cm {q:Bool} {f:ae→Mu→Ro} {ts:List Nat} {xs:List Dat}:sG q f ts loc m (some xs)=ur q (cB f ts xs loc m):=rfl
theorem cn {q:Bool} {vs:List Val}:ur q (some (vs,m))=cx q m vs (bE vs):=rfl
noncomputable def xG (v:Option Val) (r:Rs):Rs:=r.bind fun (vs,m2)=>some (v.toList++vs,m2)
noncomputable def AU (f:ae→Mu→Ro) (ts:List Nat) (xs:List Dat) (l1:ae) (r:Ro):Rs:=r.bind fun (v,m1)=>xG v (cB f ts xs l1 m1)
noncomputable def G6 (f:ae→Mu→Ro) (ts:List Nat) (xs:List Dat) (mu:Mu) (r:Option ae):Rs:=r.bind fun l1=>AU f ts xs l1 (f l1 mu)
theorem gx {f:ae→Mu→Ro} {ts:List Nat}:cB f ts [] loc mu=some ([],mu):=rfl
theorem eD {f:ae→Mu→Ro} {ts:List Nat} {x:Dat} {xs:List Dat}:cB f ts (x::xs) loc mu=G6 f ts xs mu (b4 ts x loc):=rfl
theorem c5 {f:ae→Mu→Ro} {ts:List Nat} {xs:List Dat} {l1:ae}:G6 f ts xs mu (some l1)=AU f ts xs l1 (f l1 mu):=rfl
theorem cX {f:ae→Mu→Ro} {ts:List Nat} {xs:List Dat} {l1:ae} {v:Option Val}:AU f ts xs l1 (some (v,m))=xG v (cB f ts xs l1 m):=rfl
theorem eJ {v:Val} {vs:List Val}:xG (some v) (some (vs,m))=some (v::vs,m):=rfl
theorem wj {vs:List Val}:xG none (some (vs,m))=some (vs,m):=rfl
theorem dX {xs:List Dat}:fF (.d (.lst xs))=some xs:=rfl
theorem iv {xs:List Dat}:fF (.d (.tup xs))=some xs:=rfl
theorem jg {a b c:Int}:fF (.d (.rng a b c))=items (.rng a b c):=rfl
theorem B0 {xs:List Dat}:ky (.d (.lst xs))=some xs:=rfl
theorem H3 {xs:List Dat}:ky (.d (.tup xs))=some xs:=rfl
noncomputable def EE (m:Mu) (r:Option Val):R1:=r.bind fun v=>(vI v).map fun k=>(.clo k,m)
theorem xa {i:Nat}:ev C loc mu (.lam i)=EE mu (look loc mu i):=rfl
theorem ue {k:Int}:EE m (some (.d (.int k)))=some (.clo k,m):=rfl
noncomputable def Aw (v:Val) (r:R1):R1:=r.bind fun (y,m)=>(vC v).bind fun k=>(vI y).map fun b=>(.d (.int (b+k)),m)
noncomputable def IV (C:Calls) (loc:ae) (mu:Mu) (x:CE) (r:Option Val):R1:=r.bind fun v=>Aw v (ev C loc mu x)
theorem vQ {i:Nat} {x:CE}:ev C loc mu (.callv i x)=IV C loc mu x (look loc mu i):=rfl
theorem tg {x:CE} {v:Val}:IV C loc mu x (some v)=Aw v (ev C loc mu x):=rfl
theorem th {k b:Int}:Aw (.clo k) (some (.d (.int b),m))=some (.d (.int (b+k)),m):=rfl
theorem tD:ev C loc mu .emptyI=some (.r mu.length,mu++[.idict []]):=rfl
theorem Ba:ev C loc mu .emptyP=some (.r mu.length,mu++[.spots 0]):=rfl
noncomputable def Bv (ws:List W) (m:Mu) (r:Option (List Dat)):R1:=r.map fun ds=>(.d (.dct ws ds),m)
noncomputable def Gf (fr:Bool) (ws:List W) (r:Rs):R1:=r.bind fun (vs,m)=>if ws.length=vs.length∧ws.Nodup∧ws.length≤8 then
      (if fr then Bv ws m (bE vs) else some (.r m.length,m++[.sdict ws vs])) else none
theorem kA {fr:Bool} {ws:List W} {es:CEs}:ev C loc mu (.sdisp fr ws es)=Gf fr ws (cV C loc mu es):=rfl
theorem jD {ws:List W} {vs:List Val}:Gf true ws (some (vs,m))=if ws.length=vs.length∧ws.Nodup∧ws.length≤8 then Bv ws m (bE vs) else none:=rfl
theorem Cg {ws:List W} {vs:List Val}:Gf false ws (some (vs,m))=if ws.length=vs.length∧ws.Nodup∧ws.length≤8 then some (.r m.length,m++[.sdict ws vs]) else none:=rfl
theorem jN {ws:List W} {ds:List Dat}:Bv ws m (some ds)=some (.d (.dct ws ds),m):=rfl
noncomputable def Br (r:Option (Dat × Mu)):R1:=r.map fun (d,m)=>(.d d,m)
noncomputable def IU (r:R1):R1:=r.bind fun (v,m)=>Br (freeze 4 m v)
theorem gw {e:CE}:ev C loc mu (.frz e)=IU (ev C loc mu e):=rfl
theorem fB {v:Val}:IU (some (v,m))=Br (freeze 4 m v):=rfl
theorem fy {d:Dat}:Br (some (d,m))=some (.d d,m):=rfl
noncomputable abbrev uS:=Option (Dat × Mu)
noncomputable abbrev zy:=Option (List Dat × Mu)
noncomputable def v8 (i:Nat) (ds:List Dat) (m1:Mu) (r:Option MObj):uS:=(r.bind oL).map fun Z=>(.lst ds,m1.set i (.frz (.lst ds)))
noncomputable def Fd (i:Nat) (r:zy):uS:=r.bind fun (ds,m1)=>v8 i ds m1 m1[i]?
noncomputable def vZ (i:Nat) (c:Cls) (fs:List Fld) (ds:List Dat) (m1:Mu) (r:Option MObj):uS:=(r.bind oO).map fun Z=>(.obj c fs ds,m1.set i (.frz (.obj c fs ds)))
noncomputable def FP (i:Nat) (c:Cls) (fs:List Fld) (r:zy):uS:=r.bind fun (ds,m1)=>vZ i c fs ds m1 m1[i]?
noncomputable def y4 (n i:Nat) (mu:Mu) (r:Option MObj):uS:=r.bind fun ob=>tC (pj (freeze n)) i mu ob
theorem lN {n:Nat} {x:Dat}:freeze (n+1) mu (.d x)=some (x,mu):=rfl
theorem cR {n k:Nat}:freeze (n+1) mu (.r k)=y4 n k mu mu[k]? := rfl
theorem KU {n k:Nat} {d:Dat}:y4 n k mu (some (.frz d))=if d.isB then none else some (d,mu):=rfl
theorem uo {n k b:Nat}:y4 n k mu (some (.spots b))=some (.spots b,mu.set k (.frz (.spots b))):=rfl
theorem gD {n k:Nat} {xs:List Val}:y4 n k mu (some (.list xs))=Fd k (freeze.go n mu xs):=rfl
theorem ta {n k:Nat} {c:Cls} {fs:List Fld} {xs:List Val}:y4 n k mu (some (.inst c fs xs))=FP k c fs (freeze.go n mu xs):=rfl
theorem fW {k:Nat} {ds:List Dat}:Fd k (some (ds,m))=v8 k ds m m[k]? := rfl
theorem fU {k:Nat} {ds:List Dat} {xs:List Val}:v8 k ds m (some (.list xs))=some (.lst ds,m.set k (.frz (.lst ds))):=rfl
theorem rf {k:Nat} {c:Cls} {fs:List Fld} {ds:List Dat}:FP k c fs (some (ds,m))=vZ k c fs ds m m[k]? := rfl
theorem qR {k:Nat} {c c':Cls} {fs fs':List Fld} {ds:List Dat} {xs:List Val}:vZ k c fs ds m (some (.inst c' fs' xs))=some (.obj c fs ds,m.set k (.frz (.obj c fs ds))):=rfl
noncomputable def A0 (x:Dat) (r:zy):zy:=r.bind fun (xs,m2)=>some (x::xs,m2)
noncomputable def G3 (n:Nat) (vs:List Val) (r:uS):zy:=r.bind fun (x,m1)=>A0 x (freeze.go n m1 vs)
theorem r6 {n:Nat}:freeze.go n mu []=some ([],mu):=rfl
theorem wd {n:Nat} {v:Val} {vs:List Val}:freeze.go n mu (v::vs)=G3 n vs (freeze n mu v):=rfl
theorem sx {n:Nat} {vs:List Val} {x:Dat}:G3 n vs (some (x,m))=A0 x (freeze.go n m vs):=rfl
theorem r9 {x:Dat} {xs:List Dat}:A0 x (some (xs,m))=some (x::xs,m):=rfl
theorem g7 {n:Nat}:∀ {xs:List Dat},freeze.go (n+1) mu (xs.map Val.d)=some (xs,mu)
  | []=>r6
  | x::xs=>by rw [List.map_cons,wd,lN,sx,g7,r9]
noncomputable def Ew (v:Val) (r:Rs):Rs:=r.bind fun (vs,m)=>some (v::vs,m)
noncomputable def IN (C:Calls) (loc:ae) (es:CEs) (r:R1):Rs:=r.bind fun (v,m)=>Ew v (cV C loc m es)
theorem aF:cV C loc mu .nil=some ([],mu):=rfl
theorem bn {e:CE} {es:CEs}:cV C loc mu (.cons e es)=IN C loc es (ev C loc mu e):=rfl
theorem aM {es:CEs} {v:Val}:IN C loc es (some (v,m))=Ew v (cV C loc m es):=rfl
theorem aL {v:Val} {vs:List Val}:Ew v (some (vs,m))=some (v::vs,m):=rfl
noncomputable def fI (loc:ae) (i:Nat) (r:R1):Rx:=r.bind fun (v,m)=>if i < loc.length then some (.next,loc.set i (some v),m) else none
theorem aU {i:Nat} {e:CE}:ex C loc mu (.asg i e)=fI loc i (ev C loc mu e):=rfl
theorem KC {i:Nat} {v:Val}:fI loc i (some (v,m))=if i < loc.length then some (.next,loc.set i (some v),m) else none:=rfl
noncomputable def eH (m:Mu) (r:Option ae):Rx:=r.map fun l=>(.next,l,m)
theorem cW {l:ae}:eH m (some l)=some (.next,l,m):=rfl
noncomputable def jv (loc:ae) (is:List Nat) (r:R1):Rx:=r.bind fun (v,m)=>(vD v).bind fun x=>(sW x).bind fun xs=>if is.length=xs.length then eH m (ai is (xs.map .d) loc) else none
theorem fA {is:List Nat} {e:CE}:ex C loc mu (.unp is e)=jv loc is (ev C loc mu e):=rfl
theorem Ky {is:List Nat} {xs:List Dat}:jv loc is (some (.d (.tup xs),m))=if is.length=xs.length then eH m (ai is (xs.map .d) loc) else none:=rfl
theorem KR {is:List Nat} {xs:List Dat}:jv loc is (some (.d (.lst xs),m))=if is.length=xs.length then eH m (ai is (xs.map .d) loc) else none:=rfl
noncomputable def qw (loc:ae) (is:List Nat) (r:Rs):Rx:=r.bind fun (vs,m)=>if is.length=vs.length∧is.length≤8 then eH m (ai is vs loc) else none
theorem n7 {is:List Nat} {es:CEs}:ex C loc mu (.multi is es)=qw loc is (cV C loc mu es):=rfl
theorem K6 {is:List Nat} {vs:List Val}:qw loc is (some (vs,m))=if is.length=vs.length∧is.length≤8 then eH m (ai is vs loc) else none:=rfl
theorem bg:ai [] [] loc=some loc:=rfl
theorem iM {i:Nat} {is:List Nat} {v:Val} {vs:List Val}:ai (i::is) (v::vs) loc=if i < loc.length then ai is vs (loc.set i (some v)) else none:=rfl
noncomputable def FE (loc:ae) (x:Val) (a:Nat) (k:Int) (m:Mu) (r:Option MObj):Rx:=r.bind fun ob=>B5 loc x a k m ob
noncomputable def IT (loc:ae) (x:Val) (a:Nat) (w:W) (m:Mu) (r:Option MObj):Rx:=(r.bind oD).bind fun q=>Cw loc x a w m q
noncomputable def Ik (loc:ae) (x:Val) (a:Nat) (m:Mu) (r:Option MObj):Rx:=(r.bind oP).bind fun n=>Cp loc x a m n
noncomputable def yl (loc:ae) (x a:Val) (r:R1):Rx:=r.bind fun (k,m)=>(vR a).bind fun a=>sd loc x a k m
noncomputable def ED (C:Calls) (loc:ae) (i:CE) (x:Val) (r:R1):Rx:=r.bind fun (a,m)=>yl loc x a (ev C loc m i)
noncomputable def II (C:Calls) (loc:ae) (o i:CE) (r:R1):Rx:=r.bind fun (x,m)=>ED C loc i x (ev C loc m o)
theorem gI {o i v:CE}:ex C loc mu (.sett o i v)=II C loc o i (ev C loc mu v):=rfl
theorem kx {o i:CE} {x:Val}:II C loc o i (some (x,m))=ED C loc i x (ev C loc m o):=rfl
theorem kh {i:CE} {x a:Val}:ED C loc i x (some (a,m))=yl loc x a (ev C loc m i):=rfl
theorem o6 {x:Val} {a:Nat} {k:Int}:yl loc x (.r a) (some (.d (.int k),m))=FE loc x a k m m[a]? := rfl
theorem we {x:Val} {a:Nat} {w:W}:yl loc x (.r a) (some (.d (.str w),m))=IT loc x a w m m[a]? := rfl
theorem HN {x:Val} {a:Nat} {i j:Int}:yl loc x (.r a) (some (.d (.tup [.int i,.int j]),m))=Ik loc x a m m[a]? := rfl
theorem pR {x:Val} {a:Nat} {k:Int} {xs:List Val}:FE loc x a k m (some (.list xs))=(cU k xs.length).map fun j=>(.next,loc,m.set a (.list (xs.set j x))):=rfl
theorem sj {x:Dat} {a:Nat} {k:Int} {ks:List (Int × Dat)}:FE loc (.d x) a k m (some (.idict ks))=if ks.length < lim then some (.next,loc,m.set a (.idict (cj k x ks))) else none:=rfl
theorem AZ {x:Val} {a:Nat} {w:W} {ks:List W} {xs:List Val}:IT loc x a w m (some (.sdict ks xs))=if ks.contains w=true∧ks.length≤lim then some (.next,loc,m.set a (.sdict ks (my w x ks xs))) else none:=rfl
theorem Js {a n:Nat}:Ik loc (.d .any) a m (some (.spots n))=if n < lim then some (.next,loc,m.set a (.spots (n+1))) else none:=rfl
noncomputable def FC (loc:ae) (f:Fld) (x:Val) (a:Nat) (m:Mu) (r:Option MObj):Rx:=(r.bind oO).bind fun q=>if q.2.1.length < lim then some (.next,loc,m.set a (.inst q.1 (ko f q.2.1) (jx f x q.2.1 q.2.2))) else none
noncomputable def EH (loc:ae) (f:Fld) (x:Val) (r:R1):Rx:=r.bind fun (a,m)=>(vR a).bind fun a=>FC loc f x a m m[a]?
noncomputable def Id (C:Calls) (loc:ae) (o:CE) (f:Fld) (r:R1):Rx:=r.bind fun (x,m)=>EH loc f x (ev C loc m o)
theorem ua {o v:CE} {f:Fld}:ex C loc mu (.seta o f v)=Id C loc o f (ev C loc mu v):=rfl
theorem wy {o:CE} {f:Fld} {x:Val}:Id C loc o f (some (x,m))=EH loc f x (ev C loc m o):=rfl
theorem wX {f:Fld} {x:Val} {a:Nat}:EH loc f x (some (.r a,m))=FC loc f x a m m[a]? := rfl
theorem wS {f:Fld} {x:Val} {a:Nat} {c:Cls} {fs:List Fld} {xs:List Val}:FC loc f x a m (some (.inst c fs xs))=if fs.length < lim then some (.next,loc,m.set a (.inst c (ko f fs) (jx f x fs xs))) else none:=rfl
noncomputable def AN (C:Calls) (loc:ae) (a b:CSs) (r:R1):Rx:=r.bind fun (x,m)=>(dh x).bind fun t=>if t then er C loc m a else er C loc m b
theorem bf {c:CE} {a b:CSs}:ex C loc mu (.ifs c a b)=AN C loc a b (ev C loc mu c):=rfl
theorem cu {a b:CSs}:AN C loc a b (some (.d (.bool true),m))=er C loc m a:=rfl
theorem bj {a b:CSs}:AN C loc a b (some (.d (.bool false),m))=er C loc m b:=rfl
noncomputable def G0 (loc:ae) (r:R1):Rx:=r.map fun (v,m)=>(.ret v,loc,m)
theorem bD {e:CE}:ex C loc mu (.ret e)=G0 loc (ev C loc mu e):=rfl
theorem bo {v:Val}:G0 loc (some (v,m))=some (.ret v,loc,m):=rfl
noncomputable def FQ (loc:ae) (r:R1):Rx:=r.map fun (_,m)=>(.next,loc,m)
theorem cH {e:CE}:ex C loc mu (.expr e)=FQ loc (ev C loc mu e):=rfl
theorem ce {v:Val}:FQ loc (some (v,m))=some (.next,loc,m):=rfl
noncomputable def eN (C:Calls) (b:CSs):ae→Mu→Rx:=fun l m=>er C l m b
theorem fS {b:CSs}:eN C b loc mu=er C loc mu b:=rfl
noncomputable def xF (f:ae→Mu→Rx) (ts:List Nat) (loc:ae) (m:Mu) (r:Option (List Dat)):Rx:=r.bind fun xs=>cT f ts xs loc m
noncomputable def EZ (f:ae→Mu→Rx) (ts:List Nat) (loc:ae) (r:R1):Rx:=r.bind fun (x,m)=>xF f ts loc m (fF x)
noncomputable def uv (f:ae→Mu→Rx) (ts:List Nat) (loc:ae) (m:Mu) (r:Option (List Dat)):Rx:=r.bind fun xs=>cT f ts (iG xs 0) loc m
noncomputable def Cf (f:ae→Mu→Rx) (ts:List Nat) (loc:ae) (r:R1):Rx:=r.bind fun (x,m)=>uv f ts loc m (ky x)
theorem fD {ts:List Nat} {it:CE} {b:CSs}:ex C loc mu (.for_ ts it b)=EZ (eN C b) ts loc (ev C loc mu it):=rfl
theorem d3 {f:ae→Mu→Rx} {ts:List Nat} {x:Val}:EZ f ts loc (some (x,m))=xF f ts loc m (fF x):=rfl
theorem d0 {f:ae→Mu→Rx} {ts:List Nat} {xs:List Dat}:xF f ts loc m (some xs)=cT f ts xs loc m:=rfl
theorem tj {i j:Nat} {it:CE} {b:CSs}:ex C loc mu (.forEnum i j it b)=Cf (eN C b) [i,j] loc (ev C loc mu it):=rfl
theorem qI {f:ae→Mu→Rx} {ts:List Nat} {x:Val}:Cf f ts loc (some (x,m))=uv f ts loc m (ky x):=rfl
theorem q8 {f:ae→Mu→Rx} {ts:List Nat} {xs:List Dat}:uv f ts loc m (some xs)=cT f ts (iG xs 0) loc m:=rfl
noncomputable def wx (f:ae→Mu→Rx) (ts:List Nat) (xs:List Dat) (r:Rx):Rx:=r.bind fun (fl,l2,m2)=>match fl with
      | .next=>cT f ts xs l2 m2
      | .ret v=>some (.ret v,l2,m2)
noncomputable def EL (f:ae→Mu→Rx) (ts:List Nat) (xs:List Dat) (mu:Mu) (r:Option ae):Rx:=r.bind fun l1=>wx f ts xs (f l1 mu)
theorem il {f:ae→Mu→Rx} {ts:List Nat}:cT f ts [] loc mu=some (.next,loc,mu):=rfl
theorem gY {f:ae→Mu→Rx} {ts:List Nat} {x:Dat} {xs:List Dat}:cT f ts (x::xs) loc mu=EL f ts xs mu (b4 ts x loc):=rfl
theorem fM {f:ae→Mu→Rx} {ts:List Nat} {xs:List Dat} {l1:ae}:EL f ts xs mu (some l1)=wx f ts xs (f l1 mu):=rfl
theorem gb {f:ae→Mu→Rx} {ts:List Nat} {xs:List Dat} {l:ae}:wx f ts xs (some (.next,l,m))=cT f ts xs l m:=rfl
theorem Co {f:ae→Mu→Rx} {ts:List Nat} {xs:List Dat} {l:ae} {v:Val}:wx f ts xs (some (.ret v,l,m))=some (.ret v,l,m):=rfl
theorem cr {t:Nat} {x:Dat}:b4 [t] x loc=ai [t] [.d x] loc:=by cases x <;> rfl
theorem H6 {t u:Nat} {ts:List Nat} {xs:List Dat}:b4 (t::u::ts) (.tup xs) loc=if (t::u::ts).length=xs.length then ai (t::u::ts) (xs.map .d) loc else none:=rfl
theorem Lv {t u:Nat} {ts:List Nat} {xs:List Dat}:b4 (t::u::ts) (.lst xs) loc=if (t::u::ts).length=xs.length then ai (t::u::ts) (xs.map .d) loc else none:=rfl
noncomputable def Ab (C:Calls) (r:CSs) (v:Rx):Rx:=v.bind fun (fl,l,m)=>match fl with
      | .next=>er C l m r
      | .ret v=>some (.ret v,l,m)
theorem bx:er C loc mu .nil=some (.next,loc,mu):=rfl
theorem aT {s:CS} {r:CSs}:er C loc mu (.cons s r)=Ab C r (ex C loc mu s):=rfl
theorem aH {r:CSs}:Ab C r (some (.next,loc,mu))=er C loc mu r:=rfl
theorem bU {r:CSs} {v:Val}:Ab C r (some (.ret v,loc,mu))=some (.ret v,loc,mu):=rfl
theorem am:CEs.of []=.nil:=rfl
theorem ap {e:CE} {r:List CE}:CEs.of (e::r)=.cons e (CEs.of r):=rfl
theorem aq:CSs.of []=.nil:=rfl
theorem aJ {e:CS} {r:List CS}:CSs.of (e::r)=.cons e (CSs.of r):=rfl
theorem bH:bE []=some []:=rfl
theorem bM {x:Dat} {r:List Val}:bE (.d x::r)=(bE r).map (x::·):=rfl
noncomputable def xo (cut:Bool) (n:Nat) (r:Rx):R1:=r.bind fun (fl,_,m)=>cD cut n (match fl with | .ret v=>v | .next=>.d .none) m
theorem aV {cut:Bool} {n:Nat} {v:Val} {l:ae}:xo cut n (some (.ret v,l,m))=cD cut n v m:=rfl
theorem c4 {cut:Bool} {n:Nat} {l:ae}:xo cut n (some (.next,l,m))=cD cut n (.d .none) m:=rfl
theorem aY {P:Fn→FDef} {n:Nat} {f:Fn} {vs:List Val} {d:FDef} (hd:P f=d) (h:vs.length=d.params) :
    an P (n+1) f vs mu=xo d.cut mu.length (er (an P n) (vs.map some++List.replicate (d.names.length - d.params) none) mu d.body):=by
  subst hd
  rw [CG]
  dsimp only
  rw [if_pos ⟨Nat.le_of_eq h,by rw [h,Nat.sub_self]; exact Nat.zero_le _⟩,h,Nat.sub_self,Nat.sub_zero,List.drop_length,List.map_nil,List.append_nil]
  rfl
end
section
variable {mu:Mu} {q:Bool}
theorem cC {x y:Int}:fG mu q .add (.d (.int x)) (.d (.int y))=some (.d (.int (x+y)),mu):=rfl
theorem JL {xs ys:List Dat}:fG mu q .add (.d (.tup xs)) (.d (.tup ys))=if xs.isEmpty || ys.isEmpty then none else (f9 (xs++ys)).map (·,mu):=rfl
theorem lQ {x y:Int}:fG mu q .sub (.d (.int x)) (.d (.int y))=some (.d (.int (x - y)),mu):=rfl
theorem qF {x y:Int}:fG mu q .mul (.d (.int x)) (.d (.int y))=if y.natAbs < 2 ^ 64 then some (.d (.int (x * y)),mu) else none:=rfl
theorem Dp {x:Dat} {n:Int}:fG mu q .mul (.d (.tup [x])) (.d (.int n))=if n=2 then (f9 [x,x]).map (·,mu) else none:=rfl
theorem vK {x y:Int}:fG mu q .fdiv (.d (.int x)) (.d (.int y))=if y=0∨1073741824≤y.natAbs then none else some (.d (.int (x.fdiv y)),mu):=rfl
theorem jk {x y:Int}:fG mu q .mod (.d (.int x)) (.d (.int y))=if y=0 then none else some (.d (.int (x.fmod y)),mu):=rfl
theorem za {x y:Int}:fG mu q .pow (.d (.int x)) (.d (.int y))=if x=10∧y=18 then some (.d (.int (10 ^ 18)),mu) else none:=rfl
theorem tH {x y:Int}:fG mu q .xor (.d (.int x)) (.d (.int y))=some (.d (.int (PySem.Builtin.bitXor x y)),mu):=rfl
noncomputable def Ak (mu:Mu) (q:Bool) (xs:List Val) (r:Option (List Val)):Option (Val × Mu):=r.bind fun ys=>cx q mu (xs++ys) (bE (xs++ys))
noncomputable def Eu (mu:Mu) (q:Bool) (b:Val) (r:Option (List Val)):Option (Val × Mu):=r.bind fun xs=>Ak mu q xs (fP mu b)
noncomputable def Ix (mu:Mu) (q:Bool) (n:Int) (r:Option (List Val)):Option (Val × Mu):=r.bind fun xs=>if 1≤n∧n≤8 then cx q mu (List.replicate n.toNat xs).flatten (bE (List.replicate n.toNat xs).flatten) else none
theorem lK {xs:List Dat} {b:Val}:fG mu q .add (.d (.lst xs)) b=Eu mu q b (some (xs.map .d)):=rfl
theorem Dy {k:Nat} {b:Val}:fG mu q .add (.r k) b=Eu mu q b (uw mu[k]?):=rfl
theorem n5 {xs:List Dat} {n:Int}:fG mu q .mul (.d (.lst xs)) (.d (.int n))=Ix mu q n (some (xs.map .d)):=rfl
theorem nD {xs:List Val} {b:Val}:Eu mu q b (some xs)=Ak mu q xs (fP mu b):=rfl
theorem nK {xs ys:List Val}:Ak mu q xs (some ys)=cx q mu (xs++ys) (bE (xs++ys)):=rfl
theorem sw {xs:List Val} {n:Int}:Ix mu q n (some xs)=if 1≤n∧n≤8 then cx q mu (List.replicate n.toNat xs).flatten (bE (List.replicate n.toNat xs).flatten) else none:=rfl
theorem bJ {α β:Type} [DecidableEq α] {k a:α} {as:List α} {b:β} {bs:List β}:c9 k (a::as) (b::bs)=if a=k then some b else c9 k as bs:=rfl
theorem wY {x y:Int}:dY mu .lt (.d (.int x)) (.d (.int y))=some (decide (x < y)):=rfl
theorem sy {x y:Int}:dY mu .gt (.d (.int x)) (.d (.int y))=some (decide (y < x)):=rfl
theorem CQ {x y:Int}:dY mu .ge (.d (.int x)) (.d (.int y))=some (decide (y≤x)):=rfl
theorem HV {x y:Int}:dY mu .le (.d (.int x)) (.d (.int y))=some (decide (x≤y)):=rfl
theorem bw {a b:Val}:dY mu .eq a b=kF mu a b:=rfl
theorem iI {a b:Val}:dY mu .ne a b=(kF mu a b).map (!·):=rfl
theorem jn {w:W} {xs:List Dat}:dY mu .in_ (.d (.str w)) (.d (.tup xs))=(kg xs).map (·.contains w):=rfl
theorem ti {w:W} {ks:List W} {xs:List Dat}:dY mu .in_ (.d (.str w)) (.d (.dct ks xs))=some (ks.contains w):=rfl
theorem GL {x:Int} {xs:List Dat}:dY mu .in_ (.d (.int x)) (.d (.lst xs))=(gr xs).map (·.contains x):=rfl
theorem jp {x:Int} {xs:List Dat}:dY mu .notIn (.d (.int x)) (.d (.lst xs))=(gr xs).map (!·.contains x):=rfl
theorem aW {x y:Dat}:kF mu (.d x) (.d y)=gu x y:=rfl
noncomputable def Go (ys:List Dat) (r:Option MObj):Option Bool:=(r.bind oL).bind fun xs=>(bE xs).bind fun ds=>gu (.lst ds) (.lst ys)
theorem Ei {i:Nat} {ys:List Dat}:kF mu (.r i) (.d (.lst ys))=Go ys mu[i]? := rfl
theorem DM {ys:List Dat} {xs:List Val}:Go ys (some (.list xs))=(bE xs).bind fun ds=>gu (.lst ds) (.lst ys):=rfl
theorem uy {x y:Dat}:gu x y=if x.plain && y.plain && decide (min x.dep y.dep≤64) then Dat.eqv x y else none:=rfl
theorem LI:Dat.plain .none=true:=rfl
theorem LV {b:Bool}:Dat.plain (.bool b)=true:=rfl
theorem CK {b:Int}:Dat.plain (.int b)=true:=rfl
theorem LW {b:W}:Dat.plain (.str b)=true:=rfl
theorem LN {b:List Dat}:Dat.plain (.tup b)=cE b:=rfl
theorem xN {b:List Dat}:Dat.plain (.lst b)=cE b:=rfl
theorem tr:cE []=true:=rfl
theorem zG {x:Dat} {xs:List Dat}:cE (x::xs)=(x.plain && cE xs):=rfl
theorem LS:Dat.dep .none=0:=rfl
theorem LB {b:Bool}:Dat.dep (.bool b)=0:=rfl
theorem Hr {b:Int}:Dat.dep (.int b)=0:=rfl
theorem LQ {b:W}:Dat.dep (.str b)=0:=rfl
theorem LE {b:List Dat}:Dat.dep (.tup b)=gg b+1:=rfl
theorem v6 {b:List Dat}:Dat.dep (.lst b)=gg b+1:=rfl
theorem tx:gg []=0:=rfl
theorem Gd {x:Dat} {xs:List Dat}:gg (x::xs)=max x.dep (gg xs):=rfl
theorem LA:Dat.eqv .none .none=some true:=rfl
theorem Ll {a b:Bool}:Dat.eqv (.bool a) (.bool b)=some (a == b):=rfl
theorem Ls {a b:Int}:Dat.eqv (.int a) (.int b)=some (decide (a=b)):=rfl
theorem LG {a b:W}:Dat.eqv (.str a) (.str b)=some (decide (a=b)):=rfl
theorem LY {a b:List Dat}:Dat.eqv (.tup a) (.tup b)=gd a b:=rfl
theorem wc {a b:List Dat}:Dat.eqv (.lst a) (.lst b)=gd a b:=rfl
theorem FD:gd [] []=some true:=rfl
theorem Kg {y:Dat} {ys:List Dat}:gd [] (y::ys)=some false:=rfl
theorem z4 {y:Dat} {ys:List Dat}:gd (y::ys) []=some false:=rfl
noncomputable def Fz (a b:Option Bool):Option Bool:=a.bind fun a=>b.map fun b=>a && b
theorem JQ {x y:Dat} {xs ys:List Dat}:gd (x::xs) (y::ys)=Fz (Dat.eqv x y) (gd xs ys):=rfl
theorem Kb {a b:Bool}:Fz (some a) (some b)=some (a && b):=rfl
theorem kX:kg []=some []:=rfl
theorem k6 {w:W} {r:List Dat}:kg (.str w::r)=(kg r).map (w::·):=rfl
end
section
variable {C:Calls} {mu m:Mu} {loc:ae}
theorem aj {α:Type} {a0:α} {l:List α}:(a0::l)[0]? = some a0:=rfl
theorem LD {a0:Option Val} {l:ae} {v:Val}:fI (a0::l) 0 (some (v,m))=some (.next,some v::l,m):=rfl
theorem Lz {a0:Option Val} {l:ae} {v:Val} {is:List Nat} {vs:List Val}:ai (0::is) (v::vs) (a0::l)=ai is vs (some v::l):=rfl
theorem LJ {α:Type} {a0 a1:α} {l:List α}:(a0::a1::l)[1]? = some a1:=rfl
theorem mD {a0 a1:Option Val} {l:ae} {v:Val}:fI (a0::a1::l) 1 (some (v,m))=some (.next,a0::some v::l,m):=rfl
theorem si {a0 a1:Option Val} {l:ae} {v:Val} {is:List Nat} {vs:List Val}:ai (1::is) (v::vs) (a0::a1::l)=ai is vs (a0::some v::l):=rfl
theorem LU {α:Type} {a0 a1 a2:α} {l:List α}:(a0::a1::a2::l)[2]? = some a2:=rfl
theorem cY {a0 a1 a2:Option Val} {l:ae} {v:Val}:fI (a0::a1::a2::l) 2 (some (v,m))=some (.next,a0::a1::some v::l,m):=rfl
theorem kH {a0 a1 a2:Option Val} {l:ae} {v:Val} {is:List Nat} {vs:List Val}:ai (2::is) (v::vs) (a0::a1::a2::l)=ai is vs (a0::a1::some v::l):=rfl
theorem Lp {α:Type} {a0 a1 a2 a3:α} {l:List α}:(a0::a1::a2::a3::l)[3]? = some a3:=rfl
theorem eK {a0 a1 a2 a3:Option Val} {l:ae} {v:Val}:fI (a0::a1::a2::a3::l) 3 (some (v,m))=some (.next,a0::a1::a2::some v::l,m):=rfl
theorem kC {a0 a1 a2 a3:Option Val} {l:ae} {v:Val} {is:List Nat} {vs:List Val}:ai (3::is) (v::vs) (a0::a1::a2::a3::l)=ai is vs (a0::a1::a2::some v::l):=rfl
theorem LR {α:Type} {a0 a1 a2 a3 a4:α} {l:List α}:(a0::a1::a2::a3::a4::l)[4]? = some a4:=rfl
theorem ik {a0 a1 a2 a3 a4:Option Val} {l:ae} {v:Val}:fI (a0::a1::a2::a3::a4::l) 4 (some (v,m))=some (.next,a0::a1::a2::a3::some v::l,m):=rfl
theorem iq {a0 a1 a2 a3 a4:Option Val} {l:ae} {v:Val} {is:List Nat} {vs:List Val}:ai (4::is) (v::vs) (a0::a1::a2::a3::a4::l)=ai is vs (a0::a1::a2::a3::some v::l):=rfl
theorem LO {α:Type} {a0 a1 a2 a3 a4 a5:α} {l:List α}:(a0::a1::a2::a3::a4::a5::l)[5]? = some a5:=rfl
theorem fg {a0 a1 a2 a3 a4 a5:Option Val} {l:ae} {v:Val}:fI (a0::a1::a2::a3::a4::a5::l) 5 (some (v,m))=some (.next,a0::a1::a2::a3::a4::some v::l,m):=rfl
theorem nO {a0 a1 a2 a3 a4 a5:Option Val} {l:ae} {v:Val} {is:List Nat} {vs:List Val}:ai (5::is) (v::vs) (a0::a1::a2::a3::a4::a5::l)=ai is vs (a0::a1::a2::a3::a4::some v::l):=rfl
theorem Ly {α:Type} {a0 a1 a2 a3 a4 a5 a6:α} {l:List α}:(a0::a1::a2::a3::a4::a5::a6::l)[6]? = some a6:=rfl
theorem gU {a0 a1 a2 a3 a4 a5 a6:Option Val} {l:ae} {v:Val}:fI (a0::a1::a2::a3::a4::a5::a6::l) 6 (some (v,m))=some (.next,a0::a1::a2::a3::a4::a5::some v::l,m):=rfl
theorem kT {a0 a1 a2 a3 a4 a5 a6:Option Val} {l:ae} {v:Val} {is:List Nat} {vs:List Val}:ai (6::is) (v::vs) (a0::a1::a2::a3::a4::a5::a6::l)=ai is vs (a0::a1::a2::a3::a4::a5::some v::l):=rfl
theorem Lq {α:Type} {a0 a1 a2 a3 a4 a5 a6 a7:α} {l:List α}:(a0::a1::a2::a3::a4::a5::a6::a7::l)[7]? = some a7:=rfl
theorem wG {a0 a1 a2 a3 a4 a5 a6 a7:Option Val} {l:ae} {v:Val}:fI (a0::a1::a2::a3::a4::a5::a6::a7::l) 7 (some (v,m))=some (.next,a0::a1::a2::a3::a4::a5::a6::some v::l,m):=rfl
theorem sf {a0 a1 a2 a3 a4 a5 a6 a7:Option Val} {l:ae} {v:Val} {is:List Nat} {vs:List Val}:ai (7::is) (v::vs) (a0::a1::a2::a3::a4::a5::a6::a7::l)=ai is vs (a0::a1::a2::a3::a4::a5::a6::some v::l):=rfl
theorem LK {α:Type} {a0 a1 a2 a3 a4 a5 a6 a7 a8:α} {l:List α}:(a0::a1::a2::a3::a4::a5::a6::a7::a8::l)[8]? = some a8:=rfl
theorem LH {a0 a1 a2 a3 a4 a5 a6 a7 a8:Option Val} {l:ae} {v:Val}:fI (a0::a1::a2::a3::a4::a5::a6::a7::a8::l) 8 (some (v,m))=some (.next,a0::a1::a2::a3::a4::a5::a6::a7::some v::l,m):=rfl
theorem kL {a0 a1 a2 a3 a4 a5 a6 a7 a8:Option Val} {l:ae} {v:Val} {is:List Nat} {vs:List Val}:ai (8::is) (v::vs) (a0::a1::a2::a3::a4::a5::a6::a7::a8::l)=ai is vs (a0::a1::a2::a3::a4::a5::a6::a7::some v::l):=rfl
theorem Lo {α:Type} {a0 a1 a2 a3 a4 a5 a6 a7 a8 a9:α} {l:List α}:(a0::a1::a2::a3::a4::a5::a6::a7::a8::a9::l)[9]? = some a9:=rfl
theorem BR {a0 a1 a2 a3 a4 a5 a6 a7 a8 a9:Option Val} {l:ae} {v:Val}:fI (a0::a1::a2::a3::a4::a5::a6::a7::a8::a9::l) 9 (some (v,m))=some (.next,a0::a1::a2::a3::a4::a5::a6::a7::a8::some v::l,m):=rfl
theorem kO {a0 a1 a2 a3 a4 a5 a6 a7 a8 a9:Option Val} {l:ae} {v:Val} {is:List Nat} {vs:List Val}:ai (9::is) (v::vs) (a0::a1::a2::a3::a4::a5::a6::a7::a8::a9::l)=ai is vs (a0::a1::a2::a3::a4::a5::a6::a7::a8::some v::l):=rfl
theorem J3 {α:Type} {a0 a1 a2 a3 a4 a5 a6 a7 a8 a9 a10:α} {l:List α}:(a0::a1::a2::a3::a4::a5::a6::a7::a8::a9::a10::l)[10]? = some a10:=rfl
theorem K1 {a0 a1 a2 a3 a4 a5 a6 a7 a8 a9 a10:Option Val} {l:ae} {v:Val}:fI (a0::a1::a2::a3::a4::a5::a6::a7::a8::a9::a10::l) 10 (some (v,m))=some (.next,a0::a1::a2::a3::a4::a5::a6::a7::a8::a9::some v::l,m):=rfl
theorem lV {a0 a1 a2 a3 a4 a5 a6 a7 a8 a9 a10:Option Val} {l:ae} {v:Val} {is:List Nat} {vs:List Val}:ai (10::is) (v::vs) (a0::a1::a2::a3::a4::a5::a6::a7::a8::a9::a10::l)=ai is vs (a0::a1::a2::a3::a4::a5::a6::a7::a8::a9::some v::l):=rfl
theorem KM {α:Type} {a0 a1 a2 a3 a4 a5 a6 a7 a8 a9 a10 a11:α} {l:List α}:(a0::a1::a2::a3::a4::a5::a6::a7::a8::a9::a10::a11::l)[11]? = some a11:=rfl
theorem J8 {a0 a1 a2 a3 a4 a5 a6 a7 a8 a9 a10 a11:Option Val} {l:ae} {v:Val}:fI (a0::a1::a2::a3::a4::a5::a6::a7::a8::a9::a10::a11::l) 11 (some (v,m))=some (.next,a0::a1::a2::a3::a4::a5::a6::a7::a8::a9::a10::some v::l,m):=rfl
theorem ix {a0 a1 a2 a3 a4 a5 a6 a7 a8 a9 a10 a11:Option Val} {l:ae} {v:Val} {is:List Nat} {vs:List Val}:ai (11::is) (v::vs) (a0::a1::a2::a3::a4::a5::a6::a7::a8::a9::a10::a11::l)=ai is vs (a0::a1::a2::a3::a4::a5::a6::a7::a8::a9::a10::some v::l):=rfl
theorem K2 {α:Type} {a0 a1 a2 a3 a4 a5 a6 a7 a8 a9 a10 a11 a12:α} {l:List α}:(a0::a1::a2::a3::a4::a5::a6::a7::a8::a9::a10::a11::a12::l)[12]? = some a12:=rfl
theorem KB {a0 a1 a2 a3 a4 a5 a6 a7 a8 a9 a10 a11 a12:Option Val} {l:ae} {v:Val}:fI (a0::a1::a2::a3::a4::a5::a6::a7::a8::a9::a10::a11::a12::l) 12 (some (v,m))=some (.next,a0::a1::a2::a3::a4::a5::a6::a7::a8::a9::a10::a11::some v::l,m):=rfl
theorem kq {a0 a1 a2 a3 a4 a5 a6 a7 a8 a9 a10 a11 a12:Option Val} {l:ae} {v:Val} {is:List Nat} {vs:List Val}:ai (12::is) (v::vs) (a0::a1::a2::a3::a4::a5::a6::a7::a8::a9::a10::a11::a12::l)=ai is vs (a0::a1::a2::a3::a4::a5::a6::a7::a8::a9::a10::a11::some v::l):=rfl
theorem JR {α:Type} {a0 a1 a2 a3 a4 a5 a6 a7 a8 a9 a10 a11 a12 a13:α} {l:List α}:(a0::a1::a2::a3::a4::a5::a6::a7::a8::a9::a10::a11::a12::a13::l)[13]? = some a13:=rfl
theorem Gr {a0 a1 a2 a3 a4 a5 a6 a7 a8 a9 a10 a11 a12 a13:Option Val} {l:ae} {v:Val}:fI (a0::a1::a2::a3::a4::a5::a6::a7::a8::a9::a10::a11::a12::a13::l) 13 (some (v,m))=some (.next,a0::a1::a2::a3::a4::a5::a6::a7::a8::a9::a10::a11::a12::some v::l,m):=rfl
theorem uu {a0 a1 a2 a3 a4 a5 a6 a7 a8 a9 a10 a11 a12 a13:Option Val} {l:ae} {v:Val} {is:List Nat} {vs:List Val}:ai (13::is) (v::vs) (a0::a1::a2::a3::a4::a5::a6::a7::a8::a9::a10::a11::a12::a13::l)=ai is vs (a0::a1::a2::a3::a4::a5::a6::a7::a8::a9::a10::a11::a12::some v::l):=rfl
theorem Ko {α:Type} {a0 a1 a2 a3 a4 a5 a6 a7 a8 a9 a10 a11 a12 a13 a14:α} {l:List α}:(a0::a1::a2::a3::a4::a5::a6::a7::a8::a9::a10::a11::a12::a13::a14::l)[14]? = some a14:=rfl
theorem KG {a0 a1 a2 a3 a4 a5 a6 a7 a8 a9 a10 a11 a12 a13 a14:Option Val} {l:ae} {v:Val}:fI (a0::a1::a2::a3::a4::a5::a6::a7::a8::a9::a10::a11::a12::a13::a14::l) 14 (some (v,m))=some (.next,a0::a1::a2::a3::a4::a5::a6::a7::a8::a9::a10::a11::a12::a13::some v::l,m):=rfl
theorem Ee {a0 a1 a2 a3 a4 a5 a6 a7 a8 a9 a10 a11 a12 a13 a14:Option Val} {l:ae} {v:Val} {is:List Nat} {vs:List Val}:ai (14::is) (v::vs) (a0::a1::a2::a3::a4::a5::a6::a7::a8::a9::a10::a11::a12::a13::a14::l)=ai is vs (a0::a1::a2::a3::a4::a5::a6::a7::a8::a9::a10::a11::a12::a13::some v::l):=rfl
theorem Li {α:Type} {a0 a1 a2 a3 a4 a5 a6 a7 a8 a9 a10 a11 a12 a13 a14 a15:α} {l:List α}:(a0::a1::a2::a3::a4::a5::a6::a7::a8::a9::a10::a11::a12::a13::a14::a15::l)[15]? = some a15:=rfl
theorem Kk {a0 a1 a2 a3 a4 a5 a6 a7 a8 a9 a10 a11 a12 a13 a14 a15:Option Val} {l:ae} {v:Val}:fI (a0::a1::a2::a3::a4::a5::a6::a7::a8::a9::a10::a11::a12::a13::a14::a15::l) 15 (some (v,m))=some (.next,a0::a1::a2::a3::a4::a5::a6::a7::a8::a9::a10::a11::a12::a13::a14::some v::l,m):=rfl
theorem FY {a0 a1 a2 a3 a4 a5 a6 a7 a8 a9 a10 a11 a12 a13 a14 a15:Option Val} {l:ae} {v:Val} {is:List Nat} {vs:List Val}:ai (15::is) (v::vs) (a0::a1::a2::a3::a4::a5::a6::a7::a8::a9::a10::a11::a12::a13::a14::a15::l)=ai is vs (a0::a1::a2::a3::a4::a5::a6::a7::a8::a9::a10::a11::a12::a13::a14::some v::l):=rfl
theorem Ld {α:Type} {a0 a1 a2 a3 a4 a5 a6 a7 a8 a9 a10 a11 a12 a13 a14 a15 a16:α} {l:List α}:(a0::a1::a2::a3::a4::a5::a6::a7::a8::a9::a10::a11::a12::a13::a14::a15::a16::l)[16]? = some a16:=rfl
theorem Kl {a0 a1 a2 a3 a4 a5 a6 a7 a8 a9 a10 a11 a12 a13 a14 a15 a16:Option Val} {l:ae} {v:Val}:fI (a0::a1::a2::a3::a4::a5::a6::a7::a8::a9::a10::a11::a12::a13::a14::a15::a16::l) 16 (some (v,m))=some (.next,a0::a1::a2::a3::a4::a5::a6::a7::a8::a9::a10::a11::a12::a13::a14::a15::some v::l,m):=rfl
theorem FJ {a0 a1 a2 a3 a4 a5 a6 a7 a8 a9 a10 a11 a12 a13 a14 a15 a16:Option Val} {l:ae} {v:Val} {is:List Nat} {vs:List Val}:ai (16::is) (v::vs) (a0::a1::a2::a3::a4::a5::a6::a7::a8::a9::a10::a11::a12::a13::a14::a15::a16::l)=ai is vs (a0::a1::a2::a3::a4::a5::a6::a7::a8::a9::a10::a11::a12::a13::a14::a15::some v::l):=rfl
theorem La {α:Type} {a0 a1 a2 a3 a4 a5 a6 a7 a8 a9 a10 a11 a12 a13 a14 a15 a16 a17:α} {l:List α}:(a0::a1::a2::a3::a4::a5::a6::a7::a8::a9::a10::a11::a12::a13::a14::a15::a16::a17::l)[17]? = some a17:=rfl
theorem Ke {a0 a1 a2 a3 a4 a5 a6 a7 a8 a9 a10 a11 a12 a13 a14 a15 a16 a17:Option Val} {l:ae} {v:Val}:fI (a0::a1::a2::a3::a4::a5::a6::a7::a8::a9::a10::a11::a12::a13::a14::a15::a16::a17::l) 17 (some (v,m))=some (.next,a0::a1::a2::a3::a4::a5::a6::a7::a8::a9::a10::a11::a12::a13::a14::a15::a16::some v::l,m):=rfl
theorem yg {a0 a1 a2 a3 a4 a5 a6 a7 a8 a9 a10 a11 a12 a13 a14 a15 a16 a17:Option Val} {l:ae} {v:Val} {is:List Nat} {vs:List Val}:ai (17::is) (v::vs) (a0::a1::a2::a3::a4::a5::a6::a7::a8::a9::a10::a11::a12::a13::a14::a15::a16::a17::l)=ai is vs (a0::a1::a2::a3::a4::a5::a6::a7::a8::a9::a10::a11::a12::a13::a14::a15::a16::some v::l):=rfl
theorem J5 {α:Type} {a0 a1 a2 a3 a4 a5 a6 a7 a8 a9 a10 a11 a12 a13 a14 a15 a16 a17 a18:α} {l:List α}:(a0::a1::a2::a3::a4::a5::a6::a7::a8::a9::a10::a11::a12::a13::a14::a15::a16::a17::a18::l)[18]? = some a18:=rfl
theorem KF {a0 a1 a2 a3 a4 a5 a6 a7 a8 a9 a10 a11 a12 a13 a14 a15 a16 a17 a18:Option Val} {l:ae} {v:Val}:fI (a0::a1::a2::a3::a4::a5::a6::a7::a8::a9::a10::a11::a12::a13::a14::a15::a16::a17::a18::l) 18 (some (v,m))=some (.next,a0::a1::a2::a3::a4::a5::a6::a7::a8::a9::a10::a11::a12::a13::a14::a15::a16::a17::some v::l,m):=rfl
theorem yy {a0 a1 a2 a3 a4 a5 a6 a7 a8 a9 a10 a11 a12 a13 a14 a15 a16 a17 a18:Option Val} {l:ae} {v:Val} {is:List Nat} {vs:List Val}:ai (18::is) (v::vs) (a0::a1::a2::a3::a4::a5::a6::a7::a8::a9::a10::a11::a12::a13::a14::a15::a16::a17::a18::l)=ai is vs (a0::a1::a2::a3::a4::a5::a6::a7::a8::a9::a10::a11::a12::a13::a14::a15::a16::a17::some v::l):=rfl
theorem cN:m4 (some ([],m))=some (.d (.tup []),m):=rfl
theorem je:kQ false (some ([],m))=some (.d (.lst []),m):=rfl
theorem gX {a0:Dat}:m4 (some ([.d a0],m))=some (.d (.tup [a0]),m):=rfl
theorem gS {a0:Dat}:kQ false (some ([.d a0],m))=some (.d (.lst [a0]),m):=rfl
theorem b6 {a0 a1:Dat}:m4 (some ([.d a0,.d a1],m))=some (.d (.tup [a0,a1]),m):=rfl
theorem fh {a0 a1:Dat}:kQ false (some ([.d a0,.d a1],m))=some (.d (.lst [a0,a1]),m):=rfl
theorem d9 {a0 a1 a2:Dat}:m4 (some ([.d a0,.d a1,.d a2],m))=some (.d (.tup [a0,a1,a2]),m):=rfl
theorem nB {a0 a1 a2:Dat}:kQ false (some ([.d a0,.d a1,.d a2],m))=some (.d (.lst [a0,a1,a2]),m):=rfl
theorem kM {a0 a1 a2 a3:Dat}:m4 (some ([.d a0,.d a1,.d a2,.d a3],m))=some (.d (.tup [a0,a1,a2,a3]),m):=rfl
theorem LT {a0 a1 a2 a3:Dat}:kQ false (some ([.d a0,.d a1,.d a2,.d a3],m))=some (.d (.lst [a0,a1,a2,a3]),m):=rfl
theorem mj {a0 a1 a2 a3 a4:Dat}:m4 (some ([.d a0,.d a1,.d a2,.d a3,.d a4],m))=some (.d (.tup [a0,a1,a2,a3,a4]),m):=rfl
theorem jF {vs:List Val}:kQ true (some (vs,m))=cx true m vs (bE vs):=rfl
theorem iA {a0 a1:Dat} {i0 i1:Nat}:jv loc [i0,i1] (some (.d (.tup [a0,a1]),m))=eH m (ai [i0,i1] [.d a0,.d a1] loc):=rfl
theorem F5 {a0 a1:Dat} {i0 i1:Nat}:jv loc [i0,i1] (some (.d (.lst [a0,a1]),m))=eH m (ai [i0,i1] [.d a0,.d a1] loc):=rfl
theorem nI {a0 a1:Val} {i0 i1:Nat}:qw loc [i0,i1] (some ([a0,a1],m))=eH m (ai [i0,i1] [a0,a1] loc):=rfl
theorem mR {a0 a1:Dat} {i0 i1:Nat}:b4 [i0,i1] (.tup [a0,a1]) loc=ai [i0,i1] [.d a0,.d a1] loc:=rfl
theorem JP {a0 a1:Dat} {i0 i1:Nat}:b4 [i0,i1] (.lst [a0,a1]) loc=ai [i0,i1] [.d a0,.d a1] loc:=rfl
theorem KI {a0 a1 a2:Dat} {i0 i1 i2:Nat}:jv loc [i0,i1,i2] (some (.d (.tup [a0,a1,a2]),m))=eH m (ai [i0,i1,i2] [.d a0,.d a1,.d a2] loc):=rfl
theorem Lg {a0 a1 a2:Dat} {i0 i1 i2:Nat}:jv loc [i0,i1,i2] (some (.d (.lst [a0,a1,a2]),m))=eH m (ai [i0,i1,i2] [.d a0,.d a1,.d a2] loc):=rfl
theorem LM {a0 a1 a2:Val} {i0 i1 i2:Nat}:qw loc [i0,i1,i2] (some ([a0,a1,a2],m))=eH m (ai [i0,i1,i2] [a0,a1,a2] loc):=rfl
theorem Lf {a0 a1 a2:Dat} {i0 i1 i2:Nat}:b4 [i0,i1,i2] (.tup [a0,a1,a2]) loc=ai [i0,i1,i2] [.d a0,.d a1,.d a2] loc:=rfl
theorem Lb {a0 a1 a2:Dat} {i0 i1 i2:Nat}:b4 [i0,i1,i2] (.lst [a0,a1,a2]) loc=ai [i0,i1,i2] [.d a0,.d a1,.d a2] loc:=rfl
theorem JX {a0 a1 a2 a3:Dat} {i0 i1 i2 i3:Nat}:jv loc [i0,i1,i2,i3] (some (.d (.tup [a0,a1,a2,a3]),m))=eH m (ai [i0,i1,i2,i3] [.d a0,.d a1,.d a2,.d a3] loc):=rfl
theorem KP {a0 a1 a2 a3:Dat} {i0 i1 i2 i3:Nat}:jv loc [i0,i1,i2,i3] (some (.d (.lst [a0,a1,a2,a3]),m))=eH m (ai [i0,i1,i2,i3] [.d a0,.d a1,.d a2,.d a3] loc):=rfl
theorem LL {a0 a1 a2 a3:Val} {i0 i1 i2 i3:Nat}:qw loc [i0,i1,i2,i3] (some ([a0,a1,a2,a3],m))=eH m (ai [i0,i1,i2,i3] [a0,a1,a2,a3] loc):=rfl
theorem Ki {a0 a1 a2 a3:Dat} {i0 i1 i2 i3:Nat}:b4 [i0,i1,i2,i3] (.tup [a0,a1,a2,a3]) loc=ai [i0,i1,i2,i3] [.d a0,.d a1,.d a2,.d a3] loc:=rfl
theorem Kw {a0 a1 a2 a3:Dat} {i0 i1 i2 i3:Nat}:b4 [i0,i1,i2,i3] (.lst [a0,a1,a2,a3]) loc=ai [i0,i1,i2,i3] [.d a0,.d a1,.d a2,.d a3] loc:=rfl
theorem tU {a0 a1 a2 a3 a4:Dat} {i0 i1 i2 i3 i4:Nat}:jv loc [i0,i1,i2,i3,i4] (some (.d (.tup [a0,a1,a2,a3,a4]),m))=eH m (ai [i0,i1,i2,i3,i4] [.d a0,.d a1,.d a2,.d a3,.d a4] loc):=rfl
theorem Lh {a0 a1 a2 a3 a4:Dat} {i0 i1 i2 i3 i4:Nat}:jv loc [i0,i1,i2,i3,i4] (some (.d (.lst [a0,a1,a2,a3,a4]),m))=eH m (ai [i0,i1,i2,i3,i4] [.d a0,.d a1,.d a2,.d a3,.d a4] loc):=rfl
theorem LF {a0 a1 a2 a3 a4:Val} {i0 i1 i2 i3 i4:Nat}:qw loc [i0,i1,i2,i3,i4] (some ([a0,a1,a2,a3,a4],m))=eH m (ai [i0,i1,i2,i3,i4] [a0,a1,a2,a3,a4] loc):=rfl
theorem Kt {a0 a1 a2 a3 a4:Dat} {i0 i1 i2 i3 i4:Nat}:b4 [i0,i1,i2,i3,i4] (.tup [a0,a1,a2,a3,a4]) loc=ai [i0,i1,i2,i3,i4] [.d a0,.d a1,.d a2,.d a3,.d a4] loc:=rfl
theorem JZ {a0 a1 a2 a3 a4:Dat} {i0 i1 i2 i3 i4:Nat}:b4 [i0,i1,i2,i3,i4] (.lst [a0,a1,a2,a3,a4]) loc=ai [i0,i1,i2,i3,i4] [.d a0,.d a1,.d a2,.d a3,.d a4] loc:=rfl
theorem gy {a0:Dat} {l:List Dat}:aX mu (.d (.tup (a0::l))) (.d (.int 0))=some (.d a0):=rfl
theorem gB {a0 a1:Dat} {l:List Dat}:aX mu (.d (.tup (a0::a1::l))) (.d (.int 1))=some (.d a1):=rfl
theorem BY {a0 a1 a2:Dat} {l:List Dat}:aX mu (.d (.tup (a0::a1::a2::l))) (.d (.int 2))=some (.d a2):=rfl
theorem Ho {a0 a1 a2 a3:Dat} {l:List Dat}:aX mu (.d (.tup (a0::a1::a2::a3::l))) (.d (.int 3))=some (.d a3):=rfl
theorem Lr {a0 a1 a2 a3 a4:Dat} {l:List Dat}:aX mu (.d (.tup (a0::a1::a2::a3::a4::l))) (.d (.int 4))=some (.d a4):=rfl
theorem bR {a b:W}:gu (.str a) (.str b)=some (decide (a=b)):=rfl
theorem kS {a b:Int}:gu (.int a) (.int b)=some (decide (a=b)):=rfl
theorem qo:gu (.tup []) (.tup [])=some true:=rfl
theorem qv {w:W} {i:Int}:gu (.tup [.tup [.str w,.int i]]) (.tup [])=some false:=rfl
theorem Lm:gu (.lst []) (.lst [])=some true:=rfl
theorem jL {b r:Mu} {a:MObj}:(b++a::r)[b.length]? = some a:=by simp
theorem Hk {b l:Mu} {k:Nat}:(b++l)[b.length+k]? = l[k]? := by rw [List.getElem?_append_right (Nat.le_add_right _ _),Nat.add_sub_cancel_left]
theorem HH {b r:Mu} {a x:MObj} {p:Nat}:(b.set p x++a::r)[b.length]? = some a:=by simp
theorem HK {b l:Mu} {x:MObj} {p k:Nat}:(b.set p x++l)[b.length+k]? = l[k]? := by rw [List.getElem?_append_right (by rw [List.length_set]; exact Nat.le_add_right _ _),List.length_set,Nat.add_sub_cancel_left]
end
end Mine.Internal
namespace Mine.Internal
inductive Op where
  | const (v:Int) | copy (l:Int) (j:Option Int) | move (l:Int)
inductive Rv where
  | use (o:Op) | bin (w:W) (a b:Op) | tup (a b:Op)
inductive St where
  | print (o:Op) | live (l:Int) | dead (l:Int) | assign (l:Int) (j:Option Int) (r:Rv)
inductive Tm where
  | ret | goto (n:Int) | switch (o:Op) (v a b:Int) | call (w:W) (o:Op) (l:Int) (j:Option Int) (n:Int)
structure Blk where
  sts:List St
  tm:Tm
set_option genCtorIdx false in
set_option genInjectivity false in
structure Bd where
  name:W
  argc:Int
  locs:List Dat
  blks:List Blk
noncomputable def pD:Option Int→Dat
  | none=>.tup []
  | some j=>.tup [.tup [.str .field_,.int j]]
noncomputable def dU (l:Int) (j:Option Int):Dat:=.tup [.int l,pD j]
noncomputable def Op.e:Op→Dat
  | .const v=>.tup [.str .const_,dp,.int v]
  | .copy l j=>.tup [.str .copy_,dU l j]
  | .move l=>.tup [.str .move_,dU l none]
noncomputable def Rv.e:Rv→Dat
  | .use o=>.tup [.str .use_,o.e]
  | .bin w a b=>.tup [.str .binary_,.str w,a.e,b.e]
  | .tup a b=>.tup [.str .tuple_,.tup [a.e,b.e]]
noncomputable def St.e:St→Dat
  | .print o=>.tup [.str .print_,o.e]
  | .live l=>.tup [.str .live_,.int l]
  | .dead l=>.tup [.str .dead_,.int l]
  | .assign l j r=>.tup [.str .assign_,dU l j,r.e]
noncomputable def Tm.e:Tm→Dat
  | .ret=>.tup [.str .return_]
  | .goto n=>.tup [.str .goto_,.int n]
  | .switch o v a b=>.tup [.str .switch_,o.e,.tup [.tup [.int v,.int a]],.int b]
  | .call w o l j n=>.tup [.str .call_,.tup [.str .fn_,.str w,.tup []],.tup [o.e],dU l j,.int n]
section
variable {v l n x y:Int} {j:Option Int} {o a b:Op} {r:Rv} {w:W}
theorem oi:pD none=.tup []:=rfl
theorem Ct:pD (some x)=.tup [.tup [.str .field_,.int x]]:=rfl
theorem IF:(Op.const v).e=.tup [.str .const_,dp,.int v]:=rfl
theorem Iu:(Op.copy l j).e=.tup [.str .copy_,dU l j]:=rfl
theorem KK:(Op.move l).e=.tup [.str .move_,dU l none]:=rfl
theorem zI:(Rv.use o).e=.tup [.str .use_,o.e]:=rfl
theorem Ms:(Rv.bin w a b).e=.tup [.str .binary_,.str w,a.e,b.e]:=rfl
theorem Mg:(Rv.tup a b).e=.tup [.str .tuple_,.tup [a.e,b.e]]:=rfl
theorem K5:(St.print o).e=.tup [.str .print_,o.e]:=rfl
theorem Mn:(St.live l).e=.tup [.str .live_,.int l]:=rfl
theorem Mc:(St.dead l).e=.tup [.str .dead_,.int l]:=rfl
theorem Mf:(St.assign l j r).e=.tup [.str .assign_,dU l j,r.e]:=rfl
theorem J0:Tm.ret.e=.tup [.str .return_]:=rfl
theorem My:(Tm.goto n).e=.tup [.str .goto_,.int n]:=rfl
theorem Mp:(Tm.switch o v x y).e=.tup [.str .switch_,o.e,.tup [.tup [.int v,.int x]],.int y]:=rfl
theorem Mm:(Tm.call w o l j n).e=.tup [.str .call_,.tup [.str .fn_,.str w,.tup []],.tup [o.e],dU l j,.int n]:=rfl
end
noncomputable def eS (l:List St):List Dat:=l.map St.e
noncomputable def Blk.e (b:Blk):Dat:=.lst [.lst (eS b.sts),b.tm.e]
noncomputable def eB (l:List Blk):List Dat:=l.map Blk.e
theorem ir {l:List St}:(eS l).length=l.length:=List.length_map ..
theorem ew {l:List Blk}:(eB l).length=l.length:=List.length_map ..
theorem lP {l r:List St}:eS (l++r)=eS l++eS r:=List.map_append ..
theorem lM {l r:List Blk}:eB (l++r)=eB l++eB r:=List.map_append ..
theorem gj {l:List Blk} {i:Nat}:(eB l)[i]? = l[i]?.map Blk.e:=List.getElem?_map ..
theorem F3 {l:List Blk} {i:Nat} {b:Blk}:(eB l).set i b.e=eB (l.set i b):=(List.map_set ..).symm
theorem hG {xs:List Dat}:bE (xs.map Val.d)=some xs:=j2
noncomputable def Bd.e (b:Bd) (n:Nat):Dat:=.obj .body [.name,.argCount,.locals,.blocks,.spots] [.str b.name,.int b.argc,.lst b.locs,.lst (eB b.blks),.spots n]
noncomputable def Op.mv (s:Int):Op→Op
  | .const v=>.const v
  | .copy l j=>.copy (l+s) j
  | .move l=>.move (l+s)
noncomputable def Rv.mv (s:Int):Rv→Rv
  | .use o=>.use (o.mv s)
  | .bin w a b=>.bin w (a.mv s) (b.mv s)
  | .tup a b=>.tup (a.mv s) (b.mv s)
noncomputable def St.mv (s:Int):St→St
  | .print o=>.print (o.mv s)
  | .live l=>.live (l+s)
  | .dead l=>.dead (l+s)
  | .assign l j r=>.assign (l+s) j (r.mv s)
noncomputable def Tm.mv (s k:Int):Tm→Tm
  | .ret=>.ret
  | .goto n=>.goto (n+k)
  | .switch o v a b=>.switch (o.mv s) v (a+k) (b+k)
  | .call w o l j n=>.call w o l j n
noncomputable def WFm (mu:Mu):Prop:=mu.all (MObj.okB mu.length)=true
theorem Jg {base r:Mu} {a:MObj}:(base++a::r)[base.length]? = some a:=by simp
theorem Jp {base r:Mu} {a x:MObj}:(base++a::r).set base.length x=base++x::r:=by simp
theorem AH {base r:Mu}:(base++r).take base.length=base:=by simp
theorem i7 {base r:Mu} {v:Val} (h:WFm base) (hv:v.okB 0=true):cD true base.length v (base++r)=some (v,base):=by
  unfold cD
  rw [AH]
  unfold WFm at h
  simp [h,hv]
theorem bB {base:Mu} {v:Val} (h:WFm base) (hv:v.okB 0=true):cD true base.length v base=some (v,base):=by
  have:=i7 (r:=[]) h hv
  simpa using this
section
variable {mu:Mu}
theorem zg {o:Op}:aX mu (.d (Rv.use o).e) (.d (.int 0))=some (.d (.str .use_)):=rfl
theorem Ku {o:Op}:aX mu (.d (Rv.use o).e) (.d (.int 1))=some (.d o.e):=rfl
theorem qi {w:W} {a b:Op}:aX mu (.d (Rv.bin w a b).e) (.d (.int 0))=some (.d (.str .binary_)):=rfl
theorem tK {w:W} {a b:Op}:aX mu (.d (Rv.bin w a b).e) (.d (.int 1))=some (.d (.str w)):=rfl
theorem Ka {w:W} {a b:Op}:aX mu (.d (Rv.bin w a b).e) (.d (.int 2))=some (.d a.e):=rfl
theorem Kx {w:W} {a b:Op}:aX mu (.d (Rv.bin w a b).e) (.d (.int 3))=some (.d b.e):=rfl
theorem zt {a b:Op}:aX mu (.d (Rv.tup a b).e) (.d (.int 0))=some (.d (.str .tuple_)):=rfl
theorem FM {a b:Op}:aX mu (.d (Rv.tup a b).e) (.d (.int 1))=some (.d (.tup [a.e,b.e])):=rfl
theorem Eb {v:Int}:aX mu (.d (Op.const v).e) (.d (.int 0))=some (.d (.str .const_)):=rfl
theorem FW {v:Int}:aX mu (.d (Op.const v).e) (.d (.int 2))=some (.d (.int v)):=rfl
theorem tX {l:Int} {j:Option Int}:aX mu (.d (Op.copy l j).e) (.d (.int 0))=some (.d (.str .copy_)):=rfl
theorem sU {l:Int} {j:Option Int}:aX mu (.d (Op.copy l j).e) (.d (.int 1))=some (.d (dU l j)):=rfl
theorem Fo {l:Int}:aX mu (.d (Op.move l).e) (.d (.int 0))=some (.d (.str .move_)):=rfl
theorem F2 {l:Int}:aX mu (.d (Op.move l).e) (.d (.int 1))=some (.d (dU l none)):=rfl
theorem LC {l:Int} {j:Option Int}:aX mu (.d (dU l j)) (.d (.int 0))=some (.d (.int l)):=rfl
theorem Bz {l:Int} {j:Option Int}:aX mu (.d (dU l j)) (.d (.int 1))=some (.d (pD j)):=rfl
theorem yc {o:Op}:aX mu (.d (St.print o).e) (.d (.int 0))=some (.d (.str .print_)):=rfl
theorem ym {o:Op}:aX mu (.d (St.print o).e) (.d (.int 1))=some (.d o.e):=rfl
theorem ya {l:Int}:aX mu (.d (St.live l).e) (.d (.int 0))=some (.d (.str .live_)):=rfl
theorem y0 {l:Int}:aX mu (.d (St.live l).e) (.d (.int 1))=some (.d (.int l)):=rfl
theorem yD {l:Int}:aX mu (.d (St.dead l).e) (.d (.int 0))=some (.d (.str .dead_)):=rfl
theorem qu {l:Int}:aX mu (.d (St.dead l).e) (.d (.int 1))=some (.d (.int l)):=rfl
theorem lA {l:Int} {j:Option Int} {r:Rv}:aX mu (.d (St.assign l j r).e) (.d (.int 0))=some (.d (.str .assign_)):=rfl
theorem lJ {l:Int} {j:Option Int} {r:Rv}:aX mu (.d (St.assign l j r).e) (.d (.int 1))=some (.d (dU l j)):=rfl
theorem lw {l:Int} {j:Option Int} {r:Rv}:aX mu (.d (St.assign l j r).e) (.d (.int 2))=some (.d r.e):=rfl
theorem lH:aX mu (.d Tm.ret.e) (.d (.int 0))=some (.d (.str .return_)):=rfl
theorem lR {n:Int}:aX mu (.d (Tm.goto n).e) (.d (.int 0))=some (.d (.str .goto_)):=rfl
theorem zB {n:Int}:aX mu (.d (Tm.goto n).e) (.d (.int 1))=some (.d (.int n)):=rfl
theorem j3 {o:Op} {v a b:Int}:aX mu (.d (Tm.switch o v a b).e) (.d (.int 0))=some (.d (.str .switch_)):=rfl
theorem qj {o:Op} {v a b:Int}:aX mu (.d (Tm.switch o v a b).e) (.d (.int 1))=some (.d o.e):=rfl
theorem tu {o:Op} {v a b:Int}:aX mu (.d (Tm.switch o v a b).e) (.d (.int 2))=some (.d (.tup [.tup [.int v,.int a]])):=rfl
theorem sE {o:Op} {v a b:Int}:aX mu (.d (Tm.switch o v a b).e) (.d (.int 3))=some (.d (.int b)):=rfl
theorem uC {w:W} {o:Op} {l:Int} {j:Option Int} {n:Int}:aX mu (.d (Tm.call w o l j n).e) (.d (.int 0))=some (.d (.str .call_)):=rfl
theorem ub {w:W} {o:Op} {l:Int} {j:Option Int} {n:Int}:aX mu (.d (Tm.call w o l j n).e) (.d (.int 1))=some (.d (.tup [.str .fn_,.str w,.tup []])):=rfl
theorem zc {w:W} {o:Op} {l:Int} {j:Option Int} {n:Int}:aX mu (.d (Tm.call w o l j n).e) (.d (.int 2))=some (.d (.tup [o.e])):=rfl
theorem qe {w:W} {o:Op} {l:Int} {j:Option Int} {n:Int}:aX mu (.d (Tm.call w o l j n).e) (.d (.int 3))=some (.d (dU l j)):=rfl
theorem zX {w:W} {o:Op} {l:Int} {j:Option Int} {n:Int}:aX mu (.d (Tm.call w o l j n).e) (.d (.int 4))=some (.d (.int n)):=rfl
theorem Lx {o:Op}:Dat.tup [.str .use_,o.e]=(Rv.use o).e:=rfl
theorem JV {w:W} {a b:Op}:Dat.tup [.str .binary_,.str w,a.e,b.e]=(Rv.bin w a b).e:=rfl
theorem KS {a b:Op}:Dat.tup [.str .tuple_,.tup [a.e,b.e]]=(Rv.tup a b).e:=rfl
theorem JF {l:Int} {j:Option Int} {r:Rv}:Dat.tup [.str .assign_,dU l j,r.e]=(St.assign l j r).e:=rfl
theorem JG {o:Op}:Dat.tup [.str .print_,o.e]=(St.print o).e:=rfl
theorem J9 {l:Int}:Dat.tup [.str .live_,.int l]=(St.live l).e:=rfl
theorem K4 {l:Int}:Dat.tup [.str .dead_,.int l]=(St.dead l).e:=rfl
theorem JT {l:Int}:Dat.tup [.str .goto_,.int l]=(Tm.goto l).e:=rfl
end
end Mine.Internal
namespace Mine.Internal
theorem m6 (n:Nat) {mu:Mu} (h:WFm mu) (l s:Int) (j:Option Int):an prog (n+1) .movedPlace [.d (dU l j),.d (.int s)] mu=some (.d (dU (l+s) j),mu):=by
  rw [aY (d:=gN) rfl rfl]
  cases j with
  | none =>
    simp [ao,af,ar,bz,ah,ag,fo,ak,av,bC,jC,bF,cf,b8,bO,bQ,aQ,ay,aA,gn,cg,pV,nJ,nV,iv,aF,bn,aM,aL,aU,bD,bo,fD,d3,d0,il,aT,aH,bU,am,ap,aq,aJ,bH,aV,cC,aj,cY,b6,jF,gy,gB,jL,lim,-getElem?_pos,gN,dU,oi]
    exact i7 h rfl
  | some j =>
    simp [ao,af,ar,bz,ah,ag,fo,ak,av,aS,bC,jC,bF,cf,b8,bO,bQ,aP,aB,az,ax,dW,eZ,aQ,ay,aA,gn,cg,pV,nJ,nV,ej,da,db,de,df,iv,aF,bn,aM,aL,aU,bg,bD,bo,cH,ce,fS,fD,d3,d0,il,gY,fM,gb,cr,bx,aT,aH,bU,am,ap,aq,aJ,bH,bM,aV,cC,bw,aW,aj,cY,kC,b6,jF,gy,gB,bR,jL,lim,-getElem?_pos,gN,dU,Ct]
    exact i7 h rfl
theorem gQ (n:Nat) {mu:Mu} (h:WFm mu) (o:Op) (s:Int):an prog (n+2) .movedOperand [.d o.e,.d (.int s)] mu=some (.d (o.mv s).e,mu):=by
  rw [aY (d:=eX) rfl rfl]
  have hp:=fun l j=>m6 n h l s j
  cases o with
  | const v =>
    simp [ao,af,ah,ag,ak,av,aS,aP,aB,az,ax,dW,gL,aQ,ay,aA,bD,bo,aT,bU,am,ap,aq,aJ,aV,bw,aW,aj,gy,bR,-getElem?_pos,eX,IF,Op.mv]
    exact bB h rfl
  | copy l j =>
    simp [ao,af,ah,ag,ak,av,aS,bC,aP,aB,az,ax,dW,eZ,aQ,ay,aA,aN,aE,aF,bn,aM,aL,bD,bo,aT,bU,am,ap,aq,aJ,aV,bw,aW,aj,b6,gy,gB,bR,-getElem?_pos,eX,Iu,Op.mv,hp]
    exact bB h rfl
  | move l =>
    simp [ao,af,ah,ag,ak,av,aS,bC,aP,aB,az,ax,dW,eZ,aQ,ay,aA,aN,aE,aF,bn,aM,aL,bD,bo,aT,bU,am,ap,aq,aJ,aV,bw,aW,aj,b6,gy,gB,bR,-getElem?_pos,eX,KK,Op.mv,hp]
    exact bB h rfl
theorem pf (n:Nat) {mu:Mu} (h:WFm mu) (a:Op) (s:Int):an prog (n+3) .movedOperands [.d (.lst [a.e]),.d (.int s)] mu=some (.d (.tup [(a.mv s).e]),mu):=by
  rw [aY (d:=d7) rfl rfl]
  have hp:=fun o=>gQ n h o s
  simp [ao,af,ah,ag,ak,jC,b5,aN,aE,gn,cg,qr,eF,dk,d4,cp,cm,cn,gx,eD,c5,cX,eJ,dX,aF,bn,aM,aL,bg,bD,bo,cr,aT,bU,am,ap,aq,aJ,bH,bM,aV,aj,kH,lim,-getElem?_pos,d7,hp]
  exact bB h rfl
theorem o3 (n:Nat) {mu:Mu} (h:WFm mu) (a b:Op) (s:Int):an prog (n+3) .movedOperands [.d (.lst [a.e,b.e]),.d (.int s)] mu=some (.d (.tup [(a.mv s).e,(b.mv s).e]),mu):=by
  rw [aY (d:=d7) rfl rfl]
  have hp:=fun o=>gQ n h o s
  simp [ao,af,ah,ag,ak,jC,b5,aN,aE,gn,cg,qr,eF,dk,d4,cp,cm,cn,gx,eD,c5,cX,eJ,dX,aF,bn,aM,aL,bg,bD,bo,cr,aT,bU,am,ap,aq,aJ,bH,bM,aV,aj,kH,lim,-getElem?_pos,d7,hp]
  exact bB h rfl
noncomputable def Rv.ops:Rv→List Op
  | .use o=>[o]
  | .bin _ a b=>[a,b]
  | .tup a b=>[a,b]
theorem Ij {o:Op}:(Rv.use o).ops=[o]:=rfl
theorem J7 {w:W} {a b:Op}:(Rv.bin w a b).ops=[a,b]:=rfl
theorem KW {a b:Op}:(Rv.tup a b).ops=[a,b]:=rfl
theorem sT (n:Nat) {mu:Mu} (h:WFm mu) (r:Rv):an prog (n+1) .operandsOf [.d r.e] mu=some (.d (.lst (r.ops.map Op.e)),mu):=by
  rw [aY (d:=iF) rfl rfl]
  cases r <;>
  · simp [ao,af,ah,ag,ak,av,aS,bC,bF,b5,aP,aB,az,ax,aQ,ay,aA,jG,s0,aF,bn,aM,aL,aU,bf,cu,bj,bD,bo,bx,aT,aH,bU,am,ap,aq,aJ,aV,bw,jn,aW,kX,k6,aj,mD,gS,b6,fh,gy,gB,BY,Ho,bR,lim,-getElem?_pos,iF,zI,Ij]
    exact bB h rfl
theorem Aa (n:Nat) {mu:Mu} (h:WFm mu) (o a:Op):an prog (n+1) .withOperands [.d (Rv.use o).e,.d (.tup [a.e])] mu=some (.d (Rv.use a).e,mu):=by
  rw [aY (d:=dg) rfl rfl]
  simp [ao,af,ah,ag,ak,av,aS,bC,aP,aB,az,ax,aQ,ay,aA,aF,bn,aM,aL,aU,bf,cu,bD,bo,aT,aH,bU,am,ap,aq,aJ,aV,jn,kX,k6,aj,cY,b6,gy,-getElem?_pos,dg,zI]
  exact bB h rfl
theorem ze (n:Nat) {mu:Mu} (h:WFm mu) (w:W) (o p a b:Op):an prog (n+1) .withOperands [.d (Rv.bin w o p).e,.d (.tup [a.e,b.e])] mu=some (.d (Rv.bin w a b).e,mu):=by
  rw [aY (d:=dg) rfl rfl]
  simp [ao,af,ah,ag,ak,av,aS,bC,aP,aB,az,ax,aQ,ay,aA,aF,bn,aM,aL,aU,bf,cu,bj,bD,bo,bx,aT,aH,bU,am,ap,aq,aJ,aV,jn,kX,k6,aj,cY,b6,kM,gy,gB,-getElem?_pos,dg,zI]
  exact bB h rfl
theorem yj (n:Nat) {mu:Mu} (h:WFm mu) (o p a b:Op):an prog (n+1) .withOperands [.d (Rv.tup o p).e,.d (.tup [a.e,b.e])] mu=some (.d (Rv.tup a b).e,mu):=by
  rw [aY (d:=dg) rfl rfl]
  simp [ao,af,ah,ag,ak,av,aS,bC,aP,aB,az,ax,aQ,ay,aA,gn,cg,Ed,aF,bn,aM,aL,aU,bf,cu,bj,bD,bo,bx,aT,aH,bU,am,ap,aq,aJ,aV,bw,jn,aW,kX,k6,aj,cY,b6,gy,bR,-getElem?_pos,dg,zI]
  exact bB h rfl
theorem rT (n:Nat) {mu:Mu} (h:WFm mu) (r:Rv) (s:Int):an prog (n+4) .movedRvalue [.d r.e,.d (.int s)] mu=some (.d (r.mv s).e,mu):=by
  rw [aY (d:=fq) rfl rfl]
  have h1:=sT (n+2) h r
  have h2:=fun a=>pf n h a s
  have h3:=fun a b=>o3 n h a b s
  have h4:=fun o a=>Aa (n+2) h o a
  have h5:=fun w o p a b=>ze (n+2) h w o p a b
  have h6:=fun o p a b=>yj (n+2) h o p a b
  cases r with
  | use o =>
    simp only [Ij,List.map_cons,List.map_nil] at h1
    simp [ao,af,ah,ag,ak,av,aS,aP,aB,az,ax,aQ,ay,aA,aN,aE,aF,bn,aM,aL,bf,bj,bD,bo,bx,aT,aH,bU,am,ap,aq,aJ,aV,zg,bw,aW,aj,bR,-getElem?_pos,fq,h1,h2,h4,Rv.mv]
    exact bB h rfl
  | bin w a b =>
    simp only [J7,List.map_cons,List.map_nil] at h1
    simp [ao,af,ah,ag,ak,av,aS,aP,aB,az,ax,aQ,ay,aA,aN,aE,aF,bn,aM,aL,bf,bj,bD,bo,bx,aT,aH,bU,am,ap,aq,aJ,aV,qi,bw,aW,aj,bR,-getElem?_pos,fq,h1,h3,h5,Rv.mv]
    exact bB h rfl
  | tup a b =>
    simp only [KW,List.map_cons,List.map_nil] at h1
    simp [ao,af,ah,ag,ak,av,aS,aP,aB,az,ax,aQ,ay,aA,aN,aE,aF,bn,aM,aL,bf,bj,bD,bo,bx,aT,aH,bU,am,ap,aq,aJ,aV,zt,bw,aW,aj,bR,-getElem?_pos,fq,h1,h3,h6,Rv.mv]
    exact bB h rfl
theorem o7 (n:Nat) {mu:Mu} (h:WFm mu) (t:St) (s:Int):an prog (n+5) .movedStatement [.d t.e,.d (.int s)] mu=some (.d (t.mv s).e,mu):=by
  rw [aY (d:=ga) rfl rfl]
  have h1:=fun l j=>m6 (n+3) h l s j
  have h2:=fun o=>gQ (n+2) h o s
  have h3:=fun r=>rT n h r s
  cases t <;>
  · simp [ao,af,ah,ag,ak,av,aS,bC,b8,bO,bQ,aP,aB,az,ax,aQ,ay,aA,aN,aE,aF,bn,aM,aL,aU,bf,cu,bj,bD,bo,bx,aT,aH,bU,am,ap,aq,aJ,aV,yc,ym,ya,y0,yD,qu,lA,lJ,lw,cC,bw,jn,aW,kX,k6,aj,cY,b6,d9,bR,-getElem?_pos,ga,h1,h2,h3,St.mv]
    exact bB h rfl
theorem s7 (n:Nat) {mu:Mu} (h:WFm mu) (t:Tm) (ht:∀ w o l j n,t ≠ .call w o l j n) (k:Int):an prog (n+1) .retargeted [.d t.e,.clo k] mu=some (.d (match t with
    | .goto n=>(Tm.goto (n+k)).e | .switch o v a b=>(Tm.switch o v (a+k) (b+k)).e | t=>t.e),mu):=by
  rw [aY (d:=fZ) rfl rfl]
  cases t with
  | call w o l j n=>exact absurd rfl (ht w o l j n)
  | ret =>
    simp [ao,af,ah,ag,ak,av,aS,aP,aB,az,ax,aQ,ay,aA,aU,bf,bj,bD,bo,bx,aT,aH,bU,am,ap,aq,aJ,aV,lH,bw,aW,aj,cY,bR,-getElem?_pos,fZ]
    exact bB h rfl
  | goto m =>
    simp [ao,af,tv,ah,ag,ak,av,aS,bC,aP,aB,az,ax,aQ,ay,aA,vQ,tg,th,aF,bn,aM,aL,aU,bf,cu,bD,bo,aT,aH,bU,am,ap,aq,aJ,aV,lR,zB,bw,aW,aj,cY,b6,bR,-getElem?_pos,fZ]
    exact bB h rfl
  | switch o v a b =>
    simp [ao,af,tv,ah,ag,ak,av,aS,bC,jC,b5,aP,aB,az,ax,kN,zi,dW,eZ,aQ,ay,aA,gn,cg,qr,eF,dk,d4,cp,cm,cn,gx,eD,c5,cX,eJ,iv,vQ,tg,th,aF,bn,aM,aL,aU,bg,bf,cu,bj,bD,bo,bx,aT,aH,bU,am,ap,aq,aJ,bH,bM,aV,j3,qj,tu,sE,bw,aW,aj,cY,eK,iq,nO,b6,kM,mR,bR,lim,-getElem?_pos,fZ]
    exact bB h rfl
theorem od (n:Nat) {mu:Mu} (h:WFm mu) (t:Tm) (ht:∀ w o l j n,t ≠ .call w o l j n) (s k:Int):an prog (n+3) .movedTerminator [.d t.e,.d (.int s),.d (.int k)] mu=some (.d (t.mv s k).e,mu):=by
  rw [aY (d:=dv) rfl rfl]
  have h1:=s7 (n+1) h t ht k
  have h2:=fun o=>gQ n h o s
  cases t with
  | call w o l j n=>exact absurd rfl (ht w o l j n)
  | ret =>
    simp [ao,af,ah,ag,ak,av,aS,bC,aP,aB,az,ax,aQ,ay,aA,aN,aE,xa,ue,aF,bn,aM,aL,aU,bf,bj,bD,bo,bx,aT,aH,bU,am,ap,aq,aJ,aV,lH,bw,jn,aW,kX,k6,aj,eK,b6,bR,-getElem?_pos,dv,h1,Tm.mv]
    exact bB h rfl
  | goto m =>
    simp [ao,af,ah,ag,ak,av,aS,bC,aP,aB,az,ax,aQ,ay,aA,aN,aE,xa,ue,aF,bn,aM,aL,aU,bf,bj,bD,bo,bx,aT,aH,bU,am,ap,aq,aJ,aV,lR,bw,jn,aW,kX,k6,aj,eK,b6,bR,-getElem?_pos,dv,h1,Tm.mv]
    exact bB h rfl
  | switch o v a b =>
    dsimp only at h1
    simp [ao,af,ah,ag,ak,av,aS,bC,b8,bO,aP,aB,az,ax,aQ,ay,aA,qt,nk,aN,aE,gn,xa,ue,aF,bn,aM,aL,aU,bf,cu,bD,aT,aH,am,ap,aq,aJ,j3,qj,jn,kX,k6,aj,eK,b6,-getElem?_pos,dv,h1,h2,Tm.mv]
    exact bB h rfl
end Mine.Internal
namespace Mine.Internal
noncomputable def Tm.isCall:Tm→Bool
  | .call .. => true
  | _=>false
theorem Cb:Tm.ret.isCall=false:=rfl
theorem IQ {n:Int}:(Tm.goto n).isCall=false:=rfl
theorem IE {o:Op} {v a b:Int}:(Tm.switch o v a b).isCall=false:=rfl
theorem Iz {w:W} {o:Op} {l:Int} {j:Option Int} {n:Int}:(Tm.call w o l j n).isCall=true:=rfl
noncomputable def iK:List Blk→Nat
  | []=>0
  | b::r=>b.sts.length+1+iK r
theorem vP:iK []=0:=rfl
theorem vm {b:Blk} {r:List Blk}:iK (b::r)=b.sts.length+1+iK r:=rfl
theorem ff {mu:Mu} {b:Bd} {k:Nat}:fu mu (.d (b.e k)) .blocks=some (.d (.lst (eB b.blks))):=rfl
theorem sr {mu:Mu} {b:Bd} {k:Nat}:fu mu (.d (b.e k)) .locals=some (.d (.lst b.locs)):=rfl
theorem Hh {mu:Mu} {b:Bd} {k:Nat}:fu mu (.d (b.e k)) .name=some (.d (.str b.name)):=rfl
theorem qd {mu:Mu} {b:Bd} {k:Nat}:fu mu (.d (b.e k)) .argCount=some (.d (.int b.argc)):=rfl
theorem HG {mu:Mu} {b:Bd} {k:Nat}:fu mu (.d (b.e k)) .spots=some (.d (.spots k)):=rfl
theorem q_bind2 {t u:Nat} {b:Blk} {loc:ae}:b4 [t,u] b.e loc=ai [t,u] [.d (.lst (eS b.sts)),.d b.tm.e] loc:=rfl
theorem Ia {mu:Mu} (t:Tm):∃ w,aX mu (.d t.e) (.d (.int 0))=some (.d (.str w))∧(w=.call_ ↔ t.isCall=true):=by
  cases t <;> exact ⟨_,rfl,by simp [Cb,IQ,IE,Iz]⟩
theorem mN {f:ae→Mu→Rx} {ts:List Nat} (I:Nat→ae→Mu→Prop):∀ (xs:List Dat) (k:Nat) {loc:ae} {mu:Mu},I k loc mu →
    (∀ i x l m,xs[i]? = some x→I (k+i) l m→∃ l1 l2 m2,b4 ts x l=some l1∧f l1 m=some (.next,l2,m2)∧I (k+i+1) l2 m2)→∃ l m,cT f ts xs loc mu=some (.next,l,m)∧I (k+xs.length) l m
  | [],k,loc,mu,h0,st=>⟨loc,mu,rfl,h0⟩
  | x::xs,k,loc,mu,h0,st=>by
    obtain ⟨l1,l2,m2,e1,e2,h1⟩:=st 0 x loc mu rfl h0
    obtain ⟨l,m,e3,h3⟩:=mN I xs (k+1) h1 fun i y l m hy hI=>by
      have:=st (i+1) y l m hy (by rw [show k+(i+1)=k+1+i by exact zn]; exact hI)
      rw [show k+(i+1)=k+1+i by exact zn] at this
      exact this
    refine ⟨l,m,?_,by rw [List.length_cons,show k+(xs.length+1)=k+1+xs.length by exact zn]; exact h3⟩
    rw [gY,e1,fM,e2,gb,e3]
theorem wU {f:ae→Mu→Ro} {t:Nat} {g:Dat→Dat} {mu:Mu}:∀ (xs:List Dat) (loc:ae),t < loc.length→(∀ x ∈ xs,f (loc.set t (some (.d x))) mu=some (some (.d (g x)),mu))→cB f [t] xs loc mu=some ((xs.map g).map .d,mu)
  | [],loc,ht,h=>rfl
  | x::xs,loc,ht,h=>by
    have h1:=h x (.head _)
    have ih:=wU (f:=f) (t:=t) (g:=g) (mu:=mu) xs (loc.set t (some (.d x))) (by rw [List.length_set]; exact ht) fun y hy=>by rw [List.set_set]; exact h y (.tail _ hy)
    rw [eD,cr,iM,if_pos ht,bg,c5,h1,cX,ih,eJ]
    rfl
noncomputable def LX (blks:List Blk) (i:Nat):Nat:=iK (blks.take i)
theorem vO:∀ (a b:List Blk),iK (a++b)=iK a+iK b
  | [],b=>by simp [vP]
  | x::a,b=>by rw [List.cons_append,vm,vm,vO a b]; omega
theorem At {blks:List Blk} {i:Nat} {b:Blk} (h:blks[i]? = some b):iK (blks.take (i+1))=iK (blks.take i)+(b.sts.length+1):=by
  rw [List.take_add_one,h,vO]
  simp [vP,vm]
set_option tactic.hygienic true in
theorem wQ (n:Nat) {mu:Mu} (h:WFm mu) (b:Bd) (k:Nat) (most:Int) (hb:∀ k ∈ b.blks,k.tm.isCall=false∧k.sts.length≤1000) (hc:(iK b.blks:Int)≤most):an prog (n+1) .isSmall [.d (b.e k),.d (.int most)] mu=some (.d (.bool true),mu):=by
  rw [aY (d:=ii) rfl rfl]
  simp [ao,af,ah,ag,ak,av,bG,bu,dX,aU,fD,d3,d0,aT,aH,am,ap,aq,aJ,ff,aj,cY,-getElem?_pos,ii]
  generalize hf:eN _ _=f
  obtain ⟨l,m,e,x,y,rfl,rfl⟩:=mN (f:=f) (ts:=[3,4]) (fun i l m=>∃ x y,l=[some (.d (b.e k)),some (.d (.int most)),some (.d (.int (iK (b.blks.take i)))),x,y]∧m=mu) (eB b.blks) 0 ⟨none,none,rfl,rfl⟩ fun i x l m hx ⟨x1,y1,hl,hm⟩=>by
    subst hl; subst hm
    rw [Nat.zero_add]
    rw [gj] at hx
    refine bN hx fun bk hk e2_=>?_
    subst e2_
    obtain ⟨h1,h2⟩:=hb bk (List.mem_of_getElem? hk)
    refine xe1 (Ia (mu:=m) bk.tm) fun w r_=>aO r_ fun e1 e2=>?_
    have hw:¬ w=.call_:=fun q=>by rw [e2.mp q] at h1; cases h1
    have hl:bk.sts.length≤1048576:=by exact lb h2 rfl
    refine ⟨_,_,_,q_bind2.trans (by simp [bg,kC,iq,-getElem?_pos]; rfl),?_,⟨some (.d (.lst (eS bk.sts))),some (.d bk.tm.e),rfl,rfl⟩⟩
    rw [← hf,fS,At hk]
    simp [ao,af,ah,ag,ak,av,aS,b8,bO,bQ,aP,aB,az,ax,aQ,ay,aA,dH,cg,gi,aF,bn,aM,aL,aU,bf,bj,bx,aT,aH,ir,cC,bw,aW,aj,cY,bR,lim,-getElem?_pos,e1,hw,hl]
    exact Int.natCast_add _ _
  simp [vP] at e
  rw [e]
  simp [ao,af,ah,ag,ak,aP,aB,az,ax,bD,bo,aT,aH,bU,aV,ew,HV,aj,-getElem?_pos,hc]
  exact bB h rfl
theorem xw (n:Nat) {mu:Mu} (h:WFm mu) (b:Bd) (k:Nat) (most:Int) {b1:Blk} {r:List Blk} (hb:b.blks=b1::r) (h1:b1.tm.isCall=true) (h2:b1.sts.length≤1000):an prog (n+1) .isSmall [.d (b.e k),.d (.int most)] mu=some (.d (.bool false),mu):=by
  rw [aY (d:=ii) rfl rfl]
  refine xe1 (Ia (mu:=mu) b1.tm) fun w r_=>aO r_ fun e1 e2=>?_
  have hl:b1.sts.length≤1048576:=by exact lb h2 rfl
  simp [ao,af,ah,ag,ak,av,aS,iN,b8,bO,bQ,aP,aB,az,ax,bG,bu,aQ,ay,aA,dH,cg,gi,dX,aF,bn,aM,aL,aU,bg,bf,cu,bD,bo,fS,fD,d3,d0,gY,fM,Co,aT,aH,bU,am,ap,aq,aJ,aV,ir,ff,q_bind2,cC,bw,aW,aj,cY,kC,iq,bR,lim,-getElem?_pos,ii,hb,eB,q_bind2,e1,e2.mpr h1,hl]
  exact bB h rfl
theorem uI (n:Nat) {mu:Mu} (h:WFm mu) (t:Tm):an prog (n+1) .calledKey [.d t.e] mu=some (.d (match t with | .call w _ _ _ _=>.str w | _=>.none),mu):=by
  rw [aY (d:=i8) rfl rfl]
  cases t <;>
  · simp [ao,af,ah,ag,ak,av,aS,j5,bC,aP,aB,az,ax,mq,tz,kw,pN,nh,aQ,ay,aA,aF,bf,cu,bj,bD,bo,bx,aT,aH,bU,am,ap,aq,aJ,aV,lH,lR,j3,uC,ub,bw,aW,aj,cN,gy,gB,BY,bR,qo,-getElem?_pos,i8]
    exact bB h rfl
theorem AG {mu:Mu} {P:Fn→FDef} {n:Nat} {f:Fn} {vs:List Val} {d:FDef} (hd:P f=d) (h:vs.length≤d.params) (h2:d.params - vs.length≤d.dflts.length) :
    an P (n+1) f vs mu=xo d.cut mu.length (er (an P n) ((vs++((d.dflts.drop (d.dflts.length - (d.params - vs.length))).map Val.d)).map some++List.replicate (d.names.length - d.params) none) mu d.body):=by
  subst hd
  rw [CG]
  dsimp only
  rw [if_pos ⟨h,h2⟩]
  rfl
theorem uH (n:Nat) {base:List MObj} {nm ac:Dat} {locs:List Dat} {bl:List Val} (hl:locs.length≤1000) :
    an prog (n+1) .initBody [.r (base.length+2),.d nm,.d ac,.d (.lst locs),.r base.length,.r (base.length+1)] (base++[.list bl,.spots 0,.inst .body [] []]) =
      some (.d .none,base++[.list bl,.spots 0,.inst .body [.name,.argCount,.locals,.blocks,.spots] [.d nm,.d ac,.r (base.length+3),.r base.length,.r (base.length+1)],.list (locs.map .d)]):=by
  rw [aY (d:=fx) rfl rfl]
  have hl':locs.length≤1048576:=by exact lb hl rfl
  simp [ao,af,ar,bz,oT,b0,ah,ag,ak,cf,kN,Ec,dW,eZ,jG,pU,ua,wy,wX,wS,bx,aT,aH,am,aq,aJ,c4,aj,jL,Hk,lim,-getElem?_pos,fx,hl',GT,GV,Fv,Fi,Il,cD]
theorem uG (n:Nat) {base:List MObj} {nm ac:Dat} {locs:List Dat} (hl:locs.length≤1000) :
    an prog (n+1) .initBody [.r base.length,.d nm,.d ac,.d (.lst locs)] (base++[.inst .body [] []]) =
      some (.d .none,base++[.inst .body [.name,.argCount,.locals,.blocks,.spots] [.d nm,.d ac,.r (base.length+1),.r (base.length+2),.r (base.length+3)],.list (locs.map .d),.list [],.spots 0]):=by
  rw [AG (d:=fx) rfl (by simp [fx]) (by simp [fx])]
  have hl':locs.length≤1048576:=by exact lb hl rfl
  simp [ao,af,ar,b0,ah,ag,ak,bF,cf,kN,Ff,dW,gL,jG,pU,Ba,aF,ua,wy,wX,wS,bx,aT,aH,am,aq,aJ,bH,c4,aj,jF,jL,lim,-getElem?_pos,fx,hl',GT,GV,Fv,Fi,Il,cD]
theorem om {n:Nat} {mu:Mu} {a b:Option Val}:∀ (bs:List Blk) {x y:Option Val},(∀ k ∈ bs,k.sts.length≤1000) →
    cB (qP (an prog n) (.list false (.of [(.toList false (.loc 2)),(.loc 3)]))) [2,3] (eB bs) [a,b,x,y] mu=some ((eB bs).map .d,mu)
  | [],x,y,h=>rfl
  | k::r,x,y,h=>by
    have hk:k.sts.length≤1048576:=by have:=h k (.head _); exact lb this rfl
    have ih:=om (n:=n) (mu:=mu) (a:=a) (b:=b) r (x:=some (.d (.lst (eS k.sts)))) (y:=some (.d k.tm.e)) fun z hz=>h z (.tail _ hz)
    rw [show eB (k::r)=k.e::eB r from rfl]
    simp [ao,af,ah,ag,ak,bF,b5,jG,pU,eF,dk,eD,c5,cX,aF,bn,aM,aL,bg,am,ap,ir,q_bind2,aj,kH,kC,fh,lim,-getElem?_pos,hk] at ih ⊢
    rw [ih]
    simp [eJ,-getElem?_pos,Blk.e]
theorem Bf (n:Nat) {base:List MObj} {b:Bd} (h:∀ k ∈ b.blks,k.sts.length≤1000) (h2:b.blks.length≤1000) (h3:b.locs.length≤1000) :
    an prog (n+2) .copied [.d (b.e 0)] base=some (.r (base.length+2),base++[.list ((eB b.blks).map .d),.spots 0,.inst .body [.name,.argCount,.locals,.blocks,.spots] [.d (.str b.name),.d (.int b.argc),.r (base.length+3),.r base.length,.r (base.length+1)],.list (b.locs.map .d)]):=by
  rw [aY (d:=l5) rfl rfl]
  have hl':b.blks.length≤1048576:=by exact lb h2 rfl
  have h1:=om (n:=n+1) (mu:=base) (a:=some (.d (b.e 0))) (b:=none) b.blks (x:=none) (y:=none) h
  have h4:=uH n (base:=base) (nm:=.str b.name) (ac:=.int b.argc) (locs:=b.locs) (bl:=(eB b.blks).map .d) h3
  simp only [ap,am] at h1
  simp [ao,af,ar,bz,ah,ag,ak,cf,bG,bu,mB,j7,Dj,Fr,DF,d4,cp,cm,cn,dX,aF,bn,aM,aL,aU,bD,aT,aH,am,ap,aq,aJ,ew,hG,ff,sr,Hh,qd,HG,aj,mD,jL,lim,-getElem?_pos,l5,hl',cD,h1]
  rw [h4]
  simp [j0,bo,bU,aV,-getElem?_pos,cD]
end Mine.Internal
namespace Mine.Internal
noncomputable def bT (base:List MObj) (nm:W) (ac:Int) (blks:List Dat) (n:Nat) (locs:List Dat) (r:List MObj):List MObj :=
  base++[.inst .caller [.body] [.r (base.length+3)],.list (blks.map .d),.spots n,
    .inst .body [.name,.argCount,.locals,.blocks,.spots] [.d (.str nm),.d (.int ac),.r (base.length+4),.r (base.length+1),.r (base.length+2)],.list (locs.map .d)]++r
section
variable {base r:List MObj} {nm:W} {ac:Int} {blks locs:List Dat} {n:Nat}
theorem kU:(bT base nm ac blks n locs r)[base.length]? = some (.inst .caller [.body] [.r (base.length+3)]):=by simp [bT]
theorem pM:(bT base nm ac blks n locs r)[base.length+1]? = some (.list (blks.map .d)):=by simp [bT]
theorem xj:(bT base nm ac blks n locs r)[base.length+2]? = some (.spots n):=by simp [bT]
theorem nY:(bT base nm ac blks n locs r)[base.length+3]? = some (.inst .body [.name,.argCount,.locals,.blocks,.spots] [.d (.str nm),.d (.int ac),.r (base.length+4),.r (base.length+1),.r (base.length+2)]):=by simp [bT]
theorem BI:(bT base nm ac blks n locs r)[base.length+4]? = some (.list (locs.map .d)):=by simp [bT]
theorem jr:(bT base nm ac blks n locs r).length=base.length+5+r.length:=by simp [bT]; omega
theorem nH {xs:List Dat}:(bT base nm ac blks n locs r).set (base.length+1) (.list (xs.map .d))=bT base nm ac xs n locs r:=by simp [bT]
theorem Df {k:Nat}:(bT base nm ac blks n locs r).set (base.length+2) (.spots k)=bT base nm ac blks k locs r:=by simp [bT]
theorem C4 {xs:List Dat}:(bT base nm ac blks n locs r).set (base.length+4) (.list (xs.map .d))=bT base nm ac blks n xs r:=by simp [bT]
theorem ql {xs:List Val} {f:Option (List Dat)}:cx true (bT base nm ac blks n locs r) xs f=if xs.length≤lim then some (.r (base.length+5+r.length),bT base nm ac blks n locs (r++[.list xs])) else none:=by rw [cf,jr]; simp [bT]
theorem mc {x:MObj}:bT base nm ac blks n locs (r++[x])=bT base nm ac blks n locs r++[x]:=by unfold bT; simp
theorem sm {x:MObj}:(bT base nm ac blks n locs (r++[x]))[base.length+5+r.length]? = some x:=by
  rw [mc,← jr (base:=base) (nm:=nm) (ac:=ac) (blks:=blks) (n:=n) (locs:=locs) (r:=r)]
  simp
theorem mt {x y:MObj}:(bT base nm ac blks n locs (r++[x])).set (base.length+5+r.length) y=bT base nm ac blks n locs (r++[y]):=by
  rw [mc,mc,← jr (base:=base) (nm:=nm) (ac:=ac) (blks:=blks) (n:=n) (locs:=locs) (r:=r)]
  simp
theorem eO {xs:List Dat} {v:Dat}:xs.map Val.d++[Val.d v]=(xs++[v]).map Val.d:=by rw [List.map_append]; rfl
theorem yS {xs ys:List Dat}:xs.map Val.d++ys.map Val.d=(xs++ys).map Val.d:=by rw [List.map_append]
theorem mU {xs:List Dat} {v w:Dat}:xs.map Val.d++[Val.d v,Val.d w]=(xs++[v,w]).map Val.d:=by rw [List.map_append]; rfl
theorem Aq {k k':Nat} (h:k≤k'):∀ {m:MObj},MObj.okB k m=true→MObj.okB k' m=true:=by
  have hv:∀ v:Val,Val.okB k v=true→Val.okB k' v=true:=fun v=>by
    cases v with
    | r i=>intro e; have e:decide (i < k)=true:=e; exact decide_eq_true (Nat.lt_of_lt_of_le (of_decide_eq_true e) h)
    | d x=>exact id
    | clo x=>exact id
  intro m e
  cases m with
  | list xs=>exact List.all_eq_true.mpr fun v hv'=>hv v (List.all_eq_true.mp e v hv')
  | sdict ks xs=>exact List.all_eq_true.mpr fun v hv'=>hv v (List.all_eq_true.mp e v hv')
  | idict ks=>rfl
  | spots b=>rfl
  | inst c fs xs=>exact List.all_eq_true.mpr fun v hv'=>hv v (List.all_eq_true.mp e v hv')
  | frz d=>rfl
theorem WFm.app {base r:List MObj} (h:WFm base) (hr:r.all (MObj.okB (base++r).length)=true):WFm (base++r):=by
  unfold WFm at h ⊢
  rw [List.all_append,Bool.and_eq_true]
  refine ⟨List.all_eq_true.mpr fun m hm=>Aq (by simp) (List.all_eq_true.mp h m hm),hr⟩
theorem mH {k:Nat} {xs:List Dat}:MObj.okB k (.list (xs.map .d))=true:=by
  show (xs.map Val.d).all _=true
  simp [pH]
theorem fO {m:List MObj} {k:Nat} {v:Val} (hk:m.length=k) (h:WFm m) (hv:v.okB 0=true):cD true k v m=some (v,m):=by
  subst hk; exact bB h hv
theorem mz {m r:List MObj} {k:Nat} {v:Val} (hk:m.length=k) (h:WFm m) (hv:v.okB 0=true):cD true k v (m++r)=some (v,m):=by
  subst hk; exact i7 h hv
theorem pF (h:WFm (bT base nm ac blks n locs r)) {blks' locs':List Dat} {n':Nat}:WFm (bT base nm ac blks' n' locs' r):=by
  unfold WFm at h ⊢
  rw [jr] at h ⊢
  unfold bT at h ⊢
  simp only [List.all_append,List.all_cons,List.all_nil,mH,Bool.and_true,Bool.true_and] at h ⊢
  exact h
theorem nZ (h:WFm (bT base nm ac blks n locs r)) {blks' locs':List Dat} {n':Nat} {x:MObj} (hx:∀ k,x.okB k=true):WFm (bT base nm ac blks' n' locs' (r++[x])):=by
  have h':=pF (blks':=blks') (locs':=locs') (n':=n') h
  have:=WFm.app (r:=[x]) h' (by simp [hx])
  unfold bT at this ⊢
  rw [List.append_assoc] at this
  exact this
theorem D7 (h:WFm base):WFm (bT base nm ac blks n locs []):=by
  unfold bT
  rw [List.append_nil]
  refine h.app ?_
  simp only [List.all_cons,List.all_nil,mH,Bool.and_true,Bool.true_and,List.length_append,List.length_cons,List.length_nil]
  simp [sL,EN,ER,G5,Gk,Ex,pH,t8,sF]
theorem nT {m m':Nat} {blks' locs':List Dat} {v:Val} {x:MObj} (h:WFm (bT base nm ac blks n locs r)) (hv:v.okB 0=true):cD true (bT base nm ac blks n locs r).length v (bT base nm ac blks' m' locs' (r++[x]))=some (v,bT base nm ac blks' m' locs' r):=by
  have:bT base nm ac blks' m' locs' (r++[x])=bT base nm ac blks' m' locs' r++[x]:=mc
  rw [this]
  exact mz (by rw [jr,jr]) (pF h) hv
end
theorem lF {nn:Nat} {base r:List MObj} {nm:W} {ac:Int} {blks locs:List Dat} {f:ae→Mu→Rx} {number first last:Int}
    (hf:eN (an prog nn) (.cons (.sett (.attr (.attr (.loc 0) .body) .spots) (.tup (.cons (.loc 1) (.cons (.loc 5) .nil))) (.loc 4)) .nil)=f) :
    ∀ (k:Nat) (xs:List Int) (n:Nat) (x:Option Val),n+xs.length≤100000→xs.length=k →
    ∃ y,cT f [5] (xs.map .int) [some (.r base.length),some (.d (.int number)),some (.d (.int first)),some (.d (.int last)),some (.d .any),x] (bT base nm ac blks n locs r) =
      some (.next,[some (.r base.length),some (.d (.int number)),some (.d (.int first)),some (.d (.int last)),some (.d .any),y],bT base nm ac blks (n+xs.length) locs r)
  | _,[],n,x,h,_=>⟨x,by simp [il]⟩
  | _,a::l,n,x,h,_=>by
    rw [List.length_cons] at h
    obtain ⟨y,ih⟩:=lF (nm:=nm) (ac:=ac) (blks:=blks) (locs:=locs) (first:=first) (last:=last) (number:=number) (base:=base) (r:=r) hf l.length l (n+1) (some (.d (.int a))) (by exact eV h) rfl
    have hn:n < 1048576:=by exact w2 h rfl
    refine ⟨y,?_⟩
    rw [List.map_cons,gY,cr]
    simp [iM,bg,fM]
    rw [← hf,fS]
    simp [ao,af,ar,oT,b0,ah,ag,ak,bC,c3,cM,bG,bu,aF,bn,aM,aL,gI,kx,kh,HN,Js,gb,bx,aT,aH,kU,xj,nY,Df,bJ,aj,b6,lim,-getElem?_pos,hn]
    rw [hf,ih,show n+1+l.length=n+(l.length+1) by exact ad1]
theorem ji (nn:Nat) {base r:List MObj} {nm:W} {ac:Int} {blks locs:List Dat} {n:Nat} {number:Int} {k:Nat} {first last:Int} (hw:WFm (bT base nm ac blks n locs r)) (hk:last - first=k) (h0:0≤first) (h1:last≤100000) (hn:n+k≤100000) :
    an prog (nn+1) .tellSpots [.r base.length,.d (.int number),.d (.int first),.d (.int last),.d .any] (bT base nm ac blks n locs r)=some (.d .none,bT base nm ac blks (n+k) locs r):=by
  rw [aY (d:=jh) rfl rfl]
  have hr:jy first last=true:=by unfold jy lim; simp; omega
  have hl:k≤100000:=by exact Ib hn
  have hit:items (.rng first last 1)=some (((List.range k).map fun (i:Nat)=>first+(i:Int)).map Dat.int):=by
    unfold items; dsimp only
    rw [hr,if_neg (by decide),if_pos rfl,hk,List.map_map]; rfl
  simp [ao,af,ah,ag,ak,gm,cg,FX,jg,aF,bn,aM,aL,fD,d3,aT,am,ap,aq,aJ,aj,-getElem?_pos,jh]
  rw [hit]
  simp only [d0]
  generalize hf:eN _ _=f
  obtain ⟨y,e⟩:=lF (r:=r) (nm:=nm) (ac:=ac) (blks:=blks) (locs:=locs) (number:=number) (first:=first) (last:=last) hf k ((List.range k).map fun (i:Nat)=>first+(i:Int)) n none (by simpa using hn) (by simp)
  rw [e]
  simp [bx,aH,c4,-getElem?_pos]
  exact fO (by rw [jr,jr]) (pF hw) rfl
noncomputable def cK (s k l nx:Int) (b:Blk):Blk:=match b.tm with
  | .ret=>⟨b.sts.map (St.mv s)++[.assign l none (.use (.move s)),.dead (s+1),.dead s],.goto nx⟩
  | t=>⟨b.sts.map (St.mv s),t.mv s k⟩
theorem JE:items (.rng 1 (-1) (-1))=some [.int 1,.int 0]:=rfl
theorem GK:items (.rng 0 2 1)=some [.int 0,.int 1]:=rfl
theorem Hu:jy 1 (-1)=true:=by decide +kernel
noncomputable def iQ (s:Int) (l:List St):List St:=l.map (St.mv s)
theorem fT {s:Int} {l:List St}:(iQ s l).length=l.length:=List.length_map ..
theorem vx {n:Nat} {mu:List MObj} (h:WFm mu) (s:Int):∀ (sts:List St) {a0 a1 a2 a3 a4 a5 a6 a8 a9 a10 a11 x a13:Option Val},
    cB (qP (an prog (n+5)) (.call .movedStatement (.cons (.loc 12) (.cons (.loc 7) .nil)))) [12] (eS sts) [a0,a1,a2,a3,a4,a5,a6,some (.d (.int s)),a8,a9,a10,a11,x,a13] mu=some ((eS (iQ s sts)).map .d,mu)
  | [],_,_,_,_,_,_,_,_,_,_,_,_,_=>rfl
  | t::r,a0,a1,a2,a3,a4,a5,a6,a8,a9,a10,a11,x,a13=>by
    have ih:=vx (n:=n) h s r (a0:=a0) (a1:=a1) (a2:=a2) (a3:=a3) (a4:=a4) (a5:=a5) (a6:=a6) (a8:=a8) (a9:=a9) (a10:=a10) (a11:=a11) (x:=some (.d t.e)) (a13:=a13)
    have h1:=o7 n h t s
    rw [show eS (t::r)=t.e::eS r from rfl,show eS (iQ s (t::r))=(t.mv s).e::eS (iQ s r) from rfl]
    simp [ao,af,ah,ag,ak,aN,aE,eF,dk,eD,c5,cX,aF,bn,aM,aL,bg,cr,aj,kq,-getElem?_pos,h1]
    rw [ih]
    simp [eJ,-getElem?_pos]
theorem wu (n:Nat) {base r:List MObj} {nm:W} {ac:Int} {blks locs:List Dat} {m:Nat} (hw:WFm (bT base nm ac blks m locs r)) (b:Blk) (hb:b.tm.isCall=false) (h1:b.sts.length≤1000) (h2:blks.length < 1000) (h3:m≤90000) {s k l nx:Int} :
    an prog (n+6) .putBlock [.r base.length,.d (.lst (eS b.sts)),.d b.tm.e,.d (.tup [.int s,.int k,dU l none,.int nx,.int 1]),.d .any] (bT base nm ac blks m locs r) =
      some (.d .none,bT base nm ac (blks++[(cK s k l nx b).e]) (m+((cK s k l nx b).sts.length+1)) locs r):=by
  rw [aY (d:=gT) rfl rfl]
  have e1:=fun (sts:List St)=>@vx n _ hw s sts
  have hl:b.sts.length≤1048576:=by exact lb h1 rfl
  have hl':(iQ s b.sts).length≤1048576:=by rw [fT]; exact hl
  have ht:∀ w o l j n,b.tm ≠ .call w o l j n:=fun w o l j n q=>by rw [q] at hb; cases hb
  have e2:=od (n+2) (mu:=bT base nm ac blks m locs (r++[.list ((eS (iQ s b.sts)).map .d)])) (nZ hw fun k=>mH) b.tm ht s k
  have hl2:(iQ s b.sts).length < 1048576:=by rw [fT]; exact tb h1 rfl
  have hl3:(iQ s b.sts).length+1+2≤1048576:=by rw [fT]; exact GG h1 rfl
  have hl4:(iQ s b.sts).length+2+1≤1048576:=by rw [fT]; exact GG h1 rfl
  have hb2:blks.length < 1048576:=by exact lb h2 rfl
  have hb3:blks.length+1≤1048576:=by exact hb2
  have wfr:∀ (d:Dat) (bs:List Dat) (n:Nat),WFm (bT base nm ac bs n locs (r++[.frz d])):=fun d bs n=>nZ hw fun Z=>rfl
  cases hbt:b.tm with
  | call w o l j n=>exact absurd hbt (ht w o l j n)
  | ret =>
    rw [hbt] at e2
    have hl6:(iQ s b.sts).length+3≤1048576:=by rw [fT]; exact la h1 rfl
    have h5:=fun (d:Dat) (bs:List Dat) (number:Int)=>ji (n+4) (base:=base) (r:=r++[.frz d]) (nm:=nm) (ac:=ac) (blks:=bs) (locs:=locs) (n:=m) (number:=number) (k:=(iQ s b.sts).length+3+1) (first:=0) (last:=((iQ s b.sts).length:Int)+3+1) (wfr d bs _) (by exact Int.natCast_add _ _) (by exact iz _) (by rw [fT]; exact Ii h1 rfl) (by rw [fT]; omega)
    have hM:(cK s k l nx b)=⟨iQ s b.sts++[.assign l none (.use (.move s)),.dead (s+1),.dead s],.goto nx⟩:=by unfold cK; rw [hbt]; rfl
    rw [hM]
    simp [ao,af,ar,lY,bz,b0,ah,ag,fo,ak,av,aS,bC,bF,b5,b8,bO,bQ,xI,uh,aP,aB,az,ax,kN,zi,dW,eZ,c3,cM,bG,bu,aQ,ay,aA,aN,aE,lE,jV,jU,jS,dH,gm,cg,gi,j8,kB,Ef,ej,da,db,de,df,BM,zq,zh,zu,yi,eF,dk,d4,cp,cm,cn,gx,eD,c5,cX,eJ,dX,jg,gw,fB,fy,cR,gD,fW,fU,g7,aF,bn,aM,aL,aU,cW,fA,bg,bf,cu,cH,ce,cr,bx,aT,aH,am,ap,aq,aJ,bH,bM,c4,ir,hG,lH,kU,pM,nY,nH,ql,sm,mt,eO,mU,cC,lQ,bJ,bw,aW,aj,fg,gU,sf,kL,kO,lV,ix,uu,cN,b6,fh,d9,tU,bR,lim,-getElem?_pos,gT,e1,hl',e2,Tm.mv,Hu,JE,hl2,hl3,hb2,hb3,h5,hl6,-List.map_append]
    simp [-getElem?_pos,Blk.e,lP,eS,K5,dU,oi,zI,IF,J0]
    exact nT (m:=0) hw rfl
  | goto g =>
    rw [hbt] at e2
    have h5:=fun (d:Dat) (bs:List Dat) (number:Int)=>ji (n+4) (base:=base) (r:=r++[.frz d]) (nm:=nm) (ac:=ac) (blks:=bs) (locs:=locs) (n:=m) (number:=number) (k:=(iQ s b.sts).length+1) (first:=0) (last:=((iQ s b.sts).length:Int)+1) (wfr d bs _) (by exact Int.natCast_add _ _) (by exact iz _) (by rw [fT]; omega) (by rw [fT]; omega)
    have hM:(cK s k l nx b)=⟨iQ s b.sts,.goto (g+k)⟩:=by unfold cK; rw [hbt]; rfl
    rw [hM]
    simp [ao,af,ar,lY,bz,b0,ah,ag,fo,ak,av,aS,bF,b8,bO,bQ,aP,aB,az,ax,c3,cM,bG,bu,aQ,ay,aA,aN,aE,lE,jV,jU,jS,dH,cg,gi,j8,kB,ej,da,db,de,df,d4,cp,cm,cn,dX,gw,fB,fy,cR,gD,fW,fU,g7,aF,bn,aM,aL,aU,cW,fA,bg,bf,bj,cH,ce,bx,aT,aH,am,ap,aq,aJ,c4,ir,hG,lR,kU,pM,nY,nH,ql,sm,mt,eO,cC,lQ,bJ,bw,aW,aj,fg,gU,sf,kL,kO,lV,ix,fh,tU,bR,lim,-getElem?_pos,gT,e1,hl',e2,Tm.mv,hb2,hb3,h5,-List.map_append]
    simp [-getElem?_pos,Blk.e]
    exact nT (m:=0) hw rfl
  | switch o v a c =>
    rw [hbt] at e2
    have h5:=fun (d:Dat) (bs:List Dat) (number:Int)=>ji (n+4) (base:=base) (r:=r++[.frz d]) (nm:=nm) (ac:=ac) (blks:=bs) (locs:=locs) (n:=m) (number:=number) (k:=(iQ s b.sts).length+1) (first:=0) (last:=((iQ s b.sts).length:Int)+1) (wfr d bs _) (by exact Int.natCast_add _ _) (by exact iz _) (by rw [fT]; omega) (by rw [fT]; omega)
    have hM:(cK s k l nx b)=⟨iQ s b.sts,.switch (o.mv s) v (a+k) (c+k)⟩:=by unfold cK; rw [hbt]; rfl
    rw [hM]
    simp [ao,af,ar,lY,bz,b0,ah,ag,fo,ak,av,aS,bF,b8,bO,bQ,aP,aB,az,ax,c3,cM,bG,bu,aQ,ay,aA,aN,aE,lE,jV,jU,jS,dH,cg,gi,j8,kB,ej,da,db,de,df,d4,cp,cm,cn,dX,gw,fB,fy,cR,gD,fW,fU,g7,aF,bn,aM,aL,aU,cW,fA,bg,bf,bj,cH,ce,bx,aT,aH,am,ap,aq,aJ,c4,ir,hG,j3,kU,pM,nY,nH,ql,sm,mt,eO,cC,lQ,bJ,bw,aW,aj,fg,gU,sf,kL,kO,lV,ix,fh,tU,bR,lim,-getElem?_pos,gT,e1,hl',e2,Tm.mv,hb2,hb3,h5,-List.map_append]
    simp [-getElem?_pos,Blk.e]
    exact nT (m:=0) hw rfl
end Mine.Internal
namespace Mine.Internal
theorem AR {xs:List Dat} {i:Nat} {v:Dat}:(xs.map Val.d).set i (.d v)=(xs.set i v).map Val.d:=(List.map_set ..).symm
noncomputable def rq (s k l nx:Int):List Blk→Nat
  | []=>0
  | b::r=>((cK s k l nx b).sts.length+1)+rq s k l nx r
theorem Ip {s k l nx:Int}:rq s k l nx []=0:=rfl
theorem Iq {s k l nx:Int} {b:Blk} {r:List Blk}:rq s k l nx (b::r)=((cK s k l nx b).sts.length+1)+rq s k l nx r:=rfl
theorem rB {s k l nx:Int} {b:Blk}:(cK s k l nx b).sts.length≤b.sts.length+3:=by
  unfold cK
  split <;> simp
theorem zk {s k l nx:Int}:∀ {bs:List Blk},(∀ b ∈ bs,b.sts.length≤1000)→rq s k l nx bs≤1004 * bs.length
  | [],_=>by simp [Ip]
  | b::r,h=>by
    have:=rB (s:=s) (k:=k) (l:=l) (nx:=nx) (b:=b)
    have h1:=h b (.head _)
    have h2:=zk (s:=s) (k:=k) (l:=l) (nx:=nx) fun x hx=>h x (.tail _ hx)
    rw [Iq,List.length_cons]; omega
theorem lS {n:Nat} {base r:List MObj} {nm:W} {ac:Int} {locs:List Dat} {f:ae→Mu→Rx} {s k l nx:Int} {a1 a4 a11 a12 a13:Option Val} {inner:Bd} {q:Nat} (hac:inner.argc=1)
    (hf:eN (an prog (n+6)) (.cons (.expr (.meth (.loc 0) .putBlock (.cons (.loc 5) (.cons (.loc 6) (.cons (.tup (.cons (.loc 9) (.cons (.loc 10) (.cons (.loc 7) (.cons (.loc 8) (.cons (.attr (.loc 2) .argCount) .nil)))))) (.cons (.loc 3) .nil)))))) .nil)=f) :
    ∀ (bs:List Blk) {blks:List Dat} {m:Nat} {x y:Option Val},WFm (bT base nm ac blks m locs r)→(∀ b ∈ bs,b.tm.isCall=false∧b.sts.length≤1000)→blks.length+bs.length≤500→m+1004 * bs.length≤90000 →
    ∃ x' y',cT f [5,6] (eB bs) [some (.r base.length),a1,some (.d (inner.e q)),some (.d .any),a4,x,y,some (.d (dU l none)),some (.d (.int nx)),some (.d (.int s)),some (.d (.int k)),a11,a12,a13] (bT base nm ac blks m locs r) =
      some (.next,[some (.r base.length),a1,some (.d (inner.e q)),some (.d .any),a4,x',y',some (.d (dU l none)),some (.d (.int nx)),some (.d (.int s)),some (.d (.int k)),a11,a12,a13],bT base nm ac (blks++eB (bs.map (cK s k l nx))) (m+rq s k l nx bs) locs r)
  | [],blks,m,x,y,hw,h,hl,hm=>⟨x,y,by simp [il,eB,Ip]⟩
  | b::t,blks,m,x,y,hw,h,hl,hm=>by
    obtain ⟨hb1,hb2⟩:=h b (.head _)
    rw [List.length_cons] at hl hm
    have hs:=rB (s:=s) (k:=k) (l:=l) (nx:=nx) (b:=b)
    obtain ⟨x',y',ih⟩:=lS (a1:=a1) (a4:=a4) (a11:=a11) (a12:=a12) (a13:=a13) (q:=q) hac hf t (blks:=blks++[(cK s k l nx b).e]) (m:=m+((cK s k l nx b).sts.length+1)) (x:=some (.d (.lst (eS b.sts)))) (y:=some (.d b.tm.e)) (pF hw) (fun z hz=>h z (.tail _ hz)) (by simp; exact eV hl) (by omega)
    have h1:=wu n hw b hb1 hb2 (by exact w2 hl rfl) (by exact lq hm rfl) (s:=s) (k:=k) (l:=l) (nx:=nx)
    refine ⟨x',y',?_⟩
    rw [show eB (b::t)=b.e::eB t from rfl,gY,q_bind2]
    simp [iM,bg,fM]
    rw [← hf,fS]
    simp [ao,af,ar,b0,ah,ag,ak,bC,bG,bu,lE,jV,jU,jS,aF,bn,aM,aL,cH,ce,gb,bx,aT,aH,qd,kU,aj,mj,-getElem?_pos,hac,h1]
    rw [hf,ih]
    simp [Iq,eB,Nat.add_assoc]
noncomputable def ea (s:Int) (sts:List St) (o:Op):List St:=sts++[.live s,.live (s+1),.assign (s+1) none (.use o)]
theorem HP (n:Nat) {base r:List MObj} {nm:W} {ac:Int} {bs:List Blk} {locs:List Dat} {m j:Nat} (hw:WFm (bT base nm ac (eB bs) m locs r)) {sts:List St} {w:W} {o:Op} {l nx:Int} (hj:bs[j]? = some ⟨sts,.call w o l none nx⟩) (hsts:sts.length≤1000)
    {inner:Bd} {q:Nat} (hac:inner.argc=1) (hi:∀ b ∈ inner.blks,b.tm.isCall=false∧b.sts.length≤1000) (hl:bs.length+inner.blks.length≤500) (hm:m+4+1004 * inner.blks.length≤90000) (hL:locs.length+inner.locs.length≤1000) :
    an prog (n+7) .put [.r base.length,.d (.int j),.d (inner.e q)] (bT base nm ac (eB bs) m locs r) =
      some (.d .none,bT base nm ac (eB (bs.set j ⟨ea locs.length sts o,.goto bs.length⟩++inner.blks.map (cK locs.length bs.length l nx))) (m+4+rq locs.length bs.length l nx inner.blks) (locs++inner.locs) r):=by
  rw [aY (d:=sb) rfl rfl]
  have hjl:j < bs.length:=(List.getElem?_eq_some_iff.mp hj).1
  have hj2:j < 1048576:=by exact w7 hl hjl rfl
  have hs1:sts.length≤1048576:=by exact lb hsts rfl
  have hs2:sts.length+2≤1048576:=by exact la hsts rfl
  have hs3:sts.length+2 < 1048576:=by exact GG hsts rfl
  have hs4:sts.length+3≤1048576:=by exact hs3
  have hb1:bs.length≤1048576:=by exact lq hl rfl
  have hl1:locs.length≤1048576:=by exact lq hL rfl
  have hl2:locs.length+inner.locs.length≤1048576:=by exact lb hL rfl
  have h5:=fun (d:Dat) (bs':List Dat)=>ji (n+5) (base:=base) (r:=r++[.frz d]) (nm:=nm) (ac:=ac) (blks:=bs') (locs:=locs) (n:=m) (number:=(j:Int)) (k:=4) (first:=(sts.length:Int)) (last:=(sts.length:Int)+3+1) (nZ hw fun Z=>rfl) (by omega) (by exact iz _) (by exact Ii hsts rfl) (by exact lq hm rfl)
  have hsA:sts.length≤1048574:=by exact lb hsts rfl
  have hsB:sts.length < 1048574:=by exact tb hsts rfl
  have hsC:sts.length≤1048573:=by exact lb hsts rfl
  have hidx:cU (j:Int) bs.length=some j:=by rw [bX,if_pos ⟨by exact iz _,by simpa using hjl,by unfold lim; simp; exact hj2⟩]; simp
  clear hjl
  simp [ao,af,ar,lY,bz,oT,b0,ah,ag,jQ,fo,ak,av,aS,bC,bF,b5,b8,bO,bQ,c3,cM,bG,bu,aQ,ay,aA,dE,qa,nR,lE,jV,jU,jS,dH,gm,cg,gi,j8,kB,jq,jG,pU,ej,da,db,de,df,BM,zq,zh,zu,yi,E1,A2,xM,wJ,wF,HU,G9,eF,dk,d4,cp,cm,cn,gx,eD,c5,cX,eJ,dX,jg,H3,gw,fB,fy,cR,gD,fW,fU,g7,aF,bn,aM,aL,aU,cW,fA,n7,bg,gI,kx,kh,o6,pR,cH,ce,fS,fD,d3,d0,tj,qI,q8,il,gY,fM,gb,cr,bx,aT,aH,am,ap,aq,aJ,bH,bM,ir,ew,hG,zc,qe,zX,ff,sr,qd,kU,pM,xj,nY,BI,nH,C4,ql,sm,mt,eO,yS,mU,AR,cC,lK,nD,nK,bJ,aj,eK,ik,nO,kT,sf,kL,kO,lV,ix,kq,uu,cN,b6,fh,d9,F5,nI,mR,lim,-getElem?_pos,sb,hj,hidx,gj,Blk.e,hsA,hsB,hsC,hs1,hs2,hs3,hs4,hb1,hl1,hl2,hac,GK,Cv,zS,h5,-List.map_append,-bX,-List.map_set]
  generalize hf:eN _ _=f
  obtain ⟨x',y',e⟩:=lS (s:=locs.length) (k:=bs.length) (l:=l) (nx:=nx) (a1:=some (.d (.int (j:Int)))) (a4:=some (.r (base.length+5+r.length))) (a11:=some (.d (.int 0))) (a12:=some (.d o.e)) (a13:=none) (q:=q) hac hf inner.blks (blks:=(eB bs).set j (Blk.e ⟨ea locs.length sts o,.goto bs.length⟩)) (m:=m+4) (locs:=locs++inner.locs)
    (r:=r++[.frz (.lst (eS (ea locs.length sts o)))]) (x:=some (.d (.lst (eS sts)))) (y:=some (.d (Tm.call w o l none nx).e)) (nZ hw fun Z=>rfl) hi (by rw [List.length_set,ew]; exact hl) hm
  have hB:Blk.e ⟨ea locs.length sts o,.goto bs.length⟩=.lst [.lst (eS sts++[.tup [.str .live_,.int locs.length],.tup [.str .live_,.int (locs.length+1)],.tup [.str .assign_,.tup [.int (locs.length+1),.tup []],.tup [.str .use_,o.e]]]),.tup [.str .goto_,.int bs.length]]:=by
    unfold Blk.e ea; rw [lP]; rfl
  have hE:eS (ea locs.length sts o)=eS sts++[.tup [.str .live_,.int locs.length],.tup [.str .live_,.int (locs.length+1)],.tup [.str .assign_,.tup [.int (locs.length+1),.tup []],.tup [.str .use_,o.e]]]:=by
    unfold ea; rw [lP]; rfl
  rw [lM,← F3]
  rw [hB,hE] at e
  rw [hB,e]
  simp [aH,bx,c4]
  exact nT (m:=0) hw rfl
theorem un (n:Nat) {base:List MObj} {b:Bd} (h:∀ k ∈ b.blks,k.sts.length≤1000) (h2:b.blks.length≤1000) (h3:b.locs.length≤1000) :
    an prog (n+3) .initCaller [.r base.length,.d (b.e 0)] (base++[.inst .caller [] []])=some (.d .none,bT base b.name b.argc (eB b.blks) 0 b.locs []):=by
  rw [aY (d:=im) rfl rfl]
  have h1:=Bf n (base:=base++[.inst .caller [] []]) h h2 h3
  simp [ao,af,ar,b0,ah,ag,ak,aN,aE,aF,bn,aM,aL,ua,wy,wX,wS,bx,aT,aH,am,ap,aq,aJ,c4,aj,jL,lim,-getElem?_pos,im,h1,cD,GT,Fv,bT]
end Mine.Internal
namespace Mine.Internal
structure Cs where
  bs:List Blk
  locs:List Dat
noncomputable def cL (P:W→Option Bd) (c:Cs) (j:Nat) (b:Blk):Cs:=match b.tm with
  | .call w o l none nx=>(match P w with
    | some inner=>⟨c.bs.set j ⟨ea c.locs.length b.sts o,.goto c.bs.length⟩++inner.blks.map (cK c.locs.length c.bs.length l nx),c.locs++inner.locs⟩
    | none=>c)
  | _=>c
noncomputable def kG (P:W→Option Bd):List Blk→Nat→Cs→Cs
  | [],_,c=>c
  | b::r,j,c=>kG P r (j+1) (cL P c j b)
theorem Ir {P:W→Option Bd} {j:Nat} {c:Cs}:kG P [] j c=c:=rfl
theorem IW {P:W→Option Bd} {b:Blk} {r:List Blk} {j:Nat} {c:Cs}:kG P (b::r) j c=kG P r (j+1) (cL P c j b):=rfl
noncomputable def Bd.inl (b:Bd) (P:W→Option Bd):Bd :=
  let c:=kG P b.blks 0 ⟨b.blks,b.locs⟩
  ⟨b.name,b.argc,c.locs,c.bs⟩
structure Small (b:Bd):Prop where
  argc:b.argc=1
  blks:∀ k ∈ b.blks,k.tm.isCall=false∧k.sts.length≤1000
  n1:b.blks.length≤20
  n2:b.locs.length≤20
structure PAt (ws:List W) (ds:List Dat) (most:Int) (P:W→Option Bd) (w:W):Prop where
  has:ws.contains w=true
  at_:∃ (b:Bd) (q:Nat),c9 w ws ds=some (b.e q)∧((P w=some b∧Small b∧(iK b.blks:Int)≤most)∨(P w=none∧∃ b1 r,b.blks=b1::r∧b1.tm.isCall=true∧b1.sts.length≤1000))
theorem AF (n:Nat) {base:List MObj} {nm:W} {ac:Int} {B:Bd} {ws:List W} {ds:List Dat} {most:Int} {P:W→Option Bd} {c:Cs} {m j:Nat} {b:Blk} {key:Option Val} {f:ae→Mu→Rx} (hw:∀ bs m locs,WFm (bT base nm ac bs m locs []))
    (hf:eN (an prog (n+7)) (.of [(.asg 5 (.call .calledKey (.of [(.sub (.sub (.attr (.loc 0) .blocks) (.loc 4)) (.int 1))]))),(.ifs (.and (.of [(.notN (.loc 5)),(.cmp .in_ (.loc 5) (.loc 1)),(.call .isSmall (.of [(.sub (.loc 1) (.loc 5)),(.loc 2)])),(.cmp .eq (.sub (.sub (.sub (.sub (.attr (.loc 0) .blocks) (.loc 4)) (.int 1)) (.int 3)) (.int 1)) (.tup (.of [])))])) (.of [(.expr (.meth (.loc 3) .put (.of [(.loc 4),(.sub (.loc 1) (.loc 5))])))]) .nil)])=f)
    (hb:B.blks[j]? = some b) (hc:c.bs[j]? = some b) (hP:∀ w o l s nx,b.tm=.call w o l s nx→PAt ws ds most P w) (hs:b.sts.length≤1000) (h1:c.bs.length≤400) (h2:m≤60300) (h3:c.locs.length≤900) :
    ∃ key' m',m'≤m+20084∧f [some (.d (B.e 0)),some (.d (.dct ws ds)),some (.d (.int most)),some (.r base.length),some (.d (.int j)),key] (bT base nm ac (eB c.bs) m c.locs []) =
      some (.next,[some (.d (B.e 0)),some (.d (.dct ws ds)),some (.d (.int most)),some (.r base.length),some (.d (.int j)),key'],bT base nm ac (eB (cL P c j b).bs) m' (cL P c j b).locs []):=by
  have hjl:j < c.bs.length:=(List.getElem?_eq_some_iff.mp hc).1
  have hjB:j < B.blks.length:=(List.getElem?_eq_some_iff.mp hb).1
  have hidx:cU (j:Int) B.blks.length=some j:=by rw [bX,if_pos ⟨by exact iz _,by simpa using hjB,by unfold lim; simp; exact vo h1 hjl rfl⟩]; simp
  have hW:=hw (eB c.bs) m c.locs
  have k1:=uI (n+6) hW b.tm
  have hB1:∀ mu,aX mu (.d b.e) (.d (.int 1))=some (.d b.tm.e):=fun Z=>rfl
  clear hjB
  rw [← hf,fS]
  cases hbt:b.tm with
  | ret =>
    rw [hbt] at k1
    refine ⟨some (.d .none),m,by exact Nat.le_add_right _ _,?_⟩
    simp [ao,af,ah,ag,ak,av,nQ,tA,mq,kw,nh,bG,bu,aQ,ay,aA,dE,dF,aN,aE,aF,bn,aM,aL,aU,bf,bj,bx,aT,aH,am,ap,aq,aJ,ew,ff,aj,fg,-getElem?_pos,hb,hidx,gj,hB1,hbt,k1,cL,-bX]
  | goto g =>
    rw [hbt] at k1
    refine ⟨some (.d .none),m,by exact Nat.le_add_right _ _,?_⟩
    simp [ao,af,ah,ag,ak,av,nQ,tA,mq,kw,nh,bG,bu,aQ,ay,aA,dE,dF,aN,aE,aF,bn,aM,aL,aU,bf,bj,bx,aT,aH,am,ap,aq,aJ,ew,ff,aj,fg,-getElem?_pos,hb,hidx,gj,hB1,hbt,k1,cL,-bX]
  | switch o v a e =>
    rw [hbt] at k1
    refine ⟨some (.d .none),m,by exact Nat.le_add_right _ _,?_⟩
    simp [ao,af,ah,ag,ak,av,nQ,tA,mq,kw,nh,bG,bu,aQ,ay,aA,dE,dF,aN,aE,aF,bn,aM,aL,aU,bf,bj,bx,aT,aH,am,ap,aq,aJ,ew,ff,aj,fg,-getElem?_pos,hb,hidx,gj,hB1,hbt,k1,cL,-bX]
  | call w o l s nx =>
    rw [hbt] at k1
    obtain ⟨h4,b2,q,h5,h6⟩:=hP w o l s nx hbt
    have hbb:b=⟨b.sts,.call w o l s nx⟩:=by rw [← hbt]
    have h4':w ∈ ws:=by simpa using h4
    rcases h6 with ⟨h7,h8,h9⟩ | ⟨h7,b1,r,h8,h9,h10⟩
    · have k2:=wQ (n+6) hW b2 q most h8.blks h9
      cases s with
      | some s =>
        refine ⟨some (.d (.str w)),m,by exact Nat.le_add_right _ _,?_⟩
        simp [ao,af,ah,ag,ak,av,bC,aP,aB,az,ax,nQ,uA,mq,tz,kw,pN,bG,bu,aQ,ay,aA,dE,dF,js,aN,aE,aF,bn,aM,aL,aU,bf,bj,bx,aT,aH,am,ap,aq,aJ,ew,Bz,qe,ff,bw,ti,aW,aj,fg,cN,qv,-getElem?_pos,hb,hidx,gj,hB1,hbt,k1,k2,h4',h5,cL,Ct,-bX]
      | none =>
        have n1:=h8.n1
        have n2:=h8.n2
        have k3:=HP n hW (hbb ▸ hc) hs h8.argc h8.blks (q:=q) (by exact lm h1 n1 rfl) (by omega) (by exact lm h3 n2 rfl)
        refine ⟨some (.d (.str w)),m+4+rq c.locs.length c.bs.length l nx b2.blks,?_,?_⟩
        · have:=zk (s:=c.locs.length) (k:=c.bs.length) (l:=l) (nx:=nx) fun z hz=>(h8.blks z hz).2
          omega
        · simp [ao,af,ar,b0,ah,ag,ak,av,bC,aP,aB,az,ax,nQ,uA,mq,tz,kw,pN,bG,bu,aQ,ay,aA,dE,dF,js,aN,aE,lE,jV,jU,jS,aF,bn,aM,aL,aU,bf,cu,cH,ce,bx,aT,aH,am,ap,aq,aJ,ew,Bz,qe,ff,kU,bw,ti,aW,aj,fg,cN,qo,-getElem?_pos,hb,hidx,gj,hB1,hbt,k1,k2,h4',h5,k3,cL,h7,oi,-bX]
    · have k2:=xw (n+6) hW b2 q most h8 h9 h10
      refine ⟨some (.d (.str w)),m,by exact Nat.le_add_right _ _,?_⟩
      have hst:cL P c j b=c:=by
        unfold cL; rw [hbt]
        cases s with
        | none=>dsimp only; rw [h7]
        | some s=>rfl
      rw [hst]
      simp [ao,af,ah,ag,ak,av,aP,aB,az,ax,nQ,uA,mq,kw,pN,nh,bG,bu,aQ,ay,aA,dE,dF,js,aN,aE,aF,bn,aM,aL,aU,bf,bj,bx,aT,aH,am,ap,aq,aJ,ew,ff,ti,aj,fg,-getElem?_pos,hb,hidx,gj,hB1,hbt,k1,k2,h4',h5,oi,-bX]
set_option tactic.hygienic true in
theorem ul (n:Nat) {base:List MObj} {nm:W} {ac:Int} {B:Bd} {ws:List W} {ds:List Dat} {most:Int} {P:W→Option Bd} {f:ae→Mu→Rx} (hw:∀ bs m locs,WFm (bT base nm ac bs m locs []))
    (hf:eN (an prog (n+7)) (.of [(.asg 5 (.call .calledKey (.of [(.sub (.sub (.attr (.loc 0) .blocks) (.loc 4)) (.int 1))]))),(.ifs (.and (.of [(.notN (.loc 5)),(.cmp .in_ (.loc 5) (.loc 1)),(.call .isSmall (.of [(.sub (.loc 1) (.loc 5)),(.loc 2)])),(.cmp .eq (.sub (.sub (.sub (.sub (.attr (.loc 0) .blocks) (.loc 4)) (.int 1)) (.int 3)) (.int 1)) (.tup (.of [])))])) (.of [(.expr (.meth (.loc 3) .put (.of [(.loc 4),(.sub (.loc 1) (.loc 5))])))]) .nil)])=f)
    (hP:∀ b ∈ B.blks,b.sts.length≤1000∧∀ w o l s nx,b.tm=.call w o l s nx→PAt ws ds most P w) :
    ∀ (rest:List Blk) (c:Cs) (m j:Nat) (x key:Option Val),(∀ i b,rest[i]? = some b→B.blks[j+i]? = some b∧c.bs[j+i]? = some b)→j+rest.length≤4→c.bs.length≤4+20 * j→c.locs.length≤20+20 * j→m≤20084 * j →
    ∃ x' key' m',cT f [4] ((List.range rest.length).map fun (i:Nat)=>Dat.int ((j+i:Nat):Int)) [some (.d (B.e 0)),some (.d (.dct ws ds)),some (.d (.int most)),some (.r base.length),x,key] (bT base nm ac (eB c.bs) m c.locs []) =
      some (.next,[some (.d (B.e 0)),some (.d (.dct ws ds)),some (.d (.int most)),some (.r base.length),x',key'],bT base nm ac (eB (kG P rest j c).bs) m' (kG P rest j c).locs [])
  | [],c,m,j,x,key,hr,hj,h1,h2,h3=>⟨x,key,m,by simp [il,Ir]⟩
  | b::rest,c,m,j,x,key,hr,hj,h1,h2,h3=>by
    obtain ⟨g1,g2⟩:=hr 0 b rfl
    rw [Nat.add_zero] at g1 g2
    rw [List.length_cons] at hj
    obtain ⟨p1,p2⟩:=hP b (List.mem_of_getElem? g1)
    refine xe2 (AF n (B:=B) (c:=c) (m:=m) (j:=j) (b:=b) (key:=key) hw hf g1 g2 p2 p1 (by exact jb hj h1 rfl) (by exact Lk hj h3 rfl) (by exact jb hj h2 rfl)) fun key' m' r_=>aO r_ fun hm' e=>?_
    have hjl:j < c.bs.length:=(List.getElem?_eq_some_iff.mp g2).1
    have hst:(cL P c j b).bs.length≤4+20 * (j+1)∧(cL P c j b).locs.length≤20+20 * (j+1)∧∀ i,j+1≤i→i < c.bs.length→(cL P c j b).bs[i]? = c.bs[i]? := by
      unfold cL
      split
      · rename_i w o l nx hbt
        split
        · rename_i inner hin
          obtain ⟨_,b2,q,_,h6⟩:=p2 w o l none nx hbt
          rcases h6 with ⟨h7,h8,_⟩ | ⟨h7,_⟩
          · rw [hin] at h7; (replace h7:=iS h7; subst h7)
            have n1:=h8.n1
            have n2:=h8.n2
            refine ⟨by simp; exact jc h1 n1,by simp; exact jc h2 n2,fun i hi hi2=>?_⟩
            dsimp only
            rw [List.getElem?_append_left (by rw [List.length_set]; exact hi2),List.getElem?_set_ne (by exact Nat.ne_of_lt hi)]
          · rw [hin] at h7; exact nS h7.symm
        · exact ⟨by exact jd h1,by exact jd h2,fun Z Z Z=>rfl⟩
      · exact ⟨by exact jd h1,by exact jd h2,fun Z Z Z=>rfl⟩
    obtain ⟨s1,s2,s3⟩:=hst
    obtain ⟨x',key'',m'',ih⟩:=ul n hw hf hP rest (cL P c j b) m' (j+1) (some (.d (.int (j:Int)))) key' (fun i b' hb'=>by
      obtain ⟨g3,g4⟩:=hr (i+1) b' (by simpa using hb')
      rw [show j+(i+1)=j+1+i by exact zn] at g3 g4
      exact ⟨g3,(s3 _ (by exact Nat.le_add_right _ _) (List.getElem?_eq_some_iff.mp g4).1).trans g4⟩) (by exact eV hj) s1 s2 (by omega)
    refine ⟨x',key'',m'',?_⟩
    rw [List.length_cons,List.range_succ_eq_map,List.map_cons,List.map_map,gY,cr]
    simp only [iM,bg,List.length_cons,List.length_nil,Nat.reduceAdd,Nat.reduceLT,if_true,fM,List.set_cons_succ,List.set_cons_zero,Nat.add_zero]
    rw [e,gb]
    have:((fun (i:Nat)=>Dat.int ((j+i:Nat):Int)) ∘ Nat.succ)=fun (i:Nat)=>Dat.int ((j+1+i:Nat):Int):=by
      funext i; simp; omega
    rw [this,ih]
    rfl
theorem kY (n:Nat) {base:List MObj} {B:Bd} {ws:List W} {ds:List Dat} {most:Int} {P:W→Option Bd} (hw:WFm base)
    (hP:∀ b ∈ B.blks,b.sts.length≤1000∧∀ w o l s nx,b.tm=.call w o l s nx→PAt ws ds most P w) (h1:B.blks.length≤4) (h2:B.locs.length≤20) :
    ∃ q,an prog (n+8) .inlined [.d (B.e 0),.d (.dct ws ds),.d (.int most)] base=some (.d ((B.inl P).e q),base):=by
  rw [aY (d:=kZ) rfl rfl]
  have k1:=un (n+4) (base:=base) (b:=B) (fun k hk=>(hP k hk).1) (by exact lb h1 rfl) (by exact lb h2 rfl)
  have hl:B.blks.length≤1048576:=by exact lb h1 rfl
  have hok:jy 0 (B.blks.length:Int)=true:=by unfold jy lim; simp; exact hl
  have hit:items (.rng 0 (B.blks.length:Int) 1)=some ((List.range B.blks.length).map fun (i:Nat)=>Dat.int ((0+i:Nat):Int)):=by
    unfold items; dsimp only
    rw [hok,if_neg (by decide),if_pos rfl]
    simp
  simp [ao,af,ah,ag,ak,bG,bu,mB,j7,j0,DR,dH,gm,cg,gi,jq,jg,aF,bn,aM,aL,aU,fD,d3,aT,aH,am,ap,aq,aJ,ew,ff,aj,eK,lim,-getElem?_pos,kZ,k1,hl]
  rw [hit]
  simp only [d0]
  generalize hf:eN _ _=f
  refine xe3 (ul n (base:=base) (nm:=B.name) (ac:=B.argc) (B:=B) (ws:=ws) (ds:=ds) (most:=most) (P:=P) (fun Z Z Z=>D7 hw) hf hP B.blks ⟨B.blks,B.locs⟩ 0 0 none none (fun i b hb=>by rw [Nat.zero_add]; exact ⟨hb,hb⟩) (by exact nz h1) (by exact h1) (by exact h2) (by exact Nat.le_add_left _ _)) fun x' key' m' e=>?_
  rw [e]
  refine ⟨m',?_⟩
  simp [ao,ar,b0,ah,ag,ak,c3,cM,bG,bu,gw,fB,fy,lN,cR,uo,gD,ta,fW,fU,rf,qR,r6,wd,sx,r9,g7,bD,bo,aT,aH,bU,aV,kU,pM,xj,nY,BI,bJ,aj,-getElem?_pos]
  simp [bT,-List.map_append]
  exact i7 hw rfl
end Mine.Internal
namespace Mine.Internal
inductive V where
  | i (x:Int) | p (a b:Int)
  deriving DecidableEq
noncomputable def V.e:V→Dat
  | .i x=>.int x
  | .p a b=>.tup [.int a,.int b]
theorem t7 {x:Int}:(V.i x).e=.int x:=rfl
theorem GZ {a b:Int}:(V.p a b).e=.tup [.int a,.int b]:=rfl
structure Sto where
  ws:List (Int × V)
  al:List Int
noncomputable def Sto.get (σ:Sto) (l:Int):Option V:=if l ∈ σ.al then σ.ws.lookup l else none
noncomputable def V.at_ (v:V) (j:Int):Option V:=match v with
  | .p a b=>if j=0 then some (.i a) else if j=1 then some (.i b) else none
  | _=>none
noncomputable def Sto.val (σ:Sto):Op→Option V
  | .const v=>some (.i v)
  | .copy l none=>σ.get l
  | .copy l (some j)=>(σ.get l).bind fun v=>v.at_ j
  | .move l=>σ.get l
noncomputable def V.put (v:V) (j x:Int):Option V:=match v with
  | .p a b=>if j=0 then some (.p x b) else if j=1 then some (.p a x) else none
  | _=>none
noncomputable def Sto.set (σ:Sto) (l:Int) (j:Option Int) (v:V):Option Sto:=if l ∈ σ.al then (match j with
    | none=>some ⟨cj l v σ.ws,σ.al⟩
    | some j=>(match v,σ.ws.lookup l with
      | .i x,some w=>(w.put j x).map fun u=>⟨cj l u σ.ws,σ.al⟩
      | _,_=>none)) else none
noncomputable def FH (w:W) (x y:Int):Option Int:=match w with
  | .plus_=>some (x+y)
  | .xor_=>some (PySem.Builtin.bitXor x y)
  | .lt_=>some (if x < y then 1 else 0)
  | _=>none
noncomputable def Sto.rv (σ:Sto):Rv→Option V
  | .use o=>σ.val o
  | .bin w a b=>(match σ.val a,σ.val b with
    | some (.i x),some (.i y)=>(FH w x y).map fun z=>.i (z.fmod 256)
    | _,_=>none)
  | .tup a b=>(match σ.val a,σ.val b with
    | some (.i x),some (.i y)=>some (.p x y)
    | _,_=>none)
noncomputable def Sto.step (σ:Sto):St→Option (Sto × List V)
  | .print o=>(σ.val o).map fun v=>(σ,[v])
  | .live l=>if l ∈ σ.al then none else some (⟨σ.ws,σ.al++[l]⟩,[])
  | .dead l=>if l ∈ σ.al then some (⟨cO l σ.ws,σ.al.filter fun x=>x != l⟩,[]) else none
  | .assign l j r=>(σ.rv r).bind fun v=>(σ.set l j v).map fun τ=>(τ,[])
noncomputable def Sto.steps (σ:Sto):List St→Option (Sto × List V)
  | []=>some (σ,[])
  | t::r=>(σ.step t).bind fun (τ,ps)=>(τ.steps r).map fun (υ,qs)=>(υ,ps++qs)
theorem Mo {σ:Sto}:σ.steps []=some (σ,[]):=rfl
theorem ID {σ:Sto} {t:St} {r:List St}:σ.steps (t::r)=(σ.step t).bind fun (τ,ps)=>(τ.steps r).map fun (υ,qs)=>(υ,ps++qs):=rfl
noncomputable def eW (ws:List (Int × V)):List (Int × Dat):=ws.map fun kv=>(kv.1,kv.2.e)
theorem qB {l:Int}:∀ {ws:List (Int × V)},(eW ws).lookup l=(ws.lookup l).map V.e
  | []=>rfl
  | (k,v)::r=>by
    have ih:=qB (l:=l) (ws:=r)
    unfold eW at ih ⊢
    rw [List.map_cons,List.lookup_cons,List.lookup_cons]
    cases l == k <;> simp [ih]
theorem tT {l:Int} {v:V} {ws:List (Int × V)}:cj l v.e (eW ws)=eW (cj l v ws):=by
  unfold cj eW
  rw [List.any_map]
  have:((fun kv:Int × Dat=>decide (kv.1=l)) ∘ fun kv:Int × V=>(kv.1,kv.2.e))=fun kv=>decide (kv.1=l):=rfl
  rw [this]
  split
  · rw [List.map_map,List.map_map]
    congr 1
    funext kv
    by_cases h:kv.1=l <;> simp [h]
  · simp
theorem Fe {l:Int} {ws:List (Int × V)}:cO l (eW ws)=eW (cO l ws):=by
  unfold cO eW
  rw [List.filter_map]
  rfl
theorem yA {ws:List (Int × V)}:(eW ws).length=ws.length:=List.length_map ..
noncomputable def eI (l:List Int):List Dat:=l.map .int
theorem ek:∀ {l:List Int},gr (eI l)=some l
  | []=>rfl
  | x::r=>by
    have:=ek (l:=r)
    unfold eI at this ⊢
    rw [List.map_cons,J1,this]; rfl
noncomputable def fr (base:List MObj) (p:Nat) (pr:List Dat) (ws:List (Int × V)) (al:List Int):List MObj :=
  base.set p (.list (pr.map .d))++[.idict (eW ws),.sdict [.worths_,.alive_,.bad_] [.r base.length,.d (.lst (eI al)),.d (.bool false)]]
section
variable {base:List MObj} {p:Nat} {pr:List Dat} {ws:List (Int × V)} {al:List Int}
theorem jE:(fr base p pr ws al)[base.length]? = some (.idict (eW ws)):=by simp [fr]
theorem dD:(fr base p pr ws al)[base.length+1]? = some (.sdict [.worths_,.alive_,.bad_] [.r base.length,.d (.lst (eI al)),.d (.bool false)]):=by simp [fr]
theorem qE (hp:p < base.length):(fr base p pr ws al)[p]? = some (.list (pr.map .d)):=by
  unfold fr; rw [List.getElem?_append_left (by simpa using hp),List.getElem?_set_self hp]
theorem pY {ws':List (Int × V)}:(fr base p pr ws al).set base.length (.idict (eW ws'))=fr base p pr ws' al:=by simp [fr]
theorem tG {al':List Int}:(fr base p pr ws al).set (base.length+1) (.sdict [.worths_,.alive_,.bad_] [.r base.length,.d (.lst (eI al')),.d (.bool false)])=fr base p pr ws al':=by simp [fr]
theorem nC (hp:p < base.length) {pr':List Dat}:(fr base p pr ws al).set p (.list (pr'.map .d))=fr base p pr' ws al:=by
  unfold fr; rw [List.set_append_left _ _ (by simpa using hp),List.set_set]
theorem cw:(fr base p pr ws al).length=base.length+2:=by simp [fr]
theorem w8 (h:∀ pr:List Dat,WFm (base.set p (.list (pr.map .d)))):WFm (fr base p pr ws al):=by
  unfold fr
  refine (h pr).app ?_
  simp only [List.all_cons,List.all_nil,Bool.and_true]
  simp [sL,EN,ER,G5,Gk,Ex,pH,t8,sF]
theorem KY (h:∀ pr:List Dat,WFm (base.set p (.list (pr.map .d)))) (hp:p < base.length) (pr':List Dat):WFm ((fr base p pr ws al).set p (.list (pr'.map .d))):=by rw [nC hp]; exact w8 h
theorem LP (hp:p < base.length):(fr base p pr ws al).set p (.list (pr.map .d))=fr base p pr ws al:=nC hp
end
theorem vj {v:V} {m:Mu}:ny (some (.d v.e,m))=some (.d (.bool false),m):=by cases v <;> rfl
theorem gW (n:Nat) {base:List MObj} {p:Nat} {pr:List Dat} {σ:Sto} (hW:WFm (fr base p pr σ.ws σ.al)) {o:Op} {v:V} (h:σ.val o=some v) :
    an prog (n+1) .value [.r (base.length+1),.d o.e] (fr base p pr σ.ws σ.al)=some (.d v.e,fr base p pr σ.ws σ.al):=by
  rw [aY (d:=ig) rfl rfl]
  have getv:∀ {l:Int} {w:V},σ.get l=some w→l ∈ σ.al∧(eW σ.ws).lookup l=some w.e:=fun {l w} e=>by
    unfold Sto.get at e
    split at e
    · rename_i hl; exact ⟨hl,by rw [qB,e]; rfl⟩
    · exact nS e
  cases o with
  | const c =>
    (replace h:=iS h; subst h)
    simp [ao,af,ah,ag,ak,av,aS,aP,aB,az,ax,aQ,ay,aA,bf,cu,bD,bo,aT,bU,am,ap,aq,aJ,aV,Eb,FW,bw,aW,aj,bR,-getElem?_pos,ig]
    exact bB hW rfl
  | move l =>
    obtain ⟨h1,h2⟩:=getv h
    simp [ao,af,ar,ci,gf,ah,ag,ak,av,aS,bC,aP,aB,az,ax,kN,j6,i9,iH,ja,dW,eZ,aQ,ay,aA,gk,fk,sg,pw,pv,j1,pC,pI,aF,aU,cW,fA,bg,bf,bj,bD,bo,bx,aT,aH,bU,am,ap,aq,aJ,aV,Fo,F2,ek,jE,dD,bJ,bw,iI,jp,aW,aj,cY,kC,iq,cN,iA,bR,qo,-getElem?_pos,ig,dU,oi,h1,h2,vj]
    exact bB hW rfl
  | copy l j =>
    cases j with
    | none =>
      obtain ⟨h1,h2⟩:=getv h
      simp [ao,af,ar,ci,gf,ah,ag,ak,av,aS,bC,aP,aB,az,ax,kN,j6,i9,iH,ja,dW,eZ,aQ,ay,aA,gk,fk,sg,pw,pv,j1,pC,pI,aF,aU,cW,fA,bg,bf,bj,bD,bo,bx,aT,aH,bU,am,ap,aq,aJ,aV,tX,sU,ek,jE,dD,bJ,bw,iI,jp,aW,aj,cY,kC,iq,cN,iA,bR,qo,-getElem?_pos,ig,dU,oi,h1,h2,vj]
      exact bB hW rfl
    | some j =>
      refine xe1 (Option.bind_eq_some_iff.mp (show (σ.get l).bind (fun v=>v.at_ j)=some v from h)) fun w r_=>aO r_ fun e1 e2=>?_
      obtain ⟨h1,h2⟩:=getv e1
      cases w with
      | i x=>exact nS e2
      | p a b =>
        unfold V.at_ at e2
        dsimp only at e2
        split at e2
        · rename_i hj
          subst hj; (replace e2:=iS e2; subst e2)
          simp [ao,af,ar,ci,gf,ah,ag,ak,av,aS,bC,aP,aB,az,ax,kN,yY,j6,i9,iH,ja,dW,gL,aQ,ay,aA,gk,fk,sg,pw,pv,j1,pC,pI,aF,aU,cW,fA,bg,bf,bj,bD,bo,bx,aT,aH,bU,am,ap,aq,aJ,aV,tX,sU,ek,jE,dD,bJ,bw,iI,jp,aW,aj,cY,kC,iq,cN,iA,gy,gB,bR,qv,-getElem?_pos,ig,dU,oi,h1,h2,t7]
          exact bB hW rfl
        · split at e2
          · rename_i hj
            subst hj; (replace e2:=iS e2; subst e2)
            simp [ao,af,ar,ci,gf,ah,ag,ak,av,aS,bC,aP,aB,az,ax,kN,yY,j6,i9,iH,ja,dW,gL,aQ,ay,aA,gk,fk,sg,pw,pv,j1,pC,pI,aF,aU,cW,fA,bg,bf,bj,bD,bo,bx,aT,aH,bU,am,ap,aq,aJ,aV,tX,sU,ek,jE,dD,bJ,bw,iI,jp,aW,aj,cY,kC,iq,cN,iA,gy,gB,bR,qv,-getElem?_pos,ig,dU,oi,h1,h2,t7]
            exact bB hW rfl
          · exact nS e2
set_option tactic.hygienic true in
theorem BD (n:Nat) {base:List MObj} {p:Nat} {pr:List Dat} {σ τ:Sto} (hW:∀ ws,WFm (fr base p pr ws σ.al)) {l:Int} {j:Option Int} {v:V} (h:σ.set l j v=some τ) (hl:σ.ws.length≤1000) :
    an prog (n+1) .set [.r (base.length+1),.d (dU l j),.d v.e] (fr base p pr σ.ws σ.al)=some (.d .none,fr base p pr τ.ws τ.al):=by
  rw [aY (d:=nM) rfl rfl]
  have hl':(eW σ.ws).length < 1048576:=by rw [yA]; exact tb hl rfl
  unfold Sto.set at h
  split at h
  · rename_i h1
    cases j with
    | none =>
      (replace h:=iS h; subst h)
      simp [ao,af,ar,ci,gf,ah,ag,ak,aS,j5,bC,aP,aB,az,ax,aQ,ay,aA,gk,fk,aF,cW,fA,bg,gI,kx,kh,o6,sj,bf,cu,bj,bD,bo,bx,aT,aH,bU,am,ap,aq,aJ,aV,ek,jE,dD,pY,bJ,bw,jp,aW,aj,iq,nO,cN,iA,qo,lim,-getElem?_pos,nM,dU,oi,h1,hl',tT]
      exact fO (by rw [cw,cw]) (hW _) rfl
    | some j =>
      dsimp only at h
      split at h
      · rename_i x w e1
        refine bN h fun u e2 e3=>?_
        subst e3
        have e1':(eW σ.ws).lookup l=some w.e:=by rw [qB,e1]; rfl
        cases w with
        | i y=>exact nS e2
        | p a b =>
          unfold V.put at e2
          dsimp only at e2
          have hp1:cj l (Dat.tup [.int x,.int b]) (eW σ.ws)=eW (cj l (V.p x b) σ.ws):=tT (v:=.p x b)
          have hp2:cj l (Dat.tup [.int a,.int x]) (eW σ.ws)=eW (cj l (V.p a x) σ.ws):=tT (v:=.p a x)
          have hset0:∀ (y:MObj),(fr base p pr σ.ws σ.al++[y]).set base.length (.idict (eW (cj l (V.p x b) σ.ws)))=fr base p pr (cj l (V.p x b) σ.ws) σ.al++[y]:=fun y=>by rw [List.set_append_left _ _ (by rw [cw]; exact lp rfl),pY]
          have hset1:∀ (y:MObj),(fr base p pr σ.ws σ.al++[y]).set base.length (.idict (eW (cj l (V.p a x) σ.ws)))=fr base p pr (cj l (V.p a x) σ.ws) σ.al++[y]:=fun y=>by rw [List.set_append_left _ _ (by rw [cw]; exact lp rfl),pY]
          have g0:∀ (y:MObj),(fr base p pr σ.ws σ.al++[y])[base.length]? = some (.idict (eW σ.ws)):=fun y=>by rw [List.getElem?_append_left (by rw [cw]; exact lp rfl),jE]
          have g1:∀ (y:MObj),(fr base p pr σ.ws σ.al++[y])[base.length+1]? = some (.sdict [.worths_,.alive_,.bad_] [.r base.length,.d (.lst (eI σ.al)),.d (.bool false)]):=fun y=>by rw [List.getElem?_append_left (by rw [cw]; exact KQ rfl),dD]
          split at e2
          · rename_i hj
            subst hj; (replace e2:=iS e2; subst e2)
            simp [ao,af,ar,bz,ci,gf,ah,ag,fo,ak,av,aS,bC,jC,cf,aP,aB,az,ax,aQ,ay,aA,gk,fk,bX,gn,cg,pV,nJ,nV,jG,s0,j1,A2,xM,wJ,wF,BH,CC,aF,bn,aM,aL,aU,cW,fA,bg,gI,kx,kh,o6,pR,sj,bf,bj,bx,aT,aH,am,ap,aq,aJ,bH,bM,c4,ek,jE,dD,bJ,bw,jp,aW,aj,eK,iq,nO,cN,b6,iA,gy,gB,qv,jL,lim,-getElem?_pos,nM,dU,Ct,h1,hl',e1',t7,GZ,g0,g1,hp1,hset0]
            exact mz (by rw [cw,cw]) (hW _) rfl
          · split at e2
            · rename_i hj
              subst hj; (replace e2:=iS e2; subst e2)
              simp [ao,af,ar,bz,ci,gf,ah,ag,fo,ak,av,aS,bC,jC,cf,aP,aB,az,ax,aQ,ay,aA,gk,fk,bX,gn,cg,pV,nJ,nV,jG,s0,j1,A2,xM,wJ,wF,BH,CC,aF,bn,aM,aL,aU,cW,fA,bg,gI,kx,kh,o6,pR,sj,bf,bj,bx,aT,aH,am,ap,aq,aJ,bH,bM,c4,ek,jE,dD,bJ,bw,jp,aW,aj,eK,iq,nO,cN,b6,iA,gy,gB,qv,jL,lim,-getElem?_pos,nM,dU,Ct,h1,hl',e1',t7,GZ,g0,g1,hp2,hset1]
              exact mz (by rw [cw,cw]) (hW _) rfl
            · exact nS e2
      · exact nS h
  · exact nS h
end Mine.Internal
namespace Mine.Internal
theorem xK:gr []=some []:=rfl
theorem xB {x:Int} {r:List Dat}:gr (.int x::r)=(gr r).map (x::·):=rfl
theorem Gu {o:Op} {m:Mu}:pT (.d (Rv.use o).e) (some (.d (.int 1),m))=some (.d (.tup [o.e]),m):=rfl
theorem ut {w:W} {a b:Op} {m:Mu}:pT (.d (Rv.bin w a b).e) (some (.d (.int 2),m))=some (.d (.tup [a.e,b.e]),m):=rfl
theorem Dm {al:List Int} {l:Int}:eI al++[.int l]=eI (al++[l]):=by unfold eI; rw [List.map_append]; rfl
theorem yv {al:List Int}:(eI al).length=al.length:=List.length_map ..
theorem pG {C:Calls} {mu:Mu} {l:Int} {a0 a2 a3 a4 a5:Option Val}:∀ (al:List Int) {x:Option Val},
    cB (l7 C (.loc 6) (.cmp .ne (.loc 6) (.sub (.loc 1) (.int 1)))) [6] (eI al) [a0,some (.d (St.dead l).e),a2,a3,a4,a5,x] mu=some ((eI (al.filter fun x=>x != l)).map .d,mu)
  | [],x=>rfl
  | k::r,x=>by
    have ih:=pG (C:=C) (mu:=mu) (l:=l) (a0:=a0) (a2:=a2) (a3:=a3) (a4:=a4) (a5:=a5) r (x:=some (.d (.int k)))
    rw [show eI (k::r)=.int k::eI r from rfl]
    by_cases h:k=l
    · subst h
      simp [ao,af,ah,ag,ak,av,aP,aB,az,ax,aQ,ay,aA,d6,jm,eD,c5,cX,bg,cr,qu,iI,aW,aj,kT,kS,-getElem?_pos]
      rw [ih]
      simp [wj,-getElem?_pos]
    · simp [ao,af,ah,ag,ak,av,aP,aB,az,ax,aQ,ay,aA,dk,d6,ku,eD,c5,cX,bg,cr,qu,iI,aW,aj,kT,kS,-getElem?_pos,h]
      rw [ih]
      simp [eJ,-getElem?_pos,h,eI]
set_option tactic.hygienic true in
theorem I7 (n:Nat) {base:List MObj} {p:Nat} {pr:List Dat} {σ τ:Sto} {ps:List V} (hp:p < base.length) (hW:∀ pr ws al,WFm (fr base p pr ws al)) {t:St} (h:σ.step t=some (τ,ps)) (hl:σ.ws.length≤1000) (ha:σ.al.length≤1000) (hpr:pr.length≤1000) :
    an prog (n+2) .do_ [.r (base.length+1),.d t.e,.r p] (fr base p pr σ.ws σ.al)=some (.d .none,fr base p (pr++ps.map V.e) τ.ws τ.al):=by
  rw [aY (d:=iy) rfl rfl]
  have gp:∀ pr ws al,(fr base p pr ws al)[p]? = some (.list (pr.map .d)):=fun Z Z Z=>qE hp
  have sp:∀ pr ws al (pr':List Dat),(fr base p pr ws al).set p (.list (pr'.map .d))=fr base p pr' ws al:=fun Z Z Z Z=>nC hp
  have hpr':pr.length < 1048576:=by exact tb hpr rfl
  have ha':σ.al.length < 1048576:=by exact tb ha rfl
  have hl':σ.ws.length≤1048576:=by exact lb hl rfl
  cases t with
  | print o =>
    refine xe1 (Option.map_eq_some_iff.mp (show (σ.val o).map _=_ from h)) fun v r_=>aO r_ fun e1 e2=>?_
    (refine eR e2 fun h1_ h2_=>?_; subst h1_; subst h2_)
    have k1:=gW n (hW pr σ.ws σ.al) e1
    simp [ao,af,ar,bz,ci,ah,ag,ak,av,aS,aP,aB,az,ax,aQ,ay,aA,aN,aE,ej,da,db,de,df,aF,bn,aM,aL,bf,cu,cH,ce,bx,aT,aH,am,ap,aq,aJ,c4,yc,ym,eO,dD,bw,aW,aj,bR,lim,-getElem?_pos,iy,gp,k1,hpr',sp,-List.map_append]
    exact fO (by rw [cw,cw]) (hW _ _ _) rfl
  | live l =>
    have h:(if l ∈ σ.al then none else some ((⟨σ.ws,σ.al++[l]⟩ : Sto),([]:List V)))=some (τ,ps):=h
    split at h
    · exact nS h
    · rename_i h1
      (refine dy h fun h1_ h2_=>?_; subst h1_; subst h2_)
      have ha2:σ.al.length+1≤1048576:=by exact ha'
      simp [ao,af,ar,ci,ah,ag,jQ,ak,av,aS,bF,b5,b8,bO,bQ,aP,aB,az,ax,j6,i9,iH,ja,aQ,ay,aA,gk,fk,aF,bn,aM,aL,gI,kx,kh,we,AZ,bf,cu,bj,bx,aT,aH,am,ap,aq,aJ,c4,hG,ya,y0,eO,ek,dD,tG,lK,nD,nK,bJ,bw,GL,aW,aj,gS,bR,lim,-getElem?_pos,iy,h1,my,yv,ha2,ha',Dm,-List.map_append]
      exact fO (by rw [cw,cw]) (hW _ _ _) rfl
  | dead l =>
    have h:(if l ∈ σ.al then some ((⟨cO l σ.ws,σ.al.filter fun x=>x != l⟩ : Sto),([]:List V)) else none)=some (τ,ps):=h
    split at h
    · rename_i h1
      (refine dy h fun h1_ h2_=>?_; subst h1_; subst h2_)
      have hf:(σ.al.filter fun x=>x != l).length≤1048576:=by have:=List.length_filter_le (fun x=>x != l) σ.al; exact vo ha this rfl
      have k1:=@pG (an prog (n+1)) (fr base p pr σ.ws σ.al) l (some (.r (base.length+1))) (some (.r p)) none none none σ.al none
      simp [ao,af,ar,ci,gf,ah,ag,ak,av,aS,b5,aP,aB,az,ax,j6,i9,iH,ja,aQ,ay,aA,gk,fk,j1,Jh,Hq,Hz,Hx,HQ,hH,cp,cm,cn,dX,gI,kx,kh,we,AZ,bf,cu,bj,cH,ce,bx,aT,aH,am,ap,aq,aJ,c4,hG,yD,qu,ek,jE,dD,pY,tG,bJ,bw,jp,aW,aj,bR,lim,-getElem?_pos,iy,h1,my,yv,k1,hf,hl',Fe,yA,-List.map_append]
      exact fO (by rw [cw,cw]) (hW _ _ _) rfl
    · exact nS h
  | assign l j r =>
    refine xe1 (Option.bind_eq_some_iff.mp (show (σ.rv r).bind _=_ from h)) fun v r_=>aO r_ fun e1 e2=>?_
    refine bN e2 fun τ' e3 e4=>?_
    (refine eR e4 fun h1_ h2_=>?_; subst h1_; subst h2_)
    have k2:=BD n (pr:=pr) (fun ws=>hW pr ws σ.al) e3 hl
    cases r with
    | use o =>
      have k1:=gW n (hW pr σ.ws σ.al) (show σ.val o=some v from e1)
      simp [ao,af,ar,ci,ah,ag,ak,av,aS,b5,aP,aB,az,ax,dW,eZ,aQ,ay,aA,dE,dF,bX,qt,nk,aN,aE,eF,dk,d4,cp,cm,cn,gx,eD,c5,cX,eJ,iv,aF,bn,aM,aL,aU,bg,bf,bj,cH,ce,cr,bx,aT,aH,am,ap,aq,aJ,bH,bM,c4,zg,lA,lJ,lw,dD,Gu,bw,aW,aj,eK,ik,fg,kT,bR,lim,-getElem?_pos,iy,k1,k2,-List.map_append]
      exact fO (by rw [cw,cw]) (hW _ _ _) rfl
    | bin w a b =>
      unfold Sto.rv at e1
      dsimp only at e1
      split at e1
      · rename_i x y ex ey
        refine bN e1 fun z e5 e6=>?_
        subst e6
        have k1:=gW n (hW pr σ.ws σ.al) ex
        have k3:=gW n (hW pr σ.ws σ.al) ey
        simp only [t7] at k1 k3 k2
        unfold FH at e5
        split at e5
        · (replace e5:=iS e5; subst e5)
          simp [ao,af,ar,ci,ah,ag,ak,av,aS,bF,b5,b8,bO,bQ,aP,aB,az,ax,dW,gL,eZ,aQ,ay,aA,dE,dF,js,bX,qt,nk,aN,aE,lj,lW,cg,mV,pJ,eF,dk,d4,cp,cm,cn,gx,eD,c5,cX,eJ,iv,kA,jD,jN,aF,bn,aM,aL,aU,bg,bf,cu,bj,cH,ce,cr,bx,aT,aH,am,ap,aq,aJ,bH,bM,c4,qi,tK,lA,lJ,lw,dD,xK,xB,ut,jk,tH,bJ,wY,bw,aW,aj,eK,ik,fg,kT,gS,bR,lim,-getElem?_pos,iy,k1,k3,k2,-List.map_append]
          exact fO (by rw [cw,cw]) (hW _ _ _) rfl
        · (replace e5:=iS e5; subst e5)
          simp [ao,af,ar,ci,ah,ag,ak,av,aS,bF,b5,b8,bO,bQ,aP,aB,az,ax,dW,gL,eZ,aQ,ay,aA,dE,dF,js,bX,qt,nk,aN,aE,lj,lW,cg,mV,pJ,eF,dk,d4,cp,cm,cn,gx,eD,c5,cX,eJ,iv,kA,jD,jN,aF,bn,aM,aL,aU,bg,bf,cu,bj,cH,ce,cr,bx,aT,aH,am,ap,aq,aJ,bH,bM,c4,qi,tK,lA,lJ,lw,dD,xK,xB,ut,jk,tH,bJ,wY,bw,aW,aj,eK,ik,fg,kT,gS,bR,lim,-getElem?_pos,iy,k1,k3,k2,-List.map_append]
          exact fO (by rw [cw,cw]) (hW _ _ _) rfl
        · (replace e5:=iS e5; subst e5)
          simp [ao,af,ar,ci,ah,ag,ak,av,aS,bF,b5,b8,bO,bQ,aP,aB,az,ax,dW,gL,eZ,aQ,ay,aA,dE,dF,js,bX,qt,nk,aN,aE,lj,lW,cg,mV,pJ,eF,dk,d4,cp,cm,cn,gx,eD,c5,cX,eJ,iv,kA,jD,jN,aF,bn,aM,aL,aU,bg,bf,cu,bj,cH,ce,cr,bx,aT,aH,am,ap,aq,aJ,bH,bM,c4,qi,tK,lA,lJ,lw,dD,xK,xB,ut,jk,tH,bJ,wY,bw,aW,aj,eK,ik,fg,kT,gS,bR,lim,-getElem?_pos,iy,k1,k3,k2,-List.map_append]
          exact fO (by rw [cw,cw]) (hW _ _ _) rfl
        · exact nS e5
      · exact nS e1
    | tup a b =>
      unfold Sto.rv at e1
      dsimp only at e1
      split at e1
      · rename_i x y ex ey
        (replace e1:=iS e1; subst e1)
        have k1:=gW n (hW pr σ.ws σ.al) ex
        have k3:=gW n (hW pr σ.ws σ.al) ey
        simp only [t7,GZ] at k1 k3 k2
        simp [ao,af,ar,ci,ah,ag,ak,av,aS,jC,b5,aP,aB,az,ax,dW,gL,aQ,ay,aA,aN,aE,gn,cg,qr,eF,dk,d4,cp,cm,cn,gx,eD,c5,cX,eJ,iv,aF,bn,aM,aL,aU,bg,bf,bj,cH,ce,cr,bx,aT,aH,am,ap,aq,aJ,bH,bM,c4,zt,FM,lA,lJ,lw,dD,bw,aW,aj,eK,ik,fg,kT,bR,lim,-getElem?_pos,iy,k1,k3,k2,-List.map_append]
        exact fO (by rw [cw,cw]) (hW _ _ _) rfl
      · exact nS e1
end Mine.Internal
namespace Mine.Internal
theorem uj {k:Int} {v:V} {l:List (Int × V)}:(cj k v l).length≤l.length+1:=by
  unfold cj; split <;> simp
theorem D1 {σ τ:Sto} {l:Int} {j:Option Int} {v:V} (h:σ.set l j v=some τ):τ.ws.length≤σ.ws.length+1∧τ.al.length≤σ.al.length+1:=by
  unfold Sto.set at h
  split at h
  · split at h
    · (replace h:=iS h; subst h); exact ⟨uj,Nat.le_succ _⟩
    · split at h
      · refine bN h fun u Z e=>?_
        subst e; exact ⟨uj,Nat.le_succ _⟩
      · exact nS h
  · exact nS h
theorem td {σ τ:Sto} {t:St} {ps:List V} (h:σ.step t=some (τ,ps)):τ.ws.length≤σ.ws.length+1∧τ.al.length≤σ.al.length+1:=by
  cases t with
  | print o =>
    refine xe1 (Option.map_eq_some_iff.mp (show (σ.val o).map _=_ from h)) fun v r_=>aO r_ fun Z e=>?_
    (refine eR e fun h1_ h2_=>?_; subst h1_; subst h2_); exact ⟨Nat.le_succ _,Nat.le_succ _⟩
  | live l =>
    have h:(if l ∈ σ.al then none else some ((⟨σ.ws,σ.al++[l]⟩ : Sto),([]:List V)))=some (τ,ps):=h
    split at h
    · exact nS h
    · (refine dy h fun h1_ h2_=>?_; subst h1_; subst h2_); exact ⟨Nat.le_succ _,by simp⟩
  | dead l =>
    have h:(if l ∈ σ.al then some ((⟨cO l σ.ws,σ.al.filter fun x=>x != l⟩ : Sto),([]:List V)) else none)=some (τ,ps):=h
    split at h
    · (refine dy h fun h1_ h2_=>?_; subst h1_; subst h2_)
      have h1:=List.length_filter_le (fun x=>x != l) σ.al
      have h2:=List.length_filter_le (fun kv=>decide (kv.1 ≠ l)) σ.ws
      exact ⟨by unfold cO; dsimp only; exact ls h2,by dsimp only; exact ls h1⟩
    · exact nS h
  | assign l j r =>
    refine xe1 (Option.bind_eq_some_iff.mp (show (σ.rv r).bind _=_ from h)) fun v r_=>aO r_ fun e1 e2=>?_
    refine bN e2 fun τ' e3 e4=>?_
    (refine eR e4 fun h1_ h2_=>?_; subst h1_; subst h2_)
    exact D1 e3
theorem iB {n:Nat} {base:List MObj} {p:Nat} {f:ae→Mu→Rx} (hp:p < base.length) (hW:∀ pr ws al,WFm (fr base p pr ws al))
    (hf:eN (an prog (n+2)) (.cons (.expr (.call .do_ (.cons (.loc 5) (.cons (.loc 10) (.cons (.loc 3) .nil))))) .nil)=f)
    {a0 a1 a2 a4 a6 a7 a8 a9 a11 a12 a13 a14 a15 a16 a17 a18:Option Val}:∀ (sts:List St) {σ τ:Sto} {ps:List V} {pr:List Dat} {x:Option Val},σ.steps sts=some (τ,ps)→σ.ws.length+sts.length≤1000→σ.al.length+sts.length≤1000→pr.length+ps.length≤1000 →
    ∃ x',cT f [10] (eS sts) [a0,a1,a2,some (.r p),a4,some (.r (base.length+1)),a6,a7,a8,a9,x,a11,a12,a13,a14,a15,a16,a17,a18] (fr base p pr σ.ws σ.al) =
      some (.next,[a0,a1,a2,some (.r p),a4,some (.r (base.length+1)),a6,a7,a8,a9,x',a11,a12,a13,a14,a15,a16,a17,a18],fr base p (pr++ps.map V.e) τ.ws τ.al)
  | [],σ,τ,ps,pr,x,h,_,_,_=>by
    (refine dy h fun h1_ h2_=>?_; subst h1_; subst h2_)
    exact ⟨x,by simp [il,eS]⟩
  | t::r,σ,τ,ps,pr,x,h,h1,h2,h3=>by
    refine xe1 (Option.bind_eq_some_iff.mp (show (σ.step t).bind _=_ from h)) fun q0_ r_=>aO r_ fun e1 e2=>?_
    obtain ⟨υ,p1⟩:=q0_
    refine bN e2 fun q0_ e3 e4=>?_
    obtain ⟨υ',p2⟩:=q0_
    (refine eR e4 fun h1_ h2_=>?_; subst h1_; subst h2_)
    rw [List.length_cons] at h1 h2
    rw [List.length_append] at h3
    refine aO (td e1) fun g1 g2=>?_
    have k1:=I7 n hp hW (pr:=pr) e1 (by exact lq h1 rfl) (by exact lq h2 rfl) (by exact lq h3 rfl)
    have gp:∀ pr ws al,(fr base p pr ws al)[p]? = some (.list (pr.map .d)):=fun Z Z Z=>qE hp
    obtain ⟨x',ih⟩:=iB hp hW hf r (x:=some (.d t.e)) (pr:=pr++p1.map V.e) e3 (by exact w1 h1 g1) (by exact w1 h2 g2) (by simp; exact bv h3)
    refine ⟨x',?_⟩
    rw [show eS (t::r)=t.e::eS r from rfl,gY,cr]
    simp [iM,bg,fM]
    rw [← hf,fS]
    simp [ao,af,ar,bz,ci,ah,ag,ak,aN,aE,aF,bn,aM,aL,cH,ce,gb,bx,aT,aH,dD,aj,-getElem?_pos,gp,k1]
    rw [hf,ih]
    simp
noncomputable def fL (blks:List Blk) (k:Int):Option Blk:=if 0≤k then blks[k.toNat]? else none
inductive Run (P:W→Option Bd):Nat→List Blk→Nat→Int→Sto→List V→V→Prop
  | ret {h blks k sts σ τ ps v}:fL blks k=some ⟨sts,.ret⟩→σ.ws.length≤100→σ.al.length≤100→sts.length≤100→σ.steps sts=some (τ,ps)→τ.get 0=some v→Run P h blks 1 k σ ps v
  | goto {h blks t k sts g σ τ ps qs v}:fL blks k=some ⟨sts,.goto g⟩→σ.ws.length≤100→σ.al.length≤100→sts.length≤100→σ.steps sts=some (τ,ps)→Run P h blks t g τ qs v→Run P h blks (t+1) k σ (ps++qs) v
  | switch {h blks t k sts o c a b x σ τ ps qs v}:fL blks k=some ⟨sts,.switch o c a b⟩→σ.ws.length≤100→σ.al.length≤100→sts.length≤100→σ.steps sts=some (τ,ps)→τ.val o=some (.i x)→Run P h blks t (if c=x then a else b) τ qs v→Run P h blks (t+1) k σ (ps++qs) v
  | call {h blks t t' k sts w o l j nx a K r σ τ υ ps qs rs v}:fL blks k=some ⟨sts,.call w o l j nx⟩→σ.ws.length≤100→σ.al.length≤100→sts.length≤100→σ.steps sts=some (τ,ps)→τ.val o=some a→P w=some K→K.argc=1→K.blks.length≤100 →
      Run P h K.blks t' 0 ⟨[(1,a)],[0,1]⟩ qs r→t'≤60→τ.set l j r=some υ→Run P (h+1) blks t nx υ rs v→Run P (h+1) blks (t+1) k σ (ps++(qs++rs)) v
noncomputable def gO:CSs:=match f_run.body with
  | .cons _ (.cons _ (.cons _ (.cons _ (.cons (.for_ _ _ b) _))))=>b
  | _=>.nil
end Mine.Internal
namespace Mine.Internal
noncomputable def gG (D:Dat) (h:Nat) (blks:List Blk) (t:Nat) (k:Int) (σ:Sto) (ps:List V) (v:V):Prop :=
  ∀ {n:Nat} {base:List MObj} {p:Nat} {pr:List Dat} {d:Int} {B:Bd} {q:Nat} {told:Option Val} {f:ae→Mu→Rx} {its:List Dat} {x7 x8 x9 x10 x11 x12 x13 x14 x15 x16 x17 x18:Option Val},
    B.blks=blks→blks.length≤100→p < base.length→(∀ pr ws al,WFm (fr base p pr ws al))→eN (an prog (n+h+3)) gO=f→d+h≤3→pr.length+ps.length≤900→t≤its.length →
    ∃ (loc':ae) (τ:Sto),cT f [7] its [some (.d D),some (.d (B.e q)),told,some (.r p),some (.d (.int d)),some (.r (base.length+1)),some (.d (.int k)),x7,x8,x9,x10,x11,x12,x13,x14,x15,x16,x17,x18] (fr base p pr σ.ws σ.al) =
      some (.ret (.d (.tup [v.e,.bool true])),loc',fr base p (pr++ps.map V.e) τ.ws τ.al)
theorem mn {blks:List Blk} {k:Int} {b:Blk} (h:fL blks k=some b) (hl:blks.length≤100):cU k blks.length=some k.toNat∧blks[k.toNat]? = some b:=by
  unfold fL at h
  split at h
  · rename_i h0
    have:=(List.getElem?_eq_some_iff.mp h).1
    exact ⟨by rw [bX,if_pos ⟨h0,this,by unfold lim; exact vo hl this rfl⟩],h⟩
  · exact nS h
theorem ss {sts:List St} {tm:Tm} {is:List Nat} {loc:ae} {m:Mu} {a b:Nat}:jv loc [a,b] (some (.d (Blk.e ⟨sts,tm⟩),m))=eH m (ai [a,b] [.d (.lst (eS sts)),.d tm.e] loc):=rfl
theorem AJ {D:Dat} {h:Nat} {blks:List Blk} {k:Int} {sts:List St} {σ τ:Sto} {ps:List V} {v:V} (hb:fL blks k=some ⟨sts,.ret⟩) (h1:σ.ws.length≤100) (h2:σ.al.length≤100) (h3:sts.length≤100) (hs:σ.steps sts=some (τ,ps)) (hv:τ.get 0=some v):gG D h blks 1 k σ ps v:=by
  intro n base p pr d B q told f its x7 x8 x9 x10 x11 x12 x13 x14 x15 x16 x17 x18 hB hl hp hW hf hd hpr ht
  subst hB
  have hfe:∀ l m,f l m=er (an prog (n+h+3)) l m gO:=fun l m=>by rw [← hf]; rfl
  refine aO (mn hb hl) fun i1 i2=>?_
  cases its with
  | nil=>simp at ht
  | cons x its =>
    have kv:=gW (n+h+2) (hW (pr++ps.map V.e) τ.ws τ.al) (o:=.copy 0 none) hv
    have gp:∀ pr ws al,(fr base p pr ws al)[p]? = some (.list (pr.map .d)):=fun Z Z Z=>qE hp
    simp only [Iu,dU,oi] at kv
    rw [gY,cr]
    simp [iM,bg,fM]
    rw [hfe]
    simp [ao,af,ah,ag,ak,bG,bu,aQ,ay,aA,dE,dF,dX,cW,fA,bg,fD,d3,d0,aT,aH,am,ap,aq,aJ,ew,ff,ss,aj,ix,kq,-getElem?_pos,gO,f_run,i1,i2,gj,gp,-bX]
    generalize hg:eN _ _=g
    obtain ⟨x',e⟩:=iB (n:=n+h+1) hp hW hg sts (pr:=pr) hs (by exact lm h1 h3 rfl) (by exact lm h2 h3 rfl) (by exact lb hpr rfl)
      (a0:=some (.d D)) (a1:=some (.d (B.e q))) (a2:=told) (a4:=some (.d (.int d))) (a6:=some (.d (.int k))) (a7:=some (.d x)) (a8:=x8) (a9:=x9) (x:=x10) (a11:=some (.d (.lst (eS sts)))) (a12:=some (.d Tm.ret.e)) (a13:=x13) (a14:=x14) (a15:=x15) (a16:=x16) (a17:=x17) (a18:=x18)
    rw [e]
    simp [ao,af,ar,ci,ah,ag,ak,av,aS,bC,aP,aB,az,ax,pq,mT,aQ,ay,aA,gk,fk,aN,aE,aF,bn,aM,aL,bf,cu,bD,bo,Co,aT,aH,bU,lH,dD,bJ,bw,aW,aj,cN,b6,bR,-getElem?_pos,kv,gp]
    exact ⟨τ,rfl⟩
theorem ye {D:Dat} {h t:Nat} {blks:List Blk} {k g:Int} {sts:List St} {σ τ:Sto} {ps qs:List V} {v:V} (hb:fL blks k=some ⟨sts,.goto g⟩) (h1:σ.ws.length≤100) (h2:σ.al.length≤100) (h3:sts.length≤100) (hs:σ.steps sts=some (τ,ps)) (ih:gG D h blks t g τ qs v):gG D h blks (t+1) k σ (ps++qs) v:=by
  intro n base p pr d B q told f its x7 x8 x9 x10 x11 x12 x13 x14 x15 x16 x17 x18 hB hl hp hW hf hd hpr ht
  subst hB
  have hfe:∀ l m,f l m=er (an prog (n+h+3)) l m gO:=fun l m=>by rw [← hf]; rfl
  refine aO (mn hb hl) fun i1 i2=>?_
  rw [List.length_append] at hpr
  cases its with
  | nil=>simp at ht
  | cons x its =>
    have gp:∀ pr ws al,(fr base p pr ws al)[p]? = some (.list (pr.map .d)):=fun Z Z Z=>qE hp
    rw [gY,cr]
    simp [iM,bg,fM]
    rw [hfe]
    simp [ao,af,ah,ag,ak,bG,bu,aQ,ay,aA,dE,dF,dX,cW,fA,bg,fD,d3,d0,aT,aH,am,ap,aq,aJ,ew,ff,ss,aj,ix,kq,-getElem?_pos,gO,f_run,i1,i2,gj,gp,-bX]
    generalize hg:eN _ _=g'
    obtain ⟨x',e⟩:=iB (n:=n+h+1) hp hW hg sts (pr:=pr) hs (by exact lm h1 h3 rfl) (by exact lm h2 h3 rfl) (by exact Gj hpr rfl)
      (a0:=some (.d D)) (a1:=some (.d (B.e q))) (a2:=told) (a4:=some (.d (.int d))) (a6:=some (.d (.int k))) (a7:=some (.d x)) (a8:=x8) (a9:=x9) (x:=x10) (a11:=some (.d (.lst (eS sts)))) (a12:=some (.d (Tm.goto g).e)) (a13:=x13) (a14:=x14) (a15:=x15) (a16:=x16) (a17:=x17) (a18:=x18)
    rw [e]
    simp [ao,af,ah,ag,ak,av,aS,aP,aB,az,ax,aQ,ay,aA,aU,bf,cu,bj,gb,bx,aT,aH,lR,zB,bw,aW,aj,gU,bR,-getElem?_pos,gp]
    obtain ⟨loc',υ,e2⟩:=ih (n:=n) (base:=base) (p:=p) (pr:=pr++ps.map V.e) (d:=d) (B:=B) (q:=q) (told:=told) (its:=its) (x7:=some (.d x)) (x8:=x8) (x9:=x9) (x10:=x') (x11:=some (.d (.lst (eS sts)))) (x12:=some (.d (Tm.goto g).e)) (x13:=x13) (x14:=x14) (x15:=x15) (x16:=x16) (x17:=x17) (x18:=x18) rfl hl hp hW hf hd (by simp; exact bv hpr) (by simpa using ht)
    rw [e2]
    exact ⟨loc',υ,by simp⟩
theorem uN {D:Dat} {h t:Nat} {blks:List Blk} {k c a b x0:Int} {o:Op} {sts:List St} {σ τ:Sto} {ps qs:List V} {v:V} (hb:fL blks k=some ⟨sts,.switch o c a b⟩) (h1:σ.ws.length≤100) (h2:σ.al.length≤100) (h3:sts.length≤100) (hs:σ.steps sts=some (τ,ps)) (ho:τ.val o=some (.i x0)) (ih:gG D h blks t (if c=x0 then a else b) τ qs v):gG D h blks (t+1) k σ (ps++qs) v:=by
  intro n base p pr d B q told f its x7 x8 x9 x10 x11 x12 x13 x14 x15 x16 x17 x18 hB hl hp hW hf hd hpr ht
  subst hB
  have hfe:∀ l m,f l m=er (an prog (n+h+3)) l m gO:=fun l m=>by rw [← hf]; rfl
  refine aO (mn hb hl) fun i1 i2=>?_
  rw [List.length_append] at hpr
  cases its with
  | nil=>simp at ht
  | cons x its =>
    have gp:∀ pr ws al,(fr base p pr ws al)[p]? = some (.list (pr.map .d)):=fun Z Z Z=>qE hp
    have kv:=gW (n+h+2) (hW (pr++ps.map V.e) τ.ws τ.al) ho
    simp only [t7] at kv
    rw [gY,cr]
    simp [iM,bg,fM]
    rw [hfe]
    simp [ao,af,ah,ag,ak,bG,bu,aQ,ay,aA,dE,dF,dX,cW,fA,bg,fD,d3,d0,aT,aH,am,ap,aq,aJ,ew,ff,ss,aj,ix,kq,-getElem?_pos,gO,f_run,i1,i2,gj,gp,-bX]
    generalize hg:eN _ _=g'
    obtain ⟨x',e⟩:=iB (n:=n+h+1) hp hW hg sts (pr:=pr) hs (by exact lm h1 h3 rfl) (by exact lm h2 h3 rfl) (by exact Gj hpr rfl)
      (a0:=some (.d D)) (a1:=some (.d (B.e q))) (a2:=told) (a4:=some (.d (.int d))) (a6:=some (.d (.int k))) (a7:=some (.d x)) (a8:=x8) (a9:=x9) (x:=x10) (a11:=some (.d (.lst (eS sts)))) (a12:=some (.d (Tm.switch o c a b).e)) (a13:=x13) (a14:=x14) (a15:=x15) (a16:=x16) (a17:=x17) (a18:=x18)
    rw [e]
    by_cases hc:c=x0
    · rw [if_pos hc] at ih
      simp [ao,af,ar,ci,ah,ag,jQ,ak,av,aS,bF,b5,b8,bO,bQ,aP,aB,az,ax,aQ,ay,aA,dE,dF,bX,aN,aE,dk,d6,ku,hH,cp,cm,cn,gx,eD,c5,cX,eJ,iv,aF,bn,aM,aL,aU,bg,bf,cu,bj,gb,bx,aT,aH,bH,bM,j3,qj,tu,sE,dD,lK,nD,nK,bw,aW,aj,gU,BR,yg,yy,gS,mR,bR,kS,lim,-getElem?_pos,gp,kv,hc]
      obtain ⟨loc',υ,e2⟩:=ih (n:=n) (base:=base) (p:=p) (pr:=pr++ps.map V.e) (d:=d) (B:=B) (q:=q) (told:=told) (its:=its) (x7:=some (.d x)) (x8:=x8) (x9:=some (.d (.int x0))) (x10:=x') (x11:=some (.d (.lst (eS sts)))) (x12:=some (.d (Tm.switch o c a b).e)) (x13:=x13) (x14:=x14) (x15:=x15) (x16:=x16) (x17:=x17) (x18:=x18) rfl hl hp hW hf hd (by simp; exact bv hpr) (by simpa using ht)
      rw [hc] at e2
      rw [e2]
      exact ⟨loc',υ,by simp⟩
    · rw [if_neg hc] at ih
      simp [ao,af,ar,ci,ah,ag,jQ,ak,av,aS,bF,b5,b8,bO,bQ,aP,aB,az,ax,aQ,ay,aA,dE,dF,bX,aN,aE,d6,jm,hH,cp,cm,cn,gx,eD,c5,cX,wj,iv,aF,bn,aM,aL,aU,bg,bf,cu,bj,gb,bx,aT,aH,bH,bM,j3,qj,tu,sE,dD,lK,nD,nK,bw,aW,aj,gU,BR,yg,yy,gS,mR,bR,kS,lim,-getElem?_pos,gp,kv,hc]
      obtain ⟨loc',υ,e2⟩:=ih (n:=n) (base:=base) (p:=p) (pr:=pr++ps.map V.e) (d:=d) (B:=B) (q:=q) (told:=told) (its:=its) (x7:=some (.d x)) (x8:=x8) (x9:=some (.d (.int x0))) (x10:=x') (x11:=some (.d (.lst (eS sts)))) (x12:=some (.d (Tm.switch o c a b).e)) (x13:=x13) (x14:=x14) (x15:=x15) (x16:=x16) (x17:=x17) (x18:=x18) rfl hl hp hW hf hd (by simp; exact bv hpr) (by simpa using ht)
      rw [e2]
      exact ⟨loc',υ,by simp⟩
noncomputable def BF (D:Dat) (h:Nat) (K:Bd) (told:List V) (ps:List V) (v:V):Prop :=
  ∀ {n:Nat} {base:List MObj} {p:Nat} {pr:List Dat} {d:Int} {q:Nat},p < base.length→(∀ pr:List Dat,WFm (base.set p (.list (pr.map .d))))→d+h≤3→pr.length+ps.length≤900 →
    an prog (n+h+4) .run [.d D,.d (K.e q),.d (.lst (told.map V.e)),.r p,.d (.int d)] (base.set p (.list (pr.map .d)))=some (.d (.tup [v.e,.bool true]),base.set p (.list ((pr++ps.map V.e).map .d)))
noncomputable def its60:List Dat:=(List.range 60).map fun (i:Nat)=>Dat.int (0+(i:Int))
theorem F4:items (.rng 0 60 1)=some its60:=rfl
theorem Jy:items (.rng 0 1 1)=some [.int 0]:=rfl
theorem rt:its60.length=60:=by unfold its60; simp
theorem JO {base:List MObj} {p:Nat} {pr:List Dat}:base.set p (.list (pr.map .d))++[.idict [],.sdict [.worths_,.alive_,.bad_] [.r base.length,.d (.lst [.int 0,.int 1]),.d (.bool false)]]=fr base p pr [] [0,1]:=rfl
theorem Jr {base:List MObj} {p:Nat} {pr:List Dat}:base.set p (.list (pr.map .d))++[.idict [],.sdict [.worths_,.alive_,.bad_] [.r base.length,.d (.lst [.int 0]),.d (.bool false)]]=fr base p pr [] [0]:=rfl
theorem zF {base:List MObj} {p:Nat} {pr':List Dat} {ws:List (Int × V)} {al:List Int} {v:Val} (h:WFm (base.set p (.list (pr'.map .d)))) (hv:v.okB 0=true):cD true base.length v (fr base p pr' ws al)=some (v,base.set p (.list (pr'.map .d))) :=
  mz (by rw [List.length_set]) h hv
theorem Dt {D:Dat} {h t:Nat} {K:Bd} {a v:V} {ps:List V} (hK:K.argc=1) (hl:K.blks.length≤100) (ht:t≤60) (H:gG D h K.blks t 0 ⟨[(1,a)],[0,1]⟩ ps v):BF D h K [a] ps v:=by
  intro n base p pr d q hp hW hd hpr
  rw [show n+h+4=(n+h+3)+1 from rfl,aY (d:=f_run) rfl rfl]
  have hd3:¬ 3 < d:=by omega
  have hfr:base.set p (.list (pr.map .d))++[.idict (cj 1 a.e []),.sdict [.worths_,.alive_,.bad_] [.r base.length,.d (.lst [.int 0,.int 1]),.d (.bool false)]]=fr base p pr [(1,a)] [0,1]:=rfl
  simp [ao,af,ar,ci,gf,ah,ag,ak,av,aS,iN,b5,b8,bO,bQ,aP,aB,az,ax,bG,bu,aQ,ay,aA,gk,fk,gm,cg,jq,jG,xW,zJ,jg,B0,tD,kA,Cg,aF,bn,aM,aL,aU,bg,gI,kx,kh,o6,sj,bf,bj,fS,fD,d3,d0,tj,qI,q8,il,gY,fM,gb,bx,aT,aH,am,ap,aq,aJ,bH,bM,qd,cC,bJ,sy,aj,fg,gU,kL,kO,mR,HH,HK,lim,-getElem?_pos,f_run,hd3,hK,GK,F4,Cv,zS,-List.map_append]
  rw [hfr]
  generalize hf:eN _ _=f
  obtain ⟨loc',τ,e⟩:=H (n:=n) (base:=base) (p:=p) (pr:=pr) (d:=d) (B:=K) (q:=q) (told:=some (.d (.lst [a.e]))) (its:=its60) (f:=f) (x7:=none) (x8:=some (.d (.int 0))) (x9:=some (.d a.e)) (x10:=none) (x11:=none) (x12:=none) (x13:=none) (x14:=none) (x15:=none) (x16:=none) (x17:=none) (x18:=none) rfl hl hp (fun pr ws al=>w8 hW) hf hd hpr (by rw [rt]; exact ht)
  rw [e]
  simp [bU,aV,-List.map_append]
  exact zF (hW _) rfl
theorem DC {D:Dat} {h t:Nat} {K:Bd} {v:V} {ps:List V} (hK:K.argc=0) (hl:K.blks.length≤100) (ht:t≤60) (H:gG D h K.blks t 0 ⟨[],[0]⟩ ps v):BF D h K [] ps v:=by
  intro n base p pr d q hp hW hd hpr
  rw [show n+h+4=(n+h+3)+1 from rfl,aY (d:=f_run) rfl rfl]
  have hd3:¬ 3 < d:=by omega
  have hfr:base.set p (.list (pr.map .d))++[.idict [],.sdict [.worths_,.alive_,.bad_] [.r base.length,.d (.lst [.int 0]),.d (.bool false)]]=fr base p pr [] [0]:=rfl
  simp [ao,af,ah,ag,ak,av,iN,b5,b8,bO,bQ,aP,aB,az,ax,bG,bu,gm,cg,jq,jG,xW,zJ,jg,B0,tD,kA,Cg,aF,bn,aM,aL,aU,bf,bj,fD,d3,d0,tj,qI,q8,il,bx,aT,aH,am,ap,aq,aJ,bH,bM,qd,cC,sy,aj,fg,gU,lim,-getElem?_pos,f_run,hd3,hK,Jy,F4,Cv,-List.map_append]
  rw [hfr]
  generalize hf:eN _ _=f
  obtain ⟨loc',τ,e⟩:=H (n:=n) (base:=base) (p:=p) (pr:=pr) (d:=d) (B:=K) (q:=q) (told:=some (.d (.lst []))) (its:=its60) (f:=f) (x7:=none) (x8:=none) (x9:=none) (x10:=none) (x11:=none) (x12:=none) (x13:=none) (x14:=none) (x15:=none) (x16:=none) (x17:=none) (x18:=none) rfl hl hp (fun pr ws al=>w8 hW) hf hd hpr (by rw [rt]; exact ht)
  rw [e]
  simp [bU,aV,-List.map_append]
  exact zF (hW _) rfl
theorem yT {ws0:List W} {ds0:List Dat} {h t t':Nat} {blks:List Blk} {k l nx:Int} {w:W} {j:Option Int} {o:Op} {a r:V} {K:Bd} {sts:List St} {σ τ υ:Sto} {ps qs rs:List V} {v:V} {q':Nat} (hb:fL blks k=some ⟨sts,.call w o l j nx⟩) (h1:σ.ws.length≤100) (h2:σ.al.length≤100) (h3:sts.length≤100) (hs:σ.steps sts=some (τ,ps)) (ho:τ.val o=some a)
    (hP:c9 w ws0 ds0=some (K.e q')) (hK:K.argc=1) (hKl:K.blks.length≤100) (ih1:gG (.dct ws0 ds0) h K.blks t' 0 ⟨[(1,a)],[0,1]⟩ qs r) (ht':t'≤60) (hset:τ.set l j r=some υ) (ih:gG (.dct ws0 ds0) (h+1) blks t nx υ rs v):gG (.dct ws0 ds0) (h+1) blks (t+1) k σ (ps++(qs++rs)) v:=by
  intro n base p pr d B q told f its x7 x8 x9 x10 x11 x12 x13 x14 x15 x16 x17 x18 hB hl hp hW hf hd hpr ht
  subst hB
  have hfe:∀ l m,f l m=er (an prog (n+h+4)) l m gO:=fun l m=>by rw [← hf]; rfl
  refine aO (mn hb hl) fun i1 i2=>?_
  rw [List.length_append,List.length_append] at hpr
  have hτ:∀ (sts:List St) {σ τ:Sto} {ps:List V},σ.steps sts=some (τ,ps)→τ.ws.length≤σ.ws.length+sts.length:=fun sts=>by
    induction sts with
    | nil=>intro σ τ ps h; (refine dy h fun h1_ h2_=>?_; subst h1_; subst h2_); exact Nat.le_refl _
    | cons t r ih =>
      intro σ τ ps h
      refine xe1 (Option.bind_eq_some_iff.mp (show (σ.step t).bind _=_ from h)) fun q0_ r_=>aO r_ fun e1 e2=>?_
      obtain ⟨υ,p1⟩:=q0_
      refine bN e2 fun q0_ e3 e4=>?_
      obtain ⟨υ',p2⟩:=q0_
      (refine eR e4 fun h1_ h2_=>?_; subst h1_; subst h2_)
      have:=ih e3
      have:=(td e1).1
      rw [List.length_cons]; omega
  cases its with
  | nil=>simp at ht
  | cons x its =>
    have gp:∀ pr ws al,(fr base p pr ws al)[p]? = some (.list (pr.map .d)):=fun Z Z Z=>qE hp
    have kv:=gW (n+h+3) (hW (pr++ps.map V.e) τ.ws τ.al) ho
    have kr:=Dt hK hKl ht' ih1 (n:=n) (base:=fr base p (pr++ps.map V.e) τ.ws τ.al) (p:=p) (pr:=pr++ps.map V.e) (d:=d+1) (q:=q') (by rw [cw]; exact ls hp) (fun pr'=>by rw [nC hp]; exact hW _ _ _) (by omega) (by simp; omega)
    rw [nC hp,nC hp] at kr
    simp only [List.map_cons,List.map_nil] at kr
    have ks:=BD (n+h+3) (pr:=pr++ps.map V.e++qs.map V.e) (fun ws=>hW _ ws τ.al) hset (by have:=hτ sts hs; omega)
    rw [gY,cr]
    simp [iM,bg,fM]
    rw [hfe]
    simp [ao,af,ah,ag,ak,bG,bu,aQ,ay,aA,dE,dF,dX,cW,fA,bg,fD,d3,d0,aT,aH,am,ap,aq,aJ,ew,ff,ss,aj,ix,kq,-getElem?_pos,gO,f_run,i1,i2,gj,gp,-bX]
    generalize hg:eN _ _=g'
    obtain ⟨x',e⟩:=iB (n:=n+h+2) hp hW hg sts (pr:=pr) hs (by exact lm h1 h3 rfl) (by exact lm h2 h3 rfl) (by exact Gj hpr rfl)
      (a0:=some (.d (.dct ws0 ds0))) (a1:=some (.d (B.e q))) (a2:=told) (a4:=some (.d (.int d))) (a6:=some (.d (.int k))) (a7:=some (.d x)) (a8:=x8) (a9:=x9) (x:=x10) (a11:=some (.d (.lst (eS sts)))) (a12:=some (.d (Tm.call w o l j nx).e)) (a13:=x13) (a14:=x14) (a15:=x15) (a16:=x16) (a17:=x17) (a18:=x18)
    rw [e]
    simp [ao,af,ar,bz,ci,ah,ag,ak,av,aS,b5,b8,bO,bQ,aP,aB,az,ax,aQ,ay,aA,js,aN,aE,eF,dk,d4,cp,cm,cn,gx,eD,c5,cX,eJ,iv,aF,bn,aM,aL,aU,fA,bg,bf,bj,cr,bx,aT,aH,bH,bM,uC,ub,zc,dD,cC,bw,aW,aj,Gr,FJ,gB,bR,lim,-getElem?_pos,gp,kv,hP,-List.map_append]
    rw [kr]
    simp [ao,af,ar,ci,ah,ag,ak,av,aS,j6,i9,iH,ja,pq,mT,aQ,ay,aA,gk,fk,aN,aE,aF,bn,aM,aL,cW,bg,gI,kx,kh,we,AZ,cH,aT,aH,qe,dD,tG,bJ,aj,Ee,FY,iA,lim,-getElem?_pos,gp,my,-List.map_append]
    simp only [List.map_append,← List.append_assoc]
    rw [ks]
    simp [ao,af,ah,ag,ak,av,aQ,ay,aA,aU,ce,gb,bx,aT,aH,zX,aj,gU,-getElem?_pos,gp,-List.map_append]
    obtain ⟨loc',ζ,e2⟩:=ih (n:=n) (base:=base) (p:=p) (pr:=pr++ps.map V.e++qs.map V.e) (d:=d) (B:=B) (q:=q) (told:=told) (its:=its) (f:=f) (x7:=some (.d x)) (x8:=x8) (x9:=x9) (x10:=x') (x11:=some (.d (.lst (eS sts)))) (x12:=some (.d (Tm.call w o l j nx).e)) (x13:=some (.d (.lst [a.e]))) (x14:=some (.d r.e)) (x15:=some (.d (.bool true))) (x16:=x16) (x17:=x17) (x18:=x18) rfl hl hp hW hf (by exact hd) (by simp; omega) (by simpa using ht)
    refine ⟨loc',ζ,?_⟩
    simp only [List.append_assoc] at e2 ⊢
    exact e2
theorem A4 {ws0:List W} {ds0:List Dat} {P:W→Option Bd} (hP:∀ w K,P w=some K→∃ q,c9 w ws0 ds0=some (K.e q)) {h:Nat} {blks:List Blk} {t:Nat} {k:Int} {σ:Sto} {ps:List V} {v:V} (H:Run P h blks t k σ ps v):gG (.dct ws0 ds0) h blks t k σ ps v:=by
  induction H with
  | ret hb h1 h2 h3 hs hv=>exact AJ hb h1 h2 h3 hs hv
  | goto hb h1 h2 h3 hs _ ih=>exact ye hb h1 h2 h3 hs ih
  | switch hb h1 h2 h3 hs ho _ ih=>exact uN hb h1 h2 h3 hs ho ih
  | call hb h1 h2 h3 hs ho hw hK hKl _ ht hset _ ih1 ih =>
    obtain ⟨q,hq⟩:=hP _ _ hw
    exact yT hb h1 h2 h3 hs ho hq hK hKl ih1 ht hset ih
theorem qb (n:Nat) {base:List MObj} {ws0:List W} {ds0:List Dat} {P:W→Option Bd} (hP:∀ w K,P w=some K→∃ q,c9 w ws0 ds0=some (K.e q)) {B:Bd} {q h t:Nat} {ps:List V} {v:V} (hB:B.argc=0) (hl:B.blks.length≤100) (ht:t≤60) (hh:h≤3) (hps:ps.length≤900) (hw:WFm base)
    (H:Run P h B.blks t 0 ⟨[],[0]⟩ ps v):an prog (n+h+5) .told [.d (.dct ws0 ds0),.d (B.e q)] base=some (.d (.tup [.lst (ps.map V.e),.tup [v.e,.bool true]]),base):=by
  rw [show n+h+5=(n+h+4)+1 from rfl,aY (d:=qc) rfl rfl]
  have hps':ps.length≤1048576:=by exact lb hps rfl
  have kr:=DC hB hl ht (A4 hP H) (n:=n) (base:=base++[.list []]) (p:=base.length) (pr:=[]) (d:=0) (q:=q) (by simp) (fun pr=>by
    have:(base++[MObj.list []]).set base.length (.list (pr.map .d))=base++[.list (pr.map .d)]:=by simp
    rw [this]
    exact hw.app (by simp only [List.all_cons,List.all_nil,mH,Bool.and_true])) (by omega) (by simp; exact hps)
  simp only [List.map_nil,List.nil_append] at kr
  have e1:(base++[MObj.list []]).set base.length (.list [])=base++[.list []]:=by simp
  have e2:(base++[MObj.list []]).set base.length (.list ((ps.map V.e).map .d))=base++[.list ((ps.map V.e).map .d)]:=by simp
  rw [e1,e2] at kr
  simp [ao,af,ar,bz,ah,ag,ak,av,bC,bF,cf,aN,aE,gw,fB,fy,cR,gD,fW,fU,g7,aF,bn,aM,aL,aU,bD,bo,aT,aH,bU,am,ap,aq,aJ,bH,aV,aj,cY,eK,je,b6,jF,jL,lim,-getElem?_pos,qc,kr,-List.map_map]
  exact i7 hw rfl
end Mine.Internal
namespace Mine.Internal
inductive Seg (P:W→Option Bd) (N:Nat):Nat→List Blk→Nat→Int→Sto→List V→Sto→Prop
  | ret {h blks k sts σ τ ps}:fL blks k=some ⟨sts,.ret⟩→σ.ws.length≤N→σ.al.length≤N→sts.length≤N→σ.steps sts=some (τ,ps)→Seg P N h blks 1 k σ ps τ
  | goto {h blks t k sts g σ τ ps qs υ}:fL blks k=some ⟨sts,.goto g⟩→σ.ws.length≤N→σ.al.length≤N→sts.length≤N→σ.steps sts=some (τ,ps)→Seg P N h blks t g τ qs υ→Seg P N h blks (t+1) k σ (ps++qs) υ
  | switch {h blks t k sts o c a b x σ τ ps qs υ}:fL blks k=some ⟨sts,.switch o c a b⟩→σ.ws.length≤N→σ.al.length≤N→sts.length≤N→σ.steps sts=some (τ,ps)→τ.val o=some (.i x)→Seg P N h blks t (if c=x then a else b) τ qs υ→Seg P N h blks (t+1) k σ (ps++qs) υ
  | call {h blks t t' k sts w o l j nx a K r σ τ υ ps qs rs ζ}:fL blks k=some ⟨sts,.call w o l j nx⟩→σ.ws.length≤N→σ.al.length≤N→sts.length≤N→σ.steps sts=some (τ,ps)→τ.val o=some a→P w=some K→K.argc=1→K.blks.length≤100 →
      Run P h K.blks t' 0 ⟨[(1,a)],[0,1]⟩ qs r→t'≤60→τ.set l j r=some υ→Seg P N (h+1) blks t nx υ rs ζ→Seg P N (h+1) blks (t+1) k σ (ps++(qs++rs)) ζ
theorem Seg.run {P:W→Option Bd} {N h:Nat} (hN:N≤100) {blks:List Blk} {t:Nat} {k:Int} {σ τ:Sto} {ps:List V} {v:V} (H:Seg P N h blks t k σ ps τ) (hv:τ.get 0=some v):Run P h blks t k σ ps v:=by
  induction H with
  | ret hb h1 h2 h3 hs=>exact .ret hb (Nat.le_trans h1 hN) (Nat.le_trans h2 hN) (Nat.le_trans h3 hN) hs hv
  | goto hb h1 h2 h3 hs _ ih=>exact .goto hb (Nat.le_trans h1 hN) (Nat.le_trans h2 hN) (Nat.le_trans h3 hN) hs (ih hv)
  | switch hb h1 h2 h3 hs ho _ ih=>exact .switch hb (Nat.le_trans h1 hN) (Nat.le_trans h2 hN) (Nat.le_trans h3 hN) hs ho (ih hv)
  | call hb h1 h2 h3 hs ho hw hK hKl hr ht hset _ ih=>exact .call hb (Nat.le_trans h1 hN) (Nat.le_trans h2 hN) (Nat.le_trans h3 hN) hs ho hw hK hKl hr ht hset (ih hv)
theorem Seg.mono {P:W→Option Bd} {N N' h:Nat} (hN:N≤N') {blks:List Blk} {t:Nat} {k:Int} {σ τ:Sto} {ps:List V} (H:Seg P N h blks t k σ ps τ):Seg P N' h blks t k σ ps τ:=by
  induction H with
  | ret hb h1 h2 h3 hs=>exact .ret hb (Nat.le_trans h1 hN) (Nat.le_trans h2 hN) (Nat.le_trans h3 hN) hs
  | goto hb h1 h2 h3 hs _ ih=>exact .goto hb (Nat.le_trans h1 hN) (Nat.le_trans h2 hN) (Nat.le_trans h3 hN) hs ih
  | switch hb h1 h2 h3 hs ho _ ih=>exact .switch hb (Nat.le_trans h1 hN) (Nat.le_trans h2 hN) (Nat.le_trans h3 hN) hs ho ih
  | call hb h1 h2 h3 hs ho hw hK hKl hr ht hset _ ih=>exact .call hb (Nat.le_trans h1 hN) (Nat.le_trans h2 hN) (Nat.le_trans h3 hN) hs ho hw hK hKl hr ht hset ih
noncomputable def Sto.join (σ:Sto) (s:Int) (τ:Sto):Sto:=⟨σ.ws++τ.ws.map fun kv=>(kv.1+s,kv.2),σ.al++τ.al.map (· + s)⟩
structure Below (σ:Sto) (s:Int):Prop where
  al:∀ x ∈ σ.al,x < s
  ws:∀ kv ∈ σ.ws,kv.1 < s
noncomputable def NN (τ:Sto):Prop:=∀ x ∈ τ.al,0≤x
theorem oZ {l:Int}:∀ {ws ws':List (Int × V)},(∀ kv ∈ ws,kv.1 ≠ l)→(ws++ws').lookup l=ws'.lookup l
  | [],_,_=>rfl
  | (k,v)::r,ws',h=>by
    rw [List.cons_append,List.lookup_cons]
    have:(l == k)=false:=beq_eq_false_iff_ne.mpr fun e=>h (k,v) (.head _) e.symm
    rw [this]
    exact oZ fun kv hk=>h kv (.tail _ hk)
theorem qY {l s:Int}:∀ {ws:List (Int × V)},(ws.map fun kv=>(kv.1+s,kv.2)).lookup (l+s)=ws.lookup l
  | []=>rfl
  | (k,v)::r=>by
    rw [List.map_cons,List.lookup_cons,List.lookup_cons,qY]
    by_cases h:l=k
    · subst h; simp
    · have h1:(l == k)=false:=beq_eq_false_iff_ne.mpr h
      have h2:(l+s == k+s)=false:=beq_eq_false_iff_ne.mpr (by exact xX h)
      rw [h1,h2]
theorem rg {σ:Sto} {l:Int} {v:V} (h:σ.get l=some v):l ∈ σ.al∧σ.ws.lookup l=some v:=by
  unfold Sto.get at h
  split at h
  · rename_i hl; exact ⟨hl,h⟩
  · exact nS h
theorem lX {σ τ:Sto} {s l:Int} {v:V} (hσ:Below σ s) (hτ:NN τ) (h:τ.get l=some v):(σ.join s τ).get (l+s)=some v:=by
  refine aO (rg h) fun h1 h2=>?_
  have:=hτ l h1
  unfold Sto.get Sto.join
  rw [if_pos (List.mem_append_right _ (List.mem_map_of_mem h1))]
  dsimp only
  rw [oZ fun kv hk=>by have:=hσ.ws kv hk; omega,qY,h2]
theorem g8 {σ τ:Sto} {s:Int} {o:Op} {v:V} (hσ:Below σ s) (hτ:NN τ) (h:τ.val o=some v):(σ.join s τ).val (o.mv s)=some v:=by
  cases o with
  | const c=>exact h
  | move l=>exact lX hσ hτ h
  | copy l j =>
    cases j with
    | none=>exact lX hσ hτ h
    | some j =>
      refine xe1 (Option.bind_eq_some_iff.mp (show (τ.get l).bind (fun v=>v.at_ j)=some v from h)) fun w r_=>aO r_ fun e1 e2=>?_
      show ((σ.join s τ).get (l+s)).bind (fun v=>v.at_ j)=some v
      rw [lX hσ hτ e1]; exact e2
theorem Bp {l:Int} {v:V} {a b:List (Int × V)} (h:∀ kv ∈ a,kv.1 ≠ l):cj l v (a++b)=a++cj l v b:=by
  have ha:a.any (fun kv=>decide (kv.1=l))=false:=by
    rw [List.any_eq_false]; intro kv hk; simpa using h kv hk
  have hm:a.map (fun kv=>if kv.1=l then (kv.1,v) else kv)=a:=by
    conv=>rhs; rw [← List.map_id a]
    refine List.map_congr_left fun kv hk=>?_
    rw [if_neg (h kv hk)]; rfl
  unfold cj
  rw [List.any_append,ha,Bool.false_or,List.map_append,hm]
  split <;> simp
theorem Dd {l s:Int} {v:V} {b:List (Int × V)}:cj (l+s) v (b.map fun kv=>(kv.1+s,kv.2))=(cj l v b).map fun kv=>(kv.1+s,kv.2):=by
  have e:((fun kv:Int × V=>decide (kv.1=l+s)) ∘ fun kv:Int × V=>(kv.1+s,kv.2))=fun kv=>decide (kv.1=l):=by
    funext kv
    show decide (kv.1+s=l+s)=decide (kv.1=l)
    by_cases h:kv.1=l
    · simp [h]
    · rw [decide_eq_false h,decide_eq_false (by exact xX h)]
  unfold cj
  rw [List.any_map,e]
  split
  · rw [List.map_map,List.map_map]
    refine List.map_congr_left fun kv Z=>?_
    show (if kv.1+s=l+s then (kv.1+s,v) else (kv.1+s,kv.2))=(((if kv.1=l then (kv.1,v) else kv):Int × V).1+s,((if kv.1=l then (kv.1,v) else kv):Int × V).2)
    by_cases h:kv.1=l
    · rw [if_pos (by exact Kc h),if_pos h]
    · rw [if_neg (by exact xX h),if_neg h]
  · simp
set_option tactic.hygienic true in
theorem Ar {σ τ τ':Sto} {s l:Int} {j:Option Int} {v:V} (hσ:Below σ s) (hτ:NN τ) (h:τ.set l j v=some τ'):(σ.join s τ).set (l+s) j v=some (σ.join s τ')∧τ'.al=τ.al:=by
  unfold Sto.set at h
  split at h
  · rename_i hl
    have:=hτ l hl
    have hm:l+s ∈ (σ.join s τ).al:=List.mem_append_right _ (List.mem_map_of_mem hl)
    have hne:∀ kv ∈ σ.ws,kv.1 ≠ l+s:=fun kv hk=>by have:=hσ.ws kv hk; omega
    have hlk:(σ.join s τ).ws.lookup (l+s)=τ.ws.lookup l:=by
      show (σ.ws++τ.ws.map _).lookup (l+s)=_
      rw [oZ hne,qY]
    have hput:∀ u,cj (l+s) u (σ.join s τ).ws=σ.ws++(cj l u τ.ws).map fun kv=>(kv.1+s,kv.2):=fun u=>by
      show cj (l+s) u (σ.ws++τ.ws.map _)=_
      rw [Bp hne,Dd]
    unfold Sto.set
    rw [if_pos hm]
    cases j with
    | none=>(replace h:=iS h; subst h); exact ⟨by dsimp only; rw [hput]; rfl,rfl⟩
    | some j =>
      dsimp only at h ⊢
      rw [hlk]
      split at h
      · rename_i x w e1
        refine bN h fun u e2 e3=>?_
        subst e3
        rw [e2]
        exact ⟨by show some (Sto.mk (cj (l+s) u (σ.join s τ).ws) _)=_; rw [hput]; rfl,rfl⟩
      · exact nS h
  · exact nS h
set_option tactic.hygienic true in
theorem Dh {σ τ:Sto} {s:Int} {r:Rv} {v:V} (hσ:Below σ s) (hτ:NN τ) (h:τ.rv r=some v):(σ.join s τ).rv (r.mv s)=some v:=by
  cases r with
  | use o=>exact g8 hσ hτ h
  | bin w a b =>
    unfold Sto.rv at h
    dsimp only at h
    split at h
    · rename_i x y ex ey
      unfold Sto.rv Rv.mv
      dsimp only
      rw [g8 hσ hτ ex,g8 hσ hτ ey]
      exact h
    · exact nS h
  | tup a b =>
    unfold Sto.rv at h
    dsimp only at h
    split at h
    · rename_i x y ex ey
      unfold Sto.rv Rv.mv
      dsimp only
      rw [g8 hσ hτ ex,g8 hσ hτ ey]
      exact h
    · exact nS h
theorem Ai {l:Int} {a b:List (Int × V)} (h:∀ kv ∈ a,kv.1 ≠ l):cO l (a++b)=a++cO l b:=by
  unfold cO
  rw [List.filter_append,List.filter_eq_self.mpr fun kv hk=>by simpa using h kv hk]
theorem DQ {l s:Int} {b:List (Int × V)}:cO (l+s) (b.map fun kv=>(kv.1+s,kv.2))=(cO l b).map fun kv=>(kv.1+s,kv.2):=by
  unfold cO
  rw [List.filter_map]
  congr 1
  refine List.filter_congr fun kv Z=>?_
  show decide (kv.1+s ≠ l+s)=decide (kv.1 ≠ l)
  by_cases h:kv.1=l
  · simp [h]
  · rw [decide_eq_true (by exact xX h),decide_eq_true h]
theorem DA {l:Int} {a b:List Int} (h:∀ x ∈ a,x ≠ l):(a++b).filter (fun x=>x != l)=a++b.filter fun x=>x != l:=by
  rw [List.filter_append,List.filter_eq_self.mpr fun x hx=>by simpa using h x hx]
theorem Fw {l s:Int} {b:List Int}:(b.map (· + s)).filter (fun x=>x != l+s)=(b.filter fun x=>x != l).map (· + s):=by
  rw [List.filter_map]
  congr 1
  refine List.filter_congr fun x Z=>?_
  show (x+s != l+s)=(x != l)
  by_cases h:x=l
  · simp [h]
  · rw [bne_iff_ne.mpr (by exact xX h),bne_iff_ne.mpr h]
noncomputable def cP:St→Prop
  | .live l=>0≤l
  | _=>True
theorem Cy {l:Int}:cP (.live l)=(0≤l):=rfl
theorem Cc {l:Int}:cP (.dead l)=True:=rfl
theorem yu {o:Op}:cP (.print o)=True:=rfl
theorem Cd {l:Int} {j:Option Int} {r:Rv}:cP (.assign l j r)=True:=rfl
theorem zR {σ τ τ':Sto} {s:Int} {t:St} {ps:List V} (hσ:Below σ s) (hτ:NN τ) (ht:cP t) (h:τ.step t=some (τ',ps)):(σ.join s τ).step (t.mv s)=some (σ.join s τ',ps)∧NN τ':=by
  cases t with
  | print o =>
    refine xe1 (Option.map_eq_some_iff.mp (show (τ.val o).map _=_ from h)) fun v r_=>aO r_ fun e1 e2=>?_
    (refine eR e2 fun h1_ h2_=>?_; subst h1_; subst h2_)
    refine ⟨?_,hτ⟩
    show ((σ.join s τ).val (o.mv s)).map _=_
    rw [g8 hσ hτ e1]; rfl
  | live l =>
    have h:(if l ∈ τ.al then none else some ((⟨τ.ws,τ.al++[l]⟩ : Sto),([]:List V)))=some (τ',ps):=h
    have h0:0≤l:=ht
    split at h
    · exact nS h
    · rename_i hl
      (refine dy h fun h1_ h2_=>?_; subst h1_; subst h2_)
      refine ⟨?_,fun x hx=>by
        rcases List.mem_append.mp hx with hx | hx
        · exact hτ x hx
        · rw [List.mem_singleton] at hx; omega⟩
      show (if l+s ∈ (σ.join s τ).al then none else some ((⟨(σ.join s τ).ws,(σ.join s τ).al++[l+s]⟩ : Sto),([]:List V)))=_
      rw [if_neg fun hm=>?_]
      · unfold Sto.join; simp
      · rcases List.mem_append.mp hm with hm | hm
        · have:=hσ.al _ hm; omega
        · refine xe1 (List.mem_map.mp hm) fun x r_=>aO r_ fun hx e=>?_
          have:x=l:=by have e:x+s=l+s:=e; omega
          exact hl (this ▸ hx)
  | dead l =>
    have h:(if l ∈ τ.al then some ((⟨cO l τ.ws,τ.al.filter fun x=>x != l⟩ : Sto),([]:List V)) else none)=some (τ',ps):=h
    split at h
    · rename_i hl
      (refine dy h fun h1_ h2_=>?_; subst h1_; subst h2_)
      have:=hτ l hl
      refine ⟨?_,fun x hx=>hτ x (List.mem_filter.mp hx).1⟩
      show (if l+s ∈ (σ.join s τ).al then some ((⟨cO (l+s) (σ.join s τ).ws,(σ.join s τ).al.filter fun x=>x != l+s⟩ : Sto),([]:List V)) else none)=_
      have hm:l+s ∈ (σ.join s τ).al:=List.mem_append_right _ (List.mem_map_of_mem hl)
      rw [if_pos hm]
      unfold Sto.join
      dsimp only
      rw [Ai fun kv hk=>by have:=hσ.ws kv hk; omega,DQ,DA fun x hx=>by have:=hσ.al x hx; omega,Fw]
    · exact nS h
  | assign l j r =>
    refine xe1 (Option.bind_eq_some_iff.mp (show (τ.rv r).bind _=_ from h)) fun v r_=>aO r_ fun e1 e2=>?_
    refine bN e2 fun υ e3 e4=>?_
    (refine eR e4 fun h1_ h2_=>?_; subst h1_; subst h2_)
    refine aO (Ar hσ hτ e3) fun g1 g2=>?_
    refine ⟨?_,fun x hx=>hτ x (g2 ▸ hx)⟩
    show ((σ.join s τ).rv (r.mv s)).bind _=_
    rw [Dh hσ hτ e1]
    show ((σ.join s τ).set (l+s) j v).map _=_
    rw [g1]; rfl
theorem jI {σ:Sto} {s:Int} (hσ:Below σ s):∀ (sts:List St) {τ τ':Sto} {ps:List V},NN τ→(∀ t ∈ sts,cP t)→τ.steps sts=some (τ',ps)→(σ.join s τ).steps (sts.map (St.mv s))=some (σ.join s τ',ps)∧NN τ'
  | [],τ,τ',ps,hτ,ht,h=>by (refine dy h fun h1_ h2_=>?_; subst h1_; subst h2_); exact ⟨rfl,hτ⟩
  | t::r,τ,τ',ps,hτ,ht,h=>by
    refine xe1 (Option.bind_eq_some_iff.mp (show (τ.step t).bind _=_ from h)) fun q0_ r_=>aO r_ fun e1 e2=>?_
    obtain ⟨υ,p1⟩:=q0_
    refine bN e2 fun q0_ e3 e4=>?_
    obtain ⟨υ',p2⟩:=q0_
    (refine eR e4 fun h1_ h2_=>?_; subst h1_; subst h2_)
    refine aO (zR hσ hτ (ht t (.head _)) e1) fun g1 g2=>?_
    obtain ⟨g3,g4⟩:=jI hσ r g2 (fun x hx=>ht x (.tail _ hx)) e3
    refine ⟨?_,g4⟩
    show ((σ.join s τ).step (t.mv s)).bind _=_
    rw [g1]
    show ((σ.join s υ).steps (r.map (St.mv s))).map _=_
    rw [g3]; rfl
theorem vV {σ τ υ:Sto} {t:St} {r:List St} {ps qs:List V} (h:σ.step t=some (τ,ps)) (g:τ.steps r=some (υ,qs)):σ.steps (t::r)=some (υ,ps++qs):=by
  rw [ID,h]; show (τ.steps r).map _=_; rw [g]; rfl
theorem k7 {sts r:List St}:∀ {σ τ υ:Sto} {ps qs:List V},σ.steps sts=some (τ,ps)→τ.steps r=some (υ,qs)→σ.steps (sts++r)=some (υ,ps++qs):=by
  induction sts with
  | nil=>intro σ τ υ ps qs h1 h2; (refine dy h1 fun h1_ h2_=>?_; subst h1_; subst h2_); exact h2
  | cons t l ih =>
    intro σ τ υ ps qs h1 h2
    refine xe1 (Option.bind_eq_some_iff.mp (show (σ.step t).bind _=_ from h1)) fun q0_ r_=>aO r_ fun e1 e2=>?_
    obtain ⟨ζ,p1⟩:=q0_
    refine bN e2 fun q0_ e3 e4=>?_
    obtain ⟨ζ',p2⟩:=q0_
    (refine eR e4 fun h1_ h2_=>?_; subst h1_; subst h2_)
    have:=ih e3 h2
    show (σ.step t).bind _=_
    rw [e1]
    show (ζ.steps (l++r)).map _=_
    rw [this]
    simp
end Mine.Internal
namespace Mine.Internal
theorem s9 {l x:Int} {v:V} (h:l ≠ x):∀ {ws:List (Int × V)},cO x (cj l v ws)=cj l v (cO x ws):=by
  intro ws
  have ha:(cO x ws).any (fun kv=>decide (kv.1=l))=ws.any (fun kv=>decide (kv.1=l)):=by
    rw [Bool.eq_iff_iff,List.any_eq_true,List.any_eq_true]
    unfold cO
    constructor
    · rintro ⟨kv,h1,h2⟩; exact ⟨kv,(List.mem_filter.mp h1).1,h2⟩
    · rintro ⟨kv,h1,h2⟩
      have:kv.1=l:=of_decide_eq_true h2
      exact ⟨kv,List.mem_filter.mpr ⟨h1,decide_eq_true (by exact KT h this)⟩,h2⟩
  unfold cj
  rw [ha]
  split
  · unfold cO
    rw [List.filter_map]
    congr 1
    refine List.filter_congr fun kv Z=>?_
    show decide ((if kv.1=l then (kv.1,v) else kv).1 ≠ x)=decide (kv.1 ≠ x)
    split <;> rfl
  · unfold cO
    rw [List.filter_append]
    congr 1
    simp [h]
structure Done (τ:Sto) (r:V):Prop where
  res:τ.get 0=some r
  arg:1 ∈ τ.al
  al:∀ x ∈ τ.al,x=0∨x=1
  ws:∀ kv ∈ τ.ws,kv.1=0∨kv.1=1
theorem Jm {σ τ:Sto} {s:Int} {r:V} (hσ:Below σ s) (hd:Done τ r):cO s (cO (s+1) (σ.join s τ).ws)=σ.ws:=by
  unfold cO Sto.join
  dsimp only
  rw [List.filter_filter,List.filter_append,List.filter_eq_self.mpr fun kv hk=>?_,List.filter_eq_nil_iff.mpr fun kv hk=>?_,List.append_nil]
  · refine xe1 (List.mem_map.mp hk) fun kv' r_=>aO r_ fun h1 e2_=>?_
    subst e2_
    rcases hd.ws kv' h1 with h | h <;> simp [h] <;> omega
  · have:=hσ.ws kv hk
    simp; omega
theorem Hi {σ τ:Sto} {s:Int} {r:V} (hσ:Below σ s) (hd:Done τ r):((σ.join s τ).al.filter fun x=>x != s+1).filter (fun x=>x != s)=σ.al:=by
  unfold Sto.join
  dsimp only
  rw [List.filter_filter,List.filter_append,List.filter_eq_self.mpr fun x hk=>?_,List.filter_eq_nil_iff.mpr fun x hk=>?_,List.append_nil]
  · refine xe1 (List.mem_map.mp hk) fun x' r_=>aO r_ fun h1 e2_=>?_
    subst e2_
    rcases hd.al x' h1 with h | h <;> simp [h] <;> omega
  · have:=hσ.al x hk
    simp; omega
theorem xQ {σ σ' τ:Sto} {s l:Int} {r:V} (hσ:Below σ s) (hn:NN τ) (hd:Done τ r) (hs:σ.set l none r=some σ'):(σ.join s τ).steps [.assign l none (.use (.move s)),.dead (s+1),.dead s]=some (σ',[]):=by
  unfold Sto.set at hs
  split at hs
  · rename_i hl
    (replace hs:=iS hs; subst hs)
    have hls:=hσ.al l hl
    have h0:=(rg hd.res).1
    have hv:(σ.join s τ).val (.move s)=some r:=by
      have:=lX hσ hn hd.res
      rw [Int.zero_add] at this; exact this
    have hlm:l ∈ (σ.join s τ).al:=List.mem_append_left _ hl
    have h1m:s+1 ∈ (σ.join s τ).al:=List.mem_append_right _ (List.mem_map.mpr ⟨1,hd.arg,by exact Int.add_comm _ _⟩)
    have h0m:s ∈ (σ.join s τ).al.filter fun x=>x != s+1:=List.mem_filter.mpr ⟨List.mem_append_right _ (List.mem_map.mpr ⟨0,h0,by exact Int.zero_add _⟩),by simp; exact in1⟩
    have e1:(σ.join s τ).step (.assign l none (.use (.move s)))=some (⟨cj l r (σ.join s τ).ws,(σ.join s τ).al⟩,[]):=by
      show ((σ.join s τ).rv (.use (.move s))).bind _=_
      rw [show (σ.join s τ).rv (.use (.move s))=some r from hv]
      show ((σ.join s τ).set l none r).map _=_
      unfold Sto.set
      rw [if_pos hlm]; rfl
    have e2:(⟨cj l r (σ.join s τ).ws,(σ.join s τ).al⟩ : Sto).step (.dead (s+1))=some (⟨cO (s+1) (cj l r (σ.join s τ).ws),(σ.join s τ).al.filter fun x=>x != s+1⟩,[]):=if_pos h1m
    have e3:(⟨cO (s+1) (cj l r (σ.join s τ).ws),(σ.join s τ).al.filter fun x=>x != s+1⟩ : Sto).step (.dead s)=some (⟨cj l r σ.ws,σ.al⟩,[]):=by
      refine (if_pos h0m).trans ?_
      rw [Hi hσ hd,s9 (by exact GS hls),s9 (by exact inl hls),Jm hσ hd]
    exact vV e1 (vV e2 (vV e3 rfl))
  · exact nS hs
theorem lL {blks:List Blk} {k:Int} {b:Blk} (h:fL blks k=some b):0≤k∧blks[k.toNat]? = some b:=by
  unfold fL at h
  split at h
  · exact ⟨‹_›,h⟩
  · exact nS h
theorem oY {blks:List Blk} {k:Nat}:fL blks (k:Int)=blks[k]? := by
  unfold fL; rw [if_pos (by exact iz _)]; simp
theorem o9 {K BS:List Blk} {off:Nat} {f:Blk→Blk} (hBS:∀ i b,K[i]? = some b→BS[off+i]? = some (f b)) {k:Int} {b:Blk} (h:fL K k=some b):fL BS (k+off)=some (f b):=by
  refine aO (lL h) fun h1 h2=>?_
  have:=hBS _ _ h2
  unfold fL
  rw [if_pos (by exact Kp h1),show (k+off).toNat=off+k.toNat by omega,this]
theorem o4 {σ τ:Sto} {s:Int} {N N':Nat} (h1:σ.ws.length+N≤N') (h2:σ.al.length+N≤N') (h3:τ.ws.length≤N) (h4:τ.al.length≤N):(σ.join s τ).ws.length≤N'∧(σ.join s τ).al.length≤N':=by
  unfold Sto.join
  simp; omega
theorem KD {P P':W→Option Bd} {N N' h h':Nat} {K BS:List Blk} {s l nx:Int} {off t':Nat} {σ σ' ζ:Sto} {r:V} {qs:List V}
    (hK:∀ b ∈ K,b.tm.isCall=false∧∀ t ∈ b.sts,cP t) (hBS:∀ i b,K[i]? = some b→BS[off+i]? = some (cK s off l nx b)) (hσ:Below σ s) (hw:σ.ws.length+N≤N') (ha:σ.al.length+N≤N') (hN:N+3≤N')
    (hs:σ.set l none r=some σ') (hend:Seg P' N' h' BS t' nx σ' qs ζ) {t:Nat} {k:Int} {τ0 τ1:Sto} {ps:List V} (H:Seg P N h K t k τ0 ps τ1):NN τ0→Done τ1 r→Seg P' N' h' BS (t+t') (k+off) (σ.join s τ0) (ps++qs) ζ:=by
  induction H with
  | ret hb h1 h2 h3 hst =>
    intro hn hd
    refine aO (o4 hw ha h1 h2 (s:=s)) fun g1 g2=>?_
    have hm:=List.mem_of_getElem? (lL hb).2
    refine aO (jI hσ _ hn (hK _ hm).2 hst) fun e1 e2=>?_
    have e3:=k7 e1 (xQ hσ e2 hd hs)
    rw [List.append_nil] at e3
    rw [Nat.add_comm]
    exact .goto (o9 hBS hb) g1 g2 (by simp; exact lk hN h3) e3 hend
  | goto hb h1 h2 h3 hst _ ih =>
    intro hn hd
    refine aO (o4 hw ha h1 h2 (s:=s)) fun g1 g2=>?_
    have hm:=List.mem_of_getElem? (lL hb).2
    refine aO (jI hσ _ hn (hK _ hm).2 hst) fun e1 e2=>?_
    rw [List.append_assoc,Nat.add_right_comm]
    exact .goto (o9 hBS hb) g1 g2 (by simp; exact ll hN h3) e1 (ih hK hBS e2 hd)
  | switch hb h1 h2 h3 hst ho _ ih =>
    intro hn hd
    refine aO (o4 hw ha h1 h2 (s:=s)) fun g1 g2=>?_
    have hm:=List.mem_of_getElem? (lL hb).2
    refine aO (jI hσ _ hn (hK _ hm).2 hst) fun e1 e2=>?_
    rw [List.append_assoc,Nat.add_right_comm]
    refine .switch (o9 hBS hb) g1 g2 (by simp; exact ll hN h3) e1 (g8 hσ e2 ho) ?_
    have:=ih hK hBS e2 hd
    split <;> rename_i hc
    · rw [if_pos hc] at this; exact this
    · rw [if_neg hc] at this; exact this
  | call hb h1 h2 h3 hst ho hw' hK' hKl hr ht hset _ ih =>
    have hm:=List.mem_of_getElem? (lL hb).2
    have:=(hK _ hm).1
    cases this
theorem DK {σ:Sto} {s:Int} {ps:List V} {τ:Sto} {sts:List St} {o:Op} {x:V} {N N':Nat} (hst:σ.steps sts=some (τ,ps)) (ho:τ.val o=some x) (hτ:Below τ s):σ.steps (ea s sts o)=some (τ.join s ⟨[(1,x)],[0,1]⟩,ps):=by
  have h0:s ∉ τ.al:=fun h=>by have:=hτ.al s h; omega
  have h1:s+1 ∉ τ.al++[s]:=fun h=>by
    rcases List.mem_append.mp h with h | h
    · have:=hτ.al _ h; omega
    · rw [List.mem_singleton] at h; omega
  have hm:s+1 ∈ (τ.al++[s])++[s+1]:=by simp
  have hv:∀ al,(∀ y ∈ τ.al,y ∈ al)→(⟨τ.ws,al⟩ : Sto).val o=some x:=fun al hal=>by
    have hg:∀ {l:Int} {v:V},τ.get l=some v→(⟨τ.ws,al⟩ : Sto).get l=some v:=fun {l v} h=>by
      refine aO (rg h) fun g1 g2=>?_
      unfold Sto.get
      rw [if_pos (hal _ g1)]; exact g2
    cases o with
    | const c=>exact ho
    | move l=>exact hg ho
    | copy l j =>
      cases j with
      | none=>exact hg ho
      | some j =>
        refine xe1 (Option.bind_eq_some_iff.mp (show (τ.get l).bind (fun v=>v.at_ j)=some x from ho)) fun w r_=>aO r_ fun e1 e2=>?_
        show ((⟨τ.ws,al⟩ : Sto).get l).bind (fun v=>v.at_ j)=some x
        rw [hg e1]; exact e2
  have e1:τ.step (.live s)=some (⟨τ.ws,τ.al++[s]⟩,[]):=if_neg h0
  have e2:(⟨τ.ws,τ.al++[s]⟩ : Sto).step (.live (s+1))=some (⟨τ.ws,(τ.al++[s])++[s+1]⟩,[]):=if_neg h1
  have e3:(⟨τ.ws,(τ.al++[s])++[s+1]⟩ : Sto).step (.assign (s+1) none (.use o))=some (τ.join s ⟨[(1,x)],[0,1]⟩,[]):=by
    show ((⟨τ.ws,(τ.al++[s])++[s+1]⟩ : Sto).val o).bind _=_
    rw [hv _ fun y hy=>by simp [hy]]
    show ((⟨τ.ws,(τ.al++[s])++[s+1]⟩ : Sto).set (s+1) none x).map _=_
    unfold Sto.set
    rw [if_pos hm]
    unfold cj Sto.join
    rw [if_neg]
    · simp [Int.add_comm]
    · rw [Bool.not_eq_true,List.any_eq_false]
      intro kv hk
      have:=hτ.ws kv hk
      simp; exact GS this
  have e4:τ.steps [.live s,.live (s+1),.assign (s+1) none (.use o)]=some (τ.join s ⟨[(1,x)],[0,1]⟩,[]):=by
    exact vV e1 (vV e2 (vV e3 rfl))
  have:=k7 hst e4
  rw [List.append_nil] at this
  exact this
end Mine.Internal
namespace Mine.Internal
set_option genCtorIdx false in
set_option genInjectivity false in
structure Ca where
  rows:List St
  w:W
  o:Op
  l:Int
  j:Option Int
noncomputable def cZ (k:Nat):List Ca→List St→List Blk
  | [],last=>[⟨last,.ret⟩]
  | c::cs,last=>⟨c.rows,.call c.w c.o c.l c.j ((k+1:Nat):Int)⟩::cZ (k+1) cs last
theorem K3 {k:Nat} {last:List St}:cZ k [] last=[⟨last,.ret⟩]:=rfl
theorem Cm {k:Nat} {c:Ca} {cs:List Ca} {last:List St}:cZ k (c::cs) last=⟨c.rows,.call c.w c.o c.l c.j ((k+1:Nat):Int)⟩::cZ (k+1) cs last:=rfl
theorem ie:∀ {cs:List Ca} {k:Nat} {last:List St},(cZ k cs last).length=cs.length+1
  | [],_,_=>rfl
  | c::cs,k,last=>by rw [Cm,List.length_cons,ie,List.length_cons]
set_option genCtorIdx false in
set_option genInjectivity false in
structure Out where
  mid:List Blk
  new:List Blk
  locs:List Dat
noncomputable def bZ (P:W→Option Bd) (c:Ca):Option Bd:=match c.j with
  | none=>P c.w
  | some _=>none
noncomputable def fj (P:W→Option Bd) (last:List St):Nat→Nat→Nat→List Ca→Out
  | n,s,k,[]=>⟨[⟨last,.ret⟩],[],[]⟩
  | n,s,k,c::cs=>match bZ P c with
    | some K =>
      let r:=fj P last (n+K.blks.length) (s+K.locs.length) (k+1) cs
      ⟨⟨ea s c.rows c.o,.goto n⟩::r.mid,K.blks.map (cK s n c.l ((k+1:Nat):Int))++r.new,K.locs++r.locs⟩
    | none =>
      let r:=fj P last n s (k+1) cs
      ⟨⟨c.rows,.call c.w c.o c.l c.j ((k+1:Nat):Int)⟩::r.mid,r.new,r.locs⟩
theorem s5 {P:W→Option Bd} {last:List St} {n s k:Nat}:fj P last n s k []=⟨[⟨last,.ret⟩],[],[]⟩:=rfl
theorem rE {P:W→Option Bd} {last:List St} {n s k:Nat} {c:Ca} {cs:List Ca}:fj P last n s k (c::cs)=match bZ P c with
    | some K =>
      let r:=fj P last (n+K.blks.length) (s+K.locs.length) (k+1) cs
      ⟨⟨ea s c.rows c.o,.goto n⟩::r.mid,K.blks.map (cK s n c.l ((k+1:Nat):Int))++r.new,K.locs++r.locs⟩
    | none =>
      let r:=fj P last n s (k+1) cs
      ⟨⟨c.rows,.call c.w c.o c.l c.j ((k+1:Nat):Int)⟩::r.mid,r.new,r.locs⟩:=rfl
theorem JY {P:W→Option Bd} {last:List St} {n s k:Nat} {c:Ca} {cs:List Ca} (h:bZ P c=none):fj P last n s k (c::cs)=let r:=fj P last n s (k+1) cs
      ⟨⟨c.rows,.call c.w c.o c.l c.j ((k+1:Nat):Int)⟩::r.mid,r.new,r.locs⟩:=by rw [rE,h]
theorem K8 {P:W→Option Bd} {last:List St} {n s k:Nat} {c:Ca} {cs:List Ca} {K:Bd} (h:bZ P c=some K):fj P last n s k (c::cs)=let r:=fj P last (n+K.blks.length) (s+K.locs.length) (k+1) cs
      ⟨⟨ea s c.rows c.o,.goto n⟩::r.mid,K.blks.map (cK s n c.l ((k+1:Nat):Int))++r.new,K.locs++r.locs⟩:=by rw [rE,h]
theorem iW {P:W→Option Bd} {last:List St}:∀ {cs:List Ca} {n s k:Nat},(fj P last n s k cs).mid.length=cs.length+1
  | [],_,_,_=>rfl
  | c::cs,n,s,k=>by
    rw [rE]
    cases bZ P c with
    | none=>dsimp only; rw [List.length_cons,iW,List.length_cons]
    | some K=>dsimp only; rw [List.length_cons,iW,List.length_cons]
theorem mY {P:W→Option Bd} {last:List St}:∀ (cs:List Ca) (pre post:List Blk) (locs:List Dat),
    kG P (cZ pre.length cs last) pre.length ⟨pre++cZ pre.length cs last++post,locs⟩ =
      let r:=fj P last (pre.length+(cs.length+1)+post.length) locs.length pre.length cs
      ⟨pre++r.mid++(post++r.new),locs++r.locs⟩
  | [],pre,post,locs=>by
    simp [K3,Ir,IW,s5,cL]
  | c::cs,pre,post,locs=>by
    have ihn:=mY (P:=P) (last:=last) cs (pre++[⟨c.rows,.call c.w c.o c.l c.j ((pre.length+1:Nat):Int)⟩]) post locs
    rw [show (pre++[(⟨c.rows,.call c.w c.o c.l c.j ((pre.length+1:Nat):Int)⟩ : Blk)]).length=pre.length+1 by simp] at ihn
    rw [rE]; rw [Cm]
    rw [IW]
    cases hp:bZ P c with
    | none =>
      have hst:cL P ⟨pre++(⟨c.rows,.call c.w c.o c.l c.j ((pre.length+1:Nat):Int)⟩::cZ (pre.length+1) cs last)++post,locs⟩ pre.length ⟨c.rows,.call c.w c.o c.l c.j ((pre.length+1:Nat):Int)⟩=⟨pre++[⟨c.rows,.call c.w c.o c.l c.j ((pre.length+1:Nat):Int)⟩]++cZ (pre.length+1) cs last++post,locs⟩:=by
        unfold cL
        unfold bZ at hp
        cases hj:c.j with
        | none=>rw [hj] at hp; dsimp only at hp ⊢; rw [hp]; simp
        | some j=>dsimp only; simp
      rw [hst,ihn]
      dsimp only
      rw [show pre.length+1+(cs.length+1)+post.length=pre.length+((c::cs).length+1)+post.length by simp; exact ad1]
      simp
    | some K =>
      unfold bZ at hp
      cases hj:c.j with
      | some j=>rw [hj] at hp; exact nS hp
      | none =>
        rw [hj] at hp
        dsimp only at hp
        have ih:=mY (P:=P) (last:=last) cs (pre++[⟨ea locs.length c.rows c.o,.goto ((pre.length+((c::cs).length+1)+post.length:Nat):Int)⟩]) (post++K.blks.map (cK locs.length ((pre.length+((c::cs).length+1)+post.length:Nat):Int) c.l ((pre.length+1:Nat):Int))) (locs++K.locs)
        rw [show (pre++[(⟨ea locs.length c.rows c.o,.goto ((pre.length+((c::cs).length+1)+post.length:Nat):Int)⟩ : Blk)]).length=pre.length+1 by simp] at ih
        have hst:cL P ⟨pre++(⟨c.rows,.call c.w c.o c.l none ((pre.length+1:Nat):Int)⟩::cZ (pre.length+1) cs last)++post,locs⟩ pre.length ⟨c.rows,.call c.w c.o c.l none ((pre.length+1:Nat):Int)⟩ =
          ⟨pre++[⟨ea locs.length c.rows c.o,.goto ((pre.length+((c::cs).length+1)+post.length:Nat):Int)⟩]++cZ (pre.length+1) cs last++(post++K.blks.map (cK locs.length ((pre.length+((c::cs).length+1)+post.length:Nat):Int) c.l ((pre.length+1:Nat):Int))),locs++K.locs⟩:=by
          unfold cL
          dsimp only
          rw [hp]
          have hlen:(pre++(⟨c.rows,.call c.w c.o c.l none ((pre.length+1:Nat):Int)⟩::cZ (pre.length+1) cs last)++post).length=pre.length+((c::cs).length+1)+post.length:=by
            simp [ie]; omega
          dsimp only
          rw [hlen]
          simp
        rw [hst,ih]
        dsimp only
        rw [show pre.length+1+(cs.length+1)+(post++K.blks.map (cK locs.length ((pre.length+((c::cs).length+1)+post.length:Nat):Int) c.l ((pre.length+1:Nat):Int))).length=pre.length+((c::cs).length+1)+post.length+K.blks.length by simp; omega,List.length_append]
        simp
inductive Lay (P:W→Option Bd) (BS:List Blk) (last:List St):Nat→List Ca→Prop
  | nil {k}:BS[k]? = some ⟨last,.ret⟩→Lay P BS last k []
  | keep {k c cs}:BS[k]? = some ⟨c.rows,.call c.w c.o c.l c.j ((k+1:Nat):Int)⟩→bZ P c=none→Lay P BS last (k+1) cs→Lay P BS last k (c::cs)
  | put {k c cs K} {s off:Nat}:bZ P c=some K→3≤s→BS[k]? = some ⟨ea ((s:Nat):Int) c.rows c.o,.goto ((off:Nat):Int)⟩→(∀ i b,K.blks[i]? = some b→BS[off+i]? = some (cK s off c.l ((k+1:Nat):Int) b))→Lay P BS last (k+1) cs→Lay P BS last k (c::cs)
theorem qG {P:W→Option Bd} {last:List St} {BS:List Blk}:∀ (cs:List Ca) {n s k:Nat},3≤s→(∀ i b,(fj P last n s k cs).mid[i]? = some b→BS[k+i]? = some b)→(∀ i b,(fj P last n s k cs).new[i]? = some b→BS[n+i]? = some b)→Lay P BS last k cs
  | [],n,s,k,hs,h1,h2=>.nil (by have:=h1 0 ⟨last,.ret⟩ rfl; simpa using this)
  | c::cs,n,s,k,hs,h1,h2=>by
    cases hp:bZ P c with
    | none =>
      rw [JY hp] at h1 h2
      dsimp only at h1 h2
      refine .keep (by have:=h1 0 _ rfl; simpa using this) hp (qG cs hs (fun i b hb=>?_) h2)
      rw [show k+1+i=k+(i+1) by exact ad1]
      exact h1 (i+1) b (by simpa using hb)
    | some K =>
      rw [K8 hp] at h1 h2
      dsimp only at h1 h2
      refine .put (off:=n) hp hs (by have:=h1 0 _ rfl; simpa using this) (fun i b hb=>?_) (qG cs (n:=n+K.blks.length) (s:=s+K.locs.length) (by exact ls hs) (fun i b hb=>?_) fun i b hb=>?_)
      · refine h2 i _ ?_
        rw [List.getElem?_append_left (by rw [List.length_map]; exact (List.getElem?_eq_some_iff.mp hb).1),List.getElem?_map,hb]; rfl
      · rw [show k+1+i=k+(i+1) by exact ad1]
        exact h1 (i+1) b (by simpa using hb)
      · rw [show n+K.blks.length+i=n+(K.blks.length+i) by exact Nat.add_assoc _ _ _]
        refine h2 _ b ?_
        rw [List.getElem?_append_right (by rw [List.length_map]; exact Nat.le_add_right _ _),List.length_map,show K.blks.length+i - K.blks.length=i by exact Nat.add_sub_cancel_left _ _]
        exact hb
theorem nw {last:List St} {BS:List Blk}:∀ (cs:List Ca) {k:Nat},(∀ i b,(cZ k cs last)[i]? = some b→BS[k+i]? = some b)→Lay (fun Z=>none) BS last k cs
  | [],k,h1=>.nil (by have:=h1 0 ⟨last,.ret⟩ rfl; simpa using this)
  | c::cs,k,h1=>by
    rw [Cm] at h1
    refine .keep (by have:=h1 0 _ rfl; simpa using this) (by unfold bZ; cases c.j <;> rfl) (nw cs fun i b hb=>?_)
    rw [show k+1+i=k+(i+1) by exact ad1]
    exact h1 (i+1) b (by simpa using hb)
theorem gH {P:W→Option Bd} {last:List St} {B:Bd} {cs:List Ca} (hB:B.blks=cZ 0 cs last):(B.inl P).blks=(fj P last (cs.length+1) B.locs.length 0 cs).mid++(fj P last (cs.length+1) B.locs.length 0 cs).new∧(B.inl P).locs=B.locs++(fj P last (cs.length+1) B.locs.length 0 cs).locs:=by
  have:=mY (P:=P) (last:=last) cs [] [] B.locs
  simp at this
  unfold Bd.inl
  rw [hB]
  simp [this]
theorem qJ {P:W→Option Bd} {last:List St} {B:Bd} {cs:List Ca} (hB:B.blks=cZ 0 cs last) (hs:3≤B.locs.length):Lay P (B.inl P).blks last 0 cs:=by
  rw [(gH hB).1]
  refine qG cs (n:=cs.length+1) (s:=B.locs.length) hs (fun i b hb=>?_) fun i b hb=>?_
  · rw [Nat.zero_add,List.getElem?_append_left (List.getElem?_eq_some_iff.mp hb).1]; exact hb
  · rw [List.getElem?_append_right (by rw [iW]; exact Nat.le_add_right _ _),iW,show cs.length+1+i - (cs.length+1)=i by exact Nat.add_sub_cancel_left _ _]; exact hb
inductive Den (F:W→Int→List V→Int→Prop) (N:Nat) (last:List St):List Ca→Sto→List V→Sto→Prop
  | nil {σ τ ps}:σ.ws.length≤N→σ.al.length≤N→last.length≤N→σ.steps last=some (τ,ps)→Den F N last [] σ ps τ
  | cons {c cs σ τ υ ζ ps x qs r rs}:σ.ws.length≤N→σ.al.length≤N→c.rows.length≤N→σ.steps c.rows=some (τ,ps)→Below τ 3→τ.ws.length≤N→τ.al.length≤N→τ.val c.o=some (.i x)→F c.w x qs r→τ.set c.l c.j (.i r)=some υ→Den F N last cs υ rs ζ→Den F N last (c::cs) σ (ps++(qs++rs)) ζ
noncomputable def xH (F:Int→List V→Int→Prop) (N T:Nat) (K:Bd):Prop:=(∀ b ∈ K.blks,b.tm.isCall=false∧∀ t ∈ b.sts,cP t)∧∀ x ps r,F x ps r→∃ t τ P h,t≤T∧Seg P N h K.blks t 0 ⟨[(1,.i x)],[0,1]⟩ ps τ∧Done τ (.i r)
noncomputable def lx (P:W→Option Bd) (h:Nat) (F:Int→List V→Int→Prop) (K:Bd):Prop:=K.argc=1∧K.blks.length≤100∧∀ x ps r,F x ps r→∃ t,t≤60∧Run P h K.blks t 0 ⟨[(1,.i x)],[0,1]⟩ ps (.i r)
theorem xe {σ:Sto} {s s':Int} (h:Below σ s) (hs:s≤s'):Below σ s':=⟨fun x hx=>by have:=h.al x hx; exact Int.le_trans this hs,fun x hx=>by have:=h.ws x hx; exact Int.le_trans this hs⟩
theorem Jl {x:V}:NN ⟨[(1,x)],[0,1]⟩:=fun y hy=>by
  have:y=0∨y=1:=by simpa using hy
  omega
theorem lD {P P':W→Option Bd} {last:List St} {BS:List Blk} {F:W→Int→List V→Int→Prop} {N N1 N' h T:Nat} (hN:N+N1≤N') (hN3:N1+3≤N') (hN5:N+3≤N')
    (hin:∀ c K,bZ P c=some K→xH (F c.w) N1 T K) {k:Nat} {cs:List Ca} (L:Lay P BS last k cs):∀ {σ ζ:Sto} {ps:List V},(∀ c ∈ cs,bZ P c=none→∃ K,P' c.w=some K∧lx P' h (F c.w) K)→Den F N last cs σ ps ζ →
    ∃ t,t≤1+cs.length * (1+T)∧Seg P' N' (h+1) BS t k σ ps ζ:=by
  induction L with
  | nil hb =>
    intro σ ζ ps hrun D
    cases D with
    | nil h1 h2 h3 hst=>exact ⟨1,by simp,.ret (by rw [oY]; exact hb) (by exact ll hN h1) (by exact ll hN h2) (by exact ll hN h3) hst⟩
  | @keep k c cs hb hp _ ih =>
    intro σ ζ ps hrun D
    cases D with
    | cons h1 h2 h3 hst hlow h4 h5 ho hF hset D =>
      obtain ⟨t,ht,S⟩:=ih (fun c hc=>hrun c (.tail _ hc)) D
      obtain ⟨K,hK,k1,k2,k3⟩:=hrun c (.head _) hp
      obtain ⟨t',ht',R⟩:=k3 _ _ _ hF
      refine ⟨t+1,?_,.call (by rw [oY]; exact hb) (by exact ll hN h1) (by exact ll hN h2) (by exact ll hN h3) hst ho hK k1 k2 R ht' hset S⟩
      rw [List.length_cons,Nat.succ_mul]; omega
  | @put k c cs K s off hp hs hb hK _ ih =>
    intro σ ζ ps hrun D
    cases D with
    | @cons _ _ _ τ υ _ _ x _ r _ h1 h2 h3 hst hlow h4 h5 ho hF hset D =>
      obtain ⟨t,ht,S⟩:=ih (fun c hc=>hrun c (.tail _ hc)) D
      obtain ⟨k1,k2⟩:=hin c K hp
      obtain ⟨t',τ1,_,_,ht',R,hd⟩:=k2 _ _ _ hF
      have hcj:c.j=none:=by
        unfold bZ at hp
        cases hj:c.j with
        | none=>rfl
        | some j=>rw [hj] at hp; exact nS hp
      rw [hcj] at hset
      have hlow':Below τ s:=xe hlow (by exact IP hs)
      have B:=KD k1 hK hlow' (N':=N') (by exact lk hN h4) (by exact lk hN h5) hN3 hset S R Jl hd
      refine ⟨t'+t+1,?_,.goto (by rw [oY]; exact hb) (by exact ll hN h1) (by exact ll hN h2) (by simp [ea]; exact lk hN5 h3) (DK (N:=0) (N':=0) hst ho hlow') (by rw [Int.zero_add] at B; exact B)⟩
      rw [List.length_cons,Nat.succ_mul]; omega
end Mine.Internal
namespace Mine.Internal
noncomputable def aa:Dat:=.tup [dp,.bool true,.none]
noncomputable def hY:Dat:=.tup [.tup [.str .tuple_,.tup [dp,dp]],.bool true,.none]
set_option genCtorIdx false in
set_option genInjectivity false in
structure HD where
  c0:Int
  ops:List (W × Int)
  tw:Option Int
structure HD.OK (d:HD):Prop where
  len:d.ops.length≤2
  ops:∀ p ∈ d.ops,p.1=.plus_∨p.1=.xor_∨p.1=.lt_
noncomputable def EC (p:W × Int):St:=.assign 2 none (.bin p.1 (.copy 2 none) (.const p.2))
noncomputable def bS (d:HD):List St:=.live 2::.assign 2 none (.bin .plus_ (.copy 1 none) (.const d.c0))::d.ops.map EC
noncomputable def fN:List St:=[.assign 0 none (.use (.copy 2 none)),.dead 2]
noncomputable def iD:List St:=[.print (.copy 2 none),.assign 0 none (.use (.const 7)),.dead 2]
noncomputable def fE (d:HD):List Blk:=match d.tw with
  | none=>[⟨bS d++fN,.ret⟩]
  | some v=>[⟨bS d,.switch (.copy 1 none) v 1 2⟩,⟨fN,.ret⟩,⟨iD,.ret⟩]
noncomputable def au (d:HD):Bd:=⟨.h_,1,[aa,aa,aa],fE d⟩
noncomputable def E3 (y:Int) (p:W × Int):Int:=((FH p.1 y p.2).getD 0).fmod 256
noncomputable def oQ (d:HD) (x:Int):Int:=d.ops.foldl E3 ((x+d.c0).fmod 256)
noncomputable def HR (d:HD) (x:Int) (ps:List V) (r:Int):Prop:=match d.tw with
  | none=>ps=[]∧r=oQ d x
  | some v=>if v=x then ps=[]∧r=oQ d x else ps=[.i (oQ d x)]∧r=7
theorem o8 (d:HD) (x:Int):∃ ps r,HR d x ps r∧ps.length≤1:=by
  unfold HR
  cases d.tw with
  | none=>exact ⟨[],_,⟨rfl,rfl⟩,by simp⟩
  | some v =>
    dsimp only
    by_cases h:v=x
    · exact ⟨[],oQ d x,by rw [if_pos h]; exact ⟨rfl,rfl⟩,by simp⟩
    · exact ⟨[.i (oQ d x)],7,by rw [if_neg h]; exact ⟨rfl,rfl⟩,by simp⟩
theorem ry {x:Int}:∀ (ops:List (W × Int)) (y:Int),(∀ p ∈ ops,p.1=.plus_∨p.1=.xor_∨p.1=.lt_) →
    (⟨[(1,.i x),(2,.i y)],[0,1,2]⟩ : Sto).steps (ops.map EC)=some (⟨[(1,.i x),(2,.i (ops.foldl E3 y))],[0,1,2]⟩,[])
  | [],y,h=>rfl
  | (w,c)::r,y,h=>by
    have e1:(⟨[(1,.i x),(2,.i y)],[0,1,2]⟩ : Sto).step (EC (w,c))=some (⟨[(1,.i x),(2,.i (E3 y (w,c)))],[0,1,2]⟩,[]):=by
      rcases h (w,c) (.head _) with h | h | h <;> (dsimp only at h; subst h; rfl)
    rw [List.map_cons,ID,e1]
    unfold Option.bind
    dsimp only
    rw [ry r _ fun p hp=>h p (.tail _ hp)]
    rfl
theorem lh {d:HD} (h:d.OK) (x:Int):(⟨[(1,.i x)],[0,1]⟩ : Sto).steps (bS d)=some (⟨[(1,.i x),(2,.i (oQ d x))],[0,1,2]⟩,[]):=by
  have e1:(⟨[(1,.i x)],[0,1]⟩ : Sto).steps [.live 2,.assign 2 none (.bin .plus_ (.copy 1 none) (.const d.c0))]=some (⟨[(1,.i x),(2,.i ((x+d.c0).fmod 256))],[0,1,2]⟩,[]):=rfl
  exact k7 e1 (ry d.ops _ h.ops)
theorem og {x y:Int}:(⟨[(1,.i x),(2,.i y)],[0,1,2]⟩ : Sto).steps fN=some (⟨[(1,.i x),(0,.i y)],[0,1]⟩,[]):=rfl
theorem sM {x y:Int}:(⟨[(1,.i x),(2,.i y)],[0,1,2]⟩ : Sto).steps iD=some (⟨[(1,.i x),(0,.i 7)],[0,1]⟩,[.i y]):=rfl
theorem ra {x r:Int}:Done ⟨[(1,.i x),(0,.i r)],[0,1]⟩ (.i r):=⟨rfl,by simp,by simp,by simp⟩
theorem kK {d:HD} (h:d.OK):(bS d).length≤4:=by
  have:=h.len
  unfold bS; simp; exact this
theorem wh {P:W→Option Bd} {h:Nat} {d:HD} (hd:d.OK) {x r:Int} {ps:List V} (H:HR d x ps r):∃ t,t≤2∧Seg P 10 h (fE d) t 0 ⟨[(1,.i x)],[0,1]⟩ ps ⟨[(1,.i x),(0,.i r)],[0,1]⟩:=by
  have hl:=kK hd
  unfold HR at H
  unfold fE
  cases htw:d.tw with
  | none =>
    rw [htw] at H
    obtain ⟨rfl,rfl⟩:=H
    exact ⟨1,by exact Nat.le_add_left _ _,.ret rfl (by simp) (by simp) (by simp [fN]; exact lb hl rfl) (k7 (lh hd x) og)⟩
  | some v =>
    rw [htw] at H
    dsimp only at H
    refine ⟨2,by exact Nat.le_add_left _ _,?_⟩
    by_cases hv:v=x
    · rw [if_pos hv] at H
      obtain ⟨rfl,rfl⟩:=H
      refine .switch (t:=1) (ps:=[]) (qs:=[]) (x:=x) rfl (by simp) (by simp) (by exact lb hl rfl) (lh hd x) rfl ?_
      rw [if_pos hv]
      exact .ret rfl (by simp) (by simp) (by simp [fN]) og
    · rw [if_neg hv] at H
      obtain ⟨rfl,rfl⟩:=H
      refine .switch (t:=1) (ps:=[]) (qs:=[.i (oQ d x)]) (x:=x) rfl (by simp) (by simp) (by exact lb hl rfl) (lh hd x) rfl ?_
      rw [if_neg hv]
      exact .ret rfl (by simp) (by simp) (by simp [iD]) sM
theorem mF (d:HD):∀ b ∈ fE d,b.tm.isCall=false:=by
  unfold fE
  cases d.tw <;> simp [Cb,IQ,IE,Iz]
theorem pW {d:HD}:∀ t ∈ bS d,cP t:=by
  unfold bS
  intro t ht
  rcases List.mem_cons.mp ht with rfl | ht
  · show (0:Int)≤2; decide
  · rcases List.mem_cons.mp ht with rfl | ht
    · exact trivial
    · refine xe1 (List.mem_map.mp ht) fun p r_=>aO r_ fun Z e2_=>?_
      subst e2_
      exact trivial
theorem tV (d:HD):∀ b ∈ fE d,∀ t ∈ b.sts,cP t:=by
  unfold fE
  cases d.tw with
  | none =>
    intro b hb t ht
    rw [List.mem_singleton] at hb; subst hb
    rcases List.mem_append.mp ht with ht | ht
    · exact pW t ht
    · have:t=.assign 0 none (.use (.copy 2 none))∨t=.dead 2:=by simpa [fN] using ht
      rcases this with rfl | rfl <;> exact trivial
  | some v =>
    intro b hb t ht
    have hb:b=⟨bS d,.switch (.copy 1 none) v 1 2⟩∨b=⟨fN,.ret⟩∨b=⟨iD,.ret⟩:=by simpa using hb
    rcases hb with rfl | rfl | rfl
    · exact pW t ht
    · have:t=.assign 0 none (.use (.copy 2 none))∨t=.dead 2:=by simpa [fN] using ht
      rcases this with rfl | rfl <;> exact trivial
    · have:t=.print (.copy 2 none)∨t=.assign 0 none (.use (.const 7))∨t=.dead 2:=by simpa [iD] using ht
      rcases this with rfl | rfl | rfl <;> exact trivial
theorem wb {d:HD} (hd:d.OK):∀ b ∈ fE d,b.sts.length≤6:=by
  have hl:=kK hd
  unfold fE
  cases d.tw <;> simp [fN,iD] <;> omega
theorem mI {d:HD}:(fE d).length≤3:=by unfold fE; cases d.tw <;> simp
theorem wg {d:HD} (hd:d.OK):iK (fE d)≤12:=by
  have hl:=kK hd
  unfold fE
  cases d.tw <;> simp [vP,vm,fN,iD] <;> omega
theorem xi {d:HD} (hd:d.OK):xH (HR d) 10 2 (au d) :=
  ⟨fun b hb=>⟨mF d b hb,tV d b hb⟩,fun x ps r H=>by
    refine xe1 (wh (P:=fun Z=>none) (h:=0) hd H) fun t r_=>aO r_ fun ht S=>?_
    exact ⟨t,_,_,_,ht,S,ra⟩⟩
theorem zP {P:W→Option Bd} {h:Nat} {d:HD} (hd:d.OK):lx P h (HR d) (au d) :=
  ⟨rfl,Nat.le_trans mI (by decide),fun x ps r H=>by
    refine xe1 (wh (P:=P) (h:=h) hd H) fun t r_=>aO r_ fun ht S=>?_
    exact ⟨t,by exact lb r_.1 rfl,S.run (by decide) rfl⟩⟩
noncomputable def fQ (two:Bool):List Ca:=⟨[.live 2],.h_,.copy 1 none,2,none⟩::if two then [⟨[.assign 2 none (.bin .plus_ (.copy 2 none) (.copy 1 none))],.h_,.copy 2 none,2,none⟩] else []
noncomputable def gLast:List St:=[.assign 0 none (.bin .xor_ (.copy 2 none) (.copy 1 none)),.dead 2]
noncomputable def be (two:Bool):Bd:=⟨.g_,1,[aa,aa,aa],cZ 0 (fQ two) gLast⟩
noncomputable def GR (d:HD) (two:Bool) (x:Int) (ps:List V) (r:Int):Prop:=ps.length≤2∧Den (fun Z=>HR d) 10 gLast (fQ two) ⟨[(1,.i x)],[0,1]⟩ ps ⟨[(1,.i x),(0,.i r)],[0,1]⟩
theorem pE {σ:Sto} (h1:∀ x ∈ σ.al,x < 3) (h2:∀ kv ∈ σ.ws,kv.1 < 3):Below σ 3:=⟨h1,h2⟩
theorem Ap (d:HD) (two:Bool) (x:Int):∃ ps r,GR d two x ps r:=by
  refine xe2 (o8 d x) fun ps r r_=>aO r_ fun H hl=>?_
  have hend:∀ r:Int,(⟨[(1,.i x),(2,.i r)],[0,1,2]⟩ : Sto).steps gLast=some (⟨[(1,.i x),(0,.i ((PySem.Builtin.bitXor r x).fmod 256))],[0,1]⟩,[]):=fun r=>rfl
  cases two with
  | false =>
    refine ⟨[]++(ps++[]),_,by simp; exact lb r_.2 rfl,.cons (τ:=⟨[(1,.i x)],[0,1,2]⟩) (by simp) (by simp) (by simp) rfl (pE (by simp) (by simp)) (by simp) (by simp) rfl H rfl (.nil (by simp [cj]) (by simp) (by simp [gLast]) (hend r))⟩
  | true =>
    refine xe2 (o8 d ((r+x).fmod 256)) fun qs r' r_=>aO r_ fun H' hl'=>?_
    refine ⟨[]++(ps++([]++(qs++[]))),_,by simp; exact lm hl r_.2 rfl,.cons (τ:=⟨[(1,.i x)],[0,1,2]⟩) (by simp) (by simp) (by simp) rfl (pE (by simp) (by simp)) (by simp) (by simp) rfl H rfl (.cons (τ:=⟨[(1,.i x),(2,.i ((r+x).fmod 256))],[0,1,2]⟩) (by simp [cj]) (by simp) (by simp) rfl (pE (by simp) (by simp)) (by simp) (by simp) rfl H' rfl (.nil (by simp [cj]) (by simp) (by simp [gLast]) (hend r')))⟩
theorem ka {two:Bool}:(fQ two).length≤2:=by cases two <;> simp [fQ]
theorem sB {two:Bool}:∀ c ∈ fQ two,c.w=.h_∧c.j=none∧c.rows.length=1:=by cases two <;> simp [fQ]
theorem zU {P:W→Option Bd} {h:Nat} {d:HD} {two:Bool} (hd:d.OK) (hP:P .h_=some (au d)):lx P (h+1) (GR d two) (be two):=by
  have hl:=ka (two:=two)
  refine ⟨rfl,by show (cZ 0 (fQ two) gLast).length≤100; rw [ie]; exact la hl rfl,fun x ps r H=>?_⟩
  have L:Lay (fun Z=>none) (cZ 0 (fQ two) gLast) gLast 0 (fQ two):=nw _ fun i b hb=>by rw [Nat.zero_add]; exact hb
  obtain ⟨t,ht,S⟩:=lD (P':=P) (F:=fun Z=>HR d) (N:=10) (N1:=10) (N':=20) (h:=h) (T:=0) (by decide) (by decide) (by decide) (fun c K hp=>by unfold bZ at hp; cases hj:c.j <;> rw [hj] at hp <;> exact nS hp) L (fun c hc Z=>⟨au d,by rw [(sB c hc).1]; exact hP,zP hd⟩) H.2
  exact ⟨t,by omega,S.run (by decide) rfl⟩
noncomputable def Ph (d:HD):W→Option Bd:=fun w=>if w=.h_ then some (au d) else none
noncomputable def bp (d:HD) (two:Bool):Bd:=(be two).inl (Ph d)
theorem HS (d:HD) (two:Bool):Lay (Ph d) (bp d two).blks gLast 0 (fQ two):=qJ (B:=be two) rfl (by show 3≤3; decide)
theorem yb {d:HD} {two:Bool}:∀ c ∈ fQ two,bZ (Ph d) c=some (au d):=fun c hc=>by
  refine gF (sB c hc) fun h1 h2 Z=>?_
  unfold bZ Ph
  rw [h2,h1]; rfl
theorem BT {P:W→Option Bd} {h:Nat} {d:HD} {two:Bool} (hd:d.OK) {x r:Int} {ps:List V} (H:GR d two x ps r):∃ t,t≤7∧Seg P 20 (h+1) (bp d two).blks t 0 ⟨[(1,.i x)],[0,1]⟩ ps ⟨[(1,.i x),(0,.i r)],[0,1]⟩:=by
  have hl:=ka (two:=two)
  obtain ⟨t,ht,S⟩:=lD (P':=P) (F:=fun Z=>HR d) (N:=10) (N1:=10) (N':=20) (h:=h) (T:=2) (by decide) (by decide) (by decide) (fun c K hp=>by
    unfold bZ at hp
    cases hj:c.j <;> rw [hj] at hp
    · dsimp only [Ph] at hp
      split at hp <;> cases hp
      exact xi hd
    · exact nS hp) (HS d two) (fun c hc hp=>by rw [yb c hc] at hp; exact nS hp.symm) H.2
  exact ⟨t,by have:=Nat.mul_le_mul_right (1+2) hl; omega,S⟩
structure Fine (M:Nat) (l:List Blk):Prop where
  nc:∀ b ∈ l,b.tm.isCall=false
  lv:∀ b ∈ l,∀ t ∈ b.sts,cP t
  len:∀ b ∈ l,b.sts.length≤M
theorem Dw {s:Int} (hs:0≤s) {t:St} (h:cP t):cP (t.mv s):=by
  cases t with
  | live l=>have:0≤l:=h; show 0≤l+s; exact inr hs this
  | _=>trivial
theorem xg {s off l nx:Int} (hs:0≤s) {b:Blk} (h1:b.tm.isCall=false) (h2:∀ t ∈ b.sts,cP t):(cK s off l nx b).tm.isCall=false∧(∀ t ∈ (cK s off l nx b).sts,cP t)∧(cK s off l nx b).sts.length≤b.sts.length+3:=by
  have hm:∀ t ∈ b.sts.map (St.mv s),cP t:=fun t ht=>by
    refine xe1 (List.mem_map.mp ht) fun t' r_=>aO r_ fun h e2_=>?_
    subst e2_
    exact Dw hs (h2 t' h)
  unfold cK
  cases hb:b.tm with
  | ret =>
    refine ⟨rfl,fun t ht=>?_,by simp⟩
    rcases List.mem_append.mp ht with ht | ht
    · exact hm t ht
    · have:t=.assign l none (.use (.move s))∨t=.dead (s+1)∨t=.dead s:=by simpa using ht
      rcases this with rfl | rfl | rfl <;> exact trivial
  | goto n=>exact ⟨rfl,hm,by simp⟩
  | switch o v a b=>exact ⟨rfl,hm,by simp⟩
  | call w o l j n=>rw [hb] at h1; cases h1
theorem mw {P:W→Option Bd} {last:List St} {M:Nat} (hP:∀ c K,bZ P c=some K→Fine M K.blks) (hl:last.length≤M+3∧∀ t ∈ last,cP t):∀ (cs:List Ca) {n s k:Nat},(∀ c ∈ cs,c.rows.length≤M∧∀ t ∈ c.rows,cP t) →
    Fine (M+3) (fj P last n s k cs).new∧((∀ c ∈ cs,bZ P c ≠ none)→Fine (M+3) (fj P last n s k cs).mid)
  | [],n,s,k,h=>⟨⟨by simp [s5],by simp [s5],by simp [s5]⟩,fun Z=>⟨by simp [s5,Cb],fun b hb=>by
      have hb:b=⟨last,.ret⟩:=by simpa [s5] using hb
      subst hb; exact hl.2,fun b hb=>by
      have hb:b=⟨last,.ret⟩:=by simpa [s5] using hb
      subst hb; exact hl.1⟩⟩
  | c::cs,n,s,k,h=>by
    rw [rE]
    obtain ⟨c1,c2⟩:=h c (.head _)
    cases hp:bZ P c with
    | none =>
      dsimp only
      exact ⟨(mw hP hl cs fun c hc=>h c (.tail _ hc)).1,fun hn=>absurd hp (hn c (.head _))⟩
    | some K =>
      dsimp only
      obtain ⟨i1,i2⟩:=mw hP hl cs (n:=n+K.blks.length) (s:=s+K.locs.length) (k:=k+1) fun c hc=>h c (.tail _ hc)
      have hK:=hP c K hp
      have hm:∀ b ∈ K.blks.map (cK s n c.l ((k+1:Nat):Int)),b.tm.isCall=false∧(∀ t ∈ b.sts,cP t)∧b.sts.length≤M+3:=fun b hb=>by
        refine xe1 (List.mem_map.mp hb) fun b' r_=>aO r_ fun hb' e2_=>?_
        subst e2_
        refine gF (xg (s:=s) (off:=n) (l:=c.l) (nx:=((k+1:Nat):Int)) (by exact iz _) (hK.nc b' hb') (hK.lv b' hb')) fun g1 g2 g3=>?_
        have:=hK.len b' hb'
        exact ⟨g1,g2,by omega⟩
      refine ⟨⟨fun b hb=>?_,fun b hb=>?_,fun b hb=>?_⟩,fun hn=>?_⟩
      · rcases List.mem_append.mp hb with hb | hb
        · exact (hm b hb).1
        · exact i1.nc b hb
      · rcases List.mem_append.mp hb with hb | hb
        · exact (hm b hb).2.1
        · exact i1.lv b hb
      · rcases List.mem_append.mp hb with hb | hb
        · exact (hm b hb).2.2
        · exact i1.len b hb
      · have i3:=i2 fun c hc=>hn c (.tail _ hc)
        have hbeg:∀ t ∈ ea s c.rows c.o,cP t:=fun t ht=>by
          rcases List.mem_append.mp ht with ht | ht
          · exact c2 t ht
          · have:t=.live s∨t=.live (s+1)∨t=.assign (s+1) none (.use c.o):=by simpa using ht
            rcases this with rfl | rfl | rfl
            · show (0:Int)≤s; exact iz _
            · show (0:Int)≤s+1; exact iz _
            · trivial
        refine ⟨fun b hb=>?_,fun b hb=>?_,fun b hb=>?_⟩
        · rcases List.mem_cons.mp hb with rfl | hb
          · rfl
          · exact i3.nc b hb
        · rcases List.mem_cons.mp hb with rfl | hb
          · exact hbeg
          · exact i3.lv b hb
        · rcases List.mem_cons.mp hb with rfl | hb
          · show (ea s c.rows c.o).length≤M+3
            unfold ea; simp; exact c1
          · exact i3.len b hb
end Mine.Internal
namespace Mine.Internal
theorem GD {d:HD} (hd:d.OK):Fine 6 (fE d):=⟨mF d,tV d,wb hd⟩
theorem uK {two:Bool}:∀ c ∈ fQ two,c.rows.length≤6∧∀ t ∈ c.rows,cP t:=by
  cases two <;> simp [fQ,Cy,Cc,yu,Cd]
theorem wV:gLast.length≤6+3∧∀ t ∈ gLast,cP t:=by simp [gLast,Cy,Cc,yu,Cd]
noncomputable def li (l:List Nat):Nat:=l.foldr (· + ·) 0
theorem lT {P:W→Option Bd} {last:List St}:∀ {cs:List Ca} {n s k:Nat},(fj P last n s k cs).new.length=li ((cs.filterMap (bZ P)).map fun K=>K.blks.length)
  | [],_,_,_=>rfl
  | c::cs,n,s,k=>by
    rw [rE]
    rw [List.filterMap_cons]
    cases bZ P c with
    | none=>exact lT
    | some K=>dsimp only; rw [List.length_append,List.length_map,lT]; rfl
theorem ki {P:W→Option Bd} {last:List St}:∀ {cs:List Ca} {n s k:Nat},(fj P last n s k cs).locs.length=li ((cs.filterMap (bZ P)).map fun K=>K.locs.length)
  | [],_,_,_=>rfl
  | c::cs,n,s,k=>by
    rw [rE]
    rw [List.filterMap_cons]
    cases bZ P c with
    | none=>exact ki
    | some K=>dsimp only; rw [List.length_append,ki]; rfl
noncomputable def Blk.callee (b:Blk):Option W:=match b.tm with
  | .call w .. => some w
  | _=>none
noncomputable def cA (l:List Blk):List W:=l.filterMap Blk.callee
theorem uL {b:Blk} (h:b.tm.isCall=false):b.callee=none:=by
  unfold Blk.callee
  cases hb:b.tm with
  | call w o l j n=>rw [hb] at h; cases h
  | _=>rfl
theorem oE {l:List Blk} (h:∀ b ∈ l,b.tm.isCall=false):cA l=[]:=by
  unfold cA
  rw [List.filterMap_eq_nil_iff]
  exact fun b hb=>uL (h b hb)
theorem mM {P:W→Option Bd} {last:List St}:∀ {cs:List Ca} {n s k:Nat},cA (fj P last n s k cs).mid=(cs.filter fun c=>(bZ P c).isNone).map (·.w)
  | [],_,_,_=>rfl
  | c::cs,n,s,k=>by
    rw [rE]
    rw [List.filter_cons]
    cases bZ P c with
    | none =>
      dsimp only
      unfold cA
      rw [List.filterMap_cons]
      have ih:=mM (P:=P) (last:=last) (cs:=cs) (n:=n) (s:=s) (k:=k+1)
      unfold cA at ih
      simp [Blk.callee,ih]
    | some K =>
      dsimp only
      unfold cA
      rw [List.filterMap_cons]
      have ih:=mM (P:=P) (last:=last) (cs:=cs) (n:=n+K.blks.length) (s:=s+K.locs.length) (k:=k+1)
      unfold cA at ih
      simp [Blk.callee,ih]
theorem vE {d:HD} (hd:d.OK):∀ c K,bZ (Ph d) c=some K→Fine 6 K.blks:=fun c K hp=>by
  unfold bZ at hp
  cases hj:c.j <;> rw [hj] at hp
  · dsimp only [Ph] at hp
    split at hp <;> cases hp
    exact GD hd
  · exact nS hp
theorem AW {M:Nat} {a b:List Blk} (h1:Fine M a) (h2:Fine M b):Fine M (a++b) :=
  ⟨fun x hx=>(List.mem_append.mp hx).elim (h1.nc x) (h2.nc x),fun x hx=>(List.mem_append.mp hx).elim (h1.lv x) (h2.lv x),fun x hx=>(List.mem_append.mp hx).elim (h1.len x) (h2.len x)⟩
theorem j4 {d:HD} {two:Bool} (hd:d.OK):Fine 9 (bp d two).blks:=by
  unfold bp
  rw [(gH (B:=be two) (P:=Ph d) rfl).1]
  refine aO (mw (M:=6) (P:=Ph d) (last:=gLast) (vE hd) wV (fQ two) (n:=(fQ two).length+1) (s:=(be two).locs.length) (k:=0) uK) fun i1 i2=>?_
  exact AW (i2 fun c hc=>by rw [yb c hc]; simp) i1
theorem kz {P:W→Option Bd} {f:Bd→Nat} {m:Nat} (h:∀ c K,bZ P c=some K→f K≤m):∀ (cs:List Ca),li ((cs.filterMap (bZ P)).map f)≤cs.length * m
  | []=>by simp [li]
  | c::cs=>by
    have ih:=kz h cs
    rw [List.filterMap_cons,List.length_cons,Nat.succ_mul]
    cases hp:bZ P c with
    | none=>dsimp only; exact ls ih
    | some K =>
      dsimp only
      have:=h c K hp
      rw [List.map_cons]
      show f K+li _≤_
      omega
theorem qZ {d:HD}:∀ c K,bZ (Ph d) c=some K→K.blks.length≤3∧K.locs.length≤3:=fun c K hp=>by
  unfold bZ at hp
  cases hj:c.j <;> rw [hj] at hp
  · dsimp only [Ph] at hp
    split at hp <;> cases hp
    exact ⟨mI,Nat.le_refl 3⟩
  · exact nS hp
theorem lC {d:HD} {two:Bool}:(bp d two).blks.length≤9:=by
  unfold bp
  rw [(gH (B:=be two) (P:=Ph d) rfl).1,List.length_append,iW,lT]
  have h1:=ka (two:=two)
  have:=kz (f:=fun K=>K.blks.length) (fun c K h=>(qZ (d:=d) c K h).1) (fQ two)
  have:(fQ two).length * 3≤2 * 3:=Nat.mul_le_mul_right _ h1
  omega
theorem uk {d:HD} {two:Bool}:(bp d two).locs.length≤9:=by
  unfold bp
  rw [(gH (B:=be two) (P:=Ph d) rfl).2,List.length_append,ki]
  have h1:=ka (two:=two)
  have:=kz (f:=fun K=>K.locs.length) (fun c K h=>(qZ (d:=d) c K h).2) (fQ two)
  have:(fQ two).length * 3≤2 * 3:=Nat.mul_le_mul_right _ h1
  have:(be two).locs.length=3:=rfl
  omega
theorem zH {M:Nat}:∀ {l:List Blk},(∀ b ∈ l,b.sts.length≤M)→iK l≤l.length * (M+1)
  | [],_=>by simp [vP]
  | b::r,h=>by
    have ih:=zH fun x hx=>h x (List.mem_cons_of_mem b hx)
    have:=h b (.head _)
    rw [vm,List.length_cons,Nat.succ_mul]; omega
theorem HI {d:HD} {two:Bool} (hd:d.OK):iK (bp d two).blks≤90:=by
  have h1:=zH (j4 (two:=two) hd).len
  have h2:=lC (d:=d) (two:=two)
  have:(bp d two).blks.length * (9+1)≤9 * (9+1):=Nat.mul_le_mul_right _ h2
  exact vo this h1 rfl
theorem DI {d:HD} {two:Bool} (hd:d.OK):Small (bp d two) :=
  ⟨rfl,fun b hb=>⟨(j4 hd).nc b hb,Nat.le_trans ((j4 hd).len b hb) (by decide)⟩,Nat.le_trans lC (by decide),Nat.le_trans uk (by decide)⟩
theorem qQ {d:HD} (hd:d.OK):Small (au d) :=
  ⟨rfl,fun b hb=>⟨mF d b hb,Nat.le_trans (wb hd b hb) (by decide)⟩,Nat.le_trans mI (by decide),by show 3≤20; decide⟩
theorem Jk {d:HD} {two:Bool} (hd:d.OK):xH (GR d two) 20 7 (bp d two) :=
  ⟨fun b hb=>⟨(j4 hd).nc b hb,(j4 hd).lv b hb⟩,fun x ps r H=>by
    refine xe1 (BT (P:=fun Z=>none) (h:=0) hd H) fun t r_=>aO r_ fun ht S=>?_
    exact ⟨t,_,_,_,ht,S,ra⟩⟩
theorem FT {P:W→Option Bd} {h:Nat} {d:HD} {two:Bool} (hd:d.OK):lx P (h+1) (GR d two) (bp d two) :=
  ⟨rfl,Nat.le_trans lC (by decide),fun x ps r H=>by
    refine xe1 (BT (P:=P) (h:=h) hd H) fun t r_=>aO r_ fun ht S=>?_
    exact ⟨t,by exact lb r_.1 rfl,S.run (by decide) rfl⟩⟩
set_option genCtorIdx false in
set_option genInjectivity false in
structure MD where
  nm:W
  part:Bool
  o:Op
structure MD.OK (m:MD):Prop where
  nm:m.nm=.h_∨m.nm=.g_
  o:m.o=.copy 1 none∨m.o=.const 3∨m.o=.copy 2 (some 1)
noncomputable def bA (c0:Int):List St:=[.live 1,.live 2,.assign 1 none (.use (.const c0)),.assign 2 none (.tup (.copy 1 none) (.const 5))]
noncomputable def mRowsN:List St:=[.print (.copy 1 none),.print (.copy 2 (some 0))]
noncomputable def mEnd:List St:=[.assign 0 none (.use (.copy 1 none)),.dead 1,.dead 2]
noncomputable def oG (rows:List St) (m:MD):Ca:=⟨rows,m.nm,m.o,if m.part then 2 else 1,if m.part then some 0 else none⟩
noncomputable def dC (rows:List St):List MD→List Ca
  | []=>[]
  | m::r=>oG rows m::dC mRowsN r
theorem zz {rows:List St} {m:MD} {r:List MD}:dC rows (m::r)=oG rows m::dC mRowsN r:=rfl
noncomputable def aK (c0:Int) (ms:List MD):Bd:=⟨.main_,0,[aa,aa,hY],cZ 0 (dC (bA c0) ms) (mRowsN++mEnd)⟩
theorem hV:∀ {ms:List MD} {rows:List St},(dC rows ms).length=ms.length
  | [],_=>rfl
  | m::r,_=>by rw [zz,List.length_cons,hV,List.length_cons]
noncomputable def F (d:HD) (two:Bool) (w:W):Int→List V→Int→Prop:=if w=.g_ then GR d two else HR d
theorem vJ (d:HD) (two:Bool) (w:W) (x:Int):∃ ps r,F d two w x ps r∧ps.length≤2:=by
  unfold F
  by_cases h:w=.g_
  · rw [if_pos h]
    refine xe2 (Ap d two x) fun ps r H=>?_
    exact ⟨ps,r,H,H.1⟩
  · rw [if_neg h]
    refine xe2 (o8 d x) fun ps r r_=>aO r_ fun H hl=>?_
    exact ⟨ps,r,H,by exact lb r_.2 rfl⟩
noncomputable def U (a b c:Int):Sto:=⟨[(1,.i a),(2,.p b c)],[0,1,2]⟩
theorem yk {m:MD} (hm:m.OK) (a b c:Int):(∃ x,(U a b c).val m.o=some (.i x))∧∀ r,∃ a' b' c',(U a b c).set (if m.part then 2 else 1) (if m.part then some 0 else none) (.i r)=some (U a' b' c'):=by
  constructor
  · rcases hm.o with h | h | h <;> rw [h]
    · exact ⟨a,rfl⟩
    · exact ⟨3,rfl⟩
    · exact ⟨c,rfl⟩
  · intro r
    cases m.part
    · exact ⟨r,b,c,rfl⟩
    · exact ⟨a,r,c,rfl⟩
theorem uZ {a b c:Int}:Below (U a b c) 3:=pE (by simp [U]) (by simp [U])
theorem CD (d:HD) (two:Bool):∀ (ms:List MD) (a b c:Int),(∀ m ∈ ms,m.OK)→∃ ps z,Den (F d two) 10 (mRowsN++mEnd) (dC mRowsN ms) (U a b c) ps ⟨[(0,.i z)],[0]⟩∧ps.length≤2+4 * ms.length
  | [],a,b,c,h=>⟨[.i a,.i b],a,.nil (by simp [U]) (by simp [U]) (by simp [mRowsN,mEnd]) rfl,by simp⟩
  | m::r,a,b,c,h=>by
    refine aO (yk (h m (.head _)) a b c) fun q0_ hs=>?_
    obtain ⟨x,hx⟩:=q0_
    refine xe2 (vJ d two m.nm x) fun qs y r_=>aO r_ fun hF hl=>?_
    obtain ⟨a',b',c',hset⟩:=hs y
    obtain ⟨ps,z,D,hl2⟩:=CD d two r a' b' c' fun m hm=>h m (.tail _ hm)
    exact ⟨[.i a,.i b]++(qs++ps),z,.cons (τ:=U a b c) (by simp [U]) (by simp [U]) (by simp [oG,mRowsN]) rfl uZ (by simp [U]) (by simp [U]) hx hF hset D,by simp; omega⟩
theorem FA (d:HD) (two:Bool) (c0:Int) {ms:List MD} (h0:ms ≠ []) (h:∀ m ∈ ms,m.OK):∃ ps z,Den (F d two) 10 (mRowsN++mEnd) (dC (bA c0) ms) ⟨[],[0]⟩ ps ⟨[(0,.i z)],[0]⟩∧ps.length≤2+4 * ms.length:=by
  cases ms with
  | nil=>exact absurd rfl h0
  | cons m r =>
    refine aO (yk (h m (.head _)) c0 c0 5) fun q0_ hs=>?_
    obtain ⟨x,hx⟩:=q0_
    refine xe2 (vJ d two m.nm x) fun qs y r_=>aO r_ fun hF hl=>?_
    obtain ⟨a',b',c',hset⟩:=hs y
    refine xe2 (CD d two r a' b' c' fun m hm=>h m (.tail _ hm)) fun ps z r_=>aO r_ fun D hl2=>?_
    exact ⟨[]++(qs++ps),z,.cons (τ:=U c0 c0 5) (by simp) (by simp) (by simp [oG,bA]) rfl uZ (by simp [U]) (by simp [U]) hx hF hset D,by simp; omega⟩
noncomputable def B2 (a b:Bd):W→Option Bd:=fun w=>if w=.h_ then some a else if w=.g_ then some b else none
theorem qK {c:Ca}:∀ (ms:List MD) {rows:List St},c ∈ dC rows ms→∃ m ∈ ms,∃ rows',(rows'=rows∨rows'=mRowsN)∧c=oG rows' m:=fun ms=>by
  induction ms with
  | nil=>intro rows h; exact absurd h List.not_mem_nil
  | cons m r ih =>
    intro rows h
    rcases List.mem_cons.mp h with rfl | h
    · exact ⟨m,.head _,rows,.inl rfl,rfl⟩
    · obtain ⟨m',hm,rows',hr,e⟩:=ih h
      exact ⟨m',.tail _ hm,rows',.inr (hr.elim id id),e⟩
theorem tF {d:HD} {two:Bool} (hd:d.OK) {g:Bd} (hg:lx (B2 (au d) g) 1 (GR d two) g) {w:W} (hw:w=.h_∨w=.g_):∃ K,B2 (au d) g w=some K∧lx (B2 (au d) g) 1 (F d two w) K:=by
  rcases hw with rfl | rfl
  · exact ⟨au d,rfl,zP hd⟩
  · exact ⟨g,rfl,hg⟩
theorem EX {d:HD} {two:Bool} (hd:d.OK) {c0:Int} {ms:List MD} (h0:ms ≠ []) (h:∀ m ∈ ms,m.OK) (hl:ms.length≤3):∃ ps z t t1 t2,ps.length≤50∧t≤60∧t1≤60∧t2≤60 ∧
    Run (B2 (au d) (be two)) 2 (aK c0 ms).blks t 0 ⟨[],[0]⟩ ps (.i z) ∧
    Run (B2 (au d) (be two)) 2 ((aK c0 ms).inl (Ph d)).blks t1 0 ⟨[],[0]⟩ ps (.i z) ∧
    Run (B2 (au d) (bp d two)) 2 ((aK c0 ms).inl (B2 (au d) (bp d two))).blks t2 0 ⟨[],[0]⟩ ps (.i z):=by
  refine xe2 (FA d two c0 h0 h) fun ps z r_=>aO r_ fun D hps=>?_
  have hml:=hV (ms:=ms) (rows:=bA c0)
  have hw:∀ c ∈ dC (bA c0) ms,c.w=.h_∨c.w=.g_:=fun c hc=>by
    refine xe1 (qK _ hc) fun m r_=>aO r_ fun hm r_=>xe1 r_ fun rows r_=>aO r_ fun Z e4_=>?_
    subst e4_
    exact (h m hm).nm
  have L0:Lay (fun Z=>none) (cZ 0 (dC (bA c0) ms) (mRowsN++mEnd)) (mRowsN++mEnd) 0 (dC (bA c0) ms):=nw _ fun i b hb=>by rw [Nat.zero_add]; exact hb
  have L1:Lay (Ph d) ((aK c0 ms).inl (Ph d)).blks (mRowsN++mEnd) 0 (dC (bA c0) ms):=qJ rfl (Nat.le_refl 3)
  have L2:Lay (B2 (au d) (bp d two)) ((aK c0 ms).inl (B2 (au d) (bp d two))).blks (mRowsN++mEnd) 0 (dC (bA c0) ms):=qJ rfl (Nat.le_refl 3)
  obtain ⟨t,ht,S⟩:=lD (P':=B2 (au d) (be two)) (F:=F d two) (N:=10) (N1:=20) (N':=40) (h:=1) (T:=7) (by decide) (by decide) (by decide) (fun c K hp=>by unfold bZ at hp; cases hj:c.j <;> rw [hj] at hp <;> exact nS hp) L0 (fun c hc Z=>tF hd (zU hd rfl) (hw c hc)) D
  obtain ⟨t1,ht1,S1⟩:=lD (P':=B2 (au d) (be two)) (F:=F d two) (N:=10) (N1:=10) (N':=40) (h:=1) (T:=7) (by decide) (by decide) (by decide) (fun c K hp=>by
    unfold bZ at hp
    cases hj:c.j <;> rw [hj] at hp
    · dsimp only [Ph] at hp
      split at hp
      · rename_i hc
        (replace hp:=iS hp; subst hp)
        have:F d two c.w=HR d:=by unfold F; rw [hc]; rfl
        rw [this]
        exact ⟨(xi hd).1,fun x ps r H=>by
          refine xe4 ((xi hd).2 x ps r H) fun t τ P h r_=>gF r_ fun ht S D=>?_
          exact ⟨t,τ,P,h,by exact lb r_.1 rfl,S,D⟩⟩
      · exact nS hp
    · exact nS hp) L1 (fun c hc Z=>tF hd (zU hd rfl) (hw c hc)) D
  have h20:xH (HR d) 20 7 (au d):=⟨(xi hd).1,fun x ps r H=>by
    refine xe1 (wh (P:=fun Z=>none) (h:=0) hd H) fun t r_=>aO r_ fun ht S=>?_
    exact ⟨t,_,_,_,by exact lb r_.1 rfl,S.mono (by decide),ra⟩⟩
  obtain ⟨t2,ht2,S2⟩:=lD (P':=B2 (au d) (bp d two)) (F:=F d two) (N:=10) (N1:=20) (N':=40) (h:=1) (T:=7) (by decide) (by decide) (by decide) (fun c K hp=>by
    unfold bZ at hp
    cases hj:c.j <;> rw [hj] at hp
    · dsimp only [B2] at hp
      split at hp
      · rename_i hc
        (replace hp:=iS hp; subst hp)
        have:F d two c.w=HR d:=by unfold F; rw [hc]; rfl
        rw [this]; exact h20
      · split at hp
        · rename_i hc
          (replace hp:=iS hp; subst hp)
          have:F d two c.w=GR d two:=by unfold F; rw [hc]; rfl
          rw [this]; exact Jk hd
        · exact nS hp
    · exact nS hp) L2 (fun c hc Z=>tF hd (FT hd) (hw c hc)) D
  rw [hml] at ht ht1 ht2
  exact ⟨ps,z,t,t1,t2,by omega,by exact Fj hl hml ht rfl,by exact Fj hl hml ht1 rfl,by exact Fj hl hml ht2 rfl,S.run (by decide) rfl,S1.run (by decide) rfl,S2.run (by decide) rfl⟩
end Mine.Internal
namespace Mine.Internal
theorem vy {k:Nat} {xs:List Int}:MObj.okB k (.list (xs.map fun x=>.d (.int x)))=true:=by
  show (xs.map fun x=>Val.d (.int x)).all _=true
  simp [pH]
theorem nE {mu:Mu} {i:Nat} {c:MObj} (h:WFm mu) (hc:c.okB mu.length=true):WFm (mu.set i c):=by
  unfold WFm at h ⊢
  rw [List.length_set]
  refine List.all_eq_true.mpr fun m hm=>?_
  rcases List.mem_or_eq_of_mem_set hm with h1 | rfl
  · exact List.all_eq_true.mp h m h1
  · exact hc
inductive SrcX (base:Mu) (s:Nat):Prop
  | mk (a b:Int) (k:Nat) (xs:List Int):base[s]? = some (.list [.d (.int a),.d (.int b),.r k])→base[k]? = some (.list (xs.map fun x=>.d (.int x)))→k ≠ s∧xs.length≤100→SrcX base s
structure Src (N:Nat) (base:Mu) (s:Nat):Prop where
  len:base.length=N
  wf:WFm base
  src:SrcX base s
noncomputable def gh (N:Nat) (r:List MObj):Prop:=r.all (MObj.okB (N+r.length))=true
theorem Src.app {N s:Nat} {base r:List MObj} (h:Src N base s) (hr:gh N r):WFm (base++r):=by
  refine h.wf.app ?_
  rw [List.length_append,h.len]; exact hr
theorem Src.fin {N s:Nat} {base r:List MObj} {v:Val} (h:Src N base s) (hr:gh N r) (hv:v.okB 0=true):cD true (N+r.length) v (base++r)=some (v,base++r) :=
  fO (by rw [List.length_append,h.len]) (h.app hr) hv
theorem kP {a b:Int} (h:0 < b):0≤a.fmod b∧a.fmod b < b:=⟨Int.fmod_nonneg_of_pos a h,Int.fmod_lt_of_pos a h⟩
theorem gV {base r:List MObj} {i:Nat} {c:MObj} (h:base[i]? = some c):(base++r)[i]? = some c:=by
  rw [List.getElem?_append_left (List.getElem?_eq_some_iff.mp h).1]; exact h
theorem qT {base r:List MObj} {i:Nat} {c x:MObj} (h:base[i]? = some c):(base++r).set i x=base.set i x++r :=
  List.set_append_left _ _ (List.getElem?_eq_some_iff.mp h).1
theorem sX {xs:List Int}:bE (xs.map fun x=>.d (.int x))=some (xs.map .int):=by
  have:=j2 (xs:=xs.map Dat.int)
  rw [List.map_map] at this; exact this
theorem jH:∀ {xs:List Int},cE (xs.map .int)=true∧gg (xs.map .int)=0
  | []=>⟨rfl,rfl⟩
  | x::r=>by
    obtain ⟨h1,h2⟩:=jH (xs:=r)
    exact ⟨by rw [List.map_cons,vc,h1]; rfl,by rw [List.map_cons,qV,h2]; rfl⟩
theorem C8:∀ {xs:List Int},gd (xs.map .int) []=some (decide (xs=[]))
  | []=>by rw [List.map_nil,JD]; rfl
  | x::r=>by rw [List.map_cons,Jd]; rfl
theorem DD {xs:List Int}:gu (.lst (xs.map .int)) (.lst [])=some (decide (xs=[])):=by
  refine aO (jH (xs:=xs)) fun h1 h2=>?_
  unfold gu
  rw [B8,B8,BW,BW,h1,h2,J2]
  show (if _ then gd (List.map Dat.int xs) [] else none)=_
  rw [C8]
  rfl
inductive TakeR (N s:Nat) (base:Mu) (top:Int):Prop
  | mk (v:Int) (base':Mu):0≤v→v < top→Src N base' s→(∀ (n:Nat) (r:List MObj),gh N r→an prog (n+1) .take [.r s,.d (.int top)] (base++r)=some (.d (.int v),base'++r))→TakeR N s base top
theorem TakeR.el {N s:Nat} {base:Mu} {top:Int} {G:Prop} (h:TakeR N s base top) (g:∀ (v:Int) (base':Mu),0≤v→v < top→Src N base' s→(∀ (n:Nat) (r:List MObj),gh N r→an prog (n+1) .take [.r s,.d (.int top)] (base++r)=some (.d (.int v),base'++r))→G):G:=h.rec g
inductive OneR (N s:Nat) (base:Mu) (things:List Dat):Prop
  | mk (x:Dat) (base':Mu):x ∈ things→Src N base' s→(∀ (n:Nat) (r:List MObj),gh N r→an prog (n+2) .one [.r s,.d (.lst things)] (base++r)=some (.d x,base'++r))→OneR N s base things
theorem OneR.el {N s:Nat} {base:Mu} {things:List Dat} {G:Prop} (h:OneR N s base things) (g:∀ (x:Dat) (base':Mu),x ∈ things→Src N base' s→(∀ (n:Nat) (r:List MObj),gh N r→an prog (n+2) .one [.r s,.d (.lst things)] (base++r)=some (.d x,base'++r))→G):G:=h.rec g
theorem eP {N s:Nat} {base:Mu} (h:Src N base s) {top:Int} (h0:0 < top) (h1:top≤1000):TakeR N s base top:=by
  obtain ⟨a,b,k,xs,e1,e2,hk,hl⟩:=h.src
  have hs:s < base.length:=(List.getElem?_eq_some_iff.mp e1).1
  have hkl:k < base.length:=(List.getElem?_eq_some_iff.mp e2).1
  have htop:¬ top=0:=by omega
  have htop2:¬ 1073741824≤top.natAbs:=by omega
  have f1:∀ r:List MObj,(base++r)[s]? = some (.list [.d (.int a),.d (.int b),.r k]):=fun r=>gV e1
  have f2:∀ r:List MObj,(base++r)[k]? = some (.list (xs.map fun x=>.d (.int x))):=fun r=>gV e2
  have f3:∀ (r:List MObj) x,(base++r).set s x=base.set s x++r:=fun r x=>qT e1
  have hN:=h.len
  cases hx:xs with
  | cons x xs' =>
    subst hx
    have hl':xs'.length < 1048576:=by rw [List.length_cons] at hl; exact lb hl rfl
    refine ⟨x.fmod top,base.set k (.list (xs'.map fun x=>.d (.int x))),(kP h0).1,(kP h0).2,⟨by rw [List.length_set]; exact hN,nE h.wf vy,a,b,k,xs',by rw [List.getElem?_set_ne hk]; exact e1,List.getElem?_set_self hkl,hk,by rw [List.length_cons] at hl; exact lq hl rfl⟩,fun n r hr=>?_⟩
    have hS:Src N (base.set k (.list (xs'.map fun x=>.d (.int x)))) s:=⟨by rw [List.length_set]; exact hN,nE h.wf vy,a,b,k,xs',by rw [List.getElem?_set_ne hk]; exact e1,List.getElem?_set_self hkl,hk,by rw [List.length_cons] at hl; exact lq hl rfl⟩
    rw [aY (d:=jl) rfl rfl]
    have f4:∀ (r:List MObj) x,(base++r).set k x=base.set k x++r:=fun r x=>qT e2
    have hd:=sX (xs:=x::xs')
    have hp:=(jH (xs:=xs')).1
    rw [List.map_cons] at hd
    have hfin:=hS.fin (v:=.d (.int (x.fmod top))) hr rfl
    simp only [List.map_cons] at f2
    simp [ao,af,ar,bz,ah,ag,ak,av,bF,b8,bO,bQ,aP,aB,az,ax,aQ,ay,aA,dE,qa,nR,bX,HA,GU,GC,aF,bf,cu,bD,bo,aT,bU,am,aq,aJ,bM,aV,jk,iI,Ei,DM,CK,xN,tr,zG,v6,tx,wc,z4,aj,je,lim,-getElem?_pos,jl,f1,f2,hN,htop,hl',f4,sX,hp,uy]
    exact hfin
  | nil =>
    subst hx
    have ev0:∀ r,kF (base++r) (.r k) (.d (.lst []))=some true:=fun r=>by
      show (((base++r)[k]?).bind oL).bind (fun xs=>(bE xs).bind fun ds=>gu (.lst ds) (.lst []))=_
      rw [f2]
      exact DD (xs:=[])
    by_cases ha:0 < a
    · have hS:Src N (base.set s (.list [.d (.int (a.fdiv top)),.d (.int b),.r k])) s:=⟨by rw [List.length_set]; exact hN,nE h.wf (by simp [sL,pH,t8,sF]; exact hkl),a.fdiv top,b,k,[],List.getElem?_set_self hs,by rw [List.getElem?_set_ne (Ne.symm hk)]; exact e2,hk,hl⟩
      refine ⟨a.fmod top,_,(kP h0).1,(kP h0).2,hS,fun n r hr=>?_⟩
      rw [aY (d:=jl) rfl rfl]
      have hfin:=hS.fin (v:=.d (.int (a.fmod top))) hr rfl
      simp [ao,af,ar,bz,ah,ag,ak,av,bF,b8,bO,bQ,aP,aB,az,ax,aQ,ay,aA,dE,qa,nR,bX,aF,aU,gI,kx,kh,o6,pR,bf,cu,bj,bD,bo,bx,aT,aH,bU,am,aq,aJ,aV,vK,jk,sy,iI,aj,cY,je,lim,-getElem?_pos,jl,f1,f2,hN,htop,htop2,f3,ha,ev0]
      exact hfin
    · have hb:∀ c:Int,¬ 18446744073709551616≤(c.fmod 2147483647).natAbs:=fun c=>by
        have:=kP (a:=c) (b:=2147483647) (by decide)
        omega
      have hS:Src N (base.set s (.list [.d (.int a),.d (.int ((b * 39373+7).fmod 2147483647)),.r k])) s:=⟨by rw [List.length_set]; exact hN,nE h.wf (by simp [sL,pH,t8,sF]; exact hkl),a,_,k,[],List.getElem?_set_self hs,by rw [List.getElem?_set_ne (Ne.symm hk)]; exact e2,hk,hl⟩
      have g1:∀ r:List MObj,(base.set s (.list [.d (.int a),.d (.int ((b * 39373+7).fmod 2147483647)),.r k])++r)[s]? = some (.list [.d (.int a),.d (.int ((b * 39373+7).fmod 2147483647)),.r k]):=fun r=>gV (List.getElem?_set_self hs)
      generalize hc:(b * 39373+7).fmod 2147483647=c at hS g1
      have hc2:c.natAbs < 18446744073709551616:=by
        have:=kP (a:=b * 39373+7) (b:=2147483647) (by decide)
        omega
      refine ⟨(((c * c).fmod 2147483629).fdiv 32).fmod top,_,(kP h0).1,(kP h0).2,hS,fun n r hr=>?_⟩
      rw [aY (d:=jl) rfl rfl]
      have hfin:=hS.fin (v:=.d (.int ((((c * c).fmod 2147483629).fdiv 32).fmod top))) hr rfl
      simp [ao,af,ar,bz,ah,ag,ak,av,bF,b8,bO,bQ,aP,aB,az,ax,aQ,ay,aA,dE,qa,nR,bX,aF,gI,kx,kh,o6,pR,bf,bj,bD,bo,bx,aT,aH,bU,am,aq,aJ,aV,cC,qF,vK,jk,sy,iI,aj,je,lim,-getElem?_pos,jl,f1,f2,hN,htop,htop2,f3,ha,ev0,hc,g1,hc2]
      exact hfin
theorem oN {N s:Nat} {base:Mu} (h:Src N base s) {things:List Dat} (h0:0 < things.length) (h1:things.length≤1000):OneR N s base things:=by
  refine TakeR.el (eP h (top:=things.length) (by exact IP h0) (by exact ic h1 rfl)) fun v base' v0 v1 hS hc=>?_
  have hv:v.toNat < things.length:=by omega
  refine ⟨things[v.toNat],base',List.getElem_mem hv,hS,fun n r hr=>?_⟩
  rw [aY (d:=sn) rfl rfl]
  have hidx:cU v things.length=some v.toNat:=by rw [bX,if_pos ⟨v0,hv,by unfold lim; exact vo h1 hv rfl⟩]
  have hg:things[v.toNat]? = some things[v.toNat]:=List.getElem?_eq_getElem hv
  have hl:things.length≤1048576:=by exact lb h1 rfl
  have hN:=h.len
  obtain ⟨a,b,k,xs,e1,_⟩:=h.src
  have f1:∀ r:List MObj,(base++r)[s]? = some (.list [.d (.int a),.d (.int b),.r k]):=fun r=>gV e1
  have hc':=hc n r hr
  have hfin:=hS.fin (v:=.d things[v.toNat]) hr rfl
  simp [ao,af,ar,bz,ah,ag,ak,aQ,ay,aA,dF,aN,aE,dH,cg,gi,aF,bn,aM,aL,bD,aT,am,ap,aq,aJ,aj,lim,-getElem?_pos,sn,hN,hl,hc',f1,-bX]
  rw [hidx]
  simp [ao,dE,bo,bU,aV,-getElem?_pos,hg]
  exact hfin
theorem ft (n:Nat) {mu:Mu} (h:WFm mu) (l:Int):an prog (n+1) .place [.d (.int l)] mu=some (.d (Op.copy l none).e,mu):=by
  rw [aY (d:=nF) rfl rfl]
  simp [ao,af,ah,ag,ak,aS,bC,aF,bn,aM,aL,bD,bo,aT,bU,am,ap,aq,aJ,aV,aj,cN,b6,-getElem?_pos,nF]
  exact bB h rfl
theorem hO (n:Nat) {mu:Mu} (h:WFm mu) (v:Int):an prog (n+1) .number [.d (.int v)] mu=some (.d (Op.const v).e,mu):=by
  rw [aY (d:=md) rfl rfl]
  simp [ao,af,ah,ag,ak,lO,aS,bC,aF,bn,aM,aL,bD,bo,aT,bU,am,ap,aq,aJ,aV,aj,d9,-getElem?_pos,md]
  exact bB h rfl
end Mine.Internal
namespace Mine.Internal
theorem Src.norm {N s:Nat} {base:Mu} (h:Src N base s) (r:List MObj):iJ s (base++r)[s]? = .r s:=by
  obtain ⟨a,b,k,xs,e1,_⟩:=h.src
  rw [gV e1]; rfl
theorem Src.norm0 {N s:Nat} {base:Mu} (h:Src N base s):iJ s base[s]? = .r s:=by
  obtain ⟨a,b,k,xs,e1,_⟩:=h.src
  rw [e1]; rfl
theorem Src.drop {N s:Nat} {base:Mu} {r:List MObj} {v:Val} (h:Src N base s) (hv:v.okB 0=true):cD true N v (base++r)=some (v,base):=by
  rw [← h.len]; exact i7 h.wf hv
theorem FK {v:Int} (h0:0≤v) (h1:v≤1000):∃ its,items (.rng 0 v 1)=some its∧its.length=v.toNat:=by
  have:jy 0 v=true:=by unfold jy lim; simp; omega
  refine ⟨_,by unfold items; dsimp only; rw [this,if_neg (by decide),if_pos rfl],by simp⟩
noncomputable def sC (N:Nat) (nm:W) (ac:Int) (locs blks:List Dat) (rest:List MObj):List MObj :=
  [.inst .body [.name,.argCount,.locals,.blocks,.spots] [.d (.str nm),.d (.int ac),.r (N+1),.r (N+2),.r (N+3)],.list (locs.map .d),.list (blks.map .d),.spots 0]++rest
section
variable {N s:Nat} {base:Mu} {nm:W} {ac:Int} {locs blks:List Dat} {rest:List MObj}
theorem ju (h:base.length=N):(base++sC N nm ac locs blks rest)[N]? = some (.inst .body [.name,.argCount,.locals,.blocks,.spots] [.d (.str nm),.d (.int ac),.r (N+1),.r (N+2),.r (N+3)]):=by subst h; simp [sC]
theorem L3 (h:base.length=N):(base++sC N nm ac locs blks rest)[N+1]? = some (.list (locs.map .d)):=by subst h; simp [sC]
theorem i6 (h:base.length=N):(base++sC N nm ac locs blks rest)[N+2]? = some (.list (blks.map .d)):=by subst h; simp [sC]
theorem L4 (h:base.length=N):(base++sC N nm ac locs blks rest)[N+3]? = some (.spots 0):=by subst h; simp [sC]
theorem ld (h:base.length=N) {c:MObj}:(base++sC N nm ac locs blks (c::rest))[N+4]? = some c:=by subst h; simp [sC]
theorem mr (h:base.length=N) {xs:List Dat}:(base++sC N nm ac locs blks rest).set (N+2) (.list (xs.map .d))=base++sC N nm ac locs xs rest:=by subst h; simp [sC]
theorem r7 (h:base.length=N) {c d:MObj}:(base++sC N nm ac locs blks (c::rest)).set (N+4) d=base++sC N nm ac locs blks (d::rest):=by subst h; simp [sC]
theorem yJ (h:base.length=N):(base++sC N nm ac locs blks rest).length=N+4+rest.length:=by subst h; simp [sC]; omega
theorem ud (h:base.length=N) {xs:List Val} {f:Option (List Dat)}:cx true (base++sC N nm ac locs blks rest) xs f=if xs.length≤lim then some (.r (N+4+rest.length),base++sC N nm ac locs blks (rest++[.list xs])) else none:=by
  rw [cf,yJ h]; simp [sC]
theorem iL (hr:∀ k,rest.all (MObj.okB k)=true):gh N (sC N nm ac locs blks rest):=by
  unfold gh sC
  rw [List.all_append,hr,Bool.and_true]
  simp only [List.all_cons,List.all_nil,mH,Bool.and_true,Bool.true_and]
  simp [sL,EN,ER,G5,Gk,Ex,pH,t8,sF]
theorem pP (h:base.length=N):∃ r,freeze 4 (base++sC N nm ac locs blks rest) (.r N)=some (.obj .body [.name,.argCount,.locals,.blocks,.spots] [.str nm,.int ac,.lst locs,.lst blks,.spots 0],base++r):=by
  subst h
  refine ⟨[.frz (.obj .body [.name,.argCount,.locals,.blocks,.spots] [.str nm,.int ac,.lst locs,.lst blks,.spots 0]),.frz (.lst locs),.frz (.lst blks),.frz (.spots 0)]++rest,?_⟩
  rw [cR]
  simp [sC,lN,cR,uo,gD,ta,fW,fU,rf,qR,r6,wd,sx,r9,g7]
theorem DZ (h:base.length=N) {xs:List Dat}:freeze 4 (base++sC N nm ac locs blks (.list (xs.map .d)::rest)) (.r (N+4))=some (.lst xs,base++sC N nm ac locs blks (.frz (.lst xs)::rest)):=by
  rw [cR,ld h,gD,g7,fW,ld h,fU,r7 h]
end
theorem jj (n:Nat) {base:Mu} {N:Nat} (hN:base.length=N) {nm:W} {ac:Int} {locs:List Dat} (hl:locs.length≤1000) :
    an prog (n+1) .initBody [.r N,.d (.str nm),.d (.int ac),.d (.lst locs)] (base++[.inst .body [] []])=some (.d .none,base++sC N nm ac locs [] []):=by
  subst hN
  rw [uG n hl]
  simp [sC]
inductive SmallR (N s:Nat) (c0:Int) (f:ae→Mu→Rx) (base:Mu) (its:List Dat) (x3 x6:Option Val):Prop
  | mk (base':Mu) (ops:List (W × Int)) (x3' x6':Option Val):ops.length=its.length→(∀ p ∈ ops,p.1=.plus_∨p.1=.xor_∨p.1=.lt_)→Src N base' s →
    cT f [3] its [some (.r s),some (.r N),some (.r (N+4)),x3,none,none,x6] (base++sC N .h_ 1 [aa,aa,aa] [] [.list ((eS (bS ⟨c0,[],none⟩)).map .d)]) =
        some (.next,[some (.r s),some (.r N),some (.r (N+4)),x3',none,none,x6'],base'++sC N .h_ 1 [aa,aa,aa] [] [.list ((eS (bS ⟨c0,ops,none⟩)).map .d)]) →
    SmallR N s c0 f base its x3 x6
theorem SmallR.el {N s:Nat} {c0:Int} {f:ae→Mu→Rx} {base:Mu} {its:List Dat} {x3 x6:Option Val} {G:Prop} (h:SmallR N s c0 f base its x3 x6) (g:∀ (base':Mu) (ops:List (W × Int)) (x3' x6':Option Val),ops.length=its.length→(∀ p ∈ ops,p.1=.plus_∨p.1=.xor_∨p.1=.lt_)→Src N base' s →
    cT f [3] its [some (.r s),some (.r N),some (.r (N+4)),x3,none,none,x6] (base++sC N .h_ 1 [aa,aa,aa] [] [.list ((eS (bS ⟨c0,[],none⟩)).map .d)]) =
        some (.next,[some (.r s),some (.r N),some (.r (N+4)),x3',none,none,x6'],base'++sC N .h_ 1 [aa,aa,aa] [] [.list ((eS (bS ⟨c0,ops,none⟩)).map .d)])→G):G:=h.rec g
theorem xq {N s:Nat} (n:Nat) {c0:Int} {f:ae→Mu→Rx} (hf:eN (an prog (n+2)) (.of [(.asg 6 (.call .one (.of [(.loc 0),(.list false (.of [(.str .plus_),(.str .xor_),(.str .lt_)]))]))),(.expr (.app (.loc 2) (.tup (.of [(.str .assign_),(.tup (.of [(.int 2),(.tup (.of []))])),(.tup (.of [(.str .binary_),(.loc 6),(.call .place (.of [(.int 2)])),(.call .number (.of [(.call .take (.of [(.loc 0),(.int 256)]))]))]))]))))])=f) {base:Mu} (h:Src N base s) (its:List Dat) (hits:its.length≤1000) {x3 x6:Option Val} :
    SmallR N s c0 f base its x3 x6:=by
  obtain ⟨l,m,e,base',ops,x3',x6',rfl,rfl,hS,h1,h2⟩:=mN (f:=f) (ts:=[3]) (fun i l m=>∃ base' ops x3 x6,l=[some (.r s),some (.r N),some (.r (N+4)),x3,none,none,x6]∧m=base'++sC N .h_ 1 [aa,aa,aa] [] [.list ((eS (bS ⟨c0,ops,none⟩)).map .d)]∧Src N base' s∧ops.length=i∧∀ p ∈ ops,p.1=.plus_∨p.1=.xor_∨p.1=.lt_)
    its 0 (loc:=[some (.r s),some (.r N),some (.r (N+4)),x3,none,none,x6]) (mu:=base++sC N .h_ 1 [aa,aa,aa] [] [.list ((eS (bS ⟨c0,[],none⟩)).map .d)]) ⟨base,[],x3,x6,rfl,rfl,h,rfl,by simp⟩ fun i x l m hx ⟨base1,ops,y3,y6,hl,hm,h1,h2,h3⟩=>by
      subst hl; subst hm
      refine OneR.el (oN h1 (things:=[.str .plus_,.str .xor_,.str .lt_]) (by decide) (by decide)) fun w' base2 hw' S2 k2=>?_
      obtain ⟨w,rfl,hw⟩ : ∃ w,w'=.str w∧(w=.plus_∨w=.xor_∨w=.lt_):=by
        have:w'=.str .plus_∨w'=.str .xor_∨w'=.str .lt_:=by simpa using hw'
        rcases this with rfl | rfl | rfl
        · exact ⟨_,rfl,.inl rfl⟩
        · exact ⟨_,rfl,.inr (.inl rfl)⟩
        · exact ⟨_,rfl,.inr (.inr rfl)⟩
      refine TakeR.el (eP S2 (top:=256) (by decide) (by decide)) fun v base3 v0 v1 S3 k3=>?_
      have ok:gh N (sC N .h_ 1 [aa,aa,aa] [] [.list ((eS (bS ⟨c0,ops,none⟩)).map .d)]):=iL fun k=>by simp only [List.all_cons,List.all_nil,mH,Bool.and_true]
      have hi:i < its.length:=(List.getElem?_eq_some_iff.mp hx).1
      have hlen:(bS ⟨c0,ops,none⟩).length < 1048576:=by unfold bS; simp; omega
      have hlen2:(eS (bS ⟨c0,ops,none⟩)).length < 1048576:=by rw [ir]; exact hlen
      have k2':=k2 n _ ok
      have k3':=k3 (n+1) _ ok
      have k4:=ft (n+1) (S2.app ok) 2
      have k5:=hO (n+1) (S3.app ok) v
      have hrow:eS (bS ⟨c0,ops,none⟩)++[Dat.tup [.str .assign_,.tup [.int 2,.tup []],.tup [.str .binary_,.str w,(Op.copy 2 none).e,(Op.const v).e]]]=eS (bS ⟨c0,ops++[(w,v)],none⟩):=by
        unfold bS
        rw [List.map_append,← List.cons_append,← List.cons_append,lP]; rfl
      refine ⟨[some (.r s),some (.r N),some (.r (N+4)),some (.d x),none,none,y6],[some (.r s),some (.r N),some (.r (N+4)),some (.d x),none,none,some (.d (.str w))],base3++sC N .h_ 1 [aa,aa,aa] [] [.list ((eS (bS ⟨c0,ops++[(w,v)],none⟩)).map .d)],by simp [cr,iM,bg],?_,base3,ops++[(w,v)],_,_,rfl,rfl,S3,by simp; omega,fun p hp=>?_⟩
      · rw [← hf,fS]
        simp [ao,af,ar,bz,ah,ag,ak,av,aS,bC,bF,aN,aE,ej,da,db,de,df,aF,bn,aM,aL,aU,cH,ce,bx,aT,aH,am,ap,aq,aJ,ir,eO,aj,gU,cN,b6,d9,nB,kM,lim,-getElem?_pos,h1.norm,S2.norm,S3.norm,k2',k3',k4,k5,ld h1.len,ld S2.len,ld S3.len,r7 S3.len,hlen,-List.map_append]
        rw [hrow]
      · rcases List.mem_append.mp hp with hp | hp
        · exact h3 p hp
        · rw [List.mem_singleton] at hp; subst hp; exact hw
  rw [Nat.zero_add] at h1
  exact ⟨base',ops,x3',x6',h1,h2,hS,e⟩
end Mine.Internal
namespace Mine.Internal
section
variable {N s:Nat} {base:Mu} {nm:W} {ac:Int} {locs blks:List Dat} {rest:List MObj}
theorem jO (h:base.length=N) {x:Dat}:(base++sC N nm ac locs blks rest).set (N+2) (.list [.d x])=base++sC N nm ac locs [x] rest:=mr h (xs:=[x])
theorem nL (h:base.length=N) {x y:Dat}:(base++sC N nm ac locs blks rest).set (N+2) (.list [.d x,.d y])=base++sC N nm ac locs [x,y] rest:=mr h (xs:=[x,y])
theorem vq (h:base.length=N) {x y z:Dat}:(base++sC N nm ac locs blks rest).set (N+2) (.list [.d x,.d y,.d z])=base++sC N nm ac locs [x,y,z] rest:=mr h (xs:=[x,y,z])
theorem JK (h:base.length=N) {x y z w:Dat}:(base++sC N nm ac locs blks rest).set (N+2) (.list [.d x,.d y,.d z,.d w])=base++sC N nm ac locs [x,y,z,w] rest:=mr h (xs:=[x,y,z,w])
end
noncomputable def b3:List Dat:=[aa,aa,aa]
noncomputable def Ln (n:Nat):List CS:=match n,f_small.body with
  | _,.cons a (.cons b (.cons (.for_ ts it bd) r))=>[a,b,.for_ ts it bd]
  | _,_=>[]
theorem Dk (n:Nat) {N s:Nat} {base:Mu} (h:Src N base s):∃ d base',d.OK∧Src N base' s∧an prog (n+3) .small [.r s] base=some (.d ((au d).e 0),base'):=by
  refine TakeR.el (eP h (top:=9) (by decide) (by decide)) fun v1 base1 v10 v11 S1 k1=>?_
  refine TakeR.el (eP S1 (top:=3) (by decide) (by decide)) fun v2 base2 v20 v21 S2 k2=>?_
  refine xe1 (FK v20 (by omega)) fun its r_=>aO r_ fun hits hitl=>?_
  have okA:gh N (sC N .h_ 1 [aa,aa,aa] [] []):=iL fun k=>rfl
  have okB:∀ {blks xs:List Dat},gh N (sC N .h_ 1 [aa,aa,aa] blks [.list (xs.map .d)]):=iL fun k=>by simp only [List.all_cons,List.all_nil,mH,Bool.and_true]
  have okF:∀ {blks:List Dat} {d:Dat},gh N (sC N .h_ 1 [aa,aa,aa] blks [.frz d]):=iL fun k=>rfl
  have p1:=jj (n+1) h.len (nm:=.h_) (ac:=1) (locs:=[aa,aa,aa]) (by decide)
  have p2:=ft (n+1) (h.app okA) 1
  have p3:=k1 (n+1) _ okA
  have p4:=hO (n+1) (S1.app okA) (1+v1)
  have p5:=k2 (n+1) _ (okB (blks:=[]) (xs:=eS (bS ⟨1+v1,[],none⟩)))
  have hrow0:MObj.list [Val.d (Dat.tup [.str .live_,.int 2]),Val.d (Dat.tup [.str .assign_,.tup [.int 2,.tup []],.tup [.str .binary_,.str .plus_,(Op.copy 1 none).e,(Op.const (1+v1)).e]])]=.list ((eS (bS ⟨1+v1,[],none⟩)).map .d):=rfl
  have hby:Dat.tup [dp,.bool true,.none]=aa:=rfl
  rw [aY (d:=f_small) rfl rfl]
  simp [ao,ar,ah,ag,ak,lO,av,aS,iN,j5,bC,bF,b5,b8,bO,bQ,aN,aE,mB,j7,j0,gm,aF,bn,aM,aL,aU,fD,aT,aH,am,ap,aq,aJ,bH,bM,cC,n5,sw,aj,mD,cY,cN,gS,b6,d9,kM,jF,lim,-getElem?_pos,f_small,h.len,hby,List.replicate,zv,p1,p2,p3,p4,h.norm,S1.norm,ud S1.len,-List.map_append,-cf,-exists_and_left]
  rw [hrow0]
  simp [ao,cg,jq,jg,aF,aM,aL,d3,d0,-getElem?_pos,S1.norm,p5,hits,-exists_and_left]
  generalize hf:eN _ _=f
  refine SmallR.el (xq n hf S2 its (by exact KV v21 r_.2 rfl) (c0:=1+v1) (x3:=none) (x6:=none)) fun base3 ops x3 x6 ho1 ho2 S3 eL=>?_
  rw [eL]
  refine TakeR.el (eP S3 (top:=2) (by decide) (by decide)) fun v4 base4 v40 v41 S4 k4=>?_
  have p6:=ft (n+1) (S3.app (okB (blks:=[]) (xs:=eS (bS ⟨1+v1,ops,none⟩)))) 2
  have p7:=k4 (n+1) _ (okB (blks:=[]) (xs:=eS (bS ⟨1+v1,ops,none⟩)))
  have hlen:(bS ⟨1+v1,ops,none⟩).length≤4:=kK ⟨by show ops.length≤2; exact F9 v21 hitl ho1 rfl,ho2⟩
  have hlenA:(bS ⟨1+v1,ops,none⟩).length+2≤1048576:=by exact la hlen rfl
  by_cases hv:v4=0
  · subst hv
    refine ⟨⟨1+v1,ops,none⟩,base4,⟨by show ops.length≤2; exact F9 v21 hitl ho1 rfl,ho2⟩,S4,?_⟩
    refine xe1 (pP S4.len (nm:=.h_) (ac:=1) (locs:=[aa,aa,aa]) (blks:=[Blk.e ⟨bS ⟨1+v1,ops,none⟩++fN,.ret⟩]) (rest:=[.list ((eS (bS ⟨1+v1,ops,none⟩)).map .d)])) fun r hr=>?_
    have hb:Dat.lst [.lst (eS (bS ⟨1+v1,ops,none⟩)++[.tup [.str .assign_,.tup [.int 0,.tup []],.tup [.str .use_,(Op.copy 2 none).e]],.tup [.str .dead_,.int 2]]),.tup [.str .return_]]=Blk.e ⟨bS ⟨1+v1,ops,none⟩++fN,.ret⟩:=by
      unfold Blk.e; rw [lP]; rfl
    simp [ao,af,ar,bz,b0,ah,ag,jQ,fo,ak,av,aS,bC,bF,b5,b8,bO,bQ,aP,aB,az,ax,c3,cM,bG,bu,aN,aE,ej,da,db,de,df,gw,fB,fy,aF,bn,aM,aL,aU,bf,cu,bD,bo,cH,ce,aT,aH,bU,aV,ir,hG,mU,Dy,nD,nK,bJ,bw,aW,aj,ik,cN,gX,b6,fh,d9,kS,lim,-getElem?_pos,S3.norm,S4.norm,p6,p7,ju S4.len,i6 S4.len,ld S4.len,jO S4.len,hlenA,hb,hr,-List.map_append,-cf]
    exact S4.drop rfl
  · refine TakeR.el (eP S4 (top:=4) (by decide) (by decide)) fun v5 base5 v50 v51 S5 k5=>?_
    refine ⟨⟨1+v1,ops,some v5⟩,base5,⟨by show ops.length≤2; exact F9 v21 hitl ho1 rfl,ho2⟩,S5,?_⟩
    have hb0:Dat.lst [.lst (eS (bS ⟨1+v1,ops,none⟩)),.tup [.str .switch_,(Op.copy 1 none).e,.tup [.tup [.int v5,.int 1]],.int 2]]=Blk.e ⟨bS ⟨1+v1,ops,none⟩,.switch (.copy 1 none) v5 1 2⟩:=rfl
    have hb1:Dat.lst [.lst [.tup [.str .assign_,.tup [.int 0,.tup []],.tup [.str .use_,(Op.copy 2 none).e]],.tup [.str .dead_,.int 2]],.tup [.str .return_]]=Blk.e ⟨fN,.ret⟩:=rfl
    have hb2:Dat.lst [.lst [.tup [.str .print_,(Op.copy 2 none).e],.tup [.str .assign_,.tup [.int 0,.tup []],.tup [.str .use_,(Op.const 7).e]],.tup [.str .dead_,.int 2]],.tup [.str .return_]]=Blk.e ⟨iD,.ret⟩:=rfl
    refine xe1 (pP S5.len (nm:=.h_) (ac:=1) (locs:=[aa,aa,aa]) (blks:=[Blk.e ⟨bS ⟨1+v1,ops,none⟩,.switch (.copy 1 none) v5 1 2⟩,Blk.e ⟨fN,.ret⟩,Blk.e ⟨iD,.ret⟩]) (rest:=[.frz (.lst (eS (bS ⟨1+v1,ops,none⟩)))])) fun r hr=>?_
    have f1:=DZ S4.len (nm:=.h_) (ac:=1) (locs:=[aa,aa,aa]) (blks:=[]) (rest:=[]) (xs:=eS (bS ⟨1+v1,ops,none⟩))
    have p8:=ft (n+1) (S4.app (okF (blks:=[]) (d:=.lst (eS (bS ⟨1+v1,ops,none⟩))))) 1
    have p9:=k5 (n+1) _ (okF (blks:=[]) (d:=.lst (eS (bS ⟨1+v1,ops,none⟩))))
    have p10:=ft (n+1) (S5.app (okF (blks:=[Blk.e ⟨bS ⟨1+v1,ops,none⟩,.switch (.copy 1 none) v5 1 2⟩,Blk.e ⟨fN,.ret⟩]) (d:=.lst (eS (bS ⟨1+v1,ops,none⟩))))) 2
    have p11:=hO (n+1) (S5.app (okF (blks:=[Blk.e ⟨bS ⟨1+v1,ops,none⟩,.switch (.copy 1 none) v5 1 2⟩,Blk.e ⟨fN,.ret⟩]) (d:=.lst (eS (bS ⟨1+v1,ops,none⟩))))) 7
    simp [ao,af,ar,bz,b0,ah,ag,ak,av,aS,bC,bF,aP,aB,az,ax,c3,cM,bG,bu,aN,aE,ej,da,db,de,df,gw,fB,fy,aF,bn,aM,aL,aU,bf,bj,bD,bo,cH,ce,bx,aT,aH,bU,aV,bJ,bw,aW,aj,ik,fg,cN,gX,b6,fh,d9,nB,kM,kS,lim,-getElem?_pos,S3.norm,S4.norm,S5.norm,p6,p7,p8,p9,p10,p11,ju S4.len,i6 S4.len,ld S4.len,ju S5.len,i6 S5.len,jO S5.len,nL S5.len,vq S5.len,hv,f1,hb0,hb1,hb2,hr,-List.map_append,-cf,-cR]
    exact S5.drop rfl
end Mine.Internal
namespace Mine.Internal
theorem AV (n:Nat) {N s:Nat} {base:Mu} (h:Src N base s):∃ two base',Src N base' s∧an prog (n+2) .middle [.r s] base=some (.d ((be two).e 0),base'):=by
  refine TakeR.el (eP h (top:=2) (by decide) (by decide)) fun v base1 v0 v1 S1 k1=>?_
  have okA:∀ {blks:List Dat},gh N (sC N .g_ 1 [aa,aa,aa] blks []):=iL fun k=>rfl
  have hby:Dat.tup [dp,.bool true,.none]=aa:=rfl
  have hb0:Dat.lst [.lst [.tup [.str .live_,.int 2]],.tup [.str .call_,.tup [.str .fn_,.str .h_,.tup []],.tup [(Op.copy 1 none).e],.tup [.int 2,.tup []],.int 1]]=Blk.e ⟨[.live 2],.call .h_ (.copy 1 none) 2 none 1⟩:=rfl
  have hb1:Dat.lst [.lst [.tup [.str .assign_,.tup [.int 2,.tup []],.tup [.str .binary_,.str .plus_,(Op.copy 2 none).e,(Op.copy 1 none).e]]],.tup [.str .call_,.tup [.str .fn_,.str .h_,.tup []],.tup [(Op.copy 2 none).e],.tup [.int 2,.tup []],.int 2]]=Blk.e ⟨[.assign 2 none (.bin .plus_ (.copy 2 none) (.copy 1 none))],.call .h_ (.copy 2 none) 2 none 2⟩:=rfl
  have hb2:Dat.lst [.lst [.tup [.str .assign_,.tup [.int 0,.tup []],.tup [.str .binary_,.str .xor_,(Op.copy 2 none).e,(Op.copy 1 none).e]],.tup [.str .dead_,.int 2]],.tup [.str .return_]]=Blk.e ⟨gLast,.ret⟩:=rfl
  have p1:=jj n h.len (nm:=.g_) (ac:=1) (locs:=[aa,aa,aa]) (by decide)
  have p2:=ft n (h.app (okA (blks:=[]))) 1
  have p3:=k1 n _ (okA (blks:=[Blk.e ⟨[.live 2],.call .h_ (.copy 1 none) 2 none 1⟩]))
  have p4:=fun blks l=>ft n (S1.app (okA (blks:=blks))) l
  have hcases:v=0∨v=1:=by omega
  rcases hcases with rfl | rfl
  · have it0:items (.rng 0 0 1)=some []:=rfl
    refine ⟨false,base1,S1,?_⟩
    refine xe1 (pP S1.len (nm:=.g_) (ac:=1) (locs:=[aa,aa,aa]) (blks:=[Blk.e ⟨[.live 2],.call .h_ (.copy 1 none) 2 none 1⟩,Blk.e ⟨gLast,.ret⟩]) (rest:=[])) fun r hr=>?_
    rw [aY (d:=iZ) rfl rfl]
    simp [ao,ar,bz,b0,ah,ag,ak,lO,av,aS,iN,j5,bC,bF,b5,b8,bO,bQ,c3,cM,bG,bu,aN,aE,mB,j7,j0,gm,cg,jq,ej,da,db,de,df,jg,aF,bn,aM,aL,aU,cH,ce,fD,d3,aT,aH,am,ap,aq,aJ,bH,bM,n5,sw,bJ,aj,mD,cN,gX,gS,b6,fh,d9,mj,lim,-getElem?_pos,iZ,h.len,hby,List.replicate,zv,p1,p2,p3,h.norm,S1.norm,ju h.len,i6 h.len,jO h.len,hb0,-List.map_append,-cf]
    rw [it0]
    simp [ao,af,ar,bz,b0,ah,ag,ak,av,aS,bC,bF,c3,cM,bG,bu,aN,aE,ej,da,db,de,df,gw,fB,fy,aF,bn,aM,aL,aU,bD,bo,cH,ce,d0,il,aT,aH,bU,aV,bJ,aj,eK,cN,gX,b6,fh,d9,kM,lim,-getElem?_pos,p4,S1.norm,ju S1.len,i6 S1.len,nL S1.len,hb2,hr,-List.map_append,-cf,-cR]
    exact S1.drop rfl
  · have it1:items (.rng 0 1 1)=some [.int 0]:=rfl
    refine ⟨true,base1,S1,?_⟩
    refine xe1 (pP S1.len (nm:=.g_) (ac:=1) (locs:=[aa,aa,aa]) (blks:=[Blk.e ⟨[.live 2],.call .h_ (.copy 1 none) 2 none 1⟩,Blk.e ⟨[.assign 2 none (.bin .plus_ (.copy 2 none) (.copy 1 none))],.call .h_ (.copy 2 none) 2 none 2⟩,Blk.e ⟨gLast,.ret⟩]) (rest:=[])) fun r hr=>?_
    rw [aY (d:=iZ) rfl rfl]
    simp [ao,ar,bz,b0,ah,ag,ak,lO,av,aS,iN,j5,bC,bF,b5,b8,bO,bQ,c3,cM,bG,bu,aN,aE,mB,j7,j0,gm,cg,jq,ej,da,db,de,df,jg,aF,bn,aM,aL,aU,cH,ce,fD,d3,aT,aH,am,ap,aq,aJ,bH,bM,n5,sw,bJ,aj,mD,cN,gX,gS,b6,fh,d9,mj,lim,-getElem?_pos,iZ,h.len,hby,List.replicate,zv,p1,p2,p3,h.norm,S1.norm,ju h.len,i6 h.len,jO h.len,hb0,-List.map_append,-cf]
    rw [it1]
    simp [ao,af,ar,bz,b0,ah,ag,fo,ak,av,aS,bC,bF,b8,bO,bQ,c3,cM,bG,bu,aN,aE,dH,cg,j8,kB,ej,da,db,de,df,gw,fB,fy,aF,bn,aM,aL,aU,bg,bD,bo,cH,ce,fS,d0,il,gY,fM,gb,cr,bx,aT,aH,bU,aV,cC,bJ,aj,kH,eK,cN,gX,gS,b6,fh,d9,kM,mj,lim,-getElem?_pos,p4,S1.norm,ju S1.len,i6 S1.len,nL S1.len,vq S1.len,hb1,hb2,hr,-List.map_append,-cf,-cR]
    exact S1.drop rfl
end Mine.Internal
namespace Mine.Internal
section
variable {N s:Nat} {base:Mu} {nm:W} {ac:Int} {locs blks:List Dat} {rest:List MObj}
theorem w9 (h:base.length=N) {c d:MObj}:(base++sC N nm ac locs blks (c::d::rest))[N+5]? = some d:=by subst h; simp [sC]
theorem BL (h:base.length=N) {c d e:MObj}:(base++sC N nm ac locs blks (c::d::rest)).set (N+5) e=base++sC N nm ac locs blks (c::e::rest):=by subst h; simp [sC]
theorem Dv (h:base.length=N) {xs:List Dat} {c:MObj}:freeze 4 (base++sC N nm ac locs blks (c::.list (xs.map .d)::rest)) (.r (N+5))=some (.lst xs,base++sC N nm ac locs blks (c::.frz (.lst xs)::rest)):=by
  rw [cR,w9 h,gD,g7,fW,w9 h,fU,BL h]
theorem DJ (h:base.length=N):freeze 4 (base++sC N nm ac locs blks rest) (.r N)=some (.obj .body [.name,.argCount,.locals,.blocks,.spots] [.str nm,.int ac,.lst locs,.lst blks,.spots 0],base++([.frz (.obj .body [.name,.argCount,.locals,.blocks,.spots] [.str nm,.int ac,.lst locs,.lst blks,.spots 0]),.frz (.lst locs),.frz (.lst blks),.frz (.spots 0)]++rest)):=by
  subst h
  rw [cR]
  simp [sC,lN,cR,uo,gD,ta,fW,fU,rf,qR,r6,wd,sx,r9,g7]
end
noncomputable def aZ (ms:List MD):List Dat:=ms.map fun m=>.tup [.str m.nm,.bool m.part]
noncomputable def dZ (k:Nat):List Ca→List Blk
  | []=>[]
  | c::cs=>⟨c.rows,.call c.w c.o c.l c.j ((k+1:Nat):Int)⟩::dZ (k+1) cs
theorem BP {k:Nat} {c:Ca} {cs:List Ca}:dZ k (c::cs)=⟨c.rows,.call c.w c.o c.l c.j ((k+1:Nat):Int)⟩::dZ (k+1) cs:=rfl
theorem vU {last:List St}:∀ {cs:List Ca} {k:Nat},cZ k cs last=dZ k cs++[⟨last,.ret⟩]
  | [],_=>rfl
  | c::cs,k=>by rw [Cm,BP,vU]; rfl
theorem jM:∀ {cs:List Ca} {k:Nat},(dZ k cs).length=cs.length
  | [],_=>rfl
  | c::cs,k=>by rw [BP,List.length_cons,jM,List.length_cons]
theorem oe {c:Ca}:∀ {cs:List Ca} {k:Nat},dZ k (cs++[c])=dZ k cs++[⟨c.rows,.call c.w c.o c.l c.j ((k+cs.length+1:Nat):Int)⟩]
  | [],_=>rfl
  | d::cs,k=>by
    rw [List.cons_append,BP,BP,oe,List.length_cons,show k+1+cs.length+1=k+(cs.length+1)+1 by omega]; rfl
theorem s8 {m:MD}:∀ {ms:List MD} {rows:List St},ms ≠ []→dC rows (ms++[m])=dC rows ms++[oG mRowsN m]
  | [],_,h=>absurd rfl h
  | [a],rows,_=>rfl
  | a::b::r,rows,_=>by
    rw [List.cons_append,zz,s8 (by simp),zz]; rfl
noncomputable def pX:CSs:=match f_mainL.body with
  | .cons _ (.cons _ (.cons _ (.cons _ (.cons (.for_ _ _ b) _))))=>b
  | _=>.nil
inductive TurnR (n N s:Nat) (base:Mu) (rows:List St) (rv:Val) (X X':MObj) (locs:List Dat) (bl:List Blk) (cl:List Dat) (a1 x3 y6 y7 y8 y9 y10:Option Val):Prop
  | mk (m:MD) (base':Mu) (z6 z7 z8 z9:Option Val):MD.OK m→Src N base' s →
    er (an prog (n+2)) [some (.r s),a1,some rv,x3,some (.r N),some (.r (N+4)),y6,y7,y8,y9,y10] (base++sC N .main_ 0 locs (eB bl) [.list (cl.map .d),X]) pX =
      some (.next,[some (.r s),a1,some (.d (.lst (eS mRowsN))),x3,some (.r N),some (.r (N+4)),z6,z7,z8,z9,y10],base'++sC N .main_ 0 locs (eB (bl++[⟨rows,.call m.nm m.o (if m.part then 2 else 1) (if m.part then some 0 else none) ((bl.length+1:Nat):Int)⟩])) [.list ((cl++[Dat.tup [.str m.nm,.bool m.part]]).map .d),X']) →
    TurnR n N s base rows rv X X' locs bl cl a1 x3 y6 y7 y8 y9 y10
theorem rJ (n:Nat) {N s:Nat} {base:Mu} (h:Src N base s) {rows:List St} {rv:Val} {X X':MObj} {locs:List Dat} (hX:∀ k,X.okB k=true) (hX':∀ k,X'.okB k=true)
    (hn:∀ (base:Mu) (blks:List Dat) (c:MObj),base.length=N→norm (base++sC N .main_ 0 locs blks [c,X]) rv=rv)
    (hfr:∀ (base:Mu) (blks:List Dat) (c:MObj),base.length=N→freeze 4 (base++sC N .main_ 0 locs blks [c,X]) rv=some (.lst (eS rows),base++sC N .main_ 0 locs blks [c,X']))
    {bl:List Blk} {cl:List Dat} (hbl:bl.length≤100) (hcl:cl.length≤100) {a1 x3 y6 y7 y8 y9 y10:Option Val} :
    TurnR n N s base rows rv X X' locs bl cl a1 x3 y6 y7 y8 y9 y10:=by
  refine OneR.el (oN h (things:=[.str .h_,.str .g_,.str .g_]) (by decide) (by decide)) fun w' base1 hw' S1 k1=>?_
  obtain ⟨w,rfl,hw⟩ : ∃ w,w'=.str w∧(w=.h_∨w=.g_):=by
    have:w'=.str .h_∨w'=.str .g_:=by simpa using hw'
    rcases this with rfl | rfl
    · exact ⟨_,rfl,.inl rfl⟩
    · exact ⟨_,rfl,.inr rfl⟩
  refine TakeR.el (eP S1 (top:=4) (by decide) (by decide)) fun v base2 v0 v1 S2 k2=>?_
  refine OneR.el (oN S2 (things:=[(Op.copy 1 none).e,(Op.const 3).e,(Op.copy 2 (some 1)).e]) (by simp) (by simp)) fun x' base3 hx' S3 k3=>?_
  obtain ⟨o,rfl,ho⟩ : ∃ o:Op,x'=o.e∧(o=.copy 1 none∨o=.const 3∨o=.copy 2 (some 1)):=by
    have:x'=(Op.copy 1 none).e∨x'=(Op.const 3).e∨x'=(Op.copy 2 (some 1)).e:=by simpa using hx'
    rcases this with rfl | rfl | rfl
    · exact ⟨_,rfl,.inl rfl⟩
    · exact ⟨_,rfl,.inr (.inl rfl)⟩
    · exact ⟨_,rfl,.inr (.inr rfl)⟩
  have ok:∀ {blks cl:List Dat},gh N (sC N .main_ 0 locs blks [.list (cl.map .d),X]):=fun {_ _}=>iL fun k=>by simp only [List.all_cons,List.all_nil,mH,hX,Bool.and_true]
  have ok':∀ {blks cl:List Dat},gh N (sC N .main_ 0 locs blks [.list (cl.map .d),X']):=fun {_ _}=>iL fun k=>by simp only [List.all_cons,List.all_nil,mH,hX',Bool.and_true]
  have p1:=k1 n _ (ok (blks:=eB bl) (cl:=cl))
  have p2:=k2 (n+1) _ (ok (blks:=eB bl) (cl:=cl))
  have p3:=k3 n _ (ok (blks:=eB bl) (cl:=cl))
  have p4:=ft (n+1) (S2.app (ok (blks:=eB bl) (cl:=cl))) 1
  have p5:=hO (n+1) (S2.app (ok (blks:=eB bl) (cl:=cl))) 3
  have he:Dat.tup [.str .copy_,.tup [.int 2,.tup [.tup [.str .field_,.int 1]]]]=(Op.copy 2 (some 1)).e:=rfl
  have hbl1:bl.length < 1048576:=by exact tb hbl rfl
  have hbl2:bl.length≤1048576:=by exact lb hbl rfl
  have hcl1:cl.length < 1048576:=by exact tb hcl rfl
  have hprt:Dat.lst [.tup [.str .print_,(Op.copy 1 none).e],.tup [.str .print_,.tup [.str .copy_,.tup [.int 2,.tup [.tup [.str .field_,.int 0]]]]]]=.lst (eS mRowsN):=rfl
  have p6:=fun blks cl=>ft (n+1) (S3.app (ok' (blks:=blks) (cl:=cl))) 1
  by_cases hv:v=0
  · refine ⟨⟨w,true,o⟩,base3,some (.d o.e),some (.d (dU 2 (some 0))),some (.d (.str w)),some (.d (.bool true)),⟨hw,ho⟩,S3,?_⟩
    have hb:Dat.lst [.lst (eS rows),.tup [.str .call_,.tup [.str .fn_,.str w,.tup []],.tup [o.e],.tup [.int 2,.tup [.tup [.str .field_,.int 0]]],.int ((bl.length:Int)+1)]]=Blk.e ⟨rows,.call w o 2 (some 0) ((bl.length+1:Nat):Int)⟩:=rfl
    have hB:eB bl++[Blk.e ⟨rows,.call w o 2 (some 0) ((bl.length+1:Nat):Int)⟩]=eB (bl++[⟨rows,.call w o 2 (some 0) ((bl.length+1:Nat):Int)⟩]):=by rw [lM]; rfl
    have hpl:Dat.tup [.int 2,.tup [.tup [.str .field_,.int 0]]]=dU 2 (some 0):=rfl
    simp [ao,af,ar,bz,b0,ah,ag,fo,ak,av,aS,bC,bF,b8,bO,bQ,aP,aB,az,ax,dW,gL,c3,cM,bG,bu,aN,aE,dH,cg,j8,kB,ej,da,db,de,df,gw,fB,fy,aF,bn,aM,aL,aU,cW,n7,bg,cH,ce,bx,aT,aH,am,ap,aq,aJ,ew,eO,cC,bJ,bw,aW,aj,cY,gU,wG,kL,kO,cN,gX,b6,fh,d9,nB,mj,nI,kS,lim,-getElem?_pos,pX,f_mainL,h.norm,S1.norm,S2.norm,S3.norm,p1,p2,p3,p4,p5,p6,he,hv,hbl1,hbl2,hcl1,ju S3.len,i6 S3.len,ld S3.len,r7 S3.len,mr S3.len,hn _ _ _ S3.len,hfr _ _ _ S3.len,hb,hB,hprt,-List.map_append,-cf,-cR]
    exact ⟨rfl,by rw [lM]; rfl⟩
  · refine ⟨⟨w,false,o⟩,base3,some (.d o.e),some (.d (dU 1 none)),some (.d (.str w)),some (.d (.bool false)),⟨hw,ho⟩,S3,?_⟩
    have hb:Dat.lst [.lst (eS rows),.tup [.str .call_,.tup [.str .fn_,.str w,.tup []],.tup [o.e],.tup [.int 1,.tup []],.int ((bl.length:Int)+1)]]=Blk.e ⟨rows,.call w o 1 none ((bl.length+1:Nat):Int)⟩:=rfl
    have hB:eB bl++[Blk.e ⟨rows,.call w o 1 none ((bl.length+1:Nat):Int)⟩]=eB (bl++[⟨rows,.call w o 1 none ((bl.length+1:Nat):Int)⟩]):=by rw [lM]; rfl
    have hpl:Dat.tup [.int 1,.tup []]=dU 1 none:=rfl
    simp [ao,af,ar,bz,b0,ah,ag,fo,ak,av,aS,bC,bF,b8,bO,bQ,aP,aB,az,ax,dW,eZ,c3,cM,bG,bu,aN,aE,dH,cg,j8,kB,ej,da,db,de,df,gw,fB,fy,aF,bn,aM,aL,aU,cW,n7,bg,cH,ce,bx,aT,aH,am,ap,aq,aJ,ew,eO,cC,bJ,bw,aW,aj,cY,gU,wG,kL,kO,cN,gX,b6,fh,d9,nB,mj,nI,kS,lim,-getElem?_pos,pX,f_mainL,h.norm,S1.norm,S2.norm,S3.norm,p1,p2,p3,p4,p5,p6,he,hv,hbl1,hbl2,hcl1,ju S3.len,i6 S3.len,ld S3.len,r7 S3.len,mr S3.len,hn _ _ _ S3.len,hfr _ _ _ S3.len,hb,hB,hprt,-List.map_append,-cf,-cR]
    exact ⟨rfl,by rw [lM]; rfl⟩
end Mine.Internal
namespace Mine.Internal
section
variable {N s:Nat} {base:Mu} {nm:W} {ac:Int} {locs blks:List Dat} {rest:List MObj}
theorem qz (h:base.length=N):freeze 4 (base++sC N nm ac locs blks rest) (.r N)=some (.obj .body [.name,.argCount,.locals,.blocks,.spots] [.str nm,.int ac,.lst locs,.lst blks,.spots 0],base++(.frz (.obj .body [.name,.argCount,.locals,.blocks,.spots] [.str nm,.int ac,.lst locs,.lst blks,.spots 0])::.frz (.lst locs)::.frz (.lst blks)::.frz (.spots 0)::rest)):=DJ h
theorem wo (h:base.length=N) {a b c d e:MObj}:(base++(a::b::c::d::e::rest))[N+4]? = some e:=by subst h; simp
theorem CY (h:base.length=N) {a b c d:MObj} {xs:List Dat}:freeze 4 (base++(a::b::c::d::.list (xs.map .d)::rest)) (.r (N+4))=some (.lst xs,base++(a::b::c::d::.frz (.lst xs)::rest)):=by
  rw [cR,wo h,gD,g7,fW,wo h,fU]
  subst h; simp
end
theorem CZ {xs:List Dat} {u v w:Dat}:xs.map Val.d++[Val.d u,Val.d v,Val.d w]=(xs++[u,v,w]).map Val.d:=by rw [List.map_append]; rfl
theorem xm {ms:List MD}:(aZ ms).length=ms.length:=List.length_map ..
inductive MainR (N s:Nat) (c0:Int) (locs:List Dat) (f:ae→Mu→Rx) (a1 y10:Option Val) (its:List Dat) (base:Mu) (ms:List MD) (x3 y6 y7 y8 y9:Option Val):Prop
  | mk (base' ms' x3' z6 z7 z8 z9):ms' ≠ []→(∀ m ∈ ms',m.OK)→ms'.length=ms.length+its.length→Src N base' s →
    cT f [3] its [some (.r s),a1,some (.d (.lst (eS mRowsN))),x3,some (.r N),some (.r (N+4)),y6,y7,y8,y9,y10] (base++sC N .main_ 0 locs (eB (dZ 0 (dC (bA c0) ms))) [.list ((aZ ms).map .d),.frz (.lst (eS (bA c0)))]) =
        some (.next,[some (.r s),a1,some (.d (.lst (eS mRowsN))),x3',some (.r N),some (.r (N+4)),z6,z7,z8,z9,y10],base'++sC N .main_ 0 locs (eB (dZ 0 (dC (bA c0) ms'))) [.list ((aZ ms').map .d),.frz (.lst (eS (bA c0)))]) →
    MainR N s c0 locs f a1 y10 its base ms x3 y6 y7 y8 y9
theorem rp {N s:Nat} (n:Nat) {c0:Int} {locs:List Dat} {f:ae→Mu→Rx} (hf:eN (an prog (n+2)) pX=f) {a1 y10:Option Val}:∀ (its:List Dat) {base:Mu} (h:Src N base s) {ms:List MD} (h0:ms ≠ []) (hok:∀ m ∈ ms,m.OK) (hl:ms.length+its.length≤20) {x3 y6 y7 y8 y9:Option Val},
    MainR N s c0 locs f a1 y10 its base ms x3 y6 y7 y8 y9
  | [],base,h,ms,h0,hok,hl,x3,y6,y7,y8,y9=>⟨base,ms,x3,y6,y7,y8,y9,h0,hok,rfl,h,rfl⟩
  | x::its,base,h,ms,h0,hok,hl,x3,y6,y7,y8,y9=>by
    rw [List.length_cons] at hl
    obtain ⟨m,base1,z6,z7,z8,z9,hm,S1,e⟩:=rJ n h (rows:=mRowsN) (rv:=.d (.lst (eS mRowsN))) (X:=.frz (.lst (eS (bA c0)))) (X':=.frz (.lst (eS (bA c0)))) (locs:=locs) (fun Z=>rfl) (fun Z=>rfl) (fun Z Z Z Z=>rfl) (fun Z Z Z Z=>lN)
      (bl:=dZ 0 (dC (bA c0) ms)) (cl:=aZ ms) (by rw [jM,hV]; exact lq hl rfl) (by rw [xm]; exact lq hl rfl) (a1:=a1) (x3:=some (.d x)) (y6:=y6) (y7:=y7) (y8:=y8) (y9:=y9) (y10:=y10)
    have hb:dZ 0 (dC (bA c0) ms)++[⟨mRowsN,.call m.nm m.o (if m.part then 2 else 1) (if m.part then some 0 else none) (((dZ 0 (dC (bA c0) ms)).length+1:Nat):Int)⟩]=dZ 0 (dC (bA c0) (ms++[m])):=by
      rw [s8 h0,oe,jM,Nat.zero_add]; rfl
    have hc:aZ ms++[Dat.tup [.str m.nm,.bool m.part]]=aZ (ms++[m]):=by unfold aZ; rw [List.map_append]; rfl
    rw [hb,hc] at e
    obtain ⟨base',ms',x3',u6,u7,u8,u9,i1,i2,i3,i4,i5⟩:=rp n hf its S1 (ms:=ms++[m]) (by simp) (fun k hk=>by
      rcases List.mem_append.mp hk with hk | hk
      · exact hok k hk
      · rw [List.mem_singleton] at hk; subst hk; exact hm) (by simp; exact eV hl) (x3:=some (.d x)) (y6:=z6) (y7:=z7) (y8:=z8) (y9:=z9)
    refine ⟨base',ms',x3',u6,u7,u8,u9,i1,i2,by rw [i3]; simp; exact ad1,i4,?_⟩
    rw [gY,cr]
    simp only [iM,bg,List.length_cons,List.length_nil,Nat.reduceAdd,Nat.reduceLT,if_true,fM,List.set_cons_succ,List.set_cons_zero]
    rw [← hf,fS,e,gb,hf,i5]
theorem GX (n:Nat) {N s:Nat} {base:Mu} (h:Src N base s):∃ c0 ms base',ms ≠ []∧(∀ m ∈ ms,MD.OK m)∧ms.length≤3∧Src N base' s∧an prog (n+3) .mainL [.r s] base=some (.d (.tup [(aK c0 ms).e 0,.lst (aZ ms)]),base'):=by
  refine TakeR.el (eP h (top:=256) (by decide) (by decide)) fun c0 base1 c00 c01 S1 k1=>?_
  refine TakeR.el (eP S1 (top:=3) (by decide) (by decide)) fun v2 base2 v20 v21 S2 k2=>?_
  refine xe1 (FK (v:=1+v2) (by exact oa v20 rfl) (by exact ob v21 rfl)) fun its r_=>aO r_ fun hits hitl=>?_
  have okA:∀ {r:List MObj},(∀ k,r.all (MObj.okB k)=true)→gh N (sC N .main_ 0 [aa,aa,hY] [] r):=iL
  have hby:Dat.tup [dp,.bool true,.none]=aa:=rfl
  have hbp:Dat.tup [.tup [.str .tuple_,.tup [dp,dp]],.bool true,.none]=hY:=rfl
  have p1:=jj (n+1) h.len (nm:=.main_) (ac:=0) (locs:=[aa,aa,hY]) (by decide)
  have p2:=k1 (n+1) _ (okA (r:=[.list []]) fun Z=>rfl)
  have p3:=hO (n+1) (S1.app (okA (r:=[.list []]) fun Z=>rfl)) c0
  have hrow3:MObj.list [Val.d (Dat.tup [.str .live_,.int 1]),Val.d (Dat.tup [.str .live_,.int 2]),Val.d (Dat.tup [.str .assign_,.tup [.int 1,.tup []],.tup [.str .use_,(Op.const c0).e]])]=.list (([St.live 1,.live 2,.assign 1 none (.use (.const c0))].map St.e).map .d):=rfl
  have ok3:∀ {xs:List Dat},gh N (sC N .main_ 0 [aa,aa,hY] [] [.list [],.list (xs.map .d)]):=fun {xs}=>okA fun k=>by simp only [List.all_cons,List.all_nil,mH,Bool.and_true]; rfl
  have p4:=ft (n+1) (S1.app (ok3 (xs:=[St.live 1,.live 2,.assign 1 none (.use (.const c0))].map St.e))) 1
  have p5:=hO (n+1) (S1.app (ok3 (xs:=[St.live 1,.live 2,.assign 1 none (.use (.const c0))].map St.e))) 5
  have p6:=k2 (n+1) _ (ok3 (xs:=eS (bA c0)))
  cases hi:its with
  | nil=>rw [hi] at hitl; simp at hitl; omega
  | cons x its' =>
    rw [hi,List.length_cons] at hitl
    obtain ⟨m,base3,z6,z7,z8,z9,hm,S3,eT⟩:=rJ n S2 (rows:=bA c0) (rv:=.r (N+5)) (X:=.list ((eS (bA c0)).map .d)) (X':=.frz (.lst (eS (bA c0)))) (locs:=[aa,aa,hY]) (fun Z=>mH) (fun Z=>rfl) (fun b bl c hb=>by rw [ar,w9 hb]; rfl) (fun b bl c hb=>Dv hb)
      (bl:=[]) (cl:=[]) (by simp) (by simp) (a1:=some (.d (.lst [dp,dp,.tup [.str .tuple_,.tup [dp,dp]]]))) (x3:=some (.d x)) (y6:=none) (y7:=none) (y8:=none) (y9:=none) (y10:=none)
    have hb0:([]:List Blk)++[⟨bA c0,.call m.nm m.o (if m.part then 2 else 1) (if m.part then some 0 else none) ((([]:List Blk).length+1:Nat):Int)⟩]=dZ 0 (dC (bA c0) [m]):=rfl
    have hc0:([]:List Dat)++[Dat.tup [.str m.nm,.bool m.part]]=aZ [m]:=rfl
    rw [hb0,hc0] at eT
    obtain ⟨base4,ms,x3',u6,u7,u8,u9,i1,i2,i3,S4,eL⟩:=rp n (c0:=c0) (locs:=[aa,aa,hY]) rfl its' S3 (ms:=[m]) (by simp) (fun k hk=>by
      rw [List.mem_singleton] at hk; subst hk; exact hm) (by simp; omega) (a1:=some (.d (.lst [dp,dp,.tup [.str .tuple_,.tup [dp,dp]]]))) (y10:=none) (x3:=some (.d x)) (y6:=z6) (y7:=z7) (y8:=z8) (y9:=z9)
    have hmsl:ms.length≤3:=by rw [i3]; simp; omega
    refine ⟨c0,ms,base4,i1,i2,hmsl,S4,?_⟩
    rw [aY (d:=f_mainL) rfl rfl]
    simp [ao,af,ar,ah,ag,ak,lO,av,aS,iN,j5,bC,jC,bF,b5,b8,bO,bQ,aN,aE,mB,j7,j0,ej,eF,dk,d4,cp,cm,cn,gx,eD,c5,cX,eJ,dX,aF,bn,aM,aL,aU,cW,n7,bg,cH,cr,aT,aH,am,ap,aq,aJ,bH,bM,Dp,aj,mD,cY,iq,nO,lV,cN,gX,b6,d9,nB,jF,nI,lim,-getElem?_pos,f_mainL,h.len,hby,hbp,zv,p1,p2,p3,h.norm,S1.norm,ud h.len,ud S1.len,-List.map_append,-cf]
    have hN5:N+4+1=N+5:=rfl
    rw [← hrow3] at p4 p5
    have hrow4:MObj.list [Val.d (Dat.tup [.str .live_,.int 1]),Val.d (Dat.tup [.str .live_,.int 2]),Val.d (Dat.tup [.str .assign_,.tup [.int 1,.tup []],.tup [.str .use_,(Op.const c0).e]]),Val.d (Dat.tup [.str .assign_,.tup [.int 2,.tup []],.tup [.str .tuple_,.tup [(Op.copy 1 none).e,(Op.const 5).e]]])]=.list ((eS (bA c0)).map .d):=rfl
    simp [ao,ar,bz,ah,ag,ak,av,aS,bC,b8,bO,aN,aE,gm,da,db,de,df,aF,bn,aM,aL,ce,fD,aT,aH,aj,cN,b6,d9,lim,-getElem?_pos,hN5,p4,p5,S1.norm,w9 S1.len,BL S1.len,-List.map_append,-cf]
    rw [hrow4]
    rw [hi] at hits
    simp [ao,bQ,cg,jq,jg,aF,aM,aL,d3,cC,-getElem?_pos,p6,S1.norm]
    rw [hits]
    simp only [d0]
    generalize hf:eN _ _=f
    have hf':eN (an prog (n+2)) pX=f:=hf
    rw [← fS,hf'] at eT
    rw [hf'] at eL
    simp only [List.map_nil,show eB []=[] from rfl] at eT
    rw [gY,cr]
    simp only [iM,bg,List.length_cons,List.length_nil,Nat.reduceAdd,Nat.reduceLT,if_true,fM,List.set_cons_succ,List.set_cons_zero]
    rw [eT,gb,eL]
    have ok4:∀ {blks:List Dat},gh N (sC N .main_ 0 [aa,aa,hY] blks [.list ((aZ ms).map .d),.frz (.lst (eS (bA c0)))]):=iL fun k=>by simp only [List.all_cons,List.all_nil,mH,Bool.and_true]; rfl
    have p7:=ft (n+1) (S4.app (ok4 (blks:=eB (dZ 0 (dC (bA c0) ms))))) 1
    have hrE:eS mRowsN++[Dat.tup [.str .assign_,.tup [.int 0,.tup []],.tup [.str .use_,(Op.copy 1 none).e]],.tup [.str .dead_,.int 1],.tup [.str .dead_,.int 2]]=eS (mRowsN++mEnd):=by rw [lP]; rfl
    have hbE:Dat.lst [.lst (eS (mRowsN++mEnd)),.tup [.str .return_]]=Blk.e ⟨mRowsN++mEnd,.ret⟩:=rfl
    have hBE:eB (dZ 0 (dC (bA c0) ms))++[Blk.e ⟨mRowsN++mEnd,.ret⟩]=eB (cZ 0 (dC (bA c0) ms) (mRowsN++mEnd)):=by rw [vU,lM]; rfl
    have hl1:(dZ 0 (dC (bA c0) ms)).length < 1048576:=by rw [jM,hV]; exact tb hmsl rfl
    have hl2:mRowsN.length+mEnd.length≤1048576:=by simp [mRowsN,mEnd]
    simp [ao,af,ar,bz,b0,ah,ag,jQ,ak,av,aS,bC,bF,b5,b8,bO,bQ,c3,cM,bG,bu,aN,aE,ej,da,db,de,df,gw,fB,fy,lN,aF,bn,aM,aL,aU,bD,bo,cH,ce,aT,aH,bU,aV,ir,ew,hG,eO,lK,nD,nK,bJ,aj,cY,cN,gX,b6,fh,d9,nB,lim,-getElem?_pos,p7,CZ,hrE,hbE,hBE,hl1,hl2,S4.norm,ju S4.len,i6 S4.len,ld S4.len,mr S4.len,qz S4.len,wo S4.len,CY S4.len,-List.map_append,-cf,-cR]
    exact S4.drop rfl
end Mine.Internal
namespace Mine.Internal
theorem q9 (n:Nat) {mu:Mu} (h:WFm mu) {b:Bd} {k:Nat} (hl:b.blks.length≤1000):an prog (n+1) .calls [.d (b.e k)] mu=some (.d (.lst ((cA b.blks).map .str)),mu):=by
  have loop:∀ (bl:List Blk) {x y:Option Val},cB (l7 (an prog n) (.sub (.sub (.loc 2) (.int 1)) (.int 1)) (.cmp .eq (.sub (.loc 2) (.int 0)) (.str .call_))) [1,2] (eB bl) [some (.d (b.e k)),x,y] mu=some (((cA bl).map Dat.str).map .d,mu):=fun bl=>by
    induction bl with
    | nil=>intro x y; rfl
    | cons c r ih =>
      intro x y
      have i:=ih (x:=some (.d (.lst (eS c.sts)))) (y:=some (.d c.tm.e))
      rw [show eB (c::r)=c.e::eB r from rfl]
      cases hc:c.tm with
      | ret =>
        rw [hc] at i
        have hcl:cA (c::r)=cA r:=by unfold cA; rw [List.filterMap_cons]; unfold Blk.callee; rw [hc]
        simp [ao,af,ah,ag,ak,av,aS,aP,aB,az,ax,aQ,ay,aA,d6,jm,eD,c5,cX,bg,lH,q_bind2,bw,aW,aj,si,kH,bR,-getElem?_pos,hc,hcl] at i ⊢
        rw [i]; rfl
      | goto g =>
        rw [hc] at i
        have hcl:cA (c::r)=cA r:=by unfold cA; rw [List.filterMap_cons]; unfold Blk.callee; rw [hc]
        simp [ao,af,ah,ag,ak,av,aS,aP,aB,az,ax,aQ,ay,aA,d6,jm,eD,c5,cX,bg,lR,q_bind2,bw,aW,aj,si,kH,bR,-getElem?_pos,hc,hcl] at i ⊢
        rw [i]; rfl
      | switch o v a e =>
        rw [hc] at i
        have hcl:cA (c::r)=cA r:=by unfold cA; rw [List.filterMap_cons]; unfold Blk.callee; rw [hc]
        simp [ao,af,ah,ag,ak,av,aS,aP,aB,az,ax,aQ,ay,aA,d6,jm,eD,c5,cX,bg,j3,q_bind2,bw,aW,aj,si,kH,bR,-getElem?_pos,hc,hcl] at i ⊢
        rw [i]; rfl
      | call w o l j nx =>
        rw [hc] at i
        have hcl:cA (c::r)=w::cA r:=by unfold cA; rw [List.filterMap_cons]; unfold Blk.callee; rw [hc]
        simp [ao,af,ah,ag,ak,av,aS,aP,aB,az,ax,aQ,ay,aA,dk,d6,ku,eD,c5,cX,bg,uC,ub,q_bind2,bw,aW,aj,si,kH,gB,bR,-getElem?_pos,hc,hcl] at i ⊢
        rw [i]; rfl
  rw [aY (d:=nN) rfl rfl]
  have l:=loop b.blks (x:=none) (y:=none)
  have hcl:(cA b.blks).length≤1048576:=by
    have:=List.length_filterMap_le Blk.callee b.blks
    unfold cA; exact vo hl this rfl
  simp [ao,af,ah,ag,ak,bG,bu,hH,cp,cm,dX,bD,aT,aq,aJ,ff,aj,-getElem?_pos,nN]
  rw [l]
  simp [b5,cn,bo,bU,aV,hG,lim,-getElem?_pos,hcl,-List.map_map]
  exact bB h rfl
set_option tactic.hygienic true in
theorem Gz (n:Nat) {base:Mu} {k0:Nat} (h:WFm base) {row:List Int} (hk:base[k0]? = some (.list (row.map fun x=>.d (.int x)))) (hrow:row.length≤100) {l:List Int} (hl:l.length≤100) :
    ∃ r s N,an prog (n+1) .pool [.d (.lst (l.map .int)),.r k0] base=some (.r s,base++r)∧Src N (base++r) s:=by
  have hkl:k0 < base.length:=(List.getElem?_eq_some_iff.mp hk).1
  have hn:∀ r:List MObj,iJ k0 (base++r)[k0]? = .r k0:=fun r=>by rw [gV hk]; rfl
  have hn0:iJ k0 base[k0]? = .r k0:=by rw [hk]; rfl
  rw [aY (d:=m5) rfl rfl]
  cases l with
  | nil =>
    refine ⟨[.list [.d (.int 0),.d (.int 820607),.r k0]],base.length,base.length+1,?_,by simp,h.app (by simp [sL,pH,t8,sF]; exact ls hkl),0,820607,k0,row,by simp,gV hk,by exact Nat.ne_of_lt hkl,hrow⟩
    simp [ao,af,ar,ah,ag,ak,av,bF,cf,b8,bO,bQ,xI,uh,aP,aB,az,ax,dW,gL,eZ,vd,lj,cg,BX,mV,aF,bn,aM,aL,aU,bD,bo,aT,aH,bU,am,ap,aq,aJ,bM,aV,cC,lQ,qF,jk,za,CQ,bw,iI,aW,xN,tr,v6,tx,wc,FD,aj,cY,eK,ik,je,jF,lim,-getElem?_pos,uy,m5,hn0,cD]
  | cons c l =>
    have hp:=(jH (xs:=l)).1
    generalize hbig:(if c < -1 - c then -1 - c else c)=big
    refine ⟨[.list [],.list [.d (.int (big * (if 10 ^ 18≤big then 1 else 0))),.d (.int (((big.fmod 2147483629+17) * 48271).fmod 2147483647)),.r base.length]],base.length+1,base.length+2,?_,by simp,h.app (by simp [sL,pH,t8,sF]),_,_,base.length,[],by simp; exact ⟨rfl,rfl⟩,by simp,by omega,by simp⟩
    have hg:(if 1000000000000000000≤big then (1:Int) else 0).natAbs < 18446744073709551616:=by split <;> decide
    simp [ao,af,ah,ag,ak,av,bF,cf,b8,bO,bQ,xI,uh,aP,aB,az,ax,dW,gL,eZ,aQ,ay,aA,dE,dF,bX,vd,lj,cg,BX,mV,aF,bn,aM,aL,aU,bD,bo,aT,aH,bU,am,ap,aq,aJ,bH,bM,aV,cC,lQ,qF,jk,za,CQ,bw,iI,aW,CK,xN,tr,zG,Hr,v6,tx,Gd,wc,z4,aj,cY,eK,ik,je,jF,lim,-getElem?_pos,uy,m5,hn0,cD,hp,hbig,hg]
end Mine.Internal
namespace Mine.Internal
theorem I8 {P:Prop} (h:false=true):P:=(Bool.false_ne_true h).elim
mutual
theorem tM:∀ d:Dat,d.plain=true→d.eqv d=some true
  | .none=>fun Z=>rfl
  | .bool a=>fun Z=>congrArg some (beq_self_eq_true a)
  | .int a=>fun Z=>congrArg some (decide_eq_true rfl)
  | .str a=>fun Z=>congrArg some (decide_eq_true rfl)
  | .tup xs=>fun h=>mX xs h
  | .lst xs=>fun h=>mX xs h
  | .any | .dct _ _ | .obj _ _ _ | .rng _ _ _ | .spots _=>fun h=>I8 h
theorem mX:∀ l:List Dat,cE l=true→gd l l=some true
  | []=>fun Z=>rfl
  | x::r=>fun h=>by
    have h:=Eq.mp (Bool.and_eq_true _ _) (show (x.plain && cE r)=true from h)
    show (Dat.eqv x x).bind (fun a=>(gd r r).map fun b=>a && b)=some true
    rw [tM x h.1,mX r h.2]
    rfl
end
theorem to {d:Dat} (h1:d.plain=true) (h2:d.dep≤64):gu d d=some true:=by
  unfold gu
  rw [h1,Nat.min_self,decide_eq_true h2]
  exact tM d h1
theorem l6:∀ {l:List W},cE (l.map .str)=true∧gg (l.map .str)=0
  | []=>⟨rfl,rfl⟩
  | x::r=>by
    obtain ⟨h1,h2⟩:=l6 (l:=r)
    exact ⟨by rw [List.map_cons,vc,h1]; rfl,by rw [List.map_cons,qV,h2]; rfl⟩
theorem AT {l:List W}:gu (.lst (l.map .str)) (.lst (l.map .str))=some true :=
  to (by rw [B8]; exact l6.1) (by rw [BW,l6.2]; decide)
theorem uD:∀ {l:List V},cE (l.map V.e)=true∧gg (l.map V.e)≤1
  | []=>⟨rfl,by rw [List.map_nil,Jw]; decide⟩
  | x::r=>by
    obtain ⟨h1,h2⟩:=uD (l:=r)
    refine ⟨by rw [List.map_cons,vc,h1]; cases x <;> rfl,?_⟩
    rw [List.map_cons,qV]
    have:(V.e x).dep≤1:=by cases x <;> exact Nat.le_of_ble_eq_true rfl
    omega
noncomputable def bV (ps:List V) (z:Int):Dat:=.tup [.lst (ps.map V.e),.tup [.int z,.bool true]]
theorem vp {ps:List V} {z:Int}:gu (bV ps z) (bV ps z)=some true:=by
  have h:=uD (l:=ps)
  refine to ?_ ?_
  · unfold bV
    rw [Kn,vc,B8,h.1]; rfl
  · unfold bV
    rw [Lj,qV,BW]
    exact Nat.succ_le_succ (Nat.max_le.2 ⟨Nat.succ_le_succ (lb h.2 rfl),Nat.le_of_ble_eq_true rfl⟩)
noncomputable def ij (a:List (Option Val)) (x y z:Option Val):ae:=a++[x,y,z]
theorem wN (p:MD→Bool) (g:MD→Dat) {f:ae→Mu→Ro} {mu:Mu} {a:List (Option Val)} {z:Option Val} (ha:a.length=14):∀ (ms:List MD) {x y:Option Val},
    (∀ m ∈ ms,f (ij a (some (.d (.str m.nm))) (some (.d (.bool m.part))) z) mu=some (if p m then some (.d (g m)) else none,mu)) →
    cB f [14,15] (aZ ms) (ij a x y z) mu=some (((ms.filter p).map g).map .d,mu)
  | [],x,y,h=>rfl
  | m::r,x,y,h=>by
    have e1:b4 [14,15] (.tup [.str m.nm,.bool m.part]) (ij a x y z)=some (ij a (some (.d (.str m.nm))) (some (.d (.bool m.part))) z):=by
      rw [H6,if_pos (show [14,15].length=[Dat.str m.nm,Dat.bool m.part].length from rfl)]
      simp only [List.map_cons,List.map_nil,iM,bg]
      have l1:(ij a x y z).length=17:=by unfold ij; simp [ha]
      have l2:(ij a x y z).set 14 (some (.d (.str m.nm)))=ij a (some (.d (.str m.nm))) y z:=by unfold ij; simp [ha]
      have l3:(ij a (some (.d (.str m.nm))) y z).length=17:=by unfold ij; simp [ha]
      have l4:(ij a (some (.d (.str m.nm))) y z).set 15 (some (.d (.bool m.part)))=ij a (some (.d (.str m.nm))) (some (.d (.bool m.part))) z:=by unfold ij; simp [ha]
      rw [l1,if_pos (by decide),l2,l3,if_pos (by decide),l4]
    have ih:=wN p g ha r (x:=some (.d (.str m.nm))) (y:=some (.d (.bool m.part))) (f:=f) (mu:=mu) fun k hk=>h k (.tail _ hk)
    rw [show aZ (m::r)=.tup [.str m.nm,.bool m.part]::aZ r from rfl,eD,e1,c5,h m (.head _)]
    rw [List.filter_cons]
    cases hp:p m with
    | true=>rw [if_pos rfl,cX,ih,eJ]; rfl
    | false=>rw [if_neg (by decide),cX,ih,wj]; rfl
theorem uz {P:W→Option Bd} {rows:List St} {m:MD}:bZ P (oG rows m)=if m.part then none else P m.nm:=by
  unfold bZ oG
  cases m.part <;> rfl
theorem qW {P:W→Option Bd}:∀ (ms:List MD) {rows:List St},((dC rows ms).filter fun c=>(bZ P c).isNone).map (·.w)=(ms.filter fun m=>(if m.part then none else P m.nm).isNone).map (·.nm)
  | [],_=>rfl
  | m::r,rows=>by
    rw [zz,List.filter_cons,List.filter_cons,uz]
    cases ((if m.part then none else P m.nm).isNone) with
    | true=>rw [if_pos rfl,if_pos rfl,List.map_cons,List.map_cons,qW r]; rfl
    | false=>rw [if_neg (by decide),if_neg (by decide),qW r]
theorem qy {P:W→Option Bd} {g:MD→Bd}:∀ (ms:List MD) {rows:List St},(∀ m ∈ ms,P m.nm=some (g m))→(dC rows ms).filterMap (bZ P)=(ms.filter fun m=>!m.part).map g
  | [],_,_=>rfl
  | m::r,rows,h=>by
    rw [zz,List.filterMap_cons,List.filter_cons,uz,h m (.head _)]
    cases m.part with
    | true=>exact qy r fun k hk=>h k (.tail _ hk)
    | false=>exact congrArg (g m::·) (qy r fun k hk=>h k (.tail _ hk))
theorem tW {c0:Int} {ms:List MD}:∀ c ∈ dC (bA c0) ms,c.rows.length≤6∧∀ t ∈ c.rows,cP t:=fun c hc=>by
  refine xe1 (qK _ hc) fun m r_=>aO r_ fun hm r_=>xe1 r_ fun rows r_=>aO r_ fun hr e4_=>?_
  subst e4_
  rcases hr with rfl | rfl
  · simp [oG,bA,Cy,Cc,yu,Cd]
  · simp [oG,mRowsN,yu]
theorem vg {P:W→Option Bd} {M:Nat} (hM:6≤M) (hP:∀ c K,bZ P c=some K→Fine M K.blks) (c0:Int) (ms:List MD):cA ((aK c0 ms).inl P).blks=(ms.filter fun m=>(if m.part then none else P m.nm).isNone).map (·.nm):=by
  rw [(gH (B:=aK c0 ms) (P:=P) rfl).1]
  unfold cA
  rw [List.filterMap_append]
  have h1:=mM (P:=P) (last:=mRowsN++mEnd) (cs:=dC (bA c0) ms) (n:=(dC (bA c0) ms).length+1) (s:=(aK c0 ms).locs.length) (k:=0)
  have h2:=oE (mw (P:=P) (last:=mRowsN++mEnd) hP ⟨by simp [mRowsN,mEnd]; exact Ib hM,by simp [mRowsN,mEnd,Cy,Cc,yu,Cd]⟩ (dC (bA c0) ms) (n:=(dC (bA c0) ms).length+1) (s:=(aK c0 ms).locs.length) (k:=0) fun c hc=>⟨by have:=(tW c hc).1; exact Nat.le_trans this hM,(tW c hc).2⟩).1.nc
  unfold cA at h1 h2
  rw [h1,h2,List.append_nil,qW]
theorem E4 {P:W→Option Bd} {g:MD→Bd} {c0:Int} {ms:List MD} (h:∀ m ∈ ms,P m.nm=some (g m)):((aK c0 ms).inl P).blks.length=(aK c0 ms).blks.length+li (((ms.filter fun m=>!m.part).map g).map fun K=>K.blks.length)∧((aK c0 ms).inl P).locs.length=(aK c0 ms).locs.length+li (((ms.filter fun m=>!m.part).map g).map fun K=>K.locs.length):=by
  refine aO (gH (B:=aK c0 ms) (P:=P) (last:=mRowsN++mEnd) (cs:=dC (bA c0) ms) rfl) fun h1 h2=>?_
  rw [h1,h2,List.length_append,List.length_append,iW,lT,ki,qy ms h]
  refine ⟨?_,rfl⟩
  show _=(cZ 0 (dC (bA c0) ms) (mRowsN++mEnd)).length+_
  rw [ie]
theorem zp {P:W→Option Bd} {c0:Int} {ms:List MD} (hm:ms.length≤3) (h:∀ c K,bZ P c=some K→K.blks.length≤20):((aK c0 ms).inl P).blks.length≤64:=by
  rw [(gH (B:=aK c0 ms) (P:=P) rfl).1,List.length_append,iW,lT,hV]
  have:=kz (f:=fun K=>K.blks.length) h (dC (bA c0) ms)
  rw [hV] at this
  have:ms.length * 20≤3 * 20:=Nat.mul_le_mul_right _ hm
  omega
theorem mQ {last:List St} {b:Blk}:∀ {cs:List Ca} {k:Nat},b ∈ cZ k cs last→b=⟨last,.ret⟩∨∃ c ∈ cs,b.sts=c.rows∧∃ nx,b.tm=.call c.w c.o c.l c.j nx
  | [],_,h=>.inl (List.mem_singleton.mp h)
  | c::cs,k,h=>by
    rcases List.mem_cons.mp h with rfl | h
    · exact .inr ⟨c,.head _,rfl,_,rfl⟩
    · rcases mQ h with h | ⟨d,hd,h⟩
      · exact .inl h
      · exact .inr ⟨d,.tail _ hd,h⟩
theorem oS {f:Bd→Nat}:∀ {l:List Bd},((l.map fun K=>(f K:Int)).sum)=(li (l.map f):Int)
  | []=>rfl
  | x::r=>by
    rw [List.map_cons,List.map_cons,List.sum_cons,oS]
    show (f x:Int)+(li (r.map f):Int)=((f x+li (r.map f):Nat):Int)
    exact Int.natCast_add _ _
end Mine.Internal
namespace Mine.Internal
theorem Jx {d:HD} {two:Bool}:PAt [.h_,.g_] [(au d).e 0,(be two).e 0] 40 (Ph d) .g_:=by
  refine ⟨rfl,be two,0,rfl,.inr ⟨rfl,⟨[.live 2],.call .h_ (.copy 1 none) 2 none 1⟩,(be two).blks.tail,?_,rfl,by simp⟩⟩
  cases two <;> rfl
theorem Jv {d:HD} (hd:d.OK) {g:Dat}:PAt [.h_,.g_] [(au d).e 0,g] 40 (Ph d) .h_:=by
  refine ⟨rfl,au d,0,rfl,.inl ⟨rfl,qQ hd,?_⟩⟩
  have:=wg hd
  show (iK (fE d):Int)≤40
  exact ic this rfl
theorem Ht {d:HD} (hd:d.OK):PAt [.h_] [(au d).e 0] 40 (Ph d) .h_:=by
  refine ⟨rfl,au d,0,rfl,.inl ⟨rfl,qQ hd,?_⟩⟩
  have:=wg hd
  show (iK (fE d):Int)≤40
  exact ic this rfl
theorem Jo {d:HD} {two:Bool} (hd:d.OK) {g:Dat}:PAt [.h_,.g_] [(au d).e 0,g] 90 (B2 (au d) (bp d two)) .h_:=by
  refine ⟨rfl,au d,0,rfl,.inl ⟨rfl,qQ hd,?_⟩⟩
  have:=wg hd
  show (iK (fE d):Int)≤90
  exact ic this rfl
theorem Jn {d:HD} {two:Bool} (hd:d.OK) {q:Nat}:PAt [.h_,.g_] [(au d).e 0,(bp d two).e q] 90 (B2 (au d) (bp d two)) .g_:=by
  refine ⟨rfl,bp d two,q,rfl,.inl ⟨rfl,DI hd,?_⟩⟩
  have:=HI (two:=two) hd
  exact ic this rfl
theorem z2 {c0:Int} {ms:List MD} (hok:∀ m ∈ ms,m.OK) {ws:List W} {ds:List Dat} {most:Int} {P:W→Option Bd} (h1:PAt ws ds most P .h_) (h2:PAt ws ds most P .g_):∀ b ∈ (aK c0 ms).blks,b.sts.length≤1000∧∀ w o l s nx,b.tm=.call w o l s nx→PAt ws ds most P w:=fun b hb=>by
  rcases mQ hb with rfl | ⟨c,hc,e1,nx,e2⟩
  · exact ⟨by simp [mRowsN,mEnd],fun w o l s nx h=>by cases h⟩
  · refine xe1 (qK _ hc) fun m r_=>aO r_ fun hm r_=>xe1 r_ fun rows r_=>aO r_ fun hr e4_=>?_
    subst e4_
    have:=(tW _ hc).1
    refine ⟨by rw [e1]; exact lb this rfl,fun w o l s nx' h=>?_⟩
    rw [e2] at h
    cases h
    rcases (hok m hm).nm with h | h <;> (show PAt ws ds most P m.nm) <;> rw [h]
    · exact h1
    · exact h2
theorem EQ {two:Bool} {ws:List W} {ds:List Dat} {most:Int} {P:W→Option Bd} (h1:PAt ws ds most P .h_):∀ b ∈ (be two).blks,b.sts.length≤1000∧∀ w o l s nx,b.tm=.call w o l s nx→PAt ws ds most P w:=fun b hb=>by
  rcases mQ hb with rfl | ⟨c,hc,e1,nx,e2⟩
  · exact ⟨by simp [gLast],fun w o l s nx h=>by cases h⟩
  · refine gF (sB c hc) fun g1 g2 g3=>?_
    refine ⟨by rw [e1,g3]; decide,fun w o l s nx' h=>?_⟩
    rw [e2] at h
    cases h
    rw [g1]; exact h1
theorem sk {c0:Int} {ms:List MD}:(aK c0 ms).blks.length=ms.length+1:=by
  show (cZ 0 (dC (bA c0) ms) (mRowsN++mEnd)).length=_
  rw [ie,hV]
theorem HF {two:Bool}:(be two).blks.length≤3:=by
  show (cZ 0 (fQ two) gLast).length≤3
  have:=ka (two:=two)
  rw [ie]; exact la this rfl
theorem Hs {ps:List V} {z:Int} {mu:Mu}:aX mu (.d (bV ps z)) (.d (.int 1))=some (.d (.tup [.int z,.bool true])):=rfl
noncomputable def Gx:CS:=(.asg 1 (.call .pool (.of [(.loc 0),(.list true (.of [(.int 0),(.int 1),(.int 0),(.int 9),(.int 0),(.int 0),(.int 4),(.int 1),(.int 1),(.int 1),(.int 0)]))])))
noncomputable def FU:CS:=(.multi [8,9] (.of [(.call .small (.of [(.loc 1)])),(.call .middle (.of [(.loc 1)]))]))
noncomputable def GF:CS:=(.unp [10,11] (.call .mainL (.of [(.loc 1)])))
noncomputable def Gm:CS:=(.asg 2 (.sdisp true [.h_,.g_] (.of [(.loc 8),(.loc 9)])))
noncomputable def EI:CS:=(.asg 3 (.call .told (.of [(.loc 2),(.loc 10)])))
noncomputable def FB:CS:=(.ifs (.not (.sub (.sub (.loc 3) (.int 1)) (.int 1))) (.of [(.ret (.bool false))]) .nil)
noncomputable def Ge:CS:=(.asg 4 (.call .inlined (.of [(.loc 10),(.loc 2),(.int 40)])))
noncomputable def EB:CS:=(.ifs (.cmp .ne (.call .calls (.of [(.loc 4)])) (.compif (.loc 14) [14,15] (.loc 11) (.or (.of [(.loc 15),(.cmp .eq (.loc 14) (.str .g_))])))) (.of [(.ret (.bool false))]) .nil)
noncomputable def G4:CS:=(.asg 5 (.call .inlined (.of [(.loc 9),(.sdisp true [.h_] (.of [(.loc 8)])),(.int 40)])))
noncomputable def Ac:CS:=(.asg 6 (.call .inlined (.of [(.loc 10),(.sdisp true [.h_,.g_] (.of [(.loc 8),(.loc 5)])),(.int 90)])))
noncomputable def AQ:CS:=(.ifs (.or (.of [(.cmp .ne (.call .calls (.of [(.loc 5)])) (.list false (.of []))),(.cmp .ne (.call .calls (.of [(.loc 6)])) (.compif (.loc 14) [14,15] (.loc 11) (.loc 15)))])) (.of [(.ret (.bool false))]) .nil)
noncomputable def Bg:CS:=(.ifs (.or (.of [(.cmp .ne (.call .told (.of [(.loc 2),(.loc 4)])) (.loc 3)),(.cmp .ne (.call .told (.of [(.sdisp true [.h_,.g_] (.of [(.loc 8),(.loc 5)])),(.loc 6)])) (.loc 3))])) (.of [(.ret (.bool false))]) .nil)
noncomputable def Bs:CS:=(.asg 7 (.compif (.sub (.sdisp true [.h_,.g_] (.of [(.loc 8),(.loc 5)])) (.loc 14)) [14,15] (.loc 11) (.not (.loc 15))))
noncomputable def Bx:CS:=(.ifs (.cmp .ne (.bi .len (.of [(.attr (.loc 6) .locals)])) (.bin false .add (.bi .len (.of [(.attr (.loc 10) .locals)])) (.bi .sum (.of [(.comp false (.bi .len (.of [(.attr (.loc 16) .locals)])) [16] (.loc 7))])))) (.of [(.ret (.bool false))]) .nil)
noncomputable def AB:CS:=(.ifs (.cmp .ne (.bi .len (.of [(.attr (.loc 6) .blocks)])) (.bin false .add (.bi .len (.of [(.attr (.loc 10) .blocks)])) (.bi .sum (.of [(.comp false (.bi .len (.of [(.attr (.loc 16) .blocks)])) [16] (.loc 7))])))) (.of [(.ret (.bool false))]) .nil)
noncomputable def AX:CS:=(.multi [12,13] (.of [(.new .body (.of [(.str .h_),(.int 1),(.bin false .mul (.list false (.of [(.tup (.of [.byte,(.bool true),.none]))])) (.int 2))])),(.new .body (.of [(.str .main_),(.int 0),(.list false (.of [(.tup (.of [.byte,(.bool true),.none]))]))]))]))
noncomputable def Aj:CS:=(.expr (.app (.attr (.loc 12) .blocks) (.list false (.of [(.list false (.of [(.tup (.of [(.str .assign_),(.tup (.of [(.int 0),(.tup (.of []))])),(.tup (.of [(.str .binary_),(.str .plus_),(.call .place (.of [(.int 1)])),(.call .number (.of [(.int 1)]))]))]))])),(.tup (.of [(.str .return_)]))]))))
noncomputable def Bt:CS:=(.expr (.app (.attr (.loc 13) .blocks) (.list false (.of [(.list false (.of [])),(.tup (.of [(.str .call_),(.tup (.of [(.str .fn_),(.str .h_),(.tup (.of []))])),(.tup (.of [(.call .number (.of [(.int 2)]))])),(.tup (.of [(.int 0),(.tup (.of []))])),(.int 1)]))]))))
noncomputable def AE:CS:=(.expr (.app (.attr (.loc 13) .blocks) (.list false (.of [(.list false (.of [])),(.tup (.of [(.str .return_)]))]))))
noncomputable def AM:CS:=(.ret (.cmp .eq (.call .told (.of [(.sdisp true [] .nil),(.call .inlined (.of [(.frz (.loc 13)),(.sdisp true [.h_] (.of [(.frz (.loc 12))]))]))])) (.tup (.of [(.list false (.of [])),(.tup (.of [(.int 3),(.bool true)]))]))))
theorem AD:f_law.body=CSs.cons Gx (CSs.cons FU (CSs.cons GF (CSs.cons Gm (CSs.cons EI (CSs.cons FB (CSs.cons Ge (CSs.cons EB (CSs.cons G4 (CSs.cons Ac (CSs.cons AQ (CSs.cons Bg (CSs.cons Bs (CSs.cons Bx (CSs.cons AB (CSs.cons AX (CSs.cons Aj (CSs.cons Bt (CSs.cons AE (CSs.cons AM (.nil)))))))))))))))))))):=rfl
theorem yx {C:Calls} {loc:ae} {mu:Mu}:∀ (xs:List Int),cV C loc mu (.of (xs.map .int))=some (xs.map fun x=>.d (.int x),mu)
  | []=>by rw [List.map_nil,am,aF]; rfl
  | x::r=>by rw [List.map_cons,ap,bn,av,aM,yx r,aL]; rfl
theorem Bj {C:Calls} {loc:ae} {mu:Mu}:cV C loc mu (.cons (.int 0) (.cons (.int 1) (.cons (.int 0) (.cons (.int 9) (.cons (.int 0) (.cons (.int 0) (.cons (.int 4) (.cons (.int 1) (.cons (.int 1) (.cons (.int 1) (.cons (.int 0) .nil)))))))))))=some ([.d (.int 0),.d (.int 1),.d (.int 0),.d (.int 9),.d (.int 0),.d (.int 0),.d (.int 4),.d (.int 1),.d (.int 1),.d (.int 1),.d (.int 0)],mu) :=
  yx [0,1,0,9,0,0,4,1,1,1,0]
theorem wZ (F:Bd→Nat) {f:ae→Mu→Ro} {mu:Mu} {t:Nat}:∀ (bs:List (Bd × Nat)) (loc:ae),t < loc.length→(∀ x ∈ bs,f (loc.set t (some (.d (x.1.e x.2)))) mu=some (some (.d (.int (F x.1))),mu))→cB f [t] (bs.map fun x=>x.1.e x.2) loc mu=some ((eI (bs.map fun x=>(F x.1:Int))).map .d,mu)
  | [],loc,ht,h=>rfl
  | x::r,loc,ht,h=>by
    have ih:=wZ F r (loc.set t (some (.d (x.1.e x.2)))) (by rw [List.length_set]; exact ht) fun y hy=>by rw [List.set_set]; exact h y (.tail _ hy)
    rw [List.map_cons,eD,cr,iM,if_pos ht,bg,c5,h x (.head _),cX,ih,eJ]
    rfl
theorem Du {P:W→Option Bd} {c0:Int} {ms:List MD} (hm:ms.length≤3) (h:∀ c K,bZ P c=some K→K.locs.length≤20):((aK c0 ms).inl P).locs.length≤63:=by
  rw [(gH (B:=aK c0 ms) (P:=P) rfl).2,List.length_append,ki]
  have:=kz (f:=fun K=>K.locs.length) h (dC (bA c0) ms)
  rw [hV] at this
  have:ms.length * 20≤3 * 20:=Nat.mul_le_mul_right _ hm
  have:(aK c0 ms).locs.length=3:=rfl
  omega
theorem qH {mu:Mu} {l:List W}:dY mu .ne (.d (.lst (l.map .str))) (.d (.lst (l.map .str)))=some false:=by
  show (gu (.lst (l.map .str)) (.lst (l.map .str))).map _=_
  rw [AT]; rfl
theorem Gg {mu:Mu}:dY mu .ne (.d (.lst [])) (.d (.lst []))=some false:=qH (l:=[])
theorem Et {mu:Mu} {ps:List V} {z:Int}:dY mu .ne (.d (bV ps z)) (.d (bV ps z))=some false:=by
  show (gu (bV ps z) (bV ps z)).map _=_
  rw [vp]; rfl
theorem zZ {mu:Mu} {a b:Int} (h:a=b):dY mu .ne (.d (.int a)) (.d (.int b))=some false:=by
  subst h
  show (some (decide (a=a))).map (!·)=some false
  rw [decide_eq_true rfl]; rfl
theorem DU {mu:Mu} {a b:W}:dY mu .eq (.d (.str a)) (.d (.str b))=some (decide (a=b)):=rfl
noncomputable def sBd:Bd:=⟨.h_,1,[aa,aa],[⟨[.assign 0 none (.bin .plus_ (.copy 1 none) (.const 1))],.ret⟩]⟩
noncomputable def cBd:Bd:=⟨.main_,0,[aa],[⟨[],.call .h_ (.const 2) 0 none 1⟩,⟨[],.ret⟩]⟩
noncomputable def Ps:W→Option Bd:=fun w=>if w=.h_ then some sBd else none
theorem C2:Small sBd:=⟨rfl,by simp [sBd,Cb],by simp [sBd],by simp [sBd]⟩
theorem Hl:Run (fun Z=>none) 0 (cBd.inl Ps).blks 3 0 ⟨[],[0]⟩ [] (.i 3):=by
  refine .goto (t:=2) (ps:=[]) (qs:=[]) (τ:=⟨[(2,.i 2)],[0,1,2]⟩) rfl (by decide) (by decide) (by decide) rfl ?_
  refine .goto (t:=1) (ps:=[]) (qs:=[]) (τ:=⟨[(0,.i 3)],[0]⟩) rfl (by decide) (by decide) (by decide) rfl ?_
  exact .ret rfl (by decide) (by decide) (by decide) rfl rfl
theorem c_inl2 {n:Nat} {a b:Val} {base:Mu}:an prog (n+1) .inlined [a,b] base=an prog (n+1) .inlined [a,b,.d (.int 12)] base:=rfl
theorem DW {base:Mu} (hW:WFm base):∃ q,an prog 12 .inlined [.d (cBd.e 0),.d (.dct [.h_] [sBd.e 0])] base=some (.d ((cBd.inl Ps).e q),base)∧an prog 12 .told [.d (.dct [] []),.d ((cBd.inl Ps).e q)] base=some (.d (bV [] 3),base):=by
  have hp:PAt [.h_] [sBd.e 0] 12 Ps .h_:=⟨rfl,sBd,0,rfl,.inl ⟨rfl,C2,by simp [vP,vm,sBd]⟩⟩
  obtain ⟨q,e⟩:=kY 4 (B:=cBd) (P:=Ps) (ws:=[.h_]) (ds:=[sBd.e 0]) (most:=12) hW (fun b hb=>by
    have:b=⟨[],.call .h_ (.const 2) 0 none 1⟩∨b=⟨[],.ret⟩:=by simpa [cBd] using hb
    rcases this with rfl | rfl
    · exact ⟨by simp,fun w o l s nx h=>by cases h; exact hp⟩
    · exact ⟨by simp,fun w o l s nx h=>by cases h⟩) (by decide) (by decide)
  refine ⟨q,?_,?_⟩
  · exact c_inl2.trans e
  · exact qb 7 (P:=fun Z=>none) (ws0:=[]) (ds0:=[]) (B:=cBd.inl Ps) (q:=q) (h:=0) (t:=3) (ps:=[]) (v:=.i 3) (fun w K h=>by exact nS h) rfl (by decide) (by decide) (by decide) (by decide) hW Hl
end Mine.Internal
namespace Mine.Internal
theorem Bq (l:List Int) (h:l.length≤63):∃ m,an prog 13 .law [.d (.lst (l.map .int))] []=some (.d (.bool true),m):=by
  refine xe3 (Gz 11 (base:=[.list (([0,1,0,9,0,0,4,1,1,1,0]:List Int).map fun x=>.d (.int x))]) (k0:=0) (row:=[0,1,0,9,0,0,4,1,1,1,0]) rfl rfl (by decide) (l:=l) (by exact lb h rfl)) fun r s N r_=>aO r_ fun p1 S0=>?_
  generalize hB0:[MObj.list (([0,1,0,9,0,0,4,1,1,1,0]:List Int).map fun x=>.d (.int x))]++r=base0 at p1 S0
  refine xe2 (Dk 9 S0) fun d base1 r_=>gF r_ fun hd S1 p2=>?_
  refine xe2 (AV 10 S1) fun two base2 r_=>aO r_ fun S2 p3=>?_
  refine xe3 (GX 9 S2) fun c0 ms mu r_=>JS r_ fun h0 hok hml S3 p4=>?_
  refine xe5 (EX hd (two:=two) (c0:=c0) h0 hok hml) fun ps z t t1 t2 r_=>IR r_ fun hps ht ht1 ht2 R0 R1 R2=>?_
  have hW:=S3.wf
  have hP0:∀ w K,B2 (au d) (be two) w=some K→∃ q,c9 w [.h_,.g_] [(au d).e 0,(be two).e 0]=some (K.e q):=fun w K hw=>by
    unfold B2 at hw
    split at hw
    · rename_i e; (replace hw:=iS hw; subst hw); subst e; exact ⟨0,rfl⟩
    · split at hw
      · rename_i e; (replace hw:=iS hw; subst hw); subst e; exact ⟨0,rfl⟩
      · exact nS hw
  have p5:=qb 5 (q:=0) hP0 rfl (by rw [sk]; exact la hml rfl) ht (by decide) (by exact lb r_.1 rfl) hW R0
  refine xe1 (kY 4 (B:=aK c0 ms) (P:=Ph d) hW (z2 hok (Jv hd) (Jx (two:=two))) (by rw [sk]; exact la hml rfl) (by show 3≤20; decide)) fun q1 p6=>?_
  refine xe1 (kY 4 (B:=be two) (P:=Ph d) hW (EQ (Ht hd)) (by have:=HF (two:=two); exact lb this rfl) (by show 3≤20; decide)) fun q2 p7=>?_
  refine xe1 (kY 4 (B:=aK c0 ms) (P:=B2 (au d) (bp d two)) hW (z2 hok (Jo hd) (Jn hd (q:=q2))) (by rw [sk]; exact la hml rfl) (by show 3≤20; decide)) fun q3 p8=>?_
  have hP2:∀ w K,B2 (au d) (bp d two) w=some K→∃ q,c9 w [.h_,.g_] [(au d).e 0,(bp d two).e q2]=some (K.e q):=fun w K hw=>by
    unfold B2 at hw
    split at hw
    · rename_i e; (replace hw:=iS hw; subst hw); subst e; exact ⟨0,rfl⟩
    · split at hw
      · rename_i e; (replace hw:=iS hw; subst hw); subst e; exact ⟨q2,rfl⟩
      · exact nS hw
  have hpk1:∀ c K,bZ (Ph d) c=some K→K.blks.length≤20:=fun c K hp=>Nat.le_trans (qZ c K hp).1 (by decide)
  have hpk2:∀ c K,bZ (B2 (au d) (bp d two)) c=some K→K.blks.length≤20∧Fine 9 K.blks:=fun c K hp=>by
    unfold bZ at hp
    cases hj:c.j <;> rw [hj] at hp
    · dsimp only [B2] at hp
      split at hp
      · (replace hp:=iS hp; subst hp); exact ⟨Nat.le_trans mI (by decide),⟨mF d,tV d,fun b hb=>Nat.le_trans (wb hd b hb) (by decide)⟩⟩
      · split at hp
        · (replace hp:=iS hp; subst hp); exact ⟨Nat.le_trans lC (by decide),j4 hd⟩
        · exact nS hp
    · exact nS hp
  have l1:=zp (c0:=c0) hml hpk1
  have l2:=zp (c0:=c0) hml fun c K hp=>(hpk2 c K hp).1
  have p9:=qb 5 (B:=(aK c0 ms).inl (Ph d)) (q:=q1) hP0 rfl (by exact lb l1 rfl) ht1 (by decide) (by exact lb r_.1 rfl) hW R1
  have p10:=qb 5 (B:=(aK c0 ms).inl (B2 (au d) (bp d two))) (q:=q3) hP2 rfl (by exact lb l2 rfl) ht2 (by decide) (by exact lb r_.1 rfl) hW R2
  have p11:=q9 11 hW (b:=(aK c0 ms).inl (Ph d)) (k:=q1) (by exact lb l1 rfl)
  have p12:=q9 11 hW (b:=bp d two) (k:=q2) (by have:=lC (d:=d) (two:=two); exact lb this rfl)
  have p13:=q9 11 hW (b:=(aK c0 ms).inl (B2 (au d) (bp d two))) (k:=q3) (by exact lb l2 rfl)
  rw [vg (Nat.le_refl 6) (vE hd)] at p11
  rw [oE (j4 hd).nc] at p12
  rw [vg (M:=9) (by decide) fun c K hp=>(hpk2 c K hp).2] at p13
  change an prog 12 .pool [.d (.lst (l.map .int)),.r 0] [.list [.d (.int 0),.d (.int 1),.d (.int 0),.d (.int 9),.d (.int 0),.d (.int 0),.d (.int 4),.d (.int 1),.d (.int 1),.d (.int 1),.d (.int 0)]]=some (.r s,base0) at p1
  change an prog 12 .small _ _=_ at p2
  change an prog 12 .middle _ _=_ at p3
  change an prog 12 .mainL _ _=_ at p4
  change an prog 12 .told _ _=some (.d (bV ps z),mu) at p5
  change an prog 12 .inlined _ _=_ at p6
  change an prog 12 .inlined _ _=some (.d ((bp d two).e q2),mu) at p7
  change an prog 12 .inlined _ _=_ at p8
  change an prog 12 .told _ _=some (.d (bV ps z),mu) at p9
  change an prog 12 .told _ _=some (.d (bV ps z),mu) at p10
  change an prog 12 .calls _ _=_ at p11
  change an prog 12 .calls _ _=some (.d (.lst []),mu) at p12
  change an prog 12 .calls _ _=_ at p13
  have n0:=S0.norm0
  have n1:=S1.norm0
  have n2:=S2.norm0
  have hM:∀ {b1:List Dat},(mu++sC N .h_ 1 [aa,aa] b1 []).length=N+4:=fun {_}=>yJ S3.len
  have p14:an prog 12 .initBody _ _=_:=jj 11 (N:=N) S3.len (nm:=.h_) (ac:=1) (locs:=[aa,aa]) (by decide)
  have p15:an prog 12 .initBody _ _=_:=jj 11 (N:=N+4) (hM (b1:=[])) (nm:=.main_) (ac:=0) (locs:=[aa]) (by decide)
  refine xe1 (DW (base:=mu++(.frz (sBd.e 0)::.frz (.lst [aa,aa])::.frz (.lst [Blk.e ⟨[.assign 0 none (.bin .plus_ (.copy 1 none) (.const 1))],.ret⟩])::.frz (.spots 0)::.frz (cBd.e 0)::.frz (.lst [aa])::.frz (.lst [Blk.e ⟨[],.call .h_ (.const 2) 0 none 1⟩,Blk.e ⟨[],.ret⟩])::.frz (.spots 0)::[])) (S3.app (by unfold gh; rfl))) fun q5 r_=>aO r_ fun p16 p17=>?_
  have hW2:∀ b1 b2,WFm ((mu++sC N .h_ 1 [aa,aa] b1 [])++sC (N+4) .main_ 0 [aa] b2 []):=fun b1 b2=>by
    refine (S3.app (iL fun k=>rfl)).app ?_
    rw [List.length_append,hM]
    exact iL (N:=N+4) fun k=>rfl
  have p18:∀ b1 b2,an prog 12 .place _ _=_:=fun b1 b2=>ft 11 (hW2 b1 b2) 1
  have p19:∀ b1 b2 v,an prog 12 .number _ _=_:=fun b1 b2 v=>hO 11 (hW2 b1 b2) v
  have X0:∀ b1 r,((mu++sC N .h_ 1 [aa,aa] b1 [])++r)[N]? = _:=fun b1 r=>gV (ju S3.len)
  have X2:∀ b1 r,((mu++sC N .h_ 1 [aa,aa] b1 [])++r)[N+2]? = _:=fun b1 r=>gV (i6 S3.len)
  have XS:∀ b1 r x,((mu++sC N .h_ 1 [aa,aa] b1 [])++r).set (N+2) (.list [.d x])=(mu++sC N .h_ 1 [aa,aa] [x] [])++r:=fun b1 r x=>by rw [qT (i6 S3.len),jO S3.len]
  have Y0:∀ b1 b2,((mu++sC N .h_ 1 [aa,aa] b1 [])++sC (N+4) .main_ 0 [aa] b2 [])[N+4]? = _:=fun b1 b2=>ju hM
  have Y2:∀ b1 b2,((mu++sC N .h_ 1 [aa,aa] b1 [])++sC (N+4) .main_ 0 [aa] b2 [])[N+4+2]? = _:=fun b1 b2=>i6 hM
  have YS:∀ b1 b2 x,((mu++sC N .h_ 1 [aa,aa] b1 [])++sC (N+4) .main_ 0 [aa] b2 []).set (N+4+2) (.list [.d x])=((mu++sC N .h_ 1 [aa,aa] b1 [])++sC (N+4) .main_ 0 [aa] [x] []):=fun b1 b2 x=>jO hM
  have YT:∀ b1 b2 x y,((mu++sC N .h_ 1 [aa,aa] b1 [])++sC (N+4) .main_ 0 [aa] b2 []).set (N+4+2) (.list [.d x,.d y])=((mu++sC N .h_ 1 [aa,aa] b1 [])++sC (N+4) .main_ 0 [aa] [x,y] []):=fun b1 b2 x y=>nL hM
  have Z13:freeze 4 ((mu++sC N .h_ 1 [aa,aa] [Blk.e ⟨[.assign 0 none (.bin .plus_ (.copy 1 none) (.const 1))],.ret⟩] [])++sC (N+4) .main_ 0 [aa] [Blk.e ⟨[],.call .h_ (.const 2) 0 none 1⟩,Blk.e ⟨[],.ret⟩] []) (.r (N+4))=some (cBd.e 0,(mu++sC N .h_ 1 [aa,aa] [Blk.e ⟨[.assign 0 none (.bin .plus_ (.copy 1 none) (.const 1))],.ret⟩] [])++(.frz (cBd.e 0)::.frz (.lst [aa])::.frz (.lst [Blk.e ⟨[],.call .h_ (.const 2) 0 none 1⟩,Blk.e ⟨[],.ret⟩])::.frz (.spots 0)::[])):=qz hM
  have Z12:∀ R,freeze 4 ((mu++sC N .h_ 1 [aa,aa] [Blk.e ⟨[.assign 0 none (.bin .plus_ (.copy 1 none) (.const 1))],.ret⟩] [])++R) (.r N)=some (sBd.e 0,mu++(.frz (sBd.e 0)::.frz (.lst [aa,aa])::.frz (.lst [Blk.e ⟨[.assign 0 none (.bin .plus_ (.copy 1 none) (.const 1))],.ret⟩])::.frz (.spots 0)::R)):=fun R=>by
    have:(mu++sC N .h_ 1 [aa,aa] [Blk.e ⟨[.assign 0 none (.bin .plus_ (.copy 1 none) (.const 1))],.ret⟩] [])++R=mu++sC N .h_ 1 [aa,aa] [Blk.e ⟨[.assign 0 none (.bin .plus_ (.copy 1 none) (.const 1))],.ret⟩] R:=by simp [sC]
    rw [this]; exact qz S3.len
  have ll2:=Du (c0:=c0) (P:=B2 (au d) (bp d two)) hml fun c K hp=>by
    unfold bZ at hp
    cases hj:c.j <;> rw [hj] at hp
    · dsimp only [B2] at hp
      split at hp
      · (replace hp:=iS hp; subst hp); show 3≤20; decide
      · split at hp
        · (replace hp:=iS hp; subst hp); exact Nat.le_trans uk (by decide)
        · exact nS hp
    · exact nS hp
  generalize hbq:(fun m:MD=>if m.nm=.h_ then (au d,0) else (bp d two,q2))=bq
  have hbq':∀ m,bq m=if m.nm=.h_ then (au d,0) else (bp d two,q2):=fun m=>by rw [← hbq]
  obtain ⟨hB,hL⟩:=E4 (P:=B2 (au d) (bp d two)) (g:=fun m=>(bq m).1) (c0:=c0) (ms:=ms) fun m hm=>by
    rw [hbq']
    rcases (hok m hm).nm with h | h <;> rw [h] <;> rfl
  have hfl:∀ p:MD→Bool,(ms.filter p).length≤3:=fun p=>Nat.le_trans (List.length_filter_le _ _) hml
  have hbqb:∀ m,(bq m).1.blks.length≤100∧(bq m).1.locs.length≤100:=fun m=>by
    rw [hbq']
    split
    · exact ⟨Nat.le_trans mI (by decide),by show 3≤100; decide⟩
    · exact ⟨Nat.le_trans lC (by decide),Nat.le_trans uk (by decide)⟩
  have hLi:(((aK c0 ms).inl (B2 (au d) (bp d two))).locs.length:Int)=((aK c0 ms).locs.length:Int)+((((ms.filter fun m=>!m.part).map bq).map fun x=>(x.1.locs.length:Int))).sum:=by
    have:=oS (f:=fun K=>K.locs.length) (l:=(ms.filter fun m=>!m.part).map fun m=>(bq m).1)
    rw [List.map_map] at this ⊢
    rw [hL]
    have e:((fun K:Bd=>(K.locs.length:Int)) ∘ fun m=>(bq m).1)=(fun x:Bd × Nat=>(x.1.locs.length:Int)) ∘ bq:=rfl
    rw [← e,this]
    exact Int.natCast_add _ _
  have hBi:(((aK c0 ms).inl (B2 (au d) (bp d two))).blks.length:Int)=((aK c0 ms).blks.length:Int)+((((ms.filter fun m=>!m.part).map bq).map fun x=>(x.1.blks.length:Int))).sum:=by
    have:=oS (f:=fun K=>K.blks.length) (l:=(ms.filter fun m=>!m.part).map fun m=>(bq m).1)
    rw [List.map_map] at this ⊢
    rw [hB]
    have e:((fun K:Bd=>(K.blks.length:Int)) ∘ fun m=>(bq m).1)=(fun x:Bd × Nat=>(x.1.blks.length:Int)) ∘ bq:=rfl
    rw [← e,this]
    exact Int.natCast_add _ _
  have hml2:=sk (c0:=c0) (ms:=ms)
  have hby:Dat.tup [dp,.bool true,.none]=aa:=rfl
  clear R0 R1 R2 hP0 hP2
  rw [show (13:Nat)=12+1 from rfl,aY (d:=f_law) rfl rfl,AD]
  generalize an prog 12=C at *
  have e1:ex C [some (.d (.lst (l.map .int))),none,none,none,none,none,none,none,none,none,none,none,none,none,none,none,none] ([]) Gx=some (.next,[some (.d (.lst (l.map .int))),some (.r s),none,none,none,none,none,none,none,none,none,none,none,none,none,none,none],base0):=by
    unfold Gx
    simp [ao,af,ah,ag,ak,bF,cf,aN,aE,aF,bn,aM,aL,aU,am,ap,bH,bM,aj,mD,jF,lim,-getElem?_pos,↓Bj,p1,-List.map_map]
  have e2:ex C [some (.d (.lst (l.map .int))),some (.r s),none,none,none,none,none,none,none,none,none,none,none,none,none,none,none] (base0) FU=some (.next,[some (.d (.lst (l.map .int))),some (.r s),none,none,none,none,none,none,some (.d ((au d).e 0)),some (.d ((be two).e 0)),none,none,none,none,none,none,none],base2):=by
    unfold FU
    simp [ao,ar,ah,ag,ak,aN,aE,aF,bn,aM,aL,cW,n7,bg,am,ap,aj,kL,kO,nI,-getElem?_pos,n0,n1,p2,p3,-List.map_map]
  have e3:ex C [some (.d (.lst (l.map .int))),some (.r s),none,none,none,none,none,none,some (.d ((au d).e 0)),some (.d ((be two).e 0)),none,none,none,none,none,none,none] (base2) GF=some (.next,[some (.d (.lst (l.map .int))),some (.r s),none,none,none,none,none,none,some (.d ((au d).e 0)),some (.d ((be two).e 0)),some (.d ((aK c0 ms).e 0)),some (.d (.lst (aZ ms))),none,none,none,none,none],mu):=by
    unfold GF
    simp [ao,ar,ah,ag,ak,aN,aE,aF,bn,aM,aL,cW,fA,bg,am,ap,aj,lV,ix,iA,-getElem?_pos,n2,p4,-List.map_map]
  have e4:ex C [some (.d (.lst (l.map .int))),some (.r s),none,none,none,none,none,none,some (.d ((au d).e 0)),some (.d ((be two).e 0)),some (.d ((aK c0 ms).e 0)),some (.d (.lst (aZ ms))),none,none,none,none,none] (mu) Gm=some (.next,[some (.d (.lst (l.map .int))),some (.r s),some (.d (.dct [.h_,.g_] [(au d).e 0,(be two).e 0])),none,none,none,none,none,some (.d ((au d).e 0)),some (.d ((be two).e 0)),some (.d ((aK c0 ms).e 0)),some (.d (.lst (aZ ms))),none,none,none,none,none],mu):=by
    unfold Gm
    simp [ao,af,ah,ag,ak,kA,jD,jN,aF,bn,aM,aL,aU,am,ap,bH,bM,aj,cY,-getElem?_pos,-List.map_map]
  have e5:ex C [some (.d (.lst (l.map .int))),some (.r s),some (.d (.dct [.h_,.g_] [(au d).e 0,(be two).e 0])),none,none,none,none,none,some (.d ((au d).e 0)),some (.d ((be two).e 0)),some (.d ((aK c0 ms).e 0)),some (.d (.lst (aZ ms))),none,none,none,none,none] (mu) EI=some (.next,[some (.d (.lst (l.map .int))),some (.r s),some (.d (.dct [.h_,.g_] [(au d).e 0,(be two).e 0])),some (.d (bV ps z)),none,none,none,none,some (.d ((au d).e 0)),some (.d ((be two).e 0)),some (.d ((aK c0 ms).e 0)),some (.d (.lst (aZ ms))),none,none,none,none,none],mu):=by
    unfold EI
    simp [ao,af,ah,ag,ak,aN,aE,aF,bn,aM,aL,aU,am,ap,aj,eK,-getElem?_pos,p5,-List.map_map]
  have e6:ex C [some (.d (.lst (l.map .int))),some (.r s),some (.d (.dct [.h_,.g_] [(au d).e 0,(be two).e 0])),some (.d (bV ps z)),none,none,none,none,some (.d ((au d).e 0)),some (.d ((be two).e 0)),some (.d ((aK c0 ms).e 0)),some (.d (.lst (aZ ms))),none,none,none,none,none] (mu) FB=some (.next,[some (.d (.lst (l.map .int))),some (.r s),some (.d (.dct [.h_,.g_] [(au d).e 0,(be two).e 0])),some (.d (bV ps z)),none,none,none,none,some (.d ((au d).e 0)),some (.d ((be two).e 0)),some (.d ((aK c0 ms).e 0)),some (.d (.lst (aZ ms))),none,none,none,none,none],mu):=by
    unfold FB
    simp [ao,af,ah,ag,ak,av,pq,mT,aQ,ay,aA,bf,bj,bx,aq,aJ,aj,gB,-getElem?_pos,Hs,-List.map_map]
  have e7:ex C [some (.d (.lst (l.map .int))),some (.r s),some (.d (.dct [.h_,.g_] [(au d).e 0,(be two).e 0])),some (.d (bV ps z)),none,none,none,none,some (.d ((au d).e 0)),some (.d ((be two).e 0)),some (.d ((aK c0 ms).e 0)),some (.d (.lst (aZ ms))),none,none,none,none,none] (mu) Ge=some (.next,[some (.d (.lst (l.map .int))),some (.r s),some (.d (.dct [.h_,.g_] [(au d).e 0,(be two).e 0])),some (.d (bV ps z)),some (.d (((aK c0 ms).inl (Ph d)).e q1)),none,none,none,some (.d ((au d).e 0)),some (.d ((be two).e 0)),some (.d ((aK c0 ms).e 0)),some (.d (.lst (aZ ms))),none,none,none,none,none],mu):=by
    unfold Ge
    simp [ao,af,ah,ag,ak,av,aN,aE,aF,bn,aM,aL,aU,am,ap,aj,ik,-getElem?_pos,p6,-List.map_map]
  have e8:ex C [some (.d (.lst (l.map .int))),some (.r s),some (.d (.dct [.h_,.g_] [(au d).e 0,(be two).e 0])),some (.d (bV ps z)),some (.d (((aK c0 ms).inl (Ph d)).e q1)),none,none,none,some (.d ((au d).e 0)),some (.d ((be two).e 0)),some (.d ((aK c0 ms).e 0)),some (.d (.lst (aZ ms))),none,none,none,none,none] (mu) EB=some (.next,[some (.d (.lst (l.map .int))),some (.r s),some (.d (.dct [.h_,.g_] [(au d).e 0,(be two).e 0])),some (.d (bV ps z)),some (.d (((aK c0 ms).inl (Ph d)).e q1)),none,none,none,some (.d ((au d).e 0)),some (.d ((be two).e 0)),some (.d ((aK c0 ms).e 0)),some (.d (.lst (aZ ms))),none,none,none,none,none],mu):=by
    have fl:=wN (f:=l7 C (.loc 14) (.or (.of [(.loc 15),(.cmp .eq (.loc 14) (.str .g_))]))) (mu:=mu) (fun m=>(if m.part then none else Ph d m.nm).isNone) (fun m=>.str m.nm) (a:=[some (.d (.lst (l.map .int))),some (.r s),some (.d (.dct [.h_,.g_] [(au d).e 0,(be two).e 0])),some (.d (bV ps z)),some (.d (((aK c0 ms).inl (Ph d)).e q1)),none,none,none,some (.d ((au d).e 0)),some (.d ((be two).e 0)),some (.d ((aK c0 ms).e 0)),some (.d (.lst (aZ ms))),none,none]) (z:=none) rfl ms (x:=none) (y:=none) (fun m hm=>by
      unfold ij
      cases hp:m.part with
      | true=>simp [ao,af,ah,ag,ak,j6,iH,Ha,dk,d6,ku,am,ap,aj,-getElem?_pos]
      | false =>
        rcases (hok m hm).nm with h | h <;> rw [h] <;> simp [ao,af,ah,ag,ak,aS,aP,aB,az,ax,j6,i9,iH,ja,dk,d6,ku,jm,am,ap,aj,-getElem?_pos,DU,Ph])
    unfold ij at fl
    simp only [ap,am,List.cons_append,List.nil_append] at fl
    have fe:((ms.filter fun m=>(if m.part then none else Ph d m.nm).isNone).map fun m=>Dat.str m.nm)=((ms.filter fun m=>(if m.part then none else Ph d m.nm).isNone).map (·.nm)).map .str:=by rw [List.map_map]; rfl
    have fm:((ms.filter fun m=>(if m.part then none else Ph d m.nm).isNone)).length≤1048576:=Nat.le_trans (hfl _) (by decide)
    rw [fe] at fl
    unfold EB
    simp [ao,af,ah,ag,ak,b5,aP,aB,az,ax,aN,aE,hH,cp,cm,cn,dX,aF,bn,aM,aL,bf,bj,bx,am,ap,aq,aJ,hG,aj,lim,-getElem?_pos,p11,fl,fm,qH,-List.map_map]
  have e9:ex C [some (.d (.lst (l.map .int))),some (.r s),some (.d (.dct [.h_,.g_] [(au d).e 0,(be two).e 0])),some (.d (bV ps z)),some (.d (((aK c0 ms).inl (Ph d)).e q1)),none,none,none,some (.d ((au d).e 0)),some (.d ((be two).e 0)),some (.d ((aK c0 ms).e 0)),some (.d (.lst (aZ ms))),none,none,none,none,none] (mu) G4=some (.next,[some (.d (.lst (l.map .int))),some (.r s),some (.d (.dct [.h_,.g_] [(au d).e 0,(be two).e 0])),some (.d (bV ps z)),some (.d (((aK c0 ms).inl (Ph d)).e q1)),some (.d ((bp d two).e q2)),none,none,some (.d ((au d).e 0)),some (.d ((be two).e 0)),some (.d ((aK c0 ms).e 0)),some (.d (.lst (aZ ms))),none,none,none,none,none],mu):=by
    unfold G4
    simp [ao,af,ah,ag,ak,av,aN,aE,kA,jD,jN,aF,bn,aM,aL,aU,am,ap,bH,bM,aj,fg,-getElem?_pos,p7,-List.map_map]
  have e10:ex C [some (.d (.lst (l.map .int))),some (.r s),some (.d (.dct [.h_,.g_] [(au d).e 0,(be two).e 0])),some (.d (bV ps z)),some (.d (((aK c0 ms).inl (Ph d)).e q1)),some (.d ((bp d two).e q2)),none,none,some (.d ((au d).e 0)),some (.d ((be two).e 0)),some (.d ((aK c0 ms).e 0)),some (.d (.lst (aZ ms))),none,none,none,none,none] (mu) Ac=some (.next,[some (.d (.lst (l.map .int))),some (.r s),some (.d (.dct [.h_,.g_] [(au d).e 0,(be two).e 0])),some (.d (bV ps z)),some (.d (((aK c0 ms).inl (Ph d)).e q1)),some (.d ((bp d two).e q2)),some (.d (((aK c0 ms).inl (B2 (au d) (bp d two))).e q3)),none,some (.d ((au d).e 0)),some (.d ((be two).e 0)),some (.d ((aK c0 ms).e 0)),some (.d (.lst (aZ ms))),none,none,none,none,none],mu):=by
    unfold Ac
    simp [ao,af,ah,ag,ak,av,aN,aE,kA,jD,jN,aF,bn,aM,aL,aU,am,ap,bH,bM,aj,gU,-getElem?_pos,p8,-List.map_map]
  have e11:ex C [some (.d (.lst (l.map .int))),some (.r s),some (.d (.dct [.h_,.g_] [(au d).e 0,(be two).e 0])),some (.d (bV ps z)),some (.d (((aK c0 ms).inl (Ph d)).e q1)),some (.d ((bp d two).e q2)),some (.d (((aK c0 ms).inl (B2 (au d) (bp d two))).e q3)),none,some (.d ((au d).e 0)),some (.d ((be two).e 0)),some (.d ((aK c0 ms).e 0)),some (.d (.lst (aZ ms))),none,none,none,none,none] (mu) AQ=some (.next,[some (.d (.lst (l.map .int))),some (.r s),some (.d (.dct [.h_,.g_] [(au d).e 0,(be two).e 0])),some (.d (bV ps z)),some (.d (((aK c0 ms).inl (Ph d)).e q1)),some (.d ((bp d two).e q2)),some (.d (((aK c0 ms).inl (B2 (au d) (bp d two))).e q3)),none,some (.d ((au d).e 0)),some (.d ((be two).e 0)),some (.d ((aK c0 ms).e 0)),some (.d (.lst (aZ ms))),none,none,none,none,none],mu):=by
    have fl:=wN (f:=l7 C (.loc 14) (.loc 15)) (mu:=mu) (fun m=>(if m.part then none else B2 (au d) (bp d two) m.nm).isNone) (fun m=>.str m.nm) (a:=[some (.d (.lst (l.map .int))),some (.r s),some (.d (.dct [.h_,.g_] [(au d).e 0,(be two).e 0])),some (.d (bV ps z)),some (.d (((aK c0 ms).inl (Ph d)).e q1)),some (.d ((bp d two).e q2)),some (.d (((aK c0 ms).inl (B2 (au d) (bp d two))).e q3)),none,some (.d ((au d).e 0)),some (.d ((be two).e 0)),some (.d ((aK c0 ms).e 0)),some (.d (.lst (aZ ms))),none,none]) (z:=none) rfl ms (x:=none) (y:=none) (fun m hm=>by
      unfold ij
      cases hp:m.part with
      | true=>simp [ao,af,ah,ag,ak,dk,d6,ku,aj,-getElem?_pos]
      | false =>
        rcases (hok m hm).nm with h | h <;> rw [h] <;> simp [ao,af,ah,ag,ak,d6,jm,aj,-getElem?_pos,B2])
    unfold ij at fl
    simp only [List.cons_append,List.nil_append] at fl
    have fe:((ms.filter fun m=>(if m.part then none else B2 (au d) (bp d two) m.nm).isNone).map fun m=>Dat.str m.nm)=((ms.filter fun m=>(if m.part then none else B2 (au d) (bp d two) m.nm).isNone).map (·.nm)).map .str:=by rw [List.map_map]; rfl
    have fm:((ms.filter fun m=>(if m.part then none else B2 (au d) (bp d two) m.nm).isNone)).length≤1048576:=Nat.le_trans (hfl _) (by decide)
    rw [fe] at fl
    unfold AQ
    simp [ao,af,ah,ag,ak,bF,b5,aP,aB,az,ax,j6,i9,iH,ja,aN,aE,hH,cp,cm,cn,dX,aF,bn,aM,aL,bf,bj,bx,am,ap,aq,aJ,hG,aj,je,lim,-getElem?_pos,p12,p13,fl,fm,qH,Gg,-List.map_map]
  have e12:ex C [some (.d (.lst (l.map .int))),some (.r s),some (.d (.dct [.h_,.g_] [(au d).e 0,(be two).e 0])),some (.d (bV ps z)),some (.d (((aK c0 ms).inl (Ph d)).e q1)),some (.d ((bp d two).e q2)),some (.d (((aK c0 ms).inl (B2 (au d) (bp d two))).e q3)),none,some (.d ((au d).e 0)),some (.d ((be two).e 0)),some (.d ((aK c0 ms).e 0)),some (.d (.lst (aZ ms))),none,none,none,none,none] (mu) Bg=some (.next,[some (.d (.lst (l.map .int))),some (.r s),some (.d (.dct [.h_,.g_] [(au d).e 0,(be two).e 0])),some (.d (bV ps z)),some (.d (((aK c0 ms).inl (Ph d)).e q1)),some (.d ((bp d two).e q2)),some (.d (((aK c0 ms).inl (B2 (au d) (bp d two))).e q3)),none,some (.d ((au d).e 0)),some (.d ((be two).e 0)),some (.d ((aK c0 ms).e 0)),some (.d (.lst (aZ ms))),none,none,none,none,none],mu):=by
    unfold Bg
    simp [ao,af,ah,ag,ak,aP,aB,az,ax,j6,i9,iH,ja,aN,aE,kA,jD,jN,aF,bn,aM,aL,bf,bj,bx,am,ap,aq,aJ,bH,bM,aj,-getElem?_pos,p9,p10,Et,-List.map_map]
  have e13:ex C [some (.d (.lst (l.map .int))),some (.r s),some (.d (.dct [.h_,.g_] [(au d).e 0,(be two).e 0])),some (.d (bV ps z)),some (.d (((aK c0 ms).inl (Ph d)).e q1)),some (.d ((bp d two).e q2)),some (.d (((aK c0 ms).inl (B2 (au d) (bp d two))).e q3)),none,some (.d ((au d).e 0)),some (.d ((be two).e 0)),some (.d ((aK c0 ms).e 0)),some (.d (.lst (aZ ms))),none,none,none,none,none] (mu) Bs=some (.next,[some (.d (.lst (l.map .int))),some (.r s),some (.d (.dct [.h_,.g_] [(au d).e 0,(be two).e 0])),some (.d (bV ps z)),some (.d (((aK c0 ms).inl (Ph d)).e q1)),some (.d ((bp d two).e q2)),some (.d (((aK c0 ms).inl (B2 (au d) (bp d two))).e q3)),some (.d (.lst (((ms.filter fun m=>!m.part).map bq).map fun x=>x.1.e x.2))),some (.d ((au d).e 0)),some (.d ((be two).e 0)),some (.d ((aK c0 ms).e 0)),some (.d (.lst (aZ ms))),none,none,none,none,none],mu):=by
    have fl:=wN (f:=l7 C (.sub (.sdisp true [.h_,.g_] (.of [(.loc 8),(.loc 5)])) (.loc 14)) (.not (.loc 15))) (mu:=mu) (fun m=>!m.part) (fun m=>(bq m).1.e (bq m).2) (a:=[some (.d (.lst (l.map .int))),some (.r s),some (.d (.dct [.h_,.g_] [(au d).e 0,(be two).e 0])),some (.d (bV ps z)),some (.d (((aK c0 ms).inl (Ph d)).e q1)),some (.d ((bp d two).e q2)),some (.d (((aK c0 ms).inl (B2 (au d) (bp d two))).e q3)),none,some (.d ((au d).e 0)),some (.d ((be two).e 0)),some (.d ((aK c0 ms).e 0)),some (.d (.lst (aZ ms))),none,none]) (z:=none) rfl ms (x:=none) (y:=none) (fun m hm=>by
      unfold ij
      rw [hbq']
      cases hp:m.part with
      | true=>simp [ao,af,ah,ag,ak,pq,mT,d6,jm,am,ap,aj,-getElem?_pos]
      | false =>
        rcases (hok m hm).nm with h | h <;> rw [h] <;> simp [ao,af,ah,ag,ak,pq,mT,aQ,ay,aA,js,dk,d6,ku,kA,jD,jN,aF,bn,aM,aL,am,ap,bH,bM,bJ,aj,-getElem?_pos])
    unfold ij at fl
    simp only [ap,am,List.cons_append,List.nil_append] at fl
    have fe:((ms.filter fun m=>!m.part).map fun m=>(bq m).1.e (bq m).2)=((ms.filter fun m=>!m.part).map bq).map fun x=>x.1.e x.2:=by rw [List.map_map]; rfl
    have fm:((ms.filter fun m=>!m.part)).length≤1048576:=Nat.le_trans (hfl _) (by decide)
    rw [fe] at fl
    unfold Bs
    simp [ao,af,ah,ag,ak,b5,hH,cp,cm,cn,dX,aU,am,ap,hG,aj,wG,lim,-getElem?_pos,fl,fm,-List.map_map]
  have e14:ex C [some (.d (.lst (l.map .int))),some (.r s),some (.d (.dct [.h_,.g_] [(au d).e 0,(be two).e 0])),some (.d (bV ps z)),some (.d (((aK c0 ms).inl (Ph d)).e q1)),some (.d ((bp d two).e q2)),some (.d (((aK c0 ms).inl (B2 (au d) (bp d two))).e q3)),some (.d (.lst (((ms.filter fun m=>!m.part).map bq).map fun x=>x.1.e x.2))),some (.d ((au d).e 0)),some (.d ((be two).e 0)),some (.d ((aK c0 ms).e 0)),some (.d (.lst (aZ ms))),none,none,none,none,none] (mu) Bx=some (.next,[some (.d (.lst (l.map .int))),some (.r s),some (.d (.dct [.h_,.g_] [(au d).e 0,(be two).e 0])),some (.d (bV ps z)),some (.d (((aK c0 ms).inl (Ph d)).e q1)),some (.d ((bp d two).e q2)),some (.d (((aK c0 ms).inl (B2 (au d) (bp d two))).e q3)),some (.d (.lst (((ms.filter fun m=>!m.part).map bq).map fun x=>x.1.e x.2))),some (.d ((au d).e 0)),some (.d ((be two).e 0)),some (.d ((aK c0 ms).e 0)),some (.d (.lst (aZ ms))),none,none,none,none,none],mu):=by
    have fc:=wZ (fun K=>K.locs.length) (f:=qP C (.bi .len (.of [(.attr (.loc 16) .locals)]))) (mu:=mu) (t:=16) ((ms.filter fun m=>!m.part).map bq) [some (.d (.lst (l.map .int))),some (.r s),some (.d (.dct [.h_,.g_] [(au d).e 0,(be two).e 0])),some (.d (bV ps z)),some (.d (((aK c0 ms).inl (Ph d)).e q1)),some (.d ((bp d two).e q2)),some (.d (((aK c0 ms).inl (B2 (au d) (bp d two))).e q3)),some (.d (.lst (((ms.filter fun m=>!m.part).map bq).map fun x=>x.1.e x.2))),some (.d ((au d).e 0)),some (.d ((be two).e 0)),some (.d ((aK c0 ms).e 0)),some (.d (.lst (aZ ms))),none,none,none,none,none] (by simp) (fun x hx=>by
      refine xe1 (List.mem_map.mp hx) fun m r_=>aO r_ fun Z e2_=>?_
      subst e2_
      obtain ⟨u1,u2⟩:=hbqb m
      have u3:(bq m).1.blks.length≤1048576:=by exact lb u1 rfl
      have u4:(bq m).1.locs.length≤1048576:=by exact lb u2 rfl
      simp [ao,af,ah,ag,ak,bG,bu,dH,cg,gi,eF,dk,aF,bn,aM,aL,am,ap,sr,aj,lim,-getElem?_pos,u3,u4])
    simp only [ap,am] at fc
    have fm:((ms.filter fun m=>!m.part)).length≤1048576:=Nat.le_trans (hfl _) (by decide)
    have v1:((aK c0 ms).inl (B2 (au d) (bp d two))).blks.length≤1048576:=by exact lb l2 rfl
    have v2:((aK c0 ms).inl (B2 (au d) (bp d two))).locs.length≤1048576:=by exact lb ll2 rfl
    have v3:(aK c0 ms).blks.length≤1048576:=by exact H9 hml hml2 rfl
    have v4:(aK c0 ms).locs.length≤1048576:=by show 3≤1048576; decide
    have fi:∀ l:List Int,(eI l).length=l.length:=fun l=>List.length_map ..
    unfold Bx
    simp [ao,af,ah,ag,ak,b5,b8,bO,bQ,aP,aB,az,ax,bG,bu,dH,lW,cg,gi,pJ,d4,cp,cm,cn,dX,aF,bn,aM,aL,bf,bj,bx,am,ap,aq,aJ,hG,sr,ek,cC,aj,lim,-getElem?_pos,fc,fm,v2,v4,fi,ek,zZ hLi,-List.map_map]
  have e15:ex C [some (.d (.lst (l.map .int))),some (.r s),some (.d (.dct [.h_,.g_] [(au d).e 0,(be two).e 0])),some (.d (bV ps z)),some (.d (((aK c0 ms).inl (Ph d)).e q1)),some (.d ((bp d two).e q2)),some (.d (((aK c0 ms).inl (B2 (au d) (bp d two))).e q3)),some (.d (.lst (((ms.filter fun m=>!m.part).map bq).map fun x=>x.1.e x.2))),some (.d ((au d).e 0)),some (.d ((be two).e 0)),some (.d ((aK c0 ms).e 0)),some (.d (.lst (aZ ms))),none,none,none,none,none] (mu) AB=some (.next,[some (.d (.lst (l.map .int))),some (.r s),some (.d (.dct [.h_,.g_] [(au d).e 0,(be two).e 0])),some (.d (bV ps z)),some (.d (((aK c0 ms).inl (Ph d)).e q1)),some (.d ((bp d two).e q2)),some (.d (((aK c0 ms).inl (B2 (au d) (bp d two))).e q3)),some (.d (.lst (((ms.filter fun m=>!m.part).map bq).map fun x=>x.1.e x.2))),some (.d ((au d).e 0)),some (.d ((be two).e 0)),some (.d ((aK c0 ms).e 0)),some (.d (.lst (aZ ms))),none,none,none,none,none],mu):=by
    have fc:=wZ (fun K=>K.blks.length) (f:=qP C (.bi .len (.of [(.attr (.loc 16) .blocks)]))) (mu:=mu) (t:=16) ((ms.filter fun m=>!m.part).map bq) [some (.d (.lst (l.map .int))),some (.r s),some (.d (.dct [.h_,.g_] [(au d).e 0,(be two).e 0])),some (.d (bV ps z)),some (.d (((aK c0 ms).inl (Ph d)).e q1)),some (.d ((bp d two).e q2)),some (.d (((aK c0 ms).inl (B2 (au d) (bp d two))).e q3)),some (.d (.lst (((ms.filter fun m=>!m.part).map bq).map fun x=>x.1.e x.2))),some (.d ((au d).e 0)),some (.d ((be two).e 0)),some (.d ((aK c0 ms).e 0)),some (.d (.lst (aZ ms))),none,none,none,none,none] (by simp) (fun x hx=>by
      refine xe1 (List.mem_map.mp hx) fun m r_=>aO r_ fun Z e2_=>?_
      subst e2_
      obtain ⟨u1,u2⟩:=hbqb m
      have u3:(bq m).1.blks.length≤1048576:=by exact lb u1 rfl
      have u4:(bq m).1.locs.length≤1048576:=by exact lb u2 rfl
      simp [ao,af,ah,ag,ak,bG,bu,dH,cg,gi,eF,dk,aF,bn,aM,aL,am,ap,ew,ff,aj,lim,-getElem?_pos,u3,u4])
    simp only [ap,am] at fc
    have fm:((ms.filter fun m=>!m.part)).length≤1048576:=Nat.le_trans (hfl _) (by decide)
    have v1:((aK c0 ms).inl (B2 (au d) (bp d two))).blks.length≤1048576:=by exact lb l2 rfl
    have v2:((aK c0 ms).inl (B2 (au d) (bp d two))).locs.length≤1048576:=by exact lb ll2 rfl
    have v3:(aK c0 ms).blks.length≤1048576:=by exact H9 hml hml2 rfl
    have v4:(aK c0 ms).locs.length≤1048576:=by show 3≤1048576; decide
    have fi:∀ l:List Int,(eI l).length=l.length:=fun l=>List.length_map ..
    unfold AB
    simp [ao,af,ah,ag,ak,b5,b8,bO,bQ,aP,aB,az,ax,bG,bu,dH,lW,cg,gi,pJ,d4,cp,cm,cn,dX,aF,bn,aM,aL,bf,bj,bx,am,ap,aq,aJ,ew,hG,ff,ek,cC,aj,lim,-getElem?_pos,fc,fm,v1,v3,fi,ek,zZ hBi,-List.map_map]
  have e16:ex C [some (.d (.lst (l.map .int))),some (.r s),some (.d (.dct [.h_,.g_] [(au d).e 0,(be two).e 0])),some (.d (bV ps z)),some (.d (((aK c0 ms).inl (Ph d)).e q1)),some (.d ((bp d two).e q2)),some (.d (((aK c0 ms).inl (B2 (au d) (bp d two))).e q3)),some (.d (.lst (((ms.filter fun m=>!m.part).map bq).map fun x=>x.1.e x.2))),some (.d ((au d).e 0)),some (.d ((be two).e 0)),some (.d ((aK c0 ms).e 0)),some (.d (.lst (aZ ms))),none,none,none,none,none] (mu) AX=some (.next,[some (.d (.lst (l.map .int))),some (.r s),some (.d (.dct [.h_,.g_] [(au d).e 0,(be two).e 0])),some (.d (bV ps z)),some (.d (((aK c0 ms).inl (Ph d)).e q1)),some (.d ((bp d two).e q2)),some (.d (((aK c0 ms).inl (B2 (au d) (bp d two))).e q3)),some (.d (.lst (((ms.filter fun m=>!m.part).map bq).map fun x=>x.1.e x.2))),some (.d ((au d).e 0)),some (.d ((be two).e 0)),some (.d ((aK c0 ms).e 0)),some (.d (.lst (aZ ms))),some (.r N),some (.r (N+4)),none,none,none],(mu++sC N .h_ 1 [aa,aa] [] [])++sC (N+4) .main_ 0 [aa] [] []):=by
    unfold AX
    simp [lO,av,aS,iN,j5,bC,bF,b5,b8,bO,bQ,mB,j7,j0,aF,bn,aM,aL,cW,n7,bg,am,ap,bH,bM,n5,sw,kq,uu,gS,d9,nI,lim,-getElem?_pos,S3.len,hby,List.replicate,zv,p14,p15,hM,-List.map_map,-List.append_assoc,-cf]
  have e17:ex C [some (.d (.lst (l.map .int))),some (.r s),some (.d (.dct [.h_,.g_] [(au d).e 0,(be two).e 0])),some (.d (bV ps z)),some (.d (((aK c0 ms).inl (Ph d)).e q1)),some (.d ((bp d two).e q2)),some (.d (((aK c0 ms).inl (B2 (au d) (bp d two))).e q3)),some (.d (.lst (((ms.filter fun m=>!m.part).map bq).map fun x=>x.1.e x.2))),some (.d ((au d).e 0)),some (.d ((be two).e 0)),some (.d ((aK c0 ms).e 0)),some (.d (.lst (aZ ms))),some (.r N),some (.r (N+4)),none,none,none] ((mu++sC N .h_ 1 [aa,aa] [] [])++sC (N+4) .main_ 0 [aa] [] []) Aj=some (.next,[some (.d (.lst (l.map .int))),some (.r s),some (.d (.dct [.h_,.g_] [(au d).e 0,(be two).e 0])),some (.d (bV ps z)),some (.d (((aK c0 ms).inl (Ph d)).e q1)),some (.d ((bp d two).e q2)),some (.d (((aK c0 ms).inl (B2 (au d) (bp d two))).e q3)),some (.d (.lst (((ms.filter fun m=>!m.part).map bq).map fun x=>x.1.e x.2))),some (.d ((au d).e 0)),some (.d ((be two).e 0)),some (.d ((aK c0 ms).e 0)),some (.d (.lst (aZ ms))),some (.r N),some (.r (N+4)),none,none,none],(mu++sC N .h_ 1 [aa,aa] [Blk.e ⟨[.assign 0 none (.bin .plus_ (.copy 1 none) (.const 1))],.ret⟩] [])++sC (N+4) .main_ 0 [aa] [] []):=by
    have hb0:Dat.lst [.lst [.tup [.str .assign_,.tup [.int 0,.tup []],.tup [.str .binary_,.str .plus_,(Op.copy 1 none).e,(Op.const 1).e]]],.tup [.str .return_]]=Blk.e ⟨[.assign 0 none (.bin .plus_ (.copy 1 none) (.const 1))],.ret⟩:=rfl
    unfold Aj
    simp [ao,ar,bz,b0,ah,ag,ak,av,aS,bC,bF,c3,cM,bG,bu,aN,aE,ej,da,db,de,df,aF,bn,aM,aL,cH,ce,am,ap,bJ,aj,cN,gX,gS,b6,fh,d9,kM,lim,-getElem?_pos,X0,X2,XS,p18,p19,hb0,-List.map_map,-List.append_assoc,-cf,-cR]
  have e18:ex C [some (.d (.lst (l.map .int))),some (.r s),some (.d (.dct [.h_,.g_] [(au d).e 0,(be two).e 0])),some (.d (bV ps z)),some (.d (((aK c0 ms).inl (Ph d)).e q1)),some (.d ((bp d two).e q2)),some (.d (((aK c0 ms).inl (B2 (au d) (bp d two))).e q3)),some (.d (.lst (((ms.filter fun m=>!m.part).map bq).map fun x=>x.1.e x.2))),some (.d ((au d).e 0)),some (.d ((be two).e 0)),some (.d ((aK c0 ms).e 0)),some (.d (.lst (aZ ms))),some (.r N),some (.r (N+4)),none,none,none] ((mu++sC N .h_ 1 [aa,aa] [Blk.e ⟨[.assign 0 none (.bin .plus_ (.copy 1 none) (.const 1))],.ret⟩] [])++sC (N+4) .main_ 0 [aa] [] []) Bt=some (.next,[some (.d (.lst (l.map .int))),some (.r s),some (.d (.dct [.h_,.g_] [(au d).e 0,(be two).e 0])),some (.d (bV ps z)),some (.d (((aK c0 ms).inl (Ph d)).e q1)),some (.d ((bp d two).e q2)),some (.d (((aK c0 ms).inl (B2 (au d) (bp d two))).e q3)),some (.d (.lst (((ms.filter fun m=>!m.part).map bq).map fun x=>x.1.e x.2))),some (.d ((au d).e 0)),some (.d ((be two).e 0)),some (.d ((aK c0 ms).e 0)),some (.d (.lst (aZ ms))),some (.r N),some (.r (N+4)),none,none,none],(mu++sC N .h_ 1 [aa,aa] [Blk.e ⟨[.assign 0 none (.bin .plus_ (.copy 1 none) (.const 1))],.ret⟩] [])++sC (N+4) .main_ 0 [aa] [Blk.e ⟨[],.call .h_ (.const 2) 0 none 1⟩] []):=by
    have hb0:Dat.lst [.lst [],.tup [.str .call_,.tup [.str .fn_,.str .h_,.tup []],.tup [(Op.const 2).e],.tup [.int 0,.tup []],.int 1]]=Blk.e ⟨[],.call .h_ (.const 2) 0 none 1⟩:=rfl
    unfold Bt
    simp [ao,ar,bz,b0,ah,ag,ak,av,aS,bC,bF,c3,cM,bG,bu,aN,aE,ej,da,db,de,df,aF,bn,aM,aL,cH,ce,am,ap,bJ,aj,cN,je,gX,b6,fh,d9,mj,lim,-getElem?_pos,Y0,Y2,YS,p18,p19,hb0,-List.map_map,-List.append_assoc,-cf,-cR]
  have e19:ex C [some (.d (.lst (l.map .int))),some (.r s),some (.d (.dct [.h_,.g_] [(au d).e 0,(be two).e 0])),some (.d (bV ps z)),some (.d (((aK c0 ms).inl (Ph d)).e q1)),some (.d ((bp d two).e q2)),some (.d (((aK c0 ms).inl (B2 (au d) (bp d two))).e q3)),some (.d (.lst (((ms.filter fun m=>!m.part).map bq).map fun x=>x.1.e x.2))),some (.d ((au d).e 0)),some (.d ((be two).e 0)),some (.d ((aK c0 ms).e 0)),some (.d (.lst (aZ ms))),some (.r N),some (.r (N+4)),none,none,none] ((mu++sC N .h_ 1 [aa,aa] [Blk.e ⟨[.assign 0 none (.bin .plus_ (.copy 1 none) (.const 1))],.ret⟩] [])++sC (N+4) .main_ 0 [aa] [Blk.e ⟨[],.call .h_ (.const 2) 0 none 1⟩] []) AE=some (.next,[some (.d (.lst (l.map .int))),some (.r s),some (.d (.dct [.h_,.g_] [(au d).e 0,(be two).e 0])),some (.d (bV ps z)),some (.d (((aK c0 ms).inl (Ph d)).e q1)),some (.d ((bp d two).e q2)),some (.d (((aK c0 ms).inl (B2 (au d) (bp d two))).e q3)),some (.d (.lst (((ms.filter fun m=>!m.part).map bq).map fun x=>x.1.e x.2))),some (.d ((au d).e 0)),some (.d ((be two).e 0)),some (.d ((aK c0 ms).e 0)),some (.d (.lst (aZ ms))),some (.r N),some (.r (N+4)),none,none,none],(mu++sC N .h_ 1 [aa,aa] [Blk.e ⟨[.assign 0 none (.bin .plus_ (.copy 1 none) (.const 1))],.ret⟩] [])++sC (N+4) .main_ 0 [aa] [Blk.e ⟨[],.call .h_ (.const 2) 0 none 1⟩,Blk.e ⟨[],.ret⟩] []):=by
    have hb0:Dat.lst [.lst [],.tup [.str .return_]]=Blk.e ⟨[],.ret⟩:=rfl
    unfold AE
    simp [ao,ar,bz,b0,ah,ag,ak,aS,bC,bF,c3,cM,bG,bu,ej,da,db,de,df,aF,bn,aM,aL,cH,ce,am,ap,bJ,aj,je,gX,fh,lim,-getElem?_pos,Y0,Y2,YT,hb0,-List.map_map,-List.append_assoc,-cf,-cR]
  have cmE:∀ mu,dY mu .eq (.d (bV [] 3)) (.d (.tup [.lst [],.tup [.int 3,.bool true]]))=some true:=fun mu=>vp (ps:=[]) (z:=3)
  have e20:∃ m,ex C [some (.d (.lst (l.map .int))),some (.r s),some (.d (.dct [.h_,.g_] [(au d).e 0,(be two).e 0])),some (.d (bV ps z)),some (.d (((aK c0 ms).inl (Ph d)).e q1)),some (.d ((bp d two).e q2)),some (.d (((aK c0 ms).inl (B2 (au d) (bp d two))).e q3)),some (.d (.lst (((ms.filter fun m=>!m.part).map bq).map fun x=>x.1.e x.2))),some (.d ((au d).e 0)),some (.d ((be two).e 0)),some (.d ((aK c0 ms).e 0)),some (.d (.lst (aZ ms))),some (.r N),some (.r (N+4)),none,none,none] ((mu++sC N .h_ 1 [aa,aa] [Blk.e ⟨[.assign 0 none (.bin .plus_ (.copy 1 none) (.const 1))],.ret⟩] [])++sC (N+4) .main_ 0 [aa] [Blk.e ⟨[],.call .h_ (.const 2) 0 none 1⟩,Blk.e ⟨[],.ret⟩] []) AM=some (.ret (.d (.bool true)),[some (.d (.lst (l.map .int))),some (.r s),some (.d (.dct [.h_,.g_] [(au d).e 0,(be two).e 0])),some (.d (bV ps z)),some (.d (((aK c0 ms).inl (Ph d)).e q1)),some (.d ((bp d two).e q2)),some (.d (((aK c0 ms).inl (B2 (au d) (bp d two))).e q3)),some (.d (.lst (((ms.filter fun m=>!m.part).map bq).map fun x=>x.1.e x.2))),some (.d ((au d).e 0)),some (.d ((be two).e 0)),some (.d ((aK c0 ms).e 0)),some (.d (.lst (aZ ms))),some (.r N),some (.r (N+4)),none,none,none],m):=by
    refine ⟨mu++(.frz (sBd.e 0)::.frz (.lst [aa,aa])::.frz (.lst [Blk.e ⟨[.assign 0 none (.bin .plus_ (.copy 1 none) (.const 1))],.ret⟩])::.frz (.spots 0)::.frz (cBd.e 0)::.frz (.lst [aa])::.frz (.lst [Blk.e ⟨[],.call .h_ (.const 2) 0 none 1⟩,Blk.e ⟨[],.ret⟩])::.frz (.spots 0)::[]),?_⟩
    unfold AM
    simp [ao,ar,b0,ah,ag,ak,av,iN,bC,bF,aP,aB,az,ax,aN,aE,kA,jD,jN,gw,fB,fy,aF,bn,aM,aL,bD,bo,am,ap,bH,bM,aj,je,b6,-getElem?_pos,X0,Y0,Z13,Z12,p16,p17,cmE,-List.map_map,-List.append_assoc,-cf,-cR]
  obtain ⟨mE,e20⟩:=e20
  have e0:(List.map some [Val.d (.lst (l.map .int))]++List.replicate (f_law.names.length - f_law.params) none:ae)=[some (.d (.lst (l.map .int))),none,none,none,none,none,none,none,none,none,none,none,none,none,none,none,none]:=rfl
  rw [e0,aT,e1,aH,aT,e2,aH,aT,e3,aH,aT,e4,aH,aT,e5,aH,aT,e6,aH,aT,e7,aH,aT,e8,aH,aT,e9,aH,aT,e10,aH,aT,e11,aH,aT,e12,aH,aT,e13,aH,aT,e14,aH,aT,e15,aH,aT,e16,aH,aT,e17,aH,aT,e18,aH,aT,e19,aH,aT,e20,bU,aV]
  exact ⟨_,rfl⟩
end Mine.Internal
namespace Mine.Internal
set_option maxHeartbeats 8000000
noncomputable def IY:Fn→Addr
  | .retargeted=>91 | .copied=>96 | .operandsOf=>103 | .withOperands=>110 | .isSmall=>117 | .movedPlace=>124 | .movedOperand=>131 | .movedOperands=>136 | .movedRvalue=>143 | .movedStatement=>150 | .movedTerminator=>157
  | .initCaller=>171 | .put=>176 | .tellSpots=>183 | .putBlock=>188 | .calledKey=>202 | .inlined=>210 | .pool=>218 | .take=>225 | .one=>232 | .value=>239 | .set=>246 | .do_=>251 | .run=>256 | .place=>263 | .number=>270
  | .small=>277 | .middle=>284 | .mainL=>289 | .calls=>294 | .told=>301 | .law=>306 | .initBody=>36
noncomputable def HY:Cls→Addr
  | .body=>82 | .caller=>191
theorem bL {X:Amb} {d:FDef} {a:Addr} {ob:Obj} {fd:FuncData} {body:List Stmt} (hk:X.K.lookup a=some ob) (hK:X.K.In X.H₀) (hd:ob.data=.func fd) (hb:fd.body=.stmts body) (g:fd.globals=mainGlobals) (bl:fd.builtins=builtinsNs) (cl:fd.closure=[])
    (code:∃ c oc vs t,fd.code=.ref c∧X.K.lookup c=some oc∧oc.data=.fields vs∧vs[1]? = some (.str fd.qualname t))
    (h1:fd.params.args.map (·.arg)=d.strs.take d.params) (h2:fd.params.posonlyargs=[]∧fd.params.kwonlyargs=[]∧fd.params.vararg=none∧fd.params.kwarg=none)
    (sc:fd.scope.kind=.function∧fd.scope.isCoroutine=false∧fd.scope.isGenerator=false)
    (kinds:d.args.all (fun x=>fd.scope.names.lookup x == some .local || fd.scope.names.lookup x == some .cell)=true)
    (wr:(d.wr.map Str.ofString).all (fun x=>fd.scope.names.lookup x == some .cell && !(d.fz.map Str.ofString).contains x)=true)
    (lam:∀ x ∈ d.fz.map Str.ofString,fd.code=.ref X.cd∧(fd.qualname ++ ".<locals>.")++("<lambda>" : Str)=X.lq)
    (nofree:fd.scope.names.all (fun x=>x.2 != .free)=true) (cnd:((cellsFrom 0 fd.scope.names []).map (·.1)).Nodup) (nodup:d.strs.Nodup)
    (plain:d.strs.all (fun x=>!(x == ("__debug__" : Str)) && !(x == ("__classdict__" : Str)))=true) (pars:d.params≤d.names.length)
    (bind:∀ (s:Shared) (vals:List Value),(∀ a o,X.H₀.get? a=some o→s.heap.get? a=some o)→vals.length≤d.params→d.params - vals.length≤d.dflts.length→∃ us,DRels X X.H₀.get? (d.dflts.drop (d.dflts.length - (d.params - vals.length))) us∧BindsTo s fd ⟨vals,[]⟩ (d.args.zip (vals++us))):FnOK X d a fd body where
  at_:=⟨ob,hK _ _ hk,hd⟩
  body:=hb
  glob:=g
  bltn:=bl
  clos:=cl
  code:=let ⟨c,oc,vs,t,e1,e2,e3,e4⟩:=code; ⟨c,oc,vs,t,e1,hK _ _ e2,e3,e4⟩
  kind:=sc.1
  co:=sc.2.1
  gen:=sc.2.2
  kinds:=fun x hx=>by
    have:=List.all_eq_true.mp kinds x hx
    rw [Bool.or_eq_true,beq_iff_eq,beq_iff_eq] at this
    exact this
  wr:=fun x hx=>by
    have:=List.all_eq_true.mp wr x hx
    rw [Bool.and_eq_true,beq_iff_eq] at this
    exact ⟨this.1,fun h=>by have h2:=this.2; rw [Bool.not_eq_true'] at h2; rw [List.contains_iff_mem.mpr h] at h2; cases h2⟩
  lam:=lam
  nofree:=fun x hx=>by have:=List.all_eq_true.mp nofree x hx; exact bne_iff_ne.mp this
  cnd:=cnd
  nodup:=nodup
  plain:=fun x hx=>by
    have:=List.all_eq_true.mp plain x hx
    rw [Bool.and_eq_true,Bool.not_eq_true',Bool.not_eq_true'] at this
    exact this
  pars:=pars
  bind:=bind
theorem br {X:Amb} {d:FDef} {fd:FuncData} (h1:fd.params.args.map (·.arg)=d.strs.take d.params) (h2:fd.params.posonlyargs=[]∧fd.params.kwonlyargs=[]∧fd.params.vararg=none∧fd.params.kwarg=none) (nodup:d.strs.Nodup) (hdf:fd.defaults=.none) (hdd:d.dflts=[]) (pars:d.params≤d.names.length) :
    ∀ (s:Shared) (vals:List Value),(∀ a o,X.H₀.get? a=some o→s.heap.get? a=some o)→vals.length≤d.params→d.params - vals.length≤d.dflts.length→∃ us,DRels X X.H₀.get? (d.dflts.drop (d.dflts.length - (d.params - vals.length))) us∧BindsTo s fd ⟨vals,[]⟩ (d.args.zip (vals++us)):=fun s vals keep l1 l2=>by
  rw [hdd] at l2 ⊢
  simp only [List.length_nil,Nat.le_zero_eq] at l2
  refine ⟨[],by rw [List.drop_nil]; exact dz,?_⟩
  rw [List.append_nil]
  refine BindsTo.of_eq (rn (names:=d.args) h1 h2.1 h2.2.1 h2.2.2.1 h2.2.2.2 hdf ((List.take_sublist _ _).nodup nodup) ?_)
  unfold FDef.args FDef.strs
  rw [List.length_take,List.length_map]
  omega
noncomputable def wK:Stmt→Option (Scope × List Stmt)
  | .FunctionDef _ _ b _ _ _ sc _ _ _=>some (sc,b)
  | _=>none
theorem bW {l:List Stmt} {i:Nat} {d:FDef} {sc':Scope} {body':List Stmt} (h:∃ st sc b,l[i]? = some st∧g5 st sc b∧fJ d.strs (d.wr.map Str.ofString) (d.fz.map Str.ofString) (cz sc) d.body b)
    (e:l[i]?.bind wK=some (sc',body')):fJ d.strs (d.wr.map Str.ofString) (d.fz.map Str.ofString) (cz sc') d.body body':=by
  obtain ⟨st,sc,b,h1,⟨_,_,_,_,_,_,_,_,rfl⟩,h3⟩:=h
  rw [h1] at e
  cases e
  exact h3
noncomputable def CR (i:Nat):Stmt→Option Stmt
  | .ClassDef _ _ _ d _ _ _ _ _ _ _=>d[i]?
  | _=>none
theorem kp {l:List Stmt} {i j:Nat} {d:FDef} {sc':Scope} {body':List Stmt} (h:∃ st m sc b,l[i]? = some st∧pO st j m∧g5 m sc b∧fJ d.strs (d.wr.map Str.ofString) (d.fz.map Str.ofString) (cz sc) d.body b)
    (e:(l[i]?.bind (CR j)).bind wK=some (sc',body')):fJ d.strs (d.wr.map Str.ofString) (d.fz.map Str.ofString) (cz sc') d.body body':=by
  obtain ⟨st,m,sc,b,h1,⟨_,_,_,_,_,_,_,_,_,_,_,rfl,h2⟩,⟨_,_,_,_,_,_,_,_,rfl⟩,h3⟩:=h
  rw [h1] at e
  have e':(_:Option Stmt).bind wK=some (sc',body'):=e
  unfold CR at e
  dsimp only [Option.bind] at e
  rw [h2] at e
  cases e
  exact h3
theorem G8 {vals:List Value} (h1:vals.length≤3) (h2:3 - vals.length≤1):(∃ a b,vals=[a,b])∨∃ a b c,vals=[a,b,c]:=by
  match vals,h1,h2 with
  | [],_,h=>simp at h
  | [_],_,h=>simp at h
  | [a,b],_,_=>exact .inl ⟨a,b,rfl⟩
  | [a,b,c],_,_=>exact .inr ⟨a,b,c,rfl⟩
  | _::_::_::_::_,h,_=>simp at h
theorem Hm {vals:List Value} (h1:vals.length≤6) (h2:6 - vals.length≤2):(∃ a b c d,vals=[a,b,c,d])∨(∃ a b c d e,vals=[a,b,c,d,e])∨∃ a b c d e f,vals=[a,b,c,d,e,f]:=by
  match vals,h1,h2 with
  | [],_,h=>simp at h
  | [_],_,h=>simp at h
  | [_,_],_,h=>simp at h
  | [_,_,_],_,h=>simp at h
  | [a,b,c,d],_,_=>exact .inl ⟨a,b,c,d,rfl⟩
  | [a,b,c,d,e],_,_=>exact .inr (.inl ⟨a,b,c,d,e,rfl⟩)
  | [a,b,c,d,e,f],_,_=>exact .inr (.inr ⟨a,b,c,d,e,f,rfl⟩)
  | _::_::_::_::_::_::_::_,h,_=>simp at h
noncomputable abbrev GW (w:World) (s₁:Shared) (K:Frag) (mg mb:Str→Option Value):Amb :=
  { prog:=PySem.Challenge.rw_pf0164_01.row.prog,w:=w,H₀:=ghostOf s₁.heap [(156,152)],K:=K,cls:=HY,fn:=IY,mg:=mg,mb:=mb,cd:=156,tab:=152,lq:=Str.ofString "moved_terminator.<locals>.<lambda>" }
theorem rk {P:Params} {h:Heap} {X:Amb} {p:aw}:∀ {l:List Int} {vs:List Value},WellAll P h vs (ofPys (l.map PyData.int))→DRels X p (l.map Dat.int) vs
  | [],vs,w=>by cases w; exact dz
  | i::l,vs,w=>by
    cases w with
    | cons w1 w2 =>
      cases w1
      exact dc (di _) (rk w2)
theorem wl {P:Params} {h:Heap} {X:Amb} {p:aw} {a:Addr} {l:List Int} (w:Well P h (.ref a) (ofPy (.list (l.map PyData.int)))):∃ vs:Array Value,h.get? a=some (listOf vs 0)∧DRels X p (l.map Dat.int) vs.toList:=by
  have w':Well P h (.ref a) (.list (ofPys (l.map PyData.int))):=w
  cases w' with
  | list h1 h2=>exact ⟨_,h1,by simpa using rk h2⟩
theorem A7 {cl:Str→Option Addr} {mean:ExcName→Option Value} {args:List WData} {s₁:Shared} {h':Heap} {tk:Nat} {h₀:Heap} (hk:∀ a ob,h₀.get? a=some ob→h'.get? a=some ob) (hg:s₁.gens = #[]) :
    GoodW PySem.Challenge.rw_pf0164_01.row.claim cl mean args { heap:=h₀,gens:=s₁.gens,drawn:=s₁.drawn,toks:=s₁.toks,os:=s₁.os } (.ok (.ret (.bool true))) { s₁ with heap:=h',toks:=tk } :=
  ⟨.inl ⟨_,.bool true,[],rfl,fun Z=>rfl,.bool true,by wrow_post,fun Z=>⟨.nil,fun Z h=>nomatch h⟩⟩,hk,rfl,hg⟩
noncomputable def hd.tw16434018374808013631:Unit:=()
noncomputable def hd.tw8348189931502524920:Unit:=()
noncomputable def hd.tw10000147801426223185:Unit:=()
noncomputable def hd.tw10010880442989136664:Unit:=()
noncomputable def hd.tw10168931427177779312:Unit:=()
noncomputable def hd.tw10169186735810369720:Unit:=()
noncomputable def hd.tw10193104807299194216:Unit:=()
noncomputable def hd.tw10200059711980206030:Unit:=()
noncomputable def hd.tw10200596682531068870:Unit:=()
noncomputable def hd.tw10257909930514227660:Unit:=()
noncomputable def hd.tw10314814847376767113:Unit:=()
noncomputable def hd.tw10418821070498059912:Unit:=()
noncomputable def hd.tw10506787317307311964:Unit:=()
noncomputable def hd.tw10584903055604394054:Unit:=()
noncomputable def hd.tw10592794516085672850:Unit:=()
noncomputable def hd.tw10611771540298893143:Unit:=()
noncomputable def hd.tw10652557068286136655:Unit:=()
noncomputable def hd.tw10913585522690886933:Unit:=()
noncomputable def hd.tw10954896027920521500:Unit:=()
noncomputable def hd.tw10980597926105621645:Unit:=()
noncomputable def hd.tw10981247840145607329:Unit:=()
noncomputable def hd.tw11043565332798135927:Unit:=()
noncomputable def hd.tw1109879514587821502:Unit:=()
noncomputable def hd.tw11122842944015723790:Unit:=()
noncomputable def hd.tw11155353856842241703:Unit:=()
noncomputable def hd.tw11290029481284117407:Unit:=()
noncomputable def hd.tw11570111164570437037:Unit:=()
noncomputable def hd.tw11585793122591300342:Unit:=()
noncomputable def hd.tw1160317203684671307:Unit:=()
noncomputable def hd.tw11810988563341916252:Unit:=()
noncomputable def hd.tw11815352881546339388:Unit:=()
noncomputable def hd.tw11912248818721715553:Unit:=()
noncomputable def hd.tw11934350699983728027:Unit:=()
noncomputable def hd.tw12010918843540018363:Unit:=()
noncomputable def hd.tw12023000035769693673:Unit:=()
noncomputable def hd.tw12149660499277099224:Unit:=()
noncomputable def hd.tw12280789728482893115:Unit:=()
noncomputable def hd.tw12289785986931056098:Unit:=()
noncomputable def hd.tw1235247223174674489:Unit:=()
noncomputable def hd.tw12426564226344084313:Unit:=()
noncomputable def hd.tw12472767505862618925:Unit:=()
noncomputable def hd.tw12538513643702813137:Unit:=()
noncomputable def hd.tw126899189614909607:Unit:=()
noncomputable def hd.tw12801012565498045964:Unit:=()
noncomputable def hd.tw12905145899662694839:Unit:=()
noncomputable def hd.tw12917748928761252462:Unit:=()
noncomputable def hd.tw1292574782506224866:Unit:=()
noncomputable def hd.tw12978694689486476534:Unit:=()
noncomputable def hd.tw1298781202104834068:Unit:=()
noncomputable def hd.tw13043773894940636711:Unit:=()
noncomputable def hd.tw1311894858572065410:Unit:=()
noncomputable def hd.tw13253541544203528774:Unit:=()
noncomputable def hd.tw13291438424144138419:Unit:=()
noncomputable def hd.tw13331704739837112769:Unit:=()
noncomputable def hd.tw13414662886053400026:Unit:=()
noncomputable def hd.tw13419790239819088309:Unit:=()
noncomputable def hd.tw13436793889874751463:Unit:=()
noncomputable def hd.tw13675884382191442351:Unit:=()
noncomputable def hd.tw13702962655247883447:Unit:=()
noncomputable def hd.tw13704628199583507327:Unit:=()
noncomputable def hd.tw13862642468083079315:Unit:=()
noncomputable def hd.tw14019357707464180739:Unit:=()
noncomputable def hd.tw14076141398139754965:Unit:=()
noncomputable def hd.tw141379768648097825:Unit:=()
noncomputable def hd.tw14170626163746665929:Unit:=()
noncomputable def hd.tw14194955961183906216:Unit:=()
noncomputable def hd.tw14304563500966998132:Unit:=()
noncomputable def hd.tw14321712812228375884:Unit:=()
noncomputable def hd.tw14323767728887713897:Unit:=()
noncomputable def hd.tw14479959197142875710:Unit:=()
noncomputable def hd.tw14487415735459167684:Unit:=()
noncomputable def hd.tw14766628837263464153:Unit:=()
noncomputable def hd.tw14791417324727343718:Unit:=()
noncomputable def hd.tw1479440292816680990:Unit:=()
noncomputable def hd.tw14846430730451215336:Unit:=()
noncomputable def hd.tw14851662188348016525:Unit:=()
noncomputable def hd.tw14885124812403076695:Unit:=()
noncomputable def hd.tw15008555091322755903:Unit:=()
noncomputable def hd.tw15051540443700079324:Unit:=()
noncomputable def hd.tw1513407473488127497:Unit:=()
noncomputable def hd.tw15170166819509798712:Unit:=()
noncomputable def hd.tw15230860919284253270:Unit:=()
noncomputable def hd.tw1523212933880916979:Unit:=()
noncomputable def hd.tw15253597959013096350:Unit:=()
noncomputable def hd.tw15293771430684577509:Unit:=()
noncomputable def hd.tw15313804776001833728:Unit:=()
noncomputable def hd.tw1532897608927182526:Unit:=()
noncomputable def hd.tw1546340448729182881:Unit:=()
noncomputable def hd.tw15544853520655005638:Unit:=()
noncomputable def hd.tw15610926135251115398:Unit:=()
noncomputable def hd.tw15614994299816657964:Unit:=()
noncomputable def hd.tw15831449180804048182:Unit:=()
noncomputable def hd.tw16009306857160682382:Unit:=()
noncomputable def hd.tw16049856711259736594:Unit:=()
noncomputable def hd.tw16064010049021166651:Unit:=()
noncomputable def hd.tw16140346037966671567:Unit:=()
noncomputable def hd.tw16192249821931289364:Unit:=()
noncomputable def hd.tw1626954789893016217:Unit:=()
noncomputable def hd.tw16331016480089262388:Unit:=()
noncomputable def hd.tw16490958093706603973:Unit:=()
noncomputable def hd.tw16561031784554278298:Unit:=()
noncomputable def hd.tw16607972267231536329:Unit:=()
noncomputable def hd.tw16633321846759511662:Unit:=()
noncomputable def hd.tw16644201821892198081:Unit:=()
noncomputable def hd.tw1665519426611977725:Unit:=()
noncomputable def hd.tw16732195475098059574:Unit:=()
noncomputable def hd.tw1683403540481929176:Unit:=()
noncomputable def hd.tw16874378897286668274:Unit:=()
noncomputable def hd.tw16953484572288141156:Unit:=()
noncomputable def hd.tw16973133056051306746:Unit:=()
noncomputable def hd.tw17059487216203745038:Unit:=()
noncomputable def hd.tw17106247454124805299:Unit:=()
noncomputable def hd.tw17204449605386721941:Unit:=()
noncomputable def hd.tw17213202801741711188:Unit:=()
noncomputable def hd.tw17237978297281736309:Unit:=()
noncomputable def hd.tw17287459089854585945:Unit:=()
noncomputable def hd.tw17327716533671561472:Unit:=()
noncomputable def hd.tw17438610683811369668:Unit:=()
noncomputable def hd.tw17523582860893176437:Unit:=()
noncomputable def hd.tw17587535071971633485:Unit:=()
noncomputable def hd.tw17745206419663925312:Unit:=()
noncomputable def hd.tw17775649180985745786:Unit:=()
noncomputable def hd.tw17896979994045829828:Unit:=()
noncomputable def hd.tw17992777665364332788:Unit:=()
noncomputable def hd.tw18001230695176581838:Unit:=()
noncomputable def hd.tw18059793885086720939:Unit:=()
noncomputable def hd.tw18066081243835392563:Unit:=()
noncomputable def hd.tw18150562674833509941:Unit:=()
noncomputable def hd.tw18153037698230563350:Unit:=()
noncomputable def hd.tw18229235640690726180:Unit:=()
noncomputable def hd.tw18260245816743181511:Unit:=()
noncomputable def hd.tw18272491874396864091:Unit:=()
noncomputable def hd.tw18280231356768202928:Unit:=()
noncomputable def hd.tw18313958262992902728:Unit:=()
noncomputable def hd.tw18315960055377521309:Unit:=()
noncomputable def hd.tw1838016361993159935:Unit:=()
noncomputable def hd.tw18423960213122298384:Unit:=()
noncomputable def hd.tw187721451887068916:Unit:=()
noncomputable def hd.tw1942723855846508794:Unit:=()
noncomputable def hd.tw1981489810998205183:Unit:=()
noncomputable def hd.tw1992405202823017090:Unit:=()
noncomputable def hd.tw2114883523508822293:Unit:=()
noncomputable def hd.tw2116293081078497426:Unit:=()
noncomputable def hd.tw2155373148024153087:Unit:=()
noncomputable def hd.tw2177979273374649106:Unit:=()
noncomputable def hd.tw2234841607322767675:Unit:=()
noncomputable def hd.tw2241180450144564393:Unit:=()
noncomputable def hd.tw231678842138440352:Unit:=()
noncomputable def hd.tw2382034009712293678:Unit:=()
noncomputable def hd.tw2395360589981782600:Unit:=()
noncomputable def hd.tw2417802982746472137:Unit:=()
noncomputable def hd.tw2601553834287326237:Unit:=()
noncomputable def hd.tw2655586099545260437:Unit:=()
noncomputable def hd.tw2686811819572748776:Unit:=()
noncomputable def hd.tw270159884227141191:Unit:=()
noncomputable def hd.tw2777310486606898128:Unit:=()
noncomputable def hd.tw3020274298221478276:Unit:=()
noncomputable def hd.tw3062554034549116351:Unit:=()
noncomputable def hd.tw3219386304998410691:Unit:=()
noncomputable def hd.tw3227706676992921592:Unit:=()
noncomputable def hd.tw3241314515751092627:Unit:=()
noncomputable def hd.tw3490399344014754336:Unit:=()
noncomputable def hd.tw3503359234994187029:Unit:=()
noncomputable def hd.tw3641903923722224168:Unit:=()
noncomputable def hd.tw3655753129109681850:Unit:=()
noncomputable def hd.tw367857026772771265:Unit:=()
noncomputable def hd.tw3692403537964248751:Unit:=()
noncomputable def hd.tw3751741238260587452:Unit:=()
noncomputable def hd.tw3780787445193727532:Unit:=()
noncomputable def hd.tw3896432864908169337:Unit:=()
noncomputable def hd.tw3916285193714390168:Unit:=()
noncomputable def hd.tw4144914912218024235:Unit:=()
noncomputable def hd.tw4158538966326616356:Unit:=()
noncomputable def hd.tw4195166080166848607:Unit:=()
noncomputable def hd.tw4229197034057890473:Unit:=()
noncomputable def hd.tw4455062051430825911:Unit:=()
noncomputable def hd.tw4458026342584188919:Unit:=()
noncomputable def hd.tw4544679596462431387:Unit:=()
noncomputable def hd.tw455996952264472808:Unit:=()
noncomputable def hd.tw4568231203091369911:Unit:=()
noncomputable def hd.tw4572055151466897615:Unit:=()
noncomputable def hd.tw4577393864431605276:Unit:=()
noncomputable def hd.tw4691370680777177264:Unit:=()
noncomputable def hd.tw4790182246096814837:Unit:=()
noncomputable def hd.tw4794295470348331434:Unit:=()
noncomputable def hd.tw4855435815858847083:Unit:=()
noncomputable def hd.tw4932915121498799041:Unit:=()
noncomputable def hd.tw4992423415846252249:Unit:=()
noncomputable def hd.tw5109750279720785074:Unit:=()
noncomputable def hd.tw5129100327938481947:Unit:=()
noncomputable def hd.tw5165858259965997201:Unit:=()
noncomputable def hd.tw539589783910026877:Unit:=()
noncomputable def hd.tw543636222009071611:Unit:=()
noncomputable def hd.tw5462893749543862879:Unit:=()
noncomputable def hd.tw5479632107175813453:Unit:=()
noncomputable def hd.tw5486493490053360157:Unit:=()
noncomputable def hd.tw5533284921534288411:Unit:=()
noncomputable def hd.tw5594199804548315133:Unit:=()
noncomputable def hd.tw5604250919994444252:Unit:=()
noncomputable def hd.tw5630533868503338980:Unit:=()
noncomputable def hd.tw5636303146250169470:Unit:=()
noncomputable def hd.tw5766817342387943034:Unit:=()
noncomputable def hd.tw580301670077480640:Unit:=()
noncomputable def hd.tw5813924530853040166:Unit:=()
noncomputable def hd.tw5848525411004977341:Unit:=()
noncomputable def hd.tw5910955368310942365:Unit:=()
noncomputable def hd.tw5963049168890907350:Unit:=()
noncomputable def hd.tw597430841090971830:Unit:=()
noncomputable def hd.tw6034331834246549318:Unit:=()
noncomputable def hd.tw6046201485432095634:Unit:=()
noncomputable def hd.tw6064361311239337953:Unit:=()
noncomputable def hd.tw6078900312468773854:Unit:=()
noncomputable def hd.tw6128699546485818623:Unit:=()
noncomputable def hd.tw6156775387982992289:Unit:=()
noncomputable def hd.tw6362447207671622590:Unit:=()
noncomputable def hd.tw6418394132375852581:Unit:=()
noncomputable def hd.tw6496468359453899740:Unit:=()
noncomputable def hd.tw6584964919600876763:Unit:=()
noncomputable def hd.tw6597962789093873526:Unit:=()
noncomputable def hd.tw6742079255410503971:Unit:=()
noncomputable def hd.tw6825794384878216377:Unit:=()
noncomputable def hd.tw690909109011163107:Unit:=()
noncomputable def hd.tw69890677706110351:Unit:=()
noncomputable def hd.tw7011742071773796823:Unit:=()
noncomputable def hd.tw7104915865109316593:Unit:=()
noncomputable def hd.tw7107885837275350853:Unit:=()
noncomputable def hd.tw7225735259654059117:Unit:=()
noncomputable def hd.tw7252744027004354421:Unit:=()
noncomputable def hd.tw7339385377263174568:Unit:=()
noncomputable def hd.tw735499216457412341:Unit:=()
noncomputable def hd.tw7363439029260755892:Unit:=()
noncomputable def hd.tw7409293659646686610:Unit:=()
noncomputable def hd.tw7504022934668878425:Unit:=()
noncomputable def hd.tw754995371310844855:Unit:=()
noncomputable def hd.tw778996663928911553:Unit:=()
noncomputable def hd.tw7828148429267724845:Unit:=()
noncomputable def hd.tw7839861392634791998:Unit:=()
noncomputable def hd.tw8019583575661373409:Unit:=()
noncomputable def hd.tw803298182361166000:Unit:=()
noncomputable def hd.tw8113946606531873331:Unit:=()
noncomputable def hd.tw8132022325370165942:Unit:=()
noncomputable def hd.tw8138335841240258086:Unit:=()
noncomputable def hd.tw8151924304054899687:Unit:=()
noncomputable def hd.tw8390539997926843411:Unit:=()
noncomputable def hd.tw8455509636433690358:Unit:=()
noncomputable def hd.tw8494178379519767217:Unit:=()
noncomputable def hd.tw8499867674576427667:Unit:=()
noncomputable def hd.tw8547976606474840627:Unit:=()
noncomputable def hd.tw8580518863689810338:Unit:=()
noncomputable def hd.tw8583156150137307454:Unit:=()
noncomputable def hd.tw8594091374061654533:Unit:=()
noncomputable def hd.tw8637924245605089610:Unit:=()
noncomputable def hd.tw8722938342819674158:Unit:=()
noncomputable def hd.tw8764165114954018434:Unit:=()
noncomputable def hd.tw8890726212758104139:Unit:=()
noncomputable def hd.tw8899746735614894663:Unit:=()
noncomputable def hd.tw8983397095688490290:Unit:=()
noncomputable def hd.tw9003164874222133143:Unit:=()
noncomputable def hd.tw9013603393401162020:Unit:=()
noncomputable def hd.tw9027985886240724871:Unit:=()
noncomputable def hd.tw9032869535437464162:Unit:=()
noncomputable def hd.tw9180358300632990600:Unit:=()
noncomputable def hd.tw9193979096431994668:Unit:=()
noncomputable def hd.tw9221647939110133654:Unit:=()
noncomputable def hd.tw9257564877634915833:Unit:=()
noncomputable def hd.tw9276349011584097663:Unit:=()
noncomputable def hd.tw9285060498679892708:Unit:=()
noncomputable def hd.tw9365843419700471067:Unit:=()
noncomputable def hd.tw9368504840272485767:Unit:=()
noncomputable def hd.tw9372208762206411727:Unit:=()
noncomputable def hd.tw9666415797876524396:Unit:=()
noncomputable def hd.tw9673087150982176410:Unit:=()
noncomputable def hd.tw9691164852092459200:Unit:=()
noncomputable def hd.tw9692193050773601005:Unit:=()
noncomputable def hd.tw9729328000736971776:Unit:=()
noncomputable def hd.tw9747750627657676039:Unit:=()
noncomputable def hd.tw9789424005658652060:Unit:=()
noncomputable def hd.tw9812517637422296469:Unit:=()
noncomputable def hd.tw9878135420369046608:Unit:=()
set_option maxHeartbeats 8000000
set_option Elab.async true
theorem hd:PySem.Challenge.rw_pf0164_01.Holds:=by
  w_on; o_law; k_head; (case hw=>w_witness2)
  w_strict (
  k_fill
  intro w s₀ s₁ mg mb G Y fa o pm cd doc dV kV ho hd hcd hD hmg hg args vals as hpre hlay hrd hwl hlo
  have KX:=km_in_of Y
  km_tabs Y
  have X:=(Ground.X G).1
  have V:=(Ground.X G).2
  refine Ground.open G ?_
  intro T B D TE TW
  try (refine guard_noD D (by decide +kernel) ?_; clear D)
  km_lay T hmg ho hd cd
  wrow_args hpre hlay hrd hwl hlo
  have X':=ghost_K hT9 KX (by kernel_rfl)
  have T':=ghost_top hT9 T
  refine enter_call ?_
  refine kn_post hT9 (fun Z Z=>rfl) ?_
  have HX:AmbOK (GW w s₁ (_root_.Mine.Internal.hd.heap_1_39 w.params) mg mb) prog:={
    K:=X'
    lim:=T'.nolimit
    cls:=fun c=>{ get:=fun f=>⟨by cases c <;> cases f <;> kernel_rfl,by cases c <;> cases f <;> kernel_rfl⟩,dict:=by cases c <;> kernel_rfl,set:=by cases c <;> kernel_rfl,over:=by cases c <;> kernel_rfl,taker:=fun f=>by cases c <;> cases f <;> kernel_rfl }
    sys:=(by decide:(1:Nat) < 152)
    g:=T'.g
    b:=T'.b
    fns:=fun f hf=>mg_of X' T'.g (by cases f <;> first | exact absurd hf (by decide) | kernel_rfl)
    clss:=fun c=>mg_of X' T'.g (by cases c <;> kernel_rfl)
    bis:=fun b=>⟨mg_none_of X' T'.g (by cases b <;> kernel_rfl),(T'.builtins _ (by cases b <;> decide)).trans (by
      cases b
      · exact (by boot_fast:bootBuiltins (Str.ofString "len")=some (.builtin "len"))
      · exact (by boot_fast:bootBuiltins (Str.ofString "max")=some (.builtin "max"))
      · exact (by boot_fast:bootBuiltins (Str.ofString "int")=some (.type "int"))
      · exact (by boot_fast:bootBuiltins (Str.ofString "sum")=some (.builtin "sum"))
      · exact (by boot_fast:bootBuiltins (Str.ofString "tuple")=some (.type "tuple"))
      · exact (by boot_fast:bootBuiltins (Str.ofString "dict")=some (.type "dict"))
      · exact (by boot_fast:bootBuiltins (Str.ofString "range")=some (.type "range")))⟩
    lst:=⟨mg_none_of X' T'.g (by kernel_rfl),(T'.builtins _ (by decide)).trans (by boot_fast)⟩
    enm:=⟨mg_none_of X' T'.g (by kernel_rfl),(T'.builtins _ (by decide)).trans (by boot_fast)⟩
    byte:=⟨.ref 211,mg_of X' T'.g (by kernel_rfl),by
      exact Kj (us:=#[.str (Str.ofString "int") 452,.str (Str.ofString "u8") 453]) (n:=0) (X' _ _ (by kernel_rfl)) (dc (dw _) (dc (dw _) dz))⟩
    keepF:=by intro f; cases f <;> kernel_rfl
    keepC:=by intro f; cases f <;> kernel_rfl
    fn:=fun f=>by
      cases f
      case retargeted =>
        refine ⟨_,_,bL (hk:=rfl) X' rfl rfl rfl rfl rfl ⟨_,_,_,_,rfl,rfl,rfl,rfl⟩ (by decide +kernel) ⟨rfl,rfl,rfl,rfl⟩ ⟨rfl,rfl,rfl⟩ (by decide +kernel) (by decide +kernel) (fun x hx=>absurd hx List.not_mem_nil) (by decide +kernel) (by decide +kernel) (by decide +kernel) (by decide +kernel) (by decide) ?_,bW rY ?_⟩
        · exact br (by decide +kernel) ⟨rfl,rfl,rfl,rfl⟩ (by decide +kernel) rfl rfl (by decide)
        · kernel_rfl
      case copied =>
        refine ⟨_,_,bL (hk:=rfl) X' rfl rfl rfl rfl rfl ⟨_,_,_,_,rfl,rfl,rfl,rfl⟩ (by decide +kernel) ⟨rfl,rfl,rfl,rfl⟩ ⟨rfl,rfl,rfl⟩ (by decide +kernel) (by decide +kernel) (fun x hx=>absurd hx List.not_mem_nil) (by decide +kernel) (by decide +kernel) (by decide +kernel) (by decide +kernel) (by decide) ?_,bW zK ?_⟩
        · exact br (by decide +kernel) ⟨rfl,rfl,rfl,rfl⟩ (by decide +kernel) rfl rfl (by decide)
        · kernel_rfl
      case operandsOf =>
        refine ⟨_,_,bL (hk:=rfl) X' rfl rfl rfl rfl rfl ⟨_,_,_,_,rfl,rfl,rfl,rfl⟩ (by decide +kernel) ⟨rfl,rfl,rfl,rfl⟩ ⟨rfl,rfl,rfl⟩ (by decide +kernel) (by decide +kernel) (fun x hx=>absurd hx List.not_mem_nil) (by decide +kernel) (by decide +kernel) (by decide +kernel) (by decide +kernel) (by decide) ?_,bW rX ?_⟩
        · exact br (by decide +kernel) ⟨rfl,rfl,rfl,rfl⟩ (by decide +kernel) rfl rfl (by decide)
        · kernel_rfl
      case withOperands =>
        refine ⟨_,_,bL (hk:=rfl) X' rfl rfl rfl rfl rfl ⟨_,_,_,_,rfl,rfl,rfl,rfl⟩ (by decide +kernel) ⟨rfl,rfl,rfl,rfl⟩ ⟨rfl,rfl,rfl⟩ (by decide +kernel) (by decide +kernel) (fun x hx=>absurd hx List.not_mem_nil) (by decide +kernel) (by decide +kernel) (by decide +kernel) (by decide +kernel) (by decide) ?_,bW qp ?_⟩
        · exact br (by decide +kernel) ⟨rfl,rfl,rfl,rfl⟩ (by decide +kernel) rfl rfl (by decide)
        · kernel_rfl
      case isSmall =>
        refine ⟨_,_,bL (hk:=rfl) X' rfl rfl rfl rfl rfl ⟨_,_,_,_,rfl,rfl,rfl,rfl⟩ (by decide +kernel) ⟨rfl,rfl,rfl,rfl⟩ ⟨rfl,rfl,rfl⟩ (by decide +kernel) (by decide +kernel) (fun x hx=>absurd hx List.not_mem_nil) (by decide +kernel) (by decide +kernel) (by decide +kernel) (by decide +kernel) (by decide) ?_,bW wi ?_⟩
        · exact br (by decide +kernel) ⟨rfl,rfl,rfl,rfl⟩ (by decide +kernel) rfl rfl (by decide)
        · kernel_rfl
      case movedPlace =>
        refine ⟨_,_,bL (hk:=rfl) X' rfl rfl rfl rfl rfl ⟨_,_,_,_,rfl,rfl,rfl,rfl⟩ (by decide +kernel) ⟨rfl,rfl,rfl,rfl⟩ ⟨rfl,rfl,rfl⟩ (by decide +kernel) (by decide +kernel) (fun x hx=>absurd hx List.not_mem_nil) (by decide +kernel) (by decide +kernel) (by decide +kernel) (by decide +kernel) (by decide) ?_,bW rV ?_⟩
        · exact br (by decide +kernel) ⟨rfl,rfl,rfl,rfl⟩ (by decide +kernel) rfl rfl (by decide)
        · kernel_rfl
      case movedOperand =>
        refine ⟨_,_,bL (hk:=rfl) X' rfl rfl rfl rfl rfl ⟨_,_,_,_,rfl,rfl,rfl,rfl⟩ (by decide +kernel) ⟨rfl,rfl,rfl,rfl⟩ ⟨rfl,rfl,rfl⟩ (by decide +kernel) (by decide +kernel) (fun x hx=>absurd hx List.not_mem_nil) (by decide +kernel) (by decide +kernel) (by decide +kernel) (by decide +kernel) (by decide) ?_,bW qm ?_⟩
        · exact br (by decide +kernel) ⟨rfl,rfl,rfl,rfl⟩ (by decide +kernel) rfl rfl (by decide)
        · kernel_rfl
      case movedOperands =>
        refine ⟨_,_,bL (hk:=rfl) X' rfl rfl rfl rfl rfl ⟨_,_,_,_,rfl,rfl,rfl,rfl⟩ (by decide +kernel) ⟨rfl,rfl,rfl,rfl⟩ ⟨rfl,rfl,rfl⟩ (by decide +kernel) (by decide +kernel) (fun x hx=>absurd hx List.not_mem_nil) (by decide +kernel) (by decide +kernel) (by decide +kernel) (by decide +kernel) (by decide) ?_,bW o5 ?_⟩
        · exact br (by decide +kernel) ⟨rfl,rfl,rfl,rfl⟩ (by decide +kernel) rfl rfl (by decide)
        · kernel_rfl
      case movedRvalue =>
        refine ⟨_,_,bL (hk:=rfl) X' rfl rfl rfl rfl rfl ⟨_,_,_,_,rfl,rfl,rfl,rfl⟩ (by decide +kernel) ⟨rfl,rfl,rfl,rfl⟩ ⟨rfl,rfl,rfl⟩ (by decide +kernel) (by decide +kernel) (fun x hx=>absurd hx List.not_mem_nil) (by decide +kernel) (by decide +kernel) (by decide +kernel) (by decide +kernel) (by decide) ?_,bW qS ?_⟩
        · exact br (by decide +kernel) ⟨rfl,rfl,rfl,rfl⟩ (by decide +kernel) rfl rfl (by decide)
        · kernel_rfl
      case movedStatement =>
        refine ⟨_,_,bL (hk:=rfl) X' rfl rfl rfl rfl rfl ⟨_,_,_,_,rfl,rfl,rfl,rfl⟩ (by decide +kernel) ⟨rfl,rfl,rfl,rfl⟩ ⟨rfl,rfl,rfl⟩ (by decide +kernel) (by decide +kernel) (fun x hx=>absurd hx List.not_mem_nil) (by decide +kernel) (by decide +kernel) (by decide +kernel) (by decide +kernel) (by decide) ?_,bW n9 ?_⟩
        · exact br (by decide +kernel) ⟨rfl,rfl,rfl,rfl⟩ (by decide +kernel) rfl rfl (by decide)
        · kernel_rfl
      case movedTerminator =>
        refine ⟨_,_,bL (hk:=rfl) X' rfl rfl rfl rfl rfl ⟨_,_,_,_,rfl,rfl,rfl,rfl⟩ (by decide +kernel) ⟨rfl,rfl,rfl,rfl⟩ ⟨rfl,rfl,rfl⟩ (by decide +kernel) (by decide +kernel) (fun x hx=>⟨rfl,rfl⟩) (by decide +kernel) (by decide +kernel) (by decide +kernel) (by decide +kernel) (by decide) ?_,bW mP ?_⟩
        · exact br (by decide +kernel) ⟨rfl,rfl,rfl,rfl⟩ (by decide +kernel) rfl rfl (by decide)
        · kernel_rfl
      case calledKey =>
        refine ⟨_,_,bL (hk:=rfl) X' rfl rfl rfl rfl rfl ⟨_,_,_,_,rfl,rfl,rfl,rfl⟩ (by decide +kernel) ⟨rfl,rfl,rfl,rfl⟩ ⟨rfl,rfl,rfl⟩ (by decide +kernel) (by decide +kernel) (fun x hx=>absurd hx List.not_mem_nil) (by decide +kernel) (by decide +kernel) (by decide +kernel) (by decide +kernel) (by decide) ?_,bW ux ?_⟩
        · exact br (by decide +kernel) ⟨rfl,rfl,rfl,rfl⟩ (by decide +kernel) rfl rfl (by decide)
        · kernel_rfl
      case inlined =>
        refine ⟨_,_,bL (hk:=rfl) X' rfl rfl rfl rfl rfl ⟨_,_,_,_,rfl,rfl,rfl,rfl⟩ (by decide +kernel) ⟨rfl,rfl,rfl,rfl⟩ ⟨rfl,rfl,rfl⟩ (by decide +kernel) (by decide +kernel) (fun x hx=>absurd hx List.not_mem_nil) (by decide +kernel) (by decide +kernel) (by decide +kernel) (by decide +kernel) (by decide) ?_,bW wn ?_⟩
        · intro s vals keep l1 l2
          have hT:=keep _ _ (X' 203 (d8 #[.int 12 313] 0) (by kernel_rfl))
          rcases G8 l1 l2 with ⟨a,b,rfl⟩ | ⟨a,b,c,rfl⟩
          · exact ⟨[.int 12 313],dc (di _) dz,BindsTo.of_defaults rfl hT rfl rfl rfl⟩
          · exact ⟨[],dz,BindsTo.of_defaults rfl hT rfl rfl rfl⟩
        · kernel_rfl
      case pool =>
        refine ⟨_,_,bL (hk:=rfl) X' rfl rfl rfl rfl rfl ⟨_,_,_,_,rfl,rfl,rfl,rfl⟩ (by decide +kernel) ⟨rfl,rfl,rfl,rfl⟩ ⟨rfl,rfl,rfl⟩ (by decide +kernel) (by decide +kernel) (fun x hx=>absurd hx List.not_mem_nil) (by decide +kernel) (by decide +kernel) (by decide +kernel) (by decide +kernel) (by decide) ?_,bW CW ?_⟩
        · exact br (by decide +kernel) ⟨rfl,rfl,rfl,rfl⟩ (by decide +kernel) rfl rfl (by decide)
        · kernel_rfl
      case take =>
        refine ⟨_,_,bL (hk:=rfl) X' rfl rfl rfl rfl rfl ⟨_,_,_,_,rfl,rfl,rfl,rfl⟩ (by decide +kernel) ⟨rfl,rfl,rfl,rfl⟩ ⟨rfl,rfl,rfl⟩ (by decide +kernel) (by decide +kernel) (fun x hx=>absurd hx List.not_mem_nil) (by decide +kernel) (by decide +kernel) (by decide +kernel) (by decide +kernel) (by decide) ?_,bW Dn ?_⟩
        · exact br (by decide +kernel) ⟨rfl,rfl,rfl,rfl⟩ (by decide +kernel) rfl rfl (by decide)
        · kernel_rfl
      case one =>
        refine ⟨_,_,bL (hk:=rfl) X' rfl rfl rfl rfl rfl ⟨_,_,_,_,rfl,rfl,rfl,rfl⟩ (by decide +kernel) ⟨rfl,rfl,rfl,rfl⟩ ⟨rfl,rfl,rfl⟩ (by decide +kernel) (by decide +kernel) (fun x hx=>absurd hx List.not_mem_nil) (by decide +kernel) (by decide +kernel) (by decide +kernel) (by decide +kernel) (by decide) ?_,bW Er ?_⟩
        · exact br (by decide +kernel) ⟨rfl,rfl,rfl,rfl⟩ (by decide +kernel) rfl rfl (by decide)
        · kernel_rfl
      case value =>
        refine ⟨_,_,bL (hk:=rfl) X' rfl rfl rfl rfl rfl ⟨_,_,_,_,rfl,rfl,rfl,rfl⟩ (by decide +kernel) ⟨rfl,rfl,rfl,rfl⟩ ⟨rfl,rfl,rfl⟩ (by decide +kernel) (by decide +kernel) (fun x hx=>absurd hx List.not_mem_nil) (by decide +kernel) (by decide +kernel) (by decide +kernel) (by decide +kernel) (by decide) ?_,bW AS ?_⟩
        · exact br (by decide +kernel) ⟨rfl,rfl,rfl,rfl⟩ (by decide +kernel) rfl rfl (by decide)
        · kernel_rfl
      case set =>
        refine ⟨_,_,bL (hk:=rfl) X' rfl rfl rfl rfl rfl ⟨_,_,_,_,rfl,rfl,rfl,rfl⟩ (by decide +kernel) ⟨rfl,rfl,rfl,rfl⟩ ⟨rfl,rfl,rfl⟩ (by decide +kernel) (by decide +kernel) (fun x hx=>absurd hx List.not_mem_nil) (by decide +kernel) (by decide +kernel) (by decide +kernel) (by decide +kernel) (by decide) ?_,bW GE ?_⟩
        · exact br (by decide +kernel) ⟨rfl,rfl,rfl,rfl⟩ (by decide +kernel) rfl rfl (by decide)
        · kernel_rfl
      case do_ =>
        refine ⟨_,_,bL (hk:=rfl) X' rfl rfl rfl rfl rfl ⟨_,_,_,_,rfl,rfl,rfl,rfl⟩ (by decide +kernel) ⟨rfl,rfl,rfl,rfl⟩ ⟨rfl,rfl,rfl⟩ (by decide +kernel) (by decide +kernel) (fun x hx=>absurd hx List.not_mem_nil) (by decide +kernel) (by decide +kernel) (by decide +kernel) (by decide +kernel) (by decide) ?_,bW FF ?_⟩
        · exact br (by decide +kernel) ⟨rfl,rfl,rfl,rfl⟩ (by decide +kernel) rfl rfl (by decide)
        · kernel_rfl
      case run =>
        refine ⟨_,_,bL (hk:=rfl) X' rfl rfl rfl rfl rfl ⟨_,_,_,_,rfl,rfl,rfl,rfl⟩ (by decide +kernel) ⟨rfl,rfl,rfl,rfl⟩ ⟨rfl,rfl,rfl⟩ (by decide +kernel) (by decide +kernel) (fun x hx=>absurd hx List.not_mem_nil) (by decide +kernel) (by decide +kernel) (by decide +kernel) (by decide +kernel) (by decide) ?_,bW Fp ?_⟩
        · exact br (by decide +kernel) ⟨rfl,rfl,rfl,rfl⟩ (by decide +kernel) rfl rfl (by decide)
        · kernel_rfl
      case place =>
        refine ⟨_,_,bL (hk:=rfl) X' rfl rfl rfl rfl rfl ⟨_,_,_,_,rfl,rfl,rfl,rfl⟩ (by decide +kernel) ⟨rfl,rfl,rfl,rfl⟩ ⟨rfl,rfl,rfl⟩ (by decide +kernel) (by decide +kernel) (fun x hx=>absurd hx List.not_mem_nil) (by decide +kernel) (by decide +kernel) (by decide +kernel) (by decide +kernel) (by decide) ?_,bW Az ?_⟩
        · exact br (by decide +kernel) ⟨rfl,rfl,rfl,rfl⟩ (by decide +kernel) rfl rfl (by decide)
        · kernel_rfl
      case number =>
        refine ⟨_,_,bL (hk:=rfl) X' rfl rfl rfl rfl rfl ⟨_,_,_,_,rfl,rfl,rfl,rfl⟩ (by decide +kernel) ⟨rfl,rfl,rfl,rfl⟩ ⟨rfl,rfl,rfl⟩ (by decide +kernel) (by decide +kernel) (fun x hx=>absurd hx List.not_mem_nil) (by decide +kernel) (by decide +kernel) (by decide +kernel) (by decide +kernel) (by decide) ?_,bW yE ?_⟩
        · exact br (by decide +kernel) ⟨rfl,rfl,rfl,rfl⟩ (by decide +kernel) rfl rfl (by decide)
        · kernel_rfl
      case small =>
        refine ⟨_,_,bL (hk:=rfl) X' rfl rfl rfl rfl rfl ⟨_,_,_,_,rfl,rfl,rfl,rfl⟩ (by decide +kernel) ⟨rfl,rfl,rfl,rfl⟩ ⟨rfl,rfl,rfl⟩ (by decide +kernel) (by decide +kernel) (fun x hx=>absurd hx List.not_mem_nil) (by decide +kernel) (by decide +kernel) (by decide +kernel) (by decide +kernel) (by decide) ?_,bW Al ?_⟩
        · exact br (by decide +kernel) ⟨rfl,rfl,rfl,rfl⟩ (by decide +kernel) rfl rfl (by decide)
        · kernel_rfl
      case middle =>
        refine ⟨_,_,bL (hk:=rfl) X' rfl rfl rfl rfl rfl ⟨_,_,_,_,rfl,rfl,rfl,rfl⟩ (by decide +kernel) ⟨rfl,rfl,rfl,rfl⟩ ⟨rfl,rfl,rfl⟩ (by decide +kernel) (by decide +kernel) (fun x hx=>absurd hx List.not_mem_nil) (by decide +kernel) (by decide +kernel) (by decide +kernel) (by decide +kernel) (by decide) ?_,bW yI ?_⟩
        · exact br (by decide +kernel) ⟨rfl,rfl,rfl,rfl⟩ (by decide +kernel) rfl rfl (by decide)
        · kernel_rfl
      case mainL =>
        refine ⟨_,_,bL (hk:=rfl) X' rfl rfl rfl rfl rfl ⟨_,_,_,_,rfl,rfl,rfl,rfl⟩ (by decide +kernel) ⟨rfl,rfl,rfl,rfl⟩ ⟨rfl,rfl,rfl⟩ (by decide +kernel) (by decide +kernel) (fun x hx=>absurd hx List.not_mem_nil) (by decide +kernel) (by decide +kernel) (by decide +kernel) (by decide +kernel) (by decide) ?_,bW AK ?_⟩
        · exact br (by decide +kernel) ⟨rfl,rfl,rfl,rfl⟩ (by decide +kernel) rfl rfl (by decide)
        · kernel_rfl
      case calls =>
        refine ⟨_,_,bL (hk:=rfl) X' rfl rfl rfl rfl rfl ⟨_,_,_,_,rfl,rfl,rfl,rfl⟩ (by decide +kernel) ⟨rfl,rfl,rfl,rfl⟩ ⟨rfl,rfl,rfl⟩ (by decide +kernel) (by decide +kernel) (fun x hx=>absurd hx List.not_mem_nil) (by decide +kernel) (by decide +kernel) (by decide +kernel) (by decide +kernel) (by decide) ?_,bW Ag ?_⟩
        · exact br (by decide +kernel) ⟨rfl,rfl,rfl,rfl⟩ (by decide +kernel) rfl rfl (by decide)
        · kernel_rfl
      case told =>
        refine ⟨_,_,bL (hk:=rfl) X' rfl rfl rfl rfl rfl ⟨_,_,_,_,rfl,rfl,rfl,rfl⟩ (by decide +kernel) ⟨rfl,rfl,rfl,rfl⟩ ⟨rfl,rfl,rfl⟩ (by decide +kernel) (by decide +kernel) (fun x hx=>absurd hx List.not_mem_nil) (by decide +kernel) (by decide +kernel) (by decide +kernel) (by decide +kernel) (by decide) ?_,bW Do ?_⟩
        · exact br (by decide +kernel) ⟨rfl,rfl,rfl,rfl⟩ (by decide +kernel) rfl rfl (by decide)
        · kernel_rfl
      case law =>
        refine ⟨_,_,bL (hk:=rfl) X' rfl rfl rfl rfl rfl ⟨_,_,_,_,rfl,rfl,rfl,rfl⟩ (by decide +kernel) ⟨rfl,rfl,rfl,rfl⟩ ⟨rfl,rfl,rfl⟩ (by decide +kernel) (by decide +kernel) (fun x hx=>absurd hx List.not_mem_nil) (by decide +kernel) (by decide +kernel) (by decide +kernel) (by decide +kernel) (by decide) ?_,bW Gv ?_⟩
        · exact br (by decide +kernel) ⟨rfl,rfl,rfl,rfl⟩ (by decide +kernel) rfl rfl (by decide)
        · kernel_rfl
      case put =>
        refine ⟨_,_,bL (hk:=rfl) X' rfl rfl rfl rfl rfl ⟨_,_,_,_,rfl,rfl,rfl,rfl⟩ (by decide +kernel) ⟨rfl,rfl,rfl,rfl⟩ ⟨rfl,rfl,rfl⟩ (by decide +kernel) (by decide +kernel) (fun x hx=>absurd hx List.not_mem_nil) (by decide +kernel) (by decide +kernel) (by decide +kernel) (by decide +kernel) (by decide) ?_,kp GQ ?_⟩
        · exact br (by decide +kernel) ⟨rfl,rfl,rfl,rfl⟩ (by decide +kernel) rfl rfl (by decide)
        · kernel_rfl
      case tellSpots =>
        refine ⟨_,_,bL (hk:=rfl) X' rfl rfl rfl rfl rfl ⟨_,_,_,_,rfl,rfl,rfl,rfl⟩ (by decide +kernel) ⟨rfl,rfl,rfl,rfl⟩ ⟨rfl,rfl,rfl⟩ (by decide +kernel) (by decide +kernel) (fun x hx=>absurd hx List.not_mem_nil) (by decide +kernel) (by decide +kernel) (by decide +kernel) (by decide +kernel) (by decide) ?_,kp uf ?_⟩
        · exact br (by decide +kernel) ⟨rfl,rfl,rfl,rfl⟩ (by decide +kernel) rfl rfl (by decide)
        · kernel_rfl
      case putBlock =>
        refine ⟨_,_,bL (hk:=rfl) X' rfl rfl rfl rfl rfl ⟨_,_,_,_,rfl,rfl,rfl,rfl⟩ (by decide +kernel) ⟨rfl,rfl,rfl,rfl⟩ ⟨rfl,rfl,rfl⟩ (by decide +kernel) (by decide +kernel) (fun x hx=>absurd hx List.not_mem_nil) (by decide +kernel) (by decide +kernel) (by decide +kernel) (by decide +kernel) (by decide) ?_,kp uJ ?_⟩
        · exact br (by decide +kernel) ⟨rfl,rfl,rfl,rfl⟩ (by decide +kernel) rfl rfl (by decide)
        · kernel_rfl
      case initCaller =>
        refine ⟨_,_,bL (hk:=rfl) X' rfl rfl rfl rfl rfl ⟨_,_,_,_,rfl,rfl,rfl,rfl⟩ (by decide +kernel) ⟨rfl,rfl,rfl,rfl⟩ ⟨rfl,rfl,rfl⟩ (by decide +kernel) (by decide +kernel) (fun x hx=>absurd hx List.not_mem_nil) (by decide +kernel) (by decide +kernel) (by decide +kernel) (by decide +kernel) (by decide) ?_,kp rW ?_⟩
        · exact br (by decide +kernel) ⟨rfl,rfl,rfl,rfl⟩ (by decide +kernel) rfl rfl (by decide)
        · kernel_rfl
      case initBody =>
        refine ⟨_,_,bL (hk:=rfl) X' rfl rfl rfl rfl rfl ⟨_,_,_,_,rfl,rfl,rfl,rfl⟩ (by decide +kernel) ⟨rfl,rfl,rfl,rfl⟩ ⟨rfl,rfl,rfl⟩ (by decide +kernel) (by decide +kernel) (fun x hx=>absurd hx List.not_mem_nil) (by decide +kernel) (by decide +kernel) (by decide +kernel) (by decide +kernel) (by decide) ?_,kp uQ ?_⟩
        · intro s vals keep l1 l2
          have hT:=keep _ _ (X' 29 (d8 #[.none,.none] 0) (by kernel_rfl))
          rcases Hm l1 l2 with ⟨a,b,c,d,rfl⟩ | ⟨a,b,c,d,e,rfl⟩ | ⟨a,b,c,d,e,g,rfl⟩
          · exact ⟨[.none,.none],dc dn (dc dn dz),BindsTo.of_defaults rfl hT rfl rfl rfl⟩
          · exact ⟨[.none],dc dn dz,BindsTo.of_defaults rfl hT rfl rfl rfl⟩
          · exact ⟨[],dz,BindsTo.of_defaults rfl hT rfl rfl rfl⟩
        · kernel_rfl
    hd:=(ghost_code hT9).1
    bat:=by
      obtain ⟨bm,ob,h1,h2,h3,h4,h5,h6⟩:=T'.bmain
      refine ⟨bm,ob,h1,h2,fun q=>?_,fun q=>?_,h3,h4,h5,h6⟩
      · subst q
        obtain ⟨o2,es,ep,e,hd2,_⟩:=T'.g
        rw [h3] at e; cases e; rw [h6] at hd2; cases hd2
      · subst q
        have:=mg_of X' T'.g (n:=Str.ofString "__builtins__") (v:=.ref 4) (by kernel_rfl)
        rw [h1] at this; cases this
    gtab:=(by decide:(3:Nat) ≠ 152)
    makes:=by intro f; cases f <;> kernel_rfl
    init:=⟨by kernel_rfl,by kernel_rfl⟩
    func:=by intro f; cases f <;> kernel_rfl
    meth:=by intro f hf; cases f <;> first | exact absurd hf (by decide) | kernel_rfl }
  have hfa:fa=306:=by
    have:=mg_of KX T.g (n:=Str.ofString "law") (v:=.ref 306) (by kernel_rfl)
    have e2:=hmg.symm.trans this
    cases e2
    rfl
  subst hfa
  clear hmg hd hcd hD
  rename Well _ _ _ _=>hW
  rename ¬ _ < _=>hlen
  obtain ⟨vs,e1,e2⟩:=wl (X:=GW w s₁ (_root_.Mine.Internal.hd.heap_1_39 w.params) mg mb) (p:=(ghostOf s₁.heap [(156,152)]).get?) hW
  rename List Int=>l
  obtain ⟨m,e3⟩:=Bq l (by omega)
  refine Fs (f:=.law) HX (n:=12) (ds:=[.lst (l.map .int)]) ⟨rfl,by decide,by decide⟩ (fun a ob e=>of_hideAll _ e) (hideAll_none _ (.head _)) (hT8 152 (.head _)) ?_ e3 fun h' tk hk hg'=>⟨A7 hk hg,hg',trivial⟩
  have e1':=ghost_get (tabs:=[(156,152)]) hT9 e1 (fun q=>by have:=congrArg Obj.cls q; cases this)
  exact dc (Kz (us:=vs) e1' e2) dz)
set_option Elab.async false
end Mine.Internal
theorem PySem.Challenge.cw_pf0164_01_holds : PySem.Challenge.rw_pf0164_01.Holds :=
  Mine.Internal.hd
