import PyProof.Rows.All
import Wide.All
import OpenK.AllK
import Wide.FinOn
import PySem.Challenge.RW_ot0027_01
set_option Elab.async false
set_option bootstrap.genMatcherCode false
set_option genSizeOf false
set_option linter.all false
set_option tactic.hygienic false
open PySem PySem.W PySem.Calls PyProof.Rows
noncomputable section
namespace Mine.Internal
theorem hC {p:Prop}(h:¬p→False):p:=Classical.byContradiction h
theorem ar0 {a:Nat} :(0:Int)≤(↑a:Int)+(2:Int):=Int.ofNat_nonneg _
theorem ar1 {a:Nat}(h:a≤1000000):a≤16000000:=Nat.le_trans h (Nat.le_add_left _ _)
theorem ar2 {a b:Nat}(h:b≤1000000) (i:a≤b):a≤16000000:=Nat.le_trans i (Nat.le_trans h (Nat.le_of_ble_eq_true rfl))
theorem ar3 {a:Nat} :a+2 - a=2:=by simp
theorem ar6 {a b:Nat}(h:a+4≤999) (i:b=1000):a+1<b:=Nat.lt_of_lt_of_le (Nat.add_lt_add_left (by decide:1<4) a) (Nat.le_trans h (Nat.le_trans (Nat.le_of_ble_eq_true rfl) (Nat.le_of_eq i.symm)))
theorem ar7 {a:Int}(h:(0:Int)≤a) (i:a≤(1:Int)):(-9223372036854775808:Int)≤a∧a<(9223372036854775808:Int):=by lia
theorem ar8 {a b:Nat}(h:a+b≤16000000):a+b≤16777216:=Nat.le_trans h (Nat.le_add_left _ _)
theorem ar10 {a:Int}(h:(0:Int)≤a) (i:a≤(1:Int)) (j:¬a=(0:Int)):a=(1:Int):=by lia
theorem ar11 {a b c:Nat}(h:a<c) (i:c=b):a<b:=by subst_vars;omega
theorem ar12 {a b c:Nat}(h:a+(c+1)+2<b):a<b:=by lia
theorem ar13 {a b c:Nat}(h:a+(b+1)+2<c):a+1+b+2<c:=by simp +arith at *;assumption
theorem ar14 {a b:Nat}(h:¬b<a):a≤b:=Nat.le_of_not_lt h
theorem ar15 {a b c:Nat}(h:c=a) (i:¬b<c):a≤b:=by subst h;lia
theorem tD {a b:Nat}(h:a+610<b):a<b:=Nat.lt_of_le_of_lt (Nat.le_add_right _ _) h
theorem ar17 {a b c:Nat}(h:a=0) (i:b=a) (j:c<b):False:=by subst_vars;lia
theorem ar18 {a b c d:Nat}(h:a=c) (i:b=d) (j:c≠d):a≠b:=by subst_vars;omega
theorem ar19 {a b c d:Nat}(h:a=c) (i:b=d) (j:c=d):a=b:=by subst_vars;simp
theorem ar20 {a b c d:Nat}(h:a=c) (i:b=d) (j:¬c=d):a≠b:=by subst_vars;omega
theorem ar23 {a b c:Nat}(h:b=c) (i:a<c):a<b:=by subst_vars;omega
theorem ar24 {a:Int}(h:(0:Int)≤a):¬a<(0:Int):=by lia
theorem ar25 {a:Int}(h:¬(0:Int)≤a):a<(0:Int):=by lia
theorem ar26 {b:Nat}{a:Int}(h:-(↑b:Int)≤a) (i:a<(0:Int)):(0:Int)≤a+(↑b:Int)∧a+(↑b:Int)<(↑b:Int):=by lia
theorem ar27 {a:Nat}{b:Int}(h:¬(0:Int)≤b) (i:-(↑a:Int)≤b):-(↑a:Int)≤b∧b<(↑a:Int):=by lia
theorem ar28 {a c:Nat}{b:Int}(h:-(↑c:Int)≤b∧b<(↑c:Int)) (i:a=c):-(↑a:Int)≤b:=by subst_vars;lia
theorem ar29 {a b c:Nat}(h:a≤b):a≤b - c+c:=Nat.le_add_of_sub_le (Nat.sub_le_sub_right h c)
theorem ar30 {a b:Nat}(h:a≤b):a≤b:=by omega
theorem ar31 {a:Nat}(h:a≤16000000):a≤16777216:=Nat.le_trans h (Nat.le_add_left _ _)
theorem ar32 {a b c:Nat} :min a b≤b+c:=Nat.le_trans (Nat.min_le_right a b) (Nat.le_add_right _ _)
theorem ar33 {a:Nat}(h:¬a=(0:Nat)):(-1:Int)<(↑a:Int) - (1:Int):=by lia
theorem ar35 {a b c:Nat}(h:min c b - min a b=b):min a b=0:=Nat.eq_zero_of_not_pos fun p=>Nat.lt_irrefl b (Nat.lt_of_lt_of_le (Nat.lt_of_le_of_lt (Nat.le_of_eq h.symm) (Nat.sub_lt (Nat.pos_of_ne_zero fun (e:min c b=0)=>by rw [e,Nat.zero_sub] at h;exact Nat.lt_irrefl 0 (Nat.lt_of_lt_of_le p (Nat.le_trans (Nat.min_le_right a b) (Nat.le_of_eq h.symm)))) p)) (Nat.min_le_right c b))
theorem ar43 {a b c d:Nat}(h:a=c) (i:b=d) (j:c+d≤16000000):a+b≤16777216:=by subst_vars;lia
theorem ar44 {a b c d:Nat}(h:b≤1000) (i:c≤d+1) (j:d=b) (k:a=c):a≤16777216+1:=by subst_vars;lia
theorem ar46 {b c:Nat}{a:Int}(h:b=c) (i:a<(↑c:Int)):a<(↑b:Int):=by subst_vars;omega
theorem ar47 {a:Int}(h:(0:Int)≤a) (i:a≤(16000001:Int)):(-9223372036854775808:Int)≤a∧a<(9223372036854775808:Int):=by lia
theorem ar48 {a:Int}(h:a≤(16000000:Int)):a≤(16000001:Int):=by lia
theorem ar49 {a:Int}(h:(0:Int)≤a):(0:Int)≤a+((1:Int) - (1:Int)):=by lia
theorem ar50 {a:Int}(h:a≤(16000000:Int)):a+((1:Int) - (1:Int))≤(16000001:Int):=by lia
theorem ar52 {a b:Nat}(h:b<a):a+1 - (b+1)<a+1 - b:=by rw [Nat.add_sub_add_right,Nat.succ_sub (Nat.le_of_lt h)];exact Nat.lt_succ_self _
theorem ar54 {a:Nat} :a+1≠a:=by simp
theorem ar55 {a:Nat} :a+1≠a+1+1:=by simp
theorem ar56 {a:Nat} :a≠a+1+1:=by simp +arith
theorem ar57 {a b:Nat}(h:b≤20) (i:a=b):a<30:=by subst_vars;lia
theorem ar58 {a:Nat}(h:a<2):a=0∨a=1:=by lia
theorem ar59 {a b:Nat}(h:b=2∨b=3) (i:a=b):a≤100:=by lia
theorem ar60 {a b:Nat}(h:a+2*b+21≤999):a+4≤999:=by simp;lia
theorem ar61 {a b c:Nat}(h:a+710+20*c<b):a+50<b:=Nat.lt_of_le_of_lt (Nat.le_trans (Nat.add_le_add_left (by decide:50≤710) a) (Nat.le_add_right _ _)) h
theorem ar62 {a b c:Nat}(h:a+b≤c):min (a+b) c=a+b:=by lia
theorem ar63 {a b c:Nat}(h:a+2*(c+1)+20≤999) (i:b=1000):a<b:=by subst i;lia
theorem ar64 {a b:Nat}(h:a+2*(b+1)+20≤999):a+1+2*b+21≤999:=by simp +arith at *;assumption
theorem ar65 {a b c:Nat}(h:a+700+20*(b+1)<c):a+3+710+20*b<c:=by lia
theorem ar66 {a b:Nat}(h:a+2*b+21≤999):a+1+2*b+20≤999:=by simp +arith at *;assumption
theorem ar67 {a b c:Nat}(h:a+710+20*b<c):a+1+700+20*b<c:=by lia
theorem ar68 {a b c:Nat}(h:b≤c) (i:a+2*c+20≤999):a+2*b+20≤999:=Nat.le_trans (Nat.add_le_add_right (Nat.add_le_add_left (Nat.mul_le_mul_left 2 h) a) 20) i
theorem ar73 {a b c:Nat}(h:b - a=c+1):a<b:=Nat.sub_pos_iff_lt.mp (h.symm▸Nat.succ_pos c)
theorem ar75 {a b c:Nat}(h:b - a=c+1+1):a+1<b:=Nat.add_lt_of_lt_sub' (h.symm▸Nat.succ_lt_succ (Nat.succ_pos c))
theorem jR {a:Nat}(h:a≤1000):a≤16000000:=Nat.le_trans h (Nat.le_add_left _ _)
theorem ar79 {a b:Nat}(h:a<b):(↑a:Int)<(↑b:Int):=by simp +arith at *;assumption
theorem ar83 {a b:Nat}(h:a+(b+1)≤15000000):a<16000000:=Nat.lt_of_le_of_lt (Nat.le_add_right _ _) (Nat.lt_of_le_of_lt h (Nat.le_of_ble_eq_true rfl))
theorem ar85 {a b:Nat}(h:a+(b+1)≤15000000):a+1+b≤15000000:=Nat.le_trans (Nat.le_of_eq (Nat.add_right_comm _ _ _)) h
theorem ar87 {a b:Nat}(h:a≤2*b):a+1≤2*(b+1):=by lia
theorem ar88 {a b:Nat}(h:a≤2*b):a+1+1≤2*(b+1):=by simp +arith at *;assumption
theorem ar89 {a b c:Nat}(h:a≤2*b) (i:b≤c) (j:c≤1000000):a≤2000000:=by lia
theorem iZ {a:Nat}(h:a≤15000000):a≤16000000:=Nat.le_trans h (Nat.le_add_left _ _)
theorem ar92 {a:Nat}(h:(↑a:Int)=(1:Int)):a=(1:Nat):=by cases h;simp
theorem ar97 {a b c:Nat}(h:b+a+(c+1)≤15000000):a<16000000:=by lia
theorem ar98 {a b c:Nat}(h:a+b+(c+1)≤15000000):a+(b+1)+c≤15000000:=by simp +arith at *;assumption
theorem ar99 {a b c:Nat}(h:c<b+1) (i:a<c):a≤b:=by lia
theorem ar102 {a:Nat}(h:(0:Nat)<a):-(↑a:Int)≤-(↑(1:Nat):Int):=by simp;lia
theorem ar107 {a:Nat}(h:a<0+1):a=0:=by simp +arith at *;assumption
theorem ar109 {a b:Nat}(h:a+(b+1)≤14000000):a≤15000000:=Nat.le_trans (Nat.le_add_right _ _) (Nat.le_trans h (Nat.le_of_ble_eq_true rfl))
theorem ar110 {a b c:Nat}(h:b+(c+1)≤14000000) (i:a=b):a≤15000000:=by subst_vars;lia
theorem ar112 {a b c:Nat}(h:a≤c) (i:c<b):a<b+1:=by lia
theorem ar114 {a b:Nat}(h:a≤b):a<b+1+1:=by lia
theorem ar115 {a:Nat}(h:a≤1999999):1+(a+1)≤14000000:=by lia
theorem ar117 {a b:Nat}(h:a<b):a≤b+1:=by lia
theorem ar122 {a b c d:Nat}(h:c≤b) (i:a<d) (j:d≤c):a<b+1:=by lia
theorem ar124 {a:Nat} :a+8≤a+10:=by simp
theorem ar126 {a b:Nat}(h:a<b) (i:b≤1999998):1+(a+1)≤14000000:=by lia
theorem ar127 {a b c:Nat}(h:c<b) (i:a≤c):a≤b+1:=by lia
theorem ar129 {a:Nat} :(1:Int)<(↑a:Int)+(1:Int)+(1:Int):=by simp +arith
theorem ar131 {a:Nat}(h:a≤15000000):2+a≤16000000:=by lia
theorem ar132 {a b c:Nat}(h:a≤c) (i:1≤b):a+1≤b+c:=Nat.le_trans (Nat.le_of_eq (Nat.add_comm a 1)) (Nat.add_le_add i h)
theorem ar138 {a b c:Nat}(h:a+b+c≤15000000):a<16000000:=by lia
theorem ar140 {a b c:Nat}(h:a+c+b≤15000000):a+1+b≤16000000:=by lia
theorem ar141 {a b c:Nat}(h:a+b+c≤14000000):a<16000000:=by lia
theorem Eo {a b c d:Nat}(h:c+a+d≤14000000) (i:b=d):a+b≤16000000:=by subst_vars;lia
theorem ar144 {a b c:Nat}(h:b=c):(↑a:Int)+(↑b:Int) - (↑c:Int)=(↑a:Int):=by subst_vars;simp
theorem ar145 {a b c:Nat}(h:b+a+c≤14000000):a≤16000000:=by lia
theorem ar147 {a b c d:Nat}(h:b+c+d≤14000000) (i:a=d):a≤16000000:=by subst_vars;lia
theorem ar148 {a b c:Nat}(h:b+a+c≤14000000):a<16000000:=by lia
theorem ar149 {a b:Nat} :a+(2+b)=a+1+b+1:=by simp +arith
theorem ar150 {a b c d:Nat}(h:a+b+(2+d)≤14000000) (i:c≤d):a+b+c≤15000000:=by lia
theorem ar151 {a b c:Nat}(h:a+b+(2+c)≤14000000):a+1+b+c≤14000000:=by lia
theorem ar152 {a b c d:Nat}(h:a+b+(2+d)≤14000000) (i:c≤d):a+b+c≤14000000:=by lia
theorem Em {a b c:Nat}(h:a+b+c≤14000000):a+b≤15000000:=Nat.le_trans (Nat.le_add_right _ _) (Nat.le_trans h (Nat.le_of_ble_eq_true rfl))
theorem ar154 {a b c:Nat} :a+(b+c)=a+c+b:=by simp +arith
theorem ar156 {a b c d:Nat}(h:a+b+(d+c)≤14000000) (i:1≤d):a+(b+1)+c≤14000000:=by lia
theorem ar158 {a b c:Nat}(h:c - a=b) (i:a≤c):a+b=c:=h▸Nat.add_sub_of_le i
theorem ar159 {a b c d:Nat}(h:a+(b+d)=c):a+b≤c:=by subst_vars;simp
theorem lB {a:Nat} :(0:Int)≤(↑a:Int):=Int.natCast_nonneg _
theorem ar161 {a b c:Nat}(h:a+(c+1)=b):a<b:=by subst_vars;simp
theorem ar162 {a b:Nat}(h:b=a):a≤b:=Nat.le_of_eq h.symm
theorem ar164 {a b c:Nat}(h:b≤1000000) (i:c≤1000000) (j:a≤c):a+b≤16000000:=by lia
theorem ar165 {a b:Nat} :a+b - a=b:=by simp
theorem ar166 {a b:Nat} :a+1+b=a+(b+1):=Nat.add_right_comm _ _ _
theorem ar167 {a b:Nat}(h:¬b≤a):a≤b:=by lia
theorem ar168 {a:Nat}(h:¬a≤a):False:=by lia
theorem uF {a:Nat} :(↑a:Int)+(1:Int)=(↑(a+(1:Nat)):Int):=rfl
theorem ar173 {a b:Nat}(h:b≠(0:Nat)):¬(↑(a+(1:Nat)+b):Int)=(↑a:Int)+(1:Int):=by simp +arith at *;assumption
theorem ar174 {a b c:Nat}(h:b+(1:Nat)=c):(↑(a+(1:Nat)+b):Int)=(↑(a+c):Int):=by subst h;lia
theorem ar177 {a b:Nat}(h:a<b):a<b:=by omega
theorem zP {a b:Nat}(h:a+(b+1)≤1000000):a+1+b≤1000000:=Nat.le_trans (Nat.le_of_eq (Nat.add_right_comm _ _ _)) h
theorem ar181 {a b:Nat}(h:a+(b+1+1)≤1000000):a+1+b≤1000000:=by lia
theorem ar182 {a b c d:Nat}(h:1≤c) (i:a≤d):a+1≤b+(c+d):=Nat.le_trans (Nat.le_of_eq (Nat.add_comm a 1)) (Nat.le_trans (Nat.add_le_add h i) (Nat.le_add_left _ _))
theorem ar187 {a b c:Nat}(h:b≤900000) (i:c≤b) (j:a≤c):a≤999999:=by lia
theorem ar188 {a:Nat} :a≤a+1+1:=by simp +arith
theorem El {a:Nat} :a≤a+1:=Nat.le_add_right _ _
theorem ar191 {a b c:Nat}(h:a+20*(b+1)≤c):a+20+20*b≤c:=Nat.le_trans (Nat.le_of_eq (Nat.add_right_comm _ _ _)) h
theorem uE {a:Nat} :0+20*a≤20*a:=Nat.le_of_eq (Nat.zero_add _)
theorem ar196 {a b c:Nat}(h:0+c+1+20*a≤20*b):a<b:=by lia
theorem ar198 {a b c:Nat} :a+(b+c)≤a+b+c+1+20:=by simp +arith
theorem ar199 {a b c:Nat} :a+(b+c)+1≤a+b+c+1+20:=by simp +arith
theorem ar202 {a b c:Nat} :a+(b+1)+c≤a+b+c+20:=by simp +arith
theorem ar203 {a b c d:Nat} :a+b+(c+d)≤a+b+c+d+1:=by simp +arith
theorem ar204 {a b c:Nat} :a+(2+(1+(2+b+(2+c+0)))) - 7+1≤a+b+c+1:=by simp +arith
theorem ar205 {a b:Nat} :7≤2+(1+(2+a+(2+b+0))):=by simp +arith
theorem ar207 {a b:Nat} :a+b+7≤a+14+20+20+b - 7+1:=by simp +arith
theorem ar208 {a b:Nat} :a+b+7≤a+14+20+b - 7+1:=by simp +arith
theorem ar210 {a b c:Nat} :a+(b+c)+13≤a+b+6+c+7:=by simp +arith
theorem ar211 {a b:Nat} :a+b≤a+b+13+20:=by simp +arith
theorem ar212 {a b:Nat} :a+(2+b)+11≤a+b+13:=by simp +arith
theorem ar214 {a b:Nat} :a+(2+(1+(1+(1+(1+(b+0))))))+1≤a+10+b+1:=by simp +arith
theorem ar215 {a b:Nat} :a+b+20≤a+20+b+1:=by simp +arith
theorem ar218 {a:Nat} :a+1+1≤a+4:=by simp
theorem ar219 {a b:Nat} :a+(2+(1+(1+(2+b+0))))+1≤a+b+20:=by simp +arith
theorem ar221 {a:Nat} :a+10≤a+20:=by simp
theorem ar223 {a b:Nat} :a+(2+(1+(1+(b+(1+0)))))+1≤a+20+b+1+20+20+20:=by simp +arith
theorem ar225 {a:Nat} :a+(2+(1+(1+0)))+1≤a+20:=by simp
theorem ar226 {a b:Nat} :a+(2+(1+(1+(b+0))))+1≤a+b+11:=by simp +arith
theorem ar227 {a b c d:Nat}(h:a≤d) (i:4+2*d+b≤c):4+2*a+b≤c:=Nat.le_trans (Nat.add_le_add_right (Nat.add_le_add_left (Nat.mul_le_mul_left 2 h) 4) b) i
theorem ar228 {a b c:Nat}(h:4+2*c+a≤b+4):a≤b:=by lia
theorem ar231 {a b c:Nat}(h:b+(4+2*a)*1≤c):4+2*a+b≤c:=by simp +arith at *;assumption
theorem ar233 {a b c:Nat}(h:4+2*(a+1)+b≤c+4):4+2*a+b≤c+2:=by simp +arith at *;assumption
theorem Ek {a b c:Nat}(h:c<b+1) (i:a<c):a - 1<b:=Nat.lt_of_le_of_lt (Nat.sub_le a 1) (Nat.lt_of_lt_of_le i (Nat.le_of_lt_succ h))
theorem ar240 {a b c:Nat}(h:a+(c+1)=b):a+1≤b:=by subst_vars;simp
theorem ar241 {a b:Nat}(h:a+(b+1)≤1000000):a<16000000:=Nat.lt_of_le_of_lt (Nat.le_add_right _ _) (Nat.lt_of_le_of_lt h (Nat.le_of_ble_eq_true rfl))
theorem ar242 {a b:Nat}(h:a≤b):min a b=a:=by lia
theorem ar243 {a b c:Nat}(h:b=c) (i:b+a=c):a=0:=by subst i;lia
theorem Ej {a:Nat} :(0:Int)≤(↑a:Int)+(1:Int):=Int.ofNat_nonneg _
theorem ar247 {a b:Nat}(h:b≤15000000):min a b≤15000000:=Nat.le_trans (Nat.min_le_right a b) h
theorem ar248 {a b:Nat}(h:b≤100000) (i:a≤b):a≤16000000:=Nat.le_trans i (Nat.le_trans h (Nat.le_of_ble_eq_true rfl))
theorem ar249 {a b c:Nat}(h:b≤1000) (i:c≤100000) (j:a≤c):a+b≤16000000:=by lia
theorem ar253 {a:Nat} :(1:Int)≤(↑a:Int)+(1:Int):=by simp +arith
theorem zO {a:Nat} :a<a+1:=Nat.le_refl _
theorem ar258 {a b:Nat}(h:b≤100000) (i:a≤b+1):a≤15000000:=by lia
theorem Ei {a b c:Nat}(h:c≤100000) (i:a+b≤c+1):a+b≤15000000:=by lia
theorem ar260 {a:Nat}(h:a<6):a≠8∧a≠9∧a≠10:=by lia
theorem ar263 {a b:Nat}(h:a<b) (i:b=0):False:=by subst i;lia
theorem ar264 {a b:Nat}(h:b<a):a=a - 1+1:=(Nat.sub_add_cancel (Nat.lt_of_le_of_lt (Nat.zero_le _) h)).symm
theorem ar269 {a:Nat} :a+2≤a+4:=by simp
theorem ar270 {a b c:Nat}(h:c+(a+1)=b):a<b+1:=by subst h;lia
theorem ar271 {a b:Nat}(h:b≤100000) (i:a≤b+1):a≤200000:=by lia
theorem ar274 {a:Nat}(h:¬a=(1:Nat)):¬(↑a:Int)=(1:Int):=by lia
theorem ar277 {a:Nat} :a+2+1≤a+3+1:=Nat.le_succ _
theorem ar279 {a b c:Nat} :a+(b+c)≤a+b+20+c+11:=by simp +arith
theorem ar281 {a b:Nat} :a+(2+(1+(2+b+0)))+1≤a+40+b:=by simp +arith
theorem ar283 {a:Nat} :a+(2+(1+(2+0+0)))+1≤a+20:=by simp
theorem ar284 {a b c d:Nat}(h:0+a+b+1+20*d≤20*c):2+(2+a+(2+b+0))≤20*(c+1)+10:=by lia
theorem ar289 {a b c d:Nat}(h:c+1<b+1) (i:0+d+11+20*a≤20*c):a<b:=by lia
theorem ar290 {a b c d:Nat}(h:c+1≤b+1) (i:0+d+11+20*a≤20*c):a≤b:=by lia
theorem ar292 {a b c d e f:Nat}(h:c+(d+1+1)=e) (i:b+1=e) (j:0+f+11+20*a≤20*d):a≤b:=by lia
theorem ar293 {a b:Nat}(h:b≤100000) (i:a+1=b):1+a≤1000000:=by subst i;lia
theorem ar296 {a b c:Nat}(h:a≤100) (i:b≤100*c):a+b≤100*(c+1):=Nat.le_trans (Nat.le_of_eq (Nat.add_comm a b)) (Nat.add_le_add i h)
theorem ar298 {a b c d:Nat}(h:b≤100000) (i:a≤100*c) (j:d+c=b):a≤16000000:=Nat.le_trans i (Nat.le_trans (Nat.mul_le_mul_left 100 (Nat.le_trans (Nat.le_add_left c d) (Nat.le_trans (Nat.le_of_eq j) h))) (Nat.le_of_ble_eq_true rfl))
theorem ar299 {a b c:Nat}(h:b≤100000) (i:c+a=b):a≤16000000:=by subst i;lia
theorem ar301 {a:Nat} :a+4≤a+8:=by simp
theorem ar302 {a b c d:Nat}(h:0+c+d+1+20*a≤20*b):a≤b+1:=by lia
theorem ar304 {a b c:Nat}(h:0+a+1+20*c≤20*b):a≤20*b+10:=by lia
theorem ar305 {a b c:Nat}(h:0+c+1+20*a≤20*b):a≤b:=by lia
theorem ar306 {a:Nat} :a+3≤a+7:=by simp
theorem ar307 {a b c:Nat}(h:0+a+11+20*c≤20*b):a≤20*b+10:=Nat.le_trans (Nat.le_trans (Nat.le_of_eq (Nat.zero_add a).symm) (Nat.le_trans (Nat.le_add_right _ _) (Nat.le_add_right _ _))) (Nat.le_trans h (Nat.le_add_right _ _))
theorem ar308 {a b c:Nat}(h:0+c+11+20*a≤20*b):a≤b:=by lia
theorem ar310 {a b c:Nat}(h:a+10*(c+1)≤15000000) (i:b≤7):a+b≤16000000:=by lia
theorem ar312 {a b c:Nat}(h:a+10*(c+1)≤15000000) (i:b≤7):a+b+10*c≤15000000:=by lia
theorem ar313 {a b c:Nat}(h:a+10*(c+1+1)≤15000000) (i:b=1):a+(b+b)≤16000000:=by subst i;lia
theorem ar315 {a b c:Nat}(h:a+10*(c+1+1)≤15000000) (i:b=1):a+(b+b)+10*c≤15000000:=by subst i;lia
theorem ar316 {a:Nat} :a+5≤a+13:=by simp
theorem ar319 {a:Nat}(h:a≤(600000:Nat)):(↑a:Int)≤(16000000:Int):=by lia
theorem ar320 {a b:Nat}(h:b≤100000) (i:a≤b):10*a≤15000000:=by lia
theorem ar321 {a:Nat} :a+2≤a+13:=by simp
theorem ar322 {a b c:Nat}(h:b≤100000) (i:c≤20*b+10) (j:c=a):a≤5000000:=by subst j;lia
theorem ar323 {a:Nat} :a+8≤a+13:=by simp
theorem ar325 {a:Nat} :a+11≤a+13:=by simp
theorem zN {a b:Nat} :a≤max b a:=Nat.le_max_right _ _
theorem ar332 {a b c d:Nat}(h:a≤max b d) (i:d=c - 1):a+1≤max (b+1) c:=by
 cases c with
 | zero=>subst i;exact Nat.le_trans (Nat.succ_le_succ (Nat.le_trans h (Nat.max_le.mpr ⟨Nat.le_refl _,Nat.zero_le _⟩))) (Nat.le_max_left _ _)
 | succ c=>cases i;exact Nat.le_trans (Nat.succ_le_succ h) (Nat.le_of_eq (Nat.succ_max_succ b c).symm)
theorem ar335 {a b c d:Nat}(h:d=0) (i:a≤max b d):a≤max b c:=by subst h;exact Nat.le_trans i (Nat.max_le.mpr ⟨Nat.le_max_left _ _,Nat.zero_le _⟩)
theorem ar336 {a b:Nat}(h:a≤b):a+1≤b+1:=Nat.succ_le_succ h
theorem ar338 {a b c:Nat}(h:a≤max b c):a≤max (b+1) c:=Nat.le_trans h (Nat.max_le.mpr ⟨Nat.le_trans (Nat.le_succ b) (Nat.le_max_left _ _),Nat.le_max_right _ _⟩)
theorem ar340 {a b c d:Nat}(h:d≤b+c) (i:b≤d+c) (j:a≤d+1) (k:d≤a+1):a≤b+(c+1)∧b≤a+(c+1):=⟨Nat.le_trans j (Nat.succ_le_succ h),Nat.le_trans i (Nat.le_trans (Nat.add_le_add_right k c) (Nat.le_of_eq (Nat.succ_add a c)))⟩
theorem ar341 {a b c:Nat}(h:a≤b+c):a+1≤b+1+c:=by simp +arith at *;assumption
theorem ar342 {a b c d e:Nat}(h:a≤e+c) (i:e≤b+d):a≤b+(c+d):=Nat.le_trans h (Nat.le_trans (Nat.add_le_add_right i c) (Nat.le_of_eq (by rw [Nat.add_assoc,Nat.add_comm d c])))
theorem ar345 {a b c d e f:Nat}(h:c≤3) (i:a≤d+e) (j:e≤b) (k:d≤f) (h4:f≤c):a≤b+3:=Nat.le_trans i (Nat.le_trans (Nat.add_le_add (Nat.le_trans k (Nat.le_trans h4 h)) j) (Nat.le_of_eq (Nat.add_comm 3 b)))
theorem ar346 {a b:Nat}(h:a≤b+3):a≤2*b+3:=by lia
theorem ar347 {a b c d e:Nat}(h:a≤c+d) (i:d≤b+3) (j:c≤e) (k:e≤b):a≤2*b+3:=Nat.le_trans h (Nat.le_trans (Nat.add_le_add (Nat.le_trans j k) i) (Nat.le_of_eq (by rw [Nat.two_mul,Nat.add_assoc])))
theorem ar348 {a b c d e:Nat}(h:b≤3) (i:a+(e+c)≤d):a+(b+c)≤d+3:=by lia
theorem ar349 {a:Int}(h:(0:Int)<a):a≠(0:Int):=by lia
theorem ar350 {a:Nat}(h:(0:Nat)<a):(0:Int)<(↑a:Int):=by simp +arith at *;assumption
theorem ar351 {a:Nat}(h:a≤(1000:Nat)):(↑a:Int)<(1000000:Int):=by lia
theorem ar352 {a b:Nat}(h:(↑a:Int)<(↑b:Int)):a<b:=by simp +arith at *;assumption
theorem ar353 {a b c:Nat} :a+b+1+c≤a+(c+1*(b+1)):=by simp +arith
theorem ar354 {a b c:Nat}(h:a+(c+1*(b+1))≤10000000):a+b+1+c≤10000000:=by simp +arith at *;assumption
theorem ar356 {a:Nat}(h:a≤(1000:Nat)):(↑a:Int)≤(16000000:Int):=by lia
theorem ar360 {a:Nat} :0+a+2≤a+2:=by simp
theorem ar361 {a b c:Nat}(h:a+(c+1*(b+3))≤1000000):a+(b+3)+c≤1000000:=by simp +arith at *;assumption
theorem ar362 {a b c:Nat} :a+(b+3)+c≤a+(c+1*(b+3)):=by simp +arith
theorem ar363 {a b:Nat} :a+2≤a+(b+3):=by simp
theorem ar365 {a:Nat} :(0:Int)<(↑(a+(1:Nat)):Int):=by simp
theorem ar366 {a:Int}(h:a=(0:Int)∨a=(1:Int)):(0:Int)≤a:=by lia
theorem ar367 {a:Int}(h:a=(0:Int)∨a=(1:Int)):a≤(1:Int):=by lia
theorem ar368 {a:Nat} :(↑(a+(1:Nat)):Int) - (1:Int)=(↑a:Int):=by simp
theorem ar370 {a b c:Nat}(h:4*(b+1)+2≤c):a+2+1+(4*(b+1)+2)≤a+(c+3):=by simp +arith at *;assumption
theorem ar373 {a:Nat}(h:(↑a:Int)<(3:Int)):(1:Int)+(↑a:Int)≤(16000000:Int):=by lia
theorem ar374 {a b:Nat}(h:0=b+1):4*(a+1)+2≤0:=by lia
theorem ar376 {a:Nat}(h:27+12*a≤100000):3*(4*(a+1)+2+3)≤27+12*a∧4*(a+1)+2≤100000:=by lia
theorem ar377 {a:Nat}(h:(↑a:Int)<(3:Int)):a≤(2:Nat):=by lia
theorem ar379 {a b c:Nat}(h:3*(b+3)≤c∧b≤100000) (i:a≤3*(b+3)):0+a≤1000000:=Nat.le_trans (Nat.le_of_eq (Nat.zero_add a)) (Nat.le_trans i (Nat.le_trans (Nat.mul_le_mul_left 3 (Nat.add_le_add_right h.2 3)) (Nat.le_of_ble_eq_true rfl)))
theorem ar380 {a b c:Nat}(h:3*(c+3)≤b∧c≤100000) (i:a≤3*(c+3)):0+a≤b:=Nat.le_trans (Nat.le_of_eq (Nat.zero_add a)) (Nat.le_trans i h.1)
theorem ar383 {a b c:Nat}(h:a=b+1+c):a=b+(c+1):=by simp +arith at *;assumption
theorem ar384 {a:Nat}(h:2≤a):¬0=a:=by lia
theorem ar386 {a:Nat} :1≤27+12*a:=by simp +arith
theorem ar387 {a:Nat}(h:a≤2):a≤1000:=Nat.le_trans h (Nat.le_add_left _ _)
theorem uD {a:Nat}(h:(↑a:Int)<(3:Int)):(↑a:Int)≤(16000000:Int):=by lia
theorem ar389 {a:Nat}(h:(↑a:Int)<(3:Int)):a≤(1000:Nat):=by lia
theorem ar390 {a b c:Nat}(h:c≤2) (i:a=c) (j:b≤2):a+b≤16000000:=by subst i;lia
theorem ar391 {a b c:Nat}(h:c≤2) (i:a=c) (j:b≤2):a+b≤4:=by subst i;lia
theorem ar395 {a:Nat}(h:a≤1):1+a≤1000000:=by lia
theorem ar396 {a b:Nat}(h:a≤1) (i:b≤1):a+1+b≤1000000:=by lia
theorem ar397 {a b c d:Nat}(h:d≤100000) (i:a≤1) (j:b≤1) (k:c≤d):a+b+1+c≤1000000:=Nat.le_trans (Nat.add_le_add (Nat.add_le_add_right (Nat.add_le_add i j) 1) (Nat.le_trans k h)) (Nat.le_of_ble_eq_true rfl)
theorem ar398 {a b:Nat}(h:a≤2*(b+1)):a+2≤27+12*b:=by lia
theorem ar399 {a b:Nat}(h:b≤100000) (i:a≤b):1+a≤1000000:=by lia
theorem ar400 {a b:Nat}(h:b≤100000) (i:a≤b):a≤999996:=Nat.le_trans i (Nat.le_trans h (Nat.le_of_ble_eq_true rfl))
theorem ar401 {a:Nat}(h:0=a+1):False:=by lia
theorem ar402 {a:Nat}(h:a≤5000):a≤100000:=Nat.le_trans h (Nat.le_add_left _ _)
theorem ar403 {a:Nat}(h:27+12*a≤5000):a≤5000:=by lia
theorem ar404 {a b c:Nat}(h:b+(c*136+1*136)≤100000) (i:a≤b):a≤999999:=Nat.le_trans i (Nat.le_trans (Nat.le_add_right _ _) (Nat.le_trans h (Nat.le_of_ble_eq_true rfl)))
theorem ar405 :8≤12:=Nat.le_add_left _ _
theorem ar406 {a b c d:Nat}(h:c+(d*136+1*136)≤100000) (i:a≤c) (j:b≤135):a+1+b≤1000000:=Nat.le_trans (Nat.add_le_add (Nat.succ_le_succ (Nat.le_trans i (Nat.le_trans (Nat.le_add_right _ _) h))) j) (Nat.le_of_ble_eq_true rfl)
theorem ar407 {a b:Nat}(h:a+(b*136+1*136)≤100000):a+1+135+b*136≤100000:=by simp +arith at *;assumption
theorem ar408 {a b:Nat} :a+1+135+b*136≤a+(b*136+1*136):=by simp +arith
theorem ar409 {a:Nat}(h:a≤2):1+a*136≤100000:=by lia
theorem ar410 {a b:Nat}(h:a+(b+1)≤100):a<16000000:=Nat.lt_of_le_of_lt (Nat.le_add_right _ _) (Nat.lt_of_le_of_lt h (Nat.le_of_ble_eq_true rfl))
theorem ar411 {a:Nat}(h:a≤2):1+a*136≤300:=by lia
theorem ar412 {a b:Nat}(h:a+(b+1)≤100):a+1+b≤100:=Nat.le_trans (Nat.le_of_eq (Nat.add_right_comm _ _ _)) h
theorem ar415 {a b c:Nat}(h:b≤1) (i:a≤c) (j:c≤b):a≤1:=by lia
theorem ar416 {a:Nat}(h:(↑a:Int)<(3:Int)):a≤(16000000:Nat):=by lia
theorem ar418 {a b c:Nat}(h:c≤2) (i:b≤2) (j:a=c):a+b≤100:=by subst j;lia
theorem ar419 {a b c d:Nat}(h:b≤2) (i:c≤2) (j:d=b) (k:a=d+c):a≤4:=by subst_vars;lia
theorem ar422 {a b c:Nat}(h:c≤100000) (i:a≤c) (j:b≤3):a+b≤1000000:=by lia
theorem ar423 {a b:Nat}(h:a<b):a=min a b:=by lia
theorem iE {a:Nat}(h:a≤100000):a≤1000000:=Nat.le_trans h (Nat.le_add_left _ _)
theorem Eh {a b c:Nat}(h:b≤100000) (i:b=a+c+1):a≤1000000:=by subst i;lia
theorem ar431 {a b c:Nat}(h:c≤100000) (i:c=a+b+1):a+b≤1000000:=by subst i;lia
theorem zM {a b c:Nat}(h:b≤100000) (i:b=a+c+1):a+1≤1000000:=by subst i;lia
theorem ar433 {a b c:Nat}(h:c≤100000) (i:c=a+b+1):a+1+(b+1)≤1000000:=by lia
theorem ar434 {a b c:Nat}(h:c≤100000) (i:c=a+b+1):a+min 1 b≤1000000:=Nat.le_trans (Nat.add_le_add_left (Nat.min_le_right 1 b) a) (by lia)
theorem ar435 {a b c:Nat}(h:c≤100000) (i:c=a+b+1):a+min 1 b≤999999:=Nat.le_trans (Nat.add_le_add_left (Nat.min_le_right 1 b) a) (by lia)
theorem ar436 {a b c:Nat}(h:c≤100000) (i:c=a+b+1):a+(min 1 b+1)+(b - 1)≤1000000:=Nat.le_trans (Nat.add_le_add (Nat.add_le_add_left (Nat.succ_le_succ (Nat.min_le_left 1 b)) a) (Nat.sub_le b 1)) (by lia)
theorem ar437 {a:Nat} :min 1 a≤2:=Nat.le_trans (Nat.min_le_left 1 a) (by decide)
theorem ar438 {a:Nat} :min 1 a≤1:=by lia
theorem ar439 {a b c:Nat}(h:b≤100000) (i:b=a+c+1):a+2≤1000000:=by simp;lia
theorem ar440 {a b c:Nat}(h:b≤100000) (i:b=a+c+1):a≤999999:=by subst i;lia
theorem ar441 {a b c:Nat}(h:c≤100000) (i:c=a+b+1):a+1+b≤1000000:=by lia
theorem ar443 {a b c:Nat}(h:a+(b+1)=c):a+1+b=c:=by simp +arith at *;assumption
theorem ar445 {a b c d:Nat}(h:b≤100000) (i:c+(d+1)=b) (j:a≤16*c):a≤16000000:=by subst i;lia
theorem ar446 {a b c d e:Nat}(h:c≤100000) (i:d+(e+1)=c) (j:a≤16*d) (k:b≤7):a+b≤16000000:=by subst i;lia
theorem ar447 {a b c d e:Nat}(h:c≤100000) (i:d+(e+1)=c) (j:a≤16*d) (k:b≤9):a+b≤16000000:=Nat.le_trans (Nat.add_le_add (Nat.le_trans j (Nat.mul_le_mul_left 16 (Nat.le_trans (Nat.le_add_right d (e+1)) (Nat.le_trans (Nat.le_of_eq i) h)))) k) (Nat.le_of_ble_eq_true rfl)
theorem ar448 {a b c d e f:Nat}(h:d≤100000) (i:e+(f+1)=d) (j:a≤16*e) (k:c≤7) (h4:b≤9):a+b+c≤16000000:=Nat.le_trans (Nat.add_le_add (Nat.add_le_add (Nat.le_trans j (Nat.mul_le_mul_left 16 (Nat.le_trans (Nat.le_add_right e (f+1)) (Nat.le_trans (Nat.le_of_eq i) h)))) h4) k) (Nat.le_of_ble_eq_true rfl)
theorem ar449 {a b c:Nat}(h:a+(c+1)=b):a - 1<b:=Nat.lt_of_le_of_lt (Nat.sub_le _ _) (h▸Nat.lt_add_of_pos_right (Nat.succ_pos c))
theorem ar451 {a b:Nat}(h:(0:Int)<(↑a:Int)):min a b - (1:Nat)<a:=Nat.lt_of_le_of_lt (Nat.sub_le_sub_right (Nat.min_le_left a b) 1) (Nat.sub_lt (Int.natCast_pos.mp h) Nat.one_pos)
theorem ar452 {a b c:Nat}(h:a+(c+1)=b):min a b - 1=a - 1:=by subst_vars;simp
theorem ar454 {a:Nat}(h:a≤1):a=0∨a=1:=by lia
theorem ar458 {a b:Nat}(h:b≤20000+3) (i:a≤16*b):a≤600000:=by lia
theorem ar460 {a b:Nat}(h:0=b+1):a≤5000:=by lia
theorem ar465 {a b c:Nat}(h:b≤9) (i:a≤c) (j:c≤b):a≤9:=by lia
theorem ar467 {a:Int}(h:(0:Int)≤a∧a≤(2:Int)):a≤(16000000:Int):=by cases h;lia
theorem ar468 {a:Nat}(h:¬(↑a:Int)=(1:Int)) (i:a=(1:Nat)):False:=by subst i;lia
theorem ar469 {a b c:Nat}(h:b+(c+1)≤14000000) (i:a=b):a≤16000000:=by subst_vars;lia
theorem ar470 {a b c:Nat}(h:c<4):¬4+2*a+b≤c:=by lia
theorem lA {a:Nat}(h:a≤100000):a≤16000000:=Nat.le_trans h (Nat.le_add_left _ _)
theorem Eg {a:Nat}(h:a≤(100000:Nat)):(↑a:Int)+(1:Int)≤(16000000:Int):=by lia
theorem ar474 {a b c:Nat}(h:c+a=b):a≤b:=by subst_vars;simp
theorem Ef {a:Nat}(h:a≤(100000:Nat)):(↑a:Int)≤(16000000:Int):=by lia
theorem ar476 {a b c:Nat}(h:b+(c+1)=a):a≠0:=by subst_vars;simp
theorem ar477 {a b c d e:Nat}(h:c+(d+1*(e+1))≤10000000) (i:a≤c) (j:b≤e):a+1+b≤16000000:=by lia
theorem ar478 {a b c d e:Nat}(h:c+(d+1*(e+1))≤10000000) (i:a+b≤c+e):a+b+1<16000000:=by lia
theorem ar479 {a b:Nat}(h:b≤1000*5001) (i:a≤0+b):a≤15999998:=by lia
theorem ar480 {a b c d e:Nat}(h:c+(d+1*(e+3))≤1000000) (i:a≤c+2) (j:b≤1):a+b≤16000000:=Nat.le_trans (Nat.add_le_add (Nat.le_trans i (Nat.add_le_add_right (Nat.le_trans (Nat.le_add_right _ _) h) 2)) j) (Nat.le_of_ble_eq_true rfl)
theorem ar481 {a b c d e f g:Nat}(h:d+(e+1*(f+3))≤1000000) (i:a≤d+2) (j:4*(g+1)+2≤f) (k:b≤1) (h4:c≤4*(g+1)+2):a+b+c≤16000000:=by lia
theorem ar482 {a b c d:Nat}(h:b+(c+1*(d+3))≤1000000) (i:a≤b+1):a<16000000:=Nat.lt_of_le_of_lt i (Nat.lt_of_le_of_lt (Nat.succ_le_succ (Nat.le_trans (Nat.le_add_right _ _) h)) (Nat.le_of_ble_eq_true rfl))
theorem ar483 {a b c d:Nat}(h:b+(c+1*(d+3))≤1000000) (i:a≤b):a<16000000:=Nat.lt_of_le_of_lt i (Nat.lt_of_le_of_lt (Nat.le_add_right _ _) (Nat.lt_of_le_of_lt h (Nat.le_of_ble_eq_true rfl)))
theorem ar484 {a b:Nat}(h:a+b≤1000000):a+b≤16000000:=Nat.le_trans h (Nat.le_add_left _ _)
theorem ar487 {a b:Nat}(h:b≤(1000000:Nat)) (i:a≤b):Int.toNat ((↑a:Int)+(2:Int))≤(16000000:Nat):=Nat.le_trans (Nat.add_le_add_right (Nat.le_trans i h) 2) (Nat.le_of_ble_eq_true rfl)
theorem ar488 {a b c:Nat}(h:c=b) (i:a=c):a=b:=Eq.trans i h
theorem ar489 {a b c:Nat}(h:c+1=b) (i:a=c):a=b - 1:=h▸i
theorem ar490 {a b:Nat}(h:a - 7<b) (i:b=43):a<50:=by subst_vars;omega
theorem ar491 {a:Nat}(h:a≤63):a≤1000:=Nat.le_trans h (Nat.le_add_left _ _)
theorem ar492 {a:Int}(h:a≤(1:Int)):Int.toNat a≤(1:Nat):=by simp +arith at *;assumption
theorem ar493 {a b:Nat}(h:b≤16000000) (i:a≤b*1):a≤2 ^ 24:=Nat.le_trans i (Nat.le_trans (Nat.le_of_eq (Nat.mul_one b)) (Nat.le_trans h (Nat.le_of_ble_eq_true rfl)))
theorem ar494 {a:Nat}(h:a≤2 ^ 24):¬a>(2 ^ 63 - 1) / 8:=by lia
theorem ar496 {b:Nat}{a:Int}(h:Int.toNat a<b) (i:¬a<(0:Int)):(0:Int)≤a∧a<(↑b:Int):=by lia
theorem ar497 {a:Nat}{b:Int}(h:(0:Int)≤b) (i:Int.toNat b<a):-(↑a:Int)≤b∧b<(↑a:Int):=by lia
theorem ar498 {b:Nat}{a:Int}(h:b≤(16000000:Nat)) (i:-(↑b:Int)≤a) (j:a<(↑b:Int)):¬a< -(2:Int) ^ (63:Nat)∧¬a≥(2:Int) ^ (63:Nat):=by lia
theorem ar499 {b:Nat}{a:Int}(h:b≤(16000000:Nat)) (i:-(↑b:Int)≤a):-(2:Int) ^ (63:Nat)≤a:=by lia
theorem ar500 {b:Nat}{a:Int}(h:b≤(16000000:Nat)) (i:a<(↑b:Int)):a<(2:Int) ^ (63:Nat):=by lia
theorem ar501 {a b:Nat} :Int.toNat ((↑a:Int) - (1:Int)+(↑b:Int)*(-1:Int))=a - (1:Nat) - b:=by rw [Int.mul_neg_one,←Int.sub_eq_add_neg,Int.sub_sub];exact (Int.toNat_sub a (1+b)).trans (Nat.sub_add_eq a 1 b)
theorem ar502 {a b:Nat}(h:b≤(2:Nat) ^ (62:Nat)) (i:a=b):(↑a:Int)<(2:Int) ^ (63:Nat):=by subst_vars;lia
theorem ar504 {b:Nat}{a:Int}(h:b<Int.toNat a):(0:Int)<a - (↑b:Int):=by simp +arith at *;assumption
theorem ar505 {b:Nat}{a:Int}(h:¬b<Int.toNat a):a - (↑b:Int)≤(0:Int):=by simp +arith at *;assumption
theorem ar506 {b:Nat}{a:Int}(h:¬b<Int.toNat a):a≤(↑b:Int):=by simp +arith at *;assumption
theorem ar508 {a b c:Nat}(h:a+710+20*b<c):a+700+20*b<c:=Nat.lt_of_le_of_lt (Nat.add_le_add_right (Nat.add_le_add_left (by decide:700≤710) a) _) h
theorem ar509 {a b c:Nat}(h:a+710+20*c<b):a+610<b:=Nat.lt_of_le_of_lt (Nat.le_trans (Nat.add_le_add_left (by decide:610≤710) a) (Nat.le_add_right _ _)) h
theorem ar511 {a b c:Nat}(h:a+710+20*c<b):a+10<b:=Nat.lt_of_le_of_lt (Nat.le_trans (Nat.add_le_add_left (by decide:10≤710) a) (Nat.le_add_right _ _)) h
theorem ar513 {a:Nat} :Int.toNat ((↑a:Int)+-(↑(1:Nat):Int))=a - (1:Nat):=(congrArg Int.toNat Int.sub_eq_add_neg.symm).trans (Int.toNat_sub a 1)
theorem ar514 {a:Nat} :Int.toNat ((↑a:Int)+(1:Int)+(-1:Int))=a:=by simp +arith
theorem ar515 {a b:Int}(h:(0:Int)≤a) (i:a<b):(↑(Int.toNat a):Int)<b:=by grind
theorem ar517 {a:Nat}(h:(↑a:Int)<(3:Int)):Int.toNat (↑a:Int)≤(2:Nat):=by simp;lia
theorem ar518 {a b:Nat}(h:(↑b:Int)<(3:Int)) (i:a=Int.toNat (↑b:Int)):a≤(2:Nat):=by subst i;lia
theorem ar519 {a:Nat}{b:Int}(h:b≤(2:Int)) (i:a<Int.toNat b):a≤(1:Nat):=by lia
end Mine.Internal
end
noncomputable section
namespace Mine.Internal
theorem X02 {A0 A1:Prop}{G:Prop}(h:A0∧A1) (k:A0→A1→G):G:=k h.1 h.2
theorem X03 {A0 A1 A2:Prop}{G:Prop}(h:A0∧A1∧A2) (k:A0→A1→A2→G):G:=k h.1 h.2.1 h.2.2
theorem X04 {A0 A1 A2 A3:Prop}{G:Prop}(h:A0∧A1∧A2∧A3) (k:A0→A1→A2→A3→G):G:=k h.1 h.2.1 h.2.2.1 h.2.2.2
theorem X05 {A0 A1 A2 A3 A4:Prop}{G:Prop}(h:A0∧A1∧A2∧A3∧A4) (k:A0→A1→A2→A3→A4→G):G:=k h.1 h.2.1 h.2.2.1 h.2.2.2.1 h.2.2.2.2
theorem X06 {A0 A1 A2 A3 A4 A5:Prop}{G:Prop}(h:A0∧A1∧A2∧A3∧A4∧A5) (k:A0→A1→A2→A3→A4→A5→G):G:=k h.1 h.2.1 h.2.2.1 h.2.2.2.1 h.2.2.2.2.1 h.2.2.2.2.2
theorem X11.{u0}{α0:Sort u0}{A0:α0→Prop}{G:Prop}(h:∃ x0,A0 x0) (k:∀ x0,A0 x0→G):G:=h.elim fun x0 h0e=>k x0 h0e
theorem X12.{u0}{α0:Sort u0}{A0 A1:α0→Prop}{G:Prop}(h:∃ x0,A0 x0∧A1 x0) (k:∀ x0,A0 x0→A1 x0→G):G:=h.elim fun x0 h0e=>k x0 h0e.1 h0e.2
theorem X13.{u0}{α0:Sort u0}{A0 A1 A2:α0→Prop}{G:Prop}(h:∃ x0,A0 x0∧A1 x0∧A2 x0) (k:∀ x0,A0 x0→A1 x0→A2 x0→G):G:=h.elim fun x0 h0e=>k x0 h0e.1 h0e.2.1 h0e.2.2
theorem X14.{u0}{α0:Sort u0}{A0 A1 A2 A3:α0→Prop}{G:Prop}(h:∃ x0,A0 x0∧A1 x0∧A2 x0∧A3 x0) (k:∀ x0,A0 x0→A1 x0→A2 x0→A3 x0→G):G:=h.elim fun x0 h0e=>k x0 h0e.1 h0e.2.1 h0e.2.2.1 h0e.2.2.2
theorem X21.{u0,u1}{α0:Sort u0}{α1:Sort u1}{A0:α0→α1→Prop}{G:Prop}(h:∃ x0 x1,A0 x0 x1) (k:∀ x0 x1,A0 x0 x1→G):G:=h.elim fun x0 h0e=>h0e.elim fun x1 h1e=>k x0 x1 h1e
theorem X22.{u0,u1}{α0:Sort u0}{α1:Sort u1}{A0 A1:α0→α1→Prop}{G:Prop}(h:∃ x0 x1,A0 x0 x1∧A1 x0 x1) (k:∀ x0 x1,A0 x0 x1→A1 x0 x1→G):G:=h.elim fun x0 h0e=>h0e.elim fun x1 h1e=>k x0 x1 h1e.1 h1e.2
theorem X23.{u0,u1}{α0:Sort u0}{α1:Sort u1}{A0 A1 A2:α0→α1→Prop}{G:Prop}(h:∃ x0 x1,A0 x0 x1∧A1 x0 x1∧A2 x0 x1) (k:∀ x0 x1,A0 x0 x1→A1 x0 x1→A2 x0 x1→G):G:=h.elim fun x0 h0e=>h0e.elim fun x1 h1e=>k x0 x1 h1e.1 h1e.2.1 h1e.2.2
theorem X24.{u0,u1}{α0:Sort u0}{α1:Sort u1}{A0 A1 A2 A3:α0→α1→Prop}{G:Prop}(h:∃ x0 x1,A0 x0 x1∧A1 x0 x1∧A2 x0 x1∧A3 x0 x1) (k:∀ x0 x1,A0 x0 x1→A1 x0 x1→A2 x0 x1→A3 x0 x1→G):G:=h.elim fun x0 h0e=>h0e.elim fun x1 h1e=>k x0 x1 h1e.1 h1e.2.1 h1e.2.2.1 h1e.2.2.2
theorem X25.{u0,u1}{α0:Sort u0}{α1:Sort u1}{A0 A1 A2 A3 A4:α0→α1→Prop}{G:Prop}(h:∃ x0 x1,A0 x0 x1∧A1 x0 x1∧A2 x0 x1∧A3 x0 x1∧A4 x0 x1) (k:∀ x0 x1,A0 x0 x1→A1 x0 x1→A2 x0 x1→A3 x0 x1→A4 x0 x1→G):G:=h.elim fun x0 h0e=>h0e.elim fun x1 h1e=>k x0 x1 h1e.1 h1e.2.1 h1e.2.2.1 h1e.2.2.2.1 h1e.2.2.2.2
theorem X26.{u0,u1}{α0:Sort u0}{α1:Sort u1}{A0 A1 A2 A3 A4 A5:α0→α1→Prop}{G:Prop}(h:∃ x0 x1,A0 x0 x1∧A1 x0 x1∧A2 x0 x1∧A3 x0 x1∧A4 x0 x1∧A5 x0 x1) (k:∀ x0 x1,A0 x0 x1→A1 x0 x1→A2 x0 x1→A3 x0 x1→A4 x0 x1→A5 x0 x1→G):G:=h.elim fun x0 h0e=>h0e.elim fun x1 h1e=>k x0 x1 h1e.1 h1e.2.1 h1e.2.2.1 h1e.2.2.2.1 h1e.2.2.2.2.1 h1e.2.2.2.2.2
theorem X31.{u0,u1,u2}{α0:Sort u0}{α1:Sort u1}{α2:Sort u2}{A0:α0→α1→α2→Prop}{G:Prop}(h:∃ x0 x1 x2,A0 x0 x1 x2) (k:∀ x0 x1 x2,A0 x0 x1 x2→G):G:=h.elim fun x0 h0e=>h0e.elim fun x1 h1e=>h1e.elim fun x2 h2e=>k x0 x1 x2 h2e
theorem X32.{u0,u1,u2}{α0:Sort u0}{α1:Sort u1}{α2:Sort u2}{A0 A1:α0→α1→α2→Prop}{G:Prop}(h:∃ x0 x1 x2,A0 x0 x1 x2∧A1 x0 x1 x2) (k:∀ x0 x1 x2,A0 x0 x1 x2→A1 x0 x1 x2→G):G:=h.elim fun x0 h0e=>h0e.elim fun x1 h1e=>h1e.elim fun x2 h2e=>k x0 x1 x2 h2e.1 h2e.2
theorem X33.{u0,u1,u2}{α0:Sort u0}{α1:Sort u1}{α2:Sort u2}{A0 A1 A2:α0→α1→α2→Prop}{G:Prop}(h:∃ x0 x1 x2,A0 x0 x1 x2∧A1 x0 x1 x2∧A2 x0 x1 x2) (k:∀ x0 x1 x2,A0 x0 x1 x2→A1 x0 x1 x2→A2 x0 x1 x2→G):G:=h.elim fun x0 h0e=>h0e.elim fun x1 h1e=>h1e.elim fun x2 h2e=>k x0 x1 x2 h2e.1 h2e.2.1 h2e.2.2
theorem X34.{u0,u1,u2}{α0:Sort u0}{α1:Sort u1}{α2:Sort u2}{A0 A1 A2 A3:α0→α1→α2→Prop}{G:Prop}(h:∃ x0 x1 x2,A0 x0 x1 x2∧A1 x0 x1 x2∧A2 x0 x1 x2∧A3 x0 x1 x2) (k:∀ x0 x1 x2,A0 x0 x1 x2→A1 x0 x1 x2→A2 x0 x1 x2→A3 x0 x1 x2→G):G:=h.elim fun x0 h0e=>h0e.elim fun x1 h1e=>h1e.elim fun x2 h2e=>k x0 x1 x2 h2e.1 h2e.2.1 h2e.2.2.1 h2e.2.2.2
theorem X35.{u0,u1,u2}{α0:Sort u0}{α1:Sort u1}{α2:Sort u2}{A0 A1 A2 A3 A4:α0→α1→α2→Prop}{G:Prop}(h:∃ x0 x1 x2,A0 x0 x1 x2∧A1 x0 x1 x2∧A2 x0 x1 x2∧A3 x0 x1 x2∧A4 x0 x1 x2) (k:∀ x0 x1 x2,A0 x0 x1 x2→A1 x0 x1 x2→A2 x0 x1 x2→A3 x0 x1 x2→A4 x0 x1 x2→G):G:=h.elim fun x0 h0e=>h0e.elim fun x1 h1e=>h1e.elim fun x2 h2e=>k x0 x1 x2 h2e.1 h2e.2.1 h2e.2.2.1 h2e.2.2.2.1 h2e.2.2.2.2
theorem X42.{u0,u1,u2,u3}{α0:Sort u0}{α1:Sort u1}{α2:Sort u2}{α3:Sort u3}{A0 A1:α0→α1→α2→α3→Prop}{G:Prop}(h:∃ x0 x1 x2 x3,A0 x0 x1 x2 x3∧A1 x0 x1 x2 x3) (k:∀ x0 x1 x2 x3,A0 x0 x1 x2 x3→A1 x0 x1 x2 x3→G):G:=h.elim fun x0 h0e=>h0e.elim fun x1 h1e=>h1e.elim fun x2 h2e=>h2e.elim fun x3 h3e=>k x0 x1 x2 x3 h3e.1 h3e.2
theorem X44.{u0,u1,u2,u3}{α0:Sort u0}{α1:Sort u1}{α2:Sort u2}{α3:Sort u3}{A0 A1 A2 A3:α0→α1→α2→α3→Prop}{G:Prop}(h:∃ x0 x1 x2 x3,A0 x0 x1 x2 x3∧A1 x0 x1 x2 x3∧A2 x0 x1 x2 x3∧A3 x0 x1 x2 x3) (k:∀ x0 x1 x2 x3,A0 x0 x1 x2 x3→A1 x0 x1 x2 x3→A2 x0 x1 x2 x3→A3 x0 x1 x2 x3→G):G:=h.elim fun x0 h0e=>h0e.elim fun x1 h1e=>h1e.elim fun x2 h2e=>h2e.elim fun x3 h3e=>k x0 x1 x2 x3 h3e.1 h3e.2.1 h3e.2.2.1 h3e.2.2.2
theorem X51.{u0,u1,u2,u3,u4}{α0:Sort u0}{α1:Sort u1}{α2:Sort u2}{α3:Sort u3}{α4:Sort u4}{A0:α0→α1→α2→α3→α4→Prop}{G:Prop}(h:∃ x0 x1 x2 x3 x4,A0 x0 x1 x2 x3 x4) (k:∀ x0 x1 x2 x3 x4,A0 x0 x1 x2 x3 x4→G):G:=h.elim fun x0 h0e=>h0e.elim fun x1 h1e=>h1e.elim fun x2 h2e=>h2e.elim fun x3 h3e=>h3e.elim fun x4 h4e=>k x0 x1 x2 x3 x4 h4e
theorem X54.{u0,u1,u2,u3,u4}{α0:Sort u0}{α1:Sort u1}{α2:Sort u2}{α3:Sort u3}{α4:Sort u4}{A0 A1 A2 A3:α0→α1→α2→α3→α4→Prop}{G:Prop}(h:∃ x0 x1 x2 x3 x4,A0 x0 x1 x2 x3 x4∧A1 x0 x1 x2 x3 x4∧A2 x0 x1 x2 x3 x4∧A3 x0 x1 x2 x3 x4) (k:∀ x0 x1 x2 x3 x4,A0 x0 x1 x2 x3 x4→A1 x0 x1 x2 x3 x4→A2 x0 x1 x2 x3 x4→A3 x0 x1 x2 x3 x4→G):G:=h.elim fun x0 h0e=>h0e.elim fun x1 h1e=>h1e.elim fun x2 h2e=>h2e.elim fun x3 h3e=>h3e.elim fun x4 h4e=>k x0 x1 x2 x3 x4 h4e.1 h4e.2.1 h4e.2.2.1 h4e.2.2.2
theorem X62.{u0,u1,u2,u3,u4,u5}{α0:Sort u0}{α1:Sort u1}{α2:Sort u2}{α3:Sort u3}{α4:Sort u4}{α5:Sort u5}{A0 A1:α0→α1→α2→α3→α4→α5→Prop}{G:Prop}(h:∃ x0 x1 x2 x3 x4 x5,A0 x0 x1 x2 x3 x4 x5∧A1 x0 x1 x2 x3 x4 x5) (k:∀ x0 x1 x2 x3 x4 x5,A0 x0 x1 x2 x3 x4 x5→A1 x0 x1 x2 x3 x4 x5→G):G:=h.elim fun x0 h0e=>h0e.elim fun x1 h1e=>h1e.elim fun x2 h2e=>h2e.elim fun x3 h3e=>h3e.elim fun x4 h4e=>h4e.elim fun x5 h5e=>k x0 x1 x2 x3 x4 x5 h5e.1 h5e.2
theorem I03 {A0 A1 A2:Prop}(h0:A0) (h1:A1) (h2:A2):A0∧A1∧A2:=⟨h0,h1,h2⟩
theorem I04 {A0 A1 A2 A3:Prop}(h0:A0) (h1:A1) (h2:A2) (h3:A3):A0∧A1∧A2∧A3:=⟨h0,h1,h2,h3⟩
theorem I05 {A0 A1 A2 A3 A4:Prop}(h0:A0) (h1:A1) (h2:A2) (h3:A3) (h4:A4):A0∧A1∧A2∧A3∧A4:=⟨h0,h1,h2,h3,h4⟩
theorem I06 {A0 A1 A2 A3 A4 A5:Prop}(h0:A0) (h1:A1) (h2:A2) (h3:A3) (h4:A4) (h5:A5):A0∧A1∧A2∧A3∧A4∧A5:=⟨h0,h1,h2,h3,h4,h5⟩
theorem I07 {A0 A1 A2 A3 A4 A5 A6:Prop}(h0:A0) (h1:A1) (h2:A2) (h3:A3) (h4:A4) (h5:A5) (h6:A6):A0∧A1∧A2∧A3∧A4∧A5∧A6:=⟨h0,h1,h2,h3,h4,h5,h6⟩
theorem I12.{u0}{α0:Sort u0}{A0 A1:α0→Prop}(x0:α0) (h0:A0 x0) (h1:A1 x0):∃ x0,A0 x0∧A1 x0:=⟨x0,h0,h1⟩
theorem I13.{u0}{α0:Sort u0}{A0 A1 A2:α0→Prop}(x0:α0) (h0:A0 x0) (h1:A1 x0) (h2:A2 x0):∃ x0,A0 x0∧A1 x0∧A2 x0:=⟨x0,h0,h1,h2⟩
theorem I14.{u0}{α0:Sort u0}{A0 A1 A2 A3:α0→Prop}(x0:α0) (h0:A0 x0) (h1:A1 x0) (h2:A2 x0) (h3:A3 x0):∃ x0,A0 x0∧A1 x0∧A2 x0∧A3 x0:=⟨x0,h0,h1,h2,h3⟩
theorem I15.{u0}{α0:Sort u0}{A0 A1 A2 A3 A4:α0→Prop}(x0:α0) (h0:A0 x0) (h1:A1 x0) (h2:A2 x0) (h3:A3 x0) (h4:A4 x0):∃ x0,A0 x0∧A1 x0∧A2 x0∧A3 x0∧A4 x0:=⟨x0,h0,h1,h2,h3,h4⟩
theorem I21.{u0,u1}{α0:Sort u0}{α1:Sort u1}{A0:α0→α1→Prop}(x0:α0) (x1:α1) (h0:A0 x0 x1):∃ x0 x1,A0 x0 x1:=⟨x0,x1,h0⟩
theorem I22.{u0,u1}{α0:Sort u0}{α1:Sort u1}{A0 A1:α0→α1→Prop}(x0:α0) (x1:α1) (h0:A0 x0 x1) (h1:A1 x0 x1):∃ x0 x1,A0 x0 x1∧A1 x0 x1:=⟨x0,x1,h0,h1⟩
theorem I23.{u0,u1}{α0:Sort u0}{α1:Sort u1}{A0 A1 A2:α0→α1→Prop}(x0:α0) (x1:α1) (h0:A0 x0 x1) (h1:A1 x0 x1) (h2:A2 x0 x1):∃ x0 x1,A0 x0 x1∧A1 x0 x1∧A2 x0 x1:=⟨x0,x1,h0,h1,h2⟩
theorem I24.{u0,u1}{α0:Sort u0}{α1:Sort u1}{A0 A1 A2 A3:α0→α1→Prop}(x0:α0) (x1:α1) (h0:A0 x0 x1) (h1:A1 x0 x1) (h2:A2 x0 x1) (h3:A3 x0 x1):∃ x0 x1,A0 x0 x1∧A1 x0 x1∧A2 x0 x1∧A3 x0 x1:=⟨x0,x1,h0,h1,h2,h3⟩
theorem I25.{u0,u1}{α0:Sort u0}{α1:Sort u1}{A0 A1 A2 A3 A4:α0→α1→Prop}(x0:α0) (x1:α1) (h0:A0 x0 x1) (h1:A1 x0 x1) (h2:A2 x0 x1) (h3:A3 x0 x1) (h4:A4 x0 x1):∃ x0 x1,A0 x0 x1∧A1 x0 x1∧A2 x0 x1∧A3 x0 x1∧A4 x0 x1:=⟨x0,x1,h0,h1,h2,h3,h4⟩
theorem I26.{u0,u1}{α0:Sort u0}{α1:Sort u1}{A0 A1 A2 A3 A4 A5:α0→α1→Prop}(x0:α0) (x1:α1) (h0:A0 x0 x1) (h1:A1 x0 x1) (h2:A2 x0 x1) (h3:A3 x0 x1) (h4:A4 x0 x1) (h5:A5 x0 x1):∃ x0 x1,A0 x0 x1∧A1 x0 x1∧A2 x0 x1∧A3 x0 x1∧A4 x0 x1∧A5 x0 x1:=⟨x0,x1,h0,h1,h2,h3,h4,h5⟩
theorem I31.{u0,u1,u2}{α0:Sort u0}{α1:Sort u1}{α2:Sort u2}{A0:α0→α1→α2→Prop}(x0:α0) (x1:α1) (x2:α2) (h0:A0 x0 x1 x2):∃ x0 x1 x2,A0 x0 x1 x2:=⟨x0,x1,x2,h0⟩
theorem I32.{u0,u1,u2}{α0:Sort u0}{α1:Sort u1}{α2:Sort u2}{A0 A1:α0→α1→α2→Prop}(x0:α0) (x1:α1) (x2:α2) (h0:A0 x0 x1 x2) (h1:A1 x0 x1 x2):∃ x0 x1 x2,A0 x0 x1 x2∧A1 x0 x1 x2:=⟨x0,x1,x2,h0,h1⟩
theorem I33.{u0,u1,u2}{α0:Sort u0}{α1:Sort u1}{α2:Sort u2}{A0 A1 A2:α0→α1→α2→Prop}(x0:α0) (x1:α1) (x2:α2) (h0:A0 x0 x1 x2) (h1:A1 x0 x1 x2) (h2:A2 x0 x1 x2):∃ x0 x1 x2,A0 x0 x1 x2∧A1 x0 x1 x2∧A2 x0 x1 x2:=⟨x0,x1,x2,h0,h1,h2⟩
theorem I34.{u0,u1,u2}{α0:Sort u0}{α1:Sort u1}{α2:Sort u2}{A0 A1 A2 A3:α0→α1→α2→Prop}(x0:α0) (x1:α1) (x2:α2) (h0:A0 x0 x1 x2) (h1:A1 x0 x1 x2) (h2:A2 x0 x1 x2) (h3:A3 x0 x1 x2):∃ x0 x1 x2,A0 x0 x1 x2∧A1 x0 x1 x2∧A2 x0 x1 x2∧A3 x0 x1 x2:=⟨x0,x1,x2,h0,h1,h2,h3⟩
theorem I35.{u0,u1,u2}{α0:Sort u0}{α1:Sort u1}{α2:Sort u2}{A0 A1 A2 A3 A4:α0→α1→α2→Prop}(x0:α0) (x1:α1) (x2:α2) (h0:A0 x0 x1 x2) (h1:A1 x0 x1 x2) (h2:A2 x0 x1 x2) (h3:A3 x0 x1 x2) (h4:A4 x0 x1 x2):∃ x0 x1 x2,A0 x0 x1 x2∧A1 x0 x1 x2∧A2 x0 x1 x2∧A3 x0 x1 x2∧A4 x0 x1 x2:=⟨x0,x1,x2,h0,h1,h2,h3,h4⟩
theorem I42.{u0,u1,u2,u3}{α0:Sort u0}{α1:Sort u1}{α2:Sort u2}{α3:Sort u3}{A0 A1:α0→α1→α2→α3→Prop}(x0:α0) (x1:α1) (x2:α2) (x3:α3) (h0:A0 x0 x1 x2 x3) (h1:A1 x0 x1 x2 x3):∃ x0 x1 x2 x3,A0 x0 x1 x2 x3∧A1 x0 x1 x2 x3:=⟨x0,x1,x2,x3,h0,h1⟩
theorem I44.{u0,u1,u2,u3}{α0:Sort u0}{α1:Sort u1}{α2:Sort u2}{α3:Sort u3}{A0 A1 A2 A3:α0→α1→α2→α3→Prop}(x0:α0) (x1:α1) (x2:α2) (x3:α3) (h0:A0 x0 x1 x2 x3) (h1:A1 x0 x1 x2 x3) (h2:A2 x0 x1 x2 x3) (h3:A3 x0 x1 x2 x3):∃ x0 x1 x2 x3,A0 x0 x1 x2 x3∧A1 x0 x1 x2 x3∧A2 x0 x1 x2 x3∧A3 x0 x1 x2 x3:=⟨x0,x1,x2,x3,h0,h1,h2,h3⟩
theorem I45.{u0,u1,u2,u3}{α0:Sort u0}{α1:Sort u1}{α2:Sort u2}{α3:Sort u3}{A0 A1 A2 A3 A4:α0→α1→α2→α3→Prop}(x0:α0) (x1:α1) (x2:α2) (x3:α3) (h0:A0 x0 x1 x2 x3) (h1:A1 x0 x1 x2 x3) (h2:A2 x0 x1 x2 x3) (h3:A3 x0 x1 x2 x3) (h4:A4 x0 x1 x2 x3):∃ x0 x1 x2 x3,A0 x0 x1 x2 x3∧A1 x0 x1 x2 x3∧A2 x0 x1 x2 x3∧A3 x0 x1 x2 x3∧A4 x0 x1 x2 x3:=⟨x0,x1,x2,x3,h0,h1,h2,h3,h4⟩
theorem I51.{u0,u1,u2,u3,u4}{α0:Sort u0}{α1:Sort u1}{α2:Sort u2}{α3:Sort u3}{α4:Sort u4}{A0:α0→α1→α2→α3→α4→Prop}(x0:α0) (x1:α1) (x2:α2) (x3:α3) (x4:α4) (h0:A0 x0 x1 x2 x3 x4):∃ x0 x1 x2 x3 x4,A0 x0 x1 x2 x3 x4:=⟨x0,x1,x2,x3,x4,h0⟩
theorem I62.{u0,u1,u2,u3,u4,u5}{α0:Sort u0}{α1:Sort u1}{α2:Sort u2}{α3:Sort u3}{α4:Sort u4}{α5:Sort u5}{A0 A1:α0→α1→α2→α3→α4→α5→Prop}(x0:α0) (x1:α1) (x2:α2) (x3:α3) (x4:α4) (x5:α5) (h0:A0 x0 x1 x2 x3 x4 x5) (h1:A1 x0 x1 x2 x3 x4 x5):∃ x0 x1 x2 x3 x4 x5,A0 x0 x1 x2 x3 x4 x5∧A1 x0 x1 x2 x3 x4 x5:=⟨x0,x1,x2,x3,x4,x5,h0,h1⟩
end Mine.Internal
end
noncomputable section
namespace Mine.Internal
inductive PV where
 | undef|none
 | bool (b:Bool)|int (i:Int)|str (l:List Nat)
 | tup (xs:List PV)
 | lst (a:Nat)|obj (a:Nat)|fn (f:Nat)|clst (xs:List PV)|rng (n:Int)
 deriving Inhabited
inductive dJ where
 | list (xs:List PV)
 | inst (d:Nat)
 | flds (es:List (Nat×PV))
abbrev MH:=Nat→Option dJ
noncomputable def MH.set (H:MH) (a:Nat) (o:dJ):MH:=fun b=>if b=a then some o else H b
set_option genInjectivity false in
structure Cx where
 prog:Program
 w:World
 K:Frag
 base:Heap
 fn:Nat→Nat
 gv:Nat→PV
 mg:Str→Option Value
 mb:Str→Option Value
 W:Nat
 G:Nat
 os:OsState
mutual
noncomputable def VR (C:Cx) (h:Heap):PV→Value→Prop
 | .undef,_=>False
 | .none,v=>v=.none
 | .bool b,v=>v=.bool b
 | .int i,v=>∃ t,v=.int i t
 | .str l,v=>∃ t,v=.str ⟨l.toArray⟩ t
 | .tup xs,v=>∃ a items,v=.ref a∧IsTup h a items∧VRs C h xs items.toList
 | .lst a,v=>v=.ref a
 | .obj a,v=>v=.ref a
 | .fn f,v=>v=.ref (C.fn f)
 | .clst xs,v=>∃ a items,v=.ref a∧C.base.IsList a items∧VRs C h xs items.toList
 | .rng n,v=>∃ a t u w,v=.ref a∧IsRange h a 0 n 1 t u w
noncomputable def VRs (C:Cx) (h:Heap):List PV→List Value→Prop
 | [],vs=>vs=[]
 | x::xs,vs=>∃ v r,vs=v::r∧VR C h x v∧VRs C h xs r
end
noncomputable def bG:Nat→Str
 | 0=>"rows"
 | _=>"at"
noncomputable def jY (C:Cx) (h:Heap):List (Nat×PV)→List DictEntry→Prop
 | [],l=>l=[]
 | (k,p)::r,l=>∃ e l',l=e::l'∧(k<2∧∃ t,e.key=.str (bG k) t)∧VR C h p e.val∧jY C h r l'
noncomputable def HR (C:Cx) (h:Heap) (a:Nat):dJ→Prop
 | .list xs=>∃ items n,h.get? a=some ⟨.type "list",none,.seq items n,#[]⟩∧VRs C h xs items.toList
 | .inst d=>h.get? a=some ⟨.ref C.W,some d,.plain,#[]⟩
 | .flds es=>∃ des n,h.get? a=some ⟨.type "dict",none,.dict des n,#[]⟩∧jY C h es des.toList
structure Inv (C:Cx) (fs:List Env) (H:MH) (s:Shared):Prop where
 stays:C.base.StaysIn s.heap
 frames:s.heap.FunFrames C.base fs
 hrel:∀ a o,H a=some o→C.base.get? a=none∧HR C s.heap a o
 gens:s.gens=#[]
 os:s.os=C.os
noncomputable def bH (fs:List Env):List Nat:=fs.filterMap (·.frame)
structure aM (fs:List Env) (H:MH) (s:Shared) (H':MH) (s':Shared):Prop where
 keep:∀ b o,s.heap.get? b=some o→H b=none→H' b=none∧(s'.heap.get? b=some o∨(b∈bH fs∧∃ sl,s'.heap.get? b=some { o with slots:=sl }))
 mono:∀ b,H b≠none→H' b≠none
set_option genInjectivity false in
inductive BOp where|add|sub|mul|fdiv|mod deriving DecidableEq
set_option genInjectivity false in
inductive COp where|lt|le|gt|ge|eq|ne|is_|isn|in_|nin
set_option genInjectivity false in
inductive BI where|len|min|max|range|tuple|list|int|isTuple|isStr|isInt|isBool deriving DecidableEq
set_option genInjectivity false in
inductive MK where|append|pop|extend|join|find|lower
set_option genCtorIdx false in
set_option genInjectivity false in
inductive ME where
 | none|bool (b:Bool)|int (i:Int)|str (l:List Nat)
 | var (i:Nat)|gfun (f:Nat)|gval (c:Nat)
 | bin (op:BOp) (a b:ME)|pow (a b:Nat)|neg (i:Nat)
 | cmp (op:COp) (a b:ME)
 | and (es:List ME)|or (es:List ME)|not (e:ME)|ite (c a b:ME)
 | tuple (es:List ME)|list (es:List ME)
 | idx (a i:ME)|slc (a l u:ME)|rev (a:ME)
 | call (f:Nat) (args:List ME)|callv (v:Nat) (args:List ME)|new (args:List ME)
 | bi (b:BI) (args:List ME)|meth (k:MK) (o:ME) (args:List ME)|wmeth (f:Nat) (o:ME) (args:List ME)
 | attr (k:Nat) (o:ME)
 | comp (elt:ME) (x:Nat) (fr:List Nat) (src:ME) (cs:List ME)
 | dead
set_option genCtorIdx false in
set_option genInjectivity false in
inductive MS where
 | expr (e:ME)|asg (x:Nat) (e:ME)|asgT (xs:List Nat) (e:ME)|swap (xs:List Nat) (es:List ME)
 | setidx (o i e:ME)|setattr (k:Nat) (o e:ME)|aug (x:Nat) (op:BOp) (e:ME)|augattr (k:Nat) (o:ME) (op:BOp) (e:ME)
 | ifs (c:ME) (a b:List MS)|whl (c:ME) (body:List MS)|fors (xs:List Nat) (isT:Bool) (src:ME) (body:List MS)
 | ret (e:ME)|brk|raise (args:List ME)|tryN (body:List MS)
 | dead
end Mine.Internal
end
noncomputable section
namespace Mine.Internal
open Classical
noncomputable def eZ (xs:List PV):Prop:=∀ x∈xs,∃ l,x=.str l
noncomputable def dZ:Nat→PV→Prop
 | _,.none=>True
 | _,.bool _=>True
 | _,.int _=>True
 | _,.str _=>True
 | n+1,.tup xs=>∀ x∈xs,dZ n x
 | _,_=>False
noncomputable def dX (n:Nat) (xs:List PV):Prop:=∀ x∈xs,dZ n x
noncomputable def hU (n:Nat) (i:Int):Option Nat:=if 0≤i then some i.toNat else if -(n:Int)≤i then some (n+i).toNat else none
noncomputable def fT (H:MH):PV→Option (List PV)
 | .tup xs=>some xs
 | .clst xs=>some xs
 | .lst a=>match H a with
  | some (.list xs)=>some xs
  | _=>none
 | _=>none
noncomputable def kR:PV→Option Nat
 | .none=>some 0
 | .int i=>if 0≤i then some i.toNat else none
 | _=>none
noncomputable def lR (n:Nat):PV→Option Nat
 | .none=>some n
 | .int i=>if 0≤i then some i.toNat else none
 | _=>none
abbrev QV:=PV→MH→Prop
noncomputable def gF (xs:List PV) (H:MH) (Q:QV):Prop:=∀ a,H a=none→Q (.lst a) (H.set a (.list xs))
noncomputable def dL {α:Type}(o:Option α) (k:α→Prop):Prop:=Option.casesOn (motive:=fun J=>Prop) o False k
noncomputable def nilQ {α:Type}(l:List α) (P:Prop):Prop:=List.casesOn (motive:=fun J=>Prop) l P fun J J=>False
noncomputable def mD {α:Type}(l:List α) (k:α→Prop):Prop:=List.casesOn (motive:=fun J=>Prop) l False fun x r=>nilQ r (k x)
noncomputable def twoQ {α:Type}(l:List α) (k:α→α→Prop):Prop:=List.casesOn (motive:=fun J=>Prop) l False fun x r=>mD r (k x)
noncomputable def asN (x:PV) (P:Prop):Prop:=PV.casesOn (motive_1:=fun J=>Prop) x False P (fun J=>False) (fun J=>False) (fun J=>False) (fun J=>False) (fun J=>False) (fun J=>False) (fun J=>False) (fun J=>False) (fun J=>False)
noncomputable def asB (x:PV) (k:Bool→Prop):Prop:=PV.casesOn (motive_1:=fun J=>Prop) x False False k (fun J=>False) (fun J=>False) (fun J=>False) (fun J=>False) (fun J=>False) (fun J=>False) (fun J=>False) (fun J=>False)
noncomputable def asI (x:PV) (k:Int→Prop):Prop:=PV.casesOn (motive_1:=fun J=>Prop) x False False (fun J=>False) k (fun J=>False) (fun J=>False) (fun J=>False) (fun J=>False) (fun J=>False) (fun J=>False) (fun J=>False)
noncomputable def asS (x:PV) (k:List Nat→Prop):Prop:=PV.casesOn (motive_1:=fun J=>Prop) x False False (fun J=>False) (fun J=>False) k (fun J=>False) (fun J=>False) (fun J=>False) (fun J=>False) (fun J=>False) (fun J=>False)
noncomputable def asT (x:PV) (k:List PV→Prop):Prop:=PV.casesOn (motive_1:=fun J=>Prop) x False False (fun J=>False) (fun J=>False) (fun J=>False) k (fun J=>False) (fun J=>False) (fun J=>False) (fun J=>False) (fun J=>False)
noncomputable def asF (x:PV) (k:Nat→Prop):Prop:=PV.casesOn (motive_1:=fun J=>Prop) x False False (fun J=>False) (fun J=>False) (fun J=>False) (fun J=>False) (fun J=>False) (fun J=>False) k (fun J=>False) (fun J=>False)
noncomputable def pD (x:PV) (k:List Nat→Prop) (P:Prop):Prop:=PV.casesOn (motive_1:=fun J=>Prop) x P P (fun J=>P) (fun J=>P) k (fun J=>P) (fun J=>P) (fun J=>P) (fun J=>P) (fun J=>P) (fun J=>P)
noncomputable def lsQ (H:MH) (a:Nat) (k:List PV→Prop):Prop:=dL (H a) fun o=>dJ.casesOn (motive:=fun J=>Prop) o k (fun J=>False) (fun J=>False)
noncomputable def obQ (H:MH) (a:Nat) (k:Nat→List (Nat×PV)→Prop):Prop:=
 dL (H a) fun o=>dJ.casesOn (motive:=fun J=>Prop) o (fun J=>False) (fun d=>dL (H d) fun o=>dJ.casesOn (motive:=fun J=>Prop) o (fun J=>False) (fun J=>False) (k d)) (fun J=>False)
noncomputable def asL (H:MH) (x:PV) (k:Nat→List PV→Prop):Prop:=PV.casesOn (motive_1:=fun J=>Prop) x False False (fun J=>False) (fun J=>False) (fun J=>False) (fun J=>False) (fun a=>lsQ H a (k a)) (fun J=>False) (fun J=>False) (fun J=>False) (fun J=>False)
noncomputable def asO (H:MH) (x:PV) (k:Nat→Nat→List (Nat×PV)→Prop):Prop:=PV.casesOn (motive_1:=fun J=>Prop) x False False (fun J=>False) (fun J=>False) (fun J=>False) (fun J=>False) (fun J=>False) (fun a=>obQ H a (k a)) (fun J=>False) (fun J=>False) (fun J=>False)
noncomputable def sqQ (H:MH) (x:PV) (k:List PV→Prop):Prop:=dL (fT H x) k
noncomputable def catQ (x y:PV) (H:MH) (Q:QV):Prop:=asL H y fun J ys=>sqQ H x fun xs=>xs.length+ys.length≤16000000∧gF (xs++ys) H Q
noncomputable def addQ (x y:PV) (H:MH) (Q:QV):Prop:=PV.casesOn (motive_1:=fun J=>Prop) x False False (fun J=>False) (fun a=>asI y fun b=>Q (.int (a+b)) H) (fun a=>asS y fun b=>a.length+b.length≤16000000∧Q (.str (a++b)) H) (fun a=>asT y fun b=>a.length+b.length≤16000000∧Q (.tup (a++b)) H) (fun J=>catQ x y H Q) (fun J=>False) (fun J=>False) (fun J=>catQ x y H Q) (fun J=>False)
noncomputable def mulQ (x y:PV) (H:MH) (Q:QV):Prop:=PV.casesOn (motive_1:=fun J=>Prop) x False False (fun J=>False) (fun a=>asI y fun b=>a.natAbs<2 ^ 63∧Q (.int (a*b)) H) (fun J=>False) (fun J=>False) (fun a=>lsQ H a fun xs=>asI y fun n=>0≤n∧n≤1∧xs.length≤16000000∧gF (if n=0 then [] else xs) H Q) (fun J=>False) (fun J=>False) (fun J=>False) (fun J=>False)
noncomputable def dY (op:BOp) (x y:PV) (H:MH) (Q:QV):Prop:=BOp.casesOn (motive:=fun J=>Prop) op (addQ x y H Q) (asI x fun a=>asI y fun b=>Q (.int (a - b)) H) (mulQ x y H Q)
 (asI x fun a=>asI y fun b=>0<b∧b<1000000∧Q (.int (a / b)) H) (asI x fun a=>asI y fun b=>0<b∧Q (.int (a % b)) H)
noncomputable def eqLQ (H:MH) (xs ys:List PV) (Q:Bool→Prop):Prop:=(xs.length≠ys.length∧Q false)∨(eZ xs∧eZ ys∧Q (decide (xs=ys)))∨(dX 600 xs∧xs=ys∧Q true)
noncomputable def eqQ (H:MH) (x y:PV) (Q:Bool→Prop):Prop:=PV.casesOn (motive_1:=fun J=>Prop) x False (asN y (Q true)) (fun J=>False) (fun a=>asI y fun b=>Q (decide (a=b))) (fun a=>asS y fun b=>Q (decide (a=b))) (fun xs=>asT y fun ys=>nilQ ys (Q xs.isEmpty)) (fun a=>asL H y fun J ys=>lsQ H a fun xs=>eqLQ H xs ys Q) (fun J=>False) (fun J=>False) (fun J=>False) (fun J=>False)
noncomputable def inQ (H:MH) (x y:PV) (Q:Bool→Prop):Prop:=PV.casesOn (motive_1:=fun J=>Prop) x False (asT y fun ys=>twoQ ys fun a b=>asN a (asS b fun J=>Q true)) (fun J=>False) (fun J=>False) (fun c=>pD y (fun t=>mD c fun x=>Q (decide (x∈t))) (sqQ H y fun xs=>eZ xs∧Q (decide (PV.str c∈xs)))) (fun J=>False) (fun J=>False) (fun J=>False) (fun J=>False) (fun J=>False) (fun J=>False)
noncomputable def isNQ (x:PV) (Q:Bool→Prop):Prop:=PV.casesOn (motive_1:=fun J=>Prop) x False (Q true) (fun J=>(Q false)) (fun J=>(Q false)) (fun J=>(Q false)) (fun J=>(Q false)) (fun J=>(Q false)) (fun J=>(Q false)) (fun J=>(Q false)) (fun J=>(Q false)) (fun J=>(Q false))
noncomputable def cL (H:MH) (op:COp) (x y:PV) (Q:Bool→Prop):Prop:=COp.casesOn (motive:=fun J=>Prop) op
 (asI x fun a=>asI y fun b=>Q (decide (a<b))) (asI x fun a=>asI y fun b=>Q (decide (a≤b))) (asI x fun a=>asI y fun b=>Q (decide (b<a))) (asI x fun a=>asI y fun b=>Q (decide (b≤a)))
 (eqQ H x y Q) (eqQ H x y fun r=>Q (!r)) (asN y (isNQ x Q)) (asN y (isNQ x fun r=>Q (!r))) (inQ H x y Q) (inQ H x y fun r=>Q (!r))
noncomputable def fY (a i:PV) (H:MH) (Q:QV):Prop:=asI i fun k=>pD a (fun l=>dL (hU l.length k) fun j=>dL l[j]? fun c=>l.length≤16000000∧Q (.str [c]) H)
 (sqQ H a fun xs=>dL (hU xs.length k) fun j=>dL xs[j]? fun v=>xs.length≤16000000∧Q v H)
noncomputable def bM {α:Type}(xs:List α) (l u:Nat):List α:=(xs.take u).drop l
noncomputable def pR (a l u:PV) (H:MH) (Q:QV):Prop:=pD a (fun t=>dL (kR l) fun x=>dL (lR t.length u) fun y=>t.length≤16000000∧x≤16000000∧y≤16000000∧Q (.str (bM t x y)) H)
 (asL H a fun J xs=>dL (kR l) fun x=>dL (lR xs.length u) fun y=>xs.length≤16000000∧x≤16000000∧y≤16000000∧gF (bM xs x y) H Q)
noncomputable def revQ (a:PV) (H:MH) (Q:QV):Prop:=asT a fun xs=>xs.length≤16000000∧Q (.tup xs.reverse) H
noncomputable def lenQ (H:MH) (a:PV) (Q:PV→Prop):Prop:=pD a (fun l=>l.length≤16000000∧Q (.int l.length)) (sqQ H a fun xs=>xs.length≤16000000∧Q (.int xs.length))
noncomputable def biKd (b:BI) (t s i o:Bool):Bool:=BI.casesOn (motive:=fun J=>Bool) b false false false false false false false t s i o
noncomputable def gR (b:BI) (p:PV):Option Bool:=PV.casesOn (motive_1:=fun J=>Option Bool) p none (some false) (fun J=>some (biKd b false false true true)) (fun J=>some (biKd b false false true false)) (fun J=>some (biKd b false true false false)) (fun J=>some (biKd b true false false false)) (fun J=>none) (fun J=>none) (fun J=>none) (fun J=>none) (fun J=>none)
noncomputable def isQ (b:BI) (vs:List PV) (H:MH) (Q:QV):Prop:=mD vs fun a=>dL (gR b a) fun r=>Q (.bool r) H
noncomputable def biQ (b:BI) (vs:List PV) (H:MH) (Q:QV):Prop:=BI.casesOn (motive:=fun J=>Prop) b
 (mD vs fun a=>lenQ H a fun r=>Q r H)
 (twoQ vs fun x y=>asI x fun a=>asI y fun b=>Q (.int (if b<a then b else a)) H)
 (twoQ vs fun x y=>asI x fun a=>asI y fun b=>Q (.int (if a<b then b else a)) H)
 (mD vs fun x=>asI x fun n=>0≤n∧n≤16000000∧Q (.rng n) H)
 (mD vs fun x=>asL H x fun J xs=>xs.length≤16000000∧Q (.tup xs) H)
 (mD vs fun x=>asL H x fun J xs=>xs.length≤16000000∧gF xs H Q)
 (mD vs fun x=>asB x fun b=>Q (.int (if b then 1 else 0)) H)
 (isQ b vs H Q) (isQ b vs H Q) (isQ b vs H Q) (isQ b vs H Q)
noncomputable def jA:List PV→Option (List Nat)
 | []=>some []
 | .str l::r=>(jA r).map (l++·)
 | _=>none
noncomputable def hexS:List Nat:=[48,49,50,51,52,53,54,55,56,57,97,98,99,100,101,102]
noncomputable def jW (k:MK) (o:PV) (vs:List PV) (H:MH) (Q:QV):Prop:=MK.casesOn (motive:=fun J=>Prop) k
 (asL H o fun a xs=>mD vs fun v=>xs.length<16000000∧Q .none (H.set a (.list (xs++[v]))))
 (asL H o fun a xs=>nilQ vs (dL xs.getLast? fun v=>xs.length≤16000000∧Q v (H.set a (.list xs.dropLast))))
 (asL H o fun a xs=>mD vs fun w=>asL H w fun b ys=>a≠b∧xs.length+ys.length≤16000000∧Q .none (H.set a (.list (xs++ys))))
 (asS o fun t=>nilQ t (mD vs fun w=>asL H w fun J xs=>dL (jA xs) fun l=>l.length≤16000000∧xs.length≤16000000∧Q (.str l) H))
 (asS o fun t=>mD vs fun w=>asS w fun cs=>mD cs fun c=>t=hexS∧(c=51∨c=32∨c=10)∧Q (.int (if c=51 then 3 else -1)) H)
 (asS o fun t=>mD t fun c=>nilQ vs ((c=51∨c=32∨c=10)∧Q (.str [c]) H))
noncomputable def fQ (k:MK) (o:PV) (H:MH):Prop:=MK.casesOn (motive:=fun J=>Prop) k (asL H o fun J J=>True) (asL H o fun J J=>True) (asL H o fun J J=>True) (asS o fun J=>True) (asS o fun J=>True) (asS o fun J=>True)
noncomputable def vU (k:Nat):List (Nat×PV)→Option PV
 | []=>none
 | (j,p)::r=>if j=k then some p else vU k r
noncomputable def mB (k:Nat) (v:PV):List (Nat×PV)→List (Nat×PV)
 | []=>[(k,v)]
 | (j,p)::r=>if j=k then (j,v)::r else (j,p)::mB k v r
noncomputable def nX (k:Nat) (o:PV) (H:MH) (Q:QV):Prop:=asO H o fun J J es=>dL (vU k es) fun v=>Q v H
noncomputable def eI (k:Nat) (o v:PV) (H:MH) (Q:MH→Prop):Prop:=asO H o fun J d es=>es.length≤1000∧Q (H.set d (.flds (mB k v es)))
noncomputable def mU (o i v:PV) (H:MH) (Q:MH→Prop):Prop:=asL H o fun a xs=>asI i fun k=>0≤k∧k<xs.length∧xs.length≤16000000∧Q (H.set a (.list (xs.set k.toNat v)))
noncomputable def oI (p:PV) (H:MH) (Q:List PV→(MH→Prop)→Prop):Prop:=PV.casesOn (motive_1:=fun J=>Prop) p False False (fun J=>False) (fun J=>False) (fun J=>False) (fun xs=>Q xs fun J=>True) (fun a=>lsQ H a fun xs=>Q xs fun H1=>H1 a=some (.list xs)) (fun J=>False) (fun J=>False) (fun J=>False) (fun n=>0≤n∧n≤16000000∧Q ((List.range n.toNat).map fun (i:Nat)=>PV.int (i:Int)) fun J=>True)
noncomputable def nu (v:PV) (P:Prop):Prop:=(fun (_:Prop)=>(PV.casesOn v False P (fun J=>P) (fun J=>P) (fun J=>P) (fun J=>P) (fun J=>P) (fun J=>P) (fun J=>P) (fun J=>P) (fun J=>P):Prop))
 (oI v (fun J=>none) (fun J J=>True)∧mU v v v (fun J=>none) (fun J=>True)∧eI 0 v v (fun J=>none) (fun J=>True)∧nX 0 v (fun J=>none) (fun J J=>True)∧jW .pop v [] (fun J=>none) (fun J J=>True)∧biQ .len [] (fun J=>none) (fun J J=>True)∧revQ v (fun J=>none) (fun J J=>True)∧pR v v v (fun J=>none) (fun J J=>True)∧fY v v (fun J=>none) (fun J J=>True)∧cL (fun J=>none) .eq v v (fun J=>True)∧dY .add v v (fun J=>none) (fun J J=>True))
noncomputable def isI (v:PV) (P:Prop):Prop:=(fun (_:Prop)=>(PV.casesOn v False False (fun J=>False) (fun J=>P) (fun J=>False) (fun J=>False) (fun J=>False) (fun J=>False) (fun J=>False) (fun J=>False) (fun J=>False):Prop)) (nu v P)
theorem cI {v:PV}{P:Prop}:nu v P↔v≠.undef∧P:=by
 cases v<;>first|exact ⟨fun h=>⟨(fun e=>nomatch e),h⟩,fun h=>h.2⟩|exact ⟨fun h=>h.elim,fun h=>h.1 rfl⟩
theorem Dm {v:PV}{P:Prop}:isI v P↔(∃ i,v=.int i)∧P:=by
 cases v<;>first|exact ⟨fun h=>⟨⟨_,rfl⟩,h⟩,fun h=>h.2⟩|exact ⟨fun h=>h.elim,fun h=>by obtain ⟨⟨i,e⟩,_⟩:=h;cases e⟩
abbrev LE:=Nat→PV
noncomputable def LE.set (m:LE) (i:Nat) (v:PV):LE:=fun j=>bif j==i then v else m j
theorem aJ {m:LE}{i j:Nat}{v:PV}:(m.set i v) j=if j=i then v else m j:=by
 unfold LE.set
 by_cases h:j=i
 ·subst h;rw [if_pos rfl,beq_self_eq_true];rfl
 ·rw [if_neg h,beq_eq_false_iff_ne.mpr h];rfl
noncomputable def LE.sets (m:LE):List Nat→List PV→Option LE
 | [],[]=>some m
 | i::r,v::vs=>(m.set i v).sets r vs
 | _,_=>none
inductive Fl where|next|brk|ret (p:PV)
abbrev QS:=Fl→LE→MH→Prop
noncomputable def qO (A:LE→MH→QS→Prop) (Q:QS):QS:=fun fl m H=>Fl.casesOn (motive:=fun J=>Prop) fl (A m H Q) (Q .brk m H) fun p=>Q (.ret p) m H
noncomputable def eN (A:LE→MH→QS→Prop) (Q:QS):QS:=fun fl m H=>Fl.casesOn (motive:=fun J=>Prop) fl (A m H Q) (Q .next m H) fun p=>Q (.ret p) m H
noncomputable def iR (Q:QV):QS:=fun fl J H=>Fl.casesOn (motive:=fun J=>Prop) fl (Q .none H) False fun p=>Q p H
noncomputable def iX (Q:Bool→MH→Prop):QV:=fun p H=>asB p fun b=>Q b H
noncomputable def aY (c:LE→MH→(Bool→MH→Prop)→Prop) (b:LE→MH→QS→Prop):Nat→LE→MH→QS→Prop
 | 0,_,_,_=>False
 | n+1,m,H,Q=>c m H fun t H₁=>cond t (b m H₁ (eN (aY c b n) Q)) (Q .next m H₁)
theorem bR {c:LE→MH→(Bool→MH→Prop)→Prop}{b:LE→MH→QS→Prop}{n:Nat}{m:LE}{H:MH}{Q:QS}:aY c b (n+1) m H Q=c m H fun t H₁=>cond t (b m H₁ (eN (aY c b n) Q)) (Q .next m H₁):=rfl
noncomputable def bC (xs:List Nat) (isT:Bool) (v:PV) (m:LE):Option LE:=Bool.casesOn (motive:=fun J=>Option LE) isT
 (List.casesOn (motive:=fun J=>Option LE) xs none fun x r=>List.casesOn (motive:=fun J=>Option LE) r (some (m.set x v)) fun J J=>none)
 (PV.casesOn (motive_1:=fun J=>Option LE) v none none (fun J=>none) (fun J=>none) (fun J=>none) (fun vs=>if vs.length≤100 then m.sets xs vs else none) (fun J=>none) (fun J=>none) (fun J=>none) (fun J=>none) (fun J=>none))
noncomputable def cQ (bd:PV→LE→Option LE) (b:LE→MH→QS→Prop) (chk:MH→Prop):List PV→LE→MH→QS→Prop
 | [],m,H,Q=>Q .next m H
 | v::r,m,H,Q=>dL (bd v m) fun m₁=>b m₁ H (eN (fun m' H' Q=>chk H'∧cQ bd b chk r m' H' Q) Q)
noncomputable def fB (x:Nat) (c:LE→MH→(Bool→MH→Prop)→Prop) (e:LE→MH→QV→Prop) (chk:MH→Prop) (m:LE):List PV→MH→List PV→(List PV→MH→Prop)→Prop
 | [],H,acc,Q=>Q acc H
 | v::r,H,acc,Q=>c (m.set x v) H fun t H₁=>cond t (e (m.set x v) H₁ fun p H'=>chk H'∧acc.length<16000000∧fB x c e chk m r H' (acc++[p]) Q) (chk H₁∧fB x c e chk m r H₁ acc Q)
theorem dE {bd:PV→LE→Option LE}{b:LE→MH→QS→Prop}{chk:MH→Prop}{v:PV}{r:List PV}{m:LE}{H:MH}{Q:QS}:cQ bd b chk (v::r) m H Q=dL (bd v m) fun m₁=>b m₁ H (eN (fun m' H' Q=>chk H'∧cQ bd b chk r m' H' Q) Q):=rfl
theorem lO {x:Nat}{c:LE→MH→(Bool→MH→Prop)→Prop}{e:LE→MH→QV→Prop}{chk:MH→Prop}{m:LE}{H:MH}{acc:List PV}{Q:List PV→MH→Prop}:fB x c e chk m [] H acc Q=Q acc H:=rfl
theorem lN {x:Nat}{c:LE→MH→(Bool→MH→Prop)→Prop}{e:LE→MH→QV→Prop}{chk:MH→Prop}{m:LE}{v:PV}{r:List PV}{H:MH}{acc:List PV}{Q:List PV→MH→Prop}:fB x c e chk m (v::r) H acc Q=c (m.set x v) H fun t H₁=>cond t (e (m.set x v) H₁ fun p H'=>chk H'∧acc.length<16000000∧fB x c e chk m r H' (acc++[p]) Q) (chk H₁∧fB x c e chk m r H₁ acc Q):=rfl
noncomputable def eJ (m:LE) (fr:List Nat):LE:=fun i=>if fr.contains i then m i else .undef
abbrev FSt:=Nat→List PV→MH→QV→(MH→Prop)→Prop
noncomputable def nope:MH→Prop:=fun J=>False
mutual
noncomputable def mE (F:FSt) (gv:Nat→PV) (E:MH→Prop):ME→LE→MH→QV→Prop
 | .none,_,H,Q=>Q .none H
 | .bool b,_,H,Q=>Q (.bool b) H
 | .int i,_,H,Q=>Q (.int i) H
 | .str l,_,H,Q=>Q (.str l) H
 | .var i,m,H,Q=>nu (m i) (Q (m i) H)
 | .gfun f,_,H,Q=>Q (.fn f) H
 | .gval c,_,H,Q=>Q (gv c) H
 | .bin op a b,m,H,Q=>mE F gv E a m H fun x H₁=>mE F gv E b m H₁ fun y H₂=>dY op x y H₂ Q
 | .pow a b,_,H,Q=>Q (.int ((a:Int) ^ b)) H
 | .neg i,_,H,Q=>Q (.int (-(i:Int))) H
 | .cmp op a b,m,H,Q=>mE F gv E a m H fun x H₁=>mE F gv E b m H₁ fun y H₂=>cL H₂ op x y fun r=>Q (.bool r) H₂
 | .and es,m,H,Q=>mAnd F gv E es m H Q
 | .or es,m,H,Q=>mOr F gv E es m H Q
 | .not _,_,_,_=>False
 | .ite c a b,m,H,Q=>mT F gv E c m H fun t H'=>cond t (mE F gv E a) (mE F gv E b) m H' Q
 | .tuple es,m,H,Q=>mEs F gv E es m H fun vs H'=>Q (.tup vs) H'
 | .list es,m,H,Q=>mEs F gv E es m H fun vs H'=>gF vs H' Q
 | .idx a i,m,H,Q=>mE F gv E a m H fun x H₁=>mE F gv E i m H₁ fun y H₂=>fY x y H₂ Q
 | .slc a l u,m,H,Q=>mE F gv E a m H fun x H₁=>mE F gv E l m H₁ fun y H₂=>mE F gv E u m H₂ fun z H₃=>pR x y z H₃ Q
 | .rev a,m,H,Q=>mE F gv E a m H fun x H₁=>revQ x H₁ Q
 | .call f args,m,H,Q=>mEs F gv E args m H fun vs H'=>F f vs H' Q E
 | .callv i args,m,H,Q=>asF (m i) fun f=>mEs F gv E args m H fun vs H'=>F f vs H' Q E
 | .new args,m,H,Q=>mEs F gv E args m H fun vs H'=>∀ a d,H' a=none→H' d=none→a≠d →
   F 0 (.obj a::vs) ((H'.set d (.flds [])).set a (.inst d)) (fun p H''=>p=.none∧Q (.obj a) H'') E
 | .bi b args,m,H,Q=>mEs F gv E args m H fun vs H'=>biQ b vs H' Q
 | .meth k o args,m,H,Q=>mE F gv E o m H fun x H₁=>fQ k x H₁∧mEs F gv E args m H₁ fun vs H'=>jW k x vs H' Q
 | .wmeth f o args,m,H,Q=>mE F gv E o m H fun x H₁=>asO H₁ x fun J J J=>mEs F gv E args m H₁ fun vs H'=>F f (x::vs) H' Q E
 | .attr k o,m,H,Q=>mE F gv E o m H fun x H₁=>nX k x H₁ Q
 | .comp elt x fr src cs,m,H,Q=>mE F gv nope src m H fun p H₁=>oI p H₁ fun xs chk=>
   fB x (rJ F gv nope cs) (mE F gv nope elt) chk (eJ m fr) xs H₁ [] fun ys H₂=>gF ys H₂ Q
 | .dead,_,_,_=>False
noncomputable def mT (F:FSt) (gv:Nat→PV) (E:MH→Prop):ME→LE→MH→(Bool→MH→Prop)→Prop
 | .not e,m,H,Q=>mT F gv E e m H fun b H'=>Q (!b) H'
 | .and es,m,H,Q=>rJ F gv E es m H Q
 | .or es,m,H,Q=>mAny F gv E es m H Q
 | .ite c a b,m,H,Q=>mT F gv E c m H fun t H'=>cond t (mT F gv E a) (mT F gv E b) m H' Q
 | .cmp op a b,m,H,Q=>mE F gv E a m H fun x H₁=>mE F gv E b m H₁ fun y H₂=>cL H₂ op x y fun r=>Q r H₂
 | .var i,m,H,Q=>asB (m i) fun b=>Q b H
 | .call f args,m,H,Q=>mEs F gv E args m H fun vs H'=>F f vs H' (iX Q) E
 | .bi b args,m,H,Q=>mEs F gv E args m H fun vs H'=>biQ b vs H' (iX Q)
 | .wmeth f o args,m,H,Q=>mE F gv E o m H fun x H₁=>asO H₁ x fun J J J=>mEs F gv E args m H₁ fun vs H'=>F f (x::vs) H' (iX Q) E
 | .idx a i,m,H,Q=>mE F gv E a m H fun x H₁=>mE F gv E i m H₁ fun y H₂=>fY x y H₂ (iX Q)
 | _,_,_,_=>False
noncomputable def rJ (F:FSt) (gv:Nat→PV) (E:MH→Prop):List ME→LE→MH→(Bool→MH→Prop)→Prop
 | [],_,H,Q=>Q true H
 | e::r,m,H,Q=>mT F gv E e m H fun b H'=>cond b (rJ F gv E r m H' Q) (Q false H')
noncomputable def mAny (F:FSt) (gv:Nat→PV) (E:MH→Prop):List ME→LE→MH→(Bool→MH→Prop)→Prop
 | [],_,H,Q=>Q false H
 | e::r,m,H,Q=>mT F gv E e m H fun b H'=>cond b (Q true H') (mAny F gv E r m H' Q)
noncomputable def mAnd (F:FSt) (gv:Nat→PV) (E:MH→Prop):List ME→LE→MH→QV→Prop
 | [],_,_,_=>False
 | e::r,m,H,Q=>List.casesOn (motive:=fun J=>Prop) r (mE F gv E e m H Q) fun J J=>mE F gv E e m H fun v H'=>asB v fun b=>cond b (mAnd F gv E r m H' Q) (Q (.bool false) H')
noncomputable def mOr (F:FSt) (gv:Nat→PV) (E:MH→Prop):List ME→LE→MH→QV→Prop
 | [],_,_,_=>False
 | e::r,m,H,Q=>List.casesOn (motive:=fun J=>Prop) r (mE F gv E e m H Q) fun J J=>mE F gv E e m H fun v H'=>asB v fun b=>cond b (Q (.bool true) H') (mOr F gv E r m H' Q)
noncomputable def mEs (F:FSt) (gv:Nat→PV) (E:MH→Prop):List ME→LE→MH→(List PV→MH→Prop)→Prop
 | [],_,H,Q=>Q [] H
 | e::r,m,H,Q=>mE F gv E e m H fun v H'=>mEs F gv E r m H' fun vs H''=>Q (v::vs) H''
end
mutual
noncomputable def mS (F:FSt) (gv:Nat→PV) (E:MH→Prop):MS→LE→MH→QS→Prop
 | .expr e,m,H,Q=>mE F gv E e m H fun J H'=>Q .next m H'
 | .asg x e,m,H,Q=>mE F gv E e m H fun v H'=>Q .next (m.set x v) H'
 | .asgT xs e,m,H,Q=>mE F gv E e m H fun v H'=>dL (bC xs true v m) fun m'=>Q .next m' H'
 | .swap xs es,m,H,Q=>mEs F gv E es m H fun vs H'=>dL (m.sets xs vs) fun m'=>Q .next m' H'
 | .setidx o i e,m,H,Q=>mE F gv E e m H fun v H₁=>mE F gv E o m H₁ fun x H₂=>mE F gv E i m H₂ fun y H₃=>mU x y v H₃ fun H'=>Q .next m H'
 | .setattr k o e,m,H,Q=>mE F gv E e m H fun v H₁=>mE F gv E o m H₁ fun x H₂=>eI k x v H₂ fun H'=>Q .next m H'
 | .aug x op e,m,H,Q=>nu (m x) (mE F gv E e m H fun v H₁=>isI (m x) (dY op (m x) v H₁ fun r H'=>Q .next (m.set x r) H'))
 | .augattr k o op e,m,H,Q=>mE F gv E o m H fun x H₁=>nX k x H₁ fun old H₂=>mE F gv E e m H₂ fun v H₃=>
   isI old (dY op old v H₃ fun r H₄=>eI k x r H₄ fun H'=>Q .next m H')
 | .ifs c a b,m,H,Q=>mT F gv E c m H fun t H'=>cond t (mSs F gv E a) (mSs F gv E b) m H' Q
 | .whl c b,m,H,Q=>∃ n,aY (mT F gv E c) (mSs F gv E b) n m H Q
 | .fors xs isT src b,m,H,Q=>mE F gv E src m H fun p H₁=>oI p H₁ fun its chk=>cQ (bC xs isT) (mSs F gv nope b) chk its m H₁ Q
 | .ret e,m,H,Q=>mE F gv E e m H fun v H'=>Q (.ret v) m H'
 | .brk,m,H,Q=>Q .brk m H
 | .raise args,m,H,_=>mEs F gv E args m H fun vs H'=>twoQ vs fun a b=>asS a fun J=>asI b fun J=>E H'
 | .tryN b,m,H,Q=>mSs F gv (fun H'=>Q (.ret .none) m H') b m H Q
 | .dead,_,_,_=>False
noncomputable def mSs (F:FSt) (gv:Nat→PV) (E:MH→Prop):List MS→LE→MH→QS→Prop
 | [],m,H,Q=>Q .next m H
 | s::r,m,H,Q=>mS F gv E s m H (qO (mSs F gv E r) Q)
end
section
variable {G:Prop}
theorem bT {α:Type}{o:Option α}{k:α→Prop}(h:dL o k):∃ a,o=some a∧k a:=by cases o with|none=>exact h.elim|some a=>exact ⟨a,rfl,h⟩
theorem oO {α:Type}{l:List α}{P:Prop}(h:nilQ l P):l=[]∧P:=by cases l with|nil=>exact ⟨rfl,h⟩|cons a r=>exact h.elim
theorem fG {α:Type}{l:List α}{k:α→Prop}(h:mD l k):∃ a,l=[a]∧k a:=by
 cases l with|nil=>exact h.elim|cons a r=>exact ⟨a,congrArg _ (oO h).1,(oO h).2⟩
theorem uR {α:Type}{l:List α}{k:α→α→Prop}(h:twoQ l k):∃ a b,l=[a,b]∧k a b:=by
 cases l with|nil=>exact h.elim|cons a r=>exact (fG h).elim fun b q=>⟨a,b,congrArg _ q.1,q.2⟩
theorem Ed {x:PV}{k:Bool→Prop}(h:asB x k):∃ i,x=.bool i∧k i:=by cases x<;>first|exact ⟨_,rfl,h⟩|exact h.elim
theorem cG {x:PV}{k:Int→Prop}(h:asI x k):∃ i,x=.int i∧k i:=by cases x<;>first|exact ⟨_,rfl,h⟩|exact h.elim
theorem kY {x:PV}{k:List Nat→Prop}(h:asS x k):∃ i,x=.str i∧k i:=by cases x<;>first|exact ⟨_,rfl,h⟩|exact h.elim
theorem Eb {x:PV}{k:List PV→Prop}(h:asT x k):∃ i,x=.tup i∧k i:=by cases x<;>first|exact ⟨_,rfl,h⟩|exact h.elim
theorem asF_i {x:PV}{k:Nat→Prop}(h:asF x k):∃ i,x=.fn i∧k i:=by cases x<;>first|exact ⟨_,rfl,h⟩|exact h.elim
theorem Ec {x:PV}{P:Prop}(h:asN x P):x=.none∧P:=by cases x<;>first|exact ⟨rfl,h⟩|exact h.elim
theorem yK {H:MH}{a:Nat}{k:List PV→Prop}(h:lsQ H a k):∃ xs,H a=some (.list xs)∧k xs:=
 (bT h).elim fun o q=>by cases o with|list xs=>exact ⟨xs,q⟩|inst d=>exact q.2.elim|flds es=>exact q.2.elim
theorem obQ_i {H:MH}{a:Nat}{k:Nat→List (Nat×PV)→Prop}(h:obQ H a k):∃ d es,H a=some (.inst d)∧H d=some (.flds es)∧k d es:=
 (bT h).elim fun o q=>by
  cases o with
  | list xs=>exact q.2.elim
  | flds es=>exact q.2.elim
  | inst d=>exact (bT q.2).elim fun o p=>by cases o with|list xs=>exact p.2.elim|inst d=>exact p.2.elim|flds es=>exact ⟨d,es,q.1,p⟩
theorem iD {H:MH}{x:PV}{k:Nat→List PV→Prop}(h:asL H x k):∃ a xs,x=.lst a∧H a=some (.list xs)∧k a xs:=by
 cases x<;>first|exact h.elim|exact (yK h).elim fun xs q=>⟨_,xs,rfl,q⟩
theorem asO_i {H:MH}{x:PV}{k:Nat→Nat→List (Nat×PV)→Prop}(h:asO H x k):∃ a d es,x=.obj a∧H a=some (.inst d)∧H d=some (.flds es)∧k a d es:=by
 cases x<;>first|exact h.elim|exact (obQ_i h).elim fun d q=>⟨_,d,q.elim fun es q=>⟨es,rfl,q⟩⟩
theorem bQ {H:MH}{a:Nat}{k:List PV→Prop}{xs:List PV}(h:H a=some (.list xs)):lsQ H a k=k xs:=by unfold lsQ;rw [h];rfl
theorem Ba {H:MH}{a d:Nat}{k:Nat→List (Nat×PV)→Prop}{es:List (Nat×PV)}(h:H a=some (.inst d)) (h':H d=some (.flds es)):obQ H a k=k d es:=by
 unfold obQ;rw [h];show dL (H d) _=_;rw [h'];rfl
theorem bS {α:Type}{o:Option α}{k:α→Prop}{a:α}(h:o=some a):dL o k=k a:=by rw [h];rfl
end
end Mine.Internal
end
noncomputable section
namespace Mine.Internal
theorem aM.refl (fs:List Env) (H:MH) (s:Shared):aM fs H s H s:=
 ⟨fun J J e h=>⟨h,.inl e⟩,fun J e=>e⟩
theorem aM.trans {fs:List Env}{H H₁ H₂:MH}{s s₁ s₂:Shared}(x:aM fs H s H₁ s₁) (y:aM fs H₁ s₁ H₂ s₂):aM fs H s H₂ s₂:=by
 refine ⟨fun b o e h=>?_,fun b h=>y.mono b (x.mono b h)⟩
 obtain ⟨h1,e1|⟨m1,sl,e1⟩⟩:=x.keep b o e h
 ·exact y.keep b o e1 h1
 ·obtain ⟨h2,e2|⟨m2,sl2,e2⟩⟩:=y.keep b _ e1 h1
  ·exact ⟨h2,.inr ⟨m1,sl,e2⟩⟩
  ·exact ⟨h2,.inr ⟨m1,sl2,e2⟩⟩
theorem HR.there {C:Cx}{h:Heap}{a:Nat}{o:dJ}(x:HR C h a o):∃ ob,h.get? a=some ob∧(ob.cls=.type "list"∨ob.cls=.ref C.W∨ob.cls=.type "dict")∧(∀ vs,ob.data≠.fields vs)∧∀ v,ob.data≠.cell v:=by
 cases o with
 | list xs=>
  obtain ⟨items,n,h1,_⟩:=x
  refine ⟨_,h1,.inl rfl,fun J e=>?_,fun J e=>?_⟩<;>cases e
 | inst d=>refine ⟨_,x,.inr (.inl rfl),fun J e=>?_,fun J e=>?_⟩<;>cases e
 | flds es=>
  obtain ⟨des,n,h1,_⟩:=x
  refine ⟨_,h1,.inr (.inr rfl),fun J e=>?_,fun J e=>?_⟩<;>cases e
section
variable {C:Cx}{fs:List Env}{H H':MH}{s s':Shared}
theorem Inv.none_of (I:Inv C fs H s) {a:Nat}{o:Obj}(e:s.heap.get? a=some o) (h:¬(o.cls=.type "list"∨o.cls=.ref C.W∨o.cls=.type "dict")):H a=none:=by
 cases q:H a with
 | none=>rfl
 | some m=>
  obtain ⟨ob,e',hc,_⟩:=(I.hrel a m q).2.there
  rw [e] at e';cases e';exact absurd hc h
theorem Inv.none_of_fields (I:Inv C fs H s) {a:Nat}{o:Obj}{vs:Array Value}(e:s.heap.get? a=some o) (hd:o.data=.fields vs):H a=none:=by
 cases q:H a with
 | none=>rfl
 | some m=>
  obtain ⟨ob,e',_,hn,_⟩:=(I.hrel a m q).2.there
  rw [e] at e';cases e';exact absurd hd (hn vs)
theorem Inv.none_of_cell (I:Inv C fs H s) {a:Nat}{o:Obj}{v:Option Value}(e:s.heap.get? a=some o) (hd:o.data=.cell v):H a=none:=by
 cases q:H a with
 | none=>rfl
 | some m=>
  obtain ⟨ob,e',_,_,hn⟩:=(I.hrel a m q).2.there
  rw [e] at e';cases e';exact absurd hd (hn v)
theorem Inv.none_fresh (I:Inv C fs H s) {a:Nat}(e:s.heap.get? a=none):H a=none:=by
 cases q:H a with
 | none=>rfl
 | some m=>
  obtain ⟨ob,e',_⟩:=(I.hrel a m q).2.there
  rw [e] at e';cases e'
theorem Inv.none_size (I:Inv C fs H s):H s.heap.objs.size=none:=I.none_fresh (by
 cases q:s.heap.get? s.heap.objs.size with
 | none=>rfl
 | some o=>exact absurd (Heap.lt_size q) (Nat.lt_irrefl _))
theorem gU (I:Inv C fs H s):C.base.get? s.heap.objs.size=none:=I.stays.fresh
theorem aM.fields (S:aM fs H s H' s') (I:Inv C fs H s) {a:Nat}{o:Obj}{vs:Array Value}(e:s.heap.get? a=some o) (hd:o.data=.fields vs):s'.heap.get? a=some o∧H' a=none:=by
 obtain ⟨h1,e1|⟨m,_⟩⟩:=S.keep a o e (I.none_of_fields e hd)
 ·exact ⟨e1,h1⟩
 ·obtain ⟨_,o',e',hn⟩:=frames_mem I m
  rw [e] at e';cases e';exact absurd hd (hn vs)
where frames_mem {b:Nat} (I:Inv C fs H s) (hb:b∈bH fs):C.base.get? b=none∧∃ o,s.heap.get? b=some o∧∀ vs,o.data≠.fields vs:=I.frames.mem hb
theorem aM.upto (S:aM fs H s H' s') {a:Nat}{o:Obj}(e:s.heap.get? a=some o) (hn:H a=none):∃ sl,s'.heap.get? a=some { o with slots:=sl }:=by
 obtain ⟨_,e1|⟨_,sl,e1⟩⟩:=S.keep a o e hn
 ·exact ⟨o.slots,e1⟩
 ·exact ⟨sl,e1⟩
theorem aM.tup (S:aM fs H s H' s') (I:Inv C fs H s) {a:Nat}{items:Array Value}(x:IsTup s.heap a items):IsTup s'.heap a items:=by
 obtain ⟨o,e,hc,n,hd⟩:=x
 obtain ⟨sl,e'⟩:=S.upto e (I.none_of e (by rw [hc];simp))
 exact ⟨_,e',hc,n,hd⟩
theorem aM.range (S:aM fs H s H' s') (I:Inv C fs H s) {a:Nat}{x y z:Int}{t u w:Tok}(h:IsRange s.heap a x y z t u w):IsRange s'.heap a x y z t u w:=(S.fields I h rfl).1
theorem aM.cell (S:aM fs H s H' s') (I:Inv C fs H s) {a:Nat}{v:Option Value}(x:s.heap.IsCell a v):s'.heap.IsCell a v:=by
 obtain ⟨o,e,hd⟩:=x
 obtain ⟨sl,e'⟩:=S.upto e (I.none_of_cell e hd)
 exact ⟨_,e',hd⟩
theorem aM.ns (S:aM fs H s H' s') {a:Nat}{m:Str→Option Value}(x:s.heap.Ns a m) (hn:H a=none):s'.heap.Ns a m∧H' a=none:=by
 obtain ⟨o,es,ep,e,hd,r⟩:=x
 obtain ⟨sl,e'⟩:=S.upto e hn
 exact ⟨⟨_,es,ep,e',hd,r⟩,(S.keep a o e hn).1⟩
noncomputable def VRt (C:Cx) (h h':Heap) (p:PV):Prop:=∀ {v:Value},VR C h p v→VR C h' p v
noncomputable def VRst (C:Cx) (h h':Heap) (ps:List PV):Prop:=∀ {vs:List Value},VRs C h ps vs→VRs C h' ps vs
theorem VR.of_cons {h h':Heap}{x:PV}{r:List PV}(i:VRt C h h' x) (j:VRst C h h' r):VRst C h h' (x::r):=fun z=>X23 z fun v r e h hs=>⟨v,r,e,i h,j hs⟩
theorem VR.of0 {h h':Heap}(kt:∀ a items,IsTup h a items→IsTup h' a items) (kr:∀ a x y z t u w,IsRange h a x y z t u w→IsRange h' a x y z t u w) (p:PV):VRt C h h' p:=
 PV.rec (motive_1:=VRt C h h') (motive_2:=VRst C h h') (fun h=>h) (fun h=>h) (fun J J h=>h) (fun J J h=>h) (fun J J h=>h) (fun J i J z=>X23 z fun a items e t r=>⟨a,items,e,kt _ _ t,i r⟩) (fun J J h=>h) (fun J J h=>h) (fun J J h=>h)
  (fun J i J z=>X23 z fun a items e t r=>⟨a,items,e,t,i r⟩) (fun J J z=>X42 z fun a t u w e r=>⟨a,t,u,w,e,kr _ _ _ _ _ _ _ r⟩) (fun h=>h) (fun J J i j=>VR.of_cons i j) p
theorem VR.of {h h':Heap}(kt:∀ a items,IsTup h a items→IsTup h' a items) (kr:∀ a x y z t u w,IsRange h a x y z t u w→IsRange h' a x y z t u w) {p:PV}{v:Value}:VR C h p v→VR C h' p v:=VR.of0 kt kr p
theorem VRs.of {h h':Heap}(kt:∀ a items,IsTup h a items→IsTup h' a items) (kr:∀ a x y z t u w,IsRange h a x y z t u w→IsRange h' a x y z t u w) {ps:List PV}{vs:List Value}:VRs C h ps vs→VRs C h' ps vs:=by
 induction ps generalizing vs with
 | nil=>exact id
 | cons x r ih=>exact VR.of_cons (VR.of0 kt kr x) ih
theorem VR.step (S:aM fs H s H' s') (I:Inv C fs H s):∀ {p:PV}{v:Value},VR C s.heap p v→VR C s'.heap p v:=VR.of (fun J J t=>S.tup I t) (fun J J J J J J J r=>S.range I r)
theorem VRs.step (S:aM fs H s H' s') (I:Inv C fs H s):∀ {ps:List PV}{vs:List Value},VRs C s.heap ps vs→VRs C s'.heap ps vs:=VRs.of (fun J J t=>S.tup I t) (fun J J J J J J J r=>S.range I r)
theorem VR.stays {h h':Heap}(k:h.StaysIn h'):∀ {p:PV}{v:Value},VR C h p v→VR C h' p v:=VR.of (fun J J t=>t.elim fun o z=>⟨o,k _ _ z.1,z.2⟩) (fun J J J J J J J r=>k _ _ r)
theorem VRs.stays {h h':Heap}(k:h.StaysIn h'):∀ {ps:List PV}{vs:List Value},VRs C h ps vs→VRs C h' ps vs:=VRs.of (fun J J t=>t.elim fun o z=>⟨o,k _ _ z.1,z.2⟩) (fun J J J J J J J r=>k _ _ r)
theorem VRs.length {h:Heap}:∀ {ps:List PV}{vs:List Value},VRs C h ps vs→vs.length=ps.length
 | [],_,h=>by rw [h];rfl
 | _::_,_,⟨v,r,e,_,hs⟩=>by rw [e,List.length_cons,List.length_cons,VRs.length hs]
theorem VRs.get {h:Heap}:∀ {ps:List PV}{vs:List Value}{i:Nat}{p:PV},VRs C h ps vs→ps[i]?=some p→∃ v,vs[i]?=some v∧VR C h p v:=by
 intro ps
 induction ps with
 | nil=>exact fun J hp=>nomatch hp
 | cons x ps ih=>
  intro vs i p z hp
  obtain ⟨v,r,rfl,hv,hs⟩:=z
  cases i with
  | zero=>cases hp;exact ⟨v,rfl,hv⟩
  | succ i=>exact (show ∃ w,r[i]?=some w∧VR C h p w from ih hs hp)
theorem VRs.append {h:Heap}:∀ {ps qs:List PV}{vs ws:List Value},VRs C h ps vs→VRs C h qs ws→VRs C h (ps++qs) (vs++ws):=by
 intro x0
 induction x0 with
 | nil=>
  intro J J J h k
  rw [h];exact k
 | cons x8 x9 ih=>
  intro J J J z3 k
  obtain ⟨v,r,e,h,hs⟩:=z3
  exact ⟨v,r++_,by rw [e];rfl,h,ih hs k⟩
theorem VRs.take {h:Heap}:∀ {ps:List PV}{vs:List Value}(n:Nat),VRs C h ps vs→VRs C h (ps.take n) (vs.take n):=by
 intro ps
 induction ps with
 | nil=>intro vs n h;rw [h];simp only [List.take_nil];exact rfl
 | cons x ps ih=>
  intro vs n z
  cases n with
  | zero=>rfl
  | succ n=>
   obtain ⟨v,r,rfl,h,hs⟩:=z
   exact ⟨v,r.take n,rfl,h,ih n hs⟩
theorem VRs.drop {h:Heap}:∀ {ps:List PV}{vs:List Value}(n:Nat),VRs C h ps vs→VRs C h (ps.drop n) (vs.drop n):=by
 intro ps
 induction ps with
 | nil=>intro vs n h;rw [h];simp only [List.drop_nil];exact rfl
 | cons x ps ih=>
  intro vs n z
  cases n with
  | zero=>exact z
  | succ n=>
   obtain ⟨v,r,rfl,h,hs⟩:=z
   exact ih n hs
theorem VRs.reverse {h:Heap}:∀ {ps:List PV}{vs:List Value},VRs C h ps vs→VRs C h ps.reverse vs.reverse
 | [],_,h=>by rw [h];exact rfl
 | _::_,_,⟨v,r,e,h,hs⟩=>by
  rw [e,List.reverse_cons,List.reverse_cons]
  exact VRs.append (VRs.reverse hs) ⟨v,[],rfl,h,rfl⟩
theorem VRs.set {h:Heap}:∀ {ps:List PV}{vs:List Value}(i:Nat) {p:PV}{v:Value},VRs C h ps vs→VR C h p v→VRs C h (ps.set i p) (vs.set i v):=by
 intro ps
 induction ps with
 | nil=>intro vs i J J h J;rw [h];exact rfl
 | cons x ps ih=>
  intro vs i p w z k
  obtain ⟨v,r,rfl,h,hs⟩:=z
  cases i with
  | zero=>exact ⟨_,r,rfl,k,hs⟩
  | succ i=>exact ⟨v,r.set i _,rfl,h,ih i hs k⟩
theorem VRs.dropLast {h:Heap}{ps:List PV}{vs:List Value}(x:VRs C h ps vs):VRs C h ps.dropLast vs.dropLast:=by
 rw [List.dropLast_eq_take,List.dropLast_eq_take,x.length];exact x.take _
end
noncomputable def OkE (C:Cx) (fs:List Env) (H:MH) (s:Shared) (Q:QV) (v:Value) (s':Shared):Prop:=
 ∃ H' p,aM fs H s H' s'∧Inv C fs H' s'∧VR C s'.heap p v∧Q p H'
noncomputable def uK (C:Cx) (H:MH) (s₀:Shared) (e:Nat) (s:Shared):Prop:=
 ∃ oe vs,s.heap.get? e=some oe∧oe.cls=.ref C.G∧oe.data=.fields vs∧s₀.heap.get? e=none ∧
  ((vs[1]?=some .none)∨∃ T oT ts,vs[1]?=some (.ref T)∧T≠e∧s.heap.get? T=some oT∧oT.data=.fields ts∧3<ts.size∧s₀.heap.get? T=none∧oT.cls=.type "traceback")
noncomputable def OkX (C:Cx) (fs:List Env) (H:MH) (s:Shared) (E:MH→Prop) (v:Value) (s':Shared):Prop:=
 ∃ H' e,v=.ref e∧aM fs H s H' s'∧Inv C fs H' s'∧uK C H' s e s'∧E H'
theorem bY {C:Cx}{fs:List Env}{H H':MH}{s s':Shared}(S:aM fs H s H' s') (I':Inv C fs H' s') {b:Nat}(e:s'.heap.get? b=none):s.heap.get? b=none:=by
 cases q:s.heap.get? b with
 | none=>rfl
 | some o=>
  cases h:H b with
  | none=>
   obtain ⟨sl,e'⟩:=S.upto q h
   rw [e] at e';cases e'
  | some m=>
   have h':=S.mono b (by rw [h];exact fun q=>nomatch q)
   cases h'':H' b with
   | none=>exact absurd h'' h'
   | some m'=>
    obtain ⟨ob,e',_⟩:=(I'.hrel b m' h'').2.there
    rw [e] at e';cases e'
theorem uK.back {C:Cx}{fs:List Env}{H H₁ H₂:MH}{s s₁ s₂:Shared}{e:Nat}(S:aM fs H s H₁ s₁) (I₁:Inv C fs H₁ s₁) (x:uK C H₂ s₁ e s₂):uK C H₂ s e s₂:=by
 obtain ⟨oe,vs,h1,h2,h3,h4,h5⟩:=x
 refine ⟨oe,vs,h1,h2,h3,bY S I₁ h4,h5.imp id ?_⟩
 rintro ⟨T,oT,ts,a,b,c,d,f,g,k⟩
 exact ⟨T,oT,ts,a,b,c,d,f,bY S I₁ g,k⟩
theorem OkE.after {C:Cx}{fs:List Env}{H H₁:MH}{s s₁ s₂:Shared}{Q:QV}{v:Value}(S:aM fs H s H₁ s₁) (x:OkE C fs H₁ s₁ Q v s₂):OkE C fs H s Q v s₂:=
 X22 x fun H' p a b=>⟨H',p,S.trans a,b⟩
theorem OkX.after {C:Cx}{fs:List Env}{H H₁:MH}{s s₁ s₂:Shared}{E:MH→Prop}{v:Value}(S:aM fs H s H₁ s₁) (I₁:Inv C fs H₁ s₁) (x:OkX C fs H₁ s₁ E v s₂):OkX C fs H s E v s₂:=
 X25 x fun H' e a b c d f=>⟨H',e,a,S.trans b,c,d.back S I₁,f⟩
end Mine.Internal
end
noncomputable section
namespace Mine.Internal
section
variable {C:Cx}{fs:List Env}{H H':MH}{s s':Shared}
theorem aK {h':Heap}{tk:Tok}(k:∀ b o,s.heap.get? b=some o→h'.get? b=some o):aM fs H s H { s with heap:=h',toks:=tk }:=
 ⟨fun b o e h=>⟨h,.inl (k b o e)⟩,fun J e=>e⟩
mutual
theorem VR.keeps {h h':Heap}(k:∀ b o,h.get? b=some o→h'.get? b=some o):∀ {p:PV}{v:Value},VR C h p v→VR C h' p v:=VR.stays k
theorem VRs.keeps {h h':Heap}(k:∀ b o,h.get? b=some o→h'.get? b=some o):∀ {p:List PV}{v:List Value},VRs C h p v→VRs C h' p v:=VRs.stays k
end
theorem jY.mono {h h':Heap}(f:∀ p v,VR C h p v→VR C h' p v):∀ {es:List (Nat×PV)}{l:List DictEntry},jY C h es l→jY C h' es l:=by
 intro x0
 induction x0 with
 | nil=>
  intro J e
  exact e
 | cons x8 x9 ih=>
  intro J z1
  obtain ⟨_,_⟩:=x8
  refine X24 z1 fun e l' a b c d=>?_
  exact I24 e l' a b (f _ _ c) (ih d)
theorem HR.mono {h h':Heap}{a:Nat}{o:dJ}(f:∀ p v,VR C h p v→VR C h' p v) (g:∀ ps vs,VRs C h ps vs→VRs C h' ps vs) (k:∀ ob,h.get? a=some ob→h'.get? a=some ob) (x:HR C h a o):HR C h' a o:=by
 cases o with
 | list xs=>obtain ⟨items,n,h1,h2⟩:=x;exact I22 items n (k _ h1) (g _ _ h2)
 | inst d=>exact k _ x
 | flds es=>obtain ⟨des,n,h1,h2⟩:=x;exact I22 des n (k _ h1) (h2.mono f)
theorem aN (I:Inv C fs H s) {h':Heap}{tk:Tok}(k:∀ b o,s.heap.get? b=some o→h'.get? b=some o):Inv C fs H { s with heap:=h',toks:=tk }:=
 ⟨fun b o e=>k b o (I.stays b o e),I.frames.of_keeps fun b o e J=>⟨o,k b o e,rfl⟩,fun a o e=>⟨(I.hrel a o e).1,(I.hrel a o e).2.mono (fun J J=>VR.keeps k) (fun J J=>VRs.keeps k) (fun J e=>k _ _ e)⟩,I.gens,I.os⟩
theorem OkE.tok {Q:QV}{p:PV}{v:Value}{tk:Tok}(I:Inv C fs H s) (hv:VR C s.heap p v) (q:Q p H):OkE C fs H s Q v { s with toks:=tk }:=
 (I24 H p (aK (h':=s.heap) fun J J e=>e) (aN (h':=s.heap) I fun J J e=>e) hv q)
theorem OkE.here {Q:QV}{p:PV}{v:Value}(I:Inv C fs H s) (hv:VR C s.heap p v) (q:Q p H):OkE C fs H s Q v s:=OkE.tok (tk:=s.toks) I hv q
theorem VR.mkNone {h:Heap}:VR C h .none .none:=rfl
theorem VR.mkBool {h:Heap}{b:Bool}:VR C h (.bool b) (.bool b):=rfl
theorem VR.mkRng {h:Heap}{n:Int}{a:Addr}{t u w:Tok}(r:IsRange h a 0 n 1 t u w):VR C h (.rng n) (.ref a):=I42 a t u w rfl r
theorem VR.mkInt {h:Heap}(i:Int) (t:Tok):VR C h (.int i) (.int i t):=⟨t,rfl⟩
theorem VR.mkStr {h:Heap}(l:List Nat) (t:Tok):VR C h (.str l) (.str ⟨l.toArray⟩ t):=⟨t,rfl⟩
theorem VR.mkTup {h:Heap}{xs:List PV}{a:Addr}{items:Array Value}(ht:IsTup h a items) (hx:VRs C h xs items.toList):VR C h (.tup xs) (.ref a):=I23 a items rfl ht hx
theorem VRs.nil_of {h:Heap}{xs:List PV}{vs:List Value}(x:VRs C h xs vs) (e:vs=[]):xs=[]:=by
 cases xs with
 | nil=>rfl
 | cons a r=>obtain ⟨_,_,q,_⟩:=x;rw [e] at q;cases q
theorem aP (h:Heap) (o:Obj):∀ b ob,h.get? b=some ob→(h.push o).get? b=some ob:=fun J J e=>Heap.get?_push_of_some o e
theorem OkE.newTup {Q:QV}{ps:List PV}{items:Array Value}{n:Nat}{sl:Array (Option Value)}{dd:Option Addr}{tk:Tok}(I:Inv C fs H s) (hv:VRs C s.heap ps items.toList) (q:Q (.tup ps) H) :
  OkE C fs H s Q (.ref s.heap.objs.size) { s with heap:=s.heap.push ⟨.type "tuple",dd,.seq items n,sl⟩,toks:=tk }:=
 (I24 H (.tup ps) (aK (aP _ _)) (aN I (aP _ _)) (I23 _ items rfl ⟨_,Heap.get?_push_size _ rfl,rfl,n,rfl⟩ (VRs.keeps (aP _ _) hv)) q)
theorem jE (I:Inv C fs H s) {o:Obj}{m:dJ}{tk:Tok}:aM fs H s (H.set s.heap.objs.size m) { s with heap:=s.heap.push o,toks:=tk }:=by
 refine ⟨fun b ob e h=>⟨?_,.inl (aP _ _ _ _ e)⟩,fun b hb=>?_⟩
 ·unfold MH.set;rw [if_neg (Nat.ne_of_lt (Heap.lt_size e))];exact h
 ·unfold MH.set;split
  ·exact fun q=>nomatch q
  ·exact hb
theorem kH (I:Inv C fs H s) {o:Obj}{m:dJ}{tk:Tok}(hm:HR C (s.heap.push o) s.heap.objs.size m):Inv C fs (H.set s.heap.objs.size m) { s with heap:=s.heap.push o,toks:=tk }:=by
 have I':=aN (tk:=tk) I (aP s.heap o)
 refine ⟨I'.stays,I'.frames,fun a ob e=>?_,I'.gens,I'.os⟩
 unfold MH.set at e
 split at e
 ·rename_i q;subst q;cases e;exact ⟨I.stays.fresh,hm⟩
 ·exact I'.hrel a ob e
theorem OkE.newList {Q:QV}{ps:List PV}{items:Array Value}{n:Nat}{tk:Tok}(I:Inv C fs H s) (hv:VRs C s.heap ps items.toList) (q:gF ps H Q) :
  OkE C fs H s Q (.ref s.heap.objs.size) { s with heap:=s.heap.push ⟨.type "list",none,.seq items n,#[]⟩,toks:=tk }:=
 (I24 _ (.lst s.heap.objs.size) (jE I) (kH (m:=.list ps) I (I22 items n (Heap.get?_push_size _ rfl) (VRs.keeps (aP _ _) hv))) rfl (q _ I.none_size))
set_option tactic.hygienic true in
theorem jB (I:Inv C fs H s) {p:PV}{v:Value}{xs:List PV}(hv:VR C s.heap p v) (e:fT H p=some xs) :
  ∃ a items,v=.ref a∧VRs C s.heap xs items.toList∧((∃ ys,p=.tup ys)∧IsTup s.heap a items∨(∀ ys,p≠.tup ys)∧s.heap.IsList a items):=by
 cases p with
 | tup ys=>cases e;obtain ⟨a,items,h1,h2,h3⟩:=hv;exact I23 a items h1 h3 (.inl ⟨⟨_,rfl⟩,h2⟩)
 | clst ys=>
  cases e;obtain ⟨a,items,h1,⟨o,h2,h2'⟩,h3⟩:=hv
  exact I23 a items h1 h3 (.inr ⟨fun _ q=>(by contradiction),(I12 o (I.stays _ _ h2) h2')⟩)
 | lst a=>
  simp only [fT] at e
  split at e
  ·rename_i xs' ha
   refine hC fun hG=>?_
   cases e<;>(refine hG ?_;clear hG)
   refine X22 ((I.hrel a _ ha).2) fun items n h1 h2=>?_
   exact I23 a items hv h2 (.inr ⟨fun _ q=>(by contradiction),⟨_,h1,rfl,n,rfl⟩⟩)
  ·refine hC fun hG=>?_
   cases e<;>(refine hG ?_;clear hG)
 | _=>cases e
theorem cA (I:Inv C fs H s) {a:Nat}{xs:List PV}(e:H a=some (.list xs)):∃ items n,s.heap.get? a=some ⟨.type "list",none,.seq items n,#[]⟩∧VRs C s.heap xs items.toList:=(I.hrel a _ e).2
end
section
variable {C:Cx}{fs:List Env}{H H':MH}{s s':Shared}{A:Around}{X:Value→Shared→Prop}{Q:QV}
theorem Cm {M:Model}{l b:Addr}{xs ys:Array Value}(hl:s.heap.IsList l xs) (hb:s.heap.IsList b ys) (hsz:xs.size+ys.size≤sizeLine) {R:Value→Shared→Prop}
  (h:R (.ref s.heap.objs.size) { s with heap:=s.heap.push { cls:=.type "list",data:=.seq (xs++ys) } }) :
  wpAny (model C.prog C.w) A (binaryOp .Add (.ref l) (.ref b)) R X s:=by
 refine hC fun hG=>?_
 obtain ⟨⟨cls,dd,data,sl⟩,ho,hc,n,hd⟩:=id hl<;>(refine hG ?_;clear hG)
 refine hC fun hG=>?_
 obtain ⟨⟨cls2,dd2,data2,sl2⟩,ho2,hc2,n2,hd2⟩:=id hb<;>(refine hG ?_;clear hG)
 simp only at hc hd hc2 hd2
 subst hc hd hc2 hd2
 exact concat_meets (I12 _ ho rfl) (I12 _ ho2 rfl) noFill_list_add seq_list_add PySem.F.slot_list_add PySem.F.entry_list_add (PySem.F.args_list_add_2 _ _) (list_addW l b xs ys n n2 dd dd2 sl sl2 hsz) (I03 ho ho2 h)
theorem zS {t b:Addr}{xs ys:Array Value}(ht:IsTup s.heap t xs) (hb:IsTup s.heap b ys) (hsz:xs.size+ys.size≤sizeLine) {R:Value→Shared→Prop}
  (h0:xs.isEmpty=true→R (.ref b) s) (h1:ys.isEmpty=true→R (.ref t) s)
  (h:R (.ref s.heap.objs.size) { s with heap:=s.heap.push { cls:=.type "tuple",data:=.seq (xs++ys) } }) :
  wpAny (model C.prog C.w) A (binaryOp .Add (.ref t) (.ref b)) R X s:=by
 refine hC fun hG=>?_
 obtain ⟨⟨cls,dd,data,sl⟩,ho,hc,n,hd⟩:=id ht<;>(refine hG ?_;clear hG)
 refine hC fun hG=>?_
 obtain ⟨⟨cls2,dd2,data2,sl2⟩,ho2,hc2,n2,hd2⟩:=id hb<;>(refine hG ?_;clear hG)
 simp only at hc hd hc2 hd2
 subst hc hd hc2 hd2
 by_cases hv:xs.isEmpty=true
 ·exact concat_meets (I12 _ ho rfl) (I12 _ ho2 rfl) noFill_tuple_add seq_tuple_add PySem.F.slot_tuple_add PySem.F.entry_tuple_add (PySem.F.args_tuple_add_2 _ _)
   (tuple_addW0 t b xs ys n n2 dd dd2 sl sl2 hv) (I03 ho ho2 (h0 hv))
 ·by_cases hw:ys.isEmpty=true
  ·exact concat_meets ⟨_,ho,rfl⟩ ⟨_,ho2,rfl⟩ noFill_tuple_add seq_tuple_add PySem.F.slot_tuple_add PySem.F.entry_tuple_add (PySem.F.args_tuple_add_2 _ _)
    (tuple_addW1 t b xs ys n n2 dd dd2 sl sl2 hv hw) (I03 ho ho2 (h1 hw))
  ·exact concat_meets ⟨_,ho,rfl⟩ ⟨_,ho2,rfl⟩ noFill_tuple_add seq_tuple_add PySem.F.slot_tuple_add PySem.F.entry_tuple_add (PySem.F.args_tuple_add_2 _ _)
    (tuple_addW2 t b xs ys n n2 dd dd2 sl sl2 hv hw hsz) (I03 ho ho2 h)
theorem Fz {l:Addr}{items:Array Value}{k:Nat}{x:Int}{u:Tok}(hl:s.heap.get? l=some { cls:=.type "list",dict:=none,data:=.seq items k,slots:=#[] })
  (hlo:0≤x) (hhi:x≤1) (hsz:items.size≤16000000) {R:Value→Shared→Prop}
  (h:R (.ref s.heap.objs.size) { s with heap:=s.heap.push { cls:=.type "list",data:=.seq (List.foldl (fun x1 x2=>x1++x2) #[] (List.replicate (if items.isEmpty=true then 0 else x.toNat) items)) } }) :
  wpAny (model C.prog C.w) A (binaryOp .Mult (.ref l) (.int x u)) R X s:=by
 have hz:items.size*x.toNat≤2 ^ 24:=by
  have:x.toNat≤1:=by exact ar492 hhi
  have:=Nat.mul_le_mul_left items.size this
  exact ar493 hsz this
 exact wpAny_binaryOp_repeat_ref (T:="list") (U:="int") (rfl) ⟨_,hl,rfl⟩ (fun s'=>typeIs_int s' x u) noFill_list_mul F.fills_int_mul F.slot_int_rmul repeat_list F.slot_int_index.lookup
  (call_meets F.slot_int_rmul (typeIs_int s x u) F.entry_int_rmul (F.args_int_rmul_2 _ _) (int___rmul___int_list x u l items k)
   ⟨hl,rfl,⟨_,hl,rfl⟩,call_meets F.slot_list_mul ⟨_,hl,rfl⟩ F.entry_list_mul (F.args_list_mul_2 _ _)
    (AutoListH.list___mul___list_int_3 l items k x u (by simp [Builtin.List.listFitsIndex];exact ar7 hlo hhi) (by exact ar494 hz) (by simp [Builtin.List.listTooLong,sizeLine];exact hz))
    ⟨hl,h⟩⟩)
noncomputable def opOf:BOp→Operator
 | .add=>.Add | .sub=>.Sub | .mul=>.Mult | .fdiv=>.FloorDiv | .mod=>.Mod
theorem str_cat (a b:List Nat):(⟨a.toArray⟩:Str)++⟨b.toArray⟩=⟨(a++b).toArray⟩:=by
 show Str.mk (a.toArray++b.toArray)=_
 simp
theorem cat_ok {p q:PV}{v w:Value}(I:Inv C fs H s) (hv:VR C s.heap p v) (hw:VR C s.heap q w) (hnt:∀ ys,p≠.tup ys) (h:catQ p q H Q) :
  wpAny (model C.prog C.w) A (binaryOp .Add v w) (OkE C fs H s Q) X s:=by
 refine hC fun hG=>?_
 obtain ⟨b',ys,rfl,hys,h⟩:=iD h<;>(refine hG ?_;clear hG)
 refine hC fun hG=>?_
 obtain rfl:w=.ref b':=hw
 refine X12 (bT h) fun xs hxs h=>?_
 obtain ⟨a,as,rfl,hx,hT⟩:=jB I hv hxs
 refine X22 (cA I hys) fun bs n ho hy=>?_
 refine hG ?_;clear hG
 have hA:s.heap.IsList a as:=by
  rcases hT with ⟨⟨ys,e⟩,_⟩|⟨_,h⟩
  ·exact absurd e (hnt ys)
  ·exact h
 have lx:=hx.length;have ly:=hy.length
 rw [Array.length_toList] at lx ly
 exact Cm (M:=model C.prog C.w) hA ⟨_,ho,rfl,n,rfl⟩ (by rw [lx,ly,sizeLine_eq];exact ar8 h.1) (OkE.newList I (by rw [Array.toList_append];exact hx.append hy) h.2)
theorem bin_ok {op:BOp}{p q:PV}{v w:Value}(I:Inv C fs H s) (hv:VR C s.heap p v) (hw:VR C s.heap q w) (h:dY op p q H Q) :
  wpAny (model C.prog C.w) A (binaryOp (opOf op) v w) (OkE C fs H s Q) X s:=by
 cases op with
 | add=>
  cases p with
  | int a=>
   obtain ⟨b,rfl,h⟩:=cG h
   obtain ⟨t,rfl⟩:=hv;obtain ⟨u,rfl⟩:=hw
   exact PyProof.Rows.add_int (OkE.tok I (VR.mkInt _ _) h)
  | str a=>
   obtain ⟨b,rfl,h⟩:=kY h
   obtain ⟨t,rfl⟩:=hv;obtain ⟨u,rfl⟩:=hw
   refine PyProof.Rows.add_str (fun t' tk=>?_) (by simp only [Str.length,List.size_toArray];have:=h.1;rw [sizeLine_eq];exact ar8 this)
   rw [str_cat]
   exact OkE.tok I (VR.mkStr _ _) h.2
  | tup l=>
   obtain ⟨m,rfl,h⟩:=Eb h
   obtain ⟨a,xs,rfl,ht,hx⟩:=hv;obtain ⟨b,ys,rfl,hb,hy⟩:=hw
   have lx:=hx.length;have ly:=hy.length
   have:=h.1
   refine zS ht hb (by rw [Array.length_toList] at lx ly;rw [lx,ly,sizeLine_eq];exact ar8 this) (fun e=>?_) (fun e=>?_) ?_
   ·have q:=hx.nil_of (by simpa using e)
    subst q
    exact OkE.here I (VR.mkTup hb hy) (by simpa using h.2)
   ·have q:=hy.nil_of (by simpa using e)
    subst q
    exact OkE.here I (VR.mkTup ht hx) (by simpa using h.2)
   ·exact OkE.newTup I (by rw [Array.toList_append];exact hx.append hy) h.2
  | lst _=>exact cat_ok I hv hw (fun J e=>nomatch e) h
  | clst _=>exact cat_ok I hv hw (fun J e=>nomatch e) h
  | _=>exact h.elim
 | sub=>
  obtain ⟨a,rfl,h⟩:=cG h
  obtain ⟨b,rfl,h⟩:=cG h
  obtain ⟨t,rfl⟩:=hv;obtain ⟨u,rfl⟩:=hw
  exact PyProof.Rows.sub_int (OkE.tok I (VR.mkInt _ _) h)
 | mul=>
  cases p with
  | int a=>
   obtain ⟨b,rfl,h⟩:=cG h
   obtain ⟨t,rfl⟩:=hv;obtain ⟨u,rfl⟩:=hw
   refine PyProof.Rows.mul_int (OkE.tok I (VR.mkInt _ _) h.2) (.of_left ?_)
   exact PySem.intBits_le_64 (by omega) (by omega)
  | lst a=>
   obtain ⟨xs,hxs,h⟩:=yK h
   obtain ⟨n,rfl,h⟩:=cG h
   obtain rfl:=hv;obtain ⟨u,rfl⟩:=hw
   obtain ⟨h0,h1,hl,hq⟩:=h
   obtain ⟨items,k,ho,hx⟩:=cA I hxs
   have lx:=hx.length
   replace lx:=(Array.length_toList)▸lx
   refine Fz ho h0 h1 (Nat.le_trans (Nat.le_of_eq lx) hl) (OkE.newList I ?_ hq)
   by_cases hn:n=0
   ·subst hn;simp only [Int.toNat_zero,ite_self,List.replicate_zero,List.foldl_nil,if_true];exact rfl
   ·have:n=1:=by exact ar10 h0 h1 hn
    subst this
    by_cases he:items.isEmpty=true
    ·have:items=#[]:=by simpa using he
     subst this
     simpa using hx
    ·simp only [he];simpa using hx
  | _=>exact h.elim
 | fdiv=>
  obtain ⟨a,rfl,h⟩:=cG h
  obtain ⟨b,rfl,h⟩:=cG h
  obtain ⟨t,rfl⟩:=hv;obtain ⟨u,rfl⟩:=hw
  refine PyProof.Rows.floordiv_int (by omega) (OkE.tok I (VR.mkInt _ _) ?_) (.inl (PyProof.noPylong_small (by omega)))
  rw [Int.fdiv_eq_ediv_of_nonneg _ (by omega)];exact h.2.2
 | mod=>
  obtain ⟨a,rfl,h⟩:=cG h
  obtain ⟨b,rfl,h⟩:=cG h
  obtain ⟨t,rfl⟩:=hv;obtain ⟨u,rfl⟩:=hw
  refine PyProof.Rows.mod_int (by omega) (OkE.tok I (VR.mkInt _ _) ?_)
  rw [Int.fmod_eq_emod_of_nonneg _ (by omega)];exact h.2
end
end Mine.Internal
end
noncomputable section
open PySem.SeqAt
namespace Mine.Internal
open Classical
theorem sK (n:Nat):(List.range n).all (fun J=>true)=true:=List.all_eq_true.mpr fun J J=>rfl
theorem vY {a b:List Nat}:((⟨a.toArray⟩:Str)==⟨b.toArray⟩)=decide (a=b):=by
 by_cases h:a=b
 ·subst h;simp
 ·simp [h]
section
variable {C:Cx}{A:Around}{s:Shared}
theorem yU {p q:PV}{v w:Value}(hp:∃ l,p=.str l) (hq:∃ l,q=.str l) (hv:VR C s.heap p v) (hw:VR C s.heap q w):EqAt A s v w (decide (p=q)):=by
 obtain ⟨l,rfl⟩:=hp;obtain ⟨m,rfl⟩:=hq
 obtain ⟨t,rfl⟩:=hv;obtain ⟨u,rfl⟩:=hw
 have:=EqAt.str_str (A:=A) (s:=s) ⟨l.toArray⟩ t ⟨m.toArray⟩ u
 rw [vY] at this
 have e:decide (PV.str l=PV.str m)=decide (l=m):=by simp
 rw [e];exact this
theorem VRs.at {h:Heap}{ps:List PV}{items:Array Value}(x:VRs C h ps items.toList) {j:Nat}(hj:j<items.size):∃ p,ps[j]?=some p∧VR C h p items[j]:=by
 have hl:=x.length
 rw [Array.length_toList] at hl
 refine X12 (x.get (i:=j) (p:=ps[j]'(by exact ar11 hj hl)) (by simp)) fun v hv r=>?_
 have:items[j]?=some v:=by rw [←Array.getElem?_toList];exact hv
 rw [Array.getElem?_eq_getElem hj] at this
 refine hC fun hG=>?_
 clear hv x
 cases this<;>(refine hG ?_;clear hG)
 exact I12 _ (by simp) r
theorem dZ.tup {n:Nat}{xs:List PV}(h:dZ (n+1) (.tup xs)):∀ x∈xs,dZ n x:=h
theorem yV {i:Int}{v w:Value}(hv:VR C s.heap (.int i) v) (hw:VR C s.heap (.int i) w):EqAt A s v w true:=by
 obtain ⟨t,rfl⟩:=hv;obtain ⟨u,rfl⟩:=hw
 have:=EqAt.int_int (A:=A) (s:=s) i t i u
 rw [beq_self_eq_true] at this;exact this
theorem yT {l:List Nat}{v w:Value}(hv:VR C s.heap (.str l) v) (hw:VR C s.heap (.str l) w):EqAt A s v w true:=by
 obtain ⟨t,rfl⟩:=hv;obtain ⟨u,rfl⟩:=hw
 have:=EqAt.str_str (A:=A) (s:=s) ⟨l.toArray⟩ t ⟨l.toArray⟩ u
 rw [beq_self_eq_true] at this;exact this
theorem Gm (n:Nat):∀ (A:Around) {p:PV}{v w:Value},dZ n p→A.units+n+2<cLine→VR C s.heap p v→VR C s.heap p w→EqAt A s v w true:=by
 induction n with
 | zero=>
  intro A p v w hf hu hv hw
  cases p with
  | none=>obtain rfl:=hv;obtain rfl:=hw;exact .same _
  | bool b=>obtain rfl:=hv;obtain rfl:=hw;exact .same _
  | int i=>exact yV hv hw
  | str l=>exact yT hv hw
  | _=>exact hf.elim
 | succ n ih=>
  intro A p v w hf hu hv hw
  cases p with
  | none=>obtain rfl:=hv;obtain rfl:=hw;exact .same _
  | bool b=>obtain rfl:=hv;obtain rfl:=hw;exact .same _
  | int i=>exact yV hv hw
  | str l=>exact yT hv hw
  | tup xs=>
   obtain ⟨a,as,rfl,ta,ra⟩:=hv;obtain ⟨b,bs,rfl,tb,rb⟩:=hw
   by_cases hab:a=b
   ·subst hab;exact .same _
   ·refine .of_refs hab ?_
    have la:=ra.length;have lb:=rb.length
    rw [Array.length_toList] at la lb
    have:=RcAt.tuples (A:=A) (s:=s) (e:=fun J=>true) ta tb (by exact ar12 hu) (fun j h1 h2=>?_)
    ·rw [la,lb] at this
     rw [sK] at this;simpa using this
    ·refine X12 (ra.at h1) fun p hp r1=>?_
     refine X12 (rb.at h2) fun q hq r2=>?_
     rw [hp] at hq;cases hq
     exact ih A.in1 (hf p (List.mem_of_getElem? hp)) (by simp only [Around.in1_units];exact ar13 hu) r1 r2
  | _=>exact hf.elim
theorem sL {xs ys:List PV}(h:xs.length=ys.length):(List.range xs.length).all (fun j=>decide (xs[j]?=ys[j]?))=decide (xs=ys):=by
 rw [Bool.eq_iff_iff,List.all_eq_true,decide_eq_true_eq]
 constructor
 ·intro k
  refine List.ext_getElem? fun j=>?_
  by_cases hj:j<xs.length
  ·exact of_decide_eq_true (k j (List.mem_range.mpr hj))
  ·rw [List.getElem?_eq_none (by exact ar14 hj),List.getElem?_eq_none (by exact ar15 h hj)]
 ·clear h
  rintro rfl j _;simp
end
section
variable {C:Cx}{fs:List Env}{H H':MH}{s s':Shared}{A:Around}{X:Value→Shared→Prop}
noncomputable def OkB (s:Shared) (R:Bool→Prop) (v:Value) (s':Shared):Prop:=∃ r,v=.bool r∧s'=s∧R r
theorem Dw {a b:Nat}(h:a≠b):(a != b)=true:=by simp [h]
theorem eq_tups {neg r:Bool}{xs ys:List PV}{v w:Value}{R:Bool→Prop}(hu:A.units+610<cLine) (hv:VR C s.heap (.tup xs) v) (hw:VR C s.heap (.tup ys) w) (e:r=(xs.length==ys.length)) (h0:ys.length=0) (h:R (r != neg)) :
  wpAny (model C.prog C.w) A (compareOp (if neg then .NotEq else .Eq) v w) (OkB s R) X s:=by
 obtain ⟨a,xs,rfl,ta,rx⟩:=hv;obtain ⟨b,ys,rfl,tb,ry⟩:=hw
 have la:=rx.length;have lb:=ry.length
 rw [Array.length_toList] at la lb
 rw [←la,←lb] at e
 subst e
 cases neg with
 | false=>
  refine eq_tupleAt (e:=fun J=>true) ta tb (by exact tD hu) (fun j h1 h2=>by exact (ar17 h0 lb h2).elim) (I13 _ rfl rfl (?_))
  rw [sK,Bool.true_and];simpa using h
 | true=>
  refine RcNeAt.tuples (e:=fun J=>true) ta tb (by exact tD hu) (fun j h1 h2=>by exact (ar17 h0 lb h2).elim) C.prog C.w X _ (I13 _ rfl rfl (?_))
  rw [sK,Bool.true_and];simpa using h
theorem Jb {neg:Bool}{b1 b2:Nat}{xs ys:List PV}{R:Bool→Prop}(hu:A.units+610<cLine) (I:Inv C fs H s) (hx:H b1=some (.list xs)) (hy:H b2=some (.list ys)) (h:eqLQ H xs ys fun r=>R (r != neg)) :
  wpAny (model C.prog C.w) A (compareOp (if neg then .NotEq else .Eq) (.ref b1) (.ref b2)) (OkB s R) X s:=by
 refine X22 (cA I hx) fun as n oa rx=>?_
 refine X22 (cA I hy) fun bs m ob ry=>?_
 have ta:s.heap.IsList _ as:=⟨_,oa,rfl,n,rfl⟩
 have tb:s.heap.IsList _ bs:=⟨_,ob,rfl,m,rfl⟩
 have la:=rx.length;have lb:=ry.length
 rw [Array.length_toList] at la lb
 clear ob m oa n hy hx I
 refine hC fun hG=>?_
 rcases h with ⟨hl,hr⟩|⟨sx,sy,hr⟩|⟨fl,e,hr⟩<;>(refine hG ?_;clear hG)
 ·have hne:(as.size != bs.size)=true:=Dw (by exact ar18 la lb hl)
  cases neg with
  | false=>exact eq_list_lengthsAt ta tb hne (by exact tD hu) (I13 _ rfl rfl (by simpa using hr))
  | true=>exact RcNeAt.lists_lengths ta tb hne (by exact tD hu) C.prog C.w X _ (I13 _ rfl rfl (by simpa using hr))
 ·by_cases hl:xs.length=ys.length
  ·have hsz:as.size=bs.size:=by exact ar19 la lb hl
   have key:∀ j (h1:j<as.size) (h2:j<bs.size),EqAt A.in1 s as[j] bs[j] (decide (xs[j]?=ys[j]?)):=fun j h1 h2=>by
    refine X12 (rx.at h1) fun p hp r1=>?_
    refine X12 (ry.at h2) fun q hq r2=>?_
    have:=yU (A:=A.in1) (sx p (List.mem_of_getElem? hp)) (sy q (List.mem_of_getElem? hq)) r1 r2
    rw [hp,hq]
    have e:decide (some p=some q)=decide (p=q):=by simp
    rw [e];exact this
   cases neg with
   | false=>exact eq_listAt (e:=fun j=>decide (xs[j]?=ys[j]?)) ta tb hsz (by exact tD hu) key (I13 _ rfl rfl (by rw [la,sL hl];simpa using hr))
   | true=>exact RcNeAt.lists (e:=fun j=>decide (xs[j]?=ys[j]?)) ta tb hsz (by exact tD hu) key C.prog C.w X _ (I13 _ rfl rfl (by rw [la,sL hl];simpa using hr))
  ·have hne:(as.size != bs.size)=true:=Dw (by exact ar20 la lb hl)
   have e:decide (xs=ys)=false:=decide_eq_false fun e=>hl (e▸rfl)
   rw [e] at hr
   cases neg with
   | false=>exact eq_list_lengthsAt ta tb hne (by exact tD hu) (I13 _ rfl rfl (by simpa using hr))
   | true=>exact RcNeAt.lists_lengths ta tb hne (by exact tD hu) C.prog C.w X _ (I13 _ rfl rfl (by simpa using hr))
 ·subst e
  have hsz:as.size=bs.size:=by exact lb▸la
  have key:∀ j (h1:j<as.size) (h2:j<bs.size),EqAt A.in1 s as[j] bs[j] true:=fun j h1 h2=>by
   refine X12 (rx.at h1) fun p hp r1=>?_
   refine X12 (ry.at h2) fun q hq r2=>?_
   rw [hp] at hq;cases hq
   exact Gm 600 A.in1 (fl p (List.mem_of_getElem? hp)) (by simp only [Around.in1_units];exact Nat.lt_of_le_of_lt (by simp +arith) hu) r1 r2
  cases neg with
  | false=>exact eq_listAt (e:=fun J=>true) ta tb hsz (by exact tD hu) key (I13 _ rfl rfl (by rw [sK];simpa using hr))
  | true=>exact RcNeAt.lists (e:=fun J=>true) ta tb hsz (by exact tD hu) key C.prog C.w X _ (I13 _ rfl rfl (by rw [sK];simpa using hr))
theorem eq_ok {neg:Bool}{p q:PV}{v w:Value}{R:Bool→Prop}(hu:A.units+610<cLine) (I:Inv C fs H s) (hv:VR C s.heap p v) (hw:VR C s.heap q w) (h:eqQ H p q fun r=>R (r != neg)) :
  wpAny (model C.prog C.w) A (compareOp (if neg then .NotEq else .Eq) v w) (OkB s R) X s:=by
 cases p with
 | str a=>
  refine hC fun hG=>?_
  obtain ⟨b,rfl,h⟩:=kY h<;>(refine hG ?_;clear hG)
  have h:R (decide (a=b) != neg):=h
  obtain ⟨t,rfl⟩:=hv;obtain ⟨u,rfl⟩:=hw
  cases neg with
  | false=>exact PyProof.Rows.eq_str (I13 _ rfl rfl (by rw [vY];simpa using h))
  | true=>exact PyProof.Rows.ne_str (I13 _ rfl rfl (by rw [bne,vY];simpa using h))
 | int a=>
  obtain ⟨b,rfl,h⟩:=cG h
  have h:R (decide (a=b) != neg):=h
  obtain ⟨t,rfl⟩:=hv;obtain ⟨u,rfl⟩:=hw
  have e:(a==b)=decide (a=b):=by by_cases q:a=b<;>simp [q]
  cases neg with
  | false=>exact PyProof.Rows.eq_int (I13 _ rfl rfl (by rw [e];simpa using h))
  | true=>exact PyProof.Rows.ne_int (I13 _ rfl rfl (by rw [bne,e];simpa using h))
 | tup l=>
  obtain ⟨m,rfl,h⟩:=Eb h
  obtain ⟨rfl,h⟩:=oO h
  exact eq_tups hu hv hw (by cases l<;>rfl) rfl h
 | lst a=>
  obtain ⟨b,ys,rfl,hy,h⟩:=iD h
  refine X12 (yK h) fun xs hx h=>?_
  obtain rfl:=hv;obtain rfl:=hw
  exact Jb hu I hx hy h
 | none=>
  refine hC fun hG=>?_
  obtain ⟨rfl,h⟩:=Ec h<;>(refine hG ?_;clear hG)
  have h:R (true != neg):=h
  obtain rfl:=hv;obtain rfl:=hw
  cases neg with
  | false=>exact RcAt.none_none C.prog C.w X _ (I13 _ rfl rfl (by simpa using h))
  | true=>exact RcNeAt.none_none C.prog C.w X _ (I13 _ rfl rfl (by simpa using h))
 | _=>exact h.elim
theorem any_mem {xs:List PV}{items:Array Value}{h:Heap}{c:List Nat}(r:VRs C h xs items.toList) (sx:eZ xs) (e:Value→Bool) (he:∀ (j:Nat) (hj:j<items.size) (l:List Nat),xs[j]?=some (.str l)→e items[j]=decide (l=c)) :
  items.any e=decide (PV.str c∈xs):=by
 have la:=r.length
 rw [Array.length_toList] at la
 rw [Bool.eq_iff_iff,Array.any_eq_true,decide_eq_true_eq]
 constructor
 ·rintro ⟨j,hj,q⟩
  refine X12 (r.at hj) fun p hp J=>?_
  obtain ⟨l,rfl⟩:=sx p (List.mem_of_getElem? hp)
  rw [he j hj l hp,decide_eq_true_eq] at q
  subst q
  exact List.mem_of_getElem? hp
 ·intro m
  refine X11 (List.getElem?_of_mem m) fun j hj=>?_
  have hjl:j<items.size:=by
   have:=(List.getElem?_eq_some_iff.mp hj).1
   exact ar23 la this
  exact ⟨j,hjl,by rw [he j hjl c hj];simp⟩
theorem in_seq0 {neg:Bool}{c:List Nat}{q:PV}{v w:Value}{R:Bool→Prop}(hu:A.units+610<cLine) (I:Inv C fs H s) (hv:VR C s.heap (.str c) v) (hw:VR C s.heap q w) (h:sqQ H q fun xs=>eZ xs∧R (decide (PV.str c∈xs) != neg)) :
  wpAny (model C.prog C.w) A (compareOp (if neg then .NotIn else .In) v w) (OkB s R) X s:=by
 obtain ⟨t,rfl⟩:=hv
 refine X13 (bT h) fun xs hxs sx hr=>?_
 obtain ⟨b,ys,rfl,ry,hT⟩:=jB I hw hxs
 have key:∀ y,y∈ys→EqAt A.in1 s y (.str ⟨c.toArray⟩ t) (match y with | .str l _=>decide (l.cps.toList=c)|_=>false):=fun y hy=>by
  refine hC fun hG=>?_
  obtain ⟨j,hj,rfl⟩:=Array.mem_iff_getElem.mp hy
  refine X12 (ry.at hj) fun p hp r=>?_
  obtain ⟨l,rfl⟩:=sx p (List.mem_of_getElem? hp)
  have:=yU (A:=A.in1) ⟨l,rfl⟩ ⟨c,rfl⟩ r (VR.mkStr (C:=C) (h:=s.heap) c t)
  refine X11 r fun u hu=>?_
  refine hG ?_;clear hG
  rw [hu] at this ⊢
  simpa using this
 have hany:ys.any (fun y=>match y with | .str l _=>decide (l.cps.toList=c)|_=>false)=decide (PV.str c∈xs):=any_mem ry sx _ fun j hj l hl=>by
  refine X12 (ry.at hj) fun p hp r=>?_
  rw [hl] at hp;cases hp
  obtain ⟨u,hu⟩:=r
  rw [hu]
 refine Or.elim hT ?_ ?_
 ·rintro ⟨_,tb⟩
  cases neg with
  | false=>exact in_tupleAt _ tb key ⟨_,rfl,rfl,by rw [hany];simpa using hr⟩
  | true=>exact notIn_tupleAt _ tb key ⟨_,rfl,rfl,by rw [hany];simpa using hr⟩
 ·rintro ⟨_,tb⟩
  cases neg with
  | false=>exact in_listAt _ tb key ⟨_,rfl,rfl,by rw [hany];simpa using hr⟩
  | true=>exact notIn_listAt _ tb key ⟨_,rfl,rfl,by rw [hany];simpa using hr⟩
theorem in_ok {neg:Bool}{p q:PV}{v w:Value}{R:Bool→Prop}(hu:A.units+610<cLine) (I:Inv C fs H s) (hv:VR C s.heap p v) (hw:VR C s.heap q w) (h:inQ H p q fun r=>R (r != neg)) :
  wpAny (model C.prog C.w) A (compareOp (if neg then .NotIn else .In) v w) (OkB s R) X s:=by
 cases p with
 | str c=>
  cases q with
  | str t'=>
   refine hC fun hG=>?_
   obtain ⟨x,rfl,h⟩:=fG h<;>(refine hG ?_;clear hG)
   have h:R (decide (x∈t') != neg):=h
   obtain ⟨t,rfl⟩:=hv;obtain ⟨u,rfl⟩:=hw
   cases neg with
   | false=>exact PyProof.Rows.in_str ⟨_,rfl,rfl,by
     have:=StrLaws.found_one ⟨t'.toArray⟩ x
     rw [this];simpa using h⟩
   | true=>exact PyProof.Rows.notIn_str ⟨_,rfl,rfl,by
     have:=StrLaws.found_one ⟨t'.toArray⟩ x
     rw [this];simpa using h⟩
  | _=>exact in_seq0 hu I hv hw h
 | none=>
  refine hC fun hG=>?_
  obtain ⟨l,rfl,h⟩:=Eb h
  obtain ⟨x,y,rfl,h⟩:=uR h
  obtain ⟨rfl,h⟩:=Ec h
  obtain ⟨z,rfl,h⟩:=kY h
  have h:R (true != neg):=h
  obtain rfl:=hv;obtain ⟨b,ys,rfl,tb,ry⟩:=hw
  obtain ⟨v0,r0,e0,hv0,v1,r1,e1,⟨t1,hv1⟩,e2⟩:=ry
  obtain rfl:=hv0
  subst hv1 e2 e1
  refine hG ?_;clear hG
  have key:∀ y,y∈ys→EqAt A.in1 s y .none (y==.none):=fun y hy=>by
   have:y∈ys.toList:=Array.mem_toList_iff.mpr hy
   rw [e0] at this
   clear hy I hu in_ok
   rcases List.mem_cons.mp this with rfl|m
   ·exact .same _
   ·refine Or.elim (List.mem_cons.mp m) ?_ ?_
    ·intro rfl
     exact EqAt.str_none _ _
    ·intro m
     refine hC fun hG=>?_
     cases m<;>(refine hG ?_;clear hG)
  have hany:ys.any (fun y=>y==.none)=true:=by
   rw [←Array.any_toList,e0];rfl
  cases neg with
  | false=>exact in_tupleAt (fun y=>y==.none) tb key (I13 _ rfl rfl (by rw [hany];simpa using h))
  | true=>exact notIn_tupleAt (fun y=>y==.none) tb key (I13 _ rfl rfl (by rw [hany];simpa using h))
 | _=>exact h.elim
theorem VR.ne_none {h:Heap}{p:PV}{v:Value}(r:VR C h p v) (hn:p≠.none):v≠.none:=by
 rintro rfl
 cases p with
 | none=>exact hn rfl
 | undef=>exact r
 | bool _=>cases r
 | int _=>obtain ⟨_,e⟩:=r;cases e
 | str _=>obtain ⟨_,e⟩:=r;cases e
 | tup _=>obtain ⟨_,_,e,_⟩:=r;cases e
 | lst _=>cases r
 | obj _=>cases r
 | fn _=>cases r
 | clst _=>obtain ⟨_,_,e,_⟩:=r;cases e
 | rng _=>obtain ⟨_,_,_,_,e,_⟩:=r;cases e
noncomputable def copOf:COp→CmpOp
 | .lt=>.Lt | .le=>.LtE | .gt=>.Gt | .ge=>.GtE | .eq=>.Eq | .ne=>.NotEq | .is_=>.Is | .isn=>.IsNot | .in_=>.In | .nin=>.NotIn
theorem isNQ_i {p:PV}{Q:Bool→Prop}(h:isNQ p Q):(p=.none∧Q true)∨(p≠.none∧Q false):=by
 cases p<;>first|exact .inl ⟨rfl,h⟩|exact .inr ⟨(fun e=>nomatch e),h⟩|exact h.elim
theorem cmp_ok {op:COp}{p q:PV}{v w:Value}{R:Bool→Prop}(hu:A.units+610<cLine) (I:Inv C fs H s) (hv:VR C s.heap p v) (hw:VR C s.heap q w) (h:cL H op p q R) :
  wpAny (model C.prog C.w) A (compareOp (copOf op) v w) (OkB s R) X s:=by
 cases op with
 | lt=>
  obtain ⟨a,rfl,h⟩:=cG h
  obtain ⟨b,rfl,h⟩:=cG h
  obtain ⟨t,rfl⟩:=hv;obtain ⟨u,rfl⟩:=hw
  exact PyProof.Rows.lt_int ⟨_,rfl,rfl,h⟩
 | le=>
  obtain ⟨a,rfl,h⟩:=cG h
  obtain ⟨b,rfl,h⟩:=cG h
  obtain ⟨t,rfl⟩:=hv;obtain ⟨u,rfl⟩:=hw
  exact PyProof.Rows.le_int ⟨_,rfl,rfl,h⟩
 | gt=>
  obtain ⟨a,rfl,h⟩:=cG h
  obtain ⟨b,rfl,h⟩:=cG h
  obtain ⟨t,rfl⟩:=hv;obtain ⟨u,rfl⟩:=hw
  exact PyProof.Rows.gt_int ⟨_,rfl,rfl,h⟩
 | ge=>
  obtain ⟨a,rfl,h⟩:=cG h
  obtain ⟨b,rfl,h⟩:=cG h
  obtain ⟨t,rfl⟩:=hv;obtain ⟨u,rfl⟩:=hw
  exact PyProof.Rows.ge_int ⟨_,rfl,rfl,h⟩
 | eq=>exact eq_ok (neg:=false) hu I hv hw (by have h:eqQ H p q R:=h;simpa using h)
 | ne=>exact eq_ok (neg:=true) hu I hv hw (by have h:eqQ H p q fun r=>R (!r):=h;simpa using h)
 | is_=>
  obtain ⟨rfl,h⟩:=Ec h
  obtain rfl:=hw
  rcases isNQ_i h with ⟨rfl,h⟩|⟨hn,h⟩
  ·obtain rfl:=hv
   exact wpAny_is_self (by rfl) ⟨_,rfl,rfl,h⟩
  ·exact is_none_ne (hv.ne_none hn) ⟨_,rfl,rfl,h⟩
 | isn=>
  obtain ⟨rfl,h⟩:=Ec h
  have h:isNQ p fun r=>R (!r):=h
  obtain rfl:=hw
  rcases isNQ_i h with ⟨rfl,h⟩|⟨hn,h⟩
  ·obtain rfl:=hv
   exact wpAny_isNot_self (by rfl) ⟨_,rfl,rfl,h⟩
  ·exact isnot_none_ne (hv.ne_none hn) ⟨_,rfl,rfl,h⟩
 | in_=>exact in_ok (neg:=false) hu I hv hw (by have h:inQ H p q R:=h;simpa using h)
 | nin=>exact in_ok (neg:=true) hu I hv hw (by have h:inQ H p q fun r=>R (!r):=h;simpa using h)
end
end Mine.Internal
end
noncomputable section
open PySem.SeqAt
namespace Mine.Internal
theorem tP {n:Nat}{k:Int}{j:Nat}(h:hU n k=some j) (hj:j<n):seqIndex? k n=some j:=by
 unfold hU at h
 unfold seqIndex?
 split at h
 ·refine hC fun hG=>?_
  cases h<;>(refine hG ?_;clear hG)
  have h1:¬k<0:=by exact ar24 (by assumption)
  have h2:(decide (0≤k)&&decide (k<(n:Int)))=true:=by simp only [Bool.and_eq_true,decide_eq_true_eq];exact ar496 hj h1
  simp only [h1,if_false,h2,if_true]
 ·split at h
  ·clear hj
   refine hC fun hG=>?_
   cases h<;>(refine hG ?_;clear hG)
   have h1:k<0:=by exact ar25 (by assumption)
   have h2:(decide (0≤k+n)&&decide (k+n<(n:Int)))=true:=by simp only [Bool.and_eq_true,decide_eq_true_eq];exact ar26 (by assumption) h1
   simp only [h1,if_true,h2]
   congr 1;simp +arith
  ·refine hC fun hG=>?_
   cases h<;>(refine hG ?_;clear hG)
theorem pH {n:Nat}{k:Int}{j:Nat}(h:hU n k=some j) (hj:j<n):-(n:Int)≤k∧k<n:=by
 unfold hU at h
 split at h
 ·cases h;exact ar497 (by assumption) hj
 ·split at h
  ·clear hj
   cases h;exact ar27 (by assumption) (by assumption)
  ·refine hC fun hG=>?_
   cases h<;>(refine hG ?_;clear hG)
section
variable {C:Cx}{fs:List Env}{H H':MH}{s s':Shared}{A:Around}{X:Value→Shared→Prop}{Q:QV}
theorem uU {x:PV}{k:List Nat→Prop}{P:Prop}(h:pD x k P):(∃ l,x=.str l∧k l)∨P:=by
 cases x<;>first|exact .inl (I12 _ rfl h)|exact .inr h
theorem idx_ok {value slice:Expr}{p i:PV}{v w:Value}(I:Inv C fs H s) (hv:VR C s.heap p v) (hw:VR C s.heap i w)
  (hs:∃ ops,subscripted slice false v w=operate ops (getItem v w)) (h:fY p i H Q) :
  wpAny (model C.prog C.w) A (subscriptTail value slice v w) (OkE C fs H s Q) X s:=by
 refine hC fun hG=>?_
 obtain ⟨ops,hs⟩:=hs<;>(refine hG ?_;clear hG)
 refine hC fun hG=>?_
 obtain ⟨k,rfl,h⟩:=cG h<;>(refine hG ?_;clear hG)
 obtain ⟨u,rfl⟩:=hw
 rcases uU h with ⟨l,rfl,h⟩|h
 ·refine X12 (bT h) fun j hj h=>?_
  refine X12 (bT h) fun c hc h=>?_
  obtain ⟨t,rfl⟩:=hv
  have hjl:j<l.length:=(List.getElem?_eq_some_iff.mp hc).1
  have hr:=pH hj hjl
  refine tail_any (typeIs_str s _ t) F.slot_str_getitem.lookup (PyProof.Rows.getItem_str (c:=c) ?_ ?_ (OkE.tok I (VR.mkStr [c] _) h.2)) hs
  ·rw [Bool.or_eq_false_iff,decide_eq_false_iff_not,decide_eq_false_iff_not];exact ar498 h.1 hr.1 hr.2
  ·rw [show (⟨l.toArray⟩:Str).length=l.length from by simp [Str.length],tP hj hjl]
   simpa using hc
 ·refine X12 (bT h) fun xs hxs h=>?_
  refine X12 (bT h) fun j hj h=>?_
  refine X12 (bT h) fun y hy h=>?_
  have hjl:j<xs.length:=(List.getElem?_eq_some_iff.mp hy).1
  have hr:=pH hj hjl
  refine hC fun hG=>?_
  obtain ⟨a,items,rfl,rx,hT⟩:=jB I hv hxs
  have la:=rx.length
  replace la:=(Array.length_toList)▸la
  refine X12 (rx.get hy) fun z hz rz=>?_
  refine hG ?_;clear hG
  have hz':items[j]?=some z:=by rw [←Array.getElem?_toList];exact hz
  refine hC fun hG=>?_
  clear hz rx hy hxs hv idx_ok
  rcases hT with ⟨_,ta⟩|⟨_,ta⟩<;>(refine hG ?_;clear hG)
  ·refine tail_any ta.typeIs slot_tuple_getitem.lookup (PyProof.Rows.getItem_tuple ta (by exact ar499 h.1 hr.1) (by exact ar500 h.1 hr.2) (by rw [la];exact tP hj hjl) hz' (OkE.here I rz h.2)) hs
  ·by_cases hk:0≤k
   ·have e:j=k.toNat:=by unfold hU at hj;rw [if_pos hk] at hj;cases hj;rfl
    exact tail_any ta.typeIs slot_list_getitem.lookup (wpAny_getItem_list ta hk (by exact ar500 h.1 hr.2) (by rw [←e];exact hz') (OkE.here I rz h.2)) hs
   ·have e:(k+items.size).toNat=j:=by
     unfold hU at hj;rw [if_neg hk] at hj
     split at hj
     ·clear hk hr hjl X A value
      cases hj;rw [la];congr 1;simp +arith
     ·cases hj
    exact tail_any ta.typeIs slot_list_getitem.lookup (wpAny_getItem_list_neg ta (ar25 hk) (ar28 hr la) (by exact ar499 h.1 hr.1) (by rw [e];exact hz') (OkE.here I rz h.2)) hs
theorem Dx {h:Heap}{p:PV}{v:Value}{n:Nat}(r:VR C h p v) (e:kR p=some n):(v=.none∧n=0)∨∃ t,v=.int n t:=by
 cases p with
 | none=>obtain rfl:=r;cases e;exact .inl ⟨rfl,rfl⟩
 | int i=>
  obtain ⟨t,rfl⟩:=r
  have e:(if 0≤i then some i.toNat else none)=some n:=e
  by_cases hi:0≤i
  ·rw [if_pos hi] at e;cases e
   exact .inr ⟨t,by rw [Int.toNat_of_nonneg hi]⟩
  ·rw [if_neg hi] at e;cases e
 | _=>cases e
theorem Jj {h:Heap}{p:PV}{v:Value}{m n:Nat}(r:VR C h p v) (e:lR m p=some n):(v=.none∧n=m)∨∃ t,v=.int n t:=by
 cases p with
 | none=>obtain rfl:=r;cases e;exact .inl ⟨rfl,rfl⟩
 | int i=>exact .inr ((Dx r (show kR (.int i)=some n from e)).resolve_left fun q=>by obtain ⟨t,rfl⟩:=r;cases q.1)
 | _=>cases e
theorem sF {α:Type}(xs:List α) (x y:Nat):(xs.drop (min x xs.length)).take (min y xs.length - min x xs.length)=bM xs x y:=by
 unfold bM
 rw [List.drop_take]
 refine Or.elim (Nat.le_total x xs.length) ?_ ?_
 ·intro hx
  rw [Nat.min_eq_left hx]
  rcases Nat.le_total y xs.length with hy|hy
  ·rw [Nat.min_eq_left hy]
  ·rw [Nat.min_eq_right hy,List.take_of_length_le (by simp),List.take_of_length_le (by simp;exact ar29 hy)]
 ·intro hx
  rw [Nat.min_eq_right hx,List.drop_eq_nil_of_le (Nat.le_refl _),List.drop_eq_nil_of_le (ar30 hx)];simp
theorem Hp {l sl:Addr}{items:Array Value}{k:Nat}{vl vu:Value}{lo hi:Option Int}{R:Value→Shared→Prop}(hl:s.heap.get? l=some ⟨.type "list",none,.seq items k,#[]⟩)
  (hs:s.heap.IsSliceOf sl vl vu .none) (pl:IsPart vl lo) (pu:IsPart vu hi) (hsz:items.size≤16000000)
  (h:R (.ref s.heap.objs.size) { s with heap:=s.heap.push { cls:=.type "list",data:=.seq (slicePick items lo hi none) } }) :
  wpAny (model C.prog C.w) A (getItem (.ref l) (.ref sl)) R X s:=
 wpAny_getItem_list_slice ⟨_,hl,rfl,k,rfl⟩ hs pl pu .none (by decide) h (by rw [sizeLine_eq];exact ar31 hsz)
theorem Fq {items:Array Value}{x y:Nat}{lo hi:Option Int}(hl:lo.elim 0 (clipAt items.size)=min x items.size) (hh:hi.elim items.size (clipAt items.size)=min y items.size) :
  (slicePick items lo hi none).toList=bM items.toList x y:=by
 rw [slicePick_plain,hl,hh]
 have:=sF items.toList x y
 rw [Array.length_toList] at this
 simpa using this
theorem strPick {l:List Nat}{x y:Nat}{lo hi:Option Int}(hl:lo.elim 0 (clipAt l.length)=min x l.length) (hh:hi.elim l.length (clipAt l.length)=min y l.length) :
  (Builtin.Str.strSliceIndices lo hi 1 l.length).filterMap (l.toArray[·]?)=bM l x y:=by
 have e:Builtin.Str.strSliceIndices lo hi 1 l.length=sliceRange ((lo.elim 0 (clipAt l.length):Nat):Int) ((hi.elim l.length (clipAt l.length):Nat):Int) 1:=by
  unfold Builtin.Str.strSliceIndices
  cases lo<;>cases hi<;>simp [clipAt_cast]
 rw [e,sliceRange_one,hl,hh,pick_run]
 have:=sF l x y
 simpa using this
theorem yX {α:Type}(xs:List α) (x y:Nat):(bM xs x y).length≤xs.length:=by
 unfold bM;simp;exact ar32
theorem oK {sl:Addr}{n:Nat}{u:Tok}{R:Int×Int×Nat→Shared→Prop}(hs:s.heap.IsSliceOf sl .none .none (.int (-1) u)) (h:R ((n:Int) - 1,-1,n) s) :
  wpAny (model C.prog C.w) A (Builtin.Slice.sliceApplied (.ref sl) (pure (n:Int))) R X s:=by
 refine X13 (id hs) fun os hos hcs hds=>?_
 unfold Builtin.Slice.sliceApplied Builtin.Slice.sliceFields
 refine wpAny_bind (wpAny_bind (wpAny_field hos hds (x:=.none) rfl (wpAny_bind (wpAny_field hos hds (x:=.none) rfl (wpAny_bind (wpAny_field hos hds (x:=.int (-1) u) rfl (wpAny_pure ?_)))))))
 refine wpAny_bind (slicePart_int ?_)
 rw [if_neg (by decide)]
 refine wpAny_bind (slicePart_none (wpAny_bind (slicePart_none (wpAny_bind (wpAny_pure ?_)))))
 have e:Builtin.Slice.sliceAdjust none none (-1) (n:Int)=((n:Int) - 1,-1):=by
  unfold Builtin.Slice.sliceAdjust;simp
 show wpAny _ _ (match Builtin.Slice.sliceAdjust none none (-1) (n:Int) with|(lo,hi)=>pure (lo,(-1:Int),Builtin.Slice.slicePlaces lo hi (-1))) _ _ s
 refine Eq.symm (e)▸?_
 have e2:Builtin.Slice.slicePlaces ((n:Int) - 1) (-1) (-1)=n:=by
  unfold Builtin.Slice.slicePlaces
  by_cases h0:n=0
  ·clear e hds hcs hos os hs u sl
   subst h0;rfl
  ·have:(-1:Int)<(n:Int) - 1:=by exact ar33 h0
   simp [this]
 show wpAny _ _ (pure ((n:Int) - 1,(-1:Int),Builtin.Slice.slicePlaces ((n:Int) - 1) (-1) (-1))) _ _ s
 refine Eq.symm (e2)▸?_
 exact wpAny_pure h
theorem sY {α β:Type}{f g:α→Option β}:∀ {l:List α},(∀ a∈l,f a=g a)→l.filterMap f=l.filterMap g:=by
 intro x0
 induction x0 with
 | nil=>
  intro J
  exact rfl
 | cons a r ih=>
  intro h
  rw [List.filterMap_cons,List.filterMap_cons,h a (.head _),ih fun b hb=>h b (.tail _ hb)]
theorem Ia (xs:Array Value):((List.range xs.size).filterMap fun (k:Nat)=>xs[((xs.size:Int) - 1+(k:Int)*(-1)).toNat]?).toArray.toList=xs.toList.reverse:=by
 refine Eq.symm (List.toList_toArray)▸?_
 refine List.ext_getElem? fun i=>?_
 have e:((List.range xs.size).filterMap fun (k:Nat)=>xs[((xs.size:Int) - 1+(k:Int)*(-1)).toNat]?)=(List.range xs.size).filterMap fun k=>some (xs[xs.size - 1 - k]?.getD .none):=by
  refine sY fun k hk=>?_
  have hk:=List.mem_range.mp hk
  have:((xs.size:Int) - 1+(k:Int)*(-1)).toNat=xs.size - 1 - k:=by exact ar501
  refine Eq.symm (this)▸?_
  have h2:xs.size - 1 - k<xs.size:=by exact Nat.lt_of_le_of_lt (Nat.sub_le _ _) (Nat.sub_lt (Nat.lt_of_le_of_lt (Nat.zero_le _) hk) Nat.one_pos)
  simp [h2]
 refine Eq.symm (e)▸?_
 have e2:(fun k=>some (xs[xs.size - 1 - k]?.getD Value.none))=some ∘ fun k=>xs[xs.size - 1 - k]?.getD Value.none:=rfl
 rw [e2,List.filterMap_eq_map]
 by_cases hi:i<xs.size
 ·have h2:xs.size - 1 - i<xs.size:=by exact Nat.lt_of_le_of_lt (Nat.sub_le _ _) (Nat.sub_lt (Nat.lt_of_le_of_lt (Nat.zero_le _) hi) Nat.one_pos)
  rw [List.getElem?_map,List.getElem?_range hi,List.getElem?_reverse hi]
  simp [h2]
 ·rw [List.getElem?_eq_none (by simp;exact ar14 hi),List.getElem?_eq_none (by simp;exact ar14 hi)]
theorem nR {t sl:Addr}{items:Array Value}{u:Tok}{R:Value→Shared→Prop}(ht:IsTup s.heap t items) (hs:s.heap.IsSliceOf sl .none .none (.int (-1) u))
  (h:R (.ref s.heap.objs.size) { s with heap:=s.heap.push { cls:=.type "tuple",data:=.seq ((List.range items.size).filterMap fun (k:Nat)=>items[((items.size:Int) - 1+(k:Int)*(-1)).toNat]?).toArray } })
  (hsz:items.size≤sizeLine):wpAny (model C.prog C.w) A (getItem (.ref t) (.ref sl)) R X s:=by
 have hdrop:sizeOk (.seq ((List.range items.size).filterMap fun (k:Nat)=>items[((items.size:Int) - 1+(k:Int)*(-1)).toNat]?).toArray):=by
  show (List.toArray _).size≤sizeLine
  rw [List.size_toArray]
  refine Nat.le_trans (List.length_filterMap_le _ _) ?_
  simpa using hsz
 refine X13 (id hs) fun os hos hcs hds=>?_
 have hTs:s.TypeIs (.ref sl) "slice":=I12 os hos hcs
 unfold getItem
 try with_reducible refine wpAny_holding ?_
 first|refine wpAny_bind (wpAny_pure ?_)|skip
 refine wpAny_bind (wpAny_sequenceKey ht.typeIs (rfl) ?_)
 refine wpAny_bind (wpAny_callSpecial?_slot (name:=Str.ofString "__getitem__") ht.typeIs slot_tuple_getitem
  (wpAny_call_entry slot_tuple_getitem ht.typeIs entry_tuple_getitem ?_ (args_tuple_getitem _ _)))
 show wpAny _ _ (Builtin.Tuple.tupleItemsOf (.ref t) >>= _) _ _ s
 refine wpAny_bind (tupleItemsOf_ ht ?_)
 refine wpAny_bind (wpAny_typeOf hTs ?_)
 rw [if_pos (by decide)]
 refine wpAny_bind (oK hs ?_)
 have hno:¬(((items.size:Int) - 1==0&&(-1:Int)==1&&items.size==items.size)=true):=by simp
 show wpAny _ _ (if ((items.size:Int) - 1==0&&(-1:Int)==1&&items.size==items.size)=true then _ else _) _ _ s
 refine Eq.symm (if_neg hno)▸?_
 first
  | exact wpAny_bind (m:=Builtin.Tuple.tupleExact _) (wpAny_newObj_type (wpAny_pure (I12 _ rfl (wpAny_pure h))) hdrop)
  | exact wpAny_bind (m:=Builtin.Tuple.tupleExact _) (wpAny_newObj_type (wpAny_bind (wpAny_pure (wpAny_pure ⟨_,rfl,wpAny_pure h⟩))) hdrop)
  | exact wpAny_bind (wpAny_bind (m:=Builtin.Tuple.tupleExact _) (wpAny_newObj_type (wpAny_pure (wpAny_pure ⟨_,rfl,wpAny_pure h⟩)) hdrop))
  | exact wpAny_bind (wpAny_bind (m:=Builtin.Tuple.tupleExact _) (wpAny_newObj_type (wpAny_pure ⟨_,rfl,wpAny_pure h⟩) hdrop))
theorem rev_ok {value slice:Expr}{p:PV}{v:Value}{u:Tok}{tk:Tok}(I:Inv C fs H s) (hv:VR C s.heap p v)
  (hs:∀ a,∃ ops,subscripted slice false v (.ref a)=operate ops (getItem v (.ref a))) (h:revQ p H Q) :
  wpAny (model C.prog C.w) A (subscriptTail value slice v (.ref s.heap.objs.size)) (OkE C fs H s Q) X { s with heap:=s.heap.push { cls:=.type "slice",data:=.fields #[.none,.none,.int (-1) u] },toks:=tk }:=by
 refine X11 (hs s.heap.objs.size) fun ops hs=>?_
 have I':Inv C fs H { s with heap:=s.heap.push { cls:=.type "slice",data:=.fields #[.none,.none,.int (-1) u] },toks:=tk }:=aN I (aP _ _)
 have S':aM fs H s H { s with heap:=s.heap.push { cls:=.type "slice",data:=.fields #[.none,.none,.int (-1) u] },toks:=tk }:=aK (aP _ _)
 have hsl:=Heap.IsSliceOf.new s.heap .none .none (.int (-1) u)
 refine hC fun hG=>?_
 obtain ⟨xs,rfl,h⟩:=Eb h<;>(refine hG ?_;clear hG)
 ·refine hC fun hG=>?_
  obtain ⟨a,items,rfl,ta,rx⟩:=VR.step S' I hv<;>(refine hG ?_;clear hG)
  have la:=rx.length
  rw [Array.length_toList] at la
  refine tail_any ta.typeIs slot_tuple_getitem.lookup (nR ta hsl ?_ (by rw [la,sizeLine_eq];have:=h.1;exact ar31 this)) hs
  exact OkE.after S' (OkE.newTup I' (by rw [Ia];exact rx.reverse) h.2)
theorem slc_lo {h:Heap}{l:PV}{vl:Value}{x n:Nat}(hl:VR C h l vl) (hx:kR l=some x):∃ lo:Option (Int×Tok),(lo.map (·.1)).elim 0 (clipAt n)=min x n∧partValue lo=vl∧IsPart vl (lo.map (·.1)):=by
 rcases Dx hl hx with ⟨rfl,rfl⟩|⟨t1,rfl⟩
 ·exact ⟨none,by simp,rfl,.none⟩
 ·exact ⟨some (_,t1),by simp [clipAt_nat],rfl,.int _ t1⟩
theorem slc_hi {h:Heap}{u:PV}{vu:Value}{y n:Nat}(hu:VR C h u vu) (hy:lR n u=some y):∃ hi:Option (Int×Tok),(hi.map (·.1)).elim n (clipAt n)=min y n∧partValue hi=vu∧IsPart vu (hi.map (·.1)):=by
 rcases Jj hu hy with ⟨rfl,rfl⟩|⟨t1,rfl⟩
 ·exact ⟨none,by simp,rfl,.none⟩
 ·exact ⟨some (_,t1),by simp [clipAt_nat],rfl,.int _ t1⟩
theorem uW {value slice:Expr}{p l u:PV}{v:Value}{vl vu:Value}(hA:A.units+10<cLine) (I:Inv C fs H s) (hv:VR C s.heap p v) (hl:VR C s.heap l vl) (hu:VR C s.heap u vu)
  (hs:∀ a,∃ ops,subscripted slice false v (.ref a)=operate ops (getItem v (.ref a))) (h:pR p l u H Q) :
  wpAny (model C.prog C.w) A (subscriptTail value slice v (.ref s.heap.objs.size)) (OkE C fs H s Q) X { s with heap:=s.heap.push { cls:=.type "slice",data:=.fields #[vl,vu,.none] } }:=by
 refine X11 (hs s.heap.objs.size) fun ops hs=>?_
 have I':Inv C fs H { s with heap:=s.heap.push { cls:=.type "slice",data:=.fields #[vl,vu,.none] } }:=aN (tk:=s.toks) I (aP _ _)
 have S':aM fs H s H { s with heap:=s.heap.push { cls:=.type "slice",data:=.fields #[vl,vu,.none] } }:=aK (tk:=s.toks) (aP _ _)
 have hsl:=Heap.IsSliceOf.new s.heap vl vu .none
 refine Or.elim (uU h) ?_ ?_
 ·rintro ⟨t0,rfl,h⟩
  refine X12 (bT h) fun x hx h=>?_
  refine hC fun hG=>?_
  obtain ⟨y,hy,h⟩:=bT h
  obtain ⟨h1,h2,h3,hq⟩:=h
  obtain ⟨tk,rfl⟩:=hv
  refine hG ?_;clear hG
  have hlen:(⟨t0.toArray⟩:Str).length=t0.length:=by simp [Str.length]
  have main:∀ (lo hi:Option (Int×Tok)),(lo.map (·.1)).elim 0 (clipAt t0.length)=min x t0.length→(hi.map (·.1)).elim t0.length (clipAt t0.length)=min y t0.length→partValue lo=vl→partValue hi=vu →
    wpAny (model C.prog C.w) A (getItem (.str ⟨t0.toArray⟩ tk) (.ref s.heap.objs.size)) (OkE C fs H s Q) X { s with heap:=s.heap.push { cls:=.type "slice",data:=.fields #[vl,vu,.none] } }:=by
   intro lo hi e1 e2 e3 e4
   subst e3 e4
   have hp:=strPick e1 e2
   have hz:(slicePicked ⟨t0.toArray⟩ lo hi none).filterMap (t0.toArray[·]?)=bM t0 x y:=hp
   have hn:(slicePicked ⟨t0.toArray⟩ lo hi none).length=min y t0.length - min x t0.length:=by
    show (Builtin.Str.strSliceIndices (lo.map (·.1)) (hi.map (·.1)) 1 t0.length).length=_
    have e:Builtin.Str.strSliceIndices (lo.map (·.1)) (hi.map (·.1)) 1 t0.length=sliceRange (((lo.map (·.1)).elim 0 (clipAt t0.length):Nat):Int) (((hi.map (·.1)).elim t0.length (clipAt t0.length):Nat):Int) 1:=by
     unfold Builtin.Str.strSliceIndices
     clear hp hA value uW
     cases lo<;>cases hi<;>simp [clipAt_cast]
    rw [e,sliceRange_one,e1,e2];simp
   refine wpAny_getItem_str_slice (l:=lo) (u:=hi) (st:=none) hsl (rfl) ?_
   unfold sliceMade
   split
   ·rename_i hc
    rw [Bool.and_eq_true,beq_iff_eq,beq_iff_eq,hn,hlen] at hc
    have e:bM t0 x y=t0:=by
     rw [←sF]
     by_cases h0:t0.length=0
     ·have:t0=[]:=List.length_eq_zero_iff.mp h0
      clear h0 hn hp hlen hA value uW
      subst this;simp
     ·have ex:min x t0.length=0:=by have:=hc.2;exact ar35 this
      rw [ex,List.drop_zero,Nat.sub_zero,List.take_of_length_le (by have:=hc.2;exact Nat.le_trans (Nat.le_of_eq this.symm) (Nat.sub_le _ _))]
    exact OkE.after S' (OkE.here I' (VR.mkStr t0 tk) (by rw [e] at hq;exact hq))
   ·refine ⟨?_,?_⟩
    ·show (List.toArray ((slicePicked ⟨t0.toArray⟩ lo hi none).filterMap (t0.toArray[·]?))).size≤sizeLine
     rw [hz,List.size_toArray,sizeLine_eq]
     have:=yX t0 x y;exact Nat.le_trans this (Nat.le_trans h1 (Nat.le_of_ble_eq_true rfl))
    ·have e:(⟨((slicePicked ⟨t0.toArray⟩ lo hi none).filterMap (t0.toArray[·]?)).toArray⟩:Str)=⟨(bM t0 x y).toArray⟩:=by rw [hz]
     refine Eq.symm (e)▸?_
     exact OkE.after S' (OkE.tok I' (VR.mkStr _ _) hq)
  refine tail_any (typeIs_str _ _ tk) F.slot_str_getitem.lookup ?_ hs
  exact X13 (slc_lo hl hx) fun lo e1 e3 _=>X13 (slc_hi hu hy) fun hi e2 e4 _=>main lo hi e1 e2 e3 e4
 ·intro h
  refine hC fun hG=>?_
  obtain ⟨b,xs,rfl,hb,h⟩:=iD h
  obtain ⟨x,hx,h⟩:=bT h
  obtain ⟨y,hy,h⟩:=bT h
  obtain ⟨h1,h2,h3,hq⟩:=h
  clear h3 h2 h hA uW
  obtain rfl:=hv
  refine X22 (cA I hb) fun items k ho rx=>?_
  refine hG ?_;clear hG
  have la:=rx.length
  replace la:=(Array.length_toList)▸la
  have ho':=aP s.heap { cls:=.type "slice",data:=.fields #[vl,vu,.none] } _ _ ho
  have main:∀ (lo hi:Option Int),lo.elim 0 (clipAt items.size)=min x items.size→hi.elim items.size (clipAt items.size)=min y items.size→IsPart vl lo→IsPart vu hi →
    wpAny (model C.prog C.w) A (getItem (.ref b) (.ref s.heap.objs.size)) (OkE C fs H s Q) X { s with heap:=s.heap.push { cls:=.type "slice",data:=.fields #[vl,vu,.none] } }:=by
   intro lo hi e1 e2 p1 p2
   refine Hp ho' hsl p1 p2 (Nat.le_trans (Nat.le_of_eq la) h1) ?_
   refine OkE.after S' (OkE.newList I' ?_ hq)
   refine Eq.symm (Fq e1 e2)▸?_
   unfold bM
   exact VRs.keeps (aP _ _) ((rx.take y).drop x)
  refine tail_any (T:="list") (I12 _ ho' rfl) slot_list_getitem.lookup ?_ hs
  rw [←la] at hy
  clear ho' la rx ho k hb hq h1
  exact X13 (slc_lo hl hx) fun lo e1 _ p1=>X13 (slc_hi hu hy) fun hi e2 _ p2=>main _ _ e1 e2 p1 p2
end
end Mine.Internal
end
noncomputable section
open PySem.SeqAt
namespace Mine.Internal
section
variable {C:Cx}{fs:List Env}{H H':MH}{s s':Shared}{A:Around}{X:Value→Shared→Prop}{Q:QV}
theorem Du (I:Inv C fs H s) {a:Nat}{m:dJ}{h':Heap}(ha:H a=some m) (hs:Heap.SameBut a s.heap h') (b:Nat) (items:Array Value) (t:IsTup s.heap b items):IsTup h' b items:=by
 obtain ⟨o,eo,hc,r⟩:=t
 exact ⟨o,(hs.2 b fun q=>by
  have:=I.none_of eo (by rw [hc];simp)
  rw [q,ha] at this;cases this).trans eo,hc,r⟩
theorem Dv (I:Inv C fs H s) {a:Nat}{m:dJ}{h':Heap}(ha:H a=some m) (hs:Heap.SameBut a s.heap h') (b:Nat) (x y z t u w) (r:IsRange s.heap b x y z t u w):IsRange h' b x y z t u w:=
 (hs.2 b fun q=>by
  have:=I.none_of_fields r rfl
  rw [q,ha] at this;cases this).trans r
theorem VR.but (I:Inv C fs H s) {a:Nat}{m:dJ}{h':Heap}(ha:H a=some m) (hs:Heap.SameBut a s.heap h'):∀ {p:PV}{v:Value},VR C s.heap p v→VR C h' p v:=VR.of (Du I ha hs) (Dv I ha hs)
theorem VRs.but (I:Inv C fs H s) {a:Nat}{m:dJ}{h':Heap}(ha:H a=some m) (hs:Heap.SameBut a s.heap h'):∀ {p:List PV}{v:List Value},VRs C s.heap p v→VRs C h' p v:=VRs.of (Du I ha hs) (Dv I ha hs)
theorem qK {a:Nat}{m m':dJ}{h':Heap}{tk:Tok}(ha:H a=some m) (hs:Heap.SameBut a s.heap h'):aM fs H s (H.set a m') { s with heap:=h',toks:=tk }:=by
 refine ⟨fun b o e h=>?_,fun b hb=>?_⟩
 ·have hba:b≠a:=fun q=>by rw [q,ha] at h;cases h
  exact ⟨by unfold MH.set;rw [if_neg hba];exact h,.inl ((hs.2 b hba).trans e)⟩
 ·unfold MH.set;split
  ·exact fun q=>nomatch q
  ·exact hb
theorem uP (I:Inv C fs H s) {a:Nat}{m m':dJ}{h':Heap}{tk:Tok}(ha:H a=some m) (hs:Heap.SameBut a s.heap h') (hm:HR C h' a m') (hf:∀ o,h'.get? a=some o→∀ vs,o.data≠.fields vs) :
  Inv C fs (H.set a m') { s with heap:=h',toks:=tk }:=by
 have hb:=(I.hrel a m ha).1
 refine ⟨fun b o e=>(hs.2 b fun q=>by rw [q,hb] at e;cases e).trans (I.stays b o e),?_,fun b o e=>?_,I.gens,I.os⟩
 ·have key:∀ (l:List Env),s.heap.FunFrames C.base l→h'.FunFrames C.base l:=by
   intro l
   induction l with
   | nil=>exact fun _=>trivial
   | cons env r ih=>
    intro z
    refine X03 z ?_
    rintro h1 ⟨L,o,h2,h3,h4,h5⟩ h6
    refine I03 h1 (?_) (ih h6)
    by_cases q:L=a
    ·subst q
     refine X12 (hm.there) fun ob e1 _=>?_
     exact I24 _ ob h2 h3 e1 (hf ob e1)
    ·exact I24 L o h2 h3 ((hs.2 L q).trans h4) h5
  exact key fs I.frames
 ·unfold MH.set at e
  split at e
  ·rename_i q;subst q;cases e;exact ⟨hb,hm⟩
  ·rename_i q
   exact ⟨(I.hrel b o e).1,(I.hrel b o e).2.mono (fun _ _=>VR.but I ha hs) (fun _ _=>VRs.but I ha hs) (fun ob e1=>(hs.2 b q).trans e1)⟩
theorem rP (I:Inv C fs H s) {a:Nat}{xs ys:List PV}{items':Array Value}{n':Nat}{h':Heap}{p:PV}{v:Value}(ha:H a=some (.list xs)) (hs:Heap.SameBut a s.heap h')
  (ho:h'.get? a=some ⟨.type "list",none,.seq items' n',#[]⟩) (hy:VRs C s.heap ys items'.toList) (hv:VR C s.heap p v) (q:Q p (H.set a (.list ys))) :
  OkE C fs H s Q v { s with heap:=h' }:=by
 have hm:HR C h' a (.list ys):=I22 items' n' ho (VRs.but I ha hs hy)
 have I2:=uP (tk:=s.toks) I ha hs hm (fun o e vs=>by rw [ho] at e;cases e;exact fun q=>by cases q)
 exact I24 (H.set a (.list ys)) p (qK (tk:=s.toks) ha hs) I2 (VR.but I ha hs hv) q
noncomputable def methId:MK→String
 | .append=>"list.append" | .pop=>"list.pop" | .extend=>"list.extend" | .join=>"str.join" | .find=>"str.find" | .lower=>"str.lower"
theorem wX {p:PV}{r:List PV}{l:List Nat}(e:jA (p::r)=some l):∃ x l',p=.str x∧jA r=some l'∧l=x++l':=by
 cases p with
 | str x=>
  simp only [jA,Option.map_eq_some_iff] at e
  refine X12 e fun l' h1 h2=>?_
  exact I23 x l' rfl h1 (h2.symm)
 | _=>cases e
theorem wW {h:Heap}{xs:List PV}:∀ {vs:List Value}{l:List Nat},VRs C h xs vs→jA xs=some l→∃ ts:List (Str×Tok),vs=strValues ts∧(ts.map (·.1.cps.toList)).flatten=l∧ts.length=xs.length:=by
 induction xs with
 | nil=>
  intro vs l hv e
  cases e
  subst hv
  exact I13 ([]) rfl rfl rfl
 | cons p r ih=>
  intro vs l hv e
  refine hC fun hG=>?_
  obtain ⟨x,l',rfl,h1,rfl⟩:=wX e
  refine X23 hv ?_
  rintro v r' e1 ⟨t,e2⟩ hr
  refine X13 (ih hr h1) fun ts h2 h3 h4=>?_
  refine hG ?_;clear hG
  exact I13 ((⟨x.toArray⟩,t)::ts) (by rw [e1,e2,h2];rfl) (by simp [h3]) (by simp [h4])
theorem tU:∀ ts:List Str,(Str.join ⟨#[]⟩ ts)=⟨(ts.map (·.cps.toList)).flatten.toArray⟩
 | []=>rfl
 | [x]=>by simp [Str.join]
 | x::y::r=>by
  show x++⟨#[]⟩++Str.join ⟨#[]⟩ (y::r)=_
  rw [tU (y::r)]
  show Str.mk (x.cps++#[]++_)=_
  simp
theorem Iw (ts:List Str):∀ k,ts.foldl (fun a x=>a+x.length+0) k=k+(ts.map (·.cps.toList)).flatten.length:=by
 induction ts with
 | nil=>intro k;rfl
 | cons x r ih=>intro k;rw [List.foldl_cons,ih];simp [Str.length];simp +arith
theorem low3 {c:Nat}(h:c=51∨c=32∨c=10):Txt.lower ⟨[c].toArray⟩=⟨[c].toArray⟩:=by
 rcases h with rfl|rfl|rfl<;>decide +kernel
theorem find3' {c:Nat}(h:c=51∨c=32∨c=10):Txt.find ⟨hexS.toArray⟩ ⟨[c].toArray⟩=if c=51 then 3 else -1:=by
 rcases h with rfl|rfl|rfl<;>decide +kernel
theorem meth_ok {k:MK}{o:PV}{ps:List PV}{v:Value}{vs:List Value}(I:Inv C fs H s) (hv:VR C s.heap o v) (hvs:VRs C s.heap ps vs) (h:jW k o ps H Q) :
  wpAny (model C.prog C.w) A (call (.builtin (methId k)) (v::vs)) (OkE C fs H s Q) X s:=by
 cases k with
 | append=>
  obtain ⟨a,xs,rfl,ha,h⟩:=iD h
  obtain ⟨p,rfl,h⟩:=fG h
  obtain rfl:=hv
  obtain ⟨w,r,rfl,hw,rfl⟩:=hvs
  obtain ⟨items,n,ho,rx⟩:=cA I ha
  have la:=rx.length
  rw [Array.length_toList] at la
  exact append_at ho (fun h' hs ho'=>rP I ha hs ho' (by rw [Array.toList_push];exact rx.append ⟨w,[],rfl,hw,rfl⟩) (VR.mkNone (C:=C) (h:=s.heap)) h.2) (by rw [la,sizeLine_eq];have:=h.1;exact Nat.le_trans (Nat.le_succ _) (Nat.le_trans this (Nat.le_of_ble_eq_true rfl)))
 | pop=>
  obtain ⟨a,xs,rfl,ha,h⟩:=iD h
  obtain ⟨rfl,h⟩:=oO h
  obtain ⟨p,hp,h⟩:=bT h
  obtain rfl:=hv;obtain rfl:=hvs
  obtain ⟨items,n,ho,rx⟩:=cA I ha
  have la:=rx.length
  rw [Array.length_toList] at la
  rw [List.getLast?_eq_getElem?] at hp
  obtain ⟨y,hy,ry⟩:=rx.get hp
  have hy':items[items.size - 1]?=some y:=by rw [←Array.getElem?_toList,la];exact hy
  have hne:items.size≠0:=fun e=>by
   rw [e] at hy'
   have:items=#[]:=Array.eq_empty_of_size_eq_zero e
   subst this;simp at hy'
  have hz:items.eraseIdxIfInBounds (items.size - 1)=items.pop:=by
   unfold Array.eraseIdxIfInBounds
   rw [dif_pos (by exact Nat.sub_lt (Nat.pos_of_ne_zero hne) Nat.one_pos)]
   apply Array.toList_inj.mp
   rw [Array.toList_eraseIdx,Array.toList_pop,List.dropLast_eq_take,List.eraseIdx_eq_take_drop_succ,Array.length_toList,List.drop_eq_nil_of_le (by rw [Array.length_toList];exact Nat.le_add_of_sub_le (Nat.le_refl _)),List.append_nil]
  refine call_meets PySem.F.slot_list_pop ⟨_,ho,rfl⟩ PySem.F.entry_list_pop (PySem.F.args_list_pop_1 _) (PySem.MeetsSeq.list_pop_last a items n y hy' (by rw [la,sizeLine_eq];have:=h.1;exact ar31 this)) ⟨ho,?_⟩
  have hu:=PySem.IsL.update (n:=n) ho (fun xs=>xs.eraseIdxIfInBounds (items.size - 1))
  refine rP I ha (Heap.SameBut.update ..) hu ?_ ry h.2
  rw [hz,Array.toList_pop]
  exact rx.dropLast
 | extend=>
  obtain ⟨a,xs,rfl,ha,h⟩:=iD h
  obtain ⟨w,rfl,h⟩:=fG h
  obtain ⟨b,ys,rfl,hb,h⟩:=iD h
  obtain rfl:=hv
  obtain ⟨w,r,rfl,rfl,rfl⟩:=hvs
  obtain ⟨items,n,ho,rx⟩:=cA I ha
  obtain ⟨items2,n2,ho2,ry⟩:=cA I hb
  have la:=rx.length
  have lb:=ry.length
  rw [Array.length_toList] at la lb
  have:=h.2.1
  refine call_meets PySem.F.slot_list_extend ⟨_,ho,rfl⟩ PySem.F.entry_list_extend (PySem.F.args_list_extend_2 _ _) (PySem.AutoSeq1.list_extend_list_list_0 a items n b items2 n2 ?_ (by rw [la,sizeLine_eq];exact Nat.le_trans (Nat.le_add_right _ _) (Nat.le_trans this (Nat.le_of_ble_eq_true rfl))) (by rw [la,lb,sizeLine_eq];exact Nat.le_trans this (Nat.le_add_left _ _))) ⟨ho,ho2,?_⟩
  ·have:Builtin.List.listTooLong (items.size+items2.size)=false:=by
    simp [Builtin.List.listTooLong,sizeLine];exact ar43 la lb this
   rw [this];simp
  ·have hu:=PySem.IsL.update (n:=n) ho (fun x=>x++items2)
   exact rP I ha (Heap.SameBut.update ..) hu (by rw [Array.toList_append];exact rx.append ry) (VR.mkNone (C:=C) (h:=s.heap)) h.2.2
 | join=>
  obtain ⟨l,rfl,h⟩:=kY h
  obtain ⟨rfl,h⟩:=oO h
  obtain ⟨w,rfl,h⟩:=fG h
  obtain ⟨b,xs,rfl,hb,h⟩:=iD h
  obtain ⟨l,hl,h⟩:=bT h
  obtain ⟨t,rfl⟩:=hv
  obtain ⟨w,r,rfl,rfl,rfl⟩:=hvs
  obtain ⟨items,n,ho,rx⟩:=cA I hb
  obtain ⟨ts,e1,e2,e3⟩:=wW rx hl
  have ho':s.heap.IsList b (strValues ts).toArray:=⟨_,ho,rfl,n,by rw [←e1]⟩
  refine SC.join ho' rfl ?_ fun t' k=>?_
  ·unfold JoinOk
   rw [←Array.foldl_toList]
   have:=Iw (ts.map (·.1)) 0
   rw [List.map_map] at this
   have e4:((fun x:Str=>x.cps.toList) ∘ fun x:Str×Tok=>x.1)=fun x=>x.1.cps.toList:=rfl
   rw [e4,e2] at this
   have e5:(⟨([]:List Nat).toArray⟩:Str).length=0:=rfl
   simp only [e5]
   rw [this]
   simp [Builtin.Str.tooLong,sizeLine];exact ar31 h.1
  ·have e6:Txt.join ⟨([]:List Nat).toArray⟩ (ts.map (·.1))=⟨l.toArray⟩:=by
    show Builtin.Str.glued _ _=_
    rw [StrLaws.glued_eq_join]
    have:=tU (ts.map (·.1))
    rw [List.map_map] at this
    have e4:((fun x:Str=>x.cps.toList) ∘ fun x:Str×Tok=>x.1)=fun x=>x.1.cps.toList:=rfl
    rw [e4,e2] at this
    exact this
   rw [e6]
   exact OkE.tok I (VR.mkStr _ _) h.2.2
 | find=>
  obtain ⟨l,rfl,h⟩:=kY h
  obtain ⟨w,rfl,h⟩:=fG h
  obtain ⟨cs,rfl,h⟩:=kY h
  obtain ⟨c,rfl,h⟩:=fG h
  obtain ⟨t,rfl⟩:=hv
  obtain ⟨w,r,rfl,⟨u,rfl⟩,rfl⟩:=hvs
  obtain ⟨rfl,hc,hq⟩:=h
  refine SC.find ?_
  rw [find3' hc]
  exact OkE.tok I (VR.mkInt _ _) hq
 | lower=>
  obtain ⟨l,rfl,h⟩:=kY h
  obtain ⟨c,rfl,h⟩:=fG h
  obtain ⟨rfl,h⟩:=oO h
  obtain ⟨t,rfl⟩:=hv
  obtain rfl:=hvs
  obtain ⟨hc,hq⟩:=h
  have e:=low3 hc
  refine SC.lower ?_ ?_
  ·rw [e];rfl
  ·rw [e];exact OkE.tok I (VR.mkStr _ _) hq
end
end Mine.Internal
end
noncomputable section
open PySem.SeqAt
namespace Mine.Internal
noncomputable def gnames:List Str:=(["read_type","read_paren_type","read_ref_type","read_array_type","read_spath","read_segment","read_path_name","read_arguments","is_closed","read_generics","read_param",
"plain","without_spot","run_end","remark_end","blank_end","figure_worth","base_at","read_int","read_sign","read_word","word_rows","read_words",
"_law_pool","_law_take","_law_one","_law_path_row","_law_angles_row","_law_listed","_law_type_row","_law_generics_row","_law_bent","_law_text","_law_word","_law_rest",
"_law_type_read","_law_path_read","_law_argument_read","_law_param_read","_law_generics_read","_law_due","_law_told","law"]:List String).map Str.ofString
noncomputable def yO (i:Nat):Option Str:=if 7≤i then gnames[i - 7]? else none
noncomputable def rI (i:Nat):Option Str:=(["__init__","peek","take","looks","expect","name","split_close"]:List Str)[i]?
noncomputable def vname (i:Nat):Option Str:=(["PATH_WORDS","INT_KINDS","KEYWORDS","SIGNS","FIGURES","NAME_BEGINS","NAME_SIGNS","BLANKS","MOST_FIGURES","_law_begins","_law_names"]:List Str)[i]?
noncomputable def wF:BI→Str
 | .len=>"len" | .min=>"min" | .max=>"max" | .range=>"range" | .tuple=>"tuple" | .list=>"list" | .int=>"int" | .isTuple=>"isinstance" | .isStr=>"isinstance" | .isInt=>"isinstance" | .isBool=>"isinstance"
noncomputable def zF:BI→Value
 | .len=>.builtin "len" | .min=>.builtin "min" | .max=>.builtin "max" | .range=>.type "range" | .tuple=>.type "tuple" | .list=>.type "list" | .int=>.type "int"
 | .isTuple=>.builtin "isinstance" | .isStr=>.builtin "isinstance" | .isInt=>.builtin "isinstance" | .isBool=>.builtin "isinstance"
noncomputable def pZ:List (Str×String):=[("tuple","tuple"),("str","str"),("int","int"),("bool","bool")]
noncomputable def fZ (C L:Nat):List Value:=[.ref C,.ref L,.type "Exception",.type "BaseException",.type "object"]
noncomputable def tX (K:Frag) (C L:Nat):Bool:=match K.lookup C with
 | some ⟨_,_,.cls cd,sl⟩=>cd.mro==fZ C L&&!cd.hasDel&&cd.hasDict&&(sl.toList[4]?).join==some (.builtin "Exception.__new__") &&
   specialIn K (.ref C) "__call__"==some (some (.builtin "type.__call__"))&&instIn K (.ref C) (.type "type")==some true
 | _=>false
noncomputable def eD:Scope:={ kind:=.function,names:=[(("self":Str),.local),(("message":Str),.local),(("spot":Str),.local),(("Exception":Str),.globalImplicit)],isGenerator:=false,isCoroutine:=false }
noncomputable def jU:List Stmt:=[.Expr (.Call (.Attribute (.Name "Exception" ⟨5,8,5,17⟩) "__init__" ⟨5,8,5,26⟩) [.Name "self" ⟨5,27,5,31⟩,.Name "message" ⟨5,33,5,40⟩] [] ⟨5,8,5,41⟩) ⟨5,8,5,41⟩,
 .Assign [.Attribute (.Name "self" ⟨6,8,6,12⟩) "message" ⟨6,8,6,20⟩] (.Name "message" ⟨6,23,6,30⟩) ⟨6,8,6,30⟩,
 .Assign [.Attribute (.Name "self" ⟨7,8,7,12⟩) "spot" ⟨7,8,7,17⟩] (.Name "spot" ⟨7,20,7,24⟩) ⟨7,8,7,24⟩]
structure GOk (K:Frag) (G:Nat) (mg mb:Str→Option Value):Prop where
 exc:∃ L,tX K G L=true
 init:∃ fi,findIn K (.ref G) "__init__"=some (some (.ref fi))∧typeIn K (.ref fi)=some (.type "function")∧∃ oc od osl params dV kV doc pm an cdv ct,
  K.lookup fi=some ⟨oc,od,.func (fnOf "__init__" "LendError.__init__" params jU eD dV kV doc pm an cdv ct),osl⟩∧codeIn K cdv "LendError.__init__"=true ∧
  ∀ (s:Shared) (a b c:Value),K.In s.heap→BindsTo s (fnOf "__init__" "LendError.__init__" params jU eD dV kV doc pm an cdv ct) ⟨[a,b,c],[]⟩ [("self",a),("message",b),("spot",c)]
 sett:findIn K (.ref G) "__setattr__"=some (some (.builtin "object.__setattr__"))
 tkM:takerIn K G "message"=some none
 tkS:takerIn K G "spot"=some none
 nm:mg "Exception"=none∧mb "Exception"=some (.type "Exception")
structure fN (C:Cx):Prop where
 g:C.base.Ns mainGlobals C.mg
 b:C.base.Ns builtinsNs C.mb
 nolimit:C.base.NoLimit
 KIn:C.K.In C.base
 fnG:∀ f x,yO f=some x→C.mg x=some (.ref (C.fn f))
 gvG:∀ c x,vname c=some x→∃ v,C.mg x=some v∧VR C C.base (C.gv c) v
 biG:∀ b,C.mg (wF b)=none∧C.mb (wF b)=some (zF b)
 tyG:∀ p∈pZ,C.mg p.1=none∧C.mb p.1=some (.type p.2)
 wG:C.mg "Words"=some (.ref C.W)
 xG:C.mg "GrammarFault"=some (.ref C.G)
 wget:plainGet C.K C.W ""=true
 wdict:hasDictIn C.K C.W=true
 wset:findIn C.K (.ref C.W) "__setattr__"=some (some (.builtin "object.__setattr__"))
 wover:plainOver C.K C.W=true
 wattr:∀ k,findIn C.K (.ref C.W) (bG k)=some none
 wmeth:∀ i x,rI i=some x→findIn C.K (.ref C.W) x=some (some (.ref (C.fn i)))
 wK:keepIn C.K (.ref C.W)=true
 gK:keepIn C.K (.ref C.G)=true
 wMk:makesIn C.K C.W=true
 gTy:typeIn C.K (.ref C.G)=some (.type "type")
 gBase:subIn C.K (.ref C.G) (.type "BaseException")=some true
 exm:exmOne C.K (.ref C.G) (.ref C.G)=some true
 wfn:∀ i x,rI i=some x→isFn C.K (.ref (C.fn i))=true
 gk:GOk C.K C.G C.mg C.mb
section
variable {C:Cx}{fs:List Env}{H H':MH}{s s':Shared}{A:Around}{X:Value→Shared→Prop}{Q:QV}
theorem seq_len (I:Inv C fs H s) {p:PV}{v:Value}{xs:List PV}(hv:VR C s.heap p v) (e:fT H p=some xs) (hl:xs.length≤2 ^ 62) {R:Value→Shared→Prop}(h:R (.int xs.length (s.toks+1)) { s with toks:=s.toks+1+1 }) :
  wpAny (model C.prog C.w) A (call (.builtin "len") [v]) R X s:=by
 refine hC fun hG=>?_
 obtain ⟨a,items,rfl,rx,hT⟩:=jB I hv e<;>(refine hG ?_;clear hG)
 have la:=rx.length
 replace la:=(Array.length_toList)▸la
 refine Or.elim hT ?_ ?_
 ·rintro ⟨_,ta⟩
  exact PyProof.Rows.len_tuple ta (by exact ar502 hl la) (by rw [la];exact h)
 ·rintro ⟨_,ta⟩
  exact PyProof.Rows.len_list ta (by exact ar502 hl la) (by rw [la];exact h)
theorem len_ok {p:PV}{v:Value}(I:Inv C fs H s) (hv:VR C s.heap p v) (h:lenQ H p fun r=>Q r H) :
  wpAny (model C.prog C.w) A (call (.builtin "len") [v]) (OkE C fs H s Q) X s:=by
 refine Or.elim (uU h) ?_ ?_
 ·rintro ⟨l,rfl,h⟩
  obtain ⟨t,rfl⟩:=hv
  have e:(⟨l.toArray⟩:Str).length=l.length:=by simp [Str.length]
  refine PySem.P.len_str ?_ ?_
  ·rw [e];lia
  ·rw [e];exact OkE.tok I (VR.mkInt _ _) h.2
 ·intro h
  refine X12 (bT h) fun xs hx h=>?_
  exact seq_len I hv hx (by have:=h.1;exact Nat.le_trans this (Nat.le_add_left _ _)) (OkE.tok I (VR.mkInt _ _) h.2)
noncomputable def kindT:BI→String
 | .isTuple=>"tuple" | .isStr=>"str" | .isInt=>"int" | _=>"bool"
theorem isi_ok {b:BI}(hb:b=.isTuple∨b=.isStr∨b=.isInt∨b=.isBool) {p:PV}{v:Value}{r:Bool}(I:Inv C fs H s) (hv:VR C s.heap p v) (h:gR b p=some r) (hq:Q (.bool r) H) :
  wpAny (model C.prog C.w) A (call (.builtin "isinstance") [v,.type (kindT b)]) (OkE C fs H s Q) X s:=by
 have fin:∀ {c tk},some c=some r→OkE C fs H s Q (.bool c) { s with toks:=tk }:=fun e=>Option.some.inj e▸OkE.tok I VR.mkBool hq
 have fin0:∀ {c},some c=some r→OkE C fs H s Q (.bool c) s:=fun e=>Option.some.inj e▸OkE.here I VR.mkBool hq
 clear hq I isi_ok
 cases p with
 | undef=>exfalso;clear hv fin fin0;rcases hb with rfl|rfl|rfl|rfl<;>nomatch h
 | none=>
  obtain rfl:=hv
  rcases hb with rfl|rfl|rfl|rfl
  ·exact IsiPair.NoneType_tuple (fin h)
  ·exact IsiPair.NoneType_str (fin h)
  ·exact IsiPair.NoneType_int (fin h)
  ·exact IsiPair.NoneType_bool (fin h)
 | bool c=>
  obtain rfl:=hv
  rcases hb with rfl|rfl|rfl|rfl
  ·exact IsiPair.bool_tuple (fin h)
  ·exact IsiPair.bool_str (fin h)
  ·exact IsiPair.bool_int (fin0 h)
  ·exact IsiPair.bool_bool (fin0 h)
 | int i=>
  obtain ⟨t,rfl⟩:=hv
  rcases hb with rfl|rfl|rfl|rfl
  ·exact IsiPair.int_tuple (fin h)
  ·exact IsiPair.int_str (fin h)
  ·exact IsiPair.int_int (fin0 h)
  ·exact IsiPair.int_bool (fin h)
 | str l=>
  obtain ⟨t,rfl⟩:=hv
  rcases hb with rfl|rfl|rfl|rfl
  ·exact IsiPair.str_tuple (fin h)
  ·exact IsiPair.str_str (fin0 h)
  ·exact IsiPair.str_int (fin h)
  ·exact IsiPair.str_bool (fin h)
 | tup xs=>
  refine X23 hv ?_
  clear hv
  rintro a items rfl ⟨o,ho,hc,_⟩ _
  rcases hb with rfl|rfl|rfl|rfl
  ·exact IsiPair.tuple_tuple ho hc (fin0 h)
  ·exact IsiPair.tuple_str ho hc (fin h)
  ·exact IsiPair.tuple_int ho hc (fin h)
  ·exact IsiPair.tuple_bool ho hc (fin h)
 | lst a=>exfalso;clear hv fin fin0;rcases hb with rfl|rfl|rfl|rfl<;>nomatch h
 | obj a=>exfalso;clear hv fin fin0;rcases hb with rfl|rfl|rfl|rfl<;>nomatch h
 | fn a=>exfalso;clear hv fin fin0;rcases hb with rfl|rfl|rfl|rfl<;>nomatch h
 | clst a=>exfalso;clear hv fin fin0;rcases hb with rfl|rfl|rfl|rfl<;>nomatch h
 | rng a=>exfalso;clear hv fin fin0;rcases hb with rfl|rfl|rfl|rfl<;>nomatch h
theorem dU (h:Heap):h.get? h.objs.size=none:=by
 cases q:h.get? h.objs.size with
 | none=>rfl
 | some o=>exact absurd (Heap.lt_size q) (Nat.lt_irrefl _)
theorem Jr (I:Inv C fs H s) {a:Nat}{m:dJ}{h':Heap}{tk:Tok}(k:∀ b o,s.heap.get? b=some o→h'.get? b=some o) (hn:s.heap.get? a=none):aM fs H s (H.set a m) { s with heap:=h',toks:=tk }:=by
 refine ⟨fun b ob e h=>⟨?_,.inl (k _ _ e)⟩,fun b hb=>?_⟩
 ·unfold MH.set;rw [if_neg (fun q=>by rw [q,hn] at e;cases e)];exact h
 ·unfold MH.set;split
  ·exact fun q=>nomatch q
  ·exact hb
theorem add_inv (I:Inv C fs H s) {a:Nat}{m:dJ}{h':Heap}{tk:Tok}(k:∀ b o,s.heap.get? b=some o→h'.get? b=some o) (hn:s.heap.get? a=none) (hb:C.base.get? a=none) (hm:HR C h' a m):Inv C fs (H.set a m) { s with heap:=h',toks:=tk }:=by
 have I':=aN (tk:=tk) I k
 refine ⟨I'.stays,I'.frames,fun b ob e=>?_,I'.gens,I'.os⟩
 unfold MH.set at e
 split at e
 ·rename_i q;subst q;cases e;exact ⟨hb,hm⟩
 ·exact I'.hrel b ob e
theorem bi_ok {b:BI}{ps:List PV}{vs:List Value}(hh:A.handled=none) (I:Inv C fs H s) (hv:VRs C s.heap ps vs) (h:biQ b ps H Q) (hb:¬(b=.isTuple∨b=.isStr∨b=.isInt∨b=.isBool)) :
  wpAny (model C.prog C.w) A (call (zF b) vs) (OkE C fs H s Q) X s:=by
 cases b with
 | len=>
  obtain ⟨x,rfl,h⟩:=fG h
  obtain ⟨v,r,rfl,hv,rfl⟩:=hv
  exact len_ok I hv h
 | min=>
  obtain ⟨x,y,rfl,h⟩:=uR h
  obtain ⟨a,rfl,h⟩:=cG h
  obtain ⟨b,rfl,h⟩:=cG h
  obtain ⟨v,r,rfl,⟨t,rfl⟩,v2,r2,rfl,⟨u,rfl⟩,rfl⟩:=hv
  refine PySem.min_two_ints hh fun h' tk k=>?_
  refine I24 H _ (aK k) (aN I k) (?_) h
  by_cases q:b<a
  ·simp only [if_pos q];exact VR.mkInt _ _
  ·simp only [if_neg q];exact VR.mkInt _ _
 | max=>
  obtain ⟨x,y,rfl,h⟩:=uR h
  obtain ⟨a,rfl,h⟩:=cG h
  obtain ⟨b,rfl,h⟩:=cG h
  obtain ⟨v,r,rfl,⟨t,rfl⟩,v2,r2,rfl,⟨u,rfl⟩,rfl⟩:=hv
  refine PySem.max_two_ints hh fun h' tk k=>?_
  refine I24 H _ (aK k) (aN I k) (?_) h
  by_cases q:a<b
  ·simp only [gt_iff_lt,if_pos q];exact VR.mkInt _ _
  ·simp only [gt_iff_lt,if_neg q];exact VR.mkInt _ _
 | range=>
  obtain ⟨x,rfl,h⟩:=fG h
  obtain ⟨n,rfl,h⟩:=cG h
  obtain ⟨v,r,rfl,⟨t,rfl⟩,rfl⟩:=hv
  refine call_range_1 ?_
  exact I24 H _ (aK (aP _ _)) (aN I (aP _ _)) (VR.mkRng (Heap.get?_push_size _ rfl)) (h.2.2)
 | tuple=>
  obtain ⟨x,rfl,h⟩:=fG h
  obtain ⟨a,xs,rfl,ha,h⟩:=iD h
  obtain ⟨v,r,rfl,rfl,rfl⟩:=hv
  obtain ⟨items,n,ho,rx⟩:=cA I ha
  have la:=rx.length
  rw [Array.length_toList] at la
  refine call_tuple_list (items:=items) ⟨_,ho,rfl,n,rfl⟩ (fun h' k=>?_) (by rw [la,sizeLine_eq];have:=h.1;exact ar31 this)
  have S1:aM fs H s H { s with heap:=h' }:=aK (tk:=s.toks) k
  have I1:Inv C fs H { s with heap:=h' }:=aN (tk:=s.toks) I k
  exact OkE.after S1 (OkE.newTup (tk:=s.toks) I1 (VRs.keeps k rx) h.2)
 | list=>
  obtain ⟨x,rfl,h⟩:=fG h
  obtain ⟨a,xs,rfl,ha,h⟩:=iD h
  obtain ⟨v,r,rfl,rfl,rfl⟩:=hv
  obtain ⟨items,n,ho,rx⟩:=cA I ha
  have la:=rx.length
  rw [Array.length_toList] at la
  refine call_list_seq _ (.inl rfl) ho rfl rfl (fun h' c' k hD=>?_) (by rw [la,sizeLine_eq];have:=h.1;exact ar31 this)
  have hn:=dU s.heap
  exact I24 _ (.lst s.heap.objs.size) (Jr (tk:=s.toks) (m:=.list xs) I k hn) (add_inv (tk:=s.toks) I k hn I.stays.fresh (m:=.list xs) (I22 items c' hD (VRs.keeps k rx))) rfl (h.2 _ (I.none_fresh hn))
 | int=>
  obtain ⟨x,rfl,h⟩:=fG h
  obtain ⟨b,rfl,h⟩:=Ed h
  obtain ⟨v,r,rfl,rfl,rfl⟩:=hv
  exact call_int_bool (OkE.tok I (VR.mkInt _ _) h)
 | isTuple=>exact absurd (.inl rfl) hb
 | isStr=>exact absurd (.inr (.inl rfl)) hb
 | isInt=>exact absurd (.inr (.inr (.inl rfl))) hb
 | isBool=>exact absurd (.inr (.inr (.inr rfl))) hb
end
end Mine.Internal
end
noncomputable section
open PySem.SeqAt
set_option maxRecDepth 100000
namespace Mine.Internal
theorem Jm:(bG 0==bG 1)=false:=by decide +kernel
theorem zK {j k:Nat}(hj:j<2) (hk:k<2):(bG j==bG k)=decide (j=k):=by
 have h01:=Jm
 have h10:(bG 1==bG 0)=false:=by decide +kernel
 match j,k,hj,hk with
 | 0,0,_,_=>simp
 | 0,1,_,_=>simpa using h01
 | 1,0,_,_=>simpa using h10
 | 1,1,_,_=>simp
section
variable {C:Cx}{fs:List Env}{H H':MH}{s s':Shared}{A:Around}{X:Value→Shared→Prop}{Q:QV}
theorem rX {h:Heap}:∀ {es:List (Nat×PV)}{l:List DictEntry},jY C h es l→l.any (·.refKey)=false:=by
 intro x0
 induction x0 with
 | nil=>
  intro J e
  rw [show _=[] from e];rfl
 | cons x8 r ih=>
  intro J z1
  obtain ⟨_,_⟩:=x8
  obtain ⟨e,l',rfl,⟨_,t,hk⟩,_,hr⟩:=z1
  rw [List.any_cons,ih hr,Bool.or_false]
  unfold DictEntry.refKey;rw [hk]
theorem Gh {h:Heap}{k:Nat}(hk:k<2):∀ {es:List (Nat×PV)}{l:List DictEntry}{p:PV},jY C h es l→vU k es=some p→∃ en,l.find? (·.key.isStr (bG k))=some en∧VR C h p en.val:=by
 intro x0
 induction x0 with
 | nil=>
  intro J J J e
  exact (by contradiction)
 | cons x8 r ih=>
  intro J p z2 g
  obtain ⟨j,q⟩:=x8
  obtain ⟨e,l',rfl,⟨hj,t,hkey⟩,hv,hr⟩:=z2
  have hs:e.key.isStr (bG k)=decide (j=k):=by rw [hkey];exact zK hj hk
  rw [List.find?_cons,hs]
  unfold vU at g
  by_cases hjk:j=k
  ·rw [if_pos hjk] at g;cases g
   rw [decide_eq_true hjk];exact I12 e rfl hv
  ·rw [if_neg hjk] at g
   rw [decide_eq_false hjk];exact ih hr g
theorem Gg {h:Heap}{name:Str}(hn:∀ j,j<2→(bG j==name)=false):∀ {es:List (Nat×PV)}{l:List DictEntry},jY C h es l→l.find? (·.key.isStr name)=none:=by
 intro x0
 induction x0 with
 | nil=>
  intro J e
  rw [show _=[] from e];rfl
 | cons x8 r ih=>
  intro J z1
  obtain ⟨j,q⟩:=x8
  obtain ⟨e,l',rfl,⟨hj,t,hkey⟩,hv,hr⟩:=z1
  have hs:e.key.isStr name=false:=by rw [hkey];exact hn j hj
  rw [List.find?_cons,hs];exact ih hr
theorem Ix {h:Heap}{k:Nat}(hk:k<2) {v:Value}{p:PV}(hv:VR C h p v) {hsh:Int}{tk:Tok}:∀ {es:List (Nat×PV)}{l:List DictEntry},jY C h es l→jY C h (mB k p es) (putL (bG k) hsh (.str (bG k) tk) v l):=by
 intro x0
 induction x0 with
 | nil=>
  intro J e
  rw [show _=[] from e];exact I24 _ ([]) rfl ⟨hk,tk,rfl⟩ hv rfl
 | cons x8 r ih=>
  intro J z1
  obtain ⟨j,q⟩:=x8
  obtain ⟨e,l',rfl,⟨hj,t,hkey⟩,hq,hr⟩:=z1
  have hs:e.key.isStr (bG k)=decide (j=k):=by rw [hkey];exact zK hj hk
  unfold putL mB
  by_cases hjk:j=k
  ·rw [if_pos hjk,hs,decide_eq_true hjk];exact I24 _ l' rfl ⟨hj,t,hkey⟩ hv hr
  ·rw [if_neg hjk,hs,decide_eq_false hjk];exact I24 e _ rfl ⟨hj,t,hkey⟩ hq (ih hr)
theorem gZ (O:fN C) (I:Inv C fs H s):C.K.In s.heap:=fun a o e=>I.stays _ _ (O.KIn a o e)
theorem vS (I:Inv C fs H s) {a d:Nat}{es:List (Nat×PV)}(ha:H a=some (.inst d)) (hd:H d=some (.flds es)) :
  ∃ des n,s.heap.get? d=some ⟨.type "dict",none,.dict des n,#[]⟩∧jY C s.heap es des.toList∧PySem.W.InstAt s.heap a (instObj C.W d) C.W (some (dictOf des.toList n)):=by
 have h1:s.heap.get? a=some (instObj C.W d):=(I.hrel a _ ha).2
 refine X22 ((I.hrel d _ hd).2) fun des n h2 h3=>?_
 refine I23 des n h2 h3 ⟨h1,rfl,rfl,?_⟩
 show s.heap.get? d=some (dictOf des.toList n)
 rw [h2]
theorem VR.handed {h:Heap}{p:PV}{v:Value}(r:VR C h p v):handedIn v=true:=by
 cases p with
 | undef=>exact r.elim
 | none=>rw [show v=_ from r];rfl
 | bool _=>rw [show v=_ from r];rfl
 | int _=>obtain ⟨_,e⟩:=r;rw [e];rfl
 | str _=>obtain ⟨_,e⟩:=r;rw [e];rfl
 | tup _=>obtain ⟨_,_,e,_⟩:=r;rw [e];rfl
 | lst _=>rw [show v=_ from r];rfl
 | obj _=>rw [show v=_ from r];rfl
 | fn _=>rw [show v=_ from r];rfl
 | clst _=>obtain ⟨_,_,e,_⟩:=r;rw [e];rfl
 | rng _=>obtain ⟨_,_,_,_,e,_⟩:=r;rw [e];rfl
theorem Ea (O:fN C) {k:Nat}(hk:k<2) {o:PV}{v:Value}{b:Bool}(I:Inv C fs H s) (hv:VR C s.heap o v) (h:nX k o H Q) :
  wpAny (model C.prog C.w) A (getAttr v (bG k) b) (OkE C fs H s Q) X s:=by
 refine hC fun hG=>?_
 obtain ⟨a,d,es,rfl,ha,hd,h⟩:=asO_i h<;>(refine hG ?_;clear hG)
 refine X12 (bT h) fun p hp h=>?_
 obtain rfl:=hv
 refine X23 (vS I ha hd) fun des n h2 h3 IA=>?_
 refine X12 (Gh hk h3 hp) fun en he hr=>?_
 have hg:=plainGet_of (name:="") O.wget
 refine get_value (gZ O I) IA hg.1 (findObj_own (attr:=none) O.wdict (O.wattr k) rfl (v:=en.val) ?_) hr.handed (OkE.tok I hr h)
 rw [lookIn_dict]
 unfold getL;rw [he]
theorem Fu {x d:Addr}{des:Array DictEntry}{n:Nat}{name:Str}{tk:Tok}{v:Value}{R:Result→Shared→Prop}(X:C.K.In s.heap)
  (I:PySem.W.InstAt s.heap x (instObj C.W d) C.W (some (dictOf des.toList n))) (D:s.heap.get? d=some (dictOf des.toList n)) (hp:plainOver C.K C.W=true) (ht:takerIn C.K C.W name=some none) (hh:hasDictIn C.K C.W=true)
  (hl:des.toList.any (·.refKey)=false) (hz:des.size≤1000)
  (h:R (.ok (.ret .none)) { s with heap:=s.heap.update d (Obj.putName name (PyData.keyHash C.w.params name) (.str name s.toks) v),toks:=s.toks+1 }) :
  codeAny (model C.prog C.w) A (.call (.builtin "object.__setattr__") ⟨[.ref x,.str name tk,v],[]⟩) R s:=by
 refine osa_open X I hp ht fun b=>?_
 refine X12 (any_some hh) fun cd hc hd'=>?_
 have e:=putName_dict name (PyData.keyHash C.w.params name) (.str name s.toks) v des.toList n
 have D':(s.heap.update d (Obj.putName name (PyData.keyHash C.w.params name) (.str name s.toks) v)).get? d=some (dictOf (putL name (PyData.keyHash C.w.params name) (.str name s.toks) v des.toList) (putN name des.toList n)):=by
  rw [←e];exact Heap.get?_update_self _ D (by rw [e];rfl)
 obtain ⟨hx,hcl,hn,-⟩:=I
 refine wpAny_bind (wpAny_pure (wpAny_bind (wpAny_bind (wpAny_loadPart hx (wpAny_bind ((looks_clsIn X hc).here ?_))))))
 refine Eq.symm (hd')▸?_
 refine wpAny_pure (a:=some d) (wpAny_bind (wpAny_pure (wpAny_bind ?_)))
 unfold nsSet
 refine wpAny_bind (wpAny_bind (wpAny_askSetting (wpAny_pure (wpAny_bind (wpAny_mkText (wpAny_bind (wpAny_loadPart D ?_)))))))
 dsimp only
 have c:(!des.toList.toArray.any (·.key.isStr name)&&des.toList.toArray.any (·.refKey))=false:=by
  have e:(des.toList.toArray.any fun x:DictEntry=>x.refKey)=false:=by rw [←Array.any_toList];exact hl
  rw [e,Bool.and_false]
 rw [aRefKeyMayBeTheName_at,c]
 refine wpAny_updatePart D ?_
 refine wpAny_bind (wpAny_lookBehind D' (pastItsLine_dict ?_) ?_)
 ·have key:∀ l:List DictEntry,(putL name (PyData.keyHash C.w.params name) (.str name s.toks) v l).length≤l.length+1:=by
   intro l
   induction l with
   | nil=>exact Nat.le_refl _
   | cons e r ih=>unfold putL;split<;>simp only [List.length_cons]<;>lia
  have hk:=key des.toList
  have hk2:des.toList.length=des.size:=Array.length_toList
  have e3:(putL name (PyData.keyHash C.w.params name) (.str name s.toks) v des.toList).toArray.size=(putL name (PyData.keyHash C.w.params name) (.str name s.toks) v des.toList).length:=rfl
  refine Eq.symm (sizeLine_eq)▸?_
  first|(rw [e3];assumption)|(rw [e2];omega)|exact ar44 hz hk hk2 e3
 ·exact wpAny_pure h
theorem takerW (O:fN C) {k:Nat}:takerIn C.K C.W (bG k)=some none:=by
 unfold takerIn;rw [O.wattr k];rfl
theorem Gf {h:Heap}:∀ {es:List (Nat×PV)}{l:List DictEntry},jY C h es l→l.length=es.length:=by
 intro x0
 induction x0 with
 | nil=>
  intro J e
  rw [show _=[] from e];rfl
 | cons x8 r ih=>
  intro J z1
  obtain ⟨_,_⟩:=x8
  obtain ⟨e,l',rfl,_,_,hr⟩:=z1
  rw [List.length_cons,List.length_cons,ih hr]
theorem qS (O:fN C) {k:Nat}(hk:k<2) {o p:PV}{v w:Value}{R:MH→Prop}(I:Inv C fs H s) (hv:VR C s.heap o v) (hw:VR C s.heap p w) (h:eI k o p H R) :
  wpAny (model C.prog C.w) A (setAttr v (bG k) w) (fun J s'=>∃ H',aM fs H s H' s'∧Inv C fs H' s'∧R H') X s:=by
 refine hC fun hG=>?_
 obtain ⟨a,d,es,rfl,ha,hd,h⟩:=asO_i h<;>(refine hG ?_;clear hG)
 obtain rfl:=hv
 refine X23 (vS I ha hd) fun des n h2 h3 IA=>?_
 have hl:=Gf h3
 rw [Array.length_toList] at hl
 have K0:=gZ O I
 refine set_plain K0 IA O.wset (Fu (s:={ s with toks:=s.toks+1 }) K0 IA (by rw [h2]) O.wover (takerW O) O.wdict (rX h3) (by have:=h.1;exact Nat.le_trans (Nat.le_of_eq hl) this) ?_)
 have hs:=Heap.SameBut.update s.heap d (Obj.putName (bG k) (PyData.keyHash C.w.params (bG k)) (.str (bG k) (s.toks+1)) w)
 have hget:(s.heap.update d (Obj.putName (bG k) (PyData.keyHash C.w.params (bG k)) (.str (bG k) (s.toks+1)) w)).get? d=some (dictOf (putL (bG k) (PyData.keyHash C.w.params (bG k)) (.str (bG k) (s.toks+1)) w des.toList) (putN (bG k) des.toList n)):=by
  rw [←putName_dict];exact Heap.get?_update_self _ h2 (by
   have e:=putName_dict (bG k) (PyData.keyHash C.w.params (bG k)) (.str (bG k) (s.toks+1)) w des.toList n
   have e2:dictOf des.toList n=⟨.type "dict",none,.dict des n,#[]⟩:=rfl
   rw [e2] at e;rw [e];rfl)
 refine I13 (H.set d (.flds (mB k p es))) (qK hd hs) (uP I hd hs (I22 _ _ hget (?_)) (fun ob e vs=>by rw [hget] at e;cases e;exact fun q=>by cases q)) (h.2)
 refine Eq.symm (List.toList_toArray)▸?_
 exact Ix hk (VR.but I hd hs hw) (h3.mono fun J J=>VR.but I hd hs)
theorem Fc {o i p:PV}{v w u:Value}{R:MH→Prop}(I:Inv C fs H s) (hv:VR C s.heap o v) (hi:VR C s.heap i u) (hw:VR C s.heap p w) (h:mU o i p H R) :
  wpAny (model C.prog C.w) A (setItem v u w) (fun J s'=>∃ H',aM fs H s H' s'∧Inv C fs H' s'∧R H') X s:=by
 refine hC fun hG=>?_
 obtain ⟨a,xs,rfl,ha,h⟩:=iD h<;>(refine hG ?_;clear hG)
 refine hC fun hG=>?_
 obtain ⟨k,rfl,h⟩:=cG h<;>(refine hG ?_;clear hG)
 obtain rfl:=hv
 obtain ⟨t,rfl⟩:=hi
 refine X22 (cA I ha) fun items n ho rx=>?_
 have la:=rx.length
 replace la:=(Array.length_toList)▸la
 refine X04 h fun h0 h1 h2 h3=>?_
 refine ki_setAt (n:=n) ho h0 (by omega) (ar46 la h1) ?_
 have hs:=Heap.SameBut.update s.heap a (Obj.mapSeq (·.setIfInBounds k.toNat w))
 have hu:=PySem.IsL.update (n:=n) ho (fun x=>x.setIfInBounds k.toNat w)
 have hm:HR C (s.heap.update a (Obj.mapSeq (·.setIfInBounds k.toNat w))) a (.list (xs.set k.toNat p)):=
  (I22 _ _ hu (by rw [Array.toList_setIfInBounds];exact VRs.but I ha hs (rx.set _ hw)))
 exact I13 _ (qK (tk:=s.toks) ha hs) (uP (tk:=s.toks) I ha hs hm (fun ob e vs=>by rw [hu] at e;cases e;exact fun q=>by cases q)) h3
theorem Ga (O:fN C) {i:Nat}{x:Str}(hx:rI i=some x) {a d:Nat}{es:List (Nat×PV)}{pl:Sem Bool}{R:Value×List Value→Shared→Prop}(I:Inv C fs H s) (ha:H a=some (.inst d)) (hd:H d=some (.flds es))
  (hn:∀ j,j<2→(bG j==x)=false) (h:R (.ref (C.fn i),[.ref a]) s):wpAny (model C.prog C.w) A (getMethod (.ref a) x pl) R X s:=by
 refine X23 (vS I ha hd) fun des n h2 h3 IA=>?_
 have hg:=plainGet_of (name:="") O.wget
 refine method_fn (gZ O I) IA hg.1 hg.2 (O.wmeth i x hx) (beq_iff_eq.mp (O.wfn i x hx)) ?_ h
 show (lookIn x (dictOf des.toList n)).map _=_
 rw [lookIn_dict]
 unfold getL
 rw [Gg hn h3,rX h3]
 rfl
end
end Mine.Internal
end
noncomputable section
namespace Mine.Internal
section
variable {C:Cx}{fs:List Env}{H H' H₀:MH}{s s' s₀:Shared}{A:Around}{X:Value→Shared→Prop}
structure gD (C:Cx) (fs:List Env) (H₀:MH) (s₀:Shared) (H:MH) (e:Nat) (s:Shared):Prop where
 b0:C.base.StaysIn s₀.heap
 nl:∀ b∈bH fs,H b=none
 step:aM fs H₀ s₀ H s
 inv:Inv C fs H s
 exc:uK C H s₀ e s
theorem eO (I:Inv C fs H s) (n:∀ b∈bH fs,H b=none) (S:aM fs H s H' s'):∀ b∈bH fs,H' b=none:=fun b hb=>
 (I.frames.mem hb).2.elim fun o z=>(S.keep b _ z.1 (n b hb)).1
noncomputable def Rec (s₀ s:Shared) (b:Nat):Prop:=s₀.heap.get? b=none∧∃ o vs,s.heap.get? b=some o∧o.data=.fields vs∧o.cls≠.type "range"
theorem gD.move (F:gD C fs H₀ s₀ H e s) {h':Heap}
  (k:∀ b o,s.heap.get? b=some o→Rec s₀ s b∨h'.get? b=some o∨(b∈bH fs∧∃ sl,h'.get? b=some { o with slots:=sl }))
  (x:uK C H s₀ e { s with heap:=h' }):gD C fs H₀ s₀ H e { s with heap:=h' }:=by
 have nH:=F.nl
 have old:∀ b o,s.heap.get? b=some o→(∀ vs,o.data≠.fields vs)→∃ sl,h'.get? b=some { o with slots:=sl }:=fun b o e hn=>by
  rcases k b o e with ⟨_,o',vs,e',hd,_⟩|e' | ⟨_,sl,e'⟩
  ·rw [e] at e';cases e';exact absurd hd (hn vs)
  ·exact ⟨o.slots,e'⟩
  ·exact ⟨sl,e'⟩
 have kt:∀ a items,IsTup s.heap a items→IsTup h' a items:=fun a items z=>X13 z fun o e hc z=>Exists.elim z fun n hd=>by
  obtain ⟨sl,e'⟩:=old a o e (by rw [hd];exact fun J q=>nomatch q)
  exact ⟨_,e',hc,n,hd⟩
 have kr:∀ a x y z t u w,IsRange s.heap a x y z t u w→IsRange h' a x y z t u w:=fun a x y z t u w e=>by
  refine hC fun hG=>?_
  rcases k a _ e with ⟨_,o',vs,e',hd,hc⟩|e' | ⟨hm,_⟩<;>(refine hG ?_;clear hG)
  ·rw [show s.heap.get? a=_ from e] at e';cases e';exact absurd rfl hc
  ·exact e'
  ·refine hC fun hG=>?_
   obtain ⟨_,o',e',hn⟩:=F.inv.frames.mem hm<;>(refine hG ?_;clear hG)
   rw [show s.heap.get? a=_ from e] at e';cases e';exact absurd rfl (hn _)
 refine ⟨F.b0,F.nl,⟨fun b o e h=>?_,F.step.mono⟩,⟨fun b o e=>?_,F.inv.frames.of_keeps fun b o e hn=>?_,fun a o e=>⟨(F.inv.hrel a o e).1,?_⟩,F.inv.gens,F.inv.os⟩,x⟩
 ·refine hC fun hG=>?_
  obtain ⟨h1,e1|⟨m,sl,e1⟩⟩:=F.step.keep b o e h<;>(refine hG ?_;clear hG)
  ·rcases k b _ e1 with ⟨q,_⟩|e' | e'
   ·rw [e] at q;cases q
   ·exact ⟨h1,.inl e'⟩
   ·exact ⟨h1,.inr e'⟩
  ·rcases k b _ e1 with ⟨q,_⟩|e' | ⟨_,sl',e'⟩
   ·rw [e] at q;cases q
   ·exact ⟨h1,.inr ⟨m,sl,e'⟩⟩
   ·exact ⟨h1,.inr ⟨m,sl',e'⟩⟩
 ·rcases k b o (F.inv.stays b o e) with ⟨q,_⟩|e' | ⟨m,_⟩
  ·rw [F.b0 b o e] at q;cases q
  ·exact e'
  ·refine X02 (F.inv.frames.mem m) fun q J=>?_
   rw [e] at q;cases q
 ·obtain ⟨sl,e'⟩:=old b o e hn
  exact I12 _ e' rfl
 ·refine (F.inv.hrel a o e).2.mono (fun J J=>VR.of kt kr) (fun J J=>VRs.of kt kr) fun ob e'=>?_
  refine X14 ((F.inv.hrel a o e).2.there) fun ob' e'' J hn J=>?_
  rw [e'] at e'';cases e''
  refine hC fun hG=>?_
  rcases k a ob e' with ⟨_,o',vs,e'',hd,_⟩|e'' | ⟨m,_⟩<;>(refine hG ?_;clear hG)
  ·rw [e'] at e'';cases e'';exact absurd hd (hn vs)
  ·exact e''
  ·rw [nH a m] at e;cases e
noncomputable def uJ (s₀:Shared) (e:Nat) (s:Shared):Prop:=∃ oe vs T oT ts,s.heap.get? e=some oe∧oe.data=.fields vs∧vs[1]?=some (.ref T)∧T≠e∧s.heap.get? T=some oT∧oT.data=.fields ts∧3<ts.size∧s₀.heap.get? T=none∧oT.cls=.type "traceback"
theorem gD.recE (F:gD C fs H₀ s₀ H e s):Rec s₀ s e:=by
 refine X25 (F.exc) fun oe vs h1 h2 h3 h4 J=>?_
 exact ⟨h4,oe,vs,h1,h3,by rw [h2];simp⟩
theorem gI {M:Model}{Ex:Value→Shared→Prop}{fr:Option Addr}{Q:Unit→Shared→Prop}(F:gD C fs H₀ s₀ H e s) (W:uJ s₀ e s)
  (h:∀ s',gD C fs H₀ s₀ H e s'→uJ s₀ e s'→Q () s'):wpAny M A (setFlight (.ref e) fr) Q Ex s:=by
 refine hC fun hG=>?_
 obtain ⟨oe,vs,T,oT,ts,he,hd,h1,hTe,hT,hdT,h3,hn,hc⟩:=W<;>(refine hG ?_;clear hG)
 refine X25 (F.exc) fun oe' vs' g1 g2 g3 g4 J=>?_
 rw [he] at g1;cases g1
 rw [hd] at g3;cases g3
 unfold setFlight
 refine wpAny_bind (wpAny_field he hd h1 ?_)
 refine Eq.symm (if_pos (show (Value.ref T != Value.none)=true from rfl))▸?_
 generalize (fr.elim Value.none fun f=>rawInt f)=v
 have other:∀ b,b≠T→(s.heap.update T (Obj.mapFields (·.setIfInBounds 3 v))).get? b=s.heap.get? b:=fun b hb=>Heap.get?_update_other _ _ (Ne.symm hb)
 have hT':=Heap.get?_update_self (Obj.mapFields (·.setIfInBounds 3 v)) hT (Obj.isFreed_of_fields (Obj.data_mapFields hdT _))
 have he':=(other e (Ne.symm hTe)).trans he
 have hsz:3<(ts.setIfInBounds 3 v).size:=by simpa using h3
 have hcl:(Obj.mapFields (·.setIfInBounds 3 v) oT).cls=.type "traceback":=(Obj.cls_mapFields _ _).trans hc
 refine wpAny_setField hT hdT h3 (h _ (F.move (fun b o eb=>?_) (I25 oe vs he' g2 hd g4 (.inr ⟨T,_,_,h1,hTe,hT',Obj.data_mapFields hdT _,hsz,hn,hcl⟩)))
  ⟨oe,vs,T,_,_,he',hd,h1,hTe,hT',Obj.data_mapFields hdT _,hsz,hn,hcl⟩)
 by_cases q:b=T
 ·clear hcl hsz he' hT' g4 g2 h3 hTe
  subst q;exact .inl ⟨hn,oT,ts,hT,hdT,by rw [hc];simp⟩
 ·exact .inr (.inl ((other b q).trans eb))
theorem yS {M:Model}{Ex:Value→Shared→Prop}{env:Env}{outer:List Env}{L:Addr}{hadNext:Bool}{head:Value}{Q:Unit→Shared→Prop}(hfr:A.frames=some (env::outer)) (hf:env.frame=some L)
  (F:gD C (env::outer) H₀ s₀ H e s) (h:∀ s',gD C (env::outer) H₀ s₀ H e s'→uJ s₀ e s'→Q () s') :
  wpAny M A (do let a ←frameOf env;let pl ←entryPlaceOf L hadNext;let b ←EntryCells.newEntry head a .none (rawInt L) .none pl;setField (.ref e) 1 b) Q Ex s:=by
 refine wpAny_bind (wpAny_frameOf_fun hfr F.inv.frames hf fun h₁ hs₁=>?_)
 have F₁:gD C (env::outer) H₀ s₀ H e { s with heap:=h₁ }:=F.move (fun b o eb=>by
   by_cases q:b∈bH (env::outer)
   ·exact .inr (.inr ⟨q,hs₁.2.2 b o eb⟩)
   ·exact .inr (.inl ((hs₁.2.1 b q).trans eb))) (by
  have nf:∀ b o vs,s.heap.get? b=some o→o.data=.fields vs→h₁.get? b=some o:=fun b o vs eb hd=>(hs₁.2.1 b fun m=>by
   obtain ⟨_,o',e',hn⟩:=F.inv.frames.mem m
   rw [eb] at e';cases e';exact hn vs hd).trans eb
  refine X25 (F.exc) fun oe vs h1 h2 h3 h4 h5=>?_
  refine I25 oe vs (nf _ _ _ h1 h3) h2 h3 h4 (h5.imp id ?_)
  intro z
  refine X35 z fun T oT ts a b c d r=>?_
  exact (I35 T oT ts a b (nf _ _ _ c d) d r))
 refine wpAny_bind (wpAny_entryPlaceOf fun pl hpl=>?_)
 unfold EntryCells.newEntry newFields
 refine wpAny_bind (wpAny_newObj_type ?_ (hpl.sizeOk5 _ _ _ _ _))
 refine X25 (F₁.exc) fun oe vs he₁ hcls hd hn h5=>?_
 have hsz:1<vs.size:=by
  rcases h5 with q|⟨_,_,_,q,_⟩<;>exact (Array.getElem?_eq_some_iff.mp q).1
 generalize hob:({ cls:=.type "traceback",dict:=none,data:=.fields ([head,.ref L,.none,rawInt L,.none]++(if pl.isEmpty then List.replicate 6 Value.none else pl)).toArray }:Obj)=ob
 have he₂:=Heap.get?_push_of_some (h:=h₁) ob he₁
 refine wpAny_setField he₂ hd hsz ?_
 have hTe:h₁.objs.size≠e:=Nat.ne_of_gt (Heap.lt_size he₁)
 have hd₃:=Obj.data_mapFields hd (·.setIfInBounds 1 (Value.ref h₁.objs.size))
 have he₃:=Heap.get?_update_self (Obj.mapFields (·.setIfInBounds 1 (Value.ref h₁.objs.size))) he₂ (Obj.isFreed_of_fields hd₃)
 have hT₃:=(Heap.get?_update_other (h₁.push ob) (Obj.mapFields (·.setIfInBounds 1 (Value.ref h₁.objs.size))) (Ne.symm hTe)).trans (Heap.get?_push_size h₁ (by subst hob;rfl))
 have hTn:s₀.heap.get? h₁.objs.size=none:=bY F₁.step F₁.inv (dU h₁)
 have hv1:(vs.setIfInBounds 1 (Value.ref h₁.objs.size))[1]?=some (.ref h₁.objs.size):=by simp [hsz]
 have hts:ob.data=.fields ([head,.ref L,.none,rawInt L,.none]++(if pl.isEmpty then List.replicate 6 Value.none else pl)).toArray:=by subst hob;rfl
 have h3:3<([head,.ref L,.none,rawInt L,.none]++(if pl.isEmpty then List.replicate 6 Value.none else pl)).toArray.size:=by simp only [List.size_toArray,List.length_append,List.length_cons,List.length_nil];simp +arith
 have hcT:ob.cls=.type "traceback":=by subst hob;rfl
 refine h _ (F₁.move (fun b o eb=>?_) (I25 _ _ he₃ ((Obj.cls_mapFields _ _).trans hcls) hd₃ hn (.inr ⟨_,_,_,hv1,hTe,hT₃,hts,h3,hTn,hcT⟩))) ⟨_,_,_,_,_,he₃,hd₃,hv1,hTe,hT₃,hts,h3,hTn,hcT⟩
 by_cases q:b=e
 ·clear hcT hts hv1 hTn hT₃ he₃ hd₃ hTe
  subst q;exact .inl F₁.recE
 ·exact .inr (.inl ((Heap.get?_update_other _ _ (Ne.symm q)).trans (Heap.get?_push_of_some _ eb)))
theorem jH {M:Model}{Ex:Value→Shared→Prop}{env:Env}{outer:List Env}{L:Addr}{Q:Unit→Shared→Prop}(hfr:A.frames=some (env::outer)) (hf:env.frame=some L)
  (F:gD C (env::outer) H₀ s₀ H e s) (h:∀ s',gD C (env::outer) H₀ s₀ H e s'→uJ s₀ e s'→Q () s'):wpAny M A (noteFrame (.ref e) env) Q Ex s:=by
 refine X25 (F.exc) fun oe vs he hcls hd hn h5=>?_
 unfold noteFrame
 simp only [hf]
 refine Or.elim h5 ?_ ?_
 ·intro h1
  refine wpAny_bind (wpAny_field he hd h1 ?_)
  rw [if_neg (by decide)]
  exact yS hfr hf F h
 ·rintro ⟨T,oT,ts,h1,hTe,hT,hdT,h3,hTn,hcT⟩
  refine wpAny_bind (wpAny_field he hd h1 ?_)
  refine Eq.symm (if_pos (show (Value.ref T != Value.none)=true from rfl))▸?_
  refine wpAny_bind (wpAny_field (x:=ts[3]) hT hdT (Array.getElem?_eq_getElem h3) ?_)
  split
  ·exact wpAny_pure (h _ F ⟨oe,vs,T,oT,ts,he,hd,h1,hTe,hT,hdT,h3,hTn,hcT⟩)
  ·have other:∀ b,b≠T→(s.heap.update T (Obj.mapFields (·.setIfInBounds 3 Value.none))).get? b=s.heap.get? b:=fun b hb=>Heap.get?_update_other _ _ (Ne.symm hb)
   have hT':=Heap.get?_update_self (Obj.mapFields (·.setIfInBounds 3 Value.none)) hT (Obj.isFreed_of_fields (Obj.data_mapFields hdT _))
   have he':=(other e (Ne.symm hTe)).trans he
   have hsz:3<(ts.setIfInBounds 3 Value.none).size:=by simpa using h3
   have hcl:(Obj.mapFields (·.setIfInBounds 3 Value.none) oT).cls=.type "traceback":=(Obj.cls_mapFields _ _).trans hcT
   refine wpAny_bind (wpAny_setField hT hdT h3 (yS hfr hf (F.move (fun b o eb=>?_) (I25 oe vs he' hcls hd hn (.inr ⟨T,_,_,h1,hTe,hT',Obj.data_mapFields hdT _,hsz,hTn,hcl⟩))) h))
   by_cases q:b=T
   ·clear hcl hsz he' hT' hTe h1 h5 hn
    subst q;exact .inl ⟨hTn,oT,ts,hT,hdT,by rw [hcT];simp⟩
   ·exact .inr (.inl ((other b q).trans eb))
theorem Cb {M:Model}{Ex:Value→Shared→Prop}{env:Env}{outer:List Env}{L:Addr}{Q:Unit→Shared→Prop}(hfr:A.frames=some (env::outer)) (hf:env.frame=some L)
  (F:gD C (env::outer) H₀ s₀ H e s) (h:∀ s',gD C (env::outer) H₀ s₀ H e s'→uJ s₀ e s'→Q () s'):wpAny M A (leaving env (.ref e)) Q Ex s:=by
 unfold leaving
 exact wpAny_bind (jH hfr hf F fun s' F' W'=>gI F' W' h)
end
end Mine.Internal
end
noncomputable section
namespace Mine.Internal
noncomputable def VQ (C:Cx) (Q:QV):Value→MH→Shared→Prop:=fun v H s=>∃ p,VR C s.heap p v∧Q p H
noncomputable def BQ (Q:Bool→MH→Prop):Bool→MH→Shared→Prop:=fun b H J=>Q b H
noncomputable def OkG {α:Type}(C:Cx) (fs:List Env) (H:MH) (s:Shared) (P:α→MH→Shared→Prop) (a:α) (s':Shared):Prop:=∃ H',aM fs H s H' s'∧Inv C fs H' s'∧P a H' s'
noncomputable def At (C:Cx) (env:Env) (mm:Str→Option Value) (h:Heap) (nm:Str) (p:PV):Prop:=
 (env.kindOf nm=some .local∧∃ v,mm nm=some v∧VR C h p v) ∨
 ((env.kindOf nm=some .cell∨env.kindOf nm=some .free)∧∃ c v,env.cells.lookup nm=some c∧h.IsCell c (some v)∧VR C h p v)
structure St (C:Cx) (fs:List Env) (env:Env) (ns:List Str) (m:LE) (H:MH) (s:Shared):Prop where
 inv:Inv C fs H s
 nl:∀ b∈bH fs,H b=none
 loc:∃ mm,s.heap.Ns env.locals mm∧∀ i nm,ns[i]?=some nm→m i≠.undef→At C env mm s.heap nm (m i)
 hl:H env.locals=none
structure Bd (C:Cx) (A:Around) (fs:List Env) (env:Env) (gs:List (Str×NameKind)) (d:Nat):Prop where
 O:fN C
 fr:A.frames=some fs
 hd:A.handled=none
 kind:env.scope.kind=.function
 glob:env.globals=mainGlobals
 blt:env.builtins=builtinsNs
 gl:∀ x,gs.lookup x=some .globalImplicit→env.kindOf x=some .globalImplicit
 cl:∀ x,(gs.lookup x=some .cell∨gs.lookup x=some .free)→(env.kindOf x=some .cell∨env.kindOf x=some .free)∧∃ c,env.cells.lookup x=some c
 rd:A.depth+2*d+21≤999
 ru:A.units+710+20*d<cLine
section
variable {C:Cx}{fs:List Env}{env:Env}{ns:List Str}{m:LE}{H H':MH}{s s':Shared}{A:Around}{E:MH→Prop}{α β:Type}
theorem St.step (T:St C fs env ns m H s) (S:aM fs H s H' s') (I':Inv C fs H' s'):St C fs env ns m H' s':=by
 obtain ⟨mm,hn,hx⟩:=T.loc
 obtain ⟨hn',hl'⟩:=S.ns hn T.hl
 refine ⟨I',eO T.inv T.nl S,⟨mm,hn',fun i nm e hu=>?_⟩,hl'⟩
 rcases hx i nm e hu with ⟨h1,v,h2,h3⟩|⟨h1,c,v,h2,h3,h4⟩
 ·exact .inl ⟨h1,v,h2,h3.step S T.inv⟩
 ·exact .inr ⟨h1,c,v,h2,S.cell T.inv h3,h4.step S T.inv⟩
theorem OkG.after {P:α→MH→Shared→Prop}{a:α}{s₂:Shared}(S:aM fs H s H' s') (x:OkG C fs H' s' P a s₂):OkG C fs H s P a s₂:=
 X13 x fun H₂ a b c=>⟨H₂,S.trans a,b,c⟩
theorem OkG.pure' {P:α→MH→Shared→Prop}{a:α}(I:Inv C fs H s) (h:P a H s):OkG C fs H s P a s:=⟨H,aM.refl _ _ _,I,h⟩
theorem OkG.tok {P:α→MH→Shared→Prop}{a:α}{tk:Tok}(I:Inv C fs H s) (h:P a H { s with toks:=tk }):OkG C fs H s P a { s with toks:=tk }:=
 ⟨H,aK (h':=s.heap) fun J J e=>e,aN (h':=s.heap) I fun J J e=>e,h⟩
theorem OkE.g {Q:QV}{v:Value}{s':Shared}(x:OkE C fs H s Q v s'):OkG C fs H s (VQ C Q) v s':=
 X24 x fun H' p a b c d=>⟨H',a,b,p,c,d⟩
variable {M:Model}{t:Sem α}{g:α→Sem β}{P:α→MH→Shared→Prop}{R:β→MH→Shared→Prop}
theorem W.lift (S:aM fs H s H' s') (I':Inv C fs H' s') {u:Sem β}(h:wpAny M A u (OkG C fs H' s' R) (OkX C fs H' s' E) s'):wpAny M A u (OkG C fs H s R) (OkX C fs H s E) s':=
 wpAny_mono h (fun J J x=>x.after S) fun J J x=>x.after S I'
theorem W.next (h:wpAny M A t (OkG C fs H s P) (OkX C fs H s E) s) (k:∀ a H' s',aM fs H s H' s'→Inv C fs H' s'→P a H' s'→wpAny M A (g a) (OkG C fs H' s' R) (OkX C fs H' s' E) s') :
  wpAny M A t (fun a s'=>wpAny M A (g a) (OkG C fs H s R) (OkX C fs H s E) s') (OkX C fs H s E) s:=
 wpAny_mono h (fun a s' z=>X13 z fun H' S I' p=>W.lift S I' (k a H' s' S I' p)) fun J J x=>x
theorem W.seq {Z:α→Shared→Prop}{H₁:MH}{s₁:Shared}(S:aM fs H s H₁ s₁) (I₁:Inv C fs H₁ s₁) (h:wpAny M A t (OkG C fs H₁ s₁ P) (OkX C fs H₁ s₁ E) s₁)
  (k:∀ a H' s',aM fs H s H' s'→aM fs H₁ s₁ H' s'→Inv C fs H' s'→P a H' s'→Z a s'):wpAny M A t Z (OkX C fs H s E) s₁:=
 wpAny_mono h (fun a s' z=>X13 z fun H' S' I' p=>k a H' s' (S.trans S') S' I' p) fun J J x=>x.after S I₁
theorem W.map {f:α→MH→Shared→Prop}(h:wpAny M A t (OkG C fs H s P) (OkX C fs H s E) s) (k:∀ a H' s',aM fs H s H' s'→Inv C fs H' s'→P a H' s'→f a H' s') :
  wpAny M A t (OkG C fs H s f) (OkX C fs H s E) s:=
 wpAny_mono h (fun a s' z=>X13 z fun H' S I' p=>⟨H',S,I',k a H' s' S I' p⟩) fun J J x=>x
end
section
variable {C:Cx}{fs:List Env}{env:Env}{gs:List (Str×NameKind)}{ns:List Str}{m:LE}{H H':MH}{s s':Shared}{A:Around}{E:MH→Prop}{d:Nat}{Q:QV}
theorem nC (B:Bd C A fs env gs d) (T:St C fs env ns m H s) {i:Nat}{x:Str}(hx:ns[i]?=some x) (hu:m i≠.undef) (hc:(x==("__classdict__":Str))=false) (q:Q (m i) H) {X:Value→Shared→Prop} :
  wpAny (model C.prog C.w) A (loadName env x) (OkG C fs H s (VQ C Q)) X s:=by
 obtain ⟨mm,hn,hl⟩:=T.loc
 rcases hl i x hx hu with ⟨h1,v,h2,h3⟩|⟨h1|h1,c,v,h2,h3,h4⟩
 ·exact wpAny_loadName_local B.kind h1 hn h2 (.pure' T.inv ⟨_,h3,q⟩)
 ·exact wpAny_loadName_cell B.kind h1 h2 h3 (.pure' T.inv ⟨_,h4,q⟩)
 ·exact wpAny_loadName_free B.kind h1 h2 h3 (.pure' T.inv ⟨_,h4,q⟩) hc
theorem nQ (B:Bd C A fs env gs d) (I:Inv C fs H s) {x:Str}{pos:Pos}{v:Value}(hx:gs.lookup x=some .globalImplicit) (hd:(x==("__debug__":Str))=false)
  (hv:C.mg x=some v) {R:Value→Shared→Prop} {X:Value→Shared→Prop} (h:R v s):wpAny (model C.prog C.w) A (eval (.Name x pos) env) R X s:=
 Name_function_global B.kind (B.gl x hx) (loadGlobal_global (mg:=C.mg) (by rw [B.glob];exact B.O.g.keeps I.stays) hv h) hd
theorem Ci (B:Bd C A fs env gs d) (I:Inv C fs H s) {x:Str}{pos:Pos}{v:Value}(hx:gs.lookup x=some .globalImplicit) (hd:(x==("__debug__":Str))=false)
  (hg:C.mg x=none) (hv:C.mb x=some v) {R:Value→Shared→Prop} {X:Value→Shared→Prop} (h:R v s):wpAny (model C.prog C.w) A (eval (.Name x pos) env) R X s:=
 Name_function_global B.kind (B.gl x hx) (loadGlobal_builtin (mg:=C.mg) (mb:=C.mb) (by rw [B.glob];exact B.O.g.keeps I.stays) hg (by rw [B.blt];exact B.O.b.keeps I.stays) hv h) hd
theorem VR.base {h:Heap}(k:C.base.StaysIn h) {p:PV}{v:Value}(x:VR C C.base p v):VR C h p v:=x.stays k
end
end Mine.Internal
end
noncomputable section
namespace Mine.Internal
set_option backward.match.sparseCases false
noncomputable def okN (x:Str):Bool:=!(x==("__debug__":Str))&&!(x==("__classdict__":Str))
noncomputable def isG (gs:List (Str×NameKind)) (x:Str):Bool:=gs.lookup x==some .globalImplicit&&!(x==("__debug__":Str))
noncomputable def isC (gs:List (Str×NameKind)) (x:Str):Bool:=gs.lookup x==some .cell||gs.lookup x==some .free
noncomputable def mkName:MK→Str
 | .append=>"append" | .pop=>"pop" | .extend=>"extend" | .join=>"join" | .find=>"find" | .lower=>"lower"
noncomputable def lJ:Expr→Bool
 | .Name _ _=>true
 | .Constant _ _ _=>true
 | _=>false
noncomputable def vR:BI→Option Str
 | .isTuple=>some "tuple" | .isStr=>some "str" | .isInt=>some "int" | .isBool=>some "bool" | _=>none
noncomputable def iL (gs:List (Str×NameKind)) (ns:List Str) (sc:Scope) (t:Str) (fr:List Nat):Bool:=
 sc.kind==.function&&sc.names.all (fun p=>p.2 != .cell&&(p.2 != .local||sc.names.lookup p.1==some .local)&&(p.2 != .free||isC gs p.1)) &&
 sc.names.lookup t==some .local &&
 fr.all fun i=>match ns[i]? with
  | some nm=>sc.names.lookup nm==some .free
  | none=>true
noncomputable def gN (x:Expr) (k:Const→Nat→Pos→Bool):Bool:=match x with
 | .Constant c n p=>k c n p
 | _=>false
theorem cM {x:Expr}{k:Const→Nat→Pos→Bool}{P:Expr→Prop}(h:gN x k=true) (K:∀ c n p,k c n p=true→P (.Constant c n p)):P x:=by
 cases x<;>first|exact (Bool.false_ne_true h).elim|exact K _ _ _ h
noncomputable def eE (x:Expr) (k:Str→Pos→Bool):Bool:=match x with
 | .Name y p=>k y p
 | _=>false
theorem bD {x:Expr}{k:Str→Pos→Bool}{P:Expr→Prop}(h:eE x k=true) (K:∀ y p,k y p=true→P (.Name y p)):P x:=by
 cases x<;>first|exact (Bool.false_ne_true h).elim|exact K _ _ h
noncomputable def vBin (x:Expr) (k:Expr→Operator→Expr→Pos→Bool):Bool:=match x with
 | .BinOp l o r p=>k l o r p
 | _=>false
theorem uO {x:Expr}{k:Expr→Operator→Expr→Pos→Bool}{P:Expr→Prop}(h:vBin x k=true) (K:∀ l o r p,k l o r p=true→P (.BinOp l o r p)):P x:=by
 cases x<;>first|exact (Bool.false_ne_true h).elim|exact K _ _ _ _ h
noncomputable def vUn (x:Expr) (k:UnaryOp→Expr→Pos→Bool):Bool:=match x with
 | .UnaryOp o y p=>k o y p
 | _=>false
theorem uM {x:Expr}{k:UnaryOp→Expr→Pos→Bool}{P:Expr→Prop}(h:vUn x k=true) (K:∀ o y p,k o y p=true→P (.UnaryOp o y p)):P x:=by
 cases x<;>first|exact (Bool.false_ne_true h).elim|exact K _ _ _ h
noncomputable def Cq (x:Expr) (k:BoolOp→List Expr→Pos→Bool):Bool:=match x with
 | .BoolOp o xs p=>k o xs p
 | _=>false
theorem kC {x:Expr}{k:BoolOp→List Expr→Pos→Bool}{P:Expr→Prop}(h:Cq x k=true) (K:∀ o xs p,k o xs p=true→P (.BoolOp o xs p)):P x:=by
 cases x<;>first|exact (Bool.false_ne_true h).elim|exact K _ _ _ h
noncomputable def vIf (x:Expr) (k:Expr→Expr→Expr→Pos→Bool):Bool:=match x with
 | .IfExp t y z p=>k t y z p
 | _=>false
theorem Aa {x:Expr}{k:Expr→Expr→Expr→Pos→Bool}{P:Expr→Prop}(h:vIf x k=true) (K:∀ t y z p,k t y z p=true→P (.IfExp t y z p)):P x:=by
 cases x<;>first|exact (Bool.false_ne_true h).elim|exact K _ _ _ _ h
noncomputable def vTup (x:Expr) (k:List Expr→Nat→Pos→Bool):Bool:=match x with
 | .Tuple xs n p=>k xs n p
 | _=>false
theorem lF {x:Expr}{k:List Expr→Nat→Pos→Bool}{P:Expr→Prop}(h:vTup x k=true) (K:∀ xs n p,k xs n p=true→P (.Tuple xs n p)):P x:=by
 cases x<;>first|exact (Bool.false_ne_true h).elim|exact K _ _ _ h
noncomputable def vList (x:Expr) (k:List Expr→Pos→Bool):Bool:=match x with
 | .List xs p=>k xs p
 | _=>false
theorem wT {x:Expr}{k:List Expr→Pos→Bool}{P:Expr→Prop}(h:vList x k=true) (K:∀ xs p,k xs p=true→P (.List xs p)):P x:=by
 cases x<;>first|exact (Bool.false_ne_true h).elim|exact K _ _ h
noncomputable def vSub (x:Expr) (k:Expr→Expr→Pos→Bool):Bool:=match x with
 | .Subscript v i p=>k v i p
 | _=>false
theorem lG {x:Expr}{k:Expr→Expr→Pos→Bool}{P:Expr→Prop}(h:vSub x k=true) (K:∀ v i p,k v i p=true→P (.Subscript v i p)):P x:=by
 cases x<;>first|exact (Bool.false_ne_true h).elim|exact K _ _ _ h
noncomputable def vSlc (x:Expr) (k:Option Expr→Option Expr→Option Expr→Pos→Bool):Bool:=match x with
 | .Slice l u t p=>k l u t p
 | _=>false
theorem Cp {x:Expr}{k:Option Expr→Option Expr→Option Expr→Pos→Bool}{P:Expr→Prop}(h:vSlc x k=true) (K:∀ l u t p,k l u t p=true→P (.Slice l u t p)):P x:=by
 cases x<;>first|exact (Bool.false_ne_true h).elim|exact K _ _ _ _ h
noncomputable def qJ (x:Expr) (k:Expr→Str→Pos→Bool):Bool:=match x with
 | .Attribute o nm p=>k o nm p
 | _=>false
theorem iP {x:Expr}{k:Expr→Str→Pos→Bool}{P:Expr→Prop}(h:qJ x k=true) (K:∀ o nm p,k o nm p=true→P (.Attribute o nm p)):P x:=by
 cases x<;>first|exact (Bool.false_ne_true h).elim|exact K _ _ _ h
noncomputable def vLC (x:Expr) (k:Expr→List Comprehension→Scope→Pos→Bool):Bool:=match x with
 | .ListComp el gens sc p=>k el gens sc p
 | _=>false
theorem zZ {x:Expr}{k:Expr→List Comprehension→Scope→Pos→Bool}{P:Expr→Prop}(h:vLC x k=true) (K:∀ el gens sc p,k el gens sc p=true→P (.ListComp el gens sc p)):P x:=by
 cases x<;>first|exact (Bool.false_ne_true h).elim|exact K _ _ _ _ h
noncomputable def vCmp (x:Expr) (k:Expr→List CmpOp→List Expr→Pos→Bool):Bool:=match x with
 | .Compare l os rs p=>k l os rs p
 | _=>false
theorem uN {x:Expr}{k:Expr→List CmpOp→List Expr→Pos→Bool}{P:Expr→Prop}(h:vCmp x k=true) (K:∀ l os rs p,k l os rs p=true→P (.Compare l os rs p)):P x:=by
 cases x<;>first|exact (Bool.false_ne_true h).elim|exact K _ _ _ _ h
noncomputable def mQ (x:Expr) (k:Expr→List Expr→List Keyword→Pos→Bool):Bool:=match x with
 | .Call f xs ks p=>k f xs ks p
 | _=>false
theorem cS {x:Expr}{k:Expr→List Expr→List Keyword→Pos→Bool}{P:Expr→Prop}(h:mQ x k=true) (K:∀ f xs ks p,k f xs ks p=true→P (.Call f xs ks p)):P x:=by
 cases x<;>first|exact (Bool.false_ne_true h).elim|exact K _ _ _ _ h
noncomputable def kd:Expr→Nat
 | .Set ..=>1
 | .Slice ..=>2
 | .Starred ..=>3
 | .ListComp ..=>4
 | .SetComp ..=>5
 | .DictComp ..=>6
 | _=>0
theorem Ew {x:Expr}{k:Const→Nat→Pos→Bool}(h:gN x k=true):kd x=0:=cM (P:=fun x=>kd x=0) h fun J J J J=>rfl
theorem Gz {x:Expr}{k:Str→Pos→Bool}(h:eE x k=true):kd x=0:=bD (P:=fun x=>kd x=0) h fun J J J=>rfl
theorem vBin_kd {x:Expr}{k:Expr→Operator→Expr→Pos→Bool}(h:vBin x k=true):kd x=0:=uO (P:=fun x=>kd x=0) h fun J J J J J=>rfl
theorem vUn_kd {x:Expr}{k:UnaryOp→Expr→Pos→Bool}(h:vUn x k=true):kd x=0:=uM (P:=fun x=>kd x=0) h fun J J J J=>rfl
theorem Hc {x:Expr}{k:BoolOp→List Expr→Pos→Bool}(h:Cq x k=true):kd x=0:=kC (P:=fun x=>kd x=0) h fun J J J J=>rfl
theorem vIf_kd {x:Expr}{k:Expr→Expr→Expr→Pos→Bool}(h:vIf x k=true):kd x=0:=Aa (P:=fun x=>kd x=0) h fun J J J J J=>rfl
theorem vTup_kd {x:Expr}{k:List Expr→Nat→Pos→Bool}(h:vTup x k=true):kd x=0:=lF (P:=fun x=>kd x=0) h fun J J J J=>rfl
theorem Ha {x:Expr}{k:List Expr→Pos→Bool}(h:vList x k=true):kd x=0:=wT (P:=fun x=>kd x=0) h fun J J J=>rfl
theorem vSub_kd {x:Expr}{k:Expr→Expr→Pos→Bool}(h:vSub x k=true):kd x=0:=lG (P:=fun x=>kd x=0) h fun J J J J=>rfl
theorem Hd {x:Expr}{k:Expr→Str→Pos→Bool}(h:qJ x k=true):kd x=0:=iP (P:=fun x=>kd x=0) h fun J J J J=>rfl
theorem vLC_kd {x:Expr}{k:Expr→List Comprehension→Scope→Pos→Bool}(h:vLC x k=true):kd x=4:=zZ (P:=fun x=>kd x=4) h fun J J J J J=>rfl
theorem vCmp_kd {x:Expr}{k:Expr→List CmpOp→List Expr→Pos→Bool}(h:vCmp x k=true):kd x=0:=uN (P:=fun x=>kd x=0) h fun J J J J J=>rfl
theorem Hb {x:Expr}{k:Expr→List Expr→List Keyword→Pos→Bool}(h:mQ x k=true):kd x=0:=cS (P:=fun x=>kd x=0) h fun J J J J J=>rfl
noncomputable def cNone (x:Const):Bool:=match x with
 | .none=>true
 | _=>false
theorem uB {x:Const}(h:cNone x=true):x=.none:=by
 cases x<;>first|exact (Bool.false_ne_true h).elim|rfl
noncomputable def cBool (x:Const) (k:Bool→Bool):Bool:=match x with
 | .bool b=>k b
 | _=>false
theorem Jh {x:Const}{k:Bool→Bool}{P:Const→Prop}(h:cBool x k=true) (K:∀ b,k b=true→P (.bool b)):P x:=by
 cases x<;>first|exact (Bool.false_ne_true h).elim|exact K _ h
noncomputable def cInt (x:Const) (k:Int→Bool):Bool:=match x with
 | .int i=>k i
 | _=>false
theorem nU {x:Const}{k:Int→Bool}{P:Const→Prop}(h:cInt x k=true) (K:∀ i,k i=true→P (.int i)):P x:=by
 cases x<;>first|exact (Bool.false_ne_true h).elim|exact K _ h
noncomputable def cStr (x:Const) (k:Str→Bool):Bool:=match x with
 | .str y=>k y
 | _=>false
theorem cStr_el {x:Const}{k:Str→Bool}{P:Const→Prop}(h:cStr x k=true) (K:∀ y,k y=true→P (.str y)):P x:=by
 cases x<;>first|exact (Bool.false_ne_true h).elim|exact K _ h
noncomputable def l0 {α:Type}(xs:List α):Bool:=match xs with
 | []=>true
 | _::_=>false
noncomputable def l1 {α:Type}(xs:List α) (k:α→Bool):Bool:=match xs with
 | []=>false
 | a::r=>match r with
  | []=>k a
  | _::_=>false
noncomputable def l2 {α:Type}(xs:List α) (k:α→α→Bool):Bool:=match xs with
 | []=>false
 | a::r=>l1 r (k a)
theorem jX {α:Type}{xs:List α}{P:List α→Prop}(h:l0 xs=true) (K:P []):P xs:=by
 cases xs with|nil=>exact K|cons a r=>exact (Bool.false_ne_true h).elim
theorem gQ {α:Type}{xs:List α}{k:α→Bool}{P:List α→Prop}(h:l1 xs k=true) (K:∀ a,k a=true→P [a]):P xs:=by
 cases xs with
 | nil=>exact (Bool.false_ne_true h).elim
 | cons a r=>
  cases r with
  | nil=>exact K _ h
  | cons b r=>exact (Bool.false_ne_true h).elim
theorem l2_el {α:Type}{xs:List α}{k:α→α→Bool}{P:List α→Prop}(h:l2 xs k=true) (K:∀ a b,k a b=true→P [a,b]):P xs:=by
 cases xs with
 | nil=>exact (Bool.false_ne_true h).elim
 | cons a r=>exact gQ (k:=k a) (P:=fun r=>P (a::r)) h fun b h=>K a b h
noncomputable def oS {α:Type}(x:Option α) (k:α→Bool):Bool:=match x with
 | none=>false
 | some a=>k a
noncomputable def oN {α:Type}(x:Option α):Bool:=match x with
 | none=>true
 | some _=>false
noncomputable def oE {α:Type}(x:Option α) (k:α→Bool) (d:Bool):Bool:=match x with
 | none=>d
 | some a=>k a
noncomputable def isNn (e:ME):Bool:=match e with
 | .none=>true
 | _=>false
theorem Ip {e:ME}(h:isNn e=true):e=.none:=by cases e<;>first|rfl|exact (Bool.false_ne_true h).elim
theorem xZ {α:Type}{x:Option α}{k:α→Bool}{P:Option α→Prop}(h:oS x k=true) (K:∀ a,k a=true→P (some a)):P x:=by
 cases x with|none=>exact (Bool.false_ne_true h).elim|some a=>exact K _ h
theorem yA {α:Type}{x:Option α}{P:Option α→Prop}(h:oN x=true) (K:P none):P x:=by
 cases x with|none=>exact K|some a=>exact (Bool.false_ne_true h).elim
theorem zR {a b:Bool}(h:(a&&b)=true):a=true:=((Bool.and_eq_true a b).mp h).1
theorem iF {a b:Bool}(h:(a&&b)=true):b=true:=((Bool.and_eq_true a b).mp h).2
theorem aA {a b:Bool}{G:Prop}(h:(a&&b)=true) (K:a=true→b=true→G):G:=K (zR h) (iF h)
theorem iO {α:Type} [BEq α] [LawfulBEq α] {a b:α}{P:α→Prop}(h:(a==b)=true) (K:P b):P a:=eq_of_beq h▸K
theorem beq_er {α:Type} [BEq α] [LawfulBEq α] {a b:α}{P:α→Prop}(h:(a==b)=true) (K:P a):P b:=eq_of_beq h▸K
theorem fW {a b:Bool}(h:(a&&b)=true):a=true∧b=true:=(Bool.and_eq_true a b).mp h
noncomputable def Ab (o:UnaryOp):Bool:=match o with
 | .USub=>true
 | _=>false
noncomputable def uNot (o:UnaryOp):Bool:=match o with
 | .Not=>true
 | _=>false
noncomputable def bAnd (o:BoolOp):Bool:=match o with
 | .And=>true
 | .Or=>false
theorem qL {o:UnaryOp}(h:Ab o=true):o=.USub:=by cases o<;>first|rfl|exact (Bool.false_ne_true h).elim
theorem He {o:UnaryOp}(h:uNot o=true):o=.Not:=by cases o<;>first|rfl|exact (Bool.false_ne_true h).elim
theorem zJ {o:BoolOp}(h:bAnd o=true):o=.And:=by cases o<;>first|rfl|exact (Bool.false_ne_true h).elim
theorem Dz {o:BoolOp}(h:bAnd o=false):o=.Or:=by cases o<;>first|rfl|exact (Bool.false_ne_true h.symm).elim
set_option backward.match.sparseCases true
mutual
noncomputable def agE (gs:List (Str×NameKind)) (ns:List Str):ME→Expr→Bool
 | .none,x=>gN x fun c J J=>cNone c
 | .bool b,x=>gN x fun c J J=>cBool c fun d=>b==d
 | .int i,x=>gN x fun c J J=>cInt c fun j=>i==j
 | .str l,x=>gN x fun c J J=>cStr c fun y=>y==(⟨l.toArray⟩:Str)
 | .var i,x=>eE x fun y J=>ns[i]?==some y&&okN y
 | .gfun f,x=>eE x fun y J=>yO f==some y&&isG gs y
 | .gval c,x=>eE x fun y J=>vname c==some y&&isG gs y
 | .bin op a b,x=>vBin x fun l o r J=>o==opOf op&&(agE gs ns a l&&agE gs ns b r)
 | .pow a b,x=>vBin x fun l o r J=>o==.Pow&&(a==10&&(b==18&&(gN l fun c J J=>cInt c fun i=>gN r fun d J J=>cInt d fun j=>i==(a:Int)&&j==(b:Int))))
 | .neg i,x=>vUn x fun o y J=>Ab o&&gN y fun c J J=>cInt c fun j=>j==(i:Int)
 | .cmp op a b,x=>vCmp x fun l os rs J=>l1 os fun o=>l1 rs fun r=>o==copOf op&&(agE gs ns a l&&agE gs ns b r)
 | .and es,x=>Cq x fun o xs J=>bAnd o&&(decide (2≤es.length)&&dI gs ns es xs)
 | .or es,x=>Cq x fun o xs J=>!bAnd o&&(decide (2≤es.length)&&dI gs ns es xs)
 | .not e,x=>vUn x fun o y J=>uNot o&&agE gs ns e y
 | .ite c a b,x=>vIf x fun t y z J=>agE gs ns c t&&(agE gs ns a y&&agE gs ns b z)
 | .tuple es,x=>vTup x fun xs J J=>decide (es.length≤1000)&&dI gs ns es xs
 | .list es,x=>vList x fun xs J=>decide (es.length≤1000)&&dI gs ns es xs
 | .idx a i,x=>vSub x fun v sl J=>agE gs ns a v&&agE gs ns i sl
 | .slc a l u,x=>vSub x fun v sl J=>vSlc sl fun lo up st J=>oN st&&(agE gs ns a v&&(oE lo (fun x=>agE gs ns l x) (isNn l)&&oE up (fun x=>agE gs ns u x) (isNn u)))
 | .rev a,x=>vSub x fun v sl J=>vSlc sl fun lo up st J=>oN lo&&(oN up&&(agE gs ns a v&&(oS st fun y=>vUn y fun o y J=>Ab o&&gN y fun c J J=>cInt c fun i=>i==1)))
 | .call f args,x=>mQ x fun g xs ks J=>l0 ks&&(dI gs ns args xs&&(eE g fun y J=>yO f==some y&&isG gs y))
 | .callv i args,x=>mQ x fun g xs ks J=>l0 ks&&(dI gs ns args xs&&(eE g fun y J=>ns[i]?==some y&&okN y))
 | .new args,x=>mQ x fun g xs ks J=>l0 ks&&(dI gs ns args xs&&(eE g fun y J=>y==("Words":Str)&&isG gs y))
 | .bi b args,x=>mQ x fun g xs ks J=>l0 ks&&(eE g fun y J=>isG gs y&&(match vR b with
  | some ty=>y==("isinstance":Str)&&(l2 xs fun x1 zz=>dI gs ns args [x1]&&(eE zz fun z J=>z==ty&&isG gs z))
  | none=>y==wF b&&dI gs ns args xs))
 | .meth k o args,x=>mQ x fun g xs ks pos=>l0 ks&&(dI gs ns args xs&&(qJ g fun o' nm p=>nm==mkName k&&(lJ o'&&(p.endLine==pos.line&&(decide (args.length≤20)&&agE gs ns o o')))))
 | .wmeth f o args,x=>mQ x fun g xs ks pos=>l0 ks&&(dI gs ns args xs&&(qJ g fun o' nm p=>rI f==some nm&&(decide (f≠0)&&(lJ o'&&(p.endLine==pos.line&&(decide (args.length≤20)&&agE gs ns o o'))))))
 | .attr k o,x=>qJ x fun o' nm J=>nm==bG k&&(decide (k<2)&&(lJ o'&&agE gs ns o o'))
 | .comp elt t fr src cs,x=>vLC x fun el gens sc J=>l1 gens fun g=>eE g.target fun y J=>g.is_async==0&&(ns[t]?==some y&&(iL gs ns sc y fr&&(decide (cs.length≤1)&&(agE gs ns src g.iter&&(agE sc.names ns elt el&&dI sc.names ns cs g.ifs)))))
 | .dead,_=>false
noncomputable def dI (gs:List (Str×NameKind)) (ns:List Str):List ME→List Expr→Bool
 | [],x=>l0 x
 | e::r,x=>match x with
  | y::ys=>agE gs ns e y&&dI gs ns r ys
  | []=>false
end
theorem sN {gs:List (Str×NameKind)}{ns:List Str}{e:ME}{x:Expr}(h:agE gs ns e x=true):kd x=0∨kd x=4∧∃ elt t fr src cs,e=.comp elt t fr src cs:=by
 cases e
 case comp=>exact .inr ⟨vLC_kd h,_,_,_,_,_,rfl⟩
 all_goals first
  | exact .inl (Ew h)|exact .inl (Gz h)|exact .inl (vBin_kd h)|exact .inl (Hb h)|exact .inl (vUn_kd h)|exact .inl (vCmp_kd h)|exact .inl (Hc h)|exact .inl (vIf_kd h)
  | exact .inl (vTup_kd h)|exact .inl (Ha h)|exact .inl (vSub_kd h)|exact .inl (Hd h)|exact (Bool.false_ne_true h).elim
end Mine.Internal
end
noncomputable section
namespace Mine.Internal
structure aB (C:Cx) (d f:Nat) (vs:List PV) (H:MH) (Q:QV) (E:MH→Prop):Prop where
 keep:keepIn C.K (.ref (C.fn f))=true
 run:∀ (A:Around) (fs:List Env) (s:Shared) (args:List Value),A.frames=some fs→A.handled=none→A.depth+2*d+20≤999→A.units+700+20*d<cLine→Inv C fs H s→(∀ b∈bH fs,H b=none)→VRs C s.heap vs args →
  codeAny (model C.prog C.w) A (.call (.ref (C.fn f)) ⟨args,[]⟩) (fun r s'=>match r with | .ok (.ret v)=>OkG C fs H s (VQ C Q) v s' | .ok _=>False | .error e=>OkX C fs H s E e s') s
theorem nZ {gs ns e y ys env}(h:agE gs ns e y=true):starEach (y::ys) env=(false,eval y env)::starEach ys env:=by
 cases y<;>first|rfl|skip
 case Starred=>
  rcases sN h with e|⟨e,_⟩
  ·exact absurd (show (3:Nat)=0 from e) (by decide)
  ·exact absurd (show (3:Nat)=4 from e) (by decide)
theorem gY:∀ {es xs}{gs ns env}{pos:Pos},dI gs ns es xs=true→(backTo pos (starEach xs env)).any (·.1)=false
 | [],[],_,_,_,_,_=>rfl
 | [],_::_,_,_,_,_,h=>(Bool.false_ne_true h).elim
 | _::_,[],_,_,_,_,h=>(Bool.false_ne_true h).elim
 | e::r,y::ys,_,_,env,pos,h=>by
  have h:=fW h
  rw [nZ h.1]
  show (false||(backTo pos (starEach ys env)).any (·.1))=false
  rw [gY h.2];rfl
theorem pO:∀ {es xs}{gs ns},dI gs ns es xs=true→xs.length=es.length
 | [],[],_,_,_=>rfl
 | [],_::_,_,_,h=>(Bool.false_ne_true h).elim
 | _::_,[],_,_,h=>(Bool.false_ne_true h).elim
 | e::r,y::ys,_,_,h=>by
  have h:=fW h
  simp [pO h.2]
section
variable {M:Model}{A:Around}{E:Value→Shared→Prop}{s:Shared}{env:Env}{pos:Pos}{gs:List (Str×NameKind)}{ns:List Str}{es:List ME}{xs:List Expr}
theorem jI {f:Value}{Q:Args→Shared→Prop}(ha:dI gs ns es xs=true) (h:wpAny M A (spliced (backTo pos (starEach xs env))) (fun vs s'=>Q ⟨vs,[]⟩ s') E s) :
  wpAny M A (evalArgs f true (backTo pos (starEach xs env)) []) Q E s:=by
 cases xs with
 | nil=>
  unfold evalArgs
  show wpAny M A (spliced [] >>= _) Q E s
  refine wpAny_bind (wpAny_mono h (fun vs s' h'=>wpAny_bind (wpAny_pure (wpAny_holding ?_))) fun J J x=>x)
  exact wpAny_bind (wpAny_pure (wpAny_bind (wpAny_pure (wpAny_pure h'))))
 | cons y ys=>
  cases es with
  | nil=>exact (Bool.false_ne_true ha).elim
  | cons e r=>
   have ha:=fW ha
   rw [nZ ha.1] at h ⊢
   exact evalArgs_plain h
theorem fV {K:Frag}{f:Value}{first:List Value}{Q:Value→Shared→Prop}(ha:dI gs ns es xs=true)
  (h:wpAny M A (spliced (backTo pos (starEach xs env))) (fun vs s₁=>(K.In s₁.heap∧keepIn K f=true)∧wpAny M A (call f (first++vs)) Q E s₁) E s) :
  wpAny M A (callWith pos f first (backTo pos (starEach xs env)) []) Q E s:=
 callWith_of (P:=fun h=>K.In h∧keepIn K f=true) (by rw [gY ha];rfl) (fun h X=>keeps_K X.2 h X.1) (jI ha h)
theorem kP {id:String}{first:List Value}{Q:Value→Shared→Prop}(ha:dI gs ns es xs=true)
  (h:wpAny M A (spliced (backTo pos (starEach xs env))) (fun vs s₁=>wpAny M A (call (.builtin id) (first++vs)) Q E s₁) E s) :
  wpAny M A (callWith pos (.builtin id) first (backTo pos (starEach xs env)) []) Q E s:=callWith_builtin (gY ha) (jI ha h)
theorem yY {T:String}{first:List Value}{Q:Value→Shared→Prop}(ha:dI gs ns es xs=true)
  (h:wpAny M A (spliced (backTo pos (starEach xs env))) (fun vs s₁=>wpAny M A (call (.type T) (first++vs)) Q E s₁) E s) :
  wpAny M A (callWith pos (.type T) first (backTo pos (starEach xs env)) []) Q E s:=PyProof.Rows.callWith_type (gY ha) (jI ha h)
end
end Mine.Internal
end
noncomputable section
namespace Mine.Internal
noncomputable def bZ (o:Obj):Prop:=(o.cls=.type "tuple"→∀ items n,o.data≠.seq items n)∧(o.cls=.type "range"→∀ vs,o.data≠.fields vs)
theorem bZ.cls {o:Obj}(h1:o.cls≠.type "tuple") (h2:o.cls≠.type "range"):bZ o:=⟨fun q=>absurd q h1,fun q=>absurd q h2⟩
theorem bZ.dict {o:Obj}{es n}(h:o.data=.dict es n):bZ o:=⟨fun J J J q=>(by rw [h] at q;cases q),fun J J q=>(by rw [h] at q;cases q)⟩
section
variable {C:Cx}{fs:List Env}{H H' H₀:MH}{s s' s₀:Shared}{A:Around}
theorem iT (I:Inv C fs H s) {h':Heap}{tk:Tok}
  (k:∀ b o,s.heap.get? b=some o→h'.get? b=some o∨(C.base.get? b=none∧H b=none∧bZ o∧(b∈bH fs→∃ o',h'.get? b=some o'∧∀ vs,o'.data≠.fields vs))) :
  Inv C fs H { s with heap:=h',toks:=tk }:=by
 have kt:∀ a items,IsTup s.heap a items→IsTup h' a items:=fun a items z=>X13 z fun o e hc z=>Exists.elim z fun n hd=>by
  rcases k a o e with e' | ⟨_,_,q,_⟩
  ·exact ⟨_,e',hc,n,hd⟩
  ·exact absurd hd (q.1 hc _ _)
 have kr:∀ a x y z t u w,IsRange s.heap a x y z t u w→IsRange h' a x y z t u w:=fun a x y z t u w e=>by
  refine Or.elim (k a _ e) ?_ ?_
  ·intro e'
   exact e'
  ·intro z
   refine X04 z fun J J q J=>?_
   exact absurd rfl (q.2 rfl _)
 refine ⟨fun b o e=>?_,?_,fun a o e=>⟨(I.hrel a o e).1,?_⟩,I.gens,I.os⟩
 ·refine Or.elim (k b o (I.stays b o e)) ?_ ?_
  ·intro e'
   exact e'
  ·rintro ⟨q,_⟩
   rw [e] at q;cases q
 ·have key:∀ (l:List Env),(∀ b∈bH l,b∈bH fs)→s.heap.FunFrames C.base l→h'.FunFrames C.base l:=by
   intro l
   induction l with
   | nil=>exact fun J J=>trivial
   | cons env r ih=>
    intro hm z
    refine X03 z ?_
    rintro h1 ⟨L,o,h2,h3,h4,h5⟩ h6
    have hmL:L∈bH fs:=hm L (by unfold bH;rw [List.filterMap_cons,h2];exact .head _)
    refine I03 h1 (?_) (ih (fun b hb=>hm b (by unfold bH at hb ⊢;rw [List.filterMap_cons,h2];exact .tail _ hb)) h6)
    refine hC fun hG=>?_
    rcases k L o h4 with e' | ⟨_,_,_,q⟩<;>(refine hG ?_;clear hG)
    ·exact I24 L o h2 h3 e' h5
    ·refine X12 (q hmL) fun o' e' hn=>?_
     exact I24 L o' h2 h3 e' hn
  exact key fs (fun J h=>h) I.frames
 ·refine (I.hrel a o e).2.mono (fun J J=>VR.of kt kr) (fun J J=>VRs.of kt kr) fun ob e'=>?_
  refine Or.elim (k a ob e') ?_ ?_
  ·intro e''
   exact e''
  ·intro z
   refine X03 z fun J q J=>?_
   rw [e] at q;cases q
theorem gG {h h':Heap}(k:∀ b o,h.get? b=some o→h'.get? b=some o∨bZ o) {p:PV}{v:Value}:VR C h p v→VR C h' p v:=
 VR.of (fun a items z=>X13 z fun o e hc z=>Exists.elim z fun n hd=>(k a o e).elim (fun e'=>⟨_,e',hc,n,hd⟩) fun q=>absurd hd (q.1 hc _ _)) fun a x y z t u w e=>(k a _ e).elim id fun q=>absurd rfl (q.2 rfl _)
theorem nO {h h':Heap}(k:∀ b o,h.get? b=some o→h'.get? b=some o∨bZ o) {p:List PV}{v:List Value}:VRs C h p v→VRs C h' p v:=
 VRs.of (fun a items z=>X13 z fun o e hc z=>Exists.elim z fun n hd=>(k a o e).elim (fun e'=>⟨_,e',hc,n,hd⟩) fun q=>absurd hd (q.1 hc _ _)) fun a x y z t u w e=>(k a _ e).elim id fun q=>absurd rfl (q.2 rfl _)
theorem fH (S:aM fs H₀ s₀ H s) {h':Heap}{tk:Tok}(k:∀ b o,s.heap.get? b=some o→h'.get? b=some o∨s₀.heap.get? b=none):aM fs H₀ s₀ H { s with heap:=h',toks:=tk }:=by
 refine ⟨fun b o e h=>?_,S.mono⟩
 obtain ⟨h1,e1|⟨m,sl,e1⟩⟩:=S.keep b o e h
 ·rcases k b _ e1 with e' | q
  ·exact ⟨h1,.inl e'⟩
  ·rw [e] at q;cases q
 ·rcases k b _ e1 with e' | q
  ·exact ⟨h1,.inr ⟨m,sl,e'⟩⟩
  ·rw [e] at q;cases q
noncomputable def dS (C:Cx) (p:PV) (xs:List PV) (i:Nat) (it:Nat) (h:Heap):Prop:=match p with
 | .tup ys=>ys=xs∧∃ t items,h.IsTupleIter it t i∧IsTup h t items∧VRs C h xs items.toList
 | .rng n=>0≤n∧n≤16000000∧xs=(List.range n.toNat).map (fun (j:Nat)=>PV.int (j:Int))∧i≤n.toNat∧IsRangeIter h it i (n - i) 1
 | .lst a=>h.IsListIter it a i
 | _=>False
noncomputable def kO (p:PV) (xs:List PV):MH→Prop:=match p with
 | .lst a=>fun H=>H a=some (.list xs)
 | _=>fun J=>True
theorem dS.step (S:aM fs H s H' s') (I:Inv C fs H s) {p:PV}{xs:List PV}{i it:Nat}(x:dS C p xs i it s.heap):dS C p xs i it s'.heap:=by
 cases p with
 | tup ys=>
  refine hC fun hG=>?_
  obtain ⟨e,t,items,⟨o,h1,h2,h3⟩,ht,hx⟩:=x<;>(refine hG ?_;clear hG)
  exact ⟨e,t,items,(I13 o ((S.fields I h1 h3).1) h2 h3),S.tup I ht,hx.step S I⟩
 | rng n=>
  refine X05 x fun a b c d e=>?_
  exact I05 a b c d ((S.fields I e rfl).1)
 | lst a=>
  refine X13 x fun o h1 h2 h3=>?_
  exact I13 o ((S.fields I h1 h3).1) h2 h3
 | _=>exact x.elim
theorem dS.move {h h':Heap}(k:∀ b o,h.get? b=some o→h'.get? b=some o∨(bZ o∧∀ vs,o.data≠.fields vs)) {p:PV}{xs:List PV}{i it:Nat}(x:dS C p xs i it h):dS C p xs i it h':=by
 have k':∀ b o,h.get? b=some o→h'.get? b=some o∨bZ o:=fun b o e=>(k b o e).imp id fun q=>q.1
 have kf:∀ b o vs,h.get? b=some o→o.data=.fields vs→h'.get? b=some o:=fun b o vs e hd=>(k b o e).elim id fun q=>absurd hd (q.2 vs)
 cases p with
 | tup ys=>
  refine hC fun hG=>?_
  obtain ⟨e,t,items,⟨o,h1,h2,h3⟩,⟨ot,e1,e2,e3⟩,hx⟩:=x<;>(refine hG ?_;clear hG)
  exact ⟨e,t,items,(I13 o (kf _ _ _ h1 h3) h2 h3),(I13 ot ((k' t ot e1).elim id fun q=>by obtain ⟨n,hd⟩:=e3;exact absurd hd (q.1 e2 _ _)) e2 e3),nO k' hx⟩
 | rng n=>
  refine X05 x fun a b c d e=>?_
  exact I05 a b c d (kf _ _ _ e rfl)
 | lst a=>
  refine X13 x fun o h1 h2 h3=>?_
  exact I13 o (kf _ _ _ h1 h3) h2 h3
 | _=>exact x.elim
theorem dS.obj {h:Heap}{p:PV}{xs:List PV}{i it:Nat}(x:dS C p xs i it h):∃ o vs,h.get? it=some o∧o.data=.fields vs∧bZ o:=by
 cases p with
 | tup ys=>
  refine hC fun hG=>?_
  obtain ⟨e,t,items,⟨o,h1,h2,h3⟩,ht,hx⟩:=x<;>(refine hG ?_;clear hG)
  exact I23 o _ h1 h3 (.cls (by rw [h2];simp) (by rw [h2];simp))
 | rng n=>
  refine X05 x fun a b c d e=>?_
  exact I23 _ _ e rfl (.cls (by simp) (by simp))
 | lst a=>
  refine X13 x fun o h1 h2 h3=>?_
  exact I23 o _ h1 h3 (.cls (by rw [h2];simp) (by rw [h2];simp))
 | _=>
  exact x.elim
theorem qX {n:Int}(h:0≤n):Builtin.Range.rangeSize 0 n 1=n:=by
 unfold Builtin.Range.rangeSize
 rw [if_pos (by decide)]
 split<;>lia
theorem xM {n:Int}(h:0≤n) (h1:n≤16000000):Builtin.Range.small 0 n 1=true:=by
 unfold Builtin.Range.small
 refine Eq.symm (qX h)▸?_
 have e (k:Int) (a:0≤k) (b:k≤16000001):Builtin.Range.rangeFitsLong k=true:=by
  unfold Builtin.Range.rangeFitsLong;simp;exact ar47 a b
 rw [e 0 (by decide) (by decide),e n h (ar48 h1),e 1 (by decide) (by decide),if_pos (by decide),e (n+(1 - 1)) (ar49 h) (ar50 h1)]
 simp
theorem rR {p:PV}{v:Value}{R:List PV→(MH→Prop)→Prop}{X:Value→Shared→Prop}{Q:Value→Shared→Prop}(I:Inv C fs H s) (hv:VR C s.heap p v) (h:oI p H R)
  (k:∀ xs o tk,R xs (kO p xs)→kO p xs H→dS C p xs 0 s.heap.objs.size (s.heap.push o)→Q (.ref s.heap.objs.size) { s with heap:=s.heap.push o,toks:=tk }) :
  wpAny (model C.prog C.w) A (pyIter v) Q X s:=by
 cases p with
 | tup xs=>
  obtain ⟨t,items,rfl,ht,hx⟩:=hv
  refine wpAny_pyIter_tuple ht ?_
  exact k xs _ s.toks h trivial ⟨rfl,t,items,(I13 _ (Heap.get?_push_size _ rfl) rfl rfl),ht.keeps (aP _ _),hx.keeps (aP _ _)⟩
 | rng n=>
  obtain ⟨a,t,u,w,rfl,hr⟩:=hv
  refine X03 h fun h0 h1 h2=>?_
  refine wpAny_pyIter_range hr (xM h0 h1) ?_
  refine k _ _ s.toks h2 trivial (I05 h0 h1 rfl (Nat.zero_le _) (?_))
  rw [qX h0]
  show (s.heap.push _).get? _=some _
  rw [Heap.get?_push_size _ rfl]
  simp
 | lst a=>
  obtain rfl:=hv
  refine X12 (yK h) fun xs ha h=>?_
  refine X22 (cA I ha) fun items n ho rx=>?_
  refine wpAny_pyIter_list ⟨_,ho,rfl,_,rfl⟩ ?_
  exact k xs _ s.toks h ha (I13 _ (Heap.get?_push_size _ rfl) rfl rfl)
 | _=>
  exact h.elim
theorem tV {p:PV}{xs:List PV}{i it:Nat}{X:Value→Shared→Prop}{Q:Option Value→Shared→Prop}(hh:A.handled=none) (I:Inv C fs H s) (hit:H it=none) (hc:kO p xs H) (x:dS C p xs i it s.heap)
  (hnil:xs[i]?=none→∀ h',Heap.ExtBut it s.heap h'→Q none { s with heap:=h' })
  (hcons:∀ y v h' tk,xs[i]?=some y→Heap.SameBut it s.heap h'→VR C s.heap y v→dS C p xs (i+1) it h'→Q (some v) { s with heap:=h',toks:=tk }) :
  wpAny (model C.prog C.w) A (pyNext (.ref it)) Q X s:=by
 clear hit
 cases p with
 | tup xs=>
  obtain ⟨rfl,t,items,h1,h2,h3⟩:=x
  have hne:t≠it:=fun q=>by
   refine X13 h2 fun o e hc J=>?_
   refine X13 h1 fun o' e' hc' J=>?_
   rw [q,e'] at e;cases e;rw [hc'] at hc;simp at hc
  cases e:xs[i]? with
  | none=>
   have e':items[i]?=none:=by
    have:=h3.length;rw [Array.length_toList] at this
    rw [List.getElem?_eq_none_iff] at e
    rw [Array.getElem?_eq_none_iff];exact Nat.le_trans (Nat.le_of_eq this) e
   exact wpAny_pyNext_tuple_end hh h1 h2 e' (hnil e)
  | some y=>
   refine X12 (h3.get e) fun v hv rv=>?_
   refine wpAny_pyNext_tuple_item h1 h2 (by rw [←Array.getElem?_toList];exact hv) fun h' h1' hs=>hcons y v h' s.toks e hs rv ⟨rfl,t,items,h1',h2.extBut hs.extBut hne,?_⟩
   refine X13 h1 fun o1 e1 c1 J=>?_
   exact nO (fun b o eb=>by
    by_cases q:b=it
    ·clear hne h2 X
     subst q;rw [e1] at eb;cases eb;exact .inr (.cls (by rw [c1];simp) (by rw [c1];simp))
    ·exact .inl ((hs.2 b q).trans eb)) h3
 | rng n=>
  obtain ⟨a,b,rfl,d,e⟩:=x
  by_cases q:i<n.toNat
  ·have ey:((List.range n.toNat).map (fun (j:Nat)=>PV.int (j:Int)))[i]?=some (.int i):=by simp [q]
   refine wpAny_pyNext_range_item e (by exact ar504 q) fun h' h1 hs=>hcons (.int i) _ h' _ ey hs ⟨_,rfl⟩ (I05 a b rfl (by assumption) (?_))
   have e1:(i:Int)+1=((i+1:Nat):Int):=by rfl
   have e2:n - (i:Int) - 1=n - ((i+1:Nat):Int):=by simp +arith
   rw [e1,e2] at h1;exact h1
  ·exact wpAny_pyNext_range_end hh e (by exact ar505 q) (hnil (by simp;exact ar506 q))
 | lst a=>
  refine X22 (cA I hc) fun items n ho rx=>?_
  have hl:s.heap.IsList a items:=⟨_,ho,rfl,_,rfl⟩
  cases e:xs[i]? with
  | none=>
   have e':items[i]?=none:=by
    have:=rx.length;rw [Array.length_toList] at this
    rw [List.getElem?_eq_none_iff] at e
    rw [Array.getElem?_eq_none_iff];exact Nat.le_trans (Nat.le_of_eq this) e
   exact wpAny_pyNext_list_end hh x hl e' (hnil e)
  | some y=>
   refine X12 (rx.get e) fun v hv rv=>?_
   exact wpAny_pyNext_list_item x hl (by rw [←Array.getElem?_toList];exact hv) fun h' h1' hs=>hcons y v h' s.toks e hs rv h1'
 | _=>
  exact x.elim
end
end Mine.Internal
end
noncomputable section
namespace Mine.Internal
theorem sS {C:Cx}{fs H s v s'}(h:OkX C fs H s nope v s'):False:=X25 h fun J J J J J J f=>f
noncomputable def pG (env:Env) (n:Str) (k:NameKind):NameKind:=if (k==.free&&env.scope.kind==.function&&env.kindOf n==some .cell) then .cell else k
theorem eM {env:Env}(x:Str):∀ names:List (Str×NameKind),
  (names.map fun (n,k)=>if (k==NameKind.free&&env.scope.kind==.function&&env.kindOf n==some .cell) then (n,NameKind.cell) else (n,k)).lookup x=(names.lookup x).map (pG env x)
 | []=>rfl
 | (n,k)::r=>by
  have ih:=eM (env:=env) x r
  show List.lookup x ((if (k==NameKind.free&&env.scope.kind==.function&&env.kindOf n==some .cell)=true then (n,NameKind.cell) else (n,k))::_)=_
  cases hx:x==n with
  | true=>
   have e:x=n:=by simpa using hx
   subst e
   simp only [List.lookup_cons,hx,Option.map_some]
   unfold pG
   split<;>simp [hx]
  | false=>
   split<;>simp only [List.lookup_cons,hx]<;>exact ih
theorem Ch (env:Env):∀ (names:List (Str×NameKind)) (cs:List (Str×Addr)),(∀ p∈names,p.2=.free→∃ c,env.cells.lookup p.1=some c)→(∀ p∈cs,env.cells.lookup p.1=some p.2) →
  ∃ cl:List (Str×Addr),(forIn names cs fun (name,kind) (cs:List (Str×Addr))=>(if kind==NameKind.free then do let c ←cellOf env name;pure (ForInStep.yield ((name,c)::cs)) else pure (ForInStep.yield cs):Sem (ForInStep (List (Str×Addr)))))=pure cl ∧
   (∀ p∈cl,env.cells.lookup p.1=some p.2)∧(∀ p∈cs,p∈cl)∧(∀ p∈names,p.2=.free→∃ c,(p.1,c)∈cl):=by
 intro x0
 induction x0 with
 | nil=>
  intro cs J h
  exact I14 cs rfl h (fun J h=>h) (fun J h=>nomatch h)
 | cons x8 r ih=>
  intro cs hn h
  obtain ⟨n,k⟩:=x8
  by_cases hk:k=.free
  ·subst hk
   refine X11 (hn (n,.free) (.head _) rfl) fun c hc=>?_
   refine hC fun hG=>?_
   obtain ⟨cl,e,h1,h2,h3⟩:=ih ((n,c)::cs) (fun p hp=>hn p (.tail _ hp)) (fun p hp=>by
    refine Or.elim (List.mem_cons.mp hp) ?_ ?_
    ·intro rfl
     exact hc
    ·intro hp
     exact h p hp)
   refine hG ?_;clear hG
   refine I14 cl (?_) h1 (fun p hp=>h2 p (.tail _ hp)) (fun p hp hf=>?_)
   ·rw [←e]
    have e1:cellOf env n=pure c:=by unfold cellOf;rw [hc]
    simp only [List.forIn_cons,beq_self_eq_true,if_true]
    rw [e1]
    rfl
   ·rcases List.mem_cons.mp hp with rfl|hp
    ·exact ⟨c,h2 _ (.head _)⟩
    ·exact h3 p hp hf
  ·refine X14 (ih cs (fun p hp=>hn p (.tail _ hp)) h) fun cl e h1 h2 h3=>?_
   refine I14 cl (?_) h1 h2 (fun p hp hf=>?_)
   ·rw [←e]
    have e1:(k==NameKind.free)=false:=by simpa using hk
    simp only [List.forIn_cons,e1]
    rfl
   ·rcases List.mem_cons.mp hp with rfl|hp
    ·exact absurd hf hk
    ·exact h3 p hp hf
theorem rL {cl:List (Str×Addr)}{x:Str}{c:Addr}(h:(x,c)∈cl):∃ c',cl.lookup x=some c'∧(x,c')∈cl:=by
 induction cl with
 | nil=>cases h
 | cons p r ih=>
  obtain ⟨n,k⟩:=p
  cases hx:x==n with
  | true=>
   have e:x=n:=by simpa using hx
   subst e
   exact I12 k (by simp [List.lookup_cons]) (.head _)
  | false=>
   rcases List.mem_cons.mp h with q|q
   ·clear h
    cases q;simp at hx
   ·refine X12 (ih q) fun c' a b=>?_
    exact I12 c' (by simp only [List.lookup_cons,hx];exact a) (.tail _ b)
theorem fU {names:List (Str×NameKind)}{x:Str}{k:NameKind}(h:names.lookup x=some k):(x,k)∈names:=by
 induction names with
 | nil=>cases h
 | cons p r ih=>
  obtain ⟨n,j⟩:=p
  cases hx:x==n with
  | true=>
   have e:x=n:=by simpa using hx
   subst e
   simp only [List.lookup_cons,hx] at h
   cases h;exact .head _
  | false=>
   simp only [List.lookup_cons,hx] at h
   exact .tail _ (ih h)
theorem tA {gs:List (Str×NameKind)}{env:Env}{names:List (Str×NameKind)}{scope:Scope}(hn:scope.names=names) (h:∀ p∈names,p.2=.free→∃ c,env.cells.lookup p.1=some c) :
  ∃ cl,closureFor scope env=pure cl∧∀ x,names.lookup x=some .free→∃ c,cl.lookup x=some c∧env.cells.lookup x=some c:=by
 refine X14 (Ch env names [] h (fun J h=>nomatch h)) fun cl e h1 h2 h3=>?_
 refine I12 cl (?_) (fun x hx=>?_)
 ·unfold closureFor
  refine Eq.symm (hn)▸?_
  have:=e
  exact (congrArg (fun t=>t >>= pure) this).trans rfl
 ·refine X11 (h3 (x,.free) (fU hx) rfl) fun c hc=>?_
  refine X12 (rL hc) fun c' a b=>?_
  exact I12 c' a (h1 _ b)
end Mine.Internal
end
noncomputable section
namespace Mine.Internal
structure lY (C:Cx) (fs:List Env) (s:Shared) (a:Nat):Prop where
 o:s.heap.get? a=none
 b:C.base.get? a=none
 f:a∉bH fs
section
variable {C:Cx}{fs:List Env}{env:Env}{gs:List (Str×NameKind)}{ns:List Str}{m:LE}{H H':MH}{s s':Shared}{A:Around}{E:MH→Prop}{d:Nat}{Q:QV}
theorem mH (I₀:Inv C fs H s) (S:aM fs H s H' s') (I:Inv C fs H' s'):lY C fs s s'.heap.objs.size:=
 ⟨bY S I (dU _),gU I,fun hm=>by
  obtain ⟨_,o,e,_⟩:=I.frames.mem hm
  rw [dU] at e;cases e⟩
structure CE (C:Cx) (fs:List Env) (H:MH) (s:Shared) (D Cc:Nat) (H':MH) (s':Shared) (acc:List PV):Prop where
 S:aM fs H s H' s'
 I:Inv C fs H' s'
 dl:∃ items n,s'.heap.get? D=some ⟨.type "list",none,.seq items n,#[]⟩∧VRs C s'.heap acc items.toList
 dn:H' D=none
 ns:∃ mm,s'.heap.Ns Cc mm
 cn:H' Cc=none
structure CI (C:Cx) (fs:List Env) (H:MH) (s:Shared) (p:PV) (xs:List PV) (it D Cc:Nat) (H':MH) (s':Shared) (i:Nat) (acc:List PV):Prop where
 S:aM fs H s H' s'
 I:Inv C fs H' s'
 dl:∃ items n,s'.heap.get? D=some ⟨.type "list",none,.seq items n,#[]⟩∧VRs C s'.heap acc items.toList
 dn:H' D=none
 ix:dS C p xs i it s'.heap
 xn:H' it=none
 ns:∃ mm,s'.heap.Ns Cc mm
 cn:H' Cc=none
variable {p:PV}{xs acc:List PV}{it D Cc i:Nat}
theorem CI.step (X:CI C fs H s p xs it D Cc H' s' i acc) (fD:lY C fs s D) {H'':MH}{s'':Shared}(S:aM fs H' s' H'' s'') (I:Inv C fs H'' s''):CI C fs H s p xs it D Cc H'' s'' i acc:=by
 refine X22 (X.dl) fun items n h1 h2=>?_
 refine hC fun hG=>?_
 obtain ⟨mm,h3⟩:=X.ns
 refine X23 (X.ix.obj) fun oi vs h4 h5 J=>?_
 refine X02 (S.ns h3 X.cn) fun h6 h7=>?_
 obtain ⟨hd,e|⟨q,_⟩⟩:=S.keep D _ h1 X.dn
 refine hG ?_;clear hG
 ·exact ⟨X.S.trans S,I,(I22 items n e (h2.step S X.I)),hd,X.ix.step S X.I,(S.fields X.I h4 h5).2,⟨mm,h6⟩,h7⟩
 ·exact absurd q fD.f
theorem Ns.notVal {h:Heap}{a:Addr}{mm}(x:h.Ns a mm):∃ o,h.get? a=some o∧bZ o∧∀ vs,o.data≠.fields vs:=by
 refine X33 x fun o es ep e hd J=>?_
 exact I13 o e (.dict hd) (fun vs q=>by rw [hd] at q;cases q)
theorem CI.move (X:CI C fs H s p xs it D Cc H' s' i acc) (I₀:Inv C fs H s) {b:Nat}{h':Heap}{tk:Tok}(fb:lY C fs s b) (bn:H' b=none) (ob:∃ o,s'.heap.get? b=some o∧bZ o)
  (hs:Heap.ExtBut b s'.heap h') {acc':List PV} {i':Nat}
  (dl:∃ items n,h'.get? D=some ⟨.type "list",none,.seq items n,#[]⟩∧VRs C h' acc' items.toList) (ix:dS C p xs i' it h') (hn:∃ mm,h'.Ns Cc mm) :
  CI C fs H s p xs it D Cc H' { s' with heap:=h',toks:=tk } i' acc':=by
 refine X12 ob fun o e nv=>?_
 refine ⟨fH X.S fun c x ec=>?_,iT X.I fun c x ec=>?_,dl,X.dn,ix,X.xn,hn,X.cn⟩
 ·by_cases q:c=b
  ·subst q;exact .inr fb.o
  ·exact .inl (hs c x q ec)
 ·by_cases q:c=b
  ·clear hn ix dl i' acc' ob tk I₀
   subst q
   rw [e] at ec;cases ec
   exact .inr (I04 (fb.b) bn nv (fun hm=>absurd hm fb.f))
  ·exact .inl (hs c x q ec)
theorem qC {b:Nat}{h h':Heap}(hs:Heap.ExtBut b h h') (ob:∃ o,h.get? b=some o∧bZ o) {p:PV}{v:Value}:VR C h p v→VR C h' p v:=
 gG fun c x ec=>by
  by_cases q:c=b
  ·subst q
   refine X12 ob fun o e nv=>?_
   rw [e] at ec;cases ec
   exact .inr nv
  ·exact .inl (hs c x q ec)
theorem kJ {b:Nat}{h h':Heap}(hs:Heap.ExtBut b h h') (ob:∃ o,h.get? b=some o∧bZ o) {p:List PV}{v:List Value}:VRs C h p v→VRs C h' p v:=
 nO fun c x ec=>by
  by_cases q:c=b
  ·subst q
   refine X12 ob fun o e nv=>?_
   rw [e] at ec;cases ec
   exact .inr nv
  ·exact .inl (hs c x q ec)
theorem eQ {sc:Scope}{y:Str}{fr:List Nat}(hc:iL gs ns sc y fr=true):sc.kind=.function∧(∀ x∈sc.names,x.2≠.cell)∧(∀ x∈sc.names,x.2=.local→sc.names.lookup x.1=some .local) ∧
  (∀ x∈sc.names,x.2=.free→isC gs x.1=true)∧sc.names.lookup y=some .local∧∀ i∈fr,∀ nm,ns[i]?=some nm→sc.names.lookup nm=some .free:=by
 simp only [iL,Bool.and_eq_true,beq_iff_eq] at hc
 refine X02 hc ?_
 rintro ⟨⟨h1,h2⟩,h3⟩ h4
 rw [List.all_eq_true] at h2 h4
 refine I06 h1 (fun x hx=>?_) (fun x hx hl=>?_) (fun x hx hl=>?_) h3 (fun i hi nm e=>?_)
 ·have:=h2 x hx;simp only [Bool.and_eq_true] at this;simpa using this.1.1
 ·have:=h2 x hx;simp only [Bool.and_eq_true,Bool.or_eq_true] at this
  rcases this.1.2 with q|q
  ·simp [hl] at q
  ·exact beq_iff_eq.mp q
 ·have:=h2 x hx;simp only [Bool.and_eq_true,Bool.or_eq_true] at this
  rcases this.2 with q|q
  ·simp [hl] at q
  ·exact q
 ·have:=h4 i hi
  rw [e] at this;exact beq_iff_eq.mp this
theorem Dn {x:Str}(h:isC gs x=true):gs.lookup x=some .cell∨gs.lookup x=some .free:=by
 simp only [isC,Bool.or_eq_true,beq_iff_eq] at h;exact h
theorem comp_bd (B:Bd C A fs env gs d) {sc:Scope}{y:Str}{fr:List Nat}{cl:List (Str×Addr)}(hc:iL gs ns sc y fr=true)
  (hcl:∀ x,sc.names.lookup x=some .free→∃ c,cl.lookup x=some c∧env.cells.lookup x=some c):Bd C A fs (compEnvC sc cl Cc env) sc.names d:=by
 refine X06 (eQ hc) fun h1 h2 h3 h4 h5 h6=>?_
 refine ⟨B.O,B.fr,B.hd,h1,B.glob,B.blt,fun x hx=>?_,fun x hx=>?_,B.rd,B.ru⟩
 ·show (List.map _ sc.names).lookup x=_
  rw [eM,hx];rfl
 ·rcases hx with hx|hx
  ·exact absurd rfl (h2 _ (fU hx))
  ·refine X12 (hcl x hx) fun c e1 e2=>?_
   refine ⟨?_,c,e1⟩
   show (List.map _ sc.names).lookup x=some _∨(List.map _ sc.names).lookup x=some _
   rw [eM,hx]
   show some (pG env x .free)=_∨some (pG env x .free)=_
   unfold pG
   split
   ·exact .inl rfl
   ·exact .inr rfl
theorem comp_st (B:Bd C A fs env gs d) (T:St C fs env ns m H s) {sc:Scope}{y:Str}{t:Nat}{fr:List Nat}{cl:List (Str×Addr)}(hy:ns[t]?=some y) (hc:iL gs ns sc y fr=true)
  (hcl:∀ x,sc.names.lookup x=some .free→∃ c,cl.lookup x=some c∧env.cells.lookup x=some c) (S:aM fs H s H' s') (I':Inv C fs H' s') {mm:Str→Option Value} {p:PV} {v:Value}
  (hn:s'.heap.Ns Cc mm) (cn:H' Cc=none) (hv:mm y=some v) (hp:VR C s'.heap p v):St C fs (compEnvC sc cl Cc env) ns ((eJ m fr).set t p) H' s':=by
 refine X06 (eQ hc) fun h1 h2 h3 h4 h5 h6=>?_
 refine ⟨I',eO T.inv T.nl S,(I12 mm hn (fun i nm e hu=>?_)),cn⟩
 rw [aJ] at hu ⊢
 by_cases q:i=t
 ·subst q
  rw [hy] at e;cases e
  rw [if_pos rfl]
  exact .inl ⟨lookup_relabel_local h5,v,hv,hp⟩
 ·rw [if_neg q] at hu ⊢
  unfold eJ at hu ⊢
  split at hu
  ·rename_i hm
   rw [if_pos hm]
   have hf:=h6 i (List.contains_iff_mem.mp hm) nm e
   refine X12 (hcl nm hf) fun c e1 e2=>?_
   have hB:=B.cl nm (Dn (h4 _ (fU hf) rfl))
   refine X12 (T.loc) fun mm₀ hn₀ hl=>?_
   refine .inr ⟨?_,?_⟩
   ·show (List.map _ sc.names).lookup nm=some _∨(List.map _ sc.names).lookup nm=some _
    rw [eM,hf]
    show some (pG env nm .free)=_∨some (pG env nm .free)=_
    unfold pG
    split
    ·exact .inl rfl
    ·exact .inr rfl
   ·refine Or.elim (hl i nm e hu) ?_ ?_
    ·rintro ⟨k1,_⟩
     rcases hB.1 with q|q<;>rw [k1] at q<;>cases q
    ·rintro ⟨_,c',v',k2,k3,k4⟩
     rw [e2] at k2;cases k2
     exact I23 c v' e1 (S.cell T.inv k3) (k4.step S T.inv)
  ·exact absurd rfl hu
end
end Mine.Internal
end
noncomputable section
namespace Mine.Internal
section
variable {C:Cx}{fs:List Env}{env:Env}{gs:List (Str×NameKind)}{ns:List Str}{m:LE}{H H':MH}{s s':Shared}{A:Around}{E:MH→Prop}{d:Nat}{Q:QV}
 {p:PV} {xs acc:List PV} {it D Cc i:Nat}
theorem sD {α:Type}{l:List α}{i:Nat}{y:α}(h:l[i]?=some y):l.drop i=y::l.drop (i+1):=by
 refine X11 (List.getElem?_eq_some_iff.mp h) fun h1 h2=>?_
 rw [←h2];exact List.drop_eq_getElem_cons h1
theorem Gp (B:Bd C A fs env gs d) (T:St C fs env ns m H s) {sc:Scope}{y:Str}{px pos:Pos}{t:Nat}{fr:List Nat}{cl:List (Str×Addr)}{el iter:Expr}{ifs:List Expr}
  (hy:ns[t]?=some y) (hc:iL gs ns sc y fr=true) (hcl:∀ x,sc.names.lookup x=some .free→∃ c,cl.lookup x=some c∧env.cells.lookup x=some c)
  (fD:lY C fs s D) (fI:lY C fs s it) (fC:lY C fs s Cc) (hDI:D≠it) (hDC:D≠Cc) (hIC:it≠Cc)
  {c:LE→MH→(Bool→MH→Prop)→Prop} {e:LE→MH→QV→Prop} {K:List PV→MH→Prop}
  (htest:∀ {m' H₁ s₁ R},St C fs (compEnvC sc cl Cc env) ns m' H₁ s₁→c m' H₁ R →
   wpAny (model C.prog C.w) A (forIn ifs true fun c r=>if r=true then do let ok ←isTrue c (compEnvC sc cl Cc env) (eval c (compEnvC sc cl Cc env));pure (ForInStep.yield ok) else pure (ForInStep.yield r)) (OkG C fs H₁ s₁ (BQ R)) (OkX C fs H₁ s₁ nope) s₁)
  (helt:∀ {m' H₁ s₁ R},St C fs (compEnvC sc cl Cc env) ns m' H₁ s₁→e m' H₁ R→wpAny (model C.prog C.w) A (eval el (compEnvC sc cl Cc env)) (OkG C fs H₁ s₁ (VQ C R)) (OkX C fs H₁ s₁ nope) s₁)
  (X:CI C fs H s p xs it D Cc H' s' 0 []) (hk:kO p xs H') (h:fB t c e (kO p xs) (eJ m fr) xs H' [] K)
  {R:Result→Shared→Prop} (hfin:∀ H₅ s₅ ys,CE C fs H s D Cc H₅ s₅ ys→K ys H₅→R (.ok .next) s₅) :
  codeAny (model C.prog C.w) A (.compLoop (.ListComp el [⟨.Name y px,iter,ifs,0⟩] sc pos) 0 (.ref it) (.ref D) (compEnvC sc cl Cc env)) R s':=by
 refine codeAny_compLoop_tests (fun k s₁=>∃ H₁ i acc,k=xs.length+1 - i∧i≤xs.length∧CI C fs H s p xs it D Cc H₁ s₁ i acc∧kO p xs H₁∧fB t c e (kO p xs) (eJ m fr) (xs.drop i) H₁ acc K)
  ?_ (xs.length+1) (I35 H' 0 ([]) rfl (Nat.zero_le _) X hk h)
 clear hk X iter pos
 rintro k s₁ ⟨H₁,i,acc,rfl,hi,X₁,hk₁,h₁⟩
 refine X22 (X₁.dl) fun items n d1 d2=>?_
 refine hC fun hG=>?_
 obtain ⟨mm,hn⟩:=X₁.ns<;>(refine hG ?_;clear hG)
 refine X23 (X₁.ix.obj) fun oi vs i1 i2 i3=>?_
 refine tV B.hd X₁.I X₁.xn hk₁ X₁.ix (fun en h' hs=>?_) fun z v h' tk ez hs hv ix'=>?_
 ·have ed:xs.drop i=[]:=List.drop_eq_nil_of_le (by rw [List.getElem?_eq_none_iff] at en;exact en)
  rw [ed] at h₁
  have I₂:Inv C fs H₁ { s₁ with heap:=h' }:=iT (tk:=s₁.toks) X₁.I fun b o eb=>by
   by_cases q:b=it
   ·subst q;rw [i1] at eb;cases eb;exact .inr (I04 (fI.b) (X₁.xn) i3 (fun hm=>absurd hm fI.f))
   ·exact .inl (hs b o q eb)
  have S₂:aM fs H s H₁ { s₁ with heap:=h' }:=fH (tk:=s₁.toks) X₁.S fun b o eb=>by
   by_cases q:b=it
   ·subst q;exact .inr fI.o
   ·exact .inl (hs b o q eb)
  exact hfin H₁ _ acc ⟨S₂,I₂,(I22 items n (hs D _ hDI d1) (kJ hs (I12 oi i1 i3) d2)),X₁.dn,⟨mm,hn.extBut hs (Ne.symm hIC)⟩,X₁.cn⟩ h₁
 ·replace h₁:=(sD ez)▸h₁
  have X₂:CI C fs H s p xs it D Cc H₁ { s₁ with heap:=h',toks:=tk } (i+1) acc:=
   X₁.move T.inv fI X₁.xn ⟨oi,i1,i3⟩ hs.extBut (I22 items n (hs.extBut D _ hDI d1) (kJ hs.extBut ⟨oi,i1,i3⟩ d2)) ix' ⟨mm,hn.extBut hs.extBut (Ne.symm hIC)⟩
  have hv₂:VR C h' z v:=qC hs.extBut (I12 oi i1 i3) hv
  have hn₂:h'.Ns Cc mm:=hn.extBut hs.extBut (Ne.symm hIC)
  have hlt:i<xs.length:=(List.getElem?_eq_some_iff.mp ez).1
  refine wpAny_assign_Name (wpAny_storeName_local (env:=compEnvC sc cl Cc env) (lookup_relabel_local (eQ hc).2.2.2.2.1) hn₂ (fun h₂ hn₃ hs₂=>?_) (by
   have:=(eQ hc).1
   show (sc.kind==.class||(sc.kind==.module&&_))=false
   rw [this];rfl))
  refine X13 (Ns.notVal hn₂) fun oc c1 c2 c3=>?_
  refine X22 (X₂.dl) fun items₂ n₂ d1₂ d2₂=>?_
  have X₃:CI C fs H s p xs it D Cc H₁ { s₁ with heap:=h₂,toks:=tk+1 } (i+1) acc:=
   X₂.move T.inv fC X₁.cn (I12 oc c1 c2) hs₂.extBut (I22 items₂ n₂ (hs₂.extBut D _ hDC d1₂) (kJ hs₂.extBut (I12 oc c1 c2) d2₂))
    (X₂.ix.move fun b o eb=>by
     by_cases q:b=Cc
     ·clear d2₂ d1₂ n₂ items₂ hn₂ X₂ ix' hv
      subst q
      have e3:some oc=some o:=c1.symm.trans eb
      cases e3;exact .inr ⟨c2,c3⟩
     ·exact .inl (hs₂.extBut b o q eb)) ⟨_,hn₃⟩
  have hv₃:VR C h₂ z v:=qC hs₂.extBut (I12 oc c1 c2) hv₂
  have T₃:=comp_st B T hy hc hcl X₃.S X₃.I hn₃ X₁.cn (by simp) hv₃
  refine wpAny_mono (htest T₃ h₁) (fun b s₄ z=>X13 z fun H₄ S₄ I₄ q₄=>?_) fun J J x=>(sS x).elim
  have X₄:=X₃.step fD S₄ I₄
  clear hv₃ X₃ d2₂ d1₂ n₂ items₂ c3 c2
  cases b with
  | false=>
   rw [if_neg (by decide)]
   exact ⟨xs.length+1 - (i+1),ar52 hlt,H₄,i+1,acc,rfl,hlt,X₄,q₄.1,q₄.2⟩
  | true=>
   rw [if_pos rfl]
   refine wpAny_mono (helt (T₃.step S₄ I₄) q₄) (fun u s₅ ⟨H₅,S₅,I₅,pu,ru,k5,hl,hrest⟩=>?_) fun J J x=>(sS x).elim
   have X₅:=X₄.step fD S₅ I₅
   refine X22 (X₅.dl) fun items₅ n₅ d1₅ d2₅=>?_
   refine X11 (X₅.ns) fun mm₅ hn₅=>?_
   refine X23 (X₅.ix.obj) fun oi₅ vs₅ i1₅ i2₅ i3₅=>?_
   have la:=d2₅.length
   replace la:=(Array.length_toList)▸la
   refine append_at d1₅ (fun h₆ hs₆ ho₆=>?_) (by rw [la,sizeLine_eq];exact Nat.le_trans (Nat.le_succ _) (Nat.le_trans hl (Nat.le_of_ble_eq_true rfl)))
   have nD:bZ ⟨.type "list",none,.seq items₅ n₅,#[]⟩:=.cls (by simp) (by simp)
   refine ⟨xs.length+1 - (i+1),ar52 hlt,H₅,i+1,acc++[pu],rfl,hlt,X₅.move (tk:=s₅.toks) T.inv fD X₅.dn ⟨_,d1₅,nD⟩ hs₆.extBut (I22 _ _ ho₆ (?_)) ?_ ⟨mm₅,hn₅.extBut hs₆.extBut (Ne.symm hDC)⟩,k5,hrest⟩
   ·refine Eq.symm (Array.toList_push)▸?_
    exact (kJ hs₆.extBut ⟨_,d1₅,nD⟩ d2₅).append (I23 u ([]) rfl (qC hs₆.extBut ⟨_,d1₅,nD⟩ ru) rfl)
   ·exact X₅.ix.move fun b o eb=>by
     by_cases q:b=D
     ·clear ho₆ la i3₅ i2₅ i1₅ vs₅ oi₅ hn₅
      subst q;rw [d1₅] at eb;cases eb;exact .inr ⟨nD,fun J q=>(by contradiction)⟩
     ·exact .inl (hs₆.extBut b o q eb)
end
end Mine.Internal
end
noncomputable section
namespace Mine.Internal
section
variable {C:Cx}{fs:List Env}{env:Env}{gs:List (Str×NameKind)}{ns:List Str}{m:LE}{H H':MH}{s s':Shared}{A:Around}{E:MH→Prop}{d:Nat}{Q:QV}
 {p:PV} {xs acc:List PV} {it D Cc i:Nat}
theorem Bw {X:Value→Shared→Prop}{R:Value→Shared→Prop}(x:dS C p xs i it s.heap) (h:R (.ref it) s):wpAny (model C.prog C.w) A (pyIter (.ref it)) R X s:=by
 unfold dS at x
 split at x
 ·obtain ⟨e,t,items,h1,_⟩:=x
  exact wpAny_pyIter_tupleiter h1 h
 ·exact wpAny_pyIter_rangeiter x.2.2.2.2 h
 ·exact wpAny_pyIter_listiter x h
 ·exact x.elim
theorem uA (B:Bd C A fs env gs d) (T:St C fs env ns m H s) {sc:Scope}{y:Str}{px pos pos':Pos}{t:Nat}{fr:List Nat}{el iter:Expr}{ifs:List Expr}
  (hy:ns[t]?=some y) (hc:iL gs ns sc y fr=true) (hfold:∀ x,foldedSetIterable iter env x=pure x)
  {c:LE→MH→(Bool→MH→Prop)→Prop} {e:LE→MH→QV→Prop} {K:List PV→MH→Prop}
  (hsrc:wpAny (model C.prog C.w) A (eval iter env) (OkG C fs H s (VQ C fun p H₁=>oI p H₁ fun xs chk=>fB t c e chk (eJ m fr) xs H₁ [] K)) (OkX C fs H s nope) s)
  (htest:∀ {env' m' H₁ s₁ R},Bd C A fs env' sc.names d→St C fs env' ns m' H₁ s₁→c m' H₁ R →
   wpAny (model C.prog C.w) A (forIn ifs true fun c r=>if r=true then do let ok ←isTrue c env' (eval c env');pure (ForInStep.yield ok) else pure (ForInStep.yield r)) (OkG C fs H₁ s₁ (BQ R)) (OkX C fs H₁ s₁ nope) s₁)
  (helt:∀ {env' m' H₁ s₁ R},Bd C A fs env' sc.names d→St C fs env' ns m' H₁ s₁→e m' H₁ R→wpAny (model C.prog C.w) A (eval el env') (OkG C fs H₁ s₁ (VQ C R)) (OkX C fs H₁ s₁ nope) s₁)
  {use:Option (Value→Sem Unit)} {Qf:Value→Shared→Prop} {X:Value→Shared→Prop}
  (hfin:∀ D Cc H₅ s₅ ys,lY C fs s D→lY C fs s Cc→D≠Cc→CE C fs H s D Cc H₅ s₅ ys→K ys H₅→compPost (model C.prog C.w) A X use Qf (.ref D) Cc (.ok .next) s₅) :
  wpAny (model C.prog C.w) A (comprehension (.ListComp el [⟨.Name y px,iter,ifs,0⟩] sc pos) sc env pos' (newList []) false (eval iter env) use) Qf X s:=by
 refine X06 (eQ hc) fun h1 h2 h3 h4 h5 h6=>?_
 refine X12 (tA (gs:=gs) (env:=env) (scope:=sc) rfl fun q hq hf=>(B.cl q.1 (Dn (h4 q hq hf))).2) fun cl hclos hcl=>?_
 refine wpAny_comprehension_free rfl hfold hclos h1 h3 (wpAny_mono hsrc (fun v s₁ z=>X13 z fun H₁ S₁ I₁ z=>X12 z fun p hp hs=>?_) fun J J x=>(sS x).elim)
 refine rR I₁ hp hs fun xs o tk hN hk ix=>?_
 have fI:=mH T.inv S₁ I₁
 have k₂:=aP s₁.heap o
 have S₂:aM fs H s H₁ { s₁ with heap:=s₁.heap.push o,toks:=tk }:=S₁.trans (aK k₂)
 have I₂:Inv C fs H₁ { s₁ with heap:=s₁.heap.push o,toks:=tk }:=aN I₁ k₂
 refine wpAny_newList ?_ (by show 0≤sizeLine;exact Nat.zero_le _)
 have fD:=mH T.inv S₂ I₂
 have k₃:=aP (s₁.heap.push o) { cls:=.type "list",data:=.seq ([]:List Value).toArray }
 have S₃:aM fs H s H₁ { s₁ with heap:=(s₁.heap.push o).push { cls:=.type "list",data:=.seq ([]:List Value).toArray },toks:=tk }:=S₂.trans (aK k₃)
 have I₃:Inv C fs H₁ { s₁ with heap:=(s₁.heap.push o).push { cls:=.type "list",data:=.seq ([]:List Value).toArray },toks:=tk }:=aN I₂ k₃
 refine wpAny_newFunctionEnv (fun x hx=>h2 x hx) (fun x hx=>nomatch hx) (fun h' hn hs=>?_) h1
 have fC:=mH T.inv S₃ I₃
 have k₄:∀ b o',((s₁.heap.push o).push { cls:=.type "list",data:=.seq ([]:List Value).toArray }).get? b=some o'→h'.get? b=some o':=fun b o' eb=>
  (hs.2 b (Nat.ne_of_lt (Heap.lt_size eb))).trans (Heap.get?_push_of_some _ eb)
 have S₄:aM fs H s H₁ { s₁ with heap:=h',toks:=tk+0 }:=S₃.trans (aK k₄)
 have I₄:Inv C fs H₁ { s₁ with heap:=h',toks:=tk+0 }:=aN I₃ k₄
 have hIn:H₁ s₁.heap.objs.size=none:=I₁.none_size
 have hDn:H₁ (s₁.heap.push o).objs.size=none:=I₂.none_size
 have hCn:H₁ ((s₁.heap.push o).push { cls:=.type "list",data:=.seq ([]:List Value).toArray }).objs.size=none:=I₃.none_size
 have hDI:(s₁.heap.push o).objs.size≠s₁.heap.objs.size:=by simp only [Heap.size_push];exact ar54
 have hDC:(s₁.heap.push o).objs.size≠((s₁.heap.push o).push { cls:=.type "list",data:=.seq ([]:List Value).toArray }).objs.size:=by simp only [Heap.size_push];exact ar55
 have hIC:s₁.heap.objs.size≠((s₁.heap.push o).push { cls:=.type "list",data:=.seq ([]:List Value).toArray }).objs.size:=by simp only [Heap.size_push];exact ar56
 have ix₄:dS C p xs 0 s₁.heap.objs.size h':=ix.move fun b o' eb=>.inl (k₄ b o' (k₃ b o' eb))
 have X₄:CI C fs H s p xs s₁.heap.objs.size (s₁.heap.push o).objs.size ((s₁.heap.push o).push { cls:=.type "list",data:=.seq ([]:List Value).toArray }).objs.size H₁ { s₁ with heap:=h',toks:=tk+0 } 0 []:=
  ⟨S₄,I₄,(I22 (#[]) 0 (k₄ _ _ (Heap.get?_push_size _ rfl)) rfl),hDn,ix₄,hIn,⟨_,hn⟩,hCn⟩
 have B':=comp_bd (Cc:=((s₁.heap.push o).push { cls:=.type "list",data:=.seq ([]:List Value).toArray }).objs.size) B hc hcl
 have loop:=Gp (px:=px) (pos:=pos) (iter:=iter) (el:=el) (ifs:=ifs) B T hy hc hcl fD fI fC hDI hDC hIC (c:=c) (e:=e) (K:=K) (fun T' q=>htest B' T' q) (fun T' q=>helt B' T' q) X₄ hk hN
  (R:=compPost (model C.prog C.w) A X use Qf (.ref (s₁.heap.push o).objs.size) ((s₁.heap.push o).push { cls:=.type "list",data:=.seq ([]:List Value).toArray }).objs.size)
  (fun H₅ s₅ ys x k=>hfin _ _ H₅ s₅ ys fD fC hDC x k)
 exact codeAny_compStart_list loop (Bw ix₄ loop)
theorem mP (S:aM fs H s H' s') {a:Nat}{o:dJ}(h:s.heap.get? a=none):aM fs H s (H'.set a o) s':=by
 refine ⟨fun b ob e hb=>?_,fun b hb=>?_⟩
 ·refine X02 (S.keep b ob e hb) fun h1 h2=>?_
  refine ⟨?_,h2⟩
  unfold MH.set
  rw [if_neg (fun q=>by rw [q,h] at e;cases e)];exact h1
 ·unfold MH.set;split
  ·exact fun q=>nomatch q
  ·exact S.mono b hb
theorem uH (I:Inv C fs H s) {a:Nat}{o:dJ}(hb:C.base.get? a=none) (h:HR C s.heap a o):Inv C fs (H.set a o) s:=by
 refine ⟨I.stays,I.frames,fun b ob e=>?_,I.gens,I.os⟩
 unfold MH.set at e
 split at e
 ·rename_i q;subst q;cases e;exact ⟨hb,h⟩
 ·exact I.hrel b ob e
theorem CE.out (X:CE C fs H s D Cc H' s' acc) (fD:lY C fs s D) (fC:lY C fs s Cc) (hDC:D≠Cc) {h':Heap}(hs:Heap.SameBut Cc s'.heap h') :
  aM fs H s (H'.set D (.list acc)) { s' with heap:=h' }∧Inv C fs (H'.set D (.list acc)) { s' with heap:=h' }:=by
 refine X11 (X.ns) fun mm hn=>?_
 refine X13 (Ns.notVal hn) fun oc c1 c2 c3=>?_
 refine X22 (X.dl) fun items n d1 d2=>?_
 have S₂:aM fs H s H' { s' with heap:=h' }:=fH (tk:=s'.toks) X.S fun b o eb=>by
  by_cases q:b=Cc
  ·clear c3 hn mm out
   subst q;exact .inr fC.o
  ·exact .inl ((hs.2 b q).trans eb)
 have I₂:Inv C fs H' { s' with heap:=h' }:=iT (tk:=s'.toks) X.I fun b o eb=>by
  by_cases q:b=Cc
  ·clear c3 hn mm out
   subst q
   have e3:some oc=some o:=c1.symm.trans eb
   cases e3;exact .inr (I04 (fC.b) (X.cn) c2 (fun hm=>absurd hm fC.f))
  ·exact .inl ((hs.2 b q).trans eb)
 exact ⟨mP S₂ fD.o,uH I₂ fD.b (I22 items n ((hs.2 D hDC).trans d1) (kJ hs.extBut (I12 oc c1 c2) d2))⟩
theorem comp_ok (B:Bd C A fs env gs d) (T:St C fs env ns m H s) {sc:Scope}{y:Str}{px pos:Pos}{t:Nat}{fr:List Nat}{el iter:Expr}{ifs:List Expr}
  (hy:ns[t]?=some y) (hc:iL gs ns sc y fr=true) (hfold:∀ x,foldedSetIterable iter env x=pure x)
  {c:LE→MH→(Bool→MH→Prop)→Prop} {e:LE→MH→QV→Prop}
  (hsrc:wpAny (model C.prog C.w) A (eval iter env) (OkG C fs H s (VQ C fun p H₁=>oI p H₁ fun xs chk=>fB t c e chk (eJ m fr) xs H₁ [] fun ys H₂=>gF ys H₂ Q)) (OkX C fs H s nope) s)
  (htest:∀ {env' m' H₁ s₁ R},Bd C A fs env' sc.names d→St C fs env' ns m' H₁ s₁→c m' H₁ R →
   wpAny (model C.prog C.w) A (forIn ifs true fun c r=>if r=true then do let ok ←isTrue c env' (eval c env');pure (ForInStep.yield ok) else pure (ForInStep.yield r)) (OkG C fs H₁ s₁ (BQ R)) (OkX C fs H₁ s₁ nope) s₁)
  (helt:∀ {env' m' H₁ s₁ R},Bd C A fs env' sc.names d→St C fs env' ns m' H₁ s₁→e m' H₁ R→wpAny (model C.prog C.w) A (eval el env') (OkG C fs H₁ s₁ (VQ C R)) (OkX C fs H₁ s₁ nope) s₁)
  {X:Value→Shared→Prop} :
  wpAny (model C.prog C.w) A (eval (.ListComp el [⟨.Name y px,iter,ifs,0⟩] sc pos) env) (OkG C fs H s (VQ C Q)) X s:=by
 rw [eval_ListComp]
 refine uA B T hy hc hfold hsrc htest helt fun D Cc H₅ s₅ ys fD fC hDC ce k=>?_
 refine I12 (ce.ns.choose) (ce.ns.choose_spec) (fun h' hs=>?_)
 refine X02 (ce.out fD fC hDC hs) fun S I=>?_
 exact ⟨_,S,I,.lst D,rfl,k D ce.dn⟩
end
end Mine.Internal
end
noncomputable section
namespace Mine.Internal
theorem fS {M:Model}{A:Around}{E:Value→Shared→Prop}{s:Shared}{b:Bool}{R:Bool→Shared→Prop}(h:R b s):wpAny M A (truthy (.bool b)) R E s:=wpAny_truthy_bool h
section
variable {C:Cx}{fs:List Env}{env:Env}{gs:List (Str×NameKind)}{ns:List Str}{m:LE}{H H':MH}{s s':Shared}{A:Around}{E:MH→Prop}{d:Nat}{Q:QV}
theorem Bb {vs:List Value}{ps:List PV}{X:Value→Shared→Prop}(I:Inv C fs H s) (hv:VRs C s.heap ps vs) (hl:ps.length≤16000000) (q:gF ps H Q) :
  wpAny (model C.prog C.w) A (newList vs) (OkG C fs H s (VQ C Q)) X s:=by
 have la:=hv.length
 refine wpAny_newList (OkE.g ?_) (by rw [la,sizeLine_eq];exact ar31 hl)
 exact OkE.newList I hv q
theorem pJ {vs:List Value}{ps:List PV}{X:Value→Shared→Prop}(I:Inv C fs H s) (hv:VRs C s.heap ps vs) (hl:ps.length≤16000000) (q:Q (.tup ps) H) :
  wpAny (model C.prog C.w) A (newTuple vs) (OkG C fs H s (VQ C Q)) X s:=by
 have la:=hv.length
 refine wpAny_newTuple (OkE.g ?_) (by rw [la,sizeLine_eq];exact ar31 hl)
 exact OkE.newTup I hv q
theorem test_of (x:Expr) {whole:Sem Value}{P:Bool→MH→Prop}{X:Value→Shared→Prop}(h:wpAny (model C.prog C.w) A whole (OkG C fs H s (VQ C (iX P))) X s)
  (he:isTrue x env whole=(do let v ←whole;standAt x.pos;holding [v] (truthy v))):wpAny (model C.prog C.w) A (isTrue x env whole) (OkG C fs H s (BQ P)) X s:=by
 refine wpAny_isTrue_value (wpAny_mono h (fun v s' z=>X13 z fun H' S I z=>X12 z fun p hp q=>?_) fun J J x=>x) he
 cases p with
 | bool b=>
  obtain rfl:=hp
  exact fS (I13 H' S I q)
 | _=>exact q.elim
end
section
variable {M:Model}{A:Around}{X:Value→Shared→Prop}{s:Shared}{env:Env}{gs:List (Str×NameKind)}{ns:List Str}{es:List ME}{xs:List Expr}
theorem sU {o:Expr}{name:Str}{apos pos:Pos}{R:Value→Shared→Prop}(ha:dI gs ns es xs=true) (hl:es.length≤20) (hb:lJ o=true) (hline:(apos.endLine==pos.line)=true)
  (h:wpAny M A (eval o env) (fun ov s₁=>∀ pl,wpAny M A (getMethod ov name pl) (fun fx s₂=>wpAny M A (callWith pos fx.1 fx.2 (backTo pos (starEach xs env)) []) R X s₂) X s₁) X s) :
  wpAny M A (eval (.Call (.Attribute o name apos) xs [] pos) env) R X s:=by
 have hbase:attributeBase o name env (eval o env)=eval o env:=by cases o<;>first|rfl|cases hb
 have hx:=pO ha
 have hs:=gY (env:=env) (pos:=pos) ha
 have few:methodCallForm (xs.length+([]:List Keyword).length) (backTo pos (starEach xs env)) (backToKw pos (keywordEach [] env))=true:=by
  unfold methodCallForm
  have e1:(backTo pos (starEach xs env)).all (fun x=>!x.1)=true:=by
   rw [List.all_eq_true];intro x hx
   cases q:x.1 with
   | false=>rfl
   | true=>
    have:(backTo pos (starEach xs env)).any (·.1)=true:=List.any_eq_true.mpr (I12 x hx q)
    rw [hs] at this;cases this
  rw [e1]
  show (true&&true&&decide (xs.length+0+0<30))=true
  simp;exact ar57 hl hx
 rw [arm_eval_Call,hbase]
 refine wpAny_bind (wpAny_mono h (fun ov s₁ h₁=>wpAny_bind (wpAny_standAt ?_)) fun J J x=>x)
 unfold methodCall
 rw [few]
 refine wpAny_bind (wpAny_holding ?_)
 refine wpAny_mono (h₁ _) (fun fx s₂ h₂=>?_) fun J J x=>x
 have hp:methodCallPos true o env apos pos=pure pos:=by
  unfold methodCallPos
  rw [hline];rfl
 rw [hp]
 exact wpAny_bind (wpAny_pure h₂)
end
theorem Bo {i:Nat}{x:Str}(h:rI i=some x):∀ j,j<2→(bG j==x)=false:=by
 unfold rI at h
 have hm:=List.mem_of_getElem? h
 intro j hj
 have hj:j=0∨j=1:=by exact ar58 hj
 simp only [List.mem_cons,List.not_mem_nil,or_false] at hm
 clear h i
 rcases hm with rfl|rfl|rfl|rfl|rfl|rfl|rfl<;>rcases hj with rfl|rfl<;>decide +kernel
set_option maxRecDepth 100000 in
theorem mk_get {C:Cx}{fs H s A}{k:MK}{o:PV}{v:Value}{pl:Sem Bool}{R:Value×List Value→Shared→Prop}{X:Value→Shared→Prop}
  (I:Inv C fs H s) (hv:VR C s.heap o v) (ho:fQ k o H) (h:R (.builtin (methId k),[v]) s):wpAny (model C.prog C.w) A (getMethod v (mkName k) pl) R X s:=by
 have lst:∀ (nm:Str) (id:String) (a:Nat),Slot "list" nm id→typeOf (.builtin id)=pure (.type "method_descriptor")→(lsQ H a fun J=>True)→v=.ref a→R (.builtin id,[v]) s→wpAny (model C.prog C.w) A (getMethod v nm pl) R X s:=by
  rintro nm id a sl ty ha rfl hr
  obtain ⟨xs,he,_⟩:=yK ha
  obtain ⟨items,n,ho,rx⟩:=cA I he
  exact getMethod_builtin ⟨_,ho,rfl⟩ F.plainAttrs_list sl ty (fun b e=>by cases e;exact ⟨_,ho,rfl⟩) hr
 have str:∀ (nm:Str) (id:String) (l:List Nat),Slot "str" nm id→typeOf (.builtin id)=pure (.type "method_descriptor")→(∃ t,v=.str ⟨l.toArray⟩ t)→R (.builtin id,[v]) s→wpAny (model C.prog C.w) A (getMethod v nm pl) R X s:=by
  rintro nm id l sl ty ⟨t,rfl⟩ hr
  exact getMethod_builtin (typeIs_str _ _ _) F.plainAttrs_str sl ty (fun b e=>by cases e) hr
 cases k with
 | append=>
  obtain ⟨a,xs,rfl,ha,_⟩:=iD ho
  exact lst "append" "list.append" _ F.slot_list_append F.type_list_append ((bQ ha).mpr trivial) hv h
 | pop=>
  obtain ⟨a,xs,rfl,ha,_⟩:=iD ho
  exact lst "pop" "list.pop" _ F.slot_list_pop F.type_list_pop ((bQ ha).mpr trivial) hv h
 | extend=>
  obtain ⟨a,xs,rfl,ha,_⟩:=iD ho
  exact lst "extend" "list.extend" _ F.slot_list_extend F.type_list_extend ((bQ ha).mpr trivial) hv h
 | join=>
  obtain ⟨l,rfl,_⟩:=kY ho
  exact str "join" "str.join" _ F.slot_str_join F.type_str_join hv h
 | find=>
  obtain ⟨l,rfl,_⟩:=kY ho
  exact str "find" "str.find" _ F.slot_str_find F.type_str_find hv h
 | lower=>
  obtain ⟨l,rfl,_⟩:=kY ho
  exact str "lower" "str.lower" _ F.slot_str_lower F.type_str_lower hv h
end Mine.Internal
end
noncomputable section
namespace Mine.Internal
section
variable {C:Cx}{fs:List Env}{env:Env}{H:MH}{s:Shared}{A:Around}
theorem sB {M:Model}{h:Heap}{e:Nat}{oe:Obj}(he:h.get? e=some oe) (hc:oe.cls=.ref C.G):Looks M h (typeOf (.ref e)) (.ref C.G):=
 hc▸(Looks.ld he).andThen .now
theorem Ce (O:fN C) {e:Nat}{oe:Obj}{R:Bool→Shared→Prop}{X:Value→Shared→Prop}(hs:C.base.StaysIn s.heap) (he:s.heap.get? e=some oe) (hc:oe.cls=.ref C.G) (h:R true s) :
  wpAny (model C.prog C.w) A (excMatches (.ref e) (.ref C.G)) R X s:=
 (exm_one (O.KIn.keeps hs) (sB he hc) O.exm).here h
theorem Fm {x:Sem Value}{Z:Flow→Shared→Prop}{X:Value→Shared→Prop}(O:fN C) (hh:A.handled=none)
  (h:wpAny (model C.prog C.w) A x (fun v s'=>∃ e t dd,v=.ref e∧C.base.StaysIn s'.heap∧s'.heap.get? e=some { cls:=.ref C.G,dict:=dd,data:=.fields #[.ref t,.none,.none,.none,.bool false,.none] }∧X (.ref e) s') X s) :
  wpAny (model C.prog C.w) A (raiseStmt env (some x) none) Z X s:=by
 unfold raiseStmt
 refine wpAny_bind (wpAny_mono h (fun v s₁ h₁=>?_) fun J J x=>x)
 refine hC fun hG=>?_
 obtain ⟨e,t,dd,rfl,hs,he,hE⟩:=h₁<;>(refine hG ?_;clear hG)
 have K':=O.KIn.keeps hs
 have ty:Looks (model C.prog C.w) s₁.heap (isType (.ref e)) false:=(Looks.ld he).andThen .now
 have ty1:Looks (model C.prog C.w) s₁.heap (isExcClass (.ref e)) false:=by
  unfold isExcClass
  refine ty.andThen ?_
  rw [if_neg Bool.false_ne_true];exact .now
 have hi:Looks (model C.prog C.w) s₁.heap (isInstance (.ref e) (.type "BaseException")) true:=(sB (M:=model C.prog C.w) he rfl).andThen (looks_subIn K' O.gBase)
 have hri:Looks (model C.prog C.w) s₁.heap (raisedInstance (.ref e)) (.ref e):=by
  unfold raisedInstance
  refine (sB (M:=model C.prog C.w) he rfl).andThen ((looks_typeIn K' O.gTy).andThen ?_)
  rw [if_pos (by decide)];exact .now
 refine wpAny_bind (wpAny_pure (wpAny_bind (wpAny_holding ?_)))
 unfold excFromValue
 refine wpAny_bind (ty1.here ?_)
 refine Eq.symm (if_neg Bool.false_ne_true)▸?_
 refine wpAny_bind (hi.here ?_)
 refine Eq.symm (if_pos rfl)▸?_
 refine wpAny_pure ?_
 refine wpAny_bind (ty.here ?_)
 refine Eq.symm (if_neg Bool.false_ne_true)▸?_
 refine wpAny_bind (hri.here ?_)
 unfold setFlight
 refine wpAny_bind (wpAny_bind (wpAny_field he rfl (x:=.none) rfl ?_))
 rw [if_neg (by decide)]
 exact wpAny_pure (wpAny_raiseNew_none hh hE)
theorem new_ok {d:Nat}{Fn:FSt}{ps:List PV}{vs:List Value}{Q:QV}{E:MH→Prop}(hF:∀ f vs H Q E,Fn f vs H Q E→aB C d f vs H Q E) (O:fN C) (hfr:A.frames=some fs) (hh:A.handled=none) (hd:A.depth+2*d+21≤999) (hu:A.units+710+20*d<cLine)
  (I:Inv C fs H s) (nl:∀ b∈bH fs,H b=none) (hv:VRs C s.heap ps vs)
  (h:∀ a d,H a=none→H d=none→a≠d→Fn 0 (.obj a::ps) ((H.set d (.flds [])).set a (.inst d)) (fun p H''=>p=.none∧Q (.obj a) H'') E) :
  wpAny (model C.prog C.w) A (call (.ref C.W) vs) (OkG C fs H s (VQ C Q)) (OkX C fs H s E) s:=by
 have X:=gZ O I
 have I₁:Inv C fs (H.set s.heap.objs.size (.flds [])) { s with heap:=s.heap.push emptyDict }:=kH (tk:=s.toks) I (I22 (#[]) 0 (Heap.get?_push_size _ rfl) rfl)
 have S₁:aM fs H s (H.set s.heap.objs.size (.flds [])) { s with heap:=s.heap.push emptyDict }:=jE (tk:=s.toks) I
 have hsz:(s.heap.push emptyDict).objs.size=s.heap.objs.size+1:=Heap.size_push _ _
 have I₂:Inv C fs ((H.set s.heap.objs.size (.flds [])).set (s.heap.objs.size+1) (.inst s.heap.objs.size)) { s with heap:=(s.heap.push emptyDict).push (instObj C.W s.heap.objs.size) }:=by
  have:=kH (m:=.inst s.heap.objs.size) (o:=instObj C.W s.heap.objs.size) (tk:=s.toks) I₁ (Heap.get?_push_size _ rfl)
  rw [show ({ s with heap:=s.heap.push emptyDict }:Shared).heap.objs.size=s.heap.objs.size+1 from hsz] at this
  exact this
 have S₂:aM fs H s ((H.set s.heap.objs.size (.flds [])).set (s.heap.objs.size+1) (.inst s.heap.objs.size)) { s with heap:=(s.heap.push emptyDict).push (instObj C.W s.heap.objs.size) }:=by
  have:=jE (m:=.inst s.heap.objs.size) (o:=instObj C.W s.heap.objs.size) (tk:=s.toks) I₁
  rw [show ({ s with heap:=s.heap.push emptyDict }:Shared).heap.objs.size=s.heap.objs.size+1 from hsz] at this
  exact S₁.trans this
 have kp:∀ b o,s.heap.get? b=some o→((s.heap.push emptyDict).push (instObj C.W s.heap.objs.size)).get? b=some o:=fun b o e=>aP _ _ _ _ (aP _ _ _ _ e)
 have hn1:H (s.heap.objs.size+1)=none:=I.none_fresh (by
  cases q:s.heap.get? (s.heap.objs.size+1) with
  | none=>rfl
  | some o=>exact absurd (Heap.lt_size q) (Nat.not_lt.mpr (Nat.le_succ _)))
 have hs:=h (s.heap.objs.size+1) s.heap.objs.size hn1 I.none_size (ar54)
 have hs:=(hF _ _ _ _ _ hs).2 (A.under (.builtin "type.__call__" ⟨.ref C.W::vs,[]⟩)) fs { s with heap:=(s.heap.push emptyDict).push (instObj C.W s.heap.objs.size) } (.ref (s.heap.objs.size+1)::vs)
  (by show pushEnvs [] A.frames=_;rw [hfr];rfl) hh (by show A.depth+1+2*d+20≤999;exact ar66 hd) (by show A.units+1+700+20*d<cLine;exact ar67 hu) I₂ (eO I nl S₂) (I23 _ _ rfl rfl (hv.keeps kp))
 refine wpAny_call ?_
 refine make_core (makes_of X O.wMk) (looks_findIn X (O.wmeth 0 "__init__" rfl)) (fun self=>bind_fn X self (beq_iff_eq.mp (O.wfn 0 "__init__" rfl))) (.inl rfl) (codeAny_mono hs fun r s' hr=>?_)
 cases r with
 | error e=>exact hr.after S₂ I₂
 | ok f=>
  cases f with
  | ret v=>
   refine hC fun hG=>?_
   obtain ⟨H',S',I',p,hp,rfl,q⟩:=hr<;>(refine hG ?_;clear hG)
   exact ⟨hp,H',S₂.trans S',I',.obj _,rfl,q⟩
  | _=>exact hr
end
end Mine.Internal
end
noncomputable section
namespace Mine.Internal
theorem wU (a b c:Value):sizeOk (.fields ([a,b,c]:List Value).toArray):=by
 show 3≤sizeLine+2
 rw [sizeLine_eq];decide
theorem sQ {gs ns e x}(h:agE gs ns e x=true) (env:Env):∀ v,foldedSetIterable x env v=pure v:=by
 intro v
 cases x<;>first|rfl|skip
 case Set=>
  rcases sN h with e|⟨e,_⟩
  ·exact absurd (show (1:Nat)=0 from e) (by decide)
  ·exact absurd (show (1:Nat)=4 from e) (by decide)
theorem uG {gs ns e x}(op:CmpOp) (h:agE gs ns e x=true):behindInMarks op x=false:=by
 cases x<;>first|rfl|skip
 case Set=>
  rcases sN h with e|⟨e,_⟩
  ·exact absurd (show (1:Nat)=0 from e) (by decide)
  ·exact absurd (show (1:Nat)=4 from e) (by decide)
theorem agE_sub {gs ns e x}(h:agE gs ns e x=true) (v w:Value):∃ ops,subscripted x false v w=operate ops (getItem v w):=by
 cases x<;>first|exact ⟨_,rfl⟩|skip
 case Slice=>
  rcases sN h with e|⟨e,_⟩
  ·exact absurd (show (2:Nat)=0 from e) (by decide)
  ·exact absurd (show (2:Nat)=4 from e) (by decide)
theorem nB {b:Bool}(h:(!b)=true):b=false:=by cases b<;>first|rfl|exact (Bool.false_ne_true h).elim
theorem vF {x:Str}(h:okN x=true):(x==("__debug__":Str))=false∧(x==("__classdict__":Str))=false:=⟨nB (zR h),nB (iF h)⟩
theorem iA {gs:List (Str×NameKind)}{x:Str}(h:isG gs x=true):gs.lookup x=some .globalImplicit∧(x==("__debug__":Str))=false:=⟨beq_iff_eq.mp (zR h),nB (iF h)⟩
section
variable {C:Cx}{fs:List Env}{ns:List Str}{A:Around}{d:Nat}{Fn:FSt}
theorem fn_ok {env:Env}{gs:List (Str×NameKind)}{H:MH}{s:Shared}{E:MH→Prop}{Q:QV}{f:Nat}{ps:List PV}{vs:List Value}(hF:∀ f vs H Q E,Fn f vs H Q E→aB C d f vs H Q E) (B:Bd C A fs env gs d)
  (I:Inv C fs H s) (nl:∀ b∈bH fs,H b=none) (hv:VRs C s.heap ps vs) (h:Fn f ps H Q E) :
  wpAny (model C.prog C.w) A (call (.ref (C.fn f)) vs) (OkG C fs H s (VQ C Q)) (OkX C fs H s E) s:=by
 have hs:=(hF _ _ _ _ _ h).2 A fs s vs B.fr B.hd (by have:=B.rd;exact Nat.le_of_lt this) (by have:=B.ru;exact ar508 this) I nl hv
 refine wpAny_call (codeAny_mono hs fun r s' hr=>?_)
 cases r with
 | error e=>exact hr
 | ok fl=>cases fl<;>exact hr
noncomputable def WE (C:Cx) (A:Around) (fs:List Env) (env:Env) (H:MH) (s:Shared) (E:MH→Prop) (Q:QV) (x:Expr):Prop:=wpAny (model C.prog C.w) A (eval x env) (OkG C fs H s (VQ C Q)) (OkX C fs H s E) s
noncomputable def WT (C:Cx) (A:Around) (fs:List Env) (env:Env) (H:MH) (s:Shared) (E:MH→Prop) (Q:Bool→MH→Prop) (x:Expr):Prop:=wpAny (model C.prog C.w) A (isTrue x env (eval x env)) (OkG C fs H s (BQ Q)) (OkX C fs H s E) s
noncomputable def PE (C:Cx) (A:Around) (fs:List Env) (d:Nat) (ns:List Str) (Fn:FSt) (e:ME):Prop:=∀ {x:Expr}{gs:List (Str×NameKind)}{env:Env}{m:LE}{H:MH}{s:Shared}{E:MH→Prop}{Q:QV},
  Bd C A fs env gs d→St C fs env ns m H s→agE gs ns e x=true→mE Fn C.gv E e m H Q→WE C A fs env H s E Q x
noncomputable def PT (C:Cx) (A:Around) (fs:List Env) (d:Nat) (ns:List Str) (Fn:FSt) (e:ME):Prop:=∀ {x:Expr}{gs:List (Str×NameKind)}{env:Env}{m:LE}{H:MH}{s:Shared}{E:MH→Prop}{Q:Bool→MH→Prop},
  Bd C A fs env gs d→St C fs env ns m H s→agE gs ns e x=true→mT Fn C.gv E e m H Q→WT C A fs env H s E Q x
abbrev PP (C:Cx) (A:Around) (fs:List Env) (d:Nat) (ns:List Str) (Fn:FSt) (e:ME):Prop:=PE C A fs d ns Fn e∧PT C A fs d ns Fn e
theorem tst {env:Env}{H:MH}{s:Shared}{E:MH→Prop}{P:Bool→MH→Prop}(x:Expr) (h:WE C A fs env H s E (iX P) x) (he:isTrue x env (eval x env)=(do let v ←eval x env;standAt x.pos;holding [v] (truthy v))):WT C A fs env H s E P x:=test_of x h he
set_option maxHeartbeats 4000000
set_option maxRecDepth 10000
theorem sO (hF:∀ f vs H Q E,Fn f vs H Q E→aB C d f vs H Q E) (hnd:ns.Nodup) {e:ME}(hP:PE C A fs d ns Fn e):∀ {x:Option Expr}{gs:List (Str×NameKind)}{env:Env}{m:LE}{H:MH}{s:Shared}{E:MH→Prop}{Q:QV},
  Bd C A fs env gs d→St C fs env ns m H s→oE x (fun x=>agE gs ns e x) (isNn e)=true→mE Fn C.gv E e m H Q→wpAny (model C.prog C.w) A (valueOrNone (evalOpt x env)) (OkG C fs H s (VQ C Q)) (OkX C fs H s E) s
 | none,gs,env,m,H,s,E,Q,B,T,ha,h=>by
  obtain rfl:=Ip ha
  exact wpAny_pure (.pure' T.inv (I12 (.none) rfl h))
 | some x,gs,env,m,H,s,E,Q,B,T,ha,h=>by
  exact hP B T ha h
theorem qAll (hF:∀ f vs H Q E,Fn f vs H Q E→aB C d f vs H Q E) (hnd:ns.Nodup):(cs:List ME)→(∀ e∈cs,PP C A fs d ns Fn e)→∀ {xs:List Expr}{gs:List (Str×NameKind)}{env:Env}{m:LE}{H:MH}{s:Shared}{E:MH→Prop}{Q:Bool→MH→Prop},
  Bd C A fs env gs d→St C fs env ns m H s→dI gs ns cs xs=true→rJ Fn C.gv E cs m H Q→wpAny (model C.prog C.w) A (allTrue .And xs env) (OkG C fs H s (BQ Q)) (OkX C fs H s E) s:=by
 intro es0
 induction es0 with
 | nil=>
  intro hP xs0
  cases xs0 with
  | nil=>
   intro gs env m H s E Q B T ha h
   exact wpAny_allTrue_And_nil (.pure' T.inv h)
  | cons _ _=>
   intro gs env m H s E Q B T ha h
   exact (Bool.false_ne_true ha).elim
 | cons c r ih=>
  intro hP xs0
  cases xs0 with
  | nil=>
   intro gs env m H s E Q B T ha h
   exact (Bool.false_ne_true ha).elim
  | cons x xs=>
   intro gs env m H s E Q B T ha h
   have ha:=fW ha
   refine wpAny_allTrue_And_cons (W.seq (.refl _ _ _) T.inv ((hP c (.head _)).2 B T ha.1 h) fun b H₁ s₁ S₁ J I₁ q=>?_)
   cases b with
   | true=>exact W.lift S₁ I₁ (ih (fun e he=>hP e (.tail _ he)) B (T.step S₁ I₁) ha.2 q)
   | false=>exact I13 H₁ S₁ I₁ q
theorem qAny (hF:∀ f vs H Q E,Fn f vs H Q E→aB C d f vs H Q E) (hnd:ns.Nodup):(cs:List ME)→(∀ e∈cs,PP C A fs d ns Fn e)→∀ {xs:List Expr}{gs:List (Str×NameKind)}{env:Env}{m:LE}{H:MH}{s:Shared}{E:MH→Prop}{Q:Bool→MH→Prop},
  Bd C A fs env gs d→St C fs env ns m H s→dI gs ns cs xs=true→mAny Fn C.gv E cs m H Q→wpAny (model C.prog C.w) A (allTrue .Or xs env) (OkG C fs H s (BQ Q)) (OkX C fs H s E) s:=by
 intro es0
 induction es0 with
 | nil=>
  intro hP xs0
  cases xs0 with
  | nil=>
   intro gs env m H s E Q B T ha h
   exact wpAny_allTrue_Or_nil (.pure' T.inv h)
  | cons _ _=>
   intro gs env m H s E Q B T ha h
   exact (Bool.false_ne_true ha).elim
 | cons c r ih=>
  intro hP xs0
  cases xs0 with
  | nil=>
   intro gs env m H s E Q B T ha h
   exact (Bool.false_ne_true ha).elim
  | cons x xs=>
   intro gs env m H s E Q B T ha h
   have ha:=fW ha
   refine wpAny_allTrue_Or_cons (W.seq (.refl _ _ _) T.inv ((hP c (.head _)).2 B T ha.1 h) fun b H₁ s₁ S₁ J I₁ q=>?_)
   cases b with
   | true=>exact I13 H₁ S₁ I₁ q
   | false=>exact W.lift S₁ I₁ (ih (fun e he=>hP e (.tail _ he)) B (T.step S₁ I₁) ha.2 q)
theorem qTests (hF:∀ f vs H Q E,Fn f vs H Q E→aB C d f vs H Q E) (hnd:ns.Nodup):(cs:List ME)→(∀ e∈cs,PP C A fs d ns Fn e)→∀ {ifs:List Expr}{gs:List (Str×NameKind)}{env:Env}{m:LE}{H:MH}{s:Shared}{E:MH→Prop}{Q:Bool→MH→Prop},
  Bd C A fs env gs d→St C fs env ns m H s→cs.length≤1→dI gs ns cs ifs=true→rJ Fn C.gv E cs m H Q →
  wpAny (model C.prog C.w) A (forIn ifs true fun c r=>if r=true then do let ok ←isTrue c env (eval c env);pure (ForInStep.yield ok) else pure (ForInStep.yield r)) (OkG C fs H s (BQ Q)) (OkX C fs H s E) s:=by
 intro es0 hP xs0
 rcases es0 with _|⟨c,_|⟨c2,r⟩⟩
 ·rcases xs0 with _|⟨x,xs⟩
  ·intro gs env m H s E Q B T hl ha h
   exact wpAny_tests_nil (.pure' T.inv h)
  ·intro gs env m H s E Q B T hl ha h
   exact (Bool.false_ne_true ha).elim
 ·rcases xs0 with _|⟨x,_|⟨x2,xs⟩⟩
  ·intro gs env m H s E Q B T hl ha h
   exact (Bool.false_ne_true ha).elim
  ·intro gs env m H s E Q B T hl ha h
   have ha:=fW ha
   refine wpAny_tests_one (W.seq (.refl _ _ _) T.inv ((hP c (.head _)).2 B T ha.1 h) fun b H₁ s₁ S₁ J I₁ q=>?_)
   cases b<;>exact I13 H₁ S₁ I₁ q
  ·intro gs env m H s E Q B T hl ha h
   exact (Bool.false_ne_true (iF ha)).elim
 ·intro gs env m H s E Q B T hl ha h
  simp at hl
theorem qAnd (hF:∀ f vs H Q E,Fn f vs H Q E→aB C d f vs H Q E) (hnd:ns.Nodup):(es:List ME)→(∀ e∈es,PP C A fs d ns Fn e)→∀ {xs:List Expr}{pos:Pos}{gs:List (Str×NameKind)}{env:Env}{m:LE}{H:MH}{s:Shared}{E:MH→Prop}{Q:QV},
  Bd C A fs env gs d→St C fs env ns m H s→dI gs ns es xs=true→mAnd Fn C.gv E es m H Q→wpAny (model C.prog C.w) A (eval (.BoolOp .And xs pos) env) (OkG C fs H s (VQ C Q)) (OkX C fs H s E) s:=by
 intro es0
 induction es0 with
 | nil=>exact fun J J J J J J J J J J J J J h=>h.elim
 | cons e r ih=>
  intro hP xs0
  rcases r with _|⟨e2,r⟩
  ·rcases xs0 with _|⟨x,_|⟨x2,xs⟩⟩
   ·intro pos gs env m H s E Q B T ha h
    exact (Bool.false_ne_true ha).elim
   ·intro pos gs env m H s E Q B T ha h
    have ha:=fW ha
    show wpAny (model C.prog C.w) A (eval x env) _ _ s
    exact (hP e (.head _)).1 B T ha.1 h
   ·intro pos gs env m H s E Q B T ha h
    exact (Bool.false_ne_true (iF ha)).elim
  ·rcases xs0 with _|⟨x,_|⟨x2,xs⟩⟩
   ·intro pos gs env m H s E Q B T ha h
    exact (Bool.false_ne_true ha).elim
   ·intro pos gs env m H s E Q B T ha h
    exact (Bool.false_ne_true (iF ha)).elim
   ·intro pos gs env m H s E Q B T ha h
    have ha:=fW ha
    show wpAny (model C.prog C.w) A (boolOp pos .And (eval x env::eval x2 env::evalEach xs env)) _ _ s
    refine wpAny_bind (W.seq (.refl _ _ _) T.inv ((hP e (.head _)).1 B T ha.1 h) fun v H₁ s₁ S₁ J I₁ z=>X12 z fun p hp q=>wpAny_bind (wpAny_standAt (wpAny_bind (wpAny_holding ?_))))
    refine hC fun hG=>?_
    clear z h
    obtain ⟨b,rfl,q⟩:=Ed q<;>(refine hG ?_;clear hG)
    ·obtain rfl:=hp
     refine fS ?_
     cases b with
     | true=>exact W.lift S₁ I₁ (ih (fun e he=>hP e (.tail _ he)) B (T.step S₁ I₁) ha.2 q)
     | false=>exact wpAny_pure ⟨H₁,S₁,I₁,.bool false,rfl,q⟩
theorem qOr (hF:∀ f vs H Q E,Fn f vs H Q E→aB C d f vs H Q E) (hnd:ns.Nodup):(es:List ME)→(∀ e∈es,PP C A fs d ns Fn e)→∀ {xs:List Expr}{pos:Pos}{gs:List (Str×NameKind)}{env:Env}{m:LE}{H:MH}{s:Shared}{E:MH→Prop}{Q:QV},
  Bd C A fs env gs d→St C fs env ns m H s→dI gs ns es xs=true→mOr Fn C.gv E es m H Q→wpAny (model C.prog C.w) A (eval (.BoolOp .Or xs pos) env) (OkG C fs H s (VQ C Q)) (OkX C fs H s E) s:=by
 intro es0
 induction es0 with
 | nil=>exact fun J J J J J J J J J J J J J h=>h.elim
 | cons e r ih=>
  intro hP xs0
  rcases r with _|⟨e2,r⟩
  ·rcases xs0 with _|⟨x,_|⟨x2,xs⟩⟩
   ·intro pos gs env m H s E Q B T ha h
    exact (Bool.false_ne_true ha).elim
   ·intro pos gs env m H s E Q B T ha h
    have ha:=fW ha
    show wpAny (model C.prog C.w) A (eval x env) _ _ s
    exact (hP e (.head _)).1 B T ha.1 h
   ·intro pos gs env m H s E Q B T ha h
    exact (Bool.false_ne_true (iF ha)).elim
  ·rcases xs0 with _|⟨x,_|⟨x2,xs⟩⟩
   ·intro pos gs env m H s E Q B T ha h
    exact (Bool.false_ne_true ha).elim
   ·intro pos gs env m H s E Q B T ha h
    exact (Bool.false_ne_true (iF ha)).elim
   ·intro pos gs env m H s E Q B T ha h
    have ha:=fW ha
    show wpAny (model C.prog C.w) A (boolOp pos .Or (eval x env::eval x2 env::evalEach xs env)) _ _ s
    refine wpAny_bind (W.seq (.refl _ _ _) T.inv ((hP e (.head _)).1 B T ha.1 h) fun v H₁ s₁ S₁ J I₁ z=>X12 z fun p hp q=>wpAny_bind (wpAny_standAt (wpAny_bind (wpAny_holding ?_))))
    refine hC fun hG=>?_
    clear z h
    obtain ⟨b,rfl,q⟩:=Ed q<;>(refine hG ?_;clear hG)
    ·obtain rfl:=hp
     refine fS ?_
     cases b with
     | false=>exact W.lift S₁ I₁ (ih (fun e he=>hP e (.tail _ he)) B (T.step S₁ I₁) ha.2 q)
     | true=>exact wpAny_pure ⟨H₁,S₁,I₁,.bool true,rfl,q⟩
theorem qEs (hF:∀ f vs H Q E,Fn f vs H Q E→aB C d f vs H Q E) (hnd:ns.Nodup):(es:List ME)→(∀ e∈es,PP C A fs d ns Fn e)→∀ {xs:List Expr}{pos:Pos}{gs:List (Str×NameKind)}{env:Env}{m:LE}{H:MH}{s:Shared}{E:MH→Prop}{Q:List PV→MH→Prop},
  Bd C A fs env gs d→St C fs env ns m H s→dI gs ns es xs=true→mEs Fn C.gv E es m H Q→wpAny (model C.prog C.w) A (spliced (backTo pos (starEach xs env))) (OkG C fs H s (fun vs H' s'=>∃ ps,VRs C s'.heap ps vs∧ps.length=es.length∧Q ps H')) (OkX C fs H s E) s:=by
 intro es0
 induction es0 with
 | nil=>
  intro hP xs0
  cases xs0 with
  | nil=>
   intro pos gs env m H s E Q B T ha h
   exact Calls.spliced_nil (.pure' T.inv (I13 ([]) rfl rfl h))
  | cons _ _=>
   intro pos gs env m H s E Q B T ha h
   exact (Bool.false_ne_true ha).elim
 | cons e r ih=>
  intro hP xs0
  cases xs0 with
  | nil=>
   intro pos gs env m H s E Q B T ha h
   exact (Bool.false_ne_true ha).elim
  | cons x xs=>
   intro pos gs env m H s E Q B T ha h
   have ha:=fW ha
   refine Eq.symm (nZ ha.1)▸?_
   refine Calls.spliced_cons (W.seq (.refl _ _ _) T.inv ((hP e (.head _)).1 B T ha.1 h) fun v H₁ s₁ S₁ J I₁ z=>X12 z fun p hp q=>?_)
   refine W.seq S₁ I₁ (ih (fun e he=>hP e (.tail _ he)) (pos:=pos) B (T.step S₁ I₁) ha.2 q) fun vs H₂ s₂ S₂ R₂ I₂ z=>X13 z fun ps hps hl q₂=>?_
   exact ⟨H₂,S₂,I₂,p::ps,(I23 v vs rfl (hp.step R₂ I₁) hps),by simp [hl],q₂⟩
theorem Jq {gs ns args x}(h:dI gs ns args [x]=true):∃ a,args=[a]∧agE gs ns a x=true:=by
 cases args with
 | nil=>exact (Bool.false_ne_true h).elim
 | cons a r=>
  cases r with
  | nil=>exact I12 a rfl (zR h)
  | cons b r=>exact (Bool.false_ne_true (iF h)).elim
theorem By {b:BI}{ty:Str}(h:vR b=some ty):(b=.isTuple∨b=.isStr∨b=.isInt∨b=.isBool)∧zF b=.builtin "isinstance"∧wF b="isinstance"∧(ty,kindT b)∈pZ:=by
 cases b<;>first|(cases h;done)|(obtain rfl:=Option.some.inj h;exact (I04 (by decide) rfl rfl (by simp [pZ,kindT])))
theorem kind_of {b:BI}{p:PV}{H:MH}{Q:QV}(hb:b=.isTuple∨b=.isStr∨b=.isInt∨b=.isBool) (q:biQ b [p] H Q):∃ r,gR b p=some r∧Q (.bool r) H:=by
 have q:isQ b [p] H Q:=by rcases hb with rfl|rfl|rfl|rfl<;>exact q
 exact bT q
section
variable (hF:∀ f vs H Q E,Fn f vs H Q E→aB C d f vs H Q E) (hnd:ns.Nodup)
include hF hnd
theorem E_none:PE C A fs d ns Fn (.none):=by
 intro x gs env m H s E Q B T ha h
 apply cM ha;intro c n p ha
 obtain rfl:=uB ha
 exact wpAny_Constant_none (.pure' T.inv (I12 (.none) rfl h))
theorem E_bool {b:Bool}:PE C A fs d ns Fn (.bool b):=by
 intro x gs env m H s E Q B T ha h
 apply cM ha;intro c n p ha
 apply Jh ha;intro d ha
 apply beq_er ha
 exact wpAny_Constant_bool (.pure' T.inv (I12 (.bool b) rfl h))
theorem E_int {i:Int}:PE C A fs d ns Fn (.int i):=by
 intro x gs env m H s E Q B T ha h
 apply cM ha;intro c n p ha
 apply nU ha;intro d ha
 apply beq_er ha
 exact wpAny_Constant_int (.tok T.inv (I12 (.int i) ⟨_,rfl⟩ h))
theorem E_str {l:List Nat}:PE C A fs d ns Fn (.str l):=by
 intro x gs env m H s E Q B T ha h
 apply cM ha;intro c n p ha
 apply cStr_el ha;intro d ha
 apply iO ha
 exact wpAny_Constant_str (.tok T.inv (I12 (.str l) ⟨_,rfl⟩ h))
theorem E_var {i:Nat}:PE C A fs d ns Fn (.var i):=by
 intro x gs env m H s E Q B T ha h
 apply bD ha;intro y p ha
 apply aA ha;intro h0 ha
 refine X02 (vF ha) fun h1 h2=>?_
 exact wpAny_Name (nC B T (beq_iff_eq.mp h0) (cI.mp h).1 h2 (cI.mp h).2) h1
theorem E_gfun {f:Nat}:PE C A fs d ns Fn (.gfun f):=by
 intro x gs env m H s E Q B T ha h
 apply bD ha;intro y p ha
 apply aA ha;intro h0 ha
 refine X02 (iA ha) fun h1 h2=>?_
 exact nQ B T.inv h1 h2 (B.O.fnG _ _ (beq_iff_eq.mp h0)) (.pure' T.inv (I12 (.fn f) rfl h))
theorem E_gval {c:Nat}:PE C A fs d ns Fn (.gval c):=by
 intro x gs env m H s E Q B T ha h
 apply bD ha;intro y p ha
 apply aA ha;intro h0 ha
 refine X02 (iA ha) fun h1 h2=>?_
 refine X12 (B.O.gvG _ _ (beq_iff_eq.mp h0)) fun v hv rv=>?_
 exact nQ B T.inv h1 h2 hv (.pure' T.inv (I12 _ (VR.base T.inv.stays rv) h))
theorem E_bin {op:BOp}{a:ME}{b:ME}(i_a:PP C A fs d ns Fn a) (i_b:PP C A fs d ns Fn b):PE C A fs d ns Fn (.bin op a b):=by
 intro x gs env m H s E Q B T ha h
 apply uO ha;intro l o r p ha
 apply aA ha;intro h0 ha
 apply iO h0
 apply aA ha;intro h1 h2
 refine wpAny_BinOp (W.seq (.refl _ _ _) T.inv (i_a.1 B T h1 h) fun v H₁ s₁ S₁ J I₁ z=>X12 z fun p hp q=>?_)
 refine W.seq S₁ I₁ (i_b.1 B (T.step S₁ I₁) h2 q) fun v₂ H₂ s₂ S₂ R₂ I₂ z=>X12 z fun p₂ hp₂ q₂=>?_
 exact W.lift S₂ I₂ (wpAny_mono (bin_ok I₂ (hp.step R₂ I₁) hp₂ q₂) (fun J J x=>x.g) fun J J x=>x)
theorem E_pow {a:Nat}{b:Nat}:PE C A fs d ns Fn (.pow a b):=by
 intro x gs env m H s E Q B T ha h
 apply uO ha;clear ha;intro l o r p ha
 apply aA ha;clear ha;intro h0 ha
 apply iO h0
 apply aA ha;clear ha;intro g1 ha
 apply aA ha;clear ha;intro g2 ha
 apply cM ha;clear ha;intro c n p ha
 apply nU ha;clear ha;intro i ha
 apply cM ha;clear ha;intro c n p ha
 apply nU ha;clear ha;intro j ha
 apply aA ha;clear ha;intro g3 g4
 obtain rfl:=beq_iff_eq.mp g1
 refine hC fun hG=>?_
 obtain rfl:=beq_iff_eq.mp g2<;>(refine hG ?_;clear hG)
 obtain rfl:=beq_iff_eq.mp g3
 obtain rfl:=beq_iff_eq.mp g4
 refine wpAny_BinOp (wpAny_Constant_int (wpAny_Constant_int ?_))
 refine AutoIntOps.pow_4 (by decide) (by decide) (by decide) (by decide) (by decide) ?_
 exact .tok T.inv (I12 (.int _) ⟨_,rfl⟩ h)
theorem E_neg {i:Nat}:PE C A fs d ns Fn (.neg i):=by
 intro x gs env m H s E Q B T ha h
 apply uM ha;intro o y p ha
 apply aA ha;clear ha;intro h0 ha
 obtain rfl:=qL h0
 apply cM ha;intro c n p ha
 apply nU ha;intro j ha
 apply iO ha
 refine wpAny_UnaryOp (wpAny_Constant_int ?_)
 exact PyProof.Rows.neg_int (.tok T.inv (I12 (.int _) ⟨_,rfl⟩ h))
theorem E_cmp {op:COp}{a:ME}{b:ME}(i_a:PP C A fs d ns Fn a) (i_b:PP C A fs d ns Fn b):PE C A fs d ns Fn (.cmp op a b):=by
 intro x gs env m H s E Q B T ha h
 apply uN ha;intro l os rs p ha
 apply gQ ha;intro o ha
 apply gQ ha;intro r ha
 apply aA ha;intro h0 ha
 apply iO h0
 apply aA ha;intro h1 h2
 refine wpAny_Compare1 (W.seq (.refl _ _ _) T.inv (i_a.1 B T h1 h) fun v H₁ s₁ S₁ J I₁ z=>X12 z fun p hp q=>?_) (uG _ h2)
 refine W.seq S₁ I₁ (i_b.1 B (T.step S₁ I₁) h2 q) fun v₂ H₂ s₂ S₂ R₂ I₂ z=>X12 z fun p₂ hp₂ q₂=>?_
 refine wpAny_mono (cmp_ok (by have:=B.ru;exact ar509 this) I₂ (hp.step R₂ I₁) hp₂ q₂) (fun v s' z=>X13 z fun r e1 e2 q=>?_) fun J J x=>x
 clear q₂ hp₂ p₂ R₂ hp z I₁ S₁
 subst e1;subst e2
 exact ⟨_,S₂,I₂,.bool r,rfl,q⟩
theorem E_and {es:List ME}(i_es:∀ e∈es,PP C A fs d ns Fn e):PE C A fs d ns Fn (.and es):=by
 intro x gs env m H s E Q B T ha h
 apply kC ha;intro o xs p ha
 apply aA ha;clear ha;intro h0 ha
 obtain rfl:=zJ h0
 exact qAnd hF hnd es i_es B T (iF ha) h
theorem E_or {es:List ME}(i_es:∀ e∈es,PP C A fs d ns Fn e):PE C A fs d ns Fn (.or es):=by
 intro x gs env m H s E Q B T ha h
 apply kC ha;intro o xs p ha
 apply aA ha;clear ha;intro h0 ha
 obtain rfl:=Dz (nB h0)
 exact qOr hF hnd es i_es B T (iF ha) h
theorem E_not {e:ME}(i_e:PP C A fs d ns Fn e):PE C A fs d ns Fn (.not e):=by
 intro x gs env m H s E Q B T ha h
 exact h.elim
theorem E_ite {c:ME}{a:ME}{b:ME}(i_c:PP C A fs d ns Fn c) (i_a:PP C A fs d ns Fn a) (i_b:PP C A fs d ns Fn b):PE C A fs d ns Fn (.ite c a b):=by
 intro x gs env m H s E Q B T ha h
 apply Aa ha;intro t y z p ha
 apply aA ha;intro h1 ha
 apply aA ha;intro h2 h3
 refine wpAny_IfExp (wpAny_mono (i_c.2 B T h1 h) (fun t s₁ z=>X13 z fun H₁ S₁ I₁ q=>?_) fun J J x=>x)
 clear h1 p z h ha i_c E_ite
 cases t with
 | true=>exact W.lift S₁ I₁ (i_a.1 B (T.step S₁ I₁) h2 q)
 | false=>exact W.lift S₁ I₁ (i_b.1 B (T.step S₁ I₁) h3 q)
theorem E_tuple {es:List ME}(i_es:∀ e∈es,PP C A fs d ns Fn e):PE C A fs d ns Fn (.tuple es):=by
 intro x gs env m H s E Q B T ha h
 apply lF ha;intro xs n p ha
 apply aA ha;intro h0 ha
 refine Tuple_ (W.next (qEs hF hnd es i_es B T ha h) fun vs H₁ s₁ S₁ I₁ z=>X13 z fun ps hp hlen q=>?_)
 exact pJ I₁ hp (by lia) q
theorem E_list {es:List ME}(i_es:∀ e∈es,PP C A fs d ns Fn e):PE C A fs d ns Fn (.list es):=by
 intro x gs env m H s E Q B T ha h
 apply wT ha;intro xs p ha
 apply aA ha;intro h0 ha
 have h0:=of_decide_eq_true h0
 refine List_ (W.next (qEs hF hnd es i_es B T ha h) fun vs H₁ s₁ S₁ I₁ z=>X13 z fun ps hp hlen q=>?_)
 exact Bb I₁ hp (by exact Nat.le_trans (Nat.le_of_eq hlen) (Nat.le_trans h0 (Nat.le_of_ble_eq_true rfl))) q
theorem E_idx {a:ME}{i:ME}(i_a:PP C A fs d ns Fn a) (i_i:PP C A fs d ns Fn i):PE C A fs d ns Fn (.idx a i):=by
 intro x gs env m H s E Q B T ha h
 apply lG ha;intro v sl p ha
 apply aA ha;intro h1 h2
 refine Subscript_ (W.seq (.refl _ _ _) T.inv (i_a.1 B T h1 h) fun v H₁ s₁ S₁ J I₁ z=>X12 z fun p hp q=>?_)
 refine W.seq S₁ I₁ (i_i.1 B (T.step S₁ I₁) h2 q) fun v₂ H₂ s₂ S₂ R₂ I₂ z=>X12 z fun p₂ hp₂ q₂=>?_
 exact W.lift S₂ I₂ (wpAny_mono (idx_ok I₂ (hp.step R₂ I₁) hp₂ (agE_sub h2 _ _) q₂) (fun J J x=>x.g) fun J J x=>x)
theorem E_slc {a:ME}{l:ME}{u:ME}(i_a:PP C A fs d ns Fn a) (i_l:PP C A fs d ns Fn l) (i_u:PP C A fs d ns Fn u):PE C A fs d ns Fn (.slc a l u):=by
 intro x gs env m H s E Q B T ha h
 apply lG ha;intro v sl p ha
 apply Cp ha;intro lo up st p ha
 apply aA ha;intro h0 ha
 apply yA h0
 apply aA ha;intro h1 ha
 apply aA ha;intro h2 h3
 refine Subscript_ (W.seq (.refl _ _ _) T.inv (i_a.1 B T h1 h) fun v H₁ s₁ S₁ J I₁ z=>X12 z fun p hp q=>?_)
 rw [arm_eval_Slice]
 refine wpAny_bind (W.seq S₁ I₁ (sO hF hnd i_l.1 B (T.step S₁ I₁) h2 q) fun v₂ H₂ s₂ S₂ R₂ I₂ z=>X12 z fun p₂ hp₂ q₂=>?_)
 refine wpAny_bind (wpAny_holding (W.seq S₂ I₂ (sO hF hnd i_u.1 B (T.step S₂ I₂) h3 q₂) fun v₃ H₃ s₃ S₃ R₃ I₃ z=>X12 z fun p₃ hp₃ q₃=>?_))
 refine wpAny_bind (wpAny_holding (wpAny_pure ?_))
 refine wpAny_newObj_type ?_ (wU _ _ _)
 exact wpAny_mono (uW (s:=s₃) (H:=H₃) (A:=A) (by have:=B.ru;exact ar511 this) I₃ ((hp.step R₂ I₁).step R₃ I₂) (hp₂.step R₃ I₂) hp₃ (fun a=>⟨_,rfl⟩) q₃) (fun J J x=>(OkE.g x).after S₃) fun J J x=>x
theorem E_rev {a:ME}(i_a:PP C A fs d ns Fn a):PE C A fs d ns Fn (.rev a):=by
 intro x gs env m H s E Q B T ha h
 apply lG ha;intro v sl p ha
 apply Cp ha;intro lo up st p ha
 apply aA ha;intro h0 ha
 apply yA h0
 apply aA ha;intro h0 ha
 apply yA h0
 apply aA ha;intro h1 ha
 apply xZ ha;intro y ha
 apply uM ha;intro o y p ha
 apply aA ha;clear ha;intro h0 ha
 obtain rfl:=qL h0
 apply cM ha;intro c n p ha
 apply nU ha;intro j ha
 apply iO ha
 refine Subscript_ (W.seq (.refl _ _ _) T.inv (i_a.1 B T h1 h) fun v H₁ s₁ S₁ J I₁ z=>X12 z fun p hp q=>?_)
 rw [arm_eval_Slice]
 refine wpAny_bind (wpAny_pure (wpAny_bind (wpAny_holding (wpAny_pure (wpAny_bind (wpAny_holding ?_))))))
 refine wpAny_UnaryOp (wpAny_Constant_int ?_)
 refine PyProof.Rows.neg_int ?_
 refine wpAny_newObj_type ?_ (wU _ _ _)
 exact wpAny_mono (rev_ok (s:=s₁) (H:=H₁) (A:=A) I₁ hp (fun a=>⟨_,rfl⟩) q) (fun J J x=>x.g.after S₁) fun J J x=>x
theorem E_call {f:Nat}{args:List ME}(i_args:∀ e∈args,PP C A fs d ns Fn e):PE C A fs d ns Fn (.call f args):=by
 intro x gs env m H s E Q B T ha h
 apply cS ha;intro g xs ks p ha
 apply aA ha;intro h0 ha
 apply jX h0
 apply aA ha;intro ha hc
 apply bD hc;intro y p hc
 apply aA hc;intro hg hc
 refine X02 (iA hc) fun h1 h2=>?_
 refine Call_Name rfl (nQ B T.inv h1 h2 (B.O.fnG _ _ (beq_iff_eq.mp hg)) ?_)
 refine fV (K:=C.K) ha (wpAny_mono (qEs hF hnd args i_args B T ha h) (fun vs s₁ z=>X13 z fun H₁ S₁ I₁ z=>X13 z fun ps hp hlen q=>?_) fun J J x=>x)
 exact ⟨⟨gZ B.O I₁,(hF _ _ _ _ _ q).1⟩,W.lift S₁ I₁ (fn_ok hF B I₁ (T.step S₁ I₁).nl hp q)⟩
theorem E_callv {i:Nat}{args:List ME}(i_args:∀ e∈args,PP C A fs d ns Fn e):PE C A fs d ns Fn (.callv i args):=by
 intro x gs env m H s E Q B T ha h
 apply cS ha;intro g xs ks p ha
 apply aA ha;intro h0 ha
 apply jX h0
 apply aA ha;intro ha hc
 apply bD hc;intro y p hc
 apply aA hc;intro hg hc
 refine X02 (vF hc) fun h1 h2=>?_
 refine X12 (asF_i h) fun f hm h=>?_
 ·refine Call_Name rfl (wpAny_Name (wpAny_mono (nC (Q:=fun p H'=>p=m i∧H'=H) B T (beq_iff_eq.mp hg) (by rw [hm];simp) h2 ⟨rfl,rfl⟩) (fun v s₁ z=>X13 z fun H₁ S₁ I₁ z=>X13 z fun p hp e1 e2=>?_) fun J J x=>x) h1)
  subst e2;rw [hm] at e1;subst e1
  obtain rfl:=hp
  refine fV (K:=C.K) ha (wpAny_mono (qEs hF hnd args i_args B (T.step S₁ I₁) ha h) (fun vs s₂ z=>X13 z fun H₂ S₂ I₂ z=>X13 z fun ps hp hlen q=>?_) fun J J x=>x.after S₁ I₁)
  exact ⟨⟨gZ B.O I₂,(hF _ _ _ _ _ q).1⟩,W.lift (S₁.trans S₂) I₂ (fn_ok hF B I₂ ((T.step S₁ I₁).step S₂ I₂).nl hp q)⟩
theorem E_new {args:List ME}(i_args:∀ e∈args,PP C A fs d ns Fn e):PE C A fs d ns Fn (.new args):=by
 intro x gs env m H s E Q B T ha h
 apply cS ha;intro g xs ks p ha
 apply aA ha;intro h0 ha
 apply jX h0
 apply aA ha;intro ha hc
 apply bD hc;intro y p hc
 apply aA hc;intro hg hc
 obtain rfl:=beq_iff_eq.mp hg
 obtain ⟨h1,h2⟩:=iA hc
 refine Call_Name rfl (nQ B T.inv h1 h2 B.O.wG ?_)
 refine fV (K:=C.K) ha (wpAny_mono (qEs hF hnd args i_args B T ha h) (fun vs s₁ z=>X13 z fun H₁ S₁ I₁ z=>X13 z fun ps hp hlen q=>?_) fun J J x=>x)
 exact ⟨⟨gZ B.O I₁,B.O.wK⟩,W.lift S₁ I₁ (new_ok hF B.O B.fr B.hd B.rd (by have:=B.ru;exact this) I₁ (T.step S₁ I₁).nl hp q)⟩
theorem E_bi {b:BI}{args:List ME}(i_args:∀ e∈args,PP C A fs d ns Fn e):PE C A fs d ns Fn (.bi b args):=by
 intro x gs env m H s E Q B T ha h
 apply cS ha;clear ha;intro g xs ks p ha
 apply aA ha;clear ha;intro h0 ha
 apply jX h0
 apply bD ha;clear ha;intro y p ha
 apply aA ha;clear ha;intro hg1 ha
 refine X02 (iA hg1) fun h1 h2=>?_
 refine X02 (B.O.biG b) fun g1 g2=>?_
 clear hg1 h0 ks E_bi
 cases hty:vR b with
 | some ty=>
  rw [hty] at ha
  apply aA ha;clear ha;intro hy ha
  obtain rfl:=beq_iff_eq.mp hy
  apply l2_el ha;clear ha;intro x1 z ha
  apply aA ha;clear ha;intro ha hz
  replace ha:=Jq ha
  refine hC fun hG=>?_
  obtain ⟨a,rfl,ha⟩:=ha<;>(refine hG ?_;clear hG)
  apply bD hz;clear hz;intro z p2 hz
  apply aA hz;clear hz;intro hzt hg2
  refine hC fun hG=>?_
  obtain rfl:=beq_iff_eq.mp hzt
  obtain ⟨h3,h4⟩:=iA hg2
  refine X04 (By hty) fun hb hbv hbn hz=>?_
  refine hG ?_;clear hG
  rw [hbn] at g1 g2
  replace g2:=(hbv)▸g2
  refine Call_Name rfl (Ci B T.inv h1 h2 g1 g2 ?_)
  have hst:starEach [x1,.Name z p2] env=[(false,eval x1 env),(false,eval (.Name z p2) env)]:=by rw [nZ ha];rfl
  refine Eq.symm (hst)▸?_
  refine Calls.callWith_builtin rfl (evalArgs_plain ?_)
  refine Calls.spliced_cons (W.seq (.refl _ _ _) T.inv ((i_args a (.head _)).1 B T ha h) fun v H₁ s₁ S₁ J I₁ z=>X12 z fun p hp q=>?_)
  refine Calls.spliced_cons ?_
  refine X02 (B.O.tyG _ hz) fun g3 g4=>?_
  refine Ci B I₁ h3 h4 g3 g4 (Calls.spliced_nil ?_)
  refine X12 (kind_of hb q) fun r hk1 hk2=>?_
  exact W.lift S₁ I₁ (wpAny_mono (isi_ok hb I₁ hp hk1 hk2) (fun J J x=>x.g) fun J J x=>x)
 | none=>
  replace ha:=(hty)▸ha
  apply aA ha;clear ha;intro hy ha
  obtain rfl:=beq_iff_eq.mp hy
  refine Call_Name rfl (Ci B T.inv h1 h2 g1 g2 ?_)
  have hb:¬(b=.isTuple∨b=.isStr∨b=.isInt∨b=.isBool):=by rintro (rfl|rfl|rfl|rfl)<;>cases hty
  have fin:∀ pos:Pos,wpAny (model C.prog C.w) A (spliced (backTo pos (starEach xs env))) (fun vs s₁=>wpAny (model C.prog C.w) A (call (zF b) ([]++vs)) (OkG C fs H s (VQ C Q)) (OkX C fs H s E) s₁) (OkX C fs H s E) s:=
   fun pos=>W.next (g:=fun vs=>call (zF b) ([]++vs)) (qEs hF hnd args i_args B T ha h) fun vs H₁ s₁ S₁ I₁ z=>X13 z fun ps hp hlen q=>wpAny_mono (bi_ok B.hd I₁ hp q hb) (fun J J x=>x.g) fun J J x=>x
  clear hnd hF hb hy g2 g1 h2 h1
  cases b<;>first|exact kP ha (fin _)|exact yY ha (fin _)|exact absurd hty (by simp [vR])
theorem E_meth {k:MK}{o:ME}{args:List ME}(i_o:PP C A fs d ns Fn o) (i_args:∀ e∈args,PP C A fs d ns Fn e):PE C A fs d ns Fn (.meth k o args):=by
 intro x gs env m H s E Q B T ha h
 apply cS ha;intro g xs ks p ha
 apply aA ha;intro h0 ha
 apply jX h0
 apply aA ha;intro ha hc
 apply iP hc;intro o' nm p hc
 apply aA hc;intro hn hc
 apply iO hn
 apply aA hc;intro hb hc
 apply aA hc;intro hline hc
 apply aA hc;intro hlen ho
 have hlen:=of_decide_eq_true hlen
 refine sU ha hlen hb hline (wpAny_mono (i_o.1 B T ho h) (fun v s₁ z pl=>X13 z fun H₁ S₁ I₁ z=>X13 z fun p hp hpre q=>?_) fun J J x=>x)
 refine mk_get I₁ hp hpre (kP ha ?_)
 refine wpAny_mono (qEs hF hnd args i_args B (T.step S₁ I₁) ha q) (fun vs s₂ z=>X13 z fun H₂ S₂ I₂ z=>X13 z fun ps hps hlen q₂=>?_) fun J J x=>x.after S₁ I₁
 exact W.lift (S₁.trans S₂) I₂ (wpAny_mono (meth_ok I₂ (hp.step S₂ I₁) hps q₂) (fun J J x=>x.g) fun J J x=>x)
theorem Es {f:Nat}{o:ME}{args:List ME}(i_o:PP C A fs d ns Fn o) (i_args:∀ e∈args,PP C A fs d ns Fn e):PE C A fs d ns Fn (.wmeth f o args):=by
 intro x gs env m H s E Q B T ha h
 apply cS ha;intro g xs ks p ha
 apply aA ha;intro h0 ha
 apply jX h0
 apply aA ha;intro ha hc
 apply iP hc;intro o' nm p hc
 apply aA hc;intro hn hc
 have hn:=beq_iff_eq.mp hn
 apply aA hc;intro hf0 hc
 apply aA hc;intro hb hc
 apply aA hc;intro hline hc
 apply aA hc;intro hlen ho
 have hlen:=of_decide_eq_true hlen
 refine sU ha hlen hb hline (wpAny_mono (i_o.1 B T ho h) (fun v s₁ z pl=>X13 z fun H₁ S₁ I₁ z=>X12 z fun p hp q=>?_) fun J J x=>x)
 refine hC fun hG=>?_
 obtain ⟨a,dd,es,rfl,ha1,ha2,q⟩:=asO_i q<;>(refine hG ?_;clear hG)
 obtain rfl:=hp
 refine Ga B.O hn I₁ ha1 ha2 (Bo hn) ?_
 refine fV (K:=C.K) ha (wpAny_mono (qEs hF hnd args i_args B (T.step S₁ I₁) ha q) (fun vs s₂ z=>X13 z fun H₂ S₂ I₂ z=>X13 z fun ps hps hlen q₂=>?_) fun J J x=>x.after S₁ I₁)
 exact ⟨⟨gZ B.O I₂,(hF _ _ _ _ _ q₂).1⟩,W.lift (S₁.trans S₂) I₂ (fn_ok hF B I₂ ((T.step S₁ I₁).step S₂ I₂).nl (ps:=.obj a::ps) (I23 _ _ rfl rfl hps) q₂)⟩
theorem E_attr {k:Nat}{o:ME}(i_o:PP C A fs d ns Fn o):PE C A fs d ns Fn (.attr k o):=by
 intro x gs env m H s E Q B T ha h
 apply iP ha;intro o' nm p ha
 apply aA ha;clear ha;intro h0 ha
 apply iO h0
 apply aA ha;clear ha;intro hk ha
 have hk:=of_decide_eq_true hk
 apply aA ha;clear ha;intro hb ho
 show wpAny (model C.prog C.w) A (eval _ env) _ _ s
 rw [arm_eval_Attribute]
 have hbase:attributeBase o' (bG k) env (eval o' env)=eval o' env:=by cases o'<;>first|rfl|cases hb
 refine Eq.symm (hbase)▸?_
 refine wpAny_bind (wpAny_mono (i_o.1 B T ho h) (fun v s₁ z=>X13 z fun H₁ S₁ I₁ z=>X12 z fun p hp q=>wpAny_bind (wpAny_standAt (wpAny_bind (wpAny_holding ?_)))) fun J J x=>x)
 refine wpAny_mono (Ea B.O hk I₁ hp q) (fun v s' x=>?_) fun J J x=>x
 exact wpAny_bind (wpAny_letTemporaryGo (wpAny_pure (x.g.after S₁)))
theorem E_comp {elt:ME}{t:Nat}{fr:List Nat}{src:ME}{cs:List ME}(i_elt:PP C A fs d ns Fn elt) (i_src:PP C A fs d ns Fn src) (i_cs:∀ e∈cs,PP C A fs d ns Fn e):PE C A fs d ns Fn (.comp elt t fr src cs):=by
 intro x gs env m H s E Q B T ha h
 apply zZ ha;intro el gens sc p ha
 apply gQ ha;intro g ha
 obtain ⟨tg,it,ifs,as⟩:=g
 apply bD (x:=tg) ha;clear ha;intro y p ha
 apply aA ha;clear ha;intro h0 ha
 obtain rfl:as=0:=beq_iff_eq.mp h0
 apply aA ha;intro hy ha
 have hy:=beq_iff_eq.mp hy
 apply aA ha;intro hc ha
 apply aA ha;intro hlen ha
 have hlen:=of_decide_eq_true hlen
 apply aA ha;intro hsrc ha
 apply aA ha;intro helt hcs
 exact comp_ok B T hy hc (sQ hsrc env) (i_src.1 B T hsrc h) (fun B' T' q=>qTests hF hnd cs i_cs B' T' hlen hcs q) (fun B' T' q=>i_elt.1 B' T' helt q)
theorem E_dead:PE C A fs d ns Fn (.dead):=by
 intro x gs env m H s E Q B T ha h
 exact h.elim
theorem T_not {e:ME}(i_e:PP C A fs d ns Fn e):PT C A fs d ns Fn (.not e):=by
 intro x gs env m H s E Q B T ha h
 apply uM ha;intro o y p ha
 apply aA ha;clear ha;intro h0 ha
 obtain rfl:=He h0
 exact wpAny_isTrue_Not (i_e.2 B T ha h)
theorem T_and {es:List ME}(i_es:∀ e∈es,PP C A fs d ns Fn e):PT C A fs d ns Fn (.and es):=by
 intro x gs env m H s E Q B T ha h
 apply kC ha;intro o xs p ha
 apply aA ha;clear ha;intro h0 ha
 obtain rfl:=zJ h0
 exact wpAny_isTrue_BoolOp (qAll hF hnd es i_es B T (iF ha) h)
theorem T_or {es:List ME}(i_es:∀ e∈es,PP C A fs d ns Fn e):PT C A fs d ns Fn (.or es):=by
 intro x gs env m H s E Q B T ha h
 apply kC ha;intro o xs p ha
 apply aA ha;clear ha;intro h0 ha
 obtain rfl:=Dz (nB h0)
 exact wpAny_isTrue_BoolOp (qAny hF hnd es i_es B T (iF ha) h)
theorem T_ite {c:ME}{a:ME}{b:ME}(i_c:PP C A fs d ns Fn c) (i_a:PP C A fs d ns Fn a) (i_b:PP C A fs d ns Fn b):PT C A fs d ns Fn (.ite c a b):=by
 intro x gs env m H s E Q B T ha h
 apply Aa ha;intro t y z p ha
 apply aA ha;intro h1 ha
 apply aA ha;intro h2 h3
 show wpAny (model C.prog C.w) A (isTrue _ env _) _ _ s
 rw [arm_isTrue_IfExp]
 refine wpAny_bind (wpAny_mono (i_c.2 B T h1 h) (fun t s₁ z=>X13 z fun H₁ S₁ I₁ q=>?_) fun J J x=>x)
 clear h1 p z h ha i_c T_ite
 cases t with
 | true=>exact W.lift S₁ I₁ (i_a.2 B (T.step S₁ I₁) h2 q)
 | false=>exact W.lift S₁ I₁ (i_b.2 B (T.step S₁ I₁) h3 q)
theorem T_cmp {op:COp}{a:ME}{b:ME}(i_a:PP C A fs d ns Fn a) (i_b:PP C A fs d ns Fn b):PT C A fs d ns Fn (.cmp op a b):=by
 intro x gs env m H s E Q B T ha h
 apply uN ha;intro l os rs p ha
 apply gQ ha;intro o ha
 apply gQ ha;intro r ha
 apply aA ha;intro h0 ha
 apply iO h0
 apply aA ha;intro h1 h2
 refine wpAny_isTrue_Compare1 (W.seq (.refl _ _ _) T.inv (i_a.1 B T h1 h) fun v H₁ s₁ S₁ J I₁ z=>X12 z fun p hp q=>?_) (uG _ h2)
 refine W.seq S₁ I₁ (i_b.1 B (T.step S₁ I₁) h2 q) fun v₂ H₂ s₂ S₂ R₂ I₂ z=>X12 z fun p₂ hp₂ q₂=>?_
 refine wpAny_mono (cmp_ok (by have:=B.ru;exact ar509 this) I₂ (hp.step R₂ I₁) hp₂ q₂) (fun v s' z=>X13 z fun r e1 e2 q=>?_) fun J J x=>x
 clear q₂ hp₂ p₂ R₂ hp z I₁ S₁
 subst e1;subst e2
 exact fS (I13 _ S₂ I₂ q)
theorem T_var {i:Nat}:PT C A fs d ns Fn (.var i):=by
 intro x gs env m H s E Q B T ha h
 refine X12 (Ed h) fun b hm q=>?_
 have z:=E_var hF hnd (i:=i) (E:=E) (Q:=iX Q) B T ha (show nu (m i) (iX Q (m i) H) by rw [hm];exact q)
 revert z
 apply bD ha;intro y p J z
 exact tst _ z rfl
theorem T_call {f:Nat}{args:List ME}(i_args:∀ e∈args,PP C A fs d ns Fn e):PT C A fs d ns Fn (.call f args):=by
 intro x gs env m H s E Q B T ha h
 have z:=E_call hF hnd i_args B T ha h
 revert z
 apply cS ha;intro a b c p J z
 exact tst _ z rfl
theorem T_bi {b:BI}{args:List ME}(i_args:∀ e∈args,PP C A fs d ns Fn e):PT C A fs d ns Fn (.bi b args):=by
 intro x gs env m H s E Q B T ha h
 have z:=E_bi hF hnd i_args B T ha h
 revert z
 apply cS ha;intro a b' c p J z
 exact tst _ z rfl
theorem T_wmeth {f:Nat}{o:ME}{args:List ME}(i_o:PP C A fs d ns Fn o) (i_args:∀ e∈args,PP C A fs d ns Fn e):PT C A fs d ns Fn (.wmeth f o args):=by
 intro x gs env m H s E Q B T ha h
 have z:=Es hF hnd i_o i_args B T ha h
 revert z
 apply cS ha;intro a b c p J z
 exact tst _ z rfl
theorem T_idx {a:ME}{i:ME}(i_a:PP C A fs d ns Fn a) (i_i:PP C A fs d ns Fn i):PT C A fs d ns Fn (.idx a i):=by
 intro x gs env m H s E Q B T ha h
 have z:=E_idx hF hnd i_a i_i B T ha h
 revert z
 apply lG ha;intro a b p J z
 exact tst _ z rfl
theorem T_none:PT C A fs d ns Fn (.none):=by
 intro u_0 u_1 u_2 u_3 u_4 u_5 u_6 u_7 u_8 u_9 u_10 h
 exact h.elim
theorem T_bool {u0:Bool}:PT C A fs d ns Fn (.bool u0):=by
 intro u_0 u_1 u_2 u_3 u_4 u_5 u_6 u_7 u_8 u_9 u_10 h
 exact h.elim
theorem T_int {u0:Int}:PT C A fs d ns Fn (.int u0):=by
 intro u_0 u_1 u_2 u_3 u_4 u_5 u_6 u_7 u_8 u_9 u_10 h
 exact h.elim
theorem T_str {u0:List Nat}:PT C A fs d ns Fn (.str u0):=by
 intro u_0 u_1 u_2 u_3 u_4 u_5 u_6 u_7 u_8 u_9 u_10 h
 exact h.elim
theorem T_gfun {u0:Nat}:PT C A fs d ns Fn (.gfun u0):=by
 intro u_0 u_1 u_2 u_3 u_4 u_5 u_6 u_7 u_8 u_9 u_10 h
 exact h.elim
theorem T_gval {u0:Nat}:PT C A fs d ns Fn (.gval u0):=by
 intro u_0 u_1 u_2 u_3 u_4 u_5 u_6 u_7 u_8 u_9 u_10 h
 exact h.elim
theorem T_bin {u0:BOp}{u1:ME}{u2:ME}(i_u1:PP C A fs d ns Fn u1) (i_u2:PP C A fs d ns Fn u2):PT C A fs d ns Fn (.bin u0 u1 u2):=by
 intro u_0 u_1 u_2 u_3 u_4 u_5 u_6 u_7 u_8 u_9 u_10 h
 exact h.elim
theorem T_pow {u0:Nat}{u1:Nat}:PT C A fs d ns Fn (.pow u0 u1):=by
 intro u_0 u_1 u_2 u_3 u_4 u_5 u_6 u_7 u_8 u_9 u_10 h
 exact h.elim
theorem T_neg {u0:Nat}:PT C A fs d ns Fn (.neg u0):=by
 intro u_0 u_1 u_2 u_3 u_4 u_5 u_6 u_7 u_8 u_9 u_10 h
 exact h.elim
theorem T_tuple {u0:List ME}(i_u0:∀ e∈u0,PP C A fs d ns Fn e):PT C A fs d ns Fn (.tuple u0):=by
 intro u_0 u_1 u_2 u_3 u_4 u_5 u_6 u_7 u_8 u_9 u_10 h
 exact h.elim
theorem T_list {u0:List ME}(i_u0:∀ e∈u0,PP C A fs d ns Fn e):PT C A fs d ns Fn (.list u0):=by
 intro u_0 u_1 u_2 u_3 u_4 u_5 u_6 u_7 u_8 u_9 u_10 h
 exact h.elim
theorem T_slc {u0:ME}{u1:ME}{u2:ME}(i_u0:PP C A fs d ns Fn u0) (i_u1:PP C A fs d ns Fn u1) (i_u2:PP C A fs d ns Fn u2):PT C A fs d ns Fn (.slc u0 u1 u2):=by
 intro u_0 u_1 u_2 u_3 u_4 u_5 u_6 u_7 u_8 u_9 u_10 h
 exact h.elim
theorem T_rev {u0:ME}(i_u0:PP C A fs d ns Fn u0):PT C A fs d ns Fn (.rev u0):=by
 intro u_0 u_1 u_2 u_3 u_4 u_5 u_6 u_7 u_8 u_9 u_10 h
 exact h.elim
theorem T_callv {u0:Nat}{u1:List ME}(i_u1:∀ e∈u1,PP C A fs d ns Fn e):PT C A fs d ns Fn (.callv u0 u1):=by
 intro u_0 u_1 u_2 u_3 u_4 u_5 u_6 u_7 u_8 u_9 u_10 h
 exact h.elim
theorem T_new {u0:List ME}(i_u0:∀ e∈u0,PP C A fs d ns Fn e):PT C A fs d ns Fn (.new u0):=by
 intro u_0 u_1 u_2 u_3 u_4 u_5 u_6 u_7 u_8 u_9 u_10 h
 exact h.elim
theorem T_meth {u0:MK}{u1:ME}{u2:List ME}(i_u1:PP C A fs d ns Fn u1) (i_u2:∀ e∈u2,PP C A fs d ns Fn e):PT C A fs d ns Fn (.meth u0 u1 u2):=by
 intro u_0 u_1 u_2 u_3 u_4 u_5 u_6 u_7 u_8 u_9 u_10 h
 exact h.elim
theorem T_attr {u0:Nat}{u1:ME}(i_u1:PP C A fs d ns Fn u1):PT C A fs d ns Fn (.attr u0 u1):=by
 intro u_0 u_1 u_2 u_3 u_4 u_5 u_6 u_7 u_8 u_9 u_10 h
 exact h.elim
theorem T_comp {u0:ME}{u1:Nat}{u2:List Nat}{u3:ME}{u4:List ME}(i_u0:PP C A fs d ns Fn u0) (i_u3:PP C A fs d ns Fn u3) (i_u4:∀ e∈u4,PP C A fs d ns Fn e):PT C A fs d ns Fn (.comp u0 u1 u2 u3 u4):=by
 intro u_0 u_1 u_2 u_3 u_4 u_5 u_6 u_7 u_8 u_9 u_10 h
 exact h.elim
theorem T_dead:PT C A fs d ns Fn (.dead):=by
 intro u_0 u_1 u_2 u_3 u_4 u_5 u_6 u_7 u_8 u_9 u_10 h
 exact h.elim
theorem sP (e:ME):PP C A fs d ns Fn e:=
 ME.rec (motive_1:=fun e=>PP C A fs d ns Fn e) (motive_2:=fun es=>∀ e∈es,PP C A fs d ns Fn e)
  (⟨E_none hF hnd,T_none hF hnd⟩)
  (fun x0=>⟨E_bool hF hnd,T_bool hF hnd⟩)
  (fun x0=>⟨E_int hF hnd,T_int hF hnd⟩)
  (fun x0=>⟨E_str hF hnd,T_str hF hnd⟩)
  (fun x0=>⟨E_var hF hnd,T_var hF hnd⟩)
  (fun x0=>⟨E_gfun hF hnd,T_gfun hF hnd⟩)
  (fun x0=>⟨E_gval hF hnd,T_gval hF hnd⟩)
  (fun x0 x1 x2 h1 h2=>⟨E_bin hF hnd h1 h2,T_bin hF hnd h1 h2⟩)
  (fun x0 x1=>⟨E_pow hF hnd,T_pow hF hnd⟩)
  (fun x0=>⟨E_neg hF hnd,T_neg hF hnd⟩)
  (fun x0 x1 x2 h1 h2=>⟨E_cmp hF hnd h1 h2,T_cmp hF hnd h1 h2⟩)
  (fun x0 h0=>⟨E_and hF hnd h0,T_and hF hnd h0⟩)
  (fun x0 h0=>⟨E_or hF hnd h0,T_or hF hnd h0⟩)
  (fun x0 h0=>⟨E_not hF hnd h0,T_not hF hnd h0⟩)
  (fun x0 x1 x2 h0 h1 h2=>⟨E_ite hF hnd h0 h1 h2,T_ite hF hnd h0 h1 h2⟩)
  (fun x0 h0=>⟨E_tuple hF hnd h0,T_tuple hF hnd h0⟩)
  (fun x0 h0=>⟨E_list hF hnd h0,T_list hF hnd h0⟩)
  (fun x0 x1 h0 h1=>⟨E_idx hF hnd h0 h1,T_idx hF hnd h0 h1⟩)
  (fun x0 x1 x2 h0 h1 h2=>⟨E_slc hF hnd h0 h1 h2,T_slc hF hnd h0 h1 h2⟩)
  (fun x0 h0=>⟨E_rev hF hnd h0,T_rev hF hnd h0⟩)
  (fun x0 x1 h1=>⟨E_call hF hnd h1,T_call hF hnd h1⟩)
  (fun x0 x1 h1=>⟨E_callv hF hnd h1,T_callv hF hnd h1⟩)
  (fun x0 h0=>⟨E_new hF hnd h0,T_new hF hnd h0⟩)
  (fun x0 x1 h1=>⟨E_bi hF hnd h1,T_bi hF hnd h1⟩)
  (fun x0 x1 x2 h1 h2=>⟨E_meth hF hnd h1 h2,T_meth hF hnd h1 h2⟩)
  (fun x0 x1 x2 h1 h2=>⟨Es hF hnd h1 h2,T_wmeth hF hnd h1 h2⟩)
  (fun x0 x1 h1=>⟨E_attr hF hnd h1,T_attr hF hnd h1⟩)
  (fun x0 x1 x2 x3 x4 h0 h3 h4=>⟨E_comp hF hnd h0 h3 h4,T_comp hF hnd h0 h3 h4⟩)
  (⟨E_dead hF hnd,T_dead hF hnd⟩)
  (fun e h=>nomatch h) (fun a l ha hl e he=>(List.mem_cons.mp he).elim (fun q=>q▸ha) (hl e)) e
theorem sE (e:ME):PE C A fs d ns Fn e:=(sP hF hnd e).1
theorem sT (e:ME):PT C A fs d ns Fn e:=(sP hF hnd e).2
theorem sEs (es:List ME) {xs:List Expr}{pos:Pos}{gs:List (Str×NameKind)}{env:Env}{m:LE}{H:MH}{s:Shared}{E:MH→Prop}{Q:List PV→MH→Prop}(B:Bd C A fs env gs d) (T:St C fs env ns m H s) (ha:dI gs ns es xs=true) (h:mEs Fn C.gv E es m H Q) :
  wpAny (model C.prog C.w) A (spliced (backTo pos (starEach xs env))) (OkG C fs H s (fun vs H' s'=>∃ ps,VRs C s'.heap ps vs∧ps.length=es.length∧Q ps H')) (OkX C fs H s E) s:=
 qEs hF hnd es (fun e J=>sP hF hnd e) B T ha h
theorem sTests (cs:List ME) {ifs:List Expr}{gs:List (Str×NameKind)}{env:Env}{m:LE}{H:MH}{s:Shared}{E:MH→Prop}{Q:Bool→MH→Prop}(B:Bd C A fs env gs d) (T:St C fs env ns m H s) (hl:cs.length≤1) (ha:dI gs ns cs ifs=true) (h:rJ Fn C.gv E cs m H Q) :
  wpAny (model C.prog C.w) A (forIn ifs true fun c r=>if r=true then do let ok ←isTrue c env (eval c env);pure (ForInStep.yield ok) else pure (ForInStep.yield r)) (OkG C fs H s (BQ Q)) (OkX C fs H s E) s:=
 qTests hF hnd cs (fun e J=>sP hF hnd e) B T hl ha h
end
end
end Mine.Internal
end
noncomputable section
namespace Mine.Internal
structure Bt (C:Cx) (A:Around) (outer:List Env) (env:Env) (d:Nat) (s₀:Shared):Prop where
 bd:Bd C A (env::outer) env env.scope.names d
 fr:env.frame=some env.locals
 base:C.base.StaysIn s₀.heap
 lnew:s₀.heap.get? env.locals=none
inductive FlR (C:Cx) (h:Heap):Fl→Flow→Prop
 | next:FlR C h .next .next
 | brk:FlR C h .brk .brk
 | ret {p v}:VR C h p v→FlR C h (.ret p) (.ret v)
noncomputable def SG (C:Cx) (fs:List Env) (env:Env) (ns:List Str) (H₀:MH) (s₀:Shared) (Q:QS) (f:Flow) (s':Shared):Prop:=
 ∃ H' m' fl,aM fs H₀ s₀ H' s'∧Inv C fs H' s'∧((∃ p,fl=.ret p)∨St C fs env ns m' H' s')∧FlR C s'.heap fl f∧Q fl m' H'
noncomputable def FX (C:Cx) (fs:List Env) (H₀:MH) (s₀:Shared) (E:MH→Prop) (v:Value) (s':Shared):Prop:=∃ H' e,v=.ref e∧gD C fs H₀ s₀ H' e s'∧E H'
section
variable {C:Cx}{fs outer:List Env}{env:Env}{gs:List (Str×NameKind)}{ns:List Str}{m:LE}{H H' H₀:MH}{s s' s₀:Shared}{A:Around}{E:MH→Prop}{d:Nat}{Q:QV}
theorem St.junk (T:St C fs env ns m H s) {b:Nat}{o:Obj}{vs:Array Value}(e:s.heap.get? b=some o) (hd:o.data=.fields vs) (nv:bZ o) (bn:C.base.get? b=none) {h':Heap}{tk:Tok}(hs:Heap.ExtBut b s.heap h') :
  St C fs env ns m H { s with heap:=h',toks:=tk }:=by
 have hn:=T.inv.none_of_fields e hd
 have keep:∀ c x,s.heap.get? c=some x→(∀ vs,x.data≠.fields vs)→h'.get? c=some x:=fun c x ec nf=>hs c x (fun q=>by rw [q,e] at ec;cases ec;exact nf _ hd) ec
 have kv:∀ c x,s.heap.get? c=some x→h'.get? c=some x∨bZ x:=fun c x ec=>by
  by_cases q:c=b
  ·subst q;rw [e] at ec;cases ec;exact .inr nv
  ·exact .inl (hs c x q ec)
 refine X12 (T.loc) fun mm h1 h2=>?_
 refine ⟨iT T.inv fun c x ec=>?_,T.nl,(I12 mm (?_) (fun i nm ei hu=>?_)),T.hl⟩
 ·by_cases q:c=b
  ·subst q;rw [e] at ec;cases ec
   exact .inr ⟨bn,hn,nv,fun hm=>by
    obtain ⟨_,o',e',nf⟩:=T.inv.frames.mem hm
    rw [e] at e';cases e';exact absurd hd (nf _)⟩
  ·exact .inl (hs c x q ec)
 ·refine X33 h1 fun o1 es ep e1 e2 e3=>?_
  exact I33 o1 es ep (keep _ _ e1 (fun vs q=>by rw [e2] at q;cases q)) e2 e3
 ·refine Or.elim (h2 i nm ei hu) ?_ ?_
  ·rintro ⟨k1,v,k2,k3⟩
   exact .inl ⟨k1,v,k2,gG kv k3⟩
  ·rintro ⟨k1,c,v,k2,⟨oc,c1,c2⟩,k4⟩
   exact .inr ⟨k1,c,v,k2,(I12 oc (keep _ _ c1 (fun vs q=>by rw [c2] at q;cases q)) c2),gG kv k4⟩
theorem St.junkD (T:St C fs env ns m H s) {b:Nat}{o:Obj}(e:s.heap.get? b=some o) (nv:bZ o) (nc:∀ v,o.data≠.cell v) (hbL:b≠env.locals) (hbF:b∉bH fs) (bn:C.base.get? b=none) (hn:H b=none) {h':Heap}{tk:Tok}(hs:Heap.ExtBut b s.heap h') :
  St C fs env ns m H { s with heap:=h',toks:=tk }:=by
 have kv:∀ c x,s.heap.get? c=some x→h'.get? c=some x∨bZ x:=fun c x ec=>by
  by_cases q:c=b
  ·subst q;rw [e] at ec;cases ec;exact .inr nv
  ·exact .inl (hs c x q ec)
 refine X12 (T.loc) fun mm h1 h2=>?_
 refine ⟨iT T.inv fun c x ec=>?_,T.nl,(I12 mm (?_) (fun i nm ei hu=>?_)),T.hl⟩
 ·by_cases q:c=b
  ·subst q;rw [e] at ec;cases ec
   exact .inr (I04 bn hn nv (fun hm=>absurd hm hbF))
  ·exact .inl (hs c x q ec)
 ·refine X33 h1 fun o1 es ep e1 e2 e3=>?_
  exact I33 o1 es ep (hs _ _ (Ne.symm hbL) e1) e2 e3
 ·refine Or.elim (h2 i nm ei hu) ?_ ?_
  ·rintro ⟨k1,v,k2,k3⟩
   exact .inl ⟨k1,v,k2,gG kv k3⟩
  ·rintro ⟨k1,c,v,k2,⟨oc,c1,c2⟩,k4⟩
   exact .inr ⟨k1,c,v,k2,(I12 oc (hs _ _ (fun q=>by rw [q,e] at c1;cases c1;exact nc _ c2) c1) c2),gG kv k4⟩
theorem gP {M:Model}{X:Value→Shared→Prop}{Z:Unit→Shared→Prop}(hk:env.scope.kind=.function) (base:C.base.StaysIn s₀.heap) (lnew:s₀.heap.get? env.locals=none) (hnd:ns.Nodup) (S:aM fs H₀ s₀ H s) (T:St C fs env ns m H s) {i:Nat}{x:Str}{p:PV}{v:Value}(hi:ns[i]?=some x)
  (hl:env.kindOf x=some .local) (hp:VR C s.heap p v) (k:∀ s',aM fs H₀ s₀ H s'→St C fs env ns (m.set i p) H s'→(∀ q w,VR C s.heap q w→VR C s'.heap q w)→(∀ q w,VRs C s.heap q w→VRs C s'.heap q w) →
   (∀ q ys j it,dS C q ys j it s.heap→dS C q ys j it s'.heap)→Heap.SameBut env.locals s.heap s'.heap→Z () s') :
  wpAny M A (storeName env x v) Z X s:=by
 refine X12 (T.loc) fun mm h1 h2=>?_
 refine wpAny_storeName_local hl h1 (fun h' hn hs=>?_) (hk▸rfl)
 refine X13 (Ns.notVal h1) fun oL e1 nv nf=>?_
 have bn:C.base.get? env.locals=none:=by
  cases q:C.base.get? env.locals with
  | none=>rfl
  | some o=>rw [base _ _ q] at lnew;cases lnew
 have kv:∀ c y,s.heap.get? c=some y→h'.get? c=some y∨bZ y:=fun c y ec=>by
  by_cases q:c=env.locals
  ·subst q
   have:some oL=some y:=e1.symm.trans ec
   cases this;exact .inr nv
  ·exact .inl ((hs.2 c q).trans ec)
 have ki:∀ c y,s.heap.get? c=some y→h'.get? c=some y∨(bZ y∧∀ vs,y.data≠.fields vs):=fun c y ec=>by
  by_cases q:c=env.locals
  ·subst q
   have:some oL=some y:=e1.symm.trans ec
   cases this;exact .inr ⟨nv,nf⟩
  ·exact .inl ((hs.2 c q).trans ec)
 refine k _ (fH S fun c y ec=>?_) ⟨iT T.inv fun c y ec=>?_,T.nl,(I12 _ hn (fun j nm ej hu=>?_)),T.hl⟩ (fun q w=>gG kv) (fun q w=>nO kv) (fun q ys j it=>dS.move ki) hs
 ·by_cases q:c=env.locals
  ·subst q;exact .inr lnew
  ·exact .inl ((hs.2 c q).trans ec)
 ·by_cases q:c=env.locals
  ·subst q
   have:some oL=some y:=e1.symm.trans ec
   refine hC fun hG=>?_
   cases this
   refine X13 (Ns.notVal hn) fun o' e' J nf'=>?_
   refine hG ?_;clear hG
   exact .inr (I04 bn (T.hl) nv (fun J=>(I12 o' e' nf')))
  ·exact .inl ((hs.2 c q).trans ec)
 ·rw [aJ] at hu ⊢
  by_cases q:j=i
  ·clear ki bn nf nv e1 oL hn k
   subst q
   rw [hi] at ej;cases ej
   rw [if_pos rfl]
   exact .inl ⟨hl,v,by simp,gG kv hp⟩
  ·rw [if_neg q] at hu ⊢
   have hne:nm≠x:=fun e=>by
    clear ki bn nf nv e1 oL hn k
    subst e
    exact q ((List.getElem?_inj (List.getElem?_eq_some_iff.mp ej).1 hnd).mp (ej.trans hi.symm))
   refine Or.elim (h2 j nm ej hu) ?_ ?_
   ·rintro ⟨k1,w,k2,k3⟩
    exact .inl ⟨k1,w,(if_neg hne).trans k2,gG kv k3⟩
   ·rintro ⟨k1,c,w,k2,⟨oc,c1,c2⟩,k4⟩
    refine .inr ⟨k1,c,w,k2,(I12 oc ((hs.2 c fun q=>?_).trans c1) c2),gG kv k4⟩
    refine X33 h1 fun o1 es ep f1 f2 f3=>?_
    have e2:s.heap.get? c=some o1:=by rw [q];exact f1
    rw [c1] at e2;cases e2
    rw [c2] at f2;cases f2
end
end Mine.Internal
end
noncomputable section
namespace Mine.Internal
noncomputable def jG (e:Expr):Bool:=e.ctorIdx==8||(e.ctorIdx==9||e.ctorIdx==10)
noncomputable def isTup (e:Expr):Bool:=e.ctorIdx==25
noncomputable def swapOk (sc:Scope) (y:Str) (p:Pos) (e:Expr):Bool:=Expr.casesOn (motive_1:=fun J=>Bool) e (fun J J J=>false) (fun J J J=>false) (fun J J J J=>false) (fun J J J=>false) (fun J J J J=>false) (fun J J J J=>false) (fun J J J=>false) (fun J J J=>false) (fun J J cs q=>p.line==q.line&&!(cs.names.any fun (n,k)=>n==y&&(k==.local||k==.cell))) (fun J J J J=>false) (fun J J J J J=>false) (fun J J J J=>false) (fun J J=>false) (fun J J=>false) (fun J J=>false) (fun J J J J=>false) (fun J J J J=>false) (fun J J J J=>false) (fun J J=>false) (fun J J J=>false) (fun J J J=>false) (fun J J J=>false) (fun J J=>false) (fun J J=>false) (fun J J=>false) (fun J J J=>false) (fun J J J J=>false)
noncomputable def jS (sc:Scope) (ns:List Str):List Nat→List Expr→Bool
 | [],ts=>l0 ts
 | i::r,ts=>match ts with
  | []=>false
  | t::q=>eE t fun y J=>ns[i]?==some y&&(sc.names.lookup y==some .local&&jS sc ns r q)
noncomputable def lineOk:List Expr→Bool
 | ts=>ts.all fun t=>eE t fun J p=>p.line==(ts.head?.map (·.pos.line)).getD 0
noncomputable def Bx:Expr→Bool
 | .Starred ..=>true
 | _=>false
noncomputable def cO (sc:Scope) (ts:List Expr):List Str:=ts.filterMap fun
 | .Name id pos=>if sc.names.lookup id==some .local&&pos.line==(ts.head?.map (·.pos.line)).getD 0 then some id else none
 | _=>none
noncomputable def swapB (sc:Scope) (ts vs:List Expr):Bool:=
 (ts.length==2||ts.length==3)&&vs.length==ts.length&&!vs.any Bx&&(cO sc ts).length==ts.length&&(cO sc ts).eraseDups.length==(cO sc ts).length &&
 (vs.all (foldedForSure 8)||!vs.all (constantsAlone 8))
set_option backward.match.sparseCases false
noncomputable def sExpr (x:Stmt) (k:Expr→Pos→Bool):Bool:=match x with
 | .Expr v p=>k v p
 | _=>false
theorem Hu {x:Stmt}{k:Expr→Pos→Bool}{P:Stmt→Prop}(h:sExpr x k=true) (K:∀ v p,k v p=true→P (.Expr v p)):P x:=by
 cases x<;>first|exact (Bool.false_ne_true h).elim|exact K _ _ h
noncomputable def sAsg (x:Stmt) (k:List Expr→Expr→Pos→Bool):Bool:=match x with
 | .Assign ts v p=>k ts v p
 | _=>false
theorem mW {x:Stmt}{k:List Expr→Expr→Pos→Bool}{P:Stmt→Prop}(h:sAsg x k=true) (K:∀ ts v p,k ts v p=true→P (.Assign ts v p)):P x:=by
 cases x<;>first|exact (Bool.false_ne_true h).elim|exact K _ _ _ h
noncomputable def sAug (x:Stmt) (k:Expr→Operator→Expr→Pos→Bool):Bool:=match x with
 | .AugAssign t o v p=>k t o v p
 | _=>false
theorem Da {x:Stmt}{k:Expr→Operator→Expr→Pos→Bool}{P:Stmt→Prop}(h:sAug x k=true) (K:∀ t o v p,k t o v p=true→P (.AugAssign t o v p)):P x:=by
 cases x<;>first|exact (Bool.false_ne_true h).elim|exact K _ _ _ _ h
noncomputable def sIf (x:Stmt) (k:Expr→List Stmt→List Stmt→Pos→Bool):Bool:=match x with
 | .If t y z p=>k t y z p
 | _=>false
theorem sIf_el {x:Stmt}{k:Expr→List Stmt→List Stmt→Pos→Bool}{P:Stmt→Prop}(h:sIf x k=true) (K:∀ t y z p,k t y z p=true→P (.If t y z p)):P x:=by
 cases x<;>first|exact (Bool.false_ne_true h).elim|exact K _ _ _ _ h
noncomputable def sWhl (x:Stmt) (k:Expr→List Stmt→List Stmt→Pos→Bool):Bool:=match x with
 | .While t y z p=>k t y z p
 | _=>false
theorem sWhl_el {x:Stmt}{k:Expr→List Stmt→List Stmt→Pos→Bool}{P:Stmt→Prop}(h:sWhl x k=true) (K:∀ t y z p,k t y z p=true→P (.While t y z p)):P x:=by
 cases x<;>first|exact (Bool.false_ne_true h).elim|exact K _ _ _ _ h
noncomputable def sFor (x:Stmt) (k:Expr→Expr→List Stmt→List Stmt→Pos→Bool):Bool:=match x with
 | .For t i y z p=>k t i y z p
 | _=>false
theorem sFor_el {x:Stmt}{k:Expr→Expr→List Stmt→List Stmt→Pos→Bool}{P:Stmt→Prop}(h:sFor x k=true) (K:∀ t i y z p,k t i y z p=true→P (.For t i y z p)):P x:=by
 cases x<;>first|exact (Bool.false_ne_true h).elim|exact K _ _ _ _ _ h
noncomputable def sRet (x:Stmt) (k:Option Expr→Pos→Bool):Bool:=match x with
 | .Return v p=>k v p
 | _=>false
theorem Cz {x:Stmt}{k:Option Expr→Pos→Bool}{P:Stmt→Prop}(h:sRet x k=true) (K:∀ v p,k v p=true→P (.Return v p)):P x:=by
 cases x<;>first|exact (Bool.false_ne_true h).elim|exact K _ _ h
noncomputable def sBrk (x:Stmt) (k:Pos→Bool):Bool:=match x with
 | .Break p=>k p
 | _=>false
theorem sBrk_el {x:Stmt}{k:Pos→Bool}{P:Stmt→Prop}(h:sBrk x k=true) (K:∀ p,k p=true→P (.Break p)):P x:=by
 cases x<;>first|exact (Bool.false_ne_true h).elim|exact K _ h
noncomputable def sRaise (x:Stmt) (k:Option Expr→Option Expr→Pos→Bool):Bool:=match x with
 | .Raise e c p=>k e c p
 | _=>false
theorem Fg {x:Stmt}{k:Option Expr→Option Expr→Pos→Bool}{P:Stmt→Prop}(h:sRaise x k=true) (K:∀ e c p,k e c p=true→P (.Raise e c p)):P x:=by
 cases x<;>first|exact (Bool.false_ne_true h).elim|exact K _ _ _ h
noncomputable def sTry (x:Stmt) (k:List Stmt→List ExceptHandler→List Stmt→List Stmt→Pos→Bool):Bool:=match x with
 | .Try y hs z w p=>k y hs z w p
 | _=>false
theorem sTry_el {x:Stmt}{k:List Stmt→List ExceptHandler→List Stmt→List Stmt→Pos→Bool}{P:Stmt→Prop}(h:sTry x k=true) (K:∀ y hs z w p,k y hs z w p=true→P (.Try y hs z w p)):P x:=by
 cases x<;>first|exact (Bool.false_ne_true h).elim|exact K _ _ _ _ _ h
noncomputable def oAdd (o:Operator):Bool:=match o with
 | .Add=>true
 | _=>false
theorem yB {o:Operator}(h:oAdd o=true):o=.Add:=by cases o<;>first|rfl|exact (Bool.false_ne_true h).elim
set_option backward.match.sparseCases true
mutual
noncomputable def agS (sc:Scope) (ns:List Str):MS→Stmt→Bool
 | .expr e,x=>sExpr x fun v J=>!jG v&&agE sc.names ns e v
 | .asg i e,x=>sAsg x fun ts v J=>l1 ts fun t=>eE t fun y p=>ns[i]?==some y&&(sc.names.lookup y==some .local&&(agE sc.names ns e v&&(!jG v||swapOk sc y p v)))
 | .asgT is e,x=>sAsg x fun ts v J=>l1 ts fun t=>vTup t fun ts J J=>jS sc ns is ts&&(!jG v&&(!isTup v&&agE sc.names ns e v))
 | .swap is es,x=>sAsg x fun ts v J=>l1 ts fun t=>vTup t fun ts J J=>vTup v fun vs J J=>jS sc ns is ts&&(decide is.Nodup&&((is.length==2||is.length==3)&&(lineOk ts&&(swapB sc ts vs&&(dI sc.names ns es vs&&es.length==is.length)))))
 | .setidx o i e,x=>sAsg x fun ts v J=>l1 ts fun t=>vSub t fun o' i' J=>!jG v&&(agE sc.names ns e v&&(agE sc.names ns o o'&&agE sc.names ns i i'))
 | .setattr k o e,x=>sAsg x fun ts v J=>l1 ts fun t=>qJ t fun o' nm J=>!jG v&&(nm==bG k&&(decide (k<2)&&(agE sc.names ns e v&&agE sc.names ns o o')))
 | .aug i op e,x=>sAug x fun t a v J=>oAdd a&&(eE t fun y J=>op==.add&&(ns[i]?==some y&&(okN y&&(sc.names.lookup y==some .local&&agE sc.names ns e v))))
 | .augattr k o op e,x=>sAug x fun t a v J=>oAdd a&&(qJ t fun o' nm J=>op==.add&&(nm==bG k&&(decide (k<2)&&(agE sc.names ns o o'&&agE sc.names ns e v))))
 | .ifs c a b,x=>sIf x fun t y z J=>agE sc.names ns c t&&(tE sc ns a y&&tE sc ns b z)
 | .whl c b,x=>sWhl x fun t y z J=>l0 z&&(agE sc.names ns c t&&tE sc ns b y)
 | .fors is isT src b,x=>sFor x fun t it body z J=>l0 z&&(agE sc.names ns src it&&(tE sc ns b body&&(match isT with
  | false=>eE t fun y J=>l1 is fun i=>ns[i]?==some y&&sc.names.lookup y==some .local
  | true=>vTup t fun ts J J=>jS sc ns is ts)))
 | .ret e,x=>sRet x fun v J=>oS v fun v=>agE sc.names ns e v
 | .brk,x=>sBrk x fun J=>true
 | .raise args,x=>sRaise x fun e c J=>oN c&&(oS e fun e=>mQ e fun g xs ks J=>l0 ks&&(dI sc.names ns args xs&&(eE g fun y J=>y==("GrammarFault":Str)&&isG sc.names y)))
 | .tryN b,x=>sTry x fun body hs z w J=>l0 z&&(l0 w&&(tE sc ns b body&&(l1 hs fun (.ExceptHandler t nm hb _)=>oN nm&&(oS t fun t=>eE t fun y J=>y==("GrammarFault":Str)&&(isG sc.names y&&(l1 hb fun r=>sRet r fun v J=>oS v fun v=>gN v fun c J J=>cNone c))))))
 | .dead,_=>true
noncomputable def tE (sc:Scope) (ns:List Str):List MS→List Stmt→Bool
 | [],x=>l0 x
 | e::r,x=>match x with
  | y::ys=>agS sc ns e y&&tE sc ns r ys
  | []=>false
end
section
variable {C:Cx}{fs outer:List Env}{env:Env}{gs:List (Str×NameKind)}{ns:List Str}{m:LE}{H H' H₀:MH}{s s' s₀:Shared}{A:Around}{E:MH→Prop}{d:Nat}{Q:QV}
 {α:Type} {M:Model}
theorem OkX.fx (b0:C.base.StaysIn s₀.heap) (S:aM fs H₀ s₀ H s) (T:St C fs env ns m H s) {v:Value}{s':Shared}(x:OkX C fs H s E v s'):FX C fs H₀ s₀ E v s':=by
 refine X25 x fun H' e h1 h2 h3 h4 h5=>?_
 exact I23 H' e h1 ⟨b0,eO T.inv T.nl h2,S.trans h2,h3,h4.back S T.inv⟩ h5
theorem St.run (T:St C fs env ns m H s) (b0:C.base.StaysIn s₀.heap) (S:aM fs H₀ s₀ H s) {t:Sem α}{P:α→MH→Shared→Prop}{Z:α→Shared→Prop}(h:wpAny M A t (OkG C fs H s P) (OkX C fs H s E) s)
  (k:∀ a H' s',aM fs H₀ s₀ H' s'→St C fs env ns m H' s'→aM fs H s H' s'→P a H' s'→Z a s'):wpAny M A t Z (FX C fs H₀ s₀ E) s:=
 wpAny_mono h (fun a s' z=>X13 z fun H' S' I' p=>k a H' s' (S.trans S') (T.step S' I') S' p) fun J J x=>x.fx b0 S T
theorem FX.nope {v:Value}(h:FX C fs H₀ s₀ nope v s):False:=X23 h fun J J J J f=>f
theorem yR {v:Value}{Ex:MH→Prop}(x:∃ H' e,v=.ref e∧gD C fs H₀ s₀ H' e s∧uJ s₀ e s∧Ex H'):cameBackBy M A env (FX C fs H₀ s₀ Ex) v s:=by
 refine hC fun hG=>?_
 obtain ⟨H',e,rfl,F,W,hE⟩:=x<;>(refine hG ?_;clear hG)
 unfold cameBackBy
 have W':=W
 refine X54 W fun oe vs T oT ts he hd h1 J=>?_
 refine wpAny_bind (wpAny_field he hd h1 ?_)
 rw [if_neg (by simp)]
 refine gI F W' fun s' F' W'=>?_
 exact I23 H' e rfl F' hE
theorem Iu {v:Value}{Ex:MH→Prop}(hfr:A.frames=some (env::outer)) (hf:env.frame=some env.locals) (x:FX C (env::outer) H₀ s₀ Ex v s) :
  notedBy M A env (fun e s'=>cameBackBy M A env (FX C (env::outer) H₀ s₀ Ex) e s') v s:=by
 refine hC fun hG=>?_
 obtain ⟨H',e,rfl,F,hE⟩:=x<;>(refine hG ?_;clear hG)
 unfold notedBy
 exact jH hfr hf F fun s' F' W'=>yR (I24 H' e rfl F' W' hE)
theorem SG.next {Q:QS}(S:aM fs H₀ s₀ H s) (T:St C fs env ns m H s) (q:Q .next m H):SG C fs env ns H₀ s₀ Q .next s:=I35 H m (.next) S (T.inv) (.inr T) (.next) q
noncomputable def Sto (env:Env) (x:Str) (f:Value→Sem Unit):Prop:=∀ (M:Model) (A:Around) (v:Value) (Z:Unit→Shared→Prop) (X:Value→Shared→Prop) (s:Shared),wpAny M A (storeName env x v) Z X s→wpAny M A (f v) Z X s
theorem tI {X:Value→Shared→Prop}{Z:Unit→Shared→Prop}(hk:env.scope.kind=.function) (base:C.base.StaysIn s₀.heap) (lnew:s₀.heap.get? env.locals=none) (hnd:ns.Nodup) {is:List Nat} :
  ∀ {fns:List (Value→Sem Unit)} {ps:List PV} {vs:List Value} {m m':LE} {s:Shared},fns.length=is.length→(∀ (j i:Nat),is[j]?=some i→∃ x f,fns[j]?=some f∧ns[i]?=some x∧env.kindOf x=some .local∧Sto env x f) →
  aM fs H₀ s₀ H s→St C fs env ns m H s→VRs C s.heap ps vs→m.sets is ps=some m'→(∀ s',aM fs H₀ s₀ H s'→St C fs env ns m' H s'→(∀ q ys j it,dS C q ys j it s.heap→dS C q ys j it s'.heap)→Z () s')→wpAny M A (assignInOrder fns vs) Z X s:=by
 induction is with
 | nil=>
  intro fns ps vs m m' s hl hf S T hv hm k
  cases fns with
  | cons f fns=>cases hl
  | nil=>
   cases ps with
   | cons p ps=>cases hm
   | nil=>
    cases hm;obtain rfl:=hv
    exact wpAny_pure (k s S T fun J J J J h=>h)
 | cons i is ih=>
  intro fns ps vs m m' s hl hf S T hv hm k
  cases fns with
  | nil=>cases hl
  | cons f fns=>
   cases ps with
   | nil=>cases hm
   | cons p ps=>
    refine hC fun hG=>?_
    obtain ⟨v,r,rfl,hp,hr⟩:=hv
    refine X24 (hf 0 i rfl) fun x f' e1 e2 e3 e4=>?_
    cases e1
    refine hG ?_;clear hG
    refine wpAny_bind (wpAny_holding (e4 _ _ _ _ _ _ (gP hk base lnew hnd S T e2 e3 hp fun s' S' T' k1 k2 k3 J=>?_)))
    exact ih (by simpa using hl) (fun j i hj=>hf (j+1) i hj) S' T' (k2 _ _ hr) hm fun s'' S'' T'' k4=>k s'' S'' T'' fun q ys j it h=>k4 _ _ _ _ (k3 _ _ _ _ h)
theorem sM {sc:Scope}(hs:env.scope=sc) {is:List Nat}:∀ {ts:List Expr},jS sc ns is ts=true→ts.length=is.length∧(assignEach ts env).map (·.2)=ts.map (assign · env)∧(assignEach ts env).findIdx? (·.1)=none∧(assignEach ts env).length=is.length ∧
  (∀ (j i:Nat),is[j]?=some i→∃ x p,ts[j]?=some (Expr.Name x p)∧ns[i]?=some x∧env.kindOf x=some .local):=by
 induction is with
 | nil=>
  intro ts h
  apply jX (xs:=ts) h
  exact I05 rfl rfl rfl rfl (fun j i h=>by simp at h)
 | cons i is ih=>
  intro ts h
  cases ts with
  | nil=>exact (Bool.false_ne_true h).elim
  | cons t ts=>
   apply bD (x:=t) h;clear h;intro y p h
   refine X02 (fW h) fun h1 h=>?_
   refine X02 (fW h) fun h2 h3=>?_
   have h1:=beq_iff_eq.mp h1
   have h2:=beq_iff_eq.mp h2
   refine X05 (ih h3) fun k1 k2 k3 k4 k5=>?_
   refine I05 (by simp [k1]) (?_) (?_) (?_) (fun j i' hj=>?_)
   ·show assign (.Name y p) env::(assignEach ts env).map (·.2)=_
    rw [k2];rfl
   ·show ((false,assign (.Name y p) env)::assignEach ts env).findIdx? (·.1)=none
    rw [List.findIdx?_cons];simp [k3]
   ·show (assignEach ts env).length+1=_
    rw [k4];rfl
   ·clear k4 k3 k2 k1 h3 t ih h
    cases j with
    | zero=>cases hj;exact I23 y p rfl h1 (by subst hs;exact h2)
    | succ j=>exact k5 j i' hj
theorem kG {is:List Nat}:∀ {ps:List PV}{m m':LE},m.sets is ps=some m'→ps.length=is.length:=by
 induction is with
 | nil=>intro ps m m' h;cases ps with|nil=>rfl|cons p ps=>cases h
 | cons i is ih=>intro ps m m' h;cases ps with|nil=>cases h|cons p ps=>exact congrArg (·+1) (ih h)
theorem rS {a:Int}{v w:Value}{q:PV}{Q:QV}{X:Value→Shared→Prop}(I:Inv C fs H s) (hv:VR C s.heap (.int a) v) (hw:VR C s.heap q w) (h:dY .add (.int a) q H Q) :
  wpAny (model C.prog C.w) A (inplaceOp .Add v w) (OkG C fs H s (VQ C Q)) X s:=by
 obtain ⟨t,rfl⟩:=hv
 cases q with
 | int b=>
  obtain ⟨u,rfl⟩:=hw
  exact PyProof.Rows.iadd_int (.tok I (I12 (.int (a+b)) ⟨_,rfl⟩ h))
 | _=>exact h.elim
end
end Mine.Internal
end
noncomputable section
open Builtin
set_option maxRecDepth 100000
set_option maxHeartbeats 4000000
namespace Mine.Internal
structure ExcC (M:Model) (h:Heap) (C:Addr):Prop where
 obj:∃ oc od cd sl,h.get? C=some ⟨oc,od,.cls cd,sl⟩∧cd.hasDel=false∧cd.hasDict=true∧cd.mro.isEmpty=false
 made:Looks M h (Bind.madeBy (.ref C)) (some "Exception.__new__")
 base:Looks M h (Bind.staticBase (.ref C)) (.ref C)
 self:Looks M h (isSubtype (.ref C) (.ref C)) true
 exc:Looks M h (isSubtype (.ref C) (.type "Exception")) true
 att:Looks M h (isSubtype (.ref C) (.type "AttributeError")) false
 nam:Looks M h (isSubtype (.ref C) (.type "NameError")) false
 call:Looks M h (specialOf (.ref C) "__call__") (some (.builtin "type.__call__"))
 typ:Looks M h (isInstance (.ref C) (.type "type")) true
set_option tactic.hygienic true in
theorem excC_of {K:Frag}{M:Model}{h:Heap}(X:K.In h) {C L:Addr}(e:tX K C L=true):ExcC M h C:=by
 unfold tX at e
 split at e
 ·rename_i oc od cd sl ho
  simp only [Bool.and_eq_true,Bool.not_eq_true',beq_iff_eq] at e
  obtain ⟨⟨⟨⟨⟨e1,e2⟩,e2'⟩,e3⟩,e7⟩,e8⟩:=e
  have hc:clsIn K C=some cd:=by unfold clsIn;rw [ho]
  have ne:cd.mro.isEmpty=false:=by rw [e1];rfl
  have hm:Looks M h (mroOf (.ref C)) cd.mro:=(looks_clsIn X hc).andThen .now
  have sub:∀ b r,(fZ C L).contains b=r→Looks M h (isSubtype (.ref C) b) r:=fun b r hr=>looks_mroIn X (by
   unfold mroIn;rw [hc,Option.bind_some,if_neg (by rw [ne];decide),e1,hr])
  have made:Looks M h (Bind.madeBy (.ref C)) (some "Exception.__new__"):=by
   intro A Q E s k q
   unfold Bind.madeBy
   refine wpAny_bind (hm A _ E s k ?_)
   refine Eq.symm (e1)▸?_
   unfold fZ
   rw [List.forIn_cons]
   refine wpAny_bind (wpAny_bind (wpAny_bind (wpAny_bind (wpAny_loadPart (k _ _ (X _ _ ho)) (wpAny_pure ?_)))))
   rw [←Array.getElem?_toList,e3]
   exact wpAny_pure (wpAny_pure (wpAny_pure q))
  refine ⟨(I44 oc od cd sl (X _ _ ho) e2 e2' ne),made,?_,sub _ _ (by first|rfl|simp [fZ]),sub _ _ (by first|rfl|simp [fZ]),sub _ _ (by first|rfl|simp [fZ]),sub _ _ (by first|rfl|simp [fZ]),looks_specialIn X e7,looks_instIn X e8⟩
  intro A Q E s k q
  unfold Bind.staticBase
  refine wpAny_bind (hm A _ E s k ?_)
  refine Eq.symm (e1)▸?_
  unfold fZ
  rw [List.forIn_cons]
  exact wpAny_bind (wpAny_bind (wpAny_bind (made A _ E s k (wpAny_pure (wpAny_pure (wpAny_pure q))))))
 ·cases e
abbrev cT (rest:List Value):Obj:={ cls:=.type "tuple",data:=.seq rest.toArray }
abbrev cY (C t:Addr):Obj:={ cls:=.ref C,data:=.fields #[.ref t,.none,.none,.none,.bool false,.none] }
section
variable {prog:Program}{w:World}{A:Around}{K:Frag}{C:Addr}{R:Result→Shared→Prop}{h:Heap}{g:Array GenState}{d:Drawn}{t:Nat}{os:OsState}
theorem exc_new {rest:List Value}(Y:ExcC (model prog w) h C)
  (hq:R (.ok (.ret (.ref (h.objs.size+1)))) ⟨(h.push (cT rest)).push (cY C h.objs.size),g,d,t,os⟩) (hrest:rest.length≤sizeLine) :
  codeAny (model prog w) A (.call (.builtin "Exception.__new__") ⟨.ref C::rest,[]⟩) R ⟨h,g,d,t,os⟩:=by
 refine hC fun hG=>?_
 obtain ⟨⟨oc,od,cd,sl,hC,e1,e2,e4⟩,made,base,self,exc,att,nam,call,typ⟩:=Y<;>(refine hG ?_;clear hG)
 have Fn:=PySem.F.excBase_Exception
 refine codeAny_call_builtin_code (Code.quiet_builtin _ Fn.quiet) ?_
 simp only [checkBuiltinCall,Fn.newKind,Fn.newSplit,Fn.newRow]
 have args:Bind.checkArgs "Exception.__new__" ⟨.any,"Exception","Exception",.cls,[⟨"args",.varPos,false⟩,⟨"kwargs",.varKw,false⟩]⟩ ⟨.ref C::rest,[]⟩=pure ():=by kernel_rfl
 refine Eq.symm (args)▸?_
 repeat (first|simp only [bne_self_eq_false,Bool.false_eq_true,if_false] | lk)
 refine codeAny_builtinAt Fn.entry ?_
 have hends:=Fn.ends
 have howner:=Fn.owner
 unfold Builtin.«BaseException.__new__»
 refine PySem.wpAt_bind ?_
 refine PySem.wpAt_bind (PySem.wpAt_stack fun p below=>PySem.wpAt_of_wpAny ?_)
 show wpAny _ _ (ite ("Exception.__new__".endsWith ".__new__"=true) (pure _) _) _ _ _
 rw [if_pos hends,howner]
 refine wpAny_pure (PySem.wpAt_of_wpAny ?_)
 repeat (first|simp only [Bool.false_eq_true,if_false,Bool.not_true] | lk)
 rw [if_neg (by rw [List.size_toArray];exact Nat.not_lt_of_le hrest)]
 repeat lk
 refine wpAny_load (Heap.get?_push_of_some _ (Heap.get?_push_of_some _ hC)) (wpAny_pure ?_)
 refine Eq.symm (e1)▸?_
 refine wpAny_pure (wpAny_pure ?_)
 show R _ _
 rw [Heap.size_push]
 exact hq
theorem Iz {rest:List Value}{init:Value}(Y:ExcC (model prog w) h C) (hi:Looks (model prog w) h (typeLookup (.ref C) "__init__") (some init))
  (hb:∀ self,Looks (model prog w) h (bindSpecial init self) (init,[self])) (hrest:rest.length≤sizeLine)
  (hq:codeAny (model prog w) (A.under (.builtin "type.__call__" ⟨.ref C::rest,[]⟩)) (.call init ⟨.ref (h.objs.size+1)::rest,[]⟩) (InitBack (h.objs.size+1) R) ⟨(h.push (cT rest)).push (cY C h.objs.size),g,d,t,os⟩) :
  codeAny (model prog w) A (.call (.ref C) ⟨rest,[]⟩) R ⟨h,g,d,t,os⟩:=by
 have Y':=Y
 obtain ⟨⟨oc,od,cd,sl,hC,e1,e2,e4⟩,made,base,self,exc,att,nam,call,typ⟩:=Y
 refine codeAny_of_tree ?_
 show wpAny _ _ (callAny (.ref C) _) _ _ _
 refine nd_load hC ?_
 show wpAny _ _ (callAny.viaDunder (.ref C) _) _ _ _
 unfold callAny.viaDunder
 refine wpAny_bind (call.at ?_)
 dsimp only
 rw [tc_bind]
 refine wpAny_bind (wpAny_pure (wpAny_bind (wpAny_pure ?_)))
 refine wpAny_pure (a:=Fin.again (.call (.builtin "type.__call__") ⟨.ref C::rest,[]⟩)) (And.intro rfl ?_)
 refine codeAny_call_builtin_at (Code.quiet_builtin _ (by decide +kernel)) entry_typeCall (check_slot tc_kind tc_split typ (tc_args _ _ _) ?_)
 unfold Builtin.«type.__call__»
 have hm:Looks (model prog w) h (mroOf (.ref C)) cd.mro:=((Looks.ld (part:=none) hC).andThen .now).andThen .now
 repeat (first|simp only [e4,Bool.false_eq_true,if_false] | with_reducible refine wpAny_call ?_|lk)
 refine exc_new Y' ?_ hrest
 have k:∀ b o,h.get? b=some o→((h.push (cT rest)).push (cY C h.objs.size)).get? b=some o:=fun b o e=>Heap.get?_push_of_some _ (Heap.get?_push_of_some _ e)
 have hx:((h.push (cT rest)).push (cY C h.objs.size)).get? (h.objs.size+1)=some (cY C h.objs.size):=by heap_get
 have t1:Looks (model prog w) ((h.push (cT rest)).push (cY C h.objs.size)) (typeOf (.ref (h.objs.size+1))) (.ref C):=(Looks.ld hx).andThen .now
 have s1:=self.keeps k
 have i1:=hi.keeps k
 have b1:=(hb (.ref (h.objs.size+1))).keeps k
 unfold isInstance callSpecial? specialOf
 repeat (first|with_reducible refine wpAny_call ?_|lk)
 refine codeAny_mono hq fun r s' z=>?_
 rcases r with e|(v|_|_|_)<;>first|exact z|exact z.elim|skip
 obtain ⟨rfl,z⟩:=z
 exact wpAny_pure (wpAny_pure z)
end
end Mine.Internal
end
noncomputable section
open Builtin Builtin.ObjectAttr
set_option maxRecDepth 100000
set_option maxHeartbeats 4000000
namespace Mine.Internal
section
variable {prog:Program}{w:World}{A:Around}{K:Frag}{C L x:Addr}{R:Result→Shared→Prop}{h:Heap}{g:Array GenState}{d:Drawn}{t:Nat}{os:OsState}{E:Value→Shared→Prop}
variable {mA:Str→Option Value}{name:Str}{v:Value}
structure ExcM (K:Frag) (C L:Addr):Prop where
 cls:∃ oc od cd sl,K.lookup C=some ⟨oc,od,.cls cd,sl⟩∧cd.mro=fZ C L∧cd.hasDict=true
set_option tactic.hygienic true in
theorem excM_of {K:Frag}{C L:Addr}(e:tX K C L=true):ExcM K C L:=by
 unfold tX at e
 split at e
 ·rename_i oc od cd sl ho
  simp only [Bool.and_eq_true,Bool.not_eq_true',beq_iff_eq] at e
  obtain ⟨⟨⟨⟨⟨e1,e2⟩,e2'⟩,e3⟩,e7⟩,e8⟩:=e
  exact ⟨oc,od,cd,sl,ho,e1,e2'⟩
 ·cases e
theorem Gl {tk:Tok}(X:K.In h) (Y:ExcM K C L) (ht:takerIn K C name=some none) (I:h.Inst x C mA) {ns:List Str}(hw:Within mA ns) (hsz:ns.length≤100)
  (hq:∀ h' tk',h'.Inst x C (fun y=>if y=name then some v else mA y) →
   (∀ b o,b≠x→(∀ o₀ dx,h.get? x=some o₀→o₀.dict=some dx→b≠dx)→h.get? b=some o→h'.get? b=some o) →
   (∀ o₀,h.get? x=some o₀→∃ o₁,h'.get? x=some o₁∧o₁.cls=o₀.cls∧o₁.data=o₀.data∧o₁.slots=o₀.slots)→(∀ o₀ dx,h.get? x=some o₀→o₀.dict=some dx→∀ o₁,h'.get? x=some o₁→o₁.dict=some dx) →
   (∀ o₀,h.get? x=some o₀→o₀.dict=none→∀ o₁ dx,h'.get? x=some o₁→o₁.dict=some dx→h.get? dx=none)→R (.ok (.ret .none)) ⟨h',g,d,tk',os⟩) :
  codeAny (model prog w) A (.call (.builtin "object.__setattr__") ⟨[.ref x,.str name tk,v],[]⟩) R ⟨h,g,d,t,os⟩:=by
 refine X14 I fun o hx hc hnc hd=>?_
 refine hC fun hG=>?_
 obtain ⟨oc,od,cd,sl,hK,hm1,hm2⟩:=Y<;>(refine hG ?_;clear hG)
 have SF:=PySem.F.store_object
 have hcl:clsIn K C=some cd:=by unfold clsIn;rw [hK]
 have ne:cd.mro.isEmpty=false:=by rw [hm1];rfl
 have typ:Looks (model prog w) h (typeOf (.ref x)) (.ref C):=hc▸(Looks.ld hx).andThen .now
 have sub:Looks (model prog w) h (isInstance (.ref x) (.type "object")) true:=typ.andThen (looks_mroIn X (by unfold mroIn;rw [hcl,Option.bind_some,if_neg (by rw [ne];decide),hm1];first|rfl|simp [fZ]))
 refine codeAny_call_builtin SF.slot.plain SF.entry (@check_slot (model prog w) _ _ ⟨h,g,d,t,os⟩ "object.__setattr__" "object" "__setattr__" (.ref x) [.str name tk,v] [] _ SF.kind SF.split sub (SF.args (.ref x) (.str name tk) v) ?_)
 refine X12 (Option.bind_eq_some_iff.mp ht) fun attr ha hr=>?_
 have hm:Looks (model prog w) h (mroOf (.ref C)) (fZ C L):=hm1▸(looks_clsIn X hcl).andThen .now
 have L3:Looks (model prog w) h (storeTaker? attr) none:=by
  cases attr with
  | none=>exact .now
  | some a=>
   refine X12 (Option.map_eq_some_iff.mp hr) fun b hb q=>?_
   refine (looks_takesIn X hb).andThen ?_
   cases b with
   | false=>exact .now
   | true=>cases q
 rw [osa_eq,refuse_eq]
 refine wpAny_bind (wpAny_bind (typ.at (wpAny_bind (hm.at ?_))))
 unfold fZ
 rw [refuseLoop_ref,refuseLoop_ref,PySem.F.store_Exception.passes]
 refine wpAny_pure (wpAny_bind (typ.at (wpAny_bind ((looks_findIn X ha).at (wpAny_bind (L3.at ?_))))))
 refine hC fun hG=>?_
 obtain ⟨oc',odi,oda,osl⟩:=o<;>(refine hG ?_;clear hG)
 dsimp only at hc hd hnc
 subst hc
 have hcd:=looks_clsIn (M:=model prog w) X hcl
 refine wpAny_bind (wpAny_pure (wpAny_bind (wpAny_bind (wpAny_loadPart hx (wpAny_bind (hcd.at ?_))))))
 refine Eq.symm (hm2)▸?_
 rcases hd with ⟨rfl,hmA⟩|⟨dx,rfl,hne,hns⟩
 ·have body:wpAny (model prog w) A.in1 (alloc { cls:=.type "dict",data:=.dict #[] } >>= fun d=>update x (fun o=>{ o with dict:=some d }) >>= fun J=>dictMade (.ref C) x d) (fun r s'=>wpAny (model prog w) A.in1 (match r with|some d=>storeInDict d (.str name tk) name v|none=>noDictFor (.ref x) (.ref C) name attr.isSome)
    (fun fin s'=>match fin with | .done f=>R (.ok f) s' | .again c'=>c'.quiet=true∧codeAny (model prog w) A c' R s') (fun e s'=>R (.error e) s') s') (fun e s'=>R (.error e) s') ⟨h,g,d,t,os⟩:=by
   have hx₁:(h.push { cls:=.type "dict",data:=.dict #[] }).get? x=some ⟨.ref C,none,oda,osl⟩:=Heap.get?_push_of_some _ hx
   have hxs:x≠h.objs.size:=Nat.ne_of_lt (Heap.lt_size hx)
   refine wpAny_bind (wpAny_alloc ?_)
   refine wpAny_bind (wpAny_update' hx₁ ?_)
   refine wpAny_pure ?_
   have hgd:((h.push { cls:=.type "dict",data:=.dict #[] }).update x fun o=>{ cls:=o.cls,dict:=some h.objs.size,data:=o.data,slots:=o.slots }).get? h.objs.size
     = some { cls:=.type "dict",data:=.dict #[] }:=
    (Heap.get?_update_ne _ _ _ _ hxs.symm).trans (Heap.get?_push_at rfl rfl)
   have hnd:((h.push { cls:=.type "dict",data:=.dict #[] }).update x fun o=>{ cls:=o.cls,dict:=some h.objs.size,data:=o.data,slots:=o.slots }).Ns h.objs.size (fun J=>none):=
    (I34 _ (#[]) _ hgd rfl (fun e he=>absurd he (by simp)) (fun J=>rfl))
   show wpAny _ _ (storeInDict h.objs.size (.str name tk) name v) _ _ _
   unfold storeInDict newKeyGuard
   refine wpAny_bind (wpAny_pure (wpAny_bind (wpAny_nsSet1 (Heap.Ns1.of_empty hnd) fun h' hn' hs=>?_)))
   refine X33 (hn'.count (Within.cons name v Within.nil)) fun oD esD epD hoD hdD hcD=>?_
   refine wpAny_bind (wpAny_lookBehind hoD (by rw [hdD];exact pastItsLine_dict (Nat.le_trans hcD (by rw [List.length_cons,List.length_nil,sizeLine_eq];decide))) ?_)
   refine wpAny_pure ?_
   have hx':h'.get? x=some { cls:=.ref C,dict:=some h.objs.size,data:=oda,slots:=osl }:=by
    refine (hs.2 x hxs).trans (Heap.get?_update_self _ hx₁ ?_)
    have hfr:=(Heap.get?_some_iff.mp hx).2
    clear hnd hgd hx₁ hcd L3 hm hr ha
    cases oda<;>first|rfl|exact hfr
   refine hq h' _ (I14 _ hx' rfl hnc (.inr (I13 (h.objs.size) rfl (hxs.symm) (?_)))) (fun b ob hbx J hb=>?_)
    (fun o₀ h₀=>by rw [hx] at h₀;cases h₀;exact (I14 _ hx' rfl rfl rfl)) (fun o₀ dx h₀ e=>by rw [hx] at h₀;cases h₀;cases e) (fun o₀ h₀ J o₁ dx e1 e2=>by rw [hx'] at e1;cases e1;cases e2;exact dU h)
   ·refine X35 hn' fun o' es ep e1 e2 e3 eu e4=>?_
    exact I35 o' es ep e1 e2 e3 eu (fun y=>by rw [e4 y];by_cases hy:y=name<;>simp [hy,hmA])
   ·exact (hs.2 b (Nat.ne_of_lt (Heap.lt_size hb))).trans ((Heap.get?_update_ne _ _ _ _ hbx).trans (Heap.get?_push_of_some _ hb))
  cases oda<;>first|exact absurd rfl (hnc _)|exact body
 ·refine wpAny_pure (a:=some dx) ?_
  show wpAny _ _ (storeInDict dx (.str name tk) name v) _ _ _
  unfold storeInDict newKeyGuard
  refine wpAny_bind (wpAny_pure (wpAny_bind (wpAny_nsSet1 hns fun h' hn' hs=>?_)))
  refine X33 (hn'.count (Within.cons name v hw)) fun oD esD epD hoD hdD hcD=>?_
  refine wpAny_bind (wpAny_lookBehind hoD (by rw [hdD];exact pastItsLine_dict (Nat.le_trans hcD (by rw [List.length_cons,sizeLine_eq];exact Nat.lt_of_le_of_lt hsz (Nat.le_of_ble_eq_true rfl)))) ?_)
  refine wpAny_pure ?_
  have hx':=(hs.2 x hne.symm).trans hx
  exact hq h' _ (I14 _ hx' rfl hnc (.inr (I13 dx rfl hne hn'))) (fun b ob J hbd hb=>(hs.2 b (hbd _ dx hx rfl)).trans hb)
   (fun o₀ h₀=>(I14 o₀ ((hs.2 x hne.symm).trans h₀) rfl rfl rfl)) (fun o₀ dx' h₀ e o₁ h₁=>by rw [hx] at h₀;cases h₀;rw [hx'] at h₁;cases h₁;exact e) (fun o₀ h₀ e=>by rw [hx] at h₀;cases h₀;cases e)
end
end Mine.Internal
end
noncomputable section
open Builtin Builtin.ObjectAttr
set_option maxRecDepth 100000
set_option maxHeartbeats 4000000
namespace Mine.Internal
section
variable {prog:Program}{w:World}{A:Around}{K:Frag}{C L x:Addr}{R:Result→Shared→Prop}{h:Heap}{g:Array GenState}{d:Drawn}{t:Nat}{os:OsState}{E:Value→Shared→Prop}
theorem sZ {t0:Addr}{m:Value}(Y:ExcC (model prog w) h C) (hx:h.get? x=some (cY C t0))
  (hq:R (.ok (.ret .none)) ⟨(h.push (cT [m])).update x (Obj.mapFields (·.setIfInBounds 0 (.ref h.objs.size))),g,d,t,os⟩) :
  codeAny (model prog w) A (.call (.builtin "Exception.__init__") ⟨[.ref x,m],[]⟩) R ⟨h,g,d,t,os⟩:=by
 have F:=PySem.F.excBase_Exception
 have typ:Looks (model prog w) h (typeOf (.ref x)) (.ref C):=(Looks.ld hx).andThen .now
 have inst:Looks (model prog w) h (isInstance (.ref x) (.type "Exception")) true:=typ.andThen Y.exc
 refine codeAny_call_builtin F.init.plain F.initEntry ?_
 refine wpAny_bind (inst.at ?_)
 refine hC fun hG=>?_
 obtain ⟨⟨oc,od,cd,sl,hC,e1,e2,e4⟩,made,base,self,exc,att,nam,call,typ'⟩:=Y<;>(refine hG ?_;clear hG)
 unfold Bind.checkArgs
 repeat lk
 have hx':(h.push (cT [m])).get? x=some (cY C t0):=Heap.get?_push_of_some _ hx
 refine wpAny_load hx' (wpAny_pure ?_)
 refine wpAny_pure ?_
 refine wpAny_bind (wpAny_setField hx' rfl (Nat.le_of_ble_eq_true rfl) ?_)
 refine wpAny_letGo ?_
 exact wpAny_pure hq
end
end Mine.Internal
end
noncomputable section
open Builtin Builtin.ObjectAttr
set_option maxRecDepth 100000
set_option maxHeartbeats 4000000
namespace Mine.Internal
section
variable {prog:Program}{w:World}{A:Around}{K:Frag}{C x:Addr}{s:Shared}{E:Value→Shared→Prop}
theorem vW {pl:Sem Bool}{Q:Value×List Value→Shared→Prop}(h:Q (.builtin "Exception.__init__",[]) { s with toks:=s.toks+1 }):wpAny (model prog w) A (getMethod (.type "Exception") "__init__" pl) Q E s:=by
 have X:Frag.In [] s.heap:=fun J J e=>nomatch e
 have hs:Manifest.isStub "Exception"=false:=by decide +kernel
 have e:findCls [] (.type "Exception") (.type "type") "__init__"=some (.val (.builtin "Exception.__init__")):=by kernel_rfl
 have ht:typeOf (.type "Exception")=pure (.type "type"):=by kernel_rfl
 have hstub:opaqueClassAbove (.type "Exception")=pure none:=by unfold opaqueClassAbove;dsimp only;rw [hs];rfl
 have L0:Looks (model prog w) s.heap (typeOf (.type "Exception")) (.type "type"):=Looks.of_pure ht
 have hg:findIn [] (.type "type") "__getattribute__"=some (some (.builtin "type.__getattribute__")):=type_tga
 unfold getMethod specialOf
 refine wpAny_bind (wpAny_bind (L0.here ((looks_findIn X hg).here ?_)))
 dsimp only
 refine Eq.symm (if_pos canon_tga)▸?_
 refine wpAny_bind (wpAny_mono (Q:=fun v=>Q (v,[])) (E:=E) ?_ (fun J J z=>wpAny_pure z) fun J J z=>z)
 have LO:Looks (model prog w) s.heap (opaqueClassAbove (.type "Exception")) none:=Looks.of_pure hstub
 refine cls_open X LO L0 hg (looks_hook X (r:=none) (by rfl)) (by show subIn [] _ _=_;rfl) e
  (wpAny_pure (by show wpAny _ _ (handedOut _) _ _ _;rw [handedOut_of (v:=.builtin "Exception.__init__") (by decide +kernel)];exact wpAny_pure h))
theorem Dr {v:Value}{e:Expr}{pos:Pos}{Z:Flow→Shared→Prop}{X:Value→Shared→Prop}(h:Z .next s):wpAny (model prog w) A (dropValue e pos v) Z X s:=by
 have p:wpAny (model prog w) A (pure Flow.next) Z X s:=wpAny_pure h
 have b:wpAny (model prog w) A (do standAt pos;let _ ←runValue (.builtin "proto.let_go" {});pure Flow.next) Z X s:=wpAny_bind (wpAny_standAt (wpAny_bind (wpAny_runValue (codeAny_builtin entry_let_go (show wpAny _ _ (ret .none) _ _ s from wpAny_pure p)))))
 have go:∀ e',dropValue e' pos v=dropValue (.Constant .none 0 default) pos v→wpAny (model prog w) A (dropValue e' pos v) Z X s:=fun e' h=>by
  refine Eq.symm (h)▸?_
  cases v<;>first|exact p|exact b
 cases e<;>first|exact p|exact go _ (by kernel_rfl)
end
section
variable {prog:Program}{w:World}{A:Around}{K:Frag}{G:Addr}{h:Heap}{g:Array GenState}{d:Drawn}{t:Nat}{os:OsState}{E:Value→Shared→Prop}{mg mb:Str→Option Value}
theorem rM {M:Model}{C:Addr}(Y:ExcC M h C) {h':Heap}(k:∀ b o,h.get? b=some o→h'.get? b=some o):ExcC M h' C:=
 ⟨X44 Y.obj fun oc od cd sl hC e1 e2 e4=>I44 oc od cd sl (k _ _ hC) e1 e2 e4,Y.made.keeps k,Y.base.keeps k,Y.self.keeps k,Y.exc.keeps k,Y.att.keeps k,Y.nam.keeps k,Y.call.keeps k,Y.typ.keeps k⟩
theorem Cw {x:Addr}{s:Shared}{name:Str}{v:Value}{Q:Unit→Shared→Prop}(X:K.In s.heap) (ht:Looks (model prog w) s.heap (typeOf (.ref x)) (.ref G))
  (hs:findIn K (.ref G) "__setattr__"=some (some (.builtin "object.__setattr__")))
  (h:codeAny (model prog w) A (.call (.builtin "object.__setattr__") ⟨[.ref x,.str name s.toks,v],[]⟩) (fun r s'=>match r with | .ok (.ret _)=>Q () s' | .ok _=>False | .error e=>E e s') { s with toks:=s.toks+1 }) :
  wpAny (model prog w) A (setAttr (.ref x) name v) Q E s:=by
 refine wpAny_bind (wpAny_mkText (wpAny_bind (wpAny_bind (wpAny_bind (ht _ _ _ _ (fun J J e=>e) (looks_findIn X hs _ _ _ _ (fun J J e=>e) (wpAny_holding ?_)))))))
 rw [PySem.F.store_object.slot.bind]
 refine wpAny_bind (wpAny_pure (wpAny_bind (wpAny_call (codeAny_mono h fun r s' z=>?_))))
 rcases r with e|(v|_|_|_)<;>first|exact z|exact wpAny_pure (wpAny_pure z)
structure XSt (K:Frag) (G:Nat) (h₀:Heap) (e L:Addr) (mm:Str→Option Value) (mA:Str→Option Value) (h:Heap):Prop where
 keep:∀ b o,h₀.get? b=some o→h.get? b=some o
 new:h₀.get? e=none
 ns:h.Ns L mm
 ne:L≠e
 inst:h.Inst e G mA
 obj:∃ t dd,h.get? e=some { cls:=.ref G,dict:=dd,data:=.fields #[.ref t,.none,.none,.none,.bool false,.none] }∧(∀ d,dd=some d→h₀.get? d=none∧d≠L)
theorem XSt.store {h₀:Heap}{e L:Addr}{mm mA:Str→Option Value}{name:Str}{v:Value}{tk:Tok}{R:Result→Shared→Prop}{ns:List Str}{L':Nat}(X0:K.In h₀) (T:XSt K G h₀ e L mm mA h) (Y:ExcM K G L') (ht:takerIn K G name=some none) (hw:Within mA ns) (hsz:ns.length≤100)
  (hq:∀ h' tk',XSt K G h₀ e L mm (fun y=>if y=name then some v else mA y) h'→R (.ok (.ret .none)) ⟨h',g,d,tk',os⟩) :
  codeAny (model prog w) A (.call (.builtin "object.__setattr__") ⟨[.ref e,.str name tk,v],[]⟩) R ⟨h,g,d,t,os⟩:=by
 refine hC fun hG=>?_
 obtain ⟨k,n,hns,ne,hi,⟨t0,dd,ho,hdd⟩⟩:=T<;>(refine hG ?_;clear hG)
 refine Gl (fun a o e=>k _ _ (X0 a o e)) Y ht hi hw hsz fun h' tk' I' kp ob dk dn=>hq h' tk' ⟨fun b o hb=>?_,n,?_,ne,I',?_⟩
 ·refine kp b o (fun q=>by rw [q,n] at hb;cases hb) (fun o₀ dx h1 h2 q=>?_) (k b o hb)
  rw [ho] at h1;cases h1
  have:=(hdd dx h2).1
  rw [q,this] at hb;cases hb
 ·refine X32 hns fun o es ep ho' r=>?_
  refine I32 o es ep (kp L o ne (fun o₀ dx h1 h2 q=>?_) ho') r
  rw [ho] at h1;cases h1
  exact (hdd dx h2).2 q.symm
 ·refine X14 (ob _ ho) fun o₁ h1 c1 d1 s1=>?_
  obtain ⟨oc,od,oda,osl⟩:=o₁
  dsimp only at c1 d1 s1
  subst c1 d1 s1
  refine I22 t0 od h1 (fun dx hd=>?_)
  cases hdo:dd with
  | none=>
   have:=dn _ ho hdo _ dx h1 hd
   refine ⟨?_,fun q=>?_⟩
   ·cases q:h₀.get? dx with
    | none=>rfl
    | some o=>rw [k _ _ q] at this;cases this
   ·refine X32 hns fun o es ep ho' r=>?_
    rw [q] at this;rw [this] at ho';cases ho'
  | some d0=>
   have:=dk _ d0 ho hdo _ h1
   have this:od=some d0:=this
   rw [hd] at this;cases this
   exact hdd dx hdo
end
end Mine.Internal
end
noncomputable section
open Builtin Builtin.ObjectAttr
set_option maxRecDepth 100000
set_option maxHeartbeats 4000000
namespace Mine.Internal
section
variable {prog:Program}{w:World}{A:Around}{K:Frag}{G:Addr}{s:Shared}{E:Value→Shared→Prop}{mg mb:Str→Option Value}
theorem XSt.init {h₀ h:Heap}{e L:Addr}{mm:Str→Option Value}{m:Value}{t0:Addr}(T:XSt K G h₀ e L mm (fun J=>none) h) (hx:h.get? e=some (cY G t0)) :
  XSt K G h₀ e L mm (fun J=>none) ((h.push (cT [m])).update e (Obj.mapFields (·.setIfInBounds 0 (.ref h.objs.size)))):=by
 have hp:(h.push (cT [m])).get? e=some (cY G t0):=Heap.get?_push_of_some _ hx
 have hx':((h.push (cT [m])).update e (Obj.mapFields (·.setIfInBounds 0 (.ref h.objs.size)))).get? e=some (cY G h.objs.size):=Heap.get?_update_self _ hp rfl
 have oth:∀ b o,b≠e→h.get? b=some o→((h.push (cT [m])).update e (Obj.mapFields (·.setIfInBounds 0 (.ref h.objs.size)))).get? b=some o:=fun b o hb ho=>
  (Heap.get?_update_other _ _ (Ne.symm hb)).trans (Heap.get?_push_of_some _ ho)
 refine X32 (T.ns) fun o es ep ho' r=>?_
 exact ⟨fun b o hb=>oth b o (fun q=>by rw [q,T.new] at hb;cases hb) (T.keep b o hb),T.new,(I32 o es ep (oth _ _ T.ne ho') r),T.ne,(I14 _ hx' rfl (fun c q=>nomatch q) (.inl ⟨rfl,fun J=>rfl⟩)),(I22 _ none hx' (fun d q=>nomatch q))⟩
theorem Ja {m sp:Value}{Q:Value→Shared→Prop}(X:K.In s.heap) (P:GOk K G mg mb) (hg:s.heap.Ns mainGlobals mg) (hbn:s.heap.Ns builtinsNs mb) (hlim:s.heap.NoLimit) (hd:A.depth+4≤999)
  (hq:∀ h' tk' e,(∀ b o,s.heap.get? b=some o→h'.get? b=some o)→s.heap.get? e=none→(∃ t dd,h'.get? e=some { cls:=.ref G,dict:=dd,data:=.fields #[.ref t,.none,.none,.none,.bool false,.none] })→Q (.ref e) { s with heap:=h',toks:=tk' }) :
  wpAny (model prog w) A (call (.ref G) [m,sp]) Q E s:=by
 refine hC fun hG=>?_
 obtain ⟨hh,g,d,t,os⟩:=s
 obtain ⟨⟨L',hexc⟩,⟨fi,hi,hf,oc,od,osl,params,dV,kV,doc,pm,an,cdv,ct,ho,hcd,hbind⟩,sett,tkM,tkS,nmg,nmb⟩:=P
 refine hG ?_;clear hG
 dsimp only at X hg hbn hlim hq
 have Y:=excC_of (M:=model prog w) X hexc
 have YM:=excM_of hexc
 refine wpAny_call ?_
 refine Iz Y (looks_findIn X hi) (fun self=>bind_fn X self hf) (by rw [sizeLine_eq];simp) ?_
 have k2:∀ b o,hh.get? b=some o→((hh.push (cT [m,sp])).push (cY G hh.objs.size)).get? b=some o:=fun b o e=>Heap.get?_push_of_some _ (Heap.get?_push_of_some _ e)
 have X2:K.In ((hh.push (cT [m,sp])).push (cY G hh.objs.size)):=fun a o e=>k2 _ _ (X a o e)
 have hx2:((hh.push (cT [m,sp])).push (cY G hh.objs.size)).get? (hh.objs.size+1)=some (cY G hh.objs.size):=by heap_get
 have hsz2:((hh.push (cT [m,sp])).push (cY G hh.objs.size)).objs.size=hh.objs.size+2:=by rw [Heap.size_push,Heap.size_push]
 generalize hH2:(hh.push (cT [m,sp])).push (cY G hh.objs.size)=H2 at *
 have hdep:(A.under (.builtin "type.__call__" ⟨.ref G::[m,sp],[]⟩)).depth<recursionLimit:=by
  have e:recursionLimit=1000:=rfl
  show A.depth+1<recursionLimit
  exact ar6 hd e
 refine codeAny_call_def (s:=⟨H2,g,d,t,os⟩) (fd:=fnOf "__init__" "LendError.__init__" params jU eD dV kV doc pm an cdv ct) (body:=jU) (binds:=[("self",.ref (hh.objs.size+1)),("message",m),("spot",sp)]) hdep (X2 _ _ ho) rfl (hlim.keeps k2) (codeRec_of X2 hcd) rfl (hbind _ _ _ _ X2) (by show ∀ x∈eD.names,x.2≠.cell;decide +kernel) (fun y hy=>?_) (fun h₀ hns hk=>?_)
 ·simp only [List.mem_cons,List.not_mem_nil,or_false] at hy
  rcases hy with rfl|rfl|rfl<;>rfl
 generalize hA:(A.under (.builtin "type.__call__" ⟨.ref G::[m,sp],[]⟩)).deeper (callEnv (fnOf "__init__" "LendError.__init__" params jU eD dV kV doc pm an cdv ct) H2.objs.size fi)=A'
 generalize hE:(fun e s'=>wpAny (model prog w) A' (leaving (callEnv (fnOf "__init__" "LendError.__init__" params jU eD dV kV doc pm an cdv ct) H2.objs.size fi) e) _ _ s')=E'
 have eK:(callEnv (fnOf "__init__" "LendError.__init__" params jU eD dV kV doc pm an cdv ct) H2.objs.size fi).scope=eD:=rfl
 have eL:(callEnv (fnOf "__init__" "LendError.__init__" params jU eD dV kV doc pm an cdv ct) H2.objs.size fi).locals=H2.objs.size:=rfl
 have eG:(callEnv (fnOf "__init__" "LendError.__init__" params jU eD dV kV doc pm an cdv ct) H2.objs.size fi).globals=mainGlobals:=rfl
 have eB:(callEnv (fnOf "__init__" "LendError.__init__" params jU eD dV kV doc pm an cdv ct) H2.objs.size fi).builtins=builtinsNs:=rfl
 generalize callEnv (fnOf "__init__" "LendError.__init__" params jU eD dV kV doc pm an cdv ct) H2.objs.size fi=env at *
 have kk:∀ x k,eD.names.lookup x=some k→env.kindOf x=some k:=fun x k e=>by unfold Env.kindOf;rw [eK];exact e
 have kf:env.scope.kind=.function:=by rw [eK];rfl
 rw [←eL] at hns
 dsimp only at hns hk ⊢
 have hK0:∀ b o,hh.get? b=some o→h₀.get? b=some o:=fun b o e=>hk b o (k2 b o e)
 have T0:XSt K G hh (hh.objs.size+1) env.locals (fun x=>([("self",Value.ref (hh.objs.size+1)),("message",m),("spot",sp)]:List (Str×Value)).reverse.lookup x) (fun J=>none) h₀:=by
  refine ⟨hK0,Heap.get?_none_of_le (Nat.le_succ _),hns,by rw [eL,hsz2];exact Nat.ne_of_gt (Nat.lt_succ_self _),(I14 _ (hk _ _ hx2) rfl (fun c q=>(nomatch q)) (.inl ⟨rfl,fun J=>rfl⟩)),(I22 _ none (hk _ _ hx2) (fun d q=>nomatch q))⟩
 have l1:(([("self",Value.ref (hh.objs.size+1)),("message",m),("spot",sp)]:List (Str×Value)).reverse.lookup ("self":Str))=some (.ref (hh.objs.size+1)):=by rfl
 have l2:(([("self",Value.ref (hh.objs.size+1)),("message",m),("spot",sp)]:List (Str×Value)).reverse.lookup ("message":Str))=some m:=by rfl
 have l3:(([("self",Value.ref (hh.objs.size+1)),("message",m),("spot",sp)]:List (Str×Value)).reverse.lookup ("spot":Str))=some sp:=by rfl
 refine wpAny_execs_cons ?_
 have hint:interactive env=false:=by unfold interactive;rw [kf];rfl
 rw [exec_Expr env _ _ hint rfl]
 have ag:dI [] ["self","message","spot"] [.var 0,.var 1] [.Name "self" ⟨5,27,5,31⟩,.Name "message" ⟨5,33,5,40⟩]=true:=by decide +kernel
 refine wpAny_bind (wpAny_standAt (wpAny_bind (sU ag (Nat.le_of_ble_eq_true rfl) rfl (rfl) ?_)))
 refine Name_function_global kf (kk _ _ rfl) (loadGlobal_builtin (mg:=mg) (mb:=mb) (by rw [eG];exact hg.keeps hK0) nmg (by rw [eB];exact hbn.keeps hK0) nmb fun pl=>?_)
 refine vW (kP ag ?_)
 show wpAny _ _ (spliced [(false,eval (.Name "self" ⟨5,27,5,31⟩) env),(false,eval (.Name "message" ⟨5,33,5,40⟩) env)]) _ _ _
 refine Calls.spliced_cons (wpAny_Name (wpAny_loadName_local kf (kk _ _ rfl) hns l1 ?_))
 refine Calls.spliced_cons (wpAny_Name (wpAny_loadName_local kf (kk _ _ rfl) hns l2 ?_))
 refine Calls.spliced_nil ?_
 refine wpAny_call (sZ (t0:=hh.objs.size) (rM Y hK0) (hk _ _ hx2) ?_)
 refine Dr ?_
 have T1:=T0.init (m:=m) (hk _ _ hx2)
 generalize (h₀.push (cT [m])).update (hh.objs.size+1) (Obj.mapFields (·.setIfInBounds 0 (.ref h₀.objs.size)))=h₁ at *
 have typ:∀ {h':Heap} {mA},XSt K G hh (hh.objs.size+1) env.locals (fun x=>([("self",Value.ref (hh.objs.size+1)),("message",m),("spot",sp)]:List (Str×Value)).reverse.lookup x) mA h'→Looks (model prog w) h' (typeOf (.ref (hh.objs.size+1))) (.ref G):=fun T=>by
  refine X22 (T.obj) fun t dd h1 J=>?_
  exact (Looks.ld h1).andThen .now
 refine wpAny_execs_cons (plainObj_wpAny_Assign_Attribute ?_ rfl)
 refine wpAny_Name (wpAny_loadName_local kf (kk _ _ rfl) T1.ns l2 ?_)
 refine wpAny_Name (wpAny_loadName_local kf (kk _ _ rfl) T1.ns l1 ?_)
 refine Cw (fun a o e=>T1.keep _ _ (X a o e)) (typ T1) sett ?_
 refine XSt.store (ns:=[]) X T1 YM tkM Within.nil (Nat.le_of_ble_eq_true rfl) fun h₂ tk₂ T2=>?_
 refine wpAny_execs_cons (plainObj_wpAny_Assign_Attribute ?_ rfl)
 refine wpAny_Name (wpAny_loadName_local kf (kk _ _ rfl) T2.ns l3 ?_)
 refine wpAny_Name (wpAny_loadName_local kf (kk _ _ rfl) T2.ns l1 ?_)
 refine Cw (fun a o e=>T2.keep _ _ (X a o e)) (typ T2) sett ?_
 refine XSt.store (ns:=["message"]) X T2 YM tkS (Within.cons _ _ Within.nil) (Nat.le_of_ble_eq_true rfl) fun h₃ tk₃ T3=>?_
 refine wpAny_execs_nil ?_
 refine X22 (T3.obj) fun t dd h1 J=>?_
 exact ⟨rfl,hq _ _ _ T3.keep T3.new (I21 t dd h1)⟩
end
end Mine.Internal
end
noncomputable section
namespace Mine.Internal
section
variable {C:Cx}{fs outer:List Env}{env:Env}{gs:List (Str×NameKind)}{ns:List Str}{m:LE}{H H' H₀:MH}{s s' s₀:Shared}{A:Around}{E:MH→Prop}{d:Nat}
noncomputable def ExcNew (C:Cx) (fs:List Env) (H:MH) (s₁:Shared) (e:Nat) (s:Shared):Prop:=
 aM fs H s₁ H s∧Inv C fs H s∧s₁.heap.get? e=none∧∃ t dd,s.heap.get? e=some { cls:=.ref C.G,dict:=dd,data:=.fields #[.ref t,.none,.none,.none,.bool false,.none] }
theorem Iy {vs:List Value}{l:List Nat}{k:Int}{X:Value→Shared→Prop}(O:fN C) (hd:A.depth+4≤999) (hu:A.units+50<cLine) (hfr:A.frames=some fs) (hh:A.handled=none) (I:Inv C fs H s) (nl:∀ b∈bH fs,H b=none) (hv:VRs C s.heap [.str l,.int k] vs) :
  wpAny (model C.prog C.w) A (call (.ref C.G) vs) (fun v s'=>∃ e,v=.ref e∧ExcNew C fs H s e s') X s:=by
 refine hC fun hG=>?_
 obtain ⟨v,r,rfl,⟨t,rfl⟩,v2,r2,rfl,⟨u,rfl⟩,rfl⟩:=hv<;>(refine hG ?_;clear hG)
 exact Ja (gZ O I) O.gk (O.g.keeps I.stays) (O.b.keeps I.stays) (O.nolimit.keeps I.stays) hd fun h' tk' e k n z=>X21 z fun t dd ho=>⟨e,rfl,aK k,aN I k,n,t,dd,ho⟩
theorem dQ {v:Expr}(h:jG v=false) (t:Option Expr) (l:Nat) (env:Env):swapsWith v t l env=pure false:=by
 cases v<;>first|rfl|cases h
theorem Fa {v:Expr}(h:jG v=false) (ts:List Expr) (l:Nat) (env:Env):swapsWithSole ts v l env=pure false:=by
 rcases ts with _|⟨t,_|⟨_,_⟩⟩<;>first|rfl|exact dQ h _ _ _
noncomputable def Tgt (C:Cx) (A:Around) (outer:List Env) (env:Env) (ns:List Str) (H₀:MH) (s₀:Shared) (bd:PV→LE→Option LE) (tgt:Expr):Prop:=
 ∀ {m m':LE} {H:MH} {s:Shared} {p:PV} {v:Value} {Z:Unit→Shared→Prop} {X:Value→Shared→Prop},aM (env::outer) H₀ s₀ H s→St C (env::outer) env ns m H s→VR C s.heap p v→bd p m=some m' →
  (∀ s',aM (env::outer) H₀ s₀ H s'→St C (env::outer) env ns m' H s'→(∀ q ys j it,dS C q ys j it s.heap→dS C q ys j it s'.heap)→Z () s')→wpAny (model C.prog C.w) A (assign tgt env v) Z X s
theorem Hm (B:Bt C A outer env d s₀) (hnd:ns.Nodup) {i:Nat}{y:Str}{p:Pos}(hi:ns[i]?=some y) (hl:env.kindOf y=some .local):Tgt C A outer env ns H₀ s₀ (bC [i] false) (.Name y p):=by
 intro m m' H s q v Z X S T hp hb k
 refine hC fun hG=>?_
 cases hb<;>(refine hG ?_;clear hG)
 exact wpAny_assign_Name (gP B.bd.kind B.base B.lnew hnd S T hi hl hp fun s' S' T' J J k3 J=>k s' S' T' k3)
theorem oG (B:Bt C A outer env d s₀) (hnd:ns.Nodup) {is:List Nat}{ts:List Expr}{k0:Nat}{p:Pos}(ha:jS env.scope ns is ts=true):Tgt C A outer env ns H₀ s₀ (bC is true) (.Tuple ts k0 p):=by
 intro m m' H s q v Z X S T hp hb k
 refine X05 (sM rfl ha) fun k1 k2 k3 k4 k5=>?_
 cases q with
 | tup ps=>
  have hb:(if ps.length≤100 then m.sets is ps else none)=some m':=hb
  split at hb
  ·refine hC fun hG=>?_
   obtain ⟨a,items,rfl,ht,hx⟩:=hp<;>(refine hG ?_;clear hG)
   have hl:=kG hb
   have la:=hx.length
   rw [Array.length_toList] at la
   refine assign_Tuple_tuple B.bd.hd ht (by rw [k4,la,hl]) k3 fun h' he=>?_
   have kp:∀ b o,s.heap.get? b=some o→h'.get? b=some o:=fun b o e=>he b o (Nat.ne_of_lt (Heap.lt_size e)) e
   refine Eq.symm (k2)▸?_
   have S':aM (env::outer) H₀ s₀ H { s with heap:=h' }:=S.trans (aK (tk:=s.toks) kp)
   have T':St C (env::outer) env ns m H { s with heap:=h' }:=T.step (aK (tk:=s.toks) kp) (aN (tk:=s.toks) T.inv kp)
   refine tI B.bd.kind B.base B.lnew hnd (by simp [k1]) (fun j i hj=>?_) S' T' (hx.keeps kp) hb fun s' S'' T'' k6=>k s' S'' T'' fun q ys j it h=>k6 _ _ _ _ (h.move fun b o e=>.inl (kp b o e))
   refine X23 (k5 j i hj) fun x px e1 e2 e3=>?_
   exact I24 x (assign (.Name x px) env) (by simp [e1]) e2 e3 (fun M A v Z X s h=>wpAny_assign_Name h)
  ·refine hC fun hG=>?_
   cases hb<;>(refine hG ?_;clear hG)
 | _=>cases hb
theorem Ik (T:St C fs env ns m H s) {p:PV}{xs:List PV}{i it:Nat}{tgt:Expr}{v:Value}{M:Model}{Z:Unit→Shared→Prop}{X:Value→Shared→Prop}(ix:dS C p xs i it s.heap) (h:Z () s):wpAny M A (letOwnedTupleGo tgt (.ref it) v) Z X s:=by
 have cls:∃ n o vs,s.heap.get? it=some o∧o.cls=.type n∧o.data=.fields vs∧["enumerate","zip","dict_itemiterator","dict_reverseitemiterator","odict_iterator","itertools.zip_longest","itertools.pairwise"].contains n=false:=by
  cases p with
  | tup ys=>
   refine hC fun hG=>?_
   obtain ⟨_,t,items,⟨o,h1,h2,h3⟩,_⟩:=ix<;>(refine hG ?_;clear hG)
   exact I34 _ o _ h1 h2 h3 (rfl)
  | rng n=>
   refine X05 ix fun J J J J h1=>?_
   exact I34 _ _ _ h1 rfl rfl (rfl)
  | lst a=>
   refine X13 ix fun o h1 h2 h3=>?_
   exact I34 _ o _ h1 h2 h3 (rfl)
  | _=>exact ix.elim
 refine X34 cls fun n o vs h1 h2 h3 h4=>?_
 have body:wpAny M A (letOwnedTupleGo (.Tuple [] 0 default) (.ref it) v) Z X s:=by
  obtain ⟨oc,od,oe,os⟩:=o
  cases v with
  | ref a=>
   refine wpAny_bind (wpAny_load h1 ?_)
   refine hC fun hG=>?_
   cases (h2:oc=_)
   cases (h3:oe=_)
   refine hG ?_;clear hG
   show wpAny M A (ite ((_&&_)=true) _ _) Z X s
   refine Eq.symm (h4)▸?_
   exact wpAny_pure h
  | _=>exact wpAny_pure h
 cases tgt<;>first|exact wpAny_pure h|exact body
end
end Mine.Internal
end
noncomputable section
namespace Mine.Internal
section
variable {C:Cx}{outer:List Env}{env:Env}{ns:List Str}{H H' H₀:MH}{s s' s₀:Shared}{A:Around}{E:MH→Prop}{d:Nat}
theorem Gb {M:World}{v:Value}{pr:Program}{e:Expr}{pos:Pos}{Z:Flow→Shared→Prop}{X:Value→Shared→Prop}(h:Z .next s):wpAny (model pr M) A (dropValue e pos v) Z X s:=by
 exact Dr h
theorem unhide {fs:List Env}{L:Nat}(S:aM fs H₀ s₀ H s) (l:s₀.heap.get? L=none) (S':aM fs H { s with heap:=s.heap.hide L } H' s'):aM fs H₀ s₀ H' s':=by
 refine ⟨fun b o e hn=>?_,fun b hb=>S'.mono b (S.mono b hb)⟩
 have hb:b≠L:=fun q=>by rw [q,l] at e;cases e
 refine hC fun hG=>?_
 obtain ⟨h1,e1|⟨m,sl,e1⟩⟩:=S.keep b o e hn<;>(refine hG ?_;clear hG)
 ·exact S'.keep b o ((Heap.hide_ne _ hb).trans e1) h1
 ·refine hC fun hG=>?_
  obtain ⟨h2,e2|⟨_,sl',e2⟩⟩:=S'.keep b _ ((Heap.hide_ne _ hb).trans e1) h1<;>(refine hG ?_;clear hG)
  ·exact ⟨h2,.inr ⟨m,sl,e2⟩⟩
  ·exact ⟨h2,.inr ⟨m,sl',e2⟩⟩
theorem dS.hid {fs:List Env}{ns:List Str}{m:LE}(T:St C fs env ns m H s) (S':aM fs H { s with heap:=s.heap.hide env.locals } H' s') {p:PV}{xs:List PV}{i it:Nat}(x:dS C p xs i it s.heap):dS C p xs i it s'.heap:=by
 refine X12 (T.loc) fun mm hn J=>?_
 refine X13 (Ns.notVal hn) fun oL e1 nv nf=>?_
 have hid:∀ b o,s.heap.get? b=some o→(∃ it n,o.cls=.type "tuple"∧o.data=.seq it n)∨(∃ vs,o.data=.fields vs)→(s.heap.hide env.locals).get? b=some o:=fun b o e h=>(Heap.hide_ne _ fun q=>by
  subst q
  have:some oL=some o:=e1.symm.trans e
  cases this
  rcases h with ⟨it,n,h1,h2⟩|⟨vs,h1⟩
  ·exact nv.1 h1 _ _ h2
  ·exact nf _ h1).trans e
 have kf:∀ b o vs,s.heap.get? b=some o→o.data=.fields vs→s'.heap.get? b=some o:=fun b o vs e hd=>by
  obtain ⟨_,e2|⟨q,_⟩⟩:=S'.keep b o (hid b o e (.inr ⟨vs,hd⟩)) (T.inv.none_of_fields e hd)
  ·exact e2
  ·obtain ⟨_,o',e',n'⟩:=T.inv.frames.mem q
   rw [e] at e';cases e';exact absurd hd (n' _)
 have kt:∀ a items,IsTup s.heap a items→IsTup s'.heap a items:=fun a items z=>X13 z fun o e hc z=>Exists.elim z fun n hd=>by
  obtain ⟨_,e2|⟨_,sl,e2⟩⟩:=S'.keep a o (hid a o e (.inl ⟨_,_,hc,hd⟩)) (T.inv.none_of e (by rw [hc];simp))
  ·exact ⟨_,e2,hc,n,hd⟩
  ·exact ⟨_,e2,hc,n,hd⟩
 have kr:∀ a x y z t u w,IsRange s.heap a x y z t u w→IsRange s'.heap a x y z t u w:=fun a x y z t u w e=>kf a _ _ e rfl
 cases p with
 | tup ys=>
  refine hC fun hG=>?_
  obtain ⟨e,t,items,⟨o,h1,h2,h3⟩,ht,hx⟩:=x<;>(refine hG ?_;clear hG)
  exact ⟨e,t,items,(I13 o (kf _ _ _ h1 h3) h2 h3),kt _ _ ht,VRs.of kt kr hx⟩
 | rng n=>
  refine X05 x fun a b c d e=>?_
  exact I05 a b c d (kf _ _ _ e rfl)
 | lst a=>
  refine X13 x fun o h1 h2 h3=>?_
  exact I13 o (kf _ _ _ h1 h3) h2 h3
 | _=>exact x.elim
theorem Iv (B:Bt C A outer env d s₀) (hnd:ns.Nodup) {bd:PV→LE→Option LE}{tgt:Expr}{body:List Stmt}{b:LE→MH→QS→Prop}{Q:QS}{p:PV}{xs:List PV}{it:Nat}{m:LE}
  (htgt:Tgt C A outer env ns H₀ s₀ bd tgt)
  (hbody:∀ {m H s R H₀ s₀},Bt C A outer env d s₀→aM (env::outer) H₀ s₀ H s→St C (env::outer) env ns m H s→b m H R→wpAny (model C.prog C.w) A (execs body env) (SG C (env::outer) env ns H₀ s₀ R) (FX C (env::outer) H₀ s₀ nope) s)
  (fI:s₀.heap.get? it=none) (bI:C.base.get? it=none) (S:aM (env::outer) H₀ s₀ H s) (T:St C (env::outer) env ns m H s) (ix:dS C p xs 0 it s.heap) (hk:kO p xs H)
  (h:cQ bd b (kO p xs) xs m H Q) {R:Result→Shared→Prop} (hR:∀ f s',SG C (env::outer) env ns H₀ s₀ Q f s'→R (.ok f) s') :
  codeAny (model C.prog C.w) A (.forLoop tgt (.ref it) body [] env) R s:=by
 refine codeAny_forLoop_any (fun k s₁=>∃ H₁ m₁ i,k=xs.length+1 - i∧i≤xs.length∧aM (env::outer) H₀ s₀ H₁ s₁∧St C (env::outer) env ns m₁ H₁ s₁∧dS C p xs i it s₁.heap∧kO p xs H₁∧cQ bd b (kO p xs) (xs.drop i) m₁ H₁ Q)
  ?_ (xs.length+1) ⟨H,m,0,rfl,Nat.zero_le _,S,T,ix,hk,h⟩
 clear hk ix T S hnd
 rintro k s₁ ⟨H₁,m₁,i,rfl,hi,S₁,T₁,ix₁,hk₁,h₁⟩
 refine X23 (ix₁.obj) fun oi vs i1 i2 i3=>?_
 have xn:=T₁.inv.none_of_fields i1 i2
 refine tV B.bd.hd T₁.inv xn hk₁ ix₁ (fun en h' hs=>?_) fun z v h' tk ez hs hv ix'=>?_
 ·have ed:xs.drop i=[]:=List.drop_eq_nil_of_le (by rw [List.getElem?_eq_none_iff] at en;exact en)
  replace h₁:=(ed)▸h₁
  refine wpAny_execs_nil (hR _ _ (I35 H₁ m₁ (.next) (fH (tk:=s₁.toks) S₁ fun b o eb=>?_) ((T₁.junk (tk:=s₁.toks) i1 i2 i3 bI hs).inv) (.inr (T₁.junk (tk:=s₁.toks) i1 i2 i3 bI hs)) (.next) h₁))
  by_cases q:b=it
  ·clear ed en xn hk₁ ix₁ hi
   subst q;exact .inr fI
  ·exact .inl (hs b o q eb)
 ·replace h₁:=(sD ez)▸h₁
  have S₂:aM (env::outer) H₀ s₀ H₁ { s₁ with heap:=h',toks:=tk }:=fH S₁ fun b o eb=>by
   by_cases q:b=it
   ·clear xn hk₁ ix₁ S₁ hi
    subst q;exact .inr fI
   ·exact .inl (hs.extBut b o q eb)
  have T₂:St C (env::outer) env ns m₁ H₁ { s₁ with heap:=h',toks:=tk }:=T₁.junk i1 i2 i3 bI hs.extBut
  have hv₂:VR C h' z v:=qC hs.extBut (I12 oi i1 i3) hv
  have hlt:i<xs.length:=(List.getElem?_eq_some_iff.mp ez).1
  refine Ik T₂ ix' ?_
  refine X12 (bT h₁) fun m₂ hb h₁=>?_
  ·refine htgt S₂ T₂ hv₂ hb fun s₃ S₃ T₃ k3=>?_
   have Bh:Bt C A outer env d { s₃ with heap:=s₃.heap.hide env.locals }:=⟨B.bd,B.fr,fun b o e=>(Heap.hide_ne _ fun q=>by subst q;have:=B.base _ _ e;rw [B.lnew] at this;cases this).trans (T₃.inv.stays b o e),Heap.hide_self _ _⟩
   have Sh:aM (env::outer) H₁ { s₃ with heap:=s₃.heap.hide env.locals } H₁ s₃:=⟨fun b o e hn=>⟨hn,.inl (Heap.of_hide e)⟩,fun J h=>h⟩
   refine wpAny_mono (hbody Bh Sh T₃ h₁) (fun f s₄ z=>X35 z fun H₄ m₄ fl S₄' I₄ T₄ hfl q=>?_) fun J J x=>x.nope.elim
   have S₄:=unhide S₃ B.lnew S₄'
   have ix₃:=k3 _ _ _ _ ix'
   cases hfl with
   | next=>
    obtain ⟨p',e⟩|T₄:=T₄
    ·refine hC fun hG=>?_
     cases e<;>(refine hG ?_;clear hG)
    ·have ix₄:dS C p xs (i+1) it s₄.heap:=dS.hid T₃ S₄' ix₃
     exact ⟨xs.length+1 - (i+1),by grind,H₄,m₄,i+1,rfl,hlt,S₄,T₄,ix₄,q.1,q.2⟩
   | brk=>exact hR _ _ (I35 H₄ m₄ (.next) S₄ I₄ (.inr (T₄.resolve_left fun z=>X11 z fun J e=>by cases e)) (.next) q)
   | ret hv=>exact hR _ _ (I35 H₄ m₄ (.ret _) S₄ I₄ (.inl ⟨_,rfl⟩) (.ret hv) q)
end
end Mine.Internal
end
noncomputable section
namespace Mine.Internal
section
variable {C:Cx}{outer:List Env}{env:Env}{ns:List Str}{A:Around}{d:Nat}{Fn:FSt}
theorem vO {is:List Nat}{ts:List Expr}{sc:Scope}(hs:env.scope=sc) (ha:jS sc ns is ts=true):∀ (line:Nat),(ts.all fun t=>eE t fun J p=>p.line==line)=true →
  ∃ nms:List Str,(ts.filterMap fun | .Name id pos=>(if env.kindOf id==some .local&&pos.line==line then some id else none)|_=>none)=nms∧nms.length=is.length∧∀ (j i:Nat),is[j]?=some i→∃ x,nms[j]?=some x∧ns[i]?=some x∧env.kindOf x=some .local:=by
 intro line
 induction ts generalizing is with
 | nil=>cases is with
  | nil=>exact fun J=>I13 ([]) rfl rfl (fun j i h=>by simp at h)
  | cons i r=>exact (Bool.false_ne_true ha).elim
 | cons t r ih=>
  cases is with
  | nil=>exact (Bool.false_ne_true ha).elim
  | cons i is=>
   apply bD (x:=t) ha;clear ha;intro y p ha
   refine hC fun hG=>?_
   obtain ⟨h1,ha⟩:=fW ha
   obtain ⟨h2,h3⟩:=fW ha
   refine hG ?_;clear hG
   have h1:=beq_iff_eq.mp h1
   have h2:=beq_iff_eq.mp h2
   intro h
   rw [List.all_cons,Bool.and_eq_true] at h
   refine X13 (ih h3 h.2) fun nms e1 e2 e3=>?_
   have hk:env.kindOf y=some .local:=by subst hs;exact h2
   have hl:(p.line==line)=true:=h.1
   refine I13 (y::nms) (?_) (by simp [e2]) (fun j i' hj=>?_)
   ·rw [List.filterMap_cons]
    simp only [hk,hl,beq_self_eq_true,Bool.and_true,if_true]
    rw [←e1]
   ·cases j with
    | zero=>cases hj;exact I13 y rfl h1 hk
    | succ j=>exact e3 j i' hj
theorem Ah {ts vs:List Expr}{k k':Nat}{p p':Pos}(hk:env.scope.kind=.function) (h:swapB env.scope ts vs=true) :
  swappedStores [.Tuple ts k p] (.Tuple vs k' p') env=pure none∨swappedStores [.Tuple ts k p] (.Tuple vs k' p') env=pure (some (cO env.scope ts)):=by
 simp only [swapB,Bool.and_eq_true] at h
 refine hC fun hG=>?_
 obtain ⟨⟨⟨⟨⟨h1,h2⟩,h3⟩,h4⟩,h5⟩,h6⟩:=h<;>(refine hG ?_;clear hG)
 have hb:env.blockKind=.function:=by unfold Env.blockKind;rw [hk];rfl
 have e1:(!(ts.length==2||ts.length==3)||vs.length != ts.length||env.blockKind != .function)=false:=by
  rw [h1,hb,bne,h2];rfl
 have e3:((cO env.scope ts).length != ts.length||(cO env.scope ts).eraseDups.length != (cO env.scope ts).length)=false:=by
  rw [bne,bne,h4,h5];rfl
 unfold swappedStores
 dsimp only
 rw [if_neg (by rw [e1];exact Bool.false_ne_true)]
 refine Or.imp (fun q=>(if_neg (show ¬(vs.any Bx=true) from by simpa using h3)).trans q) (fun q=>(if_neg (show ¬(vs.any Bx=true) from by simpa using h3)).trans q) ?_
 by_cases q:vs.all (foldedForSure 8)=true
 ·left
  refine (if_neg (show ¬(((cO env.scope ts).length != ts.length||(cO env.scope ts).eraseDups.length != (cO env.scope ts).length)=true) from by rw [e3];exact Bool.false_ne_true)).trans ?_
  rw [if_pos q]
 ·right
  rw [Bool.or_eq_true] at h6
  have h6:=h6.resolve_left q
  refine (if_neg (show ¬(((cO env.scope ts).length != ts.length||(cO env.scope ts).eraseDups.length != (cO env.scope ts).length)=true) from by rw [e3];exact Bool.false_ne_true)).trans ?_
  rw [if_neg q,if_neg (by simpa using h6)]
  rfl
theorem len2 {α:Type}{l:List α}(h:l.length=2):∃ a b,l=[a,b]:=by
 rcases l with _|⟨a,_|⟨b,_|⟨c,r⟩⟩⟩<;>first|exact ⟨_,_,rfl⟩|nomatch h
theorem len3 {α:Type}{l:List α}(h:l.length=3):∃ a b c,l=[a,b,c]:=by
 rcases l with _|⟨a,_|⟨b,_|⟨c,_|⟨d,r⟩⟩⟩⟩<;>first|exact ⟨_,_,_,rfl⟩|nomatch h
theorem Hq {m m':LE}{is:List Nat}{ps:List PV}(hl:is.length=2∨is.length=3) (hn:is.Nodup) (h:m.sets is ps=some m'):m.sets is.reverse ps.reverse=some m':=by
 have hp:=kG h
 rcases hl with hl|hl
 ·obtain ⟨a,b,rfl⟩:=len2 hl
  obtain ⟨p,q,rfl⟩:=len2 hp
  ·have hab:a≠b:=by simp at hn;exact hn
   cases h
   show some _=some _
   congr 1
   funext j
   simp only [aJ]
   by_cases h1:j=a
   ·subst h1;simp [hab]
   ·simp [h1]
 ·obtain ⟨a,b,c,rfl⟩:=len3 hl
  obtain ⟨p,q,r,rfl⟩:=len3 hp
  ·simp at hn
   obtain ⟨⟨hab,hac⟩,hbc⟩:=hn
   cases h
   show some _=some _
   congr 1
   funext j
   simp only [aJ]
   by_cases h1:j=a
   ·subst h1;simp [hab,hac]
   ·by_cases h2:j=b
    ·clear hac hab hp hl
     subst h2;simp [h1,hbc]
    ·simp [h1,h2]
end
end Mine.Internal
end
noncomputable section
namespace Mine.Internal
section
variable {C:Cx}{outer:List Env}{env:Env}{ns:List Str}{A:Around}{d:Nat}{Fn:FSt}
theorem Jf {gs:List (Str×NameKind)}{ns:List Str}{elt src:ME}{t:Nat}{fr:List Nat}{cs:List ME}{x:Expr}(ha:agE gs ns (.comp elt t fr src cs) x=true):∃ y px el it ifs sc p,x=.ListComp el [⟨.Name y px,it,ifs,0⟩] sc p ∧
  ns[t]?=some y∧iL gs ns sc y fr=true∧cs.length≤1∧agE gs ns src it=true∧agE sc.names ns elt el=true∧dI sc.names ns cs ifs=true:=by
 apply zZ ha;intro el gens sc p ha
 apply gQ ha;intro g ha
 obtain ⟨tg,it,ifs,as⟩:=g
 apply bD (x:=tg) ha;clear ha;intro y px ha
 apply aA ha;clear ha;intro h0 ha
 apply aA ha;clear ha;intro hy ha
 apply aA ha;clear ha;intro hc ha
 apply aA ha;clear ha;intro hlen ha
 apply aA ha;clear ha;intro hsrc ha
 apply aA ha;clear ha;intro helt hcs
 obtain rfl:as=0:=beq_iff_eq.mp h0
 exact ⟨y,px,el,it,ifs,sc,p,rfl,beq_iff_eq.mp hy,hc,of_decide_eq_true hlen,hsrc,helt,hcs⟩
theorem Jn (B:Bt C A outer env d s₀) (hnd:ns.Nodup) (S:aM (env::outer) H₀ s₀ H s) (T:St C (env::outer) env ns m H s) {sc:Scope}{y z:Str}{px pz pos apos:Pos}{t i:Nat}{fr:List Nat}{el iter:Expr}{ifs:List Expr}{E:MH→Prop}{Q:QS}
  (hz:ns[i]?=some z) (hl:env.kindOf z=some .local) (hsw:swapOk env.scope z pz (.ListComp el [⟨.Name y px,iter,ifs,0⟩] sc pos)=true)
  (hy:ns[t]?=some y) (hc:iL env.scope.names ns sc y fr=true) (hfold:∀ x,foldedSetIterable iter env x=pure x)
  {c:LE→MH→(Bool→MH→Prop)→Prop} {e:LE→MH→QV→Prop}
  (hsrc:wpAny (model C.prog C.w) A (eval iter env) (OkG C (env::outer) H s (VQ C fun p H₁=>oI p H₁ fun xs chk=>fB t c e chk (eJ m fr) xs H₁ [] fun ys H₂=>gF ys H₂ fun v H'=>Q .next (m.set i v) H')) (OkX C (env::outer) H s nope) s)
  (htest:∀ {env' m' H₁ s₁ R},Bd C A (env::outer) env' sc.names d→St C (env::outer) env' ns m' H₁ s₁→c m' H₁ R →
   wpAny (model C.prog C.w) A (forIn ifs true fun c r=>if r=true then do let ok ←isTrue c env' (eval c env');pure (ForInStep.yield ok) else pure (ForInStep.yield r)) (OkG C (env::outer) H₁ s₁ (BQ R)) (OkX C (env::outer) H₁ s₁ nope) s₁)
  (helt:∀ {env' m' H₁ s₁ R},Bd C A (env::outer) env' sc.names d→St C (env::outer) env' ns m' H₁ s₁→e m' H₁ R→wpAny (model C.prog C.w) A (eval el env') (OkG C (env::outer) H₁ s₁ (VQ C R)) (OkX C (env::outer) H₁ s₁ nope) s₁) :
  wpAny (model C.prog C.w) A (exec (.Assign [.Name z pz] (.ListComp el [⟨.Name y px,iter,ifs,0⟩] sc pos) apos) env) (SG C (env::outer) env ns H₀ s₀ Q) (FX C (env::outer) H₀ s₀ E) s:=by
 have hb:env.blockKind=.function:=by unfold Env.blockKind;rw [B.bd.kind];rfl
 have sw:swapsWithSole [.Name z pz] (.ListComp el [⟨.Name y px,iter,ifs,0⟩] sc pos) apos.line env=pure true:=by
  replace hsw:=fW (show (_&&_)=true from hsw)
  show (do return env.blockKind==.function&&env.kindOf z==some .local&&pz.line==pos.line&&!(sc.names.any fun (n,k)=>n==z&&(k==.local||k==.cell)):Sem Bool)=pure true
  rw [hb,hl,hsw.1,hsw.2];rfl
 rw [arm_exec_Assign,sw]
 refine wpAny_bind (wpAny_standAt (wpAny_bind (wpAny_pure ?_)))
 rw [if_pos rfl]
 refine wpAny_bind ?_
 rw [arm_evalThenUse_ListComp]
 refine wpAny_bind ?_
 refine uA (use:=some _) B.bd T hy hc hfold hsrc htest helt fun D Cc H₅ s₅ ys fD fC hDC ce k=>?_
 refine hC fun hG=>?_
 obtain ⟨mm,hn⟩:=ce.ns
 refine X13 (Ns.notVal hn) fun oc c1 c2 c3=>?_
 refine X22 (ce.dl) fun items n d1 d2=>?_
 have S₅:aM (env::outer) H₀ s₀ (H₅.set D (.list ys)) s₅:=S.trans (mP ce.S fD.o)
 have I₅:Inv C (env::outer) (H₅.set D (.list ys)) s₅:=uH ce.I fD.b (I22 items n d1 d2)
 have T₅:=T.step (mP ce.S fD.o) I₅
 refine X12 (T.loc) fun mL hnL J=>?_
 refine hG ?_;clear hG
 have hCL:Cc≠env.locals:=fun q=>by
  refine X12 (Ns.notVal hnL) fun oL eL J=>?_
  have:=fC.o;rw [q,eL] at this;cases this
 refine wpAny_assign_Name (gP B.bd.kind B.base B.lnew hnd S₅ T₅ hz hl (p:=.lst D) rfl fun s₆ S₆ T₆ J J J hs₆=>?_)
 have e₆:s₆.heap.get? Cc=some oc:=(hs₆.2 Cc hCL).trans c1
 refine I12 mm (hn.sameBut hs₆ hCL) (fun h' hs'=>?_)
 refine wpAny_pure ?_
 have hn':(H₅.set D (.list ys)) Cc=none:=by unfold MH.set;rw [if_neg (Ne.symm hDC)];exact ce.cn
 refine X33 hn fun o1 es ep f1 f2 J=>?_
 have ec:some o1=some oc:=f1.symm.trans c1
 refine hC fun hG=>?_
 clear f1 hs₆ hnL T₅ I₅ S₅ d2 d1
 cases ec<;>(refine hG ?_;clear hG)
 have S₇:aM (env::outer) H₀ s₀ (H₅.set D (.list ys)) { s₆ with heap:=h' }:=fH (tk:=s₆.toks) S₆ fun b o eb=>by
  by_cases q:b=Cc
  ·clear S₆ items c3 c1 hn hDC fD n
   subst q;exact .inr (bY S T.inv fC.o)
  ·exact .inl ((hs'.2 b q).trans eb)
 have T₇:St C (env::outer) env ns (m.set i (.lst D)) (H₅.set D (.list ys)) { s₆ with heap:=h' }:=T₆.junkD (tk:=s₆.toks) e₆ c2 (fun v q=>by rw [f2] at q;cases q) hCL fC.f fC.b hn' hs'.extBut
 exact wpAny_pure (SG.next S₇ T₇ (k D ce.dn))
noncomputable def WX (C:Cx) (A:Around) (outer:List Env) (env:Env) (ns:List Str) (H₀:MH) (s₀ s:Shared) (E:MH→Prop) (Q:QS) (x:Stmt):Prop:=
 wpAny (model C.prog C.w) A (exec x env) (SG C (env::outer) env ns H₀ s₀ Q) (FX C (env::outer) H₀ s₀ E) s
noncomputable def PS (C:Cx) (A:Around) (outer:List Env) (env:Env) (d:Nat) (ns:List Str) (Fn:FSt) (st:MS):Prop:=∀ {x:Stmt}{m:LE}{H H₀:MH}{s s₀:Shared}{E:MH→Prop}{Q:QS},
  Bt C A outer env d s₀→aM (env::outer) H₀ s₀ H s→St C (env::outer) env ns m H s→agS env.scope ns st x=true→mS Fn C.gv E st m H Q→WX C A outer env ns H₀ s₀ s E Q x
noncomputable def PSs (C:Cx) (A:Around) (outer:List Env) (env:Env) (d:Nat) (ns:List Str) (Fn:FSt) (sts:List MS):Prop:=∀ {xs:List Stmt}{m:LE}{H H₀:MH}{s s₀:Shared}{E:MH→Prop}{Q:QS},
  Bt C A outer env d s₀→aM (env::outer) H₀ s₀ H s→St C (env::outer) env ns m H s→tE env.scope ns sts xs=true→mSs Fn C.gv E sts m H Q →
  wpAny (model C.prog C.w) A (execs xs env) (SG C (env::outer) env ns H₀ s₀ Q) (FX C (env::outer) H₀ s₀ E) s
section
variable (hF:∀ f vs H Q E,Fn f vs H Q E→aB C d f vs H Q E) (hnd:ns.Nodup)
include hF hnd
set_option maxHeartbeats 4000000
set_option maxRecDepth 10000
theorem S_expr {e:ME}:PS C A outer env d ns Fn (.expr e):=by
 intro x m H H₀ s s₀ E Q B S T ha h
 apply Hu ha;intro v pos ha
 apply aA ha;intro hc h1
 have hc:=nB hc
 have hi:interactive env=false:=by unfold interactive;rw [B.bd.kind];rfl
 show wpAny (model C.prog C.w) A (exec _ env) _ _ s
 refine Eq.symm (exec_Expr env v pos hi (dQ hc _ _ _))▸?_
 refine wpAny_bind (wpAny_standAt (wpAny_bind (T.run B.base S (sE hF hnd e B.bd T h1 h) fun v H' s' S' T' J z=>X12 z fun p hp q=>?_)))
 exact Gb (SG.next S' T' q)
theorem S_asg {i:Nat}{e:ME}:PS C A outer env d ns Fn (.asg i e):=by
 intro x m H H₀ s s₀ E Q B S T ha h
 apply mW ha;clear ha;intro ts v pos ha
 apply gQ ha;clear ha;intro t ha
 apply bD ha;clear ha;intro y p ha
 apply aA ha;clear ha;intro h1 ha
 apply aA ha;clear ha;intro h2 ha
 apply aA ha;clear ha;intro h3 h4
 have h1:=beq_iff_eq.mp h1
 have h2:=beq_iff_eq.mp h2
 by_cases hc:jG v=true
 ·replace h4:=(hc)▸h4
  have hk:kd v≠0:=by cases v<;>first|exact (Bool.false_ne_true hc).elim|exact (by decide:(4:Nat)≠0)|exact (by decide:(5:Nat)≠0)|exact (by decide:(6:Nat)≠0)
  refine hC fun hG=>?_
  obtain ⟨_,elt,t,fr,src,cs,rfl⟩:=(sN h3).resolve_left hk<;>(refine hG ?_;clear hG)
  refine hC fun hG=>?_
  clear hk ts x S_asg
  obtain ⟨y',px,el,it,ifs,sc,p',rfl,hy,hcc,hlen,hsrc,helt,hcs⟩:=Jf h3<;>(refine hG ?_;clear hG)
  exact Jn B hnd S T h1 h2 h4 hy hcc (sQ hsrc env) (sE hF hnd src B.bd T hsrc h) (fun B' T' q=>sTests hF hnd cs B' T' hlen hcs q) (fun B' T' q=>sE hF hnd elt B' T' helt q)
 ·have hc:jG v=false:=by simpa using hc
  refine wpAny_Assign_Name (T.run B.base S (sE hF hnd e B.bd T h3 h) fun v' H' s' S' T' J z=>X12 z fun p' hp q=>?_) (dQ hc _ _ _)
  exact gP B.bd.kind B.base B.lnew hnd S' T' h1 h2 hp fun s'' S'' T'' J J J J=>SG.next S'' T'' q
theorem S_asgT {is:List Nat}{e:ME}:PS C A outer env d ns Fn (.asgT is e):=by
 intro x m H H₀ s s₀ E Q B S T ha h
 apply mW ha;intro ts v pos ha
 apply gQ ha;clear ha;intro t ha
 apply lF ha;clear ha;intro ts k tp ha
 apply aA ha;clear ha;intro h1 ha
 apply aA ha;clear ha;intro h2 ha
 apply aA ha;clear ha;intro h3 h4
 have h2:=nB h2
 have hw:swappedStores [.Tuple ts k tp] v env=pure none:=by cases v<;>first|rfl|cases h3
 refine wpAny_Assign_stores (T.run B.base S (sE hF hnd e B.bd T h4 h) fun v' H' s' S' T' J z=>X12 z fun p' hp q=>?_) (Fa h2 _ _ _) hw
 refine X12 (bT q) fun m' hb q=>?_
 show wpAny (model C.prog C.w) A (assignAll v' [assign (.Tuple ts k tp) env]) _ _ s'
 exact oG B hnd h1 S' T' hp hb fun s'' S'' T'' J=>SG.next S'' T'' q
theorem S_swap {is:List Nat}{es:List ME}:PS C A outer env d ns Fn (.swap is es):=by
 intro x m H H₀ s s₀ E Q B S T ha h
 apply mW ha;intro ts v pos ha
 apply gQ ha;intro t ha
 apply lF ha;intro ts k tp ha
 apply lF ha;intro vs k' vp ha
 apply aA ha;intro h1 ha
 apply aA ha;intro h2 ha
 apply aA ha;intro h3 ha
 apply aA ha;intro h4 ha
 apply aA ha;intro h5 ha
 apply aA ha;intro h6 h7
 have h2:=of_decide_eq_true h2
 have h3:is.length=2∨is.length=3:=(Bool.or_eq_true _ _).mp h3 |>.imp beq_iff_eq.mp beq_iff_eq.mp
 have h7:=beq_iff_eq.mp h7
 have hsw:swapsWithSole [.Tuple ts k tp] (.Tuple vs k' vp) pos.line env=pure false:=rfl
 show wpAny (model C.prog C.w) A (exec _ env) _ _ s
 rw [arm_exec_Assign,hsw]
 refine wpAny_bind (wpAny_standAt (wpAny_bind (wpAny_pure ?_)))
 refine Eq.symm (if_neg Bool.false_ne_true)▸?_
 have hE:wpAny (model C.prog C.w) A (eval (.Tuple vs k' vp) env) (OkG C (env::outer) H s (VQ C fun v H'=>∃ ps m',v=.tup ps∧m.sets is ps=some m'∧Q .next m' H')) (OkX C (env::outer) H s E) s:=by
  refine Tuple_ (W.next (sEs hF hnd es B.bd T h6 h) fun vs H₁ s₁ S₁ I₁ z=>X13 z fun ps hp hlen q=>?_)
  refine X12 (bT q) fun m' hb q=>?_
  exact pJ I₁ hp (by rw [hlen,h7];rcases h3 with h3|h3<;>lia) (I23 ps m' rfl hb q)
 refine wpAny_bind (T.run B.base S hE fun v' H' s' S' T' J z=>X12 z fun p' hp z=>X23 z fun ps m' hps hb q=>?_)
 subst hps
 refine X05 (sM rfl h1) fun k1 k2 k3 k4 k5=>?_
 have hlp:=kG hb
 clear k5 k4 k3 k2 k1 h7 ha S
 rcases Ah (k:=k) (k':=k') (p:=tp) (p':=vp) B.bd.kind h5 with e|e
 ·refine Eq.symm (e)▸?_
  refine wpAny_bind (wpAny_pure ?_)
  unfold assignStores
  have ht:Tgt C A outer env ns H₀ s₀ (bC is true) (.Tuple ts k tp):=oG B hnd h1
  have hb':bC is true (.tup ps) m=some m':=by
   show (if ps.length≤100 then m.sets is ps else none)=_
   rw [if_pos (ar59 h3 hlp)];exact hb
  refine wpAny_bind (m:=assign (.Tuple ts k tp) env v') (ht S' T' hp hb' fun s'' S'' T'' J=>?_)
  exact wpAny_pure (SG.next S'' T'' q)
 ·refine Eq.symm (e)▸?_
  refine wpAny_bind (wpAny_pure ?_)
  refine X13 (vO rfl h1 _ h4) fun nms n1 n2 n3=>?_
  have hnm:cO env.scope ts=nms:=n1
  refine Eq.symm (hnm)▸?_
  unfold assignStores
  refine wpAny_bind (wpAny_rule ?_)
  refine hC fun hG=>?_
  obtain ⟨a,items,rfl,ht,hx⟩:=hp<;>(refine hG ?_;clear hG)
  have la:=hx.length
  rw [Array.length_toList] at la
  have hsz:nms.length=items.size:=by rw [n2,la,hlp]
  refine Eq.symm (hsz)▸?_
  refine wpAny_bind (unpackItems_tuple B.bd.hd ht fun h' he=>?_)
  have kp:∀ b o,s'.heap.get? b=some o→h'.get? b=some o:=fun b o e=>he b o (Nat.ne_of_lt (Heap.lt_size e)) e
  have S₂:aM (env::outer) H₀ s₀ H' { s' with heap:=h' }:=S'.trans (aK (tk:=s'.toks) kp)
  have T₂:St C (env::outer) env ns m H' { s' with heap:=h' }:=T'.step (aK (tk:=s'.toks) kp) (aN (tk:=s'.toks) T'.inv kp)
  have hl23:is.length=2∨is.length=3:=h3
  refine wpAny_bind (tI (is:=is.reverse) (ps:=ps.reverse) B.bd.kind B.base B.lnew hnd (by simp [n2]) (fun j i hj=>?_) S₂ T₂ (hx.keeps kp).reverse (Hq hl23 h2 hb) fun s'' S'' T'' J=>wpAny_pure (SG.next S'' T'' q))
  have hjl:j<is.length:=by have:=(List.getElem?_eq_some_iff.mp hj).1;simpa using this
  rw [List.getElem?_reverse hjl] at hj
  refine X13 (n3 _ i hj) fun x e1 e2 e3=>?_
  refine I24 x (bindName env x) (?_) e2 e3 (fun M A v Z X s h=>wpAny_bindName h)
  rw [List.getElem?_map,List.getElem?_reverse (ar23 n2 hjl),n2,e1];rfl
theorem Js {o:ME}{i:ME}{e:ME}:PS C A outer env d ns Fn (.setidx o i e):=by
 intro x m H H₀ s s₀ E Q B S T ha h
 apply mW ha;intro ts v pos ha
 apply gQ ha;intro t ha
 apply lG ha;intro o' i' tp ha
 apply aA ha;intro h1 ha
 apply aA ha;intro h2 ha
 apply aA ha;intro h3 h4
 have h1:=nB h1
 refine wpAny_Assign_Subscript (T.run B.base S (sE hF hnd e B.bd T h2 h) fun v₁ H₁ s₁ S₁ T₁ J z=>X12 z fun p₁ hp₁ q₁=>?_) (dQ h1 _ _ _)
 refine T₁.run B.base S₁ (sE hF hnd o B.bd T₁ h3 q₁) fun v₂ H₂ s₂ S₂ T₂ R₂ z=>X12 z fun p₂ hp₂ q₂=>?_
 refine T₂.run B.base S₂ (sE hF hnd i B.bd T₂ h4 q₂) fun v₃ H₃ s₃ S₃ T₃ R₃ z=>X12 z fun p₃ hp₃ q₃=>?_
 refine wpAny_mono (Fc T₃.inv (hp₂.step R₃ T₂.inv) hp₃ ((hp₁.step R₂ T₁.inv).step R₃ T₂.inv) q₃) (fun J s' z=>X13 z fun H' S' I' q=>SG.next (S₃.trans S') (T₃.step S' I') q) fun J J x=>x
theorem Gv {k:Nat}{o:ME}{e:ME}:PS C A outer env d ns Fn (.setattr k o e):=by
 intro x m H H₀ s s₀ E Q B S T ha h
 apply mW ha;intro ts v pos ha
 apply gQ ha;intro t ha
 apply iP ha;intro o' nm tp ha
 apply aA ha;intro h1 ha
 apply aA ha;intro h0 ha
 apply aA ha;intro hk ha
 apply aA ha;intro h2 h3
 have h1:=nB h1
 apply iO h0
 have hk:=of_decide_eq_true hk
 refine plainObj_wpAny_Assign_Attribute (T.run B.base S (sE hF hnd e B.bd T h2 h) fun v₁ H₁ s₁ S₁ T₁ J z=>X12 z fun p₁ hp₁ q₁=>?_) (dQ h1 _ _ _)
 refine T₁.run B.base S₁ (sE hF hnd o B.bd T₁ h3 q₁) fun v₂ H₂ s₂ S₂ T₂ R₂ z=>X12 z fun p₂ hp₂ q₂=>?_
 refine wpAny_mono (qS B.bd.O hk T₂.inv hp₂ (hp₁.step R₂ T₁.inv) q₂) (fun J s' z=>X13 z fun H' S' I' q=>SG.next (S₂.trans S') (T₂.step S' I') q) fun J J x=>x
theorem S_aug {i:Nat}{op:BOp}{e:ME}:PS C A outer env d ns Fn (.aug i op e):=by
 intro x m H H₀ s s₀ E Q B S T ha h
 apply Da ha;clear ha;intro t a v pos ha
 apply aA ha;clear ha;intro h0 ha
 obtain rfl:=yB h0
 apply bD ha;clear ha;intro y p ha
 apply aA ha;clear ha;intro h0 ha
 apply aA ha;intro h1 ha
 apply aA ha;intro h2 ha
 apply aA ha;intro h3 h4
 obtain rfl:=beq_iff_eq.mp h0
 have h1:=beq_iff_eq.mp h1
 have h3:=beq_iff_eq.mp h3
 refine X02 (cI.mp h) fun hu h=>?_
 refine wpAny_AugAssign_Name (T.run B.base S (nC (Q:=fun p H'=>p=m i∧H'=H) B.bd T h1 hu (vF h2).2 ⟨rfl,rfl⟩) fun v₁ H₁ s₁ S₁ T₁ J z=>X13 z fun p₁ hp₁ e1 e2=>?_)
 clear hu h2 p h0 pos t ha T
 subst e1;subst e2
 refine T₁.run B.base S₁ (sE hF hnd e B.bd T₁ h4 h) fun v₂ H₂ s₂ S₂ T₂ R₂ z=>X12 z fun p₂ hp₂ q₂=>?_
 refine hC fun hG=>?_
 obtain ⟨⟨a,hm⟩,q₂⟩:=Dm.mp q₂<;>(refine hG ?_;clear hG)
 rw [hm] at q₂ hp₁
 refine T₂.run B.base S₂ (rS T₂.inv (hp₁.step R₂ T₁.inv) hp₂ q₂) fun v₃ H₃ s₃ S₃ T₃ R₃ z=>X12 z fun p₃ hp₃ q₃=>?_
 exact gP B.bd.kind B.base B.lnew hnd S₃ T₃ h1 h3 hp₃ fun s'' S'' T'' J J J J=>SG.next S'' T'' q₃
theorem Gw {k:Nat}{o:ME}{op:BOp}{e:ME}:PS C A outer env d ns Fn (.augattr k o op e):=by
 intro x m H H₀ s s₀ E Q B S T ha h
 apply Da ha;clear ha;intro t a v pos ha
 apply aA ha;clear ha;intro h0 ha
 obtain rfl:=yB h0
 apply iP ha;clear ha;intro o' nm p ha
 apply aA ha;clear ha;intro h0 ha
 apply aA ha;clear ha;intro h1 ha
 apply aA ha;intro hk ha
 apply aA ha;intro h3 h4
 obtain rfl:=beq_iff_eq.mp h0
 obtain rfl:=beq_iff_eq.mp h1
 have hk:=of_decide_eq_true hk
 refine wpAny_AugAssign_AttributeAny (T.run B.base S (sE hF hnd o B.bd T h3 h) fun v₁ H₁ s₁ S₁ T₁ J z=>X12 z fun p₁ hp₁ q₁=>?_)
 refine T₁.run B.base S₁ (wpAny_mono (Ea B.bd.O hk T₁.inv hp₁ q₁) (fun J J x=>x.g) fun J J x=>x) fun v₂ H₂ s₂ S₂ T₂ R₂ z=>X12 z fun p₂ hp₂ q₂=>?_
 refine T₂.run B.base S₂ (sE hF hnd e B.bd T₂ h4 q₂) fun v₃ H₃ s₃ S₃ T₃ R₃ z=>X12 z fun p₃ hp₃ q₃=>?_
 refine hC fun hG=>?_
 clear q₂ S₂ q₁ S₁ hnd hF h4 h3
 obtain ⟨⟨a,rfl⟩,q₃⟩:=Dm.mp q₃<;>(refine hG ?_;clear hG)
 refine T₃.run B.base S₃ (rS T₃.inv (hp₂.step R₃ T₂.inv) hp₃ q₃) fun v₄ H₄ s₄ S₄ T₄ R₄ z=>X12 z fun p₄ hp₄ q₄=>?_
 have hp₁':=((hp₁.step R₂ T₁.inv).step R₃ T₂.inv).step R₄ T₃.inv
 refine wpAny_mono (qS B.bd.O hk T₄.inv hp₁' hp₄ q₄) (fun J s' z=>X13 z fun H' S' I' q=>SG.next (S₄.trans S') (T₄.step S' I') q) fun J J x=>x
theorem S_ifs {c:ME}{a:List MS}{b:List MS}(i_a:PSs C A outer env d ns Fn a) (i_b:PSs C A outer env d ns Fn b):PS C A outer env d ns Fn (.ifs c a b):=by
 intro x m H H₀ s s₀ E Q B S T ha h
 apply sIf_el ha;intro t y z pos ha
 apply aA ha;intro h1 ha
 apply aA ha;intro h2 h3
 refine wpAny_If (T.run B.base S (sT hF hnd c B.bd T h1 h) fun t H' s' S' T' J q=>?_)
 cases t with
 | true=>exact i_a B S' T' h2 q
 | false=>exact i_b B S' T' h3 q
theorem S_whl {c:ME}{b:List MS}(i_b:PSs C A outer env d ns Fn b):PS C A outer env d ns Fn (.whl c b):=by
 intro x m H H₀ s s₀ E Q B S T ha h
 apply sWhl_el ha;intro t y z pos ha
 apply aA ha;intro h0 ha
 apply jX h0
 apply aA ha;intro h1 h2
 refine X11 h fun n h=>?_
 have nt:∀ {v s₁},FX C (env::outer) H₀ s₀ E v s₁→notedBy (model C.prog C.w) A env (fun e s'=>cameBackBy (model C.prog C.w) A env (FX C (env::outer) H₀ s₀ E) e s') v s₁:=fun x=>Iu B.bd.fr B.fr x
 refine wpAny_While (codeAny_whileLoop (fun k s₁=>∃ H₁ m₁,aM (env::outer) H₀ s₀ H₁ s₁∧St C (env::outer) env ns m₁ H₁ s₁∧aY (mT Fn C.gv E c) (mSs Fn C.gv E b) k m₁ H₁ Q) ?_ n (I23 H m S T h))
 intro k s₁ z
 refine X23 z fun H₁ m₁ S₁ T₁ h₁=>?_
 cases k with
 | zero=>exact h₁.elim
 | succ k=>
  refine wpAny_mono (T₁.run B.base S₁ (sT hF hnd c B.bd T₁ h1 h₁) fun t H₂ s₂ S₂ T₂ J q=>?_) (fun J J x=>x) fun J J x=>nt x
  cases t with
  | true=>
   rw [if_pos rfl]
   refine wpAny_mono (i_b B S₂ T₂ h2 q) (fun f s₃ z=>X35 z fun H₃ m₃ fl S₃ I₃ T₃ hfl q₃=>?_) fun J J x=>nt x
   cases hfl with
   | next=>
    obtain ⟨p,e⟩|T₃:=T₃
    ·refine hC fun hG=>?_
     cases e<;>(refine hG ?_;clear hG)
    ·exact ⟨k,Nat.lt_succ_self _,H₃,m₃,S₃,T₃,q₃⟩
   | brk=>exact I35 H₃ m₃ (.next) S₃ I₃ (.inr (T₃.resolve_left fun z=>X11 z fun J e=>by cases e)) (.next) q₃
   | ret hv=>exact I35 H₃ m₃ (.ret _) S₃ I₃ (.inl ⟨_,rfl⟩) (.ret hv) q₃
  | false=>
   rw [if_neg Bool.false_ne_true]
   exact wpAny_execs_nil (SG.next S₂ T₂ q)
theorem S_fors {is:List Nat}{isT:Bool}{src:ME}{b:List MS}(i_b:PSs C A outer env d ns Fn b):PS C A outer env d ns Fn (.fors is isT src b):=by
 intro x m H H₀ s s₀ E Q B S T ha h
 have main:∀ {tgt it':Expr} {body:List Stmt} {pos:Pos},(∀ {H₀ s₀},Bt C A outer env d s₀→Tgt C A outer env ns H₀ s₀ (bC is isT) tgt)→agE env.scope.names ns src it'=true→tE env.scope ns b body=true →
   wpAny (model C.prog C.w) A (exec (.For tgt it' body [] pos) env) (SG C (env::outer) env ns H₀ s₀ Q) (FX C (env::outer) H₀ s₀ E) s:=by
  intro tgt it' body pos htgt h1 h2
  refine wpAny_For (T.run B.base S (sE hF hnd src B.bd T h1 h) fun v₁ H₁ s₁ S₁ T₁ J z=>X12 z fun p₁ hp₁ q₁=>?_) (sQ h1 env)
  refine rR T₁.inv hp₁ q₁ fun xs o tk hN hk ix=>?_
  have kp:=aP s₁.heap o
  have S₂:aM (env::outer) H₀ s₀ H₁ { s₁ with heap:=s₁.heap.push o,toks:=tk }:=S₁.trans (aK kp)
  have I₂:Inv C (env::outer) H₁ { s₁ with heap:=s₁.heap.push o,toks:=tk }:=aN T₁.inv kp
  refine Iv B hnd (htgt B) (fun B' S' T' q=>i_b B' S' T' h2 q) (bY S₁ T₁.inv (dU _)) (gU T₁.inv) S₂ (T₁.step (aK kp) I₂) ix hk hN (R:=fun r s'=>match r with | .ok f=>SG C (env::outer) env ns H₀ s₀ Q f s' | .error e=>cameBackBy (model C.prog C.w) A env (FX C (env::outer) H₀ s₀ E) e s') fun f s' x=>x
 apply sFor_el ha;clear ha;intro t it body z pos ha
 apply aA ha;clear ha;intro h0 ha
 apply aA ha;clear ha;intro h3 ha
 apply aA ha;clear ha;intro h4 ha
 apply jX h0
 cases isT with
 | false=>
  apply bD ha;clear ha;intro y p ha
  refine hC fun hG=>?_
  obtain ⟨i,rfl,ha⟩:=gQ (P:=fun is=>∃ i,is=[i]∧(ns[i]?==some y&&env.scope.names.lookup y==some .local)=true) ha fun i h=>⟨i,rfl,h⟩<;>(refine hG ?_;clear hG)
  exact main (fun B'=>Hm B' hnd (beq_iff_eq.mp (zR ha)) (beq_iff_eq.mp (iF ha))) h3 h4
 | true=>
  apply lF ha;intro ts n p ha
  exact main (fun B'=>oG B' hnd ha) h3 h4
theorem S_ret {e:ME}:PS C A outer env d ns Fn (.ret e):=by
 intro x m H H₀ s s₀ E Q B S T ha h
 apply Cz ha;intro v pos ha
 apply xZ ha;intro v ha
 exact wpAny_Return_some (T.run B.base S (sE hF hnd e B.bd T ha h) fun v H' s' S' T' J z=>X12 z fun p hp q=>(I35 H' m (.ret p) S' (T'.inv) (.inr T') (.ret hp) q))
theorem S_brk:PS C A outer env d ns Fn (.brk):=by
 intro x m H H₀ s s₀ E Q B S T ha h
 apply sBrk_el ha;intro pos ha
 exact wpAny_Break (I35 H m (.brk) S (T.inv) (.inr T) (.brk) h)
theorem S_raise {args:List ME}:PS C A outer env d ns Fn (.raise args):=by
 intro x m H H₀ s s₀ E Q B S T ha h
 apply Fg ha;intro e c pos ha
 apply aA ha;intro h0 ha
 apply yA h0
 apply xZ ha;intro e ha
 apply cS ha;intro g xs ks p ha
 apply aA ha;intro h0 ha
 apply jX h0
 apply aA ha;intro ha hc
 apply bD hc;intro y p hc
 apply aA hc;clear hc;intro hy hg
 obtain rfl:=beq_iff_eq.mp hy
 obtain ⟨h1,h2⟩:=iA hg
 show wpAny (model C.prog C.w) A (exec _ env) _ _ s
 rw [arm_exec_Raise]
 refine wpAny_bind (wpAny_standAt (Fm B.bd.O B.bd.hd (wpAny_bind (Call_Name rfl (nQ B.bd T.inv h1 h2 B.bd.O.xG ?_)))))
 refine fV (K:=C.K) ha (T.run B.base S (sEs hF hnd args B.bd T ha h) fun vs H₁ s₁ S₁ T₁ J z=>X13 z fun ps hps hlen q1=>⟨⟨gZ B.bd.O T₁.inv,B.bd.O.gK⟩,?_⟩)
 refine hC fun hG=>?_
 clear hlen z hnd hF h2 h1 hg hy
 obtain ⟨a,b,rfl,q1⟩:=uR q1<;>(refine hG ?_;clear hG)
 refine hC fun hG=>?_
 obtain ⟨l,rfl,q1⟩:=kY q1<;>(refine hG ?_;clear hG)
 refine hC fun hG=>?_
 obtain ⟨k,rfl,q2⟩:=cG q1<;>(refine hG ?_;clear hG)
 refine wpAny_mono (Iy B.bd.O (by have:=B.bd.rd;exact ar60 this) (by have:=B.bd.ru;exact ar61 this) B.bd.fr B.bd.hd T₁.inv T₁.nl hps) (fun v s₂ z=>X14 z fun e hv S₂ I₂ z=>X21 z.2 fun t dd he=>have f:=z.1;?_) fun J J x=>x
 subst hv
 have f₀:=bY S₁ T₁.inv f
 exact wpAny_bind (wpAny_standAt (wpAny_pure ⟨e,t,dd,rfl,I₂.stays,he,H₁,e,rfl,⟨B.base,eO T₁.inv T₁.nl S₂,S₁.trans S₂,I₂,_,_,he,rfl,rfl,f₀,.inl rfl⟩,q2⟩))
theorem S_tryN {b:List MS}(i_b:PSs C A outer env d ns Fn b):PS C A outer env d ns Fn (.tryN b):=by
 intro x m H H₀ s s₀ E Q B S T ha h
 apply sTry_el ha;intro body hs z w pos ha
 apply aA ha;intro h0 ha
 apply jX h0
 apply aA ha;intro h0 ha
 apply jX h0
 apply aA ha;intro hb ha
 apply gQ ha;intro hd ha
 obtain ⟨t,nm,hb',hp⟩:=hd
 apply aA ha;intro h0 ha
 apply yA h0
 apply xZ ha;intro t ha
 apply bD ha;intro y p ha
 apply aA ha;clear ha;intro hy ha
 apply aA ha;clear ha;intro hg ha
 obtain rfl:=beq_iff_eq.mp hy
 apply gQ ha;intro r ha
 apply Cz ha;intro v p1 ha
 apply xZ ha;intro v ha
 apply cM ha;intro c n p2 ha
 obtain rfl:=uB ha
 obtain ⟨h1,h2⟩:=iA hg
 refine wpAny_Try_except (wpAny_mono (i_b B S T hb h) (fun f s₁ z=>X35 z fun H₁ m₁ fl S₁ I₁ T₁ hfl q=>?_) fun v s₁ z=>X23 z fun H₁ e hv F₁ hE=>?_)
 ·cases hfl with
  | next=>exact wpAny_execs_nil (I35 H₁ m₁ (.next) S₁ I₁ T₁ (.next) q)
  | brk=>exact I35 H₁ m₁ (.brk) S₁ I₁ T₁ (.brk) q
  | ret hv=>exact I35 H₁ m₁ (.ret _) S₁ I₁ (.inl ⟨_,rfl⟩) (.ret hv) q
 ·clear hg hy hb h0 pos z h ha
  subst hv
  refine jH B.bd.fr B.fr F₁ fun s₂ F₂ W₂=>gI F₂ W₂ fun s₃ F₃ W₃=>?_
  refine X23 (F₃.exc) fun oe vs e1 e2 J=>?_
  refine wpAny_handleBy_cons (codeAny_handlers_test ?_) (by intro q;cases q)
  refine Name_function_global B.bd.kind (B.bd.gl _ h1) (loadGlobal_global (mg:=C.mg) (by rw [B.bd.glob];exact B.bd.O.g.keeps F₃.inv.stays) B.bd.O.xG ?_) h2
  refine Ce B.bd.O F₃.inv.stays e1 e2 ?_
  refine Eq.symm (if_pos rfl)▸?_
  refine codeAny_handlers_suite (gI F₃ W₃ fun s₄ F₄ W₄=>?_)
  refine wpAny_execs_cons (wpAny_Return_some (wpAny_Constant_none ?_))
  exact I35 H₁ m (.ret .none) (F₄.step) (F₄.inv) (.inl ⟨_,rfl⟩) (.ret rfl) hE
theorem S_dead:PS C A outer env d ns Fn (.dead):=by
 intro x m H H₀ s s₀ E Q B S T ha h
 exact h.elim
theorem Ss_nil:PSs C A outer env d ns Fn []:=by
 intro xs m H H₀ s s₀ E Q B S T ha h
 cases xs with
 | nil=>exact wpAny_execs_nil (SG.next S T h)
 | cons _ _=>exact (Bool.false_ne_true ha).elim
theorem Ss_cons {st:MS}{r:List MS}(i_st:PS C A outer env d ns Fn st) (i_r:PSs C A outer env d ns Fn r):PSs C A outer env d ns Fn (st::r):=by
 intro xs m H H₀ s s₀ E Q B S T ha h
 cases xs with
 | nil=>exact (Bool.false_ne_true ha).elim
 | cons x xs=>
  have ha:=fW ha
  refine wpAny_execs_cons (wpAny_mono (i_st B S T ha.1 h) (fun f s' z=>X35 z fun H' m' fl S' I' T' hfl q=>?_) fun J J x=>x)
  clear z T S s i_st
  cases hfl with
  | next=>
   obtain ⟨p,e⟩|T':=T'
   ·refine hC fun hG=>?_
    cases e<;>(refine hG ?_;clear hG)
   ·exact i_r B S' T' ha.2 q
  | brk=>exact I35 H' m' (.brk) S' I' T' (.brk) q
  | ret hv=>exact I35 H' m' (.ret _) S' I' (.inl ⟨_,rfl⟩) (.ret hv) q
theorem sSs (sts:List MS):PSs C A outer env d ns Fn sts:=
 MS.rec_1 (motive_1:=fun st=>PS C A outer env d ns Fn st) (motive_2:=fun sts=>PSs C A outer env d ns Fn sts)
  (fun x0=>S_expr hF hnd )
  (fun x0 x1=>S_asg hF hnd )
  (fun x0 x1=>S_asgT hF hnd )
  (fun x0 x1=>S_swap hF hnd )
  (fun x0 x1 x2=>Js hF hnd )
  (fun x0 x1 x2=>Gv hF hnd )
  (fun x0 x1 x2=>S_aug hF hnd )
  (fun x0 x1 x2 x3=>Gw hF hnd )
  (fun x0 x1 x2 h1 h2=>S_ifs hF hnd h1 h2)
  (fun x0 x1 h1=>S_whl hF hnd h1)
  (fun x0 x1 x2 x3 h3=>S_fors hF hnd h3)
  (fun x0=>S_ret hF hnd )
  (S_brk hF hnd )
  (fun x0=>S_raise hF hnd )
  (fun x0 h0=>S_tryN hF hnd h0)
  (S_dead hF hnd )
  (Ss_nil hF hnd) (fun J J a b=>Ss_cons hF hnd a b) sts
end
end
end Mine.Internal
end
noncomputable section
namespace Mine.Internal
theorem tB:∀ (names:List (Str×NameKind)) (n:Nat) (acc:List (Str×Addr)),(∀ p∈acc,p∈cellsFrom n names acc)∧∀ x,(x,NameKind.cell)∈names→∃ c,(x,c)∈cellsFrom n names acc:=by
 intro x0
 induction x0 with
 | nil=>
  intro n acc
  exact ⟨fun p h=>h,fun x h=>nomatch h⟩
 | cons x8 r ih=>
  intro n acc
  obtain ⟨nm,k⟩:=x8
  unfold cellsFrom
  by_cases hk:(k==NameKind.cell)=true
  ·refine Eq.symm (if_pos hk)▸?_
   refine X02 (ih (n+1) ((nm,n)::acc)) fun h1 h2=>?_
   refine ⟨fun p hp=>h1 p (.tail _ hp),fun x hx=>?_⟩
   refine Or.elim (List.mem_cons.mp hx) ?_ ?_
   ·intro e
    cases e;exact ⟨n,h1 _ (.head _)⟩
   ·intro hx
    exact h2 x hx
  ·refine Eq.symm (if_neg hk)▸?_
   refine X02 (ih n acc) fun h1 h2=>?_
   refine ⟨h1,fun x hx=>?_⟩
   refine Or.elim (List.mem_cons.mp hx) ?_ ?_
   ·intro e
    cases e;simp at hk
   ·intro hx
    exact h2 x hx
theorem zB {ko:Str→Option NameKind}{x:Str}:∀ {binds:List (Str×Value)}{m:Str→Option Value},x∉binds.map (·.1)→bindL ko binds m x=m x:=by
 intro x0
 induction x0 with
 | nil=>
  intro J J
  exact rfl
 | cons x8 r ih=>
  intro m h
  obtain ⟨n,v⟩:=x8
  simp only [List.map_cons,List.mem_cons,not_or] at h
  unfold bindL
  rw [ih h.2]
  split
  ·simp [h.1]
  ·rfl
theorem zD {ko:Str→Option NameKind}{x:Str}:∀ {binds:List (Str×Value)}{m:Str→Option Value},x∉binds.map (·.1)→bindC ko binds m x=m x:=by
 intro x0
 induction x0 with
 | nil=>
  intro J J
  exact rfl
 | cons x8 r ih=>
  intro m h
  obtain ⟨n,v⟩:=x8
  simp only [List.map_cons,List.mem_cons,not_or] at h
  unfold bindC
  rw [ih h.2]
  split
  ·rfl
  ·simp [h.1]
theorem zC {ko:Str→Option NameKind}{x:Str}{v:Value}:∀ {binds:List (Str×Value)}{m:Str→Option Value},(binds.map (·.1)).Nodup→(x,v)∈binds→ko x=some .local→bindL ko binds m x=some v
 | (n,w)::r,m,hn,hm,hk=>by
  simp only [List.map_cons,List.nodup_cons] at hn
  unfold bindL
  refine Or.elim (List.mem_cons.mp hm) ?_ ?_
  ·intro e
   cases e
   rw [zB hn.1,if_pos hk];simp
  ·intro hm
   exact zC hn.2 hm hk
theorem zE {ko:Str→Option NameKind}{x:Str}{v:Value}:∀ {binds:List (Str×Value)}{m:Str→Option Value},(binds.map (·.1)).Nodup→(x,v)∈binds→ko x≠some .local→bindC ko binds m x=some v
 | (n,w)::r,m,hn,hm,hk=>by
  simp only [List.map_cons,List.nodup_cons] at hn
  unfold bindC
  refine Or.elim (List.mem_cons.mp hm) ?_ ?_
  ·intro e
   cases e
   rw [zD hn.1,if_neg hk];simp
  ·intro hm
   exact zE hn.2 hm hk
noncomputable def mV (sc:Scope) (ps:List Str):Bool:=sc.kind==.function&&!sc.isCoroutine&&!sc.isGenerator&&sc.names.all (fun p=>p.2 != .free)&&ps.all fun x=>sc.names.lookup x==some .local||sc.names.lookup x==some .cell
theorem Cn {α β:Type}:∀ (a:List α) (b:List β),a.length=b.length→(a.zip b).map (·.1)=a
 | [],[],_=>rfl
 | x::a,y::b,h=>by simp [Cn a b (by simpa using h)]
theorem Er {C:Cx}(O:fN C) {f d:Nat}
  {name qual:Str} {params:Arguments} {body:List Stmt} {scope:Scope} {dV kV doc pm cdv ct oc:Value} {an od:Option Addr} {osl:Array (Option Value)}
  (ho:C.K.lookup (C.fn f)=some ⟨oc,od,.func (fnOf name qual params body scope dV kV doc pm an cdv ct),osl⟩) (hcd:codeIn C.K cdv qual=true) (hkp:keepIn C.K (.ref (C.fn f))=true)
  {ns:List Str} (hnd:ns.Nodup) {vs defs:List PV} (hsc:mV scope (ns.take (vs.length+defs.length))=true) (hns:vs.length+defs.length≤ns.length)
  (hbind:∀ (s:Shared) (args:List Value),C.K.In s.heap→args.length=vs.length→∃ dv:List Value,VRs C s.heap defs dv∧BindsTo s (fnOf name qual params body scope dV kV doc pm an cdv ct) ⟨args,[]⟩ ((ns.take (vs.length+defs.length)).zip (args++dv)))
  {H:MH} {Q:QV} {E:MH→Prop}
  (hw:∀ {A':Around} {fs:List Env} {env:Env} {s₀ s:Shared},Bt C A' fs env d s₀→env.scope=scope→aM (env::fs) H s₀ H s→St C (env::fs) env ns (fun i=>((vs++defs)[i]?).getD .undef) H s →
   wpAny (model C.prog C.w) A' (execs body env) (SG C (env::fs) env ns H s₀ (iR Q)) (FX C (env::fs) H s₀ E) s):aB C (d+1) f vs H Q E:=by
 refine ⟨hkp,fun A fs s args hfr hh hd hu I nl hv=>?_⟩
 simp only [mV,Bool.and_eq_true,beq_iff_eq,Bool.not_eq_true'] at hsc
 refine hC fun hG=>?_
 obtain ⟨⟨⟨⟨hk,hco⟩,hgen⟩,hfree⟩,hps⟩:=hsc<;>(refine hG ?_;clear hG)
 have X:=gZ O I
 refine X12 (hbind s args X hv.length) fun dv hdv hb=>?_
 generalize hfd:fnOf name qual params body scope dV kV doc pm an cdv ct=fd at ho hb
 have hbinds:(((ns.take (vs.length+defs.length)).zip (args++dv)).map (·.1))=ns.take (vs.length+defs.length):=Cn _ _ (by
  rw [List.length_take,List.length_append,hv.length,hdv.length];exact ar62 hns)
 have hnames:∀ x∈ns.take (vs.length+defs.length),scope.names.lookup x=some .local∨scope.names.lookup x=some .cell:=fun x hx=>by
  rw [List.all_eq_true] at hps
  have:=hps x hx
  simp only [Bool.or_eq_true,beq_iff_eq] at this;exact this
 have cellSome:∀ (n:Nat) x,scope.names.lookup x=some .cell→∃ c,(cellsFrom n scope.names []).lookup x=some c:=fun n x hx=>by
  refine X11 ((tB scope.names n []).2 x (fU hx)) fun c hc=>?_
  refine X12 (rL hc) fun c' h1 J=>?_
  exact ⟨c',h1⟩
 have hdep:A.depth<recursionLimit:=by
  have e:recursionLimit=1000:=rfl
  exact ar63 hd e
 refine codeAny_call_function hdep (X _ _ ho) rfl (by subst hfd;exact hco) (by subst hfd;exact hgen) (by subst hfd;rfl) (by subst hfd;exact codeRec_of X hcd) (hb _ _ _ _ ?_)
 clear hdep X hps hgen hco hbind hns hkp
 subst hfd
 refine wpAny_newFunctionEnv_cells hk (fun x hx=>?_) fun env he s₁ x=>?_
 ·have hm:x.1∈ns.take (vs.length+defs.length):=by rw [←hbinds];exact List.mem_map_of_mem hx
  rcases hnames x.1 hm with q|q
  ·exact .inl q
  ·refine X11 (cellSome (s.heap.objs.size+1) x.1 q) fun c hc=>?_
   exact .inr ⟨q,by rw [hc];rfl⟩
 ·have eL:env.locals=s.heap.objs.size:=by rw [he];rfl
  have eF:env.frame=some env.locals:=by rw [he];rfl
  have eS:env.scope=scope:=by rw [he];rfl
  have eC:env.cells=cellsFrom (s.heap.objs.size+1) scope.names []:=by rw [he];rfl
  have eG:env.globals=mainGlobals:=by rw [he];rfl
  have eB:env.builtins=builtinsNs:=by rw [he];rfl
  have lnew:s.heap.get? env.locals=none:=by rw [eL];exact dU _
  have bn:C.base.get? env.locals=none:=by rw [eL];exact gU I
  have hn:=x.toInCall.ns
  have cellx:=x.cell
  refine hC fun hG=>?_
  clear he hcd ho osl od oc f
  obtain ⟨h₁,tk,rfl,kp⟩:=x.done<;>(refine hG ?_;clear hG)
  have I₁:Inv C fs H { s with heap:=h₁,toks:=tk }:=aN I kp
  have I₂:Inv C (env::fs) H { s with heap:=h₁,toks:=tk }:=⟨I₁.stays,.cons (by rw [eS,hk];decide) eF hn bn I₁.frames,I₁.hrel,I₁.gens,I₁.os⟩
  have S₂:aM (env::fs) H s H { s with heap:=h₁,toks:=tk }:=aK kp
  have hL:H env.locals=none:=by rw [eL];exact I.none_size
  have Bt':Bt C (A.deeper env) fs env d s:=⟨⟨O,Around.frames_deeper hfr,hh,by rw [eS];exact hk,eG,eB,fun y h=>h,fun y hy=>⟨hy,by
    rcases hy with hy|hy
    ·rw [eC];exact cellSome _ y (by rw [←eS];exact hy)
    ·rw [List.all_eq_true] at hfree
     have:=hfree _ (fU (by rw [←eS];exact hy))
     simp at this⟩,by show A.depth+1+2*d+21≤999;exact ar64 hd,by show A.units+3+710+20*d<cLine;exact ar65 hu⟩,eF,I.stays,lnew⟩
  have hT:St C (env::fs) env ns (fun i=>((vs++defs)[i]?).getD .undef) H { s with heap:=h₁,toks:=tk }:=by
   refine ⟨I₂,fun b hb=>?_,(I12 _ hn (fun i nm ei hu=>?_)),hL⟩
   ·rcases List.mem_filterMap.mp hb with ⟨e',he',hf'⟩
    clear I₂ hn bn eB eG eL x hfree
    rcases List.mem_cons.mp he' with rfl|he'
    ·rw [eF] at hf';cases hf';exact hL
    ·exact nl b (List.mem_filterMap.mpr (I12 e' he' hf'))
   ·dsimp only at hu ⊢
    cases e:(vs++defs)[i]? with
    | none=>rw [e] at hu;exact absurd rfl hu
    | some p=>
     refine Eq.symm (Option.getD_some)▸?_
     have hi:i<vs.length+defs.length:=by
      have:=(List.getElem?_eq_some_iff.mp e).1;simpa using this
     have hvd:VRs C s.heap (vs++defs) (args++dv):=hv.append hdv
     refine X12 (hvd.get e) fun v ev rv=>?_
     have rv':VR C h₁ p v:=rv.keeps kp
     have et:(ns.take (vs.length+defs.length))[i]?=some nm:=by rw [List.getElem?_take,if_pos hi];exact ei
     have hmem:(nm,v)∈(ns.take (vs.length+defs.length)).zip (args++dv):=by
      refine List.mem_of_getElem? (i:=i) ?_
      rw [List.getElem?_zip_eq_some];exact ⟨et,ev⟩
     have hndb:(((ns.take (vs.length+defs.length)).zip (args++dv)).map (·.1)).Nodup:=by rw [hbinds];exact (List.take_sublist _ _).nodup hnd
     rcases hnames nm (List.mem_of_getElem? et) with q|q
     ·have q':env.kindOf nm=some .local:=by unfold Env.kindOf;rw [eS];exact q
      exact .inl ⟨q',v,zC hndb hmem q',rv'⟩
     ·have q':env.kindOf nm=some .cell:=by unfold Env.kindOf;rw [eS];exact q
      refine X11 (cellSome (s.heap.objs.size+1) nm q) fun c hc=>?_
      rw [←eC] at hc
      have:=cellx nm c hc
      rw [zE hndb hmem (by rw [q'];decide)] at this
      exact .inr ⟨.inl q',c,v,hc,this,rv'⟩
  refine ⟨O.nolimit.keeps I₁.stays,codeAny_func ?_⟩
  have outer:∀ {H':MH} {s':Shared},aM (env::fs) H s H' s'→Inv C (env::fs) H' s'→aM fs H s H' s'∧Inv C fs H' s':=fun S' I'=>
   ⟨⟨fun b o e hb=>by
    clear hL I₂ I₁ kp cellx hn bn eB
    obtain ⟨k1,k2|⟨k2,k3⟩⟩:=S'.keep b o e hb
    ·exact ⟨k1,.inl k2⟩
    ·refine ⟨k1,.inr ⟨?_,k3⟩⟩
     rcases List.mem_filterMap.mp k2 with ⟨e',he',hf'⟩
     clear k3 k2 k1 eG eC eL x hnames
     rcases List.mem_cons.mp he' with rfl|he'
     ·rw [eF] at hf';cases hf';rw [lnew] at e;cases e
     ·exact List.mem_filterMap.mpr (I12 e' he' hf'),S'.mono⟩,⟨I'.stays,I'.frames.2.2,I'.hrel,I'.gens,I'.os⟩⟩
  refine wpAny_mono (hw Bt' eS S₂ hT) (fun fl s' z=>X35 z fun H' m' f' S' I' T' hfl q=>?_) fun v s' z=>X23 z fun H' e hv' F' hE=>?_
  ·refine X02 (outer S' I') fun S'' I''=>?_
   clear T' z I' S' hT Bt' hL S₂
   cases hfl with
   | next=>exact ⟨H',S'',I'',.none,rfl,q⟩
   | brk=>exact q.elim
   | ret hp=>exact ⟨H',S'',I'',_,hp,q⟩
  ·clear z hT Bt' hL S₂ I₂ I₁ kp
   subst hv'
   refine Cb (Around.frames_deeper hfr) eF F' fun s'' F'' J=>?_
   refine X02 (outer F''.step F''.inv) fun S'' I''=>?_
   exact I25 H' e rfl S'' I'' (F''.exc) hE
theorem Jt {C:Cx}(O:fN C) {f d:Nat}{Fn:FSt}(hF:∀ f vs H Q E,Fn f vs H Q E→aB C d f vs H Q E)
  {name qual:Str} {params:Arguments} {body:List Stmt} {scope:Scope} {dV kV doc pm cdv ct oc:Value} {an od:Option Addr} {osl:Array (Option Value)}
  (ho:C.K.lookup (C.fn f)=some ⟨oc,od,.func (fnOf name qual params body scope dV kV doc pm an cdv ct),osl⟩) (hcd:codeIn C.K cdv qual=true) (hkp:keepIn C.K (.ref (C.fn f))=true)
  {ns:List Str} {b:List MS} (hnd:ns.Nodup) (hag:tE scope ns b body=true) {vs defs:List PV} (hsc:mV scope (ns.take (vs.length+defs.length))=true) (hns:vs.length+defs.length≤ns.length)
  (hbind:∀ (s:Shared) (args:List Value),C.K.In s.heap→args.length=vs.length→∃ dv:List Value,VRs C s.heap defs dv∧BindsTo s (fnOf name qual params body scope dV kV doc pm an cdv ct) ⟨args,[]⟩ ((ns.take (vs.length+defs.length)).zip (args++dv)))
  {H:MH} {Q:QV} {E:MH→Prop}
  (h:mSs Fn C.gv E b (fun i=>((vs++defs)[i]?).getD .undef) H (iR Q)):aB C (d+1) f vs H Q E:=
 Er O ho hcd hkp hnd hsc hns hbind fun B e S T=>sSs hF hnd b B S T (by rw [e];exact hag) h
end Mine.Internal
end
noncomputable section
open PySem
namespace Mine.Internal
noncomputable def Ii:List Str:=["self","rows"]
noncomputable def sJ:List MS:=
 [.setattr 0 (.var 0) (.bi .list [.var 1]),
  .setattr 1 (.var 0) (.int 0)]
noncomputable def yI:List Str:=["self","ahead"]
noncomputable def eU:List MS:=
 [.ret (.idx (.attr 0 (.var 0)) (.bi .min [.bin .add (.attr 1 (.var 0)) (.var 1),.bin .sub (.bi .len [.attr 0 (.var 0)]) (.int 1)]))]
noncomputable def Ig:List Str:=["self","word"]
noncomputable def nW:List MS:=
 [.asg 1 (.wmeth 1 (.var 0) []),
  .ifs (.cmp .ne (.idx (.var 1) (.int 0)) (.str [101,110,100])) [.augattr 1 (.var 0) .add (.int 1)] [],
  .ret (.var 1)]
noncomputable def tR:List Str:=["self","text","ahead","word"]
noncomputable def gL:List MS:=
 [.asg 3 (.wmeth 1 (.var 0) [.var 2]),
  .ret (.and [.cmp .in_ (.idx (.var 3) (.int 0)) (.tuple [.str [115,105,103,110],.str [110,97,109,101]]),.cmp .eq (.idx (.var 3) (.int 1)) (.var 1)])]
noncomputable def Bn:List Str:=["self","text"]
noncomputable def mO:List MS:=
 [.ifs (.not (.wmeth 3 (.var 0) [.var 1])) [.raise [.bin .add (.var 1) (.str [32,105,115,32,109,105,115,115,105,110,103]),.idx (.wmeth 1 (.var 0) []) (.int 2)]] [],
  .ret (.wmeth 2 (.var 0) [])]
noncomputable def Ih:List Str:=["self","word"]
noncomputable def sI:List MS:=
 [.asg 1 (.wmeth 1 (.var 0) []),
  .ifs (.or [.cmp .ne (.idx (.var 1) (.int 0)) (.str [110,97,109,101]),.cmp .in_ (.idx (.var 1) (.int 1)) (.gval 2)]) [.raise [.str [97,32,110,97,109,101,32,105,115,32,109,105,115,115,105,110,103],.idx (.var 1) (.int 2)]] [],
  .augattr 1 (.var 0) .add (.int 1),
  .ret (.tuple [.idx (.var 1) (.int 1),.idx (.var 1) (.int 2)])]
noncomputable def pW:List Str:=["self","word"]
noncomputable def gC:List MS:=
 [.asg 1 (.wmeth 1 (.var 0) []),
  .ifs (.or [.cmp .ne (.idx (.var 1) (.int 0)) (.str [115,105,103,110]),.cmp .ne (.slc (.idx (.var 1) (.int 1)) .none (.int 1)) (.str [62])]) [.raise [.str [62,32,105,115,32,109,105,115,115,105,110,103],.idx (.var 1) (.int 2)]] [],
  .ifs (.cmp .eq (.idx (.var 1) (.int 1)) (.str [62])) [.augattr 1 (.var 0) .add (.int 1)] [.setidx (.attr 0 (.var 0)) (.attr 1 (.var 0)) (.tuple [.str [115,105,103,110],.slc (.idx (.var 1) (.int 1)) (.int 1) .none,.bin .add (.idx (.var 1) (.int 2)) (.int 1),.none,.none])],
  .ret (.tuple [.str [115,105,103,110],.str [62],.idx (.var 1) (.int 2),.none,.none])]
noncomputable def yE:List Str:=["words","word","spot"]
noncomputable def pM:List MS:=
 [.asg 1 (.wmeth 1 (.var 0) []),
  .asg 2 (.idx (.var 1) (.int 2)),
  .ifs (.wmeth 3 (.var 0) [.str [40]]) [.ret (.call 8 [.var 0])] [],
  .ifs (.or [.wmeth 3 (.var 0) [.str [38]],.wmeth 3 (.var 0) [.str [38,38]]]) [.ret (.call 9 [.var 0])] [],
  .ifs (.wmeth 3 (.var 0) [.str [91]]) [.ret (.call 10 [.var 0])] [],
  .ifs (.wmeth 3 (.var 0) [.str [33]]) [.expr (.wmeth 2 (.var 0) []),
  .ret (.tuple [.str [110,101,118,101,114],.var 2])] [],
  .ifs (.wmeth 3 (.var 0) [.str [95]]) [.expr (.wmeth 2 (.var 0) []),
  .ret (.tuple [.str [105,110,102,101,114],.var 2])] [],
  .ret (.tuple [.str [112,97,116,104],.var 2,.call 11 [.var 0]])]
noncomputable def nI:List Str:=["words","spot","found","is_tuple"]
noncomputable def eR:List MS:=
 [.asg 1 (.idx (.wmeth 4 (.var 0) [.str [40]]) (.int 2)),
  .swap [2,3] [.list [],.bool true],
  .whl (.not (.wmeth 3 (.var 0) [.str [41]])) [.expr (.meth .append (.var 2) [.call 7 [.var 0]]),
  .asg 3 (.wmeth 3 (.var 0) [.str [44]]),
  .ifs (.not (.var 3)) [.brk] [],
  .expr (.wmeth 2 (.var 0) [])],
  .expr (.wmeth 4 (.var 0) [.str [41]]),
  .ifs (.and [.cmp .eq (.bi .len [.var 2]) (.int 1),.not (.var 3)]) [.ret (.idx (.var 2) (.int 0))] [],
  .ret (.tuple [.str [116,117,112,108,101],.var 1,.bi .tuple [.var 2]])]
noncomputable def pS:List Str:=["words","word","spot","region","is_mut","found"]
noncomputable def aH:List MS:=
 [.asg 1 (.wmeth 2 (.var 0) []),
  .asg 2 (.bin .sub (.bin .add (.idx (.var 1) (.int 2)) (.bi .len [.idx (.var 1) (.int 1)])) (.int 1)),
  .asg 3 (.none),
  .ifs (.cmp .eq (.idx (.wmeth 1 (.var 0) []) (.int 0)) (.str [114,101,103,105,111,110])) [.asg 3 (.idx (.wmeth 2 (.var 0) []) (.int 1))] [],
  .asg 4 (.wmeth 3 (.var 0) [.str [109,117,116]]),
  .ifs (.var 4) [.expr (.wmeth 2 (.var 0) [])] [],
  .asg 5 (.tuple [.str [114,101,102],.var 2,.var 3,.var 4,.call 7 [.var 0]]),
  .ret (.ite (.cmp .eq (.idx (.var 1) (.int 1)) (.str [38])) (.var 5) (.tuple [.str [114,101,102],.idx (.var 1) (.int 2),.none,.bool false,.var 5]))]
noncomputable def nJ:List Str:=["words","spot","inner","word"]
noncomputable def eT:List MS:=
 [.asg 1 (.idx (.wmeth 4 (.var 0) [.str [91]]) (.int 2)),
  .asg 2 (.call 7 [.var 0]),
  .expr (.wmeth 4 (.var 0) [.str [59]]),
  .asg 3 (.wmeth 2 (.var 0) []),
  .ifs (.or [.cmp .ne (.idx (.var 3) (.int 0)) (.str [105,110,116]),.cmp .nin (.idx (.var 3) (.int 4)) (.tuple [.none,.str [117,115,105,122,101]])]) [.raise [.str [116,104,101,32,108,101,110,103,116,104,32,111,102,32,97,110,32,97,114,114,97,121,32,105,115,32,109,105,115,115,105,110,103],.idx (.var 3) (.int 2)]] [],
  .expr (.wmeth 4 (.var 0) [.str [93]]),
  .ret (.tuple [.str [97,114,114,97,121],.var 1,.var 2,.idx (.var 3) (.int 3)])]
noncomputable def nG:List Str:=["words","is_expr","found","row"]
noncomputable def dD:List MS:=
 [.asg 2 (.list [.call 12 [.var 0,.tuple [],.var 1]]),
  .whl (.wmeth 3 (.var 0) [.str [58,58]]) [.expr (.wmeth 2 (.var 0) []),
  .expr (.meth .append (.var 2) [.call 12 [.var 0,.bi .tuple [.comp (.idx (.var 3) (.int 0)) 3 [] (.var 2) []],.var 1]])],
  .ret (.bi .tuple [.var 2])]
noncomputable def rB:List Str:=["words","ahead","is_expr","name"]
noncomputable def kU:List MS:=
 [.asg 3 (.call 13 [.var 0,.var 1]),
  .ifs (.and [.wmeth 3 (.var 0) [.str [58,58]],.wmeth 3 (.var 0) [.str [60],.int 1]]) [.expr (.wmeth 2 (.var 0) []),
  .ret (.bin .add (.tuple [.var 3]) (.call 14 [.var 0]))] [],
  .ifs (.and [.not (.var 2),.wmeth 3 (.var 0) [.str [60]]]) [.ret (.bin .add (.tuple [.var 3]) (.call 14 [.var 0]))] [],
  .ret (.tuple [.var 3,.tuple [],.tuple []])]
noncomputable def oP:List Str:=["words","ahead","word"]
noncomputable def iY:List MS:=
 [.asg 2 (.wmeth 1 (.var 0) []),
  .ifs (.and [.cmp .eq (.idx (.var 2) (.int 0)) (.str [110,97,109,101]),.cmp .in_ (.idx (.var 2) (.int 1)) (.gval 0)]) [.ifs (.or [.cmp .eq (.var 1) (.tuple []),.and [.cmp .eq (.idx (.var 2) (.int 1)) (.str [115,117,112,101,114]),.cmp .in_ (.idx (.var 1) (.neg 1)) (.tuple [.str [115,117,112,101,114],.str [115,101,108,102]])]]) [.expr (.wmeth 2 (.var 0) []),
  .ret (.idx (.var 2) (.int 1))] [],
  .raise [.bin .add (.idx (.var 2) (.int 1)) (.str [32,115,116,97,110,100,115,32,97,116,32,116,104,101,32,98,101,103,105,110,32,111,102,32,97,32,112,97,116,104,32,97,108,111,110,101]),.idx (.var 2) (.int 2)]] [],
  .ret (.idx (.wmeth 5 (.var 0) []) (.int 0))]
noncomputable def oQ:List Str:=["words","regions","types"]
noncomputable def fJ:List MS:=
 [.expr (.wmeth 4 (.var 0) [.str [60]]),
  .swap [1,2] [.list [],.list []],
  .whl (.not (.call 15 [.var 0])) [.ifs (.cmp .eq (.idx (.wmeth 1 (.var 0) []) (.int 0)) (.str [114,101,103,105,111,110])) [.ifs (.cmp .ne (.var 2) (.list [])) [.raise [.str [114,101,103,105,111,110,115,32,115,116,97,110,100,32,97,104,101,97,100,32,111,102,32,116,121,112,101,115],.idx (.wmeth 1 (.var 0) []) (.int 2)]] [],
  .expr (.meth .append (.var 1) [.idx (.wmeth 2 (.var 0) []) (.int 1)])] [.expr (.meth .append (.var 2) [.call 7 [.var 0]])],
  .ifs (.not (.wmeth 3 (.var 0) [.str [44]])) [.brk] [],
  .expr (.wmeth 2 (.var 0) [])],
  .expr (.wmeth 6 (.var 0) []),
  .ret (.tuple [.bi .tuple [.var 1],.bi .tuple [.var 2]])]
noncomputable def yG:List Str:=["words","word"]
noncomputable def pN:List MS:=
 [.asg 1 (.wmeth 1 (.var 0) []),
  .ret (.and [.cmp .eq (.idx (.var 1) (.int 0)) (.str [115,105,103,110]),.cmp .eq (.slc (.idx (.var 1) (.int 1)) .none (.int 1)) (.str [62])])]
noncomputable def pT:List Str:=["words","regions","params"]
noncomputable def gA:List MS:=
 [.ifs (.not (.wmeth 3 (.var 0) [.str [60]])) [.ret (.tuple [.tuple [],.tuple []])] [],
  .expr (.wmeth 2 (.var 0) []),
  .swap [1,2] [.list [],.list []],
  .whl (.not (.call 15 [.var 0])) [.ifs (.cmp .eq (.idx (.wmeth 1 (.var 0) []) (.int 0)) (.str [114,101,103,105,111,110])) [.ifs (.cmp .ne (.var 2) (.list [])) [.raise [.str [114,101,103,105,111,110,115,32,115,116,97,110,100,32,97,104,101,97,100,32,111,102,32,116,121,112,101,115],.idx (.wmeth 1 (.var 0) []) (.int 2)]] [],
  .expr (.meth .append (.var 1) [.idx (.wmeth 2 (.var 0) []) (.int 1)])] [.expr (.meth .append (.var 2) [.call 17 [.var 0]])],
  .ifs (.not (.wmeth 3 (.var 0) [.str [44]])) [.brk] [],
  .expr (.wmeth 2 (.var 0) [])],
  .expr (.wmeth 6 (.var 0) []),
  .ret (.tuple [.bi .tuple [.var 1],.bi .tuple [.var 2]])]
noncomputable def vJ:List Str:=["words","name","bounds"]
noncomputable def jO:List MS:=
 [.asg 1 (.idx (.wmeth 5 (.var 0) []) (.int 0)),
  .asg 2 (.list []),
  .ifs (.wmeth 3 (.var 0) [.str [58]]) [.expr (.wmeth 2 (.var 0) []),
  .expr (.meth .append (.var 2) [.call 11 [.var 0]]),
  .whl (.wmeth 3 (.var 0) [.str [43]]) [.expr (.wmeth 2 (.var 0) []),
  .expr (.meth .append (.var 2) [.call 11 [.var 0]])]] [],
  .ret (.tuple [.var 1,.bi .tuple [.var 2]])]
noncomputable def n_plain:List Str:=["tree","left","made","here","is_open","begin","parts","part"]
noncomputable def nV:List MS:=
 [.swap [1,2] [.list [.tuple [.var 0,.bool false]],.list []],
  .whl (.cmp .ne (.var 1) (.list [])) [.asgT [3,4] (.meth .pop (.var 1) []),
  .ifs (.not (.bi .isTuple [.var 3])) [.expr (.meth .append (.var 2) [.var 3])] [.ifs (.not (.var 4)) [.expr (.meth .append (.var 1) [.tuple [.var 3,.bool true]]),
  .expr (.meth .extend (.var 1) [.comp (.tuple [.var 7,.bool false]) 7 [] (.rev (.var 3)) []])] [.asg 5 (.bin .sub (.bi .len [.var 2]) (.bi .len [.var 3])),
  .asg 6 (.slc (.var 2) (.var 5) .none),
  .asg 2 (.slc (.var 2) .none (.var 5)),
  .expr (.meth .append (.var 2) [.bi .tuple [.call 19 [.var 3,.var 6]]])]]],
  .ret (.idx (.var 2) (.int 0))]
noncomputable def rA:List Str:=["here","parts"]
noncomputable def bN:List MS:=
 [.ifs (.and [.cmp .gt (.bi .len [.var 0]) (.int 1),.bi .isStr [.idx (.var 0) (.int 0)],.bi .isInt [.idx (.var 0) (.int 1)],.not (.bi .isBool [.idx (.var 0) (.int 1)])]) [.ret (.bin .add (.list [.idx (.var 1) (.int 0),.int 0]) (.slc (.var 1) (.int 2) .none))] [],
  .ret (.var 1)]
noncomputable def Fv:List Str:=["text","at","signs"]
noncomputable def oY:List MS:=
 [.whl (.and [.cmp .lt (.var 1) (.bi .len [.var 0]),.cmp .in_ (.idx (.var 0) (.var 1)) (.var 2)]) [.aug 1 .add (.int 1)],
  .ret (.var 1)]
noncomputable def vH:List Str:=["text","at","begin","depth"]
noncomputable def jM:List MS:=
 [.swap [2,3] [.var 1,.int 0],
  .whl (.cmp .lt (.var 1) (.bi .len [.var 0])) [.ifs (.cmp .eq (.slc (.var 0) (.var 1) (.bin .add (.var 1) (.int 2))) (.str [47,42])) [.swap [3,1] [.bin .add (.var 3) (.int 1),.bin .add (.var 1) (.int 2)]] [.ifs (.cmp .eq (.slc (.var 0) (.var 1) (.bin .add (.var 1) (.int 2))) (.str [42,47])) [.swap [3,1] [.bin .sub (.var 3) (.int 1),.bin .add (.var 1) (.int 2)],
  .ifs (.cmp .eq (.var 3) (.int 0)) [.ret (.var 1)] []] [.aug 1 .add (.int 1)]]],
  .dead]
noncomputable def yH:List Str:=["text","at","end"]
noncomputable def kX:List MS:=
 [.whl (.cmp .lt (.var 1) (.bi .len [.var 0])) [.ifs (.cmp .in_ (.idx (.var 0) (.var 1)) (.gval 7)) [.asg 1 (.call 20 [.var 0,.var 1,.gval 7])] [.ifs (.cmp .eq (.slc (.var 0) (.var 1) (.bin .add (.var 1) (.int 2))) (.str [47,47])) [.dead,
  .asg 1 (.ite (.cmp .lt (.var 2) (.int 0)) (.bi .len [.var 0]) (.var 2))] [.ifs (.cmp .eq (.slc (.var 0) (.var 1) (.bin .add (.var 1) (.int 2))) (.str [47,42])) [.asg 1 (.call 21 [.var 0,.var 1])] [.ret (.var 1)]]]],
  .ret (.var 1)]
noncomputable def rE:List Str:=["sign","place"]
noncomputable def kW:List MS:=
 [.asg 1 (.meth .find (.str [48,49,50,51,52,53,54,55,56,57,97,98,99,100,101,102]) [.meth .lower (.var 0) []]),
  .ret (.ite (.cmp .ge (.var 1) (.int 0)) (.var 1) (.int 99))]
noncomputable def Be:List Str:=["text","begin","base","at","value","many","end","kind"]
noncomputable def mI:List MS:=
 [.asgT [2,3] (.call 24 [.var 0,.var 1]),
  .swap [4,5] [.int 0,.int 0],
  .whl (.and [.cmp .lt (.var 3) (.bi .len [.var 0]),.or [.cmp .eq (.idx (.var 0) (.var 3)) (.str [95]),.cmp .lt (.call 23 [.idx (.var 0) (.var 3)]) (.var 2)]]) [.ifs (.cmp .ne (.idx (.var 0) (.var 3)) (.str [95])) [.swap [4,5] [.bin .add (.bin .mul (.var 4) (.var 2)) (.call 23 [.idx (.var 0) (.var 3)]),.bin .add (.var 5) (.int 1)]] [],
  .aug 3 .add (.int 1)],
  .ifs (.cmp .eq (.var 5) (.int 0)) [.dead] [],
  .ifs (.cmp .gt (.var 5) (.gval 8)) [.dead] [],
  .asg 6 (.call 20 [.var 0,.var 3,.gval 6]),
  .asg 7 (.slc (.var 0) (.var 3) (.var 6)),
  .ifs (.and [.cmp .ne (.var 7) (.str []),.cmp .nin (.var 7) (.gval 1)]) [.dead] [],
  .ret (.tuple [.tuple [.str [105,110,116],.slc (.var 0) (.var 1) (.var 6),.var 1,.var 4,.ite (.cmp .eq (.var 7) (.str [])) (.none) (.var 7)],.var 6])]
noncomputable def yF:List Str:=["text","at","sign"]
noncomputable def kT:List MS:=
 [.fors [2] false (.gval 3) [.ifs (.cmp .eq (.slc (.var 0) (.var 1) (.bin .add (.var 1) (.bi .len [.var 2]))) (.var 2)) [.ret (.tuple [.tuple [.str [115,105,103,110],.var 2,.var 1,.none,.none],.bin .add (.var 1) (.bi .len [.var 2])])] []],
  .dead]
noncomputable def yD:List Str:=["text","at","end"]
noncomputable def iC:List MS:=
 [.ifs (.cmp .in_ (.idx (.var 0) (.var 1)) (.gval 5)) [.asg 2 (.call 20 [.var 0,.var 1,.gval 6]),
  .ret (.tuple [.tuple [.str [110,97,109,101],.slc (.var 0) (.var 1) (.var 2),.var 1,.none,.none],.var 2])] [],
  .ifs (.cmp .in_ (.idx (.var 0) (.var 1)) (.gval 4)) [.ret (.call 25 [.var 0,.var 1])] [],
  .ifs (.cmp .eq (.idx (.var 0) (.var 1)) (.str [39])) [.asg 2 (.call 20 [.var 0,.bin .add (.var 1) (.int 1),.gval 6]),
  .ifs (.or [.cmp .eq (.var 2) (.bin .add (.var 1) (.int 1)),.cmp .in_ (.idx (.var 0) (.bin .add (.var 1) (.int 1))) (.gval 4)]) [.dead] [],
  .ret (.tuple [.tuple [.str [114,101,103,105,111,110],.slc (.var 0) (.var 1) (.var 2),.var 1,.none,.none],.var 2])] [],
  .ret (.call 26 [.var 0,.var 1])]
noncomputable def yC:List Str:=["text","found","at","word"]
noncomputable def kS:List MS:=
 [.asg 1 (.list []),
  .asg 2 (.call 22 [.var 0,.int 0]),
  .whl (.cmp .lt (.var 2) (.bi .len [.var 0])) [.asgT [3,2] (.call 27 [.var 0,.var 2]),
  .expr (.meth .append (.var 1) [.var 3]),
  .asg 2 (.call 22 [.var 0,.var 2])],
  .expr (.meth .append (.var 1) [.tuple [.str [101,110,100],.str [],.bi .len [.var 0],.none,.none]]),
  .ret (.var 1)]
noncomputable def vI:List Str:=["text"]
noncomputable def jN:List MS:=
 [.ret (.new [.call 28 [.var 0]])]
noncomputable def Bl:List Str:=["script","k","cell","big","mixed"]
noncomputable def jQ:List MS:=
 [.asg 2 (.ite (.cmp .lt (.var 1) (.bi .len [.var 0])) (.idx (.var 0) (.var 1)) (.int 0)),
  .asg 3 (.bi .max [.var 2,.bin .sub (.neg 1) (.var 2)]),
  .asg 4 (.bin .mod (.bin .mul (.bin .add (.bin .add (.bin .add (.bin .mod (.var 3) (.int 2147483629)) (.bin .mul (.bin .mul (.int 7919) (.var 1)) (.var 1))) (.bin .mul (.int 31) (.var 1))) (.int 17)) (.int 48271)) (.int 2147483647)),
  .ret (.list [.ite (.cmp .ge (.var 3) (.pow 10 18)) (.var 3) (.int 0),.var 4])]
noncomputable def Bj:List Str:=["source","top","drawn"]
noncomputable def cK:List MS:=
 [.ifs (.cmp .gt (.idx (.var 0) (.int 0)) (.int 0)) [.asg 2 (.bin .mod (.idx (.var 0) (.int 0)) (.var 1)),
  .setidx (.var 0) (.int 0) (.bin .fdiv (.idx (.var 0) (.int 0)) (.var 1)),
  .ret (.var 2)] [],
  .setidx (.var 0) (.int 1) (.bin .mod (.bin .add (.bin .mul (.idx (.var 0) (.int 1)) (.int 39373)) (.int 7)) (.int 2147483647)),
  .ret (.bin .mod (.bin .fdiv (.bin .mod (.bin .mul (.idx (.var 0) (.int 1)) (.idx (.var 0) (.int 1))) (.int 2147483629)) (.int 32)) (.var 1))]
noncomputable def Fw:List Str:=["source","things"]
noncomputable def fL:List MS:=
 [.ret (.idx (.var 1) (.call 31 [.var 0,.bi .len [.var 1]]))]
noncomputable def rD:List Str:=["source","deep","is_expr","found","turn","way"]
noncomputable def gW:List MS:=
 [.asg 3 (.list []),
  .fors [4] false (.bi .range [.bin .add (.int 1) (.call 31 [.var 0,.int 3])]) [.ifs (.cmp .gt (.var 4) (.int 0)) [.expr (.meth .append (.var 3) [.str [58,58]])] [],
  .asg 5 (.call 31 [.var 0,.int 6]),
  .expr (.meth .append (.var 3) [.call 32 [.var 0,.ite (.and [.cmp .eq (.var 5) (.int 0),.cmp .lt (.var 4) (.int 2)]) (.gval 9) (.gval 10)]]),
  .ifs (.and [.cmp .gt (.var 1) (.int 0),.cmp .gt (.var 5) (.int 3)]) [.asg 3 (.bin .add (.bin .add (.var 3) (.bin .mul (.list [.str [58,58]]) (.bi .int [.or [.var 2,.cmp .eq (.var 5) (.int 5)]]))) (.call 34 [.var 0,.bin .sub (.var 1) (.int 1)]))] []],
  .ret (.var 3)]
noncomputable def oU:List Str:=["source","deep","rows","one","turn"]
noncomputable def fM:List MS:=
 [.asg 2 (.comp (.list [.var 3]) 3 [] (.call 32 [.var 0,.list [.list [],.list [],.list [.str [39,97]],.list [.str [39,97],.str [39,115,116,97,116,105,99]]]]) []),
  .asg 2 (.bin .add (.var 2) (.comp (.call 36 [.var 0,.var 1]) 4 [0,1] (.bi .range [.call 31 [.var 0,.int 3]]) [])),
  .ret (.call 35 [.var 0,.var 2,.str [60],.str [62],.bool false])]
noncomputable def vK:List Str:=["source","rows","begin","end","is_tuple","found","at"]
noncomputable def gJ:List MS:=
 [.asg 5 (.list [.var 2]),
  .fors [6] false (.bi .range [.bi .len [.var 1]]) [.asg 5 (.bin .add (.var 5) (.idx (.var 1) (.var 6))),
  .ifs (.or [.cmp .lt (.bin .add (.var 6) (.int 1)) (.bi .len [.var 1]),.cmp .eq (.call 31 [.var 0,.int 4]) (.int 0),.and [.var 4,.cmp .eq (.bi .len [.var 1]) (.int 1)]]) [.expr (.meth .append (.var 5) [.str [44]])] []],
  .ret (.bin .add (.var 5) (.list [.var 3]))]
noncomputable def rC:List Str:=["source","deep","way","turn"]
noncomputable def gV:List MS:=
 [.asg 2 (.ite (.cmp .gt (.var 1) (.int 0)) (.call 31 [.var 0,.int 8]) (.call 32 [.var 0,.list [.int 0,.int 0,.int 6,.int 7]])),
  .ifs (.cmp .lt (.var 2) (.int 3)) [.ret (.call 33 [.var 0,.var 1,.bool false])] [],
  .ifs (.cmp .eq (.var 2) (.int 3)) [.ret (.bin .add (.bin .add (.bin .add (.list [.str [38]]) (.call 32 [.var 0,.list [.list [],.list [],.list [.str [39,97]]]])) (.call 32 [.var 0,.list [.list [],.list [.str [109,117,116]]]])) (.call 36 [.var 0,.bin .sub (.var 1) (.int 1)]))] [],
  .ifs (.cmp .eq (.var 2) (.int 4)) [.ret (.call 35 [.var 0,.comp (.call 36 [.var 0,.bin .sub (.var 1) (.int 1)]) 3 [0,1] (.bi .range [.call 31 [.var 0,.int 3]]) [],.str [40],.str [41],.bool true])] [],
  .ifs (.cmp .eq (.var 2) (.int 5)) [.ret (.bin .add (.bin .add (.list [.str [91]]) (.call 36 [.var 0,.bin .sub (.var 1) (.int 1)])) (.list [.str [59],.str [51],.str [93]]))] [],
  .ret (.ite (.cmp .eq (.var 2) (.int 6)) (.list [.str [33]]) (.list [.str [95]]))]
noncomputable def mF:List Str:=["source","rows","name","row","turn","one"]
noncomputable def dR:List MS:=
 [.ifs (.cmp .eq (.call 31 [.var 0,.int 6]) (.int 0)) [.ret (.call 32 [.var 0,.list [.list [],.list [.str [65]],.list [.str [40]]]])] [],
  .asg 1 (.comp (.list [.var 5]) 5 [] (.call 32 [.var 0,.list [.list [],.list [.str [39,97]],.list [.str [39,97],.str [39,98]]]]) []),
  .fors [2] false (.slc (.list [.str [84],.str [85]]) .none (.call 31 [.var 0,.int 3])) [.asg 3 (.list [.var 2]),
  .fors [4] false (.bi .range [.call 31 [.var 0,.int 3]]) [.asg 3 (.bin .add (.bin .add (.var 3) (.list [.ite (.cmp .eq (.var 4) (.int 0)) (.str [58]) (.str [43])])) (.call 33 [.var 0,.int 1,.bool false]))],
  .expr (.meth .append (.var 1) [.var 3])],
  .ret (.call 35 [.var 0,.var 1,.str [60],.str [62],.bool false])]
noncomputable def Bm:List Str:=["source","row","way","at","more"]
noncomputable def mN:List MS:=
 [.asg 2 (.call 31 [.var 0,.int 8]),
  .ifs (.or [.cmp .gt (.var 2) (.int 4),.cmp .eq (.var 1) (.list [])]) [.ret (.bin .add (.var 1) (.call 32 [.var 0,.list [.list [],.list [],.list [.str [44]],.list [.str [62]],.list [.str [58,58],.str [65]],.list [.str [60],.str [65],.str [62]]]]))] [],
  .asg 3 (.call 31 [.var 0,.bi .len [.var 1]]),
  .ifs (.cmp .eq (.var 2) (.int 0)) [.ret (.bin .add (.slc (.var 1) .none (.var 3)) (.slc (.var 1) (.bin .add (.var 3) (.int 1)) .none))] [],
  .ifs (.cmp .eq (.var 2) (.int 1)) [.ret (.bin .add (.slc (.var 1) .none (.bin .add (.var 3) (.int 1))) (.slc (.var 1) (.var 3) .none))] [],
  .ifs (.cmp .eq (.var 2) (.int 2)) [.ret (.bin .add (.bin .add (.bin .add (.slc (.var 1) .none (.var 3)) (.slc (.var 1) (.bin .add (.var 3) (.int 1)) (.bin .add (.var 3) (.int 2)))) (.slc (.var 1) (.var 3) (.bin .add (.var 3) (.int 1)))) (.slc (.var 1) (.bin .add (.var 3) (.int 2)) .none))] [],
  .asg 4 (.call 32 [.var 0,.list [.str [102,110],.str [39,97],.str [115,117,112,101,114],.str [115,101,108,102],.str [51],.str [58],.str [58,58],.str [44],.str [38],.str [109,117,116],.str [43],.str [41]]]),
  .ret (.bin .add (.bin .add (.slc (.var 1) .none (.var 3)) (.list [.var 4])) (.slc (.var 1) (.bin .add (.var 3) (.bi .int [.cmp .eq (.var 2) (.int 3)])) .none))]
noncomputable def Bi:List Str:=["source","row","text","at","is_near"]
noncomputable def mK:List MS:=
 [.asg 2 (.str []),
  .fors [3] false (.bi .range [.bi .len [.var 1]]) [.asg 4 (.and [.cmp .gt (.var 3) (.int 0),.cmp .in_ (.idx (.var 1) (.var 3)) (.list [.str [62],.str [38]]),.cmp .eq (.idx (.var 1) (.bin .sub (.var 3) (.int 1))) (.idx (.var 1) (.var 3)),.cmp .eq (.call 31 [.var 0,.int 2]) (.int 0)]),
  .asg 2 (.bin .add (.bin .add (.var 2) (.ite (.var 4) (.str []) (.call 32 [.var 0,.list [.str [32],.str [10],.str [32,47,42,32,60,32,42,47,32]]]))) (.idx (.var 1) (.var 3)))],
  .ret (.var 2)]
noncomputable def Bf:List Str:=["row","at"]
noncomputable def mJ:List MS:=
 [.ret (.ite (.cmp .lt (.var 1) (.bi .len [.var 0])) (.idx (.var 0) (.var 1)) (.str []))]
noncomputable def Bk:List Str:=["row","at","end","way","found","is_comma","turn","one"]
noncomputable def mM:List MS:=
 [.swap [4,5] [.list [],.bool true],
  .fors [6] false (.bi .range [.bin .add (.bi .len [.var 0]) (.int 1)]) [.ifs (.cmp .eq (.call 40 [.var 0,.var 1]) (.var 2)) [.ret (.tuple [.var 4,.bin .add (.var 1) (.int 1),.var 5])] [],
  .asg 7 (.ite (.var 5) (.callv 3 [.var 0,.var 1]) (.none)),
  .ifs (.cmp .is_ (.var 7) (.none)) [.ret (.none)] [],
  .expr (.meth .append (.var 4) [.idx (.var 7) (.int 0)]),
  .asg 5 (.cmp .eq (.call 40 [.var 0,.idx (.var 7) (.int 1)]) (.str [44])),
  .asg 1 (.bin .add (.idx (.var 7) (.int 1)) (.bi .int [.var 5]))],
  .ret (.none)]
noncomputable def pU:List Str:=["row","at","word","told","region","is_mut"]
noncomputable def dO:List MS:=
 [.asg 2 (.call 40 [.var 0,.var 1]),
  .ifs (.cmp .eq (.var 2) (.str [40])) [.asg 3 (.call 41 [.var 0,.bin .add (.var 1) (.int 1),.str [41],.gfun 42]),
  .ifs (.cmp .is_ (.var 3) (.none)) [.ret (.none)] [],
  .ret (.ite (.and [.cmp .eq (.bi .len [.idx (.var 3) (.int 0)]) (.int 1),.not (.idx (.var 3) (.int 2))]) (.tuple [.idx (.idx (.var 3) (.int 0)) (.int 0),.idx (.var 3) (.int 1)]) (.tuple [.tuple [.str [116,117,112,108,101],.int 0,.bi .tuple [.idx (.var 3) (.int 0)]],.idx (.var 3) (.int 1)]))] [],
  .ifs (.cmp .eq (.var 2) (.str [38])) [.asg 4 (.ite (.cmp .eq (.slc (.call 40 [.var 0,.bin .add (.var 1) (.int 1)]) .none (.int 1)) (.str [39])) (.call 40 [.var 0,.bin .add (.var 1) (.int 1)]) (.none)),
  .asg 1 (.bin .add (.bin .add (.var 1) (.int 1)) (.bi .int [.cmp .isn (.var 4) (.none)])),
  .asg 5 (.cmp .eq (.call 40 [.var 0,.var 1]) (.str [109,117,116])),
  .asg 3 (.call 42 [.var 0,.bin .add (.var 1) (.bi .int [.var 5])]),
  .ret (.ite (.cmp .is_ (.var 3) (.none)) (.none) (.tuple [.tuple [.str [114,101,102],.int 0,.var 4,.var 5,.idx (.var 3) (.int 0)],.idx (.var 3) (.int 1)]))] [],
  .ifs (.cmp .eq (.var 2) (.str [91])) [.asg 3 (.call 42 [.var 0,.bin .add (.var 1) (.int 1)]),
  .ifs (.or [.cmp .is_ (.var 3) (.none),.cmp .ne (.slc (.var 0) (.idx (.var 3) (.int 1)) (.bin .add (.idx (.var 3) (.int 1)) (.int 3))) (.list [.str [59],.str [51],.str [93]])]) [.ret (.none)] [],
  .ret (.tuple [.tuple [.str [97,114,114,97,121],.int 0,.idx (.var 3) (.int 0),.int 3],.bin .add (.idx (.var 3) (.int 1)) (.int 3)])] [],
  .ifs (.cmp .in_ (.var 2) (.list [.str [33],.str [95]])) [.ret (.tuple [.tuple [.ite (.cmp .eq (.var 2) (.str [33])) (.str [110,101,118,101,114]) (.str [105,110,102,101,114]),.int 0],.bin .add (.var 1) (.int 1)])] [],
  .asg 3 (.call 43 [.var 0,.var 1,.bool false]),
  .ret (.ite (.cmp .is_ (.var 3) (.none)) (.none) (.tuple [.tuple [.str [112,97,116,104],.int 0,.idx (.var 3) (.int 0)],.idx (.var 3) (.int 1)]))]
noncomputable def pV:List Str:=["row","at","is_expr","found","turn","name","is_begin","has_colons","some","told","regions","one"]
noncomputable def gB:List MS:=
 [.asg 3 (.list []),
  .fors [4] false (.bi .range [.bin .add (.bi .len [.var 0]) (.int 1)]) [.asg 5 (.call 40 [.var 0,.var 1]),
  .asg 6 (.and [.cmp .in_ (.var 5) (.gval 9),.or [.cmp .eq (.var 3) (.list []),.and [.cmp .eq (.var 5) (.str [115,117,112,101,114]),.cmp .in_ (.idx (.idx (.var 3) (.neg 1)) (.int 0)) (.list [.str [115,117,112,101,114],.str [115,101,108,102]])]]]),
  .ifs (.and [.not (.var 6),.cmp .nin (.var 5) (.bin .add (.gval 10) (.list [.str [84],.str [85]]))]) [.ret (.none)] [],
  .swap [1,8] [.bin .add (.var 1) (.int 1),.tuple [.tuple [],.tuple []]],
  .asg 7 (.cmp .eq (.slc (.var 0) (.var 1) (.bin .add (.var 1) (.int 2))) (.list [.str [58,58],.str [60]])),
  .ifs (.or [.var 7,.and [.not (.var 2),.cmp .eq (.call 40 [.var 0,.var 1]) (.str [60])]]) [.asg 9 (.call 41 [.var 0,.bin .add (.bin .add (.var 1) (.int 1)) (.bi .int [.var 7]),.str [62],.gfun 44]),
  .ifs (.cmp .is_ (.var 9) (.none)) [.ret (.none)] [],
  .asg 10 (.comp (.var 11) 11 [] (.idx (.var 9) (.int 0)) [.bi .isStr [.var 11]]),
  .ifs (.cmp .ne (.comp (.var 11) 11 [] (.slc (.idx (.var 9) (.int 0)) .none (.bi .len [.var 10])) [.not (.bi .isStr [.var 11])]) (.list [])) [.ret (.none)] [],
  .swap [8,1] [.tuple [.bi .tuple [.var 10],.bi .tuple [.slc (.idx (.var 9) (.int 0)) (.bi .len [.var 10]) .none]],.idx (.var 9) (.int 1)]] [],
  .expr (.meth .append (.var 3) [.bin .add (.tuple [.var 5]) (.var 8)]),
  .ifs (.cmp .ne (.call 40 [.var 0,.var 1]) (.str [58,58])) [.ret (.tuple [.bi .tuple [.var 3],.var 1])] [],
  .asg 1 (.bin .add (.var 1) (.int 1))],
  .ret (.none)]
noncomputable def lQ:List Str:=["row","at"]
noncomputable def dG:List MS:=
 [.ifs (.cmp .eq (.slc (.call 40 [.var 0,.var 1]) .none (.int 1)) (.str [39])) [.ret (.tuple [.idx (.var 0) (.var 1),.bin .add (.var 1) (.int 1)])] [],
  .ret (.call 42 [.var 0,.var 1])]
noncomputable def oR:List Str:=["row","at","name","found","sign","turn","told"]
noncomputable def fK:List MS:=
 [.asg 2 (.call 40 [.var 0,.var 1]),
  .ifs (.cmp .eq (.slc (.var 2) .none (.int 1)) (.str [39])) [.ret (.tuple [.var 2,.bin .add (.var 1) (.int 1)])] [],
  .ifs (.cmp .nin (.var 2) (.bin .add (.gval 10) (.list [.str [84],.str [85]]))) [.ret (.none)] [],
  .swap [3,1,4] [.list [],.bin .add (.var 1) (.int 1),.str [58]],
  .fors [5] false (.bi .range [.bi .len [.var 0]]) [.ifs (.cmp .eq (.call 40 [.var 0,.var 1]) (.var 4)) [.asg 6 (.call 43 [.var 0,.bin .add (.var 1) (.int 1),.bool false]),
  .ifs (.cmp .is_ (.var 6) (.none)) [.ret (.none)] [],
  .expr (.meth .append (.var 3) [.idx (.var 6) (.int 0)]),
  .swap [1,4] [.idx (.var 6) (.int 1),.str [43]]] []],
  .ret (.tuple [.tuple [.var 2,.bi .tuple [.var 3]],.var 1])]
noncomputable def lP:List Str:=["row","told","regions","one"]
noncomputable def dF:List MS:=
 [.ifs (.cmp .ne (.call 40 [.var 0,.int 0]) (.str [60])) [.ret (.tuple [.tuple [.tuple [],.tuple []],.int 0])] [],
  .asg 1 (.call 41 [.var 0,.int 1,.str [62],.gfun 45]),
  .ifs (.cmp .is_ (.var 1) (.none)) [.ret (.none)] [],
  .asg 2 (.comp (.var 3) 3 [] (.idx (.var 1) (.int 0)) [.bi .isStr [.var 3]]),
  .ifs (.cmp .ne (.comp (.var 3) 3 [] (.slc (.idx (.var 1) (.int 0)) .none (.bi .len [.var 2])) [.not (.bi .isStr [.var 3])]) (.list [])) [.ret (.none)] [],
  .ret (.tuple [.tuple [.bi .tuple [.var 2],.bi .tuple [.slc (.idx (.var 1) (.int 0)) (.bi .len [.var 2]) .none]],.idx (.var 1) (.int 1)])]
noncomputable def Fy:List Str:=["kind","row","told"]
noncomputable def oZ:List MS:=
 [.ifs (.cmp .eq (.var 0) (.str [116,121,112,101])) [.asg 2 (.call 42 [.var 1,.int 0])] [.ifs (.cmp .eq (.var 0) (.str [103,101,110,101,114,105,99,115])) [.asg 2 (.call 46 [.var 1])] [.asg 2 (.call 43 [.var 1,.int 0,.cmp .eq (.var 0) (.str [101,120,112,114])])]],
  .ret (.ite (.cmp .is_ (.var 2) (.none)) (.none) (.list [.idx (.var 2) (.int 0),.meth .join (.str []) [.slc (.var 1) (.idx (.var 2) (.int 1)) .none]]))]
noncomputable def Bg:List Str:=["kind","text","here","tree","left","turn"]
noncomputable def jP:List MS:=
 [.asg 2 (.call 29 [.var 1]),
  .tryN [.ifs (.cmp .eq (.var 0) (.str [116,121,112,101])) [.asg 3 (.call 7 [.var 2])] [.ifs (.cmp .eq (.var 0) (.str [103,101,110,101,114,105,99,115])) [.asg 3 (.call 16 [.var 2])] [.asg 3 (.call 11 [.var 2,.cmp .eq (.var 0) (.str [101,120,112,114])])]]],
  .asg 4 (.str []),
  .fors [5] false (.bi .range [.bi .len [.var 1]]) [.asg 4 (.bin .add (.var 4) (.idx (.wmeth 2 (.var 2) []) (.int 1)))],
  .ret (.list [.call 18 [.var 3],.var 4])]
noncomputable def n_law:List Str:=["script","kind","text","row","due","k","source","rows","bent"]
noncomputable def b_law:List MS:=
 [.fors [1,2,3] true (.list [.tuple [.str [112,97,116,104],.str [115,101,108,102,58,58,115,117,112,101,114,58,58,65],.list [.str [115,101,108,102],.str [58,58],.str [115,117,112,101,114],.str [58,58],.str [65]]],.tuple [.str [101,120,112,114],.str [65,60,98],.list [.str [65],.str [60],.str [98]]],.tuple [.str [116,121,112,101],.str [65,60,98,60,39,97,62,62],.list [.str [65],.str [60],.str [98],.str [60],.str [39,97],.str [62],.str [62]]]]) [.asg 4 (.call 47 [.var 1,.var 3]),
  .ifs (.or [.cmp .is_ (.var 4) (.none),.cmp .ne (.call 48 [.var 1,.var 2]) (.var 4)]) [.ret (.bool false)] []],
  .fors [5] false (.bi .range [.bi .max [.int 1,.bi .min [.bi .len [.var 0],.int 2]]]) [.asg 6 (.call 30 [.var 0,.var 5]),
  .asg 7 (.list [.tuple [.str [116,121,112,101],.call 36 [.var 6,.int 3]],.tuple [.str [101,120,112,114],.call 33 [.var 6,.int 2,.bool true]]]),
  .asg 7 (.bin .add (.var 7) (.list [.tuple [.str [112,97,116,104],.call 33 [.var 6,.int 2,.bool false]],.tuple [.str [103,101,110,101,114,105,99,115],.call 37 [.var 6]]])),
  .fors [1,3] true (.var 7) [.asg 8 (.call 38 [.var 6,.var 3]),
  .ifs (.cmp .ne (.call 48 [.var 1,.call 39 [.var 6,.var 8]]) (.call 47 [.var 1,.var 8])) [.ret (.bool false)] []]],
  .ret (.bool true)]
end Mine.Internal
end
noncomputable section
namespace Mine.Internal
noncomputable def cE (vs:List PV):LE:=fun i=>(vs[i]?).getD .undef
noncomputable def aT (C:Cx) (f n:Nat) (b:List MS):Prop:=∀ {d:Nat}{vs:List PV}{H:MH}{Q:QV}{E:MH→Prop},vs.length=n→mSs (aB C d) C.gv E b (cE vs) H (iR Q)→aB C (d+1) f vs H Q E
noncomputable def oB (C:Cx) (f n:Nat) (b:List MS) (p:PV):Prop:=∀ {d:Nat}{vs:List PV}{H:MH}{Q:QV}{E:MH→Prop},vs.length+1=n→mSs (aB C d) C.gv E b (cE (vs++[p])) H (iR Q)→aB C (d+1) f vs H Q E
theorem aB.mono {C:Cx}{d d' f:Nat}{vs:List PV}{H:MH}{Q:QV}{E:MH→Prop}(hd:d≤d') (h:aB C d f vs H Q E):aB C d' f vs H Q E:=
 ⟨h.1,fun A fs s args a b c e=>h.2 A fs s args a b (ar68 hd c) (Nat.lt_of_le_of_lt (Nat.add_le_add_left (Nat.mul_le_mul_left 20 hd) _) e)⟩
section
variable {H:MH}{Q:QV}{R:Bool→Prop}
theorem o_addI {a b:Int}:dY .add (.int a) (.int b) H Q=Q (.int (a+b)) H:=rfl
theorem o_subI {a b:Int}:dY .sub (.int a) (.int b) H Q=Q (.int (a - b)) H:=rfl
theorem o_mulI {a b:Int}:dY .mul (.int a) (.int b) H Q=(a.natAbs<2 ^ 63∧Q (.int (a*b)) H):=rfl
theorem o_divI {a b:Int}:dY .fdiv (.int a) (.int b) H Q=(0<b∧b<1000000∧Q (.int (a / b)) H):=rfl
theorem o_modI {a b:Int}:dY .mod (.int a) (.int b) H Q=(0<b∧Q (.int (a % b)) H):=rfl
theorem o_addS {a b:List Nat}:dY .add (.str a) (.str b) H Q=(a.length+b.length≤16000000∧Q (.str (a++b)) H):=rfl
theorem o_addT {a b:List PV}:dY .add (.tup a) (.tup b) H Q=(a.length+b.length≤16000000∧Q (.tup (a++b)) H):=rfl
theorem o_lt {a b:Int}:cL H .lt (.int a) (.int b) R=R (decide (a<b)):=rfl
theorem o_le {a b:Int}:cL H .le (.int a) (.int b) R=R (decide (a≤b)):=rfl
theorem o_gt {a b:Int}:cL H .gt (.int a) (.int b) R=R (decide (b<a)):=rfl
theorem o_ge {a b:Int}:cL H .ge (.int a) (.int b) R=R (decide (b≤a)):=rfl
theorem cF {a b:List Nat}:cL H .eq (.str a) (.str b) R=R (decide (a=b)):=rfl
theorem nA {a b:List Nat}:cL H .ne (.str a) (.str b) R=R (!decide (a=b)):=rfl
theorem o_eqI {a b:Int}:cL H .eq (.int a) (.int b) R=R (decide (a=b)):=rfl
theorem o_neI {a b:Int}:cL H .ne (.int a) (.int b) R=R (!decide (a=b)):=rfl
theorem o_eqT0:cL H .eq (.tup []) (.tup []) R=R true:=rfl
theorem o_eqT1 {x:PV}{r:List PV}:cL H .eq (.tup (x::r)) (.tup []) R=R false:=rfl
theorem o_isN:cL H .is_ .none .none R=R true:=rfl
theorem o_isnN:cL H .isn .none .none R=R false:=rfl
theorem o_isT {x:List PV}:cL H .is_ (.tup x) .none R=R false:=rfl
theorem o_isnT {x:List PV}:cL H .isn (.tup x) .none R=R true:=rfl
theorem o_isS {x:List Nat}:cL H .is_ (.str x) .none R=R false:=rfl
theorem o_isnS {x:List Nat}:cL H .isn (.str x) .none R=R true:=rfl
theorem o_len0 {x:List PV}{P:PV→Prop}:lenQ H (.tup x) P=(x.length≤16000000∧P (.int x.length)):=rfl
theorem o_lenS {x:List Nat}{P:PV→Prop}:lenQ H (.str x) P=(x.length≤16000000∧P (.int x.length)):=rfl
theorem cV {x:List PV}{r:Nat}{P:PV→Prop}(h:H r=some (.list x)):lenQ H (.lst r) P=(x.length≤16000000∧P (.int x.length)):=by show dL (fT H (.lst r)) _=_;exact bS (by simp only [fT,h])
theorem b_len {a:PV}:biQ .len [a] H Q=lenQ H a fun r=>Q r H:=rfl
theorem b_min {a b:Int}:biQ .min [.int a,.int b] H Q=Q (.int (if b<a then b else a)) H:=rfl
theorem b_max {a b:Int}:biQ .max [.int a,.int b] H Q=Q (.int (if a<b then b else a)) H:=rfl
theorem wM {n:Int}:biQ .range [.int n] H Q=(0≤n∧n≤16000000∧Q (.rng n) H):=rfl
theorem b_int {b:Bool}:biQ .int [.bool b] H Q=Q (.int (if b then 1 else 0)) H:=rfl
theorem cJ {x:List PV}{r:Nat}(h:H r=some (.list x)):biQ .tuple [.lst r] H Q=(x.length≤16000000∧Q (.tup x) H):=bQ h
theorem b_list {x:List PV}{r:Nat}(h:H r=some (.list x)):biQ .list [.lst r] H Q=(x.length≤16000000∧gF x H Q):=bQ h
theorem aF {b:Bool}{k:Bool→Prop}:asB (.bool b) k=k b:=rfl
theorem aG {b:Nat}{k:Nat→Prop}:asF (.fn b) k=k b:=rfl
theorem dP {α:Type}{x:α}{k:α→Prop}:dL (some x) k=k x:=rfl
theorem boolQ_B {b:Bool}{Q:Bool→MH→Prop}:iX Q (.bool b) H=Q b H:=rfl
theorem dC {x:Nat}{v:PV}{m:LE}:bC [x] false v m=some (m.set x v):=rfl
theorem dB {xs:List Nat}{vs:List PV}{m:LE}:bC xs true (.tup vs) m=if vs.length≤100 then m.sets xs vs else none:=rfl
theorem Ep {m:LE}{i j:Nat}{v:PV}:(m.set i v) j=bif j==i then v else m j:=rfl
theorem nuN {P:Prop}:nu .none P=P:=rfl
theorem nuB {b:Bool}{P:Prop}:nu (.bool b) P=P:=rfl
theorem nuI {b:Int}{P:Prop}:nu (.int b) P=P:=rfl
theorem nuS {b:List Nat}{P:Prop}:nu (.str b) P=P:=rfl
theorem nuT {b:List PV}{P:Prop}:nu (.tup b) P=P:=rfl
theorem nuL {b:Nat}{P:Prop}:nu (.lst b) P=P:=rfl
theorem nuO {b:Nat}{P:Prop}:nu (.obj b) P=P:=rfl
theorem nuF {b:Nat}{P:Prop}:nu (.fn b) P=P:=rfl
theorem isII {b:Int}{P:Prop}:isI (.int b) P=P:=rfl
theorem zX {m:LE}:m.sets [] []=some m:=rfl
theorem zW {m:LE}{i:Nat}{v:PV}{is:List Nat}{vs:List PV}:m.sets (i::is) (v::vs)=(m.set i v).sets is vs:=rfl
end
section
variable {F:FSt}{gv:Nat→PV}{E:MH→Prop}
theorem e_none  {m:LE}{H:MH}{Q:QV}:mE F gv E ME.none m H Q=(Q .none H):=rfl
theorem e_bool {b}{m:LE}{H:MH}{Q:QV}:mE F gv E (ME.bool b) m H Q=(Q (.bool b) H):=rfl
theorem e_int {i}{m:LE}{H:MH}{Q:QV}:mE F gv E (ME.int i) m H Q=(Q (.int i) H):=rfl
theorem e_str {l}{m:LE}{H:MH}{Q:QV}:mE F gv E (ME.str l) m H Q=(Q (.str l) H):=rfl
theorem e_var {i}{m:LE}{H:MH}{Q:QV}:mE F gv E (ME.var i) m H Q=(nu (m i) (Q (m i) H)):=rfl
theorem e_gfun {f}{m:LE}{H:MH}{Q:QV}:mE F gv E (ME.gfun f) m H Q=(Q (.fn f) H):=rfl
theorem e_gval {c}{m:LE}{H:MH}{Q:QV}:mE F gv E (ME.gval c) m H Q=(Q (gv c) H):=rfl
theorem e_bin {op}{a}{b}{m:LE}{H:MH}{Q:QV}:mE F gv E (ME.bin op a b) m H Q=(mE F gv E a m H fun x H₁=>mE F gv E b m H₁ fun y H₂=>dY op x y H₂ Q):=rfl
theorem e_pow {a}{b}{m:LE}{H:MH}{Q:QV}:mE F gv E (ME.pow a b) m H Q=(Q (.int ((a:Int) ^ b)) H):=rfl
theorem e_neg {i}{m:LE}{H:MH}{Q:QV}:mE F gv E (ME.neg i) m H Q=(Q (.int (-(i:Int))) H):=rfl
theorem e_cmp {op}{a}{b}{m:LE}{H:MH}{Q:QV}:mE F gv E (ME.cmp op a b) m H Q=(mE F gv E a m H fun x H₁=>mE F gv E b m H₁ fun y H₂=>cL H₂ op x y fun r=>Q (.bool r) H₂):=rfl
theorem e_and {es}{m:LE}{H:MH}{Q:QV}:mE F gv E (ME.and es) m H Q=(mAnd F gv E es m H Q):=rfl
theorem e_or {es}{m:LE}{H:MH}{Q:QV}:mE F gv E (ME.or es) m H Q=(mOr F gv E es m H Q):=rfl
theorem e_ite {c}{a}{b}{m:LE}{H:MH}{Q:QV}:mE F gv E (ME.ite c a b) m H Q=(mT F gv E c m H fun t H'=>cond t (mE F gv E a) (mE F gv E b) m H' Q):=rfl
theorem e_tuple {es}{m:LE}{H:MH}{Q:QV}:mE F gv E (ME.tuple es) m H Q=(mEs F gv E es m H fun vs H'=>Q (.tup vs) H'):=rfl
theorem e_list {es}{m:LE}{H:MH}{Q:QV}:mE F gv E (ME.list es) m H Q=(mEs F gv E es m H fun vs H'=>gF vs H' Q):=rfl
theorem e_idx {a}{i}{m:LE}{H:MH}{Q:QV}:mE F gv E (ME.idx a i) m H Q=(mE F gv E a m H fun x H₁=>mE F gv E i m H₁ fun y H₂=>fY x y H₂ Q):=rfl
theorem e_slc {a}{l}{u}{m:LE}{H:MH}{Q:QV}:mE F gv E (ME.slc a l u) m H Q=(mE F gv E a m H fun x H₁=>mE F gv E l m H₁ fun y H₂=>mE F gv E u m H₂ fun z H₃=>pR x y z H₃ Q):=rfl
theorem e_rev {a}{m:LE}{H:MH}{Q:QV}:mE F gv E (ME.rev a) m H Q=(mE F gv E a m H fun x H₁=>revQ x H₁ Q):=rfl
theorem e_call {f}{args}{m:LE}{H:MH}{Q:QV}:mE F gv E (ME.call f args) m H Q=(mEs F gv E args m H fun vs H'=>F f vs H' Q E):=rfl
theorem e_callv {i}{args}{m:LE}{H:MH}{Q:QV}:mE F gv E (ME.callv i args) m H Q=(asF (m i) fun f=>mEs F gv E args m H fun vs H'=>F f vs H' Q E):=rfl
theorem e_new {args}{m:LE}{H:MH}{Q:QV}:mE F gv E (ME.new args) m H Q=(mEs F gv E args m H fun vs H'=>∀ a d,H' a=none→H' d=none→a≠d→F 0 (.obj a::vs) ((H'.set d (.flds [])).set a (.inst d)) (fun p H''=>p=.none∧Q (.obj a) H'') E):=rfl
theorem e_bi {b}{args}{m:LE}{H:MH}{Q:QV}:mE F gv E (ME.bi b args) m H Q=(mEs F gv E args m H fun vs H'=>biQ b vs H' Q):=rfl
theorem e_meth {k}{o}{args}{m:LE}{H:MH}{Q:QV}:mE F gv E (ME.meth k o args) m H Q=(mE F gv E o m H fun x H₁=>fQ k x H₁∧mEs F gv E args m H₁ fun vs H'=>jW k x vs H' Q):=rfl
theorem e_wmeth {f}{o}{args}{m:LE}{H:MH}{Q:QV}:mE F gv E (ME.wmeth f o args) m H Q=(mE F gv E o m H fun x H₁=>asO H₁ x fun J J J=>mEs F gv E args m H₁ fun vs H'=>F f (x::vs) H' Q E):=rfl
theorem e_attr {k}{o}{m:LE}{H:MH}{Q:QV}:mE F gv E (ME.attr k o) m H Q=(mE F gv E o m H fun x H₁=>nX k x H₁ Q):=rfl
theorem e_comp {elt}{x}{fr}{src}{cs}{m:LE}{H:MH}{Q:QV}:mE F gv E (ME.comp elt x fr src cs) m H Q=(mE F gv nope src m H fun p H₁=>oI p H₁ fun xs chk=>fB x (rJ F gv nope cs) (mE F gv nope elt) chk (eJ m fr) xs H₁ [] fun ys H₂=>gF ys H₂ Q):=rfl
theorem t_not {e}{m:LE}{H:MH}{Q:Bool→MH→Prop}:mT F gv E (ME.not e) m H Q=(mT F gv E e m H fun b H'=>Q (!b) H'):=rfl
theorem t_and {es}{m:LE}{H:MH}{Q:Bool→MH→Prop}:mT F gv E (ME.and es) m H Q=(rJ F gv E es m H Q):=rfl
theorem t_or {es}{m:LE}{H:MH}{Q:Bool→MH→Prop}:mT F gv E (ME.or es) m H Q=(mAny F gv E es m H Q):=rfl
theorem t_ite {c}{a}{b}{m:LE}{H:MH}{Q:Bool→MH→Prop}:mT F gv E (ME.ite c a b) m H Q=(mT F gv E c m H fun t H'=>cond t (mT F gv E a) (mT F gv E b) m H' Q):=rfl
theorem t_cmp {op}{a}{b}{m:LE}{H:MH}{Q:Bool→MH→Prop}:mT F gv E (ME.cmp op a b) m H Q=(mE F gv E a m H fun x H₁=>mE F gv E b m H₁ fun y H₂=>cL H₂ op x y fun r=>Q r H₂):=rfl
theorem t_var {i}{m:LE}{H:MH}{Q:Bool→MH→Prop}:mT F gv E (ME.var i) m H Q=(asB (m i) fun b=>Q b H):=rfl
theorem t_call {f}{args}{m:LE}{H:MH}{Q:Bool→MH→Prop}:mT F gv E (ME.call f args) m H Q=(mEs F gv E args m H fun vs H'=>F f vs H' (iX Q) E):=rfl
theorem t_bi {b}{args}{m:LE}{H:MH}{Q:Bool→MH→Prop}:mT F gv E (ME.bi b args) m H Q=(mEs F gv E args m H fun vs H'=>biQ b vs H' (iX Q)):=rfl
theorem t_wmeth {f}{o}{args}{m:LE}{H:MH}{Q:Bool→MH→Prop}:mT F gv E (ME.wmeth f o args) m H Q=(mE F gv E o m H fun x H₁=>asO H₁ x fun J J J=>mEs F gv E args m H₁ fun vs H'=>F f (x::vs) H' (iX Q) E):=rfl
theorem t_idx {a}{i}{m:LE}{H:MH}{Q:Bool→MH→Prop}:mT F gv E (ME.idx a i) m H Q=(mE F gv E a m H fun x H₁=>mE F gv E i m H₁ fun y H₂=>fY x y H₂ (iX Q)):=rfl
theorem al_nil  {m:LE}{H:MH}{Q:Bool→MH→Prop}:rJ F gv E [] m H Q=(Q true H):=rfl
theorem al_cons {e}{r}{m:LE}{H:MH}{Q:Bool→MH→Prop}:rJ F gv E (e::r) m H Q=(mT F gv E e m H fun b H'=>cond b (rJ F gv E r m H' Q) (Q false H')):=rfl
theorem an_nil  {m:LE}{H:MH}{Q:Bool→MH→Prop}:mAny F gv E [] m H Q=(Q false H):=rfl
theorem an_cons {e}{r}{m:LE}{H:MH}{Q:Bool→MH→Prop}:mAny F gv E (e::r) m H Q=(mT F gv E e m H fun b H'=>cond b (Q true H') (mAny F gv E r m H' Q)):=rfl
theorem es_nil  {m:LE}{H:MH}{Q:List PV→MH→Prop}:mEs F gv E [] m H Q=(Q [] H):=rfl
theorem Dp {e}{r}{m:LE}{H:MH}{Q:List PV→MH→Prop}:mEs F gv E (e::r) m H Q=(mE F gv E e m H fun v H'=>mEs F gv E r m H' fun vs H''=>Q (v::vs) H''):=rfl
theorem s_expr {e}{m:LE}{H:MH}{Q:QS}:mS F gv E (MS.expr e) m H Q=(mE F gv E e m H fun J H'=>Q .next m H'):=rfl
theorem s_asg {x}{e}{m:LE}{H:MH}{Q:QS}:mS F gv E (MS.asg x e) m H Q=(mE F gv E e m H fun v H'=>Q .next (m.set x v) H'):=rfl
theorem s_asgT {xs}{e}{m:LE}{H:MH}{Q:QS}:mS F gv E (MS.asgT xs e) m H Q=(mE F gv E e m H fun v H'=>dL (bC xs true v m) fun m'=>Q .next m' H'):=rfl
theorem s_swap {xs}{es}{m:LE}{H:MH}{Q:QS}:mS F gv E (MS.swap xs es) m H Q=(mEs F gv E es m H fun vs H'=>dL (m.sets xs vs) fun m'=>Q .next m' H'):=rfl
theorem Ht {o}{i}{e}{m:LE}{H:MH}{Q:QS}:mS F gv E (MS.setidx o i e) m H Q=(mE F gv E e m H fun v H₁=>mE F gv E o m H₁ fun x H₂=>mE F gv E i m H₂ fun y H₃=>mU x y v H₃ fun H'=>Q .next m H'):=rfl
theorem Fe {k}{o}{e}{m:LE}{H:MH}{Q:QS}:mS F gv E (MS.setattr k o e) m H Q=(mE F gv E e m H fun v H₁=>mE F gv E o m H₁ fun x H₂=>eI k x v H₂ fun H'=>Q .next m H'):=rfl
theorem s_aug {x}{op}{e}{m:LE}{H:MH}{Q:QS}:mS F gv E (MS.aug x op e) m H Q=(nu (m x) (mE F gv E e m H fun v H₁=>isI (m x) (dY op (m x) v H₁ fun r H'=>Q .next (m.set x r) H'))):=rfl
theorem Ff {k}{o}{op}{e}{m:LE}{H:MH}{Q:QS}:mS F gv E (MS.augattr k o op e) m H Q=(mE F gv E o m H fun x H₁=>nX k x H₁ fun old H₂=>mE F gv E e m H₂ fun v H₃=>isI old (dY op old v H₃ fun r H₄=>eI k x r H₄ fun H'=>Q .next m H')):=rfl
theorem s_ifs {c}{a}{b}{m:LE}{H:MH}{Q:QS}:mS F gv E (MS.ifs c a b) m H Q=(mT F gv E c m H fun t H'=>cond t (mSs F gv E a) (mSs F gv E b) m H' Q):=rfl
theorem s_whl {c}{b}{m:LE}{H:MH}{Q:QS}:mS F gv E (MS.whl c b) m H Q=(∃ n,aY (mT F gv E c) (mSs F gv E b) n m H Q):=rfl
theorem s_fors {xs}{isT}{src}{b}{m:LE}{H:MH}{Q:QS}:mS F gv E (MS.fors xs isT src b) m H Q=(mE F gv E src m H fun p H₁=>oI p H₁ fun its chk=>cQ (bC xs isT) (mSs F gv nope b) chk its m H₁ Q):=rfl
theorem s_ret {e}{m:LE}{H:MH}{Q:QS}:mS F gv E (MS.ret e) m H Q=(mE F gv E e m H fun v H'=>Q (.ret v) m H'):=rfl
theorem s_brk  {m:LE}{H:MH}{Q:QS}:mS F gv E MS.brk m H Q=(Q .brk m H):=rfl
theorem s_raise {args}{m:LE}{H:MH}{Q:QS}:mS F gv E (MS.raise args) m H Q=(mEs F gv E args m H fun vs H'=>twoQ vs fun a b=>asS a fun J=>asI b fun J=>E H'):=rfl
theorem s_tryN {b}{m:LE}{H:MH}{Q:QS}:mS F gv E (MS.tryN b) m H Q=(mSs F gv (fun H'=>Q (.ret .none) m H') b m H Q):=rfl
end
section
variable {A:LE→MH→QS→Prop}{Q:QS}{m:LE}{H:MH}{p:PV}
theorem thenN:qO A Q .next m H=A m H Q:=rfl
theorem thenB:qO A Q .brk m H=Q .brk m H:=rfl
theorem thenR:qO A Q (.ret p) m H=Q (.ret p) m H:=rfl
theorem loopN:eN A Q .next m H=A m H Q:=rfl
theorem loopB:eN A Q .brk m H=Q .next m H:=rfl
theorem loopR:eN A Q (.ret p) m H=Q (.ret p) m H:=rfl
end
theorem retR {Q:QV}{m:LE}{H:MH}{p:PV}:iR Q (.ret p) m H=Q p H:=rfl
theorem retN {Q:QV}{m:LE}{H:MH}:iR Q .next m H=Q .none H:=rfl
theorem retB {Q:QV}{m:LE}{H:MH}:iR Q .brk m H=False:=rfl
section
variable {F:FSt}{gv:Nat→PV}{E:MH→Prop}{e e2:ME}{r:List ME}{m:LE}{H:MH}{Q:QV}
theorem mAnd1:mAnd F gv E [e] m H Q=mE F gv E e m H Q:=rfl
theorem mAnd2:mAnd F gv E (e::e2::r) m H Q=mE F gv E e m H fun v H'=>asB v fun b=>cond b (mAnd F gv E (e2::r) m H' Q) (Q (.bool false) H'):=rfl
theorem mOr1:mOr F gv E [e] m H Q=mE F gv E e m H Q:=rfl
theorem mOr2:mOr F gv E (e::e2::r) m H Q=mE F gv E e m H fun v H'=>asB v fun b=>cond b (Q (.bool true) H') (mOr F gv E (e2::r) m H' Q):=rfl
end
theorem ms_nil {F:FSt}{gv:Nat→PV}{E:MH→Prop}{m:LE}{H:MH}{Q:QS}:mSs F gv E [] m H Q=Q .next m H:=rfl
theorem Dl {F:FSt}{gv:Nat→PV}{E:MH→Prop}{m:LE}{H:MH}{Q:QS}{s:MS}{r:List MS}(h:mS F gv E s m H (qO (mSs F gv E r) Q)):mSs F gv E (s::r) m H Q:=h
local macro_rules | `(tactic| walk_at "md") => do
  let ls1 := ("ms_nil e_none e_bool e_int e_str e_var e_gfun e_gval e_bin e_pow e_neg e_cmp e_and e_or e_ite e_tuple e_list e_idx e_slc e_rev e_call e_callv e_new e_bi e_meth e_wmeth e_attr e_comp t_not t_and t_or t_ite t_cmp t_var t_call t_bi t_wmeth t_idx al_nil al_cons an_nil an_cons es_nil Dp s_expr s_asg s_asgT s_swap Ht Fe s_aug Ff s_ifs s_whl s_fors s_ret s_brk s_raise s_tryN mAnd1 mAnd2 mOr1 mOr2 cE retR retN retB thenN thenB thenR loopN loopB loopR boolQ_B aF aG dP nuN nuB nuI nuS nuT nuL nuO nuF isII Ep zX zW dC dB o_addI o_subI o_mulI o_divI o_modI o_addS o_addT o_lt o_le o_gt o_ge cF nA o_eqI o_neI o_eqT0 o_eqT1 o_isN o_isnN o_isT o_isnT o_isS o_isnS o_len0 o_lenS b_len b_min b_max wM b_int List.getElem?_cons_zero List.getElem?_cons_succ List.getElem?_nil Option.getD_some Option.getD_none List.cons_append List.nil_append Bool.not_true Bool.not_false Nat.reduceBEq cond_true cond_false".splitOn " ").toArray.map fun s => Lean.mkIdent s.toName
  `(tactic| try dsimp only [$[$ls1:term],*])
local macro_rules | `(tactic| walk_at "m0") => do
  let ls1 := ("Bool.not_true Bool.not_false ne_eq reduceCtorEq not_false_eq_true true_and and_true if_true if_false reduceIte Nat.reduceEqDiff".splitOn " ").toArray.map fun s => Lean.mkIdent s.toName
  `(tactic| (walk_at "md"; repeat (simp only [$[$ls1:term],*]; walk_at "md")))
local macro_rules | `(tactic| walk_at "mu") => `(tactic| (walk_at "m0"; repeat (with_reducible refine Dl ?_; walk_at "m0")))
structure WS (H:MH) (a d r:Nat) (toks:List PV) (i:Nat):Prop where
 ha:H a=some (.inst d)
 hd:H d=some (.flds [(0,.lst r),(1,.int i)])
 hr:H r=some (.list toks)
 len:toks.length≤1000000
section
variable {C:Cx}{H:MH}{Q:QV}{E:MH→Prop}{a d r i n:Nat}{toks:List PV}
theorem WS.ob (W:WS H a d r toks i) {k:Nat→Nat→List (Nat×PV)→Prop}:asO H (.obj a) k=k a d [(0,.lst r),(1,.int i)]:=Ba W.ha W.hd
theorem WS.obi (W:WS H a d r toks i) {k:Nat→Nat→List (Nat×PV)→Prop}(h:k a d [(0,.lst r),(1,.int i)]):asO H (.obj a) k:=W.ob.mpr h
theorem WS.at0 (W:WS H a d r toks i):nX 0 (.obj a) H Q=Q (.lst r) H:=W.ob
theorem WS.at1 (W:WS H a d r toks i):nX 1 (.obj a) H Q=Q (.int i) H:=W.ob
theorem WS.set1 (W:WS H a d r toks i) {v:PV}{P:MH→Prop}:eI 1 (.obj a) v H P=P (H.set d (.flds [(0,.lst r),(1,v)])):=W.ob.trans (eq_true (show ([(0,.lst r),(1,.int i)]:List (Nat×PV)).length≤1000 by simp)▸true_and _)
theorem WS.q1 (W:WS H a d r toks i) (h:Q (.int i) H):nX 1 (.obj a) H Q:=W.at1.mpr h
theorem WS.s1 (W:WS H a d r toks i) {v:PV}{P:MH→Prop}(h:P (H.set d (.flds [(0,.lst r),(1,v)]))):eI 1 (.obj a) v H P:=W.set1.mpr h
theorem min_eq {x y:Int}{a b:Nat}(h1:x=a) (h2:y=b):(if y<x then y else x)=((min a b:Nat):Int):=by
 subst h1;subst h2;split<;>lia
theorem vT {a:PV}{xs:List PV}{k:Int}{j:Nat}{v:PV}(hs:∀ k P,pD a k P=P) (e1:fT H a=some xs) (hl:xs.length≤16000000) (e2:hU xs.length k=some j) (hx:xs[j]?=some v) (q:Q v H):fY a (.int k) H Q:=by
 show pD a _ (dL (fT H a) _)
 rw [hs,bS e1,bS e2,bS hx]
 exact ⟨hl,q⟩
theorem qD {a:PV}{xs:List PV}{k:Int}{j:Nat}{v:PV}(hs:∀ k P,pD a k P=P) (e1:fT H a=some xs) (hl:xs.length≤16000000) (e:k=(j:Int)) (hx:xs[j]?=some v) (q:Q v H):fY a (.int k) H Q:=by
 subst e
 have h0:(0:Int)≤j:=by simp
 exact vT hs e1 hl (by simp only [hU,h0,if_true,Int.toNat_natCast]) hx q
theorem bX {xs:List PV}{k:Int}{j:Nat}{v:PV}(hr:H r=some (.list xs)) (hl:xs.length≤16000000) (e:k=(j:Int)) (hx:xs[j]?=some v) (q:Q v H):fY (.lst r) (.int k) H Q:=
 qD (fun J J=>rfl) (by simp only [fT,hr]) hl e hx q
theorem Do {xs:List PV}{k:Int}{j:Nat}{v:PV}(hl:xs.length≤16000000) (e:k=(j:Int)) (hx:xs[j]?=some v) (q:Q v H):fY (.tup xs) (.int k) H Q:=
 qD (fun J J=>rfl) rfl hl e hx q
theorem Df (R:aT C 1 2 eU) (W:WS H a d r toks i) {k:Nat}{t:PV}(ht:toks[min (i+k) (toks.length - 1)]?=some t) (q:Q t H):aB C (n+1) 1 [.obj a,.int k] H Q E:=by
 have hl:0<toks.length:=by
  have:=(List.getElem?_eq_some_iff.mp ht).1;exact Nat.le_trans (Nat.le_add_left _ _) this
 have hW:=W.len
 apply R rfl
 simp only [eU]
 walk_at "mu"
 repeat (simp only [W.at0,W.at1,cV W.hr];walk_at "mu")
 refine ⟨ar1 hW,bX W.hr (ar1 hW) (j:=min (i+k) (toks.length - 1)) ?_ ht q⟩
 exact min_eq (by rfl) ((Int.ofNat_sub hl).symm)
abbrev cB (k t:List Nat) (n:Int) (v w:PV):PV:=.tup [.str k,.str t,.int n,v,w]
noncomputable def jK:List Nat:=[101,110,100]
theorem WS.at (W:WS H a d r toks i) (j:Nat):WS (H.set d (.flds [(0,.lst r),(1,.int j)])) a d r toks j:=by
 have h1:a≠d:=fun q=>by have:=W.ha;rw [q,W.hd] at this;cases this
 have h2:r≠d:=fun q=>by have:=W.hr;rw [q,W.hd] at this;cases this
 exact ⟨by unfold MH.set;rw [if_neg h1];exact W.ha,by unfold MH.set;rw [if_pos rfl],by unfold MH.set;rw [if_neg h2];exact W.hr,W.len⟩
theorem xR (R:oB C 1 2 eU (.int 0)) (W:WS H a d r toks i) {t:PV}(ht:toks[min i (toks.length - 1)]?=some t) (q:Q t H):aB C (n+1) 1 [.obj a] H Q E:=by
 have hl:0<toks.length:=by
  have:=(List.getElem?_eq_some_iff.mp ht).1;exact Nat.le_trans (Nat.le_add_left _ _) this
 have hW:=W.len
 apply R rfl
 simp only [eU]
 walk_at "mu"
 repeat (simp only [W.at0,W.at1,cV W.hr];walk_at "mu")
 refine ⟨ar1 hW,?_⟩
 refine bX W.hr (ar1 hW) (j:=min i (toks.length - 1)) ?_ ht q
 exact min_eq (by rfl) ((Int.ofNat_sub hl).symm)
theorem Cu (R:aT C 2 1 nW) (R1:oB C 1 2 eU (.int 0)) (W:WS H a d r toks i) {k t:List Nat}{z:Int}{v w:PV}(ht:toks[min i (toks.length - 1)]?=some (cB k t z v w))
  (q:Q (cB k t z v w) (if k=jK then H else H.set d (.flds [(0,.lst r),(1,.int (i+1:Nat))]))):aB C (n+2) 2 [.obj a] H Q E:=by
 apply R rfl
 simp only [nW]
 walk_at "mu"
 rw [W.ob]
 refine xR R1 W ht ?_
 walk_at "mu"
 refine Do (j:=0) (Nat.le_of_ble_eq_true rfl) rfl rfl ?_
 walk_at "mu"
 by_cases e:k=[101,110,100]
 ·have e':k=jK:=e
  rw [if_pos e'] at q
  simp only [e,decide_true,Bool.not_true]
  rw [e'] at q
  exact q
 ·have e':¬k=jK:=e
  rw [if_neg e'] at q
  simp only [e,decide_false,Bool.not_false]
  walk_at "mu"
  repeat (simp only [W.at0,W.at1,W.set1];walk_at "mu")
  exact q
end
section
variable {H:MH}{Q:QV}{R:MH→Prop}{P:Bool→Prop}{xs ys:List PV}{a b r:Nat}{k n:Int}{v l u:PV}{t:List Nat}
theorem qR (hr:H r=some (.list xs)) (h:0≤k∧k<(xs.length:Int)∧xs.length≤16000000∧R (H.set r (.list (xs.set k.toNat v)))):mU (.lst r) (.int k) v H R:=(bQ hr).mpr h
theorem app_q (hf:H r=some (.list xs)) (h:xs.length<16000000∧Q .none (H.set r (.list (xs++[v])))):jW .append (.lst r) [v] H Q:=(bQ hf).mpr h
theorem pop_q (hf:H r=some (.list xs)) (hv:xs.getLast?=some v) (h:xs.length≤16000000∧Q v (H.set r (.list xs.dropLast))):jW .pop (.lst r) [] H Q:=(bQ hf).mpr ((bS hv).mpr h)
theorem ext_q (hf:H r=some (.list xs)) (hg:H b=some (.list ys)) (h:r≠b∧xs.length+ys.length≤16000000∧Q .none (H.set r (.list (xs++ys)))):jW .extend (.lst r) [.lst b] H Q:=(bQ hf).mpr ((bQ hg).mpr h)
theorem join_q (hf:H r=some (.list xs)) (hs:jA xs=some t) (h:t.length≤16000000∧xs.length≤16000000∧Q (.str t) H):jW .join (.str []) [.lst r] H Q:=(bQ hf).mpr ((bS hs).mpr h)
theorem pre_a (hf:H r=some (.list xs)):fQ .append (.lst r) H:=(bQ hf).mpr trivial
theorem pre_p (hf:H r=some (.list xs)):fQ .pop (.lst r) H:=(bQ hf).mpr trivial
theorem pre_e (hf:H r=some (.list xs)):fQ .extend (.lst r) H:=(bQ hf).mpr trivial
theorem wZ {S:List PV→(MH→Prop)→Prop}(hf:H r=some (.list xs)) (h:S xs fun H'=>H' r=some (.list xs)):oI (.lst r) H S:=(bQ hf).mpr h
theorem srcT {S:List PV→(MH→Prop)→Prop}:oI (.tup xs) H S=S xs fun J=>True:=rfl
theorem srcR {S:List PV→(MH→Prop)→Prop}:oI (.rng n) H S=(0≤n∧n≤16000000∧S ((List.range n.toNat).map fun (i:Nat)=>PV.int (i:Int)) fun J=>True):=rfl
theorem uX (hf:H r=some (.list xs)):pR (.lst r) l u H Q=dL (kR l) fun x=>dL (lR xs.length u) fun y=>xs.length≤16000000∧x≤16000000∧y≤16000000∧gF (bM xs x y) H Q:=bQ hf
theorem wA {n:Nat}:kR (.int n)=some n:=by simp only [kR,Int.natCast_nonneg,if_true,Int.toNat_natCast]
theorem vZ {n m:Nat}:lR m (.int n)=some n:=by simp only [lR,Int.natCast_nonneg,if_true,Int.toNat_natCast]
theorem idx_str {k:Int}{j c:Nat}(hl:t.length≤16000000) (e2:hU t.length k=some j) (hx:t[j]?=some c) (q:Q (.str [c]) H):fY (.str t) (.int k) H Q:=(bS e2).mpr ((bS hx).mpr ⟨hl,q⟩)
theorem slc_s {x y:Nat}(hx:kR l=some x) (hy:lR t.length u=some y) (h:t.length≤16000000∧x≤16000000∧y≤16000000∧Q (.str (bM t x y)) H):pR (.str t) l u H Q:=(bS hx).mpr ((bS hy).mpr h)
theorem tJ {x y:Nat}(hf:H r=some (.list xs)) (hx:kR l=some x) (hy:lR xs.length u=some y) (h:xs.length≤16000000∧x≤16000000∧y≤16000000∧gF (bM xs x y) H Q):pR (.lst r) l u H Q:=(bQ hf).mpr ((bS hx).mpr ((bS hy).mpr h))
theorem setA_q {d j:Nat}{es:List (Nat×PV)}(ha:H a=some (.inst d)) (hd:H d=some (.flds es)) (h:es.length≤1000∧R (H.set d (.flds (mB j v es)))):eI j (.obj a) v H R:=(Ba ha hd).mpr h
theorem mul_q (hf:H r=some (.list xs)) (h:0≤n∧n≤1∧xs.length≤16000000∧gF (if n=0 then [] else xs) H Q):dY .mul (.lst r) (.int n) H Q:=(bQ hf).mpr h
theorem eq_lst (hf:H a=some (.list xs)) (hg:H b=some (.list ys)):cL H .eq (.lst a) (.lst b) P=eqLQ H xs ys P:=(bQ hg).trans (bQ hf)
theorem vG (hf:H a=some (.list xs)) (hg:H b=some (.list ys)):cL H .ne (.lst a) (.lst b) P=eqLQ H xs ys fun r=>P (!r):=(bQ hg).trans (bQ hf)
theorem Ds (hf:H a=some (.list xs)) (hg:H b=some (.list ys)):dY .add (.lst a) (.lst b) H Q=(xs.length+ys.length≤16000000∧gF (xs++ys) H Q):=by
 refine (bQ hg).trans ?_
 show dL (fT H (.lst a)) _=_
 rw [bS (show fT H (.lst a)=some xs by simp only [fT,hf])]
theorem Dt (hg:H b=some (.list ys)):dY .add (.clst xs) (.lst b) H Q=(xs.length+ys.length≤16000000∧gF (xs++ys) H Q):=bQ hg
end
abbrev aQ:List Nat:=[115,105,103,110]
abbrev bK:List Nat:=[110,97,109,101]
abbrev regS:List Nat:=[114,101,103,105,111,110]
abbrev intS:List Nat:=[105,110,116]
noncomputable def PSt (H:MH) (a d r:Nat) (ts:List PV):Prop:=∃ toks i,WS H a d r toks i∧toks.drop i=ts
noncomputable def Ev (d r:Nat) (H H':MH):Prop:=∀ b,b≠d→b≠r→H b≠none→H' b=H b
theorem Ev.refl {d r:Nat}{H:MH}:Ev d r H H:=fun J J J J=>rfl
theorem Ev.trans {d r:Nat}{H H' H'':MH}(x:Ev d r H H') (y:Ev d r H' H''):Ev d r H H'':=fun b h1 h2 h3=>(y b h1 h2 (by rw [x b h1 h2 h3];exact h3)).trans (x b h1 h2 h3)
theorem Ev.set {d r:Nat}{H:MH}{b:Nat}{o:dJ}(h:b=d∨b=r∨H b=none):Ev d r H (H.set b o):=fun c h1 h2 h3=>by
 unfold MH.set
 rw [if_neg]
 rintro rfl
 rcases h with h|h|h
 ·exact h1 h
 ·exact h2 h
 ·exact h3 h
structure RW (C:Cx):Prop where
 peek:aT C 1 2 eU
 peek0:oB C 1 2 eU (.int 0)
 take:aT C 2 1 nW
 looks:aT C 3 3 gL
 looks0:oB C 3 3 gL (.int 0)
 expect:aT C 4 2 mO
 name:aT C 5 1 sI
 split:aT C 6 1 gC
noncomputable def dW:List (List Nat):=[[83,101,108,102],[99,114,97,116,101],[115,101,108,102],[115,117,112,101,114]]
noncomputable def kindW:List (List Nat):=[[105,56],[105,49,54],[105,51,50],[105,54,52],[117,56],[117,49,54],[117,51,50],[117,54,52],[117,115,105,122,101]]
noncomputable def keyW:List (List Nat):=[[95],[83,101,108,102],[97,115],[98,114,101,97,107],[99,111,110,115,116],[99,111,110,116,105,110,117,101],[99,114,97,116,101],[101,108,115,101],[101,110,117,109],[102,97,108,115,101],[102,110],[102,111,114],[105,102],[105,109,112,108],[105,110],[108,101,116],[108,111,111,112],[109,97,116,99,104],[109,111,100],[109,117,116],[112,117,98],[114,101,102],[114,101,116,117,114,110],[115,101,108,102],[115,116,114,117,99,116],[115,117,112,101,114],[116,114,97,105,116],[116,114,117,101],[117,115,101],[119,104,105,108,101]]
noncomputable def hJ:List (List Nat):=[[60,60,61],[62,62,61],[46,46,61],[58,58],[45,62],[61,62],[61,61],[33,61],[60,61],[62,61],[38,38],[124,124],[60,60],[62,62],[46,46],[43,61],[45,61],[42,61],[47,61],[37,61],[38,61],[124,61],[94,61],[40],[41],[123],[125],[91],[93],[44],[59],[58],[46],[61],[60],[62],[43],[45],[42],[47],[37],[38],[124],[94],[33],[64]]
noncomputable def figS:List Nat:=[48,49,50,51,52,53,54,55,56,57]
noncomputable def begS:List Nat:=[97,98,99,100,101,102,103,104,105,106,107,108,109,110,111,112,113,114,115,116,117,118,119,120,121,122,65,66,67,68,69,70,71,72,73,74,75,76,77,78,79,80,81,82,83,84,85,86,87,88,89,90,95]
noncomputable def nsgS:List Nat:=[97,98,99,100,101,102,103,104,105,106,107,108,109,110,111,112,113,114,115,116,117,118,119,120,121,122,65,66,67,68,69,70,71,72,73,74,75,76,77,78,79,80,81,82,83,84,85,86,87,88,89,90,95,48,49,50,51,52,53,54,55,56,57]
noncomputable def pX:List Nat:=[32,9,13,10]
noncomputable def lX:List (List Nat):=[[83,101,108,102],[99,114,97,116,101],[115,101,108,102],[115,117,112,101,114]]
noncomputable def nK:List (List Nat):=[[65],[98],[86,101,99,56]]
structure dM (C:Cx):Prop where
 g0:C.gv 0=.tup (dW.map .str)
 g1:C.gv 1=.tup (kindW.map .str)
 g2:C.gv 2=.tup (keyW.map .str)
 g3:C.gv 3=.tup (hJ.map .str)
 g4:C.gv 4=.str figS
 g5:C.gv 5=.str begS
 g6:C.gv 6=.str nsgS
 g7:C.gv 7=.str pX
 g8:C.gv 8=.int 40
 g9:C.gv 9=.clst (lX.map .str)
 g10:C.gv 10=.clst (nK.map .str)
section
variable {C:Cx}{H:MH}{Q:QV}{E:MH→Prop}{a d r i n:Nat}{toks ts:List PV}{k t:List Nat}{z:Int}{v w:PV}
theorem PSt.head (P:PSt H a d r (v::ts)):∃ toks i,WS H a d r toks i∧toks.drop i=v::ts∧toks[min i (toks.length - 1)]?=some v∧i<toks.length:=by
 refine X22 P fun toks i W e=>?_
 have hi:i<toks.length:=by
  have:=congrArg List.length e;simp at this;exact ar73 this
 refine I24 toks i W e (?_) hi
 refine Eq.symm (show min i (toks.length - 1)=i by exact Nat.min_eq_left (Nat.le_sub_one_of_lt hi))▸?_
 have:=congrArg (·[0]?) e
 simpa using this
theorem PSt.second (P:PSt H a d r (v::w::ts)):∃ toks i,WS H a d r toks i∧toks[min (i+1) (toks.length - 1)]?=some w:=by
 refine X22 P fun toks i W e=>?_
 have hi:i+1<toks.length:=by
  have:=congrArg List.length e;simp at this;exact ar75 this
 refine I22 toks i W (?_)
 refine Eq.symm (show min (i+1) (toks.length - 1)=i+1 by exact Nat.min_eq_left (Nat.le_sub_one_of_lt hi))▸?_
 have:=congrArg (·[1]?) e
 simpa using this
theorem PSt.next (W:WS H a d r toks i) (e:toks.drop i=v::ts):PSt (H.set d (.flds [(0,.lst r),(1,.int (i+1:Nat))])) a d r ts:=
 ⟨toks,i+1,W.at (i+1),by
  have:toks.drop (i+1)=(toks.drop i).drop 1:=by rw [List.drop_drop]
  rw [this,e];rfl⟩
theorem jF (R:RW C) (P:PSt H a d r (v::ts)) (q:Q v H):aB C (n+1) 1 [.obj a] H Q E:=by
 refine X24 (P.head) fun toks i W e h J=>?_
 exact xR R.peek0 W h q
theorem lZ (R:RW C) (P:PSt H a d r (cB k t z v w::ts)) (hk:k≠jK) (q:∀ H',PSt H' a d r ts→Ev d r H H'→Q (cB k t z v w) H'):aB C (n+2) 2 [.obj a] H Q E:=by
 refine X24 (P.head) fun toks i W e h J=>?_
 refine Cu R.take R.peek0 W h ?_
 rw [if_neg hk]
 exact q _ (PSt.next W e) (.set (.inl rfl))
theorem wV (R:RW C) (P:PSt H a d r (cB jK t z v w::ts)) (q:Q (cB jK t z v w) H):aB C (n+2) 2 [.obj a] H Q E:=by
 refine X24 (P.head) fun toks i W e h J=>?_
 refine Cu R.take R.peek0 W h ?_
 rw [if_pos rfl];exact q
theorem vX {x:List Nat}{ps:List (List Nat)}(inst:Decidable (PV.str x∈ps.map PV.str)):@decide _ inst=decide (x∈ps):=by rw [decide_eq_decide];simp
theorem gX {ps:List (List Nat)}:eZ (ps.map PV.str):=fun y hy=>by
 obtain ⟨l,_,rfl⟩:=List.mem_map.mp hy;exact ⟨l,rfl⟩
theorem rT {x:List Nat}{ps:List (List Nat)}{P:Bool→Prop}(h:P (decide (x∈ps))):cL H .in_ (.str x) (.tup (ps.map .str)) P:=by
 refine And.intro gX ?_
 rw [vX];exact h
theorem rU {x:List Nat}{ps:List (List Nat)}{b:Nat}{P:Bool→Prop}(hb:H b=some (.list (ps.map .str))) (h:P (decide (x∈ps))):cL H .in_ (.str x) (.lst b) P:=by
 have e:fT H (.lst b)=some (ps.map .str):=by simp only [fT,hb]
 show dL (fT H (.lst b)) _
 rw [bS e]
 refine And.intro gX ?_
 rw [vX];exact h
theorem Dj {x:List Nat}{ps:List (List Nat)}{b:Nat}{P:Bool→Prop}(hb:H b=some (.list (ps.map .str))) (h:P (!decide (x∈ps))):cL H .nin (.str x) (.lst b) P:=
 rU (P:=fun r=>P (!r)) hb h
theorem aE {xs:List PV}{k:Nat}{u:PV}(hl:xs.length≤16000000) (hx:xs[k]?=some u) (q:Q u H):fY (.tup xs) (.int k) H Q:=Do hl rfl hx q
theorem fR (R:RW C) (P:PSt H a d r (cB k t z v w::ts)) {x:List Nat}(q:Q (.bool (decide ((k=aQ∨k=bK)∧t=x))) H):aB C (n+2) 3 [.obj a,.str x] H Q E:=by
 refine X24 (P.head) fun toks i W e hh J=>?_
 apply R.looks0 rfl
 simp only [gL]
 walk_at "mu"
 refine W.obi ?_
 refine Df (k:=0) R.peek W hh ?_
 walk_at "mu"
 refine aE (k:=0) (Nat.le_of_ble_eq_true rfl) rfl (rT (ps:=[aQ,bK]) ?_)
 by_cases e:k=aQ∨k=bK
 ·have e1:decide (k∈[aQ,bK])=true:=by simpa using e
  rw [e1]
  walk_at "mu"
  refine aE (k:=1) (Nat.le_of_ble_eq_true rfl) rfl ?_
  have:decide ((k=aQ∨k=bK)∧t=x)=decide (t=x):=by simp [e]
  rw [this] at q;exact q
 ·have e1:decide (k∈[aQ,bK])=false:=by simpa using e
  rw [e1]
  have:decide ((k=aQ∨k=bK)∧t=x)=false:=by simp [e]
  rw [this] at q;exact q
theorem rN (R:RW C) (P:PSt H a d r (u::cB k t z v w::ts)) {x:List Nat}(q:Q (.bool (decide ((k=aQ∨k=bK)∧t=x))) H):aB C (n+2) 3 [.obj a,.str x,.int 1] H Q E:=by
 refine X22 (P.second) fun toks i W hh=>?_
 apply R.looks rfl
 simp only [gL]
 walk_at "mu"
 refine W.obi ?_
 refine Df (k:=1) R.peek W hh ?_
 walk_at "mu"
 refine aE (k:=0) (Nat.le_of_ble_eq_true rfl) rfl (rT (ps:=[aQ,bK]) ?_)
 by_cases e:k=aQ∨k=bK
 ·have e1:decide (k∈[aQ,bK])=true:=by simpa using e
  rw [e1]
  walk_at "mu"
  refine aE (k:=1) (Nat.le_of_ble_eq_true rfl) rfl ?_
  have:decide ((k=aQ∨k=bK)∧t=x)=decide (t=x):=by simp [e]
  rw [this] at q;exact q
 ·have e1:decide (k∈[aQ,bK])=false:=by simpa using e
  rw [e1]
  have:decide ((k=aQ∨k=bK)∧t=x)=false:=by simp [e]
  rw [this] at q;exact q
theorem sA (R:RW C) (P:PSt H a d r (cB k t z v w::ts)) {x:List Nat}(hx:x.length≤1000)
  (q:if (k=aQ∨k=bK)∧t=x then ∀ H',PSt H' a d r ts→Ev d r H H'→Q (cB k t z v w) H' else E H):aB C (n+3) 4 [.obj a,.str x] H Q E:=by
 refine X24 (P.head) fun toks i W e hh J=>?_
 apply R.expect rfl
 simp only [mO]
 walk_at "mu"
 refine W.obi ?_
 refine fR R P ?_
 by_cases c:(k=aQ∨k=bK)∧t=x
 ·rw [if_pos c] at q
  refine Eq.symm (decide_eq_true c)▸?_
  walk_at "mu"
  refine W.obi ?_
  exact lZ R P (by rcases c.1 with rfl|rfl<;>decide) q
 ·rw [if_neg c] at q
  refine Eq.symm (decide_eq_false c)▸?_
  walk_at "mu"
  refine ⟨by simp;exact Nat.le_trans hx (Nat.le_add_left _ _),W.obi (jF R P (aE (k:=2) (Nat.le_of_ble_eq_true rfl) rfl q))⟩
theorem Bc (R:RW C) (G:dM C) (P:PSt H a d r (cB k t z v w::ts))
  (q:if k=bK∧t∉keyW then ∀ H',PSt H' a d r ts→Ev d r H H'→Q (.tup [.str t,.int z]) H' else E H):aB C (n+3) 5 [.obj a] H Q E:=by
 refine X24 (P.head) fun toks i W e hh J=>?_
 apply R.name rfl
 simp only [sI]
 walk_at "mu"
 refine W.obi ?_
 refine jF R P ?_
 walk_at "mu"
 refine aE (k:=0) (Nat.le_of_ble_eq_true rfl) rfl ?_
 simp only [nA]
 by_cases c:k=bK
 ·rw [decide_eq_true (show k=[110,97,109,101] from c)]
  walk_at "mu"
  refine aE (k:=1) (Nat.le_of_ble_eq_true rfl) rfl ?_
  refine Eq.symm (G.g2)▸?_
  refine rT ?_
  by_cases c2:t∈keyW
  ·rw [if_neg (fun h=>h.2 c2)] at q
   refine Eq.symm (decide_eq_true c2)▸?_
   walk_at "mu"
   exact aE (k:=2) (Nat.le_of_ble_eq_true rfl) rfl q
  ·rw [if_pos ⟨c,c2⟩] at q
   refine Eq.symm (decide_eq_false c2)▸?_
   walk_at "mu"
   refine W.q1 ?_
   walk_at "mu"
   refine W.s1 ?_
   walk_at "mu"
   exact aE (k:=1) (Nat.le_of_ble_eq_true rfl) rfl (aE (k:=2) (Nat.le_of_ble_eq_true rfl) rfl (q _ (PSt.next W e) (.set (.inl rfl))))
 ·rw [if_neg (fun h=>c h.1)] at q
  rw [decide_eq_false (show ¬k=[110,97,109,101] from c)]
  walk_at "mu"
  exact aE (k:=2) (Nat.le_of_ble_eq_true rfl) rfl q
theorem kF {l:List Nat}(hl:l.length≤16000000) (q:Q (.str (l.take 1)) H):pR (.str l) .none (.int 1) H Q:=by
 refine And.intro hl (And.intro (Nat.zero_le _) (And.intro (Nat.le_of_ble_eq_true rfl) ?_))
 exact q
theorem Ho {l:List Nat}(hl:l.length≤16000000) (q:Q (.str (l.drop 1)) H):pR (.str l) (.int 1) .none H Q:=by
 refine And.intro hl (And.intro (Nat.le_of_ble_eq_true rfl) (And.intro hl ?_))
 have:bM l (1:Int).toNat l.length=l.drop 1:=by simp [bM]
 rw [this];exact q
theorem uV (R:RW C) (P:PSt H a d r (cB k t z v w::ts)) (ht:t.length≤1000)
  (q:if k=aQ∧t.take 1=[62] then (∀ H',PSt H' a d r (if t=[62] then ts else cB aQ (t.drop 1) (z+1) .none .none::ts)→Ev d r H H'→Q (cB aQ [62] z .none .none) H') else E H):aB C (n+3) 6 [.obj a] H Q E:=by
 refine X24 (P.head) fun toks i W e hh hi=>?_
 apply R.split rfl
 simp only [gC]
 walk_at "mu"
 refine W.obi ?_
 refine jF R P ?_
 walk_at "mu"
 refine aE (k:=0) (Nat.le_of_ble_eq_true rfl) rfl ?_
 simp only [nA]
 by_cases c:k=aQ
 ·rw [decide_eq_true (show k=[115,105,103,110] from c)]
  walk_at "mu"
  refine aE (k:=1) (Nat.le_of_ble_eq_true rfl) rfl (kF (jR ht) ?_)
  simp only [nA]
  by_cases c2:t.take 1=[62]
  ·rw [if_pos ⟨c,c2⟩] at q
   refine Eq.symm (decide_eq_true c2)▸?_
   walk_at "mu"
   refine aE (k:=1) (Nat.le_of_ble_eq_true rfl) rfl ?_
   simp only [cF]
   by_cases c3:t=[62]
   ·refine Eq.symm (decide_eq_true c3)▸?_
    replace q:=(if_pos c3)▸q
    walk_at "mu"
    refine W.q1 ?_
    walk_at "mu"
    refine W.s1 ?_
    walk_at "mu"
    exact aE (k:=2) (Nat.le_of_ble_eq_true rfl) rfl (q _ (PSt.next W e) (.set (.inl rfl)))
   ·refine Eq.symm (decide_eq_false c3)▸?_
    replace q:=(if_neg c3)▸q
    walk_at "mu"
    refine aE (k:=1) (Nat.le_of_ble_eq_true rfl) rfl (Ho (jR ht) (aE (k:=2) (Nat.le_of_ble_eq_true rfl) rfl ?_))
    walk_at "mu"
    simp only [W.at0,W.at1]
    have hW:=W.len
    refine qR W.hr (I04 (by simp) (ar79 hi) (ar1 hW) (?_))
    walk_at "mu"
    refine aE (k:=2) (Nat.le_of_ble_eq_true rfl) rfl (q _ ?_ (.set (.inr (.inl rfl))))
    have h1:a≠r:=fun q=>by have:=W.ha;rw [q,W.hr] at this;cases this
    have h2:d≠r:=fun q=>by have:=W.hr;rw [←q,W.hd] at this;cases this
    refine I22 (toks.set i (cB aQ (t.drop 1) (z+1) .none .none)) i ⟨by unfold MH.set;rw [if_neg h1];exact W.ha,by unfold MH.set;rw [if_neg h2];exact W.hd,by unfold MH.set;rw [if_pos rfl];rfl,by simpa using W.len⟩ (?_)
    rw [List.drop_set,if_neg (Nat.lt_irrefl _),e,Nat.sub_self];rfl
  ·rw [if_neg (fun h=>c2 h.2)] at q
   refine Eq.symm (decide_eq_false c2)▸?_
   walk_at "mu"
   exact aE (k:=2) (Nat.le_of_ble_eq_true rfl) rfl q
 ·rw [if_neg (fun h=>c h.1)] at q
  rw [decide_eq_false (show ¬k=[115,105,103,110] from c)]
  walk_at "mu"
  exact aE (k:=2) (Nat.le_of_ble_eq_true rfl) rfl q
end
abbrev Wd:=List Nat
inductive Rs (α:Type) where|out|fail|ok (x:α)
noncomputable def fA (w:Wd):Bool:=w.take 1==[39]
noncomputable def fX:List Wd:=nK++[[84],[85]]
noncomputable def sV:Wd:=[115,117,112,101,114]
noncomputable def slfW:Wd:=[115,101,108,102]
noncomputable def iM:Wd:=[58,58]
noncomputable def bA:List Wd→Bool
 | w::_=>fA w
 | []=>false
noncomputable def eW (elem:List Wd→Rs (PV×List Wd)):Nat→List Wd→List PV→List PV→Rs (PV×PV×List Wd)
 | 0,_,_,_=>.fail
 | k+1,ws,rs,ts=>
  let aft (ws:List Wd) (rs ts:List PV):Rs (PV×PV×List Wd):=
   if ws.head?=some [44] then eW elem k ws.tail rs ts else if ws.head?=some [62] then .ok (.tup rs,.tup ts,ws.tail) else .fail
  if ws.head?=some [62] then .ok (.tup rs,.tup ts,ws.tail)
  else if bA ws then (if ts=[] then aft ws.tail (rs++[.str (ws.headD [])]) ts else .fail)
  else match elem ws with
   | .out=>.out
   | .fail=>.fail
   | .ok (x,ws')=>aft ws' rs (ts++[x])
noncomputable def iK (tyf:List Wd→Rs (PV×List Wd)):Nat→List Wd→List PV→Rs (List PV×Bool×List Wd)
 | 0,_,_=>.fail
 | k+1,ws,xs=>if ws.head?=some [41] then .ok (xs,true,ws.tail) else match tyf ws with
  | .out=>.out
  | .fail=>.fail
  | .ok (x,ws')=>if ws'.head?=some [44] then iK tyf k ws'.tail (xs++[x]) else if ws'.head?=some [41] then .ok (xs++[x],false,ws'.tail) else .fail
noncomputable def hdQ {β:Type}(x:Wd) (ws:List Wd) (k:List Wd→β) (d:β):β:=if ws.head?=some x then k ws.tail else d
theorem hdQ_y {β:Type}{x:Wd}{r:List Wd}{k:List Wd→β}{d:β}:hdQ x (x::r) k d=k r:=if_pos rfl
theorem iB {β:Type}{x:Wd}{ws:List Wd}{k:List Wd→β}{d:β}(h:ws.head?≠some x):hdQ x ws k d=d:=if_neg h
theorem iU {β:Type}{x:Wd}{ws:List Wd}{k:List Wd→β}{d v:β}{P:Prop}(h:hdQ x ws k d=v) (y:∀ r,ws=x::r→k r=v→P) (n:ws.head?≠some x→d=v→P):P:=by
 by_cases c:ws.head?=some x
 ·match ws,c with
  | w::r,c=>cases c;exact y r rfl (hdQ_y.symm.trans h)
 ·exact n c ((iB c).symm.trans h)
theorem aZ (ws:List Wd) (x:Wd):(∃ r',ws=x::r')∨ws.head?≠some x:=by
 cases ws with
 | nil=>right;simp
 | cons w r=>
  by_cases c:w=x
  ·subst c;exact .inl ⟨r,rfl⟩
  ·right;simpa using c
noncomputable def kA (tyf:List Wd→Rs (PV×List Wd)) (w:Wd) (r':List Wd):Rs (PV×List Wd):=match eW tyf (r'.length+1) r' [] [] with
 | .out=>.out
 | .fail=>.fail
 | .ok (a,b,r'')=>.ok (.tup [.str w,a,b],r'')
noncomputable def jC (tyf:List Wd→Rs (PV×List Wd)) (isE:Bool) (w:Wd) (r:List Wd):Rs (PV×List Wd):=
 if r.take 2=[iM,[60]] then kA tyf w (r.drop 2) else if isE=false∧r.head?=some [60] then kA tyf w r.tail else .ok (.tup [.str w,.tup [],.tup []],r)
noncomputable def bP (ahead:List Wd) (w:Wd):Bool:=if w∈dW then decide (ahead=[]∨(w=sV∧(ahead.getLast?.getD []=sV∨ahead.getLast?.getD []=slfW))) else decide (w∈fX)
noncomputable def iS (tyf:List Wd→Rs (PV×List Wd)) (isE:Bool):Nat→List Wd→List Wd→List PV→Rs (List PV×List Wd)
 | 0,_,_,_=>.fail
 | k+1,_,[],_=>.fail
 | k+1,ahead,w::r,acc=>if bP ahead w then match jC tyf isE w r with
   | .out=>.out
   | .fail=>.fail
   | .ok (s,r')=>hdQ iM r' (fun r''=>iS tyf isE k (ahead++[w]) r'' (acc++[s])) (.ok (acc++[s],r'))
  else .fail
abbrev kL:Wd:=[116,117,112,108,101]
abbrev kM:Wd:=[114,101,102]
abbrev kArray:Wd:=[97,114,114,97,121]
abbrev Bu:Wd:=[110,101,118,101,114]
abbrev Bv:Wd:=[105,110,102,101,114]
abbrev kPath:Wd:=[112,97,116,104]
abbrev rG:Wd:=[109,117,116]
noncomputable def spath (tyf:List Wd→Rs (PV×List Wd)) (isE:Bool) (ws:List Wd):Rs (PV×List Wd):=match iS tyf isE (ws.length+1) [] ws [] with
 | .out=>.out
 | .fail=>.fail
 | .ok (xs,r)=>.ok (.tup xs,r)
noncomputable def fP (r:List Wd):Bool×List Wd:=hdQ rG r (fun r'=>(true,r')) (false,r)
noncomputable def iJ (tyf:List Wd→Rs (PV×List Wd)) (g:PV) (r:List Wd):Rs (PV×List Wd):=match tyf (fP r).2 with
 | .out=>.out
 | .fail=>.fail
 | .ok (t,r₃)=>.ok (.tup [.str kM,.int 0,g,.bool (fP r).1,t],r₃)
noncomputable def refT (tyf:List Wd→Rs (PV×List Wd)) (r:List Wd):Rs (PV×List Wd):=match r with
 | w::r'=>if fA w then iJ tyf (.str w) r' else iJ tyf .none (w::r')
 | []=>iJ tyf .none []
noncomputable def vE (tyf:List Wd→Rs (PV×List Wd)) (r:List Wd):Rs (PV×List Wd):=match iK tyf (r.length+1) r [] with
 | .out=>.out
 | .fail=>.fail
 | .ok (xs,c,r')=>.ok (if xs.length=1∧c=false then xs.headD .none else .tup [.str kL,.int 0,.tup xs],r')
noncomputable def tC (tyf:List Wd→Rs (PV×List Wd)) (r:List Wd):Rs (PV×List Wd):=match tyf r with
 | .out=>.out
 | .fail=>.fail
 | .ok (t,r')=>if r'.take 3=[[59],[51],[93]] then .ok (.tup [.str kArray,.int 0,t,.int 3],r'.drop 3) else .fail
noncomputable def pthT (tyf:List Wd→Rs (PV×List Wd)) (ws:List Wd):Rs (PV×List Wd):=match spath tyf false ws with
 | .out=>.out
 | .fail=>.fail
 | .ok (p,r)=>.ok (.tup [.str kPath,.int 0,p],r)
theorem hd_eq {ws:List Wd}{x:Wd}(h:ws.head?=some x):ws=x::ws.tail:=by
 cases ws with
 | nil=>nomatch h
 | cons w r=>exact congrArg (·::r) (Option.some.inj h)
theorem take2 {r:List Wd}{x y:Wd}(h:r.take 2=[x,y]):r=x::y::r.drop 2:=(List.take_append_drop 2 r).symm.trans (congrArg (·++r.drop 2) h)
theorem segT_e {tyf:List Wd→Rs (PV×List Wd)}{isE:Bool}{w:Wd}{r:List Wd}{v:Rs (PV×List Wd)}{P:Prop}(h:jC tyf isE w r=v) (y2:∀ r',r=iM::[60]::r'→kA tyf w r'=v→P)
  (y1:∀ r',r=[60]::r'→isE=false→kA tyf w r'=v→P) (n:.ok (.tup [.str w,.tup [],.tup []],r)=v→P):P:=by
 unfold jC at h
 split at h
 ·rename_i c;exact y2 _ (take2 c) h
 ·split at h
  ·rename_i c;exact y1 _ (hd_eq c.2) c.1 h
  ·exact n h
theorem tS (r:List Wd):(∃ r',r=rG::r'∧fP r=(true,r'))∨fP r=(false,r):=
 (aZ r rG).elim (fun ⟨r',e⟩=>.inl ⟨r',e,e▸hdQ_y⟩) fun h=>.inr (iB h)
theorem take3 {r:List Wd}{x y z:Wd}(h:r.take 3=[x,y,z]):r=x::y::z::r.drop 3:=(List.take_append_drop 3 r).symm.trans (congrArg (·++r.drop 3) h)
noncomputable def nevT (r:List Wd):Rs (PV×List Wd):=.ok (.tup [.str Bu,.int 0],r)
noncomputable def infT (r:List Wd):Rs (PV×List Wd):=.ok (.tup [.str Bv,.int 0],r)
noncomputable def ty:Nat→List Wd→Rs (PV×List Wd)
 | n+4,ws=>hdQ [40] ws (vE (ty n))<|hdQ [38] ws (refT (ty (n+2)))<|hdQ [91] ws (tC (ty n))<|hdQ [33] ws nevT<|hdQ [95] ws infT<|pthT (ty n) ws
 | _,_=>.out
theorem qN {P:Nat→Prop}(z:∀ n,n<4→P n) (s:∀ n,P n→P (n+2)→P (n+4)) (n:Nat):P n:=
 n.strongRecOn fun n ih=>(Nat.lt_or_ge n 4).elim (z n) fun h=>Nat.sub_add_cancel h▸s (n - 4) (ih _ (Nat.sub_lt_of_pos_le (by decide) h)) (ih _ (by omega))
theorem ty_lt {n:Nat}(h:n<4) (ws:List Wd):ty n ws=.out:=by
 rcases n with _|_|_|_|n<;>first|rfl|exact absurd h (Nat.not_lt_of_le (Nat.le_add_left 4 n))
theorem ty_q {n:Nat}{ws:List Wd}{x:Rs (PV×List Wd)}(h:ty (n+4) ws=x):(hdQ [40] ws (vE (ty n))<|hdQ [38] ws (refT (ty (n+2)))<|hdQ [91] ws (tC (ty n))<|hdQ [33] ws nevT<|hdQ [95] ws infT<|pthT (ty n) ws)=x:=h
theorem ty_e {n:Nat}{ws:List Wd}{v:Rs (PV×List Wd)}{P:Prop}(h:ty (n+4) ws=v) (k1:∀ r,ws=[40]::r→vE (ty n) r=v→P) (k2:∀ r,ws=[38]::r→refT (ty (n+2)) r=v→P)
  (k3:∀ r,ws=[91]::r→tC (ty n) r=v→P) (k4:∀ r,ws=[33]::r→nevT r=v→P) (k5:∀ r,ws=[95]::r→infT r=v→P) (k6:pthT (ty n) ws=v→P):P:=
 iU (ty_q h) k1 fun J h=>iU h k2 fun J h=>iU h k3 fun J h=>iU h k4 fun J h=>iU h k5 fun J h=>k6 h
noncomputable def kQ (tyf:List Wd→Rs (PV×List Wd)):Nat→List Wd→List PV→Rs (List PV×List Wd)
 | 0,_,_=>.fail
 | k+1,ws,xs=>hdQ [43] ws (fun r=>match spath tyf false r with
   | .out=>.out
   | .fail=>.fail
   | .ok (p,r')=>kQ tyf k r' (xs++[p])) (.ok (xs,ws))
noncomputable def prmB (tyf:List Wd→Rs (PV×List Wd)) (w:Wd) (r':List Wd):Rs (PV×List Wd):=match spath tyf false r' with
 | .out=>.out
 | .fail=>.fail
 | .ok (p,r'')=>match kQ tyf (r''.length+1) r'' [p] with
  | .out=>.out
  | .fail=>.fail
  | .ok (xs,s)=>.ok (.tup [.str w,.tup xs],s)
noncomputable def param (tyf:List Wd→Rs (PV×List Wd)) (ws:List Wd):Rs (PV×List Wd):=match ws with
 | []=>.fail
 | w::r=>if w∈fX then hdQ [58] r (prmB tyf w) (.ok (.tup [.str w,.tup []],r)) else .fail
noncomputable def genB (n:Nat) (r:List Wd):Rs (PV×List Wd):=match eW (param (ty n)) (r.length+1) r [] [] with
 | .out=>.out
 | .fail=>.fail
 | .ok (a,b,r')=>.ok (.tup [a,b],r')
noncomputable def gens (n:Nat) (ws:List Wd):Rs (PV×List Wd):=hdQ [60] ws (genB n) (.ok (.tup [.tup [],.tup []],ws))
noncomputable def cR:PV→PV
 | .tup (.str k::.int _::r)=>.tup (.str k::.int 0::r)
 | p=>p
theorem zs_el {P:PV→Prop}(l:List PV) (y:∀ k i r,l=.str k::.int i::r→P (.tup (.str k::.int 0::r))) (n:P (.tup l)):P (cR (.tup l)):=by
 rcases l with _|⟨a,_|⟨b,r⟩⟩
 ·exact n
 ·cases a<;>exact n
 ·cases a<;>first|exact n|(cases b<;>first|exact n|exact y _ _ _ rfl)
mutual
noncomputable def aO:PV→PV
 | .tup xs=>cR (.tup (aD xs))
 | p=>p
noncomputable def aD:List PV→List PV
 | []=>[]
 | x::r=>aO x::aD r
end
noncomputable def bO:List Wd:=[[58,58],[83,101,108,102],[99,114,97,116,101],[115,101,108,102],[115,117,112,101,114],[65],[98],[86,101,99,56],[39,97],[39,115,116,97,116,105,99],[60],[62],[44],[38],[109,117,116],[40],[41],[91],[93],[59],[51],[33],[95],[84],[85],[58],[43],[102,110],[39,98]]
noncomputable def bJ (w:Wd):Wd:=if w∈hJ then aQ else if fA w then regS else if w=[51] then intS else bK
noncomputable def pQ (w:Wd) (z:Int):PV:=cB (bJ w) w z (if w=[51] then .int 3 else .none) .none
inductive jT:List PV→List Wd→Prop
 | fin (z:Int):jT [cB jK [] z .none .none] []
 | one {w:Wd} {z:Int} {ts:List PV} {ws:List Wd}:w∈bO→jT ts ws→jT (pQ w z::ts) (w::ws)
 | two {w:Wd} {z:Int} {ts:List PV} {ws:List Wd}:(w=[62]∨w=[38])→jT ts ws→jT (cB aQ (w++w) z .none .none::ts) (w::w::ws)
noncomputable def WSt (H:MH) (a d r:Nat) (ws:List Wd):Prop:=∃ ts,PSt H a d r ts∧jT ts ws
noncomputable def qG (x:Wd):Bool:=(bJ x==aQ||bJ x==bK)&&x.length != 0&&x != [62]&&x != [38]&&x != [62,62]&&x != [38,38]
theorem qI:∀ w∈bO,(bJ w=jK)=False:=by decide +kernel
section
variable {C:Cx}{H:MH}{Q:QV}{E:MH→Prop}{a d r i n:Nat}{toks ts:List PV}{ws:List Wd}
theorem WSt.ex (W:WSt H a d r ws):∃ k t z v w ts,PSt H a d r (cB k t z v w::ts)∧jT (cB k t z v w::ts) ws:=by
 refine X12 W fun ts P T=>?_
 clear W ex
 cases T with
 | fin z=>exact I62 _ _ _ _ _ _ P (.fin z)
 | one h T=>exact I62 _ _ _ _ _ _ P (.one h T)
 | two h T=>exact I62 _ _ _ _ _ _ P (.two h T)
theorem cW (R:RW C) (W:WSt H a d r ws) {x:Wd}(hx:qG x=true) (q:Q (.bool (decide (ws.head?=some x))) H):aB C (n+2) 3 [.obj a,.str x] H Q E:=by
 simp only [qG,Bool.and_eq_true,Bool.or_eq_true,beq_iff_eq,bne_iff_ne] at hx
 refine hC fun hG=>?_
 obtain ⟨⟨⟨⟨⟨h1,h2⟩,h3⟩,h4⟩,h5⟩,h6⟩:=hx<;>(refine hG ?_;clear hG)
 refine hC fun hG=>?_
 obtain ⟨ts,P,T⟩:=W<;>(refine hG ?_;clear hG)
 clear h2 cW
 cases T with
 | fin z=>
  refine fR R P ?_
  have:decide ((jK=aQ∨jK=bK)∧[]=x)=decide (([]:List Wd).head?=some x):=by
   rw [decide_eq_decide];simp [jK]
  rw [this];exact q
 | @one w z ts ws hv T=>
  refine fR R P ?_
  have:decide ((bJ w=aQ∨bJ w=bK)∧w=x)=decide ((w::ws).head?=some x):=by
   rw [decide_eq_decide]
   constructor
   ·rintro ⟨_,rfl⟩;rfl
   ·intro h;simp at h;subst h;exact ⟨h1,rfl⟩
  rw [this];exact q
 | @two w z ts ws hv T=>
  refine fR R P ?_
  have:decide ((aQ=aQ∨aQ=bK)∧w++w=x)=decide ((w::w::ws).head?=some x):=by
   rw [decide_eq_decide]
   constructor
   ·clear T P ts h1 E n r d
    rintro ⟨_,rfl⟩
    rcases hv with rfl|rfl
    ·exact absurd rfl h5
    ·exact absurd rfl h6
   ·intro h;simp at h;subst h
    clear T P ts h6 h5 h1 E n
    rcases hv with rfl|rfl
    ·exact absurd rfl h3
    ·exact absurd rfl h4
  rw [this];exact q
theorem fF (R:RW C) {w:Wd}(hw:w≠[62]∧w≠[38]) (W:WSt H a d r (w::ws)) (q:∀ H' z,WSt H' a d r ws→Ev d r H H'→Q (pQ w z) H'):aB C (n+2) 2 [.obj a] H Q E:=by
 refine hC fun hG=>?_
 obtain ⟨ts,P,T⟩:=W<;>(refine hG ?_;clear hG)
 cases T with
 | @one w z ts ws hv T=>exact lZ R P (fun h=>by have:=qI w hv;rw [h] at this;simp at this) fun H' P' ev=>q H' z (I12 ts P' T) ev
 | two hv T=>rcases hv with rfl|rfl<;>simp at hw
theorem iW (R:RW C) {x:Wd}(hx:qG x=true) (hl:x.length≤1000) (W:WSt H a d r ws) (q:∀ H' z r',ws=x::r'→WSt H' a d r r'→Ev d r H H'→Q (pQ x z) H') (e:ws.head?≠some x→E H):aB C (n+3) 4 [.obj a,.str x] H Q E:=by
 simp only [qG,Bool.and_eq_true,Bool.or_eq_true,beq_iff_eq,bne_iff_ne] at hx
 obtain ⟨⟨⟨⟨⟨h1,h2⟩,h3⟩,h4⟩,h5⟩,h6⟩:=hx
 obtain ⟨ts,P,T⟩:=W
 clear h2
 cases T with
 | fin z=>exact sA R P hl (by rw [if_neg (by simp [jK])];exact e (by simp))
 | @one w z ts ws hv T=>
  refine sA R P hl ?_
  by_cases c:w=x
  ·subst c
   rw [if_pos ⟨h1,rfl⟩]
   exact fun H' P' ev=>q H' z ws rfl (I12 ts P' T) ev
  ·rw [if_neg (fun h=>c h.2)]
   exact e (by simpa using c)
 | @two w z ts ws hv T=>
  refine sA R P hl ?_
  have hne:w≠x:=by rintro rfl;rcases hv with rfl|rfl<;>simp at h3 h4
  have hne2:w++w≠x:=by rintro rfl;rcases hv with rfl|rfl<;>simp at h5 h6
  rw [if_neg (fun h=>hne2 h.2)]
  exact e (by simpa using hne)
theorem voc_reg:∀ w∈bO,decide (bJ w=regS)=fA w:=by decide +kernel
theorem voc_gt:∀ w∈bO,decide (bJ w=aQ∧w.take 1=[62])=decide (w=[62]):=by decide +kernel
theorem Gx:∀ w∈bO,decide (bJ w=bK∧w∉keyW)=decide (w∈fX):=by decide +kernel
theorem lE:∀ w∈bO,w.length≤7:=by decide +kernel
theorem Cs {k t:List Nat}{z:Int}{v w:PV}(T:jT (cB k t z v w::ts) ws):decide (k=regS)=bA ws:=by
 cases T with
 | fin z=>rfl
 | one hv T=>exact voc_reg _ hv
 | two hv T=>rcases hv with rfl|rfl<;>rfl
theorem tok_gt {k t:List Nat}{z:Int}{v w:PV}(T:jT (cB k t z v w::ts) ws):decide (k=aQ∧t.take 1=[62])=decide (ws.head?=some [62]):=by
 cases T with
 | fin z=>rfl
 | one hv T=>rw [voc_gt _ hv];simp
 | two hv T=>rcases hv with rfl|rfl<;>rfl
theorem Ct {k t:List Nat}{z:Int}{v w:PV}(T:jT (cB k t z v w::ts) ws):t.length≤1000:=by
 cases T with
 | fin z=>simp
 | one hv T=>have:=lE _ hv;exact Nat.le_trans this (Nat.le_add_left _ _)
 | two hv T=>rcases hv with rfl|rfl<;>simp
theorem name_w (R:RW C) (G:dM C) (W:WSt H a d r ws) (q:∀ H' z w r',ws=w::r'→w∈fX→WSt H' a d r r'→Ev d r H H'→Q (.tup [.str w,.int z]) H') (e:(∀ w r',ws=w::r'→w∉fX)→E H):aB C (n+3) 5 [.obj a] H Q E:=by
 refine hC fun hG=>?_
 obtain ⟨ts,P,T⟩:=W<;>(refine hG ?_;clear hG)
 cases T with
 | fin z=>exact Bc R G P (by rw [if_neg (fun h=>by simp [jK] at h)];exact e (fun w r' h=>by cases h))
 | @one w z ts ws hv T=>
  refine Bc R G P ?_
  have hn:=Gx _ hv
  rw [decide_eq_decide] at hn
  by_cases c:w∈fX
  ·rw [if_pos (hn.mpr c)]
   exact fun H' P' ev=>q H' z w ws rfl c (I12 ts P' T) ev
  ·rw [if_neg (fun h=>c (hn.mp h))]
   exact e (fun w' r' h=>by cases h;exact c)
 | @two w z ts ws hv T=>
  refine Bc R G P ?_
  rw [if_neg (fun h=>by simp at h)]
  exact e (fun w' r' h=>by cases h;rcases hv with rfl|rfl<;>decide)
theorem split_w (R:RW C) (W:WSt H a d r ws) (q:∀ H' r' z,ws=[62]::r'→WSt H' a d r r'→Ev d r H H'→Q (cB aQ [62] z .none .none) H') (e:ws.head?≠some [62]→E H):aB C (n+3) 6 [.obj a] H Q E:=by
 refine hC fun hG=>?_
 obtain ⟨ts,P,T⟩:=W<;>(refine hG ?_;clear hG)
 cases T with
 | fin z=>exact uV R P (by simp) (by rw [if_neg (fun h=>by simp [jK] at h)];exact e (by decide))
 | @one w z ts ws hv T=>
  refine uV R P (by have:=lE _ hv;exact Nat.le_trans this (Nat.le_add_left _ _)) ?_
  have hn:=voc_gt _ hv
  rw [decide_eq_decide] at hn
  by_cases c:w=[62]
  ·rw [if_pos (hn.mpr c)]
   subst c
   intro H' P' ev
   rw [if_pos rfl] at P'
   exact q H' ws z rfl (I12 ts P' T) ev
  ·rw [if_neg (fun h=>c (hn.mp h))]
   exact e (by simpa using c)
 | @two w z ts ws hv T=>
  refine uV R P (by rcases hv with rfl|rfl<;>simp) ?_
  rcases hv with rfl|rfl
  ·rw [if_pos ⟨rfl,rfl⟩]
   intro H' P' ev
   rw [if_neg (by decide)] at P'
   exact q H' _ z rfl (I12 _ P' (.one (z:=z+1) (w:=[62]) (by decide) T)) ev
  ·rw [if_neg (fun h=>by simp at h)]
   exact e (by simp)
end
structure RP (C:Cx):Prop where
 w:RW C
 closed:aT C 15 1 pN
 type:aT C 7 1 pM
 paren:aT C 8 1 eR
 refT:aT C 9 1 aH
 array:aT C 10 1 eT
 spath:aT C 11 2 dD
 spath0:oB C 11 2 dD (.bool false)
 segment:aT C 12 3 kU
 pname:aT C 13 2 iY
 args:aT C 14 1 fJ
 generics:aT C 16 1 gA
 param:aT C 17 1 jO
noncomputable def Rd (H:MH) (a d r:Nat) (Q:QV) (E:MH→Prop):Rs (PV×List Wd)→Prop
 | .out=>False
 | .fail=>∀ H',Ev d r H H'→E H'
 | .ok (t,ws)=>∀ H' t',aO t'=t→(∃ xs,t'=.tup xs)→WSt H' a d r ws→Ev d r H H'→Q t' H'
section
variable {C:Cx}{H H₀:MH}{Q:QV}{E:MH→Prop}{a d r i n m:Nat}{ts:List PV}{ws:List Wd}
theorem WSt.inst (W:WSt H a d r ws):H a=some (.inst d)∧∃ es,H d=some (.flds es):=by
 refine X12 W ?_
 rintro ts ⟨toks,i,P,_⟩ _
 exact ⟨P.ha,_,P.hd⟩
theorem WSt.rows (W:WSt H a d r ws):∃ toks,H r=some (.list toks):=by
 refine X12 W ?_
 rintro ts ⟨toks,i,P,_⟩ _
 exact ⟨_,P.hr⟩
theorem WSt.meth (W:WSt H a d r ws) {P:Prop}(p:P):asO H (.obj a) fun J J J=>P:=W.inst.2.elim fun J h2=>(Ba W.inst.1 h2).mpr p
theorem WSt.set (W:WSt H a d r ws) {b:Nat}{o:dJ}(h1:b≠a) (h2:b≠d) (h3:b≠r):WSt (H.set b o) a d r ws:=by
 refine X12 W ?_
 rintro ts ⟨toks,i,P,e⟩ T
 refine (I12 ts (I22 toks i ⟨?_,?_,?_,P.len⟩ e) T)<;>unfold MH.set
 ·rw [if_neg (Ne.symm h1)];exact P.ha
 ·rw [if_neg (Ne.symm h2)];exact P.hd
 ·rw [if_neg (Ne.symm h3)];exact P.hr
theorem WSt.new (W:WSt H a d r ws) {b:Nat}(hb:H b=none):b≠a∧b≠d∧b≠r:=by
 obtain ⟨h1,es,h2⟩:=W.inst
 obtain ⟨toks,h3⟩:=W.rows
 refine (I03 (?_) (?_) (?_))<;>rintro rfl
 ·rw [hb] at h1;cases h1
 ·rw [hb] at h2;cases h2
 ·rw [hb] at h3;cases h3
theorem Ev.new {b:Nat}{o:dJ}(x:Ev d r H₀ H) (h:H₀ b=none):Ev d r H₀ (H.set b o):=fun c h1 h2 h3=>by
 unfold MH.set
 rw [if_neg (fun q=>h3 (by rw [q];exact h))]
 exact x c h1 h2 h3
theorem Ev.none {b:Nat}(x:Ev d r H₀ H) (hb:H b=.none) (h1:b≠d) (h2:b≠r):H₀ b=.none:=by
 cases q:H₀ b with
 | none=>rfl
 | some o=>have:=x b h1 h2 (by rw [q];simp);rw [hb,q] at this;cases this
theorem Ev.at {b:Nat}{o:dJ}(x:Ev d r H₀ H) (hb:H₀ b=some o) (h1:b≠d) (h2:b≠r):H b=some o:=(x b h1 h2 (by rw [hb];simp)).trans hb
theorem Jg (R:RP C) (W:WSt H a d r ws) (q:Q (.bool (decide (ws.head?=some [62]))) H):aB C (n+2) 15 [.obj a] H Q E:=by
 refine X62 (W.ex) fun k t z v w ts P T=>?_
 apply R.closed rfl
 refine W.meth (jF R.w P ?_)
 walk_at "mu"
 refine aE (k:=0) (Nat.le_of_ble_eq_true rfl) rfl ?_
 simp only [cF]
 have hg:=tok_gt T
 by_cases c:k=aQ
 ·rw [decide_eq_true (show k=[115,105,103,110] from c)]
  walk_at "mu"
  refine aE (k:=1) (Nat.le_of_ble_eq_true rfl) rfl (kF (by have:=Ct T;exact jR this) ?_)
  simp only [cF]
  have:decide (t.take 1=[62])=decide (ws.head?=some [62]):=by rw [←hg];simp [c]
  rw [this];exact q
 ·rw [decide_eq_false (show ¬k=[115,105,103,110] from c)]
  walk_at "mu"
  have:false=decide (ws.head?=some [62]):=by rw [←hg];simp [c]
  rw [this];exact q
theorem len_one {l:List Nat}{P:PV→Prop}(h:l.length≤16000000) (q:P (.int l.length)):lenQ H (.str l) P:=⟨h,q⟩
theorem tH {w:Wd}{z:Int}(q:Q (.str w) H):fY (pQ w z) (.int 1) H Q:=aE (k:=1) (Nat.le_of_ble_eq_true rfl) rfl q
theorem Rd.mono {Q':QV}{E':MH→Prop}{H':MH}{x:Rs (PV×List Wd)}(h:Rd H a d r Q E x) (ev:Ev d r H H') (hq:∀ t H'',Q t H''→Q' t H'') (he:∀ H'',E H''→E' H''):Rd H' a d r Q' E' x:=by
 cases x with
 | out=>exact h
 | fail=>exact fun H'' ev'=>he _ (h H'' (ev.trans ev'))
 | ok p=>exact fun H'' t' h1 h0 h2 h3=>hq _ _ (h H'' t' h1 h0 h2 (ev.trans h3))
theorem Hw {tyf:List Wd→Rs (PV×List Wd)}{w:Wd}{r:List Wd}(h:fA w=true):refT tyf (w::r)=iJ tyf (.str w) r:=by
 simp only [refT,h,if_true]
theorem tN {tyf:List Wd→Rs (PV×List Wd)}{ws:List Wd}(h:bA ws=false):refT tyf ws=iJ tyf .none ws:=by
 cases ws with
 | nil=>rfl
 | cons w r=>
  have h:fA w=false:=h
  simp only [refT,h,Bool.false_eq_true,if_false]
theorem Hy {tyf:List Wd→Rs (PV×List Wd)}{g:PV}{r:List Wd}:iJ tyf g (rG::r)=match tyf r with
 | .out=>.out
 | .fail=>.fail
 | .ok (t,r₃)=>.ok (.tup [.str kM,.int 0,g,.bool true,t],r₃):=rfl
theorem xL {tyf:List Wd→Rs (PV×List Wd)}{g:PV}{r:List Wd}(h:r.head?≠some rG):iJ tyf g r=match tyf r with
 | .out=>.out
 | .fail=>.fail
 | .ok (t,r₃)=>.ok (.tup [.str kM,.int 0,g,.bool false,t],r₃):=by
 unfold iJ;rw [show fP r=(false,r) from iB h];try rfl
theorem reg_ne {w:Wd}(h:fA w=true):w≠[62]∧w≠[38]:=by
 constructor<;>rintro rfl<;>simp [fA] at h
theorem tO {tyf:List Wd→Rs (PV×List Wd)}(R:RP C) (ht:∀ {H ws Q E},WSt H a d r ws→Rd H a d r Q E (tyf ws)→aB C (m+2) 7 [.obj a] H Q E)
  {tx:List Nat} {z y:Int} {g:PV} {μ:LE} (h0:μ 0=.obj a) (h1:μ 1=cB aQ tx z .none .none) (h2:μ 2=.int y) (h3:μ 3=g) (hg:g=.none∨∃ w,g=.str w) (W:WSt H a d r ws)
  (q:Rd H a d r (fun t' H'=>Q (if tx=[38] then t' else .tup [.str kM,.int z,.none,.bool false,t']) H') E (iJ tyf g ws)) :
  mSs (aB C (m+2)) C.gv E (aH.drop 4) μ H (iR Q):=by
 have gu:¬g=.undef:=by rcases hg with rfl|⟨w,rfl⟩<;>simp
 have pg:aO g=g:=by rcases hg with rfl|⟨w,rfl⟩<;>rfl
 have fin:∀ {b:Bool} {H₁:MH} {ws₁:List Wd} {K:QV},WSt H₁ a d r ws₁→Ev d r H H₁ →
   Rd H a d r (fun t' H'=>Q (if tx=[38] then t' else .tup [.str kM,.int z,.none,.bool false,t']) H') E (match tyf ws₁ with
    | .out=>.out
    | .fail=>.fail
    | .ok (t,r₃)=>.ok (.tup [.str kM,.int 0,g,.bool b,t],r₃)) →
   (∀ t' H',Q (if tx=[38] then .tup [.str kM,.int y,g,.bool b,t'] else .tup [.str kM,.int z,.none,.bool false,.tup [.str kM,.int y,g,.bool b,t']]) H'→K t' H')→aB C (m+2) 7 [.obj a] H₁ K E:=by
  intro b H₁ ws₁ K W₁ ev q hK
  refine ht W₁ ?_
  cases e:tyf ws₁ with
  | out=>rw [e] at q;exact q
  | fail=>rw [e] at q;exact fun H' ev'=>q H' (ev.trans ev')
  | ok p=>
   replace q:=(e)▸q
   intro H' t' hp h0 hW hev
   exact hK t' H' (q H' (.tup [.str kM,.int y,g,.bool b,t']) (show PV.tup [.str kM,.int 0,aO g,.bool b,aO t']=_ by rw [hp,pg]) ⟨_,rfl⟩ hW (ev.trans hev))
 have last:∀ {b:Bool} {t':PV} {H':MH},Q (if tx=[38] then .tup [.str kM,.int y,g,.bool b,t'] else .tup [.str kM,.int z,.none,.bool false,.tup [.str kM,.int y,g,.bool b,t']]) H' →
   mSs (aB C (m+2)) C.gv E (aH.drop 7) ((μ.set 4 (.bool b)).set 5 (.tup [.str kM,.int y,g,.bool b,t'])) H' (iR Q):=by
  intro b t' H' q'
  simp only [aH,List.drop_succ_cons,List.drop_zero]
  walk_at "mu"
  simp only [h1,nuT]
  refine aE (k:=1) (Nat.le_of_ble_eq_true rfl) rfl ?_
  simp only [cF]
  by_cases c:tx=[38]
  ·refine Eq.symm (decide_eq_true c)▸?_
   rw [if_pos c] at q';exact q'
  ·refine Eq.symm (decide_eq_false c)▸?_
   replace q':=(if_neg c)▸q'
   walk_at "mu"
   simp only [h1,nuT]
   exact aE (k:=2) (Nat.le_of_ble_eq_true rfl) rfl q'
 simp only [aH,List.drop_succ_cons,List.drop_zero]
 walk_at "mu"
 simp only [h0,h1,h2,h3]
 refine W.meth (cW R.w W (rfl) ?_)
 by_cases c:ws.head?=some rG
 ·obtain ⟨r',rfl⟩:∃ r',ws=rG::r':=by
   cases ws with
   | nil=>simp at c
   | cons w r'=>simp at c;exact ⟨r',by rw [c]⟩
  replace q:=(Hy)▸q
  rw [decide_eq_true (show (rG::r').head?=some [109,117,116] from rfl)]
  walk_at "mu"
  simp only [h0,nuO]
  refine W.meth (fF R.w (by decide) W fun H' z' W' ev=>?_)
  walk_at "mu"
  simp only [h0,h2,h3,nuI,nuO]
  refine cI.mpr ⟨gu,fin W' ev q ?_⟩
  exact fun J J=>last
 ·replace q:=(xL c)▸q
  rw [decide_eq_false (show ¬ws.head?=some [109,117,116] from c)]
  walk_at "mu"
  simp only [h0,h2,h3,nuI,nuO]
  refine cI.mpr ⟨gu,fin W .refl q ?_⟩
  exact fun J J=>last
theorem tM {tyf:List Wd→Rs (PV×List Wd)}(R:RP C) (ht:∀ {H ws Q E},WSt H a d r ws→Rd H a d r Q E (tyf ws)→aB C (m+2) 7 [.obj a] H Q E)
  {tx:List Nat} (htx:tx.length≤2) {z:Int} (W:WSt H a d r ws) (q:Rd H a d r (fun t' H'=>Q (if tx=[38] then t' else .tup [.str kM,.int z,.none,.bool false,t']) H') E (refT tyf ws)) :
  mSs (aB C (m+2)) C.gv E aH.tail ((cE [.obj a]).set 1 (cB aQ tx z .none .none)) H (iR Q):=by
 rw [show aH.tail=[aH[1],aH[2],aH[3]]++aH.drop 4 from rfl]
 generalize hR:aH.drop 4=rest
 simp only [aH,List.getElem_cons_succ,List.getElem_cons_zero]
 walk_at "mu"
 refine aE (k:=2) (Nat.le_of_ble_eq_true rfl) rfl (aE (k:=1) (Nat.le_of_ble_eq_true rfl) rfl (len_one (Nat.le_trans htx (Nat.le_add_left _ _)) ?_))
 walk_at "mu"
 refine X62 (W.ex) fun k t z' v w ts P T=>?_
 refine W.meth (jF R.w P (aE (k:=0) (Nat.le_of_ble_eq_true rfl) rfl ?_))
 simp only [cF]
 rw [show decide (k=[114,101,103,105,111,110])=bA ws from Cs T]
 clear T P ts v z' t k htx
 subst hR
 cases hg:bA ws with
 | true=>
  refine hC fun hG=>?_
  obtain ⟨w0,r',rfl⟩:∃ w0 r',ws=w0::r':=by
   cases ws with
   | nil=>cases hg
   | cons w0 r'=>exact I21 w0 r' rfl
  refine hG ?_;clear hG
  rw [Hw hg] at q
  refine W.meth (fF R.w (reg_ne hg) W fun H' z'' W' ev=>tH ?_)
  walk_at "md"
  exact tO R ht rfl rfl (by simp only [aJ];rfl) rfl (.inr ⟨w0,rfl⟩) W' (q.mono ev (fun J J h=>h) fun J h=>h)
 | false=>
  rw [tN hg] at q
  walk_at "md"
  exact tO R ht rfl rfl (by simp only [aJ];rfl) rfl (.inl rfl) W q
end
section
variable {C:Cx}{H H₀:MH}{Q:QV}{E:MH→Prop}{a d r i n m:Nat}{ts:List PV}{ws:List Wd}
noncomputable def zV (C:Cx) (n m:Nat) (a d r:Nat):Prop:=∀ {H ws Q E},WSt H a d r ws→Rd H a d r Q E (ty n ws)→aB C m 7 [.obj a] H Q E
theorem Ad (n:Nat) (r:List Wd):ty (n+4) ([38]::r)=refT (ty (n+2)) r:=rfl
theorem ref_s (R:RP C) (h2:zV C (n+2) (m+2) a d r) (h0:zV C n (m+2) a d r) (W:WSt H a d r ([38]::ws)) (q:Rd H a d r Q E (refT (ty (n+2)) ws)):aB C (m+3) 9 [.obj a] H Q E:=by
 have start:∀ {k t:List Nat} {z:Int} {ts:List PV},PSt H a d r (cB k t z .none .none::ts)→k≠jK→(∀ H',PSt H' a d r ts→Ev d r H H'→mSs (aB C (m+2)) C.gv E aH.tail ((cE [.obj a]).set 1 (cB k t z .none .none)) H' (iR Q))→aB C (m+3) 9 [.obj a] H Q E:=by
  intro k t z ts P hk hq
  apply R.refT rfl
  rw [show aH=aH[0]::aH.tail from rfl]
  generalize hT:aH.tail=rest at hq ⊢
  simp only [aH,List.getElem_cons_zero]
  walk_at "mu"
  refine W.meth (lZ R.w P hk fun H' P' ev=>?_)
  exact hq H' P' ev
 refine X12 W fun ts P T=>?_
 cases T with
 | @one w z ts ws hv T=>
  refine start (k:=bJ [38]) (t:=[38]) P (by decide) fun H' P' ev=>?_
  refine tM R (tyf:=ty (n+2)) (fun W q=>h2 W q) (Nat.le_of_ble_eq_true rfl) (I12 ts P' T) (q.mono ev (fun t H'' h=>?_) fun J h=>h)
  rw [if_pos rfl];exact h
 | @two w z ts ws hv T=>
  refine start (k:=aQ) (t:=[38]++[38]) P (by decide) fun H' P' ev=>?_
  rw [tN (by rfl),xL (by simp)] at q
  refine hC fun hG=>?_
  clear hv P start h2
  rcases n with _|_|n<;>(refine hG ?_;clear hG)
  ·exact q.elim
  ·exact q.elim
  ·rw [show n+1+1+2=n+4 from rfl,Ad] at q
   refine tM R (tyf:=ty (n+2)) (fun W q=>h0 W q) (Nat.le_of_ble_eq_true rfl) (I12 ts P' T) ?_
   cases e:refT (ty (n+2)) ws with
   | out=>rw [e] at q;exact q
   | fail=>rw [e] at q;exact fun H'' ev'=>q H'' (ev.trans ev')
   | ok p=>
    rw [e] at q
    intro H'' t' hp J hW hev
    rw [if_neg (by decide)]
    exact q H'' _ (by rw [←hp];rfl) ⟨_,rfl⟩ hW (ev.trans hev)
theorem voc_int:∀ w∈bO,decide (bJ w=intS)=decide (w=[51]):=by decide +kernel
theorem ty_arr (n:Nat) (r:List Wd):ty (n+4) ([91]::r)=tC (ty n) r:=rfl
theorem array_s (R:RP C) (h0:zV C n (m+3) a d r) (W:WSt H a d r ([91]::ws)) (q:Rd H a d r Q E (tC (ty n) ws)):aB C (m+4) 10 [.obj a] H Q E:=by
 apply R.array rfl
 simp only [eT]
 walk_at "mu"
 refine W.meth (iW (n:=m) R.w (x:=[91]) (rfl) (Nat.le_of_ble_eq_true rfl) W (fun H₁ z r' e W₁ ev₁=>?_) (fun h=>absurd rfl h))
 refine hC fun hG=>?_
 cases e<;>(refine hG ?_;clear hG)
 refine aE (k:=2) (by simp) rfl ?_
 refine h0 W₁ ?_
 unfold tC at q
 cases e:ty n ws with
 | out=>rw [e] at q;exact q
 | fail=>rw [e] at q;exact fun H' ev'=>q H' (ev₁.trans ev')
 | ok p=>
  rw [e] at q
  obtain ⟨t,r₂⟩:=p
  intro H₂ t' hp htp W₂ ev₂
  have tu:¬t'=.undef:=by obtain ⟨xs,rfl⟩:=htp;simp
  have fl:∀ {H'},Ev d r H H'→(∀ r'',r₂≠[59]::[51]::[93]::r'')→E H':=by
   intro H' ev hne
   have q:Rd H a d r Q E (ite (r₂.take 3=[[59],[51],[93]]) _ _):=q
   rw [if_neg fun e=>hne _ (take3 e)] at q
   exact q H' ev
  walk_at "mu"
  refine W₂.meth (iW (n:=m) R.w (x:=[59]) (rfl) (Nat.le_of_ble_eq_true rfl) W₂ (fun H₃ z₃ r₃ e₃ W₃ ev₃=>?_) (fun h=>fl (ev₁.trans ev₂) fun r'' q=>h (q▸rfl)))
  clear z₃ W₂ htp W₁ e W h0
  subst e₃
  have ev₁₃:=(ev₁.trans ev₂).trans ev₃
  refine hC fun hG=>?_
  obtain ⟨ts,P,T⟩:=W₃<;>(refine hG ?_;clear hG)
  have Wm:WSt H₃ a d r r₃:=I12 ts P T
  cases T with
  | fin z=>
   walk_at "mu"
   refine Wm.meth (wV R.w P ?_)
   walk_at "mu"
   refine aE (k:=0) (by simp) rfl ?_
   simp only [nA]
   rw [decide_eq_false (show ¬jK=[105,110,116] by decide)]
   walk_at "mu"
   exact aE (k:=2) (by simp) rfl (fl ev₁₃ (by simp))
  | @two w z ts ws hv T=>
   walk_at "mu"
   refine Wm.meth (lZ R.w P (by decide) fun H₄ P₄ ev₄=>?_)
   walk_at "mu"
   refine aE (k:=0) (by simp) rfl ?_
   simp only [nA]
   rw [decide_eq_false (show ¬aQ=[105,110,116] by decide)]
   walk_at "mu"
   exact aE (k:=2) (by simp) rfl (fl (ev₁₃.trans ev₄) (by rcases hv with rfl|rfl<;>simp))
  | @one w z ts ws hv T=>
   walk_at "mu"
   refine Wm.meth (lZ R.w P (fun h=>by have:=qI w hv;rw [h] at this;simp at this) fun H₄ P₄ ev₄=>?_)
   have W₄:WSt H₄ a d r ws:=I12 ts P₄ T
   have ev₁₄:=ev₁₃.trans ev₄
   walk_at "mu"
   refine aE (k:=0) (by simp) rfl ?_
   simp only [nA]
   rw [show decide (bJ w=[105,110,116])=decide (w=[51]) from voc_int w hv]
   by_cases c:w=[51]
   ·clear ev₄ P₄ hv Wm T P ts ev₁₃
    subst c
    rw [decide_eq_true rfl]
    walk_at "mu"
    refine aE (k:=4) (by simp) rfl ?_
    refine W₄.meth (iW (n:=m) R.w (x:=[93]) (rfl) (Nat.le_of_ble_eq_true rfl) W₄ (fun H₅ z₅ r₅ e₅ W₅ ev₅=>?_) (fun h=>fl ev₁₄ fun r'' q=>h (by cases q;rfl)))
    clear z₅ W₄ ev₃ H₃ ev₂ H₂ ev₁ H₁
    subst e₅
    walk_at "mu"
    refine (cI.mpr ⟨tu,aE (k:=3) (by simp) rfl ?_⟩)
    exact q H₅ _ (by rw [←hp];rfl) ⟨_,rfl⟩ W₅ (ev₁₄.trans ev₅)
   ·rw [decide_eq_false c]
    walk_at "mu"
    exact aE (k:=2) (by simp) rfl (fl ev₁₄ (fun r'' q=>c (by cases q;rfl)))
end
section
variable {C:Cx}{H H₀:MH}{Q:QV}{E:MH→Prop}{a d r i n m f:Nat}{ts:List PV}{ws:List Wd}
noncomputable def Ax:ME:=.not (.wmeth 3 (.var 0) [.str [41]])
noncomputable def Ay:List MS:=[.expr (.meth .append (.var 2) [.call 7 [.var 0]]),.asg 3 (.wmeth 3 (.var 0) [.str [44]]),.ifs (.not (.var 3)) [.brk] [],.expr (.wmeth 2 (.var 0) [])]
theorem xU:eR=[.asg 1 (.idx (.wmeth 4 (.var 0) [.str [40]]) (.int 2)),.swap [2,3] [.list [],.bool true],.whl Ax Ay,.expr (.wmeth 4 (.var 0) [.str [41]]),
 .ifs (.and [.cmp .eq (.bi .len [.var 2]) (.int 1),.not (.var 3)]) [.ret (.idx (.var 2) (.int 0))] [],.ret (.tuple [.str kL,.var 1,.bi .tuple [.var 2]])]:=rfl
theorem fO:∀ xs ys:List PV,aD (xs++ys)=aD xs++aD ys:=by
 intro x0
 induction x0 with
 | nil=>intro J;exact rfl
 | cons x r ih=>intro ys;simp [aD,ih ys]
theorem bF {xs:List PV}{v:PV}{f:Nat}(hf:H f=some (.list xs)) (hl:xs.length<16000000) (q:Q .none (H.set f (.list (xs++[v])))):jW .append (.lst f) [v] H Q:=by
 exact app_q hf ⟨hl,q⟩
theorem aS {xs:List PV}{f:Nat}(hf:H f=some (.list xs)):fQ .append (.lst f) H:=by
 exact pre_a hf
theorem Aw {tyf:List Wd→Rs (PV×List Wd)}{M:Nat}(R:RP C) (ht:∀ {H ws Q E},WSt H a d r ws→Rd H a d r Q E (tyf ws)→aB C (M+2) 7 [.obj a] H Q E)
  (hlen:∀ ws x ws',tyf ws=.ok (x,ws')→ws'.length<ws.length) (hf0:H₀ f=none)
  {wc:LE→MH→(Bool→MH→Prop)→Prop} {wb:LE→MH→QS→Prop} (hwc:∀ m H Q,wc m H Q=mT (aB C (M+2)) C.gv E Ax m H Q) (hwb:∀ m H Q,wb m H Q=mSs (aB C (M+2)) C.gv E Ay m H Q) :
  ∀ (k:Nat) {ws:List Wd} {xs':List PV} {μ:LE} {H:MH} {Q:QS},ws.length<k→μ 0=.obj a→μ 2=.lst f→μ 3=.bool true→H f=some (.list xs')→(∀ y∈xs',∃ l,y=.tup l)→f≠a→f≠d→f≠r→WSt H a d r ws→Ev d r H₀ H→xs'.length+k≤15000000 →
   (iK tyf k ws (aD xs')=.out→False)→(iK tyf k ws (aD xs')=.fail→∀ H',Ev d r H₀ H'→E H') →
   (∀ μ' H' ys c ws'',μ' 0=.obj a→μ' 1=μ 1→μ' 2=.lst f→μ' 3=.bool c→H' f=some (.list ys)→(∀ y∈ys,∃ l,y=.tup l)→WSt H' a d r ws''→Ev d r H₀ H'→ys.length≤15000000 →
    (∀ r',ws''=[41]::r'→iK tyf k ws (aD xs')=.ok (aD ys,c,r'))→(ws''.head?≠some [41]→iK tyf k ws (aD xs')=.fail)→Q .next μ' H') →
   aY wc wb k μ H Q:=by
 intro x0
 induction x0 with
 | zero=>intro ws xs' μ H Q hk J J J J J J J J J J J J J J;exact absurd hk (Nat.not_lt_zero _)
 | succ k ih=>
  intro ws xs' μ H Q hk h0 h2 h3 hf htp fa fd fr W ev hsz ho hE hQ
  generalize hx:iK tyf (k+1) ws (aD xs')=x at ho hE hQ
  rw [bR]
  rw [hwc]
  simp only [Ax]
  walk_at "mu"
  simp only [h0]
  refine W.meth (cW R.w W (rfl) ?_)
  walk_at "mu"
  by_cases c:ws.head?=some [41]
  ·rw [decide_eq_true c]
   refine hQ μ H xs' true ws h0 rfl h2 h3 hf htp W ev (Nat.le_trans (Nat.le_add_right _ _) hsz) (fun r' e=>?_) (fun h=>absurd c h)
   subst e
   exact hx.symm.trans (if_pos c)
  ·rw [decide_eq_false c]
   rw [hwb]
   simp only [Ay]
   walk_at "mu"
   replace hx:=(if_neg c).symm.trans hx
   simp only [h0,h2]
   refine ⟨aS hf,ht W ?_⟩
   cases e:tyf ws with
   | out=>rw [e] at hx;exact (ho hx.symm).elim
   | fail=>rw [e] at hx;exact fun H' ev'=>hE hx.symm H' (ev.trans ev')
   | ok p=>
    obtain ⟨x',ws'⟩:=p
    replace hx:=(e)▸hx
    have hl:=hlen _ _ _ e
    intro H₁ t' hp htt W₁ ev₁
    have ev₀:=ev.trans ev₁
    have hf₁:H₁ f=some (.list xs'):=ev₁.at hf fd fr
    refine bF hf₁ (ar83 hsz) ?_
    have W₂:WSt (H₁.set f (.list (xs'++[t']))) a d r ws':=W₁.set fa fd fr
    have ev₂:Ev d r H₀ (H₁.set f (.list (xs'++[t']))):=ev₀.new hf0
    have hf₂:(H₁.set f (.list (xs'++[t']))) f=some (.list (xs'++[t'])):=by unfold MH.set;rw [if_pos rfl]
    have hpl:aD xs'++[x']=aD (xs'++[t']):=by rw [fO];simp [aD,hp]
    have htp₂:∀ y∈xs'++[t'],∃ l,y=.tup l:=fun y hy=>by
     rcases List.mem_append.mp hy with hy|hy
     ·exact htp y hy
     ·rw [List.mem_singleton.mp hy];exact htt
    dsimp only at hx
    replace hx:=(hpl)▸hx
    walk_at "mu"
    simp only [h0,nuO]
    refine W₂.meth (cW R.w W₂ (rfl) ?_)
    by_cases c2:ws'.head?=some [44]
    ·replace hx:=(if_pos c2)▸hx
     rw [decide_eq_true c2]
     walk_at "mu"
     clear hpl hf₁ ev₀ ev₁ W₁ htt hp ev
     subst hx
     obtain ⟨r',rfl⟩:∃ r',ws'=[44]::r':=by
      cases ws' with
      | nil=>simp at c2
      | cons w r'=>simp at c2;exact ⟨r',by rw [c2]⟩
     simp only [h0,nuO]
     refine W₂.meth (fF R.w (by decide) W₂ fun H₃ z W₃ ev₃=>?_)
     have hf₃:H₃ f=some (.list (xs'++[t'])):=ev₃.at hf₂ fd fr
     refine ih (xs':=xs'++[t']) (ws:=r') (Nat.lt_of_succ_lt_succ (Nat.lt_trans hl hk)) h0 h2 rfl hf₃ htp₂ fa fd fr W₃ (ev₂.trans ev₃) (by simp;exact ar85 hsz) ho hE ?_
     intro μ' H' ys c ws'' k0 k1 k2 k3
     exact hQ μ' H' ys c ws'' k0 k1 k2 k3
    ·replace hx:=(if_neg c2)▸hx
     rw [decide_eq_false c2]
     refine hQ _ _ (xs'++[t']) false ws' h0 rfl h2 rfl hf₂ htp₂ W₂ ev₂ (by simp;exact Nat.le_trans (Nat.le_add_right _ _) (Nat.le_of_succ_le_succ hsz)) (fun r' e=>?_) (fun h=>?_)
     ·clear c2 htp₂ hpl hf₂ ev₂ W₂ hf₁ ev₀
      clear ev₁ W₁ htt hp H₁ hl hQ hE
      subst e;exact hx.symm
     ·rw [if_neg h] at hx;exact hx.symm
theorem jT.size {ts:List PV}{ws:List Wd}(T:jT ts ws):ws.length≤2*ts.length:=by
 induction T with
 | fin z=>simp
 | one h T ih=>simp;exact ar87 ih
 | two h T ih=>simp;exact ar88 ih
theorem WSt.size (W:WSt H a d r ws):ws.length≤2000000:=by
 refine X12 W ?_
 rintro ts ⟨toks,i,P,e⟩ T
 have h1:=T.size
 have h2:ts.length≤toks.length:=by rw [←e];simp
 have h3:=P.len
 exact ar89 h1 h2 h3
theorem ty_par (n:Nat) (r:List Wd):ty (n+4) ([40]::r)=vE (ty n) r:=rfl
theorem dK:∀ xs:List PV,(aD xs).length=xs.length:=by
 intro x0
 induction x0 with
 | nil=>exact rfl
 | cons _ r ih=>simp [aD,ih]
theorem hV {xs:List PV}(h:∀ y∈xs,∃ l,y=.tup l):aO (.tup xs)=.tup (aD xs):=by
 cases xs with
 | nil=>rfl
 | cons y r=>
  obtain ⟨l,rfl⟩:=h y (.head _)
  have hz:∃ l',aO (.tup l)=.tup l':=zs_el (P:=fun z=>∃ l',z=.tup l') (aD l) (fun k i r J=>⟨_,rfl⟩) ⟨_,rfl⟩
  obtain ⟨l',hz⟩:=hz
  show cR (.tup (aO (.tup l)::aD r))=.tup (aO (.tup l)::aD r)
  rw [hz];rfl
theorem paren_s {tyf:List Wd→Rs (PV×List Wd)}{M:Nat}(R:RP C) (ht:∀ {H ws Q E},WSt H a d r ws→Rd H a d r Q E (tyf ws)→aB C (M+3) 7 [.obj a] H Q E)
  (hlen:∀ ws x ws',tyf ws=.ok (x,ws')→ws'.length<ws.length) (W:WSt H a d r ([40]::ws)) (q:Rd H a d r Q E (vE tyf ws)):aB C (M+4) 8 [.obj a] H Q E:=by
 apply R.paren rfl
 refine Eq.symm (xU)▸?_
 walk_at "mu"
 refine W.meth (iW (n:=M) R.w (x:=[40]) (rfl) (Nat.le_of_ble_eq_true rfl) W (fun H₁ z r' e W₁ ev₁=>?_) (fun h=>absurd rfl h))
 refine hC fun hG=>?_
 cases e<;>(refine hG ?_;clear hG)
 refine aE (k:=2) (Nat.le_of_ble_eq_true rfl) rfl ?_
 intro f hf
 refine X03 (W₁.new hf) fun fa fd fr=>?_
 have hf0:H f=none:=ev₁.none hf fd fr
 have W₂:=W₁.set (o:=.list []) fa fd fr
 have ev₂:=ev₁.new (o:=.list []) hf0
 have sz:=W₁.size
 unfold vE at q
 refine ⟨ws.length+1,Aw R (M:=M+1) ht hlen hf0 (fun J J J=>rfl) (fun J J J=>rfl) (ws.length+1) (xs':=[]) (Nat.lt_succ_self _) rfl rfl rfl (if_pos rfl) (by simp) fa fd fr W₂ ev₂ (by simp;exact Nat.le_trans sz (Nat.le_add_left _ _)) (fun e=>?_) (fun e=>?_) ?_⟩
 ·have e:iK tyf (ws.length+1) ws []=.out:=e
  rw [e] at q;exact q
 ·have e:iK tyf (ws.length+1) ws []=.fail:=e
  rw [e] at q;exact q
 ·intro μ' H' ys c ws'' k0 k1 k2 k3 hf' htp W' ev' hl h1 h2
  have k1:μ' 1=.int z:=k1
  walk_at "mu"
  simp only [k0,nuO]
  refine W'.meth (iW (n:=M) R.w (x:=[41]) (rfl) (Nat.le_of_ble_eq_true rfl) W' (fun H₃ z₃ r₃ e₃ W₃ ev₃=>?_) (fun h=>?_))
  ·have e:iK tyf (ws.length+1) ws []=.ok (aD ys,c,r₃):=h1 r₃ e₃
   replace q:=(e)▸q
   have ev₄:=ev'.trans ev₃
   have hf₃:H₃ f=some (.list ys):=ev₃.at hf' fd fr
   walk_at "mu"
   simp only [k2,nuL,cV hf₃]
   refine ⟨iZ hl,?_⟩
   walk_at "mu"
   have tup:Q (.tup [.str kL,.int z,.tup ys]) H₃∨((aD ys).length=1∧c=false):=by
    by_cases cc:(aD ys).length=1∧c=false
    ·exact .inr cc
    ·left
     have q:=q H₃ (.tup [.str kL,.int z,.tup ys])
     rw [if_neg cc] at q
     exact q (by rw [show aO (.tup [.str kL,.int z,.tup ys])=.tup [.str kL,.int 0,aO (.tup ys)] from rfl,hV htp]) ⟨_,rfl⟩ W₃ ev₄
   by_cases c1:(ys.length:Int)=1
   ·refine Eq.symm (decide_eq_true c1)▸?_
    walk_at "mu"
    have c1':ys.length=1:=by exact ar92 c1
    simp only [k3,aF]
    clear ev₃ e₃ z₃ h1 W' hf' k3 k0
    cases c with
    | false=>
     walk_at "mu"
     obtain ⟨y,rfl⟩:∃ y,ys=[y]:=by
      exact List.length_eq_one_iff.mp c1'
     simp only [k2,nuL]
     refine bX (j:=0) hf₃ (Nat.le_of_ble_eq_true rfl) rfl rfl ?_
     have q:=q H₃ y
     rw [if_pos ⟨rfl,rfl⟩] at q
     exact q rfl (htp y (.head _)) W₃ ev₄
    | true=>
     walk_at "mu"
     simp only [k1,k2,nuI,nuL,cJ hf₃]
     exact ⟨(c1'▸Nat.le_add_left _ _),tup.resolve_right (fun h=>by cases h.2)⟩
   ·refine Eq.symm (decide_eq_false c1)▸?_
    walk_at "mu"
    simp only [k1,k2,nuI,nuL,cJ hf₃]
    exact ⟨iZ hl,tup.resolve_right (fun h=>by rw [dK] at h;exact ar468 c1 h.1)⟩
  ·have e:iK tyf (ws.length+1) ws []=.fail:=h2 h
   rw [e] at q
   exact q H' ev'
end
section
variable {C:Cx}{H H₀:MH}{Q:QV}{E:MH→Prop}{a d r i n m f:Nat}{ts:List PV}{ws:List Wd}
noncomputable def msgW:List Nat:=[114,101,103,105,111,110,115,32,115,116,97,110,100,32,97,104,101,97,100,32,111,102,32,116,121,112,101,115]
noncomputable def argC:ME:=.not (.call 15 [.var 0])
noncomputable def argT:List MS:=[.ifs (.not (.wmeth 3 (.var 0) [.str [44]])) [.brk] [],.expr (.wmeth 2 (.var 0) [])]
noncomputable def argI (g:Nat):MS:=.ifs (.cmp .eq (.idx (.wmeth 1 (.var 0) []) (.int 0)) (.str [114,101,103,105,111,110])) [.ifs (.cmp .ne (.var 2) (.list [])) [.raise [.str msgW,.idx (.wmeth 1 (.var 0) []) (.int 2)]] [],
  .expr (.meth .append (.var 1) [.idx (.wmeth 2 (.var 0) []) (.int 1)])] [.expr (.meth .append (.var 2) [.call g [.var 0]])]
noncomputable def argB (g:Nat):List MS:=argI g::argT
theorem Ck:fJ=[.expr (.wmeth 4 (.var 0) [.str [60]]),.swap [1,2] [.list [],.list []],.whl argC (argB 7),.expr (.wmeth 6 (.var 0) []),.ret (.tuple [.bi .tuple [.var 1],.bi .tuple [.var 2]])]:=rfl
theorem Ca:gA=[.ifs (.not (.wmeth 3 (.var 0) [.str [60]])) [.ret (.tuple [.tuple [],.tuple []])] [],.expr (.wmeth 2 (.var 0) []),.swap [1,2] [.list [],.list []],.whl argC (argB 17),.expr (.wmeth 6 (.var 0) []),.ret (.tuple [.bi .tuple [.var 1],.bi .tuple [.var 2]])]:=rfl
noncomputable def pY (elem:List Wd→Rs (PV×List Wd)) (k:Nat) (ws:List Wd) (rs ts:List PV):Rs (PV×PV×List Wd):=
 if ws.head?=some [44] then eW elem k ws.tail rs ts else if ws.head?=some [62] then .ok (.tup rs,.tup ts,ws.tail) else .fail
theorem gM (elem:List Wd→Rs (PV×List Wd)) (k:Nat) (ws:List Wd) (rs ts:List PV):eW elem (k+1) ws rs ts =
  if ws.head?=some [62] then .ok (.tup rs,.tup ts,ws.tail)
  else if bA ws then (if ts=[] then pY elem k ws.tail (rs++[.str (ws.headD [])]) ts else .fail)
  else match elem ws with
   | .out=>.out
   | .fail=>.fail
   | .ok (x,ws')=>pY elem k ws' rs (ts++[x]):=rfl
structure AS (H₀ H:MH) (a d r f1 f2:Nat) (μ:LE) (ws:List Wd) (rs ts':List PV):Prop where
 m0:μ 0=.obj a
 m1:μ 1=.lst f1
 m2:μ 2=.lst f2
 h1:H f1=some (.list rs)
 h2:H f2=some (.list ts')
 tp:∀ y∈ts',∃ l,y=.tup l
 sp:∀ y∈rs,∃ l,y=.str l
 n1:f1≠a∧f1≠d∧f1≠r
 n2:f2≠a∧f2≠d∧f2≠r
 n12:f1≠f2
 o1:H₀ f1=none
 o2:H₀ f2=none
 W:WSt H a d r ws
 ev:Ev d r H₀ H
theorem AS.move {f1 f2:Nat}{μ:LE}{rs ts':List PV}{H':MH}{ws':List Wd}(A:AS H₀ H a d r f1 f2 μ ws rs ts') (W:WSt H' a d r ws') (ev:Ev d r H H'):AS H₀ H' a d r f1 f2 μ ws' rs ts':=
 ⟨A.m0,A.m1,A.m2,ev.at A.h1 A.n1.2.1 A.n1.2.2,ev.at A.h2 A.n2.2.1 A.n2.2.2,A.tp,A.sp,A.n1,A.n2,A.n12,A.o1,A.o2,W,A.ev.trans ev⟩
theorem AS.put1 {f1 f2:Nat}{μ:LE}{rs ts' rs':List PV}(A:AS H₀ H a d r f1 f2 μ ws rs ts') (hs:∀ y∈rs',∃ l,y=.str l):AS H₀ (H.set f1 (.list rs')) a d r f1 f2 μ ws rs' ts':=
 ⟨A.m0,A.m1,A.m2,by unfold MH.set;rw [if_pos rfl],by unfold MH.set;rw [if_neg (Ne.symm A.n12)];exact A.h2,A.tp,hs,A.n1,A.n2,A.n12,A.o1,A.o2,A.W.set A.n1.1 A.n1.2.1 A.n1.2.2,A.ev.new A.o1⟩
theorem AS.put2 {f1 f2:Nat}{μ:LE}{rs ts':List PV}{x:PV}(A:AS H₀ H a d r f1 f2 μ ws rs ts') (hx:∃ l,x=.tup l):AS H₀ (H.set f2 (.list (ts'++[x]))) a d r f1 f2 μ ws rs (ts'++[x]):=
 ⟨A.m0,A.m1,A.m2,by unfold MH.set;rw [if_neg A.n12];exact A.h1,by unfold MH.set;rw [if_pos rfl],fun y hy=>by
  rcases List.mem_append.mp hy with hy|hy
  ·exact A.tp y hy
  ·rw [List.mem_singleton.mp hy];exact hx,A.sp,A.n1,A.n2,A.n12,A.o1,A.o2,A.W.set A.n2.1 A.n2.2.1 A.n2.2.2,A.ev.new A.o2⟩
theorem Id {f:Nat}{xs:List PV}{P:Bool→MH→Prop}(hf:H f=some (.list xs)) (q:∀ b,b≠f→H b=none→P (!decide (xs=[])) (H.set b (.list []))) :
  gF [] H (fun v H₂=>cL H₂ .ne (.lst f) v fun r=>P r H₂):=by
 intro b hb
 have hne:b≠f:=fun e=>by rw [e,hf] at hb;cases hb
 have hf':(H.set b (.list [])) f=some (.list xs):=by unfold MH.set;rw [if_neg (Ne.symm hne)];exact hf
 have hb':(H.set b (.list [])) b=some (.list []):=by unfold MH.set;rw [if_pos rfl]
 have q:=q b hne hb
 rw [vG hf' hb']
 by_cases c:xs=[]
 ·clear hb' hf' hne hb hf
  subst c
  refine .inr (.inl ⟨fun x h=>by simp at h,fun x h=>by simp at h,?_⟩)
  simpa using q
 ·refine .inl ⟨by simpa using c,?_⟩
  simpa [c] using q
theorem Gu {elem:List Wd→Rs (PV×List Wd)}{M g f1 f2:Nat}(R:RP C) (hg:∀ {H ws Q E},WSt H a d r ws→Rd H a d r Q E (elem ws)→aB C (M+3) g [.obj a] H Q E)
  (hlen:∀ ws x ws',elem ws=.ok (x,ws')→ws'.length<ws.length)
  {wc:LE→MH→(Bool→MH→Prop)→Prop} {wb:LE→MH→QS→Prop} (hwc:∀ m H Q,wc m H Q=mT (aB C (M+3)) C.gv E argC m H Q) (hwb:∀ m H Q,wb m H Q=mSs (aB C (M+3)) C.gv E (argB g) m H Q) :
  ∀ (k:Nat) {ws:List Wd} {rs ts':List PV} {μ:LE} {H:MH} {Q:QS},ws.length<k→AS H₀ H a d r f1 f2 μ ws rs ts'→rs.length+ts'.length+k≤15000000 →
   (eW elem k ws rs (aD ts')=.out→False)→(eW elem k ws rs (aD ts')=.fail→∀ H',Ev d r H₀ H'→E H') →
   (∀ H' rs2 ts2 ws'',AS H₀ H' a d r f1 f2 μ ws'' rs2 ts2→rs2.length+ts2.length≤15000000→(∀ r',ws''=[62]::r'→eW elem k ws rs (aD ts')=.ok (.tup rs2,.tup (aD ts2),r'))→(ws''.head?≠some [62]→eW elem k ws rs (aD ts')=.fail)→Q .next μ H') →
   aY wc wb k μ H Q:=by
 intro x0
 induction x0 with
 | zero=>intro ws rs ts' μ H Q hk J J J J J;exact absurd hk (Nat.not_lt_zero _)
 | succ k ih=>
  intro ws rs ts' μ H Q hk A hsz ho hE hQ
  generalize hx:eW elem (k+1) ws rs (aD ts')=x at ho hE hQ
  have aft:∀ {ws':List Wd} {rs2 ts2:List PV} {H₂:MH},AS H₀ H₂ a d r f1 f2 μ ws' rs2 ts2→rs2.length+ts2.length+k≤15000000→ws'.length≤k→x=pY elem k ws' rs2 (aD ts2) →
    mSs (aB C (M+3)) C.gv E argT μ H₂ (eN (aY wc wb k) Q):=by
   intro ws' rs2 ts2 H₂ A₂ hs2 hl2 he
   simp only [argT]
   walk_at "mu"
   try (simp only [A.m0,A.m1,A.m2,nuO,nuL,nuI,nuS,nuT,nuB,nuN,nuF,aF,aG];walk_at "mu")
   refine A₂.W.meth (cW R.w A₂.W (rfl) ?_)
   walk_at "mu"
   unfold pY at he
   by_cases c:ws'.head?=some [44]
   ·replace he:=(if_pos c)▸he
    refine Eq.symm (decide_eq_true c)▸?_
    walk_at "mu"
    try (simp only [A.m0,A.m1,A.m2,nuO,nuL,nuI,nuS,nuT,nuB,nuN,nuF,aF,aG];walk_at "mu")
    clear hx
    subst he
    refine hC fun hG=>?_
    obtain ⟨r',rfl⟩:∃ r',ws'=[44]::r':=by
     cases ws' with
     | nil=>simp at c
     | cons w r'=>simp at c;exact ⟨r',by rw [c]⟩
    refine hG ?_;clear hG
    refine A₂.W.meth (fF R.w (by decide) A₂.W fun H₃ z W₃ ev₃=>?_)
    exact ih (ws:=r') (by simp at hl2;assumption) (A₂.move W₃ ev₃) hs2 ho hE hQ
   ·replace he:=(if_neg c)▸he
    refine Eq.symm (decide_eq_false c)▸?_
    refine hQ H₂ rs2 ts2 ws' A₂ (Nat.le_trans (Nat.le_add_right _ _) hs2) (fun r' e=>?_) (fun h=>he.trans (if_neg h))
    subst e;exact he.trans (if_pos rfl)
  rw [bR]
  rw [hwc]
  simp only [argC]
  walk_at "mu"
  try (simp only [A.m0,A.m1,A.m2,nuO,nuL,nuI,nuS,nuT,nuB,nuN,nuF,aF,aG];walk_at "mu")
  refine Jg R A.W ?_
  walk_at "mu"
  by_cases c:ws.head?=some [62]
  ·rw [decide_eq_true c]
   refine hQ H rs ts' ws A (Nat.le_trans (Nat.le_add_right _ _) hsz) (fun r' e=>?_) (fun h=>absurd c h)
   exact hx.symm.trans (by rw [gM,if_pos c,e];rfl)
  ·rw [decide_eq_false c]
   rw [gM,if_neg c] at hx
   rw [hwb]
   simp only [argB,argI]
   walk_at "mu"
   try (simp only [A.m0,A.m1,A.m2,nuO,nuL,nuI,nuS,nuT,nuB,nuN,nuF,aF,aG];walk_at "mu")
   refine X62 (A.W.ex) fun k' t z' v w ts P T=>?_
   refine A.W.meth (jF R.w P (aE (k:=0) (Nat.le_of_ble_eq_true rfl) rfl ?_))
   simp only [cF]
   rw [show decide (k'=[114,101,103,105,111,110])=bA ws from Cs T]
   clear T P ts v z' t k' c
   cases hr:bA ws with
   | true=>
    rw [if_pos hr] at hx
    walk_at "mu"
    try (simp only [A.m0,A.m1,A.m2,nuO,nuL,nuI,nuS,nuT,nuB,nuN,nuF,aF,aG];walk_at "mu")
    refine Id A.h2 fun b hbf hb=>?_
    have nb:=A.W.new hb
    have A₁:AS H₀ (H.set b (.list [])) a d r f1 f2 μ ws rs ts':=A.move (A.W.set nb.1 nb.2.1 nb.2.2) (.set (.inr (.inr hb)))
    by_cases c2:ts'=[]
    ·subst c2
     rw [decide_eq_true rfl]
     walk_at "mu"
     try (simp only [A.m0,A.m1,A.m2,nuO,nuL,nuI,nuS,nuT,nuB,nuN,nuF,aF,aG];walk_at "mu")
     refine hC fun hG=>?_
     obtain ⟨w0,r',rfl⟩:∃ w0 r',ws=w0::r':=by
      cases ws with
      | nil=>cases hr
      | cons w0 r'=>exact I21 w0 r' rfl
     refine hG ?_;clear hG
     refine ⟨aS A₁.h1,A₁.W.meth (fF R.w (reg_ne hr) A₁.W fun H₂ z W₂ ev₂=>tH ?_)⟩
     have A₂:=A₁.move W₂ ev₂
     refine bF A₂.h1 (ar83 hsz) ?_
     refine aft (A₂.put1 (fun y hy=>?_)) (by simp at hsz ⊢;exact ar85 hsz) (by simp at hk;exact Nat.le_of_lt hk) hx.symm
     rcases List.mem_append.mp hy with hy|hy
     ·exact A₂.sp y hy
     ·rw [List.mem_singleton.mp hy];exact ⟨_,rfl⟩
    ·have c3:¬aD ts'=[]:=fun e=>c2 (by have:=dK ts';rw [e] at this;exact List.length_eq_zero_iff.mp this.symm)
     replace hx:=(if_neg c3)▸hx
     refine Eq.symm (decide_eq_false c2)▸?_
     walk_at "mu"
     try (simp only [A.m0,A.m1,A.m2,nuO,nuL,nuI,nuS,nuT,nuB,nuN,nuF,aF,aG];walk_at "mu")
     refine X62 (A₁.W.ex) fun k2 t2 z2 v2 w2 ts2 P2 T2=>?_
     exact A₁.W.meth (jF R.w P2 (aE (k:=2) (Nat.le_of_ble_eq_true rfl) rfl (hE hx.symm _ A₁.ev)))
   | false=>
    rw [if_neg (by rw [hr];exact Bool.false_ne_true)] at hx
    walk_at "mu"
    try (simp only [A.m0,A.m1,A.m2,nuO,nuL,nuI,nuS,nuT,nuB,nuN,nuF,aF,aG];walk_at "mu")
    refine ⟨aS A.h2,hg A.W ?_⟩
    cases e:elem ws with
    | out=>rw [e] at hx;exact (ho hx.symm).elim
    | fail=>rw [e] at hx;exact fun H' ev'=>hE hx.symm H' (A.ev.trans ev')
    | ok p=>
     obtain ⟨y,ws'⟩:=p
     replace hx:=(e)▸hx
     have hl:=hlen _ _ _ e
     intro H₁ t' hp htt W₁ ev₁
     have A₁:=A.move W₁ ev₁
     refine bF A₁.h2 (ar97 hsz) ?_
     refine aft (A₁.put2 htt) (by simp;exact ar98 hsz) (ar99 hk hl) ?_
     refine hx.symm.trans ?_
     rw [fO];simp [aD,hp]
end
section
variable {C:Cx}{H H₀:MH}{Q:QV}{E:MH→Prop}{a d r i n m f:Nat}{ts:List PV}{ws:List Wd}
noncomputable def RdA (H:MH) (a d r:Nat) (Q:QV) (E:MH→Prop):Rs (PV×PV×List Wd)→Prop
 | .out=>False
 | .fail=>∀ H',Ev d r H H'→E H'
 | .ok (x,y,ws)=>∀ H' y',aO x=x→(∃ l,x=.tup l)→aO y'=y→(∃ l,y'=.tup l)→WSt H' a d r ws→Ev d r H H'→Q (.tup [x,y']) H'
theorem xP:∀ {xs:List PV},(∀ y∈xs,∃ l,y=.str l)→aD xs=xs:=by
 intro x0
 induction x0 with
 | nil=>
  intro J
  exact rfl
 | cons x r ih=>
  intro h
  obtain ⟨l,rfl⟩:=h x (.head _)
  rw [aD,ih fun y hy=>h y (.tail _ hy)];rfl
theorem xQ {xs:List PV}(h:∀ y∈xs,∃ l,y=.str l):aO (.tup xs)=.tup xs:=by
 show cR (.tup (aD xs))=_
 refine Eq.symm (xP h)▸?_
 match xs,h with
 | [],_=>rfl
 | [x],h=>obtain ⟨l,rfl⟩:=h x (.head _);rfl
 | x::y::r,h=>
  obtain ⟨l,rfl⟩:=h x (.head _)
  obtain ⟨l',rfl⟩:=h y (.tail _ (.head _));rfl
theorem angles {elem:List Wd→Rs (PV×List Wd)}{M g:Nat}{y₀:LE}(R:RP C) (hg:∀ {H ws Q E},WSt H a d r ws→Rd H a d r Q E (elem ws)→aB C (M+3) g [.obj a] H Q E)
  (hlen:∀ ws x ws',elem ws=.ok (x,ws')→ws'.length<ws.length) (h0:y₀ 0=.obj a) (W:WSt H a d r ws) (q:RdA H a d r Q E (eW elem (ws.length+1) ws [] [])) :
  mSs (aB C (M+3)) C.gv E [.swap [1,2] [.list [],.list []],.whl argC (argB g),.expr (.wmeth 6 (.var 0) []),.ret (.tuple [.bi .tuple [.var 1],.bi .tuple [.var 2]])] y₀ H (iR Q):=by
 walk_at "mu"
 intro f1 hf1 f2 hf2
 refine X03 (W.new hf1) fun fa fd fr=>?_
 have W₁:=W.set (o:=.list []) fa fd fr
 refine X03 (W₁.new hf2) fun ga gd gr=>?_
 have hne:f1≠f2:=fun e=>by rw [←e] at hf2;unfold MH.set at hf2;rw [if_pos rfl] at hf2;cases hf2
 have hf20:H f2=none:=by unfold MH.set at hf2;rw [if_neg (Ne.symm hne)] at hf2;exact hf2
 have W₂:=W₁.set (o:=.list []) ga gd gr
 have ev₂:Ev d r H ((H.set f1 (.list [])).set f2 (.list [])):=(Ev.refl.new hf1).new hf20
 have sz:=W.size
 refine ⟨ws.length+1,Gu (f1:=f1) (f2:=f2) (ts':=[]) R hg hlen (fun J J J=>rfl) (fun J J J=>rfl) (ws.length+1) (Nat.lt_succ_self _)
  ⟨by simp [aJ,h0],by simp [aJ],by simp [aJ],by unfold MH.set;rw [if_neg hne,if_pos rfl],by unfold MH.set;rw [if_pos rfl],fun y hy=>by simp at hy,fun y hy=>by simp at hy,(I03 fa fd fr),(I03 ga gd gr),hne,hf1,hf20,W₂,ev₂⟩
  (by simp;exact Nat.le_trans sz (Nat.le_add_left _ _)) (fun e=>?_) (fun e=>?_) ?_⟩
 ·have e:eW elem (ws.length+1) ws [] []=.out:=e
  rw [e] at q;exact q
 ·have e:eW elem (ws.length+1) ws [] []=.fail:=e
  rw [e] at q;exact q
 ·intro H' rs2 ts2 ws'' A hl k1 k2
  walk_at "mu"
  try (simp only [h0,nuO,nuL,nuI,nuS,nuT,nuB,nuN,nuF,aF,aG];walk_at "mu")
  refine A.W.meth (split_w (n:=M) R.w A.W (fun H₃ r₃ z e W₃ ev₃=>?_) (fun h=>?_))
  ·have e:eW elem (ws.length+1) ws [] []=.ok (.tup rs2,.tup (aD ts2),r₃):=k1 r₃ e
   rw [e] at q
   have A₃:=A.move W₃ ev₃
   walk_at "mu"
   simp only [cJ A₃.h1,cJ A₃.h2]
   refine I03 (Nat.le_trans (Nat.le_add_right _ _) (Nat.le_trans hl (Nat.le_of_ble_eq_true rfl))) (Nat.le_trans (Nat.le_add_left _ _) (Nat.le_trans hl (Nat.le_of_ble_eq_true rfl))) (?_)
   exact q H₃ (.tup ts2) (xQ A₃.sp) ⟨_,rfl⟩ (hV A₃.tp) ⟨_,rfl⟩ W₃ A₃.ev
  ·have e:eW elem (ws.length+1) ws [] []=.fail:=k2 h
   rw [e] at q
   exact q H' A.ev
theorem args_s {tyf:List Wd→Rs (PV×List Wd)}{M:Nat}(R:RP C) (ht:∀ {H ws Q E},WSt H a d r ws→Rd H a d r Q E (tyf ws)→aB C (M+3) 7 [.obj a] H Q E)
  (hlen:∀ ws x ws',tyf ws=.ok (x,ws')→ws'.length<ws.length) (W:WSt H a d r ([60]::ws)) (q:RdA H a d r Q E (eW tyf (ws.length+1) ws [] [])):aB C (M+4) 14 [.obj a] H Q E:=by
 apply R.args rfl
 refine Eq.symm (Ck)▸?_
 generalize hT:([.swap [1,2] [.list [],.list []],.whl argC (argB 7),.expr (.wmeth 6 (.var 0) []),.ret (.tuple [.bi .tuple [.var 1],.bi .tuple [.var 2]])]:List MS)=rest
 walk_at "mu"
 refine W.meth (iW (n:=M) R.w (x:=[60]) (rfl) (Nat.le_of_ble_eq_true rfl) W (fun H₁ z r' e W₁ ev₁=>?_) (fun h=>absurd rfl h))
 refine hC fun hG=>?_
 cases e<;>(refine hG ?_;clear hG)
 subst hT
 refine angles R ht hlen (by simp [cE]) W₁ ?_
 cases e:eW tyf (ws.length+1) ws [] [] with
 | out=>rw [e] at q;exact q
 | fail=>rw [e] at q;exact fun H' ev'=>q H' (ev₁.trans ev')
 | ok p=>
  replace q:=(e)▸q
  exact fun H' y' h1 h2 h3 h4 h5 h6=>q H' y' h1 h2 h3 h4 h5 (ev₁.trans h6)
end
section
variable {C:Cx}{H H₀:MH}{Q:QV}{E:MH→Prop}{a d r i n m f:Nat}{ts:List PV}{ws:List Wd}
theorem wS:∀ w∈bO,decide (bJ w=bK∧w∈dW)=decide (w∈dW):=by decide +kernel
noncomputable def rV (p:List Wd):List Wd→Bool
 | w::_=>decide (w∈p)
 | []=>false
theorem Hl {k t:List Nat}{z:Int}{v w:PV}(T:jT (cB k t z v w::ts) ws):decide (k=bK∧t∈dW)=rV dW ws:=by
 cases T with
 | fin z=>rfl
 | one hv T=>exact wS _ hv
 | two hv T=>rcases hv with rfl|rfl<;>rfl
theorem Hk {k t:List Nat}{z:Int}{v w:PV}{w0:Wd}{r:List Wd}(T:jT (cB k t z v w::ts) (w0::r)) (h:w0∈dW):t=w0∧k=bK:=by
 generalize hx:cB k t z v w=x at T
 generalize hs:w0::r=s at T
 cases T with
 | fin z=>cases hs
 | @one w1 z1 ts1 ws1 hv T=>
  cases hs
  have:=wS _ hv
  rw [decide_eq_decide] at this
  have hk:=(this.mpr h).1
  unfold pQ at hx
  refine hC fun hG=>?_
  clear this
  cases hx<;>(refine hG ?_;clear hG)
  exact ⟨rfl,hk⟩
 | @two w1 z1 ts1 ws1 hv T=>
  clear hx T w v z
  cases hs
  rcases hv with rfl|rfl<;>exact absurd h (by decide)
theorem Ir {xs:List PV}{v:PV}(hl:xs.length≤16000000) (hx:xs.getLast?=some v) (q:Q v H):fY (.tup xs) (.int (-((1:Nat):Int))) H Q:=by
 have hn:0<xs.length:=by cases xs with
  | nil=>simp at hx
  | cons=>simp
 rw [List.getLast?_eq_getElem?] at hx
 refine vT (fun J J=>rfl) rfl hl (j:=xs.length - 1) ?_ hx q
 unfold hU
 rw [if_neg (by decide),if_pos (ar102 hn)]
 congr 1;exact ar513
theorem pname_s (R:RP C) (G:dM C) {ahead:List Wd}(hal:ahead.length≤15000000) (W:WSt H a d r ws) (q:∀ H' w r',ws=w::r'→bP ahead w=true→WSt H' a d r r'→Ev d r H H'→Q (.str w) H')
  (e:(∀ w r',ws=w::r'→bP ahead w=false)→E H):aB C (n+4) 13 [.obj a,.tup (ahead.map .str)] H Q E:=by
 refine X62 (W.ex) fun k t z v w ts P T=>?_
 apply R.pname rfl
 refine W.meth (jF R.w P ?_)
 walk_at "mu"
 refine aE (k:=0) (Nat.le_of_ble_eq_true rfl) rfl ?_
 walk_at "m0"
 have hp:=Hl T
 have rest:rV dW ws=false→aB C (n+3) 5 [.obj a] H (fun x H₁=>fY x (.int 0) H₁ fun v H'=>Q v H') E:=by
  intro hh
  refine name_w R.w G W (fun H' z w r' e1 hm W' ev=>?_) (fun h=>e fun w r' e1=>?_)
  ·subst e1
   have hh:decide (w∈dW)=false:=hh
   have:bP ahead w=true:=by unfold bP;rw [if_neg (by simpa using hh)];simpa using hm
   exact aE (k:=0) (Nat.le_of_ble_eq_true rfl) rfl (q H' w r' rfl this W' ev)
  ·subst e1
   have hh:decide (w∈dW)=false:=hh
   unfold bP;rw [if_neg (by simpa using hh)];simpa using h w r' rfl
 by_cases c:k=bK
 ·rw [decide_eq_true (show k=[110,97,109,101] from c)]
  walk_at "mu"
  refine aE (k:=1) (Nat.le_of_ble_eq_true rfl) rfl ?_
  refine Eq.symm (G.g0)▸?_
  refine rT ?_
  have hp2:decide (t∈dW)=rV dW ws:=by rw [←hp];simp [c]
  refine Eq.symm (hp2)▸?_
  clear hp2 P G
  cases hh:rV dW ws with
  | true=>
   walk_at "mu"
   refine hC fun hG=>?_
   obtain ⟨w0,r',rfl⟩:∃ w0 r',ws=w0::r':=by
    cases ws with
    | nil=>cases hh
    | cons w0 r'=>exact I21 w0 r' rfl
   have hm:w0∈dW:=by simpa [rV] using hh
   obtain ⟨rfl,_⟩:=Hk T hm
   refine hG ?_;clear hG
   have ok:aB C (n+3) 2 [.obj a] H (fun x H'=>fY (cB k t z v w) (.int 1) H' fun v H'=>Q v H') E∨bP ahead t=false:=by
    cases hn:bP ahead t with
    | false=>exact .inr rfl
    | true=>
     refine .inl (fF (n:=n+1) R.w (by constructor<;>rintro rfl<;>exact absurd hm (by decide)) W fun H' z' W' ev=>aE (k:=1) (Nat.le_of_ble_eq_true rfl) rfl (q H' t r' rfl hn W' ev))
   have bad:bP ahead t=false→(t.length+[32,115,116,97,110,100,115,32,97,116,32,116,104,101,32,98,101,103,105,110,32,111,102,32,97,32,112,97,116,104,32,97,108,111,110,101].length≤16000000∧E H):=fun hn=>
    ⟨by have:=Ct T;simp;exact Nat.le_trans this (Nat.le_add_left _ _),e fun w r'' e1=>by cases e1;exact hn⟩
   clear T ts e q R
   cases ahead with
   | nil=>
    exact W.meth (ok.resolve_right (fun h=>by unfold bP at h;rw [if_pos hm] at h;simp at h))
   | cons p ps=>
    simp only [List.map_cons,o_eqT1];walk_at "m0"
    refine aE (k:=1) (Nat.le_of_ble_eq_true rfl) rfl ?_
    walk_at "m0"
    by_cases c2:t=sV
    ·rw [decide_eq_true (show t=[115,117,112,101,114] from c2)]
     walk_at "mu"
     have hlast:(PV.str p::ps.map PV.str).getLast?=some (.str ((p::ps).getLast?.getD [])):=by
      rw [←List.map_cons,List.getLast?_map]
      cases hq:(p::ps).getLast? with
      | none=>simp at hq
      | some y=>rfl
     refine Ir (by simp at hal ⊢;exact Nat.le_trans hal (Nat.le_add_left _ _)) hlast (rT (ps:=[sV,slfW]) ?_)
     by_cases c3:(p::ps).getLast?.getD []∈[sV,slfW]
     ·refine Eq.symm (decide_eq_true c3)▸?_
      walk_at "mu"
      refine W.meth (ok.resolve_right (fun h=>?_))
      unfold bP at h
      rw [if_pos hm] at h
      simp at h c3
      exact absurd c3 (by simpa using h c2)
     ·refine Eq.symm (decide_eq_false c3)▸?_
      walk_at "mu"
      have hn:bP (p::ps) t=false:=by
       unfold bP
       rw [if_pos hm]
       simp at c3 ⊢
       exact fun J=>c3
      exact aE (k:=1) (Nat.le_of_ble_eq_true rfl) rfl ⟨(bad hn).1,aE (k:=2) (Nat.le_of_ble_eq_true rfl) rfl (bad hn).2⟩
    ·rw [decide_eq_false (show ¬t=[115,117,112,101,114] from c2)]
     walk_at "mu"
     have hn:bP (p::ps) t=false:=by
      unfold bP
      rw [if_pos hm]
      simp [c2]
     exact aE (k:=1) (Nat.le_of_ble_eq_true rfl) rfl ⟨(bad hn).1,aE (k:=2) (Nat.le_of_ble_eq_true rfl) rfl (bad hn).2⟩
  | false=>
   walk_at "mu"
   exact W.meth (rest hh)
 ·rw [decide_eq_false (show ¬k=[110,97,109,101] from c)]
  walk_at "mu"
  exact W.meth (rest (by rw [←hp];simp [c]))
end
section
variable {C:Cx}{H H₀:MH}{Q:QV}{E:MH→Prop}{a d r i n m f:Nat}{ts:List PV}{ws:List Wd}
theorem look1_w (R:RW C) {w0:Wd}(W:WSt H a d r (iM::ws)) (q:Q (.bool (decide (ws.head?=some [60]))) H):aB C (n+2) 3 [.obj a,.str [60],.int 1] H Q E:=by
 refine hC fun hG=>?_
 obtain ⟨ts,P,T⟩:=W<;>(refine hG ?_;clear hG)
 cases T with
 | @one w z ts ws hv T=>
  cases T with
  | fin z=>
   refine rN R P ?_
   have:decide ((jK=aQ∨jK=bK)∧[]=[60])=decide (([]:List Wd).head?=some [60]):=by rw [decide_eq_decide];simp
   rw [this];exact q
  | @one w1 z1 ts1 ws1 hv1 T1=>
   refine rN R P ?_
   have:decide ((bJ w1=aQ∨bJ w1=bK)∧w1=[60])=decide ((w1::ws1).head?=some [60]):=by
    rw [decide_eq_decide]
    constructor
    ·rintro ⟨_,rfl⟩;rfl
    ·intro h;simp at h;subst h;exact ⟨.inl (rfl),rfl⟩
   rw [this];exact q
  | @two w1 z1 ts1 ws1 hv1 T1=>
   refine rN R P ?_
   have:decide ((aQ=aQ∨aQ=bK)∧w1++w1=[60])=decide ((w1::w1::ws1).head?=some [60]):=by
    rw [decide_eq_decide]
    clear T1 P E n r d a w0
    rcases hv1 with rfl|rfl<;>simp
   rw [this];exact q
 | two hv T=>rcases hv with h|h<;>simp [iM] at h
noncomputable def RdS (H:MH) (a d r:Nat) (w:Wd) (Q:QV) (E:MH→Prop):Rs (PV×List Wd)→Prop
 | .out=>False
 | .fail=>∀ H',Ev d r H H'→E H'
 | .ok (s,ws)=>∀ H' l,l.length=2→aO (.tup (.str w::l))=s→WSt H' a d r ws→Ev d r H H'→Q (.tup (.str w::l)) H'
theorem xF (tyf:List Wd→Rs (PV×List Wd)) (isE:Bool) (w:Wd) (r:List Wd):jC tyf isE w (iM::[60]::r)=kA tyf w r:=if_pos rfl
theorem uY (tyf:List Wd→Rs (PV×List Wd)) (w:Wd) (r:List Wd):jC tyf false w ([60]::r)=kA tyf w r:=(if_neg (fun e=>absurd (List.cons.inj e).1 (by decide))).trans (if_pos ⟨rfl,rfl⟩)
theorem Am (tyf:List Wd→Rs (PV×List Wd)) (isE:Bool) (w:Wd) (r:List Wd) (h1:∀ r',r≠iM::[60]::r') (h2:isE=false→r.head?≠some [60]):jC tyf isE w r=.ok (.tup [.str w,.tup [],.tup []],r):=
 (if_neg fun e=>h1 _ (take2 e)).trans (if_neg fun e=>h2 e.1 e.2)
theorem tK {tyf:List Wd→Rs (PV×List Wd)}{M:Nat}(R:RP C) (G:dM C) (ht:∀ {H ws Q E},WSt H a d r ws→Rd H a d r Q E (tyf ws)→aB C (M+3) 7 [.obj a] H Q E)
  (hlen:∀ ws x ws',tyf ws=.ok (x,ws')→ws'.length<ws.length) {ahead:List Wd} (hal:ahead.length≤15000000) {isE:Bool} (W:WSt H a d r ws)
  (q:∀ w r',ws=w::r'→bP ahead w=true→RdS H a d r w Q E (jC tyf isE w r')) (e:(∀ w r',ws=w::r'→bP ahead w=false)→∀ H',Ev d r H H'→E H') :
  aB C (M+5) 12 [.obj a,.tup (ahead.map .str),.bool isE] H Q E:=by
 apply R.segment rfl
 refine pname_s (n:=M) R G hal W (fun H₁ w r' e1 hn W₁ ev₁=>?_) (fun h=>e h H .refl)
 clear W hal G
 subst e1
 have q:=q w r' rfl hn
 have args:∀ {H₂:MH} {r₂:List Wd},WSt H₂ a d r ([60]::r₂)→Ev d r H H₂→RdS H a d r w Q E (kA tyf w r₂) →
   aB C (M+4) 14 [.obj a] H₂ (fun y H₂=>dY .add (.tup [.str w]) y H₂ fun v H'=>Q v H') E:=by
  intro H₂ r₂ W₂ ev₂ q
  refine args_s R ht hlen W₂ ?_
  unfold kA at q
  cases e:eW tyf (r₂.length+1) r₂ [] [] with
  | out=>rw [e] at q;exact q
  | fail=>rw [e] at q;exact fun H' ev'=>q H' (ev₂.trans ev')
  | ok p=>
   obtain ⟨x,y,r₃⟩:=p
   replace q:=(e)▸q
   intro H' y' h1 h2 h3 h4 W' ev'
   refine ⟨by simp,?_⟩
   refine q H' [x,y'] rfl ?_ W' (ev₂.trans ev')
   obtain ⟨l,rfl⟩:=h2
   show cR (.tup [.str w,aO (.tup l),aO y'])=_
   rw [h1,h3];rfl
 have plain:(∀ r'',r'≠iM::[60]::r'')→(isE=false→r'.head?≠some [60])→Q (.tup [.str w,.tup [],.tup []]) H₁:=fun h1 h2=>by
  rw [Am tyf isE w r' h1 h2] at q
  exact q H₁ [.tup [],.tup []] rfl rfl W₁ ev₁
 refine W₁.meth (cW (n:=M+2) R.w W₁ (rfl) ?_)
 rcases aZ r' iM with ⟨r₂,rfl⟩|h
 ·refine W₁.meth (look1_w (n:=M+2) (w0:=[]) R.w W₁ ?_)
  rcases aZ r₂ [60] with ⟨r₃,rfl⟩|h2
  ·rw [xF] at q
   refine W₁.meth (fF (n:=M+2) R.w (by decide) W₁ fun H₂ z W₂ ev₂=>?_)
   exact args W₂ (ev₁.trans ev₂) q
  ·rw [decide_eq_false h2]
   have h1:∀ r'',iM::r₂≠iM::[60]::r'':=fun r'' e=>h2 (by cases e;rfl)
   cases isE with
   | true=>
    exact plain h1 (fun h=>by cases h)
   | false=>
    refine W₁.meth (cW (n:=M+2) R.w W₁ rfl ?_)
    refine Or.elim (aZ (iM::r₂) [60]) ?_ ?_
    ·rintro ⟨r₄,h4⟩
     rw [decide_eq_true (show (iM::r₂).head?=some [60] by rw [h4];rfl)]
     rw [h4] at q W₁
     rw [uY] at q
     exact args W₁ ev₁ q
    ·intro h
     exact plain h1 (fun J=>h)
 ·rw [decide_eq_false (show ¬r'.head?=some [58,58] from h)]
  have h1:∀ r'',r'≠iM::[60]::r'':=fun r'' e=>h (e▸rfl)
  cases isE with
  | true=>
   exact plain h1 (fun h=>by cases h)
  | false=>
   refine W₁.meth (cW (n:=M+2) R.w W₁ rfl ?_)
   rcases aZ r' [60] with ⟨r₄,h4⟩|h
   ·rw [decide_eq_true (show r'.head?=some [60] by rw [h4];rfl)]
    rw [h4] at q W₁
    rw [uY] at q
    exact args W₁ ev₁ q
   ·rw [decide_eq_false h]
    exact plain h1 (fun J=>h)
end
section
variable {C:Cx}{H H₀:MH}{Q:QV}{E:MH→Prop}{a d r i n m f:Nat}{ts:List PV}{ws:List Wd}
noncomputable def pth (tyf:List Wd→Rs (PV×List Wd)) (isE:Bool) (k:Nat) (ahead:List Wd) (ws:List Wd) (acc:List PV):Rs (List PV×List Wd):=
 if ws.head?=some iM then iS tyf isE k ahead ws.tail acc else .ok (acc,ws)
theorem cU (tyf:List Wd→Rs (PV×List Wd)) (isE:Bool) (k:Nat) (ahead:List Wd) (w:Wd) (r:List Wd) (acc:List PV):iS tyf isE (k+1) ahead (w::r) acc =
  if bP ahead w then match jC tyf isE w r with
   | .out=>.out
   | .fail=>.fail
   | .ok (s,r')=>pth tyf isE k (ahead++[w]) r' (acc++[s])
  else .fail:=rfl
noncomputable def Dg:ME:=.wmeth 3 (.var 0) [.str [58,58]]
noncomputable def nameC:ME:=.comp (.idx (.var 3) (.int 0)) 3 [] (.var 2) []
noncomputable def pathB:List MS:=[.expr (.wmeth 2 (.var 0) []),.expr (.meth .append (.var 2) [.call 12 [.var 0,.bi .tuple [nameC],.var 1]])]
theorem xA:dD=[.asg 2 (.list [.call 12 [.var 0,.tuple [],.var 1]]),.whl Dg pathB,.ret (.bi .tuple [.var 2])]:=rfl
noncomputable def wR (xs:List PV) (names:List Wd):Prop:=∃ ls:List (Wd×List PV),xs=ls.map (fun p=>.tup (.str p.1::p.2))∧names=ls.map (·.1)∧∀ p∈ls,p.2.length=2
theorem Ie {μ:LE}{P:List PV→MH→Prop}{chk:MH→Prop}{cc:LE→MH→(Bool→MH→Prop)→Prop}{ee:LE→MH→QV→Prop}(hcc:∀ m H Q,cc m H Q=Q true H) (hee:∀ m H Q,ee m H Q=nu (m 3) (fY (m 3) (.int 0) H Q)) :
  ∀ {ls:List (Wd×List PV)} {acc:List PV},(∀ p∈ls,p.2.length=2)→acc.length+ls.length≤15000000→chk H →
  P (acc++ls.map (fun p=>.str p.1)) H→fB 3 cc ee chk μ (ls.map (fun p=>.tup (.str p.1::p.2))) H acc P:=by
 intro x0
 induction x0 with
 | nil=>
  intro acc J J J q
  simp only [List.map_nil,lN,lO];simpa using q
 | cons p ls ih=>
  intro acc hl hs hc q
  simp only [List.map_cons,lN,lO]
  rw [hcc,cond_true,hee]
  have h2:=hl p (.head _)
  have e3:(μ.set 3 (.tup (.str p.1::p.2))) 3=.tup (.str p.1::p.2):=by simp [aJ]
  rw [e3]
  simp only [nuT]
  refine aE (k:=0) (by simp [h2]) rfl (I03 hc (ar83 hs) (?_))
  refine ih (fun p hp=>hl p (.tail _ hp)) (by simp at hs ⊢;exact ar85 hs) hc ?_
  simpa using q
theorem nameC_q {Fn:FSt}{gv:Nat→PV}{f:Nat}{μ:LE}{xs:List PV}{names:List Wd}(h2:μ 2=.lst f) (hf:H f=some (.list xs)) (hs:wR xs names) (hl:xs.length≤15000000) {P:QV}
  (q:∀ b,H b=none→P (.lst b) (H.set b (.list (names.map .str)))):mE Fn gv E nameC μ H P:=by
 refine hC fun hG=>?_
 obtain ⟨ls,rfl,rfl,h3⟩:=hs<;>(refine hG ?_;clear hG)
 unfold nameC
 rw [e_comp,e_var,h2]
 simp only [nuL]
 refine wZ hf ?_
 refine Ie (fun J J J=>rfl) (fun J J J=>rfl) h3 (by simpa using hl) hf ?_
 intro b hb
 have:=q b hb
 simpa [Function.comp_def] using this
end
section
variable {C:Cx}{H H₀:MH}{Q:QV}{E:MH→Prop}{a d r i n m f:Nat}{ts:List PV}{ws:List Wd}
theorem Jo {elem:List Wd→Rs (PV×List Wd)}(hlen:∀ ws x ws',elem ws=.ok (x,ws')→ws'.length<ws.length):∀ (k:Nat) {ws:List Wd}{rs ts:List PV}{x y:PV}{r':List Wd},eW elem k ws rs ts=.ok (x,y,r')→r'.length≤ws.length:=by
 intro x0
 induction x0 with
 | zero=>intro ws rs ts x y r' h;exact (by contradiction)
 | succ k ih=>
  intro ws rs ts x y r' h
  have aft:∀ {ws':List Wd} {rs2 ts2:List PV},ws'.length≤ws.length→pY elem k ws' rs2 ts2=.ok (x,y,r')→r'.length≤ws.length:=by
   intro ws' rs2 ts2 hl h
   unfold pY at h
   split at h
   ·have:=ih h;simp at this;exact Nat.le_trans this (Nat.le_trans (Nat.sub_le _ _) hl)
   ·split at h
    ·cases h;simp;exact Nat.le_succ_of_le hl
    ·cases h
  rw [gM] at h
  split at h
  ·cases h;simp
  ·split at h
   ·split at h
    ·exact aft (by simp) h
    ·cases h
   ·split at h
    ·cases h
    ·cases h
    ·rename_i x' ws' e
     have:=hlen _ _ _ e
     exact aft (Nat.le_of_lt this) h
theorem qT {tyf:List Wd→Rs (PV×List Wd)}(hlen:∀ ws x ws',tyf ws=.ok (x,ws')→ws'.length<ws.length) {isE:Bool}{w:Wd}{r r':List Wd}{s:PV}(h:jC tyf isE w r=.ok (s,r')):r'.length≤r.length:=by
 have args:∀ {q:List Wd},q.length≤r.length→kA tyf w q=.ok (s,r')→r'.length≤r.length:=by
  intro q hq h
  unfold kA at h
  split at h
  ·cases h
  ·cases h
  ·rename_i e
   cases h
   have:=Jo hlen _ e
   exact Nat.le_trans this hq
 unfold jC at h
 split at h
 ·exact args (by simp) h
 ·split at h
  ·exact args (by simp) h
  ·clear args hlen tyf
   cases h;exact Nat.le_refl _
theorem Aj {tyf:List Wd→Rs (PV×List Wd)}{M f:Nat}{isE:Bool}(R:RP C) (G:dM C) (ht:∀ {H ws Q E},WSt H a d r ws→Rd H a d r Q E (tyf ws)→aB C (M+3) 7 [.obj a] H Q E)
  (hlen:∀ ws x ws',tyf ws=.ok (x,ws')→ws'.length<ws.length) (hf0:H₀ f=none) (fa:f≠a) (fd:f≠d) (fr:f≠r)
  {wc:LE→MH→(Bool→MH→Prop)→Prop} {wb:LE→MH→QS→Prop} (hwc:∀ m H Q,wc m H Q=mT (aB C (M+5)) C.gv E Dg m H Q) (hwb:∀ m H Q,wb m H Q=mSs (aB C (M+5)) C.gv E pathB m H Q) :
  ∀ (k:Nat) {ws:List Wd} {xs:List PV} {names:List Wd} {μ:LE} {H:MH} {Q:QS},ws.length<k+1→μ 0=.obj a→μ 1=.bool isE→μ 2=.lst f→H f=some (.list xs)→wR xs names→WSt H a d r ws→Ev d r H₀ H→xs.length+k≤14000000 →
   (pth tyf isE k names ws (aD xs)=.out→False)→(pth tyf isE k names ws (aD xs)=.fail→∀ H',Ev d r H₀ H'→E H') →
   (∀ H' xs2 names2 ws'',H' f=some (.list xs2)→wR xs2 names2→WSt H' a d r ws''→Ev d r H₀ H'→xs2.length≤15000000→pth tyf isE k names ws (aD xs)=.ok (aD xs2,ws'')→Q .next μ H') →
   aY wc wb (k+1) μ H Q:=by
 intro k
 induction k with
 | zero=>
  intro ws xs names μ H Q hk m0 m1 m2 hf hs W ev hsz ho hE hQ
  have:ws=[]:=List.length_eq_zero_iff.mp (ar107 hk)
  subst this
  rw [bR]
  rw [hwc]
  simp only [Dg]
  walk_at "mu"
  simp only [m0]
  refine W.meth (cW (n:=M+3) R.w W (by decide) ?_)
  exact hQ H xs names [] hf hs W ev (Nat.le_trans hsz (Nat.le_add_left _ _)) rfl
 | succ k ih=>
  intro ws xs names μ H Q hk m0 m1 m2 hf hs W ev hsz ho hE hQ
  generalize hx:pth tyf isE (k+1) names ws (aD xs)=x at ho hE hQ
  rw [bR]
  rw [hwc]
  simp only [Dg]
  walk_at "mu"
  simp only [m0]
  refine W.meth (cW (n:=M+3) R.w W (by decide) ?_)
  rcases aZ ws iM with ⟨q,rfl⟩|hc
  ·rw [decide_eq_true (show (iM::q).head?=some [58,58] from rfl)]
   walk_at "mu"
   rw [hwb]
   simp only [pathB]
   walk_at "mu"
   simp only [m0]
   refine W.meth (fF (n:=M+3) R.w (by decide) W fun H₁ z W₁ ev₁=>?_)
   walk_at "mu"
   simp only [m1,m2]
   walk_at "mu"
   have hf₁:H₁ f=some (.list xs):=ev₁.at hf fd fr
   simp only [m0]
   walk_at "mu"
   refine ⟨aS hf₁,nameC_q m2 hf₁ hs (ar109 hsz) fun b hb=>?_⟩
   have nb:=W₁.new hb
   have hbf:b≠f:=fun e=>by rw [e,hf₁] at hb;cases hb
   have hb':(H₁.set b (.list (names.map .str))) b=some (.list (names.map .str)):=by unfold MH.set;rw [if_pos rfl]
   have W₂:WSt (H₁.set b (.list (names.map .str))) a d r q:=W₁.set nb.1 nb.2.1 nb.2.2
   have ev₂:Ev d r H (H₁.set b (.list (names.map .str))):=ev₁.trans (.set (.inr (.inr hb)))
   have hf₂:(H₁.set b (.list (names.map .str))) f=some (.list xs):=by unfold MH.set;rw [if_neg (Ne.symm hbf)];exact hf₁
   have hnl:names.length=xs.length:=by obtain ⟨ls,rfl,rfl,_⟩:=hs;simp
   simp only [cJ hb']
   refine ⟨by simp;exact ar469 hsz hnl,?_⟩
   have ev₀₂:=ev.trans ev₂
   replace hx:iS tyf isE (k+1) names q (aD xs)=x:=hx
   refine tK R G ht hlen (ar110 hsz hnl) W₂ (fun w r' e1 hn=>?_) (fun h H' ev'=>?_)
   ·clear hnl ev₂ W₂ hb' hbf nb hb hf₁
    subst e1
    rw [cU,if_pos hn] at hx
    clear hn ev₁ W₁ z hwb hwc ht G
    cases e:jC tyf isE w r' with
    | out=>rw [e] at hx;exact ho hx.symm
    | fail=>rw [e] at hx;exact fun H' ev'=>hE hx.symm H' (ev₀₂.trans ev')
    | ok p=>
     obtain ⟨s,r''⟩:=p
     have hlr:=qT hlen e
     replace hx:=(e)▸hx
     dsimp only at hx
     intro H₃ l hl2 hps W₃ ev₃
     have hf₃:H₃ f=some (.list xs):=ev₃.at hf₂ fd fr
     refine bF hf₃ (Nat.lt_of_le_of_lt (Nat.le_add_right _ _) (Nat.lt_of_le_of_lt hsz (Nat.le_of_ble_eq_true rfl))) ?_
     have hpl:aD xs++[s]=aD (xs++[.tup (.str w::l)]):=by rw [fO];simp [aD,hps]
     replace hx:=(hpl)▸hx
     have hs':wR (xs++[.tup (.str w::l)]) (names++[w]):=by
      clear hpl hf₃ hps hf₂ e hlen R M
      obtain ⟨ls,rfl,rfl,h3⟩:=hs
      exact ⟨ls++[(w,l)],by simp,by simp,fun p hp=>by
       rcases List.mem_append.mp hp with hp|hp
       ·exact h3 p hp
       ·rw [List.mem_singleton.mp hp];exact hl2⟩
     subst hx
     refine ih (ws:=r'') (by simp at hk;exact ar112 hlr hk) m0 m1 m2 (if_pos rfl) hs' (W₃.set fa fd fr) ((ev₀₂.trans ev₃).new hf0) (by simp;exact Nat.le_trans (Nat.le_of_eq (Nat.add_right_comm _ _ _)) hsz) ho hE hQ
   ·have hfail:iS tyf isE (k+1) names q (aD xs)=.fail:=by
     clear hnl hf₂ ev₂ W₂ hb' hbf nb hb
     cases q with
     | nil=>rfl
     | cons w r'=>rw [cU,if_neg (by rw [h w r' rfl];exact Bool.false_ne_true)]
    exact hE (hx.symm.trans hfail) H' (ev₀₂.trans ev')
  ·rw [decide_eq_false (show ¬ws.head?=some [58,58] from hc)]
   exact hQ H xs names ws hf hs W ev (ar109 hsz) (hx.symm.trans (if_neg hc))
end
section
variable {C:Cx}{H H₀:MH}{Q:QV}{E:MH→Prop}{a d r i n m f:Nat}{ts:List PV}{ws:List Wd}
theorem wR.tups {xs:List PV}{names:List Wd}(h:wR xs names):∀ y∈xs,∃ l,y=.tup l:=by
 obtain ⟨ls,rfl,_,_⟩:=h
 intro y hy
 obtain ⟨p,_,rfl⟩:=List.mem_map.mp hy
 exact ⟨_,rfl⟩
theorem qQ {tyf:List Wd→Rs (PV×List Wd)}{M:Nat}{isE:Bool}{μ:LE}(R:RP C) (G:dM C) (ht:∀ {H ws Q E},WSt H a d r ws→Rd H a d r Q E (tyf ws)→aB C (M+3) 7 [.obj a] H Q E)
  (hlen:∀ ws x ws',tyf ws=.ok (x,ws')→ws'.length<ws.length) (m0:μ 0=.obj a) (m1:μ 1=.bool isE) (W:WSt H a d r ws) (q:Rd H a d r Q E (spath tyf isE ws)):mSs (aB C (M+5)) C.gv E dD μ H (iR Q):=by
 refine Eq.symm (xA)▸?_
 walk_at "mu"
 try (simp only [m0,m1,nuO,nuL,nuI,nuS,nuT,nuB,nuN,nuF,aF,aG];walk_at "mu")
 unfold spath at q
 have sz:=W.size
 refine tK (ahead:=[]) R G ht hlen (Nat.zero_le _) W (fun w r' e1 hn=>?_) (fun h H' ev'=>?_)
 ·clear W
  subst e1
  rw [show (w::r').length+1=(r'.length+1)+1 from rfl,cU,if_pos hn] at q
  cases e:jC tyf isE w r' with
  | out=>rw [e] at q;exact q
  | fail=>rw [e] at q;exact q
  | ok p=>
   obtain ⟨s,r''⟩:=p
   have hlr:=qT hlen e
   replace q:=(e)▸q
   intro H₁ l hl2 hps W₁ ev₁
   intro f hf
   refine X03 (W₁.new hf) fun fa fd fr=>?_
   have hf0:H f=none:=ev₁.none hf fd fr
   have W₂:=W₁.set (o:=.list [.tup (.str w::l)]) fa fd fr
   have ev₂:=ev₁.new (o:=.list [.tup (.str w::l)]) hf0
   have hs:wR [.tup (.str w::l)] [w]:=I13 ([(w,l)]) rfl rfl (fun p hp=>by rw [List.mem_singleton.mp hp];exact hl2)
   have hpl:aD [.tup (.str w::l)]=[s]:=by simp [aD,hps]
   have hq:pth tyf isE (r'.length+1) [w] r'' (aD [.tup (.str w::l)])=pth tyf isE (r'.length+1) ([]++[w]) r'' ([]++[s]):=by rw [hpl];rfl
   refine ⟨r'.length+1+1,Aj (isE:=isE) R G ht hlen hf0 fa fd fr (fun J J J=>rfl) (fun J J J=>rfl) (r'.length+1) (ar114 hlr) m0 m1 rfl (if_pos rfl) hs W₂ ev₂ (by simp at sz ⊢;exact ar115 sz) (fun e=>?_) (fun e=>?_) ?_⟩
   ·rw [hq] at e;simp only [e] at q;exact q
   ·rw [hq] at e;simp only [e] at q;exact q
   ·intro H' xs2 names2 ws'' hf' hs' W' ev' hl' e
    replace e:=(hq)▸e
    simp only [e] at q
    walk_at "mu"
    simp only [cJ hf']
    refine ⟨iZ hl',?_⟩
    exact q H' (.tup xs2) (hV hs'.tups) ⟨_,rfl⟩ W' ev'
 ·have hfail:iS tyf isE (ws.length+1) [] ws []=.fail:=by
   clear sz W m1 m0 hlen ht G R
   cases ws with
   | nil=>rfl
   | cons w r'=>rw [show (w::r').length+1=(r'.length+1)+1 from rfl,cU,if_neg (by rw [h w r' rfl];exact Bool.false_ne_true)]
  replace q:=(hfail)▸q
  exact q H' ev'
theorem spath_s {tyf:List Wd→Rs (PV×List Wd)}{M:Nat}{isE:Bool}(R:RP C) (G:dM C) (ht:∀ {H ws Q E},WSt H a d r ws→Rd H a d r Q E (tyf ws)→aB C (M+3) 7 [.obj a] H Q E)
  (hlen:∀ ws x ws',tyf ws=.ok (x,ws')→ws'.length<ws.length) (W:WSt H a d r ws) (q:Rd H a d r Q E (spath tyf isE ws)):aB C (M+6) 11 [.obj a,.bool isE] H Q E:=
 R.spath rfl (qQ R G ht hlen rfl rfl W q)
theorem xB {tyf:List Wd→Rs (PV×List Wd)}{M:Nat}(R:RP C) (G:dM C) (ht:∀ {H ws Q E},WSt H a d r ws→Rd H a d r Q E (tyf ws)→aB C (M+3) 7 [.obj a] H Q E)
  (hlen:∀ ws x ws',tyf ws=.ok (x,ws')→ws'.length<ws.length) (W:WSt H a d r ws) (q:Rd H a d r Q E (spath tyf false ws)):aB C (M+6) 11 [.obj a] H Q E:=
 R.spath0 rfl (qQ R G ht hlen rfl rfl W q)
set_option tactic.hygienic true in
theorem xX {tyf:List Wd→Rs (PV×List Wd)}(hlen:∀ ws x ws',tyf ws=.ok (x,ws')→ws'.length<ws.length):∀ (k:Nat) {ws:List Wd}{xs ys:List PV}{c:Bool}{r':List Wd},iK tyf k ws xs=.ok (ys,c,r')→r'.length≤ws.length
 | 0,_,_,_,_,_,h=>(by contradiction)
 | k+1,ws,xs,ys,c,r',h=>by
  unfold iK at h
  split at h
  ·cases h;simp
  ·split at h
   ·cases h
   ·cases h
   ·rename_i x ws' e
    have:=hlen _ _ _ e
    split at h
    ·have:=xX hlen k h;simp at this;exact Nat.le_trans this (Nat.le_trans (Nat.sub_le _ _) (Nat.le_of_lt (by assumption)))
    ·split at h
     ·cases h;simp;exact ar117 this
     ·cases h
set_option tactic.hygienic true in
theorem tQ {tyf:List Wd→Rs (PV×List Wd)}{isE:Bool}(hlen:∀ ws x ws',tyf ws=.ok (x,ws')→ws'.length<ws.length):∀ (k:Nat) {ahead ws:List Wd}{acc ys:List PV}{r':List Wd},iS tyf isE k ahead ws acc=.ok (ys,r')→r'.length<ws.length:=by
 intro x0
 induction x0 with
 | zero=>intro _ _ _ _ _ h;exact (by contradiction)
 | succ k ih=>
  intro ahead z0
  cases z0 with
  | nil=>intro acc ys r' h;exact (by contradiction)
  | cons w r=>
   intro acc ys r' h
   rw [cU] at h
   split at h
   ·split at h
    ·cases h
    ·cases h
    ·rename_i s r'' e
     have h1:=qT hlen e
     unfold pth at h
     split at h
     ·have:=ih h;simp at this ⊢;exact Nat.lt_succ_of_lt (Nat.lt_of_lt_of_le this (Nat.le_trans (Nat.sub_le _ _) h1))
     ·clear e
      cases h;simp;exact Nat.succ_le_succ h1
   ·cases h
theorem iH:∀ (n:Nat) (ws:List Wd) (x:PV) (ws':List Wd),ty n ws=.ok (x,ws')→ws'.length<ws.length:=by
 refine qN (fun n h ws x ws' e=>nomatch (ty_lt h ws).symm.trans e) fun n i0 i2 ws x ws' h=>?_
 refine ty_e h (fun r e g=>?_) (fun r e g=>?_) (fun r e g=>?_) (fun r e g=>?_) (fun r e g=>?_) fun h=>?_
 ·unfold vE at g
  split at g
  ·cases g
  ·cases g
  ·rename_i e';subst e;cases g;have:=xX i0 _ e';simp;exact Nat.succ_le_succ this
 ·have refm:∀ {g:PV} {q r:List Wd},q.length≤r.length→iJ (ty (n+2)) g q=.ok (x,ws')→ws'.length<r.length+1:=by
   intro g q r hq h
   unfold iJ at h
   split at h
   ·cases h
   ·cases h
   ·rename_i e
    cases h
    have h1:=i2 _ _ _ e
    have h2:(fP q).2.length≤q.length:=by unfold fP hdQ;split<;>simp
    exact ar122 hq h1 h2
  clear i2 iH
  subst e
  unfold refT at g
  split at g
  ·split at g
   ·exact refm (by simp) g
   ·exact refm (Nat.le_refl _) g
  ·exact refm (Nat.le_refl _) g
 ·clear i2 iH
  subst e
  unfold tC at g
  split at g
  ·cases g
  ·cases g
  ·rename_i e
   split at g
   ·cases g;have:=i0 _ _ _ e;simp at this ⊢;exact Nat.lt_succ_of_lt (Nat.lt_of_le_of_lt (Nat.sub_le _ _) this)
   ·cases g
 ·clear i2 iH
  subst e;cases g;simp
 ·clear i2 iH
  subst e;cases g;simp
 ·unfold pthT at h
  split at h
  ·cases h
  ·cases h
  ·rename_i e
   cases h
   unfold spath at e
   split at e
   ·cases e
   ·cases e
   ·rename_i e2
    clear i2 h iH
    cases e
    exact tQ i0 _ e2
end
section
variable {C:Cx}{H H₀:MH}{Q:QV}{E:MH→Prop}{a d r i n m f:Nat}{ts:List PV}{ws:List Wd}
theorem voc_amp:∀ w∈bO,w≠[38,38]:=by decide +kernel
theorem Ij (R:RW C) (W:WSt H a d r ws):∃ b1 b2:Bool,(b1||b2)=decide (ws.head?=some [38])∧(∀ {n:Nat}{Q:QV}{E:MH→Prop},Q (.bool b1) H→aB C (n+2) 3 [.obj a,.str [38]] H Q E) ∧
  (∀ {n:Nat} {Q:QV} {E:MH→Prop},Q (.bool b2) H→aB C (n+2) 3 [.obj a,.str [38,38]] H Q E):=by
 refine hC fun hG=>?_
 obtain ⟨ts,P,T⟩:=W<;>(refine hG ?_;clear hG)
 cases T with
 | fin z=>exact I23 _ _ (rfl) (fun q=>fR R P q) (fun q=>fR R P q)
 | @one w z ts ws hv T=>
  refine I23 _ _ (?_) (fun q=>fR R P q) (fun q=>fR R P q)
  have h2:=voc_amp w hv
  by_cases c:w=[38]
  ·subst c
   have hk:bJ [38]=aQ:=rfl
   simp [hk]
  ·simp [c,h2]
 | @two w z ts ws hv T=>
  refine I23 _ _ (?_) (fun q=>fR R P q) (fun q=>fR R P q)
  clear T P ts r d a H R
  rcases hv with rfl|rfl<;>simp
theorem Hi (n:Nat) (r:List Wd):ty (n+4) ([33]::r)=.ok (.tup [.str Bu,.int 0],r):=rfl
theorem Hj (n:Nat) (r:List Wd):ty (n+4) ([95]::r)=.ok (.tup [.str Bv,.int 0],r):=rfl
theorem Cr (n:Nat) (ws:List Wd) (h1:ws.head?≠some [40]) (h2:ws.head?≠some [38]) (h3:ws.head?≠some [91]) (h4:ws.head?≠some [33]) (h5:ws.head?≠some [95]):ty (n+4) ws=match spath (ty n) false ws with
   | .out=>.out
   | .fail=>.fail
   | .ok (p,r)=>.ok (.tup [.str kPath,.int 0,p],r):=
 (iB h1).trans ((iB h2).trans ((iB h3).trans ((iB h4).trans (iB h5))))
theorem uQ (R:RP C) (G:dM C):∀ n,zV C n (n+8) a d r:=by
 refine qN (fun n h H ws Q E W q=>(ty_lt h ws▸q:Rd H a d r Q E .out).elim) fun n i0 i2 H ws Q E W q=>?_
 have i0':zV C n (n+10) a d r:=fun W q=>(i0 W q).mono (ar124)
 have len:=iH n
 refine X62 (W.ex) fun k t z v w ts P T=>?_
 have Wm:=@WSt.meth H a d r ws W
 refine R.type (d:=n+11) rfl ?_
 refine Wm (jF R.w P ?_)
 walk_at "mu"
 refine aE (k:=2) (Nat.le_of_ble_eq_true rfl) rfl ?_
 refine Wm (cW R.w W (rfl) ?_)
 clear T P ts uQ
 rcases aZ ws [40] with ⟨r',rfl⟩|c1
 ·rw [ty_par] at q
  exact paren_s (M:=n+7) R (fun W q=>i0' W q) len W q
 rw [decide_eq_false c1]
 refine X23 (Ij R.w W) fun b1 b2 hb l1 l2=>?_
 refine Wm (l1 ?_)
 refine hC fun hG=>?_
 clear l1
 rcases aZ ws [38] with ⟨r',rfl⟩|c2<;>(refine hG ?_;clear hG)
 ·rw [decide_eq_true (show ([38]::r':List Wd).head?=some [38] from rfl)] at hb
  rw [Ad] at q
  have go:=ref_s (m:=n+8) R i2 i0' W q
  cases b1 with
  | true=>
   exact go
  | false=>
   refine Wm (l2 ?_)
   have hb:b2=true:=hb
   refine Eq.symm (hb)▸?_
   exact go
 rw [decide_eq_false c2] at hb
 have hb1:b1=false:=by cases b1<;>simp_all
 have hb2:b2=false:=by cases b2<;>simp_all
 refine Eq.symm (hb1)▸?_
 refine Wm (l2 ?_)
 refine Eq.symm (hb2)▸?_
 refine Wm (cW R.w W (rfl) ?_)
 rcases aZ ws [91] with ⟨r',rfl⟩|c3
 ·rw [ty_arr] at q
  exact array_s (m:=n+7) R i0' W q
 refine Eq.symm (decide_eq_false c3)▸?_
 refine Wm (cW R.w W (rfl) ?_)
 rcases aZ ws [33] with ⟨r',rfl⟩|c4
 ·rw [Hi] at q
  refine Wm (fF R.w (by decide) W fun H' z' W' ev=>?_)
  exact q H' _ rfl ⟨_,rfl⟩ W' ev
 refine Eq.symm (decide_eq_false c4)▸?_
 refine Wm (cW R.w W (rfl) ?_)
 rcases aZ ws [95] with ⟨r',rfl⟩|c5
 ·rw [Hj] at q
  refine Wm (fF R.w (by decide) W fun H' z' W' ev=>?_)
  exact q H' _ rfl ⟨_,rfl⟩ W' ev
 refine Eq.symm (decide_eq_false c5)▸?_
 walk_at "mu"
 replace q:=(Cr n ws c1 c2 c3 c4 c5)▸q
 refine xB (M:=n+5) R G (fun W q=>i0 W q) len W ?_
 cases e:spath (ty n) false ws with
 | out=>rw [e] at q;exact q
 | fail=>rw [e] at q;exact q
 | ok p=>
  rw [e] at q
  intro H' t' hp ht W' ev
  exact q H' _ (by rw [←hp];rfl) ⟨_,rfl⟩ W' ev
end
section
variable {C:Cx}{H H₀:MH}{Q:QV}{E:MH→Prop}{a d r i n m f:Nat}{ts:List PV}{ws:List Wd}
theorem lH {tyf:List Wd→Rs (PV×List Wd)}{isE:Bool}(hlen:∀ ws x ws',tyf ws=.ok (x,ws')→ws'.length<ws.length) {ws:List Wd}{p:PV}{r':List Wd}(h:spath tyf isE ws=.ok (p,r')):r'.length<ws.length:=by
 unfold spath at h
 split at h
 ·cases h
 ·cases h
 ·rename_i e;cases h;exact tQ hlen _ e
noncomputable def bndC:ME:=.wmeth 3 (.var 0) [.str [43]]
noncomputable def bndB:List MS:=[.expr (.wmeth 2 (.var 0) []),.expr (.meth .append (.var 2) [.call 11 [.var 0]])]
theorem xV:jO=[.asg 1 (.idx (.wmeth 5 (.var 0) []) (.int 0)),.asg 2 (.list []),.ifs (.wmeth 3 (.var 0) [.str [58]]) [.expr (.wmeth 2 (.var 0) []),.expr (.meth .append (.var 2) [.call 11 [.var 0]]),.whl bndC bndB] [],
 .ret (.tuple [.var 1,.bi .tuple [.var 2]])]:=rfl
theorem oX (tyf:List Wd→Rs (PV×List Wd)) (k:Nat) (r:List Wd) (xs:List PV):kQ tyf (k+1) ([43]::r) xs=match spath tyf false r with
   | .out=>.out
   | .fail=>.fail
   | .ok (p,r')=>kQ tyf k r' (xs++[p]):=rfl
theorem yZ (tyf:List Wd→Rs (PV×List Wd)) (k:Nat) (ws:List Wd) (xs:List PV) (h:ws.head?≠some [43]):kQ tyf (k+1) ws xs=.ok (xs,ws):=by
 exact iB h
theorem Ji {tyf:List Wd→Rs (PV×List Wd)}{M f:Nat}(R:RP C) (hp:∀ {H ws Q E},WSt H a d r ws→Rd H a d r Q E (spath tyf false ws)→aB C (M+2) 11 [.obj a] H Q E)
  (hlen:∀ ws x ws',tyf ws=.ok (x,ws')→ws'.length<ws.length) (hf0:H₀ f=none) (fa:f≠a) (fd:f≠d) (fr:f≠r)
  {wc:LE→MH→(Bool→MH→Prop)→Prop} {wb:LE→MH→QS→Prop} (hwc:∀ m H Q,wc m H Q=mT (aB C (M+2)) C.gv E bndC m H Q) (hwb:∀ m H Q,wb m H Q=mSs (aB C (M+2)) C.gv E bndB m H Q) :
  ∀ (k:Nat) {ws:List Wd} {xs:List PV} {μ:LE} {H:MH} {Q:QS},ws.length<k→μ 0=.obj a→μ 2=.lst f→H f=some (.list xs)→(∀ y∈xs,∃ l,y=.tup l)→WSt H a d r ws→Ev d r H₀ H→xs.length+k≤14000000 →
   (kQ tyf k ws (aD xs)=.out→False)→(kQ tyf k ws (aD xs)=.fail→∀ H',Ev d r H₀ H'→E H') →
   (∀ H' xs2 ws'',H' f=some (.list xs2)→(∀ y∈xs2,∃ l,y=.tup l)→WSt H' a d r ws''→Ev d r H₀ H'→xs2.length≤15000000→kQ tyf k ws (aD xs)=.ok (aD xs2,ws'')→Q .next μ H') →
   aY wc wb k μ H Q:=by
 intro x0
 induction x0 with
 | zero=>intro ws xs μ H Q hk J J J J J J J J J J;exact absurd hk (Nat.not_lt_zero _)
 | succ k ih=>
  intro ws xs μ H Q hk m0 m2 hf htp W ev hsz ho hE hQ
  generalize hx:kQ tyf (k+1) ws (aD xs)=x at ho hE hQ
  rw [bR]
  rw [hwc]
  simp only [bndC]
  walk_at "mu"
  try (simp only [m0,m2,nuO,nuL,nuI,nuS,nuT,nuB,nuN,nuF,aF,aG];walk_at "mu")
  refine W.meth (cW R.w W (rfl) ?_)
  rcases aZ ws [43] with ⟨q,rfl⟩|hc
  ·rw [decide_eq_true (show ([43]::q:List Wd).head?=some [43] from rfl)]
   walk_at "mu"
   rw [hwb]
   simp only [bndB]
   walk_at "mu"
   try (simp only [m0,m2,nuO,nuL,nuI,nuS,nuT,nuB,nuN,nuF,aF,aG];walk_at "mu")
   refine W.meth (fF R.w (by decide) W fun H₁ z W₁ ev₁=>?_)
   have hf₁:H₁ f=some (.list xs):=ev₁.at hf fd fr
   walk_at "mu"
   try (simp only [m0,m2,nuO,nuL,nuI,nuS,nuT,nuB,nuN,nuF,aF,aG];walk_at "mu")
   refine ⟨aS hf₁,hp W₁ ?_⟩
   rw [oX] at hx
   cases e:spath tyf false q with
   | out=>rw [e] at hx;exact ho hx.symm
   | fail=>rw [e] at hx;exact fun H' ev'=>hE hx.symm H' ((ev.trans ev₁).trans ev')
   | ok p=>
    obtain ⟨x,r'⟩:=p
    have hl:=lH hlen e
    rw [e] at hx
    dsimp only at hx
    intro H₂ t' hpt htt W₂ ev₂
    have hf₂:H₂ f=some (.list xs):=ev₂.at hf₁ fd fr
    refine bF hf₂ (Nat.lt_of_le_of_lt (Nat.le_add_right _ _) (Nat.lt_of_le_of_lt hsz (Nat.le_of_ble_eq_true rfl))) ?_
    have hpl:aD xs++[x]=aD (xs++[t']):=by rw [fO];simp [aD,hpt]
    rw [hpl] at hx
    subst hx
    refine ih (ws:=r') (by simp at hk;exact Nat.lt_trans hl hk) m0 m2 (if_pos rfl) (fun y hy=>?_) (W₂.set fa fd fr) (((ev.trans ev₁).trans ev₂).new hf0) (by simp;exact Nat.le_trans (Nat.le_of_eq (Nat.add_right_comm _ _ _)) hsz) ho hE hQ
    rcases List.mem_append.mp hy with hy|hy
    ·exact htp y hy
    ·rw [List.mem_singleton.mp hy];exact htt
  ·rw [decide_eq_false hc]
   exact hQ H xs ws hf htp W ev (ar109 hsz) (hx.symm.trans (yZ tyf k ws _ hc))
theorem param_s {tyf:List Wd→Rs (PV×List Wd)}{M:Nat}(R:RP C) (G:dM C) (hp:∀ {H ws Q E},WSt H a d r ws→Rd H a d r Q E (spath tyf false ws)→aB C (M+3) 11 [.obj a] H Q E)
  (hlen:∀ ws x ws',tyf ws=.ok (x,ws')→ws'.length<ws.length) (W:WSt H a d r ws) (q:Rd H a d r Q E (param tyf ws)):aB C (M+4) 17 [.obj a] H Q E:=by
 apply R.param rfl
 refine Eq.symm (xV)▸?_
 walk_at "mu"
 have sz:=W.size
 refine W.meth (name_w (n:=M) R.w G W (fun H₁ z w r' e1 hm W₁ ev₁=>?_) (fun h=>?_))
 ·clear W G
  subst e1
  refine aE (k:=0) (Nat.le_of_ble_eq_true rfl) rfl ?_
  intro f hf
  refine X03 (W₁.new hf) fun fa fd fr=>?_
  have hf0:H f=none:=ev₁.none hf fd fr
  have W₂:=W₁.set (o:=.list []) fa fd fr
  have ev₂:=ev₁.new (o:=.list []) hf0
  have hfs:(H₁.set f (.list [])) f=some (.list []):=by unfold MH.set;rw [if_pos rfl]
  have fin:∀ {xs:List PV},(∀ y∈xs,∃ l,y=.tup l)→aO (.tup [.str w,.tup xs])=.tup [.str w,.tup (aD xs)]:=fun h=>by
   show cR (.tup [.str w,aO (.tup _)])=_
   rw [hV h];rfl
  have q:Rd H a d r Q E (ite (w∈fX) _ _):=q
  replace q:=(if_pos hm)▸q
  refine W₂.meth (cW R.w W₂ (rfl) ?_)
  clear hf ev₁ W₁ hm z
  rcases aZ r' [58] with ⟨r₂,rfl⟩|hc
  ·refine W₂.meth (fF R.w (by decide) W₂ fun H₃ z₃ W₃ ev₃=>?_)
   have hf₃:H₃ f=some (.list []):=ev₃.at hfs fd fr
   refine ⟨aS hf₃,hp W₃ ?_⟩
   have q:Rd H a d r Q E (match spath tyf false r₂ with
    | .out=>.out
    | .fail=>.fail
    | .ok (p,r'')=>match kQ tyf (r''.length+1) r'' [p] with
     | .out=>.out
     | .fail=>.fail
     | .ok (xs,s)=>.ok (.tup [.str w,.tup xs],s)):=q
   cases e:spath tyf false r₂ with
   | out=>rw [e] at q;exact q
   | fail=>rw [e] at q;exact fun H' ev'=>q H' ((ev₂.trans ev₃).trans ev')
   | ok p=>
    obtain ⟨x,r₃⟩:=p
    have hl:=lH hlen e
    replace q:=(e)▸q
    intro H₄ t' hpt htt W₄ ev₄
    have hf₄:H₄ f=some (.list []):=ev₄.at hf₃ fd fr
    walk_at "mu"
    refine bF hf₄ (Nat.le_of_ble_eq_true rfl) ?_
    have ev₀:=((ev₂.trans ev₃).trans ev₄).new (o:=.list ([]++[t'])) hf0
    have hpl:aD ([]++[t'])=[x]:=by simp [aD,hpt]
    dsimp only at q
    refine ⟨r₃.length+1,Ji (M:=M+1) R hp hlen hf0 fa fd fr (fun J J J=>rfl) (fun J J J=>rfl) (r₃.length+1) (Nat.lt_succ_self _) rfl rfl (if_pos rfl)
     (fun y hy=>by rw [List.mem_singleton.mp hy];exact htt) (W₄.set fa fd fr) ev₀ (by simp at sz ⊢;exact ar126 hl sz) (fun e2=>?_) (fun e2=>?_) ?_⟩
    ·rw [hpl] at e2;rw [e2] at q;exact q
    ·rw [hpl] at e2;rw [e2] at q;exact q
    ·intro H' xs2 ws'' hf' htp W' ev' hl' e2
     replace e2:=(hpl)▸e2
     replace q:=(e2)▸q
     walk_at "mu"
     simp only [cJ hf']
     exact ⟨iZ hl',q H' _ (fin htp) ⟨_,rfl⟩ W' ev'⟩
  ·rw [decide_eq_false hc]
   walk_at "mu"
   simp only [cJ hfs]
   refine ⟨Nat.zero_le _,?_⟩
   have q':Rd H a d r Q E (.ok (.tup [.str w,.tup []],r')):=by
    rw [iB hc] at q;exact q
   exact q' _ _ (fin (xs:=[]) (fun y hy=>by simp at hy)) ⟨_,rfl⟩ W₂ ev₂
 ·have hfail:param tyf ws=.fail:=by
   unfold param
   clear sz W hlen hp G R M
   cases ws with
   | nil=>rfl
   | cons w r'=>exact if_neg (h w r' rfl)
  replace q:=(hfail)▸q
  exact q H .refl
end
section
variable {C:Cx}{H H₀:MH}{Q:QV}{E:MH→Prop}{a d r i n m f:Nat}{ts:List PV}{ws:List Wd}
theorem Jk {tyf:List Wd→Rs (PV×List Wd)}(hlen:∀ ws x ws',tyf ws=.ok (x,ws')→ws'.length<ws.length):∀ (k:Nat) {ws:List Wd}{xs ys:List PV}{r':List Wd},kQ tyf k ws xs=.ok (ys,r')→r'.length≤ws.length:=by
 intro x0
 induction x0 with
 | zero=>intro _ _ _ _ h;cases h
 | succ k ih=>
  intro ws xs ys r' h
  rcases aZ ws [43] with ⟨q,rfl⟩|hc
  ·rw [oX] at h
   split at h
   ·cases h
   ·cases h
   ·rename_i e
    have h1:=lH hlen e
    have h2:=ih h
    simp;exact ar127 h1 h2
  ·replace h:=(yZ tyf k ws xs hc)▸h
   cases h;exact Nat.le_refl _
theorem Fs {tyf:List Wd→Rs (PV×List Wd)}(hlen:∀ ws x ws',tyf ws=.ok (x,ws')→ws'.length<ws.length) (ws:List Wd) (x:PV) (ws':List Wd) (h:param tyf ws=.ok (x,ws')):ws'.length<ws.length:=by
 unfold param at h
 split at h
 ·cases h
 ·split at h
  ·refine iU h (fun r e g=>?_) fun c h=>?_
   ·subst e
    unfold prmB at g
    split at g
    ·cases g
    ·cases g
    ·rename_i e
     split at g
     ·cases g
     ·cases g
     ·rename_i e2
      cases g
      have h1:=lH hlen e
      have h2:=Jk hlen _ e2
      simp;exact Nat.lt_succ_of_lt (Nat.lt_succ_of_lt (Nat.lt_of_le_of_lt h2 h1))
   ·cases h;simp
  ·cases h
theorem gens_s (R:RP C) (G:dM C) (n:Nat) (W:WSt H a d r ws) (q:Rd H a d r Q E (gens n ws)):aB C (n+13) 16 [.obj a] H Q E:=by
 refine R.generics (d:=n+12) rfl ?_
 refine Eq.symm (Ca)▸?_
 generalize hT:([.swap [1,2] [.list [],.list []],.whl argC (argB 17),.expr (.wmeth 6 (.var 0) []),.ret (.tuple [.bi .tuple [.var 1],.bi .tuple [.var 2]])]:List MS)=rest
 walk_at "mu"
 refine W.meth (cW R.w W rfl ?_)
 walk_at "mu"
 rcases aZ ws [60] with ⟨r',rfl⟩|hc
 ·rw [decide_eq_true (show ([60]::r':List Wd).head?=some [60] from rfl)]
  walk_at "mu"
  refine W.meth (fF R.w (by decide) W fun H₁ z W₁ ev₁=>?_)
  subst hT
  have q:Rd H a d r Q E (match eW (param (ty n)) (r'.length+1) r' [] [] with
   | .out=>.out
   | .fail=>.fail
   | .ok (a,b,r')=>.ok (.tup [a,b],r')):=q
  refine angles (M:=n+9) R (fun W q=>param_s (M:=n+8) R G (fun W q=>xB (M:=n+5) R G (fun W q=>uQ R G n W q) (iH n) W q) (iH n) W q) (Fs (iH n)) (by simp [cE]) W₁ ?_
  cases e:eW (param (ty n)) (r'.length+1) r' [] [] with
  | out=>rw [e] at q;exact q
  | fail=>rw [e] at q;exact fun H' ev'=>q H' (ev₁.trans ev')
  | ok p=>
   obtain ⟨x,y,r₂⟩:=p
   replace q:=(e)▸q
   intro H' y' h1 h2 h3 h4 W' ev'
   refine q H' _ ?_ ⟨_,rfl⟩ W' (ev₁.trans ev')
   obtain ⟨l,rfl⟩:=h2
   show cR (.tup [aO (.tup l),aO y'])=_
   rw [h1,h3];rfl
 ·rw [decide_eq_false hc]
  walk_at "mu"
  rw [show gens n ws=.ok (.tup [.tup [],.tup []],ws) from iB hc] at q
  exact q H _ rfl ⟨_,rfl⟩ W .refl
end
section
variable {C:Cx}{H H₀:MH}{Q:QV}{E:MH→Prop}{a d r i n m f:Nat}
noncomputable def zl:List PV→List PV
 | .str k::.int _::r=>.str k::.int 0::r
 | l=>l
theorem zl_el {P:List PV→Prop}(l:List PV) (y:∀ k i r,l=.str k::.int i::r→P (.str k::.int 0::r)) (n:P l):P (zl l):=by
 rcases l with _|⟨a,_|⟨b,r⟩⟩
 ·exact n
 ·cases a<;>exact n
 ·cases a<;>first|exact n|(cases b<;>first|exact n|exact y _ _ _ rfl)
theorem pB (l:List PV):cR (.tup l)=.tup (zl l):=by
 match l with
 | []=>rfl
 | [x]=>cases x<;>rfl
 | x::y::r=>cases x<;>first|rfl|(cases y<;>rfl)
noncomputable def oC:PV→Bool
 | .none=>true
 | .bool _=>true
 | .int _=>true
 | .str _=>true
 | .tup _=>true
 | _=>false
theorem Bq {p:PV}(h:oC p=true):gR .isStr p=some (match p with | .str _=>true|_=>false)∧gR .isInt p=some (match p with | .int _=>true | .bool _=>true|_=>false) ∧
  gR .isBool p=some (match p with | .bool _=>true|_=>false)∧gR .isTuple p=some (match p with | .tup _=>true|_=>false):=by
 cases p<;>first|(cases h;done)|exact I04 rfl rfl rfl rfl
theorem qF {p:PV}{b:Bool}(h:gR .isStr p=some b):biQ .isStr [p] H Q=Q (.bool b) H:=bS h
theorem wN {p:PV}{b:Bool}(h:gR .isInt p=some b):biQ .isInt [p] H Q=Q (.bool b) H:=bS h
theorem zI {p:PV}{b:Bool}(h:gR .isBool p=some b):biQ .isBool [p] H Q=Q (.bool b) H:=bS h
theorem pA {p:PV}{b:Bool}(h:gR .isTuple p=some b):biQ .isTuple [p] H Q=Q (.bool b) H:=bS h
noncomputable def Gr (H H':MH):Prop:=∀ b,H b≠none→H' b=H b
theorem Gr.refl:Gr H H:=fun J J=>rfl
theorem Gr.trans {H' H'':MH}(x:Gr H H') (y:Gr H' H''):Gr H H'':=fun b h=>(y b (by rw [x b h];exact h)).trans (x b h)
theorem Gr.new {b:Nat}{o:dJ}(h:H b=none):Gr H (H.set b o):=fun c hc=>by
 unfold MH.set
 rw [if_neg (fun q=>hc (by rw [q];exact h))]
theorem zl_no {xs:List PV}(h:∀ k i r,xs≠.str k::.int i::r):zl (aD xs)=aD xs:=by
 match xs,h with
 | [],_=>rfl
 | [x],_=>
  show zl [aO x]=[aO x]
  cases aO x<;>rfl
 | x::y::r,h=>
  have hx:∀ p,(∃ l,aO (.tup p)=.tup l):=fun p=>⟨zl (aD p),pB _⟩
  cases x with
  | str k=>
   cases y with
   | int i=>exact absurd rfl (h k i r)
   | tup p=>obtain ⟨l,e⟩:=hx p;simp only [aD];rw [e];rfl
   | _=>rfl
  | tup p=>obtain ⟨l,e⟩:=hx p;simp only [aD];rw [e];rfl
  | _=>rfl
theorem o_addL {a b:Nat}{xs ys:List PV}(ha:H a=some (.list xs)) (hb:H b=some (.list ys)):dY .add (.lst a) (.lst b) H Q=(xs.length+ys.length≤16000000∧gF (xs++ys) H Q):=Ds ha hb
theorem wo_str {x:PV}(h:oC x=true):(∃ k,x=.str k)∨(gR .isStr x=some false∧∀ k,x≠.str k):=by
 cases x<;>first|(cases h;done)|exact .inl ⟨_,rfl⟩|exact .inr ⟨rfl,nofun⟩
theorem wo_int {y:PV}(h:oC y=true):(∃ i,y=.int i)∨(∃ b,y=.bool b)∨(gR .isInt y=some false∧∀ i,y≠.int i):=by
 cases y<;>first|(cases h;done)|exact .inl ⟨_,rfl⟩|exact .inr (.inl ⟨_,rfl⟩)|exact .inr (.inr ⟨rfl,nofun⟩)
theorem Eu (R:aT C 19 2 bN) {xs:List PV}{p:Nat}(hk:∀ x∈xs,oC x=true) (hp:H p=some (.list (aD xs))) (hl:xs.length≤15000000)
  (q:∀ b H',H' b=some (.list (zl (aD xs)))→Gr H H'→Q (.lst b) H'):aB C (n+1) 19 [.tup xs,.lst p] H Q E:=by
 apply R rfl
 simp only [bN]
 walk_at "mu"
 refine ⟨iZ hl,?_⟩
 have stop:(∀ k i r,xs≠.str k::.int i::r)→Q (.lst p) H:=fun h=>q p H (by rw [zl_no h];exact hp) .refl
 rcases xs with _|⟨x,_|⟨y,r⟩⟩
 ·exact stop nofun
 ·exact stop nofun
 ·rw [decide_eq_true (by simp;exact ar129)]
  walk_at "mu"
  refine aE (k:=0) (iZ hl) rfl ?_
  refine Or.elim (wo_str (hk x (.head _))) (fun z=>?_) fun z=>?_
  rotate_left
  ·rw [qF z.1]
   exact stop (fun k i r h=>z.2 k (List.cons.inj h).1)
  have k2:=hk y (.tail _ (.head _))
  clear hk R
  obtain ⟨k,rfl⟩:=z
  rw [qF (b:=true) rfl]
  walk_at "mu"
  refine aE (k:=1) (iZ hl) rfl ?_
  refine Or.elim (wo_int k2) (fun z=>?_) fun z=>Or.elim z (fun z=>?_) fun z=>?_
  rotate_left
  ·obtain ⟨b,rfl⟩:=z
   rw [wN (b:=true) rfl]
   walk_at "mu"
   refine aE (k:=1) (iZ hl) rfl ?_
   rw [zI (b:=true) rfl]
   exact stop nofun
  ·rw [wN z.1]
   exact stop (fun k i r h=>z.2 i (List.cons.inj (List.cons.inj h).2).1)
  clear k2 stop
  obtain ⟨i,rfl⟩:=z
  rw [wN (b:=true) rfl]
  walk_at "mu"
  refine aE (k:=1) (iZ hl) rfl ?_
  rw [zI (b:=false) rfl]
  walk_at "mu"
  have hl0:(aD (.str k::.int i::r)).length≤15000000:=by rw [dK];exact hl
  refine bX (j:=0) hp (iZ hl0) rfl rfl ?_
  intro b1 hb1
  have n1:b1≠p:=fun e=>by rw [e,hp] at hb1;cases hb1
  have hp1:(H.set b1 (.list [aO (.str k),.int 0])) p=some (.list (aD (.str k::.int i::r))):=by unfold MH.set;rw [if_neg (Ne.symm n1)];exact hp
  rw [uX hp1]
  refine And.intro (iZ hl0) (And.intro (Nat.le_of_ble_eq_true rfl) (And.intro (iZ hl0) ?_))
  intro b2 hb2
  have hs1:(H.set b1 (.list [aO (.str k),.int 0])) b1=some (.list [aO (.str k),.int 0]):=by unfold MH.set;rw [if_pos rfl]
  have n2:b2≠b1:=fun e=>by rw [e,hs1] at hb2;cases hb2
  generalize hc:bM (aD (.str k::.int i::r)) (2:Int).toNat (aD (.str k::.int i::r)).length=ys at *
  have hys:ys=aD r:=by rw [←hc];simp [bM,aD]
  have hA:((H.set b1 (.list [aO (.str k),.int 0])).set b2 (.list ys)) b1=some (.list [aO (.str k),.int 0]):=by
   rw [show ((H.set b1 (.list [aO (.str k),.int 0])).set b2 (.list ys)) b1=(H.set b1 (.list [aO (.str k),.int 0])) b1 from if_neg (Ne.symm n2)];exact hs1
  have hB:((H.set b1 (.list [aO (.str k),.int 0])).set b2 (.list ys)) b2=some (.list ys):=if_pos rfl
  rw [o_addL hA hB]
  have hyl:ys.length≤15000000:=by rw [hys,dK];simp at hl;exact Nat.le_trans hl (Nat.le_add_left _ _)
  refine ⟨by simp;exact ar131 hyl,?_⟩
  intro b3 hb3
  refine q b3 _ ?_ (((Gr.refl.trans (.new hb1)).trans (.new hb2)).trans (.new hb3))
  rw [show zl (aD (.str k::.int i::r))=[aO (.str k),.int 0]++ys by rw [hys];rfl]
  exact if_pos rfl
end
section
variable {C:Cx}{H H₀:MH}{Q:QV}{E:MH→Prop}{n f:Nat}
mutual
noncomputable def stp:PV→Nat
 | .tup xs=>2+aV xs
 | _=>1
noncomputable def aV:List PV→Nat
 | []=>0
 | x::r=>stp x+aV r
end
mutual
noncomputable def lC:PV→Prop
 | .tup xs=>fE xs
 | .none=>True
 | .bool _=>True
 | .int _=>True
 | .str _=>True
 | _=>False
noncomputable def fE:List PV→Prop
 | []=>True
 | x::r=>lC x∧fE r
end
end
section
variable {C:Cx}{H H₀:MH}{E:MH→Prop}{n l mk:Nat}
theorem Ae:∀ {p:PV},lC p→oC p=true
 | .none,_=>rfl
 | .bool _,_=>rfl
 | .int _,_=>rfl
 | .str _,_=>rfl
 | .tup _,_=>rfl
theorem Ez:∀ {xs:List PV},fE xs→∀ x∈xs,lC x:=by
 intro x0
 induction x0 with
 | nil=>
  intro J x h
  exact nomatch h
 | cons y r ih=>
  intro t x h
  simp only [fE] at t
  rcases List.mem_cons.mp h with rfl|h
  ·exact t.1
  ·exact ih t.2 x h
theorem Cv:∀ p:PV,1≤stp p
 | .tup xs=>by unfold stp;simp +arith
 | .undef | .none | .bool _ | .int _ | .str _ | .lst _ | .obj _ | .fn _ | .clst _ | .rng _=>Nat.le_refl _
theorem wY:∀ xs:List PV,xs.length≤aV xs:=by
 intro x0
 induction x0 with
 | nil=>exact Nat.le_refl _
 | cons x r ih=>have:=ih;have:=Cv x;simp only [aV,List.length_cons];exact ar132 (by assumption) this
structure PlS (H₀ H:MH) (l mk:Nat) (left made:List PV):Prop where
 hl:H l=some (.list left)
 hm:H mk=some (.list made)
 l0:H₀ l=none
 m0:H₀ mk=none
 gr:Gr H₀ H
theorem PlS.ne {left made:List PV}{x:PV}(P:PlS H₀ H l mk left made) (h:l≠mk):l≠mk:=h
theorem Gr.put {b:Nat}{o:dJ}(g:Gr H₀ H) (h:H₀ b=none):Gr H₀ (H.set b o):=fun c hc=>by
 unfold MH.set
 rw [if_neg (fun q=>hc (by rw [q];exact h))]
 exact g c hc
theorem aC {b:Nat}{o:dJ}:(H.set b o) b=some o:=if_pos rfl
theorem aL {b c:Nat}{o:dJ}(h:c≠b):(H.set b o) c=H c:=by unfold MH.set;rw [if_neg h]
noncomputable def plC:ME:=.cmp .ne (.var 1) (.list [])
noncomputable def plB:List MS:=[.asgT [3,4] (.meth .pop (.var 1) []),
  .ifs (.not (.bi .isTuple [.var 3])) [.expr (.meth .append (.var 2) [.var 3])] [.ifs (.not (.var 4)) [.expr (.meth .append (.var 1) [.tuple [.var 3,.bool true]]),
  .expr (.meth .extend (.var 1) [.comp (.tuple [.var 7,.bool false]) 7 [] (.rev (.var 3)) []])] [.asg 5 (.bin .sub (.bi .len [.var 2]) (.bi .len [.var 3])),
  .asg 6 (.slc (.var 2) (.var 5) .none),
  .asg 2 (.slc (.var 2) .none (.var 5)),
  .expr (.meth .append (.var 2) [.bi .tuple [.call 19 [.var 3,.var 6]]])]]]
theorem xO:nV=[.swap [1,2] [.list [.tuple [.var 0,.bool false]],.list []],.whl plC plB,.ret (.idx (.var 2) (.int 0))]:=rfl
noncomputable def kK (x:PV):PV:=.tup [x,.bool false]
theorem De {left:List PV}{m:LE}{F:FSt}{gv:Nat→PV}{P:Bool→MH→Prop}(hl:H l=some (.list left)) (h1:m 1=.lst l)
  (q:∀ H',Gr H H'→P (!decide (left=[])) H'):mT F gv E plC m H P:=by
 simp only [plC]
 walk_at "mu"
 try (simp only [h1,nuO,nuL,nuI,nuS,nuT,nuB,nuN,nuF,aF,aG];walk_at "mu")
 intro b hb
 have n1:l≠b:=fun e=>by rw [←e,hl] at hb;cases hb
 refine (vG ((aL n1).trans hl) aC).mpr ?_
 clear n1 h1 hl gv F m
 cases left with
 | nil=>exact .inr (.inl ⟨fun x h=>(nomatch h),fun x h=>(nomatch h),q _ (.new hb)⟩)
 | cons x r=>exact .inl ⟨by simp,q _ (.new hb)⟩
theorem pop_l {xs:List PV}{v:PV}{f:Nat}{Q:QV}(hf:H f=some (.list (xs++[v]))) (hl:xs.length<16000000) (q:Q v (H.set f (.list xs))):jW .pop (.lst f) [] H Q:=by
 exact pop_q (v:=v) hf (by simp) ⟨by simp;exact Nat.le_of_lt_succ hl,by rw [List.dropLast_concat];exact q⟩
theorem vB {xs:List PV}{f:Nat}(hf:H f=some (.list xs)):fQ .pop (.lst f) H:=by
 exact pre_p hf
theorem Aq {xs:List PV}{f:Nat}(hf:H f=some (.list xs)):fQ .extend (.lst f) H:=by
 exact pre_e hf
theorem Cg {m:LE}{Q:List PV→MH→Prop}:∀ {xs acc:List PV},(∀ x∈xs,x≠.undef)→acc.length+xs.length≤16000000→Q (acc++xs.map kK) H →
  fB 7 (fun m H Q=>Q true H) (fun m H Q=>nu (m 7) (Q (.tup [m 7,.bool false]) H)) (fun J=>True) m xs H acc Q:=by
 intro x0
 induction x0 with
 | nil=>
  intro acc J J q
  rw [lO];simpa using q
 | cons x r ih=>
  intro acc hu hl q
  rw [lN]
  simp only [aJ,if_true,true_and]
  simp only [List.length_cons] at hl
  refine (cI.mpr ⟨hu x (.head _),(Nat.lt_of_le_of_lt (Nat.le_add_right _ _) hl),ih (fun y h=>hu y (.tail _ h)) (by simp;exact Nat.le_trans (Nat.le_of_eq (Nat.add_right_comm _ _ _)) hl) ?_⟩)
  have:acc++[PV.tup [x,.bool false]]++r.map kK=acc++(x::r).map kK:=by simp [kK]
  rw [this];exact q
theorem qA {left made:List PV}{t:PV}{m:LE}{F:FSt}{gv:Nat→PV}{Q:QS}(hne:l≠mk) (h1:m 1=.lst l) (h2:m 2=.lst mk) (hk:oC t=true) (hnt:∀ xs,t≠.tup xs) (P:PlS H₀ H l mk (left++[kK t]) made)
  (hsz:left.length+made.length≤15000000) (q:∀ m' H',m' 1=.lst l→m' 2=.lst mk→PlS H₀ H' l mk left (made++[t])→Q .next m' H'):mSs F gv E plB m H Q:=by
 have k1:=(Bq hk).2.2.2
 have hu:t≠.undef:=fun e=>by rw [e] at hk;cases hk
 have kf:gR .isTuple t=some false:=by
  rw [k1];cases t<;>first|rfl|exact absurd rfl (hnt _)
 simp only [plB]
 walk_at "mu"
 try (simp only [h1,h2,nuO,nuL,nuI,nuS,nuT,nuB,nuN,nuF,aF,aG];walk_at "mu")
 refine ⟨vB P.hl,pop_l P.hl (Nat.lt_of_le_of_lt (Nat.le_add_right _ _) (Nat.lt_of_le_of_lt hsz (Nat.le_of_ble_eq_true rfl))) ?_⟩
 simp only [kK]
 walk_at "mu"
 simp only [List.length_cons,List.length_nil,Nat.reduceAdd,Nat.reduceLeDiff,if_true]
 walk_at "mu"
 rw [pA kf]
 refine (cI.mpr ⟨hu,?_⟩)
 walk_at "mu"
 try (simp only [h1,h2,nuO,nuL,nuI,nuS,nuT,nuB,nuN,nuF,aF,aG];walk_at "mu")
 have hm':(H.set l (.list left)) mk=some (.list made):=(aL (Ne.symm hne)).trans P.hm
 refine ⟨aS hm',cI.mpr ⟨hu,bF hm' (Nat.lt_of_le_of_lt (Nat.le_add_left _ _) (Nat.lt_of_le_of_lt hsz (Nat.le_of_ble_eq_true rfl))) (q _ _ h1 h2 ?_)⟩⟩
 refine ⟨by rw [aL hne];exact aC,aC,P.l0,P.m0,(P.gr.put P.l0).put P.m0⟩
theorem pl_open {left made xs:List PV}{m:LE}{F:FSt}{gv:Nat→PV}{Q:QS}(hne:l≠mk) (h1:m 1=.lst l) (h2:m 2=.lst mk) (hk:∀ x∈xs,oC x=true) (P:PlS H₀ H l mk (left++[kK (.tup xs)]) made)
  (hsz:left.length+made.length+xs.length≤15000000) (q:∀ m' H',m' 1=.lst l→m' 2=.lst mk→PlS H₀ H' l mk (left++[.tup [.tup xs,.bool true]]++xs.reverse.map kK) made→Q .next m' H'):mSs F gv E plB m H Q:=by
 simp only [plB]
 walk_at "mu"
 try (simp only [h1,nuO,nuL,nuI,nuS,nuT,nuB,nuN,nuF,aF,aG];walk_at "mu")
 refine ⟨vB P.hl,pop_l P.hl (ar138 hsz) ?_⟩
 simp only [kK]
 walk_at "mu"
 simp only [List.length_cons,List.length_nil,Nat.reduceAdd,Nat.reduceLeDiff,if_true]
 walk_at "mu"
 rw [pA (p:=.tup xs) (b:=true) rfl]
 walk_at "mu"
 have e1:(H.set l (.list left)) l=some (.list left):=aC
 try (simp only [h1,nuO,nuL,nuI,nuS,nuT,nuB,nuN,nuF,aF,aG];walk_at "mu")
 refine ⟨aS e1,bF e1 (ar138 hsz) ?_⟩
 have e2:((H.set l (.list left)).set l (.list (left++[.tup [.tup xs,.bool true]]))) l=some (.list (left++[.tup [.tup xs,.bool true]])):=aC
 have hm2:((H.set l (.list left)).set l (.list (left++[.tup [.tup xs,.bool true]]))) mk=some (.list made):=((aL (Ne.symm hne)).trans (aL (Ne.symm hne))).trans P.hm
 have g2:Gr H₀ ((H.set l (.list left)).set l (.list (left++[.tup [.tup xs,.bool true]]))):=(P.gr.put P.l0).put P.l0
 generalize ((H.set l (.list left)).set l (.list (left++[.tup [.tup xs,.bool true]])))=H₂ at *
 walk_at "mu"
 try (simp only [h1,nuO,nuL,nuI,nuS,nuT,nuB,nuN,nuF,aF,aG];walk_at "mu")
 refine ⟨Aq e2,?_⟩
 refine And.intro (Nat.le_trans (Nat.le_add_left _ _) (Nat.le_trans hsz (Nat.le_of_ble_eq_true rfl))) ?_
 refine (Cg (fun x hx=>?_) (by simp;exact Nat.le_trans (Nat.le_add_left _ _) (Nat.le_trans hsz (Nat.le_of_ble_eq_true rfl))) ?_)
 ·have:=hk x (List.mem_reverse.mp hx)
  clear hx e1 hsz hk gv F
  rintro rfl;cases this
 ·intro b hb
  have n1:l≠b:=fun e=>by rw [←e,e2] at hb;cases hb
  have n2:mk≠b:=fun e=>by rw [←e,hm2] at hb;cases hb
  refine ext_q ((aL n1).trans e2) aC (I03 n1 (by simp;exact ar140 hsz) (q _ _ h1 h2 ⟨by rw [List.nil_append];exact aC,?_,P.l0,P.m0,?_⟩))
  ·exact ((aL (Ne.symm hne)).trans (aL n2)).trans hm2
  ·have hb0:H₀ b=none:=by
    cases e:H₀ b with
    | none=>rfl
    | some o=>rw [g2 b (by rw [e];exact fun x=>nomatch x),e] at hb;cases hb
   exact (g2.put hb0).put P.l0
theorem aX {b:Nat}(g:Gr H₀ H) (h:H b=none):H₀ b=none:=by
 cases e:H₀ b with
 | none=>rfl
 | some o=>rw [g b (by rw [e];exact fun x=>nomatch x),e] at h;cases h
theorem Hz {left made xs:List PV}{m:LE}{Q:QS}(R:aT C 19 2 bN) (hne:l≠mk) (h1:m 1=.lst l) (h2:m 2=.lst mk) (hk:∀ x∈xs,oC x=true) (P:PlS H₀ H l mk (left++[.tup [.tup xs,.bool true]]) (made++aD xs))
  (hsz:left.length+made.length+xs.length≤14000000) (q:∀ m' H' mk',l≠mk'→m' 1=.lst l→m' 2=.lst mk'→PlS H₀ H' l mk' left (made++[aO (.tup xs)])→Q .next m' H'):mSs (aB C (n+1)) C.gv E plB m H Q:=by
 have hpl:(aD xs).length=xs.length:=dK xs
 simp only [plB]
 walk_at "mu"
 try (simp only [h1,h2,nuO,nuL,nuI,nuS,nuT,nuB,nuN,nuF,aF,aG];walk_at "mu")
 refine ⟨vB P.hl,pop_l P.hl (ar141 hsz) ?_⟩
 walk_at "mu"
 simp only [List.length_cons,List.length_nil,Nat.reduceAdd,Nat.reduceLeDiff,if_true]
 walk_at "mu"
 rw [pA (p:=.tup xs) (b:=true) rfl]
 walk_at "mu"
 have e1:(H.set l (.list left)) l=some (.list left):=aC
 have hm1:(H.set l (.list left)) mk=some (.list (made++aD xs)):=(aL (Ne.symm hne)).trans P.hm
 have g1:Gr H₀ (H.set l (.list left)):=P.gr.put P.l0
 generalize (H.set l (.list left))=H₁ at *
 try (simp only [h1,h2,nuO,nuL,nuI,nuS,nuT,nuB,nuN,nuF,aF,aG];walk_at "mu")
 simp only [cV hm1];walk_at "m0"
 refine ⟨by simp;exact Eo hsz hpl,?_⟩
 refine ⟨(Nat.le_trans (Nat.le_add_left _ _) (Nat.le_trans hsz (Nat.le_of_ble_eq_true rfl))),?_⟩
 have hb:((made++aD xs).length:Int) - (xs.length:Int)=(made.length:Nat):=by simp;exact ar144 hpl
 simp only [hb]
 walk_at "mu"
 try (simp only [h1,h2,nuO,nuL,nuI,nuS,nuT,nuB,nuN,nuF,aF,aG];walk_at "mu")
 rw [uX hm1]
 simp only [kR,lR,Int.natCast_nonneg,if_true,Int.toNat_natCast,dP]
 refine I04 (by simp;exact Eo hsz hpl) (ar145 hsz) (by simp;exact Eo hsz hpl) (?_)
 intro b1 hb1
 have n1:l≠b1:=fun e=>by rw [←e,e1] at hb1;cases hb1
 have n2:mk≠b1:=fun e=>by rw [←e,hm1] at hb1;cases hb1
 have hm2:(H₁.set b1 (.list (bM (made++aD xs) made.length (made++aD xs).length))) mk=some (.list (made++aD xs)):=(aL n2).trans hm1
 have e2:(H₁.set b1 (.list (bM (made++aD xs) made.length (made++aD xs).length))) l=some (.list left):=(aL n1).trans e1
 have p2:(H₁.set b1 (.list (bM (made++aD xs) made.length (made++aD xs).length))) b1=some (.list (aD xs)):=by
  rw [aC];unfold bM;rw [List.take_length,List.drop_left]
 have g2:Gr H₀ (H₁.set b1 (.list (bM (made++aD xs) made.length (made++aD xs).length))):=g1.put (aX g1 hb1)
 generalize (H₁.set b1 (.list (bM (made++aD xs) made.length (made++aD xs).length)))=H₂ at *
 walk_at "mu"
 try (simp only [h1,h2,nuO,nuL,nuI,nuS,nuT,nuB,nuN,nuF,aF,aG];walk_at "mu")
 rw [uX hm2]
 simp only [kR,lR,Int.natCast_nonneg,if_true,Int.toNat_natCast,dP]
 refine I04 (by simp;exact Eo hsz hpl) (Nat.le_of_ble_eq_true rfl) (ar145 hsz) (?_)
 intro b2 hb2
 have n3:l≠b2:=fun e=>by rw [←e,e2] at hb2;cases hb2
 have n4:b1≠b2:=fun e=>by rw [←e,p2] at hb2;cases hb2
 have e3:(H₂.set b2 (.list (bM (made++aD xs) 0 made.length))) l=some (.list left):=(aL n3).trans e2
 have p3:(H₂.set b2 (.list (bM (made++aD xs) 0 made.length))) b1=some (.list (aD xs)):=(aL n4).trans p2
 have m3:(H₂.set b2 (.list (bM (made++aD xs) 0 made.length))) b2=some (.list made):=by
  rw [aC];simp [bM]
 have g3:Gr H₀ (H₂.set b2 (.list (bM (made++aD xs) 0 made.length))):=g2.put (aX g2 hb2)
 have hb20:=aX g2 hb2
 generalize (H₂.set b2 (.list (bM (made++aD xs) 0 made.length)))=H₃ at *
 walk_at "mu"
 refine ⟨aS m3,Eu R hk p3 (Nat.le_trans (Nat.le_add_left _ _) (Nat.le_trans hsz (Nat.le_of_ble_eq_true rfl))) fun b4 H₄ h4 gr4=>?_⟩
 have m4:H₄ b2=some (.list made):=(gr4 b2 (by rw [m3];exact fun x=>nomatch x)).trans m3
 have e4:H₄ l=some (.list left):=(gr4 l (by rw [e3];exact fun x=>nomatch x)).trans e3
 rw [cJ h4]
 have hz:(zl (aD xs)).length≤16000000:=by
  have:∀ ys:List PV,(zl ys).length=ys.length:=fun ys=>zl_el (P:=fun z=>z.length=ys.length) ys (fun k i r e=>by rw [e];rfl) rfl
  rw [this];exact ar147 hsz hpl
 refine ⟨hz,bF m4 (ar148 hsz) (q _ _ b2 n3 h1 rfl ?_)⟩
 refine ⟨(aL n3).trans e4,?_,P.l0,hb20,(g3.trans gr4).put hb20⟩
 rw [aC]
 show _=some (dJ.list (made++[cR (.tup (aD xs))]))
 rw [pB]
section
variable {wc:LE→MH→(Bool→MH→Prop)→Prop}{wb:LE→MH→QS→Prop}
theorem lK {left made:List PV}{x:PV}{k:Nat}{m:LE}{Q:QS}{F:FSt}{gv:Nat→PV}(hwc:∀ m H Q,wc m H Q=mT F gv E plC m H Q) (h1:m 1=.lst l) (P:PlS H₀ H l mk (left++[x]) made)
  (q:∀ H',PlS H₀ H' l mk (left++[x]) made→wb m H' (eN (aY wc wb k) Q)):aY wc wb (k+1) m H Q:=by
 rw [bR]
 rw [hwc]
 refine De P.hl h1 fun H' g=>?_
 have:decide (left++[x]=[])=false:=by simp
 refine Eq.symm (this)▸?_
 exact q H' ⟨(g l (by rw [P.hl];exact fun x=>nomatch x)).trans P.hl,(g mk (by rw [P.hm];exact fun x=>nomatch x)).trans P.hm,P.l0,P.m0,P.gr.trans g⟩
noncomputable def PlT (wc:LE→MH→(Bool→MH→Prop)→Prop) (wb:LE→MH→QS→Prop) (l:Nat) (H₀:MH) (t:PV):Prop:=∀ {k mk:Nat}{left made:List PV}{m:LE}{H:MH}{Q:QS},lC t→l≠mk→m 1=.lst l→m 2=.lst mk→PlS H₀ H l mk (left++[kK t]) made→left.length+made.length+stp t≤14000000 →
   (∀ m' H' mk',l≠mk'→m' 1=.lst l→m' 2=.lst mk'→PlS H₀ H' l mk' left (made++[aO t])→aY wc wb k m' H' Q)→aY wc wb (k+stp t) m H Q
noncomputable def PlL (wc:LE→MH→(Bool→MH→Prop)→Prop) (wb:LE→MH→QS→Prop) (l:Nat) (H₀:MH) (xs:List PV):Prop:=∀ {k mk:Nat}{left made:List PV}{m:LE}{H:MH}{Q:QS},fE xs→l≠mk→m 1=.lst l→m 2=.lst mk→PlS H₀ H l mk (left++xs.reverse.map kK) made→left.length+made.length+aV xs≤14000000 →
   (∀ m' H' mk',l≠mk'→m' 1=.lst l→m' 2=.lst mk'→PlS H₀ H' l mk' left (made++aD xs)→aY wc wb k m' H' Q)→aY wc wb (k+aV xs) m H Q
theorem pl_tree (R:aT C 19 2 bN) (hwc:∀ m H Q,wc m H Q=mT (aB C (n+1)) C.gv E plC m H Q) (hwb:∀ m H Q,wb m H Q=mSs (aB C (n+1)) C.gv E plB m H Q) (t:PV):PlT wc wb l H₀ t:=by
 refine PV.rec (motive_1:=PlT wc wb l H₀) (motive_2:=PlL wc wb l H₀) ?_ ?_ ?_ ?_ ?_ ?_ ?_ ?_ ?_ ?_ ?_ ?_ ?_ t
 case refine_6=>
  intro xs ih k mk left made m H Q ht hne h1 h2 P hsz q
  have hl:=wY xs
  simp only [stp] at hsz ⊢
  have ht:fE xs:=ht
  have hk:∀ x∈xs,oC x=true:=fun x hx=>Ae (Ez ht x hx)
  rw [show k+(2+aV xs)=(k+1+aV xs)+1 by exact ar149]
  refine lK hwc h1 P fun H₁ P₁=>?_
  rw [hwb]
  refine pl_open hne h1 h2 hk P₁ (by exact ar150 hsz hl) fun m₂ H₂ e1 e2 P₂=>?_
  try dsimp only
  refine ih ht hne e1 e2 P₂ (by simp;exact ar151 hsz) fun m₃ H₃ mk₃ ne₃ e1 e2 P₃=>?_
  refine lK hwc e1 P₃ fun H₄ P₄=>?_
  rw [hwb]
  exact Hz R ne₃ e1 e2 hk P₄ (by exact ar152 hsz hl) q
 case refine_12=>
  intro k mk left made m H Q ht hne h1 h2 P hsz q
  simp only [aV,Nat.add_zero,List.reverse_nil,List.map_nil,List.append_nil] at P ⊢
  exact q m H mk hne h1 h2 (by simpa [aD] using P)
 case refine_13=>
  intro x r i1 i2 k mk left made m H Q ht hne h1 h2 P hsz q
  have ht:lC x∧fE r:=ht
  have hl:=wY r
  simp only [aV] at hsz ⊢
  rw [show k+(stp x+aV r)=(k+aV r)+stp x by exact ar154]
  rw [List.reverse_cons,List.map_append,List.map_cons,List.map_nil,←List.append_assoc] at P
  refine i1 ht.1 hne h1 h2 P (by simp;exact Nat.le_trans (by simp +arith;exact hl) hsz) fun m₁ H₁ mk₁ ne₁ e1 e2 P₁=>?_
  refine i2 ht.2 ne₁ e1 e2 P₁ (by have:=Cv x;simp;exact ar156 hsz this) fun m₂ H₂ mk₂ ne₂ e1 e2 P₂=>?_
  exact q m₂ H₂ mk₂ ne₂ e1 e2 (by simpa [aD] using P₂)
 case refine_1=>intro k mk left made m H Q ht hne h1 h2 P hsz q;exact ht.elim
 case refine_7=>intro J k mk left made m H Q ht hne h1 h2 P hsz q;exact ht.elim
 case refine_8=>intro J k mk left made m H Q ht hne h1 h2 P hsz q;exact ht.elim
 case refine_9=>intro J k mk left made m H Q ht hne h1 h2 P hsz q;exact ht.elim
 case refine_10=>intro J J k mk left made m H Q ht hne h1 h2 P hsz q;exact ht.elim
 case refine_11=>intro J k mk left made m H Q ht hne h1 h2 P hsz q;exact ht.elim
 case refine_2=>
  intro k mk left made m H Q ht hne h1 h2 P hsz q
  exact lK hwc h1 P fun H₁ P₁=>by rw [hwb];exact qA hne h1 h2 rfl (by intro J h;cases h) P₁ (by exact Em hsz) fun m' H'=>q m' H' mk hne
 case refine_3=>
  intro J k mk left made m H Q ht hne h1 h2 P hsz q
  exact lK hwc h1 P fun H₁ P₁=>by rw [hwb];exact qA hne h1 h2 rfl (by intro J h;cases h) P₁ (by exact Em hsz) fun m' H'=>q m' H' mk hne
 case refine_4=>
  intro J k mk left made m H Q ht hne h1 h2 P hsz q
  exact lK hwc h1 P fun H₁ P₁=>by rw [hwb];exact qA hne h1 h2 rfl (by intro J h;cases h) P₁ (by exact Em hsz) fun m' H'=>q m' H' mk hne
 case refine_5=>
  intro J k mk left made m H Q ht hne h1 h2 P hsz q
  exact lK hwc h1 P fun H₁ P₁=>by rw [hwb];exact qA hne h1 h2 rfl (by intro J h;cases h) P₁ (by exact Em hsz) fun m' H'=>q m' H' mk hne
end
theorem plain_s (Rw:aT C 19 2 bN) (Rp:aT C 18 1 nV) {t:PV}{Q:QV}(ht:lC t) (hsz:stp t≤5000000) (q:∀ H',Gr H H'→Q (aO t) H'):aB C (n+2) 18 [t] H Q E:=by
 apply Rp rfl
 rw [xO]
 generalize hB:plB=B
 generalize hC:plC=cc
 walk_at "mu"
 have hu:t≠.undef:=fun e=>by rw [e] at ht;cases ht
 refine (cI.mpr ⟨hu,?_⟩)
 intro b1 hb1 b2 hb2
 have n1:b1≠b2:=fun e=>by rw [←e,aC] at hb2;cases hb2
 subst hB;subst hC
 have hb20:H b2=none:=by rwa [aL (Ne.symm n1)] at hb2
 refine ⟨1+stp t,pl_tree (H₀:=H) (l:=b1) (mk:=b2) (left:=[]) (made:=[]) Rw (fun J J J=>rfl) (fun J J J=>rfl) t ht n1 rfl rfl ⟨(aL n1).trans aC,aC,hb1,hb20,(Gr.refl.put hb1).put hb20⟩ (by simp;exact Nat.le_trans hsz (Nat.le_add_left _ _)) fun m' H' mk' ne' e1 e2 P'=>?_⟩
 rw [bR]
 refine De P'.hl e1 fun H₁ g=>?_
 rw [decide_eq_true rfl]
 walk_at "mu"
 refine Eq.symm (e2)▸?_
 exact (cI.mpr ⟨fun h=>(nomatch h),bX (j:=0) (xs:=[aO t]) ((g mk' (by rw [P'.hm];exact fun x=>nomatch x)).trans P'.hm) (Nat.le_of_ble_eq_true rfl) rfl rfl (q _ (P'.gr.trans g))⟩)
end
structure RL (C:Cx):Prop where
 runEnd:aT C 20 3 oY
 remark:aT C 21 2 jM
 blank:aT C 22 2 kX
 worth:aT C 23 1 kW
 base:∀ {d:Nat} {l:List Nat} {i:Nat} {H:MH} {Q:QV} {E:MH→Prop},l.length≤1000000→i≤l.length→(l.drop i).take 1≠[48]→Q (.tup [.int 10,.int i]) H→aB C (d+1) 24 [.str l,.int i] H Q E
 int:aT C 25 2 mI
 sign:aT C 26 2 kT
 word:aT C 27 2 iC
 rows:aT C 28 1 kS
 words:aT C 29 1 jN
 init:aT C 0 2 sJ
structure Tx (t:List Nat) (i:Nat) (r:List Nat):Prop where
 len:t.length≤1000000
 cut:t.drop i=r
 le:i≤t.length
section
variable {C:Cx}{H H₀:MH}{Q:QV}{E:MH→Prop}{n i k:Nat}{t r a b:List Nat}{c:Nat}
theorem Tx.rlen (T:Tx t i r):i+r.length=t.length:=by have:=congrArg List.length T.cut;simp at this;have:=T.le;exact ar158 (by assumption) this
theorem Tx.adv (T:Tx t i (a++r)):Tx t (i+a.length) r:=⟨T.len,by rw [←List.drop_drop,T.cut];simp,by have:=T.rlen;simp at this;exact ar159 this⟩
theorem Tx.next (T:Tx t i (c::r)):Tx t (i+1) r:=T.adv (a:=[c])
theorem Tx.idx (T:Tx t i (c::r)) {z:Int}(e:z=(i:Int)) (q:Q (.str [c]) H):fY (.str t) (.int z) H Q:=by
 subst e
 have h0:(0:Int)≤i:=by exact lB
 have:=congrArg (·[0]?) T.cut
 simp only [List.getElem?_drop,Nat.add_zero,List.getElem?_cons_zero] at this
 have hl:=T.len
 exact idx_str (j:=i) (ar1 hl) (by simp only [hU,h0,if_true,Int.toNat_natCast]) this q
theorem Tx.lt (T:Tx t i (c::r)):decide ((i:Int)<(t.length:Int))=true:=by have:=T.rlen;simp at this;simp;exact ar161 this
theorem Tx.nlt (T:Tx t i []):decide ((i:Int)<(t.length:Int))=false:=by have:=T.rlen;simp at this;simp;exact ar162 this
theorem Tx.slc (T:Tx t i r) {x y:Int}{m:Nat}(ex:x=(i:Int)) (ey:y=((i+m:Nat):Int)) (hm:m≤1000000) (q:Q (.str (r.take m)) H):pR (.str t) (.int x) (.int y) H Q:=by
 subst ex;subst ey
 have hl:=T.len
 have:=T.le
 refine slc_s wA vZ (I04 (ar1 hl) (ar2 hl this) (ar164 hm hl this) (?_))
 have:bM t i (i+m)=r.take m:=by unfold bM;rw [←T.cut,List.drop_take];congr 1;exact ar165
 rw [this];exact q
theorem cX {P:Bool→Prop}(q:P (decide (c∈t))):cL H .in_ (.str [c]) (.str t) P:=q
noncomputable def Off (s r:List Nat):Prop:=∀ c,r.head?=some c→c∉s
theorem Ic {s:List Nat}(h:c∉s):Off s (c::r):=fun x e=>by cases e;exact h
noncomputable def reC:ME:=.and [.cmp .lt (.var 1) (.bi .len [.var 0]),.cmp .in_ (.idx (.var 0) (.var 1)) (.var 2)]
noncomputable def reB:List MS:=[.aug 1 .add (.int 1)]
theorem Fh:oY=[.whl reC reB,.ret (.var 1)]:=rfl
theorem Hv {F:FSt}{gv:Nat→PV}{s:List Nat}{Q:QS}{wc:LE→MH→(Bool→MH→Prop)→Prop}{wb:LE→MH→QS→Prop}(hwc:∀ m H Q,wc m H Q=mT F gv E reC m H Q) (hwb:∀ m H Q,wb m H Q=mSs F gv E reB m H Q) :
  ∀ (a:List Nat) {i:Nat} {m:LE} {H:MH},(∀ c∈a,c∈s)→Off s r→Tx t i (a++r)→m 0=.str t→m 1=.int i→m 2=.str s →
  (∀ m',m' 1=.int ((i+a.length:Nat):Int)→Q .next m' H)→aY wc wb (a.length+1) m H Q:=by
 intro x0
 induction x0 with
 | nil=>
  intro i m H ha hr T h0 h1 h2 q
  rw [bR]
  rw [hwc]
  simp only [reC]
  walk_at "mu"
  try (simp only [h0,h1,h2,nuO,nuL,nuI,nuS,nuT,nuB,nuN,nuF,aF,aG];walk_at "mu")
  have hl:=T.len
  refine ⟨ar1 hl,?_⟩
  cases r with
  | nil=>rw [T.nlt];exact q m h1
  | cons c r=>
   rw [Tx.lt (T:=T)]
   walk_at "mu"
   refine Tx.idx (T:=T) rfl (cX ?_)
   rw [decide_eq_false (hr c rfl)]
   exact q m h1
 | cons c a ih=>
  intro i m H ha hr T h0 h1 h2 q
  rw [bR]
  rw [hwc]
  simp only [reC]
  walk_at "mu"
  try (simp only [h0,h1,h2,nuO,nuL,nuI,nuS,nuT,nuB,nuN,nuF,aF,aG];walk_at "mu")
  have hl:=T.len
  refine ⟨ar1 hl,?_⟩
  have T':Tx t i (c::(a++r)):=T
  rw [T'.lt]
  walk_at "mu"
  refine T'.idx rfl (cX ?_)
  rw [decide_eq_true (ha c (.head _))]
  rw [hwb]
  simp only [reB]
  walk_at "mu"
  try (simp only [h0,h1,h2,nuO,nuL,nuI,nuS,nuT,nuB,nuN,nuF,aF,aG];walk_at "mu")
  refine ih (i:=i+1) (fun x h=>ha x (.tail _ h)) hr T'.next h0 rfl h2 fun m' e=>q m' ?_
  rw [e];congr 2;simp;exact ar166
theorem Db (R:RL C) {s:List Nat}(T:Tx t i (a++r)) (ha:∀ c∈a,c∈s) (hr:Off s r) (q:Q (.int ((i+a.length:Nat):Int)) H):aB C (n+1) 20 [.str t,.int i,.str s] H Q E:=by
 apply R.runEnd rfl
 refine Eq.symm (Fh)▸?_
 generalize hB:reB=B
 generalize hC:reC=cc
 subst hB;subst hC
 refine ⟨a.length+1,Hv (fun J J J=>rfl) (fun J J J=>rfl) a ha hr T rfl rfl rfl fun m' e=>?_⟩
 walk_at "mu"
 refine Eq.symm (e)▸?_
 exact q
noncomputable def remS:List Nat:=[47,42,32,60,32,42,47]
noncomputable def rmC:ME:=.cmp .lt (.var 1) (.bi .len [.var 0])
noncomputable def rmB:List MS:=[.ifs (.cmp .eq (.slc (.var 0) (.var 1) (.bin .add (.var 1) (.int 2))) (.str [47,42])) [.swap [3,1] [.bin .add (.var 3) (.int 1),.bin .add (.var 1) (.int 2)]] [.ifs (.cmp .eq (.slc (.var 0) (.var 1) (.bin .add (.var 1) (.int 2))) (.str [42,47])) [.swap [3,1] [.bin .sub (.var 3) (.int 1),.bin .add (.var 1) (.int 2)],
  .ifs (.cmp .eq (.var 3) (.int 0)) [.ret (.var 1)] []] [.aug 1 .add (.int 1)]]]
theorem Fk:jM=[.swap [2,3] [.var 1,.int 0],.whl rmC rmB,.dead]:=rfl
theorem Dc {F:FSt}{gv:Nat→PV}{m:LE}{P:Bool→MH→Prop}(T:Tx t i (c::r)) (h0:m 0=.str t) (h1:m 1=.int i) (q:P true H):mT F gv E rmC m H P:=by
 simp only [rmC]
 walk_at "mu"
 try (simp only [h0,h1,nuO,nuL,nuI,nuS,nuT,nuB,nuN,nuF,aF,aG];walk_at "mu")
 have hl:=T.len
 refine ⟨ar1 hl,?_⟩
 rw [T.lt];exact q
theorem uZ {F:FSt}{gv:Nat→PV}{m:LE}{Q:QS}(T:Tx t i (c::r)) (h0:m 0=.str t) (h1:m 1=.int i) (n1:(c::r).take 2≠[47,42]) (n2:(c::r).take 2≠[42,47]) (q:Q .next (m.set 1 (.int ((i+1:Nat):Int))) H):mSs F gv E rmB m H Q:=by
 simp only [rmB]
 walk_at "mu"
 try (simp only [h0,h1,nuO,nuL,nuI,nuS,nuT,nuB,nuN,nuF,aF,aG];walk_at "mu")
 refine T.slc (m:=2) rfl rfl (Nat.le_of_ble_eq_true rfl) ?_
 rw [cF,decide_eq_false n1]
 walk_at "mu"
 try (simp only [h0,h1,nuO,nuL,nuI,nuS,nuT,nuB,nuN,nuF,aF,aG];walk_at "mu")
 refine T.slc (m:=2) rfl rfl (Nat.le_of_ble_eq_true rfl) ?_
 rw [cF,decide_eq_false n2]
 walk_at "mu"
 try (simp only [h0,h1,nuO,nuL,nuI,nuS,nuT,nuB,nuN,nuF,aF,aG];walk_at "mu")
 exact q
theorem rm_in {F:FSt}{gv:Nat→PV}{m:LE}{Q:QS}{z:Int}(T:Tx t i (47::42::r)) (h0:m 0=.str t) (h1:m 1=.int i) (h3:m 3=.int z) (q:∀ m',m' 0=.str t→m' 1=.int ((i+2:Nat):Int)→m' 3=.int (z+1)→Q .next m' H):mSs F gv E rmB m H Q:=by
 simp only [rmB]
 walk_at "mu"
 try (simp only [h0,h1,h3,nuO,nuL,nuI,nuS,nuT,nuB,nuN,nuF,aF,aG];walk_at "mu")
 refine T.slc (m:=2) rfl rfl (Nat.le_of_ble_eq_true rfl) ?_
 rw [cF,decide_eq_true (show List.take 2 (47::42::r)=[47,42] from rfl)]
 walk_at "mu"
 try (simp only [h0,h1,h3,nuO,nuL,nuI,nuS,nuT,nuB,nuN,nuF,aF,aG];walk_at "mu")
 exact q _ h0 rfl rfl
theorem rm_out {F:FSt}{gv:Nat→PV}{m:LE}{Q:QS}(T:Tx t i (42::47::r)) (h0:m 0=.str t) (h1:m 1=.int i) (h3:m 3=.int 1) (q:∀ m',Q (.ret (.int ((i+2:Nat):Int))) m' H):mSs F gv E rmB m H Q:=by
 simp only [rmB]
 walk_at "mu"
 try (simp only [h0,h1,h3,nuO,nuL,nuI,nuS,nuT,nuB,nuN,nuF,aF,aG];walk_at "mu")
 refine T.slc (m:=2) rfl rfl (Nat.le_of_ble_eq_true rfl) ?_
 rw [cF,decide_eq_false (show ¬List.take 2 (42::47::r)=[47,42] by simp)]
 walk_at "mu"
 try (simp only [h0,h1,h3,nuO,nuL,nuI,nuS,nuT,nuB,nuN,nuF,aF,aG];walk_at "mu")
 refine T.slc (m:=2) rfl rfl (Nat.le_of_ble_eq_true rfl) ?_
 rw [cF,decide_eq_true (show List.take 2 (42::47::r)=[42,47] from rfl)]
 walk_at "mu"
 try (simp only [h0,h1,h3,nuO,nuL,nuI,nuS,nuT,nuB,nuN,nuF,aF,aG];walk_at "mu")
 exact q _
section
variable {F:FSt}{gv:Nat→PV}{wc:LE→MH→(Bool→MH→Prop)→Prop}{wb:LE→MH→QS→Prop}
theorem mY (hwc:∀ m H Q,wc m H Q=mT F gv E rmC m H Q) {m:LE}{Q:QS}(T:Tx t i (c::r)) (h0:m 0=.str t) (h1:m 1=.int i)
  (q:wb m H (eN (aY wc wb k) Q)):aY wc wb (k+1) m H Q:=by
 rw [bR]
 rw [hwc]
 exact Dc T h0 h1 q
theorem rm_loop (hwc:∀ m H Q,wc m H Q=mT F gv E rmC m H Q) (hwb:∀ m H Q,wb m H Q=mSs F gv E rmB m H Q) {m:LE}{Q:QS}(T:Tx t i (remS++r)) (h0:m 0=.str t) (h1:m 1=.int i) (h3:m 3=.int 0)
  (q:∀ m',Q (.ret (.int ((i+7:Nat):Int))) m' H):aY wc wb 5 m H Q:=by
 have T0:Tx t i (47::42::32::60::32::42::47::r):=T
 have T2:=T0.next.next
 refine mY hwc T0 h0 h1 ?_
 rw [hwb]
 refine rm_in T0 h0 h1 h3 fun m h0 h1 h3=>?_
 refine mY hwc T2 h0 h1 ?_
 rw [hwb]
 refine uZ T2 h0 h1 (by simp) (by simp) ?_
 refine mY hwc T2.next h0 (by simp only [aJ];rfl) ?_
 rw [hwb]
 refine uZ T2.next h0 (by simp only [aJ];rfl) (by simp) (by simp) ?_
 refine mY hwc T2.next.next h0 (by simp only [aJ];rfl) ?_
 rw [hwb]
 refine uZ T2.next.next h0 (by simp only [aJ];rfl) (by simp) (by simp) ?_
 refine mY hwc T2.next.next.next h0 (by simp only [aJ];rfl) ?_
 rw [hwb]
 exact rm_out T2.next.next.next h0 (by simp only [aJ];rfl) h3 q
end
theorem rem_s (R:RL C) (T:Tx t i (remS++r)) (q:Q (.int ((i+7:Nat):Int)) H):aB C (n+1) 21 [.str t,.int i] H Q E:=by
 apply R.remark rfl
 rw [Fk]
 generalize hB:rmB=B
 generalize hC:rmC=cc
 subst hB;subst hC
 exact ⟨5,rm_loop (fun J J J=>rfl) (fun J J J=>rfl) T rfl rfl rfl fun m'=>q⟩
noncomputable def jZ:Nat→List Nat
 | 0=>[]
 | 1=>[32]
 | 2=>[10]
 | _=>[32,47,42,32,60,32,42,47,32]
noncomputable def zT (r:List Nat):Prop:=∀ c r',r=c::r'→c∉pX∧c≠47
noncomputable def blC:ME:=.cmp .lt (.var 1) (.bi .len [.var 0])
noncomputable def blB:List MS:=[.ifs (.cmp .in_ (.idx (.var 0) (.var 1)) (.gval 7)) [.asg 1 (.call 20 [.var 0,.var 1,.gval 7])] [.ifs (.cmp .eq (.slc (.var 0) (.var 1) (.bin .add (.var 1) (.int 2))) (.str [47,47])) [.dead,
  .asg 1 (.ite (.cmp .lt (.var 2) (.int 0)) (.bi .len [.var 0]) (.var 2))] [.ifs (.cmp .eq (.slc (.var 0) (.var 1) (.bin .add (.var 1) (.int 2))) (.str [47,42])) [.asg 1 (.call 21 [.var 0,.var 1])] [.ret (.var 1)]]]]
theorem zA:kX=[.whl blC blB,.ret (.var 1)]:=rfl
section
variable {wc:LE→MH→(Bool→MH→Prop)→Prop}{wb:LE→MH→QS→Prop}
theorem wB {F:FSt}{gv:Nat→PV}(hwc:∀ m H Q,wc m H Q=mT F gv E blC m H Q) {m:LE}{Q:QS}(T:Tx t i (c::r)) (h0:m 0=.str t) (h1:m 1=.int i)
  (q:wb m H (eN (aY wc wb k) Q)):aY wc wb (k+1) m H Q:=by
 rw [bR]
 rw [hwc]
 exact Dc T h0 h1 q
theorem qE {F:FSt}{gv:Nat→PV}(hg:gv 7=.str pX) (hwc:∀ m H Q,wc m H Q=mT F gv E blC m H Q) (hwb:∀ m H Q,wb m H Q=mSs F gv E blB m H Q) {m:LE}{Q:QS}(T:Tx t i r) (hr:zT r) (h0:m 0=.str t) (h1:m 1=.int i)
  (q1:∀ m',m' 1=.int i→Q .next m' H) (q2:∀ m',Q (.ret (.int i)) m' H):aY wc wb (k+1) m H Q:=by
 cases r with
 | nil=>
  rw [bR]
  rw [hwc]
  simp only [blC]
  walk_at "mu"
  try (simp only [h0,h1,nuO,nuL,nuI,nuS,nuT,nuB,nuN,nuF,aF,aG];walk_at "mu")
  have hl:=T.len
  refine ⟨ar1 hl,?_⟩
  rw [T.nlt];exact q1 m h1
 | cons c r=>
  obtain ⟨n1,n2⟩:=hr c r rfl
  refine wB hwc T h0 h1 ?_
  rw [hwb]
  simp only [blB]
  walk_at "mu"
  simp only [h0,h1,hg]
  walk_at "mu"
  refine T.idx rfl (cX ?_)
  rw [decide_eq_false n1]
  walk_at "mu"
  try (simp only [h0,h1,hg,nuO,nuL,nuI,nuS,nuT,nuB,nuN,nuF,aF,aG];walk_at "mu")
  refine T.slc (m:=2) rfl rfl (Nat.le_of_ble_eq_true rfl) ?_
  rw [cF,decide_eq_false (by rw [List.take_succ_cons];intro h;injection h with h _;exact n2 h)]
  walk_at "mu"
  try (simp only [h0,h1,hg,nuO,nuL,nuI,nuS,nuT,nuB,nuN,nuF,aF,aG];walk_at "mu")
  refine T.slc (m:=2) rfl rfl (Nat.le_of_ble_eq_true rfl) ?_
  rw [cF,decide_eq_false (by rw [List.take_succ_cons];intro h;injection h with h _;exact n2 h)]
  walk_at "mu"
  try (simp only [h0,h1,hg,nuO,nuL,nuI,nuS,nuT,nuB,nuN,nuF,aF,aG];walk_at "mu")
  exact q2 m
theorem wC {n:Nat}(R:RL C) (hg:C.gv 7=.str pX) (hwc:∀ m H Q,wc m H Q=mT (aB C (n+1)) C.gv E blC m H Q) (hwb:∀ m H Q,wb m H Q=mSs (aB C (n+1)) C.gv E blB m H Q) {m:LE}{Q:QS}(T:Tx t i (c::r)) (hc:c∈pX) (hr:Off pX r)
  (h0:m 0=.str t) (h1:m 1=.int i) (q:∀ m',m' 0=.str t→m' 1=.int ((i+1:Nat):Int)→aY wc wb k m' H Q):aY wc wb (k+1) m H Q:=by
 refine wB hwc T h0 h1 ?_
 rw [hwb]
 simp only [blB]
 walk_at "mu"
 simp only [h0,h1,hg]
 walk_at "mu"
 refine T.idx rfl (cX ?_)
 rw [decide_eq_true hc]
 walk_at "mu"
 try (simp only [h0,h1,hg,nuO,nuL,nuI,nuS,nuT,nuB,nuN,nuF,aF,aG];walk_at "mu")
 exact Db R (a:=[c]) T (fun x h=>by cases h with|head=>exact hc|tail _ h=>cases h) hr (q _ h0 rfl)
theorem bl_rem {n:Nat}(R:RL C) (hg:C.gv 7=.str pX) (hwc:∀ m H Q,wc m H Q=mT (aB C (n+1)) C.gv E blC m H Q) (hwb:∀ m H Q,wb m H Q=mSs (aB C (n+1)) C.gv E blB m H Q) {m:LE}{Q:QS}(T:Tx t i (remS++r))
  (h0:m 0=.str t) (h1:m 1=.int i) (q:∀ m',m' 0=.str t→m' 1=.int ((i+7:Nat):Int)→aY wc wb k m' H Q):aY wc wb (k+1) m H Q:=by
 have T0:Tx t i (47::42::32::60::32::42::47::r):=T
 refine wB hwc T0 h0 h1 ?_
 rw [hwb]
 simp only [blB]
 walk_at "mu"
 simp only [h0,h1,hg]
 walk_at "mu"
 refine T0.idx rfl (cX ?_)
 rw [decide_eq_false (by decide)]
 walk_at "mu"
 try (simp only [h0,h1,hg,nuO,nuL,nuI,nuS,nuT,nuB,nuN,nuF,aF,aG];walk_at "mu")
 refine T0.slc (m:=2) rfl rfl (Nat.le_of_ble_eq_true rfl) ?_
 rw [cF,decide_eq_false (by simp)]
 walk_at "mu"
 try (simp only [h0,h1,hg,nuO,nuL,nuI,nuS,nuT,nuB,nuN,nuF,aF,aG];walk_at "mu")
 refine T0.slc (m:=2) rfl rfl (Nat.le_of_ble_eq_true rfl) ?_
 rw [cF,decide_eq_true (by rfl)]
 walk_at "mu"
 try (simp only [h0,h1,hg,nuO,nuL,nuI,nuS,nuT,nuB,nuN,nuF,aF,aG];walk_at "mu")
 exact rem_s R T (q _ h0 rfl)
theorem Et {r:List Nat}(h:zT r):Off pX r:=fun c e=>by
 cases r with
 | nil=>cases e
 | cons x r=>cases e;exact (h _ _ rfl).1
theorem bl_loop {n:Nat}(R:RL C) (hg:C.gv 7=.str pX) (hwc:∀ m H Q,wc m H Q=mT (aB C (n+1)) C.gv E blC m H Q) (hwb:∀ m H Q,wb m H Q=mSs (aB C (n+1)) C.gv E blB m H Q) {m:LE}{Q:QS}{g:Nat}(T:Tx t i (jZ g++r)) (hr:zT r)
  (h0:m 0=.str t) (h1:m 1=.int i) (q1:∀ m',m' 1=.int ((i+(jZ g).length:Nat):Int)→Q .next m' H) (q2:∀ m',Q (.ret (.int ((i+(jZ g).length:Nat):Int))) m' H):aY wc wb 4 m H Q:=by
 have ho:=Et hr
 match g,T,q1,q2 with
 | 0,T,q1,q2=>exact qE hg hwc hwb T hr h0 h1 q1 q2
 | 1,T,q1,q2=>
  refine wC R hg hwc hwb (c:=32) T (by decide) ho h0 h1 fun m' e0 e1=>?_
  exact qE hg hwc hwb T.next hr e0 e1 q1 q2
 | 2,T,q1,q2=>
  refine wC R hg hwc hwb (c:=10) T (by decide) ho h0 h1 fun m' e0 e1=>?_
  exact qE hg hwc hwb T.next hr e0 e1 q1 q2
 | _+3,T,q1,q2=>
  have T0:Tx t i (32::(remS++(32::r))):=T
  have T1:=T0.next
  have T2:=T1.adv
  refine wC R hg hwc hwb T0 (by decide) (Ic (by decide)) h0 h1 fun m' e0 e1=>?_
  refine bl_rem R hg hwc hwb T1 e0 e1 fun m' e0 e1=>?_
  refine wC R hg hwc hwb T2 (by decide) ho e0 e1 fun m' e0 e1=>?_
  exact qE hg hwc hwb T2.next hr e0 e1 q1 q2
end
theorem Dy (R:RL C) (G:dM C) {g:Nat}(T:Tx t i (jZ g++r)) (hr:zT r) (q:Q (.int ((i+(jZ g).length:Nat):Int)) H):aB C (n+2) 22 [.str t,.int i] H Q E:=by
 apply R.blank rfl
 refine Eq.symm (zA)▸?_
 generalize hB:blB=B
 generalize hC:blC=cc
 subst hB;subst hC
 refine ⟨4,bl_loop R G.g7 (fun J J J=>rfl) (fun J J J=>rfl) T hr rfl rfl (fun m' e=>?_) fun m'=>q⟩
 walk_at "mu"
 refine Eq.symm (e)▸?_
 exact q
end
section
variable {C:Cx}{H H₀:MH}{Q:QV}{E:MH→Prop}{n i k:Nat}{t r a b w:List Nat}{c:Nat}
noncomputable def wQ (r:List Nat):Prop:=∀ c,r.head?=some c→c=32∨c=10
theorem Hr:wQ []:=fun c h=>nomatch h
theorem wQ.off {s:List Nat}(h:wQ r) (h1:32∉s) (h2:10∉s):Off s r:=fun c e hc=>by
 rcases h c e with rfl|rfl
 ·exact h1 hc
 ·exact h2 hc
theorem Hn {x:List Nat}(hr:wQ r) (h1:32∉x) (h2:10∉x):((w++r).take x.length==x)=(w.take x.length==x):=by
 have key:((w++r).take x.length=x)↔(w.take x.length=x):=by
  by_cases hl:x.length≤w.length
  ·rw [List.take_append_of_le_length hl]
  ·have hw:w.take x.length=w:=List.take_of_length_le (ar167 hl)
   rw [hw]
   constructor
   ·intro h
    exfalso
    cases r with
    | nil=>
     rw [List.append_nil,hw] at h
     rw [h] at hl;exact ar168 hl
    | cons c r=>
     have hc:c∈x:=by
      have e:c∈(w++c::r).take x.length:=by
       rw [List.take_append]
       refine List.mem_append_right _ ?_
       rw [show x.length - w.length=(x.length - w.length - 1)+1 by exact (Nat.sub_add_cancel (Nat.sub_pos_of_lt (Nat.lt_of_not_le hl))).symm,List.take_succ_cons]
       exact .head _
      rw [h] at e;exact e
     rcases hr c rfl with rfl|rfl
     ·exact h1 hc
     ·exact h2 hc
   ·intro h;rw [h] at hl;exact (ar168 hl).elim
 rw [Bool.eq_iff_iff,beq_iff_eq,beq_iff_eq];exact key
theorem Cd {α:Type}{p q:α→Bool}:∀ {l:List α},(∀ x∈l,p x=q x)→l.find? p=l.find? q:=by
 intro x0
 induction x0 with
 | nil=>
  intro J
  exact rfl
 | cons x l ih=>
  intro h
  rw [List.find?_cons,List.find?_cons,h x (.head _),ih fun y hy=>h y (.tail _ hy)]
noncomputable def sgB:List MS:=[.ifs (.cmp .eq (.slc (.var 0) (.var 1) (.bin .add (.var 1) (.bi .len [.var 2]))) (.var 2)) [.ret (.tuple [.tuple [.str aQ,.var 2,.var 1,.none,.none],.bin .add (.var 1) (.bi .len [.var 2])])] []]
theorem Ak:kT=[.fors [2] false (.gval 3) sgB,.dead]:=rfl
theorem Fb {F:FSt}{gv:Nat→PV}{s:List Nat}{Q:QS}{wb:LE→MH→QS→Prop}(hwb:∀ m H Q,wb m H Q=mSs F gv nope sgB m H Q):∀ {l:List (List Nat)}{m:LE},Tx t i r→(∀ x∈l,x.length≤1000)→l.find? (fun x=>r.take x.length==x)=some s →
  m 0=.str t→m 1=.int i→(∀ m',Q (.ret (.tup [cB aQ s i .none .none,.int ((i+s.length:Nat):Int)])) m' H)→cQ (bC [2] false) wb (fun J=>True) (l.map .str) m H Q:=by
 intro x0
 induction x0 with
 | nil=>
  intro m T hl hf h0 h1 q
  exact nomatch hf
 | cons x l ih=>
  intro m T hl hf h0 h1 q
  have hx:=hl x (.head _)
  refine Eq.symm (List.map_cons)▸?_
  rw [dE]
  dsimp only [dC,dB,dP]
  rw [hwb]
  simp only [sgB]
  walk_at "mu"
  try (simp only [h0,h1,nuO,nuL,nuI,nuS,nuT,nuB,nuN,nuF,aF,aG];walk_at "mu")
  refine ⟨jR hx,T.slc (m:=x.length) rfl (by push_cast;rfl) (Nat.le_trans hx (Nat.le_add_left _ _)) ?_⟩
  replace hf:=(List.find?_cons)▸hf
  refine Eq.symm (cF)▸?_
  by_cases e:r.take x.length=x
  ·refine Eq.symm (decide_eq_true e)▸?_
   have:(r.take x.length==x)=true:=by rw [beq_iff_eq];exact e
   replace hf:=(this)▸hf
   cases hf
   walk_at "mu"
   try (simp only [h0,h1,nuO,nuL,nuI,nuS,nuT,nuB,nuN,nuF,aF,aG];walk_at "mu")
   first|exact ⟨jR hx,q _⟩|exact q _
  ·refine Eq.symm (decide_eq_false e)▸?_
   have:(r.take x.length==x)=false:=by rw [beq_eq_false_iff_ne];exact e
   replace hf:=(this)▸hf
   exact ih T (fun y hy=>hl y (.tail _ hy)) hf h0 h1 q
theorem xC:∀ x∈hJ,x.length≤1000:=by decide +kernel
theorem pF:∀ x∈hJ,32∉x∧10∉x:=by decide +kernel
theorem Al (R:RL C) (G:dM C) {s:List Nat}(T:Tx t i r) (hf:hJ.find? (fun x=>r.take x.length==x)=some s) (q:Q (.tup [cB aQ s i .none .none,.int ((i+s.length:Nat):Int)]) H):aB C (n+1) 26 [.str t,.int i] H Q E:=by
 apply R.sign rfl
 refine Eq.symm (Ak)▸?_
 generalize hB:sgB=B
 walk_at "mu"
 subst hB
 refine Eq.symm (G.g3)▸?_
 exact Fb (fun J J J=>rfl) T xC hf rfl rfl fun m'=>q
theorem uL (R:RL C) (hc:c=51∨c=32∨c=10) (q:Q (.int (if c=51 then 3 else 99)) H):aB C (n+1) 23 [.str [c]] H Q E:=by
 apply R.worth rfl
 refine I06 trivial trivial hc rfl hc (?_)
 rcases hc with rfl|rfl|rfl<;>exact q
noncomputable def inC:ME:=.and [.cmp .lt (.var 3) (.bi .len [.var 0]),.or [.cmp .eq (.idx (.var 0) (.var 3)) (.str [95]),.cmp .lt (.call 23 [.idx (.var 0) (.var 3)]) (.var 2)]]
noncomputable def inB:List MS:=[.ifs (.cmp .ne (.idx (.var 0) (.var 3)) (.str [95])) [.swap [4,5] [.bin .add (.bin .mul (.var 4) (.var 2)) (.call 23 [.idx (.var 0) (.var 3)]),.bin .add (.var 5) (.int 1)]] [],.aug 3 .add (.int 1)]
noncomputable def inT:List MS:=[.ifs (.cmp .eq (.var 5) (.int 0)) [.dead] [],
  .ifs (.cmp .gt (.var 5) (.gval 8)) [.dead] [],
  .asg 6 (.call 20 [.var 0,.var 3,.gval 6]),
  .asg 7 (.slc (.var 0) (.var 3) (.var 6)),
  .ifs (.and [.cmp .ne (.var 7) (.str []),.cmp .nin (.var 7) (.gval 1)]) [.dead] [],
  .ret (.tuple [.tuple [.str [105,110,116],.slc (.var 0) (.var 1) (.var 6),.var 1,.var 4,.ite (.cmp .eq (.var 7) (.str [])) (.none) (.var 7)],.var 6])]
theorem Ge:mI=.asgT [2,3] (.call 24 [.var 0,.var 1])::.swap [4,5] [.int 0,.int 0]::.whl inC inB::inT:=rfl
theorem int_s (R:RL C) (G:dM C) (T:Tx t i (51::r)) (hr:wQ r) (q:Q (.tup [pQ [51] i,.int ((i+1:Nat):Int)]) H):aB C (n+2) 25 [.str t,.int i] H Q E:=by
 have hl:=T.len
 apply R.int rfl
 refine Eq.symm (Ge)▸?_
 generalize hB:inB=B
 generalize hC:inC=cc
 generalize hT:inT=tt
 refine R.base hl T.le (by rw [T.cut];simp) ?_
 subst hB;subst hC
 have T1:=T.next
 refine ⟨2,?_⟩
 rw [bR]
 simp only [inC]
 walk_at "mu"
 refine ⟨ar1 hl,?_⟩
 refine Eq.symm (T.lt)▸?_
 walk_at "mu"
 refine T.idx rfl ?_
 rw [cF,decide_eq_false (by decide)]
 walk_at "mu"
 refine T.idx rfl (uL R (.inl rfl) ?_)
 walk_at "mu"
 rw [decide_eq_true (by decide)]
 simp only [inB]
 walk_at "mu"
 refine T.idx rfl ?_
 rw [nA,decide_eq_false (by decide)]
 walk_at "mu"
 refine ⟨by decide,T.idx rfl (uL R (.inl rfl) ?_)⟩
 walk_at "mu"
 have hnext:((i:Int)+1)=((i+1:Nat):Int):=by exact uF
 simp only [hnext]
 have tail:mSs (aB C (n+1)) C.gv E tt ((((((((cE [.str t,.int i]).set 2 (.int 10)).set 3 (.int i)).set 4 (.int 0)).set 5 (.int 0)).set 4 (.int (0*10+3))).set 5 (.int (0+1))).set 3 (.int ((i+1:Nat):Int))) H (iR Q):=by
  subst hT
  simp only [inT]
  walk_at "mu"
  rw [decide_eq_false (by decide)]
  walk_at "mu"
  rw [G.g8]
  walk_at "mu"
  rw [decide_eq_false (by decide)]
  walk_at "mu"
  refine Eq.symm (G.g6)▸?_
  refine Db R (a:=[]) T1 (fun x h=>nomatch h) (hr.off (by decide) (by decide)) ?_
  walk_at "mu"
  refine T1.slc (m:=0) rfl rfl (Nat.le_of_ble_eq_true rfl) ?_
  walk_at "mu"
  rw [List.take_zero,decide_eq_true rfl]
  walk_at "mu"
  refine T.slc (m:=1) rfl rfl (Nat.le_of_ble_eq_true rfl) ?_
  exact q
 rw [bR]
 walk_at "mu"
 refine ⟨ar1 hl,?_⟩
 clear hnext hT hl q T G int_s
 cases r with
 | nil=>
  refine Eq.symm (T1.nlt)▸?_
  exact tail
 | cons c r=>
  rw [T1.lt]
  have hc:=hr c rfl
  walk_at "mu"
  refine T1.idx rfl ?_
  rw [cF,decide_eq_false (by rcases hc with rfl|rfl<;>decide)]
  walk_at "mu"
  refine T1.idx rfl (uL R (.inr hc) ?_)
  walk_at "mu"
  rw [if_neg (by rcases hc with rfl|rfl<;>decide),decide_eq_false (by decide)]
  exact tail
end
section
variable {C:Cx}{H H₀:MH}{Q:QV}{E:MH→Prop}{n i k:Nat}{t r a b w:List Nat}{c:Nat}
theorem voc_nm:∀ w∈bO,bJ w=bK→w=w.headD 0::w.tail∧w.headD 0∈begS∧(∀ c∈w,c∈nsgS):=by decide +kernel
theorem voc_rg:∀ w∈bO,bJ w=regS→w=39::(w.tail.headD 0::w.tail.tail)∧w.tail.headD 0∉figS∧(∀ c∈w.tail,c∈nsgS):=by decide +kernel
theorem voc_in:∀ w∈bO,bJ w=intS→w=[51]:=by decide +kernel
theorem voc_sg:∀ w∈bO,bJ w=aQ→w=w.headD 0::w.tail∧w.headD 0∉begS∧w.headD 0∉figS∧w.headD 0≠39∧hJ.find? (fun x=>w.take x.length==x)=some w:=by decide +kernel
theorem Gy:∀ w∈bO,bJ w=bK∨bJ w=regS∨bJ w=intS∨bJ w=aQ:=by decide +kernel
theorem zY:∀ w∈bO,bJ w≠intS→w≠[51]:=by decide +kernel
theorem oF {k:List Nat}{z:Int}(h:bJ w=k) (h2:w≠[51]):pQ w z=cB k w z .none .none:=by
 unfold pQ;rw [h,if_neg h2]
noncomputable def Ends (w r:List Nat):Prop:=(bJ w=bK∨bJ w=regS→Off nsgS r)∧(bJ w=intS→wQ r)∧(bJ w=aQ→hJ.find? (fun x=>(w++r).take x.length==x)=some w)
theorem wQ.ends (hr:wQ r) (hv:w∈bO):Ends w r:=⟨fun J=>hr.off (by decide) (by decide),fun J=>hr,fun h=>by
 refine X05 (voc_sg w hv h) fun e h1 h2 h3 h4=>?_
 rw [Cd fun x hx=>Hn hr (pF x hx).1 (pF x hx).2];exact h4⟩
theorem word_s (R:RL C) (G:dM C) (hv:w∈bO) (T:Tx t i (w++r)) (hr:Ends w r) (q:Q (.tup [pQ w i,.int ((i+w.length:Nat):Int)]) H):aB C (n+3) 27 [.str t,.int i] H Q E:=by
 have hwl:=lE w hv
 apply R.word rfl
 simp only [iC]
 walk_at "mu"
 simp only [G.g5,G.g4]
 rcases Gy w hv with h|h|h|h
 ·refine X03 (voc_nm w hv h) fun e hb hs=>?_
  have T':=T
  rw [e] at T'
  refine T'.idx rfl (cX ?_)
  refine Eq.symm (decide_eq_true hb)▸?_
  walk_at "mu"
  try (simp only [G.g5,G.g4,G.g6,nuO,nuL,nuI,nuS,nuT,nuB,nuN,nuF,aF,aG];walk_at "mu")
  refine Db R (a:=w) T hs (hr.1 (.inl h)) ?_
  walk_at "mu"
  refine T.slc (m:=w.length) rfl rfl (Nat.le_trans hwl (Nat.le_add_left _ _)) ?_
  refine Eq.symm (List.take_left)▸?_
  rw [oF h (zY w hv (by rw [h];decide))] at q
  exact q
 ·obtain ⟨e,hb,hs⟩:=voc_rg w hv h
  have T':=T
  rw [e] at T'
  refine T'.idx rfl (cX ?_)
  rw [decide_eq_false (by decide)]
  walk_at "mu"
  try (simp only [G.g5,G.g4,G.g6,nuO,nuL,nuI,nuS,nuT,nuB,nuN,nuF,aF,aG];walk_at "mu")
  refine T'.idx rfl (cX ?_)
  rw [decide_eq_false (by decide)]
  walk_at "mu"
  refine T'.idx rfl ?_
  rw [cF,decide_eq_true rfl]
  have et:w.tail=w.tail.headD 0::w.tail.tail:=congrArg List.tail e
  have T1:Tx t (i+1) (w.tail++r):=by
   rw [et];exact T'.next
  have hnext:((i:Int)+1)=((i+1:Nat):Int):=by exact uF
  have hlen:w.tail.length+1=w.length:=by rw [e];rfl
  have T1':Tx t (i+1) (w.tail.headD 0::(w.tail.tail++r)):=T'.next
  walk_at "mu"
  try (simp only [G.g5,G.g4,G.g6,nuO,nuL,nuI,nuS,nuT,nuB,nuN,nuF,aF,aG];walk_at "mu")
  refine Eq.symm (hnext)▸?_
  refine Db R T1 hs (hr.1 (.inr h)) ?_
  walk_at "mu"
  try (simp only [G.g5,G.g4,G.g6,nuO,nuL,nuI,nuS,nuT,nuB,nuN,nuF,aF,aG];walk_at "mu")
  rw [decide_eq_false (by
   have:w.tail.length≠0:=by rw [e];simp
   exact ar173 this)]
  walk_at "mu"
  refine T1'.idx rfl (cX ?_)
  refine Eq.symm (decide_eq_false hb)▸?_
  walk_at "mu"
  refine T.slc (m:=w.length) rfl (ar174 hlen) (Nat.le_trans hwl (Nat.le_add_left _ _)) ?_
  refine Eq.symm (List.take_left)▸?_
  rw [oF h (zY w hv (by rw [h];decide))] at q
  refine Eq.symm (show ((i+1+w.tail.length:Nat):Int)=((i+w.length:Nat):Int) by exact ar174 hlen)▸?_
  exact q
 ·obtain rfl:=voc_in w hv h
  refine Tx.idx T rfl (cX ?_)
  rw [decide_eq_false (by decide)]
  walk_at "mu"
  try (simp only [G.g5,G.g4,G.g6,nuO,nuL,nuI,nuS,nuT,nuB,nuN,nuF,aF,aG];walk_at "mu")
  refine Tx.idx T rfl (cX ?_)
  exact int_s R G T (hr.2.1 h) q
 ·refine X05 (voc_sg w hv h) fun e h1 h2 h3 h4=>?_
  have T':=T
  rw [e] at T'
  refine T'.idx rfl (cX ?_)
  rw [decide_eq_false h1]
  walk_at "mu"
  try (simp only [G.g5,G.g4,G.g6,nuO,nuL,nuI,nuS,nuT,nuB,nuN,nuF,aF,aG];walk_at "mu")
  refine T'.idx rfl (cX ?_)
  rw [decide_eq_false h2]
  walk_at "mu"
  refine T'.idx rfl ?_
  rw [cF,decide_eq_false (fun q=>h3 (List.cons.inj q).1)]
  refine Al R G T (s:=w) ?_ ?_
  ·exact hr.2.2 h
  ·rw [oF h (zY w hv (by rw [h];decide))] at q
   exact q
theorem find_gg (h:r.head?≠some 61):hJ.find? (fun x=>(62::62::r).take x.length==x)=some [62,62]:=by
 have:¬(List.take 1 r=[61]):=fun e=>by
  cases r with
  | nil=>cases e
  | cons c r=>rw [List.take_succ_cons] at e;injection e with e _;exact h (e▸rfl)
 have hb:(List.take 1 r==[61])=false:=by rw [beq_eq_false_iff_ne];exact this
 simp [hJ,List.find?,hb]
theorem find_aa:hJ.find? (fun x=>(38::38::r).take x.length==x)=some [38,38]:=by
 simp [hJ,List.find?]
theorem word2_s (R:RL C) (G:dM C) (hv:w=[62]∨w=[38]) (T:Tx t i (w++w++r)) (hr:r.head?≠some 61) (q:Q (.tup [cB aQ (w++w) i .none .none,.int ((i+2:Nat):Int)]) H):aB C (n+3) 27 [.str t,.int i] H Q E:=by
 apply R.word rfl
 simp only [iC]
 walk_at "mu"
 simp only [G.g5,G.g4]
 rcases hv with rfl|rfl
 ·refine Tx.idx T rfl (cX ?_)
  rw [decide_eq_false (by decide)]
  walk_at "mu"
  try (simp only [G.g5,G.g4,nuO,nuL,nuI,nuS,nuT,nuB,nuN,nuF,aF,aG];walk_at "mu")
  refine Tx.idx T rfl (cX ?_)
  rw [decide_eq_false (by decide)]
  walk_at "mu"
  refine Tx.idx T rfl ?_
  rw [cF,decide_eq_false (by decide)]
  exact Al R G T (s:=[62,62]) (find_gg hr) q
 ·refine Tx.idx T rfl (cX ?_)
  rw [decide_eq_false (by decide)]
  walk_at "mu"
  try (simp only [G.g5,G.g4,nuO,nuL,nuI,nuS,nuT,nuB,nuN,nuF,aF,aG];walk_at "mu")
  refine Tx.idx T rfl (cX ?_)
  rw [decide_eq_false (by decide)]
  walk_at "mu"
  refine Tx.idx T rfl ?_
  rw [cF,decide_eq_false (by decide)]
  exact Al R G T (s:=[38,38]) find_aa q
noncomputable def lay:List (Nat×Wd)→List Nat
 | []=>[]
 | (g,w)::r=>jZ g++(w++lay r)
noncomputable def layB:List (Nat×Wd)→List Nat
 | []=>[]
 | (_,w)::r=>w++lay r
noncomputable def sepL:List (Nat×Wd)→List Nat
 | []=>[]
 | (g,_)::_=>jZ g
theorem vQ:∀ l,lay l=sepL l++layB l
 | []=>rfl
 | (g,w)::r=>rfl
noncomputable def iG:Option Wd→List (Nat×Wd)→Prop
 | _,[]=>True
 | p,(g,w)::r=>w∈bO∧(g=0→p=none∨(p=some w∧(w=[62]∨w=[38]))∨∃ q,p=some q∧Ends q (w++lay r))∧iG (some w) r
noncomputable def TokL (ts:List PV) (ws:List Wd):Prop:=∀ z,jT (ts++[cB jK [] z .none .none]) ws
theorem TokL.one {ts:List PV}{ws:List Wd}{w:Wd}{z:Int}(hv:w∈bO) (h:TokL ts ws):TokL (pQ w z::ts) (w::ws):=fun y=>jT.one hv (h y)
theorem TokL.two {ts:List PV}{ws:List Wd}{w:Wd}{z:Int}(hv:w=[62]∨w=[38]) (h:TokL ts ws):TokL (cB aQ (w++w) z .none .none::ts) (w::w::ws):=fun y=>jT.two hv (h y)
theorem lD:∀ w∈bO,w=w.headD 0::w.tail∧w.headD 0∉pX∧w.headD 0≠47∧w.headD 0≠61:=by decide +kernel
theorem qH {p:Option Wd}{l:List (Nat×Wd)}(h:iG p l):zT (layB l):=by
 intro c r' e
 cases l with
 | nil=>cases e
 | cons x l=>
  refine hC fun hG=>?_
  obtain ⟨g,w⟩:=x
  refine X04 (lD w h.1) fun h1 h2 h3 J=>?_
  refine hG ?_;clear hG
  rw [layB,h1] at e
  injection e with e _
  subst e
  exact ⟨h2,h3⟩
theorem Hs {p:Option Wd}{g:Nat}{w:Wd}{l:List (Nat×Wd)}(hg:g≠0):wQ (lay ((g,w)::l)):=by
 intro c e
 rw [lay] at e
 match g,hg,e with
 | 1,_,e=>cases e;exact .inl rfl
 | 2,_,e=>cases e;exact .inr rfl
 | _+3,_,e=>cases e;exact .inl rfl
theorem Il {p:Option Wd}{l:List (Nat×Wd)}(h:iG p l):(lay l).head?≠some 61:=by
 cases l with
 | nil=>simp [lay]
 | cons x l=>
  obtain ⟨g,w⟩:=x
  match g,h with
  | 0,h=>
   refine X04 (lD w h.1) fun h1 h2 h3 h4=>?_
   rw [lay,h1]
   exact fun e=>h4 (by injection e)
  | 1,_=>simp [lay,jZ]
  | 2,_=>simp [lay,jZ]
  | _+3,_=>simp [lay,jZ]
noncomputable def wrC:ME:=.cmp .lt (.var 2) (.bi .len [.var 0])
noncomputable def wrB:List MS:=[.asgT [3,2] (.call 27 [.var 0,.var 2]),.expr (.meth .append (.var 1) [.var 3]),.asg 2 (.call 22 [.var 0,.var 2])]
theorem An:kS=[.asg 1 (.list []),.asg 2 (.call 22 [.var 0,.int 0]),.whl wrC wrB,.expr (.meth .append (.var 1) [.tuple [.str [101,110,100],.str [],.bi .len [.var 0],.none,.none]]),.ret (.var 1)]:=rfl
section
variable {wc:LE→MH→(Bool→MH→Prop)→Prop}{wb:LE→MH→QS→Prop}
theorem Co (R:RL C) (G:dM C) {m:LE}{Q:QS}{f:Nat}{xs:List PV}{j:Nat}{w:PV}{l:List (Nat×Wd)}{p:Option Wd}(h0:m 0=.str t) (h1:m 1=.lst f) (h2:m 2=.int i) (hf:H f=some (.list xs)) (hx:xs.length≤2000000) (hw:w≠.undef)
  (hl:iG p l) (T:Tx t j (lay l)) (hwd:∀ {Q:QV},Q (.tup [w,.int j]) H→aB C (n+3) 27 [.str t,.int i] H Q E)
  (q:∀ m',m' 0=.str t→m' 1=.lst f→m' 2=.int ((j+(sepL l).length:Nat):Int)→Q .next m' (H.set f (.list (xs++[w])))):mSs (aB C (n+3)) C.gv E wrB m H Q:=by
 simp only [wrB]
 walk_at "mu"
 try (simp only [h0,h1,h2,nuO,nuL,nuI,nuS,nuT,nuB,nuN,nuF,aF,aG];walk_at "mu")
 refine hwd ?_
 walk_at "mu"
 simp only [List.length_cons,List.length_nil,Nat.reduceAdd,Nat.reduceLeDiff,if_true]
 walk_at "mu"
 try (simp only [h0,h1,h2,nuO,nuL,nuI,nuS,nuT,nuB,nuN,nuF,aF,aG];walk_at "mu")
 refine ⟨aS hf,(cI.mpr ⟨hw,bF hf (Nat.lt_of_le_of_lt hx (Nat.le_of_ble_eq_true rfl)) ?_⟩)⟩
 rw [vQ] at T
 have:∃ g,sepL l=jZ g:=by
  cases l with
  | nil=>exact ⟨0,rfl⟩
  | cons x l=>exact ⟨x.1,rfl⟩
 obtain ⟨g,e⟩:=this
 rw [e] at T q
 walk_at "mu"
 try (simp only [h0,h1,h2,nuO,nuL,nuI,nuS,nuT,nuB,nuN,nuF,aF,aG];walk_at "mu")
 refine Dy R G T (qH hl) (q _ h0 h1 rfl)
theorem wr_loop (R:RL C) (G:dM C) (hwc:∀ m H Q,wc m H Q=mT (aB C (n+3)) C.gv E wrC m H Q) (hwb:∀ m H Q,wb m H Q=mSs (aB C (n+3)) C.gv E wrB m H Q) {f:Nat}{Q:QS}(hf0:H₀ f=none) :
  ∀ (k:Nat) {l:List (Nat×Wd)} {p:Option Wd} {i:Nat} {m:LE} {H:MH} {xs:List PV},l.length<k→iG p l→Tx t i (layB l)→m 0=.str t→m 1=.lst f→m 2=.int i→H f=some (.list xs)→Gr H₀ H→xs.length+l.length≤1000000 →
   (∀ m' H' ts,m' 0=.str t→m' 1=.lst f→H' f=some (.list (xs++ts))→TokL ts (l.map (·.2))→Gr H₀ H'→ts.length≤l.length→Q .next m' H')→aY wc wb k m H Q:=by
 intro x0
 induction x0 with
 | zero=>intro l p i m H xs hk J J J J J J J J J;exact absurd hk (Nat.not_lt_zero _)
 | succ k ih=>
  intro l p i m H xs hk hg T h0 h1 h2 hf gr hsz q
  have hl:=T.len
  rw [bR]
  rw [hwc]
  simp only [wrC]
  walk_at "mu"
  try (simp only [h0,h2,nuO,nuL,nuI,nuS,nuT,nuB,nuN,nuF,aF,aG];walk_at "mu")
  refine ⟨ar1 hl,?_⟩
  rcases l with _|⟨⟨g,w⟩,l⟩
  ·refine Eq.symm (Tx.nlt (T:=T))▸?_
   exact q m H [] h0 h1 (by rw [List.append_nil];exact hf) (fun z=>jT.fin z) gr (Nat.le_refl _)
  ·obtain ⟨hv,hz,hg'⟩:=hg
   have T':=T
   rw [layB,(lD w hv).1] at T'
   rw [Tx.lt (T:=T')]
   rw [hwb]
   have one:Ends w (lay l)→mSs (aB C (n+3)) C.gv E wrB m H (eN (aY wc wb k) Q):=fun hs=>by
    refine Co (w:=pQ w i) R G h0 h1 h2 hf (Nat.le_trans (Nat.le_add_right _ _) (Nat.le_trans hsz (Nat.le_of_ble_eq_true rfl))) (by intro h;cases h) hg' T.adv (fun hq=>word_s R G hv T hs hq) fun m' e0 e1 e2=>?_
    have T2:=T.adv
    rw [vQ] at T2
    refine ih (l:=l) (p:=some w) (by simp at hk;exact ar177 hk) hg' T2.adv e0 e1 e2 aC (gr.put hf0) (by simp at hsz ⊢;exact zP hsz) fun m' H' ts e0 e1 e2 tk gr' hts=>?_
    exact q m' H' (pQ w i::ts) e0 e1 (by rw [e2];simp) (tk.one hv) gr' (by simp;exact ar30 hts)
   rcases l with _|⟨⟨g2,w2⟩,l⟩
   ·exact one (Hr.ends hv)
   ·by_cases h02:g2=0
    ·clear T' hz hl
     subst h02
     refine X03 hg' fun hv2 hz2 hg2=>?_
     refine hC fun hG=>?_
     clear hv2 hg'
     rcases hz2 rfl with e|⟨e,hw⟩|⟨q',e,he⟩<;>(refine hG ?_;clear hG)
     ·refine hC fun hG=>?_
      cases e<;>(refine hG ?_;clear hG)
     rotate_left
     ·cases e;exact one he
     refine hC fun hG=>?_
     clear hz2
     cases e<;>(refine hG ?_;clear hG)
     have T3:Tx t i (w++w++lay l):=by rw [List.append_assoc];exact T
     have hlen:(w++w).length=2:=by rcases hw with rfl|rfl<;>rfl
     have T4:=T3.adv
     replace T4:=(hlen)▸T4
     refine Co (w:=cB aQ (w++w) i .none .none) R G h0 h1 h2 hf (Nat.le_trans (Nat.le_add_right _ _) (Nat.le_trans hsz (Nat.le_of_ble_eq_true rfl))) (by intro h;cases h) hg2 T4 (fun hq=>word2_s R G hw T3 (Il hg2) hq) fun m' e0 e1 e2=>?_
     rw [vQ] at T4
     refine ih (l:=l) (p:=some w) (by simp at hk;exact Nat.le_of_lt hk) hg2 T4.adv e0 e1 e2 aC (gr.put hf0) (by simp at hsz ⊢;exact ar181 hsz) fun m' H' ts e0 e1 e2 tk gr' hts=>?_
     exact q m' H' (cB aQ (w++w) i .none .none::ts) e0 e1 (by rw [e2];simp) (tk.two hw) gr' (by simp;exact Nat.le_succ_of_le hts)
    ·exact one ((Hs (p:=none) h02).ends hv)
end
theorem vP:∀ {p:Option Wd}{l:List (Nat×Wd)},iG p l→l.length≤(lay l).length
 | _,[],_=>Nat.le_refl _
 | p,(g,w)::r,h=>by
  have h1:=(lD w h.1).1
  have:1≤w.length:=by rw [h1];simp
  have h2:=vP h.2.2
  rw [lay];simp;exact ar182 this h2
theorem rows_s (R:RL C) (G:dM C) {l:List (Nat×Wd)}(hg:iG none l) (hl:(lay l).length≤900000) (q:∀ f H' ts,H' f=some (.list ts)→jT ts (l.map (·.2))→ts.length≤1000000→Gr H H'→H f=none→Q (.lst f) H'):aB C (n+4) 28 [.str (lay l)] H Q E:=by
 apply R.rows rfl
 refine Eq.symm (An)▸?_
 generalize hB:wrB=B
 generalize hC:wrC=cc
 intro f hf
 have T:Tx (lay l) 0 (sepL l++layB l):=⟨(Nat.le_trans hl (Nat.le_add_left _ _)),by rw [List.drop_zero];exact vQ l,Nat.zero_le _⟩
 have:∃ g,sepL l=jZ g:=by
  cases l with
  | nil=>exact ⟨0,rfl⟩
  | cons x l=>exact ⟨x.1,rfl⟩
 refine X11 this fun g e=>?_
 replace T:=(e)▸T
 refine Dy (n:=n+1) R G (i:=0) T (qH hg) ?_
 subst hB;subst hC
 have hll:=vP hg
 refine ⟨l.length+1,wr_loop R G (fun J J J=>rfl) (fun J J J=>rfl) hf (l.length+1) (Nat.lt_succ_self _) hg T.adv rfl rfl rfl aC (.new hf) (by simp;exact Nat.le_trans hll (Nat.le_trans hl (Nat.le_of_ble_eq_true rfl))) fun m' H' ts e0 e1 e2 tk gr hts=>?_⟩
 walk_at "mu"
 try (simp only [e0,e1,nuO,nuL,nuI,nuS,nuT,nuB,nuN,nuF,aF,aG];walk_at "mu")
 rw [List.nil_append] at e2
 refine I03 (aS e2) (Nat.le_trans hl (Nat.le_add_left _ _)) (bF e2 (Nat.lt_of_le_of_lt hts (Nat.lt_of_le_of_lt hll (Nat.lt_of_le_of_lt hl (Nat.le_of_ble_eq_true rfl)))) ?_)
 walk_at "mu"
 try (simp only [e0,e1,nuO,nuL,nuI,nuS,nuT,nuB,nuN,nuF,aF,aG];walk_at "mu")
 exact q f _ _ aC (tk _) (by simp;exact ar187 hl hll hts) (gr.put hf) hf
theorem words_s (R:RL C) (G:dM C) {l:List (Nat×Wd)}(hg:iG none l) (hl:(lay l).length≤900000) (q:∀ a d r H',WSt H' a d r (l.map (·.2))→Gr H H'→H d=none→H r=none→Q (.obj a) H'):aB C (n+5) 29 [.str (lay l)] H Q E:=by
 apply R.words rfl
 simp only [jN]
 walk_at "mu"
 refine rows_s R G hg hl fun f H₁ ts hf tk hts gr hf0=>?_
 intro a d ha hd hne
 refine R.init rfl ?_
 simp only [sJ]
 walk_at "mu"
 have fa:f≠a:=fun e=>by rw [e,ha] at hf;cases hf
 have fd:f≠d:=fun e=>by rw [e,hd] at hf;cases hf
 have hf1:((H₁.set d (.flds [])).set a (.inst d)) f=some (.list ts):=((aL fa).trans (aL fd)).trans hf
 have ha1:((H₁.set d (.flds [])).set a (.inst d)) a=some (.inst d):=aC
 have hd1:((H₁.set d (.flds [])).set a (.inst d)) d=some (.flds []):=(aL (Ne.symm hne)).trans aC
 have g1:Gr H ((H₁.set d (.flds [])).set a (.inst d)):=(gr.put (aX gr hd)).put (aX gr ha)
 generalize (H₁.set d (.flds [])).set a (.inst d)=H₂ at *
 rw [b_list hf1]
 refine ⟨ar1 hts,?_⟩
 intro r hr
 have ra:a≠r:=fun e=>by rw [←e,ha1] at hr;cases hr
 have rd:d≠r:=fun e=>by rw [←e,hd1] at hr;cases hr
 have ha2:(H₂.set r (.list ts)) a=some (.inst d):=(aL ra).trans ha1
 have hd2:(H₂.set r (.list ts)) d=some (.flds []):=(aL rd).trans hd1
 have hr2:(H₂.set r (.list ts)) r=some (.list ts):=aC
 have g2:Gr H (H₂.set r (.list ts)):=g1.put (aX g1 hr)
 have hr0:=aX g1 hr
 generalize H₂.set r (.list ts)=H₃ at *
 refine setA_q ha2 hd2 ⟨Nat.zero_le _,?_⟩
 simp only [mB]
 have hd3:(H₃.set d (.flds [(0,.lst r)])) d=some (.flds [(0,.lst r)]):=aC
 have ha3:(H₃.set d (.flds [(0,.lst r)])) a=some (.inst d):=(aL hne).trans ha2
 have hr3:(H₃.set d (.flds [(0,.lst r)])) r=some (.list ts):=(aL (Ne.symm rd)).trans hr2
 have g3:Gr H (H₃.set d (.flds [(0,.lst r)])):=g2.put (aX gr hd)
 generalize H₃.set d (.flds [(0,.lst r)])=H₄ at *
 walk_at "mu"
 refine setA_q ha3 hd3 ⟨by simp,?_⟩
 refine q a d r _ (I12 ts (I22 ts 0 ⟨(aL hne).trans ha3,aC,(aL (Ne.symm rd)).trans hr3,hts⟩ rfl) tk) (g3.put (aX gr hd)) (aX gr hd) hr0
end
noncomputable def opn (w:Wd):Bool:=w==[60]||w==[40]||w==[91]
noncomputable def cls (w:Wd):Bool:=w==[62]||w==[41]||w==[93]
noncomputable def mx:List Wd→Nat
 | []=>0
 | w::r=>if opn w then mx r+1 else if cls w then mx r - 1 else mx r
noncomputable def ldw (w:Wd):Bool:=fA w||w==rG
noncomputable def cC:List Wd→Nat
 | []=>0
 | w::r=>if w=[38] then cC r+1 else if ldw w then cC r else 0
theorem yJ (w:Wd) (r:List Wd):mx (w::r)=if opn w then mx r+1 else if cls w then mx r - 1 else mx r:=rfl
theorem rF (w:Wd) (r:List Wd):mx r≤mx (w::r)+1:=by
 rw [yJ];split
 ·exact ar188
 ·split<;>omega
theorem kI {w:Wd}{r:List Wd}(h1:opn w=false) (h2:cls w=false):mx (w::r)=mx r:=by
 simp only [mx,h1,h2];rfl
theorem mG {w:Wd}{r:List Wd}(h2:cls w=false):mx r≤mx (w::r):=by
 rw [yJ,h2];split
 ·exact El
 ·exact Nat.le_refl _
theorem vL {w:Wd}{r:List Wd}(h:opn w=true):mx (w::r)=mx r+1:=by simp only [mx,h,if_true]
theorem Gj:∀ {n:Nat}{x:PV},dZ n x→dZ (n+1) x:=by
 intro x0
 induction x0 with
 | zero=>
  intro x h
  cases x<;>first|trivial|exact h.elim
 | succ n ih=>
  intro x h
  cases x with
  | tup xs=>exact fun y hy=>ih (h y hy)
  | _=>first|trivial|exact h.elim
theorem dN {n m:Nat}{x:PV}(h:n≤m) (f:dZ n x):dZ m x:=by
 induction h with
 | refl=>exact f
 | step _ ih=>exact Gj ih
theorem gH {n:Nat}{xs ys:List PV}(h1:dX n xs) (h2:dX n ys):dX n (xs++ys):=fun x hx=>(List.mem_append.mp hx).elim (h1 x) (h2 x)
theorem cN {n:Nat}{x:PV}(h:dZ n x):dX n [x]:=fun y hy=>by
 rcases List.mem_singleton.mp hy with rfl;exact h
theorem aR {n:Nat}:dX n []:=fun y hy=>nomatch hy
theorem aU {n:Nat}{xs:List PV}(h:dX n xs):dZ (n+1) (.tup xs):=h
theorem dT:∀ xs ys:List PV,aV (xs++ys)=aV xs+aV ys:=by
 intro x0
 induction x0 with
 | nil=>intro ys;simp [aV]
 | cons x r ih=>intro ys;simp only [List.cons_append,aV,ih ys];exact (Nat.add_assoc _ _ _).symm
theorem gO (x:PV):aV [x]=stp x:=by simp [aV]
noncomputable def lU (xs:List PV):Prop:=∀ x∈xs,∃ l,x=PV.tup l
theorem cZ:lU []:=fun J h=>nomatch h
theorem lU.snoc {xs:List PV}{x:PV}(h:lU xs) (hx:∃ l,x=.tup l):lU (xs++[x]):=fun y hy=>by
 refine Or.elim (List.mem_append.mp hy) ?_ ?_
 ·intro h'
  exact h y h'
 ·intro h'
  rcases List.mem_singleton.mp h' with rfl;exact hx
noncomputable def Pos (L:List Wd) (B T c:Nat) (ws:List Wd):Prop:=ws <:+ L∧mx ws≤B∧c+20*ws.length≤T
theorem Pos.tail {L:List Wd}{B T c:Nat}{w:Wd}{r:List Wd}(h:Pos L B T c (w::r)) (hw:cls w=false):Pos L B T (c+20) r:=
 (I03 ((List.suffix_cons w r).trans h.1) (Nat.le_trans (mG hw) h.2.1) (by have:=h.2.2;simp at this;exact ar191 this))
theorem Pos.tailC {L:List Wd}{B T c:Nat}{w:Wd}{r:List Wd}(h:Pos L B T c (w::r)):Pos L (B+1) T (c+20) r:=
 (I03 ((List.suffix_cons w r).trans h.1) (Nat.le_trans (rF w r) (Nat.succ_le_succ h.2.1)) (by have:=h.2.2;simp at this;exact ar191 this))
theorem Pos.tailO {L:List Wd}{B T c:Nat}{w:Wd}{r:List Wd}(h:Pos L B T c (w::r)) (hw:opn w=true):Pos L (B - 1) T (c+20) r∧1≤B:=by
 have:=h.2.1
 rw [vL hw] at this
 exact ⟨(I03 ((List.suffix_cons w r).trans h.1) (Nat.le_sub_of_add_le this) (by have:=h.2.2;simp at this;exact ar191 this)),(Nat.le_trans (Nat.le_add_left _ _) this)⟩
theorem Pos.le {L:List Wd}{B T c c':Nat}{r:List Wd}(h:Pos L B T c r) (e:c'≤c):Pos L B T c' r:=I03 (h.1) (h.2.1) (by have:=h.2.2;exact Nat.le_trans (Nat.add_le_add_right e _) this)
noncomputable def Elm (d:Nat) (f:List Wd→Rs (PV×List Wd)):Prop:=∀ ws x ws',f ws=.ok (x,ws')→dZ d x∧(∃ l,x=PV.tup l)∧∀ L B T c,Pos L B T c ws→Pos L B T (c+stp x+1) ws'
theorem Elm.sub {d:Nat}{f:List Wd→Rs (PV×List Wd)}(h:Elm d f) {ws:List Wd}{x:PV}{ws':List Wd}(e:f ws=.ok (x,ws')):ws' <:+ ws∧mx ws'≤mx ws∧ws'.length<ws.length:=by
 refine X03 (h _ _ _ e) fun J J p=>?_
 refine X03 (p ws (mx ws) (20*ws.length) 0 (I03 (List.suffix_rfl) (Nat.le_refl _) (uE))) fun p1 p2 p3=>?_
 exact I03 p1 p2 (ar196 p3)
theorem aW {ws:List Wd}{x:Wd}(h:ws.head?=some x):ws=x::ws.tail:=by
 cases ws with
 | nil=>cases h
 | cons w r=>simp at h;rw [h];rfl
section
variable {d:Nat}{tyf elem:List Wd→Rs (PV×List Wd)}
set_option tactic.hygienic true in
theorem xY (hE:Elm d tyf):∀ (k:Nat) {ws:List Wd}{xs ys:List PV}{c:Bool}{r':List Wd},dX d xs→lU xs→iK tyf k ws xs=.ok (ys,c,r') →
  dX d ys∧lU ys∧(c=false→ys≠[])∧∀ L B T c0,Pos L B T (c0+aV xs) ws→Pos L (B+1) T (c0+aV ys+1) r':=by
 intro x0
 induction x0 with
 | zero=>intro ws xs ys c r' hf ht h;exact (by contradiction)
 | succ k ih=>
  intro ws xs ys c r' hf ht h
  unfold iK at h
  split at h
  ·rename_i hh
   cases h
   refine I04 hf ht (fun h=>by cases h) (fun L B T c0 P=>?_)
   rw [aW hh] at P
   exact P.tailC.le (Nat.lt_add_of_pos_right (Nat.succ_pos _))
  ·split at h
   ·cases h
   ·cases h
   ·rename_i x ws' e
    refine X03 (hE _ _ _ e) fun e1 e2 e3=>?_
    have hf':=gH hf (cN e1)
    have ht':=ht.snoc e2
    split at h
    ·rename_i hh
     refine X04 (ih hf' ht' h) fun f1 f2 f3 f4=>?_
     refine I04 f1 f2 f3 (fun L B T c0 P=>f4 L B T c0 ?_)
     have P':=e3 L B T _ P
     rw [aW hh] at P'
     exact (P'.tail (rfl)).le (by rw [dT,gO];exact ar198)
    ·split at h
     ·rename_i hh
      cases h
      refine I04 hf' ht' (fun _ h=>by simp at h) (fun L B T c0 P=>?_)
      have P':=e3 L B T _ P
      rw [aW hh] at P'
      exact P'.tailC.le (by rw [dT,gO];exact ar199)
     ·cases h
theorem kZ (hE:Elm d elem):∀ (k:Nat) {ws:List Wd}{rs ts:List PV}{x y:PV}{r':List Wd},eZ rs→dX d ts→lU ts→eW elem k ws rs ts=.ok (x,y,r') →
  ∃ rs' ts',x=.tup rs'∧y=.tup ts'∧eZ rs'∧dX d ts'∧lU ts'∧∀ L B T c0,Pos L B T (c0+aV rs+aV ts) ws→Pos L (B+1) T (c0+aV rs'+aV ts'+1) r':=by
 intro x0
 induction x0 with
 | zero=>intro ws rs ts x y r' hr hf ht h;exact (by contradiction)
 | succ k ih=>
  intro ws rs ts x y r' hr hf ht h
  have aft:∀ {ws':List Wd} {rs2 ts2:List PV},eZ rs2→dX d ts2→lU ts2→pY elem k ws' rs2 ts2=.ok (x,y,r')→(∀ L B T c0,Pos L B T (c0+aV rs+aV ts) ws→Pos L B T (c0+aV rs2+aV ts2) ws') →
    ∃ rs' ts',x=.tup rs'∧y=.tup ts'∧eZ rs'∧dX d ts'∧lU ts'∧∀ L B T c0,Pos L B T (c0+aV rs+aV ts) ws→Pos L (B+1) T (c0+aV rs'+aV ts'+1) r':=by
   intro ws' rs2 ts2 hr2 hf2 ht2 h hp
   unfold pY at h
   split at h
   ·rename_i hh
    refine X26 (ih hr2 hf2 ht2 h) fun rs' ts' a1 a2 a3 a4 a5 a6=>?_
    refine I26 rs' ts' a1 a2 a3 a4 a5 (fun L B T c0 P=>a6 L B T c0 ?_)
    have P':=hp L B T c0 P
    rw [aW hh] at P'
    exact (P'.tail (rfl)).le (Nat.le_add_right _ _)
   ·split at h
    ·rename_i hh
     cases h
     refine I26 rs2 ts2 rfl rfl hr2 hf2 ht2 (fun L B T c0 P=>?_)
     have P':=hp L B T c0 P
     rw [aW hh] at P'
     exact P'.tailC.le (Nat.lt_add_of_pos_right (Nat.succ_pos _))
    ·cases h
  rw [gM] at h
  split at h
  ·rename_i hh
   cases h
   refine I26 rs ts rfl rfl hr hf ht (fun L B T c0 P=>?_)
   rw [aW hh] at P
   exact P.tailC.le (Nat.lt_add_of_pos_right (Nat.succ_pos _))
  ·split at h
   ·rename_i hg
    split at h
    ·obtain ⟨w,r,rfl⟩:∃ w r,ws=w::r:=by cases ws with
      | nil=>cases hg
      | cons w r=>exact I21 w r rfl
     refine aft (fun y hy=>?_) hf ht h fun L B T c0 P=>?_
     ·rcases List.mem_append.mp hy with h' | h'
      ·exact hr y h'
      ·clear hy
       rcases List.mem_singleton.mp h' with rfl;exact ⟨_,rfl⟩
     ·refine (P.tail ?_).le (by rw [dT,gO];simp only [stp];exact ar202)
      unfold cls
      cases c1:(w==[62]||w==[41]||w==[93]) with
      | false=>rfl
      | true=>
       simp only [Bool.or_eq_true,beq_iff_eq] at c1
       rcases c1 with (rfl|rfl)|rfl<;>cases hg
    ·cases h
   ·split at h
    ·cases h
    ·cases h
    ·rename_i x' ws' e
     refine X03 (hE _ _ _ e) fun e1 e2 e3=>?_
     exact aft hr (gH hf (cN e1)) (ht.snoc e2) h fun L B T c0 P=>(e3 L B T _ P).le (by rw [dT,gO];exact ar203)
theorem cD {n:Nat}{l:List Nat}:dZ n (.str l):=by cases n<;>trivial
theorem gS {n:Nat}{l:Int}:dZ n (.int l):=by cases n<;>trivial
theorem Gk {n:Nat}{l:Bool}:dZ n (.bool l):=by cases n<;>trivial
theorem tW {n:Nat}:dZ n .none:=by cases n<;>trivial
theorem rY {n:Nat}{rs:List PV}(h:eZ rs):dX n rs:=fun x hx=>by
 obtain ⟨l,rfl⟩:=h x hx;exact cD
theorem aI {n:Nat}{x:PV}{xs:List PV}(h:dZ n x) (h2:dX n xs):dX n (x::xs):=fun y hy=>by
 rcases List.mem_cons.mp hy with rfl|hy
 ·exact h
 ·exact h2 y hy
theorem lI {L:List Wd}{B T c:Nat}{r:List Wd}(h:Pos L (B - 1+1) T c r) (hb:1≤B):Pos L B T c r:=by
 rwa [Nat.sub_add_cancel hb] at h
theorem xH (hE:Elm d tyf) {w:Wd}{r r':List Wd}{s:PV}(h:kA tyf w r=.ok (s,r')) :
  dZ (d+2) s∧(∃ l,s=.tup l)∧∀ L B T c,Pos L B T c r→Pos L (B+1) T (c+stp s - 7+1) r'∧7≤stp s:=by
 unfold kA at h
 split at h
 ·cases h
 ·cases h
 ·rename_i e
  refine hC fun hG=>?_
  cases h<;>(refine hG ?_;clear hG)
  obtain ⟨rs',ts',rfl,rfl,a3,a4,a5,a6⟩:=kZ hE _ (by intro x hx;cases hx) aR cZ e
  refine I03 (?_) ⟨_,rfl⟩ (fun L B T c P=>⟨(a6 L B T c (P.le (by simp [aV]))).le ?_,?_⟩)
  ·exact aU (aI cD (aI (aU (rY a3)) (aI (aU a4) aR)))
  ·exact ar204
  ·exact ar205
theorem xE (hE:Elm d tyf) {isE:Bool}{w:Wd}{r r':List Wd}{s:PV}(h:jC tyf isE w r=.ok (s,r')) :
  dZ (d+2) s∧(∃ l,s=.tup l)∧∀ L B T c,Pos L B T (c+14) r→Pos L B T (c+stp s+7) r':=by
 have plain:jC tyf isE w r=.ok (.tup [.str w,.tup [],.tup []],r)→dZ (d+2) s∧(∃ l,s=.tup l)∧∀ L B T c,Pos L B T (c+14) r→Pos L B T (c+stp s+7) r':=fun e=>by
  rw [e] at h;cases h
  refine I03 (aU (aI cD (aI (aU aR) (aI (aU aR) aR)))) ⟨_,rfl⟩ (fun L B T c P=>P.le ?_)
  exact Nat.le_refl _
 refine segT_e h (fun r'' e g=>?_) (fun r'' e J g=>?_) fun g=>plain (h.trans g.symm)
 ·clear plain h isE
  subst e
  refine X03 (xH hE (w:=w) g) fun a1 a2 a3=>?_
  refine I03 a1 a2 (fun L B T c P=>?_)
  refine X02 ((P.tail (rfl)).tailO rfl) fun P' hb=>?_
  refine X02 (a3 _ _ _ _ P') fun P2 h7=>?_
  exact (lI P2 hb).le (ar207)
 ·clear plain h
  subst e
  refine X03 (xH hE (w:=w) g) fun a1 a2 a3=>?_
  refine I03 a1 a2 (fun L B T c P=>?_)
  refine X02 (P.tailO rfl) fun P' hb=>?_
  refine X02 (a3 _ _ _ _ P') fun P2 h7=>?_
  exact (lI P2 hb).le (ar208)
theorem qY {ahead:List Wd}{w:Wd}(h:bP ahead w=true):cls w=false:=by
 unfold bP at h
 split at h
 ·rename_i hm
  have:∀ w∈dW,cls w=false:=by decide +kernel
  exact this w hm
 ·have:∀ w∈fX,cls w=false:=by decide +kernel
  exact this w (by simpa using h)
set_option tactic.hygienic true in
theorem Fr (hE:Elm d tyf) {isE:Bool}:∀ (k:Nat) {ahead ws:List Wd}{acc ys:List PV}{r':List Wd},dX (d+2) acc→lU acc→iS tyf isE k ahead ws acc=.ok (ys,r') →
  dX (d+2) ys∧lU ys∧∀ L B T c,Pos L B T (c+aV acc) ws→Pos L B T (c+aV ys+13) r':=by
 intro x0
 induction x0 with
 | zero=>intro _ _ _ _ _ _ _ h;cases h
 | succ k ih=>
  intro ahead z0
  cases z0 with
  | nil=>intro acc ys r' _ _ h;cases h
  | cons w r=>
   intro acc ys r' hf ht h
   rw [cU] at h
   split at h
   ·rename_i hn
    split at h
    ·cases h
    ·cases h
    ·rename_i s r'' e
     obtain ⟨a1,a2,a3⟩:=xE hE e
     have hf':=gH hf (cN a1)
     have ht':=ht.snoc a2
     have step:∀ L B T c,Pos L B T (c+aV acc) (w::r)→Pos L B T (c+aV (acc++[s])+13) r'':=fun L B T c P=>by
      have:=a3 L B T (c+aV acc+6) ((P.tail (qY hn)).le (Nat.le_refl _))
      exact this.le (by rw [dT,gO];exact ar210)
     unfold pth at h
     split at h
     ·rename_i hh
      obtain ⟨b1,b2,b3⟩:=ih hf' ht' h
      refine ⟨b1,b2,fun L B T c P=>b3 L B T c ?_⟩
      have P':=step L B T c P
      rw [aW hh] at P'
      exact (P'.tail rfl).le (ar211)
     ·cases h
      exact ⟨hf',ht',step⟩
   ·cases h
theorem dA (hE:Elm d tyf) {isE:Bool}{ws:List Wd}{p:PV}{r':List Wd}(h:spath tyf isE ws=.ok (p,r')) :
  dZ (d+3) p∧(∃ l,p=.tup l)∧∀ L B T c,Pos L B T c ws→Pos L B T (c+stp p+11) r':=by
 unfold spath at h
 split at h
 ·cases h
 ·cases h
 ·rename_i e
  cases h
  obtain ⟨b1,b2,b3⟩:=Fr hE _ aR cZ e
  exact ⟨aU b1,⟨_,rfl⟩,fun L B T c P=>(b3 L B T c (P.le (by simp [aV]))).le (by simp only [stp];exact ar212)⟩
theorem qW (hE:Elm d tyf) {g:PV}(hg:dZ d g∧stp g=1) {ws:List Wd}{p:PV}{r':List Wd}(h:iJ tyf g ws=.ok (p,r')) :
  dZ (d+1) p∧(∃ l,p=.tup l)∧∀ L B T c,Pos L B T (c+10) ws→Pos L B T (c+stp p+1) r':=by
 unfold iJ at h
 split at h
 ·cases h
 ·cases h
 ·rename_i e
  refine hC fun hG=>?_
  cases h<;>(refine hG ?_;clear hG)
  refine X03 (hE _ _ _ e) fun a1 a2 a3=>?_
  refine I03 (aU (aI cD (aI gS (aI hg.1 (aI Gk (aI a1 aR)))))) ⟨_,rfl⟩ (fun L B T c P=>?_)
  have:Pos L B T (c+10) (fP ws).2:=by
   rcases tS ws with ⟨r2,rfl,e⟩|e<;>rw [e]
   ·exact (P.tail (rfl)).le (Nat.le_add_right _ _)
   ·exact P
  refine (a3 L B T _ this).le ?_
  simp only [stp,aV,hg.2];exact ar214
theorem mZ {w:Wd}(h:fA w=true):cls w=false:=by
 unfold cls
 cases c1:(w==[62]||w==[41]||w==[93]) with
 | false=>rfl
 | true=>
  simp only [Bool.or_eq_true,beq_iff_eq] at c1
  rcases c1 with (rfl|rfl)|rfl<;>cases h
set_option tactic.hygienic true in
theorem Hx (hE:Elm d tyf) {ws:List Wd}{p:PV}{r':List Wd}(h:refT tyf ws=.ok (p,r')) :
  dZ (d+1) p∧(∃ l,p=.tup l)∧∀ L B T c,Pos L B T (c+10) ws→Pos L B T (c+stp p+1) r':=by
 unfold refT at h
 split at h
 ·split at h
  ·rename_i w r hr
   refine X03 (qW hE ⟨cD,rfl⟩ h) fun a1 a2 a3=>?_
   exact I03 a1 a2 (fun L B T c P=>a3 L B T c ((P.tail (mZ hr)).le (Nat.le_add_right _ _)))
  ·exact qW hE ⟨tW,rfl⟩ h
 ·exact qW hE ⟨tW,rfl⟩ h
end
set_option tactic.hygienic true in
theorem bB:∀ n:Nat,Elm n (ty n):=by
 refine qN (fun n h ws x ws' e=>nomatch (ty_lt h ws).symm.trans e) fun n i0 i2 ws x ws' h=>?_
 refine ty_e h (fun r0 e g=>?_) (fun r e g=>?_) (fun r0 e g=>?_) (fun r e g=>?_) (fun r e g=>?_) fun h=>?_
 ·clear h
  subst e
  unfold vE at g
  split at g
  ·cases g
  ·cases g
  ·rename_i xs c r' e
   cases g
   obtain ⟨a1,a2,a3,a4⟩:=xY i0 _ aR cZ e
   have pos:∀ L B T c0,Pos L B T c0 ([40]::r0)→Pos L B T (c0+aV xs+20) ws':=fun L B T c0 P=>by
    obtain ⟨P',hb⟩:=P.tailO rfl
    exact (lI (a4 _ _ _ (c0+20) (P'.le (by simp [aV]))) hb).le (ar215)
   split
   ·rename_i hc
    obtain ⟨y,rfl⟩:∃ y,xs=[y]:=List.length_eq_one_iff.mp hc.1
    refine ⟨dN (Nat.le_add_right _ _) (a1 y (.head _)),a2 y (.head _),fun L B T c0 P=>(pos L B T c0 P).le ?_⟩
    simp only [List.headD_cons,aV];exact Nat.lt_add_of_pos_right (Nat.succ_pos _)
   ·refine ⟨dN (ar218) (aU (aI cD (aI gS (aI (aU a1) aR)))),⟨_,rfl⟩,fun L B T c0 P=>(pos L B T c0 P).le ?_⟩
    simp only [stp,aV];exact ar219
 ·clear h
  subst e
  obtain ⟨a1,a2,a3⟩:=Hx i2 g
  exact ⟨dN (Nat.le_succ _) a1,a2,fun L B T c P=>a3 L B T c ((P.tail rfl).le (ar221))⟩
 ·clear h
  subst e
  unfold tC at g
  split at g
  ·cases g
  ·cases g
  ·rename_i t r' e
   obtain ⟨a1,a2,a3⟩:=i0 _ _ _ e
   split at g
   ·rename_i hr
    cases g
    refine ⟨dN (Nat.lt_add_of_pos_right (Nat.succ_pos _)) (aU (aI cD (aI gS (aI a1 (aI gS aR))))),⟨_,rfl⟩,fun L B T c P=>?_⟩
    obtain ⟨P1,hb⟩:=P.tailO rfl
    have P2:=a3 _ _ _ _ P1
    rw [take3 hr] at P2
    have P3:=((P2.tail rfl).tail rfl).tailC
    refine (lI P3 hb).le ?_
    simp only [stp,aV];exact ar223
   ·cases g
 ·subst e
  cases g
  exact ⟨dN (n:=1) (Nat.succ_pos _) (aU (aI cD (aI gS aR))),⟨_,rfl⟩,fun L B T c P=>(P.tail rfl).le (by simp only [stp,aV];exact ar225)⟩
 ·subst e
  cases g
  exact ⟨dN (n:=1) (Nat.succ_pos _) (aU (aI cD (aI gS aR))),⟨_,rfl⟩,fun L B T c P=>(P.tail rfl).le (by simp only [stp,aV];exact ar225)⟩
 ·unfold pthT at h
  split at h
  ·cases h
  ·cases h
  ·rename_i e
   cases h
   obtain ⟨a1,a2,a3⟩:=dA i0 e
   exact ⟨aU (aI cD (aI gS (aI a1 aR))),⟨_,rfl⟩,fun L B T c P=>(a3 L B T c P).le (by simp only [stp,aV];exact ar226)⟩
noncomputable def wP (A:Nat) (ws:List Wd):Prop:=∀ s,s <:+ ws→cC s≤A
theorem wP.sub {A:Nat}{ws ws':List Wd}(h:wP A ws) (s:ws' <:+ ws):wP A ws':=fun x hx=>h x (hx.trans s)
noncomputable def En (A n:Nat) (ws:List Wd):Prop:=wP A ws∧4+2*cC ws+(4+2*A)*mx ws≤n
noncomputable def Pv (A n:Nat) (ws:List Wd):Prop:=wP A ws∧(4+2*A)*mx ws≤n
noncomputable def Lv (A n:Nat) (ws:List Wd):Prop:=wP A ws∧4+2*A+(4+2*A)*mx ws≤n
variable {A n:Nat}{ws ws' r:List Wd}{w:Wd}
theorem Lv.en (h:Lv A n ws):En A n ws:=⟨h.1,by have:=h.1 ws List.suffix_rfl;have:=h.2;exact ar227 (by assumption) this⟩
theorem En.pv (h:En A (n+4) ws):Pv A n ws:=⟨h.1,by have:=h.2;exact ar228 this⟩
theorem Lv.sub (h:Lv A n ws) (s:ws' <:+ ws) (m:mx ws'≤mx ws):Lv A n ws':=⟨h.1.sub s,by have:=Nat.mul_le_mul_left (4+2*A) m;have:=h.2;exact Nat.le_trans (Nat.add_le_add_left (by assumption) _) this⟩
theorem Pv.sub (h:Pv A n ws) (s:ws' <:+ ws) (m:mx ws'≤mx ws):Pv A n ws':=⟨h.1.sub s,by have:=Nat.mul_le_mul_left (4+2*A) m;have:=h.2;exact Nat.le_trans (by assumption) this⟩
theorem Lv.tail (h:Lv A n (w::r)) (c:cls w=false):Lv A n r:=h.sub (List.suffix_cons w r) (mG c)
theorem Pv.tail (h:Pv A n (w::r)) (c:cls w=false):Pv A n r:=h.sub (List.suffix_cons w r) (mG c)
theorem Pv.opn (h:Pv A n (w::r)) (o:opn w=true):Lv A n r:=⟨h.1.sub (List.suffix_cons w r),by have:=h.2;rw [vL o,Nat.mul_add] at this;exact ar231 this⟩
section
variable {d:Nat}{tyf elem:List Wd→Rs (PV×List Wd)}
set_option tactic.hygienic true in
theorem parP_no (hE:Elm d tyf) (hno:∀ ws,Lv A n ws→tyf ws≠.out):∀ (k:Nat) {ws:List Wd}{xs:List PV},Lv A n ws→iK tyf k ws xs≠.out:=by
 intro x0
 induction x0 with
 | zero=>intro ws xs h e;exact (by contradiction)
 | succ k ih=>
  intro ws xs h e
  unfold iK at e
  split at e
  ·cases e
  ·split at e
   ·rename_i e2;exact hno _ h e2
   ·cases e
   ·rename_i x ws' e2
    refine X03 (hE.sub e2) fun s1 s2 _=>?_
    have h':=h.sub s1 s2
    split at e
    ·rename_i hh
     replace h':=(aW hh)▸h'
     exact ih (h'.tail (rfl)) e
    ·split at e<;>cases e
theorem wO (hE:Elm d elem) (hno:∀ ws,Lv A n ws→elem ws≠.out):∀ (k:Nat) {ws:List Wd}{rs ts:List PV},Lv A n ws→eW elem k ws rs ts≠.out:=by
 intro x0
 induction x0 with
 | zero=>intro ws rs ts h e;exact (by contradiction)
 | succ k ih=>
  intro ws rs ts h e
  have aft:∀ {ws':List Wd} {rs2 ts2:List PV},Lv A n ws'→pY elem k ws' rs2 ts2≠.out:=by
   intro ws' rs2 ts2 h e
   unfold pY at e
   split at e
   ·rename_i hh
    replace h:=(aW hh)▸h
    exact ih (h.tail (rfl)) e
   ·split at e<;>cases e
  rw [gM] at e
  split at e
  ·cases e
  ·split at e
   ·rename_i hg
    split at e
    ·obtain ⟨w,r,rfl⟩:∃ w r,ws=w::r:=by cases ws with
      | nil=>cases hg
      | cons w r=>exact I21 w r rfl
     exact aft (h.tail (mZ hg)) e
    ·cases e
   ·split at e
    ·rename_i e2;exact hno _ h e2
    ·cases e
    ·rename_i x ws' e2
     refine X03 (hE.sub e2) fun s1 s2 _=>?_
     exact aft (h.sub s1 s2) e
theorem Cy (hE:Elm d tyf) (hno:∀ ws,Lv A n ws→tyf ws≠.out) {w:Wd}{r:List Wd}(h:Lv A n r):kA tyf w r≠.out:=fun e=>by
 unfold kA at e
 split at e
 ·rename_i e2;exact wO hE hno _ h e2
 ·cases e
 ·cases e
theorem segT_no (hE:Elm d tyf) (hno:∀ ws,Lv A n ws→tyf ws≠.out) {isE:Bool}{w:Wd}{r:List Wd}(h:Pv A n r):jC tyf isE w r≠.out:=fun e=>by
 refine segT_e e (fun r' c g=>?_) (fun r' c J g=>?_) fun g=>?_
 ·subst c;exact Cy hE hno (w:=w) ((h.tail (rfl)).opn rfl) g
 ·subst c;exact Cy hE hno (w:=w) (h.opn rfl) g
 ·cases g
theorem xD (hE:Elm d tyf) {isE:Bool}{w:Wd}{r r':List Wd}{s:PV}(h:jC tyf isE w r=.ok (s,r')):r' <:+ r∧mx r'≤mx r:=by
 refine X03 (xE hE h) fun J J p=>?_
 refine X03 (p r (mx r) (20*r.length+14) 0 (I03 (List.suffix_rfl) (Nat.le_refl _) (Nat.le_of_eq (Nat.add_comm _ _)))) fun p1 p2 p3=>?_
 exact ⟨p1,p2⟩
set_option tactic.hygienic true in
theorem Ib (hE:Elm d tyf) (hno:∀ ws,Lv A n ws→tyf ws≠.out) {isE:Bool}:∀ (k:Nat) {ahead ws:List Wd}{acc:List PV},Pv A n ws→iS tyf isE k ahead ws acc≠.out:=by
 intro x0
 induction x0 with
 | zero=>intro _ _ _ _ e;exact (by contradiction)
 | succ k ih=>
  intro ahead z0
  cases z0 with
  | nil=>intro acc _ e;exact (by contradiction)
  | cons w r=>
   intro acc h e
   rw [cU] at e
   split at e
   ·rename_i hn
    have h':=h.tail (qY hn)
    split at e
    ·rename_i e2;exact segT_no hE hno h' e2
    ·cases e
    ·rename_i s r'' e2
     refine X02 (xD hE e2) fun s1 s2=>?_
     have h2:=h'.sub s1 s2
     unfold pth at e
     split at e
     ·rename_i hh
      rw [aW hh] at h2
      exact ih (h2.tail (rfl)) e
     ·cases e
   ·cases e
theorem iQ (hE:Elm d tyf) (hno:∀ ws,Lv A n ws→tyf ws≠.out) {isE:Bool}{ws:List Wd}(h:Pv A n ws):spath tyf isE ws≠.out:=fun e=>by
 unfold spath at e
 split at e
 ·rename_i e2;exact Ib hE hno _ h e2
 ·cases e
 ·cases e
end
theorem yM (r:List Wd):cC ([38]::r)=cC r+1:=rfl
theorem rQ {w:Wd}{r:List Wd}(h:ldw w=true):cC (w::r)=cC r:=by
 have:w≠[38]:=by rintro rfl;cases h
 simp only [cC,if_neg this,h,if_true]
theorem reg_opn {w:Wd}(h:fA w=true):opn w=false:=by
 unfold opn
 cases c1:(w==[60]||w==[40]||w==[91]) with
 | false=>rfl
 | true=>
  simp only [Bool.or_eq_true,beq_iff_eq] at c1
  rcases c1 with (rfl|rfl)|rfl<;>cases h
theorem En.ref (h:En A (n+4) ([38]::r)):En A (n+2) r:=by
 refine ⟨h.1.sub (List.suffix_cons _ r),?_⟩
 have:=h.2
 rw [yM,kI (rfl) (rfl)] at this
 exact ar233 this
theorem En.reg (h:En A n (w::r)) (hw:fA w=true):En A n r:=by
 refine ⟨h.1.sub (List.suffix_cons _ r),?_⟩
 have:=h.2
 rw [rQ (by unfold ldw;rw [hw];rfl),kI (reg_opn hw) (mZ hw)] at this
 exact this
theorem En.mut (h:En A n ws):En A n (fP ws).2:=by
 rcases tS ws with ⟨r,rfl,c⟩|c<;>rw [c]
 ·refine ⟨h.1.sub (List.suffix_cons _ r),?_⟩
  have:=h.2
  rw [rQ (rfl),kI (rfl) (rfl)] at this
  exact this
 ·exact h
theorem lV:∀ (n:Nat) {ws:List Wd},En A n ws→ty n ws≠.out:=by
 refine qN (P:=fun n=>∀ {ws:List Wd},En A n ws→ty n ws≠.out) (fun n h ws z _=>absurd z.2 (ar470 h)) fun n i0 i2 ws h e=>?_
 have i0:∀ ws,Lv A n ws→ty n ws≠.out:=fun ws h=>i0 h.en
 have i2:∀ ws,En A (n+2) ws→ty (n+2) ws≠.out:=fun ws h=>i2 h
 have hp:=h.pv
 refine ty_e e (fun r0 c g=>?_) (fun r c g=>?_) (fun r0 c g=>?_) (fun r c g=>?_) (fun r c g=>?_) fun e=>?_
 ·subst c
  unfold vE at g
  split at g
  ·rename_i e2;exact parP_no (bB n) i0 _ (hp.opn (rfl)) e2
  ·cases g
  ·cases g
 ·subst c
  have h2:=h.ref
  have refm:∀ {g:PV} {q:List Wd},En A (n+2) q→iJ (ty (n+2)) g q≠.out:=by
   intro g q hq e
   unfold iJ at e
   split at e
   ·rename_i e2;exact i2 _ hq.mut e2
   ·cases e
   ·cases e
  unfold refT at g
  split at g
  ·split at g
   ·rename_i hr;exact refm (h2.reg hr) g
   ·exact refm h2 g
  ·exact refm h2 g
 ·clear i2 h lV
  subst c
  unfold tC at g
  split at g
  ·rename_i e2;exact i0 _ (hp.opn (rfl)) e2
  ·cases g
  ·split at g<;>cases g
 ·cases g
 ·cases g
 ·unfold pthT at e
  split at e
  ·rename_i e2;exact iQ (bB n) i0 hp e2
  ·cases e
  ·cases e
noncomputable def cP (elem:List Wd→Rs (PV×List Wd)) (en:Wd):Nat→List Wd→Bool→List PV→Rs (List PV×Bool×List Wd)
 | 0,_,_,_=>.fail
 | k+1,ws,c,xs=>if ws.head?=some en then .ok (xs,c,ws.tail) else if c=false then .fail else match elem ws with
  | .out=>.out
  | .fail=>.fail
  | .ok (x,ws')=>cP elem en k (if ws'.head?=some [44] then ws'.tail else ws') (decide (ws'.head?=some [44])) (xs++[x])
section
variable {d:Nat}{tyf elem:List Wd→Rs (PV×List Wd)}
theorem tL {en:Wd}{k:Nat}{xs:List PV}(hk:0<k):cP elem en k ws false xs=if ws.head?=some en then .ok (xs,false,ws.tail) else .fail:=by
 match k,hk with
 | k+1,_=>rw [cP];simp
theorem xI (hlen:∀ ws x ws',tyf ws=.ok (x,ws')→ws'.length<ws.length):∀ (k k':Nat) {ws:List Wd}{xs:List PV},ws.length<k→ws.length<k'→cP tyf [41] k ws true xs=iK tyf k' ws xs:=by
 intro k
 induction k with
 | zero=>
  intro J ws xs h J
  exact absurd h (Nat.not_lt_zero _)
 | succ k ih=>
  intro k' ws xs h h'
  cases k' with
  | zero=>exact absurd h' (Nat.not_lt_zero _)
  | succ k'=>
   rw [cP,iK]
   split
   ·rfl
   ·rw [if_neg (by decide)]
    cases e:tyf ws with
    | out=>rfl
    | fail=>rfl
    | ok p=>
     obtain ⟨x,ws'⟩:=p
     have hl:=hlen _ _ _ e
     dsimp only
     by_cases c:ws'.head?=some [44]
     ·rw [if_pos c,if_pos c,decide_eq_true c]
      exact ih k' (by simp;exact Ek h hl) (by simp;exact Ek h' hl)
     ·rw [if_neg c,if_neg c,decide_eq_false c]
      exact tL (Nat.lt_of_le_of_lt (Nat.zero_le _) (Nat.lt_of_lt_of_le hl (Nat.le_of_lt_succ h)))
noncomputable def dH (elem:List Wd→Rs (PV×List Wd)) (ws:List Wd):Rs (PV×List Wd):=if bA ws then .ok (.str (ws.headD []),ws.tail) else elem ws
theorem Fj {en:Wd}:∀ (k:Nat) {ws:List Wd}{c c':Bool}{xs X:List PV}{r:List Wd},cP elem en k ws c xs=.ok (X,c',r)→∃ m,X=xs++m:=by
 intro x0
 induction x0 with
 | zero=>intro J J J J J J h;exact (by contradiction)
 | succ k ih=>
  intro ws c c' xs X r h
  rw [cP] at h
  split at h
  ·cases h;exact ⟨[],by simp⟩
  ·split at h
   ·cases h
   ·split at h
    ·cases h
    ·cases h
    ·obtain ⟨m,rfl⟩:=ih h
     exact ⟨_::m,by simp;rfl⟩
noncomputable def zU (X:List PV):Prop:=∃ a l b s e,X=a++(PV.tup l::b)++(PV.str s::e)
noncomputable def Told (R:Rs (PV×PV×List Wd)) (S:Rs (List PV×Bool×List Wd)):Prop:=match R with
 | .out=>True
 | .ok (x,y,r)=>∃ rs ts c,x=.tup rs∧y=.tup ts∧S=.ok (rs++ts,c,r)
 | .fail=>S=.fail∨S=.out∨∃ X c r,S=.ok (X,c,r)∧zU X
theorem xJ (hlen:∀ ws x ws',elem ws=.ok (x,ws')→ws'.length<ws.length) (htup:∀ ws x ws',elem ws=.ok (x,ws')→∃ l,x=.tup l):∀ (k k':Nat) {ws:List Wd}{rs ts:List PV},ws.length<k→ws.length<k'→lU ts →
  Told (eW elem k' ws rs ts) (cP (dH elem) [62] k ws true (rs++ts)):=by
 intro k
 induction k with
 | zero=>
  intro J ws rs ts h J J
  exact absurd h (Nat.not_lt_zero _)
 | succ k ih=>
  intro k' ws rs ts h h' ht
  cases k' with
  | zero=>exact absurd h' (Nat.not_lt_zero _)
  | succ k'=>
   have aft:∀ {ws':List Wd} {rs2 ts2:List PV},ws'.length<ws.length→lU ts2→Told (pY elem k' ws' rs2 ts2) (cP (dH elem) [62] k (if ws'.head?=some [44] then ws'.tail else ws') (decide (ws'.head?=some [44])) (rs2++ts2)):=by
    intro ws' rs2 ts2 hl ht2
    unfold pY
    by_cases c:ws'.head?=some [44]
    ·rw [if_pos c,if_pos c,decide_eq_true c]
     exact ih k' (by simp;exact Ek h hl) (by simp;exact Ek h' hl) ht2
    ·rw [if_neg c,if_neg c,decide_eq_false c,tL (Nat.lt_of_le_of_lt (Nat.zero_le _) (Nat.lt_of_lt_of_le hl (Nat.le_of_lt_succ h)))]
     split
     ·exact I33 rs2 ts2 false rfl rfl rfl
     ·exact .inl rfl
   rw [cP,gM]
   by_cases hh:ws.head?=some [62]
   ·rw [if_pos hh,if_pos hh]
    exact I33 rs ts true rfl rfl rfl
   ·rw [if_neg hh,if_neg hh,if_neg (show ¬(true=false) from fun h=>nomatch h)]
    by_cases hg:bA ws=true
    ·refine Eq.symm (if_pos hg)▸?_
     have e:dH elem ws=.ok (.str (ws.headD []),ws.tail):=by unfold dH;rw [if_pos hg]
     refine Eq.symm (e)▸?_
     dsimp only
     have hl:ws.tail.length<ws.length:=by
      clear hh h' h
      cases ws with
      | nil=>cases hg
      | cons w r=>simp
     by_cases hts:ts=[]
     ·refine Eq.symm (if_pos hts)▸?_
      subst hts
      have:=aft (rs2:=rs++[.str (ws.headD [])]) hl cZ
      simpa using this
     ·refine Eq.symm (if_neg hts)▸?_
      generalize hS:cP (dH elem) [62] k (if ws.tail.head?=some [44] then ws.tail.tail else ws.tail) (decide (ws.tail.head?=some [44])) (rs++ts++[.str (ws.headD [])])=S
      cases S with
      | out=>exact .inr (.inl rfl)
      | fail=>exact .inl rfl
      | ok p=>
       obtain ⟨X,c,r⟩:=p
       refine .inr (.inr (I32 X c r rfl (?_)))
       obtain ⟨m,rfl⟩:=Fj k hS
       clear hS r hh c hl h' h
       obtain ⟨t,ts',rfl⟩:∃ t ts',ts=t::ts':=by cases ts with
        | nil=>exact absurd rfl hts
        | cons t ts'=>exact I21 t ts' rfl
       clear hts
       obtain ⟨l,rfl⟩:=ht t (.head _)
       exact I51 rs l ts' (ws.headD []) m (by simp)
    ·refine Eq.symm (if_neg hg)▸?_
     have e:dH elem ws=elem ws:=by unfold dH;rw [if_neg hg]
     refine Eq.symm (e)▸?_
     cases e2:elem ws with
     | out=>trivial
     | fail=>exact .inl rfl
     | ok p=>
      obtain ⟨x,ws'⟩:=p
      have:=aft (rs2:=rs) (hlen _ _ _ e2) (ht.snoc (htup _ _ _ e2))
      rw [←List.append_assoc] at this
      exact this
end
structure RF (C:Cx):Prop where
 word:aT C 40 2 mJ
 rest:aT C 41 4 mM
 type:aT C 42 2 dO
 path:aT C 43 3 gB
 arg:aT C 44 2 dG
 param:aT C 45 2 fK
 gens:aT C 46 1 dF
 due:aT C 47 2 oZ
structure Row (H:MH) (p:Nat) (L:List Wd):Prop where
 at_:H p=some (.list (L.map .str))
 len:L.length≤100000
structure AtW (L ws:List Wd) (i:Nat):Prop where
 cut:L.drop i=ws
 le:i≤L.length
noncomputable def RR (H:MH) (L:List Wd) (Q:QV):Rs (PV×List Wd)→Prop
 | .out=>False
 | .fail=>∀ H',Gr H H'→Q .none H'
 | .ok (t,ws)=>∀ H' j,Gr H H'→AtW L ws j→Q (.tup [t,.int (j:Nat)]) H'
section
variable {C:Cx}{H H₀:MH}{Q:QV}{E:MH→Prop}{n i k p f:Nat}{L ws r:List Wd}{w x:Wd}
theorem Row.gr {H':MH}(h:Row H p L) (g:Gr H H'):Row H' p L:=⟨(g p (by rw [h.at_];exact fun x=>nomatch x)).trans h.at_,h.len⟩
theorem AtW.rlen (T:AtW L ws i):i+ws.length=L.length:=by have:=congrArg List.length T.cut;simp at this;have:=T.le;exact ar158 (by assumption) this
theorem AtW.next (T:AtW L (w::r) i):AtW L r (i+1):=⟨by rw [←List.drop_drop,T.cut];rfl,by have:=T.rlen;simp at this;exact ar240 this⟩
theorem AtW.get (T:AtW L (w::r) i):L[i]?=some w:=by
 have:=congrArg (·[0]?) T.cut
 simpa using this
theorem bW (hx:x≠[]):(ws.headD []=x)↔(ws.head?=some x):=by
 cases ws with
 | nil=>simp;exact hx
 | cons w r=>simp
theorem Row.idx (R:Row H p L) (T:AtW L (w::r) i) {z:Int}(e:z=(i:Int)) (q:Q (.str w) H):fY (.lst p) (.int z) H Q:=
 bX R.at_ (by have:=R.len;simp;exact lA this) e (by rw [List.getElem?_map,T.get];rfl) q
theorem cH (R:RF C) (W:Row H p L) (T:AtW L ws i) (q:Q (.str (ws.headD [])) H):aB C (n+1) 40 [.lst p,.int i] H Q E:=by
 have hl:=W.len
 apply R.word rfl
 simp only [mJ]
 walk_at "mu"
 rw [cV W.at_]
 refine ⟨by simp;exact lA hl,?_⟩
 walk_at "mu"
 have hr:=T.rlen
 clear hl R cH
 cases ws with
 | nil=>
  rw [decide_eq_false (by simp at hr ⊢;exact ar162 hr)]
  exact q
 | cons w r=>
  rw [decide_eq_true (by simp at hr ⊢;exact ar161 hr)]
  exact W.idx T rfl q
noncomputable def rsB:List MS:=[.ifs (.cmp .eq (.call 40 [.var 0,.var 1]) (.var 2)) [.ret (.tuple [.var 4,.bin .add (.var 1) (.int 1),.var 5])] [],
  .asg 7 (.ite (.var 5) (.callv 3 [.var 0,.var 1]) (.none)),
  .ifs (.cmp .is_ (.var 7) (.none)) [.ret (.none)] [],
  .expr (.meth .append (.var 4) [.idx (.var 7) (.int 0)]),
  .asg 5 (.cmp .eq (.call 40 [.var 0,.idx (.var 7) (.int 1)]) (.str [44])),
  .asg 1 (.bin .add (.idx (.var 7) (.int 1)) (.bi .int [.var 5]))]
theorem Ao:mM=[.swap [4,5] [.list [],.bool true],.fors [6] false (.bi .range [.bin .add (.bi .len [.var 0]) (.int 1)]) rsB,.ret (.none)]:=rfl
noncomputable def RRest (H₀:MH) (L:List Wd) (P:PV→MH→Prop):Rs (List PV×Bool×List Wd)→Prop
 | .out=>False
 | .fail=>∀ H',Gr H₀ H'→P .none H'
 | .ok (X,c,ws)=>∀ H' f j,H' f=some (.list X)→H₀ f=none→Gr H₀ H'→AtW L ws j→P (.tup [.lst f,.int (j:Nat),.bool c]) H'
theorem Fi {M g:Nat}{ok:List Wd→Prop}{elem:List Wd→Rs (PV×List Wd)}{en:Wd}(R:RF C) (hen:en≠[])
  (hel:∀ {H:MH} {i:Nat} {ws:List Wd} {Q:QV} {E:MH→Prop},Row H p L→AtW L ws i→ok ws→RR H L Q (elem ws)→aB C (M+1) g [.lst p,.int i] H Q E)
  (hno:∀ ws,ok ws→elem ws≠.out) (hok:∀ ws x ws',ok ws→elem ws=.ok (x,ws')→ok ws') (hcm:∀ r,ok ([44]::r)→ok r)
  {wb:LE→MH→QS→Prop} (hwb:∀ m H Q,wb m H Q=mSs (aB C (M+1)) C.gv nope rsB m H Q) (hf0:H₀ f=none) (hpf:p≠f) {Q:QS} :
  ∀ (its:List PV) {i:Nat} {ws:List Wd} {c:Bool} {xs:List PV} {m:LE} {H:MH},Row H p L→AtW L ws i→ok ws→H f=some (.list xs)→Gr H₀ H→xs.length+its.length≤1000000 →
   m 0=.lst p→m 1=.int i→m 2=.str en→m 3=.fn g→m 4=.lst f→m 5=.bool c →
   RRest H₀ L (fun v H'=>(∀ m',Q (.ret v) m' H')∧(v=.none→∀ m',Q .next m' H')) (cP elem en its.length ws c xs)→cQ (bC [6] false) wb (fun J=>True) its m H Q:=by
 intro x0
 induction x0 with
 | nil=>intro i ws c xs m H W T ho hf gr hsz h0 h1 h2 h3 h4 h5 q;exact (q H gr).2 rfl m
 | cons v its ih=>
  intro i ws c xs m H W T ho hf gr hsz h0 h1 h2 h3 h4 h5 q
  rw [dE]
  dsimp only [dC,dB,dP]
  rw [hwb]
  simp only [rsB]
  walk_at "mu"
  repeat (simp only [h0,h1,h2,h3,h4,h5,nuO,nuL,nuI,nuS,nuT,nuB,nuN,nuF,aF,aG];walk_at "mu")
  refine cH R W T ?_
  rw [cF,decide_eq_decide.mpr (bW hen)]
  rw [List.length_cons,cP] at q
  by_cases hh:ws.head?=some en
  ·rw [decide_eq_true hh]
   rw [if_pos hh] at q
   walk_at "mu"
   repeat (simp only [h0,h1,h2,h3,h4,h5,hf,nuO,nuL,nuI,nuS,nuT,nuB,nuN,nuF,aF,aG];walk_at "mu")
   refine (q H f (i+1) hf hf0 gr ?_).1 _
   rw [aW hh] at T
   exact T.next
  ·rw [decide_eq_false hh]
   rw [if_neg hh] at q
   cases c with
   | false=>
    rw [if_pos rfl] at q
    walk_at "mu"
    repeat (simp only [h0,h1,h2,h3,h4,h5,nuO,nuL,nuI,nuS,nuT,nuB,nuN,nuF,aF,aG];walk_at "mu")
    exact (q H gr).1 _
   | true=>
    rw [if_neg (fun h=>nomatch h)] at q
    walk_at "mu"
    repeat (simp only [h0,h1,h2,h3,h4,h5,hf,nuO,nuL,nuI,nuS,nuT,nuB,nuN,nuF,aF,aG];walk_at "mu")
    refine hel W T ho ?_
    cases e:elem ws with
    | out=>exact absurd e (hno ws ho)
    | fail=>
     replace q:=(e)▸q
     intro H' g'
     exact (q H' (gr.trans g')).1 _
    | ok y=>
     obtain ⟨t,ws'⟩:=y
     replace q:=(e)▸q
     dsimp only at q
     intro H' j g' T'
     have W':=W.gr g'
     have hf':H' f=some (.list xs):=(g' f (by rw [hf];exact fun x=>nomatch x)).trans hf
     have ho':=hok _ _ _ ho e
     walk_at "mu"
     repeat (simp only [h0,h1,h2,h3,h4,h5,nuO,nuL,nuI,nuS,nuT,nuB,nuN,nuF,aF,aG];walk_at "mu")
     refine ⟨aS hf',aE (k:=0) (Nat.le_of_ble_eq_true rfl) rfl (bF hf' (ar241 hsz) ?_)⟩
     have gr2:Gr H₀ (H'.set f (.list (xs++[t]))):=(gr.trans g').put hf0
     have W2:Row (H'.set f (.list (xs++[t]))) p L:=⟨(aL hpf).trans W'.at_,W'.len⟩
     walk_at "mu"
     repeat (simp only [h0,h1,h2,h3,h4,h5,hf,nuO,nuL,nuI,nuS,nuT,nuB,nuN,nuF,aF,aG];walk_at "mu")
     refine aE (k:=1) (Nat.le_of_ble_eq_true rfl) rfl (cH R W2 T' ?_)
     rw [cF,decide_eq_decide.mpr (bW (by decide))]
     walk_at "mu"
     refine aE (k:=1) (Nat.le_of_ble_eq_true rfl) rfl ?_
     by_cases hc:ws'.head?=some [44]
     ·replace q:=(if_pos hc)▸q
      have T2:=T'
      replace T2:=(aW hc)▸T2
      have ho2:=ho'
      replace ho2:=(aW hc)▸ho2
      refine ih (i:=j+1) W2 T2.next (hcm _ ho2) aC gr2 (by simp at hsz ⊢;exact zP hsz) h0 ?_ h2 h3 h4 (by simp [aJ];rfl) ?_
      ·simp [aJ,hc]
      ·exact q
     ·replace q:=(if_neg hc)▸q
      refine ih (i:=j) W2 T' ho' aC gr2 (by simp at hsz ⊢;exact zP hsz) h0 ?_ h2 h3 h4 (by simp [aJ];rfl) ?_
      ·simp [aJ,hc]
      ·exact q
end
noncomputable def isS:PV→Bool
 | .str _=>true
 | _=>false
noncomputable def SorT (xs:List PV):Prop:=∀ x∈xs,(∃ l,x=PV.str l)∨∃ l,x=PV.tup l
theorem Io {rs:List PV}(h:eZ rs):rs.filter isS=rs:=List.filter_eq_self.mpr fun x hx=>by
 obtain ⟨l,rfl⟩:=h x hx;rfl
theorem Im {ts:List PV}(h:lU ts):ts.filter isS=[]:=List.filter_eq_nil_iff.mpr fun x hx=>by
 obtain ⟨l,rfl⟩:=h x hx;exact fun h=>nomatch h
theorem Dk {rs:List PV}(h:eZ rs):rs.filter (fun x=>!isS x)=[]:=List.filter_eq_nil_iff.mpr fun x hx=>by
 obtain ⟨l,rfl⟩:=h x hx;exact fun h=>nomatch h
theorem lW {rs ts:List PV}(h1:eZ rs) (h2:lU ts):(rs++ts).filter isS=rs:=by rw [List.filter_append,Io h1,Im h2,List.append_nil]
theorem jV {X:List PV}(h:zU X):(X.take (X.filter isS).length).filter (fun x=>!isS x)≠[]:=by
 refine X51 h fun a l b s e hX=>?_
 intro hn
 have hm:(X.filter isS).length≤X.length:=List.length_filter_le _ _
 have all:∀ x∈X.take (X.filter isS).length,isS x=true:=fun x hx=>by
  have:=List.filter_eq_nil_iff.mp hn x hx
  simpa using this
 generalize hk:(X.filter isS).length=m at *
 have e1:((X.take m).filter isS).length=m:=by rw [List.filter_eq_self.mpr all,List.length_take];exact ar242 hm
 have e2:((X.take m).filter isS).length+((X.drop m).filter isS).length=m:=by
  rw [←List.length_append,←List.filter_append,List.take_append_drop];exact hk
 have e3:(X.drop m).filter isS=[]:=List.eq_nil_of_length_eq_zero (ar243 e1 e2)
 by_cases c:m≤a.length
 ·have:PV.str s∈X.drop m:=by
   rw [hX,List.append_assoc,List.drop_append_of_le_length c]
   exact List.mem_append_right _ (by simp)
  have:=List.filter_eq_nil_iff.mp e3 _ this
  exact this rfl
 ·have:PV.tup l∈X.take m:=by
   rw [hX,List.append_assoc,List.take_append]
   refine List.mem_append_right _ ?_
   rw [List.cons_append,show m - a.length=(m - a.length - 1)+1 by exact (Nat.sub_add_cancel (Nat.sub_pos_of_lt (Nat.lt_of_not_le c))).symm,List.take_succ_cons]
   exact .head _
  cases all _ this
section
variable {C:Cx}{H H₀:MH}{Q:QV}{E:MH→Prop}{n i k p f d:Nat}{L ws r:List Wd}{w x:Wd}{elem tyf:List Wd→Rs (PV×List Wd)}
theorem qV {en:Wd}(hE:∀ ws x ws',elem ws=.ok (x,ws')→(∃ l,x=PV.str l)∨∃ l,x=PV.tup l):∀ (k:Nat) {ws:List Wd}{c c':Bool}{xs X:List PV}{r:List Wd},SorT xs→cP elem en k ws c xs=.ok (X,c',r)→SorT X:=by
 intro x0
 induction x0 with
 | zero=>intro _ _ _ _ _ _ _ h;exact (by contradiction)
 | succ k ih=>
  intro ws c c' xs X r hs h
  rw [cP] at h
  split at h
  ·cases h;exact hs
  ·split at h
   ·cases h
   ·split at h
    ·cases h
    ·cases h
    ·rename_i x ws' e
     refine ih (fun y hy=>?_) h
     clear h r X c'
     rcases List.mem_append.mp hy with hy|hy
     ·exact hs y hy
     ·rcases List.mem_singleton.mp hy with rfl;exact hE _ _ _ e
theorem Ap {M g:Nat}{ok:List Wd→Prop}{en:Wd}(R:RF C) (hen:en≠[])
  (hel:∀ {H:MH} {i:Nat} {ws:List Wd} {Q:QV} {E:MH→Prop},Row H p L→AtW L ws i→ok ws→RR H L Q (elem ws)→aB C (M+1) g [.lst p,.int i] H Q E)
  (hno:∀ ws,ok ws→elem ws≠.out) (hok:∀ ws x ws',ok ws→elem ws=.ok (x,ws')→ok ws') (hcm:∀ r,ok ([44]::r)→ok r)
  (W:Row H p L) (T:AtW L ws i) (ho:ok ws) (q:RRest H L Q (cP elem en (L.length+1) ws true [])):aB C (M+2) 41 [.lst p,.int i,.str en,.fn g] H Q E:=by
 have hl:=W.len
 apply R.rest rfl
 refine Eq.symm (Ao)▸?_
 generalize hB:rsB=B
 walk_at "mu"
 intro f hf
 have hpf:p≠f:=fun e=>by rw [←e,W.at_] at hf;cases hf
 have W':Row (H.set f (.list [])) p L:=⟨(aL hpf).trans W.at_,W.len⟩
 walk_at "mu"
 refine Eq.symm (cV W'.at_)▸?_
 refine ⟨by simp;exact lA hl,?_⟩
 refine ⟨by simp;exact Ej,by simp;exact Eg hl,?_⟩
 dsimp only [srcT,srcR]
 refine ⟨by simp;exact Ej,by simp;exact Eg hl,?_⟩
 subst hB
 refine Fi R hen hel hno hok hcm (fun J J J=>rfl) hf hpf _ W' T ho aC (.new hf) (by first|omega|(simp;exact Nat.le_trans hl (Nat.le_add_left _ _))|simp) rfl rfl rfl rfl rfl rfl ?_
 have hlen:((List.range (((L.map PV.str).length:Int)+1).toNat).map fun (i:Nat)=>PV.int (i:Int)).length=L.length+1:=by simp
 refine Eq.symm (hlen)▸?_
 cases hr:cP elem en (L.length+1) ws true [] with
 | out=>rw [hr] at q;exact q
 | fail=>rw [hr] at q;exact fun H' g=>⟨fun m'=>q H' g,fun J m'=>q H' g⟩
 | ok y=>
  obtain ⟨X,c,r⟩:=y
  rw [hr] at q
  exact fun H' f j h1 h2 h3 h4=>⟨fun m'=>q H' f j h1 h2 h3 h4,fun h=>nomatch h⟩
theorem arg_r {M:Nat}{ok:List Wd→Prop}(R:RF C) (hty:∀ {H:MH}{i:Nat}{ws:List Wd}{Q:QV}{E:MH→Prop},Row H p L→AtW L ws i→ok ws→RR H L Q (tyf ws)→aB C (M+1) 42 [.lst p,.int i] H Q E)
  (W:Row H p L) (T:AtW L ws i) (ho:ok ws) (hv:∀ w∈L,w.length≤1000) (q:RR H L Q (dH tyf ws)):aB C (M+2) 44 [.lst p,.int i] H Q E:=by
 apply R.arg rfl
 simp only [dG]
 walk_at "mu"
 have hwl:(ws.headD []).length≤1000:=by
  cases ws with
  | nil=>simp
  | cons w r=>exact hv w (List.mem_of_getElem? T.get)
 refine cH R W T (kF (jR hwl) ?_)
 rw [cF]
 have e:((ws.headD []).take 1=[39])↔bA ws=true:=by
  clear hwl hv R arg_r
  cases ws with
  | nil=>simp [bA]
  | cons w r=>simp [bA,fA]
 rw [decide_eq_decide.mpr e]
 unfold dH at q
 by_cases hg:bA ws=true
 ·replace q:=(if_pos hg)▸q
  rw [decide_eq_true hg]
  clear e hwl hv R arg_r
  obtain ⟨w,r,rfl⟩:∃ w r,ws=w::r:=by cases ws with
   | nil=>cases hg
   | cons w r=>exact I21 w r rfl
  exact W.idx T rfl (q H (i+1) .refl T.next)
 ·replace q:=(if_neg hg)▸q
  rw [decide_eq_false hg]
  exact hty W T ho q
noncomputable def sX (v x:Nat):ME:=.comp (.var x) x [] (.idx (.var v) (.int 0)) [.bi .isStr [.var x]]
noncomputable def Di (v g x:Nat):ME:=.comp (.var x) x [] (.slc (.idx (.var v) (.int 0)) .none (.bi .len [.var g])) [.not (.bi .isStr [.var x])]
theorem oJ {y:PV}(h:(∃ l,y=PV.str l)∨∃ l,y=PV.tup l):gR .isStr y=some (isS y)∧y≠.undef:=by
 rcases h with ⟨l,rfl⟩|⟨l,rfl⟩<;>exact ⟨rfl,by intro h;cases h⟩
theorem kN {neg:Bool}{x:Nat}{μ:LE}{P:List PV→MH→Prop}{chk:MH→Prop}{cc:LE→MH→(Bool→MH→Prop)→Prop}{ee:LE→MH→QV→Prop}(hcc:∀ (m:LE) H Q,(∃ y,m x=y∧((∃ l,y=PV.str l)∨∃ l,y=PV.tup l))→Q (if neg then !isS (m x) else isS (m x)) H→cc m H Q) (hee:∀ m H Q,m x≠.undef→Q (m x) H→ee m H Q) (hc:chk H) :
  ∀ {X acc:List PV},SorT X→acc.length+X.length≤15000000→P (acc++X.filter (fun y=>if neg then !isS y else isS y)) H→fB x cc ee chk μ X H acc P
 | [],acc,_,_,q=>by simp only [lN,lO];simpa using q
 | y::X,acc,hs,hl,q=>by
  have hy:=hs y (.head _)
  have e:(μ.set x y) x=y:=by simp [aJ]
  have ih:=fun {acc}=>kN (P:=P) (μ:=μ) hcc hee hc (X:=X) (acc:=acc) (fun z hz=>hs z (.tail _ hz))
  refine hcc _ _ _ (I12 y e hy) ?_
  refine Eq.symm (e)▸?_
  by_cases hb:(if neg then !isS y else isS y)=true
  ·rw [hb,cond_true]
   refine hee _ _ _ (by rw [e];exact (oJ hy).2) (I03 hc (ar83 hl) (?_))
   refine Eq.symm (e)▸?_
   refine ih (by simp at hl ⊢;exact ar85 hl) ?_
   rw [List.filter_cons_of_pos (by simpa using hb)] at q
   simpa using q
  ·rw [Bool.not_eq_true] at hb
   rw [hb,cond_false]
   refine ⟨hc,ih (Nat.le_of_lt hl) ?_⟩
   rw [List.filter_cons_of_neg (by simpa using hb)] at q
   exact q
theorem regC_q {Fn:FSt}{gv:Nat→PV}{v x:Nat}{μ:LE}{X:List PV}{u:List PV}(hv:μ v=.tup (.lst f::u)) (hu:u.length≤100) (hf:H f=some (.list X)) (hs:SorT X) (hl:X.length≤15000000) {P:QV}
  (q:∀ b,H b=none→P (.lst b) (H.set b (.list (X.filter isS)))):mE Fn gv E (sX v x) μ H P:=by
 unfold sX
 walk_at "mu"
 simp only [hv,nuT]
 refine aE (k:=0) (by simp;exact Nat.le_trans hu (Nat.le_add_left _ _)) rfl ?_
 refine wZ hf ?_
 refine kN (neg:=false) (fun m H Q hm h=>?_) (fun m H Q hu h=>?_) hf hs (by simpa using hl) ?_
 ·refine hC fun hG=>?_
  obtain ⟨y,rfl,hy⟩:=hm<;>(refine hG ?_;clear hG)
  obtain ⟨k1,k2⟩:=oJ hy
  walk_at "mu"
  refine (cI.mpr ⟨k2,?_⟩)
  rw [qF k1]
  cases e:isS (m x)<;>(rw [e] at h;exact h)
 ·exact (cI.mpr ⟨hu,h⟩)
 ·intro b hb
  exact q b hb
theorem nregC_q {Fn:FSt}{gv:Nat→PV}{v g x:Nat}{μ:LE}{X R:List PV}{u:List PV}{b:Nat}(hv:μ v=.tup (.lst f::u)) (hu:u.length≤100) (hf:H f=some (.list X)) (hg:μ g=.lst b) (hb:H b=some (.list R)) (hR:R.length≤15000000) (hs:SorT X) (hl:X.length≤15000000) {P:QV}
  (q:∀ b' H',H' b'=some (.list ((X.take R.length).filter (fun y=>!isS y)))→Gr H H'→P (.lst b') H'):mE Fn gv E (Di v g x) μ H P:=by
 unfold Di
 walk_at "mu"
 simp only [hv,nuT]
 simp only [hg,nuL]
 refine aE (k:=0) (by simp;exact Nat.le_trans hu (Nat.le_add_left _ _)) rfl ?_
 rw [cV hb]
 refine ⟨iZ hR,?_⟩
 refine tJ hf rfl vZ (I04 (iZ hl) (Nat.le_of_ble_eq_true rfl) (iZ hR) (?_))
 intro b1 hb1
 refine wZ aC ?_
 have hcut:bM X 0 R.length=X.take R.length:=by simp [bM]
 refine Eq.symm (hcut)▸?_
 refine kN (neg:=true) (fun m H Q hm h=>?_) (fun m H Q hu h=>?_) aC (fun y hy=>hs y (List.mem_of_mem_take hy)) (by simp;exact ar247 hl) ?_
 ·refine hC fun hG=>?_
  obtain ⟨y,rfl,hy⟩:=hm
  refine X02 (oJ hy) fun k1 k2=>?_
  refine hG ?_;clear hG
  walk_at "mu"
  refine (cI.mpr ⟨k2,?_⟩)
  refine Eq.symm (qF k1)▸?_
  cases e:isS (m x)<;>(rw [e] at h;exact h)
 ·exact (cI.mpr ⟨hu,h⟩)
 ·intro b2 hb2
  have g1:Gr H (H.set b1 (.list (X.take R.length))):=.new hb1
  exact q b2 _ aC (g1.put (aX g1 hb2))
end
section
variable {C:Cx}{H H₀:MH}{Q:QV}{E:MH→Prop}{n i k p f d:Nat}{L ws r:List Wd}{w x:Wd}{elem tyf:List Wd→Rs (PV×List Wd)}{F:FSt}{gv:Nat→PV}
theorem pK:∀ {xs ys:List Wd},(xs.map PV.str=ys.map PV.str)↔xs=ys
 | [],[]=>by simp
 | [],y::ys=>by simp
 | x::xs,[]=>by simp
 | x::xs,y::ys=>by simp only [List.map_cons,List.cons.injEq,PV.str.injEq,pK]
theorem Dq {a b:Nat}{xs ys:List Wd}{P:Bool→Prop}(ha:H a=some (.list (xs.map .str))) (hb:H b=some (.list (ys.map .str))) (q:P (decide (xs=ys))):cL H .eq (.lst a) (.lst b) P:=by
 rw [eq_lst ha hb]
 refine .inr (.inl (I03 gX gX (?_)))
 have:∀ (inst:Decidable (xs.map PV.str=ys.map PV.str)),@decide _ inst=decide (xs=ys):=fun inst=>by
  rw [decide_eq_decide];exact pK
 rw [this];exact q
theorem ne_strs {a b:Nat}{xs ys:List Wd}{P:Bool→Prop}(ha:H a=some (.list (xs.map .str))) (hb:H b=some (.list (ys.map .str))) (q:P (!decide (xs=ys))):cL H .ne (.lst a) (.lst b) P:=
 Dq (P:=fun r=>P (!r)) ha hb q
theorem ne_nil {a b:Nat}{xs:List PV}{P:Bool→Prop}(ha:H a=some (.list xs)) (hb:H b=some (.list [])) (q:P (!decide (xs=[]))):cL H .ne (.lst a) (.lst b) P:=by
 rw [vG ha hb]
 clear hb ha b a ne_nil
 cases xs with
 | nil=>exact .inr (.inl (I03 (fun J h=>nomatch h) (fun J h=>nomatch h) q))
 | cons x xs=>exact .inl ⟨by simp,q⟩
theorem eq_nil {a b:Nat}{xs:List PV}{P:Bool→Prop}(ha:H a=some (.list xs)) (hb:H b=some (.list [])) (q:P (decide (xs=[]))):cL H .eq (.lst a) (.lst b) P:=by
 rw [eq_lst ha hb]
 cases xs with
 | nil=>exact .inr (.inl (I03 (fun J h=>nomatch h) (fun J h=>nomatch h) q))
 | cons x xs=>exact .inl ⟨by simp,q⟩
theorem Row.slc (R:Row H p L) (T:AtW L ws i) {a b:Int}{m:Nat}(ea:a=(i:Int)) (eb:b=((i+m:Nat):Int)) (hm:m≤1000) (q:∀ b,H b=none→Q (.lst b) (H.set b (.list ((ws.take m).map .str)))):pR (.lst p) (.int a) (.int b) H Q:=by
 subst ea;subst eb
 have hl:=R.len
 have:=T.le
 refine tJ R.at_ wA vZ (I04 (by simp;exact lA hl) (ar248 hl this) (ar249 hm hl this) (?_))
 have:bM (L.map PV.str) i (i+m)=(ws.take m).map .str:=by
  unfold bM
  rw [←T.cut,List.map_take,List.map_drop,List.drop_take];congr 1;exact ar165
 refine Eq.symm (this)▸?_
 intro b hb;exact q b hb
noncomputable def isnE (v:Nat):MS:=.ifs (.cmp .is_ (.var v) (.none)) [.ret (.none)] []
noncomputable def srtE (v g x:Nat):MS:=.ifs (.cmp .ne (Di v g x) (.list [])) [.ret (.none)] []
noncomputable def pI (v g:Nat):ME:=.tuple [.bi .tuple [.var g],.bi .tuple [.slc (.idx (.var v) (.int 0)) (.bi .len [.var g]) .none]]
theorem zQ {v g x:Nat}{rest:List MS}{m:LE}{Q:QS}(hv:m v=.none) (q:Q (.ret .none) m H):mSs F gv E (isnE v::.asg g (sX v x)::srtE v g x::rest) m H Q:=by
 simp only [isnE]
 generalize MS.asg g (sX v x)=s1
 generalize srtE v g x=s2
 walk_at "mu"
 repeat (simp only [hv,nuO,nuL,nuI,nuS,nuT,nuB,nuN,nuF,aF,aG];walk_at "mu")
 exact q
theorem nY {v g x:Nat}{rest:List MS}{m:LE}{Q:QS}{j:Int}{c:Bool}{X:List PV}(hgv:g≠v) (hv:m v=.tup [.lst f,.int j,.bool c]) (hf:H f=some (.list X)) (hs:SorT X) (hl:X.length≤15000000)
  (qb:((X.take (X.filter isS).length).filter (fun y=>!isS y))≠[]→∀ m' H',Gr H H'→Q (.ret .none) m' H')
  (qo:((X.take (X.filter isS).length).filter (fun y=>!isS y))=[]→∀ b H',H' b=some (.list (X.filter isS))→Gr H H'→mSs F gv E rest (m.set g (.lst b)) H' Q) :
  mSs F gv E (isnE v::.asg g (sX v x)::srtE v g x::rest) m H Q:=by
 have hfl:(X.filter isS).length≤15000000:=Nat.le_trans (List.length_filter_le _ _) hl
 simp only [isnE,srtE]
 generalize hR:sX v x=rc
 generalize hN:Di v g x=nc
 walk_at "mu"
 repeat (simp only [hv,nuO,nuL,nuI,nuS,nuT,nuB,nuN,nuF,aF,aG];walk_at "mu")
 refine (hR)▸?_
 refine regC_q hv (Nat.le_of_ble_eq_true rfl) hf hs hl fun b hb=>?_
 refine (hN)▸?_
 have g1:Gr H (H.set b (.list (X.filter isS))):=.new hb
 have hf1:(H.set b (.list (X.filter isS))) f=some (.list X):=(g1 f (by rw [hf];exact fun x=>nomatch x)).trans hf
 walk_at "mu"
 refine nregC_q (f:=f) (X:=X) (u:=[.int j,.bool c]) (by simp [aJ,Ne.symm hgv,hv]) (Nat.le_of_ble_eq_true rfl) hf1 (by simp [aJ]) aC hfl hs hl fun b' H' hb' g2=>?_
 intro b2 hb2
 have hne:b'≠b2:=fun e=>by rw [←e,hb'] at hb2;cases hb2
 refine ne_nil ((aL hne).trans hb') aC ?_
 have g3:=(g1.trans g2).put (o:=.list []) (aX (g1.trans g2) hb2)
 have hb3:(H'.set b2 (.list [])) b=some (.list (X.filter isS)):=by
  have e1:H' b=some (.list (X.filter isS)):=(g2 b (by rw [aC];exact fun x=>nomatch x)).trans aC
  have:b≠b2:=fun e=>by rw [←e,e1] at hb2;cases hb2
  exact (aL this).trans e1
 by_cases hn:((X.take (X.filter isS).length).filter (fun y=>!isS y))=[]
 ·refine Eq.symm (hn)▸?_
  exact qo hn b _ hb3 g3
 ·refine Eq.symm (decide_eq_false hn)▸?_
  exact qb hn _ _ g3
theorem pair_q {v g:Nat}{m:LE}{P:QV}{j:Int}{c:Bool}{rs ts:List PV}{b:Nat}(hv:m v=.tup [.lst f,.int j,.bool c]) (hg:m g=.lst b) (hf:H f=some (.list (rs++ts))) (hb:H b=some (.list rs)) (hl:(rs++ts).length≤15000000)
  (q:∀ H',Gr H H'→P (.tup [.tup rs,.tup ts]) H'):mE F gv E (pI v g) m H P:=by
 have hl':rs.length≤15000000:=by simp at hl;exact Nat.le_trans (Nat.le_add_right _ _) hl
 simp only [pI]
 walk_at "mu"
 repeat (simp only [hv,hg,nuO,nuL,nuI,nuS,nuT,nuB,nuN,nuF,aF,aG];walk_at "mu")
 rw [cJ hb]
 refine ⟨iZ hl',aE (k:=0) (Nat.le_of_ble_eq_true rfl) rfl ?_⟩
 rw [cV hb]
 refine ⟨iZ hl',?_⟩
 refine tJ hf wA rfl (I04 (iZ hl) (iZ hl') (iZ hl) (?_))
 intro b1 hb1
 rw [cJ aC]
 have hcut:bM (rs++ts) rs.length (rs++ts).length=ts:=by unfold bM;rw [List.take_length,List.drop_left]
 refine Eq.symm (hcut)▸?_
 refine ⟨by simp at hl;exact Nat.le_trans (Nat.le_add_left _ _) (Nat.le_trans hl (Nat.le_of_ble_eq_true rfl)),q _ (.new hb1)⟩
noncomputable def sG:ME:=.and [.cmp .in_ (.var 5) (.gval 9),.or [.cmp .eq (.var 3) (.list []),.and [.cmp .eq (.var 5) (.str [115,117,112,101,114]),.cmp .in_ (.idx (.idx (.var 3) (.neg 1)) (.int 0)) (.list [.str [115,117,112,101,114],.str [115,101,108,102]])]]]
noncomputable def okE:ME:=.and [.not (.var 6),.cmp .nin (.var 5) (.bin .add (.gval 10) (.list [.str [84],.str [85]]))]
noncomputable def lS (ahead:List Wd) (w:Wd):Bool:=decide (w∈dW)&&decide (ahead=[]∨(w=sV∧(ahead.getLast?.getD []=sV∨ahead.getLast?.getD []=slfW)))
theorem in_clst {x:Wd}{ps:List Wd}{P:Bool→Prop}(h:P (decide (x∈ps))):cL H .in_ (.str x) (.clst (ps.map .str)) P:=by
 refine And.intro gX ?_
 rw [vX];exact h
theorem begin_q {m:LE}{P:QV}{acc:List PV}{ahead:List Wd}(hg:gv 9=.clst (lX.map .str)) (h5:m 5=.str w) (h3:m 3=.lst f) (hf:H f=some (.list acc)) (hs:wR acc ahead) (hl:acc.length≤15000000)
  (q:∀ H',Gr H H'→P (.bool (lS ahead w)) H'):mE F gv E sG m H P:=by
 simp only [sG]
 walk_at "mu"
 repeat (simp only [h5,h3,hg,nuO,nuL,nuI,nuS,nuT,nuB,nuN,nuF,aF,aG];walk_at "mu")
 refine in_clst ?_
 by_cases hw:w∈dW
 ·refine Eq.symm (decide_eq_true (show w∈lX from hw))▸?_
  intro b hb
  have hne:f≠b:=fun e=>by rw [←e,hf] at hb;cases hb
  have g1:Gr H (H.set b (.list [])):=.new hb
  have hf1:(H.set b (.list [])) f=some (.list acc):=(aL hne).trans hf
  refine eq_nil hf1 aC ?_
  generalize H.set b (.list [])=H₁ at *
  refine hC fun hG=>?_
  clear hne hb b hf h3 h5 hg m
  obtain ⟨ls,rfl,rfl,hls⟩:=hs<;>(refine hG ?_;clear hG)
  cases ls with
  | nil=>
   have:lS [] w=true:=by unfold lS;rw [decide_eq_true hw];simp
   rw [List.map_nil,this] at q
   exact q H₁ g1
  | cons y ls=>
   simp only [List.map_cons,reduceCtorEq,decide_false]
   walk_at "mu"
   by_cases hsup:w=sV
   ·rw [decide_eq_true (show w=[115,117,112,101,114] from hsup)]
    have hlast:∃ z:Wd×List PV,(y::ls).getLast?=some z:=⟨_,List.getLast?_eq_some_getLast (by simp)⟩
    refine X11 hlast fun z hz=>?_
    have hzm:z∈y::ls:=List.mem_of_getLast? hz
    have hk2:((((y::ls).map fun p:Wd×List PV=>PV.tup (.str p.1::p.2)))[(y::ls).length - 1]?)=some (.tup (.str z.1::z.2)):=by
     rw [List.getElem?_map,←List.getLast?_eq_getElem?,hz];rfl
    walk_at "mu"
    refine vT (fun J J=>rfl) (by simp only [fT,hf1]) (by have:=hl;simp at this ⊢;exact Nat.le_trans this (Nat.le_add_left _ _)) (j:=(y::ls).length - 1) ?_ hk2 (aE (k:=0) (by have:=hls z hzm;simp;exact this▸Nat.le_add_left _ _) rfl ?_)
    ·unfold hU
     rw [if_neg (by decide),if_pos (by simp;exact ar253)]
     simp;exact ar514
    intro b2 hb2
    refine rU (ps:=[sV,slfW]) aC ?_
    have e1:lS ((y::ls).map (·.1)) w=decide (z.1∈[sV,slfW]):=by
     unfold lS
     rw [decide_eq_true hw,Bool.true_and,decide_eq_decide,List.getLast?_map,hz]
     simp [hsup]
    rw [e1] at q
    exact q _ (g1.trans (.new hb2))
   ·rw [decide_eq_false (show ¬w=[115,117,112,101,114] from hsup)]
    have:lS ((y::ls).map (·.1)) w=false:=by
     unfold lS;rw [Bool.and_eq_false_iff];right;simp [hsup]
    replace q:=(this)▸q
    exact q H₁ g1
 ·refine Eq.symm (decide_eq_false (show w∉lX from hw))▸?_
  have:lS ahead w=false:=by unfold lS;rw [decide_eq_false hw];rfl
  replace q:=(this)▸q
  exact q H .refl
theorem ok_q {m:LE}{P:Bool→MH→Prop}{b:Bool}(hg:gv 10=.clst (nK.map .str)) (h5:m 5=.str w) (h6:m 6=.bool b) (q:∀ H',Gr H H'→P (!(b||decide (w∈fX))) H'):mT F gv E okE m H P:=by
 simp only [okE]
 walk_at "mu"
 repeat (simp only [h5,h6,hg,nuO,nuL,nuI,nuS,nuT,nuB,nuN,nuF,aF,aG];walk_at "mu")
 clear h6 h5 hg m ok_q
 cases b with
 | true=>exact q H .refl
 | false=>
  intro b1 hb1
  rw [Dt aC]
  refine ⟨by decide,?_⟩
  intro b2 hb2
  have g1:Gr H (H.set b1 (.list [.str [84],.str [85]])):=.new hb1
  refine Dj (ps:=fX) aC ?_
  have:=q _ (g1.trans (.new (o:=.list (fX.map .str)) hb2))
  cases hd:decide (w∈fX)<;>(rw [hd] at this;exact this)
theorem qZ (ahead:List Wd) (w:Wd):bP ahead w=(lS ahead w||decide (w∈fX)):=by
 unfold bP lS
 split
 ·rename_i h
  have:∀ w∈dW,w∉fX:=by decide +kernel
  rw [decide_eq_true h,decide_eq_false (this w h),Bool.true_and,Bool.or_false]
 ·rename_i h
  rw [decide_eq_false h,Bool.false_and,Bool.false_or]
end
section
variable {C:Cx}{H H₀:MH}{Q:QV}{E:MH→Prop}{n i k p f d:Nat}{L ws r:List Wd}{w x:Wd}{elem tyf:List Wd→Rs (PV×List Wd)}{F:FSt}{gv:Nat→PV}
noncomputable def angB:List MS:=[.asg 9 (.call 41 [.var 0,.bin .add (.bin .add (.var 1) (.int 1)) (.bi .int [.var 7]),.str [62],.gfun 44]),isnE 9,.asg 10 (sX 9 11),srtE 9 10 11,.swap [8,1] [pI 9 10,.idx (.var 9) (.int 1)]]
noncomputable def prB:List MS:=[.asg 5 (.call 40 [.var 0,.var 1]),.asg 6 sG,.ifs okE [.ret (.none)] [],
  .swap [1,8] [.bin .add (.var 1) (.int 1),.tuple [.tuple [],.tuple []]],
  .asg 7 (.cmp .eq (.slc (.var 0) (.var 1) (.bin .add (.var 1) (.int 2))) (.list [.str [58,58],.str [60]])),
  .ifs (.or [.var 7,.and [.not (.var 2),.cmp .eq (.call 40 [.var 0,.var 1]) (.str [60])]]) angB [],
  .expr (.meth .append (.var 3) [.bin .add (.tuple [.var 5]) (.var 8)]),
  .ifs (.cmp .ne (.call 40 [.var 0,.var 1]) (.str [58,58])) [.ret (.tuple [.bi .tuple [.var 3],.var 1])] [],
  .asg 1 (.bin .add (.var 1) (.int 1))]
theorem xT:gB=[.asg 3 (.list []),.fors [4] false (.bi .range [.bin .add (.bi .len [.var 0]) (.int 1)]) prB,.ret (.none)]:=rfl
noncomputable def TyR (C:Cx) (p:Nat) (L:List Wd) (A n:Nat):Prop:=∀ {H:MH}{i:Nat}{ws:List Wd}{Q:QV}{E:MH→Prop},Row H p L→AtW L ws i→Lv A n ws→RR H L Q (ty n ws)→aB C (n+1) 42 [.lst p,.int i] H Q E
theorem zL {ws ws':List Wd}{x:PV}(hE:Elm d tyf) (e:dH tyf ws=.ok (x,ws')):(∃ l,x=PV.str l)∨∃ l,x=PV.tup l:=by
 unfold dH at e
 split at e
 ·cases e;exact .inl ⟨_,rfl⟩
 ·exact .inr (hE _ _ _ e).2.1
theorem oM {elem:List Wd→Rs (PV×List Wd)}{en:Wd}:∀ (k:Nat) {ws:List Wd}{c c':Bool}{xs X:List PV}{r:List Wd},cP elem en k ws c xs=.ok (X,c',r)→X.length≤xs.length+k:=by
 intro x0
 induction x0 with
 | zero=>intro J J J J J J h;exact (by contradiction)
 | succ k ih=>
  intro ws c c' xs X r h
  rw [cP] at h
  split at h
  ·cases h;exact Nat.le_add_right _ _
  ·split at h
   ·cases h
   ·split at h
    ·cases h
    ·cases h
    ·have:=ih h
     simp at this;exact Nat.le_trans this (Nat.le_of_eq (Nat.add_right_comm _ _ _))
theorem xK {elem:List Wd→Rs (PV×List Wd)}{en:Wd}{ok:List Wd→Prop}(hno:∀ ws,ok ws→elem ws≠.out) (hok:∀ ws x ws',ok ws→elem ws=.ok (x,ws')→ok ws') (hcm:∀ r,ok ([44]::r)→ok r):∀ (k:Nat) {ws:List Wd}{c:Bool}{xs:List PV},ok ws→cP elem en k ws c xs≠.out:=by
 intro x0
 induction x0 with
 | zero=>intro _ _ _ _ h;exact (by contradiction)
 | succ k ih=>
  intro ws c xs ho h
  rw [cP] at h
  split at h
  ·refine hC fun hG=>?_
   cases h<;>(refine hG ?_;clear hG)
  ·split at h
   ·cases h
   ·split at h
    ·rename_i e;exact hno _ ho e
    ·cases h
    ·rename_i x ws' e
     have ho':=hok _ _ _ ho e
     refine ih (ws:=if ws'.head?=some [44] then ws'.tail else ws') ?_ h
     split
     ·rename_i hh
      rw [aW hh] at ho'
      exact hcm _ ho'
     ·exact ho'
section
variable {A:Nat}
theorem Ee (ho:Lv A n ws):dH (ty n) ws≠.out:=by
 unfold dH
 split
 ·exact fun h=>nomatch h
 ·exact lV n ho.en
theorem uC {ws':List Wd}{x:PV}(ho:Lv A n ws) (e:dH (ty n) ws=.ok (x,ws')):Lv A n ws':=by
 unfold dH at e
 split at e
 ·rename_i hg
  cases e
  cases ws with
  | nil=>cases hg
  | cons w r=>exact ho.tail (mZ hg)
 ·refine X03 ((bB n).sub e) fun h1 h2 _=>?_
  exact ho.sub h1 h2
theorem TyR.rest (Z:TyR C p L A n) (R:RF C) (hv:∀ w∈L,w.length≤1000) (W:Row H p L) (T:AtW L ws i) (ho:Lv A n ws) (q:RRest H L Q (cP (dH (ty n)) [62] (L.length+1) ws true [])):aB C (n+3) 41 [.lst p,.int i,.str [62],.fn 44] H Q E:=
 Ap (M:=n+1) (ok:=Lv A n) (elem:=dH (ty n)) R (by decide) (fun W T ho q=>arg_r R Z W T ho hv q) (fun ws ho=>Ee ho) (fun ws x ws' ho e=>uC ho e) (fun r h=>h.tail (rfl)) W T ho q
theorem Jp (n:Nat) (T:AtW L ws i):Told (eW (ty n) (ws.length+1) ws [] []) (cP (dH (ty n)) [62] (L.length+1) ws true []):=by
 have:=T.rlen
 exact xJ (rs:=[]) (fun ws x ws' e=>((bB n).sub e).2.2) (fun ws x ws' e=>(bB n _ _ _ e).2.1) (L.length+1) (ws.length+1) (this▸Nat.le_add_left _ _) (zO) cZ
theorem ang_r (Z:TyR C p L A n) (R:RF C) (hv:∀ w∈L,w.length≤1000) (W:Row H p L) {m:LE}{Q:QS}{c:Bool}(T:AtW L ws (i+1+(if c then 1 else 0))) (ho:Lv A n ws) (h0:m 0=.lst p) (h1:m 1=.int i) (h7:m 7=.bool c)
  (qf:kA (ty n) w ws=.fail→∀ m' H',Gr H H'→Q (.ret .none) m' H')
  (qo:∀ a b r',kA (ty n) w ws=.ok (.tup [.str w,.tup a,.tup b],r')→∀ m' H' j,Gr H H'→AtW L r' j→m' 1=.int (j:Nat)→m' 8=.tup [.tup a,.tup b]→(∀ k,k<6→k≠1→m' k=m k)→Q .next m' H'):mSs (aB C (n+3)) gv E angB m H Q:=by
 simp only [angB]
 generalize hT:[isnE 9,.asg 10 (sX 9 11),srtE 9 10 11,.swap [8,1] [pI 9 10,.idx (.var 9) (.int 1)]]=tl
 walk_at "mu"
 simp only [h0,h1,h7]
 walk_at "mu"
 have hi:(i:Int)+1+(if c=true then 1 else 0)=((i+1+(if c then 1 else 0):Nat):Int):=by cases c<;>simp
 refine Eq.symm (hi)▸?_
 have hW:=W.len
 refine Z.rest R hv W T ho ?_
 have told:=Jp n T
 have hsort:=fun {X c' r'}=>qV (en:=[62]) (elem:=dH (ty n)) (fun ws x ws' e=>zL (bB n) e) (L.length+1) (ws:=ws) (c:=true) (c':=c') (xs:=[]) (X:=X) (r:=r') (fun x h=>nomatch h)
 have hlen:=fun {X c' r'}=>oM (elem:=dH (ty n)) (en:=[62]) (L.length+1) (ws:=ws) (c:=true) (c':=c') (xs:=[]) (X:=X) (r:=r')
 have hrno:=xK (en:=[62]) (elem:=dH (ty n)) (ok:=Lv A n) (fun ws ho=>Ee ho) (fun ws x ws' ho e=>uC ho e) (fun r h=>h.tail (rfl)) (L.length+1) (c:=true) (xs:=[]) ho
 unfold kA at qf qo
 subst hT
 cases eP:eW (ty n) (ws.length+1) ws [] [] with
 | out=>exact absurd eP (wO (bB n) (fun ws h=>lV n h.en) _ ho)
 | fail=>
  rw [eP] at told qf
  have qf:=qf rfl
  rcases told with e|e|⟨X,c',r',e,hX⟩
  ·refine Eq.symm (e)▸?_
   intro H' g
   exact zQ rfl (qf _ _ g)
  ·exact absurd e hrno
  ·refine Eq.symm (e)▸?_
   intro H' f j hf hn g T'
   have:=hlen e
   refine nY (f:=f) (X:=X) (j:=j) (c:=c') (by decide) rfl hf (hsort e) (by simp at this;exact ar258 hW this) (fun J m' H'' g'=>qf _ _ (g.trans g')) fun e=>absurd e (jV hX)
 | ok y=>
  refine hC fun hG=>?_
  obtain ⟨a,b,r'⟩:=y
  rw [eP] at told qo
  obtain ⟨rs,ts,c',rfl,rfl,e⟩:=told
  have qo:=qo rs ts r' rfl
  refine X26 (kZ (bB n) _ (rs:=[]) (ts:=[]) (fun x h=>nomatch h) aR cZ eP) fun rs' ts' e1 e2 e3 e4 e5 J=>?_
  clear e4 eP hrno hi qf h7 h0 ho
  cases e1;cases e2
  refine hG ?_;clear hG
  refine Eq.symm (e)▸?_
  intro H' f j hf hn g T'
  have:=hlen e
  have hf2:=lW e3 e5
  refine nY (f:=f) (X:=rs++ts) (j:=j) (c:=c') (by decide) rfl hf (hsort e) (by simp at this ⊢;exact Ei hW this) (fun h=>absurd ?_ h) fun J b H'' hb g'=>?_
  ·rw [hf2,List.take_left];exact Dk e3
  ·rw [hf2] at hb
   generalize hP:pI 9 10=P
   walk_at "mu"
   subst hP
   have hf':H'' f=some (.list (rs++ts)):=(g' f (by rw [hf];exact fun x=>nomatch x)).trans hf
   refine pair_q (f:=f) (b:=b) (j:=j) (c:=c') (rs:=rs) (ts:=ts) rfl rfl hf' hb (by simp at this ⊢;exact Ei hW this) fun H3 g3=>?_
   refine ⟨by simp,?_⟩
   refine qo _ _ j ((g.trans g').trans g3) T' rfl rfl fun k hk h1=>?_
   have:k≠8∧k≠9∧k≠10:=by exact ar260 hk
   simp [aJ,h1,this]
end
end
section
variable {C:Cx}{H H₀:MH}{E:MH→Prop}{n i k p f d A j:Nat}{L ws r r':List Wd}{w x:Wd}{F:FSt}{gv:Nat→PV}
noncomputable def finB:List MS:=[.expr (.meth .append (.var 3) [.bin .add (.tuple [.var 5]) (.var 8)]),
  .ifs (.cmp .ne (.call 40 [.var 0,.var 1]) (.str [58,58])) [.ret (.tuple [.bi .tuple [.var 3],.var 1])] [],
  .asg 1 (.bin .add (.var 1) (.int 1))]
theorem Fo:prB=.asg 5 (.call 40 [.var 0,.var 1])::.asg 6 sG::.ifs okE [.ret (.none)] []::.swap [1,8] [.bin .add (.var 1) (.int 1),.tuple [.tuple [],.tuple []]] ::
  .asg 7 (.cmp .eq (.slc (.var 0) (.var 1) (.bin .add (.var 1) (.int 2))) (.list [.str [58,58],.str [60]])) ::
  .ifs (.or [.var 7,.and [.not (.var 2),.cmp .eq (.call 40 [.var 0,.var 1]) (.str [60])]]) angB []::finB:=rfl
theorem pr_fin (R:RF C) (W:Row H p L) (T:AtW L r j) {m:LE}{Q:QS}{acc a b:List PV}(h0:m 0=.lst p) (h1:m 1=.int j) (h3:m 3=.lst f) (h5:m 5=.str w) (h8:m 8=.tup [.tup a,.tup b]) (hf:H f=some (.list acc)) (hpf:p≠f) (hl:acc.length≤1000000)
  (qn:r.head?=some iM→∀ m',m' 0=.lst p→m' 1=.int (j+1:Nat)→m' 2=m 2→m' 3=.lst f→Q .next m' (H.set f (.list (acc++[.tup [.str w,.tup a,.tup b]]))))
  (qr:r.head?≠some iM→∀ m',Q (.ret (.tup [.tup (acc++[.tup [.str w,.tup a,.tup b]]),.int j])) m' (H.set f (.list (acc++[.tup [.str w,.tup a,.tup b]])))):mSs (aB C (n+1)) gv E finB m H Q:=by
 simp only [finB]
 walk_at "mu"
 repeat (simp only [h0,h1,h3,h5,h8,nuO,nuL,nuI,nuS,nuT,nuB,nuN,nuF,aF,aG];walk_at "mu")
 refine I03 (aS hf) (Nat.le_of_ble_eq_true rfl) (bF hf (Nat.lt_of_le_of_lt hl (Nat.le_of_ble_eq_true rfl)) ?_)
 have W2:Row (H.set f (.list (acc++[.tup [.str w,.tup a,.tup b]]))) p L:=⟨(aL hpf).trans W.at_,W.len⟩
 walk_at "mu"
 repeat (simp only [h0,h1,h3,h5,h8,nuO,nuL,nuI,nuS,nuT,nuB,nuN,nuF,aF,aG];walk_at "mu")
 refine cH R W2 T ?_
 rw [nA]
 by_cases hc:r.head?=some iM
 ·rw [decide_eq_true (show r.headD []=[58,58] from (bW (by decide)).mpr hc)]
  walk_at "mu"
  repeat (simp only [h0,h1,h3,h5,h8,nuO,nuL,nuI,nuS,nuT,nuB,nuN,nuF,aF,aG];walk_at "mu")
  exact qn hc _ h0 rfl rfl h3
 ·rw [decide_eq_false (show ¬r.headD []=[58,58] from fun h=>hc ((bW (by decide)).mp h))]
  walk_at "mu"
  repeat (simp only [h0,h1,h3,h5,h8,nuO,nuL,nuI,nuS,nuT,nuB,nuN,nuF,aF,aG];walk_at "mu")
  rw [cJ aC]
  exact ⟨by simp;exact Nat.le_trans hl (Nat.le_add_left _ _),qr hc _⟩
theorem Fd {tyf:List Wd→Rs (PV×List Wd)}{isE:Bool}(h1:r.take 2≠[iM,[60]]) (h2:¬(isE=false∧r.head?=some [60])):jC tyf isE w r=.ok (.tup [.str w,.tup [],.tup []],r):=(if_neg h1).trans (if_neg h2)
theorem Au (Z:TyR C p L A n) (R:RF C) (hv:∀ w∈L,w.length≤1000) (hg9:C.gv 9=.clst (lX.map .str)) (hg10:C.gv 10=.clst (nK.map .str)) {isE:Bool}
  {wb:LE→MH→QS→Prop} (hwb:∀ m H Q,wb m H Q=mSs (aB C (n+3)) C.gv nope prB m H Q) (hf0:H₀ f=none) (hpf:p≠f) {Q:QS} :
  ∀ (its:List PV) {k i:Nat} {ahead ws:List Wd} {acc:List PV} {m:LE} {H:MH},ws.length<k→k≤its.length→Row H p L→AtW L ws i→Pv A n ws→H f=some (.list acc)→Gr H₀ H→wR acc ahead→acc.length+its.length≤1000000 →
   m 0=.lst p→m 1=.int i→m 2=.bool isE→m 3=.lst f →
   (iS (ty n) isE k ahead ws acc=.fail→∀ m' H',Gr H₀ H'→Q (.ret .none) m' H') →
   (∀ xs r',iS (ty n) isE k ahead ws acc=.ok (xs,r')→∀ m' H' (j:Nat),Gr H₀ H'→AtW L r' j→Q (.ret (.tup [.tup xs,.int j])) m' H') →
   cQ (bC [4] false) wb (fun J=>True) its m H Q:=by
 intro x0
 induction x0 with
 | nil=>intro k i ahead ws acc m H hk hk2 W T ho hf gr hs hsz h0 h1 h2 h3 qf qo;simp at hk2;exact (ar263 hk hk2).elim
 | cons v its ih=>
  intro k i ahead ws acc m H hk hk2 W T ho hf gr hs hsz h0 h1 h2 h3 qf qo
  refine hC fun hG=>?_
  obtain ⟨k,rfl⟩:∃ k',k=k'+1:=⟨k - 1,ar264 hk⟩<;>(refine hG ?_;clear hG)
  rw [dE]
  dsimp only [dC,dB,dP]
  rw [hwb,Fo]
  generalize hF:finB=fb
  generalize hA:angB=ab
  generalize hO:okE=oe
  generalize hB:sG=be
  walk_at "mu"
  repeat (simp only [h0,h1,h2,h3,nuO,nuL,nuI,nuS,nuT,nuB,nuN,nuF,aF,aG];walk_at "mu")
  refine cH R W T ?_
  subst hB
  walk_at "mu"
  refine begin_q (f:=f) (acc:=acc) (ahead:=ahead) (w:=ws.headD []) hg9 rfl h3 hf hs (Nat.le_trans (Nat.le_add_right _ _) (Nat.le_trans hsz (Nat.le_of_ble_eq_true rfl))) fun H₁ g1=>?_
  subst hO
  refine ok_q (w:=ws.headD []) (b:=lS ahead (ws.headD [])) hg10 rfl rfl fun H₂ g2=>?_
  rw [←qZ]
  have gr2:=(gr.trans g1).trans g2
  have g12:=g1.trans g2
  cases ws with
  | nil=>
   have:bP ahead (([]:List Wd).headD [])=false:=by
    rw [qZ]
    have e1:lS ahead ([]:Wd)=false:=by unfold lS;rfl
    have e2:decide (([]:Wd)∈fX)=false:=rfl
    show (lS ahead []||decide (([]:Wd)∈fX))=false
    rw [e1,e2];rfl
   refine Eq.symm (this)▸?_
   refine qf ?_ _ _ gr2
   rw [iS]
  | cons w r=>
   refine Eq.symm (List.headD_cons)▸?_
   rw [cU] at qf qo
   cases hn:bP ahead w with
   | false=>
    rw [hn] at qf
    exact qf (rfl) _ _ gr2
   | true=>
    rw [hn,if_pos rfl] at qf qo
    walk_at "mu"
    repeat (simp only [h0,h1,h2,h3,nuO,nuL,nuI,nuS,nuT,nuB,nuN,nuF,aF,aG];walk_at "mu")
    have W2:=W.gr g12
    have T2:=T.next
    have hi:(i:Int)+1=((i+1:Nat):Int):=by exact uF
    refine W2.slc T2 (m:=2) hi (rfl) (Nat.le_of_ble_eq_true rfl) fun b1 hb1=>?_
    intro b2 hb2
    have hne:b1≠b2:=fun e=>by rw [←e,aC] at hb2;cases hb2
    refine Dq (xs:=r.take 2) (ys:=[[58,58],[60]]) ((aL hne).trans aC) aC ?_
    have g3:Gr H₂ (H₂.set b1 (.list ((r.take 2).map .str))):=.new hb1
    have g4:=g3.put (o:=.list ([[58,58],[60]].map .str)) (aX g3 hb2)
    have g24:=g12.trans g4
    have hp':=ho.tail (qY hn)
    have hf4:=(g24 f (by rw [hf];exact fun x=>nomatch x)).trans hf
    have W4:=W.gr g24
    have gr4:=gr.trans g24
    simp only [List.map_cons,List.map_nil] at g4 g24 hf4 W4 gr4 ⊢
    generalize (H₂.set b1 (.list ((r.take 2).map .str))).set b2 (.list [.str [58,58],.str [60]])=H₄ at *
    clear hb2 hb1 g3 W2 gr2
    have fin:∀ {m':LE} {H':MH} {j:Nat} {r':List Wd} {a b:List PV},Gr H₀ H'→Row H' p L→AtW L r' j→H' f=some (.list acc)→m' 0=.lst p→m' 1=.int j→m' 2=.bool isE→m' 3=.lst f→m' 5=.str w→m' 8=.tup [.tup a,.tup b] →
      jC (ty n) isE w r=.ok (.tup [.str w,.tup a,.tup b],r')→
      mSs (aB C (n+3)) C.gv nope fb m' H' (eN (cQ (bC [4] false) wb (fun J=>True) its) Q):=by
     intro m' H' j r' a b gr' W' T' hf' e0 e1 e2 e3 e5 e8 hseg
     rw [hseg] at qf qo
     dsimp only at qf qo
     refine X02 (xD (bB n) hseg) fun s1 s2=>?_
     clear g24 g4 hne b2 b1 hn g12 g2
     subst hF
     refine pr_fin (n:=n+2) R W' T' e0 e1 e3 e5 e8 hf' hpf (Nat.le_trans (Nat.le_add_right _ _) hsz) (fun hc m'' e0 e1 e2' e3=>?_) (fun hc m''=>?_)
     ·unfold pth at qf qo
      rw [if_pos hc] at qf qo
      have T3:=T'
      replace T3:=(aW hc)▸T3
      have hp2:=hp'.sub s1 s2
      replace hp2:=(aW hc)▸hp2
      have hrl:r'.tail.length<k:=by
       have:=s1.length_le
       simp at hk
       have:r'.tail.length<r'.length∨r'=[]:=by cases r'<;>simp
       rcases this with h|h
       ·exact Nat.lt_trans h (Nat.lt_of_le_of_lt this hk)
       ·rw [h] at hc;cases hc
      refine ih hrl (by simp at hk2;exact ar30 hk2) ⟨(aL hpf).trans W'.at_,W'.len⟩ T3.next (hp2.tail (rfl)) aC (gr'.put hf0) ?_ (by simp at hsz ⊢;exact zP hsz) e0 e1 (e2'.trans e2) e3 qf qo
      clear hrl hp2 T3 e2' s2 s1 hf' W'
      obtain ⟨ls,rfl,rfl,hls⟩:=hs
      exact ⟨ls++[(w,[.tup a,.tup b])],by simp,by simp,fun q hq=>by
       rcases List.mem_append.mp hq with h|h
       ·exact hls q h
       ·clear hq hls H₂ g1 H₁ hsz hf ho
        rcases List.mem_singleton.mp h with rfl;rfl⟩
     ·unfold pth at qo
      replace qo:=(if_neg hc)▸qo
      exact qo _ _ rfl _ _ j (gr'.put hf0) T'
    have ang:∀ {m':LE} {c:Bool} {ws':List Wd},AtW L ws' (i+1+1+(if c then 1 else 0))→Lv A n ws'→m' 0=.lst p→m' 1=.int (i+1:Nat)→m' 2=.bool isE→m' 3=.lst f→m' 5=.str w→m' 7=.bool c →
      jC (ty n) isE w r=kA (ty n) w ws' →
      mSs (aB C (n+3)) C.gv nope ab m' H₄ (qO (mSs (aB C (n+3)) C.gv nope fb) (eN (cQ (bC [4] false) wb (fun J=>True) its) Q)):=by
     intro m' c ws' T' hl e0 e1 e2 e3 e5 e7 hseg
     subst hA
     refine ang_r (w:=w) Z R hv W4 T' hl e0 e1 e7 (fun e m'' H'' g=>?_) fun a b r' e m'' H'' j g T'' e1' e8 same=>?_
     ·rw [hseg,e] at qf
      exact qf rfl _ _ (gr4.trans g)
     ·exact fin (gr4.trans g) (W4.gr g) T'' ((g f (by rw [hf4];exact fun x=>nomatch x)).trans hf4) ((same 0 (Nat.le_of_ble_eq_true rfl) (by decide)).trans e0) e1' ((same 2 (Nat.le_of_ble_eq_true rfl) (by decide)).trans e2) ((same 3 (Nat.le_of_ble_eq_true rfl) (by decide)).trans e3) ((same 5 (Nat.le_of_ble_eq_true rfl) (by decide)).trans e5) e8 (hseg.trans e)
    by_cases hc:r.take 2=[[58,58],[60]]
    ·obtain ⟨r2,rfl⟩:∃ r2,r=[58,58]::[60]::r2:=⟨_,take2 hc⟩
     refine ang (c:=true) (ws':=r2) T2.next.next ((hp'.tail (rfl)).opn (by decide)) h0 rfl h2 h3 rfl rfl (xF _ _ _ _)
    ·refine Eq.symm (decide_eq_false hc)▸?_
     have plain:¬(isE=false∧r.head?=some [60])→mSs (aB C (n+3)) C.gv nope fb ((((((m.set 4 v).set 5 (PV.str w)).set 6 (PV.bool (lS ahead w))).set 1 (PV.int (i+1))).set 8 (PV.tup [PV.tup [],PV.tup []])).set 7 (PV.bool false)) H₄ (eN (cQ (bC [4] false) wb (fun J=>True) its) Q):=fun hh=>
      fin gr4 W4 T2 hf4 h0 rfl h2 h3 rfl rfl (Fd hc hh)
     clear hc fin gr4 hf4 g24 g4 hne b2
     cases isE with
     | true=>
      walk_at "mu"
      repeat (simp only [h0,h1,h2,h3,nuO,nuL,nuI,nuS,nuT,nuB,nuN,nuF,aF,aG];walk_at "mu")
      exact plain (fun h=>nomatch h.1)
     | false=>
      walk_at "mu"
      repeat (simp only [h0,h1,h2,h3,nuO,nuL,nuI,nuS,nuT,nuB,nuN,nuF,aF,aG];walk_at "mu")
      refine Eq.symm (hi)▸?_
      refine cH R W4 T2 ?_
      by_cases hl:r.head?=some [60]
      ·walk_at "mu"
       rw [decide_eq_true (show r.headD []=[60] from (bW (by decide)).mpr hl)]
       have e:=aW hl
       rw [e] at T2 hp'
       refine ang (c:=false) (ws':=r.tail) T2.next (hp'.opn (by decide)) h0 rfl h2 h3 rfl rfl ?_
       rw [e];exact uY _ _ _
      ·walk_at "mu"
       rw [decide_eq_false (show ¬r.headD []=[60] from fun h=>hl ((bW (by decide)).mp h))]
       exact plain (fun h=>hl h.2)
end
section
variable {C:Cx}{H H₀:MH}{Q:QV}{E:MH→Prop}{n i k p f d A j:Nat}{L ws r r':List Wd}{w x:Wd}{F:FSt}{gv:Nat→PV}
theorem Av (Z:TyR C p L A n) (R:RF C) (G:dM C) (hv:∀ w∈L,w.length≤1000) {isE:Bool}(W:Row H p L) (T:AtW L ws i) (ho:Pv A n ws) (q:RR H L Q (spath (ty n) isE ws)):aB C (n+4) 43 [.lst p,.int i,.bool isE] H Q E:=by
 have hl:=W.len
 have hr:=T.rlen
 apply R.path rfl
 refine Eq.symm (xT)▸?_
 generalize hB:prB=B
 intro f hf
 have hpf:p≠f:=fun e=>by rw [←e,W.at_] at hf;cases hf
 have W':Row (H.set f (.list [])) p L:=⟨(aL hpf).trans W.at_,W.len⟩
 walk_at "mu"
 refine Eq.symm (cV W'.at_)▸?_
 refine ⟨by simp;exact lA hl,?_⟩
 refine ⟨by simp;exact Ej,by simp;exact Eg hl,?_⟩
 dsimp only [srcT,srcR]
 refine ⟨by simp;exact Ej,by simp;exact Eg hl,?_⟩
 subst hB
 have hno:=iQ (A:=A) (bB n) (fun ws h=>lV n h.en) (isE:=isE) ho
 unfold spath at q hno
 refine Au (H₀:=H) (k:=ws.length+1) (acc:=[]) (ahead:=[]) (isE:=isE) Z R hv G.g9 G.g10 (fun J J J=>rfl) hf hpf _ (Nat.lt_succ_self _) (by simp;exact ar474 hr) W' T ho aC (.new hf) (I13 ([]) rfl rfl (fun J h=>nomatch h)) (by simp;exact Nat.le_trans hl (Nat.le_add_left _ _)) rfl rfl rfl rfl (fun e m' H' g=>?_) (fun xs r' e m' H' j g T'=>?_)
 ·rw [e] at q;exact q H' g
 ·rw [e] at q;exact q H' j g T'
noncomputable def TyE (C:Cx) (p:Nat) (L:List Wd) (A n:Nat):Prop:=∀ {H:MH}{i:Nat}{ws:List Wd}{Q:QV}{E:MH→Prop},Row H p L→AtW L ws i→En A n ws→RR H L Q (ty n ws)→aB C (n+1) 42 [.lst p,.int i] H Q E
theorem TyE.tyR (Z:TyE C p L A n):TyR C p L A n:=fun W T ho q=>Z W T ho.en q
theorem Hg (Z:TyE C p L A n) (R:RF C) (W:Row H p L) (T:AtW L ([40]::r) i) (ho:Lv A n r) (q:RR H L Q (ty (n+4) ([40]::r))):aB C (n+5) 42 [.lst p,.int i] H Q E:=by
 have hl:=W.len
 have hr:=T.rlen
 apply R.type rfl
 refine cH R W T ?_
 refine Eq.symm (List.headD_cons)▸?_
 refine aB.mono (d:=n+2) (ar269) ?_
 refine Ap (M:=n) (ok:=Lv A n) (elem:=ty n) R (by decide) (fun W T ho q=>TyE.tyR Z W T ho q) (fun ws h=>lV n h.en) (fun ws x ws' ho e=>?_) (fun r h=>h.tail (rfl)) W T.next ho ?_
 ·refine X03 ((bB n).sub e) fun h1 h2 J=>?_
  exact ho.sub h1 h2
 simp only [List.length_cons] at hr
 refine Eq.symm (xI (fun ws x ws' e=>((bB n).sub e).2.2) (L.length+1) (r.length+1) (ar270 hr) (zO))▸?_
 have q:RR H L Q (match iK (ty n) (r.length+1) r [] with
   | .out=>.out
   | .fail=>.fail
   | .ok (xs,c,r')=>.ok (if xs.length=1∧c=false then xs.headD .none else .tup [.str kL,.int 0,.tup xs],r')):=q
 cases e:iK (ty n) (r.length+1) r [] with
 | out=>rw [e] at q;exact q
 | fail=>
  replace q:=(e)▸q
  intro H' g
  exact q H' g
 | ok y=>
  obtain ⟨xs,c,r'⟩:=y
  replace q:=(e)▸q
  dsimp only at q
  intro H' f j hf hn g T'
  refine X04 (xY (bB n) _ aR cZ e) fun a1 a2 a3 a4=>?_
  have hlen:xs.length≤200000:=by
   have e2:=xI (tyf:=ty n) (fun ws x ws' e=>((bB n).sub e).2.2) (L.length+1) (r.length+1) (ws:=r) (xs:=[]) (ar270 hr) (zO)
   rw [e] at e2
   have:=oM _ e2
   simp at this;exact ar271 hl this
  walk_at "mu"
  refine aE (k:=0) (Nat.le_of_ble_eq_true rfl) rfl ?_
  refine Eq.symm (cV hf)▸?_
  refine ⟨(Nat.le_trans hlen (Nat.le_add_left _ _)),?_⟩
  walk_at "mu"
  have tail:RR H L Q (.ok (.tup [.str kL,.int 0,.tup xs],r'))→fY (.tup [.lst f,.int j,.bool c]) (.int 0) H' fun v H'=>biQ .tuple [v] H' fun v H'=>fY (.tup [.lst f,.int j,.bool c]) (.int 1) H' fun v_1 H'=>Q (.tup [.tup [.str [116,117,112,108,101],.int 0,v],v_1]) H':=fun q=>by
   refine aE (k:=0) (Nat.le_of_ble_eq_true rfl) rfl ?_
   refine Eq.symm (cJ hf)▸?_
   refine ⟨(Nat.le_trans hlen (Nat.le_add_left _ _)),aE (k:=1) (Nat.le_of_ble_eq_true rfl) rfl (q H' j g T')⟩
  by_cases h1:xs.length=1
  ·refine Eq.symm (decide_eq_true (show (xs.length:Int)=1 by exact h1▸rfl))▸?_
   refine aE (k:=2) (Nat.le_of_ble_eq_true rfl) rfl ?_
   clear hlen a4 a3 a2 a1 hn e hr
   cases c with
   | true=>
    rw [if_neg (fun h=>nomatch h.2)] at q
    exact tail q
   | false=>
    rw [if_pos ⟨h1,rfl⟩] at q
    refine hC fun hG=>?_
    obtain ⟨y,rfl⟩:∃ y,xs=[y]:=List.length_eq_one_iff.mp h1<;>(refine hG ?_;clear hG)
    walk_at "mu"
    refine aE (k:=0) (Nat.le_of_ble_eq_true rfl) rfl (bX (j:=0) hf (Nat.le_of_ble_eq_true rfl) rfl rfl (aE (k:=1) (Nat.le_of_ble_eq_true rfl) rfl (q H' j g T')))
  ·refine Eq.symm (decide_eq_false (show ¬(xs.length:Int)=1 by exact ar274 h1))▸?_
   rw [if_neg (fun h=>h1 h.1)] at q
   exact tail q
theorem Hh (Z:TyE C p L A n) (R:RF C) (W:Row H p L) (T:AtW L ([91]::r) i) (ho:Lv A n r) (q:RR H L Q (ty (n+4) ([91]::r))):aB C (n+5) 42 [.lst p,.int i] H Q E:=by
 have hl:=W.len
 have hr:=T.rlen
 apply R.type rfl
 refine cH R W T ?_
 refine Eq.symm (List.headD_cons)▸?_
 have hi:(i:Int)+1=((i+1:Nat):Int):=by exact uF
 refine aB.mono (d:=n+1) (Nat.lt_add_of_pos_right (Nat.succ_pos _)) (TyE.tyR Z W T.next ho ?_)
 rw [ty_arr] at q
 unfold tC at q
 cases e:ty n r with
 | out=>rw [e] at q;exact q
 | fail=>
  replace q:=(e)▸q
  intro H' g
  exact q H' g
 | ok y=>
  obtain ⟨t,r'⟩:=y
  replace q:=(e)▸q
  dsimp only at q
  intro H' j g T'
  walk_at "mu"
  refine aE (k:=1) (Nat.le_of_ble_eq_true rfl) rfl (aE (k:=1) (Nat.le_of_ble_eq_true rfl) rfl ?_)
  refine (W.gr g).slc T' (m:=3) rfl (rfl) (Nat.le_of_ble_eq_true rfl) fun b1 hb1=>?_
  intro b2 hb2
  have hne:b1≠b2:=fun e=>by rw [←e,aC] at hb2;cases hb2
  refine ne_strs (xs:=r'.take 3) (ys:=[[59],[51],[93]]) ((aL hne).trans aC) aC ?_
  have g3:Gr H' (H'.set b1 (.list ((r'.take 3).map .str))):=.new hb1
  have g4:=g.trans (g3.put (o:=.list [.str [59],.str [51],.str [93]]) (aX g3 hb2))
  by_cases hc:r'.take 3=[[59],[51],[93]]
  ·rw [if_pos hc] at q
   rw [take3 hc] at T'
   refine Eq.symm (decide_eq_true hc)▸?_
   walk_at "mu"
   refine aE (k:=0) (Nat.le_of_ble_eq_true rfl) rfl (aE (k:=1) (Nat.le_of_ble_eq_true rfl) rfl ?_)
   exact q _ (j+3) g4 T'.next.next.next
  ·refine Eq.symm (decide_eq_false hc)▸?_
   rw [if_neg hc] at q
   exact q _ g4
noncomputable def refB:List MS:=[.asg 5 (.cmp .eq (.call 40 [.var 0,.var 1]) (.str [109,117,116])),
  .asg 3 (.call 42 [.var 0,.bin .add (.var 1) (.bi .int [.var 5])]),
  .ret (.ite (.cmp .is_ (.var 3) (.none)) (.none) (.tuple [.tuple [.str [114,101,102],.int 0,.var 4,.var 5,.idx (.var 3) (.int 0)],.idx (.var 3) (.int 1)]))]
noncomputable def refA:List MS:=.asg 4 (.ite (.cmp .eq (.slc (.call 40 [.var 0,.bin .add (.var 1) (.int 1)]) .none (.int 1)) (.str [39])) (.call 40 [.var 0,.bin .add (.var 1) (.int 1)]) (.none)) ::
  .asg 1 (.bin .add (.bin .add (.var 1) (.int 1)) (.bi .int [.cmp .isn (.var 4) (.none)]))::refB
theorem rH (ws:List Wd):fP ws=if ws.head?=some rG then (true,ws.tail) else (false,ws):=rfl
theorem vA {M:Nat}(Z:TyE C p L A n) (R:RF C) (hM:n+1≤M+1) (W:Row H p L) (T:AtW L ws i) (ho:En A n ws) {m:LE}{gv:Nat→PV}(h0:m 0=.lst p) (h1:m 1=.int i) (h4:m 4≠.undef) {Qs:QS}(q:RR H L (fun v H'=>∀ m',Qs (.ret v) m' H') (iJ (ty n) (m 4) ws)) :
  mSs (aB C (M+1)) gv E refB m H Qs:=by
 simp only [refB]
 walk_at "mu"
 repeat (simp only [h0,h1,nuO,nuL,nuI,nuS,nuT,nuB,nuN,nuF,aF,aG];walk_at "mu")
 refine cH R W T ?_
 walk_at "mu"
 unfold iJ at q
 rw [rH] at q
 generalize hb:decide (ws.headD []=[109,117,116])=b
 have cont:∀ {ws':List Wd} {i':Nat} {z:Int},z=(i':Int)→AtW L ws' i'→En A n ws' →
   RR H L (fun v H'=>∀ m',Qs (.ret v) m' H') (match ty n ws' with
    | .out=>.out
    | .fail=>.fail
    | .ok (t,r₃)=>.ok (.tup [.str kM,.int 0,m 4,.bool b,t],r₃))→aB C (M+1) 42 [.lst p,.int z] H (fun v H'=>nu v (cL H' .is_ v .none fun r=>match r with
     | true=>Qs (.ret .none) ((m.set 5 (.bool b)).set 3 v) H'
     | false=>nu (m 4) (nu v (fY v (.int 0) H' fun v_1 H'=>nu v (fY v (.int 1) H' fun v_2 H'=>Qs (.ret (.tup [.tup [.str [114,101,102],.int 0,m 4,.bool b,v_1],v_2])) ((m.set 5 (.bool b)).set 3 v) H'))))) E:=by
  intro ws' i' z hi T' ho' q
  refine Eq.symm (hi)▸?_
  refine aB.mono ((hM):n+1≤M+1) (Z W T' ho' ?_)
  cases e:ty n ws' with
  | out=>rw [e] at q;exact q
  | fail=>
   replace q:=(e)▸q
   intro H' g
   exact q H' g _
  | ok y=>
   obtain ⟨t,r'⟩:=y
   replace q:=(e)▸q
   dsimp only at q
   intro H' j g T''
   walk_at "mu"
   refine (cI.mpr ⟨h4,aE (k:=0) (Nat.le_of_ble_eq_true rfl) rfl (aE (k:=1) (Nat.le_of_ble_eq_true rfl) rfl (q H' j g T'' _))⟩)
 by_cases hm:ws.head?=some rG
 ·replace q:=(if_pos hm)▸q
  have hbt:b=true:=by rw [←hb,decide_eq_true (show ws.headD []=[109,117,116] from (bW (by decide)).mpr hm)]
  subst hbt
  have T2:=T
  replace T2:=(aW hm)▸T2
  have ho3:=ho.mut
  rw [rH,if_pos hm] at ho3
  walk_at "mu"
  repeat (simp only [h0,h1,nuO,nuL,nuI,nuS,nuT,nuB,nuN,nuF,aF,aG];walk_at "mu")
  exact cont (i':=i+1) (rfl) T2.next ho3 q
 ·replace q:=(if_neg hm)▸q
  have hbt:b=false:=by rw [←hb,decide_eq_false (show ¬ws.headD []=[109,117,116] from fun h=>hm ((bW (by decide)).mp h))]
  subst hbt
  walk_at "mu"
  repeat (simp only [h0,h1,nuO,nuL,nuI,nuS,nuT,nuB,nuN,nuF,aF,aG];walk_at "mu")
  exact cont (i':=i) (rfl) T ho q
theorem RR.imp {Q Q':QV}(h:∀ v H',Q v H'→Q' v H'):∀ {R:Rs (PV×List Wd)},RR H L Q R→RR H L Q' R
 | .out,q=>q
 | .fail,q=>fun H' g=>h _ _ (q H' g)
 | .ok (t,ws),q=>fun H' j g T=>h _ _ (q H' j g T)
theorem Ac:∃ c1 c2 rest,dO=.asg 2 (.call 40 [.var 0,.var 1])::.ifs (.cmp .eq (.var 2) (.str [40])) c1 []::.ifs (.cmp .eq (.var 2) (.str [38])) refA []::.ifs (.cmp .eq (.var 2) (.str [91])) c2 []::rest:=⟨_,_,_,rfl⟩
theorem Hf (Z:TyE C p L A (n+2)) (R:RF C) (hv:∀ w∈L,w.length≤1000) (W:Row H p L) (T:AtW L ([38]::r) i) (ho:En A (n+2) r) (q:RR H L Q (ty (n+4) ([38]::r))):aB C (n+5) 42 [.lst p,.int i] H Q E:=by
 apply R.type rfl
 refine X31 Ac fun c1 c2 rest es=>?_
 refine Eq.symm (es)▸?_
 generalize hA:refA=ra
 refine cH R W T ?_
 refine Eq.symm (List.headD_cons)▸?_
 walk_at "mu"
 rw [decide_eq_false (by decide)]
 walk_at "mu"
 rw [decide_eq_true (by first|rfl|trivial)]
 subst hA
 rw [refA]
 generalize hB:refB=rb
 have hi:(i:Int)+1=((i+1:Nat):Int):=by exact uF
 walk_at "mu"
 refine Eq.symm (hi)▸?_
 have hwl:(r.headD []).length≤1000:=by
  cases r with
  | nil=>simp
  | cons w r=>exact hv w (List.mem_of_getElem? T.next.get)
 refine cH R W T.next (kF (jR hwl) ?_)
 walk_at "mu"
 have e:decide ((r.headD []).take 1=[39])=bA r:=by
  cases r with
  | nil=>simp [bA]
  | cons w r=>simp [bA,fA];rw [Bool.eq_iff_iff];simp
 refine Eq.symm (e)▸?_
 rw [Ad] at q
 clear e hwl hi es c1 hv
 subst hB
 have hcs:r=[]∨∃ w r2,r=w::r2:=by
  cases r with
  | nil=>exact .inl rfl
  | cons w r2=>exact .inr (I21 w r2 rfl)
 rcases hcs with rfl|⟨w,r,rfl⟩
 ·rw [show bA []=false from rfl]
  walk_at "mu"
  exact vA (M:=n+3) (i:=i+1) Z R (ar277) W T.next ho rfl rfl (by simp [aJ]) (RR.imp (fun v H' h m'=>h) q)
 ·cases hg:fA w with
  | true=>
   refine Eq.symm (show bA (w::r)=true from hg)▸?_
   refine cH R W T.next ?_
   walk_at "mu"
   have q:RR H L Q (if fA w then iJ (ty (n+2)) (.str w) r else iJ (ty (n+2)) .none (w::r)):=q
   rw [hg,if_pos rfl] at q
   exact vA (M:=n+3) (i:=i+2) Z R (ar277) W T.next.next (ho.reg hg) rfl (by simp [aJ];exact rfl) (by simp [aJ]) (RR.imp (fun v H' h m'=>h) q)
  | false=>
   refine Eq.symm (show bA (w::r)=false from hg)▸?_
   walk_at "mu"
   have q:RR H L Q (if fA w then iJ (ty (n+2)) (.str w) r else iJ (ty (n+2)) .none (w::r)):=q
   rw [hg,if_neg (fun h=>nomatch h)] at q
   exact vA (M:=n+3) (i:=i+1) Z R (ar277) W T.next ho rfl rfl (by simp [aJ]) (RR.imp (fun v H' h m'=>h) q)
end
section
variable {C:Cx}{H H₀:MH}{Q:QV}{E:MH→Prop}{n i k p f d A j:Nat}{L ws r r':List Wd}{w x:Wd}{F:FSt}{gv:Nat→PV}
theorem pC:∃ c1 c2 c3,dO=.asg 2 (.call 40 [.var 0,.var 1])::.ifs (.cmp .eq (.var 2) (.str [40])) c1 []::.ifs (.cmp .eq (.var 2) (.str [38])) c2 []::.ifs (.cmp .eq (.var 2) (.str [91])) c3 []::
  [.ifs (.cmp .in_ (.var 2) (.list [.str [33],.str [95]])) [.ret (.tuple [.tuple [.ite (.cmp .eq (.var 2) (.str [33])) (.str [110,101,118,101,114]) (.str [105,110,102,101,114]),.int 0],.bin .add (.var 1) (.int 1)])] [],
  .asg 3 (.call 43 [.var 0,.var 1,.bool false]),
  .ret (.ite (.cmp .is_ (.var 3) (.none)) (.none) (.tuple [.tuple [.str [112,97,116,104],.int 0,.idx (.var 3) (.int 0)],.idx (.var 3) (.int 1)]))]:=I31 _ _ _ rfl
theorem tG {b:Bool}(R:RF C) (W:Row H p L) (T:AtW L ((if b then [33] else [95])::r) i) (q:RR H L Q (.ok (.tup [.str (if b then Bu else Bv),.int 0],r))):aB C (n+5) 42 [.lst p,.int i] H Q E:=by
 apply R.type rfl
 refine X31 pC fun c1 c2 c3 es=>?_
 refine Eq.symm (es)▸?_
 refine cH R W T ?_
 walk_at "mu"
 rw [List.headD_cons,decide_eq_false (by cases b<;>decide)]
 walk_at "mu"
 rw [decide_eq_false (by cases b<;>decide)]
 walk_at "mu"
 rw [decide_eq_false (by cases b<;>decide)]
 intro b1 hb1
 refine rU (ps:=[[33],[95]]) aC ?_
 cases b with
 | true=>
  exact q _ (i+1) (.new hb1) T.next
 | false=>
  exact q _ (i+1) (.new hb1) T.next
theorem Ey (Z:TyE C p L A n) (R:RF C) (G:dM C) (hv:∀ w∈L,w.length≤1000) (W:Row H p L) (T:AtW L ws i) (ho:Pv A n ws) (h1:ws.head?≠some [40]) (h2:ws.head?≠some [38]) (h3:ws.head?≠some [91]) (h4:ws.head?≠some [33]) (h5:ws.head?≠some [95])
  (q:RR H L Q (ty (n+4) ws)):aB C (n+5) 42 [.lst p,.int i] H Q E:=by
 apply R.type rfl
 refine X31 pC fun c1 c2 c3 es=>?_
 refine Eq.symm (es)▸?_
 have nh:∀ {x:Wd},x≠[]→ws.head?≠some x→¬ws.headD []=x:=fun hx h e=>h ((bW hx).mp e)
 refine cH R W T ?_
 walk_at "mu"
 refine Eq.symm (decide_eq_false (nh (by decide) h1))▸?_
 walk_at "mu"
 refine Eq.symm (decide_eq_false (nh (by decide) h2))▸?_
 walk_at "mu"
 refine Eq.symm (decide_eq_false (nh (by decide) h3))▸?_
 intro b1 hb1
 refine rU (ps:=[[33],[95]]) aC ?_
 refine Eq.symm (decide_eq_false (by
  intro h
  rcases List.mem_cons.mp h with h|h
  ·exact nh (by decide) h4 h
  ·exact nh (by decide) h5 (List.mem_singleton.mp h)))▸?_
 have g1:Gr H (H.set b1 (.list ([[33],[95]].map .str))):=.new hb1
 refine Av (TyE.tyR Z) R G hv (W.gr g1) T ho ?_
 replace q:=(Cr n ws h1 h2 h3 h4 h5)▸q
 cases e:spath (ty n) false ws with
 | out=>rw [e] at q;exact q
 | fail=>
  replace q:=(e)▸q
  intro H' g
  exact q H' (g1.trans g)
 | ok y=>
  obtain ⟨t,r'⟩:=y
  replace q:=(e)▸q
  dsimp only at q
  intro H' j g T''
  walk_at "mu"
  refine aE (k:=0) (Nat.le_of_ble_eq_true rfl) rfl (aE (k:=1) (Nat.le_of_ble_eq_true rfl) rfl (q H' j (g1.trans g) T''))
theorem type_r (R:RF C) (G:dM C) (hv:∀ w∈L,w.length≤1000):∀ n:Nat,TyE C p L A n:=by
 refine qN (fun n h H i ws Q E W T z q=>absurd z.2 (by omega)) fun n i0 i2 H i ws Q E W T ho q=>?_
 have hp:=ho.pv
 by_cases h1:ws.head?=some [40]
 ·have e:=aW h1
  rw [e] at T hp q
  exact Hg i0 R W T (hp.opn (rfl)) q
 by_cases h2:ws.head?=some [38]
 ·have e:=aW h2
  rw [e] at T ho q
  exact Hf i2 R hv W T ho.ref q
 by_cases h3:ws.head?=some [91]
 ·have e:=aW h3
  rw [e] at T hp q
  exact Hh i0 R W T (hp.opn (rfl)) q
 by_cases h4:ws.head?=some [33]
 ·have e:=aW h4
  rw [e] at T q
  exact tG (b:=true) R W T q
 by_cases h5:ws.head?=some [95]
 ·have e:=aW h5
  rw [e] at T q
  exact tG (b:=false) R W T q
 exact Ey i0 R G hv W T hp h1 h2 h3 h4 h5 q
end
section
variable {d:Nat}{tyf:List Wd→Rs (PV×List Wd)}{A n:Nat}
set_option tactic.hygienic true in
theorem Jl (hE:Elm d tyf):∀ (k:Nat) {ws:List Wd}{xs ys:List PV}{r':List Wd},dX (d+3) xs→kQ tyf k ws xs=.ok (ys,r') →
  dX (d+3) ys∧∀ L B T c,Pos L B T (c+aV xs) ws→Pos L B T (c+aV ys) r':=by
 intro x0
 induction x0 with
 | zero=>intro _ _ _ _ _ h;exact (by contradiction)
 | succ k ih=>
  intro ws xs ys r' hf h
  refine iU h (fun r c g=>?_) fun _ h=>?_
  ·subst c
   split at g
   ·cases g
   ·cases g
   ·rename_i p r2 e
    refine X03 (dA hE e) fun a1 a2 a3=>?_
    refine X02 (ih (gH hf (cN a1)) g) fun b1 b2=>?_
    refine ⟨b1,fun L B T c P=>b2 L B T c ?_⟩
    exact (a3 L B T _ (P.tail (rfl))).le (by rw [dT,gO];exact ar279)
  ·cases h
   exact ⟨hf,fun L B T c P=>P⟩
theorem mC (tyf:List Wd→Rs (PV×List Wd)) (w:Wd) (r:List Wd):param tyf (w::r)=if w∈fX then hdQ [58] r (prmB tyf w) (.ok (.tup [.str w,.tup []],r)) else .fail:=rfl
theorem qB {w:Wd}(h:w∈fX):cls w=false:=by
 have:∀ w∈fX,cls w=false:=by decide +kernel
 exact this w h
set_option tactic.hygienic true in
theorem lM (hE:Elm d tyf):Elm (d+5) (param tyf):=by
 intro ws x ws' h
 cases ws with
 | nil=>cases h
 | cons w r=>
  rw [mC] at h
  split at h
  ·rename_i hw
   refine iU h (fun r c g=>?_) fun _ h=>?_
   ·clear h;subst c
    unfold prmB at g
    split at g
    ·cases g
    ·cases g
    ·rename_i p r2 e
     split at g
     ·cases g
     ·cases g
     ·rename_i xs s e2
      refine hC fun hG=>?_
      cases g<;>(refine hG ?_;clear hG)
      refine X03 (dA hE e) fun a1 a2 a3=>?_
      obtain ⟨b1,b2⟩:=Jl hE _ (cN a1) e2
      refine I03 (aU (aI cD (cN (aU b1)))) ⟨_,rfl⟩ (fun L B T c P=>?_)
      have P2:=a3 L B T _ ((P.tail (qB hw)).tail (rfl))
      exact (b2 L B T (c+40) (P2.le (by rw [gO];exact Nat.le_add_right _ _))).le (by simp only [stp,aV];exact ar281)
   ·cases h
    refine I03 (dN (n:=2) (Nat.le_add_left _ _) (aU (aI cD (cN (aU aR))))) ⟨_,rfl⟩ (fun L B T c P=>?_)
    exact (P.tail (qB hw)).le (by simp only [stp,aV];exact ar283)
  ·cases h
set_option tactic.hygienic true in
theorem bndP_no:∀ (k:Nat) {ws:List Wd}{xs:List PV},Pv A n ws→kQ (ty n) k ws xs≠.out:=by
 intro x0
 induction x0 with
 | zero=>intro _ _ _ h;exact (by contradiction)
 | succ k ih=>
  intro ws xs ho h
  refine iU h (fun r c g=>?_) fun _ h=>?_
  ·subst c
   have ho:=ho.tail (rfl)
   split at g
   ·rename_i e
    exact iQ (A:=A) (bB n) (fun ws h=>lV n h.en) ho e
   ·cases g
   ·rename_i p r2 e
    refine X03 (dA (bB n) e) fun a1 a2 a3=>?_
    refine X03 (a3 r (mx r) (20*r.length) 0 (I03 (List.suffix_rfl) (Nat.le_refl _) (uE))) fun p1 p2 _=>?_
    exact ih (ho.sub p1 p2) g
  ·cases h
set_option tactic.hygienic true in
theorem xW {ws:List Wd}(ho:Pv A n ws):param (ty n) ws≠.out:=by
 intro h
 cases ws with
 | nil=>cases h
 | cons w r=>
  rw [mC] at h
  split at h
  ·rename_i hw
   have ho:=ho.tail (qB hw)
   refine iU h (fun r c g=>?_) fun _ h=>?_
   ·subst c
    replace ho:=ho.tail (rfl)
    unfold prmB at g
    split at g
    ·rename_i e
     exact iQ (A:=A) (bB n) (fun ws h=>lV n h.en) ho e
    ·cases g
    ·rename_i p r2 e
     refine X03 (dA (bB n) e) fun a1 a2 a3=>?_
     obtain ⟨p1,p2,_⟩:=a3 _ (mx _) (20*List.length _) 0 (I03 (List.suffix_rfl) (Nat.le_refl _) (by rw [Nat.zero_add];exact Nat.le_refl _))
     split at g
     ·rename_i e2
      exact bndP_no _ (ho.sub p1 p2) e2
     ·cases g
     ·cases g
   ·cases h
  ·refine hC fun hG=>?_
   cases h<;>(refine hG ?_;clear hG)
set_option tactic.hygienic true in
theorem yQ {ws ws':List Wd}{x:PV}(h:gens n ws=.ok (x,ws')):dZ (n+7) x∧(∃ l,x=.tup l)∧stp x≤20*ws.length+10:=by
 refine iU h (fun r c g=>?_) fun _ h=>?_
 ·clear h;subst c
  unfold genB at g
  split at g
  ·cases g
  ·cases g
  ·rename_i a b r' e
   refine hC fun hG=>?_
   cases g
   obtain ⟨rs',ts',rfl,rfl,a3,a4,a5,a6⟩:=kZ (lM (bB n)) _ (rs:=[]) (ts:=[]) (fun x h=>nomatch h) aR cZ e
   refine hG ?_;clear hG
   refine I03 (aU (aI (aU (rY a3)) (cN (aU a4)))) ⟨_,rfl⟩ (?_)
   have:=(a6 r (mx r) (20*r.length) 0 (I03 (List.suffix_rfl) (Nat.le_refl _) (by simp [aV]))).2.2
   exact ar284 this
 ·cases h
  exact I03 (dN (n:=2) (Nat.le_add_left _ _) (aU (aI (aU aR) (cN (aU aR))))) ⟨_,rfl⟩ (by simp only [stp,aV];exact Nat.le_add_left _ _)
end
section
variable {C:Cx}{H H₀:MH}{Q:QV}{E:MH→Prop}{n i k p f d A j:Nat}{L ws r r':List Wd}{w x s:Wd}{F:FSt}{gv:Nat→PV}
noncomputable def pmB:List MS:=[.ifs (.cmp .eq (.call 40 [.var 0,.var 1]) (.var 4)) [.asg 6 (.call 43 [.var 0,.bin .add (.var 1) (.int 1),.bool false]),
  .ifs (.cmp .is_ (.var 6) (.none)) [.ret (.none)] [],
  .expr (.meth .append (.var 3) [.idx (.var 6) (.int 0)]),
  .swap [1,4] [.idx (.var 6) (.int 1),.str [43]]] []]
theorem vD:fK=[.asg 2 (.call 40 [.var 0,.var 1]),
  .ifs (.cmp .eq (.slc (.var 2) .none (.int 1)) (.str [39])) [.ret (.tuple [.var 2,.bin .add (.var 1) (.int 1)])] [],
  .ifs (.cmp .nin (.var 2) (.bin .add (.gval 10) (.list [.str [84],.str [85]]))) [.ret (.none)] [],
  .swap [3,1,4] [.list [],.bin .add (.var 1) (.int 1),.str [58]],
  .fors [5] false (.bi .range [.bi .len [.var 0]]) pmB,
  .ret (.tuple [.tuple [.var 2,.bi .tuple [.var 3]],.var 1])]:=rfl
theorem Dd (R:RF C) (hs:s≠[]) {wb:LE→MH→QS→Prop}(hwb:∀ m H Q,wb m H Q=mSs (aB C (n+5)) C.gv nope pmB m H Q) (W:Row H p L) (T:AtW L ws i) (hh:ws.head?≠some s) {Q:QS}:∀ (its:List PV) {m:LE},m 0=.lst p→m 1=.int i→m 4=.str s →
  (∀ m',m' 1=.int i→m' 2=m 2→m' 3=m 3→Q .next m' H)→cQ (bC [5] false) wb (fun J=>True) its m H Q:=by
 intro x0
 induction x0 with
 | nil=>intro m h0 h1 h4 q;exact q m h1 rfl rfl
 | cons v its ih=>
  intro m h0 h1 h4 q
  rw [dE]
  dsimp only [dC,dB,dP]
  rw [hwb]
  simp only [pmB]
  walk_at "mu"
  repeat (simp only [h0,h1,h4,nuO,nuL,nuI,nuS,nuT,nuB,nuN,nuF,aF,aG];walk_at "mu")
  refine cH R W T ?_
  walk_at "mu"
  rw [decide_eq_false (fun e=>hh ((bW hs).mp e))]
  exact ih h0 h1 h4 fun m' e1 e2 e3=>q m' e1 (e2.trans rfl) (e3.trans rfl)
theorem xN (Z:TyR C p L A n) (R:RF C) (G:dM C) (hv:∀ w∈L,w.length≤1000) (hs:s≠[]) {wb:LE→MH→QS→Prop}(hwb:∀ m H Q,wb m H Q=mSs (aB C (n+5)) C.gv nope pmB m H Q) (W:Row H p L) (T:AtW L (s::r) i) (ho:Pv A n r) {Q:QS}{its:List PV}{v:PV}{m:LE}{xs:List PV}
  (h0:m 0=.lst p) (h1:m 1=.int i) (h3:m 3=.lst f) (h4:m 4=.str s) (hf:H f=some (.list xs)) (hl:xs.length≤1000000)
  (qf:spath (ty n) false r=.fail→∀ m' H',Gr H H'→Q (.ret .none) m' H')
  (qo:∀ t r',spath (ty n) false r=.ok (t,r')→∀ m' H' j,Gr H H'→AtW L r' j→m' 0=.lst p→m' 1=.int (j:Nat)→m' 2=m 2→m' 3=.lst f→m' 4=.str [43]→cQ (bC [5] false) wb (fun J=>True) its m' (H'.set f (.list (xs++[t]))) Q) :
  cQ (bC [5] false) wb (fun J=>True) (v::its) m H Q:=by
 rw [dE]
 dsimp only [dC,dB,dP]
 rw [hwb]
 simp only [pmB]
 walk_at "mu"
 repeat (simp only [h0,h1,h3,h4,nuO,nuL,nuI,nuS,nuT,nuB,nuN,nuF,aF,aG];walk_at "mu")
 refine cH R W T ?_
 refine Eq.symm (List.headD_cons)▸?_
 walk_at "mu"
 rw [decide_eq_true (by first|rfl|trivial)]
 have hi:(i:Int)+1=((i+1:Nat):Int):=by exact uF
 walk_at "mu"
 repeat (simp only [h0,h1,h3,h4,hi,hf,nuO,nuL,nuI,nuS,nuT,nuB,nuN,nuF,aF,aG];walk_at "mu")
 refine aB.mono (d:=n+4) (Nat.le_succ _) (Av Z R G hv W T.next ho ?_)
 cases e:spath (ty n) false r with
 | out=>exact absurd e (iQ (A:=A) (bB n) (fun ws h=>lV n h.en) ho)
 | fail=>
  intro H' g
  exact qf e _ _ g
 | ok y=>
  obtain ⟨t,r'⟩:=y
  intro H' j g T'
  have hf':=(g f (by rw [hf];exact fun x=>nomatch x)).trans hf
  walk_at "mu"
  repeat (simp only [h0,h1,h3,h4,nuO,nuL,nuI,nuS,nuT,nuB,nuN,nuF,aF,aG];walk_at "mu")
  refine ⟨aS hf',aE (k:=0) (Nat.le_of_ble_eq_true rfl) rfl (bF hf' (Nat.lt_of_le_of_lt hl (Nat.le_of_ble_eq_true rfl)) ?_)⟩
  walk_at "mu"
  refine aE (k:=1) (Nat.le_of_ble_eq_true rfl) rfl ?_
  exact qo t r' e _ H' j g T' h0 rfl rfl h3 rfl
theorem pm_loop (Z:TyR C p L A n) (R:RF C) (G:dM C) (hv:∀ w∈L,w.length≤1000) {wb:LE→MH→QS→Prop}(hwb:∀ m H Q,wb m H Q=mSs (aB C (n+5)) C.gv nope pmB m H Q) (hf0:H₀ f=none) (hpf:p≠f) {Q:QS} :
  ∀ (its:List PV) {k i:Nat} {ws:List Wd} {xs:List PV} {m:LE} {H:MH},ws.length<k→ws.length≤its.length→Row H p L→AtW L ws i→Pv A n ws→H f=some (.list xs)→Gr H₀ H→xs.length+its.length≤1000000 →
   m 0=.lst p→m 1=.int i→m 3=.lst f→m 4=.str [43] →
   (kQ (ty n) k ws xs=.fail→∀ m' H',Gr H₀ H'→Q (.ret .none) m' H') →
   (∀ ys r',kQ (ty n) k ws xs=.ok (ys,r')→∀ m' H' (j:Nat),Gr H₀ H'→AtW L r' j→m' 1=.int (j:Nat)→m' 2=m 2→m' 3=.lst f→H' f=some (.list ys)→ys.length≤1000000→Q .next m' H') →
   cQ (bC [5] false) wb (fun J=>True) its m H Q:=by
 intro x0
 induction x0 with
 | nil=>
  intro k i ws xs m H hk hk2 W T ho hf gr hsz h0 h1 h3 h4 qf qo
  obtain rfl:ws=[]:=by cases ws with
   | nil=>rfl
   | cons w r=>simp at hk2
  obtain ⟨k,rfl⟩:∃ k',k=k'+1:=⟨k - 1,ar264 hk⟩
  exact qo xs [] rfl m H i gr T h1 rfl h3 hf (Nat.le_trans (Nat.le_add_right _ _) hsz)
 | cons v its ih=>
  intro k i ws xs m H hk hk2 W T ho hf gr hsz h0 h1 h3 h4 qf qo
  obtain ⟨k,rfl⟩:∃ k',k=k'+1:=⟨k - 1,ar264 hk⟩
  simp only [List.length_cons] at hsz hk2
  by_cases hh:ws.head?=some [43]
  ·have e:=aW hh
   generalize ws.tail=r at e
   subst e
   rw [oX] at qf qo
   have ho':=ho.tail rfl
   simp only [List.length_cons] at hk hk2
   refine xN Z R G hv (by decide) hwb W T ho' h0 h1 h3 h4 hf (Nat.le_trans (Nat.le_add_right _ _) hsz) (fun e m' H' g=>?_) fun t r' e m' H' j g T' e0 e1 e2 e3 e4=>?_
   ·rw [e] at qf
    exact qf rfl _ _ (gr.trans g)
   ·rw [e] at qf qo
    obtain ⟨_,_,a3⟩:=dA (bB n) e
    obtain ⟨p1,p2,p3⟩:=a3 r (mx r) (20*r.length) 0 ⟨List.suffix_rfl,Nat.le_refl _,uE⟩
    have W':=W.gr g
    refine ih (ar289 hk p3) (ar290 hk2 p3) ⟨(aL hpf).trans W'.at_,W'.len⟩ T' (ho'.sub p1 p2) aC ((gr.trans g).put hf0) (by simp;exact zP hsz) e0 e1 e3 e4 qf fun ys r'' e' m'' H'' j' g' T'' f1 f2=>qo ys r'' e' m'' H'' j' g' T'' f1 (f2.trans e2)
  ·have hb:kQ (ty n) (k+1) ws xs=.ok (xs,ws):=iB hh
   refine Dd R (by decide) hwb W T hh (v::its) h0 h1 h4 fun m' e1 e2 e3=>?_
   exact qo _ _ hb _ _ i gr T e1 e2 (e3.trans h3) hf (Nat.le_trans (Nat.le_add_right _ _) hsz)
end
section
variable {C:Cx}{H H₀:MH}{Q:QV}{E:MH→Prop}{n i k p f d A j:Nat}{L ws r r':List Wd}{w x s:Wd}{F:FSt}{gv:Nat→PV}
theorem Az {tyf:List Wd→Rs (PV×List Wd)}(hw:w∈fX) (h:r.head?≠some [58]):param tyf (w::r)=.ok (.tup [.str w,.tup []],r):=(if_pos hw).trans (iB h)
theorem Ft {tyf:List Wd→Rs (PV×List Wd)}(hw:w∈fX):param tyf (w::[58]::r)=match spath tyf false r with
    | .out=>.out
    | .fail=>.fail
    | .ok (p,r'')=>match kQ tyf (r''.length+1) r'' [p] with
     | .out=>.out
     | .fail=>.fail
     | .ok (xs,s)=>.ok (.tup [.str w,.tup xs],s):=(if_pos hw).trans hdQ_y
theorem param_r (Z:TyR C p L A n) (R:RF C) (G:dM C) (hv:∀ w∈L,w.length≤1000) (W:Row H p L) (T:AtW L ws i) (ho:Pv A n ws) (q:RR H L Q (dH (param (ty n)) ws)):aB C (n+6) 45 [.lst p,.int i] H Q E:=by
 have hl:=W.len
 have hr:=T.rlen
 apply R.param rfl
 refine Eq.symm (vD)▸?_
 generalize hB:pmB=B
 have hwl:(ws.headD []).length≤1000:=by
  cases ws with
  | nil=>simp
  | cons w r=>exact hv w (List.mem_of_getElem? T.get)
 refine cH R W T ?_
 walk_at "mu"
 refine kF (jR hwl) ?_
 walk_at "mu"
 have e:decide ((ws.headD []).take 1=[39])=bA ws:=by
  clear hwl
  cases ws with
  | nil=>simp [bA]
  | cons w r=>simp [bA,fA];rw [Bool.eq_iff_iff];simp
 refine Eq.symm (e)▸?_
 unfold dH at q
 clear hwl
 cases hg:bA ws with
 | true=>
  rw [hg,if_pos rfl] at q
  obtain ⟨w,r,rfl⟩:∃ w r,ws=w::r:=by cases ws with
   | nil=>cases hg
   | cons w r=>exact I21 w r rfl
  exact q H (i+1) .refl T.next
 | false=>
  rw [hg,if_neg (fun h=>nomatch h)] at q
  walk_at "mu"
  refine Eq.symm (G.g10)▸?_
  intro b1 hb1
  refine Eq.symm (Dt aC)▸?_
  refine ⟨Nat.le_of_ble_eq_true rfl,?_⟩
  intro b2 hb2
  have g1:Gr H (H.set b1 (.list [.str [84],.str [85]])):=.new hb1
  have g2:=g1.trans (.new (o:=.list (fX.map .str)) hb2)
  refine Dj (ps:=fX) aC ?_
  have W2:=W.gr g2
  change RR H L Q _ at q
  have go:∀ {H₂:MH},Gr H H₂→Row H₂ p L→(cond (!decide (ws.headD []∈fX)) (mSs (aB C (n+5)) C.gv E [.ret (.none)]) (mSs (aB C (n+5)) C.gv E [])) ((cE [.lst p,.int i]).set 2 (.str (ws.headD []))) H₂
    (qO (mSs (aB C (n+5)) C.gv E [.swap [3,1,4] [.list [],.bin .add (.var 1) (.int 1),.str [58]],.fors [5] false (.bi .range [.bi .len [.var 0]]) B,.ret (.tuple [.tuple [.var 2,.bi .tuple [.var 3]],.var 1])]) (iR Q)):=by
   intro H₂ g W2
   clear g1 hb2 hb1 hg
   cases ws with
   | nil=>
    exact q _ g
   | cons w r=>
    refine Eq.symm (List.headD_cons)▸?_
    by_cases hw:w∈fX
    ·rw [decide_eq_true hw]
     intro f hf
     have hpf:p≠f:=fun e=>by rw [←e,W2.at_] at hf;cases hf
     have g3:=g.put (o:=.list []) (aX g hf)
     have W3:=W.gr g3
     walk_at "mu"
     rw [cV W3.at_]
     refine ⟨by simp<;>exact lA hl,?_⟩
     refine ⟨by simp<;>omega,by simp<;>exact Ef hl,?_⟩
     refine ⟨by simp<;>omega,by simp<;>exact Ef hl,?_⟩
     subst hB
     have ho':=ho.tail (qB hw)
     have hf0:=aX g hf
     simp only [List.length_cons] at hr
     by_cases hh:r.head?=some [58]
     ·have e:=aW hh
      generalize r.tail=r2 at e
      clear hf ho W
      subst e
      rw [Ft hw] at q
      have hits:∀ {a:Nat},a≠0→∃ v its,((List.range a).map fun (i:Nat)=>PV.int (i:Int))=v::its∧its.length+1=a:=by
       intro a ha
       obtain ⟨a,rfl⟩:∃ b,a=b+1:=⟨a - 1,((Nat.sub_add_cancel (Nat.pos_of_ne_zero ha)).symm)⟩
       rw [List.range_succ_eq_map,List.map_cons]
       exact I22 _ _ rfl (by simp)
      obtain ⟨v,its,ei,el⟩:=hits (a:=((L.map PV.str).length:Int).toNat) (by rw [List.length_map,Int.toNat_natCast];exact ar476 hr)
      refine Eq.symm (ei)▸?_
      have el:its.length+1=L.length:=by simpa using el
      simp only [List.length_cons] at hr
      refine xN Z R G hv (by decide) (fun J J J=>rfl) W3 T.next (ho'.tail (by decide)) rfl rfl (by simp [aJ]<;>rfl) rfl aC (Nat.zero_le _) (fun e m' H' g=>?_) fun t r' e m' H' j g T' e0 e1 e2 e3 e4=>?_
      ·rw [e] at q
       exact q _ (g3.trans g)
      ·replace q:=(e)▸q
       dsimp only at q
       refine X03 (dA (bB n) e) fun J J a3=>?_
       refine X03 (a3 r2 (mx r2) (20*r2.length) 0 (I03 (List.suffix_rfl) (Nat.le_refl _) (uE))) fun p1 p2 p3=>?_
       have W':=W3.gr g
       have g3':=g3.trans g
       refine pm_loop (k:=r'.length+1) Z R G hv (fun J J J=>rfl) hf0 hpf its (zO) (ar292 hr el p3) ⟨(aL hpf).trans W'.at_,W'.len⟩ T' ((ho'.tail (by decide)).sub p1 p2) aC (g3'.put hf0) (by simp<;>exact ar293 hl el) e0 e1 e3 e4 (fun e' m'' H'' g'=>?_) fun ys r'' e' m'' H'' j' g' T'' f1 f2 f3 f4 f5=>?_
       ·rw [List.nil_append] at e'
        rw [e'] at q
        exact q _ g'
       ·rw [List.nil_append] at e'
        rw [e'] at q
        have f2:=f2.trans e2
        walk_at "mu"
        simp only [f1,f2,f3]
        walk_at "mu"
        rw [cJ f4]
        exact ⟨ar1 f5,q H'' j' g' T''⟩
     ·rw [Az hw hh] at q
      refine Dd R (by decide) (fun J J J=>rfl) W3 T.next hh _ rfl rfl (by simp [aJ]<;>rfl) fun m' e1 e2 e3=>?_
      walk_at "mu"
      repeat (simp only [e1,e2,e3,nuO,nuL,nuI,nuS,nuT,nuB,nuN,nuF,aF,aG];walk_at "mu")
      rw [cJ aC]
      exact ⟨Nat.zero_le _,q _ (i+1) g3 T.next⟩
    ·rw [decide_eq_false hw]
     rw [mC,if_neg hw] at q
     exact q _ g
  exact go g2 W2
end
section
variable {C:Cx}{H H₀:MH}{Q:QV}{E:MH→Prop}{n i k p f d A j:Nat}{L ws r r':List Wd}{w x s:Wd}{F:FSt}{gv:Nat→PV}
theorem yP:dF=.ifs (.cmp .ne (.call 40 [.var 0,.int 0]) (.str [60])) [.ret (.tuple [.tuple [.tuple [],.tuple []],.int 0])] []::.asg 1 (.call 41 [.var 0,.int 1,.str [62],.gfun 45])::isnE 1::.asg 2 (sX 1 3)::srtE 1 2 3::[.ret (.tuple [pI 1 2,.idx (.var 1) (.int 1)])]:=rfl
theorem Lv.pv (h:Lv A n ws):Pv A n ws:=⟨h.1,by have:=h.2;exact Nat.le_trans (Nat.le_add_left _ _) this⟩
theorem gens_r (Z:TyR C p L A n) (R:RF C) (G:dM C) (hv:∀ w∈L,w.length≤1000) (W:Row H p L) (ho:Pv A n L) (q:RR H L Q (gens n L)):aB C (n+8) 46 [.lst p] H Q E:=by
 have hW:=W.len
 have T:AtW L L 0:=⟨rfl,Nat.zero_le _⟩
 apply R.gens rfl
 refine Eq.symm (yP)▸?_
 generalize hT:isnE 1::.asg 2 (sX 1 3)::srtE 1 2 3::[MS.ret (.tuple [pI 1 2,.idx (.var 1) (.int 1)])]=tl
 walk_at "mu"
 refine cH (i:=0) R W T ?_
 walk_at "mu"
 by_cases hh:L.head?=some [60]
 ·rw [decide_eq_true (show L.headD []=[60] from (bW (by decide)).mpr hh)]
  have e0:=aW hh
  generalize L.tail=r at e0
  have T1:AtW L r 1:=by rw [e0] at T ⊢;exact T.next
  have ho1:Pv A n r:=by rw [e0] at ho;exact (ho.opn (rfl)).pv
  have q:RR H L Q (match eW (param (ty n)) (r.length+1) r [] [] with
   | .out=>.out
   | .fail=>.fail
   | .ok (a,b,r')=>.ok (.tup [a,b],r')):=by
    rw [show gens n L=gens n ([60]::r) by rw [e0]] at q;exact q
  have hel:=fun {H:MH} {i:Nat} {ws:List Wd} {Q:QV} {E:MH→Prop} (W:Row H p L) (T:AtW L ws i) (ho:Pv A n ws) (q:RR H L Q (dH (param (ty n)) ws))=>param_r (E:=E) Z R G hv W T ho q
  have pE:=lM (bB n)
  have kE:∀ ws x ws',Pv A n ws→dH (param (ty n)) ws=.ok (x,ws')→Pv A n ws':=by
   intro ws x ws' ho e
   unfold dH at e
   split at e
   ·rename_i hg
    cases e
    cases ws with
    | nil=>cases hg
    | cons w r=>exact ho.tail (mZ hg)
   ·refine X03 (pE.sub e) fun h1 h2 _=>?_
    exact ho.sub h1 h2
  have nE:∀ ws,Pv A n ws→dH (param (ty n)) ws≠.out:=by
   intro ws ho
   unfold dH
   split
   ·exact fun h=>nomatch h
   ·exact xW ho
  refine Ap (M:=n+5) (ok:=Pv A n) (elem:=dH (param (ty n))) R (by decide) hel nE kE (fun r h=>h.tail (by decide)) (i:=1) W T1 ho1 ?_
  have told:Told (eW (param (ty n)) (r.length+1) r [] []) (cP (dH (param (ty n))) [62] (L.length+1) r true []):=by
   have:=T1.rlen
   exact xJ (rs:=[]) (fun ws x ws' e=>(pE.sub e).2.2) (fun ws x ws' e=>(pE _ _ _ e).2.1) (L.length+1) (r.length+1) (this▸Nat.le_add_left _ _) (zO) cZ
  have hsort:=fun {X c' r'}=>qV (en:=[62]) (elem:=dH (param (ty n))) (fun ws x ws' e=>zL pE e) (L.length+1) (ws:=r) (c:=true) (c':=c') (xs:=[]) (X:=X) (r:=r') (fun x h=>nomatch h)
  have hlen:=fun {X c' r'}=>oM (elem:=dH (param (ty n))) (en:=[62]) (L.length+1) (ws:=r) (c:=true) (c':=c') (xs:=[]) (X:=X) (r:=r')
  have hrno:=xK (en:=[62]) (elem:=dH (param (ty n))) (ok:=Pv A n) nE kE (fun r h=>h.tail (by decide)) (L.length+1) (c:=true) (xs:=[]) ho1
  subst hT
  cases eP:eW (param (ty n)) (r.length+1) r [] [] with
  | out=>rw [eP] at q;exact q.elim
  | fail=>
   rw [eP] at told q
   refine hC fun hG=>?_
   rcases told with e|e|⟨X,c',r',e,hX⟩<;>(refine hG ?_;clear hG)
   ·refine Eq.symm (e)▸?_
    intro H' g
    exact zQ rfl (q _ g)
   ·exact absurd e hrno
   ·refine Eq.symm (e)▸?_
    intro H' f j hf hn g T'
    have:=hlen e
    refine nY (f:=f) (X:=X) (j:=j) (c:=c') (by decide) rfl hf (hsort e) (by simp at this;exact ar258 hW this) (fun _ m' H'' g'=>q _ (g.trans g')) fun e=>absurd e (jV hX)
  | ok y=>
   refine hC fun hG=>?_
   obtain ⟨a,b,r'⟩:=y
   rw [eP] at told q
   obtain ⟨rs,ts,c',rfl,rfl,e⟩:=told
   refine X26 (kZ pE _ (rs:=[]) (ts:=[]) (fun x h=>nomatch h) aR cZ eP) fun rs' ts' e1 e2 e3 e4 e5 _=>?_
   clear e4 eP hrno nE kE pE hel ho1
   cases e1;cases e2
   refine hG ?_;clear hG
   refine Eq.symm (e)▸?_
   intro H' f j hf hn g T'
   have:=hlen e
   have hf2:=lW e3 e5
   refine nY (f:=f) (X:=rs++ts) (j:=j) (c:=c') (by decide) rfl hf (hsort e) (by simp at this ⊢;exact Ei hW this) (fun h=>absurd ?_ h) fun _ b H'' hb g'=>?_
   ·rw [hf2,List.take_left];exact Dk e3
   ·rw [hf2] at hb
    generalize hP:pI 1 2=P
    walk_at "mu"
    subst hP
    have hf':H'' f=some (.list (rs++ts)):=(g' f (by rw [hf];exact fun x=>nomatch x)).trans hf
    refine pair_q (f:=f) (b:=b) (j:=j) (c:=c') (rs:=rs) (ts:=ts) rfl rfl hf' hb (by simp at this ⊢;exact Ei hW this) fun H3 g3=>?_
    refine ⟨by simp,?_⟩
    exact q _ j ((g.trans g').trans g3) T'
 ·rw [decide_eq_false (show ¬L.headD []=[60] from fun h=>hh ((bW (by decide)).mp h))]
  have:gens n L=.ok (.tup [.tup [],.tup []],L):=iB hh
  rw [this] at q
  exact q H 0 .refl T
abbrev Br:List Nat:=[116,121,112,101]
abbrev Bs:List Nat:=[103,101,110,101,114,105,99,115]
abbrev kdExpr:List Nat:=[101,120,112,114]
noncomputable def oW (n:Nat) (kd:List Nat) (ws:List Wd):Rs (PV×List Wd):=if kd=Br then ty n ws else if kd=Bs then gens n ws else spath (ty n) (decide (kd=kdExpr)) ws
noncomputable def DueQ (H:MH) (Q:QV):Rs (PV×List Wd)→Prop
 | .out=>False
 | .fail=>∀ H',Gr H H'→Q .none H'
 | .ok (t,r)=>∀ H' b,H b=none→Gr H H'→H' b=some (.list [t,.str r.flatten])→Q (.lst b) H'
theorem Ai:∀ ws:List Wd,jA (ws.map .str)=some ws.flatten:=by
 intro x0
 induction x0 with
 | nil=>exact rfl
 | cons w r ih=>simp only [List.map_cons,jA,ih,Option.map_some,List.flatten_cons]
theorem pL:∀ {ws:List Wd},(∀ w∈ws,w.length≤100)→ws.flatten.length≤100*ws.length
 | [],_=>Nat.le_refl _
 | w::r,h=>by
  have h1:=h w (.head _)
  have h2:=pL (ws:=r) fun x hx=>h x (.tail _ hx)
  simp only [List.flatten_cons,List.length_append,List.length_cons];exact ar296 h1 h2
theorem due_r (R:RF C) (G:dM C) (hv:∀ w∈L,w.length≤100) {kd:List Nat}(W:Row H p L) (ho:Lv A n L) (q:DueQ H Q (oW n kd L)):aB C (n+9) 47 [.str kd,.lst p] H Q E:=by
 have hW:=W.len
 have hv2:∀ w∈L,w.length≤1000:=fun w h=>by have:=hv w h;exact Nat.le_trans this (Nat.le_add_left _ _)
 have T:AtW L L 0:=⟨rfl,Nat.zero_le _⟩
 have Z:TyE C p L A n:=type_r R G hv2 n
 apply R.due rfl
 simp only [oZ]
 generalize hT:([.ret (.ite (.cmp .is_ (.var 2) (.none)) (.none) (.list [.idx (.var 2) (.int 0),.meth .join (.str []) [.slc (.var 1) (.idx (.var 2) (.int 1)) .none]]))]:List MS)=tl
 have fin:∀ {m:LE} {R':Rs (PV×List Wd)},m 1=.lst p→DueQ H Q R'→(∀ t r,R'=.ok (t,r)→t≠.undef)→RR H L (fun v H'=>mSs (aB C (n+8)) C.gv E tl (m.set 2 v) H' (iR Q)) R':=by
  intro m R' h1 q ht
  clear ht due_r
  subst hT
  cases R' with
  | out=>exact q
  | fail=>
   intro H' g
   exact q H' g
  | ok y=>
   obtain ⟨t,r⟩:=y
   intro H' j g T'
   have W':=W.gr g
   walk_at "mu"
   try simp only [h1]
   walk_at "mu"
   refine aE (k:=0) (Nat.le_of_ble_eq_true rfl) rfl ⟨trivial,aE (k:=1) (Nat.le_of_ble_eq_true rfl) rfl ?_⟩
   have:=T'.le
   refine tJ W'.at_ wA rfl (I04 (by simp;exact lA hW) (ar248 hW this) (by simp;exact lA hW) (?_))
   have hc:bM (L.map PV.str) j (L.map PV.str).length=r.map .str:=by
    unfold bM
    rw [List.take_length,←List.map_drop,T'.cut]
   refine Eq.symm (hc)▸?_
   intro b hb
   have hfl:r.flatten.length≤100*r.length:=pL fun w hw=>hv w (by rw [←T'.cut] at hw;exact List.mem_of_mem_drop hw)
   have hr:=T'.rlen
   refine join_q aC (Ai r) (I03 (ar298 hW hfl hr) (by simp;exact ar299 hW hr) (?_))
   intro b2 hb2
   have g2:Gr H (H'.set b (.list (r.map .str))):=g.put (aX g hb)
   exact q _ b2 (aX g2 hb2) (g2.put (aX g2 hb2)) aC
 have tyN:∀ t r,ty n L=.ok (t,r)→t≠.undef:=fun t r e=>by
  refine X03 (bB n _ _ _ e) ?_
  rintro _ ⟨l,rfl⟩ _
  exact fun h=>nomatch h
 walk_at "mu"
 unfold oW at q
 by_cases h1:kd=Br
 ·rw [if_pos h1] at q
  rw [decide_eq_true (show kd=[116,121,112,101] from h1)]
  exact aB.mono (d:=n+1) (Nat.lt_add_of_pos_right (Nat.succ_pos _)) (Z (i:=0) W T ho.en (fin rfl q tyN))
 ·rw [if_neg h1] at q
  rw [decide_eq_false (show ¬kd=[116,121,112,101] from h1)]
  by_cases h2:kd=Bs
  ·rw [if_pos h2] at q
   walk_at "mu"
   rw [decide_eq_true (show kd=[103,101,110,101,114,105,99,115] from h2)]
   exact gens_r (TyE.tyR Z) R G hv2 W ho.pv (fin rfl q fun t r e=>by
    refine X03 (yQ e) ?_
    rintro _ ⟨l,rfl⟩ _
    exact fun h=>nomatch h)
  ·rw [if_neg h2] at q
   walk_at "mu"
   rw [decide_eq_false (show ¬kd=[103,101,110,101,114,105,99,115] from h2)]
   exact aB.mono (d:=n+4) (ar301) (Av (i:=0) (TyE.tyR Z) R G hv2 W T ho.pv (fin rfl q fun t r e=>by
    refine X03 (dA (bB n) e) ?_
    clear h2 e tyN h1 fin hT Z T
    rintro _ ⟨l,rfl⟩ _
    exact fun h=>nomatch h))
end
section
variable {C:Cx}{H H₀:MH}{Q:QV}{E:MH→Prop}{n i k p f d A j a r:Nat}{L ws:List Wd}{w x s:Wd}{F:FSt}{gv:Nat→PV}
theorem Gi {n:Nat}:∀ {x:PV},dZ n x→lC x:=by
 induction n with
 | zero=>intro x h;cases x<;>first|exact trivial|nomatch h
 | succ n ih=>
  intro x h
  cases x with
  | tup xs=>
   have h:∀ x∈xs,dZ n x:=h
   show fE xs
   induction xs with
   | nil=>trivial
   | cons x r ih2=>exact ⟨ih (h x (.head _)),ih2 (fun y hy=>h y (.tail _ hy)) fun y hy=>h y (.tail _ hy)⟩
  | _=>first|exact trivial|nomatch h
theorem zs_tree (xs:List PV):(lC (cR (.tup xs))→fE xs)∧stp (cR (.tup xs))=2+aV xs:=by
 refine zs_el (P:=fun z=>(lC z→fE xs)∧stp z=2+aV xs) xs (fun k i r e=>?_) ⟨id,by simp only [stp]⟩
 ·subst e
  refine ⟨fun h=>?_,by simp only [stp,aV]⟩
  exact I03 trivial trivial (h.2.2)
theorem Fp (xs:List PV) (z:(fE (aD xs)→fE xs)∧aV (aD xs)=aV xs):(lC (aO (.tup xs))→lC (.tup xs))∧stp (aO (.tup xs))=stp (.tup xs):=by
 obtain ⟨z1,z2⟩:=zs_tree (aD xs)
 exact ⟨fun h=>z.1 (z1 h),z2.trans (congrArg (2+·) z.2)⟩
theorem As (x:PV) (r:List PV) (a:(lC (aO x)→lC x)∧stp (aO x)=stp x) (b:(fE (aD r)→fE r)∧aV (aD r)=aV r):(fE (aD (x::r))→fE (x::r))∧aV (aD (x::r))=aV (x::r):=
 ⟨fun h=>⟨a.1 h.1,b.1 h.2⟩,show stp (aO x)+aV (aD r)=stp x+aV r by rw [a.2,b.2]⟩
theorem Ar (p:PV):(lC (aO p)→lC p)∧stp (aO p)=stp p:=
 PV.rec (motive_1:=fun p=>(lC (aO p)→lC p)∧stp (aO p)=stp p) (motive_2:=fun xs=>(fE (aD xs)→fE xs)∧aV (aD xs)=aV xs) ⟨id,rfl⟩ ⟨id,rfl⟩ (fun J=>⟨id,rfl⟩) (fun J=>⟨id,rfl⟩) (fun J=>⟨id,rfl⟩) Fp (fun J=>⟨id,rfl⟩) (fun J=>⟨id,rfl⟩) (fun J=>⟨id,rfl⟩) (fun J J=>⟨id,rfl⟩) (fun J=>⟨id,rfl⟩) ⟨id,rfl⟩ As p
set_option tactic.hygienic true in
theorem It {ws ws':List Wd}{x:PV}(h:gens n ws=.ok (x,ws')):ws'.length≤ws.length:=by
 refine iU h (fun r c g=>?_) fun _ h=>?_
 ·clear h;subst c
  unfold genB at g
  split at g
  ·cases g
  ·cases g
  ·rename_i a b r' e
   refine hC fun hG=>?_
   cases g<;>(refine hG ?_;clear hG)
   refine X26 (kZ (lM (bB n)) _ (rs:=[]) (ts:=[]) (fun x h=>nomatch h) aR cZ e) fun rs' ts' rfl rfl a3 a4 a5 a6=>?_
   have:=(a6 r (mx r) (20*r.length) 0 (I03 (List.suffix_rfl) (Nat.le_refl _) (by simp [aV]))).2.2
   exact ar302 this
 ·cases h
  exact Nat.le_refl _
theorem sC {kd:List Nat}{ws ws':List Wd}{x:PV}(h:oW n kd ws=.ok (x,ws')):dZ (n+7) x∧(∃ l,x=.tup l)∧stp x≤20*ws.length+10∧ws'.length≤ws.length:=by
 unfold oW at h
 split at h
 ·refine X03 (bB n _ _ _ h) fun a1 a2 a3=>?_
  refine X03 (a3 ws (mx ws) (20*ws.length) 0 (I03 (List.suffix_rfl) (Nat.le_refl _) (uE))) fun J J p=>?_
  exact I04 (dN (Nat.le_add_right _ _) a1) a2 (ar304 p) (ar305 p)
 ·split at h
  ·refine X03 (yQ h) fun a1 a2 a3=>?_
   exact I04 a1 a2 a3 (It h)
  ·refine X03 (dA (bB n) h) fun a1 a2 a3=>?_
   refine X03 (a3 ws (mx ws) (20*ws.length) 0 (I03 (List.suffix_rfl) (Nat.le_refl _) (uE))) fun J J p=>?_
   exact I04 (dN (ar306) a1) a2 (ar307 p) (ar308 p)
noncomputable def lfB:List MS:=[.asg 4 (.bin .add (.var 4) (.idx (.wmeth 2 (.var 2) []) (.int 1)))]
set_option tactic.hygienic true in
theorem Gc (R:RW C) {wb:LE→MH→QS→Prop}(hwb:∀ m H Q,wb m H Q=mSs (aB C (n+2)) C.gv nope lfB m H Q) {Q:QS}:∀ (its:List PV) {ws:List Wd}{m:LE}{H:MH}{acc:List Nat},WSt H a d r ws→ws.length≤its.length→acc.length+10*ws.length≤15000000→m 2=.obj a→m 4=.str acc →
  (∀ m' H',Ev d r H H'→m' 3=m 3→m' 4=.str (acc++ws.flatten)→Q .next m' H')→cQ (bC [5] false) wb (fun _=>True) its m H Q:=by
 intro x0
 induction x0 with
 | nil=>
  intro ws m H acc W hl hs h2 h4 q
  obtain rfl:ws=[]:=by cases ws with
   | nil=>rfl
   | cons w r=>simp at hl
  exact q m H .refl rfl (by simpa using h4)
 | cons v its ih=>
  intro ws m H acc W hl hs h2 h4 q
  simp only [List.length_cons] at hl
  rw [dE]
  dsimp only [dC,dB,dP]
  rw [hwb]
  simp only [lfB]
  walk_at "mu"
  repeat (simp only [h2,h4,nuO,nuL,nuI,nuS,nuT,nuB,nuN,nuF,aF,aG];walk_at "mu")
  refine W.meth ?_
  refine X12 W fun ts P T=>?_
  clear h4 W
  cases T with
  | fin z=>
   refine wV R P (aE (k:=1) (Nat.le_of_ble_eq_true rfl) rfl ?_)
   refine ⟨by simp<;>exact Nat.le_trans (Nat.le_add_right _ _) (Nat.le_trans hs (Nat.le_of_ble_eq_true rfl)),?_⟩
   exact ih (ws:=[]) (I12 _ P (.fin z)) (Nat.zero_le _) (by simp<;>omega) h2 (by simp [aJ]<;>rfl) fun m' H' ev e3 e4=>q m' H' ev (e3.trans rfl) (by rw [e4]<;>simp)
  | one hv T=>
   rename_i w z ts ws
   simp only [List.length_cons] at hl hs
   have hwl:=lE w hv
   have P':PSt H a d r (cB (bJ w) w z (if w=[51] then .int 3 else .none) .none::ts):=P
   refine lZ R P' (fun h=>by rw [qI w hv] at h;exact h) fun H' P2 ev=>aE (k:=1) (Nat.le_of_ble_eq_true rfl) rfl ?_
   refine ⟨ar310 hs hwl,?_⟩
   exact ih (ws:=ws) (acc:=acc++w) (I12 _ P2 T) (Nat.le_of_lt_succ hl) (by rw [List.length_append];exact ar312 hs hwl) h2 (by simp [aJ]<;>rfl) fun m' H'' ev2 e3 e4=>q m' H'' (ev.trans ev2) (e3.trans rfl) (by rw [e4];simp)
  | two hw T=>
   rename_i w z ts ws
   simp only [List.length_cons] at hl hs
   have hwl:w.length=1:=by rcases hw with rfl|rfl<;>rfl
   refine lZ R P (by decide) fun H' P2 ev=>aE (k:=1) (Nat.le_of_ble_eq_true rfl) rfl ?_
   refine ⟨by simp<;>exact ar313 hs hwl,?_⟩
   exact ih (ws:=ws) (acc:=acc++(w++w)) (I12 _ P2 T) (Nat.le_trans (Nat.le_succ _) (Nat.le_of_succ_le_succ hl)) (by rw [List.length_append,List.length_append];exact ar315 hs hwl) h2 (by simp [aJ]<;>rfl) fun m' H'' ev2 e3 e4=>q m' H'' (ev.trans ev2) (e3.trans rfl) (by rw [e4];simp)
end
section
variable {C:Cx}{H H₀:MH}{Q:QV}{E:MH→Prop}{n i k p f d A j a r:Nat}{L ws:List Wd}{w x s:Wd}{F:FSt}{gv:Nat→PV}
theorem gr_ev {H':MH}(g:Gr H₀ H) (hd:H₀ d=none) (hr:H₀ r=none) (ev:Ev d r H H'):Gr H₀ H':=fun b hb=>by
 have e:=g b hb
 refine (ev b (fun h=>hb (by rw [h];exact hd)) (fun h=>hb (by rw [h];exact hr)) (by rw [e];exact hb)).trans e
theorem Af:jP=[.asg 2 (.call 29 [.var 1]),
  .tryN [.ifs (.cmp .eq (.var 0) (.str [116,121,112,101])) [.asg 3 (.call 7 [.var 2])] [.ifs (.cmp .eq (.var 0) (.str [103,101,110,101,114,105,99,115])) [.asg 3 (.call 16 [.var 2])] [.asg 3 (.call 11 [.var 2,.cmp .eq (.var 0) (.str [101,120,112,114])])]]],
  .asg 4 (.str []),
  .fors [5] false (.bi .range [.bi .len [.var 1]]) lfB,
  .ret (.list [.call 18 [.var 3],.var 4])]:=rfl
theorem told_s (Rt:aT C 48 2 jP) (R:RP C) (RLx:RL C) (Rw:aT C 19 2 bN) (Rp:aT C 18 1 nV) (G:dM C) {kd:List Nat}{l:List (Nat×Wd)}(hg:iG none l) (hl:(lay l).length≤600000) (hl2:l.length≤100000) (q:DueQ H Q (oW n kd (l.map (·.2)))) :
  aB C (n+14) 48 [.str kd,.str (lay l)] H Q E:=by
 have hll:=vP hg
 apply Rt rfl
 refine Eq.symm (Af)▸?_
 generalize hB:lfB=B
 refine aB.mono (d:=n+5) (ar316) (words_s RLx G hg (Nat.le_trans hl (Nat.le_add_left _ _)) fun a d r H₁ W gr hd hr=>?_)
 have fin:∀ {m:LE},m 0=.str kd→m 1=.str (lay l)→m 2=.obj a→Rd H₁ a d r (fun v H'=>mSs (aB C (n+13)) C.gv E [.asg 4 (.str []),
  .fors [5] false (.bi .range [.bi .len [.var 1]]) B,
  .ret (.list [.call 18 [.var 3],.var 4])] (m.set 3 v) H' (iR Q)) (fun H'=>Q .none H') (oW n kd (l.map (·.2))):=by
  intro m h0 h1 h2
  cases e:oW n kd (l.map (·.2)) with
  | out=>rw [e] at q;exact q
  | fail=>
   replace q:=(e)▸q
   intro H' ev
   exact q H' (gr_ev gr hd hr ev)
  | ok y=>
   obtain ⟨t,r'⟩:=y
   rw [e] at q
   refine X04 (sC e) fun e1 e2 e3 e4=>?_
   rw [List.length_map] at e3 e4
   intro H' t' hp ht W' ev
   have ht':t'≠.undef:=by obtain ⟨xs,rfl⟩:=ht;exact fun h=>nomatch h
   walk_at "mu"
   try simp only [h1]
   refine I04 (Nat.le_trans hl (Nat.le_add_left _ _)) (lB) (ar319 hl) (?_)
   dsimp only [srcT,srcR]
   refine I03 (lB) (ar319 hl) (?_)
   subst hB
   refine Gc (n:=n+11) R.w (fun J J J=>rfl) _ W' (acc:=[]) (by simp;exact Nat.le_trans e4 hll) (by simp;exact ar320 hl2 e4) h2 rfl fun m' H'' ev2 e3' e4'=>?_
   have e5:m' 3=t':=e3'.trans rfl
   walk_at "mu"
   try simp only [e4',e5]
   refine (cI.mpr ⟨ht',?_⟩)
   refine X02 (Ar t') fun pt ps=>?_
   rw [hp] at pt ps
   refine aB.mono (d:=n+2) (ar321) (plain_s Rw Rp (pt (Gi e1)) (ar322 hl2 e3 ps) fun H3 g3=>?_)
   refine Eq.symm (hp)▸?_
   intro b hb
   have g:=(gr_ev gr hd hr (ev.trans ev2)).trans g3
   exact q _ b (aX g hb) (g.put (aX g hb)) aC
 have fin:=fin (m:=(cE [.str kd,.str (lay l)]).set 2 (.obj a)) rfl rfl rfl
 unfold oW at fin
 by_cases h1:kd=Br
 ·rw [if_pos h1] at fin
  walk_at "mu"
  rw [decide_eq_true (show kd=[116,121,112,101] from h1)]
  walk_at "mu"
  refine aB.mono (d:=n+8) (ar323) (uQ R G n W ?_)
  refine (show _→_ from ?_) fin
  try exact id
 ·rw [if_neg h1] at fin
  walk_at "mu"
  rw [decide_eq_false (show ¬kd=[116,121,112,101] from h1)]
  by_cases h2:kd=Bs
  ·rw [if_pos h2] at fin
   walk_at "mu"
   rw [decide_eq_true (show kd=[103,101,110,101,114,105,99,115] from h2)]
   walk_at "mu"
   refine aB.mono (d:=n+13) (Nat.le_refl _) (gens_s R G n W ?_)
   refine (show _→_ from ?_) fin
   try exact id
  ·rw [if_neg h2] at fin
   walk_at "mu"
   rw [decide_eq_false (show ¬kd=[103,101,110,101,114,105,99,115] from h2)]
   walk_at "mu"
   refine aB.mono (d:=n+11) (ar325) (spath_s (M:=n+5) R G (fun W q=>uQ R G n W q) (iH n) W ?_)
   refine (show _→_ from ?_) fin
   try exact id
end
noncomputable def kD (w:Wd):Bool:=w != [38]&&!ldw w
structure Rw (c A N:Nat) (ws:List Wd):Prop where
 voc:∀ w∈ws,w∈bO
 bal:∀ r,mx (ws++r)≤max c (mx r)
 lo:∀ s,s <:+ ws→∀ r,cC (s++r)≤max A (cC r)
 len:ws.length≤N
noncomputable def Cls (A:Nat) (ws:List Wd):Prop:=∀ r,cC (ws++r)≤A
theorem oV {w:Wd}{r:List Wd}(h:kD w=true):cC (w::r)=0:=by
 unfold kD at h
 simp only [Bool.and_eq_true,bne_iff_ne,Bool.not_eq_true'] at h
 simp only [cC,if_neg h.1,h.2];rfl
section
variable {c c' A A' N M:Nat}{ws vs:List Wd}{w b e:Wd}
theorem Rw.mono (h:Rw c A N ws) (h1:c≤c') (h2:A≤A') (h3:N≤M):Rw c' A' M ws:=
 ⟨h.voc,fun r=>Nat.le_trans (h.bal r) (Nat.max_le.mpr ⟨Nat.le_trans h1 (Nat.le_max_left _ _),Nat.le_max_right _ _⟩),fun s hs r=>Nat.le_trans (h.lo s hs r) (Nat.max_le.mpr ⟨Nat.le_trans h2 (Nat.le_max_left _ _),Nat.le_max_right _ _⟩),Nat.le_trans h.len h3⟩
theorem Cls.mono (h:Cls A ws) (h2:A≤A'):Cls A' ws:=fun r=>Nat.le_trans (h r) h2
theorem Rw.nil:Rw c A N []:=⟨(fun J h=>nomatch h),(fun r=>by simp;exact zN),(fun s hs r=>by
 obtain rfl:s=[]:=List.suffix_nil.mp hs
 simp;exact zN),Nat.zero_le _⟩
theorem bE {s ws vs:List Wd}(h:s <:+ ws++vs):s <:+ vs∨∃ t,t <:+ ws∧s=t++vs:=by
 refine X11 h fun p hp=>?_
 rcases Nat.le_total ws.length p.length with hl|hl
 ·left
  have:=congrArg (List.drop ws.length) hp
  rw [List.drop_append_of_le_length hl,List.drop_left] at this
  exact ⟨_,this⟩
 ·right
  refine I12 (ws.drop p.length) (List.drop_suffix _ _) (?_)
  have:=congrArg (List.drop p.length) hp
  rw [List.drop_left,List.drop_append_of_le_length hl] at this
  exact this
theorem Rw.append (h:Rw c A N ws) (g:Rw c A M vs):Rw c A (N+M) (ws++vs):=⟨fun w hw=>(List.mem_append.mp hw).elim (h.voc w) (g.voc w),fun r=>by
  have h1:=h.bal (vs++r)
  have h2:=g.bal r
  rw [List.append_assoc];exact Nat.le_trans h1 (Nat.max_le.mpr ⟨Nat.le_max_left _ _,h2⟩),fun s hs r=>by
  refine Or.elim (bE hs) ?_ ?_
  ·intro hs
   exact g.lo s hs r
  ·rintro ⟨t,ht,rfl⟩
   have h1:=h.lo t ht (vs++r)
   have h2:=g.lo vs List.suffix_rfl r
   rw [List.append_assoc];exact Nat.le_trans h1 (Nat.max_le.mpr ⟨Nat.le_max_left _ _,h2⟩),by
  have:=h.len;have:=g.len;rw [List.length_append];exact Nat.add_le_add (by assumption) this⟩
theorem Cls.append (h:Cls A ws):Cls A (ws++vs):=fun r=>by rw [List.append_assoc];exact h _
theorem Rw.one (hv:w∈bO) (ho:opn w=false) (hc:cls w=false) (ha:w≠[38]):Rw c A 1 [w]:=⟨fun x hx=>by
  rcases List.mem_singleton.mp hx with rfl;exact hv,fun r=>by
  show mx (w::r)≤_
  rw [kI ho hc];exact zN,fun s hs r=>by
  have hl:cC (w::r)≤cC r:=by
   simp only [cC,if_neg ha]
   split<;>omega
  rcases List.suffix_cons_iff.mp hs with rfl|hs
  ·exact Nat.le_trans hl (Nat.le_max_right _ _)
  ·obtain rfl:s=[]:=List.suffix_nil.mp hs
   simp;exact zN,Nat.le_refl _⟩
theorem Rw.cons (hv:w∈bO) (ho:opn w=false) (hc:cls w=false) (ha:w≠[38]) (h:Rw c A N ws):Rw c A (N+1) (w::ws):=by
 have:=(Rw.one (c:=c) (A:=A) hv ho hc ha).append h
 exact this.mono (Nat.le_refl _) (Nat.le_refl _) (Nat.le_of_eq (Nat.add_comm _ _))
theorem Rw.brk (hb:b∈bO) (he:e∈bO) (ob:opn b=true) (ce:cls e=true) (oe:opn e=false) (sb:kD b=true) (se:kD e=true) (h:Rw c A N ws):Rw (c+1) A (N+2) (b::(ws++[e])):=⟨fun x hx=>by
  rcases List.mem_cons.mp hx with rfl|hx
  ·exact hb
  ·rcases List.mem_append.mp hx with hx|hx
   ·exact h.voc x hx
   ·rcases List.mem_singleton.mp hx with rfl;exact he,fun r=>by
  show mx (b::((ws++[e])++r))≤_
  rw [vL ob,List.append_assoc]
  have h1:=h.bal ([e]++r)
  have h2:mx ([e]++r)=mx r - 1:=by
   show mx (e::r)=_
   rw [yJ,oe,ce];rfl
  exact ar332 h1 h2,fun s hs r=>by
  refine Or.elim (List.suffix_cons_iff.mp hs) ?_ ?_
  ·intro rfl
   show cC (b::((ws++[e])++r))≤_
   rw [oV sb];exact Nat.zero_le _
  ·intro hs
   have stop:cC (e::r)=0:=oV se
   refine Or.elim (bE hs) ?_ ?_
   ·intro hs
    rcases List.suffix_cons_iff.mp hs with rfl|hs
    ·exact stop▸Nat.zero_le _
    ·obtain rfl:s=[]:=List.suffix_nil.mp hs
     simp;exact zN
   ·clear hs se sb oe ce ob he hb
    rintro ⟨t,ht,rfl⟩
    have h1:=h.lo t ht (e::r)
    rw [List.append_assoc]
    exact ar335 stop h1,by have:=h.len;simp;exact ar30 this⟩
theorem Cls.stop (sb:kD b=true):Cls A (b::ws):=fun r=>by
 show cC (b::(ws++r))≤_
 rw [oV sb];exact Nat.zero_le _
theorem Cls.ld (hl:ldw w=true) (h:Cls A ws):Cls A (w::ws):=fun r=>by
 show cC (w::(ws++r))≤_
 rw [rQ hl];exact h r
theorem Rw.amp (h:Rw c A N ws) (g:Cls A ws):Rw c (A+1) (N+1) ([38]::ws)∧Cls (A+1) ([38]::ws):=by
 have cl:Cls (A+1) ([38]::ws):=fun r=>by
  show cC ([38]::(ws++r))≤_
  rw [yM];have:=g r;exact ar336 this
 refine ⟨⟨fun x hx=>?_,fun r=>?_,fun s hs r=>?_,?_⟩,cl⟩
 ·rcases List.mem_cons.mp hx with rfl|hx
  ·decide
  ·exact h.voc x hx
 ·show mx ([38]::(ws++r))≤_
  rw [kI (rfl) (rfl)];exact h.bal r
 ·rcases List.suffix_cons_iff.mp hs with rfl|hs
  ·have:=cl r;exact Nat.le_trans this (Nat.le_max_left _ _)
  ·have:=h.lo s hs r;exact ar338 this
 ·have:=h.len;simp;exact ar30 this
theorem Rw.mx (h:Rw c A N ws):Mine.Internal.mx ws≤c:=by
 have:=h.bal []
 rw [List.append_nil] at this
 exact Nat.le_trans this (by simp [Mine.Internal.mx])
theorem Rw.suf (h:Rw c A N ws):wP A ws:=fun s hs=>by
 have:=h.lo s hs []
 rw [List.append_nil] at this
 exact Nat.le_trans this (by simp [cC])
noncomputable def BentR (ws vs:List Wd):Prop:=∃ a x y b,ws=a++(y++b)∧vs=a++(x++b)∧x.length≤3∧y.length≤2∧∀ w∈x,w∈bO∨w∈ws
theorem vM:∀ (x:List Wd) (b:List Wd),Mine.Internal.mx (x++b)≤Mine.Internal.mx b+x.length∧Mine.Internal.mx b≤Mine.Internal.mx (x++b)+x.length:=by
 intro x0
 induction x0 with
 | nil=>intro b;simp
 | cons w x ih=>
  intro b
  refine X02 (ih b) fun h1 h2=>?_
  have h3:Mine.Internal.mx (w::(x++b))≤Mine.Internal.mx (x++b)+1:=by
   rw [yJ];split
   ·exact Nat.le_refl _
   ·split<;>omega
  have h4:=rF w (x++b)
  exact ar340 h1 h2 h3 h4
theorem mx_lip:∀ (a:List Wd) {b b':List Wd}{k:Nat},Mine.Internal.mx b≤Mine.Internal.mx b'+k→Mine.Internal.mx (a++b)≤Mine.Internal.mx (a++b')+k:=by
 intro x0
 induction x0 with
 | nil=>intro J J J h;exact h
 | cons w a ih=>
  intro b b' k h
  have:=ih h
  simp only [List.cons_append,yJ]
  split
  ·exact ar341 this
  ·split<;>omega
theorem nM:∀ (a b:List Wd),cC (a++b)≤cC a+cC b:=by
 intro x0
 induction x0 with
 | nil=>intro b;simp [cC]
 | cons w a ih=>
  intro b
  have:=ih b
  simp only [List.cons_append,cC]
  split
  ·exact ar341 this
  ·split<;>omega
theorem yL:∀ (a b:List Wd),cC a≤cC (a++b):=by
 intro x0
 induction x0 with
 | nil=>intro b;simp [cC]
 | cons w a ih=>
  intro b
  have:=ih b
  simp only [List.cons_append,cC]
  split
  ·exact ar336 this
  ·split<;>omega
theorem nN:∀ (a:List Wd),cC a≤a.length:=by
 intro x0
 induction x0 with
 | nil=>exact Nat.le_refl _
 | cons w a ih=>
  have:=ih
  simp only [cC,List.length_cons]
  split
  ·exact ar336 this
  ·split<;>omega
theorem Rw.bent (h:Rw c A N ws) (g:BentR ws vs):(∀ w∈vs,w∈bO)∧Mine.Internal.mx vs≤c+5∧wP (2*A+3) vs∧vs.length≤N+3:=by
 refine hC fun hG=>?_
 obtain ⟨a,x,y,b,rfl,rfl,hx,hy,hv⟩:=g<;>(refine hG ?_;clear hG)
 have hm:=h.mx
 have hs:=h.suf
 have hl:=h.len
 refine I04 (fun w hw=>?_) (?_) (fun s hs'=>?_) (?_)
 ·rcases List.mem_append.mp hw with hw|hw
  ·exact h.voc w (List.mem_append_left _ hw)
  ·rcases List.mem_append.mp hw with hw|hw
   ·refine Or.elim (hv w hw) ?_ ?_
    ·intro h'
     exact h'
    ·intro h'
     exact h.voc w h'
   ·exact h.voc w (List.mem_append_right _ (List.mem_append_right _ hw))
 ·have h1:=(vM x b).1
  have h2:=(vM y b).2
  have:=mx_lip a (b:=x++b) (b':=y++b) (k:=x.length+y.length) (ar342 h1 h2)
  exact Nat.le_trans this (Nat.add_le_add hm (Nat.add_le_add hx hy))
 ·have hb:∀ t,t <:+ b→cC t≤A:=fun t ht=>hs t (ht.trans ⟨a++y,by simp⟩)
  have hxb:∀ t,t <:+ x++b→cC t≤A+3:=fun t ht=>by
   refine Or.elim (bE ht) ?_ ?_
   ·intro ht
    have:=hb t ht;exact Nat.le_trans this (Nat.le_add_right _ _)
   ·rintro ⟨u,hu,rfl⟩
    have h1:=nM u b
    have h2:=hb b List.suffix_rfl
    have h3:=nN u
    have h4:=hu.length_le
    exact ar345 hx h1 h2 h3 h4
  clear hb hm hv hy h
  rcases bE hs' with ht|⟨u,hu,rfl⟩
  ·have:=hxb s ht;exact ar346 this
  ·have h1:=nM u (x++b)
   have h2:=hxb _ List.suffix_rfl
   have h3:=yL u (y++b)
   have h4:cC (u++(y++b))≤A:=hs _ (by
    clear hxb hs' hs c
    obtain ⟨p,rfl⟩:=hu
    exact ⟨p,by simp⟩)
   exact ar347 h1 h2 h3 h4
 ·simp only [List.length_append] at hl ⊢
  exact ar348 hx hl
end
noncomputable def Src (H:MH) (s:Nat):Prop:=∃ a b:Int,H s=some (.list [.int a,.int b])∧0≤b∧b<2147483647
noncomputable def Gs (s:Nat) (H H':MH):Prop:=∀ b,b≠s→H b≠none→H' b=H b
theorem Gs.refl {s:Nat}{H:MH}:Gs s H H:=fun J J J=>rfl
theorem Gs.trans {s:Nat}{H H' H'':MH}(x:Gs s H H') (y:Gs s H' H''):Gs s H H'':=fun b h1 h2=>(y b h1 (by rw [x b h1 h2];exact h2)).trans (x b h1 h2)
theorem Gs.gr {s:Nat}{H H' H'':MH}(x:Gs s H H') (y:Gr H' H''):Gs s H H'':=fun b h1 h2=>(y b (by rw [x b h1 h2];exact h2)).trans (x b h1 h2)
theorem Gr.gs {s:Nat}{H H':MH}(x:Gr H H'):Gs s H H':=fun b J h2=>x b h2
theorem Gs.put {s:Nat}{H H':MH}(x:Gs s H H') {b:Nat}{o:dJ}(hb:b=s∨H b=none):Gs s H (H'.set b o):=fun c h1 h2=>by
 rw [aL]
 ·exact x c h1 h2
 ·rintro rfl
  rcases hb with h|h
  ·exact h1 h
  ·exact h2 h
theorem Gs.none {s:Nat}{H H':MH}(x:Gs s H H') (h:Src H s) {b:Nat}(hb:H' b=none) (h':Src H' s):H b=none:=by
 by_cases e:H b=.none
 ·exact e
 ·by_cases e2:b=s
  ·subst e2
   refine X22 h' fun J J h1 J=>?_
   rw [h1] at hb;cases hb
  ·rw [x b e2 e] at hb;exact absurd hb e
theorem Src.gr {s:Nat}{H H':MH}(h:Src H s) (g:Gr H H'):Src H' s:=by
 refine X23 h fun a b h1 h2 h3=>?_
 exact I23 a b ((g s (by rw [h1];exact fun x=>nomatch x)).trans h1) h2 h3
theorem Src.put {s:Nat}{H:MH}(h:Src H s) {b:Nat}{o:dJ}(hb:b≠s):Src (H.set b o) s:=by
 refine X23 h fun x y h1 h2 h3=>?_
 exact I23 x y ((aL (Ne.symm hb)).trans h1) h2 h3
theorem Src.ne {s:Nat}{H:MH}(h:Src H s) {b:Nat}(hb:H b=none):b≠s:=by
 rintro rfl
 refine X22 h fun x y h1 J=>?_
 rw [h1] at hb;cases hb
theorem Gs.keep {s:Nat}{H H':MH}(x:Gs s H H') {b:Nat}{o:dJ}(hb:b≠s) (h:H b=some o):H' b=some o:=(x b hb (by rw [h];exact fun x=>nomatch x)).trans h
section
variable {C:Cx}{H H₀:MH}{Q:QV}{E:MH→Prop}{n i k s d A t:Nat}{L ws:List Wd}{w x:Wd}{F:FSt}{gv:Nat→PV}{top:Int}{xs:List PV}
theorem eH (R:aT C 31 2 cK) (S:Src H s) (h0:0<top) (h1:top<1000000) (q:∀ (v:Nat) H',(v:Int)<top→Src H' s→Gs s H H'→Q (.int v) H'):aB C (n+1) 31 [.lst s,.int top] H Q E:=by
 refine X23 S fun a b hs hb0 hb1=>?_
 have q':∀ (z:Int) H',0≤z→z<top→Src H' s→Gs s H H'→Q (.int z) H':=fun z H' hz hz2 S g=>by
  have:=q z.toNat H' (by exact ar515 hz hz2) S g
  rw [Int.toNat_of_nonneg hz] at this;exact this
 apply R rfl
 simp only [cK]
 walk_at "mu"
 refine bX (j:=0) hs (Nat.le_of_ble_eq_true rfl) rfl rfl ?_
 walk_at "mu"
 by_cases ha:0<a
 ·rw [decide_eq_true ha]
  walk_at "mu"
  refine bX (j:=0) hs (Nat.le_of_ble_eq_true rfl) rfl rfl ?_
  refine ⟨h0,?_⟩
  walk_at "mu"
  refine bX (j:=0) hs (by simp) rfl rfl ?_
  refine I03 h0 h1 (?_)
  refine qR hs (I04 (by decide) (by simp) (by simp) (?_))
  exact q' _ _ (Int.emod_nonneg _ (ar349 h0)) (Int.emod_lt_of_pos _ h0) (I23 (a / top) b aC hb0 hb1) (Gs.refl.put (.inl rfl))
 ·rw [decide_eq_false ha]
  walk_at "mu"
  refine bX (j:=1) hs (by simp) rfl rfl ?_
  refine ⟨by omega,?_⟩
  walk_at "mu"
  refine ⟨by decide,?_⟩
  refine qR hs (I04 (by decide) (by simp) (Nat.le_of_ble_eq_true rfl) (?_))
  have hs2:∀ v,(H.set s (.list ([PV.int a,PV.int b].set (1:Int).toNat v))) s=some (.list [.int a,v]):=fun v=>aC
  have hm0:=Int.emod_nonneg (b*39373+7) (show (2147483647:Int)≠0 by decide)
  have hm1:=Int.emod_lt_of_pos (b*39373+7) (show (0:Int)<2147483647 by decide)
  generalize (b*39373+7) % 2147483647=c at *
  walk_at "mu"
  refine bX (j:=1) (hs2 _) (Nat.le_of_ble_eq_true rfl) rfl rfl (bX (j:=1) (hs2 _) (Nat.le_of_ble_eq_true rfl) rfl rfl ?_)
  refine ⟨by omega,?_⟩
  walk_at "mu"
  refine ⟨by decide,?_⟩
  refine I03 (by decide) (by decide) (?_)
  refine ⟨h0,?_⟩
  exact q' _ _ (Int.emod_nonneg _ (ar349 h0)) (Int.emod_lt_of_pos _ h0) (I23 a c (hs2 _) hm0 hm1) (Gs.refl.put (.inl rfl))
theorem Dh (R:aT C 31 2 cK) (R1:aT C 32 2 fL) (S:Src H s) (ht:H t=some (.list xs)) (hts:t≠s) (h0:xs≠[]) (h1:xs.length≤1000) (q:∀ v H',v∈xs→Src H' s→Gs s H H'→Q v H'):aB C (n+2) 32 [.lst s,.lst t] H Q E:=by
 have hl:0<xs.length:=List.length_pos_iff.mpr h0
 apply R1 rfl
 simp only [fL]
 walk_at "mu"
 rw [cV ht]
 refine ⟨jR h1,?_⟩
 refine eH R S (ar350 hl) (ar351 h1) fun v H' hv S' g=>?_
 obtain ⟨u,hu⟩:∃ u,xs[v]?=some u:=⟨_,List.getElem?_eq_getElem (ar352 hv)⟩
 exact bX (j:=v) (g.keep hts ht) (jR h1) rfl hu (q u H' (List.mem_of_getElem? hu) S' g)
theorem one_gc (R:aT C 31 2 cK) (R1:aT C 32 2 fL) (S:Src H s) (h0:xs≠[]) (h1:xs.length≤1000) (q:∀ v H',v∈xs→Src H' s→Gs s H H'→Q v H'):aB C (n+2) 32 [.lst s,.clst xs] H Q E:=by
 have hl:0<xs.length:=List.length_pos_iff.mpr h0
 apply R1 rfl
 simp only [fL]
 walk_at "mu"
 refine And.intro (jR h1) ?_
 refine eH R S (ar350 hl) (ar351 h1) fun v H' hv S' g=>?_
 obtain ⟨u,hu⟩:∃ u,xs[v]?=some u:=⟨_,List.getElem?_eq_getElem (ar352 hv)⟩
 exact qD (fun J J=>rfl) rfl (jR h1) rfl hu (q u H' (List.mem_of_getElem? hu) S' g)
noncomputable def wE (ws:List Wd):ME:=.list (ws.map .str)
noncomputable def chE (xss:List (List Wd)):ME:=.call 32 [.var 0,.list (xss.map wE)]
theorem strs_e:∀ (ws:List Wd) {m:LE}{P:List PV→MH→Prop},P (ws.map .str) H→mEs F gv E (ws.map .str) m H P:=by
 intro x0
 induction x0 with
 | nil=>intro m P q;exact q
 | cons w r ih=>
  intro m P q
  exact ih (P:=fun vs H'=>P (.str w::vs) H') q
theorem wE_e {m:LE}{Q:QV}(q:∀ f,H f=none→Q (.lst f) (H.set f (.list (ws.map .str)))):mE F gv E (wE ws) m H Q:=by
 exact strs_e ws fun f hf=>q f hf
noncomputable def RowsM (H₀ H:MH) (fs:List PV) (xss:List (List Wd)):Prop:=fs.length=xss.length∧∀ v∈fs,∃ f ws,v=.lst f∧ws∈xss∧H f=some (.list (ws.map .str))∧H₀ f=none
theorem lists_e:∀ (xss:List (List Wd)) {m:LE}{H:MH}{P:List PV→MH→Prop},(∀ fs H',Gr H H'→RowsM H H' fs xss→P fs H')→mEs F gv E (xss.map wE) m H P:=by
 intro x0
 induction x0 with
 | nil=>intro m H P q;exact q [] H .refl ⟨rfl,fun J h=>nomatch h⟩
 | cons ws r ih=>
  intro m H P q
  refine wE_e fun f hf=>?_
  refine ih fun fs H' g hr=>q _ _ ((Gr.new hf).trans g) ⟨by simp [hr.1],fun v hv=>?_⟩
  refine Or.elim (List.mem_cons.mp hv) ?_ ?_
  ·intro rfl
   exact I24 f ws rfl (.head _) ((g f (by rw [aC];exact fun x=>nomatch x)).trans aC) hf
  ·intro hv
   refine X24 (hr.2 v hv) fun f' ws' e1 e2 e3 e4=>?_
   exact I24 f' ws' e1 (.tail _ e2) e3 (aX (.new hf) e4)
theorem ch_g {xss:List (List Wd)}(R:aT C 31 2 cK) (R1:aT C 32 2 fL) (S:Src H s) (h0:xss≠[]) (hl:xss.length≤1000) {m:LE}(hm:m 0=.lst s) (q:∀ ws f H',ws∈xss→H' f=some (.list (ws.map .str))→H f=none→Src H' s→Gs s H H'→Q (.lst f) H'):mE (aB C (n+2)) gv E (chE xss) m H Q:=by
 simp only [chE]
 walk_at "mu"
 repeat (simp only [hm,nuO,nuL,nuI,nuS,nuT,nuB,nuN,nuF,aF,aG];walk_at "mu")
 refine lists_e xss fun fs H₁ g hr=>?_
 intro t ht
 have g2:=g.put (o:=.list fs) (aX g ht)
 have S2:=S.gr g2
 refine Dh R R1 S2 aC ((S.gr g).ne ht) (by intro e;rw [e] at hr;exact h0 (List.eq_nil_of_length_eq_zero hr.1.symm)) (by rw [hr.1];exact hl) fun v H' hv S' g'=>?_
 clear S2 g hm m hl h0 R1 R
 obtain ⟨f,ws,rfl,e2,e3,e4⟩:=hr.2 v hv
 have hft:f≠t:=by rintro rfl;rw [e3] at ht;cases ht
 exact q ws f H' e2 (g'.keep (S.ne e4) ((aL hft).trans e3)) e4 S' (g2.gs.trans g')
end
section
variable {C:Cx}{H H₀:MH}{Q:QV}{E:MH→Prop}{n i k s d c A N M t f g:Nat}{L ws:List Wd}{w x b e:Wd}{F:FSt}{gv:Nat→PV}{top:Int}{xs ys fs:List PV}
theorem sR (hf:H f=some (.list xs)) (hg:H g=some (.list ys)) (hl:xs.length+ys.length≤16000000) (q:∀ b,H b=none→Q (.lst b) (H.set b (.list (xs++ys)))):dY .add (.lst f) (.lst g) H Q:=by
 exact (Ds hf hg).mpr ⟨hl,fun b hb=>q b hb⟩
noncomputable def bV (H:MH) (s c A N:Nat) (fs:List PV):Prop:=∀ v∈fs,∃ f ws,v=.lst f∧H f=some (.list (ws.map .str))∧Rw c A N ws∧f≠s
theorem bV.gs {H':MH}(h:bV H s c A N fs) (g:Gs s H H'):bV H' s c A N fs:=fun v hv=>by
 refine X24 (h v hv) fun f ws e1 e2 e3 e4=>?_
 exact I24 f ws e1 (g.keep e4 e2) e3 e4
noncomputable def lsB:List MS:=[.asg 5 (.bin .add (.var 5) (.idx (.var 1) (.var 6))),
  .ifs (.or [.cmp .lt (.bin .add (.var 6) (.int 1)) (.bi .len [.var 1]),.cmp .eq (.call 31 [.var 0,.int 4]) (.int 0),.and [.var 4,.cmp .eq (.bi .len [.var 1]) (.int 1)]]) [.expr (.meth .append (.var 5) [.str [44]])] []]
theorem vN:gJ=[.asg 5 (.list [.var 2]),.fors [6] false (.bi .range [.bi .len [.var 1]]) lsB,.ret (.bin .add (.var 5) (.list [.var 3]))]:=rfl
theorem ls_loop {tp:Bool}(R:aT C 31 2 cK) {wb:LE→MH→QS→Prop}(hwb:∀ m H Q,wb m H Q=mSs (aB C (n+1)) C.gv nope lsB m H Q) (S0:Src H₀ s) (ht:H₀ t=some (.list fs)) (hts:t≠s) (hfs:fs.length≤1000) (hR:bV H₀ s c A N fs) (hN:N≤1000000) {Q:QS}:∀ (its:List PV) {m:LE}{H:MH}{body:List Wd}{f M:Nat},
  (∀ v∈its,∃ j:Nat,v=.int j∧j<fs.length)→m 0=.lst s→m 1=.lst t→m 4=.bool tp→m 5=.lst f→H f=some (.list ((b::body).map .str))→H₀ f=none→Rw c A M body→M+its.length*(N+1)≤10000000→Src H s→Gs s H₀ H →
  (∀ m' H' body' f',m' 3=m 3→m' 5=.lst f'→H' f'=some (.list ((b::body').map .str))→H₀ f'=none→Rw c A (M+its.length*(N+1)) body'→Src H' s→Gs s H₀ H'→Q .next m' H')→cQ (bC [6] false) wb (fun J=>True) its m H Q:=by
 intro x0
 induction x0 with
 | nil=>intro m H body f M hi h0 h1 h4 h5 hf hn hw hM S g q;exact q m H body f rfl h5 hf hn (by simpa using hw) S g
 | cons v its ih=>
  intro m H body f M hi h0 h1 h4 h5 hf hn hw hM S g q
  obtain ⟨j,rfl,hj⟩:=hi v (.head _)
  rw [List.length_cons,Nat.add_mul] at hM
  rw [dE]
  dsimp only [dC,dB,dP]
  rw [hwb]
  simp only [lsB]
  walk_at "mu"
  repeat (simp only [h0,h1,h4,h5,nuO,nuL,nuI,nuS,nuT,nuB,nuN,nuF,aF,aG];walk_at "mu")
  have ht1:=g.keep hts ht
  refine hC fun hG=>?_
  obtain ⟨u,hu⟩:∃ u,fs[j]?=some u:=⟨_,List.getElem?_eq_getElem hj⟩
  clear hj hn
  obtain ⟨fr,row,rfl,e2,e3,e4⟩:=(hR.gs g) u (List.mem_of_getElem? hu)
  refine hG ?_;clear hG
  have hb1:=hw.len
  have hb2:=e3.len
  refine bX ht1 (jR hfs) rfl hu ?_
  refine sR hf e2 (by simp;exact ar477 hM hb1 hb2) fun f2 hf2=>?_
  have f2s:=S.ne hf2
  have hf2n:H₀ f2=none:=g.none S0 hf2 S
  have g2:=g.put (o:=.list ((b::body).map .str++row.map .str)) (.inr hf2n)
  have S2:=S.put (o:=.list ((b::body).map .str++row.map .str)) f2s
  have hc2:(H.set f2 (.list ((b::body).map .str++row.map .str))) f2=some (.list ((b::(body++row)).map .str)):=by rw [aC];simp
  have ht2:=g2.keep hts ht
  have hw2:=hw.append e3
  walk_at "mu"
  repeat (simp only [h0,h1,h4,h5,nuO,nuL,nuI,nuS,nuT,nuB,nuN,nuF,aF,aG];walk_at "mu")
  rw [cV ht2]
  refine ⟨jR hfs,?_⟩
  walk_at "mu"
  have cont:∀ {H':MH} (add:Bool) (m':LE),Gs s H₀ H'→Src H' s→H' f2=some (.list ((b::(body++row)).map .str))→m' 0=.lst s→m' 1=.lst t→m' 4=.bool tp→m' 5=.lst f2→m' 3=m 3 →
    cQ (bC [6] false) wb (fun J=>True) its m' (if add then H'.set f2 (.list ((b::(body++row)).map .str++[.str [44]])) else H') Q:=by
   intro H' add m' g' S' hc h0' h1' h4' h5' h3'
   have last:∀ m'' H'' body' f',m'' 3=m' 3→m'' 5=.lst f'→H'' f'=some (.list ((b::body').map .str))→H₀ f'=none→Rw c A (M+N+1+its.length*(N+1)) body'→Src H'' s→Gs s H₀ H''→Q .next m'' H'':=fun m'' H'' body' f' e3 e5 e6 e7 e8 e9 e10=>
    q m'' H'' body' f' (e3.trans h3') e5 e6 e7 (e8.mono (Nat.le_refl _) (Nat.le_refl _) (by rw [List.length_cons,Nat.add_mul];exact ar353)) e9 e10
   cases add with
   | true=>
    exact ih (body:=body++row++[[44]]) (f:=f2) (M:=M+N+1) (fun v hv=>hi v (.tail _ hv)) h0' h1' h4' h5' (by rw [if_pos rfl,aC];simp) hf2n (hw2.append (Rw.one (by decide) (rfl) (rfl) (by decide))) (ar354 hM) (S'.put f2s) (g'.put (.inr hf2n)) last
   | false=>
    exact ih (body:=body++row) (f:=f2) (M:=M+N+1) (fun v hv=>hi v (.tail _ hv)) h0' h1' h4' h5' hc hf2n (hw2.mono (Nat.le_refl _) (Nat.le_refl _) (Nat.le_succ _)) (ar354 hM) S' g' last
  have app:∀ {H':MH} {m':LE},Gs s H₀ H'→Src H' s→H' f2=some (.list ((b::(body++row)).map .str))→m' 0=.lst s→m' 1=.lst t→m' 4=.bool tp→m' 5=.lst f2→m' 3=m 3 →
    fQ .append (.lst f2) H'∧jW .append (.lst f2) [.str [44]] H' fun J H'=>cQ (bC [6] false) wb (fun J=>True) its m' H' Q:=by
   intro H' m' g' S' hc h0' h1' h4' h5' h3'
   refine ⟨aS hc,bF hc (by have:=hw2.len;simp at this ⊢;exact ar478 hM this) ?_⟩
   exact cont true m' g' S' hc h0' h1' h4' h5' h3'
  generalize (H.set f2 (.list ((b::body).map .str++row.map .str)))=H₂ at *
  have e0:((m.set 6 (.int j)).set 5 (.lst f2)) 0=.lst s:=by simp [aJ,h0]
  have e1:((m.set 6 (.int j)).set 5 (.lst f2)) 1=.lst t:=by simp [aJ,h1]
  have e4':((m.set 6 (.int j)).set 5 (.lst f2)) 4=.bool tp:=by simp [aJ,h4]
  have e5:((m.set 6 (.int j)).set 5 (.lst f2)) 5=.lst f2:=by simp [aJ]
  have e3':((m.set 6 (.int j)).set 5 (.lst f2)) 3=m 3:=by simp [aJ]
  by_cases hlt:(j:Int)+1<fs.length
  ·refine Eq.symm (decide_eq_true hlt)▸?_
   exact app g2 S2 hc2 e0 e1 e4' e5 e3'
  ·refine Eq.symm (decide_eq_false hlt)▸?_
   refine eH R S2 (by decide) (by decide) fun z H3 hz S3 g3=>?_
   have gg:=g2.trans g3
   have hc3:=g3.keep f2s hc2
   walk_at "mu"
   by_cases hz0:(z:Int)=0
   ·refine Eq.symm (decide_eq_true hz0)▸?_
    exact app gg S3 hc3 e0 e1 e4' e5 e3'
   ·refine Eq.symm (decide_eq_false hz0)▸?_
    cases tp with
    | true=>
     have ht3:=gg.keep hts ht
     refine Eq.symm (cV ht3)▸?_
     refine ⟨jR hfs,?_⟩
     walk_at "mu"
     by_cases h1':(fs.length:Int)=1
     ·refine Eq.symm (decide_eq_true h1')▸?_
      exact app gg S3 hc3 e0 e1 e4' e5 e3'
     ·refine Eq.symm (decide_eq_false h1')▸?_
      exact cont false _ gg S3 hc3 e0 e1 e4' e5 e3'
    | false=>
     exact cont false _ gg S3 hc3 e0 e1 e4' e5 e3'
theorem rO {tp:Bool}(R:aT C 31 2 cK) (Rl:aT C 35 5 gJ) (S:Src H s) (ht:H t=some (.list fs)) (hts:t≠s) (hfs:fs.length≤1000) (hR:bV H s c A N fs) (hN:N≤5000) (hb:b∈bO) (he:e∈bO) (ob:opn b=true) (ce:cls e=true) (oe:opn e=false) (sb:kD b=true) (se:kD e=true)
  (q:∀ ws f H',Rw (c+1) A (fs.length*(N+1)+2) ws→Cls 0 ws→H' f=some (.list (ws.map .str))→H f=none→Src H' s→Gs s H H'→Q (.lst f) H'):aB C (n+2) 35 [.lst s,.lst t,.str b,.str e,.bool tp] H Q E:=by
 apply Rl rfl
 refine Eq.symm (vN)▸?_
 generalize hB:lsB=B
 intro f0 hf0
 have f0s:=S.ne hf0
 have g1:Gs s H (H.set f0 (.list [.str b])):=Gs.refl.put (.inr hf0)
 have S1:Src (H.set f0 (.list [.str b])) s:=S.put f0s
 walk_at "mu"
 rw [cV (g1.keep hts ht)]
 refine ⟨jR hfs,?_⟩
 refine ⟨lB,ar356 hfs,?_⟩
 refine ⟨lB,ar356 hfs,?_⟩
 subst hB
 have hlen:((List.range ((fs.length:Nat):Int).toNat).map fun (i:Nat)=>PV.int (i:Int)).length=fs.length:=by simp
 have hmul:fs.length*(N+1)≤1000*5001:=Nat.mul_le_mul hfs (Nat.succ_le_succ hN)
 refine ls_loop (M:=0) (body:=[]) (b:=b) (tp:=tp) R (fun J J J=>rfl) S ht hts hfs hR (Nat.le_trans hN (Nat.le_add_left _ _)) _ (fun v hv=>?_) rfl rfl rfl (by simp [aJ]<;>rfl) aC hf0 Rw.nil (by rw [hlen];exact Nat.le_trans (Nat.le_of_eq (Nat.add_comm _ _)) (Nat.le_trans hmul (Nat.le_of_ble_eq_true rfl))) S1 g1 fun m' H' body f e3 e5 hf hn hw S' g'=>?_
 ·obtain ⟨j,hj,rfl⟩:=List.mem_map.mp hv
  exact I12 j rfl (by simpa using hj)
 ·replace hw:=(hlen)▸hw
  walk_at "mu"
  repeat (simp only [e5,e3,nuO,nuL,nuI,nuS,nuT,nuB,nuN,nuF,aF,aG];walk_at "mu")
  intro f1 hf1
  have hff:f≠f1:=by rintro rfl;rw [hf] at hf1;cases hf1
  have hl:=hw.len
  have hn1:=g'.none S hf1 S'
  have g2:=g'.put (o:=.list [.str e]) (.inr hn1)
  have S2:=S'.put (o:=.list [.str e]) (S'.ne hf1)
  refine sR ((aL hff).trans hf) aC (by simp;exact ar479 hmul hl) fun f2 hf2=>?_
  have hn2:=g2.none S hf2 S2
  refine q (b::(body++[e])) f2 _ ((hw.brk hb he ob ce oe sb se).mono (Nat.le_refl _) (Nat.le_refl _) (ar360)) (Cls.stop sb) (by rw [aC];simp) hn2 (S2.put (S2.ne hf2)) (g2.put (.inr hn2))
end
section
variable {C:Cx}{H H₀:MH}{Q:QV}{E:MH→Prop}{n i k s d c A N M t f g:Nat}{L ws:List Wd}{w x b e:Wd}{F:FSt}{gv:Nat→PV}{top:Int}{xs ys fs:List PV}
noncomputable def lT (H:MH) (s c A N:Nat) (Q:QV):Prop:=∀ ws f H',Rw c A N ws→Cls A ws→H' f=some (.list (ws.map .str))→H f=none→Src H' s→Gs s H H'→Q (.lst f) H'
structure RG (C:Cx):Prop where
 take:aT C 31 2 cK
 one:aT C 32 2 fL
 path:aT C 33 3 gW
 angles:aT C 34 2 fM
 listed:aT C 35 5 gJ
 type:aT C 36 2 gV
 gens:aT C 37 1 dR
 bent:aT C 38 2 mN
 text:aT C 39 2 mK
 pool:aT C 30 2 jQ
noncomputable def NT:Nat→Nat
 | 0=>9
 | d+1=>27+12*NT d
noncomputable def pwB:List MS:=[.ifs (.cmp .gt (.var 4) (.int 0)) [.expr (.meth .append (.var 3) [.str [58,58]])] [],
  .asg 5 (.call 31 [.var 0,.int 6]),
  .expr (.meth .append (.var 3) [.call 32 [.var 0,.ite (.and [.cmp .eq (.var 5) (.int 0),.cmp .lt (.var 4) (.int 2)]) (.gval 9) (.gval 10)]]),
  .ifs (.and [.cmp .gt (.var 1) (.int 0),.cmp .gt (.var 5) (.int 3)]) [.asg 3 (.bin .add (.bin .add (.var 3) (.bin .mul (.list [.str [58,58]]) (.bi .int [.or [.var 2,.cmp .eq (.var 5) (.int 5)]]))) (.call 34 [.var 0,.bin .sub (.var 1) (.int 1)]))] []]
theorem xS:gW=[.asg 3 (.list []),.fors [4] false (.bi .range [.bin .add (.int 1) (.call 31 [.var 0,.int 3])]) pwB,.ret (.var 3)]:=rfl
theorem begs_ok:∀ w∈lX,w∈bO∧opn w=false∧Mine.Internal.cls w=false∧w≠[38]∧kD w=true:=by decide +kernel
theorem nams_ok:∀ w∈nK,w∈bO∧opn w=false∧Mine.Internal.cls w=false∧w≠[38]∧kD w=true:=by decide +kernel
noncomputable def AngG (C:Cx) (s d:Nat):Prop:=∀ {H:MH}{Q:QV}{E:MH→Prop},Src H s→lT H s (d+1) (d+1) (4*(NT d+1)+2) Q→aB C (3*d+7) 34 [.lst s,.int d] H Q E
theorem pw_loop {isE:Bool}(R:RG C) (hg9:C.gv 9=.clst (lX.map .str)) (hg10:C.gv 10=.clst (nK.map .str)) (hA:∀ d',d=d'+1→AngG C s d'∧4*(NT d'+1)+2≤N) {wb:LE→MH→QS→Prop}(hwb:∀ m H Q,wb m H Q=mSs (aB C (3*d+4)) C.gv nope pwB m H Q) (S0:Src H₀ s) (hN:N≤100000) {Q:QS}:∀ (its:List PV) {m:LE}{H:MH}{ws:List Wd}{f M:Nat},
  (∀ v∈its,∃ j:Nat,v=.int j)→m 0=.lst s→m 1=.int d→m 2=.bool isE→m 3=.lst f→H f=some (.list (ws.map .str))→H₀ f=none→Rw d d M ws→(ws=[]∨Cls 0 ws)→(its=[]→Cls 0 ws)→M+its.length*(N+3)≤1000000→Src H s→Gs s H₀ H →
  (∀ m' H' ws' f',m' 3=.lst f'→H' f'=some (.list (ws'.map .str))→H₀ f'=none→Rw d d (M+its.length*(N+3)) ws'→Cls 0 ws'→Src H' s→Gs s H₀ H'→Q .next m' H')→cQ (bC [4] false) wb (fun J=>True) its m H Q:=by
 intro x0
 induction x0 with
 | nil=>intro m H ws f M hi h0 h1 h2 h3 hf hn hw hws hcl hM S g q;exact q m H ws f h3 hf hn (by simpa using hw) (hcl rfl) S g
 | cons v its ih=>
  intro m H ws f M hi h0 h1 h2 h3 hf hn hw hws hcl hM S g q
  obtain ⟨j,rfl⟩:=hi v (.head _)
  rw [List.length_cons,Nat.add_mul] at hM
  have hl:=hw.len
  rw [dE]
  dsimp only [dC,dB,dP]
  rw [hwb]
  simp only [pwB]
  generalize hA1:MS.asg 5 (.call 31 [.var 0,.int 6])=s1
  generalize hA2:MS.expr (.meth .append (.var 3) [.call 32 [.var 0,.ite (.and [.cmp .eq (.var 5) (.int 0),.cmp .lt (.var 4) (.int 2)]) (.gval 9) (.gval 10)]])=s2
  generalize hA3:MS.ifs (.and [.cmp .gt (.var 1) (.int 0),.cmp .gt (.var 5) (.int 3)]) [.asg 3 (.bin .add (.bin .add (.var 3) (.bin .mul (.list [.str [58,58]]) (.bi .int [.or [.var 2,.cmp .eq (.var 5) (.int 5)]]))) (.call 34 [.var 0,.bin .sub (.var 1) (.int 1)]))] []=s3
  have third:∀ {m':LE} {H':MH} {ws':List Wd} (way:Nat),m' 0=.lst s→m' 1=.int d→m' 2=.bool isE→m' 3=.lst f→m' 5=.int way→H' f=some (.list (ws'.map .str))→Rw d d (M+2) ws'→Cls 0 ws'→Src H' s→Gs s H₀ H' →
    mSs (aB C (3*d+4)) C.gv nope [s3] m' H' (eN (cQ (bC [4] false) wb (fun J=>True) its) Q):=by
   intro m' H' ws' way h0' h1' h2' h3' h5' hf' hw' hc' S' g'
   have hl':=hw'.len
   have next:∀ {m'':LE} {H'':MH} {ws'':List Wd} {f'':Nat},m'' 0=.lst s→m'' 1=.int d→m'' 2=.bool isE→m'' 3=.lst f''→H'' f''=some (.list (ws''.map .str))→H₀ f''=none→Rw d d (M+(N+3)) ws''→Cls 0 ws''→Src H'' s→Gs s H₀ H'' →
     cQ (bC [4] false) wb (fun J=>True) its m'' H'' Q:=by
    intro m'' H'' ws'' f'' e0 e1 e2 e3 ef en ew ec eS eg
    refine ih (M:=M+(N+3)) (fun v hv=>hi v (.tail _ hv)) e0 e1 e2 e3 ef en ew (.inr ec) (fun J=>ec) (ar361 hM) eS eg fun m3 H3 ws3 f3 a3 a4 a5 a6 a7 a8 a9=>?_
    exact q m3 H3 ws3 f3 a3 a4 a5 (a6.mono (Nat.le_refl _) (Nat.le_refl _) (by rw [List.length_cons,Nat.add_mul];exact ar362)) a7 a8 a9
   clear hl q hi hN hwb
   subst hA3
   walk_at "mu"
   repeat (simp only [h0',h1',h2',h3',h5',nuO,nuL,nuI,nuS,nuT,nuB,nuN,nuF,aF,aG];walk_at "mu")
   have skip:=next (m'':=m') (H'':=H') h0' h1' h2' h3' hf' hn (hw'.mono (Nat.le_refl _) (Nat.le_refl _) (ar363)) hc' S' g'
   match d,hA with
   | 0,hA=>
    exact skip
   | d'+1,hA=>
    refine X02 (hA d' rfl) fun hA hNA=>?_
    rw [decide_eq_true (ar365)]
    by_cases hw3:(3:Int)<way
    ·rw [decide_eq_true hw3]
     walk_at "mu"
     repeat (simp only [h0',h1',h2',h3',h5',nuO,nuL,nuI,nuS,nuT,nuB,nuN,nuF,aF,aG];walk_at "mu")
     intro f1 hf1
     have f1s:=S'.ne hf1
     have hn1:=g'.none S0 hf1 S'
     have g1:=g'.put (o:=.list [.str [58,58]]) (.inr hn1)
     have S1:=S'.put (o:=.list [.str [58,58]]) f1s
     have hff1:f≠f1:=by rintro rfl;rw [hf'] at hf1;cases hf1
     have mul:∀ z:Int,(z=0∨z=1)→dY .mul (.lst f1) (.int z) (H'.set f1 (.list [.str [58,58]])) fun y H₂=>
       dY .add (.lst f) y H₂ fun x H₁=>aB C (3*(d'+1)+4) 34 [.lst s,.int (((d'+1:Nat):Int) - 1)] H₁ (fun y H₂=>dY .add x y H₂ fun v H'=>cQ (bC [4] false) wb (fun J=>True) its (m'.set 3 v) H' Q) nope:=by
      intro z hz
      obtain ⟨cs,ec,hcs⟩:∃ cs:List Wd,(if z=0 then [] else [PV.str [58,58]])=cs.map .str∧Rw (d'+1) (d'+1) 1 cs:=by
       refine Or.elim hz ?_ ?_
       ·intro rfl
        exact I12 ([]) rfl (Rw.nil)
       ·intro rfl
        exact I12 ([[58,58]]) rfl (Rw.one (by decide) (by decide) (by decide) (by decide))
      refine mul_q aC (I04 (ar366 hz) (ar367 hz) (Nat.le_of_ble_eq_true rfl) (?_))
      rw [ec]
      intro f2 hf2
      have hn2:=g1.none S0 hf2 S1
      have g2:=g1.put (o:=.list (cs.map .str)) (.inr hn2)
      have S2:=S1.put (o:=.list (cs.map .str)) (S1.ne hf2)
      have hff2:f≠f2:=by
       clear hn2 hn1 f1s ec h5' hM
       rintro rfl;rw [aL hff1,hf'] at hf2;cases hf2
      have hcl:=hcs.len
      refine sR ((aL hff2).trans ((aL hff1).trans hf')) aC (by simp;exact ar480 hM hl' hcl) fun f3 hf3=>?_
      have hn3:=g2.none S0 hf3 S2
      have f3s:=S2.ne hf3
      have g3:=g2.put (o:=.list (ws'.map .str++cs.map .str)) (.inr hn3)
      have S3:=S2.put (o:=.list (ws'.map .str++cs.map .str)) f3s
      refine Eq.symm (show (((d'+1:Nat):Int) - 1)=((d':Nat):Int) by exact ar368)▸?_
      refine aB.mono (d:=3*d'+7) (Nat.le_refl _) (hA S3 fun row f4 H4 rw4 rc4 rf4 rn4 rS4 rg4=>?_)
      have hrl:=rw4.len
      refine sR (rg4.keep f3s aC) rf4 (by simp;exact ar481 hM hl' hNA hcl hrl) fun f5 hf5=>?_
      have g5:=g3.trans rg4
      have hn5:=g5.none S0 hf5 rS4
      have w5:=(hw'.append hcs).append rw4
      refine next (ws'':=(ws'++cs)++row) h0' h1' h2' rfl (by rw [aC];simp) hn5 (w5.mono (Nat.le_refl _) (Nat.le_refl _) (ar370 hNA)) ((hc'.append).append) (rS4.put (rS4.ne hf5)) (g5.put (.inr hn5))
     clear hff1 hn1 f1s hNA h5' hM hcl next
     cases isE with
     | true=>exact mul 1 (.inr rfl)
     | false=>
      refine mul _ ?_
      split<;>simp
    ·rw [decide_eq_false hw3]
     exact skip
  have second:∀ {m':LE} {H':MH} {ws':List Wd},m' 0=.lst s→m' 1=.int d→m' 2=.bool isE→m' 3=.lst f→m' 4=.int j→H' f=some (.list (ws'.map .str))→Rw d d (M+1) ws'→(ws'=[]∨Cls 0 ws')→Src H' s→Gs s H₀ H' →
    mSs (aB C (3*d+4)) C.gv nope [s1,s2,s3] m' H' (eN (cQ (bC [4] false) wb (fun J=>True) its) Q):=by
   intro m' H' ws' h0' h1' h2' h3' h4' hf' hw' hc' S' g'
   have fs:f≠s:=S0.ne hn
   have hl':=hw'.len
   clear hA3 hl q hcl hi hN hwb hA
   subst hA1;subst hA2
   walk_at "mu"
   repeat (simp only [h0',h1',h2',h3',h4',nuO,nuL,nuI,nuS,nuT,nuB,nuN,nuF,aF,aG];walk_at "mu")
   refine eH (n:=3*d+3) R.take S' (by decide) (by decide) fun way H1 hway S1 g1=>?_
   have gg:=g'.trans g1
   have hf1:=g1.keep fs hf'
   walk_at "mu"
   repeat (simp only [h0',h1',h2',h3',h4',nuO,nuL,nuI,nuS,nuT,nuB,nuN,nuF,aF,aG];walk_at "mu")
   refine ⟨aS hf1,?_⟩
   have name:∀ {ps:List Wd},ps≠[]→ps.length≤1000→(∀ w∈ps,w∈bO∧opn w=false∧Mine.Internal.cls w=false∧w≠[38]∧kD w=true) →
     aB C (3*d+4) 32 [.lst s,.clst (ps.map .str)] H1 (fun v H'=>jW .append (.lst f) [v] H' fun J H'=>mSs (aB C (3*d+4)) C.gv nope [s3] (m'.set 5 (.int way)) H' (eN (cQ (bC [4] false) wb (fun J=>True) its) Q)) nope:=by
    intro ps h1 h2 h3
    refine one_gc (n:=3*d+2) R.take R.one S1 (by simp [h1]) (by simpa using h2) fun v H2 hv S2 g2=>?_
    refine hC fun hG=>?_
    obtain ⟨w,hw5,rfl⟩:=List.mem_map.mp hv<;>(refine hG ?_;clear hG)
    refine X05 (h3 w hw5) fun p1 p2 p3 p4 p5=>?_
    have hf2:=g2.keep fs hf1
    refine bF hf2 (by simp;exact ar482 hM hl') ?_
    refine third (ws':=ws'++[w]) way h0' h1' h2' h3' rfl (by rw [aC];simp) ((hw'.append (Rw.one p1 p2 p3 p4)).mono (Nat.le_refl _) (Nat.le_refl _) (Nat.le_refl _)) ?_ (S2.put fs) ((gg.trans g2).put (.inr hn))
    rcases hc' with rfl|hc'
    ·exact Cls.stop p5
    ·exact hc'.append
   rw [hg9,hg10]
   have nb:=name (ps:=lX) (by decide) (Nat.le_of_ble_eq_true rfl) begs_ok
   have nn:=name (ps:=nK) (by decide) (Nat.le_of_ble_eq_true rfl) nams_ok
   by_cases hz:(way:Int)=0
   ·rw [decide_eq_true hz]
    by_cases hz2:(j:Int)<2
    ·rw [decide_eq_true hz2];exact nb
    ·rw [decide_eq_false hz2];exact nn
   ·rw [decide_eq_false hz];exact nn
  have fs:f≠s:=S0.ne hn
  have plain:=second (m':=m.set 4 (.int j)) (H':=H) (ws':=ws) h0 h1 h2 h3 rfl hf (hw.mono (Nat.le_refl _) (Nat.le_refl _) (El)) hws S g
  have col:=second (m':=m.set 4 (.int j)) (H':=H.set f (.list ((ws++[[58,58]]).map .str))) (ws':=ws++[[58,58]]) h0 h1 h2 h3 rfl aC (hw.append (Rw.one (by decide) (by decide) (by decide) (by decide))) (.inr (hws.elim (fun e=>by subst e;exact Cls.stop (rfl)) (fun h=>h.append))) (S.put fs) (g.put (.inr hn))
  rw [List.map_append] at col
  walk_at "mu"
  by_cases hj:(0:Int)<j
  ·refine Eq.symm (decide_eq_true hj)▸?_
   walk_at "mu"
   repeat (simp only [h0,h1,h2,h3,nuO,nuL,nuI,nuS,nuT,nuB,nuN,nuF,aF,aG];walk_at "mu")
   refine ⟨aS hf,bF hf (by simp;exact ar483 hM hl) ?_⟩
   exact col
  ·refine Eq.symm (decide_eq_false hj)▸?_
   refine (show _→_ from ?_) plain
   try exact id
theorem vC {isE:Bool}(R:RG C) (G:dM C) (hA:∀ d',d=d'+1→AngG C s d') (hN:NT d≤100000) (S:Src H s) (q:lT H s d d (NT d) Q):aB C (3*d+5) 33 [.lst s,.int d,.bool isE] H Q E:=by
 apply R.path rfl
 refine Eq.symm (xS)▸?_
 generalize hB:pwB=B
 intro f hf
 have fs:=S.ne hf
 refine eH (n:=3*d+3) R.take (S.put fs) (by decide) (by decide) fun v H1 hv S1 g1=>?_
 refine ⟨(Int.ofNat_nonneg _),ar373 hv,?_⟩
 dsimp only [srcT,srcR]
 refine ⟨(Int.ofNat_nonneg _),ar373 hv,?_⟩
 subst hB
 have gg:Gs s H H1:=(Gs.refl.put (.inr hf)).trans g1
 have hf1:H1 f=some (.list (([]:List Wd).map .str)):=g1.keep fs aC
 obtain ⟨N,hN1,hN2⟩:∃ N,(∀ d',d=d'+1→4*(NT d'+1)+2≤N)∧3*(N+3)≤NT d∧N≤100000:=by
  cases d with
  | zero=>exact I12 0 (fun d' h=>ar374 h) (by decide)
  | succ d'=>exact I12 (4*(NT d'+1)+2) (fun d2 h=>by cases h;exact Nat.le_refl _) (by simp only [NT] at hN ⊢;exact ar376 hN)
 have hlen:((List.range ((1:Int)+v).toNat).map fun (i:Nat)=>PV.int (i:Int)).length=v+1:=by simp;exact Nat.add_comm _ _
 have hv:v≤2:=by exact ar377 hv
 have hmul:(v+1)*(N+3)≤3*(N+3):=Nat.mul_le_mul_right _ (Nat.succ_le_succ hv)
 refine pw_loop (M:=0) (ws:=[]) (f:=f) (isE:=isE) R G.g9 G.g10 (fun d' e=>⟨hA d' e,hN1 d' e⟩) (fun J J J=>rfl) S hN2.2 _ (fun v hv=>?_) rfl rfl rfl rfl hf1 hf Rw.nil (.inl rfl) (fun e=>?_) (by rw [hlen];exact ar379 hN2 hmul) S1 gg fun m' H' ws f' h3 hf' hn hw hc S' g'=>?_
 ·obtain ⟨j,hj,rfl⟩:=List.mem_map.mp hv
  exact ⟨j,rfl⟩
 ·rw [e] at hlen;cases hlen
 ·rw [hlen] at hw
  walk_at "mu"
  try rw [h3]
  exact q ws f' H' (hw.mono (Nat.le_refl _) (Nat.le_refl _) (ar380 hN2 hmul)) (hc.mono (Nat.zero_le _)) hf' hn S' g'
end
section
variable {C:Cx}{H H₀:MH}{Q:QV}{E:MH→Prop}{n i k s d c A N M t f g x:Nat}{L ws:List Wd}{w b e:Wd}{F:FSt}{gv:Nat→PV}{xs ys fs:List PV}
theorem nT {P:List PV→MH→Prop}{μ:LE}{cc:LE→MH→(Bool→MH→Prop)→Prop}{ee:LE→MH→QV→Prop}(hcc:∀ m H Q,cc m H Q=Q true H) (hee:∀ m H Q,ee m H Q=nu (m x) (gF [m x] H Q)) {L:List PV}:∀ (ws:List Wd) {acc:List PV}{H:MH},(∀ w∈ws,w∈bO∧opn w=false∧Mine.Internal.cls w=false∧w≠[38])→H f=some (.list L)→1≤N→bV H s c A N acc→Src H s→acc.length+ws.length≤1000 →
  (∀ ys H',Gr H H'→bV H' s c A N ys→ys.length=acc.length+ws.length→P ys H')→fB x cc ee (fun H'=>H' f=some (.list L)) μ (ws.map .str) H acc P:=by
 intro x0
 induction x0 with
 | nil=>
  intro acc H J J J hR J J q
  exact q acc H .refl hR (rfl)
 | cons w ws ih=>
  intro acc H hv hf hN hR S hl q
  simp only [List.map_cons,lN,lO,hcc,hee]
  simp only [List.length_cons] at hl
  refine X04 (hv w (.head _)) fun p1 p2 p3 p4=>?_
  refine (cI.mpr ⟨by simp [aJ],?_⟩)
  intro b hb
  have hfb:f≠b:=by rintro rfl;rw [hf] at hb;cases hb
  have hf':∀ o,(H.set b o) f=some (.list L):=fun o=>(aL hfb).trans hf
  refine I03 (hf' _) (Nat.lt_of_le_of_lt (Nat.le_add_right _ _) (Nat.lt_of_le_of_lt hl (Nat.le_of_ble_eq_true rfl))) (?_)
  have g1:∀ o,Gr H (H.set b o):=fun o=>.new hb
  refine ih (fun w hw=>hv w (.tail _ hw)) (hf' _) hN (fun v hv'=>?_) (S.gr (g1 _)) (by simp;exact Nat.le_trans (Nat.le_of_eq (Nat.add_right_comm _ _ _)) hl) fun ys H' g hR' hl'=>q ys H' ((g1 _).trans g) hR' (by simp at hl' ⊢;exact ar383 hl')
  rcases List.mem_append.mp hv' with h|h
  ·exact (hR.gs (g1 _).gs) v h
  ·rcases List.mem_singleton.mp h with rfl
   exact I24 b ([w]) rfl (by rw [aC];simp [aJ]) ((Rw.one p1 p2 p3 p4).mono (Nat.le_refl _) (Nat.le_refl _) hN) (S.ne hb)
theorem tZ {P:List PV→MH→Prop}{μ:LE}{cc:LE→MH→(Bool→MH→Prop)→Prop}{ee:LE→MH→QV→Prop}(hx:2≤x) (hcc:∀ m H Q,cc m H Q=Q true H) (hee:∀ m H Q,m 0=μ 0→m 1=μ 1→Src H s→lT H s c A N Q→ee m H Q):∀ (its:List PV) {acc:List PV}{H:MH},bV H s c A N acc→Src H s→acc.length+its.length≤1000 →
  (∀ ys H',Src H' s→Gs s H H'→bV H' s c A N ys→ys.length=acc.length+its.length→P ys H')→fB x cc ee (fun J=>True) μ its H acc P:=by
 intro x0
 induction x0 with
 | nil=>
  intro acc H hR S J q
  exact q acc H S .refl hR (rfl)
 | cons v its ih=>
  intro acc H hR S hl q
  simp only [lN,lO,hcc]
  simp only [List.length_cons] at hl
  refine hee _ _ _ (by simp only [aJ];rw [if_neg (ar384 hx)]) (by simp only [aJ];rw [if_neg (Nat.ne_of_lt hx)]) S fun ws f H1 rw1 rc1 rf1 rn1 rS1 rg1=>I03 trivial (Nat.lt_of_le_of_lt (Nat.le_add_right _ _) (Nat.lt_of_le_of_lt hl (Nat.le_of_ble_eq_true rfl))) (?_)
  refine ih (fun v hv'=>?_) rS1 (by simp;exact Nat.le_trans (Nat.le_of_eq (Nat.add_right_comm _ _ _)) hl) fun ys H' S' g hR' hl'=>q ys H' S' (rg1.trans g) hR' (by simp at hl' ⊢;exact ar383 hl')
  rcases List.mem_append.mp hv' with h|h
  ·exact (hR.gs rg1) v h
  ·clear hv' rg1 rS1 rc1 hl q hR acc
   rcases List.mem_singleton.mp h with rfl
   exact I24 f ws rfl rf1 rw1 (S.ne rn1)
noncomputable def regX:List (List Wd):=[[],[],[[39,97]],[[39,97],[39,115,116,97,116,105,99]]]
theorem Cl:fM=[.asg 2 (.comp (.list [.var 3]) 3 [] (chE regX) []),
  .asg 2 (.bin .add (.var 2) (.comp (.call 36 [.var 0,.var 1]) 4 [0,1] (.bi .range [.call 31 [.var 0,.int 3]]) [])),
  .ret (.call 35 [.var 0,.var 2,.str [60],.str [62],.bool false])]:=rfl
theorem regX_ok:∀ ws∈regX,ws.length≤2∧∀ w∈ws,w∈bO∧opn w=false∧Mine.Internal.cls w=false∧w≠[38]:=by decide +kernel
noncomputable def tF (C:Cx) (s d:Nat):Prop:=∀ {H:MH}{Q:QV}{E:MH→Prop},Src H s→lT H s d d (NT d) Q→aB C (3*d+6) 36 [.lst s,.int d] H Q E
theorem NT_pos:∀ d,1≤NT d:=by
 intro x0
 induction x0 with
 | zero=>exact Nat.le_of_ble_eq_true rfl
 | succ d ih=>simp only [NT];exact ar386
theorem sW (h1:bV H s c A N xs) (h2:bV H s c A N ys):bV H s c A N (xs++ys):=fun v hv=>(List.mem_append.mp hv).elim (h1 v) (h2 v)
theorem jD:bV H s c A N []:=fun v hv=>nomatch hv
theorem ang_g (R:RG C) (Z:tF C s d) (hN:NT d≤5000):AngG C s d:=by
 intro H Q E S q
 apply R.angles rfl
 refine Eq.symm (Cl)▸?_
 walk_at "mu"
 refine ch_g (n:=3*d+4) R.take R.one S (by decide) (Nat.le_of_ble_eq_true rfl) rfl fun ws f H1 hws hf hn S1 g1=>?_
 refine wZ hf ?_
 refine X02 (regX_ok ws hws) fun r1 r2=>?_
 have np:=NT_pos d
 refine nT (s:=s) (c:=d) (A:=d+1) (N:=NT d) (fun J J J=>rfl) (fun m H Q=>rfl) ws r2 hf np jD S1 (by simp;exact ar387 r1) fun ys H2 g2 hR2 hl2=>?_
 intro t1 ht1
 have S2:=S1.gr g2
 have gg2:=g1.gr g2
 have n1:=gg2.none S ht1 S2
 have t1s:=S.ne n1
 have gg3:=gg2.put (o:=.list ys) (.inr n1)
 have S3:=S2.put (o:=.list ys) t1s
 have hR3:bV (H2.set t1 (.list ys)) s d (d+1) (NT d) ys:=hR2.gs (Gs.refl.put (.inr ht1))
 walk_at "mu"
 refine eH (top:=3) (n:=3*d+5) R.take S3 (by decide) (by decide) fun v H4 hv S4 g4=>?_
 refine I03 (lB) (uD hv) (?_)
 refine I03 (lB) (uD hv) (?_)
 have hR4:=hR3.gs g4
 have gg4:=gg3.trans g4
 have ht4:=g4.keep t1s (aC (H:=H2) (b:=t1) (o:=.list ys))
 refine tZ (s:=s) (c:=d) (A:=d+1) (N:=NT d) (Nat.le_of_ble_eq_true rfl) (fun J J J=>rfl) (fun m H Q e0 e1 S q=>?_) _ jD S4 (by simp;exact ar389 hv) fun zs H5 S5 g5 hR5 hl5=>?_
 ·walk_at "mu"
  try simp only [e0,e1]
  refine Z S fun ws f H' a b c d e=>q ws f H' (a.mono (Nat.le_refl _) (El) (Nat.le_refl _)) (b.mono (El)) c d e
 intro t2 ht2
 have gg5:=gg4.trans g5
 have n2:=gg5.none S ht2 S5
 have t2s:=S.ne n2
 have gg6:=gg5.put (o:=.list zs) (.inr n2)
 have S6:=S5.put (o:=.list zs) t2s
 have ht5:=g5.keep t1s ht4
 have h12:t1≠t2:=by rintro rfl;rw [ht5] at ht2;cases ht2
 simp only [List.length_nil,Nat.zero_add,List.length_map,List.length_range] at hl2 hl5
 have hl5:zs.length≤2:=by rw [hl5];exact ar517 hv
 refine sR ((aL h12).trans ht5) aC (ar390 r1 hl2 hl5) fun t3 ht3=>?_
 have n3:=gg6.none S ht3 S6
 have t3s:=S.ne n3
 have gg7:=gg6.put (o:=.list (ys++zs)) (.inr n3)
 have S7:=S6.put (o:=.list (ys++zs)) t3s
 have hRz:bV ((H5.set t2 (.list zs)).set t3 (.list (ys++zs))) s d (d+1) (NT d) (ys++zs):=by
  refine sW ?_ ?_
  ·refine ((hR4.gs g5).gs (Gs.refl.put (o:=.list zs) (.inr ht2))).gs (Gs.refl.put (.inr ht3))
  ·exact (hR5.gs (Gs.refl.put (o:=.list zs) (.inr ht2))).gs (Gs.refl.put (.inr ht3))
 have hfs:(ys++zs).length≤4:=by simp;exact ar391 r1 hl2 hl5
 refine aB.mono (d:=3*d+6) (Nat.le_refl _) (rO (n:=3*d+4) R.take R.listed S7 aC t3s (Nat.le_trans hfs (Nat.le_add_left _ _)) hRz hN (by decide) (by decide) (rfl) (rfl) (rfl) (rfl) (rfl) fun ws f H' a b c d' e f'=>?_)
 have hmul:(ys++zs).length*(NT d+1)≤4*(NT d+1):=Nat.mul_le_mul_right _ hfs
 exact q ws f H' (a.mono (Nat.le_refl _) (Nat.le_refl _) (Nat.add_le_add_right hmul _)) (b.mono (Nat.zero_le _)) c (gg7.none S d' S7) e (gg7.trans f')
end
section
variable {C:Cx}{H H₀:MH}{Q:QV}{E:MH→Prop}{n i k s d c A N M t f g x:Nat}{L ws:List Wd}{w b e:Wd}{F:FSt}{gv:Nat→PV}{xs ys fs:List PV}
noncomputable def subE:ME:=.call 36 [.var 0,.bin .sub (.var 1) (.int 1)]
noncomputable def refE:ME:=.bin .add (.bin .add (.bin .add (.list [.str [38]]) (chE [[],[],[[39,97]]])) (chE [[],[[109,117,116]]])) subE
noncomputable def tupE:ME:=.call 35 [.var 0,.comp subE 3 [0,1] (.bi .range [.call 31 [.var 0,.int 3]]) [],.str [40],.str [41],.bool true]
noncomputable def arrE:ME:=.bin .add (.bin .add (.list [.str [91]]) subE) (.list [.str [59],.str [51],.str [93]])
theorem qM:gV=[.asg 2 (.ite (.cmp .gt (.var 1) (.int 0)) (.call 31 [.var 0,.int 8]) (.call 32 [.var 0,.list [.int 0,.int 0,.int 6,.int 7]])),
  .ifs (.cmp .lt (.var 2) (.int 3)) [.ret (.call 33 [.var 0,.var 1,.bool false])] [],
  .ifs (.cmp .eq (.var 2) (.int 3)) [.ret refE] [],
  .ifs (.cmp .eq (.var 2) (.int 4)) [.ret tupE] [],
  .ifs (.cmp .eq (.var 2) (.int 5)) [.ret arrE] [],
  .ret (.ite (.cmp .eq (.var 2) (.int 6)) (.list [.str [33]]) (.list [.str [95]]))]:=rfl
theorem sub_g {m:LE}(Z:tF C s d) (S:Src H s) (h0:m 0=.lst s) (h1:m 1=.int (d+1:Nat)) (q:lT H s d d (NT d) Q):mE (aB C (3*d+8)) gv E subE m H Q:=by
 simp only [subE]
 walk_at "mu"
 repeat (simp only [h0,h1,nuO,nuL,nuI,nuS,nuT,nuB,nuN,nuF,aF,aG];walk_at "mu")
 refine Eq.symm (show (((d+1:Nat):Int) - 1)=((d:Nat):Int) by simp)▸?_
 exact aB.mono (d:=3*d+6) (by simp) (Z S q)
theorem oA {xs ys:List Wd}(hf:H f=some (.list (xs.map .str))) (hg:H g=some (.list (ys.map .str))) (hl:xs.length+ys.length≤1000000) (q:∀ b,H b=none→Q (.lst b) (H.set b (.list ((xs++ys).map .str)))):dY .add (.lst f) (.lst g) H Q:=
 sR hf hg (by simp;exact ar484 hl) fun b hb=>by rw [←List.map_append];exact q b hb
theorem ref_g {m:LE}(R:RG C) (Z:tF C s d) (hN:NT d≤100000) (S:Src H s) (h0:m 0=.lst s) (h1:m 1=.int (d+1:Nat)) (q:lT H s (d+1) (d+1) (NT (d+1)) Q):mE (aB C (3*d+8)) gv E refE m H Q:=by
 generalize hX:chE [[],[],[[39,97]]]=X
 generalize hY:chE [[],[[109,117,116]]]=Y
 generalize hZ:subE=sE
 intro f1 hf1
 have f1s:=S.ne hf1
 have g1:Gs s H (H.set f1 (.list [.str [38]])):=Gs.refl.put (.inr hf1)
 have S1:Src (H.set f1 (.list [.str [38]])) s:=S.put f1s
 have c1:(H.set f1 (.list [.str [38]])) f1=some (.list (([[38]]:List Wd).map .str)):=aC
 generalize H.set f1 (.list [.str [38]])=H1 at *
 subst hX
 refine ch_g (n:=3*d+6) R.take R.one S1 (by decide) (Nat.le_of_ble_eq_true rfl) h0 fun w1 f2 H2 hw1 e2 n2 S2 g2=>?_
 refine oA (g2.keep f1s c1) e2 (by
  have:∀ w∈([[],[],[[39,97]]]:List (List Wd)),w.length≤1:=by decide
  have:=this w1 hw1;simp;exact ar395 this) fun f3 hf3=>?_
 have gg2:=g1.trans g2
 have n3:=gg2.none S hf3 S2
 have f3s:=S.ne n3
 have gg3:=gg2.put (o:=.list (([[38]]++w1).map .str)) (.inr n3)
 have S3:=S2.put (o:=.list (([[38]]++w1).map .str)) f3s
 have c3:(H2.set f3 (.list (([[38]]++w1).map .str))) f3=some (.list (([[38]]++w1).map .str)):=aC
 generalize H2.set f3 (.list (([[38]]++w1).map .str))=H3 at *
 clear n3 gg2 hf3 g2 S2 n2 e2 H2
 subst hY
 refine ch_g (n:=3*d+6) R.take R.one S3 (by decide) (Nat.le_of_ble_eq_true rfl) h0 fun w2 f4 H4 hw2 e4 n4 S4 g4=>?_
 have l1:w1.length≤1:=by
  have:∀ w∈([[],[],[[39,97]]]:List (List Wd)),w.length≤1:=by decide
  exact this w1 hw1
 have l2:w2.length≤1:=by
  have:∀ w∈([[],[[109,117,116]]]:List (List Wd)),w.length≤1:=by decide
  exact this w2 hw2
 refine oA (g4.keep f3s c3) e4 (ar396 l1 l2) fun f5 hf5=>?_
 have gg4:=gg3.trans g4
 have n5:=gg4.none S hf5 S4
 have f5s:=S.ne n5
 have gg5:=gg4.put (o:=.list (([[38]]++w1++w2).map .str)) (.inr n5)
 have S5:=S4.put (o:=.list (([[38]]++w1++w2).map .str)) f5s
 have c5:(H4.set f5 (.list (([[38]]++w1++w2).map .str))) f5=some (.list (([[38]]++w1++w2).map .str)):=aC
 generalize H4.set f5 (.list (([[38]]++w1++w2).map .str))=H5 at *
 clear n5 gg4 hf5 g4 S4 n4 e4 H4
 subst hZ
 refine sub_g Z S5 h0 h1 fun ws f6 H6 rw6 rc6 e6 n6 S6 g6=>?_
 have hl:=rw6.len
 refine oA (g6.keep f5s c5) e6 (by simp;exact ar397 hN l1 l2 hl) fun f7 hf7=>?_
 have gg6:=gg5.trans g6
 have n7:=gg6.none S hf7 S6
 have a2:Rw d d (NT d+1) (w2++ws)∧Cls d (w2++ws):=by
  have:∀ w∈([[],[[109,117,116]]]:List (List Wd)),w=[]∨w=[[109,117,116]]:=by decide
  rcases this w2 hw2 with rfl|rfl
  ·exact ⟨rw6.mono (Nat.le_refl _) (Nat.le_refl _) (Nat.le_add_right _ _),rc6⟩
  ·exact ⟨rw6.cons (by decide) (rfl) (rfl) (by decide),Cls.ld (rfl) rc6⟩
 have a1:Rw d d (NT d+2) (w1++(w2++ws))∧Cls d (w1++(w2++ws)):=by
  have:∀ w∈([[],[],[[39,97]]]:List (List Wd)),w=[]∨w=[[39,97]]:=by decide
  refine Or.elim (this w1 hw1) ?_ ?_
  ·intro rfl
   exact ⟨a2.1.mono (Nat.le_refl _) (Nat.le_refl _) (Nat.le_succ _),a2.2⟩
  ·intro rfl
   exact ⟨a2.1.cons (by decide) (rfl) (rfl) (by decide),Cls.ld (rfl) a2.2⟩
 refine X02 (a1.1.amp a1.2) fun b1 b2=>?_
 refine q ([38]::(w1++(w2++ws))) f7 _ (b1.mono (Nat.le_add_right _ _) (Nat.le_refl _) (by simp only [NT];simp +arith)) b2 (by rw [aC];simp) n7 (S6.put (S.ne n7)) (gg6.put (.inr n7))
theorem tup_g {m:LE}(R:RG C) (Z:tF C s d) (hN:NT d≤5000) (S:Src H s) (h0:m 0=.lst s) (h1:m 1=.int (d+1:Nat)) (q:lT H s (d+1) (d+1) (NT (d+1)) Q):mE (aB C (3*d+8)) gv E tupE m H Q:=by
 generalize hZ:subE=sE
 simp only [tupE,hZ]
 walk_at "mu"
 simp only [h0]
 refine eH (top:=3) (n:=3*d+7) R.take S (by decide) (by decide) fun v H1 hv S1 g1=>?_
 rw [wM]
 refine ⟨lB,uD hv,?_⟩
 refine ⟨lB,uD hv,?_⟩
 refine tZ (s:=s) (c:=d) (A:=d) (N:=NT d) (Nat.le_of_ble_eq_true rfl) (fun J J J=>rfl) (fun m' H Q e0 e1 S q=>?_) _ jD S1 (by simp;exact ar389 hv) fun zs H2 S2 g2 hR2 hl2=>?_
 ·subst hZ
  exact sub_g Z S (e0.trans h0) (e1.trans h1) q
 intro t1 ht1
 have gg2:=g1.trans g2
 have n1:=gg2.none S ht1 S2
 have t1s:=S.ne n1
 have gg3:=gg2.put (o:=.list zs) (.inr n1)
 have S3:=S2.put (o:=.list zs) t1s
 simp only [List.length_nil,Nat.zero_add,List.length_map,List.length_range] at hl2
 have hl2:zs.length≤2:=by exact ar518 hv hl2
 have hR3:bV (H2.set t1 (.list zs)) s d d (NT d) zs:=hR2.gs (Gs.refl.put (.inr ht1))
 refine aB.mono (d:=3*d+6) (by simp) (rO (n:=3*d+4) R.take R.listed S3 aC t1s (ar387 hl2) hR3 hN (by decide) (by decide) (rfl) (rfl) (rfl) (rfl) (rfl) fun ws f H' a b c d' e f'=>?_)
 have hmul:zs.length*(NT d+1)≤2*(NT d+1):=Nat.mul_le_mul_right _ hl2
 exact q ws f H' (a.mono (Nat.le_refl _) (Nat.le_add_right _ _) (by simp only [NT];exact ar398 hmul)) (b.mono (Nat.zero_le _)) c (gg3.none S d' S3) e (gg3.trans f')
theorem arr_g {m:LE}(R:RG C) (Z:tF C s d) (hN:NT d≤100000) (S:Src H s) (h0:m 0=.lst s) (h1:m 1=.int (d+1:Nat)) (q:lT H s (d+1) (d+1) (NT (d+1)) Q):mE (aB C (3*d+8)) gv E arrE m H Q:=by
 generalize hZ:subE=sE
 intro f1 hf1
 have f1s:=S.ne hf1
 have g1:Gs s H (H.set f1 (.list [.str [91]])):=Gs.refl.put (.inr hf1)
 have S1:Src (H.set f1 (.list [.str [91]])) s:=S.put f1s
 have c1:(H.set f1 (.list [.str [91]])) f1=some (.list (([[91]]:List Wd).map .str)):=aC
 generalize H.set f1 (.list [.str [91]])=H1 at *
 subst hZ
 refine sub_g Z S1 h0 h1 fun ws f2 H2 rw2 rc2 e2 n2 S2 g2=>?_
 have hl:=rw2.len
 refine oA (g2.keep f1s c1) e2 (ar399 hN hl) fun f3 hf3=>?_
 have gg2:=g1.trans g2
 have n3:=gg2.none S hf3 S2
 have f3s:=S.ne n3
 have gg3:=gg2.put (o:=.list (([[91]]++ws).map .str)) (.inr n3)
 have S3:=S2.put (o:=.list (([[91]]++ws).map .str)) f3s
 intro f4 hf4
 have n4:=gg3.none S hf4 S3
 have h34:f3≠f4:=by rintro rfl;rw [aC] at hf4;cases hf4
 have gg4:=gg3.put (o:=.list (([[59],[51],[93]]:List Wd).map .str)) (.inr n4)
 have S4:=S3.put (o:=.list (([[59],[51],[93]]:List Wd).map .str)) (S.ne n4)
 refine oA (xs:=[[91]]++ws) (ys:=[[59],[51],[93]]) ((aL h34).trans aC) aC (by simp;exact ar400 hN hl) fun f5 hf5=>?_
 have n5:=gg4.none S hf5 S4
 have a1:=(rw2.append (Rw.one (w:=[59]) (by decide) (rfl) (rfl) (by decide))).append (Rw.one (w:=[51]) (by decide) (rfl) (rfl) (by decide))
 have b1:=a1.brk (b:=[91]) (e:=[93]) (by decide) (by decide) (rfl) (rfl) (rfl) rfl (rfl)
 refine q ([91]::((ws++[[59]]++[[51]])++[[93]])) f5 _ (b1.mono (Nat.le_refl _) (Nat.le_add_right _ _) (by simp only [NT];simp +arith)) (Cls.stop rfl) (by rw [aC];simp) n5 (S4.put (S.ne n5)) (gg4.put (.inr n5))
end
section
variable {C:Cx}{H H₀:MH}{Q:QV}{E:MH→Prop}{n i k s d c A N M t f g x:Nat}{L ws:List Wd}{w b e:Wd}{F:FSt}{gv:Nat→PV}{xs ys fs:List PV}
theorem wH (S:Src H s) {w:Wd}(hv:w∈bO) (ho:opn w=false) (hc:Mine.Internal.cls w=false) (ha:kD w=true) (ha2:w≠[38]) (q:lT H s d d (NT d) Q):gF [.str w] H Q:=by
 intro f hf
 exact q [w] f _ ((Rw.one hv ho hc ha2).mono (Nat.le_refl _) (Nat.le_refl _) (NT_pos d)) (Cls.stop ha) aC hf (S.put (S.ne hf)) (Gs.refl.put (.inr hf))
theorem typ_g (R:RG C) (G:dM C):∀ d:Nat,NT d≤100000→(∀ d',d=d'+1→NT d'≤5000)→tF C s d:=by
 intro d
 induction d with
 | zero=>
  intro hN J H Q E S q
  apply R.type rfl
  rw [qM]
  intro t ht
  have ts:=S.ne ht
  have g1:=(Gs.refl (s:=s) (H:=H)).put (o:=.list [.int 0,.int 0,.int 6,.int 7]) (.inr ht)
  refine Dh (n:=3) R.take R.one (S.put ts) aC ts (by decide) (Nat.le_of_ble_eq_true rfl) fun v H1 hv S1 g2=>?_
  have gg:=g1.trans g2
  have q':lT H1 s 0 0 (NT 0) Q:=fun ws f H' a b c d e f'=>q ws f H' a b c (gg.none S d S1) e (gg.trans f')
  have low:aB C 5 33 [.lst s,.int (0:Nat),.bool false] H1 Q E:=vC R G (fun d' h=>by exact (ar401 h).elim) hN S1 q'
  have hv:v=.int 0∨v=.int 6∨v=.int 7:=by
   simp at hv;rcases hv with h|h|h<;>simp [h]
  rcases hv with rfl|rfl|rfl
  ·exact low
  ·exact wH S1 (by decide) (by decide) (by decide) (by decide) (by decide) q'
  ·exact wH S1 (by decide) (by decide) (by decide) (by decide) (by decide) q'
 | succ d ih=>
  intro hN hN2 H Q E S q
  have hd:=hN2 d rfl
  have Z:tF C s d:=ih (by exact ar402 hd) (fun d' h=>by subst h;simp only [NT] at hd;exact ar403 hd)
  apply R.type rfl
  rw [qM]
  generalize hX:refE=X
  generalize hY:tupE=Y
  generalize hZ:arrE=W
  walk_at "mu"
  rw [decide_eq_true (by exact ar365)]
  refine eH (n:=3*d+7) R.take S (by decide) (by decide) fun v H1 hv S1 gg=>?_
  have q':lT H1 s (d+1) (d+1) (NT (d+1)) Q:=fun ws f H' a b c d e f'=>q ws f H' a b c (gg.none S d S1) e (gg.trans f')
  walk_at "mu"
  by_cases h3:(v:Int)<3
  ·rw [decide_eq_true h3]
   exact vC (d:=d+1) R G (fun d' h=>by cases h;exact ang_g R Z hd) hN S1 q'
  rw [decide_eq_false h3]
  by_cases h4:(v:Int)=3
  ·walk_at "mu"
   rw [decide_eq_true h4]
   subst hX
   exact ref_g (d:=d) R Z (by exact ar402 hd) S1 (by simp [aJ,cE]) (by simp [aJ,cE]) q'
  walk_at "mu"
  rw [decide_eq_false h4]
  by_cases h5:(v:Int)=4
  ·walk_at "mu"
   rw [decide_eq_true h5]
   subst hY
   walk_at "mu"
   exact tup_g (d:=d) R Z hd S1 (by simp [aJ,cE]) (by simp [aJ,cE]) q'
  walk_at "mu"
  rw [decide_eq_false h5]
  by_cases h6:(v:Int)=5
  ·walk_at "mu"
   rw [decide_eq_true h6]
   subst hZ
   exact arr_g (d:=d) R Z (by exact ar402 hd) S1 (by simp [aJ,cE]) (by simp [aJ,cE]) q'
  walk_at "mu"
  rw [decide_eq_false h6]
  by_cases h7:(v:Int)=6
  ·walk_at "mu"
   rw [decide_eq_true h7]
   exact wH S1 (by decide) (by decide) (by decide) (by decide) (by decide) q'
  ·walk_at "mu"
   rw [decide_eq_false h7]
   exact wH S1 (by decide) (by decide) (by decide) (by decide) (by decide) q'
end
section
variable {C:Cx}{H H₀:MH}{Q:QV}{E:MH→Prop}{n i k s d c A N M t f g x a:Nat}{L ws:List Wd}{w b e:Wd}{F:FSt}{gv:Nat→PV}{xs ys fs:List PV}
structure Rb (c A N:Nat) (ws:List Wd):Prop where
 voc:∀ w∈ws,w∈bO
 mx:mx ws≤c
 suf:wP A ws
 len:ws.length≤N
theorem Rw.rb {c' A' N':Nat}(h:Rw c A N ws) (h1:c≤c') (h2:A≤A') (h3:N≤N'):Rb c' A' N' ws:=⟨h.voc,Nat.le_trans h.mx h1,fun s hs=>Nat.le_trans (h.suf s hs) h2,Nat.le_trans h.len h3⟩
noncomputable def RbQ (H:MH) (s c A N:Nat) (Q:QV):Prop:=∀ ws f H',Rb c A N ws→H' f=some (.list (ws.map .str))→H f=none→Src H' s→Gs s H H'→Q (.lst f) H'
noncomputable def giB:List MS:=[.asg 3 (.bin .add (.bin .add (.var 3) (.list [.ite (.cmp .eq (.var 4) (.int 0)) (.str [58]) (.str [43])])) (.call 33 [.var 0,.int 1,.bool false]))]
noncomputable def goB:List MS:=[.asg 3 (.list [.var 2]),.fors [4] false (.bi .range [.call 31 [.var 0,.int 3]]) giB,.expr (.meth .append (.var 1) [.var 3])]
noncomputable def regY:List (List Wd):=[[],[[39,97]],[[39,97],[39,98]]]
theorem Bz:dR=[.ifs (.cmp .eq (.call 31 [.var 0,.int 6]) (.int 0)) [.ret (chE [[],[[65]],[[40]]])] [],
  .asg 1 (.comp (.list [.var 5]) 5 [] (chE regY) []),
  .fors [2] false (.slc (.list [.str [84],.str [85]]) .none (.call 31 [.var 0,.int 3])) goB,
  .ret (.call 35 [.var 0,.var 1,.str [60],.str [62],.bool false])]:=rfl
theorem gi_loop (hP:∀ {H:MH}{Q:QV}{E:MH→Prop},Src H s→lT H s 1 1 135 Q→aB C 8 33 [.lst s,.int 1,.bool false] H Q E) {wb:LE→MH→QS→Prop}(hwb:∀ m H Q,wb m H Q=mSs (aB C 12) C.gv nope giB m H Q) (S0:Src H₀ s) {Q:QS}:∀ (its:List PV) {m:LE}{H:MH}{ws:List Wd}{f M:Nat},
  (∀ v∈its,∃ j:Nat,v=.int j)→m 0=.lst s→m 3=.lst f→H f=some (.list (ws.map .str))→H₀ f=none→Rw 1 1 M ws→M+its.length*136≤100000→Src H s→Gs s H₀ H →
  (∀ m' H' ws' f',m' 0=m 0→m' 1=m 1→m' 3=.lst f'→H' f'=some (.list (ws'.map .str))→H₀ f'=none→Rw 1 1 (M+its.length*136) ws'→Src H' s→Gs s H₀ H'→Q .next m' H')→cQ (bC [4] false) wb (fun J=>True) its m H Q:=by
 intro x0
 induction x0 with
 | nil=>intro m H ws f M hi h0 h3 hf hn hw hM S g q;exact q m H ws f rfl rfl h3 hf hn hw S g
 | cons v its ih=>
  intro m H ws f M hi h0 h3 hf hn hw hM S g q
  obtain ⟨j,rfl⟩:=hi v (.head _)
  rw [List.length_cons,Nat.add_mul] at hM
  have hl:=hw.len
  rw [dE]
  dsimp only [dC,dB,dP]
  rw [hwb]
  simp only [giB]
  walk_at "mu"
  repeat (simp only [h0,h3,nuO,nuL,nuI,nuS,nuT,nuB,nuN,nuF,aF,aG];walk_at "mu")
  have step:∀ {w:Wd},w∈bO→opn w=false→Mine.Internal.cls w=false→w≠[38]→gF [.str w] H fun y H₂=>dY .add (.lst f) y H₂ fun x H₁=>aB C 12 33 [.lst s,.int 1,.bool false] H₁ (fun y H₂=>dY .add x y H₂ fun v_1 H'=>cQ (bC [4] false) wb (fun J=>True) its ((m.set 4 (.int j)).set 3 v_1) H' Q) nope:=by
   intro w p1 p2 p3 p4 f1 hf1
   have n1:=g.none S0 hf1 S
   have hff1:f≠f1:=by rintro rfl;rw [hf] at hf1;cases hf1
   have g1:=g.put (o:=.list [.str w]) (.inr n1)
   have S1:=S.put (o:=.list [.str w]) (S0.ne n1)
   refine oA (xs:=ws) (ys:=[w]) ((aL hff1).trans hf) aC (by simp;exact ar404 hM hl) fun f2 hf2=>?_
   have n2:=g1.none S0 hf2 S1
   have f2s:=S0.ne n2
   have g2:=g1.put (o:=.list ((ws++[w]).map .str)) (.inr n2)
   have S2:=S1.put (o:=.list ((ws++[w]).map .str)) f2s
   refine aB.mono (d:=8) (ar405) (hP S2 fun row f3 H3 rw3 rc3 e3 n3 S3 g3=>?_)
   have hrl:=rw3.len
   refine oA (g3.keep f2s aC) e3 (by simp;exact ar406 hM hl hrl) fun f4 hf4=>?_
   have gg3:=g2.trans g3
   have n4:=gg3.none S0 hf4 S3
   have w4:=(hw.append (Rw.one (w:=w) p1 p2 p3 p4)).append rw3
   refine ih (M:=M+1+135) (fun v hv=>hi v (.tail _ hv)) h0 rfl aC n4 w4 (ar407 hM) (S3.put (S0.ne n4)) (gg3.put (.inr n4)) fun m' H' ws' f' a0 a1 a3 a4 a5 a6 a7 a8=>?_
   exact q m' H' ws' f' (a0.trans rfl) (a1.trans rfl) a3 a4 a5 (a6.mono (Nat.le_refl _) (Nat.le_refl _) (by rw [List.length_cons,Nat.add_mul];exact ar408)) a7 a8
  by_cases hj:(j:Int)=0
  ·refine Eq.symm (decide_eq_true hj)▸?_
   exact step (by decide) (rfl) (rfl) (by decide)
  ·refine Eq.symm (decide_eq_false hj)▸?_
   exact step (by decide) (rfl) (rfl) (by decide)
theorem go_loop (R:RG C) (hP:∀ {H:MH}{Q:QV}{E:MH→Prop},Src H s→lT H s 1 1 135 Q→aB C 8 33 [.lst s,.int 1,.bool false] H Q E) {wb:LE→MH→QS→Prop}(hwb:∀ m H Q,wb m H Q=mSs (aB C 12) C.gv nope goB m H Q) (S0:Src H₀ s) {r:Nat}(hr0:H₀ r=none) (has:a≠s) (har:a≠r) {L:List PV}{Q:QS}:∀ (its:List PV) {m:LE}{H:MH}{rows:List PV},
  (∀ v∈its,v=.str [84]∨v=.str [85])→m 0=.lst s→m 1=.lst r→H r=some (.list rows)→H a=some (.list L)→bV H s 1 1 300 rows→(∀ v∈rows,v≠.lst r)→rows.length+its.length≤100→Src H s→Gs s H₀ H →
  (∀ m' H' rows',m' 0=m 0→m' 1=.lst r→H' r=some (.list rows')→bV H' s 1 1 300 rows'→rows'.length=rows.length+its.length→Src H' s→Gs s H₀ H'→Q .next m' H')→cQ (bC [2] false) wb (fun H'=>H' a=some (.list L)) its m H Q:=by
 intro x0
 induction x0 with
 | nil=>intro m H rows hi h0 h1 hr ha hR hnr hl S g q;exact q m H rows rfl h1 hr hR (rfl) S g
 | cons v its ih=>
  intro m H rows hi h0 h1 hr ha hR hnr hl S g q
  simp only [List.length_cons] at hl
  rw [dE]
  dsimp only [dC,dB,dP]
  rw [hwb]
  generalize hG:giB=G
  obtain ⟨w,rfl,p1,p2,p3,p4⟩:∃ w:Wd,v=.str w∧w∈bO∧opn w=false∧Mine.Internal.cls w=false∧w≠[38]:=by
   refine Or.elim (hi v (.head _)) ?_ ?_
   ·intro rfl
    exact I15 _ rfl (by decide) (rfl) (rfl) (by decide)
   ·intro rfl
    exact I15 _ rfl (by decide) (rfl) (rfl) (by decide)
  intro f1 hf1
  have n1:=g.none S0 hf1 S
  have f1s:=S0.ne n1
  have g1:Gs s H (H.set f1 (.list [.str w])):=Gs.refl.put (.inr hf1)
  have S1:=S.put (o:=.list [.str w]) f1s
  walk_at "mu"
  repeat (simp only [h0,h1,hr,nuO,nuL,nuI,nuS,nuT,nuB,nuN,nuF,aF,aG];walk_at "mu")
  refine eH (top:=3) (n:=11) R.take S1 (by decide) (by decide) fun z H2 hz S2 g2=>?_
  rw [wM]
  refine ⟨lB,uD hz,?_⟩
  refine ⟨lB,uD hz,?_⟩
  subst hG
  have gg2:=g1.trans g2
  have hlen:((List.range ((z:Nat):Int).toNat).map fun (i:Nat)=>PV.int (i:Int)).length=z:=by simp
  have hz:z≤2:=by exact ar377 hz
  refine gi_loop (H₀:=H) (M:=1) (ws:=[w]) hP (fun J J J=>rfl) S _ (fun v hv=>by
   obtain ⟨j,_,rfl⟩:=List.mem_map.mp hv;exact ⟨j,rfl⟩) h0 rfl (g2.keep f1s aC) hf1 (Rw.one p1 p2 p3 p4) (by rw [hlen];exact ar409 hz) S2 gg2 fun m' H' ws' f' a0 a1 a3 a4 a5 a6 a7 a8=>?_
  rw [hlen] at a6
  have a1:m' 1=.lst r:=a1.trans h1
  have a0:m' 0=.lst s:=a0.trans h0
  have hrs:=S0.ne hr0
  have hr':=a8.keep hrs hr
  have hf'r:f'≠r:=by rintro rfl;rw [hr] at a5;cases a5
  walk_at "mu"
  simp only [a1,a3]
  walk_at "mu"
  refine ⟨aS hr',bF hr' (ar410 hl) ?_⟩
  have g8:=g.trans a8
  have hga:=a8.keep has ha
  refine ⟨(aL har).trans hga,?_⟩
  have hRn:bV (H'.set r (.list (rows++[.lst f']))) s 1 1 300 (rows++[.lst f']):=fun v hv=>by
   rcases List.mem_append.mp hv with h|h
   ·refine X24 ((hR.gs a8) v h) fun fv wv e1 e2 e3 e4=>?_
    have:fv≠r:=fun e=>hnr v h (by rw [e1,e])
    exact I24 fv wv e1 ((aL this).trans e2) e3 e4
   ·rcases List.mem_singleton.mp h with rfl
    exact I24 f' ws' rfl ((aL hf'r).trans a4) (a6.mono (Nat.le_refl _) (Nat.le_refl _) (ar411 hz)) (S.ne a5)
  refine ih (rows:=rows++[.lst f']) (fun v hv=>hi v (.tail _ hv)) a0 a1 aC ((aL har).trans hga) hRn (fun v hv=>?_) (by simp;exact ar412 hl) (a7.put hrs) (g8.put (.inr hr0)) fun m'' H'' rows'' b0 b1 b2 b3 b4 b5 b6=>?_
  ·rcases List.mem_append.mp hv with h|h
   ·exact hnr v h
   ·rcases List.mem_singleton.mp h with rfl
    exact fun e=>hf'r (by injection e)
  ·exact q m'' H'' rows'' (b0.trans (a0.trans h0.symm)) b1 b2 b3 (by simp at b4 ⊢;exact ar383 b4) b5 b6
end
section
variable {C:Cx}{H H₀:MH}{Q:QV}{E:MH→Prop}{n i k s d c A N M t f g x a:Nat}{L ws:List Wd}{w b e:Wd}{F:FSt}{gv:Nat→PV}{xs ys fs:List PV}
theorem regY_ok:∀ ws∈regY,ws.length≤2∧∀ w∈ws,w∈bO∧opn w=false∧Mine.Internal.cls w=false∧w≠[38]:=by decide +kernel
theorem mR {K:List PV→(MH→Prop)→Prop}(hf:H f=some (.list xs)) (q:K xs fun H'=>H' f=some (.list xs)):oI (.lst f) H K:=by
 refine wZ hf ?_;exact q
theorem gens_g (R:RG C) (hP:∀ {H:MH}{Q:QV}{E:MH→Prop},Src H s→lT H s 1 1 135 Q→aB C 8 33 [.lst s,.int 1,.bool false] H Q E) (S:Src H s) (q:RbQ H s 2 1 1300 Q):aB C 13 37 [.lst s] H Q E:=by
 apply R.gens rfl
 refine Eq.symm (Bz)▸?_
 generalize hG:goB=G
 generalize hX:chE [[],[[65]],[[40]]]=X
 generalize hY:chE regY=Y
 walk_at "mu"
 refine eH (n:=11) R.take S (by decide) (by decide) fun v H1 hv S1 g1=>?_
 walk_at "mu"
 by_cases h0:(v:Int)=0
 ·rw [decide_eq_true h0]
  subst hX
  walk_at "mu"
  refine ch_g (n:=10) R.take R.one S1 (by decide) (Nat.le_of_ble_eq_true rfl) rfl fun w1 f2 H2 hw1 e2 n2 S2 g2=>?_
  have ok:∀ ws∈([[],[[65]],[[40]]]:List (List Wd)),(∀ w∈ws,w∈bO)∧mx ws≤1∧cC ws=0∧ws.length≤1:=by decide +kernel
  refine X04 (ok w1 hw1) fun k1 k2 k3 k4=>?_
  refine q w1 f2 H2 ⟨k1,(Nat.le_succ_of_le k2),fun s hs=>?_,(Nat.le_trans k4 (Nat.le_add_left _ _))⟩ e2 (g1.none S n2 S1) S2 (g1.trans g2)
  have:=nN s
  have:=hs.length_le
  exact ar415 k4 (by assumption) this
 ·rw [decide_eq_false h0]
  subst hY
  walk_at "mu"
  refine ch_g (n:=10) R.take R.one S1 (by decide) (Nat.le_of_ble_eq_true rfl) rfl fun ws f H2 hws hf n2 S2 g2=>?_
  refine mR hf ?_
  refine X02 (regY_ok ws hws) fun r1 r2=>?_
  have gg2:=g1.trans g2
  refine nT (s:=s) (c:=1) (A:=1) (N:=300) (fun J J J=>rfl) (fun J J J=>rfl) ws r2 hf (Nat.le_of_ble_eq_true rfl) jD S2 (by simp;exact ar387 r1) fun ys H3 g3 hR3 hl3=>?_
  intro t1 ht1
  have S3:=S2.gr g3
  have gg3:=gg2.gr g3
  have n3:=gg3.none S ht1 S3
  have t1s:=S.ne n3
  have gg4:=gg3.put (o:=.list ys) (.inr n3)
  have S4:=S3.put (o:=.list ys) t1s
  have hR4:bV (H3.set t1 (.list ys)) s 1 1 300 ys:=hR3.gs (Gs.refl.put (.inr ht1))
  have hnr:∀ v∈ys,v≠.lst t1:=fun v hv e=>by
   refine X23 (hR3 v hv) fun f ws e1 e2 J=>?_
   rw [e] at e1
   injection e1 with e1
   rw [←e1,ht1] at e2;cases e2
  have c4:(H3.set t1 (.list ys)) t1=some (.list ys):=aC
  generalize H3.set t1 (.list ys)=H4 at *
  intro a0 ha0
  have n4:=gg4.none S ha0 S4
  have a0s:=S.ne n4
  have gg5:=gg4.put (o:=.list [.str [84],.str [85]]) (.inr n4)
  have S5:=S4.put (o:=.list [.str [84],.str [85]]) a0s
  have h01:t1≠a0:=by rintro rfl;rw [c4] at ha0;cases ha0
  have c5:(H4.set a0 (.list [.str [84],.str [85]])) t1=some (.list ys):=(aL h01).trans c4
  have c5':(H4.set a0 (.list [.str [84],.str [85]])) a0=some (.list [.str [84],.str [85]]):=aC
  have hR5:bV (H4.set a0 (.list [.str [84],.str [85]])) s 1 1 300 ys:=hR4.gs (Gs.refl.put (.inr ha0))
  generalize H4.set a0 (.list [.str [84],.str [85]])=H5 at *
  refine eH (top:=3) (n:=11) R.take S5 (by decide) (by decide) fun z H6 hz S6 g6=>?_
  have gg6:=gg5.trans g6
  refine tJ (g6.keep a0s c5') rfl vZ (I04 (Nat.le_of_ble_eq_true rfl) (Nat.zero_le _) (ar416 hz) (?_))
  intro a1 ha1
  have n6:=gg6.none S ha1 S6
  have a1s:=S.ne n6
  have hcut:∀ v∈bM [PV.str [84],PV.str [85]] 0 z,v=.str [84]∨v=.str [85]:=fun v hv=>by
   unfold bM at hv
   have:=List.mem_of_mem_take (List.mem_of_mem_drop hv)
   simpa using this
  have hcl:(bM [PV.str [84],PV.str [85]] 0 z).length≤2:=by
   unfold bM;simp;exact Nat.min_le_right _ _
  generalize hL:bM [PV.str [84],PV.str [85]] 0 z=L at *
  have gg7:=gg6.put (o:=.list L) (.inr n6)
  have S7:=S6.put (o:=.list L) a1s
  have c6:=g6.keep t1s c5
  have h11:t1≠a1:=by rintro rfl;rw [c6] at ha1;cases ha1
  have c7:(H6.set a1 (.list L)) t1=some (.list ys):=(aL h11).trans c6
  have c7':(H6.set a1 (.list L)) a1=some (.list L):=aC
  have hR7:bV (H6.set a1 (.list L)) s 1 1 300 ys:=(hR5.gs g6).gs (Gs.refl.put (.inr ha1))
  generalize H6.set a1 (.list L)=H7 at *
  refine mR c7' ?_
  subst hG
  simp only [List.length_nil,Nat.zero_add] at hl3
  refine go_loop (a:=a1) R hP (fun J J J=>rfl) S n3 a1s (Ne.symm h11) L (hcut) rfl rfl c7 c7' hR7 hnr (ar418 r1 hcl hl3) S7 gg7 fun m' H8 rows b0 b1 b2 b3 b4 S8 g8=>?_
  walk_at "mu"
  simp only [b0,b1]
  have hfs:rows.length≤4:=by exact ar419 r1 hcl hl3 b4
  refine aB.mono (d:=12) (Nat.le_refl _) (rO (n:=10) R.take R.listed S8 b2 (S.ne n3) (Nat.le_trans hfs (Nat.le_add_left _ _)) b3 (Nat.le_of_ble_eq_true rfl) (by decide) (by decide) (rfl) (rfl) (rfl) (rfl) (rfl) fun ws f H' a b c d' e f'=>?_)
  have hmul:rows.length*(300+1)≤4*(300+1):=Nat.mul_le_mul_right _ hfs
  exact q ws f H' (a.rb (Nat.le_of_ble_eq_true rfl) (Nat.le_of_ble_eq_true rfl) (Nat.le_trans (Nat.add_le_add_right hmul 2) (Nat.le_of_ble_eq_true rfl))) c (g8.none S d' S8) e (g8.trans f')
end
section
variable {C:Cx}{H H₀:MH}{Q:QV}{E:MH→Prop}{n i k s d c A N M t f g x a p:Nat}{L ws vs us:List Wd}{w b:Wd}{F:FSt}{gv:Nat→PV}{xs ys fs:List PV}{m:LE}{e e' l u:ME}
theorem Rb.bent (h:Rb c A N ws) (g:BentR ws vs):Rb (c+5) (2*A+3) (N+3) vs:=by
 refine hC fun hG=>?_
 obtain ⟨a,x,y,b,rfl,rfl,hx,hy,hv⟩:=g<;>(refine hG ?_;clear hG)
 have hm:=h.mx
 have hs:=h.suf
 have hl:=h.len
 refine ⟨fun w hw=>?_,?_,fun s hs'=>?_,?_⟩
 ·rcases List.mem_append.mp hw with hw|hw
  ·exact h.voc w (List.mem_append_left _ hw)
  ·rcases List.mem_append.mp hw with hw|hw
   ·rcases hv w hw with h' | h'
    ·exact h'
    ·exact h.voc w h'
   ·exact h.voc w (List.mem_append_right _ (List.mem_append_right _ hw))
 ·have h1:=(vM x b).1
  have h2:=(vM y b).2
  have:=mx_lip a (b:=x++b) (b':=y++b) (k:=x.length+y.length) (ar342 h1 h2)
  exact Nat.le_trans this (Nat.add_le_add hm (Nat.add_le_add hx hy))
 ·have hb:∀ t,t <:+ b→cC t≤A:=fun t ht=>hs t (ht.trans ⟨a++y,by simp⟩)
  have hxb:∀ t,t <:+ x++b→cC t≤A+3:=fun t ht=>by
   refine Or.elim (bE ht) ?_ ?_
   ·intro ht
    have:=hb t ht;exact Nat.le_trans this (Nat.le_add_right _ _)
   ·rintro ⟨u,hu,rfl⟩
    have h1:=nM u b
    have h2:=hb b List.suffix_rfl
    have h3:=nN u
    have h4:=hu.length_le
    exact ar345 hx h1 h2 h3 h4
  clear hb hm hv hy h
  rcases bE hs' with ht|⟨u,hu,rfl⟩
  ·have:=hxb s ht;exact ar346 this
  ·have h1:=nM u (x++b)
   have h2:=hxb _ List.suffix_rfl
   have h3:=yL u (y++b)
   have h4:cC (u++(y++b))≤A:=hs _ (by
    clear hxb hs' hs c
    obtain ⟨p,rfl⟩:=hu
    exact ⟨p,by simp⟩)
   exact ar347 h1 h2 h3 h4
 ·simp only [List.length_append] at hl ⊢
  exact ar348 hx hl
structure EvW (F:FSt) (gv:Nat→PV) (E:MH→Prop) (m:LE) (H:MH) (e:ME) (ws:List Wd):Prop where
 run:∀ {H₁:MH} {Q:QV},Gr H H₁→(∀ f H',H₁ f=none→H' f=some (.list (ws.map .str))→Gr H₁ H'→Q (.lst f) H')→mE F gv E e m H₁ Q
theorem EvW.add (h1:EvW F gv E m H e ws) (h2:EvW F gv E m H e' vs) (hl:ws.length+vs.length≤1000000):EvW F gv E m H (.bin .add e e') (ws++vs):=by
 refine ⟨?_⟩
 intro H₁ Q g q
 refine h1.run g fun f1 H2 n1 c1 g1=>h2.run (g.trans g1) fun f2 H3 n2 c2 g2=>?_
 refine oA ((g2 f1 (by rw [c1];exact fun x=>nomatch x)).trans c1) c2 hl fun f3 hf3=>?_
 have g3:=g1.trans g2
 exact q f3 _ (aX g3 hf3) aC (g3.put (aX g3 hf3))
theorem EvW.var1 (v:Nat) (hm:m v=.str w):EvW F gv E m H (.list [.var v]) [w]:=by
 refine ⟨?_⟩
 intro H₁ Q g q
 walk_at "mu"
 repeat (simp only [hm,nuO,nuL,nuI,nuS,nuT,nuB,nuN,nuF,aF,aG];walk_at "mu")
 exact fun f hf=>q f _ hf aC (.new hf)
theorem EvW.slc {lv uv:PV}{x y:Nat}(hp:m 1=.lst p) (hH:H p=some (.list (ws.map .str))) (hl:∀ H Q,Q lv H→mE F gv E l m H Q) (hu:∀ H Q,Q uv H→mE F gv E u m H Q) (hx:kR lv=some x) (hy:lR ws.length uv=some y) (h1:ws.length≤1000000) (h2:x≤1000000) (h3:y≤1000000):EvW F gv E m H (.slc (.var 1) l u) ((ws.take y).drop x):=by
 refine ⟨?_⟩
 intro H₁ Q g q
 walk_at "mu"
 repeat (simp only [hp,nuO,nuL,nuI,nuS,nuT,nuB,nuN,nuF,aF,aG];walk_at "mu")
 refine hl _ _ (hu _ _ ?_)
 have hH1:=(g p (by rw [hH];exact fun x=>nomatch x)).trans hH
 refine tJ hH1 hx (by rw [List.length_map];exact hy) (I04 (by rw [List.length_map];exact ar1 h1) (ar1 h2) (ar1 h3) (?_))
 intro b hb
 refine q b _ hb ?_ (.new hb)
 rw [aC,List.map_drop,List.map_take];rfl
noncomputable def bw0:ME:=.bin .add (.slc (.var 1) .none (.var 3)) (.slc (.var 1) (.bin .add (.var 3) (.int 1)) .none)
noncomputable def bw1:ME:=.bin .add (.slc (.var 1) .none (.bin .add (.var 3) (.int 1))) (.slc (.var 1) (.var 3) .none)
noncomputable def bw2:ME:=.bin .add (.bin .add (.bin .add (.slc (.var 1) .none (.var 3)) (.slc (.var 1) (.bin .add (.var 3) (.int 1)) (.bin .add (.var 3) (.int 2)))) (.slc (.var 1) (.var 3) (.bin .add (.var 3) (.int 1)))) (.slc (.var 1) (.bin .add (.var 3) (.int 2)) .none)
noncomputable def bw3:ME:=.bin .add (.bin .add (.slc (.var 1) .none (.var 3)) (.list [.var 4])) (.slc (.var 1) (.bin .add (.var 3) (.bi .int [.cmp .eq (.var 2) (.int 3)])) .none)
noncomputable def bentX:List (List Wd):=[[],[],[[44]],[[62]],[[58,58],[65]],[[60],[65],[62]]]
noncomputable def zG:List Wd:=[[102,110],[39,97],[115,117,112,101,114],[115,101,108,102],[51],[58],[58,58],[44],[38],[109,117,116],[43],[41]]
theorem Cj:mN=[.asg 2 (.call 31 [.var 0,.int 8]),
  .ifs (.or [.cmp .gt (.var 2) (.int 4),.cmp .eq (.var 1) (.list [])]) [.ret (.bin .add (.var 1) (chE bentX))] [],
  .asg 3 (.call 31 [.var 0,.bi .len [.var 1]]),
  .ifs (.cmp .eq (.var 2) (.int 0)) [.ret bw0] [],
  .ifs (.cmp .eq (.var 2) (.int 1)) [.ret bw1] [],
  .ifs (.cmp .eq (.var 2) (.int 2)) [.ret bw2] [],
  .asg 4 (.call 32 [.var 0,wE zG]),
  .ret bw3]:=rfl
theorem Cf {j:Nat}(h3:m 3=.int j) (q:Q (.int j) H):mE F gv E (.var 3) m H Q:=by
 show nu (m 3) (Q (m 3) H)
 rw [h3];exact q
theorem ev_add {j z:Nat}(h3:m 3=.int j) (q:Q (.int (j+z:Nat)) H):mE F gv E (.bin .add (.var 3) (.int z)) m H Q:=by
 walk_at "mu"
 simp only [h3,o_addI,nuI];exact q
theorem jJ (q:Q .none H):mE F gv E .none m H Q:=q
theorem bL {j:Nat}:kR (.int j)=some j:=by simp [kR]
theorem bU {j n:Nat}:lR n (.int j)=some j:=by simp [lR]
section
variable {u v:List Wd}{w:Wd}
theorem Je:((u++w::v).take u.length).drop 0=u:=by simp
theorem yW:((u++w::v).take (u++w::v).length).drop (u.length+1)=v:=by rw [List.take_length,←List.drop_drop,List.drop_left];rfl
theorem tY:((u++w::v).take (u++w::v).length).drop u.length=w::v:=by rw [List.take_length,List.drop_left]
theorem Gn:((u++w::v).take (u++w::v).length).drop (u.length+2)=v.drop 1:=by rw [List.take_length,←List.drop_drop,List.drop_left];rfl
theorem Go:((u++w::v).take (u.length+1)).drop 0=u++[w]:=by
 rw [List.drop_zero,List.take_append,List.take_of_length_le (Nat.le_succ _)];simp
theorem cut_mid:((u++w::v).take (u.length+1)).drop u.length=[w]:=by rw [List.take_append,List.drop_append];simp
theorem Jd:((u++w::v).take (u.length+2)).drop (u.length+1)=v.take 1:=by
 rw [←List.drop_drop,List.take_append,List.take_of_length_le (Nat.le_add_right _ _),List.drop_left]
 simp
theorem bent_g (R:RG C) (S:Src H s) (hH:H p=some (.list (ws.map .str))) (hps:p≠s) (hw:Rb c A N ws) (hN:N≤100000) (q:RbQ H s (c+5) (2*A+3) (N+3) Q):aB C (n+4) 38 [.lst s,.lst p] H Q E:=by
 have hl:=hw.len
 apply R.bent rfl
 refine Eq.symm (Cj)▸?_
 generalize e0:bw0=W0
 generalize e1:bw1=W1
 generalize e2:bw2=W2
 generalize e3:bw3=W3
 generalize eX:chE bentX=X
 generalize eY:wE zG=Y
 refine eH (n:=n+2) R.take S (by decide) (by decide) fun way H1 hway S1 g1=>?_
 have hH1:=g1.keep hps hH
 have app:∀ {m:LE} {H2:MH},m 0=.lst s→Gs s H H2→Src H2 s→mE (aB C (n+3)) C.gv E X m H2 fun y H₂=>dY .add (.lst p) y H₂ fun v H'=>Q v H':=by
  intro m H2 h0 g2 S2
  subst eX
  refine ch_g (n:=n+1) R.take R.one S2 (by decide) (Nat.le_of_ble_eq_true rfl) h0 fun w1 f2 H3 hw1 e2 n2 S3 g3=>?_
  have ok:∀ ws∈bentX,ws.length≤3∧∀ w∈ws,w∈bO:=by decide +kernel
  obtain ⟨k1,k2⟩:=ok w1 hw1
  have gg:=g2.trans g3
  refine oA (gg.keep hps hH) e2 (ar422 hN hl k1) fun f3 hf3=>?_
  have n3:=gg.none S hf3 S3
  exact q (ws++w1) f3 _ (hw.bent (I45 ws w1 ([]) ([]) (by simp) (by simp) k1 (by simp) (fun w h=>.inl (k2 w h)))) aC n3 (S3.put (S.ne n3)) (gg.put (.inr n3))
 walk_at "mu"
 by_cases h4:(4:Int)<way
 ·refine Eq.symm (decide_eq_true h4)▸?_
  exact app rfl g1 S1
 refine Eq.symm (decide_eq_false h4)▸?_
 intro b0 hb0
 have g2:=g1.put (o:=.list []) (.inr (g1.none S hb0 S1))
 have hpb:p≠b0:=by rintro rfl;rw [hH1] at hb0;cases hb0
 have S2:=S1.put (o:=.list []) (S1.ne hb0)
 have hH2:(H1.set b0 (.list [])) p=some (.list (ws.map .str)):=(aL hpb).trans hH1
 refine eq_nil (xs:=ws.map .str) hH2 aC ?_
 generalize H1.set b0 (.list [])=H2 at *
 by_cases hnil:ws.map PV.str=[]
 ·refine Eq.symm (decide_eq_true hnil)▸?_
  exact app rfl g2 S2
 refine Eq.symm (decide_eq_false hnil)▸?_
 have hpos:0<ws.length:=by
  clear hpb hb0 b0 app hH1 g1 S1 hway
  cases ws with
  | nil=>exact absurd rfl hnil
  | cons w r=>simp
 walk_at "mu"
 refine Eq.symm (cV hH2)▸?_
 refine ⟨by simp;exact ar248 hN hl,?_⟩
 refine eH (n:=n+2) R.take S2 (by simp;exact hpos) (by simp;exact Int.ofNat_lt.mpr (Nat.lt_of_le_of_lt (Nat.le_trans hl hN) (Nat.le_of_ble_eq_true rfl))) fun at_ H3 hat S3 g3=>?_
 have gg3:=g2.trans g3
 have hH3:=gg3.keep hps hH
 refine hC fun hG=>?_
 clear hpos hnil hH2 hpb hb0 b0 g3 S2
 obtain ⟨u,w,v,rfl,rfl⟩:∃ u w v,ws=u++w::v∧at_=u.length:=by
  have hlt:at_<ws.length:=by simp at hat;exact ar177 hat
  refine I32 (ws.take at_) (ws[at_]) (ws.drop (at_+1)) (?_) (?_)
  ·rw [←List.drop_eq_getElem_cons hlt,List.take_append_drop]
  ·rw [List.length_take];exact ar423 hlt
 refine hG ?_;clear hG
 have wv:w∈bO:=hw.voc w (by simp)
 generalize hL:u++w::v=L at hH3 hw
 have lL:L.length≤100000:=by rw [←hL];exact Nat.le_trans hl hN
 generalize hm:((cE [PV.lst s,PV.lst p]).set 2 (PV.int way)).set 3 (PV.int u.length)=m
 have m1:m 1=.lst p:=by rw [←hm];rfl
 have m2:m 2=.int way:=by rw [←hm];rfl
 have m3:m 3=.int u.length:=by rw [←hm];rfl
 have m0:m 0=.lst s:=by rw [←hm];rfl
 have done:∀ {e:ME} {vs:List Wd} {m:LE} {H4:MH},EvW (aB C (n+3)) C.gv E m H4 e vs→BentR L vs→Src H4 s→Gs s H H4→mE (aB C (n+3)) C.gv E e m H4 fun v H'=>Q v H':=by
  intro e vs m H4 he hb S4 g4
  refine he.run .refl fun f H' n1 c1 g=>?_
  exact q vs f H' (hw.bent hb) c1 (g4.none S n1 S4) (S4.gr g) (g4.gr g)
 have pv:∀ {m:LE} {z:Nat} {H:MH} {Q:QV},m 3=.int u.length→Q (.int (u.length+z:Nat)) H→mE (aB C (n+3)) C.gv E (.bin .add (.var 3) (.int z)) m H Q:=fun h q=>ev_add h q
 have len1:L.length=u.length+v.length+1:=by rw [←hL];simp;exact rfl
 have hd:∀ {m:LE} {H4:MH},m 1=.lst p→m 3=.int u.length→H4 p=some (.list (L.map .str))→EvW (aB C (n+3)) C.gv E m H4 (.slc (.var 1) .none (.var 3)) u:=by
  intro m H4 m1 m3 h4
  have:=EvW.slc (F:=aB C (n+3)) (gv:=C.gv) (E:=E) (l:=.none) (u:=.var 3) (lv:=.none) (uv:=.int u.length) (x:=0) (y:=u.length) m1 h4 (fun H Q q=>jJ q) (fun H Q q=>Cf m3 q) rfl bU (iE lL) (Nat.zero_le _) (Eh lL len1)
  rw [←hL,Je] at this;exact this
 walk_at "mu"
 repeat (simp only [m3,m2,nuO,nuL,nuI,nuS,nuT,nuB,nuN,nuF,aF,aG];walk_at "mu")
 by_cases h0:(way:Int)=0
 ·refine Eq.symm (decide_eq_true h0)▸?_
  subst e0
  refine done (vs:=u++v) (.add (hd m1 m3 hH3) ?_ (ar431 lL len1)) (I45 u ([]) ([w]) v (by rw [←hL];simp) (rfl) (Nat.zero_le _) (Nat.le_of_ble_eq_true rfl) (fun w h=>nomatch h)) S3 gg3
  have:=EvW.slc (F:=aB C (n+3)) (gv:=C.gv) (E:=E) (l:=.bin .add (.var 3) (.int 1)) (u:=.none) (lv:=.int (u.length+1:Nat)) (uv:=.none) (x:=u.length+1) (y:=L.length) m1 hH3 (fun H Q q=>pv (z:=1) m3 q) (fun H Q q=>jJ q) bL rfl (iE lL) (zM lL len1) (iE lL)
  rw [←hL,yW] at this;exact this
 refine Eq.symm (decide_eq_false h0)▸?_
 walk_at "mu"
 repeat (simp only [m3,m2,nuO,nuL,nuI,nuS,nuT,nuB,nuN,nuF,aF,aG];walk_at "mu")
 by_cases h1:(way:Int)=1
 ·refine Eq.symm (decide_eq_true h1)▸?_
  subst e1
  refine done (vs:=(u++[w])++(w::v)) (.add ?_ ?_ (by simp;exact ar433 lL len1)) (I45 u ([w,w]) ([w]) v (by rw [←hL];simp) (by simp) (Nat.le_of_ble_eq_true rfl) (Nat.le_of_ble_eq_true rfl) (fun x h=>.inl (by simp at h;rw [h];exact wv))) S3 gg3
  ·have:=EvW.slc (F:=aB C (n+3)) (gv:=C.gv) (E:=E) (l:=.none) (u:=.bin .add (.var 3) (.int 1)) (lv:=.none) (uv:=.int (u.length+1:Nat)) (x:=0) (y:=u.length+1) m1 hH3 (fun H Q q=>jJ q) (fun H Q q=>pv (z:=1) m3 q) rfl bU (iE lL) (Nat.zero_le _) (zM lL len1)
   rw [←hL,Go] at this;exact this
  ·have:=EvW.slc (F:=aB C (n+3)) (gv:=C.gv) (E:=E) (l:=.var 3) (u:=.none) (lv:=.int u.length) (uv:=.none) (x:=u.length) (y:=L.length) m1 hH3 (fun H Q q=>Cf m3 q) (fun H Q q=>jJ q) bL rfl (iE lL) (Eh lL len1) (iE lL)
   rw [←hL,tY] at this;exact this
 refine Eq.symm (decide_eq_false h1)▸?_
 walk_at "mu"
 repeat (simp only [m3,m2,nuO,nuL,nuI,nuS,nuT,nuB,nuN,nuF,aF,aG];walk_at "mu")
 by_cases h2:(way:Int)=2
 ·refine Eq.symm (decide_eq_true h2)▸?_
  clear h1 hm hat h4 g2 h0 H2 app
  subst e2
  refine done (vs:=((u++v.take 1)++[w])++v.drop 1) (.add (.add (.add (hd m1 m3 hH3) ?_ (by simp;exact ar434 lL len1)) ?_ (by simp;exact ar435 lL len1)) ?_ (by simp;exact ar436 lL len1)) (I45 u (v.take 1++[w]) (w::v.take 1) (v.drop 1) (by rw [←hL,List.cons_append,List.take_append_drop]) (by simp) (by simp;exact ar437) (by simp;exact ar438) (fun x h=>?_)) S3 gg3
  ·have:=EvW.slc (F:=aB C (n+3)) (gv:=C.gv) (E:=E) (l:=.bin .add (.var 3) (.int 1)) (u:=.bin .add (.var 3) (.int 2)) (lv:=.int (u.length+1:Nat)) (uv:=.int (u.length+2:Nat)) (x:=u.length+1) (y:=u.length+2) m1 hH3 (fun H Q q=>pv (z:=1) m3 q) (fun H Q q=>pv (z:=2) m3 q) bL bU (iE lL) (zM lL len1) (ar439 lL len1)
   rw [←hL,Jd] at this;exact this
  ·have:=EvW.slc (F:=aB C (n+3)) (gv:=C.gv) (E:=E) (l:=.var 3) (u:=.bin .add (.var 3) (.int 1)) (lv:=.int u.length) (uv:=.int (u.length+1:Nat)) (x:=u.length) (y:=u.length+1) m1 hH3 (fun H Q q=>Cf m3 q) (fun H Q q=>pv (z:=1) m3 q) bL bU (iE lL) (Eh lL len1) (zM lL len1)
   rw [←hL,cut_mid] at this;exact this
  ·have:=EvW.slc (F:=aB C (n+3)) (gv:=C.gv) (E:=E) (l:=.bin .add (.var 3) (.int 2)) (u:=.none) (lv:=.int (u.length+2:Nat)) (uv:=.none) (x:=u.length+2) (y:=L.length) m1 hH3 (fun H Q q=>pv (z:=2) m3 q) (fun H Q q=>jJ q) bL rfl (iE lL) (ar439 lL len1) (iE lL)
   rw [←hL,Gn] at this;exact this
  ·clear pv hH3 hH1 g1 S1 hway H1 eX
   rcases List.mem_append.mp h with h|h
   ·exact .inr (by rw [←hL];exact List.mem_append_right _ (.tail _ (List.mem_of_mem_take h)))
   ·clear X e1 e0 hl hN hw
    rcases List.mem_singleton.mp h with rfl;exact .inl wv
 refine Eq.symm (decide_eq_false h2)▸?_
 subst eY
 walk_at "mu"
 repeat (simp only [m0,m3,m2,nuO,nuL,nuI,nuS,nuT,nuB,nuN,nuF,aF,aG];walk_at "mu")
 refine wE_e fun t ht=>?_
 have n4:=gg3.none S ht S3
 have ts:=S.ne n4
 have gg4:=gg3.put (o:=.list (zG.map .str)) (.inr n4)
 have S4:=S3.put (o:=.list (zG.map .str)) ts
 refine Dh (n:=n+1) R.take R.one S4 aC ts (by decide) (Nat.le_of_ble_eq_true rfl) fun x H5 hx S5 g5=>?_
 obtain ⟨more,hmore,rfl⟩:=List.mem_map.mp hx
 have mv:more∈bO:=by
  have:∀ w∈zG,w∈bO:=by decide +kernel
  exact this more hmore
 have gg5:=gg4.trans g5
 have hH5:=gg5.keep hps hH
 rw [hL] at hH5
 subst e3
 have a3:(m.set 4 (.str more)) 3=.int u.length:=by simp [aJ,m3]
 have a1:(m.set 4 (.str more)) 1=.lst p:=by simp [aJ,m1]
 have a4:(m.set 4 (.str more)) 4=.str more:=by simp [aJ]
 by_cases h3:(way:Int)=3
 ·refine done (vs:=(u++[more])++v) (.add (.add (hd a1 a3 hH5) (.var1 4 a4) (by simp;exact ar440 lL len1)) ?_ (by simp;exact ar441 lL len1)) (I45 u ([more]) ([w]) v (by rw [←hL];simp) (by simp) (by simp) (Nat.le_of_ble_eq_true rfl) (fun x h=>.inl (by simp at h;rw [h];exact mv))) S5 gg5
  have:=EvW.slc (F:=aB C (n+3)) (gv:=C.gv) (E:=E) (l:=.bin .add (.var 3) (.bi .int [.cmp .eq (.var 2) (.int 3)])) (u:=.none) (lv:=.int (u.length+1:Nat)) (uv:=.none) (x:=u.length+1) (y:=L.length) a1 hH5 (fun H Q q=>by
   walk_at "mu"
   repeat (simp only [m3,m2,nuO,nuL,nuI,nuS,nuT,nuB,nuN,nuF,aF,aG];walk_at "mu")
   refine Eq.symm (decide_eq_true h3)▸?_
   exact q) (fun H Q q=>jJ q) bL rfl (iE lL) (zM lL len1) (iE lL)
  rw [←hL,yW] at this;exact this
 ·refine done (vs:=(u++[more])++(w::v)) (.add (.add (hd a1 a3 hH5) (.var1 4 a4) (by simp;exact ar440 lL len1)) ?_ (by simp;exact ar433 lL len1)) (I45 u ([more]) ([]) (w::v) (by rw [←hL];simp) (by simp) (by simp) (by simp) (fun x h=>.inl (by simp at h;rw [h];exact mv))) S5 gg5
  have:=EvW.slc (F:=aB C (n+3)) (gv:=C.gv) (E:=E) (l:=.bin .add (.var 3) (.bi .int [.cmp .eq (.var 2) (.int 3)])) (u:=.none) (lv:=.int u.length) (uv:=.none) (x:=u.length) (y:=L.length) a1 hH5 (fun H Q q=>by
   walk_at "mu"
   repeat (simp only [m3,m2,nuO,nuL,nuI,nuS,nuT,nuB,nuN,nuF,aF,aG];walk_at "mu")
   refine Eq.symm (decide_eq_false h3)▸?_
   simpa using q) (fun H Q q=>jJ q) bL rfl (iE lL) (Eh lL len1) (iE lL)
  rw [←hL,tY] at this;exact this
end
end
noncomputable def pP:Option Wd→List (Nat×Wd)→Prop
 | _,[]=>True
 | p,(g,w)::r=>w∈bO∧(g=0→p=some w∧(w=[62]∨w=[38]))∧pP (some w) r
theorem pP.l:∀ {p:Option Wd}{l:List (Nat×Wd)},pP p l→iG p l
 | _,[],_=>trivial
 | p,(g,w)::r,h=>I03 (h.1) (fun e=>.inr (.inl (h.2.1 e))) (pP.l h.2.2)
noncomputable def tT:Option Wd→List (Nat×Wd)→Option Wd
 | p,[]=>p
 | _,(_,w)::r=>tT (some w) r
theorem rW {g:Nat}{w:Wd}(hv:w∈bO):∀ {p:Option Wd}{l:List (Nat×Wd)},pP p l→(g=0→tT p l=some w∧(w=[62]∨w=[38]))→pP p (l++[(g,w)])
 | p,[],_,h=>I03 hv h trivial
 | p,(g',w')::r,k,h=>I03 (k.1) (k.2.1) (rW hv k.2.2 h)
theorem yN {g:Nat}{w:Wd}:∀ l:List (Nat×Wd),lay (l++[(g,w)])=lay l++(jZ g++w):=by
 intro x0
 induction x0 with
 | nil=>
  simp [lay]
 | cons x8 r ih=>
  obtain ⟨g',w'⟩:=x8
  simp only [List.cons_append,lay,ih,List.append_assoc]
theorem Bp:∀ (l:List (Nat×Wd)) (p:Option Wd),tT p l=((l.map (·.2)).getLast?).or p:=by
 intro x0
 induction x0 with
 | nil=>
  intro p
  cases p<;>rfl
 | cons x8 r ih=>
  intro p
  obtain ⟨g,w⟩:=x8
  rw [tT,ih]
  cases r with
  | nil=>rfl
  | cons x r=>simp [List.getLast?_cons]
section
variable {C:Cx}{H H₀:MH}{Q:QV}{E:MH→Prop}{n i k s d c A N M t f g x a p:Nat}{L ws vs us:List Wd}{w b:Wd}{F:FSt}{gv:Nat→PV}{xs ys fs:List PV}{m:LE}
noncomputable def txB:List MS:=[.asg 4 (.and [.cmp .gt (.var 3) (.int 0),.cmp .in_ (.idx (.var 1) (.var 3)) (.list [.str [62],.str [38]]),.cmp .eq (.idx (.var 1) (.bin .sub (.var 3) (.int 1))) (.idx (.var 1) (.var 3)),.cmp .eq (.call 31 [.var 0,.int 2]) (.int 0)]),
  .asg 2 (.bin .add (.bin .add (.var 2) (.ite (.var 4) (.str []) (.call 32 [.var 0,.list [.str [32],.str [10],.str [32,47,42,32,60,32,42,47,32]]]))) (.idx (.var 1) (.var 3)))]
theorem Ag:mK=[.asg 2 (.str []),.fors [3] false (.bi .range [.bi .len [.var 1]]) txB,.ret (.var 2)]:=rfl
theorem tx_loop (R:RG C) {wb:LE→MH→QS→Prop}(hwb:∀ m H Q,wb m H Q=mSs (aB C (n+2)) C.gv nope txB m H Q) (S0:Src H₀ s) (hH:H₀ p=some (.list (ws.map .str))) (hps:p≠s) (hv:∀ w∈ws,w∈bO) (hws:ws.length≤100000) {Q:QS}:∀ (k:Nat) {j:Nat}{m:LE}{H:MH}{l:List (Nat×Wd)},
  j+k=ws.length→m 0=.lst s→m 1=.lst p→m 2=.str (lay l)→pP none l→l.map (·.2)=ws.take j→(lay l).length≤16*j→Src H s→Gs s H₀ H →
  (∀ m' H' l',m' 2=.str (lay l')→pP none l'→l'.map (·.2)=ws→(lay l').length≤16*ws.length→Src H' s→Gs s H₀ H'→Q .next m' H')→cQ (bC [3] false) wb (fun J=>True) ((List.range' j k).map fun (i:Nat)=>PV.int (i:Int)) m H Q:=by
 intro x0
 induction x0 with
 | zero=>
  intro j m H l hj h0 h1 h2 hg hl hn S g q
  obtain rfl:j=ws.length:=by exact hj
  exact q m H l h2 hg (by rw [hl,List.take_length]) hn S g
 | succ k ih=>
  intro j m H l hj h0 h1 h2 hg hl hn S g q
  rw [List.range'_succ,List.map_cons]
  rw [dE]
  dsimp only [dC,dB,dP]
  rw [hwb]
  refine hC fun hG=>?_
  obtain ⟨w,hw⟩:∃ w,ws[j]?=some w:=⟨_,List.getElem?_eq_getElem (ar161 hj)⟩<;>(refine hG ?_;clear hG)
  have wv:=hv w (List.mem_of_getElem? hw)
  have wl:=lE w wv
  have hidx:∀ {H:MH} {Q:QV},H p=some (.list (ws.map .str))→Q (.str w) H→fY (.lst p) (.int (j:Int)) H Q:=fun hp q=>bX hp (by simp;exact lA hws) rfl (by rw [List.getElem?_map,hw];rfl) q
  generalize hT2:MS.asg 2 (.bin .add (.bin .add (.var 2) (.ite (.var 4) (.str []) (.call 32 [.var 0,.list [.str [32],.str [10],.str [32,47,42,32,60,32,42,47,32]]]))) (.idx (.var 1) (.var 3)))=s2
  have fin:∀ {m':LE} {H':MH} (gp:Nat),m' 0=.lst s→m' 1=.lst p→m' 2=.str (lay l++(jZ gp++w))→gp≤3→(gp=0→tT none l=some w∧(w=[62]∨w=[38]))→Src H' s→Gs s H₀ H' →
    cQ (bC [3] false) wb (fun J=>True) ((List.range' (j+1) k).map fun (i:Nat)=>PV.int (i:Int)) m' H' Q:=by
   intro m' H' gp e0 e1 e2 hgp h S' g'
   refine ih (l:=l++[(gp,w)]) (ar443 hj) e0 e1 (by rw [yN];exact e2) (rW wv hg h) ?_ ?_ S' g' q
   ·rw [List.map_append,hl,List.take_add_one,hw];rfl
   ·rw [yN]
    have:(jZ gp).length≤9:=by
     match gp with
     | 0=>decide
     | 1=>decide
     | 2=>decide
     | _+3=>show List.length [32,47,42,32,60,32,42,47,32]≤9;decide
    simp;exact Nat.add_le_add hn (Nat.add_le_add this wl)
  have second:∀ {m':LE} {H':MH} (near:Bool),m' 0=.lst s→m' 1=.lst p→m' 2=.str (lay l)→m' 3=.int j→m' 4=.bool near→(near=true→tT none l=some w∧(w=[62]∨w=[38]))→Src H' s→Gs s H₀ H' →
    mSs (aB C (n+2)) C.gv nope [s2] m' H' (eN (cQ (bC [3] false) wb (fun J=>True) ((List.range' (j+1) k).map fun (i:Nat)=>PV.int (i:Int))) Q):=by
   intro m' H' near e0 e1 e2 e3 e4 h S' g'
   subst hT2
   have hp':=g'.keep hps hH
   cases near with
   | true=>
    walk_at "mu"
    repeat (simp only [e0,e1,e2,e3,e4,nuO,nuL,nuI,nuS,nuT,nuB,nuN,nuF,aF,aG];walk_at "mu")
    refine ⟨by simp;exact ar445 hws hj hn,hidx hp' ?_⟩
    refine ⟨by simp;exact ar446 hws hj hn wl,?_⟩
    exact fin 0 e0 e1 (by simp [aJ,jZ]) (Nat.le_of_ble_eq_true rfl) (fun J=>h rfl) S' g'
   | false=>
    walk_at "mu"
    repeat (simp only [e0,e1,e2,e3,e4,nuO,nuL,nuI,nuS,nuT,nuB,nuN,nuF,aF,aG];walk_at "mu")
    intro t ht
    have n1:=g'.none S0 ht S'
    have ts:=S0.ne n1
    have g1:=g'.put (o:=.list [.str [32],.str [10],.str [32,47,42,32,60,32,42,47,32]]) (.inr n1)
    refine Dh R.take R.one (S'.put ts) aC ts (by decide) (Nat.le_of_ble_eq_true rfl) fun v H2 hv2 S2 g2=>?_
    have gg:=g1.trans g2
    obtain ⟨gp,rfl,hgp,hgp3⟩:∃ gp,v=.str (jZ gp)∧gp≠0∧gp≤3:=by
     simp at hv2
     rcases hv2 with rfl|rfl|rfl
     ·exact I13 1 rfl (by decide) (Nat.le_of_ble_eq_true rfl)
     ·exact I13 2 rfl (by decide) (Nat.le_of_ble_eq_true rfl)
     ·exact I13 3 rfl (by decide) (Nat.le_of_ble_eq_true rfl)
    have sl:(jZ gp).length≤9:=by
     match gp with
     | 0=>decide
     | 1=>decide
     | 2=>decide
     | _+3=>show List.length [32,47,42,32,60,32,42,47,32]≤9;decide
    refine ⟨ar447 hws hj hn sl,hidx (gg.keep hps hH) ?_⟩
    refine ⟨by simp;exact ar448 hws hj hn wl sl,?_⟩
    exact fin gp e0 e1 (by simp [aJ]) hgp3 (fun h=>absurd h hgp) S2 gg
  have e0:∀ b:Bool,((m.set 3 (.int j)).set 4 (.bool b)) 0=.lst s:=fun b=>by simp [aJ,h0]
  have e1:∀ b:Bool,((m.set 3 (.int j)).set 4 (.bool b)) 1=.lst p:=fun b=>by simp [aJ,h1]
  have e2:∀ b:Bool,((m.set 3 (.int j)).set 4 (.bool b)) 2=.str (lay l):=fun b=>by simp [aJ,h2]
  have e3:∀ b:Bool,((m.set 3 (.int j)).set 4 (.bool b)) 3=.int j:=fun b=>by simp [aJ]
  have e4:∀ b:Bool,((m.set 3 (.int j)).set 4 (.bool b)) 4=.bool b:=fun b=>by simp [aJ]
  have no:∀ {H':MH},Src H' s→Gs s H₀ H'→_:=fun S' g'=>second (m':=(m.set 3 (.int j)).set 4 (.bool false)) false (e0 _) (e1 _) (e2 _) (e3 _) (e4 _) (fun h=>nomatch h) S' g'
  simp only [txB,hT2]
  walk_at "mu"
  repeat (simp only [h0,h1,nuO,nuL,nuI,nuS,nuT,nuB,nuN,nuF,aF,aG];walk_at "mu")
  have hp1:=g.keep hps hH
  by_cases hj0:(0:Int)<j
  ·rw [decide_eq_true hj0]
   walk_at "mu"
   refine hidx hp1 ?_
   intro b1 hb1
   have n1:=g.none S0 hb1 S
   have g1:=g.put (o:=.list [.str [62],.str [38]]) (.inr n1)
   have S1:=S.put (o:=.list [.str [62],.str [38]]) (S0.ne n1)
   refine rU (ps:=[[62],[38]]) aC ?_
   by_cases hw2:w∈([[62],[38]]:List Wd)
   ·rw [decide_eq_true hw2]
    obtain ⟨u,hu⟩:∃ u,ws[j - 1]?=some u:=⟨_,List.getElem?_eq_getElem (ar449 hj)⟩
    have hp2:=g1.keep hps hH
    walk_at "mu"
    refine bX (j:=j - 1) hp2 (by simp;exact lA hws) ((Int.ofNat_sub (Int.natCast_pos.mp hj0)).symm) (by rw [List.getElem?_map,hu];rfl) (hidx hp2 ?_)
    walk_at "mu"
    by_cases hwu:u=w
    ·rw [decide_eq_true hwu]
     refine eH R.take S1 (by decide) (by decide) fun z H2 hz S2 g2=>?_
     walk_at "mu"
     by_cases hz0:(z:Int)=0
     ·rw [decide_eq_true hz0]
      refine second (m':=(m.set 3 (.int j)).set 4 (.bool true)) true (e0 _) (e1 _) (e2 _) (e3 _) (e4 _) (fun J=>⟨?_,by simpa using hw2⟩) S2 (g1.trans g2)
      rw [Bp,hl]
      have:(ws.take j).getLast?=some w:=by
       rw [List.getLast?_eq_getElem?,List.length_take,List.getElem?_take,if_pos (ar451 hj0),show min j ws.length - 1=j - 1 by exact ar452 hj,hu,hwu]
      rw [this];rfl
     ·rw [decide_eq_false hz0]
      exact no S2 (g1.trans g2)
    ·rw [decide_eq_false hwu]
     exact no S1 g1
   ·rw [decide_eq_false hw2]
    exact no S1 g1
  ·rw [decide_eq_false hj0]
   exact no S g
theorem text_g (R:RG C) (S:Src H s) (hH:H p=some (.list (ws.map .str))) (hps:p≠s) (hv:∀ w∈ws,w∈bO) (hws:ws.length≤100000) (q:∀ l H',iG none l→l.map (·.2)=ws→(lay l).length≤16*ws.length→Src H' s→Gs s H H'→Q (.str (lay l)) H'):aB C (n+3) 39 [.lst s,.lst p] H Q E:=by
 apply R.text rfl
 rw [Ag]
 generalize hB:txB=B
 walk_at "mu"
 rw [cV hH]
 refine ⟨by simp;exact lA hws,?_⟩
 refine I03 (by simp) (by simp;exact Ef hws) (?_)
 dsimp only [srcT,srcR]
 refine I03 (by simp) (by simp;exact Ef hws) (?_)
 subst hB
 rw [show ((ws.map PV.str).length:Int).toNat=ws.length by simp,List.range_eq_range']
 refine tx_loop (l:=[]) R (fun J J J=>rfl) S hH hps hv hws ws.length (Nat.add_comm _ _) rfl rfl (by simp [aJ,lay]) trivial (rfl) (by simp [lay]) S .refl fun m' H' l e2 hg hl hn S' g'=>?_
 walk_at "mu"
 refine Eq.symm (e2)▸?_
 exact q l H' hg.l hl hn S' g'
end
section
variable {C:Cx}{H H₀:MH}{Q:QV}{E:MH→Prop}{n i k s d c A N M t f g x a p:Nat}{L ws vs us:List Wd}{w b:Wd}{F:FSt}{gv:Nat→PV}{xs ys fs:List PV}{m:LE}
theorem nuC {b:List PV}{P:Prop}:nu (.clst b) P=P:=rfl
theorem idx_cl {xs:List PV}{k:Int}{j:Nat}{v:PV}(hl:xs.length≤16000000) (e:k=(j:Int)) (hx:xs[j]?=some v) (q:Q v H):fY (.clst xs) (.int k) H Q:=by
 exact qD (fun J J=>rfl) rfl hl e hx q
theorem pool_g (R:RG C) {zs:List Int}(hz:zs.length≤1000) (hk:k≤1) (q:∀ f H',Src H' f→H f=none→Gr H H'→Q (.lst f) H'):aB C (n+1) 30 [.clst (zs.map .int),.int k] H Q E:=by
 apply R.pool rfl
 refine ⟨by simp;exact jR hz,?_⟩
 walk_at "mu"
 have core:∀ z big:Int,(0:Int)<2147483629∧Int.natAbs 7919<2 ^ 63∧(7919*(k:Int)).natAbs<2 ^ 63∧Int.natAbs 31<2 ^ 63∧(big % 2147483629+7919*(k:Int)*(k:Int)+31*(k:Int)+17).natAbs<2 ^ 63∧(0:Int)<2147483647 ∧
   mSs (aB C n) C.gv E [.ret (.list [.ite (.cmp .ge (.var 3) (.pow 10 18)) (.var 3) (.int 0),.var 4])]
    ((((cE [.clst (zs.map .int),.int k]).set 2 (.int z)).set 3 (.int big)).set 4 (.int ((big % 2147483629+7919*(k:Int)*(k:Int)+31*(k:Int)+17)*48271 % 2147483647))) H (iR Q):=by
  intro z big
  have k1:7919*(k:Int)*(k:Int)+31*(k:Int)≤8000∧0≤7919*(k:Int)*(k:Int)+31*(k:Int):=by
   have:k=0∨k=1:=by exact ar454 hk
   clear hk R pool_g
   rcases this with rfl|rfl<;>simp
  have mk:∀ c:Int,gF [.int c,.int ((big % 2147483629+7919*(k:Int)*(k:Int)+31*(k:Int)+17)*48271 % 2147483647)] H fun v H'=>Q v H':=by
   intro c f hf
   have m0:=Int.emod_nonneg ((big % 2147483629+7919*(k:Int)*(k:Int)+31*(k:Int)+17)*48271) (show (2147483647:Int)≠0 by decide)
   have m1:=Int.emod_lt_of_pos ((big % 2147483629+7919*(k:Int)*(k:Int)+31*(k:Int)+17)*48271) (show (0:Int)<2147483647 by decide)
   exact q f _ (I23 _ _ aC m0 m1) hf (.new hf)
  refine I07 (by decide) (by decide) (by omega) (by decide) (by omega) (by decide) (?_)
  walk_at "mu"
  cases decide (((10:Nat):Int) ^ 18≤big) with
  | true=>
   exact mk _
  | false=>
   exact mk _
 have tail:∀ z:Int,mSs (aB C n) C.gv E (jQ.drop 1) ((cE [.clst (zs.map .int),.int k]).set 2 (.int z)) H (iR Q):=by
  intro z
  simp only [jQ,List.drop_succ_cons,List.drop_zero]
  with_reducible refine Dl ?_
  dsimp only [s_asg,e_bi,Dp,es_nil,e_var,Ep,Nat.reduceBEq,cond_true,cond_false,nuI,e_bin,e_neg]
  rw [o_subI]
  exact core _ _
 by_cases hlt:(k:Int)<((zs.map PV.int).length:Int)
 ·rw [decide_eq_true hlt]
  obtain ⟨z,hz2⟩:∃ z,zs[k]?=some z:=⟨_,List.getElem?_eq_getElem (by simp at hlt;exact ar177 hlt)⟩
  walk_at "mu"
  rw [nuC]
  refine idx_cl (j:=k) (by simp;exact jR hz) rfl (by rw [List.getElem?_map,hz2];rfl) ?_
  exact tail z
 ·rw [decide_eq_false hlt,cond_false,e_int]
  exact tail 0
end
noncomputable def endsB (w r:List Nat):Bool:=(if bJ w=bK∨bJ w=regS then (match r.head? with|some c=>!nsgS.contains c|none=>true) else true)&&decide (bJ w≠intS)&&(if bJ w=aQ then hJ.find? (fun x=>(w++r).take x.length==x)==some w else true)
theorem Jc {w r:List Nat}(h:endsB w r=true):Ends w r:=by
 unfold endsB at h
 simp only [Bool.and_eq_true] at h
 obtain ⟨⟨h1,h2⟩,h3⟩:=h
 refine I03 (fun k c e=>?_) (fun k=>absurd k (by simpa using h2)) (fun k=>?_)
 ·rw [if_pos k,e] at h1
  simpa using h1
 ·rw [if_pos k] at h3
  simpa using h3
noncomputable def goodB:Option Wd→List (Nat×Wd)→Bool
 | _,[]=>true
 | p,(g,w)::r=>bO.contains w&&(g != 0||(match p with
   | none=>true
   | some q=>(q==w&&(w==[62]||w==[38]))||endsB q (w++lay r)))&&goodB (some w) r
theorem nP:∀ {p:Option Wd}{l:List (Nat×Wd)},goodB p l=true→iG p l
 | _,[],_=>trivial
 | p,(g,w)::r,h=>by
  unfold goodB at h
  simp only [Bool.and_eq_true] at h
  refine hC fun hG=>?_
  obtain ⟨⟨h1,h2⟩,h3⟩:=h<;>(refine hG ?_;clear hG)
  refine I03 (by simpa using h1) (fun e=>?_) (nP h3)
  clear h3 h1
  subst e
  cases p with
  | none=>exact .inl rfl
  | some q=>
   simp only [bne_self_eq_false,Bool.false_or,Bool.or_eq_true,Bool.and_eq_true,beq_iff_eq] at h2
   rcases h2 with ⟨rfl,h⟩|h
   ·exact .inr (.inl ⟨rfl,h⟩)
   ·exact .inr (.inr (I12 q rfl (Jc h)))
noncomputable def isOk {α:Type}:Rs α→Bool
 | .ok _=>true
 | _=>false
theorem isOk_ok {α:Type}{r:Rs α}(h:isOk r=true):∃ x,r=.ok x:=by
 cases r with
 | ok x=>exact ⟨x,rfl⟩
 | _=>cases h
structure AllR (C:Cx):Prop where
 p:RP C
 g:dM C
 l:RL C
 wo:aT C 19 2 bN
 pl:aT C 18 1 nV
 f:RF C
 t:aT C 48 2 jP
 m:RG C
 law:aT C 49 1 b_law
section
variable {C:Cx}{H H₀:MH}{Q:QV}{E:MH→Prop}{n i k s d c A N M t f g x a p b b':Nat}{L ws vs us:List Wd}{w:Wd}{F:FSt}{gv:Nat→PV}{xs ys fs:List PV}{m:LE}{kd:List Nat}{l:List (Nat×Wd)}
theorem gens_no (ho:Lv A n ws):gens n ws≠.out:=by
 intro h
 refine iU h (fun r c g=>?_) fun _ h=>?_
 ·subst c
  have ho:=ho.tail (rfl)
  unfold genB at g
  split at g
  ·rename_i e
   exact wO (A:=A) (n:=n) (lM (bB n)) (fun ws h=>xW h.pv) _ ho e
  ·cases g
  ·cases g
 ·cases h
theorem dueF_no (ho:Lv A n ws):oW n kd ws≠.out:=by
 unfold oW
 split
 ·exact lV n ho.en
 ·split
  ·exact gens_no ho
  ·exact iQ (A:=A) (bB n) (fun ws h=>lV n h.en) ho.pv
theorem ne_due {t:PV}{u:List Nat}{P:Bool→Prop}(hb:H b=some (.list [t,.str u])) (hb':H b'=some (.list [t,.str u])) (ht:dZ 600 t) (q:P false):cL H .ne (.lst b) (.lst b') P:=by
 rw [vG hb hb']
 refine .inr (.inr (I03 (aI ht (cN cD)) rfl q))
theorem cmp_s (Z:AllR C) (hg:iG none l) (hl:l.map (·.2)=L) (hlay:(lay l).length≤600000) (W:Row H p L) (ho:Lv 9 198 L) (hv:∀ w∈L,w.length≤100) {K:Bool→MH→Prop}(q:∀ H',Gr H H'→K false H') :
  aB C 212 48 [.str kd,.str (lay l)] H (fun x H1=>aB C 212 47 [.str kd,.lst p] H1 (fun y H2=>cL H2 .ne x y fun r=>K r H2) E) E:=by
 have hlen:l.length≤100000:=by
  have:=congrArg List.length hl
  rw [List.length_map] at this
  have:=W.len;exact Nat.le_trans (Nat.le_of_eq (by assumption)) this
 refine told_s (n:=198) Z.t Z.p Z.l Z.wo Z.pl Z.g hg hlay hlen ?_
 refine Eq.symm (hl)▸?_
 have due:∀ {H1:MH} {Q:QV},Gr H H1→DueQ H1 Q (oW 198 kd L)→aB C 212 47 [.str kd,.lst p] H1 Q E:=fun g q=>aB.mono (d:=207) (Nat.le_add_left _ _) (due_r (n:=198) Z.f Z.g hv (W.gr g) ho q)
 have hno:=dueF_no (kd:=kd) ho
 cases e:oW 198 kd L with
 | out=>exact absurd e hno
 | fail=>
  intro H1 g1
  refine due g1 ?_
  refine Eq.symm (e)▸?_
  intro H2 g2
  exact q H2 (g1.trans g2)
 | ok y=>
  obtain ⟨t,r⟩:=y
  refine X02 (sC e) fun e1 J=>?_
  intro H1 b hb g1 c1
  refine due g1 ?_
  refine Eq.symm (e)▸?_
  intro H2 b' hb' g2 c2
  exact ne_due ((g2 b (by rw [c1];exact fun x=>nomatch x)).trans c1) c2 (dN (Nat.le_of_ble_eq_true rfl) e1) (q H2 (g1.trans g2))
noncomputable def fxB:List MS:=[.asg 4 (.call 47 [.var 1,.var 3]),.ifs (.or [.cmp .is_ (.var 4) (.none),.cmp .ne (.call 48 [.var 1,.var 2]) (.var 4)]) [.ret (.bool false)] []]
theorem vV (Z:AllR C) (hg:iG none l) (hl:l.map (·.2)=L) (hlay:(lay l).length≤600000) (W:Row H p L) (ho:Lv 9 198 L) (hv:∀ w∈L,w.length≤100) (hok:isOk (oW 198 kd L)=true) {Q:QS}(h1:m 1=.str kd) (h2:m 2=.str (lay l)) (h3:m 3=.lst p)
  (q:∀ v H',Gr H H'→Q .next (m.set 4 v) H'):mSs (aB C 212) C.gv E fxB m H Q:=by
 have hlen:l.length≤100000:=by
  have:=congrArg List.length hl
  rw [List.length_map] at this
  have:=W.len;exact Nat.le_trans (Nat.le_of_eq (by assumption)) this
 refine X11 (isOk_ok hok) ?_
 rintro ⟨t,r⟩ e
 refine X02 (sC e) fun e1 J=>?_
 simp only [fxB]
 walk_at "mu"
 repeat (simp only [h1,h2,h3,nuO,nuL,nuI,nuS,nuT,nuB,nuN,nuF,aF,aG];walk_at "mu")
 refine aB.mono (d:=207) (Nat.le_add_left _ _) (due_r (n:=198) Z.f Z.g hv W ho ?_)
 rw [e]
 intro H1 b hb g1 c1
 walk_at "mu"
 (try simp only [h1,h2])
 have isn:∀ {P:Bool→Prop},P false→cL H1 .is_ (.lst b) .none P:=fun q=>q
 refine isn ?_
 refine told_s (n:=198) Z.t Z.p Z.l Z.wo Z.pl Z.g hg hlay hlen ?_
 rw [hl,e]
 intro H2 b' hb' g2 c2
 refine ne_due c2 ((g2 b (by rw [c1];exact fun x=>nomatch x)).trans c1) (dN (Nat.le_of_ble_eq_true rfl) e1) ?_
 exact q _ _ (g1.trans g2)
end
section
variable {C:Cx}{H H₀:MH}{Q:QV}{E:MH→Prop}{n i k s d c A N M t f g x a p b b':Nat}{L ws vs us:List Wd}{w:Wd}{F:FSt}{gv:Nat→PV}{xs ys fs:List PV}{m:LE}{kd:List Nat}{l:List (Nat×Wd)}
noncomputable def uI (H:MH) (s:Nat) (its:List PV):Prop:=∀ v∈its,∃ kd f ws,v=.tup [.str kd,.lst f]∧H f=some (.list (ws.map .str))∧Rb 3 3 20000 ws∧f≠s
theorem forN_n {bd:PV→LE→Option LE}{b:LE→MH→QS→Prop}{chk:MH→Prop}{m:LE}{H:MH}{Q:QS}:cQ bd b chk [] m H Q=Q .next m H:=rfl
theorem uI.gs {H':MH}{its:List PV}(h:uI H s its) (g:Gs s H H'):uI H' s its:=fun v hv=>by
 refine X34 (h v hv) fun kd f ws e1 e2 e3 e4=>?_
 exact I34 kd f ws e1 (g.keep e4 e2) e3 e4
noncomputable def ioB:List MS:=[.asg 8 (.call 38 [.var 6,.var 3]),.ifs (.cmp .ne (.call 48 [.var 1,.call 39 [.var 6,.var 8]]) (.call 47 [.var 1,.var 8])) [.ret (.bool false)] []]
theorem in_loop (Z:AllR C) {wb:LE→MH→QS→Prop}(hwb:∀ m H Q,wb m H Q=mSs (aB C 212) C.gv nope ioB m H Q) (hts:t≠s) {L:List PV}{Q:QS}:∀ (its:List PV) {m:LE}{H:MH},uI H s its→m 6=.lst s→H t=some (.list L)→Src H s →
  (∀ m' H',m' 0=m 0→Gs s H H'→Q .next m' H')→cQ (bC [1,3] true) wb (fun H'=>H' t=some (.list L)) its m H Q:=by
 intro x0
 induction x0 with
 | nil=>intro m H hR h6 ht S q;exact q m H rfl .refl
 | cons v its ih=>
  intro m H hR h6 ht S q
  refine hC fun hG=>?_
  obtain ⟨kd,f,ws,rfl,e2,e3,e4⟩:=hR v (.head _)<;>(refine hG ?_;clear hG)
  rw [dE]
  simp only [bC,List.length_cons,List.length_nil,Nat.zero_add,Nat.reduceAdd,Nat.reduceLeDiff,if_true,zX,zW]
  walk_at "mu"
  rw [hwb]
  simp only [ioB]
  walk_at "mu"
  repeat (simp only [h6,nuO,nuL,nuI,nuS,nuT,nuB,nuN,nuF,aF,aG];walk_at "mu")
  refine aB.mono (d:=4) (Nat.le_of_ble_eq_true rfl) (bent_g (n:=0) Z.m S e2 e4 e3 (Nat.le_of_ble_eq_true rfl) fun vs g H1 b1 c1 n1 S1 g1=>?_)
  have g1s:=S.ne n1
  walk_at "mu"
  (try simp only [h6])
  have vl:=b1.len
  refine aB.mono (d:=3) (Nat.le_of_ble_eq_true rfl) (text_g (n:=0) Z.m S1 c1 g1s b1.voc (Nat.le_trans vl (Nat.le_add_left _ _)) fun l H2 hg hl hlay S2 g2=>?_)
  have gg:=g1.trans g2
  have hp:=g2.keep g1s c1
  refine cmp_s Z hg hl (ar458 vl hlay) ⟨hp,(Nat.le_trans vl (Nat.le_add_left _ _))⟩ ⟨b1.suf,?_⟩ (fun w hw=>by have:=lE w (b1.voc w hw);exact Nat.le_trans this (Nat.le_add_left _ _)) fun H3 g3=>?_
  ·have:=b1.mx
   lia
  ·have gg3:=gg.gr g3
   refine ⟨gg3.keep hts ht,?_⟩
   refine ih (uI.gs (H:=H) (fun v hv=>hR v (.tail _ hv)) gg3) h6 (gg3.keep hts ht) (S2.gr g3) fun m' H' e g'=>q m' H' (e.trans rfl) (gg3.trans g')
noncomputable def lwB:List MS:=[.asg 6 (.call 30 [.var 0,.var 5]),
  .asg 7 (.list [.tuple [.str [116,121,112,101],.call 36 [.var 6,.int 3]],.tuple [.str [101,120,112,114],.call 33 [.var 6,.int 2,.bool true]]]),
  .asg 7 (.bin .add (.var 7) (.list [.tuple [.str [112,97,116,104],.call 33 [.var 6,.int 2,.bool false]],.tuple [.str [103,101,110,101,114,105,99,115],.call 37 [.var 6]]])),
  .fors [1,3] true (.var 7) ioB]
theorem lw_turn (Z:AllR C) {zs:List Int}(hz:zs.length≤1000) (hk:k≤1) {Q:QS}(h0:m 0=.clst (zs.map .int)) (h5:m 5=.int k) (q:∀ m' H',m' 0=.clst (zs.map .int)→Gr H H'→Q .next m' H'):mSs (aB C 212) C.gv nope lwB m H Q:=by
 simp only [lwB]
 generalize hI:ioB=I
 walk_at "mu"
 repeat (simp only [h0,h5,nuO,nuL,nuI,nuS,nuT,nuB,nuN,nuF,aF,aG];walk_at "mu")
 refine aB.mono (d:=1) (Nat.le_of_ble_eq_true rfl) (pool_g (n:=0) Z.m hz hk fun s H1 S1 n1 g1=>?_)
 walk_at "mu"
 have t0:tF C s 0:=typ_g (s:=s) Z.m Z.g 0 (Nat.le_of_ble_eq_true rfl) (fun d' h=>ar460 h)
 have t1:tF C s 1:=typ_g (s:=s) Z.m Z.g 1 (Nat.le_of_ble_eq_true rfl) (fun d' h=>by cases h;decide)
 have t3:tF C s 3:=typ_g (s:=s) Z.m Z.g 3 (Nat.le_of_ble_eq_true rfl) (fun d' h=>by cases h;decide)
 have p2:∀ {H:MH} {Q:QV} {E:MH→Prop} {b:Bool},Src H s→lT H s 2 2 (NT 2) Q→aB C 11 33 [.lst s,.int (2:Nat),.bool b] H Q E:=fun S q=>vC (d:=2) Z.m Z.g (fun d' h=>by cases h;exact ang_g Z.m t1 (Nat.le_of_ble_eq_true rfl)) (Nat.le_of_ble_eq_true rfl) S q
 have p1:∀ {H:MH} {Q:QV} {E:MH→Prop},Src H s→lT H s 1 1 135 Q→aB C 8 33 [.lst s,.int (1:Nat),.bool false] H Q E:=fun S q=>vC (d:=1) Z.m Z.g (fun d' h=>by cases h;exact ang_g Z.m t0 (Nat.le_of_ble_eq_true rfl)) (Nat.le_of_ble_eq_true rfl) S q
 refine aB.mono (d:=15) (Nat.le_of_ble_eq_true rfl) (t3 S1 fun w1 f1 H2 r1 J c1 n2 S2 g2=>?_)
 refine aB.mono (d:=11) (Nat.le_add_left _ _) (p2 S2 fun w2 f2 H3 r2 J c2 n3 S3 g3=>?_)
 intro l1 hl1
 have f1s:=S1.ne n2
 have f2s:=S2.ne n3
 have gg3:=g2.trans g3
 have l1n:=gg3.none S1 hl1 S3
 have l1s:=S1.ne l1n
 generalize hV1:[PV.tup [.str [116,121,112,101],.lst f1],PV.tup [.str [101,120,112,114],.lst f2]]=V1
 have gl1:Gs s H3 (H3.set l1 (.list V1)):=Gs.refl.put (.inr hl1)
 have Sl1:=S3.put (o:=.list V1) l1s
 have cl1:(H3.set l1 (.list V1)) l1=some (.list V1):=aC
 generalize H3.set l1 (.list V1)=H4 at *
 walk_at "mu"
 refine aB.mono (d:=11) (Nat.le_add_left _ _) (p2 Sl1 fun w3 f3 H5 r3 J c3 n5 S5 g5=>?_)
 refine aB.mono (d:=13) (Nat.le_of_ble_eq_true rfl) (gens_g Z.m p1 S5 fun w4 f4 H6 r4 c4 n6 S6 g6=>?_)
 have f3s:=Sl1.ne n5
 have f4s:=S5.ne n6
 intro l2 hl2
 generalize hV2:[PV.tup [.str [112,97,116,104],.lst f3],PV.tup [.str [103,101,110,101,114,105,99,115],.lst f4]]=V2
 have g16:=((gg3.trans gl1).trans g5).trans g6
 have l2n:=g16.none S1 hl2 S6
 have l2s:=S1.ne l2n
 have gl2:Gs s H6 (H6.set l2 (.list V2)):=Gs.refl.put (.inr hl2)
 have Sl2:=S6.put (o:=.list V2) l2s
 have cl2:(H6.set l2 (.list V2)) l2=some (.list V2):=aC
 have cl1':=(g5.trans g6).keep l1s cl1
 have h12:l1≠l2:=by rintro rfl;rw [cl1'] at hl2;cases hl2
 have cl1'':(H6.set l2 (.list V2)) l1=some (.list V1):=(aL h12).trans cl1'
 have R1:uI (H6.set l2 (.list V2)) s (V1++V2):=by
  have k1:=((((g3.trans gl1).trans g5).trans g6).trans gl2).keep f1s c1
  have k2:=(((gl1.trans g5).trans g6).trans gl2).keep f2s c2
  have k3:=(g6.trans gl2).keep f3s c3
  have k4:=gl2.keep f4s c4
  intro v hv
  rw [←hV1,←hV2] at hv
  simp only [List.cons_append,List.nil_append,List.mem_cons,List.not_mem_nil,or_false] at hv
  rcases hv with rfl|rfl|rfl|rfl
  ·exact I34 _ f1 w1 rfl k1 (r1.rb (Nat.le_of_ble_eq_true rfl) (Nat.le_of_ble_eq_true rfl) (Nat.le_of_ble_eq_true rfl)) f1s
  ·exact I34 _ f2 w2 rfl k2 (r2.rb (Nat.le_of_ble_eq_true rfl) (Nat.le_of_ble_eq_true rfl) (Nat.le_of_ble_eq_true rfl)) f2s
  ·exact I34 _ f3 w3 rfl k3 (r3.rb (Nat.le_of_ble_eq_true rfl) (Nat.le_of_ble_eq_true rfl) (Nat.le_of_ble_eq_true rfl)) f3s
  ·exact I34 _ f4 w4 rfl k4 ⟨r4.voc,by have:=r4.mx;exact Nat.le_succ_of_le this,fun s hs=>by have:=r4.suf s hs;exact Nat.le_trans this (Nat.le_add_left _ _),by have:=r4.len;exact Nat.le_trans this (Nat.le_add_left _ _)⟩ f4s
 have g17:=g16.trans gl2
 generalize H6.set l2 (.list V2)=H7 at *
 refine sR cl1'' cl2 (by rw [←hV1,←hV2];simp) fun l3 hl3=>?_
 have l3n:=g17.none S1 hl3 Sl2
 have l3s:=S1.ne l3n
 have gl3:Gs s H7 (H7.set l3 (.list (V1++V2))):=Gs.refl.put (.inr hl3)
 walk_at "mu"
 refine mR (H:=H7.set l3 (.list (V1++V2))) aC ?_
 clear l3n hl3 cl1'' h12 cl1' cl2 gl2 l2s
 subst hI
 refine in_loop Z (fun J J J=>rfl) l3s _ (R1.gs gl3) rfl aC (Sl2.put l3s) fun m' H8 e g8=>?_
 have g18:=(g17.trans gl3).trans g8
 refine q m' H8 (e.trans h0) fun b hb=>?_
 have e1:=g1 b hb
 rw [←e1] at hb ⊢
 exact g18 b (by rintro rfl;rw [e1] at hb;exact hb n1) hb
theorem Gd:b_law=[.fors [1,2,3] true (.list [.tuple [.str [112,97,116,104],.str [115,101,108,102,58,58,115,117,112,101,114,58,58,65],wE [[115,101,108,102],[58,58],[115,117,112,101,114],[58,58],[65]]],.tuple [.str [101,120,112,114],.str [65,60,98],wE [[65],[60],[98]]],.tuple [.str [116,121,112,101],.str [65,60,98,60,39,97,62,62],wE [[65],[60],[98],[60],[39,97],[62],[62]]]]) fxB,
  .fors [5] false (.bi .range [.bi .max [.int 1,.bi .min [.bi .len [.var 0],.int 2]]]) lwB,
  .ret (.bool true)]:=rfl
noncomputable def fl1:List (Nat×Wd):=[(0,[115,101,108,102]),(0,[58,58]),(0,[115,117,112,101,114]),(0,[58,58]),(0,[65])]
noncomputable def fl2:List (Nat×Wd):=[(0,[65]),(0,[60]),(0,[98])]
noncomputable def fl3:List (Nat×Wd):=[(0,[65]),(0,[60]),(0,[98]),(0,[60]),(0,[39,97]),(0,[62]),(0,[62])]
theorem rK (h:ws.length≤9) (h2:Mine.Internal.mx ws≤8):Lv 9 198 ws:=⟨fun s hs=>by
 have:=nN s
 have:=hs.length_le
 exact ar465 h (by assumption) this,by have:=Nat.mul_le_mul_left (4+2*9) h2;exact Nat.add_le_add_left this _⟩
theorem lw_loop (Z:AllR C) {zs:List Int}(hz:zs.length≤1000) {wb:LE→MH→QS→Prop}(hwb:∀ m H Q,wb m H Q=mSs (aB C 212) C.gv nope lwB m H Q) {Q:QS}:∀ (its:List PV) {m:LE}{H:MH},(∀ v∈its,∃ k:Nat,v=.int k∧k≤1)→m 0=.clst (zs.map .int) →
  (∀ m' H',Q .next m' H')→cQ (bC [5] false) wb (fun J=>True) its m H Q:=by
 intro x0
 induction x0 with
 | nil=>intro m H hi h0 q;exact q m H
 | cons v its ih=>
  intro m H hi h0 q
  obtain ⟨k,rfl,hk⟩:=hi v (.head _)
  rw [dE]
  dsimp only [dC,dB,dP]
  rw [hwb]
  refine lw_turn Z hz hk h0 rfl fun m' H' e g=>?_
  exact ⟨trivial,ih (fun v hv=>hi v (.tail _ hv)) e q⟩
theorem law_s (Z:AllR C) {zs:List Int}(hz:zs.length≤1000) (q:∀ H',Q (.bool true) H'):aB C 213 49 [.clst (zs.map .int)] H Q E:=by
 apply Z.law rfl
 refine Eq.symm (Gd)▸?_
 generalize e1:wE [[115,101,108,102],[58,58],[115,117,112,101,114],[58,58],[65]]=W1
 generalize e2:wE [[65],[60],[98]]=W2
 generalize e3:wE [[65],[60],[98],[60],[39,97],[62],[62]]=W3
 generalize eF:fxB=FX
 generalize eL:lwB=LW
 walk_at "mu"
 subst e1
 generalize eA:([[115,101,108,102],[58,58],[115,117,112,101,114],[58,58],[65]]:List Wd)=A
 generalize eB:([[65],[60],[98]]:List Wd)=B at *
 refine wE_e fun r1 h1=>?_
 have c1:(H.set r1 (.list (A.map .str))) r1=some (.list (A.map .str)):=aC
 generalize H.set r1 (.list (A.map .str))=H1 at *
 subst e2
 refine wE_e fun r2 h2=>?_
 have c2:(H1.set r2 (.list (B.map .str))) r2=some (.list (B.map .str)):=aC
 have G2:Gr H1 (H1.set r2 (.list (B.map .str))):=.new h2
 generalize H1.set r2 (.list (B.map .str))=H2 at *
 subst e3
 generalize eC:([[65],[60],[98],[60],[39,97],[62],[62]]:List Wd)=D
 refine wE_e fun r3 h3=>?_
 have c3:(H2.set r3 (.list (D.map .str))) r3=some (.list (D.map .str)):=aC
 have G3:Gr H2 (H2.set r3 (.list (D.map .str))):=.new h3
 generalize H2.set r3 (.list (D.map .str))=H3 at *
 intro t ht
 generalize eV:[PV.tup [.str [112,97,116,104],.str [115,101,108,102,58,58,115,117,112,101,114,58,58,65],.lst r1],PV.tup [.str [101,120,112,114],.str [65,60,98],.lst r2],PV.tup [.str [116,121,112,101],.str [65,60,98,60,39,97,62,62],.lst r3]]=V
 have c4:(H3.set t (.list V)) t=some (.list V):=aC
 have G4:Gr H3 (H3.set t (.list V)):=.new ht
 refine mR c4 ?_
 generalize H3.set t (.list V)=H4 at *
 have kp:∀ {H H':MH} {b:Nat} {o:dJ},Gr H H'→H b=some o→H' b=some o:=fun g h=>(g _ (by rw [h];exact fun x=>nomatch x)).trans h
 have c1:=kp ((G2.trans G3).trans G4) c1
 have c2:=kp (G3.trans G4) c2
 have c3:=kp G4 c3
 subst eF;subst eL
 rw [←eV]
 rw [dE]
 refine vV (kd:=[112,97,116,104]) (l:=fl1) (L:=A) Z (nP (by decide +kernel)) (by rw [←eA];rfl) (by decide +kernel) ⟨c1,by rw [←eA];decide⟩ (by rw [←eA];exact rK (Nat.le_of_ble_eq_true rfl) (Nat.le_of_ble_eq_true rfl)) (by rw [←eA];decide) (by rw [←eA];decide +kernel) rfl rfl rfl fun v1 K1 k1=>?_
 refine ⟨by rw [eV];exact kp k1 c4,?_⟩
 rw [dE]
 refine vV (kd:=[101,120,112,114]) (l:=fl2) (L:=B) Z (nP (by decide +kernel)) (by rw [←eB];rfl) (by decide +kernel) ⟨kp k1 c2,by rw [←eB];decide⟩ (by rw [←eB];exact rK (Nat.le_of_ble_eq_true rfl) (Nat.le_of_ble_eq_true rfl)) (by rw [←eB];decide) (by rw [←eB];decide +kernel) rfl rfl rfl fun v2 K2 k2=>?_
 have k2:=k1.trans k2
 refine ⟨by rw [eV];exact kp k2 c4,?_⟩
 rw [dE]
 refine vV (kd:=[116,121,112,101]) (l:=fl3) (L:=D) Z (nP (by decide +kernel)) (by rw [←eC];rfl) (by decide +kernel) ⟨kp k2 c3,by rw [←eC];decide⟩ (by rw [←eC];exact rK (Nat.le_of_ble_eq_true rfl) (Nat.le_of_ble_eq_true rfl)) (by rw [←eC];decide) (by rw [←eC];decide +kernel) rfl rfl rfl fun v3 K3 k3=>?_
 have k3:=k2.trans k3
 refine ⟨by rw [eV];exact kp k3 c4,?_⟩
 rw [forN_n]
 generalize eL:lwB=LW
 walk_at "mu"
 refine ⟨by simp;exact jR hz,?_⟩
 walk_at "mu"
 generalize hc:(if (1:Int)<if (2:Int)<((zs.map PV.int).length:Int) then 2 else ((zs.map PV.int).length:Int) then if (2:Int)<((zs.map PV.int).length:Int) then 2 else ((zs.map PV.int).length:Int) else 1)=c
 have hc2:0≤c∧c≤2:=by
  rw [←hc]
  split<;>split<;>lia
 refine ⟨hc2.1,ar467 hc2,?_⟩
 refine ⟨hc2.1,ar467 hc2,?_⟩
 subst eL
 refine lw_loop Z hz (fun J J J=>rfl) _ (fun v hv=>?_) rfl fun m' H'=>?_
 ·obtain ⟨j,hj,rfl⟩:=List.mem_map.mp hv
  exact I12 j rfl (by have:=List.mem_range.mp hj;exact ar519 hc2.2 this)
 ·exact q H'
end
set_option maxRecDepth 100000
set_option maxHeartbeats 4000000
noncomputable def jL:Scope:={ kind:=.function,names:=[(("text":Str),.local),(("at":Str),.local),(("bases":Str),.local),(("ahead":Str),.local)],isGenerator:=false,isCoroutine:=false }
noncomputable def wJ:List (Option Expr):=[some (.Constant (.str "0x") 0 ⟨193,13,193,17⟩),some (.Constant (.str "0o") 0 ⟨193,23,193,27⟩),some (.Constant (.str "0b") 0 ⟨193,32,193,36⟩)]
noncomputable def wI:List Expr:=[.Constant (.int 16) 0 ⟨193,19,193,21⟩,.Constant (.int 8) 0 ⟨193,29,193,30⟩,.Constant (.int 2) 0 ⟨193,38,193,39⟩]
noncomputable def baSlc:Expr:=.Subscript (.Name "text" ⟨194,12,194,16⟩) (.Slice (some (.Name "at" ⟨194,17,194,19⟩)) (some (.BinOp (.Name "at" ⟨194,20,194,22⟩) .Add (.Constant (.int 2) 0 ⟨194,25,194,26⟩) ⟨194,20,194,26⟩)) none ⟨194,17,194,26⟩) ⟨194,12,194,27⟩
noncomputable def baTen:Expr:=.Tuple [.Constant (.int 10) 0 ⟨195,58,195,60⟩,.Name "at" ⟨195,62,195,64⟩] 0 ⟨195,57,195,65⟩
noncomputable def baHit:Expr:=.Tuple [.Subscript (.Name "bases" ⟨195,12,195,17⟩) (.Name "ahead" ⟨195,18,195,23⟩) ⟨195,12,195,24⟩,.BinOp (.Name "at" ⟨195,26,195,28⟩) .Add (.Constant (.int 2) 0 ⟨195,31,195,32⟩) ⟨195,26,195,32⟩] 0 ⟨195,11,195,33⟩
noncomputable def wL:List Stmt:=[.Assign [.Name "bases" ⟨193,4,193,9⟩] (.Dict wJ wI ⟨193,12,193,40⟩) ⟨193,4,193,40⟩,
 .Assign [.Name "ahead" ⟨194,4,194,9⟩] baSlc ⟨194,4,194,27⟩,
 .Return (some (.IfExp (.Compare (.Name "ahead" ⟨195,37,195,42⟩) [.In] [.Name "bases" ⟨195,46,195,51⟩] ⟨195,37,195,51⟩) baHit baTen ⟨195,11,195,65⟩)) ⟨195,4,195,65⟩]
noncomputable def sH:List Str:=["text","at","bases","ahead"]
section
variable {C:Cx}{outer fs:List Env}{env:Env}{m:LE}{H H' H₀:MH}{s s' s₀:Shared}{A:Around}{E:MH→Prop}{d:Nat}{Q:QV}
noncomputable def Tab (C:Cx) (D:Addr) (h:Heap):Prop:=∃ kvs,h.DictOf (strKind C.prog C.w) D kvs∧∀ k:Str,k.cps.toList.head?≠some 48→valueAt kvs k=none
theorem Tab.move {D:Addr}{h h':Heap}(T:Tab C D h) (k:∀ o,h.get? D=some o→h'.get? D=some o):Tab C D h':=
 X12 T fun kvs a b=>⟨kvs,a.at k,b⟩
theorem ba_dict (I:Inv C fs H s):wpAny (model C.prog C.w) A (eval (.Dict wJ wI ⟨193,12,193,40⟩) env) (OkG C fs H s (fun v H' s'=>∃ D,v=.ref D∧H'=H∧Tab C D s'.heap∧s.heap.get? D=none∧∀ b o,s.heap.get? b=some o→s'.heap.get? b=some o∧b<D)) (OkX C fs H s E) s:=by
 refine wpAny_Dict_walk (knd:=strKind C.prog C.w) rfl rfl (by decide) (by decide) ?_
 refine pairTrees_cons_walk (Calls.Constant_str (wpAny_Constant_int ?_))
 refine pairTrees_cons_walk (Calls.Constant_str (wpAny_Constant_int ?_))
 refine pairTrees_cons_walk (Calls.Constant_str (wpAny_Constant_int ?_))
 refine pairTrees_nil_walk ?_
 refine ⟨[("0x",_),("0o",_),("0b",_)],⟨by kernel_rfl,rfl,by kernel_rfl,rfl,by kernel_rfl,rfl,trivial⟩,Heap.DictOf.new _,fun h' hD hs=>?_⟩
 have kp:∀ b o,s.heap.get? b=some o→h'.get? b=some o:=fun b o e=>(hs.2 b (Nat.ne_of_lt (Heap.lt_size e))).trans (Heap.get?_push_of_some _ e)
 refine ⟨H,aK kp,aN I kp,_,rfl,rfl,⟨_,hD,fun k hk=>?_⟩,dU _,fun b o e=>⟨kp b o e,Heap.lt_size e⟩⟩
 have em:∀ a b c:Value,merged ([]:List (Str×Value)) [(("0x":Str),a),(("0o":Str),b),(("0b":Str),c)]=[(("0x":Str),a),(("0o":Str),b),(("0b":Str),c)]:=fun a b c=>by kernel_rfl
 rw [em]
 have n1:¬(("0x":Str)=k):=fun h=>hk (by rw [←h];kernel_rfl)
 have n2:¬(("0o":Str)=k):=fun h=>hk (by rw [←h];kernel_rfl)
 have n3:¬(("0b":Str)=k):=fun h=>hk (by rw [←h];kernel_rfl)
 simp only [valueAt,List.find?_cons,decide_eq_false n1,decide_eq_false n2,decide_eq_false n3,List.find?_nil,Option.map_none]
theorem Gq (hnd:sH.Nodup) (B:Bt C A outer env d s₀) (eS:env.scope=jL) (S:aM (env::outer) H s₀ H s) {l:List Nat}{i:Nat}(hl:l.length≤1000000) (hil:i≤l.length) (hi:(l.drop i).take 1≠[48])
  (h0:m 0=.str l) (h1:m 1=.int i) (T:St C (env::outer) env sH m H s) {Q:QS} (hq:∀ m',Q (.ret (.tup [.int 10,.int i])) m' H) :
  wpAny (model C.prog C.w) A (execs wL env) (SG C (env::outer) env sH H s₀ Q) (FX C (env::outer) H s₀ E) s:=by
 have kk:∀ x k,jL.names.lookup x=some k→env.kindOf x=some k:=fun x k e=>by unfold Env.kindOf;rw [eS];exact e
 unfold wL
 refine wpAny_execs_cons ?_
 have ep:swapsWith (.Dict wJ wI ⟨193,12,193,40⟩) (some (.Name "bases" ⟨193,4,193,9⟩)) 193 env=pure false:=dQ rfl _ _ _
 with_reducible refine wpAny_Assign_Name (x:="bases") (pos':=⟨193,4,193,9⟩) (value:=.Dict wJ wI ⟨193,12,193,40⟩) (pos:=⟨193,4,193,40⟩) ?_ ?_
 rotate_left
 ·exact ep
 clear ep
 have hd:=ba_dict (A:=A) (env:=env) (E:=E) T.inv
 with_reducible refine T.run B.base S hd ?_
 intro v H1 s1 S1 T1 R1 ⟨D,e1,e2,tb,fr,old⟩
 subst e1;subst e2
 have nL:D≠env.locals:=fun q=>by
  obtain ⟨mm,hn,_⟩:=T.loc
  obtain ⟨o,es,ep,ho,_⟩:=hn
  rw [←q,fr] at ho;cases ho
 have nF:D∉bH (env::outer):=fun q=>by
  obtain ⟨_,o,e,_⟩:=T.inv.frames.mem q
  rw [fr] at e;cases e
 have hD1:H1 D=none:=T.inv.none_fresh fr
 have d4:3<D:=by
  obtain ⟨o,es,ep,ho,_⟩:=B.bd.O.g.keeps T.inv.stays
  exact (old _ _ ho).2
 have hi2:sH[2]?=some ("bases":Str):=rfl
 have hl2:env.kindOf ("bases":Str)=some .local:=kk _ _ rfl
 have hp2:VR C s1.heap (.obj D) (.ref D):=rfl
 with_reducible refine gP (p:=.obj D) B.bd.kind B.base B.lnew hnd S1 T1 hi2 hl2 hp2 ?_
 intro s2 S2 T2 J J J sb
 have tb2:Tab C D s2.heap:=tb.move fun o e=>(sb.2 D nL).trans e
 try dsimp only
 have ag:agE jL.names sH (.slc (.var 0) (.var 1) (.bin .add (.var 1) (.int 2))) baSlc=true:=by decide +kernel
 refine wpAny_execs_cons ?_
 have ep2:swapsWith baSlc (some (.Name "ahead" ⟨194,4,194,9⟩)) 194 env=pure false:=dQ rfl _ _ _
 with_reducible refine wpAny_Assign_Name ?_ ep2
 have he:=sE (Fn:=aB C d) (fun J J J J J h=>h) hnd (.slc (.var 0) (.var 1) (.bin .add (.var 1) (.int 2))) (E:=E) (Q:=fun p H'=>p=.str (bM l i (i+2))∧H'=H1) B.bd T2 (by rw [eS];exact ag) (by
  walk_at "mu"
  simp [LE.set,h0,h1]
  walk_at "mu"
  have e1:kR (.int (i:Int))=some i:=by simp [kR]
  have e2:lR l.length (.int ((i:Int)+2))=some (i+2):=by
   simp only [lR]
   rw [if_pos (by exact ar0)]
   congr
  simp only [dY,pR,e1,e2]
  repeat (simp only [e1,e2,nuO,nuL,nuI,nuS,nuT,nuB,nuN,nuF,aF,aG];walk_at "mu")
  exact ⟨by exact ar1 hl,by exact ar2 hl hil,by exact ar487 hl hil,rfl,trivial⟩)
 unfold WE at he
 with_reducible refine T2.run B.base S2 he ?_
 intro v H2 s3 S3 T3 R3 ⟨p,hp,e1,e2⟩
 subst e1;subst e2
 have tb3:Tab C D s3.heap:=tb2.move fun o e=>by
  rcases (R3.keep D o e hD1).2 with e' | ⟨m,_⟩
  ·exact e'
  ·exact absurd m nF
 have hi3:sH[3]?=some ("ahead":Str):=rfl
 have hl3:env.kindOf ("ahead":Str)=some .local:=kk _ _ rfl
 with_reducible refine gP B.bd.kind B.base B.lnew hnd S3 T3 hi3 hl3 hp ?_
 intro s4 S4 T4 J J J sb4
 have tb4:Tab C D s4.heap:=tb3.move fun o e=>(sb4.2 D nL).trans e
 clear T3 T2 T1 S3 S2 S1 R3 he hd hp ep2 tb tb2 tb3
 try dsimp only
 refine wpAny_execs_cons ?_
 with_reducible refine wpAny_Return_some (wpAny_IfExp (wpAny_isTrue_Compare1 (wpAny_Name ?_ rfl) rfl))
 have n1:=nC (A:=A) (X:=OkX C (env::outer) H2 s4 E) (Q:=fun p H'=>p=.str (bM l i (i+2))∧H'=H2) B.bd T4 hi3 (by simp [LE.set]) (by decide +kernel) (by simp [LE.set])
 with_reducible refine T4.run B.base S4 n1 ?_
 intro v5 H5 s5 S5 T5 R5 ⟨p5,hp5,e5,e6⟩
 subst e5;subst e6
 obtain ⟨t5,rfl⟩:=hp5
 have n2:=nC (A:=A) (X:=OkX C (env::outer) H5 s5 E) (Q:=fun p H'=>p=.obj D∧H'=H5) B.bd T5 hi2 (by simp [LE.set]) (by decide +kernel) (by simp [LE.set])
 with_reducible refine wpAny_Name ?_ rfl
 with_reducible refine T5.run B.base S5 n2 ?_
 intro v6 H6 s6 S6 T6 R6 ⟨p6,hp6,e7,e8⟩
 subst e7;subst e8
 obtain rfl:=hp6
 have mv:∀ {s s':Shared},aM (env::outer) H6 s H6 s'→Tab C D s.heap→Tab C D s'.heap:=fun R tb=>tb.move fun o e=>by
  rcases (R.keep D o e hD1).2 with e' | ⟨m,_⟩
  ·exact e'
  ·exact absurd m nF
 obtain ⟨kvs,hdo,hno⟩:=mv R6 (mv R5 tb4)
 have hkey:(strKind C.prog C.w).is (⟨(bM l i (i+2)).toArray⟩:Str) (.str ⟨(bM l i (i+2)).toArray⟩ t5)=true:=strKind_is _ _ _ _
 have hsys:(D==sysModules)=false:=by
  have:D≠1:=Nat.ne_of_gt (Nat.lt_of_lt_of_le (by decide) (Nat.le_of_lt d4))
  exact beq_eq_false_iff_ne.mpr this
 refine wpAny_in_of hkey hsys hdo.mapOf ?_
 have hnone:valueAt kvs (⟨(bM l i (i+2)).toArray⟩:Str)=none:=hno _ (by
  intro q
  apply hi
  have q:(bM l i (i+2)).head?=some 48:=q
  unfold bM at q
  rw [List.drop_take,show i+2 - i=2 by exact ar3] at q
  cases e:l.drop i with
  | nil=>rw [e] at q;simp at q
  | cons x r=>rw [e] at q;simp at q;simp [q])
 rw [hnone]
 refine fS ?_
 rw [if_neg (by simp)]
 have S7:aM (env::outer) H6 s₀ H6 { s6 with toks:=s6.toks+1 }:=S6.trans (aK (h':=s6.heap) fun J J e=>e)
 have T7:=T6.step (aK (h':=s6.heap) (tk:=s6.toks+1) fun J J e=>e) (aN (h':=s6.heap) (tk:=s6.toks+1) T6.inv fun J J e=>e)
 have ag2:agE jL.names sH (.tuple [.int 10,.var 1]) baTen=true:=by decide +kernel
 have h9:=sE (Fn:=aB C d) (fun J J J J J h=>h) hnd (.tuple [.int 10,.var 1]) (E:=E) (Q:=fun p H'=>p=.tup [.int 10,.int i]∧H'=H6) B.bd T7 (by rw [eS];exact ag2) (by
  walk_at "mu"
  simp [LE.set,h1,nu])
 unfold WE at h9
 with_reducible refine T7.run B.base S7 h9 ?_
 intro v9 H9 s9 S9 T9 R9 ⟨p9,hp9,e9,e10⟩
 subst e9;subst e10
 exact ⟨_,_,.ret _,S9,T9.inv,.inr T9,.ret hp9,hq _⟩
end
end Mine.Internal
end
noncomputable section
set_option maxRecDepth 100000
namespace Mine.Internal
noncomputable def fnTab:List Nat:=[235,243,250,258,265,272,279,67,74,81,88,94,101,108,115,122,129,136,141,148,158,165,172,179,186,193,200,207,214,221,295,302,309,316,321,328,333,338,345,352,359,366,373,378,385,392,397,404,411,418]
noncomputable def iV (f:Nat):Nat:=fnTab.getD f 0
noncomputable def rZ (K:Frag) (a:Nat):FuncData:=match K.lookup a with
 | some ⟨_,_,.func fd,_⟩=>fd
 | _=>default
noncomputable def nS (K:Frag) (a:Nat) (ns:List Str) (b:List MS) (n:Nat):Bool:=match K.lookup a with
 | some ⟨_,_,.func fd,_⟩=>(match fd.body with
  | .stmts body=>fd.globals==mainGlobals&&fd.closure.isEmpty&&fd.builtins==builtinsNs&&codeIn K fd.code fd.qualname&&decide ns.Nodup&&tE fd.scope ns b body&&mV fd.scope (ns.take n)&&decide (n≤ns.length)
  | _=>false)
 | _=>false
noncomputable def wD (K:Frag) (a:Nat) (xs:List Str) (n:Nat) (defs:List Value):Prop:=∀ S (args:List Value),args.length=n→peek K S (bindArgs (rZ K a) ⟨args,[]⟩)=some (xs.zip (args++defs))
theorem fd_eta (fd:FuncData) {body:List Stmt}(h1:fd.body=.stmts body) (h2:fd.globals=mainGlobals) (h3:fd.closure=[]) (h4:fd.builtins=builtinsNs) :
  fd=fnOf fd.name fd.qualname fd.params body fd.scope fd.defaults fd.kwdefaults fd.doc fd.pyModule fd.annotations fd.code fd.closureTuple:=by
 cases fd;simp only at h1 h2 h3 h4;subst h1 h2 h3 h4;rfl
set_option tactic.hygienic true in
theorem runs_g {C:Cx}(O:fN C) {f n k d:Nat}{ns:List Str}{b:List MS}{vs defs:List PV}{dv:List Value}{H:MH}{Q:QV}{E:MH→Prop}(hd:∀ h,VRs C h defs dv) (hlen:vs.length+defs.length=n) (hk:vs.length=k)
  (hc:nS C.K (C.fn f) ns b n=true) (hb:wD C.K (C.fn f) (ns.take n) k dv) (hm:mSs (aB C d) C.gv E b (cE (vs++defs)) H (iR Q)):aB C (d+1) f vs H Q E:=by
 unfold nS at hc
 split at hc
 ·rename_i oc od fd osl ho
  split at hc
  ·rename_i body hbody
   simp only [Bool.and_eq_true,beq_iff_eq,decide_eq_true_eq,List.isEmpty_iff] at hc
   obtain ⟨⟨⟨⟨⟨⟨⟨g1,g2⟩,g3⟩,g4⟩,g5⟩,g6⟩,g7⟩,g8⟩:=hc
   have e:=fd_eta fd hbody g1 g2 g3
   have hfd:rZ C.K (C.fn f)=fd:=by unfold rZ;rw [ho]
   have ho':=ho.trans (congrArg (fun x:FuncData=>some (Obj.mk oc od (.func x) osl)) e)
   refine Jt (Fn:=aB C d) (defs:=defs) O (fun _ _ _ _ _ h=>h) ho' g4 (by unfold keepIn;dsimp only;rw [ho]) g5 g6 (by rw [hlen];exact g7) (by rw [hlen];exact g8) (fun s args X ha=>⟨dv,hd _,?_⟩) hm
   rw [←e]
   refine kp_binds X fun S=>?_
   have:=hb S args (ha.trans hk)
   rw [hfd] at this
   rw [hlen]
   exact this
  ·cases hc
 ·cases hc
theorem mX {C:Cx}(O:fN C) {f n:Nat}{ns:List Str}{b:List MS}(hc:nS C.K (C.fn f) ns b n=true) (hb:wD C.K (C.fn f) (ns.take n) n []):aT C f n b:=
 fun hl hm=>runs_g O (defs:=[]) (fun J=>rfl) hl hl hc hb (by rw [List.append_nil];exact hm)
theorem qU {C:Cx}(O:fN C) {f n:Nat}{ns:List Str}{b:List MS}{p:PV}{v:Value}(hp:∀ h,VR C h p v) (hc:nS C.K (C.fn f) ns b n=true) (hb:wD C.K (C.fn f) (ns.take n) (n - 1) [v]):oB C f n b p:=
 fun hl hm=>runs_g O (defs:=[p]) (fun J=>⟨v,[],rfl,hp _,rfl⟩) hl (by rw [←hl];rfl) hc hb hm
noncomputable def dflt1:Value:=.int 0 598
noncomputable def dflt3:Value:=.int 0 615
noncomputable def dflt11:Value:=.bool false
noncomputable def tab1:List (Nat×List Str×List MS):=[(2,Ig,nW),(5,Ih,sI),(6,pW,gC),(7,yE,pM),(8,nI,eR),(9,pS,aH),(10,nJ,eT),(14,oQ,fJ),(15,yG,pN),(16,pT,gA),(17,vJ,jO),(18,n_plain,nV),(23,rE,kW),(28,yC,kS),(29,vI,jN),(37,mF,dR),(46,lP,dF),(49,n_law,b_law)]
noncomputable def tab2:List (Nat×List Str×List MS):=[(0,Ii,sJ),(1,yI,eU),(4,Bn,mO),(11,nG,dD),(13,oP,iY),(19,rA,bN),(21,vH,jM),(22,yH,kX),(25,Be,mI),(26,yF,kT),(27,yD,iC),(30,Bl,jQ),(31,Bj,cK),(32,Fw,fL),(34,oU,fM),(36,rC,gV),(38,Bm,mN),(39,Bi,mK),(40,Bf,mJ),(42,pU,dO),(44,lQ,dG),(45,oR,fK),(47,Fy,oZ),(48,Bg,jP)]
noncomputable def tab3:List (Nat×List Str×List MS):=[(3,tR,gL),(12,rB,kU),(20,Fv,oY),(33,rD,gW),(43,pV,gB)]
noncomputable def tab4:List (Nat×List Str×List MS):=[(41,Bk,mM)]
noncomputable def tab5:List (Nat×List Str×List MS):=[(35,vK,gJ)]
noncomputable def gvOf:Nat→PV
 | 0=>.tup (dW.map .str)|1=>.tup (kindW.map .str)|2=>.tup (keyW.map .str)|3=>.tup (hJ.map .str)
 | 4=>.str figS|5=>.str begS|6=>.str nsgS|7=>.str pX|8=>.int 40
 | 9=>.clst (lX.map .str)|10=>.clst (nK.map .str)|_=>.none
noncomputable def gT (K:Frag) (prog:Program) (w:World) (h:Heap) (mg mb:Str→Option Value) (os:OsState):Cx:=
 { prog,w,K,base:=h,fn:=iV,gv:=gvOf,mg,mb,W:=282,G:=57,os }
noncomputable def strV (v:Value):Option (List Nat):=match v with
 | .str s _=>some s.cps.toList
 | _=>none
noncomputable def strsOk (ls:List (List Nat)) (vs:List Value):Bool:=vs.map strV==ls.map some
theorem strV_vr {C:Cx}{h:Heap}{v:Value}{l:List Nat}(e:strV v=some l):VR C h (.str l) v:=by
 cases v with
 | str s t=>cases e;exact ⟨t,rfl⟩
 | _=>nomatch e
theorem qP {C:Cx}{h:Heap}:∀ {ls:List (List Nat)}{vs:List Value},strsOk ls vs=true→VRs C h (ls.map .str) vs:=by
 intro ls
 induction ls with
 | nil=>
  intro vs e
  cases vs with
  | nil=>rfl
  | cons v vs=>nomatch (beq_iff_eq.mp e:(v::vs).map strV=[])
 | cons l ls ih=>
  intro vs e
  cases vs with
  | nil=>nomatch (beq_iff_eq.mp e:[]=some l::ls.map some)
  | cons v vs=>
   have e:strV v::vs.map strV=some l::ls.map some:=beq_iff_eq.mp e
   exact ⟨v,vs,rfl,strV_vr (List.cons.inj e).1,ih (beq_iff_eq.mpr (List.cons.inj e).2)⟩
noncomputable def iI (K:Frag) (x:Str) (a:Nat) (T:String) (ls:List (List Nat)):Bool:=nsIn K mainGlobals x==some (some (.ref a))&&match K.lookup a with
 | some ⟨c,_,.seq items _,_⟩=>c==.type T&&strsOk ls items.toList
 | _=>false
noncomputable def oH (K:Frag) (x:Str) (l:List Nat):Bool:=match nsIn K mainGlobals x with
 | some (some (.str s _))=>s==(⟨l.toArray⟩:Str)
 | _=>false
section
variable {C:Cx}{x:Str}{a:Nat}{ls:List (List Nat)}{l:List Nat}
set_option tactic.hygienic true in
theorem uS (X:C.K.In C.base) (g:C.base.Ns mainGlobals C.mg) (e:iI C.K x a "tuple" ls=true):∃ v,C.mg x=some v∧VR C C.base (.tup (ls.map .str)) v:=by
 simp only [iI,Bool.and_eq_true,beq_iff_eq] at e
 obtain ⟨e1,e2⟩:=e
 split at e2
 ·rename_i c d items n sl ho
  simp only [Bool.and_eq_true,beq_iff_eq] at e2
  exact ⟨_,mg_of X g e1,a,items,rfl,⟨_,X _ _ ho,e2.1,n,rfl⟩,qP e2.2⟩
 ·cases e2
set_option tactic.hygienic true in
theorem lst_vr (X:C.K.In C.base) (g:C.base.Ns mainGlobals C.mg) (e:iI C.K x a "list" ls=true):∃ v,C.mg x=some v∧VR C C.base (.clst (ls.map .str)) v:=by
 simp only [iI,Bool.and_eq_true,beq_iff_eq] at e
 obtain ⟨e1,e2⟩:=e
 split at e2
 ·rename_i c d items n sl ho
  simp only [Bool.and_eq_true,beq_iff_eq] at e2
  exact ⟨_,mg_of X g e1,a,items,rfl,⟨_,X _ _ ho,e2.1,n,rfl⟩,qP e2.2⟩
 ·cases e2
set_option tactic.hygienic true in
theorem uT (X:C.K.In C.base) (g:C.base.Ns mainGlobals C.mg) (e:oH C.K x l=true):∃ v,C.mg x=some v∧VR C C.base (.str l) v:=by
 unfold oH at e
 split at e
 ·rename_i s t h
  rw [beq_iff_eq] at e
  exact ⟨_,mg_of X g h,t,by rw [e]⟩
 ·cases e
end
noncomputable def xParams:Arguments:={ posonlyargs:=[],args:=[{ arg:="self",annotation:=none,pos:=⟨4,17,4,21⟩ },{ arg:="message",annotation:=none,pos:=⟨4,23,4,30⟩ },{ arg:="spot",annotation:=none,pos:=⟨4,32,4,36⟩ }],vararg:=none,kwonlyargs:=[],kw_defaults:=[],kwarg:=none,defaults:=[.Constant (.int 0) 0 ⟨4,37,4,38⟩] }
noncomputable def xFn:FuncData:=fnOf "__init__" "LendError.__init__" xParams jU eD (.ref 22) .none .none (.str "lendcore.errors" 187) none (.ref 28) .none
noncomputable def zH:Arguments:={ posonlyargs:=[],args:=[{ arg:="text",annotation:=none,pos:=⟨192,12,192,16⟩ },{ arg:="at",annotation:=none,pos:=⟨192,18,192,20⟩ }],vararg:=none,kwonlyargs:=[],kw_defaults:=[],kwarg:=none,defaults:=[] }
noncomputable def baFn:FuncData:=fnOf "base_at" "base_at" zH wL jL .none .none .none (.str "lendcore.words" 377) none (.ref 185) .none
structure Fx (K:Frag):Prop where
 c1:(tab1.all fun x=>nS K (iV x.1) x.2.1 x.2.2 1)=true
 c2:(tab2.all fun x=>nS K (iV x.1) x.2.1 x.2.2 2)=true
 c3:(tab3.all fun x=>nS K (iV x.1) x.2.1 x.2.2 3)=true
 c4:(tab4.all fun x=>nS K (iV x.1) x.2.1 x.2.2 4)=true
 c5:(tab5.all fun x=>nS K (iV x.1) x.2.1 x.2.2 5)=true
 b1:∀ S a,(tab1.map fun x=>peek K S (bindArgs (rZ K (iV x.1)) ⟨[a],[]⟩))=tab1.map fun x=>some ((x.2.1.take 1).zip [a])
 b2:∀ S a b,(tab2.map fun x=>peek K S (bindArgs (rZ K (iV x.1)) ⟨[a,b],[]⟩))=tab2.map fun x=>some ((x.2.1.take 2).zip [a,b])
 b3:∀ S a b c,(tab3.map fun x=>peek K S (bindArgs (rZ K (iV x.1)) ⟨[a,b,c],[]⟩))=tab3.map fun x=>some ((x.2.1.take 3).zip [a,b,c])
 b4:∀ S a b c d,(tab4.map fun x=>peek K S (bindArgs (rZ K (iV x.1)) ⟨[a,b,c,d],[]⟩))=tab4.map fun x=>some ((x.2.1.take 4).zip [a,b,c,d])
 b5:∀ S a b c d e,(tab5.map fun x=>peek K S (bindArgs (rZ K (iV x.1)) ⟨[a,b,c,d,e],[]⟩))=tab5.map fun x=>some ((x.2.1.take 5).zip [a,b,c,d,e])
 d1:∀ S a,peek K S (bindArgs (rZ K (iV 1)) ⟨[a],[]⟩)=some ((yI.take 2).zip [a,dflt1])
 d3:∀ S a b,peek K S (bindArgs (rZ K (iV 3)) ⟨[a,b],[]⟩)=some ((tR.take 3).zip [a,b,dflt3])
 d11:∀ S a,peek K S (bindArgs (rZ K (iV 11)) ⟨[a],[]⟩)=some ((nG.take 2).zip [a,dflt11])
 g_fn:((List.range 50).all fun f=>match yO f with|some x=>nsIn K mainGlobals x==some (some (.ref (iV f)))|none=>true)=true
 g_ns:(["len","min","max","range","tuple","list","int","isinstance","str","bool","Exception"]:List Str).all (fun x=>nsIn K mainGlobals x==some none)=true
 g_w:nsIn K mainGlobals "Words"=some (some (.ref 282))
 g_x:nsIn K mainGlobals "GrammarFault"=some (some (.ref 57))
 v0:iI K "PATH_WORDS" 60 "tuple" dW=true
 v1:iI K "INT_KINDS" 149 "tuple" kindW=true
 v2:iI K "KEYWORDS" 150 "tuple" keyW=true
 v3:iI K "SIGNS" 151 "tuple" hJ=true
 v4:oH K "FIGURES" figS=true
 v5:oH K "NAME_BEGINS" begS=true
 v6:oH K "NAME_SIGNS" nsgS=true
 v7:oH K "BLANKS" pX=true
 v8:nsIn K mainGlobals "MOST_FIGURES"=some (some (.int 40 481))
 v9:iI K "_law_begins" 287 "list" lX=true
 v10:iI K "_law_names" 288 "list" nK=true
 w_get:plainGet K 282 ""=true
 w_dict:hasDictIn K 282=true
 w_set:findIn K (.ref 282) "__setattr__"=some (some (.builtin "object.__setattr__"))
 w_over:plainOver K 282=true
 w_at0:findIn K (.ref 282) "rows"=some none
 w_at1:findIn K (.ref 282) "at"=some none
 w_meth:((List.range 7).all fun i=>match rI i with|some x=>findIn K (.ref 282) x==some (some (.ref (iV i)))&&isFn K (.ref (iV i))|none=>true)=true
 w_K:keepIn K (.ref 282)=true
 g_K:keepIn K (.ref 57)=true
 w_mk:makesIn K 282=true
 g_ty:typeIn K (.ref 57)=some (.type "type")
 g_base:subIn K (.ref 57) (.type "BaseException")=some true
 g_exm:exmOne K (.ref 57) (.ref 57)=some true
 g_exc:tX K 57 32=true
 g_init:findIn K (.ref 57) "__init__"=some (some (.ref 29))
 g_ity:typeIn K (.ref 29)=some (.type "function")
 g_ifn:K.lookup 29=some ⟨.type "function",none,.func xFn,#[]⟩
 g_icd:codeIn K (.ref 28) "LendError.__init__"=true
 g_ibd:∀ (S:Setting) (a b c:Value),peek K S (bindArgs xFn ⟨[a,b,c],[]⟩)=some [(("self":Str),a),(("message":Str),b),(("spot":Str),c)]
 g_set:findIn K (.ref 57) "__setattr__"=some (some (.builtin "object.__setattr__"))
 g_tm:takerIn K 57 "message"=some none
 g_ts:takerIn K 57 "spot"=some none
 ba_fn:K.lookup (iV 24)=some ⟨.type "function",none,.func baFn,#[]⟩
 ba_cd:codeIn K (.ref 185) "base_at"=true
 ba_bd:∀ (S:Setting) (a b:Value),peek K S (bindArgs baFn ⟨[a,b],[]⟩)=some [(("text":Str),a),(("at":Str),b)]
 ba_keep:keepIn K (.ref (iV 24))=true
theorem ba_nd:sH.Nodup:=by decide +kernel
section
variable {K:Frag}{p:Program}{w:World}{h:Heap}{mg mb:Str→Option Value}{os:OsState}
theorem kB (O:fN (gT K p w h mg mb os)) (F:Fx K) (i:Nat) {f:Nat}{ns:List Str}{b:List MS}(e:tab1[i]?=some (f,ns,b)):aT (gT K p w h mg mb os) f 1 b:=
 have m:=List.mem_of_getElem? e
 mX O (List.all_eq_true.mp F.c1 _ m) fun S args ha=>by
  obtain ⟨a,r0,rfl⟩:=List.exists_cons_of_length_eq_add_one ha;replace ha:=Nat.succ.inj ha
  cases List.eq_nil_of_length_eq_zero ha;exact (List.map_inj_left.mp (F.b1 S a) _ m)
theorem gE (O:fN (gT K p w h mg mb os)) (F:Fx K) (i:Nat) {f:Nat}{ns:List Str}{b:List MS}(e:tab2[i]?=some (f,ns,b)):aT (gT K p w h mg mb os) f 2 b:=
 have m:=List.mem_of_getElem? e
 mX O (List.all_eq_true.mp F.c2 _ m) fun S args ha=>by
  obtain ⟨a,r0,rfl⟩:=List.exists_cons_of_length_eq_add_one ha;replace ha:=Nat.succ.inj ha
  obtain ⟨b,r1,rfl⟩:=List.exists_cons_of_length_eq_add_one ha;replace ha:=Nat.succ.inj ha
  cases List.eq_nil_of_length_eq_zero ha;exact (List.map_inj_left.mp (F.b2 S a b) _ m)
theorem run3 (O:fN (gT K p w h mg mb os)) (F:Fx K) (i:Nat) {f:Nat}{ns:List Str}{b:List MS}(e:tab3[i]?=some (f,ns,b)):aT (gT K p w h mg mb os) f 3 b:=
 have m:=List.mem_of_getElem? e
 mX O (List.all_eq_true.mp F.c3 _ m) fun S args ha=>by
  obtain ⟨a,r0,rfl⟩:=List.exists_cons_of_length_eq_add_one ha;replace ha:=Nat.succ.inj ha
  obtain ⟨b,r1,rfl⟩:=List.exists_cons_of_length_eq_add_one ha;replace ha:=Nat.succ.inj ha
  obtain ⟨c,r2,rfl⟩:=List.exists_cons_of_length_eq_add_one ha;replace ha:=Nat.succ.inj ha
  cases List.eq_nil_of_length_eq_zero ha;exact (List.map_inj_left.mp (F.b3 S a b c) _ m)
theorem run4 (O:fN (gT K p w h mg mb os)) (F:Fx K) (i:Nat) {f:Nat}{ns:List Str}{b:List MS}(e:tab4[i]?=some (f,ns,b)):aT (gT K p w h mg mb os) f 4 b:=
 have m:=List.mem_of_getElem? e
 mX O (List.all_eq_true.mp F.c4 _ m) fun S args ha=>by
  obtain ⟨a,r0,rfl⟩:=List.exists_cons_of_length_eq_add_one ha;replace ha:=Nat.succ.inj ha
  obtain ⟨b,r1,rfl⟩:=List.exists_cons_of_length_eq_add_one ha;replace ha:=Nat.succ.inj ha
  obtain ⟨c,r2,rfl⟩:=List.exists_cons_of_length_eq_add_one ha;replace ha:=Nat.succ.inj ha
  obtain ⟨d,r3,rfl⟩:=List.exists_cons_of_length_eq_add_one ha;replace ha:=Nat.succ.inj ha
  cases List.eq_nil_of_length_eq_zero ha;exact (List.map_inj_left.mp (F.b4 S a b c d) _ m)
theorem run5 (O:fN (gT K p w h mg mb os)) (F:Fx K) (i:Nat) {f:Nat}{ns:List Str}{b:List MS}(e:tab5[i]?=some (f,ns,b)):aT (gT K p w h mg mb os) f 5 b:=
 have m:=List.mem_of_getElem? e
 mX O (List.all_eq_true.mp F.c5 _ m) fun S args ha=>by
  obtain ⟨a,r0,rfl⟩:=List.exists_cons_of_length_eq_add_one ha;replace ha:=Nat.succ.inj ha
  obtain ⟨b,r1,rfl⟩:=List.exists_cons_of_length_eq_add_one ha;replace ha:=Nat.succ.inj ha
  obtain ⟨c,r2,rfl⟩:=List.exists_cons_of_length_eq_add_one ha;replace ha:=Nat.succ.inj ha
  obtain ⟨d,r3,rfl⟩:=List.exists_cons_of_length_eq_add_one ha;replace ha:=Nat.succ.inj ha
  obtain ⟨e,r4,rfl⟩:=List.exists_cons_of_length_eq_add_one ha;replace ha:=Nat.succ.inj ha
  cases List.eq_nil_of_length_eq_zero ha;exact (List.map_inj_left.mp (F.b5 S a b c d e) _ m)
theorem cx_gk (F:Fx K) (X:K.In h) (g:h.Ns mainGlobals mg) (bt:∀ x:Str,x≠"__name__"→mb x=bootBuiltins x):GOk K 57 mg mb where
 exc:=⟨32,F.g_exc⟩
 init:=⟨29,F.g_init,F.g_ity,_,_,_,_,_,_,_,_,_,_,_,F.g_ifn,F.g_icd,fun s a b c X=>kp_binds X fun S=>F.g_ibd S a b c⟩
 sett:=F.g_set
 tkM:=F.g_tm
 tkS:=F.g_ts
 nm:=⟨ns_none_of X g (by have:=F.g_ns;rw [List.all_eq_true] at this;exact beq_iff_eq.mp (this _ (List.mem_of_getElem? (i:=10) rfl))),(bt _ (by decide)).trans PyProof.Rows.Boot.«Exception»⟩
theorem cx_ok (F:Fx K) (X:K.In h) (g:h.Ns mainGlobals mg) (b:h.Ns builtinsNs mb) (nl:h.NoLimit) (bt:∀ x:Str,x≠"__name__"→mb x=bootBuiltins x):fN (gT K p w h mg mb os) where
 g:=g
 b:=b
 nolimit:=nl
 KIn:=X
 fnG:=fun f x hx=>by
  have hf:f<50:=by
   unfold yO at hx
   split at hx
   ·have:=(List.getElem?_eq_some_iff.mp hx).1
    have e:gnames.length=43:=by decide
    exact ar490 this e
   ·cases hx
  have:=F.g_fn
  rw [List.all_eq_true] at this
  have:=this f (List.mem_range.mpr hf)
  rw [hx] at this
  exact mg_of X g (beq_iff_eq.mp this)
 gvG:=fun c x hx=>match c,hx with
  | 0,hx=>by cases hx;exact uS X g (F.v0)
  | 1,hx=>by cases hx;exact uS X g (F.v1)
  | 2,hx=>by cases hx;exact uS X g (F.v2)
  | 3,hx=>by cases hx;exact uS X g (F.v3)
  | 4,hx=>by cases hx;exact uT X g (F.v4)
  | 5,hx=>by cases hx;exact uT X g (F.v5)
  | 6,hx=>by cases hx;exact uT X g (F.v6)
  | 7,hx=>by cases hx;exact uT X g (F.v7)
  | 8,hx=>by cases hx;exact ⟨_,mg_of X g (F.v8),_,rfl⟩
  | 9,hx=>by cases hx;exact lst_vr X g (F.v9)
  | 10,hx=>by cases hx;exact lst_vr X g (F.v10)
  | n+11,hx=>by cases hx
 biG:=fun b=>by
  have:=F.g_ns
  rw [List.all_eq_true] at this
  have no:∀ x∈(["len","min","max","range","tuple","list","int","isinstance","str","bool","Exception"]:List Str),mg x=none:=fun x hx=>ns_none_of X g (beq_iff_eq.mp (this x hx))
  cases b
  ·exact ⟨no _ (List.mem_of_getElem? (i:=0) rfl),(bt _ (by decide)).trans PyProof.Rows.Boot.«len»⟩
  ·exact ⟨no _ (List.mem_of_getElem? (i:=1) rfl),(bt _ (by decide)).trans PyProof.Rows.Boot.«min»⟩
  ·exact ⟨no _ (List.mem_of_getElem? (i:=2) rfl),(bt _ (by decide)).trans PyProof.Rows.Boot.«max»⟩
  ·exact ⟨no _ (List.mem_of_getElem? (i:=3) rfl),(bt _ (by decide)).trans PyProof.Rows.Boot.«range»⟩
  ·exact ⟨no _ (List.mem_of_getElem? (i:=4) rfl),(bt _ (by decide)).trans PyProof.Rows.Boot.«tuple»⟩
  ·exact ⟨no _ (List.mem_of_getElem? (i:=5) rfl),(bt _ (by decide)).trans PyProof.Rows.Boot.«list»⟩
  ·exact ⟨no _ (List.mem_of_getElem? (i:=6) rfl),(bt _ (by decide)).trans PyProof.Rows.Boot.«int»⟩
  all_goals exact ⟨no _ (List.mem_of_getElem? (i:=7) rfl),(bt _ (by decide)).trans PyProof.Rows.Boot.«isinstance»⟩
 tyG:=fun q hq=>by
  have:=F.g_ns
  rw [List.all_eq_true] at this
  have no:∀ x∈(["len","min","max","range","tuple","list","int","isinstance","str","bool","Exception"]:List Str),mg x=none:=fun x hx=>ns_none_of X g (beq_iff_eq.mp (this x hx))
  simp only [pZ,List.mem_cons,List.not_mem_nil,or_false] at hq
  rcases hq with rfl|rfl|rfl|rfl
  ·exact ⟨no _ (List.mem_of_getElem? (i:=4) rfl),(bt _ (by decide)).trans PyProof.Rows.Boot.«tuple»⟩
  ·exact ⟨no _ (List.mem_of_getElem? (i:=8) rfl),(bt _ (by decide)).trans PyProof.Rows.Boot.«str»⟩
  ·exact ⟨no _ (List.mem_of_getElem? (i:=6) rfl),(bt _ (by decide)).trans PyProof.Rows.Boot.«int»⟩
  ·exact ⟨no _ (List.mem_of_getElem? (i:=9) rfl),(bt _ (by decide)).trans PyProof.Rows.Boot.«bool»⟩
 wG:=mg_of X g (F.g_w)
 xG:=mg_of X g (F.g_x)
 wget:=F.w_get
 wdict:=F.w_dict
 wset:=F.w_set
 wover:=F.w_over
 wattr:=fun k=>match k with
  | 0=>F.w_at0
  | _+1=>F.w_at1
 wmeth:=fun i x hx=>by
  have hi:i<7:=(List.getElem?_eq_some_iff.mp hx).1
  have:=F.w_meth
  rw [List.all_eq_true] at this
  have:=this i (List.mem_range.mpr hi)
  rw [hx] at this
  simp only [Bool.and_eq_true,beq_iff_eq] at this
  exact this.1
 wK:=F.w_K
 gK:=F.g_K
 wMk:=F.w_mk
 gTy:=F.g_ty
 gBase:=F.g_base
 exm:=F.g_exm
 wfn:=fun i x hx=>by
  have hi:i<7:=(List.getElem?_eq_some_iff.mp hx).1
  have:=F.w_meth
  rw [List.all_eq_true] at this
  have:=this i (List.mem_range.mpr hi)
  rw [hx] at this
  simp only [Bool.and_eq_true,beq_iff_eq] at this
  exact this.2
 gk:=cx_gk F X g bt
theorem base_s {C:Cx}(O:fN C) (F:Fx C.K) (hf:C.fn 24=iV 24) {d:Nat}{l:List Nat}{i:Nat}{H:MH}{Q:QV}{E:MH→Prop}(hl:l.length≤1000000) (hil:i≤l.length) (hi:(l.drop i).take 1≠[48]) (q:Q (.tup [.int 10,.int i]) H) :
  aB C (d+1) 24 [.str l,.int i] H Q E:=by
 have ho:C.K.lookup (C.fn 24)=some ⟨.type "function",none,.func (fnOf "base_at" "base_at" zH wL jL .none .none .none (.str "lendcore.words" 377) none (.ref 185) .none),#[]⟩:=by rw [hf];exact F.ba_fn
 have hc:codeIn C.K (.ref 185) "base_at"=true:=F.ba_cd
 have hk:keepIn C.K (.ref (C.fn 24))=true:=by rw [hf];exact F.ba_keep
 have hsc:mV jL (sH.take ([PV.str l,PV.int i].length+([]:List PV).length))=true:=by kernel_rfl
 have hns:[PV.str l,PV.int i].length+([]:List PV).length≤sH.length:=Nat.le_of_ble_eq_true (by kernel_rfl)
 with_reducible refine Er (ns:=sH) (vs:=[.str l,.int i]) (defs:=[]) O ho hc hk ba_nd hsc hns ?_ ?_
 rotate_left
 ·intro A' fs env s₀ s B eS S T
  with_reducible refine Gq ba_nd B eS S hl hil hi ?_ ?_ T ?_
  ·rfl
  ·rfl
  ·intro m'
   exact q
 intro s args X ha
 have h0:VRs C s.heap [] []:=rfl
 refine Exists.intro [] (And.intro h0 ?_)
 obtain ⟨a,r0,rfl⟩:=List.exists_cons_of_length_eq_add_one ha;replace ha:=Nat.succ.inj ha
 obtain ⟨b,r1,rfl⟩:=List.exists_cons_of_length_eq_add_one ha;replace ha:=Nat.succ.inj ha
 cases List.eq_nil_of_length_eq_zero ha
 ·have hb:BindsTo s baFn ⟨[a,b],[]⟩ [(("text":Str),a),(("at":Str),b)]:=kp_binds X fun S=>F.ba_bd S a b
  exact hb
theorem rd1 (O:fN (gT K p w h mg mb os)) (F:Fx K):oB (gT K p w h mg mb os) 1 2 eU (.int 0):=
 qU O (p:=.int 0) (v:=dflt1) (fun h=>⟨_,rfl⟩) (List.all_eq_true.mp F.c2 _ (List.mem_of_getElem? (i:=1) rfl)) fun S args ha=>by
  obtain ⟨a,r0,rfl⟩:=List.exists_cons_of_length_eq_add_one ha;replace ha:=Nat.succ.inj ha
  cases List.eq_nil_of_length_eq_zero ha;exact (F.d1 S a)
theorem rd3 (O:fN (gT K p w h mg mb os)) (F:Fx K):oB (gT K p w h mg mb os) 3 3 gL (.int 0):=
 qU O (p:=.int 0) (v:=dflt3) (fun h=>⟨_,rfl⟩) (List.all_eq_true.mp F.c3 _ (List.mem_of_getElem? (i:=0) rfl)) fun S args ha=>by
  obtain ⟨a,r0,rfl⟩:=List.exists_cons_of_length_eq_add_one ha;replace ha:=Nat.succ.inj ha
  obtain ⟨b,r1,rfl⟩:=List.exists_cons_of_length_eq_add_one ha;replace ha:=Nat.succ.inj ha
  cases List.eq_nil_of_length_eq_zero ha;exact (F.d3 S a b)
theorem rd11 (O:fN (gT K p w h mg mb os)) (F:Fx K):oB (gT K p w h mg mb os) 11 2 dD (.bool false):=
 qU O (p:=.bool false) (v:=dflt11) (fun h=>rfl) (List.all_eq_true.mp F.c2 _ (List.mem_of_getElem? (i:=3) rfl)) fun S args ha=>by
  obtain ⟨a,r0,rfl⟩:=List.exists_cons_of_length_eq_add_one ha;replace ha:=Nat.succ.inj ha
  cases List.eq_nil_of_length_eq_zero ha;exact (F.d11 S a)
theorem all_r (O:fN (gT K p w h mg mb os)) (F:Fx K):AllR (gT K p w h mg mb os) where
 p:={
  w:={ peek:=gE O F 1 rfl,peek0:=rd1 O F,take:=kB O F 0 rfl,looks:=run3 O F 0 rfl,looks0:=rd3 O F,expect:=gE O F 2 rfl,name:=kB O F 1 rfl,split:=kB O F 2 rfl }
  closed:=kB O F 8 rfl
  type:=kB O F 3 rfl
  paren:=kB O F 4 rfl
  refT:=kB O F 5 rfl
  array:=kB O F 6 rfl
  spath:=gE O F 3 rfl
  spath0:=rd11 O F
  segment:=run3 O F 1 rfl
  pname:=gE O F 4 rfl
  args:=kB O F 7 rfl
  generics:=kB O F 9 rfl
  param:=kB O F 10 rfl }
 g:=⟨rfl,rfl,rfl,rfl,rfl,rfl,rfl,rfl,rfl,rfl,rfl⟩
 l:={
  runEnd:=run3 O F 2 rfl
  remark:=gE O F 6 rfl
  blank:=gE O F 7 rfl
  worth:=kB O F 12 rfl
  base:=fun a b c q=>base_s O F rfl a b c q
  int:=gE O F 8 rfl
  sign:=gE O F 9 rfl
  word:=gE O F 10 rfl
  rows:=kB O F 13 rfl
  words:=kB O F 14 rfl
  init:=gE O F 0 rfl }
 wo:=gE O F 5 rfl
 pl:=kB O F 11 rfl
 f:={
  word:=gE O F 18 rfl
  rest:=run4 O F 0 rfl
  type:=gE O F 19 rfl
  path:=run3 O F 4 rfl
  arg:=gE O F 20 rfl
  param:=gE O F 21 rfl
  gens:=kB O F 16 rfl
  due:=gE O F 22 rfl }
 t:=gE O F 23 rfl
 m:={
  take:=gE O F 12 rfl
  one:=gE O F 13 rfl
  path:=run3 O F 3 rfl
  angles:=gE O F 14 rfl
  listed:=run5 O F 0 rfl
  type:=gE O F 15 rfl
  gens:=kB O F 15 rfl
  bent:=gE O F 16 rfl
  text:=gE O F 17 rfl
  pool:=gE O F 11 rfl }
 law:=kB O F 17 rfl
end
theorem Iq {C:Cx}{h:Heap}:∀ {vs:List Value}{zs:List Int},IntsAre vs zs→VRs C h (zs.map .int) vs
 | _,_,h=>by
  induction h with
  | nil=>rfl
  | cons n t h ih=>exact ⟨_,_,rfl,⟨_,rfl⟩,ih⟩
theorem law_ends {K:Frag}{prog:Program}{w:World}{s:Shared}{mg mb:Str→Option Value}{fa a:Addr}{items:List Value}{zs:List Int}{c:ClaimW}{cl:Str→Option Addr}{mean:ExcName→Option Value}{args:List WData}
  (F:Fx K) (X:K.In s.heap) (g:s.heap.Ns mainGlobals mg) (b:s.heap.Ns builtinsNs mb) (nl:s.heap.NoLimit) (bt:∀ x:Str,x≠"__name__"→mb x=bootBuiltins x)
  (hg:s.gens=#[]) (hmg:mg "law"=some (.ref fa)) (hL:s.heap.IsList a items.toArray) (hI:IntsAre items zs) (hz:zs.length≤63)
  (hn:∀ cls,c.raises args cls=false) (hp:c.post args (.bool true) args=true) :
  codeAny (model prog w) callerA (.call (.ref fa) ⟨[.ref a],[]⟩) (GoodWG c cl mean args s) s:=by
 have O:fN (gT K prog w s.heap mg mb s.os):=cx_ok F X g b nl bt
 have Z:=all_r O F
 have efa:fa=(gT K prog w s.heap mg mb s.os).fn 49:=by
  have:=O.fnG 49 "law" (by decide +kernel)
  have hmg:(gT K prog w s.heap mg mb s.os).mg "law"=some (.ref fa):=hmg
  rw [hmg] at this
  cases this;rfl
 have L:=law_s (H:=fun J=>none) (E:=nope) (Q:=fun p J=>p=.bool true) Z (zs:=zs) (by exact ar491 hz) (fun J=>rfl)
 have I:Inv (gT K prog w s.heap mg mb s.os) [] (fun J=>none) s:=⟨fun J J e=>e,trivial,(fun a o e=>nomatch e),hg,rfl⟩
 have run:=L.2 callerA [] s [.ref a] rfl rfl (by decide +kernel) (by decide +kernel) I (fun b hb=>(nomatch hb)) ⟨_,_,rfl,⟨a,items.toArray,rfl,hL,Iq hI⟩,rfl⟩
 rw [efa]
 refine codeAny_mono run fun r s' hr=>?_
 match r,hr with
 | .error e,hr=>
  obtain ⟨H',e,_,_,_,_,hE⟩:=hr
  exact hE.elim
 | .ok (.ret v),hr=>
  obtain ⟨H',S,I',p,hv,rfl⟩:=hr
  obtain rfl:=hv
  refine GoodW.toG ⟨.inl ⟨_,.bool true,[],rfl,hn,.bool true,hp,fun J=>⟨List.nodup_nil,(fun a ha=>nomatch ha)⟩⟩,fun b o e=>?_,I'.os,I'.gens⟩
  rcases (S.keep b o e rfl).2 with e' | ⟨m,_⟩
  ·exact e'
  ·cases m
end Mine.Internal
end
namespace Mine.Internal
namespace law_holds
theorem tw2504359618845951401:True:=⟨⟩
theorem tw2312918005271475784:True:=⟨⟩
theorem tw7437429386722963811:True:=⟨⟩
theorem tw3518520464002954878:True:=⟨⟩
theorem tw6844868233905843563:True:=⟨⟩
theorem tw963402102464675122:True:=⟨⟩
theorem tw5369859888303142241:True:=⟨⟩
theorem tw12288047123680794182:True:=⟨⟩
theorem tw9301664199375667368:True:=⟨⟩
theorem tw14731864932094203097:True:=⟨⟩
theorem tw14019405557032722658:True:=⟨⟩
theorem tw7622203804846044729:True:=⟨⟩
theorem tw17827441660297212852:True:=⟨⟩
theorem tw9993504864013644408:True:=⟨⟩
theorem tw41412207918123506:True:=⟨⟩
theorem tw12384204075710400333:True:=⟨⟩
theorem tw5415960874274651351:True:=⟨⟩
theorem tw4034723354004038733:True:=⟨⟩
theorem tw11865243810639604395:True:=⟨⟩
theorem tw9389323399894906508:True:=⟨⟩
theorem tw18000182200247482015:True:=⟨⟩
theorem tw5310313176646986354:True:=⟨⟩
theorem tw13956939586521836159:True:=⟨⟩
theorem tw8403295664960015869:True:=⟨⟩
theorem tw9689907811889119932:True:=⟨⟩
theorem tw7691165339252645033:True:=⟨⟩
theorem tw2113192124475380128:True:=⟨⟩
theorem tw13983846452167017158:True:=⟨⟩
theorem tw8023093981732945799:True:=⟨⟩
theorem tw16437988761577927483:True:=⟨⟩
theorem tw666255500706610565:True:=⟨⟩
theorem tw13188199118976001254:True:=⟨⟩
theorem tw7079674170029148320:True:=⟨⟩
theorem tw6106121744486614665:True:=⟨⟩
theorem tw12466664962850207069:True:=⟨⟩
theorem tw4324581577908947663:True:=⟨⟩
theorem tw8291991077484658241:True:=⟨⟩
theorem tw1088738409913591058:True:=⟨⟩
theorem tw5569513056588576293:True:=⟨⟩
theorem tw12473935265663437808:True:=⟨⟩
theorem tw6933361230792214389:True:=⟨⟩
theorem tw7954957738978083778:True:=⟨⟩
theorem tw1489734980919921443:True:=⟨⟩
theorem tw4680796709077114927:True:=⟨⟩
theorem tw8537984497415613987:True:=⟨⟩
theorem tw8820661952715256102:True:=⟨⟩
theorem tw6059920112152584396:True:=⟨⟩
theorem tw1544372652868076634:True:=⟨⟩
theorem tw8281893572523316592:True:=⟨⟩
theorem tw9055546627714765695:True:=⟨⟩
theorem tw9035461080512720513:True:=⟨⟩
theorem tw5781343181513140765:True:=⟨⟩
theorem tw16471912788794503528:True:=⟨⟩
theorem tw11774166978495648746:True:=⟨⟩
theorem tw1273012845105691444:True:=⟨⟩
theorem tw3111664663188618743:True:=⟨⟩
theorem tw7713292939711161511:True:=⟨⟩
theorem tw13502049662775670757:True:=⟨⟩
theorem tw6373201061235070572:True:=⟨⟩
theorem tw12767505052952944086:True:=⟨⟩
theorem tw6542792588071567547:True:=⟨⟩
theorem tw15019217928162281884:True:=⟨⟩
theorem tw15843129921626706325:True:=⟨⟩
theorem tw15014876003713157774:True:=⟨⟩
theorem tw17826359998776316164:True:=⟨⟩
theorem tw16495317613996405392:True:=⟨⟩
theorem tw16840970306352748597:True:=⟨⟩
theorem tw18070851334611462107:True:=⟨⟩
theorem tw6964958988946982039:True:=⟨⟩
theorem tw6562594161013657726:True:=⟨⟩
theorem tw18036417773654534299:True:=⟨⟩
theorem tw15720928612782815800:True:=⟨⟩
theorem tw4454044548068645571:True:=⟨⟩
theorem tw15054418327509025329:True:=⟨⟩
theorem tw7237796307268926530:True:=⟨⟩
theorem tw15500462060788823439:True:=⟨⟩
theorem tw13892001479602224905:True:=⟨⟩
theorem tw6005340329736619217:True:=⟨⟩
theorem tw1886045122800666491:True:=⟨⟩
theorem tw860233631352894009:True:=⟨⟩
theorem tw1567136328877392436:True:=⟨⟩
theorem tw6685124747676314087:True:=⟨⟩
theorem tw1050708852022057345:True:=⟨⟩
theorem tw14936673833731290490:True:=⟨⟩
theorem tw15145428204907321058:True:=⟨⟩
theorem tw15089997676275742325:True:=⟨⟩
theorem tw16036833116847381385:True:=⟨⟩
theorem tw6885614011824973493:True:=⟨⟩
theorem tw7533138152049975466:True:=⟨⟩
theorem tw8908063450666510405:True:=⟨⟩
theorem tw17010989495465824775:True:=⟨⟩
theorem tw7183598447973260637:True:=⟨⟩
theorem tw15775835563622600108:True:=⟨⟩
theorem tw15982627523948223086:True:=⟨⟩
theorem tw14133655596229104619:True:=⟨⟩
theorem tw10953855582196480015:True:=⟨⟩
theorem tw14705092000519377871:True:=⟨⟩
theorem tw5148685345051338683:True:=⟨⟩
theorem tw11399537533274283753:True:=⟨⟩
theorem tw15525288829080089789:True:=⟨⟩
theorem tw7492217843025689149:True:=⟨⟩
theorem tw1106697087321765600:True:=⟨⟩
theorem tw17746890392037404568:True:=⟨⟩
theorem tw6803634304149952710:True:=⟨⟩
theorem tw6007618765390717666:True:=⟨⟩
theorem tw12207904572459630387:True:=⟨⟩
theorem tw7102509041964563739:True:=⟨⟩
theorem tw2735670196638020240:True:=⟨⟩
theorem tw12664244665838901700:True:=⟨⟩
theorem tw3177761319781877699:True:=⟨⟩
theorem tw9209456485524102973:True:=⟨⟩
theorem tw16142042389448829445:True:=⟨⟩
theorem tw11220878316849502989:True:=⟨⟩
theorem tw10945169814024735128:True:=⟨⟩
theorem tw6823461298801031459:True:=⟨⟩
theorem tw12714004362887396919:True:=⟨⟩
theorem tw1299813345263894257:True:=⟨⟩
theorem tw64023791914785061:True:=⟨⟩
theorem tw9850988261869793003:True:=⟨⟩
theorem tw14013537915857624042:True:=⟨⟩
theorem tw10219180092027411662:True:=⟨⟩
theorem tw14805800514109419922:True:=⟨⟩
theorem tw17614904385896478879:True:=⟨⟩
theorem tw12898690757834390100:True:=⟨⟩
theorem tw10441040908769620159:True:=⟨⟩
theorem tw16625421257264506267:True:=⟨⟩
theorem tw5893211771620530675:True:=⟨⟩
theorem tw8542856368596919866:True:=⟨⟩
theorem tw15001707960424138628:True:=⟨⟩
theorem tw10819662790790930756:True:=⟨⟩
theorem tw12840315644623786063:True:=⟨⟩
theorem tw13861640207564321487:True:=⟨⟩
theorem tw2085529170506295579:True:=⟨⟩
theorem tw16659532793444738681:True:=⟨⟩
theorem tw15807666317505705376:True:=⟨⟩
theorem tw12186192164172704764:True:=⟨⟩
theorem tw5085832238133244772:True:=⟨⟩
theorem tw13601815648009431055:True:=⟨⟩
theorem tw7883346602994120866:True:=⟨⟩
theorem tw16793702559646638921:True:=⟨⟩
theorem tw67949695073031465:True:=⟨⟩
theorem tw11094323384014208579:True:=⟨⟩
theorem tw17715249312174493765:True:=⟨⟩
theorem tw9808382723320948968:True:=⟨⟩
theorem tw1209697992870482014:True:=⟨⟩
theorem tw6854214892635635430:True:=⟨⟩
theorem tw8747637750396354775:True:=⟨⟩
theorem tw15863288468743443387:True:=⟨⟩
theorem tw10334880234551832254:True:=⟨⟩
theorem tw1166448317271014050:True:=⟨⟩
theorem tw10702560646108310282:True:=⟨⟩
theorem tw3887125529604815915:True:=⟨⟩
theorem tw8513663122437191616:True:=⟨⟩
theorem tw12170220129019565885:True:=⟨⟩
theorem tw13490358781686620072:True:=⟨⟩
theorem tw16221615154988141066:True:=⟨⟩
theorem tw18218832480670345570:True:=⟨⟩
theorem tw14007432100002585346:True:=⟨⟩
theorem tw6337315791393939929:True:=⟨⟩
theorem tw10101589253211883177:True:=⟨⟩
theorem tw18293522028821832206:True:=⟨⟩
theorem tw8714494292124032797:True:=⟨⟩
theorem tw524251823257446912:True:=⟨⟩
theorem tw10699544582727365723:True:=⟨⟩
theorem tw3933688107887269212:True:=⟨⟩
theorem tw3286462433407943238:True:=⟨⟩
theorem tw12274305638028884453:True:=⟨⟩
theorem tw6641296839057232320:True:=⟨⟩
theorem tw17532916231881227608:True:=⟨⟩
theorem tw7996481938958771143:True:=⟨⟩
theorem tw4525148336605651634:True:=⟨⟩
theorem tw7418504497872598224:True:=⟨⟩
theorem tw3056734376788942568:True:=⟨⟩
theorem tw3271532197888115084:True:=⟨⟩
theorem tw12136343883673705233:True:=⟨⟩
theorem tw10811960236937525107:True:=⟨⟩
theorem tw2947575407843341900:True:=⟨⟩
theorem tw3510011627726239533:True:=⟨⟩
theorem tw12780957222708649140:True:=⟨⟩
theorem tw5821194431988829700:True:=⟨⟩
theorem tw5853211053624524533:True:=⟨⟩
theorem tw16791129443039146719:True:=⟨⟩
theorem tw11468786479583015079:True:=⟨⟩
theorem tw1692840677115495433:True:=⟨⟩
theorem tw7529828809452377848:True:=⟨⟩
theorem tw5495461835322201753:True:=⟨⟩
theorem tw13275581862939334218:True:=⟨⟩
theorem tw9923564233977228023:True:=⟨⟩
theorem tw2711760495133003591:True:=⟨⟩
theorem tw5011053561318872891:True:=⟨⟩
theorem tw10816907483825417282:True:=⟨⟩
theorem tw14199836686563641488:True:=⟨⟩
theorem tw15563229084406407295:True:=⟨⟩
theorem tw9924379097532354927:True:=⟨⟩
theorem tw2936711906157240994:True:=⟨⟩
theorem tw12727938332899449040:True:=⟨⟩
theorem tw5609702221670370858:True:=⟨⟩
theorem tw2170997143767639848:True:=⟨⟩
theorem tw17282835019836433003:True:=⟨⟩
theorem tw16457263600400170973:True:=⟨⟩
theorem tw11691665019405755961:True:=⟨⟩
theorem tw7320352757258251938:True:=⟨⟩
theorem tw11614356255912754024:True:=⟨⟩
theorem tw6003397788053033603:True:=⟨⟩
theorem tw2250416650598700131:True:=⟨⟩
theorem tw18399563971994738551:True:=⟨⟩
theorem tw14532260450372650612:True:=⟨⟩
theorem tw6148508556246304593:True:=⟨⟩
theorem tw8232078949743932340:True:=⟨⟩
theorem tw13778671834664272416:True:=⟨⟩
theorem tw13661696292020696128:True:=⟨⟩
theorem tw17626287708545239997:True:=⟨⟩
theorem tw2200046072602064225:True:=⟨⟩
theorem tw17452436849128673972:True:=⟨⟩
theorem tw16215969513155499842:True:=⟨⟩
theorem tw16691599372367341605:True:=⟨⟩
theorem tw12058641979936159382:True:=⟨⟩
theorem tw7819933846591126958:True:=⟨⟩
theorem tw4981572135867326970:True:=⟨⟩
theorem tw11279461963257638896:True:=⟨⟩
theorem tw3968209164781585609:True:=⟨⟩
theorem tw11196895777860379110:True:=⟨⟩
theorem tw15972636764750631591:True:=⟨⟩
theorem tw2069654155860947494:True:=⟨⟩
theorem tw1860889346534373869:True:=⟨⟩
theorem tw6500418194161613106:True:=⟨⟩
theorem tw4296756846925853204:True:=⟨⟩
theorem tw9519320344471708770:True:=⟨⟩
theorem tw6237831649070377885:True:=⟨⟩
theorem tw15819497184501962011:True:=⟨⟩
theorem tw940030799948801200:True:=⟨⟩
theorem tw12327162817487141505:True:=⟨⟩
theorem tw13222473611021231991:True:=⟨⟩
theorem tw12530014374160894435:True:=⟨⟩
theorem tw15765748925764867227:True:=⟨⟩
theorem tw6890659254328894972:True:=⟨⟩
theorem tw17317153472065290896:True:=⟨⟩
theorem tw3734040933237360868:True:=⟨⟩
theorem tw4131754547233902644:True:=⟨⟩
theorem tw14347817089187030122:True:=⟨⟩
theorem tw16829955265039475735:True:=⟨⟩
theorem tw9966143267352228470:True:=⟨⟩
theorem tw1417506311491624960:True:=⟨⟩
theorem tw7043268472052485205:True:=⟨⟩
theorem tw8165934797197463765:True:=⟨⟩
theorem tw13036472675685314708:True:=⟨⟩
theorem tw1051123480286604053:True:=⟨⟩
theorem tw11539691787097143023:True:=⟨⟩
theorem tw15952525144996365440:True:=⟨⟩
theorem tw6977114366993890379:True:=⟨⟩
theorem tw16376862327192927242:True:=⟨⟩
theorem tw10178804538940891394:True:=⟨⟩
theorem tw13850197737555782472:True:=⟨⟩
theorem tw3241615828204726308:True:=⟨⟩
theorem tw3906891235714884535:True:=⟨⟩
theorem tw8219659964435680701:True:=⟨⟩
theorem tw11056948750868441068:True:=⟨⟩
theorem tw11834761350760527319:True:=⟨⟩
theorem tw4174270664173325863:True:=⟨⟩
theorem tw3452851501459103858:True:=⟨⟩
theorem tw2593138589334784502:True:=⟨⟩
theorem tw1224587530089784718:True:=⟨⟩
theorem tw12539001453319108443:True:=⟨⟩
theorem tw9722194116900784090:True:=⟨⟩
theorem tw12891837667991570106:True:=⟨⟩
theorem tw10435668568063522656:True:=⟨⟩
theorem tw13228813456462920091:True:=⟨⟩
theorem tw3105656241889654531:True:=⟨⟩
theorem tw8969255041078857470:True:=⟨⟩
theorem tw12530593885351889110:True:=⟨⟩
theorem tw7750998014632361368:True:=⟨⟩
theorem tw1981267964359910353:True:=⟨⟩
theorem tw7322231609820722543:True:=⟨⟩
theorem tw5444024993245722483:True:=⟨⟩
theorem tw60567027060828058:True:=⟨⟩
theorem tw13722291204377531538:True:=⟨⟩
theorem tw9818692256632973854:True:=⟨⟩
theorem tw7161061064328204058:True:=⟨⟩
theorem tw13333885293473813141:True:=⟨⟩
theorem tw14893310770229734232:True:=⟨⟩
theorem tw8630300658385142261:True:=⟨⟩
theorem tw15753362371178979873:True:=⟨⟩
theorem tw5172282813471758318:True:=⟨⟩
theorem tw993024260085509573:True:=⟨⟩
theorem tw12153990867146992910:True:=⟨⟩
theorem tw5084906555852794001:True:=⟨⟩
theorem tw17113026505883952878:True:=⟨⟩
theorem tw12708359464345009135:True:=⟨⟩
theorem tw14675360544357745695:True:=⟨⟩
theorem tw8752178780153976157:True:=⟨⟩
theorem tw2806033449826361215:True:=⟨⟩
theorem tw14664598684259885112:True:=⟨⟩
theorem tw106225851272716341:True:=⟨⟩
theorem tw215204211521294421:True:=⟨⟩
theorem tw17021019338332225793:True:=⟨⟩
theorem tw7659896425356675276:True:=⟨⟩
theorem tw14972622454902862228:True:=⟨⟩
theorem tw4318225212099012382:True:=⟨⟩
theorem tw10621573616448319380:True:=⟨⟩
theorem tw4925321139299102502:True:=⟨⟩
theorem tw11792367900412323889:True:=⟨⟩
theorem tw10917192413608502093:True:=⟨⟩
theorem tw7252599137299768831:True:=⟨⟩
theorem tw5396619565661513900:True:=⟨⟩
theorem tw14354395928669914907:True:=⟨⟩
theorem tw13839548257692433686:True:=⟨⟩
theorem tw1255386461258023737:True:=⟨⟩
theorem tw784750289101103183:True:=⟨⟩
theorem tw14489038807512256061:True:=⟨⟩
theorem tw3837056392459297091:True:=⟨⟩
theorem tw13117265538126046712:True:=⟨⟩
theorem tw491324631322547926:True:=⟨⟩
theorem tw15166659038862114873:True:=⟨⟩
theorem tw4174102537041599891:True:=⟨⟩
theorem tw3779129170279857936:True:=⟨⟩
theorem tw7882198689696777248:True:=⟨⟩
theorem tw15000507710994095441:True:=⟨⟩
theorem tw2118979527941072966:True:=⟨⟩
theorem tw7661701532161840632:True:=⟨⟩
theorem tw12300687902055819078:True:=⟨⟩
theorem tw7856365087005134695:True:=⟨⟩
theorem tw17671924695604931094:True:=⟨⟩
theorem tw5559006737917967881:True:=⟨⟩
theorem tw4502840247180760324:True:=⟨⟩
theorem tw9734849834558136329:True:=⟨⟩
theorem tw17387051926064797286:True:=⟨⟩
theorem tw9071665226236888510:True:=⟨⟩
theorem tw11313662189165985065:True:=⟨⟩
theorem tw7153054855244450364:True:=⟨⟩
theorem tw13656124307527186163:True:=⟨⟩
theorem tw7066847696348034978:True:=⟨⟩
theorem tw15458714328001691836:True:=⟨⟩
theorem tw3165387093269871965:True:=⟨⟩
theorem tw10331424951518341408:True:=⟨⟩
theorem tw16666733587787728983:True:=⟨⟩
theorem tw935067681712744902:True:=⟨⟩
theorem tw6287421238634201430:True:=⟨⟩
theorem tw3621869918031181589:True:=⟨⟩
theorem tw10014777899116985927:True:=⟨⟩
theorem tw15810121678207442192:True:=⟨⟩
theorem tw8715601232021188042:True:=⟨⟩
theorem tw7091200042494616684:True:=⟨⟩
theorem tw4959084101924110425:True:=⟨⟩
theorem tw8078146880546041305:True:=⟨⟩
theorem tw15435644405466871051:True:=⟨⟩
theorem tw14649254759600409485:True:=⟨⟩
theorem tw18204181447348578068:True:=⟨⟩
theorem tw17755603129647196692:True:=⟨⟩
theorem tw13921004642253955011:True:=⟨⟩
theorem tw12821550243567784974:True:=⟨⟩
theorem tw9570332523695431890:True:=⟨⟩
theorem tw15241683389932548475:True:=⟨⟩
theorem tw12515871569177081899:True:=⟨⟩
theorem tw6635854776415824599:True:=⟨⟩
theorem tw9553491550571910385:True:=⟨⟩
theorem tw8926535553383428591:True:=⟨⟩
theorem tw18415307969045342711:True:=⟨⟩
theorem tw12375762032787719377:True:=⟨⟩
theorem tw1960834159019917329:True:=⟨⟩
theorem tw10690395309236379809:True:=⟨⟩
theorem tw9591106638862761808:True:=⟨⟩
theorem tw3333877948380659443:True:=⟨⟩
theorem tw854127421515603700:True:=⟨⟩
theorem tw15931262979911714202:True:=⟨⟩
theorem tw3113890373239154660:True:=⟨⟩
theorem tw9180427654943227905:True:=⟨⟩
theorem tw9151208783151537789:True:=⟨⟩
theorem tw7774967486162571720:True:=⟨⟩
theorem tw6369965550447322550:True:=⟨⟩
theorem tw6278844359060199495:True:=⟨⟩
theorem tw14223426840774996437:True:=⟨⟩
theorem tw1168062146142200670:True:=⟨⟩
theorem tw12745373585286045368:True:=⟨⟩
theorem tw4964049551645586979:True:=⟨⟩
theorem tw16642284350932686661:True:=⟨⟩
theorem tw1670903862340173121:True:=⟨⟩
theorem tw9292330317973958540:True:=⟨⟩
theorem tw16040889503163252463:True:=⟨⟩
theorem tw12101260457085628503:True:=⟨⟩
theorem tw3251605007333361775:True:=⟨⟩
theorem tw10846854793083343464:True:=⟨⟩
theorem tw3096438944393549025:True:=⟨⟩
theorem tw2865953078990392085:True:=⟨⟩
theorem tw14910288366494306743:True:=⟨⟩
theorem tw214558190739615934:True:=⟨⟩
theorem tw15863795936052587096:True:=⟨⟩
theorem tw13398469981259945686:True:=⟨⟩
end law_holds
set_option Elab.async true
set_option maxRecDepth 100000 in
set_option maxHeartbeats 8000000 in
theorem law_holds:PySem.Challenge.rw_ot0027_01.Holds:=by
 w_on
 o_law
 k_head
 case hw=>w_witness2
 k_fill
 intro w s₀ s₁ mg mb G Y fa o pm cd doc dV kV ho hd' hcd hD hmg hg args vals as hpre hlay hrd hwl hlo
 have KX:=kIn_of Y
 refine Ground.open G ?_
 intro T B D TE TW
 wrow_args hpre hlay hrd hwl hlo
 first|refine callC_kw (enter_call ?_)|refine enter_call ?_
 refine Mine.Internal.law_ends ?_ KX T.g T.b T.nolimit T.builtins hg hmg (by assumption) (by assumption) ?_ (raisesW_false ?_) ?_
 ·generalize w.params=P
  constructor
  all_goals first|kernel_rfl|(intros;kernel_rfl)
 ·omega
 ·wrow_none_raised
 ·wrow_post
end Mine.Internal
set_option maxRecDepth 100000 in
theorem PySem.Challenge.cw_ot0027_01_holds : PySem.Challenge.rw_ot0027_01.Holds :=
 Mine.Internal.law_holds
