import PyProof.Rows.All
import Wide.All
import OpenK.AllK
import Wide.FinOn
import Lean
import PySem.Challenge.RW_no0379_01
set_option maxRecDepth 100000
set_option Elab.async false
set_option linter.unusedVariables false
set_option linter.unusedSimpArgs false
set_option compiler.extract_closed false
namespace Mine
set_option tactic.hygienic false
section
theorem om1 {p:Nat}:p≤p:=Nat.le_refl p
theorem om2 {p q:Nat}(h:p+1≤q):p≤q:=Nat.le_of_succ_le h
theorem om3 {p q r:Nat}(h:p≤q)(i:q≤r):p≤r:=Nat.le_trans h i
theorem om4 {p q:Nat}(h:¬p<q)(i:p<q+1):p=q:=Nat.eq_of_lt_succ_of_not_lt i h
theorem om5 {p q r:Nat}(h:p≤q)(i:r+2*q≤900):r+2*p≤900:=by grind
theorem om6 {p q r:Nat}(h:p≤q)(i:r+8*q≤9000):r+8*p≤9000:=by grind
theorem om7 {p q:Nat}(h:p+2*q≤900):p<1000:=by grind
theorem om8 {p q:Nat}(h:p+8*q≤9000):p+64<9900:=by grind
theorem om9 {p:Nat}(h:p≤1000000):p≤16777216:=by lia
theorem om10 {p:Int}{q:Nat}{r s:Int}(h:p+↑q<r)(i:s=r-p-↑q):0<s:=by subst_vars; lia
theorem om11 {p:Int}{q:Nat}:p+↑(q+1)=p+↑q+1:=by grind
theorem om12 {p q r:Int}{s:Nat}(h:p=q-r-↑s):p-1=q-r-↑(s+1):=by subst_vars; lia
theorem om13 {p q r:Int}{s:Nat}(h:p=q-r-↑s)(i:¬r+↑(s+1)<q):p-1≤0:=by subst_vars; lia
theorem om14 {p:Prop}{q r:Nat}(h:p∧q≤r)(i:r≤q):q=r:=by lia
theorem om15 {p q:Int}(h:(-1000000000≤p∧p≤1000000000)∧-1000000000≤q∧q≤1000000000):-2^62≤p:=by lia
theorem om16 {p q:Int}(h:(-1000000000≤p∧p≤1000000000)∧-1000000000≤q∧q≤1000000000):p<2^62:=by omega
theorem om17 {p q:Int}(h:(-1000000000≤p∧p≤1000000000)∧-1000000000≤q∧q≤1000000000):-2^62≤q:=by lia
theorem om18 {p q:Int}(h:(-1000000000≤p∧p≤1000000000)∧-1000000000≤q∧q≤1000000000):q<2^62:=by omega
theorem om19 {x0 : Int} : (x0 + (↑((0 : Nat)) : Int)) = x0 := by grind
theorem om20 {x0 x1 : Int} : (x0 - x1) = ((x0 - x1) - (↑((0 : Nat)) : Int)) := by grind
theorem om21 {x0 x1 : Int} (h0 : (x0 + (↑((0 : Nat)) : Int)) < x1) (h1 : ¬ (x0 < x1)) : (0 : Int) = ((x1 - x0) - (↑((0 : Nat)) : Int)) := by omega
theorem om22 {x0 x1 : Int} (h0 : ¬ ((x0 + (↑((0 : Nat)) : Int)) < x1)) : (x1 - x0) ≤ (0 : Int) := by lia
theorem om23:(0:Int)≤0:=Int.zero_le_ofNat 0
theorem om24:-(1000000000:Int)≤0∧(0:Int)≤1000000000:=by grind
theorem om25 {p q r:Nat}(h:p+(q+1)≤r):p+q≤r:=by lia
theorem om26 {p q r:Nat}(h:p+(q+1)≤r):p≤r:=Nat.le_of_add_right_le h
theorem om27 {p q r:Nat}(h:p+(q+1)≤r):p+1+q≤r:=by lia
theorem om28:0≤16777216:=by simp +arith only [*] at *
theorem om29 {p q r:Nat}(h:p=q+1)(i:r≤q):r≤p:=by lia
theorem om30 {p q r:Nat}(h:p=q+1)(i:r=p)(j:r<q):False:=by simp +arith only [*] at *
theorem om31 {p q:Nat}(h:p=q+1)(i:q=p):False:=by simp +arith only [*] at *
theorem om32 {p q:Nat}(h:p=q+1)(i:p=q):False:=by simp +arith only [*] at *
theorem om33 {p:Nat}(h:p≤1000):p≤16777216+1:=by lia
theorem om34 {p q r:Nat}(h:p≤900)(i:q=p)(j:r≤q+1):r≤1000:=by lia
theorem om35 {p q:Nat}(h:p+2*(q+1)≤900):p+1+2*q≤900:=by lia
theorem om36 {p q:Nat}(h:p+8*(q+1)≤9000):p+3+8*q≤9000:=by lia
theorem om37 {p:Nat}:p≤p+1+1:=by simp +arith only [*] at *
theorem om38 {p q:Nat}(h:p+8*(q+1)≤9000):p+1+8*q≤9000:=by lia
theorem om39 {p:Int}(h:-1000000000≤p):-2^64<p:=by lia
theorem om40 {p:Int}(h:p≤1000000000):p<2^64:=by lia
theorem om41 {p q:Nat}(h:p+64<q):p<q:=Nat.lt_of_add_right_lt h
theorem om42 {p q r s:Nat}(h:p≤64)(i:q+8*r≤9000):q+1+min s p<9900:=by grind
theorem om43 {p:Int}(h:-2^63≤p)(i:p<2^63):-9223372036854775808≤p∧p<9223372036854775808:=⟨h, i⟩
theorem om44 {p:Nat}(h:p≤2^24):¬p>(2^63-1)/8:=by lia
theorem om45 {p:Nat}(h:p≤1000000):p≤2^24:=by lia
theorem om46 {p:Int}(h:0≤p):-2^63≤p:=by lia
theorem om47 {p:Int}(h:p≤1000000000):p<2^63:=by lia
theorem om48 {p:Int}(h:0≤p):¬p<0:=by lia
theorem om49 {p:Int}{q:Nat}(h:0≤p)(i:Int.toNat p<q):0≤p∧p<↑q:=by lia
theorem om50 {p:Int}(h:-1000000000≤p):-2^63≤p:=by lia
theorem om51 {p:Int}(h:p<0):p<2^63:=by lia
theorem om52 {p q:Nat}{r:Int}(h:p=q)(i:-↑q≤r):-↑p≤r:=le_of_eq_of_le (congrArg Neg.neg (congrArg Nat.cast h)) i
theorem om53 {p q:Nat}(h:(↑p:Int)<↑q):p<q:=Int.ofNat_lt.mp h
theorem om54 {p q r:Nat}(h:p+q≤r):¬p+q>r:=Nat.not_lt.mpr h
theorem om55 {p q:Nat}:Int.toNat (max ↑p ↑q)=max p q:=by grind
theorem om56 {p q r:Nat}(h:p+q≤r):p≤r:=Nat.le_of_add_right_le h
theorem om57 {p:Int}(h:0≤p∧p≤1000000000):p<2^63:=by lia
theorem om58 {p q:Nat}{r:Int}(h:p=q)(i:r<↑q):r<↑p:=lt_of_lt_of_eq i (congrArg Nat.cast (id (Eq.symm h)))
theorem om59 {p q:Nat}{r:Int}(h:p=q)(i:-1000000000≤r∧r<0∧-↑q≤r):-↑p≤r:=by simp +arith only [*] at *
theorem om60 {p:Int}{q:Nat}(h:-1000000000≤p∧p<0∧-↑q≤p):-2^63≤p:=by lia
theorem om61 {p:Nat}{q:Int}{r s t:Nat}{u:Prop}(h:(0:Int)≤↑p∧(↑p:Int)≤q∧q≤(↑r:Int)∧r+s≤t∧u):(0:Int)≤q:=by lia
theorem om62 {p q r s t:Nat}{u:Prop}(h:(0:Int)≤↑p∧(↑p:Int)≤↑q∧(↑q:Int)≤↑r∧r+s≤t∧u):max p q=q:=by grind
theorem om63 {p q r s t u v w:Nat}{y:Prop}(h:p=q)(i:r=s)(j:q+s≤t)(k:(0:Int)≤↑u∧(↑u:Int)≤↑v∧(↑v:Int)≤↑q∧q+s≤w∧y):min u p+r+(p-v)≤t+(1:Nat):=by grind
theorem om64 {p q r s t:Nat}{u:Prop}(h:(0:Int)≤↑p∧(↑p:Int)≤↑q∧(↑q:Int)≤↑r∧r+s≤t∧u):p≤r:=by lia
theorem om65 {p q r s t:Nat}{u:Prop}(h:(0:Int)≤↑p∧(↑p:Int)≤↑q∧(↑q:Int)≤↑r∧r+s≤t∧u):q≤r:=by lia
theorem om66 {p q:Nat}(h:p=q):p-q=0∨p≤q:=by subst_vars; lia
theorem om67 {p q r s:Nat}(h:p=q)(i:r+q≤s):p≤s+1:=by subst_vars; lia
theorem om68 {p q:Nat}(h:p=q)(i:q≤(1000000:Nat)):(↑p:Int)<2^63:=by lia
theorem om69 {p:Nat}(h:p≤(1000000:Nat)):¬(↑p:Int)≥2^63:=by lia
theorem om70 {p q:Nat}(h:p≤2)(i:q=p):q<64:=by subst_vars; lia
theorem om71 {p q r s t:Nat}(h:p+q≤r)(i:s=p)(j:t=q):s+t≤r:=by simp +arith only [*] at *
theorem om72 {p q r s:Nat}(h:p+q≤r)(i:s=p):s≤r:=by grind
theorem om73 {p q r s t:Nat}(h:p+q≤r)(i:s=p)(j:t=q):s+t≤r+1:=by subst_vars; lia
theorem om74 {p:Nat}(h:p≤1000):p≤5592405:=by lia
theorem om75 {p:Nat}(h:p≤1000):p+2≤16777216:=by lia
theorem om76 {p q r:Nat}(h:p+2≤q)(i:r≤p+1):r+1≤q:=by lia
theorem om77 {p q:Nat}(h:p+2≤q):p≤q:=by lia
theorem om78 {p q:Nat}(h:p+0=q):q≤p:=Nat.le_of_eq (id (Eq.symm h))
theorem om79 {p q r:Nat}(h:p+(q+1)=r):p<r:=by subst_vars; lia
theorem om80 {p q r:Nat}(h:p+(q+1)=r):p+1+q=r:=by subst_vars; lia
theorem om81 {p q r s:Nat}(h:p+(q+1)≤r)(i:s≤p+1):s+q≤r:=by grind
theorem om82 {p:Nat}:0+p=p:=Nat.zero_add p
theorem om83 {p q:Nat}(h:p≤q):p+1≤q+1:=Nat.add_le_add_right h 1
theorem om84 {p q:Nat}(h:p≤q):p≤q+1:=Nat.le_add_right_of_le h
theorem om85 {p q r s t:Nat}(h:p+q≤r)(i:q=s+t):p+t≤r:=by grind
theorem om86 {p q r s t u:Nat}(h:p+q≤r)(i:s≤t)(j:q=u+t):p+s+u≤r:=by subst_vars; lia
theorem om87 {p q:Nat}(h:p<q):p≤q:=by lia
theorem om88 {p q:Nat}:p<p+1+q:=by simp +arith only [*] at *
theorem om89 {p q:Int}(h:p=q):¬p<q:=by subst_vars; lia
theorem om90 {p q:Int}(h:p=q):¬q<p:=by subst_vars; lia
theorem om91 {p q:Nat}:((↑p:Int)+↑q)/2=↑((p+q)/2):=Eq.symm (Nat.ToInt.div_congr rfl rfl)
theorem om92 {p q r:Nat}{s t u:Prop}(h:p-q<0):q≤p→p≤r→s→t→u:=by simp +arith only [*] at *
theorem om93 {p q r:Nat}(h:p≤q)(i:r<p):(r+p)/2<q:=by grind
theorem om94 {p q:Nat}(h:p<q):(↑p:Int)<↑q:=Int.ofNat_lt.mpr h
theorem om95 {p q r:Nat}(h:p-q<r+1)(i:q<p):p-((q+p)/2+1)<r:=by lia
theorem om96 {p q:Nat}(h:p<q):(p+q)/2+1≤q:=by grind
theorem om97 {p q r:Nat}(h:p<(q+r)/2+1)(i:¬p=(q+r)/2):p<(q+r)/2:=by lia
theorem om98 {p q r:Nat}(h:p-q<r+1)(i:q<p):(q+p)/2-q<r:=by lia
theorem om99 {p q:Nat}(h:p<q):p≤(p+q)/2:=by grind
theorem om100 {p q r:Nat}(h:(p+q)/2<r):(p+q)/2≤r:=by lia
theorem om101 {p q:Int}(h:¬p<q):q≤p:=Int.not_lt.mp h
theorem om102 {p q r:Nat}(h:(p+q)/2≤r)(i:¬r=(p+q)/2):(p+q)/2<r:=Nat.lt_of_le_of_ne h fun a=>i a.symm
theorem om103 {p q r:Int}(h:¬p<q)(i:p<r):q≤r:=by lia
theorem om104 {p q:Nat}(h:p≤q)(i:¬p<q):p=q:=by lia
theorem om105 {p:Int}:¬p<p:=Int.lt_irrefl p
theorem om106 {p q r:Nat}(h:¬p<q)(i:p<r):q<r:=by lia
theorem om107 {p q:Nat}(h:¬p<q)(i:¬p=q):q<p:=by lia
theorem om108 {p q:Int}(h:p≤q)(i:q<p):False:=by lia
theorem om109 {p:Nat}(h:p≤10000):p≤1000000:=by lia
theorem om110 {p q:Nat}:(0:Int)≤↑p+↑q:=Int.zero_le_ofNat (p + q)
theorem om111 {p q:Nat}(h:p+q≤(100000:Nat)):(↑p:Int)+↑q≤1000000000000000000:=by lia
theorem om112 {p:Nat}(h:p≤900):p≤10000:=by lia
theorem om113 {p q:Nat}(h:p≤900)(i:q<p):q≤10000:=by lia
theorem om114 {p q:Nat}(h:(p+q)/2≤10000):p+q≤100000:=by grind
theorem om115 {p:Nat}(h:p≤900):p-0<1000:=by lia
theorem om116 {p:Nat}:0≤p:=Nat.zero_le p
theorem om117 {p q:Nat}(h:p=q):q≤p:=by simp +arith only [*] at *
theorem om118 {p:Nat}{q:Prop}{r s:Int}(h:p<0):q→r<s:=by simp +arith only [*] at *
theorem om119 {p q r:Nat}{s t:Int}(h:p=q)(i:q≤r)(j:r<p):s≤t:=by subst_vars; lia
theorem om120 {p q r:Nat}(h:p=q)(i:r<p):(↑r:Int)<↑q:=by subst_vars; lia
theorem om121 {p q r:Nat}(h:p=q)(i:(↑r:Int)<↑q):r<p:=by subst_vars; lia
theorem om122 {p:Nat}:(0:Int)≤↑p:=Int.natCast_nonneg p
theorem om123 {p q:Nat}(h:p<q)(i:q≤900):p≤10000:=by lia
theorem om124 {p q:Nat}{r s:Int}(h:p≤q)(i:q<p):r≤s:=by lia
theorem om125 {p:Nat}(h:p≤900):p<1000:=by lia
theorem om126 {p:Nat}(h:p≤900):p≤1000000:=by lia
theorem om127 {p:Nat}(h:p-(1:Nat)<p):(↑p:Int)-1=↑(p-1):=by omega
theorem om128 {p:Nat}(h:p≤900):p-1≤10000:=by omega
theorem om129 {p:Int}:p≤p:=Int.le_refl p
theorem om130 {p q:Nat}(h:p<q)(i:¬p=q-1):p<q-1:=by lia
theorem om131 {p q:Int}(h:p<q):p≤q:=Int.le_of_lt h
theorem om132 {p:Int}(h:1≤p):0<p:=Int.lt_of_add_one_le h
theorem om133 {p q:Nat}(h:p≤900)(i:q=p):q≤1000000:=by lia
theorem om134 {p q:Int}(h:p<q):p≠q:=Int.ne_of_lt h
theorem om135 {p q r:Nat}(h:p≤q∧q<r)(i:q<p∨r≤q):False:=by lia
theorem om136 {p q r:Nat}(h:p≤q)(i:r<p):r<q:=Nat.lt_of_lt_of_le i h
theorem om137 {p:Nat}(h:p≤10):p<1000:=by lia
theorem om138 {p q r:Nat}(h:p<q)(i:r≤p):r≤p∧p<q+1:=by lia
theorem om139 {p q r:Nat}(h:p≤q∧q<r):p≤q∧q<r+1:=by lia
theorem om140 {p q r:Nat}(h:p<q)(i:r≤p):r≤p∧p<q+2:=by lia
theorem om141 {p q r:Nat}(h:p≤q∧q<r):p≤q∧q<r+2:=by lia
theorem om142 {p q:Nat}:p+1+q=p+(q+1):=Nat.succ_add_eq_add_succ p q
theorem om143:-1000000000≤0:=Int.neg_ofNat_le_ofNat 1000000000 0
theorem om144 {p:Nat}(h:p≤(10000:Nat)):(↑p:Int)≤1000000000:=by lia
theorem om145 {p q:Nat}(h:p<q):(0:Int)+↑p<↑q:=by lia
theorem om146 {p q:Nat}(h:¬p<q):¬(0:Int)+↑p<↑q:=by lia
theorem om147 {p q r:Int}(h:p=q)(i:r<q):¬r=p:=by grind
theorem om148 {p q r:Int}(h:p=q)(i:q<r):¬r=p:=by grind
theorem om149 {p:Nat}(h:p≤(900:Nat)):-(1000000000:Int)≤↑p∧(↑p:Int)≤1000000000:=by lia
theorem om150 {p q:Nat}(h:p≤900):min q p+(p-q)≤900:=by grind
theorem om151 {p q r:Nat}(h:p≤900)(i:q≤r)(j:r<p):q<1000000:=by lia
theorem om152 {p q r s t u:Nat}(h:p+1≤q)(i:r<p)(j:s<p)(k:t=p∨t=r∨t=s):t<q∨u≤t:=by lia
theorem om153 {p q r s t:Nat}(h:p<q)(i:r<q)(j:s=q∨s=p∨s=r):s<q+1∨t≤s:=by lia
theorem om154 {p:Int}:Int.toNat (p+1-p)=1:=by grind
theorem om155 {p q:Int}(h:p≤q):Int.toNat (q+1+1-p)=Int.toNat (q+1-p)+1:=by grind
theorem om156 {p q:Int}(h:p≤q):p+max (q+1-p) 0=q+1:=by grind
theorem om157:¬(0≤-1∧-1≤1000000000):=of_decide_eq_false rfl
theorem om158:-1000000000≤-1:=Int.le.intro_sub (Nat.succ 999999999 - Nat.succ 0) rfl
theorem om159:-1<0:=Int.sign_eq_neg_one_iff_neg.mp rfl
theorem om160 {p:Nat}:(1:Int)≤↑p+1:=by grind
theorem om161 {p:Nat}:Int.toNat (-1+(↑p+1))=p:=by grind
theorem om162 {p q:Nat}(h:p≤900)(i:q=p):q<1000:=by subst_vars; lia
theorem om163 {p q:Nat}(h:p≤900)(i:q≤p):q≤1000000:=by lia
theorem om164 {p:Nat}:0<p+1:=Nat.zero_lt_succ p
theorem om165 : ¬ ((0 : Int) < (↑((0 : Nat)) : Int)) := Int.lt_irrefl 0
theorem om166 {p:Nat}(h:0<p):p-1<p:=Nat.sub_one_lt_of_lt h
theorem om167 {p q r:Nat}(h:p≤900)(i:q<p)(j:r+1≤q):r≤10000:=by lia
theorem om168 {p:Nat}:(0:Int)<↑(p+1):=Int.ofNat_succ_pos p
theorem om169 {p q:Int}(h:p<q)(i:q≤p+1):q=p+1:=Eq.symm (Int.le_antisymm h i)
theorem om170 {p q r:Int}(h:p≤q)(i:q<r):p≤r:=by lia
theorem om171 {p q r:Nat}(h:p≤q)(i:r<p):r≠q:=by lia
theorem om172 {p q r s t u:Nat}(h:p≤q)(i:r<p)(j:s<p)(k:t<p)(l:q<u):¬q=r∧¬q=s∧¬q=t∧¬q=u:=by lia
theorem om173 {p q r s t u:Nat}(h:p≤q)(i:r=s∨r=t∨r=u∨r=q):(r=s∨r=t∨r=u)∨p≤r:=by lia
theorem om174 {p q r:Nat}(h:p≤q)(i:r<p):¬r=q:=by lia
theorem om175 {p q r:Nat}(h:p≤q)(i:r=q):p≤r:=le_of_le_of_eq h (id (Eq.symm i))
theorem om176 {p q:Nat}(h:p≤900)(i:q≤p):q≤900:=Nat.le_trans i h
theorem om177 {p q r:Nat}(h:p<min q r):p<q:=by grind
theorem om178 {p q r s t:Nat}(h:p=q∨p=r∨p=s):p=q∨p=r∨p=s∨p=t:=by grind
theorem om179 {p q r s:Nat}(h:p≤q)(i:q<r)(j:r<s):p≤s:=by lia
theorem om180 {p q r s t:Nat}(h:p≤q)(i:r<p)(j:s<p)(k:t<p):¬q=r∧¬q=s∧¬q=t:=by lia
theorem om181 {p q:Nat}(h:p<q):q≠p:=by grind
theorem om182 {p q r:Nat}(h:p≤900)(i:q=min r p):q<1000000:=by grind
theorem om183 {p q:Nat}(h:p<q):¬q=p:=Nat.ne_of_lt' h
theorem om184 {p q r s t:Nat}(h:p≤q)(i:r<p)(j:s<p)(k:t<p):¬q=t∧¬q=r∧¬q=s:=by lia
theorem om185 {p q:Nat}(h:p≤900)(i:q≤900):q+p≤1000000:=by grind
theorem om186 {p q r:Nat}(h:p≤900)(i:q≤900):q+min r p≤1800:=by grind
theorem om187 {p:Nat}(h:p≤1800):p<1000000:=by lia
theorem om188 {p:Nat}(h:p≤1800):p≤1000000:=by lia
theorem om189 {p q:Nat}(h:p≤q):1+p≤q+1:=by simp +arith only [*] at *
theorem om190 {p q r s:Nat}(h:p<q)(i:r<q)(j:s<q):¬q=p∧¬q=r∧¬q=s:=by grind
theorem om191 {p q r:Nat}(h:p<q)(i:q≤r):p≠r:=by lia
theorem om192 {p q:Nat}(h:p≤900)(i:q≤900):p+q≤1000000:=by grind
theorem om193 {p q:Nat}(h:p<q):¬p=q:=Nat.ne_of_lt h
theorem om194 {p q r s:Nat}(h:p<q)(i:q<r)(j:s=p∨r≤s):¬s=q:=by lia
theorem om195 {p q r s t:Nat}(h:p<q)(i:p=r∨p=s∨p=t∨p=q)(j:¬p=r∧¬p=s∧¬p=t):False:=by grind
theorem om196 {p q r s t u:Nat}(h:p<q)(i:r<q)(j:s<q)(k:q<t)(l:u=s∨t≤u):¬q=u∧¬q=p∧¬q=r:=by lia
theorem om197 {p q r s:Nat}(h:p<q)(i:q≤r)(j:r≤s):p≤s:=by lia
theorem om198 {p q r:Nat}(h:p<q)(i:q≤r):p≤r:=by lia
theorem om199 {p q r:Nat}(h:p≤q)(i:r<p):q≠r:=by lia
theorem om200 {p q r:Nat}(h:p≤900)(i:q≤900)(j:r≤1):p+q+r≤1000000:=by grind
theorem om201 {p q r s t u:Nat}(h:p=q∨p=r∨p=s∨p=t):(p=q∨p=u∨p=r∨p=s)∨t≤p:=by grind
theorem om202 {p q r s t u v w:Nat}(h:p<q)(i:r=s∨q≤r)(j:t=r∨t=u∨t=v):(t=w∨t=s∨t=u∨t=v)∨p≤t:=by lia
theorem om203 {p q r s t u v w:Nat}(h:p<q)(i:r<q)(j:s<q)(k:t<q)(l:u=t∨v≤u)(m:w=p∨w=r∨w=s∨w=q∨w=u):w<q+1∨v≤w:=by lia
theorem om204 {p q r s:Nat}(h:p≤q)(i:q≤r)(j:r≤s):p≤s:=by lia
theorem om205 {p:Nat}:p≤p+1:=by simp +arith only [*] at *
theorem om206 {p:Nat}:p≤p+2:=by simp +arith only [*] at *
theorem om207 {p:Nat}:p≤p+3:=by simp +arith only [*] at *
theorem om208 {p:Nat}:p≤p+4:=by simp +arith only [*] at *
theorem om209 {p:Nat}:p≤p+5:=by simp +arith only [*] at *
theorem om210 {p:Nat}:p≤p+6:=by simp +arith only [*] at *
theorem om211 {p:Nat}(h:p≤3):p≤1000000:=by lia
theorem om212 {p:Nat}:(↑p:Int)+1-1=↑p:=Int.add_sub_cancel (↑p) 1
theorem om213 {p:Nat}(h:p≤3):p<1000:=by lia
theorem om214 {p q r s:Nat}(h:p<q)(i:q≤r∧r<s):¬r=p:=by lia
theorem om215 {p:Nat}(h:p≤10):p≤1000000:=by lia
theorem om216 {p q r:Nat}(h:p=q+1)(i:r<q):r≠p:=by grind
theorem om217 {p q:Nat}(h:p<q):¬p=q+1:=by grind
theorem om218 {p:Nat}:(0:Int)≤↑p+1-1:=by grind
theorem om219 {p:Nat}:(↑p:Int)+1-1≤↑p+1:=by simp +arith only [*] at *
theorem om220 {p q:Nat}(h:p<q):(↑p:Int)+1≤↑q:=Int.toNat_le.mp h
theorem om221 {p:Nat}:Int.toNat (↑p+1-1)=p:=by grind
theorem om222 {p:Nat}:Int.toNat (↑p+1)=p+1:=Int.toNat_natCast_add_one
theorem om223 {p:Int}(h:-1000000≤p):-1000000000≤p:=by lia
theorem om224 {p:Int}(h:p≤1000000):p+1≤1000000000:=by lia
theorem om225 {p:Nat}{q r:Int}(h:p<Int.toNat (q+1-r)):r+↑p<q+1:=by grind
theorem om226 {p:Nat}{q r:Int}(h:¬p<Int.toNat (q+1-r)):¬r+↑p<q+1:=by grind
theorem om227 {p:Nat}{q r:Int}(h:¬p<Int.toNat (q+1-r)):q+1-r≤↑p:=by grind
theorem om228 {p q:Int}(h:-1000000≤p)(i:p≤1000000)(j:-1000000≤q)(k:q≤1000000):(-1000000000≤p∧p≤1000000000)∧-1000000000≤q+1∧q+1≤1000000000:=by lia
theorem om229 {p q:Int}(h:p≤q):p<q+1:=Int.le_iff_lt_add_one.mp h
theorem om230 {p q:Int}(h:p≤q):max (q-p) 0<q+1-p:=by grind
theorem om231 {p q:Int}(h:p≤q):p+↑(Int.toNat (q-p))=q:=by grind
theorem om232 {p q:Nat}:p≤p+q:=Nat.le_add_right p q
theorem om233 {p q r:Nat}(h:p≤q):p≤r+q:=Nat.le_add_left_of_le h
theorem om234 {p q:Int}(h:0≤p∧p≤1000000)(i:0≤q∧q≤1000000):-1000000≤p∧p≤1000000∧-1000000≤q∧q≤1000000:=by lia
theorem om235 {p q:Nat}(h:p≤900)(i:q≤p):p+q≤1000000:=by grind
theorem om236 {p q r s:Nat}(h:p<q)(i:r<p)(j:q≤s):r≠s:=by lia
theorem om237 {p q:Nat}(h:p≠(0:Nat)):¬(↑(q+p):Int)=↑q:=by grind
theorem om238 {p q r s:Nat}(h:p<q)(i:r<p)(j:q≤s):¬s=r:=by lia
theorem om239 {p q:Int}(h:p≤q):¬q<p:=Int.not_lt_of_ge h
theorem om240 {p q r:Int}(h:p=q)(i:p<r):¬r=q:=by grind
theorem om241 {p q r:Int}(h:p=q)(i:r<p):r≠q:=by grind
theorem om242 {p q r:Nat}(h:p≤q)(i:r<p):¬q=r:=by lia
theorem om243 {p q r:Nat}(h:p=q+1)(i:p≤r):q≤r:=by subst_vars; lia
theorem om244 {p q r s:Nat}(h:p=q+1)(i:p≤r)(j:p≤s):q≤r∧q≤s:=by subst_vars; lia
theorem om245 {p q r s:Nat}(h:p<q)(i:q≤r∧q≤s):r≠p:=by lia
theorem om246 {p q r s:Nat}(h:p<q)(i:q≤r∧q≤s):s≠p:=by lia
theorem om247 {p q:Nat}(h:p+(q+1)≤900):p≤900:=Nat.le_of_add_right_le h
theorem om248 {p q r s:Nat}(h:p≥q∧r≤q)(i:s<r):¬p=s:=by lia
theorem om249 {p q r s:Nat}(h:p<q)(i:r=p):r<q∨s≤r:=by subst_vars; lia
theorem om250 {p q:Nat}:p+(q+1)=p+q+1:=Eq.symm (Nat.add_assoc p q 1)
theorem om251 {p q r:Nat}(h:p≤q)(i:r≤p):r≤q:=by lia
theorem om252 {p q r:Nat}(h:p<q)(i:r=q):p<r:=Nat.lt_of_lt_of_eq h (id (Eq.symm i))
theorem om253 {p:Int}(h:p≤1):p≤2:=by lia
theorem om254 {p q:Nat}(h:p≤100)(i:q=p):q≤900:=by lia
theorem om255 {p q r s:Nat}(h:p≤q∧r≤p)(i:s=q)(j:s<r):False:=by subst_vars; lia
theorem om256:(0:Int)≤1:=Int.one_nonneg
theorem om257 {p q r s:Nat}(h:p≤q∧r≤p)(i:s<r):q≠s:=by lia
theorem om258 {p q r:Nat}(h:p≤100)(i:q=p)(j:r=q):r≤900:=by lia
theorem om259 {p:Nat}(h:p≤100):p≤900:=by lia
theorem om260 {p q r:Int}(h:p≤1000)(i:q=r)(j:1≤q∧q<p):0≤r∧r≤1000000:=by subst_vars; lia
theorem om261 {p q r s:Nat}(h:p≤q∧r≤p)(i:s<r):¬q=s:=by lia
theorem om262 {p q r s:Nat}(h:p≤100)(i:q=p)(j:r=q)(k:s≤r):s≤900:=by lia
theorem om263 {p q r s:Nat}(h:p=q+r+s):0+q+r+s=p:=by simp +arith only [*] at *
theorem om264 {p q r s:Nat}(h:p≤100)(i:q≤100)(j:r≤1)(k:s=p+q+r):1000-s+r+q+p=1000:=by grind
theorem om265 {p q r s:Nat}(h:p≤100)(i:q≤100)(j:r≤1)(k:1000-s+r+q+p=1000):1000-s=999-s+1:=by lia
theorem om266 {p q r s t:Nat}(h:p≤q)(i:q≤r)(j:r≤s∧r≤t):p≤s:=by lia
theorem om267 {p q r s t:Nat}(h:p≤q)(i:q≤r)(j:r≤s∧r≤t):p≤t:=by lia
theorem om268 {p q:Int}(h:p<q)(i:q<p):p=q:=by lia
theorem om269 {p q:Int}(h:p=q)(i:q<p):False:=by simp +arith only [*] at *
theorem om270 {p q:Int}(h:p<q):p+1≤q:=Int.add_one_le_of_lt h
theorem om271 {p q r:Int}(h:p≤q∧q<r):q+1≤r:=by lia
theorem om272 {p q r:Int}{s:Nat}(h:p≤q∧q<r)(i:↑s≤r-(q+1)):↑(s+1)≤r-p:=by grind
theorem om273 {p q:Nat}(h:p≤900)(i:q=p):q≤900:=by simp +arith only [*] at *
theorem om274 {p q:Nat}(h:min p q=p):p≤q:=by lia
theorem om275 {p q:Nat}(h:p≤(900:Nat))(i:q≤p):(↑q:Int)≤1000000000:=by lia
theorem om276 {p q r:Nat}(h:p≤900)(i:q=p)(j:r≤q):r<1000:=by subst_vars; lia
theorem om277 {p q r:Nat}(h:p≤900)(i:q=p)(j:r≤q):r≤1000000:=by lia
theorem om278 {p q:Nat}:p=q↔(↑p:Int)=↑q:=Iff.symm Int.ofNat_inj
theorem om279 {p:Int}{q:Nat}(h:p≤100)(i:↑q≤p-1):q≤100:=by lia
theorem om280 {p q r:Nat}(h:p+1≤q∧q<r):p+1≤r:=by lia
theorem om281 {p:Int}(h:p≤100):p≤1000:=by lia
theorem om282 {p q r:Nat}(h:p=q+1)(i:r<q):r<p+1:=by lia
theorem om283 {p q r:Nat}(h:p=q+1)(i:r<q):r<p:=by subst_vars; lia
theorem om284 {p q r:Nat}(h:p=q+1)(i:p≤r)(j:r<q):False:=by subst_vars; lia
theorem om285 {p q r s:Nat}(h:p=q+1)(i:p≤r)(j:s=r)(k:s<q):False:=by subst_vars; lia
theorem om286 {p q r:Nat}(h:p<q)(i:r=p)(j:q≤r):False:=by subst_vars; lia
theorem om287 {p:Int}{q:Nat}(h:p≤100)(i:↑q≤p-1):q≤900:=by lia
theorem om288 {p q r:Nat}(h:p≤q)(i:q=r)(j:r<p):False:=by subst_vars; lia
theorem om289 {p q r:Nat}(h:p≤q)(i:r=q)(j:r<p):False:=by subst_vars; lia
theorem om290 {p q r s:Nat}(h:p=q+1)(i:r<q)(j:p≤s):r≠s:=by subst_vars; lia
theorem om291 {p q r s t u:Nat}(h:p=q+1)(i:p≤r)(j:r≤s)(k:t<q)(l:s≤u):t≠u:=by subst_vars; lia
theorem om292 {p q r s t:Nat}(h:p=q+1)(i:p≤r)(j:s<q)(k:t=s)(l:r≤t):False:=by subst_vars; lia
theorem om293 {p q r s t:Nat}(h:p<q)(i:r<q)(j:s<q)(k:t<q):¬q=p∧¬q=r∧¬q=s∧¬q=t:=by grind
theorem om294 {p:Nat}(h:p<p):False:=by simp +arith only [*] at *
theorem om295 {p q r:Nat}(h:p<q)(i:r=p):q≠r:=by grind
theorem om296 {p q r:Nat}(h:p=q+1)(i:p≤r):q≠r:=by subst_vars; lia
theorem om297 {p q r s t:Nat}(h:p<q)(i:r<q)(j:s<q)(k:q≠t):¬q=p∧¬q=t∧¬q=r∧¬q=s:=by grind
theorem om298 {p q r s:Nat}(h:p=q+1)(i:r=s)(j:p≤s):q≤r:=by subst_vars; lia
theorem om299 {p q r s t:Nat}(h:p=q+1)(i:p≤r)(j:r≤s)(k:s≤t):q≤t:=by subst_vars; lia
theorem om300 {p q r s:Nat}(h:p=q+1)(i:p≤r)(j:r≤s):q≤s:=by subst_vars; lia
theorem om301 {p:Int}(h:0<p):0≤p:=by lia
theorem om302 {p:Int}(h:0<p):p≠0:=by grind
theorem om303 {p:Nat}(h:p≤100):p≤1000000:=by lia
theorem om304 {p:Nat}(h:p≤1000):p≤10000:=by lia
theorem om305 {p:Nat}(h:p≤(1000:Nat)):-(1000000000:Int)≤↑p∧(↑p:Int)≤1000000000:=by lia
theorem om306 {p:Int}(h:p≤1000000):p≤1000000000000000000:=by lia
theorem om307 {p:Nat}(h:p≤2):p<1000:=by lia
theorem om308 {p q:Nat}(h:p≤2):min q p≤10:=by grind
theorem om309 {p q:Nat}(h:p≤2):min q p<1000000:=by grind
theorem om310 {p:Nat}(h:p≤2):p≤1000000:=by lia
theorem om311 {p:Int}(h:0≤p):p=↑(Int.toNat p):=Int.eq_natCast_toNat.mpr h
theorem om312 {p:Nat}(h:(↑p:Int)<5):p<(5:Nat):=by lia
theorem om313 {p:Nat}(h:(↑p:Int)<5):p≤(10000:Nat):=by lia
theorem om314 {p:Nat}(h:p≤900):p<1000000:=by lia
theorem om315 {p q r:Nat}(h:p=q)(i:r≤q):r≤p:=by simp +arith only [*] at *
theorem om316 {p:Int}(h:0≤p):Int.toNat (p+1)=Int.toNat p+1:=by lia
theorem om317 {p:Nat}{q:Int}(h:p≤1000*Int.toNat q):p≤1000*Int.toNat (q+1):=by lia
theorem om318 {p q r s:Nat}(h:p=q)(i:r<s)(j:s≤q):¬p=r:=by subst_vars; lia
theorem om319 {p q:Nat}(h:p<q)(i:q≤(10000:Nat)):(↑p:Int)≤1000000000:=by lia
theorem om320 {p:Nat}:¬(↑p:Int)<0:=Int.not_ofNat_neg p
theorem om321 {p q:Int}(h:p≤q):p≤q+1:=Int.le_add_one h
theorem om322 {p q r s:Nat}(h:p=q+1)(i:r=p+1)(j:s<q):¬r=s:=by grind
theorem om323 {p:Int}{q r:Nat}(h:p≤100)(i:q≤900)(j:r≤1000*Int.toNat p):r+q≤1000000:=by grind
theorem om324 {p q r s t u:Nat}(h:p=q+1)(i:r=p+1)(j:r<s)(k:t=s+1)(l:u=t):q≤u:=by subst_vars; lia
theorem om325 {p q r s t u v w y:Nat}(h:p=q+1)(i:r=p+1)(j:r<s)(k:t=s+1)(l:u=t)(m:v=u+1)(a:w=v)(b:y=w+1):q≤y:=by subst_vars; lia
theorem om326 {p q r s:Nat}(h:p=q+1)(i:r=p)(j:s=r+1):s≠q:=by subst_vars; lia
theorem om327 {p q r s t u v:Nat}(h:p=q+1)(i:r=p+1)(j:r<s)(k:t=s+1)(l:u=t)(m:v<q):¬u=v:=by subst_vars; lia
theorem om328 {p q r s t u v w y z:Nat}(h:p=q+1)(i:r=p+1)(j:r<s)(k:t=s+1)(l:u=t)(m:v<q)(a:w=u+1)(b:y=w)(c:z=y+1):¬z=v:=by subst_vars; lia
theorem om329 {p q:Nat}{r:Int}(h:p≤900)(i:q≤1000*Int.toNat r)(j:Int.toNat (r+1)=Int.toNat r+1):q+p≤1000*Int.toNat (r+1):=by grind
theorem om330 {p q:Nat}(h:p=q+1):¬p=q:=by subst_vars; lia
theorem om331 {p q r s t:Nat}(h:p=q+1)(i:r=p+1)(j:s=r)(k:t=s+1):¬t=q:=by subst_vars; lia
theorem om332 {p q:Nat}(h:p=q+1):q≤p:=Nat.le.intro (id (Eq.symm h))
theorem om333 {p q r s t:Nat}(h:p=q+1)(i:r=p+1)(j:s=r)(k:t=s+1):q≤t:=by simp +arith only [*] at *
theorem om334 {p q r s t u v w:Nat}(h:p=q+1)(i:r=p+1)(j:s=r)(k:t=s+1)(l:u=t+1)(m:v=u)(a:w=v+1):q≤w:=by simp +arith only [*] at *
theorem om335 {p q r s t u v w:Nat}(h:p=q+1)(i:r=p+1)(j:s=r)(k:t=s+1)(l:u=t+1)(m:v=u)(a:w=v+1):¬w=q:=by subst_vars; lia
theorem om336 {p q r s:Nat}(h:p=q+1)(i:r=p)(j:s=r+1):q≠s:=by subst_vars; lia
theorem om337 {p:Nat}(h:p≤900):p≤1000:=by lia
theorem om338 {p:Nat}(h:p≤900):p+1≤1000:=by lia
theorem om339 {p q r s:Nat}(h:p≤q∧p≤r∧q<s∧r<s):q≠s:=by grind
theorem om340 {p q r s:Nat}(h:p≤q∧p≤r∧q<s∧r<s):r≠s:=by grind
theorem om341 {p q r s t u v:Nat}(h:p=q)(i:r=p)(j:r≤s)(k:r≤t)(l:r≤u)(m:v=r∨v=s∨v=t∨v=u):q≤v:=by subst_vars; lia
theorem om342 {p q r s t u v:Nat}(h:p=q)(i:r=p)(j:r≤s)(k:t≤u)(l:s<t)(m:v=u):q≤v:=by subst_vars; lia
theorem om343 {p q r s t u v w:Nat}(h:p=q)(i:r=p)(j:r≤s)(k:s<t)(l:t≤u∧t≤v∧u<w∧v<w):q≤u:=by subst_vars; lia
theorem om344 {p q r s t u v w:Nat}(h:p=q)(i:r=p)(j:r≤s)(k:s<t)(l:t≤u∧t≤v∧u<w∧v<w):q≤v:=by subst_vars; lia
theorem om345 {p q r:Nat}(h:p≤q)(i:r<p)(j:r=q):False:=by subst_vars; lia
theorem om346 {p q r s t:Nat}(h:p<q)(i:r=p)(j:q≤r∧q≤s∧r<t∧s<t):False:=by subst_vars; lia
theorem om347 {p q r s t:Nat}(h:p<q)(i:r=p)(j:q≤s∧q≤r∧s<t∧r<t):False:=by subst_vars; lia
theorem om348 {p q:Nat}{r:Int}(h:p≤q)(i:r≤↑p):r≤↑q:=by lia
theorem om349 {p q:Int}(h:p<q):p<q+1:=by lia
theorem om350 {p:Int}:p<p+1:=Int.lt_succ p
theorem om351 {p:Int}{q:Nat}(h:1≤p∧p≤↑q):1≤p+1:=by lia
theorem om352 {p:Int}{q:Nat}(h:1≤p∧p≤↑q):p+1≤↑(q+1):=by lia
theorem om353 {p:Int}{q:Nat}(h:0≤p∧p≤↑q):0≤p+1:=by lia
theorem om354 {p:Int}{q:Nat}(h:0≤p∧p≤↑q):p+1≤↑(q+1):=by lia
theorem om355 {p q:Int}{r:Prop}(h:p=q)(i:p<q):r:=by simp +arith only [*] at *
theorem om356 {p q:Int}(h:1≤p∧p<q):p<q+1:=by lia
theorem om357 {p:Nat}{q:Int}(h:p≤90)(i:1≤q∧q≤↑p):q+1≤100:=by lia
theorem om358 {p:Int}{q:Nat}(h:1≤p∧p≤↑q):p≤↑(q+1):=by lia
theorem om359 {p:Int}{q:Nat}(h:0≤p∧p≤↑q):p≤↑(q+1):=by lia
theorem om360 {p q:Int}{r:Prop}(h:p=q+1)(i:p≤q):r:=by simp +arith only [*] at *
theorem om361 {p q r s t:Int}{u:Prop}(h:p=q)(i:1≤p∧p<r∧s≤t∧u):1≤q:=by lia
theorem om362 {p q r s t:Int}{u:Prop}(h:p=q)(i:1≤p∧p<r∧s≤t∧u):q<r:=by subst_vars; lia
theorem om363 {p:Nat}{q:Int}(h:p≤90)(i:0≤q∧q≤↑p):q≤100:=by lia
theorem om364 {p q:Nat}(h:p≤q)(i:q<p):False:=by lia
theorem om365 {p q r:Nat}(h:p≠q)(i:p=r)(j:q=r):False:=by grind
theorem om366 {p q r s t:Nat}(h:p<q)(i:r<q)(j:s<q)(k:q≤t)(l:t=p∨t=r∨t=s):False:=by lia
theorem om367 {p q:Nat}(h:¬p<q):q≤p:=Nat.le_of_not_lt h
theorem om368 {p q:Nat}(h:¬p<q)(i:p-q<1):p=q:=by grind
theorem om369 {p q:Nat}(h:p<q)(i:q≤p):False:=by lia
theorem om370 {p:Nat}(h:p<3):p≤2:=Nat.le_of_lt_succ h
theorem om371 {p q r:Nat}(h:p=q)(i:r<q):r<p:=by simp +arith only [*] at *
theorem om372 {p q:Nat}(h:p<q):min p q=p:=by lia
theorem om373 {p q:Nat}(h:p=q):p≤q:=by simp +arith only [*] at *
theorem om374 {p q:Nat}(h:p=q):q-p=0:=Eq.symm (Nat.eq_sub_of_add_eq' h)
theorem om375 {p:Nat}(h:p≤800):p≤900:=by lia
theorem om376 {p:Nat}(h:p<3):p<1000000:=by lia
theorem om377 {p:Nat}(h:(1:Nat)≤p):(0:Int)<↑p:=Int.natCast_pos.mpr h
theorem om378 {p:Int}{q r:Nat}(h:p<↑q)(i:p=↑r):r<q:=by lia
theorem om379 {p:Nat}{q:Int}{r:Nat}(h:p≤3)(i:q<↑p)(j:q=↑r):r≤10000:=by lia
theorem om380 {p:Nat}(h:(1:Nat)≤p):(↑p:Int)≠0:=Int.natCast_ne_zero_iff_pos.mpr h
theorem om381 {p:Nat}{q:Int}(h:p≤100)(i:1≤q∧q≤↑p):q≤100:=by lia
theorem om382 {p q r s:Nat}(h:p≤q)(i:q≤r)(j:s<p)(k:r=s):False:=by subst_vars; lia
theorem om383 {p:Int}(h:0≤p)(i:p<6):p=0∨p=1∨p=2∨p=3∨p=4∨p=5:=by grind
theorem om384 {p:Nat}(h:p≤700):p≤900:=by lia
theorem om385 {p:Nat}(h:p≤700):p+1≤900:=by lia
theorem om386 {p:Nat}(h:p≤89):p≤90:=Nat.le_succ_of_le h
theorem om387 {p:Nat}:p+2≤p+4:=by simp +arith only [*] at *
theorem om388 {p:Nat}(h:p≤700):p+1+1≤800:=by lia
theorem om389 {p q:Nat}(h:p≤q+1+1+1):p≤q+4:=Nat.le_succ_of_le h
theorem om390 {p:Nat}:p+4≤p+4:=by simp +arith only [*] at *
theorem om391 {p:Nat}(h:p<(3:Nat)):(↑p:Int)<3:=Int.lt_toNat.mp h
theorem om392 {p:Nat}(h:¬p<(3:Nat)):¬(↑p:Int)<3:=by lia
theorem om393 {p:Nat}(h:p≤89):p≤100:=by lia
theorem om394 {p:Nat}:p+3≤p+4:=by simp +arith only [*] at *
theorem om395 {p q r:Nat}(h:p<q)(i:q≤r):r≠p:=by lia
theorem om396 {p q:Nat}(h:¬p=q)(i:p=0)(j:q=0):False:=by grind
theorem om397 {p q r s t:Nat}(h:p<q)(i:r<q)(j:q≤s)(k:s<t)(l:s=p∨s=r∨s=t):False:=by lia
theorem om398 {p q r s t:Nat}(h:p<q)(i:r<q)(j:q≤s)(k:s<t)(l:s=p∨s=t∨s=r):False:=by lia
theorem om399 {p:Nat}:min 60 p≤60:=Nat.min_le_left 60 p
theorem om400:(0:Int)≤60:=Int.zero_le_ofNat 60
theorem om401:(60:Int)≤1000000000:=Int.le.intro_sub (1000000000 - Nat.succ 59) rfl
theorem om402 {p:Nat}(h:p≤63):p≤1000000:=by lia
theorem om403 {p:Nat}:min 60 p<1000:=by lia
theorem om404 {p:Int}(h:0≤p∧p<1000003):-1000000000≤p∧p≤1000000000:=by lia
theorem om405 {p:Nat}(h:p≤60):p≤1000:=by lia
theorem om406 {p:Nat}(h:p≤60):p≤100:=by lia
theorem om407:0≤900:=Nat.zero_le 900
theorem om408 {p:Nat}(h:(↑p:Int)<4):p<(1000:Nat):=by lia
theorem om409 {p:Nat}(h:(↑p:Int)<4):p≤(10000:Nat):=by lia
theorem om410 {p q:Nat}(h:(↑p:Int)<4)(i:q<p):(1:Nat)+q≤800:=by lia
theorem om411 {p q:Nat}(h:(↑p:Int)<4)(i:q<p):(1:Nat)+q≤90:=by lia
theorem om412 {p:Nat}(h:(↑p:Int)<4):-(1000000000:Int)≤↑p∧(↑p:Int)≤1000000000:=by lia
theorem om413 {p:Nat}(h:(↑p:Int)<4):(1:Nat)+p≤800:=by lia
theorem om414 {p:Nat}(h:(↑p:Int)<4):(1:Nat)+p+2≤900:=by lia
theorem om415 {p:Nat}(h:(↑p:Int)<13):p<(1000:Nat):=by lia
theorem om416 {p:Nat}(h:(↑p:Int)<4):(1:Nat)+p≤10+0:=by lia
theorem om417 {p:Nat}(h:(↑p:Int)<4):(1:Nat)+p+2+1≤20+4*0:=by lia
theorem om418 {p:Nat}(h:(↑p:Int)<13):p≤(10000:Nat):=by lia
theorem om419 {p q r:Nat}(h:(↑p:Int)<13)(i:q≤(20:Nat)+4*r)(j:r<p):q≤(700:Nat):=by grind
theorem om420 {p q:Nat}(h:(↑p:Int)<13)(i:q<p):(10:Nat)+q≤89:=by lia
theorem om421 {p q r:Nat}(h:p≤20+4*q)(i:r≤p+4):r≤20+4*(q+1):=by lia
theorem om422 {p:Nat}(h:(↑p:Int)<13):-(1000000000:Int)≤↑p∧(↑p:Int)≤1000000000:=by lia
theorem om423 {p:Nat}(h:1≤p∧p≤3):p<1000:=by lia
theorem om424 {p:Nat}(h:(↑p:Int)<13):(10:Nat)+p≤100:=by lia
end
section
open PySem PySem.W PyProof.Rows PySem.Calls
section
theorem ob1 {α β : Type} {o : Option α} {f : α → Option β} {b : β} (h : o.bind f = some b) {P : Prop} (k : ∀ a, o = some a → f a = some b → P) : P := let ⟨a, x, y⟩ := Option.bind_eq_some_iff.mp h; k a x y
theorem ob2 {α γ β : Type} {o : Option (α × γ)} {f : α × γ → Option β} {b : β} (h : o.bind f = some b) {P : Prop} (k : ∀ a c, o = some (a, c) → f (a, c) = some b → P) : P := let ⟨(a, c), x, y⟩ := Option.bind_eq_some_iff.mp h; k a c x y
theorem ob3 {α γ δ β : Type} {o : Option (α × γ × δ)} {f : α × γ × δ → Option β} {b : β} (h : o.bind f = some b) {P : Prop} (k : ∀ a c d, o = some (a, c, d) → f (a, c, d) = some b → P) : P := let ⟨(a, c, d), x, y⟩ := Option.bind_eq_some_iff.mp h; k a c d x y
theorem oq1 {α β : Type} {o : Option α} {f : α → β} {b : β} (h : o.map f = some b) {P : Prop} (k : ∀ a, o = some a → f a = b → P) : P := let ⟨a, x, y⟩ := Option.map_eq_some_iff.mp h; k a x y
theorem oq2 {α γ β : Type} {o : Option (α × γ)} {f : α × γ → β} {b : β} (h : o.map f = some b) {P : Prop} (k : ∀ a c, o = some (a, c) → f (a, c) = b → P) : P := let ⟨(a, c), x, y⟩ := Option.map_eq_some_iff.mp h; k a c x y
theorem oq3 {α γ δ β : Type} {o : Option (α × γ × δ)} {f : α × γ × δ → β} {b : β} (h : o.map f = some b) {P : Prop} (k : ∀ a c d, o = some (a, c, d) → f (a, c, d) = b → P) : P := let ⟨(a, c, d), x, y⟩ := Option.map_eq_some_iff.mp h; k a c d x y
end
theorem size_update (h : Heap) (a : Addr) (f : Obj → Obj) : (h.update a f).objs.size = h.objs.size := by
 obtain ⟨o, l⟩ := h; simp [Heap.update]
theorem runs_size {M : Model} {Γ : Ctx} {p : Pos} {t : Sem Fin} {fs : List Frame} {s s' : Shared} {e : End} (h : Runs M Γ p t fs s e s') : s.heap.objs.size ≤ s'.heap.objs.size := by
 induction h <;> (try simp only [Shared.setGen, Heap.size_push, size_update] at *) <;> (first | exact om1 | assumption | exact om2 (by assumption) | exact om3 (by assumption) (by assumption))
theorem wakes_size {M : Model} {Γ : Ctx} {p : Pos} {g : Nat} {r : Resume} {s s' : Shared} {res : GenResult} (h : Wakes M Γ p g r s res s') : s.heap.objs.size ≤ s'.heap.objs.size := by
 unfold Wakes at h
 revert h
 cases s.gens[g]? with
 | none => exact False.elim
 | some st => cases st with
  | fresh c => cases r with
   | send v => cases v with
    | none => rintro ⟨e₁, s₁, hr, _, _, rfl⟩; exact (runs_size hr : (s.setGen g .running).heap.objs.size ≤ s₁.heap.objs.size)
    | _ => rintro ⟨_, rfl⟩; exact Nat.le_refl _
   | throw x => rintro ⟨_, rfl⟩; exact Nat.le_refl _
  | suspended => rintro ⟨e₁, s₁, hr, _, _, rfl⟩; exact (runs_size hr : (s.setGen g .running).heap.objs.size ≤ s₁.heap.objs.size)
  | _ => rintro ⟨_, rfl⟩; exact Nat.le_refl _
theorem wp_size {α : Type} (M : Model) (Γ : Ctx) (n : Nat) (t : Sem α) : ∀ (Q : α → Pos → Shared → Prop) (E : Value → Pos → Shared → Prop) (p : Pos) (s : Shared), n ≤ s.heap.objs.size → Sem.wp M Γ t Q E p s →
  Sem.wp M Γ t (fun a p' s' => n ≤ s'.heap.objs.size ∧ Q a p' s') (fun e p' s' => n ≤ s'.heap.objs.size ∧ E e p' s') p s := by
 induction t with
 | pure a => intro Q E p s hn h; exact ⟨hn, h⟩
 | raise e => intro Q E p s hn h; exact ⟨hn, h⟩
 | update a _ f k ih => intro Q E p s hn h; exact ⟨h.1, ih () Q E p _ (by rw [size_update]; exact hn) h.2⟩
 | load a _ k ih => intro Q E p s hn h; obtain ⟨o, ho, h⟩ := h; exact ⟨o, ho, ih o Q E p s hn h⟩
 | alloc o k ih => intro Q E p s hn h; exact ih _ Q E p _ (by rw [Heap.size_push]; exact Nat.le_succ_of_le hn) h
 | choose src m k ih => intro Q E p s hn h; exact ⟨h.1, ih _ Q E p _ hn h.2⟩
 | call c hd _ _ k ih => intro Q E p s hn h; obtain ⟨r, s', hr, h⟩ := h; exact ⟨r, s', hr, ih r Q E p s' (Nat.le_trans hn (runs_size hr)) h⟩
 | genState g k ih => intro Q E p s hn h; obtain ⟨st, hs, h⟩ := h; exact ⟨st, hs, ih _ Q E p s hn h⟩
 | resume g r _ k ih => intro Q E p s hn h; obtain ⟨res, s', hw, h⟩ := h; exact ⟨res, s', hw, ih res Q E p s' (Nat.le_trans hn (wakes_size hw)) h⟩
 | unsupported _ => intro Q E p s _ h; exact h
 | finish _ => intro Q E p s _ h; exact h
 | register _ _ => intro Q E p s _ h; exact h
 | yield _ _ _ _ => intro Q E p s _ h; exact h
 | fork _ _ => intro Q E p s _ h; exact h
 | await _ _ _ _ _ => intro Q E p s _ h; exact h
 | rule _ k ih => intro Q E p s hn h; exact ih () Q E p s hn h
 | «at» p' k ih => intro Q E p s hn h; exact ih () Q E p' s hn h
 | loadIfAlive a k ih => intro Q E p s hn h; exact ih _ Q E p s hn h
 | point _ k ih => intro Q E p s hn h; exact ih () Q E p s hn h
 | fresh k ih => intro Q E p s hn h; exact ih _ Q E p _ hn h
 | ask k ih => intro Q E p s hn h; exact ih _ Q E p s hn h
 | os q _ k ih => intro Q E p s hn h; exact ih _ Q E p _ hn h
 | handled own k ih => intro Q E p s hn h; exact ih _ Q E p s hn h
 | newGen c k ih => intro Q E p s hn h; exact ih _ Q E p _ hn h
 | stack k ih => intro Q E p s hn h; exact ih _ Q E p s hn h
 | thread k ih => intro Q E p s hn h; exact ih _ Q E p s hn h
theorem with_size {α : Type} {M : Model} {A : Around} {s : Shared} {t : Sem α} {Q : α → Shared → Prop} {E : Value → Shared → Prop}
  (h : wpAny M A t (fun a s' => s.heap.objs.size ≤ s'.heap.objs.size → Q a s') E s) : wpAny M A t Q E s :=
 fun Γ p hΓ => Sem.wp_mono M Γ t (fun a _ s' x => x.2 x.1) (fun e _ s' x => x.2) p s (wp_size M Γ s.heap.objs.size t _ _ p s (Nat.le_refl _) (h Γ p hΓ))
inductive V where
 | undef | none | bool (b : Bool) | int (i : Int) | str (s : Str) | bytes (b : Array UInt8) | ref (n : Nat) | tup (xs : List V)
inductive O where
 | list (xs : List V) | raw (ob : Obj) (xs : List V) | idict (es : List (Int × V)) | sdict (es : List (Str × V)) | inst (c : Nat) (fs : List V)
noncomputable def vc {α : Type} (v : V) (b : Bool → Option α) (i : Int → Option α) (s : Str → Option α) (r : Nat → Option α) (t : List V → Option α) (n : Option α) : Option α := match v with | .bool x => b x | .int x => i x | .str x => s x | .ref x => r x | .tup x => t x | .none => n | .undef => none | .bytes _ => none
noncomputable def oc {α : Type} (o : Option O) (l : List V → Option α) (w : List V → Option α) (i : List (Int × V) → Option α) (s : List (Str × V) → Option α) (n : Nat → List V → Option α) : Option α := match o with | none => none | some x => match x with | .list x => l x | .raw _ x => w x | .idict x => i x | .sdict x => s x | .inst c x => n c x
noncomputable def no {α β : Type} : β → Option α := fun _ => none
theorem nf {α β : Type} {A : β → Prop} {r : α} {P : Prop} : ∀ x, A x → no x = some r → P := fun _ _ h => nomatch h
theorem nn {α : Type} {A : Prop} {r : α} {P : Prop} : A → none = some r → P := fun _ h => nomatch h
theorem vc_t {α : Type} {v : V} {b i s r t n} {x : α} (h : vc v b i s r t n = some x) {P : Prop} (kb : ∀ y, v = .bool y → b y = some x → P) (ki : ∀ y, v = .int y → i y = some x → P) (ks : ∀ y, v = .str y → s y = some x → P) (kr : ∀ y, v = .ref y → r y = some x → P) (kt : ∀ y, v = .tup y → t y = some x → P) (kn : v = .none → n = some x → P) : P := by
 cases v with
 | bool y => exact kb y rfl h
 | int y => exact ki y rfl h
 | str y => exact ks y rfl h
 | ref y => exact kr y rfl h
 | tup y => exact kt y rfl h
 | none => exact kn rfl h
 | _ => cases h
theorem oc_t {α : Type} {o : Option O} {l w i s n} {x : α} (h : oc o l w i s n = some x) {P : Prop} (kl : ∀ y, o = some (.list y) → l y = some x → P) (kw : ∀ ob y, o = some (.raw ob y) → w y = some x → P) (ki : ∀ y, o = some (.idict y) → i y = some x → P) (ks : ∀ y, o = some (.sdict y) → s y = some x → P) (kn : ∀ c y, o = some (.inst c y) → n c y = some x → P) : P := by
 cases o with
 | none => cases h
 | some o => cases o with
  | list y => exact kl y rfl h
  | raw ob y => exact kw ob y rfl h
  | idict y => exact ki y rfl h
  | sdict y => exact ks y rfl h
  | inst c y => exact kn c y rfl h
theorem ift {α : Type} {p : Prop} [Decidable p] {x : Option α} {r : α} (h : (if p then x else none) = some r) {P : Prop} (k : p → x = some r → P) : P := by
 by_cases q : p
 ·exact k q ((if_pos q).symm.trans h)
 ·cases (if_neg q).symm.trans h
noncomputable def onBool {α : Type} (v : V) (f : Bool → Option α) : Option α := vc v f no no no no none
noncomputable def onRef {α : Type} (v : V) (f : Nat → Option α) : Option α := vc v no no no f no none
noncomputable def onInt {α : Type} (v : V) (f : Int → Option α) : Option α := vc v no f no no no none
noncomputable def onStr {α : Type} (v : V) (f : Str → Option α) : Option α := vc v no no f no no none
noncomputable def onTup {α : Type} (v : V) (f : List V → Option α) : Option α := vc v no no no no f none
noncomputable def onNone {α : Type} (v : V) (x : Option α) : Option α := vc v no no no no no x
noncomputable def onTR {α : Type} (v : V) (f : List V → Option α) (g : Nat → Option α) : Option α := vc v no no no g f none
noncomputable def onIS {α : Type} (v : V) (f : Int → Option α) (g : Str → Option α) : Option α := vc v no f g no no none
noncomputable def onIR {α : Type} (v : V) (f : Int → Option α) (g : Nat → Option α) : Option α := vc v no f no g no none
noncomputable def onLst {α : Type} (o : Option O) (f : List V → Option α) : Option α := oc o f no no no fun _ => no
noncomputable def onLD {α : Type} (o : Option O) (f : List V → Option α) (g : List (Int × V) → Option α) : Option α := oc o f no g no fun _ => no
noncomputable def onSd {α : Type} (o : Option O) (f : List (Str × V) → Option α) : Option α := oc o no no no f fun _ => no
noncomputable def onIn {α : Type} (o : Option O) (f : Nat → List V → Option α) : Option α := oc o no no no no f
theorem onBool_t {α : Type} {v : V} {f} {r : α} (h : onBool v f = some r) {P : Prop} (k : ∀ n, v = .bool n → f n = some r → P) : P := vc_t h k nf nf nf nf nn
theorem onRef_t {α : Type} {v : V} {f} {r : α} (h : onRef v f = some r) {P : Prop} (k : ∀ n, v = .ref n → f n = some r → P) : P := vc_t h nf nf nf k nf nn
theorem onInt_t {α : Type} {v : V} {f} {r : α} (h : onInt v f = some r) {P : Prop} (k : ∀ n, v = .int n → f n = some r → P) : P := vc_t h nf k nf nf nf nn
theorem onStr_t {α : Type} {v : V} {f} {r : α} (h : onStr v f = some r) {P : Prop} (k : ∀ n, v = .str n → f n = some r → P) : P := vc_t h nf nf k nf nf nn
theorem onTup_t {α : Type} {v : V} {f} {r : α} (h : onTup v f = some r) {P : Prop} (k : ∀ n, v = .tup n → f n = some r → P) : P := vc_t h nf nf nf nf k nn
theorem onNone_t {α : Type} {v : V} {x} {r : α} (h : onNone v x = some r) {P : Prop} (k : v = .none → x = some r → P) : P := vc_t h nf nf nf nf nf k
theorem onTR_t {α : Type} {v : V} {f g} {r : α} (h : onTR v f g = some r) {P : Prop} (k : ∀ xs, v = .tup xs → f xs = some r → P) (l : ∀ n, v = .ref n → g n = some r → P) : P := vc_t h nf nf nf l k nn
theorem onIS_t {α : Type} {v : V} {f g} {r : α} (h : onIS v f g = some r) {P : Prop} (k : ∀ i, v = .int i → f i = some r → P) (l : ∀ s, v = .str s → g s = some r → P) : P := vc_t h nf k l nf nf nn
theorem onIR_t {α : Type} {v : V} {f g} {r : α} (h : onIR v f g = some r) {P : Prop} (k : ∀ i, v = .int i → f i = some r → P) (l : ∀ s, v = .ref s → g s = some r → P) : P := vc_t h nf k nf l nf nn
theorem onLst_t {α : Type} {o f} {r : α} (h : onLst o f = some r) {P : Prop} (k : ∀ xs, o = some (.list xs) → f xs = some r → P) : P := oc_t h k (fun _ => nf) nf nf fun _ => nf
theorem onLD_t {α : Type} {o f g} {r : α} (h : onLD o f g = some r) {P : Prop} (k : ∀ xs, o = some (.list xs) → f xs = some r → P) (l : ∀ es, o = some (.idict es) → g es = some r → P) : P := oc_t h k (fun _ => nf) l nf fun _ => nf
theorem onSd_t {α : Type} {o f} {r : α} (h : onSd o f = some r) {P : Prop} (k : ∀ es, o = some (.sdict es) → f es = some r → P) : P := oc_t h nf (fun _ => nf) nf k fun _ => nf
theorem onIn_t {α : Type} {o f} {r : α} (h : onIn o f = some r) {P : Prop} (k : ∀ c fs, o = some (.inst c fs) → f c fs = some r → P) : P := oc_t h nf (fun _ => nf) nf nf k
noncomputable def arg1 {α : Type} (a : List V) (f : V → Option α) : Option α := match a with | [] => none | x :: r => match r with | [] => f x | _ :: _ => none
noncomputable def arg2 {α : Type} (a : List V) (f : V → V → Option α) : Option α := match a with | [] => none | x :: r => arg1 r (f x)
noncomputable def arg3 {α : Type} (a : List V) (f : V → V → V → Option α) : Option α := match a with | [] => none | x :: r => arg2 r (f x)
theorem arg1_t {α : Type} {a : List V} {f : V → Option α} {r : α} (h : arg1 a f = some r) {P : Prop} (k : ∀ x, a = [x] → f x = some r → P) : P := by
 rcases a with _ | ⟨x, _ | ⟨y, a⟩⟩
 ·cases h
 ·exact k x rfl h
 ·cases h
theorem arg2_t {α : Type} {a : List V} {f : V → V → Option α} {r : α} (h : arg2 a f = some r) {P : Prop} (k : ∀ x y, a = [x, y] → f x y = some r → P) : P := by
 cases a with
 | nil => cases h
 | cons x a => exact arg1_t h fun y e => k x y (by rw [e])
theorem arg3_t {α : Type} {a : List V} {f : V → V → V → Option α} {r : α} (h : arg3 a f = some r) {P : Prop} (k : ∀ x y z, a = [x, y, z] → f x y z = some r → P) : P := by
 cases a with
 | nil => cases h
 | cons x a => exact arg2_t h fun y z e => k x y z (by rw [e])
theorem onBool_c {α : Type} {x f} : onBool (α := α) (.bool x) f = f x := rfl
theorem onRef_c {α : Type} {x f} : onRef (α := α) (.ref x) f = f x := rfl
theorem onInt_c {α : Type} {x f} : onInt (α := α) (.int x) f = f x := rfl
theorem onStr_c {α : Type} {x f} : onStr (α := α) (.str x) f = f x := rfl
theorem onTup_c {α : Type} {x f} : onTup (α := α) (.tup x) f = f x := rfl
theorem onNone_c {α : Type} {x} : onNone (α := α) .none x = x := rfl
theorem onTR_a {α : Type} {x f g} : onTR (α := α) (.tup x) f g = f x := rfl
theorem onTR_b {α : Type} {x f g} : onTR (α := α) (.ref x) f g = g x := rfl
theorem onIS_a {α : Type} {x f g} : onIS (α := α) (.int x) f g = f x := rfl
theorem onIS_b {α : Type} {x f g} : onIS (α := α) (.str x) f g = g x := rfl
theorem onIR_a {α : Type} {x f g} : onIR (α := α) (.int x) f g = f x := rfl
theorem onIR_b {α : Type} {x f g} : onIR (α := α) (.ref x) f g = g x := rfl
theorem onLst_c {α : Type} {x f} : onLst (α := α) (some (.list x)) f = f x := rfl
theorem onLD_a {α : Type} {x f g} : onLD (α := α) (some (.list x)) f g = f x := rfl
theorem onLD_b {α : Type} {x f g} : onLD (α := α) (some (.idict x)) f g = g x := rfl
theorem onSd_c {α : Type} {x f} : onSd (α := α) (some (.sdict x)) f = f x := rfl
theorem onIn_c {α : Type} {c x f} : onIn (α := α) (some (.inst c x)) f = f c x := rfl
theorem arg1_c {α : Type} {x f} : arg1 (α := α) [x] f = f x := rfl
theorem arg2_c {α : Type} {x y f} : arg2 (α := α) [x, y] f = f x y := rfl
theorem arg3_c {α : Type} {x y z f} : arg3 (α := α) [x, y, z] f = f x y z := rfl
theorem vc_r {α : Type} {x b i s r t n} : vc (α := α) (.ref x) b i s r t n = r x := rfl
theorem vc_s {α : Type} {x b i s r t n} : vc (α := α) (.str x) b i s r t n = s x := rfl
theorem vc_i {α : Type} {x b i s r t n} : vc (α := α) (.int x) b i s r t n = i x := rfl
theorem vc_n {α : Type} {b i s r t n} : vc (α := α) .none b i s r t n = n := rfl
theorem oc_l {α : Type} {x l w i s n} : oc (α := α) (some (.list x)) l w i s n = l x := rfl
theorem oc_w {α : Type} {o x l w i s n} : oc (α := α) (some (.raw o x)) l w i s n = w x := rfl
theorem oc_i {α : Type} {x l w i s n} : oc (α := α) (some (.idict x)) l w i s n = i x := rfl
noncomputable abbrev Hp := List O
noncomputable abbrev Loc := List V
noncomputable abbrev Phi := List (Addr × Addr)
noncomputable def Tr (φ : Phi) (a : Addr) : Prop := ∃ p ∈ φ, a = p.1 ∨ a = p.2
theorem Tr.ext {φ t : Phi} {a : Addr} (h : Tr φ a) : Tr (φ ++ t) a := let ⟨p, hp, e⟩ := h; ⟨p, List.mem_append_left _ hp, e⟩
theorem Tr.fst {φ : Phi} {n : Nat} {a d : Addr} (h : φ[n]? = some (a, d)) : Tr φ a := ⟨_, List.mem_of_getElem? h, .inl rfl⟩
theorem Tr.snd {φ : Phi} {n : Nat} {a d : Addr} (h : φ[n]? = some (a, d)) : Tr φ d := ⟨_, List.mem_of_getElem? h, .inr rfl⟩
mutual
noncomputable def VR (φ : Phi) (h : Heap) : V → Value → Prop
 | .undef, _ => False
 | .none, v => v = .none
 | .bool b, v => v = .bool b
 | .int i, v => ∃ t, v = .int i t
 | .str s, v => ∃ t, v = .str s t
 | .bytes b, v => ∃ t, v = .bytes b t
 | .ref n, v => ∃ a d, v = .ref a ∧ φ[n]? = some (a, d)
 | .tup xs, v => ∃ a vs, v = .ref a ∧ IsTup h a (List.toArray vs) ∧ ¬ Tr φ a ∧ VRL φ h xs vs
noncomputable def VRL (φ : Phi) (h : Heap) : List V → List Value → Prop
 | [], vs => vs = []
 | x :: xs, vs => ∃ v r, vs = v :: r ∧ VR φ h x v ∧ VRL φ h xs r
end
noncomputable def DR {K : Type} (φ : Phi) (h : Heap) : List (K × V) → List (K × Value) → Prop
 | [], vs => vs = []
 | x :: xs, vs => ∃ v r, vs = (x.1, v) :: r ∧ VR φ h x.2 v ∧ DR φ h xs r
structure Step (W : Addr → Prop) (φ : Phi) (h : Heap) (φ' : Phi) (h' : Heap) : Prop where
 ext : ∃ t, φ' = φ ++ t
 keep : ∀ b o, h.get? b = some o → ¬ Tr φ b → ¬ W b → h'.get? b = some o
 fresh : ∀ b, Tr φ' b → ¬ Tr φ b → h.objs.size ≤ b
 size : h.objs.size ≤ h'.objs.size
noncomputable abbrev NoW : Addr → Prop := fun _ => False
noncomputable def NoSeq (W : Addr → Prop) (h : Heap) : Prop := ∀ b o xs n, W b → h.get? b = some o → o.cls = .type "tuple" → o.data ≠ .seq xs n
theorem noSeq_no (h : Heap) : NoSeq NoW h := fun _ _ _ _ e => e.elim
theorem Step.refl (W φ h) : Step W φ h φ h := ⟨⟨[], by simp⟩, fun _ _ e _ _ => e, fun b h1 h2 => (h2 h1).elim, Nat.le_refl _⟩
theorem Step.not {W φ h φ' h'} (S : Step W φ h φ' h') {b : Addr} {o : Obj} (e : h.get? b = some o) (n : ¬ Tr φ b) : ¬ Tr φ' b := fun t =>
 absurd (Heap.lt_size e) (Nat.not_lt.mpr (S.fresh b t n))
theorem Step.trans {W φ h φ' h' φ'' h''} (S : Step W φ h φ' h') (S' : Step W φ' h' φ'' h'') : Step W φ h φ'' h'' := by
 obtain ⟨t, rfl⟩ := S.ext
 obtain ⟨t', rfl⟩ := S'.ext
 refine ⟨⟨t ++ t', by simp⟩, fun b o e n w => S'.keep b o (S.keep b o e n w) (S.not e n) w, fun b h1 h2 => ?_, Nat.le_trans S.size S'.size⟩
 by_cases q : Tr (φ ++ t) b
 ·exact S.fresh b q h2
 ·exact Nat.le_trans S.size (S'.fresh b h1 q)
theorem Step.mono {W W' : Addr → Prop} {φ h φ' h'} (S : Step W φ h φ' h') (hw : ∀ b, W b → W' b) : Step W' φ h φ' h' :=
 ⟨S.ext, fun b o e n w => S.keep b o e n (fun x => w (hw b x)), S.fresh, S.size⟩
theorem Step.grow {W φ h h'} (k : ∀ b o, h.get? b = some o → h'.get? b = some o) (sz : h.objs.size ≤ h'.objs.size) : Step W φ h φ h' :=
 ⟨⟨[], by simp⟩, fun b o e _ _ => k b o e, fun b h1 h2 => (h2 h1).elim, sz⟩
theorem Step.but {W φ h φ' h' h''} {a : Addr} (S : Step W φ h φ' h') (hs : ∀ b o, b ≠ a → h'.get? b = some o → h''.get? b = some o) (ha : h.get? a = none) (sz : h'.objs.size ≤ h''.objs.size) : Step W φ h φ' h'' :=
 ⟨S.ext, fun b o e n w => hs b o (fun q => by rw [q, ha] at e; cases e) (S.keep b o e n w), S.fresh, Nat.le_trans S.size sz⟩
mutual
theorem VR.mono {W φ h φ' h'} (S : Step W φ h φ' h') (hW : NoSeq W h) : ∀ (x : V) (v : Value), VR φ h x v → VR φ' h' x v
 | .undef, _, e => by unfold VR at e; exact e.elim
 | .none, _, e => by unfold VR at e ⊢; exact e
 | .bool _, _, e => by unfold VR at e ⊢; exact e
 | .int _, _, e => by unfold VR at e ⊢; exact e
 | .str _, _, e => by unfold VR at e ⊢; exact e
 | .bytes _, _, e => by unfold VR at e ⊢; exact e
 | .ref n, _, e => by
  unfold VR at e ⊢
  obtain ⟨a, d, rfl, e⟩ := e
  obtain ⟨t, rfl⟩ := S.ext
  exact ⟨a, d, rfl, by rw [List.getElem?_append_left (List.getElem?_eq_some_iff.mp e).1]; exact e⟩
 | .tup xs, _, e => by
  unfold VR at e ⊢
  obtain ⟨a, vs, rfl, ht, n, r⟩ := e
  obtain ⟨o, ho, hc, k, hd⟩ := ht
  exact ⟨a, vs, rfl, ⟨o, S.keep a o ho n (fun w => hW a o _ _ w ho hc hd), hc, k, hd⟩, S.not ho n, VRL.mono S hW xs vs r⟩
theorem VRL.mono {W φ h φ' h'} (S : Step W φ h φ' h') (hW : NoSeq W h) : ∀ (x : List V) (v : List Value), VRL φ h x v → VRL φ' h' x v
 | [], _, e => by unfold VRL at e ⊢; exact e
 | x :: xs, _, e => by
  unfold VRL at e ⊢
  obtain ⟨v, r, rfl, a, b⟩ := e
  exact ⟨v, r, rfl, VR.mono S hW x v a, VRL.mono S hW xs r b⟩
end
theorem DR.mono {K : Type} {W φ h φ' h'} (S : Step W φ h φ' h') (hW : NoSeq W h) : ∀ (x : List (K × V)) (v : List (K × Value)), DR φ h x v → DR φ' h' x v
 | [], _, e => e
 | _ :: xs, _, ⟨v, r, e, a, b⟩ => ⟨v, r, e, VR.mono S hW _ _ a, DR.mono S hW xs r b⟩
theorem VRL.length {φ h} : ∀ {xs : List V} {vs : List Value}, VRL φ h xs vs → vs.length = xs.length
 | [], _, e => by unfold VRL at e; subst e; rfl
 | x :: xs, _, e => by unfold VRL at e; obtain ⟨v, r, rfl, _, b⟩ := e; simp [VRL.length b]
theorem VRL.get {φ h} : ∀ {xs : List V} {vs : List Value} {i : Nat} {x : V}, VRL φ h xs vs → xs[i]? = some x → ∃ v, vs[i]? = some v ∧ VR φ h x v
 | [], _, _, _, _, q => by simp at q
 | y :: xs, _, i, x, e, q => by
  unfold VRL at e; obtain ⟨v, r, rfl, a, b⟩ := e
  cases i with
  | zero => simp at q; subst q; exact ⟨v, rfl, a⟩
  | succ i =>
   obtain ⟨z, e1, e2⟩ := VRL.get (i := i) b (by simpa using q)
   exact ⟨z, by simpa using e1, e2⟩
theorem VRL.nil {φ h} : VRL φ h [] [] := by unfold VRL; rfl
theorem VRL.cons {φ h x v xs vs} (a : VR φ h x v) (b : VRL φ h xs vs) : VRL φ h (x :: xs) (v :: vs) := by unfold VRL; exact ⟨v, vs, rfl, a, b⟩
theorem VRL.append {φ h} : ∀ {xs ys : List V} {vs ws : List Value}, VRL φ h xs vs → VRL φ h ys ws → VRL φ h (xs ++ ys) (vs ++ ws)
 | [], _, _, _, e, f => by unfold VRL at e; subst e; exact f
 | x :: xs, _, _, _, e, f => by unfold VRL at e; obtain ⟨v, r, rfl, a, b⟩ := e; exact VRL.cons a (VRL.append b f)
theorem VRL.take {φ h} : ∀ {xs : List V} {vs : List Value} (n : Nat), VRL φ h xs vs → VRL φ h (xs.take n) (vs.take n)
 | [], _, n, e => by unfold VRL at e; subst e; simp; exact VRL.nil
 | x :: xs, _, n, e => by
  unfold VRL at e; obtain ⟨v, r, rfl, a, b⟩ := e
  cases n with
  | zero => simp; exact VRL.nil
  | succ n => simp only [List.take_succ_cons]; exact VRL.cons a (VRL.take n b)
theorem VRL.drop {φ h} : ∀ {xs : List V} {vs : List Value} (n : Nat), VRL φ h xs vs → VRL φ h (xs.drop n) (vs.drop n)
 | [], _, n, e => by unfold VRL at e; subst e; simp; exact VRL.nil
 | x :: xs, _, n, e => by
  unfold VRL at e; obtain ⟨v, r, rfl, a, b⟩ := e
  cases n with
  | zero => exact VRL.cons a b
  | succ n => simp only [List.drop_succ_cons]; exact VRL.drop n b
theorem VRL.set {φ h} : ∀ {xs : List V} {vs : List Value} {x v} (n : Nat), VRL φ h xs vs → VR φ h x v → VRL φ h (xs.set n x) (vs.set n v)
 | [], _, _, _, n, e, _ => by unfold VRL at e; subst e; simp; exact VRL.nil
 | y :: xs, _, x, v, n, e, f => by
  unfold VRL at e; obtain ⟨w, r, rfl, a, b⟩ := e
  cases n with
  | zero => exact VRL.cons f b
  | succ n => exact VRL.cons a (VRL.set n b f)
noncomputable def Lst (h : Heap) (a : Addr) (xs : Array Value) : Prop := ∃ n, h.get? a = some { cls := .type "list", dict := none, data := .seq xs n, slots := #[] }
theorem Lst.isList {h : Heap} {a : Addr} {xs : Array Value} (l : Lst h a xs) : h.IsList a xs := let ⟨n, e⟩ := l; ⟨_, e, rfl, n, rfl⟩
theorem Lst.keep {h h' : Heap} {a : Addr} {xs : Array Value} (l : Lst h a xs) (k : ∀ o, h.get? a = some o → h'.get? a = some o) : Lst h' a xs := let ⟨n, e⟩ := l; ⟨n, k _ e⟩
theorem Lst.new (h : Heap) (xs : Array Value) : Lst (h.push { cls := .type "list", data := .seq xs }) h.objs.size xs := ⟨0, Heap.get?_push_size _ rfl⟩
theorem Lst.upd {h : Heap} {a : Addr} {xs : Array Value} (l : Lst h a xs) (f : Array Value → Array Value) : Lst (h.update a (Obj.mapSeq f)) a (f xs) := let ⟨n, e⟩ := l; ⟨_, IsL.update e f⟩
theorem Lst.append {prog : Program} {w : World} {A : Around} {E : Value → Shared → Prop} {s : Shared} {l : Addr} {items : Array Value} {x : Value} {Q : Value → Shared → Prop} (hl : Lst s.heap l items)
  (hQ : ∀ h', Lst h' l (items.push x) → Heap.SameBut l s.heap h' → Q .none { s with heap := h' }) (hsz : items.size ≤ sizeLine) : wpAny (model prog w) A (call (.builtin "list.append") [.ref l, x]) Q E s := by
 obtain ⟨n, e⟩ := id hl
 exact call_meets slot_list_append hl.isList.typeIs entry_list_append (args_list_append _ _) (PySem.list_append l items n x hsz) ⟨e, hQ _ (hl.upd _) (Heap.SameBut.update ..)⟩
noncomputable def ER (φ : Phi) (h : Heap) : List Str → List V → List DictEntry → Prop
 | _, [], es => es = []
 | [], _ :: _, _ => False
 | x :: xs, v :: vs, es => ∃ hh t u r, es = ⟨hh, .str x t, u⟩ :: r ∧ VR φ h v u ∧ ER φ h xs vs r
theorem ER.mono {W φ h φ' h'} (S : Step W φ h φ' h') (hW : NoSeq W h) : ∀ (xs : List Str) (vs : List V) (es : List DictEntry), ER φ h xs vs es → ER φ' h' xs vs es
 | _, [], _, e => by unfold ER at e ⊢; exact e
 | [], _ :: _, _, e => by unfold ER at e; exact e.elim
 | x :: xs, v :: vs, _, e => by
  unfold ER at e ⊢
  obtain ⟨hh, t, u, r, e1, a, b⟩ := e
  exact ⟨hh, t, u, r, e1, VR.mono S hW _ _ a, ER.mono S hW xs vs r b⟩
section
variable (prog : Program) (w : World) (flds : Nat → List Str)
noncomputable def OR (φ : Phi) (h : Heap) : O → Addr × Addr → Prop
 | .list xs, p => p.2 = p.1 ∧ ∃ vs, Lst h p.1 (List.toArray vs) ∧ VRL φ h xs vs
 | .raw ob xs, p => p.2 = p.1 ∧ h.get? p.1 = some ob ∧ ∃ vs, h.IsList p.1 (List.toArray vs) ∧ VRL φ h xs vs
 | .idict es, p => p.2 = p.1 ∧ p.1 ≠ sysModules ∧ ∃ kvs, h.DictOf (intKind prog w) p.1 kvs ∧ DR φ h es kvs
 | .sdict es, p => p.2 = p.1 ∧ ∃ kvs, h.DictOf (strKind prog w) p.1 kvs ∧ DR φ h es kvs
 | .inst c fs, p => p.1 ≠ p.2 ∧ h.get? p.1 = some (instObj c p.2) ∧ ∃ es k, h.get? p.2 = some (dictOf es k) ∧ ER φ h (flds c) fs es
structure Rel (hb : Heap) (φ : Phi) (σ : Hp) (h : Heap) : Prop where
 len : φ.length = σ.length
 apart : φ.Pairwise fun p q => p.1 ≠ q.1 ∧ p.1 ≠ q.2 ∧ p.2 ≠ q.1 ∧ p.2 ≠ q.2
 objs : ∀ (n : Nat) o p, σ[n]? = some o → φ[n]? = some p → OR prog w flds φ h o p
 base : ∀ b o, hb.get? b = some o → h.get? b = some o
 free : ∀ b, Tr φ b → hb.get? b = none
 alloc : ∀ b, Tr φ b → ∃ o, h.get? b = some o
end
section
variable {prog : Program} {w : World} {flds : Nat → List Str} {hb : Heap} {φ φ' : Phi} {σ : Hp} {h h' : Heap}
theorem OR.mono {W} (S : Step W φ h φ' h') (hW : NoSeq W h) {o : O} {p : Addr × Addr} (k : ∀ b, b = p.1 ∨ b = p.2 → ∀ o, h.get? b = some o → h'.get? b = some o) (e : OR prog w flds φ h o p) : OR prog w flds φ' h' o p := by
 cases o with
 | list xs => obtain ⟨q, vs, l, a⟩ := e; exact ⟨q, vs, l.keep (k _ (.inl rfl)), VRL.mono S hW _ _ a⟩
 | raw ob xs => obtain ⟨q, g, vs, ⟨o, ho, r⟩, a⟩ := e; exact ⟨q, k _ (.inl rfl) _ g, vs, ⟨o, k _ (.inl rfl) _ ho, r⟩, VRL.mono S hW _ _ a⟩
 | idict es => obtain ⟨q, ns, kvs, ⟨o, es', ep, ho, r⟩, a⟩ := e; exact ⟨q, ns, kvs, ⟨o, es', ep, k _ (.inl rfl) _ ho, r⟩, DR.mono S hW _ _ a⟩
 | sdict es => obtain ⟨q, kvs, ⟨o, es', ep, ho, r⟩, a⟩ := e; exact ⟨q, kvs, ⟨o, es', ep, k _ (.inl rfl) _ ho, r⟩, DR.mono S hW _ _ a⟩
 | inst c fs =>
  obtain ⟨q, a, es, n, b, f⟩ := e
  exact ⟨q, k _ (.inl rfl) _ a, es, n, k _ (.inr rfl) _ b, ER.mono S hW _ _ _ f⟩
theorem OR.local {W} (S : Step W φ h φ' h') (hW : NoSeq W h) {o : O} {p : Addr × Addr} (k : ∀ b, b = p.1 ∨ b = p.2 → ∀ o, h.get? b = some o → h'.get? b = some o) (e : OR prog w flds φ h o p) : OR prog w flds φ' h' o p := OR.mono S hW k e
theorem Phi.sep (ha : φ.Pairwise fun p q => p.1 ≠ q.1 ∧ p.1 ≠ q.2 ∧ p.2 ≠ q.1 ∧ p.2 ≠ q.2) {i j : Nat} {p q : Addr × Addr} (hi : φ[i]? = some p) (hj : φ[j]? = some q) (hij : i ≠ j) : p.1 ≠ q.1 ∧ p.1 ≠ q.2 ∧ p.2 ≠ q.1 ∧ p.2 ≠ q.2 := by
 obtain ⟨li, ei⟩ := List.getElem?_eq_some_iff.mp hi
 obtain ⟨lj, ej⟩ := List.getElem?_eq_some_iff.mp hj
 rw [List.pairwise_iff_getElem] at ha
 rcases Nat.lt_or_gt_of_ne hij with l | l
 ·have := ha i j li lj l; rw [ei, ej] at this; exact this
 ·have := ha j i lj li l; rw [ei, ej] at this
  exact ⟨this.1.symm, this.2.2.1.symm, this.2.1.symm, this.2.2.2.symm⟩
theorem Rel.keep {W} (R : Rel prog w flds hb φ σ h) (S : Step W φ h φ h') (hW : NoSeq W h) (hB : ∀ b, W b → hb.get? b = none)
  (k : ∀ b, Tr φ b → ∀ o, h.get? b = some o → h'.get? b = some o) : Rel prog w flds hb φ σ h' :=
 ⟨R.len, R.apart, fun n o p hn hp => OR.mono S hW (fun b hb' o ho => k b ⟨p, List.mem_of_getElem? hp, hb'⟩ o ho) (R.objs n o p hn hp),
  fun b o e => S.keep b o (R.base b o e) (fun t => by rw [R.free b t] at e; cases e) (fun w => by rw [hB b w] at e; cases e),
  R.free, fun b t => let ⟨o, e⟩ := R.alloc b t; ⟨o, k b t o e⟩⟩
theorem Rel.grow (R : Rel prog w flds hb φ σ h) (k : ∀ b o, h.get? b = some o → h'.get? b = some o) (sz : h.objs.size ≤ h'.objs.size) : Rel prog w flds hb φ σ h' :=
 R.keep (W := NoW) (Step.grow k sz) (noSeq_no h) (fun _ e => e.elim) fun b _ o e => k b o e
theorem Rel.update (R : Rel prog w flds hb φ σ h) {n : Nat} {p : Addr × Addr} {o' : O} (hp : φ[n]? = some p) (k : ∀ b o, b ≠ p.1 → b ≠ p.2 → h.get? b = some o → h'.get? b = some o)
  (al : ∀ b, b = p.1 ∨ b = p.2 → ∃ o, h'.get? b = some o) (sz : h.objs.size ≤ h'.objs.size) (ho : Step NoW φ h φ h' → OR prog w flds φ h' o' p) : Rel prog w flds hb φ (σ.set n o') h' ∧ Step NoW φ h φ h' := by
 have S : Step NoW φ h φ h' := ⟨⟨[], by simp⟩, fun b o e n _ => k b o (fun q => n (q ▸ ⟨p, List.mem_of_getElem? hp, .inl rfl⟩)) (fun q => n (q ▸ ⟨p, List.mem_of_getElem? hp, .inr rfl⟩)) e,
  fun b h1 h2 => (h2 h1).elim, sz⟩
 refine ⟨⟨by rw [List.length_set]; exact R.len, R.apart, fun m o q hm hq => ?_, fun b o e => ?_, R.free, fun b t => ?_⟩, S⟩
 ·by_cases hnm : m = n
  ·subst hnm
   rw [hp] at hq; cases hq
   rw [List.getElem?_set_self (by rw [← R.len]; exact (List.getElem?_eq_some_iff.mp hp).1)] at hm
   cases hm
   exact ho S
  ·rw [List.getElem?_set_ne (Ne.symm hnm)] at hm
   refine OR.mono S (noSeq_no h) (fun b hb' o ho' => ?_) (R.objs m o q hm hq)
   have sp := Phi.sep R.apart hq hp hnm
   rcases hb' with rfl | rfl
   ·exact k _ _ sp.1 sp.2.1 ho'
   ·exact k _ _ sp.2.2.1 sp.2.2.2 ho'
 ·refine S.keep b o (R.base b o e) (fun t => by rw [R.free b t] at e; cases e) (fun x => x)
 ·obtain ⟨o, e⟩ := R.alloc b t
  by_cases h1 : b = p.1
  ·exact al b (.inl h1)
  ·by_cases h2 : b = p.2
   ·exact al b (.inr h2)
   ·exact ⟨o, k b o h1 h2 e⟩
theorem Rel.alloc' (R : Rel prog w flds hb φ σ h) {a d : Addr} {o : O} (k : ∀ b o, h.get? b = some o → h'.get? b = some o) (ha : h.objs.size ≤ a) (hd : h.objs.size ≤ d) (sz : h.objs.size ≤ h'.objs.size)
  (ha' : ∃ o, h'.get? a = some o) (hd' : ∃ o, h'.get? d = some o)
  (ho : Step NoW φ h (φ ++ [(a, d)]) h' → OR prog w flds (φ ++ [(a, d)]) h' o (a, d)) : Rel prog w flds hb (φ ++ [(a, d)]) (σ ++ [o]) h' ∧ Step NoW φ h (φ ++ [(a, d)]) h' := by
 have tr : ∀ b, Tr (φ ++ [(a, d)]) b → Tr φ b ∨ b = a ∨ b = d := fun b ⟨p, hp, e⟩ => by
  rcases List.mem_append.mp hp with q | q
  ·exact .inl ⟨p, q, e⟩
  ·rw [List.mem_singleton.mp q] at e; exact .inr e
 have nt : ∀ b, Tr φ b → b ≠ a ∧ b ≠ d := fun b t => by
  obtain ⟨o, e⟩ := R.alloc b t
  have := Heap.lt_size e
  exact ⟨fun q => by subst q; exact absurd this (Nat.not_lt.mpr ha), fun q => by subst q; exact absurd this (Nat.not_lt.mpr hd)⟩
 have S : Step NoW φ h (φ ++ [(a, d)]) h' := ⟨⟨_, rfl⟩, fun b o e _ _ => k b o e, fun b h1 h2 => by
   rcases tr b h1 with q | rfl | rfl
   ·exact (h2 q).elim
   ·exact ha
   ·exact hd, sz⟩
 refine ⟨⟨by simp [R.len], ?_, fun m o' q hm hq => ?_, fun b o e => k b o (R.base b o e), fun b t => ?_, fun b t => ?_⟩, S⟩
 ·rw [List.pairwise_append]
  refine ⟨R.apart, List.pairwise_singleton _ _, fun p hp q hq => ?_⟩
  rw [List.mem_singleton.mp hq]
  have t1 := nt p.1 ⟨p, hp, .inl rfl⟩
  have t2 := nt p.2 ⟨p, hp, .inr rfl⟩
  exact ⟨t1.1, t1.2, t2.1, t2.2⟩
 ·by_cases hl : m < φ.length
  ·rw [List.getElem?_append_left hl] at hq
   rw [List.getElem?_append_left (R.len ▸ hl)] at hm
   exact OR.mono S (noSeq_no h) (fun b _ o e => k b o e) (R.objs m o' q hm hq)
  ·have hm' : m = φ.length := by
    have := (List.getElem?_eq_some_iff.mp hq).1
    simp at this; exact om4 hl this
   subst hm'
   rw [List.getElem?_append_right (Nat.le_refl _)] at hq
   rw [R.len, List.getElem?_append_right (Nat.le_refl _)] at hm
   simp at hq hm
   subst hq hm
   exact ho S
 ·rcases tr b t with q | rfl | rfl
  ·exact R.free b q
  ·cases q : hb.get? b with
   | none => rfl
   | some o => exact absurd (Heap.lt_size (R.base b o q)) (Nat.not_lt.mpr ha)
  ·cases q : hb.get? b with
   | none => rfl
   | some o => exact absurd (Heap.lt_size (R.base b o q)) (Nat.not_lt.mpr hd)
 ·rcases tr b t with q | rfl | rfl
  ·obtain ⟨o, e⟩ := R.alloc b q
   exact ⟨o, k b o e⟩
  ·exact ha'
  ·exact hd'
end
noncomputable def FA (env : Env) (b : Addr) : Prop := b = env.locals ∨ ∃ n, (n, b) ∈ env.cells
structure Frame (hb : Heap) (nm : List Str) (env : Env) (φ : Phi) (ρ : Loc) (h : Heap) : Prop where
 kind : env.scope.kind = .function
 glob : env.globals = mainGlobals
 blt : env.builtins = builtinsNs
 ns : ∃ m, h.Ns env.locals m ∧ ∀ (i : Nat) x v, nm[i]? = some x → ρ[i]? = some v → v ≠ .undef → env.kindOf x = some .local → ∃ v', m x = some v' ∧ VR φ h v v'
 cel : ∀ n c, (n, c) ∈ env.cells → ∃ v, h.IsCell c v
 celv : ∀ (i : Nat) x c v, nm[i]? = some x → ρ[i]? = some v → v ≠ .undef → env.kindOf x = some .cell → env.cells.lookup x = some c → ∃ v', h.IsCell c (some v') ∧ VR φ h v v'
 celx : ∀ x, env.kindOf x = some .cell → ∃ c, env.cells.lookup x = some c
 ap : env.cells.Pairwise fun x y => x.2 ≠ y.2
 apL : ∀ n c, (n, c) ∈ env.cells → c ≠ env.locals
 nt : ∀ b, FA env b → ¬ Tr φ b
 nb : ∀ b, FA env b → hb.get? b = none
variable {hb : Heap} {nm : List Str} {env : Env} {φ φ' : Phi} {ρ : Loc} {h h' : Heap}
theorem Frame.noSeq (F : Frame hb nm env φ ρ h) : NoSeq (FA env) h := fun b o xs n w e _ q => by
 rcases w with rfl | ⟨x, hx⟩
 ·obtain ⟨m, ⟨o', es, ep, ho, hd, _⟩, _⟩ := F.ns
  rw [e] at ho; cases ho; rw [q] at hd; cases hd
 ·obtain ⟨v, o', ho, hd⟩ := F.cel _ _ hx
  rw [e] at ho; cases ho; rw [q] at hd; cases hd
theorem Frame.alive (F : Frame hb nm env φ ρ h) : ∀ b, FA env b → ∃ o, h.get? b = some o := fun b w => by
 rcases w with rfl | ⟨x, hx⟩
 ·obtain ⟨m, ⟨o', es, ep, ho, _⟩, _⟩ := F.ns; exact ⟨_, ho⟩
 ·obtain ⟨v, o', ho, hd⟩ := F.cel _ _ hx; exact ⟨_, ho⟩
theorem Frame.step {W} (F : Frame hb nm env φ ρ h) (S : Step W φ h φ' h') (hW : NoSeq W h) (hn : ∀ b, FA env b → ¬ W b) : Frame hb nm env φ' ρ h' := by
 have k : ∀ b o, FA env b → h.get? b = some o → h'.get? b = some o := fun b o w e => S.keep b o e (F.nt b w) (hn b w)
 obtain ⟨m, ⟨o, es, ep, ho, r⟩, f⟩ := F.ns
 refine ⟨F.kind, F.glob, F.blt, ⟨m, ⟨o, es, ep, k _ _ (.inl rfl) ho, r⟩, fun i x v h1 h2 h3 h4 => ?_⟩, fun n c hc => ?_, fun i x c v h1 h2 h3 h4 h5 => ?_, F.celx, F.ap, F.apL, fun b w => ?_, F.nb⟩
 ·obtain ⟨v', a, b⟩ := f i x v h1 h2 h3 h4
  exact ⟨v', a, VR.mono S hW _ _ b⟩
 ·obtain ⟨v, o, ho, hd⟩ := F.cel n c hc
  exact ⟨v, o, k _ _ (.inr ⟨n, hc⟩) ho, hd⟩
 ·obtain ⟨v', ⟨o, ho, hd⟩, b⟩ := F.celv i x c v h1 h2 h3 h4 h5
  exact ⟨v', ⟨o, k _ _ (.inr ⟨x, mem_of_lookup h5⟩) ho, hd⟩, VR.mono S hW _ _ b⟩
 ·obtain ⟨o, e⟩ := F.alive b w
  exact S.not e (F.nt b w)
theorem Frame.exprStep (F : Frame hb nm env φ ρ h) (S : Step NoW φ h φ' h') : Frame hb nm env φ' ρ h' := F.step S (noSeq_no h) fun _ _ e => e
noncomputable def Room (n : Nat) (A : Around) : Prop := A.handled = none ∧ A.depth + 2 * n ≤ 900 ∧ A.units + 8 * n ≤ 9000
theorem Room.mono {n m : Nat} {A : Around} (r : Room n A) (h : m ≤ n) : Room m A := ⟨r.1, by have := r.2.1; exact om5 h this, by have := r.2.2; exact om6 h this⟩
theorem Room.handled {n : Nat} {A : Around} (r : Room n A) : A.handled = none := r.1
theorem Room.depth {n : Nat} {A : Around} (r : Room n A) : A.depth < recursionLimit := by have := r.2.1; unfold recursionLimit; exact om7 this
theorem Room.units {n : Nat} {A : Around} (r : Room n A) : A.units + 64 < cLine := by have := r.2.2; unfold cLine; exact om8 this
inductive Fl where
 | next | ret (v : V)
noncomputable def FR (φ : Phi) (h : Heap) : Fl → Flow → Prop
 | .next, f => f = .next
 | .ret v, f => ∃ v', f = .ret v' ∧ VR φ h v v'
structure Cx where
 prog : Program
 w : World
 K : Frag
 flds : Nat → List Str
 hb : Heap
 mg : Str → Option Value
 mb : Str → Option Value
 kin : K.In hb
 g : hb.Ns mainGlobals mg
 b : hb.Ns builtinsNs mb
 lim : hb.NoLimit
 mbs : ∀ x : Str, x ≠ "__name__" → mb x = bootBuiltins x
noncomputable abbrev Cx.M (c : Cx) : Model := model c.prog c.w
noncomputable abbrev Cx.R (c : Cx) (φ : Phi) (σ : Hp) (h : Heap) : Prop := Rel c.prog c.w c.flds c.hb φ σ h
theorem Cx.KIn (c : Cx) {φ σ h} (R : c.R φ σ h) : c.K.In h := c.kin.keeps R.base
noncomputable def Fn := Loc → Hp → Option (V × Hp)
noncomputable def FnL := Loc → Hp → Option (List V × Hp)
noncomputable def St := Loc → Hp → Option (Fl × Loc × Hp)
noncomputable def KE (c : Cx) (φ : Phi) (s : Shared) (v : V) (σ' : Hp) (Q : Value → Shared → Prop) : Prop :=
 ∀ φ' h' t' v', Step NoW φ s.heap φ' h' → c.R φ' σ' h' → VR φ' h' v v' → Q v' { s with heap := h', toks := t' }
noncomputable def SE (c : Cx) (sc : Scope) (nm : List Str) (n : Nat) (e : Expr) (f : Fn) : Prop :=
 ∀ A env φ ρ σ s v σ' Q E, env.scope = sc → Room n A → Frame c.hb nm env φ ρ s.heap → c.R φ σ s.heap → f ρ σ = some (v, σ') →
  KE c φ s v σ' Q → wpAny c.M A (eval e env) Q E s
noncomputable def SL (c : Cx) (sc : Scope) (nm : List Str) (n : Nat) (es : List Expr) (f : FnL) : Prop :=
 (∀ env, (starEach es env).any (·.1) = false) ∧ ∀ A env φ ρ σ s vs σ' Q E pos, env.scope = sc → Room n A → Frame c.hb nm env φ ρ s.heap → c.R φ σ s.heap → f ρ σ = some (vs, σ') →
  (∀ φ' h' t' vs', Step NoW φ s.heap φ' h' → c.R φ' σ' h' → VRL φ' h' vs vs' → Q vs' { s with heap := h', toks := t' }) → wpAny c.M A (spliced (backTo pos (starEach es env))) Q E s
noncomputable def S1 (c : Cx) (sc : Scope) (nm : List Str) (n : Nat) (st : Stmt) (g : St) : Prop :=
 ∀ A env φ ρ σ s fl ρ' σ' Q E, env.scope = sc → Room n A → Frame c.hb nm env φ ρ s.heap → c.R φ σ s.heap → g ρ σ = some (fl, ρ', σ') →
  (∀ φ' h' t' fl', Step (FA env) φ s.heap φ' h' → c.R φ' σ' h' → Frame c.hb nm env φ' ρ' h' → FR φ' h' fl fl' → Q fl' { s with heap := h', toks := t' }) → wpAny c.M A (exec st env) Q E s
noncomputable def SS (c : Cx) (sc : Scope) (nm : List Str) (n : Nat) (ss : List Stmt) (g : St) : Prop :=
 ∀ A env φ ρ σ s fl ρ' σ' Q E, env.scope = sc → Room n A → Frame c.hb nm env φ ρ s.heap → c.R φ σ s.heap → g ρ σ = some (fl, ρ', σ') →
  (∀ φ' h' t' fl', Step (FA env) φ s.heap φ' h' → c.R φ' σ' h' → Frame c.hb nm env φ' ρ' h' → FR φ' h' fl fl' → Q fl' { s with heap := h', toks := t' }) → wpAny c.M A (execs ss env) Q E s
noncomputable def ST (c : Cx) (sc : Scope) (nm : List Str) (n : Nat) (e : Expr) (f : Loc → Hp → Option (Bool × Hp)) : Prop :=
 ∀ A env φ ρ σ s b σ' Q E, env.scope = sc → Room n A → Frame c.hb nm env φ ρ s.heap → c.R φ σ s.heap → f ρ σ = some (b, σ') →
  (∀ φ' h' t', Step NoW φ s.heap φ' h' → c.R φ' σ' h' → Q b { s with heap := h', toks := t' }) → wpAny c.M A (isTrue e env (eval e env)) Q E s
section
variable {c : Cx} {sc : Scope} {n : Nat}
theorem KE.here {s : Shared} {v : V} {σ : Hp} {Q : Value → Shared → Prop} {v' : Value} {t : Nat} (k : KE c φ s v σ Q) (R : c.R φ σ s.heap) (hv : VR φ s.heap v v') : Q v' { s with heap := s.heap, toks := t } :=
 k φ s.heap t v' (Step.refl _ _ _) R hv
noncomputable def cInt (i : Int) : Fn := fun _ σ => some (.int i, σ)
noncomputable def cStr (x : Str) : Fn := fun _ σ => some (.str x, σ)
noncomputable def cBool (b : Bool) : Fn := fun _ σ => some (.bool b, σ)
noncomputable def cBytes (b : Array UInt8) : Fn := fun _ σ => some (.bytes b, σ)
noncomputable def cNone : Fn := fun _ σ => some (.none, σ)
theorem SE.int {i k pos} : SE c sc nm n (.Constant (.int i) k pos) (cInt i) := fun A env φ ρ σ s v σ' Q E _ _ F R hf k' => by
 cases hf
 exact wpAny_Constant_int (k'.here R (by unfold VR; exact ⟨_, rfl⟩))
theorem SE.str {x k pos} : SE c sc nm n (.Constant (.str x) k pos) (cStr x) := fun A env φ ρ σ s v σ' Q E _ _ F R hf k' => by
 cases hf
 exact Constant_str (k'.here R (by unfold VR; exact ⟨_, rfl⟩))
theorem SE.bool {x k pos} : SE c sc nm n (.Constant (.bool x) k pos) (cBool x) := fun A env φ ρ σ s v σ' Q E _ _ F R hf k' => by
 cases hf
 exact wpAny_pure (k'.here (t := s.toks) R (by unfold VR; rfl))
theorem SE.none {k pos} : SE c sc nm n (.Constant .none k pos) cNone := fun A env φ ρ σ s v σ' Q E _ _ F R hf k' => by
 cases hf
 exact wpAny_pure (k'.here (t := s.toks) R (by unfold VR; rfl))
theorem SE.bytes {x k pos} : SE c sc nm n (.Constant (.bytes x) k pos) (cBytes x.toArray) := fun A env φ ρ σ s v σ' Q E _ _ F R hf k' => by
 cases hf
 exact wpAny_mkTextBytes (k'.here R (by unfold VR; exact ⟨_, rfl⟩))
noncomputable def nu (v : V) : Bool := match v with | .undef => false | .none => true | .bool _ => true | .int _ => true | .str _ => true | .bytes _ => true | .ref _ => true | .tup _ => true
theorem nu_r {n} : nu (.ref n) = true := rfl
theorem nu_i {n} : nu (.int n) = true := rfl
theorem nu_s {n} : nu (.str n) = true := rfl
theorem nu_b {n} : nu (.bool n) = true := rfl
theorem nu_t {n} : nu (.tup n) = true := rfl
theorem nu_n : nu .none = true := rfl
noncomputable def var (i : Nat) : Fn := fun ρ σ => ρ[i]?.bind fun v => cond (nu v) (some (v, σ)) Option.none
theorem var_some {i : Nat} {ρ : Loc} {σ σ' : Hp} {v : V} (h : var i ρ σ = some (v, σ')) : ρ[i]? = some v ∧ v ≠ .undef ∧ σ' = σ := by
 unfold var at h
 refine ob1 h fun v' h1 h => ?_
 cases q : nu v' with
 | false => rw [q] at h; cases h
 | true => rw [q] at h; cases h; exact ⟨h1, fun e => (by rw [e] at q; cases q), rfl⟩
noncomputable def kindIn (sc : Scope) (x : Str) : Option NameKind := sc.names.lookup x
theorem kindOf_eq {env : Env} (h : env.scope = sc) (x : Str) : env.kindOf x = kindIn sc x := by subst h; rfl
theorem SE.name {x pos} {i : Nat} (hi : nm[i]? = some x) (hk : kindIn sc x = some .local ∨ kindIn sc x = some .cell) (hd : (x == ("__debug__" : Str)) = false) : SE c sc nm n (.Name x pos) (var i) := fun A env φ ρ σ s v σ' Q E he _ F R hf k' => by
 obtain ⟨h1, h2, rfl⟩ := var_some hf
 refine wpAny_Name ?_ hd
 rw [← kindOf_eq he] at hk
 rcases hk with hk | hk
 ·obtain ⟨m, hns, f⟩ := F.ns
  obtain ⟨v', h3, h4⟩ := f i x v hi h1 h2 hk
  exact wpAny_loadName_local F.kind hk hns h3 (k'.here (t := s.toks) R h4)
 ·obtain ⟨ca, hca⟩ := F.celx x hk
  obtain ⟨v', h3, h4⟩ := F.celv i x ca v hi h1 h2 hk hca
  exact wpAny_loadName_cell F.kind hk hca h3 (k'.here (t := s.toks) R h4)
theorem SE.gname {x pos} {u : Str} {t : Tok} (hk : kindIn sc x = some .globalImplicit) (hd : (x == ("__debug__" : Str)) = false) (hg : nsIn c.K mainGlobals x = some (some (.str u t))) : SE c sc nm n (.Name x pos) (cStr u) := fun A env φ ρ σ s v σ' Q E he _ F R hf k' => by
 cases hf
 refine Name_function_global F.kind ((kindOf_eq he x).trans hk) ?_ hd
 exact loadGlobal_global (by rw [F.glob]; exact c.g.keeps R.base) (mg_of c.kin c.g hg) (k'.here (t := s.toks) R (by unfold VR; exact ⟨_, rfl⟩))
theorem SE.gint {x pos} {u : Int} {t : Tok} (hk : kindIn sc x = some .globalImplicit) (hd : (x == ("__debug__" : Str)) = false) (hg : nsIn c.K mainGlobals x = some (some (.int u t))) : SE c sc nm n (.Name x pos) (cInt u) := fun A env φ ρ σ s v σ' Q E he _ F R hf k' => by
 cases hf
 refine Name_function_global F.kind ((kindOf_eq he x).trans hk) ?_ hd
 exact loadGlobal_global (by rw [F.glob]; exact c.g.keeps R.base) (mg_of c.kin c.g hg) (k'.here (t := s.toks) R (by unfold VR; exact ⟨_, rfl⟩))
end
end
section
open PySem PySem.W PyProof.Rows PySem.Calls
variable {c : Cx} {sc : Scope} {nm : List Str} {n : Nat} {env : Env} {φ φ' : Phi} {ρ : Loc} {h h' : Heap}
theorem KE.after {s : Shared} {v : V} {σ : Hp} {Q : Value → Shared → Prop} {φ₁ : Phi} {h₁ : Heap} {t₁ : Nat} (k : KE c φ s v σ Q) (S : Step NoW φ s.heap φ₁ h₁) : KE c φ₁ { s with heap := h₁, toks := t₁ } v σ Q :=
 fun φ' h' t' v' S' R hv => k φ' h' t' v' (S.trans S') R hv
noncomputable def Op1 (c : Cx) (prim : Value → Sem Value) (op : V → Hp → Option (V × Hp)) : Prop :=
 ∀ n A φ σ s x vx v σ' Q E, Room n A → c.R φ σ s.heap → VR φ s.heap x vx → op x σ = some (v, σ') → KE c φ s v σ' Q → wpAny c.M A (prim vx) Q E s
noncomputable def Op2 (c : Cx) (prim : Value → Value → Sem Value) (op : V → V → Hp → Option (V × Hp)) : Prop :=
 ∀ n A φ σ s x y vx vy v σ' Q E, Room n A → c.R φ σ s.heap → VR φ s.heap x vx → VR φ s.heap y vy → op x y σ = some (v, σ') → KE c φ s v σ' Q → wpAny c.M A (prim vx vy) Q E s
noncomputable def OpL (c : Cx) (n : Nat) (prim : List Value → Sem Value) (op : List V → Hp → Option (V × Hp)) : Prop :=
 ∀ A φ σ s xs vxs v σ' Q E, Room n A → c.R φ σ s.heap → VRL φ s.heap xs vxs → op xs σ = some (v, σ') → KE c φ s v σ' Q → wpAny c.M A (prim vxs) Q E s
noncomputable def un1 (o : V → Hp → Option (V × Hp)) (f : Fn) : Fn := fun ρ σ => (f ρ σ).bind fun p => o p.1 p.2
noncomputable def bin2 (o : V → V → Hp → Option (V × Hp)) (f g : Fn) : Fn := fun ρ σ => (f ρ σ).bind fun p => (g ρ p.2).bind fun q => o p.1 q.1 q.2
noncomputable def tst (f : Fn) : Loc → Hp → Option (Bool × Hp) := fun ρ σ => (f ρ σ).bind fun p => onBool p.1 fun b => some (b, p.2)
theorem two {l r : Expr} {f g : Fn} {prim : Value → Value → Sem Value} {o : V → V → Hp → Option (V × Hp)} (hl : SE c sc nm n l f) (hr : SE c sc nm n r g) (ho : Op2 c prim o)
  {A env φ ρ σ s v σ' Q E} (he : env.scope = sc) (hA : Room n A) (F : Frame c.hb nm env φ ρ s.heap) (R : c.R φ σ s.heap) (hf : bin2 o f g ρ σ = some (v, σ')) (k : KE c φ s v σ' Q) :
  wpAny c.M A (eval l env) (fun a s₁ => wpAny c.M A (eval r env) (fun b s₂ => wpAny c.M A (prim a b) Q E s₂) E s₁) E s := by
 unfold bin2 at hf
 refine ob2 hf fun v₁ σ₁ h1 hf => ?_
 refine ob2 hf fun v₂ σ₂ h2 hf => ?_
 refine hl A env φ ρ σ s v₁ σ₁ _ E he hA F R h1 fun φ₁ h₁ t₁ a S₁ R₁ va => ?_
 refine hr A env φ₁ ρ σ₁ _ v₂ σ₂ _ E he hA (F.exprStep S₁) R₁ h2 fun φ₂ h₂ t₂ b S₂ R₂ vb => ?_
 exact ho n A φ₂ σ₂ _ v₁ v₂ a b v σ' Q E hA R₂ (VR.mono S₂ (noSeq_no _) _ _ va) vb hf ((k.after S₁).after S₂)
theorem SE.bin {l r : Expr} {op : Operator} {pos} {f g : Fn} {o} (hl : SE c sc nm n l f) (hr : SE c sc nm n r g) (ho : Op2 c (binaryOp op) o) : SE c sc nm n (.BinOp l op r pos) (bin2 o f g) :=
 fun _ _ _ _ _ _ _ _ _ _ he hA F R hf k => wpAny_BinOp (two hl hr ho he hA F R hf k)
theorem SE.cmp {l r : Expr} {op : CmpOp} {pos} {f g : Fn} {o} (hl : SE c sc nm n l f) (hr : SE c sc nm n r g) (ho : Op2 c (compareOp op) o) (hm : behindInMarks op r = false) : SE c sc nm n (.Compare l [op] [r] pos) (bin2 o f g) :=
 fun _ _ _ _ _ _ _ _ _ _ he hA F R hf k => wpAny_Compare1 (two hl hr ho he hA F R hf k) hm
theorem ST.cmp {l r : Expr} {op : CmpOp} {pos} {f g : Fn} {o} (hl : SE c sc nm n l f) (hr : SE c sc nm n r g) (ho : Op2 c (compareOp op) o) (hm : behindInMarks op r = false) : ST c sc nm n (.Compare l [op] [r] pos) (tst (bin2 o f g)) := by
 intro A env φ ρ σ s b σ' Q E he hA F R hf k
 unfold tst at hf
 refine ob2 hf fun v₁ σ₁ h1 hf => onBool_t hf ?_; clear hf; rintro _ rfl hf
 cases hf
 refine wpAny_isTrue_Compare1 ?_ hm
 refine two (Q := fun cv s₃ => wpAny c.M A (truthy cv) Q E s₃) hl hr ho he hA F R h1 fun φ₁ h₁ t₁ v' S R' hv => ?_
 unfold VR at hv; subst hv
 exact wpAny_truthy_bool (k _ _ _ S R')
theorem SE.one {x : Expr} {f : Fn} {prim : Value → Sem Value} {o} (hx : SE c sc nm n x f) (ho : Op1 c prim o)
  {A env φ ρ σ s v σ' Q E} (he : env.scope = sc) (hA : Room n A) (F : Frame c.hb nm env φ ρ s.heap) (R : c.R φ σ s.heap) (hf : un1 o f ρ σ = some (v, σ')) (k : KE c φ s v σ' Q) :
  wpAny c.M A (eval x env) (fun a s₁ => wpAny c.M A (prim a) Q E s₁) E s := by
 unfold un1 at hf
 refine ob2 hf fun v₁ σ₁ h1 hf => ?_
 refine hx A env φ ρ σ s v₁ σ₁ _ E he hA F R h1 fun φ₁ h₁ t₁ a S₁ R₁ va => ?_
 exact ho n A φ₁ σ₁ _ v₁ a v σ' Q E hA R₁ va hf (k.after S₁)
theorem SE.un {x : Expr} {op : UnaryOp} {pos} {f : Fn} {o} (hx : SE c sc nm n x f) (ho : Op1 c (unaryOp op) o) : SE c sc nm n (.UnaryOp op x pos) (un1 o f) :=
 fun _ _ _ _ _ _ _ _ _ _ he hA F R hf k => wpAny_UnaryOp (SE.one hx ho he hA F R hf k)
theorem SE.attr {x : Expr} {name pos} {f : Fn} {o} (hx : SE c sc nm n x f) (ho : Op1 c (fun v => getAttr v name true) o)
  (hh : ∀ env, eval (.Attribute x name pos) env = (do
   let o ← eval x env
   standAt pos.atName
   let r ← holding [o] (getAttr o name true)
   letTemporaryGo x o r
   pure r)) : SE c sc nm n (.Attribute x name pos) (un1 o f) :=
 fun _ env _ _ _ _ _ _ _ _ he hA F R hf k => Attribute_any_ (SE.one hx ho he hA F R hf k) (hh env)
theorem SE.sub {value slice : Expr} {pos} {f g : Fn} {o} (hl : SE c sc nm n value f) (hr : SE c sc nm n slice g) (ho : Op2 c (subscriptTail value slice) o) : SE c sc nm n (.Subscript value slice pos) (bin2 o f g) :=
 fun _ _ _ _ _ _ _ _ _ _ he hA F R hf k => Subscript_ (two hl hr ho he hA F R hf k)
theorem ST.val {x : Expr} {f : Fn} (hx : SE c sc nm n x f) (hh : ∀ env whole, isTrue x env whole = (do let v ← whole; standAt x.pos; holding [v] (truthy v))) : ST c sc nm n x (tst f) := by
 intro A env φ ρ σ s b σ' Q E he hA F R hf k
 unfold tst at hf
 refine ob2 hf fun v₁ σ₁ h1 hf => onBool_t hf ?_; clear hf; rintro _ rfl hf
 cases hf
 refine isTrue_plain ?_ (hh _ _)
 refine hx A env φ ρ σ s _ _ _ E he hA F R h1 fun φ₁ h₁ t₁ v' S R' hv => ?_
 unfold VR at hv; subst hv
 exact wpAny_truthy_bool (k _ _ _ S R')
noncomputable def notT (f : Loc → Hp → Option (Bool × Hp)) : Loc → Hp → Option (Bool × Hp) := fun ρ σ => (f ρ σ).map fun p => (!p.1, p.2)
theorem ST.not {x : Expr} {pos} {f} (hx : ST c sc nm n x f) : ST c sc nm n (.UnaryOp .Not x pos) (notT f) := by
 intro A env φ ρ σ s b σ' Q E he hA F R hf k
 unfold notT at hf
 refine oq2 hf fun b₁ σ₁ h1 hf => ?_
 cases hf
 exact wpAny_isTrue_Not (hx A env φ ρ σ s b₁ σ₁ _ E he hA F R h1 k)
noncomputable def andT (f g : Loc → Hp → Option (Bool × Hp)) : Loc → Hp → Option (Bool × Hp) := fun ρ σ => (f ρ σ).bind fun p => if p.1 then g ρ p.2 else some (false, p.2)
noncomputable def orT (f g : Loc → Hp → Option (Bool × Hp)) : Loc → Hp → Option (Bool × Hp) := fun ρ σ => (f ρ σ).bind fun p => if p.1 then some (true, p.2) else g ρ p.2
theorem ST.and {x y : Expr} {pos} {f g} (hx : ST c sc nm n x f) (hy : ST c sc nm n y g) : ST c sc nm n (.BoolOp .And [x, y] pos) (andT f g) := by
 intro A env φ ρ σ s b σ' Q E he hA F R hf k
 unfold andT at hf
 refine ob2 hf fun b₁ σ₁ h1 hf => ?_
 refine wpAny_isTrue_BoolOp (wpAny_allTrue_And_cons (hx A env φ ρ σ s b₁ σ₁ _ E he hA F R h1 fun φ₁ h₁ t₁ S₁ R₁ => ?_))
 cases b₁ with
 | false => simp at hf; obtain ⟨rfl, rfl⟩ := hf; rw [if_neg Bool.false_ne_true]; exact k _ _ _ S₁ R₁
 | true =>
  simp only [if_true] at hf
  rw [if_pos rfl]
  refine wpAny_allTrue_And_cons (hy A env φ₁ ρ σ₁ _ b σ' _ E he hA (F.exprStep S₁) R₁ hf fun φ₂ h₂ t₂ S₂ R₂ => ?_)
  cases b with
  | false => rw [if_neg Bool.false_ne_true]; exact k _ _ _ (S₁.trans S₂) R₂
  | true => rw [if_pos rfl]; exact wpAny_allTrue_And_nil (k _ _ _ (S₁.trans S₂) R₂)
theorem wpAny_allTrue_Or_nil' {M : Model} {A : Around} {E : Value → Shared → Prop} {s : Shared} {env : Env} {Q : Bool → Shared → Prop} (h : Q false s) : wpAny M A (allTrue .Or [] env) Q E s := wpAny_pure h
theorem ST.or {x y : Expr} {pos} {f g} (hx : ST c sc nm n x f) (hy : ST c sc nm n y g) : ST c sc nm n (.BoolOp .Or [x, y] pos) (orT f g) := by
 intro A env φ ρ σ s b σ' Q E he hA F R hf k
 unfold orT at hf
 refine ob2 hf fun b₁ σ₁ h1 hf => ?_
 refine wpAny_isTrue_BoolOp (wpAny_allTrue_Or_cons (hx A env φ ρ σ s b₁ σ₁ _ E he hA F R h1 fun φ₁ h₁ t₁ S₁ R₁ => ?_))
 cases b₁ with
 | true => simp at hf; obtain ⟨rfl, rfl⟩ := hf; rw [if_pos rfl]; exact k _ _ _ S₁ R₁
 | false =>
  simp only [Bool.false_eq_true, if_false] at hf
  rw [if_neg Bool.false_ne_true]
  refine wpAny_allTrue_Or_cons (hy A env φ₁ ρ σ₁ _ b σ' _ E he hA (F.exprStep S₁) R₁ hf fun φ₂ h₂ t₂ S₂ R₂ => ?_)
  cases b with
  | true => rw [if_pos rfl]; exact k _ _ _ (S₁.trans S₂) R₂
  | false => rw [if_neg Bool.false_ne_true]; exact wpAny_allTrue_Or_nil' (k _ _ _ (S₁.trans S₂) R₂)
theorem ST.or3 {x y z : Expr} {pos} {f g g'} (hx : ST c sc nm n x f) (hy : ST c sc nm n y g) (hz : ST c sc nm n z g') : ST c sc nm n (.BoolOp .Or [x, y, z] pos) (orT f (orT g g')) := by
 intro A env φ ρ σ s b σ' Q E he hA F R hf k
 unfold orT at hf
 refine ob2 hf fun b₁ σ₁ h1 hf => ?_
 refine wpAny_isTrue_BoolOp (wpAny_allTrue_Or_cons (hx A env φ ρ σ s b₁ σ₁ _ E he hA F R h1 fun φ₁ h₁ t₁ S₁ R₁ => ?_))
 cases b₁ with
 | true => simp at hf; obtain ⟨rfl, rfl⟩ := hf; rw [if_pos rfl]; exact k _ _ _ S₁ R₁
 | false =>
  simp only [Bool.false_eq_true, if_false] at hf
  rw [if_neg Bool.false_ne_true]
  refine ob2 hf fun b₂ σ₂ h2 hf => ?_
  refine wpAny_allTrue_Or_cons (hy A env φ₁ ρ σ₁ _ b₂ σ₂ _ E he hA (F.exprStep S₁) R₁ h2 fun φ₂ h₂ t₂ S₂ R₂ => ?_)
  cases b₂ with
  | true => simp at hf; obtain ⟨rfl, rfl⟩ := hf; rw [if_pos rfl]; exact k _ _ _ (S₁.trans S₂) R₂
  | false =>
   simp only [Bool.false_eq_true, if_false] at hf
   rw [if_neg Bool.false_ne_true]
   refine wpAny_allTrue_Or_cons (hz A env φ₂ ρ σ₂ _ b σ' _ E he hA ((F.exprStep S₁).exprStep S₂) R₂ hf fun φ₃ h₃ t₃ S₃ R₃ => ?_)
   cases b with
   | true => rw [if_pos rfl]; exact k _ _ _ ((S₁.trans S₂).trans S₃) R₃
   | false => rw [if_neg Bool.false_ne_true]; exact wpAny_allTrue_Or_nil' (k _ _ _ ((S₁.trans S₂).trans S₃) R₃)
noncomputable def andV (f g : Fn) : Fn := fun ρ σ => (f ρ σ).bind fun p => onBool p.1 fun b => cond b (g ρ p.2) (some (.bool false, p.2))
noncomputable def orV (f g : Fn) : Fn := fun ρ σ => (f ρ σ).bind fun p => onBool p.1 fun b => cond b (some (.bool true, p.2)) (g ρ p.2)
theorem SE.and {x y : Expr} {pos} {f g : Fn} (hx : SE c sc nm n x f) (hy : SE c sc nm n y g) : SE c sc nm n (.BoolOp .And [x, y] pos) (andV f g) := by
 intro A env φ ρ σ s v σ' Q E he hA F R hf k
 unfold andV at hf
 refine ob2 hf fun b₁ σ₁ h1 hf => ?_
 show wpAny _ _ (eval x env >>= fun v => standAt pos >>= fun _ => holding [v] (truthy v) >>= fun t => match BoolOp.And, t with | .And, false | .Or, true => pure v | _, _ => boolOp pos .And [eval y env]) _ _ _
 refine wpAny_bind (hx A env φ ρ σ s b₁ σ₁ _ E he hA F R h1 fun φ₁ h₁ t₁ a S₁ R₁ va => wpAny_bind (wpAny_standAt ?_))
 refine onBool_t hf ?_; clear hf; rintro b rfl hf
 unfold VR at va; subst va
 cases b with
 | true =>
  refine wpAny_bind (wpAny_holding (wpAny_truthy_bool ?_))
  show wpAny _ _ (eval y env) _ _ _
  exact hy A env φ₁ ρ σ₁ _ v σ' _ E he hA (F.exprStep S₁) R₁ hf (k.after S₁)
 | false =>
  cases hf
  exact wpAny_bind (wpAny_holding (wpAny_truthy_bool (wpAny_pure (k _ _ _ _ S₁ R₁ (by unfold VR; rfl)))))
theorem SE.or {x y : Expr} {pos} {f g : Fn} (hx : SE c sc nm n x f) (hy : SE c sc nm n y g) : SE c sc nm n (.BoolOp .Or [x, y] pos) (orV f g) := by
 intro A env φ ρ σ s v σ' Q E he hA F R hf k
 unfold orV at hf
 refine ob2 hf fun b₁ σ₁ h1 hf => ?_
 show wpAny _ _ (eval x env >>= fun v => standAt pos >>= fun _ => holding [v] (truthy v) >>= fun t => match BoolOp.Or, t with | .And, false | .Or, true => pure v | _, _ => boolOp pos .Or [eval y env]) _ _ _
 refine wpAny_bind (hx A env φ ρ σ s b₁ σ₁ _ E he hA F R h1 fun φ₁ h₁ t₁ a S₁ R₁ va => wpAny_bind (wpAny_standAt ?_))
 refine onBool_t hf ?_; clear hf; rintro b rfl hf
 unfold VR at va; subst va
 cases b with
 | true =>
  cases hf
  exact wpAny_bind (wpAny_holding (wpAny_truthy_bool (wpAny_pure (k _ _ _ _ S₁ R₁ (by unfold VR; rfl)))))
 | false =>
  refine wpAny_bind (wpAny_holding (wpAny_truthy_bool ?_))
  show wpAny _ _ (eval y env) _ _ _
  exact hy A env φ₁ ρ σ₁ _ v σ' _ E he hA (F.exprStep S₁) R₁ hf (k.after S₁)
noncomputable def ifE (t : Loc → Hp → Option (Bool × Hp)) (f g : Fn) : Fn := fun ρ σ => (t ρ σ).bind fun p => if p.1 then f ρ p.2 else g ρ p.2
theorem SE.ifE {t x y : Expr} {pos} {b} {f g : Fn} (ht : ST c sc nm n t b) (hx : SE c sc nm n x f) (hy : SE c sc nm n y g) : SE c sc nm n (.IfExp t x y pos) (Mine.ifE b f g) := by
 intro A env φ ρ σ s v σ' Q E he hA F R hf k
 unfold Mine.ifE at hf
 refine ob2 hf fun b₁ σ₁ h1 hf => ?_
 refine wpAny_IfExp (ht A env φ ρ σ s b₁ σ₁ _ E he hA F R h1 fun φ₁ h₁ t₁ S₁ R₁ => ?_)
 cases b₁ with
 | true => rw [if_pos rfl] at hf ⊢; exact hx A env φ₁ ρ σ₁ _ v σ' _ E he hA (F.exprStep S₁) R₁ hf (k.after S₁)
 | false => rw [if_neg Bool.false_ne_true] at hf ⊢; exact hy A env φ₁ ρ σ₁ _ v σ' _ E he hA (F.exprStep S₁) R₁ hf (k.after S₁)
noncomputable def nilL : FnL := fun _ σ => some ([], σ)
noncomputable def consL (f : Fn) (g : FnL) : FnL := fun ρ σ => (f ρ σ).bind fun p => (g ρ p.2).map fun q => (p.1 :: q.1, q.2)
theorem SL.nil : SL c sc nm n [] nilL := ⟨fun _ => rfl, fun A env φ ρ σ s vs σ' Q E pos he hA F R hf k => by cases hf; exact spliced_nil (k φ s.heap s.toks [] (Step.refl _ _ _) R VRL.nil)⟩
theorem SL.cons {e : Expr} {es : List Expr} {f : Fn} {g : FnL} (hx : SE c sc nm n e f) (hy : SL c sc nm n es g) (hs : ∀ env, starEach (e :: es) env = (false, eval e env) :: starEach es env) : SL c sc nm n (e :: es) (consL f g) := by
 refine ⟨fun env => by rw [hs, List.any_cons, hy.1]; rfl, ?_⟩
 intro A env φ ρ σ s vs σ' Q E pos he hA F R hf k
 unfold consL at hf
 refine ob2 hf fun v₁ σ₁ h1 hf => ?_
 refine oq2 hf fun vs₂ σ₂ h2 hf => ?_
 cases hf
 rw [hs]
 refine spliced_cons (hx A env φ ρ σ s v₁ σ₁ _ E he hA F R h1 fun φ₁ h₁ t₁ a S₁ R₁ va => ?_)
 refine hy.2 A env φ₁ ρ σ₁ _ vs₂ σ₂ _ E pos he hA (F.exprStep S₁) R₁ h2 fun φ₂ h₂ t₂ b S₂ R₂ vb => ?_
 exact k _ _ _ _ (S₁.trans S₂) R₂ (VRL.cons (VR.mono S₂ (noSeq_no _) _ _ va) vb)
noncomputable def big : Nat := 1000000
theorem big_le {n : Nat} (h : n ≤ big) : n ≤ sizeLine := by rw [sizeLine_eq]; unfold big at h; exact om9 h
noncomputable def mkList (f : FnL) : Fn := fun ρ σ => (f ρ σ).bind fun p => if p.1.length ≤ big then some (.ref p.2.length, p.2 ++ [.list p.1]) else none
noncomputable def mkTup (f : FnL) : Fn := fun ρ σ => (f ρ σ).bind fun p => if p.1.length ≤ big then some (.tup p.1, p.2) else none
theorem push_fresh (h : Heap) : h.get? h.objs.size = none := by
 cases q : h.get? h.objs.size with
 | none => rfl
 | some o => exact absurd (Heap.lt_size q) (Nat.lt_irrefl _)
theorem new_list {φ σ s} {xs : List V} {vs : List Value} (R : c.R φ σ s) (hv : VRL φ s xs vs) :
  c.R (φ ++ [(s.objs.size, s.objs.size)]) (σ ++ [.list xs]) (s.push { cls := .type "list", data := .seq (List.toArray vs) }) ∧
  Step NoW φ s (φ ++ [(s.objs.size, s.objs.size)]) (s.push { cls := .type "list", data := .seq (List.toArray vs) }) :=
 R.alloc' (fun b o e => Heap.get?_push_of_some _ e) (Nat.le_refl _) (Nat.le_refl _) (by rw [Heap.size_push]; exact Nat.le_succ _) ⟨_, Heap.get?_push_size _ rfl⟩ ⟨_, Heap.get?_push_size _ rfl⟩
  fun S => ⟨rfl, vs, Lst.new _ _, VRL.mono S (noSeq_no _) _ _ hv⟩
theorem ref_new {φ σ s h'} {d : Addr} (R : c.R φ σ s) : VR (φ ++ [(d, d)]) h' (.ref σ.length) (.ref d) := by
 unfold VR
 exact ⟨d, d, rfl, by rw [← R.len, List.getElem?_append_right (Nat.le_refl _)]; simp⟩
theorem SE.list {es : List Expr} {pos} {f : FnL} (hx : SL c sc nm n es f) : SE c sc nm n (.List es pos) (mkList f) := by
 intro A env φ ρ σ s v σ' Q E he hA F R hf k
 unfold mkList at hf
 refine ob2 hf fun vs σ₁ h1 hf => ?_
 refine ift hf fun hb hf => ?_
 cases hf
 refine wpAny_List_spliced (hx.2 A env φ ρ σ s vs σ₁ _ E pos he hA F R h1 fun φ₁ h₁ t₁ ws S₁ R₁ hv => ⟨?_, ?_⟩)
 ·rw [hv.length]; exact big_le hb
 ·obtain ⟨R₂, S₂⟩ := new_list R₁ hv
  exact k _ _ _ _ (S₁.trans S₂) R₂ (ref_new R₁)
inductive new_tup_O (c : Cx) (φ : Phi) (σ : Hp) (s : Heap) (xs : List V) (vs : List Value) : Prop
 | mk  (_ : c.R φ σ (s.push { cls := .type "tuple", data := .seq (List.toArray vs) })) (_ : Step NoW φ s φ (s.push { cls := .type "tuple", data := .seq (List.toArray vs) })) (_ : VR φ (s.push { cls := .type "tuple", data := .seq (List.toArray vs) }) (.tup xs) (.ref s.objs.size)) : new_tup_O c φ σ s xs vs
theorem new_tup {φ σ s} {xs : List V} {vs : List Value} (R : c.R φ σ s) (hv : VRL φ s xs vs) : new_tup_O c φ σ s xs vs := by
 have g : ∀ b o, s.get? b = some o → (s.push { cls := .type "tuple", data := .seq (List.toArray vs) }).get? b = some o := fun b o e => Heap.get?_push_of_some _ e
 have S : Step NoW φ s φ (s.push { cls := .type "tuple", data := .seq (List.toArray vs) }) := Step.grow g (by rw [Heap.size_push]; exact Nat.le_succ _)
 refine ⟨R.grow g (by rw [Heap.size_push]; exact Nat.le_succ _), S, ?_⟩
 unfold VR
 refine ⟨_, vs, rfl, ⟨_, Heap.get?_push_size _ rfl, rfl, 0, rfl⟩, fun t => ?_, VRL.mono S (noSeq_no _) _ _ hv⟩
 obtain ⟨o, e⟩ := R.alloc _ t
 rw [push_fresh] at e; cases e
theorem SE.tup {es : List Expr} {x1 pos} {f : FnL} (hx : SL c sc nm n es f) : SE c sc nm n (.Tuple es x1 pos) (mkTup f) := by
 intro A env φ ρ σ s v σ' Q E he hA F R hf k
 unfold mkTup at hf
 refine ob2 hf fun vs σ₁ h1 hf => ?_
 refine ift hf fun hb hf => ?_
 cases hf
 refine wpAny_Tuple_spliced (hx.2 A env φ ρ σ s vs _ _ E pos he hA F R h1 fun φ₁ h₁ t₁ ws S₁ R₁ hv => ⟨?_, ?_⟩)
 ·rw [hv.length]; exact big_le hb
 ·obtain ⟨R₂, S₂, hv₂⟩ := new_tup R₁ hv
  exact k _ _ _ _ (S₁.trans S₂) R₂ hv₂
theorem nodup_idx {l : List Str} (hn : l.Nodup) {i j : Nat} {x : Str} (hi : l[i]? = some x) (hj : l[j]? = some x) : i = j := by
 obtain ⟨li, ei⟩ := List.getElem?_eq_some_iff.mp hi
 obtain ⟨lj, ej⟩ := List.getElem?_eq_some_iff.mp hj
 have hp := List.pairwise_iff_getElem.mp hn
 rcases Nat.lt_trichotomy i j with l' | l' | l'
 ·exact absurd (ei.trans ej.symm) (hp i j li lj l')
 ·exact l'
 ·exact absurd (ej.trans ei.symm) (hp j i lj li l')
theorem VR.ne_undef {x : V} {v : Value} (e : VR φ h x v) : x ≠ .undef := fun q => by subst q; unfold VR at e; exact e
theorem step_but {a : Addr} {W : Addr → Prop} (hs : Heap.SameBut a h h') (hw : W a) : Step W φ h φ h' :=
 ⟨⟨[], by simp⟩, fun b o e _ w => (hs.2 b (fun q => w (q ▸ hw))).trans e, fun b h1 h2 => (h2 h1).elim, by rw [hs.1]; exact Nat.le_refl _⟩
noncomputable abbrev onlyL (env : Env) (b : Addr) : Prop := b = env.locals
theorem onlyL_FA : ∀ (env : Env) (b : Addr), onlyL env b → FA env b := fun _ _ e => .inl e
theorem Frame.storeL {σ : Hp} {s : Shared} {i : Nat} {x : Str} {v : V} {v' : Value} (hnd : nm.Nodup) (F : Frame c.hb nm env φ ρ s.heap) (R : c.R φ σ s.heap) (hi : nm[i]? = some x) (hk : env.kindOf x = some .local) (hv : VR φ s.heap v v')
  {M : Model} {A : Around} {E : Value → Shared → Prop} {Q : Unit → Shared → Prop}
  (k : ∀ h' t', Step (onlyL env) φ s.heap φ h' → c.R φ σ h' → Frame c.hb nm env φ (ρ.set i v) h' → Q () { s with heap := h', toks := t' }) : wpAny M A (storeName env x v') Q E s := by
 have F' := F
 obtain ⟨m, hns, f⟩ := F.ns
 have hseq := F.noSeq
 refine wpAny_storeName_local hk hns (fun h' hn hs => ?_) (by rw [F.kind]; rfl)
 have S : Step (onlyL env) φ s.heap φ h' := step_but hs rfl
 have hq : NoSeq (onlyL env) s.heap := fun b o xs n w e => hseq b o xs n (.inl w) e
 refine k h' _ S ?_ ?_
 ·exact R.keep S hq (fun b w => F.nb b (.inl w)) fun b t o e => (hs.2 b (fun q => F.nt b (.inl q) t)).trans e
 ·refine ⟨F.kind, F.glob, F.blt, ⟨_, hn, fun j y u h1 h2 h3 h4 => ?_⟩, fun n c' hc => ?_, fun j y c' u h1 h2 h3 h4 h5 => ?_, F.celx, F.ap, F.apL, F.nt, F.nb⟩
  ·by_cases hj : j = i
   ·subst hj
    rw [hi] at h1; cases h1
    have : u = v := by
     rw [List.getElem?_set_self'] at h2
     cases q : ρ[j]? with
     | none => rw [q] at h2; simp at h2
     | some _ => rw [q] at h2; simp at h2; exact h2.symm
    subst this
    exact ⟨v', by rw [if_pos rfl], VR.mono S hq _ _ hv⟩
   ·have hxy : y ≠ x := fun q => by
     subst q
     exact hj (nodup_idx hnd h1 hi)
    rw [List.getElem?_set_ne (Ne.symm hj)] at h2
    obtain ⟨w', a, b⟩ := f j y u h1 h2 h3 h4
    exact ⟨w', by rw [if_neg hxy]; exact a, VR.mono S hq _ _ b⟩
  ·obtain ⟨v0, o, ho, hd⟩ := F.cel n c' hc
   exact ⟨v0, o, (hs.2 _ (F.apL n c' hc)).trans ho, hd⟩
  ·have hyx : y ≠ x := fun q => by subst q; rw [hk] at h4; cases h4
   have hji : j ≠ i := fun q => by subst q; rw [hi] at h1; exact hyx (Option.some.inj h1).symm
   rw [List.getElem?_set_ne (Ne.symm hji)] at h2
   obtain ⟨w', ⟨o, ho, hd⟩, b⟩ := F.celv j y c' u h1 h2 h3 h4 h5
   exact ⟨w', ⟨o, (hs.2 _ (F.apL y c' (mem_of_lookup h5))).trans ho, hd⟩, VR.mono S hq _ _ b⟩
theorem Frame.storeC {σ : Hp} {s : Shared} {i : Nat} {x : Str} {v : V} {v' : Value} (hnd : nm.Nodup) (F : Frame c.hb nm env φ ρ s.heap) (R : c.R φ σ s.heap) (hi : nm[i]? = some x) (hk : env.kindOf x = some .cell) (hv : VR φ s.heap v v')
  {M : Model} {A : Around} {E : Value → Shared → Prop} {Q : Unit → Shared → Prop}
  (k : ∀ h' t', Step (FA env) φ s.heap φ h' → c.R φ σ h' → Frame c.hb nm env φ (ρ.set i v) h' → Q () { s with heap := h', toks := t' }) : wpAny M A (storeName env x v') Q E s := by
 have hq := F.noSeq
 obtain ⟨ca, hca⟩ := F.celx x hk
 have hmem := mem_of_lookup hca
 obtain ⟨v0, hv0⟩ := F.cel _ _ hmem
 refine wpAny_storeName_cell F.kind hk hca hv0 fun h' hn hs => ?_
 have S : Step (FA env) φ s.heap φ h' := step_but hs (.inr ⟨_, hmem⟩)
 refine k h' _ S ?_ ?_
 ·exact R.keep S hq (fun b w => F.nb b w) fun b t o e => (hs.2 b (fun q => F.nt b (.inr ⟨x, q ▸ hmem⟩) t)).trans e
 ·obtain ⟨m, ⟨o, es, ep, ho, r⟩, f⟩ := F.ns
  refine ⟨F.kind, F.glob, F.blt, ⟨m, ⟨o, es, ep, (hs.2 _ (F.apL x ca hmem).symm).trans ho, r⟩, fun j y u h1 h2 h3 h4 => ?_⟩, fun n c' hc => ?_, fun j y c' u h1 h2 h3 h4 h5 => ?_, F.celx, F.ap, F.apL, F.nt, F.nb⟩
  ·have hyx : y ≠ x := fun q => by subst q; rw [hk] at h4; cases h4
   have hji : j ≠ i := fun q => by subst q; rw [hi] at h1; exact hyx (Option.some.inj h1).symm
   rw [List.getElem?_set_ne (Ne.symm hji)] at h2
   obtain ⟨w', a, b⟩ := f j y u h1 h2 h3 h4
   exact ⟨w', a, VR.mono S hq _ _ b⟩
  ·by_cases q : c' = ca
   ·subst q; exact ⟨_, hn⟩
   ·obtain ⟨v1, o1, ho1, hd1⟩ := F.cel n c' hc
    exact ⟨v1, o1, (hs.2 _ q).trans ho1, hd1⟩
  ·by_cases hj : j = i
   ·subst hj
    rw [hi] at h1; cases h1
    rw [hca] at h5; cases h5
    have : u = v := by
     rw [List.getElem?_set_self'] at h2
     cases q : ρ[j]? with
     | none => rw [q] at h2; simp at h2
     | some _ => rw [q] at h2; simp at h2; exact h2.symm
    subst this
    exact ⟨v', hn, VR.mono S hq _ _ hv⟩
   ·have hxy : y ≠ x := fun q => by
     subst q
     exact hj (nodup_idx hnd h1 hi)
    rw [List.getElem?_set_ne (Ne.symm hj)] at h2
    obtain ⟨w', ⟨o1, ho1, hd1⟩, b⟩ := F.celv j y c' u h1 h2 h3 h4 h5
    have hcc : c' ≠ ca := fun q => hxy (name_of_addr F.ap (mem_of_lookup h5) (q ▸ hmem))
    exact ⟨w', ⟨o1, (hs.2 _ hcc).trans ho1, hd1⟩, VR.mono S hq _ _ b⟩
noncomputable def Asg := V → Loc → Hp → Option (Loc × Hp)
noncomputable def SA (c : Cx) (sc : Scope) (nm : List Str) (n : Nat) (W : Env → Addr → Prop) (t : Expr) (a : Asg) : Prop :=
 ∀ A env φ ρ σ s x v ρ' σ' Q E, env.scope = sc → Room n A → Frame c.hb nm env φ ρ s.heap → c.R φ σ s.heap → VR φ s.heap x v → a x ρ σ = some (ρ', σ') →
  (∀ φ' h' t', Step (W env) φ s.heap φ' h' → c.R φ' σ' h' → Frame c.hb nm env φ' ρ' h' → Q () { s with heap := h', toks := t' }) → wpAny c.M A (assign t env v) Q E s
noncomputable def stA (i : Nat) : Asg := fun x ρ σ => some (ρ.set i x, σ)
theorem SA.nameL {x pos} {i : Nat} (hnd : nm.Nodup) (hi : nm[i]? = some x) (hk : kindIn sc x = some .local) : SA c sc nm n onlyL (.Name x pos) (stA i) := by
 intro A env φ ρ σ s y v ρ' σ' Q E he hA F R hv hf k
 cases hf
 exact wpAny_assign_Name (F.storeL hnd R hi ((kindOf_eq he x).trans hk) hv fun h' t' S R' F' => k φ h' t' S R' F')
theorem SA.mono {t : Expr} {a : Asg} {W W' : Env → Addr → Prop} (x : SA c sc nm n W t a) (hw : ∀ env b, W env b → W' env b) : SA c sc nm n W' t a :=
 fun A env φ ρ σ s y v ρ' σ' Q E he hA F R hv hf k => x A env φ ρ σ s y v ρ' σ' Q E he hA F R hv hf fun φ' h' t' S => k φ' h' t' (S.mono (hw env))
theorem SA.name {x pos} {i : Nat} (hnd : nm.Nodup) (hi : nm[i]? = some x) (hk : kindIn sc x = some .local ∨ kindIn sc x = some .cell) : SA c sc nm n FA (.Name x pos) (stA i) := by
 rcases hk with hk | hk
 ·exact (SA.nameL hnd hi hk).mono onlyL_FA
 ·intro A env φ ρ σ s y v ρ' σ' Q E he hA F R hv hf k
  cases hf
  exact wpAny_assign_Name (F.storeC hnd R hi ((kindOf_eq he x).trans hk) hv fun h' t' S R' F' => k φ h' t' S R' F')
noncomputable def asg2 (a b : Asg) : Asg := fun x ρ σ => onTup x fun l => arg2 l fun y z => (a y ρ σ).bind fun p => b z p.1 p.2
noncomputable def asg3 (a b d : Asg) : Asg := fun x ρ σ => onTup x fun l => arg3 l fun y z u => (a y ρ σ).bind fun p => (b z p.1 p.2).bind fun q => d u q.1 q.2
theorem extBut_grow {s : Heap} {h' : Heap} (hs : Heap.ExtBut s.objs.size s h') : ∀ b o, s.get? b = some o → h'.get? b = some o :=
 fun b o e => hs b o (Nat.ne_of_lt (Heap.lt_size e)) e
theorem grow_RF {σ : Hp} {s : Heap} (F : Frame c.hb nm env φ ρ s) (R : c.R φ σ s) (g : ∀ b o, s.get? b = some o → h'.get? b = some o) (sz : s.objs.size ≤ h'.objs.size) : Step NoW φ s φ h' ∧ c.R φ σ h' ∧ Frame c.hb nm env φ ρ h' :=
 ⟨Step.grow g sz, R.grow g sz, F.exprStep (Step.grow g sz)⟩
theorem no_mono {W : Addr → Prop} : ∀ b, NoW b → W b := fun _ e => e.elim
theorem assign_tup {prog : Program} {w : World} {A : Around} {E : Value → Shared → Prop} {s : Shared} {env : Env} {elts : List Expr} {x1 : Nat} {pos : Pos} {t : Addr} {items : Array Value} {Q : Unit → Shared → Prop}
  (hh : A.handled = none) (ht : s.heap.IsTuple t items) (hl : (assignEach elts env).length = items.size) (hf : (assignEach elts env).findIdx? (·.1) = none)
  (hQ : ∀ h', Heap.ExtBut s.heap.objs.size s.heap h' → s.heap.objs.size ≤ h'.objs.size → wpAny (model prog w) A (assignInOrder ((assignEach elts env).map (·.2)) items.toList) Q E { s with heap := h' }) :
  wpAny (model prog w) A (assign (.Tuple elts x1 pos) env (.ref t)) Q E s := by
 show wpAny _ _ (standAt pos >>= fun _ => unpack (.ref t) (assignEach elts env)) _ _ _
 refine wpAny_bind (wpAny_standAt ?_)
 unfold unpack
 rw [hl, hf]
 exact wpAny_bind (wpAny_holding (with_size (wpAny_unpackItems_tuple hh ht fun h' hs sz => hQ h' hs sz)))
theorem SA.tup2 {t₁ t₂ : Expr} {x1 pos} {a b : Asg} {W} (h₁ : SA c sc nm n W t₁ a) (h₂ : SA c sc nm n W t₂ b) (hW : ∀ env b, W env b → FA env b)
  (he1 : ∀ env, assignEach [t₁, t₂] env = [(false, assign t₁ env), (false, assign t₂ env)]) : SA c sc nm n W (.Tuple [t₁, t₂] x1 pos) (asg2 a b) := by
 intro A env φ ρ σ s x v ρ' σ' Q E he hA F R hv hf k
 unfold asg2 at hf
 refine onTup_t hf ?_; clear hf; rintro _ rfl hf; refine arg2_t hf ?_; clear hf; rintro y z rfl hf
 refine ob2 hf fun ρ₁ σ₁ g1 hf => ?_
 unfold VR at hv
 obtain ⟨t, vs, rfl, ht, nt, hl⟩ := hv
 unfold VRL at hl; obtain ⟨v₁, r, rfl, hv₁, hl⟩ := hl
 unfold VRL at hl; obtain ⟨v₂, r, rfl, hv₂, hl⟩ := hl
 unfold VRL at hl; subst hl
 refine assign_tup hA.handled ht (by rw [he1]; rfl) (by rw [he1]; rfl) fun h₀ hs sz => ?_
 obtain ⟨S₀, R₀, F₀⟩ := grow_RF F R (extBut_grow hs) sz
 rw [he1]
 show wpAny _ _ (assignInOrder [assign t₁ env, assign t₂ env] [v₁, v₂]) _ _ _
 show wpAny _ _ (holding _ _ >>= fun _ => assignInOrder _ _) _ _ _
 refine wpAny_bind (wpAny_holding (h₁ A env φ ρ σ _ y v₁ ρ₁ σ₁ _ E he hA F₀ R₀ (VR.mono S₀ (noSeq_no _) _ _ hv₁) g1 fun φ₁ h₁' t₁' S₁ R₁ F₁ => ?_))
 show wpAny _ _ (holding _ _ >>= fun _ => assignInOrder _ _) _ _ _
 have S01 := (S₀.mono (W' := W env) no_mono).trans S₁
 have q0 : NoSeq (W env) s.heap := fun b o xs n w e => F.noSeq b o xs n (hW env b w) e
 refine wpAny_bind (wpAny_holding (h₂ A env φ₁ ρ₁ σ₁ _ z v₂ ρ' σ' _ E he hA F₁ R₁ (VR.mono S01 q0 _ _ hv₂) hf fun φ₂ h₂' t₂' S₂ R₂ F₂ => ?_))
 exact wpAny_pure (k _ _ _ (S01.trans S₂) R₂ F₂)
theorem SA.tup3 {t₁ t₂ t₃ : Expr} {x1 pos} {a b d : Asg} {W} (h₁ : SA c sc nm n W t₁ a) (h₂ : SA c sc nm n W t₂ b) (h₃ : SA c sc nm n W t₃ d) (hW : ∀ env b, W env b → FA env b)
  (he1 : ∀ env, assignEach [t₁, t₂, t₃] env = [(false, assign t₁ env), (false, assign t₂ env), (false, assign t₃ env)]) : SA c sc nm n W (.Tuple [t₁, t₂, t₃] x1 pos) (asg3 a b d) := by
 intro A env φ ρ σ s x v ρ' σ' Q E he hA F R hv hf k
 unfold asg3 at hf
 refine onTup_t hf ?_; clear hf; rintro _ rfl hf; refine arg3_t hf ?_; clear hf; rintro y z u rfl hf
 refine ob2 hf fun ρ₁ σ₁ g1 hf => ?_
 refine ob2 hf fun ρ₂ σ₂ g2 hf => ?_
 unfold VR at hv
 obtain ⟨t, vs, rfl, ht, nt, hl⟩ := hv
 unfold VRL at hl; obtain ⟨v₁, r, rfl, hv₁, hl⟩ := hl
 unfold VRL at hl; obtain ⟨v₂, r, rfl, hv₂, hl⟩ := hl
 unfold VRL at hl; obtain ⟨v₃, r, rfl, hv₃, hl⟩ := hl
 unfold VRL at hl; subst hl
 refine assign_tup hA.handled ht (by rw [he1]; rfl) (by rw [he1]; rfl) fun h₀ hs sz => ?_
 obtain ⟨S₀, R₀, F₀⟩ := grow_RF F R (extBut_grow hs) sz
 rw [he1]
 show wpAny _ _ (assignInOrder [assign t₁ env, assign t₂ env, assign t₃ env] [v₁, v₂, v₃]) _ _ _
 show wpAny _ _ (holding _ _ >>= fun _ => assignInOrder _ _) _ _ _
 refine wpAny_bind (wpAny_holding (h₁ A env φ ρ σ _ y v₁ ρ₁ σ₁ _ E he hA F₀ R₀ (VR.mono S₀ (noSeq_no _) _ _ hv₁) g1 fun φ₁ h₁' t₁' S₁ R₁ F₁ => ?_))
 show wpAny _ _ (holding _ _ >>= fun _ => assignInOrder _ _) _ _ _
 have S01 := (S₀.mono (W' := W env) no_mono).trans S₁
 have q0 : NoSeq (W env) s.heap := fun b o xs n w e => F.noSeq b o xs n (hW env b w) e
 refine wpAny_bind (wpAny_holding (h₂ A env φ₁ ρ₁ σ₁ _ z v₂ ρ₂ σ₂ _ E he hA F₁ R₁ (VR.mono S01 q0 _ _ hv₂) g2 fun φ₂ h₂' t₂' S₂ R₂ F₂ => ?_))
 show wpAny _ _ (holding _ _ >>= fun _ => assignInOrder _ _) _ _ _
 have S02 := S01.trans S₂
 refine wpAny_bind (wpAny_holding (h₃ A env φ₂ ρ₂ σ₂ _ u v₃ ρ' σ' _ E he hA F₂ R₂ (VR.mono S02 q0 _ _ hv₃) hf fun φ₃ h₃' t₃' S₃ R₃ F₃ => ?_))
 exact wpAny_pure (k _ _ _ (S02.trans S₃) R₃ F₃)
noncomputable def OpU2 (c : Cx) (prim : Value → Value → Sem Unit) (op : V → V → Hp → Option Hp) : Prop :=
 ∀ n A φ σ s x y vx vy σ' Q E, Room n A → c.R φ σ s.heap → VR φ s.heap x vx → VR φ s.heap y vy → op x y σ = some σ' →
  (∀ φ' h' t', Step NoW φ s.heap φ' h' → c.R φ' σ' h' → Q () { s with heap := h', toks := t' }) → wpAny c.M A (prim vx vy) Q E s
noncomputable def OpU3 (c : Cx) (prim : Value → Value → Value → Sem Unit) (op : V → V → V → Hp → Option Hp) : Prop :=
 ∀ n A φ σ s x y z vx vy vz σ' Q E, Room n A → c.R φ σ s.heap → VR φ s.heap x vx → VR φ s.heap y vy → VR φ s.heap z vz → op x y z σ = some σ' →
  (∀ φ' h' t', Step NoW φ s.heap φ' h' → c.R φ' σ' h' → Q () { s with heap := h', toks := t' }) → wpAny c.M A (prim vx vy vz) Q E s
noncomputable def attrA (f : Fn) (o : V → V → Hp → Option Hp) : Asg := fun x ρ σ => (f ρ σ).bind fun p => (o p.1 x p.2).map fun σ' => (ρ, σ')
noncomputable def subA (f g : Fn) (o : V → V → V → Hp → Option Hp) : Asg := fun x ρ σ => (f ρ σ).bind fun p => (g ρ p.2).bind fun q => (o p.1 q.1 x q.2).map fun σ' => (ρ, σ')
theorem SA.attr {x : Expr} {name pos} {f : Fn} {o} {W} (hx : SE c sc nm n x f) (ho : OpU2 c (fun ov v => setAttr ov name v) o) : SA c sc nm n W (.Attribute x name pos) (attrA f o) := by
 intro A env φ ρ σ s y v ρ' σ' Q E he hA F R hv hf k
 unfold attrA at hf
 refine ob2 hf fun v₁ σ₁ h1 hf => ?_
 refine oq1 hf fun σ₂ h2 hf => ?_
 cases hf
 show wpAny _ _ (do let ov ← holding [v] (eval x env); standAt pos.atName; holding [v, ov] (setAttr ov name v); release [v, ov] []) _ _ _
 refine wpAny_bind (wpAny_holding (hx A env φ ρ σ s v₁ σ₁ _ E he hA F R h1 fun φ₁ h₁ t₁ a S₁ R₁ va => ?_))
 refine wpAny_bind (wpAny_standAt (wpAny_bind (wpAny_holding ?_)))
 refine ho n A φ₁ σ₁ _ v₁ y a v _ _ E hA R₁ va (VR.mono S₁ (noSeq_no _) _ _ hv) h2 fun φ₂ h₂ t₂ S₂ R₂ => ?_
 exact wpAny_release (k _ _ _ ((S₁.trans S₂).mono no_mono) R₂ (F.exprStep (S₁.trans S₂)))
theorem SA.sub {x i : Expr} {pos} {f g : Fn} {o} {W} (hx : SE c sc nm n x f) (hi : SE c sc nm n i g) (ho : OpU3 c setItem o) : SA c sc nm n W (.Subscript x i pos) (subA f g o) := by
 intro A env φ ρ σ s y v ρ' σ' Q E he hA F R hv hf k
 unfold subA at hf
 refine ob2 hf fun v₁ σ₁ h1 hf => ?_
 refine ob2 hf fun v₂ σ₂ h2 hf => ?_
 refine oq1 hf fun σ₃ h3 hf => ?_
 cases hf
 show wpAny _ _ (holding [v] (eval x env) >>= fun ov => holding [v, ov] (eval i env) >>= fun iv => standAt pos >>= fun _ => holding [v, ov, iv] (setItem ov iv v) >>= fun _ => release _ []) _ _ _
 refine wpAny_bind (wpAny_holding (hx A env φ ρ σ s v₁ σ₁ _ E he hA F R h1 fun φ₁ h₁ t₁ a S₁ R₁ va => ?_))
 refine wpAny_bind (wpAny_holding (hi A env φ₁ ρ σ₁ _ v₂ σ₂ _ E he hA (F.exprStep S₁) R₁ h2 fun φ₂ h₂ t₂ b S₂ R₂ vb => ?_))
 refine wpAny_bind (wpAny_standAt (wpAny_bind (wpAny_holding ?_)))
 have S12 := S₁.trans S₂
 refine ho n A φ₂ σ₂ _ v₁ v₂ y a b v _ _ E hA R₂ (VR.mono S₂ (noSeq_no _) _ _ va) vb (VR.mono S12 (noSeq_no _) _ _ hv) h3 fun φ₃ h₃ t₃ S₃ R₃ => ?_
 exact wpAny_release (k _ _ _ ((S12.trans S₃).mono no_mono) R₃ (F.exprStep (S12.trans S₃)))
noncomputable def sAsg (f : Fn) (a : Asg) : St := fun ρ σ => (f ρ σ).bind fun p => (a p.1 ρ p.2).map fun q => (.next, q.1, q.2)
theorem S1.assign {t value : Expr} {pos} {f : Fn} {a : Asg} (hx : SE c sc nm n value f) (ht : SA c sc nm n FA t a)
  (hs : ∀ env, env.scope = sc → swapsWithSole [t] value pos.line env = pure false) (hs2 : ∀ env, env.scope = sc → swappedStores [t] value env = pure none) (he1 : ∀ env, assignEach [t] env = [(false, PySem.assign t env)]) : S1 c sc nm n (.Assign [t] value pos) (sAsg f a) := by
 intro A env φ ρ σ s fl ρ' σ' Q E he hA F R hf k
 unfold sAsg at hf
 refine ob2 hf fun v₁ σ₁ h1 hf => ?_
 refine oq2 hf fun ρ₂ σ₂ h2 hf => ?_
 cases hf
 refine wpAny_Assign_stores ?_ (hs env he) (hs2 env he)
 refine hx A env φ ρ σ s v₁ σ₁ _ E he hA F R h1 fun φ₁ h₁ t₁ v' S₁ R₁ va => ?_
 rw [he1]
 show wpAny _ _ (PySem.assign t env v') _ _ _
 exact ht A env φ₁ ρ σ₁ _ v₁ v' ρ₂ σ₂ _ E he hA (F.exprStep S₁) R₁ va h2 fun φ₂ h₂ t₂ S₂ R₂ F₂ => k _ _ _ _ ((S₁.mono no_mono).trans S₂) R₂ F₂ rfl
noncomputable def swA (i j : Nat) : Asg := fun x ρ σ => onTup x fun l => arg2 l fun y z => some ((ρ.set j z).set i y, σ)
theorem S1.swap {x y : Str} {p1 p2 pos p3} {x1} {value : Expr} {f : Fn} {i j : Nat} (hx : SE c sc nm n value f) (hnd : nm.Nodup) (hi : nm[i]? = some x) (hj : nm[j]? = some y) (hk : kindIn sc x = some .local) (hk' : kindIn sc y = some .local)
  (hs : ∀ env, env.scope = sc → swapsWithSole [.Tuple [.Name x p1, .Name y p2] x1 p3] value pos.line env = pure false) (hs2 : ∀ env, env.scope = sc → swappedStores [.Tuple [.Name x p1, .Name y p2] x1 p3] value env = pure (some [x, y])) :
  S1 c sc nm n (.Assign [.Tuple [.Name x p1, .Name y p2] x1 p3] value pos) (sAsg f (swA i j)) := by
 intro A env φ ρ σ s fl ρ' σ' Q E he hA F R hf k
 unfold sAsg swA at hf
 refine ob2 hf fun v₁ σ₁ h1 hf => ?_
 refine oq2 hf fun ρ₂ σ₂ h2 hf => ?_
 refine onTup_t h2 ?_; clear h2; rintro _ rfl h2; refine arg2_t h2 ?_; clear h2; rintro y₁ z₁ rfl h2
 cases h2
 cases hf
 rw [exec_Assign_arm, hs env he]
 refine wpAny_bind (wpAny_standAt (wpAny_bind (wpAny_pure ?_)))
 rw [if_neg Bool.false_ne_true]
 refine wpAny_bind (hx A env φ ρ σ s _ _ _ E he hA F R h1 fun φ₁ h₁ t₁ v' S₁ R₁ va => ?_)
 rw [hs2 env he]
 refine wpAny_bind (wpAny_pure ?_)
 unfold VR at va
 obtain ⟨t, vs, rfl, ht, nt, hl⟩ := va
 unfold VRL at hl; obtain ⟨v₁, r, rfl, hv₁, hl⟩ := hl
 unfold VRL at hl; obtain ⟨v₂, r, rfl, hv₂, hl⟩ := hl
 unfold VRL at hl; subst hl
 unfold assignStores
 refine wpAny_bind (wpAny_rule (wpAny_bind ?_))
 have F₁ := F.exprStep S₁
 refine with_size (wpAny_unpackItems_tuple (items := #[v₁, v₂]) hA.handled ht fun h₂ hs₂ sz₂ => ?_)
 obtain ⟨S₀, R₀, F₀⟩ := grow_RF F₁ R₁ (extBut_grow hs₂) sz₂
 show wpAny _ _ (assignInOrder [fun v => bindName env y v, fun v => bindName env x v] [v₂, v₁] >>= fun _ => pure Flow.next) _ _ _
 show wpAny _ _ ((holding _ _ >>= fun _ => assignInOrder _ _) >>= _) _ _ _
 have q1 := F₁.noSeq
 refine wpAny_bind (wpAny_bind (wpAny_holding (wpAny_bindName (F₀.storeL hnd R₀ hj ((kindOf_eq he y).trans hk') (VR.mono S₀ (noSeq_no _) _ _ hv₂) fun h₃ t₃ S₃ R₃ F₃ => ?_))))
 show wpAny _ _ (holding _ _ >>= fun _ => assignInOrder _ _) _ _ _
 have S03 : Step (FA env) φ₁ h₁ φ₁ h₃ := (S₀.mono no_mono).trans (S₃.mono (onlyL_FA env))
 refine wpAny_bind (wpAny_holding (wpAny_bindName (F₃.storeL hnd R₃ hi ((kindOf_eq he x).trans hk) (VR.mono S03 q1 _ _ hv₁) fun h₄ t₄ S₄ R₄ F₄ => ?_)))
 exact wpAny_pure (wpAny_pure (k _ _ _ _ ((S₁.mono no_mono).trans (S03.trans (S₄.mono (onlyL_FA env)))) R₄ F₄ rfl))
noncomputable def sExpr (f : Fn) : St := fun ρ σ => (f ρ σ).map fun p => (.next, ρ, p.2)
theorem S1.expr {e : Expr} {pos} {f : Fn} (hx : SE c sc nm n e f) (hs : ∀ env, swapsWith e none pos.line env = pure false) : S1 c sc nm n (.Expr e pos) (sExpr f) := by
 intro A env φ ρ σ s fl ρ' σ' Q E he hA F R hf k
 unfold sExpr at hf
 refine oq2 hf fun v₁ σ₁ h1 hf => ?_
 cases hf
 refine wpAny_Expr_any (hx A env φ ρ σ s v₁ _ _ E he hA F R h1 fun φ₁ h₁ t₁ v' S₁ R₁ va => ?_) (by unfold interactive; rw [F.kind]; rfl) (hs env)
 exact k _ _ _ _ (S₁.mono no_mono) R₁ (F.exprStep S₁) rfl
noncomputable def sRet (f : Fn) : St := fun ρ σ => (f ρ σ).map fun p => (.ret p.1, ρ, p.2)
theorem S1.ret {e : Expr} {pos} {f : Fn} (hx : SE c sc nm n e f) : S1 c sc nm n (.Return (some e) pos) (sRet f) := by
 intro A env φ ρ σ s fl ρ' σ' Q E he hA F R hf k
 unfold sRet at hf
 refine oq2 hf fun v₁ σ₁ h1 hf => ?_
 cases hf
 refine wpAny_Return_some (hx A env φ ρ σ s v₁ _ _ E he hA F R h1 fun φ₁ h₁ t₁ v' S₁ R₁ va => ?_)
 exact k _ _ _ _ (S₁.mono no_mono) R₁ (F.exprStep S₁) ⟨v', rfl, va⟩
noncomputable def sNil : St := fun ρ σ => some (.next, ρ, σ)
noncomputable def sCons (f g : St) : St := fun ρ σ => (f ρ σ).bind fun p => match p.1 with
 | .next => g p.2.1 p.2.2
 | .ret v => some (.ret v, p.2.1, p.2.2)
theorem SS.nil : SS c sc nm n [] sNil := by
 intro A env φ ρ σ s fl ρ' σ' Q E he hA F R hf k
 cases hf
 exact wpAny_execs_nil (k φ s.heap s.toks _ (Step.refl _ _ _) R F rfl)
theorem SS.cons {st : Stmt} {ss : List Stmt} {f g : St} (h1 : S1 c sc nm n st f) (h2 : SS c sc nm n ss g) : SS c sc nm n (st :: ss) (sCons f g) := by
 intro A env φ ρ σ s fl ρ' σ' Q E he hA F R hf k
 unfold sCons at hf
 refine ob3 hf fun fl₁ ρ₁ σ₁ e1 hf => ?_
 refine wpAny_execs_cons (h1 A env φ ρ σ s fl₁ ρ₁ σ₁ _ E he hA F R e1 fun φ₁ h₁ t₁ f' S₁ R₁ F₁ hfl => ?_)
 cases fl₁ with
 | next =>
  cases hfl
  exact h2 A env φ₁ ρ₁ σ₁ _ fl ρ' σ' _ E he hA F₁ R₁ hf fun φ₂ h₂ t₂ f'' S₂ R₂ F₂ hfl₂ => k _ _ _ _ (S₁.trans S₂) R₂ F₂ hfl₂
 | ret v =>
  cases hf
  have hfl' := hfl
  obtain ⟨v', rfl, hv⟩ := hfl
  exact k _ _ _ _ S₁ R₁ F₁ hfl'
theorem SS.one {st : Stmt} {f : St} (h1 : S1 c sc nm n st f) : SS c sc nm n [st] f := by
 intro A env φ ρ σ s fl ρ' σ' Q E he hA F R hf k
 refine wpAny_execs_cons (h1 A env φ ρ σ s fl ρ' σ' _ E he hA F R hf fun φ₁ h₁ t₁ f' S₁ R₁ F₁ hfl => ?_)
 cases fl with
 | next => have := hfl; cases hfl; exact wpAny_execs_nil (k _ _ _ _ S₁ R₁ F₁ this)
 | ret v => have := hfl; obtain ⟨v', rfl, hv⟩ := hfl; exact k _ _ _ _ S₁ R₁ F₁ this
noncomputable def sIf (t : Loc → Hp → Option (Bool × Hp)) (f g : St) : St := fun ρ σ => (t ρ σ).bind fun p => if p.1 then f ρ p.2 else g ρ p.2
theorem S1.ifs {t : Expr} {b o : List Stmt} {pos} {tf} {f g : St} (ht : ST c sc nm n t tf) (hb : SS c sc nm n b f) (ho : SS c sc nm n o g) : S1 c sc nm n (.If t b o pos) (sIf tf f g) := by
 intro A env φ ρ σ s fl ρ' σ' Q E he hA F R hf k
 unfold sIf at hf
 refine ob2 hf fun b₁ σ₁ e1 hf => ?_
 refine wpAny_If (ht A env φ ρ σ s b₁ σ₁ _ E he hA F R e1 fun φ₁ h₁ t₁ S₁ R₁ => ?_)
 cases b₁ with
 | true =>
  rw [if_pos rfl] at hf ⊢
  exact hb A env φ₁ ρ σ₁ _ fl ρ' σ' _ E he hA (F.exprStep S₁) R₁ hf fun φ₂ h₂ t₂ f'' S₂ R₂ F₂ hfl₂ => k _ _ _ _ ((S₁.mono no_mono).trans S₂) R₂ F₂ hfl₂
 | false =>
  rw [if_neg Bool.false_ne_true] at hf ⊢
  exact ho A env φ₁ ρ σ₁ _ fl ρ' σ' _ E he hA (F.exprStep S₁) R₁ hf fun φ₂ h₂ t₂ f'' S₂ R₂ F₂ hfl₂ => k _ _ _ _ ((S₁.mono no_mono).trans S₂) R₂ F₂ hfl₂
noncomputable def sWhile (t : Loc → Hp → Option (Bool × Hp)) (f : St) : Nat → St
 | 0, _, _ => none
 | k + 1, ρ, σ => (t ρ σ).bind fun p => if p.1 then (f ρ p.2).bind fun q => match q.1 with
   | .next => sWhile t f k q.2.1 q.2.2
   | .ret v => some (.ret v, q.2.1, q.2.2)
  else some (.next, ρ, p.2)
inductive WI (c : Cx) (φ : Phi) (s : Shared) (nm : List Str) (env : Env) (g : Loc → Hp → Option (Fl × Loc × Hp)) (e : Fl × Loc × Hp) (s₁ : Shared) : Prop
 | mk (φ₁ : Phi) (ρ₁ : Loc) (σ₁ : Hp) (h₁ : Heap) (t₁ : Nat) (_ : s₁ = { s with heap := h₁, toks := t₁ }) (_ : Step (FA env) φ s.heap φ₁ h₁) (_ : c.R φ₁ σ₁ h₁) (_ : Frame c.hb nm env φ₁ ρ₁ h₁) (_ : g ρ₁ σ₁ = some e) : WI c φ s nm env g e s₁
theorem S1.while {t : Expr} {b : List Stmt} {pos} {tf} {f : St} {N : Nat} (ht : ST c sc nm n t tf) (hb : SS c sc nm n b f) : S1 c sc nm n (.While t b [] pos) (sWhile tf f N) := by
 intro A env φ ρ σ s fl ρ' σ' Q E he hA F R hf k
 refine wpAny_While ?_
 refine codeAny_whileLoop (fun m s₁ => WI c φ s nm env (sWhile tf f m) (fl, ρ', σ') s₁) ?_ N
  ⟨φ, ρ, σ, s.heap, s.toks, rfl, Step.refl _ _ _, R, F, hf⟩
 rintro m s₁ ⟨φ₁, ρ₁, σ₁, h₁, t₁, rfl, S₁, R₁, F₁, hm⟩
 cases m with
 | zero => cases hm
 | succ m =>
  unfold sWhile at hm
  refine ob2 hm fun b₂ σ₂ e1 hm => ?_
  refine ht A env φ₁ ρ₁ σ₁ _ b₂ σ₂ _ _ he hA F₁ R₁ e1 fun φ₂ h₂ t₂ S₂ R₂ => ?_
  have F₂ := F₁.exprStep S₂
  have S12 := S₁.trans (S₂.mono no_mono)
  cases b₂ with
  | true =>
   rw [if_pos rfl] at hm ⊢
   refine ob3 hm fun fl₃ ρ₃ σ₃ e2 hm => ?_
   refine hb A env φ₂ ρ₁ σ₂ _ fl₃ ρ₃ σ₃ _ _ he hA F₂ R₂ e2 fun φ₃ h₃ t₃ f' S₃ R₃ F₃ hfl => ?_
   cases fl₃ with
   | next => cases hfl; exact ⟨m, Nat.lt_succ_self _, φ₃, ρ₃, σ₃, h₃, t₃, rfl, S12.trans S₃, R₃, F₃, hm⟩
   | ret v =>
    cases hm
    have hfl' := hfl
    obtain ⟨v', rfl, hv⟩ := hfl
    exact k _ _ _ _ (S12.trans S₃) R₃ F₃ hfl'
  | false =>
   rw [if_neg Bool.false_ne_true] at hm ⊢
   cases hm
   exact wpAny_execs_nil (k _ _ _ _ S12 R₂ F₂ rfl)
inductive Src where
 | list (n : Nat) | tup (xs : List V) | range (lo hi : Int) | str (s : Str)
noncomputable def nxt : Src → Nat → Hp → Option (Option V)
 | .list n, i, σ => onLst σ[n]? fun xs => some xs[i]?
 | .tup xs, i, _ => some xs[i]?
 | .range lo hi, i, _ => if -1000000000 ≤ lo ∧ hi ≤ 1000000000 then some (if lo + (i : Int) < hi then some (.int (lo + (i : Int))) else none) else none
 | .str s, i, _ => if s.cps.all (· < 128) ∧ i ≤ s.cps.size then some (s.cps[i]?.map fun ch => .str ⟨#[ch]⟩) else none
theorem nxt_list {σ : Hp} {n : Nat} {xs : List V} (h : σ[n]? = some (.list xs)) (i : Nat) : nxt (.list n) i σ = some xs[i]? := congrArg (fun o => onLst o fun xs => some xs[i]?) h
noncomputable def IterAt (φ : Phi) (h : Heap) : Src → Addr → Nat → Prop
 | .list n, I, i => ∃ a d, φ[n]? = some (a, d) ∧ h.IsListIter I a i
 | .tup xs, I, i => ∃ t vs, IsTup h t (List.toArray vs) ∧ ¬ Tr φ t ∧ VRL φ h xs vs ∧ h.IsTupleIter I t i
 | .range lo hi, I, i => ∃ left, IsRangeIter h I (lo + (i : Int)) left 1 ∧ (lo + (i : Int) < hi → left = hi - lo - (i : Int)) ∧ (¬ lo + (i : Int) < hi → left ≤ 0)
 | .str s, I, i => ∃ t, h.IsStrIter I "str_ascii_iterator" s t i
inductive iter_obj_O (h : Heap) (I : Addr) : Prop
 | mk (o : Obj) (T : String) (vs : Array Value) (_ : h.get? I = some o) (_ : o.cls = .type T) (_ : o.data = .fields vs) (_ : ["enumerate", "zip", "dict_itemiterator", "dict_reverseitemiterator", "odict_iterator", "itertools.zip_longest", "itertools.pairwise"].contains T = false) : iter_obj_O h I
theorem iter_obj {src : Src} {I : Addr} {i : Nat} (it : IterAt φ h src I i) : iter_obj_O h I := by
 cases src with
 | list n => obtain ⟨a, d, _, o, ho, hc, hd⟩ := it; exact ⟨o, _, _, ho, hc, hd, by decide⟩
 | tup xs => obtain ⟨t, vs, _, _, _, o, ho, hc, hd⟩ := it; exact ⟨o, _, _, ho, hc, hd, by decide⟩
 | range lo hi => obtain ⟨left, ho, _⟩ := it; exact ⟨_, _, _, ho, rfl, rfl, by decide⟩
 | str s => obtain ⟨t, o, ho, hc, hd⟩ := it; exact ⟨o, _, _, ho, hc, hd, by decide⟩
theorem letOwned {M : Model} {A : Around} {E : Value → Shared → Prop} {s : Shared} {src : Src} {I : Addr} {i : Nat} {target : Expr} {v : Value} {Q : Unit → Shared → Prop} (it : IterAt φ s.heap src I i) (hQ : Q () s) :
  wpAny M A (letOwnedTupleGo target (.ref I) v) Q E s := by
 obtain ⟨o, T, vs, ho, hc, hd, hT⟩ := iter_obj it
 have body : wpAny M A (do
   let (.ref r, .ref a) := (Value.ref I, v) | return
   let o ← load r
   match o.cls, o.data with
   | .type n, .fields vs =>
    if ["enumerate", "zip", "dict_itemiterator", "dict_reverseitemiterator", "odict_iterator", "itertools.zip_longest", "itertools.pairwise"].contains n && vs[0]? == some (rawInt a) then
     rule "for.unpacks-the-owned-tuple"
     updateField r 0 .none
   | _, _ => pure ()) Q E s := by
  cases v <;> try exact wpAny_pure hQ
  refine wpAny_bind (wpAny_load ho ?_)
  rw [hc, hd]
  dsimp only
  rw [hT, Bool.false_and]
  exact wpAny_pure hQ
 cases target <;> first | exact body | exact wpAny_pure hQ
theorem IterAt.step {W} {src : Src} {I : Addr} {i : Nat} (it : IterAt φ h src I i) (S : Step W φ h φ' h') (hW : NoSeq W h) (k : ∀ o, h.get? I = some o → h'.get? I = some o) : IterAt φ' h' src I i := by
 cases src with
 | list n =>
  obtain ⟨a, d, e, o, ho, r⟩ := it
  obtain ⟨t, rfl⟩ := S.ext
  exact ⟨a, d, by rw [List.getElem?_append_left (List.getElem?_eq_some_iff.mp e).1]; exact e, o, k o ho, r⟩
 | tup xs =>
  obtain ⟨t, vs, ⟨o1, h1, hc1, n1, hd1⟩, nt, hl, o, ho, r⟩ := it
  exact ⟨t, vs, ⟨o1, S.keep t o1 h1 nt (fun w => hW t o1 _ _ w h1 hc1 hd1), hc1, n1, hd1⟩, S.not h1 nt, VRL.mono S hW _ _ hl, o, k o ho, r⟩
 | range lo hi => obtain ⟨left, ho, r⟩ := it; exact ⟨left, k _ ho, r⟩
 | str s => obtain ⟨t, o, ho, r⟩ := it; exact ⟨t, o, k o ho, r⟩
theorem same_all {a : Addr} (hs : Heap.SameBut a h h') : ∀ b o, b ≠ a → h.get? b = some o → h'.get? b = some o := fun b o n e => (hs.2 b n).trans e
theorem at_iter {σ : Hp} {s h' : Heap} {I : Addr} (R : c.R φ σ s) (nI : ¬ Tr φ I) (bI : c.hb.get? I = none) (hseq : ∀ o xs n, s.get? I = some o → o.data ≠ .seq xs n)
  (k : ∀ b o, b ≠ I → s.get? b = some o → h'.get? b = some o) (sz : s.objs.size ≤ h'.objs.size) : Step (fun b => b = I) φ s φ h' ∧ c.R φ σ h' := by
 have S : Step (fun b => b = I) φ s φ h' := ⟨⟨[], by simp⟩, fun b o e _ w => k b o w e, fun b h1 h2 => (h2 h1).elim, sz⟩
 have q : NoSeq (fun b => b = I) s := fun b o xs n w e _ => by subst w; exact hseq o xs n e
 exact ⟨S, R.keep S q (fun b w => by subst w; exact bI) fun b t o e => k b o (fun q => nI (q ▸ t)) e⟩
theorem iter_noseq {src : Src} {I : Addr} {i : Nat} (it : IterAt φ h src I i) : ∀ o xs n, h.get? I = some o → o.data ≠ .seq xs n := fun o xs n e q => by
 obtain ⟨o', T, vs, ho, hc, hd, _⟩ := iter_obj it
 rw [e] at ho; cases ho; rw [q] at hd; cases hd
set_option tactic.hygienic true in
theorem next_item {A : Around} {s : Shared} {σ : Hp} {src : Src} {I : Addr} {i : Nat} {x : V} {Q : Option Value → Shared → Prop} {E : Value → Shared → Prop} (hh : A.handled = none) (R : c.R φ σ s.heap) (it : IterAt φ s.heap src I i) (nI : ¬ Tr φ I) (bI : c.hb.get? I = none)
  (hn : nxt src i σ = some (some x)) (k : ∀ h' t' v, (∀ b o, b ≠ I → s.heap.get? b = some o → h'.get? b = some o) → Step (fun b => b = I) φ s.heap φ h' → c.R φ σ h' → VR φ h' x v → IterAt φ h' src I (i + 1) → Q (some v) { s with heap := h', toks := t' }) : wpAny c.M A (pyNext (.ref I)) Q E s := by
 have hsq := iter_noseq it
 have q : NoSeq (fun b => b = I) s.heap := fun b o xs n w e _ => by subst w; exact hsq o xs n e
 cases src with
 | list m =>
  obtain ⟨a, d, e, hit⟩ := it
  refine onLst_t hn fun xs hσ hn => ?_
  obtain ⟨hq, vs, hl, hv⟩ := R.objs m _ _ hσ e
  obtain ⟨v, hv1, hv2⟩ := VRL.get hv (Option.some.inj hn)
  refine wpAny_pyNext_list_item (items := List.toArray vs) hit hl.isList (by simpa using hv1) fun h' hit' hs => ?_
  obtain ⟨S, R'⟩ := at_iter R nI bI hsq (same_all hs) (by rw [hs.1]; exact Nat.le_refl _)
  exact k h' _ v (same_all hs) S R' (VR.mono S q _ _ hv2) ⟨a, d, e, hit'⟩
 | tup xs =>
  obtain ⟨t, vs, ht, nt, hv, hit⟩ := it
  unfold nxt at hn
  obtain ⟨v, hv1, hv2⟩ := VRL.get hv (Option.some.inj hn)
  refine wpAny_pyNext_tuple_item (items := List.toArray vs) hit ht (by simpa using hv1) fun h' hit' hs => ?_
  obtain ⟨S, R'⟩ := at_iter R nI bI hsq (same_all hs) (by rw [hs.1]; exact Nat.le_refl _)
  obtain ⟨o1, ho1, hc1, n1, hd1⟩ := ht
  exact k h' _ v (same_all hs) S R' (VR.mono S q _ _ hv2) ⟨t, vs, ⟨o1, S.keep t o1 ho1 nt (fun w => q t o1 _ _ w ho1 hc1 hd1), hc1, n1, hd1⟩, nt, VRL.mono S q _ _ hv, hit'⟩
 | range lo hi =>
  obtain ⟨left, hit, l1, l2⟩ := it
  unfold nxt at hn
  dsimp only at hn
  refine ift hn fun _ hn => ?_
  have hn := Option.some.inj hn
  refine ift hn fun hlt hn => ?_
  cases hn
  have hl := l1 hlt
  refine wpAny_pyNext_range_item hit (om10 hlt hl) fun h' hit' hs => ?_
  obtain ⟨S, R'⟩ := at_iter R nI bI hsq (same_all hs) (by rw [hs.1]; exact Nat.le_refl _)
  refine k h' _ _ (same_all hs) S R' (by unfold VR; exact ⟨_, rfl⟩) ⟨left - 1, ?_, fun _ => ?_, fun _ => ?_⟩
  ·rw [show lo + ((i + 1 : Nat) : Int) = lo + (i : Int) + 1 by exact om11]; exact hit'
  ·exact om12 hl
  ·exact om13 hl (by assumption)
 | str x =>
  obtain ⟨t, hit⟩ := it
  unfold nxt at hn
  dsimp only at hn
  refine ift hn fun _ hn => ?_
  have hn := Option.some.inj hn
  (refine oq1 hn ?_; rintro ch hc rfl)
  refine with_size ((Walks.strAscii hh I x t).item i s _ _ (Array.getElem?_eq_some_iff.mp hc).1 hit fun v h' tk hP hit' hk sz => ?_)
  obtain ⟨c', u, hc', rfl⟩ := hP
  rw [hc] at hc'; cases hc'
  obtain ⟨S, R'⟩ := at_iter R nI bI hsq (fun b o hb e => hk b o (by simpa using hb) e) sz
  exact k h' tk _ (fun b o hb e => hk b o (by simpa using hb) e) S R' (by unfold VR; exact ⟨_, rfl⟩) ⟨t, hit'⟩
set_option tactic.hygienic true in
theorem next_end {A : Around} {s : Shared} {σ : Hp} {src : Src} {I : Addr} {i : Nat} {Q : Option Value → Shared → Prop} {E : Value → Shared → Prop} (hh : A.handled = none) (R : c.R φ σ s.heap) (it : IterAt φ s.heap src I i) (nI : ¬ Tr φ I) (bI : c.hb.get? I = none)
  (hn : nxt src i σ = some none) (k : ∀ h' t', (∀ b o, b ≠ I → s.heap.get? b = some o → h'.get? b = some o) → Step (fun b => b = I) φ s.heap φ h' → c.R φ σ h' → Q none { s with heap := h', toks := t' }) : wpAny c.M A (pyNext (.ref I)) Q E s := by
 have hsq := iter_noseq it
 have fin : ∀ h', Heap.ExtBut I s.heap h' → s.heap.objs.size ≤ h'.objs.size → ∀ t', Q none { s with heap := h', toks := t' } := fun h' hs sz t' => by
  obtain ⟨S, R'⟩ := at_iter R nI bI hsq hs sz
  exact k h' t' hs S R'
 cases src with
 | list m =>
  obtain ⟨a, d, e, hit⟩ := it
  refine onLst_t hn fun xs hσ hn => ?_
  obtain ⟨hq, vs, hl, hv⟩ := R.objs m _ _ hσ e
  have := Option.some.inj hn
  refine with_size (wpAny_pyNext_list_end (items := List.toArray vs) hh hit hl.isList ?_ fun h' hs sz => fin h' hs sz _)
  rw [List.getElem?_toArray, List.getElem?_eq_none_iff, hv.length]
  exact List.getElem?_eq_none_iff.mp this
 | tup xs =>
  obtain ⟨t, vs, ht, nt, hv, hit⟩ := it
  unfold nxt at hn
  have := Option.some.inj hn
  refine with_size (wpAny_pyNext_tuple_end (items := List.toArray vs) hh hit ht ?_ fun h' hs sz => fin h' hs sz _)
  rw [List.getElem?_toArray, List.getElem?_eq_none_iff, hv.length]
  exact List.getElem?_eq_none_iff.mp this
 | range lo hi =>
  obtain ⟨left, hit, l1, l2⟩ := it
  unfold nxt at hn
  dsimp only at hn
  refine ift hn fun _ hn => ?_
  have hn := Option.some.inj hn
  split at hn
  ·cases hn
  ·rename_i hlt
   exact with_size (wpAny_pyNext_range_end hh hit (l2 hlt) fun h' hs sz => fin h' hs sz _)
 | str x =>
  obtain ⟨t, hit⟩ := it
  unfold nxt at hn
  dsimp only at hn
  refine ift hn fun hc hn => ?_
  have hn := Option.some.inj hn
  have hi : i = x.cps.size := by
   have h1 := hc.2
   cases q : x.cps[i]? with
   | some ch => rw [q] at hn; cases hn
   | none => have := Array.getElem?_eq_none_iff.mp q; exact om14 hc this
  subst hi
  refine with_size ((Walks.strAscii hh I x t).done s _ _ hit fun h' tk hk sz => ?_)
  exact fin h' (fun b o hb e => hk b o (by simpa using hb) e) sz tk
noncomputable def Mk := Loc → Hp → Option (Src × Hp)
noncomputable def SI (c : Cx) (sc : Scope) (nm : List Str) (n : Nat) (e : Expr) (mk : Mk) : Prop :=
 ∀ A env φ ρ σ s src σ' Q E, env.scope = sc → Room n A → Frame c.hb nm env φ ρ s.heap → c.R φ σ s.heap → mk ρ σ = some (src, σ') →
  (∀ φ' h' t' I, Step NoW φ s.heap φ' h' → c.R φ' σ' h' → IterAt φ' h' src I 0 → s.heap.objs.size ≤ I → ¬ Tr φ' I → Q (.ref I) { s with heap := h', toks := t' }) →
  wpAny c.M A (eval e env) (fun x s₁ => wpAny c.M A (pyIter x) Q E s₁) E s
noncomputable def srcOf (v : V) (σ : Hp) : Option Src := vc v no no (fun s => if s.cps.all (· < 128) then some (.str s) else none) (fun n => onLst σ[n]? fun _ => some (.list n)) (fun xs => some (.tup xs)) none
noncomputable def mkV (f : Fn) : Mk := fun ρ σ => (f ρ σ).bind fun p => (srcOf p.1 p.2).map fun s => (s, p.2)
theorem push_step (o : Obj) : Step NoW φ h φ (h.push o) := Step.grow (fun _ _ e => Heap.get?_push_of_some _ e) (by rw [Heap.size_push]; exact Nat.le_succ _)
theorem push_R {σ : Hp} (R : c.R φ σ h) (o : Obj) : c.R φ σ (h.push o) := R.grow (fun _ _ e => Heap.get?_push_of_some _ e) (by rw [Heap.size_push]; exact Nat.le_succ _)
theorem new_untr {σ : Hp} (R : c.R φ σ h) {a : Addr} (ha : h.objs.size ≤ a) : ¬ Tr φ a := fun t => by
 obtain ⟨o, e⟩ := R.alloc a t
 exact absurd (Heap.lt_size e) (Nat.not_lt.mpr ha)
theorem new_hb {σ : Hp} (R : c.R φ σ h) {a : Addr} (ha : h.objs.size ≤ a) : c.hb.get? a = none := by
 cases q : c.hb.get? a with
 | none => rfl
 | some o => exact absurd (Heap.lt_size (R.base a o q)) (Nat.not_lt.mpr ha)
theorem SI.val {e : Expr} {f : Fn} (hx : SE c sc nm n e f) : SI c sc nm n e (mkV f) := by
 intro A env φ ρ σ s src σ' Q E he hA F R hf k
 unfold mkV at hf
 refine ob2 hf fun v σ₁ h1 hf => ?_
 refine oq1 hf fun sr h2 hf => ?_
 cases hf
 refine hx A env φ ρ σ s v _ _ E he hA F R h1 fun φ₁ h₁ t₁ v' S₁ R₁ hv => ?_
 have nI : ¬ Tr φ₁ h₁.objs.size := new_untr R₁ (Nat.le_refl _)
 dsimp only at h2 hv
 cases v with
 | ref m =>
  refine onLst_t h2 fun xs hσ h2 => ?_
  cases h2
  unfold VR at hv
  obtain ⟨a, d, rfl, e⟩ := hv
  obtain ⟨_, vs, hl, _⟩ := R₁.objs m _ _ hσ e
  exact wpAny_pyIter_list hl.isList (k _ _ _ _ (S₁.trans (push_step _)) (push_R R₁ _) ⟨a, d, e, _, Heap.get?_push_size _ rfl, rfl, rfl⟩ S₁.size nI)
 | tup xs =>
  cases h2
  unfold VR at hv
  obtain ⟨a, vs, rfl, ht, nt, hl⟩ := hv
  refine wpAny_pyIter_tuple ht (k _ _ _ _ (S₁.trans (push_step _)) (push_R R₁ _) ⟨a, vs, ?_, nt, VRL.mono (push_step _) (noSeq_no _) _ _ hl, _, Heap.get?_push_size _ rfl, rfl, rfl⟩ S₁.size nI)
  exact ht.push _
 | str x =>
  refine ift h2 fun ha h2 => ?_
  cases h2
  unfold VR at hv
  obtain ⟨t, rfl⟩ := hv
  exact wpAny_pyIter_ascii ha (k _ _ _ _ (S₁.trans (push_step _)) (push_R R₁ _) ⟨t, _, Heap.get?_push_size _ rfl, rfl, rfl⟩ S₁.size nI)
 | _ => cases h2
noncomputable def mkR1 (f : Fn) : Mk := fun ρ σ => (f ρ σ).bind fun p => onInt p.1 fun i => if -1000000000 ≤ i ∧ i ≤ 1000000000 then some (.range 0 i, p.2) else none
noncomputable def mkR2 (f g : Fn) : Mk := fun ρ σ => (f ρ σ).bind fun p => (g ρ p.2).bind fun q => onInt p.1 fun i => onInt q.1 fun j => if (-1000000000 ≤ i ∧ i ≤ 1000000000) ∧ -1000000000 ≤ j ∧ j ≤ 1000000000 then some (.range i j, q.2) else none
theorem bootRange : bootBuiltins (Str.ofString "range") = some (.type "range") := by decide +kernel
theorem mg_none {K : Frag} {h : Heap} {mg : Str → Option Value} {x : Str} (X : K.In h) (G : h.Ns mainGlobals mg) (e : nsIn K mainGlobals x = some none) : mg x = none := by
 obtain ⟨o, es, ep, ho, hd, _, hf⟩ := G
 unfold nsIn at e
 revert e
 cases hl : K.lookup mainGlobals with
 | none => exact fun e => nomatch e
 | some ob =>
  cases (X _ _ hl).symm.trans ho
  obtain ⟨cc, d, dd, sl⟩ := o
  cases hd
  rw [← hf x]
  unfold nsFind findBy
  rw [← Array.find?_toList]
  show (match es.toList.find? (fun e => e.key.isStr x) with | some e => some (some e.val) | none => if es.toList.any (·.refKey) then none else some none) = some none → _
  cases hn : es.toList.find? (fun e => e.key.isStr x) with
  | some z => exact fun e => nomatch e
  | none => exact fun _ => rfl
theorem builtin_name {x : Str} {pos : Pos} {v : Value} {A : Around} {s : Shared} {σ : Hp} {Q : Value → Shared → Prop} {E : Value → Shared → Prop} (he : env.scope = sc) (F : Frame c.hb nm env φ ρ s.heap) (R : c.R φ σ s.heap)
  (hk : kindIn sc x = some .globalImplicit) (hd : (x == ("__debug__" : Str)) = false) (hg : nsIn c.K mainGlobals x = some none) (hb : bootBuiltins x = some v) (hx : x ≠ ("__name__" : Str)) (h : Q v s) :
  wpAny c.M A (eval (.Name x pos) env) Q E s := by
 refine Name_function_global F.kind ((kindOf_eq he x).trans hk) ?_ hd
 exact loadGlobal_builtin (by rw [F.glob]; exact c.g.keeps R.base) (mg_none c.kin c.g hg) (by rw [F.blt]; exact c.b.keeps R.base) ((c.mbs x hx).trans hb) h
theorem range_iter {σ : Hp} {s : Shared} {lo hi : Int} {r : Addr} {t u v : Tok} {A : Around} {Q : Value → Shared → Prop} {E : Value → Shared → Prop} (R : c.R φ σ s.heap) (hr : IsRange s.heap r lo hi 1 t u v)
  (hb : (-1000000000 ≤ lo ∧ lo ≤ 1000000000) ∧ -1000000000 ≤ hi ∧ hi ≤ 1000000000)
  (k : ∀ h' I, Step NoW φ s.heap φ h' → c.R φ σ h' → IterAt φ h' (.range lo hi) I 0 → s.heap.objs.size ≤ I → ¬ Tr φ I → Q (.ref I) { s with heap := h' }) : wpAny c.M A (pyIter (.ref r)) Q E s := by
 refine wpAny_pyIter_range hr (small_one (om15 hb) (om16 hb) (om17 hb) (om18 hb)) (k _ _ (push_step _) (push_R R _) ?_ (Nat.le_refl _) (new_untr R (Nat.le_refl _)))
 refine ⟨Builtin.Range.rangeSize lo hi 1, ?_, fun q => ?_, fun q => ?_⟩
 ·rw [show lo + ((0 : Nat) : Int) = lo by exact om19]; exact Heap.get?_push_size _ rfl
 ·rw [rangeSize_one]; split <;> (first | exact om20 | exact om21 q (by assumption))
 ·rw [rangeSize_one]; split <;> (first | exact om22 q | exact om23)
theorem backTo_any {pos : Pos} (l : List (Bool × Sem Value)) : (backTo pos l).any (·.1) = l.any (·.1) := by
 induction l with
 | nil => rfl
 | cons x l ih =>
  show (x.1 || (backTo pos l).any (·.1)) = (x.1 || l.any (·.1))
  rw [ih]
inductive Callee : Value → Prop
 | b (id : String) : Callee (.builtin id)
 | t (T : String) : Callee (.type T)
theorem callWith_callee {M : Model} {A : Around} {E : Value → Shared → Prop} {s : Shared} {pos : Pos} {f : Value} (hc : Callee f) {e : Expr} {es : List Expr} {env : Env} {Q : Value → Shared → Prop} (hplain : (starEach (e :: es) env).any (·.1) = false)
  (he : starEach (e :: es) env = (false, eval e env) :: starEach es env)
  (h : wpAny M A (spliced (backTo pos (starEach (e :: es) env))) (fun vs s₁ => wpAny M A (call f vs) Q E s₁) E s) : wpAny M A (callWith pos f [] (backTo pos (starEach (e :: es) env)) []) Q E s := by
 have hb : (backTo pos (starEach es env)).any (·.1) = false := by
  rw [backTo_any]; rw [he] at hplain; exact hplain
 cases hc with
 | b id => exact PyProof.Rows.callWith_builtin1 h he hb
 | t T => exact PyProof.Rows.callWith_type1 h he hb
noncomputable def callL (fs : FnL) (o : List V → Hp → Option (V × Hp)) : Fn := fun ρ σ => (fs ρ σ).bind fun p => o p.1 p.2
theorem SE.callB {x : Str} {p pos : Pos} {f : Value} {e : Expr} {es : List Expr} {fs : FnL} {o} (hc : Callee f) (hk : kindIn sc x = some .globalImplicit) (hd : (x == ("__debug__" : Str)) = false) (hg : nsIn c.K mainGlobals x = some Option.none) (hb : bootBuiltins x = some f) (hx : x ≠ ("__name__" : Str))
  (ha : SL c sc nm n (e :: es) fs) (hs : ∀ env, starEach (e :: es) env = (false, eval e env) :: starEach es env) (ho : OpL c n (fun vs => call f vs) o) : SE c sc nm n (.Call (.Name x p) (e :: es) [] pos) (callL fs o) := by
 intro A env φ ρ σ s v σ' Q E he hA F R hf k
 unfold callL at hf
 refine ob2 hf fun vs σ₁ h1 hf => ?_
 refine wpAny_Call_Name_kw (builtin_name he F R hk hd hg hb hx ?_)
 show wpAny _ _ (callWith pos f [] (backTo pos (starEach (e :: es) env)) []) _ _ _
 refine callWith_callee hc (ha.1 env) (hs env) (ha.2 A env φ ρ σ s vs σ₁ _ E pos he hA F R h1 fun φ₁ h₁ t₁ vs' S₁ R₁ hv => ?_)
 exact ho A φ₁ σ₁ _ vs vs' v σ' Q E hA R₁ hv hf (k.after S₁)
theorem SI.range1 {x : Str} {p pos : Pos} {e : Expr} {f : Fn} (hx : x = ("range" : Str)) (hk : kindIn sc x = some .globalImplicit) (hg : nsIn c.K mainGlobals x = some none) (ha : SE c sc nm n e f) (hs : ∀ env, starEach [e] env = [(false, eval e env)]) : SI c sc nm n (.Call (.Name x p) [e] [] pos) (mkR1 f) := by
 intro A env φ ρ σ s src σ' Q E he hA F R hf k
 unfold mkR1 at hf
 refine ob2 hf fun v σ₁ h1 hf => ?_
 refine onInt_t hf ?_; clear hf; rintro i rfl hf
 refine ift hf fun hi hf => ?_
 cases hf
 refine wpAny_Call_Name_kw (builtin_name he F R hk (by subst hx; decide) hg (v := .type "range") (by subst hx; exact bootRange) (by subst hx; decide) ?_)
 show wpAny _ _ (callWith pos (.type "range") [] (backTo pos (starEach [e] env)) []) _ _ _
 refine callWith_callee (.t _) (by rw [hs]; rfl) (hs env) ?_
 rw [hs]
 refine spliced_cons (ha A env φ ρ σ s _ _ _ E he hA F R h1 fun φ₁ h₁ t₁ v' S₁ R₁ hv => spliced_nil ?_)
 unfold VR at hv
 obtain ⟨t, rfl⟩ := hv
 refine call_range_1 ?_
 refine range_iter (push_R R₁ _) (IsRange.new _ _ _ _ _ _ _) ⟨om24, hi⟩ fun h' I S₂ R₂ it hI nI => ?_
 refine k _ _ _ _ ((S₁.trans (push_step _)).trans S₂) R₂ it (Nat.le_trans S₁.size (Nat.le_trans ?_ hI)) nI
 show h₁.objs.size ≤ (h₁.push _).objs.size
 rw [Heap.size_push]; exact Nat.le_succ _
theorem SI.range2 {x : Str} {p pos : Pos} {e e' : Expr} {f g : Fn} (hx : x = ("range" : Str)) (hk : kindIn sc x = some .globalImplicit) (hg : nsIn c.K mainGlobals x = some none) (ha : SE c sc nm n e f) (hb : SE c sc nm n e' g) (hs1 : ∀ env, starEach [e, e'] env = (false, eval e env) :: starEach [e'] env) (hs2 : ∀ env, starEach [e'] env = [(false, eval e' env)]) :
  SI c sc nm n (.Call (.Name x p) [e, e'] [] pos) (mkR2 f g) := by
 intro A env φ ρ σ s src σ' Q E he hA F R hf k
 unfold mkR2 at hf
 refine ob2 hf fun v σ₁ h1 hf => ?_
 refine ob2 hf fun v₂ σ₂ h2 hf => ?_
 refine onInt_t hf ?_; clear hf; rintro i rfl hf; refine onInt_t hf ?_; clear hf; rintro j rfl hf
 refine ift hf fun hi hf => ?_
 cases hf
 refine wpAny_Call_Name_kw (builtin_name he F R hk (by subst hx; decide) hg (v := .type "range") (by subst hx; exact bootRange) (by subst hx; decide) ?_)
 show wpAny _ _ (callWith pos (.type "range") [] (backTo pos (starEach [e, e'] env)) []) _ _ _
 refine callWith_callee (.t _) (by rw [hs1, hs2]; rfl) (hs1 env) ?_
 rw [hs1, hs2]
 refine spliced_cons (ha A env φ ρ σ s _ _ _ E he hA F R h1 fun φ₁ h₁ t₁ v' S₁ R₁ hv => ?_)
 refine spliced_cons (hb A env φ₁ ρ σ₁ _ _ _ _ E he hA (F.exprStep S₁) R₁ h2 fun φ₂ h₂ t₂ v₂' S₂ R₂ hv₂ => spliced_nil ?_)
 unfold VR at hv hv₂
 obtain ⟨t, rfl⟩ := hv
 obtain ⟨t', rfl⟩ := hv₂
 refine call_range_2 ?_
 refine range_iter (push_R R₂ _) (IsRange.new _ _ _ _ _ _ _) hi fun h' I S₃ R₃ it hI nI => ?_
 refine k _ _ _ _ (((S₁.trans S₂).trans (push_step _)).trans S₃) R₃ it (Nat.le_trans (S₁.trans S₂).size (Nat.le_trans ?_ hI)) nI
 show h₂.objs.size ≤ (h₂.push _).objs.size
 rw [Heap.size_push]; exact Nat.le_succ _
noncomputable def forGo (src : Src) (a : Asg) (f : St) : Nat → Nat → St
 | 0, _, _, _ => none
 | k + 1, i, ρ, σ => (nxt src i σ).bind fun r => match r with
  | none => some (.next, ρ, σ)
  | some x => (a x ρ σ).bind fun p => (f p.1 p.2).bind fun q => match q.1 with
   | .next => forGo src a f k (i + 1) q.2.1 q.2.2
   | .ret v => some (.ret v, q.2.1, q.2.2)
noncomputable def sFor (mk : Mk) (a : Asg) (f : St) (N : Nat) : St := fun ρ σ => (mk ρ σ).bind fun p => forGo p.1 a f N 0 ρ p.2
theorem IterAt.nt {W} {src : Src} {I : Addr} {i : Nat} (it : IterAt φ h src I i) (S : Step W φ h φ' h') (n : ¬ Tr φ I) : ¬ Tr φ' I := by
 obtain ⟨o, T, vs, ho, _⟩ := iter_obj it; exact S.not ho n
theorem iter_q {src : Src} {I : Addr} {i : Nat} (it : IterAt φ h src I i) : NoSeq (fun b => b = I) h := fun b o xs n w e _ => by subst w; exact iter_noseq it o xs n e
inductive FI (c : Cx) (φ : Phi) (s : Shared) (nm : List Str) (env : Env) (src : Src) (I : Addr) (g : Nat → Loc → Hp → Option (Fl × Loc × Hp)) (e : Fl × Loc × Hp) (s₁ : Shared) : Prop
 | mk (i : Nat) (φ₁ : Phi) (ρ₁ : Loc) (σ₁ : Hp) (h₁ : Heap) (t₁ : Nat) (_ : s₁ = { s with heap := h₁, toks := t₁ }) (_ : Step (FA env) φ s.heap φ₁ h₁) (_ : c.R φ₁ σ₁ h₁) (_ : Frame c.hb nm env φ₁ ρ₁ h₁) (_ : IterAt φ₁ h₁ src I i) (_ : ¬ Tr φ₁ I) (_ : g i ρ₁ σ₁ = some e) : FI c φ s nm env src I g e s₁
theorem S1.for {t iter : Expr} {b : List Stmt} {pos} {mk : Mk} {a : Asg} {f : St} {N : Nat} (hi : SI c sc nm n iter mk) (ha : SA c sc nm n FA t a) (hb : SS c sc nm n b f) (hs : ∀ env x, foldedSetIterable iter env x = pure x) : S1 c sc nm n (.For t iter b [] pos) (sFor mk a f N) := by
 intro A env φ ρ σ s fl ρ' σ' Q E he hA F R hf k
 unfold sFor at hf
 refine ob2 hf fun src σ₁ h1 hf => ?_
 refine wpAny_For (hi A env φ ρ σ s src σ₁ _ E he hA F R h1 fun φ₁ h₁ t₁ I S₁ R₁ it hI nI => ?_) (hs env)
 have bI : c.hb.get? I = none := new_hb R hI
 have hIn : s.heap.get? I = none := by
  cases q : s.heap.get? I with
  | none => rfl
  | some o => exact absurd (Heap.lt_size q) (Nat.not_lt.mpr hI)
 have nFI : ¬ FA env I := fun w => by obtain ⟨o, e⟩ := F.alive I w; rw [hIn] at e; cases e
 refine codeAny_loop' rfl (fun m s₁ => FI c φ s nm env src I (forGo src a f m) (fl, ρ', σ') s₁) ?_ N
  ⟨0, φ₁, ρ, σ₁, h₁, t₁, rfl, S₁.mono no_mono, R₁, F.exprStep S₁, it, nI, hf⟩
 clear it nI R₁ S₁ hf h1 t₁ h₁ φ₁ σ₁
 rintro m s₁ ⟨i, φ₁, ρ₁, σ₁, h₁, t₁, rfl, S₁, R₁, F₁, it, nI, hm⟩
 cases m with
 | zero => cases hm
 | succ m =>
  unfold forGo at hm
  refine ob1 hm fun r e1 hm => ?_
  show wpAny _ _ ((forTurn t (.ref I) b [] env).onRaise (fun x => do noteFrame x env; theTreesLotGoes x)) _ _ _
  refine wpAny_noted ?_
  unfold forTurn
  refine wpAny_bind (wpAny_standAt (wpAny_bind (wpAny_onRaise ?_)))
  cases r with
  | none =>
   cases hm
   refine next_end hA.handled R₁ it nI bI e1 fun h₂ t₂ kk S₂ R₂ => ?_
   refine wpAny_pure (.inr ⟨rfl, codeAny_block (wpAny_execs_nil ?_)⟩)
   exact k _ _ _ _ (S₁.but kk hIn S₂.size) R₂ (F₁.step S₂ (iter_q it) (fun b w q => nFI (q ▸ w))) rfl
  | some x =>
   refine ob2 hm fun ρ₂ σ₂ e2 hm => ?_
   refine ob3 hm fun fl₃ ρ₃ σ₃ e3 hm => ?_
   refine next_item hA.handled R₁ it nI bI e1 fun h₂ t₂ v kk S₂ R₂ hv it₂ => ?_
   refine wpAny_bind (letOwned it₂ ?_)
   have F₂ := F₁.step S₂ (iter_q it) (fun b w q => nFI (q ▸ w))
   refine wpAny_bind (ha A env φ₁ ρ₁ σ₁ _ x v ρ₂ σ₂ _ _ he hA F₂ R₂ hv e2 fun φ₃ h₃ t₃ S₃ R₃ F₃ => ?_)
   have it₃ := it₂.step S₃ F₂.noSeq fun o e => S₃.keep I o e nI nFI
   have nI₃ := it₂.nt S₃ nI
   refine wpAny_bind (hb A env φ₃ ρ₂ σ₂ _ fl₃ ρ₃ σ₃ _ _ he hA F₃ R₃ e3 fun φ₄ h₄ t₄ f' S₄ R₄ F₄ hfl => ?_)
   have S14 := ((S₁.but kk hIn S₂.size).trans S₃).trans S₄
   cases fl₃ with
   | next =>
    cases hfl
    exact wpAny_pure (.inl ⟨rfl, m, Nat.lt_succ_self _, i + 1, φ₄, ρ₃, σ₃, h₄, t₄, rfl, S14, R₄, F₄, it₃.step S₄ F₃.noSeq fun o e => S₄.keep I o e nI₃ nFI, it₃.nt S₄ nI₃, hm⟩)
   | ret v =>
    cases hm
    have hfl' := hfl
    obtain ⟨v', rfl, hv⟩ := hfl
    exact wpAny_pure (k _ _ _ _ S14 R₄ F₄ hfl')
noncomputable def relabelS (scope sc : Scope) : Scope :=
 { scope with names := scope.names.map fun (n, k) => if (k == .free && sc.kind == .function && sc.names.lookup n == some .cell) then (n, .cell) else (n, k) }
theorem relabel_eq (scope : Scope) (he : env.scope = sc) : relabel scope env = relabelS scope sc := by subst he; rfl
noncomputable def cellAddr (env : Env) (x : Str) : Addr := (env.cells.lookup x).getD 0
noncomputable def freeNames (scope : Scope) : List Str := (scope.names.filter (·.2 == .free)).map (·.1)
noncomputable def clOf (scope : Scope) (env : Env) : List (Str × Addr) := ((freeNames scope).map fun x => (x, cellAddr env x)).reverse
theorem closure_of (scope : Scope) (hc : ∀ x ∈ freeNames scope, (env.cells.lookup x).isSome = true) : closureFor scope env = pure (clOf scope env) := by
 unfold closureFor clOf freeNames at *
 have gen : ∀ (names : List (Str × NameKind)) (acc : List (Str × Addr)), (∀ x ∈ (names.filter (·.2 == .free)).map (·.1), (env.cells.lookup x).isSome = true) →
   (forIn names acc (fun x cs => match x with | (name, kind) => if (kind == NameKind.free) = true then (do let a ← cellOf env name; pure (ForInStep.yield ((name, a) :: cs))) else pure (ForInStep.yield cs)) : Sem (List (Str × Addr))) = pure (((names.filter (·.2 == .free)).map fun x => (x.1, cellAddr env x.1)).reverse ++ acc) := by
  intro names
  induction names with
  | nil => intro acc _; rw [List.forIn_nil]; rfl
  | cons y r ih =>
   intro acc hx
   obtain ⟨y, k⟩ := y
   rw [List.forIn_cons]
   by_cases hk : (k == NameKind.free) = true
   ·have h1 : (env.cells.lookup y).isSome = true := hx y (by simp [hk])
    obtain ⟨a, ha⟩ := Option.isSome_iff_exists.mp h1
    simp only [hk, if_true]
    have e1 : cellOf env y = pure a := by unfold cellOf; rw [ha]
    rw [e1]
    simp only [pure_bind]
    rw [ih _ (fun z hz => hx z (by simp only [List.filter_cons, hk, if_true, List.map_cons]; exact List.mem_cons_of_mem _ hz))]
    simp only [List.filter_cons, hk, if_true, List.map_cons, List.reverse_cons, List.append_assoc, List.singleton_append, cellAddr, ha, Option.getD_some]
   ·have hk' : (k == NameKind.free) = false := by simpa using hk
    simp only [hk', Bool.false_eq_true, if_false, pure_bind]
    rw [ih _ (fun z hz => hx z (by simp only [List.filter_cons, hk', Bool.false_eq_true, if_false]; exact hz))]
    simp only [List.filter_cons, hk', Bool.false_eq_true, if_false]
 have := gen scope.names [] hc
 rw [List.append_nil] at this
 rw [show (List.map (fun x => (x, cellAddr env x)) (List.map (fun x => x.fst) (List.filter (fun x => x.snd == NameKind.free) scope.names))) = (List.map (fun x => (x.1, cellAddr env x.1)) (List.filter (fun x => x.snd == NameKind.free) scope.names)) by rw [List.map_map]; rfl]
 rw [← this]
 simp only [bind_pure]
theorem lookup_map {l : List Str} {g : Str → Addr} {x : Str} (h : x ∈ l) : (l.map fun y => (y, g y)).lookup x = some (g x) := by
 induction l with
 | nil => cases h
 | cons y r ih =>
  rw [List.map_cons, List.lookup_cons]
  by_cases q : x = y
  ·subst q; simp
  ·have q' : (x == y) = false := by simpa using q
   rw [q']
   exact ih (by cases h with | head => exact absurd rfl q | tail _ h => exact h)
theorem cl_lookup {scope : Scope} {x : Str} (h : x ∈ freeNames scope) : (clOf scope env).lookup x = some (cellAddr env x) := by
 unfold clOf
 rw [← List.map_reverse]
 exact lookup_map (List.mem_reverse.mpr h)
theorem cl_mem {scope : Scope} {x : Str} {a : Addr} (h : (x, a) ∈ clOf scope env) : x ∈ freeNames scope ∧ a = cellAddr env x := by
 unfold clOf at h
 obtain ⟨y, hy, e⟩ := List.mem_map.mp (List.mem_reverse.mp h)
 cases e
 exact ⟨hy, rfl⟩
structure CompOk (nm : List Str) (sc scope : Scope) (own : List Str) (caps : List (Nat × Str)) : Prop where
 kind : scope.kind = .function
 fn : sc.kind = .function
 nocell : ∀ x ∈ scope.names, x.2 ≠ .cell
 locals : ∀ x ∈ scope.names, x.2 = .local → scope.names.lookup x.1 = some .local
 free : freeNames scope = caps.map (·.2)
 caps : ∀ p ∈ caps, nm[p.1]? = some p.2 ∧ kindIn sc p.2 = some .cell ∧ kindIn (relabelS scope sc) p.2 = some .cell
 own : ∀ x ∈ own, kindIn (relabelS scope sc) x = some .local
 cells : ∀ x, kindIn (relabelS scope sc) x = some .cell → x ∈ freeNames scope
 nodup : (freeNames scope).Nodup
noncomputable def compNm (own : List Str) (caps : List (Nat × Str)) : List Str := own ++ caps.map (·.2)
noncomputable def compLoc (own : Nat) (caps : List (Nat × Str)) (ρ : Loc) : Loc := List.replicate own .undef ++ caps.map fun p => ρ[p.1]?.getD .undef
theorem comp_frame {scope : Scope} {own : List Str} {caps : List (Nat × Str)} {C : Addr} {m : Str → Option Value} (ok : CompOk nm sc scope own caps) (he : env.scope = sc) (F : Frame c.hb nm env φ ρ h)
  (hn : h.Ns C m) (nC : ¬ Tr φ C) (bC : c.hb.get? C = none) (hC : ∀ b, FA env b → b ≠ C) :
  Frame c.hb (compNm own caps) (compEnvC scope (clOf scope env) C env) φ (compLoc own.length caps ρ) h := by
 have hsc : (compEnvC scope (clOf scope env) C env).scope = relabelS scope sc := relabel_eq scope he
 have hcell : ∀ x ∈ freeNames scope, ∃ i, nm[i]? = some x ∧ (i, x) ∈ caps ∧ env.kindOf x = some .cell ∧ ∃ a, env.cells.lookup x = some a ∧ cellAddr env x = a := fun x hx => by
  rw [ok.free] at hx
  obtain ⟨p, hp, rfl⟩ := List.mem_map.mp hx
  obtain ⟨h1, h2, h3⟩ := ok.caps p hp
  have hk := (kindOf_eq he p.2).trans h2
  obtain ⟨a, ha⟩ := F.celx _ hk
  exact ⟨p.1, h1, hp, hk, a, ha, by unfold cellAddr; rw [ha]; rfl⟩
 have hmem : ∀ x a, (x, a) ∈ clOf scope env → (x, a) ∈ env.cells := fun x a hx => by
  obtain ⟨h1, rfl⟩ := cl_mem hx
  obtain ⟨i, _, _, _, a, ha, e⟩ := hcell x h1
  rw [e]; exact mem_of_lookup ha
 have hfa : ∀ b, FA (compEnvC scope (clOf scope env) C env) b → b = C ∨ FA env b := fun b w => by
  rcases w with w | ⟨x, hx⟩
  ·exact .inl w
  ·exact .inr (.inr ⟨x, hmem x b hx⟩)
 refine ⟨?_, F.glob, F.blt, ⟨m, hn, fun i x v h1 h2 h3 h4 => ?_⟩, fun x a hx => F.cel x a (hmem x a hx), fun i x a v h1 h2 h3 h4 h5 => ?_, fun x hx => ?_, ?_, fun x a hx q => ?_, fun b w => ?_, fun b w => ?_⟩
 ·rw [hsc]; exact ok.kind
 ·exfalso
  unfold compLoc at h2
  by_cases q : i < own.length
  ·rw [List.getElem?_append_left (by simpa using q), List.getElem?_replicate, if_pos q] at h2
   cases h2; exact h3 rfl
  ·unfold compNm at h1
   rw [List.getElem?_append_right (Nat.not_lt.mp q)] at h1
   have hx : x ∈ caps.map (·.2) := List.mem_of_getElem? h1
   obtain ⟨p, hp, rfl⟩ := List.mem_map.mp hx
   rw [kindOf_eq hsc, (ok.caps p hp).2.2] at h4
   cases h4
 ·have hx : x ∈ freeNames scope := ok.cells x ((kindOf_eq hsc x).symm.trans h4)
  have h5' : a = cellAddr env x := by
   have := cl_lookup (env := env) hx
   have e : (compEnvC scope (clOf scope env) C env).cells = clOf scope env := rfl
   rw [e, this] at h5; exact (Option.some.inj h5).symm
  obtain ⟨j, hj1, hj2, hj3, a', ha', e'⟩ := hcell x hx
  unfold compLoc at h2
  unfold compNm at h1
  by_cases q : i < own.length
  ·rw [List.getElem?_append_left (by simpa using q), List.getElem?_replicate, if_pos q] at h2
   cases h2; exact absurd rfl h3
  ·rw [List.getElem?_append_right (Nat.not_lt.mp q)] at h1
   rw [List.getElem?_append_right (by simpa using q), List.length_replicate, List.getElem?_map] at h2
   rw [List.getElem?_map] at h1
   refine oq1 h1 fun p hp hp2 => ?_
   rw [hp] at h2
   have hpm := List.mem_of_getElem? hp
   obtain ⟨c1, c2, c3⟩ := ok.caps p hpm
   simp only [Option.map_some, Option.some.injEq] at h2
   cases hr : ρ[p.1]? with
   | none => rw [hr] at h2; exact absurd h2.symm h3
   | some u =>
    rw [hr, Option.getD_some] at h2
    subst h2
    subst hp2
    have := F.celv p.1 p.2 a' u c1 hr h3 hj3 ha'
    rw [h5', e']
    exact this
 ·have hx' : x ∈ freeNames scope := ok.cells x ((kindOf_eq hsc x).symm.trans hx)
  exact ⟨_, cl_lookup (env := env) hx'⟩
 ·show (clOf scope env).Pairwise _
  unfold clOf
  rw [List.pairwise_reverse, List.pairwise_map]
  refine List.Pairwise.imp_of_mem (fun {x y} hx hy hne => ?_) ok.nodup
  intro q
  obtain ⟨_, _, _, _, a, ha, e⟩ := hcell x hx
  obtain ⟨_, _, _, _, a', ha', e'⟩ := hcell y hy
  have q' : a = a' := by
   have q2 : cellAddr env y = cellAddr env x := q
   rw [e, e'] at q2; exact q2.symm
  exact hne (name_of_addr F.ap (mem_of_lookup ha) (q' ▸ mem_of_lookup ha'))
 ·exact hC a (.inr ⟨x, hmem x a hx⟩) q
 ·rcases hfa b w with rfl | w
  ·exact nC
  ·exact F.nt b w
 ·rcases hfa b w with rfl | w
  ·exact bC
  ·exact F.nb b w
noncomputable def compGo (src : Src) (a : Asg) (t : Loc → Hp → Option (Bool × Hp)) (elt : Fn) : Nat → Nat → Loc → Hp → Option (List V × Hp)
 | 0, _, _, _ => none
 | k + 1, i, ρ, σ => (nxt src i σ).bind fun r => match r with
  | none => some ([], σ)
  | some x => (a x ρ σ).bind fun p => (t p.1 p.2).bind fun q =>
   if q.1 then (elt p.1 q.2).bind fun e => (compGo src a t elt k (i + 1) p.1 e.2).map fun r => (e.1 :: r.1, r.2)
   else compGo src a t elt k (i + 1) p.1 q.2
noncomputable def tYes : Loc → Hp → Option (Bool × Hp) := fun _ σ => some (true, σ)
noncomputable def cComp (mk : Mk) (own : Nat) (caps : List (Nat × Str)) (a : Asg) (t : Loc → Hp → Option (Bool × Hp)) (elt : Fn) (N : Nat) : Fn := fun ρ σ =>
 (mk ρ σ).bind fun p => (compGo p.1 a t elt N 0 (compLoc own caps ρ) p.2).bind fun q => some (.ref q.2.length, q.2 ++ [.list q.1])
noncomputable def STs (c : Cx) (sc : Scope) (nm : List Str) (n : Nat) (es : List Expr) (f : Loc → Hp → Option (Bool × Hp)) : Prop :=
 ∀ A env φ ρ σ s b σ' Q E, env.scope = sc → Room n A → Frame c.hb nm env φ ρ s.heap → c.R φ σ s.heap → f ρ σ = some (b, σ') →
  (∀ φ' h' t', Step NoW φ s.heap φ' h' → c.R φ' σ' h' → Q b { s with heap := h', toks := t' }) →
  wpAny c.M A (forIn es true fun c r => if r = true then do let ok ← isTrue c env (eval c env); pure (ForInStep.yield ok) else pure (ForInStep.yield r)) Q E s
theorem STs.nil : STs c sc nm n [] tYes := fun A env φ ρ σ s b σ' Q E he hA F R hf k => by
 cases hf; exact wpAny_tests_nil (k φ s.heap s.toks (Step.refl _ _ _) R)
theorem STs.one {e : Expr} {f} (h : ST c sc nm n e f) : STs c sc nm n [e] f := fun A env φ ρ σ s b σ' Q E he hA F R hf k => wpAny_tests_one (h A env φ ρ σ s b σ' Q E he hA F R hf k)
theorem Step.noW {W : Addr → Prop} {φ φ₂ : Phi} {h h₂ : Heap} (S : Step W φ h φ₂ h₂) (hW : ∀ b, W b → h.get? b = none) : Step NoW φ h φ₂ h₂ :=
 ⟨S.ext, fun b o e n _ => S.keep b o e n (fun w => by rw [hW b w] at e; cases e), S.fresh, S.size⟩
theorem step_fresh {W : Addr → Prop} {φ₁ φ₂ : Phi} {h₁ h₂ : Heap} (S : Step NoW φ h φ₁ h₁) (S' : Step W φ₁ h₁ φ₂ h₂) (hW : ∀ b, W b → h.get? b = none) : Step NoW φ h φ₂ h₂ :=
 ((S.mono (W' := W) no_mono).trans S').noW hW
theorem at_but {σ : Hp} {s h' : Heap} {a : Addr} (R : c.R φ σ s) (na : ¬ Tr φ a) (ba : c.hb.get? a = none) (hseq : NoSeq (fun b => b = a) s)
  (k : ∀ b o, b ≠ a → s.get? b = some o → h'.get? b = some o) (sz : s.objs.size ≤ h'.objs.size) : Step (fun b => b = a) φ s φ h' ∧ c.R φ σ h' := by
 have S : Step (fun b => b = a) φ s φ h' := ⟨⟨[], by simp⟩, fun b o e _ w => k b o w e, fun b h1 h2 => (h2 h1).elim, sz⟩
 exact ⟨S, R.keep S hseq (fun b w => by subst w; exact ba) fun b t o e => k b o (fun q => na (q ▸ t)) e⟩
theorem list_noseq {a : Addr} {xs : Array Value} (hl : Lst h a xs) : NoSeq (fun b => b = a) h := fun b o ys n w e hc _ => by
 subst w
 obtain ⟨o', ho, hc', _⟩ := hl.isList
 rw [e] at ho; cases ho
 rw [hc'] at hc
 exact absurd hc (by decide)
theorem VRL.snoc {xs : List V} {vs : List Value} {x : V} {v : Value} (a : VRL φ h xs vs) (b : VR φ h x v) : VRL φ h (xs ++ [x]) (vs ++ [v]) := a.append (VRL.cons b VRL.nil)
structure LS (φ₀ : Phi) (h₀ : Heap) (φ : Phi) (h : Heap) (src : Src) (I : Addr) (i : Nat) (D : Addr) (done : List V) (ys : List Value) : Prop where
 ss : Step NoW φ₀ h₀ φ h
 it : IterAt φ h src I i
 nI : ¬ Tr φ I
 hl : Lst h D (List.toArray ys)
 hv : VRL φ h done ys
 nD : ¬ Tr φ D
section
variable {φ₀ : Phi} {h₀ : Heap} {src : Src} {I : Addr} {i : Nat} {D : Addr} {done : List V} {ys : List Value}
theorem LS.fresh {W} (L : LS φ₀ h₀ φ h src I i D done ys) (S : Step W φ h φ' h') (hW : ∀ b, W b → h₀.get? b = none) (hq : NoSeq W h) (wI : ¬ W I) (wD : ¬ W D) : LS φ₀ h₀ φ' h' src I i D done ys :=
 ⟨step_fresh L.ss S hW, L.it.step S hq fun o e => S.keep I o e L.nI wI, L.it.nt S L.nI, L.hl.keep fun o e => S.keep D o e L.nD wD, VRL.mono S hq _ _ L.hv, by obtain ⟨n, ho⟩ := L.hl; exact S.not ho L.nD⟩
theorem LS.trans (L : LS φ₀ h₀ φ h src I i D done ys) (S : Step NoW φ h φ' h') : LS φ₀ h₀ φ' h' src I i D done ys :=
 ⟨L.ss.trans S, L.it.step S (noSeq_no _) fun o e => S.keep I o e L.nI id, L.it.nt S L.nI, L.hl.keep fun o e => S.keep D o e L.nD id, VRL.mono S (noSeq_no _) _ _ L.hv, by obtain ⟨n, ho⟩ := L.hl; exact S.not ho L.nD⟩
theorem LS.next (L : LS φ₀ h₀ φ h src I i D done ys) (S : Step (fun b => b = I) φ h φ h') (kk : ∀ b o, b ≠ I → h.get? b = some o → h'.get? b = some o) (hI : h₀.get? I = none) (it : IterAt φ h' src I (i + 1)) (hID : I ≠ D) : LS φ₀ h₀ φ h' src I (i + 1) D done ys :=
 ⟨L.ss.but kk hI S.size, it, L.nI, L.hl.keep fun o => kk D o (Ne.symm hID), VRL.mono S (iter_q L.it) _ _ L.hv, L.nD⟩
theorem LS.push (L : LS φ₀ h₀ φ h src I i D done ys) (S : Step (fun b => b = D) φ h φ h') (hq : NoSeq (fun b => b = D) h) (kk : ∀ b o, b ≠ D → h.get? b = some o → h'.get? b = some o) (hD : h₀.get? D = none) (hID : I ≠ D) {y : V} {y' : Value}
  (hl : Lst h' D ((List.toArray ys).push y')) (hy : VR φ h y y') : LS φ₀ h₀ φ h' src I i D (done ++ [y]) (ys ++ [y']) :=
 ⟨L.ss.but kk hD S.size, L.it.step S hq (fun o e => kk I o hID e), L.nI, by simpa using hl, VRL.snoc (VRL.mono S hq _ _ L.hv) (VR.mono S hq _ _ hy), L.nD⟩
end
inductive CL (c : Cx) (φ : Phi) (s : Shared) (nmc : List Str) (cenv : Env) (src : Src) (I D : Addr) (vs : List V) (X : Phi → Heap → Loc → Prop) (g : Nat → Loc → Hp → Option (List V × Hp)) (σ' : Hp) (b : Nat) (s₁ : Shared) : Prop
 | mk (i : Nat) (φ₁ : Phi) (ρ₁ : Loc) (σ₁ : Hp) (h₁ : Heap) (t₁ : Nat) (done : List V) (ys : List Value) (r : List V) (_ : s₁ = { s with heap := h₁, toks := t₁ }) (_ : c.R φ₁ σ₁ h₁) (_ : Frame c.hb nmc cenv φ₁ ρ₁ h₁) (_ : X φ₁ h₁ ρ₁)
   (_ : LS φ s.heap φ₁ h₁ src I i D done ys) (_ : g i ρ₁ σ₁ = some (r, σ')) (_ : vs = done ++ r) (_ : done.length + b ≤ big) : CL c φ s nmc cenv src I D vs X g σ' b s₁
theorem comp_loop {sc' : Scope} {nmc : List Str} {elt target iter : Expr} {ifs : List Expr} {scope : Scope} {pos : Pos} {src : Src} {a : Asg} {t : Loc → Hp → Option (Bool × Hp)} {f : Fn} {N : Nat} {cenv : Env} {A : Around}
  (ha : SA c sc' nmc n onlyL target a) (ht : STs c sc' nmc n ifs t) (hx : SE c sc' nmc n elt f) (he : cenv.scope = sc') (hA : Room n A)
  {s : Shared} {I D : Addr} {vs : List V} {σ' : Hp} (hI : s.heap.get? I = none) (hD : s.heap.get? D = none) (hC : s.heap.get? cenv.locals = none) (bI : c.hb.get? I = none) (bD : c.hb.get? D = none) (hID : I ≠ D) (nFI : ¬ FA cenv I) (nFD : ¬ FA cenv D)
  {Rr : Result → Shared → Prop}
  (k : ∀ φ' h' t' ys, Step NoW φ s.heap φ' h' → c.R φ' σ' h' → Lst h' D (List.toArray ys) → VRL φ' h' vs ys → ¬ Tr φ' D → (∃ m, h'.Ns cenv.locals m) → ¬ Tr φ' cenv.locals → Rr (.ok .next) { s with heap := h', toks := t' })
  {i : Nat} {φ₁ : Phi} {ρ₁ : Loc} {σ₁ : Hp} {h₁ : Heap} {t₁ : Nat} {ys : List Value} {done r : List V}
  (S₁ : Step NoW φ s.heap φ₁ h₁) (R₁ : c.R φ₁ σ₁ h₁) (F₁ : Frame c.hb nmc cenv φ₁ ρ₁ h₁) (it : IterAt φ₁ h₁ src I i) (nI : ¬ Tr φ₁ I) (hl : Lst h₁ D (List.toArray ys)) (hv : VRL φ₁ h₁ done ys) (nD : ¬ Tr φ₁ D)
  (hg : compGo src a t f N i ρ₁ σ₁ = some (r, σ')) (hr : vs = done ++ r) (hN : done.length + N ≤ big) :
  codeAny c.M A (.compLoop (.ListComp elt [⟨target, iter, ifs, 0⟩] scope pos) 0 (.ref I) (.ref D) cenv) Rr { s with heap := h₁, toks := t₁ } := by
 refine codeAny_loop rfl (fun m s₁ => CL c φ s nmc cenv src I D vs (fun _ _ _ => True) (compGo src a t f m) σ' m s₁) ?_ N
  ⟨i, φ₁, ρ₁, σ₁, h₁, t₁, done, ys, r, rfl, R₁, F₁, trivial, ⟨S₁, it, nI, hl, hv, nD⟩, hg, hr, hN⟩
 clear hN hr hg nD hv hl nI it F₁ R₁ S₁
 rintro m s₁ ⟨i, φ₁, ρ₁, σ₁, h₁, t₁, done, ys, r, rfl, R₁, F₁, _, L, hg, hr, hN⟩
 cases m with
 | zero => cases hg
 | succ m =>
  unfold compGo at hg
  refine ob1 hg fun rr e1 hg => ?_
  show wpAny _ _ ((compTurn (.ListComp elt [⟨target, iter, ifs, 0⟩] scope pos) 0 (.ref I) (.ref D) cenv).onRaise (fun x => do noteFrame x cenv; theTreesLotGoes x)) _ _ _
  refine wpAny_noted ?_
  rw [compTurn_list]
  refine wpAny_bind (wpAny_standAt (wpAny_bind ?_))
  have hqI := iter_q L.it
  cases rr with
  | none =>
   cases hg
   rw [List.append_nil] at hr
   subst hr
   refine next_end hA.handled R₁ L.it L.nI bI e1 fun h₂ t₂ kk S₂ R₂ => ?_
   refine wpAny_pure ?_
   obtain ⟨m', hn', _⟩ := (F₁.step S₂ hqI (fun b w q => nFI (q ▸ w))).ns
   exact k φ₁ h₂ t₂ ys (L.ss.but kk hI S₂.size) R₂ (L.hl.keep fun o => kk D o (Ne.symm hID)) (VRL.mono S₂ hqI _ _ L.hv) L.nD ⟨m', hn'⟩ (F₁.nt _ (.inl rfl))
  | some x =>
   refine ob2 hg fun ρ₂ σ₂ e2 hg => ?_
   refine ob2 hg fun b₃ σ₃ e3 hg => ?_
   refine next_item hA.handled R₁ L.it L.nI bI e1 fun h₂ t₂ v kk S₂ R₂ hvx it₂ => ?_
   have F₂ := F₁.step S₂ hqI (fun b w q => nFI (q ▸ w))
   refine wpAny_bind (letOwned it₂ ?_)
   refine wpAny_bind (ha A cenv φ₁ ρ₁ σ₁ _ x v ρ₂ σ₂ _ _ he hA F₂ R₂ hvx e2 fun φ₃ h₃ t₃ S₃ R₃ F₃ => ?_)
   have L₃ := (L.next S₂ kk hI it₂ hID).fresh S₃ (fun b w => by rw [show b = cenv.locals from w]; exact hC) (fun b o xs n w e hc => F₂.noSeq b o xs n (.inl w) e hc) (fun w => nFI (.inl w)) (fun w => nFD (.inl w))
   refine wpAny_bind (ht A cenv φ₃ ρ₂ σ₂ _ b₃ σ₃ _ _ he hA F₃ R₃ e3 fun φ₄ h₄ t₄ S₄ R₄ => ?_)
   have F₄ := F₃.exprStep S₄
   have L₄ := L₃.trans S₄
   cases b₃ with
   | false =>
    rw [if_neg Bool.false_ne_true] at hg
    refine wpAny_pure (And.intro rfl ⟨m, Nat.lt_succ_self _, i + 1, φ₄, ρ₂, σ₃, h₄, t₄, done, ys, r, rfl, R₄, F₄, trivial, L₄, hg, hr, om25 hN⟩)
   | true =>
    rw [if_pos rfl] at hg
    refine ob2 hg fun y σ₅ e5 hg => ?_
    refine oq2 hg fun r' σ₆ e6 hg => ?_
    cases hg
    refine wpAny_bind (wpAny_bind (hx A cenv φ₄ ρ₂ σ₃ _ y σ₅ _ _ he hA F₄ R₄ e5 fun φ₅ h₅ t₅ y' S₅ R₅ hy => ?_))
    have L₅ := L₄.trans S₅
    refine wpAny_bind (Lst.append L₅.hl (fun h₆ hl₆ hs₆ => ?_) (by rw [List.size_toArray, L₅.hv.length]; exact big_le (om26 hN)))
    have hqD := list_noseq L₅.hl
    obtain ⟨S₆, R₆⟩ := at_but R₅ L₅.nD bD hqD (same_all hs₆) (by rw [hs₆.1]; exact Nat.le_refl _)
    exact wpAny_pure (wpAny_pure (And.intro rfl ⟨m, Nat.lt_succ_self _, i + 1, φ₅, ρ₂, σ₅, h₆, t₅, done ++ [y], ys ++ [y'], r', rfl, R₆, (F₄.exprStep S₅).step S₆ hqD (fun b w q => nFD (q ▸ w)), trivial,
     L₅.push S₆ hqD (same_all hs₆) hD hID hl₆ hy, e6, by simpa using hr, by rw [List.length_append, List.length_singleton]; exact om27 hN⟩))
theorem tr_snoc {D : Addr} {b : Addr} (t : Tr (φ ++ [(D, D)]) b) : Tr φ b ∨ b = D := by
 obtain ⟨p, hp, e⟩ := t
 rcases List.mem_append.mp hp with q | q
 ·exact .inl ⟨p, q, e⟩
 ·rw [List.mem_singleton.mp q] at e; exact .inr (e.elim id id)
mutual
theorem VR.adopt {D : Addr} (hD : NoSeq (fun b => b = D) h) : ∀ (x : V) (v : Value), VR φ h x v → VR (φ ++ [(D, D)]) h x v
 | .undef, _, e => by unfold VR at e; exact e.elim
 | .none, _, e => by unfold VR at e ⊢; exact e
 | .bool _, _, e => by unfold VR at e ⊢; exact e
 | .int _, _, e => by unfold VR at e ⊢; exact e
 | .str _, _, e => by unfold VR at e ⊢; exact e
 | .bytes _, _, e => by unfold VR at e ⊢; exact e
 | .ref n, _, e => by
  unfold VR at e ⊢
  obtain ⟨a, d, rfl, e⟩ := e
  exact ⟨a, d, rfl, by rw [List.getElem?_append_left (List.getElem?_eq_some_iff.mp e).1]; exact e⟩
 | .tup xs, _, e => by
  unfold VR at e ⊢
  obtain ⟨a, vs, rfl, ht, n, r⟩ := e
  refine ⟨a, vs, rfl, ht, fun t => ?_, VRL.adopt hD xs vs r⟩
  rcases tr_snoc t with q | q
  ·exact n q
  ·obtain ⟨o, ho, hc, k, hd⟩ := ht
   exact hD a o _ _ q ho hc hd
theorem VRL.adopt {D : Addr} (hD : NoSeq (fun b => b = D) h) : ∀ (x : List V) (v : List Value), VRL φ h x v → VRL (φ ++ [(D, D)]) h x v
 | [], _, e => by unfold VRL at e ⊢; exact e
 | x :: xs, _, e => by
  unfold VRL at e ⊢
  obtain ⟨v, r, rfl, a, b⟩ := e
  exact ⟨v, r, rfl, VR.adopt hD x v a, VRL.adopt hD xs r b⟩
end
theorem DR.adopt {K : Type} {D : Addr} (hD : NoSeq (fun b => b = D) h) : ∀ (x : List (K × V)) (v : List (K × Value)), DR φ h x v → DR (φ ++ [(D, D)]) h x v
 | [], _, e => e
 | _ :: xs, _, ⟨v, r, e, a, b⟩ => ⟨v, r, e, VR.adopt hD _ _ a, DR.adopt hD xs r b⟩
theorem ER.adopt {D : Addr} (hD : NoSeq (fun b => b = D) h) : ∀ (xs : List Str) (vs : List V) (es : List DictEntry), ER φ h xs vs es → ER (φ ++ [(D, D)]) h xs vs es
 | _, [], _, e => by unfold ER at e ⊢; exact e
 | [], _ :: _, _, e => by unfold ER at e; exact e.elim
 | x :: xs, v :: vs, _, e => by
  unfold ER at e ⊢
  obtain ⟨hh, t, u, r, e1, a, b⟩ := e
  exact ⟨hh, t, u, r, e1, VR.adopt hD _ _ a, ER.adopt hD xs vs r b⟩
theorem OR.adopt {prog : Program} {w : World} {flds : Nat → List Str} {D : Addr} (hD : NoSeq (fun b => b = D) h) {o : O} {p : Addr × Addr} (e : OR prog w flds φ h o p) : OR prog w flds (φ ++ [(D, D)]) h o p := by
 cases o with
 | list xs => obtain ⟨q, vs, r, a⟩ := e; exact ⟨q, vs, r, VRL.adopt hD _ _ a⟩
 | raw ob xs => obtain ⟨q, g, vs, r, a⟩ := e; exact ⟨q, g, vs, r, VRL.adopt hD _ _ a⟩
 | idict es => obtain ⟨q, ns, kvs, r, a⟩ := e; exact ⟨q, ns, kvs, r, DR.adopt hD _ _ a⟩
 | sdict es => obtain ⟨q, kvs, r, a⟩ := e; exact ⟨q, kvs, r, DR.adopt hD _ _ a⟩
 | inst c fs =>
  obtain ⟨q, a, es, n, b, f⟩ := e
  exact ⟨q, a, es, n, b, ER.adopt hD _ _ _ f⟩
theorem adopt {σ : Hp} {D : Addr} {vs : List V} {ys : List Value} (R : c.R φ σ h) (nD : ¬ Tr φ D) (bD : c.hb.get? D = none) (hl : Lst h D (List.toArray ys)) (hv : VRL φ h vs ys) : c.R (φ ++ [(D, D)]) (σ ++ [.list vs]) h := by
 have hD := list_noseq hl
 refine ⟨by simp [R.len], ?_, fun m o' q hm hq => ?_, R.base, fun b t => ?_, fun b t => ?_⟩
 ·rw [List.pairwise_append]
  refine ⟨R.apart, List.pairwise_singleton _ _, fun p hp q hq => ?_⟩
  rw [List.mem_singleton.mp hq]
  have h1 : p.1 ≠ D := fun e => nD ⟨p, hp, .inl e.symm⟩
  have h2 : p.2 ≠ D := fun e => nD ⟨p, hp, .inr e.symm⟩
  exact ⟨h1, h1, h2, h2⟩
 ·by_cases hlt : m < φ.length
  ·rw [List.getElem?_append_left hlt] at hq
   rw [List.getElem?_append_left (R.len ▸ hlt)] at hm
   exact OR.adopt hD (R.objs m o' q hm hq)
  ·have hm' : m = φ.length := by
    have := (List.getElem?_eq_some_iff.mp hq).1
    simp at this; exact om4 hlt this
   subst hm'
   rw [List.getElem?_append_right (Nat.le_refl _)] at hq
   rw [R.len, List.getElem?_append_right (Nat.le_refl _)] at hm
   simp at hq hm
   subst hq hm
   exact ⟨rfl, ys, hl, VRL.adopt hD _ _ hv⟩
 ·rcases tr_snoc t with q | rfl
  ·exact R.free b q
  ·exact bD
 ·rcases tr_snoc t with q | rfl
  ·exact R.alloc b q
  ·obtain ⟨n', ho⟩ := hl; exact ⟨_, ho⟩
theorem iter_self {A : Around} {s : Shared} {src : Src} {I : Addr} {i : Nat} {Q : Value → Shared → Prop} {E : Value → Shared → Prop} (it : IterAt φ s.heap src I i) (h : Q (.ref I) s) (hh : A.handled = none) : wpAny c.M A (pyIter (.ref I)) Q E s := by
 cases src with
 | list n => obtain ⟨a, d, _, hit⟩ := it; exact wpAny_pyIter_listiter hit h
 | tup xs => obtain ⟨t, vs, _, _, _, hit⟩ := it; exact wpAny_pyIter_tupleiter hit h
 | range lo hi => obtain ⟨left, hit, _⟩ := it; exact wpAny_pyIter_rangeiter hit h
 | str x => obtain ⟨t, hit⟩ := it; exact (Walks.strAscii hh I x t).self i s Q E hit h
theorem comp_block {own : List Str} {caps : List (Nat × Str)} {elt target iter : Expr} {ifs : List Expr} {scope : Scope} {pos : Pos} {mk : Mk} {a : Asg} {t : Loc → Hp → Option (Bool × Hp)} {f : Fn} {N : Nat}
  (ok : CompOk nm sc scope own caps) (hi : SI c sc nm n iter mk) (ha : SA c (relabelS scope sc) (compNm own caps) n onlyL target a) (ht : STs c (relabelS scope sc) (compNm own caps) n ifs t) (hx : SE c (relabelS scope sc) (compNm own caps) n elt f)
  (hs : ∀ env x, foldedSetIterable iter env x = pure x) (hN : N ≤ big)
  {A : Around} {σ σ' : Hp} {s : Shared} {v : V} {E : Value → Shared → Prop} {use : Option (Value → Sem Unit)} {Q : Value → Shared → Prop} (he : env.scope = sc) (hA : Room n A) (F : Frame c.hb nm env φ ρ s.heap) (R : c.R φ σ s.heap)
  (hf : cComp mk own.length caps a t f N ρ σ = some (v, σ'))
  (k : ∀ φ' h' t' v' C, Step NoW φ s.heap φ' h' → c.R φ' σ' h' → VR φ' h' v v' → (∃ m, h'.Ns C m) → ¬ Tr φ' C → c.hb.get? C = none → s.heap.get? C = none → compPost c.M A E use Q v' C (.ok .next) { s with heap := h', toks := t' }) :
  wpAny c.M A (comprehension (.ListComp elt [⟨target, iter, ifs, 0⟩] scope pos) scope env (firstIterPos [⟨target, iter, ifs, 0⟩] pos) (newList []) false (eval iter env) use) Q E s := by
 unfold cComp at hf
 refine ob2 hf fun src σ₁ h1 hf => ?_
 refine ob2 hf fun vs σ₂ h2 hf => ?_
 cases hf
 have hclos : ∀ x ∈ freeNames scope, (env.cells.lookup x).isSome = true := fun x hx => by
  rw [ok.free] at hx
  obtain ⟨p, hp, rfl⟩ := List.mem_map.mp hx
  obtain ⟨q, hq⟩ := F.celx _ ((kindOf_eq he p.2).trans (ok.caps p hp).2.1)
  rw [hq]; rfl
 refine wpAny_comprehension_free rfl (hs env) (closure_of scope hclos) ok.kind ok.locals ?_
 refine hi A env φ ρ σ s src σ₁ _ E he hA F R h1 fun φ₁ h₁ t₁ I S₁ R₁ it hI nI => ?_
 refine wpAny_newList ?_
 have bI : c.hb.get? I = none := new_hb R hI
 have hl₀ : Lst (h₁.push { cls := .type "list", data := .seq (List.toArray ([] : List Value)) }) h₁.objs.size (List.toArray ([] : List Value)) := Lst.new _ _
 have hsz1 : (h₁.push { cls := .type "list", data := .seq (List.toArray ([] : List Value)) }).objs.size = h₁.objs.size + 1 := Heap.size_push _ _
 generalize hH2 : h₁.push { cls := .type "list", data := .seq (List.toArray ([] : List Value)) } = H2 at hl₀ hsz1
 have S₂ : Step NoW φ₁ h₁ φ₁ H2 := hH2 ▸ push_step _
 have R₂ : c.R φ₁ σ₁ H2 := hH2 ▸ push_R R₁ _
 refine wpAny_newFunctionEnv ok.nocell (by intro y hy; cases hy) (fun h₃ hns₃ hsb₃ => ?_) ok.kind
 show codeAny _ _ (.compStart _ 0 (.ref I) (.ref h₁.objs.size) (compEnvC scope (clOf scope env) H2.objs.size env)) _ _
 dsimp only at hns₃ hsb₃
 have g₃ : ∀ b o, H2.get? b = some o → h₃.get? b = some o := fun b o e => hsb₃.extBut b o (Nat.ne_of_lt (Heap.lt_size e)) (Heap.get?_push_of_some _ e)
 have z₃ : H2.objs.size ≤ h₃.objs.size := by rw [hsb₃.1, Heap.size_push]; exact Nat.le_succ _
 have S₃ : Step NoW φ₁ H2 φ₁ h₃ := Step.grow g₃ z₃
 have R₃ : c.R φ₁ σ₁ h₃ := R₂.grow g₃ z₃
 have S13 := (S₁.trans S₂).trans S₃
 have sz : s.heap.objs.size ≤ h₁.objs.size := S₁.size
 have gone : ∀ a, s.heap.objs.size ≤ a → s.heap.get? a = none := fun a ha => by
  cases q : s.heap.get? a with
  | none => rfl
  | some o => exact absurd (Heap.lt_size q) (Nat.not_lt.mpr ha)
 have szC : s.heap.objs.size ≤ H2.objs.size := by exact om29 hsz1 sz
 have nC : ¬ Tr φ₁ H2.objs.size := new_untr R₂ (Nat.le_refl _)
 have nD : ¬ Tr φ₁ h₁.objs.size := new_untr R₁ (Nat.le_refl _)
 have F₃ := F.exprStep S13
 have hIlt : I < h₁.objs.size := by obtain ⟨o, T, vs, ho, _⟩ := iter_obj it; exact Heap.lt_size ho
 have nf : ∀ {b : Addr}, s.heap.objs.size ≤ b → ¬ FA env b := fun hb w => by
  obtain ⟨o, e⟩ := F.alive _ w
  rw [gone _ hb] at e; cases e
 have CF : Frame c.hb (compNm own caps) (compEnvC scope (clOf scope env) H2.objs.size env) φ₁ (compLoc own.length caps ρ) h₃ :=
  comp_frame ok he F₃ hns₃ nC (new_hb R szC) fun b w q => nf szC (q ▸ w)
 have hfa : ∀ {b : Addr}, FA (compEnvC scope (clOf scope env) H2.objs.size env) b → b = H2.objs.size ∨ FA env b := fun {b} w => by
  rcases w with w | ⟨x, hx⟩
  ·exact .inl w
  ·obtain ⟨h1, e⟩ := cl_mem hx
   have := hclos x h1
   obtain ⟨a', ha'⟩ := Option.isSome_iff_exists.mp this
   refine .inr (.inr ⟨x, ?_⟩)
   have e' : cellAddr env x = a' := by unfold cellAddr; rw [ha']; rfl
   rw [e, e']
   exact mem_of_lookup ha'
 have it₃ : IterAt φ₁ h₃ src I 0 := it.step (S₂.trans S₃) (noSeq_no _) fun o e => g₃ I o (hH2 ▸ Heap.get?_push_of_some _ e)
 have loop : ∀ t₃, codeAny c.M A (.compLoop (.ListComp elt [⟨target, iter, ifs, 0⟩] scope pos) 0 (.ref I) (.ref h₁.objs.size) (compEnvC scope (clOf scope env) H2.objs.size env)) (compPost c.M A E use Q (.ref h₁.objs.size) H2.objs.size) { s with heap := h₃, toks := t₃ } := fun t₃ =>
  comp_loop (i := 0) (ys := []) (done := []) (r := vs) ha ht hx (relabel_eq scope he) hA (gone I hI) (gone _ sz) (gone _ szC) bI (new_hb R sz) (Nat.ne_of_lt hIlt)
   (fun w => by
    rcases hfa w with q | q
    ·have q' : @Eq Nat I H2.objs.size := q
     have hl' : @LT.lt Nat _ I h₁.objs.size := hIlt
     exact om30 hsz1 q' hl'
    ·exact nf hI q) (fun w => by
    rcases hfa w with q | q
    ·have q' : @Eq Nat h₁.objs.size H2.objs.size := q
     exact om31 hsz1 q'
    ·exact nf sz q)
   (fun φ' h' t' ys S' R' hl' hv' nD' hn' nC' => by
    have bD := new_hb R sz
    refine k (φ' ++ [(h₁.objs.size, h₁.objs.size)]) h' t' (.ref h₁.objs.size) H2.objs.size ?_ (adopt R' nD' bD hl' hv') (ref_new R') hn' (fun t => ?_) (new_hb R szC) (gone _ szC)
    ·obtain ⟨tl, e⟩ := S'.ext
     refine ⟨⟨tl ++ [(h₁.objs.size, h₁.objs.size)], by rw [e]; simp⟩, S'.keep, fun b t nt => ?_, S'.size⟩
     rcases tr_snoc t with q | rfl
     ·exact S'.fresh b q nt
     ·exact sz
    ·rcases tr_snoc t with q | q
     ·exact nC' q
     ·have q' : @Eq Nat H2.objs.size h₁.objs.size := q
      exact om32 hsz1 q')
   S13 R₃ CF it₃ nI (hl₀.keep fun o => g₃ _ o) VRL.nil nD h2 rfl (by simpa using hN)
 exact codeAny_compStart_list (loop _) (iter_self it₃ (loop _) hA.handled)
theorem SE.comp {own : List Str} {caps : List (Nat × Str)} {elt target iter : Expr} {ifs : List Expr} {scope : Scope} {pos : Pos} {mk : Mk} {a : Asg} {t : Loc → Hp → Option (Bool × Hp)} {f : Fn} {N : Nat}
  (ok : CompOk nm sc scope own caps) (hi : SI c sc nm n iter mk) (ha : SA c (relabelS scope sc) (compNm own caps) n onlyL target a) (ht : STs c (relabelS scope sc) (compNm own caps) n ifs t) (hx : SE c (relabelS scope sc) (compNm own caps) n elt f)
  (hs : ∀ env x, foldedSetIterable iter env x = pure x) (hN : N ≤ big) : SE c sc nm n (.ListComp elt [⟨target, iter, ifs, 0⟩] scope pos) (cComp mk own.length caps a t f N) := by
 intro A env φ ρ σ s v σ' Q E he hA F R hf k
 rw [eval_ListComp]
 refine comp_block ok hi ha ht hx hs hN he hA F R hf fun φ' h' t' v' C S' R' hv' hn nC bC gC => ?_
 obtain ⟨m, hn⟩ := hn
 refine ⟨m, hn, fun h'' hs'' => ?_⟩
 have hq : NoSeq (fun b => b = C) h' := fun b o xs n w e hc q => by
  subst w
  obtain ⟨o', _, _, ho, hd, _⟩ := hn
  rw [e] at ho; cases ho; rw [q] at hd; cases hd
 obtain ⟨S₂, R₂⟩ := at_but R' nC bC hq (same_all hs'') (by rw [hs''.1]; exact Nat.le_refl _)
 exact k φ' h'' _ v' (S'.but (same_all hs'') gC (by rw [hs''.1]; exact Nat.le_refl _)) R₂ (VR.mono S₂ hq _ _ hv')
theorem S1.assignComp {own : List Str} {caps : List (Nat × Str)} {elt target iter : Expr} {ifs : List Expr} {scope : Scope} {pos spos : Pos} {mk : Mk} {a : Asg} {t : Loc → Hp → Option (Bool × Hp)} {f : Fn} {N : Nat} {tg : Expr} {g : Asg}
  (ok : CompOk nm sc scope own caps) (hi : SI c sc nm n iter mk) (ha : SA c (relabelS scope sc) (compNm own caps) n onlyL target a) (ht : STs c (relabelS scope sc) (compNm own caps) n ifs t) (hx : SE c (relabelS scope sc) (compNm own caps) n elt f)
  (hs : ∀ env x, foldedSetIterable iter env x = pure x) (hN : N ≤ big) (hg : SA c sc nm n FA tg g)
  (hsw : ∀ env, env.scope = sc → swapsWithSole [tg] (.ListComp elt [⟨target, iter, ifs, 0⟩] scope pos) spos.line env = pure true) (he1 : ∀ env, assignEach [tg] env = [(false, PySem.assign tg env)]) :
  S1 c sc nm n (.Assign [tg] (.ListComp elt [⟨target, iter, ifs, 0⟩] scope pos) spos) (sAsg (cComp mk own.length caps a t f N) g) := by
 intro A env φ ρ σ s fl ρ' σ' Q E he hA F R hf k
 unfold sAsg at hf
 refine ob2 hf fun v₁ σ₁ h1 hf => ?_
 refine oq2 hf fun ρ₂ σ₂ h2 hf => ?_
 cases hf
 rw [exec_Assign_arm, hsw env he]
 refine wpAny_bind (wpAny_standAt (wpAny_bind (wpAny_pure ?_)))
 rw [if_pos rfl]
 refine wpAny_bind ?_
 show wpAny _ _ (comprehension _ scope env _ (newList []) false (eval iter env) (some fun v => assignAll v ((assignEach [tg] env).map (·.2))) >>= fun _ => pure ()) _ _ _
 refine wpAny_bind ?_
 refine comp_block (Q := fun _ s' => wpAny c.M A (pure ()) (fun a s' => wpAny c.M A (pure Flow.next) Q E s') E s') ok hi ha ht hx hs hN he hA F R h1 fun φ' h' t' v' C S' R' hv' hn nC bC gC => ?_
 rw [he1]
 show wpAny _ _ (PySem.assign tg env v') _ _ _
 have F' := F.exprStep S'
 refine hg A env φ' ρ σ₁ _ v₁ v' ρ₂ σ₂ _ _ he hA F' R' hv' h2 fun φ₃ h₃ t₃ S₃ R₃ F₃ => ?_
 obtain ⟨m, o, es, ep, ho, r⟩ := hn
 have nFC : ¬ FA env C := fun w => by obtain ⟨o, e⟩ := F.alive C w; rw [gC] at e; cases e
 have ho₃ : h₃.get? C = some o := S₃.keep C o ho nC nFC
 refine ⟨m, ⟨o, es, ep, ho₃, r⟩, fun h₄ hs₄ => ?_⟩
 have nC₃ : ¬ Tr φ₃ C := S₃.not ho nC
 have hq : NoSeq (fun b => b = C) h₃ := fun b o' xs n w e hc q => by
  subst w
  rw [ho₃] at e; cases e; rw [q] at r; cases r.1
 obtain ⟨S₄, R₄⟩ := at_but R₃ nC₃ bC hq (same_all hs₄) (by rw [hs₄.1]; exact Nat.le_refl _)
 refine wpAny_pure (wpAny_pure (k φ₃ h₄ _ .next ?_ R₄ (F₃.step S₄ hq fun b w q => nFC (q ▸ w)) rfl))
 exact ((S'.mono no_mono).trans S₃).but (same_all hs₄) gC (by rw [hs₄.1]; exact Nat.le_refl _)
theorem isStr_iff {y x : Str} {t : Tok} : (Value.str y t).isStr x = true ↔ y = x := by
 unfold Value.isStr; simp
theorem ER.len : ∀ {xs : List Str} {vs : List V} {es : List DictEntry}, ER φ h xs vs es → es.length = vs.length
 | _, [], _, e => by unfold ER at e; subst e; rfl
 | [], _ :: _, _, e => by unfold ER at e; exact e.elim
 | x :: xs, v :: vs, _, e => by unfold ER at e; obtain ⟨hh, t, u, r, rfl, a, b⟩ := e; simp [ER.len b]
theorem ER.noref : ∀ {xs : List Str} {vs : List V} {es : List DictEntry}, ER φ h xs vs es → es.any (·.refKey) = false
 | _, [], _, e => by unfold ER at e; subst e; rfl
 | [], _ :: _, _, e => by unfold ER at e; exact e.elim
 | x :: xs, v :: vs, _, e => by unfold ER at e; obtain ⟨hh, t, u, r, rfl, a, b⟩ := e; rw [List.any_cons, ER.noref b]; rfl
theorem ER.get : ∀ {xs : List Str} {vs : List V} {es : List DictEntry} {i : Nat} {x : Str} {v : V}, ER φ h xs vs es → xs.Nodup → xs[i]? = some x → vs[i]? = some v → ∃ u, getL x es = some (some u) ∧ VR φ h v u
 | _, [], _, _, _, _, _, _, _, q => by simp at q
 | [], _ :: _, _, _, _, _, e, _, _, _ => by unfold ER at e; exact e.elim
 | y :: xs, w :: vs, _, i, x, v, e, hn, hx, hv => by
  unfold ER at e; obtain ⟨hh, t, u, r, rfl, a, b⟩ := e
  cases i with
  | zero =>
   simp at hx hv
   subst hx hv
   exact ⟨u, by unfold getL; rw [List.find?_cons]; simp [Value.isStr], a⟩
  | succ i =>
   have hn' := List.nodup_cons.mp hn
   have hx' : xs[i]? = some x := by simpa using hx
   obtain ⟨u', g, k⟩ := ER.get b hn'.2 hx' (by simpa using hv)
   refine ⟨u', ?_, k⟩
   have hne : (Value.str y t).isStr x = false := by
    cases q : (Value.str y t).isStr x with
    | false => rfl
    | true => exact absurd (List.mem_of_getElem? hx') (isStr_iff.mp q ▸ hn'.1)
   unfold getL at g ⊢
   rw [List.find?_cons]
   dsimp only
   rw [hne]
   dsimp only
   rw [List.any_cons]
   exact g
theorem ER.absent : ∀ {xs : List Str} {vs : List V} {es : List DictEntry} {x : Str}, ER φ h xs vs es → x ∉ xs.take vs.length → es.find? (·.key.isStr x) = none
 | _, [], _, _, e, _ => by unfold ER at e; subst e; rfl
 | [], _ :: _, _, _, e, _ => by unfold ER at e; exact e.elim
 | y :: xs, w :: vs, _, x, e, hn => by
  unfold ER at e; obtain ⟨hh, t, u, r, rfl, a, b⟩ := e
  simp only [List.length_cons, List.take_succ_cons, List.mem_cons, not_or] at hn
  rw [List.find?_cons]
  have hne : (Value.str y t).isStr x = false := by
   cases q : (Value.str y t).isStr x with
   | false => rfl
   | true => exact absurd (isStr_iff.mp q).symm hn.1
  dsimp only
  rw [hne]
  exact ER.absent b hn.2
theorem ER.getNone {xs : List Str} {vs : List V} {es : List DictEntry} {x : Str} (e : ER φ h xs vs es) (hn : x ∉ xs) : getL x es = some none := by
 unfold getL
 rw [e.absent fun q => hn (List.mem_of_mem_take q), e.noref]; rfl
noncomputable def setF (fs : List V) (i : Nat) (v : V) : Option (List V) := if i < fs.length then some (fs.set i v) else if i = fs.length then some (fs ++ [v]) else none
theorem ER.put {hs : Int} {t : Tok} {v : V} {u : Value} (hv : VR φ h v u) : ∀ {xs : List Str} {vs vs' : List V} {es : List DictEntry} {i : Nat} {x : Str}, ER φ h xs vs es → xs.Nodup → xs[i]? = some x → setF vs i v = some vs' → ER φ h xs vs' (putL x hs (.str x t) u es)
 | [], [], _, _, i, _, e, _, hx, q => by simp at hx
 | y :: xs, [], vs', _, i, x, e, _, hx, q => by
  unfold ER at e; subst e
  unfold setF at q
  simp only [List.length_nil, Nat.not_lt_zero, if_false] at q
  refine ift q fun _ q => ?_
  rename_i hi; subst hi
  simp at hx q
  subst hx q
  unfold putL ER
  exact ⟨_, _, _, _, rfl, hv, by unfold ER; rfl⟩
 | [], _ :: _, _, _, _, _, e, _, _, _ => by unfold ER at e; exact e.elim
 | y :: xs, w :: vs, vs', _, i, x, e, hn, hx, q => by
  unfold ER at e; obtain ⟨hh, t', u', r, rfl, a, b⟩ := e
  have hn' := List.nodup_cons.mp hn
  cases i with
  | zero =>
   unfold setF at q
   simp at hx q
   subst hx q
   unfold putL
   rw [if_pos (by simp [Value.isStr])]
   unfold ER
   exact ⟨_, _, _, _, rfl, hv, b⟩
  | succ i =>
   have hx' : xs[i]? = some x := by simpa using hx
   have hne : ¬ (Value.str y t').isStr x = true := fun q => absurd (List.mem_of_getElem? hx') (isStr_iff.mp q ▸ hn'.1)
   unfold putL
   rw [if_neg hne]
   have q' : ∃ vs'', vs' = w :: vs'' ∧ setF vs i v = some vs'' := by
    unfold setF at q ⊢
    simp only [List.length_cons, Nat.add_lt_add_iff_right, Nat.add_right_cancel_iff] at q
    split at q
    ·rename_i hi; rw [if_pos hi]; cases q; exact ⟨_, rfl, rfl⟩
    ·rename_i hi
     rw [if_neg hi]
     refine ift q fun _ q => ?_
     rename_i he; rw [if_pos he]; cases q; exact ⟨_, rfl, rfl⟩
   obtain ⟨vs'', rfl, q''⟩ := q'
   unfold ER
   exact ⟨_, _, _, _, rfl, a, ER.put hv b hn'.2 hx' q''⟩
structure ClsOk (c : Cx) (C : Nat) : Prop where
 get : findIn c.K (.ref C) "__getattribute__" = some (some (.builtin "object.__getattribute__"))
 noget : findIn c.K (.ref C) "__getattr__" = some none
 set : findIn c.K (.ref C) "__setattr__" = some (some (.builtin "object.__setattr__"))
 dict : hasDictIn c.K C = true
 over : plainOver c.K C = true
 nodup : (c.flds C).Nodup
inductive inst_at_O (c : Cx) (φ : Phi) (h : Heap) (C : Nat) (fs : List V) (a : Addr) (d : Addr) : Prop
 | mk (es : List DictEntry) (k : Nat) (_ : a ≠ d) (_ : InstAt h a (instObj C d) C (some (dictOf es k))) (_ : h.get? d = some (dictOf es k)) (_ : ER φ h (c.flds C) fs es) : inst_at_O c φ h C fs a d
theorem inst_at {σ : Hp} {m C : Nat} {fs : List V} {a d : Addr} (R : c.R φ σ h) (hσ : σ[m]? = some (.inst C fs)) (e : φ[m]? = some (a, d)) : inst_at_O c φ h C fs a d := by
 obtain ⟨q, h1, es, k, h2, h3⟩ := R.objs m _ _ hσ e
 exact ⟨es, k, q, ⟨h1, rfl, rfl, h2⟩, h2, h3⟩
noncomputable def getA (C i : Nat) (v : V) (σ : Hp) : Option (V × Hp) := onRef v fun n => onIn σ[n]? fun C' fs => if C' = C then fs[i]?.map fun u => (u, σ) else none
theorem op_getA {C i : Nat} {x : Str} {attr : Option Value} (ok : ClsOk c C) (hi : (c.flds C)[i]? = some x) (ha : findIn c.K (.ref C) x = some attr) (hn : noGet c.K attr = true)
  (hh : ∀ φ h v u, VR φ h v u → handedIn u = true) : Op1 c (fun v => getAttr v x true) (getA C i) := by
 intro n A φ σ s v vx u σ' Q E hA R hv hf k
 unfold getA at hf
 refine onRef_t hf ?_; clear hf; rintro m rfl hg; refine onIn_t hg fun C' fs hσ hg => ift hg fun hC hf => ?_
 subst hC
 refine oq1 hf fun u' hu hf => ?_
 cases hf
 unfold VR at hv
 obtain ⟨a, d, rfl, e⟩ := hv
 obtain ⟨es, kk, _, I, hd, er⟩ := inst_at R hσ e
 obtain ⟨w, g, hw⟩ := er.get ok.nodup hi hu
 refine get_value (c.KIn R) I ok.get (findObj_own ok.dict ha hn g) (hh _ _ _ _ hw) ?_
 exact k.here R hw
theorem handed_VR : ∀ (φ : Phi) (h : Heap) (v : V) (u : Value), VR φ h v u → handedIn u = true := fun φ h v u e => by
 cases v <;> unfold VR at e
 ·exact e.elim
 ·subst e; rfl
 ·subst e; rfl
 ·obtain ⟨t, rfl⟩ := e; rfl
 ·obtain ⟨t, rfl⟩ := e; rfl
 ·obtain ⟨t, rfl⟩ := e; rfl
 ·obtain ⟨a, d, rfl, _⟩ := e; rfl
 ·obtain ⟨a, vs, rfl, _⟩ := e; rfl
theorem set_own_dict {prog : Program} {w : World} {A : Around} {E : Value → Shared → Prop} {s : Shared} {K : Frag} {x C dx : Addr} {name : Str} {v : Value} {es : List DictEntry} {k : Nat} {Q : Unit → Shared → Prop} (X : K.In s.heap)
  (I : InstAt s.heap x (instObj C dx) C (some (dictOf es k))) (hD : s.heap.get? dx = some (dictOf es k)) (hs : findIn K (.ref C) "__setattr__" = some (some (.builtin "object.__setattr__"))) (hp : plainOver K C = true) (ht : takerIn K C name = some none) (hh : hasDictIn K C = true)
  (hr : es.any (·.refKey) = false) (hz : (putL name (PyData.keyHash w.params name) (.str name (s.toks + 1)) v es).length ≤ 1000)
  (h : ∀ h', h'.get? dx = some (dictOf (putL name (PyData.keyHash w.params name) (.str name (s.toks + 1)) v es) (putN name es k)) → Heap.SameBut dx s.heap h' → Q () { s with heap := h', toks := s.toks + 2 }) :
  wpAny (model prog w) A (setAttr (.ref x) name v) Q E s := by
 refine set_plain X I hs (osa_open (s := { s with toks := s.toks + 1 }) X I hp ht fun b => ?_)
 obtain ⟨cd, hc, hd'⟩ := any_some hh
 have hx := I.at_
 refine wpAny_bind (wpAny_pure (wpAny_bind (wpAny_bind (wpAny_loadPart hx (wpAny_bind (Looks.here (s := { s with toks := s.toks + 1 }) (looks_clsIn (M := model prog w) X hc) ?_))))))
 rw [hd']
 refine wpAny_pure (a := some dx) (wpAny_bind (wpAny_pure (wpAny_bind ?_)))
 unfold nsSet
 refine wpAny_bind (wpAny_bind (wpAny_askSetting (wpAny_pure (wpAny_bind (wpAny_mkText (wpAny_bind (wpAny_loadPart hD ?_)))))))
 have cc : (!es.toArray.any (·.key.isStr name) && es.toArray.any (·.refKey)) = false := by
  rw [← Array.any_toList, ← Array.any_toList, hr, Bool.and_false]
 dsimp only
 rw [aRefKeyMayBeTheName_at, cc]
 refine wpAny_updatePart hD ?_
 have e2 : (s.heap.update dx (Obj.putName name (PyData.keyHash w.params name) (.str name (s.toks + 1)) v)).get? dx = some (dictOf (putL name (PyData.keyHash w.params name) (.str name (s.toks + 1)) v es) (putN name es k)) := by
  rw [← putName_dict]
  exact Heap.get?_update_self _ hD (by rw [putName_dict]; rfl)
 refine wpAny_bind (wpAny_lookBehind e2 (pastItsLine_dict (by rw [List.size_toArray, sizeLine_eq]; exact om33 hz)) ?_)
 exact wpAny_pure (h _ e2 (Heap.SameBut.update ..))
noncomputable def setA (C i : Nat) (o v : V) (σ : Hp) : Option Hp := onRef o fun n => onIn σ[n]? fun C' fs => if C' = C ∧ fs.length ≤ 900 then (setF fs i v).map fun fs' => σ.set n (.inst C' fs') else none
theorem putL_len (x : Str) (hs : Int) (kv u : Value) : ∀ es : List DictEntry, (putL x hs kv u es).length ≤ es.length + 1
 | [] => by simp [putL]
 | e :: r => by
  unfold putL
  split
  ·simp
  ·have := putL_len x hs kv u r; simp; exact this
theorem op_setA {C i : Nat} {x : Str} (ok : ClsOk c C) (hi : (c.flds C)[i]? = some x) (ht : takerIn c.K C x = some none) : OpU2 c (fun ov v => setAttr ov x v) (setA C i) := by
 intro n A φ σ s o v vo vv σ' Q E hA R ho hv hf k
 unfold setA at hf
 refine onRef_t hf ?_; clear hf; rintro m rfl hg; refine onIn_t hg fun C' fs hσ hg => ift hg fun hC hf => ?_
 obtain ⟨hC, hlen⟩ := hC
 subst hC
 refine oq1 hf fun fs' hu hf => ?_
 cases hf
 unfold VR at ho
 obtain ⟨a, d, rfl, e⟩ := ho
 obtain ⟨es, kk, had, I, hd, er⟩ := inst_at R hσ e
 have hl := er.len
 refine set_own_dict (c.KIn R) I hd ok.set ok.over ht ok.dict er.noref (by have := putL_len x (PyData.keyHash c.w.params x) (.str x (s.toks + 1)) vv es; exact om34 hlen hl this) fun h' e' hs => ?_
 obtain ⟨R', S'⟩ := R.update (o' := .inst C' fs') e (fun b o n1 n2 e => (hs.2 b n2).trans e) (fun b hb => by
  rcases hb with rfl | rfl
  ·exact ⟨_, (hs.2 _ had).trans I.at_⟩
  ·exact ⟨_, e'⟩) (by rw [hs.1]; exact Nat.le_refl _) (fun S => ⟨had, (hs.2 _ had).trans I.at_, _, _, e', ER.put (VR.mono S (noSeq_no _) _ _ hv) (ER.mono S (noSeq_no _) _ _ _ er) ok.nodup hi hu⟩)
 exact k φ h' _ S' R'
noncomputable def bindsOf (ps : List Str) (vs : List Value) : List (Str × Value) := ps.zip vs
theorem bindL_skip {k : Str → Option NameKind} : ∀ (ps : List Str) (vs : List Value) (m : Str → Option Value) (x : Str), x ∉ ps → bindL k (ps.zip vs) m x = m x
 | [], _, _, _, _ => rfl
 | p :: ps, [], _, _, _ => rfl
 | p :: ps, v :: vs, m, x, hx => by
  simp only [List.mem_cons, not_or] at hx
  show bindL k (ps.zip vs) _ x = m x
  rw [bindL_skip ps vs _ x hx.2]
  split
  ·exact if_neg hx.1
  ·rfl
theorem bindL_get {k : Str → Option NameKind} : ∀ (ps : List Str) (vs : List Value) (m : Str → Option Value) (i : Nat) (x : Str) (v : Value), ps.Nodup → ps[i]? = some x → vs[i]? = some v → k x = some .local → bindL k (ps.zip vs) m x = some v
 | [], _, _, _, _, _, _, h, _, _ => by simp at h
 | p :: ps, [], _, _, _, _, _, _, h, _ => by simp at h
 | p :: ps, u :: vs, m, i, x, v, hn, hx, hv, hk => by
  have hn' := List.nodup_cons.mp hn
  cases i with
  | zero =>
   simp at hx hv
   subst hx hv
   show bindL k (ps.zip vs) _ p = some u
   rw [bindL_skip ps vs _ p hn'.1, if_pos hk, if_pos rfl]
  | succ i => exact bindL_get ps vs _ i x v hn'.2 (by simpa using hx) (by simpa using hv) hk
theorem bindC_skip {k : Str → Option NameKind} : ∀ (ps : List Str) (vs : List Value) (m : Str → Option Value) (x : Str), x ∉ ps → bindC k (ps.zip vs) m x = m x
 | [], _, _, _, _ => rfl
 | p :: ps, [], _, _, _ => rfl
 | p :: ps, v :: vs, m, x, hx => by
  simp only [List.mem_cons, not_or] at hx
  show bindC k (ps.zip vs) _ x = m x
  rw [bindC_skip ps vs _ x hx.2]
  split
  ·rfl
  ·exact if_neg hx.1
theorem bindC_get {k : Str → Option NameKind} : ∀ (ps : List Str) (vs : List Value) (m : Str → Option Value) (i : Nat) (x : Str) (v : Value), ps.Nodup → ps[i]? = some x → vs[i]? = some v → k x = some .cell → bindC k (ps.zip vs) m x = some v
 | [], _, _, _, _, _, _, h, _, _ => by simp at h
 | p :: ps, [], _, _, _, _, _, _, h, _ => by simp at h
 | p :: ps, u :: vs, m, i, x, v, hn, hx, hv, hk => by
  have hn' := List.nodup_cons.mp hn
  cases i with
  | zero =>
   simp at hx hv
   subst hx hv
   show bindC k (ps.zip vs) _ p = some u
   rw [bindC_skip ps vs _ p hn'.1, if_neg (by rw [hk]; decide), if_pos rfl]
  | succ i => exact bindC_get ps vs _ i x v hn'.2 (by simpa using hx) (by simpa using hv) hk
noncomputable def runF (ar k : Nat) (g : St) : List V → Hp → Option (V × Hp) := fun vs σ => if vs.length = ar then (g (vs ++ List.replicate k .undef) σ).map fun p => (match p.1 with | .ret v => v | .next => .none, p.2.2) else none
theorem binds_mem {ps : List Str} {vs : List Value} {y : Str × Value} (h : y ∈ ps.zip vs) : y.1 ∈ ps := (List.of_mem_zip h).1
noncomputable def OpC (c : Cx) (n : Nat) (fa : Addr) (g : List V → Hp → Option (V × Hp)) : Prop :=
 ∀ A φ σ s xs vxs v σ' (Rr : Result → Shared → Prop), Room n A → c.R φ σ s.heap → VRL φ s.heap xs vxs → g xs σ = some (v, σ') → KE c φ s v σ' (fun v' s' => Rr (.ok (.ret v')) s') →
  codeAny c.M A (.call (.ref fa) ⟨vxs, []⟩) Rr s
theorem OpC.op {fa : Addr} {g} (x : OpC c n fa g) : OpL c n (fun vs => call (.ref fa) vs) g :=
 fun A φ σ s xs vxs v σ' Q E hA R hv hf k => wpAny_call (x A φ σ s xs vxs v σ' _ hA R hv hf k)
theorem OpC.mono {fa : Addr} {g} {m : Nat} (x : OpC c n fa g) (hm : n ≤ m) : OpC c m fa g := fun A φ σ s xs vxs v σ' Rr hA => x A φ σ s xs vxs v σ' Rr (hA.mono hm)
theorem def_call {fa : Addr} {name qual : Str} {params : Arguments} {body : List Stmt} {sc : Scope} {dV kV doc pm cdv ct oc : Value} {an od : Option Addr} {osl : Array (Option Value)} {ps loc : List Str} {g : St}
  (ho : c.K.lookup fa = some ⟨oc, od, .func (fnOf name qual params body sc dV kV doc pm an cdv ct), osl⟩) (hcd : codeIn c.K cdv qual = true)
  (hbind : ∀ (vs : List Value) (s : Shared), c.K.In s.heap → vs.length = ps.length → BindsTo s (fnOf name qual params body sc dV kV doc pm an cdv ct) ⟨vs, []⟩ (ps.zip vs))
  (hps : ∀ x ∈ ps, sc.names.lookup x = some .local ∨ sc.names.lookup x = some .cell) (hnd : ((cellsFrom 0 sc.names []).map (·.1)).Nodup) (hps2 : ps.Nodup)
  (hco : sc.isCoroutine = false) (hgen : sc.isGenerator = false) (hk : sc.kind = .function)
  (hb : SS c sc (ps ++ loc) n body g) : OpC c (n + 1) fa (runF ps.length loc.length g) := by
 intro A φ σ s xs vxs v σ' Rr hA R hv hf k
 unfold runF at hf
 refine ift hf fun hlen hf => ?_
 refine oq3 hf fun fl ρ' σ₂ h1 hf => ?_
 cases hf
 have X := c.KIn R
 have hvl : vxs.length = ps.length := by rw [hv.length]; exact hlen
 refine codeAny_call_function hA.depth (X _ _ ho) rfl hco hgen rfl (codeRec_of X hcd) (hbind vxs s X hvl _ _ _ _ ?_)
 refine wpAny_newFunctionEnv_cells hk (fun y hy => ?_) fun env' he s' x => ?_
 ·rcases hps _ (binds_mem hy) with q | q
  ·exact .inl q
  ·exact .inr ⟨q, cellsFrom_some _ _ _ (.inl q)⟩
 subst he
 refine ⟨(c.lim.keeps R.base).keeps x.toInCall.keep, codeAny_func ?_⟩
 obtain ⟨h₁, tk, rfl, _⟩ := x.done
 have g₁ := x.toInCall.keep
 have hL : ∃ o, h₁.get? s.heap.objs.size = some o := let ⟨o, _, _, e, _⟩ := x.toInCall.ns; ⟨o, e⟩
 have z₁ : s.heap.objs.size ≤ h₁.objs.size := let ⟨o, e⟩ := hL; Nat.le_of_lt (Heap.lt_size e)
 have S₁ : Step NoW φ s.heap φ h₁ := Step.grow g₁ z₁
 have R₁ : c.R φ σ h₁ := R.grow g₁ z₁
 have hFA : ∀ b, FA (newEnv sc s.heap.objs.size mainGlobals (cellsFrom (s.heap.objs.size + 1) sc.names []) (qual ++ ".<locals>.") (some fa) cdv none builtinsNs) b → s.heap.objs.size ≤ b := fun b w => by
  rcases w with rfl | ⟨y, hy⟩
  ·exact Nat.le_refl _
  ·exact Nat.le_of_lt (x.above y b hy)
 have hlk : ∀ y b, (y, b) ∈ cellsFrom (s.heap.objs.size + 1) sc.names [] → (cellsFrom (s.heap.objs.size + 1) sc.names []).lookup y = some b := fun y b hm =>
  lookup_of_mem_nodup (cellsFrom_names sc.names 0 (s.heap.objs.size + 1) [] [] rfl ▸ hnd) hm
 have F₁ : Frame c.hb (ps ++ loc) (newEnv sc s.heap.objs.size mainGlobals (cellsFrom (s.heap.objs.size + 1) sc.names []) (qual ++ ".<locals>.") (some fa) cdv none builtinsNs) φ (xs ++ List.replicate loc.length .undef) h₁ := by
  have inarg : ∀ (i : Nat) y u, (ps ++ loc)[i]? = some y → (xs ++ List.replicate loc.length V.undef)[i]? = some u → u ≠ .undef → ps[i]? = some y ∧ ∃ u', vxs[i]? = some u' ∧ VR φ h₁ u u' := fun i y u e1 e2 e3 => by
   by_cases q : i < ps.length
   ·rw [List.getElem?_append_left q] at e1
    rw [List.getElem?_append_left (hlen ▸ q)] at e2
    obtain ⟨u', a, b⟩ := VRL.get hv e2
    exact ⟨e1, u', a, VR.mono S₁ (noSeq_no _) _ _ b⟩
   ·rw [List.getElem?_append_right (by rw [hlen]; exact Nat.not_lt.mp q), List.getElem?_replicate] at e2
    refine ift e2 fun _ e2 => ?_
    cases e2; exact absurd rfl e3
  refine ⟨hk, rfl, rfl, ⟨_, x.toInCall.ns, fun i y u e1 e2 e3 e4 => ?_⟩, fun y b hm => ?_, fun i y b u e1 e2 e3 e4 e5 => ?_, fun y hy => ?_, x.apart, fun y b hm q => ?_, fun b w => new_untr R (hFA b w), fun b w => new_hb R (hFA b w)⟩
  ·obtain ⟨e1', u', a, b⟩ := inarg i y u e1 e2 e3
   exact ⟨u', bindL_get ps vxs _ i y u' hps2 e1' a e4, b⟩
  ·exact ⟨_, x.cell y b (hlk y b hm)⟩
  ·obtain ⟨e1', u', a, b'⟩ := inarg i y u e1 e2 e3
   refine ⟨u', ?_, b'⟩
   have := x.cell y b e5
   rw [bindC_get ps vxs _ i y u' hps2 e1' a e4] at this
   exact this
  ·have : ((cellsFrom (s.heap.objs.size + 1) sc.names []).lookup y).isSome = true := cellsFrom_some _ _ _ (.inl hy)
   obtain ⟨b, hb⟩ := Option.isSome_iff_exists.mp this
   exact ⟨b, hb⟩
  ·have := x.above y b hm
   exact absurd q (Nat.ne_of_gt this)
 have hA' : Room n (A.deeper (newEnv sc s.heap.objs.size mainGlobals (cellsFrom (s.heap.objs.size + 1) sc.names []) (qual ++ ".<locals>.") (some fa) cdv none builtinsNs)) :=
  ⟨hA.1, by have := hA.2.1; show A.depth + 1 + 2 * n ≤ 900; exact om35 this, by have := hA.2.2; show A.units + 3 + 8 * n ≤ 9000; exact om36 this⟩
 refine hb _ _ φ _ σ _ fl ρ' σ₂ _ _ rfl hA' F₁ R₁ h1 fun φ₂ h₂ t₂ fl' S₂ R₂ F₂ hfl => ?_
 have gone : ∀ b, FA (newEnv sc s.heap.objs.size mainGlobals (cellsFrom (s.heap.objs.size + 1) sc.names []) (qual ++ ".<locals>.") (some fa) cdv none builtinsNs) b → s.heap.get? b = none := fun b w => by
  cases q : s.heap.get? b with
  | none => rfl
  | some o => exact absurd (Heap.lt_size q) (Nat.not_lt.mpr (hFA b w))
 have S12 := step_fresh S₁ S₂ gone
 cases fl with
 | next => cases hfl; exact k φ₂ h₂ t₂ .none S12 R₂ (by unfold VR; rfl)
 | ret u => obtain ⟨v', rfl, hv'⟩ := hfl; exact k φ₂ h₂ t₂ v' S12 R₂ hv'
theorem OpL.mono {prim} {o} {m : Nat} (x : OpL c n prim o) (hm : n ≤ m) : OpL c m prim o := fun A φ σ s xs vxs v σ' Q E hA => x A φ σ s xs vxs v σ' Q E (hA.mono hm)
noncomputable def mkInst (C : Nat) (init : List V → Hp → Option (V × Hp)) : List V → Hp → Option (V × Hp) := fun vs σ => (init (.ref σ.length :: vs) (σ ++ [.inst C []])).bind fun p => onNone p.1 (some (.ref σ.length, p.2))
theorem cls_call {C fI : Nat} {init : List V → Hp → Option (V × Hp)} (hm : makesIn c.K C = true) (hi : findIn c.K (.ref C) "__init__" = some (some (.ref fI))) (hf : typeIn c.K (.ref fI) = some (.type "function"))
  (hI : OpC c n fI init) : OpL c (n + 1) (fun vs => call (.ref C) vs) (mkInst C init) := by
 intro A φ σ s xs vxs v σ' Q E hA R hv hq k
 unfold mkInst at hq
 refine ob2 hq fun u σ₁ h1 hq => ?_
 refine onNone_t hq ?_; clear hq; rintro rfl hq
 cases hq
 obtain ⟨hh, g, d, t, os⟩ := s
 have X := c.KIn R
 refine wpAny_call (make_core (makes_of X hm) (looks_findIn X hi) (fun self => bind_fn X self hf) (.inl rfl) ?_)
 have z : hh.objs.size ≤ ((hh.push emptyDict).push (instObj C hh.objs.size)).objs.size := by rw [Heap.size_push, Heap.size_push]; exact om37
 have e1 : ((hh.push emptyDict).push (instObj C hh.objs.size)).get? (hh.objs.size + 1) = some (instObj C hh.objs.size) := by
  have := Heap.get?_push_size (hh.push emptyDict) (o := instObj C hh.objs.size) rfl
  rwa [Heap.size_push] at this
 have e2 : ((hh.push emptyDict).push (instObj C hh.objs.size)).get? hh.objs.size = some emptyDict := Heap.get?_push_of_some _ (Heap.get?_push_size _ rfl)
 obtain ⟨R₁, S₁⟩ := R.alloc' (h' := (hh.push emptyDict).push (instObj C hh.objs.size)) (a := hh.objs.size + 1) (d := hh.objs.size) (o := .inst C []) (fun b o e => Heap.get?_push_of_some _ (Heap.get?_push_of_some _ e)) (Nat.le_succ _) (Nat.le_refl _) z ⟨_, e1⟩ ⟨_, e2⟩
  (fun S => ⟨Nat.succ_ne_self _, e1, [], 0, e2, by unfold ER; rfl⟩)
 have hr : VR (φ ++ [(hh.objs.size + 1, hh.objs.size)]) ((hh.push emptyDict).push (instObj C hh.objs.size)) (.ref σ.length) (.ref (hh.objs.size + 1)) := by
  unfold VR
  exact ⟨_, hh.objs.size, rfl, by rw [← R.len, List.getElem?_append_right (Nat.le_refl _)]; simp⟩
 have hA' : Room n (A.under (.builtin "type.__call__" ⟨.ref C :: vxs, []⟩)) := by
  refine ⟨hA.1, ?_, ?_⟩
  ·have := hA.2.1
   rw [depth_under_make]; exact om35 this
  ·have := hA.2.2
   show A.units + 1 + 8 * n ≤ 9000
   exact om38 this
 exact hI _ _ _ ⟨(hh.push emptyDict).push (instObj C hh.objs.size), g, d, t, os⟩ (.ref σ.length :: xs) (.ref (hh.objs.size + 1) :: vxs) _ _ _ hA' R₁ (VRL.cons hr (VRL.mono S₁ (noSeq_no _) _ _ hv)) h1 (fun φ₂ h₂ t₂ v' S₂ R₂ hv' => by
   unfold VR at hv'
   exact ⟨hv', k φ₂ h₂ t₂ _ (S₁.trans S₂) R₂ (VR.mono S₂ (noSeq_no _) _ _ hr)⟩)
noncomputable def Keepable (c : Cx) (f : Value) : Prop := ∀ h, c.K.In h → ∃ k, (k = Keeper.frame ∨ k = Keeper.machine ∨ k = Keeper.boundFrame) ∧ Looks c.M h (keeperOf f) k
theorem Keepable.b (id : String) : Keepable c (.builtin id) := fun h X => ⟨.machine, .inr (.inl rfl), Looks.of_pure rfl⟩
theorem Keepable.t (id : String) : Keepable c (.type id) := fun h X => ⟨.machine, .inr (.inl rfl), Looks.of_pure rfl⟩
theorem Keepable.r {a : Addr} (hk : keepIn c.K (.ref a) = true) : Keepable c (.ref a) := fun h X => keeps_K hk h X
theorem callWith_some {f : Value} (hk : Keepable c f) {pos : Pos} {first : List Value} {A : Around} {s : Shared} {Q : Value → Shared → Prop} {E : Value → Shared → Prop} {e : Expr} {es : List Expr} (he : starEach (e :: es) env = (false, eval e env) :: starEach es env) (hpl : (starEach (e :: es) env).any (·.1) = false)
  (h : wpAny c.M A (spliced (backTo pos (starEach (e :: es) env))) (fun vs s₁ => c.K.In s₁.heap ∧ wpAny c.M A (call f (first ++ vs)) Q E s₁) E s) :
  wpAny c.M A (callWith pos f first (backTo pos (starEach (e :: es) env)) []) Q E s := by
 refine callWith_of (P := c.K.In) ?_ hk ?_
 ·rw [backTo_any, hpl]; rfl
 ·rw [he] at h ⊢
  exact evalArgs_plain h
theorem callWith_none {f : Value} (hk : Keepable c f) {pos : Pos} {first : List Value} {A : Around} {s : Shared} {Q : Value → Shared → Prop} {E : Value → Shared → Prop} (h : c.K.In s.heap ∧ wpAny c.M A (call f (first ++ [])) Q E s) :
  wpAny c.M A (callWith pos f first (backTo pos (starEach [] env)) []) Q E s :=
 callWith_of (P := c.K.In) rfl hk (PyProof.Rows.evalArgs_nil3 h)
theorem global_name {x : Str} {pos : Pos} {a : Addr} {A : Around} {s : Shared} {σ : Hp} {Q : Value → Shared → Prop} {E : Value → Shared → Prop} (he : env.scope = sc) (F : Frame c.hb nm env φ ρ s.heap) (R : c.R φ σ s.heap)
  (hk : kindIn sc x = some .globalImplicit) (hd : (x == ("__debug__" : Str)) = false) (hg : nsIn c.K mainGlobals x = some (some (.ref a))) (h : Q (.ref a) s) : wpAny c.M A (eval (.Name x pos) env) Q E s := by
 refine Name_function_global F.kind ((kindOf_eq he x).trans hk) ?_ hd
 exact loadGlobal_global (by rw [F.glob]; exact c.g.keeps R.base) (mg_of c.kin c.g hg) h
theorem SE.callG {x : Str} {p pos : Pos} {a : Addr} {e : Expr} {es : List Expr} {fs : FnL} {o} (hk : kindIn sc x = some .globalImplicit) (hd : (x == ("__debug__" : Str)) = false) (hg : nsIn c.K mainGlobals x = some (some (.ref a))) (hkp : keepIn c.K (.ref a) = true)
  (ha : SL c sc nm n (e :: es) fs) (hs : ∀ env, starEach (e :: es) env = (false, eval e env) :: starEach es env) (ho : OpL c n (fun vs => call (.ref a) vs) o) : SE c sc nm n (.Call (.Name x p) (e :: es) [] pos) (callL fs o) := by
 intro A env φ ρ σ s v σ' Q E he hA F R hf k
 unfold callL at hf
 refine ob2 hf fun vs σ₁ h1 hf => ?_
 refine wpAny_Call_Name_kw (global_name he F R hk hd hg ?_)
 show wpAny _ _ (callWith pos (.ref a) [] (backTo pos (starEach (e :: es) env)) []) _ _ _
 refine callWith_some (.r hkp) (hs env) (ha.1 env) (ha.2 A env φ ρ σ s vs σ₁ _ E pos he hA F R h1 fun φ₁ h₁ t₁ vs' S₁ R₁ hv => ⟨c.KIn R₁, ?_⟩)
 exact ho A φ₁ σ₁ _ vs vs' v σ' Q E hA R₁ hv hf (k.after S₁)
theorem SE.callG0 {x : Str} {p pos : Pos} {a : Addr} {o} (hk : kindIn sc x = some .globalImplicit) (hd : (x == ("__debug__" : Str)) = false) (hg : nsIn c.K mainGlobals x = some (some (.ref a))) (hkp : keepIn c.K (.ref a) = true)
  (ho : OpL c n (fun vs => call (.ref a) vs) o) : SE c sc nm n (.Call (.Name x p) [] [] pos) (callL nilL o) := by
 intro A env φ ρ σ s v σ' Q E he hA F R hf k
 unfold callL nilL at hf
 refine wpAny_Call_Name_kw (global_name he F R hk hd hg ?_)
 show wpAny _ _ (callWith pos (.ref a) [] (backTo pos (starEach [] env)) []) _ _ _
 exact callWith_none (.r hkp) ⟨c.KIn R, ho A φ σ _ [] [] v σ' Q E hA R VRL.nil hf k⟩
noncomputable def Recv (c : Cx) (name : Str) (g : Value) (p : V → Hp → Bool) : Prop :=
 ∀ n A φ σ s v vv pl Q E, Room n A → c.R φ σ s.heap → VR φ s.heap v vv → p v σ = true → (∀ t', Q (g, [vv]) { s with heap := s.heap, toks := t' }) → wpAny c.M A (getMethod vv name pl) Q E s
noncomputable def meth (p : V → Hp → Bool) (f : Fn) (fs : FnL) (o : List V → Hp → Option (V × Hp)) : Fn := fun ρ σ => (f ρ σ).bind fun r => if p r.1 r.2 = true then (fs ρ r.2).bind fun a => o (r.1 :: a.1) a.2 else none
noncomputable abbrev plOf (o : Expr) (env : Env) : Sem Bool := do return (← importBound o env).getD true
noncomputable def MethForm (x : Expr) (name : Str) (apos pos : Pos) (args : List Expr) : Prop := ∀ env, eval (.Call (.Attribute x name apos) args [] pos) env = (do
   let ov ← eval x env
   standAt apos.atName
   let (f, first) ← holding [ov] (getMethod ov name (plOf x env))
   callWith pos f first (backTo pos (starEach args env)) (backToKw pos (keywordEach [] env)))
theorem SE.meth {x : Expr} {name : Str} {apos pos : Pos} {g : Value} {e : Expr} {es : List Expr} {p : V → Hp → Bool} {f : Fn} {fs : FnL} {o} (hx : SE c sc nm n x f) (hr : Recv c name g p) (hk : Keepable c g)
  (ha : SL c sc nm n (e :: es) fs) (hs : ∀ env, starEach (e :: es) env = (false, eval e env) :: starEach es env) (ho : OpL c n (fun vs => call g vs) o) (hm : MethForm x name apos pos (e :: es)) : SE c sc nm n (.Call (.Attribute x name apos) (e :: es) [] pos) (Mine.meth p f fs o) := by
 intro A env φ ρ σ s v σ' Q E he hA F R hf k
 unfold Mine.meth at hf
 refine ob2 hf fun r σ₁ h1 hf => ?_
 refine ift hf fun hp hf => ?_
 refine ob2 hf fun vs σ₂ h2 hf => ?_
 refine methodCall_KW ?_ (hm env)
 refine hx A env φ ρ σ s r σ₁ _ E he hA F R h1 fun φ₁ h₁ t₁ rv S₁ R₁ hr' => ?_
 refine hr n A φ₁ σ₁ _ r rv _ _ E hA R₁ hr' hp fun t' => ?_
 show wpAny _ _ (callWith pos g [rv] (backTo pos (starEach (e :: es) env)) []) _ _ _
 refine callWith_some hk (hs env) (ha.1 env) (ha.2 A env φ₁ ρ σ₁ _ vs σ₂ _ E pos he hA (F.exprStep S₁) R₁ h2 fun φ₂ h₂ t₂ vs' S₂ R₂ hv => ⟨c.KIn R₂, ?_⟩)
 exact ho A φ₂ σ₂ _ (r :: vs) (rv :: vs') v σ' Q E hA R₂ (VRL.cons (VR.mono S₂ (noSeq_no _) _ _ hr') hv) hf ((k.after S₁).after S₂)
theorem SE.meth0 {x : Expr} {name : Str} {apos pos : Pos} {g : Value} {p : V → Hp → Bool} {f : Fn} {o} (hx : SE c sc nm n x f) (hr : Recv c name g p) (hk : Keepable c g)
  (ho : OpL c n (fun vs => call g vs) o) (hm : MethForm x name apos pos []) : SE c sc nm n (.Call (.Attribute x name apos) [] [] pos) (Mine.meth p f nilL o) := by
 intro A env φ ρ σ s v σ' Q E he hA F R hf k
 unfold Mine.meth nilL at hf
 refine ob2 hf fun r σ₁ h1 hf => ?_
 refine ift hf fun hp hf => ?_
 refine methodCall_KW ?_ (hm env)
 refine hx A env φ ρ σ s r σ₁ _ E he hA F R h1 fun φ₁ h₁ t₁ rv S₁ R₁ hr' => ?_
 refine hr n A φ₁ σ₁ _ r rv _ _ E hA R₁ hr' hp fun t' => ?_
 show wpAny _ _ (callWith pos g [rv] (backTo pos (starEach [] env)) []) _ _ _
 exact callWith_none hk ⟨c.KIn R₁, ho A φ₁ σ₁ _ [r] [rv] v σ' Q E hA R₁ (VRL.cons hr' VRL.nil) hf (k.after S₁)⟩
noncomputable def isInst (C : Nat) : V → Hp → Bool := fun v σ => (onRef v fun n => onIn σ[n]? fun C' _ => some (C' == C)).getD false
theorem getD_t {o : Option Bool} (h : o.getD false = true) : o = some true := by
 cases o with
 | none => cases h
 | some b => exact congrArg some h
theorem recv_inst {C f : Nat} {x : Str} (ok : ClsOk c C) (hf : findIn c.K (.ref C) x = some (some (.ref f))) (ht : typeIn c.K (.ref f) = some (.type "function")) (hx : x ∉ c.flds C) : Recv c x (.ref f) (isInst C) := by
 intro n A φ σ s v vv pl Q E hA R hv hp k
 unfold isInst at hp
 refine onRef_t (getD_t hp) ?_; clear hp; rintro m rfl hp; refine onIn_t hp fun C' fs hσ hp => ?_
 have hC := beq_iff_eq.mp (Option.some.inj hp)
 subst hC
 unfold VR at hv
 obtain ⟨a, d, rfl, e⟩ := hv
 obtain ⟨es, kk, _, I, hd, er⟩ := inst_at R hσ e
 exact method_fn (c.KIn R) I ok.get ok.noget hf ht (by show (lookIn x (dictOf es kk)).map _ = _; rw [lookIn_dict, er.getNone hx]; rfl) (k s.toks)
end
section
open PySem PySem.W PyProof.Rows PySem.Calls
noncomputable def small (i : Int) : Bool := -1000000000 ≤ i && i ≤ 1000000000
noncomputable abbrev Op1F := V → Hp → Option (V × Hp)
noncomputable abbrev Op2F := V → V → Hp → Option (V × Hp)
noncomputable abbrev OpLF := List V → Hp → Option (V × Hp)
noncomputable def lst (v : V) (σ : Hp) : Option (List V) := onRef v fun n => onLst σ[n]? some
theorem lst_of {σ : Hp} {m : Nat} {xs : List V} (h : σ[m]? = some (.list xs)) : lst (.ref m) σ = some xs := congrArg (fun o => onLst o some) h
noncomputable def lst2 (v : V) (σ : Hp) : Option (List V) := onRef v fun n => oc σ[n]? some some no no fun _ => no
noncomputable def on2 {α : Type} (x y : V) (f : Int → Int → Option α) : Option α := onInt x fun a => onInt y (f a)
theorem on2_t {α : Type} {x y : V} {f} {r : α} (h : on2 x y f = some r) {P : Prop} (k : ∀ a b, x = .int a → y = .int b → f a b = some r → P) : P := onInt_t h fun a e h => onInt_t h fun b q h => k a b e q h
noncomputable def opAdd : Op2F := fun x y σ => onIR x (fun a => onInt y fun b => some (.int (a + b), σ)) fun n => onRef y fun m => (lst (.ref n) σ).bind fun xs => (lst (.ref m) σ).bind fun ys => if xs.length + ys.length ≤ big then some (.ref σ.length, σ ++ [.list (xs ++ ys)]) else none
noncomputable def opSub : Op2F := fun x y σ => on2 x y fun a b => some (.int (a - b), σ)
noncomputable def opMul : Op2F := fun x y σ => onIR x (fun a => onInt y fun b => if small a && small b then some (.int (a * b), σ) else none) fun n => onInt y fun k => (lst (.ref n) σ).bind fun xs => if k = 0 then some (.ref σ.length, σ ++ [.list []]) else if k = 1 ∧ xs.length ≤ big then some (.ref σ.length, σ ++ [.list xs]) else none
noncomputable def opFdiv : Op2F := fun x y σ => on2 x y fun a b => if b ≠ 0 ∧ (0 ≤ a ∧ a ≤ 1000000000000000000) ∧ small b = true then some (.int (Int.fdiv a b), σ) else none
noncomputable def opMod : Op2F := fun x y σ => on2 x y fun a b => if b ≠ 0 then some (.int (Int.fmod a b), σ) else none
noncomputable def opNeg : Op1F := fun x σ => onInt x fun a => some (.int (-a), σ)
noncomputable def opLt : Op2F := fun x y σ => on2 x y fun a b => some (.bool (decide (a < b)), σ)
noncomputable def opLe : Op2F := fun x y σ => on2 x y fun a b => some (.bool (decide (a ≤ b)), σ)
noncomputable def opGt : Op2F := fun x y σ => on2 x y fun a b => some (.bool (decide (b < a)), σ)
noncomputable def opGe : Op2F := fun x y σ => on2 x y fun a b => some (.bool (decide (b ≤ a)), σ)
noncomputable def rdS (f : V → Option PyData) (σ : Hp) (v : V) : Option PyData := vc v (fun b => some (.bool b)) (fun i => some (.int i)) (fun s => some (.str s)) (fun n => onLst σ[n]? fun xs => (xs.mapM f).map PyData.list) (fun xs => (xs.mapM f).map PyData.tuple) (some .none)
noncomputable def rd : Nat → Hp → V → Option PyData
 | 0, _, _ => none
 | k + 1, σ, v => rdS (rd k σ) σ v
noncomputable def eqL (x y : Option (List V)) (d : Option Bool) : Option Bool := match x with
 | none => d
 | some xs => match y with
  | none => d
  | some ys => cond (xs.isEmpty || ys.isEmpty) (some (xs.isEmpty && ys.isEmpty)) d
noncomputable def eqB (x y : V) (σ : Hp) : Option Bool := eqL (lst x σ) (lst y σ) ((rd 6 σ x).bind fun a => (rd 6 σ y).bind fun b => if SeqAt.shaped a = true ∧ SeqAt.shaped b = true then some (PyData.eqv a b) else none)
noncomputable def opEq : Op2F := fun x y σ => (eqB x y σ).map fun b => (.bool b, σ)
noncomputable def opNe : Op2F := fun x y σ => (eqB x y σ).map fun b => (.bool (!b), σ)
noncomputable def inB (x y : V) (σ : Hp) : Option Bool := vc y no no (fun t => onStr x fun s => some (!(Builtin.Str.occurrences t s 0 t.length 1).isEmpty)) (fun n => onLD σ[n]? (fun ys => (rd 5 σ x).bind fun a => (ys.mapM (rd 5 σ)).bind fun bs => if SeqAt.shaped a = true ∧ SeqAt.shaped (.list bs) = true then some (bs.any fun z => PyData.eqv z a) else none) fun es => onInt x fun i => some (es.lookup i).isSome) no none
noncomputable def opIn : Op2F := fun x y σ => (inB x y σ).map fun b => (.bool b, σ)
noncomputable def opNotIn : Op2F := fun x y σ => (inB x y σ).map fun b => (.bool (!b), σ)
noncomputable def opIsNot : Op2F := fun x y σ => vc x no no no (fun _ => onNone y (some (.bool true, σ))) no (onNone y (some (.bool false, σ)))
noncomputable def idx (xs : List V) (i : Int) : Option V := if 0 ≤ i ∧ i ≤ 1000000000 then xs[i.toNat]? else if -1000000000 ≤ i ∧ i < 0 ∧ -(xs.length : Int) ≤ i then xs[(i + xs.length).toNat]? else none
noncomputable def opTo : Op2F := fun x k σ => onInt k fun i => (lst2 x σ).bind fun xs => if 0 ≤ i ∧ i ≤ 1000000000 ∧ xs.length ≤ big then some (.ref σ.length, σ ++ [.list (xs.take i.toNat)]) else none
noncomputable def dput {K : Type} [DecidableEq K] (es : List (K × V)) (k : K) (v : V) : List (K × V) := if es.any (fun e => e.1 = k) then es.map (fun e => if e.1 = k then (e.1, v) else e) else es ++ [(k, v)]
noncomputable def ddel {K : Type} [DecidableEq K] (es : List (K × V)) (k : K) : List (K × V) := es.filter fun e => decide (e.1 ≠ k)
noncomputable def opSet : V → V → V → Hp → Option Hp := fun x k v σ => onRef x fun n => onInt k fun i => onLD σ[n]? (fun xs => if 0 ≤ i ∧ i ≤ 1000000000 then (if i < xs.length then some (σ.set n (.list (xs.set i.toNat v))) else none)
   else if -1000000000 ≤ i ∧ i < 0 ∧ -(xs.length : Int) ≤ i then some (σ.set n (.list (xs.set (i + xs.length).toNat v))) else none)
  fun es => if es.length ≤ big then some (σ.set n (.idict (dput es i v))) else none
noncomputable def refOf (v : V) : Option Nat := onRef v some
noncomputable def opCut (x a b y : V) (σ : Hp) : Option Hp := onRef x fun n => on2 a b fun i j => (lst (.ref n) σ).bind fun xs => (lst y σ).bind fun ys => if 0 ≤ i ∧ i ≤ j ∧ j ≤ xs.length ∧ xs.length + ys.length ≤ big ∧ (refOf y ≠ some n) then some (σ.set n (.list (xs.take i.toNat ++ ys ++ xs.drop j.toNat))) else none
noncomputable def opCut0 (x y : V) (σ : Hp) : Option Hp := onRef x fun n => (lst (.ref n) σ).bind fun xs => (lst y σ).bind fun ys => if xs.length + ys.length ≤ big ∧ (refOf y ≠ some n) then some (σ.set n (.list ys)) else none
noncomputable def bLen : OpLF := fun a σ => arg1 a fun x => vc x no no (fun s => if s.cps.size ≤ big then some (.int s.cps.size, σ) else none) (fun n => (lst (.ref n) σ).bind fun xs => if xs.length ≤ big then some (.int xs.length, σ) else none) (fun xs => if xs.length ≤ big then some (.int xs.length, σ) else none) none
noncomputable def bTuple : OpLF := fun a σ => arg1 a fun x => onTR x (fun xs => some (.tup xs, σ)) fun n => (lst (.ref n) σ).bind fun xs => if xs.length ≤ big then some (.tup xs, σ) else none
noncomputable def bList : OpLF := fun a σ => arg1 a fun x => onTR x (fun xs => if xs.length ≤ big then some (.ref σ.length, σ ++ [.list xs]) else none) fun n => (lst (.ref n) σ).bind fun xs => if xs.length ≤ big then some (.ref σ.length, σ ++ [.list xs]) else none
noncomputable def opItem : Op2F := fun x k σ => onTR x (fun xs => onInt k fun i => if xs.length ≤ big then (idx xs i).map fun v => (v, σ) else none) fun n =>
 onIS k (fun i => onLD σ[n]? (fun xs => (idx xs i).map fun v => (v, σ)) fun es => (es.lookup i).map fun v => (v, σ)) fun s => onSd σ[n]? fun es => (es.lookup s).map fun v => (v, σ)
noncomputable def pairI : V → Option (Int × V) := fun v => onTup v fun ys => arg2 ys fun a b => onInt a fun i => some (i, b)
noncomputable def pairS : V → Option (Str × V) := fun v => onTup v fun ys => arg2 ys fun a b => onStr a fun s => some (s, b)
noncomputable def bDict : OpLF := fun a σ => arg1 a fun x => onRef x fun n => (lst (.ref n) σ).bind fun xs => if xs.length ≤ big then (match xs.mapM pairI with
   | some ps => some (.ref σ.length, σ ++ [.idict (ps.foldl (fun es p => dput es p.1 p.2) [])])
   | none => (xs.mapM pairS).map fun ps => (.ref σ.length, σ ++ [.sdict (ps.foldl (fun es p => dput es p.1 p.2) [])])) else none
noncomputable def bInt : OpLF := fun a σ => arg1 a fun x => vc x (fun b => some (.int (if b then 1 else 0), σ)) (fun i => some (.int i, σ)) no no no none
noncomputable def vints : List V → Option (List Int)
 | [] => some []
 | v :: r => onInt v fun i => (vints r).map (i :: ·)
noncomputable def bSum : OpLF := fun a σ => arg1 a fun x => onRef x fun n => (lst (.ref n) σ).bind fun xs => (vints xs).bind fun is => if xs.length ≤ 1000 ∧ is.all small then some (.int is.sum, σ) else none
noncomputable def strLe (x y : Str) : Bool := decide (x.cps.toList ≤ y.cps.toList)
noncomputable def bSorted : OpLF := fun a σ => arg1 a fun x => onRef x fun n => (lst (.ref n) σ).bind fun xs => match xs with
  | [] => some (.ref σ.length, σ ++ [.list []])
  | x :: r => onStr x fun s => match r with
   | [] => some (.ref σ.length, σ ++ [.list [.str s]])
   | y :: r => match r with
    | [] => onStr y fun t => if strLe s t then some (.ref σ.length, σ ++ [.list [.str s, .str t]]) else none
    | _ :: _ => none
noncomputable def bOrd : OpLF := fun a σ => arg1 a fun x => onStr x fun s => if s.cps.size = 1 then some (.int ((s.cps[0]?.getD 0 : Nat) : Int), σ) else none
noncomputable def isL : V → Hp → Bool := fun v σ => (lst v σ).isSome
noncomputable def isD : V → Hp → Bool := fun v σ => (onRef v fun n => oc σ[n]? no no (fun _ => some true) no fun _ => no).getD false
noncomputable def isS : V → Hp → Bool := fun v σ => (onStr v fun _ => some true).getD false
noncomputable def mAppend : OpLF := fun a σ => arg2 a fun x v => onRef x fun n => (lst (.ref n) σ).bind fun xs => if xs.length < big then some (.none, σ.set n (.list (xs ++ [v]))) else none
noncomputable def mExtend : OpLF := fun a σ => arg2 a fun x y => onRef x fun n => onRef y fun m => (lst (.ref n) σ).bind fun xs => (lst (.ref m) σ).bind fun ys => if n ≠ m ∧ xs.length + ys.length ≤ big then some (.none, σ.set n (.list (xs ++ ys))) else none
noncomputable def mInsert : OpLF := fun a σ => arg3 a fun x y v => onRef x fun n => onInt y fun i => (lst (.ref n) σ).bind fun xs => if i = 0 ∧ xs.length < big then some (.none, σ.set n (.list (v :: xs))) else none
noncomputable def mPop : OpLF := fun a σ => arg2 a fun x y => onRef x fun n => onInt y fun i => oc σ[n]? no no (fun es => if es.length ≤ big then (es.lookup i).map fun v => (v, σ.set n (.idict (ddel es i))) else none) no fun _ => no
noncomputable def mLower : OpLF := fun a σ => arg1 a fun x => onStr x fun s => if s.cps.size ≤ 1000 then some (.str (Txt.lower s), σ) else none
noncomputable def mSplit : OpLF := fun a σ => arg2 a fun x y => onStr x fun s => onStr y fun t => if s.cps.size ≤ 1000 ∧ t.cps.size = 1 then some (.ref σ.length, σ ++ [.list ((Txt.split s t).map V.str)]) else none
noncomputable def mkDict (ks : List Str) (f : FnL) : Fn := fun ρ σ => (f ρ σ).map fun p => (.ref p.2.length, p.2 ++ [.sdict ((ks.zip p.1).foldl (fun es q => dput es q.1 q.2) [])])
noncomputable def mkDict0 : Fn := fun _ σ => some (.ref σ.length, σ ++ [.idict []])
noncomputable def chain2 (o o' : Op2F) (f g k : Fn) : Loc → Hp → Option (Bool × Hp) := fun ρ σ => (f ρ σ).bind fun p => (g ρ p.2).bind fun q => (o p.1 q.1 q.2).bind fun r => onBool r.1 fun b => cond b ((k ρ r.2).bind fun u => (o' q.1 u.1 u.2).bind fun w => onBool w.1 fun b => some (b, w.2)) (some (false, r.2))
noncomputable def cutA (f g k : Fn) : Asg := fun x ρ σ => (f ρ σ).bind fun p => (g ρ p.2).bind fun q => (k ρ q.2).bind fun r => (opCut p.1 q.1 r.1 x r.2).map fun σ' => (ρ, σ')
noncomputable def cutA0 (f : Fn) : Asg := fun x ρ σ => (f ρ σ).bind fun p => (opCut0 p.1 x p.2).map fun σ' => (ρ, σ')
noncomputable def compGo2 (src : Src) (a : Asg) (mk : Mk) (j : Nat) (f : Fn) (M : Nat) : Nat → Nat → Loc → Hp → Option (List V × Hp)
 | 0, _, _, _ => none
 | k + 1, i, ρ, σ => (nxt src i σ).bind fun r => match r with
  | none => some ([], σ)
  | some x => (a x ρ σ).bind fun p => (mk p.1 p.2).bind fun q => (compGo q.1 (stA j) tYes f M 0 p.1 q.2).bind fun r => (compGo2 src a mk j f M k (i + 1) p.1 r.2).map fun u => (r.1 ++ u.1, u.2)
noncomputable def cComp2 (mk : Mk) (own : Nat) (caps : List (Nat × Str)) (a : Asg) (mk2 : Mk) (j : Nat) (f : Fn) (M N : Nat) : Fn := fun ρ σ =>
 (mk ρ σ).bind fun p => (compGo2 p.1 a mk2 j f M N 0 (compLoc own caps ρ) p.2).bind fun q => some (.ref q.2.length, q.2 ++ [.list q.1])
noncomputable def bot : Fn := fun _ _ => none
noncomputable def botS : St := fun _ _ => none
end
section
open PySem PySem.W
noncomputable def g_SYSTEM : Str := Str.ofString "\\Seen \\Answered \\Flagged \\Deleted \\Draft"
noncomputable def g_NO_KEYWORD : Str := Str.ofString "(){ %*\"\\]"
noncomputable def f_Atom_init_body : St := (sAsg (var 1) (attrA (var 0) (setA 52 0)))
noncomputable def f_Atom_init : List V → Hp → Option (V × Hp) := runF 2 0 f_Atom_init_body
noncomputable def f_Letter_init_body : St := (sCons (sAsg (var 1) (attrA (var 0) (setA 289 0))) (sCons (sAsg (var 2) (attrA (var 0) (setA 289 1))) (sCons (sAsg (callL (consL (var 3) nilL) bTuple) (attrA (var 0) (setA 289 2))) (sCons (sAsg (var 4) (attrA (var 0) (setA 289 3))) (sAsg (var 5) (attrA (var 0) (setA 289 4)))))))
noncomputable def f_Letter_init : List V → Hp → Option (V × Hp) := runF 6 0 f_Letter_init_body
noncomputable def f_Box_init_body : St := (sCons (sAsg (var 1) (attrA (var 0) (setA 327 0))) (sCons (sAsg (var 2) (attrA (var 0) (setA 327 1))) (sCons (sAsg (cInt 1) (attrA (var 0) (setA 327 2))) (sCons (sAsg (cInt 1) (attrA (var 0) (setA 327 3))) (sCons (sAsg (cInt 0) (attrA (var 0) (setA 327 4))) (sCons (sAsg (mkList nilL) (attrA (var 0) (setA 327 5))) (sAsg (mkList nilL) (attrA (var 0) (setA 327 6)))))))))
noncomputable def f_Box_init : List V → Hp → Option (V × Hp) := runF 3 0 f_Box_init_body
noncomputable def w_place_of : St := (sWhile (tst (bin2 opLt (var 2) (var 3))) (sCons (sAsg (bin2 opFdiv (bin2 opAdd (var 2) (var 3)) (cInt 2)) (stA 4)) (sIf (tst (bin2 opLt (un1 (getA 289 0) (bin2 opItem (var 0) (var 4))) (var 1))) (sAsg (bin2 opAdd (var 4) (cInt 1)) (stA 2)) (sAsg (var 4) (stA 3)))) 1000)
noncomputable def f_place_of_body : St := (sCons (sAsg (mkTup (consL (cInt 0) (consL (callL (consL (var 0) nilL) bLen) nilL))) (swA 2 3)) (sCons w_place_of (sCons (sIf (andT (tst (bin2 opLt (var 2) (callL (consL (var 0) nilL) bLen))) (tst (bin2 opEq (un1 (getA 289 0) (bin2 opItem (var 0) (var 2))) (var 1)))) (sRet (var 2)) sNil) (sRet (un1 opNeg (cInt 1))))))
noncomputable def f_place_of : List V → Hp → Option (V × Hp) := runF 2 3 f_place_of_body
noncomputable def f_Box_letter_body : St := (sCons (sAsg (callL (consL (un1 (getA 327 5) (var 0)) (consL (var 1) nilL)) f_place_of) (stA 2)) (sRet (Mine.ifE (tst (bin2 opGe (var 2) (cInt 0))) (bin2 opItem (un1 (getA 327 5) (var 0)) (var 2)) cNone)))
noncomputable def f_Box_letter : List V → Hp → Option (V × Hp) := runF 2 1 f_Box_letter_body
noncomputable def c_Box_uids : Fn := (cComp (mkV (un1 (getA 327 5) (var 0))) 1 [] (stA 0) tYes (un1 (getA 289 0) (var 0)) 1000)
noncomputable def f_Box_uids_body : St := (sRet c_Box_uids)
noncomputable def f_Box_uids : List V → Hp → Option (V × Hp) := runF 1 0 f_Box_uids_body
noncomputable def f_system_flags_body : St := (sRet (meth isS (cStr g_SYSTEM) (consL (cStr (Str.ofString " ")) nilL) mSplit))
noncomputable def f_system_flags : List V → Hp → Option (V × Hp) := runF 0 0 f_system_flags_body
noncomputable def b_is_keyword : St := (sIf (orT (notT (chain2 opLt opLt (cInt 32) (callL (consL (var 1) nilL) bOrd) (cInt 127))) (tst (bin2 opIn (var 1) (cStr g_NO_KEYWORD)))) (sRet (cBool false)) sNil)
noncomputable def l_is_keyword : St := (sFor (mkV (var 0)) (stA 1) b_is_keyword 1000)
noncomputable def f_is_keyword_body : St := (sCons (sIf (notT (chain2 opLe opLe (cInt 1) (callL (consL (var 0) nilL) bLen) (cInt 60))) (sRet (cBool false)) sNil) (sCons l_is_keyword (sRet (cBool true))))
noncomputable def f_is_keyword : List V → Hp → Option (V × Hp) := runF 1 1 f_is_keyword_body
noncomputable def b_flag_name : St := (sIf (tst (bin2 opEq (meth isS (var 0) nilL mLower) (meth isS (var 1) nilL mLower))) (sRet (var 1)) sNil)
noncomputable def l_flag_name : St := (sFor (mkV (callL nilL f_system_flags)) (stA 1) b_flag_name 1000)
noncomputable def f_flag_name_body : St := (sCons l_flag_name (sCons (sIf (notT (tst (callL (consL (var 0) nilL) f_is_keyword))) botS sNil) (sRet (var 0))))
noncomputable def f_flag_name : List V → Hp → Option (V × Hp) := runF 1 1 f_flag_name_body
noncomputable def b_flag_tuple : St := (sCons (sAsg (callL (consL (var 2) nilL) f_flag_name) (stA 3)) (sIf (tst (bin2 opNotIn (var 3) (var 1))) (sExpr (meth isL (var 1) (consL (var 3) nilL) mAppend)) sNil))
noncomputable def l_flag_tuple : St := (sFor (mkV (var 0)) (stA 2) b_flag_tuple 1000)
noncomputable def f_flag_tuple_body : St := (sCons (sAsg (mkList nilL) (stA 1)) (sCons l_flag_tuple (sRet (callL (consL (callL (consL (var 1) nilL) bSorted) nilL) bTuple))))
noncomputable def f_flag_tuple : List V → Hp → Option (V × Hp) := runF 1 3 f_flag_tuple_body
noncomputable def f_raised_body : St := (sCons (sAsg (bin2 opAdd (un1 (getA 327 3) (var 0)) (cInt 1)) (attrA (var 0) (setA 327 3))) (sRet (un1 (getA 327 3) (var 0))))
noncomputable def f_raised : List V → Hp → Option (V × Hp) := runF 1 0 f_raised_body
noncomputable def f_add_letter_body : St := (sCons (sAsg (callL (consL (var 2) nilL) f_flag_tuple) (stA 4)) (sCons (sAsg (callL (consL (un1 (getA 327 2) (var 0)) (consL (var 1) (consL (var 4) (consL (var 3) (consL (callL (consL (var 0) nilL) f_raised) nilL))))) (mkInst 289 f_Letter_init)) (stA 5)) (sCons (sAsg (bin2 opAdd (un1 (getA 327 2) (var 0)) (cInt 1)) (attrA (var 0) (setA 327 2))) (sCons (sExpr (meth isL (un1 (getA 327 5) (var 0)) (consL (var 5) nilL) mAppend)) (sRet (var 5))))))
noncomputable def f_add_letter : List V → Hp → Option (V × Hp) := runF 4 2 f_add_letter_body
noncomputable def f_set_flags_body : St := (sCons (sAsg (callL (consL (var 2) nilL) f_flag_tuple) (stA 3)) (sCons (sAsg (callL (consL (un1 (getA 327 5) (var 0)) (consL (var 1) nilL)) f_place_of) (stA 4)) (sCons (sIf (tst (bin2 opLt (var 4) (cInt 0))) botS sNil) (sCons (sAsg (bin2 opItem (un1 (getA 327 5) (var 0)) (var 4)) (stA 5)) (sCons (sIf (tst (bin2 opEq (un1 (getA 289 2) (var 5)) (var 3))) (sRet (cBool false)) sNil) (sCons (sAsg (callL (consL (var 1) (consL (un1 (getA 289 1) (var 5)) (consL (var 3) (consL (un1 (getA 289 3) (var 5)) (consL (callL (consL (var 0) nilL) f_raised) nilL))))) (mkInst 289 f_Letter_init)) (subA (un1 (getA 327 5) (var 0)) (var 4) opSet)) (sRet (cBool true))))))))
noncomputable def f_set_flags : List V → Hp → Option (V × Hp) := runF 3 3 f_set_flags_body
noncomputable def b_expunge : St := (sAsg (cBool true) (subA (var 2) (var 3) opSet))
noncomputable def l_expunge : St := (sFor (mkV (var 1)) (stA 3) b_expunge 1000)
noncomputable def c_expunge : Fn := (cComp (mkV (meth (isInst 327) (var 0) nilL f_Box_uids)) 1 [(2, Str.ofString "wanted")] (stA 0) (tst (bin2 opIn (var 0) (var 1))) (var 0) 1000)
noncomputable def c_expunge2 : Fn := (cComp (mkV (un1 (getA 327 5) (var 0))) 1 [(2, Str.ofString "wanted")] (stA 0) (tst (bin2 opNotIn (un1 (getA 289 0) (var 0)) (var 1))) (var 0) 1000)
noncomputable def c_expunge3 : Fn := (cComp (mkV (var 4)) 1 [(5, Str.ofString "modseq")] (stA 0) tYes (mkTup (consL (var 0) (consL (var 1) nilL))) 1000)
noncomputable def f_expunge_body : St := (sCons (sAsg mkDict0 (stA 2)) (sCons l_expunge (sCons (sAsg c_expunge (stA 4)) (sCons (sIf (tst (bin2 opEq (var 4) (mkList nilL))) (sRet (mkList nilL)) sNil) (sCons (sAsg (callL (consL (var 0) nilL) f_raised) (stA 5)) (sCons (sAsg c_expunge2 (attrA (var 0) (setA 327 5))) (sCons (sAsg (bin2 opAdd (un1 (getA 327 6) (var 0)) c_expunge3) (attrA (var 0) (setA 327 6))) (sRet (var 4)))))))))
noncomputable def f_expunge : List V → Hp → Option (V × Hp) := runF 2 4 f_expunge_body
noncomputable def c_View_init : Fn := (cComp (mkV (un1 (getA 327 5) (var 1))) 1 [] (stA 0) tYes (mkTup (consL (un1 (getA 289 0) (var 0)) (consL (un1 (getA 289 2) (var 0)) nilL))) 1000)
noncomputable def c_View_init2 : Fn := (cComp (mkV (un1 (getA 327 5) (var 1))) 1 [] (stA 0) tYes (mkTup (consL (un1 (getA 289 0) (var 0)) (consL (un1 (getA 289 4) (var 0)) nilL))) 1000)
noncomputable def f_View_init_body : St := (sCons (sAsg (var 1) (attrA (var 0) (setA 105 0))) (sCons (sAsg (var 2) (attrA (var 0) (setA 105 1))) (sCons (sAsg (var 3) (attrA (var 0) (setA 105 2))) (sCons (sAsg (var 4) (attrA (var 0) (setA 105 3))) (sCons (sAsg (meth (isInst 327) (var 1) nilL f_Box_uids) (attrA (var 0) (setA 105 4))) (sCons (sAsg (callL (consL c_View_init nilL) bDict) (attrA (var 0) (setA 105 5))) (sAsg (callL (consL c_View_init2 nilL) bDict) (attrA (var 0) (setA 105 6)))))))))
noncomputable def f_View_init : List V → Hp → Option (V × Hp) := runF 5 0 f_View_init_body
noncomputable def w_place_among : St := (sWhile (tst (bin2 opLt (var 2) (var 3))) (sCons (sAsg (bin2 opFdiv (bin2 opAdd (var 2) (var 3)) (cInt 2)) (stA 4)) (sIf (tst (bin2 opLt (bin2 opItem (var 0) (var 4)) (var 1))) (sAsg (bin2 opAdd (var 4) (cInt 1)) (stA 2)) (sAsg (var 4) (stA 3)))) 1000)
noncomputable def f_place_among_body : St := (sCons (sAsg (mkTup (consL (cInt 0) (consL (callL (consL (var 0) nilL) bLen) nilL))) (swA 2 3)) (sCons w_place_among (sRet (Mine.ifE (andT (tst (bin2 opLt (var 2) (callL (consL (var 0) nilL) bLen))) (tst (bin2 opEq (bin2 opItem (var 0) (var 2)) (var 1)))) (var 2) (un1 opNeg (cInt 1))))))
noncomputable def f_place_among : List V → Hp → Option (V × Hp) := runF 2 3 f_place_among_body
noncomputable def f_View_number_of_body : St := (sRet (bin2 opAdd (callL (consL (un1 (getA 105 4) (var 0)) (consL (var 1) nilL)) f_place_among) (cInt 1)))
noncomputable def f_View_number_of : List V → Hp → Option (V × Hp) := runF 2 0 f_View_number_of_body
noncomputable def c_View_told : Fn := (cComp (mkV (un1 (getA 105 4) (var 0))) 1 [(0, Str.ofString "self")] (stA 0) tYes (mkTup (consL (var 0) (consL (bin2 opItem (un1 (getA 105 5) (var 1)) (var 0)) (consL (bin2 opItem (un1 (getA 105 6) (var 1)) (var 0)) nilL)))) 1000)
noncomputable def f_View_told_body : St := (sRet (callL (consL c_View_told nilL) bTuple))
noncomputable def f_View_told : List V → Hp → Option (V × Hp) := runF 1 0 f_View_told_body
noncomputable def f_note_body : St := (sCons (sAsg (un1 (getA 289 2) (var 1)) (subA (un1 (getA 105 5) (var 0)) (un1 (getA 289 0) (var 1)) opSet)) (sAsg (un1 (getA 289 4) (var 1)) (subA (un1 (getA 105 6) (var 0)) (un1 (getA 289 0) (var 1)) opSet)))
noncomputable def f_note : List V → Hp → Option (V × Hp) := runF 2 0 f_note_body
noncomputable def f_keep_silent_body : St := (sCons (sAsg (meth (isInst 327) (un1 (getA 105 0) (var 0)) (consL (var 1) nilL) f_Box_letter) (stA 2)) (sIf (andT (tst (bin2 opIsNot (var 2) cNone)) (tst (bin2 opIn (var 1) (un1 (getA 105 5) (var 0))))) (sExpr (callL (consL (var 0) (consL (var 2) nilL)) f_note)) sNil))
noncomputable def f_keep_silent : List V → Hp → Option (V × Hp) := runF 2 1 f_keep_silent_body
noncomputable def f_is_stale_body : St := (sCons (sIf (tst (bin2 opNe (bin2 opItem (un1 (getA 105 5) (var 0)) (un1 (getA 289 0) (var 1))) (un1 (getA 289 2) (var 1)))) (sRet (cBool true)) sNil) (sRet (andV (un1 (getA 105 2) (var 0)) (bin2 opNe (bin2 opItem (un1 (getA 105 6) (var 0)) (un1 (getA 289 0) (var 1))) (un1 (getA 289 4) (var 1))))))
noncomputable def f_is_stale : List V → Hp → Option (V × Hp) := runF 2 0 f_is_stale_body
noncomputable def c_gone_uids : Fn := (cComp (mkV (un1 (getA 327 5) (un1 (getA 105 0) (var 0)))) 1 [] (stA 0) tYes (mkTup (consL (un1 (getA 289 0) (var 0)) (consL (cBool true) nilL))) 1000)
noncomputable def c_gone_uids2 : Fn := (cComp (mkV (un1 (getA 105 4) (var 0))) 1 [(1, Str.ofString "there")] (stA 0) (tst (bin2 opNotIn (var 0) (var 1))) (var 0) 1000)
noncomputable def f_gone_uids_body : St := (sCons (sAsg (callL (consL c_gone_uids nilL) bDict) (stA 1)) (sRet c_gone_uids2))
noncomputable def f_gone_uids : List V → Hp → Option (V × Hp) := runF 1 1 f_gone_uids_body
noncomputable def c_new_letters : Fn := (cComp (mkV (un1 (getA 327 5) (un1 (getA 105 0) (var 0)))) 1 [(1, Str.ofString "last"), (0, Str.ofString "view")] (stA 0) (andT (tst (bin2 opGt (un1 (getA 289 0) (var 0)) (var 1))) (tst (bin2 opNotIn (un1 (getA 289 0) (var 0)) (un1 (getA 105 5) (var 2))))) (var 0) 1000)
noncomputable def f_new_letters_body : St := (sCons (sAsg (Mine.ifE (tst (bin2 opNe (un1 (getA 105 4) (var 0)) (mkList nilL))) (bin2 opItem (un1 (getA 105 4) (var 0)) (bin2 opSub (callL (consL (un1 (getA 105 4) (var 0)) nilL) bLen) (cInt 1))) (cInt 0)) (stA 1)) (sRet c_new_letters))
noncomputable def f_new_letters : List V → Hp → Option (V × Hp) := runF 1 1 f_new_letters_body
noncomputable def c_flag_pairs : Fn := (cComp (mkV (un1 (getA 289 2) (var 1))) 1 [] (stA 0) tYes (callL (consL (var 0) nilL) (mkInst 52 f_Atom_init)) 1000)
noncomputable def f_flag_pairs_body : St := (sCons (sAsg (mkList (consL (mkTup (consL (cStr (Str.ofString "FLAGS")) (consL c_flag_pairs nilL))) nilL)) (stA 2)) (sCons (sIf (orT (tst (un1 (getA 105 2) (var 0))) (tst (un1 (getA 105 3) (var 0)))) (sExpr (meth isL (var 2) (consL (cInt 0) (consL (mkTup (consL (cStr (Str.ofString "UID")) (consL (un1 (getA 289 0) (var 1)) nilL))) nilL)) mInsert)) sNil) (sCons (sIf (tst (un1 (getA 105 2) (var 0))) (sExpr (meth isL (var 2) (consL (mkTup (consL (cStr (Str.ofString "MODSEQ")) (consL (mkList (consL (un1 (getA 289 4) (var 1)) nilL)) nilL))) nilL) mAppend)) sNil) (sRet (var 2)))))
noncomputable def f_flag_pairs : List V → Hp → Option (V × Hp) := runF 2 1 f_flag_pairs_body
noncomputable def b_flag_news : St := (sCons (sAsg (meth (isInst 327) (un1 (getA 105 0) (var 0)) (consL (bin2 opItem (un1 (getA 105 4) (var 0)) (var 2)) nilL) f_Box_letter) (stA 3)) (sIf (andT (tst (bin2 opIsNot (var 3) cNone)) (tst (callL (consL (var 0) (consL (var 3) nilL)) f_is_stale))) (sCons (sExpr (meth isL (var 1) (consL (mkTup (consL (cStr (Str.ofString "fetch")) (consL (bin2 opAdd (var 2) (cInt 1)) (consL (callL (consL (var 0) (consL (var 3) nilL)) f_flag_pairs) nilL)))) nilL) mAppend)) (sExpr (callL (consL (var 0) (consL (var 3) nilL)) f_note))) sNil))
noncomputable def l_flag_news : St := (sFor (mkR1 (callL (consL (un1 (getA 105 4) (var 0)) nilL) bLen)) (stA 2) b_flag_news 1000)
noncomputable def f_flag_news_body : St := (sCons (sAsg (mkList nilL) (stA 1)) (sCons l_flag_news (sRet (var 1))))
noncomputable def f_flag_news : List V → Hp → Option (V × Hp) := runF 1 3 f_flag_news_body
noncomputable def b_ranges_of : St := (sIf (andT (tst (bin2 opGt (callL (consL (var 1) nilL) bLen) (cInt 0))) (tst (bin2 opLe (var 2) (bin2 opAdd (bin2 opItem (bin2 opItem (var 1) (un1 opNeg (cInt 1))) (cInt 1)) (cInt 1))))) (sAsg (mkTup (consL (bin2 opItem (bin2 opItem (var 1) (un1 opNeg (cInt 1))) (cInt 0)) (consL (var 2) nilL))) (subA (var 1) (un1 opNeg (cInt 1)) opSet)) (sExpr (meth isL (var 1) (consL (mkTup (consL (var 2) (consL (var 2) nilL))) nilL) mAppend)))
noncomputable def l_ranges_of : St := (sFor (mkV (var 0)) (stA 2) b_ranges_of 1000)
noncomputable def f_ranges_of_body : St := (sCons (sAsg (mkList nilL) (stA 1)) (sCons l_ranges_of (sRet (callL (consL (var 1) nilL) bTuple))))
noncomputable def f_ranges_of : List V → Hp → Option (V × Hp) := runF 1 2 f_ranges_of_body
noncomputable def c_forget : Fn := (cComp (mkV (un1 (getA 105 4) (var 0))) 1 [(1, Str.ofString "uid")] (stA 0) (tst (bin2 opNe (var 0) (var 1))) (var 0) 1000)
noncomputable def f_forget_body : St := (sCons (sAsg c_forget (attrA (var 0) (setA 105 4))) (sCons (sExpr (meth isD (un1 (getA 105 5) (var 0)) (consL (var 1) nilL) mPop)) (sExpr (meth isD (un1 (getA 105 6) (var 0)) (consL (var 1) nilL) mPop))))
noncomputable def f_forget : List V → Hp → Option (V × Hp) := runF 2 0 f_forget_body
noncomputable def b_expunge_news : St := (sCons (sIf (notT (tst (un1 (getA 105 3) (var 0)))) (sExpr (meth isL (var 2) (consL (mkTup (consL (cStr (Str.ofString "expunge")) (consL (meth (isInst 105) (var 0) (consL (var 3) nilL) f_View_number_of) nilL))) nilL) mAppend)) sNil) (sExpr (callL (consL (var 0) (consL (var 3) nilL)) f_forget)))
noncomputable def l_expunge_news : St := (sFor (mkV (var 1)) (stA 3) b_expunge_news 1000)
noncomputable def f_expunge_news_body : St := (sCons (sAsg (callL (consL (var 0) nilL) f_gone_uids) (stA 1)) (sCons (sAsg (mkList nilL) (stA 2)) (sCons l_expunge_news (sCons (sIf (andT (tst (bin2 opNe (var 1) (mkList nilL))) (tst (un1 (getA 105 3) (var 0)))) (sExpr (meth isL (var 2) (consL (mkTup (consL (cStr (Str.ofString "vanished")) (consL (callL (consL (var 1) nilL) f_ranges_of) (consL (cBool false) nilL)))) nilL) mAppend)) sNil) (sRet (var 2))))))
noncomputable def f_expunge_news : List V → Hp → Option (V × Hp) := runF 1 3 f_expunge_news_body
noncomputable def b_arrival_news : St := (sCons (sExpr (meth isL (un1 (getA 105 4) (var 0)) (consL (un1 (getA 289 0) (var 2)) nilL) mAppend)) (sExpr (callL (consL (var 0) (consL (var 2) nilL)) f_note)))
noncomputable def l_arrival_news : St := (sFor (mkV (var 1)) (stA 2) b_arrival_news 1000)
noncomputable def f_arrival_news_body : St := (sCons (sAsg (callL (consL (var 0) nilL) f_new_letters) (stA 1)) (sCons l_arrival_news (sRet (Mine.ifE (tst (bin2 opNe (var 1) (mkList nilL))) (mkList (consL (mkTup (consL (cStr (Str.ofString "exists")) (consL (callL (consL (un1 (getA 105 4) (var 0)) nilL) bLen) nilL))) nilL)) (mkList nilL)))))
noncomputable def f_arrival_news : List V → Hp → Option (V × Hp) := runF 1 2 f_arrival_news_body
noncomputable def f_news_body : St := (sCons (sAsg (callL (consL (var 0) nilL) f_flag_news) (stA 2)) (sCons (sIf (tst (var 1)) (sExpr (meth isL (var 2) (consL (callL (consL (var 0) nilL) f_expunge_news) nilL) mExtend)) sNil) (sRet (bin2 opAdd (var 2) (callL (consL (var 0) nilL) f_arrival_news)))))
noncomputable def f_news : List V → Hp → Option (V × Hp) := runF 2 1 f_news_body
noncomputable def c_is_up_to_date : Fn := (cComp (mkV (un1 (getA 327 5) (un1 (getA 105 0) (var 0)))) 1 [(0, Str.ofString "view")] (stA 0) (tst (callL (consL (var 1) (consL (var 0) nilL)) f_is_stale)) (var 0) 1000)
noncomputable def f_is_up_to_date_body : St := (sRet (andV (bin2 opEq (un1 (getA 105 4) (var 0)) (meth (isInst 327) (un1 (getA 105 0) (var 0)) nilL f_Box_uids)) (bin2 opEq c_is_up_to_date (mkList nilL))))
noncomputable def f_is_up_to_date : List V → Hp → Option (V × Hp) := runF 1 0 f_is_up_to_date_body
noncomputable def f_law_draw_body : St := (sCons (sAsg (bin2 opItem (var 0) (cInt 1)) (stA 2)) (sCons (sAsg (bin2 opAdd (var 2) (cInt 1)) (subA (var 0) (cInt 1) opSet)) (sCons (sIf (tst (bin2 opLt (var 2) (callL (consL (bin2 opItem (var 0) (cInt 0)) nilL) bLen))) (sRet (bin2 opMod (bin2 opItem (bin2 opItem (var 0) (cInt 0)) (var 2)) (var 1))) sNil) (sRet (bin2 opMod (bin2 opAdd (bin2 opAdd (bin2 opItem (var 0) (cInt 2)) (bin2 opMul (cInt 7) (var 2))) (bin2 opFdiv (bin2 opMul (var 2) (var 2)) (cInt 3))) (var 1))))))
noncomputable def f_law_draw : List V → Hp → Option (V × Hp) := runF 2 1 f_law_draw_body
noncomputable def f_law_flags_body : St := (sRet (mkList (consL (mkTup nilL) (consL (mkTup (consL (cStr (Str.ofString "\\Seen")) nilL)) (consL (mkTup (consL (cStr (Str.ofString "\\Deleted")) (consL (cStr (Str.ofString "x")) nilL))) (consL (mkTup (consL (cStr (Str.ofString "x")) nilL)) (consL (mkTup (consL (cStr (Str.ofString "\\Flagged")) (consL (cStr (Str.ofString "\\Seen")) nilL))) nilL)))))))
noncomputable def f_law_flags : List V → Hp → Option (V × Hp) := runF 0 0 f_law_flags_body
noncomputable def c_law_begun : Fn := (cComp (mkV (un1 (getA 327 5) (var 1))) 1 [] (stA 0) tYes (mkList (consL (un1 (getA 289 0) (var 0)) (consL (callL (consL (un1 (getA 289 2) (var 0)) nilL) bList) (consL (un1 (getA 289 4) (var 0)) nilL)))) 1000)
noncomputable def f_law_begun_body : St := (sCons (sAsg (callL (consL (var 1) (consL (cBool false) (consL (bin2 opEq (callL (consL (var 0) (consL (cInt 2) nilL)) f_law_draw) (cInt 1)) (consL (bin2 opEq (callL (consL (var 0) (consL (cInt 2) nilL)) f_law_draw) (cInt 1)) nilL)))) (mkInst 105 f_View_init)) (stA 2)) (sCons (sAsg c_law_begun (stA 3)) (sRet (mkTup (consL (var 2) (consL (var 3) nilL))))))
noncomputable def f_law_begun : List V → Hp → Option (V × Hp) := runF 2 2 f_law_begun_body
noncomputable def c_law_taken : Fn := (cComp (mkV (var 8)) 2 [] (asg2 (stA 0) (stA 1)) tYes (var 0) 1000)
noncomputable def c_law_taken2 : Fn := (cComp (mkV (bin2 opItem (callL (consL (var 8) nilL) bDict) (cStr (Str.ofString "FLAGS")))) 1 [] (stA 0) tYes (un1 (getA 52 0) (var 0)) 1000)
noncomputable def i_law_taken : St := (sCons (sIf (tst (bin2 opEq (bin2 opItem (bin2 opItem (var 8) (un1 opNeg (cInt 1))) (cInt 1)) (mkList (consL (bin2 opItem (var 7) (cInt 2)) nilL)))) (sRet (cBool false)) sNil) (sAsg (bin2 opItem (bin2 opItem (bin2 opItem (var 8) (un1 opNeg (cInt 1))) (cInt 1)) (cInt 0)) (subA (var 7) (cInt 2) opSet)))
noncomputable def c_law_taken3 : Fn := (cComp2 (mkV (bin2 opItem (var 5) (cInt 1))) 3 [] (asg2 (stA 0) (stA 1)) (mkR2 (var 0) (bin2 opAdd (var 1) (cInt 1))) 2 (var 2) 1000 1000)
noncomputable def c_law_taken4 : Fn := (cComp (mkV (var 1)) 1 [] (stA 0) tYes (bin2 opItem (var 0) (cInt 0)) 1000)
noncomputable def c_law_taken5 : Fn := (cComp (mkV (var 12)) 1 [(2, Str.ofString "copy")] (stA 0) (tst (bin2 opNotIn (var 0) c_law_taken4)) (var 0) 1000)
noncomputable def c_law_taken6 : Fn := (cComp (mkV (var 2)) 1 [(12, Str.ofString "gone")] (stA 0) (tst (bin2 opNotIn (bin2 opItem (var 0) (cInt 0)) (var 1))) (var 0) 1000)
noncomputable def c_law_taken7 : Fn := (cComp (mkV (var 2)) 1 [] (stA 0) tYes (bin2 opItem (var 0) (cInt 0)) 1000)
noncomputable def c_law_taken8 : Fn := (cComp (mkV (un1 (getA 327 5) (var 0))) 1 [(13, Str.ofString "known")] (stA 0) (tst (bin2 opNotIn (un1 (getA 289 0) (var 0)) (var 1))) (mkList (consL (un1 (getA 289 0) (var 0)) (consL (callL (consL (un1 (getA 289 2) (var 0)) nilL) bList) (consL (un1 (getA 289 4) (var 0)) nilL)))) 1000)
noncomputable def i_law_taken2 : St := (sCons (sAsg c_law_taken3 (stA 12)) (sCons (sIf (orT (notT (tst (un1 (getA 105 3) (var 1)))) (orT (tst (bin2 opItem (var 5) (cInt 2))) (tst (bin2 opNe c_law_taken5 (mkList nilL))))) (sRet (cBool false)) sNil) (sAsg c_law_taken6 (cutA0 (var 2)))))
noncomputable def i_law_taken3 : St := (sCons (sAsg c_law_taken7 (stA 13)) (sCons (sExpr (meth isL (var 2) (consL c_law_taken8 nilL) mExtend)) (sIf (orT (tst (bin2 opNe (callL (consL (var 2) nilL) bLen) (bin2 opItem (var 5) (cInt 1)))) (tst (bin2 opEq (callL (consL (var 2) nilL) bLen) (callL (consL (var 13) nilL) bLen)))) (sRet (cBool false)) sNil)))
noncomputable def i_law_taken4 : St := (sCons (sIf (tst (un1 (getA 105 3) (var 1))) (sRet (cBool false)) sNil) (sAsg (mkList nilL) (cutA (var 2) (bin2 opSub (bin2 opItem (var 5) (cInt 1)) (cInt 1)) (bin2 opItem (var 5) (cInt 1)))))
noncomputable def i_law_taken5 : St := (sCons (sAsg (mkTup (consL (bin2 opItem (var 2) (bin2 opSub (bin2 opItem (var 5) (cInt 1)) (cInt 1))) (consL (callL (consL (bin2 opItem (var 5) (cInt 2)) nilL) bList) nilL))) (swA 7 8)) (sCons (sAsg c_law_taken (stA 9)) (sCons (sAsg (bin2 opAdd (bin2 opAdd (bin2 opMul (mkList (consL (cStr (Str.ofString "UID")) nilL)) (callL (consL (orV (un1 (getA 105 2) (var 1)) (un1 (getA 105 3) (var 1))) nilL) bInt)) (mkList (consL (cStr (Str.ofString "FLAGS")) nilL))) (bin2 opMul (mkList (consL (cStr (Str.ofString "MODSEQ")) nilL)) (callL (consL (un1 (getA 105 2) (var 1)) nilL) bInt))) (stA 10)) (sCons (sIf (orT (tst (bin2 opNe (var 9) (var 10))) (andT (tst (bin2 opIn (cStr (Str.ofString "UID")) (var 9))) (tst (bin2 opNe (bin2 opItem (bin2 opItem (var 8) (cInt 0)) (cInt 1)) (bin2 opItem (var 7) (cInt 0)))))) (sRet (cBool false)) sNil) (sCons (sAsg c_law_taken2 (stA 11)) (sCons (sIf (andT (tst (bin2 opEq (var 11) (bin2 opItem (var 7) (cInt 1)))) (notT (tst (un1 (getA 105 2) (var 1))))) (sRet (cBool false)) sNil) (sCons (sAsg (var 11) (subA (var 7) (cInt 1) opSet)) (sIf (tst (un1 (getA 105 2) (var 1))) i_law_taken sNil))))))))
noncomputable def b_law_taken : St := (sCons (sAsg (bin2 opItem (mkDict [Str.ofString "fetch", Str.ofString "expunge", Str.ofString "vanished", Str.ofString "exists"] (consL (cInt 0) (consL (cInt 1) (consL (cInt 1) (consL (cInt 2) nilL))))) (bin2 opItem (var 5) (cInt 0))) (stA 6)) (sCons (sIf (tst (bin2 opLt (var 6) (var 4))) (sRet (cBool false)) sNil) (sCons (sAsg (var 6) (stA 4)) (sIf (tst (bin2 opEq (bin2 opItem (var 5) (cInt 0)) (cStr (Str.ofString "fetch")))) i_law_taken5 (sIf (tst (bin2 opEq (bin2 opItem (var 5) (cInt 0)) (cStr (Str.ofString "expunge")))) i_law_taken4 (sIf (tst (bin2 opEq (bin2 opItem (var 5) (cInt 0)) (cStr (Str.ofString "vanished")))) i_law_taken2 i_law_taken3))))))
noncomputable def l_law_taken : St := (sFor (mkV (var 3)) (stA 5) b_law_taken 1000)
noncomputable def f_law_taken_body : St := (sCons (sAsg (cInt 0) (stA 4)) (sCons l_law_taken (sRet (cBool true))))
noncomputable def f_law_taken : List V → Hp → Option (V × Hp) := runF 4 10 f_law_taken_body
noncomputable def c_law_news_right : Fn := (cComp (mkV (var 2)) 1 [] (stA 0) tYes (bin2 opItem (var 0) (cInt 0)) 1000)
noncomputable def c_law_news_right2 : Fn := (cComp (mkV (var 2)) 1 [] (stA 0) tYes (bin2 opItem (var 0) (cInt 0)) 1000)
noncomputable def c_law_news_right3 : Fn := (cComp (mkV (meth (isInst 105) (var 1) nilL f_View_told)) 3 [] (asg3 (stA 0) (stA 1) (stA 2)) tYes (mkTup (consL (var 0) (consL (callL (consL (var 1) nilL) bList) nilL))) 1000)
noncomputable def c_law_news_right4 : Fn := (cComp (mkV (var 2)) 1 [] (stA 0) tYes (mkTup (consL (bin2 opItem (var 0) (cInt 0)) (consL (bin2 opItem (var 0) (cInt 1)) nilL))) 1000)
noncomputable def c_law_news_right5 : Fn := (cComp (mkV (var 2)) 1 [] (stA 0) tYes (bin2 opItem (var 0) (cInt 0)) 1000)
noncomputable def c_law_news_right6 : Fn := (cComp (mkV (var 2)) 1 [(0, Str.ofString "box")] (stA 0) (tst (bin2 opIsNot (meth (isInst 327) (var 1) (consL (bin2 opItem (var 0) (cInt 0)) nilL) f_Box_letter) cNone)) (var 0) 1000)
noncomputable def b_law_news_right : St := (sCons (sAsg (meth (isInst 327) (var 0) (consL (bin2 opItem (var 6) (cInt 0)) nilL) f_Box_letter) (stA 7)) (sIf (orT (tst (bin2 opNe (bin2 opItem (var 6) (cInt 1)) (callL (consL (un1 (getA 289 2) (var 7)) nilL) bList))) (andT (tst (un1 (getA 105 2) (var 1))) (tst (bin2 opNe (bin2 opItem (var 6) (cInt 2)) (un1 (getA 289 4) (var 7)))))) (sRet (cBool false)) sNil))
noncomputable def l_law_news_right : St := (sFor (mkV (var 5)) (stA 6) b_law_news_right 1000)
noncomputable def f_law_news_right_body : St := (sCons (sAsg c_law_news_right (stA 4)) (sCons (sIf (orT (notT (tst (callL (consL (var 0) (consL (var 1) (consL (var 2) (consL (callL (consL (var 1) (consL (var 3) nilL)) f_news) nilL)))) f_law_taken))) (tst (bin2 opNe (callL (consL (var 1) (consL (var 3) nilL)) f_news) (mkList nilL)))) (sRet (cBool false)) sNil) (sCons (sIf (orT (tst (bin2 opNe c_law_news_right2 (un1 (getA 105 4) (var 1)))) (tst (bin2 opNe c_law_news_right3 c_law_news_right4))) (sRet (cBool false)) sNil) (sCons (sIf (andT (notT (tst (var 3))) (tst (bin2 opNe (bin2 opTo c_law_news_right5 (callL (consL (var 4) nilL) bLen)) (var 4)))) (sRet (cBool false)) sNil) (sCons (sAsg c_law_news_right6 (stA 5)) (sCons l_law_news_right (sCons (sIf (orT (tst (bin2 opNe (callL (consL (var 5) nilL) bLen) (callL (consL (un1 (getA 327 5) (var 0)) nilL) bLen))) (andT (tst (var 3)) (tst (bin2 opNe (callL (consL (var 2) nilL) bLen) (callL (consL (var 5) nilL) bLen))))) (sRet (cBool false)) sNil) (sRet (bin2 opEq (callL (consL (var 1) nilL) f_is_up_to_date) (bin2 opEq (callL (consL (var 2) nilL) bLen) (callL (consL (var 5) nilL) bLen)))))))))))
noncomputable def f_law_news_right : List V → Hp → Option (V × Hp) := runF 4 4 f_law_news_right_body
noncomputable def c_law : Fn := (cComp (mkV (bin2 opTo (var 0) (cInt 60))) 1 [] (stA 0) tYes (bin2 opMod (callL (consL (var 0) nilL) bInt) (cInt 1000003)) 1000)
noncomputable def b_law : St := (sExpr (callL (consL (var 3) (consL (cBytes #[120]) (consL (bin2 opItem (callL nilL f_law_flags) (callL (consL (var 2) (consL (cInt 5) nilL)) f_law_draw)) (consL (cInt 5) nilL)))) f_add_letter))
noncomputable def l_law : St := (sFor (mkR1 (callL (consL (var 2) (consL (cInt 4) nilL)) f_law_draw)) (stA 4) b_law 1000)
noncomputable def b_law2 : St := (sIf (andT (tst (bin2 opIsNot (var 10) cNone)) (tst (bin2 opEq (bin2 opItem (var 11) (cInt 0)) (var 7)))) (sAsg (mkTup (consL (callL (consL (un1 (getA 289 2) (var 10)) nilL) bList) (consL (un1 (getA 289 4) (var 10)) nilL))) (asg2 (subA (var 11) (cInt 1) opSet) (subA (var 11) (cInt 2) opSet))) sNil)
noncomputable def l_law2 : St := (sFor (mkV (var 9)) (stA 11) b_law2 1000)
noncomputable def i_law : St := (sCons (sAsg (bin2 opItem (var 5) (bin2 opMod (var 7) (callL (consL (var 5) nilL) bLen))) (asg2 (stA 8) (stA 9))) (sCons (sAsg (meth (isInst 327) (var 3) (consL (var 7) nilL) f_Box_letter) (stA 10)) (sCons (sExpr (callL (consL (var 8) (consL (var 7) nilL)) f_keep_silent)) l_law2)))
noncomputable def i_law2 : St := (sCons (sAsg (bin2 opItem (var 5) (bin2 opMod (var 7) (callL (consL (var 5) nilL) bLen))) (asg2 (stA 8) (stA 9))) (sIf (notT (tst (callL (consL (var 3) (consL (var 8) (consL (var 9) (consL (bin2 opEq (callL (consL (var 2) (consL (cInt 2) nilL)) f_law_draw) (cInt 0)) nilL)))) f_law_news_right))) (sRet (cBool false)) sNil))
noncomputable def b_law3 : St := (sCons (sAsg (callL (consL (var 2) (consL (cInt 6) nilL)) f_law_draw) (stA 6)) (sCons (sAsg (bin2 opAdd (cInt 1) (callL (consL (var 2) (consL (cInt 6) nilL)) f_law_draw)) (stA 7)) (sIf (tst (bin2 opEq (var 6) (cInt 0))) (sExpr (callL (consL (var 3) (consL (cBytes #[121]) (consL (bin2 opItem (callL nilL f_law_flags) (bin2 opMod (var 7) (cInt 5))) (consL (cInt 6) nilL)))) f_add_letter)) (sIf (andT (tst (bin2 opEq (var 6) (cInt 1))) (tst (bin2 opIsNot (meth (isInst 327) (var 3) (consL (var 7) nilL) f_Box_letter) cNone))) (sExpr (callL (consL (var 3) (consL (var 7) (consL (bin2 opItem (callL nilL f_law_flags) (callL (consL (var 2) (consL (cInt 5) nilL)) f_law_draw)) nilL))) f_set_flags)) (sIf (tst (bin2 opEq (var 6) (cInt 2))) (sExpr (callL (consL (var 3) (consL (mkList (consL (var 7) (consL (bin2 opAdd (var 7) (cInt 2)) nilL))) nilL)) f_expunge)) (sIf (andT (tst (bin2 opEq (var 6) (cInt 3))) (tst (bin2 opLt (callL (consL (var 5) nilL) bLen) (cInt 3)))) (sExpr (meth isL (var 5) (consL (callL (consL (var 2) (consL (var 3) nilL)) f_law_begun) nilL) mAppend)) (sIf (tst (bin2 opEq (var 6) (cInt 4))) i_law2 (sIf (tst (bin2 opEq (var 6) (cInt 5))) i_law sNil))))))))
noncomputable def l_law3 : St := (sFor (mkR1 (callL (consL (var 2) (consL (cInt 13) nilL)) f_law_draw)) (stA 4) b_law3 1000)
noncomputable def b_law4 : St := (sIf (notT (tst (callL (consL (var 3) (consL (var 8) (consL (var 9) (consL (cBool true) nilL)))) f_law_news_right))) (sRet (cBool false)) sNil)
noncomputable def l_law4 : St := (sFor (mkV (var 5)) (asg2 (stA 8) (stA 9)) b_law4 1000)
noncomputable def f_law_body : St := (sCons (sAsg c_law (stA 1)) (sCons (sAsg (mkList (consL (var 1) (consL (cInt 0) (consL (bin2 opMod (callL (consL (var 1) nilL) bSum) (cInt 997)) nilL)))) (stA 2)) (sCons (sAsg (callL (consL (cStr (Str.ofString "b")) (consL (cInt 1) nilL)) (mkInst 327 f_Box_init)) (stA 3)) (sCons l_law (sCons (sAsg (mkList (consL (callL (consL (var 2) (consL (var 3) nilL)) f_law_begun) nilL)) (stA 5)) (sCons l_law3 (sCons l_law4 (sRet (cBool true)))))))))
noncomputable def f_law : List V → Hp → Option (V × Hp) := runF 1 11 f_law_body
end
section
open PySem PySem.W PyProof.Rows PySem.Calls
variable {c : Cx} {sc : Scope} {nm : List Str} {n : Nat} {env : Env} {φ φ' : Phi} {ρ : Loc} {h h' : Heap}
theorem vr_int {i : Int} {t : Tok} : VR φ h (.int i) (.int i t) := by unfold VR; exact ⟨_, rfl⟩
theorem vr_bool {b : Bool} : VR φ h (.bool b) (.bool b) := by unfold VR; rfl
theorem vr_str {b : Str} {t : Tok} : VR φ h (.str b) (.str b t) := by unfold VR; exact ⟨_, rfl⟩
theorem small_bits {a : Int} (h : small a = true) : Builtin.Int.intBits a ≤ 64 := by
 unfold small at h
 rw [Bool.and_eq_true] at h
 have h1 := of_decide_eq_true h.1
 have h2 := of_decide_eq_true h.2
 exact intBits_le_64 (om39 h1) (om40 h2)
theorem op_b {prim : Value → Value → Sem Value} {r : Int → Int → Bool} (H : ∀ {A : Around} {a b : Int} {t u : Tok} {Q E : Value → Shared → Prop} {s : Shared}, Q (.bool (r a b)) s → wpAny c.M A (prim (.int a t) (.int b u)) Q E s) : Op2 c prim (fun x y σ => on2 x y fun a b => some (.bool (r a b), σ)) := by
 intro n A φ σ s x y vx vy v σ' Q E hA R hx hy hf k
 refine on2_t hf ?_; clear hf; rintro a b rfl rfl hf
 cases hf
 unfold VR at hx hy
 obtain ⟨t, rfl⟩ := hx
 obtain ⟨u, rfl⟩ := hy
 exact H (k.here (t := s.toks) R vr_bool)
theorem op_lt : Op2 c (compareOp .Lt) opLt := op_b (r := fun a b => decide (a < b)) fun q => PyProof.Rows.lt_int q
theorem op_le : Op2 c (compareOp .LtE) opLe := op_b (r := fun a b => decide (a ≤ b)) fun q => PyProof.Rows.le_int q
theorem op_gt : Op2 c (compareOp .Gt) opGt := op_b (r := fun a b => decide (b < a)) fun q => PyProof.Rows.gt_int q
theorem op_ge : Op2 c (compareOp .GtE) opGe := op_b (r := fun a b => decide (b ≤ a)) fun q => PyProof.Rows.ge_int q
theorem op_sub : Op2 c (binaryOp .Sub) opSub := by
 intro n A φ σ s x y vx vy v σ' Q E hA R hx hy hf k
 unfold opSub at hf
 refine on2_t hf ?_; clear hf; rintro a b rfl rfl hf
 cases hf
 unfold VR at hx hy
 obtain ⟨t, rfl⟩ := hx
 obtain ⟨u, rfl⟩ := hy
 exact PyProof.Rows.sub_int (k.here R vr_int)
theorem op_mod : Op2 c (binaryOp .Mod) opMod := by
 intro n A φ σ s x y vx vy v σ' Q E hA R hx hy hf k
 unfold opMod at hf
 refine on2_t hf ?_; clear hf; rintro a b rfl rfl hf; refine ift hf fun hb hf => ?_
 cases hf
 unfold VR at hx hy
 obtain ⟨t, rfl⟩ := hx
 obtain ⟨u, rfl⟩ := hy
 exact PyProof.Rows.mod_int' hb (k.here R vr_int)
theorem op_fdiv : Op2 c (binaryOp .FloorDiv) opFdiv := by
 intro n A φ σ s x y vx vy v σ' Q E hA R hx hy hf k
 unfold opFdiv at hf
 refine on2_t hf ?_; clear hf; rintro a b rfl rfl hf; refine ift hf fun hb hf => ?_
 cases hf
 unfold VR at hx hy
 obtain ⟨t, rfl⟩ := hx
 obtain ⟨u, rfl⟩ := hy
 have hs := hb.2.2
 unfold small at hs
 rw [Bool.and_eq_true] at hs
 have h1 := of_decide_eq_true hs.1
 have h2 := of_decide_eq_true hs.2
 exact PyProof.Rows.floordiv_int hb.1 (k.here R vr_int) (.inl (PyProof.noPylong_small (by omega)))
theorem op_neg : Op1 c (unaryOp .USub) opNeg := by
 intro n A φ σ s x vx v σ' Q E hA R hx hf k
 unfold opNeg at hf
 refine onInt_t hf ?_; clear hf; rintro i rfl hf
 cases hf
 unfold VR at hx
 obtain ⟨t, rfl⟩ := hx
 exact PyProof.Rows.neg_int (k.here R vr_int)
theorem op_isNot : Op2 c (compareOp .IsNot) opIsNot := by
 intro n A φ σ s x y vx vy v σ' Q E hA R hx hy hf k
 refine vc_t hf nf nf nf ?_ nf ?_ <;> clear hf
 ·rintro m rfl hf; refine onNone_t hf ?_; clear hf; rintro rfl hf
  cases hf
  unfold VR at hx hy
  obtain ⟨a, d, rfl, _⟩ := hx
  subst hy
  exact wpAny_isNot_other (by first | rfl | decide) (by intro e; cases e) (k.here (t := s.toks) R vr_bool)
 ·rintro rfl hf; refine onNone_t hf ?_; clear hf; rintro rfl hf
  cases hf
  unfold VR at hx hy
  subst hx hy
  exact wpAny_isNot_self (by first | rfl | decide) (k.here (t := s.toks) R vr_bool)
inductive lst_at_O (φ : Phi) (h : Heap) (σ : Hp) (v : V) (xs : List V) (vv : Value) : Prop
 | mk (m : Nat) (a : Addr) (d : Addr) (vs : List Value) (_ : v = .ref m) (_ : σ[m]? = some (.list xs)) (_ : vv = .ref a) (_ : φ[m]? = some (a, d)) (_ : d = a) (_ : Lst h a (List.toArray vs)) (_ : VRL φ h xs vs) : lst_at_O φ h σ v xs vv
theorem lst_at {σ : Hp} {v : V} {xs : List V} {vv : Value} (R : c.R φ σ h) (e : lst v σ = some xs) (hv : VR φ h v vv) : lst_at_O φ h σ v xs vv := by
 refine onRef_t e ?_; clear e; rintro m rfl e; refine onLst_t e fun ys hσ e => ?_
 cases e
 unfold VR at hv
 obtain ⟨a, d, rfl, hp⟩ := hv
 obtain ⟨q, vs, hl, hvs⟩ := R.objs m _ _ hσ hp
 exact ⟨m, a, d, vs, rfl, hσ, rfl, hp, q, hl, hvs⟩
theorem mapM_cons_some {α β : Type} {f : α → Option β} {x : α} {xs : List α} {ys : List β} (h : (x :: xs).mapM f = some ys) : ∃ y r, f x = some y ∧ xs.mapM f = some r ∧ ys = y :: r := by
 rw [List.mapM_cons] at h
 refine ob1 h fun y h1 h => ?_
 refine ob1 h fun r h2 h => ?_
 cases h
 exact ⟨y, r, h1, h2, rfl⟩
theorem rd_all {σ : Hp} {k : Nat} (ih : ∀ (v : V) (vv : Value) (d : PyData), VR φ h v vv → rd k σ v = some d → ∃ as, Reads h vv d as) : ∀ (xs : List V) (vs : List Value) (ds : List PyData), VRL φ h xs vs → xs.mapM (rd k σ) = some ds → ∃ as, ReadsAll h vs ds as
 | [], vs, ds, e, hm => by
  unfold VRL at e; subst e
  rw [List.mapM_nil] at hm
  cases hm
  exact ⟨[], .nil⟩
 | x :: xs, vs, ds, e, hm => by
  unfold VRL at e
  obtain ⟨v, r, rfl, a, b⟩ := e
  obtain ⟨y, r', h1, h2, rfl⟩ := mapM_cons_some hm
  obtain ⟨as, p⟩ := ih x v y a h1
  obtain ⟨bs, q⟩ := rd_all ih xs r r' b h2
  exact ⟨_, .cons p q⟩
theorem rd_reads {σ : Hp} (R : c.R φ σ h) : ∀ (k : Nat) (v : V) (vv : Value) (d : PyData), VR φ h v vv → rd k σ v = some d → ∃ as, Reads h vv d as
 | 0, _, _, _, _, e => by cases e
 | k + 1, v, vv, d, hv, e => by
  replace e : rdS (rd k σ) σ v = some d := e
  cases v with
  | none => cases e; unfold VR at hv; subst hv; exact ⟨_, .none⟩
  | bool => cases e; unfold VR at hv; subst hv; exact ⟨_, .bool _⟩
  | int => cases e; unfold VR at hv; obtain ⟨t, rfl⟩ := hv; exact ⟨_, .int _ _⟩
  | str => cases e; unfold VR at hv; obtain ⟨t, rfl⟩ := hv; exact ⟨_, .str _ _⟩
  | tup xs =>
   refine oq1 e fun ds h1 e => ?_
   cases e
   unfold VR at hv
   obtain ⟨a, vs, rfl, ⟨o, ho, hc, n, hd⟩, _, hl⟩ := hv
   obtain ⟨as, p⟩ := rd_all (rd_reads R k) xs vs ds hl h1
   exact ⟨_, .tuple ho hc hd p⟩
  | ref m =>
   refine onLst_t e fun xs hσ e => oq1 e fun ds h1 e => ?_
   cases e
   unfold VR at hv
   obtain ⟨a, dd, rfl, hp⟩ := hv
   obtain ⟨_, vs, hls, hl⟩ := R.objs m _ _ hσ hp
   obtain ⟨o, ho, hc, n, hd⟩ := hls.isList
   obtain ⟨as, p⟩ := rd_all (rd_reads R k) xs vs ds hl h1
   exact ⟨_, .list ho hc hd p⟩
  | _ => cases e
theorem eq_case {σ : Hp} {s : Shared} {x y : V} {vx vy : Value} {b : Bool} {A : Around} {n : Nat} (hA : Room n A) (R : c.R φ σ s.heap) (hx : VR φ s.heap x vx) (hy : VR φ s.heap y vy) (e : eqB x y σ = some b) :
  (∀ (Q : Value → Shared → Prop) E, Q (.bool b) s → wpAny c.M A (compareOp .Eq vx vy) Q E s) ∧ (∀ (Q : Value → Shared → Prop) E, Q (.bool (!b)) s → wpAny c.M A (compareOp .NotEq vx vy) Q E s) := by
 have hu := hA.units
 have hu' : A.units < cLine := by exact om41 hu
 have two : ∀ {xs ys : List V}, lst x σ = some xs → lst y σ = some ys → (xs = [] ∨ ys = []) → b = (xs.isEmpty && ys.isEmpty) → 
   (∀ (Q : Value → Shared → Prop) E, Q (.bool b) s → wpAny c.M A (compareOp .Eq vx vy) Q E s) ∧ (∀ (Q : Value → Shared → Prop) E, Q (.bool (!b)) s → wpAny c.M A (compareOp .NotEq vx vy) Q E s) := by
  intro xs ys h1 h2 h3 hb
  obtain ⟨m, a, d, vs, _, _, rfl, _, _, hls, hv⟩ := lst_at R h1 hx
  have hl := hls.isList
  obtain ⟨m', a', d', vs', _, _, rfl, _, _, hls', hv'⟩ := lst_at R h2 hy
  have hl' := hls'.isList
  by_cases q : xs.length = ys.length
  ·have hxs : xs = [] := by
    rcases h3 with rfl | rfl
    ·rfl
    ·exact List.length_eq_zero_iff.mp q
   have hys : ys = [] := by
    subst hxs; exact List.length_eq_zero_iff.mp q.symm
   subst hxs hys
   unfold VRL at hv hv'
   subst hv hv'
   obtain ⟨o, ho, hc, k, hd⟩ := hl
   obtain ⟨o', ho', hc', k', hd'⟩ := hl'
   have r1 : Reads s.heap (.ref a) (.list []) [a] := .list ho hc hd .nil
   have r2 : Reads s.heap (.ref a') (.list []) [a'] := .list ho' hc' hd' .nil
   have hb' : b = true := by rw [hb]; rfl
   subst hb'
   refine ⟨fun Q E hq => eq_dataH r1 r2 (by decide) (by decide) hu ?_, fun Q E hq => ne_dataH r1 r2 (by decide) (by decide) hu ?_⟩
   ·rw [show PyData.eqv (.list []) (.list []) = true by simp [PyData.eqv, PyData.eqvAll]]; exact hq
   ·rw [show PyData.eqv (.list []) (.list []) = true by simp [PyData.eqv, PyData.eqvAll]]; exact hq
  ·have hb' : b = false := by
    rw [hb]
    rcases h3 with rfl | rfl
    ·cases ys with
     | nil => exact absurd rfl q
     | cons _ _ => rfl
    ·cases xs with
     | nil => exact absurd rfl q
     | cons _ _ => rfl
   subst hb'
   have hsz : ((List.toArray vs).size != (List.toArray vs').size) = true := by
    simp only [List.size_toArray, hv.length, hv'.length, bne_iff_ne, ne_eq]
    exact q
   exact ⟨fun Q E hq => SeqAt.RcAt.lists_lengths hl hl' hsz hu' _ _ E Q hq, fun Q E hq => SeqAt.RcNeAt.lists_lengths hl hl' hsz hu' _ _ E Q hq⟩
 have deep : ((rd 6 σ x).bind fun a => (rd 6 σ y).bind fun b => if SeqAt.shaped a = true ∧ SeqAt.shaped b = true then some (PyData.eqv a b) else none) = some b →
   (∀ (Q : Value → Shared → Prop) E, Q (.bool b) s → wpAny c.M A (compareOp .Eq vx vy) Q E s) ∧ (∀ (Q : Value → Shared → Prop) E, Q (.bool (!b)) s → wpAny c.M A (compareOp .NotEq vx vy) Q E s) := by
  intro e
  refine ob1 e fun da h1 e => ?_
  refine ob1 e fun db h2 e => ift e fun hs e => ?_
  cases e
  obtain ⟨as, ra⟩ := rd_reads R 6 x vx da hx h1
  obtain ⟨bs, rb⟩ := rd_reads R 6 y vy db hy h2
  exact ⟨fun Q E hq => eq_dataH ra rb hs.1 hs.2 hu hq, fun Q E hq => ne_dataH ra rb hs.1 hs.2 hu hq⟩
 unfold eqB at e
 generalize q1 : lst x σ = o1 at e
 generalize q2 : lst y σ = o2 at e
 cases o1 with
 | none => exact deep e
 | some xs => cases o2 with
  | none => exact deep e
  | some ys => cases xs with
   | nil => exact two q1 q2 (.inl rfl) (Option.some.inj e).symm
   | cons x1 xs => cases ys with
    | nil => exact two q1 q2 (.inr rfl) (Option.some.inj e).symm
    | cons => exact deep e
theorem op_eq : Op2 c (compareOp .Eq) opEq := by
 intro n A φ σ s x y vx vy v σ' Q E hA R hx hy hf k
 unfold opEq at hf
 refine oq1 hf fun b h1 hf => ?_
 cases hf
 exact (eq_case hA R hx hy h1).1 Q E (k.here (t := s.toks) R vr_bool)
theorem op_ne : Op2 c (compareOp .NotEq) opNe := by
 intro n A φ σ s x y vx vy v σ' Q E hA R hx hy hf k
 unfold opNe at hf
 refine oq1 hf fun b h1 hf => ?_
 cases hf
 exact (eq_case hA R hx hy h1).2 Q E (k.here (t := s.toks) R vr_bool)
theorem DR.lookup {K : Type} [DecidableEq K] {k : K} : ∀ {es : List (K × V)} {kvs : List (K × Value)} {v : V}, DR φ h es kvs → es.lookup k = some v → ∃ v', valueAt kvs k = some v' ∧ VR φ h v v'
 | [], _, _, _, e => by simp at e
 | x :: xs, _, v, ⟨u, r, rfl, a, b⟩, e => by
  obtain ⟨y, w⟩ := x
  rw [List.lookup_cons] at e
  unfold valueAt
  rw [List.find?_cons]
  by_cases q : k = y
  ·subst q
   simp only [beq_self_eq_true, Option.some.injEq] at e
   subst e
   exact ⟨u, by simp, a⟩
  ·have q1 : (k == y) = false := by simpa using q
   rw [q1] at e
   obtain ⟨v', h1, h2⟩ := DR.lookup b e
   refine ⟨v', ?_, h2⟩
   have q2 : decide (y = k) = false := by simpa using fun e => q e.symm
   dsimp only
   rw [q2]
   exact h1
theorem DR.lookupNone {K : Type} [DecidableEq K] {k : K} : ∀ {es : List (K × V)} {kvs : List (K × Value)}, DR φ h es kvs → es.lookup k = none → valueAt kvs k = none
 | [], _, e, _ => by cases e; rfl
 | x :: xs, _, ⟨u, r, rfl, a, b⟩, e => by
  obtain ⟨y, w⟩ := x
  rw [List.lookup_cons] at e
  by_cases q : k = y
  ·subst q; simp at e
  ·have q1 : (k == y) = false := by simpa using q
   rw [q1] at e
   have := DR.lookupNone b e
   unfold valueAt at this ⊢
   rw [List.find?_cons]
   have q2 : decide (y = k) = false := by simpa using fun e => q e.symm
   dsimp only
   rw [q2]
   exact this
theorem DR.isSome {K : Type} [DecidableEq K] {k : K} {es : List (K × V)} {kvs : List (K × Value)} (e : DR φ h es kvs) : (valueAt kvs k).isSome = (es.lookup k).isSome := by
 cases q : es.lookup k with
 | none => rw [e.lookupNone q]; rfl
 | some v => obtain ⟨v', h1, _⟩ := e.lookup q; rw [h1]; rfl
theorem DR.length {K : Type} : ∀ {es : List (K × V)} {kvs : List (K × Value)}, DR φ h es kvs → kvs.length = es.length
 | [], _, e => by cases e; rfl
 | _ :: xs, _, ⟨u, r, rfl, a, b⟩ => by simp [DR.length b]
theorem DR.any {K : Type} [DecidableEq K] {k : K} : ∀ {es : List (K × V)} {kvs : List (K × Value)}, DR φ h es kvs → kvs.any (fun kv => decide (kv.1 = k)) = es.any (fun e => decide (e.1 = k))
 | [], _, e => by cases e; rfl
 | _ :: xs, _, ⟨u, r, rfl, a, b⟩ => by simp only [List.any_cons, DR.any b]
theorem DR.map {K : Type} [DecidableEq K] {k : K} {v : V} {v' : Value} (hv : VR φ h v v') : ∀ {es : List (K × V)} {kvs : List (K × Value)}, DR φ h es kvs → DR φ h (es.map (fun e => if e.1 = k then (e.1, v) else e)) (kvs.map (fun kv => if kv.1 = k then (kv.1, v') else kv))
 | [], _, e => by cases e; rfl
 | x :: xs, _, ⟨u, r, rfl, a, b⟩ => by
  simp only [List.map_cons]
  by_cases q : x.1 = k
  ·rw [if_pos q, if_pos q]; exact ⟨v', _, rfl, hv, DR.map hv b⟩
  ·rw [if_neg q, if_neg q]; exact ⟨u, _, rfl, a, DR.map hv b⟩
theorem DR.snoc {K : Type} {k : K} {v : V} {v' : Value} (hv : VR φ h v v') : ∀ {es : List (K × V)} {kvs : List (K × Value)}, DR φ h es kvs → DR φ h (es ++ [(k, v)]) (kvs ++ [(k, v')])
 | [], _, e => by cases e; exact ⟨v', [], rfl, hv, rfl⟩
 | x :: xs, _, ⟨u, r, rfl, a, b⟩ => ⟨u, _, rfl, a, DR.snoc hv b⟩
theorem DR.put {K : Type} [DecidableEq K] {k : K} {v : V} {v' : Value} (hv : VR φ h v v') {es : List (K × V)} {kvs : List (K × Value)} (e : DR φ h es kvs) : DR φ h (dput es k v) (stored kvs k v') := by
 unfold dput stored
 rw [e.any]
 split
 ·exact e.map hv
 ·exact e.snoc hv
theorem DR.del {K : Type} [DecidableEq K] {k : K} : ∀ {es : List (K × V)} {kvs : List (K × Value)}, DR φ h es kvs → DR φ h (ddel es k) (without kvs k)
 | [], _, e => by cases e; rfl
 | x :: xs, _, ⟨u, r, rfl, a, b⟩ => by
  have ih := DR.del (k := k) b
  unfold ddel without at ih ⊢
  simp only [List.filter_cons]
  by_cases q : decide (x.1 ≠ k) = true
  ·rw [if_pos q, if_pos q]; exact ⟨u, _, rfl, a, ih⟩
  ·rw [if_neg q, if_neg q]; exact ih
theorem in_case {σ : Hp} {s : Shared} {x y : V} {vx vy : Value} {b : Bool} {A : Around} {n : Nat} (hA : Room n A) (R : c.R φ σ s.heap) (hx : VR φ s.heap x vx) (hy : VR φ s.heap y vy) (e : inB x y σ = some b) :
  (∀ (Q : Value → Shared → Prop) E, (∀ t, Q (.bool b) { s with heap := s.heap, toks := t }) → wpAny c.M A (compareOp .In vx vy) Q E s) ∧ (∀ (Q : Value → Shared → Prop) E, (∀ t, Q (.bool (!b)) { s with heap := s.heap, toks := t }) → wpAny c.M A (compareOp .NotIn vx vy) Q E s) := by
 have hu := hA.units
 refine vc_t e nf nf ?_ ?_ nf nn <;> clear e
 ·rintro t rfl e; refine onStr_t e ?_; clear e; rintro u rfl e
  cases e
  unfold VR at hx hy
  obtain ⟨u, rfl⟩ := hx
  obtain ⟨w, rfl⟩ := hy
  exact ⟨fun Q E hq => PyProof.Rows.in_str (hq s.toks), fun Q E hq => PyProof.Rows.notIn_str (hq s.toks)⟩
 ·rintro m rfl e; refine onLD_t e (fun ys hσ e => ?_) (fun es hσ e => ?_)
  ·refine ob1 e fun da h1 e => ob1 e fun ds h2 e => ift e fun hs e => ?_
   cases e
   obtain ⟨as, ra⟩ := rd_reads R 5 x vx da hx h1
   unfold VR at hy
   obtain ⟨a, d, rfl, hp⟩ := hy
   obtain ⟨_, vs, hls, hl⟩ := R.objs m _ _ hσ hp
   obtain ⟨o, ho, hc, k, hd⟩ := hls.isList
   obtain ⟨bs, rb⟩ := rd_all (rd_reads R 5) ys vs ds hl h2
   have rl : Reads s.heap (.ref a) (.list ds) (a :: bs) := .list ho hc hd (by simpa using rb)
   have hroom : A.units + 1 + min (PyData.depthAll ds) (PyData.depth da) < cLine := by
    have := SeqAt.depth_of_shaped hs.1
    have : min (PyData.depthAll ds) (PyData.depth da) ≤ PyData.depth da := Nat.min_le_right _ _
    have h9 := hA.2.2
    unfold cLine
    exact om42 (by assumption) h9
   have hcl : PyData.canLayAll0 ds = true := by
    have := SeqAt.canLay_of_shaped hs.2
    simpa [PyData.canLay0] using this
   exact ⟨fun Q E hq => SeqAt.in_list_reads rl ra hcl (SeqAt.canLay_of_shaped hs.1) hroom (hq s.toks), fun Q E hq => SeqAt.notIn_list_reads rl ra hcl (SeqAt.canLay_of_shaped hs.1) hroom (hq s.toks)⟩
  ·refine onInt_t e ?_; clear e; rintro i rfl e
   cases e
   unfold VR at hx hy
   obtain ⟨t, rfl⟩ := hx
   obtain ⟨a, d, rfl, hp⟩ := hy
   obtain ⟨_, ns, kvs, hd, dr⟩ := R.objs m _ _ hσ hp
   have hs : (a == sysModules) = false := by simpa using ns
   refine ⟨fun Q E hq => wpAny_in_of (knd := intKind c.prog c.w) (k := i) (intKind_is _ _ _ _) hs hd.mapOf ?_, fun Q E hq => wpAny_notIn_of (knd := intKind c.prog c.w) (k := i) (intKind_is _ _ _ _) hs hd.mapOf ?_⟩
   ·rw [dr.isSome]; exact hq _
   ·rw [dr.isSome]; exact hq _
theorem op_in : Op2 c (compareOp .In) opIn := by
 intro n A φ σ s x y vx vy v σ' Q E hA R hx hy hf k
 unfold opIn at hf
 refine oq1 hf fun b h1 hf => ?_
 cases hf
 exact (in_case hA R hx hy h1).1 Q E fun t => k.here R vr_bool
theorem op_notIn : Op2 c (compareOp .NotIn) opNotIn := by
 intro n A φ σ s x y vx vy v σ' Q E hA R hx hy hf k
 unfold opNotIn at hf
 refine oq1 hf fun b h1 hf => ?_
 cases hf
 exact (in_case hA R hx hy h1).2 Q E fun t => k.here R vr_bool
theorem vr_none : VR φ h .none .none := by unfold VR; rfl
theorem upd1 {σ : Hp} {m : Nat} {a : Addr} {o' : O} (R : c.R φ σ h) (hp : φ[m]? = some (a, a)) (hs : Heap.SameBut a h h') (al : ∃ o, h'.get? a = some o)
  (ho : Step NoW φ h φ h' → OR c.prog c.w c.flds φ h' o' (a, a)) : c.R φ (σ.set m o') h' ∧ Step NoW φ h φ h' :=
 R.update hp (fun b o n1 _ e => (hs.2 b n1).trans e) (fun b hb => by rcases hb with rfl | rfl <;> exact al) (by rw [hs.1]; exact Nat.le_refl _) ho
theorem set_lst {σ : Hp} {m : Nat} {a : Addr} {ys : List V} {ws : List Value} (R : c.R φ σ h) (hp : φ[m]? = some (a, a)) (hs : Heap.SameBut a h h') (l : Lst h' a ws.toArray) (hv : VRL φ h ys ws) : c.R φ (σ.set m (.list ys)) h' ∧ Step NoW φ h φ h' :=
 upd1 R hp hs (let ⟨n, e⟩ := l; ⟨_, e⟩) fun S => ⟨rfl, ws, l, VRL.mono S (noSeq_no _) _ _ hv⟩
theorem set_idict {σ : Hp} {m : Nat} {a : Addr} {es : List (Int × V)} {kvs : List (Int × Value)} (ns : a ≠ sysModules) (R : c.R φ σ h) (hp : φ[m]? = some (a, a)) (hs : Heap.SameBut a h h') (l : h'.DictOf (intKind c.prog c.w) a kvs) (hv : DR φ h es kvs) : c.R φ (σ.set m (.idict es)) h' ∧ Step NoW φ h φ h' :=
 upd1 R hp hs (let ⟨o, _, _, e, _⟩ := l; ⟨_, e⟩) fun S => ⟨rfl, ns, kvs, l, DR.mono S (noSeq_no _) _ _ hv⟩
inductive lst_ref_O (φ : Phi) (h : Heap) (σ : Hp) (m : Nat) (xs : List V) (vv : Value) : Prop
 | mk (a : Addr) (vs : List Value) (_ : σ[m]? = some (.list xs)) (_ : vv = .ref a) (_ : φ[m]? = some (a, a)) (_ : Lst h a (List.toArray vs)) (_ : VRL φ h xs vs) : lst_ref_O φ h σ m xs vv
theorem lst_ref {σ : Hp} {m : Nat} {xs : List V} {vv : Value} (R : c.R φ σ h) (e : lst (.ref m) σ = some xs) (hv : VR φ h (.ref m) vv) : lst_ref_O φ h σ m xs vv := by
 obtain ⟨m', a, d, vs, e1, h1, rfl, hp, rfl, hl, hvs⟩ := lst_at R e hv
 cases e1
 exact ⟨d, vs, h1, rfl, hp, hl, hvs⟩
inductive idict_ref_O (c : Cx) (φ : Phi) (h : Heap) (m : Nat) (es : List (Int × V)) (vv : Value) : Prop
 | mk (a : Addr) (kvs : List (Int × Value)) (_ : vv = .ref a) (_ : φ[m]? = some (a, a)) (_ : h.DictOf (intKind c.prog c.w) a kvs) (_ : DR φ h es kvs) (_ : a ≠ sysModules) : idict_ref_O c φ h m es vv
theorem idict_ref {σ : Hp} {m : Nat} {es : List (Int × V)} {vv : Value} (R : c.R φ σ h) (e : σ[m]? = some (.idict es)) (hv : VR φ h (.ref m) vv) : idict_ref_O c φ h m es vv := by
 unfold VR at hv
 obtain ⟨a, d, rfl, hp⟩ := hv
 obtain ⟨q, ns, kvs, hd, dr⟩ := R.objs m _ _ e hp
 dsimp only at q hd ns
 subst q
 exact ⟨d, kvs, rfl, hp, hd, dr, ns⟩
inductive sdict_ref_O (c : Cx) (φ : Phi) (h : Heap) (m : Nat) (es : List (Str × V)) (vv : Value) : Prop
 | mk (a : Addr) (kvs : List (Str × Value)) (_ : vv = .ref a) (_ : φ[m]? = some (a, a)) (_ : h.DictOf (strKind c.prog c.w) a kvs) (_ : DR φ h es kvs) : sdict_ref_O c φ h m es vv
theorem sdict_ref {σ : Hp} {m : Nat} {es : List (Str × V)} {vv : Value} (R : c.R φ σ h) (e : σ[m]? = some (.sdict es)) (hv : VR φ h (.ref m) vv) : sdict_ref_O c φ h m es vv := by
 unfold VR at hv
 obtain ⟨a, d, rfl, hp⟩ := hv
 obtain ⟨q, kvs, hd, dr⟩ := R.objs m _ _ e hp
 dsimp only at q hd
 subst q
 exact ⟨d, kvs, rfl, hp, hd, dr⟩
theorem op_add : Op2 c (binaryOp .Add) opAdd := by
 intro n A φ σ s x y vx vy v σ' Q E hA R hx hy hf k
 refine onIR_t hf ?_ ?_ <;> clear hf
 ·rintro a rfl hf; refine onInt_t hf ?_; clear hf; rintro b rfl hf
  cases hf
  unfold VR at hx hy
  obtain ⟨t, rfl⟩ := hx
  obtain ⟨u, rfl⟩ := hy
  exact PyProof.Rows.add_int (k.here R vr_int)
 ·rintro n rfl hf; refine onRef_t hf ?_; clear hf; rintro m rfl hf
  refine ob1 hf fun xs h1 hf => ob1 hf fun ys h2 hf => ift hf fun hlen hf => ?_
  cases hf
  obtain ⟨a, vs, _, rfl, _, hl, hv⟩ := lst_ref R h1 hx
  obtain ⟨b, ws, _, rfl, _, hl', hv'⟩ := lst_ref R h2 hy
  obtain ⟨k1, e1⟩ := hl
  obtain ⟨k2, e2⟩ := hl'
  obtain ⟨R', S'⟩ := new_list R (hv.append hv')
  refine PySem.P.add_list e1 e2 ?_ (by simp only [List.size_toArray, hv.length, hv'.length]; exact big_le hlen)
  have := k _ _ s.toks (.ref s.heap.objs.size) S' R' (ref_new R)
  simpa using this
theorem op_mul : Op2 c (binaryOp .Mult) opMul := by
 intro n A φ σ s x y vx vy v σ' Q E hA R hx hy hf k
 refine onIR_t hf ?_ ?_ <;> clear hf
 ·rintro a rfl hf; refine onInt_t hf ?_; clear hf; rintro b rfl hf; refine ift hf fun hs hf => ?_
  cases hf
  rw [Bool.and_eq_true] at hs
  unfold VR at hx hy
  obtain ⟨t, rfl⟩ := hx
  obtain ⟨u, rfl⟩ := hy
  exact PyProof.Rows.mul_int (k.here R vr_int) (IntMulOk.of_left (small_bits hs.1))
 ·rintro m rfl hf; refine onInt_t hf ?_; clear hf; rintro i rfl hf
  refine ob1 hf fun xs h1 hf => ?_
  obtain ⟨a, vs, _, rfl, _, hl, hv⟩ := lst_ref R h1 hx
  unfold VR at hy
  obtain ⟨u, rfl⟩ := hy
  obtain ⟨k1, e1⟩ := hl
  have go : ∀ ys ws, VRL φ s.heap ys ws → -(2 ^ 63 : Int) ≤ i → i < 2 ^ 63 → (List.toArray vs).size * i.toNat ≤ 2 ^ 24 → List.foldl (fun x1 x2 => x1 ++ x2) #[] (List.replicate (if (List.toArray vs).isEmpty = true then 0 else i.toNat) (List.toArray vs)) = List.toArray ws →
    v = .ref σ.length → σ' = σ ++ [.list ys] → wpAny c.M A (binaryOp .Mult (.ref a) (.int i u)) Q E s := by
   rintro ys ws hv' hlo hhi hsz hw rfl rfl
   obtain ⟨R', S'⟩ := new_list R hv'
   refine wpAny_binaryOp_repeat_ref (T := "list") (U := "int") (by decide) ⟨_, e1, rfl⟩ (fun s' => typeIs_int s' i u) noFill_list_mul F.fills_int_mul F.slot_int_rmul repeat_list F.slot_int_index.lookup
    (call_meets F.slot_int_rmul (typeIs_int s i u) F.entry_int_rmul (F.args_int_rmul_2 _ _) (int___rmul___int_list i u a (List.toArray vs) k1)
     ⟨e1, rfl, ⟨_, e1, rfl⟩, call_meets F.slot_list_mul ⟨_, e1, rfl⟩ F.entry_list_mul (F.args_list_mul_2 _ _)
      (AutoListH.list___mul___list_int_3 a (List.toArray vs) k1 i u (by simp [Builtin.List.listFitsIndex]; exact om43 hlo hhi) (om44 hsz) (by simp [Builtin.List.listTooLong, sizeLine]; simp at hsz; exact hsz))
      ⟨e1, ?_⟩⟩)
   rw [hw]
   exact k _ _ s.toks (.ref s.heap.objs.size) S' R' (ref_new R)
  split at hf
  ·rename_i hi
   cases hf
   subst hi
   exact go [] [] VRL.nil (by decide) (by decide) (by simp) (by simp) rfl rfl
  ·refine ift hf fun hi hf => ?_
   cases hf
   obtain ⟨rfl, hb⟩ := hi
   refine go xs vs hv (by decide) (by decide) (by rw [List.size_toArray, hv.length]; unfold big at hb; simp only [Int.toNat_one, Nat.mul_one]; exact om45 hb) ?_ rfl rfl
   cases vs with
   | nil => rfl
   | cons v r => simp
theorem idx_some {xs : List V} {i : Int} {x : V} (e : idx xs i = some x) : (0 ≤ i ∧ i ≤ 1000000000 ∧ xs[i.toNat]? = some x) ∨ (i < 0 ∧ -1000000000 ≤ i ∧ -(xs.length : Int) ≤ i ∧ xs[(i + xs.length).toNat]? = some x) := by
 unfold idx at e
 split at e
 ·rename_i q; exact .inl ⟨q.1, q.2, e⟩
 ·refine ift e fun _ e => ?_
  rename_i q; exact .inr ⟨q.2.1, q.1, q.2.2, e⟩
theorem slot_getitem_dict : typeLookup (.type "dict") "__getitem__" = pure (some (.builtin "dict.__getitem__")) := slot_dict_getitem.lookup
theorem op_item {value slice : Expr} (hs : ∀ o i, subscripted slice false o i = operate [o, i] (getItem o i)) : Op2 c (subscriptTail value slice) opItem := by
 intro n A φ σ s x y vx vy v σ' Q E hA R hx hy hf k
 unfold opItem at hf
 refine onTR_t hf ?_ ?_ <;> clear hf
 ·rintro xs rfl hf; refine onInt_t hf ?_; clear hf; rintro i rfl hf
  refine ift hf fun hb hf => ?_
  refine oq1 hf fun u h1 hf => ?_
  cases hf
  unfold VR at hx hy
  obtain ⟨t, vs, rfl, ht, nt, hv⟩ := hx
  obtain ⟨tk, rfl⟩ := hy
  have hlen := hv.length
  rcases idx_some h1 with ⟨a1, a2, a3⟩ | ⟨a1, a2, a3, a4⟩
  ·obtain ⟨w, b1, b2⟩ := VRL.get hv a3
   have hlt : i.toNat < vs.length := (List.getElem?_eq_some_iff.mp b1).1
   refine tail_any ht.typeIs slot_tuple_getitem.lookup (PyProof.Rows.getItem_tuple (j := i.toNat) ht (om46 a1) (om47 a2) ?_ (by simpa using b1) (k.here (t := s.toks) R b2)) (hs _ _)
   simp only [List.size_toArray]
   unfold seqIndex?
   rw [if_neg (show ¬ i < 0 by exact om48 a1)]
   exact if_pos (by simp only [Bool.and_eq_true, decide_eq_true_eq]; exact om49 a1 hlt)
  ·obtain ⟨w, b1, b2⟩ := VRL.get hv a4
   have hlt : (i + xs.length).toNat < vs.length := (List.getElem?_eq_some_iff.mp b1).1
   refine tail_any ht.typeIs slot_tuple_getitem.lookup (PyProof.Rows.getItem_tuple (j := (i + xs.length).toNat) ht (om50 a2) (om51 a1) ?_ (by simpa using b1) (k.here (t := s.toks) R b2)) (hs _ _)
   rw [seqIndex_neg a1 (by rw [List.size_toArray]; exact om52 hlen a3), List.size_toArray, hlen]
 ·rintro m rfl hf; refine onIS_t hf ?_ ?_ <;> clear hf
  ·rintro i rfl hf; refine onLD_t hf ?_ ?_ <;> clear hf
   ·rintro xs hσ hf
    refine oq1 hf fun u h1 hf => ?_
    cases hf
    obtain ⟨a, vs, _, rfl, _, hl, hv⟩ := lst_ref R (m := m) (xs := xs) (lst_of hσ) hx
    unfold VR at hy
    obtain ⟨tk, rfl⟩ := hy
    have hlen := hv.length
    rcases idx_some h1 with ⟨a1, a2, a3⟩ | ⟨a1, a2, a3, a4⟩
    ·obtain ⟨w, b1, b2⟩ := VRL.get hv a3
     exact tail_any hl.isList.typeIs slot_list_getitem.lookup (wpAny_getItem_list hl.isList a1 (om47 a2) (by simpa using b1) (k.here (t := s.toks) R b2)) (hs _ _)
    ·obtain ⟨w, b1, b2⟩ := VRL.get hv a4
     exact tail_any hl.isList.typeIs slot_list_getitem.lookup (wpAny_getItem_list_neg hl.isList a1 (by rw [List.size_toArray]; exact om52 hlen a3) (om50 a2) (by rw [List.size_toArray, hlen]; simpa using b1) (k.here (t := s.toks) R b2)) (hs _ _)
   ·rintro es hσ hf
    refine oq1 hf fun u h1 hf => ?_
    cases hf
    obtain ⟨a, kvs, rfl, _, hd, dr, _⟩ := idict_ref R hσ hx
    unfold VR at hy
    obtain ⟨tk, rfl⟩ := hy
    obtain ⟨w, b1, b2⟩ := dr.lookup h1
    exact tail_any hd.typeIs slot_getitem_dict (wpAny_getItem_of (knd := intKind c.prog c.w) (k := i) (intKind_is _ _ _ _) hd.mapOf b1 (k.here R b2)) (hs _ _)
  ·rintro i rfl hf; refine onSd_t hf ?_; clear hf; rintro es hσ hf
   refine oq1 hf fun u h1 hf => ?_
   cases hf
   obtain ⟨a, kvs, rfl, _, hd, dr⟩ := sdict_ref R hσ hx
   unfold VR at hy
   obtain ⟨tk, rfl⟩ := hy
   obtain ⟨w, b1, b2⟩ := dr.lookup h1
   exact tail_any hd.typeIs slot_getitem_dict (wpAny_getItem_of (knd := strKind c.prog c.w) (k := i) (strKind_is _ _ _ _) hd.mapOf b1 (k.here R b2)) (hs _ _)
section
variable {prog : Program} {w : World} {A : Around} {E : Value → Shared → Prop} {s : Shared}
theorem setItem_neg {l : Addr} {items : Array Value} {k : Int} {t : Tok} {v : Value} {Q : Unit → Shared → Prop} (hl : Lst s.heap l items)
  (h0 : k < 0) (h1 : -(items.size : Int) ≤ k) (hfit : -(2 ^ 63) ≤ k)
  (hQ : ∀ h', Lst h' l (items.setIfInBounds (k + items.size).toNat v) → Heap.SameBut l s.heap h' → Q () { s with heap := h' }) :
  wpAny (model prog w) A (setItem (.ref l) (.int k t) v) Q E s := by
 obtain ⟨o, ho, hc, ne, hd⟩ := hl.isList
 unfold setItem
 try with_reducible refine wpAny_holding ?_
 first | refine wpAny_bind (wpAny_pure ?_) | skip
 refine wpAny_bind (wpAny_sequenceKey hl.isList.typeIs (by decide) ?_)
 refine wpAny_bind (wpAny_callSpecial?_slot (name := Str.ofString "__setitem__") hl.isList.typeIs slot_list_setitem
  (wpAny_call_entry slot_list_setitem hl.isList.typeIs entry_list_setitem ?_ (args_list_setitem _ _ _)))
 show wpAny _ _ (Builtin.List.listSubscript? (.int k t) >>= _) _ _ s
 refine wpAny_bind (wpAny_listSubscript_int (fitsIndex_neg h0 hfit) ?_)
 clear hfit
 have hidx := seqIndex_neg h0 h1
 obtain ⟨j, rfl⟩ : ∃ j : Nat, k = Int.negSucc j := by
  cases k with
  | ofNat n => exact absurd h0 (Int.not_lt.mpr (Int.natCast_nonneg n))
  | negSucc n => exact ⟨n, rfl⟩
 have hlt : (Int.negSucc j + (items.size : Int)).toNat < items.size := by omega
 show wpAny _ _ ((Builtin.List.listItems (.ref l) >>= fun xs => pure ((seqIndex? (Int.negSucc j) xs.size).bind fun i => xs[i]?.map (i, ·))) >>= _) _ _ s
 refine wpAny_bind (wpAny_bind ?_)
 show wpAny _ _ (seqItems? (.ref l) >>= _) _ _ s
 refine wpAny_bind (wpAny_seqItems ho hd (wpAny_pure (wpAny_pure ?_)))
 rw [hidx]
 simp only [Option.bind_some, Array.getElem?_eq_getElem hlt, Option.map_some]
 show wpAny _ _ (setSeqItemAt l (Int.negSucc j + (items.size : Int)).toNat v >>= _) _ _ s
 refine wpAny_bind (wpAny_setSeqItemAt ho hd ?_)
 first
  | exact wpAny_bind (wpAny_pure (wpAny_pure ⟨.none, rfl, wpAny_pure (hQ _ (hl.upd _) (Heap.SameBut.update ..))⟩))
  | exact wpAny_pure ⟨.none, rfl, wpAny_pure (hQ _ (hl.upd _) (Heap.SameBut.update ..))⟩
theorem setItem_nat {l : Addr} {items : Array Value} {k : Int} {t : Tok} {v : Value} {Q : Unit → Shared → Prop} (hl : Lst s.heap l items)
  (h0 : 0 ≤ k) (hfit : k < 2 ^ 63) (hn : k < items.size)
  (hQ : ∀ h', Lst h' l (items.setIfInBounds k.toNat v) → Heap.SameBut l s.heap h' → Q () { s with heap := h' }) :
  wpAny (model prog w) A (setItem (.ref l) (.int k t) v) Q E s := by
 obtain ⟨o, ho, hc, ne, hd⟩ := hl.isList
 unfold setItem
 try with_reducible refine wpAny_holding ?_
 first | refine wpAny_bind (wpAny_pure ?_) | skip
 refine wpAny_bind (wpAny_sequenceKey hl.isList.typeIs (by decide) ?_)
 refine wpAny_bind (wpAny_callSpecial?_slot (name := Str.ofString "__setitem__") hl.isList.typeIs slot_list_setitem
  (wpAny_call_entry slot_list_setitem hl.isList.typeIs entry_list_setitem ?_ (args_list_setitem _ _ _)))
 show wpAny _ _ (Builtin.List.listSubscript? (.int k t) >>= _) _ _ s
 refine wpAny_bind (wpAny_listSubscript_int (fitsIndex_of h0 hfit) ?_)
 clear hfit
 obtain ⟨j, rfl⟩ := Int.eq_ofNat_of_zero_le h0
 have hj : j < items.size := by exact om53 hn
 have hx' : items[j]? = some items[j] := Array.getElem?_eq_getElem hj
 show wpAny _ _ ((seqItemAt l j >>= fun r => pure (r.map (j, ·))) >>= _) _ _ s
 refine wpAny_bind (wpAny_bind (wpAny_seqItemAt ho hd (wpAny_pure ?_)))
 rw [hx']
 show wpAny _ _ (setSeqItemAt l j v >>= _) _ _ s
 refine wpAny_bind (wpAny_setSeqItemAt ho hd ?_)
 first
  | exact wpAny_bind (wpAny_pure (wpAny_pure ⟨.none, rfl, wpAny_pure (hQ _ (hl.upd _) (Heap.SameBut.update ..))⟩))
  | exact wpAny_pure ⟨.none, rfl, wpAny_pure (hQ _ (hl.upd _) (Heap.SameBut.update ..))⟩
theorem listItems_ {M : Model} {A : Around} {E : Value → Shared → Prop} {s : Shared} {l : Addr} {items : Array Value} {Q : Array Value → Shared → Prop} (hl : Lst s.heap l items) (h : Q items s) : wpAny M A (Builtin.List.listItems (.ref l)) Q E s := by
 obtain ⟨o, ho, hc, ne, hd⟩ := hl.isList
 unfold Builtin.List.listItems
 exact wpAny_bind (wpAny_seqItems ho hd (wpAny_pure h))
theorem listAllItems_ {M : Model} {A : Around} {E : Value → Shared → Prop} {s : Shared} {l : Addr} {items : Array Value} {msg : String} {Q : Array Value → Shared → Prop} (hl : Lst s.heap l items) (h : Q items s) : wpAny M A (Builtin.List.listAllItems (.ref l) msg) Q E s := by
 unfold Builtin.List.listAllItems
 refine wpAny_bind (wpAny_typeOf hl.isList.typeIs ?_)
 rw [if_pos (by decide)]
 exact listItems_ hl h
theorem setItem_slice {l sl r : Addr} {items items2 : Array Value} {vl vu : Value} {lo hi : Option Int} {a b : Nat} {Q : Unit → Shared → Prop} (hl : Lst s.heap l items) (hr : Lst s.heap r items2) (hne : (l == r) = false)
  (hs : s.heap.IsSliceOf sl vl vu .none) (pl : IsPart vl lo) (pu : IsPart vu hi) (hb : sliceBounds lo hi none items.size = ((a : Int), (b : Int), 1)) (hsz : items.size + items2.size ≤ sizeLine)
  (hQ : ∀ h', Lst h' l (items.extract 0 a ++ items2 ++ items.extract (max a b) items.size) → Heap.SameBut l s.heap h' → Q () { s with heap := h' }) (hz : (items.extract 0 a ++ items2 ++ items.extract (max a b) items.size).size ≤ sizeLine + 1) :
  wpAny (model prog w) A (setItem (.ref l) (.ref sl) (.ref r)) Q E s := by
 obtain ⟨o, ho, hc, ne, hd⟩ := hl.isList
 obtain ⟨o2, ho2, hc2, ne2, hd2⟩ := hr.isList
 obtain ⟨os, hos, hcs, hds⟩ := id hs
 have hTs : s.TypeIs (.ref sl) "slice" := ⟨os, hos, hcs⟩
 unfold setItem
 try with_reducible refine wpAny_holding ?_
 first | refine wpAny_bind (wpAny_pure ?_) | skip
 refine wpAny_bind (wpAny_sequenceKey hl.isList.typeIs (by decide) ?_)
 refine wpAny_bind (wpAny_callSpecial?_slot (name := Str.ofString "__setitem__") hl.isList.typeIs slot_list_setitem
  (wpAny_call_entry slot_list_setitem hl.isList.typeIs entry_list_setitem ?_ (args_list_setitem _ _ _)))
 show wpAny _ _ (Builtin.List.listSubscript? (.ref sl) >>= _) _ _ s
 refine wpAny_bind ?_
 unfold Builtin.List.listSubscript?
 refine wpAny_bind (wpAny_specialOf hTs slice_no_index ?_)
 simp only [Option.isNone_none, if_true]
 refine wpAny_pure ?_
 show wpAny _ _ (typeOf (.ref sl) >>= _) _ _ s
 refine wpAny_bind (wpAny_typeOf hTs ?_)
 rw [if_neg (by decide)]
 rw [listSliceParts_eq]
 refine wpAny_bind (wpAny_bind (wpAny_field hos hds (x := Value.none) rfl (wpAny_bind (wpAny_listPart .none ?_))))
 rw [if_neg (by decide)]
 refine wpAny_bind (wpAny_field hos hds (x := vl) rfl (wpAny_bind (wpAny_listPart pl ?_)))
 refine wpAny_bind (wpAny_field hos hds (x := vu) rfl (wpAny_bind (wpAny_listPart pu (wpAny_pure ?_))))
 dsimp only
 have e1 : Builtin.List.listSameRef (.ref l) (.ref r) = false := hne
 rw [e1, if_neg Bool.false_ne_true]
 refine wpAny_bind (listAllItems_ hr ?_)
 refine wpAny_bind (listItems_ hl ?_)
 refine wpAny_bind (wpAny_of_eq ((sliceIndices_raw lo hi none items.size (by simp)).trans (by rw [hb])) ?_)
 dsimp only
 rw [if_pos (by decide)]
 refine wpAny_bind (wpAny_rule ?_)
 rw [if_neg (by unfold Builtin.List.listTooLong; simp only [decide_eq_true_eq]; exact om54 hsz)]
 show wpAny _ _ (updateSeq l (fun xs => xs.extract 0 ((a : Nat) : Int).toNat ++ items2 ++ xs.extract (max ((a : Nat) : Int) ((b : Nat) : Int)).toNat xs.size) >>= _) _ _ s
 have em : (max ((a : Nat) : Int) ((b : Nat) : Int)).toNat = max a b := by exact om55
 have e2 : (((a : Nat) : Int).toNat) = a := rfl
 rw [em, e2]
 refine wpAny_bind (wpAny_updateSeq ho hd ?_ (hz := by exact om56 hsz) (_hz' := hz))
 refine wpAny_bind (wpAny_letGo ?_)
 exact wpAny_pure ⟨.none, rfl, wpAny_pure (hQ _ (hl.upd _) (Heap.SameBut.update ..))⟩
end
theorem toArr_set (vs : List Value) (i : Nat) (v : Value) : (List.toArray vs).setIfInBounds i v = List.toArray (vs.set i v) := by simp
theorem op_set : OpU3 c setItem opSet := by
 intro n A φ σ s x y z vx vy vz σ' Q E hA R hx hy hz hf k
 refine onRef_t hf ?_; clear hf; rintro m rfl hf; refine onInt_t hf ?_; clear hf; rintro i rfl hf
 unfold VR at hy
 obtain ⟨tk, rfl⟩ := hy
 refine onLD_t hf ?_ ?_ <;> clear hf
 ·intro xs hσ hf
  obtain ⟨a, vs, _, rfl, hp, hl, hv⟩ := lst_ref R (m := m) (xs := xs) (lst_of hσ) hx
  have hlen := hv.length
  split at hf
  ·rename_i hi
   refine ift hf fun hlt hf => ?_
   cases hf
   refine setItem_nat hl hi.1 (om57 hi) (by rw [List.size_toArray]; exact om58 hlen hlt) fun h' l' hs => ?_
   rw [toArr_set] at l'
   obtain ⟨R', S'⟩ := set_lst R hp hs l' (VRL.set i.toNat hv hz)
   exact k φ h' s.toks S' R'
  ·refine ift hf fun hi hf => ?_
   cases hf
   refine setItem_neg hl hi.2.1 (by rw [List.size_toArray]; exact om59 hlen hi) (om60 hi) fun h' l' hs => ?_
   rw [toArr_set, List.size_toArray, hlen] at l'
   obtain ⟨R', S'⟩ := set_lst R hp hs l' (VRL.set (i + xs.length).toNat hv hz)
   exact k φ h' s.toks S' R'
 ·intro es hσ hf
  refine ift hf fun hb hf => ?_
  cases hf
  obtain ⟨a, kvs, rfl, hp, hd, dr, ns⟩ := idict_ref R hσ hx
  refine wpAny_setItem_pairs (knd := intKind c.prog c.w) (k := i) (intKind_is _ _ _ _) hd (fun h' hd' hs => ?_) (by rw [dr.length]; exact big_le hb)
  obtain ⟨R', S'⟩ := set_idict ns R hp hs hd' (dr.put hz)
  exact k φ h' _ S' R'
inductive lst2_at_O (φ : Phi) (h : Heap) (xs : List V) (vv : Value) : Prop
 | mk (a : Addr) (vs : List Value) (_ : vv = .ref a) (_ : h.IsList a (List.toArray vs)) (_ : VRL φ h xs vs) : lst2_at_O φ h xs vv
theorem lst2_at {σ : Hp} {v : V} {xs : List V} {vv : Value} (R : c.R φ σ h) (e : lst2 v σ = some xs) (hv : VR φ h v vv) : lst2_at_O φ h xs vv := by
 refine onRef_t e ?_; clear e; rintro m rfl e
 unfold VR at hv
 obtain ⟨a, d, rfl, hp⟩ := hv
 refine oc_t e ?_ ?_ nf nf (fun _ => nf) <;> clear e
 ·intro ys hσ e
  cases e
  obtain ⟨q, vs, hl, hvs⟩ := R.objs m _ _ hσ hp
  exact ⟨a, vs, rfl, hl.isList, hvs⟩
 ·intro ob ys hσ e
  cases e
  obtain ⟨q, _, vs, hl, hvs⟩ := R.objs m _ _ hσ hp
  exact ⟨a, vs, rfl, hl, hvs⟩
theorem SE.sliceTo {value upper : Expr} {p pos : Pos} {f g : Fn} (hx : SE c sc nm n value f) (hu : SE c sc nm n upper g) : SE c sc nm n (.Subscript value (.Slice Option.none (some upper) Option.none p) pos) (bin2 opTo f g) := by
 intro A env φ ρ σ s v σ' Q E he hA F R hf k
 unfold bin2 at hf
 refine ob2 hf fun v₁ σ₁ h1 hf => ?_
 refine ob2 hf fun v₂ σ₂ h2 hf => ?_
 refine onInt_t hf ?_; clear hf; rintro i rfl hf
 refine ob1 hf fun xs h3 hf => ift hf fun hb hf => ?_
 cases hf
 refine Subscript_ ?_
 refine hx A env φ ρ σ s v₁ σ₁ _ E he hA F R h1 fun φ₁ h₁ t₁ a S₁ R₁ va => ?_
 refine wpAny_Slice ?_
 rw [evalPart_none, evalPart_some]
 refine wpAny_pure ?_
 refine hu A env φ₁ ρ σ₁ _ _ _ _ E he hA (F.exprStep S₁) R₁ h2 fun φ₂ h₂ t₂ b S₂ R₂ vb => ?_
 refine wpAny_pure ?_
 obtain ⟨l, vs, rfl, hl, hv⟩ := lst2_at R₂ h3 (VR.mono S₂ (noSeq_no _) _ _ va)
 unfold VR at vb
 obtain ⟨tk, rfl⟩ := vb
 obtain ⟨iN, rfl⟩ := Int.eq_ofNat_of_zero_le hb.1
 have S₃ := (S₁.trans S₂).trans (push_step (φ := φ₂) (h := h₂) { cls := .type "slice", data := .fields #[.none, .int (iN : Int) tk, .none] })
 have R₃ := push_R R₂ { cls := .type "slice", data := .fields #[.none, .int (iN : Int) tk, .none] }
 have hv₃ := VRL.mono (push_step (φ := φ₂) (h := h₂) { cls := .type "slice", data := .fields #[.none, .int (iN : Int) tk, .none] }) (noSeq_no _) _ _ (VRL.take iN hv)
 obtain ⟨R₄, S₄⟩ := new_list R₃ hv₃
 refine tail_any (hl.push _).typeIs slot_list_getitem.lookup (wpAny_getItem_list_slice (hl.push _) (Heap.IsSliceOf.new ..) .none (.int _ _) .none (by simp) ?_ (by rw [List.size_toArray, hv.length]; exact big_le hb.2.2)) rfl
 rw [slicePick_upto']
 exact k _ _ t₂ (.ref _) (S₃.trans S₄) R₄ (ref_new R₃)
theorem cut_ne {σ : Hp} {h : Heap} {m m' : Nat} {a b : Addr} (R : c.R φ σ h) (e1 : φ[m]? = some (a, a)) (e2 : φ[m']? = some (b, b)) (e3 : m ≠ m') : (a == b) = false := by
 have := (Phi.sep R.apart e1 e2 e3).1
 simpa using this
theorem cut_run {σ σ' : Hp} {s : Shared} {x y lo hi : V} {vx vy va vb : Value} {A : Around} {Q : Unit → Shared → Prop} {E : Value → Shared → Prop} {sl : Addr} (R : c.R φ σ s.heap) (hx : VR φ s.heap x vx) (hy : VR φ s.heap y vy)
  (hlo : VR φ s.heap lo va) (hhi : VR φ s.heap hi vb) (hs : s.heap.IsSliceOf sl va vb .none)
  (hf : opCut x lo hi y σ = some σ') (k : ∀ h', Step NoW φ s.heap φ h' → c.R φ σ' h' → Q () { s with heap := h' }) : wpAny c.M A (setItem vx (.ref sl) vy) Q E s := by
 refine onRef_t hf ?_; clear hf; rintro m rfl hf; refine on2_t hf ?_; clear hf; rintro i j rfl rfl hf
 refine ob1 hf fun xs h1 hf => ob1 hf fun ys h2 hf => ift hf fun hb hf => ?_
 cases hf
 obtain ⟨a, vs, _, rfl, hp, hl, hv⟩ := lst_ref R h1 hx
 obtain ⟨m', b, d, ws, rfl, _, rfl, hp', rfl, hl', hv'⟩ := lst_at R h2 hy
 unfold VR at hlo hhi
 obtain ⟨t1, rfl⟩ := hlo
 obtain ⟨t2, rfl⟩ := hhi
 have hmm : m ≠ m' := fun q => hb.2.2.2.2 (congrArg some q.symm)
 have hlen := hv.length
 have hlen' := hv'.length
 have hbig := hb.2.2.2.1
 have hbig2 := big_le hbig
 obtain ⟨iN, rfl⟩ := Int.eq_ofNat_of_zero_le hb.1
 obtain ⟨jN, rfl⟩ := Int.eq_ofNat_of_zero_le (show 0 ≤ j by exact om61 hb)
 have e1 : (List.toArray vs).extract 0 iN ++ List.toArray ws ++ (List.toArray vs).extract (max iN jN) (List.toArray vs).size = List.toArray (vs.take iN ++ ws ++ vs.drop jN) := by
  have : max iN jN = jN := by exact om62 hb
  rw [this]
  apply Array.toList_inj.mp
  simp
  rw [List.take_of_length_le (by simp)]
 refine setItem_slice (a := iN) (b := jN) hl hl' (cut_ne R hp hp' hmm) hs (.int _ _) (.int _ _) ?_ (by rw [List.size_toArray, List.size_toArray, hlen, hlen']; exact hbig2) (fun h' l' hs' => ?_) (by rw [e1, List.size_toArray]; simp only [List.length_append, List.length_take, List.length_drop]; exact om63 hlen hlen' hbig2 hb)
 ·rw [sliceBounds_plain]
  simp only [Option.elim, clipAt_nat, List.size_toArray, hlen]
  rw [Nat.min_eq_left (om64 hb), Nat.min_eq_left (om65 hb)]
 ·rw [e1] at l'
  obtain ⟨R', S'⟩ := set_lst R hp hs' l' (VRL.append (VRL.append (VRL.take iN hv) hv') (VRL.drop jN hv))
  exact k h' S' R'
theorem cut_run0 {σ σ' : Hp} {s : Shared} {x y : V} {vx vy : Value} {A : Around} {Q : Unit → Shared → Prop} {E : Value → Shared → Prop} {sl : Addr} (R : c.R φ σ s.heap) (hx : VR φ s.heap x vx) (hy : VR φ s.heap y vy) (hs : s.heap.IsSliceOf sl .none .none .none)
  (hf : opCut0 x y σ = some σ') (k : ∀ h', Step NoW φ s.heap φ h' → c.R φ σ' h' → Q () { s with heap := h' }) : wpAny c.M A (setItem vx (.ref sl) vy) Q E s := by
 refine onRef_t hf ?_; clear hf; rintro m rfl hf
 refine ob1 hf fun xs h1 hf => ob1 hf fun ys h2 hf => ift hf fun hb hf => ?_
 cases hf
 obtain ⟨a, vs, _, rfl, hp, hl, hv⟩ := lst_ref R h1 hx
 obtain ⟨m', b, d, ws, rfl, _, rfl, hp', rfl, hl', hv'⟩ := lst_at R h2 hy
 have hmm : m ≠ m' := fun q => hb.2 (congrArg some q.symm)
 have hlen := hv.length
 have hlen' := hv'.length
 have hbig2 := big_le hb.1
 have e1 : (List.toArray vs).extract 0 0 ++ List.toArray ws ++ (List.toArray vs).extract (max 0 xs.length) (List.toArray vs).size = List.toArray ws := by
  apply Array.toList_inj.mp
  simp
  exact om66 hlen
 refine setItem_slice (a := 0) (b := xs.length) hl hl' (cut_ne R hp hp' hmm) hs .none .none ?_ (by rw [List.size_toArray, List.size_toArray, hlen, hlen']; exact hbig2) (fun h' l' hs' => ?_) (by rw [e1, List.size_toArray]; exact om67 hlen' hbig2)
 ·rw [sliceBounds_plain]
  simp only [Option.elim, List.size_toArray, hlen]
 ·rw [e1] at l'
  obtain ⟨R', S'⟩ := set_lst R hp hs' l' hv'
  exact k h' S' R'
theorem SA.cut {x lo hi : Expr} {p pos : Pos} {f g g' : Fn} {W} (hx : SE c sc nm n x f) (hl : SE c sc nm n lo g) (hh : SE c sc nm n hi g') : SA c sc nm n W (.Subscript x (.Slice (some lo) (some hi) none p) pos) (cutA f g g') := by
 intro A env φ ρ σ s y v ρ' σ' Q E he hA F R hv hf k
 unfold cutA at hf
 refine ob2 hf fun v₁ σ₁ h1 hf => ?_
 refine ob2 hf fun v₂ σ₂ h2 hf => ?_
 refine ob2 hf fun v₃ σ₃ h3 hf => ?_
 refine oq1 hf fun σ₄ h4 hf => ?_
 cases hf
 show wpAny _ _ (holding [v] (eval x env) >>= fun ov => holding [v, ov] (eval (.Slice (some lo) (some hi) none p) env) >>= fun iv => standAt pos >>= fun _ => holding [v, ov, iv] (setItem ov iv v) >>= fun _ => release _ []) _ _ _
 refine wpAny_bind (wpAny_holding (hx A env φ ρ σ s v₁ σ₁ _ E he hA F R h1 fun φ₁ h₁ t₁ a S₁ R₁ va => ?_))
 refine wpAny_bind (wpAny_holding (wpAny_Slice ?_))
 rw [evalPart_none, evalPart_some, evalPart_some]
 refine hl A env φ₁ ρ σ₁ _ v₂ σ₂ _ E he hA (F.exprStep S₁) R₁ h2 fun φ₂ h₂ t₂ b S₂ R₂ vb => ?_
 refine hh A env φ₂ ρ σ₂ _ v₃ σ₃ _ E he hA (F.exprStep (S₁.trans S₂)) R₂ h3 fun φ₃ h₃ t₃ d S₃ R₃ vd => ?_
 refine wpAny_pure (wpAny_bind (wpAny_standAt (wpAny_bind (wpAny_holding ?_))))
 have S13 := (S₁.trans S₂).trans S₃
 have S₄ := push_step (φ := φ₃) (h := h₃) { cls := .type "slice", data := .fields #[b, d, .none] }
 have R₄ := push_R R₃ { cls := .type "slice", data := .fields #[b, d, .none] }
 have S14 := S13.trans S₄
 refine cut_run R₄ (VR.mono ((S₂.trans S₃).trans S₄) (noSeq_no _) _ _ va) (VR.mono S14 (noSeq_no _) _ _ hv) (VR.mono (S₃.trans S₄) (noSeq_no _) _ _ vb) (VR.mono S₄ (noSeq_no _) _ _ vd) (Heap.IsSliceOf.new ..) h4 fun h' S' R' => ?_
 exact wpAny_release (k _ _ _ ((S14.trans S').mono no_mono) R' (F.exprStep (S14.trans S')))
theorem SA.cut0 {x : Expr} {p pos : Pos} {f : Fn} {W} (hx : SE c sc nm n x f) : SA c sc nm n W (.Subscript x (.Slice none none none p) pos) (cutA0 f) := by
 intro A env φ ρ σ s y v ρ' σ' Q E he hA F R hv hf k
 unfold cutA0 at hf
 refine ob2 hf fun v₁ σ₁ h1 hf => ?_
 refine oq1 hf fun σ₄ h4 hf => ?_
 cases hf
 show wpAny _ _ (holding [v] (eval x env) >>= fun ov => holding [v, ov] (eval (.Slice none none none p) env) >>= fun iv => standAt pos >>= fun _ => holding [v, ov, iv] (setItem ov iv v) >>= fun _ => release _ []) _ _ _
 refine wpAny_bind (wpAny_holding (hx A env φ ρ σ s v₁ σ₁ _ E he hA F R h1 fun φ₁ h₁ t₁ a S₁ R₁ va => ?_))
 refine wpAny_bind (wpAny_holding (wpAny_Slice ?_))
 rw [evalPart_none]
 refine wpAny_pure (wpAny_pure (wpAny_pure (wpAny_bind (wpAny_standAt (wpAny_bind (wpAny_holding ?_))))))
 have S₄ := push_step (φ := φ₁) (h := h₁) { cls := .type "slice", data := .fields #[.none, .none, .none] }
 have R₄ := push_R R₁ { cls := .type "slice", data := .fields #[.none, .none, .none] }
 have S14 := S₁.trans S₄
 refine cut_run0 R₄ (VR.mono S₄ (noSeq_no _) _ _ va) (VR.mono S14 (noSeq_no _) _ _ hv) (Heap.IsSliceOf.new ..) h4 fun h' S' R' => ?_
 exact wpAny_release (k _ _ _ ((S14.trans S').mono no_mono) R' (F.exprStep (S14.trans S')))
theorem bt_len : bootBuiltins "len" = some (.builtin "len") := by decide +kernel
theorem bt_sum : bootBuiltins "sum" = some (.builtin "sum") := by decide +kernel
theorem bt_sorted : bootBuiltins "sorted" = some (.builtin "sorted") := by decide +kernel
theorem bt_ord : bootBuiltins "ord" = some (.builtin "ord") := by decide +kernel
theorem bt_tuple : bootBuiltins "tuple" = some (.type "tuple") := by decide +kernel
theorem bt_list : bootBuiltins "list" = some (.type "list") := by decide +kernel
theorem bt_dict : bootBuiltins "dict" = some (.type "dict") := by decide +kernel
theorem bt_int : bootBuiltins "int" = some (.type "int") := by decide +kernel
inductive vrl_one_O (φ : Phi) (h : Heap) (x : V) (vs : List Value) : Prop
 | mk (v : Value) (_ : vs = [v]) (_ : VR φ h x v) : vrl_one_O φ h x vs
theorem vrl_one {x : V} {vs : List Value} (e : VRL φ h [x] vs) : vrl_one_O φ h x vs := by
 unfold VRL at e; obtain ⟨v, r, rfl, a, b⟩ := e
 unfold VRL at b; subst b
 exact ⟨v, rfl, a⟩
inductive vrl_two_O (φ : Phi) (h : Heap) (x : V) (y : V) (vs : List Value) : Prop
 | mk (v : Value) (u : Value) (_ : vs = [v, u]) (_ : VR φ h x v) (_ : VR φ h y u) : vrl_two_O φ h x y vs
theorem vrl_two {x y : V} {vs : List Value} (e : VRL φ h [x, y] vs) : vrl_two_O φ h x y vs := by
 unfold VRL at e; obtain ⟨v, r, rfl, a, b⟩ := e
 obtain ⟨u, rfl, q⟩ := vrl_one b
 exact ⟨v, u, rfl, a, q⟩
inductive vrl_three_O (φ : Phi) (h : Heap) (x : V) (y : V) (z : V) (vs : List Value) : Prop
 | mk (v : Value) (u : Value) (w : Value) (_ : vs = [v, u, w]) (_ : VR φ h x v) (_ : VR φ h y u) (_ : VR φ h z w) : vrl_three_O φ h x y z vs
theorem vrl_three {x y z : V} {vs : List Value} (e : VRL φ h [x, y, z] vs) : vrl_three_O φ h x y z vs := by
 unfold VRL at e; obtain ⟨v, r, rfl, a, b⟩ := e
 obtain ⟨u, w, rfl, q, q'⟩ := vrl_two b
 exact ⟨v, u, w, rfl, a, q, q'⟩
theorem len_list {A : Around} {s : Shared} {prog : Program} {w : World} {E Q : Value → Shared → Prop} {l : Addr} {items : Array Value} (hl : s.heap.IsList l items) (hfit : (items.size : Int) < 2 ^ 63)
  (h : Q (.int items.size (s.toks + 1)) { s with toks := s.toks + 1 + 1 }) : wpAny (model prog w) A (call (.builtin "len") [.ref l]) Q E s := by
 refine Calls.call_function_entry kind_len plain_len entry_len (args_len1 _) ?_
 refine wpAny_mono (wpAny_len_body_list hl hfit (Q := Q) h) (fun fin s' h' => ?_) fun _ _ e => e
 obtain ⟨r, rfl, hq⟩ := h'
 exact ⟨r, rfl, hq⟩
theorem b_len : OpL c n (fun vs => call (.builtin "len") vs) bLen := by
 intro A φ σ s xs vxs v σ' Q E hA R hv hf k
 refine arg1_t hf ?_; clear hf; rintro _ rfl hf
 obtain ⟨v₁, rfl, hx⟩ := vrl_one hv
 refine vc_t hf nf nf ?_ ?_ ?_ nn <;> clear hf
 ·rintro x rfl hf; refine ift hf fun hb hf => ?_
  cases hf
  unfold VR at hx
  obtain ⟨t, rfl⟩ := hx
  have hbb : x.cps.size ≤ 1000000 := hb
  refine PyProof.Rows.len_str (by show ¬ (x.cps.size : Int) ≥ 2 ^ 63; exact om69 hbb) ?_
  exact k.here R vr_int
 ·rintro m rfl hf; refine ob1 hf fun ys h1 hf => ift hf fun hb hf => ?_
  cases hf
  obtain ⟨a, vs, _, rfl, _, hl, hvs⟩ := lst_ref R h1 hx
  have := hvs.length
  have hbb : ys.length ≤ 1000000 := hb
  refine len_list hl.isList (by rw [List.size_toArray]; exact om68 this hbb) ?_
  rw [List.size_toArray, this]
  exact k.here R vr_int
 ·rintro ys rfl hf; refine ift hf fun hb hf => ?_
  cases hf
  unfold VR at hx
  obtain ⟨a, vs, rfl, ht, _, hl⟩ := hx
  have := hl.length
  have hbb : ys.length ≤ 1000000 := hb
  refine PyProof.Rows.len_tuple ht (by rw [List.size_toArray]; exact om68 this hbb) ?_
  rw [List.size_toArray, this]
  exact k.here R vr_int
theorem b_tuple : OpL c n (fun vs => call (.type "tuple") vs) bTuple := by
 intro A φ σ s xs vxs v σ' Q E hA R hv hf k
 refine arg1_t hf ?_; clear hf; rintro _ rfl hf
 refine onTR_t hf ?_ ?_ <;> clear hf
 ·rintro xs rfl hf; cases hf
  obtain ⟨v₁, rfl, hx⟩ := vrl_one hv
  have hx' := hx
  unfold VR at hx
  obtain ⟨a, vs, rfl, ht, _, hl⟩ := hx
  exact call_tuple_tup ht (k.here (t := s.toks) R hx')
 ·rintro m rfl hf; refine ob1 hf fun ys h1 hf => ?_
  refine ift hf fun hb hf => ?_
  cases hf
  obtain ⟨v₁, rfl, hx⟩ := vrl_one hv
  obtain ⟨a, vs, _, rfl, _, hl, hvs⟩ := lst_ref R h1 hx
  refine with_size (call_tuple_list hl.isList (fun h' hk sz => ?_) (by rw [List.size_toArray, hvs.length]; exact big_le hb))
  have g : ∀ b o, s.heap.get? b = some o → (h'.push { cls := .type "tuple", data := .seq (List.toArray vs) }).get? b = some o := fun b o e => Heap.get?_push_of_some _ (hk b o e)
  have S : Step NoW φ s.heap φ (h'.push { cls := .type "tuple", data := .seq (List.toArray vs) }) := Step.grow g sz
  refine k _ _ s.toks _ S (R.grow g sz) ?_
  unfold VR
  refine ⟨_, vs, rfl, ⟨_, Heap.get?_push_size _ rfl, rfl, 0, rfl⟩, fun t => ?_, VRL.mono S (noSeq_no _) _ _ hvs⟩
  obtain ⟨o, e⟩ := R.alloc _ t
  have := hk _ _ e
  rw [push_fresh] at this; cases this
theorem new_listAt {σ : Hp} {xs : List V} {ws : List Value} {a : Addr} (R : c.R φ σ h) (k : ∀ b o, h.get? b = some o → h'.get? b = some o) (ha : h.objs.size ≤ a) (sz : h.objs.size ≤ h'.objs.size) (l : Lst h' a ws.toArray) (hv : VRL φ h xs ws) :
  c.R (φ ++ [(a, a)]) (σ ++ [.list xs]) h' ∧ Step NoW φ h (φ ++ [(a, a)]) h' :=
 R.alloc' k ha ha sz (let ⟨n, e⟩ := l; ⟨_, e⟩) (let ⟨n, e⟩ := l; ⟨_, e⟩) fun S => ⟨rfl, ws, l, VRL.mono S (noSeq_no _) _ _ hv⟩
theorem b_list : OpL c n (fun vs => call (.type "list") vs) bList := by
 intro A φ σ s xs vxs v σ' Q E hA R hv hf k
 refine arg1_t hf ?_; clear hf; rintro _ rfl hf
 refine onTR_t hf ?_ ?_ <;> clear hf
 ·rintro xs rfl hf
  refine ift hf fun hb hf => ?_
  cases hf
  obtain ⟨v₁, rfl, hx⟩ := vrl_one hv
  unfold VR at hx
  obtain ⟨a, vs, rfl, ⟨o, ho, hc, n1, hd⟩, _, hl⟩ := hx
  refine with_size (call_list_seq a (.inr rfl) ho hc hd (fun h' c' hk e sz => ?_) (by rw [List.size_toArray, hl.length]; exact big_le hb))
  obtain ⟨R', S'⟩ := new_listAt (a := s.heap.objs.size) R hk (Nat.le_refl _) sz ⟨c', e⟩ hl
  exact k _ _ s.toks _ S' R' (ref_new R)
 ·rintro m rfl hf; refine ob1 hf fun ys h1 hf => ?_
  refine ift hf fun hb hf => ?_
  cases hf
  obtain ⟨v₁, rfl, hx⟩ := vrl_one hv
  obtain ⟨a, vs, _, rfl, _, hls, hl⟩ := lst_ref R h1 hx
  obtain ⟨n1, e1⟩ := hls
  refine with_size (call_list_seq a (.inl rfl) e1 rfl rfl (fun h' c' hk e sz => ?_) (by rw [List.size_toArray, hl.length]; exact big_le hb))
  obtain ⟨R', S'⟩ := new_listAt (a := s.heap.objs.size) R hk (Nat.le_refl _) sz ⟨c', e⟩ hl
  exact k _ _ s.toks _ S' R' (ref_new R)
theorem b_int : OpL c n (fun vs => call (.type "int") vs) bInt := by
 intro A φ σ s xs vxs v σ' Q E hA R hv hf k
 refine arg1_t hf ?_; clear hf; rintro _ rfl hf
 obtain ⟨v₁, rfl, hx⟩ := vrl_one hv
 have hx' := hx
 refine vc_t hf ?_ ?_ nf nf nf nn <;> clear hf
 ·rintro b rfl hf; cases hf
  unfold VR at hx
  subst hx
  exact call_int_bool (k.here R vr_int)
 ·rintro i rfl hf; cases hf
  unfold VR at hx
  obtain ⟨t, rfl⟩ := hx
  exact call_int_int (k.here (t := s.toks) R hx')
theorem b_ord : OpL c n (fun vs => call (.builtin "ord") vs) bOrd := by
 intro A φ σ s xs vxs v σ' Q E hA R hv hf k
 unfold bOrd at hf
 refine arg1_t hf ?_; clear hf; rintro _ rfl hf; refine onStr_t hf ?_; rintro x rfl hf
 ·refine ift hf fun h1 hf => ?_
  cases hf
  obtain ⟨v₁, rfl, hx⟩ := vrl_one hv
  unfold VR at hx
  obtain ⟨t, rfl⟩ := hx
  refine ord_of_one (h1 : x.length = 1) ?_
  have e : x.cps.getD 0 0 = x.cps[0]?.getD 0 := by simp [Array.getD_eq_getD_getElem?]
  rw [e]
  exact k.here R vr_int
theorem ints_are : ∀ {xs : List V} {is : List Int} {vs : List Value}, vints xs = some is → VRL φ h xs vs → IntsAre vs is
 | [], is, vs, e, hv => by
  cases e
  unfold VRL at hv; subst hv
  exact .nil
 | x :: xs, is, vs, e, hv => by
  unfold VRL at hv
  obtain ⟨v, r, rfl, a, b⟩ := hv
  refine onInt_t e ?_; clear e; rintro i rfl e
  refine oq1 e fun js h1 e => ?_
  cases e
  unfold VR at a
  obtain ⟨t, rfl⟩ := a
  exact .cons _ _ (ints_are h1 b)
theorem b_sum : OpL c n (fun vs => call (.builtin "sum") vs) bSum := by
 intro A φ σ s xs vxs v σ' Q E hA R hv hf k
 unfold bSum at hf
 refine arg1_t hf ?_; clear hf; rintro _ rfl hf; refine onRef_t hf ?_; rintro m rfl hf
 ·refine ob1 hf fun ys h1 hf => ?_
  refine ob1 hf fun is h2 hf => ?_
  refine ift hf fun hb hf => ?_
  cases hf
  obtain ⟨v₁, rfl, hx⟩ := vrl_one hv
  obtain ⟨a, vs, _, rfl, _, hls, hl⟩ := lst_ref R h1 hx
  have hi := ints_are h2 hl
  obtain ⟨xs', e⟩ := hi.allInts.items
  have hl' := hls.isList
  rw [e] at hl'
  refine with_size (sum_intListG hA.handled hl' fun h' tk t' hk sz => ?_)
  have e2 : preSum (numAt xs') xs'.size = is.sum := by
   rw [preSum_eq, List.take_of_length_le (by simp), ← nums_intItems, ← e]
   show (numsOf vs).sum = _
   rw [hi.numsOf]
  rw [e2]
  exact k φ h' tk _ (Step.grow hk sz) (R.grow hk sz) vr_int
theorem strs_nil {vs : List Value} (e : VRL φ h [] vs) : StrsAre vs [] := by
 unfold VRL at e
 cases e
 exact StrsAre.nil
theorem strs_are : ∀ {ss : List Str} {vs : List Value}, VRL φ h (ss.map V.str) vs → StrsAre vs ss
 | [], vs, hv => strs_nil hv
 | x :: xs, vs, hv => by
  simp only [List.map_cons] at hv
  unfold VRL at hv
  obtain ⟨v, r, rfl, a, b⟩ := hv
  unfold VR at a
  obtain ⟨t, rfl⟩ := a
  exact .cons _ _ (strs_are b)
theorem vrl_strs {ss : List Str} {vs : List Value} (e : StrsAre vs ss) : VRL φ h (ss.map V.str) vs := by
 induction e with
 | nil => exact VRL.nil
 | cons => exact VRL.cons vr_str (by assumption)
theorem str_ext {x y : Str} (h : x.cps.toList = y.cps.toList) : x = y := by
 obtain ⟨⟨a⟩⟩ := x
 obtain ⟨⟨b⟩⟩ := y
 simpa using h
theorem sorted_two {x y : Str} {ss : List Str} (hp : ss.Perm [x, y]) (hs : sortedS ss = true) (hle : strLe x y = true) : ss = [x, y] := by
 have h2 : ss.length = 2 := hp.length_eq
 match ss, h2 with
 | [a, b], _ =>
  have hx : x ∈ [a, b] := hp.mem_iff.mpr (by simp)
  simp only [List.mem_cons, List.not_mem_nil, or_false] at hx
  rcases hx with rfl | rfl
  ·have := (List.perm_cons x).mp hp
   rw [List.perm_singleton.mp this]
  ·have h3 := (List.perm_cons x).mp ((List.Perm.swap a x []).trans hp)
   have := List.perm_singleton.mp h3
   cases this
   have h4 : (!PySem.Spec.ltCps x.cps.toList y.cps.toList && true) = true := hs
   rw [ltCps_eq] at h4
   unfold strLe at hle
   simp at h4 hle
   have := str_ext (List.le_antisymm hle h4)
   rw [this]
theorem b_sorted : OpL c n (fun vs => call (.builtin "sorted") vs) bSorted := by
 intro A φ σ s xs vxs v σ' Q E hA R hv hf k
 unfold bSorted at hf
 refine arg1_t hf ?_; rintro _ rfl hf; refine onRef_t hf ?_; rintro m rfl hf
 ·refine ob1 hf fun ys h1 hf => ?_
  obtain ⟨v₁, rfl, hx⟩ := vrl_one hv
  obtain ⟨a, vs, _, rfl, _, hls, hl⟩ := lst_ref R h1 hx
  have go : ∀ ss : List Str, ys = ss.map V.str → ss.length ≤ 2 → (∀ ss', ss'.Perm ss → sortedS ss' = true → ss' = ss) → v = .ref σ.length → σ' = σ ++ [.list ys] → wpAny c.M A (call (.builtin "sorted") [.ref a]) Q E s := by
   rintro ss rfl hlen huniq rfl rfl
   have hS := strs_are hl
   refine with_size (sorted_strs hls.isList hS (by have := hS.length; exact om70 hlen this) fun out ss' g1 g2 g3 sz => ?_)
   have := huniq ss' g2 g3
   subst this
   obtain ⟨e, he⟩ := sortedAll_at s.heap vs out
   have hv' : VRL φ s.heap (ss'.map V.str) out.toList := vrl_strs g1
   obtain ⟨R', S'⟩ := new_listAt (a := s.heap.objs.size + 1) (ws := out.toList) R (fun b o e => sortedAll_old e) (Nat.le_succ _) sz ⟨e, by simpa [seqObj] using he⟩ hv'
   exact k _ _ s.toks _ S' R' (ref_new R)
  cases ys with
  | nil =>
   cases hf
   exact go [] rfl (by decide) (fun ss' hp _ => List.Perm.eq_nil hp) rfl rfl
  | cons y r =>
   refine onStr_t hf ?_; clear hf; rintro s rfl hf
   cases r with
   | nil =>
    cases hf
    exact go [_] rfl (Nat.le_succ _) (fun ss' hp _ => List.perm_singleton.mp hp) rfl rfl
   | cons z r => cases r with
    | nil =>
     refine onStr_t hf ?_; clear hf; rintro t rfl hf; refine ift hf fun hle hf => ?_
     cases hf
     exact go [_, _] rfl (Nat.le_refl _) (fun ss' hp hs => sorted_two hp hs hle) rfl rfl
    | cons => cases hf
theorem m_append : OpL c n (fun vs => call (.builtin "list.append") vs) mAppend := by
 intro A φ σ s xs vxs v σ' Q E hA R hv hf k
 unfold mAppend at hf
 refine arg2_t hf ?_; rintro _ u rfl hf; refine onRef_t hf ?_; rintro m rfl hf
 ·refine ob1 hf fun ys h1 hf => ?_
  refine ift hf fun hb hf => ?_
  cases hf
  obtain ⟨v₁, v₂, rfl, hx, hu⟩ := vrl_two hv
  obtain ⟨a, vs, _, rfl, hp, hls, hl⟩ := lst_ref R h1 hx
  refine Lst.append hls (fun h' l' hs => ?_) (by rw [List.size_toArray, hl.length]; exact big_le (Nat.le_of_lt hb))
  have e : (List.toArray vs).push v₂ = List.toArray (vs ++ [v₂]) := by simp
  rw [e] at l'
  obtain ⟨R', S'⟩ := set_lst R hp hs l' (VRL.snoc hl hu)
  exact k φ h' s.toks .none S' R' vr_none
theorem m_extend : OpL c n (fun vs => call (.builtin "list.extend") vs) mExtend := by
 intro A φ σ s xs vxs v σ' Q E hA R hv hf k
 unfold mExtend at hf
 refine arg2_t hf ?_; rintro _ _ rfl hf; refine onRef_t hf ?_; rintro m rfl hf; refine onRef_t hf ?_; rintro m' rfl hf
 ·refine ob1 hf fun ys h1 hf => ?_
  refine ob1 hf fun zs h2 hf => ?_
  refine ift hf fun hb hf => ?_
  cases hf
  obtain ⟨v₁, v₂, rfl, hx, hu⟩ := vrl_two hv
  obtain ⟨a, vs, _, rfl, hp, hls, hl⟩ := lst_ref R h1 hx
  obtain ⟨b, ws, _, rfl, hp', hls', hl'⟩ := lst_ref R h2 hu
  have hb2 : ys.length + zs.length ≤ sizeLine := big_le hb.2
  have hlen := hl.length
  have hlen' := hl'.length
  obtain ⟨n1, e1⟩ := id hls
  obtain ⟨n2, e2⟩ := id hls'
  refine call_meets PySem.F.slot_list_extend hls.isList.typeIs PySem.F.entry_list_extend (PySem.F.args_list_extend_2 _ _)
   (AutoSeq1.list_extend_list_list_0 a (List.toArray vs) n1 b (List.toArray ws) n2 (extend_door (by rw [List.size_toArray, List.size_toArray]; exact om71 hb2 hlen hlen')) (by rw [List.size_toArray]; exact om72 hb2 hlen) (by rw [List.size_toArray, List.size_toArray]; exact om73 hb2 hlen hlen')) ⟨e1, e2, ?_⟩
  have l' := hls.upd (fun x => x ++ List.toArray ws)
  have e : List.toArray vs ++ List.toArray ws = List.toArray (vs ++ ws) := by simp
  rw [e] at l'
  obtain ⟨R', S'⟩ := set_lst R hp (Heap.SameBut.update ..) l' (VRL.append hl hl')
  exact k φ _ s.toks .none S' R' vr_none
theorem m_insert : OpL c n (fun vs => call (.builtin "list.insert") vs) mInsert := by
 intro A φ σ s xs vxs v σ' Q E hA R hv hf k
 unfold mInsert at hf
 refine arg3_t hf ?_; rintro _ _ u rfl hf; refine onRef_t hf ?_; rintro m rfl hf; refine onInt_t hf ?_; rintro i rfl hf
 ·refine ob1 hf fun ys h1 hf => ?_
  refine ift hf fun hb hf => ?_
  cases hf
  obtain ⟨v₁, v₂, v₃, rfl, hx, hi, hu⟩ := vrl_three hv
  obtain ⟨a, vs, _, rfl, hp, hls, hl⟩ := lst_ref R h1 hx
  unfold VR at hi
  obtain ⟨t, rfl⟩ := hi
  obtain ⟨rfl, hb⟩ := hb
  obtain ⟨n1, e1⟩ := id hls
  refine call_meets PySem.F.slot_list_insert hls.isList.typeIs PySem.F.entry_list_insert (PySem.F.args_list_insert_3 _ _ _) (AutoListH.list_insert_list_int_val_1 a (List.toArray vs) n1 0 t v₃ (by decide) (by rw [List.size_toArray, hl.length]; exact big_le (Nat.le_of_lt hb))) ⟨e1, ?_⟩
  have e : ((List.toArray vs).extract 0 (min (0 : Int).toNat (List.toArray vs).size)).push v₃ ++ (List.toArray vs).extract (min (0 : Int).toNat (List.toArray vs).size) = List.toArray (v₃ :: vs) := by
   apply Array.toList_inj.mp
   simp
  have l' : Lst _ a (((List.toArray vs).extract 0 (min (0 : Int).toNat (List.toArray vs).size)).push v₃ ++ (List.toArray vs).extract (min (0 : Int).toNat (List.toArray vs).size)) := hls.upd (fun xs => have k := if (0 : Int) < 0 then ((0 : Int) + ((xs.size : Nat) : Int)).toNat else min (0 : Int).toNat xs.size; (xs.extract 0 k).push v₃ ++ xs.extract k)
  rw [e] at l'
  obtain ⟨R', S'⟩ := set_lst R hp (Heap.SameBut.update ..) l' (VRL.cons hu hl)
  exact k φ _ s.toks .none S' R' vr_none
theorem m_pop : OpL c n (fun vs => call (.builtin "dict.pop") vs) mPop := by
 intro A φ σ s xs vxs v σ' Q E hA R hv hf k
 unfold mPop at hf
 refine arg2_t hf ?_; rintro _ _ rfl hf; refine onRef_t hf ?_; rintro m rfl hf; refine onInt_t hf ?_; rintro i rfl hf
 ·refine oc_t hf nf (fun _ => nf) (fun es hσ hf => ?_) nf fun _ => nf
  ·refine ift hf fun hb hf => ?_
   refine oq1 hf fun u h1 hf => ?_
   cases hf
   obtain ⟨v₁, v₂, rfl, hx, hi⟩ := vrl_two hv
   obtain ⟨a, kvs, rfl, hp, hd, dr, ns⟩ := idict_ref R hσ hx
   unfold VR at hi
   obtain ⟨t, rfl⟩ := hi
   obtain ⟨u', h2, hu⟩ := dr.lookup h1
   refine call_meetsIn PySem.F.slot_dict_pop hd.typeIs PySem.F.entry_dict_pop (PySem.F.args_dict_pop_2 _ _) (meets_dict_pop_there (intKind c.prog c.w) a (k := i) (intKind_is _ _ _ _) [] (.inl rfl) rfl) ⟨kvs, u', hd, by rw [dr.length]; exact big_le hb, h2, fun h' hd' hs => ?_⟩
   obtain ⟨R', S'⟩ := set_idict ns R hp hs hd' dr.del
   exact k φ h' _ u' S' R' (VR.mono S' (noSeq_no _) _ _ hu)
theorem m_lower : OpL c n (fun vs => call (.builtin "str.lower") vs) mLower := by
 intro A φ σ s xs vxs v σ' Q E hA R hv hf k
 unfold mLower at hf
 refine arg1_t hf ?_; rintro _ rfl hf; refine onStr_t hf ?_; rintro x rfl hf
 ·refine ift hf fun hb hf => ?_
  cases hf
  obtain ⟨v₁, rfl, hx⟩ := vrl_one hv
  unfold VR at hx
  obtain ⟨t, rfl⟩ := hx
  exact SCL.lower (by show x.cps.size ≤ _; exact om74 hb) fun _ => k.here R vr_str
theorem vrl_values : ∀ (l : List (Str × Tok)), VRL φ h ((l.map (·.1)).map V.str) (strValues l)
 | [] => VRL.nil
 | p :: r => VRL.cons vr_str (vrl_values r)
theorem m_split : OpL c n (fun vs => call (.builtin "str.split") vs) mSplit := by
 intro A φ σ s xs vxs v σ' Q E hA R hv hf k
 unfold mSplit at hf
 refine arg2_t hf ?_; rintro _ _ rfl hf; refine onStr_t hf ?_; rintro x rfl hf; refine onStr_t hf ?_; rintro y rfl hf
 ·refine ift hf fun hb hf => ?_
  cases hf
  obtain ⟨v₁, v₂, rfl, hx, hy'⟩ := vrl_two hv
  unfold VR at hx hy'
  obtain ⟨t, rfl⟩ := hx
  obtain ⟨u, rfl⟩ := hy'
  have hy : (y.length == 0) = false := by
   have : y.length = 1 := hb.2
   rw [this]; rfl
  have hxl : x.length ≤ 1000 := hb.1
  have hz : x.length + 2 ≤ sizeLine := by rw [sizeLine_eq]; exact om75 hxl
  have hn : (Builtin.Str.partsBetween x (Builtin.Str.occurrences x y 0 x.length (x.length + 1)) y.length).length ≤ sizeLine := by
   have e1 := StrLaws.occ_length_le x y 0 x.length (x.length + 1)
   rw [length_partsBetween]; exact om76 hz e1
  have fin : ∀ (l : List (Str × Tok)) (tk : Nat), l.map (·.1) = Txt.split x y → Q (.ref s.heap.objs.size) { s with heap := s.heap.push { cls := .type "list", data := .seq (strValues l).toArray }, toks := tk } := fun l tk e => by
   rw [← e] at k
   obtain ⟨R', S'⟩ := new_list R (vrl_values l)
   exact k _ _ tk _ S' R' (ref_new R)
  cases h1 : (decide (x.length < y.length) || decide (Builtin.Str.strKind x < Builtin.Str.strKind y))
  ·cases hf : (Builtin.Str.occurrences x y 0 x.length (x.length + 1)).isEmpty
   ·refine call_meets F.slot_str_split (typeIs_str _ _ _) F.entry_str_split (F.args_str_split_2 _ _) (meets_str_split_sep x y t u h1 hy hf (om77 hz) hn) ?_
    show wants Q E _ { s with toks := _, heap := s.heap.push { cls := .type "list", data := .seq (strsFrom s.toks (Builtin.Str.partsBetween x (Builtin.Str.occurrences x y 0 x.length (x.length + 1)) y.length)).toArray } }
    rw [strsFrom_eq]
    exact fin (numbered s.toks _) _ ((numbered_texts _ _).trans ((if_neg (ne_true_of_eq_false h1)).trans (if_neg (ne_true_of_eq_false hf))).symm)
   ·exact call_meets F.slot_str_split (typeIs_str _ _ _) F.entry_str_split (F.args_str_split_2 _ _) (meets_str_split_not_found x y t u h1 hy hf)
     (fin [(x, t)] s.toks ((if_neg (ne_true_of_eq_false h1)).trans (if_pos hf)).symm)
  ·exact call_meets F.slot_str_split (typeIs_str _ _ _) F.entry_str_split (F.args_str_split_2 _ _) (meets_str_split_cannot_occur x y t u h1)
    (fin [(x, t)] s.toks (if_pos h1).symm)
theorem recv_list {name : Str} {id : String} (slot : Slot "list" name id) (hty : typeOf (.builtin id) = pure (.type "method_descriptor")) : Recv c name (.builtin id) isL := by
 intro n A φ σ s v vv pl Q E hA R hv hp k
 unfold isL at hp
 obtain ⟨xs, h1⟩ := Option.isSome_iff_exists.mp hp
 obtain ⟨m, a, d, vs, rfl, _, rfl, _, _, hl, _⟩ := lst_at R h1 hv
 obtain ⟨n1, e1⟩ := hl
 exact getMethod_list_of slot hty (Lst.isList ⟨n1, e1⟩) ⟨_, e1, rfl⟩ (k s.toks)
theorem recv_append : Recv c "append" (.builtin "list.append") isL := recv_list PySem.F.slot_list_append PySem.F.type_list_append
theorem recv_extend : Recv c "extend" (.builtin "list.extend") isL := recv_list PySem.F.slot_list_extend PySem.F.type_list_extend
theorem recv_insert : Recv c "insert" (.builtin "list.insert") isL := recv_list PySem.F.slot_list_insert PySem.F.type_list_insert
theorem recv_pop : Recv c "pop" (.builtin "dict.pop") isD := by
 intro n A φ σ s v vv pl Q E hA R hv hp k
 refine onRef_t (getD_t hp) ?_; clear hp; rintro m rfl hp
 refine oc_t hp nf (fun _ => nf) (fun es hσ hp => ?_) nf fun _ => nf
 obtain ⟨a, kvs, rfl, hpp, hd, dr, _⟩ := idict_ref R hσ hv
 obtain ⟨o, es', ep, ho, hx, _⟩ := id hd
 exact getMethod_builtin hd.typeIs PySem.F.plainAttrs_dict PySem.F.slot_dict_pop PySem.F.type_dict_pop (fun a' e => by cases e; exact ⟨o, ho, hx.2.1⟩) (k s.toks)
theorem recv_lower : Recv c "lower" (.builtin "str.lower") isS := by
 intro n A φ σ s v vv pl Q E hA R hv hp k
 refine onStr_t (getD_t hp) ?_; clear hp; rintro t rfl hp
 unfold VR at hv
 obtain ⟨t, rfl⟩ := hv
 exact GM.lower (k s.toks)
theorem recv_split : Recv c "split" (.builtin "str.split") isS := by
 intro n A φ σ s v vv pl Q E hA R hv hp k
 refine onStr_t (getD_t hp) ?_; clear hp; rintro t rfl hp
 unfold VR at hv
 obtain ⟨t, rfl⟩ := hv
 exact GM.split (k s.toks)
theorem noKeys : typeLookup (.type "list") "keys" = pure none := by rw [typeLookup_type, builtinLookup_eq_fast]; kernel_rfl
theorem keys_miss {prog : Program} {w : World} {A : Around} {E : Value → Shared → Prop} {s : Shared} {a : Addr} {xs : Array Value} {Q : Option Value → Shared → Prop} (hl : Lst s.heap a xs) (hA : A.handled = none)
  (h : ∀ h' tk, (∀ b o, s.heap.get? b = some o → h'.get? b = some o) → Q none { s with heap := h', toks := tk }) : wpAny (model prog w) A (getAttr? (.ref a) "keys") Q E s := by
 obtain ⟨k, hx⟩ := hl
 obtain ⟨hp, g, d, tk, os⟩ := s
 have hT : ∀ tk', (⟨hp, g, d, tk', os⟩ : Shared).TypeIs (.ref a) "list" := fun _ => ⟨_, hx, rfl⟩
 have f1 := sub_AttributeError
 have f3 := F.slot_list_getattribute.lookup
 have f4 := F.slot_list_getattribute.bind (.ref a)
 have f5 := am_list_getattr_none
 unfold getAttr? getAttrBy? getAttrBy
 repeat (any_goals (first | assumption | exact hT _ | ((with_reducible show wpAny _ _ (call (Value.builtin "list.__getattribute__") _ _) _ _ _); refine call_meets F.slot_list_getattribute (hT _) am_entry_list_getattribute (F.args_list_getattribute_2 _ _) (meets_getattribute_miss_list a xs k #[] "keys" _ noKeys (by decide) (by decide +kernel)) ⟨hx, hA, fun h' tk' e hx' => ?_⟩) | wp_step))
 obtain ⟨t', u', he⟩ := hx'.there
 show wpAny _ _ (getattributeRaised _ _ _ _ _ _ _) _ _ _
 unfold getattributeRaised
 repeat (any_goals (first | assumption | wp_step))
 exact h _ _ fun b o e => hx'.keeps b o e
theorem mro_dict : mroOf (.type "dict") = pure [.type "dict", .type "object"] := by rw [mroOf_type]; kernel_rfl
theorem lookup_dict_new : typeLookup (.type "dict") "__new__" = pure (some (.builtin "dict.__new__")) := by rw [typeLookup_type, builtinLookup_eq_fast]; kernel_rfl
theorem called_dict : TypeCalled "dict" "dict.__new__" "dict.__init__" :=
 ⟨by decide +kernel, by decide +kernel, ⟨_, _, mro_dict⟩, madeBy_type mro_dict lookup_dict_new (by decide +kernel), by decide +kernel, by rw [isSubtype_type]; kernel_rfl, F.slot_dict_init⟩
theorem typeCall_dict_1 (a : Value) : checkTypeCall "dict" ⟨[a], []⟩ = pure () := by kernel_rfl
theorem newCall_dict_1 (a : Value) : checkBuiltinCall "dict.__new__" ⟨[.type "dict", a], []⟩ = pure () := by kernel_rfl
theorem entry_dict_new : entryFor table "dict.__new__" = some Builtin.«dict.__new__» := entryFor_of_tree (by kernel_rfl)
theorem plain_dict_new : plainId "dict.__new__" = true := by decide +kernel
theorem sub_dict_self : isSubtype (.type "dict") (.type "dict") = pure true := by rw [isSubtype_type]; kernel_rfl
theorem code_dict_new {prog : Program} {w : World} {A : Around} {E : Value → Shared → Prop} {s : Shared} (a : Value) {Q₁ : Value → Shared → Prop}
  (h : Q₁ (.ref s.heap.objs.size) { s with heap := s.heap.push { cls := .type "dict", data := .dict #[] } }) :
  codeAny (model prog w) A (.call (.builtin "dict.__new__") ⟨[.type "dict", a], []⟩) (wants Q₁ E) s := by
 refine codeAny_of_tree ?_
 show wpAny _ A.in1 (do checkBuiltinCall "dict.__new__" ⟨[.type "dict", a], []⟩; again (.builtin "dict.__new__" ⟨[.type "dict", a], []⟩)) _ _ s
 refine wpAny_bind (wpAny_of_eq (newCall_dict_1 a) (wpAny_pure ⟨plainId_quiet plain_dict_new _, codeAny_builtin entry_dict_new ?_⟩))
 rw [Around.under_plainId plain_dict_new _]
 have hsub := sub_dict_self
 have hm := mro_dict
 obtain ⟨hp, g, d, tk, os⟩ := s
 wp_walk
 exact h
theorem plain_dict_loop : plainId "dict.update.loop" = true := by decide +kernel
theorem entry_dict_loop : entryFor table "dict.update.loop" = some Builtin.«dict.update.loop» := entryFor_of_tree (by kernel_rfl)
theorem pairItems_tup {prog : Program} {w : World} {A : Around} {E : Value → Shared → Prop} {s : Shared} {t : Addr} {items : Array Value} {Q : List Value → Shared → Prop} (ht : IsTup s.heap t items) (h : Q items.toList s) : wpAny (model prog w) A (Builtin.Dict.pairItems (.ref t)) Q E s := by
 obtain ⟨o, ho, hc, n, hd⟩ := id ht
 unfold Builtin.Dict.pairItems
 refine wpAny_bind (wpAny_typeOf ht.typeIs ?_)
 rw [if_pos (by decide)]
 exact wpAny_bind (wpAny_seqItems ho hd (wpAny_pure h))
noncomputable def PairIs (c : Cx) {K : Type} [DecidableEq K] (knd : PySem.KeyKind c.prog c.w K) (pr : V → Option (K × V)) : Prop :=
 ∀ (φ : Phi) (h : Heap) (x : V) (v : Value) (k : K) (u : V), pr x = some (k, u) → VR φ h x v → ∃ a vk vu, v = .ref a ∧ IsTup h a #[vk, vu] ∧ knd.is k vk = true ∧ VR φ h u vu
theorem pairI_is : PairIs c (PySem.intKind c.prog c.w) pairI := fun φ h x v k u e hv => by
 unfold pairI at e
 refine onTup_t e ?_; clear e; rintro _ rfl e; refine arg2_t e ?_; clear e; rintro _ _ rfl e; refine onInt_t e ?_; clear e; rintro _ rfl e
 ·cases e
  unfold VR at hv
  obtain ⟨a, vs, rfl, ht, _, hl⟩ := hv
  obtain ⟨p, q, rfl, h1, h2⟩ := vrl_two hl
  unfold VR at h1
  obtain ⟨t, rfl⟩ := h1
  exact ⟨a, _, _, rfl, ht, intKind_is _ _ _ _, h2⟩
theorem pairS_is : PairIs c (PySem.strKind c.prog c.w) pairS := fun φ h x v k u e hv => by
 unfold pairS at e
 refine onTup_t e ?_; clear e; rintro _ rfl e; refine arg2_t e ?_; clear e; rintro _ _ rfl e; refine onStr_t e ?_; clear e; rintro _ rfl e
 ·cases e
  unfold VR at hv
  obtain ⟨a, vs, rfl, ht, _, hl⟩ := hv
  obtain ⟨p, q, rfl, h1, h2⟩ := vrl_two hl
  unfold VR at h1
  obtain ⟨t, rfl⟩ := h1
  exact ⟨a, _, _, rfl, ht, strKind_is _ _ _ _, h2⟩
theorem dput_len {K : Type} [DecidableEq K] (es : List (K × V)) (k : K) (v : V) : (dput es k v).length ≤ es.length + 1 := by
 unfold dput; split <;> simp
theorem dict_noseq {K : Type} {prog : Program} {w : World} [DecidableEq K] {knd : PySem.KeyKind prog w K} {a : Addr} {kvs : List (K × Value)} (hd : h.DictOf knd a kvs) : NoSeq (fun b => b = a) h := fun b o ys n w e hc q => by
 subst w
 obtain ⟨o', es, ep, ho, _, hd', _⟩ := hd
 rw [e] at ho; cases ho
 rw [q] at hd'; cases hd'
theorem dict_loop {K : Type} [DecidableEq K] {knd : PySem.KeyKind c.prog c.w K} {pr : V → Option (K × V)} (hpr : PairIs c knd pr) {A : Around} (hA : A.handled = none) {s : Shared} {σ : Hp} {m : Nat} {I d : Addr} (hI : s.heap.get? I = none) (hD : s.heap.get? d = none) (hId : I ≠ d)
  (bI : c.hb.get? I = none) (bD : c.hb.get? d = none) (nI : ¬ Tr φ I) (nD : ¬ Tr φ d) {xs : List V} (hσ : σ[m]? = some (.list xs)) {Rr : Result → Shared → Prop} {fin : List (K × V)}
  (k : ∀ h' t' kvs, Step NoW φ s.heap φ h' → c.R φ σ h' → h'.DictOf knd d kvs → DR φ h' fin kvs → Rr (.ok (.ret .none)) { s with heap := h', toks := t' }) :
  ∀ (j i : Nat) (es : List (K × V)) (kvs : List (K × Value)) (ps : List (K × V)) (h₁ : Heap) (t₁ : Nat), i + j = xs.length → (xs.drop i).mapM pr = some ps → ps.foldl (fun es p => dput es p.1 p.2) es = fin → es.length + j ≤ big →
   Step NoW φ s.heap φ h₁ → c.R φ σ h₁ → IterAt φ h₁ (.list m) I i → h₁.DictOf knd d kvs → DR φ h₁ es kvs →
   codeAny c.M A (.builtin "dict.update.loop" ⟨[.ref d, .ref I, rawInt i, .none], []⟩) Rr { s with heap := h₁, toks := t₁ }
 | 0, i, es, kvs, ps, h₁, t₁, hj, hps, hfin, hbig, S₁, R₁, it, hd, dr => by
  have hnx : nxt (.list m) i σ = some none := by
   rw [nxt_list hσ, List.getElem?_eq_none_iff.mpr (om78 hj)]
  rw [List.drop_of_length_le (om78 hj)] at hps
  rw [List.mapM_nil] at hps
  cases hps
  subst hfin
  refine codeAny_builtin entry_dict_loop ?_
  rw [Around.under_plainId plain_dict_loop _]
  show wpAny _ A.in1 (pyNext (.ref I) >>= _) _ _ _
  refine wpAny_bind (next_end hA R₁ it nI bI hnx fun h₂ t₂ kk S₂ R₂ => ?_)
  have hqI : NoSeq (fun b => b = I) h₁ := fun b o xs n w e _ => by subst w; exact iter_noseq it o xs n e
  obtain ⟨o, es', ep, ho, rest⟩ := hd
  exact wpAny_pure (k h₂ t₂ kvs (S₁.but kk hI S₂.size) R₂ ⟨o, es', ep, kk d o (Ne.symm hId) ho, rest⟩ (DR.mono S₂ hqI _ _ dr))
 | j + 1, i, es, kvs, ps, h₁, t₁, hj, hps, hfin, hbig, S₁, R₁, it, hd, dr => by
  have hlt : i < xs.length := by exact om79 hj
  have hnx : nxt (.list m) i σ = some (some xs[i]) := by
   rw [nxt_list hσ, List.getElem?_eq_getElem hlt]
  rw [List.drop_eq_getElem_cons hlt] at hps
  obtain ⟨⟨k₁, u₁⟩, r, e1, e2, rfl⟩ := mapM_cons_some hps
  rw [List.foldl_cons] at hfin
  refine codeAny_builtin entry_dict_loop ?_
  rw [Around.under_plainId plain_dict_loop _]
  show wpAny _ A.in1 (pyNext (.ref I) >>= _) _ _ _
  refine wpAny_bind (next_item hA R₁ it nI bI hnx fun h₂ t₂ v kk S₂ R₂ hv it₂ => ?_)
  have hqI : NoSeq (fun b => b = I) h₁ := fun b o xs n w e _ => by subst w; exact iter_noseq it o xs n e
  have hd₂ : h₂.DictOf knd d kvs := by
   obtain ⟨o, es', ep, ho, rest⟩ := hd
   exact ⟨o, es', ep, kk d o (Ne.symm hId) ho, rest⟩
  have dr₂ := DR.mono S₂ hqI _ _ dr
  obtain ⟨a, vk, vu, rfl, ht, hk, hu⟩ := hpr φ h₂ _ v k₁ u₁ e1 hv
  dsimp only
  refine wpAny_bind (wpAny_holding (wpAny_bind (wpAny_tryCatch (pairItems_tup ht ?_))))
  show wpAny _ A.in1 (holding [vk, vu] (dictSet d vk vu)) _ _ _
  refine wpAny_holding (wpAny_dictSet_pairs (knd := knd) hk hd₂ (fun h₃ hd₃ hs₃ => ?_) (by rw [dr₂.length]; exact big_le (om26 hbig)))
  have hqD := dict_noseq hd₂
  obtain ⟨S₃, R₃⟩ := at_but R₂ nD bD hqD (same_all hs₃) (by rw [hs₃.1]; exact Nat.le_refl _)
  have SS : Step NoW φ s.heap φ h₃ := ((S₁.but kk hI S₂.size)).but (same_all hs₃) hD (by rw [hs₃.1]; exact Nat.le_refl _)
  refine wpAny_pure ⟨plainId_quiet plain_dict_loop _, ?_⟩
  have := dict_loop hpr hA hI hD hId bI bD nI nD hσ k j (i + 1) (dput es k₁ u₁) _ r h₃ (t₂ + 1) (om80 hj) e2 hfin (by have := dput_len es k₁ u₁; exact om81 hbig this) SS R₃
   (it₂.step S₃ hqD fun o e => same_all hs₃ I o hId e) hd₃ ((DR.mono S₃ hqD _ _ dr₂).put (VR.mono S₃ hqD _ _ hu))
  exact this
theorem adoptO {σ : Hp} {D : Addr} {o : O} (R : c.R φ σ h) (nD : ¬ Tr φ D) (bD : c.hb.get? D = none) (hD : NoSeq (fun b => b = D) h) (al : ∃ x, h.get? D = some x) (ho : OR c.prog c.w c.flds φ h o (D, D)) : c.R (φ ++ [(D, D)]) (σ ++ [o]) h := by
 refine ⟨by simp [R.len], ?_, fun m o' q hm hq => ?_, R.base, fun b t => ?_, fun b t => ?_⟩
 ·rw [List.pairwise_append]
  refine ⟨R.apart, List.pairwise_singleton _ _, fun p hp q hq => ?_⟩
  rw [List.mem_singleton.mp hq]
  have h1 : p.1 ≠ D := fun e => nD ⟨p, hp, .inl e.symm⟩
  have h2 : p.2 ≠ D := fun e => nD ⟨p, hp, .inr e.symm⟩
  exact ⟨h1, h1, h2, h2⟩
 ·by_cases hlt : m < φ.length
  ·rw [List.getElem?_append_left hlt] at hq
   rw [List.getElem?_append_left (R.len ▸ hlt)] at hm
   exact OR.adopt hD (R.objs m o' q hm hq)
  ·have hm' : m = φ.length := by
    have := (List.getElem?_eq_some_iff.mp hq).1
    simp at this; exact om4 hlt this
   subst hm'
   rw [List.getElem?_append_right (Nat.le_refl _)] at hq
   rw [R.len, List.getElem?_append_right (Nat.le_refl _)] at hm
   simp at hq hm
   subst hq hm
   exact OR.adopt hD ho
 ·rcases tr_snoc t with q | rfl
  ·exact R.free b q
  ·exact bD
 ·rcases tr_snoc t with q | rfl
  ·exact R.alloc b q
  ·exact al
theorem fresh_sys {σ : Hp} (R : c.R φ σ h) : h.objs.size ≠ sysModules := by
 obtain ⟨o, _, _, ho, _⟩ := c.g
 have := Heap.lt_size (R.base _ _ ho)
 intro e
 rw [e] at this
 exact absurd this (by decide)
theorem step_snoc {D : Addr} {W : Addr → Prop} (S : Step W φ h φ' h') (hD : h.objs.size ≤ D) : Step W φ h (φ' ++ [(D, D)]) h' := by
 obtain ⟨t, rfl⟩ := S.ext
 refine ⟨⟨t ++ [(D, D)], by simp⟩, S.keep, fun b tr nt => ?_, S.size⟩
 rcases tr_snoc tr with q | rfl
 ·exact S.fresh b q nt
 ·exact hD
theorem dict_pairs {K : Type} [DecidableEq K] {knd : PySem.KeyKind c.prog c.w K} {pr : V → Option (K × V)} (hpr : PairIs c knd pr) {A : Around} (hA : A.handled = none) {s : Shared} {σ : Hp} {m : Nat} {a : Addr} {xs : List V} {vs : List Value} {ps : List (K × V)} (R : c.R φ σ s.heap)
  (hσ : σ[m]? = some (.list xs)) (hp : φ[m]? = some (a, a)) (hl : Lst s.heap a (List.toArray vs)) (hv : VRL φ s.heap xs vs) (hb : xs.length ≤ big) (hps : xs.mapM pr = some ps) {Q : Value → Shared → Prop} {E : Value → Shared → Prop}
  (k : ∀ h' t' kvs, Step NoW φ s.heap φ h' → c.R φ σ h' → h'.DictOf knd s.heap.objs.size kvs → DR φ h' (ps.foldl (fun es p => dput es p.1 p.2) []) kvs → Q (.ref s.heap.objs.size) { s with heap := h', toks := t' }) :
  wpAny c.M A (call (.type "dict") [.ref a]) Q E s := by
 refine callType_codes (Q₁ := fun obj s₁ => obj = .ref s.heap.objs.size ∧ s₁ = { s with heap := s.heap.push { cls := .type "dict", data := .dict #[] } }) called_dict (typeCall_dict_1 _) F.entry_dict_init (code_dict_new _ ⟨rfl, rfl⟩) fun obj s₁ h₁ => ?_
 obtain ⟨rfl, rfl⟩ := h₁
 have hS : (s.heap.push { cls := .type "dict", data := .dict #[] }).get? s.heap.objs.size = some { cls := .type "dict", data := .dict #[] } := Heap.get?_push_size _ rfl
 refine ⟨⟨_, hS, rfl⟩, F.args_dict_init_2 _ _, ?_⟩
 have S₁ := push_step (φ := φ) (h := s.heap) { cls := .type "dict", data := .dict #[] }
 have R₁ := push_R R { cls := .type "dict", data := .dict #[] }
 have l₁ : Lst (s.heap.push { cls := .type "dict", data := .dict #[] }) a (List.toArray vs) := hl.keep fun o e => Heap.get?_push_of_some _ e
 unfold Builtin.«dict.__init__»
 refine wpAny_bind ?_
 unfold Builtin.Dict.selfAndRest
 refine wpAny_bind (wpAny_notOrdered_dict ⟨_, hS, rfl⟩ ?_)
 refine wpAny_bind (wpAny_pure (wpAny_pure ?_))
 show wpAny _ A.in1.in1 (typeOf (.ref a) >>= _) _ _ _
 refine wpAny_bind (wpAny_typeOf (s := { s with heap := s.heap.push { cls := .type "dict", data := .dict #[] } }) l₁.isList.typeIs ?_)
 rw [if_pos (by decide)]
 refine wpAny_bind (with_size (keys_miss (s := { s with heap := s.heap.push { cls := .type "dict", data := .dict #[] } }) l₁ hA fun h₂ t₂ k₂ sz₂ => ?_))
 simp only [Option.isNone_none, if_true]
 refine wpAny_bind (wpAny_rule ?_)
 have S₂ : Step NoW φ (s.heap.push { cls := .type "dict", data := .dict #[] }) φ h₂ := Step.grow k₂ sz₂
 have R₂ : c.R φ σ h₂ := R₁.grow k₂ sz₂
 have l₂ : Lst h₂ a (List.toArray vs) := l₁.keep fun o e => k₂ _ o e
 have hS₂ := k₂ _ _ hS
 refine wpAny_bind (wpAny_pyIter_list l₂.isList ?_)
 have S₃ := push_step (φ := φ) (h := h₂) { cls := .type "list_iterator", data := .fields #[.ref a, .int 0 0] }
 have R₃ := push_R R₂ { cls := .type "list_iterator", data := .fields #[.ref a, .int 0 0] }
 have hd₀ : (h₂.push { cls := .type "list_iterator", data := .fields #[.ref a, .int 0 0] }).DictOf knd s.heap.objs.size [] := by
  refine ⟨_, #[], 0, Heap.get?_push_of_some _ hS₂, ⟨rfl, rfl, rfl⟩, rfl, ?_, ?_, List.nodup_nil⟩
  ·intro e he; simp at he
  ·exact .nil
 refine wpAny_pure ⟨plainId_quiet plain_dict_loop _, ?_⟩
 have szd : s.heap.objs.size < h₂.objs.size := Heap.lt_size hS₂
 have gone : ∀ b, s.heap.objs.size ≤ b → s.heap.get? b = none := fun b hb => by
  cases q : s.heap.get? b with
  | none => rfl
  | some o => exact absurd (Heap.lt_size q) (Nat.not_lt.mpr hb)
 have := dict_loop (c := c) (φ := φ) (knd := knd) hpr (A := A.in1) hA (s := s) (σ := σ) (m := m) (I := h₂.objs.size) (d := s.heap.objs.size) (gone _ (Nat.le_of_lt szd)) (gone _ (Nat.le_refl _)) (Ne.symm (Nat.ne_of_lt szd))
  (new_hb R (Nat.le_of_lt szd)) (new_hb R (Nat.le_refl _)) (new_untr R (Nat.le_of_lt szd)) (new_untr R (Nat.le_refl _)) hσ (Rr := wants (fun r s₂ => r = .none ∧ Q (.ref s.heap.objs.size) s₂) E) (fin := ps.foldl (fun es p => dput es p.1 p.2) [])
  (fun h' t' kvs S' R' hd' dr' => ⟨rfl, k h' t' kvs S' R' hd' dr'⟩) xs.length 0 [] [] ps _ t₂ (om82) (by simpa using hps) rfl (by simpa using hb) ((S₁.trans S₂).trans S₃) R₃ ⟨a, a, hp, _, Heap.get?_push_size _ rfl, rfl, rfl⟩ hd₀ rfl
 exact this
theorem b_dict : OpL c n (fun vs => call (.type "dict") vs) bDict := by
 intro A φ σ s xs vxs v σ' Q E hA R hv hf k
 unfold bDict at hf
 refine arg1_t hf ?_; rintro _ rfl hf; refine onRef_t hf ?_; rintro m rfl hf
 ·refine ob1 hf fun ys h1 hf => ?_
  refine ift hf fun hb hf => ?_
  obtain ⟨v₁, rfl, hx⟩ := vrl_one hv
  obtain ⟨a, vs, hσ, rfl, hp, hls, hl⟩ := lst_ref R h1 hx
  split at hf
  ·rename_i ps hps
   cases hf
   refine dict_pairs pairI_is hA.handled R hσ hp hls hl hb hps fun h' t' kvs S' R' hd' dr' => ?_
   exact k _ h' t' _ (step_snoc S' (Nat.le_refl _)) (adoptO R' (new_untr R (Nat.le_refl _)) (new_hb R (Nat.le_refl _)) (dict_noseq hd') (let ⟨o, _, _, e, _⟩ := hd'; ⟨o, e⟩) ⟨rfl, fresh_sys R, kvs, hd', dr'⟩) (ref_new R)
  ·refine oq1 hf fun ps hps hf => ?_
   cases hf
   refine dict_pairs pairS_is hA.handled R hσ hp hls hl hb hps fun h' t' kvs S' R' hd' dr' => ?_
   exact k _ h' t' _ (step_snoc S' (Nat.le_refl _)) (adoptO R' (new_untr R (Nat.le_refl _)) (new_hb R (Nat.le_refl _)) (dict_noseq hd') (let ⟨o, _, _, e, _⟩ := hd'; ⟨o, e⟩) ⟨rfl, kvs, hd', dr'⟩) (ref_new R)
theorem S1.bot {ex : Option Expr} {ca : Option Expr} {pos} : S1 c sc nm n (.Raise ex ca pos) botS := fun A env φ ρ σ s fl ρ' σ' Q E he hA F R hf k => by cases hf
theorem ST.chain2 {x y z : Expr} {op op' : CmpOp} {pos} {f g g' : Fn} {o o'} (hx : SE c sc nm n x f) (hy : SE c sc nm n y g) (hz : SE c sc nm n z g') (ho : Op2 c (compareOp op) o) (ho' : Op2 c (compareOp op') o') (hm : lastMarks [op, op'] [y, z] = false) :
  ST c sc nm n (.Compare x [op, op'] [y, z] pos) (Mine.chain2 o o' f g g') := by
 intro A env φ ρ σ s b σ' Q E he hA F R hf k
 unfold Mine.chain2 at hf
 obtain ⟨⟨v₁, σ₁⟩, h1, hf⟩ := Option.bind_eq_some_iff.mp hf
 obtain ⟨⟨v₂, σ₂⟩, h2, hf⟩ := Option.bind_eq_some_iff.mp hf
 obtain ⟨⟨v₃, σ₃⟩, h3, hf⟩ := Option.bind_eq_some_iff.mp hf
 refine isTrue_chain ?_ hm
 refine hx A env φ ρ σ s v₁ σ₁ _ E he hA F R h1 fun φ₁ h₁ t₁ a S₁ R₁ va => ?_
 refine test_link ?_
 refine hy A env φ₁ ρ σ₁ _ v₂ σ₂ _ E he hA (F.exprStep S₁) R₁ h2 fun φ₂ h₂ t₂ b' S₂ R₂ vb => ?_
 refine ho n A φ₂ σ₂ _ v₁ v₂ a b' v₃ σ₃ _ E hA R₂ (VR.mono S₂ (noSeq_no _) _ _ va) vb h3 fun φ₃ h₃ t₃ d S₃ R₃ vd => ?_
 have S13 := (S₁.trans S₂).trans S₃
 refine onBool_t hf ?_; clear hf; rintro b₃ rfl hf
 unfold VR at vd; subst vd
 refine wpAny_truthy_bool ?_
 cases b₃ with
 | true =>
  rw [if_pos rfl]
  refine ob2 hf fun v₄ σ₄ h4 hf => ob2 hf fun v₅ σ₅ h5 hf => ?_
  refine test_last ?_
  refine hz A env φ₃ ρ σ₃ _ v₄ σ₄ _ E he hA (F.exprStep S13) R₃ h4 fun φ₄ h₄ t₄ e S₄ R₄ ve => ?_
  refine ho' n A φ₄ σ₄ _ v₂ v₄ b' e v₅ σ₅ _ E hA R₄ (VR.mono (S₃.trans S₄) (noSeq_no _) _ _ vb) ve h5 fun φ₅ h₅ t₅ d' S₅ R₅ vd' => ?_
  refine onBool_t hf ?_; clear hf; rintro b₅ rfl hf
  cases hf
  unfold VR at vd'; subst vd'
  exact wpAny_truthy_bool (k _ _ _ ((S13.trans S₄).trans S₅) R₅)
 | false =>
  cases hf
  rw [if_neg Bool.false_ne_true]
  exact k _ _ _ S13 R₃
theorem SE.dict0 {pos} : SE c sc nm n (.Dict [] [] pos) mkDict0 := by
 intro A env φ ρ σ s v σ' Q E he hA F R hf k
 unfold mkDict0 at hf
 cases hf
 refine wpAny_Dict_empty ?_
 have hd : (s.heap.push { cls := .type "dict", data := .dict #[] }).DictOf (PySem.intKind c.prog c.w) s.heap.objs.size [] := by
  refine ⟨_, #[], 0, Heap.get?_push_size _ rfl, ⟨rfl, rfl, rfl⟩, rfl, ?_, ?_, List.nodup_nil⟩
  ·intro e he; simp at he
  ·exact .nil
 exact k _ _ s.toks _ (step_snoc (push_step _) (Nat.le_refl _)) (adoptO (push_R R _) (new_untr R (Nat.le_refl _)) (new_hb R (Nat.le_refl _)) (dict_noseq hd) ⟨_, Heap.get?_push_size _ rfl⟩ ⟨rfl, fresh_sys R, [], hd, rfl⟩) (ref_new R)
theorem DR.all {K : Type} [DecidableEq K] : ∀ {ps : List (K × V)} {qs : List (K × Value)} {es : List (K × V)} {kvs : List (K × Value)}, DR φ h ps qs → DR φ h es kvs → DR φ h (ps.foldl (fun es q => dput es q.1 q.2) es) (merged kvs qs)
 | [], _, es, kvs, e, d => by cases e; exact d
 | x :: ps, _, es, kvs, ⟨v, r, rfl, a, b⟩, d => by
  rw [List.foldl_cons]
  exact DR.all (es := dput es x.1 x.2) (kvs := stored kvs x.1 v) b (d.put a)
theorem cInts_eq {ks : List Int} : ∀ {σ σ' : Hp} {vs : List V}, (ks.foldr (fun i g => consL (cInt i) g) nilL) ρ σ = some (vs, σ') → vs = ks.map V.int ∧ σ' = σ := by
 induction ks with
 | nil => intro σ σ' vs e; cases e; exact ⟨rfl, rfl⟩
 | cons i r ih =>
  intro σ σ' vs e
  simp only [List.foldr_cons] at e
  unfold consL cInt at e
  obtain ⟨p, h1, e⟩ := Option.bind_eq_some_iff.mp e
  cases h1
  obtain ⟨⟨ws, σ₁⟩, h2, e⟩ := Option.map_eq_some_iff.mp e
  cases e
  obtain ⟨rfl, rfl⟩ := ih h2
  exact ⟨rfl, rfl⟩
theorem SE.dictS4 {k1 k2 k3 k4 : Str} {i1 i2 i3 i4 : Int} {a1 a2 a3 a4 b1 b2 b3 b4 p1 p2 p3 p4 q1 q2 q3 q4 pos} :
  SE c sc nm n (.Dict [some (.Constant (.str k1) a1 p1), some (.Constant (.str k2) a2 p2), some (.Constant (.str k3) a3 p3), some (.Constant (.str k4) a4 p4)] [.Constant (.int i1) b1 q1, .Constant (.int i2) b2 q2, .Constant (.int i3) b3 q3, .Constant (.int i4) b4 q4] pos)
   (mkDict [k1, k2, k3, k4] (consL (cInt i1) (consL (cInt i2) (consL (cInt i3) (consL (cInt i4) nilL))))) := by
 intro A env φ ρ σ s v σ' Q E he hA F R hf k
 unfold mkDict at hf
 obtain ⟨⟨vs, σ₁⟩, h1, hf⟩ := Option.map_eq_some_iff.mp hf
 obtain ⟨rfl, rfl⟩ := cInts_eq (ks := [i1, i2, i3, i4]) h1
 cases hf
 refine wpAny_Dict_pairs (knd := PySem.strKind c.prog c.w) (pairs := [(eval (.Constant (.str k1) a1 p1) env, do let x ← eval (.Constant (.int i1) b1 q1) env; standAt pos; pure x), (eval (.Constant (.str k2) a2 p2) env, do let x ← eval (.Constant (.int i2) b2 q2) env; standAt pos; pure x), (eval (.Constant (.str k3) a3 p3) env, do let x ← eval (.Constant (.int i3) b3 q3) env; standAt pos; pure x), (eval (.Constant (.str k4) a4 p4) env, do let x ← eval (.Constant (.int i4) b4 q4) env; standAt pos; pure x)]) rfl (by simp) (by simp) ?_
 have go : ∀ {i : Int} {b q} {Q : Value → Shared → Prop} {s : Shared}, (∀ t tk, Q (.int i t) { s with toks := tk }) → wpAny c.M A (do let x ← eval (.Constant (.int i) b q) env; standAt pos; pure x) Q E s := fun hq =>
  wpAny_bind (wpAny_Constant_int (wpAny_bind (wpAny_standAt (wpAny_pure (hq _ _)))))
 refine evalPairs_cons (Constant_str (go fun u1 z1 => ?_))
 refine evalPairs_cons (Constant_str (go fun u2 z2 => ?_))
 refine evalPairs_cons (Constant_str (go fun u3 z3 => ?_))
 refine evalPairs_cons (Constant_str (go fun u4 z4 => ?_))
 refine evalPairs_nil ⟨[(k1, .int i1 u1), (k2, .int i2 u2), (k3, .int i3 u3), (k4, .int i4 u4)], ⟨strKind_is _ _ _ _, rfl, strKind_is _ _ _ _, rfl, strKind_is _ _ _ _, rfl, strKind_is _ _ _ _, rfl, trivial⟩, ?_, fun h' hd hs => ?_⟩
 ·refine ⟨_, #[], 0, Heap.get?_push_size _ rfl, ⟨rfl, rfl, rfl⟩, rfl, ?_, ?_, List.nodup_nil⟩
  ·intro e he; simp at he
  ·exact .nil
 ·have sz : s.heap.objs.size ≤ h'.objs.size := by rw [hs.1]; show _ ≤ (s.heap.push _).objs.size; rw [Heap.size_push]; exact Nat.le_succ _
  have g : ∀ b o, s.heap.get? b = some o → h'.get? b = some o := fun b o e => (hs.2 b (Nat.ne_of_lt (Heap.lt_size e))).trans (Heap.get?_push_of_some _ e)
  have S' : Step NoW φ s.heap φ h' := Step.grow g sz
  refine k _ h' _ _ (step_snoc S' (Nat.le_refl _)) (adoptO (R.grow g sz) (new_untr R (Nat.le_refl _)) (new_hb R (Nat.le_refl _)) (dict_noseq hd) (let ⟨o, _, _, e, _⟩ := hd; ⟨o, e⟩) ⟨rfl, _, hd, ?_⟩) (ref_new R)
  have e : DR φ h' ([k1, k2, k3, k4].zip ([i1, i2, i3, i4].map V.int)) [(k1, .int i1 u1), (k2, .int i2 u2), (k3, .int i3 u3), (k4, .int i4 u4)] := ⟨_, _, rfl, vr_int, _, _, rfl, vr_int, _, _, rfl, vr_int, _, _, rfl, vr_int, rfl⟩
  exact DR.all (es := []) (kvs := []) e rfl
theorem compGo_len {src : Src} {a : Asg} {t : Loc → Hp → Option (Bool × Hp)} {f : Fn} : ∀ {k i : Nat} {ρ : Loc} {σ σ' : Hp} {r : List V}, compGo src a t f k i ρ σ = some (r, σ') → r.length ≤ k
 | 0, _, _, _, _, _, e => by unfold compGo at e; cases e
 | k + 1, i, ρ, σ, σ', r, e => by
  unfold compGo at e
  refine ob1 e fun rr e1 e => ?_
  cases rr with
  | none => cases e; exact Nat.zero_le _
  | some x =>
   refine ob1 e fun p e2 e => ?_
   refine ob1 e fun q e3 e => ?_
   split at e
   ·refine ob1 e fun y e4 e => ?_
    refine oq1 e fun u e5 e => ?_
    cases e
    have := compGo_len (r := u.1) (σ' := u.2) e5
    simp only [List.length_cons]; exact om83 this
   ·have := compGo_len e
    exact om84 this
theorem Frame.forget {hb : Heap} {ρ' : Loc} {j : Nat} (F : Frame hb nm env φ ρ' h) (e : ρ'.set j .undef = ρ) : Frame hb nm env φ ρ h := by
 have get : ∀ (i : Nat) (v : V), ρ[i]? = some v → v ≠ .undef → ρ'[i]? = some v := fun i v h1 h2 => by
  subst e
  by_cases q : j = i
  ·subst q
   rw [List.getElem?_set_self'] at h1
   cases q : ρ'[j]? with
   | none => rw [q] at h1; cases h1
   | some u => rw [q] at h1; simp at h1; exact absurd h1.symm h2
  ·rwa [List.getElem?_set_ne q] at h1
 obtain ⟨m, hm, f⟩ := F.ns
 exact ⟨F.kind, F.glob, F.blt, ⟨m, hm, fun i x v h1 h2 h3 h4 => f i x v h1 (get i v h2 h3) h3 h4⟩, F.cel, fun i x a v h1 h2 h3 h4 h5 => F.celv i x a v h1 (get i v h2 h3) h3 h4 h5, F.celx, F.ap, F.apL, F.nt, F.nb⟩
theorem compTurn_inner (elt target iter : Expr) (g0 : Comprehension) (scope : Scope) (pos : Pos) (it acc : Value) (env : Env) :
  compTurn (.ListComp elt [g0, ⟨target, iter, [], 0⟩] scope pos) 1 it acc env = (do
   standAt iter.pos
   match ← pyNext it with
   | none => pure (.done .next)
   | some v =>
    letOwnedTupleGo target it v
    assign target env v
    (do let _ ← call (.builtin "list.append") [acc, ← eval elt env])
    again (.compLoop (.ListComp elt [g0, ⟨target, iter, [], 0⟩] scope pos) 1 it acc env)) := by rfl
theorem compTurn_outer (elt target iter target2 iter2 : Expr) (scope : Scope) (pos : Pos) (it acc : Value) (env : Env) :
  compTurn (.ListComp elt [⟨target, iter, [], 0⟩, ⟨target2, iter2, [], 0⟩] scope pos) 0 it acc env = (do
   standAt iter.pos
   match ← pyNext it with
   | none => pure (.done .next)
   | some v =>
    letOwnedTupleGo target it v
    assign target env v
    let x ← eval iter2 env
    standAt iter2.pos
    let x ← foldedSetIterable iter2 env x
    let _ ← runOwn (.compStart (.ListComp elt [⟨target, iter, [], 0⟩, ⟨target2, iter2, [], 0⟩] scope pos) 1 (← holding [x] (pyIter x)) acc env) env
    again (.compLoop (.ListComp elt [⟨target, iter, [], 0⟩, ⟨target2, iter2, [], 0⟩] scope pos) 0 it acc env)) := by rfl
theorem codeAny_compStart_inner {prog : Program} {w : World} {A : Around} {R : Result → Shared → Prop} {s : Shared} {elt target iter ifs g0 scope pos it acc env}
  (h0 : codeAny (model prog w) A (.compLoop (.ListComp elt [g0, ⟨target, iter, ifs, 0⟩] scope pos) 1 it acc env) R s)
  (h : wpAny (model prog w) A (pyIter it) (fun it' s' => codeAny (model prog w) A (.compLoop (.ListComp elt [g0, ⟨target, iter, ifs, 0⟩] scope pos) 1 it' acc env) R s')
   (notedBy (model prog w) A env fun x s' => R (.error x) s') s) :
  codeAny (model prog w) A (.compStart (.ListComp elt [g0, ⟨target, iter, ifs, 0⟩] scope pos) 1 it acc env) R s := by
 refine codeAny_of_tree ?_
 show wpAny _ _ ((compStart (.ListComp elt [g0, ⟨target, iter, ifs, 0⟩] scope pos) 1 it acc env).onRaise (fun x => do noteFrame x env; standAt theWindowsPlace)) _ _ s
 refine wpAny_notedAt ?_
 unfold compStart
 show wpAny _ _ (ask >>= _) _ _ s
 refine wpAny_bind (wpAny_askSetting (wpAny_ite ?_))
 split
 ·first
   | exact wpAny_bind (wpAny_pure (wpAny_pure (And.intro rfl h0)))
   | exact wpAny_pure (And.intro rfl h0)
 ·first
   | exact wpAny_bind (wpAny_rule (wpAny_bind (wpAny_standAt (wpAny_bind (wpAny_mono h (fun it' s' h' => wpAny_pure (And.intro rfl h')) fun _ _ x => x)))))
   | (refine wpAny_bind (wpAny_rule ?_); show wpAny _ _ (standAt iter.pos >>= _) _ _ s; exact wpAny_bind (wpAny_standAt (wpAny_bind (wpAny_mono h (fun it' s' h' => wpAny_pure (And.intro rfl h')) fun _ _ x => x))))
theorem comp_inner {sc' : Scope} {nmc : List Str} {elt target iter : Expr} {g0 : Comprehension} {scope : Scope} {pos : Pos} {src src0 : Src} {j : Nat} {f : Fn} {N : Nat} {cenv : Env} {A : Around}
  (ha : SA c sc' nmc n onlyL target (stA j)) (hx : SE c sc' nmc n elt f) (he : cenv.scope = sc') (hA : Room n A)
  {s : Shared} {I D I0 : Addr} {i0 : Nat} {vs : List V} {σ' : Hp} {ρ₀ : Loc} (hI : s.heap.get? I = none) (hD : s.heap.get? D = none) (hC : s.heap.get? cenv.locals = none) (bI : c.hb.get? I = none) (bD : c.hb.get? D = none) (hID : I ≠ D) (nFI : ¬ FA cenv I) (nFD : ¬ FA cenv D)
  (h0I : I0 ≠ I) (h0D : I0 ≠ D) (nF0 : ¬ FA cenv I0)
  {Rr : Result → Shared → Prop}
  (k : ∀ φ' h' t' ρ' ys, Step NoW φ s.heap φ' h' → c.R φ' σ' h' → Frame c.hb nmc cenv φ' ρ' h' → ρ'.set j .undef = ρ₀ → Lst h' D (List.toArray ys) → VRL φ' h' vs ys → ¬ Tr φ' D → IterAt φ' h' src0 I0 i0 → ¬ Tr φ' I0 → Rr (.ok .next) { s with heap := h', toks := t' })
  {i : Nat} {φ₁ : Phi} {ρ₁ : Loc} {σ₁ : Hp} {h₁ : Heap} {t₁ : Nat} {ys : List Value} {done r : List V}
  (S₁ : Step NoW φ s.heap φ₁ h₁) (R₁ : c.R φ₁ σ₁ h₁) (F₁ : Frame c.hb nmc cenv φ₁ ρ₁ h₁) (hρ : ρ₁.set j .undef = ρ₀) (it : IterAt φ₁ h₁ src I i) (nI : ¬ Tr φ₁ I) (it0 : IterAt φ₁ h₁ src0 I0 i0) (n0 : ¬ Tr φ₁ I0) (hl : Lst h₁ D (List.toArray ys)) (hv : VRL φ₁ h₁ done ys) (nD : ¬ Tr φ₁ D)
  (hg : compGo src (stA j) tYes f N i ρ₁ σ₁ = some (r, σ')) (hr : vs = done ++ r) (hN : done.length + N ≤ big) :
  codeAny c.M A (.compLoop (.ListComp elt [g0, ⟨target, iter, [], 0⟩] scope pos) 1 (.ref I) (.ref D) cenv) Rr { s with heap := h₁, toks := t₁ } := by
 refine codeAny_loop rfl (fun m s₁ => CL c φ s nmc cenv src I D vs (fun φ h ρ => ρ.set j .undef = ρ₀ ∧ IterAt φ h src0 I0 i0 ∧ ¬ Tr φ I0) (compGo src (stA j) tYes f m) σ' m s₁) ?_ N
  ⟨i, φ₁, ρ₁, σ₁, h₁, t₁, done, ys, r, rfl, R₁, F₁, ⟨hρ, it0, n0⟩, ⟨S₁, it, nI, hl, hv, nD⟩, hg, hr, hN⟩
 clear hN hr hg nD hv hl nI it F₁ R₁ S₁ it0 n0 hρ
 rintro m s₁ ⟨i, φ₁, ρ₁, σ₁, h₁, t₁, done, ys, r, rfl, R₁, F₁, ⟨hρ, it0, n0⟩, L, hg, hr, hN⟩
 cases m with
 | zero => cases hg
 | succ m =>
  unfold compGo at hg
  refine ob1 hg fun rr e1 hg => ?_
  show wpAny _ _ ((compTurn (.ListComp elt [g0, ⟨target, iter, [], 0⟩] scope pos) 1 (.ref I) (.ref D) cenv).onRaise (fun x => do noteFrame x cenv; theTreesLotGoes x)) _ _ _
  refine wpAny_noted ?_
  rw [compTurn_inner]
  refine wpAny_bind (wpAny_standAt (wpAny_bind ?_))
  have hqI := iter_q L.it
  cases rr with
  | none =>
   cases hg
   rw [List.append_nil] at hr
   subst hr
   refine next_end hA.handled R₁ L.it L.nI bI e1 fun h₂ t₂ kk S₂ R₂ => ?_
   exact wpAny_pure (k φ₁ h₂ t₂ ρ₁ ys (L.ss.but kk hI S₂.size) R₂ (F₁.step S₂ hqI (fun b w q => nFI (q ▸ w))) hρ (L.hl.keep fun o => kk D o (Ne.symm hID)) (VRL.mono S₂ hqI _ _ L.hv) L.nD (it0.step S₂ hqI fun o e => kk I0 o h0I e) n0)
  | some x =>
   refine ob2 hg fun ρ₂ σ₂ e2 hg => ?_
   refine ob2 hg fun b₃ σ₃ e3 hg => ?_
   cases e3
   rw [if_pos rfl] at hg
   have hρ₂ : ρ₂.set j .undef = ρ₀ := by
    unfold stA at e2
    cases e2
    rw [List.set_set]; exact hρ
   refine next_item hA.handled R₁ L.it L.nI bI e1 fun h₂ t₂ v kk S₂ R₂ hvx it₂ => ?_
   have F₂ := F₁.step S₂ hqI (fun b w q => nFI (q ▸ w))
   have it0₂ := it0.step S₂ hqI fun o e => kk I0 o h0I e
   refine wpAny_bind (letOwned it₂ ?_)
   have hqL : NoSeq (onlyL cenv) h₂ := fun b o xs n w e hc => F₂.noSeq b o xs n (.inl w) e hc
   refine wpAny_bind (ha A cenv φ₁ ρ₁ σ₁ _ x v ρ₂ σ₂ _ _ he hA F₂ R₂ hvx e2 fun φ₃ h₃ t₃ S₃ R₃ F₃ => ?_)
   have L₃ := (L.next S₂ kk hI it₂ hID).fresh S₃ (fun b w => by rw [show b = cenv.locals from w]; exact hC) hqL (fun w => nFI (.inl w)) (fun w => nFD (.inl w))
   have it0₃ := it0₂.step S₃ hqL fun o e => S₃.keep I0 o e n0 (fun w => nF0 (.inl w))
   have n0₃ := it0₂.nt S₃ n0
   refine ob2 hg fun y σ₅ e5 hg => ?_
   refine oq2 hg fun r' σ₆ e6 hg => ?_
   cases hg
   refine wpAny_bind (wpAny_bind (hx A cenv φ₃ ρ₂ σ₂ _ y σ₅ _ _ he hA F₃ R₃ e5 fun φ₅ h₅ t₅ y' S₅ R₅ hy => ?_))
   have L₅ := L₃.trans S₅
   refine wpAny_bind (Lst.append L₅.hl (fun h₆ hl₆ hs₆ => ?_) (by rw [List.size_toArray, L₅.hv.length]; exact big_le (om26 hN)))
   have hqD := list_noseq L₅.hl
   obtain ⟨S₆, R₆⟩ := at_but R₅ L₅.nD bD hqD (same_all hs₆) (by rw [hs₆.1]; exact Nat.le_refl _)
   exact wpAny_pure (wpAny_pure (And.intro rfl ⟨m, Nat.lt_succ_self _, i + 1, φ₅, ρ₂, σ₅, h₆, t₅, done ++ [y], ys ++ [y'], r', rfl, R₆, (F₃.exprStep S₅).step S₆ hqD (fun b w q => nFD (q ▸ w)),
    ⟨hρ₂, (it0₃.step S₅ (noSeq_no _) fun o e => S₅.keep I0 o e n0₃ id).step S₆ hqD (fun o e => same_all hs₆ I0 o h0D e), it0₃.nt S₅ n0₃⟩, L₅.push S₆ hqD (same_all hs₆) hD hID hl₆ hy, e6, by simpa using hr, by rw [List.length_append, List.length_singleton]; exact om27 hN⟩))
theorem get_gone {h : Heap} {b : Addr} (hb : h.objs.size ≤ b) : h.get? b = none := by
 cases q : h.get? b with
 | none => rfl
 | some o => exact absurd (Heap.lt_size q) (Nat.not_lt.mpr hb)
inductive NI (c : Cx) (φ₃ : Phi) (h₃ : Heap) (σ₃ : Hp) (src2 : Src) (s : Shared) (r : Value) (s' : Shared) : Prop
 | mk (φ₄ : Phi) (h₄ : Heap) (t₄ : Nat) (I2 : Addr) (_ : r = .ref I2) (_ : s' = { s with heap := h₄, toks := t₄ }) (_ : Step NoW φ₃ h₃ φ₄ h₄) (_ : c.R φ₄ σ₃ h₄) (_ : IterAt φ₄ h₄ src2 I2 0) (_ : h₃.objs.size ≤ I2) (_ : ¬ Tr φ₄ I2) : NI c φ₃ h₃ σ₃ src2 s r s'
theorem comp_outer {sc' : Scope} {nmc : List Str} {elt target iter target2 iter2 : Expr} {scope : Scope} {pos : Pos} {src : Src} {a : Asg} {mk2 : Mk} {j : Nat} {f : Fn} {M N : Nat} {cenv : Env} {A : Around}
  (ha : SA c sc' nmc n onlyL target a) (hi2 : SI c sc' nmc n iter2 mk2) (ha2 : SA c sc' nmc n onlyL target2 (stA j)) (hx : SE c sc' nmc n elt f) (hs2 : ∀ env x, foldedSetIterable iter2 env x = pure x) (haj : ∀ x ρ σ ρ' σ', a x ρ σ = some (ρ', σ') → ρ'[j]? = ρ[j]?)
  (he : cenv.scope = sc') (hA : Room n A)
  {s : Shared} {I D : Addr} {vs : List V} {σ' : Hp} (hI : s.heap.get? I = none) (hD : s.heap.get? D = none) (hC : s.heap.get? cenv.locals = none) (bI : c.hb.get? I = none) (bD : c.hb.get? D = none) (hID : I ≠ D) (nFI : ¬ FA cenv I) (nFD : ¬ FA cenv D)
  {Rr : Result → Shared → Prop}
  (k : ∀ φ' h' t' ys, Step NoW φ s.heap φ' h' → c.R φ' σ' h' → Lst h' D (List.toArray ys) → VRL φ' h' vs ys → ¬ Tr φ' D → (∃ m, h'.Ns cenv.locals m) → ¬ Tr φ' cenv.locals → Rr (.ok .next) { s with heap := h', toks := t' })
  {i : Nat} {φ₁ : Phi} {ρ₁ : Loc} {σ₁ : Hp} {h₁ : Heap} {t₁ : Nat} {ys : List Value} {done r : List V}
  (S₁ : Step NoW φ s.heap φ₁ h₁) (R₁ : c.R φ₁ σ₁ h₁) (F₁ : Frame c.hb nmc cenv φ₁ ρ₁ h₁) (hρ : ρ₁[j]? = some .undef) (it : IterAt φ₁ h₁ src I i) (nI : ¬ Tr φ₁ I) (hl : Lst h₁ D (List.toArray ys)) (hv : VRL φ₁ h₁ done ys) (nD : ¬ Tr φ₁ D)
  (hg : compGo2 src a mk2 j f M N i ρ₁ σ₁ = some (r, σ')) (hr : vs = done ++ r) (hN : done.length + N * M ≤ big) :
  codeAny c.M A (.compLoop (.ListComp elt [⟨target, iter, [], 0⟩, ⟨target2, iter2, [], 0⟩] scope pos) 0 (.ref I) (.ref D) cenv) Rr { s with heap := h₁, toks := t₁ } := by
 refine codeAny_loop rfl (fun m s₁ => CL c φ s nmc cenv src I D vs (fun _ _ ρ => ρ[j]? = some .undef) (compGo2 src a mk2 j f M m) σ' (m * M) s₁) ?_ N
  ⟨i, φ₁, ρ₁, σ₁, h₁, t₁, done, ys, r, rfl, R₁, F₁, hρ, ⟨S₁, it, nI, hl, hv, nD⟩, hg, hr, hN⟩
 clear hN hr hg nD hv hl nI it F₁ R₁ S₁ hρ
 rintro m s₁ ⟨i, φ₁, ρ₁, σ₁, h₁, t₁, done, ys, r, rfl, R₁, F₁, hρ, L, hg, hr, hN⟩
 cases m with
 | zero => cases hg
 | succ m =>
  unfold compGo2 at hg
  refine ob1 hg fun rr e1 hg => ?_
  show wpAny _ _ ((compTurn (.ListComp elt [⟨target, iter, [], 0⟩, ⟨target2, iter2, [], 0⟩] scope pos) 0 (.ref I) (.ref D) cenv).onRaise (fun x => do noteFrame x cenv; theTreesLotGoes x)) _ _ _
  refine wpAny_noted ?_
  rw [compTurn_outer]
  refine wpAny_bind (wpAny_standAt (wpAny_bind ?_))
  have hqI := iter_q L.it
  cases rr with
  | none =>
   cases hg
   rw [List.append_nil] at hr
   subst hr
   refine next_end hA.handled R₁ L.it L.nI bI e1 fun h₂ t₂ kk S₂ R₂ => ?_
   refine wpAny_pure ?_
   obtain ⟨m', hn', _⟩ := (F₁.step S₂ hqI (fun b w q => nFI (q ▸ w))).ns
   exact k φ₁ h₂ t₂ ys (L.ss.but kk hI S₂.size) R₂ (L.hl.keep fun o => kk D o (Ne.symm hID)) (VRL.mono S₂ hqI _ _ L.hv) L.nD ⟨m', hn'⟩ (F₁.nt _ (.inl rfl))
  | some x =>
   refine ob2 hg fun ρ₂ σ₂ e2 hg => ?_
   refine ob2 hg fun src2 σ₃ e3 hg => ?_
   refine ob2 hg fun r₁ σ₄ e4 hg => ?_
   refine oq2 hg fun r₂ σ₅ e5 hg => ?_
   cases hg
   have hρ₂ : ρ₂[j]? = some .undef := (haj _ _ _ _ _ e2).trans hρ
   have hρ₃ : ρ₂.set j .undef = ρ₂ := by
    obtain ⟨lt, e⟩ := List.getElem?_eq_some_iff.mp hρ₂
    have := List.set_getElem_self (as := ρ₂) lt
    rwa [e] at this
   refine next_item hA.handled R₁ L.it L.nI bI e1 fun h₂ t₂ v kk S₂ R₂ hvx it₂ => ?_
   have F₂ := F₁.step S₂ hqI (fun b w q => nFI (q ▸ w))
   refine wpAny_bind (letOwned it₂ ?_)
   refine wpAny_bind (ha A cenv φ₁ ρ₁ σ₁ _ x v ρ₂ σ₂ _ _ he hA F₂ R₂ hvx e2 fun φ₃ h₃ t₃ S₃ R₃ F₃ => ?_)
   have L₃ := (L.next S₂ kk hI it₂ hID).fresh S₃ (fun b w => by rw [show b = cenv.locals from w]; exact hC) (fun b o xs n w e hc => F₂.noSeq b o xs n (.inl w) e hc) (fun w => nFI (.inl w)) (fun w => nFD (.inl w))
   refine wpAny_bind (wpAny_mono (hi2 A cenv φ₃ ρ₂ σ₂ _ src2 σ₃ (fun r s' => NI c φ₃ h₃ σ₃ src2 s r s') _ he hA F₃ R₃ e3 fun φ₄ h₄ t₄ I2 S₄ R₄ it4 hI2 nI2 => ⟨φ₄, h₄, t₄, I2, rfl, rfl, S₄, R₄, it4, hI2, nI2⟩) (fun y s' hy => ?_) fun _ _ e => e)
   refine wpAny_bind (wpAny_standAt ?_)
   rw [hs2]
   refine wpAny_bind (wpAny_pure (wpAny_bind (wpAny_holding (wpAny_mono hy (fun r s'' hr' => ?_) fun _ _ e => e))))
   obtain ⟨φ₄, h₄, t₄, I2, rfl, rfl, S₄, R₄, it4, hI2, nI2⟩ := hr'
   have L₄ := L₃.trans S₄
   have g2 := get_gone hI2
   have hI2s := get_gone (Nat.le_trans L₃.ss.size hI2)
   have hI2D : I2 ≠ D := fun q => by obtain ⟨n', ho⟩ := L₃.hl; rw [← q, g2] at ho; cases ho
   have hI2I : I ≠ I2 := fun q => by obtain ⟨o, T, vs, ho, _⟩ := iter_obj L₃.it; rw [q, g2] at ho; cases ho
   have hlen := compGo_len e4
   have hmM : (m + 1) * M = m * M + M := Nat.succ_mul m M
   refine wpAny_bind (wpAny_runOwn (codeAny_compStart_inner ?_ (iter_self it4 ?_ hA.handled)))
   all_goals
    exact comp_inner (i := 0) (ys := ys) (done := done) (r := r₁) (vs := done ++ r₁) (σ' := σ₄) (src0 := src) (I0 := I) (i0 := i + 1) (ρ₀ := ρ₂) ha2 hx he hA hI2s hD hC (new_hb R₃ hI2) bD hI2D (fun w => by obtain ⟨o, e⟩ := F₃.alive I2 w; rw [g2] at e; cases e) nFD hI2I hID nFI
     (fun φ₅ h₅ t₆ ρ₅ zs S₅ R₅ F₅ hρ₅ hl₅ hv₅ nD₅ it₅ nI₅ =>
      wpAny_pure (And.intro rfl ⟨m, Nat.lt_succ_self _, i + 1, φ₅, ρ₂, σ₄, h₅, t₆, done ++ r₁, zs, r₂, rfl, R₅, F₅.forget hρ₅, hρ₂, ⟨S₅, it₅, nI₅, hl₅, hv₅, nD₅⟩, e5, by rw [hr, List.append_assoc], by rw [List.length_append]; exact om86 hN hlen hmM⟩))
     L₄.ss R₄ (F₃.exprStep S₄) hρ₃ it4 nI2 L₄.it L₄.nI L₄.hl L₄.hv L₄.nD e4 rfl (om85 hN hmM)
theorem comp_block2 {own : List Str} {caps : List (Nat × Str)} {elt target iter target2 iter2 : Expr} {scope : Scope} {pos : Pos} {mk : Mk} {a : Asg} {mk2 : Mk} {j : Nat} {f : Fn} {M N : Nat}
  (ok : CompOk nm sc scope own caps) (hi : SI c sc nm n iter mk) (ha : SA c (relabelS scope sc) (compNm own caps) n onlyL target a) (hi2 : SI c (relabelS scope sc) (compNm own caps) n iter2 mk2) (ha2 : SA c (relabelS scope sc) (compNm own caps) n onlyL target2 (stA j)) (hx : SE c (relabelS scope sc) (compNm own caps) n elt f)
  (hs : ∀ env x, foldedSetIterable iter env x = pure x) (hs2 : ∀ env x, foldedSetIterable iter2 env x = pure x) (haj : ∀ x ρ σ ρ' σ', a x ρ σ = some (ρ', σ') → ρ'[j]? = ρ[j]?) (hj : j < own.length) (hN : N * M ≤ big)
  {A : Around} {σ σ' : Hp} {s : Shared} {v : V} {E : Value → Shared → Prop} {use : Option (Value → Sem Unit)} {Q : Value → Shared → Prop} (he : env.scope = sc) (hA : Room n A) (F : Frame c.hb nm env φ ρ s.heap) (R : c.R φ σ s.heap)
  (hf : cComp2 mk own.length caps a mk2 j f M N ρ σ = some (v, σ'))
  (k : ∀ φ' h' t' v' C, Step NoW φ s.heap φ' h' → c.R φ' σ' h' → VR φ' h' v v' → (∃ m, h'.Ns C m) → ¬ Tr φ' C → c.hb.get? C = none → s.heap.get? C = none → compPost c.M A E use Q v' C (.ok .next) { s with heap := h', toks := t' }) :
  wpAny c.M A (comprehension (.ListComp elt [⟨target, iter, [], 0⟩, ⟨target2, iter2, [], 0⟩] scope pos) scope env (firstIterPos [⟨target, iter, [], 0⟩, ⟨target2, iter2, [], 0⟩] pos) (newList []) false (eval iter env) use) Q E s := by
 unfold cComp2 at hf
 refine ob2 hf fun src σ₁ h1 hf => ?_
 refine ob2 hf fun vs σ₂ h2 hf => ?_
 cases hf
 have hclos : ∀ x ∈ freeNames scope, (env.cells.lookup x).isSome = true := fun x hx => by
  rw [ok.free] at hx
  obtain ⟨p, hp, rfl⟩ := List.mem_map.mp hx
  obtain ⟨q, hq⟩ := F.celx _ ((kindOf_eq he p.2).trans (ok.caps p hp).2.1)
  rw [hq]; rfl
 refine wpAny_comprehension_free rfl (hs env) (closure_of scope hclos) ok.kind ok.locals ?_
 refine hi A env φ ρ σ s src σ₁ _ E he hA F R h1 fun φ₁ h₁ t₁ I S₁ R₁ it hI nI => ?_
 refine wpAny_newList ?_
 have bI : c.hb.get? I = none := new_hb R hI
 have hl₀ : Lst (h₁.push { cls := .type "list", data := .seq (List.toArray ([] : List Value)) }) h₁.objs.size (List.toArray ([] : List Value)) := Lst.new _ _
 have hsz1 : (h₁.push { cls := .type "list", data := .seq (List.toArray ([] : List Value)) }).objs.size = h₁.objs.size + 1 := Heap.size_push _ _
 generalize hH2 : h₁.push { cls := .type "list", data := .seq (List.toArray ([] : List Value)) } = H2 at hl₀ hsz1
 have S₂ : Step NoW φ₁ h₁ φ₁ H2 := hH2 ▸ push_step _
 have R₂ : c.R φ₁ σ₁ H2 := hH2 ▸ push_R R₁ _
 refine wpAny_newFunctionEnv ok.nocell (by intro y hy; cases hy) (fun h₃ hns₃ hsb₃ => ?_) ok.kind
 show codeAny _ _ (.compStart _ 0 (.ref I) (.ref h₁.objs.size) (compEnvC scope (clOf scope env) H2.objs.size env)) _ _
 dsimp only at hns₃ hsb₃
 have g₃ : ∀ b o, H2.get? b = some o → h₃.get? b = some o := fun b o e => hsb₃.extBut b o (Nat.ne_of_lt (Heap.lt_size e)) (Heap.get?_push_of_some _ e)
 have z₃ : H2.objs.size ≤ h₃.objs.size := by rw [hsb₃.1, Heap.size_push]; exact Nat.le_succ _
 have S₃ : Step NoW φ₁ H2 φ₁ h₃ := Step.grow g₃ z₃
 have R₃ : c.R φ₁ σ₁ h₃ := R₂.grow g₃ z₃
 have S13 := (S₁.trans S₂).trans S₃
 have sz : s.heap.objs.size ≤ h₁.objs.size := S₁.size
 have gone : ∀ a, s.heap.objs.size ≤ a → s.heap.get? a = none := fun a ha => by
  cases q : s.heap.get? a with
  | none => rfl
  | some o => exact absurd (Heap.lt_size q) (Nat.not_lt.mpr ha)
 have szC : s.heap.objs.size ≤ H2.objs.size := by exact om29 hsz1 sz
 have nC : ¬ Tr φ₁ H2.objs.size := new_untr R₂ (Nat.le_refl _)
 have nD : ¬ Tr φ₁ h₁.objs.size := new_untr R₁ (Nat.le_refl _)
 have F₃ := F.exprStep S13
 have hIlt : I < h₁.objs.size := by obtain ⟨o, T, vs, ho, _⟩ := iter_obj it; exact Heap.lt_size ho
 have nf : ∀ {b : Addr}, s.heap.objs.size ≤ b → ¬ FA env b := fun hb w => by
  obtain ⟨o, e⟩ := F.alive _ w
  rw [gone _ hb] at e; cases e
 have CF : Frame c.hb (compNm own caps) (compEnvC scope (clOf scope env) H2.objs.size env) φ₁ (compLoc own.length caps ρ) h₃ :=
  comp_frame ok he F₃ hns₃ nC (new_hb R szC) fun b w q => nf szC (q ▸ w)
 have hfa : ∀ {b : Addr}, FA (compEnvC scope (clOf scope env) H2.objs.size env) b → b = H2.objs.size ∨ FA env b := fun {b} w => by
  rcases w with w | ⟨x, hx⟩
  ·exact .inl w
  ·obtain ⟨h1, e⟩ := cl_mem hx
   have := hclos x h1
   obtain ⟨a', ha'⟩ := Option.isSome_iff_exists.mp this
   refine .inr (.inr ⟨x, ?_⟩)
   have e' : cellAddr env x = a' := by unfold cellAddr; rw [ha']; rfl
   rw [e, e']
   exact mem_of_lookup ha'
 have it₃ : IterAt φ₁ h₃ src I 0 := it.step (S₂.trans S₃) (noSeq_no _) fun o e => g₃ I o (hH2 ▸ Heap.get?_push_of_some _ e)
 have loop : ∀ t₃, codeAny c.M A (.compLoop (.ListComp elt [⟨target, iter, [], 0⟩, ⟨target2, iter2, [], 0⟩] scope pos) 0 (.ref I) (.ref h₁.objs.size) (compEnvC scope (clOf scope env) H2.objs.size env)) (compPost c.M A E use Q (.ref h₁.objs.size) H2.objs.size) { s with heap := h₃, toks := t₃ } := fun t₃ =>
  comp_outer (i := 0) (ys := []) (done := []) (r := vs) ha hi2 ha2 hx hs2 haj (relabel_eq scope he) hA (gone I hI) (gone _ sz) (gone _ szC) bI (new_hb R sz) (Nat.ne_of_lt hIlt)
   (fun w => by
    rcases hfa w with q | q
    ·have q' : @Eq Nat I H2.objs.size := q
     have hl' : @LT.lt Nat _ I h₁.objs.size := hIlt
     exact om30 hsz1 q' hl'
    ·exact nf hI q) (fun w => by
    rcases hfa w with q | q
    ·have q' : @Eq Nat h₁.objs.size H2.objs.size := q
     exact om31 hsz1 q'
    ·exact nf sz q)
   (fun φ' h' t' ys S' R' hl' hv' nD' hn' nC' => by
    have bD := new_hb R sz
    refine k (φ' ++ [(h₁.objs.size, h₁.objs.size)]) h' t' (.ref h₁.objs.size) H2.objs.size ?_ (adopt R' nD' bD hl' hv') (ref_new R') hn' (fun t => ?_) (new_hb R szC) (gone _ szC)
    ·obtain ⟨tl, e⟩ := S'.ext
     refine ⟨⟨tl ++ [(h₁.objs.size, h₁.objs.size)], by rw [e]; simp⟩, S'.keep, fun b t nt => ?_, S'.size⟩
     rcases tr_snoc t with q | rfl
     ·exact S'.fresh b q nt
     ·exact sz
    ·rcases tr_snoc t with q | q
     ·exact nC' q
     ·have q' : @Eq Nat H2.objs.size h₁.objs.size := q
      exact om32 hsz1 q')
   S13 R₃ CF (by unfold compLoc; rw [List.getElem?_append_left (by simpa using hj), List.getElem?_replicate, if_pos hj]) it₃ nI (hl₀.keep fun o => g₃ _ o) VRL.nil nD h2 rfl (by simpa using hN)
 exact codeAny_compStart_list (loop _) (iter_self it₃ (loop _) hA.handled)
theorem SE.comp2 {own : List Str} {caps : List (Nat × Str)} {elt target iter target2 iter2 : Expr} {scope : Scope} {pos : Pos} {mk : Mk} {a : Asg} {mk2 : Mk} {j : Nat} {f : Fn} {M N : Nat}
  (ok : CompOk nm sc scope own caps) (hi : SI c sc nm n iter mk) (ha : SA c (relabelS scope sc) (compNm own caps) n onlyL target a) (hi2 : SI c (relabelS scope sc) (compNm own caps) n iter2 mk2) (ha2 : SA c (relabelS scope sc) (compNm own caps) n onlyL target2 (stA j)) (hx : SE c (relabelS scope sc) (compNm own caps) n elt f)
  (hs : ∀ env x, foldedSetIterable iter env x = pure x) (hs2 : ∀ env x, foldedSetIterable iter2 env x = pure x) (haj : ∀ x ρ σ ρ' σ', a x ρ σ = some (ρ', σ') → ρ'[j]? = ρ[j]?) (hj : j < own.length) (hN : N * M ≤ big) : SE c sc nm n (.ListComp elt [⟨target, iter, [], 0⟩, ⟨target2, iter2, [], 0⟩] scope pos) (cComp2 mk own.length caps a mk2 j f M N) := by
 intro A env φ ρ σ s v σ' Q E he hA F R hf k
 rw [eval_ListComp]
 refine comp_block2 ok hi ha hi2 ha2 hx hs hs2 haj hj hN he hA F R hf fun φ' h' t' v' C S' R' hv' hn nC bC gC => ?_
 obtain ⟨m, hn⟩ := hn
 refine ⟨m, hn, fun h'' hs'' => ?_⟩
 have hq : NoSeq (fun b => b = C) h' := fun b o xs n w e hc q => by
  subst w
  obtain ⟨o', _, _, ho, hd, _⟩ := hn
  rw [e] at ho; cases ho; rw [q] at hd; cases hd
 obtain ⟨S₂, R₂⟩ := at_but R' nC bC hq (same_all hs'') (by rw [hs''.1]; exact Nat.le_refl _)
 exact k φ' h'' _ v' (S'.but (same_all hs'') gC (by rw [hs''.1]; exact Nat.le_refl _)) R₂ (VR.mono S₂ hq _ _ hv')
end
section
open PySem PySem.W PyProof.Rows PySem.Calls
variable {c : Cx} {n : Nat}
noncomputable def bodyS : Stmt → List Stmt
 | .FunctionDef _ _ b .. => b
 | .ClassDef _ _ _ b .. => b
 | _ => []
noncomputable def scopeS : Stmt → Scope
 | .FunctionDef (scope := s) .. => s
 | _ => default
noncomputable def atS (l : List Stmt) (i : Nat) : Stmt := (l[i]?).getD (.Pass ⟨0,0,0,0⟩)
noncomputable def fnIn (K : Frag) (a : Addr) : Option FuncData := (K.lookup a).bind fun o => match o.data with
 | .func f => some f
 | _ => none
theorem fnIn_some {K : Frag} {a : Addr} {f : FuncData} (e : fnIn K a = some f) : ∃ oc od osl, K.lookup a = some ⟨oc, od, .func f, osl⟩ := by
 refine ob1 e fun o h e => ?_
 obtain ⟨oc, od, dd, osl⟩ := o
 cases dd <;> cases e
 exact ⟨_, _, _, h⟩
structure DefOk (K : Frag) (fa : Addr) (body : List Stmt) (sc : Scope) (ps : List Str) (f : FuncData) : Prop where
 at_ : fnIn K fa = some f
 shape : f = fnOf f.name f.qualname f.params body sc f.defaults f.kwdefaults f.doc f.pyModule f.annotations f.code f.closureTuple
 code : codeIn K f.code f.qualname = true
 binds : ∀ (vs : List Value) (s : Shared), K.In s.heap → vs.length = ps.length → BindsTo s f ⟨vs, []⟩ (ps.zip vs)
structure ScOk (sc : Scope) (ps : List Str) : Prop where
 kinds : ∀ x ∈ ps, sc.names.lookup x = some .local ∨ sc.names.lookup x = some .cell
 nd : ((cellsFrom 0 sc.names []).map (·.1)).Nodup
 nodup : ps.Nodup
 co : sc.isCoroutine = false
 gen : sc.isGenerator = false
 kind : sc.kind = .function
theorem def_call2 {fa : Addr} {body : List Stmt} {sc : Scope} {ps loc : List Str} {f : FuncData} {g : St} (d : DefOk c.K fa body sc ps f) (k : ScOk sc ps) (hb : SS c sc (ps ++ loc) n body g) : OpC c (n + 1) fa (runF ps.length loc.length g) := by
 obtain ⟨oc, od, osl, ho⟩ := fnIn_some d.at_
 have hbd := d.binds
 rw [d.shape] at ho
 rw [d.shape] at hbd
 exact def_call ho d.code hbd k.kinds k.nd k.nodup k.co k.gen k.kind hb
noncomputable def scChk (sc : Scope) (ps : List Str) : Bool := decide ((∀ x ∈ ps, sc.names.lookup x = some .local ∨ sc.names.lookup x = some .cell) ∧ ((cellsFrom 0 sc.names []).map (·.1)).Nodup ∧ ps.Nodup ∧ sc.isCoroutine = false ∧ sc.isGenerator = false ∧ sc.kind = .function)
theorem dc {fa : Addr} {body : List Stmt} {sc : Scope} {ps loc : List Str} {f : FuncData} {g : St} (d : DefOk c.K fa body sc ps f) (hb : SS c sc (ps ++ loc) n body g) (k : scChk sc ps = true := by kernel_rfl) : OpC c (n + 1) fa (runF ps.length loc.length g) := by
 obtain ⟨h1, h2, h3, h4, h5, h6⟩ := of_decide_eq_true k
 exact def_call2 d ⟨h1, h2, h3, h4, h5, h6⟩ hb
theorem len0 {α : Type} {vs : List α} (h : vs.length = 0) : vs = [] := List.length_eq_zero_iff.mp h
theorem lenS {α : Type} {n : Nat} {vs : List α} (h : vs.length = n + 1) : ∃ v t, vs = v :: t ∧ t.length = n := by
 cases vs with
 | nil => cases h
 | cons v t => exact ⟨v, t, rfl, Nat.succ.inj h⟩
theorem len1 {α : Type} {vs : List α} (h : vs.length = 1) : ∃ v0, vs = [v0] := by
 obtain ⟨v, t, rfl, h'⟩ := lenS h; cases List.length_eq_zero_iff.mp h'; exact ⟨v, rfl⟩
theorem len2 {α : Type} {vs : List α} (h : vs.length = 2) : ∃ v0 v1, vs = [v0, v1] := by
 obtain ⟨v0, t, rfl, h'⟩ := lenS h; obtain ⟨v1, rfl⟩ := len1 h'; exact ⟨v0, v1, rfl⟩
theorem len3 {α : Type} {vs : List α} (h : vs.length = 3) : ∃ v0 v1 v2, vs = [v0, v1, v2] := by
 obtain ⟨v0, t, rfl, h'⟩ := lenS h; obtain ⟨v1, v2, rfl⟩ := len2 h'; exact ⟨v0, v1, v2, rfl⟩
theorem len4 {α : Type} {vs : List α} (h : vs.length = 4) : ∃ v0 v1 v2 v3, vs = [v0, v1, v2, v3] := by
 obtain ⟨v0, t, rfl, h'⟩ := lenS h; obtain ⟨v1, v2, v3, rfl⟩ := len3 h'; exact ⟨v0, v1, v2, v3, rfl⟩
theorem len5 {α : Type} {vs : List α} (h : vs.length = 5) : ∃ v0 v1 v2 v3 v4, vs = [v0, v1, v2, v3, v4] := by
 obtain ⟨v0, t, rfl, h'⟩ := lenS h; obtain ⟨v1, v2, v3, v4, rfl⟩ := len4 h'; exact ⟨v0, v1, v2, v3, v4, rfl⟩
theorem len6 {α : Type} {vs : List α} (h : vs.length = 6) : ∃ v0 v1 v2 v3 v4 v5, vs = [v0, v1, v2, v3, v4, v5] := by
 obtain ⟨v0, t, rfl, h'⟩ := lenS h; obtain ⟨v1, v2, v3, v4, v5, rfl⟩ := len5 h'; exact ⟨v0, v1, v2, v3, v4, v5, rfl⟩
theorem asg2_other {x : V} {ρ ρ' : Loc} {σ σ' : Hp} {i k j : Nat} (e : asg2 (stA i) (stA k) x ρ σ = some (ρ', σ')) (h1 : i ≠ j) (h2 : k ≠ j) : ρ'[j]? = ρ[j]? := by
 refine onTup_t e fun l _ e => arg2_t e fun y z _ e => ?_
 cases e
 rw [List.getElem?_set_ne h2, List.getElem?_set_ne h1]
noncomputable def compChk (nm : List Str) (sc scope : Scope) (own : List Str) (caps : List (Nat × Str)) : Bool := decide (
 scope.kind = .function ∧ sc.kind = .function ∧ (∀ x ∈ scope.names, x.2 ≠ .cell) ∧ (∀ x ∈ scope.names, x.2 = .local → scope.names.lookup x.1 = some .local) ∧ freeNames scope = caps.map (·.2) ∧
 (∀ p ∈ caps, nm[p.1]? = some p.2 ∧ kindIn sc p.2 = some .cell ∧ kindIn (relabelS scope sc) p.2 = some .cell) ∧ (∀ x ∈ own, kindIn (relabelS scope sc) x = some .local) ∧ (∀ p ∈ (relabelS scope sc).names, p.2 = .cell → p.1 ∈ freeNames scope) ∧ (freeNames scope).Nodup)
theorem compOk {nm : List Str} {sc scope : Scope} {own : List Str} {caps : List (Nat × Str)} (h : compChk nm sc scope own caps = true) : CompOk nm sc scope own caps := by
 obtain ⟨h1, h2, h3, h4, h5, h6, h7, h8, h9⟩ := of_decide_eq_true h
 exact ⟨h1, h2, h3, h4, h5, h6, h7, fun x hx => h8 _ (mem_of_lookup hx) rfl, h9⟩
noncomputable def isStar : Expr → Bool
 | .Starred _ _ => true
 | _ => false
theorem st_ne {e : Expr} {es : List Expr} {env : Env} (h : isStar e = false) : starEach (e :: es) env = (false, eval e env) :: starEach es env := by
 cases e <;> first | rfl | (cases h)
end
section
open PySem PySem.W PyProof.Rows PySem.Calls
section
variable {c : Cx} {sc : Scope} {nm : List Str} {n : Nat}
noncomputable abbrev nmS (xs : List String) : List Str := xs.map Str.ofString
noncomputable def ndB (nm : List Str) : Bool := decide nm.Nodup
noncomputable def nnB (x : Str) : Bool := decide (x ≠ ("__name__" : Str))
noncomputable def kLC (sc : Scope) (x : Str) : Bool := decide (kindIn sc x = some .local ∨ kindIn sc x = some .cell)
noncomputable def kL (sc : Scope) (x : Str) : Bool := decide (kindIn sc x = some .local)
noncomputable def kN (sc : Scope) (x : Str) : Bool := kLC sc x && !(x == ("__debug__" : Str))
noncomputable def kG (sc : Scope) (x : Str) : Bool := decide (kindIn sc x = some .globalImplicit) && !(x == ("__debug__" : Str))
theorem kLC_t {x : Str} (h : kLC sc x = true) : kindIn sc x = some .local ∨ kindIn sc x = some .cell := of_decide_eq_true h
theorem kN_t {x : Str} (h : kN sc x = true) : kLC sc x = true ∧ (x == ("__debug__" : Str)) = false := by
 unfold kN at h; rw [Bool.and_eq_true] at h; exact ⟨h.1, by have := h.2; revert this; cases (x == ("__debug__" : Str)) <;> simp⟩
theorem kG_t {x : Str} (h : kG sc x = true) : kindIn sc x = some .globalImplicit ∧ (x == ("__debug__" : Str)) = false := by
 unfold kG at h; rw [Bool.and_eq_true] at h; exact ⟨of_decide_eq_true h.1, by have := h.2; revert this; cases (x == ("__debug__" : Str)) <;> simp⟩
theorem envC {P : Env → Prop} (h : ∀ e : Env, P { e with scope := sc }) : ∀ env, env.scope = sc → P env := fun env e => by subst e; exact h env
theorem N (i : Nat) {x pos} (hi : nm[i]? = some x := by rfl) (hc : kN sc x = true := by kernel_rfl) : SE c sc nm n (.Name x pos) (var i) := SE.name hi (kLC_t (kN_t hc).1) (kN_t hc).2
theorem L {e : Expr} {es : List Expr} {f : Fn} {g : FnL} (hx : SE c sc nm n e f) (hy : SL c sc nm n es g) (hs : isStar e = false := by rfl) : SL c sc nm n (e :: es) (consL f g) := SL.cons hx hy fun _ => st_ne hs
theorem Cm {l r : Expr} {op : CmpOp} {pos} {f g : Fn} {o} (hl : SE c sc nm n l f) (hr : SE c sc nm n r g) (ho : Op2 c (compareOp op) o) (hm : behindInMarks op r = false := by rfl) : SE c sc nm n (.Compare l [op] [r] pos) (bin2 o f g) := SE.cmp hl hr ho hm
theorem Tc {l r : Expr} {op : CmpOp} {pos} {f g : Fn} {o} (hl : SE c sc nm n l f) (hr : SE c sc nm n r g) (ho : Op2 c (compareOp op) o) (hm : behindInMarks op r = false := by rfl) : ST c sc nm n (.Compare l [op] [r] pos) (tst (bin2 o f g)) := ST.cmp hl hr ho hm
theorem At {x : Expr} {name pos} {f : Fn} {o} (hx : SE c sc nm n x f) (ho : Op1 c (fun v => getAttr v name true) o)
  (hh : ∀ env, eval (.Attribute x name pos) env = (do
   let o ← eval x env
   standAt pos.atName
   let r ← holding [o] (getAttr o name true)
   letTemporaryGo x o r
   pure r) := by intro _; rfl) : SE c sc nm n (.Attribute x name pos) (un1 o f) := SE.attr hx ho hh
theorem Sb {value slice : Expr} {pos} {f g : Fn} (hl : SE c sc nm n value f) (hr : SE c sc nm n slice g) (hs : ∀ o i, subscripted slice false o i = operate [o, i] (getItem o i) := by intro _ _; rfl) : SE c sc nm n (.Subscript value slice pos) (bin2 opItem f g) := SE.sub hl hr (op_item hs)
theorem Cg {x : Str} {p pos : Pos} {a : Addr} {e : Expr} {es : List Expr} {fs : FnL} {o} {m : Nat} (hg : nsIn c.K mainGlobals x = some (some (.ref a))) (hkp : keepIn c.K (.ref a) = true) (ha : SL c sc nm n (e :: es) fs) (ho : OpC c m a o)
  (hm : m ≤ n := by decide) (hq : kG sc x = true := by kernel_rfl) (hs : isStar e = false := by rfl) : SE c sc nm n (.Call (.Name x p) (e :: es) [] pos) (callL fs o) :=
 SE.callG (kG_t hq).1 (kG_t hq).2 hg hkp ha (fun _ => st_ne hs) (ho.op.mono hm)
theorem Cc {x : Str} {p pos : Pos} {a : Addr} {e : Expr} {es : List Expr} {fs : FnL} {o} {m : Nat} (hg : nsIn c.K mainGlobals x = some (some (.ref a))) (hkp : keepIn c.K (.ref a) = true) (ha : SL c sc nm n (e :: es) fs) (ho : OpL c m (fun vs => call (.ref a) vs) o)
  (hm : m ≤ n := by decide) (hq : kG sc x = true := by kernel_rfl) (hs : isStar e = false := by rfl) : SE c sc nm n (.Call (.Name x p) (e :: es) [] pos) (callL fs o) :=
 SE.callG (kG_t hq).1 (kG_t hq).2 hg hkp ha (fun _ => st_ne hs) (ho.mono hm)
theorem Cz {x : Str} {p pos : Pos} {a : Addr} {o} {m : Nat} (hg : nsIn c.K mainGlobals x = some (some (.ref a))) (hkp : keepIn c.K (.ref a) = true) (ho : OpC c m a o)
  (hm : m ≤ n := by decide) (hq : kG sc x = true := by kernel_rfl) : SE c sc nm n (.Call (.Name x p) [] [] pos) (callL nilL o) :=
 SE.callG0 (kG_t hq).1 (kG_t hq).2 hg hkp (ho.op.mono hm)
theorem Cb {x : Str} {p pos : Pos} {f : Value} {e : Expr} {es : List Expr} {fs : FnL} {o} (hc : Callee f) (hg : nsIn c.K mainGlobals x = some Option.none) (hb : bootBuiltins x = some f) (ha : SL c sc nm n (e :: es) fs) (ho : OpL c n (fun vs => call f vs) o)
  (hq : kG sc x = true := by kernel_rfl) (hx : nnB x = true := by kernel_rfl) (hs : isStar e = false := by rfl) : SE c sc nm n (.Call (.Name x p) (e :: es) [] pos) (callL fs o) :=
 SE.callB hc (kG_t hq).1 (kG_t hq).2 hg hb (of_decide_eq_true hx) ha (fun _ => st_ne hs) ho
theorem Me {x : Expr} {name : Str} {apos pos : Pos} {g : Value} {e : Expr} {es : List Expr} {p : V → Hp → Bool} {f : Fn} {fs : FnL} {o} (hx : SE c sc nm n x f) (hr : Recv c name g p) (hk : Keepable c g) (ha : SL c sc nm n (e :: es) fs) (ho : OpL c n (fun vs => call g vs) o)
  (hs : isStar e = false := by rfl) (hm : MethForm x name apos pos (e :: es) := by intro _; rfl) : SE c sc nm n (.Call (.Attribute x name apos) (e :: es) [] pos) (Mine.meth p f fs o) := SE.meth hx hr hk ha (fun _ => st_ne hs) ho hm
theorem Mo {x : Expr} {name : Str} {apos pos : Pos} {g : Addr} {e : Expr} {es : List Expr} {p : V → Hp → Bool} {f : Fn} {fs : FnL} {o} {m : Nat} (hx : SE c sc nm n x f) (hr : Recv c name (.ref g) p) (hk : keepIn c.K (.ref g) = true) (ha : SL c sc nm n (e :: es) fs) (ho : OpC c m g o)
  (hmn : m ≤ n := by decide) (hs : isStar e = false := by rfl) (hm : MethForm x name apos pos (e :: es) := by intro _; rfl) : SE c sc nm n (.Call (.Attribute x name apos) (e :: es) [] pos) (Mine.meth p f fs o) := SE.meth hx hr (.r hk) ha (fun _ => st_ne hs) (ho.op.mono hmn) hm
theorem Mz {x : Expr} {name : Str} {apos pos : Pos} {g : Addr} {p : V → Hp → Bool} {f : Fn} {o} {m : Nat} (hx : SE c sc nm n x f) (hr : Recv c name (.ref g) p) (hk : keepIn c.K (.ref g) = true) (ho : OpC c m g o)
  (hmn : m ≤ n := by decide) (hm : MethForm x name apos pos [] := by intro _; rfl) : SE c sc nm n (.Call (.Attribute x name apos) [] [] pos) (Mine.meth p f nilL o) := SE.meth0 hx hr (.r hk) (ho.op.mono hmn) hm
theorem Tv {x : Expr} {f : Fn} (hx : SE c sc nm n x f) (hh : ∀ env whole, isTrue x env whole = (do let v ← whole; standAt x.pos; holding [v] (truthy v)) := by intro _ _; rfl) : ST c sc nm n x (tst f) := ST.val hx hh
theorem Na (i : Nat) {x pos} (hnd : ndB nm = true := by kernel_rfl) (hi : nm[i]? = some x := by rfl) (hc : kLC sc x = true := by kernel_rfl) : SA c sc nm n FA (.Name x pos) (stA i) := SA.name (of_decide_eq_true hnd) hi (kLC_t hc)
theorem Nl (i : Nat) {x pos} (hnd : ndB nm = true := by kernel_rfl) (hi : nm[i]? = some x := by rfl) (hc : kL sc x = true := by kernel_rfl) : SA c sc nm n onlyL (.Name x pos) (stA i) := SA.nameL (of_decide_eq_true hnd) hi (of_decide_eq_true hc)
theorem As {t value : Expr} {pos} {f : Fn} {a : Asg} (hx : SE c sc nm n value f) (ht : SA c sc nm n FA t a)
  (hs : ∀ env, env.scope = sc → swapsWithSole [t] value pos.line env = pure false := by exact envC fun _ => rfl) (hs2 : ∀ env, env.scope = sc → swappedStores [t] value env = pure none := by exact envC fun _ => rfl) (he1 : ∀ env, assignEach [t] env = [(false, PySem.assign t env)] := by intro _; rfl) :
  S1 c sc nm n (.Assign [t] value pos) (sAsg f a) := S1.assign hx ht hs hs2 he1
theorem Ex {e : Expr} {pos} {f : Fn} (hx : SE c sc nm n e f) (hs : ∀ env, swapsWith e none pos.line env = pure false := by intro _; rfl) : S1 c sc nm n (.Expr e pos) (sExpr f) := S1.expr hx hs
theorem Fo {t iter : Expr} {b : List Stmt} {pos} {mk : Mk} {a : Asg} {f : St} {N : Nat} (hi : SI c sc nm n iter mk) (ha : SA c sc nm n FA t a) (hb : SS c sc nm n b f) (hs : ∀ env x, foldedSetIterable iter env x = pure x := by intro _ _; rfl) : S1 c sc nm n (.For t iter b [] pos) (sFor mk a f N) := S1.for hi ha hb hs
theorem Co (own : List Str) {caps : List (Nat × Str)} {elt target iter : Expr} {ifs : List Expr} {scope : Scope} {pos : Pos} {mk : Mk} {a : Asg} {t : Loc → Hp → Option (Bool × Hp)} {f : Fn} {N : Nat}
  (hi : SI c sc nm n iter mk) (ha : SA c (relabelS scope sc) (compNm own caps) n onlyL target a) (ht : STs c (relabelS scope sc) (compNm own caps) n ifs t) (hx : SE c (relabelS scope sc) (compNm own caps) n elt f)
  (ok : compChk nm sc scope own caps = true := by kernel_rfl) (hs : ∀ env x, foldedSetIterable iter env x = pure x := by intro _ _; rfl) (hN : N ≤ big := by decide) : SE c sc nm n (.ListComp elt [⟨target, iter, ifs, 0⟩] scope pos) (cComp mk own.length caps a t f N) := SE.comp (compOk ok) hi ha ht hx hs hN
theorem Ca (own : List Str) {caps : List (Nat × Str)} {elt target iter : Expr} {ifs : List Expr} {scope : Scope} {pos spos : Pos} {mk : Mk} {a : Asg} {t : Loc → Hp → Option (Bool × Hp)} {f : Fn} {N : Nat} {tg : Expr} {g : Asg}
  (hi : SI c sc nm n iter mk) (ha : SA c (relabelS scope sc) (compNm own caps) n onlyL target a) (ht : STs c (relabelS scope sc) (compNm own caps) n ifs t) (hx : SE c (relabelS scope sc) (compNm own caps) n elt f) (hg : SA c sc nm n FA tg g)
  (ok : compChk nm sc scope own caps = true := by kernel_rfl) (hs : ∀ env x, foldedSetIterable iter env x = pure x := by intro _ _; rfl) (hN : N ≤ big := by decide)
  (hsw : ∀ env, env.scope = sc → swapsWithSole [tg] (.ListComp elt [⟨target, iter, ifs, 0⟩] scope pos) spos.line env = pure true := by exact envC fun _ => rfl) (he1 : ∀ env, assignEach [tg] env = [(false, PySem.assign tg env)] := by intro _; rfl) :
  S1 c sc nm n (.Assign [tg] (.ListComp elt [⟨target, iter, ifs, 0⟩] scope pos) spos) (sAsg (cComp mk own.length caps a t f N) g) := S1.assignComp (compOk ok) hi ha ht hx hs hN hg hsw he1
end
noncomputable def main : List Stmt := PySem.Challenge.pw_no0379_01.main.body
noncomputable def flds0 : Nat → List Str := fun n => if n = 52 then (nmS ["text"]) else if n = 105 then (nmS ["box", "is_readonly", "uses_modseq", "uses_vanished", "uids", "flags", "modseqs"]) else if n = 289 then (nmS ["uid", "octets", "flags", "instant", "modseq"]) else if n = 327 then (nmS ["name", "validity", "next_uid", "top", "floor", "letters", "gone"]) else []
noncomputable def cls0 : List Addr := [52, 105, 289, 327]
noncomputable def tF : List (Addr × Str) := cls0.flatMap fun C => (flds0 C).map fun x => (C, x)
noncomputable def tI : List (Addr × Addr) := [(52, 42), (105, 69), (289, 272), (327, 307)]
noncomputable def tR : List (Addr × Str × Addr) := [(105, Str.ofString "number_of", 76), (105, Str.ofString "told", 102), (327, Str.ofString "letter", 314), (327, Str.ofString "uids", 319)]
noncomputable def tD : List (Addr × Stmt × List Str) := [(42, (atS (bodyS (atS main 4)) 0), nmS ["self", "text"]), (272, (atS (bodyS (atS main 31)) 0), nmS ["self", "uid", "octets", "flags", "instant", "modseq"]), (307, (atS (bodyS (atS main 32)) 0), nmS ["self", "name", "validity"]), (338, (atS main 33), nmS ["letters", "uid"]), (314, (atS (bodyS (atS main 32)) 1), nmS ["self", "uid"]), (319, (atS (bodyS (atS main 32)) 2), nmS ["self"]), (237, (atS main 27), nmS []), (244, (atS main 28), nmS ["text"]), (251, (atS main 29), nmS ["text"]), (258, (atS main 30), nmS ["flags"]), (345, (atS main 34), nmS ["box"]), (352, (atS main 35), nmS ["box", "octets", "flags", "instant"]), (359, (atS main 36), nmS ["box", "uid", "flags"]), (364, (atS main 37), nmS ["box", "uids"]), (69, (atS (bodyS (atS main 6)) 0), nmS ["self", "box", "is_readonly", "uses_modseq", "uses_vanished"]), (116, (atS main 7), nmS ["uids", "uid"]), (76, (atS (bodyS (atS main 6)) 1), nmS ["self", "uid"]), (102, (atS (bodyS (atS main 6)) 5), nmS ["self"]), (123, (atS main 8), nmS ["view", "letter"]), (130, (atS main 9), nmS ["view", "uid"]), (137, (atS main 10), nmS ["view", "letter"]), (142, (atS main 11), nmS ["view"]), (147, (atS main 12), nmS ["view"]), (152, (atS main 13), nmS ["view", "letter"]), (159, (atS main 14), nmS ["view"]), (28, (atS main 2), nmS ["numbers"]), (164, (atS main 15), nmS ["view", "uid"]), (171, (atS main 16), nmS ["view"]), (178, (atS main 17), nmS ["view"]), (185, (atS main 18), nmS ["view", "may_expunge"]), (190, (atS main 19), nmS ["view"]), (371, (atS main 39), nmS ["pen", "many"]), (378, (atS main 40), nmS []), (383, (atS main 41), nmS ["pen", "box"]), (388, (atS main 42), nmS ["box", "view", "copy", "answers"]), (393, (atS main 43), nmS ["box", "view", "copy", "may"]), (398, (atS main 44), nmS ["script"])]
noncomputable def tA : List (String × Addr) := [("place_of", 338), ("system_flags", 237), ("is_keyword", 244), ("flag_name", 251), ("flag_tuple", 258), ("raised", 345), ("add_letter", 352), ("set_flags", 359), ("expunge", 364), ("place_among", 116), ("note", 123), ("keep_silent", 130), ("is_stale", 137), ("gone_uids", 142), ("new_letters", 147), ("flag_pairs", 152), ("flag_news", 159), ("ranges_of", 28), ("forget", 164), ("expunge_news", 171), ("arrival_news", 178), ("news", 185), ("is_up_to_date", 190), ("_law_draw", 371), ("_law_flags", 378), ("_law_begun", 383), ("_law_taken", 388), ("_law_news_right", 393), ("law", 398), ("Atom", 52), ("View", 105), ("Letter", 289), ("Box", 327)]
noncomputable def tN : List String := ["len", "sum", "sorted", "ord", "tuple", "list", "dict", "int", "range"]
noncomputable def tK : List Addr := tA.map (·.2) ++ tR.map (·.2.2)
noncomputable def fo (K : Frag) (a : Addr) : FuncData := (fnIn K a).getD default
noncomputable def notList (o : Obj) : Bool := match o.cls with
 | .type n => !(n == "list")
 | _ => true
structure KF (K : Frag) : Prop where
 at_ : tA.map (fun p => nsIn K mainGlobals (Str.ofString p.1)) = tA.map fun p => some (some (.ref p.2))
 keep : tK.map (fun a => keepIn K (.ref a)) = tK.map fun _ => true
 nob : tN.map (fun x => nsIn K mainGlobals (Str.ofString x)) = tN.map fun _ => some none
 gS : nsIn K mainGlobals (Str.ofString "SYSTEM") = some (some (.str g_SYSTEM 481))
 gN : nsIn K mainGlobals (Str.ofString "NO_KEYWORD") = some (some (.str g_NO_KEYWORD 483))
 gM : nsIn K mainGlobals (Str.ofString "MOST_KEYWORD") = some (some (.int 60 485))
 c1 : cls0.map (fun C => findIn K (.ref C) "__getattribute__") = cls0.map fun _ => some (some (.builtin "object.__getattribute__"))
 c2 : cls0.map (fun C => findIn K (.ref C) "__getattr__") = cls0.map fun _ => some none
 c3 : cls0.map (fun C => findIn K (.ref C) "__setattr__") = cls0.map fun _ => some (some (.builtin "object.__setattr__"))
 c4 : cls0.map (fun C => hasDictIn K C) = cls0.map fun _ => true
 c5 : cls0.map (fun C => plainOver K C) = cls0.map fun _ => true
 get : tF.map (fun p => findIn K (.ref p.1) p.2) = tF.map fun _ => some none
 take : tF.map (fun p => takerIn K p.1 p.2) = tF.map fun _ => some none
 r1 : tR.map (fun p => findIn K (.ref p.1) p.2.1) = tR.map fun p => some (some (.ref p.2.2))
 r2 : tR.map (fun p => typeIn K (.ref p.2.2)) = tR.map fun _ => some (.type "function")
 i1 : tI.map (fun p => makesIn K p.1) = tI.map fun _ => true
 i2 : tI.map (fun p => findIn K (.ref p.1) "__init__") = tI.map fun p => some (some (.ref p.2))
 i3 : tI.map (fun p => typeIn K (.ref p.2)) = tI.map fun _ => some (.type "function")
 d1 : tD.map (fun q => fnIn K q.1) = tD.map fun q => some (fo K q.1)
 d2 : tD.map (fun q => fo K q.1) = tD.map fun q => let f := fo K q.1; fnOf f.name f.qualname f.params (bodyS q.2.1) (scopeS q.2.1) f.defaults f.kwdefaults f.doc f.pyModule f.annotations f.code f.closureTuple
 d3 : tD.map (fun q => codeIn K (fo K q.1).code (fo K q.1).qualname) = tD.map fun _ => true
 d4 : ∀ a b c d e f : Value, tD.map (fun q => if q.1 = 69 then none else some (bindArgs (fo K q.1) ⟨[a, b, c, d, e, f].take q.2.2.length, []⟩)) = tD.map fun q => if q.1 = 69 then none else some (pure (q.2.2.zip ([a, b, c, d, e, f].take q.2.2.length)))
 d5 : ∀ (p : Program) (P : Params) (v0 v1 v2 v3 v4 : Value), peek K ⟨p, P⟩ (bindArgs (fo K 69) ⟨[v0, v1, v2, v3, v4], []⟩) = some ((nmS ["self", "box", "is_readonly", "uses_modseq", "uses_vanished"]).zip [v0, v1, v2, v3, v4])
 noList : K.all (fun p => notList p.2) = true
structure Ck where
 c : Cx
 F : KF c.K
 hfl : c.flds = flds0
theorem tb {α β : Type} {f g : α → β} {x : α} : ∀ {l : List α}, l.map f = l.map g → x ∈ l → f x = g x
 | y :: l, h, m => by
  rw [List.map_cons, List.map_cons, List.cons.injEq] at h
  rcases List.mem_cons.mp m with rfl | m
  ·exact h.1
  ·exact tb h.2 m
theorem at_ (k : Ck) {x : String} {a : Addr} (h : tA.elem (x, a) = true := by kernel_rfl) : nsIn k.c.K mainGlobals (Str.ofString x) = some (some (.ref a)) := tb k.F.at_ (List.elem_iff.mp h)
theorem keep_ (k : Ck) {a : Addr} (h : tK.elem a = true := by kernel_rfl) : keepIn k.c.K (.ref a) = true := tb k.F.keep (List.elem_iff.mp h)
theorem nob_ (k : Ck) {x : String} (h : tN.elem x = true := by kernel_rfl) : nsIn k.c.K mainGlobals (Str.ofString x) = some none := tb k.F.nob (List.elem_iff.mp h)
theorem ok_ (k : Ck) {C : Addr} (h : cls0.elem C = true) : ClsOk k.c C := by
 have m := List.elem_iff.mp h
 refine ⟨tb k.F.c1 m, tb k.F.c2 m, tb k.F.c3 m, tb k.F.c4 m, tb k.F.c5 m, ?_⟩
 rw [k.hfl]
 have : ∀ C ∈ cls0, (flds0 C).Nodup := by decide +kernel
 exact this C m
theorem tF_mem {C i : Nat} {x : Str} (h : cls0.elem C = true) (hi : (flds0 C)[i]? = some x) : (C, x) ∈ tF := List.mem_flatMap.mpr ⟨C, List.elem_iff.mp h, List.mem_map.mpr ⟨x, List.mem_of_getElem? hi, rfl⟩⟩
theorem get_ (k : Ck) {C i : Nat} {x : Str} (h : cls0.elem C = true) (hi : (flds0 C)[i]? = some x) : Op1 k.c (fun v => getAttr v x true) (getA C i) := op_getA (ok_ k h) (by rw [k.hfl]; exact hi) (attr := none) (tb k.F.get (tF_mem h hi)) rfl handed_VR
theorem set_ (k : Ck) {C i : Nat} {x : Str} (h : cls0.elem C = true) (hi : (flds0 C)[i]? = some x) : OpU2 k.c (fun ov v => setAttr ov x v) (setA C i) := op_setA (ok_ k h) (by rw [k.hfl]; exact hi) (tb k.F.take (tF_mem h hi))
theorem recv_ (k : Ck) {C f : Addr} {x : Str} (h : cls0.elem C = true) (m : (C, x, f) ∈ tR) (hx : x ∉ flds0 C) : Recv k.c x (.ref f) (isInst C) := recv_inst (ok_ k h) (tb k.F.r1 m) (tb k.F.r2 m) (by rw [k.hfl]; exact hx)
theorem cls_ (k : Ck) {C fI n : Nat} {init} (h : tI.elem (C, fI) = true) (hI : OpC k.c n fI init) : OpL k.c (n + 1) (fun vs => call (.ref C) vs) (mkInst C init) := by
 have m := List.elem_iff.mp h
 exact cls_call (tb k.F.i1 m) (tb k.F.i2 m) (tb k.F.i3 m) hI
theorem six : ∀ vs : List Value, vs.length ≤ 6 → ∃ a b c d e f, vs = [a, b, c, d, e, f].take vs.length := fun vs h => by
 refine ⟨vs.getD 0 .none, vs.getD 1 .none, vs.getD 2 .none, vs.getD 3 .none, vs.getD 4 .none, vs.getD 5 .none, ?_⟩
 rcases vs with _ | ⟨a, _ | ⟨b, _ | ⟨c, _ | ⟨d, _ | ⟨e, _ | ⟨f, _ | ⟨g, r⟩⟩⟩⟩⟩⟩⟩ <;> first | rfl | exact absurd h (by simp)
theorem do_ (k : Ck) (i : Nat) {a : Addr} {st : Stmt} {ps : List Str} (h : tD[i]? = some (a, st, ps)) (h6 : ps.length ≤ 6) (ha : a ≠ 69) : DefOk k.c.K a (bodyS st) (scopeS st) ps (fo k.c.K a) := by
 have m := List.mem_of_getElem? h
 refine ⟨tb k.F.d1 m, tb k.F.d2 m, tb k.F.d3 m, fun vs s X e => ?_⟩
 obtain ⟨v0, v1, v2, v3, v4, v5, q⟩ := six vs (by rw [e]; exact h6)
 have := tb (k.F.d4 v0 v1 v2 v3 v4 v5) m
 dsimp only at this
 rw [if_neg ha, if_neg ha, ← e, ← q] at this
 intro M A E Q hq
 rw [Option.some.inj this]
 exact wpAny_pure hq
theorem do_View_init (k : Ck) : DefOk k.c.K 69 (bodyS (atS (bodyS (atS main 6)) 0)) (scopeS (atS (bodyS (atS main 6)) 0)) (nmS ["self", "box", "is_readonly", "uses_modseq", "uses_vanished"]) (fo k.c.K 69) := by
 have m : ((69, atS (bodyS (atS main 6)) 0, nmS ["self", "box", "is_readonly", "uses_modseq", "uses_vanished"]) : Addr × Stmt × List Str) ∈ tD := List.mem_of_getElem? (i := 14) rfl
 refine ⟨tb k.F.d1 m, tb k.F.d2 m, tb k.F.d3 m, fun vs s X e => ?_⟩
 obtain ⟨v0, v1, v2, v3, v4, rfl⟩ := len5 e
 intro M A E Q hq Γ p hΓ
 exact wp_of_peek X hq _ (k.F.d5 M.prog M.w.params v0 v1 v2 v3 v4)
theorem get_Atom_text (k : Ck) : Op1 k.c (fun v => getAttr v (Str.ofString "text") true) (getA 52 0) := get_ k rfl rfl
theorem set_Atom_text (k : Ck) : OpU2 k.c (fun ov v => setAttr ov (Str.ofString "text") v) (setA 52 0) := set_ k rfl rfl
theorem get_View_box (k : Ck) : Op1 k.c (fun v => getAttr v (Str.ofString "box") true) (getA 105 0) := get_ k rfl rfl
theorem set_View_box (k : Ck) : OpU2 k.c (fun ov v => setAttr ov (Str.ofString "box") v) (setA 105 0) := set_ k rfl rfl
theorem get_View_is_readonly (k : Ck) : Op1 k.c (fun v => getAttr v (Str.ofString "is_readonly") true) (getA 105 1) := get_ k rfl rfl
theorem set_View_is_readonly (k : Ck) : OpU2 k.c (fun ov v => setAttr ov (Str.ofString "is_readonly") v) (setA 105 1) := set_ k rfl rfl
theorem get_View_uses_modseq (k : Ck) : Op1 k.c (fun v => getAttr v (Str.ofString "uses_modseq") true) (getA 105 2) := get_ k rfl rfl
theorem set_View_uses_modseq (k : Ck) : OpU2 k.c (fun ov v => setAttr ov (Str.ofString "uses_modseq") v) (setA 105 2) := set_ k rfl rfl
theorem get_View_uses_vanished (k : Ck) : Op1 k.c (fun v => getAttr v (Str.ofString "uses_vanished") true) (getA 105 3) := get_ k rfl rfl
theorem set_View_uses_vanished (k : Ck) : OpU2 k.c (fun ov v => setAttr ov (Str.ofString "uses_vanished") v) (setA 105 3) := set_ k rfl rfl
theorem get_View_uids (k : Ck) : Op1 k.c (fun v => getAttr v (Str.ofString "uids") true) (getA 105 4) := get_ k rfl rfl
theorem set_View_uids (k : Ck) : OpU2 k.c (fun ov v => setAttr ov (Str.ofString "uids") v) (setA 105 4) := set_ k rfl rfl
theorem get_View_flags (k : Ck) : Op1 k.c (fun v => getAttr v (Str.ofString "flags") true) (getA 105 5) := get_ k rfl rfl
theorem set_View_flags (k : Ck) : OpU2 k.c (fun ov v => setAttr ov (Str.ofString "flags") v) (setA 105 5) := set_ k rfl rfl
theorem get_View_modseqs (k : Ck) : Op1 k.c (fun v => getAttr v (Str.ofString "modseqs") true) (getA 105 6) := get_ k rfl rfl
theorem set_View_modseqs (k : Ck) : OpU2 k.c (fun ov v => setAttr ov (Str.ofString "modseqs") v) (setA 105 6) := set_ k rfl rfl
theorem get_Letter_uid (k : Ck) : Op1 k.c (fun v => getAttr v (Str.ofString "uid") true) (getA 289 0) := get_ k rfl rfl
theorem set_Letter_uid (k : Ck) : OpU2 k.c (fun ov v => setAttr ov (Str.ofString "uid") v) (setA 289 0) := set_ k rfl rfl
theorem get_Letter_octets (k : Ck) : Op1 k.c (fun v => getAttr v (Str.ofString "octets") true) (getA 289 1) := get_ k rfl rfl
theorem set_Letter_octets (k : Ck) : OpU2 k.c (fun ov v => setAttr ov (Str.ofString "octets") v) (setA 289 1) := set_ k rfl rfl
theorem get_Letter_flags (k : Ck) : Op1 k.c (fun v => getAttr v (Str.ofString "flags") true) (getA 289 2) := get_ k rfl rfl
theorem set_Letter_flags (k : Ck) : OpU2 k.c (fun ov v => setAttr ov (Str.ofString "flags") v) (setA 289 2) := set_ k rfl rfl
theorem get_Letter_instant (k : Ck) : Op1 k.c (fun v => getAttr v (Str.ofString "instant") true) (getA 289 3) := get_ k rfl rfl
theorem set_Letter_instant (k : Ck) : OpU2 k.c (fun ov v => setAttr ov (Str.ofString "instant") v) (setA 289 3) := set_ k rfl rfl
theorem get_Letter_modseq (k : Ck) : Op1 k.c (fun v => getAttr v (Str.ofString "modseq") true) (getA 289 4) := get_ k rfl rfl
theorem set_Letter_modseq (k : Ck) : OpU2 k.c (fun ov v => setAttr ov (Str.ofString "modseq") v) (setA 289 4) := set_ k rfl rfl
theorem get_Box_name (k : Ck) : Op1 k.c (fun v => getAttr v (Str.ofString "name") true) (getA 327 0) := get_ k rfl rfl
theorem set_Box_name (k : Ck) : OpU2 k.c (fun ov v => setAttr ov (Str.ofString "name") v) (setA 327 0) := set_ k rfl rfl
theorem get_Box_validity (k : Ck) : Op1 k.c (fun v => getAttr v (Str.ofString "validity") true) (getA 327 1) := get_ k rfl rfl
theorem set_Box_validity (k : Ck) : OpU2 k.c (fun ov v => setAttr ov (Str.ofString "validity") v) (setA 327 1) := set_ k rfl rfl
theorem get_Box_next_uid (k : Ck) : Op1 k.c (fun v => getAttr v (Str.ofString "next_uid") true) (getA 327 2) := get_ k rfl rfl
theorem set_Box_next_uid (k : Ck) : OpU2 k.c (fun ov v => setAttr ov (Str.ofString "next_uid") v) (setA 327 2) := set_ k rfl rfl
theorem get_Box_top (k : Ck) : Op1 k.c (fun v => getAttr v (Str.ofString "top") true) (getA 327 3) := get_ k rfl rfl
theorem set_Box_top (k : Ck) : OpU2 k.c (fun ov v => setAttr ov (Str.ofString "top") v) (setA 327 3) := set_ k rfl rfl
theorem get_Box_floor (k : Ck) : Op1 k.c (fun v => getAttr v (Str.ofString "floor") true) (getA 327 4) := get_ k rfl rfl
theorem set_Box_floor (k : Ck) : OpU2 k.c (fun ov v => setAttr ov (Str.ofString "floor") v) (setA 327 4) := set_ k rfl rfl
theorem get_Box_letters (k : Ck) : Op1 k.c (fun v => getAttr v (Str.ofString "letters") true) (getA 327 5) := get_ k rfl rfl
theorem set_Box_letters (k : Ck) : OpU2 k.c (fun ov v => setAttr ov (Str.ofString "letters") v) (setA 327 5) := set_ k rfl rfl
theorem get_Box_gone (k : Ck) : Op1 k.c (fun v => getAttr v (Str.ofString "gone") true) (getA 327 6) := get_ k rfl rfl
theorem set_Box_gone (k : Ck) : OpU2 k.c (fun ov v => setAttr ov (Str.ofString "gone") v) (setA 327 6) := set_ k rfl rfl
theorem recv_View_number_of (k : Ck) : Recv k.c (Str.ofString "number_of") (.ref 76) (isInst 105) := recv_ k rfl (List.mem_of_getElem? (i := 0) rfl) (by decide +kernel)
theorem recv_View_told (k : Ck) : Recv k.c (Str.ofString "told") (.ref 102) (isInst 105) := recv_ k rfl (List.mem_of_getElem? (i := 1) rfl) (by decide +kernel)
theorem recv_Box_letter (k : Ck) : Recv k.c (Str.ofString "letter") (.ref 314) (isInst 327) := recv_ k rfl (List.mem_of_getElem? (i := 2) rfl) (by decide +kernel)
theorem recv_Box_uids (k : Ck) : Recv k.c (Str.ofString "uids") (.ref 319) (isInst 327) := recv_ k rfl (List.mem_of_getElem? (i := 3) rfl) (by decide +kernel)
set_option maxHeartbeats 4000000
theorem sb_Atom_init (k : Ck) : SS k.c (scopeS (atS (bodyS (atS main 4)) 0)) ((nmS ["self", "text"]) ++ (nmS [])) 0 (bodyS (atS (bodyS (atS main 4)) 0)) f_Atom_init_body :=
 (SS.one (As (N 1) (SA.attr (N 0) (set_Atom_text k))))
theorem s_Atom_init (k : Ck) : OpC k.c 1 42 f_Atom_init := dc (loc := (nmS [])) (g := f_Atom_init_body) (do_ k 0 rfl (by decide) (by decide)) (sb_Atom_init k)
theorem s_Atom (k : Ck) : OpL k.c 2 (fun vs => call (.ref 52) vs) (mkInst 52 f_Atom_init) := cls_ k rfl (s_Atom_init k)
theorem sb_Letter_init (k : Ck) : SS k.c (scopeS (atS (bodyS (atS main 31)) 0)) ((nmS ["self", "uid", "octets", "flags", "instant", "modseq"]) ++ (nmS [])) 0 (bodyS (atS (bodyS (atS main 31)) 0)) f_Letter_init_body :=
 (SS.cons (As (N 1) (SA.attr (N 0) (set_Letter_uid k))) (SS.cons (As (N 2) (SA.attr (N 0) (set_Letter_octets k))) (SS.cons (As (Cb (.t _) (nob_ k) bt_tuple (L (N 3) SL.nil) b_tuple) (SA.attr (N 0) (set_Letter_flags k))) (SS.cons (As (N 4) (SA.attr (N 0) (set_Letter_instant k))) (SS.one (As (N 5) (SA.attr (N 0) (set_Letter_modseq k))))))))
theorem s_Letter_init (k : Ck) : OpC k.c 1 272 f_Letter_init := dc (loc := (nmS [])) (g := f_Letter_init_body) (do_ k 1 rfl (by decide) (by decide)) (sb_Letter_init k)
theorem s_Letter (k : Ck) : OpL k.c 2 (fun vs => call (.ref 289) vs) (mkInst 289 f_Letter_init) := cls_ k rfl (s_Letter_init k)
theorem sb_Box_init (k : Ck) : SS k.c (scopeS (atS (bodyS (atS main 32)) 0)) ((nmS ["self", "name", "validity"]) ++ (nmS [])) 0 (bodyS (atS (bodyS (atS main 32)) 0)) f_Box_init_body :=
 (SS.cons (As (N 1) (SA.attr (N 0) (set_Box_name k))) (SS.cons (As (N 2) (SA.attr (N 0) (set_Box_validity k))) (SS.cons (As SE.int (SA.attr (N 0) (set_Box_next_uid k))) (SS.cons (As SE.int (SA.attr (N 0) (set_Box_top k))) (SS.cons (As SE.int (SA.attr (N 0) (set_Box_floor k))) (SS.cons (As (SE.list SL.nil) (SA.attr (N 0) (set_Box_letters k))) (SS.one (As (SE.list SL.nil) (SA.attr (N 0) (set_Box_gone k))))))))))
theorem s_Box_init (k : Ck) : OpC k.c 1 307 f_Box_init := dc (loc := (nmS [])) (g := f_Box_init_body) (do_ k 2 rfl (by decide) (by decide)) (sb_Box_init k)
theorem s_Box (k : Ck) : OpL k.c 2 (fun vs => call (.ref 327) vs) (mkInst 327 f_Box_init) := cls_ k rfl (s_Box_init k)
theorem sb_place_of (k : Ck) : SS k.c (scopeS (atS main 33)) ((nmS ["letters", "uid"]) ++ (nmS ["low", "high", "middle"])) 0 (bodyS (atS main 33)) f_place_of_body :=
 (SS.cons (S1.swap (SE.tup (L SE.int (L (Cb (.b _) (nob_ k) bt_len (L (N 0) SL.nil) b_len) SL.nil))) (by decide +kernel) (i := 2) (j := 3) rfl rfl (by decide +kernel) (by decide +kernel) (envC fun _ => rfl) (envC fun _ => rfl)) (SS.cons (S1.while (Tc (N 2) (N 3) op_lt) (SS.cons (As (SE.bin (SE.bin (N 2) (N 3) op_add) SE.int op_fdiv) (Na 4)) (SS.one (S1.ifs (Tc (At (Sb (N 0) (N 4)) (get_Letter_uid k)) (N 1) op_lt) (SS.one (As (SE.bin (N 4) SE.int op_add) (Na 2))) (SS.one (As (N 4) (Na 3))))))) (SS.cons (S1.ifs (ST.and (Tc (N 2) (Cb (.b _) (nob_ k) bt_len (L (N 0) SL.nil) b_len) op_lt) (Tc (At (Sb (N 0) (N 2)) (get_Letter_uid k)) (N 1) op_eq)) (SS.one (S1.ret (N 2))) SS.nil) (SS.one (S1.ret (SE.un SE.int op_neg))))))
theorem s_place_of (k : Ck) : OpC k.c 1 338 f_place_of := dc (loc := (nmS ["low", "high", "middle"])) (g := f_place_of_body) (do_ k 3 rfl (by decide) (by decide)) (sb_place_of k)
theorem sb_Box_letter (k : Ck) : SS k.c (scopeS (atS (bodyS (atS main 32)) 1)) ((nmS ["self", "uid"]) ++ (nmS ["at"])) 1 (bodyS (atS (bodyS (atS main 32)) 1)) f_Box_letter_body :=
 (SS.cons (As (Cg (at_ k) (keep_ k) (L (At (N 0) (get_Box_letters k)) (L (N 1) SL.nil)) (s_place_of k)) (Na 2)) (SS.one (S1.ret (SE.ifE (Tc (N 2) SE.int op_ge) (Sb (At (N 0) (get_Box_letters k)) (N 2)) SE.none))))
theorem s_Box_letter (k : Ck) : OpC k.c 2 314 f_Box_letter := dc (loc := (nmS ["at"])) (g := f_Box_letter_body) (do_ k 4 rfl (by decide) (by decide)) (sb_Box_letter k)
theorem sb_Box_uids (k : Ck) : SS k.c (scopeS (atS (bodyS (atS main 32)) 2)) ((nmS ["self"]) ++ (nmS [])) 0 (bodyS (atS (bodyS (atS main 32)) 2)) f_Box_uids_body :=
 (SS.one (S1.ret (Co (nmS ["letter"]) (SI.val (At (N 0) (get_Box_letters k))) (Nl 0) STs.nil (At (N 0) (get_Letter_uid k)))))
theorem s_Box_uids (k : Ck) : OpC k.c 1 319 f_Box_uids := dc (loc := (nmS [])) (g := f_Box_uids_body) (do_ k 5 rfl (by decide) (by decide)) (sb_Box_uids k)
theorem sb_system_flags (k : Ck) : SS k.c (scopeS (atS main 27)) ((nmS []) ++ (nmS [])) 0 (bodyS (atS main 27)) f_system_flags_body :=
 (SS.one (S1.ret (Me (SE.gname (by decide +kernel) (by decide +kernel) k.F.gS) recv_split (.b _) (L SE.str SL.nil) m_split)))
theorem s_system_flags (k : Ck) : OpC k.c 1 237 f_system_flags := dc (loc := (nmS [])) (g := f_system_flags_body) (do_ k 6 rfl (by decide) (by decide)) (sb_system_flags k)
theorem sb_is_keyword (k : Ck) : SS k.c (scopeS (atS main 28)) ((nmS ["text"]) ++ (nmS ["sign"])) 0 (bodyS (atS main 28)) f_is_keyword_body :=
 (SS.cons (S1.ifs (ST.not (ST.chain2 SE.int (Cb (.b _) (nob_ k) bt_len (L (N 0) SL.nil) b_len) (SE.gint (by decide +kernel) (by decide +kernel) k.F.gM) op_le op_le rfl)) (SS.one (S1.ret SE.bool)) SS.nil) (SS.cons (Fo (SI.val (N 0)) (Na 1) (SS.one (S1.ifs (ST.or (ST.not (ST.chain2 SE.int (Cb (.b _) (nob_ k) bt_ord (L (N 1) SL.nil) b_ord) SE.int op_lt op_lt rfl)) (Tc (N 1) (SE.gname (by decide +kernel) (by decide +kernel) k.F.gN) op_in)) (SS.one (S1.ret SE.bool)) SS.nil))) (SS.one (S1.ret SE.bool))))
theorem s_is_keyword (k : Ck) : OpC k.c 1 244 f_is_keyword := dc (loc := (nmS ["sign"])) (g := f_is_keyword_body) (do_ k 7 rfl (by decide) (by decide)) (sb_is_keyword k)
theorem sb_flag_name (k : Ck) : SS k.c (scopeS (atS main 29)) ((nmS ["text"]) ++ (nmS ["name"])) 1 (bodyS (atS main 29)) f_flag_name_body :=
 (SS.cons (Fo (SI.val (Cz (at_ k) (keep_ k) (s_system_flags k))) (Na 1) (SS.one (S1.ifs (Tc (SE.meth0 (N 0) recv_lower (.b _) m_lower (fun _ => rfl)) (SE.meth0 (N 1) recv_lower (.b _) m_lower (fun _ => rfl)) op_eq) (SS.one (S1.ret (N 1))) SS.nil))) (SS.cons (S1.ifs (ST.not (Tv (Cg (at_ k) (keep_ k) (L (N 0) SL.nil) (s_is_keyword k)))) (SS.one S1.bot) SS.nil) (SS.one (S1.ret (N 0)))))
theorem s_flag_name (k : Ck) : OpC k.c 2 251 f_flag_name := dc (loc := (nmS ["name"])) (g := f_flag_name_body) (do_ k 8 rfl (by decide) (by decide)) (sb_flag_name k)
theorem sb_flag_tuple (k : Ck) : SS k.c (scopeS (atS main 30)) ((nmS ["flags"]) ++ (nmS ["found", "text", "name"])) 2 (bodyS (atS main 30)) f_flag_tuple_body :=
 (SS.cons (As (SE.list SL.nil) (Na 1)) (SS.cons (Fo (SI.val (N 0)) (Na 2) (SS.cons (As (Cg (at_ k) (keep_ k) (L (N 2) SL.nil) (s_flag_name k)) (Na 3)) (SS.one (S1.ifs (Tc (N 3) (N 1) op_notIn) (SS.one (Ex (Me (N 1) recv_append (.b _) (L (N 3) SL.nil) m_append))) SS.nil)))) (SS.one (S1.ret (Cb (.t _) (nob_ k) bt_tuple (L (Cb (.b _) (nob_ k) bt_sorted (L (N 1) SL.nil) b_sorted) SL.nil) b_tuple)))))
theorem s_flag_tuple (k : Ck) : OpC k.c 3 258 f_flag_tuple := dc (loc := (nmS ["found", "text", "name"])) (g := f_flag_tuple_body) (do_ k 9 rfl (by decide) (by decide)) (sb_flag_tuple k)
theorem sb_raised (k : Ck) : SS k.c (scopeS (atS main 34)) ((nmS ["box"]) ++ (nmS [])) 0 (bodyS (atS main 34)) f_raised_body :=
 (SS.cons (As (SE.bin (At (N 0) (get_Box_top k)) SE.int op_add) (SA.attr (N 0) (set_Box_top k))) (SS.one (S1.ret (At (N 0) (get_Box_top k)))))
theorem s_raised (k : Ck) : OpC k.c 1 345 f_raised := dc (loc := (nmS [])) (g := f_raised_body) (do_ k 10 rfl (by decide) (by decide)) (sb_raised k)
theorem sb_add_letter (k : Ck) : SS k.c (scopeS (atS main 35)) ((nmS ["box", "octets", "flags", "instant"]) ++ (nmS ["names", "letter"])) 3 (bodyS (atS main 35)) f_add_letter_body :=
 (SS.cons (As (Cg (at_ k) (keep_ k) (L (N 2) SL.nil) (s_flag_tuple k)) (Na 4)) (SS.cons (As (Cc (at_ k) (keep_ k) (L (At (N 0) (get_Box_next_uid k)) (L (N 1) (L (N 4) (L (N 3) (L (Cg (at_ k) (keep_ k) (L (N 0) SL.nil) (s_raised k)) SL.nil))))) (s_Letter k)) (Na 5)) (SS.cons (As (SE.bin (At (N 0) (get_Box_next_uid k)) SE.int op_add) (SA.attr (N 0) (set_Box_next_uid k))) (SS.cons (Ex (Me (At (N 0) (get_Box_letters k)) recv_append (.b _) (L (N 5) SL.nil) m_append)) (SS.one (S1.ret (N 5)))))))
theorem s_add_letter (k : Ck) : OpC k.c 4 352 f_add_letter := dc (loc := (nmS ["names", "letter"])) (g := f_add_letter_body) (do_ k 11 rfl (by decide) (by decide)) (sb_add_letter k)
theorem sb_set_flags (k : Ck) : SS k.c (scopeS (atS main 36)) ((nmS ["box", "uid", "flags"]) ++ (nmS ["names", "at", "letter"])) 3 (bodyS (atS main 36)) f_set_flags_body :=
 (SS.cons (As (Cg (at_ k) (keep_ k) (L (N 2) SL.nil) (s_flag_tuple k)) (Na 3)) (SS.cons (As (Cg (at_ k) (keep_ k) (L (At (N 0) (get_Box_letters k)) (L (N 1) SL.nil)) (s_place_of k)) (Na 4)) (SS.cons (S1.ifs (Tc (N 4) SE.int op_lt) (SS.one S1.bot) SS.nil) (SS.cons (As (Sb (At (N 0) (get_Box_letters k)) (N 4)) (Na 5)) (SS.cons (S1.ifs (Tc (At (N 5) (get_Letter_flags k)) (N 3) op_eq) (SS.one (S1.ret SE.bool)) SS.nil) (SS.cons (As (Cc (at_ k) (keep_ k) (L (N 1) (L (At (N 5) (get_Letter_octets k)) (L (N 3) (L (At (N 5) (get_Letter_instant k)) (L (Cg (at_ k) (keep_ k) (L (N 0) SL.nil) (s_raised k)) SL.nil))))) (s_Letter k)) (SA.sub (At (N 0) (get_Box_letters k)) (N 4) op_set)) (SS.one (S1.ret SE.bool))))))))
theorem s_set_flags (k : Ck) : OpC k.c 4 359 f_set_flags := dc (loc := (nmS ["names", "at", "letter"])) (g := f_set_flags_body) (do_ k 12 rfl (by decide) (by decide)) (sb_set_flags k)
theorem sb_expunge (k : Ck) : SS k.c (scopeS (atS main 37)) ((nmS ["box", "uids"]) ++ (nmS ["wanted", "uid", "there", "modseq"])) 1 (bodyS (atS main 37)) f_expunge_body :=
 (SS.cons (As SE.dict0 (Na 2)) (SS.cons (Fo (SI.val (N 1)) (Na 3) (SS.one (As SE.bool (SA.sub (N 2) (N 3) op_set)))) (SS.cons (Ca (nmS ["uid"]) (SI.val (Mz (N 0) (recv_Box_uids k) (keep_ k) (s_Box_uids k))) (Nl 0) (STs.one (Tc (N 0) (N 1) op_in)) (N 0) (Na 4)) (SS.cons (S1.ifs (Tc (N 4) (SE.list SL.nil) op_eq) (SS.one (S1.ret (SE.list SL.nil))) SS.nil) (SS.cons (As (Cg (at_ k) (keep_ k) (L (N 0) SL.nil) (s_raised k)) (Na 5)) (SS.cons (As (Co (nmS ["letter"]) (SI.val (At (N 0) (get_Box_letters k))) (Nl 0) (STs.one (Tc (At (N 0) (get_Letter_uid k)) (N 1) op_notIn)) (N 0)) (SA.attr (N 0) (set_Box_letters k))) (SS.cons (As (SE.bin (At (N 0) (get_Box_gone k)) (Co (nmS ["uid"]) (SI.val (N 4)) (Nl 0) STs.nil (SE.tup (L (N 0) (L (N 1) SL.nil)))) op_add) (SA.attr (N 0) (set_Box_gone k))) (SS.one (S1.ret (N 4))))))))))
theorem s_expunge (k : Ck) : OpC k.c 2 364 f_expunge := dc (loc := (nmS ["wanted", "uid", "there", "modseq"])) (g := f_expunge_body) (do_ k 13 rfl (by decide) (by decide)) (sb_expunge k)
theorem sb_View_init (k : Ck) : SS k.c (scopeS (atS (bodyS (atS main 6)) 0)) ((nmS ["self", "box", "is_readonly", "uses_modseq", "uses_vanished"]) ++ (nmS [])) 1 (bodyS (atS (bodyS (atS main 6)) 0)) f_View_init_body :=
 (SS.cons (As (N 1) (SA.attr (N 0) (set_View_box k))) (SS.cons (As (N 2) (SA.attr (N 0) (set_View_is_readonly k))) (SS.cons (As (N 3) (SA.attr (N 0) (set_View_uses_modseq k))) (SS.cons (As (N 4) (SA.attr (N 0) (set_View_uses_vanished k))) (SS.cons (As (Mz (N 1) (recv_Box_uids k) (keep_ k) (s_Box_uids k)) (SA.attr (N 0) (set_View_uids k))) (SS.cons (As (Cb (.t _) (nob_ k) bt_dict (L (Co (nmS ["letter"]) (SI.val (At (N 1) (get_Box_letters k))) (Nl 0) STs.nil (SE.tup (L (At (N 0) (get_Letter_uid k)) (L (At (N 0) (get_Letter_flags k)) SL.nil)))) SL.nil) b_dict) (SA.attr (N 0) (set_View_flags k))) (SS.one (As (Cb (.t _) (nob_ k) bt_dict (L (Co (nmS ["letter"]) (SI.val (At (N 1) (get_Box_letters k))) (Nl 0) STs.nil (SE.tup (L (At (N 0) (get_Letter_uid k)) (L (At (N 0) (get_Letter_modseq k)) SL.nil)))) SL.nil) b_dict) (SA.attr (N 0) (set_View_modseqs k))))))))))
theorem s_View_init (k : Ck) : OpC k.c 2 69 f_View_init := dc (loc := (nmS [])) (g := f_View_init_body) (do_View_init k) (sb_View_init k)
theorem s_View (k : Ck) : OpL k.c 3 (fun vs => call (.ref 105) vs) (mkInst 105 f_View_init) := cls_ k rfl (s_View_init k)
theorem sb_place_among (k : Ck) : SS k.c (scopeS (atS main 7)) ((nmS ["uids", "uid"]) ++ (nmS ["low", "high", "middle"])) 0 (bodyS (atS main 7)) f_place_among_body :=
 (SS.cons (S1.swap (SE.tup (L SE.int (L (Cb (.b _) (nob_ k) bt_len (L (N 0) SL.nil) b_len) SL.nil))) (by decide +kernel) (i := 2) (j := 3) rfl rfl (by decide +kernel) (by decide +kernel) (envC fun _ => rfl) (envC fun _ => rfl)) (SS.cons (S1.while (Tc (N 2) (N 3) op_lt) (SS.cons (As (SE.bin (SE.bin (N 2) (N 3) op_add) SE.int op_fdiv) (Na 4)) (SS.one (S1.ifs (Tc (Sb (N 0) (N 4)) (N 1) op_lt) (SS.one (As (SE.bin (N 4) SE.int op_add) (Na 2))) (SS.one (As (N 4) (Na 3))))))) (SS.one (S1.ret (SE.ifE (ST.and (Tc (N 2) (Cb (.b _) (nob_ k) bt_len (L (N 0) SL.nil) b_len) op_lt) (Tc (Sb (N 0) (N 2)) (N 1) op_eq)) (N 2) (SE.un SE.int op_neg))))))
theorem s_place_among (k : Ck) : OpC k.c 1 116 f_place_among := dc (loc := (nmS ["low", "high", "middle"])) (g := f_place_among_body) (do_ k 15 rfl (by decide) (by decide)) (sb_place_among k)
theorem sb_View_number_of (k : Ck) : SS k.c (scopeS (atS (bodyS (atS main 6)) 1)) ((nmS ["self", "uid"]) ++ (nmS [])) 1 (bodyS (atS (bodyS (atS main 6)) 1)) f_View_number_of_body :=
 (SS.one (S1.ret (SE.bin (Cg (at_ k) (keep_ k) (L (At (N 0) (get_View_uids k)) (L (N 1) SL.nil)) (s_place_among k)) SE.int op_add)))
theorem s_View_number_of (k : Ck) : OpC k.c 2 76 f_View_number_of := dc (loc := (nmS [])) (g := f_View_number_of_body) (do_ k 16 rfl (by decide) (by decide)) (sb_View_number_of k)
theorem sb_View_told (k : Ck) : SS k.c (scopeS (atS (bodyS (atS main 6)) 5)) ((nmS ["self"]) ++ (nmS [])) 0 (bodyS (atS (bodyS (atS main 6)) 5)) f_View_told_body :=
 (SS.one (S1.ret (Cb (.t _) (nob_ k) bt_tuple (L (Co (nmS ["uid"]) (SI.val (At (N 0) (get_View_uids k))) (Nl 0) STs.nil (SE.tup (L (N 0) (L (Sb (At (N 1) (get_View_flags k)) (N 0)) (L (Sb (At (N 1) (get_View_modseqs k)) (N 0)) SL.nil))))) SL.nil) b_tuple)))
theorem s_View_told (k : Ck) : OpC k.c 1 102 f_View_told := dc (loc := (nmS [])) (g := f_View_told_body) (do_ k 17 rfl (by decide) (by decide)) (sb_View_told k)
theorem sb_note (k : Ck) : SS k.c (scopeS (atS main 8)) ((nmS ["view", "letter"]) ++ (nmS [])) 0 (bodyS (atS main 8)) f_note_body :=
 (SS.cons (As (At (N 1) (get_Letter_flags k)) (SA.sub (At (N 0) (get_View_flags k)) (At (N 1) (get_Letter_uid k)) op_set)) (SS.one (As (At (N 1) (get_Letter_modseq k)) (SA.sub (At (N 0) (get_View_modseqs k)) (At (N 1) (get_Letter_uid k)) op_set))))
theorem s_note (k : Ck) : OpC k.c 1 123 f_note := dc (loc := (nmS [])) (g := f_note_body) (do_ k 18 rfl (by decide) (by decide)) (sb_note k)
theorem sb_keep_silent (k : Ck) : SS k.c (scopeS (atS main 9)) ((nmS ["view", "uid"]) ++ (nmS ["letter"])) 2 (bodyS (atS main 9)) f_keep_silent_body :=
 (SS.cons (As (Mo (At (N 0) (get_View_box k)) (recv_Box_letter k) (keep_ k) (L (N 1) SL.nil) (s_Box_letter k)) (Na 2)) (SS.one (S1.ifs (ST.and (Tc (N 2) SE.none op_isNot) (Tc (N 1) (At (N 0) (get_View_flags k)) op_in)) (SS.one (Ex (Cg (at_ k) (keep_ k) (L (N 0) (L (N 2) SL.nil)) (s_note k)))) SS.nil)))
theorem s_keep_silent (k : Ck) : OpC k.c 3 130 f_keep_silent := dc (loc := (nmS ["letter"])) (g := f_keep_silent_body) (do_ k 19 rfl (by decide) (by decide)) (sb_keep_silent k)
theorem sb_is_stale (k : Ck) : SS k.c (scopeS (atS main 10)) ((nmS ["view", "letter"]) ++ (nmS [])) 0 (bodyS (atS main 10)) f_is_stale_body :=
 (SS.cons (S1.ifs (Tc (Sb (At (N 0) (get_View_flags k)) (At (N 1) (get_Letter_uid k))) (At (N 1) (get_Letter_flags k)) op_ne) (SS.one (S1.ret SE.bool)) SS.nil) (SS.one (S1.ret (SE.and (At (N 0) (get_View_uses_modseq k)) (Cm (Sb (At (N 0) (get_View_modseqs k)) (At (N 1) (get_Letter_uid k))) (At (N 1) (get_Letter_modseq k)) op_ne)))))
theorem s_is_stale (k : Ck) : OpC k.c 1 137 f_is_stale := dc (loc := (nmS [])) (g := f_is_stale_body) (do_ k 20 rfl (by decide) (by decide)) (sb_is_stale k)
theorem sb_gone_uids (k : Ck) : SS k.c (scopeS (atS main 11)) ((nmS ["view"]) ++ (nmS ["there"])) 0 (bodyS (atS main 11)) f_gone_uids_body :=
 (SS.cons (As (Cb (.t _) (nob_ k) bt_dict (L (Co (nmS ["letter"]) (SI.val (At (At (N 0) (get_View_box k)) (get_Box_letters k))) (Nl 0) STs.nil (SE.tup (L (At (N 0) (get_Letter_uid k)) (L SE.bool SL.nil)))) SL.nil) b_dict) (Na 1)) (SS.one (S1.ret (Co (nmS ["uid"]) (SI.val (At (N 0) (get_View_uids k))) (Nl 0) (STs.one (Tc (N 0) (N 1) op_notIn)) (N 0)))))
theorem s_gone_uids (k : Ck) : OpC k.c 1 142 f_gone_uids := dc (loc := (nmS ["there"])) (g := f_gone_uids_body) (do_ k 21 rfl (by decide) (by decide)) (sb_gone_uids k)
theorem sb_new_letters (k : Ck) : SS k.c (scopeS (atS main 12)) ((nmS ["view"]) ++ (nmS ["last"])) 0 (bodyS (atS main 12)) f_new_letters_body :=
 (SS.cons (As (SE.ifE (Tc (At (N 0) (get_View_uids k)) (SE.list SL.nil) op_ne) (Sb (At (N 0) (get_View_uids k)) (SE.bin (Cb (.b _) (nob_ k) bt_len (L (At (N 0) (get_View_uids k)) SL.nil) b_len) SE.int op_sub)) SE.int) (Na 1)) (SS.one (S1.ret (Co (nmS ["letter"]) (SI.val (At (At (N 0) (get_View_box k)) (get_Box_letters k))) (Nl 0) (STs.one (ST.and (Tc (At (N 0) (get_Letter_uid k)) (N 1) op_gt) (Tc (At (N 0) (get_Letter_uid k)) (At (N 2) (get_View_flags k)) op_notIn))) (N 0)))))
theorem s_new_letters (k : Ck) : OpC k.c 1 147 f_new_letters := dc (loc := (nmS ["last"])) (g := f_new_letters_body) (do_ k 22 rfl (by decide) (by decide)) (sb_new_letters k)
theorem sb_flag_pairs (k : Ck) : SS k.c (scopeS (atS main 13)) ((nmS ["view", "letter"]) ++ (nmS ["pairs"])) 2 (bodyS (atS main 13)) f_flag_pairs_body :=
 (SS.cons (As (SE.list (L (SE.tup (L SE.str (L (Co (nmS ["name"]) (SI.val (At (N 1) (get_Letter_flags k))) (Nl 0) STs.nil (Cc (at_ k) (keep_ k) (L (N 0) SL.nil) (s_Atom k))) SL.nil))) SL.nil)) (Na 2)) (SS.cons (S1.ifs (ST.or (Tv (At (N 0) (get_View_uses_modseq k))) (Tv (At (N 0) (get_View_uses_vanished k)))) (SS.one (Ex (Me (N 2) recv_insert (.b _) (L SE.int (L (SE.tup (L SE.str (L (At (N 1) (get_Letter_uid k)) SL.nil))) SL.nil)) m_insert))) SS.nil) (SS.cons (S1.ifs (Tv (At (N 0) (get_View_uses_modseq k))) (SS.one (Ex (Me (N 2) recv_append (.b _) (L (SE.tup (L SE.str (L (SE.list (L (At (N 1) (get_Letter_modseq k)) SL.nil)) SL.nil))) SL.nil) m_append))) SS.nil) (SS.one (S1.ret (N 2))))))
theorem s_flag_pairs (k : Ck) : OpC k.c 3 152 f_flag_pairs := dc (loc := (nmS ["pairs"])) (g := f_flag_pairs_body) (do_ k 23 rfl (by decide) (by decide)) (sb_flag_pairs k)
theorem sb_flag_news (k : Ck) : SS k.c (scopeS (atS main 14)) ((nmS ["view"]) ++ (nmS ["answers", "at", "letter"])) 3 (bodyS (atS main 14)) f_flag_news_body :=
 (SS.cons (As (SE.list SL.nil) (Na 1)) (SS.cons (Fo (SI.range1 rfl (by decide +kernel) (nob_ k) (Cb (.b _) (nob_ k) bt_len (L (At (N 0) (get_View_uids k)) SL.nil) b_len) (fun _ => rfl)) (Na 2) (SS.cons (As (Mo (At (N 0) (get_View_box k)) (recv_Box_letter k) (keep_ k) (L (Sb (At (N 0) (get_View_uids k)) (N 2)) SL.nil) (s_Box_letter k)) (Na 3)) (SS.one (S1.ifs (ST.and (Tc (N 3) SE.none op_isNot) (Tv (Cg (at_ k) (keep_ k) (L (N 0) (L (N 3) SL.nil)) (s_is_stale k)))) (SS.cons (Ex (Me (N 1) recv_append (.b _) (L (SE.tup (L SE.str (L (SE.bin (N 2) SE.int op_add) (L (Cg (at_ k) (keep_ k) (L (N 0) (L (N 3) SL.nil)) (s_flag_pairs k)) SL.nil)))) SL.nil) m_append)) (SS.one (Ex (Cg (at_ k) (keep_ k) (L (N 0) (L (N 3) SL.nil)) (s_note k))))) SS.nil)))) (SS.one (S1.ret (N 1)))))
theorem s_flag_news (k : Ck) : OpC k.c 4 159 f_flag_news := dc (loc := (nmS ["answers", "at", "letter"])) (g := f_flag_news_body) (do_ k 24 rfl (by decide) (by decide)) (sb_flag_news k)
theorem sb_ranges_of (k : Ck) : SS k.c (scopeS (atS main 2)) ((nmS ["numbers"]) ++ (nmS ["out", "number"])) 0 (bodyS (atS main 2)) f_ranges_of_body :=
 (SS.cons (As (SE.list SL.nil) (Na 1)) (SS.cons (Fo (SI.val (N 0)) (Na 2) (SS.one (S1.ifs (ST.and (Tc (Cb (.b _) (nob_ k) bt_len (L (N 1) SL.nil) b_len) SE.int op_gt) (Tc (N 2) (SE.bin (Sb (Sb (N 1) (SE.un SE.int op_neg)) SE.int) SE.int op_add) op_le)) (SS.one (As (SE.tup (L (Sb (Sb (N 1) (SE.un SE.int op_neg)) SE.int) (L (N 2) SL.nil))) (SA.sub (N 1) (SE.un SE.int op_neg) op_set))) (SS.one (Ex (Me (N 1) recv_append (.b _) (L (SE.tup (L (N 2) (L (N 2) SL.nil))) SL.nil) m_append)))))) (SS.one (S1.ret (Cb (.t _) (nob_ k) bt_tuple (L (N 1) SL.nil) b_tuple)))))
theorem s_ranges_of (k : Ck) : OpC k.c 1 28 f_ranges_of := dc (loc := (nmS ["out", "number"])) (g := f_ranges_of_body) (do_ k 25 rfl (by decide) (by decide)) (sb_ranges_of k)
theorem sb_forget (k : Ck) : SS k.c (scopeS (atS main 15)) ((nmS ["view", "uid"]) ++ (nmS [])) 0 (bodyS (atS main 15)) f_forget_body :=
 (SS.cons (As (Co (nmS ["one"]) (SI.val (At (N 0) (get_View_uids k))) (Nl 0) (STs.one (Tc (N 0) (N 1) op_ne)) (N 0)) (SA.attr (N 0) (set_View_uids k))) (SS.cons (Ex (Me (At (N 0) (get_View_flags k)) recv_pop (.b _) (L (N 1) SL.nil) m_pop)) (SS.one (Ex (Me (At (N 0) (get_View_modseqs k)) recv_pop (.b _) (L (N 1) SL.nil) m_pop)))))
theorem s_forget (k : Ck) : OpC k.c 1 164 f_forget := dc (loc := (nmS [])) (g := f_forget_body) (do_ k 26 rfl (by decide) (by decide)) (sb_forget k)
theorem sb_expunge_news (k : Ck) : SS k.c (scopeS (atS main 16)) ((nmS ["view"]) ++ (nmS ["gone", "answers", "uid"])) 2 (bodyS (atS main 16)) f_expunge_news_body :=
 (SS.cons (As (Cg (at_ k) (keep_ k) (L (N 0) SL.nil) (s_gone_uids k)) (Na 1)) (SS.cons (As (SE.list SL.nil) (Na 2)) (SS.cons (Fo (SI.val (N 1)) (Na 3) (SS.cons (S1.ifs (ST.not (Tv (At (N 0) (get_View_uses_vanished k)))) (SS.one (Ex (Me (N 2) recv_append (.b _) (L (SE.tup (L SE.str (L (Mo (N 0) (recv_View_number_of k) (keep_ k) (L (N 3) SL.nil) (s_View_number_of k)) SL.nil))) SL.nil) m_append))) SS.nil) (SS.one (Ex (Cg (at_ k) (keep_ k) (L (N 0) (L (N 3) SL.nil)) (s_forget k)))))) (SS.cons (S1.ifs (ST.and (Tc (N 1) (SE.list SL.nil) op_ne) (Tv (At (N 0) (get_View_uses_vanished k)))) (SS.one (Ex (Me (N 2) recv_append (.b _) (L (SE.tup (L SE.str (L (Cg (at_ k) (keep_ k) (L (N 1) SL.nil) (s_ranges_of k)) (L SE.bool SL.nil)))) SL.nil) m_append))) SS.nil) (SS.one (S1.ret (N 2)))))))
theorem s_expunge_news (k : Ck) : OpC k.c 3 171 f_expunge_news := dc (loc := (nmS ["gone", "answers", "uid"])) (g := f_expunge_news_body) (do_ k 27 rfl (by decide) (by decide)) (sb_expunge_news k)
theorem sb_arrival_news (k : Ck) : SS k.c (scopeS (atS main 17)) ((nmS ["view"]) ++ (nmS ["letters", "letter"])) 1 (bodyS (atS main 17)) f_arrival_news_body :=
 (SS.cons (As (Cg (at_ k) (keep_ k) (L (N 0) SL.nil) (s_new_letters k)) (Na 1)) (SS.cons (Fo (SI.val (N 1)) (Na 2) (SS.cons (Ex (Me (At (N 0) (get_View_uids k)) recv_append (.b _) (L (At (N 2) (get_Letter_uid k)) SL.nil) m_append)) (SS.one (Ex (Cg (at_ k) (keep_ k) (L (N 0) (L (N 2) SL.nil)) (s_note k)))))) (SS.one (S1.ret (SE.ifE (Tc (N 1) (SE.list SL.nil) op_ne) (SE.list (L (SE.tup (L SE.str (L (Cb (.b _) (nob_ k) bt_len (L (At (N 0) (get_View_uids k)) SL.nil) b_len) SL.nil))) SL.nil)) (SE.list SL.nil))))))
theorem s_arrival_news (k : Ck) : OpC k.c 2 178 f_arrival_news := dc (loc := (nmS ["letters", "letter"])) (g := f_arrival_news_body) (do_ k 28 rfl (by decide) (by decide)) (sb_arrival_news k)
theorem sb_news (k : Ck) : SS k.c (scopeS (atS main 18)) ((nmS ["view", "may_expunge"]) ++ (nmS ["answers"])) 4 (bodyS (atS main 18)) f_news_body :=
 (SS.cons (As (Cg (at_ k) (keep_ k) (L (N 0) SL.nil) (s_flag_news k)) (Na 2)) (SS.cons (S1.ifs (Tv (N 1)) (SS.one (Ex (Me (N 2) recv_extend (.b _) (L (Cg (at_ k) (keep_ k) (L (N 0) SL.nil) (s_expunge_news k)) SL.nil) m_extend))) SS.nil) (SS.one (S1.ret (SE.bin (N 2) (Cg (at_ k) (keep_ k) (L (N 0) SL.nil) (s_arrival_news k)) op_add)))))
theorem s_news (k : Ck) : OpC k.c 5 185 f_news := dc (loc := (nmS ["answers"])) (g := f_news_body) (do_ k 29 rfl (by decide) (by decide)) (sb_news k)
theorem sb_is_up_to_date (k : Ck) : SS k.c (scopeS (atS main 19)) ((nmS ["view"]) ++ (nmS [])) 1 (bodyS (atS main 19)) f_is_up_to_date_body :=
 (SS.one (S1.ret (SE.and (Cm (At (N 0) (get_View_uids k)) (Mz (At (N 0) (get_View_box k)) (recv_Box_uids k) (keep_ k) (s_Box_uids k)) op_eq) (Cm (Co (nmS ["letter"]) (SI.val (At (At (N 0) (get_View_box k)) (get_Box_letters k))) (Nl 0) (STs.one (Tv (Cg (at_ k) (keep_ k) (L (N 1) (L (N 0) SL.nil)) (s_is_stale k)))) (N 0)) (SE.list SL.nil) op_eq))))
theorem s_is_up_to_date (k : Ck) : OpC k.c 2 190 f_is_up_to_date := dc (loc := (nmS [])) (g := f_is_up_to_date_body) (do_ k 30 rfl (by decide) (by decide)) (sb_is_up_to_date k)
theorem sb_law_draw (k : Ck) : SS k.c (scopeS (atS main 39)) ((nmS ["pen", "many"]) ++ (nmS ["spot"])) 0 (bodyS (atS main 39)) f_law_draw_body :=
 (SS.cons (As (Sb (N 0) SE.int) (Na 2)) (SS.cons (As (SE.bin (N 2) SE.int op_add) (SA.sub (N 0) SE.int op_set)) (SS.cons (S1.ifs (Tc (N 2) (Cb (.b _) (nob_ k) bt_len (L (Sb (N 0) SE.int) SL.nil) b_len) op_lt) (SS.one (S1.ret (SE.bin (Sb (Sb (N 0) SE.int) (N 2)) (N 1) op_mod))) SS.nil) (SS.one (S1.ret (SE.bin (SE.bin (SE.bin (Sb (N 0) SE.int) (SE.bin SE.int (N 2) op_mul) op_add) (SE.bin (SE.bin (N 2) (N 2) op_mul) SE.int op_fdiv) op_add) (N 1) op_mod))))))
theorem s_law_draw (k : Ck) : OpC k.c 1 371 f_law_draw := dc (loc := (nmS ["spot"])) (g := f_law_draw_body) (do_ k 31 rfl (by decide) (by decide)) (sb_law_draw k)
theorem s_law_flags (k : Ck) : OpC k.c 1 378 f_law_flags := by
 refine def_call2 (ps := []) (loc := []) (g := f_law_flags_body) (do_ k 32 rfl (by decide) (by decide)) ?_ ?_
 exact ⟨by decide +kernel, by decide +kernel, by decide +kernel, rfl, rfl, rfl⟩
 refine SS.one ?_
 refine S1.ret ?_
 refine SE.list ?_
 repeat (first | refine SL.nil | refine SL.cons ?_ ?_ ?_ | refine SE.tup ?_ | refine SE.str | refine (fun _ => st_ne rfl))
theorem sb_law_begun (k : Ck) : SS k.c (scopeS (atS main 41)) ((nmS ["pen", "box"]) ++ (nmS ["view", "copy"])) 3 (bodyS (atS main 41)) f_law_begun_body :=
 (SS.cons (As (Cc (at_ k) (keep_ k) (L (N 1) (L SE.bool (L (Cm (Cg (at_ k) (keep_ k) (L (N 0) (L SE.int SL.nil)) (s_law_draw k)) SE.int op_eq) (L (Cm (Cg (at_ k) (keep_ k) (L (N 0) (L SE.int SL.nil)) (s_law_draw k)) SE.int op_eq) SL.nil)))) (s_View k)) (Na 2)) (SS.cons (Ca (nmS ["letter"]) (SI.val (At (N 1) (get_Box_letters k))) (Nl 0) STs.nil (SE.list (L (At (N 0) (get_Letter_uid k)) (L (Cb (.t _) (nob_ k) bt_list (L (At (N 0) (get_Letter_flags k)) SL.nil) b_list) (L (At (N 0) (get_Letter_modseq k)) SL.nil)))) (Na 3)) (SS.one (S1.ret (SE.tup (L (N 2) (L (N 3) SL.nil)))))))
theorem s_law_begun (k : Ck) : OpC k.c 4 383 f_law_begun := dc (loc := (nmS ["view", "copy"])) (g := f_law_begun_body) (do_ k 33 rfl (by decide) (by decide)) (sb_law_begun k)
theorem sb_law_taken (k : Ck) : SS k.c (scopeS (atS main 42)) ((nmS ["box", "view", "copy", "answers"]) ++ (nmS ["stage", "answer", "later", "row", "pairs", "names", "wanted", "flags", "gone", "known"])) 0 (bodyS (atS main 42)) f_law_taken_body :=
 (SS.cons (As SE.int (Na 4)) (SS.cons (Fo (SI.val (N 3)) (Na 5) (SS.cons (As (Sb SE.dictS4 (Sb (N 5) SE.int)) (Na 6)) (SS.cons (S1.ifs (Tc (N 6) (N 4) op_lt) (SS.one (S1.ret SE.bool)) SS.nil) (SS.cons (As (N 6) (Na 4)) (SS.one (S1.ifs (Tc (Sb (N 5) SE.int) SE.str op_eq) (SS.cons (S1.swap (SE.tup (L (Sb (N 2) (SE.bin (Sb (N 5) SE.int) SE.int op_sub)) (L (Cb (.t _) (nob_ k) bt_list (L (Sb (N 5) SE.int) SL.nil) b_list) SL.nil))) (by decide +kernel) (i := 7) (j := 8) rfl rfl (by decide +kernel) (by decide +kernel) (envC fun _ => rfl) (envC fun _ => rfl)) (SS.cons (Ca (nmS ["name", "worth"]) (SI.val (N 8)) (SA.tup2 (Nl 0) (Nl 1) onlyL_FA (fun _ => rfl)) STs.nil (N 0) (Na 9)) (SS.cons (As (SE.bin (SE.bin (SE.bin (SE.list (L SE.str SL.nil)) (Cb (.t _) (nob_ k) bt_int (L (SE.or (At (N 1) (get_View_uses_modseq k)) (At (N 1) (get_View_uses_vanished k))) SL.nil) b_int) op_mul) (SE.list (L SE.str SL.nil)) op_add) (SE.bin (SE.list (L SE.str SL.nil)) (Cb (.t _) (nob_ k) bt_int (L (At (N 1) (get_View_uses_modseq k)) SL.nil) b_int) op_mul) op_add) (Na 10)) (SS.cons (S1.ifs (ST.or (Tc (N 9) (N 10) op_ne) (ST.and (Tc SE.str (N 9) op_in) (Tc (Sb (Sb (N 8) SE.int) SE.int) (Sb (N 7) SE.int) op_ne))) (SS.one (S1.ret SE.bool)) SS.nil) (SS.cons (Ca (nmS ["atom"]) (SI.val (Sb (Cb (.t _) (nob_ k) bt_dict (L (N 8) SL.nil) b_dict) SE.str)) (Nl 0) STs.nil (At (N 0) (get_Atom_text k)) (Na 11)) (SS.cons (S1.ifs (ST.and (Tc (N 11) (Sb (N 7) SE.int) op_eq) (ST.not (Tv (At (N 1) (get_View_uses_modseq k))))) (SS.one (S1.ret SE.bool)) SS.nil) (SS.cons (As (N 11) (SA.sub (N 7) SE.int op_set)) (SS.one (S1.ifs (Tv (At (N 1) (get_View_uses_modseq k))) (SS.cons (S1.ifs (Tc (Sb (Sb (N 8) (SE.un SE.int op_neg)) SE.int) (SE.list (L (Sb (N 7) SE.int) SL.nil)) op_eq) (SS.one (S1.ret SE.bool)) SS.nil) (SS.one (As (Sb (Sb (Sb (N 8) (SE.un SE.int op_neg)) SE.int) SE.int) (SA.sub (N 7) SE.int op_set)))) SS.nil))))))))) (SS.one (S1.ifs (Tc (Sb (N 5) SE.int) SE.str op_eq) (SS.cons (S1.ifs (Tv (At (N 1) (get_View_uses_vanished k))) (SS.one (S1.ret SE.bool)) SS.nil) (SS.one (As (SE.list SL.nil) (SA.cut (N 2) (SE.bin (Sb (N 5) SE.int) SE.int op_sub) (Sb (N 5) SE.int))))) (SS.one (S1.ifs (Tc (Sb (N 5) SE.int) SE.str op_eq) (SS.cons (As (SE.comp2 (own := (nmS ["low", "high", "uid"])) (caps := []) (compOk (by kernel_rfl)) (SI.val (Sb (N 5) SE.int)) (SA.tup2 (Nl 0) (Nl 1) onlyL_FA (fun _ => rfl)) (SI.range2 rfl (by decide +kernel) (nob_ k) (N 0) (SE.bin (N 1) SE.int op_add) (fun _ => rfl) (fun _ => rfl)) (Nl 2) (N 2) (fun _ _ => rfl) (fun _ _ => rfl) (fun x ρ σ ρ' σ' e => asg2_other e (by decide) (by decide)) (by decide) (by decide)) (Na 12)) (SS.cons (S1.ifs (ST.or3 (ST.not (Tv (At (N 1) (get_View_uses_vanished k)))) (Tv (Sb (N 5) SE.int)) (Tc (Co (nmS ["uid"]) (SI.val (N 12)) (Nl 0) (STs.one (Tc (N 0) (Co (nmS ["row"]) (SI.val (N 1)) (Nl 0) STs.nil (Sb (N 0) SE.int)) op_notIn)) (N 0)) (SE.list SL.nil) op_ne)) (SS.one (S1.ret SE.bool)) SS.nil) (SS.one (As (Co (nmS ["row"]) (SI.val (N 2)) (Nl 0) (STs.one (Tc (Sb (N 0) SE.int) (N 1) op_notIn)) (N 0)) (SA.cut0 (N 2)))))) (SS.cons (As (Co (nmS ["row"]) (SI.val (N 2)) (Nl 0) STs.nil (Sb (N 0) SE.int)) (Na 13)) (SS.cons (Ex (Me (N 2) recv_extend (.b _) (L (Co (nmS ["letter"]) (SI.val (At (N 0) (get_Box_letters k))) (Nl 0) (STs.one (Tc (At (N 0) (get_Letter_uid k)) (N 1) op_notIn)) (SE.list (L (At (N 0) (get_Letter_uid k)) (L (Cb (.t _) (nob_ k) bt_list (L (At (N 0) (get_Letter_flags k)) SL.nil) b_list) (L (At (N 0) (get_Letter_modseq k)) SL.nil))))) SL.nil) m_extend)) (SS.one (S1.ifs (ST.or (Tc (Cb (.b _) (nob_ k) bt_len (L (N 2) SL.nil) b_len) (Sb (N 5) SE.int) op_ne) (Tc (Cb (.b _) (nob_ k) bt_len (L (N 2) SL.nil) b_len) (Cb (.b _) (nob_ k) bt_len (L (N 13) SL.nil) b_len) op_eq)) (SS.one (S1.ret SE.bool)) SS.nil)))))))))))))) (SS.one (S1.ret SE.bool))))
theorem s_law_taken (k : Ck) : OpC k.c 1 388 f_law_taken := dc (loc := (nmS ["stage", "answer", "later", "row", "pairs", "names", "wanted", "flags", "gone", "known"])) (g := f_law_taken_body) (do_ k 34 rfl (by decide) (by decide)) (sb_law_taken k)
theorem sb_law_news_right (k : Ck) : SS k.c (scopeS (atS main 43)) ((nmS ["box", "view", "copy", "may"]) ++ (nmS ["before", "there", "row", "letter"])) 5 (bodyS (atS main 43)) f_law_news_right_body :=
 (SS.cons (Ca (nmS ["row"]) (SI.val (N 2)) (Nl 0) STs.nil (Sb (N 0) SE.int) (Na 4)) (SS.cons (S1.ifs (ST.or (ST.not (Tv (Cg (at_ k) (keep_ k) (L (N 0) (L (N 1) (L (N 2) (L (Cg (at_ k) (keep_ k) (L (N 1) (L (N 3) SL.nil)) (s_news k)) SL.nil)))) (s_law_taken k)))) (Tc (Cg (at_ k) (keep_ k) (L (N 1) (L (N 3) SL.nil)) (s_news k)) (SE.list SL.nil) op_ne)) (SS.one (S1.ret SE.bool)) SS.nil) (SS.cons (S1.ifs (ST.or (Tc (Co (nmS ["row"]) (SI.val (N 2)) (Nl 0) STs.nil (Sb (N 0) SE.int)) (At (N 1) (get_View_uids k)) op_ne) (Tc (Co (nmS ["uid", "flags", "modseq"]) (SI.val (Mz (N 1) (recv_View_told k) (keep_ k) (s_View_told k))) (SA.tup3 (Nl 0) (Nl 1) (Nl 2) onlyL_FA (fun _ => rfl)) STs.nil (SE.tup (L (N 0) (L (Cb (.t _) (nob_ k) bt_list (L (N 1) SL.nil) b_list) SL.nil)))) (Co (nmS ["row"]) (SI.val (N 2)) (Nl 0) STs.nil (SE.tup (L (Sb (N 0) SE.int) (L (Sb (N 0) SE.int) SL.nil)))) op_ne)) (SS.one (S1.ret SE.bool)) SS.nil) (SS.cons (S1.ifs (ST.and (ST.not (Tv (N 3))) (Tc (SE.sliceTo (Co (nmS ["row"]) (SI.val (N 2)) (Nl 0) STs.nil (Sb (N 0) SE.int)) (Cb (.b _) (nob_ k) bt_len (L (N 4) SL.nil) b_len)) (N 4) op_ne)) (SS.one (S1.ret SE.bool)) SS.nil) (SS.cons (Ca (nmS ["row"]) (SI.val (N 2)) (Nl 0) (STs.one (Tc (Mo (N 1) (recv_Box_letter k) (keep_ k) (L (Sb (N 0) SE.int) SL.nil) (s_Box_letter k)) SE.none op_isNot)) (N 0) (Na 5)) (SS.cons (Fo (SI.val (N 5)) (Na 6) (SS.cons (As (Mo (N 0) (recv_Box_letter k) (keep_ k) (L (Sb (N 6) SE.int) SL.nil) (s_Box_letter k)) (Na 7)) (SS.one (S1.ifs (ST.or (Tc (Sb (N 6) SE.int) (Cb (.t _) (nob_ k) bt_list (L (At (N 7) (get_Letter_flags k)) SL.nil) b_list) op_ne) (ST.and (Tv (At (N 1) (get_View_uses_modseq k))) (Tc (Sb (N 6) SE.int) (At (N 7) (get_Letter_modseq k)) op_ne))) (SS.one (S1.ret SE.bool)) SS.nil)))) (SS.cons (S1.ifs (ST.or (Tc (Cb (.b _) (nob_ k) bt_len (L (N 5) SL.nil) b_len) (Cb (.b _) (nob_ k) bt_len (L (At (N 0) (get_Box_letters k)) SL.nil) b_len) op_ne) (ST.and (Tv (N 3)) (Tc (Cb (.b _) (nob_ k) bt_len (L (N 2) SL.nil) b_len) (Cb (.b _) (nob_ k) bt_len (L (N 5) SL.nil) b_len) op_ne))) (SS.one (S1.ret SE.bool)) SS.nil) (SS.one (S1.ret (Cm (Cg (at_ k) (keep_ k) (L (N 1) SL.nil) (s_is_up_to_date k)) (Cm (Cb (.b _) (nob_ k) bt_len (L (N 2) SL.nil) b_len) (Cb (.b _) (nob_ k) bt_len (L (N 5) SL.nil) b_len) op_eq) op_eq))))))))))
theorem s_law_news_right (k : Ck) : OpC k.c 6 393 f_law_news_right := dc (loc := (nmS ["before", "there", "row", "letter"])) (g := f_law_news_right_body) (do_ k 35 rfl (by decide) (by decide)) (sb_law_news_right k)
theorem sb_law (k : Ck) : SS k.c (scopeS (atS main 44)) ((nmS ["script"]) ++ (nmS ["cells", "pen", "box", "lap", "pairs", "way", "uid", "view", "copy", "letter", "row"])) 6 (bodyS (atS main 44)) f_law_body :=
 (SS.cons (Ca (nmS ["cell"]) (SI.val (SE.sliceTo (N 0) SE.int)) (Nl 0) STs.nil (SE.bin (Cb (.t _) (nob_ k) bt_int (L (N 0) SL.nil) b_int) SE.int op_mod) (Na 1)) (SS.cons (As (SE.list (L (N 1) (L SE.int (L (SE.bin (Cb (.b _) (nob_ k) bt_sum (L (N 1) SL.nil) b_sum) SE.int op_mod) SL.nil)))) (Na 2)) (SS.cons (As (Cc (at_ k) (keep_ k) (L SE.str (L SE.int SL.nil)) (s_Box k)) (Na 3)) (SS.cons (Fo (SI.range1 rfl (by decide +kernel) (nob_ k) (Cg (at_ k) (keep_ k) (L (N 2) (L SE.int SL.nil)) (s_law_draw k)) (fun _ => rfl)) (Na 4) (SS.one (Ex (Cg (at_ k) (keep_ k) (L (N 3) (L SE.bytes (L (Sb (Cz (at_ k) (keep_ k) (s_law_flags k)) (Cg (at_ k) (keep_ k) (L (N 2) (L SE.int SL.nil)) (s_law_draw k))) (L SE.int SL.nil)))) (s_add_letter k))))) (SS.cons (As (SE.list (L (Cg (at_ k) (keep_ k) (L (N 2) (L (N 3) SL.nil)) (s_law_begun k)) SL.nil)) (Na 5)) (SS.cons (Fo (SI.range1 rfl (by decide +kernel) (nob_ k) (Cg (at_ k) (keep_ k) (L (N 2) (L SE.int SL.nil)) (s_law_draw k)) (fun _ => rfl)) (Na 4) (SS.cons (As (Cg (at_ k) (keep_ k) (L (N 2) (L SE.int SL.nil)) (s_law_draw k)) (Na 6)) (SS.cons (As (SE.bin SE.int (Cg (at_ k) (keep_ k) (L (N 2) (L SE.int SL.nil)) (s_law_draw k)) op_add) (Na 7)) (SS.one (S1.ifs (Tc (N 6) SE.int op_eq) (SS.one (Ex (Cg (at_ k) (keep_ k) (L (N 3) (L SE.bytes (L (Sb (Cz (at_ k) (keep_ k) (s_law_flags k)) (SE.bin (N 7) SE.int op_mod)) (L SE.int SL.nil)))) (s_add_letter k)))) (SS.one (S1.ifs (ST.and (Tc (N 6) SE.int op_eq) (Tc (Mo (N 3) (recv_Box_letter k) (keep_ k) (L (N 7) SL.nil) (s_Box_letter k)) SE.none op_isNot)) (SS.one (Ex (Cg (at_ k) (keep_ k) (L (N 3) (L (N 7) (L (Sb (Cz (at_ k) (keep_ k) (s_law_flags k)) (Cg (at_ k) (keep_ k) (L (N 2) (L SE.int SL.nil)) (s_law_draw k))) SL.nil))) (s_set_flags k)))) (SS.one (S1.ifs (Tc (N 6) SE.int op_eq) (SS.one (Ex (Cg (at_ k) (keep_ k) (L (N 3) (L (SE.list (L (N 7) (L (SE.bin (N 7) SE.int op_add) SL.nil))) SL.nil)) (s_expunge k)))) (SS.one (S1.ifs (ST.and (Tc (N 6) SE.int op_eq) (Tc (Cb (.b _) (nob_ k) bt_len (L (N 5) SL.nil) b_len) SE.int op_lt)) (SS.one (Ex (Me (N 5) recv_append (.b _) (L (Cg (at_ k) (keep_ k) (L (N 2) (L (N 3) SL.nil)) (s_law_begun k)) SL.nil) m_append))) (SS.one (S1.ifs (Tc (N 6) SE.int op_eq) (SS.cons (As (Sb (N 5) (SE.bin (N 7) (Cb (.b _) (nob_ k) bt_len (L (N 5) SL.nil) b_len) op_mod)) (SA.tup2 (Na 8) (Na 9) (fun _ _ h => h) (fun _ => rfl))) (SS.one (S1.ifs (ST.not (Tv (Cg (at_ k) (keep_ k) (L (N 3) (L (N 8) (L (N 9) (L (Cm (Cg (at_ k) (keep_ k) (L (N 2) (L SE.int SL.nil)) (s_law_draw k)) SE.int op_eq) SL.nil)))) (s_law_news_right k)))) (SS.one (S1.ret SE.bool)) SS.nil))) (SS.one (S1.ifs (Tc (N 6) SE.int op_eq) (SS.cons (As (Sb (N 5) (SE.bin (N 7) (Cb (.b _) (nob_ k) bt_len (L (N 5) SL.nil) b_len) op_mod)) (SA.tup2 (Na 8) (Na 9) (fun _ _ h => h) (fun _ => rfl))) (SS.cons (As (Mo (N 3) (recv_Box_letter k) (keep_ k) (L (N 7) SL.nil) (s_Box_letter k)) (Na 10)) (SS.cons (Ex (Cg (at_ k) (keep_ k) (L (N 8) (L (N 7) SL.nil)) (s_keep_silent k))) (SS.one (Fo (SI.val (N 9)) (Na 11) (SS.one (S1.ifs (ST.and (Tc (N 10) SE.none op_isNot) (Tc (Sb (N 11) SE.int) (N 7) op_eq)) (SS.one (As (SE.tup (L (Cb (.t _) (nob_ k) bt_list (L (At (N 10) (get_Letter_flags k)) SL.nil) b_list) (L (At (N 10) (get_Letter_modseq k)) SL.nil))) (SA.tup2 (SA.sub (N 11) SE.int op_set) (SA.sub (N 11) SE.int op_set) (fun _ _ h => h) (fun _ => rfl)))) SS.nil))))))) SS.nil))))))))))))))) (SS.cons (Fo (SI.val (N 5)) (SA.tup2 (Na 8) (Na 9) (fun _ _ h => h) (fun _ => rfl)) (SS.one (S1.ifs (ST.not (Tv (Cg (at_ k) (keep_ k) (L (N 3) (L (N 8) (L (N 9) (L SE.bool SL.nil)))) (s_law_news_right k)))) (SS.one (S1.ret SE.bool)) SS.nil))) (SS.one (S1.ret SE.bool)))))))))
theorem s_law (k : Ck) : OpC k.c 7 398 f_law := dc (loc := (nmS ["cells", "pen", "box", "lap", "pairs", "way", "uid", "view", "copy", "letter", "row"])) (g := f_law_body) (do_ k 36 rfl (by decide) (by decide)) (sb_law k)
end
section
open PySem PySem.W
theorem big0 : 0 ≤ big := by decide
theorem big1 : 1 ≤ big := by decide
theorem big2 : 2 ≤ big := by decide
theorem big3 : 3 ≤ big := by decide
theorem big4 : 4 ≤ big := by decide
theorem big5 : 5 ≤ big := by decide
theorem bigl0 : 0 < big := by decide
theorem bigl1 : 1 < big := by decide
theorem bigl2 : 2 < big := by decide
theorem idx_nat {xs : List V} {i : Nat} {v : V} (h : xs[i]? = some v) (hb : i ≤ 10000) : idx xs (i : Int) = some v := by
 unfold idx; rw [if_pos ⟨by omega, by omega⟩]; simpa using h
theorem idx_0 {x : V} {r : List V} : idx (x :: r) 0 = some x := rfl
theorem idx_1 {x y : V} {r : List V} : idx (x :: y :: r) 1 = some y := rfl
theorem idx_2 {x y z : V} {r : List V} : idx (x :: y :: z :: r) 2 = some z := rfl
theorem idx_m1 {x : V} : idx [x] (-1) = some x := rfl
theorem idx_m2 {x y : V} : idx [x, y] (-1) = some y := rfl
theorem idx_m3 {x y z : V} : idx [x, y, z] (-1) = some z := rfl
theorem mem1 {α : Type} {a b : α} {l : List α} : b ∈ a :: b :: l := .tail _ (.head _)
theorem mem2 {α : Type} {a b c : α} {l : List α} : c ∈ a :: b :: c :: l := .tail _ (.tail _ (.head _))
theorem mem3 {α : Type} {a b c d : α} {l : List α} : d ∈ a :: b :: c :: d :: l := .tail _ (.tail _ (.tail _ (.head _)))
theorem sub0 {a : Nat} {l : List Nat} : ∀ x ∈ [a], x ∈ a :: l := fun _ h => by rw [List.mem_singleton.mp h]; exact .head _
theorem sub1 {a b : Nat} {l : List Nat} : ∀ x ∈ [a], x ∈ b :: a :: l := fun _ h => by rw [List.mem_singleton.mp h]; exact mem1
theorem sub2 {a b c : Nat} {l : List Nat} : ∀ x ∈ [a], x ∈ b :: c :: a :: l := fun _ h => by rw [List.mem_singleton.mp h]; exact mem2
theorem sub3 {a b c d : Nat} {l : List Nat} : ∀ x ∈ [a], x ∈ b :: c :: d :: a :: l := fun _ h => by rw [List.mem_singleton.mp h]; exact mem3
theorem nmem1 {a b : Nat} (h : a ≠ b) : a ∉ [b] := fun c => h (List.mem_singleton.mp c)
theorem len_app {α : Type} {l : List α} {a : α} : (l ++ [a]).length = l.length + 1 := List.length_append
end
theorem obind {α β : Type} (x : Option α) (f : α → Option β) : x.bind f = match x with | some a => f a | none => none := by cases x <;> rfl
theorem omap {α β : Type} (f : α → β) (x : Option α) : x.map f = match x with | some a => some (f a) | none => none := by cases x <;> rfl
section
open PySem PySem.W
structure Ext (W : List Nat) (σ σ' : Hp) : Prop where
 le : σ.length ≤ σ'.length
 get : ∀ a o, σ[a]? = some o → a ∉ W → σ'[a]? = some o
theorem lt_of_get {σ : Hp} {a : Nat} {o : O} (h : σ[a]? = some o) : a < σ.length := (List.getElem?_eq_some_iff.mp h).1
theorem Ext.refl (W) (σ : Hp) : Ext W σ σ := ⟨Nat.le_refl _, fun _ _ h _ => h⟩
theorem Ext.trans {W σ σ' σ''} (x : Ext W σ σ') (y : Ext W σ' σ'') : Ext W σ σ'' := ⟨Nat.le_trans x.le y.le, fun a o h n => y.get a o (x.get a o h n) n⟩
theorem Ext.mono {W W' σ σ'} (x : Ext W σ σ') (h : ∀ a ∈ W, a ∈ W') : Ext W' σ σ' := ⟨x.le, fun a o g n => x.get a o g fun q => n (h a q)⟩
theorem Ext.nil {W σ σ'} (x : Ext [] σ σ') : Ext W σ σ' := x.mono fun _ h => by cases h
theorem Ext.trans' {W W' σ σ' σ''} (x : Ext W σ σ') (y : Ext W' σ' σ'') (h : ∀ a ∈ W', a ∈ W ∨ σ.length ≤ a) : Ext W σ σ'' :=
 ⟨Nat.le_trans x.le y.le, fun a o g n => y.get a o (x.get a o g n) fun q => by
  rcases h a q with r | r
  ·exact n r
  ·exact absurd (lt_of_get g) (Nat.not_lt.mpr r)⟩
theorem Ext.app (σ t : Hp) : Ext [] σ (σ ++ t) := ⟨by simp, fun a o h _ => by rw [List.getElem?_append_left (lt_of_get h)]; exact h⟩
theorem Ext.set (σ : Hp) (n : Nat) (o : O) : Ext [n] σ (σ.set n o) := ⟨by simp, fun a x h q => by
 rw [List.getElem?_set_ne (fun e => q (by simp [e]))]; exact h⟩
theorem new_get (σ : Hp) (o : O) : (σ ++ [o])[σ.length]? = some o := by simp
theorem old_get {σ t : Hp} {a : Nat} {o : O} (h : σ[a]? = some o) : (σ ++ t)[a]? = some o := by rw [List.getElem?_append_left (lt_of_get h)]; exact h
theorem set_get {σ : Hp} {a : Nat} {o o' : O} (h : σ[a]? = some o) : (σ.set a o')[a]? = some o' := by
 rw [List.getElem?_set_self (lt_of_get h)]
theorem ne_of_new {σ : Hp} {a : Nat} {o : O} (h : σ[a]? = some o) : a ≠ σ.length := Nat.ne_of_lt (lt_of_get h)
theorem set_last (σ : Hp) (x y : O) : (σ ++ [x]).set σ.length y = σ ++ [y] := by
 rw [List.set_append_right _ _ (Nat.le_refl _)]; simp
theorem sc {f g : St} {ρ ρ1 : Loc} {σ σ1 : Hp} (h : f ρ σ = some (.next, ρ1, σ1)) : sCons f g ρ σ = g ρ1 σ1 := by
 unfold sCons; rw [h]; rfl
theorem if_t {t : Loc → Hp → Option (Bool × Hp)} {f g : St} {ρ : Loc} {σ s : Hp} (h : t ρ σ = some (true, s)) : sIf t f g ρ σ = f ρ s := by
 unfold sIf; rw [h]; rfl
theorem if_f {t : Loc → Hp → Option (Bool × Hp)} {f g : St} {ρ : Loc} {σ s : Hp} (h : t ρ σ = some (false, s)) : sIf t f g ρ σ = g ρ s := by
 unfold sIf; rw [h]; rfl
theorem or_f {f g : Loc → Hp → Option (Bool × Hp)} {ρ : Loc} {σ s : Hp} (h : f ρ σ = some (false, s)) : orT f g ρ σ = g ρ s := by
 unfold orT; rw [h]; rfl
theorem for_step {src : Src} {a : Asg} {f : St} {k i : Nat} {ρ ρ1 ρ2 : Loc} {σ σ1 σ2 : Hp} {x : V} (hn : nxt src i σ = some (some x)) (ha : a x ρ σ = some (ρ1, σ1)) (hf : f ρ1 σ1 = some (.next, ρ2, σ2)) :
  forGo src a f (k + 1) i ρ σ = forGo src a f k (i + 1) ρ2 σ2 := by
 show (nxt src i σ).bind _ = _
 rw [hn]
 simp only [Option.bind_some, ha, hf]
theorem for_stop {src : Src} {a : Asg} {f : St} {k i : Nat} {ρ : Loc} {σ : Hp} (hn : nxt src i σ = some none) : forGo src a f (k + 1) i ρ σ = some (.next, ρ, σ) := by
 show (nxt src i σ).bind _ = _
 rw [hn]
 rfl
inductive TO (a : Asg) (f : St) (P : Nat → Loc → Hp → Prop) (i : Nat) (x : V) (ρ : Loc) (σ : Hp) : Prop
 | mk (ρ1 : Loc) (σ1 : Hp) (ρ2 : Loc) (σ2 : Hp) (_ : a x ρ σ = some (ρ1, σ1)) (_ : f ρ1 σ1 = some (.next, ρ2, σ2)) (_ : P (i + 1) ρ2 σ2) : TO a f P i x ρ σ
inductive FO (src : Src) (a : Asg) (f : St) (k i : Nat) (ρ : Loc) (σ : Hp) (P : Loc → Hp → Prop) : Prop
 | mk (ρ' : Loc) (σ' : Hp) (_ : forGo src a f k i ρ σ = some (.next, ρ', σ')) (_ : P ρ' σ') : FO src a f k i ρ σ P
theorem for_run {src : Src} {a : Asg} {f : St} {xs : List V} (P : Nat → Loc → Hp → Prop) (hn : ∀ i ρ σ, i ≤ xs.length → P i ρ σ → nxt src i σ = some xs[i]?)
  (hs : ∀ i x ρ σ, xs[i]? = some x → P i ρ σ → TO a f P i x ρ σ) :
  ∀ (m i k : Nat) (ρ : Loc) (σ : Hp), i + m = xs.length → m < k → P i ρ σ → FO src a f k i ρ σ (P xs.length) := by
 intro m
 induction m with
 | zero =>
  intro i k ρ σ hi hk hP
  obtain ⟨k, rfl⟩ := Nat.exists_eq_add_of_lt hk
  simp at hi; subst hi
  refine ⟨ρ, σ, ?_, hP⟩
  have := hn _ ρ σ (Nat.le_refl _) hP
  rw [List.getElem?_eq_none (Nat.le_refl _)] at this
  exact for_stop this
 | succ m ih =>
  intro i k ρ σ hi hk hP
  obtain ⟨k', rfl⟩ := Nat.exists_eq_add_of_lt hk
  have hlt : i < xs.length := by exact om79 hi
  obtain ⟨ρ1, σ1, ρ2, σ2, h1, h2, h3⟩ := hs i xs[i] ρ σ (List.getElem?_eq_getElem hlt) hP
  have := hn i ρ σ (om87 hlt) hP
  rw [List.getElem?_eq_getElem hlt] at this
  obtain ⟨ρ', σ', e, p⟩ := ih (i + 1) (m + 1 + k') ρ2 σ2 (om80 hi) (om88) h3
  exact ⟨ρ', σ', (for_step this h1 h2).trans e, p⟩
theorem for_list {src : Src} {a : Asg} {f : St} {xs : List V} {N : Nat} {ρ : Loc} {σ : Hp} (P : Nat → Loc → Hp → Prop) (hN : xs.length < N) (h0 : P 0 ρ σ) (hn : ∀ i ρ σ, i ≤ xs.length → P i ρ σ → nxt src i σ = some xs[i]?)
  (hs : ∀ i x ρ σ, xs[i]? = some x → P i ρ σ → TO a f P i x ρ σ) :
  FO src a f N 0 ρ σ (P xs.length) := for_run P hn hs xs.length 0 N ρ σ (Nat.zero_add _) hN h0
theorem comp_run {src : Src} {t : Loc → Hp → Option (Bool × Hp)} {a : Asg} {e : Fn} {xs : List V} {own : Loc → Prop} (P : Nat → List V → Hp → Prop) (hn : ∀ i ys σ, i ≤ xs.length → P i ys σ → nxt src i σ = some xs[i]?)
  (hs : ∀ i x ρ ys σ, own ρ → xs[i]? = some x → P i ys σ → ∃ ρ1 σ1 b σ2, a x ρ σ = some (ρ1, σ1) ∧ own ρ1 ∧ t ρ1 σ1 = some (b, σ2) ∧ ((b = false ∧ P (i + 1) ys σ2) ∨ (b = true ∧ ∃ v σ3, e ρ1 σ2 = some (v, σ3) ∧ P (i + 1) (ys ++ [v]) σ3))) :
  ∀ (m i k : Nat) (ρ : Loc) (ys : List V) (σ : Hp), own ρ → i + m = xs.length → m < k → P i ys σ → ∃ zs σ', compGo src a t e k i ρ σ = some (zs, σ') ∧ P xs.length (ys ++ zs) σ' := by
 intro m
 induction m with
 | zero =>
  intro i k ρ ys σ ho hi hk hP
  obtain ⟨k, rfl⟩ := Nat.exists_eq_add_of_lt hk
  simp at hi; subst hi
  refine ⟨[], σ, ?_, by simpa using hP⟩
  have := hn _ ys σ (Nat.le_refl _) hP
  rw [List.getElem?_eq_none (Nat.le_refl _)] at this
  show (nxt src _ σ).bind _ = _
  rw [this]; rfl
 | succ m ih =>
  intro i k ρ ys σ ho hi hk hP
  obtain ⟨k', rfl⟩ := Nat.exists_eq_add_of_lt hk
  have hlt : i < xs.length := by exact om79 hi
  obtain ⟨ρ1, σ1, b, σ2, h1, ho1, h2, h3⟩ := hs i xs[i] ρ ys σ ho (List.getElem?_eq_getElem hlt) hP
  have hh := hn i ys σ (om87 hlt) hP
  rw [List.getElem?_eq_getElem hlt] at hh
  rcases h3 with ⟨rfl, h3⟩ | ⟨rfl, v, σ3, h4, h3⟩
  ·obtain ⟨zs, σ', e1, e2⟩ := ih (i + 1) (m + 1 + k') ρ1 ys σ2 ho1 (om80 hi) (om88) h3
   refine ⟨zs, σ', ?_, e2⟩
   show (nxt src i σ).bind _ = _
   rw [hh]
   simp only [Option.bind_some, h1, h2, Bool.false_eq_true, if_false]
   exact e1
  ·obtain ⟨zs, σ', e1, e2⟩ := ih (i + 1) (m + 1 + k') ρ1 (ys ++ [v]) σ3 ho1 (om80 hi) (om88) h3
   refine ⟨v :: zs, σ', ?_, by simpa using e2⟩
   show (nxt src i σ).bind _ = _
   rw [hh]
   simp only [Option.bind_some, h1, h2, if_true, h4]
   rw [e1]; rfl
theorem comp1_pure {mk : Mk} {src : Src} {caps : List (Nat × Str)} {t : Loc → Hp → Option (Bool × Hp)} {e : Fn} {xs : List V} {N : Nat} {ρ : Loc} {σ : Hp} {cv : List V} (p : V → Bool) (q : V → V)
  (hm : mk ρ σ = some (src, σ)) (hc : (caps.map fun c => ρ[c.1]?.getD .undef) = cv) (hn : ∀ i, i ≤ xs.length → nxt src i σ = some xs[i]?) (hN : xs.length < N)
  (ht : ∀ x ∈ xs, t (x :: cv) σ = some (p x, σ)) (he : ∀ x ∈ xs, p x = true → e (x :: cv) σ = some (q x, σ)) :
  cComp mk 1 caps (stA 0) t e N ρ σ = some (.ref σ.length, σ ++ [.list ((xs.filter p).map q)]) := by
 have key : ∃ zs σ', compGo src (stA 0) t e N 0 (.undef :: cv) σ = some (zs, σ') ∧ (σ' = σ ∧ [] ++ zs = ((xs.take xs.length).filter p).map q) := by
  refine comp_run (own := fun r => ∃ y, r = y :: cv) (fun i ys σ' => σ' = σ ∧ ys = ((xs.take i).filter p).map q) ?_ ?_ xs.length 0 N _ [] σ ⟨_, rfl⟩ (Nat.zero_add _) hN ⟨rfl, by rfl⟩
  ·rintro i ys σ' hi ⟨rfl, _⟩; exact hn i hi
  ·rintro i x r ys σ' ⟨y, rfl⟩ hx ⟨rfl, rfl⟩
   have hmem : x ∈ xs := List.mem_of_getElem? hx
   have htk : xs.take (i + 1) = xs.take i ++ [x] := by
    rw [List.take_succ, hx]; rfl
   refine ⟨x :: cv, σ', p x, σ', rfl, ⟨x, rfl⟩, ht x hmem, ?_⟩
   cases hp : p x with
   | false => exact .inl ⟨rfl, rfl, by rw [htk]; simp [hp]⟩
   | true => exact .inr ⟨rfl, q x, σ', he x hmem hp, rfl, by rw [htk]; simp [hp]⟩
 obtain ⟨zs, σ', e1, rfl, e2⟩ := key
 rw [List.take_length] at e2
 show (mk ρ _).bind _ = _
 rw [hm]
 simp only [Option.bind_some, compLoc, List.replicate_succ, List.replicate_zero, List.cons_append, List.nil_append, hc, e1]
 rw [← e2]; rfl
theorem comp1_run {mk : Mk} {src : Src} {caps : List (Nat × Str)} {t : Loc → Hp → Option (Bool × Hp)} {e : Fn} {xs : List V} {N : Nat} {ρ : Loc} {σ σ0 : Hp} {cv : List V} (P : Nat → List V → Hp → Prop)
  (hm : mk ρ σ0 = some (src, σ)) (hc : (caps.map fun c => ρ[c.1]?.getD .undef) = cv) (h0 : P 0 [] σ) (hn : ∀ i ys σ, i ≤ xs.length → P i ys σ → nxt src i σ = some xs[i]?) (hN : xs.length < N)
  (hs : ∀ i x ys σ, xs[i]? = some x → P i ys σ → ∃ b σ2, t (x :: cv) σ = some (b, σ2) ∧ ((b = false ∧ P (i + 1) ys σ2) ∨ (b = true ∧ ∃ v σ3, e (x :: cv) σ2 = some (v, σ3) ∧ P (i + 1) (ys ++ [v]) σ3))) :
  ∃ ys σ', cComp mk 1 caps (stA 0) t e N ρ σ0 = some (.ref σ'.length, σ' ++ [.list ys]) ∧ P xs.length ys σ' := by
 obtain ⟨zs, σ', e1, e2⟩ := comp_run (a := stA 0) (t := t) (e := e) (own := fun r => ∃ y, r = y :: cv) P hn (fun i x r ys σ' ⟨y, hy⟩ hx hP => by
  subst hy
  obtain ⟨b, σ2, h1, h2⟩ := hs i x ys σ' hx hP
  exact ⟨x :: cv, σ', b, σ2, rfl, ⟨x, rfl⟩, h1, h2⟩) xs.length 0 N (.undef :: cv) [] σ ⟨_, rfl⟩ (Nat.zero_add _) hN h0
 refine ⟨zs, σ', ?_, by simpa using e2⟩
 show (mk ρ _).bind _ = _
 rw [hm]
 simp only [Option.bind_some, compLoc, List.replicate_succ, List.replicate_zero, List.cons_append, List.nil_append, hc, e1]
theorem nxt_tup {σ : Hp} {xs : List V} (i : Nat) : nxt (.tup xs) i σ = some xs[i]? := rfl
mutual
noncomputable def pl : PyData → Bool
 | .int _ => true
 | .str x => PyData.strOk x
 | .list xs => plA xs
 | .tuple xs => plA xs
 | _ => false
noncomputable def plA : List PyData → Bool
 | [] => true
 | x :: xs => pl x && plA xs
end
theorem pl_i {i : Int} : pl (.int i) = true := rfl
theorem pl_s {x : Str} : pl (.str x) = PyData.strOk x := rfl
theorem pl_l {x : List PyData} : pl (.list x) = plA x := rfl
theorem pl_t {x : List PyData} : pl (.tuple x) = plA x := rfl
theorem plA_c {x : PyData} {xs : List PyData} : plA (x :: xs) = (pl x && plA xs) := rfl
mutual
theorem pl_lay : ∀ d : PyData, pl d = true → d.canLay0 = true
 | .int _, _ => by simp only [PyData.canLay0]
 | .str x, h => by simp only [PyData.canLay0]; exact h
 | .list xs, h => by simp only [PyData.canLay0]; exact plA_lay xs h
 | .tuple xs, h => by simp only [PyData.canLay0]; exact plA_lay xs h
 | .none, h => nomatch h
 | .bool _, h => nomatch h
 | .dict _, h => nomatch h
theorem plA_lay : ∀ ds : List PyData, plA ds = true → PyData.canLayAll0 ds = true
 | [], _ => by simp only [PyData.canLayAll0]
 | x :: xs, h => by
  rw [plA_c, Bool.and_eq_true] at h
  simp only [PyData.canLayAll0, pl_lay x h.1, plA_lay xs h.2, Bool.and_self]
end
mutual
theorem eqv_pl : ∀ a b : PyData, pl a = true → pl b = true → (PyData.eqv a b = true ↔ a = b)
 | .int i, b, _, hb => by cases b <;> first | cases hb; done | simp_all [PyData.eqv]
 | .str i, b, _, hb => by cases b <;> first | cases hb; done | simp_all [PyData.eqv]
 | .list xs, b, ha, hb => by
  cases b with
  | list ys => simp only [PyData.eqv]; rw [eqvA_pl xs ys ha hb]; simp
  | _ => first | cases hb; done | simp_all [PyData.eqv]
 | .tuple xs, b, ha, hb => by
  cases b with
  | tuple ys => simp only [PyData.eqv]; rw [eqvA_pl xs ys ha hb]; simp
  | _ => first | cases hb; done | simp_all [PyData.eqv]
 | .none, _, ha, _ => nomatch ha
 | .bool _, _, ha, _ => nomatch ha
 | .dict _, _, ha, _ => nomatch ha
theorem eqvA_pl : ∀ a b : List PyData, plA a = true → plA b = true → (PyData.eqvAll a b = true ↔ a = b)
 | [], [], _, _ => by simp [PyData.eqvAll]
 | [], _ :: _, _, _ => by simp [PyData.eqvAll]
 | _ :: _, [], _, _ => by simp [PyData.eqvAll]
 | x :: xs, y :: ys, ha, hb => by
  rw [plA_c, Bool.and_eq_true] at ha hb
  simp only [PyData.eqvAll, Bool.and_eq_true, eqv_pl x y ha.1 hb.1, eqvA_pl xs ys ha.2 hb.2, List.cons.injEq]
end
theorem plA_all (ds : List PyData) : plA ds = ds.all pl := by
 induction ds with
 | nil => rfl
 | cons x xs ih => rw [plA_c, ih]; rfl
theorem depthAll_le {n : Nat} : ∀ {ds : List PyData}, (∀ d ∈ ds, d.depth ≤ n) → PyData.depthAll ds ≤ n
 | [], _ => by simp [PyData.depthAll]
 | d :: ds, h => by
  simp only [PyData.depthAll]
  exact Nat.max_le.mpr ⟨h d (List.mem_cons_self), depthAll_le fun e he => h e (by simp [he])⟩
theorem mapM_mem {α β : Type} {f : α → Option β} : ∀ {xs : List α} {ys : List β}, xs.mapM f = some ys → ∀ y ∈ ys, ∃ x ∈ xs, f x = some y
 | [], ys, h, y, hy => by simp at h; subst h; cases hy
 | x :: xs, ys, h, y, hy => by
  rw [List.mapM_cons] at h
  refine ob1 h fun z h1 h => ?_
  refine ob1 h fun zs h2 h => ?_
  cases h
  rcases List.mem_cons.mp hy with rfl | hy
  ·exact ⟨x, by exact List.mem_cons_self, h1⟩
  ·obtain ⟨x', hx, e⟩ := mapM_mem h2 y hy
   exact ⟨x', by simp [hx], e⟩
theorem rd_depth {σ : Hp} : ∀ (k : Nat) {v : V} {d : PyData}, rd k σ v = some d → d.depth ≤ k
 | 0, _, _, h => nomatch h
 | k + 1, v, d, h => by
  replace h : rdS (rd k σ) σ v = some d := h
  cases v with
  | tup xs =>
   refine oq1 h fun ys h1 h2 => ?_
   subst h2
   simp only [PyData.depth]
   exact Nat.succ_le_succ (depthAll_le fun d hd => by obtain ⟨x, _, e⟩ := mapM_mem h1 d hd; exact rd_depth k e)
  | ref m =>
   refine onLst_t h fun xs _ h => oq1 h fun ys h1 h2 => ?_
   subst h2
   simp only [PyData.depth]
   exact Nat.succ_le_succ (depthAll_le fun d hd => by obtain ⟨x, _, e⟩ := mapM_mem h1 d hd; exact rd_depth k e)
  | _ => cases h <;> simp [PyData.depth]
theorem shaped_rd {σ : Hp} {k : Nat} {v : V} {d : PyData} (h : rd k σ v = some d) (hk : k ≤ 64) (hp : pl d = true) : SeqAt.shaped d = true := by
 unfold SeqAt.shaped
 rw [pl_lay d hp, decide_eq_true (Nat.le_trans (rd_depth k h) hk)]; rfl
theorem mapM_map {α β γ : Type} {f : β → Option γ} {g : α → β} {h : α → γ} : ∀ {xs : List α}, (∀ x ∈ xs, f (g x) = some (h x)) → (xs.map g).mapM f = some (xs.map h)
 | [], _ => by rfl
 | x :: xs, H => by
  rw [List.map_cons, List.mapM_cons, H x (List.mem_cons_self), mapM_map fun y hy => H y (by simp [hy])]
  rfl
theorem rd_list {σ : Hp} {n k : Nat} {α : Type} {xs : List α} {g : α → V} {h : α → PyData} (hn : σ[n]? = some (.list (xs.map g))) (hh : ∀ x ∈ xs, rd k σ (g x) = some (h x)) : rd (k + 1) σ (.ref n) = some (.list (xs.map h)) := by
 show onLst σ[n]? (fun xs => (xs.mapM (rd k σ)).map PyData.list) = _
 rw [hn, onLst_c, mapM_map hh]; rfl
theorem rd_tup {σ : Hp} {k : Nat} {α : Type} {xs : List α} {g : α → V} {h : α → PyData} (hh : ∀ x ∈ xs, rd k σ (g x) = some (h x)) : rd (k + 1) σ (.tup (xs.map g)) = some (.tuple (xs.map h)) := by
 show ((xs.map g).mapM (rd k σ)).map PyData.tuple = _
 rw [mapM_map hh]; rfl
theorem rd_int {σ : Hp} {k : Nat} {i : Int} : rd (k + 1) σ (.int i) = some (.int i) := rfl
theorem rd_str {σ : Hp} {k : Nat} {i : Str} : rd (k + 1) σ (.str i) = some (.str i) := rfl
theorem lst_eq {v : V} {σ : Hp} {xs : List V} (h : lst v σ = some xs) : ∃ n, v = .ref n ∧ σ[n]? = some (.list xs) := by
 exact onRef_t h fun n e h => onLst_t h fun xs hσ h => by cases h; exact ⟨n, e, hσ⟩
theorem mapM_len {α β : Type} {f : α → Option β} : ∀ {xs : List α} {ys : List β}, xs.mapM f = some ys → ys.length = xs.length
 | [], ys, h => by simp at h; subst h; rfl
 | x :: xs, ys, h => by
  rw [List.mapM_cons] at h
  refine ob1 h fun z h1 h => ?_
  refine ob1 h fun zs h2 h => ?_
  cases h
  simp [mapM_len h2]
theorem rd_ref {σ : Hp} {k n : Nat} {xs : List V} {d : PyData} (hn : σ[n]? = some (.list xs)) (h : rd (k + 1) σ (.ref n) = some d) : ∃ ys, d = .list ys ∧ ys.length = xs.length := by
 replace h : onLst σ[n]? (fun xs => (xs.mapM (rd k σ)).map PyData.list) = some d := h
 rw [hn] at h
 refine oq1 h fun ys h1 h2 => ?_
 exact ⟨ys, h2.symm, mapM_len h1⟩
theorem eqB_rd {σ : Hp} {x y : V} {a b : PyData} {r : Bool} (ha : rd 6 σ x = some a) (hb : rd 6 σ y = some b) (pa : pl a = true) (pb : pl b = true) (hr : r = true ↔ a = b) : eqB x y σ = some r := by
 have main : (rd 6 σ x).bind (fun a => (rd 6 σ y).bind fun b => if SeqAt.shaped a = true ∧ SeqAt.shaped b = true then some (PyData.eqv a b) else none) = some r := by
  rw [ha, hb]
  simp only [Option.bind_some, shaped_rd ha (by decide) pa, shaped_rd hb (by decide) pb, and_self, if_true, Option.some.injEq]
  rw [Bool.eq_iff_iff, eqv_pl a b pa pb, hr]
 unfold eqB
 cases h1 : lst x σ with
 | none => exact main
 | some xs => cases h2 : lst y σ with
  | none => exact main
  | some ys =>
   obtain ⟨n, rfl, hn⟩ := lst_eq h1
   obtain ⟨m, rfl, hm⟩ := lst_eq h2
   obtain ⟨as, rfl, la⟩ := rd_ref hn ha
   obtain ⟨bs, rfl, lb⟩ := rd_ref hm hb
   cases xs with
   | nil =>
    show some ys.isEmpty = _
    have : as = [] := List.length_eq_zero_iff.mp la
    subst this
    rw [Option.some.injEq, Bool.eq_iff_iff, hr]
    cases ys with
    | nil => have : bs = [] := List.length_eq_zero_iff.mp lb; subst this; simp
    | cons y ys => cases bs with
     | nil => cases lb
     | cons b bs => simp
   | cons x xs => cases ys with
    | nil =>
     show some false = _
     have : bs = [] := List.length_eq_zero_iff.mp lb
     subst this
     rw [Option.some.injEq, Bool.eq_iff_iff, hr]
     cases as with
     | nil => cases la
     | cons b bs => simp
    | cons => exact main
theorem opEq_of {x y : V} {σ : Hp} {r : Bool} (h : eqB x y σ = some r) : opEq x y σ = some (.bool r, σ) := by unfold opEq; rw [h]; rfl
theorem opNe_of {x y : V} {σ : Hp} {r : Bool} (h : eqB x y σ = some r) : opNe x y σ = some (.bool (!r), σ) := by unfold opNe; rw [h]; rfl
theorem eqB_int {σ : Hp} (i j : Int) : eqB (.int i) (.int j) σ = some (decide (i = j)) := eqB_rd rd_int rd_int rfl rfl (by simp)
theorem eqB_str {σ : Hp} {i j : Str} (hi : PyData.strOk i = true) (hj : PyData.strOk j = true) : eqB (.str i) (.str j) σ = some (decide (i = j)) := eqB_rd rd_str rd_str hi hj (by simp)
noncomputable def vI (is : List Int) : List V := is.map V.int
noncomputable def vS (ss : List Str) : List V := ss.map V.str
noncomputable def fv (ss : List Str) : V := .tup (vS ss)
noncomputable def okS (ss : List Str) : Prop := ss.length ≤ 10 ∧ ∀ s ∈ ss, PyData.strOk s = true
theorem pl_ints (is : List Int) : pl (.list (is.map .int)) = true := by simp [pl_l, pl_i, plA_all]
theorem pl_strs {ss : List Str} (h : okS ss) : plA (ss.map .str) = true := by
 rw [plA_all]; simp only [List.all_map, List.all_eq_true]; intro s hs; exact h.2 s hs
theorem map_inj {α β : Type} {f : α → β} (hf : ∀ a b, f a = f b → a = b) : ∀ {xs ys : List α}, xs.map f = ys.map f ↔ xs = ys
 | [], [] => by simp
 | [], _ :: _ => by simp
 | _ :: _, [] => by simp
 | x :: xs, y :: ys => by
  simp only [List.map_cons, List.cons.injEq, map_inj hf]
  exact ⟨fun ⟨a, b⟩ => ⟨hf _ _ a, b⟩, fun ⟨a, b⟩ => ⟨by rw [a], b⟩⟩
theorem rd_ints {σ : Hp} {n k : Nat} {is : List Int} (h : σ[n]? = some (.list (vI is))) : rd (k + 2) σ (.ref n) = some (.list (is.map .int)) := rd_list h fun _ _ => rd_int
theorem rd_strs {σ : Hp} {n k : Nat} {ss : List Str} (h : σ[n]? = some (.list (vS ss))) : rd (k + 2) σ (.ref n) = some (.list (ss.map .str)) := rd_list h fun _ _ => rd_str
theorem rd_fv {σ : Hp} {k : Nat} {ss : List Str} : rd (k + 2) σ (fv ss) = some (.tuple (ss.map .str)) := rd_tup fun _ _ => rd_str
theorem eqB_ints {σ : Hp} {n m : Nat} {is js : List Int} (h : σ[n]? = some (.list (vI is))) (h' : σ[m]? = some (.list (vI js))) : eqB (.ref n) (.ref m) σ = some (decide (is = js)) :=
 eqB_rd (rd_ints h) (rd_ints h') (pl_ints _) (pl_ints _) (by simp [map_inj (f := PyData.int) (by intro a b h; cases h; rfl)])
theorem eqB_strs {σ : Hp} {n m : Nat} {is js : List Str} (h : σ[n]? = some (.list (vS is))) (h' : σ[m]? = some (.list (vS js))) (oi : okS is) (oj : okS js) : eqB (.ref n) (.ref m) σ = some (decide (is = js)) :=
 eqB_rd (rd_strs h) (rd_strs h') (pl_strs oi) (pl_strs oj) (by simp [map_inj (f := PyData.str) (by intro a b h; cases h; rfl)])
theorem eqB_fv {σ : Hp} {is js : List Str} (oi : okS is) (oj : okS js) : eqB (fv is) (fv js) σ = some (decide (is = js)) :=
 eqB_rd rd_fv rd_fv (pl_strs oi) (pl_strs oj) (by simp [map_inj (f := PyData.str) (by intro a b h; cases h; rfl)])
theorem eqB_nil {σ : Hp} {n m : Nat} {xs : List V} (h : σ[n]? = some (.list xs)) (h' : σ[m]? = some (.list [])) : eqB (.ref n) (.ref m) σ = some xs.isEmpty := by
 unfold eqB
 rw [lst_of h, lst_of h']
 cases xs <;> rfl
theorem opIn_of {x y : V} {σ : Hp} {r : Bool} (h : inB x y σ = some r) : opIn x y σ = some (.bool r, σ) := by unfold opIn; rw [h]; rfl
theorem opNotIn_of {x y : V} {σ : Hp} {r : Bool} (h : inB x y σ = some r) : opNotIn x y σ = some (.bool (!r), σ) := by unfold opNotIn; rw [h]; rfl
theorem inB_ints {σ : Hp} {n : Nat} {is : List Int} {i : Int} (h : σ[n]? = some (.list (vI is))) : inB (.int i) (.ref n) σ = some (decide (i ∈ is)) := by
 have e : (vI is).mapM (rd 5 σ) = some (is.map .int) := mapM_map fun _ _ => rd_int
 have s1 : SeqAt.shaped (.int i) = true := shaped_rd (σ := σ) (k := 1) rd_int (by decide) rfl
 have s2 : SeqAt.shaped (.list (is.map .int)) = true := shaped_rd (rd_ints (k := 4) h) (by decide) (pl_ints _)
 unfold inB
 simp only [vc_r, onLD_a, h, rd_int, e, Option.bind_some, s1, s2, and_self, if_true, Option.some.injEq]
 rw [Bool.eq_iff_iff]
 simp [List.any_map, PyData.eqv]
theorem inB_strs {σ : Hp} {n : Nat} {is : List Str} {i : Str} (h : σ[n]? = some (.list (vS is))) (o : okS is) (o' : PyData.strOk i = true) : inB (.str i) (.ref n) σ = some (decide (i ∈ is)) := by
 have e : (vS is).mapM (rd 5 σ) = some (is.map .str) := mapM_map fun _ _ => rd_str
 have s1 : SeqAt.shaped (.str i) = true := shaped_rd (σ := σ) (k := 1) rd_str (by decide) o'
 have s2 : SeqAt.shaped (.list (is.map .str)) = true := shaped_rd (rd_strs (k := 4) h) (by decide) (pl_strs o)
 unfold inB
 simp only [vc_r, onLD_a, h, rd_str, e, Option.bind_some, s1, s2, and_self, if_true, Option.some.injEq]
 rw [Bool.eq_iff_iff]
 simp only [List.any_map, List.any_eq_true, Function.comp, PyData.eqv, beq_iff_eq, decide_eq_true_eq]
 exact ⟨fun ⟨x, h1, h2⟩ => h2 ▸ h1, fun h => ⟨i, h, rfl⟩⟩
theorem inB_dict {σ : Hp} {n : Nat} {es : List (Int × V)} {i : Int} (h : σ[n]? = some (.idict es)) : inB (.int i) (.ref n) σ = some (es.lookup i).isSome := by
 unfold inB; simp only [vc_r, onLD_b, onInt_c, h]
theorem e_sCons {f g : St} {ρ ρ1 : Loc} {σ σ1 : Hp} {r} (h : f ρ σ = some (.next, ρ1, σ1)) (k : g ρ1 σ1 = r) : sCons f g ρ σ = r := by unfold sCons; rw [h]; exact k
theorem e_sConsR {f g : St} {ρ ρ1 : Loc} {σ σ1 : Hp} {v} (h : f ρ σ = some (.ret v, ρ1, σ1)) : sCons f g ρ σ = some (.ret v, ρ1, σ1) := by unfold sCons; rw [h]; rfl
theorem e_sAsg {f : Fn} {a : Asg} {ρ ρ2 : Loc} {σ σ1 σ2 : Hp} {v} (h : f ρ σ = some (v, σ1)) (k : a v ρ σ1 = some (ρ2, σ2)) : sAsg f a ρ σ = some (.next, ρ2, σ2) := by unfold sAsg; rw [h, Option.bind_some, k]; rfl
theorem e_sRet {f : Fn} {ρ : Loc} {σ σ1 : Hp} {v} (h : f ρ σ = some (v, σ1)) : sRet f ρ σ = some (.ret v, ρ, σ1) := by unfold sRet; rw [h]; rfl
theorem e_sExpr {f : Fn} {ρ : Loc} {σ σ1 : Hp} {v} (h : f ρ σ = some (v, σ1)) : sExpr f ρ σ = some (.next, ρ, σ1) := by unfold sExpr; rw [h]; rfl
theorem e_sIf {t} {f g : St} {ρ : Loc} {σ σ1 : Hp} {b r} (h : t ρ σ = some (b, σ1)) (k : cond b (f ρ σ1) (g ρ σ1) = r) : sIf t f g ρ σ = r := by unfold sIf; rw [h, ← k]; cases b <;> rfl
theorem e_ifE {t} {f g : Fn} {ρ : Loc} {σ σ1 : Hp} {b r} (h : t ρ σ = some (b, σ1)) (k : cond b (f ρ σ1) (g ρ σ1) = r) : Mine.ifE t f g ρ σ = r := by unfold Mine.ifE; rw [h, ← k]; cases b <;> rfl
theorem e_condT {α : Type} {x y r : α} (k : x = r) : cond true x y = r := k
theorem e_condF {α : Type} {x y r : α} (k : y = r) : cond false x y = r := k
theorem e_tst {f : Fn} {ρ : Loc} {σ σ1 : Hp} {b} (h : f ρ σ = some (.bool b, σ1)) : tst f ρ σ = some (b, σ1) := by unfold tst; rw [h]; rfl
theorem e_notT {f : Loc → Hp → Option (Bool × Hp)} {ρ : Loc} {σ σ1 : Hp} {b b'} (h : f ρ σ = some (b, σ1)) (e : (!b) = b') : notT f ρ σ = some (b', σ1) := by unfold notT; rw [h, ← e]; rfl
theorem e_andT {f g : Loc → Hp → Option (Bool × Hp)} {ρ : Loc} {σ σ1 : Hp} {b r} (h : f ρ σ = some (b, σ1)) (k : cond b (g ρ σ1) (some (false, σ1)) = r) : andT f g ρ σ = r := by unfold andT; rw [h, ← k]; cases b <;> rfl
theorem e_orT {f g : Loc → Hp → Option (Bool × Hp)} {ρ : Loc} {σ σ1 : Hp} {b r} (h : f ρ σ = some (b, σ1)) (k : cond b (some (true, σ1)) (g ρ σ1) = r) : orT f g ρ σ = r := by unfold orT; rw [h, ← k]; cases b <;> rfl
theorem e_un1 {o : V → Hp → Option (V × Hp)} {f : Fn} {ρ : Loc} {σ σ1 : Hp} {v r} (h : f ρ σ = some (v, σ1)) (k : o v σ1 = r) : un1 o f ρ σ = r := by unfold un1; rw [h, ← k]; rfl
theorem e_bin2 {o : V → V → Hp → Option (V × Hp)} {f g : Fn} {ρ : Loc} {σ σ1 σ2 : Hp} {v w r} (h : f ρ σ = some (v, σ1)) (h2 : g ρ σ1 = some (w, σ2)) (k : o v w σ2 = r) : bin2 o f g ρ σ = r := by unfold bin2; rw [h, Option.bind_some, h2, ← k]; rfl
theorem e_callL {fs : FnL} {o : List V → Hp → Option (V × Hp)} {ρ : Loc} {σ σ1 : Hp} {vs r} (h : fs ρ σ = some (vs, σ1)) (k : o vs σ1 = r) : callL fs o ρ σ = r := by unfold callL; rw [h, ← k]; rfl
theorem e_consL {f : Fn} {g : FnL} {ρ : Loc} {σ σ1 σ2 : Hp} {v vs} (h : f ρ σ = some (v, σ1)) (k : g ρ σ1 = some (vs, σ2)) : consL f g ρ σ = some (v :: vs, σ2) := by unfold consL; rw [h, Option.bind_some, k]; rfl
theorem e_meth {p : V → Hp → Bool} {f : Fn} {fs : FnL} {o : List V → Hp → Option (V × Hp)} {ρ : Loc} {σ σ1 σ2 : Hp} {v vs r} (h : f ρ σ = some (v, σ1)) (hp : p v σ1 = true) (h2 : fs ρ σ1 = some (vs, σ2)) (k : o (v :: vs) σ2 = r) : meth p f fs o ρ σ = r := by
 unfold meth; rw [h, Option.bind_some, if_pos hp, h2, ← k]; rfl
theorem e_mkTup {f : FnL} {ρ : Loc} {σ σ1 : Hp} {vs} (h : f ρ σ = some (vs, σ1)) (hl : vs.length ≤ big) : mkTup f ρ σ = some (.tup vs, σ1) := by unfold mkTup; rw [h, Option.bind_some, if_pos hl]
theorem e_mkList {f : FnL} {ρ : Loc} {σ σ1 : Hp} {vs} (h : f ρ σ = some (vs, σ1)) (hl : vs.length ≤ big) : mkList f ρ σ = some (.ref σ1.length, σ1 ++ [.list vs]) := by unfold mkList; rw [h, Option.bind_some, if_pos hl]
theorem e_attrA {f : Fn} {o : V → V → Hp → Option Hp} {x} {ρ : Loc} {σ σ1 σ2 : Hp} {v} (h : f ρ σ = some (v, σ1)) (k : o v x σ1 = some σ2) : attrA f o x ρ σ = some (ρ, σ2) := by unfold attrA; rw [h, Option.bind_some, k]; rfl
theorem e_subA {f g : Fn} {o : V → V → V → Hp → Option Hp} {x} {ρ : Loc} {σ σ1 σ2 σ3 : Hp} {v w} (h : f ρ σ = some (v, σ1)) (h2 : g ρ σ1 = some (w, σ2)) (k : o v w x σ2 = some σ3) : subA f g o x ρ σ = some (ρ, σ3) := by unfold subA; rw [h, Option.bind_some, h2, Option.bind_some, k]; rfl
theorem e_ret {ar n : Nat} {g : St} {vs : List V} {σ σ1 : Hp} {ρ1 : Loc} {v} (hl : vs.length = ar) (h : g (vs ++ List.replicate n .undef) σ = some (.ret v, ρ1, σ1)) : runF ar n g vs σ = some (v, σ1) := by unfold runF; rw [if_pos hl, h]; rfl
theorem e_nxt {ar n : Nat} {g : St} {vs : List V} {σ σ1 : Hp} {ρ1 : Loc} (hl : vs.length = ar) (h : g (vs ++ List.replicate n .undef) σ = some (.next, ρ1, σ1)) : runF ar n g vs σ = some (.none, σ1) := by unfold runF; rw [if_pos hl, h]; rfl
theorem e_mkInst {C : Nat} {init : List V → Hp → Option (V × Hp)} {vs : List V} {σ σ1 : Hp} (h : init (.ref σ.length :: vs) (σ ++ [.inst C []]) = some (.none, σ1)) : mkInst C init vs σ = some (.ref σ.length, σ1) := by unfold mkInst; rw [h]; rfl
theorem getA_ok {C i b : Nat} {σ : Hp} {fs : List V} {v} (h : σ[b]? = some (.inst C fs)) (hi : fs[i]? = some v) : getA C i (.ref b) σ = some (v, σ) := by unfold getA; rw [onRef_c, h, onIn_c, if_pos rfl, hi]; rfl
theorem e_nilL {ρ : Loc} {σ : Hp} : nilL ρ σ = some ([], σ) := rfl
theorem e_sNil {ρ : Loc} {σ : Hp} : sNil ρ σ = some (.next, ρ, σ) := rfl
theorem e_cInt {ρ : Loc} {σ : Hp} {i} : cInt i ρ σ = some (.int i, σ) := rfl
theorem e_add {a b : Int} {σ : Hp} : opAdd (.int a) (.int b) σ = some (.int (a + b), σ) := rfl
theorem e_stA0 {i : Nat} {x : V} {ρ : Loc} {σ : Hp} : stA i x ρ σ = some (ρ.set i x, σ) := rfl
theorem e_setA {C i b : Nat} {v : V} {fs fs' : List V} {σ σ' : Hp} (h : σ[b]? = some (.inst C fs)) (hl : fs.length.ble 900 = true) (hs : setF fs i v = some fs') (e : σ.set b (.inst C fs') = σ') : setA C i (.ref b) v σ = some σ' := by
 have hl' : fs.length ≤ 900 := Nat.le_of_ble_eq_true hl
 unfold setA; rw [onRef_c, h, onIn_c, if_pos ⟨rfl, hl'⟩, hs, ← e]; rfl
theorem e_var {i : Nat} {ρ : Loc} {σ : Hp} {v} (h : ρ[i]? = some v) (n : nu v = true) : var i ρ σ = some (v, σ) := by
 unfold var; rw [h, Option.bind_some, n]; rfl
theorem e_opt {α : Type} {x : Option α} {a : α} {b : α} (h : x = some a) (e : a = b) : x = some b := by rw [h, e]
theorem lst_ok {n : Nat} {σ : Hp} {xs : List V} (h : σ[n]? = some (.list xs)) : lst (.ref n) σ = some xs := lst_of h
theorem e_append {n : Nat} {v : V} {σ : Hp} {xs : List V} (h : σ[n]? = some (.list xs)) (hl : xs.length < big) : mAppend [.ref n, v] σ = some (.none, σ.set n (.list (xs ++ [v]))) := by
 unfold mAppend; rw [arg2_c, onRef_c, lst_of h, Option.bind_some, if_pos hl]
theorem e_isL {n : Nat} {σ : Hp} {xs : List V} (h : σ[n]? = some (.list xs)) : isL (.ref n) σ = true := by unfold isL; rw [lst_ok h]; rfl
theorem e_isInst {C n : Nat} {σ : Hp} {fs : List V} (h : σ[n]? = some (.inst C fs)) : isInst C (.ref n) σ = true := by unfold isInst; rw [onRef_c, h, onIn_c]; exact beq_self_eq_true C
theorem e_len {n : Nat} {σ : Hp} {xs : List V} (h : σ[n]? = some (.list xs)) (hl : xs.length ≤ big) : bLen [.ref n] σ = some (.int xs.length, σ) := by unfold bLen; rw [arg1_c, vc_r, lst_of h, Option.bind_some, if_pos hl]
noncomputable def contF : Fl → St → Loc → Hp → Option (Fl × Loc × Hp)
 | .next, g, ρ, σ => g ρ σ
 | .ret v, _, ρ, σ => some (.ret v, ρ, σ)
theorem e_sConsI {t} {f g h : St} {ρ ρ1 : Loc} {σ σ1 : Hp} {fl r} (a : sIf t f g ρ σ = some (fl, ρ1, σ1)) (k : contF fl h ρ1 σ1 = r) : sCons (sIf t f g) h ρ σ = r := by unfold sCons; rw [a, ← k]; cases fl <;> rfl
theorem e_cN {g : St} {ρ : Loc} {σ : Hp} {r} (k : g ρ σ = r) : contF .next g ρ σ = r := k
theorem e_cR {g : St} {ρ : Loc} {σ : Hp} {v} : contF (.ret v) g ρ σ = some (.ret v, ρ, σ) := rfl
theorem e_nt : (!true) = false := rfl
theorem e_nf : (!false) = true := rfl
theorem e_cStr {ρ : Loc} {σ : Hp} {s} : cStr s ρ σ = some (.str s, σ) := rfl
theorem e_cBool {ρ : Loc} {σ : Hp} {b} : cBool b ρ σ = some (.bool b, σ) := rfl
theorem e_cNone {ρ : Loc} {σ : Hp} : cNone ρ σ = some (.none, σ) := rfl
theorem e_cBytes {ρ : Loc} {σ : Hp} {b} : cBytes b ρ σ = some (.bytes b, σ) := rfl
theorem e_asg2 {i j : Nat} {y z : V} {ρ : Loc} {σ : Hp} : asg2 (stA i) (stA j) (.tup [y, z]) ρ σ = some ((ρ.set i y).set j z, σ) := rfl
theorem e_swA {i j : Nat} {y z : V} {ρ : Loc} {σ : Hp} : swA i j (.tup [y, z]) ρ σ = some ((ρ.set j z).set i y, σ) := rfl
theorem e_isn1 {n : Nat} {σ : Hp} : opIsNot (.ref n) .none σ = some (.bool true, σ) := rfl
theorem e_isn2 {σ : Hp} : opIsNot .none .none σ = some (.bool false, σ) := rfl
theorem e_sub {a b : Int} {σ : Hp} : opSub (.int a) (.int b) σ = some (.int (a - b), σ) := rfl
theorem e_sA {f : Fn} {i : Nat} {g : St} {ρ : Loc} {σ σ1 : Hp} {v r} (h : f ρ σ = some (v, σ1)) (k : g (ρ.set i v) σ1 = r) : sCons (sAsg f (stA i)) g ρ σ = r := by unfold sCons sAsg; rw [h]; exact k
theorem e_sE {f : Fn} {g : St} {ρ : Loc} {σ σ1 : Hp} {v r} (h : f ρ σ = some (v, σ1)) (k : g ρ σ1 = r) : sCons (sExpr f) g ρ σ = r := by unfold sCons sExpr; rw [h]; exact k
theorem e_sR {f : Fn} {g : St} {ρ : Loc} {σ σ1 : Hp} {v} (h : f ρ σ = some (v, σ1)) : sCons (sRet f) g ρ σ = some (.ret v, ρ, σ1) := by unfold sCons sRet; rw [h]; rfl
theorem e_orV {f g : Fn} {ρ : Loc} {σ σ1 : Hp} {b r} (h : f ρ σ = some (.bool b, σ1)) (k : cond b (some (.bool true, σ1)) (g ρ σ1) = r) : orV f g ρ σ = r := by unfold orV; rw [h, ← k]; cases b <;> rfl
theorem e_andV {f g : Fn} {ρ : Loc} {σ σ1 : Hp} {b r} (h : f ρ σ = some (.bool b, σ1)) (k : cond b (g ρ σ1) (some (.bool false, σ1)) = r) : andV f g ρ σ = r := by unfold andV; rw [h, ← k]; cases b <;> rfl
theorem e_mkVl {f : Fn} {ρ : Loc} {σ σ1 : Hp} {n : Nat} {xs} (h : f ρ σ = some (.ref n, σ1)) (hl : σ1[n]? = some (.list xs)) : mkV f ρ σ = some (.list n, σ1) := by unfold mkV; rw [h, Option.bind_some]; show (onLst σ1[n]? _).map _ = _; rw [hl]; rfl
theorem e_mkVt {f : Fn} {ρ : Loc} {σ σ1 : Hp} {xs} (h : f ρ σ = some (.tup xs, σ1)) : mkV f ρ σ = some (.tup xs, σ1) := by unfold mkV; rw [h]; rfl
theorem e_mkR1 {f : Fn} {ρ : Loc} {σ σ1 : Hp} {i : Int} (h : f ρ σ = some (.int i, σ1)) (hb : -1000000000 ≤ i ∧ i ≤ 1000000000) : mkR1 f ρ σ = some (.range 0 i, σ1) := by unfold mkR1; rw [h, Option.bind_some]; exact if_pos hb
theorem e_at {C k i b : Nat} {fs : List V} {v} {ρ : Loc} {σ : Hp} (hv : var i ρ σ = some (.ref b, σ)) (h : σ[b]? = some (.inst C fs)) (hi : fs[k]? = some v) : un1 (getA C k) (var i) ρ σ = some (v, σ) := e_un1 hv (getA_ok h hi)
theorem e_cv {i : Nat} {g : FnL} {ρ : Loc} {σ σ2 : Hp} {v vs} (h : var i ρ σ = some (v, σ)) (k : g ρ σ = some (vs, σ2)) : consL (var i) g ρ σ = some (v :: vs, σ2) := e_consL h k
theorem e_tv {i : Nat} {ρ : Loc} {σ : Hp} {b} (h : var i ρ σ = some (.bool b, σ)) : tst (var i) ρ σ = some (b, σ) := e_tst h
theorem e_lb {i : Nat} {ρ : Loc} {σ : Hp} {n : Nat} {xs} (hv : var i ρ σ = some (.ref n, σ)) (h : σ[n]? = some (.list xs)) (hl : xs.length ≤ big) : callL (consL (var i) nilL) bLen ρ σ = some (.int xs.length, σ) := e_callL (e_consL hv e_nilL) (e_len h hl)
theorem e_condNT {α : Type} {x y r : α} (k : y = r) : cond (!true) x y = r := k
theorem e_condNF {α : Type} {x y r : α} (k : x = r) : cond (!false) x y = r := k
theorem e_lk {σ : Hp} {n : Nat} {o : O} (h : σ[n]? = some o) : σ[n]? = some o := h
theorem e_setN {C i : Nat} {v : V} {fs fs' : List V} {σ σ' : Hp} (hl : fs.length.ble 900 = true) (hs : setF fs i v = some fs') (e : σ ++ [O.inst C fs'] = σ') : setA C i (.ref σ.length) v (σ ++ [O.inst C fs]) = some σ' :=
 e_setA (new_get _ _) hl hs (by rw [set_last]; exact e)
theorem e_neg {a : Int} {σ : Hp} : opNeg (.int a) σ = some (.int (-a), σ) := rfl
theorem e_cdT {α : Type} {p : Prop} [Decidable p] {x y r : α} (h : p) (k : x = r) : cond (decide p) x y = r := by rw [decide_eq_true h]; exact k
theorem e_cdF {α : Type} {p : Prop} [Decidable p] {x y r : α} (h : ¬ p) (k : y = r) : cond (decide p) x y = r := by rw [decide_eq_false h]; exact k
theorem e_cbT {α : Type} {b : Bool} {x y r : α} (h : b = true) (k : x = r) : cond b x y = r := by rw [h]; exact k
theorem e_cbF {α : Type} {b : Bool} {x y r : α} (h : b = false) (k : y = r) : cond b x y = r := by rw [h]; exact k
theorem e_leq {a b c : Nat} (h : a = b) (k : b ≤ c) : a ≤ c := h ▸ k
theorem e_lenq {n m : Nat} {σ : Hp} {xs : List V} (h : σ[n]? = some (.list xs)) (q : xs.length = m) (hl : m ≤ big) : bLen [.ref n] σ = some (.int m, σ) := by subst q; exact e_len h hl
theorem e_lbq {i : Nat} {ρ : Loc} {σ : Hp} {n m : Nat} {xs} (hv : var i ρ σ = some (.ref n, σ)) (h : σ[n]? = some (.list xs)) (q : xs.length = m) (hl : m ≤ big) : callL (consL (var i) nilL) bLen ρ σ = some (.int m, σ) := e_callL (e_consL hv e_nilL) (e_lenq h q hl)
theorem opLt_t {a b : Int} {σ : Hp} (h : a < b) : opLt (.int a) (.int b) σ = some (.bool true, σ) := by show some (V.bool (decide (a < b)), σ) = _; rw [decide_eq_true h]
theorem opLt_f {a b : Int} {σ : Hp} (h : ¬ a < b) : opLt (.int a) (.int b) σ = some (.bool false, σ) := by show some (V.bool (decide (a < b)), σ) = _; rw [decide_eq_false h]
theorem opItem_l {L : Nat} {i : Int} {σ : Hp} {xs : List V} {v : V} (h : σ[L]? = some (.list xs)) (hi : idx xs i = some v) : opItem (.ref L) (.int i) σ = some (v, σ) := by unfold opItem; rw [onTR_b, onIS_a, h, onLD_a, hi]; rfl
def evNm (s : String) : List (Lean.TSyntax `term) := (s.splitOn " ").map fun x => ⟨(Lean.mkIdent x.toName).raw⟩
def evMap (f : Lean.TSyntax `term → Lean.MacroM (Lean.TSyntax ``Lean.Parser.Tactic.tacticSeq)) (l : List (Lean.TSyntax `term)) : Lean.MacroM (Array (Lean.TSyntax ``Lean.Parser.Tactic.tacticSeq)) := l.foldlM (fun a t => do return a.push (← f t)) #[]
def evWr (ts : Array (Lean.TSyntax ``Lean.Parser.Tactic.tacticSeq)) (t : Lean.TSyntax `term) : Lean.MacroM (Lean.TSyntax ``Lean.Parser.Tactic.tacticSeq) := `(Lean.Parser.Tactic.tacticSeq| ((with_reducible apply $t); $[($ts)];*))
def evEx (t : Lean.TSyntax `term) : Lean.MacroM (Lean.TSyntax ``Lean.Parser.Tactic.tacticSeq) := `(Lean.Parser.Tactic.tacticSeq| exact $t)
def evFst (a : Array (Lean.TSyntax ``Lean.Parser.Tactic.tacticSeq)) : Lean.MacroM (Lean.TSyntax ``Lean.Parser.Tactic.tacticSeq) := `(Lean.Parser.Tactic.tacticSeq| first $[| $a]*)
def evAll (l : List (String × Array (Lean.TSyntax ``Lean.Parser.Tactic.tacticSeq))) : Lean.MacroM (Array (Lean.TSyntax ``Lean.Parser.Tactic.tacticSeq)) := l.foldlM (fun a p => do return a ++ (← evMap (evWr p.2) (evNm p.1))) #[]
def evRf (h : String) (k : Nat) : Lean.MacroM (Lean.TSyntax ``Lean.Parser.Tactic.tacticSeq) := do
 let t := Lean.Syntax.mkApp (Lean.mkIdent h.toName) (Array.replicate k (← `(_)))
 evEx (← `((rfl : $t = _)))
def evIsD (e : Lean.Syntax) : Bool := ["f_", "b_", "l_", "w_", "c_", "i_"].any fun p => p.isPrefixOf (toString e[2].getId)
def evTac (ts : List (Lean.TSyntax `term)) (old : Lean.TSyntax `tactic) : Lean.MacroM (Lean.TSyntax `tactic) := do
 let fa ← evMap (evWr #[]) ts
 let X ← `(Lean.Parser.Tactic.tacticSeq| rfl)
 let nb ← evEx (← `(Nat.le_of_ble_eq_true rfl))
 let od ← `(Lean.Parser.Tactic.tacticSeq| ($old:tactic; first | done | rfl))
 let vr ← evRf "var" 3
 let lk ← evFst (#[← `(Lean.Parser.Tactic.tacticSeq| with_reducible assumption)] ++ fa)
 let bd ← evFst (#[nb, lk, ← evWr #[lk, lk] (← `(e_leq)), od])
 let st ← `(Lean.Parser.Tactic.tacticSeq| ((try dsimp only [List.set_cons_succ, List.set_cons_zero]); first | ($lk) | rfl))
 let a1 ← evAll [("e_nilL e_sNil e_cInt e_cStr e_cBool e_cNone e_cBytes e_nt e_nf e_cR e_add e_sub e_stA0 e_asg2 e_swA e_isn1 e_isn2 e_neg rfl", #[]), ("e_at", #[vr, lk, X]), ("e_lbq", #[vr, lk, lk, bd]), ("e_lb", #[vr, lk, bd]), ("e_tv e_cv", #[vr])]
 let a2 ← evAll [("e_nxt", #[X]), ("e_lk e_isL e_isInst", #[lk]), ("e_setN", #[X, X, st]), ("getA_ok", #[lk, X]), ("e_lenq", #[lk, lk, bd]), ("e_len e_append", #[lk, bd]), ("e_setA", #[lk, X, X, st]),
  ("e_condT e_condF e_condNT e_condNF e_sConsI e_cN e_sA e_sE e_sR e_sCons e_sAsg e_sRet e_sExpr e_sIf e_ifE e_tst e_notT e_andT e_orT e_orV e_andV e_un1 e_bin2 e_callL e_consL e_meth e_mkTup e_mkList e_attrA e_subA e_mkR1 e_mkVl e_mkVt e_mkInst", #[]), ("e_cdT e_cdF e_cbT e_cbF", #[lk])]
 let ev ← evFst (fa ++ a1 ++ #[vr, ← evRf "stA" 4, ← evRf "opIsNot" 3, ← evRf "sNil" 2] ++ a2 ++ (← evMap evEx ts) ++ #[nb, od])
 `(tactic| ((repeat' ($ev)); done))
end
local macro_rules
 | `(tactic| simp only [$as,*] $[$l:location]?) => do
  let es := as.getElems.toList.map (·.raw)
  unless es.any (fun e => e[2].getId == `MSX) do Lean.Macro.throwUnsupported
  let ys := es.filter (fun e => e[2].getId != `MSX)
  let e0 := Lean.Syntax.node .none `null #[]
  let ms := (evNm "big0 big1 big2 big3 big4 big5 bigl0 bigl1 bigl2 idx_0 idx_1 idx_2 idx_m1 idx_m2 idx_m3 runF.eq_def sCons.eq_def sAsg.eq_def sRet.eq_def sExpr.eq_def sIf.eq_def sNil.eq_def stA.eq_def swA.eq_def asg2.eq_def asg3.eq_def attrA.eq_def subA.eq_def callL.eq_def consL.eq_def nilL.eq_def bin2.eq_def un1.eq_def var.eq_def cInt.eq_def cStr.eq_def cBool.eq_def cNone.eq_def cBytes.eq_def tst.eq_def notT.eq_def andT.eq_def orT.eq_def andV.eq_def orV.eq_def Mine.ifE.eq_def mkList.eq_def mkTup.eq_def meth.eq_def isInst.eq_def isL.eq_def isD.eq_def mkV.eq_def srcOf.eq_def mkR1.eq_def mkR2.eq_def getA.eq_def setA.eq_def setF.eq_def lst.eq_def bLen.eq_def opAdd.eq_def opSub.eq_def opLt.eq_def opLe.eq_def opGt.eq_def opGe.eq_def opNeg.eq_def opMod.eq_def mAppend.eq_def mExtend.eq_def mPop.eq_def mInsert.eq_def opIsNot.eq_def arg1_c arg2_c arg3_c onRef_c onInt_c onStr_c onTup_c onTR_a onTR_b onIS_a onIS_b onIR_a onIR_b onLst_c onLD_a onLD_b onSd_c onIn_c onNone_c onBool_c vc_r vc_s vc_n oc_i on2.eq_def cond_true cond_false nu_r nu_i nu_s nu_b nu_t nu_n Option.getD_some List.length_cons List.length_nil List.length_append List.length_map List.length_set List.replicate_succ List.replicate_zero List.cons_append List.nil_append List.append_nil List.getElem?_cons_zero List.getElem?_cons_succ List.set_cons_zero List.set_cons_succ if_true if_false Bool.false_eq_true beq_self_eq_true Bool.not_true Bool.not_false Bool.not_eq_true decide_eq_true_eq decide_true decide_false Option.isSome_some and_self and_true true_and List.set_set not_true_eq_false not_false_eq_true reduceIte Nat.reduceAdd Nat.reduceLeDiff Nat.reduceLT Nat.reduceEqDiff Int.reduceNeg Int.reduceLE Int.reduceLT").map fun n => Lean.Syntax.node .none ``Lean.Parser.Tactic.simpLemma #[e0, e0, n.raw]
  let xs : Array (Lean.TSyntax ``Lean.Parser.Tactic.simpLemma) := ((ys ++ ms).map (⟨·⟩)).toArray
  let old ← `(tactic| simp only [↓obind, ↓omap, $xs,*] $[$l]?)
  if l.isSome then return old
  let ds : Array (Lean.TSyntax ``Lean.Parser.Tactic.simpLemma) := ((ys.filter evIsD).map (⟨·⟩)).toArray
  let ev ← evTac ((ys.filter (fun e => !evIsD e)).map (fun e => ⟨e[2]⟩)) old
  if ds.isEmpty then `(tactic| first | $ev:tactic | $old:tactic)
  else
   let dd ← `(tactic| (dsimp only [$ds,*]; $ev:tactic))
   `(tactic| first | (apply e_ret rfl; $dd:tactic) | (apply e_nxt rfl; $dd:tactic) | $dd:tactic | $old:tactic)
section
open PySem PySem.W
structure Lt where
 u : Int
 fl : List Str
 ms : Int
noncomputable abbrev Ls := List (Nat × Lt)
inductive LtAt (σ : Hp) (a : Nat) (l : Lt) : Prop
 | mk (oc : Array UInt8) (ins : Int) (_ : σ[a]? = some (.inst 289 [.int l.u, .bytes oc, fv l.fl, .int ins, .int l.ms])) : LtAt σ a l
noncomputable def refs (ls : Ls) : List V := ls.map fun p => V.ref p.1
noncomputable def keys (ls : Ls) : List Int := ls.map fun p => p.2.u
structure Bx where
 b : Nat
 L : Nat
 G : Nat
 ls : Ls
 nu : Int
 top : Int
inductive BoxO (σ : Hp) (B : Bx) : Prop
 | mk (nm vd fr : V) (_ : σ[B.b]? = some (.inst 327 [nm, vd, .int B.nu, .int B.top, fr, .ref B.L, .ref B.G])) : BoxO σ B
inductive GoneO (σ : Hp) (B : Bx) : Prop
 | mk (gs : List V) (_ : σ[B.G]? = some (.list gs)) (_ : gs.length ≤ 1000 * B.top.toNat) : GoneO σ B
theorem BoxO.lt {σ : Hp} {B : Bx} (h : BoxO σ B) : B.b < σ.length := by obtain ⟨_, _, _, h⟩ := h; exact lt_of_get h
theorem GoneO.lt {σ : Hp} {B : Bx} (h : GoneO σ B) : B.G < σ.length := by obtain ⟨_, h, _⟩ := h; exact lt_of_get h
structure BxAt (σ : Hp) (B : Bx) : Prop where
 box : BoxO σ B
 L : σ[B.L]? = some (.list (refs B.ls))
 G : GoneO σ B
 lt : ∀ p ∈ B.ls, LtAt σ p.1 p.2
noncomputable def Srt (is : List Int) : Prop := is.Pairwise (· < ·)
theorem srt_get {is : List Int} (h : Srt is) {i j : Nat} {x y : Int} (hi : is[i]? = some x) (hj : is[j]? = some y) (hij : i < j) : x < y := by
 obtain ⟨li, rfl⟩ := List.getElem?_eq_some_iff.mp hi
 obtain ⟨lj, rfl⟩ := List.getElem?_eq_some_iff.mp hj
 exact List.pairwise_iff_getElem.mp h i j li lj hij
theorem keys_get {ls : Ls} {i : Nat} {p : Nat × Lt} (h : ls[i]? = some p) : (keys ls)[i]? = some p.2.u := by simp [keys, h]
theorem keys_uniq {ls : Ls} (h : Srt (keys ls)) {p q : Nat × Lt} (hp : p ∈ ls) (hq : q ∈ ls) (e : p.2.u = q.2.u) : p = q := by
 obtain ⟨i, hi⟩ := List.mem_iff_getElem?.mp hp
 obtain ⟨j, hj⟩ := List.mem_iff_getElem?.mp hq
 rcases Nat.lt_trichotomy i j with l | l | l
 ·exact absurd (srt_get h (keys_get hi) (keys_get hj) l) (om89 e)
 ·subst l; rw [hi] at hj; cases hj; rfl
 ·exact absurd (srt_get h (keys_get hj) (keys_get hi) l) (om90 e)
theorem half {lo hi : Nat} : Int.fdiv ((lo : Int) + (hi : Int)) 2 = (((lo + hi) / 2 : Nat) : Int) := by
 rw [Int.fdiv_eq_ediv_of_nonneg _ (by decide)]; exact om91
theorem search {T : Loc → Hp → Option (Bool × Hp)} {F : St} {X : V} {u : Int} {σ : Hp} {ks : List Int}
  (hT : ∀ (lo hi : Nat) m, T [X, .int u, .int lo, .int hi, m] σ = some (decide ((lo : Int) < (hi : Int)), σ))
  (hF : ∀ (lo hi : Nat) m x, lo < hi → hi ≤ ks.length → ks[(lo + hi) / 2]? = some x → ∃ m', F [X, .int u, .int lo, .int hi, m] σ = some (.next, (if x < u then [X, .int u, .int (((lo + hi) / 2 + 1 : Nat) : Int), .int hi, m'] else [X, .int u, .int lo, .int (((lo + hi) / 2 : Nat) : Int), m']), σ))
  (hs : Srt ks) : ∀ (k lo hi : Nat) (m : V), hi - lo < k → lo ≤ hi → hi ≤ ks.length → (∀ i x, i < lo → ks[i]? = some x → x < u) → (∀ i x, hi ≤ i → ks[i]? = some x → u ≤ x) →
   ∃ (p : Nat) (m' : V), sWhile T F k [X, .int u, .int lo, .int hi, m] σ = some (.next, [X, .int u, .int p, .int p, m'], σ) ∧ p ≤ ks.length ∧ (∀ i x, i < p → ks[i]? = some x → x < u) ∧ (∀ i x, p ≤ i → ks[i]? = some x → u ≤ x) := by
 intro k
 induction k with
 | zero => intro lo hi m h; exact om92 h
 | succ k ih =>
  intro lo hi m hk hlh hhi h1 h2
  by_cases hlt : lo < hi
  ·have hmid : (lo + hi) / 2 < ks.length := by exact om93 hhi hlt
   obtain ⟨m', hF'⟩ := hF lo hi m _ hlt hhi (List.getElem?_eq_getElem hmid)
   have step : sWhile T F (k + 1) [X, .int u, .int lo, .int hi, m] σ = (F [X, .int u, .int lo, .int hi, m] σ).bind fun q => match q.1 with
     | .next => sWhile T F k q.2.1 q.2.2
     | .ret v => some (.ret v, q.2.1, q.2.2) := by
    show (T _ σ).bind _ = _
    rw [hT, decide_eq_true (om94 hlt)]
    rfl
   rw [step, hF']
   by_cases hx : ks[(lo + hi) / 2] < u
   ·simp only [Option.bind_some, hx, if_true]
    refine ih _ hi m' (om95 hk hlt) (om96 hlt) hhi (fun i x hi' hx' => ?_) h2
    by_cases e : i = (lo + hi) / 2
    ·subst e; rw [List.getElem?_eq_getElem hmid] at hx'; cases hx'; exact hx
    ·exact Int.lt_trans (srt_get hs hx' (List.getElem?_eq_getElem hmid) (om97 hi' e)) hx
   ·simp only [Option.bind_some, hx, if_false]
    refine ih lo _ m' (om98 hk hlt) (om99 hlt) (om100 hmid) h1 (fun i x hi' hx' => ?_)
    by_cases e : i = (lo + hi) / 2
    ·subst e; rw [List.getElem?_eq_getElem hmid] at hx'; cases hx'; exact om101 hx
    ·have := srt_get hs (List.getElem?_eq_getElem hmid) hx' (om102 hi' e); exact om103 hx this
  ·have e : lo = hi := by exact om104 hlh hlt
   subst e
   refine ⟨lo, m, ?_, hhi, h1, h2⟩
   show (T _ σ).bind _ = _
   rw [hT]
   simp
theorem search_end {ks : List Int} {u : Int} {p : Nat} (h1 : ∀ i x, i < p → ks[i]? = some x → x < u) (h2 : ∀ i x, p ≤ i → ks[i]? = some x → u ≤ x) (hs : Srt ks) (hn : ks[p]? ≠ some u) : u ∉ ks := by
 intro hu
 obtain ⟨i, hi⟩ := List.mem_iff_getElem?.mp hu
 by_cases q : i < p
 ·exact absurd (h1 i u q hi) (om105)
 ·by_cases e : i = p
  ·subst e; exact hn hi
  ·have hp : p < ks.length := by have := (List.getElem?_eq_some_iff.mp hi).1; exact om106 q this
   have a := h2 p _ (Nat.le_refl _) (List.getElem?_eq_getElem hp)
   have b := srt_get hs (List.getElem?_eq_getElem hp) hi (om107 q e)
   exact om108 a b
theorem len_big {n : Nat} (h : n ≤ 10000) : n ≤ big := by unfold big; exact om109 h
theorem opFdiv_half {lo hi : Nat} {σ : Hp} (h : lo + hi ≤ 100000) : opFdiv (.int ((lo : Int) + (hi : Int))) (.int 2) σ = some (.int (((lo + hi) / 2 : Nat) : Int), σ) := by
 unfold opFdiv
 show (if _ then _ else _) = _
 rw [if_pos ⟨by decide, ⟨om110, om111 h⟩, by decide⟩, half]
inductive place_of_ok_O (σ : Hp) (L : Nat) (ls : Ls) (u : Int) : Prop
 | mk (r : Int) (_ : f_place_of [.ref L, .int u] σ = some (.int r, σ)) (_ : ((∃ i : Nat, r = i ∧ (keys ls)[i]? = some u) ∨ (r = -1 ∧ u ∉ keys ls))) : place_of_ok_O σ L ls u
theorem place_of_ok {σ : Hp} {L : Nat} {ls : Ls} {u : Int} (hL : σ[L]? = some (.list (refs ls))) (hl : ∀ p ∈ ls, LtAt σ p.1 p.2) (hs : Srt (keys ls)) (hn : ls.length ≤ 900) : place_of_ok_O σ L ls u := by
 have hlen : (refs ls).length = ls.length := by simp [refs]
 have hklen : (keys ls).length = ls.length := by simp [keys]
 have hb : ls.length ≤ big := len_big (om112 hn)
 have hat : ∀ (i : Nat) x, (keys ls)[i]? = some x → ∃ a oc fl ins ms, (refs ls)[i]? = some (.ref a) ∧ σ[a]? = some (.inst 289 [.int x, .bytes oc, fl, .int ins, ms]) ∧ i ≤ 10000 := by
  intro i x h
  have hlt := (List.getElem?_eq_some_iff.mp h).1
  rw [hklen] at hlt
  have := keys_get (List.getElem?_eq_getElem hlt)
  rw [h] at this; cases this
  obtain ⟨oc, ins, e⟩ := hl _ (List.getElem_mem hlt)
  exact ⟨_, oc, _, ins, _, by simp [refs, List.getElem?_eq_getElem hlt], e, om113 hn hlt⟩
 obtain ⟨p, m', e, hp, h1, h2⟩ := search (T := tst (bin2 opLt (var 2) (var 3))) (F := sCons (sAsg (bin2 opFdiv (bin2 opAdd (var 2) (var 3)) (cInt 2)) (stA 4)) (sIf (tst (bin2 opLt (un1 (getA 289 0) (bin2 opItem (var 0) (var 4))) (var 1))) (sAsg (bin2 opAdd (var 4) (cInt 1)) (stA 2)) (sAsg (var 4) (stA 3))))
  (X := .ref L) (u := u) (σ := σ) (ks := keys ls) (by intro lo hi m; simp only [opItem, MSX]) (by
   intro lo hi m x hlt hhi hx
   obtain ⟨a, oc, fl, ins, ms, ha, hla, hi'⟩ := hat _ x hx
   refine ⟨.int (((lo + hi) / 2 : Nat) : Int), ?_⟩
   have fd := opFdiv_half (σ := σ) (show lo + hi ≤ 100000 by exact om114 hi')
   by_cases q : x < u
   ·rw [if_pos q]; simp only [MSX, fd, opItem_l hL (idx_nat ha hi'), hla, opLt_t q]
   ·rw [if_neg q]; simp only [MSX, fd, opItem_l hL (idx_nat ha hi'), hla, opLt_f q]) hs 1000 0 ls.length .undef (om115 hn) (om116) (om117 hklen) (by intro i x h; exact om118 h) (by intro i x h e; have := (List.getElem?_eq_some_iff.mp e).1; exact om119 hklen h this)
 have e' : w_place_of [.ref L, .int u, .int 0, .int (ls.length : Int), .undef] σ = some (.next, [.ref L, .int u, .int p, .int p, m'], σ) := e
 by_cases q : (keys ls)[p]? = some u
 ·obtain ⟨a, oc, fl, ins, ms, ha, hla, hi'⟩ := hat _ u q
  have hpl : (p : Int) < (ls.length : Int) := by have := (List.getElem?_eq_some_iff.mp q).1; exact om120 hklen this
  refine ⟨p, ?_, .inl ⟨p, rfl, q⟩⟩
  simp only [f_place_of, f_place_of_body, MSX, hL, hlen, hb, e', opLt_t hpl, opItem_l hL (idx_nat ha hi'), hla, opEq_of (eqB_int u u), (rfl : u = u)]
 ·refine ⟨-1, ?_, .inr ⟨rfl, search_end h1 h2 hs q⟩⟩
  by_cases hpl : (p : Int) < (ls.length : Int)
  ·have hlt : p < (keys ls).length := by exact om121 hklen hpl
   obtain ⟨a, oc, fl, ins, ms, ha, hla, hi'⟩ := hat p _ (List.getElem?_eq_getElem hlt)
   have hne : ¬ ((keys ls)[p] = u) := fun c => q (by rw [List.getElem?_eq_getElem hlt, c])
   simp only [f_place_of, f_place_of_body, MSX, hL, hlen, hb, e', opLt_t hpl, opItem_l hL (idx_nat ha hi'), hla, opEq_of (eqB_int _ u), hne]
  ·simp only [f_place_of, f_place_of_body, MSX, hL, hlen, hb, e', opLt_f hpl]
noncomputable def fnd (ls : Ls) (u : Int) : Option (Nat × Lt) := ls.find? fun p => p.2.u == u
theorem fnd_some {ls : Ls} {u : Int} {p : Nat × Lt} (h : fnd ls u = some p) : p ∈ ls ∧ p.2.u = u :=
 ⟨List.mem_of_find?_eq_some h, by have := List.find?_some h; simpa using this⟩
theorem fnd_none {ls : Ls} {u : Int} (h : fnd ls u = none) : ∀ p ∈ ls, p.2.u ≠ u := by
 intro p hp
 have := List.find?_eq_none.mp h p hp
 simpa using this
theorem fnd_of {ls : Ls} {u : Int} {p : Nat × Lt} (hs : Srt (keys ls)) (hp : p ∈ ls) (e : p.2.u = u) : fnd ls u = some p := by
 cases q : fnd ls u with
 | none => exact absurd e (fnd_none q p hp)
 | some r => obtain ⟨h1, h2⟩ := fnd_some q; rw [keys_uniq hs h1 hp (h2.trans e.symm)]
theorem fnd_none_of {ls : Ls} {u : Int} (h : u ∉ keys ls) : fnd ls u = none := by
 cases q : fnd ls u with
 | none => rfl
 | some r => obtain ⟨h1, h2⟩ := fnd_some q; exact absurd (List.mem_map.mpr ⟨r, h1, h2⟩) h
noncomputable def refO (o : Option (Nat × Lt)) : V := match o with | some p => .ref p.1 | none => .none
structure BxOk (B : Bx) : Prop where
 srt : Srt (keys B.ls)
 lo : ∀ p ∈ B.ls, 1 ≤ p.2.u ∧ p.2.u < B.nu ∧ p.2.ms ≤ B.top ∧ okS p.2.fl
 n : B.ls.length ≤ 900
theorem letter_ok {σ : Hp} {B : Bx} (h : BxAt σ B) (k : BxOk B) (u : Int) : f_Box_letter [.ref B.b, .int u] σ = some (refO (fnd B.ls u), σ) := by
 obtain ⟨nm, vd, fr, hb⟩ := h.box
 obtain ⟨r, e, q⟩ := place_of_ok (u := u) h.L h.lt k.srt k.n
 rcases q with ⟨i, rfl, q⟩ | ⟨rfl, q⟩
 ·have hlt : i < B.ls.length := by have := (List.getElem?_eq_some_iff.mp q).1; simpa [keys] using this
  have hn := k.n
  have e1 := keys_get (List.getElem?_eq_getElem hlt)
  rw [q] at e1
  have e2 : (refs B.ls)[i]? = some (.ref B.ls[i].1) := by simp [refs, List.getElem?_eq_getElem hlt]
  have e3 : fnd B.ls u = some B.ls[i] := fnd_of k.srt (List.getElem_mem hlt) (by simpa using e1.symm)
  have hi : (0 : Int) ≤ (i : Int) := by exact om122
  simp only [f_Box_letter, f_Box_letter_body, opItem, MSX, hb, e, hi, h.L, idx_nat e2 (show i ≤ 10000 by exact om123 hlt hn), e3, refO]
 ·simp only [f_Box_letter, f_Box_letter_body, opItem, MSX, hb, e, fnd_none_of q, refO]
theorem isNot_refO {o : Option (Nat × Lt)} {σ : Hp} : opIsNot (refO o) .none σ = some (.bool o.isSome, σ) := by cases o <;> rfl
theorem place_among_ok {σ : Hp} {U : Nat} {ks : List Int} {u : Int} (hU : σ[U]? = some (.list (vI ks))) (hs : Srt ks) (hn : ks.length ≤ 900) :
  ∃ r, f_place_among [.ref U, .int u] σ = some (.int r, σ) ∧ ((∃ i : Nat, r = i ∧ ks[i]? = some u) ∨ (r = -1 ∧ u ∉ ks)) := by
 have hlen : (vI ks).length = ks.length := by simp [vI]
 have hb : ks.length ≤ big := len_big (om112 hn)
 have hat : ∀ (i : Nat) x, ks[i]? = some x → (vI ks)[i]? = some (.int x) ∧ i ≤ 10000 := by
  intro i x h
  have hlt := (List.getElem?_eq_some_iff.mp h).1
  exact ⟨by simp [vI, h], om113 hn hlt⟩
 obtain ⟨p, m', e, hp, h1, h2⟩ := search (T := tst (bin2 opLt (var 2) (var 3))) (F := sCons (sAsg (bin2 opFdiv (bin2 opAdd (var 2) (var 3)) (cInt 2)) (stA 4)) (sIf (tst (bin2 opLt (bin2 opItem (var 0) (var 4)) (var 1))) (sAsg (bin2 opAdd (var 4) (cInt 1)) (stA 2)) (sAsg (var 4) (stA 3))))
  (X := .ref U) (u := u) (σ := σ) (ks := ks) (by intro lo hi m; simp only [opItem, MSX]) (by
   intro lo hi m x hlt hhi hx
   obtain ⟨ha, hi'⟩ := hat _ x hx
   refine ⟨.int (((lo + hi) / 2 : Nat) : Int), ?_⟩
   have fd := opFdiv_half (σ := σ) (show lo + hi ≤ 100000 by exact om114 hi')
   by_cases q : x < u
   ·rw [if_pos q]; simp only [MSX, fd, opItem_l hU (idx_nat ha hi'), opLt_t q]
   ·rw [if_neg q]; simp only [MSX, fd, opItem_l hU (idx_nat ha hi'), opLt_f q]) hs 1000 0 ks.length .undef (om115 hn) (om116) (om1) (by intro i x h; exact om118 h) (by intro i x h e; have := (List.getElem?_eq_some_iff.mp e).1; exact om124 h this)
 have e' : w_place_among [.ref U, .int u, .int 0, .int (ks.length : Int), .undef] σ = some (.next, [.ref U, .int u, .int p, .int p, m'], σ) := e
 by_cases q : ks[p]? = some u
 ·obtain ⟨ha, hi'⟩ := hat _ u q
  have hpl : (p : Int) < (ks.length : Int) := by have := (List.getElem?_eq_some_iff.mp q).1; exact om94 this
  refine ⟨p, ?_, .inl ⟨p, rfl, q⟩⟩
  simp only [f_place_among, f_place_among_body, MSX, hU, hlen, hb, e', opLt_t hpl, opItem_l hU (idx_nat ha hi'), opEq_of (eqB_int u u), (rfl : u = u)]
 ·refine ⟨-1, ?_, .inr ⟨rfl, search_end h1 h2 hs q⟩⟩
  by_cases hpl : (p : Int) < (ks.length : Int)
  ·have hlt : p < ks.length := by exact om53 hpl
   obtain ⟨ha, hi'⟩ := hat p _ (List.getElem?_eq_getElem hlt)
   have hne : ¬ (ks[p] = u) := fun c => q (by rw [List.getElem?_eq_getElem hlt, c])
   simp only [f_place_among, f_place_among_body, MSX, hU, hlen, hb, e', opLt_t hpl, opItem_l hU (idx_nat ha hi'), opEq_of (eqB_int _ u), hne]
  ·simp only [f_place_among, f_place_among_body, MSX, hU, hlen, hb, e', opLt_f hpl]
theorem letters_src {σ : Hp} {B : Bx} (h : BxAt σ B) {f : Fn} {ρ : Loc} (hf : f ρ σ = some (.ref B.L, σ)) : mkV f ρ σ = some (.list B.L, σ) := by
 simp only [opItem, MSX, hf, h.L]
theorem mem_refs {ls : Ls} {x : V} (h : x ∈ refs ls) : ∃ p ∈ ls, x = .ref p.1 := by
 obtain ⟨p, hp, rfl⟩ := List.mem_map.mp h; exact ⟨p, hp, rfl⟩
theorem comp_letters {σ : Hp} {B : Bx} (h : BxAt σ B) (k : BxOk B) {f : Fn} {caps : List (Nat × Str)} {t : Loc → Hp → Option (Bool × Hp)} {e : Fn} {ρ : Loc} {cv : List V} (p : Lt → Bool) (q : Nat × Lt → V)
  (hf : f ρ σ = some (.ref B.L, σ)) (hc : (caps.map fun c => ρ[c.1]?.getD .undef) = cv)
  (ht : ∀ x ∈ B.ls, LtAt σ x.1 x.2 → t (.ref x.1 :: cv) σ = some (p x.2, σ)) (he : ∀ x ∈ B.ls, LtAt σ x.1 x.2 → p x.2 = true → e (.ref x.1 :: cv) σ = some (q x, σ)) :
  cComp (mkV f) 1 caps (stA 0) t e 1000 ρ σ = some (.ref σ.length, σ ++ [.list ((B.ls.filter fun x => p x.2).map q)]) := by
 have key : ∃ zs σ', compGo (.list B.L) (stA 0) t e 1000 0 (.undef :: cv) σ = some (zs, σ') ∧ (σ' = σ ∧ [] ++ zs = ((B.ls.take (refs B.ls).length).filter fun x => p x.2).map q) := by
  have hn := k.n
  refine comp_run (xs := refs B.ls) (own := fun r => ∃ y, r = y :: cv) (fun i ys σ' => σ' = σ ∧ ys = ((B.ls.take i).filter fun x => p x.2).map q) ?_ ?_ (refs B.ls).length 0 1000 _ [] σ ⟨_, rfl⟩ (Nat.zero_add _) (by simp [refs]; exact om125 hn) ⟨rfl, by rfl⟩
  ·rintro i ys σ' hi ⟨rfl, _⟩; exact nxt_list h.L i
  ·rintro i x r ys σ' ⟨y, rfl⟩ hx ⟨rfl, rfl⟩
   obtain ⟨z, hz, rfl⟩ : ∃ z, B.ls[i]? = some z ∧ x = .ref z.1 := by
    simp only [refs, List.getElem?_map, Option.map_eq_some_iff] at hx
    obtain ⟨z, h1, h2⟩ := hx; exact ⟨z, h1, h2.symm⟩
   have hmem : z ∈ B.ls := List.mem_of_getElem? hz
   have htk : B.ls.take (i + 1) = B.ls.take i ++ [z] := by rw [List.take_succ, hz]; rfl
   refine ⟨.ref z.1 :: cv, σ', p z.2, σ', rfl, ⟨_, rfl⟩, ht z hmem (h.lt z hmem), ?_⟩
   cases hp : p z.2 with
   | false => exact .inl ⟨rfl, rfl, by rw [htk]; simp [hp]⟩
   | true => exact .inr ⟨rfl, q z, σ', he z hmem (h.lt z hmem) hp, rfl, by rw [htk]; simp [hp]⟩
 obtain ⟨zs, σ', e1, rfl, e2⟩ := key
 have e3 : B.ls.take (refs B.ls).length = B.ls := by simp [refs]
 rw [e3] at e2
 show (mkV f ρ _).bind _ = _
 rw [letters_src h hf]
 simp only [Option.bind_some, compLoc, List.replicate_succ, List.replicate_zero, List.cons_append, List.nil_append, hc, e1]
 rw [← e2]; rfl
theorem filter_true {α : Type} (xs : List α) : xs.filter (fun _ => true) = xs := by simp
theorem uids_ok {σ : Hp} {B : Bx} (h : BxAt σ B) (k : BxOk B) : f_Box_uids [.ref B.b] σ = some (.ref σ.length, σ ++ [.list (vI (keys B.ls))]) := by
 obtain ⟨nm, vd, fr, hb⟩ := h.box
 have e : c_Box_uids [.ref B.b] σ = some (.ref σ.length, σ ++ [.list (vI (keys B.ls))]) := by
  have := comp_letters h k (f := un1 (getA 327 5) (var 0)) (caps := []) (t := tYes) (e := un1 (getA 289 0) (var 0)) (ρ := [.ref B.b]) (cv := []) (fun _ => true) (fun x => .int x.2.u)
   (by simp only [opItem, MSX, hb]) rfl (fun _ _ _ => rfl) (by rintro x _ ⟨oc, ins, hx⟩ _; simp only [opItem, MSX, hx])
  rw [filter_true] at this
  rw [show vI (keys B.ls) = B.ls.map (fun x => V.int x.2.u) by simp [vI, keys]]
  exact this
 simp only [f_Box_uids, f_Box_uids_body, opItem, MSX, e]
noncomputable def us (rs : List Lt) : List Int := rs.map (·.u)
noncomputable def flD (rs : List Lt) : List (Int × V) := rs.map fun r => (r.u, fv r.fl)
noncomputable def msD (rs : List Lt) : List (Int × V) := rs.map fun r => (r.u, V.int r.ms)
structure Vw where
 v : Nat
 U : Nat
 F : Nat
 M : Nat
 um : Bool
 uv : Bool
 rs : List Lt
structure VwAt (σ : Hp) (b : Nat) (Y : Vw) : Prop where
 vw : σ[Y.v]? = some (.inst 105 [.ref b, .bool false, .bool Y.um, .bool Y.uv, .ref Y.U, .ref Y.F, .ref Y.M])
 U : σ[Y.U]? = some (.list (vI (us Y.rs)))
 F : σ[Y.F]? = some (.idict (flD Y.rs))
 M : σ[Y.M]? = some (.idict (msD Y.rs))
 ne : Y.F ≠ Y.M
structure VwOk (Y : Vw) : Prop where
 srt : Srt (us Y.rs)
 ok : ∀ r ∈ Y.rs, okS r.fl
 n : Y.rs.length ≤ 900
theorem LtAt.ext {W : List Nat} {σ σ' : Hp} {a : Nat} {l : Lt} (h : LtAt σ a l) (x : Ext W σ σ') (hw : a ∉ W) : LtAt σ' a l := by
 obtain ⟨oc, ins, e⟩ := h; exact ⟨oc, ins, x.get _ _ e hw⟩
theorem BxAt.ext {W : List Nat} {σ σ' : Hp} {B : Bx} (h : BxAt σ B) (x : Ext W σ σ') (h1 : B.b ∉ W) (h2 : B.L ∉ W) (h3 : B.G ∉ W) (h4 : ∀ p ∈ B.ls, p.1 ∉ W) : BxAt σ' B := by
 obtain ⟨⟨nm, vd, fr, hb⟩, hL, ⟨gs, hG, hg⟩, hl⟩ := h
 exact ⟨⟨nm, vd, fr, x.get _ _ hb h1⟩, x.get _ _ hL h2, ⟨gs, x.get _ _ hG h3, hg⟩, fun p hp => (hl p hp).ext x (h4 p hp)⟩
theorem BxAt.ext0 {σ σ' : Hp} {B : Bx} (h : BxAt σ B) (x : Ext [] σ σ') : BxAt σ' B := h.ext x (List.not_mem_nil) (List.not_mem_nil) (List.not_mem_nil) (fun _ _ => List.not_mem_nil)
theorem VwAt.ext {W : List Nat} {σ σ' : Hp} {b : Nat} {Y : Vw} (h : VwAt σ b Y) (x : Ext W σ σ') (h1 : Y.v ∉ W) (h2 : Y.U ∉ W) (h3 : Y.F ∉ W) (h4 : Y.M ∉ W) : VwAt σ' b Y :=
 ⟨x.get _ _ h.vw h1, x.get _ _ h.U h2, x.get _ _ h.F h3, x.get _ _ h.M h4, h.ne⟩
theorem VwAt.ext0 {σ σ' : Hp} {b : Nat} {Y : Vw} (h : VwAt σ b Y) (x : Ext [] σ σ') : VwAt σ' b Y := h.ext x (List.not_mem_nil) (List.not_mem_nil) (List.not_mem_nil) (List.not_mem_nil)
noncomputable def getr (rs : List Lt) (u : Int) : Option Lt := rs.find? fun r => r.u == u
theorem look_map {g : Lt → V} {u : Int} : ∀ (rs : List Lt), (rs.map fun r => (r.u, g r)).lookup u = (getr rs u).map g
 | [] => rfl
 | r :: rs => by
  simp only [List.map_cons, List.lookup_cons, getr, List.find?_cons]
  by_cases e : r.u = u
  ·subst e; simp
  ·have e1 : (u == r.u) = false := by simpa using Ne.symm e
   have e2 : (r.u == u) = false := by simpa using e
   rw [e1, e2]
   exact look_map rs
theorem getr_mem {rs : List Lt} {u : Int} {r : Lt} (h : getr rs u = some r) : r ∈ rs ∧ r.u = u :=
 ⟨List.mem_of_find?_eq_some h, by have := List.find?_some h; simpa using this⟩
theorem getr_some {rs : List Lt} {u : Int} (h : u ∈ us rs) : ∃ r, getr rs u = some r := by
 cases q : getr rs u with
 | some r => exact ⟨r, rfl⟩
 | none =>
  obtain ⟨r, hr, e⟩ := List.mem_map.mp h
  have := List.find?_eq_none.mp q r hr
  simp [e] at this
theorem getr_isSome {rs : List Lt} {u : Int} : (getr rs u).isSome = decide (u ∈ us rs) := by
 rw [Bool.eq_iff_iff, decide_eq_true_eq]
 constructor
 ·intro h
  obtain ⟨r, hr⟩ := Option.isSome_iff_exists.mp h
  obtain ⟨h1, h2⟩ := getr_mem hr
  exact List.mem_map.mpr ⟨r, h1, h2⟩
 ·intro h; obtain ⟨r, hr⟩ := getr_some h; rw [hr]; rfl
theorem us_uniq {rs : List Lt} (h : Srt (us rs)) {p q : Lt} (hp : p ∈ rs) (hq : q ∈ rs) (e : p.u = q.u) : p = q := by
 obtain ⟨i, hi⟩ := List.mem_iff_getElem?.mp hp
 obtain ⟨j, hj⟩ := List.mem_iff_getElem?.mp hq
 have gi : (us rs)[i]? = some p.u := by simp [us, hi]
 have gj : (us rs)[j]? = some q.u := by simp [us, hj]
 rcases Nat.lt_trichotomy i j with l | l | l
 ·exact absurd (srt_get h gi gj l) (om89 e)
 ·subst l; rw [hi] at hj; cases hj; rfl
 ·exact absurd (srt_get h gj gi l) (om90 e)
theorem getr_of {rs : List Lt} (h : Srt (us rs)) {r : Lt} (hr : r ∈ rs) : getr rs r.u = some r := by
 obtain ⟨q, hq⟩ := getr_some (List.mem_map.mpr ⟨r, hr, rfl⟩ : r.u ∈ us rs)
 obtain ⟨h1, h2⟩ := getr_mem hq
 rw [hq, us_uniq h h1 hr h2]
theorem item_dict {σ : Hp} {n : Nat} {es : List (Int × V)} {i : Int} {v : V} (h : σ[n]? = some (.idict es)) (e : es.lookup i = some v) : opItem (.ref n) (.int i) σ = some (v, σ) := by
 unfold opItem; simp only [onTR_a, onTR_b, onIS_a, onIS_b, onInt_c, onLD_a, onLD_b, onSd_c, h, e, Option.map_some]
noncomputable def stale (um : Bool) (r l : Lt) : Bool := decide (r.fl ≠ l.fl) || (um && decide (r.ms ≠ l.ms))
theorem is_stale_ok {σ : Hp} {b a : Nat} {Y : Vw} {l r : Lt} (h : VwAt σ b Y) (hl : LtAt σ a l) (hr : getr Y.rs l.u = some r) (o1 : okS r.fl) (o2 : okS l.fl) : f_is_stale [.ref Y.v, .ref a] σ = some (.bool (stale Y.um r l), σ) := by
 obtain ⟨oc, ins, e⟩ := hl
 have i1 : opItem (.ref Y.F) (.int l.u) σ = some (fv r.fl, σ) := item_dict h.F (by unfold flD; rw [look_map, hr]; rfl)
 have i2 : opItem (.ref Y.M) (.int l.u) σ = some (.int r.ms, σ) := item_dict h.M (by unfold msD; rw [look_map, hr]; rfl)
 have j1 := opNe_of (σ := σ) (eqB_fv (σ := σ) o1 o2)
 have j2 := opNe_of (σ := σ) (eqB_int (σ := σ) r.ms l.ms)
 by_cases q : r.fl = l.fl
 ·rw [decide_eq_true q] at j1
  cases hm : Y.um with
  | false =>
   have st : stale false r l = false := by simp [stale, q]
   simp only [f_is_stale, f_is_stale_body, MSX, h.vw, e, hm, i1, i2, j1, st]
  | true =>
   have st : stale true r l = !decide (r.ms = l.ms) := by simp [stale, q]
   simp only [f_is_stale, f_is_stale_body, MSX, h.vw, e, hm, i1, i2, j1, j2, st]
 ·rw [decide_eq_false q] at j1
  have st : stale Y.um r l = true := by simp [stale, q]
  simp only [f_is_stale, f_is_stale_body, MSX, h.vw, e, i1, i2, j1, st]
noncomputable def put (rs : List Lt) (l : Lt) : List Lt := rs.map fun r => if r.u = l.u then l else r
theorem us_put (rs : List Lt) (l : Lt) : us (put rs l) = us rs := by
 simp only [us, put, List.map_map]
 apply List.map_congr_left
 intro r _
 simp only [Function.comp]
 split <;> simp_all
theorem dput_put {rs : List Lt} {l : Lt} (g : Lt → V) (h : l.u ∈ us rs) : dput (rs.map fun r => (r.u, g r)) l.u (g l) = (put rs l).map fun r => (r.u, g r) := by
 unfold dput
 have e : (rs.map fun r => (r.u, g r)).any (fun e => decide (e.1 = l.u)) = true := by
  obtain ⟨r, hr, e⟩ := List.mem_map.mp h
  rw [List.any_map, List.any_eq_true]
  exact ⟨r, hr, by simpa using e⟩
 rw [if_pos e]
 simp only [put, List.map_map]
 apply List.map_congr_left
 intro r _
 simp only [Function.comp]
 split <;> simp_all
theorem dput_new {es : List (Int × V)} {k : Int} {v : V} (h : k ∉ es.map (·.1)) : dput es k v = es ++ [(k, v)] := by
 unfold dput
 rw [if_neg]
 intro e
 obtain ⟨x, hx, e⟩ := List.any_eq_true.mp e
 exact h (List.mem_map.mpr ⟨x, hx, by simpa using e⟩)
theorem note_raw {σ : Hp} {v l F M : Nat} {bx ro um uv U oc fl ins ms : V} {k : Int} {es es' : List (Int × V)}
  (hv : σ[v]? = some (.inst 105 [bx, ro, um, uv, U, .ref F, .ref M])) (hl : σ[l]? = some (.inst 289 [.int k, oc, fl, ins, ms])) (hF : σ[F]? = some (.idict es)) (hM : σ[M]? = some (.idict es'))
  (hFM : F ≠ M) (he : es.length ≤ big) (he' : es'.length ≤ big) :
  f_note [.ref v, .ref l] σ = some (.none, (σ.set F (.idict (dput es k fl))).set M (.idict (dput es' k ms))) := by
 have h1 : F ≠ v := fun q => by subst q; rw [hF] at hv; cases hv
 have h2 : F ≠ l := fun q => by subst q; rw [hF] at hl; cases hl
 simp only [f_note, f_note_body, opSet, MSX, hv, hl, hF, hM, he, he', List.getElem?_set_ne h1, List.getElem?_set_ne h2, List.getElem?_set_ne hFM]
inductive note_ok_O (σ : Hp) (b : Nat) (a : Nat) (Y : Vw) (l : Lt) : Prop
 | mk (σ' : Hp) (_ : f_note [.ref Y.v, .ref a] σ = some (.none, σ')) (_ : Ext [Y.F, Y.M] σ σ') (_ : σ'.length = σ.length) (_ : VwAt σ' b { Y with rs := put Y.rs l }) : note_ok_O σ b a Y l
theorem note_ok {σ : Hp} {b a : Nat} {Y : Vw} {l : Lt} (h : VwAt σ b Y) (k : VwOk Y) (hl : LtAt σ a l) (hu : l.u ∈ us Y.rs) : note_ok_O σ b a Y l := by
 obtain ⟨oc, ins, e⟩ := hl
 have hn := k.n
 have e1 := note_raw h.vw e h.F h.M h.ne (by simp [flD, big]; exact om126 hn) (by simp [msD, big]; exact om126 hn)
 refine ⟨_, e1, ?_, by simp, ?_⟩
 ·exact ((Ext.set _ _ _).mono (sub0)).trans ((Ext.set _ _ _).mono (sub1))
 ·have x : Ext [Y.F, Y.M] σ ((σ.set Y.F (.idict (dput (flD Y.rs) l.u (fv l.fl)))).set Y.M (.idict (dput (msD Y.rs) l.u (.int l.ms)))) :=
   ((Ext.set _ _ _).mono (sub0)).trans ((Ext.set _ _ _).mono (sub1))
  have n1 : Y.v ∉ [Y.F, Y.M] := by
   intro q; simp at q
   rcases q with q | q
   ·have := h.vw; rw [q, h.F] at this; cases this
   ·have := h.vw; rw [q, h.M] at this; cases this
  have n2 : Y.U ∉ [Y.F, Y.M] := by
   intro q; simp at q
   rcases q with q | q
   ·have := h.U; rw [q, h.F] at this; cases this
   ·have := h.U; rw [q, h.M] at this; cases this
  refine ⟨x.get _ _ h.vw n1, ?_, ?_, ?_, h.ne⟩
  ·show _ = some (O.list (vI (us (put Y.rs l)))); rw [us_put]; exact x.get _ _ h.U n2
  ·show _ = some (O.idict (flD (put Y.rs l)))
   rw [List.getElem?_set_ne (Ne.symm h.ne), set_get h.F]
   unfold flD
   rw [dput_put (fun r => fv r.fl) hu]
  ·show _ = some (O.idict (msD (put Y.rs l)))
   rw [set_get (by rw [List.getElem?_set_ne h.ne]; exact h.M)]
   unfold msD
   rw [dput_put (fun r => V.int r.ms) hu]
structure Kn (rs : List Lt) (B : Bx) : Prop where
 old : ∀ p ∈ B.ls, p.2.u ∈ us rs ∨ ∀ r ∈ rs, r.u < p.2.u
 ms : ∀ r ∈ rs, r.ms ≤ B.top
 same : ∀ p ∈ B.ls, ∀ r ∈ rs, r.u = p.2.u → r.ms = p.2.ms → r.fl = p.2.fl
 hi : ∀ r ∈ rs, 1 ≤ r.u ∧ r.u < B.nu
theorem VwAt.box {σ : Hp} {B : Bx} {Y : Vw} (h : VwAt σ B.b Y) (hB : BxAt σ B) {f : Fn} {ρ : Loc} (hf : f ρ σ = some (.ref Y.v, σ)) : un1 (getA 327 5) (un1 (getA 105 0) f) ρ σ = some (.ref B.L, σ) := by
 obtain ⟨nm, vd, fr, hb⟩ := hB.box
 simp only [MSX, hf, h.vw, hb]
noncomputable def newL (rs : List Lt) (ls : Ls) : Ls := ls.filter fun p => decide (p.2.u ∉ us rs)
noncomputable def lastU (rs : List Lt) : Int := match (us rs).getLast? with | some z => z | none => 0
theorem idx_last {ks : List Int} {z : Int} (h : ks.getLast? = some z) (hn : ks.length ≤ 900) : idx (vI ks) ((ks.length : Int) - 1) = some (.int z) := by
 rw [List.getLast?_eq_getElem?] at h
 have hl := (List.getElem?_eq_some_iff.mp h).1
 rw [show ((ks.length : Int) - 1) = ((ks.length - 1 : Nat) : Int) by exact om127 hl]
 exact idx_nat (by simp [vI, h]) (om128 hn)
theorem srt_last {ks : List Int} {z : Int} (hs : Srt ks) (h : ks.getLast? = some z) : ∀ x ∈ ks, x ≤ z := by
 intro x hx
 obtain ⟨i, hi⟩ := List.mem_iff_getElem?.mp hx
 rw [List.getLast?_eq_getElem?] at h
 have hl := (List.getElem?_eq_some_iff.mp h).1
 have hi' := (List.getElem?_eq_some_iff.mp hi).1
 by_cases e : i = ks.length - 1
 ·subst e; rw [hi] at h; cases h; exact om129
 ·have := srt_get hs hi h (om130 hi' e); exact om131 this
inductive new_letters_ok_O (σ : Hp) (B : Bx) (Y : Vw) : Prop
 | mk (n : Nat) (σ' : Hp) (_ : f_new_letters [.ref Y.v] σ = some (.ref n, σ')) (_ : Ext [] σ σ') (_ : σ.length ≤ n) (_ : σ'[n]? = some (O.list (refs (newL Y.rs B.ls)))) : new_letters_ok_O σ B Y
theorem new_letters_ok {σ : Hp} {B : Bx} {Y : Vw} (hB : BxAt σ B) (kB : BxOk B) (h : VwAt σ B.b Y) (k : VwOk Y) (kn : Kn Y.rs B) : new_letters_ok_O σ B Y := by
 have hn := k.n
 have x1 : Ext [] σ (σ ++ [O.list []]) := Ext.app _ _
 have hB1 := hB.ext0 x1
 have h1 := h.ext0 x1
 have len : (us Y.rs).length = Y.rs.length := by simp [us]
 have blk : ∀ s, BxAt s B → VwAt s B.b Y → c_new_letters [.ref Y.v, .int (lastU Y.rs)] s = some (.ref s.length, s ++ [O.list (refs (newL Y.rs B.ls))]) := by
  intro s hBs hs
  have := comp_letters hBs kB (f := un1 (getA 327 5) (un1 (getA 105 0) (var 0))) (caps := [(1, Str.ofString "last"), (0, Str.ofString "view")])
   (t := andT (tst (bin2 opGt (un1 (getA 289 0) (var 0)) (var 1))) (tst (bin2 opNotIn (un1 (getA 289 0) (var 0)) (un1 (getA 105 5) (var 2))))) (e := var 0) (ρ := [.ref Y.v, .int (lastU Y.rs)]) (cv := [.int (lastU Y.rs), .ref Y.v])
   (fun l => decide (lastU Y.rs < l.u) && !decide (l.u ∈ us Y.rs)) (fun x => .ref x.1) (hs.box hBs (by simp only [MSX])) rfl
   (by
    rintro x hx ⟨oc, ins, e⟩
    have i1 := opNotIn_of (inB_dict (i := x.2.u) hs.F)
    have i2 : (List.lookup x.2.u (flD Y.rs)).isSome = decide (x.2.u ∈ us Y.rs) := by unfold flD; rw [look_map, Option.isSome_map, getr_isSome]
    rw [i2] at i1
    by_cases q : lastU Y.rs < x.2.u
    ·simp only [MSX, e, hs.vw, i1, q, Bool.true_and]
    ·simp only [MSX, e, hs.vw, i1, q, Bool.false_and])
   (by rintro x hx _ _; simp only [MSX])
  have e9 : refs (newL Y.rs B.ls) = (B.ls.filter fun x => decide (lastU Y.rs < x.2.u) && !decide (x.2.u ∈ us Y.rs)).map (fun x => V.ref x.1) := by
   unfold refs newL
   congr 1
   apply List.filter_congr
   intro p hp
   by_cases q : p.2.u ∈ us Y.rs
   ·simp [q]
   ·have hlt : lastU Y.rs < p.2.u := by
     rcases kn.old p hp with c | c
     ·exact absurd c q
     ·unfold lastU
      cases g : (us Y.rs).getLast? with
      | none => have := (kB.lo p hp).1; simp only; exact om132 this
      | some z =>
       have hz : z ∈ us Y.rs := List.mem_of_getLast? g
       obtain ⟨r, hr, rfl⟩ := List.mem_map.mp hz
       exact c r hr
    simp [q, hlt]
  rw [e9]; exact this
 have hne := opNe_of (eqB_nil h1.U (new_get σ (O.list [])))
 refine ⟨(σ ++ [O.list []]).length, _, ?_, x1.trans (Ext.app _ _), by simp, new_get _ _⟩
 have hb := blk _ hB1 h1
 cases g : (us Y.rs).getLast? with
 | none =>
  have e0 : us Y.rs = [] := by simpa using g
  have el : lastU Y.rs = 0 := by unfold lastU; rw [g]
  rw [el] at hb
  have : (vI (us Y.rs)).isEmpty = true := by rw [e0]; rfl
  rw [this] at hne
  simp only [f_new_letters, f_new_letters_body, MSX, h.vw, hne, hb]
 | some z =>
  have e0 : us Y.rs ≠ [] := by intro c; rw [c] at g; cases g
  have el : lastU Y.rs = z := by unfold lastU; rw [g]
  rw [el] at hb
  have : (vI (us Y.rs)).isEmpty = false := by
   cases q : us Y.rs with
   | nil => exact absurd q e0
   | cons a b => rfl
  rw [this] at hne
  have lenI : (vI (us Y.rs)).length = (us Y.rs).length := by simp [vI]
  have it := idx_last g (by rw [len]; exact hn)
  have hbig : (us Y.rs).length ≤ big := by unfold big; exact om133 hn len
  have it2 : opItem (.ref Y.U) (.int (((us Y.rs).length : Int) - 1)) (σ ++ [O.list []]) = some (.int z, σ ++ [O.list []]) := by
   unfold opItem; simp only [onTR_a, onTR_b, onIS_a, onIS_b, onInt_c, onLD_a, onLD_b, onSd_c, h1.U, it, Option.map_some]
  simp only [f_new_letters, f_new_letters_body, MSX, h.vw, h1.vw, hne, h1.U, lenI, hbig, it2, hb]
theorem foldl_dput : ∀ (ps es : List (Int × V)), ((es ++ ps).map (·.1)).Nodup → ps.foldl (fun es p => dput es p.1 p.2) es = es ++ ps
 | [], es, _ => by simp
 | p :: ps, es, h => by
  rw [List.foldl_cons, dput_new, foldl_dput ps]
  ·simp
  ·simpa using h
  ·intro c
   rw [List.map_append, List.nodup_append] at h
   exact h.2.2 p.1 c p.1 (List.mem_cons_self) rfl
theorem bDict_ok {σ : Hp} {n : Nat} {ps : List (Int × V)} (h : σ[n]? = some (.list (ps.map fun p => .tup [.int p.1, p.2]))) (hn : ps.length ≤ big) (hk : (ps.map (·.1)).Nodup) :
  bDict [.ref n] σ = some (.ref σ.length, σ ++ [O.idict ps]) := by
 have e : (ps.map fun p => V.tup [.int p.1, p.2]).mapM pairI = some (ps.map id) := mapM_map fun p _ => rfl
 unfold bDict
 simp only [MSX, h, hn, e, List.map_id]
 rw [foldl_dput ps [] (by simpa using hk)]
 rfl
theorem srt_nodup {ks : List Int} (h : Srt ks) : ks.Nodup := by
 unfold Srt at h
 exact h.imp fun c => by exact om134 c
noncomputable def goneU (rs : List Lt) (ls : Ls) : List Int := (us rs).filter fun u => decide (u ∉ keys ls)
noncomputable def inK (ks : List Int) : V → Bool := fun x => match x with | .int u => decide (u ∉ ks) | _ => false
theorem filter_vI (us ks : List Int) : ((vI us).filter (inK ks)).map id = vI (us.filter fun u => decide (u ∉ ks)) := by
 simp only [vI, List.map_id, List.filter_map]
 rfl
inductive gone_uids_ok_O (σ : Hp) (B : Bx) (Y : Vw) : Prop
 | mk (n : Nat) (σ' : Hp) (_ : f_gone_uids [.ref Y.v] σ = some (.ref n, σ')) (_ : Ext [] σ σ') (_ : σ.length ≤ n) (_ : σ'[n]? = some (.list (vI (goneU Y.rs B.ls)))) : gone_uids_ok_O σ B Y
theorem gone_uids_ok {σ : Hp} {B : Bx} {Y : Vw} (hB : BxAt σ B) (kB : BxOk B) (h : VwAt σ B.b Y) (k : VwOk Y) : gone_uids_ok_O σ B Y := by
 have e1 : c_gone_uids [.ref Y.v, .undef] σ = some (.ref σ.length, σ ++ [O.list (B.ls.map fun p => .tup [.int p.2.u, .bool true])]) := by
  have := comp_letters hB kB (f := un1 (getA 327 5) (un1 (getA 105 0) (var 0))) (caps := []) (t := tYes) (e := mkTup (consL (un1 (getA 289 0) (var 0)) (consL (cBool true) nilL))) (ρ := [.ref Y.v, .undef]) (cv := []) (fun _ => true) (fun p => .tup [.int p.2.u, .bool true])
   (h.box hB (by simp only [MSX])) rfl (fun _ _ _ => rfl) (by rintro x _ ⟨oc, ins, hx⟩ _; simp only [MSX, hx])
  rw [filter_true] at this
  exact this
 have x1 : Ext [] σ (σ ++ [O.list (B.ls.map fun p => .tup [.int p.2.u, .bool true])]) := Ext.app _ _
 have kn : B.ls.length ≤ 900 := kB.n
 have e2 : bDict [.ref σ.length] (σ ++ [O.list (B.ls.map fun p => .tup [.int p.2.u, .bool true])]) = _ := bDict_ok (ps := B.ls.map fun p => (p.2.u, .bool true)) (by rw [new_get, List.map_map]; rfl) (by simp [big]; exact om126 kn) (by
  have := srt_nodup kB.srt
  simpa [keys, Function.comp_def] using this)
 have x2 := x1.trans (Ext.app (σ ++ [O.list (B.ls.map fun p => .tup [.int p.2.u, .bool true])]) [O.idict (B.ls.map fun p => (p.2.u, .bool true))])
 have h2 := h.ext0 x2
 have hd : ((σ ++ [O.list (B.ls.map fun p => .tup [.int p.2.u, .bool true])]) ++ [O.idict (B.ls.map fun p => (p.2.u, .bool true))])[(σ ++ [O.list (B.ls.map fun p => V.tup [.int p.2.u, .bool true])]).length]? = some (.idict (B.ls.map fun p => (p.2.u, V.bool true))) := new_get _ _
 have lk : ∀ u : Int, ((B.ls.map fun p => (p.2.u, V.bool true)).lookup u).isSome = decide (u ∈ keys B.ls) := by
  intro u
  have a := look_map (g := fun _ => V.bool true) (u := u) (B.ls.map (·.2))
  rw [List.map_map] at a
  have b := getr_isSome (rs := B.ls.map (·.2)) (u := u)
  have e : us (B.ls.map (·.2)) = keys B.ls := by simp [us, keys]
  rw [e] at b
  have a' : List.lookup u (B.ls.map fun p => (p.2.u, V.bool true)) = (getr (B.ls.map (·.2)) u).map fun _ => V.bool true := a
  rw [a', Option.isSome_map, b]
 generalize hσ2 : ((σ ++ [O.list (B.ls.map fun p => .tup [.int p.2.u, .bool true])]) ++ [O.idict (B.ls.map fun p => (p.2.u, .bool true))]) = σ2 at *
 generalize hd2 : (σ ++ [O.list (B.ls.map fun p => V.tup [.int p.2.u, .bool true])]).length = d at *
 have hn := k.n
 have e3 : c_gone_uids2 [.ref Y.v, .ref d] σ2 = some (.ref σ2.length, σ2 ++ [O.list (((vI (us Y.rs)).filter (inK (keys B.ls))).map id)]) := by
  refine comp1_pure (src := .list Y.U) (xs := vI (us Y.rs)) (cv := [.ref d]) (inK (keys B.ls)) id (by simp only [MSX, h2.vw, h2.U]) rfl (fun i _ => nxt_list h2.U i) (by simp [vI, us]; exact om125 hn) ?_ ?_
  ·intro x hx
   obtain ⟨u, _, rfl⟩ := List.mem_map.mp hx
   have i1 := opNotIn_of (inB_dict (i := u) hd)
   rw [lk] at i1
   simp only [MSX, i1, inK, decide_not]
  ·intro x hx _
   obtain ⟨u, _, rfl⟩ := List.mem_map.mp hx
   simp only [MSX, id]
 rw [filter_vI] at e3
 refine ⟨_, _, ?_, x2.trans (Ext.app σ2 [O.list (vI (goneU Y.rs B.ls))]), ?_, new_get _ _⟩
 ·simp only [f_gone_uids, f_gone_uids_body, MSX, e1, e2, hσ2, hd2, e3]
  try rfl
 ·exact x2.le
theorem atom_ok {σ : Hp} {s : Str} : mkInst 52 f_Atom_init [.str s] σ = some (.ref σ.length, σ ++ [O.inst 52 [.str s]]) := by
 simp only [mkInst, f_Atom_init, f_Atom_init_body, MSX, new_get, set_last, Nat.reduceSub, Nat.zero_le]
noncomputable def kUID : Str := Str.ofString "UID"
noncomputable def kFLAGS : Str := Str.ofString "FLAGS"
noncomputable def kMODSEQ : Str := Str.ofString "MODSEQ"
noncomputable def pairsV (um uv : Bool) (l : Lt) (m p : Nat) : List V := (if um || uv then [V.tup [.str kUID, .int l.u]] else []) ++ [V.tup [.str kFLAGS, .ref m]] ++ (if um then [V.tup [.str kMODSEQ, .ref p]] else [])
structure PairsAt (σ : Hp) (lo hi n m p : Nat) (az : List (Nat × Str)) (um uv : Bool) (l : Lt) : Prop where
 gn : σ[n]? = some (.list (pairsV um uv l m p))
 gm : σ[m]? = some (.list (az.map fun z => .ref z.1))
 fl : az.map (·.2) = l.fl
 at_ : ∀ z ∈ az, σ[z.1]? = some (.inst 52 [.str z.2])
 gp : um = true → σ[p]? = some (.list [.int l.ms])
 bn : lo ≤ n ∧ n < hi
 bm : lo ≤ m ∧ m < hi
 ba : ∀ z ∈ az, lo ≤ z.1 ∧ z.1 < hi
 bp : um = true → lo ≤ p ∧ p < hi
theorem PairsAt.ext {W : List Nat} {σ σ' : Hp} {lo hi hi' n m p : Nat} {az : List (Nat × Str)} {um uv : Bool} {l : Lt} (h : PairsAt σ lo hi n m p az um uv l) (x : Ext W σ σ') (hw : ∀ w ∈ W, w < lo ∨ hi ≤ w) (hh : hi ≤ hi') : PairsAt σ' lo hi' n m p az um uv l := by
 have out : ∀ a, lo ≤ a ∧ a < hi → a ∉ W := fun a ⟨h1, h2⟩ q => by have := hw a q; exact om135 (by assumption) this
 exact ⟨x.get _ _ h.gn (out _ h.bn), x.get _ _ h.gm (out _ h.bm), h.fl, fun z hz => x.get _ _ (h.at_ z hz) (out _ (h.ba z hz)), fun q => x.get _ _ (h.gp q) (out _ (h.bp q)),
  ⟨h.bn.1, by have := h.bn.2; exact om136 hh this⟩, ⟨h.bm.1, by have := h.bm.2; exact om136 hh this⟩, fun z hz => ⟨(h.ba z hz).1, by have := (h.ba z hz).2; exact om136 hh this⟩, fun q => ⟨(h.bp q).1, by have := (h.bp q).2; exact om136 hh this⟩⟩
theorem PairsAt.lo {σ : Hp} {lo lo' hi n m p : Nat} {az : List (Nat × Str)} {um uv : Bool} {l : Lt} (h : PairsAt σ lo hi n m p az um uv l) (hh : lo' ≤ lo) : PairsAt σ lo' hi n m p az um uv l :=
 ⟨h.gn, h.gm, h.fl, h.at_, h.gp, ⟨by have := h.bn.1; exact om3 hh this, h.bn.2⟩, ⟨by have := h.bm.1; exact om3 hh this, h.bm.2⟩, fun z hz => ⟨by have := (h.ba z hz).1; exact om3 hh this, (h.ba z hz).2⟩, fun q => ⟨by have := (h.bp q).1; exact om3 hh this, (h.bp q).2⟩⟩
inductive flag_pairs_ok_O (σ : Hp) (a : Nat) (Y : Vw) (l : Lt) (um : Bool) (uv : Bool) : Prop
 | mk (n : Nat) (m : Nat) (p : Nat) (az : List (Nat × Str)) (σ' : Hp) (_ : f_flag_pairs [.ref Y.v, .ref a] σ = some (.ref n, σ')) (_ : Ext [] σ σ') (_ : PairsAt σ' σ.length σ'.length n m p az um uv l) : flag_pairs_ok_O σ a Y l um uv
inductive PI (l : Lt) (σ : Hp) (i : Nat) (ys : List V) (s : Hp) : Prop
 | mk (_ : Ext [] σ s) (az : List (Nat × Str)) (_ : ys = az.map (fun z => V.ref z.1)) (_ : az.map (·.2) = l.fl.take i) (_ : ∀ z ∈ az, s[z.1]? = some (.inst 52 [.str z.2]) ∧ σ.length ≤ z.1) : PI l σ i ys s
theorem flag_pairs_ok {σ : Hp} {b a : Nat} {Y : Vw} {l : Lt} (h : VwAt σ b Y) (hl : LtAt σ a l) (o : okS l.fl) : flag_pairs_ok_O σ a Y l (Y.um) (Y.uv) := by
 obtain ⟨oc, ins, e⟩ := hl
 have ol := o.1
 obtain ⟨ys, σ1, e1, x1, az, rfl, hz1, hz2⟩ := comp1_run (mk := mkV (un1 (getA 289 2) (var 1))) (src := .tup (vS l.fl)) (caps := []) (t := tYes) (e := callL (consL (var 0) nilL) (mkInst 52 f_Atom_init)) (xs := vS l.fl) (N := 1000) (ρ := [.ref Y.v, .ref a, .undef]) (σ0 := σ) (σ := σ) (cv := [])
  (fun i ys s => PI l σ i ys s)
  (by simp only [MSX, e, fv]) rfl ⟨Ext.refl _ _, [], rfl, by rfl, by simp⟩ (fun i _ s _ _ => nxt_tup i) (by simp [vS]; exact om137 ol) (by
   rintro i x ys s hx ⟨x1, az, rfl, h1, h2⟩
   obtain ⟨t, ht, rfl⟩ : ∃ t, l.fl[i]? = some t ∧ x = .str t := by
    simp only [vS, List.getElem?_map, Option.map_eq_some_iff] at hx
    obtain ⟨t, a, b⟩ := hx; exact ⟨t, a, b.symm⟩
   refine ⟨true, s, rfl, .inr ⟨rfl, .ref s.length, s ++ [O.inst 52 [.str t]], ?_, x1.trans (Ext.app _ _), az ++ [(s.length, t)], by simp, ?_, ?_⟩⟩
   ·simp only [MSX, atom_ok]
   ·rw [List.take_succ, ht, List.map_append, h1]; rfl
   ·intro z hz
    rcases List.mem_append.mp hz with q | q
    ·exact ⟨old_get (h2 z q).1, (h2 z q).2⟩
    ·rw [List.mem_singleton.mp q]; exact ⟨new_get _ _, x1.le⟩)
 have hz1' : az.map (·.2) = l.fl := by rw [hz1]; simp [vS]
 have c1 : c_flag_pairs [.ref Y.v, .ref a, .undef] σ = some (.ref σ1.length, σ1 ++ [.list (az.map fun z => V.ref z.1)]) := e1
 generalize hσ2 : σ1 ++ [O.list (az.map fun z => V.ref z.1)] = σ2 at *
 have m2 : σ2[σ1.length]? = some (.list (az.map fun z => V.ref z.1)) := by rw [← hσ2]; exact new_get _ _
 have z2 : ∀ z ∈ az, σ2[z.1]? = some (.inst 52 [.str z.2]) := fun z hz => by rw [← hσ2]; exact old_get (hz2 z hz).1
 have x2 : Ext [] σ σ2 := by rw [← hσ2]; exact x1.trans (Ext.app _ _)
 have l2 : σ1.length < σ2.length := by rw [← hσ2]; simp
 have z2' : ∀ z ∈ az, σ.length ≤ z.1 ∧ z.1 < σ2.length := fun z hz => ⟨(hz2 z hz).2, lt_of_get (z2 z hz)⟩
 have le1 := x1.le
 have le2 := x2.le
 have hv2 := x2.get _ _ h.vw (List.not_mem_nil)
 have he2 := x2.get _ _ e (List.not_mem_nil)
 have x3 : ∀ ys, Ext [] σ2 (σ2 ++ [O.list ys]) := fun ys => Ext.app _ _
 have hv3 : ∀ ys, (σ2 ++ [O.list ys])[Y.v]? = _ := fun ys => old_get hv2
 have he3 : ∀ ys, (σ2 ++ [O.list ys])[a]? = _ := fun ys => old_get he2
 have n3 : ∀ ys, (σ2 ++ [O.list ys])[σ2.length]? = some (.list ys) := fun ys => new_get _ _
 have hv4 : ∀ ys zs, ((σ2 ++ [O.list ys]) ++ [O.list zs])[Y.v]? = _ := fun ys zs => old_get (hv3 ys)
 have he4 : ∀ ys zs, ((σ2 ++ [O.list ys]) ++ [O.list zs])[a]? = _ := fun ys zs => old_get (he3 ys)
 have n4 : ∀ ys zs, ((σ2 ++ [O.list ys]) ++ [O.list zs])[σ2.length]? = _ := fun ys zs => old_get (n3 ys)
 have s4 : ∀ ys zs ws, ((σ2 ++ [O.list ys]) ++ [O.list zs]).set σ2.length (O.list ws) = (σ2 ++ [O.list ws]) ++ [O.list zs] := fun ys zs ws => by
  rw [List.set_append_left _ _ (by simp), set_last]
 have u1 : Str.ofString "UID" = kUID := rfl
 have u2 : Str.ofString "FLAGS" = kFLAGS := rfl
 have u3 : Str.ofString "MODSEQ" = kMODSEQ := rfl
 cases hm : Y.um with
 | false =>
  cases hu : Y.uv with
  | false =>
   rw [hm, hu] at hv3 hv2
   refine ⟨σ2.length, σ1.length, 0, az, σ2 ++ [O.list (pairsV false false l σ1.length 0)], ?_, x2.trans (x3 _), ⟨n3 _, old_get m2, hz1', fun z hz => old_get (z2 z hz), by simp, by simp; exact le2, by simp; exact om138 l2 le1, fun z hz => by have := z2' z hz; simp; exact om139 this, by simp⟩⟩
   simp only [f_flag_pairs, f_flag_pairs_body, MSX, c1, hv3, pairsV, u2, Bool.or_self]
  | true =>
   rw [hm, hu] at hv3 hv2
   refine ⟨σ2.length, σ1.length, 0, az, σ2 ++ [O.list (pairsV false true l σ1.length 0)], ?_, x2.trans (x3 _), ⟨n3 _, old_get m2, hz1', fun z hz => old_get (z2 z hz), by simp, by simp; exact le2, by simp; exact om138 l2 le1, fun z hz => by have := z2' z hz; simp; exact om139 this, by simp⟩⟩
   simp only [f_flag_pairs, f_flag_pairs_body, MSX, c1, hv3, he3, n3, set_last, pairsV, u1, u2, Bool.or_true, Bool.or_self]
 | true =>
  rw [hm] at hv4 hv3 hv2
  refine ⟨σ2.length, σ1.length, σ2.length + 1, az, (σ2 ++ [O.list (pairsV true Y.uv l σ1.length (σ2.length + 1))]) ++ [O.list [.int l.ms]], ?_, (x2.trans (x3 _)).trans (Ext.app _ _), ⟨n4 _ _, old_get (old_get m2), hz1', fun z hz => old_get (old_get (z2 z hz)), fun _ => ?_, by simp; exact le2, by simp; exact om140 l2 le1, fun z hz => by have := z2' z hz; simp; exact om141 this, fun _ => by simp; exact om84 le2⟩⟩
  ·simp only [f_flag_pairs, f_flag_pairs_body, MSX, c1, hv3, he3, n3, hv4, he4, n4, s4, set_last, pairsV, u1, u2, u3, Bool.true_or, Bool.or_self]
  ·have := new_get (σ2 ++ [O.list (pairsV true Y.uv l σ1.length (σ2.length + 1))]) (O.list [.int l.ms])
   simpa using this
theorem put_not {rs : List Lt} {l : Lt} (h : l.u ∉ us rs) : put rs l = rs := by
 unfold put
 conv => rhs; rw [← List.map_id rs]
 apply List.map_congr_left
 intro r hr
 rw [if_neg]; rfl
 intro c; exact h (List.mem_map.mpr ⟨r, hr, c⟩)
theorem keep_silent_ok {σ : Hp} {B : Bx} {Y : Vw} {u : Int} (hB : BxAt σ B) (kB : BxOk B) (h : VwAt σ B.b Y) (k : VwOk Y) :
  ∃ σ', f_keep_silent [.ref Y.v, .int u] σ = some (.none, σ') ∧ Ext [Y.F, Y.M] σ σ' ∧ VwAt σ' B.b { Y with rs := match fnd B.ls u with | some p => put Y.rs p.2 | none => Y.rs } := by
 have e1 := letter_ok hB kB u
 obtain ⟨nm, vd, fr, hb⟩ := hB.box
 have i1 := opIn_of (inB_dict (i := u) h.F)
 have i2 : (List.lookup u (flD Y.rs)).isSome = decide (u ∈ us Y.rs) := by unfold flD; rw [look_map, Option.isSome_map, getr_isSome]
 rw [i2] at i1
 cases q : fnd B.ls u with
 | none =>
  rw [q] at e1
  refine ⟨σ, ?_, Ext.refl _ _, h⟩
  simp only [f_keep_silent, f_keep_silent_body, MSX, h.vw, hb, e1, refO]
 | some p =>
  rw [q] at e1
  obtain ⟨hp, hpu⟩ := fnd_some q
  by_cases c : u ∈ us Y.rs
  ·obtain ⟨σ', e2, x, _, v2⟩ := note_ok h k (hB.lt p hp) (by rw [hpu]; exact c)
   refine ⟨σ', ?_, x, v2⟩
   simp only [f_keep_silent, f_keep_silent_body, MSX, h.vw, hb, e1, refO, i1, c, e2]
  ·refine ⟨σ, ?_, Ext.refl _ _, ?_⟩
   ·simp only [f_keep_silent, f_keep_silent_body, MSX, h.vw, hb, e1, refO, i1, c]
   ·simp only [put_not (show p.2.u ∉ us Y.rs by rw [hpu]; exact c)]; exact h
noncomputable def stl (um : Bool) (ls : Ls) (r : Lt) : Option Lt := match fnd ls r.u with | some p => if stale um r p.2 then some p.2 else none | none => none
noncomputable def upd (um : Bool) (ls : Ls) (r : Lt) : Lt := match stl um ls r with | some l => l | none => r
noncomputable def fts (um : Bool) (ls : Ls) : Nat → List Lt → List (Nat × Lt)
 | _, [] => []
 | k, r :: rs => (match stl um ls r with | some l => [(k, l)] | none => []) ++ fts um ls (k + 1) rs
theorem fts_app (um : Bool) (ls : Ls) : ∀ (rs qs : List Lt) (k : Nat), fts um ls k (rs ++ qs) = fts um ls k rs ++ fts um ls (k + rs.length) qs
 | [], qs, k => by simp [fts]
 | r :: rs, qs, k => by
  simp only [List.cons_append, fts, fts_app um ls rs qs (k + 1), List.length_cons, List.append_assoc]
  rw [show k + 1 + rs.length = k + (rs.length + 1) by exact om142]
set_option tactic.hygienic true in
theorem stl_u {um : Bool} {ls : Ls} {r l : Lt} (h : stl um ls r = some l) : l.u = r.u ∧ ∃ p, fnd ls r.u = some p ∧ p.2 = l ∧ stale um r l = true := by
 unfold stl at h
 split at h
 ·rename_i p hp
  refine ift h fun _ h => ?_
  cases h; exact ⟨(fnd_some hp).2, p, hp, rfl, by assumption⟩
 ·cases h
set_option tactic.hygienic true in
theorem upd_u (um : Bool) (ls : Ls) (r : Lt) : (upd um ls r).u = r.u := by
 unfold upd
 split
 ·rename_i l h; exact (stl_u h).1
 ·rfl
theorem us_upd (um : Bool) (ls : Ls) (rs : List Lt) : us (rs.map (upd um ls)) = us rs := by
 simp only [us, List.map_map]
 exact List.map_congr_left fun r _ => upd_u um ls r
noncomputable def kFetch : Str := Str.ofString "fetch"
noncomputable def kExpunge : Str := Str.ofString "expunge"
noncomputable def kVanished : Str := Str.ofString "vanished"
noncomputable def kExists : Str := Str.ofString "exists"
noncomputable def AnsF (σ : Hp) (lo hi : Nat) (um uv : Bool) : List (Nat × Lt) → List V → Prop
 | [], vs => vs = []
 | x :: xs, vs => ∃ n m p az r, vs = V.tup [.str kFetch, .int ((x.1 : Int) + 1), .ref n] :: r ∧ PairsAt σ lo hi n m p az um uv x.2 ∧ AnsF σ lo hi um uv xs r
theorem AnsF.ext {W : List Nat} {σ σ' : Hp} {lo hi hi' : Nat} {um uv : Bool} (x : Ext W σ σ') (hw : ∀ w ∈ W, w < lo ∨ hi ≤ w) (hh : hi ≤ hi') : ∀ {xs : List (Nat × Lt)} {vs : List V}, AnsF σ lo hi um uv xs vs → AnsF σ' lo hi' um uv xs vs
 | [], _, h => h
 | _ :: _, _, ⟨n, m, p, az, r, e, a, b⟩ => ⟨n, m, p, az, r, e, a.ext x hw hh, AnsF.ext x hw hh b⟩
theorem AnsF.snoc {σ : Hp} {lo hi : Nat} {um uv : Bool} {x : Nat × Lt} {n m p : Nat} {az : List (Nat × Str)} (hp : PairsAt σ lo hi n m p az um uv x.2) : ∀ {xs : List (Nat × Lt)} {vs : List V}, AnsF σ lo hi um uv xs vs →
  AnsF σ lo hi um uv (xs ++ [x]) (vs ++ [V.tup [.str kFetch, .int ((x.1 : Int) + 1), .ref n]])
 | [], _, h => by cases h; exact ⟨n, m, p, az, [], rfl, hp, rfl⟩
 | _ :: _, _, ⟨n', m', p', az', r, e, a, b⟩ => by subst e; exact ⟨n', m', p', az', _, rfl, a, AnsF.snoc hp b⟩
theorem AnsF.len {σ : Hp} {lo hi : Nat} {um uv : Bool} : ∀ {xs : List (Nat × Lt)} {vs : List V}, AnsF σ lo hi um uv xs vs → vs.length = xs.length
 | [], _, h => by cases h; rfl
 | _ :: _, _, ⟨n', m', p', az', r, e, a, b⟩ => by subst e; simp [AnsF.len b]
theorem nxt_range {n i : Nat} {σ : Hp} (hn : n ≤ 10000) : nxt (.range 0 (n : Int)) i σ = some (((List.range n).map fun (j : Nat) => V.int (j : Int))[i]?) := by
 unfold nxt
 simp only
 rw [if_pos ⟨om143, om144 hn⟩]
 congr 1
 by_cases h : i < n
 ·rw [if_pos (om145 h)]; simp [h]
 ·rw [if_neg (om146 h)]; simp [h]
theorem srt_mid {A C : List Lt} {r : Lt} (h : Srt (us (A ++ r :: C))) : (∀ a ∈ A, a.u < r.u) ∧ ∀ c ∈ C, r.u < c.u := by
 unfold Srt us at h
 rw [List.map_append, List.map_cons, List.pairwise_append, List.pairwise_cons] at h
 exact ⟨fun a ha => h.2.2 a.u (List.mem_map.mpr ⟨a, ha, rfl⟩) r.u (List.mem_cons_self), fun c hc => h.2.1.1 c.u (List.mem_map.mpr ⟨c, hc, rfl⟩)⟩
theorem put_at {A C : List Lt} {r l : Lt} (h : Srt (us (A ++ r :: C))) (e : l.u = r.u) : put (A ++ r :: C) l = A ++ l :: C := by
 obtain ⟨h1, h2⟩ := srt_mid h
 unfold put
 rw [List.map_append, List.map_cons, if_pos e.symm]
 congr 1
 ·conv => rhs; rw [← List.map_id A]
  apply List.map_congr_left
  intro a ha
  rw [if_neg (by have := h1 a ha; exact om147 e this)]; rfl
 ·congr 1
  conv => rhs; rw [← List.map_id C]
  apply List.map_congr_left
  intro a ha
  rw [if_neg (by have := h2 a ha; exact om148 e this)]; rfl
theorem BxAt.dicts {σ : Hp} {B : Bx} (h : BxAt σ B) {F M : Nat} {es es' : List (Int × V)} (hF : σ[F]? = some (.idict es)) (hM : σ[M]? = some (.idict es')) : B.b ∉ [F, M] ∧ B.L ∉ [F, M] ∧ B.G ∉ [F, M] ∧ ∀ p ∈ B.ls, p.1 ∉ [F, M] := by
 obtain ⟨⟨nm, vd, fr, hb⟩, hL, ⟨gs, hG, _⟩, hl⟩ := h
 have key : ∀ a o, σ[a]? = some o → (∀ es, o ≠ .idict es) → a ∉ [F, M] := by
  intro a o ha ho q
  simp at q
  rcases q with rfl | rfl
  ·rw [ha] at hF; cases hF; exact ho _ rfl
  ·rw [ha] at hM; cases hM; exact ho _ rfl
 refine ⟨key _ _ hb (by intro es c; cases c), key _ _ hL (by intro es c; cases c), key _ _ hG (by intro es c; cases c), fun p hp => ?_⟩
 obtain ⟨oc, ins, e⟩ := hl p hp
 exact key _ _ e (by intro es c; cases c)
theorem VwAt.dicts {σ : Hp} {b : Nat} {Y : Vw} (h : VwAt σ b Y) : Y.v ∉ [Y.F, Y.M] ∧ Y.U ∉ [Y.F, Y.M] := by
 constructor
 ·intro q; simp at q
  rcases q with q | q
  ·have := h.vw; rw [q, h.F] at this; cases this
  ·have := h.vw; rw [q, h.M] at this; cases this
 ·intro q; simp at q
  rcases q with q | q
  ·have := h.U; rw [q, h.F] at this; cases this
  ·have := h.U; rw [q, h.M] at this; cases this
inductive flag_news_ok_O (σ : Hp) (B : Bx) (Y : Vw) : Prop
 | mk (vs : List V) (σ' : Hp) (_ : f_flag_news [.ref Y.v] σ = some (.ref σ.length, σ')) (_ : Ext [Y.F, Y.M] σ σ') (_ : VwAt σ' B.b { Y with rs := Y.rs.map (upd Y.um B.ls) }) (_ : σ'[σ.length]? = some (.list vs)) (_ : AnsF σ' (σ.length + 1) σ'.length Y.um Y.uv (fts Y.um B.ls 0 Y.rs) vs) : flag_news_ok_O σ B Y
inductive GI (B : Bx) (Y : Vw) (σ : Hp) (i : Nat) (ρ : Loc) (s : Hp) : Prop
 | mk (x : V) (y : V) (vs : List V) (_ : ρ = [.ref Y.v, .ref σ.length, x, y]) (_ : Ext [Y.F, Y.M] σ s) (_ : VwAt s B.b { Y with rs := (Y.rs.take i).map (upd Y.um B.ls) ++ Y.rs.drop i }) (_ : s[σ.length]? = some (.list vs)) (_ : AnsF s (σ.length + 1) s.length Y.um Y.uv (fts Y.um B.ls 0 (Y.rs.take i)) vs) (_ : vs.length ≤ i) : GI B Y σ i ρ s
set_option tactic.hygienic true in
theorem flag_news_ok {σ : Hp} {B : Bx} {Y : Vw} (hB : BxAt σ B) (kB : BxOk B) (h : VwAt σ B.b Y) (k : VwOk Y) : flag_news_ok_O σ B Y := by
 have hn := k.n
 have x1 : Ext [] σ (σ ++ [O.list []]) := Ext.app _ _
 have h1 := h.ext0 x1
 have lenU : (vI (us Y.rs)).length = Y.rs.length := by simp [vI, us]
 have big1' : Y.rs.length ≤ big := by unfold big; exact om126 hn
 have dB := hB.dicts h.F h.M
 have dY := h.dicts
 have key := for_list (src := .range 0 (Y.rs.length : Int)) (a := stA 2) (f := b_flag_news) (xs := (List.range Y.rs.length).map fun (j : Nat) => V.int (j : Int)) (N := 1000) (ρ := [.ref Y.v, .ref σ.length, .undef, .undef]) (σ := σ ++ [O.list []])
  (fun i ρ s => GI B Y σ i ρ s)
  (by simp; exact om125 hn) ⟨.undef, .undef, [], rfl, x1.nil, by simpa using h1, new_get _ _, rfl, by simp⟩ (fun i ρ s _ _ => nxt_range (om112 hn)) ?_
 ·obtain ⟨ρ', σ', e, x, y, vs, rfl, X, v, g, a, _⟩ := key
  simp only [List.length_map, List.length_range, List.take_length, List.drop_length, List.append_nil] at v a
  refine ⟨vs, σ', ?_, X, v, g, a⟩
  have e' : l_flag_news [.ref Y.v, .ref σ.length, .undef, .undef] (σ ++ [O.list []]) = some (.next, [.ref Y.v, .ref σ.length, x, y], σ') := by
   have m : (mkR1 (callL (consL (un1 (getA 105 4) (var 0)) nilL) bLen)) [.ref Y.v, .ref σ.length, .undef, .undef] (σ ++ [O.list []]) = some (.range 0 (Y.rs.length : Int), σ ++ [O.list []]) := by
    have b1 : (-1000000000 : Int) ≤ (Y.rs.length : Int) ∧ (Y.rs.length : Int) ≤ 1000000000 := by exact om149 hn
    simp only [MSX, h1.vw, h1.U, lenU, big1', b1]
   show (mkR1 _ _ _).bind _ = _
   rw [m]; exact e
  simp only [f_flag_news, f_flag_news_body, MSX, e']
 ·rintro i x ρ s hx ⟨x', y', vs, rfl, X, v, g, a, hlen⟩
  have hi : i < Y.rs.length := by
   have := (List.getElem?_eq_some_iff.mp hx).1
   simpa using this
  obtain rfl : x = .int (i : Int) := by simpa [hi] using hx.symm
  have hB' : BxAt s B := hB.ext X dB.1 dB.2.1 dB.2.2.1 dB.2.2.2
  generalize hr : Y.rs[i] = r
  have hri : Y.rs[i]? = some r := by rw [List.getElem?_eq_getElem hi, hr]
  have hdrop : Y.rs.drop i = r :: Y.rs.drop (i + 1) := by rw [← hr]; exact List.drop_eq_getElem_cons hi
  have htake : Y.rs.take (i + 1) = Y.rs.take i ++ [r] := by rw [List.take_succ, hri]; rfl
  have hmem : r ∈ Y.rs := List.mem_of_getElem? hri
  have hus : us ((Y.rs.take i).map (upd Y.um B.ls) ++ Y.rs.drop i) = us Y.rs := by
   rw [us, List.map_append, ← us, us_upd, us, ← List.map_append, List.take_append_drop]; rfl
  have kR : VwOk { Y with rs := (Y.rs.take i).map (upd Y.um B.ls) ++ Y.rs.drop i } := by
   refine ⟨by rw [hus]; exact k.srt, fun q hq => ?_, by simp; exact om150 hn⟩
   rcases List.mem_append.mp hq with c | c
   ·obtain ⟨q', hq', rfl⟩ := List.mem_map.mp c
    unfold upd
    split
    ·rename_i l hl
     obtain ⟨_, p, hp, rfl, _⟩ := stl_u hl
     exact (kB.lo p (fnd_some hp).1).2.2.2
    ·exact k.ok _ (List.mem_of_mem_take hq')
   ·exact k.ok _ (List.mem_of_mem_drop c)
  have usi : (vI (us ((Y.rs.take i).map (upd Y.um B.ls) ++ Y.rs.drop i)))[i]? = some (.int r.u) := by rw [hus]; simp [vI, us, hri]
  have it : opItem (.ref Y.U) (.int (i : Int)) s = some (.int r.u, s) := by
   unfold opItem; simp only [onTR_a, onTR_b, onIS_a, onIS_b, onInt_c, onLD_a, onLD_b, onSd_c, v.U, idx_nat usi (om113 hn hi), Option.map_some]
  have le := letter_ok hB' kB r.u
  obtain ⟨nm, vd, fr, hb⟩ := hB'.box
  have fts_snoc : fts Y.um B.ls 0 (Y.rs.take (i + 1)) = fts Y.um B.ls 0 (Y.rs.take i) ++ (match stl Y.um B.ls r with | some l => [(i, l)] | none => []) := by
   rw [htake, fts_app]
   simp only [fts, List.append_nil, List.length_take, Nat.zero_add, Nat.min_eq_left (Nat.le_of_lt hi)]
  have quiet : stl Y.um B.ls r = none → (Y.rs.take (i + 1)).map (upd Y.um B.ls) ++ Y.rs.drop (i + 1) = (Y.rs.take i).map (upd Y.um B.ls) ++ Y.rs.drop i := by
   intro c
   have : upd Y.um B.ls r = r := by unfold upd; rw [c]
   rw [htake, List.map_append, hdrop, List.map_singleton, this]
   simp
  cases q : fnd B.ls r.u with
  | none =>
   rw [q] at le
   have c : stl Y.um B.ls r = none := by unfold stl; rw [q]
   refine ⟨[.ref Y.v, .ref σ.length, .int i, y'], s, [.ref Y.v, .ref σ.length, .int i, .none], s, rfl, ?_, _, _, vs, rfl, X, by rw [quiet c]; exact v, g, by rw [fts_snoc, c]; simpa using a, om84 hlen⟩
   simp only [b_flag_news, MSX, v.vw, hb, it, le, refO]
  | some p =>
   rw [q] at le
   obtain ⟨hp, hpu⟩ := fnd_some q
   have okp : okS p.2.fl := (kB.lo p hp).2.2.2
   have rmem : r ∈ (Y.rs.take i).map (upd Y.um B.ls) ++ Y.rs.drop i := by rw [hdrop]; exact List.mem_append_right _ List.mem_cons_self
   have ge : getr ((Y.rs.take i).map (upd Y.um B.ls) ++ Y.rs.drop i) p.2.u = some r := by rw [hpu]; exact getr_of kR.srt rmem
   have st := is_stale_ok v (hB'.lt p hp) ge (k.ok r hmem) okp
   cases hs : stale Y.um r p.2 with
   | false =>
    have st' : f_is_stale [.ref Y.v, .ref p.1] s = some (.bool false, s) := by rw [← hs]; exact st
    have c : stl Y.um B.ls r = none := by unfold stl; rw [q]; simp [hs]
    refine ⟨[.ref Y.v, .ref σ.length, .int i, y'], s, [.ref Y.v, .ref σ.length, .int i, .ref p.1], s, rfl, ?_, _, _, vs, rfl, X, by rw [quiet c]; exact v, g, by rw [fts_snoc, c]; simpa using a, om84 hlen⟩
    simp only [b_flag_news, MSX, v.vw, hb, it, le, refO, st']
   | true =>
    have st' : f_is_stale [.ref Y.v, .ref p.1] s = some (.bool true, s) := by rw [← hs]; exact st
    have c : stl Y.um B.ls r = some p.2 := by unfold stl; rw [q]; simp [hs]
    obtain ⟨n, m, pp, az, s1, e1, X1, P1⟩ := flag_pairs_ok v (hB'.lt p hp) okp
    have g1 := X1.get _ _ g (List.not_mem_nil)
    have v1 := v.ext0 X1
    have hvlen : vs.length < big := by unfold big; exact om151 hn hlen hi
    have X2 : Ext [σ.length] s1 (s1.set σ.length (.list (vs ++ [V.tup [.str kFetch, .int ((i : Int) + 1), .ref n]]))) := Ext.set _ _ _
    have XX1 := X.trans X1.nil
    have nl : ∀ a o, σ[a]? = some o → a ∉ [σ.length] := fun a o e q => by simp at q; exact ne_of_new e q
    have v2 := v1.ext X2 (nl _ _ h.vw) (nl _ _ h.U) (nl _ _ h.F) (nl _ _ h.M)
    have g2 := set_get (o' := O.list (vs ++ [V.tup [.str kFetch, .int ((i : Int) + 1), .ref n]])) g1
    have hlet : LtAt (s1.set σ.length (.list (vs ++ [V.tup [.str kFetch, .int ((i : Int) + 1), .ref n]]))) p.1 p.2 := by
     obtain ⟨oc, ins, e⟩ := hB.lt p hp
     exact (((hB.lt p hp).ext XX1 (dB.2.2.2 p hp)).ext X2 (nl _ _ e))
    obtain ⟨s3, e3, X3, l3, v3⟩ := note_ok v2 kR hlet (by rw [hus]; exact List.mem_map.mpr ⟨r, hmem, hpu.symm⟩)
    have XX3 : Ext [Y.F, Y.M] σ s3 := (XX1.trans' X2 (by intro a ha; simp at ha; right; exact om117 ha)).trans X3
    have an_ne : σ.length ∉ [Y.F, Y.M] := by
     intro q; simp at q
     rcases q with q | q
     ·exact ne_of_new h.F q.symm
     ·exact ne_of_new h.M q.symm
    refine ⟨[.ref Y.v, .ref σ.length, .int i, y'], s, [.ref Y.v, .ref σ.length, .int i, .ref p.1], s3, rfl, ?_, _, _, _, rfl, XX3, ?_, X3.get _ _ g2 an_ne, ?_, ?_⟩
    ·have u1 : Str.ofString "fetch" = kFetch := rfl
     have e1' : f_flag_pairs [.ref Y.v, .ref p.1] s = some (.ref n, s1) := e1
     have e3' : f_note [.ref Y.v, .ref p.1] (s1.set σ.length (.list (vs ++ [V.tup [.str kFetch, .int ((i : Int) + 1), .ref n]]))) = some (.none, s3) := e3
     simp only [b_flag_news, MSX, v.vw, hb, it, le, refO, st', g, g1, e1', u1, hvlen, e3']
    ·have e9 : (Y.rs.take (i + 1)).map (upd Y.um B.ls) ++ Y.rs.drop (i + 1) = put ((Y.rs.take i).map (upd Y.um B.ls) ++ Y.rs.drop i) p.2 := by
      have hh : Srt (us ((Y.rs.take i).map (upd Y.um B.ls) ++ r :: Y.rs.drop (i + 1))) := by rw [← hdrop]; exact kR.srt
      rw [hdrop, put_at hh hpu, htake, List.map_append, List.map_singleton]
      have : upd Y.um B.ls r = p.2 := by unfold upd; rw [c]
      rw [this]; simp
     rw [e9]; exact v3
    ·rw [fts_snoc, c]
     have hsl : σ.length + 1 ≤ s.length := lt_of_get g
     have hF := lt_of_get h.F
     have hM := lt_of_get h.M
     have XS : Ext [σ.length, Y.F, Y.M] s1 s3 := (X2.mono (sub0)).trans (X3.mono (by simp))
     have P1' : PairsAt s3 (σ.length + 1) s3.length n m pp az Y.um Y.uv p.2 :=
      (P1.ext XS (by intro w hw; simp at hw; exact om152 hsl hF hM hw) XS.le).lo hsl
     have a1 : AnsF s3 (σ.length + 1) s3.length Y.um Y.uv (fts Y.um B.ls 0 (Y.rs.take i)) vs :=
      a.ext (X1.nil.trans XS) (by intro w hw; simp at hw; exact om153 hF hM hw) (X1.nil.trans XS).le
     exact AnsF.snoc (x := (i, p.2)) P1' a1
    ·simp; exact hlen
theorem number_of_ok {σ : Hp} {b : Nat} {Y : Vw} {u : Int} (h : VwAt σ b Y) (k : VwOk Y) (hu : u ∈ us Y.rs) :
  ∃ i : Nat, f_View_number_of [.ref Y.v, .int u] σ = some (.int ((i : Int) + 1), σ) ∧ (us Y.rs)[i]? = some u := by
 obtain ⟨r, e, q⟩ := place_among_ok (u := u) h.U k.srt (by have := k.n; simpa [us] using this)
 rcases q with ⟨i, rfl, q⟩ | ⟨_, q⟩
 ·exact ⟨i, by simp only [f_View_number_of, f_View_number_of_body, MSX, h.vw, e], q⟩
 ·exact absurd hu q
noncomputable def neU (u : Int) : V → Bool := fun x => match x with | .int w => !decide (w = u) | _ => false
noncomputable def drp (rs : List Lt) (u : Int) : List Lt := rs.filter fun r => decide (r.u ≠ u)
theorem us_drp (rs : List Lt) (u : Int) : us (drp rs u) = (us rs).filter fun w => decide (w ≠ u) := by
 simp only [us, drp, List.filter_map]; rfl
theorem filter_neU (rs : List Lt) (u : Int) : ((vI (us rs)).filter (neU u)).map id = vI (us (drp rs u)) := by
 rw [us_drp]
 simp only [vI, List.map_id, List.filter_map]
 congr 1
 apply List.filter_congr
 intro w _
 simp [neU]
theorem ddel_map {g : Lt → V} {u : Int} (rs : List Lt) : ddel (rs.map fun r => (r.u, g r)) u = (drp rs u).map fun r => (r.u, g r) := by
 simp only [ddel, drp, List.filter_map]; rfl
inductive forget_ok_O (σ : Hp) (b : Nat) (Y : Vw) (u : Int) : Prop
 | mk (σ' : Hp) (_ : f_forget [.ref Y.v, .int u] σ = some (.none, σ')) (_ : Ext [Y.v, Y.F, Y.M] σ σ') (_ : VwAt σ' b { Y with U := σ.length, rs := drp Y.rs u }) : forget_ok_O σ b Y u
theorem forget_ok {σ : Hp} {b : Nat} {Y : Vw} {u : Int} (h : VwAt σ b Y) (k : VwOk Y) (hu : u ∈ us Y.rs) : forget_ok_O σ b Y u := by
 have hn := k.n
 have e1 : c_forget [.ref Y.v, .int u] σ = some (.ref σ.length, σ ++ [O.list (((vI (us Y.rs)).filter (neU u)).map id)]) := by
  refine comp1_pure (src := .list Y.U) (xs := vI (us Y.rs)) (cv := [.int u]) (neU u) id (by simp only [MSX, h.vw, h.U]) rfl (fun i _ => nxt_list h.U i) (by simp [vI, us]; exact om125 hn) ?_ ?_
  ·intro x hx
   obtain ⟨w, _, rfl⟩ := List.mem_map.mp hx
   simp only [MSX, opNe_of (eqB_int _ _), neU]
  ·intro x hx _
   obtain ⟨w, _, rfl⟩ := List.mem_map.mp hx
   simp only [MSX, id]
 rw [filter_neU] at e1
 have x1 : Ext [] σ (σ ++ [O.list (vI (us (drp Y.rs u)))]) := Ext.app _ _
 have h1 := h.ext0 x1
 have n1 := new_get σ (O.list (vI (us (drp Y.rs u))))
 generalize hσ1 : σ ++ [O.list (vI (us (drp Y.rs u)))] = σ1 at *
 have n2 : Y.F ≠ Y.v := fun q => by have := h1.vw; rw [← q, h1.F] at this; cases this
 have n3 : Y.M ≠ Y.v := fun q => by have := h1.vw; rw [← q, h1.M] at this; cases this
 have n4 : σ.length ≠ Y.v := fun q => ne_of_new h.vw q.symm
 have n5 : Y.F ≠ σ.length := ne_of_new h.F
 have n6 : Y.M ≠ σ.length := ne_of_new h.M
 generalize ho : (O.inst 105 [.ref b, .bool false, .bool Y.um, .bool Y.uv, .ref σ.length, .ref Y.F, .ref Y.M]) = ob
 have v2 : (σ1.set Y.v ob)[Y.v]? = some ob := set_get h1.vw
 have F2 : (σ1.set Y.v ob)[Y.F]? = some (.idict (flD Y.rs)) := by rw [List.getElem?_set_ne (Ne.symm n2)]; exact h1.F
 have M2 : (σ1.set Y.v ob)[Y.M]? = some (.idict (msD Y.rs)) := by rw [List.getElem?_set_ne (Ne.symm n3)]; exact h1.M
 have U2 : (σ1.set Y.v ob)[σ.length]? = some (.list (vI (us (drp Y.rs u)))) := by rw [List.getElem?_set_ne (Ne.symm n4)]; exact n1
 obtain ⟨r, hr⟩ := getr_some hu
 have lF : (flD Y.rs).length ≤ big := by simp [flD, big]; exact om126 hn
 have lM : (msD Y.rs).length ≤ big := by simp [msD, big]; exact om126 hn
 have kF : (flD Y.rs).lookup u = some (fv r.fl) := by unfold flD; rw [look_map, hr]; rfl
 have kM : (msD Y.rs).lookup u = some (.int r.ms) := by unfold msD; rw [look_map, hr]; rfl
 generalize hσ2 : σ1.set Y.v ob = σ2 at *
 have v3 : (σ2.set Y.F (O.idict (flD (drp Y.rs u))))[Y.v]? = some ob := by rw [List.getElem?_set_ne n2]; exact v2
 have F3 : (σ2.set Y.F (O.idict (flD (drp Y.rs u))))[Y.F]? = some (.idict (flD (drp Y.rs u))) := set_get F2
 have M3 : (σ2.set Y.F (O.idict (flD (drp Y.rs u))))[Y.M]? = some (.idict (msD Y.rs)) := by rw [List.getElem?_set_ne h.ne]; exact M2
 have U3 : (σ2.set Y.F (O.idict (flD (drp Y.rs u))))[σ.length]? = some (.list (vI (us (drp Y.rs u)))) := by rw [List.getElem?_set_ne n5]; exact U2
 have dF : ddel (flD Y.rs) u = flD (drp Y.rs u) := ddel_map Y.rs
 have dM : ddel (msD Y.rs) u = msD (drp Y.rs u) := ddel_map Y.rs
 have X2 : Ext [Y.v] σ1 σ2 := by rw [← hσ2]; exact Ext.set _ _ _
 generalize hσ3 : σ2.set Y.F (O.idict (flD (drp Y.rs u))) = σ3 at *
 have X3 : Ext [Y.F] σ2 σ3 := by rw [← hσ3]; exact Ext.set _ _ _
 have X4 : Ext [Y.M] σ3 (σ3.set Y.M (O.idict (msD (drp Y.rs u)))) := Ext.set _ _ _
 refine ⟨σ3.set Y.M (O.idict (msD (drp Y.rs u))), ?_, ?_, ?_⟩
 ·have s1 : σ1.set Y.v (O.inst 105 [.ref b, .bool false, .bool Y.um, .bool Y.uv, .ref σ.length, .ref Y.F, .ref Y.M]) = σ2 := by rw [ho]; exact hσ2
  have v2' := v2
  have v3' := v3
  rw [← ho] at v2' v3'
  simp only [f_forget, f_forget_body, MSX, e1, h1.vw, s1, v2', F2, lF, kF, dF, hσ3, v3', M3, lM, kM, dM]
 ·exact ((x1.nil.trans (X2.mono (sub0))).trans (X3.mono (sub1))).trans (X4.mono (sub2))
 ·have g : ∀ a o, σ3[a]? = some o → a ≠ Y.M → (σ3.set Y.M (O.idict (msD (drp Y.rs u))))[a]? = some o := fun a o e n => by rw [List.getElem?_set_ne (Ne.symm n)]; exact e
  refine ⟨?_, g _ _ U3 (Ne.symm n6), g _ _ F3 h.ne, set_get M3, h.ne⟩
  show _ = some (O.inst 105 [.ref b, .bool false, .bool Y.um, .bool Y.uv, .ref σ.length, .ref Y.F, .ref Y.M])
  rw [ho]; exact g _ _ v3 (Ne.symm n3)
noncomputable def rgV (r : Int × Int) : V := .tup [.int r.1, .int r.2]
noncomputable def rng (a b : Int) : List Int := (List.range (b + 1 - a).toNat).map fun (j : Nat) => a + (j : Int)
noncomputable def expand (rgs : List (Int × Int)) : List Int := rgs.flatMap fun r => rng r.1 r.2
theorem rng_one (a : Int) : rng a a = [a] := by
 unfold rng
 rw [show (a + 1 - a).toNat = 1 by exact om154]; simp [List.range_succ]
theorem rng_snoc {a b : Int} (h : a ≤ b) : rng a (b + 1) = rng a b ++ [b + 1] := by
 unfold rng
 rw [show (b + 1 + 1 - a).toNat = (b + 1 - a).toNat + 1 by exact om155 h, List.range_succ, List.map_append]
 simp; exact om156 h
theorem idx_neg1 {xs : List V} {x : V} (h : xs.length ≤ 10000) : idx (xs ++ [x]) (-1) = some x := by
 unfold idx
 rw [if_neg (om157), if_pos ⟨om158, om159, by simp; exact om160⟩]
 rw [show (-1 + ((xs ++ [x]).length : Int)).toNat = xs.length by simp; exact om161]
 simp
theorem opSet_neg1 {σ : Hp} {n : Nat} {xs : List V} {x v : V} (h : xs.length ≤ 10000) (hn : σ[n]? = some (.list (xs ++ [x]))) : opSet (.ref n) (.int (-1)) v σ = some (σ.set n (.list (xs ++ [v]))) := by
 unfold opSet
 rw [onRef_c, onInt_c, hn, onLD_a, if_neg (om157), if_pos ⟨om158, om159, by simp; exact om160⟩]
 rw [show (-1 + ((xs ++ [x]).length : Int)).toNat = xs.length by simp; exact om161]
 rw [List.set_append_right _ _ (Nat.le_refl _)]
 simp
theorem item_tup {σ : Hp} {xs : List V} {i : Int} {v : V} (h : idx xs i = some v) (hl : xs.length ≤ big) : opItem (.tup xs) (.int i) σ = some (v, σ) := by
 unfold opItem; simp only [onTR_a, onTR_b, onIS_a, onIS_b, onInt_c, onLD_a, onLD_b, onSd_c, h, hl, if_true, Option.map_some]
theorem item_list {σ : Hp} {n : Nat} {xs : List V} {i : Int} {v : V} (hn : σ[n]? = some (.list xs)) (h : idx xs i = some v) : opItem (.ref n) (.int i) σ = some (v, σ) := by
 unfold opItem; simp only [onTR_a, onTR_b, onIS_a, onIS_b, onInt_c, onLD_a, onLD_b, onSd_c, hn, h, Option.map_some]
inductive ranges_of_ok_O (σ : Hp) (g : Nat) (is : List Int) : Prop
 | mk (rgs : List (Int × Int)) (σ' : Hp) (_ : f_ranges_of [.ref g] σ = some (.tup (rgs.map rgV), σ')) (_ : Ext [] σ σ') (_ : expand rgs = is) (_ : rgs.length ≤ is.length) (_ : ∀ r ∈ rgs, r.1 ≤ r.2) : ranges_of_ok_O σ g is
inductive RI (g : Nat) (σ : Hp) (is : List Int) (i : Nat) (ρ : Loc) (s : Hp) : Prop
 | mk (x : V) (rgs : List (Int × Int)) (_ : ρ = [.ref g, .ref σ.length, x]) (_ : Ext [] σ s) (_ : s[σ.length]? = some (.list (rgs.map rgV))) (_ : expand rgs = is.take i) (_ : rgs.length ≤ i) (_ : i ≤ is.length) (_ : (rgs = [] ∨ ∃ init a b, rgs = init ++ [(a, b)] ∧ a ≤ b ∧ 0 < i ∧ is[i - 1]? = some b)) (_ : ∀ r ∈ rgs, r.1 ≤ r.2) : RI g σ is i ρ s
theorem ranges_of_ok {σ : Hp} {g : Nat} {is : List Int} (hg : σ[g]? = some (.list (vI is))) (hs : Srt is) (hn : is.length ≤ 900) : ranges_of_ok_O σ g is := by
 have x1 : Ext [] σ (σ ++ [O.list []]) := Ext.app _ _
 have hg1 := x1.get _ _ hg (List.not_mem_nil)
 have lg : (vI is).length = is.length := by simp [vI]
 have key := for_list (src := .list g) (a := stA 2) (f := b_ranges_of) (xs := vI is) (N := 1000) (ρ := [.ref g, .ref σ.length, .undef]) (σ := σ ++ [O.list []])
  (fun i ρ s => RI g σ is i ρ s)
  (om162 hn lg) ⟨.undef, [], rfl, x1, new_get _ _, rfl, by simp, by simp, .inl rfl, by simp⟩ (fun i ρ s _ ⟨_, _, _, X, _, _, _, _, _, _⟩ => nxt_list (X.get _ _ hg (List.not_mem_nil)) i) ?_
 ·obtain ⟨ρ', σ', e, x, rgs, rfl, X, o, ex, hl, _, _, hle⟩ := key
  have e' : l_ranges_of [.ref g, .ref σ.length, .undef] (σ ++ [O.list []]) = some (.next, [.ref g, .ref σ.length, x], σ') := by
   have m : (mkV (var 0)) [.ref g, .ref σ.length, .undef] (σ ++ [O.list []]) = some (.list g, σ ++ [O.list []]) := by simp only [MSX, hg1]
   show (mkV _ _ _).bind _ = _
   rw [m]; exact e
  rw [lg] at hl ex
  rw [List.take_length] at ex
  have hb : rgs.length ≤ big := by unfold big; exact om163 hn hl
  exact ⟨rgs, σ', by simp only [f_ranges_of, f_ranges_of_body, bTuple, MSX, e', o, hb], X, ex, hl, hle⟩
 ·rintro i x ρ s hx ⟨x', rgs, rfl, X, o, ex, hl, hi, hc, hle⟩
  obtain ⟨u, hu, rfl⟩ : ∃ u, is[i]? = some u ∧ x = .int u := by
   simp only [vI, List.getElem?_map, Option.map_eq_some_iff] at hx
   obtain ⟨t, a, b⟩ := hx; exact ⟨t, a, b.symm⟩
  have hil : i < is.length := (List.getElem?_eq_some_iff.mp hu).1
  have htk : is.take (i + 1) = is.take i ++ [u] := by rw [List.take_succ, hu]; rfl
  have hb : rgs.length < big := by unfold big; exact om151 hn hl hil
  have hb' : rgs.length ≤ big := Nat.le_of_lt hb
  have addc : b_ranges_of [.ref g, .ref σ.length, .int u] s = some (.next, [.ref g, .ref σ.length, .int u], s.set σ.length (.list (rgs.map rgV ++ [rgV (u, u)]))) →
    TO (stA 2) b_ranges_of (fun i ρ s => RI g σ is i ρ s) i (.int u) [.ref g, .ref σ.length, x'] s := by
   intro e
   refine ⟨_, s, _, _, rfl, e, .int u, rgs ++ [(u, u)], rfl, ?_, by rw [List.map_append]; exact set_get o, ?_, by simp; exact hl, hil, .inr ⟨rgs, u, u, rfl, om129, om164, by simpa using hu⟩, ?_⟩
   ·exact X.trans' (Ext.set _ _ _) (by intro a ha; simp at ha; right; exact om117 ha)
   ·rw [htk, ← ex]; simp [expand, rng_one]
   ·intro r hr
    rcases List.mem_append.mp hr with c | c
    ·exact hle r c
    ·rw [List.mem_singleton.mp c]; exact Int.le_refl _
  rcases hc with rfl | ⟨init, a, b, rfl, hab, hi0, hbi⟩
  ·apply addc
   simp only [List.map_nil] at o
   have z : ¬ ((0 : Int) < ((0 : Nat) : Int)) := by exact om165
   simp only [b_ranges_of, MSX, o, List.map_nil, rgV, z]
  ·have hltb : b < u := srt_get hs hbi hu (om166 hi0)
   have o' := o
   rw [List.map_append, List.map_singleton] at o'
   have hin : (init.map rgV).length ≤ 10000 := by simp at hl ⊢; exact om167 hn hil hl
   have i1 : opItem (.ref σ.length) (.int (-1)) s = some (rgV (a, b), s) := item_list o' (idx_neg1 hin)
   have i2 : opItem (rgV (a, b)) (.int 1) s = some (.int b, s) := item_tup idx_1 big2
   have i3 : opItem (rgV (a, b)) (.int 0) s = some (.int a, s) := item_tup idx_0 big2
   have lpos : (0 : Int) < ((init.length + 1 : Nat) : Int) := by exact om168
   have hb3 : init.length + 1 ≤ big := by simpa using hb'
   by_cases q : u ≤ b + 1
   ·have e : u = b + 1 := by exact om169 hltb q
    have st := opSet_neg1 (v := rgV (a, u)) hin o'
    refine ⟨_, s, [.ref g, .ref σ.length, .int u], s.set σ.length (.list (init.map rgV ++ [rgV (a, u)])), rfl, ?_, .int u, init ++ [(a, u)], rfl, X.trans' (Ext.set _ _ _) (by intro a ha; simp at ha; right; exact om117 ha), ?_, ?_, by simpa using Nat.le_succ_of_le hl, hil, .inr ⟨init, a, u, rfl, om170 hab hltb, om164, by simpa using hu⟩, ?_⟩
    ·have st' : opSet (.ref σ.length) (.int (-1)) (.tup [.int a, .int u]) s = some (s.set σ.length (.list (init.map rgV ++ [rgV (a, u)]))) := st
     simp only [b_ranges_of, MSX, o', i1, i2, i3, lpos, hb3, q, st']
    ·rw [List.map_append]; exact set_get o
    ·rw [htk, ← ex, e]
     simp only [expand, List.flatMap_append, List.flatMap_cons, List.flatMap_nil, List.append_nil, rng_snoc hab, List.append_assoc]
    ·intro r hr
     rcases List.mem_append.mp hr with c | c
     ·exact hle r (by simp [c])
     ·rw [List.mem_singleton.mp c]; show a ≤ u; exact om170 hab hltb
   ·apply addc
    have hb4 : init.length + 1 < big := by simpa using hb
    have h9 : rgV (u, u) = V.tup [.int u, .int u] := rfl
    simp only [b_ranges_of, MSX, o', i1, i2, lpos, hb3, hb4, q, List.map_append, List.map_cons, List.map_nil, h9]
noncomputable def ExCh : List Lt → List Int → List Nat → Prop
 | _, [], [] => True
 | rs, u :: g, i :: is => (us rs)[i]? = some u ∧ ExCh (drp rs u) g is
 | _, _, _ => False
noncomputable def drpA (rs : List Lt) (g : List Int) : List Lt := rs.filter fun r => decide (r.u ∉ g)
theorem drpA_cons (rs : List Lt) (u : Int) (g : List Int) : drpA rs (u :: g) = drpA (drp rs u) g := by
 simp only [drpA, drp, List.filter_filter]
 apply List.filter_congr
 intro r _
 simp only [List.mem_cons, not_or, Bool.decide_and, Bool.and_comm]
theorem drpA_snoc (rs : List Lt) (u : Int) (g : List Int) : drpA rs (g ++ [u]) = drp (drpA rs g) u := by
 simp only [drpA, drp, List.filter_filter]
 apply List.filter_congr
 intro r _
 simp only [List.mem_append, List.mem_singleton, not_or, Bool.decide_and, Bool.and_comm]
theorem drpA_nil (rs : List Lt) : drpA rs [] = rs := by
 unfold drpA
 apply List.filter_eq_self.mpr
 intros; rfl
theorem ExCh.snoc {u : Int} {i : Nat} : ∀ {g : List Int} {is : List Nat} {rs : List Lt}, ExCh rs g is → (us (drpA rs g))[i]? = some u → ExCh rs (g ++ [u]) (is ++ [i])
 | [], [], rs, _, h => by
  refine ⟨?_, trivial⟩
  rw [drpA_nil] at h; exact h
 | v :: g, j :: is, rs, ⟨h1, h2⟩, h => ⟨h1, ExCh.snoc h2 (by rw [← drpA_cons]; exact h)⟩
 | [], _ :: _, _, h, _ => h.elim
 | _ :: _, [], _, h, _ => h.elim
theorem srt_filter {ks : List Int} {p : Int → Bool} (h : Srt ks) : Srt (ks.filter p) := List.Pairwise.filter _ h
theorem us_drpA (rs : List Lt) (g : List Int) : us (drpA rs g) = (us rs).filter fun w => decide (w ∉ g) := by
 simp only [us, drpA, List.filter_map]; rfl
theorem VwOk.drpA {Y : Vw} (k : VwOk Y) (U : Nat) (g : List Int) : VwOk { Y with U := U, rs := Mine.drpA Y.rs g } :=
 ⟨by show Srt (us (Mine.drpA Y.rs g)); rw [us_drpA]; exact srt_filter k.srt, fun r hr => k.ok r (List.mem_filter.mp hr).1, Nat.le_trans (List.length_filter_le _ _) k.n⟩
noncomputable def exV (i : Nat) : V := .tup [.str kExpunge, .int ((i : Int) + 1)]
noncomputable def vaV (rgs : List (Int × Int)) : V := .tup [.str kVanished, .tup (rgs.map rgV), .bool false]
noncomputable def AnsE (uv : Bool) (rs : List Lt) (g : List Int) (vs : List V) : Prop :=
 if uv then (g = [] ∧ vs = []) ∨ (g ≠ [] ∧ ∃ rgs, expand rgs = g ∧ rgs.length ≤ 900 ∧ (∀ r ∈ rgs, r.1 ≤ r.2) ∧ vs = [vaV rgs]) else ∃ is, vs = is.map exV ∧ ExCh rs g is
theorem ExCh.len : ∀ {g : List Int} {is : List Nat} {rs : List Lt}, ExCh rs g is → is.length = g.length
 | [], [], _, _ => rfl
 | _ :: _, _ :: _, _, ⟨_, h⟩ => by simp [h.len]
 | [], _ :: _, _, h => h.elim
 | _ :: _, [], _, h => h.elim
inductive expunge_news_ok_O (σ : Hp) (B : Bx) (Y : Vw) (gone : List Int) : Prop
 | mk (n : Nat) (U' : Nat) (vs : List V) (σ' : Hp) (_ : f_expunge_news [.ref Y.v] σ = some (.ref n, σ')) (_ : Ext [Y.v, Y.F, Y.M] σ σ') (_ : σ.length ≤ n) (_ : VwAt σ' B.b { Y with U := U', rs := drpA Y.rs (gone) }) (_ : (U' = Y.U ∨ σ.length ≤ U')) (_ : σ'[n]? = some (.list vs)) (_ : AnsE Y.uv Y.rs (gone) vs) (_ : vs.length ≤ 900) (_ : U' ≠ n) : expunge_news_ok_O σ B Y gone
inductive XI (b : Nat) (Y : Vw) (g : Nat) (σ σ1 : Hp) (gone : List Int) (i : Nat) (ρ : Loc) (s : Hp) : Prop
 | mk (x : V) (U' : Nat) (vs : List V) (_ : ρ = [.ref Y.v, .ref g, .ref σ1.length, x]) (_ : Ext [Y.v, Y.F, Y.M, σ1.length] (σ1 ++ [O.list []]) s) (_ : VwAt s b { Y with U := U', rs := drpA Y.rs (gone.take i) }) (_ : (U' = Y.U ∨ σ.length ≤ U')) (_ : s[σ1.length]? = some (.list vs)) (_ : (Y.uv = true → vs = [])) (_ : (Y.uv = false → ∃ is, vs = is.map exV ∧ ExCh Y.rs (gone.take i) is)) (_ : i ≤ gone.length) (_ : U' ≠ σ1.length) : XI b Y g σ σ1 gone i ρ s
theorem expunge_news_ok {σ : Hp} {B : Bx} {Y : Vw} (hB : BxAt σ B) (kB : BxOk B) (h : VwAt σ B.b Y) (k : VwOk Y) : expunge_news_ok_O σ B Y (goneU Y.rs B.ls) := by
 have hn := k.n
 obtain ⟨g, σ1, e1, X1, lg, hg⟩ := gone_uids_ok hB kB h k
 generalize hgone : goneU Y.rs B.ls = gone at *
 have gsrt : Srt gone := by rw [← hgone]; exact srt_filter k.srt
 have gsub : ∀ u ∈ gone, u ∈ us Y.rs := by rw [← hgone]; intro u hu; exact (List.mem_filter.mp hu).1
 have glen : gone.length ≤ 900 := by
  rw [← hgone]; exact Nat.le_trans (List.length_filter_le _ _) (by simpa [us] using hn)
 have h1 := h.ext0 X1
 have X2 : Ext [] σ1 (σ1 ++ [O.list []]) := Ext.app _ _
 have h2 := h1.ext0 X2
 have hg2 := X2.get _ _ hg (List.not_mem_nil)
 have lenG : (vI gone).length = gone.length := by simp [vI]
 have le1 := X1.le
 have gv : Y.v < σ.length := lt_of_get h.vw
 have gF : Y.F < σ.length := lt_of_get h.F
 have gM : Y.M < σ.length := lt_of_get h.M
 have gU : Y.U < σ.length := lt_of_get h.U
 have gl1 : g < σ1.length := lt_of_get hg
 have key := for_list (src := .list g) (a := stA 3) (f := b_expunge_news) (xs := vI gone) (N := 1000) (ρ := [.ref Y.v, .ref g, .ref σ1.length, .undef]) (σ := σ1 ++ [O.list []])
  (fun i ρ s => XI B.b Y g σ σ1 gone i ρ s)
  (om162 glen lenG) ⟨.undef, Y.U, [], rfl, Ext.refl _ _, by rw [List.take_zero, drpA_nil]; exact h2, .inl rfl, new_get _ _, fun _ => rfl, fun _ => ⟨[], rfl, trivial⟩, by simp, om171 le1 gU⟩
  (fun i ρ s _ ⟨_, _, _, _, X, _, _, _, _, _, _, _⟩ => nxt_list (X.get _ _ hg2 (by simp; exact om172 lg gv gF gM gl1)) i) ?_
 ·obtain ⟨ρ', σ', e, x, U', vs, rfl, X, v, hU, o, a1, a2, _, hUn⟩ := key
  rw [lenG, List.take_length] at v a2
  have e' : l_expunge_news [.ref Y.v, .ref g, .ref σ1.length, .undef] (σ1 ++ [O.list []]) = some (.next, [.ref Y.v, .ref g, .ref σ1.length, x], σ') := by
   have m : (mkV (var 1)) [.ref Y.v, .ref g, .ref σ1.length, .undef] (σ1 ++ [O.list []]) = some (.list g, σ1 ++ [O.list []]) := by simp only [MSX, hg2]
   show (mkV _ _ _).bind _ = _
   rw [m]; exact e
  have XX : Ext [Y.v, Y.F, Y.M] σ σ' := ((X1.nil.trans X2.nil).trans' X (by intro a ha; simp at ha ⊢; exact om173 le1 ha))
  have hg' : σ'[g]? = some (.list (vI gone)) := X.get _ _ hg2 (by simp; exact om172 lg gv gF gM gl1)
  have X3 : Ext [] σ' (σ' ++ [O.list []]) := Ext.app _ _
  have v3 := v.ext0 X3
  have o3 := X3.get _ _ o (List.not_mem_nil)
  have hg3 := X3.get _ _ hg' (List.not_mem_nil)
  have hne := opNe_of (eqB_nil hg3 (new_get σ' (O.list [])))
  have hUlt : U' < σ'.length := lt_of_get v.U
  have hvw3 : (σ' ++ [O.list []])[Y.v]? = some (.inst 105 [.ref B.b, .bool false, .bool Y.um, .bool Y.uv, .ref U', .ref Y.F, .ref Y.M]) := v3.vw
  have cge : gone = [] → (vI gone).isEmpty = true := by rintro rfl; rfl
  have cgn : gone ≠ [] → (vI gone).isEmpty = false := by intro c; cases gone with | nil => exact absurd rfl c | cons a b => rfl
  rcases (show Y.uv = false ∨ Y.uv = true by cases Y.uv <;> simp) with huv | huv
  ·rw [huv] at hvw3
   obtain ⟨is, rfl, ch⟩ := a2 huv
   refine ⟨σ1.length, U', _, σ' ++ [O.list []], ?_, XX.trans X3.nil, le1, v3, hU, o3, ?_, ?_, hUn⟩
   ·by_cases q : gone = []
    ·rw [cge q] at hne
     simp only [f_expunge_news, f_expunge_news_body, MSX, e1, e', hne]
    ·rw [cgn q] at hne
     simp only [f_expunge_news, f_expunge_news_body, MSX, e1, e', hne, hvw3]
   ·unfold AnsE; rw [if_neg (by rw [huv]; simp)]; exact ⟨is, rfl, ch⟩
   ·rw [List.length_map, ch.len]; exact glen
  ·rw [huv] at hvw3
   have a1' := a1 huv
   subst a1'
   by_cases q : gone = []
   ·rw [cge q] at hne
    refine ⟨σ1.length, U', [], σ' ++ [O.list []], ?_, XX.trans X3.nil, le1, v3, hU, o3, ?_, by simp, hUn⟩
    ·simp only [f_expunge_news, f_expunge_news_body, MSX, e1, e', hne]
    ·unfold AnsE; rw [if_pos huv]; exact .inl ⟨q, rfl⟩
   ·rw [cgn q] at hne
    obtain ⟨rgs, s4, e4, X4, ex, rl, rle⟩ := ranges_of_ok hg3 gsrt glen
    have o4 := X4.get _ _ o3 (List.not_mem_nil)
    have v4 := v3.ext0 X4
    have X5 : Ext [σ1.length] s4 (s4.set σ1.length (.list [vaV rgs])) := Ext.set _ _ _
    refine ⟨σ1.length, U', [vaV rgs], s4.set σ1.length (.list [vaV rgs]), ?_, ?_, le1, v4.ext X5 (by simp; exact om174 le1 gv) (by simpa using hUn) (by simp; exact om174 le1 gF) (by simp; exact om174 le1 gM), hU, set_get o4, ?_, by simp, hUn⟩
    ·have u3 : V.tup [.str (Str.ofString "vanished"), .tup (rgs.map rgV), .bool false] = vaV rgs := rfl
     simp only [f_expunge_news, f_expunge_news_body, MSX, e1, e', hne, hvw3, o3, e4, o4, u3]
    ·exact ((XX.trans X3.nil).trans X4.nil).trans' X5 (by intro a ha; simp at ha; right; exact om175 le1 ha)
    ·unfold AnsE; rw [if_pos huv]; exact .inr ⟨q, rgs, ex, om176 glen rl, rle, rfl⟩
 ·rintro i x ρ s hx ⟨x', U', vs, rfl, X, v, hU, o, a1, a2, hi, hUn⟩
  obtain ⟨u, hu, rfl⟩ : ∃ u, gone[i]? = some u ∧ x = .int u := by
   simp only [vI, List.getElem?_map, Option.map_eq_some_iff] at hx
   obtain ⟨t, a, b⟩ := hx; exact ⟨t, a, b.symm⟩
  have hil : i < gone.length := (List.getElem?_eq_some_iff.mp hu).1
  have htk : gone.take (i + 1) = gone.take i ++ [u] := by rw [List.take_succ, hu]; rfl
  have hnot : u ∉ gone.take i := by
   intro c
   obtain ⟨j, hj⟩ := List.mem_iff_getElem?.mp c
   have hj' : j < i := by have := (List.getElem?_eq_some_iff.mp hj).1; simp at this; exact om177 this
   rw [List.getElem?_take_of_lt hj'] at hj
   exact absurd (srt_get gsrt hj hu hj') (om105)
  have kk := k.drpA U' (gone.take i)
  have huin : u ∈ us (drpA Y.rs (gone.take i)) := by
   rw [us_drpA, List.mem_filter]
   exact ⟨gsub u (List.mem_of_getElem? hu), by simpa using hnot⟩
  have hvw : s[Y.v]? = some (.inst 105 [.ref B.b, .bool false, .bool Y.um, .bool Y.uv, .ref U', .ref Y.F, .ref Y.M]) := v.vw
  have sl : σ1.length < s.length := lt_of_get o
  rcases (show Y.uv = true ∨ Y.uv = false by cases Y.uv <;> simp) with huv | huv
  ·rw [huv] at hvw
   obtain ⟨s2, e2, X2', v2⟩ := forget_ok v kk huin
   refine ⟨[.ref Y.v, .ref g, .ref σ1.length, .int u], s, [.ref Y.v, .ref g, .ref σ1.length, .int u], s2, rfl, ?_, .int u, s.length, vs, rfl, X.trans (X2'.mono (by intro a ha; simp at ha ⊢; exact om178 ha)), by rw [htk, drpA_snoc]; exact v2, .inr (om179 lg gl1 sl), X2'.get _ _ o (by simp; exact om180 le1 gv gF gM), a1, fun c => (by rw [huv] at c; cases c), hil, om181 sl⟩
   have e2' : f_forget [.ref Y.v, .int u] s = some (.none, s2) := e2
   simp only [b_expunge_news, MSX, hvw, e2']
  ·rw [huv] at hvw
   obtain ⟨is, rfl, ch⟩ := a2 huv
   obtain ⟨j, ej, hj⟩ := number_of_ok v kk huin
   have ej' : f_View_number_of [.ref Y.v, .int u] s = some (.int ((j : Int) + 1), s) := ej
   have X5 : Ext [σ1.length] s (s.set σ1.length (.list (is.map exV ++ [exV j]))) := Ext.set _ _ _
   have vlt : Y.v ∉ [σ1.length] := by simp; exact om174 le1 gv
   have v5 := v.ext X5 vlt (by simpa using hUn) (by simp; exact om174 le1 gF) (by simp; exact om174 le1 gM)
   obtain ⟨s2, e2, X2', v2⟩ := forget_ok v5 kk huin
   have ilen : is.length < big := by
    have := ch.len; simp at this; unfold big; exact om182 glen this
   have hvw5 : (s.set σ1.length (.list (is.map exV ++ [exV j])))[Y.v]? = _ := v5.vw
   refine ⟨[.ref Y.v, .ref g, .ref σ1.length, .int u], s, [.ref Y.v, .ref g, .ref σ1.length, .int u], s2, rfl, ?_, .int u, _, is.map exV ++ [exV j], rfl, (X.trans (X5.mono (sub3))).trans (X2'.mono (by intro a ha; simp at ha ⊢; exact om178 ha)), by rw [htk, drpA_snoc]; exact v2, .inr (by simp; exact om179 lg gl1 sl), X2'.get _ _ (set_get o) (by simp; exact om180 le1 gv gF gM), fun c => (by rw [huv] at c; cases c), fun _ => ⟨is ++ [j], by simp, by rw [htk]; exact ch.snoc hj⟩, hil, by simp; exact om183 sl⟩
   have e2' : f_forget [.ref Y.v, .int u] (s.set σ1.length (.list (is.map exV ++ [exV j]))) = some (.none, s2) := e2
   have u3 : V.tup [.str (Str.ofString "expunge"), .int ((j : Int) + 1)] = exV j := rfl
   simp only [b_expunge_news, MSX, hvw, o, ej', ilen, u3, e2']
theorem keys_newL_srt {rs : List Lt} {ls : Ls} (h : Srt (keys ls)) : Srt (keys (newL rs ls)) := by
 unfold Srt keys at *
 rw [List.pairwise_map] at *
 unfold newL
 exact h.filter _
theorem newL_mem {rs : List Lt} {ls : Ls} {p : Nat × Lt} (h : p ∈ newL rs ls) : p ∈ ls ∧ p.2.u ∉ us rs := by
 unfold newL at h
 obtain ⟨a, b⟩ := List.mem_filter.mp h
 exact ⟨a, by simpa using b⟩
noncomputable def axV (n : Nat) : V := .tup [.str kExists, .int (n : Int)]
noncomputable def arrA (m n : Nat) : List V := if m = 0 then [] else [axV n]
inductive arrival_news_ok_O (σ : Hp) (B : Bx) (Y : Vw) (new : Ls) : Prop
 | mk (n : Nat) (σ' : Hp) (_ : f_arrival_news [.ref Y.v] σ = some (.ref n, σ')) (_ : Ext [Y.U, Y.F, Y.M] σ σ') (_ : σ.length ≤ n) (_ : VwAt σ' B.b { Y with rs := Y.rs ++ (new).map (·.2) }) (_ : σ'[n]? = some (.list (arrA (new).length (Y.rs.length + (new).length)))) : arrival_news_ok_O σ B Y new
inductive AI (b : Nat) (Y : Vw) (g : Nat) (σ1 : Hp) (new : Ls) (i : Nat) (ρ : Loc) (s : Hp) : Prop
 | mk (x : V) (_ : ρ = [.ref Y.v, .ref g, x]) (_ : Ext [Y.U, Y.F, Y.M] σ1 s) (_ : VwAt s b { Y with rs := Y.rs ++ (new.take i).map (·.2) }) (_ : i ≤ new.length) : AI b Y g σ1 new i ρ s
theorem arrival_news_ok {σ : Hp} {B : Bx} {Y : Vw} (hB : BxAt σ B) (kB : BxOk B) (h : VwAt σ B.b Y) (k : VwOk Y) (kn : Kn Y.rs B) : arrival_news_ok_O σ B Y (newL Y.rs B.ls) := by
 obtain ⟨g, σ1, e1, X1, lg, hg⟩ := new_letters_ok hB kB h k kn
 generalize hnew : newL Y.rs B.ls = new at *
 have nsrt : Srt (keys new) := by rw [← hnew]; exact keys_newL_srt kB.srt
 have nmem : ∀ p ∈ new, p ∈ B.ls ∧ p.2.u ∉ us Y.rs := by rw [← hnew]; exact fun p hp => newL_mem hp
 have nlen : new.length ≤ 900 := by rw [← hnew]; exact Nat.le_trans (List.length_filter_le _ _) kB.n
 have hn := k.n
 have h1 := h.ext0 X1
 have lenN : (refs new).length = new.length := by simp [refs]
 have gv : Y.v < σ.length := lt_of_get h.vw
 have gF : Y.F < σ.length := lt_of_get h.F
 have gM : Y.M < σ.length := lt_of_get h.M
 have gU : Y.U < σ.length := lt_of_get h.U
 have nUF : Y.U ≠ Y.F := fun q => by have := h.U; rw [q, h.F] at this; cases this
 have nUM : Y.U ≠ Y.M := fun q => by have := h.U; rw [q, h.M] at this; cases this
 have nvU : Y.v ≠ Y.U := fun q => by have := h.vw; rw [q, h.U] at this; cases this
 have nvF : Y.v ≠ Y.F := fun q => by have := h.vw; rw [q, h.F] at this; cases this
 have nvM : Y.v ≠ Y.M := fun q => by have := h.vw; rw [q, h.M] at this; cases this
 have ltn : ∀ p ∈ B.ls, p.1 ∉ [Y.U, Y.F, Y.M] := by
  intro p hp q
  obtain ⟨oc, ins, e⟩ := hB.lt p hp
  simp at q
  rcases q with q | q | q
  ·rw [q, h.U] at e; cases e
  ·rw [q, h.F] at e; cases e
  ·rw [q, h.M] at e; cases e
 have key := for_list (src := .list g) (a := stA 2) (f := b_arrival_news) (xs := refs new) (N := 1000) (ρ := [.ref Y.v, .ref g, .undef]) (σ := σ1)
  (fun i ρ s => AI B.b Y g σ1 new i ρ s)
  (om162 nlen lenN) ⟨.undef, rfl, Ext.refl _ _, by simpa using h1, by simp⟩
  (fun i ρ s _ ⟨_, _, X, _, _⟩ => nxt_list (X.get _ _ hg (by simp; exact om184 lg gF gM gU)) i) ?_
 ·obtain ⟨ρ', σ', e, x, rfl, X, v, _⟩ := key
  rw [lenN, List.take_length] at v
  have e' : l_arrival_news [.ref Y.v, .ref g, .undef] σ1 = some (.next, [.ref Y.v, .ref g, x], σ') := by
   have m : (mkV (var 1)) [.ref Y.v, .ref g, .undef] σ1 = some (.list g, σ1) := by simp only [MSX, hg]
   show (mkV _ _ _).bind _ = _
   rw [m]; exact e
  have hg' := X.get _ _ hg (by simp; exact om184 lg gF gM gU)
  have X3 : Ext [] σ' (σ' ++ [O.list []]) := Ext.app _ _
  have v3 := v.ext0 X3
  have hg3 := X3.get _ _ hg' (List.not_mem_nil)
  have hne := opNe_of (eqB_nil hg3 (new_get σ' (O.list [])))
  have XX : Ext [Y.U, Y.F, Y.M] σ (σ' ++ [O.list []]) := (X1.nil.trans X).trans X3.nil
  have hvw3 : (σ' ++ [O.list []])[Y.v]? = some (.inst 105 [.ref B.b, .bool false, .bool Y.um, .bool Y.uv, .ref Y.U, .ref Y.F, .ref Y.M]) := v3.vw
  have hU3 : (σ' ++ [O.list []])[Y.U]? = some (.list (vI (us (Y.rs ++ new.map (·.2))))) := v3.U
  have lenI : (vI (us (Y.rs ++ new.map (·.2)))).length = Y.rs.length + new.length := by simp [vI, us]
  have hbig : Y.rs.length + new.length ≤ big := by unfold big; exact om185 nlen hn
  by_cases q : new = []
  ·have : (refs new).isEmpty = true := by rw [q]; rfl
   rw [this] at hne
   refine ⟨(σ' ++ [O.list []]).length, (σ' ++ [O.list []]) ++ [O.list []], ?_, XX.trans (Ext.app _ _).nil, XX.le, v3.ext0 (Ext.app _ _), ?_⟩
   ·simp only [f_arrival_news, f_arrival_news_body, MSX, e1, e', hne]
   ·rw [q]; exact new_get _ _
  ·have : (refs new).isEmpty = false := by
    cases hh : new with
    | nil => exact absurd hh q
    | cons a b => rfl
   rw [this] at hne
   have hl : new.length ≠ 0 := fun c => q (List.length_eq_zero_iff.mp c)
   refine ⟨(σ' ++ [O.list []]).length, (σ' ++ [O.list []]) ++ [O.list [axV (Y.rs.length + new.length)]], ?_, XX.trans (Ext.app _ _).nil, XX.le, v3.ext0 (Ext.app _ _), ?_⟩
   ·have u3 : V.tup [.str (Str.ofString "exists"), .int ((Y.rs.length + new.length : Nat) : Int)] = axV (Y.rs.length + new.length) := rfl
    simp only [f_arrival_news, f_arrival_news_body, MSX, e1, e', hne, hvw3, hU3, lenI, hbig, u3]
   ·unfold arrA; rw [if_neg hl]; exact new_get _ _
 ·rintro i x ρ s hx ⟨x', rfl, X, v, hi⟩
  obtain ⟨⟨a, l⟩, hp, rfl⟩ : ∃ p : Nat × Lt, new[i]? = some p ∧ x = .ref p.1 := by
   simp only [refs, List.getElem?_map, Option.map_eq_some_iff] at hx
   obtain ⟨t, a, b⟩ := hx; exact ⟨t, a, b.symm⟩
  have hil : i < new.length := (List.getElem?_eq_some_iff.mp hp).1
  have hmem : (a, l) ∈ new := List.mem_of_getElem? hp
  obtain ⟨hls, hnu⟩ := nmem _ hmem
  have htk : new.take (i + 1) = new.take i ++ [(a, l)] := by rw [List.take_succ, hp]; rfl
  obtain ⟨oc, ins, hlt⟩ := hB.lt _ hls
  have hlt1 := X1.get _ _ hlt (List.not_mem_nil)
  have hlt2 := X.get _ _ hlt1 (ltn _ hls)
  have anU : a ≠ Y.U := fun q => ltn _ hls (by simp [q])
  generalize hR : Y.rs ++ (new.take i).map (·.2) = R at *
  have hRlen : R.length ≤ 1800 := by rw [← hR]; simp; exact om186 nlen hn
  have hnotR : l.u ∉ us R := by
   rw [← hR]
   unfold us
   rw [List.map_append, List.mem_append]
   rintro (c | c)
   ·exact hnu c
   ·rw [List.map_map] at c
    obtain ⟨j, hj⟩ := List.mem_iff_getElem?.mp c
    have hj' : j < i := by have := (List.getElem?_eq_some_iff.mp hj).1; simp at this; exact om177 this
    have hj2 : (keys new)[j]? = some l.u := by
     rw [List.getElem?_map, List.getElem?_take_of_lt hj', ← List.getElem?_map] at hj
     exact hj
    exact absurd (srt_get nsrt hj2 (keys_get hp) hj') (Int.lt_irrefl _)
  have vvw : s[Y.v]? = some (.inst 105 [.ref B.b, .bool false, .bool Y.um, .bool Y.uv, .ref Y.U, .ref Y.F, .ref Y.M]) := v.vw
  have vU : s[Y.U]? = some (.list (vI (us R))) := v.U
  have vF : s[Y.F]? = some (.idict (flD R)) := v.F
  have vM : s[Y.M]? = some (.idict (msD R)) := v.M
  have lenU : (vI (us R)).length < big := by simp [vI, us, big]; exact om187 hRlen
  have X5 : Ext [Y.U] s (s.set Y.U (.list (vI (us R) ++ [.int l.u]))) := Ext.set _ _ _
  have f1 := X5.get _ _ vvw (by simpa using nvU)
  have f2 := X5.get _ _ hlt2 (by simpa using anU)
  have f3 := X5.get _ _ vF (by simpa using Ne.symm nUF)
  have f4 := X5.get _ _ vM (by simpa using Ne.symm nUM)
  have f5 := set_get (o' := O.list (vI (us R) ++ [.int l.u])) vU
  have e6 := note_raw f1 f2 f3 f4 v.ne (by simp [flD, big]; exact om188 hRlen) (by simp [msD, big]; exact om188 hRlen)
  have d1 : dput (flD R) l.u (fv l.fl) = flD (R ++ [l]) := by
   rw [dput_new (by simpa [flD, us] using hnotR)]; simp [flD]
  have d2 : dput (msD R) l.u (.int l.ms) = msD (R ++ [l]) := by
   rw [dput_new (by simpa [msD, us] using hnotR)]; simp [msD]
  simp only at e6
  rw [d1, d2] at e6
  generalize hs5 : s.set Y.U (.list (vI (us R) ++ [.int l.u])) = s5 at *
  have X6 : Ext [Y.F] s5 (s5.set Y.F (O.idict (flD (R ++ [l])))) := Ext.set _ _ _
  have X7 : Ext [Y.M] (s5.set Y.F (O.idict (flD (R ++ [l])))) ((s5.set Y.F (O.idict (flD (R ++ [l])))).set Y.M (O.idict (msD (R ++ [l])))) := Ext.set _ _ _
  refine ⟨[.ref Y.v, .ref g, .ref a], s, [.ref Y.v, .ref g, .ref a], _, rfl, ?_, .ref a, rfl, ((X.trans (X5.mono (sub0))).trans (X6.mono (sub1))).trans (X7.mono (sub2)), ?_, hil⟩
  ·have e6' : f_note [.ref Y.v, .ref a] s5 = _ := e6
   simp only [b_arrival_news, MSX, vvw, hlt2, vU, lenU, hs5, e6']
  ·have e9 : Y.rs ++ (new.take (i + 1)).map (·.2) = R ++ [l] := by rw [htk, ← hR]; simp
   rw [e9]
   refine ⟨X7.get _ _ (X6.get _ _ f1 (by simpa using nvF)) (by simpa using nvM), ?_, ?_, set_get (X6.get _ _ f4 (by simpa using Ne.symm v.ne)), v.ne⟩
   ·have : vI (us R) ++ [V.int l.u] = vI (us (R ++ [l])) := by simp [vI, us]
    rw [this] at f5
    exact X7.get _ _ (X6.get _ _ f5 (by simpa using nUF)) (by simpa using nUM)
   ·exact X7.get _ _ (set_get f3) (by simpa using v.ne)
noncomputable def midR (um may : Bool) (rs : List Lt) (ls : Ls) : List Lt := if may then drpA (rs.map (upd um ls)) (goneU rs ls) else rs
noncomputable def told (um may : Bool) (rs : List Lt) (ls : Ls) : List Lt := if may then drpA (rs.map (upd um ls)) (goneU rs ls) else rs.map (upd um ls)
noncomputable def newsR (um may : Bool) (rs : List Lt) (ls : Ls) : List Lt := told um may rs ls ++ (newL (told um may rs ls) ls).map (·.2)
theorem goneU_upd {um : Bool} {rs : List Lt} {ls : Ls} : goneU (rs.map (upd um ls)) ls = goneU rs ls := by unfold goneU; rw [us_upd]
set_option tactic.hygienic true in
theorem upd_cases (um : Bool) (ls : Ls) (r : Lt) : upd um ls r = r ∨ ∃ p ∈ ls, p.2.u = r.u ∧ upd um ls r = p.2 := by
 unfold upd
 split
 ·rename_i l hl
  obtain ⟨h1, p, hp, rfl, _⟩ := stl_u hl
  exact .inr ⟨p, (fnd_some hp).1, h1, rfl⟩
 ·exact .inl rfl
structure Fresh (um : Bool) (rs : List Lt) (ls : Ls) : Prop where
 fl : ∀ p ∈ ls, ∀ r ∈ rs, r.u = p.2.u → r.fl = p.2.fl
 ms : um = true → ∀ p ∈ ls, ∀ r ∈ rs, r.u = p.2.u → r.ms = p.2.ms
theorem upd_fresh {um : Bool} {rs : List Lt} {ls : Ls} (hs : Srt (keys ls)) : Fresh um (rs.map (upd um ls)) ls := by
 have key : ∀ p ∈ ls, ∀ r : Lt, (upd um ls r).u = p.2.u → (upd um ls r).fl = p.2.fl ∧ (um = true → (upd um ls r).ms = p.2.ms) := by
  intro p hp r hu
  rw [upd_u] at hu
  have hf : fnd ls r.u = some p := fnd_of hs hp hu.symm
  unfold upd stl
  rw [hf]
  simp only
  cases c : stale um r p.2 with
  | true => simp
  | false =>
   simp only [Bool.false_eq_true, if_false]
   unfold stale at c
   simp only [Bool.or_eq_false_iff, decide_eq_false_iff_not, ne_eq, Decidable.not_not] at c
   refine ⟨c.1, fun hm => ?_⟩
   have := c.2
   rw [hm] at this
   simpa using this
 constructor
 ·rintro p hp r hr hu
  obtain ⟨q, _, rfl⟩ := List.mem_map.mp hr
  exact (key p hp q hu).1
 ·rintro hm p hp r hr hu
  obtain ⟨q, _, rfl⟩ := List.mem_map.mp hr
  exact (key p hp q hu).2 hm
theorem Kn.upd {um : Bool} {rs : List Lt} {B : Bx} (kB : BxOk B) (kn : Kn rs B) : Kn (rs.map (Mine.upd um B.ls)) B := by
 have fr := upd_fresh (um := um) (rs := rs) kB.srt
 refine ⟨fun p hp => ?_, fun r hr => ?_, fun p hp r hr hu _ => fr.fl p hp r hr hu, fun r hr => ?_⟩
 ·rw [us_upd]
  rcases kn.old p hp with c | c
  ·exact .inl c
  ·refine .inr fun r hr => ?_
   obtain ⟨q, hq, rfl⟩ := List.mem_map.mp hr
   rw [upd_u]; exact c q hq
 ·obtain ⟨q, hq, rfl⟩ := List.mem_map.mp hr
  rcases upd_cases um B.ls q with c | ⟨p, hp, _, c⟩
  ·rw [c]; exact kn.ms q hq
  ·rw [c]; exact (kB.lo p hp).2.2.1
 ·obtain ⟨q, hq, rfl⟩ := List.mem_map.mp hr
  rw [upd_u]; exact kn.hi q hq
theorem Kn.drpA {rs : List Lt} {B : Bx} (kn : Kn rs B) : Kn (Mine.drpA rs (goneU rs B.ls)) B := by
 refine ⟨fun p hp => ?_, fun r hr => kn.ms r (List.mem_filter.mp hr).1, fun p hp r hr => kn.same p hp r (List.mem_filter.mp hr).1, fun r hr => kn.hi r (List.mem_filter.mp hr).1⟩
 rcases kn.old p hp with c | c
 ·left
  rw [us_drpA, List.mem_filter]
  refine ⟨c, ?_⟩
  simp only [decide_eq_true_eq]
  intro q
  have := (List.mem_filter.mp q).2
  simp only [decide_eq_true_eq] at this
  exact this (List.mem_map.mpr ⟨p, hp, rfl⟩)
 ·exact .inr fun r hr => c r (List.mem_filter.mp hr).1
theorem VwOk.upd {um : Bool} {Y : Vw} {B : Bx} (kB : BxOk B) (k : VwOk Y) : VwOk { Y with rs := Y.rs.map (Mine.upd um B.ls) } := by
 refine ⟨by show Srt (us (Y.rs.map _)); rw [us_upd]; exact k.srt, fun r hr => ?_, by simpa using k.n⟩
 obtain ⟨q, hq, rfl⟩ := List.mem_map.mp hr
 rcases upd_cases um B.ls q with c | ⟨p, hp, _, c⟩
 ·rw [c]; exact k.ok q hq
 ·rw [c]; exact (kB.lo p hp).2.2.2
theorem BxAt.offV {σ : Hp} {B : Bx} {b : Nat} {Y : Vw} (hB : BxAt σ B) (h : VwAt σ b Y) : B.b ∉ [Y.v, Y.F, Y.M] ∧ B.L ∉ [Y.v, Y.F, Y.M] ∧ B.G ∉ [Y.v, Y.F, Y.M] ∧ ∀ p ∈ B.ls, p.1 ∉ [Y.v, Y.F, Y.M] := by
 obtain ⟨⟨nm, vd, fr, hb⟩, hL, ⟨gs, hG, _⟩, hl⟩ := hB
 have key : ∀ a o, σ[a]? = some o → (∀ es, o ≠ .idict es) → (∀ fs, o ≠ .inst 105 fs) → a ∉ [Y.v, Y.F, Y.M] := by
  intro a o ha ho ho' q
  simp at q
  rcases q with rfl | rfl | rfl
  ·rw [h.vw] at ha; cases ha; exact ho' _ rfl
  ·rw [h.F] at ha; cases ha; exact ho _ rfl
  ·rw [h.M] at ha; cases ha; exact ho _ rfl
 refine ⟨key _ _ hb (by intro es c; cases c) (by intro es c; cases c), key _ _ hL (by intro es c; cases c) (by intro es c; cases c), key _ _ hG (by intro es c; cases c) (by intro es c; cases c), fun p hp => ?_⟩
 obtain ⟨oc, ins, e⟩ := hl p hp
 exact key _ _ e (by intro es c; cases c) (by intro es c; cases c)
inductive news_ok_O (σ : Hp) (B : Bx) (Y : Vw) (may : Bool) : Prop
 | mk (n : Nat) (U' : Nat) (hi : Nat) (vF : List V) (vE : List V) (σ' : Hp) (_ : f_news [.ref Y.v, .bool may] σ = some (.ref n, σ')) (_ : Ext [Y.v, Y.U, Y.F, Y.M] σ σ') (_ : σ.length ≤ n) (_ : VwAt σ' B.b { Y with U := U', rs := newsR Y.um may Y.rs B.ls }) (_ : (U' = Y.U ∨ σ.length ≤ U')) (_ : σ'[n]? = some (.list (vF ++ vE ++ arrA (newL (told Y.um may Y.rs B.ls) B.ls).length (newsR Y.um may Y.rs B.ls).length))) (_ : AnsF σ' (σ.length + 1) hi Y.um Y.uv (fts Y.um B.ls 0 Y.rs) vF) (_ : hi ≤ σ'.length) (_ : (if may then AnsE Y.uv (Y.rs.map (upd Y.um B.ls)) (goneU Y.rs B.ls) vE else vE = [])) (_ : vF.length ≤ 900) (_ : vE.length ≤ 900) (_ : n ≠ U') (_ : hi ≤ n) : news_ok_O σ B Y may
theorem news_ok {σ : Hp} {B : Bx} {Y : Vw} (may : Bool) (hB : BxAt σ B) (kB : BxOk B) (h : VwAt σ B.b Y) (k : VwOk Y) (kn : Kn Y.rs B) : news_ok_O σ B Y may := by
 have hn := k.n
 obtain ⟨vF, s1, e1, X1, v1, o1, a1⟩ := flag_news_ok hB kB h k
 have dB := hB.dicts h.F h.M
 have hB1 := hB.ext X1 dB.1 dB.2.1 dB.2.2.1 dB.2.2.2
 have k1 : VwOk { Y with rs := Y.rs.map (upd Y.um B.ls) } := k.upd kB
 have kn1 : Kn (Y.rs.map (upd Y.um B.ls)) B := kn.upd kB
 have gv : Y.v < σ.length := lt_of_get h.vw
 have gF : Y.F < σ.length := lt_of_get h.F
 have gM : Y.M < σ.length := lt_of_get h.M
 have gU : Y.U < σ.length := lt_of_get h.U
 have ls1 : σ.length < s1.length := lt_of_get o1
 have fts_len : ∀ (k : Nat) (rs : List Lt), (fts Y.um B.ls k rs).length ≤ rs.length := by
  intro k rs
  induction rs generalizing k with
  | nil => simp [fts]
  | cons r rs ih =>
   simp only [fts, List.length_append, List.length_cons]
   have := ih (k + 1)
   split <;> simp <;> (first | exact om189 this | exact om84 this)
 have vFl : vF.length ≤ 900 := by rw [a1.len]; exact Nat.le_trans (fts_len _ _) hn
 have mid : ∃ U' vE s2, ((sIf (tst (var 1)) (sExpr (meth isL (var 2) (consL (callL (consL (var 0) nilL) f_expunge_news) nilL) mExtend)) sNil) [.ref Y.v, .bool may, .ref σ.length] s1 = some (.next, [.ref Y.v, .bool may, .ref σ.length], s2)) ∧
   Ext [Y.v, Y.F, Y.M, σ.length] s1 s2 ∧ VwAt s2 B.b { Y with U := U', rs := told Y.um may Y.rs B.ls } ∧ (U' = Y.U ∨ s1.length ≤ U') ∧ s2[σ.length]? = some (.list (vF ++ vE)) ∧
   (if may then AnsE Y.uv (Y.rs.map (upd Y.um B.ls)) (goneU Y.rs B.ls) vE else vE = []) ∧ vE.length ≤ 900 := by
  cases may with
  | false =>
   refine ⟨Y.U, [], s1, ?_, Ext.refl _ _, v1, .inl rfl, by simpa using o1, by rfl, by simp⟩
   simp only [MSX]
  | true =>
   obtain ⟨n2, U2, vE, s2, e2, X2, ln2, v2, hU2, o2, aE, lE, nU⟩ := expunge_news_ok hB1 kB v1 k1
   rw [goneU_upd] at v2 aE
   have e2' : f_expunge_news [.ref Y.v] s1 = some (.ref n2, s2) := e2
   have o1' : s2[σ.length]? = some (.list vF) := X2.get _ _ o1 (by simp; exact om190 gv gF gM)
   have X3 : Ext [σ.length] s2 (s2.set σ.length (.list (vF ++ vE))) := Ext.set _ _ _
   have hne : σ.length ≠ n2 := by exact om191 ls1 ln2
   have hb : vF.length + vE.length ≤ big := by unfold big; exact om192 vFl lE
   have hU2' : U2 = Y.U ∨ s1.length ≤ U2 := hU2
   have v3 := v2.ext X3 (by simp; exact om193 gv) (by simp; exact om194 gU ls1 hU2') (by simp; exact om193 gF) (by simp; exact om193 gM)
   refine ⟨U2, vE, s2.set σ.length (.list (vF ++ vE)), ?_, (X2.mono (by intro a ha; simp at ha ⊢; exact om178 ha)).trans (X3.mono (sub3)), v3, hU2', set_get o1', by simpa using aE, lE⟩
   simp only [MSX, o1, e2', o1', o2, hne, ne_eq, hb]
 obtain ⟨U', vE, s2, e2, X2, v2, hU2, o2, aE, lE⟩ := mid
 have hB2 : BxAt s2 B := by
  have d := hB1.offV v1
  refine hB1.ext X2 ?_ ?_ ?_ ?_
  ·intro q; have := hB.box.lt; simp at q; have := d.1; simp at this; exact om195 (by assumption) q this
  ·intro q; have := lt_of_get hB.L; simp at q; have := d.2.1; simp at this; exact om195 (by assumption) q this
  ·intro q; have := hB.G.lt; simp at q; have := d.2.2.1; simp at this; exact om195 (by assumption) q this
  ·intro p hp q
   obtain ⟨oc, ins, e⟩ := hB.lt p hp
   have := lt_of_get e; simp at q; have := d.2.2.2 p hp; simp at this; exact om195 (by assumption) q this
 have k2 : VwOk { Y with U := U', rs := told Y.um may Y.rs B.ls } := by
  cases may with
  | false => exact ⟨k1.srt, k1.ok, k1.n⟩
  | true => exact k1.drpA U' _
 have kn2 : Kn (told Y.um may Y.rs B.ls) B := by
  cases may with
  | false => exact kn1
  | true =>
   have := kn1.drpA
   rw [goneU_upd] at this
   exact this
 obtain ⟨n3, s3, e3, X3, ln3, v3, o3⟩ := arrival_news_ok hB2 kB v2 k2 kn2
 have e3' : f_arrival_news [.ref Y.v] s2 = some (.ref n3, s3) := e3
 have hlo : s1.length ≤ s2.length := X2.le
 have X3' : Ext [U', Y.F, Y.M] s2 s3 := X3
 have o2' : s3[σ.length]? = some (.list (vF ++ vE)) := X3'.get _ _ o2 (by simp; exact om196 gF gM gU ls1 hU2)
 have X4 : Ext [] s3 (s3 ++ [O.list (vF ++ vE ++ arrA (newL (told Y.um may Y.rs B.ls) B.ls).length ((told Y.um may Y.rs B.ls).length + (newL (told Y.um may Y.rs B.ls) B.ls).length))]) := Ext.app _ _
 have lenR : (newsR Y.um may Y.rs B.ls).length = (told Y.um may Y.rs B.ls).length + (newL (told Y.um may Y.rs B.ls) B.ls).length := by simp [newsR]
 have arrl : ∀ m n, (arrA m n).length ≤ 1 := by intro m n; unfold arrA; split <;> simp
 have hle3 := X3'.le
 have hUlt : U' < s2.length := lt_of_get v2.U
 refine ⟨s3.length, U', s1.length, vF, vE, _, ?_, ?_, om197 ls1 hlo hle3, v3.ext0 X4, by rcases hU2 with c | c; exact .inl c; right; exact om198 ls1 c, ?_, ?_, ?_, aE, vFl, lE, om199 hle3 hUlt, om3 hlo hle3⟩
 ·have e2' := e2
  have hb : vF.length + vE.length + (arrA (newL (told Y.um may Y.rs B.ls) B.ls).length ((told Y.um may Y.rs B.ls).length + (newL (told Y.um may Y.rs B.ls) B.ls).length)).length ≤ big := by
   have := arrl (newL (told Y.um may Y.rs B.ls) B.ls).length ((told Y.um may Y.rs B.ls).length + (newL (told Y.um may Y.rs B.ls) B.ls).length)
   unfold big; exact om200 vFl lE this
  have e0 : (sAsg (callL (consL (var 0) nilL) f_flag_news) (stA 2)) [.ref Y.v, .bool may, .undef] σ = some (.next, [.ref Y.v, .bool may, .ref σ.length], s1) := by
   simp only [MSX, e1]
  have e4 : (sRet (bin2 opAdd (var 2) (callL (consL (var 0) nilL) f_arrival_news))) [.ref Y.v, .bool may, .ref σ.length] s2 = some (.ret (.ref s3.length), [.ref Y.v, .bool may, .ref σ.length], s3 ++ [O.list (vF ++ vE ++ arrA (newL (told Y.um may Y.rs B.ls) B.ls).length ((told Y.um may Y.rs B.ls).length + (newL (told Y.um may Y.rs B.ls) B.ls).length))]) := by
   simp only [MSX, e3', o2', o3, hb]
  unfold f_news f_news_body runF
  simp only [List.length_cons, List.length_nil, Nat.reduceAdd, if_true, List.replicate_succ, List.replicate_zero, List.cons_append, List.nil_append]
  rw [sc e0, sc e2', e4]; rfl
 ·refine (((X1.mono (by simp)).trans' X2 (by intro a ha; simp at ha ⊢; exact om201 ha)).trans' X3' ?_).trans X4.nil
  intro a ha; simp at ha ⊢; exact om202 ls1 hU2 ha
 ·rw [lenR]; exact new_get _ _
 ·refine a1.ext (((X2.mono (W' := [Y.v, Y.F, Y.M, σ.length, U']) (by simp)).trans (X3'.mono (by simp))).trans X4.nil) ?_ (Nat.le_refl _)
  intro w hw; simp at hw; exact om203 gv gF gM gU hU2 hw
 ·have := X4.le; exact om204 hlo hle3 this
theorem comp_idx {α : Type} {mk : Mk} {src : Src} {σ σ0 : Hp} {caps : List (Nat × Str)} {t : Loc → Hp → Option (Bool × Hp)} {e : Fn} {ρ : Loc} {cv : List V} {xs : List α} {g : α → V} {N : Nat} (p : α → Bool) (q : α → V)
  (hm : mk ρ σ0 = some (src, σ)) (hn : ∀ i, nxt src i σ = some ((xs.map g)[i]?)) (hN : xs.length < N) (hc : (caps.map fun c => ρ[c.1]?.getD .undef) = cv)
  (ht : ∀ x ∈ xs, t (g x :: cv) σ = some (p x, σ)) (he : ∀ x ∈ xs, p x = true → e (g x :: cv) σ = some (q x, σ)) :
  cComp mk 1 caps (stA 0) t e N ρ σ0 = some (.ref σ.length, σ ++ [O.list ((xs.filter p).map q)]) := by
 have key : ∃ zs σ', compGo src (stA 0) t e N 0 (.undef :: cv) σ = some (zs, σ') ∧ (σ' = σ ∧ [] ++ zs = ((xs.take (xs.map g).length).filter p).map q) := by
  refine comp_run (xs := xs.map g) (own := fun r => ∃ y, r = y :: cv) (fun i ys σ' => σ' = σ ∧ ys = ((xs.take i).filter p).map q) ?_ ?_ (xs.map g).length 0 N _ [] σ ⟨_, rfl⟩ (Nat.zero_add _) (by simpa using hN) ⟨rfl, by rfl⟩
  ·rintro i ys σ' hi ⟨rfl, _⟩; exact hn i
  ·rintro i x r ys σ' ⟨y, rfl⟩ hx ⟨rfl, rfl⟩
   obtain ⟨z, hz, rfl⟩ : ∃ z, xs[i]? = some z ∧ x = g z := by
    simp only [List.getElem?_map, Option.map_eq_some_iff] at hx
    obtain ⟨z, h1, h2⟩ := hx; exact ⟨z, h1, h2.symm⟩
   have hmem : z ∈ xs := List.mem_of_getElem? hz
   have htk : xs.take (i + 1) = xs.take i ++ [z] := by rw [List.take_succ, hz]; rfl
   refine ⟨g z :: cv, σ', p z, σ', rfl, ⟨_, rfl⟩, ht z hmem, ?_⟩
   cases hp : p z with
   | false => exact .inl ⟨rfl, rfl, by rw [htk]; simp [hp]⟩
   | true => exact .inr ⟨rfl, q z, σ', he z hmem hp, rfl, by rw [htk]; simp [hp]⟩
 obtain ⟨zs, σ', e1, rfl, e2⟩ := key
 rw [List.length_map, List.take_length] at e2
 show (mk ρ _).bind _ = _
 rw [hm]
 simp only [Option.bind_some, compLoc, List.replicate_succ, List.replicate_zero, List.cons_append, List.nil_append, hc, e1]
 rw [← e2]; rfl
theorem comp_all {α : Type} {mk : Mk} {src : Src} {σ σ0 : Hp} {caps : List (Nat × Str)} {e : Fn} {ρ : Loc} {cv : List V} {xs : List α} {g : α → V} {N : Nat} (q : α → V)
  (hm : mk ρ σ0 = some (src, σ)) (hn : ∀ i, nxt src i σ = some ((xs.map g)[i]?)) (hN : xs.length < N) (hc : (caps.map fun c => ρ[c.1]?.getD .undef) = cv)
  (he : ∀ x ∈ xs, e (g x :: cv) σ = some (q x, σ)) :
  cComp mk 1 caps (stA 0) tYes e N ρ σ0 = some (.ref σ.length, σ ++ [O.list (xs.map q)]) := by
 have := comp_idx (t := tYes) (fun _ => true) q hm hn hN hc (fun _ _ => rfl) (fun x hx _ => he x hx)
 rw [filter_true] at this
 exact this
theorem comp_pairs {α : Type} {mk : Mk} {src : Src} {σ σ0 : Hp} {e : Fn} {ρ : Loc} {xs : List α} {g g' : α → V} {N : Nat} (q : α → V)
  (hm : mk ρ σ0 = some (src, σ)) (hn : ∀ i, nxt src i σ = some ((xs.map fun x => V.tup [g x, g' x])[i]?)) (hN : xs.length < N)
  (he : ∀ x ∈ xs, e [g x, g' x] σ = some (q x, σ)) :
  cComp mk 2 [] (asg2 (stA 0) (stA 1)) tYes e N ρ σ0 = some (.ref σ.length, σ ++ [O.list (xs.map q)]) := by
 have key : ∃ zs σ', compGo src (asg2 (stA 0) (stA 1)) tYes e N 0 [.undef, .undef] σ = some (zs, σ') ∧ (σ' = σ ∧ [] ++ zs = (xs.take (xs.map fun x => V.tup [g x, g' x]).length).map q) := by
  refine comp_run (xs := xs.map fun x => V.tup [g x, g' x]) (own := fun r => ∃ y z, r = [y, z]) (fun i ys σ' => σ' = σ ∧ ys = (xs.take i).map q) ?_ ?_ (xs.map fun x => V.tup [g x, g' x]).length 0 N _ [] σ ⟨_, _, rfl⟩ (Nat.zero_add _) (by simpa using hN) ⟨rfl, by rfl⟩
  ·rintro i ys σ' hi ⟨rfl, _⟩; exact hn i
  ·rintro i x r ys σ' ⟨y, y', rfl⟩ hx ⟨rfl, rfl⟩
   obtain ⟨z, hz, rfl⟩ : ∃ z, xs[i]? = some z ∧ x = V.tup [g z, g' z] := by
    simp only [List.getElem?_map, Option.map_eq_some_iff] at hx
    obtain ⟨z, h1, h2⟩ := hx; exact ⟨z, h1, h2.symm⟩
   have hmem : z ∈ xs := List.mem_of_getElem? hz
   have htk : xs.take (i + 1) = xs.take i ++ [z] := by rw [List.take_succ, hz]; rfl
   exact ⟨[g z, g' z], σ', true, σ', rfl, ⟨_, _, rfl⟩, rfl, .inr ⟨rfl, q z, σ', he z hmem, rfl, by rw [htk]; simp⟩⟩
 obtain ⟨zs, σ', e1, rfl, e2⟩ := key
 rw [List.length_map, List.take_length] at e2
 show (mk ρ _).bind _ = _
 rw [hm]
 simp only [Option.bind_some, compLoc, List.replicate_succ, List.replicate_zero, List.cons_append, List.nil_append, List.map_nil, List.append_nil, e1]
 rw [← e2]; rfl
noncomputable def toldV (r : Lt) : V := .tup [.int r.u, fv r.fl, .int r.ms]
theorem told_ok {σ : Hp} {b : Nat} {Y : Vw} (h : VwAt σ b Y) (k : VwOk Y) : ∃ σ', f_View_told [.ref Y.v] σ = some (.tup (Y.rs.map toldV), σ') ∧ Ext [] σ σ' := by
 have hn := k.n
 have e1 : c_View_told [.ref Y.v] σ = some (.ref σ.length, σ ++ [O.list (Y.rs.map toldV)]) := by
  refine comp_all (src := .list Y.U) (g := fun r : Lt => V.int r.u) (cv := [.ref Y.v]) toldV (by simp only [MSX, h.vw, h.U]) (fun i => ?_) (om125 hn) rfl ?_
  ·rw [nxt_list h.U]; simp [vI, us]; rfl
  ·intro r hr
   have i1 : opItem (.ref Y.F) (.int r.u) σ = some (fv r.fl, σ) := item_dict h.F (by unfold flD; rw [look_map, getr_of k.srt hr]; rfl)
   have i2 : opItem (.ref Y.M) (.int r.u) σ = some (.int r.ms, σ) := item_dict h.M (by unfold msD; rw [look_map, getr_of k.srt hr]; rfl)
   simp only [MSX, h.vw, i1, i2, toldV]
 have hb : Y.rs.length ≤ big := by unfold big; exact om126 hn
 exact ⟨σ ++ [O.list (Y.rs.map toldV)], by simp only [f_View_told, f_View_told_body, bTuple, MSX, e1, new_get, hb], Ext.app _ _⟩
theorem filter_false {α : Type} (xs : List α) : xs.filter (fun _ => false) = [] := by
 induction xs with
 | nil => rfl
 | cons x xs ih => rw [List.filter_cons_of_neg (by simp)]; exact ih
theorem up_ok {σ : Hp} {B : Bx} {Y : Vw} (hB : BxAt σ B) (kB : BxOk B) (h : VwAt σ B.b Y) (k : VwOk Y) (fr : Fresh Y.um Y.rs B.ls) :
  ∃ σ', f_is_up_to_date [.ref Y.v] σ = some (.bool (decide (us Y.rs = keys B.ls)), σ') ∧ Ext [] σ σ' := by
 obtain ⟨nm, vd, fr', hb⟩ := hB.box
 have e1 := uids_ok hB kB
 have X1 : Ext [] σ (σ ++ [O.list (vI (keys B.ls))]) := Ext.app _ _
 have h1 := h.ext0 X1
 have hB1 := hB.ext0 X1
 have q1 := opEq_of (eqB_ints h1.U (new_get σ (O.list (vI (keys B.ls)))))
 by_cases q : us Y.rs = keys B.ls
 ·rw [decide_eq_true q] at q1 ⊢
  have e2 : c_is_up_to_date [.ref Y.v] (σ ++ [O.list (vI (keys B.ls))]) = some (.ref (σ ++ [O.list (vI (keys B.ls))]).length, (σ ++ [O.list (vI (keys B.ls))]) ++ [O.list []]) := by
   have := comp_letters hB1 kB (f := un1 (getA 327 5) (un1 (getA 105 0) (var 0))) (caps := [(0, Str.ofString "view")]) (t := tst (callL (consL (var 1) (consL (var 0) nilL)) f_is_stale)) (e := var 0) (ρ := [.ref Y.v]) (cv := [.ref Y.v])
    (fun _ => false) (fun x => .ref x.1) (h1.box hB1 (by simp only [MSX])) rfl (by
     intro x hx hl
     have hu : x.2.u ∈ us Y.rs := by rw [q]; exact List.mem_map.mpr ⟨x, hx, rfl⟩
     obtain ⟨r, hr⟩ := getr_some hu
     obtain ⟨hm, hru⟩ := getr_mem hr
     have st := is_stale_ok h1 hl hr (k.ok r hm) (kB.lo x hx).2.2.2
     have : stale Y.um r x.2 = false := by
      unfold stale
      have a := fr.fl x hx r hm hru
      cases c : Y.um with
      | false => simp [a]
      | true => have b := fr.ms c x hx r hm hru; simp [a, b]
     rw [this] at st
     simp only [MSX, st]) (by intro x _ _ c; cases c)
   rw [filter_false] at this
   exact this
  have n2 := new_get (σ ++ [O.list (vI (keys B.ls))]) (O.list [])
  have X2 : Ext [] ((σ ++ [O.list (vI (keys B.ls))]) ++ [O.list []]) (((σ ++ [O.list (vI (keys B.ls))]) ++ [O.list []]) ++ [O.list []]) := Ext.app _ _
  have q2 := opEq_of (eqB_nil (X2.get _ _ n2 (List.not_mem_nil)) (new_get ((σ ++ [O.list (vI (keys B.ls))]) ++ [O.list []]) (O.list [])))
  refine ⟨_, ?_, (X1.trans (Ext.app _ _)).trans X2⟩
  have b1 : isInst 327 (.ref B.b) σ = true := e_isInst hb
  simp only [List.length_append, List.length_cons, List.length_nil, Nat.reduceAdd, List.isEmpty_nil] at q2 e2
  simp only [f_is_up_to_date, f_is_up_to_date_body, MSX, h.vw, hb, e1, q1, e2, q2]
 ·rw [decide_eq_false q] at q1 ⊢
  refine ⟨_, ?_, X1⟩
  simp only [f_is_up_to_date, f_is_up_to_date_body, MSX, h.vw, hb, e1, q1]
theorem ga0 {s t : Hp} {a : O} : (s ++ a :: t)[s.length]? = some a := by rw [List.getElem?_append_right (Nat.le_refl _)]; simp
theorem ga1 {s t : Hp} {a b : O} : (s ++ a :: b :: t)[s.length + 1]? = some b := by rw [List.getElem?_append_right (om205)]; simp
theorem ga2 {s t : Hp} {a b c : O} : (s ++ a :: b :: c :: t)[s.length + 2]? = some c := by rw [List.getElem?_append_right (om206)]; simp
theorem ga3 {s t : Hp} {a b c d : O} : (s ++ a :: b :: c :: d :: t)[s.length + 3]? = some d := by rw [List.getElem?_append_right (om207)]; simp
theorem ga4 {s t : Hp} {a b c d e : O} : (s ++ a :: b :: c :: d :: e :: t)[s.length + 4]? = some e := by rw [List.getElem?_append_right (om208)]; simp
theorem ga5 {s t : Hp} {a b c d e f : O} : (s ++ a :: b :: c :: d :: e :: f :: t)[s.length + 5]? = some f := by rw [List.getElem?_append_right (om209)]; simp
theorem ga6 {s t : Hp} {a b c d e f g : O} : (s ++ a :: b :: c :: d :: e :: f :: g :: t)[s.length + 6]? = some g := by rw [List.getElem?_append_right (om210)]; simp
theorem k12 : kUID ≠ kFLAGS := by decide +kernel
theorem k13 : kUID ≠ kMODSEQ := by decide +kernel
theorem k23 : kFLAGS ≠ kMODSEQ := by decide +kernel
noncomputable def namesL (um uv : Bool) : List Str := (if um || uv then [kUID] else []) ++ [kFLAGS] ++ (if um then [kMODSEQ] else [])
theorem okS_names (um uv : Bool) : okS (namesL um uv) := by cases um <;> cases uv <;> exact ⟨by decide, by unfold namesL; decide +kernel⟩
theorem z10 : ¬ ((1 : Int) = 0) := by decide
theorem or_v {f g : Fn} {ρ : Loc} {σ : Hp} {a b : Bool} (h : f ρ σ = some (.bool a, σ)) (k : g ρ σ = some (.bool b, σ)) : orV f g ρ σ = some (.bool (a || b), σ) := e_orV h (by cases a; exact k; rfl)
theorem bInt_b {b : Bool} {σ : Hp} : bInt [.bool b] σ = some (.int (if b then 1 else 0), σ) := by cases b <;> rfl
theorem mul_b {n : Nat} {b : Bool} {σ : Hp} {xs : List V} (h : σ[n]? = some (.list xs)) (hl : xs.length ≤ big) : opMul (.ref n) (.int (if b then 1 else 0)) σ = some (.ref σ.length, σ ++ [.list (if b then xs else [])]) := by
 unfold opMul; rw [onIR_b, onInt_c, lst_of h, Option.bind_some]; cases b
 ·rfl
 ·show (if (1 : Int) = 0 then _ else if (1 : Int) = 1 ∧ xs.length ≤ big then _ else _) = _
  rw [if_neg (by decide), if_pos ⟨rfl, hl⟩]; rfl
theorem add_l {n m : Nat} {σ : Hp} {xs ys : List V} (h : σ[n]? = some (.list xs)) (k : σ[m]? = some (.list ys)) (hl : xs.length + ys.length ≤ big) : opAdd (.ref n) (.ref m) σ = some (.ref σ.length, σ ++ [.list (xs ++ ys)]) := by
 unfold opAdd; rw [onIR_b, onRef_c, lst_of h, lst_of k]; exact if_pos hl
theorem one_l {x : Str} {ρ : Loc} {σ : Hp} : mkList (consL (cStr x) nilL) ρ σ = some (.ref σ.length, σ ++ [.list [.str x]]) := e_mkList (e_consL e_cStr e_nilL) (Nat.le_of_ble_eq_true rfl)
theorem wanted_ok {s : Hp} {ρ : Loc} {v : Nat} {b ro : V} {um uv : Bool} {r : List V} (h1 : ρ[1]? = some (.ref v)) (hv : s[v]? = some (.inst 105 (b :: ro :: .bool um :: .bool uv :: r))) :
  ∃ n s', (bin2 opAdd (bin2 opAdd (bin2 opMul (mkList (consL (cStr (Str.ofString "UID")) nilL)) (callL (consL (orV (un1 (getA 105 2) (var 1)) (un1 (getA 105 3) (var 1))) nilL) bInt)) (mkList (consL (cStr (Str.ofString "FLAGS")) nilL))) (bin2 opMul (mkList (consL (cStr (Str.ofString "MODSEQ")) nilL)) (callL (consL (un1 (getA 105 2) (var 1)) nilL) bInt))) ρ s = some (.ref n, s') ∧
   Ext [] s s' ∧ s'[n]? = some (.list (vS (namesL um uv))) := by
 have at2 : ∀ {t : Hp}, t[v]? = some (.inst 105 (b :: ro :: .bool um :: .bool uv :: r)) → un1 (getA 105 2) (var 1) ρ t = some (.bool um, t) := fun h => e_at (e_var h1 rfl) h rfl
 have at3 : ∀ {t : Hp}, t[v]? = some (.inst 105 (b :: ro :: .bool um :: .bool uv :: r)) → un1 (getA 105 3) (var 1) ρ t = some (.bool uv, t) := fun h => e_at (e_var h1 rfl) h rfl
 have h2 := old_get (t := [O.list [.str (Str.ofString "UID")]]) hv
 have h3 := old_get (t := [O.list (if um || uv then [.str (Str.ofString "UID")] else [])]) h2
 have h4 := old_get (t := [O.list [.str (Str.ofString "FLAGS")]]) h3
 have h5 := old_get (t := [O.list ((if um || uv then [.str (Str.ofString "UID")] else []) ++ [.str (Str.ofString "FLAGS")])]) h4
 have h6 := old_get (t := [O.list [.str (Str.ofString "MODSEQ")]]) h5
 refine ⟨_, _, e_bin2 (e_bin2 (e_bin2 one_l (e_callL (e_consL (or_v (at2 h2) (at3 h2)) e_nilL) bInt_b) (mul_b (new_get _ _) (Nat.le_of_ble_eq_true rfl))) one_l (add_l (old_get (new_get _ _)) (new_get _ _) ?_)) (e_bin2 one_l (e_callL (e_consL (at2 h6) e_nilL) bInt_b) (mul_b (new_get _ _) (Nat.le_of_ble_eq_true rfl))) (add_l (old_get (old_get (new_get _ _))) (new_get _ _) ?_), ?_, ?_⟩
 ·cases um || uv <;> exact Nat.le_of_ble_eq_true rfl
 ·cases um <;> cases uv <;> exact Nat.le_of_ble_eq_true rfl
 ·exact ((((((Ext.app _ _).trans (Ext.app _ _)).trans (Ext.app _ _)).trans (Ext.app _ _)).trans (Ext.app _ _)).trans (Ext.app _ _)).trans (Ext.app _ _)
 ·rw [new_get]; cases um <;> cases uv <;> rfl
theorem dict_of_pairs {s : Hp} {pr m p : Nat} {um uv : Bool} {l : Lt} (h : s[pr]? = some (.list (pairsV um uv l m p))) :
  ∃ es, bDict [.ref pr] s = some (.ref s.length, s ++ [O.sdict es]) ∧ es.lookup kFLAGS = some (.ref m) := by
 have e12 : (kUID == kFLAGS) = false := by simpa using k12
 have e21 : (kFLAGS == kUID) = false := by simpa using k12.symm
 have n12 := k12
 have n13 := k13
 have n23 := k23
 have ff : (kFLAGS == kFLAGS) = true := by rfl
 cases um <;> cases uv
 ·refine ⟨[(kFLAGS, .ref m)], ?_, by rfl⟩
  simp only [bDict, MSX, h, pairsV, Bool.or_self, List.mapM_cons, List.mapM_nil, pairI, pairS, Option.pure_def, Option.bind_eq_bind, List.foldl_cons, List.foldl_nil, dput, List.any_nil]
 ·refine ⟨[(kUID, .int l.u), (kFLAGS, .ref m)], ?_, by simp only [List.lookup_cons, e21, ff]⟩
  simp only [bDict, MSX, h, pairsV, Bool.or_self, Bool.or_true, List.mapM_cons, List.mapM_nil, pairI, pairS, Option.pure_def, Option.bind_eq_bind, List.foldl_cons, List.foldl_nil, dput, List.any_nil, List.any_cons, n12, Bool.or_false]
 ·refine ⟨[(kUID, .int l.u), (kFLAGS, .ref m), (kMODSEQ, .ref p)], ?_, by simp only [List.lookup_cons, e21, ff]⟩
  simp only [bDict, MSX, h, pairsV, Bool.or_self, Bool.true_or, List.mapM_cons, List.mapM_nil, pairI, pairS, Option.pure_def, Option.bind_eq_bind, List.foldl_cons, List.foldl_nil, dput, List.any_nil, List.any_cons, n12, n13, n23, Bool.or_false]
 ·refine ⟨[(kUID, .int l.u), (kFLAGS, .ref m), (kMODSEQ, .ref p)], ?_, by simp only [List.lookup_cons, e21, ff]⟩
  simp only [bDict, MSX, h, pairsV, Bool.or_self, Bool.true_or, List.mapM_cons, List.mapM_nil, pairI, pairS, Option.pure_def, Option.bind_eq_bind, List.foldl_cons, List.foldl_nil, dput, List.any_nil, List.any_cons, n12, n13, n23, Bool.or_false]
noncomputable def prL (um uv : Bool) (l : Lt) (m p : Nat) : List (Str × V) := (if um || uv then [(kUID, V.int l.u)] else []) ++ [(kFLAGS, .ref m)] ++ (if um then [(kMODSEQ, .ref p)] else [])
theorem prL_pairs (um uv : Bool) (l : Lt) (m p : Nat) : pairsV um uv l m p = (prL um uv l m p).map fun x => V.tup [.str x.1, x.2] := by cases um <;> cases uv <;> rfl
theorem prL_names (um uv : Bool) (l : Lt) (m p : Nat) : (prL um uv l m p).map (fun x => V.str x.1) = vS (namesL um uv) := by cases um <;> cases uv <;> rfl
theorem prL_len (um uv : Bool) (l : Lt) (m p : Nat) : (prL um uv l m p).length ≤ 3 := by cases um <;> cases uv <;> simp [prL]
theorem set_len {s : Hp} {a : Nat} {o : O} : (s.set a o).length = s.length := by exact List.length_set
inductive fetch_arm_O (s : Hp) (b : Nat) (v : Nat) (C : Nat) (A : Nat) (n : Nat) (a : Nat) (i : Nat) (st : V) (lt : V) (um : Bool) (l : Lt) (u : Int) (ms : Int) (val : Option (Fl × Mine.Loc × Hp)) : Prop
 | mk (s' : Hp) (f' : Nat) (x7 : V) (x8 : V) (x9 : V) (x10 : V) (x11 : V) (x12 : V) (x13 : V) (_ : val = some (.next, [.ref b, .ref v, .ref C, .ref A, st, .tup [.str kFetch, .int ((i : Int) + 1), .ref n], lt, x7, x8, x9, x10, x11, x12, x13], s')) (_ : Ext [a] s s') (_ : s.length ≤ f') (_ : s'[a]? = some (.list [.int u, .ref f', .int (if um then l.ms else ms)])) (_ : s'[f']? = some (.list (vS l.fl))) : fetch_arm_O s b v C A n a i st lt um l u ms val
theorem fetch_arm {s : Hp} {b v C A n m p a f i : Nat} {bx ro U F M st lt y7 y8 y9 y10 y11 y12 y13 : V} {az : List (Nat × Str)} {lo hi : Nat} {um uv : Bool} {l : Lt} {cs : List V} {u ms : Int} {fl : List Str}
  (hvw : s[v]? = some (.inst 105 [bx, ro, .bool um, .bool uv, U, F, M])) (hP : PairsAt s lo hi n m p az um uv l) (hC : s[C]? = some (.list cs)) (hci : cs[i]? = some (.ref a)) (hi9 : i ≤ 900)
  (hrow : s[a]? = some (.list [.int u, .ref f, .int ms])) (hfl : s[f]? = some (.list (vS fl))) (hu : l.u = u) (ofl : okS fl) (ol : okS l.fl) (hst : um = false → fl ≠ l.fl) (hms : um = true → ms ≠ l.ms) (halo : a < lo) : fetch_arm_O s b v C A n a i st lt um l u ms (i_law_taken5 [.ref b, .ref v, .ref C, .ref A, st, .tup [.str kFetch, .int ((i : Int) + 1), .ref n], lt, y7, y8, y9, y10, y11, y12, y13] s) := by
 have len1 : (pairsV um uv l m p).length ≤ big := by rw [prL_pairs, List.length_map]; have := prL_len um uv l m p; unfold big; exact om211 this
 have c1 : opItem (.ref C) (.int (((i : Int) + 1) - 1)) s = some (.ref a, s) := by
  rw [show ((i : Int) + 1) - 1 = (i : Int) by exact om212]
  exact item_list hC (idx_nat hci (om112 hi9))
 have a1 : opItem (.tup [.str kFetch, .int ((i : Int) + 1), .ref n]) (.int 1) s = some (.int ((i : Int) + 1), s) := item_tup idx_1 big3
 have a2 : opItem (.tup [.str kFetch, .int ((i : Int) + 1), .ref n]) (.int 2) s = some (.ref n, s) := item_tup idx_2 big3
 have X1 : Ext [] s (s ++ [O.list (pairsV um uv l m p)]) := Ext.app _ _
 have p1 := new_get s (O.list (pairsV um uv l m p))
 have l1 : (s ++ [O.list (pairsV um uv l m p)]).length = s.length + 1 := by exact len_app
 generalize hs1 : s ++ [O.list (pairsV um uv l m p)] = s1 at *
 have e2 : c_law_taken [.ref b, .ref v, .ref C, .ref A, st, .tup [.str kFetch, .int ((i : Int) + 1), .ref n], lt, .ref a, .ref s.length, y9, y10, y11, y12, y13] s1 = some (.ref s1.length, s1 ++ [O.list (vS (namesL um uv))]) := by
  have := comp_pairs (mk := mkV (var 8)) (src := .list s.length) (σ := s1) (σ0 := s1) (e := var 0) (ρ := [.ref b, .ref v, .ref C, .ref A, st, .tup [.str kFetch, .int ((i : Int) + 1), .ref n], lt, .ref a, .ref s.length, y9, y10, y11, y12, y13]) (xs := prL um uv l m p) (g := fun x => V.str x.1) (g' := fun x => x.2) (N := 1000) (fun x => V.str x.1)
   (by simp only [MSX, p1]) (fun j => by rw [nxt_list p1, prL_pairs]) (by have := prL_len um uv l m p; exact om213 this) (by intro x _; simp only [MSX])
  rw [prL_names] at this
  exact this
 have X2 : Ext [] s1 (s1 ++ [O.list (vS (namesL um uv))]) := Ext.app _ _
 have p2 := new_get s1 (O.list (vS (namesL um uv)))
 generalize hn2 : s1.length = n2 at *
 generalize hs2 : s1 ++ [O.list (vS (namesL um uv))] = s2 at *
 have XX2 := X1.trans X2
 obtain ⟨n3, s3, e3, X3, p3⟩ := wanted_ok (ρ := [.ref b, .ref v, .ref C, .ref A, st, .tup [.str kFetch, .int ((i : Int) + 1), .ref n], lt, .ref a, .ref s.length, .ref n2, y10, y11, y12, y13]) rfl (XX2.get _ _ hvw (List.not_mem_nil))
 have XX3 := XX2.trans X3
 have p23 := X3.get _ _ p2 (List.not_mem_nil)
 have p13 := (X2.trans X3).get _ _ p1 (List.not_mem_nil)
 have row3 := XX3.get _ _ hrow (List.not_mem_nil)
 have t1 := opNe_of (eqB_strs p23 p3 (okS_names um uv) (okS_names um uv))
 rw [decide_eq_true rfl] at t1
 have t2 := opIn_of (inB_strs p23 (okS_names um uv) (show PyData.strOk kUID = true by decide +kernel))
 have t3 : opNe (.int l.u) (.int u) s3 = some (.bool false, s3) := by
  have := opNe_of (σ := s3) (eqB_int (σ := s3) l.u u)
  rw [decide_eq_true hu] at this; exact this
 have t4 : opItem (.ref a) (.int 0) s3 = some (.int u, s3) := item_list row3 idx_0
 have cond : (orT (tst (bin2 opNe (var 9) (var 10))) (andT (tst (bin2 opIn (cStr (Str.ofString "UID")) (var 9))) (tst (bin2 opNe (bin2 opItem (bin2 opItem (var 8) (cInt 0)) (cInt 1)) (bin2 opItem (var 7) (cInt 0)))))) [.ref b, .ref v, .ref C, .ref A, st, .tup [.str kFetch, .int ((i : Int) + 1), .ref n], lt, .ref a, .ref s.length, .ref n2, .ref n3, y11, y12, y13] s3 = some (false, s3) := by
  have u1 : Str.ofString "UID" = kUID := rfl
  by_cases q : kUID ∈ namesL um uv
  ·rw [decide_eq_true q] at t2
   have hb : (um || uv) = true := by
    cases um <;> cases uv <;> first | rfl | (exfalso; simp [namesL] at q; exact k12 q)
   have i1 : opItem (.ref s.length) (.int 0) s3 = some (.tup [.str kUID, .int l.u], s3) := by
    refine item_list p13 ?_
    unfold pairsV; rw [hb]; rfl
   have i2 : opItem (.tup [.str kUID, .int l.u]) (.int 1) s3 = some (.int l.u, s3) := item_tup idx_1 big2
   simp only [MSX, u1, t1, t2, i1, i2, t4, t3]
  ·rw [decide_eq_false q] at t2
   simp only [MSX, u1, t1, t2]
 obtain ⟨es, e4, k4⟩ := dict_of_pairs p13
 have X4 : Ext [] s3 (s3 ++ [O.sdict es]) := Ext.app _ _
 have d4 := new_get s3 (O.sdict es)
 have mk4 : (mkV (bin2 opItem (callL (consL (var 8) nilL) bDict) (cStr (Str.ofString "FLAGS")))) [.ref b, .ref v, .ref C, .ref A, st, .tup [.str kFetch, .int ((i : Int) + 1), .ref n], lt, .ref a, .ref s.length, .ref n2, .ref n3, y11, y12, y13] s3 = some (.list m, s3 ++ [O.sdict es]) := by
  have u2 : Str.ofString "FLAGS" = kFLAGS := rfl
  have it : opItem (.ref s3.length) (.str kFLAGS) (s3 ++ [O.sdict es]) = some (.ref m, s3 ++ [O.sdict es]) := by
   unfold opItem; simp only [onTR_a, onTR_b, onIS_a, onIS_b, onInt_c, onLD_a, onLD_b, onSd_c, d4, k4, Option.map_some]
  have hm := (XX3.trans X4).get _ _ hP.gm (List.not_mem_nil)
  simp only [MSX, u2, e4, it, hm]
 generalize hs4 : s3 ++ [O.sdict es] = s4 at *
 have XX4 := XX3.trans X4
 have e5 : c_law_taken2 [.ref b, .ref v, .ref C, .ref A, st, .tup [.str kFetch, .int ((i : Int) + 1), .ref n], lt, .ref a, .ref s.length, .ref n2, .ref n3, y11, y12, y13] s3 = some (.ref s4.length, s4 ++ [O.list (vS l.fl)]) := by
  have hm := XX4.get _ _ hP.gm (List.not_mem_nil)
  have azl : az.length ≤ 10 := by have := congrArg List.length hP.fl; rw [List.length_map] at this; rw [this]; exact ol.1
  have := comp_all (cv := []) (caps := []) (e := un1 (getA 52 0) (var 0)) (xs := az) (g := fun z => V.ref z.1) (N := 1000) (fun z => V.str z.2) mk4 (fun j => nxt_list hm j) (om137 azl) rfl
   (by intro z hz; have := XX4.get _ _ (hP.at_ z hz) (List.not_mem_nil); simp only [MSX, this])
  rw [show az.map (fun z => V.str z.2) = vS l.fl by rw [← hP.fl]; simp [vS]] at this
  exact this
 have X5 : Ext [] s4 (s4 ++ [O.list (vS l.fl)]) := Ext.app _ _
 have p5 := new_get s4 (O.list (vS l.fl))
 generalize hf : s4.length = f' at *
 generalize hs5 : s4 ++ [O.list (vS l.fl)] = s5 at *
 have XX5 := XX4.trans X5
 have lef : s.length ≤ f' := by rw [← hf]; exact XX4.le
 have row5 := XX5.get _ _ hrow (List.not_mem_nil)
 have fl5 := XX5.get _ _ hfl (List.not_mem_nil)
 have vw5 := XX5.get _ _ hvw (List.not_mem_nil)
 have alt : a < s.length := lt_of_get hrow
 have naf : a ≠ f' := by exact om171 lef alt
 have t5 := opEq_of (eqB_strs p5 fl5 ol ofl)
 have t6 : opItem (.ref a) (.int 1) s5 = some (.ref f, s5) := item_list row5 idx_1
 have cond2 : (andT (tst (bin2 opEq (var 11) (bin2 opItem (var 7) (cInt 1)))) (notT (tst (un1 (getA 105 2) (var 1))))) [.ref b, .ref v, .ref C, .ref A, st, .tup [.str kFetch, .int ((i : Int) + 1), .ref n], lt, .ref a, .ref s.length, .ref n2, .ref n3, .ref f', y12, y13] s5 = some (false, s5) := by
  cases hum : um with
  | false =>
   have q : ¬ (l.fl = fl) := fun c => hst hum c.symm
   rw [decide_eq_false q] at t5
   simp only [MSX, t6, t5]
  | true =>
   rw [hum] at vw5
   by_cases q : l.fl = fl
   ·rw [decide_eq_true q] at t5
    simp only [MSX, t6, t5, vw5]
   ·rw [decide_eq_false q] at t5
    simp only [MSX, t6, t5]
 have X6 : Ext [a] s5 (s5.set a (O.list [.int u, .ref f', .int ms])) := Ext.set _ _ _
 have row6 := set_get (o' := O.list [.int u, .ref f', .int ms]) row5
 have vw6 := X6.get _ _ vw5 (by simp; intro q; subst q; rw [hrow] at hvw; cases hvw)
 have f6 := X6.get _ _ p5 (by simpa using Ne.symm naf)
 generalize hs6 : s5.set a (O.list [.int u, .ref f', .int ms]) = s6 at *
 have pro : i_law_taken5 [.ref b, .ref v, .ref C, .ref A, st, .tup [.str kFetch, .int ((i : Int) + 1), .ref n], lt, y7, y8, y9, y10, y11, y12, y13] s =
   (sIf (tst (un1 (getA 105 2) (var 1))) i_law_taken sNil) [.ref b, .ref v, .ref C, .ref A, st, .tup [.str kFetch, .int ((i : Int) + 1), .ref n], lt, .ref a, .ref s.length, .ref n2, .ref n3, .ref f', y12, y13] s6 := by
  have q1 : (sAsg (mkTup (consL (bin2 opItem (var 2) (bin2 opSub (bin2 opItem (var 5) (cInt 1)) (cInt 1))) (consL (callL (consL (bin2 opItem (var 5) (cInt 2)) nilL) bList) nilL))) (swA 7 8)) [.ref b, .ref v, .ref C, .ref A, st, .tup [.str kFetch, .int ((i : Int) + 1), .ref n], lt, y7, y8, y9, y10, y11, y12, y13] s = some (.next, [.ref b, .ref v, .ref C, .ref A, st, .tup [.str kFetch, .int ((i : Int) + 1), .ref n], lt, .ref a, .ref s.length, y9, y10, y11, y12, y13], s1) := by
   simp only [bList, MSX, a1, a2, c1, hP.gn, len1, hs1]
  have q2 : (sAsg c_law_taken (stA 9)) [.ref b, .ref v, .ref C, .ref A, st, .tup [.str kFetch, .int ((i : Int) + 1), .ref n], lt, .ref a, .ref s.length, y9, y10, y11, y12, y13] s1 = some (.next, [.ref b, .ref v, .ref C, .ref A, st, .tup [.str kFetch, .int ((i : Int) + 1), .ref n], lt, .ref a, .ref s.length, .ref n2, y10, y11, y12, y13], s2) := by
   simp only [MSX, e2]
  have q3 : (sAsg (bin2 opAdd (bin2 opAdd (bin2 opMul (mkList (consL (cStr (Str.ofString "UID")) nilL)) (callL (consL (orV (un1 (getA 105 2) (var 1)) (un1 (getA 105 3) (var 1))) nilL) bInt)) (mkList (consL (cStr (Str.ofString "FLAGS")) nilL))) (bin2 opMul (mkList (consL (cStr (Str.ofString "MODSEQ")) nilL)) (callL (consL (un1 (getA 105 2) (var 1)) nilL) bInt))) (stA 10)) [.ref b, .ref v, .ref C, .ref A, st, .tup [.str kFetch, .int ((i : Int) + 1), .ref n], lt, .ref a, .ref s.length, .ref n2, y10, y11, y12, y13] s2 = some (.next, [.ref b, .ref v, .ref C, .ref A, st, .tup [.str kFetch, .int ((i : Int) + 1), .ref n], lt, .ref a, .ref s.length, .ref n2, .ref n3, y11, y12, y13], s3) := by
   unfold sAsg; rw [e3]; rfl
  have q4 : (sIf (orT (tst (bin2 opNe (var 9) (var 10))) (andT (tst (bin2 opIn (cStr (Str.ofString "UID")) (var 9))) (tst (bin2 opNe (bin2 opItem (bin2 opItem (var 8) (cInt 0)) (cInt 1)) (bin2 opItem (var 7) (cInt 0)))))) (sRet (cBool false)) sNil) [.ref b, .ref v, .ref C, .ref A, st, .tup [.str kFetch, .int ((i : Int) + 1), .ref n], lt, .ref a, .ref s.length, .ref n2, .ref n3, y11, y12, y13] s3 = some (.next, [.ref b, .ref v, .ref C, .ref A, st, .tup [.str kFetch, .int ((i : Int) + 1), .ref n], lt, .ref a, .ref s.length, .ref n2, .ref n3, y11, y12, y13], s3) := by unfold sIf; rw [cond]; rfl
  have q6 : (sIf (andT (tst (bin2 opEq (var 11) (bin2 opItem (var 7) (cInt 1)))) (notT (tst (un1 (getA 105 2) (var 1))))) (sRet (cBool false)) sNil) [.ref b, .ref v, .ref C, .ref A, st, .tup [.str kFetch, .int ((i : Int) + 1), .ref n], lt, .ref a, .ref s.length, .ref n2, .ref n3, .ref f', y12, y13] s5 = some (.next, [.ref b, .ref v, .ref C, .ref A, st, .tup [.str kFetch, .int ((i : Int) + 1), .ref n], lt, .ref a, .ref s.length, .ref n2, .ref n3, .ref f', y12, y13], s5) := by unfold sIf; rw [cond2]; rfl
  have q5 : (sAsg c_law_taken2 (stA 11)) [.ref b, .ref v, .ref C, .ref A, st, .tup [.str kFetch, .int ((i : Int) + 1), .ref n], lt, .ref a, .ref s.length, .ref n2, .ref n3, y11, y12, y13] s3 = some (.next, [.ref b, .ref v, .ref C, .ref A, st, .tup [.str kFetch, .int ((i : Int) + 1), .ref n], lt, .ref a, .ref s.length, .ref n2, .ref n3, .ref f', y12, y13], s5) := by
   simp only [MSX, e5]
  have q7 : (sAsg (var 11) (subA (var 7) (cInt 1) opSet)) [.ref b, .ref v, .ref C, .ref A, st, .tup [.str kFetch, .int ((i : Int) + 1), .ref n], lt, .ref a, .ref s.length, .ref n2, .ref n3, .ref f', y12, y13] s5 = some (.next, [.ref b, .ref v, .ref C, .ref A, st, .tup [.str kFetch, .int ((i : Int) + 1), .ref n], lt, .ref a, .ref s.length, .ref n2, .ref n3, .ref f', y12, y13], s6) := by
   have : opSet (.ref a) (.int 1) (.ref f') s5 = some s6 := by
    unfold opSet; rw [onRef_c, onInt_c, row5, ← hs6]; rfl
   simp only [MSX, this]
  unfold i_law_taken5
  rw [sc q1, sc q2, sc q3, sc q4, sc q5, sc q6, sc q7]
 rw [pro]
 have XX6 : Ext [a] s s6 := XX5.nil.trans X6
 cases hum : um with
 | false =>
  rw [hum] at vw6
  exact ⟨s6, f', .ref a, .ref s.length, .ref n2, .ref n3, .ref f', y12, y13, by simp only [MSX, vw6], XX6, lef, by simpa using row6, f6⟩
 | true =>
  rw [hum] at vw6 hP p13
  have hpl := hP.bp rfl
  have alen : a < lo := halo
  have X7 : Ext [] s6 (s6 ++ [O.list [.int ms]]) := Ext.app _ _
  have p7 := new_get s6 (O.list [V.int ms])
  have pp6 : s6[p]? = some (.list (vI [l.ms])) := XX6.get _ _ (hP.gp rfl) (by simp; exact om214 halo hpl)
  have pr6 : s6[s.length]? = some (.list (pairsV true uv l m p)) := (X4.trans X5).nil.trans X6 |>.get _ _ p13 (by simp; exact om183 alt)
  have i1 : ∀ t : Hp, opItem (.ref s.length) (.int (-1)) (s6 ++ t) = some (.tup [.str kMODSEQ, .ref p], s6 ++ t) := fun t => by
   refine item_list (old_get pr6) ?_
   cases uv <;> rfl
  have i1' := i1 []
  rw [List.append_nil] at i1'
  have i2 : ∀ t : Hp, opItem (.tup [.str kMODSEQ, .ref p]) (.int 1) t = some (.ref p, t) := fun t => item_tup idx_1 big2
  have i3 : opItem (.ref a) (.int 2) s6 = some (.int ms, s6) := item_list row6 idx_2
  have t7 := opEq_of (eqB_ints (is := [l.ms]) (js := [ms]) (X7.get _ _ pp6 (List.not_mem_nil)) p7)
  rw [decide_eq_false (by intro c; exact hms hum (by simpa using c.symm))] at t7
  have i4 : opItem (.ref p) (.int 0) (s6 ++ [O.list [.int ms]]) = some (.int l.ms, s6 ++ [O.list [.int ms]]) := item_list (X7.get _ _ pp6 (List.not_mem_nil)) idx_0
  have row7 := X7.get _ _ row6 (List.not_mem_nil)
  have st7 : opSet (.ref a) (.int 2) (.int l.ms) (s6 ++ [O.list [.int ms]]) = some ((s6 ++ [O.list [.int ms]]).set a (O.list [.int u, .ref f', .int l.ms])) := by
   unfold opSet; rw [onRef_c, onInt_c, row7]; rfl
  refine ⟨(s6 ++ [O.list [.int ms]]).set a (O.list [.int u, .ref f', .int l.ms]), f', .ref a, .ref s.length, .ref n2, .ref n3, .ref f', y12, y13, ?_, (XX6.trans X7.nil).trans (Ext.set _ _ _), lef, by simpa using set_get row7, (Ext.set _ _ _).get _ _ (X7.get _ _ f6 (List.not_mem_nil)) (by simpa using Ne.symm naf)⟩
  simp only [i_law_taken, MSX, vw6, i1, i1', i2, i3, t7, i4, st7]
noncomputable abbrev Rw := Nat × Nat × Lt
noncomputable def RowAt (σ : Hp) (w : Rw) : Prop := σ[w.1]? = some (.list [.int w.2.2.u, .ref w.2.1, .int w.2.2.ms]) ∧ σ[w.2.1]? = some (.list (vS w.2.2.fl))
noncomputable def rrefs (ws : List Rw) : List V := ws.map fun w => V.ref w.1
noncomputable def ru (ws : List Rw) : List Int := ws.map fun w => w.2.2.u
structure CpOk (ws : List Rw) : Prop where
 nd : (ws.map (·.1)).Nodup
 fl : ∀ w ∈ ws, ∀ w' ∈ ws, w.2.1 ≠ w'.1
theorem RowAt.ext {W : List Nat} {σ σ' : Hp} {w : Rw} (h : RowAt σ w) (x : Ext W σ σ') (h1 : w.1 ∉ W) (h2 : w.2.1 ∉ W) : RowAt σ' w := ⟨x.get _ _ h.1 h1, x.get _ _ h.2 h2⟩
theorem RowAt.ext0 {σ σ' : Hp} {w : Rw} (h : RowAt σ w) (x : Ext [] σ σ') : RowAt σ' w := h.ext x (List.not_mem_nil) (List.not_mem_nil)
inductive rows_comp_O (σ : Hp) (B : Bx) (f : Fn) (caps : List (Nat × Str)) (t : Mine.Loc → Hp → Option (Bool × Hp)) (ρ : Mine.Loc) (p : Lt → Bool) : Prop
 | mk (nws : List Rw) (σ' : List O) (_ : cComp (mkV f) 1 caps (stA 0) t (mkList (consL (un1 (getA 289 0) (var 0)) (consL (callL (consL (un1 (getA 289 2) (var 0)) nilL) bList) (consL (un1 (getA 289 4) (var 0)) nilL)))) 1000 ρ σ = some (.ref σ'.length, σ' ++ [O.list (rrefs nws)])) (_ : Ext [] σ σ') (_ : nws.map (·.2.2) = (B.ls.filter fun x => p x.2).map (·.2)) (_ : CpOk nws) (_ : ∀ w ∈ nws, RowAt σ' w ∧ σ.length ≤ w.1 ∧ σ.length ≤ w.2.1) : rows_comp_O σ B f caps t ρ p
inductive KI (B : Bx) (σ : Hp) (p : Lt → Bool) (i : Nat) (ys : List V) (s : Hp) : Prop
 | mk (_ : Ext [] σ s) (nws : List Rw) (_ : ys = rrefs nws) (_ : nws.map (·.2.2) = ((B.ls.take i).filter fun x => p x.2).map (·.2)) (_ : CpOk nws) (_ : ∀ w ∈ nws, RowAt s w ∧ σ.length ≤ w.1 ∧ σ.length ≤ w.2.1) : KI B σ p i ys s
theorem rows_comp {σ : Hp} {B : Bx} (h : BxAt σ B) (k : BxOk B) {f : Fn} {caps : List (Nat × Str)} {t : Loc → Hp → Option (Bool × Hp)} {ρ : Loc} {cv : List V} (p : Lt → Bool)
  (hf : f ρ σ = some (.ref B.L, σ)) (hc : (caps.map fun c => ρ[c.1]?.getD .undef) = cv)
  (ht : ∀ x ∈ B.ls, ∀ s, Ext [] σ s → LtAt s x.1 x.2 → t (.ref x.1 :: cv) s = some (p x.2, s)) : rows_comp_O σ B f caps t ρ p := by
 have hn := k.n
 obtain ⟨ys, σ', e, X, nws, rfl, e2, ok, at_⟩ := comp1_run (mk := mkV f) (src := .list B.L) (caps := caps) (t := t) (e := mkList (consL (un1 (getA 289 0) (var 0)) (consL (callL (consL (un1 (getA 289 2) (var 0)) nilL) bList) (consL (un1 (getA 289 4) (var 0)) nilL)))) (xs := refs B.ls) (N := 1000) (ρ := ρ) (σ0 := σ) (σ := σ) (cv := cv)
  (fun i ys s => KI B σ p i ys s)
  (letters_src h hf) hc ⟨Ext.refl _ _, [], rfl, by rfl, ⟨by simp, by simp⟩, by simp⟩ (fun i ys s _ ⟨X, _, _, _, _, _⟩ => nxt_list (X.get _ _ h.L (List.not_mem_nil)) i) (by simp [refs]; exact om125 hn) (by
   rintro i x ys s hx ⟨X, nws, rfl, e2, ok, at_⟩
   obtain ⟨z, hz, rfl⟩ : ∃ z, B.ls[i]? = some z ∧ x = V.ref z.1 := by
    simp only [refs, List.getElem?_map, Option.map_eq_some_iff] at hx
    obtain ⟨z, h1, h2⟩ := hx; exact ⟨z, h1, h2.symm⟩
   have hmem : z ∈ B.ls := List.mem_of_getElem? hz
   have htk : B.ls.take (i + 1) = B.ls.take i ++ [z] := by rw [List.take_succ, hz]; rfl
   have hl := (h.lt z hmem).ext X (List.not_mem_nil)
   refine ⟨p z.2, s, ht z hmem s X hl, ?_⟩
   cases hp : p z.2 with
   | false => exact .inl ⟨rfl, X, nws, rfl, by rw [htk, e2]; simp [hp], ok, at_⟩
   | true =>
    obtain ⟨oc, ins, hl'⟩ := hl
    have X2 : Ext [] s (s ++ [O.list (vS z.2.fl)]) := Ext.app _ _
    have X3 : Ext [] (s ++ [O.list (vS z.2.fl)]) ((s ++ [O.list (vS z.2.fl)]) ++ [O.list [.int z.2.u, .ref s.length, .int z.2.ms]]) := Ext.app _ _
    have hl2 := X2.get _ _ hl' (List.not_mem_nil)
    have okf : (vS z.2.fl).length ≤ big := by have := (k.lo z hmem).2.2.2.1; simp [vS, big]; exact om215 this
    have le := X.le
    refine .inr ⟨rfl, .ref (s ++ [O.list (vS z.2.fl)]).length, (s ++ [O.list (vS z.2.fl)]) ++ [O.list [.int z.2.u, .ref s.length, .int z.2.ms]], ?_, (X.trans X2).trans X3, nws ++ [((s ++ [O.list (vS z.2.fl)]).length, s.length, z.2)], by simp [rrefs], ?_, ?_, ?_⟩
    ·have fvd : fv z.2.fl = .tup (vS z.2.fl) := rfl
     rw [fvd] at hl' hl2
     simp only [bList, MSX, hl', hl2, okf]
    ·rw [List.map_append, e2, htk]; simp [hp]
    ·have lts : ∀ w ∈ nws, w.1 < s.length ∧ w.2.1 < s.length := fun w hw => ⟨lt_of_get (at_ w hw).1.1, lt_of_get (at_ w hw).1.2⟩
     constructor
     ·rw [List.map_append, List.nodup_append]
      refine ⟨ok.nd, by simp, ?_⟩
      intro a ha b hb
      obtain ⟨w, hw, rfl⟩ := List.mem_map.mp ha
      simp at hb
      have := (lts w hw).1
      exact om216 hb this
     ·intro w hw w' hw'
      rcases List.mem_append.mp hw with c | c <;> rcases List.mem_append.mp hw' with d | d
      ·exact ok.fl w c w' d
      ·rw [List.mem_singleton.mp d]; have := (lts w c).2; simp; exact om217 this
      ·rw [List.mem_singleton.mp c]; have := (lts w' d).1; simp; exact om183 this
      ·rw [List.mem_singleton.mp c, List.mem_singleton.mp d]; simp
    ·intro w hw
     rcases List.mem_append.mp hw with c | c
     ·obtain ⟨a, b, d⟩ := at_ w c
      exact ⟨(a.ext0 X2).ext0 X3, b, d⟩
     ·rw [List.mem_singleton.mp c]
      exact ⟨⟨new_get _ _, X3.get _ _ (new_get _ _) (List.not_mem_nil)⟩, by simp; exact om84 le, by assumption⟩)
 refine ⟨nws, σ', e, X, ?_, ok, at_⟩
 rw [e2]
 congr 2
 simp [refs]
theorem row_item0 {s : Hp} {w : Rw} (h : RowAt s w) : opItem (.ref w.1) (.int 0) s = some (.int w.2.2.u, s) := item_list h.1 idx_0
theorem row_item1 {s : Hp} {w : Rw} (h : RowAt s w) : opItem (.ref w.1) (.int 1) s = some (.ref w.2.1, s) := item_list h.1 idx_1
theorem row_item2 {s : Hp} {w : Rw} (h : RowAt s w) : opItem (.ref w.1) (.int 2) s = some (.int w.2.2.ms, s) := item_list h.1 idx_2
theorem vI_ru (ws : List Rw) : ws.map (fun w => V.int w.2.2.u) = vI (ru ws) := by simp [vI, ru]
theorem copy_uids {s : Hp} {C : Nat} {ws : List Rw} {f : Fn} {ρ : Loc} (hC : s[C]? = some (.list (rrefs ws))) (hr : ∀ w ∈ ws, RowAt s w) (hn : ws.length ≤ 900) (hf : f ρ s = some (.ref C, s)) :
  cComp (mkV f) 1 [] (stA 0) tYes (bin2 opItem (var 0) (cInt 0)) 1000 ρ s = some (.ref s.length, s ++ [O.list (vI (ru ws))]) := by
 have := comp_all (mk := mkV f) (src := .list C) (σ := s) (σ0 := s) (caps := []) (cv := []) (e := bin2 opItem (var 0) (cInt 0)) (ρ := ρ) (xs := ws) (g := fun w => V.ref w.1) (N := 1000) (fun w => V.int w.2.2.u)
  (by simp only [MSX, hf, hC]) (fun i => nxt_list hC i) (om125 hn) rfl (by intro w hw; simp only [MSX, row_item0 (hr w hw)])
 rw [vI_ru] at this
 exact this
theorem expunge_arm {s : Hp} {b v C A i : Nat} {bx ro U F M um st lt y7 y8 y9 y10 y11 y12 y13 : V} {cs : List V}
  (hvw : s[v]? = some (.inst 105 [bx, ro, um, .bool false, U, F, M])) (hC : s[C]? = some (.list cs)) (hi : i < cs.length) (hl : cs.length ≤ 900) :
  ∃ s', i_law_taken4 [.ref b, .ref v, .ref C, .ref A, st, exV i, lt, y7, y8, y9, y10, y11, y12, y13] s = some (.next, [.ref b, .ref v, .ref C, .ref A, st, exV i, lt, y7, y8, y9, y10, y11, y12, y13], s') ∧
   Ext [C] s s' ∧ s'[C]? = some (.list (cs.eraseIdx i)) := by
 have X1 : Ext [] s (s ++ [O.list []]) := Ext.app _ _
 have hC1 := X1.get _ _ hC (List.not_mem_nil)
 have n1 := new_get s (O.list [])
 have a1 : opItem (exV i) (.int 1) (s ++ [O.list []]) = some (.int ((i : Int) + 1), s ++ [O.list []]) := item_tup idx_1 big2
 have hne : C ≠ s.length := ne_of_new hC
 have cut : opCut (.ref C) (.int (((i : Int) + 1) - 1)) (.int ((i : Int) + 1)) (.ref s.length) (s ++ [O.list []]) = some ((s ++ [O.list []]).set C (.list (cs.eraseIdx i))) := by
  unfold opCut
  have hb : cs.length ≤ big := by unfold big; exact om126 hl
  have cnd : 0 ≤ ((i : Int) + 1) - 1 ∧ ((i : Int) + 1) - 1 ≤ (i : Int) + 1 ∧ (i : Int) + 1 ≤ (cs.length : Int) ∧ cs.length + ([] : List V).length ≤ big ∧ refOf (.ref s.length) ≠ some C := by
   refine ⟨om218, om219, om220 hi, hb, ?_⟩
   exact fun c => hne (Option.some.inj c).symm
  rw [onRef_c, lst_of hC1, lst_of n1]
  show (if _ then _ else _) = _
  rw [if_pos cnd]
  rw [show (((i : Int) + 1) - 1).toNat = i by exact om221, show ((i : Int) + 1).toNat = i + 1 by exact om222, List.append_nil, ← List.eraseIdx_eq_take_drop_succ]
 refine ⟨(s ++ [O.list []]).set C (.list (cs.eraseIdx i)), ?_, X1.nil.trans (Ext.set _ _ _), set_get hC1⟩
 unfold exV at a1 ⊢
 simp only [i_law_taken4, cutA, MSX, hvw, a1, cut]
theorem comp2_run {rgs : List (Int × Int)} {σ : Hp} {ρ : Loc} {N : Nat} (hb : ∀ r ∈ rgs, -1000000 ≤ r.1 ∧ r.1 ≤ 1000000 ∧ -1000000 ≤ r.2 ∧ r.2 ≤ 1000000) (hN : rgs.length < N) (hs : ∀ r ∈ rgs, (rng r.1 r.2).length ≤ 900) :
  ∀ (m i k : Nat) (x y z : V), i + m = rgs.length → m < k → compGo2 (.tup (rgs.map rgV)) (asg2 (stA 0) (stA 1)) (mkR2 (var 0) (bin2 opAdd (var 1) (cInt 1))) 2 (var 2) 1000 k i [x, y, z] σ = some (vI (expand (rgs.drop i)), σ) := by
 intro m
 induction m with
 | zero =>
  intro i k x y z hi hk
  obtain ⟨k, rfl⟩ := Nat.exists_eq_add_of_lt hk
  simp at hi; subst hi
  unfold compGo2
  rw [nxt_tup, List.getElem?_eq_none (by simp)]
  simp [expand, vI]
 | succ m ih =>
  intro i k x y z hi hk
  obtain ⟨k', rfl⟩ := Nat.exists_eq_add_of_lt hk
  have hlt : i < rgs.length := by exact om79 hi
  generalize hr : rgs[i] = r
  have hri : rgs[i]? = some r := by rw [List.getElem?_eq_getElem hlt, hr]
  have hmem : r ∈ rgs := List.mem_of_getElem? hri
  obtain ⟨b1, b2, b3, b4⟩ := hb r hmem
  have hdrop : rgs.drop i = r :: rgs.drop (i + 1) := by rw [← hr]; exact List.drop_eq_getElem_cons hlt
  have inner : compGo (.range r.1 (r.2 + 1)) (stA 2) tYes (var 2) 1000 0 [.int r.1, .int r.2, z] σ = some (vI (rng r.1 r.2), σ) := by
   have len := hs r hmem
   have ln : (rng r.1 r.2).length = (r.2 + 1 - r.1).toNat := by simp [rng]
   obtain ⟨zs, σ', e1, rfl, e2⟩ := comp_run (src := .range r.1 (r.2 + 1)) (a := stA 2) (t := tYes) (e := var 2) (xs := vI (rng r.1 r.2)) (own := fun q => ∃ w, q = [.int r.1, .int r.2, w]) (fun i ys s => s = σ ∧ ys = (vI (rng r.1 r.2)).take i)
    (by
     rintro j ys s hj ⟨rfl, _⟩
     unfold nxt
     simp only
     rw [if_pos ⟨om223 b1, om224 b4⟩]
     congr 1
     simp only [vI, rng, List.map_map, List.getElem?_map, List.getElem?_range']
     by_cases q : j < (r.2 + 1 - r.1).toNat
     ·rw [if_pos (om225 q), List.getElem?_range q]; rfl
     ·rw [if_neg (om226 q), List.getElem?_eq_none (by simp; exact om227 q)]; rfl)
    (by
     rintro j x q ys s ⟨w, rfl⟩ hx ⟨rfl, rfl⟩
     have htk : (vI (rng r.1 r.2)).take (j + 1) = (vI (rng r.1 r.2)).take j ++ [x] := by rw [List.take_succ, hx]; rfl
     obtain ⟨u, _, rfl⟩ := List.mem_map.mp (List.mem_of_getElem? hx)
     exact ⟨[.int r.1, .int r.2, .int u], s, true, s, rfl, ⟨_, rfl⟩, rfl, .inr ⟨rfl, .int u, s, rfl, rfl, htk.symm⟩⟩)
    (vI (rng r.1 r.2)).length 0 1000 [.int r.1, .int r.2, z] [] σ ⟨_, rfl⟩ (Nat.zero_add _) (by simp [vI]; exact om125 len) ⟨rfl, rfl⟩
   rw [List.take_length, List.nil_append] at e2
   rw [e1, e2]
  have rest := ih (i + 1) (m + 1 + k') (.int r.1) (.int r.2) z (om80 hi) (om88)
  rw [show m + 1 + k' + 1 = (m + 1 + k') + 1 from rfl]
  unfold compGo2
  rw [nxt_tup, List.getElem?_map, hri]
  have a1 : asg2 (stA 0) (stA 1) (rgV r) [x, y, z] σ = some ([.int r.1, .int r.2, z], σ) := rfl
  have m1 : mkR2 (var 0) (bin2 opAdd (var 1) (cInt 1)) [.int r.1, .int r.2, z] σ = some (.range r.1 (r.2 + 1), σ) := by
   have c1 : (-1000000000 ≤ r.1 ∧ r.1 ≤ 1000000000) ∧ -1000000000 ≤ r.2 + 1 ∧ r.2 + 1 ≤ 1000000000 := by exact om228 b1 b2 b3 b4
   simp only [MSX, c1]
  simp only [Option.map_some, Option.bind_some, a1, m1, inner, rest]
  rw [hdrop]
  simp [expand, vI]
theorem rng_in {rgs : List (Int × Int)} {r : Int × Int} (h : r ∈ rgs) (hr : r.1 ≤ r.2) : r.1 ∈ expand rgs ∧ r.2 ∈ expand rgs := by
 unfold expand rng
 constructor
 ·exact List.mem_flatMap.mpr ⟨r, h, List.mem_map.mpr ⟨0, by simp; exact om229 hr, by simp⟩⟩
 ·exact List.mem_flatMap.mpr ⟨r, h, List.mem_map.mpr ⟨(r.2 - r.1).toNat, by simp; exact om230 hr, om231 hr⟩⟩
theorem rng_len {rgs : List (Int × Int)} {r : Int × Int} (h : r ∈ rgs) : (rng r.1 r.2).length ≤ (expand rgs).length := by
 induction rgs with
 | nil => cases h
 | cons q qs ih =>
  have e : expand (q :: qs) = rng q.1 q.2 ++ expand qs := by simp [expand]
  rw [e, List.length_append]
  rcases List.mem_cons.mp h with rfl | h
  ·exact om232
  ·have := ih h; exact om233 this
inductive vanished_arm_O (s : Hp) (b : Nat) (v : Nat) (C : Nat) (A : Nat) (st : V) (lt : V) (y7 : V) (y8 : V) (y9 : V) (y10 : V) (y11 : V) (y12 : V) (y13 : V) (ws : List Rw) (rgs : List (Int × Int)) (gone : List Int) : Prop
 | mk (s' : Hp) (x12 : V) (_ : i_law_taken2 [.ref b, .ref v, .ref C, .ref A, st, vaV rgs, lt, y7, y8, y9, y10, y11, y12, y13] s = some (.next, [.ref b, .ref v, .ref C, .ref A, st, vaV rgs, lt, y7, y8, y9, y10, y11, x12, y13], s')) (_ : Ext [C] s s') (_ : s'[C]? = some (.list (rrefs (ws.filter fun w => decide (w.2.2.u ∉ gone))))) : vanished_arm_O s b v C A st lt y7 y8 y9 y10 y11 y12 y13 ws rgs gone
theorem vanished_arm {s : Hp} {b v C A : Nat} {bx ro U F M um st lt y7 y8 y9 y10 y11 y12 y13 : V} {ws : List Rw} {rgs : List (Int × Int)} {gone : List Int}
  (hvw : s[v]? = some (.inst 105 [bx, ro, um, .bool true, U, F, M])) (hC : s[C]? = some (.list (rrefs ws))) (hr : ∀ w ∈ ws, RowAt s w) (hn : ws.length ≤ 900)
  (ex : expand rgs = gone) (rl : rgs.length ≤ 900) (rle : ∀ r ∈ rgs, r.1 ≤ r.2) (gl : gone.length ≤ 900) (gb : ∀ u ∈ gone, 0 ≤ u ∧ u ≤ 1000000) (gin : ∀ u ∈ gone, u ∈ ru ws) : vanished_arm_O s b v C A st lt y7 y8 y9 y10 y11 y12 y13 ws rgs gone := by
 have rb : rgs.length ≤ big := by unfold big; exact om126 rl
 have a1 : ∀ t : Hp, opItem (vaV rgs) (.int 1) t = some (.tup (rgs.map rgV), t) := fun t => item_tup idx_1 big3
 have a2 : ∀ t : Hp, opItem (vaV rgs) (.int 2) t = some (.bool false, t) := fun t => item_tup idx_2 big3
 have hlen : ∀ r ∈ rgs, (rng r.1 r.2).length ≤ 900 := fun r h => Nat.le_trans (rng_len h) (by rw [ex]; exact gl)
 have hbd : ∀ r ∈ rgs, -1000000 ≤ r.1 ∧ r.1 ≤ 1000000 ∧ -1000000 ≤ r.2 ∧ r.2 ≤ 1000000 := fun r h => by
  obtain ⟨h1, h2⟩ := rng_in h (rle r h)
  rw [ex] at h1 h2
  have := gb _ h1; have := gb _ h2; exact om234 (by assumption) this
 have e1 : c_law_taken3 [.ref b, .ref v, .ref C, .ref A, st, vaV rgs, lt, y7, y8, y9, y10, y11, y12, y13] s = some (.ref s.length, s ++ [O.list (vI gone)]) := by
  have go := comp2_run (σ := s) (N := 1000) (ρ := []) hbd (om125 rl) hlen rgs.length 0 1000 .undef .undef .undef (Nat.zero_add _) (om125 rl)
  rw [List.drop_zero, ex] at go
  have mk : (mkV (bin2 opItem (var 5) (cInt 1))) [.ref b, .ref v, .ref C, .ref A, st, vaV rgs, lt, y7, y8, y9, y10, y11, y12, y13] s = some (.tup (rgs.map rgV), s) := by
   have q := a1 s
   unfold vaV at q ⊢
   simp only [MSX, q]
  unfold c_law_taken3 cComp2
  rw [mk]
  simp only [Option.bind_some, compLoc, List.replicate_succ, List.replicate_zero, List.cons_append, List.nil_append, List.map_nil, go]
 have X1 : Ext [] s (s ++ [O.list (vI gone)]) := Ext.app _ _
 have g1 := new_get s (O.list (vI gone))
 have lg : s.length < (s ++ [O.list (vI gone)]).length := by simp
 generalize hs1 : s ++ [O.list (vI gone)] = s1 at *
 obtain ⟨ys, s2, e2, X2, rfl⟩ := comp1_run (mk := mkV (var 12)) (src := .list s.length) (caps := [(2, Str.ofString "copy")]) (t := tst (bin2 opNotIn (var 0) c_law_taken4)) (e := var 0) (xs := vI gone) (N := 1000) (ρ := [.ref b, .ref v, .ref C, .ref A, st, vaV rgs, lt, y7, y8, y9, y10, y11, .ref s.length, y13]) (σ0 := s1) (σ := s1) (cv := [.ref C])
  (fun i ys t => Ext [] s1 t ∧ ys = []) (by simp only [MSX, g1]) rfl ⟨Ext.refl _ _, rfl⟩ (fun i ys t _ ⟨X, _⟩ => nxt_list (X.get _ _ g1 (List.not_mem_nil)) i) (by simp [vI]; exact om125 gl) (by
   rintro i x ys t hx ⟨X, rfl⟩
   obtain ⟨u, hu, rfl⟩ := List.mem_map.mp (List.mem_of_getElem? hx)
   have XX := X1.trans X
   have e := copy_uids (f := var 1) (ρ := [.int u, .ref C]) (XX.get _ _ hC (List.not_mem_nil)) (fun w hw => (hr w hw).ext0 XX) hn (by simp only [MSX])
   have e' : c_law_taken4 [.int u, .ref C] t = some (.ref t.length, t ++ [O.list (vI (ru ws))]) := e
   have q := opNotIn_of (inB_ints (i := u) (new_get t (O.list (vI (ru ws)))))
   rw [decide_eq_true (gin u hu)] at q
   refine ⟨false, t ++ [O.list (vI (ru ws))], ?_, .inl ⟨rfl, X.trans (Ext.app _ _), rfl⟩⟩
   simp only [MSX, e', q])
 have X3 : Ext [] s2 (s2 ++ [O.list []]) := Ext.app _ _
 have X4 : Ext [] (s2 ++ [O.list []]) ((s2 ++ [O.list []]) ++ [O.list []]) := Ext.app _ _
 have q3 := opNe_of (eqB_nil (X4.get _ _ (new_get s2 (O.list [])) (List.not_mem_nil)) (new_get (s2 ++ [O.list []]) (O.list [])))
 have XX4 := ((X1.trans X2).trans X3).trans X4
 have vw2 := X1.get _ _ hvw (List.not_mem_nil)
 have g4 := ((X2.trans X3).trans X4).get _ _ g1 (List.not_mem_nil)
 have hC4 := XX4.get _ _ hC (List.not_mem_nil)
 have cond : (orT (notT (tst (un1 (getA 105 3) (var 1)))) (orT (tst (bin2 opItem (var 5) (cInt 2))) (tst (bin2 opNe c_law_taken5 (mkList nilL))))) [.ref b, .ref v, .ref C, .ref A, st, vaV rgs, lt, y7, y8, y9, y10, y11, .ref s.length, y13] s1 = some (false, (s2 ++ [O.list []]) ++ [O.list []]) := by
  have e2' : c_law_taken5 [.ref b, .ref v, .ref C, .ref A, st, vaV rgs, lt, y7, y8, y9, y10, y11, .ref s.length, y13] s1 = some (.ref s2.length, s2 ++ [O.list []]) := e2
  have q := a2 s1
  have u5 : var 5 [.ref b, .ref v, .ref C, .ref A, st, vaV rgs, lt, y7, y8, y9, y10, y11, .ref s.length, y13] s1 = some (vaV rgs, s1) := rfl
  have q1 : (notT (tst (un1 (getA 105 3) (var 1)))) [.ref b, .ref v, .ref C, .ref A, st, vaV rgs, lt, y7, y8, y9, y10, y11, .ref s.length, y13] s1 = some (false, s1) := by simp only [MSX, vw2]
  have q2 : (tst (bin2 opItem (var 5) (cInt 2))) [.ref b, .ref v, .ref C, .ref A, st, vaV rgs, lt, y7, y8, y9, y10, y11, .ref s.length, y13] s1 = some (false, s1) := by
   unfold tst bin2; rw [u5]; simp only [Option.bind_some, onBool_c, cInt, q]
  have q3' : (tst (bin2 opNe c_law_taken5 (mkList nilL))) [.ref b, .ref v, .ref C, .ref A, st, vaV rgs, lt, y7, y8, y9, y10, y11, .ref s.length, y13] s1 = some (false, (s2 ++ [O.list []]) ++ [O.list []]) := by
   unfold tst bin2; rw [e2']; simp only [Option.bind_some, onBool_c, mkList, nilL, List.length_nil, big0, if_true, q3, List.isEmpty_nil, Bool.not_true]
  rw [or_f q1, or_f q2]
  exact q3'
 generalize hs4 : (s2 ++ [O.list []]) ++ [O.list []] = s4 at *
 have e5 : c_law_taken6 [.ref b, .ref v, .ref C, .ref A, st, vaV rgs, lt, y7, y8, y9, y10, y11, .ref s.length, y13] s4 = some (.ref s4.length, s4 ++ [O.list (rrefs (ws.filter fun w => decide (w.2.2.u ∉ gone)))]) := by
  refine comp_idx (src := .list C) (cv := [.ref s.length]) (xs := ws) (g := fun w => V.ref w.1) (fun w => decide (w.2.2.u ∉ gone)) (fun w => V.ref w.1) (by simp only [MSX, hC4]) (fun i => nxt_list hC4 i) (om125 hn) rfl ?_ ?_
  ·intro w hw
   have i0 := row_item0 ((hr w hw).ext0 XX4)
   have q := opNotIn_of (inB_ints (i := w.2.2.u) g4)
   simp only [MSX, i0, q, decide_not]
  ·intro w hw _
   simp only [MSX]
 have X5 : Ext [] s4 (s4 ++ [O.list (rrefs (ws.filter fun w => decide (w.2.2.u ∉ gone)))]) := Ext.app _ _
 have hC5 := X5.get _ _ hC4 (List.not_mem_nil)
 have n5 := new_get s4 (O.list (rrefs (ws.filter fun w => decide (w.2.2.u ∉ gone))))
 have hne : C ≠ s4.length := ne_of_new hC4
 have cut : opCut0 (.ref C) (.ref s4.length) (s4 ++ [O.list (rrefs (ws.filter fun w => decide (w.2.2.u ∉ gone)))]) = some ((s4 ++ [O.list (rrefs (ws.filter fun w => decide (w.2.2.u ∉ gone)))]).set C (.list (rrefs (ws.filter fun w => decide (w.2.2.u ∉ gone))))) := by
  unfold opCut0
  have hb : (rrefs ws).length + (rrefs (ws.filter fun w => decide (w.2.2.u ∉ gone))).length ≤ big := by
   have := List.length_filter_le (fun w : Rw => decide (w.2.2.u ∉ gone)) ws
   simp only [rrefs, List.length_map]; unfold big; exact om235 hn this
  rw [onRef_c, lst_of hC5, lst_of n5, Option.bind_some, Option.bind_some, if_pos ⟨hb, fun c => hne (Option.some.inj c).symm⟩]
 refine ⟨_, .ref s.length, ?_, (XX4.trans X5).nil.trans (Ext.set _ C _), set_get hC5⟩
 unfold i_law_taken2
 have q1 : (sAsg c_law_taken3 (stA 12)) [.ref b, .ref v, .ref C, .ref A, st, vaV rgs, lt, y7, y8, y9, y10, y11, y12, y13] s = some (.next, [.ref b, .ref v, .ref C, .ref A, st, vaV rgs, lt, y7, y8, y9, y10, y11, .ref s.length, y13], s1) := by
  unfold sAsg; rw [e1]; rfl
 have q2 : (sIf (orT (notT (tst (un1 (getA 105 3) (var 1)))) (orT (tst (bin2 opItem (var 5) (cInt 2))) (tst (bin2 opNe c_law_taken5 (mkList nilL))))) (sRet (cBool false)) sNil) [.ref b, .ref v, .ref C, .ref A, st, vaV rgs, lt, y7, y8, y9, y10, y11, .ref s.length, y13] s1 = some (.next, [.ref b, .ref v, .ref C, .ref A, st, vaV rgs, lt, y7, y8, y9, y10, y11, .ref s.length, y13], s4) := by
  unfold sIf; rw [cond]; rfl
 rw [sc q1, sc q2]
 unfold sAsg
 rw [e5]
 simp only [Option.bind_some, cutA0, var, nu_r, cond_true, List.getElem?_cons_succ, List.getElem?_cons_zero, cut, Option.map_some]
inductive exists_arm_O (s : Hp) (B : Bx) (v : Nat) (C : Nat) (A : Nat) (k : Nat) (st : V) (lt : V) (y7 : V) (y8 : V) (y9 : V) (y10 : V) (y11 : V) (y12 : V) (y13 : V) (ws : List Rw) : Prop
 | mk (nws : List Rw) (s' : Hp) (x13 : V) (_ : i_law_taken3 [.ref B.b, .ref v, .ref C, .ref A, st, axV k, lt, y7, y8, y9, y10, y11, y12, y13] s = some (.next, [.ref B.b, .ref v, .ref C, .ref A, st, axV k, lt, y7, y8, y9, y10, y11, y12, x13], s')) (_ : Ext [C] s s') (_ : s'[C]? = some (.list (rrefs (ws ++ nws)))) (_ : nws.map (·.2.2) = (B.ls.filter fun p => decide (p.2.u ∉ ru ws)).map (·.2)) (_ : CpOk nws) (_ : ∀ w ∈ nws, RowAt s' w ∧ s.length ≤ w.1 ∧ s.length ≤ w.2.1) : exists_arm_O s B v C A k st lt y7 y8 y9 y10 y11 y12 y13 ws
theorem exists_arm {s : Hp} {B : Bx} {v C A k : Nat} {st lt y7 y8 y9 y10 y11 y12 y13 : V} {ws : List Rw}
  (hB : BxAt s B) (kB : BxOk B) (hC : s[C]? = some (.list (rrefs ws))) (hr : ∀ w ∈ ws, RowAt s w) (hn : ws.length ≤ 900)
  (hk : k = ws.length + (B.ls.filter fun p => decide (p.2.u ∉ ru ws)).length) (hne : (B.ls.filter fun p => decide (p.2.u ∉ ru ws)) ≠ []) : exists_arm_O s B v C A k st lt y7 y8 y9 y10 y11 y12 y13 ws := by
 obtain ⟨nm, vd, fr, hb⟩ := hB.box
 have e1 : c_law_taken7 [.ref B.b, .ref v, .ref C, .ref A, st, axV k, lt, y7, y8, y9, y10, y11, y12, y13] s = some (.ref s.length, s ++ [O.list (vI (ru ws))]) :=
  copy_uids (f := var 2) hC hr hn (by simp only [MSX])
 have X1 : Ext [] s (s ++ [O.list (vI (ru ws))]) := Ext.app _ _
 have g1 := new_get s (O.list (vI (ru ws)))
 generalize hs1 : s ++ [O.list (vI (ru ws))] = s1 at *
 have hB1 := hB.ext0 X1
 have hb1 := X1.get _ _ hb (List.not_mem_nil)
 have hC1 := X1.get _ _ hC (List.not_mem_nil)
 have lr1 : s.length < s1.length := lt_of_get g1
 obtain ⟨nws, s2, e2, X2, d2, ok2, at2⟩ := rows_comp hB1 kB (f := un1 (getA 327 5) (var 0)) (caps := [(13, Str.ofString "known")]) (t := tst (bin2 opNotIn (un1 (getA 289 0) (var 0)) (var 1)))
  (ρ := [.ref B.b, .ref v, .ref C, .ref A, st, axV k, lt, y7, y8, y9, y10, y11, y12, .ref s.length]) (cv := [.ref s.length]) (fun l => decide (l.u ∉ ru ws)) (by simp only [MSX, hb1]) rfl (by
   rintro x hx t X ⟨oc, ins, hl⟩
   have q := opNotIn_of (inB_ints (i := x.2.u) (X.get _ _ g1 (List.not_mem_nil)))
   simp only [MSX, hl, q, decide_not])
 have e2' : c_law_taken8 [.ref B.b, .ref v, .ref C, .ref A, st, axV k, lt, y7, y8, y9, y10, y11, y12, .ref s.length] s1 = some (.ref s2.length, s2 ++ [O.list (rrefs nws)]) := e2
 have X3 : Ext [] s2 (s2 ++ [O.list (rrefs nws)]) := Ext.app _ _
 have n3 := new_get s2 (O.list (rrefs nws))
 have hC3 := (X2.trans X3).get _ _ hC1 (List.not_mem_nil)
 have g3 := (X2.trans X3).get _ _ g1 (List.not_mem_nil)
 generalize hs3 : s2 ++ [O.list (rrefs nws)] = s3 at *
 have X4 : Ext [C] s3 (s3.set C (.list (rrefs (ws ++ nws)))) := Ext.set _ _ _
 have hC4 := set_get (o' := O.list (rrefs (ws ++ nws))) hC3
 have Clt : C < s.length := lt_of_get hC
 have g4 := X4.get _ _ g3 (by simp; exact om183 Clt)
 have nl : nws.length = (B.ls.filter fun p => decide (p.2.u ∉ ru ws)).length := by
  have := congrArg List.length d2
  simpa using this
 have nle : nws.length ≤ 900 := by rw [nl]; exact Nat.le_trans (List.length_filter_le _ _) kB.n
 have n0 : nws.length ≠ 0 := by rw [nl]; intro c; exact hne (List.length_eq_zero_iff.mp c)
 have apr : rrefs ws ++ rrefs nws = rrefs (ws ++ nws) := by simp [rrefs]
 have l1 : (rrefs ws).length = ws.length := by simp [rrefs]
 have l2 : (rrefs nws).length = nws.length := by simp [rrefs]
 have l3 : (rrefs (ws ++ nws)).length = ws.length + nws.length := by simp [rrefs]
 have l4 : (vI (ru ws)).length = ws.length := by simp [vI, ru]
 refine ⟨nws, s3.set C (.list (rrefs (ws ++ nws))), .ref s.length, ?_, ((X1.trans X2).trans X3).nil.trans X4, hC4, d2, ok2, fun w hw => ?_⟩
 ·have q1 : (sAsg c_law_taken7 (stA 13)) [.ref B.b, .ref v, .ref C, .ref A, st, axV k, lt, y7, y8, y9, y10, y11, y12, y13] s = some (.next, [.ref B.b, .ref v, .ref C, .ref A, st, axV k, lt, y7, y8, y9, y10, y11, y12, .ref s.length], s1) := by
   unfold sAsg; rw [e1]; rfl
  have hCs : C ≠ s2.length := by have := X2.le; exact om236 lr1 Clt this
  have b1 : (rrefs ws).length + (rrefs nws).length ≤ big := by rw [l1, l2]; unfold big; exact om192 hn nle
  have b1' : ws.length + nws.length ≤ big := by unfold big; exact om192 hn nle
  have b2' : ws.length ≤ big := by unfold big; exact om126 hn
  have q2 : (sExpr (meth isL (var 2) (consL c_law_taken8 nilL) mExtend)) [.ref B.b, .ref v, .ref C, .ref A, st, axV k, lt, y7, y8, y9, y10, y11, y12, .ref s.length] s1 = some (.next, [.ref B.b, .ref v, .ref C, .ref A, st, axV k, lt, y7, y8, y9, y10, y11, y12, .ref s.length], s3.set C (.list (rrefs (ws ++ nws)))) := by
   simp only [MSX, hC1, e2', hC3, n3, hCs, ne_eq, b1, apr]
  have a1 : opItem (axV k) (.int 1) (s3.set C (.list (rrefs (ws ++ nws)))) = some (.int (k : Int), s3.set C (.list (rrefs (ws ++ nws)))) := item_tup idx_1 big2
  have t1 := opNe_of (σ := s3.set C (.list (rrefs (ws ++ nws)))) (eqB_int (σ := s3.set C (.list (rrefs (ws ++ nws)))) ((ws.length + nws.length : Nat) : Int) (k : Int))
  rw [decide_eq_true (by rw [hk, nl])] at t1
  have t2 := opEq_of (σ := s3.set C (.list (rrefs (ws ++ nws)))) (eqB_int (σ := s3.set C (.list (rrefs (ws ++ nws)))) ((ws.length + nws.length : Nat) : Int) (ws.length : Int))
  rw [decide_eq_false (om237 n0)] at t2
  unfold i_law_taken3
  rw [sc q1, sc q2]
  unfold axV at a1 ⊢
  simp only [MSX, hC4, g4, l3, l4, b1', b2', a1, t1, t2]
 ·obtain ⟨a, b, c⟩ := at2 w hw
  exact ⟨(a.ext0 X3).ext X4 (by simp; exact om238 lr1 Clt b) (by simp; exact om238 lr1 Clt c), om198 lr1 b, om198 lr1 c⟩
noncomputable def kDict : List (Str × V) := [(kFetch, .int 0), (kExpunge, .int 1), (kVanished, .int 1), (kExists, .int 2)]
theorem q12 : kFetch ≠ kExpunge := by decide +kernel
theorem q13 : kFetch ≠ kVanished := by decide +kernel
theorem q14 : kFetch ≠ kExists := by decide +kernel
theorem q23 : kExpunge ≠ kVanished := by decide +kernel
theorem q24 : kExpunge ≠ kExists := by decide +kernel
theorem q34 : kVanished ≠ kExists := by decide +kernel
theorem okF : PyData.strOk kFetch = true := by decide +kernel
theorem okE : PyData.strOk kExpunge = true := by decide +kernel
theorem okV : PyData.strOk kVanished = true := by decide +kernel
theorem okX : PyData.strOk kExists = true := by decide +kernel
theorem mkDict_ok {ρ : Loc} {s : Hp} : mkDict [Str.ofString "fetch", Str.ofString "expunge", Str.ofString "vanished", Str.ofString "exists"] (consL (cInt 0) (consL (cInt 1) (consL (cInt 1) (consL (cInt 2) nilL)))) ρ s = some (.ref s.length, s ++ [O.sdict kDict]) := by
 have u1 : Str.ofString "fetch" = kFetch := rfl
 have u2 : Str.ofString "expunge" = kExpunge := rfl
 have u3 : Str.ofString "vanished" = kVanished := rfl
 have u4 : Str.ofString "exists" = kExists := rfl
 rw [u1, u2, u3, u4]
 simp only [mkDict, consL, nilL, cInt, Option.bind_some, Option.map_some, List.zip_cons_cons, List.zip_nil_right, List.foldl_cons, List.foldl_nil, dput, List.any_nil, List.any_cons, List.nil_append, List.cons_append, q12, q13, q14, q23, q24, q34, decide_false, Bool.or_self, Bool.false_eq_true, if_false, kDict]
theorem kd1 : kDict.lookup kFetch = some (.int 0) := by
 have e : (kFetch == kFetch) = true := by rfl
 simp only [kDict, List.lookup_cons, e]
theorem kd2 : kDict.lookup kExpunge = some (.int 1) := by
 have e1 : (kExpunge == kFetch) = false := by simpa using q12.symm
 have e : (kExpunge == kExpunge) = true := by rfl
 simp only [kDict, List.lookup_cons, e1, e]
theorem kd3 : kDict.lookup kVanished = some (.int 1) := by
 have e1 : (kVanished == kFetch) = false := by simpa using q13.symm
 have e2 : (kVanished == kExpunge) = false := by simpa using q23.symm
 have e : (kVanished == kVanished) = true := by rfl
 simp only [kDict, List.lookup_cons, e1, e2, e]
theorem kd4 : kDict.lookup kExists = some (.int 2) := by
 have e1 : (kExists == kFetch) = false := by simpa using q14.symm
 have e2 : (kExists == kExpunge) = false := by simpa using q24.symm
 have e3 : (kExists == kVanished) = false := by simpa using q34.symm
 have e : (kExists == kExists) = true := by rfl
 simp only [kDict, List.lookup_cons, e1, e2, e3, e]
noncomputable def restT : St := sIf (tst (bin2 opEq (bin2 opItem (var 5) (cInt 0)) (cStr (Str.ofString "fetch")))) i_law_taken5 (sIf (tst (bin2 opEq (bin2 opItem (var 5) (cInt 0)) (cStr (Str.ofString "expunge")))) i_law_taken4 (sIf (tst (bin2 opEq (bin2 opItem (var 5) (cInt 0)) (cStr (Str.ofString "vanished")))) i_law_taken2 i_law_taken3))
theorem taken_hd {s : Hp} {x0 x1 x2 x3 y6 y7 y8 y9 y10 y11 y12 y13 : V} {r : List V} {st lt : Int} {k : Str} (hl : kDict.lookup k = some (.int lt)) (hst : st ≤ lt) (hr : r.length + 1 ≤ big) :
  b_law_taken [x0, x1, x2, x3, .int st, .tup (.str k :: r), y6, y7, y8, y9, y10, y11, y12, y13] s = restT [x0, x1, x2, x3, .int lt, .tup (.str k :: r), .int lt, y7, y8, y9, y10, y11, y12, y13] (s ++ [O.sdict kDict]) := by
 have i0 : opItem (.tup (.str k :: r)) (.int 0) (s ++ [O.sdict kDict]) = some (.str k, s ++ [O.sdict kDict]) := item_tup idx_0 hr
 have i1 : opItem (.ref s.length) (.str k) (s ++ [O.sdict kDict]) = some (.int lt, s ++ [O.sdict kDict]) := by
  unfold opItem; simp only [onTR_a, onTR_b, onIS_a, onIS_b, onInt_c, onLD_a, onLD_b, onSd_c, new_get, hl, Option.map_some]
 have q1 : (sAsg (bin2 opItem (mkDict [Str.ofString "fetch", Str.ofString "expunge", Str.ofString "vanished", Str.ofString "exists"] (consL (cInt 0) (consL (cInt 1) (consL (cInt 1) (consL (cInt 2) nilL))))) (bin2 opItem (var 5) (cInt 0))) (stA 6)) [x0, x1, x2, x3, .int st, .tup (.str k :: r), y6, y7, y8, y9, y10, y11, y12, y13] s =
   some (.next, [x0, x1, x2, x3, .int st, .tup (.str k :: r), .int lt, y7, y8, y9, y10, y11, y12, y13], s ++ [O.sdict kDict]) := by
  have m := mkDict_ok (ρ := [x0, x1, x2, x3, .int st, .tup (.str k :: r), y6, y7, y8, y9, y10, y11, y12, y13]) (s := s)
  unfold sAsg bin2
  rw [m]
  simp only [MSX, i0, i1]
 have n1 : ¬ (lt < st) := by exact om239 hst
 have q2 : (sIf (tst (bin2 opLt (var 6) (var 4))) (sRet (cBool false)) sNil) [x0, x1, x2, x3, .int st, .tup (.str k :: r), .int lt, y7, y8, y9, y10, y11, y12, y13] (s ++ [O.sdict kDict]) = some (.next, [x0, x1, x2, x3, .int st, .tup (.str k :: r), .int lt, y7, y8, y9, y10, y11, y12, y13], s ++ [O.sdict kDict]) := by
  simp only [MSX, n1]
 have q3 : (sAsg (var 6) (stA 4)) [x0, x1, x2, x3, .int st, .tup (.str k :: r), .int lt, y7, y8, y9, y10, y11, y12, y13] (s ++ [O.sdict kDict]) = some (.next, [x0, x1, x2, x3, .int lt, .tup (.str k :: r), .int lt, y7, y8, y9, y10, y11, y12, y13], s ++ [O.sdict kDict]) := by
  simp only [MSX]
 unfold b_law_taken
 rw [sc q1, sc q2, sc q3]
 rfl
theorem restT_ok {s : Hp} {x0 x1 x2 x3 x4 x6 y7 y8 y9 y10 y11 y12 y13 : V} {r : List V} {k : Str} (hr : r.length + 1 ≤ big) (hk : PyData.strOk k = true) :
  restT [x0, x1, x2, x3, x4, .tup (.str k :: r), x6, y7, y8, y9, y10, y11, y12, y13] s =
   (if k = kFetch then i_law_taken5 else if k = kExpunge then i_law_taken4 else if k = kVanished then i_law_taken2 else i_law_taken3) [x0, x1, x2, x3, x4, .tup (.str k :: r), x6, y7, y8, y9, y10, y11, y12, y13] s := by
 have i0 : opItem (.tup (.str k :: r)) (.int 0) s = some (.str k, s) := item_tup idx_0 hr
 have u1 : Str.ofString "fetch" = kFetch := rfl
 have u2 : Str.ofString "expunge" = kExpunge := rfl
 have u3 : Str.ofString "vanished" = kVanished := rfl
 have t1 := opEq_of (eqB_str (σ := s) hk okF)
 have t2 := opEq_of (eqB_str (σ := s) hk okE)
 have t3 := opEq_of (eqB_str (σ := s) hk okV)
 unfold restT
 by_cases c1 : k = kFetch
 ·rw [decide_eq_true c1] at t1
  rw [if_pos c1]
  simp only [MSX, i0, u1, t1]
 ·rw [decide_eq_false c1] at t1
  rw [if_neg c1]
  by_cases c2 : k = kExpunge
  ·rw [decide_eq_true c2] at t2
   rw [if_pos c2]
   simp only [MSX, i0, u1, u2, t1, t2]
  ·rw [decide_eq_false c2] at t2
   rw [if_neg c2]
   by_cases c3 : k = kVanished
   ·rw [decide_eq_true c3] at t3
    rw [if_pos c3]
    simp only [MSX, i0, u1, u2, u3, t1, t2, t3]
   ·rw [decide_eq_false c3] at t3
    rw [if_neg c3]
    simp only [MSX, i0, u1, u2, u3, t1, t2, t3]
structure CpAt (σ : Hp) (C : Nat) (ws : List Rw) : Prop where
 gC : σ[C]? = some (.list (rrefs ws))
 rows : ∀ w ∈ ws, RowAt σ w
 ok : CpOk ws
 nC : ∀ w ∈ ws, w.1 ≠ C ∧ w.2.1 ≠ C
noncomputable def dt (ws : List Rw) : List Lt := ws.map (·.2.2)
noncomputable def MirL (um : Bool) : List Lt → List Lt → Prop
 | [], [] => True
 | r :: rs, d :: ds => (d.u = r.u ∧ d.fl = r.fl ∧ (um = true → d.ms = r.ms)) ∧ MirL um rs ds
 | _, _ => False
theorem MirL.us {um : Bool} : ∀ {rs ds : List Lt}, MirL um rs ds → Mine.us ds = Mine.us rs
 | [], [], _ => rfl
 | r :: rs, d :: ds, ⟨⟨h, _⟩, t⟩ => by simp only [Mine.us, List.map_cons, h]; rw [← Mine.us, ← Mine.us, t.us]
 | [], _ :: _, h => h.elim
 | _ :: _, [], h => h.elim
theorem MirL.len {um : Bool} {rs ds : List Lt} (h : MirL um rs ds) : ds.length = rs.length := by
 have := congrArg List.length h.us; simpa [Mine.us] using this
theorem MirL.app {um : Bool} : ∀ {rs ds : List Lt}, MirL um rs ds → ∀ {rs' ds' : List Lt}, MirL um rs' ds' → MirL um (rs ++ rs') (ds ++ ds')
 | [], [], _, _, _, h => h
 | r :: rs, d :: ds, ⟨a, t⟩, _, _, h => ⟨a, t.app h⟩
 | [], _ :: _, h, _, _, _ => h.elim
 | _ :: _, [], h, _, _, _ => h.elim
theorem MirL.refl {um : Bool} : ∀ (rs : List Lt), MirL um rs rs
 | [] => trivial
 | r :: rs => ⟨⟨rfl, rfl, fun _ => rfl⟩, MirL.refl rs⟩
theorem MirL.filter {um : Bool} {p : Int → Bool} : ∀ {rs ds : List Lt}, MirL um rs ds → MirL um (rs.filter fun r => p r.u) (ds.filter fun r => p r.u)
 | [], [], _ => trivial
 | r :: rs, d :: ds, ⟨a, t⟩ => by
  cases q : p r.u with
  | true =>
   rw [List.filter_cons_of_pos (by simpa using q), List.filter_cons_of_pos (by rw [a.1]; simpa using q)]
   exact ⟨a, t.filter⟩
  | false =>
   rw [List.filter_cons_of_neg (by simpa using q), List.filter_cons_of_neg (by rw [a.1]; simpa using q)]
   exact t.filter
 | [], _ :: _, h => h.elim
 | _ :: _, [], h => h.elim
theorem MirL.erase {um : Bool} {u : Int} : ∀ {rs ds : List Lt} {i : Nat}, MirL um rs ds → Srt (Mine.us rs) → (Mine.us rs)[i]? = some u → MirL um (drp rs u) (ds.eraseIdx i)
 | [], _, _, _, _, h => by simp [Mine.us] at h
 | r :: rs, d :: ds, i, ⟨a, t⟩, hs, h => by
  have hs' : Srt (Mine.us rs) ∧ ∀ q ∈ rs, r.u < q.u := by
   unfold Srt Mine.us at hs
   rw [List.map_cons, List.pairwise_cons] at hs
   exact ⟨hs.2, fun q hq => hs.1 q.u (List.mem_map.mpr ⟨q, hq, rfl⟩)⟩
  cases i with
  | zero =>
   have e : r.u = u := by simpa [Mine.us] using h
   have : drp (r :: rs) u = rs := by
    unfold drp
    rw [List.filter_cons_of_neg (by simp [e])]
    apply List.filter_eq_self.mpr
    intro q hq
    have := hs'.2 q hq
    simp; exact om240 e this
   rw [this]; exact t
  | succ i =>
   have h' : (Mine.us rs)[i]? = some u := by simpa [Mine.us] using h
   have hne : r.u ≠ u := by
    obtain ⟨q, hq, e⟩ := List.mem_map.mp (List.mem_of_getElem? h')
    have := hs'.2 q hq; exact om241 e this
   have : drp (r :: rs) u = r :: drp rs u := by
    unfold drp; rw [List.filter_cons_of_pos (by simp [hne])]
   rw [this]
   exact ⟨a, t.erase hs'.1 h'⟩
 | _ :: _, [], _, h, _, _ => h.elim
theorem map_set_fst {ws : List Rw} {i : Nat} {w nw : Rw} (h : ws[i]? = some w) (e : nw.1 = w.1) : (ws.set i nw).map (·.1) = ws.map (·.1) := by
 rw [List.map_set, e]
 apply List.ext_getElem?
 intro j
 by_cases q : i = j
 ·subst q
  have hl := (List.getElem?_eq_some_iff.mp h).1
  rw [List.getElem?_set_self (by simpa using hl), List.getElem?_map, h]; rfl
 ·rw [List.getElem?_set_ne q]
theorem rrefs_set {ws : List Rw} {i : Nat} {w nw : Rw} (h : ws[i]? = some w) (e : nw.1 = w.1) : rrefs (ws.set i nw) = rrefs ws := by
 have := congrArg (List.map V.ref) (map_set_fst h e)
 simpa [rrefs, Function.comp_def] using this
theorem nodup_at {ws : List Rw} (h : (ws.map (·.1)).Nodup) {i j : Nat} {w w' : Rw} (hi : ws[i]? = some w) (hj : ws[j]? = some w') (hij : i ≠ j) : w.1 ≠ w'.1 := by
 intro e
 have a : (ws.map (·.1))[i]? = some w.1 := by simp [hi]
 have b : (ws.map (·.1))[j]? = some w'.1 := by simp [hj]
 have li := (List.getElem?_eq_some_iff.mp a)
 have lj := (List.getElem?_eq_some_iff.mp b)
 obtain ⟨l1, e1⟩ := li
 obtain ⟨l2, e2⟩ := lj
 have := List.pairwise_iff_getElem.mp h
 rcases Nat.lt_or_gt_of_ne hij with q | q
 ·exact this i j l1 l2 q (by rw [e1, e2, e])
 ·exact this j i l2 l1 q (by rw [e1, e2, e])
theorem CpAt.set {s s' : Hp} {C : Nat} {ws : List Rw} {i : Nat} {w : Rw} {f' : Nat} {d : Lt} (h : CpAt s C ws) (hw : ws[i]? = some w) (X : Ext [w.1] s s') (hf : s.length ≤ f')
  (h1 : s'[w.1]? = some (.list [.int d.u, .ref f', .int d.ms])) (h2 : s'[f']? = some (.list (vS d.fl))) : CpAt s' C (ws.set i (w.1, f', d)) := by
 have hmem := List.mem_of_getElem? hw
 have el : ∀ j w', (ws.set i (w.1, f', d))[j]? = some w' → w' = (w.1, f', d) ∨ (j ≠ i ∧ ws[j]? = some w') := by
  intro j w' hj
  by_cases q : j = i
  ·subst q
   rw [List.getElem?_set_self (List.getElem?_eq_some_iff.mp hw).1] at hj
   cases hj; exact .inl rfl
  ·rw [List.getElem?_set_ne (Ne.symm q)] at hj
   exact .inr ⟨q, hj⟩
 have lt : ∀ w' ∈ ws, w'.1 < s.length ∧ w'.2.1 < s.length := fun w' hw' => ⟨lt_of_get (h.rows w' hw').1, lt_of_get (h.rows w' hw').2⟩
 refine ⟨?_, fun w' hw' => ?_, ⟨?_, fun w1 hw1 w2 hw2 => ?_⟩, fun w' hw' => ?_⟩
 ·rw [rrefs_set (nw := (w.1, f', d)) hw rfl]
  exact X.get _ _ h.gC (by simpa using (h.nC w hmem).1.symm)
 ·obtain ⟨j, hj⟩ := List.mem_iff_getElem?.mp hw'
  rcases el j w' hj with rfl | ⟨q, hj'⟩
  ·exact ⟨h1, h2⟩
  ·have m := List.mem_of_getElem? hj'
   exact (h.rows w' m).ext X (by simpa using nodup_at h.ok.nd hj' hw q) (by simpa using h.ok.fl w' m w hmem)
 ·rw [map_set_fst (nw := (w.1, f', d)) hw rfl]; exact h.ok.nd
 ·obtain ⟨j1, hj1⟩ := List.mem_iff_getElem?.mp hw1
  obtain ⟨j2, hj2⟩ := List.mem_iff_getElem?.mp hw2
  rcases el j1 w1 hj1 with rfl | ⟨q1, hj1'⟩ <;> rcases el j2 w2 hj2 with rfl | ⟨q2, hj2'⟩
  ·have := (lt w hmem).1; simp; exact om242 hf this
  ·have := (lt w2 (List.mem_of_getElem? hj2')).1; simp; exact om242 hf this
  ·exact h.ok.fl w1 (List.mem_of_getElem? hj1') w hmem
  ·exact h.ok.fl w1 (List.mem_of_getElem? hj1') w2 (List.mem_of_getElem? hj2')
 ·obtain ⟨j, hj⟩ := List.mem_iff_getElem?.mp hw'
  rcases el j w' hj with rfl | ⟨q, hj'⟩
  ·have := lt_of_get h.gC
   exact ⟨(h.nC w hmem).1, by simp; exact om242 hf this⟩
  ·exact h.nC w' (List.mem_of_getElem? hj')
theorem CpAt.ext {W : List Nat} {s s' : Hp} {C : Nat} {ws : List Rw} (h : CpAt s C ws) (X : Ext W s s') (h0 : C ∉ W) (h1 : ∀ w ∈ ws, w.1 ∉ W ∧ w.2.1 ∉ W) : CpAt s' C ws :=
 ⟨X.get _ _ h.gC h0, fun w hw => (h.rows w hw).ext X (h1 w hw).1 (h1 w hw).2, h.ok, h.nC⟩
theorem CpAt.ext0 {s s' : Hp} {C : Nat} {ws : List Rw} (h : CpAt s C ws) (X : Ext [] s s') : CpAt s' C ws := h.ext X (List.not_mem_nil) (by simp)
theorem CpAt.sub {s s' : Hp} {C : Nat} {ws ws' : List Rw} (h : CpAt s C ws) (X : Ext [C] s s') (hC : s'[C]? = some (.list (rrefs ws'))) (hs : List.Sublist ws' ws) : CpAt s' C ws' := by
 have m : ∀ w ∈ ws', w ∈ ws := fun w hw => hs.subset hw
 refine ⟨hC, fun w hw => (h.rows w (m w hw)).ext X (by simpa using (h.nC w (m w hw)).1) (by simpa using (h.nC w (m w hw)).2), ⟨?_, fun w hw w' hw' => h.ok.fl w (m w hw) w' (m w' hw')⟩, fun w hw => h.nC w (m w hw)⟩
 exact List.Pairwise.sublist (hs.map _) h.ok.nd
theorem erase_map {α β : Type} (f : α → β) : ∀ (xs : List α) (i : Nat), (xs.map f).eraseIdx i = (xs.eraseIdx i).map f
 | [], _ => by rfl
 | x :: xs, 0 => by rfl
 | x :: xs, i + 1 => by simp only [List.map_cons, List.eraseIdx_cons_succ, erase_map f xs i]
inductive TkR (b v C A : Nat) (st : Int) (ρ : Loc) : Prop
 | mk (x5 x6 x7 x8 x9 x10 x11 x12 x13 : V) (_ : ρ = [.ref b, .ref v, .ref C, .ref A, .int st, x5, x6, x7, x8, x9, x10, x11, x12, x13]) : TkR b v C A st ρ
noncomputable abbrev go (A : Nat) : Nat → Nat → St := forGo (.list A) (stA 5) b_law_taken
noncomputable def Turn (A j : Nat) (ρ ρ' : Loc) (s s' : Hp) : Prop := ∀ k, go A (k + 1) j ρ s = go A k (j + 1) ρ' s'
theorem sdict_ext (s : Hp) : Ext [] s (s ++ [O.sdict kDict]) := Ext.app _ _
inductive step_fetch_O (b : Nat) (v : Nat) (C : Nat) (A : Nat) (i : Nat) (j : Nat) (ρ : Mine.Loc) (s : Hp) (um : Bool) (l : Lt) (ws : List Rw) (w : Rw) : Prop
 | mk (ρ' : Mine.Loc) (s' : Hp) (f' : Nat) (_ : TkR b v C A 0 ρ') (_ : Turn A j ρ ρ' s s') (_ : Ext [w.1] s s') (_ : s.length ≤ f') (_ : CpAt s' C (ws.set i (w.1, f', ⟨w.2.2.u, l.fl, if um then l.ms else w.2.2.ms⟩))) : step_fetch_O b v C A i j ρ s um l ws w
theorem step_fetch {b v C A i j n m p : Nat} {st : Int} {ρ : Loc} {s : Hp} {bx ro U F M : V} {az : List (Nat × Str)} {lo hi : Nat} {um uv : Bool} {l : Lt} {ws : List Rw} {w : Rw} {xs : List V}
  (hρ : TkR b v C A st ρ) (hst : st ≤ 0) (hA : s[A]? = some (.list xs)) (hx : xs[j]? = some (V.tup [.str kFetch, .int ((i : Int) + 1), .ref n]))
  (hvw : s[v]? = some (.inst 105 [bx, ro, .bool um, .bool uv, U, F, M])) (hP : PairsAt s lo hi n m p az um uv l) (h : CpAt s C ws) (hw : ws[i]? = some w) (hi9 : i ≤ 900)
  (hu : l.u = w.2.2.u) (ofl : okS w.2.2.fl) (ol : okS l.fl) (hst' : um = false → w.2.2.fl ≠ l.fl) (hms : um = true → w.2.2.ms ≠ l.ms) (halo : w.1 < lo) : step_fetch_O b v C A i j ρ s um l ws w := by
 obtain ⟨x5, x6, x7, x8, x9, x10, x11, x12, x13, rfl⟩ := hρ
 have X0 := sdict_ext s
 have hmem := List.mem_of_getElem? hw
 have hr := h.rows w hmem
 have hci : (rrefs ws)[i]? = some (.ref w.1) := by simp [rrefs, hw]
 have l0 : (s ++ [O.sdict kDict]).length = s.length + 1 := by exact len_app
 obtain ⟨s', f', z7, z8, z9, z10, z11, z12, z13, e, X, lf, g1, g2⟩ := fetch_arm (b := b) (A := A) (st := .int 0) (lt := .int 0) (y7 := x7) (y8 := x8) (y9 := x9) (y10 := x10) (y11 := x11) (y12 := x12) (y13 := x13)
  (X0.get _ _ hvw (List.not_mem_nil)) (hP.ext X0 (by simp) (Nat.le_refl _)) (X0.get _ _ h.gC (List.not_mem_nil)) hci hi9 (X0.get _ _ hr.1 (List.not_mem_nil)) (X0.get _ _ hr.2 (List.not_mem_nil)) hu ofl ol hst' hms halo
 refine ⟨_, s', f', ⟨.tup [.str kFetch, .int ((i : Int) + 1), .ref n], .int 0, z7, z8, z9, z10, z11, z12, z13, rfl⟩, fun k => ?_, X0.nil.trans X, om243 l0 lf, h.set hw (X0.nil.trans X) (om243 l0 lf) g1 g2⟩
 refine for_step (by rw [nxt_list hA, hx]) rfl ?_
 simp only [List.set_cons_succ, List.set_cons_zero]
 rw [taken_hd kd1 hst (by exact big3), restT_ok (by exact big3) okF, if_pos rfl]
 exact e
inductive step_expunge_O (b : Nat) (v : Nat) (C : Nat) (A : Nat) (i : Nat) (j : Nat) (ρ : Mine.Loc) (s : Hp) (ws : List Rw) : Prop
 | mk (ρ' : Mine.Loc) (s' : Hp) (_ : TkR b v C A 1 ρ') (_ : Turn A j ρ ρ' s s') (_ : Ext [C] s s') (_ : CpAt s' C (ws.eraseIdx i)) : step_expunge_O b v C A i j ρ s ws
theorem step_expunge {b v C A i j : Nat} {st : Int} {ρ : Loc} {s : Hp} {bx ro um U F M : V} {ws : List Rw} {xs : List V}
  (hρ : TkR b v C A st ρ) (hst : st ≤ 1) (hA : s[A]? = some (.list xs)) (hx : xs[j]? = some (exV i))
  (hvw : s[v]? = some (.inst 105 [bx, ro, um, .bool false, U, F, M])) (h : CpAt s C ws) (hi : i < ws.length) (hn : ws.length ≤ 900) : step_expunge_O b v C A i j ρ s ws := by
 obtain ⟨x5, x6, x7, x8, x9, x10, x11, x12, x13, rfl⟩ := hρ
 have X0 := sdict_ext s
 obtain ⟨s', e, X, g⟩ := expunge_arm (b := b) (A := A) (st := .int 1) (lt := .int 1) (y7 := x7) (y8 := x8) (y9 := x9) (y10 := x10) (y11 := x11) (y12 := x12) (y13 := x13)
  (X0.get _ _ hvw (List.not_mem_nil)) (X0.get _ _ h.gC (List.not_mem_nil)) (show i < (rrefs ws).length by simpa [rrefs] using hi) (by simpa [rrefs] using hn)
 have ge : (rrefs ws).eraseIdx i = rrefs (ws.eraseIdx i) := erase_map _ ws i
 rw [ge] at g
 refine ⟨_, s', ⟨exV i, .int 1, x7, x8, x9, x10, x11, x12, x13, rfl⟩, fun k => ?_, X0.nil.trans X, h.sub (X0.nil.trans X) g (List.eraseIdx_sublist _ _)⟩
 refine for_step (by rw [nxt_list hA, hx]) rfl ?_
 simp only [List.set_cons_succ, List.set_cons_zero]
 unfold exV at e ⊢
 rw [taken_hd kd2 hst (by exact big2), restT_ok (by exact big2) okE, if_neg q12.symm, if_pos rfl]
 exact e
inductive step_vanished_O (b : Nat) (v : Nat) (C : Nat) (A : Nat) (j : Nat) (ρ : Mine.Loc) (s : Hp) (ws : List Rw) (gone : List Int) : Prop
 | mk (ρ' : Mine.Loc) (s' : Hp) (_ : TkR b v C A 1 ρ') (_ : Turn A j ρ ρ' s s') (_ : Ext [C] s s') (_ : CpAt s' C (ws.filter fun w => decide (w.2.2.u ∉ gone))) : step_vanished_O b v C A j ρ s ws gone
theorem step_vanished {b v C A j : Nat} {st : Int} {ρ : Loc} {s : Hp} {bx ro um U F M : V} {ws : List Rw} {xs : List V} {rgs : List (Int × Int)} {gone : List Int}
  (hρ : TkR b v C A st ρ) (hst : st ≤ 1) (hA : s[A]? = some (.list xs)) (hx : xs[j]? = some (vaV rgs))
  (hvw : s[v]? = some (.inst 105 [bx, ro, um, .bool true, U, F, M])) (h : CpAt s C ws) (hn : ws.length ≤ 900)
  (ex : expand rgs = gone) (rl : rgs.length ≤ 900) (rle : ∀ r ∈ rgs, r.1 ≤ r.2) (gl : gone.length ≤ 900) (gb : ∀ u ∈ gone, 0 ≤ u ∧ u ≤ 1000000) (gin : ∀ u ∈ gone, u ∈ ru ws) : step_vanished_O b v C A j ρ s ws gone := by
 obtain ⟨x5, x6, x7, x8, x9, x10, x11, x12, x13, rfl⟩ := hρ
 have X0 := sdict_ext s
 obtain ⟨s', z12, e, X, g⟩ := vanished_arm (b := b) (A := A) (st := .int 1) (lt := .int 1) (y7 := x7) (y8 := x8) (y9 := x9) (y10 := x10) (y11 := x11) (y12 := x12) (y13 := x13)
  (X0.get _ _ hvw (List.not_mem_nil)) (X0.get _ _ h.gC (List.not_mem_nil)) (fun w hw => (h.rows w hw).ext0 X0) hn ex rl rle gl gb gin
 refine ⟨_, s', ⟨vaV rgs, .int 1, x7, x8, x9, x10, x11, z12, x13, rfl⟩, fun k => ?_, X0.nil.trans X, h.sub (X0.nil.trans X) g List.filter_sublist⟩
 refine for_step (by rw [nxt_list hA, hx]) rfl ?_
 simp only [List.set_cons_succ, List.set_cons_zero]
 unfold vaV at e ⊢
 rw [taken_hd kd3 hst (by exact big3), restT_ok (by exact big3) okV, if_neg q13.symm, if_neg q23.symm, if_pos rfl]
 exact e
inductive step_exists_O (B : Bx) (v : Nat) (C : Nat) (A : Nat) (j : Nat) (ρ : Mine.Loc) (s : Hp) (ws : List Rw) : Prop
 | mk (ρ' : Mine.Loc) (s' : Hp) (nws : List Rw) (_ : TkR B.b v C A 2 ρ') (_ : Turn A j ρ ρ' s s') (_ : Ext [C] s s') (_ : CpAt s' C (ws ++ nws)) (_ : dt nws = (B.ls.filter fun p => decide (p.2.u ∉ ru ws)).map (·.2)) (_ : ∀ w ∈ nws, s.length ≤ w.1 ∧ s.length ≤ w.2.1) : step_exists_O B v C A j ρ s ws
theorem step_exists {B : Bx} {v C A j k : Nat} {st : Int} {ρ : Loc} {s : Hp} {ws : List Rw} {xs : List V}
  (hρ : TkR B.b v C A st ρ) (hst : st ≤ 2) (hA : s[A]? = some (.list xs)) (hx : xs[j]? = some (axV k)) (hB : BxAt s B) (kB : BxOk B) (h : CpAt s C ws) (hn : ws.length ≤ 900)
  (hk : k = ws.length + (B.ls.filter fun p => decide (p.2.u ∉ ru ws)).length) (hne : (B.ls.filter fun p => decide (p.2.u ∉ ru ws)) ≠ []) : step_exists_O B v C A j ρ s ws := by
 obtain ⟨x5, x6, x7, x8, x9, x10, x11, x12, x13, rfl⟩ := hρ
 have X0 := sdict_ext s
 have l0 : (s ++ [O.sdict kDict]).length = s.length + 1 := by exact len_app
 obtain ⟨nws, s', z13, e, X, g, d, ok, at_⟩ := exists_arm (v := v) (A := A) (st := .int 2) (lt := .int 2) (y7 := x7) (y8 := x8) (y9 := x9) (y10 := x10) (y11 := x11) (y12 := x12) (y13 := x13)
  (hB.ext0 X0) kB (X0.get _ _ h.gC (List.not_mem_nil)) (fun w hw => (h.rows w hw).ext0 X0) hn hk hne
 have XX := X0.nil.trans X
 have Clt := lt_of_get h.gC
 have lt : ∀ w' ∈ ws, w'.1 < s.length ∧ w'.2.1 < s.length := fun w' hw' => ⟨lt_of_get (h.rows w' hw').1, lt_of_get (h.rows w' hw').2⟩
 have nlt : ∀ w ∈ nws, s.length ≤ w.1 ∧ s.length ≤ w.2.1 := fun w hw => by obtain ⟨_, a, b⟩ := at_ w hw; exact om244 l0 a b
 refine ⟨_, s', nws, ⟨axV k, .int 2, x7, x8, x9, x10, x11, x12, z13, rfl⟩, fun k => ?_, XX, ⟨g, fun w hw => ?_, ⟨?_, fun w hw w' hw' => ?_⟩, fun w hw => ?_⟩, d, nlt⟩
 ·refine for_step (by rw [nxt_list hA, hx]) rfl ?_
  simp only [List.set_cons_succ, List.set_cons_zero]
  unfold axV at e ⊢
  rw [taken_hd kd4 hst (by exact big2), restT_ok (by exact big2) okX, if_neg q14.symm, if_neg q24.symm, if_neg q34.symm]
  exact e
 ·rcases List.mem_append.mp hw with c | c
  ·exact (h.rows w c).ext XX (by simpa using (h.nC w c).1) (by simpa using (h.nC w c).2)
  ·exact (at_ w c).1
 ·rw [List.map_append, List.nodup_append]
  refine ⟨h.ok.nd, ok.nd, ?_⟩
  intro a ha b' hb
  obtain ⟨w, hw, rfl⟩ := List.mem_map.mp ha
  obtain ⟨w', hw', rfl⟩ := List.mem_map.mp hb
  have := (lt w hw).1; have := (nlt w' hw').1; exact om191 (by assumption) this
 ·rcases List.mem_append.mp hw with c | c <;> rcases List.mem_append.mp hw' with d' | d'
  ·exact h.ok.fl w c w' d'
  ·have := (lt w c).2; have := (nlt w' d').1; exact om191 (by assumption) this
  ·have := (nlt w c).2; have := (lt w' d').1; exact om199 (by assumption) this
  ·exact ok.fl w c w' d'
 ·rcases List.mem_append.mp hw with c | c
  ·exact h.nC w c
  ·have := nlt w c; exact ⟨om245 Clt this, om246 Clt this⟩
theorem drop_cons {α : Type} {xs : List α} {j : Nat} {x : α} {r : List α} (h : xs.drop j = x :: r) : xs[j]? = some x ∧ xs.drop (j + 1) = r := by
 constructor
 ·have := List.getElem?_drop (xs := xs) (i := j) (j := 0)
  rw [h] at this; simpa using this.symm
 ·rw [← List.drop_drop, h]; rfl
inductive taken_F_O (b : Nat) (v : Nat) (C : Nat) (A : Nat) (um : Bool) (ls : Ls) (rs : List Lt) (pre : List Rw) (suf : List Rw) (vs : List V) (j : Nat) (ρ : Mine.Loc) (s : Hp) : Prop
 | mk (ρ' : Mine.Loc) (s' : Hp) (suf' : List Rw) (_ : TkR b v C A 0 ρ') (_ : (∀ k, go A (k + vs.length) j ρ s = go A k (j + vs.length) ρ' s')) (_ : CpAt s' C (pre ++ suf')) (_ : MirL um (rs.map (upd um ls)) (dt suf')) (_ : Ext (suf.map (·.1)) s s') (_ : suf'.map (·.1) = suf.map (·.1)) (_ : (∀ w ∈ suf', w.2.1 ∈ suf.map (·.2.1) ∨ s.length ≤ w.2.1)) : taken_F_O b v C A um ls rs pre suf vs j ρ s
theorem taken_F {b v C A : Nat} {bx ro U F M : V} {um uv : Bool} {ls : Ls} {lo hi : Nat} {xs rest : List V} (hlo : A ≥ hi ∧ lo ≤ hi) : ∀ (rs : List Lt) (pre suf : List Rw) (vs : List V) (j : Nat) (ρ : Loc) (s : Hp), TkR b v C A 0 ρ → s[A]? = some (.list xs) → s[v]? = some (.inst 105 [bx, ro, .bool um, .bool uv, U, F, M]) → CpAt s C (pre ++ suf) → MirL um rs (dt suf) → AnsF s lo hi um uv (fts um ls pre.length rs) vs → xs.drop j = vs ++ rest → (∀ r ∈ rs, okS r.fl ∧ ∀ l, stl um ls r = some l → okS l.fl ∧ l.u = r.u ∧ (um = false → r.fl ≠ l.fl) ∧ (um = true → r.ms ≠ l.ms)) → (pre ++ suf).length ≤ 900 → (∀ w ∈ suf, w.1 < lo) → taken_F_O b v C A um ls rs pre suf vs j ρ s := by
 intro rs
 induction rs with
 | nil =>
  intro pre suf vs j ρ s hρ hA hv hc hm ha hx hr hl hlt
  cases ha
  exact ⟨ρ, s, suf, hρ, fun k => rfl, hc, hm, Ext.refl _ _, rfl, fun w hw => .inl (List.mem_map.mpr ⟨w, hw, rfl⟩)⟩
 | cons r rs ih =>
  intro pre suf vs j ρ s hρ hA hv hc hm ha hx hr hl hlt
  obtain ⟨w, suf, rfl⟩ : ∃ w t, suf = w :: t := by
   cases suf with
   | nil => exact hm.elim
   | cons w t => exact ⟨w, t, rfl⟩
  obtain ⟨⟨m1, m2, m3⟩, mt⟩ := hm
  have hr' : ∀ q ∈ rs, okS q.fl ∧ ∀ l, stl um ls q = some l → okS l.fl ∧ l.u = q.u ∧ (um = false → q.fl ≠ l.fl) ∧ (um = true → q.ms ≠ l.ms) := fun q hq => hr q (by simp [hq])
  have hlt' : ∀ q ∈ suf, q.1 < lo := fun q hq => hlt q (by simp [hq])
  cases q : stl um ls r with
  | none =>
   have hu : upd um ls r = r := by unfold upd; rw [q]
   have ha' : AnsF s lo hi um uv (fts um ls (pre ++ [w]).length rs) vs := by
    simpa [fts, q] using ha
   have hc' : CpAt s C ((pre ++ [w]) ++ suf) := by simpa using hc
   obtain ⟨ρ', s', suf', r1, r2, r3, r4, r5, r6, r7⟩ := ih (pre ++ [w]) suf vs j ρ s hρ hA hv hc' mt ha' hx hr' (by simpa using hl) hlt'
   refine ⟨ρ', s', w :: suf', r1, r2, by simpa using r3, ?_, r5.mono (by intro a h; simp at h ⊢; exact .inr h), by simp [r6], ?_⟩
   ·rw [List.map_cons, hu]; exact ⟨⟨m1, m2, m3⟩, r4⟩
   ·intro w' hw'
    rcases List.mem_cons.mp hw' with rfl | c
    ·exact .inl (List.mem_cons_self)
    ·rcases r7 w' c with d | d
     ·exact .inl (List.mem_map.mpr (by obtain ⟨z, hz, e⟩ := List.mem_map.mp d; exact ⟨z, by simp [hz], e⟩))
     ·exact .inr d
  | some l =>
   have hu : upd um ls r = l := by unfold upd; rw [q]
   obtain ⟨okr, hl2⟩ := hr r (List.mem_cons_self)
   obtain ⟨okl, lu, lf, lm⟩ := hl2 l q
   have hf : fts um ls pre.length (r :: rs) = (pre.length, l) :: fts um ls (pre.length + 1) rs := by simp [fts, q]
   rw [hf] at ha
   obtain ⟨n, m, p, az, vs', rfl, hP, ha'⟩ := ha
   obtain ⟨hx1, hx2⟩ := drop_cons (show xs.drop j = V.tup [.str kFetch, .int ((pre.length : Int) + 1), .ref n] :: (vs' ++ rest) by simpa using hx)
   have hw : (pre ++ w :: suf)[pre.length]? = some w := by simp
   obtain ⟨ρ1, s1, f', t1, t2, X1, lf', c1⟩ := step_fetch hρ (Int.le_refl 0) hA hx1 hv hP hc hw (by simp at hl; exact om247 hl) (by rw [lu]; exact m1.symm) (by rw [m2]; exact okr) okl (by rw [m2]; exact lf) (fun h => by rw [m3 h]; exact lm h) (hlt w (List.mem_cons_self))
   have hset : (pre ++ w :: suf).set pre.length (w.1, f', ⟨w.2.2.u, l.fl, if um then l.ms else w.2.2.ms⟩) = (pre ++ [(w.1, f', ⟨w.2.2.u, l.fl, if um then l.ms else w.2.2.ms⟩)]) ++ suf := by
    rw [List.set_append_right _ _ (Nat.le_refl _)]; simp
   rw [hset] at c1
   have wlt := hlt w (List.mem_cons_self)
   have Aw : A ∉ [w.1] := by simp; exact om248 hlo wlt
   have vw : v ∉ [w.1] := by
    intro c; simp at c
    have := (hc.rows w (List.mem_append_right _ List.mem_cons_self)).1
    rw [← c, hv] at this; cases this
   have hA1 := X1.get _ _ hA Aw
   have hv1 := X1.get _ _ hv vw
   have ha1 : AnsF s1 lo hi um uv (fts um ls (pre ++ [(w.1, f', (⟨w.2.2.u, l.fl, if um then l.ms else w.2.2.ms⟩ : Lt))]).length rs) vs' := by
    have := ha'.ext X1 (by intro a h; simp at h; exact om249 wlt h) (Nat.le_refl _)
    simpa using this
   obtain ⟨ρ', s', suf', r1, r2, r3, r4, r5, r6, r7⟩ := ih (pre ++ [(w.1, f', ⟨w.2.2.u, l.fl, if um then l.ms else w.2.2.ms⟩)]) suf vs' (j + 1) ρ1 s1 t1 hA1 hv1 c1 mt ha1 hx2 hr' (by simpa using hl) hlt'
   refine ⟨ρ', s', (w.1, f', ⟨w.2.2.u, l.fl, if um then l.ms else w.2.2.ms⟩) :: suf', r1, fun k => ?_, by simpa using r3, ?_, ?_, by simp [r6], ?_⟩
   ·rw [List.length_cons, show k + (vs'.length + 1) = (k + vs'.length) + 1 by exact om250, t2, r2]
    congr 1; exact om142
   ·rw [List.map_cons, hu]
    exact ⟨⟨by rw [lu]; exact m1, rfl, fun h => by simp [h]⟩, r4⟩
   ·exact (X1.mono (sub0)).trans (r5.mono (by intro a h; simp at h ⊢; exact .inr h))
   ·intro w' hw'
    rcases List.mem_cons.mp hw' with rfl | c
    ·exact .inr lf'
    ·rcases r7 w' c with d | d
     ·exact .inl (by obtain ⟨z, hz, e⟩ := List.mem_map.mp d; exact List.mem_map.mpr ⟨z, by simp [hz], e⟩)
     ·have := X1.le; exact .inr (om251 d this)
theorem dt_erase (ws : List Rw) (i : Nat) : dt (ws.eraseIdx i) = (dt ws).eraseIdx i := (erase_map _ ws i).symm
theorem srt_drp {rs : List Lt} {u : Int} (h : Srt (us rs)) : Srt (us (drp rs u)) := by rw [us_drp]; exact srt_filter h
inductive taken_E_O (b : Nat) (v : Nat) (C : Nat) (A : Nat) (um : Bool) (g : List Int) (is : List Nat) (rs : List Lt) (ws : List Rw) (j : Nat) (ρ : Mine.Loc) (s : Hp) : Prop
 | mk (ρ' : Mine.Loc) (s' : Hp) (ws' : List Rw) (st' : Int) (_ : TkR b v C A st' ρ') (_ : st' ≤ 1) (_ : (∀ k, go A (k + is.length) j ρ s = go A k (j + is.length) ρ' s')) (_ : CpAt s' C ws') (_ : MirL um (drpA rs g) (dt ws')) (_ : Ext [C] s s') (_ : List.Sublist ws' ws) : taken_E_O b v C A um g is rs ws j ρ s
theorem taken_E {b v C A : Nat} {bx ro U F M : V} {um : Bool} {xs rest : List V} (hAC : A ≠ C) (hvC : v ≠ C) : ∀ (g : List Int) (is : List Nat) (rs : List Lt) (ws : List Rw) (j : Nat) (st : Int) (ρ : Loc) (s : Hp), TkR b v C A st ρ → st ≤ 1 → s[A]? = some (.list xs) → s[v]? = some (.inst 105 [bx, ro, .bool um, .bool false, U, F, M]) → CpAt s C ws → MirL um rs (dt ws) → Srt (us rs) → ExCh rs g is → xs.drop j = is.map exV ++ rest → ws.length ≤ 900 → taken_E_O b v C A um g is rs ws j ρ s := by
 intro g
 induction g with
 | nil =>
  intro is rs ws j st ρ s hρ hst hA hv hc hm hs he hx hl
  cases is with
  | nil => exact ⟨ρ, s, ws, st, hρ, hst, fun k => rfl, hc, by rw [drpA_nil]; exact hm, Ext.refl _ _, List.Sublist.refl _⟩
  | cons _ _ => exact he.elim
 | cons u g ih =>
  intro is rs ws j st ρ s hρ hst hA hv hc hm hs he hx hl
  cases is with
  | nil => exact he.elim
  | cons i is =>
   obtain ⟨h1, h2⟩ := he
   obtain ⟨hx1, hx2⟩ := drop_cons (show xs.drop j = exV i :: (is.map exV ++ rest) by simpa using hx)
   have hil : i < ws.length := by
    have a := (List.getElem?_eq_some_iff.mp h1).1
    have c := hm.len
    simp [us] at a; simp [dt] at c; exact om252 a c
   obtain ⟨ρ1, s1, t1, t2, X1, c1⟩ := step_expunge hρ hst hA hx1 hv hc hil hl
   have m1 : MirL um (drp rs u) (dt (ws.eraseIdx i)) := by rw [dt_erase]; exact hm.erase hs h1
   have el := List.length_eraseIdx_le ws i
   obtain ⟨ρ', s', ws', st', r1, r2, r3, r4, r5, r6, r7⟩ := ih is (drp rs u) (ws.eraseIdx i) (j + 1) 1 ρ1 s1 t1 (Int.le_refl 1) (X1.get _ _ hA (by simpa using hAC)) (X1.get _ _ hv (by simpa using hvC)) c1 m1 (srt_drp hs) h2 hx2 (om176 hl el)
   refine ⟨ρ', s', ws', st', r1, r2, fun k => ?_, r4, by rw [drpA_cons]; exact r5, X1.trans r6, r7.trans (List.eraseIdx_sublist _ _)⟩
   rw [List.length_cons, show k + (is.length + 1) = (k + is.length) + 1 by exact om250, t2, r3]
   congr 1; exact om142
theorem ru_dt (ws : List Rw) : ru ws = us (dt ws) := by simp [ru, us, dt]
theorem dt_filter (ws : List Rw) (p : Int → Bool) : dt (ws.filter fun w => p w.2.2.u) = (dt ws).filter fun d => p d.u := by
 simp only [dt, List.filter_map]; rfl
inductive taken_EV_O (b : Nat) (v : Nat) (C : Nat) (A : Nat) (um : Bool) (vE : List V) (rs : List Lt) (ws : List Rw) (j : Nat) (ρ : Mine.Loc) (s : Hp) (g : List Int) : Prop
 | mk (ρ' : Mine.Loc) (s' : Hp) (ws' : List Rw) (st' : Int) (_ : TkR b v C A st' ρ') (_ : st' ≤ 1) (_ : (∀ k, go A (k + vE.length) j ρ s = go A k (j + vE.length) ρ' s')) (_ : CpAt s' C ws') (_ : MirL um (drpA rs g) (dt ws')) (_ : Ext [C] s s') (_ : List.Sublist ws' ws) : taken_EV_O b v C A um vE rs ws j ρ s g
theorem taken_EV {b v C A : Nat} {bx ro U F M : V} {um uv : Bool} {xs rest vE : List V} {rs : List Lt} {ws : List Rw} {j : Nat} {st : Int} {ρ : Loc} {s : Hp} {g : List Int} (hAC : A ≠ C) (hvC : v ≠ C) (hρ : TkR b v C A st ρ) (hst : st ≤ 1)
  (hA : s[A]? = some (.list xs)) (hv : s[v]? = some (.inst 105 [bx, ro, .bool um, .bool uv, U, F, M])) (hc : CpAt s C ws) (hm : MirL um rs (dt ws)) (hs : Srt (us rs)) (he : AnsE uv rs g vE) (hx : xs.drop j = vE ++ rest) (hl : ws.length ≤ 900)
  (gs : ∀ u ∈ g, u ∈ us rs) (gb : ∀ u ∈ g, 0 ≤ u ∧ u ≤ 1000000) (gl : g.length ≤ 900) : taken_EV_O b v C A um vE rs ws j ρ s g := by
 unfold AnsE at he
 cases uv with
 | false =>
  rw [if_neg (by simp)] at he
  obtain ⟨is, rfl, ch⟩ := he
  obtain ⟨ρ', s', ws', st', a1, a2, a3, a4, a5, a6, a7⟩ := taken_E hAC hvC g is rs ws j st ρ s hρ hst hA hv hc hm hs ch hx hl
  exact ⟨ρ', s', ws', st', a1, a2, by simpa using a3, a4, a5, a6, a7⟩
 | true =>
  rw [if_pos rfl] at he
  rcases he with ⟨rfl, rfl⟩ | ⟨_, rgs, ex, rl, rle, rfl⟩
  ·exact ⟨ρ, s, ws, st, hρ, hst, fun k => rfl, hc, by rw [drpA_nil]; exact hm, Ext.refl _ _, List.Sublist.refl _⟩
  ·obtain ⟨hx1, hx2⟩ := drop_cons (show xs.drop j = vaV rgs :: rest by simpa using hx)
   obtain ⟨ρ1, s1, t1, t2, X1, c1⟩ := step_vanished hρ hst hA hx1 hv hc hl ex rl rle gl gb (fun u hu => by rw [ru_dt, hm.us]; exact gs u hu)
   refine ⟨ρ1, s1, _, 1, t1, Int.le_refl 1, fun k => t2 k, c1, ?_, X1, List.filter_sublist⟩
   rw [dt_filter ws (fun u => decide (u ∉ g))]
   exact hm.filter (p := fun u => decide (u ∉ g))
inductive taken_X_O (B : Bx) (v : Nat) (C : Nat) (A : Nat) (um : Bool) (rs : List Lt) (ws : List Rw) (j : Nat) (ρ : Mine.Loc) (s : Hp) (av : List V) : Prop
 | mk (ρ' : Mine.Loc) (s' : Hp) (nws : List Rw) (st' : Int) (_ : TkR B.b v C A st' ρ') (_ : (∀ k, go A (k + (av).length) j ρ s = go A k (j + (av).length) ρ' s')) (_ : CpAt s' C (ws ++ nws)) (_ : MirL um (rs ++ (newL rs B.ls).map (·.2)) (dt (ws ++ nws))) (_ : Ext [C] s s') (_ : ∀ w ∈ nws, s.length ≤ w.1 ∧ s.length ≤ w.2.1) : taken_X_O B v C A um rs ws j ρ s av
theorem taken_X {B : Bx} {v C A : Nat} {um : Bool} {xs : List V} {rs : List Lt} {ws : List Rw} {j : Nat} {st : Int} {ρ : Loc} {s : Hp} (hρ : TkR B.b v C A st ρ) (hst : st ≤ 1) (hA : s[A]? = some (.list xs)) (hB : BxAt s B) (kB : BxOk B) (hc : CpAt s C ws)
  (hm : MirL um rs (dt ws)) (hx : xs.drop j = arrA (newL rs B.ls).length (rs.length + (newL rs B.ls).length)) (hl : ws.length ≤ 900) : taken_X_O B v C A um rs ws j ρ s (arrA (newL rs B.ls).length (rs.length + (newL rs B.ls).length)) := by
 have hru : ru ws = us rs := by rw [ru_dt, hm.us]
 have hnl : (B.ls.filter fun p => decide (p.2.u ∉ ru ws)) = newL rs B.ls := by rw [hru]; rfl
 have hlen : ws.length = rs.length := by have := hm.len; simpa [dt] using this
 by_cases q : newL rs B.ls = []
 ·refine ⟨ρ, s, [], st, hρ, fun k => ?_, by simpa using hc, by rw [q]; simpa using hm, Ext.refl _ _, by simp⟩
  rw [q]; rfl
 ·have h0 : (newL rs B.ls).length ≠ 0 := fun c => q (List.length_eq_zero_iff.mp c)
  have ha : arrA (newL rs B.ls).length (rs.length + (newL rs B.ls).length) = [axV (rs.length + (newL rs B.ls).length)] := by unfold arrA; rw [if_neg h0]
  rw [ha] at hx ⊢
  obtain ⟨hx1, _⟩ := drop_cons hx
  obtain ⟨ρ1, s1, nws, t1, t2, X1, c1, d1, n1⟩ := step_exists hρ (om253 hst) hA hx1 hB kB hc hl (by rw [hnl, hlen]) (by rw [hnl]; exact q)
  refine ⟨ρ1, s1, nws, 2, t1, fun k => t2 k, c1, ?_, X1, n1⟩
  have : dt (ws ++ nws) = dt ws ++ (newL rs B.ls).map (·.2) := by rw [← hnl, ← d1]; simp [dt]
  rw [this]
  exact hm.app (MirL.refl _)
theorem fts_len (um : Bool) (ls : Ls) : ∀ (rs : List Lt) (k : Nat), (fts um ls k rs).length ≤ rs.length
 | [], k => by simp [fts]
 | r :: rs, k => by
  simp only [fts, List.length_append, List.length_cons]
  have := fts_len um ls rs (k + 1)
  split <;> simp <;> (first | exact om189 this | exact om84 this)
theorem told_us {um may : Bool} {rs : List Lt} {ls : Ls} : us (told um may rs ls) = if may then (us rs).filter fun w => decide (w ∉ goneU rs ls) else us rs := by
 unfold told
 cases may with
 | false => simp only [Bool.false_eq_true, if_false]; exact us_upd um ls rs
 | true => simp only [if_true]; rw [us_drpA, us_upd]
theorem told_srt {um may : Bool} {rs : List Lt} {ls : Ls} (h : Srt (us rs)) : Srt (us (told um may rs ls)) := by
 rw [told_us]
 cases may with
 | false => simpa using h
 | true => simpa using srt_filter h
theorem told_mem {um may : Bool} {rs : List Lt} {ls : Ls} {r : Lt} (h : r ∈ told um may rs ls) : r ∈ rs.map (upd um ls) := by
 unfold told at h
 cases may with
 | false => simpa using h
 | true => simp only [if_true] at h; exact (List.mem_filter.mp h).1
inductive taken_ok_O (B : Bx) (v : Nat) (C : Nat) (A : Nat) (um : Bool) (may : Bool) (s : Hp) (rs : List Lt) (ws : List Rw) : Prop
 | mk (s' : Hp) (ws' : List Rw) (_ : f_law_taken [.ref B.b, .ref v, .ref C, .ref A] s = some (.bool true, s')) (_ : CpAt s' C ws') (_ : MirL um (newsR um may rs B.ls) (dt ws')) (_ : Ext (C :: ws.map (·.1)) s s') (_ : ∀ w ∈ ws', (w.1 ∈ ws.map (·.1) ∨ s.length ≤ w.1) ∧ (w.2.1 ∈ ws.map (·.2.1) ∨ s.length ≤ w.2.1)) : taken_ok_O B v C A um may s rs ws
theorem taken_ok {B : Bx} {v C A : Nat} {ro U F M : V} {um uv may : Bool} {lo hi : Nat} {s : Hp} {rs : List Lt} {ws : List Rw} {vF vE : List V}
  (hB : BxAt s B) (kB : BxOk B) (kn : Kn rs B) (hnu : B.nu ≤ 1000) (hs : Srt (us rs)) (hok : ∀ r ∈ rs, okS r.fl) (hl : rs.length ≤ 100) (hv : s[v]? = some (.inst 105 [.ref B.b, ro, .bool um, .bool uv, U, F, M]))
  (hA : s[A]? = some (.list (vF ++ vE ++ arrA (newL (told um may rs B.ls) B.ls).length (newsR um may rs B.ls).length))) (hF : AnsF s lo hi um uv (fts um B.ls 0 rs) vF)
  (hE : if may then AnsE uv (rs.map (upd um B.ls)) (goneU rs B.ls) vE else vE = []) (hc : CpAt s C ws) (hm : MirL um rs (dt ws))
  (hlo : hi ≤ A ∧ lo ≤ hi) (hCl : C < lo) (hwl : ∀ w ∈ ws, w.1 < lo) (hoff : B.b ∉ C :: ws.map (·.1) ∧ B.L ∉ C :: ws.map (·.1) ∧ B.G ∉ C :: ws.map (·.1) ∧ ∀ p ∈ B.ls, p.1 ∉ C :: ws.map (·.1)) : taken_ok_O B v C A um may s rs ws := by
 have hws : ws.length = rs.length := by have := hm.len; simpa [dt] using this
 have lF : vF.length ≤ 100 := by rw [hF.len]; exact Nat.le_trans (fts_len _ _ _ _) hl
 have gl : (goneU rs B.ls).length ≤ 100 := Nat.le_trans (List.length_filter_le _ _) (by simpa [us] using hl)
 have lE : vE.length ≤ 100 := by
  cases may with
  | false => simp only [Bool.false_eq_true, if_false] at hE; rw [hE]; simp
  | true =>
   simp only [if_true] at hE
   unfold AnsE at hE
   cases uv with
   | false =>
    rw [if_neg (by simp)] at hE
    obtain ⟨is, rfl, ch⟩ := hE
    rw [List.length_map, ch.len]; exact gl
   | true =>
    rw [if_pos rfl] at hE
    rcases hE with ⟨_, rfl⟩ | ⟨_, rgs, _, _, _, rfl⟩ <;> simp
 generalize hxs : vF ++ vE ++ arrA (newL (told um may rs B.ls) B.ls).length (newsR um may rs B.ls).length = xs at *
 have lenR : (newsR um may rs B.ls).length = (told um may rs B.ls).length + (newL (told um may rs B.ls) B.ls).length := by simp [newsR]
 have lX : (arrA (newL (told um may rs B.ls) B.ls).length (newsR um may rs B.ls).length).length ≤ 1 := by unfold arrA; split <;> simp
 have vC : v ≠ C := by intro c; rw [c, hc.gC] at hv; cases hv
 obtain ⟨ρ1, s1, ws1, a1, a2, a3, a4, a5, a6, a7⟩ := taken_F (b := B.b) (C := C) (xs := xs) (rest := vE ++ arrA (newL (told um may rs B.ls) B.ls).length (newsR um may rs B.ls).length) (ls := B.ls) ⟨hlo.1, hlo.2⟩ rs [] ws vF 0
  [.ref B.b, .ref v, .ref C, .ref A, .int 0, .undef, .undef, .undef, .undef, .undef, .undef, .undef, .undef, .undef] s ⟨_, _, _, _, _, _, _, _, _, rfl⟩ hA hv (by simpa using hc) hm hF (by rw [List.drop_zero, ← hxs]; simp) (by
   intro r hr
   refine ⟨hok r hr, fun l hl => ?_⟩
   obtain ⟨lu, p, hp, rfl, st⟩ := stl_u hl
   obtain ⟨hp1, hp2⟩ := fnd_some hp
   refine ⟨(kB.lo p hp1).2.2.2, lu, fun h => ?_, fun h c => ?_⟩
   ·unfold stale at st; rw [h] at st; simpa using st
   ·have := kn.same p hp1 r hr hp2.symm c
    unfold stale at st
    rw [this, c] at st
    simp at st) (by simp; exact om254 hl hws) (by simpa using hwl)
 simp only [List.nil_append] at a3
 have hB1 : BxAt s1 B := hB.ext a5 (fun c => hoff.1 (by simp at c ⊢; exact .inr c)) (fun c => hoff.2.1 (by simp at c ⊢; exact .inr c)) (fun c => hoff.2.2.1 (by simp at c ⊢; exact .inr c)) (fun p hp c => hoff.2.2.2 p hp (by simp at c ⊢; exact .inr c))
 have AnotR : A ∉ ws.map (·.1) := by
  intro c; obtain ⟨w, hw, e⟩ := List.mem_map.mp c
  have := hwl w hw; exact om255 hlo e this
 have vnotR : v ∉ ws.map (·.1) := by
  intro c; obtain ⟨w, hw, e⟩ := List.mem_map.mp c
  have := (hc.rows w hw).1
  rw [e, hv] at this; cases this
 have hA1 := a5.get _ _ hA AnotR
 have hv1 := a5.get _ _ hv vnotR
 have hw1 : ws1.length = ws.length := by have := congrArg List.length a6; simpa using this
 have mid : ∃ ρ2 s2 ws2 st2, TkR B.b v C A st2 ρ2 ∧ st2 ≤ 1 ∧ (∀ k, go A (k + vE.length) (0 + vF.length) ρ1 s1 = go A k ((0 + vF.length) + vE.length) ρ2 s2) ∧ CpAt s2 C ws2 ∧ MirL um (told um may rs B.ls) (dt ws2) ∧ Ext [C] s1 s2 ∧ List.Sublist ws2 ws1 := by
  cases may with
  | false =>
   simp only [Bool.false_eq_true, if_false] at hE
   subst hE
   exact ⟨ρ1, s1, ws1, 0, a1, om256, fun k => rfl, a3, by unfold told; simpa using a4, Ext.refl _ _, List.Sublist.refl _⟩
  | true =>
   simp only [if_true] at hE
   have ee : told um true rs B.ls = drpA (rs.map (upd um B.ls)) (goneU rs B.ls) := by unfold told; rw [if_pos rfl]
   rw [ee]
   obtain ⟨y1, y2, y3, y4, y5, y6, y7, y8, y9, y10, y11⟩ := taken_EV (j := 0 + vF.length) (om257 hlo hCl) vC a1 (om256) hA1 hv1 a3 a4 (by rw [us_upd]; exact hs) hE (rest := arrA (newL (told um true rs B.ls) B.ls).length (newsR um true rs B.ls).length) (by rw [← hxs, Nat.zero_add, List.append_assoc, List.drop_left]) (om258 hl hws hw1) (fun u hu => by rw [us_upd]; exact (List.mem_filter.mp hu).1) (fun u hu => by
     obtain ⟨r, hr, e⟩ := List.mem_map.mp (List.mem_filter.mp hu).1
     have := kn.hi r hr; exact om260 hnu e this) (om259 gl)
   exact ⟨y1, y2, y3, y4, y5, y6, y7, y8, y9, y10, y11⟩
 obtain ⟨ρ2, s2, ws2, st2, b1, b2, b3, b4, b5, b6, b7⟩ := mid
 have hB2 : BxAt s2 B := hB1.ext b6 (fun c => hoff.1 (by simp at c ⊢; exact .inl c)) (fun c => hoff.2.1 (by simp at c ⊢; exact .inl c)) (fun c => hoff.2.2.1 (by simp at c ⊢; exact .inl c)) (fun p hp c => hoff.2.2.2 p hp (by simp at c ⊢; exact .inl c))
 have hA2 := b6.get _ _ hA1 (by simp; exact om261 hlo hCl)
 have l21 := b7.length_le
 obtain ⟨ρ3, s3, nws, st3, c1, c2, c3, c4, c5, c6⟩ := taken_X b1 b2 hA2 hB2 kB b4 b5 (j := (0 + vF.length) + vE.length) (by rw [← lenR, ← hxs, Nat.zero_add, ← List.length_append]; exact List.drop_left) (om262 hl hws hw1 l21)
 have hA3 := c5.get _ _ hA2 (by simp; exact om261 hlo hCl)
 rw [← lenR] at c2
 have s12 := (a5.le); have s23 := b6.le
 refine ⟨s3, ws2 ++ nws, ?_, c3, c4, ((a5.mono (fun a h => List.mem_cons_of_mem _ h)).trans (b6.mono (sub0))).trans (c5.mono (sub0)), fun w hw => ?_⟩
 ·have lxs : xs.length = vF.length + vE.length + (arrA (newL (told um may rs B.ls) B.ls).length (newsR um may rs B.ls).length).length := by rw [← hxs, List.length_append, List.length_append]
  have e1 := a2 ((1000 - xs.length + (arrA (newL (told um may rs B.ls) B.ls).length (newsR um may rs B.ls).length).length) + vE.length)
  rw [b3, c2] at e1
  have e2 : (0 + vF.length) + vE.length + (arrA (newL (told um may rs B.ls) B.ls).length (newsR um may rs B.ls).length).length = xs.length := by exact om263 lxs
  rw [e2] at e1
  have e3 : 1000 - xs.length + (arrA (newL (told um may rs B.ls) B.ls).length (newsR um may rs B.ls).length).length + vE.length + vF.length = 1000 := by exact om264 lF lE lX lxs
  rw [e3] at e1
  have e4 : go A (1000 - xs.length) xs.length ρ3 s3 = some (.next, ρ3, s3) := by
   rw [show 1000 - xs.length = (999 - xs.length) + 1 by exact om265 lF lE lX e3]
   refine for_stop ?_
   rw [nxt_list hA3, List.getElem?_eq_none (Nat.le_refl _)]
  rw [e4] at e1
  have e5 : l_law_taken [.ref B.b, .ref v, .ref C, .ref A, .int 0, .undef, .undef, .undef, .undef, .undef, .undef, .undef, .undef, .undef] s = some (.next, ρ3, s3) := by
   have m : (mkV (var 3)) [.ref B.b, .ref v, .ref C, .ref A, .int 0, .undef, .undef, .undef, .undef, .undef, .undef, .undef, .undef, .undef] s = some (.list A, s) := by simp only [MSX, hA]
   show (mkV _ _ _).bind _ = _
   rw [m]; exact e1
  obtain ⟨x5, x6, x7, x8, x9, x10, x11, x12, x13, rfl⟩ := c1
  simp only [f_law_taken, f_law_taken_body, MSX, e5]
 ·rcases List.mem_append.mp hw with d | d
  ·have d1 := b7.subset d
   refine ⟨.inl ?_, ?_⟩
   ·rw [← a6]; exact List.mem_map.mpr ⟨w, d1, rfl⟩
   ·rcases a7 w d1 with q | q
    ·exact .inl q
    ·exact .inr q
  ·have := c6 w d; exact ⟨.inr (om266 s12 s23 this), .inr (om267 s12 s23 this)⟩
theorem srt_ext : ∀ {a b : List Int}, Srt a → Srt b → (∀ x, x ∈ a ↔ x ∈ b) → a = b
 | [], [], _, _, _ => rfl
 | [], y :: ys, _, _, h => by have := (h y).mpr (List.mem_cons_self); simp at this
 | x :: xs, [], _, _, h => by have := (h x).mp (List.mem_cons_self); simp at this
 | x :: xs, y :: ys, ha, hb, h => by
  unfold Srt at ha hb
  rw [List.pairwise_cons] at ha hb
  have exy : x = y := by
   rcases List.mem_cons.mp ((h x).mp (List.mem_cons_self)) with e | e
   ·exact e
   ·rcases List.mem_cons.mp ((h y).mpr (List.mem_cons_self)) with d | d
    ·exact d.symm
    ·have := ha.1 y d; have := hb.1 x e; exact om268 (by assumption) this
  subst exy
  congr 1
  refine srt_ext ha.2 hb.2 fun z => ⟨fun hz => ?_, fun hz => ?_⟩
  ·rcases List.mem_cons.mp ((h z).mp (by simp [hz])) with e | e
   ·have := ha.1 z hz; exact (om269 e this).elim
   ·exact e
  ·rcases List.mem_cons.mp ((h z).mpr (by simp [hz])) with e | e
   ·have := hb.1 z hz; exact (om269 e this).elim
   ·exact e
theorem kn_told {um may : Bool} {rs : List Lt} {B : Bx} (kB : BxOk B) (kn : Kn rs B) : Kn (told um may rs B.ls) B := by
 cases may with
 | false => exact kn.upd kB
 | true =>
  have := (kn.upd (um := um) kB).drpA
  rw [goneU_upd] at this
  exact this
theorem fresh_sub {um : Bool} {rs rs' : List Lt} {ls : Ls} (h : Fresh um rs ls) (hs : ∀ r ∈ rs', r ∈ rs) : Fresh um rs' ls :=
 ⟨fun p hp r hr => h.fl p hp r (hs r hr), fun hm p hp r hr => h.ms hm p hp r (hs r hr)⟩
structure Done (um may : Bool) (R : List Lt) (B : Bx) : Prop where
 srt : Srt (us R)
 all : ∀ p ∈ B.ls, p.2.u ∈ us R
 fr : Fresh um R B.ls
 may_ : may = true → ∀ r ∈ R, r.u ∈ keys B.ls
 kn : Kn R B
 ok : ∀ r ∈ R, okS r.fl
theorem news_done {um may : Bool} {rs : List Lt} {B : Bx} (kB : BxOk B) (kn : Kn rs B) (hs : Srt (us rs)) (hok : ∀ r ∈ rs, okS r.fl) : Done um may (newsR um may rs B.ls) B := by
 have kT := kn_told (um := um) (may := may) kB kn
 have sT := told_srt (um := um) (may := may) (ls := B.ls) hs
 have fT : Fresh um (told um may rs B.ls) B.ls := fresh_sub (upd_fresh kB.srt) fun r hr => told_mem hr
 have eu : us (newsR um may rs B.ls) = us (told um may rs B.ls) ++ keys (newL (told um may rs B.ls) B.ls) := by simp [newsR, us, keys]
 have mR : ∀ r ∈ newsR um may rs B.ls, r ∈ told um may rs B.ls ∨ ∃ p ∈ B.ls, p.2 = r ∧ p.2.u ∉ us (told um may rs B.ls) := by
  intro r hr
  rcases List.mem_append.mp hr with c | c
  ·exact .inl c
  ·obtain ⟨p, hp, e⟩ := List.mem_map.mp c
   obtain ⟨h1, h2⟩ := newL_mem hp
   exact .inr ⟨p, h1, e, h2⟩
 have all : ∀ p ∈ B.ls, p.2.u ∈ us (newsR um may rs B.ls) := by
  intro p hp
  rw [eu, List.mem_append]
  by_cases c : p.2.u ∈ us (told um may rs B.ls)
  ·exact .inl c
  ·right
   exact List.mem_map.mpr ⟨p, by unfold newL; exact List.mem_filter.mpr ⟨hp, by simpa using c⟩, rfl⟩
 have fr : Fresh um (newsR um may rs B.ls) B.ls := by
  constructor
  ·intro p hp r hr hu
   rcases mR r hr with c | ⟨q, hq, rfl, _⟩
   ·exact fT.fl p hp r c hu
   ·rw [keys_uniq kB.srt hq hp hu]
  ·intro hm p hp r hr hu
   rcases mR r hr with c | ⟨q, hq, rfl, _⟩
   ·exact fT.ms hm p hp r c hu
   ·rw [keys_uniq kB.srt hq hp hu]
 refine ⟨?_, all, fr, fun hm r hr => ?_, ⟨fun p hp => .inl (all p hp), fun r hr => ?_, fun p hp r hr hu _ => fr.fl p hp r hr hu, fun r hr => ?_⟩, fun r hr => ?_⟩
 ·rw [eu]
  unfold Srt
  rw [List.pairwise_append]
  refine ⟨sT, keys_newL_srt kB.srt, fun a ha b hb => ?_⟩
  obtain ⟨p, hp, rfl⟩ := List.mem_map.mp hb
  obtain ⟨h1, h2⟩ := newL_mem hp
  obtain ⟨r, hr, rfl⟩ := List.mem_map.mp ha
  rcases kT.old p h1 with c | c
  ·exact absurd c h2
  ·exact c r hr
 ·rcases mR r hr with c | ⟨q, hq, rfl, _⟩
  ·subst hm
   have hu : r.u ∈ us (told um true rs B.ls) := List.mem_map.mpr ⟨r, c, rfl⟩
   rw [told_us] at hu
   simp only [if_true] at hu
   obtain ⟨h1, h2⟩ := List.mem_filter.mp hu
   simp only [decide_eq_true_eq] at h2
   by_cases d : r.u ∈ keys B.ls
   ·exact d
   ·exact absurd (List.mem_filter.mpr ⟨h1, by simpa using d⟩) h2
  ·exact List.mem_map.mpr ⟨q, hq, rfl⟩
 ·rcases mR r hr with c | ⟨q, hq, rfl, _⟩
  ·exact kT.ms r c
  ·exact (kB.lo q hq).2.2.1
 ·rcases mR r hr with c | ⟨q, hq, rfl, _⟩
  ·exact kT.hi r c
  ·have := kB.lo q hq; exact ⟨this.1, this.2.1⟩
 ·rcases mR r hr with c | ⟨q, hq, rfl, _⟩
  ·obtain ⟨q, hq, rfl⟩ := List.mem_map.mp (told_mem c)
   rcases upd_cases um B.ls q with d | ⟨p, hp, _, d⟩
   ·rw [d]; exact hok q hq
   ·rw [d]; exact (kB.lo p hp).2.2.2
  ·exact (kB.lo q hq).2.2.2
set_option tactic.hygienic true in
theorem Done.stl {um may : Bool} {R : List Lt} {B : Bx} (d : Done um may R B) {r : Lt} (hr : r ∈ R) : Mine.stl um B.ls r = none := by
 unfold Mine.stl
 split
 ·rename_i p hp
  obtain ⟨h1, h2⟩ := fnd_some hp
  have a := d.fr.fl p h1 r hr h2.symm
  have : stale um r p.2 = false := by
   unfold stale
   cases c : um with
   | false => simp [a]
   | true => have b := d.fr.ms c p h1 r hr h2.symm; simp [a, b]
  rw [this]; rfl
 ·rfl
theorem fts_none {um : Bool} {ls : Ls} : ∀ {rs : List Lt} {k : Nat}, (∀ r ∈ rs, Mine.stl um ls r = none) → fts um ls k rs = []
 | [], _, _ => rfl
 | r :: rs, k, h => by
  simp only [fts, h r (List.mem_cons_self)]
  exact fts_none fun q hq => h q (by simp [hq])
theorem Done.again {um may : Bool} {R : List Lt} {B : Bx} (d : Done um may R B) :
  fts um B.ls 0 R = [] ∧ (may = true → goneU R B.ls = []) ∧ told um may R B.ls = R ∧ newL (told um may R B.ls) B.ls = [] ∧ newsR um may R B.ls = R := by
 have hu : R.map (upd um B.ls) = R := by
  conv => rhs; rw [← List.map_id R]
  apply List.map_congr_left
  intro r hr
  unfold upd; rw [d.stl hr]; rfl
 have hg : may = true → goneU R B.ls = [] := by
  intro hm
  unfold goneU
  rw [List.filter_eq_nil_iff]
  intro u hu
  obtain ⟨r, hr, rfl⟩ := List.mem_map.mp hu
  simpa using d.may_ hm r hr
 have ht : told um may R B.ls = R := by
  unfold told
  cases hm : may with
  | false => simpa using hu
  | true => simp only [if_true]; rw [hu, hg hm, drpA_nil]
 have hn : newL R B.ls = [] := by
  unfold newL
  rw [List.filter_eq_nil_iff]
  intro p hp
  simpa using d.all p hp
 exact ⟨fts_none fun r hr => d.stl hr, hg, ht, by rw [ht]; exact hn, by unfold newsR; rw [ht, hn]; simp⟩
theorem Done.there {um may : Bool} {R : List Lt} {B : Bx} (kB : BxOk B) (d : Done um may R B) : ((us R).filter fun u => decide (u ∈ keys B.ls)) = keys B.ls := by
 refine srt_ext (srt_filter d.srt) kB.srt fun x => ?_
 rw [List.mem_filter]
 refine ⟨fun h => by simpa using h.2, fun h => ⟨?_, by simpa using h⟩⟩
 obtain ⟨p, hp, rfl⟩ := List.mem_map.mp h
 exact d.all p hp
theorem Done.up {um may : Bool} {R : List Lt} {B : Bx} (kB : BxOk B) (d : Done um may R B) : (us R = keys B.ls) ↔ R.length = B.ls.length := by
 constructor
 ·intro h; have := congrArg List.length h; simpa [us, keys] using this
 ·intro h
  have a := d.there kB
  have l : ((us R).filter fun u => decide (u ∈ keys B.ls)).length = (us R).length := by rw [a]; simp [us, keys, h]
  have f := List.filter_eq_self.mpr (List.length_filter_eq_length_iff.mp l)
  rw [f] at a; exact a
theorem srt_len : ∀ {ks : List Int} {lo hi : Int}, Srt ks → (∀ k ∈ ks, lo ≤ k ∧ k < hi) → lo ≤ hi → (ks.length : Int) ≤ hi - lo
 | [], lo, hi, _, _, h => by simp; exact h
 | k :: ks, lo, hi, hs, hb, h => by
  unfold Srt at hs
  rw [List.pairwise_cons] at hs
  have hk := hb k (List.mem_cons_self)
  have := srt_len (lo := k + 1) (hi := hi) hs.2 (fun q hq => ⟨by have := hs.1 q hq; exact om270 this, (hb q (by simp [hq])).2⟩) (om271 hk)
  simp only [List.length_cons]; exact om272 hk this
theorem MirL.mem {um : Bool} : ∀ {rs ds : List Lt}, MirL um rs ds → ∀ d ∈ ds, ∃ r ∈ rs, d.u = r.u ∧ d.fl = r.fl ∧ (um = true → d.ms = r.ms)
 | [], [], _, d, hd => by cases hd
 | r :: rs, e :: ds, ⟨a, t⟩, d, hd => by
  rcases List.mem_cons.mp hd with rfl | c
  ·exact ⟨r, by exact List.mem_cons_self, a⟩
  ·obtain ⟨q, hq, h⟩ := t.mem d c
   exact ⟨q, by simp [hq], h⟩
 | [], _ :: _, h, _, _ => h.elim
 | _ :: _, [], h, _, _ => h.elim
theorem MirL.fresh {um : Bool} {rs ds : List Lt} {ls : Ls} (h : MirL um rs ds) (f : Fresh um rs ls) : Fresh um ds ls := by
 constructor
 ·intro p hp d hd hu
  obtain ⟨r, hr, a, b, _⟩ := h.mem d hd
  rw [b]; exact f.fl p hp r hr (a.symm.trans hu)
 ·intro hm p hp d hd hu
  obtain ⟨r, hr, a, _, c⟩ := h.mem d hd
  rw [c hm]; exact f.ms hm p hp r hr (a.symm.trans hu)
theorem MirL.pairs {um : Bool} : ∀ {rs ds : List Lt}, MirL um rs ds → rs.map (fun r => (r.u, r.fl)) = ds.map fun r => (r.u, r.fl)
 | [], [], _ => rfl
 | r :: rs, d :: ds, ⟨⟨a, b, _⟩, t⟩ => by simp only [List.map_cons, a, b, t.pairs]
 | [], _ :: _, h => h.elim
 | _ :: _, [], h => h.elim
noncomputable def tz (z : Nat × Lt) : V := .tup [.int z.2.u, .ref z.1]
noncomputable def dz (z : Nat × Lt) : PyData := .tuple [.int z.2.u, .list (z.2.fl.map .str)]
theorem rd_tz {σ : Hp} {z : Nat × Lt} (h : σ[z.1]? = some (.list (vS z.2.fl))) : rd 5 σ (tz z) = some (dz z) := by
 have a : rd 4 σ (.int z.2.u) = some (.int z.2.u) := rd_int
 have b : rd 4 σ (.ref z.1) = some (.list (z.2.fl.map .str)) := rd_strs h
 show (([.int z.2.u, .ref z.1] : List V).mapM (rd 4 σ)).map PyData.tuple = _
 simp only [List.mapM_cons, List.mapM_nil, a, b, Option.pure_def, Option.bind_eq_bind, Option.bind_some, Option.map_some]
 rfl
theorem pl_dz {zs : List (Nat × Lt)} (h : ∀ z ∈ zs, okS z.2.fl) : pl (.list (zs.map dz)) = true := by
 simp only [pl_l, plA_all, List.all_map, List.all_eq_true, Function.comp]
 intro z hz
 have := pl_strs (h z hz)
 show (true && (plA (z.2.fl.map .str) && true)) = true
 rw [this]; rfl
theorem eqB_tz {σ : Hp} {n m : Nat} {zs ys : List (Nat × Lt)} (hn : σ[n]? = some (.list (zs.map tz))) (hm : σ[m]? = some (.list (ys.map tz))) (hz : ∀ z ∈ zs, σ[z.1]? = some (.list (vS z.2.fl))) (hy : ∀ z ∈ ys, σ[z.1]? = some (.list (vS z.2.fl)))
  (oz : ∀ z ∈ zs, okS z.2.fl) (oy : ∀ z ∈ ys, okS z.2.fl) (e : zs.map (fun z => (z.2.u, z.2.fl)) = ys.map fun z => (z.2.u, z.2.fl)) : eqB (.ref n) (.ref m) σ = some true := by
 refine eqB_rd (rd_list hn fun z h => rd_tz (hz z h)) (rd_list hm fun z h => rd_tz (hy z h)) (pl_dz oz) (pl_dz oy) ?_
 have := congrArg (List.map fun q : Int × List Str => PyData.tuple [.int q.1, .list (q.2.map .str)]) e
 simp only [List.map_map] at this
 simp only [true_iff]
 exact congrArg PyData.list this
inductive told_list_O (mk : Mk) (s0 : Hp) (s : Hp) (ρ : Mine.Loc) (R : List Lt) : Prop
 | mk (zs : List (Nat × Lt)) (s' : Hp) (_ : cComp mk 3 [] (asg3 (stA 0) (stA 1) (stA 2)) tYes (mkTup (consL (var 0) (consL (callL (consL (var 1) nilL) bList) nilL))) 1000 ρ s0 = some (.ref s'.length, s' ++ [O.list (zs.map tz)])) (_ : Ext [] s s') (_ : zs.map (·.2) = R) (_ : ∀ z ∈ zs, s'[z.1]? = some (.list (vS z.2.fl))) : told_list_O mk s0 s ρ R
theorem told_list {mk : Mk} {s0 s : Hp} {ρ : Loc} {R : List Lt} (hm : mk ρ s0 = some (.tup (R.map toldV), s)) (hl : R.length < 1000) (ok : ∀ r ∈ R, okS r.fl) : told_list_O mk s0 s ρ R := by
 obtain ⟨ys, s', e1, X, zs, e2, e3, e4⟩ := comp_run (src := .tup (R.map toldV)) (a := asg3 (stA 0) (stA 1) (stA 2)) (t := tYes) (e := mkTup (consL (var 0) (consL (callL (consL (var 1) nilL) bList) nilL))) (xs := R.map toldV) (own := fun r => ∃ a b c, r = [a, b, c])
  (fun i ys t => Ext [] s t ∧ ∃ zs : List (Nat × Lt), ys = zs.map tz ∧ zs.map (·.2) = R.take i ∧ ∀ z ∈ zs, t[z.1]? = some (.list (vS z.2.fl)))
  (fun i ys t _ _ => nxt_tup i) (by
   rintro i x q ys t ⟨a, b, c, rfl⟩ hx ⟨X, zs, rfl, h2, h3⟩
   obtain ⟨r, hr, rfl⟩ : ∃ r, R[i]? = some r ∧ x = toldV r := by
    simp only [List.getElem?_map, Option.map_eq_some_iff] at hx
    obtain ⟨r, a, b⟩ := hx; exact ⟨r, a, b.symm⟩
   have hl : (vS r.fl).length ≤ big := by have := (ok r (List.mem_of_getElem? hr)).1; simp [vS, big]; exact om215 this
   have fvd : fv r.fl = .tup (vS r.fl) := rfl
   refine ⟨[.int r.u, .tup (vS r.fl), .int r.ms], t, true, t, rfl, ⟨_, _, _, rfl⟩, rfl, .inr ⟨rfl, tz (t.length, r), t ++ [O.list (vS r.fl)], ?_, X.trans (Ext.app _ _), zs ++ [(t.length, r)], by simp, ?_, ?_⟩⟩
   ·simp only [bList, MSX, hl, tz]
   ·rw [List.map_append, h2, List.take_succ, hr]; rfl
   ·intro z hz
    rcases List.mem_append.mp hz with d | d
    ·exact old_get (h3 z d)
    ·rw [List.mem_singleton.mp d]; exact new_get _ _) (R.map toldV).length 0 1000 [.undef, .undef, .undef] [] s ⟨_, _, _, rfl⟩ (Nat.zero_add _) (by simpa using hl) ⟨Ext.refl _ _, [], rfl, by rfl, by simp⟩
 rw [List.nil_append] at e2
 subst e2
 refine ⟨zs, s', ?_, X, by rw [e3]; exact List.take_of_length_le (Nat.le_of_eq (List.length_map _).symm), e4⟩
 show (mk ρ _).bind _ = _
 rw [hm]
 simp only [Option.bind_some, compLoc, List.replicate_succ, List.replicate_zero, List.cons_append, List.nil_append, List.map_nil, List.append_nil, e1]
theorem fnd_isSome {ls : Ls} {u : Int} : (fnd ls u).isSome = decide (u ∈ keys ls) := by
 cases q : fnd ls u with
 | some p =>
  obtain ⟨h1, h2⟩ := fnd_some q
  have hu : u ∈ keys ls := List.mem_map.mpr ⟨p, h1, h2⟩
  rw [decide_eq_true hu]; rfl
 | none =>
  have hu : u ∉ keys ls := by intro c; obtain ⟨p, hp, e⟩ := List.mem_map.mp c; exact fnd_none q p hp e
  rw [decide_eq_false hu]; rfl
theorem eqB_bool {σ : Hp} (a : Bool) : eqB (.bool a) (.bool a) σ = some true := by
 have h : SeqAt.shaped (.bool a) = true := by cases a <;> decide
 show (if SeqAt.shaped (.bool a) = true ∧ SeqAt.shaped (.bool a) = true then some (PyData.eqv (.bool a) (.bool a)) else none) = _
 rw [if_pos ⟨h, h⟩]
 simp only [PyData.eqv, beq_self_eq_true]
noncomputable def newsBack : St := (sCons (sIf (orT (tst (bin2 opNe c_law_news_right2 (un1 (getA 105 4) (var 1)))) (tst (bin2 opNe c_law_news_right3 c_law_news_right4))) (sRet (cBool false)) sNil) (sCons (sIf (andT (notT (tst (var 3))) (tst (bin2 opNe (bin2 opTo c_law_news_right5 (callL (consL (var 4) nilL) bLen)) (var 4)))) (sRet (cBool false)) sNil) (sCons (sAsg c_law_news_right6 (stA 5)) (sCons l_law_news_right (sCons (sIf (orT (tst (bin2 opNe (callL (consL (var 5) nilL) bLen) (callL (consL (un1 (getA 327 5) (var 0)) nilL) bLen))) (andT (tst (var 3)) (tst (bin2 opNe (callL (consL (var 2) nilL) bLen) (callL (consL (var 5) nilL) bLen))))) (sRet (cBool false)) sNil) (sRet (bin2 opEq (callL (consL (var 1) nilL) f_is_up_to_date) (bin2 opEq (callL (consL (var 2) nilL) bLen) (callL (consL (var 5) nilL) bLen)))))))))
inductive back_ok_O (s : Hp) (B : Bx) (Y : Vw) (C : Nat) (bf : Nat) (may : Bool) : Prop
 | mk (ρ' : Mine.Loc) (s' : Hp) (_ : newsBack [.ref B.b, .ref Y.v, .ref C, .bool may, .ref bf, .undef, .undef, .undef] s = some (.ret (.bool true), ρ', s')) (_ : Ext [] s s') : back_ok_O s B Y C bf may
theorem back_ok {s : Hp} {B : Bx} {Y : Vw} {C bf : Nat} {may : Bool} {ws : List Rw} {bs : List Int} (hB : BxAt s B) (kB : BxOk B) (h : VwAt s B.b Y) (k : VwOk Y) (hc : CpAt s C ws) (hm : MirL Y.um Y.rs (dt ws)) (d : Done Y.um may Y.rs B)
  (hbf : s[bf]? = some (.list (vI bs))) (hbs : may = false → (us Y.rs).take bs.length = bs) : back_ok_O s B Y C bf may := by
 obtain ⟨nm, vd, fr, hb⟩ := hB.box
 have hn := k.n
 have hwl : ws.length = Y.rs.length := by have := hm.len; simpa [dt] using this
 have hru : ru ws = us Y.rs := by rw [ru_dt, hm.us]
 have okw : ∀ w ∈ ws, okS w.2.2.fl := fun w hw => by
  obtain ⟨r, hr, _, b, _⟩ := hm.mem w.2.2 (List.mem_map.mpr ⟨w, hw, rfl⟩)
  rw [b]; exact d.ok r hr
 have X1 : Ext [] s (s ++ [O.list (vI (ru ws))]) := Ext.app _ _
 have e1 : c_law_news_right2 [.ref B.b, .ref Y.v, .ref C, .bool may, .ref bf, .undef, .undef, .undef] s = some (.ref s.length, s ++ [O.list (vI (ru ws))]) := copy_uids (f := var 2) hc.gC hc.rows (om273 hn hwl) (by simp only [MSX])
 have n1 := new_get s (O.list (vI (ru ws)))
 have h1 := h.ext0 X1
 have t1 := opNe_of (eqB_ints n1 h1.U)
 rw [decide_eq_true hru] at t1
 generalize hs1 : s ++ [O.list (vI (ru ws))] = s1 at *
 obtain ⟨s2, e2, X2⟩ := told_ok h1 k
 have mk2 : (mkV (meth (isInst 105) (var 1) nilL f_View_told)) [.ref B.b, .ref Y.v, .ref C, .bool may, .ref bf, .undef, .undef, .undef] s1 = some (.tup (Y.rs.map toldV), s2) := by
  simp only [MSX, h1.vw, e2]
 obtain ⟨zs, s3, e3, X3, z1, z2⟩ := told_list mk2 (om125 hn) d.ok
 have e3' : c_law_news_right3 [.ref B.b, .ref Y.v, .ref C, .bool may, .ref bf, .undef, .undef, .undef] s1 = some (.ref s3.length, s3 ++ [O.list (zs.map tz)]) := e3
 have X4 : Ext [] s3 (s3 ++ [O.list (zs.map tz)]) := Ext.app _ _
 have n4 := new_get s3 (O.list (zs.map tz))
 generalize hs4 : s3 ++ [O.list (zs.map tz)] = s4 at *
 have XX4 := ((X1.trans X2).trans X3).trans X4
 have c4 := hc.ext0 XX4
 have e5 : c_law_news_right4 [.ref B.b, .ref Y.v, .ref C, .bool may, .ref bf, .undef, .undef, .undef] s4 = some (.ref s4.length, s4 ++ [O.list ((ws.map fun w => (w.2.1, w.2.2)).map tz)]) := by
  have := comp_all (mk := mkV (var 2)) (src := .list C) (σ := s4) (σ0 := s4) (caps := []) (cv := []) (e := mkTup (consL (bin2 opItem (var 0) (cInt 0)) (consL (bin2 opItem (var 0) (cInt 1)) nilL))) (ρ := [.ref B.b, .ref Y.v, .ref C, .bool may, .ref bf, .undef, .undef, .undef]) (xs := ws) (g := fun w => V.ref w.1) (N := 1000) (fun w => tz (w.2.1, w.2.2))
   (by simp only [MSX, c4.gC]) (fun i => nxt_list c4.gC i) (om162 hn hwl) rfl (by intro w hw; simp only [MSX, row_item0 (c4.rows w hw), row_item1 (c4.rows w hw), tz])
  rw [List.map_map]; exact this
 have X5 : Ext [] s4 (s4 ++ [O.list ((ws.map fun w => (w.2.1, w.2.2)).map tz)]) := Ext.app _ _
 have n5 := new_get s4 (O.list ((ws.map fun w => (w.2.1, w.2.2)).map tz))
 generalize hs5 : s4 ++ [O.list ((ws.map fun w => (w.2.1, w.2.2)).map tz)] = s5 at *
 have XX5 := XX4.trans X5
 have t5 := opNe_of (eqB_tz (X5.get _ _ n4 (List.not_mem_nil)) n5 (fun z hz => (X4.trans X5).get _ _ (z2 z hz) (List.not_mem_nil)) (fun z hz => by
   obtain ⟨w, hw, rfl⟩ := List.mem_map.mp hz
   exact ((hc.ext0 XX5).rows w hw).2) (fun z hz => d.ok z.2 (by rw [← z1]; exact List.mem_map.mpr ⟨z, hz, rfl⟩)) (fun z hz => by
   obtain ⟨w, hw, rfl⟩ := List.mem_map.mp hz
   exact okw w hw) (by
   have a : zs.map (fun z => (z.2.u, z.2.fl)) = Y.rs.map fun r => (r.u, r.fl) := by rw [← z1, List.map_map]; rfl
   rw [a, hm.pairs]; simp [dt, Function.comp_def]))
 have q3 : (sIf (orT (tst (bin2 opNe c_law_news_right2 (un1 (getA 105 4) (var 1)))) (tst (bin2 opNe c_law_news_right3 c_law_news_right4))) (sRet (cBool false)) sNil) [.ref B.b, .ref Y.v, .ref C, .bool may, .ref bf, .undef, .undef, .undef] s = some (.next, [.ref B.b, .ref Y.v, .ref C, .bool may, .ref bf, .undef, .undef, .undef], s5) := by
  simp only [MSX, e1, h1.vw, t1, e3', e5, t5]
 have q4 : ∃ s6, (sIf (andT (notT (tst (var 3))) (tst (bin2 opNe (bin2 opTo c_law_news_right5 (callL (consL (var 4) nilL) bLen)) (var 4)))) (sRet (cBool false)) sNil) [.ref B.b, .ref Y.v, .ref C, .bool may, .ref bf, .undef, .undef, .undef] s5 = some (.next, [.ref B.b, .ref Y.v, .ref C, .bool may, .ref bf, .undef, .undef, .undef], s6) ∧ Ext [] s5 s6 := by
  cases hmay : may with
  | true => exact ⟨s5, by simp only [MSX], Ext.refl _ _⟩
  | false =>
   have tk := hbs hmay
   have c5 := hc.ext0 XX5
   have e6 : c_law_news_right5 [.ref B.b, .ref Y.v, .ref C, .bool false, .ref bf, .undef, .undef, .undef] s5 = some (.ref s5.length, s5 ++ [O.list (vI (ru ws))]) := copy_uids (f := var 2) c5.gC c5.rows (om273 hn hwl) (by simp only [MSX])
   have X6 : Ext [] s5 (s5 ++ [O.list (vI (ru ws))]) := Ext.app _ _
   have n6 := new_get s5 (O.list (vI (ru ws)))
   generalize hs6 : s5 ++ [O.list (vI (ru ws))] = s6 at *
   have b6 := (XX5.trans X6).get _ _ hbf (List.not_mem_nil)
   have bl : bs.length ≤ Y.rs.length := by
    have := congrArg List.length tk
    simp [us] at this; exact om274 this
   have lb : (vI bs).length = bs.length := by simp [vI]
   have bb : bs.length ≤ big := by unfold big; exact om163 hn bl
   have to : opTo (.ref s5.length) (.int (bs.length : Int)) s6 = some (.ref s6.length, s6 ++ [O.list (vI bs)]) := by
    unfold opTo lst2
    rw [onInt_c, onRef_c, n6, oc_l, Option.bind_some, if_pos ⟨om122, om275 hn bl, by simp [vI, ru, big]; exact om133 hn hwl⟩]
    have tv : (vI (ru ws)).take ((bs.length : Int)).toNat = vI bs := by
     rw [hru]
     conv => rhs; rw [← tk]
     simp [vI]
    rw [tv]
   have X7 : Ext [] s6 (s6 ++ [O.list (vI bs)]) := Ext.app _ _
   have t7 := opNe_of (eqB_ints (new_get s6 (O.list (vI bs))) (X7.get _ _ b6 (List.not_mem_nil)))
   rw [decide_eq_true rfl] at t7
   refine ⟨s6 ++ [O.list (vI bs)], ?_, X6.trans X7⟩
   simp only [MSX, e6, b6, lb, bb, to, t7]
 obtain ⟨s6, q4, X6⟩ := q4
 have XX6 := XX5.trans X6
 have hB6 := hB.ext0 XX6
 have c6 := hc.ext0 XX6
 have e7 : c_law_news_right6 [.ref B.b, .ref Y.v, .ref C, .bool may, .ref bf, .undef, .undef, .undef] s6 = some (.ref s6.length, s6 ++ [O.list (rrefs (ws.filter fun w => decide (w.2.2.u ∈ keys B.ls)))]) := by
  refine comp_idx (src := .list C) (cv := [.ref B.b]) (xs := ws) (g := fun w => V.ref w.1) (fun w => decide (w.2.2.u ∈ keys B.ls)) (fun w => V.ref w.1) (by simp only [MSX, c6.gC]) (fun i => nxt_list c6.gC i) (om162 hn hwl) rfl ?_ ?_
  ·intro w hw
   have i0 := row_item0 (c6.rows w hw)
   have l0 := letter_ok hB6 kB w.2.2.u
   obtain ⟨nm', vd', fr', hb'⟩ := hB6.box
   have i1 := isNot_refO (o := fnd B.ls w.2.2.u) (σ := s6)
   rw [fnd_isSome] at i1
   simp only [tst, bin2, meth, var, List.getElem?_cons_succ, List.getElem?_cons_zero, Option.bind_some, nu_r, nu_t, nu_i, cond_true, onBool_c, onRef_c, onIn_c, Option.getD_some, isInst, hb', beq_self_eq_true, if_true, consL, nilL, cInt, i0, Option.map_some, l0, cNone, i1]
  ·intro w hw _
   simp only [MSX]
 generalize hth : (ws.filter fun w => decide (w.2.2.u ∈ keys B.ls)) = th at *
 have thm : ∀ w ∈ th, w ∈ ws ∧ w.2.2.u ∈ keys B.ls := by
  rw [← hth]; intro w hw; obtain ⟨a, b⟩ := List.mem_filter.mp hw; exact ⟨a, by simpa using b⟩
 have X7 : Ext [] s6 (s6 ++ [O.list (rrefs th)]) := Ext.app _ _
 have n7 := new_get s6 (O.list (rrefs th))
 have q5 : (sAsg c_law_news_right6 (stA 5)) [.ref B.b, .ref Y.v, .ref C, .bool may, .ref bf, .undef, .undef, .undef] s6 = some (.next, [.ref B.b, .ref Y.v, .ref C, .bool may, .ref bf, .ref s6.length, .undef, .undef], s6 ++ [O.list (rrefs th)]) := by
  unfold sAsg; rw [e7]; rfl
 generalize hs7 : s6 ++ [O.list (rrefs th)] = s7 at *
 have XX7 := XX6.trans X7
 have thl : th.length ≤ ws.length := by rw [← hth]; exact List.length_filter_le _ _
 have fd : Fresh Y.um (dt ws) B.ls := hm.fresh d.fr
 have key := for_list (src := .list s6.length) (a := stA 6) (f := b_law_news_right) (xs := rrefs th) (N := 1000) (ρ := [.ref B.b, .ref Y.v, .ref C, .bool may, .ref bf, .ref s6.length, .undef, .undef]) (σ := s7)
  (fun i ρ t => ∃ x y, ρ = [.ref B.b, .ref Y.v, .ref C, .bool may, .ref bf, .ref s6.length, x, y] ∧ Ext [] s7 t) (by simp [rrefs]; exact om276 hn hwl thl) ⟨.undef, .undef, rfl, Ext.refl _ _⟩ (fun i ρ t _ ⟨_, _, _, X⟩ => nxt_list (X.get _ _ n7 (List.not_mem_nil)) i) (by
   rintro i x ρ t hx ⟨x', y', rfl, X⟩
   obtain ⟨w, hw, rfl⟩ : ∃ w, th[i]? = some w ∧ x = V.ref w.1 := by
    simp only [rrefs, List.getElem?_map, Option.map_eq_some_iff] at hx
    obtain ⟨w, a, b⟩ := hx; exact ⟨w, a, b.symm⟩
   obtain ⟨hw1, hw2⟩ := thm w (List.mem_of_getElem? hw)
   have XXt := XX7.trans X
   have hBt := hB.ext0 XXt
   obtain ⟨nm', vd', fr', hb'⟩ := hBt.box
   have vwt := XXt.get _ _ h.vw (List.not_mem_nil)
   have rt := (hc.ext0 XXt).rows w hw1
   obtain ⟨p, hp⟩ : ∃ p, fnd B.ls w.2.2.u = some p := by
    cases q : fnd B.ls w.2.2.u with
    | some p => exact ⟨p, rfl⟩
    | none =>
     obtain ⟨p, hp, e⟩ := List.mem_map.mp hw2
     exact absurd e (fnd_none q p hp)
   obtain ⟨hp1, hp2⟩ := fnd_some hp
   have l0 := letter_ok hBt kB w.2.2.u
   rw [hp] at l0
   obtain ⟨oc, ins, hl⟩ := hBt.lt p hp1
   have okp := (kB.lo p hp1).2.2.2
   have hfl : w.2.2.fl = p.2.fl := fd.fl p hp1 w.2.2 (List.mem_map.mpr ⟨w, hw1, rfl⟩) hp2.symm
   have X8 : Ext [] t (t ++ [O.list (vS p.2.fl)]) := Ext.app _ _
   have rt8 := rt.ext0 X8
   have t8 := opNe_of (eqB_strs rt8.2 (new_get t (O.list (vS p.2.fl))) (okw w hw1) okp)
   rw [decide_eq_true hfl] at t8
   have hll : (vS p.2.fl).length ≤ big := by have := okp.1; simp [vS, big]; exact om215 this
   have fvd : fv p.2.fl = .tup (vS p.2.fl) := rfl
   rw [fvd] at hl
   have hl8 := X8.get _ _ hl (List.not_mem_nil)
   have vw8 := X8.get _ _ vwt (List.not_mem_nil)
   refine ⟨[.ref B.b, .ref Y.v, .ref C, .bool may, .ref bf, .ref s6.length, .ref w.1, y'], t, [.ref B.b, .ref Y.v, .ref C, .bool may, .ref bf, .ref s6.length, .ref w.1, .ref p.1], t ++ [O.list (vS p.2.fl)], rfl, ?_, .ref w.1, .ref p.1, rfl, X.trans X8⟩
   cases hum : Y.um with
   | false =>
    rw [hum] at vw8
    simp only [b_law_news_right, bList, MSX, row_item0 rt, hb', l0, refO, row_item1 rt, hl, hll, t8, vw8]
   | true =>
    rw [hum] at vw8
    have hms : w.2.2.ms = p.2.ms := fd.ms hum p hp1 w.2.2 (List.mem_map.mpr ⟨w, hw1, rfl⟩) hp2.symm
    have t9 := opNe_of (σ := t ++ [O.list (vS p.2.fl)]) (eqB_int (σ := t ++ [O.list (vS p.2.fl)]) w.2.2.ms p.2.ms)
    rw [decide_eq_true hms] at t9
    simp only [b_law_news_right, bList, MSX, row_item0 rt, hb', l0, refO, row_item1 rt, hl, hll, t8, vw8, row_item2 rt8, hl8, t9])
 obtain ⟨ρ8, s8, e8, x, y, rfl, X8⟩ := key
 have q6 : l_law_news_right [.ref B.b, .ref Y.v, .ref C, .bool may, .ref bf, .ref s6.length, .undef, .undef] s7 = some (.next, [.ref B.b, .ref Y.v, .ref C, .bool may, .ref bf, .ref s6.length, x, y], s8) := by
  have m : (mkV (var 5)) [.ref B.b, .ref Y.v, .ref C, .bool may, .ref bf, .ref s6.length, .undef, .undef] s7 = some (.list s6.length, s7) := by simp only [MSX, n7]
  show (mkV _ _ _).bind _ = _
  rw [m]; exact e8
 have XX8 := XX7.trans X8
 have hB8 := hB.ext0 XX8
 have h8 := h.ext0 XX8
 have c8 := hc.ext0 XX8
 have th8 := X8.get _ _ n7 (List.not_mem_nil)
 obtain ⟨nm8, vd8, fr8, hb8⟩ := hB8.box
 have cnt : th.length = B.ls.length := by
  have a := d.there kB
  rw [← hru] at a
  have b : ((ru ws).filter fun u => decide (u ∈ keys B.ls)).length = th.length := by
   rw [← hth]; simp only [ru, List.filter_map, List.length_map]; rfl
  rw [← b, a]; simp [keys]
 have cnt2 : may = true → ws.length = th.length := by
  intro hmay
  rw [← hth]
  rw [List.filter_eq_self.mpr]
  intro w hw
  obtain ⟨r, hr, a, _, _⟩ := hm.mem w.2.2 (List.mem_map.mpr ⟨w, hw, rfl⟩)
  rw [decide_eq_true_eq, a]; exact d.may_ hmay r hr
 have l1 : (rrefs th).length = th.length := by simp [rrefs]
 have l2 : (refs B.ls).length = B.ls.length := by simp [refs]
 have l3 : (rrefs ws).length = ws.length := by simp [rrefs]
 have b1 : th.length ≤ big := by unfold big; exact om277 hn hwl thl
 have b2 : B.ls.length ≤ big := by have := kB.n; unfold big; exact om126 this
 have b3 : ws.length ≤ big := by unfold big; exact om133 hn hwl
 have u1 := opNe_of (σ := s8) (eqB_int (σ := s8) (th.length : Int) (B.ls.length : Int))
 rw [decide_eq_true (by rw [cnt])] at u1
 have q7 : (sIf (orT (tst (bin2 opNe (callL (consL (var 5) nilL) bLen) (callL (consL (un1 (getA 327 5) (var 0)) nilL) bLen))) (andT (tst (var 3)) (tst (bin2 opNe (callL (consL (var 2) nilL) bLen) (callL (consL (var 5) nilL) bLen))))) (sRet (cBool false)) sNil) [.ref B.b, .ref Y.v, .ref C, .bool may, .ref bf, .ref s6.length, x, y] s8 = some (.next, [.ref B.b, .ref Y.v, .ref C, .bool may, .ref bf, .ref s6.length, x, y], s8) := by
  cases hmay : may with
  | false => simp only [MSX, th8, l1, b1, hb8, hB8.L, l2, b2, u1]
  | true =>
   have u2 := opNe_of (σ := s8) (eqB_int (σ := s8) (ws.length : Int) (th.length : Int))
   rw [decide_eq_true (by rw [cnt2 hmay])] at u2
   simp only [MSX, th8, l1, b1, hb8, hB8.L, l2, b2, u1, c8.gC, l3, b3, u2]
 obtain ⟨s9, e9, X9⟩ := up_ok hB8 kB h8 k d.fr
 have c9 := c8.ext0 X9
 have th9 := X9.get _ _ th8 (List.not_mem_nil)
 have u3 := opEq_of (σ := s9) (eqB_int (σ := s9) (ws.length : Int) (th.length : Int))
 have same : decide (us Y.rs = keys B.ls) = decide ((ws.length : Int) = (th.length : Int)) := by
  rw [Bool.eq_iff_iff, decide_eq_true_eq, decide_eq_true_eq, d.up kB, cnt, hwl]
  exact om278
 have u4 := opEq_of (σ := s9) (eqB_bool (σ := s9) (decide ((ws.length : Int) = (th.length : Int))))
 rw [same] at e9
 refine ⟨[.ref B.b, .ref Y.v, .ref C, .bool may, .ref bf, .ref s6.length, x, y], s9, ?_, XX8.trans X9⟩
 unfold newsBack
 rw [sc q3, sc q4, sc q5, sc q6, sc q7]
 simp only [MSX, e9, c9.gC, l3, b3, th9, l1, b1, u3, u4]
noncomputable def own (Y : Vw) (C : Nat) (ws : List Rw) : List Nat := [Y.v, Y.U, Y.F, Y.M] ++ (C :: ws.map (·.1))
structure Apart (B : Bx) (Y : Vw) (C : Nat) (ws : List Rw) : Prop where
 UC : Y.U ∉ C :: ws.map (·.1)
 Uf : Y.U ∉ ws.map (·.2.1)
 box : B.b ∉ own Y C ws ∧ B.L ∉ own Y C ws ∧ B.G ∉ own Y C ws ∧ ∀ p ∈ B.ls, p.1 ∉ own Y C ws
structure Pair (σ : Hp) (B : Bx) (Y : Vw) (C : Nat) (ws : List Rw) : Prop where
 vw : VwAt σ B.b Y
 cp : CpAt σ C ws
 mir : MirL Y.um Y.rs (dt ws)
 srt : Srt (us Y.rs)
 ok : ∀ r ∈ Y.rs, okS r.fl
 kn : Kn Y.rs B
 ap : Apart B Y C ws
theorem Pair.vwok {σ : Hp} {B : Bx} {Y : Vw} {C : Nat} {ws : List Rw} (h : Pair σ B Y C ws) (hn : B.nu ≤ 100) (h1 : 1 ≤ B.nu) : VwOk Y ∧ Y.rs.length ≤ 100 := by
 have := srt_len (lo := 1) (hi := B.nu) h.srt (fun k hk => by obtain ⟨r, hr, rfl⟩ := List.mem_map.mp hk; exact h.kn.hi r hr) h1
 have l : Y.rs.length ≤ 100 := by simp [us] at this; exact om279 hn this
 exact ⟨⟨h.srt, h.ok, om259 l⟩, l⟩
theorem Pair.off {σ : Hp} {B : Bx} {Y : Vw} {C : Nat} {ws : List Rw} (h : VwAt σ B.b Y) (hc : CpAt σ C ws) : (∀ a ∈ C :: ws.map (·.1), a ≠ Y.v ∧ a ≠ Y.F ∧ a ≠ Y.M) ∧ ∀ a ∈ ws.map (·.2.1), a ≠ Y.v ∧ a ≠ Y.F ∧ a ≠ Y.M := by
 have key : ∀ a xs, σ[a]? = some (.list xs) → a ≠ Y.v ∧ a ≠ Y.F ∧ a ≠ Y.M := by
  intro a xs ha
  refine ⟨?_, ?_, ?_⟩ <;> intro c <;> subst c
  ·rw [h.vw] at ha; cases ha
  ·rw [h.F] at ha; cases ha
  ·rw [h.M] at ha; cases ha
 constructor
 ·intro a ha
  rcases List.mem_cons.mp ha with rfl | c
  ·exact key _ _ hc.gC
  ·obtain ⟨w, hw, rfl⟩ := List.mem_map.mp c; exact key _ _ (hc.rows w hw).1
 ·intro a ha
  obtain ⟨w, hw, rfl⟩ := List.mem_map.mp ha; exact key _ _ (hc.rows w hw).2
inductive news_right_ok_O (σ : Hp) (B : Bx) (Y : Vw) (C : Nat) (ws : List Rw) (may : Bool) : Prop
 | mk (σ' : Hp) (U' : Nat) (ws' : List Rw) (_ : f_law_news_right [.ref B.b, .ref Y.v, .ref C, .bool may] σ = some (.bool true, σ')) (_ : Ext (own Y C ws) σ σ') (_ : Pair σ' B { Y with U := U', rs := newsR Y.um may Y.rs B.ls } C ws') (_ : (U' = Y.U ∨ σ.length ≤ U')) (_ : ∀ w ∈ ws', (w.1 ∈ ws.map (·.1) ∨ σ.length ≤ w.1) ∧ (w.2.1 ∈ ws.map (·.2.1) ∨ σ.length ≤ w.2.1)) : news_right_ok_O σ B Y C ws may
theorem news_right_ok {σ : Hp} {B : Bx} {Y : Vw} {C : Nat} {ws : List Rw} (may : Bool) (hB : BxAt σ B) (kB : BxOk B) (hn : B.nu ≤ 100) (h1 : 1 ≤ B.nu) (P : Pair σ B Y C ws) : news_right_ok_O σ B Y C ws may := by
 obtain ⟨k, hl⟩ := P.vwok hn h1
 have hwl : ws.length = Y.rs.length := by have := P.mir.len; simpa [dt] using this
 have D := news_done (um := Y.um) (may := may) kB P.kn P.srt P.ok
 have e1 : c_law_news_right [.ref B.b, .ref Y.v, .ref C, .bool may, .undef, .undef, .undef, .undef] σ = some (.ref σ.length, σ ++ [O.list (vI (ru ws))]) := copy_uids (f := var 2) P.cp.gC P.cp.rows (om254 hl hwl) (by simp only [MSX])
 have X1 : Ext [] σ (σ ++ [O.list (vI (ru ws))]) := Ext.app _ _
 have n1 := new_get σ (O.list (vI (ru ws)))
 have ln1 : (σ ++ [O.list (vI (ru ws))]).length = σ.length + 1 := by exact len_app
 generalize hs1 : σ ++ [O.list (vI (ru ws))] = s1 at *
 have hB1 := hB.ext0 X1
 have v1 := P.vw.ext0 X1
 have c1 := P.cp.ext0 X1
 have bv := lt_of_get P.vw.vw
 have bU := lt_of_get P.vw.U
 have bF := lt_of_get P.vw.F
 have bM := lt_of_get P.vw.M
 have bC := lt_of_get P.cp.gC
 have bR : ∀ a ∈ C :: ws.map (·.1), a < σ.length := by
  intro a ha
  rcases List.mem_cons.mp ha with rfl | c
  ·exact bC
  ·obtain ⟨w, hw, rfl⟩ := List.mem_map.mp c; exact lt_of_get (P.cp.rows w hw).1
 have bFl : ∀ w ∈ ws, w.2.1 < σ.length := fun w hw => lt_of_get (P.cp.rows w hw).2
 obtain ⟨offR, offF⟩ := Pair.off P.vw P.cp
 obtain ⟨A, U2, hi, vF, vE, s2, e2, X2, lA, v2, hU2, gA, aF, lhi, aE, _, _, nAU, hiA⟩ := news_ok may hB1 kB v1 k P.kn
 have hiLo : s1.length + 1 ≤ hi ∨ vF = [] := by
  cases vF with
  | nil => exact .inr rfl
  | cons x xs =>
   cases q : fts Y.um B.ls 0 Y.rs with
   | nil => rw [q] at aF; cases aF
   | cons y ys =>
    rw [q] at aF
    obtain ⟨n, m, p, az, r, _, hP, _⟩ := aF
    have := hP.bn; left; exact om280 this
 have c2 : CpAt s2 C ws := by
  refine c1.ext X2 ?_ fun w hw => ⟨?_, ?_⟩
  ·have a := offR C (List.mem_cons_self); have b := P.ap.UC
   simp at b ⊢; exact ⟨a.1, fun c => b.1 c.symm, a.2.1, a.2.2⟩
  ·have a := offR w.1 (by simp; exact .inr ⟨_, _, hw⟩)
   have b : Y.U ≠ w.1 := fun c => P.ap.UC (by rw [c]; exact List.mem_cons_of_mem _ (List.mem_map.mpr ⟨w, hw, rfl⟩))
   simp; exact ⟨a.1, fun c => b c.symm, a.2.1, a.2.2⟩
  ·have a := offF w.2.1 (List.mem_map.mpr ⟨w, hw, rfl⟩)
   have b : Y.U ≠ w.2.1 := fun c => P.ap.Uf (by rw [c]; exact List.mem_map.mpr ⟨w, hw, rfl⟩)
   simp; exact ⟨a.1, fun c => b c.symm, a.2.1, a.2.2⟩
 have boxo : ∀ a, a ∉ own Y C ws → a ∉ [Y.v, Y.U, Y.F, Y.M] ∧ a ∉ C :: ws.map (·.1) := fun a h => ⟨fun c => h (List.mem_append_left _ c), fun c => h (List.mem_append_right _ c)⟩
 have hB2 : BxAt s2 B := hB1.ext X2 (boxo _ P.ap.box.1).1 (boxo _ P.ap.box.2.1).1 (boxo _ P.ap.box.2.2.1).1 (fun p hp => (boxo _ (P.ap.box.2.2.2 p hp)).1)
 have l12 := X2.le
 have taken : taken_ok_O B Y.v C A Y.um may s2 Y.rs ws := by
  have hv : s2[Y.v]? = some (.inst 105 [.ref B.b, .bool false, .bool Y.um, .bool Y.uv, .ref U2, .ref Y.F, .ref Y.M]) := v2.vw
  have offC : B.b ∉ C :: ws.map (·.1) ∧ B.L ∉ C :: ws.map (·.1) ∧ B.G ∉ C :: ws.map (·.1) ∧ ∀ p ∈ B.ls, p.1 ∉ C :: ws.map (·.1) := ⟨(boxo _ P.ap.box.1).2, (boxo _ P.ap.box.2.1).2, (boxo _ P.ap.box.2.2.1).2, fun p hp => (boxo _ (P.ap.box.2.2.2 p hp)).2⟩
  rcases hiLo with q | q
  ·exact taken_ok hB2 kB P.kn (om281 hn) P.srt P.ok hl hv gA aF aE c2 P.mir ⟨hiA, q⟩ (om282 ln1 bC) (fun w hw => by have := bR w.1 (List.mem_cons_of_mem _ (List.mem_map.mpr ⟨w, hw, rfl⟩)); exact om282 ln1 this) offC
  ·subst q
   have aF' : AnsF s2 (s1.length) (s1.length) Y.um Y.uv (fts Y.um B.ls 0 Y.rs) [] := by
    cases q : fts Y.um B.ls 0 Y.rs with
    | nil => rfl
    | cons y ys => rw [q] at aF; obtain ⟨n, m, p, az, r, c, _⟩ := aF; cases c
   exact taken_ok hB2 kB P.kn (om281 hn) P.srt P.ok hl hv gA aF' aE c2 P.mir ⟨lA, Nat.le_refl _⟩ (om283 ln1 bC) (fun w hw => by have := bR w.1 (List.mem_cons_of_mem _ (List.mem_map.mpr ⟨w, hw, rfl⟩)); exact om283 ln1 this) offC
 obtain ⟨s3, ws3, e3, c3, m3, X3, f3⟩ := taken
 have hB3 : BxAt s3 B := hB2.ext X3 (boxo _ P.ap.box.1).2 (boxo _ P.ap.box.2.1).2 (boxo _ P.ap.box.2.2.1).2 (fun p hp => (boxo _ (P.ap.box.2.2.2 p hp)).2)
 have bU2 : U2 < s2.length := lt_of_get v2.U
 have U2off : U2 ∉ C :: ws.map (·.1) := by
  rcases hU2 with q | q
  ·rw [q]; exact P.ap.UC
  ·intro c; have := bR _ c; exact om284 ln1 q this
 have U2offF : U2 ∉ ws.map (·.2.1) := by
  rcases hU2 with q | q
  ·rw [q]; exact P.ap.Uf
  ·intro c; obtain ⟨w, hw, e⟩ := List.mem_map.mp c; have := bFl w hw; exact om285 ln1 q e this
 have v3 : VwAt s3 B.b { Y with U := U2, rs := newsR Y.um may Y.rs B.ls } := v2.ext X3 (fun c => (offR _ c).1 rfl) U2off (fun c => (offR _ c).2.1 rfl) (fun c => (offR _ c).2.2 rfl)
 have l23 := X3.le
 have U3off : U2 ∉ C :: ws3.map (·.1) := by
  intro c
  rcases List.mem_cons.mp c with q | q
  ·exact U2off (by simp [q])
  ·obtain ⟨w, hw, e⟩ := List.mem_map.mp q
   rcases (f3 w hw).1 with d | d
   ·exact U2off (List.mem_cons_of_mem _ (e ▸ d))
   ·exact om286 bU2 e d
 have U3offF : U2 ∉ ws3.map (·.2.1) := by
  intro c
  obtain ⟨w, hw, e⟩ := List.mem_map.mp c
  rcases (f3 w hw).2 with d | d
  ·exact U2offF (e ▸ d)
  ·exact om286 bU2 e d
 have nl := srt_len (lo := 1) (hi := B.nu) D.srt (fun k hk => by obtain ⟨r, hr, rfl⟩ := List.mem_map.mp hk; exact D.kn.hi r hr) h1
 have k3 : VwOk { Y with U := U2, rs := newsR Y.um may Y.rs B.ls } := ⟨D.srt, D.ok, by simp [us] at nl; show (newsR Y.um may Y.rs B.ls).length ≤ 900; exact om287 hn nl⟩
 obtain ⟨A4, U4, hi4, vF4, vE4, s4, e4, X4, lA4, v4, hU4, gA4, aF4, lhi4, aE4, _, _, nAU4, hiA4⟩ := news_ok may hB3 kB v3 k3 D.kn
 obtain ⟨g1, g2, g3, g4, g5⟩ := D.again
 have z1 : vF4 = [] := by
  have q : AnsF s4 (s3.length + 1) hi4 Y.um Y.uv (fts Y.um B.ls 0 (newsR Y.um may Y.rs B.ls)) vF4 := aF4
  rw [g1] at q; exact q
 have z2 : vE4 = [] := by
  cases hm : may with
  | false => rw [hm] at aE4; simpa using aE4
  | true =>
   have q : (if may then AnsE Y.uv ((newsR Y.um may Y.rs B.ls).map (upd Y.um B.ls)) (goneU (newsR Y.um may Y.rs B.ls) B.ls) vE4 else vE4 = []) := aE4
   rw [if_pos hm, g2 hm] at q
   unfold AnsE at q
   split at q
   ·rcases q with ⟨_, q⟩ | ⟨q, _⟩
    ·exact q
    ·exact absurd rfl q
   ·obtain ⟨is, rfl, ch⟩ := q
    cases is with
    | nil => rfl
    | cons a b => exact ch.elim
 have gA4' : s4[A4]? = some (.list []) := by
  have q : s4[A4]? = some (.list (vF4 ++ vE4 ++ arrA (newL (told Y.um may (newsR Y.um may Y.rs B.ls) B.ls) B.ls).length (newsR Y.um may (newsR Y.um may Y.rs B.ls) B.ls).length)) := gA4
  rw [z1, z2, g4] at q
  exact q
 have v4' : VwAt s4 B.b { Y with U := U4, rs := newsR Y.um may Y.rs B.ls } := by
  have q : VwAt s4 B.b { Y with U := U4, rs := newsR Y.um may (newsR Y.um may Y.rs B.ls) B.ls } := v4
  rw [g5] at q; exact q
 have X4' : Ext [Y.v, U2, Y.F, Y.M] s3 s4 := X4
 obtain ⟨offR3, offF3⟩ := Pair.off v3 c3
 have offR3' : ∀ a ∈ C :: ws3.map (·.1), a ≠ Y.v ∧ a ≠ Y.F ∧ a ≠ Y.M := offR3
 have offF3' : ∀ a ∈ ws3.map (·.2.1), a ≠ Y.v ∧ a ≠ Y.F ∧ a ≠ Y.M := offF3
 have c4 : CpAt s4 C ws3 := by
  refine c3.ext X4' ?_ fun w hw => ⟨?_, ?_⟩
  ·have a := offR3' C (List.mem_cons_self)
   simp; exact ⟨a.1, fun c => U3off (by simp [c]), a.2.1, a.2.2⟩
  ·have m : w.1 ∈ C :: ws3.map (·.1) := List.mem_cons_of_mem _ (List.mem_map.mpr ⟨w, hw, rfl⟩)
   have a := offR3' w.1 m
   simp; exact ⟨a.1, fun c => U3off (c ▸ m), a.2.1, a.2.2⟩
  ·have m : w.2.1 ∈ ws3.map (·.2.1) := List.mem_map.mpr ⟨w, hw, rfl⟩
   have a := offF3' w.2.1 m
   simp; exact ⟨a.1, fun c => U3offF (c ▸ m), a.2.1, a.2.2⟩
 have l34 := X4'.le
 have hU4' : U4 = U2 ∨ s3.length ≤ U4 := hU4
 have b3 : ∀ w ∈ ws3, w.1 < s3.length ∧ w.2.1 < s3.length := fun w hw => ⟨lt_of_get (c3.rows w hw).1, lt_of_get (c3.rows w hw).2⟩
 have U4off : U4 ∉ C :: ws3.map (·.1) := by
  rcases hU4' with q | q
  ·rw [q]; exact U3off
  ·intro c
   rcases List.mem_cons.mp c with d | d
   ·have := lt_of_get c3.gC; exact om288 q d this
   ·obtain ⟨w, hw, e⟩ := List.mem_map.mp d; have := (b3 w hw).1; exact om289 q e this
 have U4offF : U4 ∉ ws3.map (·.2.1) := by
  rcases hU4' with q | q
  ·rw [q]; exact U3offF
  ·intro c
   obtain ⟨w, hw, e⟩ := List.mem_map.mp c; have := (b3 w hw).2; exact om289 q e this
 have bxl : B.b < σ.length ∧ B.L < σ.length ∧ B.G < σ.length ∧ ∀ p ∈ B.ls, p.1 < σ.length := by
  obtain ⟨⟨nm, vd, fr, hb⟩, hL, ⟨gs, hG, _⟩, hlt⟩ := hB
  exact ⟨lt_of_get hb, lt_of_get hL, lt_of_get hG, fun p hp => by obtain ⟨oc, ins, e⟩ := hlt p hp; exact lt_of_get e⟩
 have boff4 : ∀ a, a < σ.length → a ∉ own Y C ws → a ∉ [Y.v, U2, Y.F, Y.M] ∧ a ∉ own { Y with U := U4, rs := newsR Y.um may Y.rs B.ls } C ws3 := by
  intro a ha h
  obtain ⟨h1, h2⟩ := boxo a h
  have aU2 : a ≠ U2 := by
   rcases hU2 with q | q
   ·intro c; exact h1 (by rw [c, q]; exact mem1)
   ·exact om290 ln1 ha q
  have aU4 : a ≠ U4 := by
   rcases hU4' with q | q
   ·rw [q]; exact aU2
   ·exact om291 ln1 l12 l23 ha q
  simp at h1
  refine ⟨by simp; exact ⟨h1.1, aU2, h1.2.2.1, h1.2.2.2⟩, ?_⟩
  intro c
  rcases List.mem_append.mp c with d | d
  ·simp at d
   rcases d with d | d | d | d
   ·exact h1.1 d
   ·exact aU4 d
   ·exact h1.2.2.1 d
   ·exact h1.2.2.2 d
  ·rcases List.mem_cons.mp d with q | q
   ·exact h2 (by simp [q])
   ·obtain ⟨w, hw, e⟩ := List.mem_map.mp q
    rcases (f3 w hw).1 with r | r
    ·exact h2 (List.mem_cons_of_mem _ (e ▸ r))
    ·exact om292 ln1 l12 ha e r
 have hB4 : BxAt s4 B := hB3.ext X4' (boff4 _ bxl.1 P.ap.box.1).1 (boff4 _ bxl.2.1 P.ap.box.2.1).1 (boff4 _ bxl.2.2.1 P.ap.box.2.2.1).1 (fun p hp => (boff4 _ (bxl.2.2.2 p hp) (P.ap.box.2.2.2 p hp)).1)
 have X5 : Ext [] s4 (s4 ++ [O.list []]) := Ext.app _ _
 have t5 := opNe_of (eqB_nil (X5.get _ _ gA4' (List.not_mem_nil)) (new_get s4 (O.list [])))
 have X02 : Ext [Y.v, Y.U, Y.F, Y.M] σ s2 := X1.nil.trans X2
 have bf4 : s4[σ.length]? = some (.list (vI (ru ws))) := by
  have a := X2.get _ _ n1 (by simp; exact om293 bv bU bF bM)
  have b := X3.get _ _ a (fun c => by have := bR _ c; exact om294 this)
  refine X4'.get _ _ b ?_
  have : σ.length ≠ U2 := by rcases hU2 with q | q <;> (first | exact om295 bU q | exact om296 ln1 q)
  simp; exact om297 bv bF bM this
 have k5 : VwOk { Y with U := U4, rs := newsR Y.um may Y.rs B.ls } := ⟨k3.srt, k3.ok, k3.n⟩
 obtain ⟨ρ6, s6, e6, X6⟩ := back_ok (bf := σ.length) (may := may) (bs := ru ws) (hB4.ext0 X5) kB (v4'.ext0 X5) k5 (c4.ext0 X5) m3 D (X5.get _ _ bf4 (List.not_mem_nil)) (by
  intro hmay
  have e : ru ws = us Y.rs := by rw [ru_dt, P.mir.us]
  have : us (newsR Y.um may Y.rs B.ls) = us Y.rs ++ us ((newL (told Y.um may Y.rs B.ls) B.ls).map (·.2)) := by
   unfold newsR
   rw [us, List.map_append, ← us, ← us, told_us, if_neg (by simp [hmay])]
  show (us (newsR Y.um may Y.rs B.ls)).take _ = _
  rw [this, e, List.take_left])
 have X56 := X5.trans X6
 refine ⟨s6, U4, ws3, ?_, ?_, ⟨v4'.ext0 X56, c4.ext0 X56, m3, D.srt, D.ok, D.kn, ⟨U4off, U4offF, (boff4 _ bxl.1 P.ap.box.1).2, (boff4 _ bxl.2.1 P.ap.box.2.1).2, (boff4 _ bxl.2.2.1 P.ap.box.2.2.1).2, fun p hp => (boff4 _ (bxl.2.2.2 p hp) (P.ap.box.2.2.2 p hp)).2⟩⟩, ?_, ?_⟩
 ·have e2' : f_news [.ref Y.v, .bool may] s1 = some (.ref A, s2) := e2
  have e4' : f_news [.ref Y.v, .bool may] s3 = some (.ref A4, s4) := e4
  have q1 : (sAsg c_law_news_right (stA 4)) [.ref B.b, .ref Y.v, .ref C, .bool may, .undef, .undef, .undef, .undef] σ = some (.next, [.ref B.b, .ref Y.v, .ref C, .bool may, .ref σ.length, .undef, .undef, .undef], s1) := by
   unfold sAsg; rw [e1]; rfl
  have q2 : (sIf (orT (notT (tst (callL (consL (var 0) (consL (var 1) (consL (var 2) (consL (callL (consL (var 1) (consL (var 3) nilL)) f_news) nilL)))) f_law_taken))) (tst (bin2 opNe (callL (consL (var 1) (consL (var 3) nilL)) f_news) (mkList nilL)))) (sRet (cBool false)) sNil) [.ref B.b, .ref Y.v, .ref C, .bool may, .ref σ.length, .undef, .undef, .undef] s1 =
    some (.next, [.ref B.b, .ref Y.v, .ref C, .bool may, .ref σ.length, .undef, .undef, .undef], s4 ++ [O.list []]) := by
   simp only [MSX, e2', e3, e4', t5, List.isEmpty_nil]
  have body : f_law_news_right_body [.ref B.b, .ref Y.v, .ref C, .bool may, .undef, .undef, .undef, .undef] σ = some (.ret (.bool true), ρ6, s6) := by
   rw [f_law_news_right_body, sc q1, sc q2]
   exact e6
  unfold f_law_news_right runF
  simp only [List.length_cons, List.length_nil, Nat.reduceAdd, if_true, List.replicate_succ, List.replicate_zero, List.cons_append, List.nil_append, body, Option.map_some]
 ·have a : Ext (own Y C ws) σ s3 := (X02.mono (fun a h => List.mem_append_left _ h)).trans (X3.mono (fun a h => List.mem_append_right _ h))
  refine (a.trans' X4' ?_).trans X56.nil
  intro x hx
  simp at hx
  rcases hx with q | q | q | q
  ·left; rw [q]; simp [own]
  ·rcases hU2 with r | r
   ·left; rw [q, r]; simp [own]
   ·right; exact om298 ln1 q r
  ·left; rw [q]; simp [own]
  ·left; rw [q]; simp [own]
 ·rcases hU4' with q | q
  ·rw [q]
   rcases hU2 with r | r
   ·exact .inl r
   ·right; exact om243 ln1 r
  ·right; exact om299 ln1 l12 l23 q
 ·intro w hw
  obtain ⟨a, b⟩ := f3 w hw
  refine ⟨?_, ?_⟩
  ·rcases a with q | q
   ·exact .inl q
   ·right; exact om300 ln1 l12 q
  ·rcases b with q | q
   ·exact .inl q
   ·right; exact om300 ln1 l12 q
inductive PenO (σ : Hp) (p c k : Nat) : Prop
 | mk (sm : Int) (_ : σ[p]? = some (.list [.ref c, .int (k : Int), .int sm])) : PenO σ p c k
inductive CelO (σ : Hp) (c : Nat) : Prop
 | mk (cs : List Int) (_ : σ[c]? = some (.list (vI cs))) (_ : cs.length ≤ 100) : CelO σ c
theorem PenO.lt {σ : Hp} {p c k : Nat} (h : PenO σ p c k) : p < σ.length := by obtain ⟨_, h⟩ := h; exact lt_of_get h
theorem CelO.lt {σ : Hp} {c : Nat} (h : CelO σ c) : c < σ.length := by obtain ⟨_, h, _⟩ := h; exact lt_of_get h
structure PenAt (σ : Hp) (p c k : Nat) : Prop where
 pen : PenO σ p c k
 cells : CelO σ c
 ne : c ≠ p
theorem PenAt.ext {W : List Nat} {σ σ' : Hp} {p c k : Nat} (h : PenAt σ p c k) (X : Ext W σ σ') (h1 : p ∉ W) (h2 : c ∉ W) : PenAt σ' p c k := by
 obtain ⟨⟨sm, a⟩, ⟨cs, b, d⟩, e⟩ := h
 exact ⟨⟨sm, X.get _ _ a h1⟩, ⟨cs, X.get _ _ b h2, d⟩, e⟩
theorem PenAt.ext0 {σ σ' : Hp} {p c k : Nat} (h : PenAt σ p c k) (X : Ext [] σ σ') : PenAt σ' p c k := h.ext X (List.not_mem_nil) (List.not_mem_nil)
theorem fmod_in {a m : Int} (h : 0 < m) : 0 ≤ Int.fmod a m ∧ Int.fmod a m < m := by
 rw [Int.fmod_eq_emod_of_nonneg _ (om301 h)]
 exact ⟨Int.emod_nonneg _ (om302 h), Int.emod_lt_of_pos _ h⟩
inductive draw_ok_O (σ : Hp) (p : Nat) (c : Nat) (k : Nat) (m : Int) : Prop
 | mk (x : Int) (σ' : Hp) (_ : f_law_draw [.ref p, .int m] σ = some (.int x, σ')) (_ : 0 ≤ x) (_ : x < m) (_ : Ext [p] σ σ') (_ : PenAt σ' p c (k + 1)) (_ : σ'.length = σ.length) : draw_ok_O σ p c k m
theorem draw_ok {σ : Hp} {p c k : Nat} {m : Int} (h : PenAt σ p c k) (hk : k ≤ 1000) (hm : 0 < m) : draw_ok_O σ p c k m := by
 obtain ⟨⟨sm, hp⟩, ⟨cs, hc, hl⟩, hne⟩ := h
 have i1 : opItem (.ref p) (.int 1) σ = some (.int (k : Int), σ) := item_list hp idx_1
 have st : opSet (.ref p) (.int 1) (.int ((k : Int) + 1)) σ = some (σ.set p (.list [.ref c, .int ((k : Int) + 1), .int sm])) := by
  unfold opSet; rw [onRef_c, onInt_c, hp]; rfl
 have X : Ext [p] σ (σ.set p (.list [.ref c, .int ((k : Int) + 1), .int sm])) := Ext.set _ _ _
 have hp1 := set_get (o' := O.list [.ref c, .int ((k : Int) + 1), .int sm]) hp
 have hc1 := X.get _ _ hc (by simpa using hne)
 have ln : (σ.set p (.list [.ref c, .int ((k : Int) + 1), .int sm])).length = σ.length := by exact List.length_set
 generalize hs : σ.set p (.list [.ref c, .int ((k : Int) + 1), .int sm]) = s at *
 have i0 : opItem (.ref p) (.int 0) s = some (.ref c, s) := item_list hp1 idx_0
 have i2 : opItem (.ref p) (.int 2) s = some (.int sm, s) := item_list hp1 idx_2
 have lc : (vI cs).length = cs.length := by simp [vI]
 have bc : cs.length ≤ big := by unfold big; exact om303 hl
 have m0 : m ≠ 0 := by exact om302 hm
 have P' : PenAt s p c (k + 1) := ⟨⟨sm, by simpa using hp1⟩, ⟨cs, hc1, hl⟩, hne⟩
 by_cases q : (k : Int) < (cs.length : Int)
 ·have hk' : k < cs.length := by exact om53 q
  have i3 : opItem (.ref c) (.int (k : Int)) s = some (.int cs[k], s) := item_list hc1 (idx_nat (by simp [vI, List.getElem?_eq_getElem hk']) (om304 hk))
  refine ⟨Int.fmod cs[k] m, s, ?_, (fmod_in hm).1, (fmod_in hm).2, X, P', ln⟩
  simp only [f_law_draw, f_law_draw_body, MSX, i1, st, i0, hc1, lc, bc, q, i3, ne_eq, m0]
 ·have s7 : small 7 = true := by decide
  have sk : small (k : Int) = true := by unfold small; simp only [Bool.and_eq_true, decide_eq_true_eq]; exact om305 hk
  have kk : (k : Int) * (k : Int) ≤ 1000000 := by
   have := Nat.mul_le_mul hk hk
   have : ((k * k : Nat) : Int) ≤ ((1000 * 1000 : Nat) : Int) := Int.ofNat_le.mpr this
   simpa using this
  have kk0 : 0 ≤ (k : Int) * (k : Int) := Int.mul_nonneg (om122) (om122)
  have fd : opFdiv (.int ((k : Int) * (k : Int))) (.int 3) s = some (.int (Int.fdiv ((k : Int) * (k : Int)) 3), s) := by
   unfold opFdiv
   show (if _ then _ else _) = _
   rw [if_pos ⟨by decide, ⟨kk0, om306 kk⟩, by decide⟩]
  refine ⟨Int.fmod (sm + 7 * (k : Int) + Int.fdiv ((k : Int) * (k : Int)) 3) m, s, ?_, (fmod_in hm).1, (fmod_in hm).2, X, P', ln⟩
  simp only [f_law_draw, f_law_draw_body, opMul, MSX, i1, st, i0, hc1, lc, bc, q, i2, ne_eq, m0, s7, sk, fd, Bool.and_self]
noncomputable def kSeen : Str := Str.ofString "\\Seen"
noncomputable def kAns : Str := Str.ofString "\\Answered"
noncomputable def kFlag : Str := Str.ofString "\\Flagged"
noncomputable def kDel : Str := Str.ofString "\\Deleted"
noncomputable def kDra : Str := Str.ofString "\\Draft"
noncomputable def kX : Str := Str.ofString "x"
noncomputable def sysL : List Str := [kSeen, kAns, kFlag, kDel, kDra]
theorem split_sys : Txt.split g_SYSTEM (Str.ofString " ") = sysL := by decide +kernel
theorem sys_ok {σ : Hp} : f_system_flags [] σ = some (.ref σ.length, σ ++ [O.list (vS sysL)]) := by
 have c : g_SYSTEM.cps.size ≤ 1000 ∧ (Str.ofString " ").cps.size = 1 := by decide +kernel
 simp only [f_system_flags, f_system_flags_body, isS, mSplit, MSX, c, split_sys, vS]
noncomputable def nm? (s : Str) : Option Str := sysL.find? fun n => Txt.lower s == Txt.lower n
theorem for_ret {src : Src} {a : Asg} {f : St} {k i : Nat} {ρ ρ1 ρ2 : Loc} {σ σ1 σ2 : Hp} {x v : V} (hn : nxt src i σ = some (some x)) (ha : a x ρ σ = some (ρ1, σ1)) (hf : f ρ1 σ1 = some (.ret v, ρ2, σ2)) :
  forGo src a f (k + 1) i ρ σ = some (.ret v, ρ2, σ2) := by
 show (nxt src i σ).bind _ = _
 rw [hn]
 simp only [Option.bind_some, ha, hf]
theorem names_go {σ : Hp} {n : Nat} {s : Str} (hn : σ[n]? = some (.list (vS sysL))) (hs : s.cps.size ≤ 1000) (hls : PyData.strOk (Txt.lower s) = true) (hsys : ∀ t ∈ sysL, t.cps.size ≤ 1000 ∧ PyData.strOk (Txt.lower t) = true) :
  ∀ (m i k : Nat) (y : V), i + m = sysL.length → m < k →
   ∃ ρ', forGo (.list n) (stA 1) b_flag_name k i [.str s, y] σ = some ((match (sysL.drop i).find? fun t => Txt.lower s == Txt.lower t with | some t => .ret (.str t) | none => .next), ρ', σ) ∧ ((sysL.drop i).find? (fun t => Txt.lower s == Txt.lower t) = none → ∃ z, ρ' = [.str s, z]) := by
 intro m
 induction m with
 | zero =>
  intro i k y hi hk
  obtain ⟨k, rfl⟩ := Nat.exists_eq_add_of_lt hk
  simp at hi
  refine ⟨[.str s, y], ?_, fun _ => ⟨y, rfl⟩⟩
  rw [List.drop_eq_nil_of_le (om117 hi)]
  exact for_stop (by rw [nxt_list hn, List.getElem?_eq_none (by simp [vS]; exact om117 hi)])
 | succ m ih =>
  intro i k y hi hk
  obtain ⟨k', rfl⟩ := Nat.exists_eq_add_of_lt hk
  have hlt : i < sysL.length := by exact om79 hi
  generalize ht : sysL[i] = t
  have hti : sysL[i]? = some t := by rw [List.getElem?_eq_getElem hlt, ht]
  have hmem : t ∈ sysL := List.mem_of_getElem? hti
  have hdrop : sysL.drop i = t :: sysL.drop (i + 1) := by rw [← ht]; exact List.drop_eq_getElem_cons hlt
  have nx : nxt (.list n) i σ = some (some (.str t)) := by rw [nxt_list hn]; simp [vS, hti]
  obtain ⟨h1, h2⟩ := hsys t hmem
  have q := opEq_of (σ := σ) (eqB_str (σ := σ) hls h2)
  rw [hdrop, List.find?_cons]
  by_cases c : Txt.lower s = Txt.lower t
  ·have cb : (Txt.lower s == Txt.lower t) = true := by simpa using c
   rw [decide_eq_true c] at q
   rw [cb]
   refine ⟨[.str s, .str t], ?_, fun d => by cases d⟩
   refine for_ret nx rfl ?_
   simp only [b_flag_name, isS, mLower, MSX, hs, h1, q]
  ·have cb : (Txt.lower s == Txt.lower t) = false := by simpa using c
   rw [decide_eq_false c] at q
   rw [cb]
   obtain ⟨ρ', e, d⟩ := ih (i + 1) (m + 1 + k') (.str t) (om80 hi) (om88)
   refine ⟨ρ', ?_, d⟩
   rw [show m + 1 + k' + 1 = (m + 1 + k') + 1 from rfl, for_step nx rfl (ρ2 := [.str s, .str t]) (σ2 := σ) ?_]
   ·exact e
   ·simp only [b_flag_name, isS, mLower, MSX, hs, h1, q]
theorem sys_facts : ∀ t ∈ sysL, t.cps.size ≤ 1000 ∧ PyData.strOk (Txt.lower t) = true := by decide +kernel
theorem kw_x {σ : Hp} : f_is_keyword [.str kX] σ = some (.bool true, σ) := by kernel_rfl
noncomputable def atoms4 : List Str := [kSeen, kDel, kX, kFlag]
theorem a4_facts : ∀ s ∈ atoms4, s.cps.size ≤ 1000 ∧ PyData.strOk (Txt.lower s) = true ∧ PyData.strOk s = true ∧ ((sysL.find? fun t => Txt.lower s == Txt.lower t) = some s ∨ ((sysL.find? fun t => Txt.lower s == Txt.lower t) = none ∧ s = kX)) := by decide +kernel
theorem flag_name_ok {σ : Hp} {s : Str} (h : s ∈ atoms4) : ∃ σ', f_flag_name [.str s] σ = some (.str s, σ') ∧ Ext [] σ σ' := by
 obtain ⟨h1, h2, _, h3⟩ := a4_facts s h
 have X : Ext [] σ (σ ++ [O.list (vS sysL)]) := Ext.app _ _
 have n := new_get σ (O.list (vS sysL))
 obtain ⟨ρ', e, d⟩ := names_go n h1 h2 sys_facts sysL.length 0 1000 .undef (Nat.zero_add _) (by decide)
 rw [List.drop_zero] at e d
 have m : (mkV (callL nilL f_system_flags)) [.str s, .undef] σ = some (.list σ.length, σ ++ [O.list (vS sysL)]) := by simp only [MSX, sys_ok, n]
 have l : l_flag_name [.str s, .undef] σ = some ((match sysL.find? fun t => Txt.lower s == Txt.lower t with | some t => .ret (.str t) | none => .next), ρ', σ ++ [O.list (vS sysL)]) := by
  show (mkV _ _ _).bind _ = _
  rw [m]; exact e
 refine ⟨_, ?_, X⟩
 rcases h3 with c | ⟨c, rfl⟩
 ·rw [c] at l
  simp only [f_flag_name, f_flag_name_body, MSX, l]
 ·rw [c] at l d
  obtain ⟨z, rfl⟩ := d rfl
  simp only [f_flag_name, f_flag_name_body, MSX, l, kw_x]
noncomputable def menu : List (List Str) := [[], [kSeen], [kDel, kX], [kX], [kFlag, kSeen]]
theorem menu_ok : ∀ fl ∈ menu, okS fl ∧ (∀ s ∈ fl, s ∈ atoms4) ∧ fl.Nodup ∧ fl.length ≤ 2 := by
 have : ∀ fl ∈ menu, (fl.length ≤ 10 ∧ ∀ s ∈ fl, PyData.strOk s = true) ∧ (∀ s ∈ fl, s ∈ atoms4) ∧ fl.Nodup ∧ fl.length ≤ 2 := by decide +kernel
 exact this
theorem sorted_ok {σ : Hp} {n : Nat} {fl : List Str} (h : fl ∈ menu) (hn : σ[n]? = some (.list (vS fl))) : bSorted [.ref n] σ = some (.ref σ.length, σ ++ [O.list (vS fl)]) := by
 have s1 : strLe kDel kX = true := by decide +kernel
 have s2 : strLe kFlag kSeen = true := by decide +kernel
 unfold bSorted; rw [arg1_c, onRef_c, lst_of hn]; clear hn
 simp only [menu, List.mem_cons, List.not_mem_nil, or_false] at h
 rcases h with rfl | rfl | rfl | rfl | rfl <;> simp only [Option.bind_some, vS, List.map_cons, List.map_nil, onStr_c, s1, s2, if_true]
inductive TI (σ : Hp) (fl : List Str) (i : Nat) (ρ : Loc) (s : Hp) : Prop
 | mk (x : V) (y : V) (_ : ρ = [.tup (vS fl), .ref σ.length, x, y]) (_ : Ext [] σ s) (_ : s[σ.length]? = some (.list (vS (fl.take i)))) (_ : i ≤ fl.length) : TI σ fl i ρ s
theorem flag_tuple_ok {σ : Hp} {fl : List Str} (h : fl ∈ menu) : ∃ σ', f_flag_tuple [fv fl] σ = some (fv fl, σ') ∧ Ext [] σ σ' := by
 obtain ⟨ho, ha, hnd, hl⟩ := menu_ok fl h
 have X1 : Ext [] σ (σ ++ [O.list []]) := Ext.app _ _
 have fvd : fv fl = .tup (vS fl) := rfl
 have key := for_list (src := .tup (vS fl)) (a := stA 2) (f := b_flag_tuple) (xs := vS fl) (N := 1000) (ρ := [.tup (vS fl), .ref σ.length, .undef, .undef]) (σ := σ ++ [O.list []])
  (fun i ρ s => TI σ fl i ρ s) (by simp [vS]; exact om307 hl) ⟨.undef, .undef, rfl, X1, new_get _ _, by simp⟩ (fun i ρ s _ _ => nxt_tup i) (by
   rintro i x ρ s hx ⟨x', y', rfl, X, g, hi⟩
   obtain ⟨t, ht, rfl⟩ : ∃ t, fl[i]? = some t ∧ x = V.str t := by
    simp only [vS, List.getElem?_map, Option.map_eq_some_iff] at hx
    obtain ⟨t, a, b⟩ := hx; exact ⟨t, a, b.symm⟩
   have hil : i < fl.length := (List.getElem?_eq_some_iff.mp ht).1
   have htk : fl.take (i + 1) = fl.take i ++ [t] := by rw [List.take_succ, ht]; rfl
   have hmem := List.mem_of_getElem? ht
   have hnot : t ∉ fl.take i := by
    intro c
    obtain ⟨j, hj⟩ := List.mem_iff_getElem?.mp c
    have hj' : j < i := by have := (List.getElem?_eq_some_iff.mp hj).1; simp at this; exact om177 this
    rw [List.getElem?_take_of_lt hj'] at hj
    have lj := (List.getElem?_eq_some_iff.mp hj)
    obtain ⟨l1, e1⟩ := lj
    have := List.pairwise_iff_getElem.mp hnd j i l1 hil hj'
    rw [e1, (List.getElem?_eq_some_iff.mp ht).2] at this
    exact this rfl
   obtain ⟨s2, e2, X2⟩ := flag_name_ok (σ := s) (ha t hmem)
   have g2 := X2.get _ _ g (List.not_mem_nil)
   have q := opNotIn_of (inB_strs (i := t) g2 ⟨by simp; exact om308 hl, fun u hu => ho.2 u (List.mem_of_mem_take hu)⟩ (ho.2 t hmem))
   rw [decide_eq_false hnot] at q
   have lb : (vS (fl.take i)).length < big := by simp [vS, big]; exact om309 hl
   have X3 : Ext [σ.length] s2 (s2.set σ.length (.list (vS (fl.take i) ++ [.str t]))) := Ext.set _ _ _
   refine ⟨[.tup (vS fl), .ref σ.length, .str t, y'], s, [.tup (vS fl), .ref σ.length, .str t, .str t], s2.set σ.length (.list (vS (fl.take i) ++ [.str t])), rfl, ?_, .str t, .str t, rfl, (X.trans X2).trans' X3 (by intro a h; simp at h; right; exact om117 h), ?_, hil⟩
   ·simp only [b_flag_tuple, MSX, e2, q, g2, lb]
   ·have := set_get (o' := O.list (vS (fl.take i) ++ [.str t])) g2
    rw [this, htk]; simp [vS])
 obtain ⟨ρ', s, e, x, y, rfl, X, g, _⟩ := key
 have g' : s[σ.length]? = some (.list (vS fl)) := by rw [g]; simp [vS]
 have l : l_flag_tuple [.tup (vS fl), .ref σ.length, .undef, .undef] (σ ++ [O.list []]) = some (.next, [.tup (vS fl), .ref σ.length, x, y], s) := by
  have m : (mkV (var 0)) [.tup (vS fl), .ref σ.length, .undef, .undef] (σ ++ [O.list []]) = some (.tup (vS fl), σ ++ [O.list []]) := by simp only [MSX]
  unfold l_flag_tuple sFor
  rw [m]; exact e
 have so := sorted_ok h g'
 have lb : (vS fl).length ≤ big := by simp [vS, big]; exact om310 hl
 refine ⟨s ++ [O.list (vS fl)], ?_, X.trans (Ext.app _ _)⟩
 rw [fvd]
 simp only [f_flag_tuple, f_flag_tuple_body, bTuple, MSX, l, so, new_get, lb]
theorem law_flags_ok {σ : Hp} : f_law_flags [] σ = some (.ref σ.length, σ ++ [O.list (menu.map fv)]) := by
 simp only [f_law_flags, f_law_flags_body, MSX]
 try rfl
theorem flags_at {σ : Hp} {n : Nat} {x : Int} (hn : σ[n]? = some (.list (menu.map fv))) (h0 : 0 ≤ x) (h5 : x < 5) : ∃ fl ∈ menu, opItem (.ref n) (.int x) σ = some (fv fl, σ) := by
 obtain ⟨k, rfl⟩ : ∃ k : Nat, x = k := ⟨x.toNat, om311 h0⟩
 have hl : k < menu.length := by show k < 5; exact om312 h5
 exact ⟨menu[k], List.getElem_mem hl, item_list hn (idx_nat (by simp [List.getElem?_eq_getElem hl]) (om313 h5))⟩
theorem letter_new {σ : Hp} {u ms ins : Int} {oc : Array UInt8} {fl : List Str} :
  mkInst 289 f_Letter_init [.int u, .bytes oc, fv fl, .int ins, .int ms] σ = some (.ref σ.length, σ ++ [O.inst 289 [.int u, .bytes oc, fv fl, .int ins, .int ms]]) := by
 have fvd : fv fl = .tup (vS fl) := rfl
 rw [fvd]
 simp only [mkInst, f_Letter_init, f_Letter_init_body, bTuple, MSX, new_get, set_last, Nat.reduceSub, Nat.zero_le, Nat.reduceLeDiff]
theorem raised_ok {σ : Hp} {b : Nat} {nm vd fr L G : V} {nu top : Int} (h : σ[b]? = some (.inst 327 [nm, vd, .int nu, .int top, fr, L, G])) :
  f_raised [.ref b] σ = some (.int (top + 1), σ.set b (.inst 327 [nm, vd, .int nu, .int (top + 1), fr, L, G])) := by
 have h' := set_get (o' := O.inst 327 [nm, vd, .int nu, .int (top + 1), fr, L, G]) h
 simp only [f_raised, f_raised_body, MSX, h, h', Nat.reduceLeDiff]
inductive BxAt_ltb_O (σ : Hp) (B : Bx) : Prop
 | mk  (_ : B.b < σ.length) (_ : B.L < σ.length) (_ : B.G < σ.length) (_ : ∀ p ∈ B.ls, p.1 < σ.length) : BxAt_ltb_O σ B
theorem BxAt.ltb {σ : Hp} {B : Bx} (h : BxAt σ B) : BxAt_ltb_O σ B := by
 obtain ⟨⟨nm, vd, fr, hb⟩, hL, ⟨gs, hG, _⟩, hl⟩ := h
 exact ⟨lt_of_get hb, lt_of_get hL, lt_of_get hG, fun p hp => by obtain ⟨oc, ins, e⟩ := hl p hp; exact lt_of_get e⟩
theorem BxAt.offb {σ : Hp} {B : Bx} (h : BxAt σ B) : B.L ≠ B.b ∧ B.G ≠ B.b ∧ ∀ p ∈ B.ls, p.1 ≠ B.b ∧ p.1 ≠ B.L := by
 obtain ⟨⟨nm, vd, fr, hb⟩, hL, ⟨gs, hG, _⟩, hl⟩ := h
 refine ⟨fun c => ?_, fun c => ?_, fun p hp => ?_⟩
 ·rw [c, hb] at hL; cases hL
 ·rw [c, hb] at hG; cases hG
 ·obtain ⟨oc, ins, e⟩ := hl p hp
  constructor
  ·intro c; rw [c, hb] at e; cases e
  ·intro c; rw [c, hL] at e; cases e
inductive add_ok_O (σ : Hp) (B : Bx) (oc : Array UInt8) (fl : List Str) (ins : Int) : Prop
 | mk (a : Nat) (v : V) (σ' : Hp) (_ : f_add_letter [.ref B.b, .bytes oc, fv fl, .int ins] σ = some (v, σ')) (_ : Ext [B.b, B.L] σ σ') (_ : σ.length ≤ a) (_ : BxAt σ' { B with ls := B.ls ++ [(a, ⟨B.nu, fl, B.top + 1⟩)], nu := B.nu + 1, top := B.top + 1 }) : add_ok_O σ B oc fl ins
theorem add_ok {σ : Hp} {B : Bx} {oc : Array UInt8} {fl : List Str} {ins : Int} (hB : BxAt σ B) (hGL : B.G ≠ B.L) (kB : BxOk B) (hf : fl ∈ menu) (ht : 0 ≤ B.top) : add_ok_O σ B oc fl ins := by
 obtain ⟨nm, vd, fr, hb⟩ := id hB.box
 have hn := kB.n
 obtain ⟨s1, e1, X1⟩ := flag_tuple_ok (σ := σ) hf
 have hb1 := X1.get _ _ hb (List.not_mem_nil)
 have e2 := raised_ok hb1
 have X2 : Ext [B.b] s1 (s1.set B.b (.inst 327 [nm, vd, .int B.nu, .int (B.top + 1), fr, .ref B.L, .ref B.G])) := Ext.set _ _ _
 have hb2 := set_get (o' := O.inst 327 [nm, vd, .int B.nu, .int (B.top + 1), fr, .ref B.L, .ref B.G]) hb1
 have l2 : (s1.set B.b (.inst 327 [nm, vd, .int B.nu, .int (B.top + 1), fr, .ref B.L, .ref B.G])).length = s1.length := by exact List.length_set
 generalize hs2 : s1.set B.b (.inst 327 [nm, vd, .int B.nu, .int (B.top + 1), fr, .ref B.L, .ref B.G]) = s2 at *
 have e3 := letter_new (σ := s2) (u := B.nu) (ms := B.top + 1) (ins := ins) (oc := oc) (fl := fl)
 have X3 : Ext [] s2 (s2 ++ [O.inst 289 [.int B.nu, .bytes oc, fv fl, .int ins, .int (B.top + 1)]]) := Ext.app _ _
 have n3 := new_get s2 (O.inst 289 [.int B.nu, .bytes oc, fv fl, .int ins, .int (B.top + 1)])
 have hb3 := X3.get _ _ hb2 (List.not_mem_nil)
 generalize hs3 : s2 ++ [O.inst 289 [.int B.nu, .bytes oc, fv fl, .int ins, .int (B.top + 1)]] = s3 at *
 have X4 : Ext [B.b] s3 (s3.set B.b (.inst 327 [nm, vd, .int (B.nu + 1), .int (B.top + 1), fr, .ref B.L, .ref B.G])) := Ext.set _ _ _
 have hb4 := set_get (o' := O.inst 327 [nm, vd, .int (B.nu + 1), .int (B.top + 1), fr, .ref B.L, .ref B.G]) hb3
 generalize hs4 : s3.set B.b (.inst 327 [nm, vd, .int (B.nu + 1), .int (B.top + 1), fr, .ref B.L, .ref B.G]) = s4 at *
 have XX4 : Ext [B.b] σ s4 := ((X1.nil.trans X2).trans X3.nil).trans X4
 obtain ⟨o1, o2, o3⟩ := hB.offb
 obtain ⟨b1, b2, b3, b4⟩ := hB.ltb
 have L4 := XX4.get _ _ hB.L (by simpa using o1)
 have lL : (refs B.ls).length < big := by simp [refs, big]; exact om314 hn
 have X5 : Ext [B.L] s4 (s4.set B.L (.list (refs B.ls ++ [.ref s2.length]))) := Ext.set _ _ _
 have L5 := set_get (o' := O.list (refs B.ls ++ [.ref s2.length])) L4
 have ls1 := X1.le
 refine ⟨s2.length, .ref s2.length, s4.set B.L (.list (refs B.ls ++ [.ref s2.length])), ?_, (XX4.mono (sub0)).trans (X5.mono (sub1)), om315 l2 ls1, ?_⟩
 ·have fvd : fv fl = .tup (vS fl) := rfl
  rw [fvd] at e1 e3 ⊢
  simp only [f_add_letter, f_add_letter_body, MSX, e1, hb1, e2, e3, hb3, hs4, hb4, L4, lL, Nat.reduceLeDiff]
 ·obtain ⟨gs, hG, hg⟩ := hB.G
  have XX5 : Ext [B.b, B.L] σ (s4.set B.L (.list (refs B.ls ++ [.ref s2.length]))) := (XX4.mono (sub0)).trans (X5.mono (sub1))
  refine ⟨⟨nm, vd, fr, X5.get _ _ hb4 (by simpa using Ne.symm o1)⟩, ?_, ⟨gs, XX5.get _ _ hG (by simp; exact ⟨o2, hGL⟩), ?_⟩, fun p hp => ?_⟩
  ·show _ = some (O.list (refs (B.ls ++ [(s2.length, _)])))
   rw [L5]; simp [refs]
  ·show gs.length ≤ 1000 * (B.top + 1).toNat
   have : (B.top + 1).toNat = B.top.toNat + 1 := by exact om316 ht
   exact om317 hg
  ·rcases List.mem_append.mp hp with c | c
   ·exact (hB.lt p c).ext XX5 (by simp; exact o3 p c)
   ·rw [List.mem_singleton.mp c]
    exact ⟨oc, ins, X5.get _ _ (X4.get _ _ n3 (by simp; exact om318 l2 b1 ls1)) (by simp; exact om318 l2 b2 ls1)⟩
theorem opSet_nat {σ : Hp} {n i : Nat} {xs : List V} {v : V} (hn : σ[n]? = some (.list xs)) (hi : i < xs.length) (hl : xs.length ≤ 10000) : opSet (.ref n) (.int (i : Int)) v σ = some (σ.set n (.list (xs.set i v))) := by
 unfold opSet
 rw [onRef_c, onInt_c, hn, onLD_a, if_pos ⟨om122, om319 hi hl⟩, if_pos (om94 hi)]
 rfl
inductive set_ok_O (σ : Hp) (B : Bx) (fl : List Str) (u : Int) : Prop
 | mk (v : V) (σ' : Hp) (_ : f_set_flags [.ref B.b, .int u, fv fl] σ = some (v, σ')) (_ : Ext [B.b, B.L] σ σ') (_ : (BxAt σ' B ∨ ∃ a i p, σ.length ≤ a ∧ B.ls[i]? = some p ∧ p.2.u = u ∧ BxAt σ' { B with ls := B.ls.set i (a, ⟨u, fl, B.top + 1⟩), top := B.top + 1 })) : set_ok_O σ B fl u
theorem set_ok {σ : Hp} {B : Bx} {fl : List Str} {u : Int} (hB : BxAt σ B) (hGL : B.G ≠ B.L) (kB : BxOk B) (hf : fl ∈ menu) (ht : 0 ≤ B.top) (hu : u ∈ keys B.ls) : set_ok_O σ B fl u := by
 obtain ⟨nm, vd, fr, hb⟩ := id hB.box
 have hn := kB.n
 have fvd : fv fl = .tup (vS fl) := rfl
 obtain ⟨s1, e1, X1⟩ := flag_tuple_ok (σ := σ) hf
 have hB1 := hB.ext0 X1
 have hb1 := X1.get _ _ hb (List.not_mem_nil)
 obtain ⟨r, e2, q0⟩ := place_of_ok (u := u) hB1.L hB1.lt kB.srt kB.n
 obtain ⟨i, rfl, q⟩ : ∃ i : Nat, r = (i : Int) ∧ (keys B.ls)[i]? = some u := by
  rcases q0 with q | ⟨_, q⟩
  ·exact q
  ·exact absurd hu q
 clear q0
 have hi : i < B.ls.length := by have := (List.getElem?_eq_some_iff.mp q).1; simpa [keys] using this
 generalize hp : B.ls[i] = p
 have hpi : B.ls[i]? = some p := by rw [List.getElem?_eq_getElem hi, hp]
 have hpu : p.2.u = u := by have := keys_get hpi; rw [q] at this; cases this; rfl
 have hmem := List.mem_of_getElem? hpi
 obtain ⟨oc, ins, hl1⟩ := hB1.lt p hmem
 have it : opItem (.ref B.L) (.int (i : Int)) s1 = some (.ref p.1, s1) := item_list hB1.L (idx_nat (by simp [refs, hpi]) (om113 hn hi))
 have okp := (kB.lo p hmem).2.2.2
 obtain ⟨okf, _⟩ := menu_ok fl hf
 have t1 := opEq_of (eqB_fv (σ := s1) okp okf)
 have ni : ¬ ((i : Int) < 0) := by exact om320
 by_cases c : p.2.fl = fl
 ·rw [decide_eq_true c] at t1
  refine ⟨.bool false, s1, ?_, X1.nil, .inl hB1⟩
  rw [fvd] at e1 t1 ⊢
  have fp : fv p.2.fl = .tup (vS p.2.fl) := rfl
  rw [fp] at t1 hl1
  simp only [f_set_flags, f_set_flags_body, MSX, e1, hb1, e2, ni, it, hl1, t1]
 ·rw [decide_eq_false c] at t1
  have e3 := raised_ok hb1
  have X2 : Ext [B.b] s1 (s1.set B.b (.inst 327 [nm, vd, .int B.nu, .int (B.top + 1), fr, .ref B.L, .ref B.G])) := Ext.set _ _ _
  have hb2 := set_get (o' := O.inst 327 [nm, vd, .int B.nu, .int (B.top + 1), fr, .ref B.L, .ref B.G]) hb1
  have l2 : (s1.set B.b (.inst 327 [nm, vd, .int B.nu, .int (B.top + 1), fr, .ref B.L, .ref B.G])).length = s1.length := by exact List.length_set
  generalize hs2 : s1.set B.b (.inst 327 [nm, vd, .int B.nu, .int (B.top + 1), fr, .ref B.L, .ref B.G]) = s2 at *
  have e4 := letter_new (σ := s2) (u := u) (ms := B.top + 1) (ins := ins) (oc := oc) (fl := fl)
  have X3 : Ext [] s2 (s2 ++ [O.inst 289 [.int u, .bytes oc, fv fl, .int ins, .int (B.top + 1)]]) := Ext.app _ _
  have n3 := new_get s2 (O.inst 289 [.int u, .bytes oc, fv fl, .int ins, .int (B.top + 1)])
  have hb3 := X3.get _ _ hb2 (List.not_mem_nil)
  generalize hs3 : s2 ++ [O.inst 289 [.int u, .bytes oc, fv fl, .int ins, .int (B.top + 1)]] = s3 at *
  have XX3 : Ext [B.b] σ s3 := (X1.nil.trans X2).trans X3.nil
  obtain ⟨o1, o2, o3⟩ := hB.offb
  obtain ⟨b1, b2, b3, b4⟩ := hB.ltb
  have L3 := XX3.get _ _ hB.L (by simpa using o1)
  have st : opSet (.ref B.L) (.int (i : Int)) (.ref s2.length) s3 = some (s3.set B.L (.list ((refs B.ls).set i (.ref s2.length)))) := opSet_nat L3 (by simpa [refs] using hi) (by simp [refs]; exact om112 hn)
  have X4 : Ext [B.L] s3 (s3.set B.L (.list ((refs B.ls).set i (.ref s2.length)))) := Ext.set _ _ _
  have L4 := set_get (o' := O.list ((refs B.ls).set i (.ref s2.length))) L3
  have XX4 : Ext [B.b, B.L] σ (s3.set B.L (.list ((refs B.ls).set i (.ref s2.length)))) := (XX3.mono (sub0)).trans (X4.mono (sub1))
  have ls1 := X1.le
  obtain ⟨gs, hG, hg⟩ := hB.G
  refine ⟨.bool true, s3.set B.L (.list ((refs B.ls).set i (.ref s2.length))), ?_, XX4, .inr ⟨s2.length, i, p, om315 l2 ls1, hpi, hpu, ⟨⟨nm, vd, fr, X4.get _ _ hb3 (by simpa using Ne.symm o1)⟩, ?_, ⟨gs, XX4.get _ _ hG (by simp; exact ⟨o2, hGL⟩), ?_⟩, fun w hw => ?_⟩⟩⟩
  ·rw [fvd] at e1 t1 e4 ⊢
   have fp : fv p.2.fl = .tup (vS p.2.fl) := rfl
   rw [fp] at t1 hl1
   simp only [f_set_flags, f_set_flags_body, MSX, e1, hb1, e2, ni, it, hl1, t1, e3, e4, hb3, st]
  ·show _ = some (O.list (refs (B.ls.set i (s2.length, _))))
   rw [L4]; simp [refs, List.map_set]
  ·show gs.length ≤ 1000 * (B.top + 1).toNat
   have : (B.top + 1).toNat = B.top.toNat + 1 := by exact om316 ht
   exact om317 hg
  ·obtain ⟨j, hj⟩ := List.mem_iff_getElem?.mp hw
   by_cases q : j = i
   ·subst q
    have : (B.ls.set j (s2.length, (⟨u, fl, B.top + 1⟩ : Lt)))[j]? = some w := hj
    rw [List.getElem?_set_self hi] at this
    cases this
    exact ⟨oc, ins, X4.get _ _ n3 (by simp; exact om318 l2 b2 ls1)⟩
   ·have : (B.ls.set i (s2.length, (⟨u, fl, B.top + 1⟩ : Lt)))[j]? = some w := hj
    rw [List.getElem?_set_ne (Ne.symm q)] at this
    have m := List.mem_of_getElem? this
    exact (hB.lt w m).ext XX4 (by simp; exact o3 w m)
noncomputable def wantD (u w : Int) : List (Int × V) := dput (dput [] u (.bool true)) w (.bool true)
theorem want_look (u w x : Int) : ((wantD u w).lookup x).isSome = decide (x = u ∨ x = w) := by
 have e0 : dput [] u (V.bool true) = [(u, V.bool true)] := dput_new (List.not_mem_nil)
 unfold wantD
 rw [e0]
 by_cases c : w = u
 ·subst c
  have : dput [(w, V.bool true)] w (V.bool true) = [(w, V.bool true)] := by
   unfold dput; rw [if_pos (by simp)]; simp
  rw [this]
  by_cases q : x = w
  ·subst q; simp
  ·have qb : (x == w) = false := by simpa using q
   simp only [List.lookup_cons, qb]; simp [q]
 ·have : dput [(u, V.bool true)] w (V.bool true) = [(u, V.bool true), (w, V.bool true)] := by
   rw [dput_new (by simpa using c)]; rfl
  rw [this]
  by_cases q : x = u
  ·subst q; simp
  ·have qb : (x == u) = false := by simpa using q
   by_cases q2 : x = w
   ·subst q2; simp [List.lookup_cons, qb]
   ·have qb2 : (x == w) = false := by simpa using q2
    simp only [List.lookup_cons, qb, qb2]; simp [q, q2]
theorem dput_len1 {es : List (Int × V)} {k : Int} {v : V} : (dput es k v).length ≤ es.length + 1 := by
 unfold dput; split <;> simp
theorem want_loop {σ : Hp} {us wd : Nat} {u w : Int} {x0 : V} (hu : σ[us]? = some (.list [.int u, .int w])) (hw : σ[wd]? = some (.idict [])) (hne : us ≠ wd) :
  ∃ y, l_expunge [x0, .ref us, .ref wd, .undef, .undef, .undef] σ = some (.next, [x0, .ref us, .ref wd, y, .undef, .undef], σ.set wd (.idict (wantD u w))) := by
 have X1 : Ext [wd] σ (σ.set wd (.idict (dput [] u (.bool true)))) := Ext.set _ _ _
 have w1 := set_get (o' := O.idict (dput [] u (V.bool true))) hw
 have u1 := X1.get _ _ hu (by simpa using hne)
 have X2 : Ext [wd] (σ.set wd (.idict (dput [] u (.bool true)))) ((σ.set wd (.idict (dput [] u (.bool true)))).set wd (.idict (wantD u w))) := Ext.set _ _ _
 have u2 := X2.get _ _ u1 (by simpa using hne)
 have l1 : (dput [] u (V.bool true)).length ≤ big := Nat.le_trans dput_len1 (by decide)
 have s1 : opSet (.ref wd) (.int u) (.bool true) σ = some (σ.set wd (.idict (dput [] u (.bool true)))) := by
  unfold opSet; rw [onRef_c, onInt_c, hw, onLD_b, if_pos (by decide)]
 have s2 : opSet (.ref wd) (.int w) (.bool true) (σ.set wd (.idict (dput [] u (.bool true)))) = some ((σ.set wd (.idict (dput [] u (.bool true)))).set wd (.idict (wantD u w))) := by
  unfold opSet; rw [onRef_c, onInt_c, w1, onLD_b, if_pos l1]; rfl
 have t1 : b_expunge [x0, .ref us, .ref wd, .int u, .undef, .undef] σ = some (.next, [x0, .ref us, .ref wd, .int u, .undef, .undef], σ.set wd (.idict (dput [] u (.bool true)))) := by
  simp only [b_expunge, MSX, s1]
 have t2 : b_expunge [x0, .ref us, .ref wd, .int w, .undef, .undef] (σ.set wd (.idict (dput [] u (.bool true)))) = some (.next, [x0, .ref us, .ref wd, .int w, .undef, .undef], (σ.set wd (.idict (dput [] u (.bool true)))).set wd (.idict (wantD u w))) := by
  simp only [b_expunge, MSX, s2]
 refine ⟨.int w, ?_⟩
 have m : (mkV (var 1)) [x0, .ref us, .ref wd, .undef, .undef, .undef] σ = some (.list us, σ) := by simp only [MSX, hu]
 unfold l_expunge sFor
 rw [m]
 simp only [Option.bind_some]
 rw [show (1000 : Nat) = 999 + 1 from rfl, for_step (by rw [nxt_list hu]; rfl) rfl t1, show (999 : Nat) = 998 + 1 from rfl, for_step (by rw [nxt_list u1]; rfl) rfl t2, show (998 : Nat) = 997 + 1 from rfl, for_stop (by rw [nxt_list u2]; rfl)]
 simp only [List.set_set]
noncomputable def stay (ls : Ls) (u w : Int) : Ls := ls.filter fun p => !decide (p.2.u = u ∨ p.2.u = w)
inductive expunge_ok_O (σ : Hp) (B : Bx) (us : Nat) (u : Int) (w : Int) : Prop
 | mk (v : V) (σ' : Hp) (_ : f_expunge [.ref B.b, .ref us] σ = some (v, σ')) (_ : Ext [B.b] σ σ') (_ : (BxAt σ' B ∨ ∃ L G, σ.length ≤ L ∧ σ.length ≤ G ∧ G ≠ L ∧ BxAt σ' { B with L := L, G := G, ls := stay B.ls u w, top := B.top + 1 })) : expunge_ok_O σ B us u w
theorem expunge_ok {σ : Hp} {B : Bx} {us : Nat} {u w : Int} (hB : BxAt σ B) (kB : BxOk B) (hu : σ[us]? = some (.list [.int u, .int w])) (ht : 0 ≤ B.top) (ht2 : B.top ≤ 100) (usb : us ≠ B.b) : expunge_ok_O σ B us u w := by
 have hn := kB.n
 have X1 : Ext [] σ (σ ++ [O.idict []]) := Ext.app _ _
 have hu1 := X1.get _ _ hu (List.not_mem_nil)
 have w1 := new_get σ (O.idict [])
 have lt1 := lt_of_get hu
 obtain ⟨y, e1⟩ := want_loop (x0 := .ref B.b) hu1 w1 (Nat.ne_of_lt lt1)
 have X2 : Ext [σ.length] (σ ++ [O.idict []]) ((σ ++ [O.idict []]).set σ.length (.idict (wantD u w))) := Ext.set _ _ _
 have w2 := set_get (o' := O.idict (wantD u w)) w1
 have l2 : ((σ ++ [O.idict []]).set σ.length (.idict (wantD u w))).length = σ.length + 1 := by simp
 generalize hs2 : (σ ++ [O.idict []]).set σ.length (.idict (wantD u w)) = s2 at *
 have XX2 : Ext [] σ s2 := X1.trans' X2 (by intro a h; simp at h; right; exact om117 h)
 have hB2 := hB.ext0 XX2
 obtain ⟨nm, vd, fr, hb2⟩ := id hB2.box
 have e2 := uids_ok hB2 kB
 have X3 : Ext [] s2 (s2 ++ [O.list (vI (keys B.ls))]) := Ext.app _ _
 have u3 := new_get s2 (O.list (vI (keys B.ls)))
 have w3 := X3.get _ _ w2 (List.not_mem_nil)
 have e3 : c_expunge [.ref B.b, .ref us, .ref σ.length, y, .undef, .undef] s2 = some (.ref (s2 ++ [O.list (vI (keys B.ls))]).length, (s2 ++ [O.list (vI (keys B.ls))]) ++ [O.list (vI ((keys B.ls).filter fun x => decide (x = u ∨ x = w)))]) := by
  have := comp_idx (mk := mkV (meth (isInst 327) (var 0) nilL f_Box_uids)) (src := .list s2.length) (σ := s2 ++ [O.list (vI (keys B.ls))]) (σ0 := s2) (caps := [(2, Str.ofString "wanted")]) (t := tst (bin2 opIn (var 0) (var 1))) (e := var 0) (ρ := [.ref B.b, .ref us, .ref σ.length, y, .undef, .undef]) (cv := [.ref σ.length]) (xs := keys B.ls) (g := V.int) (N := 1000) (fun x => decide (x = u ∨ x = w)) V.int
   (by simp only [MSX, hb2, e2, u3]) (fun i => nxt_list u3 i) (by simp [keys]; exact om125 hn) rfl (by
    intro x hx
    have q := opIn_of (inB_dict (i := x) w3)
    rw [want_look] at q
    simp only [MSX, q]) (by intro x _ _; simp only [MSX])
  exact this
 have l3 : (s2 ++ [O.list (vI (keys B.ls))]).length = s2.length + 1 := by exact len_app
 generalize hs3 : s2 ++ [O.list (vI (keys B.ls))] = s3 at *
 have XX3 := XX2.trans X3
 have X4 : Ext [] s3 (s3 ++ [O.list (vI ((keys B.ls).filter fun x => decide (x = u ∨ x = w)))]) := Ext.app _ _
 have th4 := new_get s3 (O.list (vI ((keys B.ls).filter fun x => decide (x = u ∨ x = w))))
 have w4 := X4.get _ _ w3 (List.not_mem_nil)
 generalize hthere : (keys B.ls).filter (fun x => decide (x = u ∨ x = w)) = there at *
 have tl : there.length ≤ 900 := by rw [← hthere]; exact Nat.le_trans (List.length_filter_le _ _) (by simpa [keys] using hn)
 generalize hs4 : s3 ++ [O.list (vI there)] = s4 at *
 have XX4 := XX3.trans X4
 have X5 : Ext [] s4 (s4 ++ [O.list []]) := Ext.app _ _
 have th5 := X5.get _ _ th4 (List.not_mem_nil)
 have q5 := opEq_of (eqB_nil th5 (new_get s4 (O.list [])))
 have w5 := X5.get _ _ w4 (List.not_mem_nil)
 have hlen4 : s3.length < s4.length := lt_of_get th4
 have hs5l : (s4 ++ [O.list []]).length = s4.length + 1 := by exact len_app
 generalize hs5 : s4 ++ [O.list []] = s5 at *
 have XX5 := XX4.trans X5
 have hB5 := hB.ext0 XX5
 obtain ⟨nm5, vd5, fr5, hb5⟩ := id hB5.box
 have q1 : (sAsg mkDict0 (stA 2)) [.ref B.b, .ref us, .undef, .undef, .undef, .undef] σ = some (.next, [.ref B.b, .ref us, .ref σ.length, .undef, .undef, .undef], σ ++ [O.idict []]) := by
  simp only [mkDict0, MSX]
 have q3 : (sAsg c_expunge (stA 4)) [.ref B.b, .ref us, .ref σ.length, y, .undef, .undef] s2 = some (.next, [.ref B.b, .ref us, .ref σ.length, y, .ref s3.length, .undef], s4) := by
  unfold sAsg; rw [e3]; rfl
 cases hemp : there with
 | nil =>
  rw [hemp] at q5
  refine ⟨.ref s5.length, s5 ++ [O.list []], ?_, (XX5.trans (Ext.app _ _)).nil, .inl (hB5.ext0 (Ext.app _ _))⟩
  have q4 : (sIf (tst (bin2 opEq (var 4) (mkList nilL))) (sRet (mkList nilL)) sNil) [.ref B.b, .ref us, .ref σ.length, y, .ref s3.length, .undef] s4 = some (.ret (.ref s5.length), [.ref B.b, .ref us, .ref σ.length, y, .ref s3.length, .undef], s5 ++ [O.list []]) := by
   have q5' : opEq (.ref s3.length) (.ref s4.length) s5 = some (.bool true, s5) := q5
   simp only [MSX, hs5, q5']
  unfold f_expunge runF
  simp only [List.length_cons, List.length_nil, Nat.reduceAdd, if_true, List.replicate_succ, List.replicate_zero, List.cons_append, List.nil_append]
  rw [f_expunge_body, sc q1, sc e1, sc q3]
  unfold sCons
  rw [q4]
  rfl
 | cons t ts =>
  have q5' : opEq (.ref s3.length) (.ref s4.length) s5 = some (.bool false, s5) := by rw [q5, hemp]; rfl
  have q4 : (sIf (tst (bin2 opEq (var 4) (mkList nilL))) (sRet (mkList nilL)) sNil) [.ref B.b, .ref us, .ref σ.length, y, .ref s3.length, .undef] s4 = some (.next, [.ref B.b, .ref us, .ref σ.length, y, .ref s3.length, .undef], s5) := by
   simp only [MSX, hs5, q5']
  have e6 := raised_ok hb5
  have X6 : Ext [B.b] s5 (s5.set B.b (.inst 327 [nm5, vd5, .int B.nu, .int (B.top + 1), fr5, .ref B.L, .ref B.G])) := Ext.set _ _ _
  have hb6 := set_get (o' := O.inst 327 [nm5, vd5, .int B.nu, .int (B.top + 1), fr5, .ref B.L, .ref B.G]) hb5
  have l6 : (s5.set B.b (.inst 327 [nm5, vd5, .int B.nu, .int (B.top + 1), fr5, .ref B.L, .ref B.G])).length = s5.length := by exact List.length_set
  generalize hs6 : s5.set B.b (.inst 327 [nm5, vd5, .int B.nu, .int (B.top + 1), fr5, .ref B.L, .ref B.G]) = s6 at *
  have XX6 : Ext [B.b] σ s6 := XX5.nil.trans X6
  obtain ⟨o1, o2, o3⟩ := hB.offb
  obtain ⟨b1, b2, b3, b4⟩ := hB.ltb
  obtain ⟨gs, hG, hg⟩ := hB.G
  have hB6 : BxAt s6 { B with top := B.top + 1 } := ⟨⟨nm5, vd5, fr5, hb6⟩, XX6.get _ _ hB.L (by simpa using o1), ⟨gs, XX6.get _ _ hG (by simpa using o2), by show gs.length ≤ 1000 * (B.top + 1).toNat; exact om317 hg⟩, fun p hp => (hB.lt p hp).ext XX6 (by simp; exact (o3 p hp).1)⟩
  have kB6 : BxOk { B with top := B.top + 1 } := ⟨kB.srt, fun p hp => by obtain ⟨a, b, c, d⟩ := kB.lo p hp; exact ⟨a, b, by show p.2.ms ≤ B.top + 1; exact om321 c, d⟩, kB.n⟩
  have wb : σ.length ≠ B.b := by exact om181 b1
  have w6 := X6.get _ _ w5 (by simpa using wb)
  have th6 := X6.get _ _ th5 (by simp; exact om322 l2 l3 b1)
  have e7 : c_expunge2 [.ref B.b, .ref us, .ref σ.length, y, .ref s3.length, .int (B.top + 1)] s6 = some (.ref s6.length, s6 ++ [O.list (refs (stay B.ls u w))]) := by
   have := comp_letters hB6 kB6 (f := un1 (getA 327 5) (var 0)) (caps := [(2, Str.ofString "wanted")]) (t := tst (bin2 opNotIn (un1 (getA 289 0) (var 0)) (var 1))) (e := var 0) (ρ := [.ref B.b, .ref us, .ref σ.length, y, .ref s3.length, .int (B.top + 1)]) (cv := [.ref σ.length])
    (fun l => !decide (l.u = u ∨ l.u = w)) (fun x => .ref x.1) (by simp only [MSX, hb6]) rfl (by
     rintro x hx ⟨oc, ins, hl⟩
     have q := opNotIn_of (inB_dict (i := x.2.u) w6)
     rw [want_look] at q
     simp only [MSX, hl, q]) (by intro x _ _ _; simp only [MSX])
   exact this
  have X7 : Ext [] s6 (s6 ++ [O.list (refs (stay B.ls u w))]) := Ext.app _ _
  have n7 := new_get s6 (O.list (refs (stay B.ls u w)))
  have hb7 := X7.get _ _ hb6 (List.not_mem_nil)
  have l7 : (s6 ++ [O.list (refs (stay B.ls u w))]).length = s6.length + 1 := by exact len_app
  generalize hs7 : s6 ++ [O.list (refs (stay B.ls u w))] = s7 at *
  have X8 : Ext [B.b] s7 (s7.set B.b (.inst 327 [nm5, vd5, .int B.nu, .int (B.top + 1), fr5, .ref s6.length, .ref B.G])) := Ext.set _ _ _
  have hb8 := set_get (o' := O.inst 327 [nm5, vd5, .int B.nu, .int (B.top + 1), fr5, .ref s6.length, .ref B.G]) hb7
  have l8 : (s7.set B.b (.inst 327 [nm5, vd5, .int B.nu, .int (B.top + 1), fr5, .ref s6.length, .ref B.G])).length = s7.length := by exact List.length_set
  have q7 : (sAsg c_expunge2 (attrA (var 0) (setA 327 5))) [.ref B.b, .ref us, .ref σ.length, y, .ref s3.length, .int (B.top + 1)] s6 = some (.next, [.ref B.b, .ref us, .ref σ.length, y, .ref s3.length, .int (B.top + 1)], s7.set B.b (.inst 327 [nm5, vd5, .int B.nu, .int (B.top + 1), fr5, .ref s6.length, .ref B.G])) := by
   simp only [MSX, e7, hb7, Nat.reduceLeDiff]
  generalize hs8 : s7.set B.b (.inst 327 [nm5, vd5, .int B.nu, .int (B.top + 1), fr5, .ref s6.length, .ref B.G]) = s8 at *
  have th8 := X8.get _ _ (X7.get _ _ th6 (List.not_mem_nil)) (by simp; exact om322 l2 l3 b1)
  have e9 : c_expunge3 [.ref B.b, .ref us, .ref σ.length, y, .ref s3.length, .int (B.top + 1)] s8 = some (.ref s8.length, s8 ++ [O.list (there.map fun x => V.tup [.int x, .int (B.top + 1)])]) := by
   refine comp_all (src := .list s3.length) (g := V.int) (cv := [.int (B.top + 1)]) (fun x => V.tup [.int x, .int (B.top + 1)]) (by simp only [MSX, th8]) (fun i => nxt_list th8 i) (om125 tl) rfl ?_
   intro x _
   simp only [MSX]
  have X9 : Ext [] s8 (s8 ++ [O.list (there.map fun x => V.tup [.int x, .int (B.top + 1)])]) := Ext.app _ _
  have n9 := new_get s8 (O.list (there.map fun x => V.tup [.int x, .int (B.top + 1)]))
  have hb9 := X9.get _ _ hb8 (List.not_mem_nil)
  have l9 : (s8 ++ [O.list (there.map fun x => V.tup [.int x, .int (B.top + 1)])]).length = s8.length + 1 := by exact len_app
  have XX8 : Ext [B.b] σ s8 := (XX6.trans X7.nil).trans X8
  have G8 := XX8.get _ _ hG (by simpa using o2)
  have G9 := X9.get _ _ G8 (List.not_mem_nil)
  generalize hs9 : s8 ++ [O.list (there.map fun x => V.tup [.int x, .int (B.top + 1)])] = s9 at *
  have ga : gs.length + there.length ≤ big := by unfold big; exact om323 ht2 tl hg
  have X10 : Ext [] s9 (s9 ++ [O.list (gs ++ there.map fun x => V.tup [.int x, .int (B.top + 1)])]) := Ext.app _ _
  have n10 := new_get s9 (O.list (gs ++ there.map fun x => V.tup [.int x, .int (B.top + 1)]))
  have hb10 := X10.get _ _ hb9 (List.not_mem_nil)
  have l10 : (s9 ++ [O.list (gs ++ there.map fun x => V.tup [.int x, .int (B.top + 1)])]).length = s9.length + 1 := by exact len_app
  have q9 : (sAsg (bin2 opAdd (un1 (getA 327 6) (var 0)) c_expunge3) (attrA (var 0) (setA 327 6))) [.ref B.b, .ref us, .ref σ.length, y, .ref s3.length, .int (B.top + 1)] s8 = some (.next, [.ref B.b, .ref us, .ref σ.length, y, .ref s3.length, .int (B.top + 1)], (s9 ++ [O.list (gs ++ there.map fun x => V.tup [.int x, .int (B.top + 1)])]).set B.b (.inst 327 [nm5, vd5, .int B.nu, .int (B.top + 1), fr5, .ref s6.length, .ref s9.length])) := by
   simp only [MSX, hb8, e9, G9, n9, ga, hb10, Nat.reduceLeDiff]
  generalize hs10 : s9 ++ [O.list (gs ++ there.map fun x => V.tup [.int x, .int (B.top + 1)])] = s10 at *
  have X11 : Ext [B.b] s10 (s10.set B.b (.inst 327 [nm5, vd5, .int B.nu, .int (B.top + 1), fr5, .ref s6.length, .ref s9.length])) := Ext.set _ _ _
  have hb11 := set_get (o' := O.inst 327 [nm5, vd5, .int B.nu, .int (B.top + 1), fr5, .ref s6.length, .ref s9.length]) hb10
  have XX11 : Ext [B.b] σ (s10.set B.b (.inst 327 [nm5, vd5, .int B.nu, .int (B.top + 1), fr5, .ref s6.length, .ref s9.length])) := ((XX8.trans X9.nil).trans X10.nil).trans X11
  have le5 := XX5.le
  have q6 : (sAsg (callL (consL (var 0) nilL) f_raised) (stA 5)) [.ref B.b, .ref us, .ref σ.length, y, .ref s3.length, .undef] s5 = some (.next, [.ref B.b, .ref us, .ref σ.length, y, .ref s3.length, .int (B.top + 1)], s6) := by
   simp only [MSX, e6]
  refine ⟨.ref s3.length, _, ?_, XX11, .inr ⟨s6.length, s9.length, om324 l2 l3 hlen4 hs5l l6, om325 l2 l3 hlen4 hs5l l6 l7 l8 l9, om326 l7 l8 l9, ⟨⟨nm5, vd5, fr5, hb11⟩, ?_, ⟨gs ++ there.map fun x => V.tup [.int x, .int (B.top + 1)], ?_, ?_⟩, fun p hp => ?_⟩⟩⟩
  ·unfold f_expunge runF
   simp only [List.length_cons, List.length_nil, Nat.reduceAdd, if_true, List.replicate_succ, List.replicate_zero, List.cons_append, List.nil_append]
   rw [f_expunge_body, sc q1, sc e1, sc q3, sc q4, sc q6, sc q7, sc q9]
   rfl
  ·exact X11.get _ _ (X10.get _ _ (X9.get _ _ (X8.get _ _ n7 (by simp; exact om327 l2 l3 hlen4 hs5l l6 b1)) (List.not_mem_nil)) (List.not_mem_nil)) (by simp; exact om327 l2 l3 hlen4 hs5l l6 b1)
  ·exact X11.get _ _ n10 (by simp; exact om328 l2 l3 hlen4 hs5l l6 b1 l7 l8 l9)
  ·show (gs ++ _).length ≤ 1000 * (B.top + 1).toNat
   have : (B.top + 1).toNat = B.top.toNat + 1 := by exact om316 ht
   simp only [List.length_append, List.length_map]; exact om329 tl hg this
  ·have m : p ∈ B.ls := (List.mem_filter.mp hp).1
   exact (hB.lt p m).ext XX11 (by simp; exact (o3 p m).1)
theorem keys_snd (ls : Ls) : us (ls.map (·.2)) = keys ls := by simp [us, keys]
inductive view_ok_O (σ : Hp) (B : Bx) (um : Bool) (uv : Bool) : Prop
 | mk (U : Nat) (F : Nat) (M : Nat) (σ' : Hp) (_ : mkInst 105 f_View_init [.ref B.b, .bool false, .bool um, .bool uv] σ = some (.ref σ.length, σ')) (_ : Ext [] σ σ') (_ : σ.length ≤ U) (_ : σ.length ≤ F) (_ : σ.length ≤ M) (_ : VwAt σ' B.b ⟨σ.length, U, F, M, um, uv, B.ls.map (·.2)⟩) : view_ok_O σ B um uv
theorem view_ok {σ : Hp} {B : Bx} {um uv : Bool} (hB : BxAt σ B) (kB : BxOk B) : view_ok_O σ B um uv := by
 have hn := kB.n
 have X0 : Ext [] σ (σ ++ [O.inst 105 [.ref B.b, .bool false, .bool um, .bool uv]]) := Ext.app _ _
 have q0 : ∀ g : St, (sCons (sAsg (var 1) (attrA (var 0) (setA 105 0))) (sCons (sAsg (var 2) (attrA (var 0) (setA 105 1))) (sCons (sAsg (var 3) (attrA (var 0) (setA 105 2))) (sCons (sAsg (var 4) (attrA (var 0) (setA 105 3))) g)))) [.ref σ.length, .ref B.b, .bool false, .bool um, .bool uv] (σ ++ [O.inst 105 []]) =
   g [.ref σ.length, .ref B.b, .bool false, .bool um, .bool uv] (σ ++ [O.inst 105 [.ref B.b, .bool false, .bool um, .bool uv]]) := by
  intro g
  have a1 : (sAsg (var 1) (attrA (var 0) (setA 105 0))) [.ref σ.length, .ref B.b, .bool false, .bool um, .bool uv] (σ ++ [O.inst 105 []]) = some (.next, [.ref σ.length, .ref B.b, .bool false, .bool um, .bool uv], σ ++ [O.inst 105 [.ref B.b]]) := by
   simp only [MSX, new_get, set_last, Nat.zero_le, Nat.reduceLeDiff]
  have a2 : (sAsg (var 2) (attrA (var 0) (setA 105 1))) [.ref σ.length, .ref B.b, .bool false, .bool um, .bool uv] (σ ++ [O.inst 105 [.ref B.b]]) = some (.next, [.ref σ.length, .ref B.b, .bool false, .bool um, .bool uv], σ ++ [O.inst 105 [.ref B.b, .bool false]]) := by
   simp only [MSX, new_get, set_last, Nat.zero_le, Nat.reduceLeDiff, Nat.lt_irrefl]
  have a3 : (sAsg (var 3) (attrA (var 0) (setA 105 2))) [.ref σ.length, .ref B.b, .bool false, .bool um, .bool uv] (σ ++ [O.inst 105 [.ref B.b, .bool false]]) = some (.next, [.ref σ.length, .ref B.b, .bool false, .bool um, .bool uv], σ ++ [O.inst 105 [.ref B.b, .bool false, .bool um]]) := by
   simp only [MSX, new_get, set_last, Nat.zero_le, Nat.reduceLeDiff, Nat.lt_irrefl]
  have a4 : (sAsg (var 4) (attrA (var 0) (setA 105 3))) [.ref σ.length, .ref B.b, .bool false, .bool um, .bool uv] (σ ++ [O.inst 105 [.ref B.b, .bool false, .bool um]]) = some (.next, [.ref σ.length, .ref B.b, .bool false, .bool um, .bool uv], σ ++ [O.inst 105 [.ref B.b, .bool false, .bool um, .bool uv]]) := by
   simp only [MSX, new_get, set_last, Nat.zero_le, Nat.reduceLeDiff, Nat.lt_irrefl]
  rw [sc a1, sc a2, sc a3, sc a4]
 have v0 := new_get σ (O.inst 105 [.ref B.b, .bool false, .bool um, .bool uv])
 have l0 : (σ ++ [O.inst 105 [.ref B.b, .bool false, .bool um, .bool uv]]).length = σ.length + 1 := by exact len_app
 generalize hs0 : σ ++ [O.inst 105 [.ref B.b, .bool false, .bool um, .bool uv]] = s0 at *
 have hB0 := hB.ext0 X0
 obtain ⟨nm, vd, fr, hb0⟩ := id hB0.box
 have e1 := uids_ok hB0 kB
 have X1 : Ext [] s0 (s0 ++ [O.list (vI (keys B.ls))]) := Ext.app _ _
 have U1 := new_get s0 (O.list (vI (keys B.ls)))
 have v1 := X1.get _ _ v0 (List.not_mem_nil)
 have l1 : (s0 ++ [O.list (vI (keys B.ls))]).length = s0.length + 1 := by exact len_app
 have q1 : (sAsg (meth (isInst 327) (var 1) nilL f_Box_uids) (attrA (var 0) (setA 105 4))) [.ref σ.length, .ref B.b, .bool false, .bool um, .bool uv] s0 = some (.next, [.ref σ.length, .ref B.b, .bool false, .bool um, .bool uv], (s0 ++ [O.list (vI (keys B.ls))]).set σ.length (.inst 105 [.ref B.b, .bool false, .bool um, .bool uv, .ref s0.length])) := by
  simp only [MSX, hb0, e1, v1, Nat.reduceLeDiff, Nat.lt_irrefl]
 generalize hs1 : s0 ++ [O.list (vI (keys B.ls))] = s1 at *
 have X2 : Ext [σ.length] s1 (s1.set σ.length (.inst 105 [.ref B.b, .bool false, .bool um, .bool uv, .ref s0.length])) := Ext.set _ _ _
 have v2 := set_get (o' := O.inst 105 [.ref B.b, .bool false, .bool um, .bool uv, .ref s0.length]) v1
 have l2 : (s1.set σ.length (.inst 105 [.ref B.b, .bool false, .bool um, .bool uv, .ref s0.length])).length = s1.length := by exact List.length_set
 generalize hs2 : s1.set σ.length (.inst 105 [.ref B.b, .bool false, .bool um, .bool uv, .ref s0.length]) = s2 at *
 have U2 := X2.get _ _ U1 (by simp; exact om330 l0)
 have XX2 : Ext [] σ s2 := (X0.trans X1).trans' X2 (by intro a h; simp at h; right; exact om117 h)
 have hB2 := hB.ext0 XX2
 obtain ⟨nm2, vd2, fr2, hb2⟩ := id hB2.box
 have e3 : c_View_init [.ref σ.length, .ref B.b, .bool false, .bool um, .bool uv] s2 = some (.ref s2.length, s2 ++ [O.list ((flD (B.ls.map (·.2))).map fun p => .tup [.int p.1, p.2])]) := by
  have := comp_letters hB2 kB (f := un1 (getA 327 5) (var 1)) (caps := []) (t := tYes) (e := mkTup (consL (un1 (getA 289 0) (var 0)) (consL (un1 (getA 289 2) (var 0)) nilL))) (ρ := [.ref σ.length, .ref B.b, .bool false, .bool um, .bool uv]) (cv := []) (fun _ => true) (fun p => .tup [.int p.2.u, fv p.2.fl])
   (by simp only [MSX, hb2]) rfl (fun _ _ _ => rfl) (by rintro x _ ⟨oc, ins, hx⟩ _; simp only [MSX, hx])
  rw [filter_true] at this
  rw [flD, List.map_map, List.map_map]; exact this
 have X3 : Ext [] s2 (s2 ++ [O.list ((flD (B.ls.map (·.2))).map fun p => .tup [.int p.1, p.2])]) := Ext.app _ _
 have n3 := new_get s2 (O.list ((flD (B.ls.map (·.2))).map fun p => V.tup [.int p.1, p.2]))
 have l3 : (s2 ++ [O.list ((flD (B.ls.map (·.2))).map fun p => V.tup [.int p.1, p.2])]).length = s2.length + 1 := by exact len_app
 generalize hs3 : s2 ++ [O.list ((flD (B.ls.map (·.2))).map fun p => .tup [.int p.1, p.2])] = s3 at *
 have nd : (keys B.ls).Nodup := srt_nodup kB.srt
 have kF : ((flD (B.ls.map (·.2))).map (·.1)).Nodup := by
  have : (flD (B.ls.map (·.2))).map (·.1) = keys B.ls := by simp [flD, keys, Function.comp_def]
  rw [this]; exact nd
 have kM : ((msD (B.ls.map (·.2))).map (·.1)).Nodup := by
  have : (msD (B.ls.map (·.2))).map (·.1) = keys B.ls := by simp [msD, keys, Function.comp_def]
  rw [this]; exact nd
 have e4 := bDict_ok n3 (by simp [flD, big]; exact om126 hn) kF
 have X4 : Ext [] s3 (s3 ++ [O.idict (flD (B.ls.map (·.2)))]) := Ext.app _ _
 have F4 := new_get s3 (O.idict (flD (B.ls.map (·.2))))
 have v4 := (X3.trans X4).get _ _ v2 (List.not_mem_nil)
 have l4 : (s3 ++ [O.idict (flD (B.ls.map (·.2)))]).length = s3.length + 1 := by exact len_app
 have q2 : (sAsg (callL (consL c_View_init nilL) bDict) (attrA (var 0) (setA 105 5))) [.ref σ.length, .ref B.b, .bool false, .bool um, .bool uv] s2 = some (.next, [.ref σ.length, .ref B.b, .bool false, .bool um, .bool uv], (s3 ++ [O.idict (flD (B.ls.map (·.2)))]).set σ.length (.inst 105 [.ref B.b, .bool false, .bool um, .bool uv, .ref s0.length, .ref s3.length])) := by
  simp only [MSX, e3, e4, v4, Nat.reduceLeDiff, Nat.lt_irrefl]
 generalize hs4 : s3 ++ [O.idict (flD (B.ls.map (·.2)))] = s4 at *
 have X5 : Ext [σ.length] s4 (s4.set σ.length (.inst 105 [.ref B.b, .bool false, .bool um, .bool uv, .ref s0.length, .ref s3.length])) := Ext.set _ _ _
 have v5 := set_get (o' := O.inst 105 [.ref B.b, .bool false, .bool um, .bool uv, .ref s0.length, .ref s3.length]) v4
 have l5 : (s4.set σ.length (.inst 105 [.ref B.b, .bool false, .bool um, .bool uv, .ref s0.length, .ref s3.length])).length = s4.length := by exact List.length_set
 generalize hs5 : s4.set σ.length (.inst 105 [.ref B.b, .bool false, .bool um, .bool uv, .ref s0.length, .ref s3.length]) = s5 at *
 have F5 := X5.get _ _ F4 (by simp; exact om331 l0 l1 l2 l3)
 have U5 := X5.get _ _ ((X3.trans X4).get _ _ U2 (List.not_mem_nil)) (by simp; exact om330 l0)
 have XX5 : Ext [] σ s5 := ((XX2.trans X3).trans X4).trans' X5 (by intro a h; simp at h; right; exact om117 h)
 have hB5 := hB.ext0 XX5
 obtain ⟨nm5, vd5, fr5, hb5⟩ := id hB5.box
 have e6 : c_View_init2 [.ref σ.length, .ref B.b, .bool false, .bool um, .bool uv] s5 = some (.ref s5.length, s5 ++ [O.list ((msD (B.ls.map (·.2))).map fun p => .tup [.int p.1, p.2])]) := by
  have := comp_letters hB5 kB (f := un1 (getA 327 5) (var 1)) (caps := []) (t := tYes) (e := mkTup (consL (un1 (getA 289 0) (var 0)) (consL (un1 (getA 289 4) (var 0)) nilL))) (ρ := [.ref σ.length, .ref B.b, .bool false, .bool um, .bool uv]) (cv := []) (fun _ => true) (fun p => .tup [.int p.2.u, .int p.2.ms])
   (by simp only [MSX, hb5]) rfl (fun _ _ _ => rfl) (by rintro x _ ⟨oc, ins, hx⟩ _; simp only [MSX, hx])
  rw [filter_true] at this
  rw [msD, List.map_map, List.map_map]; exact this
 have X6 : Ext [] s5 (s5 ++ [O.list ((msD (B.ls.map (·.2))).map fun p => .tup [.int p.1, p.2])]) := Ext.app _ _
 have n6 := new_get s5 (O.list ((msD (B.ls.map (·.2))).map fun p => V.tup [.int p.1, p.2]))
 have l6 : (s5 ++ [O.list ((msD (B.ls.map (·.2))).map fun p => V.tup [.int p.1, p.2])]).length = s5.length + 1 := by exact len_app
 generalize hs6 : s5 ++ [O.list ((msD (B.ls.map (·.2))).map fun p => .tup [.int p.1, p.2])] = s6 at *
 have e7 := bDict_ok n6 (by simp [msD, big]; exact om126 hn) kM
 have X7 : Ext [] s6 (s6 ++ [O.idict (msD (B.ls.map (·.2)))]) := Ext.app _ _
 have M7 := new_get s6 (O.idict (msD (B.ls.map (·.2))))
 have v7 := (X6.trans X7).get _ _ v5 (List.not_mem_nil)
 have q3 : (sAsg (callL (consL c_View_init2 nilL) bDict) (attrA (var 0) (setA 105 6))) [.ref σ.length, .ref B.b, .bool false, .bool um, .bool uv] s5 = some (.next, [.ref σ.length, .ref B.b, .bool false, .bool um, .bool uv], (s6 ++ [O.idict (msD (B.ls.map (·.2)))]).set σ.length (.inst 105 [.ref B.b, .bool false, .bool um, .bool uv, .ref s0.length, .ref s3.length, .ref s6.length])) := by
  simp only [MSX, e6, e7, v7, Nat.reduceLeDiff, Nat.lt_irrefl]
 generalize hs7 : s6 ++ [O.idict (msD (B.ls.map (·.2)))] = s7 at *
 have X8 : Ext [σ.length] s7 (s7.set σ.length (.inst 105 [.ref B.b, .bool false, .bool um, .bool uv, .ref s0.length, .ref s3.length, .ref s6.length])) := Ext.set _ _ _
 have v8 := set_get (o' := O.inst 105 [.ref B.b, .bool false, .bool um, .bool uv, .ref s0.length, .ref s3.length, .ref s6.length]) v7
 have XX8 : Ext [] σ (s7.set σ.length (.inst 105 [.ref B.b, .bool false, .bool um, .bool uv, .ref s0.length, .ref s3.length, .ref s6.length])) := ((XX5.trans X6).trans X7).trans' X8 (by intro a h; simp at h; right; exact om117 h)
 refine ⟨s0.length, s3.length, s6.length, s7.set σ.length (.inst 105 [.ref B.b, .bool false, .bool um, .bool uv, .ref s0.length, .ref s3.length, .ref s6.length]), ?_, XX8, om332 l0, om333 l0 l1 l2 l3, om334 l0 l1 l2 l3 l4 l5 l6, ⟨v8, ?_, ?_, ?_, ?_⟩⟩
 ·have body : f_View_init_body [.ref σ.length, .ref B.b, .bool false, .bool um, .bool uv] (σ ++ [O.inst 105 []]) = some (.next, [.ref σ.length, .ref B.b, .bool false, .bool um, .bool uv], s7.set σ.length (.inst 105 [.ref B.b, .bool false, .bool um, .bool uv, .ref s0.length, .ref s3.length, .ref s6.length])) := by
   rw [f_View_init_body, q0, sc q1, sc q2]
   exact q3
  unfold mkInst f_View_init runF
  simp only [List.length_cons, List.length_nil, Nat.reduceAdd, if_true, List.replicate_zero, List.append_nil, body, onNone_c, Option.map_some, Option.bind_some]
 ·show _ = some (O.list (vI (us (B.ls.map (·.2)))))
  rw [keys_snd]
  exact X8.get _ _ ((X6.trans X7).get _ _ U5 (List.not_mem_nil)) (by simp; exact om330 l0)
 ·exact X8.get _ _ ((X6.trans X7).get _ _ F5 (List.not_mem_nil)) (by simp; exact om331 l0 l1 l2 l3)
 ·exact X8.get _ _ M7 (by simp; exact om335 l0 l1 l2 l3 l4 l5 l6)
 ·show s3.length ≠ s6.length
  exact om336 l4 l5 l6
theorem eq_bit {σ : Hp} {x : Int} : opEq (.int x) (.int 1) σ = some (.bool (decide (x = 1)), σ) := opEq_of (eqB_int x 1)
inductive begun_ok_O (σ : Hp) (B : Bx) (p : Nat) (c : Nat) (k : Nat) : Prop
 | mk (Y : Vw) (C : Nat) (ws : List Rw) (σ' : Hp) (_ : f_law_begun [.ref p, .ref B.b] σ = some (.tup [.ref Y.v, .ref C], σ')) (_ : Ext [p] σ σ') (_ : PenAt σ' p c (k + 2)) (_ : VwAt σ' B.b Y) (_ : CpAt σ' C ws) (_ : Y.rs = B.ls.map (·.2)) (_ : dt ws = B.ls.map (·.2)) (_ : (∀ a ∈ own Y C ws, σ.length ≤ a)) (_ : (∀ a ∈ ws.map (·.2.1), σ.length ≤ a)) (_ : Y.U ∉ C :: ws.map (·.1)) (_ : Y.U ∉ ws.map (·.2.1)) : begun_ok_O σ B p c k
theorem begun_ok {σ : Hp} {B : Bx} {p c k : Nat} (hB : BxAt σ B) (kB : BxOk B) (hP : PenAt σ p c k) (hk : k ≤ 900) (hp : p ≠ B.b ∧ p ≠ B.L ∧ p ≠ B.G ∧ ∀ x ∈ B.ls, x.1 ≠ p) : begun_ok_O σ B p c k := by
 obtain ⟨x1, s1, e1, _, _, X1, P1, l1⟩ := draw_ok (m := 2) hP (om337 hk) (by decide)
 obtain ⟨x2, s2, e2, _, _, X2, P2, l2⟩ := draw_ok (m := 2) P1 (om338 hk) (by decide)
 have XX2 := X1.trans X2
 have hB2 : BxAt s2 B := hB.ext XX2 (by simpa using hp.1.symm) (by simpa using hp.2.1.symm) (by simpa using hp.2.2.1.symm) (fun x hx => by simpa using hp.2.2.2 x hx)
 obtain ⟨U, F, M, s3, e3, X3, lU, lF, lM, v3⟩ := view_ok (um := decide (x1 = 1)) (uv := decide (x2 = 1)) hB2 kB
 have hB3 := hB2.ext0 X3
 obtain ⟨nm, vd, fr, hb3⟩ := id hB3.box
 obtain ⟨ws, s4, e4, X4, d4, ok4, at4⟩ := rows_comp hB3 kB (f := un1 (getA 327 5) (var 1)) (caps := []) (t := tYes) (ρ := [.ref p, .ref B.b, .ref s2.length, .undef]) (cv := []) (fun _ => true) (by simp only [MSX, hb3]) rfl (fun _ _ _ _ _ => rfl)
 rw [filter_true] at d4
 have e4' : c_law_begun [.ref p, .ref B.b, .ref s2.length, .undef] s3 = some (.ref s4.length, s4 ++ [O.list (rrefs ws)]) := e4
 have X5 : Ext [] s4 (s4 ++ [O.list (rrefs ws)]) := Ext.app _ _
 have n5 := new_get s4 (O.list (rrefs ws))
 have l3 := X3.le
 have l4 := X4.le
 have bU : U < s3.length := lt_of_get v3.U
 have atl : ∀ w ∈ ws, s3.length ≤ w.1 ∧ s3.length ≤ w.2.1 ∧ w.1 < s4.length ∧ w.2.1 < s4.length := fun w hw => by
  obtain ⟨a, b, c⟩ := at4 w hw
  exact ⟨b, c, lt_of_get a.1, lt_of_get a.2⟩
 refine ⟨⟨s2.length, U, F, M, decide (x1 = 1), decide (x2 = 1), B.ls.map (·.2)⟩, s4.length, ws, s4 ++ [O.list (rrefs ws)], ?_, ((XX2.trans X3.nil).trans X4.nil).trans X5.nil, ((P2.ext0 X3).ext0 X4).ext0 X5, (v3.ext0 X4).ext0 X5, ⟨n5, fun w hw => ((at4 w hw).1).ext0 X5, ok4, fun w hw => ?_⟩, rfl, d4, fun a ha => ?_, fun a ha => ?_, fun ha => ?_, fun ha => ?_⟩
 ·have q1 : (sAsg (callL (consL (var 1) (consL (cBool false) (consL (bin2 opEq (callL (consL (var 0) (consL (cInt 2) nilL)) f_law_draw) (cInt 1)) (consL (bin2 opEq (callL (consL (var 0) (consL (cInt 2) nilL)) f_law_draw) (cInt 1)) nilL)))) (mkInst 105 f_View_init)) (stA 2)) [.ref p, .ref B.b, .undef, .undef] σ = some (.next, [.ref p, .ref B.b, .ref s2.length, .undef], s3) := by
   simp only [MSX, e1, eq_bit, e2, e3]
  have q2 : (sAsg c_law_begun (stA 3)) [.ref p, .ref B.b, .ref s2.length, .undef] s3 = some (.next, [.ref p, .ref B.b, .ref s2.length, .ref s4.length], s4 ++ [O.list (rrefs ws)]) := by
   unfold sAsg; rw [e4']; rfl
  unfold f_law_begun runF
  simp only [List.length_cons, List.length_nil, Nat.reduceAdd, if_true, List.replicate_succ, List.replicate_zero, List.cons_append, List.nil_append]
  rw [f_law_begun_body, sc q1, sc q2]
  simp only [MSX]
 ·have := atl w hw; exact ⟨om339 this, om340 this⟩
 ·rcases List.mem_append.mp ha with d | d
  ·have d' : a ∈ [s2.length, U, F, M] := d
   have := XX2.le
   simp at d'; exact om341 l1 l2 lU lF lM d'
  ·have := XX2.le
   rcases List.mem_cons.mp d with q | q
   ·exact om342 l1 l2 lU l4 bU q
   ·obtain ⟨w, hw, rfl⟩ := List.mem_map.mp q; have := atl w hw; exact om343 l1 l2 lU bU this
 ·have := XX2.le; obtain ⟨w, hw, rfl⟩ := List.mem_map.mp ha; have := atl w hw; exact om344 l1 l2 lU bU this
 ·have ha' : U ∈ s4.length :: ws.map (·.1) := ha
  rcases List.mem_cons.mp ha' with q | q
  ·exact om345 l4 bU q
  ·obtain ⟨w, hw, e⟩ := List.mem_map.mp q; have := atl w hw; exact om346 bU e this
 ·have ha' : U ∈ ws.map (·.2.1) := ha
  obtain ⟨w, hw, e⟩ := List.mem_map.mp ha'; have := atl w hw; exact om347 bU e this
theorem box_ok {σ : Hp} : ∃ σ', mkInst 327 f_Box_init [.str (Str.ofString "b"), .int 1] σ = some (.ref σ.length, σ') ∧ Ext [] σ σ' ∧ BxAt σ' ⟨σ.length, σ.length + 1, σ.length + 2, [], 1, 1⟩ := by
 refine ⟨σ ++ [O.inst 327 [.str (Str.ofString "b"), .int 1, .int 1, .int 1, .int 0, .ref (σ.length + 1), .ref (σ.length + 2)], O.list [], O.list []], ?_, Ext.app _ _, ⟨⟨_, _, _, ga0⟩, ?_, ⟨[], ?_, by simp⟩, by simp⟩⟩
 ·have g : ∀ t, (σ ++ t).length = σ.length + t.length := fun t => by simp
  have h0 : ∀ (o o' : O) (t : Hp), (σ ++ o :: t).set σ.length o' = σ ++ o' :: t := fun o o' t => by rw [List.set_append_right _ _ (Nat.le_refl _)]; simp
  simp only [mkInst, f_Box_init, f_Box_init_body, MSX, ga0, h0, List.append_assoc, Nat.zero_le, Nat.reduceLeDiff, Nat.lt_irrefl]
 ·exact ga1
 ·exact ga2
structure Wb (σ : Hp) (B : Bx) (p c k n : Nat) (o : O) : Prop where
 box : BxAt σ B
 bok : BxOk B
 bgl : B.G ≠ B.L
 nu : 1 ≤ B.nu ∧ B.nu ≤ (n : Int)
 top : 0 ≤ B.top ∧ B.top ≤ (n : Int)
 pen : PenAt σ p c k
 pL : p ≠ B.L
 pG : p ≠ B.G
 cL : c ≠ B.L
 scr : σ[0]? = some o
structure BoxStep (σ : Hp) (B B' : Bx) : Prop where
 b : B'.b = B.b
 L : B'.L = B.L ∨ σ.length ≤ B'.L
 G : B'.G = B.G ∨ σ.length ≤ B'.G
 ls : ∀ q ∈ B'.ls, q.1 ∈ B.ls.map (·.1) ∨ σ.length ≤ q.1
 kn : ∀ rs, Kn rs B → Kn rs B'
theorem BoxStep.refl (σ : Hp) (B : Bx) : BoxStep σ B B := ⟨rfl, .inl rfl, .inl rfl, fun q hq => .inl (List.mem_map.mpr ⟨q, hq, rfl⟩), fun _ h => h⟩
noncomputable def isRaw (o : O) : Prop := ∃ ob xs, o = .raw ob xs
inductive Wb_off_O (B : Bx) (p : Nat) (c : Nat) : Prop
 | mk  (_ : p ≠ B.b) (_ : c ≠ B.b) (_ : (∀ x ∈ B.ls, x.1 ≠ p ∧ x.1 ≠ c)) (_ : p ≠ 0) (_ : c ≠ 0) (_ : B.b ≠ 0) (_ : B.L ≠ 0) (_ : B.G ≠ 0) : Wb_off_O B p c
theorem Wb.off {σ : Hp} {B : Bx} {p c k n : Nat} {o : O} (h : Wb σ B p c k n o) (ho : isRaw o) : Wb_off_O B p c := by
 obtain ⟨⟨nm, vd, fr, hb⟩, hL, ⟨gs, hG, _⟩, hl⟩ := h.box
 obtain ⟨⟨sm, hp⟩, ⟨cs, hc, _⟩, _⟩ := h.pen
 have h0 := h.scr
 obtain ⟨ob, xs, rfl⟩ := ho
 refine ⟨?_, ?_, fun x hx => ⟨?_, ?_⟩, ?_, ?_, ?_, ?_, ?_⟩
 ·intro e; rw [e, hb] at hp; cases hp
 ·intro e; rw [e, hb] at hc; cases hc
 ·intro e; obtain ⟨oc, ins, q⟩ := hl x hx; rw [e, hp] at q; cases q
 ·intro e; obtain ⟨oc, ins, q⟩ := hl x hx; rw [e, hc] at q; cases q
 ·intro e; rw [e, h0] at hp; cases hp
 ·intro e; rw [e, h0] at hc; cases hc
 ·intro e; rw [e, h0] at hb; cases hb
 ·intro e; rw [e, h0] at hL; cases hL
 ·intro e; rw [e, h0] at hG; cases hG
theorem Wb.ext0 {σ σ' : Hp} {B : Bx} {p c k n : Nat} {o : O} (h : Wb σ B p c k n o) (X : Ext [] σ σ') : Wb σ' B p c k n o :=
 ⟨h.box.ext0 X, h.bok, h.bgl, h.nu, h.top, h.pen.ext0 X, h.pL, h.pG, h.cL, X.get _ _ h.scr (List.not_mem_nil)⟩
theorem Wb.mono {σ : Hp} {B : Bx} {p c k n n' : Nat} {o : O} (h : Wb σ B p c k n o) (hn : n ≤ n') : Wb σ B p c k n' o :=
 ⟨h.box, h.bok, h.bgl, ⟨h.nu.1, by have := h.nu.2; exact om348 hn this⟩, ⟨h.top.1, by have := h.top.2; exact om348 hn this⟩, h.pen, h.pL, h.pG, h.cL, h.scr⟩
inductive Wb_draw_O (σ : Hp) (B : Bx) (p : Nat) (c : Nat) (k : Nat) (n : Nat) (o : O) (m : Int) : Prop
 | mk (x : Int) (σ' : Hp) (_ : f_law_draw [.ref p, .int m] σ = some (.int x, σ')) (_ : 0 ≤ x) (_ : x < m) (_ : Ext [p] σ σ') (_ : Wb σ' B p c (k + 1) n o) : Wb_draw_O σ B p c k n o m
theorem Wb.draw {σ : Hp} {B : Bx} {p c k n : Nat} {o : O} {m : Int} (h : Wb σ B p c k n o) (ho : isRaw o) (hk : k ≤ 900) (hm : 0 < m) : Wb_draw_O σ B p c k n o m := by
 obtain ⟨x, σ', e, h0, h1, X, P, _⟩ := draw_ok h.pen (om337 hk) hm
 obtain ⟨a, b, d, e0, _⟩ := h.off ho
 exact ⟨x, σ', e, h0, h1, X, ⟨h.box.ext X (by simpa using a.symm) (by simpa using h.pL.symm) (by simpa using h.pG.symm) (fun q hq => by simpa using (d q hq).1), h.bok, h.bgl, h.nu, h.top, P, h.pL, h.pG, h.cL, X.get _ _ h.scr (by simpa using e0.symm)⟩⟩
theorem srt_snoc {ks : List Int} {z : Int} (h : Srt ks) (hz : ∀ k ∈ ks, k < z) : Srt (ks ++ [z]) := by
 unfold Srt
 rw [List.pairwise_append]
 exact ⟨h, by simp, fun a ha b hb => by rw [List.mem_singleton.mp hb]; exact hz a ha⟩
theorem BxOk.n_of {B : Bx} (hs : Srt (keys B.ls)) (h : ∀ q ∈ B.ls, 1 ≤ q.2.u ∧ q.2.u < B.nu) (h1 : 1 ≤ B.nu) (h2 : B.nu ≤ 100) : B.ls.length ≤ 900 := by
 have := srt_len (lo := 1) (hi := B.nu) hs (fun k hk => by obtain ⟨q, hq, rfl⟩ := List.mem_map.mp hk; exact h q hq) h1
 simp [keys] at this; exact om287 h2 this
inductive Wb_add_O (σ : Hp) (B : Bx) (p : Nat) (c : Nat) (k : Nat) (n : Nat) (o : O) (oc : Array UInt8) (fl : List Str) (ins : Int) : Prop
 | mk (v : V) (σ' : Hp) (B' : Bx) (_ : f_add_letter [.ref B.b, .bytes oc, fv fl, .int ins] σ = some (v, σ')) (_ : Ext [B.b, B.L] σ σ') (_ : BoxStep σ B B') (_ : Wb σ' B' p c k (n + 1) o) : Wb_add_O σ B p c k n o oc fl ins
theorem Wb.add {σ : Hp} {B : Bx} {p c k n : Nat} {o : O} {oc : Array UInt8} {fl : List Str} {ins : Int} (h : Wb σ B p c k n o) (ho : isRaw o) (hf : fl ∈ menu) (hn : n ≤ 90) : Wb_add_O σ B p c k n o oc fl ins := by
 obtain ⟨a, v, σ', e, X, la, hB'⟩ := add_ok (oc := oc) (ins := ins) h.box h.bgl h.bok hf h.top.1
 obtain ⟨a1, a2, a3, a4, a5, a6, a7, a8⟩ := h.off ho
 have hnu := h.nu
 have htop := h.top
 obtain ⟨okf, _⟩ := menu_ok fl hf
 have srt' : Srt (keys (B.ls ++ [(a, (⟨B.nu, fl, B.top + 1⟩ : Lt))])) := by
  have : keys (B.ls ++ [(a, (⟨B.nu, fl, B.top + 1⟩ : Lt))]) = keys B.ls ++ [B.nu] := by simp [keys]
  rw [this]
  exact srt_snoc h.bok.srt fun k hk => by obtain ⟨q, hq, rfl⟩ := List.mem_map.mp hk; exact (h.bok.lo q hq).2.1
 have lo' : ∀ q ∈ B.ls ++ [(a, (⟨B.nu, fl, B.top + 1⟩ : Lt))], 1 ≤ q.2.u ∧ q.2.u < B.nu + 1 ∧ q.2.ms ≤ B.top + 1 ∧ okS q.2.fl := by
  intro q hq
  rcases List.mem_append.mp hq with d | d
  ·obtain ⟨b1, b2, b3, b4⟩ := h.bok.lo q d
   exact ⟨b1, om349 b2, om321 b3, b4⟩
  ·rw [List.mem_singleton.mp d]; exact ⟨hnu.1, by simp; exact om350, by simp, okf⟩
 refine ⟨v, σ', { B with ls := B.ls ++ [(a, (⟨B.nu, fl, B.top + 1⟩ : Lt))], nu := B.nu + 1, top := B.top + 1 }, e, X, ⟨rfl, .inl rfl, .inl rfl, fun q hq => ?_, fun rs kn => ⟨fun q hq => ?_, fun r hr => ?_, fun q hq r hr hu hms => ?_, fun r hr => ?_⟩⟩,
  ⟨hB', ⟨srt', lo', ?_⟩, h.bgl, ⟨by show 1 ≤ B.nu + 1; exact om351 hnu, by show B.nu + 1 ≤ _; exact om352 hnu⟩, ⟨by show 0 ≤ B.top + 1; exact om353 htop, by show B.top + 1 ≤ _; exact om354 htop⟩, h.pen.ext X (by simp; exact ⟨a1, h.pL⟩) (by simp; exact ⟨a2, h.cL⟩), h.pL, h.pG, h.cL, X.get _ _ h.scr (by simp; exact ⟨a6.symm, a7.symm⟩)⟩⟩
 ·rcases List.mem_append.mp hq with d | d
  ·exact .inl (List.mem_map.mpr ⟨q, d, rfl⟩)
  ·rw [List.mem_singleton.mp d]; exact .inr la
 ·rcases List.mem_append.mp hq with d | d
  ·exact kn.old q d
  ·rw [List.mem_singleton.mp d]; exact .inr fun r hr => (kn.hi r hr).2
 ·have := kn.ms r hr; show r.ms ≤ B.top + 1; exact om321 this
 ·rcases List.mem_append.mp hq with d | d
  ·exact kn.same q d r hr hu hms
  ·rw [List.mem_singleton.mp d] at hu
   have := (kn.hi r hr).2; simp at hu; exact om355 hu this
 ·have := kn.hi r hr; exact ⟨this.1, by show r.u < B.nu + 1; exact om356 this⟩
 ·exact BxOk.n_of (B := { B with ls := B.ls ++ [(a, (⟨B.nu, fl, B.top + 1⟩ : Lt))], nu := B.nu + 1, top := B.top + 1 }) srt' (fun q hq => ⟨(lo' q hq).1, (lo' q hq).2.1⟩) (by show 1 ≤ B.nu + 1; exact om351 hnu) (by show B.nu + 1 ≤ 100; exact om357 hn hnu)
theorem keys_set {ls : Ls} {i : Nat} {p q : Nat × Lt} (h : ls[i]? = some p) (e : q.2.u = p.2.u) : keys (ls.set i q) = keys ls := by
 unfold keys
 rw [List.map_set, e]
 apply List.ext_getElem?
 intro j
 by_cases c : i = j
 ·subst c
  have hl := (List.getElem?_eq_some_iff.mp h).1
  rw [List.getElem?_set_self (by simpa using hl), List.getElem?_map, h]; rfl
 ·rw [List.getElem?_set_ne c]
theorem mem_set {ls : Ls} {i : Nat} {q w : Nat × Lt} (h : w ∈ ls.set i q) : w = q ∨ w ∈ ls := by
 rcases List.mem_or_eq_of_mem_set h with c | c
 ·exact .inr c
 ·exact .inl c
inductive Wb_set_O (σ : Hp) (B : Bx) (p : Nat) (c : Nat) (k : Nat) (n : Nat) (o : O) (fl : List Str) (u : Int) : Prop
 | mk (v : V) (σ' : Hp) (B' : Bx) (_ : f_set_flags [.ref B.b, .int u, fv fl] σ = some (v, σ')) (_ : Ext [B.b, B.L] σ σ') (_ : BoxStep σ B B') (_ : Wb σ' B' p c k (n + 1) o) : Wb_set_O σ B p c k n o fl u
theorem Wb.set {σ : Hp} {B : Bx} {p c k n : Nat} {o : O} {fl : List Str} {u : Int} (h : Wb σ B p c k n o) (ho : isRaw o) (hf : fl ∈ menu) (hu : u ∈ keys B.ls) : Wb_set_O σ B p c k n o fl u := by
 obtain ⟨v, σ', e, X, q⟩ := set_ok h.box h.bgl h.bok hf h.top.1 hu
 obtain ⟨a1, a2, a3, a4, a5, a6, a7, a8⟩ := h.off ho
 have hnu := h.nu
 have htop := h.top
 obtain ⟨okf, _⟩ := menu_ok fl hf
 rcases q with hB' | ⟨a, i, q, la, hq, hqu, hB'⟩
 ·exact ⟨v, σ', B, e, X, BoxStep.refl _ _, ⟨hB', h.bok, h.bgl, ⟨hnu.1, om358 hnu⟩, ⟨htop.1, om359 htop⟩, h.pen.ext X (by simp; exact ⟨a1, h.pL⟩) (by simp; exact ⟨a2, h.cL⟩), h.pL, h.pG, h.cL, X.get _ _ h.scr (by simp; exact ⟨a6.symm, a7.symm⟩)⟩⟩
 ·have hmem := List.mem_of_getElem? hq
  have ks := keys_set (q := (a, (⟨u, fl, B.top + 1⟩ : Lt))) hq hqu.symm
  have bq := h.bok.lo q hmem
  refine ⟨v, σ', { B with ls := B.ls.set i (a, (⟨u, fl, B.top + 1⟩ : Lt)), top := B.top + 1 }, e, X, ⟨rfl, .inl rfl, .inl rfl, fun w hw => ?_, fun rs kn => ⟨fun w hw => ?_, fun r hr => ?_, fun w hw r hr hwu hms => ?_, fun r hr => kn.hi r hr⟩⟩,
   ⟨hB', ⟨by show Srt (keys (B.ls.set i _)); rw [ks]; exact h.bok.srt, fun w hw => ?_, by show (B.ls.set i _).length ≤ 900; rw [List.length_set]; exact h.bok.n⟩, h.bgl, ⟨hnu.1, by show B.nu ≤ _; exact om358 hnu⟩, ⟨by show 0 ≤ B.top + 1; exact om353 htop, by show B.top + 1 ≤ _; exact om354 htop⟩, h.pen.ext X (by simp; exact ⟨a1, h.pL⟩) (by simp; exact ⟨a2, h.cL⟩), h.pL, h.pG, h.cL, X.get _ _ h.scr (by simp; exact ⟨a6.symm, a7.symm⟩)⟩⟩
  ·rcases mem_set hw with rfl | d
   ·exact .inr la
   ·exact .inl (List.mem_map.mpr ⟨w, d, rfl⟩)
  ·rcases mem_set hw with rfl | d
   ·have := kn.old q hmem; rw [hqu] at this; exact this
   ·exact kn.old w d
  ·have := kn.ms r hr; show r.ms ≤ B.top + 1; exact om321 this
  ·rcases mem_set hw with rfl | d
   ·have := kn.ms r hr; simp at hms; exact om360 hms this
   ·exact kn.same w d r hr hwu hms
  ·rcases mem_set hw with rfl | d
   ·exact ⟨by show 1 ≤ u; exact om361 hqu bq, by show u < B.nu; exact om362 hqu bq, by simp, okf⟩
   ·obtain ⟨b1, b2, b3, b4⟩ := h.bok.lo w d
    exact ⟨b1, b2, by show w.2.ms ≤ B.top + 1; exact om321 b3, b4⟩
inductive Wb_expunge_O (σ : Hp) (B : Bx) (p : Nat) (c : Nat) (k : Nat) (n : Nat) (us : Nat) (o : O) : Prop
 | mk (v : V) (σ' : Hp) (B' : Bx) (_ : f_expunge [.ref B.b, .ref us] σ = some (v, σ')) (_ : Ext [B.b, B.L] σ σ') (_ : BoxStep σ B B') (_ : Wb σ' B' p c k (n + 1) o) : Wb_expunge_O σ B p c k n us o
theorem Wb.expunge {σ : Hp} {B : Bx} {p c k n us : Nat} {o : O} {u w : Int} (h : Wb σ B p c k n o) (ho : isRaw o) (hn : n ≤ 90) (hus : σ[us]? = some (.list [.int u, .int w])) : Wb_expunge_O σ B p c k n us o := by
 obtain ⟨a1, a2, a3, a4, a5, a6, a7, a8⟩ := h.off ho
 have hnu := h.nu
 have htop := h.top
 have usb : us ≠ B.b := by
  intro e
  obtain ⟨nm, vd, fr, hb⟩ := h.box.box
  rw [e, hb] at hus; cases hus
 obtain ⟨v, σ', e, X, q⟩ := expunge_ok h.box h.bok hus htop.1 (om363 hn htop) usb
 have X' : Ext [B.b, B.L] σ σ' := X.mono (sub0)
 have bp := h.pen.pen.lt
 have bc := h.pen.cells.lt
 rcases q with hB' | ⟨L, G, lL, lG, gl, hB'⟩
 ·exact ⟨v, σ', B, e, X', BoxStep.refl _ _, ⟨hB', h.bok, h.bgl, ⟨hnu.1, om358 hnu⟩, ⟨htop.1, om359 htop⟩, h.pen.ext X (by simpa using a1) (by simpa using a2), h.pL, h.pG, h.cL, X.get _ _ h.scr (by simpa using a6.symm)⟩⟩
 ·have sub : ∀ q ∈ stay B.ls u w, q ∈ B.ls := fun q hq => (List.mem_filter.mp hq).1
  refine ⟨v, σ', { B with L := L, G := G, ls := stay B.ls u w, top := B.top + 1 }, e, X', ⟨rfl, .inr lL, .inr lG, fun q hq => .inl (List.mem_map.mpr ⟨q, sub q hq, rfl⟩), fun rs kn => ⟨fun q hq => kn.old q (sub q hq), fun r hr => ?_, fun q hq => kn.same q (sub q hq), kn.hi⟩⟩,
   ⟨hB', ⟨?_, fun q hq => ?_, ?_⟩, gl, ⟨hnu.1, by show B.nu ≤ _; exact om358 hnu⟩, ⟨by show 0 ≤ B.top + 1; exact om353 htop, by show B.top + 1 ≤ _; exact om354 htop⟩, h.pen.ext X (by simpa using a1) (by simpa using a2), by show p ≠ L; exact om191 bp lL, by show p ≠ G; exact om191 bp lG, by show c ≠ L; exact om191 bc lL, X.get _ _ h.scr (by simpa using a6.symm)⟩⟩
  ·have := kn.ms r hr; show r.ms ≤ B.top + 1; exact om321 this
  ·show Srt (keys (stay B.ls u w))
   have hs := h.bok.srt
   unfold Srt keys at *
   rw [List.pairwise_map] at *
   exact hs.filter _
  ·obtain ⟨b1, b2, b3, b4⟩ := h.bok.lo q (sub q hq)
   exact ⟨b1, b2, by show q.2.ms ≤ B.top + 1; exact om321 b3, b4⟩
  ·exact Nat.le_trans (List.length_filter_le _ _) h.bok.n
noncomputable abbrev PV := Vw × Nat × List Rw
noncomputable def pairV (x : PV) : V := .tup [.ref x.1.v, .ref x.2.1]
noncomputable def ownP (x : PV) : List Nat := own x.1 x.2.1 x.2.2
noncomputable def flP (x : PV) : List Nat := x.2.2.map (·.2.1)
structure Sep (x y : PV) : Prop where
 a : ∀ a ∈ ownP x, a ∉ ownP y ∧ a ∉ flP y
 b : ∀ a ∈ ownP y, a ∉ flP x
theorem Sep.symm {x y : PV} (h : Sep x y) : Sep y x := ⟨fun a ha => ⟨fun c => (h.a a c).1 ha, h.b a ha⟩, fun a ha c => (h.a a ha).2 c⟩
structure Wd (σ : Hp) (B : Bx) (p c P k n : Nat) (o : O) (ps : List PV) : Prop where
 wb : Wb σ B p c k n o
 gP : σ[P]? = some (.list (ps.map pairV))
 prs : ∀ x ∈ ps, Pair σ B x.1 x.2.1 x.2.2
 sep : ∀ (i j : Nat) (x y : PV), i ≠ j → ps[i]? = some x → ps[j]? = some y → Sep x y
 out : ∀ x ∈ ps, (∀ a ∈ [p, c, P], a ∉ ownP x) ∧ ∀ a ∈ [p, P, B.L], a ∉ flP x
 Pn : P ≠ p ∧ P ≠ c ∧ P ≠ B.L ∧ P ≠ B.G
 len : 1 ≤ ps.length ∧ ps.length ≤ 3
theorem Pair.lt {σ : Hp} {B : Bx} {Y : Vw} {C : Nat} {ws : List Rw} (h : Pair σ B Y C ws) : (∀ a ∈ own Y C ws, a < σ.length) ∧ ∀ a ∈ ws.map (·.2.1), a < σ.length := by
 constructor
 ·intro a ha
  rcases List.mem_append.mp ha with d | d
  ·simp at d
   rcases d with rfl | rfl | rfl | rfl
   ·exact lt_of_get h.vw.vw
   ·exact lt_of_get h.vw.U
   ·exact lt_of_get h.vw.F
   ·exact lt_of_get h.vw.M
  ·rcases List.mem_cons.mp d with rfl | q
   ·exact lt_of_get h.cp.gC
   ·obtain ⟨w, hw, rfl⟩ := List.mem_map.mp q; exact lt_of_get (h.cp.rows w hw).1
 ·intro a ha
  obtain ⟨w, hw, rfl⟩ := List.mem_map.mp ha; exact lt_of_get (h.cp.rows w hw).2
theorem Pair.ext {W : List Nat} {σ σ' : Hp} {B : Bx} {Y : Vw} {C : Nat} {ws : List Rw} (h : Pair σ B Y C ws) (X : Ext W σ σ') (h1 : ∀ a ∈ own Y C ws, a ∉ W) (h2 : ∀ a ∈ ws.map (·.2.1), a ∉ W) : Pair σ' B Y C ws := by
 have g : ∀ a ∈ [Y.v, Y.U, Y.F, Y.M], a ∉ W := fun a ha => h1 a (List.mem_append_left _ ha)
 have r : ∀ a ∈ C :: ws.map (·.1), a ∉ W := fun a ha => h1 a (List.mem_append_right _ ha)
 exact ⟨h.vw.ext X (g _ (List.mem_cons_self)) (g _ (mem1)) (g _ (mem2)) (g _ (mem3)), h.cp.ext X (r _ (List.mem_cons_self)) (fun w hw => ⟨r _ (List.mem_cons_of_mem _ (List.mem_map.mpr ⟨w, hw, rfl⟩)), h2 _ (List.mem_map.mpr ⟨w, hw, rfl⟩)⟩), h.mir, h.srt, h.ok, h.kn, h.ap⟩
theorem Wd.ext0 {σ σ' : Hp} {B : Bx} {p c P k n : Nat} {o : O} {ps : List PV} (h : Wd σ B p c P k n o ps) (X : Ext [] σ σ') : Wd σ' B p c P k n o ps :=
 ⟨h.wb.ext0 X, X.get _ _ h.gP (List.not_mem_nil), fun x hx => (h.prs x hx).ext X (fun _ _ => List.not_mem_nil) (fun _ _ => List.not_mem_nil), h.sep, h.out, h.Pn, h.len⟩
theorem Wd.mono {σ : Hp} {B : Bx} {p c P k n n' : Nat} {o : O} {ps : List PV} (h : Wd σ B p c P k n o ps) (hn : n ≤ n') : Wd σ B p c P k n' o ps := ⟨h.wb.mono hn, h.gP, h.prs, h.sep, h.out, h.Pn, h.len⟩
inductive Wd_draw_O (σ : Hp) (B : Bx) (p : Nat) (c : Nat) (P : Nat) (k : Nat) (n : Nat) (o : O) (ps : List PV) (m : Int) : Prop
 | mk (x : Int) (σ' : Hp) (_ : f_law_draw [.ref p, .int m] σ = some (.int x, σ')) (_ : 0 ≤ x) (_ : x < m) (_ : Wd σ' B p c P (k + 1) n o ps) : Wd_draw_O σ B p c P k n o ps m
theorem Wd.draw {σ : Hp} {B : Bx} {p c P k n : Nat} {o : O} {ps : List PV} {m : Int} (h : Wd σ B p c P k n o ps) (ho : isRaw o) (hk : k ≤ 900) (hm : 0 < m) : Wd_draw_O σ B p c P k n o ps m := by
 obtain ⟨x, σ', e, h0, h1, X, W⟩ := h.wb.draw ho hk hm
 refine ⟨x, σ', e, h0, h1, ⟨W, X.get _ _ h.gP (by simpa using h.Pn.1), fun y hy => (h.prs y hy).ext X (fun a ha c => ?_) (fun a ha c => ?_), h.sep, h.out, h.Pn, h.len⟩⟩
 ·simp at c; subst c; exact (h.out y hy).1 a (List.mem_cons_self) ha
 ·simp at c; subst c; exact (h.out y hy).2 a (List.mem_cons_self) ha
theorem Wd.box {σ σ' : Hp} {B B' : Bx} {p c P k n n' : Nat} {o : O} {ps : List PV} (h : Wd σ B p c P k n o ps) (X : Ext [B.b, B.L] σ σ') (st : BoxStep σ B B') (W : Wb σ' B' p c k n' o) : Wd σ' B' p c P k n' o ps := by
 have bP := lt_of_get h.gP
 have Pb : P ≠ B.b := by
  intro e
  obtain ⟨nm, vd, fr, hb⟩ := h.wb.box.box
  have := h.gP
  rw [e, hb] at this; cases this
 refine ⟨W, X.get _ _ h.gP (by simp; exact ⟨Pb, h.Pn.2.2.1⟩), fun y hy => ?_, h.sep, fun y hy => ⟨(h.out y hy).1, fun a ha => ?_⟩, ⟨h.Pn.1, h.Pn.2.1, ?_, ?_⟩, h.len⟩
 ·have P1 := h.prs y hy
  have lt := P1.lt
  have bx := P1.ap.box
  have fb : B.b ∉ y.2.2.map (·.2.1) := by
   intro c
   obtain ⟨w, hw, e⟩ := List.mem_map.mp c
   obtain ⟨nm, vd, fr, hb⟩ := h.wb.box.box
   have := (P1.cp.rows w hw).2
   rw [e, hb] at this; cases this
  have P2 := P1.ext X (fun a ha c => by simp at c; rcases c with rfl | rfl; exact bx.1 ha; exact bx.2.1 ha) (fun a ha c => by
   simp at c
   rcases c with rfl | rfl
   ·exact fb ha
   ·exact (h.out y hy).2 _ (mem2) ha)
  have lo : ∀ a, σ.length ≤ a → a ∉ own y.1 y.2.1 y.2.2 := fun a ha c => by have := lt.1 a c; exact om364 ha this
  refine ⟨by rw [st.b]; exact P2.vw, P2.cp, P2.mir, P2.srt, P2.ok, st.kn _ P2.kn, ⟨P2.ap.UC, P2.ap.Uf, by rw [st.b]; exact bx.1, ?_, ?_, fun q hq => ?_⟩⟩
  ·rcases st.L with e | e
   ·rw [e]; exact bx.2.1
   ·exact lo _ e
  ·rcases st.G with e | e
   ·rw [e]; exact bx.2.2.1
   ·exact lo _ e
  ·rcases st.ls q hq with e | e
   ·obtain ⟨z, hz, e⟩ := List.mem_map.mp e
    rw [← e]; exact bx.2.2.2 z hz
   ·exact lo _ e
 ·have o2 := (h.out y hy).2
  simp at ha
  rcases ha with rfl | rfl | rfl
  ·exact o2 _ (List.mem_cons_self)
  ·exact o2 _ (mem1)
  ·rcases st.L with e | e
   ·rw [e]; exact o2 _ (mem2)
   ·intro c; have := (h.prs y hy).lt.2 _ c; exact om364 e this
 ·rcases st.L with e | e
  ·rw [e]; exact h.Pn.2.2.1
  ·exact om191 bP e
 ·rcases st.G with e | e
  ·rw [e]; exact h.Pn.2.2.2
  ·exact om191 bP e
theorem Wd.upd {σ σ' : Hp} {B : Bx} {p c P k n i : Nat} {o : O} {ps : List PV} {x x' : PV} (h : Wd σ B p c P k n o ps) (ho : isRaw o) (hi : ps[i]? = some x) (X : Ext (ownP x) σ σ') (hp : Pair σ' B x'.1 x'.2.1 x'.2.2) (hv : x'.1.v = x.1.v) (hC : x'.2.1 = x.2.1)
  (hown : ∀ a ∈ ownP x', a ∈ ownP x ∨ σ.length ≤ a) (hfl : ∀ a ∈ flP x', a ∈ flP x ∨ σ.length ≤ a) : Wd σ' B p c P k n o (ps.set i x') := by
 have hil := (List.getElem?_eq_some_iff.mp hi).1
 have hx := List.mem_of_getElem? hi
 have Px := h.prs x hx
 have bx := Px.ap.box
 have el : ∀ j y, (ps.set i x')[j]? = some y → (j = i ∧ y = x') ∨ (j ≠ i ∧ ps[j]? = some y) := by
  intro j y hj
  by_cases q : j = i
  ·subst q; rw [List.getElem?_set_self hil] at hj; cases hj; exact .inl ⟨rfl, rfl⟩
  ·rw [List.getElem?_set_ne (Ne.symm q)] at hj; exact .inr ⟨q, hj⟩
 have elm : ∀ y ∈ ps.set i x', y = x' ∨ ∃ j, j ≠ i ∧ ps[j]? = some y := by
  intro y hy
  obtain ⟨j, hj⟩ := List.mem_iff_getElem?.mp hy
  rcases el j y hj with ⟨_, q⟩ | q
  ·exact .inl q
  ·exact .inr ⟨j, q⟩
 have z0 : (0 : Nat) ∉ ownP x := by
  intro c0
  have s0 := h.wb.scr
  obtain ⟨ob, xs, rfl⟩ := ho
  rcases List.mem_append.mp c0 with d | d
  ·simp at d
   rcases d with d | d | d | d
   ·have := Px.vw.vw; rw [← d, s0] at this; cases this
   ·have := Px.vw.U; rw [← d, s0] at this; cases this
   ·have := Px.vw.F; rw [← d, s0] at this; cases this
   ·have := Px.vw.M; rw [← d, s0] at this; cases this
  ·rcases List.mem_cons.mp d with q | q
   ·have := Px.cp.gC; rw [← q, s0] at this; cases this
   ·obtain ⟨w, hw, e⟩ := List.mem_map.mp q
    have := (Px.cp.rows w hw).1; rw [e, s0] at this; cases this
 have sepx : ∀ j y, j ≠ i → ps[j]? = some y → Sep x' y := by
  intro j y hj hy
  have s := h.sep i j x y (Ne.symm hj) hi hy
  have ly := (h.prs y (List.mem_of_getElem? hy)).lt
  refine ⟨fun a ha => ?_, fun a ha c => ?_⟩
  ·rcases hown a ha with q | q
   ·exact s.a a q
   ·exact ⟨fun c => by have := ly.1 a c; exact om364 q this, fun c => by have := ly.2 a c; exact om364 q this⟩
  ·rcases hfl a c with q | q
   ·exact s.b a ha q
   ·have := ly.1 a ha; exact om364 q this
 have wb' : Wb σ' B p c k n o := ⟨h.wb.box.ext X bx.1 bx.2.1 bx.2.2.1 bx.2.2.2, h.wb.bok, h.wb.bgl, h.wb.nu, h.wb.top, h.wb.pen.ext X ((h.out x hx).1 _ (List.mem_cons_self)) ((h.out x hx).1 _ (mem1)), h.wb.pL, h.wb.pG, h.wb.cL, X.get _ _ h.wb.scr z0⟩
 have bp := h.wb.pen.pen.lt
 have bc := h.wb.pen.cells.lt
 have bP := lt_of_get h.gP
 obtain ⟨_, bL, bG, _⟩ := h.wb.box.ltb
 refine ⟨wb', ?_, fun y hy => ?_, fun j1 j2 y1 y2 hne h1 h2 => ?_, fun y hy => ?_, h.Pn, by rw [List.length_set]; exact h.len⟩
 ·have : (ps.set i x').map pairV = ps.map pairV := by
   rw [List.map_set]
   have e : pairV x' = pairV x := by unfold pairV; rw [hv, hC]
   rw [e]
   apply List.ext_getElem?
   intro j
   by_cases q : i = j
   ·subst q; rw [List.getElem?_set_self (by simpa using hil), List.getElem?_map, hi]; rfl
   ·rw [List.getElem?_set_ne q]
  rw [this]
  exact X.get _ _ h.gP ((h.out x hx).1 _ (mem2))
 ·rcases elm y hy with rfl | ⟨j, hj, hy'⟩
  ·exact hp
  ·have s := (h.sep i j x y (Ne.symm hj) hi hy').symm
   exact (h.prs y (List.mem_of_getElem? hy')).ext X (fun a ha => (s.a a ha).1) (fun a ha c => s.b a c ha)
 ·rcases el j1 y1 h1 with ⟨q1, e1⟩ | ⟨q1, e1⟩ <;> rcases el j2 y2 h2 with ⟨q2, e2⟩ | ⟨q2, e2⟩
  ·exact (om365 hne q1 q2).elim
  ·subst e1; exact sepx j2 y2 q2 e2
  ·subst e2; exact (sepx j1 y1 q1 e1).symm
  ·exact h.sep j1 j2 y1 y2 hne e1 e2
 ·rcases elm y hy with rfl | ⟨j, hj, hy'⟩
  ·obtain ⟨o1, o2⟩ := h.out x hx
   refine ⟨fun a ha q => ?_, fun a ha q => ?_⟩
   ·rcases hown a q with r | r
    ·exact o1 a ha r
    ·simp at ha; exact om366 bp bc bP r ha
   ·rcases hfl a q with r | r
    ·exact o2 a ha r
    ·simp at ha; exact om366 bp bP bL r ha
  ·exact h.out y (List.mem_of_getElem? hy')
theorem Wd.push {σ σ' : Hp} {B : Bx} {p c P k k' n : Nat} {o : O} {ps : List PV} {x : PV} (h : Wd σ B p c P k n o ps) (ho : isRaw o) (X : Ext [p] σ σ') (hk : PenAt σ' p c k') (hp : Pair σ' B x.1 x.2.1 x.2.2) (h1 : ∀ a ∈ ownP x, σ.length ≤ a) (h2 : ∀ a ∈ flP x, σ.length ≤ a) (hl : ps.length < 3) :
  Wd (σ'.set P (.list (ps.map pairV ++ [pairV x]))) B p c P k' n o (ps ++ [x]) := by
 obtain ⟨a1, a2, a3, a4, a5, a6, a7, a8⟩ := h.wb.off ho
 have bp := h.wb.pen.pen.lt
 have bc := h.wb.pen.cells.lt
 have bP := lt_of_get h.gP
 obtain ⟨bb, bL, bG, bl⟩ := h.wb.box.ltb
 have P' := X.get _ _ h.gP (by simpa using h.Pn.1)
 have X2 : Ext [P] σ' (σ'.set P (.list (ps.map pairV ++ [pairV x]))) := Ext.set _ _ _
 have wb1 : Wb σ' B p c k' n o := ⟨h.wb.box.ext X (by simpa using a1.symm) (by simpa using h.wb.pL.symm) (by simpa using h.wb.pG.symm) (fun q hq => by simpa using (a3 q hq).1), h.wb.bok, h.wb.bgl, h.wb.nu, h.wb.top, hk, h.wb.pL, h.wb.pG, h.wb.cL, X.get _ _ h.wb.scr (by simpa using a4.symm)⟩
 have Pb : P ≠ B.b := by
  intro e
  obtain ⟨nm, vd, fr, hb⟩ := h.wb.box.box
  have := h.gP
  rw [e, hb] at this; cases this
 have Pl : ∀ q ∈ B.ls, q.1 ≠ P := by
  intro q hq e
  obtain ⟨oc, ins, g⟩ := h.wb.box.lt q hq
  have := h.gP
  rw [← e, g] at this; cases this
 have P0 : P ≠ 0 := by
  intro e
  have := h.gP
  obtain ⟨ob, xs, rfl⟩ := ho
  rw [e, h.wb.scr] at this; cases this
 have wb2 : Wb (σ'.set P (.list (ps.map pairV ++ [pairV x]))) B p c k' n o := ⟨wb1.box.ext X2 (by simpa using Ne.symm Pb) (by simpa using Ne.symm h.Pn.2.2.1) (by simpa using Ne.symm h.Pn.2.2.2) (fun q hq => by simpa using Pl q hq), wb1.bok, wb1.bgl, wb1.nu, wb1.top, wb1.pen.ext X2 (by simpa using Ne.symm h.Pn.1) (by simpa using Ne.symm h.Pn.2.1), wb1.pL, wb1.pG, wb1.cL, X2.get _ _ wb1.scr (by simpa using P0.symm)⟩
 have el : ∀ j y, (ps ++ [x])[j]? = some y → (j < ps.length ∧ ps[j]? = some y) ∨ (j = ps.length ∧ y = x) := by
  intro j y hj
  by_cases q : j < ps.length
  ·rw [List.getElem?_append_left q] at hj; exact .inl ⟨q, hj⟩
  ·rw [List.getElem?_append_right (om367 q)] at hj
   have : j - ps.length < 1 := by have := (List.getElem?_eq_some_iff.mp hj).1; simpa using this
   have e : j = ps.length := by exact om368 q this
   subst e
   simp at hj; exact .inr ⟨rfl, hj.symm⟩
 have sepn : ∀ y ∈ ps, Sep x y := by
  intro y hy
  have ly := (h.prs y hy).lt
  exact ⟨fun a ha => ⟨fun c => by have := ly.1 a c; have := h1 a ha; exact om369 (by assumption) this, fun c => by have := ly.2 a c; have := h1 a ha; exact om369 (by assumption) this⟩, fun a ha c => by have := ly.1 a ha; have := h2 a c; exact om369 (by assumption) this⟩
 refine ⟨wb2, ?_, fun y hy => ?_, fun j1 j2 y1 y2 hne g1 g2 => ?_, fun y hy => ?_, h.Pn, by simp; exact om370 hl⟩
 ·rw [List.map_append]; exact set_get P'
 ·rcases List.mem_append.mp hy with q | q
  ·have o1 := h.out y q
   exact ((h.prs y q).ext X (fun a ha c => by simp at c; subst c; exact o1.1 a (List.mem_cons_self) ha) (fun a ha c => by simp at c; subst c; exact o1.2 a (List.mem_cons_self) ha)).ext X2 (fun a ha c => by simp at c; subst c; exact o1.1 a (mem2) ha) (fun a ha c => by simp at c; subst c; exact o1.2 a (mem1) ha)
  ·rw [List.mem_singleton.mp q]
   exact hp.ext X2 (fun a ha c => by simp at c; have := h1 a ha; exact om286 bP c this) (fun a ha c => by simp at c; have := h2 a ha; exact om286 bP c this)
 ·rcases el j1 y1 g1 with ⟨q1, e1⟩ | ⟨q1, e1⟩ <;> rcases el j2 y2 g2 with ⟨q2, e2⟩ | ⟨q2, e2⟩
  ·exact h.sep j1 j2 y1 y2 hne e1 e2
  ·subst e2; exact (sepn y1 (List.mem_of_getElem? e1)).symm
  ·subst e1; exact sepn y2 (List.mem_of_getElem? e2)
  ·exact (om365 hne q1 q2).elim
 ·rcases List.mem_append.mp hy with q | q
  ·exact h.out y q
  ·rw [List.mem_singleton.mp q]
   exact ⟨fun a ha c => by have := h1 a c; simp at ha; exact om366 bp bc bP this ha, fun a ha c => by have := h2 a c; simp at ha; exact om366 bp bP bL this ha⟩
theorem eqI {s : Hp} (a b : Int) {r : Bool} (h : decide (a = b) = r) : opEq (.int a) (.int b) s = some (.bool r, s) := by
 have := opEq_of (σ := s) (eqB_int (σ := s) a b)
 rw [h] at this; exact this
theorem MirL.put {um : Bool} {l : Lt} : ∀ {rs ds : List Lt}, MirL um rs ds → MirL um (Mine.put rs l) (Mine.put ds l)
 | [], [], _ => trivial
 | r :: rs, d :: ds, ⟨⟨a, b, e⟩, t⟩ => by
  have ih := t.put (l := l)
  unfold Mine.put at ih ⊢
  rw [List.map_cons, List.map_cons]
  by_cases q : r.u = l.u
  ·rw [if_pos q, if_pos (a.trans q)]; exact ⟨⟨rfl, rfl, fun _ => rfl⟩, ih⟩
  ·rw [if_neg q, if_neg (by rw [a]; exact q)]; exact ⟨⟨a, b, e⟩, ih⟩
 | [], _ :: _, h => h.elim
 | _ :: _, [], h => h.elim
theorem put_mem {rs : List Lt} {l r : Lt} (h : r ∈ put rs l) : r = l ∧ l.u ∈ us rs ∨ r ∈ rs := by
 unfold put at h
 obtain ⟨q, hq, e⟩ := List.mem_map.mp h
 split at e
 ·rename_i c; exact .inl ⟨e.symm, List.mem_map.mpr ⟨q, hq, c⟩⟩
 ·subst e; exact .inr hq
theorem Kn.put {rs : List Lt} {B : Bx} {p : Nat × Lt} (kB : BxOk B) (kn : Kn rs B) (hp : p ∈ B.ls) : Kn (Mine.put rs p.2) B := by
 refine ⟨fun q hq => ?_, fun r hr => ?_, fun q hq r hr hu hm => ?_, fun r hr => ?_⟩
 ·rw [us_put]
  rcases kn.old q hq with c | c
  ·exact .inl c
  ·refine .inr fun r hr => ?_
   have : r.u ∈ us rs := by rw [← us_put rs p.2]; exact List.mem_map.mpr ⟨r, hr, rfl⟩
   obtain ⟨z, hz, e⟩ := List.mem_map.mp this
   rw [← e]; exact c z hz
 ·rcases put_mem hr with ⟨rfl, _⟩ | c
  ·exact (kB.lo p hp).2.2.1
  ·exact kn.ms r c
 ·rcases put_mem hr with ⟨rfl, _⟩ | c
  ·rw [keys_uniq kB.srt hp hq hu]
  ·exact kn.same q hq r c hu hm
 ·rcases put_mem hr with ⟨rfl, _⟩ | c
  ·have := kB.lo p hp; exact ⟨this.1, this.2.1⟩
  ·exact kn.hi r c
theorem put_app (a b : List Lt) (l : Lt) : put (a ++ b) l = put a l ++ put b l := by simp [put]
inductive silent_rows_O (s : Hp) (C : Nat) (ws : List Rw) (p : Nat × Lt) (u : Int) (x0 : V) (x1 : V) (x2 : V) (x3 : V) (x4 : V) (x5 : V) (x6 : V) (x8 : V) (y0 : V) : Prop
 | mk (s' : Hp) (ws' : List Rw) (y : V) (_ : l_law2 [x0, x1, x2, x3, x4, x5, x6, .int u, x8, .ref C, .ref p.1, y0] s = some (.next, [x0, x1, x2, x3, x4, x5, x6, .int u, x8, .ref C, .ref p.1, y], s')) (_ : Ext (ws.map (·.1)) s s') (_ : CpAt s' C ws') (_ : dt ws' = put (dt ws) p.2) (_ : ws'.map (·.1) = ws.map (·.1)) (_ : ∀ w ∈ ws', w.2.1 ∈ ws.map (·.2.1) ∨ s.length ≤ w.2.1) : silent_rows_O s C ws p u x0 x1 x2 x3 x4 x5 x6 x8 y0
inductive SI2 (x0 x1 x2 x3 x4 x5 x6 x8 : V) (u : Int) (C : Nat) (p : Nat × Lt) (s : Hp) (ws : List Rw) (i : Nat) (ρ : Loc) (t : Hp) : Prop
 | mk (y : V) (ws' : List Rw) (_ : ρ = [x0, x1, x2, x3, x4, x5, x6, .int u, x8, .ref C, .ref p.1, y]) (_ : Ext (ws.map (·.1)) s t) (_ : CpAt t C ws') (_ : dt ws' = put ((dt ws).take i) p.2 ++ (dt ws).drop i) (_ : ws'.map (·.1) = ws.map (·.1)) (_ : (∀ w ∈ ws', w.2.1 ∈ ws.map (·.2.1) ∨ s.length ≤ w.2.1)) (_ : i ≤ ws.length) : SI2 x0 x1 x2 x3 x4 x5 x6 x8 u C p s ws i ρ t
theorem silent_rows {s : Hp} {C : Nat} {ws : List Rw} {p : Nat × Lt} {u : Int} {x0 x1 x2 x3 x4 x5 x6 x8 y0 : V} (hc : CpAt s C ws) (hn : ws.length ≤ 900) (hl : LtAt s p.1 p.2) (ok : okS p.2.fl) (hu : p.2.u = u) : silent_rows_O s C ws p u x0 x1 x2 x3 x4 x5 x6 x8 y0 := by
 obtain ⟨oc, ins, hl⟩ := hl
 have pr : p.1 ∉ ws.map (·.1) := by
  intro c
  obtain ⟨w, hw, e⟩ := List.mem_map.mp c
  have := (hc.rows w hw).1
  rw [e, hl] at this; cases this
 have rr : ∀ ws' : List Rw, ws'.map (·.1) = ws.map (·.1) → rrefs ws' = rrefs ws := by
  intro ws' h
  have := congrArg (List.map V.ref) h
  simpa [rrefs, Function.comp_def] using this
 have key := for_list (src := .list C) (a := stA 11) (f := b_law2) (xs := rrefs ws) (N := 1000) (ρ := [x0, x1, x2, x3, x4, x5, x6, .int u, x8, .ref C, .ref p.1, y0]) (σ := s)
  (fun i ρ t => SI2 x0 x1 x2 x3 x4 x5 x6 x8 u C p s ws i ρ t)
  (by simp [rrefs]; exact om125 hn) ⟨y0, ws, rfl, Ext.refl _ _, hc, by simp [put], rfl, fun w hw => .inl (List.mem_map.mpr ⟨w, hw, rfl⟩), by simp⟩
  (fun i ρ t _ ⟨_, ws', _, _, c', _, e', _, _⟩ => by rw [← rr ws' e']; exact nxt_list c'.gC i) (by
   rintro i x ρ t hx ⟨y, ws', rfl, X, c', d', e', f', hi⟩
   have hlen : ws'.length = ws.length := by have := congrArg List.length e'; simpa using this
   have hil : i < ws.length := by have := (List.getElem?_eq_some_iff.mp hx).1; simpa [rrefs] using this
   generalize hw : ws'[i]'(om371 hlen hil) = w
   have hwi : ws'[i]? = some w := by rw [List.getElem?_eq_getElem (om371 hlen hil), hw]
   have hmem := List.mem_of_getElem? hwi
   obtain rfl : x = .ref w.1 := by
    have : (rrefs ws')[i]? = some (.ref w.1) := by simp [rrefs, hwi]
    rw [rr ws' e', hx] at this; cases this; rfl
   generalize hd : (dt ws)[i]'(by simp [dt]; exact hil) = dd
   have hdi : (dt ws)[i]? = some dd := by rw [List.getElem?_eq_getElem (by simp [dt]; exact hil), hd]
   have hdl : i < (dt ws).length := by simp [dt]; exact hil
   have hdrop : (dt ws).drop i = dd :: (dt ws).drop (i + 1) := by rw [← hd]; exact List.drop_eq_getElem_cons hdl
   have htake : (dt ws).take (i + 1) = (dt ws).take i ++ [dd] := by rw [List.take_succ, hdi]; rfl
   have lp : (put ((dt ws).take i) p.2).length = i := by simp [put]; exact om372 hdl
   have hwd : w.2.2 = dd := by
    have a : (dt ws')[i]? = some w.2.2 := by simp [dt, hwi]
    rw [d', List.getElem?_append_right (om373 lp), hdrop] at a
    have e0 : i - (put ((dt ws).take i) p.2).length = 0 := by exact om374 lp
    rw [e0] at a; simpa using a.symm
   have r := c'.rows w hmem
   have hl' := X.get _ _ hl pr
   have i0 := row_item0 r
   by_cases q : w.2.2.u = u
   ·-- this row
    have fvd : fv p.2.fl = .tup (vS p.2.fl) := rfl
    have hl1 := hl'
    rw [fvd] at hl1
    have hb : (vS p.2.fl).length ≤ big := by have := ok.1; simp [vS, big]; exact om215 this
    have X1 : Ext [] t (t ++ [O.list (vS p.2.fl)]) := Ext.app _ _
    have n1 := new_get t (O.list (vS p.2.fl))
    have hl2 := X1.get _ _ hl1 (List.not_mem_nil)
    have r1 := X1.get _ _ r.1 (List.not_mem_nil)
    have tq := eqI (s := t) w.2.2.u u (decide_eq_true q)
    have tl : w.1 ≠ t.length := ne_of_new r.1
    have st1 : opSet (.ref w.1) (.int 1) (.ref t.length) (t ++ [O.list (vS p.2.fl)]) = some ((t ++ [O.list (vS p.2.fl)]).set w.1 (.list [.int w.2.2.u, .ref t.length, .int w.2.2.ms])) := by
     unfold opSet; rw [onRef_c, onInt_c, r1]; rfl
    have r2 := set_get (o' := O.list [.int w.2.2.u, .ref t.length, .int w.2.2.ms]) r1
    have st2 : opSet (.ref w.1) (.int 2) (.int p.2.ms) ((t ++ [O.list (vS p.2.fl)]).set w.1 (.list [.int w.2.2.u, .ref t.length, .int w.2.2.ms])) = some ((t ++ [O.list (vS p.2.fl)]).set w.1 (.list [.int w.2.2.u, .ref t.length, .int p.2.ms])) := by
     unfold opSet; rw [onRef_c, onInt_c, r2, onLD_a, List.set_set]; rfl
    have X2 : Ext [w.1] (t ++ [O.list (vS p.2.fl)]) ((t ++ [O.list (vS p.2.fl)]).set w.1 (.list [.int w.2.2.u, .ref t.length, .int p.2.ms])) := Ext.set _ _ _
    have XX : Ext [w.1] t ((t ++ [O.list (vS p.2.fl)]).set w.1 (.list [.int w.2.2.u, .ref t.length, .int p.2.ms])) := X1.nil.trans X2
    have le := X.le
    have wmem : w.1 ∈ ws.map (·.1) := by rw [← e']; exact List.mem_map.mpr ⟨w, hmem, rfl⟩
    have c'' := c'.set hwi XX (f' := t.length) (d := ⟨w.2.2.u, p.2.fl, p.2.ms⟩) (Nat.le_refl _) (set_get r1) (X2.get _ _ n1 (by simpa using Ne.symm tl))
    refine ⟨[x0, x1, x2, x3, x4, x5, x6, .int u, x8, .ref C, .ref p.1, .ref w.1], t, [x0, x1, x2, x3, x4, x5, x6, .int u, x8, .ref C, .ref p.1, .ref w.1], _, rfl, ?_, .ref w.1, ws'.set i (w.1, t.length, ⟨w.2.2.u, p.2.fl, p.2.ms⟩), rfl, X.trans (XX.mono (by intro a h; simp at h; subst h; exact wmem)), c'', ?_, by rw [map_set_fst (nw := (w.1, t.length, (⟨w.2.2.u, p.2.fl, p.2.ms⟩ : Lt))) hwi rfl]; exact e', ?_, hil⟩
    ·have nn : opIsNot (.ref p.1) .none t = some (.bool true, t) := rfl
     simp only [b_law2, bList, MSX, nn, i0, tq, hl1, hb, hl2, st1, st2]
    ·have e1 : dt (ws'.set i (w.1, t.length, (⟨w.2.2.u, p.2.fl, p.2.ms⟩ : Lt))) = (dt ws').set i ⟨w.2.2.u, p.2.fl, p.2.ms⟩ := by simp [dt, List.map_set]
     rw [e1, d', List.set_append_right _ _ (om373 lp), hdrop, htake, put_app]
     have e0 : i - (put ((dt ws).take i) p.2).length = 0 := by exact om374 lp
     rw [e0, List.set_cons_zero]
     have e2 : put [dd] p.2 = [⟨w.2.2.u, p.2.fl, p.2.ms⟩] := by
      unfold put
      rw [List.map_singleton, if_pos (by rw [← hwd, q, hu])]
      rw [q, ← hu]
     rw [e2]; simp
    ·intro w' hw'
     rcases List.mem_or_eq_of_mem_set hw' with d | rfl
     ·exact f' w' d
     ·exact .inr le
   ·have tq := eqI (s := t) w.2.2.u u (decide_eq_false q)
    refine ⟨[x0, x1, x2, x3, x4, x5, x6, .int u, x8, .ref C, .ref p.1, .ref w.1], t, [x0, x1, x2, x3, x4, x5, x6, .int u, x8, .ref C, .ref p.1, .ref w.1], t, rfl, ?_, .ref w.1, ws', rfl, X, c', ?_, e', f', hil⟩
    ·have nn : opIsNot (.ref p.1) .none t = some (.bool true, t) := rfl
     simp only [b_law2, bList, MSX, nn, i0, tq]
    ·rw [d', hdrop, htake, put_app]
     have e2 : put [dd] p.2 = [dd] := by
      unfold put
      rw [List.map_singleton, if_neg (by rw [← hwd, hu]; exact q)]
     rw [e2]; simp)
 obtain ⟨ρ', s', e, y, ws', rfl, X, c', d', e', f', _⟩ := key
 have lr : (rrefs ws).length = (dt ws).length := by simp [rrefs, dt]
 rw [lr, List.take_length, List.drop_length, List.append_nil] at d'
 refine ⟨s', ws', y, ?_, X, c', d', e', f'⟩
 have m : (mkV (var 9)) [x0, x1, x2, x3, x4, x5, x6, .int u, x8, .ref C, .ref p.1, y0] s = some (.list C, s) := by simp only [MSX, hc.gC]
 unfold l_law2 sFor
 rw [m]; exact e
theorem silent_none {s : Hp} {C : Nat} {ws : List Rw} {u : Int} {x0 x1 x2 x3 x4 x5 x6 x8 y0 : V} (hc : CpAt s C ws) (hn : ws.length ≤ 900) :
  ∃ y, l_law2 [x0, x1, x2, x3, x4, x5, x6, .int u, x8, .ref C, .none, y0] s = some (.next, [x0, x1, x2, x3, x4, x5, x6, .int u, x8, .ref C, .none, y], s) := by
 obtain ⟨ρ', s', e, y, rfl, rfl⟩ := for_list (src := .list C) (a := stA 11) (f := b_law2) (xs := rrefs ws) (N := 1000) (ρ := [x0, x1, x2, x3, x4, x5, x6, .int u, x8, .ref C, .none, y0]) (σ := s)
  (fun i ρ t => ∃ y, ρ = [x0, x1, x2, x3, x4, x5, x6, .int u, x8, .ref C, .none, y] ∧ t = s) (by simp [rrefs]; exact om125 hn) ⟨y0, rfl, rfl⟩ (fun i ρ t _ ⟨_, _, q⟩ => by rw [q]; exact nxt_list hc.gC i) (by
   rintro i x ρ t hx ⟨y, rfl, rfl⟩
   obtain ⟨w, hw, rfl⟩ : ∃ w : Rw, ws[i]? = some w ∧ x = V.ref w.1 := by
    simp only [rrefs, List.getElem?_map, Option.map_eq_some_iff] at hx
    obtain ⟨w, a, b⟩ := hx; exact ⟨w, a, b.symm⟩
   refine ⟨[x0, x1, x2, x3, x4, x5, x6, .int u, x8, .ref C, .none, .ref w.1], t, [x0, x1, x2, x3, x4, x5, x6, .int u, x8, .ref C, .none, .ref w.1], t, rfl, ?_, .ref w.1, rfl, rfl⟩
   have nn : opIsNot .none .none t = some (.bool false, t) := rfl
   simp only [b_law2, MSX, nn])
 refine ⟨y, ?_⟩
 have m : (mkV (var 9)) [x0, x1, x2, x3, x4, x5, x6, .int u, x8, .ref C, .none, y0] s' = some (.list C, s') := by simp only [MSX, hc.gC]
 unfold l_law2 sFor
 rw [m]; exact e
section
variable {s : Hp} {B : Bx} {p c P k n : Nat} {o : O} {ps : List PV} {u : Int} {x4 x8 x9 x10 x11 : V}
theorem flags_of {t : Hp} {x : Int} (h0 : 0 ≤ x) (h5 : x < 5) : ∃ fl ∈ menu, opItem (.ref t.length) (.int x) (t ++ [O.list (menu.map fv)]) = some (fv fl, t ++ [O.list (menu.map fv)]) := flags_at (new_get t _) h0 h5
theorem lap_add (h : Wd s B p c P k n o ps) (ho : isRaw o) (hn : n ≤ 90) :
  ∃ s' B', (sExpr (callL (consL (var 3) (consL (cBytes #[121]) (consL (bin2 opItem (callL nilL f_law_flags) (bin2 opMod (var 7) (cInt 5))) (consL (cInt 6) nilL)))) f_add_letter)) [.ref 0, .ref c, .ref p, .ref B.b, x4, .ref P, .int 0, .int u, x8, x9, x10, x11] s = some (.next, [.ref 0, .ref c, .ref p, .ref B.b, x4, .ref P, .int 0, .int u, x8, x9, x10, x11], s') ∧ B'.b = B.b ∧ Wd s' B' p c P k (n + 1) o ps := by
 have hm := fmod_in (a := u) (m := 5) (by decide)
 obtain ⟨fl, hf, e1⟩ := flags_of (t := s) hm.1 hm.2
 have h1 := h.ext0 (Ext.app s [O.list (menu.map fv)])
 obtain ⟨v, s', B', e, X, st, W⟩ := h1.wb.add (oc := #[121]) (ins := 6) ho hf hn
 refine ⟨s', B', ?_, st.b, h1.box X st W⟩
 have z5 : (5 : Int) ≠ 0 := by decide
 simp only [MSX, law_flags_ok, z5, ne_eq, e1, e]
inductive lap_set_O (s : Hp) (B : Bx) (p : Nat) (c : Nat) (P : Nat) (k : Nat) (n : Nat) (o : O) (ps : List PV) (u : Int) (x4 : V) (x8 : V) (x9 : V) (x10 : V) (x11 : V) : Prop
 | mk (s' : Hp) (B' : Bx) (k' : Nat) (_ : (sExpr (callL (consL (var 3) (consL (var 7) (consL (bin2 opItem (callL nilL f_law_flags) (callL (consL (var 2) (consL (cInt 5) nilL)) f_law_draw)) nilL))) f_set_flags)) [.ref 0, .ref c, .ref p, .ref B.b, x4, .ref P, .int 1, .int u, x8, x9, x10, x11] s = some (.next, [.ref 0, .ref c, .ref p, .ref B.b, x4, .ref P, .int 1, .int u, x8, x9, x10, x11], s')) (_ : B'.b = B.b) (_ : Wd s' B' p c P k' (n + 1) o ps) (_ : k' ≤ k + 1) : lap_set_O s B p c P k n o ps u x4 x8 x9 x10 x11
theorem lap_set (h : Wd s B p c P k n o ps) (ho : isRaw o) (hk : k ≤ 800) (hu : u ∈ keys B.ls) : lap_set_O s B p c P k n o ps u x4 x8 x9 x10 x11 := by
 have h1 := h.ext0 (Ext.app s [O.list (menu.map fv)])
 obtain ⟨z, s2, e2, z0, z5, h2⟩ := h1.draw (m := 5) ho (om375 hk) (by decide)
 have X2 : Ext [p] (s ++ [O.list (menu.map fv)]) s2 := by
  obtain ⟨x, s2', e', _, _, X, _⟩ := h1.wb.draw (m := 5) ho (om375 hk) (by decide)
  rw [e2] at e'; cases e'; exact X
 have hps := h.wb.pen.pen.lt
 have m2 := X2.get _ _ (new_get s (O.list (menu.map fv))) (by simp; exact om183 hps)
 obtain ⟨fl, hf, e1⟩ := flags_at m2 z0 z5
 obtain ⟨v, s', B', e, X, st, W⟩ := h2.wb.set ho hf hu
 refine ⟨s', B', k + 1, ?_, st.b, h2.box X st W, Nat.le_refl _⟩
 simp only [MSX, law_flags_ok, e2, e1, e]
theorem lap_expunge (h : Wd s B p c P k n o ps) (ho : isRaw o) (hn : n ≤ 90) :
  ∃ s' B', (sExpr (callL (consL (var 3) (consL (mkList (consL (var 7) (consL (bin2 opAdd (var 7) (cInt 2)) nilL))) nilL)) f_expunge)) [.ref 0, .ref c, .ref p, .ref B.b, x4, .ref P, .int 2, .int u, x8, x9, x10, x11] s = some (.next, [.ref 0, .ref c, .ref p, .ref B.b, x4, .ref P, .int 2, .int u, x8, x9, x10, x11], s') ∧ B'.b = B.b ∧ Wd s' B' p c P k (n + 1) o ps := by
 have h1 := h.ext0 (Ext.app s [O.list [.int u, .int (u + 2)]])
 obtain ⟨v, s', B', e, X, st, W⟩ := h1.wb.expunge ho hn (new_get s (O.list [.int u, .int (u + 2)]))
 refine ⟨s', B', ?_, st.b, h1.box X st W⟩
 simp only [MSX, e]
theorem pair_new {Y : Vw} {C : Nat} {ws : List Rw} (hB : BxAt s B) (kB : BxOk B) (hv : VwAt s B.b Y) (hc : CpAt s C ws) (h1 : Y.rs = B.ls.map (·.2)) (h2 : dt ws = B.ls.map (·.2)) (ap : Apart B Y C ws) : Pair s B Y C ws := by
 refine ⟨hv, hc, by rw [h1, h2]; exact MirL.refl _, by rw [h1, keys_snd]; exact kB.srt, fun r hr => ?_, ⟨fun p hp => ?_, fun r hr => ?_, fun p hp r hr hu _ => ?_, fun r hr => ?_⟩, ap⟩ <;> rw [h1] at *
 ·obtain ⟨q, hq, rfl⟩ := List.mem_map.mp hr; exact (kB.lo q hq).2.2.2
 ·left; rw [keys_snd]; exact List.mem_map.mpr ⟨p, hp, rfl⟩
 ·obtain ⟨q, hq, rfl⟩ := List.mem_map.mp hr; exact (kB.lo q hq).2.2.1
 ·obtain ⟨q, hq, rfl⟩ := List.mem_map.mp hr; rw [keys_uniq kB.srt hq hp hu]
 ·obtain ⟨q, hq, rfl⟩ := List.mem_map.mp hr; have := kB.lo q hq; exact ⟨this.1, this.2.1⟩
inductive begun_pair_O (s : Hp) (B : Bx) (p : Nat) (c : Nat) (k : Nat) : Prop
 | mk (x : PV) (s' : Hp) (_ : f_law_begun [.ref p, .ref B.b] s = some (pairV x, s')) (_ : Ext [p] s s') (_ : PenAt s' p c (k + 2)) (_ : Pair s' B x.1 x.2.1 x.2.2) (_ : (∀ a ∈ ownP x, s.length ≤ a)) (_ : ∀ a ∈ flP x, s.length ≤ a) : begun_pair_O s B p c k
theorem begun_pair (h : Wb s B p c k n o) (ho : isRaw o) (hk : k ≤ 800) : begun_pair_O s B p c k := by
 obtain ⟨a1, a2, a3, _⟩ := h.off ho
 obtain ⟨Y, C, ws, s', e, X, pn, v, cp, r1, r2, o1, o2, u1, u2⟩ := begun_ok h.box h.bok h.pen (om375 hk) ⟨a1, h.pL, h.pG, fun q hq => (a3 q hq).1⟩
 obtain ⟨b1, b2, b3, b4⟩ := h.box.ltb
 have hB' : BxAt s' B := h.box.ext X (by simpa using a1.symm) (by simpa using h.pL.symm) (by simpa using h.pG.symm) (fun q hq => by simpa using (a3 q hq).1)
 exact ⟨(Y, C, ws), s', e, X, pn, pair_new hB' h.bok v cp r1 r2 ⟨u1, u2, fun c => by have := o1 _ c; exact om369 b1 this, fun c => by have := o1 _ c; exact om369 b2 this, fun c => by have := o1 _ c; exact om369 b3 this, fun q hq c => by have := o1 _ c; have := b4 q hq; exact om364 (by assumption) this⟩, o1, o2⟩
theorem lap_begun (h : Wd s B p c P k n o ps) (ho : isRaw o) (hk : k ≤ 800) (hl : ps.length < 3) :
  ∃ s' ps', (sExpr (meth isL (var 5) (consL (callL (consL (var 2) (consL (var 3) nilL)) f_law_begun) nilL) mAppend)) [.ref 0, .ref c, .ref p, .ref B.b, x4, .ref P, .int 3, .int u, x8, x9, x10, x11] s = some (.next, [.ref 0, .ref c, .ref p, .ref B.b, x4, .ref P, .int 3, .int u, x8, x9, x10, x11], s') ∧ Wd s' B p c P (k + 2) n o ps' := by
 obtain ⟨x, s', e, X, pn, P1, o1, o2⟩ := begun_pair h.wb ho hk
 have W := h.push ho X pn P1 o1 o2 hl
 have g := X.get _ _ h.gP (by simpa using h.Pn.1)
 have lb : (ps.map pairV).length < big := by rw [List.length_map]; unfold big; exact om376 hl
 refine ⟨_, ps ++ [x], ?_, W⟩
 have lb' : ps.length < big := by unfold big; exact om376 hl
 simp only [MSX, h.gP, e, g, lb']
theorem pick_ok (h : Wd s B p c P k n o ps) : ∃ (i : Nat) (x : PV), ps[i]? = some x ∧ opItem (.ref P) (.int (Int.fmod u (ps.length : Int))) s = some (.tup [.ref x.1.v, .ref x.2.1], s) := by
 obtain ⟨l1, l3⟩ := h.len
 obtain ⟨m0, m1⟩ := fmod_in (a := u) (m := (ps.length : Int)) (om377 l1)
 obtain ⟨j, hj⟩ : ∃ j : Nat, Int.fmod u (ps.length : Int) = j := ⟨(Int.fmod u (ps.length : Int)).toNat, om311 m0⟩
 have hjl : j < ps.length := by exact om378 m1 hj
 refine ⟨j, ps[j], List.getElem?_eq_getElem hjl, ?_⟩
 rw [hj]
 exact item_list h.gP (idx_nat (by simp [pairV, List.getElem?_eq_getElem hjl]) (om379 l3 m1 hj))
inductive pick_st_O (s : Hp) (B : Bx) (p : Nat) (c : Nat) (P : Nat) (ps : List PV) (u : Int) (x4 : V) (x8 : V) (x9 : V) (x10 : V) (x11 : V) (w : V) : Prop
 | mk (i : Nat) (x : PV) (_ : ps[i]? = some x) (_ : (sAsg (bin2 opItem (var 5) (bin2 opMod (var 7) (callL (consL (var 5) nilL) bLen))) (asg2 (stA 8) (stA 9))) [.ref 0, .ref c, .ref p, .ref B.b, x4, .ref P, w, .int u, x8, x9, x10, x11] s = some (.next, [.ref 0, .ref c, .ref p, .ref B.b, x4, .ref P, w, .int u, .ref x.1.v, .ref x.2.1, x10, x11], s)) : pick_st_O s B p c P ps u x4 x8 x9 x10 x11 w
theorem pick_st (h : Wd s B p c P k n o ps) {w : V} : pick_st_O s B p c P ps u x4 x8 x9 x10 x11 w := by
 obtain ⟨i, x, hx, e⟩ := pick_ok (u := u) h
 obtain ⟨l1, l3⟩ := h.len
 have lm : (ps.map pairV).length = ps.length := by exact List.length_map _
 have lb : ps.length ≤ big := by unfold big; exact om211 l3
 have l0 : ((ps.length : Nat) : Int) ≠ 0 := by exact om380 l1
 refine ⟨i, x, hx, ?_⟩
 simp only [MSX, h.gP, lb, l0, ne_eq, e]
inductive news_pair_O (s : Hp) (B : Bx) (p : Nat) (c : Nat) (P : Nat) (k : Nat) (n : Nat) (o : O) (ps : List PV) (may : Bool) (i : Nat) (x : PV) : Prop
 | mk (s' : Hp) (x' : PV) (_ : f_law_news_right [.ref B.b, .ref x.1.v, .ref x.2.1, .bool may] s = some (.bool true, s')) (_ : Wd s' B p c P k n o (ps.set i x')) (_ : pairV x' = pairV x) : news_pair_O s B p c P k n o ps may i x
theorem news_pair (h : Wd s B p c P k n o ps) (ho : isRaw o) (hn : n ≤ 100) (may : Bool) {i : Nat} {x : PV} (hx : ps[i]? = some x) : news_pair_O s B p c P k n o ps may i x := by
 have hm := List.mem_of_getElem? hx
 have P1 := h.prs x hm
 have hnu := h.wb.nu
 obtain ⟨s', U', ws', e, X, P2, hU, hw⟩ := news_right_ok may h.wb.box h.wb.bok (om381 hn hnu) hnu.1 P1
 refine ⟨s', ({ x.1 with U := U', rs := newsR x.1.um may x.1.rs B.ls }, x.2.1, ws'), e, h.upd ho hx X P2 rfl rfl ?_ ?_, rfl⟩
 ·intro a ha
  rcases List.mem_append.mp ha with d | d
  ·simp at d
   rcases d with rfl | rfl | rfl | rfl
   ·left; simp [ownP, own]
   ·rcases hU with q | q
    ·left; rw [q]; simp [ownP, own]
    ·exact .inr q
   ·left; simp [ownP, own]
   ·left; simp [ownP, own]
  ·rcases List.mem_cons.mp d with rfl | q
   ·left; simp [ownP, own]
   ·obtain ⟨w, hw1, rfl⟩ := List.mem_map.mp q
    rcases (hw w hw1).1 with r | r
    ·left; exact List.mem_append_right _ (List.mem_cons_of_mem _ r)
    ·exact .inr r
 ·intro a ha
  obtain ⟨w, hw1, rfl⟩ := List.mem_map.mp ha
  exact (hw w hw1).2
inductive lap_news_O (s : Hp) (B : Bx) (p : Nat) (c : Nat) (P : Nat) (k : Nat) (n : Nat) (o : O) (u : Int) (x4 : V) (x8 : V) (x9 : V) (x10 : V) (x11 : V) : Prop
 | mk (s' : Hp) (ps' : List PV) (y8 : V) (y9 : V) (_ : i_law2 [.ref 0, .ref c, .ref p, .ref B.b, x4, .ref P, .int 4, .int u, x8, x9, x10, x11] s = some (.next, [.ref 0, .ref c, .ref p, .ref B.b, x4, .ref P, .int 4, .int u, y8, y9, x10, x11], s')) (_ : Wd s' B p c P (k + 1) n o ps') : lap_news_O s B p c P k n o u x4 x8 x9 x10 x11
theorem lap_news (h : Wd s B p c P k n o ps) (ho : isRaw o) (hk : k ≤ 800) (hn : n ≤ 100) : lap_news_O s B p c P k n o u x4 x8 x9 x10 x11 := by
 obtain ⟨i, x, hx, q1⟩ := pick_st (u := u) (x4 := x4) (x8 := x8) (x9 := x9) (x10 := x10) (x11 := x11) (w := .int 4) h
 obtain ⟨z, s1, e1, _, _, h1⟩ := h.draw (m := 2) ho (om375 hk) (by decide)
 obtain ⟨s', x', e2, h2, _⟩ := news_pair h1 ho hn (decide (z = 0)) hx
 refine ⟨s', ps.set i x', .ref x.1.v, .ref x.2.1, ?_, h2⟩
 have t := eqI (s := s1) z 0 rfl
 unfold i_law2
 rw [sc q1]
 simp only [MSX, e1, t, e2]
inductive lap_silent_O (s : Hp) (B : Bx) (p : Nat) (c : Nat) (P : Nat) (k : Nat) (n : Nat) (o : O) (u : Int) (x4 : V) (x8 : V) (x9 : V) (x10 : V) (x11 : V) : Prop
 | mk (s' : Hp) (ps' : List PV) (y8 : V) (y9 : V) (y10 : V) (y11 : V) (_ : i_law [.ref 0, .ref c, .ref p, .ref B.b, x4, .ref P, .int 5, .int u, x8, x9, x10, x11] s = some (.next, [.ref 0, .ref c, .ref p, .ref B.b, x4, .ref P, .int 5, .int u, y8, y9, y10, y11], s')) (_ : Wd s' B p c P k n o ps') : lap_silent_O s B p c P k n o u x4 x8 x9 x10 x11
theorem lap_silent (h : Wd s B p c P k n o ps) (ho : isRaw o) (hn : n ≤ 100) : lap_silent_O s B p c P k n o u x4 x8 x9 x10 x11 := by
 obtain ⟨i, x, hx, q1⟩ := pick_st (u := u) (x4 := x4) (x8 := x8) (x9 := x9) (x10 := x10) (x11 := x11) (w := .int 5) h
 have hm := List.mem_of_getElem? hx
 have P1 := h.prs x hm
 have hnu := h.wb.nu
 obtain ⟨kv, hrl⟩ := P1.vwok (om381 hn hnu) hnu.1
 have hwl : x.2.2.length = x.1.rs.length := by have := P1.mir.len; simpa [dt] using this
 have e1 := letter_ok h.wb.box h.wb.bok u
 obtain ⟨nm, vd, fr, hb⟩ := h.wb.box.box
 have q2 : (sAsg (meth (isInst 327) (var 3) (consL (var 7) nilL) f_Box_letter) (stA 10)) [.ref 0, .ref c, .ref p, .ref B.b, x4, .ref P, .int 5, .int u, .ref x.1.v, .ref x.2.1, x10, x11] s = some (.next, [.ref 0, .ref c, .ref p, .ref B.b, x4, .ref P, .int 5, .int u, .ref x.1.v, .ref x.2.1, refO (fnd B.ls u), x11], s) := by
  simp only [MSX, hb, e1]
 obtain ⟨s1, e3, X1, v1⟩ := keep_silent_ok (u := u) h.wb.box h.wb.bok P1.vw kv
 have q3 : (sExpr (callL (consL (var 8) (consL (var 7) nilL)) f_keep_silent)) [.ref 0, .ref c, .ref p, .ref B.b, x4, .ref P, .int 5, .int u, .ref x.1.v, .ref x.2.1, refO (fnd B.ls u), x11] s = some (.next, [.ref 0, .ref c, .ref p, .ref B.b, x4, .ref P, .int 5, .int u, .ref x.1.v, .ref x.2.1, refO (fnd B.ls u), x11], s1) := by
  simp only [MSX, e3]
 obtain ⟨offR, offF⟩ := Pair.off P1.vw P1.cp
 have c1 : CpAt s1 x.2.1 x.2.2 := P1.cp.ext X1 (by have := offR x.2.1 (List.mem_cons_self); simp; exact ⟨this.2.1, this.2.2⟩) (fun w hw => ⟨by have := offR w.1 (List.mem_cons_of_mem _ (List.mem_map.mpr ⟨w, hw, rfl⟩)); simp; exact ⟨this.2.1, this.2.2⟩, by have := offF w.2.1 (List.mem_map.mpr ⟨w, hw, rfl⟩); simp; exact ⟨this.2.1, this.2.2⟩⟩)
 have X1' : Ext (ownP x) s s1 := X1.mono (by intro a ha; simp at ha; rcases ha with rfl | rfl <;> simp [ownP, own])
 have ls1 := X1.le
 cases q : fnd B.ls u with
 | none =>
  rw [q] at v1 q2 q3
  obtain ⟨y, e4⟩ := silent_none (s := s1) (u := u) (x0 := .ref 0) (x1 := .ref c) (x2 := .ref p) (x3 := .ref B.b) (x4 := x4) (x5 := .ref P) (x6 := .int 5) (x8 := .ref x.1.v) (y0 := x11) c1 (om254 hrl hwl)
  refine ⟨s1, ps.set i x, .ref x.1.v, .ref x.2.1, .none, y, ?_, h.upd ho hx X1' ⟨v1, c1, P1.mir, P1.srt, P1.ok, P1.kn, P1.ap⟩ rfl rfl (fun a ha => .inl ha) (fun a ha => .inl ha)⟩
  unfold i_law
  rw [sc q1, sc q2, sc q3]
  exact e4
 | some r =>
  rw [q] at v1 q2 q3
  obtain ⟨hr, hru⟩ := fnd_some q
  have dB := h.wb.box.dicts P1.vw.F P1.vw.M
  have hl1 := (h.wb.box.lt r hr).ext X1 (dB.2.2.2 r hr)
  obtain ⟨s2, ws', y, e4, X2, c2, d2, f1, f2⟩ := silent_rows (x0 := .ref 0) (x1 := .ref c) (x2 := .ref p) (x3 := .ref B.b) (x4 := x4) (x5 := .ref P) (x6 := .int 5) (x8 := .ref x.1.v) (y0 := x11) c1 (om254 hrl hwl) hl1 (h.wb.bok.lo r hr).2.2.2 hru
  have vr : VwAt s1 B.b { x.1 with rs := put x.1.rs r.2 } := v1
  have v2 : VwAt s2 B.b { x.1 with rs := put x.1.rs r.2 } := vr.ext X2 (fun cc => (offR _ (List.mem_cons_of_mem _ cc)).1 rfl) (fun cc => P1.ap.UC (List.mem_cons_of_mem _ cc)) (fun cc => (offR _ (List.mem_cons_of_mem _ cc)).2.1 rfl) (fun cc => (offR _ (List.mem_cons_of_mem _ cc)).2.2 rfl)
  have own2 : own { x.1 with rs := put x.1.rs r.2 } x.2.1 ws' = ownP x := by unfold ownP own; rw [f1]
  have P2 : Pair s2 B { x.1 with rs := put x.1.rs r.2 } x.2.1 ws' := by
   refine ⟨v2, c2, by rw [d2]; exact P1.mir.put, by show Srt (us (put x.1.rs r.2)); rw [us_put]; exact P1.srt, fun z hz => ?_, P1.kn.put h.wb.bok hr, ⟨by show x.1.U ∉ _; rw [f1]; exact P1.ap.UC, fun cc => ?_, by rw [own2]; exact P1.ap.box⟩⟩
   ·rcases put_mem hz with ⟨rfl, _⟩ | cc
    ·exact (h.wb.bok.lo r hr).2.2.2
    ·exact P1.ok z cc
   ·obtain ⟨w, hw, e⟩ := List.mem_map.mp cc
    rcases f2 w hw with d | d
    ·exact P1.ap.Uf (by rw [e] at d; exact d)
    ·have : x.1.U < s.length := lt_of_get P1.vw.U
     have e' : w.2.1 = x.1.U := e
     exact om382 ls1 d this e'
  refine ⟨s2, ps.set i ({ x.1 with rs := put x.1.rs r.2 }, x.2.1, ws'), .ref x.1.v, .ref x.2.1, .ref r.1, y, ?_, h.upd (x' := ({ x.1 with rs := put x.1.rs r.2 }, x.2.1, ws')) ho hx (X1'.trans (X2.mono (fun a ha => List.mem_append_right _ (List.mem_cons_of_mem _ ha)))) P2 rfl rfl (fun a ha => .inl (by rw [← own2]; exact ha)) (fun a ha => ?_)⟩
  ·unfold i_law
   rw [sc q1, sc q2, sc q3]
   exact e4
  ·obtain ⟨w, hw, rfl⟩ := List.mem_map.mp ha
   rcases f2 w hw with d | d
   ·exact .inl d
   ·right; exact om3 ls1 d
end
theorem way_cases {w : Int} (h0 : 0 ≤ w) (h6 : w < 6) : w = 0 ∨ w = 1 ∨ w = 2 ∨ w = 3 ∨ w = 4 ∨ w = 5 := by exact om383 h0 h6
inductive lap_ok_O (B : Bx) (p : Nat) (c : Nat) (P : Nat) (k : Nat) (n : Nat) (o : O) (x4 : V) (val : Option (Fl × Mine.Loc × Hp)) : Prop
 | mk (s' : Hp) (B' : Bx) (k' : Nat) (ps' : List PV) (y6 : V) (y7 : V) (y8 : V) (y9 : V) (y10 : V) (y11 : V) (_ : val = some (.next, [.ref 0, .ref c, .ref p, .ref B.b, x4, .ref P, y6, y7, y8, y9, y10, y11], s')) (_ : B'.b = B.b) (_ : Wd s' B' p c P k' (n + 1) o ps') (_ : k' ≤ k + 4) : lap_ok_O B p c P k n o x4 val
theorem lap_ok {s : Hp} {B : Bx} {p c P k n : Nat} {o : O} {ps : List PV} {x4 x6 x7 x8 x9 x10 x11 : V} (h : Wd s B p c P k n o ps) (ho : isRaw o) (hk : k ≤ 700) (hn : n ≤ 89) : lap_ok_O B p c P k n o x4 (b_law3 [.ref 0, .ref c, .ref p, .ref B.b, x4, .ref P, x6, x7, x8, x9, x10, x11] s) := by
 obtain ⟨w, s1, e1, w0, w6, h1⟩ := h.draw (m := 6) ho (om384 hk) (by decide)
 obtain ⟨z, s2, e2, z0, z6, h2⟩ := h1.draw (m := 6) ho (om385 hk) (by decide)
 have q1 : (sAsg (callL (consL (var 2) (consL (cInt 6) nilL)) f_law_draw) (stA 6)) [.ref 0, .ref c, .ref p, .ref B.b, x4, .ref P, x6, x7, x8, x9, x10, x11] s = some (.next, [.ref 0, .ref c, .ref p, .ref B.b, x4, .ref P, .int w, x7, x8, x9, x10, x11], s1) := by
  simp only [MSX, e1]
 have q2 : (sAsg (bin2 opAdd (cInt 1) (callL (consL (var 2) (consL (cInt 6) nilL)) f_law_draw)) (stA 7)) [.ref 0, .ref c, .ref p, .ref B.b, x4, .ref P, .int w, x7, x8, x9, x10, x11] s1 = some (.next, [.ref 0, .ref c, .ref p, .ref B.b, x4, .ref P, .int w, .int (1 + z), x8, x9, x10, x11], s2) := by
  simp only [MSX, e2]
 generalize hu : 1 + z = u at *
 have t0 := eqI (s := s2) w 0 rfl
 have t1 := eqI (s := s2) w 1 rfl
 have t2 := eqI (s := s2) w 2 rfl
 have t3 := eqI (s := s2) w 3 rfl
 have t4 := eqI (s := s2) w 4 rfl
 have t5 := eqI (s := s2) w 5 rfl
 have le := letter_ok h2.wb.box h2.wb.bok u
 obtain ⟨nm, vd, fr, hb⟩ := h2.wb.box.box
 have ni := isNot_refO (o := fnd B.ls u) (σ := s2)
 have lm : (ps.map pairV).length = ps.length := by exact List.length_map _
 have lb : ps.length ≤ big := by have := h.len.2; unfold big; exact om211 this
 unfold b_law3
 rcases way_cases w0 w6 with rfl | rfl | rfl | rfl | rfl | rfl
 ·obtain ⟨s', B', e, hB, W⟩ := lap_add (u := u) (x4 := x4) (x8 := x8) (x9 := x9) (x10 := x10) (x11 := x11) h2 ho (om386 hn)
  refine ⟨s', B', k + 2, ps, .int 0, .int u, x8, x9, x10, x11, ?_, hB, W, om387⟩
  rw [sc q1, sc q2]
  rw [show decide ((0 : Int) = 0) = true from rfl] at t0
  have tt : (tst (bin2 opEq (var 6) (cInt 0))) [.ref 0, .ref c, .ref p, .ref B.b, x4, .ref P, .int 0, .int u, x8, x9, x10, x11] s2 = some (true, s2) := by simp only [MSX, t0]
  rw [if_t tt]
  exact e
 ·rw [show decide ((1 : Int) = 0) = false from rfl] at t0
  rw [show decide ((1 : Int) = 1) = true from rfl] at t1
  rw [show decide ((1 : Int) = 2) = false from rfl] at t2
  rw [show decide ((1 : Int) = 3) = false from rfl] at t3
  rw [show decide ((1 : Int) = 4) = false from rfl] at t4
  rw [show decide ((1 : Int) = 5) = false from rfl] at t5
  have tt0 : (tst (bin2 opEq (var 6) (cInt 0))) [.ref 0, .ref c, .ref p, .ref B.b, x4, .ref P, .int 1, .int u, x8, x9, x10, x11] s2 = some (false, s2) := by simp only [MSX, t0]
  have tt1 : (andT (tst (bin2 opEq (var 6) (cInt 1))) (tst (bin2 opIsNot (meth (isInst 327) (var 3) (consL (var 7) nilL) f_Box_letter) cNone))) [.ref 0, .ref c, .ref p, .ref B.b, x4, .ref P, .int 1, .int u, x8, x9, x10, x11] s2 = some ((fnd B.ls u).isSome, s2) := by
   simp only [nu_r, nu_t, nu_i, cond_true, onBool_c, onRef_c, onIn_c, Option.getD_some, andT, tst, bin2, var, cInt, cNone, meth, isInst, consL, nilL, List.getElem?_cons_succ, List.getElem?_cons_zero, Option.bind_some, Option.map_some, t1, if_true, hb, beq_self_eq_true, le, ni]
  cases q : fnd B.ls u with
  | some r =>
   rw [q] at tt1
   obtain ⟨hr, hru⟩ := fnd_some q
   obtain ⟨s', B', k', e, hB, W, hk'⟩ := lap_set (u := u) (x4 := x4) (x8 := x8) (x9 := x9) (x10 := x10) (x11 := x11) h2 ho (om388 hk) (List.mem_map.mpr ⟨r, hr, hru⟩)
   refine ⟨s', B', k', ps, .int 1, .int u, x8, x9, x10, x11, ?_, hB, W, om389 hk'⟩
   rw [sc q1, sc q2]
   rw [if_f tt0]
   rw [if_t tt1]
   exact e
  | none =>
   rw [q] at tt1
   refine ⟨s2, B, k + 2, ps, .int 1, .int u, x8, x9, x10, x11, ?_, rfl, h2.mono (om205), om387⟩
   rw [sc q1, sc q2]
   rw [if_f tt0]
   rw [if_f tt1]
   simp only [MSX, t2, t3, t4, t5, Option.isSome_none]
 ·rw [show decide ((2 : Int) = 0) = false from rfl] at t0
  rw [show decide ((2 : Int) = 1) = false from rfl] at t1
  rw [show decide ((2 : Int) = 2) = true from rfl] at t2
  obtain ⟨s', B', e, hB, W⟩ := lap_expunge (u := u) (x4 := x4) (x8 := x8) (x9 := x9) (x10 := x10) (x11 := x11) h2 ho (om386 hn)
  refine ⟨s', B', k + 2, ps, .int 2, .int u, x8, x9, x10, x11, ?_, hB, W, om387⟩
  rw [sc q1, sc q2]
  have tt0 : (tst (bin2 opEq (var 6) (cInt 0))) [.ref 0, .ref c, .ref p, .ref B.b, x4, .ref P, .int 2, .int u, x8, x9, x10, x11] s2 = some (false, s2) := by simp only [MSX, t0]
  have tt1 : (andT (tst (bin2 opEq (var 6) (cInt 1))) (tst (bin2 opIsNot (meth (isInst 327) (var 3) (consL (var 7) nilL) f_Box_letter) cNone))) [.ref 0, .ref c, .ref p, .ref B.b, x4, .ref P, .int 2, .int u, x8, x9, x10, x11] s2 = some (false, s2) := by simp only [MSX, t1]
  have tt2 : (tst (bin2 opEq (var 6) (cInt 2))) [.ref 0, .ref c, .ref p, .ref B.b, x4, .ref P, .int 2, .int u, x8, x9, x10, x11] s2 = some (true, s2) := by simp only [MSX, t2]
  rw [if_f tt0]
  rw [if_f tt1]
  rw [if_t tt2]
  exact e
 ·rw [show decide ((3 : Int) = 0) = false from rfl] at t0
  rw [show decide ((3 : Int) = 1) = false from rfl] at t1
  rw [show decide ((3 : Int) = 2) = false from rfl] at t2
  rw [show decide ((3 : Int) = 3) = true from rfl] at t3
  rw [show decide ((3 : Int) = 4) = false from rfl] at t4
  rw [show decide ((3 : Int) = 5) = false from rfl] at t5
  have tt0 : (tst (bin2 opEq (var 6) (cInt 0))) [.ref 0, .ref c, .ref p, .ref B.b, x4, .ref P, .int 3, .int u, x8, x9, x10, x11] s2 = some (false, s2) := by simp only [MSX, t0]
  have tt1 : (andT (tst (bin2 opEq (var 6) (cInt 1))) (tst (bin2 opIsNot (meth (isInst 327) (var 3) (consL (var 7) nilL) f_Box_letter) cNone))) [.ref 0, .ref c, .ref p, .ref B.b, x4, .ref P, .int 3, .int u, x8, x9, x10, x11] s2 = some (false, s2) := by simp only [MSX, t1]
  have tt2 : (tst (bin2 opEq (var 6) (cInt 2))) [.ref 0, .ref c, .ref p, .ref B.b, x4, .ref P, .int 3, .int u, x8, x9, x10, x11] s2 = some (false, s2) := by simp only [MSX, t2]
  have tt3 : (andT (tst (bin2 opEq (var 6) (cInt 3))) (tst (bin2 opLt (callL (consL (var 5) nilL) bLen) (cInt 3)))) [.ref 0, .ref c, .ref p, .ref B.b, x4, .ref P, .int 3, .int u, x8, x9, x10, x11] s2 = some (decide ((ps.length : Int) < 3), s2) := by simp only [MSX, t3, h2.gP, lb]
  by_cases q : ps.length < 3
  ·obtain ⟨s', ps', e, W⟩ := lap_begun (u := u) (x4 := x4) (x8 := x8) (x9 := x9) (x10 := x10) (x11 := x11) h2 ho (om388 hk) q
   refine ⟨s', B, k + 4, ps', .int 3, .int u, x8, x9, x10, x11, ?_, rfl, W.mono (om205), om390⟩
   rw [decide_eq_true (show (ps.length : Int) < 3 by exact om391 q)] at tt3
   rw [sc q1, sc q2]
   rw [if_f tt0]
   rw [if_f tt1]
   rw [if_f tt2]
   rw [if_t tt3]
   exact e
  ·refine ⟨s2, B, k + 2, ps, .int 3, .int u, x8, x9, x10, x11, ?_, rfl, h2.mono (om205), om387⟩
   rw [decide_eq_false (show ¬ (ps.length : Int) < 3 by exact om392 q)] at tt3
   rw [sc q1, sc q2]
   rw [if_f tt0]
   rw [if_f tt1]
   rw [if_f tt2]
   rw [if_f tt3]
   simp only [MSX, t4, t5]
 ·rw [show decide ((4 : Int) = 0) = false from rfl] at t0
  rw [show decide ((4 : Int) = 1) = false from rfl] at t1
  rw [show decide ((4 : Int) = 2) = false from rfl] at t2
  rw [show decide ((4 : Int) = 3) = false from rfl] at t3
  rw [show decide ((4 : Int) = 4) = true from rfl] at t4
  obtain ⟨s', ps', y8, y9, e, W⟩ := lap_news (u := u) (x4 := x4) (x8 := x8) (x9 := x9) (x10 := x10) (x11 := x11) h2 ho (om388 hk) (om393 hn)
  refine ⟨s', B, k + 3, ps', .int 4, .int u, y8, y9, x10, x11, ?_, rfl, W.mono (om205), om394⟩
  rw [sc q1, sc q2]
  have tt0 : (tst (bin2 opEq (var 6) (cInt 0))) [.ref 0, .ref c, .ref p, .ref B.b, x4, .ref P, .int 4, .int u, x8, x9, x10, x11] s2 = some (false, s2) := by simp only [MSX, t0]
  have tt1 : (andT (tst (bin2 opEq (var 6) (cInt 1))) (tst (bin2 opIsNot (meth (isInst 327) (var 3) (consL (var 7) nilL) f_Box_letter) cNone))) [.ref 0, .ref c, .ref p, .ref B.b, x4, .ref P, .int 4, .int u, x8, x9, x10, x11] s2 = some (false, s2) := by simp only [MSX, t1]
  have tt2 : (tst (bin2 opEq (var 6) (cInt 2))) [.ref 0, .ref c, .ref p, .ref B.b, x4, .ref P, .int 4, .int u, x8, x9, x10, x11] s2 = some (false, s2) := by simp only [MSX, t2]
  have tt3 : (andT (tst (bin2 opEq (var 6) (cInt 3))) (tst (bin2 opLt (callL (consL (var 5) nilL) bLen) (cInt 3)))) [.ref 0, .ref c, .ref p, .ref B.b, x4, .ref P, .int 4, .int u, x8, x9, x10, x11] s2 = some (false, s2) := by simp only [MSX, t3]
  have tt4 : (tst (bin2 opEq (var 6) (cInt 4))) [.ref 0, .ref c, .ref p, .ref B.b, x4, .ref P, .int 4, .int u, x8, x9, x10, x11] s2 = some (true, s2) := by simp only [MSX, t4]
  rw [if_f tt0]
  rw [if_f tt1]
  rw [if_f tt2]
  rw [if_f tt3]
  rw [if_t tt4]
  exact e
 ·rw [show decide ((5 : Int) = 0) = false from rfl] at t0
  rw [show decide ((5 : Int) = 1) = false from rfl] at t1
  rw [show decide ((5 : Int) = 2) = false from rfl] at t2
  rw [show decide ((5 : Int) = 3) = false from rfl] at t3
  rw [show decide ((5 : Int) = 4) = false from rfl] at t4
  rw [show decide ((5 : Int) = 5) = true from rfl] at t5
  obtain ⟨s', ps', y8, y9, y10, y11, e, W⟩ := lap_silent (u := u) (x4 := x4) (x8 := x8) (x9 := x9) (x10 := x10) (x11 := x11) h2 ho (om393 hn)
  refine ⟨s', B, k + 2, ps', .int 5, .int u, y8, y9, y10, y11, ?_, rfl, W.mono (om205), om387⟩
  rw [sc q1, sc q2]
  have tt0 : (tst (bin2 opEq (var 6) (cInt 0))) [.ref 0, .ref c, .ref p, .ref B.b, x4, .ref P, .int 5, .int u, x8, x9, x10, x11] s2 = some (false, s2) := by simp only [MSX, t0]
  have tt1 : (andT (tst (bin2 opEq (var 6) (cInt 1))) (tst (bin2 opIsNot (meth (isInst 327) (var 3) (consL (var 7) nilL) f_Box_letter) cNone))) [.ref 0, .ref c, .ref p, .ref B.b, x4, .ref P, .int 5, .int u, x8, x9, x10, x11] s2 = some (false, s2) := by simp only [MSX, t1]
  have tt2 : (tst (bin2 opEq (var 6) (cInt 2))) [.ref 0, .ref c, .ref p, .ref B.b, x4, .ref P, .int 5, .int u, x8, x9, x10, x11] s2 = some (false, s2) := by simp only [MSX, t2]
  have tt3 : (andT (tst (bin2 opEq (var 6) (cInt 3))) (tst (bin2 opLt (callL (consL (var 5) nilL) bLen) (cInt 3)))) [.ref 0, .ref c, .ref p, .ref B.b, x4, .ref P, .int 5, .int u, x8, x9, x10, x11] s2 = some (false, s2) := by simp only [MSX, t3]
  have tt4 : (tst (bin2 opEq (var 6) (cInt 4))) [.ref 0, .ref c, .ref p, .ref B.b, x4, .ref P, .int 5, .int u, x8, x9, x10, x11] s2 = some (false, s2) := by simp only [MSX, t4]
  have tt5 : (tst (bin2 opEq (var 6) (cInt 5))) [.ref 0, .ref c, .ref p, .ref B.b, x4, .ref P, .int 5, .int u, x8, x9, x10, x11] s2 = some (true, s2) := by simp only [MSX, t5]
  rw [if_f tt0]
  rw [if_f tt1]
  rw [if_f tt2]
  rw [if_f tt3]
  rw [if_f tt4]
  rw [if_t tt5]
  exact e
inductive first_add_O (s : Hp) (B : Bx) (p : Nat) (c : Nat) (k : Nat) (n : Nat) (o : O) (x0 : V) (x1 : V) (x4 : V) (x5 : V) (x6 : V) (x7 : V) (x8 : V) (x9 : V) (x10 : V) (x11 : V) : Prop
 | mk (s' : Hp) (B' : Bx) (_ : b_law [x0, x1, .ref p, .ref B.b, x4, x5, x6, x7, x8, x9, x10, x11] s = some (.next, [x0, x1, .ref p, .ref B.b, x4, x5, x6, x7, x8, x9, x10, x11], s')) (_ : B'.b = B.b) (_ : Wb s' B' p c (k + 1) (n + 1) o) : first_add_O s B p c k n o x0 x1 x4 x5 x6 x7 x8 x9 x10 x11
theorem first_add {s : Hp} {B : Bx} {p c k n : Nat} {o : O} {x0 x1 x4 x5 x6 x7 x8 x9 x10 x11 : V} (h : Wb s B p c k n o) (ho : isRaw o) (hk : k ≤ 800) (hn : n ≤ 90) : first_add_O s B p c k n o x0 x1 x4 x5 x6 x7 x8 x9 x10 x11 := by
 have h1 := h.ext0 (Ext.app s [O.list (menu.map fv)])
 obtain ⟨z, s2, e2, z0, z5, X2, h2⟩ := h1.draw (m := 5) ho (om375 hk) (by decide)
 have hps := h.pen.pen.lt
 have m2 := X2.get _ _ (new_get s (O.list (menu.map fv))) (by simp; exact om183 hps)
 obtain ⟨fl, hf, e1⟩ := flags_at m2 z0 z5
 obtain ⟨v, s', B', e, X, st, W⟩ := h2.add (oc := #[120]) (ins := 5) ho hf hn
 refine ⟨s', B', ?_, st.b, W⟩
 simp only [b_law, MSX, law_flags_ok, e2, e1, e]
theorem Wd.start {s s' : Hp} {B : Bx} {p c k k' n : Nat} {o : O} {x : PV} (h : Wb s B p c k n o) (ho : isRaw o) (X : Ext [p] s s') (hk : PenAt s' p c k') (hp : Pair s' B x.1 x.2.1 x.2.2) (h1 : ∀ a ∈ ownP x, s.length ≤ a) (h2 : ∀ a ∈ flP x, s.length ≤ a) :
  Wd (s' ++ [O.list [pairV x]]) B p c s'.length k' n o [x] := by
 obtain ⟨a1, a2, a3, a4, a5, a6, a7, a8⟩ := h.off ho
 have bp := h.pen.pen.lt
 have bc := h.pen.cells.lt
 obtain ⟨bb, bL, bG, bl⟩ := h.box.ltb
 have ls := X.le
 have wb1 : Wb s' B p c k' n o := ⟨h.box.ext X (by simpa using a1.symm) (by simpa using h.pL.symm) (by simpa using h.pG.symm) (fun q hq => by simpa using (a3 q hq).1), h.bok, h.bgl, h.nu, h.top, hk, h.pL, h.pG, h.cL, X.get _ _ h.scr (by simpa using a4.symm)⟩
 have X2 : Ext [] s' (s' ++ [O.list [pairV x]]) := Ext.app _ _
 have lt := hp.lt
 refine ⟨wb1.ext0 X2, new_get _ _, fun y hy => ?_, fun i j y z hij hi hj => ?_, fun y hy => ?_, ⟨om395 bp ls, om395 bc ls, om395 bL ls, om395 bG ls⟩, by simp⟩
 ·rw [List.mem_singleton.mp hy]; exact hp.ext X2 (fun _ _ => List.not_mem_nil) (fun _ _ => List.not_mem_nil)
 ·have := (List.getElem?_eq_some_iff.mp hi).1
  have := (List.getElem?_eq_some_iff.mp hj).1
  simp at *; exact (om396 hij (by assumption) this).elim
 ·rw [List.mem_singleton.mp hy]
  refine ⟨fun a ha c => ?_, fun a ha c => ?_⟩
  ·have := h1 a c; have := lt.1 a c; simp at ha; exact om397 bp bc (by assumption) this ha
  ·have := h2 a c; have := lt.2 a c; simp at ha; exact om398 bp bL (by assumption) this ha
theorem vints_map (is : List Int) : vints (vI is) = some is := by
 induction is with
 | nil => rfl
 | cons i is ih =>
  have e : vI (i :: is) = V.int i :: vI is := rfl
  rw [e]; unfold vints; rw [ih]; rfl
inductive LI (P : Nat) (o : O) (i : Nat) (ρ : Loc) (t : Hp) : Prop
 | mk (x4 : V) (x6 : V) (x7 : V) (x8 : V) (x9 : V) (x10 : V) (x11 : V) (B : Bx) (k : Nat) (ps : List PV) (_ : ρ = [.ref 0, .ref 2, .ref 3, .ref 4, x4, .ref P, x6, x7, x8, x9, x10, x11]) (_ : B.b = 4) (_ : Wd t B 3 2 P k (10 + i) o ps) (_ : k ≤ 20 + 4 * i) : LI P o i ρ t
theorem law_ok (ob : Obj) (ns : List Int) (hl : ns.length ≤ 63) : ∃ σ', f_law [.ref 0] [O.raw ob (ns.map V.int)] = some (.bool true, σ') ∧ σ'[0]? = some (O.raw ob (ns.map V.int)) := by
 generalize ho' : O.raw ob (ns.map V.int) = o
 have ho : isRaw o := ⟨ob, ns.map V.int, ho'.symm⟩
 have c0 : ([o] : Hp)[0]? = some o := rfl
 generalize hcs : (ns.take 60).map (fun v => Int.fmod v 1000003) = cs
 have csl : cs.length ≤ 60 := by rw [← hcs]; simp; exact om399
 have csb : ∀ v ∈ cs, 0 ≤ v ∧ v < 1000003 := by
  rw [← hcs]; intro v hv
  obtain ⟨w, _, rfl⟩ := List.mem_map.mp hv
  exact fmod_in (by decide)
 have e1 : c_law [.ref 0, .undef, .undef, .undef, .undef, .undef, .undef, .undef, .undef, .undef, .undef, .undef] [o] = some (.ref 2, [o, O.list (vI (ns.take 60)), O.list (vI cs)]) := by
  have to : opTo (.ref 0) (.int 60) [o] = some (.ref 1, [o, O.list (vI (ns.take 60))]) := by
   unfold opTo lst2
   rw [← ho']
   simp only [onInt_c, onRef_c, oc_w, oc_l, List.getElem?_cons_zero, Option.bind_some]
   rw [if_pos ⟨om400, om401, by simp [big]; exact om402 hl⟩]
   simp [vI, List.map_take]
  have := comp_all (mk := mkV (bin2 opTo (var 0) (cInt 60))) (src := .list 1) (σ := [o, O.list (vI (ns.take 60))]) (σ0 := [o]) (caps := []) (cv := []) (e := bin2 opMod (callL (consL (var 0) nilL) bInt) (cInt 1000003)) (ρ := [.ref 0, .undef, .undef, .undef, .undef, .undef, .undef, .undef, .undef, .undef, .undef, .undef]) (xs := ns.take 60) (g := V.int) (N := 1000) (fun v => V.int (Int.fmod v 1000003))
   (by simp only [MSX, to]) (fun i => nxt_list rfl i) (by simp; exact om403) rfl (by
    intro v hv
    have z : (1000003 : Int) ≠ 0 := by decide
    simp only [bInt, vc_i, MSX, z, ne_eq])
  rw [show vI cs = (ns.take 60).map (fun v => V.int (Int.fmod v 1000003)) by rw [← hcs, vI, List.map_map]; rfl]
  exact this
 have q1 : (sAsg c_law (stA 1)) [.ref 0, .undef, .undef, .undef, .undef, .undef, .undef, .undef, .undef, .undef, .undef, .undef] [o] = some (.next, [.ref 0, .ref 2, .undef, .undef, .undef, .undef, .undef, .undef, .undef, .undef, .undef, .undef], [o, O.list (vI (ns.take 60)), O.list (vI cs)]) := by
  unfold sAsg; rw [e1]; rfl
 have sm : bSum [.ref 2] [o, O.list (vI (ns.take 60)), O.list (vI cs)] = some (.int cs.sum, [o, O.list (vI (ns.take 60)), O.list (vI cs)]) := by
  unfold bSum; rw [arg1_c, onRef_c, lst_of (xs := vI cs) rfl, Option.bind_some, vints_map, Option.bind_some]
  have sml : cs.all small = true := by
   rw [List.all_eq_true]; intro v hv
   have := csb v hv
   unfold small; simp only [Bool.and_eq_true, decide_eq_true_eq]; exact om404 this
  rw [if_pos ⟨by simp [vI]; exact om405 csl, sml⟩]
 have z997 : (997 : Int) ≠ 0 := by decide
 have q2 : (sAsg (mkList (consL (var 1) (consL (cInt 0) (consL (bin2 opMod (callL (consL (var 1) nilL) bSum) (cInt 997)) nilL)))) (stA 2)) [.ref 0, .ref 2, .undef, .undef, .undef, .undef, .undef, .undef, .undef, .undef, .undef, .undef] [o, O.list (vI (ns.take 60)), O.list (vI cs)] = some (.next, [.ref 0, .ref 2, .ref 3, .undef, .undef, .undef, .undef, .undef, .undef, .undef, .undef, .undef], [o, O.list (vI (ns.take 60)), O.list (vI cs), O.list [.ref 2, .int 0, .int (Int.fmod cs.sum 997)]]) := by
  simp only [MSX, sm, z997, ne_eq]
 generalize hs3 : [o, O.list (vI (ns.take 60)), O.list (vI cs), O.list [.ref 2, .int 0, .int (Int.fmod cs.sum 997)]] = s3 at *
 have l3 : List.length s3 = 4 := by rw [← hs3]; rfl
 have pen3 : PenAt s3 3 2 0 := by rw [← hs3]; exact ⟨⟨_, rfl⟩, ⟨cs, rfl, om406 csl⟩, by decide⟩
 obtain ⟨s4, e4, X4, hB4⟩ := box_ok (σ := s3)
 rw [l3] at e4 hB4
 have q3 : (sAsg (callL (consL (cStr (Str.ofString "b")) (consL (cInt 1) nilL)) (mkInst 327 f_Box_init)) (stA 3)) [.ref 0, .ref 2, .ref 3, .undef, .undef, .undef, .undef, .undef, .undef, .undef, .undef, .undef] s3 = some (.next, [.ref 0, .ref 2, .ref 3, .ref 4, .undef, .undef, .undef, .undef, .undef, .undef, .undef, .undef], s4) := by
  simp only [MSX, e4]
 have sc3 : s3[0]? = some o := by rw [← hs3]; rfl
 have W4 : Wb s4 ⟨4, 5, 6, [], 1, 1⟩ 3 2 0 1 o := ⟨hB4, ⟨by simp [keys, Srt], by simp, by simp⟩, by decide, by simp, by simp, pen3.ext0 X4, by decide, by decide, by decide, X4.get _ _ sc3 (List.not_mem_nil)⟩
 obtain ⟨z, s5, e5, z0, z4, X5, W5⟩ := W4.draw (m := 4) ho (om407) (by decide)
 obtain ⟨zn, rfl⟩ : ∃ zn : Nat, z = zn := ⟨z.toNat, om311 z0⟩
 have key1 := for_list (src := .range 0 (zn : Int)) (a := stA 4) (f := b_law) (xs := (List.range zn).map fun (j : Nat) => V.int (j : Int)) (N := 1000) (ρ := [.ref 0, .ref 2, .ref 3, .ref 4, .undef, .undef, .undef, .undef, .undef, .undef, .undef, .undef]) (σ := s5)
  (fun i ρ t => ∃ x4 B, ρ = [.ref 0, .ref 2, .ref 3, .ref 4, x4, .undef, .undef, .undef, .undef, .undef, .undef, .undef] ∧ B.b = 4 ∧ Wb t B 3 2 (1 + i) (1 + i) o)
  (by simp; exact om408 z4) ⟨.undef, _, rfl, rfl, W5⟩ (fun i ρ t _ _ => nxt_range (om409 z4)) (by
   rintro i x ρ t hx ⟨x4, B, rfl, hb, W⟩
   have hil : i < zn := by have := (List.getElem?_eq_some_iff.mp hx).1; simpa using this
   obtain ⟨s', B', e, hb', W'⟩ := first_add (x0 := .ref 0) (x1 := .ref 2) (x4 := x) (x5 := .undef) (x6 := .undef) (x7 := .undef) (x8 := .undef) (x9 := .undef) (x10 := .undef) (x11 := .undef) W ho (om410 z4 hil) (om411 z4 hil)
   rw [hb] at e
   exact ⟨[.ref 0, .ref 2, .ref 3, .ref 4, x, .undef, .undef, .undef, .undef, .undef, .undef, .undef], t, _, s', rfl, e, x, B', rfl, hb'.trans hb, W'⟩)
 obtain ⟨ρ6, s6, e6, x4, B6, rfl, hb6, W6⟩ := key1
 simp only [List.length_map, List.length_range] at W6
 have q4 : l_law [.ref 0, .ref 2, .ref 3, .ref 4, .undef, .undef, .undef, .undef, .undef, .undef, .undef, .undef] s4 = some (.next, [.ref 0, .ref 2, .ref 3, .ref 4, x4, .undef, .undef, .undef, .undef, .undef, .undef, .undef], s6) := by
  have m : (mkR1 (callL (consL (var 2) (consL (cInt 4) nilL)) f_law_draw)) [.ref 0, .ref 2, .ref 3, .ref 4, .undef, .undef, .undef, .undef, .undef, .undef, .undef, .undef] s4 = some (.range 0 (zn : Int), s5) := by
   have b1 : (-1000000000 : Int) ≤ (zn : Int) ∧ (zn : Int) ≤ 1000000000 := by exact om412 z4
   simp only [MSX, e5, b1]
  unfold l_law sFor
  rw [m]; exact e6
 obtain ⟨x, s7, e7, X7, pn7, P7, o7, f7⟩ := begun_pair W6 ho (om413 z4)
 rw [hb6] at e7
 have W8 := Wd.start W6 ho X7 pn7 P7 o7 f7
 have q5 : (sAsg (mkList (consL (callL (consL (var 2) (consL (var 3) nilL)) f_law_begun) nilL)) (stA 5)) [.ref 0, .ref 2, .ref 3, .ref 4, x4, .undef, .undef, .undef, .undef, .undef, .undef, .undef] s6 = some (.next, [.ref 0, .ref 2, .ref 3, .ref 4, x4, .ref s7.length, .undef, .undef, .undef, .undef, .undef, .undef], s7 ++ [O.list [pairV x]]) := by
  simp only [MSX, e7]
 generalize hP : s7.length = P at *
 generalize hs8 : s7 ++ [O.list [pairV x]] = s8 at *
 obtain ⟨y, s9, e9, y0, y13, W9⟩ := W8.draw (m := 13) ho (om414 z4) (by decide)
 obtain ⟨yn, rfl⟩ : ∃ yn : Nat, y = yn := ⟨y.toNat, om311 y0⟩
 have key2 := for_list (src := .range 0 (yn : Int)) (a := stA 4) (f := b_law3) (xs := (List.range yn).map fun (j : Nat) => V.int (j : Int)) (N := 1000) (ρ := [.ref 0, .ref 2, .ref 3, .ref 4, x4, .ref P, .undef, .undef, .undef, .undef, .undef, .undef]) (σ := s9)
  (fun i ρ t => LI P o i ρ t)
  (by simp; exact om415 y13) ⟨x4, _, _, _, _, _, _, B6, _, _, rfl, hb6, W9.mono (om416 z4), om417 z4⟩ (fun i ρ t _ _ => nxt_range (om418 y13)) (by
   rintro i x ρ t hx ⟨x4, x6, x7, x8, x9, x10, x11, B, k, ps, rfl, hb, W, hk⟩
   have hil : i < yn := by have := (List.getElem?_eq_some_iff.mp hx).1; simpa using this
   obtain ⟨s', B', k', ps', y6, y7, y8, y9, y10, y11, e, hb', W', hk'⟩ := lap_ok (x4 := x) (x6 := x6) (x7 := x7) (x8 := x8) (x9 := x9) (x10 := x10) (x11 := x11) W ho (om419 y13 hk hil) (om420 y13 hil)
   rw [hb] at e
   exact ⟨[.ref 0, .ref 2, .ref 3, .ref 4, x, .ref P, x6, x7, x8, x9, x10, x11], t, _, s', rfl, e, x, y6, y7, y8, y9, y10, y11, B', k', ps', rfl, hb'.trans hb, W', om421 hk hk'⟩)
 obtain ⟨ρ10, s10, e10, x4', x6, x7, x8, x9, x10, x11, B10, k10, ps, rfl, hb10, W10, hk10⟩ := key2
 simp only [List.length_map, List.length_range] at W10 hk10
 have q6 : l_law3 [.ref 0, .ref 2, .ref 3, .ref 4, x4, .ref P, .undef, .undef, .undef, .undef, .undef, .undef] s8 = some (.next, [.ref 0, .ref 2, .ref 3, .ref 4, x4', .ref P, x6, x7, x8, x9, x10, x11], s10) := by
  have m : (mkR1 (callL (consL (var 2) (consL (cInt 13) nilL)) f_law_draw)) [.ref 0, .ref 2, .ref 3, .ref 4, x4, .ref P, .undef, .undef, .undef, .undef, .undef, .undef] s8 = some (.range 0 (yn : Int), s9) := by
   have b1 : (-1000000000 : Int) ≤ (yn : Int) ∧ (yn : Int) ≤ 1000000000 := by exact om422 y13
   simp only [MSX, e9, b1]
  unfold l_law3 sFor
  rw [m]; exact e10
 have hlen := W10.len
 have key3 := for_list (src := .list P) (a := asg2 (stA 8) (stA 9)) (f := b_law4) (xs := ps.map pairV) (N := 1000) (ρ := [.ref 0, .ref 2, .ref 3, .ref 4, x4', .ref P, x6, x7, x8, x9, x10, x11]) (σ := s10)
  (fun i ρ t => ∃ x8 x9 qs, ρ = [.ref 0, .ref 2, .ref 3, .ref 4, x4', .ref P, x6, x7, x8, x9, x10, x11] ∧ Wd t B10 3 2 P k10 (10 + yn) o qs ∧ qs.map pairV = ps.map pairV)
  (by simp; exact om423 hlen) ⟨_, _, ps, rfl, W10, rfl⟩ (fun i ρ t _ ⟨_, _, qs, _, W, e⟩ => by rw [← e]; exact nxt_list W.gP i) (by
   rintro i v ρ t hx ⟨x8, x9, qs, rfl, W, hq⟩
   rw [← hq] at hx
   obtain ⟨z, hz, rfl⟩ : ∃ z : PV, qs[i]? = some z ∧ v = pairV z := by
    simp only [List.getElem?_map, Option.map_eq_some_iff] at hx
    obtain ⟨z, a, b⟩ := hx; exact ⟨z, a, b.symm⟩
   obtain ⟨s', z', e, W', hz'⟩ := news_pair W ho (om424 y13) true hz
   rw [hb10] at e
   refine ⟨[.ref 0, .ref 2, .ref 3, .ref 4, x4', .ref P, x6, x7, .ref z.1.v, .ref z.2.1, x10, x11], t, [.ref 0, .ref 2, .ref 3, .ref 4, x4', .ref P, x6, x7, .ref z.1.v, .ref z.2.1, x10, x11], s', rfl, ?_, _, _, qs.set i z', rfl, W', ?_⟩
   ·simp only [b_law4, MSX, e]
   ·rw [← hq, List.map_set, hz']
    have hil := (List.getElem?_eq_some_iff.mp hz).1
    apply List.ext_getElem?
    intro j
    by_cases q : i = j
    ·subst q; rw [List.getElem?_set_self (by simpa using hil), List.getElem?_map, hz]; rfl
    ·rw [List.getElem?_set_ne q])
 obtain ⟨ρ11, s11, e11, y8, y9, qs, rfl, W11, _⟩ := key3
 have q7 : l_law4 [.ref 0, .ref 2, .ref 3, .ref 4, x4', .ref P, x6, x7, x8, x9, x10, x11] s10 = some (.next, [.ref 0, .ref 2, .ref 3, .ref 4, x4', .ref P, x6, x7, y8, y9, x10, x11], s11) := by
  have m : (mkV (var 5)) [.ref 0, .ref 2, .ref 3, .ref 4, x4', .ref P, x6, x7, x8, x9, x10, x11] s10 = some (.list P, s10) := by simp only [MSX, W10.gP]
  unfold l_law4 sFor
  rw [m]; exact e11
 refine ⟨s11, ?_, W11.wb.scr⟩
 unfold f_law runF
 simp only [List.length_cons, List.length_nil, Nat.reduceAdd, if_true, List.replicate_succ, List.replicate_zero, List.cons_append, List.nil_append]
 rw [f_law_body, sc q1, sc q2, sc q3, sc q4, sc q5, sc q6, sc q7]
 rfl
end
section
open PySem PySem.W PyProof.Rows PySem.Calls
noncomputable def erase (h : Heap) (a : Addr) : Heap := h.update a fun o => { o with data := .freed }
theorem erase_other {h : Heap} {a b : Addr} (hab : b ≠ a) : (erase h a).get? b = h.get? b := Heap.get?_update_other h _ (Ne.symm hab)
theorem erase_self (h : Heap) (a : Addr) : (erase h a).get? a = none := by
 obtain ⟨objs, l⟩ := h
 unfold erase Heap.update Heap.get?
 simp only [Array.getElem?_modify, if_true]
 cases q : objs[a]? with
 | none => simp
 | some o => simp
theorem erase_sub {h : Heap} {a b : Addr} {o : Obj} (e : (erase h a).get? b = some o) : b ≠ a ∧ h.get? b = some o := by
 by_cases q : b = a
 ·subst q; rw [erase_self] at e; cases e
 ·exact ⟨q, by rw [erase_other q] at e; exact e⟩
theorem erase_ns {h : Heap} {a x : Addr} {m : Str → Option Value} {items : Array Value} (hn : h.Ns x m) (hl : h.IsList a items) : (erase h a).Ns x m := by
 obtain ⟨o, es, ep, ho, hd, r⟩ := hn
 have : x ≠ a := by
  intro q; subst q
  obtain ⟨o', ho', _, n, hd'⟩ := hl
  rw [ho] at ho'; cases ho'
  rw [hd] at hd'; cases hd'
 exact ⟨o, es, ep, by rw [erase_other this]; exact ho, hd, r⟩
theorem erase_in {K : Frag} {h : Heap} {a : Addr} {items : Array Value} (X : K.In h) (hl : h.IsList a items) (hk : K.all (fun p => notList p.2) = true) : K.In (erase h a) := by
 intro b o e
 have hb := X b o e
 have hm : (b, o) ∈ K := PySem.W.mem_of_lookupK e
 have hn : notList o = true := List.all_eq_true.mp hk _ hm
 have : b ≠ a := by
  intro q; subst q
  obtain ⟨o', ho', hc, _⟩ := hl
  rw [hb] at ho'; cases ho'
  unfold notList at hn
  rw [hc] at hn
  simp at hn
 rw [erase_other this]; exact hb
theorem ints_VRL {φ : Phi} {h : Heap} {vs : List Value} {ns : List Int} (hI : IntsAre vs ns) : VRL φ h (ns.map V.int) vs := by
 induction hI with
 | nil => exact VRL.nil
 | cons => exact VRL.cons (by unfold VR; exact ⟨_, rfl⟩) (by assumption)
theorem law_run {w : World} {h0 h1 : Heap} {mg mb : Str → Option Value} {a fa : Addr} {cd : Value} {name : Str} {vs : List Value} {ns : List Int} {K : Frag} (KX : K.In h0) (FK : KF K) (g : h0.Ns mainGlobals mg) (b : h0.Ns builtinsNs mb) (lim : h0.NoLimit)
  (mbs : ∀ x : Str, x ≠ "__name__" → mb x = bootBuiltins x) (hL : h0.IsList a vs.toArray) (hI : IntsAre vs ns) (hl : ns.length ≤ 63) {m : Str → Option Value} (F : Fr h0 h0.objs.size h1 m) (hm : m (Str.ofString "script") = some (.ref a))
  {s : Shared} (hs : s.heap = h1) {Q : Flow → Shared → Prop} {E : Value → Shared → Prop}
  (k : ∀ h' t', (∀ b o, h0.get? b = some o → h'.get? b = some o) → Q (.ret (.bool true)) { s with heap := h', toks := t' }) :
  wpAny (model PySem.Challenge.pw_no0379_01 w) (callerA.deeper (envOf name (scopeS (atS main 44)) h0.objs.size fa cd)) (execs (bodyS (atS main 44)) (envOf name (scopeS (atS main 44)) h0.objs.size fa cd)) Q E s := by
 subst hs
 obtain ⟨o, ho, hcls, n, hdata⟩ := id hL
 obtain ⟨σ', e, e0⟩ := law_ok o ns hl
 unfold f_law runF at e
 rw [if_pos (show [V.ref 0].length = 1 from rfl)] at e
 obtain ⟨⟨fl, ρ', σ2⟩, e1, e2⟩ := Option.map_eq_some_iff.mp e
 have al : a < h0.objs.size := Heap.lt_size ho
 have sub : ∀ b o, (erase h0 a).get? b = some o → s.heap.get? b = some o := fun b o q => F.keep b o (erase_sub q).2
 have hbs : (erase h0 a).get? h0.objs.size = none := by
  cases q : (erase h0 a).get? h0.objs.size with
  | none => rfl
  | some o => exact absurd (Heap.lt_size (erase_sub q).2) (Nat.lt_irrefl _)
 have lim' : (erase h0 a).NoLimit := by
  obtain ⟨mc, h1, h2⟩ := lim
  exact ⟨mc, erase_ns h1 hL, h2⟩
 let c : Cx := { prog := PySem.Challenge.pw_no0379_01, w := w, K := K, flds := flds0, hb := erase h0 a, mg := mg, mb := mb, kin := erase_in KX hL FK.noList, g := erase_ns g hL, b := erase_ns b hL, lim := lim', mbs := mbs }
 have fr : Frame c.hb (nmS ["script"] ++ nmS ["cells", "pen", "box", "lap", "pairs", "way", "uid", "view", "copy", "letter", "row"])
   (envOf name (scopeS (atS main 44)) h0.objs.size fa cd) [(a, a)] ([V.ref 0] ++ List.replicate 11 V.undef) s.heap := by
  have nocell : ∀ x : Str, (scopeS (atS main 44)).names.lookup x ≠ some .cell := by
   intro x q
   have : ∀ p ∈ (scopeS (atS main 44)).names, p.2 ≠ .cell := by decide +kernel
   exact this _ (mem_of_lookup q) rfl
  have FAl : ∀ b, FA (envOf name (scopeS (atS main 44)) h0.objs.size fa cd) b → b = h0.objs.size := by
   intro b w
   rcases w with q | ⟨x, hx⟩
   ·exact q
   ·cases hx
  refine ⟨by show (scopeS (atS main 44)).kind = .function; decide +kernel, rfl, rfl, ⟨m, F.ns, fun i x v h1 h2 h3 h4 => ?_⟩, fun x b hx => (by cases hx), fun i x b v _ _ _ _ hx => (by cases hx), fun x hx => absurd hx (nocell x), List.Pairwise.nil, fun x b hx => (by cases hx), fun b w t => ?_, fun b w => ?_⟩
  ·cases i with
   | zero =>
    simp at h1 h2
    subst h1 h2
    exact ⟨.ref a, hm, by unfold VR; exact ⟨a, a, rfl, rfl⟩⟩
   | succ i =>
    exfalso
    rw [List.getElem?_append_right (by simp)] at h2
    have := List.mem_of_getElem? h2
    exact h3 (List.eq_of_mem_replicate this)
  ·have g1 := FAl b w
   obtain ⟨p, hp, q⟩ := t
   rw [List.mem_singleton.mp hp] at q
   have g2 : b = a := by rcases q with q | q <;> exact q
   exact absurd al (by rw [← g2, g1]; exact Nat.lt_irrefl _)
  ·rw [FAl b w]; exact hbs
 have rl : c.R [(a, a)] [O.raw o (ns.map V.int)] s.heap := by
  refine ⟨rfl, List.pairwise_singleton _ _, fun i ob p h1 h2 => ?_, sub, fun b t => ?_, fun b t => ?_⟩
  ·cases i with
   | zero =>
    simp at h1 h2
    subst h1 h2
    exact ⟨rfl, F.keep _ _ ho, vs, ⟨o, F.keep _ _ ho, hcls, n, hdata⟩, ints_VRL hI⟩
   | succ i => simp at h1
  ·obtain ⟨p, hp, q⟩ := t
   rw [List.mem_singleton.mp hp] at q
   have : b = a := by rcases q with q | q <;> exact q
   subst this; exact erase_self _ _
  ·obtain ⟨p, hp, q⟩ := t
   rw [List.mem_singleton.mp hp] at q
   have : b = a := by rcases q with q | q <;> exact q
   subst this; exact ⟨o, F.keep _ _ ho⟩
 have room : Room 6 (callerA.deeper (envOf name (scopeS (atS main 44)) h0.objs.size fa cd)) := ⟨rfl, by show callerA.depth + 1 + 2 * 6 ≤ 900; decide, by show callerA.units + 3 + 8 * 6 ≤ 9000; decide⟩
 have hfl : fl = .ret (.bool true) ∧ σ2 = σ' := by
  have := Prod.mk.inj e2
  refine ⟨?_, this.2⟩
  cases fl with
  | next => cases this.1
  | ret v => exact congrArg Fl.ret this.1
 obtain ⟨rfl, rfl⟩ := hfl
 refine sb_law ⟨c, FK, rfl⟩ _ _ [(a, a)] _ [O.raw o (ns.map V.int)] s _ ρ' σ2 Q E rfl room fr rl e1 ?_
 intro φ' h' t' fl' S R F' hfr
 obtain ⟨v', rfl, hv⟩ := hfr
 unfold VR at hv
 subst hv
 refine k h' t' fun b ob hb => ?_
 by_cases q : b = a
 ·subst q
  obtain ⟨t, rfl⟩ := S.ext
  have hp : ([(b, b)] ++ t : Phi)[0]? = some (b, b) := rfl
  obtain ⟨_, g', _⟩ := R.objs 0 _ _ e0 hp
  rw [ho] at hb; cases hb
  exact g'
 ·exact R.base b ob (by show (erase h0 a).get? b = some ob; rw [erase_other q]; exact hb)
end
theorem tp:True:=⟨⟩
namespace top
theorem tw1638113669730673903:True:=tp
theorem tw1676862907878916244:True:=tp
theorem tw3776753064480771068:True:=tp
theorem tw5523086135645875356:True:=tp
theorem tw620129878449983639:True:=tp
theorem tw7855079511596107753:True:=tp
theorem tw8345894832289464959:True:=tp
theorem tw9382581127745807760:True:=tp
theorem tw9614876229902214918:True:=tp
theorem tw9739860059890490050:True:=tp
theorem tw9378254376102152143:True:=tp
theorem tw12318557346453588183:True:=tp
theorem tw16123964013534891561:True:=tp
theorem tw453181688931711583:True:=tp
theorem tw1195175773429642966:True:=tp
theorem tw1617357707322924660:True:=tp
theorem tw6211089042160764376:True:=tp
theorem tw16878204669230926818:True:=tp
theorem tw1047907039808853306:True:=tp
theorem tw14608685727046917156:True:=tp
theorem tw15361541807878343388:True:=tp
theorem tw4498253355057717688:True:=tp
theorem tw3561193834555079511:True:=tp
theorem tw11430207588045935325:True:=tp
theorem tw5915399644114372684:True:=tp
theorem tw13068111086705522682:True:=tp
theorem tw14349089067433371257:True:=tp
theorem tw14796646475526232899:True:=tp
theorem tw17486766287000646611:True:=tp
theorem tw216529984938456764:True:=tp
theorem tw4166218997396506358:True:=tp
theorem tw8694864300669457046:True:=tp
theorem tw5225153198818245361:True:=tp
theorem tw887695700811335699:True:=tp
theorem tw10404823597219466188:True:=tp
theorem tw10617020205504526918:True:=tp
theorem tw13160728816969591200:True:=tp
theorem tw13822267516522204269:True:=tp
theorem tw14390669486469195807:True:=tp
theorem tw14987219478266130788:True:=tp
theorem tw15092371282622821202:True:=tp
theorem tw15860264024139754761:True:=tp
theorem tw3422688185749166683:True:=tp
theorem tw4205137553216949640:True:=tp
theorem tw5303079699428457377:True:=tp
theorem tw8813761850579938390:True:=tp
theorem tw2464713573024523455:True:=tp
theorem tw2665807947273092163:True:=tp
theorem tw18237780215024852062:True:=tp
theorem tw8139039716903228087:True:=tp
theorem tw1869187583165140508:True:=tp
theorem tw7429413206186439793:True:=tp
theorem tw17470836177267949868:True:=tp
theorem tw6240723676877644813:True:=tp
theorem tw13369591340354186047:True:=tp
theorem tw5155950481276406077:True:=tp
theorem tw9800703332001039478:True:=tp
theorem tw14826035006057030972:True:=tp
theorem tw7830913209206220567:True:=tp
theorem tw6749217079512962374:True:=tp
theorem tw10448899703829047738:True:=tp
theorem tw4655869559712951663:True:=tp
theorem tw3855276242980373810:True:=tp
theorem tw501154541418245514:True:=tp
theorem tw15362295582089109014:True:=tp
theorem tw728428047077509346:True:=tp
theorem tw12080426169559351053:True:=tp
theorem tw7444641836354208208:True:=tp
theorem tw12483720753089274532:True:=tp
theorem tw17355269125676882429:True:=tp
theorem tw17810072253543177317:True:=tp
theorem tw370947364307004932:True:=tp
theorem tw14789260269991461300:True:=tp
theorem tw6624316729101989866:True:=tp
theorem tw11199532085631943738:True:=tp
theorem tw8435561252592420358:True:=tp
theorem tw12425085872883035938:True:=tp
theorem tw4571971715460732019:True:=tp
theorem tw15877122091014420850:True:=tp
theorem tw283044589724301:True:=tp
theorem tw5088376156974544275:True:=tp
theorem tw2847958352784047137:True:=tp
theorem tw4551080515912023512:True:=tp
theorem tw15985961358823992270:True:=tp
theorem tw8598144960395782539:True:=tp
theorem tw814325599930780420:True:=tp
theorem tw17428532607074087071:True:=tp
theorem tw1212798325632107971:True:=tp
theorem tw17315540178315561739:True:=tp
theorem tw14597223018079223185:True:=tp
theorem tw13303987763403120937:True:=tp
theorem tw7458633546980236471:True:=tp
theorem tw2617719716777270872:True:=tp
theorem tw2731995056826638727:True:=tp
theorem tw10195997230039290492:True:=tp
theorem tw5581607755468803823:True:=tp
theorem tw5278709424875269971:True:=tp
theorem tw14917401599646851644:True:=tp
theorem tw8735323631387419056:True:=tp
theorem tw10773188271377071773:True:=tp
theorem tw15740088241188596515:True:=tp
theorem tw9229161468869434483:True:=tp
theorem tw8689318265317240412:True:=tp
theorem tw9961057766049560675:True:=tp
theorem tw1585457916280141200:True:=tp
theorem tw14861896470697024400:True:=tp
theorem tw6664487174759623829:True:=tp
theorem tw6505410396798821541:True:=tp
theorem tw6694047246710070196:True:=tp
theorem tw7673058066778466091:True:=tp
theorem tw8212240652046128837:True:=tp
theorem tw7743179893348639699:True:=tp
theorem tw8363718466572441477:True:=tp
theorem tw6761616313442571491:True:=tp
theorem tw18245740138792012028:True:=tp
theorem tw11203750815551599093:True:=tp
theorem tw14697636140705633519:True:=tp
theorem tw17555251805378815213:True:=tp
theorem tw18063644159110109576:True:=tp
theorem tw4713442408853163898:True:=tp
theorem tw575894324575664597:True:=tp
theorem tw16420938139371093754:True:=tp
theorem tw8507776931139520737:True:=tp
theorem tw9259421805112917234:True:=tp
theorem tw11762496359356365647:True:=tp
theorem tw14263998999751124003:True:=tp
theorem tw17620759639134147866:True:=tp
theorem tw7360493887585077711:True:=tp
theorem tw2514443458684651071:True:=tp
theorem tw5889316905344633881:True:=tp
theorem tw12622177474791663080:True:=tp
theorem tw2924597203103170677:True:=tp
theorem tw2007660962349395123:True:=tp
theorem tw1814787853859245837:True:=tp
theorem tw5667650583090716360:True:=tp
theorem tw4213018616267185653:True:=tp
theorem tw9305691244287143441:True:=tp
theorem tw6438537300738474071:True:=tp
theorem tw775762912060472103:True:=tp
theorem tw12166907935582030026:True:=tp
theorem tw12787338502077490372:True:=tp
theorem tw1492452104121835379:True:=tp
theorem tw11845233108574324481:True:=tp
theorem tw1516213087968936877:True:=tp
theorem tw987869383939708018:True:=tp
theorem tw517144808224063464:True:=tp
theorem tw705360758644809490:True:=tp
theorem tw795583310449317561:True:=tp
theorem tw3730354652608582461:True:=tp
theorem tw8892184565913893157:True:=tp
theorem tw17046948494117081484:True:=tp
theorem tw6520327441239513222:True:=tp
theorem tw14402358008270493973:True:=tp
theorem tw14459580976405569124:True:=tp
theorem tw14371913498598963198:True:=tp
theorem tw14632489290957082403:True:=tp
theorem tw381845443943030031:True:=tp
theorem tw1040915598704419856:True:=tp
theorem tw4784893810139332661:True:=tp
theorem tw13326734554550294991:True:=tp
theorem tw12643491718579748851:True:=tp
theorem tw10797620697341660853:True:=tp
theorem tw12012865196380796599:True:=tp
theorem tw156323854090586358:True:=tp
theorem tw3969286963782609292:True:=tp
theorem tw16900427199656544559:True:=tp
theorem tw5860347150701562758:True:=tp
theorem tw13264354339760550358:True:=tp
theorem tw10996937224433265937:True:=tp
theorem tw13420762306968818387:True:=tp
theorem tw6189502492464219833:True:=tp
theorem tw11133666699803404755:True:=tp
theorem tw18034075008235765660:True:=tp
theorem tw9743097575036673082:True:=tp
theorem tw18186074749648716422:True:=tp
theorem tw11546936639936008217:True:=tp
theorem tw13091174067606910046:True:=tp
theorem tw1284575025550258836:True:=tp
theorem tw16196420915677631385:True:=tp
theorem tw7990429038631628895:True:=tp
theorem tw8640399195822439974:True:=tp
theorem tw3186775038225222150:True:=tp
theorem tw1827053143587551350:True:=tp
theorem tw2126296398998916975:True:=tp
theorem tw11052478594734416561:True:=tp
theorem tw4047667213573674445:True:=tp
theorem tw11028086866134049853:True:=tp
theorem tw6430265229019958763:True:=tp
theorem tw17469865338272021226:True:=tp
theorem tw16054190913257422852:True:=tp
theorem tw7715697345341360870:True:=tp
theorem tw594810645892935528:True:=tp
theorem tw5938664839603501006:True:=tp
theorem tw76412952228603488:True:=tp
theorem tw16415559393655328363:True:=tp
theorem tw8335412135813284522:True:=tp
theorem tw1817607043029479484:True:=tp
theorem tw6610085992087608168:True:=tp
theorem tw6829511456957066352:True:=tp
theorem tw12133044868933018485:True:=tp
theorem tw1891491216880485542:True:=tp
theorem tw15865747894454325196:True:=tp
theorem tw3849803112085117793:True:=tp
theorem tw18064794426631996164:True:=tp
theorem tw10207950341970196816:True:=tp
theorem tw13639364376231887253:True:=tp
theorem tw16541100652227675460:True:=tp
theorem tw11957902604922235662:True:=tp
end top
section
open PySem PySem.W PyProof.Rows PySem.Calls
set_option tactic.hygienic true
set_option Elab.async true in
set_option maxHeartbeats 8000000 in
theorem top : PySem.Challenge.rw_no0379_01.Holds := by
 w_on; o_law; k_head; (case hw => w_witness2)
 k_go0
 have GL := ‹Glob 0 _ _ _ _ _ _ _›
 have hg := ‹_ = #[]›
 have hc := ‹¬ ((63 : Int) < _)›
 refine Mine.law_run (ns := _) ‹Frag.In _ _› ?_ GL.g GL.b GL.nolimit GL.builtins ‹Heap.IsList _ _ _› ‹IntsAre _ _› (by omega) ‹Fr _ _ _ _› rfl rfl ?_
 ·exact ⟨by kernel_rfl, by kernel_rfl, by kernel_rfl, by kernel_rfl, by kernel_rfl, by kernel_rfl, by kernel_rfl, by kernel_rfl, by kernel_rfl, by kernel_rfl, by kernel_rfl, by kernel_rfl, by kernel_rfl, by kernel_rfl, by kernel_rfl, by kernel_rfl, by kernel_rfl, by kernel_rfl, by kernel_rfl, by kernel_rfl, by kernel_rfl, by intro a b c d e f; kernel_rfl, by intro p P a b c d e; kernel_rfl, by kernel_rfl⟩
 intro h' t' keep
 refine ⟨.inl ⟨.bool true, .bool true, [], rfl, fun _ => rfl, .bool true, ?_, fun _ => ⟨by simp, by simp⟩⟩, keep, rfl, hg⟩
 kernel_rfl
end
end Mine
theorem PySem.Challenge.cw_no0379_01_holds : PySem.Challenge.rw_no0379_01.Holds :=
 Mine.top
