import PyProof.Rows.All
import Wide.All
import OpenK.AllK
import Wide.FinOn
import Lean
import PySem.Challenge.RW_sa0040_01
set_option Elab.async false
set_option maxRecDepth 100000
set_option maxHeartbeats 8000000
set_option linter.all false
set_option genSizeOf false
set_option genSizeOfSpec false
set_option tactic.hygienic false
namespace Mine
def sq(l:Array Lean.Syntax):Lean.Syntax:=.node .none `Lean.Parser.Tactic.tacticSeq #[.node .none `Lean.Parser.Tactic.tacticSeq1Indented #[.node .none `null l]]
def sn:Lean.Syntax:=.node .none `null #[]
def so:Lean.Syntax:=.node .none `Lean.Parser.Tactic.optConfig #[sn]
def sr:Lean.Syntax:=.node .none `Lean.Parser.Tactic.tacticRfl #[.atom .none "rfl"]
def sR:Lean.Syntax:=sq #[sr]
def sK:Lean.Syntax:=sq #[.node .none `tacticKernel_rfl #[.atom .none "kernel_rfl"]]
def sD:Lean.Syntax:=sq #[.node .none `Lean.Parser.Tactic.decide #[.atom .none "decide",so]]
def sS:Lean.Syntax:=sq #[.node .none `Lean.Parser.Tactic.simp #[.atom .none "simp",so,sn,sn,sn,sn]]
def sI:Lean.Syntax:=sq #[.node .none `Lean.Parser.Tactic.intros #[.atom .none "intros",sn],.atom .none ";",sr]
def sU:Lean.Syntax:=sq #[.node .none `Lean.Parser.Tactic.withUnfoldingAll #[.atom .none "with_unfolding_all",sR]]
theorem eqLe{a b c:Nat}(e:a=b)(h:b≤c):a≤c:=e▸h
theorem eqLt{a b c:Nat}(e:a=b)(h:b<c):a<c:=e▸h
theorem ltEq{a b c:Nat}(h:a<b)(e:b=c):a<c:=e▸h
theorem i63{a:Nat}(h:a≤16777216):(a:Int)<2 ^ 63:=by lia
theorem j63{a:Nat}(h:a≤16777216):-2 ^ 63≤(a:Int)∧(a:Int)<2 ^ 63:=by lia
theorem j6{a:Nat}(h:a≤1000000):-1000000≤(a:Int)∧(a:Int)≤1000000:=by lia
theorem szL{a:Nat}(h:a≤16777216):a≤PySem.sizeLine:=h
theorem szS{a:Nat}(h:a≤16777217):a≤PySem.sizeLine+1:=h
theorem uLt{u a b c:Nat}(h:u+b<c)(k:a≤b):u+a<c:=Nat.lt_of_le_of_lt (Nat.add_le_add_left k u) h
theorem uLe{u a b c:Nat}(h:u+b≤c)(k:a≤b):u+a≤c:=Nat.le_trans (Nat.add_le_add_left k u) h
theorem la1{u a b c:Nat}(h:u+b≤c)(k:a+1≤b):u+1+a≤c:=by rw[Nat.add_assoc,Nat.add_comm 1];exact uLe h k
theorem mxL{a b c:Nat}(h:a≤c)(k:b≤c):max a b≤c:=Nat.max_le.mpr ⟨h,k⟩
theorem sb1{m k r:Nat}(h:m-k=r+1):m-(k+1)=r:=by rw[Nat.sub_succ,h];rfl
theorem sbL{m k r:Nat}(h:m-k=r+1):k<m:=Nat.lt_of_sub_pos (h▸Nat.succ_pos r)
theorem sb0{m k:Nat}(h:m-k=0)(h2:k≤m):k=m:=Nat.le_antisymm h2 (Nat.sub_eq_zero_iff_le.mp h)
theorem len1{α:Type _}{l:List α}{n:Nat}(h:l.length=n+1):∃ a t,l=a::t∧t.length=n:=by
 cases l with
 |nil=>cases h
 |cons a t=>exact⟨a,t,rfl,Nat.succ.inj h⟩
theorem len0{α:Type _}{l:List α}(h:l.length=0):l=[]:=List.length_eq_zero_iff.mp h
section
variable{A B C D F G H I J K L M N O:Type}{z:Prop}
theorem uA{p:Prop}{q:Prop}(h:p∧q)(k:∀(V:p)(V:q),z):z:=k h.1 h.2
theorem uE{p:A→Prop}(h:∃ a,p a)(k:∀(a:A)(V:p a),z):z:=h.elim k
theorem iAA{p:Prop}{q:Prop}{r:Prop}(h0:p)(h1:q)(h2:r):p∧q∧r:=⟨h0,h1,h2⟩
theorem iEE{p:A→B→Prop}(a:A)(b:B)(h0:p a b):∃ a,∃ b,p a b:=⟨a,b,h0⟩
theorem uAA{p:Prop}{q:Prop}{r:Prop}(h:p∧q∧r)(k:∀(V:p)(V:q)(V:r),z):z:=uA h.2 fun h1 h2=>k h.1 h1 h2
theorem uEE{p:A→B→Prop}(h:∃ a,∃ b,p a b)(k:∀(a:A)(b:B)(V:p a b),z):z:=h.elim fun a h=>uE h fun b h0=>k a b h0
theorem iAAA{p:Prop}{q:Prop}{r:Prop}{s:Prop}(h0:p)(h1:q)(h2:r)(h3:s):p∧q∧r∧s:=⟨h0,h1,h2,h3⟩
theorem iEEE{p:A→B→C→Prop}(a:A)(b:B)(c:C)(h0:p a b c):∃ a,∃ b,∃ c,p a b c:=⟨a,b,c,h0⟩
theorem uAAA{p:Prop}{q:Prop}{r:Prop}{s:Prop}(h:p∧q∧r∧s)(k:∀(V:p)(V:q)(V:r)(V:s),z):z:=uAA h.2 fun h1 h2 h3=>k h.1 h1 h2 h3
theorem uEEE{p:A→B→C→Prop}(h:∃ a,∃ b,∃ c,p a b c)(k:∀(a:A)(b:B)(c:C)(V:p a b c),z):z:=h.elim fun a h=>uEE h fun b c h0=>k a b c h0
theorem iAAAA{p:Prop}{q:Prop}{r:Prop}{s:Prop}{t:Prop}(h0:p)(h1:q)(h2:r)(h3:s)(h4:t):p∧q∧r∧s∧t:=⟨h0,h1,h2,h3,h4⟩
theorem iEEEE{p:A→B→C→D→Prop}(a:A)(b:B)(c:C)(d:D)(h0:p a b c d):∃ a,∃ b,∃ c,∃ d,p a b c d:=⟨a,b,c,d,h0⟩
theorem uAAAA{p:Prop}{q:Prop}{r:Prop}{s:Prop}{t:Prop}(h:p∧q∧r∧s∧t)(k:∀(V:p)(V:q)(V:r)(V:s)(V:t),z):z:=uAAA h.2 fun h1 h2 h3 h4=>k h.1 h1 h2 h3 h4
theorem uEEEE{p:A→B→C→D→Prop}(h:∃ a,∃ b,∃ c,∃ d,p a b c d)(k:∀(a:A)(b:B)(c:C)(d:D)(V:p a b c d),z):z:=h.elim fun a h=>uEEE h fun b c d h0=>k a b c d h0
theorem iAE{p:Prop}{q:A→Prop}(h0:p)(a:A)(h1:q a):p∧∃ a,q a:=(And.intro h0 (Exists.intro a h1))
theorem iEA{p:A→Prop}{q:A→Prop}(a:A)(h0:p a)(h1:q a):∃ a,p a∧q a:=(Exists.intro a (And.intro h0 h1))
theorem uAE{p:Prop}{q:A→Prop}(h:p∧∃ a,q a)(k:∀(V:p)(a:A)(V:q a),z):z:=uA h fun h0 h=>uE h fun a h1=>k h0 a h1
theorem uEA{p:A→Prop}{q:A→Prop}(h:∃ a,p a∧q a)(k:∀(a:A)(V:p a)(V:q a),z):z:=uE h fun a h=>uA h fun h0 h1=>k a h0 h1
theorem iAAE{p:Prop}{q:Prop}{r:A→Prop}(h0:p)(h1:q)(a:A)(h2:r a):p∧q∧∃ a,r a:=(iAA h0 h1 (Exists.intro a h2))
theorem iAEA{p:Prop}{q:A→Prop}{r:A→Prop}(h0:p)(a:A)(h1:q a)(h2:r a):p∧∃ a,q a∧r a:=(And.intro h0 (Exists.intro a (And.intro h1 h2)))
theorem iEAA{p:A→Prop}{q:A→Prop}{r:A→Prop}(a:A)(h0:p a)(h1:q a)(h2:r a):∃ a,p a∧q a∧r a:=(Exists.intro a (iAA h0 h1 h2))
theorem iEEA{p:A→B→Prop}{q:A→B→Prop}(a:A)(b:B)(h0:p a b)(h1:q a b):∃ a,∃ b,p a b∧q a b:=(iEE a b (And.intro h0 h1))
theorem uAAE{p:Prop}{q:Prop}{r:A→Prop}(h:p∧q∧∃ a,r a)(k:∀(V:p)(V:q)(a:A)(V:r a),z):z:=uAA h fun h0 h1 h=>uE h fun a h2=>k h0 h1 a h2
theorem uAEA{p:Prop}{q:A→Prop}{r:A→Prop}(h:p∧∃ a,q a∧r a)(k:∀(V:p)(a:A)(V:q a)(V:r a),z):z:=uA h fun h0 h=>uE h fun a h=>uA h fun h1 h2=>k h0 a h1 h2
theorem uEAA{p:A→Prop}{q:A→Prop}{r:A→Prop}(h:∃ a,p a∧q a∧r a)(k:∀(a:A)(V:p a)(V:q a)(V:r a),z):z:=uE h fun a h=>uAA h fun h0 h1 h2=>k a h0 h1 h2
theorem uEEA{p:A→B→Prop}{q:A→B→Prop}(h:∃ a,∃ b,p a b∧q a b)(k:∀(a:A)(b:B)(V:p a b)(V:q a b),z):z:=uEE h fun a b h=>uA h fun h0 h1=>k a b h0 h1
theorem iAAEA{p:Prop}{q:Prop}{r:A→Prop}{s:A→Prop}(h0:p)(h1:q)(a:A)(h2:r a)(h3:s a):p∧q∧∃ a,r a∧s a:=(iAA h0 h1 (Exists.intro a (And.intro h2 h3)))
theorem iAEAA{p:Prop}{q:A→Prop}{r:A→Prop}{s:A→Prop}(h0:p)(a:A)(h1:q a)(h2:r a)(h3:s a):p∧∃ a,q a∧r a∧s a:=(And.intro h0 (Exists.intro a (iAA h1 h2 h3)))
theorem iAEEA{p:Prop}{q:A→B→Prop}{r:A→B→Prop}(h0:p)(a:A)(b:B)(h1:q a b)(h2:r a b):p∧∃ a,∃ b,q a b∧r a b:=(And.intro h0 (iEE a b (And.intro h1 h2)))
theorem iEAAA{p:A→Prop}{q:A→Prop}{r:A→Prop}{s:A→Prop}(a:A)(h0:p a)(h1:q a)(h2:r a)(h3:s a):∃ a,p a∧q a∧r a∧s a:=(Exists.intro a (iAAA h0 h1 h2 h3))
theorem iEAAE{p:A→Prop}{q:A→Prop}{r:A→B→Prop}(a:A)(h0:p a)(h1:q a)(b:B)(h2:r a b):∃ a,p a∧q a∧∃ b,r a b:=(Exists.intro a (iAA h0 h1 (Exists.intro b h2)))
theorem iEAEA{p:A→Prop}{q:A→B→Prop}{r:A→B→Prop}(a:A)(h0:p a)(b:B)(h1:q a b)(h2:r a b):∃ a,p a∧∃ b,q a b∧r a b:=(Exists.intro a (And.intro h0 (Exists.intro b (And.intro h1 h2))))
theorem iEEAA{p:A→B→Prop}{q:A→B→Prop}{r:A→B→Prop}(a:A)(b:B)(h0:p a b)(h1:q a b)(h2:r a b):∃ a,∃ b,p a b∧q a b∧r a b:=(iEE a b (iAA h0 h1 h2))
theorem iEEEA{p:A→B→C→Prop}{q:A→B→C→Prop}(a:A)(b:B)(c:C)(h0:p a b c)(h1:q a b c):∃ a,∃ b,∃ c,p a b c∧q a b c:=(iEEE a b c (And.intro h0 h1))
theorem uAAEA{p:Prop}{q:Prop}{r:A→Prop}{s:A→Prop}(h:p∧q∧∃ a,r a∧s a)(k:∀(V:p)(V:q)(a:A)(V:r a)(V:s a),z):z:=uAA h fun h0 h1 h=>uE h fun a h=>uA h fun h2 h3=>k h0 h1 a h2 h3
theorem uAEAA{p:Prop}{q:A→Prop}{r:A→Prop}{s:A→Prop}(h:p∧∃ a,q a∧r a∧s a)(k:∀(V:p)(a:A)(V:q a)(V:r a)(V:s a),z):z:=uA h fun h0 h=>uE h fun a h=>uAA h fun h1 h2 h3=>k h0 a h1 h2 h3
theorem uAEEA{p:Prop}{q:A→B→Prop}{r:A→B→Prop}(h:p∧∃ a,∃ b,q a b∧r a b)(k:∀(V:p)(a:A)(b:B)(V:q a b)(V:r a b),z):z:=uA h fun h0 h=>uEE h fun a b h=>uA h fun h1 h2=>k h0 a b h1 h2
theorem uEAAA{p:A→Prop}{q:A→Prop}{r:A→Prop}{s:A→Prop}(h:∃ a,p a∧q a∧r a∧s a)(k:∀(a:A)(V:p a)(V:q a)(V:r a)(V:s a),z):z:=uE h fun a h=>uAAA h fun h0 h1 h2 h3=>k a h0 h1 h2 h3
theorem uEAAE{p:A→Prop}{q:A→Prop}{r:A→B→Prop}(h:∃ a,p a∧q a∧∃ b,r a b)(k:∀(a:A)(V:p a)(V:q a)(b:B)(V:r a b),z):z:=uE h fun a h=>uAA h fun h0 h1 h=>uE h fun b h2=>k a h0 h1 b h2
theorem uEEAA{p:A→B→Prop}{q:A→B→Prop}{r:A→B→Prop}(h:∃ a,∃ b,p a b∧q a b∧r a b)(k:∀(a:A)(b:B)(V:p a b)(V:q a b)(V:r a b),z):z:=uEE h fun a b h=>uAA h fun h0 h1 h2=>k a b h0 h1 h2
theorem uEEEA{p:A→B→C→Prop}{q:A→B→C→Prop}(h:∃ a,∃ b,∃ c,p a b c∧q a b c)(k:∀(a:A)(b:B)(c:C)(V:p a b c)(V:q a b c),z):z:=uEEE h fun a b c h=>uA h fun h0 h1=>k a b c h0 h1
theorem iAAAAA{p:Prop}{q:Prop}{r:Prop}{s:Prop}{t:Prop}{v:Prop}(h0:p)(h1:q)(h2:r)(h3:s)(h4:t)(h5:v):p∧q∧r∧s∧t∧v:=(iAAAA h0 h1 h2 h3 (And.intro h4 h5))
theorem iAAEEA{p:Prop}{q:Prop}{r:A→B→Prop}{s:A→B→Prop}(h0:p)(h1:q)(a:A)(b:B)(h2:r a b)(h3:s a b):p∧q∧∃ a,∃ b,r a b∧s a b:=(iAA h0 h1 (iEE a b (And.intro h2 h3)))
theorem iAAEEE{p:Prop}{q:Prop}{r:A→B→C→Prop}(h0:p)(h1:q)(a:A)(b:B)(c:C)(h2:r a b c):p∧q∧∃ a,∃ b,∃ c,r a b c:=(iAA h0 h1 (iEEE a b c h2))
theorem iAEAAA{p:Prop}{q:A→Prop}{r:A→Prop}{s:A→Prop}{t:A→Prop}(h0:p)(a:A)(h1:q a)(h2:r a)(h3:s a)(h4:t a):p∧∃ a,q a∧r a∧s a∧t a:=(And.intro h0 (Exists.intro a (iAAA h1 h2 h3 h4)))
theorem iAEEAA{p:Prop}{q:A→B→Prop}{r:A→B→Prop}{s:A→B→Prop}(h0:p)(a:A)(b:B)(h1:q a b)(h2:r a b)(h3:s a b):p∧∃ a,∃ b,q a b∧r a b∧s a b:=(And.intro h0 (iEE a b (iAA h1 h2 h3)))
theorem iEAAAA{p:A→Prop}{q:A→Prop}{r:A→Prop}{s:A→Prop}{t:A→Prop}(a:A)(h0:p a)(h1:q a)(h2:r a)(h3:s a)(h4:t a):∃ a,p a∧q a∧r a∧s a∧t a:=(Exists.intro a (iAAAA h0 h1 h2 h3 h4))
theorem iEEAAA{p:A→B→Prop}{q:A→B→Prop}{r:A→B→Prop}{s:A→B→Prop}(a:A)(b:B)(h0:p a b)(h1:q a b)(h2:r a b)(h3:s a b):∃ a,∃ b,p a b∧q a b∧r a b∧s a b:=(iEE a b (iAAA h0 h1 h2 h3))
theorem iEEEAA{p:A→B→C→Prop}{q:A→B→C→Prop}{r:A→B→C→Prop}(a:A)(b:B)(c:C)(h0:p a b c)(h1:q a b c)(h2:r a b c):∃ a,∃ b,∃ c,p a b c∧q a b c∧r a b c:=(iEEE a b c (iAA h0 h1 h2))
theorem uAAAAA{p:Prop}{q:Prop}{r:Prop}{s:Prop}{t:Prop}{v:Prop}(h:p∧q∧r∧s∧t∧v)(k:∀(V:p)(V:q)(V:r)(V:s)(V:t)(V:v),z):z:=uAAAA h fun h0 h1 h2 h3 h=>uA h fun h4 h5=>k h0 h1 h2 h3 h4 h5
theorem uAAEEA{p:Prop}{q:Prop}{r:A→B→Prop}{s:A→B→Prop}(h:p∧q∧∃ a,∃ b,r a b∧s a b)(k:∀(V:p)(V:q)(a:A)(b:B)(V:r a b)(V:s a b),z):z:=uAA h fun h0 h1 h=>uEE h fun a b h=>uA h fun h2 h3=>k h0 h1 a b h2 h3
theorem uAAEEE{p:Prop}{q:Prop}{r:A→B→C→Prop}(h:p∧q∧∃ a,∃ b,∃ c,r a b c)(k:∀(V:p)(V:q)(a:A)(b:B)(c:C)(V:r a b c),z):z:=uAA h fun h0 h1 h=>uEEE h fun a b c h2=>k h0 h1 a b c h2
theorem uAEAAA{p:Prop}{q:A→Prop}{r:A→Prop}{s:A→Prop}{t:A→Prop}(h:p∧∃ a,q a∧r a∧s a∧t a)(k:∀(V:p)(a:A)(V:q a)(V:r a)(V:s a)(V:t a),z):z:=uA h fun h0 h=>uE h fun a h=>uAAA h fun h1 h2 h3 h4=>k h0 a h1 h2 h3 h4
theorem uAEEAA{p:Prop}{q:A→B→Prop}{r:A→B→Prop}{s:A→B→Prop}(h:p∧∃ a,∃ b,q a b∧r a b∧s a b)(k:∀(V:p)(a:A)(b:B)(V:q a b)(V:r a b)(V:s a b),z):z:=uA h fun h0 h=>uEE h fun a b h=>uAA h fun h1 h2 h3=>k h0 a b h1 h2 h3
theorem uEAAAA{p:A→Prop}{q:A→Prop}{r:A→Prop}{s:A→Prop}{t:A→Prop}(h:∃ a,p a∧q a∧r a∧s a∧t a)(k:∀(a:A)(V:p a)(V:q a)(V:r a)(V:s a)(V:t a),z):z:=uE h fun a h=>uAAAA h fun h0 h1 h2 h3 h4=>k a h0 h1 h2 h3 h4
theorem uEEAAA{p:A→B→Prop}{q:A→B→Prop}{r:A→B→Prop}{s:A→B→Prop}(h:∃ a,∃ b,p a b∧q a b∧r a b∧s a b)(k:∀(a:A)(b:B)(V:p a b)(V:q a b)(V:r a b)(V:s a b),z):z:=uEE h fun a b h=>uAAA h fun h0 h1 h2 h3=>k a b h0 h1 h2 h3
theorem uEEEAA{p:A→B→C→Prop}{q:A→B→C→Prop}{r:A→B→C→Prop}(h:∃ a,∃ b,∃ c,p a b c∧q a b c∧r a b c)(k:∀(a:A)(b:B)(c:C)(V:p a b c)(V:q a b c)(V:r a b c),z):z:=uEEE h fun a b c h=>uAA h fun h0 h1 h2=>k a b c h0 h1 h2
theorem iAEAAAA{p:Prop}{q:A→Prop}{r:A→Prop}{s:A→Prop}{t:A→Prop}{v:A→Prop}(h0:p)(a:A)(h1:q a)(h2:r a)(h3:s a)(h4:t a)(h5:v a):p∧∃ a,q a∧r a∧s a∧t a∧v a:=(And.intro h0 (Exists.intro a (iAAAA h1 h2 h3 h4 h5)))
theorem iAEEEAA{p:Prop}{q:A→B→C→Prop}{r:A→B→C→Prop}{s:A→B→C→Prop}(h0:p)(a:A)(b:B)(c:C)(h1:q a b c)(h2:r a b c)(h3:s a b c):p∧∃ a,∃ b,∃ c,q a b c∧r a b c∧s a b c:=(And.intro h0 (iEEE a b c (iAA h1 h2 h3)))
theorem iEAEEAA{p:A→Prop}{q:A→B→C→Prop}{r:A→B→C→Prop}{s:A→B→C→Prop}(a:A)(h0:p a)(b:B)(c:C)(h1:q a b c)(h2:r a b c)(h3:s a b c):∃ a,p a∧∃ b,∃ c,q a b c∧r a b c∧s a b c:=(Exists.intro a (And.intro h0 (iEE b c (iAA h1 h2 h3))))
theorem iEEAAAA{p:A→B→Prop}{q:A→B→Prop}{r:A→B→Prop}{s:A→B→Prop}{t:A→B→Prop}(a:A)(b:B)(h0:p a b)(h1:q a b)(h2:r a b)(h3:s a b)(h4:t a b):∃ a,∃ b,p a b∧q a b∧r a b∧s a b∧t a b:=(iEE a b (iAAAA h0 h1 h2 h3 h4))
theorem iEEEAAA{p:A→B→C→Prop}{q:A→B→C→Prop}{r:A→B→C→Prop}{s:A→B→C→Prop}(a:A)(b:B)(c:C)(h0:p a b c)(h1:q a b c)(h2:r a b c)(h3:s a b c):∃ a,∃ b,∃ c,p a b c∧q a b c∧r a b c∧s a b c:=(iEEE a b c (iAAA h0 h1 h2 h3))
theorem iEEEEAA{p:A→B→C→D→Prop}{q:A→B→C→D→Prop}{r:A→B→C→D→Prop}(a:A)(b:B)(c:C)(d:D)(h0:p a b c d)(h1:q a b c d)(h2:r a b c d):∃ a,∃ b,∃ c,∃ d,p a b c d∧q a b c d∧r a b c d:=(iEEEE a b c d (iAA h0 h1 h2))
theorem uAEAAAA{p:Prop}{q:A→Prop}{r:A→Prop}{s:A→Prop}{t:A→Prop}{v:A→Prop}(h:p∧∃ a,q a∧r a∧s a∧t a∧v a)(k:∀(V:p)(a:A)(V:q a)(V:r a)(V:s a)(V:t a)(V:v a),z):z:=uA h fun h0 h=>uE h fun a h=>uAAAA h fun h1 h2 h3 h4 h5=>k h0 a h1 h2 h3 h4 h5
theorem uAEEAAA{p:Prop}{q:A→B→Prop}{r:A→B→Prop}{s:A→B→Prop}{t:A→B→Prop}(h:p∧∃ a,∃ b,q a b∧r a b∧s a b∧t a b)(k:∀(V:p)(a:A)(b:B)(V:q a b)(V:r a b)(V:s a b)(V:t a b),z):z:=uA h fun h0 h=>uEE h fun a b h=>uAAA h fun h1 h2 h3 h4=>k h0 a b h1 h2 h3 h4
theorem uAEEEAA{p:Prop}{q:A→B→C→Prop}{r:A→B→C→Prop}{s:A→B→C→Prop}(h:p∧∃ a,∃ b,∃ c,q a b c∧r a b c∧s a b c)(k:∀(V:p)(a:A)(b:B)(c:C)(V:q a b c)(V:r a b c)(V:s a b c),z):z:=uA h fun h0 h=>uEEE h fun a b c h=>uAA h fun h1 h2 h3=>k h0 a b c h1 h2 h3
theorem uEEAAAA{p:A→B→Prop}{q:A→B→Prop}{r:A→B→Prop}{s:A→B→Prop}{t:A→B→Prop}(h:∃ a,∃ b,p a b∧q a b∧r a b∧s a b∧t a b)(k:∀(a:A)(b:B)(V:p a b)(V:q a b)(V:r a b)(V:s a b)(V:t a b),z):z:=uEE h fun a b h=>uAAAA h fun h0 h1 h2 h3 h4=>k a b h0 h1 h2 h3 h4
theorem uEEEAAA{p:A→B→C→Prop}{q:A→B→C→Prop}{r:A→B→C→Prop}{s:A→B→C→Prop}(h:∃ a,∃ b,∃ c,p a b c∧q a b c∧r a b c∧s a b c)(k:∀(a:A)(b:B)(c:C)(V:p a b c)(V:q a b c)(V:r a b c)(V:s a b c),z):z:=uEEE h fun a b c h=>uAAA h fun h0 h1 h2 h3=>k a b c h0 h1 h2 h3
theorem uEEEEAA{p:A→B→C→D→Prop}{q:A→B→C→D→Prop}{r:A→B→C→D→Prop}(h:∃ a,∃ b,∃ c,∃ d,p a b c d∧q a b c d∧r a b c d)(k:∀(a:A)(b:B)(c:C)(d:D)(V:p a b c d)(V:q a b c d)(V:r a b c d),z):z:=uEEEE h fun a b c d h=>uAA h fun h0 h1 h2=>k a b c d h0 h1 h2
theorem iAEEAAAA{p:Prop}{q:A→B→Prop}{r:A→B→Prop}{s:A→B→Prop}{t:A→B→Prop}{v:A→B→Prop}(h0:p)(a:A)(b:B)(h1:q a b)(h2:r a b)(h3:s a b)(h4:t a b)(h5:v a b):p∧∃ a,∃ b,q a b∧r a b∧s a b∧t a b∧v a b:=(And.intro h0 (iEE a b (iAAAA h1 h2 h3 h4 h5)))
theorem iEAEEAAA{p:A→Prop}{q:A→B→C→Prop}{r:A→B→C→Prop}{s:A→B→C→Prop}{t:A→B→C→Prop}(a:A)(h0:p a)(b:B)(c:C)(h1:q a b c)(h2:r a b c)(h3:s a b c)(h4:t a b c):∃ a,p a∧∃ b,∃ c,q a b c∧r a b c∧s a b c∧t a b c:=(Exists.intro a (And.intro h0 (iEE b c (iAAA h1 h2 h3 h4))))
theorem iEEAAAAA{p:A→B→Prop}{q:A→B→Prop}{r:A→B→Prop}{s:A→B→Prop}{t:A→B→Prop}{v:A→B→Prop}(a:A)(b:B)(h0:p a b)(h1:q a b)(h2:r a b)(h3:s a b)(h4:t a b)(h5:v a b):∃ a,∃ b,p a b∧q a b∧r a b∧s a b∧t a b∧v a b:=(iEE a b (iAAAA h0 h1 h2 h3 (And.intro h4 h5)))
theorem iEEEAAAA{p:A→B→C→Prop}{q:A→B→C→Prop}{r:A→B→C→Prop}{s:A→B→C→Prop}{t:A→B→C→Prop}(a:A)(b:B)(c:C)(h0:p a b c)(h1:q a b c)(h2:r a b c)(h3:s a b c)(h4:t a b c):∃ a,∃ b,∃ c,p a b c∧q a b c∧r a b c∧s a b c∧t a b c:=(iEEE a b c (iAAAA h0 h1 h2 h3 h4))
theorem uAEEAAAA{p:Prop}{q:A→B→Prop}{r:A→B→Prop}{s:A→B→Prop}{t:A→B→Prop}{v:A→B→Prop}(h:p∧∃ a,∃ b,q a b∧r a b∧s a b∧t a b∧v a b)(k:∀(V:p)(a:A)(b:B)(V:q a b)(V:r a b)(V:s a b)(V:t a b)(V:v a b),z):z:=uA h fun h0 h=>uEE h fun a b h=>uAAAA h fun h1 h2 h3 h4 h5=>k h0 a b h1 h2 h3 h4 h5
theorem uEEEAAAA{p:A→B→C→Prop}{q:A→B→C→Prop}{r:A→B→C→Prop}{s:A→B→C→Prop}{t:A→B→C→Prop}(h:∃ a,∃ b,∃ c,p a b c∧q a b c∧r a b c∧s a b c∧t a b c)(k:∀(a:A)(b:B)(c:C)(V:p a b c)(V:q a b c)(V:r a b c)(V:s a b c)(V:t a b c),z):z:=uEEE h fun a b c h=>uAAAA h fun h0 h1 h2 h3 h4=>k a b c h0 h1 h2 h3 h4
theorem uEEEEEAA{p:A→B→C→D→F→Prop}{q:A→B→C→D→F→Prop}{r:A→B→C→D→F→Prop}(h:∃ a,∃ b,∃ c,∃ d,∃ e,p a b c d e∧q a b c d e∧r a b c d e)(k:∀(a:A)(b:B)(c:C)(d:D)(e:F)(V:p a b c d e)(V:q a b c d e)(V:r a b c d e),z):z:=uEEEE h fun a b c d h=>uE h fun e h=>uAA h fun h0 h1 h2=>k a b c d e h0 h1 h2
theorem iAEEAAAAA{p:Prop}{q:A→B→Prop}{r:A→B→Prop}{s:A→B→Prop}{t:A→B→Prop}{v:A→B→Prop}{w:A→B→Prop}(h0:p)(a:A)(b:B)(h1:q a b)(h2:r a b)(h3:s a b)(h4:t a b)(h5:v a b)(h6:w a b):p∧∃ a,∃ b,q a b∧r a b∧s a b∧t a b∧v a b∧w a b:=(And.intro h0 (iEE a b (iAAAA h1 h2 h3 h4 (And.intro h5 h6))))
theorem iEAAEEAAA{p:A→Prop}{q:A→Prop}{r:A→B→C→Prop}{s:A→B→C→Prop}{t:A→B→C→Prop}{v:A→B→C→Prop}(a:A)(h0:p a)(h1:q a)(b:B)(c:C)(h2:r a b c)(h3:s a b c)(h4:t a b c)(h5:v a b c):∃ a,p a∧q a∧∃ b,∃ c,r a b c∧s a b c∧t a b c∧v a b c:=(Exists.intro a (iAA h0 h1 (iEE b c (iAAA h2 h3 h4 h5))))
theorem iEEEAAAAA{p:A→B→C→Prop}{q:A→B→C→Prop}{r:A→B→C→Prop}{s:A→B→C→Prop}{t:A→B→C→Prop}{v:A→B→C→Prop}(a:A)(b:B)(c:C)(h0:p a b c)(h1:q a b c)(h2:r a b c)(h3:s a b c)(h4:t a b c)(h5:v a b c):∃ a,∃ b,∃ c,p a b c∧q a b c∧r a b c∧s a b c∧t a b c∧v a b c:=(iEEE a b c (iAAAA h0 h1 h2 h3 (And.intro h4 h5)))
theorem iEEEEAAAA{p:A→B→C→D→Prop}{q:A→B→C→D→Prop}{r:A→B→C→D→Prop}{s:A→B→C→D→Prop}{t:A→B→C→D→Prop}(a:A)(b:B)(c:C)(d:D)(h0:p a b c d)(h1:q a b c d)(h2:r a b c d)(h3:s a b c d)(h4:t a b c d):∃ a,∃ b,∃ c,∃ d,p a b c d∧q a b c d∧r a b c d∧s a b c d∧t a b c d:=(iEEEE a b c d (iAAAA h0 h1 h2 h3 h4))
theorem iEEEEEAAA{p:A→B→C→D→F→Prop}{q:A→B→C→D→F→Prop}{r:A→B→C→D→F→Prop}{s:A→B→C→D→F→Prop}(a:A)(b:B)(c:C)(d:D)(e:F)(h0:p a b c d e)(h1:q a b c d e)(h2:r a b c d e)(h3:s a b c d e):∃ a,∃ b,∃ c,∃ d,∃ e,p a b c d e∧q a b c d e∧r a b c d e∧s a b c d e:=(iEEEE a b c d (Exists.intro e (iAAA h0 h1 h2 h3)))
theorem uAAAAAAAA{p:Prop}{q:Prop}{r:Prop}{s:Prop}{t:Prop}{v:Prop}{w:Prop}{x:Prop}{y:Prop}(h:p∧q∧r∧s∧t∧v∧w∧x∧y)(k:∀(V:p)(V:q)(V:r)(V:s)(V:t)(V:v)(V:w)(V:x)(V:y),z):z:=uAAAA h fun h0 h1 h2 h3 h=>uAAAA h fun h4 h5 h6 h7 h8=>k h0 h1 h2 h3 h4 h5 h6 h7 h8
theorem uAEEAAAAA{p:Prop}{q:A→B→Prop}{r:A→B→Prop}{s:A→B→Prop}{t:A→B→Prop}{v:A→B→Prop}{w:A→B→Prop}(h:p∧∃ a,∃ b,q a b∧r a b∧s a b∧t a b∧v a b∧w a b)(k:∀(V:p)(a:A)(b:B)(V:q a b)(V:r a b)(V:s a b)(V:t a b)(V:v a b)(V:w a b),z):z:=uA h fun h0 h=>uEE h fun a b h=>uAAAA h fun h1 h2 h3 h4 h=>uA h fun h5 h6=>k h0 a b h1 h2 h3 h4 h5 h6
theorem uEEEAAAAA{p:A→B→C→Prop}{q:A→B→C→Prop}{r:A→B→C→Prop}{s:A→B→C→Prop}{t:A→B→C→Prop}{v:A→B→C→Prop}(h:∃ a,∃ b,∃ c,p a b c∧q a b c∧r a b c∧s a b c∧t a b c∧v a b c)(k:∀(a:A)(b:B)(c:C)(V:p a b c)(V:q a b c)(V:r a b c)(V:s a b c)(V:t a b c)(V:v a b c),z):z:=uEEE h fun a b c h=>uAAAA h fun h0 h1 h2 h3 h=>uA h fun h4 h5=>k a b c h0 h1 h2 h3 h4 h5
theorem uEEEEAAAA{p:A→B→C→D→Prop}{q:A→B→C→D→Prop}{r:A→B→C→D→Prop}{s:A→B→C→D→Prop}{t:A→B→C→D→Prop}(h:∃ a,∃ b,∃ c,∃ d,p a b c d∧q a b c d∧r a b c d∧s a b c d∧t a b c d)(k:∀(a:A)(b:B)(c:C)(d:D)(V:p a b c d)(V:q a b c d)(V:r a b c d)(V:s a b c d)(V:t a b c d),z):z:=uEEEE h fun a b c d h=>uAAAA h fun h0 h1 h2 h3 h4=>k a b c d h0 h1 h2 h3 h4
theorem uEEEEEAAA{p:A→B→C→D→F→Prop}{q:A→B→C→D→F→Prop}{r:A→B→C→D→F→Prop}{s:A→B→C→D→F→Prop}(h:∃ a,∃ b,∃ c,∃ d,∃ e,p a b c d e∧q a b c d e∧r a b c d e∧s a b c d e)(k:∀(a:A)(b:B)(c:C)(d:D)(e:F)(V:p a b c d e)(V:q a b c d e)(V:r a b c d e)(V:s a b c d e),z):z:=uEEEE h fun a b c d h=>uE h fun e h=>uAAA h fun h0 h1 h2 h3=>k a b c d e h0 h1 h2 h3
theorem iAAAAAAAEA{p:Prop}{q:Prop}{r:Prop}{s:Prop}{t:Prop}{v:Prop}{w:Prop}{x:A→Prop}{y:A→Prop}(h0:p)(h1:q)(h2:r)(h3:s)(h4:t)(h5:v)(h6:w)(a:A)(h7:x a)(h8:y a):p∧q∧r∧s∧t∧v∧w∧∃ a,x a∧y a:=(iAAAA h0 h1 h2 h3 (iAAA h4 h5 h6 (Exists.intro a (And.intro h7 h8))))
theorem iAEEEAAAAA{p:Prop}{q:A→B→C→Prop}{r:A→B→C→Prop}{s:A→B→C→Prop}{t:A→B→C→Prop}{v:A→B→C→Prop}{w:A→B→C→Prop}(h0:p)(a:A)(b:B)(c:C)(h1:q a b c)(h2:r a b c)(h3:s a b c)(h4:t a b c)(h5:v a b c)(h6:w a b c):p∧∃ a,∃ b,∃ c,q a b c∧r a b c∧s a b c∧t a b c∧v a b c∧w a b c:=(And.intro h0 (iEEE a b c (iAAAA h1 h2 h3 h4 (And.intro h5 h6))))
theorem iEEEEAAAAA{p:A→B→C→D→Prop}{q:A→B→C→D→Prop}{r:A→B→C→D→Prop}{s:A→B→C→D→Prop}{t:A→B→C→D→Prop}{v:A→B→C→D→Prop}(a:A)(b:B)(c:C)(d:D)(h0:p a b c d)(h1:q a b c d)(h2:r a b c d)(h3:s a b c d)(h4:t a b c d)(h5:v a b c d):∃ a,∃ b,∃ c,∃ d,p a b c d∧q a b c d∧r a b c d∧s a b c d∧t a b c d∧v a b c d:=(iEEEE a b c d (iAAAA h0 h1 h2 h3 (And.intro h4 h5)))
theorem uAAAAAAAEA{p:Prop}{q:Prop}{r:Prop}{s:Prop}{t:Prop}{v:Prop}{w:Prop}{x:A→Prop}{y:A→Prop}(h:p∧q∧r∧s∧t∧v∧w∧∃ a,x a∧y a)(k:∀(V:p)(V:q)(V:r)(V:s)(V:t)(V:v)(V:w)(a:A)(V:x a)(V:y a),z):z:=uAAAA h fun h0 h1 h2 h3 h=>uAAA h fun h4 h5 h6 h=>uE h fun a h=>uA h fun h7 h8=>k h0 h1 h2 h3 h4 h5 h6 a h7 h8
theorem uAEEEAAAAA{p:Prop}{q:A→B→C→Prop}{r:A→B→C→Prop}{s:A→B→C→Prop}{t:A→B→C→Prop}{v:A→B→C→Prop}{w:A→B→C→Prop}(h:p∧∃ a,∃ b,∃ c,q a b c∧r a b c∧s a b c∧t a b c∧v a b c∧w a b c)(k:∀(V:p)(a:A)(b:B)(c:C)(V:q a b c)(V:r a b c)(V:s a b c)(V:t a b c)(V:v a b c)(V:w a b c),z):z:=uA h fun h0 h=>uEEE h fun a b c h=>uAAAA h fun h1 h2 h3 h4 h=>uA h fun h5 h6=>k h0 a b c h1 h2 h3 h4 h5 h6
theorem uEEEEAAAAA{p:A→B→C→D→Prop}{q:A→B→C→D→Prop}{r:A→B→C→D→Prop}{s:A→B→C→D→Prop}{t:A→B→C→D→Prop}{v:A→B→C→D→Prop}(h:∃ a,∃ b,∃ c,∃ d,p a b c d∧q a b c d∧r a b c d∧s a b c d∧t a b c d∧v a b c d)(k:∀(a:A)(b:B)(c:C)(d:D)(V:p a b c d)(V:q a b c d)(V:r a b c d)(V:s a b c d)(V:t a b c d)(V:v a b c d),z):z:=uEEEE h fun a b c d h=>uAAAA h fun h0 h1 h2 h3 h=>uA h fun h4 h5=>k a b c d h0 h1 h2 h3 h4 h5
theorem iEEEAAAAAAA{p:A→B→C→Prop}{q:A→B→C→Prop}{r:A→B→C→Prop}{s:A→B→C→Prop}{t:A→B→C→Prop}{v:A→B→C→Prop}{w:A→B→C→Prop}{x:A→B→C→Prop}(a:A)(b:B)(c:C)(h0:p a b c)(h1:q a b c)(h2:r a b c)(h3:s a b c)(h4:t a b c)(h5:v a b c)(h6:w a b c)(h7:x a b c):∃ a,∃ b,∃ c,p a b c∧q a b c∧r a b c∧s a b c∧t a b c∧v a b c∧w a b c∧x a b c:=(iEEE a b c (iAAAA h0 h1 h2 h3 (iAAA h4 h5 h6 h7)))
theorem iEEEEAAAAAA{p:A→B→C→D→Prop}{q:A→B→C→D→Prop}{r:A→B→C→D→Prop}{s:A→B→C→D→Prop}{t:A→B→C→D→Prop}{v:A→B→C→D→Prop}{w:A→B→C→D→Prop}(a:A)(b:B)(c:C)(d:D)(h0:p a b c d)(h1:q a b c d)(h2:r a b c d)(h3:s a b c d)(h4:t a b c d)(h5:v a b c d)(h6:w a b c d):∃ a,∃ b,∃ c,∃ d,p a b c d∧q a b c d∧r a b c d∧s a b c d∧t a b c d∧v a b c d∧w a b c d:=(iEEEE a b c d (iAAAA h0 h1 h2 h3 (iAA h4 h5 h6)))
theorem uEEEAAAAAAA{p:A→B→C→Prop}{q:A→B→C→Prop}{r:A→B→C→Prop}{s:A→B→C→Prop}{t:A→B→C→Prop}{v:A→B→C→Prop}{w:A→B→C→Prop}{x:A→B→C→Prop}(h:∃ a,∃ b,∃ c,p a b c∧q a b c∧r a b c∧s a b c∧t a b c∧v a b c∧w a b c∧x a b c)(k:∀(a:A)(b:B)(c:C)(V:p a b c)(V:q a b c)(V:r a b c)(V:s a b c)(V:t a b c)(V:v a b c)(V:w a b c)(V:x a b c),z):z:=uEEE h fun a b c h=>uAAAA h fun h0 h1 h2 h3 h=>uAAA h fun h4 h5 h6 h7=>k a b c h0 h1 h2 h3 h4 h5 h6 h7
theorem uEEEEAAAAAA{p:A→B→C→D→Prop}{q:A→B→C→D→Prop}{r:A→B→C→D→Prop}{s:A→B→C→D→Prop}{t:A→B→C→D→Prop}{v:A→B→C→D→Prop}{w:A→B→C→D→Prop}(h:∃ a,∃ b,∃ c,∃ d,p a b c d∧q a b c d∧r a b c d∧s a b c d∧t a b c d∧v a b c d∧w a b c d)(k:∀(a:A)(b:B)(c:C)(d:D)(V:p a b c d)(V:q a b c d)(V:r a b c d)(V:s a b c d)(V:t a b c d)(V:v a b c d)(V:w a b c d),z):z:=uEEEE h fun a b c d h=>uAAAA h fun h0 h1 h2 h3 h=>uAA h fun h4 h5 h6=>k a b c d h0 h1 h2 h3 h4 h5 h6
theorem iEAAAAAAAAAA{p:A→Prop}{q:A→Prop}{r:A→Prop}{s:A→Prop}{t:A→Prop}{v:A→Prop}{w:A→Prop}{x:A→Prop}{y:A→Prop}{p':A→Prop}{q':A→Prop}(a:A)(h0:p a)(h1:q a)(h2:r a)(h3:s a)(h4:t a)(h5:v a)(h6:w a)(h7:x a)(h8:y a)(h9:p' a)(h10:q' a):∃ a,p a∧q a∧r a∧s a∧t a∧v a∧w a∧x a∧y a∧p' a∧q' a:=(Exists.intro a (iAAAA h0 h1 h2 h3 (iAAAA h4 h5 h6 h7 (iAA h8 h9 h10))))
theorem uEAAAAAAAAAA{p:A→Prop}{q:A→Prop}{r:A→Prop}{s:A→Prop}{t:A→Prop}{v:A→Prop}{w:A→Prop}{x:A→Prop}{y:A→Prop}{p':A→Prop}{q':A→Prop}(h:∃ a,p a∧q a∧r a∧s a∧t a∧v a∧w a∧x a∧y a∧p' a∧q' a)(k:∀(a:A)(V:p a)(V:q a)(V:r a)(V:s a)(V:t a)(V:v a)(V:w a)(V:x a)(V:y a)(V:p' a)(V:q' a),z):z:=uE h fun a h=>uAAAA h fun h0 h1 h2 h3 h=>uAAAA h fun h4 h5 h6 h7 h=>uAA h fun h8 h9 h10=>k a h0 h1 h2 h3 h4 h5 h6 h7 h8 h9 h10
theorem iEAEEEAAAAAAA{p:A→Prop}{q:A→B→C→D→Prop}{r:A→B→C→D→Prop}{s:A→B→C→D→Prop}{t:A→B→C→D→Prop}{v:A→B→C→D→Prop}{w:A→B→C→D→Prop}{x:A→B→C→D→Prop}{y:A→B→C→D→Prop}(a:A)(h0:p a)(b:B)(c:C)(d:D)(h1:q a b c d)(h2:r a b c d)(h3:s a b c d)(h4:t a b c d)(h5:v a b c d)(h6:w a b c d)(h7:x a b c d)(h8:y a b c d):∃ a,p a∧∃ b,∃ c,∃ d,q a b c d∧r a b c d∧s a b c d∧t a b c d∧v a b c d∧w a b c d∧x a b c d∧y a b c d:=(Exists.intro a (And.intro h0 (iEEE b c d (iAAAA h1 h2 h3 h4 (iAAA h5 h6 h7 h8)))))
theorem iEEEEEAAAAAAA{p:A→B→C→D→F→Prop}{q:A→B→C→D→F→Prop}{r:A→B→C→D→F→Prop}{s:A→B→C→D→F→Prop}{t:A→B→C→D→F→Prop}{v:A→B→C→D→F→Prop}{w:A→B→C→D→F→Prop}{x:A→B→C→D→F→Prop}(a:A)(b:B)(c:C)(d:D)(e:F)(h0:p a b c d e)(h1:q a b c d e)(h2:r a b c d e)(h3:s a b c d e)(h4:t a b c d e)(h5:v a b c d e)(h6:w a b c d e)(h7:x a b c d e):∃ a,∃ b,∃ c,∃ d,∃ e,p a b c d e∧q a b c d e∧r a b c d e∧s a b c d e∧t a b c d e∧v a b c d e∧w a b c d e∧x a b c d e:=(iEEEE a b c d (Exists.intro e (iAAAA h0 h1 h2 h3 (iAAA h4 h5 h6 h7))))
theorem uEEEEEAAAAAAA{p:A→B→C→D→F→Prop}{q:A→B→C→D→F→Prop}{r:A→B→C→D→F→Prop}{s:A→B→C→D→F→Prop}{t:A→B→C→D→F→Prop}{v:A→B→C→D→F→Prop}{w:A→B→C→D→F→Prop}{x:A→B→C→D→F→Prop}(h:∃ a,∃ b,∃ c,∃ d,∃ e,p a b c d e∧q a b c d e∧r a b c d e∧s a b c d e∧t a b c d e∧v a b c d e∧w a b c d e∧x a b c d e)(k:∀(a:A)(b:B)(c:C)(d:D)(e:F)(V:p a b c d e)(V:q a b c d e)(V:r a b c d e)(V:s a b c d e)(V:t a b c d e)(V:v a b c d e)(V:w a b c d e)(V:x a b c d e),z):z:=uEEEE h fun a b c d h=>uE h fun e h=>uAAAA h fun h0 h1 h2 h3 h=>uAAA h fun h4 h5 h6 h7=>k a b c d e h0 h1 h2 h3 h4 h5 h6 h7
theorem iEEEAAAAAAAAAA{p:A→B→C→Prop}{q:A→B→C→Prop}{r:A→B→C→Prop}{s:A→B→C→Prop}{t:A→B→C→Prop}{v:A→B→C→Prop}{w:A→B→C→Prop}{x:A→B→C→Prop}{y:A→B→C→Prop}{p':A→B→C→Prop}{q':A→B→C→Prop}(a:A)(b:B)(c:C)(h0:p a b c)(h1:q a b c)(h2:r a b c)(h3:s a b c)(h4:t a b c)(h5:v a b c)(h6:w a b c)(h7:x a b c)(h8:y a b c)(h9:p' a b c)(h10:q' a b c):∃ a,∃ b,∃ c,p a b c∧q a b c∧r a b c∧s a b c∧t a b c∧v a b c∧w a b c∧x a b c∧y a b c∧p' a b c∧q' a b c:=(iEEE a b c (iAAAA h0 h1 h2 h3 (iAAAA h4 h5 h6 h7 (iAA h8 h9 h10))))
theorem iEEEEEAAAAAAAA{p:A→B→C→D→F→Prop}{q:A→B→C→D→F→Prop}{r:A→B→C→D→F→Prop}{s:A→B→C→D→F→Prop}{t:A→B→C→D→F→Prop}{v:A→B→C→D→F→Prop}{w:A→B→C→D→F→Prop}{x:A→B→C→D→F→Prop}{y:A→B→C→D→F→Prop}(a:A)(b:B)(c:C)(d:D)(e:F)(h0:p a b c d e)(h1:q a b c d e)(h2:r a b c d e)(h3:s a b c d e)(h4:t a b c d e)(h5:v a b c d e)(h6:w a b c d e)(h7:x a b c d e)(h8:y a b c d e):∃ a,∃ b,∃ c,∃ d,∃ e,p a b c d e∧q a b c d e∧r a b c d e∧s a b c d e∧t a b c d e∧v a b c d e∧w a b c d e∧x a b c d e∧y a b c d e:=(iEEEE a b c d (Exists.intro e (iAAAA h0 h1 h2 h3 (iAAAA h4 h5 h6 h7 h8))))
theorem iEEEEEEEEAAAAA{p:A→B→C→D→F→G→H→I→Prop}{q:A→B→C→D→F→G→H→I→Prop}{r:A→B→C→D→F→G→H→I→Prop}{s:A→B→C→D→F→G→H→I→Prop}{t:A→B→C→D→F→G→H→I→Prop}{v:A→B→C→D→F→G→H→I→Prop}(a:A)(b:B)(c:C)(d:D)(e:F)(f:G)(g:H)(i:I)(h0:p a b c d e f g i)(h1:q a b c d e f g i)(h2:r a b c d e f g i)(h3:s a b c d e f g i)(h4:t a b c d e f g i)(h5:v a b c d e f g i):∃ a,∃ b,∃ c,∃ d,∃ e,∃ f,∃ g,∃ i,p a b c d e f g i∧q a b c d e f g i∧r a b c d e f g i∧s a b c d e f g i∧t a b c d e f g i∧v a b c d e f g i:=(iEEEE a b c d (iEEEE e f g i (iAAAA h0 h1 h2 h3 (And.intro h4 h5))))
theorem uEEEAAAAAAAAAA{p:A→B→C→Prop}{q:A→B→C→Prop}{r:A→B→C→Prop}{s:A→B→C→Prop}{t:A→B→C→Prop}{v:A→B→C→Prop}{w:A→B→C→Prop}{x:A→B→C→Prop}{y:A→B→C→Prop}{p':A→B→C→Prop}{q':A→B→C→Prop}(h:∃ a,∃ b,∃ c,p a b c∧q a b c∧r a b c∧s a b c∧t a b c∧v a b c∧w a b c∧x a b c∧y a b c∧p' a b c∧q' a b c)(k:∀(a:A)(b:B)(c:C)(V:p a b c)(V:q a b c)(V:r a b c)(V:s a b c)(V:t a b c)(V:v a b c)(V:w a b c)(V:x a b c)(V:y a b c)(V:p' a b c)(V:q' a b c),z):z:=uEEE h fun a b c h=>uAAAA h fun h0 h1 h2 h3 h=>uAAAA h fun h4 h5 h6 h7 h=>uAA h fun h8 h9 h10=>k a b c h0 h1 h2 h3 h4 h5 h6 h7 h8 h9 h10
theorem uEEEEEAAAAAAAA{p:A→B→C→D→F→Prop}{q:A→B→C→D→F→Prop}{r:A→B→C→D→F→Prop}{s:A→B→C→D→F→Prop}{t:A→B→C→D→F→Prop}{v:A→B→C→D→F→Prop}{w:A→B→C→D→F→Prop}{x:A→B→C→D→F→Prop}{y:A→B→C→D→F→Prop}(h:∃ a,∃ b,∃ c,∃ d,∃ e,p a b c d e∧q a b c d e∧r a b c d e∧s a b c d e∧t a b c d e∧v a b c d e∧w a b c d e∧x a b c d e∧y a b c d e)(k:∀(a:A)(b:B)(c:C)(d:D)(e:F)(V:p a b c d e)(V:q a b c d e)(V:r a b c d e)(V:s a b c d e)(V:t a b c d e)(V:v a b c d e)(V:w a b c d e)(V:x a b c d e)(V:y a b c d e),z):z:=uEEEE h fun a b c d h=>uE h fun e h=>uAAAA h fun h0 h1 h2 h3 h=>uAAAA h fun h4 h5 h6 h7 h8=>k a b c d e h0 h1 h2 h3 h4 h5 h6 h7 h8
theorem uEEEEEEEEAAAAA{p:A→B→C→D→F→G→H→I→Prop}{q:A→B→C→D→F→G→H→I→Prop}{r:A→B→C→D→F→G→H→I→Prop}{s:A→B→C→D→F→G→H→I→Prop}{t:A→B→C→D→F→G→H→I→Prop}{v:A→B→C→D→F→G→H→I→Prop}(h:∃ a,∃ b,∃ c,∃ d,∃ e,∃ f,∃ g,∃ i,p a b c d e f g i∧q a b c d e f g i∧r a b c d e f g i∧s a b c d e f g i∧t a b c d e f g i∧v a b c d e f g i)(k:∀(a:A)(b:B)(c:C)(d:D)(e:F)(f:G)(g:H)(i:I)(V:p a b c d e f g i)(V:q a b c d e f g i)(V:r a b c d e f g i)(V:s a b c d e f g i)(V:t a b c d e f g i)(V:v a b c d e f g i),z):z:=uEEEE h fun a b c d h=>uEEEE h fun e f g i h=>uAAAA h fun h0 h1 h2 h3 h=>uA h fun h4 h5=>k a b c d e f g i h0 h1 h2 h3 h4 h5
theorem iEEEEEEEEAAAAAA{p:A→B→C→D→F→G→H→I→Prop}{q:A→B→C→D→F→G→H→I→Prop}{r:A→B→C→D→F→G→H→I→Prop}{s:A→B→C→D→F→G→H→I→Prop}{t:A→B→C→D→F→G→H→I→Prop}{v:A→B→C→D→F→G→H→I→Prop}{w:A→B→C→D→F→G→H→I→Prop}(a:A)(b:B)(c:C)(d:D)(e:F)(f:G)(g:H)(i:I)(h0:p a b c d e f g i)(h1:q a b c d e f g i)(h2:r a b c d e f g i)(h3:s a b c d e f g i)(h4:t a b c d e f g i)(h5:v a b c d e f g i)(h6:w a b c d e f g i):∃ a,∃ b,∃ c,∃ d,∃ e,∃ f,∃ g,∃ i,p a b c d e f g i∧q a b c d e f g i∧r a b c d e f g i∧s a b c d e f g i∧t a b c d e f g i∧v a b c d e f g i∧w a b c d e f g i:=(iEEEE a b c d (iEEEE e f g i (iAAAA h0 h1 h2 h3 (iAA h4 h5 h6))))
theorem iEAEEEAAAAAAAAAA{p:A→Prop}{q:A→B→C→D→Prop}{r:A→B→C→D→Prop}{s:A→B→C→D→Prop}{t:A→B→C→D→Prop}{v:A→B→C→D→Prop}{w:A→B→C→D→Prop}{x:A→B→C→D→Prop}{y:A→B→C→D→Prop}{p':A→B→C→D→Prop}{q':A→B→C→D→Prop}{r':A→B→C→D→Prop}(a:A)(h0:p a)(b:B)(c:C)(d:D)(h1:q a b c d)(h2:r a b c d)(h3:s a b c d)(h4:t a b c d)(h5:v a b c d)(h6:w a b c d)(h7:x a b c d)(h8:y a b c d)(h9:p' a b c d)(h10:q' a b c d)(h11:r' a b c d):∃ a,p a∧∃ b,∃ c,∃ d,q a b c d∧r a b c d∧s a b c d∧t a b c d∧v a b c d∧w a b c d∧x a b c d∧y a b c d∧p' a b c d∧q' a b c d∧r' a b c d:=(Exists.intro a (And.intro h0 (iEEE b c d (iAAAA h1 h2 h3 h4 (iAAAA h5 h6 h7 h8 (iAA h9 h10 h11))))))
end
open PySem PyProof.Rows PySem.W
section
noncomputable abbrev pw:Program:=PySem.Challenge.rw_sa0040_01.row.toRowW.1
noncomputable def nthS:Nat→List Stmt→Stmt
 |_,[]=>.Pass default
 |0,s::_=>s
 |n+1,_::l=>nthS n l
noncomputable def clBody:Stmt→List Stmt
 |.ClassDef (body:=b) ..=>b
 |_=>[]
noncomputable def top(i:Nat):Stmt:=nthS i pw.main.body
noncomputable def meth(i j:Nat):Stmt:=nthS j (clBody (top i))
noncomputable def fnO(st:Stmt)(q mod:Str)(k:Nat)(c:Addr):Obj:=match st with
 |.FunctionDef (name:=n) (args:=a) (body:=b) (scope:=sc) ..=>{cls:=.type "function",data:=.func {name:=n,qualname:=q,params:=a,body:=.stmts b,scope:={kind:=sc.kind,names:=sc.names,isGenerator:=sc.isGenerator,isCoroutine:=sc.isCoroutine,more:=sc.more},globals:=3,closure:=[],defaults:=.none,kwdefaults:=.none,pyModule:=.str mod k,code:=.ref c}}
 |_=>default
noncomputable def sv(x:Str)(t:Nat):Value:=.str x t
noncomputable def en(P:Params)(x:Str)(t:Nat)(v:Value):DictEntry:={hash:=PyData.keyHash P x,key:=.str x t,val:=v}
noncomputable def clO(n:Str)(a ns:Addr)(t u:Nat):Obj:={cls:=.type "type",data:=.cls {name:=n,bases:=[.type "object"],mro:=[.ref a,.type "object"],ns:=ns,qualname:=n},slots:=#[none,none,some (.str n t),some (.str n u),some (.builtin "object.__new__"),some (.bool true)]}
noncomputable def KF(P:Params):Frag:=[
 (3,{cls:=.type "dict",data:=.dict #[en P "__name__" 165 (sv "law_sa0040_01" 824),en P "__doc__" 166 (.none),en P "__package__" 167 (.none),en P "__loader__" 168 (.builtin "__main__.__loader__#opaque"),en P "__spec__" 169 (.none),en P "__annotations__" 170 (.ref 6),en P "__builtins__" 171 (.ref 4),en P "__file__" 173 (sv "/claim/cut.py" 172),en P "__cached__" 174 (.none),en P "_wall" 193 (.ref 21),en P "HeapError" 233 (.ref 47),en P "TermFault" 249 (.ref 60),en P "LimitFault" 265 (.ref 72),en P "is_op" 273 (.ref 79),en P "is_variable" 280 (.ref 86),en P "size" 286 (.ref 91),en P "placed" 292 (.ref 96),en P "parts" 298 (.ref 101),en P "matched" 310 (.ref 108),en P "key_of" 316 (.ref 113),en P "Bank" 447 (.ref 215),en P "MOST_PATTERNS" 451 (.int 2000 450),en P "common" 459 (.ref 226),en P "common_of" 466 (.ref 233),en P "common_at" 472 (.ref 238),en P "is_covered" 480 (.ref 245),en P "named" 486 (.ref 250),en P "HeapCommon" 552 (.ref 291),en P "Unions" 656 (.ref 373),en P "Heap" 823 (.ref 503),en P "_law_pick" 833 (.ref 514),en P "_law_hand" 839 (.ref 519),en P "_law_term" 845 (.ref 524),en P "_law_bent" 851 (.ref 529),en P "_law_shared" 857 (.ref 534),en P "_law_fits" 863 (.ref 539),en P "_law_joined" 869 (.ref 544),en P "law" 875 (.ref 549)] 38}),
 (78,{cls:=.type "code",data:=.fields #[sv "is_op" 268,sv "is_op" 269,sv "/claim/cut.py" 270,.int 18 0,.int 1 0,.int 0 0,.int 0 0,.int 3 0,.ref 75,.bool true,.int 181 0,.ref 76,.none,.none,.none,.ref 77,.int 271 0,.int 18 0,sv "/claim/cut.py" 272]}),
 (79,fnO (top 6) "is_op" "alikeheap.terms" 266 78),
 (85,{cls:=.type "code",data:=.fields #[sv "is_variable" 274,sv "is_variable" 275,sv "/claim/cut.py" 276,.int 20 0,.int 1 0,.int 0 0,.int 0 0,.int 3 0,.ref 80,.bool true,.int 181 0,.ref 81,.none,.ref 82,.ref 83,.ref 84,.int 278 0,.int 20 0,sv "/claim/cut.py" 279]}),
 (86,fnO (top 7) "is_variable" "alikeheap.terms" 266 85),
 (90,{cls:=.type "code",data:=.fields #[sv "size" 281,sv "size" 282,sv "/claim/cut.py" 283,.int 22 0,.int 1 0,.int 0 0,.int 0 0,.int 3 0,.ref 87,.bool true,.int 181 0,.ref 88,.none,.none,.none,.ref 89,.int 284 0,.int 22 0,sv "/claim/cut.py" 285]}),
 (91,fnO (top 8) "size" "alikeheap.terms" 266 90),
 (95,{cls:=.type "code",data:=.fields #[sv "placed" 287,sv "placed" 288,sv "/claim/cut.py" 289,.int 24 0,.int 2 0,.int 0 0,.int 0 0,.int 3 0,.ref 92,.bool true,.int 181 0,.ref 93,.none,.none,.none,.ref 94,.int 290 0,.int 24 0,sv "/claim/cut.py" 291]}),
 (96,fnO (top 9) "placed" "alikeheap.terms" 266 95),
 (100,{cls:=.type "code",data:=.fields #[sv "parts" 293,sv "parts" 294,sv "/claim/cut.py" 295,.int 30 0,.int 1 0,.int 0 0,.int 0 0,.int 3 0,.ref 97,.bool true,.int 181 0,.ref 98,.none,.none,.none,.ref 99,.int 296 0,.int 30 0,sv "/claim/cut.py" 297]}),
 (101,fnO (top 10) "parts" "alikeheap.terms" 266 100),
 (107,{cls:=.type "code",data:=.fields #[sv "matched" 299,sv "matched" 300,sv "/claim/cut.py" 301,.int 35 0,.int 2 0,.int 0 0,.int 0 0,.int 3 0,.ref 102,.bool true,.int 181 0,.ref 103,.none,.ref 104,.ref 105,.ref 106,.int 308 0,.int 35 0,sv "/claim/cut.py" 309]}),
 (108,fnO (top 11) "matched" "alikeheap.terms" 266 107),
 (112,{cls:=.type "code",data:=.fields #[sv "key_of" 311,sv "key_of" 312,sv "/claim/cut.py" 313,.int 47 0,.int 1 0,.int 0 0,.int 0 0,.int 3 0,.ref 109,.bool true,.int 181 0,.ref 110,.none,.none,.none,.ref 111,.int 314 0,.int 47 0,sv "/claim/cut.py" 315]}),
 (113,fnO (top 12) "key_of" "alikeheap.terms" 266 112),
 (126,{cls:=.type "code",data:=.fields #[sv "__init__" 329,sv "Bank.__init__" 330,sv "/claim/cut.py" 331,.int 52 0,.int 1 0,.int 0 0,.int 0 0,.int 3 0,.ref 121,.bool true,.int 181 0,.ref 122,.none,.ref 123,.ref 124,.ref 125,.int 333 0,.int 52 0,sv "/claim/cut.py" 334]}),
 (127,fnO (meth 13 0) "Bank.__init__" "alikeheap.terms" 266 126),
 (133,{cls:=.type "code",data:=.fields #[sv "size" 336,sv "Bank.size" 337,sv "/claim/cut.py" 338,.int 58 0,.int 1 0,.int 0 0,.int 0 0,.int 3 0,.ref 128,.bool true,.int 181 0,.ref 129,.none,.ref 130,.ref 131,.ref 132,.int 340 0,.int 58 0,sv "/claim/cut.py" 341]}),
 (134,fnO (meth 13 1) "Bank.size" "alikeheap.terms" 266 133),
 (138,{cls:=.type "code",data:=.fields #[sv "take" 343,sv "Bank.take" 344,sv "/claim/cut.py" 345,.int 61 0,.int 3 0,.int 0 0,.int 0 0,.int 3 0,.ref 135,.bool true,.int 181 0,.ref 136,.none,.none,.none,.ref 137,.int 346 0,.int 61 0,sv "/claim/cut.py" 347]}),
 (139,fnO (meth 13 2) "Bank.take" "alikeheap.terms" 266 138),
 (145,{cls:=.type "code",data:=.fields #[sv "require" 349,sv "Bank.require" 350,sv "/claim/cut.py" 351,.int 75 0,.int 2 0,.int 0 0,.int 0 0,.int 3 0,.ref 140,.bool true,.int 181 0,.ref 141,.none,.ref 142,.ref 143,.ref 144,.int 354 0,.int 75 0,sv "/claim/cut.py" 355]}),
 (146,fnO (meth 13 3) "Bank.require" "alikeheap.terms" 266 145),
 (171,{cls:=.type "code",data:=.fields #[sv "op" 381,sv "Bank.op" 382,sv "/claim/cut.py" 383,.int 90 0,.int 2 0,.int 0 0,.int 0 0,.int 3 0,.ref 166,.bool true,.int 181 0,.ref 167,.none,.ref 168,.ref 169,.ref 170,.int 386 0,.int 90 0,sv "/claim/cut.py" 387]}),
 (172,fnO (meth 13 7) "Bank.op" "alikeheap.terms" 266 171),
 (178,{cls:=.type "code",data:=.fields #[sv "kids" 389,sv "Bank.kids" 390,sv "/claim/cut.py" 391,.int 93 0,.int 2 0,.int 0 0,.int 0 0,.int 3 0,.ref 173,.bool true,.int 181 0,.ref 174,.none,.ref 175,.ref 176,.ref 177,.int 394 0,.int 93 0,sv "/claim/cut.py" 395]}),
 (179,fnO (meth 13 8) "Bank.kids" "alikeheap.terms" 266 178),
 (214,{cls:=.type "dict",data:=.dict #[en P "__module__" 324 (sv "alikeheap.terms" 266),en P "__firstlineno__" 328 (.int 50 327),en P "__init__" 335 (.ref 127),en P "size" 342 (.ref 134),en P "take" 348 (.ref 139),en P "require" 356 (.ref 146),en P "put" 366 (.ref 153),en P "put_all" 372 (.ref 158),en P "cut" 380 (.ref 165),en P "op" 388 (.ref 172),en P "kids" 396 (.ref 179),en P "node" 404 (.ref 186),en P "term" 410 (.ref 191),en P "weight" 418 (.ref 198),en P "depth" 426 (.ref 205),en P "seek" 435 (.ref 212),en P "__static_attributes__" 440 (.ref 213),en P "__dict__" 442 (.ref 216),en P "__weakref__" 444 (.ref 217),en P "__doc__" 445 (.none)] 4}),
 (215,clO "Bank" 215 214 317 325),
 (225,{cls:=.type "code",data:=.fields #[sv "common" 452,sv "common" 453,sv "/claim/cut.py" 454,.int 121 0,.int 2 0,.int 0 0,.int 0 0,.int 3 0,.ref 220,.bool true,.int 181 0,.ref 221,.none,.ref 222,.ref 223,.ref 224,.int 457 0,.int 121 0,sv "/claim/cut.py" 458]}),
 (226,fnO (top 16) "common" "alikeheap.counting" 448 225),
 (232,{cls:=.type "code",data:=.fields #[sv "common_of" 460,sv "common_of" 461,sv "/claim/cut.py" 462,.int 123 0,.int 1 0,.int 0 0,.int 0 0,.int 3 0,.ref 227,.bool true,.int 181 0,.ref 228,.none,.ref 229,.ref 230,.ref 231,.int 464 0,.int 123 0,sv "/claim/cut.py" 465]}),
 (233,fnO (top 17) "common_of" "alikeheap.counting" 448 232),
 (237,{cls:=.type "code",data:=.fields #[sv "common_at" 467,sv "common_at" 468,sv "/claim/cut.py" 469,.int 125 0,.int 2 0,.int 0 0,.int 0 0,.int 3 0,.ref 234,.bool true,.int 181 0,.ref 235,.none,.none,.none,.ref 236,.int 470 0,.int 125 0,sv "/claim/cut.py" 471]}),
 (238,fnO (top 18) "common_at" "alikeheap.counting" 448 237),
 (244,{cls:=.type "code",data:=.fields #[sv "is_covered" 473,sv "is_covered" 474,sv "/claim/cut.py" 475,.int 133 0,.int 2 0,.int 0 0,.int 0 0,.int 3 0,.ref 239,.bool true,.int 181 0,.ref 240,.none,.ref 241,.ref 242,.ref 243,.int 478 0,.int 133 0,sv "/claim/cut.py" 479]}),
 (245,fnO (top 19) "is_covered" "alikeheap.counting" 448 244),
 (249,{cls:=.type "code",data:=.fields #[sv "named" 481,sv "named" 482,sv "/claim/cut.py" 483,.int 135 0,.int 2 0,.int 0 0,.int 0 0,.int 3 0,.ref 246,.bool true,.int 181 0,.ref 247,.none,.none,.none,.ref 248,.int 484 0,.int 135 0,sv "/claim/cut.py" 485]}),
 (250,fnO (top 20) "named" "alikeheap.counting" 448 249),
 (263,{cls:=.type "code",data:=.fields #[sv "__init__" 499,sv "HeapCommon.__init__" 500,sv "/claim/cut.py" 501,.int 141 0,.int 2 0,.int 0 0,.int 0 0,.int 3 0,.ref 258,.bool true,.int 181 0,.ref 259,.none,.ref 260,.ref 261,.ref 262,.int 504 0,.int 141 0,sv "/claim/cut.py" 505]}),
 (264,fnO (meth 21 0) "HeapCommon.__init__" "alikeheap.counting" 448 263),
 (268,{cls:=.type "code",data:=.fields #[sv "common" 507,sv "HeapCommon.common" 508,sv "/claim/cut.py" 509,.int 146 0,.int 4 0,.int 0 0,.int 0 0,.int 3 0,.ref 265,.bool true,.int 181 0,.ref 266,.none,.none,.none,.ref 267,.int 510 0,.int 146 0,sv "/claim/cut.py" 511]}),
 (269,fnO (meth 21 1) "HeapCommon.common" "alikeheap.counting" 448 268),
 (275,{cls:=.type "code",data:=.fields #[sv "limited" 513,sv "HeapCommon.limited" 514,sv "/claim/cut.py" 515,.int 156 0,.int 2 0,.int 0 0,.int 0 0,.int 3 0,.ref 270,.bool true,.int 181 0,.ref 271,.none,.ref 272,.ref 273,.ref 274,.int 518 0,.int 156 0,sv "/claim/cut.py" 519]}),
 (276,fnO (meth 21 2) "HeapCommon.limited" "alikeheap.counting" 448 275),
 (282,{cls:=.type "code",data:=.fields #[sv "shared" 521,sv "HeapCommon.shared" 522,sv "/claim/cut.py" 523,.int 160 0,.int 4 0,.int 0 0,.int 0 0,.int 3 0,.ref 277,.bool true,.int 181 0,.ref 278,.none,.ref 279,.ref 280,.ref 281,.int 533 0,.int 160 0,sv "/claim/cut.py" 534]}),
 (283,fnO (meth 21 3) "HeapCommon.shared" "alikeheap.counting" 448 282),
 (287,{cls:=.type "code",data:=.fields #[sv "spread" 536,sv "HeapCommon.spread" 537,sv "/claim/cut.py" 538,.int 173 0,.int 4 0,.int 0 0,.int 0 0,.int 3 0,.ref 284,.bool true,.int 181 0,.ref 285,.none,.none,.none,.ref 286,.int 539 0,.int 173 0,sv "/claim/cut.py" 540]}),
 (288,fnO (meth 21 4) "HeapCommon.spread" "alikeheap.counting" 448 287),
 (290,{cls:=.type "dict",data:=.dict #[en P "__module__" 494 (sv "alikeheap.counting" 448),en P "__firstlineno__" 498 (.int 139 497),en P "__init__" 506 (.ref 264),en P "common" 512 (.ref 269),en P "limited" 520 (.ref 276),en P "shared" 535 (.ref 283),en P "spread" 541 (.ref 288),en P "__static_attributes__" 545 (.ref 289),en P "__dict__" 547 (.ref 292),en P "__weakref__" 549 (.ref 293),en P "__doc__" 550 (.none)] 4}),
 (291,clO "HeapCommon" 291 290 487 495),
 (308,{cls:=.type "code",data:=.fields #[sv "__init__" 567,sv "Unions.__init__" 568,sv "/claim/cut.py" 569,.int 190 0,.int 1 0,.int 0 0,.int 0 0,.int 3 0,.ref 303,.bool true,.int 181 0,.ref 304,.none,.ref 305,.ref 306,.ref 307,.int 571 0,.int 190 0,sv "/claim/cut.py" 572]}),
 (309,fnO (meth 23 0) "Unions.__init__" "alikeheap.unions" 553 308),
 (315,{cls:=.type "code",data:=.fields #[sv "make" 574,sv "Unions.make" 575,sv "/claim/cut.py" 576,.int 195 0,.int 1 0,.int 0 0,.int 0 0,.int 3 0,.ref 310,.bool true,.int 181 0,.ref 311,.none,.ref 312,.ref 313,.ref 314,.int 578 0,.int 195 0,sv "/claim/cut.py" 579]}),
 (316,fnO (meth 23 1) "Unions.make" "alikeheap.unions" 553 315),
 (322,{cls:=.type "code",data:=.fields #[sv "size" 581,sv "Unions.size" 582,sv "/claim/cut.py" 583,.int 200 0,.int 1 0,.int 0 0,.int 0 0,.int 3 0,.ref 317,.bool true,.int 181 0,.ref 318,.none,.ref 319,.ref 320,.ref 321,.int 585 0,.int 200 0,sv "/claim/cut.py" 586]}),
 (323,fnO (meth 23 2) "Unions.size" "alikeheap.unions" 553 322),
 (329,{cls:=.type "code",data:=.fields #[sv "find" 588,sv "Unions.find" 589,sv "/claim/cut.py" 590,.int 203 0,.int 2 0,.int 0 0,.int 0 0,.int 3 0,.ref 324,.bool true,.int 181 0,.ref 325,.none,.ref 326,.ref 327,.ref 328,.int 593 0,.int 203 0,sv "/claim/cut.py" 594]}),
 (330,fnO (meth 23 3) "Unions.find" "alikeheap.unions" 553 329),
 (343,{cls:=.type "code",data:=.fields #[sv "members" 607,sv "Unions.members" 608,sv "/claim/cut.py" 609,.int 217 0,.int 2 0,.int 0 0,.int 0 0,.int 3 0,.ref 338,.bool true,.int 181 0,.ref 339,.none,.ref 340,.ref 341,.ref 342,.int 612 0,.int 217 0,sv "/claim/cut.py" 613]}),
 (344,fnO (meth 23 5) "Unions.members" "alikeheap.unions" 553 343),
 (372,{cls:=.type "dict",data:=.dict #[en P "__module__" 562 (sv "alikeheap.unions" 553),en P "__firstlineno__" 566 (.int 188 565),en P "__init__" 573 (.ref 309),en P "make" 580 (.ref 316),en P "size" 587 (.ref 323),en P "find" 595 (.ref 330),en P "merge" 606 (.ref 337),en P "members" 614 (.ref 344),en P "classes" 620 (.ref 349),en P "log" 627 (.ref 356),en P "back" 637 (.ref 363),en P "cut" 645 (.ref 370),en P "__static_attributes__" 649 (.ref 371),en P "__dict__" 651 (.ref 374),en P "__weakref__" 653 (.ref 375),en P "__doc__" 654 (.none)] 4}),
 (373,clO "Unions" 373 372 555 563),
 (390,{cls:=.type "code",data:=.fields #[sv "__init__" 671,sv "Heap.__init__" 672,sv "/claim/cut.py" 673,.int 237 0,.int 1 0,.int 0 0,.int 0 0,.int 3 0,.ref 385,.bool true,.int 181 0,.ref 386,.none,.ref 387,.ref 388,.ref 389,.int 675 0,.int 237 0,sv "/claim/cut.py" 676]}),
 (391,fnO (meth 25 0) "Heap.__init__" "alikeheap.heap" 657 390),
 (402,{cls:=.type "code",data:=.fields #[sv "node" 685,sv "Heap.node" 686,sv "/claim/cut.py" 687,.int 250 0,.int 2 0,.int 0 0,.int 0 0,.int 3 0,.ref 399,.bool true,.int 181 0,.ref 400,.none,.none,.none,.ref 401,.int 688 0,.int 250 0,sv "/claim/cut.py" 689]}),
 (403,fnO (meth 25 2) "Heap.node" "alikeheap.heap" 657 402),
 (407,{cls:=.type "code",data:=.fields #[sv "add" 691,sv "Heap.add" 692,sv "/claim/cut.py" 693,.int 253 0,.int 3 0,.int 0 0,.int 0 0,.int 3 0,.ref 404,.bool true,.int 181 0,.ref 405,.none,.none,.none,.ref 406,.int 694 0,.int 253 0,sv "/claim/cut.py" 695]}),
 (408,fnO (meth 25 3) "Heap.add" "alikeheap.heap" 657 407),
 (412,{cls:=.type "code",data:=.fields #[sv "put" 697,sv "Heap.put" 698,sv "/claim/cut.py" 699,.int 264 0,.int 2 0,.int 0 0,.int 0 0,.int 3 0,.ref 409,.bool true,.int 181 0,.ref 410,.none,.none,.none,.ref 411,.int 700 0,.int 264 0,sv "/claim/cut.py" 701]}),
 (413,fnO (meth 25 4) "Heap.put" "alikeheap.heap" 657 412),
 (419,{cls:=.type "code",data:=.fields #[sv "look_at" 703,sv "Heap.look_at" 704,sv "/claim/cut.py" 705,.int 267 0,.int 2 0,.int 0 0,.int 0 0,.int 3 0,.ref 414,.bool true,.int 181 0,.ref 415,.none,.ref 416,.ref 417,.ref 418,.int 709 0,.int 267 0,sv "/claim/cut.py" 710]}),
 (420,fnO (meth 25 5) "Heap.look_at" "alikeheap.heap" 657 419),
 (426,{cls:=.type "code",data:=.fields #[sv "find" 712,sv "Heap.find" 713,sv "/claim/cut.py" 714,.int 272 0,.int 2 0,.int 0 0,.int 0 0,.int 3 0,.ref 421,.bool true,.int 181 0,.ref 422,.none,.ref 423,.ref 424,.ref 425,.int 717 0,.int 272 0,sv "/claim/cut.py" 718]}),
 (427,fnO (meth 25 6) "Heap.find" "alikeheap.heap" 657 426),
 (475,{cls:=.type "code",data:=.fields #[sv "members" 773,sv "Heap.members" 774,sv "/claim/cut.py" 775,.int 301 0,.int 2 0,.int 0 0,.int 0 0,.int 3 0,.ref 470,.bool true,.int 181 0,.ref 471,.none,.ref 472,.ref 473,.ref 474,.int 778 0,.int 301 0,sv "/claim/cut.py" 779]}),
 (476,fnO (meth 25 13) "Heap.members" "alikeheap.heap" 657 475),
 (480,{cls:=.type "code",data:=.fields #[sv "nodes_of" 781,sv "Heap.nodes_of" 782,sv "/claim/cut.py" 783,.int 304 0,.int 2 0,.int 0 0,.int 0 0,.int 3 0,.ref 477,.bool true,.int 181 0,.ref 478,.none,.none,.none,.ref 479,.int 784 0,.int 304 0,sv "/claim/cut.py" 785]}),
 (481,fnO (meth 25 14) "Heap.nodes_of" "alikeheap.heap" 657 480),
 (502,{cls:=.type "dict",data:=.dict #[en P "__module__" 666 (sv "alikeheap.heap" 657),en P "__firstlineno__" 670 (.int 235 669),en P "__init__" 677 (.ref 391),en P "size" 684 (.ref 398),en P "node" 690 (.ref 403),en P "add" 696 (.ref 408),en P "put" 702 (.ref 413),en P "look_at" 711 (.ref 420),en P "find" 719 (.ref 427),en P "are_like" 728 (.ref 434),en P "merge" 738 (.ref 441),en P "join" 751 (.ref 448),en P "settle" 758 (.ref 455),en P "is_settled" 765 (.ref 462),en P "classes" 772 (.ref 469),en P "members" 780 (.ref 476),en P "nodes_of" 786 (.ref 481),en P "many_nodes" 793 (.ref 488),en P "seek" 799 (.ref 493),en P "users" 807 (.ref 500),en P "__static_attributes__" 816 (.ref 501),en P "__dict__" 818 (.ref 504),en P "__weakref__" 820 (.ref 505),en P "__doc__" 821 (.none)] 4}),
 (503,clO "Heap" 503 502 659 667),
 (513,{cls:=.type "code",data:=.fields #[sv "_law_pick" 826,sv "_law_pick" 827,sv "/claim/cut.py" 828,.int 317 0,.int 2 0,.int 0 0,.int 0 0,.int 3 0,.ref 508,.bool true,.int 181 0,.ref 509,.none,.ref 510,.ref 511,.ref 512,.int 831 0,.int 317 0,sv "/claim/cut.py" 832]}),
 (514,fnO (top 27) "_law_pick" "law_sa0040_01" 824 513),
 (518,{cls:=.type "code",data:=.fields #[sv "_law_hand" 834,sv "_law_hand" 835,sv "/claim/cut.py" 836,.int 323 0,.int 1 0,.int 0 0,.int 0 0,.int 3 0,.ref 515,.bool true,.int 181 0,.ref 516,.none,.none,.none,.ref 517,.int 837 0,.int 323 0,sv "/claim/cut.py" 838]}),
 (519,fnO (top 28) "_law_hand" "law_sa0040_01" 824 518),
 (523,{cls:=.type "code",data:=.fields #[sv "_law_term" 840,sv "_law_term" 841,sv "/claim/cut.py" 842,.int 326 0,.int 2 0,.int 0 0,.int 0 0,.int 3 0,.ref 520,.bool true,.int 181 0,.ref 521,.none,.none,.none,.ref 522,.int 843 0,.int 326 0,sv "/claim/cut.py" 844]}),
 (524,fnO (top 29) "_law_term" "law_sa0040_01" 824 523),
 (528,{cls:=.type "code",data:=.fields #[sv "_law_bent" 846,sv "_law_bent" 847,sv "/claim/cut.py" 848,.int 332 0,.int 2 0,.int 0 0,.int 0 0,.int 3 0,.ref 525,.bool true,.int 181 0,.ref 526,.none,.none,.none,.ref 527,.int 849 0,.int 332 0,sv "/claim/cut.py" 850]}),
 (529,fnO (top 30) "_law_bent" "law_sa0040_01" 824 528),
 (533,{cls:=.type "code",data:=.fields #[sv "_law_shared" 852,sv "_law_shared" 853,sv "/claim/cut.py" 854,.int 339 0,.int 2 0,.int 0 0,.int 0 0,.int 3 0,.ref 530,.bool true,.int 181 0,.ref 531,.none,.none,.none,.ref 532,.int 855 0,.int 339 0,sv "/claim/cut.py" 856]}),
 (534,fnO (top 31) "_law_shared" "law_sa0040_01" 824 533),
 (538,{cls:=.type "code",data:=.fields #[sv "_law_fits" 858,sv "_law_fits" 859,sv "/claim/cut.py" 860,.int 344 0,.int 3 0,.int 0 0,.int 0 0,.int 3 0,.ref 535,.bool true,.int 181 0,.ref 536,.none,.none,.none,.ref 537,.int 861 0,.int 344 0,sv "/claim/cut.py" 862]}),
 (539,fnO (top 32) "_law_fits" "law_sa0040_01" 824 538),
 (543,{cls:=.type "code",data:=.fields #[sv "_law_joined" 864,sv "_law_joined" 865,sv "/claim/cut.py" 866,.int 350 0,.int 3 0,.int 0 0,.int 0 0,.int 3 0,.ref 540,.bool true,.int 181 0,.ref 541,.none,.none,.none,.ref 542,.int 867 0,.int 350 0,sv "/claim/cut.py" 868]}),
 (544,fnO (top 33) "_law_joined" "law_sa0040_01" 824 543),
 (548,{cls:=.type "code",data:=.fields #[sv "law" 870,sv "law" 871,sv "/claim/cut.py" 872,.int 354 0,.int 1 0,.int 0 0,.int 0 0,.int 3 0,.ref 545,.bool true,.int 181 0,.ref 546,.none,.none,.none,.ref 547,.int 873 0,.int 354 0,sv "/claim/cut.py" 874]}),
 (549,fnO (top 34) "law" "law_sa0040_01" 824 548)]
noncomputable def KA:List Addr:=[3,78,79,85,86,90,91,95,96,100,101,107,108,112,113,126,127,133,134,138,139,145,146,171,172,178,179,214,215,225,226,232,233,237,238,244,245,249,250,263,264,268,269,275,276,282,283,287,288,290,291,308,309,315,316,322,323,329,330,343,344,372,373,390,391,402,403,407,408,412,413,419,420,426,427,475,476,480,481,502,503,513,514,518,519,523,524,528,529,533,534,538,539,543,544,548,549]
end
section
theorem left_of{p q:Program}{loose:List Str}{Xt:Shared→Bool}{α:Type}{Yf:Shared→α}{Ya:World→α}{N:Nat}{g0:Bool}{H:Params→Heap}{gs:Array GenState}{d:Drawn}{k:Nat}{n:Nat}{ann:Option Value}{M:Nat}
  (open_:∀ w:World,(fencedOpening treeTable p w N).map (fun s=>(s.heap,s.gens,s.drawn,s.toks))=some (H w.params,gs,d,k))
  (size:∀ w:World,((H w.params).isNs mainGlobals&&gs.size == 0,(H w.params).objs.size,(H w.params).nsMap mainGlobals "__annotations__")=(true,n,ann))
  (le:M≤N)
  (run:∀(w:World)(os:OsState),∃ s,topRun treeTable p w n ann M ⟨H w.params,gs,d,k,os⟩ (topStub p)=some s∧
   (staticsOk (importedModules p.main.body) (H w.params) s.heap&&namesBound p s.heap&&gensDone s&&laidKept (H w.params) s.heap)=true∧openSeen q loose (importedModules p.main.body) Xt g0 s=openGood q loose∧Yf s=Ya w) :
  LeftO p q loose Xt Yf Ya N g0:=fun w=>by
 refine uEA (Option.map_eq_some_iff.mp (open_ w)) ?_;rintro⟨h,gs',d',k',os⟩ e e'
 obtain⟨rfl,e1⟩:=Prod.mk.inj e'
 obtain⟨rfl,e2⟩:=Prod.mk.inj e1
 obtain⟨rfl,rfl⟩:=Prod.mk.inj e2
 clear e' e1 e2
 have sz:=size w
 obtain⟨z1,z2⟩:=Prod.mk.inj sz
 obtain⟨z2,z3⟩:=Prod.mk.inj z2
 refine uEAAA (run w os) fun s r c o y=>?_
 have r':=topRun_mono (N-M) _ _ _ _ r
 rw[Nat.add_sub_cancel' le] at r'
 unfold openEnds
 rw[e]
 show Option.map _ (topFrom treeTable p w N _)=_
 have t:topFrom treeTable p w N ⟨H w.params,gs',d',k',os⟩=some s:=by
  unfold topFrom
  dsimp only
  rw[z1,z2,z3,r']
  show(match staticsOk (importedModules p.main.body) (H w.params) s.heap&&namesBound p s.heap&&gensDone s&&laidKept (H w.params) s.heap with|true=>_|false=>_)=_
  rw[c]
 rw[t]
 exact congrArg some (Prod.ext o y)
noncomputable abbrev ps0:Pos:={line:=0,col:=0,endLine:=0,endCol:=0}
noncomputable def env0:Env:={scope:=pw.main.scope,locals:=mainNs,globals:=mainNs,cells:=[],code:=.ref 13,frame:=some 14}
noncomputable abbrev bE:List Stmt:=behindTheImports pw
noncomputable abbrev cE:Code:=.body bE env0
noncomputable def T15(P:Params):BT:=
 .node (boot_o_0 P) (.node (boot_o_1 P) (.node (boot_o_3 P) (.node (boot_o_7 P) .nil .nil) (.node {cls:=.type "tuple",data:=.seq #[]} .nil .nil)) (.node (boot_o_5 P) (.node (boot_o_9 P) .nil .nil)
   (.node {cls:=.type "code",data:=.fields #[sv "<module>" 182,sv "<module>" 183,sv "/claim/cut.py" 184,.int 1 0,.int 0 0,.int 0 0,.int 0 0,.int 0 0,.ref 11,.bool false,.int 181 0,.ref 12,.none,.none,.none,.none,.int 185 0,.int 1 0,sv "/claim/cut.py" 186]} .nil .nil)))
  (.node (boot_o_2 P) (.node (boot_o_4 P) (.node (boot_o_8 P) .nil .nil) (.node {cls:=.none,data:=.fields #[]} .nil .nil)) (.node (boot_o_6 P) (.node (boot_o_10 P) .nil .nil)
   (.node {cls:=.type "frame",slots:=#[some (.ref 13),some (.ref 3),some (.ref 3),none,some (sv "__main__" 164),none,some (.ref 0)]} .nil .nil)))
noncomputable abbrev S15(w:World)(os:OsState):SharedT:={tree:=T15 w.params,n:=15,life:={},gens:={toList:=[]},drawn:={},toks:=187,os:=os}
noncomputable abbrev an:Option Value:=some (.ref 6)
noncomputable def vq:Program:={pw with main:={pw.main with body:=[top 0,top 2,top 3,top 4]++[top 6,top 7,top 8,top 9,top 10,top 11,top 12,top 13]++[top 15,top 16,top 17,top 18,top 19,top 20,top 21]++[top 23]++[top 25]++[top 27,top 28,top 29,top 30,top 31,top 32,top 33,top 34]}}
noncomputable abbrev XT(s:Shared):Bool:=xlAt vq [] s&&recOk (RowW.records PySem.Challenge.rw_sa0040_01.row.toRowW) s
theorem run_pre(w:World):(fun os=>topGo treeTable pw w 11 an 12 ⟨boot_heap w.params,{toList:=[]},boot_drawn,boot_toks,os⟩ (topStub pw))=fun os=>some ((S15 w os).abs,⟨denote treeTable cE,cE,ps0,[topFrame ps0]⟩):=by
 rw[Fast.te15667345088766844465,Fast.te14364793385576792824,Fast.te11892475500146522536]
 kernel_rfl
theorem run_block(w:World):(fun os=>segRun treeTable pw w 11 an 1 1 (S15 w os).abs (blockOf bE env0 cE ps0 [topFrame ps0]))=fun os=>some (Flow.next,(S15 w os).abs,cE,ps0):=by
 rw[Fast.te14374325043358763698,Fast.te14364793385576792824]
 kernel_rfl
theorem run_all(w:World):(fun os=>(segRunT treeTable pw w 11 an 1 3600 (S15 w os) (piecesOf bE env0 cE ps0 [topFrame ps0])).map fun r=>(r.1,r.2.2.1,(staticsOk (importedModules pw.main.body) (boot_heap w.params) r.2.1.abs.heap&&namesBound pw r.2.1.abs.heap&&gensDone r.2.1.abs&&laidKept (boot_heap w.params) r.2.1.abs.heap),
  openSeen vq [] (importedModules pw.main.body) XT true r.2.1.abs,KA.map r.2.1.abs.heap.get?))=fun V=>some (Flow.next,cE,true,openGood vq [],(KF w.params).map fun p=>some p.2):=by
 rw[Fast.te10110043849684766642,Fast.te14364793385576792824,Fast.te5923862056798008813,Fast.te4187177175401517315]
 kernel_rfl
end
theorem said_ok:PySem.Challenge.rw_sa0040_01.wellSaid=true:=by
 rw[Fast.te9446332074065402090]
 kernel_rfl
theorem fin_step(p:Program)(w:World)(s:Shared)(q:Pos):topRun treeTable p w 11 an 2 s ⟨doneF .next,cE,q,[topFrame ps0]⟩=some s:=by
 obtain⟨h,g,d,t,o⟩:=s
 rfl
theorem run_top(w:World)(os:OsState):∃ s,topRun treeTable pw w 11 an (12+(1+(3600+2))) ⟨boot_heap w.params,{toList:=[]},boot_drawn,boot_toks,os⟩ (topStub pw)=some s∧
   (staticsOk (importedModules pw.main.body) (boot_heap w.params) s.heap&&namesBound pw s.heap&&gensDone s&&laidKept (boot_heap w.params) s.heap)=true∧openSeen vq [] (importedModules pw.main.body) XT true s=openGood vq []∧KA.map s.heap.get?=(KF w.params).map fun p=>some p.2:=by
 refine uEA (Option.map_eq_some_iff.mp (congrFun (run_all w) os)) ?_;rintro⟨f,s',c,q⟩ hr e
 simp only[Prod.mk.injEq] at e
 refine uAAAA e ?_;clear e;rintro rfl rfl e1 e2 e3
 refine(iEAAA s'.abs ?_ e1 e2 e3)
 refine go_top (congrFun (run_pre w) os) (piece_block (congrFun (run_block w) os) ?_)
 have:=piece_app (rest:=[]) (segRun_of hr) (piece_nil (fin_step pw w s'.abs q))
 rwa[List.append_nil] at this
theorem hd_size_ok(w:World):((boot_heap w.params).isNs mainGlobals&&(Array.mk []:Array GenState).size == 0,(boot_heap w.params).objs.size,(boot_heap w.params).nsMap mainGlobals "__annotations__")=(true,11,an):=by
 kernel_rfl
theorem hl:LeftO pw vq [] XT (Hook.obs (kHook KF KA (fun V=>rfl))) (Hook.val (kHook KF KA (fun V=>rfl))) 7296 true:=
 left_of (boot_open (by rfl) (by rfl) (fun s=>by rfl)) hd_size_ok (by decide) fun w os=>run_top w os
abbrev rwW:RowW:=PySem.Challenge.rw_sa0040_01.row.toRowW
noncomputable abbrev HK:Hook:=kHook KF KA (fun V=>rfl)
theorem wit:rwW.promised:=by w_witness2
theorem holds_of(hc:∀ d kwd,defOf vq "law"=some (d,kwd)→WalkO vq [] (XL vq []) (Hook.says HK) rwW d kwd fun f vs=>PySem.call f vs):PySem.Challenge.rw_sa0040_01.Holds:=
 holds_law said_ok fun said=>holds_open (q:=vq) (loose:=[]) (Xt:=XT) (XP:=XL vq []) (Yf:=Hook.obs HK) (Ya:=Hook.val HK) (YP:=Hook.says HK) (N:=7296) hl (Hook.of HK) (Hook.keeps HK)
  (fun s e=>xl_of s (Bool.and_eq_true_iff.mp e).1) XL.keeps (by rfl) (by rfl) (by rfl) (fun s e=>recFacts_of (Bool.and_eq_true_iff.mp e).2) (by rfl) said (by decide +kernel) (iAAAAA rfl rfl rfl rfl rfl (by decide +kernel)) wit (hc _ _ (by rfl))
inductive AV where
 |none
 |bool (b:Bool)
 |int (i:Int)
 |str (x:Str)
 |tup (l:List AV)
 |ref (a:Addr)
 |bi (id:String)
 |ty (n:String)
noncomputable instance:DecidableEq AV:=fun a b=>Classical.propDecidable (a=b)
noncomputable abbrev tupO(items:Array Value)(n:Nat):Obj:={cls:=.type "tuple",data:=.seq items n}
mutual
inductive VRep (P:Addr→Prop) (h:Heap):Value→AV→Prop
 |none:VRep P h .none .none
 |bool (b):VRep P h (.bool b) (.bool b)
 |int (i t):VRep P h (.int i t) (.int i)
 |str (x t):VRep P h (.str x t) (.str x)
 |tup {a items n l}:P a→h.get? a=some {cls:=.type "tuple",data:=.seq items n}→VReps P h items.toList l→VRep P h (.ref a) (.tup l)
 |ref (a):VRep P h (.ref a) (.ref a)
 |bi (id):VRep P h (.builtin id) (.bi id)
 |ty (n):VRep P h (.type n) (.ty n)
inductive VReps (P:Addr→Prop) (h:Heap):List Value→List AV→Prop
 |nil:VReps P h [] []
 |cons {v vs d ds}:VRep P h v d→VReps P h vs ds→VReps P h (v::vs) (d::ds)
end
noncomputable def RI(P:Addr→Prop)(h:Heap)(v:Value):AV→Prop
 |.none=>v=.none
 |.bool b=>v=.bool b
 |.int i=>∃ t,v=.int i t
 |.str x=>∃ t,v=.str x t
 |.tup l=>∃ a items n,v=.ref a∧P a∧h.get? a=some (tupO items n)∧VReps P h items.toList l
 |.ref a=>v=.ref a
 |.bi a=>v=.builtin a
 |.ty a=>v=.type a
theorem VRep.inv{P h v d}(r:VRep P h v d):RI P h v d:=VRep.casesOn (motive_1:=fun v d V=>RI P h v d) r rfl (fun V=>rfl) (fun V t=>⟨t,rfl⟩) (fun V t=>⟨t,rfl⟩) (fun p e r=>iEEEAAA _ _ _ rfl p e r) (fun V=>rfl) (fun V=>rfl) (fun V=>rfl)
theorem VRep.i_ref{P h v a}(r:VRep P h v (.ref a)):v=.ref a:=r.inv
theorem VRep.i_int{P h v a}(r:VRep P h v (.int a)):∃ t,v=.int a t:=r.inv
theorem VRep.i_str{P h v a}(r:VRep P h v (.str a)):∃ t,v=.str a t:=r.inv
theorem VRep.i_bool{P h v a}(r:VRep P h v (.bool a)):v=.bool a:=r.inv
theorem VRep.i_none{P h v}(r:VRep P h v .none):v=.none:=r.inv
theorem VRep.i_bi{P h v a}(r:VRep P h v (.bi a)):v=.builtin a:=r.inv
theorem VRep.i_ty{P h v a}(r:VRep P h v (.ty a)):v=.type a:=r.inv
theorem VRep.i_tup{P h v l}(r:VRep P h v (.tup l)):∃ a items n,v=.ref a∧P a∧h.get? a=some (tupO items n)∧VReps P h items.toList l:=r.inv
noncomputable def RIs(P:Addr→Prop)(h:Heap)(vs:List Value):List AV→Prop
 |[]=>vs=[]
 |d::ds=>∃ v us,vs=v::us∧VRep P h v d∧VReps P h us ds
theorem VReps.inv{P h vs ds}(r:VReps P h vs ds):RIs P h vs ds:=VReps.casesOn (motive_2:=fun vs ds V=>RIs P h vs ds) r rfl (fun r rs=>iEEAA _ _ rfl r rs)
theorem VReps.i_nil{P h vs}(r:VReps P h vs []):vs=[]:=r.inv
theorem VReps.i_cons{P h vs d ds}(r:VReps P h vs (d::ds)):∃ v us,vs=v::us∧VRep P h v d∧VReps P h us ds:=r.inv
noncomputable def OV(P:Addr→Prop)(h:Heap):Option Value→Option AV→Prop
 |_,Option.none=>True
 |some v,some av=>VRep P h v av
 |Option.none,some _=>False
theorem VReps.ind{P h}{M:List Value→List AV→Prop}(h0:M [] [])(h1:∀{v vs d ds},VRep P h v d→VReps P h vs ds→M vs ds→M (v::vs) (d::ds)){vs:List Value}{l:List AV}(r:VReps P h vs l):M vs l:=
 VReps.rec (motive_1:=fun V V V=>True) (motive_2:=fun vs l V=>M vs l) trivial (fun V=>trivial) (fun V V=>trivial) (fun V V=>trivial) (fun V V V V=>trivial) (fun V=>trivial) (fun V=>trivial) (fun V=>trivial) h0 (fun r rs V ih=>h1 r rs ih) r
theorem VReps.length{P h}{vs:List Value}{l:List AV}(r:VReps P h vs l):vs.length=l.length:=r.ind (M:=fun vs l=>vs.length=l.length) rfl fun V V ih=>congrArg (·+1) ih
theorem VReps.get{P h}{vs:List Value}{l:List AV}(r:VReps P h vs l):∀{i:Nat} {d:AV},l[i]?=some d→∃ v,vs[i]?=some v∧VRep P h v d:=
 r.ind (M:=fun vs l=>∀{i:Nat} {d:AV},l[i]?=some d→∃ v,vs[i]?=some v∧VRep P h v d) (fun e=>nomatch e) fun r V ih=>by
  intro i d e
  cases i with
  |zero=>exact iEA _ rfl (Option.some.inj e▸r)
  |succ i=>exact ih (i:=i) e
theorem VReps.append{P h}{vs ws:List Value}{l k:List AV}(r:VReps P h vs l)(s:VReps P h ws k):VReps P h (vs++ws) (l++k):=r.ind (M:=fun vs l=>VReps P h (vs++ws) (l++k)) s fun r V ih=>.cons r ih
theorem VReps.take{P h}{vs:List Value}{l:List AV}(n:Nat)(r:VReps P h vs l):VReps P h (vs.take n) (l.take n):=
 r.ind (M:=fun vs l=>∀ n,VReps P h (vs.take n) (l.take n)) (fun n=>by cases n<;>exact .nil) (fun r V ih n=>by
  cases n with
  |zero=>exact .nil
  |succ n=>exact .cons r (ih n)) n
theorem VReps.drop{P h}{vs:List Value}{l:List AV}(n:Nat)(r:VReps P h vs l):VReps P h (vs.drop n) (l.drop n):=
 r.ind (M:=fun vs l=>∀ n,VReps P h (vs.drop n) (l.drop n)) (fun n=>by cases n<;>exact .nil) (fun r rs ih n=>by
  cases n with
  |zero=>exact .cons r rs
  |succ n=>exact ih n) n
theorem VReps.reverse{P h}{vs:List Value}{l:List AV}(r:VReps P h vs l):VReps P h vs.reverse l.reverse:=
 r.ind (M:=fun vs l=>VReps P h vs.reverse l.reverse) .nil fun r V ih=>by rw[List.reverse_cons,List.reverse_cons];exact ih.append (.cons r .nil)
theorem VReps.mem{P h}{vs:List Value}{l:List AV}(r:VReps P h vs l):∀ v∈vs,∃ d∈l,VRep P h v d:=
 r.ind (M:=fun vs l=>∀ v∈vs,∃ d∈l,VRep P h v d) (fun V hv=>nomatch hv) fun r V ih v hv=>by
  rcases List.mem_cons.mp hv with rfl|hv
  ·exact iEA _ List.mem_cons_self r
  ·refine uEA (ih v hv) fun d hd hr=>?_;exact iEA d (List.mem_cons_of_mem _ hd) hr
section
variable{P P':Addr→Prop}{h h':Heap}(hk:∀ a items n,h.get? a=some (tupO items n)→P a→h'.get? a=some (tupO items n)∧P' a)
include hk
theorem VRep.mono{v:Value}{d:AV}(r:VRep P h v d):VRep P' h' v d:=
 VRep.rec (motive_1:=fun v d V=>VRep P' h' v d) (motive_2:=fun v d V=>VReps P' h' v d) .none .bool .int .str (fun p e V ih=>.tup (hk _ _ _ e p).2 (hk _ _ _ e p).1 ih) .ref .bi .ty .nil (fun V V i j=>.cons i j) r
theorem VReps.mono{v:List Value}{d:List AV}(r:VReps P h v d):VReps P' h' v d:=r.ind (M:=VReps P' h') .nil fun r V ih=>.cons (r.mono hk) ih
end
theorem OV.mono{P P':Addr→Prop}{h h':Heap}(hk:∀ a items n,h.get? a=some (tupO items n)→P a→h'.get? a=some (tupO items n)∧P' a):∀{v:Option Value} {d:Option AV},OV P h v d→OV P' h' v d
 |Option.none,Option.none,_=>trivial
 |some _,Option.none,_=>trivial
 |some _,some _,r=>VRep.mono hk r
theorem OV.of_some{P h}{v:Option Value}{d:AV}(r:OV P h v (some d)):∃ w,v=some w∧VRep P h w d:=by
 cases v with
 |none=>exact r.elim
 |some w=>exact(iEA w rfl r)
noncomputable def anyA:Addr→Prop:=fun V=>True
theorem VRep.loose{P h v d}(r:VRep P h v d):VRep anyA h v d:=r.mono fun V V V e V=>⟨e,trivial⟩
mutual
noncomputable def AV.pd:AV→PyData
 |.bool b=>.bool b
 |.int i=>.int i
 |.str x=>.str x
 |.tup l=>.tuple (AV.pds l)
 |.none=>.none
 |.ref _=>.none
 |.bi _=>.none
 |.ty _=>.none
noncomputable def AV.pds:List AV→List PyData
 |[]=>[]
 |x::xs=>x.pd::AV.pds xs
end
theorem AV.pd_4:∀(l:List AV),AV.pd (AV.tup l)=PyData.tuple (AV.pds l):=by intros;rfl
theorem AV.pds_2:∀(d:AV)(ds:List AV),AV.pds (d::ds)=AV.pd d::AV.pds ds:=by intros;rfl
mutual
noncomputable def AV.dat:AV→Bool
 |.none=>true
 |.bool _=>true
 |.int _=>true
 |.str x=>PyData.strOk x
 |.tup l=>AV.dats l
 |.ref _=>false
 |.bi _=>false
 |.ty _=>false
noncomputable def AV.dats:List AV→Bool
 |[]=>true
 |x::xs=>x.dat&&AV.dats xs
end
theorem AV.dat_5:∀(l:List AV),AV.dat (AV.tup l)=AV.dats l:=by intros;rfl
theorem AV.dats_2:∀(d:AV)(ds:List AV),AV.dats (d::ds)=(AV.dat d&&AV.dats ds):=by intros;rfl
mutual
noncomputable def AV.key:AV→Bool
 |.int _=>true
 |.str x=>PyData.strOk x
 |.tup l=>AV.keys l
 |.none=>false
 |.bool _=>false
 |.ref _=>false
 |.bi _=>false
 |.ty _=>false
noncomputable def AV.keys:List AV→Bool
 |[]=>true
 |x::xs=>x.key&&AV.keys xs
end
theorem AV.key_1:∀(i:Int),AV.key (AV.int i)=true:=by intros;rfl
theorem AV.key_2:∀(x_1:Str),AV.key (AV.str x_1)=PyData.strOk x_1:=by intros;rfl
theorem AV.key_3:∀(l:List AV),AV.key (AV.tup l)=AV.keys l:=by intros;rfl
theorem AV.keys_1:AV.keys []=true:=by intros;rfl
theorem AV.keys_2:∀(d:AV)(ds:List AV),AV.keys (d::ds)=(AV.key d&&AV.keys ds):=by intros;rfl
mutual
noncomputable def AV.dep:AV→Nat
 |.tup l=>AV.deps l+1
 |.none=>0
 |.bool _=>0
 |.int _=>0
 |.str _=>0
 |.ref _=>0
 |.bi _=>0
 |.ty _=>0
noncomputable def AV.deps:List AV→Nat
 |[]=>0
 |x::xs=>max x.dep (AV.deps xs)
end
theorem AV.dep_2:∀(i:Int),AV.dep (AV.int i)=0:=by intros;rfl
theorem AV.dep_3:∀(x:Str),AV.dep (AV.str x)=0:=by intros;rfl
theorem AV.deps_1:AV.deps []=0:=rfl
theorem AV.dep_1:∀(l:List AV),AV.dep (AV.tup l)=AV.deps l+1:=by intros;rfl
theorem AV.deps_2:∀(d:AV)(ds:List AV),AV.deps (d::ds)=max (AV.dep d) (AV.deps ds):=by intros;rfl
mutual
theorem AV.dat_of_key:∀ a:AV,a.key=true→a.dat=true
 |.int _,_=>rfl
 |.str x,h=>h
 |.tup l,h=>by rw[AV.dat_5];exact AV.dats_of_keys l (by rwa[AV.key_3] at h)
 |.none,h|.bool _,h|.ref _,h|.bi _,h|.ty _,h=>(Bool.false_ne_true h).elim
theorem AV.dats_of_keys:∀ l:List AV,AV.keys l=true→AV.dats l=true
 |[],_=>rfl
 |x::xs,h=>by
  rw[AV.keys_2,Bool.and_eq_true] at h
  rw[AV.dats_2,AV.dat_of_key x h.1,AV.dats_of_keys xs h.2];rfl
end
mutual
theorem AV.canLay:∀ a:AV,a.dat=true→a.pd.canLay0=true
 |.none,_|.bool _,_|.int _,_=>rfl
 |.str x,h=>h
 |.tup l,h=>by rw[AV.pd_4,PyData.canLay0];exact AV.canLays l (by rwa[AV.dat_5] at h)
 |.ref _,h|.bi _,h|.ty _,h=>(Bool.false_ne_true h).elim
theorem AV.canLays:∀ l:List AV,AV.dats l=true→PyData.canLayAll0 (AV.pds l)=true
 |[],_=>rfl
 |x::xs,h=>by
  rw[AV.dats_2,Bool.and_eq_true] at h
  rw[AV.pds_2,PyData.canLayAll0,AV.canLay x h.1,AV.canLays xs h.2];rfl
end
mutual
theorem AV.depth_pd:∀ a:AV,a.pd.depth=a.dep
 |.none|.bool _|.int _|.str _|.ref _|.bi _|.ty _=>rfl
 |.tup l=>by rw[AV.pd_4,PyData.depth,AV.depths_pd l];rfl
theorem AV.depths_pd:∀ l:List AV,PyData.depthAll (AV.pds l)=AV.deps l
 |[]=>rfl
 |x::xs=>by rw[AV.pds_2,PyData.depthAll,AV.depth_pd x,AV.depths_pd xs];rfl
end
theorem VRep.reads{P h}{v:Value}{a:AV}(r:VRep P h v a):a.dat=true→Reads h v a.pd []:=
 VRep.rec (motive_1:=fun v a V=>a.dat=true→Reads h v a.pd []) (motive_2:=fun v a V=>AV.dats a=true→ReadsAll h v (AV.pds a) []) (fun V=>.none) (fun b V=>.bool b) (fun i t V=>.int i t) (fun x t V=>.str x t)
  (fun V e V ih hd=>.tuple e rfl rfl (ih hd)) (fun V hd=>nomatch hd) (fun V hd=>nomatch hd) (fun V hd=>nomatch hd) (fun V=>.nil)
  (fun V V i j hd=>.cons (as:=[]) (bs:=[]) (i (Bool.and_eq_true_iff.mp hd).1) (j (Bool.and_eq_true_iff.mp hd).2)) r
theorem VReps.readsAll{P h}{v:List Value}{l:List AV}(r:VReps P h v l):AV.dats l=true→ReadsAll h v (AV.pds l) []:=
 r.ind (M:=fun v l=>AV.dats l=true→ReadsAll h v (AV.pds l) []) (fun V=>.nil) fun r V ih hd=>.cons (as:=[]) (bs:=[]) (r.reads (Bool.and_eq_true_iff.mp hd).1) (ih (Bool.and_eq_true_iff.mp hd).2)
mutual
theorem AV.eqv_key:∀ a b:AV,a.key=true→b.key=true→PyData.eqv a.pd b.pd=decide (a=b)
 |.int i,.int j,_,_=>by simp[AV.pd_4,PyData.eqv];rfl
 |.int i,.str j,_,_=>(decide_eq_false nofun).symm
 |.int i,.tup j,_,_=>(decide_eq_false nofun).symm
 |.str i,.int j,_,_=>(decide_eq_false nofun).symm
 |.str i,.str j,_,_=>by simp[AV.pd_4,PyData.eqv];rfl
 |.str i,.tup j,_,_=>(decide_eq_false nofun).symm
 |.tup i,.int j,_,_=>(decide_eq_false nofun).symm
 |.tup i,.str j,_,_=>(decide_eq_false nofun).symm
 |.tup i,.tup j,h1,h2=>by
  rw[AV.pd_4,AV.pd_4,PyData.eqv,AV.eqvs_keys i j (by rwa[AV.key_3] at h1) (by rwa[AV.key_3] at h2)]
  simp
 |.none,_,h,_|.bool _,_,h,_|.ref _,_,h,_|.bi _,_,h,_|.ty _,_,h,_=>(Bool.false_ne_true h).elim
 |.int _,.none,_,h|.int _,.bool _,_,h|.int _,.ref _,_,h|.int _,.bi _,_,h|.int _,.ty _,_,h=>(Bool.false_ne_true h).elim
 |.str _,.none,_,h|.str _,.bool _,_,h|.str _,.ref _,_,h|.str _,.bi _,_,h|.str _,.ty _,_,h=>(Bool.false_ne_true h).elim
 |.tup _,.none,_,h|.tup _,.bool _,_,h|.tup _,.ref _,_,h|.tup _,.bi _,_,h|.tup _,.ty _,_,h=>(Bool.false_ne_true h).elim
theorem AV.eqvs_keys:∀ a b:List AV,AV.keys a=true→AV.keys b=true→PyData.eqvAll (AV.pds a) (AV.pds b)=decide (a=b)
 |[],[],_,_=>(decide_eq_true rfl).symm
 |[],_::_,_,_=>(decide_eq_false nofun).symm
 |_::_,[],_,_=>(decide_eq_false nofun).symm
 |x::xs,y::ys,h1,h2=>by
  rw[AV.keys_2,Bool.and_eq_true] at h1 h2
  rw[AV.pds_2,AV.pds_2,PyData.eqvAll,AV.eqv_key x y h1.1 h2.1,AV.eqvs_keys xs ys h1.2 h2.2]
  simp
end
theorem AV.key_of_mem:∀{l:List AV},AV.keys l=true→∀ x∈l,x.key=true
 |[],_,x,hx=>by simp at hx
 |y::ys,h,x,hx=>by
  rw[AV.keys_2,Bool.and_eq_true] at h
  rcases List.mem_cons.mp hx with rfl|hx
  ·exact h.1
  ·exact AV.key_of_mem h.2 x hx
theorem AV.dep_of_mem:∀{l:List AV},∀ x∈l,x.dep≤AV.deps l
 |[],x,hx=>by simp at hx
 |y::ys,x,hx=>by
  rw[AV.deps_2]
  rcases List.mem_cons.mp hx with rfl|hx
  ·exact Nat.le_max_left _ _
  ·exact Nat.le_trans (AV.dep_of_mem x hx) (Nat.le_max_right _ _)
mutual
noncomputable def AV.hash(w:World):AV→Int
 |.int i=>hashInt i
 |.str x=>hashStr w x
 |.tup l=>reduceHash (Builtin.Tuple.tupleHashOf (AV.hashes w l))
 |.none=>0
 |.bool _=>0
 |.ref _=>0
 |.bi _=>0
 |.ty _=>0
noncomputable def AV.hashes(w:World):List AV→List Int
 |[]=>[]
 |x::xs=>x.hash w::AV.hashes w xs
end
theorem AV.hash_3:∀(w:World)(l:List AV),AV.hash w (AV.tup l)=reduceHash (Builtin.Tuple.tupleHashOf (AV.hashes w l)):=by intros;rfl
theorem AV.hashes_2:∀(w:World)(d:AV)(ds:List AV),AV.hashes w (d::ds)=AV.hash w d::AV.hashes w ds:=by intros;rfl
mutual
noncomputable def AV.draws:AV→Nat
 |.tup l=>AV.drawss l+1
 |.none=>1
 |.bool _=>1
 |.int _=>1
 |.str _=>1
 |.ref _=>1
 |.bi _=>1
 |.ty _=>1
noncomputable def AV.drawss:List AV→Nat
 |[]=>0
 |x::xs=>x.draws+AV.drawss xs
end
theorem AV.draws_1:∀(l:List AV),AV.draws (AV.tup l)=AV.drawss l+1:=by intros;rfl
theorem AV.drawss_1:AV.drawss []=0:=rfl
theorem AV.hashes_1(w:World):AV.hashes w []=[]:=rfl
theorem AV.drawss_2:∀(d:AV)(ds:List AV),AV.drawss (d::ds)=AV.draws d+AV.drawss ds:=by intros;rfl
theorem AV.hashes_append(w:World):∀ a b:List AV,AV.hashes w (a++b)=AV.hashes w a++AV.hashes w b
 |[],_=>rfl
 |x::xs,b=>by rw[List.cons_append,AV.hashes_2,AV.hashes_2,AV.hashes_append w xs b];rfl
theorem AV.drawss_append:∀ a b:List AV,AV.drawss (a++b)=AV.drawss a+AV.drawss b
 |[],_=>(Nat.zero_add _).symm
 |x::xs,b=>by rw[List.cons_append,AV.drawss_2,AV.drawss_2,AV.drawss_append xs b];lia
section
variable{prog:Program}{w:World}
theorem AV.key_is:∀{k:AV},k.key=true→(∃ i,k=.int i)∨(∃ x,k=.str x)∨∃ l,k=.tup l∧AV.keys l=true
 |.int i,_=>.inl ⟨i,rfl⟩
 |.str x,_=>.inr (.inl ⟨x,rfl⟩)
 |.tup l,h=>.inr (.inr ⟨l,rfl,by rwa[AV.key_3] at h⟩)
def HashOk(prog:Program)(w:World)(k:AV):Prop:=∀(P:Addr→Prop)(A:Around)(E:Value→Shared→Prop)(s:Shared)(v:Value)(Q:Int→Shared→Prop),k.key=true→A.units+k.dep<cLine→VRep P s.heap v k→
  Q (k.hash w) {s with toks:=s.toks+k.draws}→wpAny (model prog w) A (pyHash v) Q E s
theorem pyHash_n:∀(n:Nat)(k:AV),k.dep<n→HashOk prog w k
 |0,_,h=>absurd h (Nat.not_lt_zero _)
 |N+1,k,hN=>fun P A E s v Q hk hu r h=>by
  obtain⟨i,rfl⟩|⟨x,rfl⟩|⟨l,rfl,hks⟩:=AV.key_is hk
  ·obtain⟨_,rfl⟩:=r.i_int
   exact wpAny_pyHash_int h
  ·obtain⟨_,rfl⟩:=r.i_str
   exact wpAny_pyHash_str h
  obtain⟨a,items,n,rfl,_,ho,hi⟩:=r.i_tup
  clear r
  have hT:s.TypeIs (.ref a) "tuple":=⟨_,ho,rfl⟩
  have hN':AV.deps l<N:=by rw[AV.dep_1] at hN;lia
  have hu':A.units+AV.deps l+1<cLine:=by rw[AV.dep_1] at hu;lia
  clear hu hN hk
  refine wpAny_bind (wpAny_cRoomFor_or (.inr (by lia)) ?_)
  refine wpAny_bind (wpAny_specialOf hT F.slot_tuple_hash.lookup ?_)
  rw[if_neg (by rw[beq_builtin_none];exact Bool.false_ne_true)]
  refine wpAny_bind (wpAny_specialOf hT F.slot_tuple_hash.lookup ?_)
  refine wpAny_bind (wpAny_callSpecialIfBoundUnlessNone?_slot hT F.slot_tuple_hash (wpAny_call_entry F.slot_tuple_hash hT F.entry_tuple_hash ?_ (F.args_tuple_hash_1 _)))
  show wpAny _ _ (Builtin.Tuple.tupleItemsOf (.ref a)>>=_) _ _ s
  refine wpAny_bind (wpAny_tupleItemsOf ho rfl ?_)
  refine wpAny_bind ?_
  rw[← Array.forIn_toList]
  refine wpAny_forIn_list _
   (fun rest (b:Array Int) s'=>∃ done left,l=done++left∧VReps P s.heap rest left∧b.toList=AV.hashes w done∧s'={s with toks:=s.toks+AV.drawss done})
   _ ?_ ?_ _ _ ⟨[],l,rfl,hi,rfl,rfl⟩
  ·rintro x rest b s' ⟨done,left,e,hl,hb,rfl⟩
   cases hl with
   |@cons _ _ d ds h1 hl'=>
    have hmem:d∈l:=by rw[e];simp
    have hd1:=AV.dep_of_mem d hmem
    refine wpAny_bind (pyHash_n N d (Nat.lt_of_le_of_lt hd1 hN') P _ _ _ _ _ (AV.key_of_mem hks d hmem) (by show A.units+1+d.dep<cLine;lia) h1 ?_)
    refine wpAny_pure ⟨done++[d],ds,by rw[e];simp,hl',?_,?_⟩
    ·simp[hb,AV.hashes_append,AV.hashes_2,AV.hashes_1]
    ·simp[AV.drawss_append,AV.drawss_2,AV.drawss_1,Nat.add_assoc]
  ·rintro b s' ⟨done,left,e,hl,hb,rfl⟩
   cases hl
   rw[List.append_nil] at e
   subst e
   show wpAny _ _ (retInt (Builtin.Tuple.tupleHashOf b.toList)) _ _ _
   rw[hb]
   refine wpAny_ret_mkInt ?_
   rw[AV.hash_3,AV.draws_1] at h
   generalize Builtin.Tuple.tupleHashOf (AV.hashes w l)=z at h ⊢
   show wpAny _ _ (if (decide (-(2:Int) ^ 63≤z)&&decide (z<2 ^ 63))=true then _ else _) Q E _
   unfold reduceHash at h
   by_cases hr:(decide (-(2:Int) ^ 63≤z)&&decide (z<2 ^ 63))=true
   ·rw[if_pos hr]
    rw[if_pos hr] at h
    exact wpAny_pure (by simpa[Nat.add_assoc] using h)
   ·rw[if_neg hr]
    rw[if_neg hr] at h
    exact wpAny_bind (wpAny_rule (wpAny_pure (by simpa[Nat.add_assoc] using h)))
theorem pyHash_av(k:AV){P:Addr→Prop}{A:Around}{E:Value→Shared→Prop}{s:Shared}{v:Value}{Q:Int→Shared→Prop}(hk:k.key=true)(hu:A.units+k.dep<cLine)(r:VRep P s.heap v k)
  (h:Q (k.hash w) {s with toks:=s.toks+k.draws}):wpAny (model prog w) A (pyHash v) Q E s:=pyHash_n _ k (Nat.lt_succ_self _) P A E s v Q hk hu r h
theorem eqBool_av{P P':Addr→Prop}{A:Around}{E:Value→Shared→Prop}{s:Shared}{x y:AV}{a b:Value}{Q:Bool→Shared→Prop}(hx:x.key=true)(hy:y.key=true)
  (hu:A.units+x.dep<cLine) (rx:VRep P s.heap a x) (ry:VRep P' s.heap b y) (h:Q (decide (x=y)) s):wpAny (model prog w) A (eqBool a b) Q E s:=by
 refine SeqAt.eqAt_reads x.pd y.pd A s a b [] [] (rx.reads (AV.dat_of_key _ hx)) (ry.reads (AV.dat_of_key _ hy)) (AV.canLay _ (AV.dat_of_key _ hx)) (AV.canLay _ (AV.dat_of_key _ hy)) ?_ prog w E Q ?_
 ·rw[AV.depth_pd,AV.depth_pd];lia
 ·rw[AV.eqv_key x y hx hy];exact h
theorem quiet_n{E:Value→Shared→Prop}:∀(n:Nat) (k:AV) {P:Addr→Prop} {A:Around} {s:Shared} {v:Value} {Q:Bool→Shared→Prop},k.key=true→k.dep≤n→VRep P s.heap v k→Q true s→
  wpAny (model prog w) A (eqIsQuiet n v) Q E s
 |n,k,P,A,s,v,Q,hk,hn,r,h=>by
  obtain⟨i,rfl⟩|⟨x,rfl⟩|⟨l,rfl,hks⟩:=AV.key_is hk
  ·obtain⟨_,rfl⟩:=r.i_int
   rw[eqIsQuiet_byValue n rfl];exact wpAny_pure h
  ·obtain⟨_,rfl⟩:=r.i_str
   rw[eqIsQuiet_byValue n rfl];exact wpAny_pure h
  obtain⟨a,items,n',rfl,_,ho,hi⟩:=r.i_tup
  clear r hk
  have hT:s.TypeIs (.ref a) "tuple":=⟨_,ho,rfl⟩
  rw[AV.dep_1] at hn
  match n,hn with
  |n+1,hn=>
  unfold eqIsQuiet
  refine wpAny_bind (wpAny_specialOf hT F.slot_tuple_eq.lookup ?_)
  refine wpAny_bind (wpAny_isInstance hT isSubtype_tuple_tuple ?_)
  refine wpAny_bind (wpAny_seqItems ho rfl ?_)
  refine wpAny_bind ?_
  rw[← Array.forIn_toList]
  refine wpAny_forIn_list _ (fun rest r s'=>r.1=none∧s'=s∧∃ left,(∀ d∈left,d∈l)∧VReps P s.heap rest left) _ ?_ ?_ _ _ ⟨rfl,rfl,l,fun V hd=>hd,hi⟩
  ·rintro v rest r s' ⟨hr,rfl,left,hsub,hl⟩
   cases hl with
   |@cons _ _ d ds h1 hl'=>
   have hmem:=hsub d List.mem_cons_self
   have hd1:=AV.dep_of_mem d hmem
   refine wpAny_bind (quiet_n n d (P:=P) (AV.key_of_mem hks d hmem) (by lia) h1 ?_)
   exact wpAny_pure ⟨rfl,rfl,ds,fun u hu'=>hsub u (List.mem_cons_of_mem _ hu'),hl'⟩
  ·rintro⟨r1,r2⟩ s' ⟨hr,rfl,_⟩
   simp only at hr
   subst hr
   exact wpAny_pure h
theorem quiet_av(k:AV)(n:Nat){P:Addr→Prop}{A:Around}{E:Value→Shared→Prop}{s:Shared}{v:Value}{Q:Bool→Shared→Prop}(hk:k.key=true)(hn:k.dep≤n)(r:VRep P s.heap v k)(h:Q true s) :
  wpAny (model prog w) A (eqIsQuiet n v) Q E s:=quiet_n n k hk hn r h
theorem VReps.inj_of{P P':Addr→Prop}{h:Heap}:∀{l l':List AV} {vs:List Value},(∀ x∈l,∀ y∈l',∀ v,VRep P h v x→VRep P' h v y→x=y)→VReps P h vs l→VReps P' h vs l'→l=l'
 |[],_,_,_,r,q=>by cases r;cases q;rfl
 |x::xs,_,_,k,r,q=>by
  cases r with
  |cons r rs=>
  cases q with
  |cons q qs=>rw[k _ List.mem_cons_self _ List.mem_cons_self _ r q,VReps.inj_of (fun x mx y my=>k x (List.mem_cons_of_mem _ mx) y (List.mem_cons_of_mem _ my)) rs qs]
noncomputable def vh:Value→Option AV
 |.int i _=>some (.int i)
 |.str x _=>some (.str x)
 |_=>Option.none
noncomputable def ah:AV→Option AV
 |.tup _=>Option.none
 |x=>some x
theorem VRep.vh{P:Addr→Prop}{h:Heap}{v:Value}{x:AV}(hx:x.key=true)(r:VRep P h v x):Mine.vh v=ah x:=by
 obtain⟨i,rfl⟩|⟨i,rfl⟩|⟨l,rfl,-⟩:=AV.key_is hx
 ·obtain⟨_,rfl⟩:=r.i_int;rfl
 ·obtain⟨_,rfl⟩:=r.i_str;rfl
 ·obtain⟨_,_,_,rfl,_⟩:=r.i_tup;rfl
theorem VRep.inj_n{P P':Addr→Prop}{h:Heap}(n:Nat):∀{v:Value} {x y:AV},x.dep<n→x.key=true→y.key=true→VRep P h v x→VRep P' h v y→x=y:=by
 induction n with
 |zero=>exact fun h=>absurd h (Nat.not_lt_zero _)
 |succ n ih=>
  intro v x y hn hx hy r q
  have e:=(r.vh hx).symm.trans (q.vh hy)
  obtain⟨i,rfl⟩|⟨i,rfl⟩|⟨l,rfl,hks⟩:=AV.key_is hx<;>obtain⟨j,rfl⟩|⟨j,rfl⟩|⟨l',rfl,hks'⟩:=AV.key_is hy<;>first|exact Option.some.inj e|(cases e;done)|skip
  obtain⟨a,items,m,rfl,_,ho,hi⟩:=r.i_tup
  obtain⟨a',items',m',e,_,ho',hi'⟩:=q.i_tup
  obtain rfl:=Value.ref.inj e
  rw[ho] at ho'
  cases ho'
  rw[AV.dep_1] at hn
  have hn:=Nat.lt_of_succ_lt_succ hn
  rw[VReps.inj_of (fun x mx y my v r q=>ih (Nat.lt_of_le_of_lt (AV.dep_of_mem x mx) hn) (AV.key_of_mem hks x mx) (AV.key_of_mem hks' y my) r q) hi hi']
theorem VRep.inj{P P':Addr→Prop}{h:Heap}{v:Value}{x y:AV}(hx:x.key=true)(hy:y.key=true)(r:VRep P h v x)(q:VRep P' h v y):x=y:=VRep.inj_n _ (Nat.lt_succ_self _) hx hy r q
noncomputable def tkOk(k:AV):Prop:=k.key=true∧k.dep≤8
noncomputable def tk(prog:Program)(w:World):HeapKind prog w AV where
 is:=fun h k a=>tkOk k∧VRep anyA h (.ref a) k
 hash:=fun k=>k.hash w
 draws:=fun k=>k.draws
 room:=fun A=>A.units+16<cLine
 inj:=fun hx hy=>VRep.inj hx.1.1 hy.1.1 hx.2 hy.2
 keeps:=fun {h h' k a d o es ep} x ho hd hs=>⟨x.1,x.2.mono fun b items n e V=>by
  refine⟨(hs.2 b ?_).trans e,trivial⟩
  rintro rfl
  rw[ho] at e;cases e
  cases hd⟩
 pyHash:=fun hu hk h=>pyHash_av _ hk.1.1 (by have:=hk.1.2;lia) hk.2 h
 eqBool:=fun hu hx hy h=>eqBool_av hx.1.1 hy.1.1 (by have:=hx.1.2;lia) hx.2 hy.2 h
 quiet:=fun hk h=>quiet_av _ 8 hk.1.1 hk.1.2 hk.2 h
end
noncomputable abbrev MM:=Str→Option AV
inductive AObj where
 |ns (m:MM)
 |rng (a b:Int)
 |list (l:List AV)
 |dS (es:List (Str × AV))
 |dI (es:List (Int × AV))
 |dT (es:List (AV × AV))
 |inst (C:Addr) (d:Addr)
 |lit (l:Addr) (k:Nat)
 |tit (l:List AV) (k:Nat)
 |rit (x left:Int)
 |otup (n:Nat)
 |zip (its:List Addr) (TO:Addr)
 |enum (it:Addr)
 |sset (p:Bool) (L:List AV)
 |any
noncomputable abbrev Own:=Addr→Option AObj
noncomputable def upd(own:Own)(a:Addr)(o:AObj):Own:=fun b=>if b=a then some o else own b
noncomputable def mset(m:MM)(x:Str)(v:AV):MM:=fun y=>if y=x then some v else m y
noncomputable def fz(own:Own):Addr→Prop:=fun a=>own a=Option.none
noncomputable def sub(own own':Own):Prop:=∀ a o,own a=some o→own' a=some o
@[simp] theorem upd_self (own:Own) (a:Addr) (o:AObj):upd own a o a=some o:=by simp[upd]
theorem upd_ne(own:Own){a b:Addr}(o:AObj)(h:b≠a):upd own a o b=own b:=by simp[upd,h]
theorem upd_none{own:Own}{a b:Addr}{o:AObj}(h:upd own a o b=Option.none):own b=Option.none∧b≠a:=by
 unfold upd at h
 by_cases e:b=a
 ·rw[if_pos e] at h;cases h
 ·rw[if_neg e] at h;exact⟨h,e⟩
theorem sub.refl(own:Own):sub own own:=fun V V h=>h
theorem sub.trans{a b c:Own}(h:sub a b)(k:sub b c):sub a c:=fun x o e=>k x o (h x o e)
theorem sub.upd{own:Own}{a:Addr}{o:AObj}(h:own a=Option.none):sub own (upd own a o):=fun b x e=>by
 rw[upd_ne];exact e
 rintro rfl;rw[h] at e;cases e
theorem sub.upd2{own own':Own}{a:Addr}{o:AObj}(h:sub own own'):sub (Mine.upd own a o) (Mine.upd own' a o):=fun b x e=>by
 unfold Mine.upd at e ⊢
 by_cases k:b=a
 ·rw[if_pos k] at e ⊢;exact e
 ·rw[if_neg k] at e ⊢;exact h b x e
theorem sub.none{own own':Own}(h:sub own own'){a:Addr}(e:own' a=Option.none):own a=Option.none:=by
 cases k:own a with
 |none=>rfl
 |some o=>rw[h a o k] at e;cases e
set_option genInjectivity false in
structure GC where
 prog:Program
 w:World
 base:Heap
 hK:(KF w.params).In base
 mb:Str→Option Value
 bns:base.Ns builtinsNs mb
 nolimit:base.NoLimit
 bb:∀ x:Str,x≠"__name__"→mb x=bootBuiltins x
noncomputable def OW(P:Addr→Prop)(h:Heap):Option Value→Option AV→Prop
 |Option.none,Option.none=>True
 |some v,some av=>VRep P h v av
 |_,_=>False
theorem OW.mono{P P':Addr→Prop}{h h':Heap}(hk:∀ a items n,h.get? a=some (tupO items n)→P a→h'.get? a=some (tupO items n)∧P' a):∀{v:Option Value} {d:Option AV},OW P h v d→OW P' h' v d
 |Option.none,Option.none,_=>trivial
 |some _,some _,r=>VRep.mono hk r
 |some _,Option.none,r=>r.elim
 |Option.none,some _,r=>r.elim
noncomputable def attrNames:List Str:=["nodes","numbers","weights","depths","above","lots","merged","bank","unions","edges","forest","known","waiting","backs","heap","rows"]
noncomputable def smallInt(i:Int):Prop:=-1000000≤i∧i≤1000000
noncomputable def gp(place:Array Nat):Bool:=decide (place.size≤3)&&SetTable.rising place&&place.all (fun j=>decide (j≤7))
noncomputable def stb(bt p:Bool)(place:Array Nat):SetTable:={mask:=7,place:=place,dummies:=#[],finger:=0,led:=!bt,moves:=0,plain:=p}
noncomputable def ORep(G:GC)(own:Own)(h:Heap)(a:Addr):AObj→Prop
 |.ns m=>∃ mv,h.Ns1 a mv∧Within mv attrNames∧∀ x,OW (fz own) h (mv x) (m x)
 |.rng x y=>smallInt x∧smallInt y∧∃ t u v,IsRange h a x y 1 t u v
 |.list l=>∃ items n,h.get? a=some {cls:=.type "list",data:=.seq items n}∧VReps (fz own) h items.toList l
 |.dS es=>(a == sysModules)=false∧∃ kvs:List (Str × Value),h.DictOf (strKind G.prog G.w) a kvs∧kvs.map (·.1)=es.map (·.1)∧VReps (fz own) h (kvs.map (·.2)) (es.map (·.2))
 |.dI es=>(a == sysModules)=false∧∃ kvs:List (Int × Value),h.DictOf (intKind G.prog G.w) a kvs∧kvs.map (·.1)=es.map (·.1)∧VReps (fz own) h (kvs.map (·.2)) (es.map (·.2))
 |.dT es=>(a == sysModules)=false∧∃ xs:List (AV × Addr × Value),h.DictOfH (tk G.prog G.w) a xs∧xs.map (·.1)=es.map (·.1)∧VReps (fz own) h (xs.map (·.2.2)) (es.map (·.2))∧VReps (fz own) h (xs.map fun x=>.ref x.2.1) (es.map (·.1))
 |.inst C d=>h.get? a=some {cls:=.ref C,dict:=some d}
 |.lit l k=>h.IsListIter a l k
 |.tit l k=>∃ t items n,h.IsTupleIter a t k∧own t=Option.none∧h.get? t=some (tupO items n)∧VReps (fz own) h items.toList l
 |.rit x left=>IsRangeIter h a x left 1
 |.otup n=>∃ items k,h.get? a=some (tupO items k)∧items.size=n
 |.zip its TO=>∃ TI n,h.get? a=some {cls:=.type "zip",dict:=none,data:=.fields #[.none,.bool false,.bool false,.ref TI,.ref TO],slots:=#[]}∧own TI=Option.none∧
   h.get? TI=some (tupO (its.map Value.ref).toArray n)
 |.sset p L=>∃ es ep place,h.get? a=some {cls:=.type "set",dict:=none,data:=.set es ep (stb (G.w.params.followText "set-order") p place),slots:=#[]}∧gp place=true∧place.size=es.size∧(p=true→ElemsOf (intKind G.prog G.w) es.toList)∧(p=false→es.size≤1)∧
   VReps (fz own) h (es.toList.map (·.2)) L
 |.enum it=>h.get? a=some {cls:=.type "enumerate",dict:=none,data:=.fields #[.none,.bool false,.ref it,rawInt 0,.none,.none],slots:=#[]}
 |.any=>True
noncomputable def noX:Addr→Prop:=fun V=>False
noncomputable def TK(P P':Addr→Prop)(h h':Heap):Prop:=∀ a items n,h.get? a=some (tupO items n)→P a→h'.get? a=some (tupO items n)∧P' a
theorem ORep.mono{G:GC}{own own':Own}{h h':Heap}{a:Addr}(hk:TK (fz own) (fz own') h h')(ha:∀ o,h.get? a=some o→h'.get? a=some o):∀{x:AObj},ORep G own h a x→ORep G own' h' a x
 |.ns m,r=>by
  refine uEAA r ?_;clear r;rintro mv ⟨o,es,ep,e,d⟩ wi k
  exact(iEAA mv (iEEEA o es ep (ha _ e) d) wi (fun x=>(k x).mono hk))
 |.rng x y,r=>by refine uAAEEE r ?_;clear r;rintro h1 h2 t u v e;exact(iAAEEE h1 h2 t u v (ha _ e))
 |.list l,r=>by refine uEEA r ?_;clear r;rintro items n e r;exact(iEEA items n (ha _ e) (r.mono hk))
 |.dS es,r=>by refine uAEAA r ?_;clear r;rintro lo kvs ⟨o,x,y,e,d⟩ k r;exact(iAEAA lo kvs (iEEEA o x y (ha _ e) d) k (r.mono hk))
 |.dI es,r=>by refine uAEAA r ?_;clear r;rintro lo kvs ⟨o,x,y,e,d⟩ k r;exact(iAEAA lo kvs (iEEEA o x y (ha _ e) d) k (r.mono hk))
 |.dT es,r=>by
  refine uAEAAA r ?_;clear r;rintro lo xs ⟨o,x,y,e,d1,d2,d3,d4,d5⟩ k r r2
  refine(iAEAAA lo xs (iEEEAAAAA o x y (ha _ e) d1 d2 d3 ?_ d5) k (r.mono hk) (r2.mono hk))
  intro z hz
  refine⟨(d4 z hz).1,?_⟩
  have h2:∀{l:List (AV × Addr × Value)} {e:List AV},VReps (fz own') h' (l.map fun x=>.ref x.2.1) e→l.map (·.1)=e→∀ z∈l,VRep (fz own') h' (.ref z.2.1) z.1:=by
   intro l
   induction l with
   |nil=>intro e _ _ z hz;simp at hz
   |cons p q ih=>
    intro e hr he z hz
    cases hr with
    |cons r1 rs=>
     simp only[List.map_cons,List.cons.injEq] at he
     rcases List.mem_cons.mp hz with rfl|hz
     ·rw[he.1];exact r1
     ·exact ih rs he.2 z hz
  exact(h2 (r2.mono hk) k z hz).loose
 |.inst C d,r=>ha _ r
 |.lit l k,r=>by refine uEA r ?_;clear r;rintro o e r;exact(iEA o (ha _ e) r)
 |.tit l k,r=>by
  refine uEEEAAA r ?_;clear r;rintro t items n ⟨o,e,q⟩ p ht r
  exact(iEEEAAA t items n (iEA o (ha _ e) q) ((hk _ _ _ ht p).2) ((hk _ _ _ ht p).1) (r.mono hk))
 |.rit x l,r=>ha _ r
 |.otup n,r=>by refine uEEA r ?_;clear r;rintro i k e q;exact(iEEA i k (ha _ e) q)
 |.zip its TO,r=>by
  refine uEEAA r ?_;clear r;rintro TI n e p ht
  exact(iEEAA TI n (ha _ e) ((hk _ _ _ ht p).2) ((hk _ _ _ ht p).1))
 |.sset p L,r=>by
  refine uEEEAAAAA r ?_;clear r;rintro es ep place e h1 h2 h3 h4 r
  exact(iEEEAAAAA es ep place (ha _ e) h1 h2 h3 h4 (r.mono hk))
 |.enum it,r=>ha _ r
 |.any,_=>trivial
structure AOk (A:Around) (ℓ:Nat):Prop where
 handled:A.handled=Option.none
 depth:A.depth≤ℓ
 units:A.units≤6*ℓ
theorem AOk.in1{A ℓ}(h:AOk A ℓ):AOk A.in1 (ℓ+1):=⟨h.handled,Nat.le_succ_of_le h.depth,by have:=h.units;simp only[Around.in1_units];lia⟩
theorem AOk.up{A ℓ ℓ'}(h:AOk A ℓ)(hl:ℓ≤ℓ'):AOk A ℓ':=⟨h.handled,Nat.le_trans h.depth hl,by have:=h.units;lia⟩
theorem AOk.room{A ℓ}(h:AOk A ℓ)(hl:ℓ≤1000):A.units+1000<cLine:=by have:=h.units;unfold cLine;lia
structure Ok (G:GC) (own:Own) (h:Heap):Prop where
 base:∀ a o,G.base.get? a=some o→h.get? a=some o∧own a=Option.none
 own:∀ a ao,own a=some ao→ORep G own h a ao∧∃ o,h.get? a=some o
noncomputable abbrev Names:=List (Str × NameKind)
structure Frm (G:GC) (sc:Names) (env:Env) (X:Addr→Prop) (m:MM) (own:Own) (h:Heap):Prop where
 kind:env.scope.kind=.function
 globals:env.globals=mainGlobals
 builtins:env.builtins=builtinsNs
 klocal:∀ x,sc.lookup x=some .local→env.kindOf x=some .local
 kcell:∀ x,sc.lookup x=some .cell→env.kindOf x=some .cell
 kfree:∀ x,sc.lookup x=some .free→env.kindOf x=some .cell∨env.kindOf x=some .free
 kglob:∀ x,sc.lookup x=some .globalImplicit→env.kindOf x=some .globalImplicit
 loc:∃ mv,h.Ns env.locals mv∧∀ x,sc.lookup x=some .local→OV (fz own) h (mv x) (m x)
 cell:∀ x,sc.lookup x=some .cell∨sc.lookup x=some .free→∃ c cv,env.cells.lookup x=some c∧h.IsCell c cv∧OV (fz own) h cv (m x)∧own c=Option.none
 wcell:∀ x c,sc.lookup x=some .cell→env.cells.lookup x=some c→X c
 apart:∀ x y c,(sc.lookup x=some .cell∨sc.lookup x=some .free)→(sc.lookup y=some .cell∨sc.lookup y=some .free)→env.cells.lookup x=some c→env.cells.lookup y=some c→x=y
 xloc:X env.locals
 xs:∀ a,X a→own a=Option.none∧G.base.get? a=Option.none∧∃ o,h.get? a=some o∧∀ items n,o≠tupO items n
structure Step (X:Addr→Prop) (own own':Own) (s s':Shared):Prop where
 ex:∃ h' tk,s'={s with heap:=h',toks:=tk}
 keep:∀ a o,s.heap.get? a=some o→own a=Option.none→¬ X a→s'.heap.get? a=some o∧own' a=Option.none
theorem Step.refl{X own}(s:Shared):Step X own own s s:=⟨(iEE _ _ rfl),fun V V e h V=>⟨e,h⟩⟩
theorem Step.toks{X own}(s:Shared)(t:Nat):Step X own own s {s with toks:=t}:=⟨(iEE _ _ rfl),fun V V e h V=>⟨e,h⟩⟩
theorem Step.trans{X own own1 own2}{s s1 s2:Shared}(a:Step X own own1 s s1)(b:Step X own1 own2 s1 s2):Step X own own2 s s2:=by
 refine uEE a.ex ?_;rintro h1 t1 rfl
 refine uEE b.ex ?_;rintro h2 t2 rfl
 exact⟨(iEE _ _ rfl),fun x o e h n=>b.keep x o (a.keep x o e h n).1 (a.keep x o e h n).2 n⟩
theorem Step.weak{X own own'}{s s':Shared}(a:Step noX own own' s s'):Step X own own' s s':=⟨a.ex,fun x o e h V=>a.keep x o e h id⟩
theorem Step.less{X own own1 own2}{s s':Shared}(a:Step X own own1 s s')(h:sub own2 own1):Step X own own2 s s':=⟨a.ex,fun x o e k n=>⟨(a.keep x o e k n).1,h.none (a.keep x o e k n).2⟩⟩
theorem Step.mono{own own' s s'}(S:Step noX own own' s s'):TK (fz own) (fz own') s.heap s'.heap:=fun a V V e p=>S.keep a _ e p id
theorem Step.monoX{G sc env X m own own' s s'}(F:Frm G sc env X m own s.heap)(S:Step X own own' s s'):TK (fz own) (fz own') s.heap s'.heap:=fun a i n e p=>S.keep a _ e p fun hx=>by
 refine uAAEA (F.xs a hx) fun V V o' e' hn=>?_
 rw[e] at e';cases e'
 exact hn _ _ rfl
theorem VRep.step{own own' s s'}{v av}(r:VRep (fz own) s.heap v av)(S:Step noX own own' s s'):VRep (fz own') s'.heap v av:=r.mono S.mono
theorem VReps.step{own own' s s'}{v av}(r:VReps (fz own) s.heap v av)(S:Step noX own own' s s'):VReps (fz own') s'.heap v av:=r.mono S.mono
theorem OV.step{own own' s s'}{v av}(r:OV (fz own) s.heap v av)(S:Step noX own own' s s'):OV (fz own') s'.heap v av:=r.mono S.mono
theorem VRep.stepX{G sc env X m own own' s s'}{v av}(r:VRep (fz own) s.heap v av)(F:Frm G sc env X m own s.heap)(S:Step X own own' s s'):VRep (fz own') s'.heap v av:=r.mono (S.monoX F)
theorem Frm.step{G sc env X m own own' s s'}(F:Frm G sc env X m own s.heap)(S:Step noX own own' s s'):Frm G sc env X m own' s'.heap where
 kind:=F.kind
 globals:=F.globals
 builtins:=F.builtins
 klocal:=F.klocal
 kcell:=F.kcell
 kfree:=F.kfree
 kglob:=F.kglob
 loc:=by
  refine uEA F.loc fun mv hn hm=>?_
  refine(iEA mv ?_ (fun x hx=>(hm x hx).step S))
  refine uEEEA hn ?_;clear hn;rintro o es ep ho r
  exact(iEEEA o es ep ((S.keep _ _ ho (F.xs _ F.xloc).1 id).1) r)
 cell:=fun x hx=>by
  refine uEEAAA (F.cell x hx) ?_;rintro c cv h1 ⟨o,ho,hd⟩ h3 h4
  have k:=S.keep _ _ ho h4 id
  exact(iEEAAA c cv h1 (iEA o k.1 hd) (h3.step S) k.2)
 wcell:=F.wcell
 apart:=F.apart
 xloc:=F.xloc
 xs:=fun a ha=>by
  refine uAAEA (F.xs a ha) fun h1 h2 o h3 h4=>?_
  have k:=S.keep _ _ h3 h1 id
  exact(iAAEA k.2 h2 o k.1 h4)
theorem Ok.fresh{G own h}(O:Ok G own h){a:Addr}(e:h.get? a=Option.none):own a=Option.none:=by
 cases k:own a with
 |none=>rfl
 |some x=>refine uAE (O.own a x k) fun V o ho=>?_;rw[e] at ho;cases ho
theorem get_size(h:Heap):h.get? h.objs.size=Option.none:=by
 cases e:h.get? h.objs.size with
 |none=>rfl
 |some o=>exact absurd (Heap.lt_size e) (Nat.lt_irrefl _)
theorem Ok.ext{G own h h'}(O:Ok G own h)(hk:∀ b o,h.get? b=some o→h'.get? b=some o):Ok G own h' where
 base:=fun a o e=>⟨hk _ _ (O.base a o e).1,(O.base a o e).2⟩
 own:=fun a x e=>by
  refine uAE (O.own a x e) fun r o ho=>?_
  exact(iAE (r.mono (fun b i n e p=>⟨hk _ _ e,p⟩) (hk a)) o (hk _ _ ho))
theorem Ok.new{G own h h' a x}(O:Ok G own h)(hk:∀ b o,h.get? b=some o→h'.get? b=some o)(ha:h.get? a=Option.none)(hx:ORep G (upd own a x) h' a x)(he:∃ o,h'.get? a=some o):Ok G (upd own a x) h' where
 base:=fun b o e=>by
  have k:=O.base b o e
  refine⟨hk _ _ k.1,?_⟩
  rw[upd_ne];exact k.2
  rintro rfl;rw[ha] at k;cases k.1
 own:=fun b y e=>by
  by_cases hb:b=a
  ·subst hb
   rw[upd_self] at e;cases e
   exact⟨hx,he⟩
  ·rw[upd_ne _ _ hb] at e
   refine uAE (O.own b y e) fun r o ho=>?_
   refine(iAE (r.mono (fun c i n e p=>⟨hk _ _ e,?_⟩) (hk b)) o (hk _ _ ho))
   show upd own a x c=Option.none
   rw[upd_ne];exact p
   rintro rfl;rw[ha] at e;cases e
theorem Step.new{G own s h' tk a x}(O:Ok G own s.heap)(hk:∀ b o,s.heap.get? b=some o→h'.get? b=some o)(ha:s.heap.get? a=Option.none):Step noX own (upd own a x) s {s with heap:=h',toks:=tk}:=
 ⟨(iEE _ _ rfl),fun b o e p V=>⟨hk _ _ e,by rw[upd_ne];exact p;rintro rfl;rw[ha] at e;cases e⟩⟩
theorem Step.ext{own s h' tk}(hk:∀ b o,s.heap.get? b=some o→h'.get? b=some o):Step noX own own s {s with heap:=h',toks:=tk}:=
 ⟨(iEE _ _ rfl),fun b o e p V=>⟨hk _ _ e,p⟩⟩
theorem Ok.chg{G own h h' a x y}(O:Ok G own h)(ha:own a=some x)(hs:Heap.SameBut a h h')(hx:ORep G (upd own a y) h' a y)(he:∃ o,h'.get? a=some o):Ok G (upd own a y) h' where
 base:=fun b o e=>by
  have k:=O.base b o e
  have hb:b≠a:=by rintro rfl;rw[ha] at k;cases k.2
  exact⟨(hs.2 b hb).trans k.1,by rw[upd_ne _ _ hb];exact k.2⟩
 own:=fun b z e=>by
  by_cases hb:b=a
  ·subst hb
   rw[upd_self] at e;cases e
   exact⟨hx,he⟩
  ·rw[upd_ne _ _ hb] at e
   refine uAE (O.own b z e) fun r o ho=>?_
   refine(iAE (r.mono (fun c i n e p=>?_) (fun o e=>(hs.2 b hb).trans e)) o ((hs.2 b hb).trans ho))
   have hc:c≠a:=by rintro rfl;have:own c=Option.none:=p;rw[ha] at this;cases this
   exact⟨(hs.2 c hc).trans e,by show upd own a y c=Option.none;rw[upd_ne _ _ hc];exact p⟩
theorem TK.chg{own h h' a x y}(ha:own a=some x)(hs:Heap.SameBut a h h'):TK (fz own) (fz (upd own a y)) h h':=fun c i n e p=>by
 have hc:c≠a:=by rintro rfl;have:own c=Option.none:=p;rw[ha] at this;cases this
 exact⟨(hs.2 c hc).trans e,by show upd own a y c=Option.none;rw[upd_ne _ _ hc];exact p⟩
theorem Step.chg{own s h' tk a x y}(ha:own a=some x)(hs:Heap.SameBut a s.heap h'):Step noX own (upd own a y) s {s with heap:=h',toks:=tk}:=
 ⟨(iEE _ _ rfl),fun b o e p V=>by
  have hb:b≠a:=by rintro rfl;rw[ha] at p;cases p
  exact⟨(hs.2 b hb).trans e,by rw[upd_ne _ _ hb];exact p⟩⟩
theorem Ok.frm{G own h h' a}(O:Ok G own h)(ha:own a=Option.none)(hb:G.base.get? a=Option.none)(hn:∀ items n,h.get? a≠some (tupO items n))(hs:Heap.SameBut a h h'):Ok G own h' where
 base:=fun b o e=>by
  have k:=O.base b o e
  have hb:b≠a:=by rintro rfl;rw[hb] at e;cases e
  exact⟨(hs.2 b hb).trans k.1,k.2⟩
 own:=fun b z e=>by
  refine uAE (O.own b z e) fun r o ho=>?_
  have hb:b≠a:=by rintro rfl;rw[ha] at e;cases e
  refine(iAE (r.mono (fun c i n e p=>⟨(hs.2 c ?_).trans e,p⟩) (fun o e=>(hs.2 b hb).trans e)) o ((hs.2 b hb).trans ho))
  rintro rfl;exact hn _ _ e
theorem Ok.less{G own own' h}(O:Ok G own' h)(hs:sub own own'):Ok G own h where
 base:=fun b o e=>⟨(O.base b o e).1,hs.none (O.base b o e).2⟩
 own:=fun b z e=>by
  obtain⟨r,x⟩:=O.own b z (hs b z e)
  exact⟨r.mono (fun c i n e p=>⟨e,hs.none p⟩) fun V e=>e,x⟩
theorem VRep.less{own own' h v av}(r:VRep (fz own') h v av)(hs:sub own own'):VRep (fz own) h v av:=r.mono fun V V V e p=>⟨e,hs.none p⟩
theorem VReps.less{own own' h v av}(r:VReps (fz own') h v av)(hs:sub own own'):VReps (fz own) h v av:=r.mono fun V V V e p=>⟨e,hs.none p⟩
noncomputable def Ev(G:GC)(ℓ:Nat)(sc:Names)(m:MM)(own:Own)(e:Expr)(K:AV→Own→Prop):Prop:=
 ∀(A:Around)(env:Env)(X:Addr→Prop)(s:Shared)(Q E:Value→Shared→Prop),AOk A ℓ→Ok G own s.heap→Frm G sc env X m own s.heap→
  (∀ v av own' s',K av own'→Step noX own own' s s'→Ok G own' s'.heap→VRep (fz own') s'.heap v av→Q v s')→
  wpAny (model G.prog G.w) A (eval e env) Q E s
noncomputable def Evs(G:GC)(ℓ:Nat)(sc:Names)(m:MM)(own:Own)(es:List Expr)(K:List AV→Own→Prop):Prop:=
 ∀(A:Around)(env:Env)(X:Addr→Prop)(s:Shared)(pos:Pos)(Q:List Value→Shared→Prop)(E:Value→Shared→Prop),AOk A ℓ→Ok G own s.heap→Frm G sc env X m own s.heap→
  (∀ vs avs own' s',K avs own'→Step noX own own' s s'→Ok G own' s'.heap→VReps (fz own') s'.heap vs avs→Q vs s')→
  wpAny (model G.prog G.w) A (spliced (backTo pos (starEach es env))) Q E s
noncomputable def Tst(G:GC)(ℓ:Nat)(sc:Names)(m:MM)(own:Own)(e:Expr)(K:Bool→Own→Prop):Prop:=
 ∀(A:Around)(env:Env)(X:Addr→Prop)(s:Shared)(Q:Bool→Shared→Prop)(E:Value→Shared→Prop),AOk A ℓ→Ok G own s.heap→Frm G sc env X m own s.heap→
  (∀ b own' s',K b own'→Step noX own own' s s'→Ok G own' s'.heap→Q b s')→
  wpAny (model G.prog G.w) A (isTrue e env (eval e env)) Q E s
noncomputable def Op(G:GC)(ℓ:Nat)(own:Own)(f:List Value→Sem Value)(args:List AV)(K:AV→Own→Prop):Prop:=
 ∀(A:Around)(s:Shared)(vs:List Value)(Q E:Value→Shared→Prop),AOk A ℓ→Ok G own s.heap→VReps (fz own) s.heap vs args→
  (∀ v av own' s',K av own'→Step noX own own' s s'→Ok G own' s'.heap→VRep (fz own') s'.heap v av→Q v s')→
  wpAny (model G.prog G.w) A (f vs) Q E s
theorem Ev.conseq{G ℓ sc m own e}{K K':AV→Own→Prop}(h:Ev G ℓ sc m own e K)(hk:∀ av o,K av o→∃ o',sub o' o∧K' av o'):Ev G ℓ sc m own e K':=
 fun A env X s Q E hA O F hQ=>h A env X s Q E hA O F fun v av o1 s1 h1 S1 O1 r1=>by
  refine uEA (hk av o1 h1) fun o' hs k'=>?_
  exact hQ v av o' s1 k' (S1.less hs) (O1.less hs) (r1.less hs)
theorem Op.conseq{G ℓ own f args}{K K':AV→Own→Prop}(h:Op G ℓ own f args K)(hk:∀ av o,K av o→∃ o',sub o' o∧K' av o'):Op G ℓ own f args K':=
 fun A s vs Q E hA O R hQ=>h A s vs Q E hA O R fun v av o1 s1 h1 S1 O1 r1=>by
  refine uEA (hk av o1 h1) fun o' hs k'=>?_
  exact hQ v av o' s1 k' (S1.less hs) (O1.less hs) (r1.less hs)
theorem Tst.conseq{G ℓ sc m own e}{K K':Bool→Own→Prop}(h:Tst G ℓ sc m own e K)(hk:∀ b o,K b o→∃ o',sub o' o∧K' b o'):Tst G ℓ sc m own e K':=
 fun A env X s Q E hA O F hQ=>h A env X s Q E hA O F fun b o1 s1 h1 S1 O1=>by
  refine uEA (hk b o1 h1) fun o' hs k'=>?_
  exact hQ b o' s1 k' (S1.less hs) (O1.less hs)
section
variable{G:GC}{ℓ:Nat}{sc:Names}{m:MM}{own:Own}{K:AV→Own→Prop}
theorem Ev.cint{i:Int}{k:Nat}{pos:Pos}(h:K (.int i) own):Ev G ℓ sc m own (.Constant (.int i) k pos) K:=
 fun V V V s V V V O V hQ=>wpAny_Constant_int (hQ _ _ _ _ h (Step.toks s _) O (.int _ _))
theorem Ev.cstr{i:Str}{k:Nat}{pos:Pos}(h:K (.str i) own):Ev G ℓ sc m own (.Constant (.str i) k pos) K:=
 fun V V V s V V V O V hQ=>wpAny_Constant_str (hQ _ _ _ _ h (Step.toks s _) O (.str _ _))
theorem Ev.cbool{b:Bool}{k:Nat}{pos:Pos}(h:K (.bool b) own):Ev G ℓ sc m own (.Constant (.bool b) k pos) K:=
 fun V V V s V V V O V hQ=>wpAny_Constant_bool (hQ _ _ _ _ h (Step.refl s) O (.bool _))
theorem Ev.cnone{k:Nat}{pos:Pos}(h:K .none own):Ev G ℓ sc m own (.Constant .none k pos) K:=
 fun V V V s V V V O V hQ=>wpAny_Constant_none (hQ _ _ _ _ h (Step.refl s) O .none)
theorem Ev.nloc{x:Str}{pos:Pos}{av:AV}(hk:sc.lookup x=some .local)(hm:m x=some av)(h:K av own)(hd:autoParam ((x == ("__debug__":Str))=false) sD) :
  Ev G ℓ sc m own (.Name x pos) K:=fun A env X s Q E V O F hQ=>by
 refine uEA F.loc fun mv hn hv=>?_
 have r:=hv x hk
 rw[hm] at r
 refine uEA r.of_some fun v e r=>?_
 exact wpAny_Name (wpAny_loadName_local F.kind (F.klocal x hk) hn e (hQ _ _ _ _ h (Step.refl s) O r)) hd
theorem Ev.ncell{x:Str}{pos:Pos}{av:AV}(hk:sc.lookup x=some .cell)(hm:m x=some av)(h:K av own)(hd:autoParam ((x == ("__debug__":Str))=false) sD) :
  Ev G ℓ sc m own (.Name x pos) K:=fun A env X s Q E V O F hQ=>by
 refine uEEAAA (F.cell x (.inl hk)) fun c cv hc hi r V=>?_
 rw[hm] at r
 refine uEA r.of_some fun v e r=>?_
 subst e
 exact wpAny_Name (wpAny_loadName_cell F.kind (F.kcell x hk) hc hi (hQ _ _ _ _ h (Step.refl s) O r)) hd
theorem Ev.nfree{x:Str}{pos:Pos}{av:AV}(hk:sc.lookup x=some .free)(hm:m x=some av)(h:K av own)(hd:autoParam ((x == ("__debug__":Str))=false) sD)
  (hd2:autoParam ((x == ("__classdict__":Str))=false) sD) :
  Ev G ℓ sc m own (.Name x pos) K:=fun A env X s Q E V O F hQ=>by
 refine uEEAAA (F.cell x (.inr hk)) fun c cv hc hi r V=>?_
 rw[hm] at r
 refine uEA r.of_some fun v e r=>?_
 subst e
 rcases F.kfree x hk with hf|hf
 ·exact wpAny_Name (wpAny_loadName_cell F.kind hf hc hi (hQ _ _ _ _ h (Step.refl s) O r)) hd
 ·exact wpAny_Name (wpAny_loadName_free F.kind hf hc hi (hQ _ _ _ _ h (Step.refl s) O r) hd2) hd
theorem Ok.kin{G own h}(O:Ok G own h):(KF G.w.params).In h:=G.hK.keeps fun b o e=>(O.base b o e).1
theorem Ok.builtins{G own h}(O:Ok G own h):h.Ns builtinsNs G.mb:=G.bns.keeps fun b o e=>(O.base b o e).1
theorem Ok.nolimit{G own h}(O:Ok G own h):h.NoLimit:=G.nolimit.keeps fun b o e=>(O.base b o e).1
structure Glb (G:GC) (x:Str) (av:AV):Prop where
 at_:∃ v,(nsIn (KF G.w.params) mainGlobals x=some (some v)∨(nsIn (KF G.w.params) mainGlobals x=some Option.none∧G.mb x=some v))∧∀ P h,VRep P h v av
theorem Ev.nglob{x:Str}{pos:Pos}{av:AV}(hk:sc.lookup x=some .globalImplicit)(hg:Glb G x av)(h:K av own)(hd:autoParam ((x == ("__debug__":Str))=false) sD) :
  Ev G ℓ sc m own (.Name x pos) K:=fun A env X s Q E V O F hQ=>by
 have hkind:=F.kind
 have hx:=F.kglob x hk
 refine uEA hg.at_ fun v hv hr=>?_
 have fin:=hQ v av own s h (Step.refl s) O (hr _ _)
 refine Calls.Name_function_global hkind hx ?_ hd
 unfold loadGlobal
 rw[F.globals,F.builtins]
 rcases hv with h1|⟨h1,h2⟩
 ·refine wpAny_bind ((looks_nsIn O.kin h1).here ?_)
  exact wpAny_pure fin
 ·refine wpAny_bind ((looks_nsIn O.kin h1).here ?_)
  refine wpAny_bind (wpAny_nsGet O.builtins ?_)
  rw[h2];exact wpAny_pure fin
end
section
variable{G:GC}{ℓ:Nat}{sc:Names}{m:MM}{own:Own}{K:AV→Own→Prop}
noncomputable abbrev op2(f:Value→Value→Sem Value):List Value→Sem Value:=fun vs=>f (vs.getD 0 .none) (vs.getD 1 .none)
theorem Ev.binop{l r:Expr}{op:Operator}{pos:Pos}(h:Ev G ℓ sc m own l fun a o1=>Ev G ℓ sc m o1 r fun b o2=>Op G ℓ o2 (op2 (binaryOp op)) [a,b] K) :
  Ev G ℓ sc m own (.BinOp l op r pos) K:=fun A env X s Q E hA O F hQ=>by
 refine wpAny_BinOp (h A env X s _ E hA O F fun v av o1 s1 h1 S1 O1 r1=>?_)
 refine h1 A env X s1 _ E hA O1 (F.step S1) fun v2 av2 o2 s2 h2 S2 O2 r2=>?_
 exact h2 A s2 [v,v2] Q E hA O2 (.cons (r1.step S2) (.cons r2 .nil)) fun v3 av3 o3 s3 h3 S3 O3 r3=>hQ v3 av3 o3 s3 h3 ((S1.trans S2).trans S3) O3 r3
theorem Ev.cmp{l r:Expr}{op:CmpOp}{pos:Pos}(h:Ev G ℓ sc m own l fun a o1=>Ev G ℓ sc m o1 r fun b o2=>Op G ℓ o2 (op2 (compareOp op)) [a,b] K)
  (hm:autoParam (behindInMarks op r=false) sU) :
  Ev G ℓ sc m own (.Compare l [op] [r] pos) K:=fun A env X s Q E hA O F hQ=>by
 refine wpAny_Compare1 (h A env X s _ E hA O F fun v av o1 s1 h1 S1 O1 r1=>?_) hm
 refine h1 A env X s1 _ E hA O1 (F.step S1) fun v2 av2 o2 s2 h2 S2 O2 r2=>?_
 exact h2 A s2 [v,v2] Q E hA O2 (.cons (r1.step S2) (.cons r2 .nil)) fun v3 av3 o3 s3 h3 S3 O3 r3=>hQ v3 av3 o3 s3 h3 ((S1.trans S2).trans S3) O3 r3
theorem Tst.cmp{l r:Expr}{op:CmpOp}{pos:Pos}{K:Bool→Own→Prop}(h:Ev G ℓ sc m own l fun a o1=>Ev G ℓ sc m o1 r fun b o2=>Op G ℓ o2 (op2 (compareOp op)) [a,b] fun c o3=>∃ t,c=.bool t∧K t o3)
  (hm:autoParam (behindInMarks op r=false) sU) :
  Tst G ℓ sc m own (.Compare l [op] [r] pos) K:=fun A env X s Q E hA O F hQ=>by
 refine wpAny_isTrue_Compare1 (h A env X s _ E hA O F fun v av o1 s1 h1 S1 O1 r1=>?_) hm
 refine h1 A env X s1 _ E hA O1 (F.step S1) fun v2 av2 o2 s2 h2 S2 O2 r2=>?_
 refine h2 A s2 [v,v2] _ E hA O2 (.cons (r1.step S2) (.cons r2 .nil)) fun v3 av3 o3 s3 h3 S3 O3 r3=>?_
 refine uEA h3 ?_;clear h3;rintro t rfl k
 obtain rfl:=r3.i_bool
 exact wpAny_truthy_bool (hQ t o3 s3 k ((S1.trans S2).trans S3) O3)
theorem Tst.val{e:Expr}{K:Bool→Own→Prop}(h:Ev G ℓ sc m own e fun c o1=>∃ t,c=.bool t∧K t o1)
  (he:autoParam (∀ env whole,isTrue e env whole=(do let v ← whole;standAt e.pos;holding [v] (truthy v))) sI):Tst G ℓ sc m own e K:=fun A env X s Q E hA O F hQ=>by
 refine wpAny_isTrue_value (h A env X s _ E hA O F fun v av o1 s1 h1 S1 O1 r1=>?_) (he env _)
 refine uEA h1 ?_;clear h1;rintro t rfl k
 obtain rfl:=r1.i_bool
 exact wpAny_truthy_bool (hQ t o1 s1 k S1 O1)
theorem Tst.not{e:Expr}{pos:Pos}{K:Bool→Own→Prop}(h:Tst G ℓ sc m own e fun b o1=>K (!b) o1):Tst G ℓ sc m own (.UnaryOp .Not e pos) K:=fun A env X s Q E hA O F hQ=>
 wpAny_isTrue_Not (h A env X s _ E hA O F fun b o1 s1 h1 S1 O1=>hQ (!b) o1 s1 h1 S1 O1)
noncomputable def Tsts(G:GC)(ℓ:Nat)(sc:Names)(m:MM)(own:Own)(op:BoolOp)(es:List Expr)(K:Bool→Own→Prop):Prop:=
 ∀(A:Around)(env:Env)(X:Addr→Prop)(s:Shared)(Q:Bool→Shared→Prop)(E:Value→Shared→Prop),AOk A ℓ→Ok G own s.heap→Frm G sc env X m own s.heap→
  (∀ b own' s',K b own'→Step noX own own' s s'→Ok G own' s'.heap→Q b s')→
  wpAny (model G.prog G.w) A (allTrue op es env) Q E s
theorem Tst.boolop{op:BoolOp}{es:List Expr}{pos:Pos}{K:Bool→Own→Prop}(h:Tsts G ℓ sc m own op es K):Tst G ℓ sc m own (.BoolOp op es pos) K:=fun A env X s Q E hA O F hQ=>
 wpAny_isTrue_BoolOp (h A env X s Q E hA O F hQ)
theorem Tsts.nil_and{K:Bool→Own→Prop}(h:K true own):Tsts G ℓ sc m own .And [] K:=fun V V V s V V V O V hQ=>wpAny_allTrue_And_nil (hQ _ _ s h (Step.refl s) O)
theorem Tsts.nil_or{K:Bool→Own→Prop}(h:K false own):Tsts G ℓ sc m own .Or [] K:=fun V V V s V V V O V hQ=>wpAny_allTrue_Or_nil (hQ _ _ s h (Step.refl s) O)
theorem Tsts.and{e:Expr}{es:List Expr}{K:Bool→Own→Prop}(h:Tst G ℓ sc m own e fun b o1=>if b=true then Tsts G ℓ sc m o1 .And es K else K false o1):Tsts G ℓ sc m own .And (e::es) K:=fun A env X s Q E hA O F hQ=>by
 refine wpAny_allTrue_And_cons (h A env X s _ E hA O F fun b o1 s1 h1 S1 O1=>?_)
 cases b with
 |true=>exact h1 A env X s1 Q E hA O1 (F.step S1) fun b o2 s2 h2 S2 O2=>hQ b o2 s2 h2 (S1.trans S2) O2
 |false=>exact hQ false o1 s1 h1 S1 O1
theorem Tsts.or{e:Expr}{es:List Expr}{K:Bool→Own→Prop}(h:Tst G ℓ sc m own e fun b o1=>if b=true then K true o1 else Tsts G ℓ sc m o1 .Or es K):Tsts G ℓ sc m own .Or (e::es) K:=fun A env X s Q E hA O F hQ=>by
 refine wpAny_allTrue_Or_cons (h A env X s _ E hA O F fun b o1 s1 h1 S1 O1=>?_)
 cases b with
 |false=>exact h1 A env X s1 Q E hA O1 (F.step S1) fun b o2 s2 h2 S2 O2=>hQ b o2 s2 h2 (S1.trans S2) O2
 |true=>exact hQ true o1 s1 h1 S1 O1
theorem Ev.ifexp{t b e:Expr}{pos:Pos}(h:Tst G ℓ sc m own t fun c o1=>if c=true then Ev G ℓ sc m o1 b K else Ev G ℓ sc m o1 e K):Ev G ℓ sc m own (.IfExp t b e pos) K:=fun A env X s Q E hA O F hQ=>by
 refine wpAny_IfExp (h A env X s _ E hA O F fun c o1 s1 h1 S1 O1=>?_)
 cases c<;>exact h1 A env X s1 Q E hA O1 (F.step S1) fun v av o2 s2 h2 S2 O2 r2=>hQ v av o2 s2 h2 (S1.trans S2) O2 r2
theorem Ev.and2{x y:Expr}{pos:Pos}(h:Ev G ℓ sc m own x fun c o1=>∃ t,c=.bool t∧if t=true then Ev G ℓ sc m o1 y K else K (.bool false) o1):Ev G ℓ sc m own (.BoolOp .And [x,y] pos) K:=fun A env X s Q E hA O F hQ=>by
 refine wpAny_And2 (h A env X s _ E hA O F fun v av o1 s1 h1 S1 O1 r1=>?_)
 refine uEA h1 ?_;clear h1;rintro t rfl k
 obtain rfl:=r1.i_bool
 refine wpAny_truthy_bool ?_
 cases t with
 |true=>exact k A env X s1 Q E hA O1 (F.step S1) fun v av o2 s2 h2 S2 O2 r2=>hQ v av o2 s2 h2 (S1.trans S2) O2 r2
 |false=>exact hQ _ _ o1 s1 k S1 O1 (.bool _)
theorem Evs.nil{K:List AV→Own→Prop}(h:K [] own):Evs G ℓ sc m own [] K:=fun V V V s V V V V O V hQ=>wpAny_items_nil (hQ _ _ _ _ h (Step.refl s) O .nil)
theorem Evs.cons{K:List AV→Own→Prop}{e:Expr}{es:List Expr}(h:Ev G ℓ sc m own e fun a o1=>Evs G ℓ sc m o1 es fun as o2=>K (a::as) o2)
  (he:autoParam (∀ env,starEach (e::es) env=(false,eval e env)::starEach es env) sI) :
  Evs G ℓ sc m own (e::es) K:=fun A env X s pos Q E hA O F hQ=>by
 refine wpAny_items_cons (h A env X s _ E hA O F fun v av o1 s1 h1 S1 O1 r1=>?_) (he env)
 exact h1 A env X s1 pos _ E hA O1 (F.step S1) fun vs avs o2 s2 h2 S2 O2 r2=>hQ _ _ o2 s2 h2 (S1.trans S2) O2 (.cons (r1.step S2) r2)
theorem tup_new{own:Own}{s:Shared}{vs:List Value}{avs:List AV}(O:Ok G own s.heap)(r:VReps (fz own) s.heap vs avs) :
  Step noX own own s {s with heap:=s.heap.push {cls:=.type "tuple",data:=.seq vs.toArray}}∧Ok G own (s.heap.push {cls:=.type "tuple",data:=.seq vs.toArray})∧
   VRep (fz own) (s.heap.push {cls:=.type "tuple",data:=.seq vs.toArray}) (.ref s.heap.objs.size) (.tup avs):=by
 have hk:∀ b o,s.heap.get? b=some o→(s.heap.push {cls:=.type "tuple",data:=.seq vs.toArray}).get? b=some o:=fun b o e=>Heap.get?_push_of_some _ e
 refine(iAA (Step.ext hk) (O.ext hk) (.tup (O.fresh (get_size _)) (Heap.get?_push_size _ rfl) ?_))
 simpa using r.mono fun a i n e p=>⟨hk _ _ e,p⟩
theorem list_new{own:Own}{s:Shared}{vs:List Value}{avs:List AV}(O:Ok G own s.heap)(r:VReps (fz own) s.heap vs avs) :
  own s.heap.objs.size=Option.none∧Step noX own (upd own s.heap.objs.size (.list avs)) s {s with heap:=s.heap.push {cls:=.type "list",data:=.seq vs.toArray}}∧Ok G (upd own s.heap.objs.size (.list avs)) (s.heap.push {cls:=.type "list",data:=.seq vs.toArray}):=by
 have hk:∀ b o,s.heap.get? b=some o→(s.heap.push {cls:=.type "list",data:=.seq vs.toArray}).get? b=some o:=fun b o e=>Heap.get?_push_of_some _ e
 refine(iAA (O.fresh (get_size _)) (Step.new O hk (get_size _)) (O.new hk (get_size _) (iEEA _ 0 (Heap.get?_push_size _ rfl) ?_) ⟨_,Heap.get?_push_size _ rfl⟩))
 refine r.mono fun a i n e p=>⟨hk _ _ e,?_⟩
 show upd own _ _ a=Option.none
 rw[upd_ne];exact p
 rintro rfl;rw[get_size] at e;cases e
theorem Ev.tuple{elts:List Expr}{k:Nat}{pos:Pos}(h:Evs G ℓ sc m own elts fun as o1=>as.length≤sizeLine∧K (.tup as) o1):Ev G ℓ sc m own (.Tuple elts k pos) K:=fun A env X s Q E hA O F hQ=>by
 refine wpAny_Tuple (h A env X s pos _ E hA O F fun vs avs o1 s1 h1 S1 O1 r1=>?_)
 refine uAA (tup_new O1 r1) fun S2 O2 r2=>?_
 exact⟨by rw[r1.length];exact h1.1,hQ _ _ o1 _ h1.2 (S1.trans S2) O2 r2⟩
theorem Ev.list{elts:List Expr}{pos:Pos}(h:Evs G ℓ sc m own elts fun as o1=>as.length≤sizeLine∧∀ a,o1 a=Option.none→K (.ref a) (upd o1 a (.list as))):Ev G ℓ sc m own (.List elts pos) K:=fun A env X s Q E hA O F hQ=>by
 refine wpAny_List (h A env X s pos _ E hA O F fun vs avs o1 s1 h1 S1 O1 r1=>?_)
 refine uAA (list_new O1 r1) fun h2 S2 O2=>?_
 exact⟨by rw[r1.length];exact h1.1,hQ _ _ _ _ (h1.2 _ h2) (S1.trans S2) O2 (.ref _)⟩
end
theorem Step.wide{Y Z:Addr→Prop}{own own' s s'}(a:Step Y own own' s s')(h:∀ x,Y x→Z x):Step Z own own' s s':=⟨a.ex,fun x o e k n=>a.keep x o e k fun y=>n (h x y)⟩
theorem Step.hide{Y Z:Addr→Prop}{own own1 own2}{s s1 s2:Shared}(a:Step Y own own1 s s1)(b:Step Z own1 own2 s1 s2)(hz:∀ x o,s.heap.get? x=some o→own x=Option.none→¬ Y x→¬ Z x):Step Y own own2 s s2:=by
 refine uEE a.ex ?_;rintro h1 t1 rfl
 refine uEE b.ex ?_;rintro h2 t2 rfl
 exact⟨(iEE _ _ rfl),fun x o e h n=>b.keep x o (a.keep x o e h n).1 (a.keep x o e h n).2 (hz x o e h n)⟩
structure Apart (env:Env) (X Y:Addr→Prop) (h:Heap):Prop where
 nx:∀ a,Y a→¬ X a
 nc:∀ a x c,Y a→env.cells.lookup x=some c→c≠a
 nt:∀ a,Y a→∀ items n,h.get? a≠some (tupO items n)
theorem Step.monoY{Y:Addr→Prop}{own own' s s'}(S:Step Y own own' s s')(nt:∀ a,Y a→∀ items n,s.heap.get? a≠some (tupO items n)):TK (fz own) (fz own') s.heap s'.heap:=
 fun a i n e p=>S.keep a _ e p fun y=>nt a y i n e
theorem Frm.forget{G sc env X m m' own h}(F:Frm G sc env X m own h)(hm:∀ x v,m' x=some v→m x=some v):Frm G sc env X m' own h where
 kind:=F.kind
 globals:=F.globals
 builtins:=F.builtins
 klocal:=F.klocal
 kcell:=F.kcell
 kfree:=F.kfree
 kglob:=F.kglob
 loc:=by
  refine uEA F.loc fun mv hn h=>?_
  refine(iEA mv hn (fun x hx=>?_))
  cases e:m' x with
  |none=>cases mv x<;>exact trivial
  |some v=>have:=h x hx;rw[hm x v e] at this;exact this
 cell:=fun x hx=>by
  refine uEEAAA (F.cell x hx) fun c cv h1 h2 h3 h4=>?_
  refine(iEEAAA c cv h1 h2 ?_ h4)
  cases e:m' x with
  |none=>cases cv<;>exact trivial
  |some v=>rw[hm x v e] at h3;exact h3
 wcell:=F.wcell
 apart:=F.apart
 xloc:=F.xloc
 xs:=F.xs
theorem Frm.less{G sc env X m own own' h}(F:Frm G sc env X m own' h)(hs:sub own own'):Frm G sc env X m own h where
 kind:=F.kind
 globals:=F.globals
 builtins:=F.builtins
 klocal:=F.klocal
 kcell:=F.kcell
 kfree:=F.kfree
 kglob:=F.kglob
 loc:=by
  refine uEA F.loc fun mv hn h=>?_
  exact(iEA mv hn (fun x hx=>(h x hx).mono fun V V V e p=>⟨e,hs.none p⟩))
 cell:=fun x hx=>by
  refine uEEAAA (F.cell x hx) fun c cv h1 h2 h3 h4=>?_
  exact(iEEAAA c cv h1 h2 (h3.mono fun V V V e p=>⟨e,hs.none p⟩) (hs.none h4))
 wcell:=F.wcell
 apart:=F.apart
 xloc:=F.xloc
 xs:=fun a ha=>⟨hs.none (F.xs a ha).1,(F.xs a ha).2⟩
noncomputable def stOk(sc:Names)(x:Str):Bool:=sc.lookup x == some .local || sc.lookup x == some .cell
theorem stOk_or{sc:Names}{x:Str}(h:stOk sc x=true):sc.lookup x=some .local∨sc.lookup x=some .cell:=by
 rw[stOk,Bool.or_eq_true] at h
 exact h.imp beq_iff_eq.mp beq_iff_eq.mp
theorem mset_self(m:MM)(x:Str)(v:AV):mset m x v x=some v:=by simp[mset]
theorem mset_ne(m:MM){x y:Str}(v:AV)(h:y≠x):mset m x v y=m y:=by simp[mset,h]
theorem Frm.st{G:GC}{sc env X m own}{s:Shared}{M:Model}{A:Around}{E:Value→Shared→Prop}{x:Str}{v:Value}{av:AV}{Q:Unit→Shared→Prop}(F:Frm G sc env X m own s.heap)(O:Ok G own s.heap)
  (r:VRep (fz own) s.heap v av) (hk:stOk sc x=true) (h:∀ s',Step X own own s s'→Ok G own s'.heap→Frm G sc env X (mset m x av) own s'.heap→Q () s'):wpAny M A (storeName env x v) Q E s:=by
 refine uEA F.loc fun mv hn hm=>?_
 have hfunc:(env.scope.kind == .class || (env.scope.kind == .module&&env.locals != env.globals))=false:=by rw[F.kind];rfl
 rcases stOk_or hk with hl|hl
 ·refine wpAny_storeName_local (F.klocal x hl) hn (fun h' hn' hs=>?_) hfunc
  refine uAAEA (F.xs _ F.xloc) fun x1 x2 ox x3 x4=>?_
  have S:Step X own own s {s with heap:=h',toks:=s.toks+1}:=⟨(iEE _ _ rfl),fun b o e p nx=>⟨(hs.2 b fun q=>nx (q▸F.xloc)).trans e,p⟩⟩
  have T:=S.monoX F
  refine h _ S (O.frm x1 x2 (fun i n e=>by rw[x3] at e;cases e;exact x4 _ _ rfl) hs) ⟨F.kind,F.globals,F.builtins,F.klocal,F.kcell,F.kfree,F.kglob,(iEA _ hn' (fun y hy=>?_)),fun y hy=>?_,F.wcell,F.apart,F.xloc,fun a ha=>?_⟩
  ·by_cases e:y=x
   ·subst e;simp only[if_pos,mset_self];exact r.mono T
   ·simp only[if_neg e,mset_ne _ _ e];exact(hm y hy).mono T
  ·refine uEEAAA (F.cell y hy) fun c cv c1 c2 c3 c4=>?_
   have hne:y≠x:=by rintro rfl;rw[hl] at hy;rcases hy with h|h<;>cases h
   have hcl:c≠env.locals:=by
    rintro rfl
    refine uEA c2 ?_;clear c2;rintro o ho hd
    refine uEEEAA hn ?_;clear hn;rintro o' es ep ho' hd' _
    rw[ho] at ho';cases ho';rw[hd] at hd';cases hd'
   exact(iEEAAA c cv c1 (c2.sameBut hs hcl) (by rw[mset_ne _ _ hne];exact c3.mono T) c4)
  ·by_cases e:a=env.locals
   ·subst e
    refine uEEEAA hn' ?_;clear hn';rintro o es ep ho hd _
    exact(iAAEA x1 x2 o ho (fun i n q=>by rw[q] at hd;cases hd))
   ·refine uAAEA (F.xs a ha) fun y1 y2 oy y3 y4=>?_
    exact(iAAEA y1 y2 oy ((hs.2 a e).trans y3) y4)
 ·refine uEEAAA (F.cell x (.inl hl)) fun c cv c1 c2 c3 c4=>?_
  have hXc:=F.wcell x c hl c1
  refine wpAny_storeName_cell F.kind (F.kcell x hl) c1 c2 fun h' hc' hs=>?_
  refine uAAEA (F.xs _ hXc) fun x1 x2 ox x3 x4=>?_
  have S:Step X own own s {s with heap:=h'}:=⟨(iEE _ s.toks rfl),fun b o e p nx=>⟨(hs.2 b fun q=>nx (q▸hXc)).trans e,p⟩⟩
  have T:=S.monoX F
  have hcl:env.locals≠c:=by
   intro e
   refine uEA c2 ?_;clear c2;rintro o ho hd
   refine uEEEAA hn ?_;clear hn;rintro o' es ep ho' hd' _
   rw[e,ho] at ho';cases ho';rw[hd] at hd';cases hd'
  refine h _ S (O.frm x1 x2 (fun i n e=>by rw[x3] at e;cases e;exact x4 _ _ rfl) hs) ⟨F.kind,F.globals,F.builtins,F.klocal,F.kcell,F.kfree,F.kglob,(iEA _ (hn.sameBut hs hcl) (fun y hy=>?_)),fun y hy=>?_,F.wcell,F.apart,F.xloc,fun a ha=>?_⟩
  ·have hne:y≠x:=by rintro rfl;rw[hl] at hy;cases hy
   rw[mset_ne _ _ hne];exact(hm y hy).mono T
  ·by_cases e:y=x
   ·subst e
    exact(iEEAAA c _ c1 hc' (by rw[mset_self];exact r.mono T) c4)
   ·refine uEEAAA (F.cell y hy) fun d dv d1 d2 d3 d4=>?_
    have hdc:d≠c:=by rintro rfl;exact e (F.apart y x d hy (.inl hl) d1 c1)
    exact(iEEAAA d dv d1 (d2.sameBut hs hdc) (by rw[mset_ne _ _ e];exact d3.mono T) d4)
  ·by_cases e:a=c
   ·subst e
    refine uEA hc' ?_;clear hc';rintro o ho hd
    exact(iAAEA x1 x2 o ho (fun i n q=>by rw[q] at hd;cases hd))
   ·refine uAAEA (F.xs a ha) fun y1 y2 oy y3 y4=>?_
    exact(iAAEA y1 y2 oy ((hs.2 a e).trans y3) y4)
inductive Asg (sc:Names):Expr→AV→MM→MM→Prop
 |name {x p v m} (h:stOk sc x=true):Asg sc (.Name x p) v m (mset m x v)
 |pair {x p y q k pos a b m} (h1:stOk sc x=true) (h2:stOk sc y=true):Asg sc (.Tuple [.Name x p,.Name y q] k pos) (.tup [a,b]) m (mset (mset m x a) y b)
theorem VReps.two{P h}{vs:List Value}{a b:AV}(r:VReps P h vs [a,b]):∃ u v,vs=[u,v]∧VRep P h u a∧VRep P h v b:=by
 cases r with
 |cons r1 r2=>cases r2 with
  |cons r2 r3=>cases r3;exact(iEEAA _ _ rfl r1 r2)
theorem VReps.one{P h}{vs:List Value}{a:AV}(r:VReps P h vs [a]):∃ u,vs=[u]∧VRep P h u a:=by
 cases r with
 |cons r1 r2=>cases r2;exact(iEA _ rfl r1)
theorem VReps.three{P h}{vs:List Value}{a b c:AV}(r:VReps P h vs [a,b,c]):∃ u v w,vs=[u,v,w]∧VRep P h u a∧VRep P h v b∧VRep P h w c:=by
 cases r with
 |cons r1 r2=>refine uEEAA r2.two ?_;rintro v w rfl r3 r4;exact(iEEEAAA _ _ _ rfl r1 r3 r4)
section
variable{G:GC}{ℓ:Nat}{sc:Names}{m:MM}{own:Own}
theorem ext_of_but{s:Shared}{h':Heap}(hx:Heap.ExtBut s.heap.objs.size s.heap h'):∀ b o,s.heap.get? b=some o→h'.get? b=some o:=fun b o e=>hx b o (Nat.ne_of_lt (Heap.lt_size e)) e
theorem Frm.assign{env X}{s:Shared}{A:Around}{E:Value→Shared→Prop}{t:Expr}{v:Value}{av:AV}{m':MM}{Q:Unit→Shared→Prop}(hh:A.handled=Option.none)(F:Frm G sc env X m own s.heap)(O:Ok G own s.heap)
  (r:VRep (fz own) s.heap v av) (ha:Asg sc t av m m') (h:∀ s',Step X own own s s'→Ok G own s'.heap→Frm G sc env X m' own s'.heap→Q () s'):wpAny (model G.prog G.w) A (PySem.assign t env v) Q E s:=by
 cases ha with
 |name hk=>exact wpAny_assign_Name (F.st O r hk h)
 |@pair x p y q k pos a b _ h1 h2=>
  cases r with
  |@tup T items n _ pT ho hi=>
  refine uEEAA hi.two fun u w e ru rw'=>?_
  have hsz:items.size=2:=by rw[← Array.length_toList,e];rfl
  refine wpAny_assign_Tuple hh (iEAAE _ ho rfl _ rfl) (by rw[hsz];rfl) rfl fun h' hx=>?_
  have S0:Step noX own own s {s with heap:=h'}:=⟨(iEE _ s.toks rfl),fun b o e' p V=>⟨ext_of_but hx b o e',p⟩⟩
  have O0:Ok G own h':=O.ext (ext_of_but hx)
  rw[e]
  refine wpAny_bind (wpAny_holding (wpAny_assign_Name ((F.step S0).st O0 (ru.step S0) h1 fun s1 S1 O1 F1=>?_)))
  refine wpAny_bind (wpAny_holding (wpAny_assign_Name (F1.st O1 ((rw'.step S0).stepX (F.step S0) S1) h2 fun s2 S2 O2 F2=>wpAny_pure ?_)))
  exact h s2 ((S0.weak.trans S1).trans S2) O2 F2
end
inductive AF where
 |nxt
 |ret (v:AV)
noncomputable def FRep(P:Addr→Prop)(h:Heap):Flow→AF→Prop
 |.next,.nxt=>True
 |.ret v,.ret av=>VRep P h v av
 |_,_=>False
noncomputable def Ex(G:GC)(ℓ:Nat)(sc:Names)(m:MM)(own:Own)(st:Stmt)(K:AF→MM→Own→Prop):Prop:=
 ∀(A:Around)(env:Env)(X:Addr→Prop)(s:Shared)(Q:Flow→Shared→Prop)(E:Value→Shared→Prop),AOk A ℓ→Ok G own s.heap→Frm G sc env X m own s.heap→
  (∀ f af m' own' s',K af m' own'→Step X own own' s s'→Ok G own' s'.heap→Frm G sc env X m' own' s'.heap→FRep (fz own') s'.heap f af→Q f s')→
  wpAny (model G.prog G.w) A (exec st env) Q E s
noncomputable def Exs(G:GC)(ℓ:Nat)(sc:Names)(m:MM)(own:Own)(sts:List Stmt)(K:AF→MM→Own→Prop):Prop:=
 ∀(A:Around)(env:Env)(X:Addr→Prop)(s:Shared)(Q:Flow→Shared→Prop)(E:Value→Shared→Prop),AOk A ℓ→Ok G own s.heap→Frm G sc env X m own s.heap→
  (∀ f af m' own' s',K af m' own'→Step X own own' s s'→Ok G own' s'.heap→Frm G sc env X m' own' s'.heap→FRep (fz own') s'.heap f af→Q f s')→
  wpAny (model G.prog G.w) A (execs sts env) Q E s
section
variable{G:GC}{ℓ:Nat}{sc:Names}{m:MM}{own:Own}{K:AF→MM→Own→Prop}
theorem Exs.nil(h:K .nxt m own):Exs G ℓ sc m own [] K:=fun V V V s V V V O F hQ=>wpAny_execs_nil (hQ _ .nxt _ _ s h (Step.refl s) O F trivial)
noncomputable def andThen(G:GC)(ℓ:Nat)(sc:Names)(rest:List Stmt)(K:AF→MM→Own→Prop):AF→MM→Own→Prop
 |.nxt,m',o'=>Exs G ℓ sc m' o' rest K
 |.ret v,m',o'=>K (.ret v) m' o'
theorem Exs.cons{st rest}(h:Ex G ℓ sc m own st (andThen G ℓ sc rest K)):Exs G ℓ sc m own (st::rest) K:=fun A env X s Q E hA O F hQ=>by
 refine wpAny_execs_cons (h A env X s _ E hA O F fun f af m' o' s' k S' O' F' r=>?_)
 cases f<;>cases af<;>first|exact r.elim|skip
 ·exact k A env X s' Q E hA O' F' fun f af m2 o2 s2 k2 S2 O2 F2 r2=>hQ f af m2 o2 s2 k2 (S'.trans S2) O2 F2 r2
 ·exact hQ _ _ _ _ _ k S' O' F' r
theorem Ex.assign{x:Str}{pos' value pos}(hk:stOk sc x=true)(h:Ev G ℓ sc m own value fun av o1=>K .nxt (mset m x av) o1)
  (hs:autoParam (∀ env,swapsWith value (some (.Name x pos')) pos.line env=pure false) sI):Ex G ℓ sc m own (.Assign [.Name x pos'] value pos) K:=fun A env X s Q E hA O F hQ=>by
 refine wpAny_Assign_Name (h A env X s _ E hA O F fun v av o1 s1 k S1 O1 r1=>?_) (hs env)
 exact(F.step S1).st O1 r1 hk fun s2 S2 O2 F2=>hQ _ .nxt _ _ s2 k (S1.weak.trans S2) O2 F2 trivial
theorem Ex.ret{e pos}(h:Ev G ℓ sc m own e fun av o1=>K (.ret av) m o1):Ex G ℓ sc m own (.Return (some e) pos) K:=fun A env X s Q E hA O F hQ=>
 wpAny_Return_some (h A env X s _ E hA O F fun v av o1 s1 k S1 O1 r1=>hQ _ (.ret av) _ _ s1 k S1.weak O1 (F.step S1) r1)
theorem Ex.if_{t b e pos}(h:Tst G ℓ sc m own t fun c o1=>if c=true then Exs G ℓ sc m o1 b K else Exs G ℓ sc m o1 e K):Ex G ℓ sc m own (.If t b e pos) K:=fun A env X s Q E hA O F hQ=>by
 refine wpAny_If (h A env X s _ E hA O F fun c o1 s1 k S1 O1=>?_)
 cases c
 ·simp only[Bool.false_eq_true,if_false] at k ⊢
  exact k A env X s1 Q E hA O1 (F.step S1) fun f af m2 o2 s2 k2 S2 O2 F2 r2=>hQ f af m2 o2 s2 k2 (S1.weak.trans S2) O2 F2 r2
 ·simp only[if_true] at k ⊢
  exact k A env X s1 Q E hA O1 (F.step S1) fun f af m2 o2 s2 k2 S2 O2 F2 r2=>hQ f af m2 o2 s2 k2 (S1.weak.trans S2) O2 F2 r2
noncomputable def AV.flat:AV→Bool
 |.ref _=>false
 |.tup _=>false
 |.none=>true
 |.bool _=>true
 |.int _=>true
 |.str _=>true
 |.bi _=>true
 |.ty _=>true
theorem Ex.expr{e pos}(h:Ev G ℓ sc m own e fun av o1=>av.flat=true∧K .nxt m o1)(hs:autoParam (∀ env,swapsWith e Option.none pos.line env=pure false) sI):Ex G ℓ sc m own (.Expr e pos) K:=fun A env X s Q E hA O F hQ=>by
 refine wpAny_Expr (h A env X s _ E hA O F fun v av o1 s1 k S1 O1 r1=>?_) ?_ (hs env)
 ·have fin:=hQ .next .nxt m o1 s1 k.2 S1.weak O1 (F.step S1) trivial
  cases r1<;>first|exact fin|exact Bool.noConfusion k.1
 ·unfold interactive;rw[F.kind];rfl
end
noncomputable def Cal(G:GC)(ℓ:Nat)(own:Own)(f:AV)(args:List AV)(K:AV→Own→Prop):Prop:=
 ∀(A:Around)(s:Shared)(fv:Value)(vs:List Value)(Q E:Value→Shared→Prop),AOk A ℓ→Ok G own s.heap→VRep (fz own) s.heap fv f→VReps (fz own) s.heap vs args→
  (∀ v av own' s',K av own'→Step noX own own' s s'→Ok G own' s'.heap→VRep (fz own') s'.heap v av→Q v s')→
  wpAny (model G.prog G.w) A (call fv vs) Q E s
theorem Cal.conseq{G ℓ own f args}{K K':AV→Own→Prop}(h:Cal G ℓ own f args K)(hk:∀ av o,K av o→∃ o',sub o' o∧K' av o'):Cal G ℓ own f args K':=
 fun A s fv vs Q E hA O r R hQ=>h A s fv vs Q E hA O r R fun v av o1 s1 h1 S1 O1 r1=>by
  refine uEA (hk av o1 h1) fun o' hs k'=>?_
  exact hQ v av o' s1 k' (S1.less hs) (O1.less hs) (r1.less hs)
theorem Cal.hid{G ℓ own f args}{K:AV→Own→Prop}(h:∀ K':AV→Own→Prop,(∀ v o,K v o→K' v o)→Cal G ℓ own f args K'):Cal G ℓ own f args K:=h K fun V V k=>k
noncomputable def argM:List Str→List AV→MM→MM
 |x::xs,v::vs,m=>argM xs vs (mset m x v)
 |_,_,m=>m
noncomputable def m0:MM:=fun V=>Option.none
theorem bindL_rep{P h}{k:Str→Option NameKind}{sc:Names}(hk:∀ x,sc.lookup x=some .local→k x=some .local):∀{ps:List Str} {vs:List Value} {as:List AV} {mv:Str→Option Value} {m:MM},VReps P h vs as→
  (∀ x,sc.lookup x=some .local→OV P h (mv x) (m x))→∀ x,sc.lookup x=some .local→OV P h (bindL k (ps.zip vs) mv x) (argM ps as m x)
 |[],vs,as,mv,m,r,h,x,hx=>h x hx
 |p::ps,_,_,mv,m,.nil,h,x,hx=>h x hx
 |p::ps,_,_,mv,m,.cons (v:=v) (d:=d) r rs,h,x,hx=>by
  refine bindL_rep hk rs (fun y hy=>?_) x hx
  by_cases e:y=p
  ·subst e
   rw[if_pos (hk y hy),mset_self];simp only[if_true];exact r
  ·rw[mset_ne _ _ e]
   split
   ·simp only[if_neg e];exact h y hy
   ·exact h y hy
theorem bindC_rep{P h}{k:Str→Option NameKind}{sc:Names}(hk:∀ x,sc.lookup x=some .cell→k x≠some .local):∀{ps:List Str} {vs:List Value} {as:List AV} {mv:Str→Option Value} {m:MM},VReps P h vs as→
  (∀ x,sc.lookup x=some .cell→OV P h (mv x) (m x))→∀ x,sc.lookup x=some .cell→OV P h (bindC k (ps.zip vs) mv x) (argM ps as m x)
 |[],vs,as,mv,m,r,h,x,hx=>h x hx
 |p::ps,_,_,mv,m,.nil,h,x,hx=>h x hx
 |p::ps,_,_,mv,m,.cons (v:=v) (d:=d) r rs,h,x,hx=>by
  refine bindC_rep hk rs (fun y hy=>?_) x hx
  by_cases e:y=p
  ·subst e
   rw[if_neg (hk y hy),mset_self];simp only[if_true];exact r
  ·rw[mset_ne _ _ e]
   split
   ·exact h y hy
   ·simp only[if_neg e];exact h y hy
noncomputable def fdAt(P:Params)(a:Addr):Option FuncData:=match (KF P).lookup a with
 |some ⟨_,_,.func fd,_⟩=>some fd
 |_=>Option.none
theorem fdAt_spec{P:Params}{a:Addr}{fd:FuncData}(e:fdAt P a=some fd):∃ oc od osl,(KF P).lookup a=some ⟨oc,od,.func fd,osl⟩:=by
 unfold fdAt at e
 split at e
 ·cases e;exact(iEEE _ _ _ (‹_›))
 ·cases e
structure Def (P:Params) (a:Addr) (ps:List Str) (sc:Names) (body:List Stmt):Prop where
 at_:∃ fd,fdAt P a=some fd∧fd.scope.names=sc∧fd.body=.stmts body∧fd.closure=[]∧codeIn (KF P) fd.code fd.qualname=true∧(∀ vs:List Value,vs.length=ps.length→bindArgs fd ⟨vs,[]⟩=pure (ps.zip vs))∧
  fd.scope.isCoroutine=false∧fd.scope.isGenerator=false∧fd.scope.kind=.function∧fd.globals=mainGlobals∧fd.builtins=builtinsNs
 ps:∀ x∈ps,stOk sc x=true
 cells:∀ n x,sc.lookup x=some .cell→((cellsFrom n sc []).lookup x).isSome=true
 nofree:∀ x,sc.lookup x≠some .free
theorem cells_in{sc:Names}:∀{n:Nat} {acc:List (Str × Addr)} {x:Str},((x,NameKind.cell)∈sc∨(acc.lookup x).isSome=true)→((cellsFrom n sc acc).lookup x).isSome=true:=by
 induction sc with
 |nil=>
  intro n acc x h
  rcases h with h|h
  ·simp at h
  ·exact h
 |cons p r ih=>
  obtain⟨y,k⟩:=p
  intro n acc x h
  unfold cellsFrom
  rcases h with h|h
  ·rcases List.mem_cons.mp h with e|h
   ·cases e
    exact ih (.inr (by simp[List.lookup]))
   ·split<;>exact ih (.inl h)
  ·split
   ·refine ih (.inr ?_)
    rw[List.lookup_cons]
    split
    ·rfl
    ·exact h
   ·exact ih (.inr h)
theorem lookup_mem{sc:Names}{x:Str}{k:NameKind}(h:sc.lookup x=some k):(x,k)∈sc:=PySem.mem_of_lookup h
section
variable{G:GC}{ℓ:Nat}{own:Own}{K:AV→Own→Prop}
noncomputable def ends(K:AV→Own→Prop)(own0:Own):AF→MM→Own→Prop
 |.nxt,_,o=>K .none o
 |.ret v,_,o=>K v o
theorem mem_zip_fst{ps:List Str}{vs:List Value}{y:Str × Value}(h:y∈ps.zip vs):y.1∈ps:=(List.of_mem_zip (a:=y.1) (b:=y.2) h).1
noncomputable def CalC(G:GC)(ℓ:Nat)(own:Own)(a:Addr)(args:List AV)(K:AV→Own→Prop):Prop:=
 ∀(A:Around)(s:Shared)(vs:List Value)(R:Result→Shared→Prop),AOk A ℓ→Ok G own s.heap→VReps (fz own) s.heap vs args→
  (∀ v av own' s',K av own'→Step noX own own' s s'→Ok G own' s'.heap→VRep (fz own') s'.heap v av→R (.ok (.ret v)) s')→
  codeAny (model G.prog G.w) A (.call (.ref a) ⟨vs,[]⟩) R s
theorem CalC.cal{a:Addr}{args:List AV}(h:CalC G ℓ own a args K):Cal G ℓ own (.ref a) args K:=fun A s fv vs Q E hA O rf R hQ=>by
 obtain rfl:=rf.i_ref
 exact wpAny_call (h A s vs _ hA O R hQ)
theorem CalC.fn{a:Addr}{ps:List Str}{sc:Names}{body:List Stmt}{args:List AV}(D:Def G.w.params a ps sc body)(hn:args.length=ps.length)(hl:ℓ<950)
  (h:Exs G (ℓ+1) sc (argM ps args m0) own body (ends K own)):CalC G ℓ own a args K:=fun A s vs Rr hA O R hQ=>by
 refine uEAAAAAAAAAA D.at_ ?_;rintro fd hfd rfl hbody hclo hcode hbind hco hgen hkind hglob hblt
 refine uEEE (fdAt_spec hfd) fun oc od osl hlook=>?_
 have ho:=O.kin _ _ hlook
 have hps:∀ y∈ps.zip vs,fd.scope.names.lookup y.1=some .local∨(fd.scope.names.lookup y.1=some .cell∧((cellsFrom (s.heap.objs.size+1) fd.scope.names []).lookup y.1).isSome=true):=fun y hy=>by
  rcases stOk_or (D.ps _ (mem_zip_fst hy)) with e|e
  ·exact .inl e
  ·exact .inr ⟨e,cells_in (.inl (lookup_mem e))⟩
 have hdepth:A.depth<recursionLimit:=Nat.lt_of_le_of_lt hA.depth (by show ℓ<1000;lia)
 refine codeAny_call_cells hdepth ho rfl O.nolimit (codeRec_of O.kin hcode) hbody (hbind vs (by rw[R.length,hn])) hclo hps (fun s₁ I=>?_) hco hgen hkind
 refine uEEA I.done ?_;rintro h₁ tk rfl hk₁
 have hext:∀ b o,s.heap.get? b=some o→h₁.get? b=some o:=hk₁
 have S0:Step noX own own s {s with heap:=h₁,toks:=tk}:=Step.ext hext
 have O0:Ok G own h₁:=O.ext hext
 have R0:=R.step S0
 let env:=callEnvC fd s.heap.objs.size a
 have hA':AOk (A.deeper env) (ℓ+1):=⟨hA.handled,Nat.succ_le_succ hA.depth,by have:=hA.units;show A.units+3≤_;lia⟩
 have above:∀ x c,env.cells.lookup x=some c→s.heap.objs.size<c:=fun x c e=>I.above x c (PySem.mem_of_lookup e)
 have X:Frm G fd.scope.names env (fun b=>b=s.heap.objs.size∨∃ x,env.cells.lookup x=some b) (argM ps args m0) own h₁:=by
  refine⟨hkind,hglob,hblt,fun x hx=>hx,fun x hx=>hx,fun x hx=>absurd hx (D.nofree x),fun x hx=>hx,(iEA _ I.toInCall.ns (fun x hx=>?_)),fun x hx=>?_,fun x c hx hc=>.inr ⟨x,hc⟩,fun x y c hx hy h1 h2=>?_,.inl rfl,fun b hb=>?_⟩
  ·exact bindL_rep (k:=env.kindOf) (fun y hy=>hy) R0 (fun V V=>by simp[m0,OV]) x hx
  ·have hcell:fd.scope.names.lookup x=some .cell:=by
    rcases hx with hx|hx
    ·exact hx
    ·exact absurd hx (D.nofree x)
   obtain⟨c,hc⟩:=Option.isSome_iff_exists.mp (cells_in (n:=s.heap.objs.size+1) (acc:=[]) (.inl (lookup_mem hcell)))
   refine(iEEAAA c _ hc (I.cell x c hc) ?_ (O.fresh ?_))
   ·exact bindC_rep (k:=env.kindOf) (sc:=fd.scope.names) (fun y hy=>by show fd.scope.names.lookup y≠_;rw[hy];simp) R0 (fun V V=>by simp[m0,OV]) x hcell
   ·cases e:s.heap.get? c with
    |none=>rfl
    |some o=>exact absurd (Heap.lt_size e) (Nat.not_lt.mpr (Nat.le_of_lt (above x c hc)))
  ·exact name_of_addr I.apart (PySem.mem_of_lookup h1) (PySem.mem_of_lookup h2)
  ·have fresh:∀ b,s.heap.objs.size≤b→own b=Option.none∧G.base.get? b=Option.none:=fun b hb=>by
    have e:s.heap.get? b=Option.none:=by
     cases e:s.heap.get? b with
     |none=>rfl
     |some o=>exact absurd (Heap.lt_size e) (Nat.not_lt.mpr hb)
    refine⟨O.fresh e,?_⟩
    cases e':G.base.get? b with
    |none=>rfl
    |some o=>rw[(O.base b o e').1] at e;cases e
   rcases hb with rfl|⟨x,hx⟩
   ·refine uEEEAA I.toInCall.ns fun o es ep ho hd V=>?_
    exact(iAAEA ((fresh _ (Nat.le_refl _)).1) ((fresh _ (Nat.le_refl _)).2) o ho (fun i n q=>by rw[q] at hd;cases hd))
   ·refine uEA (I.cell x b hx) fun o ho hd=>?_
    have:=above x b hx
    exact(iAAEA ((fresh _ (Nat.le_of_lt this)).1) ((fresh _ (Nat.le_of_lt this)).2) o ho (fun i n q=>by rw[q] at hd;cases hd))
 refine h (A.deeper env) env _ _ _ _ hA' O0 X fun f af m' o' s' k S' O' F' r=>?_
 have hS:Step noX own o' s s':=S0.hide S' fun x o e V V hx=>by
  have:=Heap.lt_size e
  rcases hx with rfl|⟨y,hy⟩
  ·exact Nat.lt_irrefl _ this
  ·exact absurd (above y x hy) (Nat.not_lt.mpr (Nat.le_of_lt this))
 cases f<;>cases af<;>first|exact r.elim|skip
 ·exact hQ .none .none o' s' k hS O' .none
 ·exact hQ _ _ o' s' k hS O' r
theorem Cal.fn{a:Addr}{ps:List Str}{sc:Names}{body:List Stmt}{args:List AV}(D:Def G.w.params a ps sc body)(hn:args.length=ps.length)(hl:ℓ<950)
  (h:Exs G (ℓ+1) sc (argM ps args m0) own body (ends K own)):Cal G ℓ own (.ref a) args K:=(CalC.fn D hn hl h).cal
end
structure Src (G:GC) (A:Around) (t:Expr) (I:Addr) (wr:List Addr) (L:List AV) (C:Own→Prop) (St:Nat→Own→Heap→Prop):Prop where
 frame:∀{i own own' h h'},St i own h→TK (fz own) (fz own') h h'→(∀ b∈wr,∀ o,h.get? b=some o→h'.get? b=some o)→St i own' h'
 live:∀{i own h},St i own h→∀ b∈wr,∃ o,h.get? b=some o∧∀ items n,o≠tupO items n
 item:∀{i:Nat} {own:Own} {s:Shared} {d:AV} (Q:Value→Shared→Prop) (E:Value→Shared→Prop),L[i]?=some d→C own→Ok G own s.heap→(∀ b∈wr,own b=Option.none∧G.base.get? b=Option.none)→St i own s.heap→
  (∀ v s2,Step (·∈wr) own own s s2→Ok G own s2.heap→St (i+1) own s2.heap→VRep (fz own) s2.heap v d→Q v s2)→
  wpAny (model G.prog G.w) A (pyNext (.ref I)) (fun r s1=>∃ v,r=some v∧wpAny (model G.prog G.w) A (letOwnedTupleGo t (.ref I) v) (fun V s2=>Q v s2) E s1) E s
 done:∀{own:Own} {s:Shared} (Q:Shared→Prop) (E:Value→Shared→Prop),C own→Ok G own s.heap→(∀ b∈wr,own b=Option.none∧G.base.get? b=Option.none)→St L.length own s.heap→
  (∀ s1,Step (·∈wr) own own s s1→Ok G own s1.heap→Q s1)→wpAny (model G.prog G.w) A (pyNext (.ref I)) (fun r s1=>r=Option.none∧Q s1) E s
 self:∀{i:Nat} {own:Own} {s:Shared} (Q:Value→Shared→Prop) (E:Value→Shared→Prop),St i own s.heap→Q (.ref I) s→wpAny (model G.prog G.w) A (pyIter (.ref I)) Q E s
noncomputable def ItT(G:GC)(ℓ:Nat)(own:Own)(t:Expr)(av:AV)(K:List AV→(Own→Prop)→Own→Prop):Prop:=
 ∀(A:Around)(s:Shared)(v:Value)(Q E:Value→Shared→Prop),AOk A ℓ→Ok G own s.heap→VRep (fz own) s.heap v av→
  (∀ I wr L C St own' s',K L C own'→Src G A t I wr L C St→St 0 own' s'.heap→Step noX own own' s s'→Ok G own' s'.heap→
   (∀ b∈wr,own' b=Option.none∧G.base.get? b=Option.none∧∀ o,s.heap.get? b=some o→own b≠Option.none)→Q (.ref I) s')→
  wpAny (model G.prog G.w) A (pyIter v) Q E s
section
variable{G:GC}{ℓ:Nat}{own:Own}{M:Model}{A:Around}{E:Value→Shared→Prop}{s:Shared}
theorem letOwned_pass{t:Expr}{I:Addr}{v:Value}{o:Obj}{n:String}{Q:Unit→Shared→Prop}(ho:s.heap.get? I=some o)(hc:o.cls=.type n)
  (hn:(["enumerate","zip","dict_itemiterator","dict_reverseitemiterator","odict_iterator","itertools.zip_longest","itertools.pairwise"].contains n)=false) (h:Q () s):wpAny M A (letOwnedTupleGo t (.ref I) v) Q E s:=by
 have key:∀ a,wpAny M A (do
   let o ← load I
   match o.cls,o.data with
   |.type n,.fields vs=>
    if ["enumerate","zip","dict_itemiterator","dict_reverseitemiterator","odict_iterator","itertools.zip_longest","itertools.pairwise"].contains n&&vs[0]? == some (rawInt a) then
     rule "for.unpacks-the-owned-tuple"
     updateField I 0 .none
   |_,_=>pure ()) Q E s:=fun a=>by
  refine wpAny_bind (wpAny_load ho ?_)
  obtain⟨c,dd,dt,sl⟩:=o
  simp only at hc
  subst hc
  cases dt<;>first|exact wpAny_pure h|skip
  dsimp only
  rw[hn,Bool.false_and,if_neg Bool.false_ne_true]
  exact wpAny_pure h
 cases t<;>first|exact wpAny_pure h|(cases v<;>first|exact wpAny_pure h|exact key _)
theorem Step.but{own:Own}{I:Addr}{h':Heap}{tk:Nat}(hs:Heap.SameBut I s.heap h'):Step (·∈[I]) own own s {s with heap:=h',toks:=tk}:=
 ⟨(iEE _ _ rfl),fun b o e p nx=>⟨(hs.2 b fun q=>nx (by simp[q])).trans e,p⟩⟩
theorem Step.xbut{own:Own}{I:Addr}{h':Heap}{tk:Nat}(hs:Heap.ExtBut I s.heap h'):Step (·∈[I]) own own s {s with heap:=h',toks:=tk}:=
 ⟨(iEE _ _ rfl),fun b o e p nx=>⟨hs b o (fun q=>nx (by simp[q])) e,p⟩⟩
theorem Ok.xfrm{G own h h' a}(O:Ok G own h)(ha:own a=Option.none)(hb:G.base.get? a=Option.none)(hn:∀ items n,h.get? a≠some (tupO items n))(hs:Heap.ExtBut a h h'):Ok G own h' where
 base:=fun b o e=>by
  have k:=O.base b o e
  have hb:b≠a:=by rintro rfl;rw[hb] at e;cases e
  exact⟨hs b o hb k.1,k.2⟩
 own:=fun b z e=>by
  refine uAE (O.own b z e) fun r o ho=>?_
  have hb:b≠a:=by rintro rfl;rw[ha] at e;cases e
  refine(iAE (r.mono (fun c i n e p=>⟨hs c _ ?_ e,p⟩) (fun o e=>hs b o hb e)) o (hs b o hb ho))
  rintro rfl;exact hn _ _ e
theorem no_size(h:Heap):∀ o,h.get? h.objs.size≠some o:=fun o e=>by rw[get_size] at e;cases e
theorem Ok.baseFresh{G own h a}(O:Ok G own h)(e:h.get? a=Option.none):G.base.get? a=Option.none:=by
 cases k:G.base.get? a with
 |none=>rfl
 |some o=>rw[(O.base a o k).1] at e;cases e
theorem Src.list(hh:A.handled=Option.none)(t:Expr)(I l:Addr)(L:List AV):Src G A t I [I] L (fun own=>own l=some (.list L)) (fun i V h=>h.IsListIter I l i) where
 frame:=fun st V hk=>let ⟨o,ho,r⟩:=st;(iEA o (hk I (by simp) o ho) r)
 live:=fun st b hb=>by
  refine uEAA st ?_;clear st;rintro o ho hc _
  rw[List.mem_singleton.mp hb]
  exact(iEA o ho (fun i n q=>by rw[q] at hc;simp at hc))
 item:=@fun i own s d Q E hd hC O hw st hQ=>by
  obtain⟨⟨items,n,e,r⟩,_⟩:=O.own l _ hC
  refine uEA (r.get hd) fun v hv rv=>?_
  refine uEAA (id st) fun o ho hc hdat=>?_
  refine wpAny_pyNext_list_item st (iEAAE _ e rfl n rfl) (by simpa using hv) fun h' hit' hs'=>(iEA v rfl ?_)
  refine uEAA (id hit') fun o' ho' hc' V=>?_
  have S:Step (·∈[I]) own own s {s with heap:=h',toks:=s.toks}:=Step.but hs'
  have nt:∀ i n,s.heap.get? I≠some (tupO i n):=fun i n q=>by rw[q] at ho;cases ho;simp at hc
  refine letOwned_pass ho' hc' (by decide) (hQ v _ S (O.frm (hw I (by simp)).1 (hw I (by simp)).2 nt hs') hit' (rv.mono (S.monoY fun a ha=>?_)))
  rw[List.mem_singleton.mp ha];exact nt
 done:=@fun own s Q E hC O hw st hQ=>by
  obtain⟨⟨items,n,e,r⟩,_⟩:=O.own l _ hC
  refine uEAA (id st) fun o ho hc hdat=>?_
  have nt:∀ i n,s.heap.get? I≠some (tupO i n):=fun i n q=>by rw[q] at ho;cases ho;simp at hc
  refine wpAny_pyNext_list_end hh st (iEAAE _ e rfl n rfl) (by have:=r.length;rw[Array.length_toList] at this;simp[this]) fun h' he'=>⟨rfl,hQ _ (Step.xbut he') (O.xfrm (hw I (by simp)).1 (hw I (by simp)).2 nt he')⟩
 self:=fun Q E st hQ=>wpAny_pyIter_listiter st hQ
theorem fresh_new{own:Own}(O:Ok G own s.heap):∀ b∈[s.heap.objs.size],own b=Option.none∧G.base.get? b=Option.none∧∀ o,s.heap.get? b=some o→own b≠Option.none:=fun b hb=>by
 rw[List.mem_singleton.mp hb]
 exact(iAA (O.fresh (get_size _)) (O.baseFresh (get_size _)) (fun o e=>absurd e (no_size _ o)))
theorem push_ext{h:Heap}{x:Obj}:∀ b o,h.get? b=some o→(h.push x).get? b=some o:=fun b o e=>Heap.get?_push_of_some _ e
theorem ItT.list{t:Expr}{l:Addr}{L:List AV}{K:List AV→(Own→Prop)→Own→Prop}(hl:own l=some (.list L))(h:K L (fun o=>o l=some (.list L)) own):ItT G ℓ own t (.ref l) K:=fun A s v Q E hA O r hQ=>by
 obtain rfl:=r.i_ref
 obtain⟨⟨items,n,e,r⟩,_⟩:=O.own l _ hl
 refine wpAny_pyIter_list (iEAAE _ e rfl n rfl) ?_
 exact hQ _ _ _ _ _ own _ h (Src.list hA.handled t _ l L) (iEAA _ (Heap.get?_push_size _ rfl) rfl rfl) (Step.ext push_ext) (O.ext push_ext) (fresh_new O)
noncomputable def TupAt(own:Own)(h:Heap)(T:Addr)(L:List AV):Prop:=∃ items n,own T=Option.none∧h.get? T=some (tupO items n)∧VReps (fz own) h items.toList L
theorem TupAt.mono{own own':Own}{h h' T L}(x:TupAt own h T L)(k:TK (fz own) (fz own') h h'):TupAt own' h' T L:=by
 refine uEEAA x ?_;clear x;rintro items n p e r
 have:=k T items n e p
 exact(iEEAA items n this.2 this.1 (r.mono k))
theorem Src.tup(hh:A.handled=Option.none)(t:Expr)(I T:Addr)(L:List AV):Src G A t I [I] L (fun V=>True) (fun i own h=>h.IsTupleIter I T i∧TupAt own h T L) where
 frame:=fun st k hk=>⟨let ⟨o,ho,r⟩:=st.1;(iEA o (hk I (by simp) o ho) r),st.2.mono k⟩
 live:=fun st b hb=>by
  refine uEAA st.1 fun o ho hc V=>?_
  rw[List.mem_singleton.mp hb]
  exact(iEA o ho (fun i n q=>by rw[q] at hc;simp at hc))
 item:=@fun i own s d Q E hd hC O hw st hQ=>by
  refine uEEAA st.2 fun items n p e r=>?_
  refine uEA (r.get hd) fun v hv rv=>?_
  refine uEAA (id st.1) fun o ho hc hdat=>?_
  refine wpAny_pyNext_tuple_item st.1 (iEAAE _ e rfl n rfl) (by simpa using hv) fun h' hit' hs'=>(iEA v rfl ?_)
  refine uEAA (id hit') fun o' ho' hc' V=>?_
  have S:Step (·∈[I]) own own s {s with heap:=h',toks:=s.toks}:=Step.but hs'
  have nt:∀ i n,s.heap.get? I≠some (tupO i n):=fun i n q=>by rw[q] at ho;cases ho;simp at hc
  have k:=S.monoY fun a ha=>by rw[List.mem_singleton.mp ha];exact nt
  exact letOwned_pass ho' hc' (by decide) (hQ v _ S (O.frm (hw I (by simp)).1 (hw I (by simp)).2 nt hs') ⟨hit',st.2.mono k⟩ (rv.mono k))
 done:=@fun own s Q E hC O hw st hQ=>by
  refine uEEAA st.2 fun items n p e r=>?_
  refine uEAA (id st.1) fun o ho hc hdat=>?_
  have nt:∀ i n,s.heap.get? I≠some (tupO i n):=fun i n q=>by rw[q] at ho;cases ho;simp at hc
  refine wpAny_pyNext_tuple_end hh st.1 (iEAAE _ e rfl n rfl) (by have:=r.length;rw[Array.length_toList] at this;simp[this]) fun h' he'=>⟨rfl,hQ _ (Step.xbut he') (O.xfrm (hw I (by simp)).1 (hw I (by simp)).2 nt he')⟩
 self:=fun Q E st hQ=>wpAny_pyIter_tupleiter st.1 hQ
theorem ItT.tup{t:Expr}{L:List AV}{K:List AV→(Own→Prop)→Own→Prop}(h:K L (fun V=>True) own):ItT G ℓ own t (.tup L) K:=fun A s v Q E hA O r hQ=>by
 cases r with
 |@tup T items n _ p e r=>
 refine wpAny_pyIter_tuple (iEAAE _ e rfl n rfl) ?_
 refine hQ _ _ _ _ _ own _ h (Src.tup hA.handled t _ T L) (iAEEAA (iEAA _ (Heap.get?_push_size _ rfl) rfl rfl) items n p (push_ext _ _ e) (r.mono fun b i n e p=>⟨push_ext _ _ e,p⟩)) (Step.ext push_ext) (O.ext push_ext) (fresh_new O)
inductive BodyH (G:GC) (ℓ:Nat) (sc:Names) (t:Expr) (d:AV) (m':MM) (o':Own) (body:List Stmt) (K:AF→MM→Own→Prop):Prop
 |mk (m'':MM) (a:Asg sc t d m' m'') (h:Exs G ℓ sc m'' o' body K)
inductive NxtH (P:MM→Own→Prop) (m:MM) (o:Own):Prop
 |mk (m':MM) (o':Own) (h1:∀ x v,m' x=some v→m x=some v) (h2:sub o' o) (h:P m' o')
noncomputable def lpK(J:Nat→MM→Own→Prop)(i:Nat)(K:AF→MM→Own→Prop):AF→MM→Own→Prop
 |.nxt,m,o=>NxtH (J (i+1)) m o
 |.ret v,m,o=>K (.ret v) m o
inductive ForH (G:GC) (ℓ:Nat) (sc:Names) (t:Expr) (body:List Stmt) (K:AF→MM→Own→Prop) (m:MM) (L:List AV) (C:Own→Prop) (o2:Own):Prop
 |mk (J:Nat→MM→Own→Prop) (h0:J 0 m o2) (hC:∀ i m' o',J i m' o'→C o')
   (hs:∀(J':Nat→MM→Own→Prop)(K':AF→MM→Own→Prop),(∀ i m o,J i m o→J' i m o)→(∀ v m o,K (.ret v) m o→K' (.ret v) m o)→∀ i d m' o',L[i]?=some d→J i m' o'→BodyH G ℓ sc t d m' o' body (lpK J' i K'))
   (he:∀ m' o',J L.length m' o'→K .nxt m' o')
theorem Ex.for_{sc:Names}{m:MM}{t iter:Expr}{body:List Stmt}{pos:Pos}{K:AF→MM→Own→Prop}
  (h:Ev G ℓ sc m own iter fun av o1=>ItT G ℓ o1 t av fun L C o2=>ForH G ℓ sc t body K m L C o2)
  (hs:autoParam (∀ env x,foldedSetIterable iter env x=pure x) sI):Ex G ℓ sc m own (.For t iter body [] pos) K:=fun A env X s Q E hA O F hQ=>by
 refine wpAny_For (h A env X s _ E hA O F fun v av o1 s1 k1 S1 O1 r1=>k1 A s1 v _ E hA O1 r1 fun I wr L C St o2 s2 k2 SR st S2 O2 hw=>?_) (hs env)
 obtain⟨J,J0,JC,Jstep,Jend⟩:=k2
 have F2:=(F.step S1).step S2
 have S12:=(S1.trans S2).weak (X:=X)
 have hcell:∀ a x c,a∈wr→env.cells.lookup x=some c→(∃ y,(sc.lookup y=some .cell∨sc.lookup y=some .free)∧x=y)→c≠a:=by
  rintro a x c ha hc hh;refine uEA hh ?_;clear hh;rintro y hy rfl rfl
  refine uEEAAA ((F.step S1).cell x hy) ?_;rintro c' cv h1 ⟨o,ho,_⟩ _ h4
  rw[hc] at h1;cases h1
  exact(hw _ ha).2.2 _ ho h4
 have hX:∀ a,a∈wr→¬ X a:=fun a ha hx=>by
  refine uAAEA ((F.step S1).xs a hx) fun h1 V o h3 V=>?_
  exact(hw a ha).2.2 _ h3 h1
 let Z:Addr→Prop:=fun a=>X a∨a∈wr
 have fin:∀{o':Own} {s':Shared},Step Z o2 o' s2 s'→Step X own o' s s':=fun S=>S12.hide S fun x o e p nx hz=>by
  rcases hz with hz|hz
  ·exact nx hz
  ·have k:=S1.keep x o e p id
   exact(hw x hz).2.2 _ k.1 k.2
 refine codeAny_forLoop_any
  (fun n s'=>∃ i m' o',n=L.length+1-i∧i≤L.length∧J i m' o'∧Step Z o2 o' s2 s'∧Ok G o' s'.heap∧Frm G sc env X m' o' s'.heap∧St i o' s'.heap∧∀ b∈wr,o' b=Option.none) ?_ _
  (iEEEAAAAAAA 0 m o2 rfl (Nat.zero_le _) J0 (Step.refl _) O2 F2 st (fun b hb=>(hw b hb).1))
 rintro n s' hh;refine uEEEAAAAAAA hh ?_;clear hh;rintro i m' o' rfl hi hJ S' O' F' st' hw'
 have hwb:∀ b∈wr,o' b=Option.none∧G.base.get? b=Option.none:=fun b hb=>⟨hw' b hb,(hw b hb).2.1⟩
 have Ap:Frm G sc env X m' o' s'.heap→∀{s'':Shared},Step (·∈wr) o' o' s' s''→Frm G sc env X m' o' s''.heap:=fun F' s'' S''=>by
  have nt:=fun a (ha:a∈wr)=>(SR.live st' a ha)
  refine⟨F'.kind,F'.globals,F'.builtins,F'.klocal,F'.kcell,F'.kfree,F'.kglob,?_,fun x hx=>?_,F'.wcell,F'.apart,F'.xloc,fun a ha=>?_⟩
  ·refine uEA F'.loc fun mv hn hm=>?_
   have T:=S''.monoY (fun a ha i n q=>by refine uEA (nt a ha) fun o ho hnt=>?_;rw[q] at ho;cases ho;exact hnt _ _ rfl)
   refine(iEA mv ?_ (fun x hx=>(hm x hx).mono T))
   refine uEEEA hn ?_;clear hn;rintro o es ep ho r
   exact(iEEEA o es ep ((S''.keep _ _ ho (F'.xs _ F'.xloc).1 fun y=>hX _ y F'.xloc).1) r)
  ·have T:=S''.monoY (fun a ha i n q=>by refine uEA (nt a ha) fun o ho hnt=>?_;rw[q] at ho;cases ho;exact hnt _ _ rfl)
   refine uEEAAA (F'.cell x hx) ?_;rintro c cv h1 ⟨o,ho,hd⟩ h3 h4
   have k:=S''.keep _ _ ho h4 fun y=>hcell _ _ _ y h1 (iEA x hx rfl) rfl
   exact(iEEAAA c cv h1 (iEA o k.1 hd) (h3.mono T) k.2)
  ·refine uAAEA (F'.xs a ha) fun h1 h2 o h3 h4=>?_
   have k:=S''.keep _ _ h3 h1 fun y=>hX _ y ha
   exact(iAAEA k.2 h2 o k.1 h4)
 cases hd:L[i]? with
 |none=>
  have hlen:i=L.length:=Nat.le_antisymm hi (by simpa using hd)
  subst hlen
  refine wpAny_mono (SR.done (fun s1=>Step (·∈wr) o' o' s' s1∧Ok G o' s1.heap) _ (JC _ _ _ hJ) O' hwb st' fun s1 a b=>⟨a,b⟩) (fun r s1 hr=>?_) fun V V e=>e
  refine uAA hr ?_;clear hr;rintro rfl S'' O''
  refine wpAny_execs_nil ?_
  exact hQ .next .nxt m' o' s1 (Jend _ _ hJ) (fin (S'.trans (S''.wide fun x hx=>.inr hx))) O'' (Ap F' S'') trivial
 |some d=>
  obtain⟨m'',hasg,hbody⟩:=Jstep J K (fun V V V h=>h) (fun V V V h=>h) i d m' o' hd hJ
  refine wpAny_mono (SR.item (fun v s4=>Step (·∈wr) o' o' s' s4∧Ok G o' s4.heap∧St (i+1) o' s4.heap∧VRep (fz o') s4.heap v d) _ hd (JC _ _ _ hJ) O' hwb st' fun v s4 S4 O4 st4 r4=>(iAAA S4 O4 st4 r4)) (fun r s3 hr=>?_) fun V V e=>e
  refine uEA hr ?_;clear hr;rintro v rfl h
  refine wpAny_mono h (fun V s4 hp=>?_) fun V V e=>e
  refine uAAA hp ?_;clear hp;rintro S4 O4 st4 r4
  refine Frm.assign hA.handled (Ap F' S4) O4 r4 hasg fun s5 S5 O5 F5=>?_
  have st5:St (i+1) o' s5.heap:=SR.frame st4 (S5.monoX (Ap F' S4)) fun b hb o ho=>(S5.keep b o ho (hw' b hb) (hX b hb)).1
  refine hbody A env X s5 _ _ hA O5 F5 fun f af m3 o3 s6 k6 S6 O6 F6 r6=>?_
  have S46:Step Z o2 o3 s2 s6:=((S'.trans (S4.wide fun x hx=>.inr hx)).trans (S5.wide fun x hx=>.inl hx)).trans (S6.wide fun x hx=>.inl hx)
  cases f<;>cases af<;>first|exact r6.elim|skip
  ·obtain⟨m4,o4,hm4,hs4,hJ4⟩:=k6
   have hlt:i<L.length:=by
    have:=List.getElem?_eq_some_iff.mp hd
    exact this.1
   have live5:=fun b (hb:b∈wr)=>SR.live st5 b hb
   have keep6:∀ b∈wr,∀ o,s5.heap.get? b=some o→s6.heap.get? b=some o∧o3 b=Option.none:=fun b hb o ho=>S6.keep b o ho (hw' b hb) (hX b hb)
   have st6:St (i+1) o3 s6.heap:=SR.frame st5 (S6.monoX F5) fun b hb o ho=>(keep6 b hb o ho).1
   refine(iEAEEEAAAAAAA (L.length+1-(i+1)) (Nat.sub_lt_sub_left (Nat.lt_succ_of_lt hlt) (Nat.lt_succ_self i)) (i+1) m4 o4 rfl hlt hJ4 (S46.less hs4) (O6.less hs4) ((F6.less hs4).forget hm4) (SR.frame st6 (fun a i n e p=>⟨e,hs4.none p⟩) (fun V V V e=>e)) (fun b hb=>hs4.none ?_))
   refine uEA (live5 b hb) fun o ho V=>?_
   exact(keep6 b hb o ho).2
  ·exact hQ _ _ m3 o3 s6 k6 (fin S46) O6 F6 r6
end
theorem Frm.stepH{G sc env X Y m own own' s s'}(F:Frm G sc env X m own s.heap)(S:Step Y own own' s s')(hX:∀ a,Y a→¬ X a)(hc:∀ x c,(sc.lookup x=some .cell∨sc.lookup x=some .free)→env.cells.lookup x=some c→¬ Y c)
  (nt:∀ a,Y a→∀ items n,s.heap.get? a≠some (tupO items n)):Frm G sc env X m own' s'.heap:=by
 have T:=S.monoY nt
 refine⟨F.kind,F.globals,F.builtins,F.klocal,F.kcell,F.kfree,F.kglob,?_,fun x hx=>?_,F.wcell,F.apart,F.xloc,fun a ha=>?_⟩
 ·refine uEA F.loc fun mv hn hm=>?_
  refine(iEA mv ?_ (fun x hx=>(hm x hx).mono T))
  refine uEEEA hn ?_;clear hn;rintro o es ep ho r
  exact(iEEEA o es ep ((S.keep _ _ ho (F.xs _ F.xloc).1 fun y=>hX _ y F.xloc).1) r)
 ·refine uEEAAA (F.cell x hx) ?_;rintro c cv h1 ⟨o,ho,hd⟩ h3 h4
  have k:=S.keep _ _ ho h4 (hc x c hx h1)
  exact(iEEAAA c cv h1 (iEA o k.1 hd) (h3.mono T) k.2)
 ·refine uAAEA (F.xs a ha) fun h1 h2 o h3 h4=>?_
  have k:=S.keep _ _ h3 h1 fun y=>hX _ y ha
  exact(iAAEA k.2 h2 o k.1 h4)
theorem cellsFrom_app:∀(names:Names) (n:Nat) (acc:List (Str × Addr)),cellsFrom n names acc=cellsFrom n names []++acc
 |[],n,acc=>rfl
 |(x,k)::r,n,acc=>by
  unfold cellsFrom
  split
  ·rw[cellsFrom_app r (n+1) ((x,n)::acc),cellsFrom_app r (n+1) [(x,n)],List.append_assoc];rfl
  ·exact cellsFrom_app r n acc
set_option tactic.hygienic true in
theorem cellsFrom_mem:∀(names:Names) (n:Nat) (acc:List (Str × Addr)) (x:Str) (c:Addr),(x,c)∈cellsFrom n names acc→(x,c)∈acc∨(x,NameKind.cell)∈names
 |[],n,acc,x,c,h=>.inl h
 |(y,k)::r,n,acc,x,c,h=>by
  unfold cellsFrom at h
  split at h
  ·rename_i hk
   rcases cellsFrom_mem r _ _ x c h with h|h
   ·rcases List.mem_cons.mp h with e|h
    ·cases e;rw[beq_iff_eq.mp hk];exact .inr List.mem_cons_self
    ·exact .inl h
   ·exact .inr (List.mem_cons_of_mem _ h)
  ·rcases cellsFrom_mem r _ _ x c h with h|h
   ·exact .inl h
   ·exact .inr (List.mem_cons_of_mem _ h)
noncomputable def closOf(env:Env):Names→List (Str × Addr)→List (Str × Addr)
 |[],acc=>acc
 |(x,k)::r,acc=>if k == .free then closOf env r ((x,(env.cells.lookup x).getD 0)::acc) else closOf env r acc
theorem closOf_c{env:Env}{x:Str}{k:NameKind}{r:Names}{acc:List (Str × Addr)}:closOf env ((x,k)::r) acc=if k == .free then closOf env r ((x,(env.cells.lookup x).getD 0)::acc) else closOf env r acc:=rfl
theorem closureFor_eq{scope:Scope}{env:Env}(h:∀ p∈scope.names,p.2=.free→(env.cells.lookup p.1).isSome=true):closureFor scope env=pure (closOf env scope.names []):=by
 have key:∀(names:Names) (acc:List (Str × Addr)),(∀ p∈names,p.2=.free→(env.cells.lookup p.1).isSome=true)→
   (forIn names acc fun(x:Str × NameKind) (r:List (Str × Addr))=>if x.2 == .free then(do let a ← cellOf env x.1;pure (ForInStep.yield ((x.1,a)::r)):Sem _) else pure (ForInStep.yield r))=pure (closOf env names acc):=by
  intro names
  induction names with
  |nil=>intro acc _;rfl
  |cons p r ih=>
   intro acc hp
   obtain⟨x,k⟩:=p
   rw[List.forIn_cons]
   rw[closOf_c]
   by_cases hk:(k == NameKind.free)=true
   ·rw[if_pos hk,if_pos hk]
    obtain⟨c,hc⟩:=Option.isSome_iff_exists.mp (hp (x,k) List.mem_cons_self (beq_iff_eq.mp hk))
    dsimp only at hc
    unfold cellOf
    rw[hc]
    exact ih _ fun q hq=>hp q (List.mem_cons_of_mem _ hq)
   ·rw[if_neg hk,if_neg hk]
    exact ih _ fun q hq=>hp q (List.mem_cons_of_mem _ hq)
 have:=key scope.names [] h
 unfold closureFor
 simp only[bind_pure]
 refine Eq.trans ?_ this
 congr 1
set_option tactic.hygienic true in
theorem closOf_lookup{env:Env}:∀(names:Names) (acc:List (Str × Addr)) (x:Str) (c:Addr),(closOf env names acc).lookup x=some c→(acc.lookup x=some c)∨((x,NameKind.free)∈names∧c=(env.cells.lookup x).getD 0)
 |[],acc,x,c,h=>.inl h
 |(y,k)::r,acc,x,c,h=>by
  rw[closOf_c] at h
  split at h
  ·rename_i hk
   rcases closOf_lookup r _ x c h with h|h
   ·rw[List.lookup_cons] at h
    cases hb:x == y with
    |true=>rw[hb] at h;cases h;rw[beq_iff_eq.mp hb,beq_iff_eq.mp hk];exact .inr ⟨List.mem_cons_self,rfl⟩
    |false=>rw[hb] at h;exact .inl h
   ·exact .inr ⟨List.mem_cons_of_mem _ h.1,h.2⟩
  ·rcases closOf_lookup r _ x c h with h|h
   ·exact .inl h
   ·exact .inr ⟨List.mem_cons_of_mem _ h.1,h.2⟩
theorem closOf_some{env:Env}:∀(names:Names) (acc:List (Str × Addr)) (x:Str),((x,NameKind.free)∈names∨(acc.lookup x).isSome=true)→((closOf env names acc).lookup x).isSome=true
 |[],acc,x,h=>by rcases h with h|h;exact absurd h List.not_mem_nil;exact h
 |(y,k)::r,acc,x,h=>by
  rw[closOf_c]
  rcases h with h|h
  ·rcases List.mem_cons.mp h with e|h
   ·cases e
    rw[if_pos (by rfl)]
    exact closOf_some r _ _ (.inr (by simp[List.lookup]))
   ·split<;>exact closOf_some r _ x (.inl h)
  ·split
   ·refine closOf_some r _ x (.inr ?_)
    rw[List.lookup_cons]
    split
    ·rfl
    ·exact h
   ·exact closOf_some r _ x (.inr h)
theorem lookup_mapv{α β:Type}(g:Str→α→β)(x:Str):∀ l:List (Str × α),(l.map fun p=>(p.1,g p.1 p.2)).lookup x=(l.lookup x).map (g x)
 |[]=>rfl
 |(y,a)::r=>by
  simp only[List.map_cons,List.lookup_cons]
  cases hb:x == y with
  |true=>simp[beq_iff_eq.mp hb]
  |false=>exact lookup_mapv g x r
theorem relabel_lookup(scope:Scope)(env:Env)(x:Str):(relabel scope env).names.lookup x=(scope.names.lookup x).map fun k=>if (k == .free&&env.scope.kind == .function&&env.kindOf x == some .cell) then .cell else k:=by
 rw[← lookup_mapv (fun n k=>if (k == .free&&env.scope.kind == .function&&env.kindOf n == some .cell) then NameKind.cell else k) x scope.names]
 congr 1
 refine List.map_congr_left fun p V=>?_
 obtain⟨n,k⟩:=p
 dsimp only
 split<;>rfl
noncomputable def okNames(sc names:Names):Bool:=names.all fun p=>(names.lookup p.1 == some p.2)&&(p.2 != .free || (sc.lookup p.1 == some .cell || sc.lookup p.1 == some .free))
noncomputable def seen(names:Names)(m:MM):MM:=fun x=>if names.lookup x=some .free then m x else Option.none
noncomputable def IfsT(G:GC)(ℓ:Nat)(sc:Names)(m:MM)(own:Own)(ifs:List Expr)(K:Bool→Own→Prop):Prop:=match ifs with
 |[]=>K true own
 |[c]=>Tst G ℓ sc m own c K
 |_=>False
structure PL (own:Own) (h:Heap) (D:Addr) (ys:List AV):Prop where
 at_:∃ items n,h.get? D=some {cls:=.type "list",data:=.seq items n}∧VReps (fz own) h items.toList ys
theorem PL.mono{own own':Own}{h h' D ys}(x:PL own h D ys)(k:TK (fz own) (fz own') h h')(hd:∀ o,h.get? D=some o→h'.get? D=some o):PL own' h' D ys:=by
 refine uEEA x.at_ fun items n e r=>?_
 exact⟨items,n,hd _ e,r.mono k⟩
section
variable{G:GC}{ℓ:Nat}{own:Own}{sc:Names}{m:MM}{A:Around}{s:Shared}
theorem Asg.none{sc:Names}{t d m m''}(h:Asg sc t d m m'')(hm:∀ x,stOk sc x=true→m x=Option.none):∀ x v,m x=some v→m'' x=some v:=by
 intro x v e
 cases h with
 |name h1=>
  rw[mset_ne];exact e
  rintro rfl;rw[hm _ h1] at e;cases e
 |pair h1 h2=>
  rw[mset_ne,mset_ne];exact e
  ·rintro rfl;rw[hm _ h1] at e;cases e
  ·rintro rfl;rw[hm _ h2] at e;cases e
theorem seen_st(sc:Names)(m:MM):∀ x,stOk sc x=true→seen sc m x=Option.none:=fun x h=>by
 unfold seen
 rw[if_neg]
 rcases stOk_or h with e|e<;>rw[e]<;>simp
inductive CmpS (G:GC) (ℓ:Nat) (sc:Names) (m:MM) (t:Expr) (ifs:List Expr) (elt:Expr) (d:AV) (ys:List AV) (o':Own) (J:List AV→Own→Prop):Prop
 |mk (m'':MM) (a:Asg sc t d m m'') (h:IfsT G ℓ sc m'' o' ifs fun b o3=>if b=true then Ev G ℓ sc m'' o3 elt (fun y o4=>∃ o5,sub o5 o4∧J (ys++[y]) o5) else ∃ o5,sub o5 o3∧J ys o5)
inductive CompBody (G:GC) (ℓ:Nat) (sc:Names) (m:MM) (t:Expr) (ifs:List Expr) (elt:Expr) (L:List AV) (C:Own→Prop) (o2:Own) (K:List AV→Own→Prop):Prop
 |mk (hsz:L.length≤sizeLine) (J:Nat→List AV→Own→Prop) (h0:J 0 [] o2) (hC:∀ i ys o',J i ys o'→C o')
  (hs:∀(J':Nat→List AV→Own→Prop),(∀ i ys o,J i ys o→J' i ys o)→∀ i d ys o',L[i]?=some d→J i ys o'→CmpS G ℓ sc m t ifs elt d ys o' (J' (i+1))) (he:∀ ys o',J L.length ys o'→K ys o')
theorem ifs_run{env:Env}{X:Addr→Prop}{ifs:List Expr}{K:Bool→Own→Prop}{Q:Bool→Shared→Prop}{E:Value→Shared→Prop}(hA:AOk A ℓ)(O:Ok G own s.heap)(F:Frm G sc env X m own s.heap)(h:IfsT G ℓ sc m own ifs K)
  (hQ:∀ b o' s',K b o'→Step noX own o' s s'→Ok G o' s'.heap→Q b s') :
  wpAny (model G.prog G.w) A (forIn ifs true fun c r=>if r=true then do let ok ← isTrue c env (eval c env);pure (ForInStep.yield ok) else pure (ForInStep.yield r)) Q E s:=by
 match ifs,h with
 |[],h=>rw[List.forIn_nil];exact wpAny_pure (hQ true _ s h (Step.refl s) O)
 |[c],h=>
  rw[List.forIn_cons]
  refine wpAny_bind ?_
  rw[if_pos rfl]
  refine wpAny_bind (h A env X s _ _ hA O F fun b o' s' k S' O'=>wpAny_pure ?_)
  dsimp only
  rw[List.forIn_nil]
  exact wpAny_pure (hQ b o' s' k S' O')
theorem comp_loop{env:Env}{X:Addr→Prop}{t iter elt:Expr}{ifs:List Expr}{scope:Scope}{pos:Pos}{I D:Addr}{wr:List Addr}{L:List AV}{C:Own→Prop}{St:Nat→Own→Heap→Prop}{K:List AV→Own→Prop}{R:Result→Shared→Prop}{o2:Own}
  (hA:AOk A ℓ) (hm0:∀ x,stOk sc x=true→m x=Option.none) (SR:Src G A t I wr L C St) (hb:CompBody G ℓ sc m t ifs elt L C o2 K) (O:Ok G o2 s.heap) (F:Frm G sc env X m o2 s.heap) (st:St 0 o2 s.heap)
  (hw:∀ b∈wr,o2 b=Option.none∧G.base.get? b=Option.none∧¬ X b∧b≠D∧∀ x,(sc.lookup x=some .cell∨sc.lookup x=some .free)→env.cells.lookup x≠some b)
  (hD:o2 D=Option.none∧G.base.get? D=Option.none∧¬ X D∧∀ x,(sc.lookup x=some .cell∨sc.lookup x=some .free)→env.cells.lookup x≠some D) (hl:PL o2 s.heap D [])
  (hR:∀ ys o' s',K ys o'→Step (fun a=>X a∨a∈wr∨a=D) o2 o' s s'→Ok G o' s'.heap→(o' env.locals=Option.none∧∃ mv,s'.heap.Ns env.locals mv)→PL o' s'.heap D ys→o' D=Option.none→R (.ok .next) s') :
  codeAny (model G.prog G.w) A (.compLoop (.ListComp elt [⟨t,iter,ifs,0⟩] scope pos) 0 (.ref I) (.ref D) env) R s:=by
 obtain⟨hsz,J,J0,JC,Jstep,Jend⟩:=hb
 let Z:Addr→Prop:=fun a=>X a∨a∈wr∨a=D
 let Inv:Nat→Shared→Prop:=fun n s'=>∃ i ys o',n=L.length+1-i∧i≤L.length∧ys.length≤i∧J i ys o'∧Step Z o2 o' s s'∧Ok G o' s'.heap∧Frm G sc env X m o' s'.heap∧St i o' s'.heap∧(∀ b∈wr,o' b=Option.none)∧o' D=Option.none∧PL o' s'.heap D ys
 refine codeAny_loop rfl Inv ?_ _ (iEEEAAAAAAAAAA 0 [] o2 rfl (Nat.zero_le _) (Nat.zero_le _) J0 (Step.refl _) O F st (fun b hb=>(hw b hb).1) hD.1 hl)
 rintro n s' hh;refine uEEEAAAAAAAAAA hh ?_;clear hh;rintro i ys o' rfl hi hys hJ S' O' F' st' hw' hD' hl'
 have hwb:∀ b∈wr,o' b=Option.none∧G.base.get? b=Option.none:=fun b hb=>⟨hw' b hb,(hw b hb).2.1⟩
 have nt:∀ a,a∈wr→∀ items n,s'.heap.get? a≠some (tupO items n):=fun a ha i n q=>by
  refine uEA (SR.live st' a ha) fun o ho hnt=>?_
  rw[q] at ho;cases ho;exact hnt _ _ rfl
 show wpAny _ A ((compTurn (.ListComp elt [⟨t,iter,ifs,0⟩] scope pos) 0 (.ref I) (.ref D) env).onRaise (fun x=>do noteFrame x env;theTreesLotGoes x)) _ _ s'
 refine wpAny_noted ?_
 rw[compTurn_list]
 refine wpAny_bind (wpAny_standAt (wpAny_bind ?_))
 cases hd:L[i]? with
 |none=>
  have hlen:i=L.length:=Nat.le_antisymm hi (by simpa using hd)
  subst hlen
  refine wpAny_mono (SR.done (fun s1=>Step (·∈wr) o' o' s' s1∧Ok G o' s1.heap) _ (JC _ _ _ hJ) O' hwb st' fun s1 a b=>⟨a,b⟩) (fun r s1 hr=>?_) fun V V e=>e
  refine uAA hr ?_;clear hr;rintro rfl S1 O1
  have F1:Frm G sc env X m o' s1.heap:=F'.stepH S1 (fun a ha=>(hw a ha).2.2.1) (fun x c hx hc hm=>(hw c hm).2.2.2.2 x hx hc) nt
  refine uEA F1.loc fun mv hn V=>?_
  refine wpAny_pure (hR ys o' s1 (Jend _ _ hJ) (S'.trans (S1.wide fun x hx=>.inr (.inl hx))) O1 (iAE ((F1.xs _ F1.xloc).1) mv hn) (hl'.mono (S1.monoY nt) fun o ho=>(S1.keep _ o ho hD' fun hm=>(hw D hm).2.2.2.1 rfl).1) hD')
 |some d=>
  obtain⟨m'',hasg,hifs⟩:=Jstep J (fun V V V h=>h) i d ys o' hd hJ
  have hlt:i<L.length:=(List.getElem?_eq_some_iff.mp hd).1
  refine wpAny_mono (SR.item (fun v s4=>Step (·∈wr) o' o' s' s4∧Ok G o' s4.heap∧St (i+1) o' s4.heap∧VRep (fz o') s4.heap v d) _ hd (JC _ _ _ hJ) O' hwb st' fun v s4 S4 O4 st4 r4=>(iAAA S4 O4 st4 r4)) (fun r s3 hr=>?_) fun V V e=>e
  refine uEA hr ?_;clear hr;rintro v rfl h
  refine wpAny_bind (wpAny_mono h (fun V s4 hp=>?_) fun V V e=>e)
  refine uAAA hp ?_;clear hp;rintro S4 O4 st4 r4
  have F4:Frm G sc env X m o' s4.heap:=F'.stepH S4 (fun a ha=>(hw a ha).2.2.1) (fun x c hx hc hm=>(hw c hm).2.2.2.2 x hx hc) nt
  have l4:PL o' s4.heap D ys:=hl'.mono (S4.monoY nt) fun o ho=>(S4.keep _ o ho hD' fun hm=>(hw D hm).2.2.2.1 rfl).1
  refine wpAny_bind (Frm.assign hA.handled F4 O4 r4 hasg fun s5 S5 O5 F5=>?_)
  have kD:∀{Y:Addr→Prop} {o1 o2':Own} {sa sb:Shared},(∀ a,Y a→X a)→Step Y o1 o2' sa sb→o1 D=Option.none→∀ o,sa.heap.get? D=some o→sb.heap.get? D=some o∧o2' D=Option.none:=fun hY S h o ho=>S.keep D o ho h fun y=>hD.2.2.1 (hY _ y)
  have kW:∀{Y:Addr→Prop} {o1 o2':Own} {sa sb:Shared},(∀ a,Y a→X a)→Step Y o1 o2' sa sb→(∀ b∈wr,o1 b=Option.none)→∀ b∈wr,∀ o,sa.heap.get? b=some o→sb.heap.get? b=some o∧o2' b=Option.none:=fun hY S h b hb o ho=>S.keep b o ho (h b hb) fun y=>(hw b hb).2.2.1 (hY _ y)
  have st5:St (i+1) o' s5.heap:=SR.frame st4 (S5.monoX F4) fun b hb o ho=>(kW (fun V y=>y) S5 hw' b hb o ho).1
  have l5:PL o' s5.heap D ys:=l4.mono (S5.monoX F4) fun o ho=>(kD (fun V y=>y) S5 hD' o ho).1
  have S25:Step Z o2 o' s s5:=(S'.trans (S4.wide fun x hx=>.inr (.inl hx))).trans (S5.wide fun x hx=>.inl hx)
  -- one more turn
  have again:∀{o3:Own} {s6:Shared} {ys':List AV} {o5:Own},Step Z o2 o3 s s6→Ok G o3 s6.heap→Frm G sc env X m'' o3 s6.heap→St (i+1) o3 s6.heap→(∀ b∈wr,o3 b=Option.none)→o3 D=Option.none→PL o3 s6.heap D ys'→ys'.length≤i+1→sub o5 o3→J (i+1) ys' o5→
    ∃ n,n<L.length+1-i∧Inv n s6:=fun {o3 s6 ys' o5} a b c d e f g hlen hs hj=>
   (iEAEEEAAAAAAAAAA (L.length+1-(i+1)) (Nat.sub_lt_sub_left (Nat.lt_succ_of_lt hlt) (Nat.lt_succ_self i)) (i+1) ys' o5 rfl hlt hlen hj (a.less hs) (b.less hs) ((c.less hs).forget (hasg.none hm0)) (SR.frame d (fun a i n e p=>⟨e,hs.none p⟩) (fun V V V e=>e)) (fun b hb=>hs.none (e b hb)) (hs.none f) (g.mono (fun a i n e p=>⟨e,hs.none p⟩) fun V e=>e))
  have live:∀{o3:Own} {h6:Heap},PL o3 h6 D ys→∃ o,h6.get? D=some o:=fun x=>let ⟨_,_,e,_⟩:=x.at_;⟨_,e⟩
  refine wpAny_bind (ifs_run hA O5 F5 hifs fun b o3 s6 k6 S6 O6=>?_)
  have F6:=F5.step S6
  have st6:St (i+1) o3 s6.heap:=SR.frame st5 S6.mono fun b hb o ho=>(kW (fun V y=>y.elim) S6 hw' b hb o ho).1
  have hw6:∀ b∈wr,o3 b=Option.none:=fun b hb=>by refine uEA (SR.live st5 b hb) fun o ho V=>?_;exact(kW (fun V y=>y.elim) S6 hw' b hb o ho).2
  obtain⟨oD,hoD⟩:=live l5
  have hD6:o3 D=Option.none:=(kD (fun V y=>y.elim) S6 hD' oD hoD).2
  have l6:PL o3 s6.heap D ys:=l5.mono S6.mono fun o ho=>(kD (fun V y=>y.elim) S6 hD' o ho).1
  have S26:Step Z o2 o3 s s6:=S25.trans (S6.wide fun x hx=>hx.elim)
  cases b with
  |false=>
   refine uEA k6 ?_;clear k6;rintro o5 hs hj
   exact wpAny_pure ⟨rfl,again S26 O6 F6 st6 hw6 hD6 l6 (by lia) hs hj⟩
  |true=>
   refine wpAny_bind (wpAny_bind (k6 A env X s6 _ _ hA O6 F6 fun y ay o7 s7 k7 S7 O7 r7=>?_))
   refine uEA k7 ?_;clear k7;rintro o5 hs hj
   have F7:=F6.step S7
   have st7:St (i+1) o7 s7.heap:=SR.frame st6 S7.mono fun b hb o ho=>(kW (fun V y=>y.elim) S7 hw6 b hb o ho).1
   have hw7:∀ b∈wr,o7 b=Option.none:=fun b hb=>by refine uEA (SR.live st6 b hb) fun o ho V=>?_;exact(kW (fun V y=>y.elim) S7 hw6 b hb o ho).2
   obtain⟨oD6,hoD6⟩:=live l6
   have hD7:o7 D=Option.none:=(kD (fun V y=>y.elim) S7 hD6 oD6 hoD6).2
   have l7:PL o7 s7.heap D ys:=l6.mono S7.mono fun o ho=>(kD (fun V y=>y.elim) S7 hD6 o ho).1
   refine uEEA l7.at_ fun items n eD rD=>?_
   have hsz7:items.size≤sizeLine:=by have:=rD.length;rw[Array.length_toList] at this;lia
   refine wpAny_bind (wpAny_list_append_plain (hsz:=hsz7) ⟨n,eD⟩ fun h8 hl8 hs8=>wpAny_pure (wpAny_pure ⟨rfl,?_⟩))
   have ntD:∀ i n,s7.heap.get? D≠some (tupO i n):=fun i n q=>by rw[q] at eD;simp at eD
   have S8:Step (·∈[D]) o7 o7 s7 {s7 with heap:=h8,toks:=s7.toks}:=Step.but hs8
   have T8:TK (fz o7) (fz o7) s7.heap h8:=S8.monoY fun a ha=>by rw[List.mem_singleton.mp ha];exact ntD
   have O8:Ok G o7 h8:=O7.frm hD7 hD.2.1 ntD hs8
   have F8:Frm G sc env X m'' o7 h8:=F7.stepH S8 (fun a ha=>by rw[List.mem_singleton.mp ha];exact hD.2.2.1) (fun x c hx hc hm=>by rw[List.mem_singleton.mp hm] at hc;exact hD.2.2.2 x hx hc) fun a ha=>by rw[List.mem_singleton.mp ha];exact ntD
   obtain⟨n8,e8⟩:=hl8
   refine again (s6:={s7 with heap:=h8}) (o3:=o7) (o5:=o5) (ys':=ys++[ay]) ?_ O8 F8 ?_ hw7 hD7 ⟨_,n8,e8,?_⟩ (by rw[List.length_append];simpa using hys) hs hj
   ·exact(S26.trans (S7.wide fun x hx=>hx.elim)).trans (S8.wide fun x hx=>.inr (.inr (List.mem_singleton.mp hx)))
   ·exact SR.frame st7 T8 fun b hb o ho=>(hs8.2 b (hw b hb).2.2.2.1).trans ho
   ·rw[Array.toList_push]
    exact(rD.mono T8).append (.cons (r7.mono T8) .nil)
theorem Ok.adopt{own h D ys}(O:Ok G own h)(hD:own D=Option.none)(hb:G.base.get? D=Option.none)(hl:PL own h D ys):Ok G (upd own D (.list ys)) h:=by
 refine uEEA hl.at_ fun items n e r=>?_
 have k:TK (fz own) (fz (upd own D (.list ys))) h h:=fun b i n' eb p=>⟨eb,by
  show upd own D _ b=Option.none
  rw[upd_ne];exact p
  rintro rfl;rw[e] at eb;simp at eb⟩
 exact⟨fun b o eb=>⟨(O.base b o eb).1,by rw[upd_ne];exact(O.base b o eb).2;rintro rfl;rw[hb] at eb;cases eb⟩,fun b z eb=>by
  by_cases hbD:b=D
  ·subst hbD
   rw[upd_self] at eb;cases eb
   exact(iAE (iEEA items n e (r.mono k)) _ e)
  ·rw[upd_ne _ _ hbD] at eb
   obtain⟨r,x⟩:=O.own b z eb
   exact⟨r.mono k fun V e=>e,x⟩⟩
theorem comp_env{env:Env}{X:Addr→Prop}{scope:Scope}{M:Model}{E:Value→Shared→Prop}{Q:Env→Shared→Prop}(O:Ok G own s.heap)(F:Frm G sc env X m own s.heap)(hok:okNames sc scope.names=true)(hk:scope.kind=.function)
  (hQ:∀ cenv s' X',(∀ b,X' b→s.heap.objs.size≤b)→cenv.locals=s.heap.objs.size→Step noX own own s s'→(∀ b o,s.heap.get? b=some o→s'.heap.get? b=some o)→Ok G own s'.heap→
   Frm G scope.names {cenv with scope:=relabel scope env} X' (seen scope.names m) own s'.heap→(∀ x c,cenv.cells.lookup x=some c→c<s.heap.objs.size→∃ y,(sc.lookup y=some .cell∨sc.lookup y=some .free)∧env.cells.lookup y=some c)→(∀ b,X' b→X' b)→Q cenv s') :
  wpAny M A (newFunctionEnv scope env.globals (closOf env scope.names []) [] env.qual Option.none .none (some env)) Q E s:=by
 have names:∀ x k,(x,k)∈scope.names→scope.names.lookup x=some k∧(k=.free→(sc.lookup x=some .cell∨sc.lookup x=some .free)):=fun x k h=>by
  have:=List.all_eq_true.mp hok (x,k) h
  simp only[Bool.and_eq_true,beq_iff_eq,Bool.or_eq_true,bne_iff_ne,ne_eq] at this
  exact⟨this.1,fun hf=>this.2.resolve_left fun h=>h hf⟩
 unfold newFunctionEnv
 simp only[Option.isSome_some,if_true]
 refine wpAny_bind (wpAny_alloc ?_)
 refine wpAny_bind (wpAny_layCells _ (fun name kind cells=>by cases hkc:kind == NameKind.cell<;>simp[hkc]) _ _ _ _ ?_)
 rw[List.forIn_nil]
 refine wpAny_bind (wpAny_pure (wpAny_pure ?_))
 have ok:=cellsFrom_ok scope.names (s.heap.push {cls:=.type "dict",data:=.dict #[]}) (s.heap.objs.size+1) [] ⟨fun V V hm=>(nomatch hm),List.Pairwise.nil⟩ (by rw[Heap.size_push];exact Nat.le_refl _)
 rw[Heap.size_push] at ok
 rw[show({s with heap:=s.heap.push {cls:=.type "dict",data:=.dict #[]}}:Shared).heap.objs.size=s.heap.objs.size+1 from Heap.size_push ..]
 rw[cellsFrom_app]
 have hext:∀ b o,s.heap.get? b=some o→(pushCells (s.heap.push {cls:=.type "dict",data:=.dict #[]}) scope.names).get? b=some o:=fun b o e=>pushCells_keeps _ _ b o (Heap.get?_push_of_some _ e)
 have fresh:∀ b,s.heap.objs.size≤b→own b=Option.none∧G.base.get? b=Option.none:=fun b hb=>by
  have e:s.heap.get? b=Option.none:=by
   cases e:s.heap.get? b with
   |none=>rfl
   |some o=>exact absurd (Heap.lt_size e) (Nat.not_lt.mpr hb)
  exact⟨O.fresh e,O.baseFresh e⟩
 have hns:(pushCells (s.heap.push {cls:=.type "dict",data:=.dict #[]}) scope.names).Ns s.heap.objs.size fun V=>Option.none:=(Heap.Ns.new s.heap (.type "dict")).keeps (pushCells_keeps _ _)
 have hclos:∀ x c,(closOf env scope.names []).lookup x=some c→(sc.lookup x=some .cell∨sc.lookup x=some .free)∧scope.names.lookup x=some .free∧env.cells.lookup x=some c:=fun x c h=>by
  rcases closOf_lookup _ _ _ _ h with h'|⟨h',e'⟩
  ·cases h'
  ·have h1:=names x _ h'
   rw[e']
   refine(iAA (h1.2 rfl) h1.1 ?_)
   refine uEEA (F.cell x (h1.2 rfl)) fun c cv hc V=>?_
   rw[hc];rfl
 have lt:∀ x c,(closOf env scope.names []).lookup x=some c→c<s.heap.objs.size:=fun x c h=>by
  refine uAA (hclos x c h) fun h1 V h2=>?_
  refine uEEAA (F.cell x h1) fun c' cv hc hi V=>?_
  rw[h2] at hc;cases hc
  exact hi.lt
 have hcells:∀ x c,(cellsFrom (s.heap.objs.size+1) scope.names []++closOf env scope.names []).lookup x=some c→
   ((x,c)∈cellsFrom (s.heap.objs.size+1) scope.names []∧scope.names.lookup x=some .cell)∨(closOf env scope.names []).lookup x=some c:=fun x c h=>by
  rw[List.lookup_append] at h
  cases e:(cellsFrom (s.heap.objs.size+1) scope.names []).lookup x with
  |some d=>
   rw[e] at h;cases h
   have hm:=PySem.mem_of_lookup e
   rcases cellsFrom_mem _ _ _ _ _ hm with h|h
   ·cases h
   ·exact .inl ⟨hm,(names x _ h).1⟩
  |none=>rw[e] at h;exact .inr h
 refine hQ _ _ (fun b=>b=s.heap.objs.size∨∃ x,(x,b)∈cellsFrom (s.heap.objs.size+1) scope.names []) ?_ rfl (Step.ext hext) hext (O.ext hext) ⟨?_,F.globals,F.builtins,?_,?_,?_,?_,(iEA _ hns (fun x hx=>?_)),fun x hx=>?_,fun x c hx hc=>?_,fun x y c hx hy h1 h2=>?_,.inl rfl,fun b hb=>?_⟩ ?_ (fun V h=>h)
 ·rintro b (rfl|⟨x,hx⟩)
  ·exact Nat.le_refl _
  ·exact Nat.le_of_lt (ok.empty x b hx).2
 ·exact hk
 ·intro x hx
  show(relabel scope env).names.lookup x=_
  rw[relabel_lookup,hx];rfl
 ·intro x hx
  show(relabel scope env).names.lookup x=_
  rw[relabel_lookup,hx];rfl
 ·intro x hx
  show(relabel scope env).names.lookup x=_∨(relabel scope env).names.lookup x=_
  rw[relabel_lookup,hx]
  simp only[Option.map_some]
  split
  ·exact .inl rfl
  ·exact .inr rfl
 ·intro x hx
  show(relabel scope env).names.lookup x=_
  rw[relabel_lookup,hx];rfl
 ·have:seen scope.names m x=Option.none:=by unfold seen;rw[if_neg];rw[hx];simp
  rw[this];exact trivial
 ·by_cases hf:scope.names.lookup x=some .free
  ·have h1:=names x _ (lookup_mem hf)
   refine uEEAAA (F.cell x (h1.2 rfl)) fun c cv c1 c2 c3 c4=>?_
   obtain⟨c',hc'⟩:=Option.isSome_iff_exists.mp (closOf_some (env:=env) scope.names [] x (.inl (lookup_mem hf)))
   have e:c'=c:=by have:=(hclos x c' hc').2.2;rw[c1] at this;cases this;rfl
   subst e
   refine(iEEAAA c' cv ?_ (c2.keeps hext) ?_ c4)
   ·show(cellsFrom (s.heap.objs.size+1) scope.names []++closOf env scope.names []).lookup x=_
    rw[List.lookup_append]
    cases e:(cellsFrom (s.heap.objs.size+1) scope.names []).lookup x with
    |none=>exact hc'
    |some d=>
     rcases cellsFrom_mem _ _ _ _ _ (PySem.mem_of_lookup e) with h|h
     ·cases h
     ·rw[(names x _ h).1] at hf;cases hf
   ·rw[show seen scope.names m x=m x by unfold seen;rw[if_pos hf]]
    exact c3.mono fun b i n e p=>⟨hext _ _ e,p⟩
  ·have hc:scope.names.lookup x=some .cell:=hx.resolve_right hf
   obtain⟨c,e⟩:=Option.isSome_iff_exists.mp (cells_in (n:=s.heap.objs.size+1) (acc:=[]) (.inl (lookup_mem hc)))
   have hm:=PySem.mem_of_lookup e
   refine(iEEAAA c Option.none ?_ ((ok.empty x c hm).1) ?_ ((fresh c (Nat.le_of_lt (ok.empty x c hm).2)).1))
   ·show(cellsFrom (s.heap.objs.size+1) scope.names []++closOf env scope.names []).lookup x=_
    rw[List.lookup_append,e];rfl
   ·rw[show seen scope.names m x=Option.none by unfold seen;rw[if_neg hf]];exact trivial
 ·rcases hcells x c hc with h|h
  ·exact .inr ⟨x,h.1⟩
  ·rw[(hclos x c h).2.1] at hx;cases hx
 ·rcases hcells x c h1 with⟨a,_⟩|a<;>rcases hcells y c h2 with⟨b,_⟩|b
  ·exact name_of_addr ok.apart a b
  ·exact absurd (lt y c b) (Nat.not_lt.mpr (Nat.le_of_lt (ok.empty x c a).2))
  ·exact absurd (lt x c a) (Nat.not_lt.mpr (Nat.le_of_lt (ok.empty y c b).2))
  ·exact F.apart x y c (hclos x c a).1 (hclos y c b).1 (hclos x c a).2.2 (hclos y c b).2.2
 ·rcases hb with rfl|⟨x,hx⟩
  ·refine uEEEAA hns ?_;clear hns;rintro o es ep ho hd _
   exact(iAAEA ((fresh _ (Nat.le_refl _)).1) ((fresh _ (Nat.le_refl _)).2) o ho (fun i n q=>by rw[q] at hd;cases hd))
  ·obtain⟨h1,h2⟩:=ok.empty x b hx
   refine uEA h1 ?_;clear h1;rintro o ho hd
   exact(iAAEA ((fresh _ (Nat.le_of_lt h2)).1) ((fresh _ (Nat.le_of_lt h2)).2) o ho (fun i n q=>by rw[q] at hd;cases hd))
 ·intro x c hc hlt
  rcases hcells x c hc with h|h
  ·exact absurd hlt (Nat.not_lt.mpr (Nat.le_of_lt (ok.empty x c h.1).2))
  ·exact(iEA x ((hclos x c h).1) ((hclos x c h).2.2))
theorem Step.letGo{X:Addr→Prop}{C:Addr}{h':Heap}{m₂:Str→Option Value}(O:Ok G own s.heap)(hC:own C=Option.none)(hb:G.base.get? C=Option.none)(hn:s.heap.Ns C m₂)(hs:Heap.SameBut C s.heap h') :
  Step (·∈[C]) own own s {s with heap:=h'}∧Ok G own h'∧(∀ a,a∈[C]→∀ items n,s.heap.get? a≠some (tupO items n)):=by
 have nt:∀ i n,s.heap.get? C≠some (tupO i n):=fun i n q=>by
  refine uEEEAA hn ?_;clear hn;rintro o es ep ho hd _
  rw[q] at ho;cases ho;cases hd
 exact(iAA (Step.but (tk:=s.toks) hs) (O.frm hC hb nt hs) (fun a ha=>by rw[List.mem_singleton.mp ha];exact nt))
theorem comp_all{env:Env}{X:Addr→Prop}{t iter elt:Expr}{ifs:List Expr}{scope:Scope}{pos cpos:Pos}{use:Option (Value→Sem Unit)}{Q E:Value→Shared→Prop}{K:List AV→Own→Prop}
  (hA:AOk A ℓ) (O:Ok G own s.heap) (F:Frm G sc env X m own s.heap) (hok:okNames sc scope.names=true) (hk:scope.kind=.function) (hs:∀ env x,foldedSetIterable iter env x=pure x)
  (h:Ev G ℓ sc m own iter fun av o1=>ItT G ℓ o1 t av fun L C o2=>CompBody G ℓ scope.names (seen scope.names m) t ifs elt L C o2 K)
  (hQ:∀ D C ys o' s',K ys o'→(∀ o,s.heap.get? D=some o→own D≠Option.none)→(∀ o,s.heap.get? C=some o→own C≠Option.none)→C≠D→o' D=Option.none→o' C=Option.none→G.base.get? D=Option.none→G.base.get? C=Option.none→Step noX own o' s s'→Ok G o' s'.heap→PL o' s'.heap D ys→(∃ mv,s'.heap.Ns C mv)→
   compPost (model G.prog G.w) A E use Q (.ref D) C (.ok .next) s') :
  wpAny (model G.prog G.w) A (comprehension (.ListComp elt [⟨t,iter,ifs,0⟩] scope pos) scope env cpos (newList []) false (eval iter env) use) Q E s:=by
 have names:∀ x k,(x,k)∈scope.names→scope.names.lookup x=some k∧(k=.free→(sc.lookup x=some .cell∨sc.lookup x=some .free)):=fun x k h=>by
  have:=List.all_eq_true.mp hok (x,k) h
  simp only[Bool.and_eq_true,beq_iff_eq,Bool.or_eq_true,bne_iff_ne,ne_eq] at this
  exact⟨this.1,fun hf=>this.2.resolve_left fun h=>h hf⟩
 refine wpAny_comprehension_free (g:=⟨t,iter,ifs,0⟩) (gs:=[]) rfl (hs env) (closureFor_eq fun p hp hf=>?_) hk (fun x hx hl=>?_) ?_
 ·refine uEEA (F.cell p.1 ((names p.1 p.2 hp).2 hf)) fun c cv hc V=>?_
  rw[hc];rfl
 ·exact(names x.1 x.2 hx).1.trans (by rw[hl])
 refine h A env X s _ E hA O F fun v av o1 s1 k1 S1 O1 r1=>k1 A s1 v _ E hA O1 r1 fun I wr L C St o2 s2 k2 SR st S2 O2 hw=>?_
 have S12:=S1.trans S2
 have F2:=F.step S12
 have old2:∀ a,(∃ o,s.heap.get? a=some o∧own a=Option.none)→(∃ o,s2.heap.get? a=some o)∧a∉wr:=fun a q30600=>uEA q30600 fun o e p=>by
  have k:=S1.keep a o e p id
  have k':=S2.keep a o k.1 k.2 id
  exact⟨⟨o,k'.1⟩,fun hm=>(hw a hm).2.2 o k.1 k.2⟩
 refine wpAny_newObj_type (wpAny_mono (Q:=fun cenv s4=>_) (comp_env (X:=X) (sc:=sc) (m:=m) (own:=o2) (s:={s2 with heap:=s2.heap.push {cls:=.type "list",data:=.seq ([]:List Value).toArray}}) (scope:=scope) (O2.ext push_ext)
  (F2.step (s:=s2) (s':={s2 with heap:=s2.heap.push {cls:=.type "list",data:=.seq ([]:List Value).toArray}}) (Step.ext (tk:=s2.toks) push_ext)) hok hk (E:=E) (Q:=fun cenv s4=>codeAny (model G.prog G.w) A (.compStart (.ListComp elt [⟨t,iter,ifs,0⟩] scope pos) 0 (.ref I) (.ref s2.heap.objs.size) {cenv with scope:=relabel scope env}) (compPost (model G.prog G.w) A E use Q (.ref s2.heap.objs.size) cenv.locals) s4)
  fun cenv s4 X' hX' hloc S4 ext4 O4 F4 hcl V=>?_) (fun V V e=>e) fun V V e=>e)
 simp only[Heap.size_push] at hX' hloc hcl
 have D0:s2.heap.get? s2.heap.objs.size=Option.none:=get_size _
 have wlt:∀ b∈wr,b<s2.heap.objs.size:=fun b hb=>by refine uEA (SR.live st b hb) fun o ho V=>?_;exact Heap.lt_size ho
 have S24:Step noX o2 o2 s2 s4:=(Step.ext (tk:=s2.toks) (h':=s2.heap.push {cls:=.type "list",data:=.seq ([]:List Value).toArray}) push_ext).trans S4
 have ext24:∀ b o,s2.heap.get? b=some o→s4.heap.get? b=some o:=fun b o e=>ext4 b o (push_ext b o e)
 have st4:St 0 o2 s4.heap:=SR.frame st S24.mono fun b hb o ho=>ext24 b o ho
 have frozen:∀ y c,(sc.lookup y=some .cell∨sc.lookup y=some .free)→env.cells.lookup y=some c→∃ o,s.heap.get? c=some o∧own c=Option.none:=fun y c hy hc=>by
  refine uEEAAA (F.cell y hy) ?_;rintro c' cv h1 ⟨o,ho,_⟩ _ h4
  rw[hc] at h1;cases h1
  exact(iEA o ho h4)
 have cellOld:∀ x c,cenv.cells.lookup x=some c→c<s2.heap.objs.size+1→(∃ o,s.heap.get? c=some o∧own c=Option.none):=fun x c hc hlt=>by
  refine uEA (hcl x c hc hlt) fun y hy hc'=>?_
  exact frozen y c hy hc'
 have loop:codeAny (model G.prog G.w) A (.compLoop (.ListComp elt [⟨t,iter,ifs,0⟩] scope pos) 0 (.ref I) (.ref s2.heap.objs.size) {cenv with scope:=relabel scope env}) (compPost (model G.prog G.w) A E use Q (.ref s2.heap.objs.size) cenv.locals) s4:=by
  refine comp_loop hA (seen_st _ _) SR k2 O4 F4 st4 (fun b hb=>(iAAAA ((hw b hb).1) ((hw b hb).2.1) (fun hx=>?_) (Nat.ne_of_lt (wlt b hb)) (fun x hx hc=>?_)))
   (iAAA (O2.fresh D0) (O2.baseFresh D0) (fun hx=>?_) (fun x hx hc=>?_)) ⟨_,0,ext4 _ _ (Heap.get?_push_size _ rfl),.nil⟩ fun ys o' s' k S' O' hns hl hD'=>?_
  ·exact absurd (Nat.lt_succ_of_lt (wlt b hb)) (Nat.not_lt.mpr (hX' b hx))
  ·exact(old2 b (cellOld x b hc (Nat.lt_succ_of_lt (wlt b hb)))).2 hb
  ·exact absurd (Nat.lt_succ_self _) (Nat.not_lt.mpr (hX' _ hx))
  ·obtain⟨o,ho⟩:=(old2 _ (cellOld x _ hc (Nat.lt_succ_self _))).1
   rw[D0] at ho;cases ho
  ·have S0:Step noX own o' s s':=(S12.trans S24).hide S' fun x o e p V hx=>by
    have ox:=old2 x (iEA o e p)
    have lx:x<s2.heap.objs.size:=Heap.lt_size ox.1.choose_spec
    rcases hx with hx|hx|hx
    ·exact absurd (Nat.lt_succ_of_lt lx) (Nat.not_lt.mpr (hX' x hx))
    ·exact ox.2 hx
    ·exact absurd lx (by rw[hx];exact Nat.lt_irrefl _)
   have nD:∀ o,s.heap.get? s2.heap.objs.size=some o→own s2.heap.objs.size≠Option.none:=fun o e p=>by
    obtain⟨o',h⟩:=(old2 _ (iEA o e p)).1
    rw[D0] at h;cases h
   have nC:∀ o,s.heap.get? cenv.locals=some o→own cenv.locals≠Option.none:=fun o e p=>by
    obtain⟨o',h⟩:=(old2 _ (iEA o e p)).1
    have:=Heap.lt_size h
    rw[hloc] at this
    exact absurd this (Nat.not_lt.mpr (Nat.le_succ _))
   have hXC:X' cenv.locals:=F4.xloc
   have hC4:=F4.xs _ hXC
   exact hQ _ _ ys o' s' k nD nC (by rw[hloc];exact Nat.succ_ne_self _) hD' hns.1 (O2.baseFresh D0) hC4.2.1 S0 O' hl hns.2
 exact codeAny_compStart_list loop (SR.self _ _ st4 loop)
theorem Step.upd{Y:Addr→Prop}{own own':Own}{s s':Shared}{D:Addr}{x:AObj}(S:Step Y own own' s s')(nD:∀ o,s.heap.get? D=some o→own D≠Option.none):Step Y own (upd own' D x) s s':=
 ⟨S.ex,fun a o e p n=>⟨(S.keep a o e p n).1,by rw[upd_ne];exact(S.keep a o e p n).2;rintro rfl;exact nD o e p⟩⟩
theorem Ev.comp{t iter elt:Expr}{ifs:List Expr}{scope:Scope}{pos:Pos}{K:AV→Own→Prop}(hok:okNames sc scope.names=true)(hk:scope.kind=.function)
  (h:Ev G ℓ sc m own iter fun av o1=>ItT G ℓ o1 t av fun L C o2=>CompBody G ℓ scope.names (seen scope.names m) t ifs elt L C o2 fun ys o'=>∀ a,o' a=Option.none→K (.ref a) (upd o' a (.list ys)))
  (hs:autoParam (∀ env x,foldedSetIterable iter env x=pure x) sI):Ev G ℓ sc m own (.ListComp elt [⟨t,iter,ifs,0⟩] scope pos) K:=fun A env X s Q E hA O F hQ=>by
 rw[eval_ListComp]
 refine comp_all (use:=Option.none) hA O F hok hk hs h fun D C ys o' s' k nD nC hCD hD hC bD bC S' O' hl hns=>?_
 obtain⟨mv,hn⟩:=hns
 refine(iEA mv hn (fun h' hs'=>?_))
 have O1:=O'.adopt hD bD hl
 have hC1:upd o' D (.list ys) C=Option.none:=by rw[upd_ne _ _ hCD];exact hC
 refine uAA (Step.letGo (X:=fun V=>False) O1 hC1 bC hn hs') fun S2 O2 nt=>?_
 have S3:Step noX own (upd o' D (.list ys)) s s':=S'.upd nD
 exact hQ _ _ _ _ (k D hD) (S3.hide S2 fun x o e p V hx=>by rw[List.mem_singleton.mp hx] at e p;exact nC o e p) O2 (.ref D)
theorem Ex.assignComp{x:Str}{px:Pos}{t iter elt:Expr}{ifs:List Expr}{scope:Scope}{pos spos:Pos}{K:AF→MM→Own→Prop}(hx:stOk sc x=true)(hok:okNames sc scope.names=true)(hk:scope.kind=.function)
  (h:Ev G ℓ sc m own iter fun av o1=>ItT G ℓ o1 t av fun L C o2=>CompBody G ℓ scope.names (seen scope.names m) t ifs elt L C o2 fun ys o'=>∀ a,o' a=Option.none→K .nxt (mset m x (.ref a)) (upd o' a (.list ys)))
  (hs:autoParam (∀ env x,foldedSetIterable iter env x=pure x) sI):Ex G ℓ sc m own (.Assign [.Name x px] (.ListComp elt [⟨t,iter,ifs,0⟩] scope pos) spos) K:=fun A env X s Q E hA O F hQ=>by
 have hsw:∃ b,swapsWith (.ListComp elt [⟨t,iter,ifs,0⟩] scope pos) (some (.Name x px)) spos.line env=pure b:=⟨_,rfl⟩
 obtain⟨b,hb⟩:=hsw
 cases b with
 |false=>
  refine wpAny_Assign_Name (Ev.comp (K:=fun av o1=>K .nxt (mset m x av) o1) hok hk h hs A env X s _ E hA O F fun v av o1 s1 k S1 O1 r1=>?_) hb
  exact(F.step S1).st O1 r1 hx fun s2 S2 O2 F2=>hQ _ .nxt _ _ s2 k (S1.weak.trans S2) O2 F2 trivial
 |true=>
  rw[exec_Assign_Name_used _ _ _ _ hb]
  refine wpAny_bind (wpAny_standAt (wpAny_bind ?_))
  show wpAny _ A (do let _ ← comprehension (.ListComp elt [⟨t,iter,ifs,0⟩] scope pos) scope env _ (newList []) false (eval iter env) (some (PySem.assign (.Name x px) env))) _ _ s
  refine wpAny_bind (wpAny_mono (comp_all (use:=some (PySem.assign (.Name x px) env)) (Q:=fun V s'=>Q .next s') (E:=E) hA O F hok hk hs h fun D C ys o' s' k nD nC hCD hD hC bD bC S' O' hl hns=>?_) (fun V s' hq=>wpAny_pure (wpAny_pure hq)) fun V V e=>e)
  obtain⟨mv,hn⟩:=hns
  have O1:=O'.adopt hD bD hl
  have hC1:upd o' D (.list ys) C=Option.none:=by rw[upd_ne _ _ hCD];exact hC
  have S3:Step noX own (upd o' D (.list ys)) s s':=S'.upd nD
  have F1:=F.step S3
  have notX:¬ X C:=fun hx=>by
   refine uAAEA (F.xs C hx) fun p V o e V=>?_
   exact nC o e p
  refine wpAny_assign_Name (F1.st O1 (.ref D) hx fun s2 S2 O2 F2=>?_)
  refine uEEEA hn ?_;clear hn;rintro oC es ep hoC r
  have hn2:s2.heap.Ns C mv:=(iEEEA oC es ep ((S2.keep C oC hoC hC1 notX).1) r)
  refine(iEA mv hn2 (fun h' hs'=>?_))
  refine uAA (Step.letGo (X:=fun V=>False) O2 hC1 bC hn2 hs') fun S4 O4 nt=>?_
  have F4:=F2.stepH S4 (fun a ha=>by rw[List.mem_singleton.mp ha];exact notX) (fun y c hy hc hm=>by
   refine uEEAAA (F.cell y hy) ?_;rintro c' cv h1 ⟨o,ho,_⟩ _ h4
   rw[hc] at h1;cases h1
   rw[List.mem_singleton.mp hm] at ho h4
   exact nC o ho h4) nt
  refine hQ _ .nxt _ _ _ (k D hD) ((S3.weak.trans S2).hide S4 fun x o e p V hx=>by rw[List.mem_singleton.mp hx] at e p;exact nC o e p) O4 F4 trivial
end
section
variable{M:Model}{A:Around}{E:Value→Shared→Prop}{s:Shared}
theorem evalArgs_all{f:Value}{trees:List (Bool × Sem Value)}{Q:Args→Shared→Prop}(hp:trees.any (·.1)=false)(h:wpAny M A (spliced trees) (fun vs s'=>Q ⟨vs,[]⟩ s') E s):wpAny M A (evalArgs f true trees []) Q E s:=by
 cases trees with
 |nil=>
  refine wpAny_bind (wpAny_mono h (fun vs s' h'=>?_) fun V V x=>x)
  refine wpAny_holding ?_
  exact wpAny_bind (wpAny_pure (wpAny_bind (wpAny_pure (wpAny_pure h'))))
 |cons t rest=>
  obtain⟨b,x⟩:=t
  simp only[List.any_cons,Bool.or_eq_false_iff] at hp
  obtain⟨rfl,_⟩:=hp
  exact Calls.evalArgs_plain h
theorem callWith_all{pos:Pos}{f:Value}{first:List Value}{trees:List (Bool × Sem Value)}{Q:Value→Shared→Prop}(hp:trees.any (·.1)=false)
  (h:wpAny M A (spliced trees) (fun vs s₁=>(∃ k,(k=Keeper.frame∨k=Keeper.machine)∧Looks M s₁.heap (keeperOf f) k)∧wpAny M A (call f (first++vs)) Q E s₁) E s):wpAny M A (callWith pos f first trees []) Q E s:=by
 refine wpAny_bind (wpAny_holding (evalArgs_all hp (wpAny_mono h (fun vs s₁ h₁=>wpAny_bind (wpAny_standAt ?_)) fun V V x=>x)))
 obtain⟨⟨k,hk,hl⟩,hc⟩:=h₁
 rw[hp,List.any_nil,Bool.or_false]
 refine wpAny_bind (hl.here ?_)
 have tail:∀{t:Sem Value},wpAny M A t Q E s₁→wpAny M A (t>>=fun r=>holding [r] point>>=fun V=>pure r) Q E s₁:=
  fun ht=>wpAny_bind (wpAny_mono ht (fun r s₂ hr=>wpAny_bind (wpAny_holding (wpAny_point (wpAny_pure hr)))) fun V V x=>x)
 rcases hk with rfl|rfl
 ·dsimp only
  by_cases hn:trees.length+2*([]:List (Option Str × Sem Value)).length > 30
  ·rw[if_pos hn];exact tail hc
  ·rw[if_neg hn];exact tail (by unfold callMarked;exact Calls.wpAny_keep hc)
 ·exact tail hc
end
noncomputable def callable(P:Params):AV→Bool
 |.bi _=>true
 |.ty _=>true
 |.ref a=>keepIn (KF P) (.ref a)
 |.none=>false
 |.bool _=>false
 |.int _=>false
 |.str _=>false
 |.tup _=>false
theorem callable_looks{G:GC}{P:Addr→Prop}{h:Heap}{M:Model}{v:Value}{fv:AV}(X:(KF G.w.params).In h)(r:VRep P h v fv)(hc:callable G.w.params fv=true):∃ k,(k=Keeper.frame∨k=Keeper.machine)∧Looks M h (keeperOf v) k:=by
 cases r<;>first|exact Bool.noConfusion hc|skip
 ·exact looks_keep hc X
 ·exact(iEA _ (.inr rfl) (Looks.of_pure rfl))
 ·exact(iEA _ (.inr rfl) (Looks.of_pure rfl))
theorem backTo_any(pos:Pos)(trees:List (Bool × Sem Value)):(backTo pos trees).any (·.1)=trees.any (·.1):=by unfold backTo;rw[List.any_map];rfl
section
variable{G:GC}{ℓ:Nat}{sc:Names}{m:MM}{own:Own}{K:AV→Own→Prop}
theorem Ev.call{x:Str}{p pos:Pos}{args:List Expr}(h:Ev G ℓ sc m own (.Name x p) fun fv o1=>callable G.w.params fv=true∧Evs G ℓ sc m o1 args fun as o2=>Cal G ℓ o2 fv as K)
  (hns:autoParam (∀ env,(starEach args env).any (·.1)=false) sI):Ev G ℓ sc m own (.Call (.Name x p) args [] pos) K:=fun A env X s Q E hA O F hQ=>by
 refine wpAny_bind (h A env X s _ E hA O F fun fv av o1 s1 k S1 O1 r1=>?_)
 refine callWith_all (by rw[backTo_any];exact hns env) (k.2 A env X s1 pos _ E hA O1 (F.step S1) fun vs avs o2 s2 k2 S2 O2 r2=>⟨callable_looks O2.kin (r1.step S2) k.1,?_⟩)
 exact k2 A s2 fv vs Q E hA O2 (r1.step S2) r2 fun v av' o3 s3 k3 S3 O3 r3=>hQ v av' o3 s3 k3 ((S1.trans S2).trans S3) O3 r3
structure MethF (T:String) (name:Str) (id:String):Prop where
 plain:PlainAttrs T
 slot:Slot T name id
 typ:typeOf (.builtin id)=pure (.type "method_descriptor")
noncomputable def HasT(own:Own)(T:String):AV→Prop
 |.ref a=>(T="list"∧∃ l,own a=some (.list l))∨(T="dict"∧((∃ l,own a=some (.dS l))∨(∃ l,own a=some (.dI l))∨(∃ l,own a=some (.dT l))))
 |.str _=>T="str"
 |_=>False
theorem HasT.inv{ov:AV}{T:String}(h:HasT own T ov):(∃ x,ov=.str x∧T="str")∨∃ a,ov=.ref a∧HasT own T (.ref a):=by
 cases ov with
 |str x=>exact .inl ⟨x,rfl,h⟩
 |ref a=>exact .inr ⟨a,rfl,h⟩
 |_=>exact h.elim
theorem HasT.at{s:Shared}{v:Value}{ov:AV}{T:String}(O:Ok G own s.heap)(r:VRep (fz own) s.heap v ov)(h:HasT own T ov):s.TypeIs v T∧∀ a,v=.ref a→∃ ob,s.heap.get? a=some ob∧ob.dict=Option.none:=by
 obtain⟨x,rfl,rfl⟩|⟨a,rfl,h⟩:=h.inv
 ·obtain⟨t,rfl⟩:=r.i_str
  exact⟨rfl,fun a e=>by cases e⟩
 ·obtain rfl:=r.i_ref
  rcases h with⟨rfl,h1⟩|⟨rfl,h1⟩
  ·obtain⟨l,e⟩:=h1
   obtain⟨⟨items,n,e',_⟩,_⟩:=O.own a _ e
   exact⟨(iEA _ e' rfl),fun b q=>by cases q;exact(iEA _ e' rfl)⟩
  ·have fin:∀{o:Obj},s.heap.get? a=some o→o.ExactDict→s.TypeIs (.ref a) "dict"∧∀ b,Value.ref a=.ref b→∃ ob,s.heap.get? b=some ob∧ob.dict=Option.none:=fun e d=>⟨(iEA _ e d.1),fun b q=>by cases q;exact(iEA _ e d.2.1)⟩
   rcases h1 with⟨l,e⟩|⟨l,e⟩|⟨l,e⟩
   ·obtain⟨⟨_,kvs,⟨o,es,ep,e',d,_⟩,_⟩,_⟩:=O.own a _ e
    exact fin e' d
   ·obtain⟨⟨_,kvs,⟨o,es,ep,e',d,_⟩,_⟩,_⟩:=O.own a _ e
    exact fin e' d
   ·obtain⟨⟨_,kvs,⟨o,es,ep,e',d,_⟩,_⟩,_⟩:=O.own a _ e
    exact fin e' d
theorem Ev.meth{o:Expr}{name:Str}{apos pos:Pos}{args:List Expr}{T id:String}(MF:MethF T name id)
  (h:Ev G ℓ sc m own o fun ov o1=>HasT o1 T ov∧Evs G ℓ sc m o1 args fun as o2=>Cal G ℓ o2 (.bi id) (ov::as) K)
  (hbase:autoParam (∀ env,attributeBase o name env (eval o env)=eval o env) sI)
  (hfew:autoParam (∀ env,((backTo pos (starEach args env)).all (fun x=>!x.1)&&(backToKw pos (keywordEach [] env)).all (fun x=>x.1.isSome)&&decide (args.length+([]:List Keyword).length+(if ([]:List Keyword).isEmpty then 0 else 1)<30))=true) sI)
  (hline:autoParam ((apos.endLine == pos.line)=true) sR) (hns:autoParam (∀ env,(starEach args env).any (·.1)=false) sI):Ev G ℓ sc m own (.Call (.Attribute o name apos) args [] pos) K:=fun A env X s Q E hA O F hQ=>by
 refine wpAny_Call_method_late (hbase env) (hfew env) hline rfl (h A env X s _ E hA O F fun ov av o1 s1 k S1 O1 r1=>?_)
 obtain⟨hT,hd⟩:=HasT.at O1 r1 k.1
 refine(iEEAAAAA T id MF.plain MF.slot MF.typ hT hd ?_)
 refine callWith_all (by rw[backTo_any];exact hns env) (k.2 A env X s1 pos _ E hA O1 (F.step S1) fun vs avs o2 s2 k2 S2 O2 r2=>⟨(iEA _ (.inr rfl) (Looks.of_pure rfl)),?_⟩)
 exact k2 A s2 _ _ Q E hA O2 (.bi _) (.cons (r1.step S2) r2) fun v av' o3 s3 k3 S3 O3 r3=>hQ v av' o3 s3 k3 ((S1.trans S2).trans S3) O3 r3
theorem ns_look{h:Heap}{a:Addr}{mv:Str→Option Value}(hn:h.Ns a mv):∃ o,h.get? a=some o∧∀ name,lookIn name o=some (mv name):=by
 refine uEEEAAA hn ?_;clear hn;rintro o es ep ho hd hk hm
 refine(iEA o ho (fun name=>?_))
 unfold lookIn
 rw[hd]
 dsimp only
 rw[← hm name]
 have e:nsFind es name=(es.toList.find? (·.key.isStr name)).map (·.val):=by
  unfold nsFind findBy
  rw[← Array.find?_toList]
 rw[e]
 cases es.toList.find? (·.key.isStr name) with
 |some x=>rfl
 |none=>
  have hany:es.toList.any (·.refKey)=false:=by
   rw[List.any_eq_false];intro x hx;refine uEE (hk x (by simpa using hx)) fun n t h=>?_;simp[DictEntry.refKey,h]
  rw[hany];rfl
theorem inst_at{s:Shared}{x C d:Addr}{a:MM}(O:Ok G own s.heap)(hx:own x=some (.inst C d))(hd:own d=some (.ns a)) :
  ∃ od mv,InstAt s.heap x {cls:=.ref C,dict:=some d} C (some od)∧(s.heap.Ns1 d mv∧Within mv attrNames)∧(∀ name,lookIn name od=some (mv name))∧∀ y,OW (fz own) s.heap (mv y) (a y):=by
 obtain⟨e,_⟩:=O.own x _ hx
 obtain⟨⟨mv,hn,wi,hw⟩,_⟩:=O.own d _ hd
 refine uEA (ns_look hn.ns) fun od ho hl=>?_
 exact(iEEAAA od mv ⟨e,rfl,rfl,ho⟩ ⟨hn,wi⟩ hl hw)
structure Cls (P:Params) (C:Addr):Prop where
 get:plainGet (KF P) C Str.empty=true
 dict:hasDictIn (KF P) C=true
 set:findIn (KF P) (.ref C) "__setattr__"=some (some (.builtin "object.__setattr__"))
 over:plainOver (KF P) C=true
noncomputable def noAttr(P:Params)(C:Addr)(name:Str):Prop:=findIn (KF P) (.ref C) name=some Option.none
noncomputable def AV.noBi:AV→Bool
 |.bi _=>false
 |.none=>true
 |.bool _=>true
 |.int _=>true
 |.str _=>true
 |.tup _=>true
 |.ref _=>true
 |.ty _=>true
theorem handed{P h v av}(r:VRep P h v av)(hb:av.noBi=true):handedIn v=true:=by
 cases r<;>first|rfl|exact Bool.noConfusion hb
theorem Ev.attr{o:Expr}{name:Str}{pos:Pos}(h:Ev G ℓ sc m own o fun ov o1=>∃ x C d a av,ov=.ref x∧o1 x=some (.inst C d)∧o1 d=some (.ns a)∧a name=some av∧Cls G.w.params C∧noAttr G.w.params C name∧av.noBi=true∧K av o1)
  (hbase:autoParam (∀ env,attributeBase o name env (eval o env)=eval o env) sI):Ev G ℓ sc m own (.Attribute o name pos) K:=fun A env X s Q E hA O F hQ=>by
 rw[arm_eval_Attribute,hbase]
 refine wpAny_bind (h A env X s _ E hA O F fun ov av0 o1 s1 k S1 O1 r1=>wpAny_bind (wpAny_standAt ?_))
 refine uEEEEEAAAAAAA k ?_;clear k;rintro x C d a av rfl hx hd ha hC hn hb k
 obtain rfl:=r1.i_ref
 refine uEEAAA (inst_at O1 hx hd) fun od mv I hns hl hw=>?_
 have hv:=hw name
 rw[ha] at hv
 cases e:mv name with
 |none=>rw[e] at hv;exact hv.elim
 |some v=>
  rw[e] at hv
  refine wpAny_bind (wpAny_holding (get_value O1.kin I (plainGet_of hC.get).1 (findObj_own hC.dict hn rfl ((hl name).trans (by rw[e]))) (handed hv hb) ?_))
  refine wpAny_bind (wpAny_letTemporaryGo (wpAny_pure ?_))
  exact hQ v av o1 _ k (S1.trans (Step.toks s1 _)) O1 hv
theorem Ev.imeth{o:Expr}{name:Str}{apos pos:Pos}{args:List Expr}
  (h:Ev G ℓ sc m own o fun ov o1=>∃ x C d a f,ov=.ref x∧o1 x=some (.inst C d)∧o1 d=some (.ns a)∧a name=Option.none∧Cls G.w.params C∧findIn (KF G.w.params) (.ref C) name=some (some (.ref f))∧isFn (KF G.w.params) (.ref f)=true∧keepIn (KF G.w.params) (.ref f)=true∧
   Evs G ℓ sc m o1 args fun as o2=>Cal G ℓ o2 (.ref f) (.ref x::as) K)
  (hbase:autoParam (∀ env,attributeBase o name env (eval o env)=eval o env) sI)
  (hfew:autoParam (∀ env,((backTo pos (starEach args env)).all (fun x=>!x.1)&&(backToKw pos (keywordEach [] env)).all (fun x=>x.1.isSome)&&decide (args.length+([]:List Keyword).length+(if ([]:List Keyword).isEmpty then 0 else 1)<30))=true) sI)
  (hline:autoParam ((apos.endLine == pos.line)=true) sR) (hns:autoParam (∀ env,(starEach args env).any (·.1)=false) sI):Ev G ℓ sc m own (.Call (.Attribute o name apos) args [] pos) K:=fun A env X s Q E hA O F hQ=>by
 rw[arm_eval_Call,hbase]
 refine wpAny_bind (h A env X s _ E hA O F fun ov av0 o1 s1 k S1 O1 r1=>wpAny_bind (wpAny_standAt ?_))
 refine uEEEEEAAAAAAAA k ?_;clear k;rintro x C d a f rfl hx hd ha hC hf hfn hkp k
 obtain rfl:=r1.i_ref
 refine uEEAAA (inst_at O1 hx hd) fun od mv I hn hl hw=>?_
 have hv:=hw name
 rw[ha] at hv
 have e:mv name=Option.none:=by
  cases e:mv name with
  |none=>rfl
  |some v=>rw[e] at hv;exact hv.elim
 have hform:methodCallForm (args.length+([]:List Keyword).length) (backTo pos (starEach args env)) (backToKw pos (keywordEach [] env))=true:=hfew env
 have hpos:methodCallPos true o env apos pos=pure pos:=by unfold methodCallPos;simp[hline]
 unfold methodCall
 rw[hform]
 refine wpAny_bind (wpAny_holding ?_)
 refine method_fn O1.kin I (plainGet_of hC.get).1 (plainGet_of hC.get).2 hf (beq_iff_eq.mp hfn) (by show(lookIn name od).map _=_;rw[hl,e];rfl) ?_
 rw[hpos]
 refine wpAny_bind (wpAny_pure ?_)
 refine callWith_all (by rw[backTo_any];exact hns env) (k A env X s1 pos _ E hA O1 (F.step S1) fun vs avs o2 s2 k2 S2 O2 r2=>⟨looks_keep hkp O2.kin,?_⟩)
 exact k2 A s2 _ _ Q E hA O2 (.ref _) (.cons (.ref _) r2) fun v av' o3 s3 k3 S3 O3 r3=>hQ v av' o3 s3 k3 ((S1.trans S2).trans S3) O3 r3
theorem set_attr{A:Around}{s:Shared}{E:Value→Shared→Prop}{x C d:Addr}{a:MM}{name:Str}{v:Value}{av:AV}{Q:Unit→Shared→Prop}(O:Ok G own s.heap)(hx:own x=some (.inst C d))(hd:own d=some (.ns a))(hC:Cls G.w.params C)(hn:noAttr G.w.params C name)(hat:name∈attrNames)
  (rv:VRep (fz own) s.heap v av) (h:∀ s',Step noX own (upd own d (.ns (mset a name av))) s s'→Ok G (upd own d (.ns (mset a name av))) s'.heap→Q () s'):wpAny (model G.prog G.w) A (setAttr (.ref x) name v) Q E s:=by
 refine uEEAAA (inst_at O hx hd) fun od mv I hns hl hw=>?_
 obtain⟨hns,wi⟩:=hns
 have wi':Within (fun y=>if y=name then some v else mv y) attrNames:=fun y hy=>by
  by_cases e:y=name
  ·subst e;exact hat
  ·simp only[if_neg e] at hy;exact wi y hy
 have fin:∀(h':Heap)(tk:Nat),h'.Ns1 d (fun y=>if y=name then some v else mv y)→Heap.SameBut d s.heap h'→Q () {s with heap:=h',toks:=tk}:=fun h' tk hns' hs'=>by
  have S:Step noX own (upd own d (.ns (mset a name av))) s {s with heap:=h',toks:=tk}:=Step.chg hd hs'
  have T:TK (fz own) (fz (upd own d (.ns (mset a name av)))) s.heap h':=TK.chg hd hs'
  refine h _ S (O.chg hd hs' (iEAA _ hns' wi' (fun y=>?_)) ?_)
  ·by_cases e:y=name
   ·subst e;simp only[if_true,mset_self];exact rv.mono T
   ·simp only[if_neg e,mset_ne _ _ e];exact(hw y).mono T
  ·refine uEEEA hns' ?_;clear hns';rintro o _ _ ho _;exact⟨o,ho⟩
 refine set_plain O.kin I hC.set (osa_open (s:={s with toks:=s.toks+1}) O.kin I hC.over (by unfold takerIn;rw[show findIn (KF G.w.params) (.ref C) name=some Option.none from hn];rfl) fun b=>?_)
 refine uEA (any_some hC.dict) fun cd hc hd'=>?_
 refine wpAny_bind (wpAny_pure (wpAny_bind (wpAny_bind (wpAny_loadPart I.at_ (wpAny_bind (looks_clsIn (h:=s.heap) O.kin hc _ _ _ _ (fun V V e=>e) ?_))))))
 rw[hd']
 refine wpAny_pure (a:=some d) (wpAny_bind (wpAny_pure (wpAny_bind ?_)))
 refine(wpAny_nsSet1 (s:={s with toks:=s.toks+1}) hns fun h' hns' hs'=>?_)
 refine uEEEAA (hns'.count wi') fun o' es' ep' ho' hd2 hz=>?_
 refine wpAny_bind (wpAny_lookBehind ho' (by rw[hd2];exact pastItsLine_dict (Nat.le_trans hz (by decide))) ?_)
 exact wpAny_pure (fin h' _ hns' hs')
theorem Ex.setattr{o value:Expr}{name:Str}{tpos pos:Pos}{K:AF→MM→Own→Prop}
  (h:Ev G ℓ sc m own value fun av o1=>Ev G ℓ sc m o1 o fun ov o2=>∃ x C d a,ov=.ref x∧o2 x=some (.inst C d)∧o2 d=some (.ns a)∧Cls G.w.params C∧noAttr G.w.params C name∧name∈attrNames∧K .nxt m (upd o2 d (.ns (mset a name av))))
  (hs:autoParam (∀ env,swapsWithSole [.Attribute o name tpos] value pos.line env=pure false) sI) (hw:autoParam (∀ env,swappedStores [.Attribute o name tpos] value env=pure Option.none) sI) :
  Ex G ℓ sc m own (.Assign [.Attribute o name tpos] value pos) K:=fun A env X s Q E hA O F hQ=>by
 refine wpAny_Assign_stores (h A env X s _ E hA O F fun v av o1 s1 k1 S1 O1 r1=>?_) (hs env) (hw env)
 refine wpAny_bind (wpAny_holding (k1 A env X s1 _ E hA O1 (F.step S1) fun ov av2 o2 s2 k2 S2 O2 r2=>wpAny_bind (wpAny_standAt (wpAny_bind (wpAny_holding ?_)))))
 refine uEEEEAAAAAA k2 ?_;clear k2;rintro x C d a rfl hx hd hC hn hat k
 obtain rfl:=r2.i_ref
 refine set_attr O2 hx hd hC hn hat (r1.step S2) fun s3 S3 O3=>wpAny_release ?_
 exact hQ _ .nxt _ _ s3 k ((S1.trans S2).trans S3).weak O3 (((F.step S1).step S2).step S3) trivial
theorem Cal.make{C fI:Addr}{args:List AV}(hm:makesIn (KF G.w.params) C=true)(hi:findIn (KF G.w.params) (.ref C) "__init__"=some (some (.ref fI)))(hf:typeIn (KF G.w.params) (.ref fI)=some (.type "function"))
  (h:∀ x d,own x=Option.none→own d=Option.none→x≠d→CalC G (ℓ+2) (upd (upd own d (.ns m0)) x (.inst C d)) fI (.ref x::args) fun v o1=>v=.none∧K (.ref x) o1):Cal G ℓ own (.ref C) args K:=fun A s fv vs Q E hA O rf R hQ=>by
 obtain rfl:=rf.i_ref
 obtain⟨hh,g,dr,t,os⟩:=s
 have D0:hh.get? hh.objs.size=Option.none:=get_size _
 have d0:=O.fresh D0
 have O1:Ok G (upd own hh.objs.size (.ns m0)) (hh.push emptyDict):=O.new push_ext D0 (iEAA _ (Heap.Ns1.of_empty (Heap.Ns.new hh (.type "dict"))) (fun V h=>absurd rfl h) (fun y=>trivial)) ⟨_,Heap.get?_push_size _ rfl⟩
 have D1:(hh.push emptyDict).get? (hh.objs.size+1)=Option.none:=by have:=get_size (hh.push emptyDict);rwa[Heap.size_push] at this
 have x0:own (hh.objs.size+1)=Option.none:=O.fresh (by
  cases e:hh.get? (hh.objs.size+1) with
  |none=>rfl
  |some o=>exact absurd (Heap.lt_size e) (Nat.not_lt.mpr (Nat.le_succ _)))
 have hx:((hh.push emptyDict).push (instObj C hh.objs.size)).get? (hh.objs.size+1)=some (instObj C hh.objs.size):=by heap_get
 have O2:Ok G (upd (upd own hh.objs.size (.ns m0)) (hh.objs.size+1) (.inst C hh.objs.size)) ((hh.push emptyDict).push (instObj C hh.objs.size)):=O1.new push_ext D1 hx ⟨_,hx⟩
 have S1:Step noX own (upd own hh.objs.size (.ns m0)) ⟨hh,g,dr,t,os⟩ ⟨hh.push emptyDict,g,dr,t,os⟩:=Step.new (s:=⟨hh,g,dr,t,os⟩) (tk:=t) O push_ext D0
 have S2:Step noX (upd own hh.objs.size (.ns m0)) (upd (upd own hh.objs.size (.ns m0)) (hh.objs.size+1) (.inst C hh.objs.size)) ⟨hh.push emptyDict,g,dr,t,os⟩ ⟨(hh.push emptyDict).push (instObj C hh.objs.size),g,dr,t,os⟩:=Step.new (s:=⟨hh.push emptyDict,g,dr,t,os⟩) (tk:=t) O1 push_ext D1
 have S12:=S1.trans S2
 refine wpAny_call (make_core (makes_of O.kin hm) (looks_findIn O.kin hi) (fun self=>bind_fn O.kin self hf) (.inl rfl) ?_)
 have hA':AOk (A.under (.builtin "type.__call__" ⟨.ref C::vs,[]⟩)) (ℓ+2):=by
  refine⟨hA.handled,?_,?_⟩
  ·have e:(Code.builtin "type.__call__" ⟨.ref C::vs,[]⟩).weight≤2:=by
    show(Code.builtin "type.__call__" ⟨.ref C::vs,[]⟩).frames+(if (Code.builtin "type.__call__" ⟨.ref C::vs,[]⟩).isCreation then 1 else 0)+(if (Code.builtin "type.__call__" ⟨.ref C::vs,[]⟩).isGuard then 1 else 0)+(if (Code.builtin "type.__call__" ⟨.ref C::vs,[]⟩).isCaller then claimMargin else 0)≤2
    have h1:(Code.builtin "type.__call__" ⟨.ref C::vs,[]⟩).isGuard=false:=by show guardIds.contains "type.__call__"=false;decide +kernel
    have h2:(Code.builtin "type.__call__" ⟨.ref C::vs,[]⟩).isCaller=false:=rfl
    have h3:(Code.builtin "type.__call__" ⟨.ref C::vs,[]⟩).frames=0:=by kernel_rfl
    split<;>lia
   have:=hA.depth
   show A.depth+_≤_
   lia
  ·have e:(Code.builtin "type.__call__" ⟨.ref C::vs,[]⟩).cUnits≤6:=by
    show 1+3*(Code.builtin "type.__call__" ⟨.ref C::vs,[]⟩).frames≤6
    rw[show(Code.builtin "type.__call__" ⟨.ref C::vs,[]⟩).frames=0 from by kernel_rfl];decide
   have:=hA.units
   show A.units+_≤_
   lia
 refine h (hh.objs.size+1) hh.objs.size x0 d0 (Nat.succ_ne_self _) _ _ (.ref (hh.objs.size+1)::vs) _ hA' O2 (.cons (.ref _) (R.step S12)) fun v av o3 s3 k3 S3 O3 r3=>?_
 obtain⟨rfl,k⟩:=k3
 obtain rfl:=r3.i_none
 exact⟨rfl,hQ _ _ o3 s3 k (S12.trans S3) O3 (.ref _)⟩
end
section
variable{G:GC}{ℓ:Nat}{sc:Names}{m:MM}{own:Own}{K:AV→Own→Prop}
noncomputable def Sb(G:GC)(ℓ:Nat)(own:Own)(a i:AV)(K:AV→Own→Prop):Prop:=
 ∃ T id,typeLookup (.type T) "__getitem__"=pure (some (.builtin id))∧(∀(s:Shared) v,Ok G own s.heap→VRep (fz own) s.heap v a→s.TypeIs v T)∧Op G ℓ own (op2 getItem) [a,i] K
theorem Ev.item{value slice:Expr}{pos:Pos}(h:Ev G ℓ sc m own value fun a o1=>Ev G ℓ sc m o1 slice fun i o2=>Sb G ℓ o2 a i K)
  (hs:autoParam (∀ o i,subscripted slice false o i=operate [o,i] (getItem o i)) sI):Ev G ℓ sc m own (.Subscript value slice pos) K:=fun A env X s Q E hA O F hQ=>by
 rw[arm_eval_Subscript]
 refine wpAny_bind (h A env X s _ E hA O F fun va a o1 s1 k1 S1 O1 r1=>wpAny_bind (wpAny_holding (k1 A env X s1 _ E hA O1 (F.step S1) fun vi i o2 s2 k2 S2 O2 r2=>wpAny_bind (wpAny_standAt ?_))))
 refine uEEAA k2 ?_;clear k2;rintro T id hl hT hop
 have hT':=hT s2 va O2 (r1.step S2)
 refine wpAny_bind ?_
 rw[getitemInPython_of_ne hT'.not_modules]
 refine wpAny_bind (wpAny_specialOf hT' hl ?_)
 refine wpAny_pure (wpAny_bind ?_)
 rw[hs]
 refine wpAny_operating (hop A s2 [va,vi] _ E hA O2 (.cons (r1.step S2) (.cons r2 .nil)) fun v av o3 s3 k3 S3 O3 r3=>?_)
 exact wpAny_bind (wpAny_letTemporaryGo (wpAny_pure (hQ v av o3 s3 k3 ((S1.trans S2).trans S3) O3 r3)))
theorem Op.pure1{f:List Value→Sem Value}{a b:AV}{av:AV}(h:K av own)
  (hf:∀(A:Around)(s:Shared)(va vb:Value)(Q E:Value→Shared→Prop),AOk A ℓ→Ok G own s.heap→VRep (fz own) s.heap va a→VRep (fz own) s.heap vb b→(∀ v tk,VRep (fz own) s.heap v av→Q v {s with toks:=tk})→wpAny (model G.prog G.w) A (f [va,vb]) Q E s):Op G ℓ own f [a,b] K:=
 fun A s vs Q E hA O R hQ=>by
  refine uEEAA R.two ?_;rintro va vb rfl ra rb
  exact hf A s va vb Q E hA O ra rb fun v tk r=>hQ v av own _ h (Step.toks s tk) O r
theorem Sb.tup{l:List AV}{i:Int}{k:Nat}{d:AV}(hk:seqIndex? i l.length=some k)(hd:l[k]?=some d)(hi:-2 ^ 63≤i∧i<2 ^ 63)(h:K d own):Sb G ℓ own (.tup l) (.int i) K:=
 (iEEAA ("tuple") _ F.slot_tuple_getitem.lookup (fun s v O r=>by cases r with|tup p e _=>exact(iEA _ e rfl)) (Op.pure1 h fun A s va vb Q E hA O ra rb hQ=>by
  obtain⟨_,rfl⟩:=rb.i_int
  cases ra with
  |tup p e r=>
  refine uEA (r.get hd) fun v hv rv=>?_
  have hlen:=r.length
  rw[Array.length_toList] at hlen
  exact P.getItem_tuple e hi.1 hi.2 (by rw[hlen];exact hk) (by simpa using hv) (hQ v s.toks rv)))
theorem Sb.list{a:Addr}{l:List AV}{k:Nat}{d:AV}(ha:own a=some (.list l))(hd:l[k]?=some d)(hi:(k:Int)<2 ^ 63)(h:K d own):Sb G ℓ own (.ref a) (.int k) K:=
 (iEEAA ("list") _ F.slot_list_getitem.lookup (fun s v O r=>by obtain rfl:=r.i_ref;obtain⟨⟨it,n,e,_⟩,_⟩:=O.own a _ ha;exact(iEA _ e rfl)) (Op.pure1 h fun A s va vb Q E hA O ra rb hQ=>by
  obtain⟨_,rfl⟩:=rb.i_int
  obtain rfl:=ra.i_ref
  obtain⟨⟨it,n,e,r⟩,_⟩:=O.own a _ ha
  refine uEA (r.get hd) fun v hv rv=>?_
  exact wpAny_getItem_list (iEAAE _ e rfl n rfl) (by lia) hi (by simpa using hv) (hQ v s.toks rv)))
noncomputable def avPick(lo hi:Option Int)(l:List AV):List AV:=(l.drop (lo.elim 0 (clipAt l.length))).take (hi.elim l.length (clipAt l.length)-lo.elim 0 (clipAt l.length))
theorem avPick_upto(n:Nat)(l:List AV):avPick Option.none (some (n:Int)) l=l.take n:=by
 simp only[avPick,Option.elim,clipAt_nat,List.drop_zero,Nat.sub_zero]
 rcases Nat.le_total n l.length with h|h
 ·rw[Nat.min_eq_left h]
 ·rw[Nat.min_eq_right h,List.take_of_length_le (by simp),List.take_of_length_le h]
theorem avPick_le(lo hi:Option Int)(l:List AV):(avPick lo hi l).length≤l.length:=by
 unfold avPick;rw[List.length_take,List.length_drop];exact Nat.le_trans (Nat.min_le_right _ _) (Nat.sub_le _ _)
noncomputable def PartE(G:GC)(ℓ:Nat)(sc:Names)(m:MM)(own:Own)(e:Option Expr)(K:Option Int→Own→Prop):Prop:=match e with
 |Option.none=>K Option.none own
 |some e=>Ev G ℓ sc m own e fun av o1=>∃ i,av=.int i∧K (some i) o1
theorem PartE.run{A:Around}{env:Env}{X:Addr→Prop}{s:Shared}{e:Option Expr}{Kp:Option Int→Own→Prop}{Q E:Value→Shared→Prop}(h:PartE G ℓ sc m own e Kp)(hA:AOk A ℓ)(O:Ok G own s.heap)(F:Frm G sc env X m own s.heap)
  (hQ:∀ v p o1 s1,IsPart v p→Kp p o1→Step noX own o1 s s1→Ok G o1 s1.heap→Q v s1):wpAny (model G.prog G.w) A (evalPart e env) Q E s:=by
 cases e with
 |none=>rw[evalPart_none];exact wpAny_pure (hQ _ _ own s .none h (Step.refl s) O)
 |some e=>
  rw[evalPart_some]
  refine h A env X s Q E hA O F fun v av o1 s1 k S1 O1 r1=>?_
  refine uEA k ?_;clear k;rintro i rfl k
  obtain⟨_,rfl⟩:=r1.i_int
  exact hQ _ _ o1 s1 (.int _ _) k S1 O1
noncomputable def Sl(G:GC)(ℓ:Nat)(own:Own)(a:AV)(lo hi:Option Int)(K:AV→Own→Prop):Prop:=
 ∃ T id,typeLookup (.type T) "__getitem__"=pure (some (.builtin id))∧(∀(s:Shared) v,Ok G own s.heap→VRep (fz own) s.heap v a→s.TypeIs v T)∧
  ∀(A:Around)(s:Shared)(v vl vu:Value)(sl:Addr)(Q E:Value→Shared→Prop),AOk A ℓ→Ok G own s.heap→VRep (fz own) s.heap v a→s.heap.IsSliceOf sl vl vu .none→IsPart vl lo→IsPart vu hi→
   (∀ v av own' s',K av own'→Step noX own own' s s'→Ok G own' s'.heap→VRep (fz own') s'.heap v av→Q v s')→wpAny (model G.prog G.w) A (getItem v (.ref sl)) Q E s
theorem Ev.slice{value:Expr}{lower upper:Option Expr}{p pos:Pos}(h:Ev G ℓ sc m own value fun a o1=>PartE G ℓ sc m o1 lower fun lo o2=>PartE G ℓ sc m o2 upper fun hi o3=>Sl G ℓ o3 a lo hi K) :
  Ev G ℓ sc m own (.Subscript value (.Slice lower upper Option.none p) pos) K:=fun A env X s Q E hA O F hQ=>by
 rw[arm_eval_Subscript]
 refine wpAny_bind (h A env X s _ E hA O F fun va a o1 s1 k1 S1 O1 r1=>wpAny_bind (wpAny_holding ?_))
 refine wpAny_Slice (PartE.run k1 hA O1 (F.step S1) fun vl lo o2 s2 pl k2 S2 O2=>PartE.run k2 hA O2 ((F.step S1).step S2) fun vu hi o3 s3 pu k3 S3 O3=>?_)
 rw[evalPart_none]
 refine wpAny_pure (wpAny_bind (wpAny_standAt ?_))
 refine uEEAA k3 ?_;clear k3;rintro T id hl hT hop
 have r3:=(r1.step S2).step S3
 have S4:Step noX o3 o3 s3 {s3 with heap:=s3.heap.push {cls:=.type "slice",data:=.fields #[vl,vu,.none]}}:=⟨(iEE _ s3.toks rfl),fun b o e p V=>⟨push_ext b o e,p⟩⟩
 have O4:Ok G o3 (s3.heap.push {cls:=.type "slice",data:=.fields #[vl,vu,.none]}):=O3.ext push_ext
 have r4:=r3.step S4
 have hT':=hT _ va O4 r4
 refine wpAny_bind ?_
 rw[getitemInPython_of_ne hT'.not_modules]
 refine wpAny_bind (wpAny_specialOf hT' hl ?_)
 refine wpAny_pure (wpAny_bind ?_)
 refine wpAny_operating (hop A _ va vl vu _ _ E hA O4 r4 (Heap.IsSliceOf.new ..) pl pu fun v av o5 s5 k5 S5 O5 r5=>?_)
 exact wpAny_bind (wpAny_letTemporaryGo (wpAny_pure (hQ v av o5 s5 k5 ((((S1.trans S2).trans S3).trans S4).trans S5) O5 r5)))
theorem Sl.list{a:Addr}{l:List AV}{lo hi:Option Int}(ha:own a=some (.list l))(hsz:l.length≤sizeLine)(h:∀ b,own b=Option.none→K (.ref b) (upd own b (.list (avPick lo hi l)))):Sl G ℓ own (.ref a) lo hi K:=
 (iEEAA ("list") _ F.slot_list_getitem.lookup (fun s v O r=>by obtain rfl:=r.i_ref;obtain⟨⟨it,n,e,_⟩,_⟩:=O.own a _ ha;exact(iEA _ e rfl)) (fun A s v vl vu sl Q E hA O r hs pl pu hQ=>by
  obtain rfl:=r.i_ref
  obtain⟨⟨it,n,e,r⟩,_⟩:=O.own a _ ha
  have hlen:=r.length
  rw[Array.length_toList] at hlen
  refine wpAny_getItem_list_slice (st:=Option.none) (iEAAE _ e rfl n rfl) hs pl pu .none (by decide) ?_ (by lia)
  have rp:VReps (fz own) s.heap (slicePick it lo hi Option.none).toList (avPick lo hi l):=by
   rw[slicePick_plain,List.toList_toArray,avPick,hlen]
   exact(r.drop _).take _
  refine uAA (list_new O rp) fun h0 S2 O2=>?_
  exact hQ _ _ _ _ (h _ h0) S2 O2 (.ref _)))
theorem slicePart_is{A:Around}{E:Value→Shared→Prop}{s:Shared}{v:Value}{k:Option Int}{Q:Option Int→Shared→Prop}(hv:IsPart v k)(h:Q k s):wpAny (model G.prog G.w) A (Builtin.Slice.slicePartIndex v) Q E s:=by
 cases hv with
 |none=>exact slicePart_none h
 |int i t=>exact slicePart_int h
theorem tup_pick(xs:Array Value)(lo n:Nat):((List.range n).filterMap fun(k:Nat)=>xs[((lo:Int)+(k:Int)*1).toNat]?)=(xs.toList.drop lo).take n:=by
 have e:(fun(k:Nat)=>xs[((lo:Int)+(k:Int)*1).toNat]?)=fun k=>xs[lo+k]?:=by
  funext k
  have:((lo:Int)+(k:Int)*1).toNat=lo+k:=by lia
  rw[this]
 rw[e]
 have:=pick_run xs lo n
 rw[List.filterMap_map] at this
 exact this
set_option tactic.hygienic true in
theorem clip_is(n:Nat)(v:Int):(if v<0 then max (v+n) 0 else min v n)=((clipAt n v:Nat):Int):=by
 rw[clipAt_cast]
 split
 ·next h=>rw[Int.min_eq_left (Int.le_trans (Int.add_le_add_right (Int.le_of_lt h) n) (Int.le_of_eq (Int.zero_add _))),Int.max_comm]
 ·next h=>exact(Int.max_eq_right (Int.le_min.mpr ⟨Int.not_lt.mp h,Int.natCast_nonneg n⟩)).symm
theorem adjust_clip(lo hi:Option Int)(n:Nat):Builtin.Slice.sliceAdjust lo hi 1 n=(((lo.elim 0 (clipAt n):Nat):Int),((hi.elim n (clipAt n):Nat):Int)):=by
 cases lo<;>cases hi
 ·rfl
 ·exact Prod.ext rfl (clip_is _ _)
 ·exact Prod.ext (clip_is _ _) rfl
 ·exact Prod.ext (clip_is _ _) (clip_is _ _)
theorem places_clip(a b:Nat):Builtin.Slice.slicePlaces (a:Int) (b:Int) 1=b-a:=by
 show(if (a:Int)<b then((b:Int)-a-1) / 1+1 else 0).toNat=_
 by_cases h:a<b
 ·rw[if_pos (Int.ofNat_lt.mpr h),Int.ediv_one,Int.sub_add_cancel];exact Int.toNat_sub b a
 ·rw[if_neg (mt Int.ofNat_lt.mp h),Nat.sub_eq_zero_of_le (Nat.le_of_not_lt h)];rfl
theorem sliceApplied_any{A:Around}{E:Value→Shared→Prop}{s:Shared}{sl:Addr}{vl vu:Value}{lo hi:Option Int}{n:Nat}{Q:Int × Int × Nat→Shared→Prop}(hs:s.heap.IsSliceOf sl vl vu .none)(pl:IsPart vl lo)(pu:IsPart vu hi)
  (h:Q (((lo.elim 0 (clipAt n):Nat):Int),1,hi.elim n (clipAt n)-lo.elim 0 (clipAt n)) s):wpAny (model G.prog G.w) A (Builtin.Slice.sliceApplied (.ref sl) (pure (n:Int))) Q E s:=by
 refine uEAA (id hs) fun os hos hcs hds=>?_
 refine wpAny_bind (wpAny_bind (wpAny_field hos hds (x:=vl) rfl (wpAny_bind (wpAny_field hos hds (x:=vu) rfl (wpAny_bind (wpAny_field hos hds (x:=.none) rfl (wpAny_pure ?_)))))))
 refine wpAny_bind (slicePart_none ?_)
 refine wpAny_bind (slicePart_is pl (wpAny_bind (slicePart_is pu (wpAny_bind (wpAny_pure ?_)))))
 show wpAny _ _ (match Builtin.Slice.sliceAdjust lo hi 1 (n:Int) with|(lo,hi)=>pure (lo,(1:Int),Builtin.Slice.slicePlaces lo hi 1)) _ _ s
 rw[adjust_clip]
 dsimp only
 rw[places_clip]
 exact wpAny_pure h
theorem Sl.tup{l:List AV}{lo hi:Option Int}(hsz:l.length≤sizeLine)(h:K (.tup (avPick lo hi l)) own):Sl G ℓ own (.tup l) lo hi K:=
 (iEEAA ("tuple") _ F.slot_tuple_getitem.lookup (fun s v O r=>by cases r with|tup p e _=>exact(iEA _ e rfl)) (fun A s v vl vu sl Q E hA O r hs pl pu hQ=>by
  have r0:=r
  cases r with
  |@tup t items n _ p e r=>
  have hlen:=r.length
  rw[Array.length_toList] at hlen
  refine uEAA (id hs) fun os hos hcs hds=>?_
  have hTs:s.TypeIs (.ref sl) "slice":=(iEA os hos hcs)
  have ht:IsTup s.heap t items:=(iEAAE _ e rfl n rfl)
  have rp:VReps (fz own) s.heap ((items.toList.drop (lo.elim 0 (clipAt items.size))).take (hi.elim items.size (clipAt items.size)-lo.elim 0 (clipAt items.size))) (avPick lo hi l):=by
   rw[avPick,hlen]
   exact(r.drop _).take _
  unfold getItem
  try with_reducible refine wpAny_holding ?_
  first|refine wpAny_bind (wpAny_pure ?_)|skip
  refine wpAny_bind (wpAny_sequenceKey ht.typeIs (by decide) ?_)
  refine wpAny_bind (wpAny_callSpecial?_slot (name:=Str.ofString "__getitem__") ht.typeIs F.slot_tuple_getitem
   (wpAny_call_entry F.slot_tuple_getitem ht.typeIs F.entry_tuple_getitem ?_ (F.args_tuple_getitem_2 _ _)))
  show wpAny _ _ (Builtin.Tuple.tupleItemsOf (.ref t)>>=_) _ _ s
  refine wpAny_bind (wpAny_tupleItemsOf e rfl ?_)
  refine wpAny_bind (wpAny_typeOf hTs ?_)
  rw[if_pos (by decide)]
  refine wpAny_bind (sliceApplied_any hs pl pu ?_)
  show wpAny _ _ (if ((((lo.elim 0 (clipAt items.size):Nat):Int)) == 0&&(1:Int) == 1&&(hi.elim items.size (clipAt items.size)-lo.elim 0 (clipAt items.size)) == items.size)=true then _ else _) _ _ s
  by_cases hw:((((lo.elim 0 (clipAt items.size):Nat):Int)) == 0&&(1:Int) == 1&&(hi.elim items.size (clipAt items.size)-lo.elim 0 (clipAt items.size)) == items.size)=true
  ·rw[if_pos hw]
   simp only[Bool.and_eq_true,beq_iff_eq] at hw
   have h1:lo.elim 0 (clipAt items.size)=0:=by have:=hw.1.1;lia
   have hall:avPick lo hi l=l:=by
    unfold avPick
    rw[← hlen,h1,List.drop_zero]
    refine List.take_of_length_le ?_
    have:=hw.2;rw[h1] at this;lia
   rw[hall] at h
   refine wpAny_bind ?_
   show wpAny _ _ (Builtin.Tuple.tupleIsExact (.ref t)) _ _ s
   refine wpAny_bind (wpAny_typeOf ht.typeIs (wpAny_pure ?_))
   rw[if_pos (by decide)]
   exact wpAny_bind (wpAny_rule (wpAny_pure (iEA _ rfl (wpAny_pure (hQ _ _ own s h (Step.refl s) O r0)))))
  ·rw[if_neg hw]
   rw[tup_pick]
   refine uAA (tup_new O rp) fun S2 O2 r2=>?_
   refine wpAny_bind (m:=Builtin.Tuple.tupleExact _) (wpAny_newObj_type (wpAny_pure (iEA _ rfl (wpAny_pure (hQ _ _ own _ h S2 O2 r2)))) ?_)
   show(List.toArray _).size≤sizeLine
   rw[List.size_toArray,rp.length]
   exact Nat.le_trans (avPick_le _ _ _) hsz))
end
noncomputable def aAt{κ:Type}[DecidableEq κ](es:List (κ × AV))(k:κ):Option AV:=(es.find? fun e=>decide (e.1=k)).map (·.2)
noncomputable def aPut{κ:Type}[DecidableEq κ](es:List (κ × AV))(k:κ)(v:AV):List (κ × AV):=if (aAt es k).isSome then es.map (fun e=>if e.1=k then(e.1,v) else e) else es++[(k,v)]
theorem aAt_nil{κ:Type}[DecidableEq κ](k:κ):aAt ([]:List (κ × AV)) k=Option.none:=rfl
theorem aAt_cons{κ:Type}[DecidableEq κ](e:κ × AV)(es:List (κ × AV))(k:κ):aAt (e::es) k=if e.1=k then some e.2 else aAt es k:=by
 unfold aAt
 by_cases h:e.1=k<;>simp[h]
set_option tactic.hygienic true in
theorem aAt_mem{κ:Type}[DecidableEq κ]{es:List (κ × AV)}{k:κ}{v:AV}(h:aAt es k=some v):(k,v)∈es:=by
 induction es with
 |nil=>cases h
 |cons e es ih=>
  rw[aAt_cons] at h
  split at h
  ·cases h;rename_i hk;subst hk;exact List.mem_cons_self
  ·exact List.mem_cons_of_mem _ (ih h)
theorem aAt_app{κ:Type}[DecidableEq κ](es fs:List (κ × AV))(k:κ):aAt (es++fs) k=(aAt es k).or (aAt fs k):=by
 induction es with
 |nil=>rfl
 |cons e es ih=>
  rw[List.cons_append,aAt_cons,aAt_cons,ih]
  split<;>rfl
theorem aAt_upd{κ:Type}[DecidableEq κ](es:List (κ × AV))(k k':κ)(v:AV):aAt (es.map fun e=>if e.1=k then(e.1,v) else e) k'=if k'=k then(aAt es k).map (fun V=>v) else aAt es k':=by
 induction es with
 |nil=>rw[List.map_nil,aAt_nil,aAt_nil];split<;>rfl
 |cons e es ih=>
  rw[List.map_cons,aAt_cons,aAt_cons,aAt_cons,ih]
  by_cases h:e.1=k
  ·by_cases hk:k'=k
   ·subst hk;simp[h]
   ·have:¬ k=k':=fun q=>hk q.symm
    simp[h,hk,this]
  ·by_cases hk:k'=k
   ·subst hk;simp[h]
   ·simp[h,hk]
theorem aAt_put{κ:Type}[DecidableEq κ](es:List (κ × AV))(k k':κ)(v:AV):aAt (aPut es k v) k'=if k'=k then some v else aAt es k':=by
 unfold aPut
 cases h:aAt es k with
 |some u=>simp only[Option.isSome_some,if_true];rw[aAt_upd,h];rfl
 |none=>
  simp only[Option.isSome_none,Bool.false_eq_true,if_false]
  rw[aAt_app,aAt_cons,aAt_nil]
  by_cases hk:k'=k
  ·subst hk;rw[h];simp
  ·have:¬ k=k':=fun q=>hk q.symm
   simp[hk,this]
section
variable{κ:Type}[DecidableEq κ]{P:Addr→Prop}{h:Heap}
theorem rep_ind{C:List (κ × Value)→List (κ × AV)→Prop}(h0:C [] [])(h1:∀ a v d kvs es,VRep P h v d→C kvs es→C ((a,v)::kvs) ((a,d)::es)):∀(kvs:List (κ × Value)) (es:List (κ × AV)),kvs.map (·.1)=es.map (·.1)→VReps P h (kvs.map (·.2)) (es.map (·.2))→C kvs es:=by
 intro kvs
 induction kvs with
 |nil=>
  intro es e r
  cases es with
  |nil=>exact h0
  |cons q es=>exact(List.cons_ne_nil _ _ e.symm).elim
 |cons p kvs ih=>
  intro es e r
  cases es with
  |nil=>exact(List.cons_ne_nil _ _ e).elim
  |cons q es=>
   obtain⟨a,v⟩:=p
   obtain⟨b,d⟩:=q
   obtain rfl:a=b:=(List.cons.inj e).1
   cases r with
   |cons r rs=>exact h1 _ _ _ _ _ r (ih es (List.cons.inj e).2 rs)
theorem valueAt_rep{kvs:List (κ × Value)}{es:List (κ × AV)}{k:κ}(e:kvs.map (·.1)=es.map (·.1))(r:VReps P h (kvs.map (·.2)) (es.map (·.2))):OW P h (valueAt kvs k) (aAt es k):=
 rep_ind (C:=fun kvs es=>OW P h (valueAt kvs k) (aAt es k)) trivial (fun a v d kvs es r ih=>by
  rw[aAt_cons]
  by_cases hk:a=k
  ·rw[if_pos hk,show valueAt ((a,v)::kvs) k=some v from congrArg (Option.map Prod.snd) (List.find?_cons_of_pos (p:=fun kv:κ × Value=>decide (kv.1=k)) (decide_eq_true hk))];exact r
  ·rw[if_neg hk,show valueAt ((a,v)::kvs) k=valueAt kvs k from congrArg (Option.map Prod.snd) (List.find?_cons_of_neg (p:=fun kv:κ × Value=>decide (kv.1=k)) fun q=>hk (of_decide_eq_true q))];exact ih) kvs es e r
theorem ow_eq{a:Option Value}{b:Option AV}(h:OW P h a b):a.isSome=b.isSome:=by
 cases a<;>cases b<;>first|rfl|exact h.elim
theorem valueAt_eq{kvs:List (κ × Value)}{es:List (κ × AV)}{k:κ}(e:kvs.map (·.1)=es.map (·.1))(r:VReps P h (kvs.map (·.2)) (es.map (·.2))):(valueAt kvs k).isSome=(aAt es k).isSome:=ow_eq (valueAt_rep e r)
theorem fst_upd{α:Type}(l:List (κ × α))(k:κ)(v:α):(l.map fun kv=>if kv.1=k then(kv.1,v) else kv).map (·.1)=l.map (·.1):=by
 rw[List.map_map]
 exact List.map_congr_left fun x _=>by show(if _ then _ else _:κ × α).1=_;split<;>rfl
theorem stored_rep{kvs:List (κ × Value)}{es:List (κ × AV)}{k:κ}{v:Value}{d:AV}(e:kvs.map (·.1)=es.map (·.1))(r:VReps P h (kvs.map (·.2)) (es.map (·.2)))(rv:VRep P h v d) :
  (stored kvs k v).map (·.1)=(aPut es k d).map (·.1)∧VReps P h ((stored kvs k v).map (·.2)) ((aPut es k d).map (·.2)):=by
 unfold stored aPut
 rw[← valueAt_isSome_eq_any,valueAt_eq e r]
 split
 ·refine⟨(fst_upd kvs k v).trans (e.trans (fst_upd es k d).symm),rep_ind (C:=fun(kvs:List (κ × Value)) (es:List (κ × AV))=>VReps P h ((kvs.map fun kv:κ × Value=>if kv.1=k then(kv.1,v) else kv).map fun x:κ × Value=>x.2) ((es.map fun e:κ × AV=>if e.1=k then(e.1,d) else e).map fun x:κ × AV=>x.2)) .nil (fun a w f kvs es r ih=>.cons ?_ ih) kvs es e r⟩
  show VRep P h (if a=k then(a,v) else(a,w)).2 (if a=k then(a,d) else(a,f)).2
  split
  ·exact rv
  ·exact r
 ·rw[List.map_append,List.map_append,List.map_append,List.map_append,e]
  exact⟨rfl,r.append (.cons rv .nil)⟩
theorem aPut_len{es:List (κ × AV)}{k:κ}{d:AV}:(aPut es k d).length≤es.length+1:=by unfold aPut;split<;>simp
theorem kvs_keys(xs:List (κ × Addr × Value)):(kvsOf xs).map (·.1)=xs.map (·.1):=List.map_map
theorem kvs_vals(xs:List (κ × Addr × Value)):(kvsOf xs).map (·.2)=xs.map (·.2.2):=List.map_map
theorem atKey_rep{xs:List (κ × Addr × Value)}{es:List (κ × AV)}{k:κ}(e:xs.map (·.1)=es.map (·.1))(r:VReps P h (xs.map (·.2.2)) (es.map (·.2))):OW P h ((atKey xs k).map (·.2)) (aAt es k):=by
 rw[← valueAt_kvsOf];rw[← kvs_vals] at r;exact valueAt_rep ((kvs_keys xs).trans e) r
theorem atKey_eq{xs:List (κ × Addr × Value)}{es:List (κ × AV)}{k:κ}(e:xs.map (·.1)=es.map (·.1))(r:VReps P h (xs.map (·.2.2)) (es.map (·.2))):(atKey xs k).isSome=(aAt es k).isSome:=by
 have:=ow_eq (atKey_rep (k:=k) e r)
 rwa[Option.isSome_map] at this
end
theorem storedH_rep{P:Addr→Prop}{h:Heap}{xs:List (AV × Addr × Value)}{es:List (AV × AV)}{k:AV}{a:Addr}{v:Value}{d:AV}(e:xs.map (·.1)=es.map (·.1))(r:VReps P h (xs.map (·.2.2)) (es.map (·.2)))
  (r2:VReps P h (xs.map fun x=>.ref x.2.1) (es.map (·.1))) (rv:VRep P h v d) (rk:VRep P h (.ref a) k) :
  (storedH xs k a v).map (·.1)=(aPut es k d).map (·.1)∧VReps P h ((storedH xs k a v).map (·.2.2)) ((aPut es k d).map (·.2))∧VReps P h ((storedH xs k a v).map fun x=>.ref x.2.1) ((aPut es k d).map (·.1)):=by
 have q:=stored_rep (k:=k) (d:=d) ((kvs_keys xs).trans e) (by rw[kvs_vals];exact r) rv
 rw[← kvsOf_storedH xs k a v,kvs_keys,kvs_vals] at q
 refine⟨q.1,q.2,?_⟩
 unfold storedH aPut
 rw[atKey_eq e r]
 split
 ·rw[fst_upd,List.map_map,show(xs.map _:List Value)=xs.map fun x=>.ref x.2.1 from List.map_congr_left fun x _=>by show Value.ref (if _ then _ else _:AV × Addr × Value).2.1=_;split<;>rfl]
  exact r2
 ·rw[List.map_append,List.map_append]
  exact r2.append (.cons rk .nil)
theorem tk_room{G:GC}{A:Around}{ℓ:Nat}(hA:AOk A ℓ)(hl:ℓ≤1000):(tk G.prog G.w).room A.in1:=by
 have:=hA.room hl
 show A.units+1+16<cLine
 lia
theorem tk_is{G:GC}{P:Addr→Prop}{h:Heap}{a:Addr}{k:AV}(r:VRep P h (.ref a) k)(hk:tkOk k):(tk G.prog G.w).is h k a:=⟨hk,r.loose⟩
section
variable{G:GC}{ℓ:Nat}{sc:Names}{m:MM}{own:Own}{K:AV→Own→Prop}
theorem ow_some{P:Addr→Prop}{h:Heap}{v:Option Value}{d:AV}(r:OW P h v (some d)):∃ w,v=some w∧VRep P h w d:=by
 cases v with
 |none=>exact r.elim
 |some w=>exact(iEA w rfl r)
theorem Sb.dS{a:Addr}{es:List (Str × AV)}{k:Str}{d:AV}(ha:own a=some (.dS es))(hd:aAt es k=some d)(h:K d own):Sb G ℓ own (.ref a) (.str k) K:=
 (iEEAA ("dict") _ F.slot_dict_getitem.lookup (fun s v O r=>by obtain rfl:=r.i_ref;obtain⟨⟨_,kvs,⟨o,es,ep,e,c,_⟩,_⟩,_⟩:=O.own a _ ha;exact(iEA _ e c.1)) (Op.pure1 h fun A s va vb Q E hA O ra rb hQ=>by
  obtain⟨_,rfl⟩:=rb.i_str
  obtain rfl:=ra.i_ref
  obtain⟨⟨_,kvs,D,e,r⟩,_⟩:=O.own a _ ha
  have:=valueAt_rep (k:=k) e r
  rw[hd] at this
  refine uEA (ow_some this) fun v hv rv=>?_
  refine wpAny_getItem_of (knd:=strKind G.prog G.w) (k:=k) ?_ D.mapOf hv (hQ v _ rv)
  simp[PySem.strKind,Value.isStrOf]))
theorem Sb.dI{a:Addr}{es:List (Int × AV)}{k:Int}{d:AV}(ha:own a=some (.dI es))(hd:aAt es k=some d)(h:K d own):Sb G ℓ own (.ref a) (.int k) K:=
 (iEEAA ("dict") _ F.slot_dict_getitem.lookup (fun s v O r=>by obtain rfl:=r.i_ref;obtain⟨⟨_,kvs,⟨o,es,ep,e,c,_⟩,_⟩,_⟩:=O.own a _ ha;exact(iEA _ e c.1)) (Op.pure1 h fun A s va vb Q E hA O ra rb hQ=>by
  obtain⟨_,rfl⟩:=rb.i_int
  obtain rfl:=ra.i_ref
  obtain⟨⟨_,kvs,D,e,r⟩,_⟩:=O.own a _ ha
  have:=valueAt_rep (k:=k) e r
  rw[hd] at this
  refine uEA (ow_some this) fun v hv rv=>?_
  refine wpAny_getItem_of (knd:=intKind G.prog G.w) (k:=k) ?_ D.mapOf hv (hQ v _ rv)
  simp[PySem.intKind,Value.isInt]))
theorem VRep.refOf{P:Addr→Prop}{h:Heap}{v:Value}{l:List AV}(r:VRep P h v (.tup l)):∃ a,v=.ref a:=by cases r;exact⟨_,rfl⟩
theorem Sb.dT{a:Addr}{es:List (AV × AV)}{l:List AV}{d:AV}(hl:ℓ≤1000)(ha:own a=some (.dT es))(hk:tkOk (.tup l))(hd:aAt es (.tup l)=some d)(h:K d own):Sb G ℓ own (.ref a) (.tup l) K:=
 (iEEAA ("dict") _ F.slot_dict_getitem.lookup (fun s v O r=>by obtain rfl:=r.i_ref;obtain⟨⟨_,kvs,⟨o,es,ep,e,c,_⟩,_⟩,_⟩:=O.own a _ ha;exact(iEA _ e c.1)) (Op.pure1 h fun A s va vb Q E hA O ra rb hQ=>by
  obtain⟨b,rfl⟩:=rb.refOf
  obtain rfl:=ra.i_ref
  obtain⟨⟨_,xs,D,e,r,_⟩,_⟩:=O.own a _ ha
  have:=atKey_rep (k:=.tup l) e r
  rw[hd] at this
  refine uEA (ow_some this) fun v hv rv=>?_
  refine uEA (Option.map_eq_some_iff.mp hv) ?_;rintro p hp rfl
  exact wpAny_getItem_heap (tk_room hA hl) (tk_is rb hk) D hp (hQ _ _ rv)))
theorem Op.inS{a:Addr}{es:List (Str × AV)}{k:Str}(ha:own a=some (.dS es))(h:K (.bool (aAt es k).isSome) own):Op G ℓ own (op2 (compareOp .In)) [.str k,.ref a] K:=
 Op.pure1 h fun A s va vb Q E hA O ra rb hQ=>by
  obtain⟨_,rfl⟩:=ra.i_str
  obtain rfl:=rb.i_ref
  obtain⟨⟨lo,kvs,D,e,r⟩,_⟩:=O.own a _ ha
  refine wpAny_in_of (knd:=strKind G.prog G.w) (k:=k) (by simp[PySem.strKind,Value.isStrOf]) lo D.mapOf ?_
  rw[valueAt_eq e r]
  exact hQ _ _ (.bool _)
theorem Op.inT{a:Addr}{es:List (AV × AV)}{l:List AV}(hl:ℓ≤1000)(ha:own a=some (.dT es))(hk:tkOk (.tup l))(h:K (.bool (aAt es (.tup l)).isSome) own):Op G ℓ own (op2 (compareOp .In)) [.tup l,.ref a] K:=
 Op.pure1 h fun A s va vb Q E hA O ra rb hQ=>by
  obtain⟨b,rfl⟩:=ra.refOf
  obtain rfl:=rb.i_ref
  obtain⟨⟨lo,xs,D,e,r,_⟩,_⟩:=O.own a _ ha
  refine wpAny_in_heap (tk_room hA hl) (tk_is ra hk) lo D ?_
  rw[atKey_eq e r]
  exact hQ _ _ (.bool _)
theorem Op.notIn{x y:AV}(h:Op G ℓ own (op2 (compareOp .In)) [x,y] fun v o=>∃ b,v=.bool b∧K (.bool !b) o):Op G ℓ own (op2 (compareOp .NotIn)) [x,y] K:=fun A s vs Q E hA O R hQ=>by
 show wpAny _ A (do return .bool (!(← contains (vs.getD 1 .none) (vs.getD 0 .none)))) Q E s
 have:=h A s vs (fun v s'=>∃ b,v=.bool b∧Q (.bool !b) s') E hA O R fun v av o1 s1 k S1 O1 r1=>by
  refine uEA k ?_;clear k;rintro b rfl k
  obtain rfl:=r1.i_bool
  exact(iEA b rfl (hQ _ _ o1 s1 k S1 O1 (.bool _)))
 have h2:wpAny (model G.prog G.w) A (contains (vs.getD 1 .none) (vs.getD 0 .none)>>=fun b=>pure (Value.bool b)) (fun v s'=>∃ b,v=.bool b∧Q (.bool !b) s') E s:=this
 intro Γ p hΓ
 have h3:=h2 Γ p hΓ
 rw[Sem.wp_bind'] at h3 ⊢
 refine Sem.wp_mono _ _ _ (fun b p' s' hb=>?_) (fun V V V z=>z) _ _ h3
 refine uEA hb ?_;clear hb;rintro b' e q
 cases e
 exact q
noncomputable def St3(G:GC)(ℓ:Nat)(own:Own)(o i v:AV)(K:Own→Prop):Prop:=
 ∀(A:Around)(s:Shared)(ov iv vv:Value)(Q:Unit→Shared→Prop)(E:Value→Shared→Prop),AOk A ℓ→Ok G own s.heap→VRep (fz own) s.heap ov o→VRep (fz own) s.heap iv i→VRep (fz own) s.heap vv v→
  (∀ own' s',K own'→Step noX own own' s s'→Ok G own' s'.heap→Q () s')→wpAny (model G.prog G.w) A (setItem ov iv vv) Q E s
theorem Ex.setitem{o i value:Expr}{tpos pos:Pos}{K:AF→MM→Own→Prop}
  (h:Ev G ℓ sc m own value fun v o1=>Ev G ℓ sc m o1 o fun a o2=>Ev G ℓ sc m o2 i fun k o3=>St3 G ℓ o3 a k v fun o4=>K .nxt m o4)
  (hs:autoParam (∀ env,swapsWithSole [.Subscript o i tpos] value pos.line env=pure false) sI) (hw:autoParam (∀ env,swappedStores [.Subscript o i tpos] value env=pure Option.none) sI) :
  Ex G ℓ sc m own (.Assign [.Subscript o i tpos] value pos) K:=fun A env X s Q E hA O F hQ=>by
 refine wpAny_Assign_stores (h A env X s _ E hA O F fun v av o1 s1 k1 S1 O1 r1=>?_) (hs env) (hw env)
 show wpAny _ A (PySem.assign (.Subscript o i tpos) env v) _ E s1
 refine wpAny_bind (wpAny_holding (k1 A env X s1 _ E hA O1 (F.step S1) fun ov av2 o2 s2 k2 S2 O2 r2=>?_))
 refine wpAny_bind (wpAny_holding (k2 A env X s2 _ E hA O2 ((F.step S1).step S2) fun iv av3 o3 s3 k3 S3 O3 r3=>wpAny_bind (wpAny_standAt (wpAny_bind (wpAny_holding ?_)))))
 refine k3 A s3 ov iv v _ E hA O3 (r2.step S3) r3 ((r1.step S2).step S3) fun o4 s4 k4 S4 O4=>wpAny_release ?_
 exact hQ _ .nxt _ _ s4 k4 (((S1.trans S2).trans S3).trans S4).weak O4 ((((F.step S1).step S2).step S3).step S4) trivial
theorem St3.dS{a:Addr}{es:List (Str × AV)}{k:Str}{v:AV}{K:Own→Prop}(ha:own a=some (.dS es))(hsz:es.length≤sizeLine)(h:K (upd own a (.dS (aPut es k v)))):St3 G ℓ own (.ref a) (.str k) v K:=fun A s ov iv vv Q E hA O ro ri rv hQ=>by
 obtain rfl:=ro.i_ref
 obtain⟨_,rfl⟩:=ri.i_str
 obtain⟨⟨lo,kvs,D,e,r⟩,_⟩:=O.own a _ ha
 have hlen:kvs.length=es.length:=by have:=congrArg List.length e;simpa using this
 refine wpAny_setItem_pairs (knd:=strKind G.prog G.w) (k:=k) (by simp[PySem.strKind,Value.isStrOf]) D (fun h' D' hs'=>?_) (by lia)
 obtain⟨e1,r1⟩:=stored_rep (k:=k) e r rv
 have T:=TK.chg (y:=.dS (aPut es k v)) ha hs'
 refine uEEEA (id D') fun o' V V ho' V=>?_
 exact hQ _ _ h (Step.chg ha hs') (O.chg ha hs' (iAEAA lo _ D' e1 (r1.mono T)) ⟨o',ho'⟩)
theorem St3.dI{a:Addr}{es:List (Int × AV)}{k:Int}{v:AV}{K:Own→Prop}(ha:own a=some (.dI es))(hsz:es.length≤sizeLine)(h:K (upd own a (.dI (aPut es k v)))):St3 G ℓ own (.ref a) (.int k) v K:=fun A s ov iv vv Q E hA O ro ri rv hQ=>by
 obtain rfl:=ro.i_ref
 obtain⟨_,rfl⟩:=ri.i_int
 obtain⟨⟨lo,kvs,D,e,r⟩,_⟩:=O.own a _ ha
 have hlen:kvs.length=es.length:=by have:=congrArg List.length e;simpa using this
 refine wpAny_setItem_pairs (knd:=intKind G.prog G.w) (k:=k) (by simp[PySem.intKind,Value.isInt]) D (fun h' D' hs'=>?_) (by lia)
 obtain⟨e1,r1⟩:=stored_rep (k:=k) e r rv
 have T:=TK.chg (y:=.dI (aPut es k v)) ha hs'
 refine uEEEA (id D') fun o' V V ho' V=>?_
 exact hQ _ _ h (Step.chg ha hs') (O.chg ha hs' (iAEAA lo _ D' e1 (r1.mono T)) ⟨o',ho'⟩)
theorem St3.dT{a:Addr}{es:List (AV × AV)}{l:List AV}{v:AV}{K:Own→Prop}(hl:ℓ≤1000)(ha:own a=some (.dT es))(hk:tkOk (.tup l))(hsz:es.length≤sizeLine)(h:K (upd own a (.dT (aPut es (.tup l) v)))):St3 G ℓ own (.ref a) (.tup l) v K:=fun A s ov iv vv Q E hA O ro ri rv hQ=>by
 obtain rfl:=ro.i_ref
 obtain⟨b,rfl⟩:=ri.refOf
 obtain⟨⟨lo,xs,D,e,r,r2⟩,_⟩:=O.own a _ ha
 have hlen:xs.length=es.length:=by have:=congrArg List.length e;simpa using this
 refine wpAny_setItem_heap (tk_room hA hl) (tk_is ri hk) D (fun h' D' hs'=>?_) (by lia)
 have T:=TK.chg (y:=.dT (aPut es (.tup l) v)) ha hs'
 refine uAA (storedH_rep (k:=.tup l) e r r2 rv ri) fun e1 r1 r3=>?_
 refine uEEEA (id D') fun o' V V ho' V=>?_
 exact hQ _ _ h (Step.chg ha hs') (O.chg ha hs' (iAEAAA lo _ D' e1 (r1.mono T) (r3.mono T)) ⟨o',ho'⟩)
end
section
open PySem.SeqAt PySem.MeetsSeq PySem.MeetsSeq2
section
variable{G:GC}{ℓ:Nat}{sc:Names}{m:MM}{own:Own}{K:AV→Own→Prop}
theorem Op.ii{f:List Value→Sem Value}{a b:Int}{av:AV}(h:K av own)
  (hf:∀(A:Around)(s:Shared)(t u:Tok)(Q E:Value→Shared→Prop),(∀ v tk,VRep (fz own) s.heap v av→Q v {s with toks:=tk})→wpAny (model G.prog G.w) A (f [.int a t,.int b u]) Q E s):Op G ℓ own f [.int a,.int b] K:=
 Op.pure1 h fun A s va vb Q E V V ra rb hQ=>by obtain⟨_,rfl⟩:=ra.i_int;obtain⟨_,rfl⟩:=rb.i_int;exact hf A s _ _ Q E hQ
theorem Op.add{a b:Int}(h:K (.int (a+b)) own):Op G ℓ own (op2 (binaryOp .Add)) [.int a,.int b] K:=Op.ii h fun V s V V V V hQ=>P.add_int (hQ _ _ (.int _ _))
theorem Op.sub{a b:Int}(h:K (.int (a-b)) own):Op G ℓ own (op2 (binaryOp .Sub)) [.int a,.int b] K:=Op.ii h fun V s V V V V hQ=>P.sub_int (hQ _ _ (.int _ _))
theorem Op.mul{a b:Int}(hm:-(2 ^ 64)<a∧a<2 ^ 64)(h:K (.int (a*b)) own):Op G ℓ own (op2 (binaryOp .Mult)) [.int a,.int b] K:=Op.ii h fun V s V V V V hQ=>P.mul_int (hQ _ _ (.int _ _)) (IntMulOk.of_left (intBits_le_64 hm.1 hm.2))
theorem Op.mod{a b:Int}(hb:b≠0)(h:K (.int (a.fmod b)) own):Op G ℓ own (op2 (binaryOp .Mod)) [.int a,.int b] K:=Op.ii h fun V s V V V V hQ=>mod_int' hb (hQ _ _ (.int _ _))
theorem Op.fdiv{a b:Int}(hb:b≠0)(hp:Builtin.divisionGoesByPylong a b=false)(h:K (.int (a.fdiv b)) own):Op G ℓ own (op2 (binaryOp .FloorDiv)) [.int a,.int b] K:=Op.ii h fun V s V V V V hQ=>floordiv_int hb (hQ _ _ (.int _ _)) (.inl hp)
theorem Op.lt{a b:Int}(h:K (.bool (decide (a<b))) own):Op G ℓ own (op2 (compareOp .Lt)) [.int a,.int b] K:=Op.ii h fun V s V V V V hQ=>P.lt_int (hQ _ s.toks (.bool _))
theorem Op.le{a b:Int}(h:K (.bool (decide (a≤b))) own):Op G ℓ own (op2 (compareOp .LtE)) [.int a,.int b] K:=Op.ii h fun V s V V V V hQ=>P.le_int (hQ _ s.toks (.bool _))
theorem Op.gt{a b:Int}(h:K (.bool (decide (a > b))) own):Op G ℓ own (op2 (compareOp .Gt)) [.int a,.int b] K:=Op.ii h fun V s V V V V hQ=>P.gt_int (hQ _ s.toks (.bool _))
theorem Op.eqI{a b:Int}(h:K (.bool (decide (a=b))) own):Op G ℓ own (op2 (compareOp .Eq)) [.int a,.int b] K:=Op.ii h fun V s V V V V hQ=>P.eq_int (hQ _ s.toks (.bool _))
theorem Op.neI{a b:Int}(h:K (.bool (!decide (a=b))) own):Op G ℓ own (op2 (compareOp .NotEq)) [.int a,.int b] K:=Op.ii h fun V s V V V V hQ=>P.ne_int (hQ _ s.toks (.bool _))
theorem Ev.neg{e:Expr}{pos:Pos}(h:Ev G ℓ sc m own e fun av o1=>∃ i,av=.int i∧K (.int (-i)) o1):Ev G ℓ sc m own (.UnaryOp .USub e pos) K:=fun A env X s Q E hA O F hQ=>by
 refine wpAny_UnaryOp (h A env X s _ E hA O F fun v av o1 s1 k S1 O1 r1=>?_)
 refine uEA k ?_;clear k;rintro i rfl k
 obtain⟨_,rfl⟩:=r1.i_int
 exact P.neg_int (hQ _ _ _ _ k (S1.trans (Step.toks s1 _)) O1 (.int _ _))
theorem shaped_av{a:AV}(hk:a.dat=true)(hd:a.dep≤64):shaped a.pd=true:=by
 unfold shaped
 rw[AV.canLay a hk,AV.depth_pd]
 simp[hd]
theorem Op.eqK{a b:AV}(ha:a.key=true)(hb:b.key=true)(hda:a.dep≤64)(hdb:b.dep≤64)(hl:ℓ≤1000)(h:K (.bool (decide (a=b))) own):Op G ℓ own (op2 (compareOp .Eq)) [a,b] K:=
 Op.pure1 h fun A s va vb Q E hA O ra rb hQ=>by
  refine compareEq_shaped (ra.reads (AV.dat_of_key _ ha)) (rb.reads (AV.dat_of_key _ hb)) (shaped_av (AV.dat_of_key _ ha) hda) (shaped_av (AV.dat_of_key _ hb) hdb) (by have:=hA.room hl;lia) ?_
  rw[AV.eqv_key a b ha hb]
  exact hQ _ s.toks (.bool _)
theorem Op.neK{a b:AV}(ha:a.key=true)(hb:b.key=true)(hda:a.dep≤64)(hdb:b.dep≤64)(hl:ℓ≤1000)(h:K (.bool (!decide (a=b))) own):Op G ℓ own (op2 (compareOp .NotEq)) [a,b] K:=
 Op.pure1 h fun A s va vb Q E hA O ra rb hQ=>by
  refine compareNe_shaped (ra.reads (AV.dat_of_key _ ha)) (rb.reads (AV.dat_of_key _ hb)) (shaped_av (AV.dat_of_key _ ha) hda) (shaped_av (AV.dat_of_key _ hb) hdb) (by have:=hA.room hl;lia) ?_
  rw[AV.eqv_key a b ha hb]
  exact hQ _ s.toks (.bool _)
theorem list_reads{s:Shared}{a:Addr}{l:List AV}(O:Ok G own s.heap)(ha:own a=some (.list l))(hd:AV.dats l=true):Reads s.heap (.ref a) (.list (AV.pds l)) [a]:=by
 obtain⟨⟨items,n,e,r⟩,_⟩:=O.own a _ ha
 exact .list e rfl rfl (r.readsAll hd)
theorem shaped_list{l:List AV}(hk:AV.dats l=true)(hd:AV.deps l≤60):shaped (.list (AV.pds l))=true:=by
 unfold shaped
 rw[PyData.canLay0,AV.canLays l hk,PyData.depth,AV.depths_pd]
 simp;lia
theorem Op.eqL{a b:Addr}{x y:List AV}(ha:own a=some (.list x))(hb:own b=some (.list y))(hx:AV.keys x=true)(hy:AV.keys y=true)(hdx:AV.deps x≤60)(hdy:AV.deps y≤60)(hl:ℓ≤1000)(h:K (.bool (decide (x=y))) own) :
  Op G ℓ own (op2 (compareOp .Eq)) [.ref a,.ref b] K:=
 Op.pure1 h fun A s va vb Q E hA O ra rb hQ=>by
  obtain rfl:=ra.i_ref;obtain rfl:=rb.i_ref
  refine compareEq_shaped (list_reads O ha (AV.dats_of_keys _ hx)) (list_reads O hb (AV.dats_of_keys _ hy)) (shaped_list (AV.dats_of_keys _ hx) hdx) (shaped_list (AV.dats_of_keys _ hy) hdy) (by have:=hA.room hl;lia) ?_
  rw[PyData.eqv,AV.eqvs_keys x y hx hy]
  exact hQ _ s.toks (.bool _)
theorem Op.neL{a b:Addr}{x y:List AV}(ha:own a=some (.list x))(hb:own b=some (.list y))(hx:AV.keys x=true)(hy:AV.keys y=true)(hdx:AV.deps x≤60)(hdy:AV.deps y≤60)(hl:ℓ≤1000)(h:K (.bool (!decide (x=y))) own) :
  Op G ℓ own (op2 (compareOp .NotEq)) [.ref a,.ref b] K:=
 Op.pure1 h fun A s va vb Q E hA O ra rb hQ=>by
  obtain rfl:=ra.i_ref;obtain rfl:=rb.i_ref
  refine compareNe_shaped (list_reads O ha (AV.dats_of_keys _ hx)) (list_reads O hb (AV.dats_of_keys _ hy)) (shaped_list (AV.dats_of_keys _ hx) hdx) (shaped_list (AV.dats_of_keys _ hy) hdy) (by have:=hA.room hl;lia) ?_
  rw[PyData.eqv,AV.eqvs_keys x y hx hy]
  exact hQ _ s.toks (.bool _)
noncomputable def AV.isN:AV→Bool
 |.none=>true
 |_=>false
theorem rep_isN{P h v}{a:AV}(r:VRep P h v a):(v == Value.none)=a.isN:=by
 cases r<;>rfl
theorem Op.isNotNone{a:AV}(h:K (.bool (!a.isN)) own):Op G ℓ own (op2 (compareOp .IsNot)) [a,.none] K:=
 Op.pure1 h fun A s va vb Q E hA O ra rb hQ=>by
  obtain rfl:=rb.i_none
  refine isNot_none ?_
  have e:(va == Value.none)=a.isN:=rep_isN ra
  show Q (.bool (!(va == Value.none))) s
  rw[e]
  exact hQ _ s.toks (.bool _)
theorem Op.isNotB{a b:Bool}(h:K (.bool (!decide (a=b))) own):Op G ℓ own (op2 (compareOp .IsNot)) [.bool a,.bool b] K:=
 Op.pure1 h fun A s va vb Q E hA O ra rb hQ=>by
  obtain rfl:=ra.i_bool;obtain rfl:=rb.i_bool
  show wpAny _ A (do return .bool (!(← isSame (.bool a) (.bool b)))) Q E s
  have e:isSame (.bool a) (.bool b)=pure (decide (a=b)):=by cases a<;>cases b<;>rfl
  rw[e]
  exact wpAny_bind (wpAny_pure (wpAny_pure (hQ _ s.toks (.bool _))))
theorem eq_bool(x y:Bool):EqGives (.bool x) (.bool y) (x == y):=fun prog w A E s Q h=>EqAt.bool_bool x y prog w E Q h
noncomputable def bools:List Bool→List AV
 |[]=>[]
 |b::bs=>.bool b::bools bs
theorem VReps.bools{P h}:∀{vs:List Value} {bs:List Bool},VReps P h vs (Mine.bools bs)→vs=bs.map Value.bool
 |_,[],r=>by cases r;rfl
 |_,b::bs,r=>by
  cases r with
  |cons r rs=>obtain rfl:=r.i_bool;rw[rs.bools];rfl
noncomputable def vTrue:Value→Bool
 |.bool b=>b == false
 |_=>false
theorem Op.falseNotIn{a:Addr}{bs:List Bool}(ha:own a=some (.list (bools bs)))(h:K (.bool (bs.all id)) own):Op G ℓ own (op2 (compareOp .NotIn)) [.bool false,.ref a] K:=
 Op.pure1 h fun A s va vb Q E hA O ra rb hQ=>by
  obtain rfl:=ra.i_bool;obtain rfl:=rb.i_ref
  obtain⟨⟨items,n,e,r⟩,_⟩:=O.own a _ ha
  have hi:=r.bools
  refine SeqRoads2.notIn_list vTrue (fun y hy=>?_) e ?_
  ·have:y∈items.toList:=by simpa using hy
   rw[hi] at this
   refine uEA (List.mem_map.mp this) ?_;rintro b _ rfl
   exact eq_bool b false
  ·have e2:(!items.any vTrue)=bs.all id:=by
    rw[← Array.any_toList,hi]
    clear hi ha h hQ r e
    induction bs with
    |nil=>rfl
    |cons b bs ih=>
     simp only[List.map_cons,List.any_cons,List.all_cons,Bool.not_or,ih,id]
     cases b<;>rfl
   rw[e2]
   exact hQ _ s.toks (.bool _)
theorem Op.addT{x y:List AV}(hx:x≠[])(hsz:x.length+y.length≤sizeLine)(h:K (.tup (x++y)) own):Op G ℓ own (op2 (binaryOp .Add)) [.tup x,.tup y] K:=fun A s vs Q E hA O R hQ=>by
 refine uEEAA R.two ?_;rintro va vb rfl ra rb
 have ra':=ra
 cases ra with
 |@tup a i1 n1 _ pa ea r1=>
 cases rb with
 |@tup b i2 n2 _ pb eb r2=>
 have l1:=r1.length
 have l2:=r2.length
 rw[Array.length_toList] at l1 l2
 have h1:¬ i1.isEmpty=true:=by
  intro q
  have:i1.size=0:=by simpa using q
  rw[this] at l1
  exact hx (List.length_eq_zero_iff.mp l1.symm)
 by_cases h2:i2.isEmpty=true
 ·have hy:y=[]:=by
   have:i2.size=0:=by simpa using h2
   rw[this] at l2
   exact List.length_eq_zero_iff.mp l2.symm
  subst hy
  rw[List.append_nil] at h
  exact concat_meets (iEA _ ea rfl) (iEA _ eb rfl) noFill_tuple_add seq_tuple_add F.slot_tuple_add F.entry_tuple_add (F.args_tuple_add_2 _ _) (AutoSeq1.tuple___add___tuple_tuple_1 a i1 n1 b i2 n2 h1 h2) (iAA ea eb (hQ _ _ own s h (Step.refl s) O ra'))
 ·have rp:VReps (fz own) s.heap (i1++i2).toList (x++y):=by rw[Array.toList_append];exact r1.append r2
  refine uAA (tup_new O rp) fun S2 O2 r3=>?_
  exact P.add_tuple ea eb h1 h2 (hQ _ _ own _ h S2 O2 r3) (by lia)
theorem Op.addL{a b:Addr}{x y:List AV}(ha:own a=some (.list x))(hb:own b=some (.list y))(hsz:x.length+y.length≤sizeLine)(h:∀ c,own c=Option.none→K (.ref c) (upd own c (.list (x++y)))):Op G ℓ own (op2 (binaryOp .Add)) [.ref a,.ref b] K:=fun A s vs Q E hA O R hQ=>by
 refine uEEAA R.two ?_;rintro va vb rfl ra rb
 obtain rfl:=ra.i_ref;obtain rfl:=rb.i_ref
 obtain⟨⟨i1,n1,ea,r1⟩,_⟩:=O.own a _ ha
 obtain⟨⟨i2,n2,eb,r2⟩,_⟩:=O.own b _ hb
 have l1:=r1.length
 have l2:=r2.length
 rw[Array.length_toList] at l1 l2
 have rp:VReps (fz own) s.heap (i1++i2).toList (x++y):=by rw[Array.toList_append];exact r1.append r2
 refine uAA (list_new O rp) fun h0 S2 O2=>?_
 exact P.add_list ea eb (hQ _ _ _ _ (h _ h0) S2 O2 (.ref _)) (by lia)
theorem fold_one(v:Value):∀(n:Nat)(acc:Array Value),(List.foldl (fun x1 x2=>x1++x2) acc (List.replicate n #[v])).toList=acc.toList++List.replicate n v
 |0,acc=>by simp
 |n+1,acc=>by rw[List.replicate_succ,List.foldl_cons,fold_one v n,List.replicate_succ];simp
theorem VReps.replicate{P h v d}(r:VRep P h v d):∀ n:Nat,VReps P h (List.replicate n v) (List.replicate n d)
 |0=>.nil
 |n+1=>.cons r (VReps.replicate r n)
theorem Op.mulL{a:Addr}{d:AV}{k:Nat}(ha:own a=some (.list [d]))(hk:k≤1000)(h:∀ c,own c=Option.none→K (.ref c) (upd own c (.list (List.replicate k d)))):Op G ℓ own (op2 (binaryOp .Mult)) [.ref a,.int k] K:=fun A s vs Q E hA O R hQ=>by
 refine uEEAA R.two ?_;rintro va vb rfl ra rb
 obtain rfl:=ra.i_ref
 cases rb with
 |int _ u=>
 obtain⟨⟨items,n,e,r⟩,_⟩:=O.own a _ ha
 refine uEA r.one fun v hv rv=>?_
 have hi:items=#[v]:=by cases items;simpa using hv
 have hs1:items.size=1:=by rw[hi];rfl
 have hs2:items.isEmpty=false:=by rw[hi];rfl
 have rp:=VReps.replicate rv k
 refine uAA (list_new O rp) fun h0 S2 O2=>?_
 obtain⟨x,hx⟩:∃ x:Int,x=(k:Int):=⟨_,rfl⟩
 have ef:(List.foldl (fun x1 x2=>x1++x2) #[] (List.replicate (if items.isEmpty=true then 0 else x.toNat) items))=(List.replicate k v).toArray:=by
  have:=fold_one v k #[]
  rw[hs2,hx,if_neg Bool.false_ne_true,Int.toNat_natCast,hi]
  rw[← Array.toArray_toList (xs:=List.foldl _ _ _),this];rfl
 rw[← hx]
 have hf1:¬(!Builtin.List.listFitsIndex x)=true:=by
  have:Builtin.List.listFitsIndex x=true:=by
   unfold Builtin.List.listFitsIndex
   rw[Bool.and_eq_true]
   exact⟨decide_eq_true (by lia),decide_eq_true (by lia)⟩
  rw[this];exact Bool.false_ne_true
 have hm:items.size*x.toNat=k:=by rw[hs1,hx,Int.toNat_natCast,Nat.one_mul]
 have hf3:¬Builtin.List.listTooLong (items.size*x.toNat)=true:=by
  rw[hm]
  unfold Builtin.List.listTooLong
  rw[sizeLine_eq,decide_eq_true_iff]
  lia
 have g:=AutoListH.list___mul___list_int_3 a items n x u hf1 (by rw[hm];lia) hf3
 refine wpAny_binaryOp_repeat_ref (T:="list") (U:="int") (by decide) (iEA _ e rfl) (fun s'=>typeIs_int s' x u) noFill_list_mul F.fills_int_mul F.slot_int_rmul repeat_list F.slot_int_index.lookup
  (call_meets F.slot_int_rmul (typeIs_int s x u) F.entry_int_rmul (F.args_int_rmul_2 _ _) (int___rmul___int_list x u a items n)
   (iAAA e rfl (iEA _ e rfl) (call_meets F.slot_list_mul (iEA _ e rfl) F.entry_list_mul (F.args_list_mul_2 _ _)
    g ⟨e,?_⟩)))
 rw[ef]
 exact hQ _ _ _ _ (h _ h0) S2 O2 (.ref _)
theorem Op.addS{x y:Str}(hsz:x.length+y.length≤sizeLine)(h:K (.str (x++y)) own):Op G ℓ own (op2 (binaryOp .Add)) [.str x,.str y] K:=
 Op.pure1 h fun A s va vb Q E hA O ra rb hQ=>by
  obtain⟨_,rfl⟩:=ra.i_str;obtain⟨_,rfl⟩:=rb.i_str
  exact PyProof.Rows.add_str (fun t k=>hQ _ k (.str _ _)) hsz
end
section
variable{G:GC}{ℓ:Nat}{sc:Names}{m:MM}{own:Own}{K:AV→Own→Prop}
theorem Cal.b1{id:String}{a:AV}{av:AV}(h:K av own)
  (hf:∀(A:Around)(s:Shared)(va:Value)(Q E:Value→Shared→Prop),AOk A ℓ→Ok G own s.heap→VRep (fz own) s.heap va a→(∀ v tk,VRep (fz own) s.heap v av→Q v {s with toks:=tk})→wpAny (model G.prog G.w) A (call (.builtin id) [va]) Q E s):Cal G ℓ own (.bi id) [a] K:=
 fun A s fv vs Q E hA O rf R hQ=>by
  obtain rfl:=rf.i_bi
  refine uEA R.one ?_;rintro va rfl ra
  exact hf A s va Q E hA O ra fun v tk r=>hQ v av own _ h (Step.toks s tk) O r
theorem Cal.lenT{l:List AV}(hfit:(l.length:Int)<2 ^ 63)(h:K (.int l.length) own):Cal G ℓ own (.bi "len") [.tup l] K:=Cal.b1 h fun A s va Q E hA O ra hQ=>by
 cases ra with
 |tup p e r=>
 have hl:=r.length
 rw[Array.length_toList] at hl
 refine PyProof.Rows.len_tuple (iEAAE _ e rfl _ rfl) (by lia) ?_
 rw[hl]
 exact hQ _ _ (.int _ _)
theorem Cal.lenL{a:Addr}{l:List AV}(ha:own a=some (.list l))(hfit:(l.length:Int)<2 ^ 63)(h:K (.int l.length) own):Cal G ℓ own (.bi "len") [.ref a] K:=Cal.b1 h fun A s va Q E hA O ra hQ=>by
 obtain rfl:=ra.i_ref
 obtain⟨⟨items,n,e,r⟩,_⟩:=O.own a _ ha
 have hl:=r.length
 rw[Array.length_toList] at hl
 refine Calls.call_len_list (iEAAE _ e rfl n rfl) (by lia) ?_
 rw[hl]
 exact hQ _ _ (.int _ _)
theorem lenH{A:Around}{s:Shared}{E:Value→Shared→Prop}{d:Addr}{o:Obj}{es:Array DictEntry}{ep:Nat}{Q:Value→Shared→Prop}(hd:(d == sysModules)=false)(ho:s.heap.get? d=some o)(hc:o.ExactDict)(hdat:o.data=.dict es ep)(hfit:(es.size:Int)<2 ^ 63)
  (h:∀ t k,Q (.int es.size t) {s with toks:=k}):wpAny (model G.prog G.w) A (call (.builtin "len") [.ref d]) Q E s:=by
 have hT:s.TypeIs (.ref d) "dict":=(iEA o ho hc.1)
 have g:MeetsIn G.prog G.w (Builtin.«dict.__len__» ⟨[.ref d],[]⟩) (fun V R s=>(s.heap.get? d=some o)∧R (.ok (.ret (.int es.size s.toks))) {s with toks:=s.toks+1}):=
  .of_wp fun A R s q2536=>uA q2536 fun ho h=>by
   show wpAny _ _ (dictSize d>>=_) _ _ s
   refine wpAny_bind (wpAny_bind (wpAny_dictEntries ho hdat (wpAny_pure ?_)))
   refine wpAny_bind (wpAny_pendingCount_other hd ?_)
   refine wpAny_ret_mkInt ?_
   rw[Nat.add_zero];exact h
 refine Calls.call_function_entry kind_len plain_len entry_len (args_len1 _) ?_
 unfold Builtin.«len»
 refine wpAny_bind (m:=oneArg "len" _) (wpAny_pure ?_)
 refine wpAny_bind (m:=callSpecial? (.ref d) (Str.ofString "__len__")) (wpAny_callSpecial?_slot (name:=Str.ofString "__len__") hT F.slot_dict_len
  (call_meetsIn F.slot_dict_len hT F.entry_dict_len (F.args_dict_len_1 _) g ⟨ho,?_⟩))
 refine wpAny_bind (wpAny_holding (wpAny_pure ?_))
 refine wpAny_bind (wpAny_letGo ?_)
 rw[if_neg (by lia)]
 rw[if_neg (by lia)]
 exact wpAny_bind (wpAny_mkInt (wpAny_pure (iEA _ rfl (h _ _))))
theorem Cal.lenDT{a:Addr}{es:List (AV × AV)}(ha:own a=some (.dT es))(hfit:(es.length:Int)<2 ^ 63)(h:K (.int es.length) own):Cal G ℓ own (.bi "len") [.ref a] K:=Cal.b1 h fun A s va Q E hA O ra hQ=>by
 obtain rfl:=ra.i_ref
 obtain⟨⟨lo,xs,⟨o,ents,ep,ho,hc,hd,he,_⟩,hk,_⟩,_⟩:=O.own a _ ha
 have hl:ents.size=es.length:=by
  have h1:ents.toList.length=xs.length:=by rw[he];simp
  have h2:=congrArg List.length hk
  simp at h1 h2;lia
 refine lenH lo ho hc hd (by lia) fun t k=>?_
 rw[hl]
 exact hQ _ _ (.int _ _)
theorem Cal.abs{i:Int}(h:K (.int (if i<0 then -i else i)) own):Cal G ℓ own (.bi "abs") [.int i] K:=Cal.b1 h fun A s va Q E hA O ra hQ=>by
 obtain⟨_,rfl⟩:=ra.i_int
 exact call_abs_int fun u tk=>hQ _ _ (.int _ _)
theorem Cal.strI{i:Int}(hi:i.natAbs.log2<1920)(h:K (.str (Str.ofString (toString i))) own):Cal G ℓ own (.ty "str") [.int i] K:=fun A s fv vs Q E hA O rf R hQ=>by
 obtain rfl:=rf.i_ty
 refine uEA R.one ?_;rintro va rfl ra
 obtain⟨_,rfl⟩:=ra.i_int
 exact PySem.P.str_of_int hi (hQ _ _ own _ h (Step.toks s _) O (.str _ _))
theorem Cal.tupL{a:Addr}{l:List AV}(ha:own a=some (.list l))(hsz:l.length≤sizeLine)(h:K (.tup l) own):Cal G ℓ own (.ty "tuple") [.ref a] K:=fun A s fv vs Q E hA O rf R hQ=>by
 obtain rfl:=rf.i_ty
 refine uEA R.one ?_;rintro va rfl ra
 obtain rfl:=ra.i_ref
 obtain⟨⟨items,n,e,r⟩,_⟩:=O.own a _ ha
 have hl:=r.length
 rw[Array.length_toList] at hl
 refine call_tuple_list (iEAAE _ e rfl n rfl) (fun h' hk=>?_) (by lia)
 have S1:Step noX own own s {s with heap:=h'}:=Step.ext (tk:=s.toks) hk
 have O1:Ok G own h':=O.ext hk
 refine uAA (tup_new (s:={s with heap:=h'}) O1 (r.step S1)) fun S2 O2 r2=>?_
 exact hQ _ _ own _ h (S1.trans S2) O2 r2
theorem Cal.tupT{l:List AV}(h:K (.tup l) own):Cal G ℓ own (.ty "tuple") [.tup l] K:=fun A s fv vs Q E hA O rf R hQ=>by
 obtain rfl:=rf.i_ty
 refine uEA R.one ?_;rintro va rfl ra
 have ra':=ra
 cases ra with
 |tup p e r=>
 exact call_tuple_same (iEAAE _ e rfl _ rfl) (hQ _ _ own _ h (Step.refl s) O ra')
theorem Cal.range1{n:Int}(hn:smallInt n)(h:∀ a,own a=Option.none→K (.ref a) (upd own a (.rng 0 n))):Cal G ℓ own (.ty "range") [.int n] K:=fun A s fv vs Q E hA O rf R hQ=>by
 obtain rfl:=rf.i_ty
 refine uEA R.one ?_;rintro va rfl ra
 obtain⟨_,rfl⟩:=ra.i_int
 have h0:=O.fresh (get_size s.heap)
 refine call_range_1 (hQ _ _ _ _ (h _ h0) (Step.new O push_ext (get_size _)) (O.new push_ext (get_size _) (iAAEEE ⟨by decide,by decide⟩ hn _ _ _ (Heap.get?_push_size _ rfl)) ⟨_,Heap.get?_push_size _ rfl⟩) (.ref _))
theorem Cal.range2{a b:Int}(ha:smallInt a)(hb:smallInt b)(h:∀ c,own c=Option.none→K (.ref c) (upd own c (.rng a b))):Cal G ℓ own (.ty "range") [.int a,.int b] K:=fun A s fv vs Q E hA O rf R hQ=>by
 obtain rfl:=rf.i_ty
 refine uEEAA R.two ?_;rintro va vb rfl ra rb
 obtain⟨_,rfl⟩:=ra.i_int;obtain⟨_,rfl⟩:=rb.i_int
 have h0:=O.fresh (get_size s.heap)
 refine call_range_2 (hQ _ _ _ _ (h _ h0) (Step.new O push_ext (get_size _)) (O.new push_ext (get_size _) (iAAEEE ha hb _ _ _ (Heap.get?_push_size _ rfl)) ⟨_,Heap.get?_push_size _ rfl⟩) (.ref _))
noncomputable def intL:List Int→List AV
 |[]=>[]
 |b::bs=>.int b::intL bs
theorem intL_1:intL []=[]:=by intros;rfl
theorem intL_2:∀(b:Int)(bs:List Int),intL (b::bs)=AV.int b::intL bs:=by intros;rfl
theorem intL_get:∀{l:List Int} {i:Nat},(intL l)[i]?=(l[i]?).map AV.int
 |[],i=>by simp[intL_1,intL_2]
 |b::bs,0=>rfl
 |b::bs,i+1=>by simpa[intL_1,intL_2] using intL_get (l:=bs) (i:=i)
theorem intL_length:∀(l:List Int),(intL l).length=l.length
 |[]=>rfl
 |b::bs=>by simp[intL_1,intL_2,intL_length bs]
theorem preSum_list(l:List Int):∀ n,preSum (fun i=>l.getD i 0) n=(l.take n).sum
 |0=>by simp[preSum]
 |n+1=>by
  rw[preSum,preSum_list l n]
  by_cases h:n<l.length
  ·rw[List.take_add_one,List.getElem?_eq_getElem h,Option.toList_some,List.sum_append];simp[List.getD,List.getElem?_eq_getElem h]
  ·have h':l.length≤n:=Nat.le_of_not_lt h
   rw[List.take_of_length_le h',List.take_of_length_le (Nat.le_succ_of_le h')]
   simp[List.getD,List.getElem?_eq_none h']
theorem moved_step{own:Own}{I:Addr}{s s1 s':Shared}(O:Ok G own s.heap)(hI:s.heap.get? I=Option.none)(e1:∃ h1,s1={s with heap:=h1}∧∀ b o,s.heap.get? b=some o→h1.get? b=some o)(hm:Moved [I] (fun a b=>b=a) s1 s'):Step noX own own s s'∧Ok G own s'.heap:=by
 refine uEA e1 ?_;clear e1;rintro h1 rfl hk
 have hk2:∀ b o,s.heap.get? b=some o→s'.heap.get? b=some o:=fun b o e=>hm.heap b o (by rw[List.mem_singleton];rintro rfl;rw[hI] at e;cases e) (hk b o e)
 have e:s'={s with heap:=s'.heap,toks:=s'.toks}:=by
  obtain⟨h',g',d',t',o'⟩:=s'
  have hg:g'=s.gens:=hm.gens
  have hd:d'=s.drawn:=hm.drawn
  have ho:o'=s.os:=hm.os
  rw[hg,hd,ho]
 exact⟨⟨(iEE _ _ e),fun b o e p V=>⟨hk2 b o e,p⟩⟩,O.ext hk2⟩
theorem Cal.sum{a:Addr}{l:List Int}(ha:own a=some (.list (intL l)))(h:K (.int l.sum) own):Cal G ℓ own (.bi "sum") [.ref a] K:=fun A s fv vs Q E hA O rf R hQ=>by
 obtain rfl:=rf.i_bi
 refine uEA R.one ?_;rintro va rfl ra
 obtain rfl:=ra.i_ref
 obtain⟨⟨items,n,e,r⟩,_⟩:=O.own a _ ha
 have hl:=r.length
 rw[Array.length_toList,intL_length] at hl
 have hh:A.in1.handled=Option.none:=hA.handled
 have hne:a≠s.heap.objs.size:=by rintro rfl;rw[get_size] at e;cases e
 refine call_sum_walkAnyS (wpAny_pyIter_list (iEAAE _ e rfl n rfl) ?_)
 refine(iEEEEEEEEAAAAA s.heap.objs.size [s.heap.objs.size,a] [s.heap.objs.size] _ items.size _ _ (fun i=>l.getD i 0) rfl ((Walks.list hh s.heap.objs.size a hne items).toS) ⟨(iEAA _ (Heap.get?_push_size _ rfl) rfl rfl),(iEAAE _ (push_ext _ _ e) rfl n rfl)⟩ ?_ ?_ ?_)
 ·intro b hb
  show b<(s.heap.push _).objs.size
  rw[Heap.size_push]
  rcases List.mem_cons.mp hb with rfl|hb
  ·exact Nat.lt_succ_self _
  ·rw[List.mem_singleton.mp hb];exact Nat.lt_succ_of_lt (Heap.lt_size e)
 ·intro i v hv
  have hi:i<l.length:=by
   rw[← hl]
   exact(Array.getElem?_eq_some_iff.mp hv).1
  have h1:(intL l)[i]?=some (.int (l.getD i 0)):=by rw[intL_get,List.getElem?_eq_getElem hi];simp[List.getD,List.getElem?_eq_getElem hi]
  refine uEA (r.get h1) fun v' hv' rv=>?_
  rw[Array.getElem?_toList,hv] at hv'
  cases hv'
  obtain⟨_,rfl⟩:=rv.i_int
  exact⟨_,rfl⟩
 ·intro s' t' hm
  have hm2:preSum (fun i=>l.getD i 0) items.size=l.sum:=by rw[preSum_list,hl,List.take_length]
  rw[hm2]
  obtain⟨S1,O1⟩:=moved_step O (get_size _) (iEA _ rfl push_ext) hm
  exact hQ _ _ own s' h S1 O1 (.int _ _)
end
theorem mf_append:MethF "list" "append" "list.append":=⟨F.plainAttrs_list,F.slot_list_append,F.type_list_append⟩
theorem mf_extend:MethF "list" "extend" "list.extend":=⟨F.plainAttrs_list,F.slot_list_extend,F.type_list_extend⟩
theorem mf_pop:MethF "list" "pop" "list.pop":=⟨F.plainAttrs_list,F.slot_list_pop,F.type_list_pop⟩
theorem mf_setdefault:MethF "dict" "setdefault" "dict.setdefault":=⟨F.plainAttrs_dict,F.slot_dict_setdefault,F.type_dict_setdefault⟩
theorem mf_isspace:MethF "str" "isspace" "str.isspace":=⟨F.plainAttrs_str,F.slot_str_isspace,F.type_str_isspace⟩
section
variable{G:GC}{ℓ:Nat}{sc:Names}{m:MM}{own:Own}{K:AV→Own→Prop}
theorem list_chg{s:Shared}{a:Addr}{l l':List AV}{items items':Array Value}{n:Nat}(O:Ok G own s.heap)(ha:own a=some (.list l))(e:s.heap.get? a=some {cls:=.type "list",data:=.seq items n})(f:Array Value→Array Value)(hf:f items=items')
  (r:VReps (fz own) s.heap items'.toList l'):Step noX own (upd own a (.list l')) s {s with heap:=s.heap.update a (Obj.mapSeq f)}∧Ok G (upd own a (.list l')) (s.heap.update a (Obj.mapSeq f)):=by
 have hs:Heap.SameBut a s.heap (s.heap.update a (Obj.mapSeq f)):=Heap.SameBut.update ..
 have T:=TK.chg (y:=.list l') ha hs
 have e':(s.heap.update a (Obj.mapSeq f)).get? a=some {cls:=.type "list",data:=.seq items' (if items'.size == items.size then n else n+1)}:=by
  have:=IsL.update e f
  rw[hf] at this;exact this
 exact⟨Step.chg (tk:=s.toks) ha hs,O.chg ha hs (iEEA items' _ e' (r.mono T)) ⟨_,e'⟩⟩
theorem Cal.append{a:Addr}{l:List AV}{d:AV}(ha:own a=some (.list l))(hsz:l.length≤sizeLine)(h:K .none (upd own a (.list (l++[d])))):Cal G ℓ own (.bi "list.append") [.ref a,d] K:=fun A s fv vs Q E hA O rf R hQ=>by
 obtain rfl:=rf.i_bi
 refine uEEAA R.two ?_;rintro va vb rfl ra rb
 obtain rfl:=ra.i_ref
 obtain⟨⟨items,n,e,r⟩,_⟩:=O.own a _ ha
 have hl:=r.length
 rw[Array.length_toList] at hl
 have r2:VReps (fz own) s.heap (items.push vb).toList (l++[d]):=by rw[Array.toList_push];exact r.append (.cons rb .nil)
 obtain⟨S2,O2⟩:=list_chg O ha e (fun x=>x.push vb) rfl r2
 exact call_meets F.slot_list_append (iEA _ e rfl) F.entry_list_append (F.args_list_append_2 _ _) (list_append a items n vb (by lia)) ⟨e,hQ _ _ _ _ h S2 O2 .none⟩
theorem Cal.extend{a b:Addr}{l k:List AV}(ha:own a=some (.list l))(hb:own b=some (.list k))(hsz:l.length+k.length≤sizeLine)(h:K .none (upd own a (.list (l++k)))):Cal G ℓ own (.bi "list.extend") [.ref a,.ref b] K:=fun A s fv vs Q E hA O rf R hQ=>by
 obtain rfl:=rf.i_bi
 refine uEEAA R.two ?_;rintro va vb rfl ra rb
 obtain rfl:=ra.i_ref;obtain rfl:=rb.i_ref
 obtain⟨⟨items,n,e,r⟩,_⟩:=O.own a _ ha
 obtain⟨⟨items2,n2,e2,r2⟩,_⟩:=O.own b _ hb
 have hl:=r.length
 have hl2:=r2.length
 rw[Array.length_toList] at hl hl2
 have hz:items.size+items2.size≤sizeLine:=by lia
 have r3:VReps (fz own) s.heap (items++items2).toList (l++k):=by rw[Array.toList_append];exact r.append r2
 obtain⟨S2,O2⟩:=list_chg O ha e (fun x=>x++items2) rfl r3
 exact call_meets F.slot_list_extend (iEA _ e rfl) F.entry_list_extend (F.args_list_extend_2 _ _) (AutoSeq1.list_extend_list_list_0 a items n b items2 n2 (extend_door hz) (Nat.le_trans (Nat.le_add_right _ _) hz) (Nat.le_succ_of_le hz)) (iAA e e2 (hQ _ _ _ _ h S2 O2 .none))
theorem Cal.pop{a:Addr}{l:List AV}{d:AV}(ha:own a=some (.list (l++[d])))(hsz:l.length<sizeLine)(h:K d (upd own a (.list l))):Cal G ℓ own (.bi "list.pop") [.ref a] K:=fun A s fv vs Q E hA O rf R hQ=>by
 obtain rfl:=rf.i_bi
 refine uEA R.one ?_;rintro va rfl ra
 obtain rfl:=ra.i_ref
 obtain⟨⟨items,n,e,r⟩,_⟩:=O.own a _ ha
 have hl:=r.length
 rw[Array.length_toList,List.length_append,List.length_singleton] at hl
 refine uEA (r.get (i:=l.length) (d:=d) (by simp)) fun v hv rv=>?_
 have hv':items[items.size-1]?=some v:=by rw[hl];simpa using hv
 have ee:(items.eraseIdxIfInBounds (items.size-1)).toList=items.toList.take l.length:=by
  have h1:items.size-1=l.length:=by lia
  have h2:l.length<items.size:=by lia
  rw[h1,Array.eraseIdxIfInBounds,dif_pos h2,Array.toList_eraseIdx,List.eraseIdx_eq_take_drop_succ,List.drop_eq_nil_of_le (by simp;lia),List.append_nil]
 have r3:VReps (fz own) s.heap (items.eraseIdxIfInBounds (items.size-1)).toList l:=by
  rw[ee]
  have:=r.take l.length
  rwa[List.take_left] at this
 obtain⟨S2,O2⟩:=list_chg O ha e (fun x=>x.eraseIdxIfInBounds (items.size-1)) rfl r3
 refine call_meets F.slot_list_pop (iEA _ e rfl) F.entry_list_pop (F.args_list_pop_1 _) (list_pop_last a items n v hv' (by lia)) ⟨e,hQ _ _ _ _ h S2 O2 ?_⟩
 exact rv.mono (TK.chg ha (Heap.SameBut.update ..))
theorem Cal.sdS{a:Addr}{es:List (Str × AV)}{k:Str}{d:AV}(ha:own a=some (.dS es))(hsz:es.length≤sizeLine)(h:K ((aAt es k).getD d) (upd own a (.dS (if (aAt es k).isSome then es else es++[(k,d)])))):Cal G ℓ own (.bi "dict.setdefault") [.ref a,.str k,d] K:=fun A s fv vs Q E hA O rf R hQ=>by
 obtain rfl:=rf.i_bi
 refine uEEEAAA R.three ?_;rintro va vb vc rfl ra rb rc
 obtain rfl:=ra.i_ref;obtain⟨_,rfl⟩:=rb.i_str
 obtain⟨⟨lo,kvs,D,e,r⟩,_⟩:=O.own a _ ha
 have hlen:kvs.length=es.length:=by have:=congrArg List.length e;simpa using this
 have hv:=valueAt_rep (k:=k) e r
 refine call_meetsIn PySem.F.slot_dict_setdefault D.typeIs PySem.F.entry_dict_setdefault (F.args_dict_setdefault_3 _ _ _) (kt_meets_setdefault (strKind G.prog G.w) (k:=k) a (by simp[PySem.strKind,Value.isStrOf]) lo vc)
  (iEAAA kvs D (by lia) (fun v hv'=>?_) (fun hn h' D' hs=>?_))
 ·rw[hv'] at hv
  cases hx:aAt es k with
  |none=>rw[hx] at hv;exact hv.elim
  |some av=>
   rw[hx] at hv h
   simp only[Option.getD_some,Option.isSome_some,if_true] at h
   have hu:upd own a (.dS es)=own:=by
    funext b
    by_cases hb:b=a
    ·subst hb;rw[upd_self,ha]
    ·rw[upd_ne _ _ hb]
   rw[hu] at h
   exact hQ _ _ own _ h (Step.toks s _) O hv
 ·rw[hn] at hv
  cases hx:aAt es k with
  |some av=>rw[hx] at hv;exact hv.elim
  |none=>
   rw[hx] at h
   obtain⟨e1,r1⟩:=stored_rep (k:=k) e r rc
   have ep:aPut es k d=es++[(k,d)]:=by unfold aPut;rw[hx];rfl
   rw[ep] at e1 r1
   have T:=TK.chg (y:=.dS (es++[(k,d)])) ha hs
   refine uEEEA (id D') fun o' V V ho' V=>?_
   exact hQ _ _ _ _ h (Step.chg ha hs) (O.chg ha hs (iAEAA lo _ D' e1 (r1.mono T)) ⟨o',ho'⟩) (rc.mono T)
theorem setDefault_heap{A:Around}{E:Value→Shared→Prop}{s:Shared}{d a:Addr}{xs:List (AV × Addr × Value)}{k:AV}{v:Value}{Q:Value→Shared→Prop}(hu:(tk G.prog G.w).room A)(hkey:(tk G.prog G.w).is s.heap k a)(hm:s.heap.DictOfH (tk G.prog G.w) d xs)
  (h1:∀ p tk,atKey xs k=some p→Q p.2 {s with toks:=tk})
  (h2:atKey xs k=Option.none→∀ h' tk',h'.DictOfH (tk G.prog G.w) d (storedH xs k a v)→Heap.SameBut d s.heap h'→Q v {s with heap:=h',toks:=tk'})
  (hsz:xs.length≤sizeLine) :
  wpAny (model G.prog G.w) A (dictSetDefault d (.ref a) v) Q E s:=by
 refine uEEEAAAAA hm ?_;clear hm;rintro o es ep ho hc hd he his hn
 unfold dictSetDefault
 try with_reducible refine wpAny_holding ?_
 refine wpAny_bind ((tk G.prog G.w).pyHash hu hkey ?_)
 refine wpAny_bind (wpAny_dictFind_heap (s:={s with toks:=s.toks+(tk G.prog G.w).draws k}) hu hkey ho hd he his hn ?_ ?_)
 ·intro hno
  have hnot:k∉xs.map (·.1):=not_mem_keys_of_get hno
  refine wpAny_bind (wpAny_rule (wpAny_bind (wpAny_updateDictKeys (hz:=by have e:=size_of_entries he;lia) (s:={s with toks:=s.toks+(tk G.prog G.w).draws k}) ho hd (wpAny_pure (h2 (atKey_none_of_get hno) _ _ (iEEEAAAAA _ _ (ep+1) (Heap.get?_update_self _ ho (Obj.isFreed_of_dict (Obj.data_mapDictKeys hd _))) (hc.mapDictKeys _) (Obj.data_mapDictKeys hd _) ?_ ?_ ?_) (Heap.SameBut.update ..))))))
  ·rw[storedH_new (atKey_none_of_get hno)]
   simp[he,entryOfKey]
  ·rw[storedH_new (atKey_none_of_get hno)]
   intro x hx
   rcases List.mem_append.mp hx with hx|hx
   ·exact(tk G.prog G.w).keeps (his x hx) ho hd (Heap.SameBut.update ..)
   ·simp only[List.mem_singleton] at hx
    subst hx
    exact(tk G.prog G.w).keeps hkey ho hd (Heap.SameBut.update ..)
  ·rw[storedH_new (atKey_none_of_get hno)]
   rw[List.map_append,List.nodup_append]
   refine(iAA hn (by simp) ?_)
   intro x hx y hy
   simp only[List.map_cons,List.map_nil,List.mem_singleton] at hy
   subst hy
   exact fun e=>hnot (e▸hx)
 ·intro j p hj
  have h1:=h1 p (s.toks+(tk G.prog G.w).draws k) (atKey_of_get hn hj)
  refine wpAny_bind (wpAny_dictEntries (s:={s with toks:=s.toks+(tk G.prog G.w).draws k}) ho hd ?_)
  rw[entry_at he j,hj]
  exact wpAny_bind (wpAny_rule (wpAny_pure h1))
theorem Cal.sdT{a:Addr}{es:List (AV × AV)}{k:List AV}{d:AV}(hl:ℓ≤1000)(ha:own a=some (.dT es))(hk:tkOk (.tup k))(hsz:es.length≤sizeLine)(h:K ((aAt es (.tup k)).getD d) (upd own a (.dT (if (aAt es (.tup k)).isSome then es else es++[(.tup k,d)])))):Cal G ℓ own (.bi "dict.setdefault") [.ref a,.tup k,d] K:=fun A s fv vs Q E hA O rf R hQ=>by
 obtain rfl:=rf.i_bi
 refine uEEEAAA R.three ?_;rintro va vb vc rfl ra rb rc
 obtain⟨b,rfl⟩:=rb.refOf
 obtain rfl:=ra.i_ref
 obtain⟨⟨lo,xs,D,e,r,r2⟩,_⟩:=O.own a _ ha
 have hlen:xs.length=es.length:=by have:=congrArg List.length e;simpa using this
 have hv:=atKey_rep (k:=.tup k) e r
 have g:MeetsIn G.prog G.w (Builtin.«dict.setdefault» ⟨[.ref a,.ref b,vc],[]⟩) (fun A' R s'=>A'=A∧s'=s∧∀(v:Value)(av:AV)(o1:Own)(s1:Shared),K av o1→Step noX own o1 s s1→Ok G o1 s1.heap→VRep (fz o1) s1.heap v av→R (.ok (.ret v)) s1):=
  .of_wp fun A' R s' q10690=>uAA q10690 fun hA' hs' hR=>by
   subst hA' hs'
   unfold Builtin.«dict.setdefault»
   refine wpAny_bind ?_
   refine wpAny_bind (wpAny_notOrdered_dict D.typeIs ?_)
   refine wpAny_pure ?_
   show wpAny _ _ (if (a == sysModules)=true then _ else(dictSetDefault a (.ref b) vc>>=_)) _ _ s'
   rw[if_neg (by rw[lo];exact Bool.false_ne_true)]
   refine wpAny_bind (setDefault_heap (tk_room hA hl) (tk_is rb hk) D (fun p t hp=>wpAny_pure (iEA _ rfl ?_)) (fun hn h' t D' hs=>wpAny_pure (iEA _ rfl ?_)) (by lia))
   ·rw[hp] at hv
    cases hx:aAt es (.tup k) with
    |none=>rw[hx] at hv;exact hv.elim
    |some av=>
     rw[hx] at hv h
     simp only[Option.getD_some,Option.isSome_some,if_true] at h
     have hu:upd own a (.dT es)=own:=by
      funext c
      by_cases hb:c=a
      ·subst hb;rw[upd_self,ha]
      ·rw[upd_ne _ _ hb]
     rw[hu] at h
     exact hR _ _ own _ h (Step.toks s' _) O hv
   ·rw[hn] at hv
    cases hx:aAt es (.tup k) with
    |some av=>rw[hx] at hv;exact hv.elim
    |none=>
     rw[hx] at h
     refine uAA (storedH_rep (k:=.tup k) e r r2 rc rb) fun e1 r1 r3=>?_
     have ep:aPut es (.tup k) d=es++[(.tup k,d)]:=by unfold aPut;rw[hx];rfl
     rw[ep] at e1 r1 r3
     have T:=TK.chg (y:=.dT (es++[(.tup k,d)])) ha hs
     refine uEEEA (id D') fun o' V V ho' V=>?_
     exact hR _ _ _ _ h (Step.chg ha hs) (O.chg ha hs (iAEAAA lo _ D' e1 (r1.mono T) (r3.mono T)) ⟨o',ho'⟩) (rc.mono T)
 refine call_meetsIn PySem.F.slot_dict_setdefault D.typeIs PySem.F.entry_dict_setdefault (F.args_dict_setdefault_3 _ _ _) g (iAA rfl rfl (fun v av o1 s1 k1 S1 O1 r1=>hQ v av o1 s1 k1 S1 O1 r1))
end
section
variable{G:GC}{ℓ:Nat}{sc:Names}{m:MM}{own:Own}{K:AV→Own→Prop}
noncomputable def Jo(G:GC)(ℓ:Nat)(sc:Names)(m:MM)(own:Own)(es:List Expr)(acc:Str)(K:Str→Own→Prop):Prop:=
 ∀(A:Around)(env:Env)(X:Addr→Prop)(s:Shared)(Q:Str→Shared→Prop)(E:Value→Shared→Prop),AOk A ℓ→Ok G own s.heap→Frm G sc env X m own s.heap→
  (∀ out own' s',K out own'→Step noX own own' s s'→Ok G own' s'.heap→Q out s')→Joins (model G.prog G.w) A E (evalEach es env) acc Q s
theorem Jo.nil{acc:Str}{K:Str→Own→Prop}(h:K acc own):Jo G ℓ sc m own [] acc K:=fun A env X s Q E hA O F hQ=>hQ acc own s h (Step.refl s) O
theorem Jo.str{c:Str}{k:Nat}{pos:Pos}{es:List Expr}{acc:Str}{K:Str→Own→Prop}(hz:(acc++c).length≤sizeLine)(h:Jo G ℓ sc m own es (acc++c) K):Jo G ℓ sc m own (.Constant (.str c) k pos::es) acc K:=fun A env X s Q E hA O F hQ=>
 wpAny_Constant_str (iEEAA c _ rfl hz (h A env X _ Q E hA O F fun out o1 s1 k1 S1 O1=>hQ out o1 s1 k1 ((Step.toks s _).trans S1) O1))
theorem Jo.int{e:Expr}{pos:Pos}{es:List Expr}{acc:Str}{K:Str→Own→Prop}(h:Ev G ℓ sc m own e fun av o1=>∃ i:Int,av=.int i∧i.natAbs.log2<1920∧(acc++Str.ofString (toString i)).length≤sizeLine∧Jo G ℓ sc m o1 es (acc++Str.ofString (toString i)) K) :
  Jo G ℓ sc m own (.FormattedValue e (-1) Option.none pos::es) acc K:=fun A env X s Q E hA O F hQ=>by
 refine wpAny_FormattedValue_plain (h A env X s _ E hA O F fun v av o1 s1 k1 S1 O1 r1=>?_)
 refine uEAAA k1 ?_;clear k1;rintro i rfl hi hz k1
 obtain⟨_,rfl⟩:=r1.i_int
 refine wpAny_formatField_int hi (iEEAA _ _ rfl hz (k1 A env X _ Q E hA O1 ((F.step S1).step (Step.toks s1 (s1.toks+1+1))) fun out o2 s2 k2 S2 O2=>hQ out o2 s2 k2 ((S1.trans (Step.toks s1 _)).trans S2) O2))
theorem Ev.fstr{a b:Expr}{es:List Expr}{pos:Pos}(h:Jo G ℓ sc m own (a::b::es) Str.empty fun out o1=>out.length≤sizeLine∧K (.str out) o1):Ev G ℓ sc m own (.JoinedStr (a::b::es) pos) K:=fun A env X s Q E hA O F hQ=>
 wpAny_JoinedStr (h A env X s _ E hA O F fun out o1 s1 k1 S1 O1=>⟨k1.1,hQ _ _ o1 _ k1.2 (S1.trans (Step.toks s1 _)) O1 (.str _ _)⟩)
theorem sysOut{h:Heap}(O:Ok G own h):(h.objs.size == sysModules)=false:=by
 have hk:∃ o,(KF G.w.params).lookup 3=some o:=⟨_,rfl⟩
 obtain⟨o,ho⟩:=hk
 have hlt:=Heap.lt_size (O.kin 3 o ho)
 rw[beq_eq_false_iff_ne]
 show h.objs.size≠1
 exact fun e=>absurd hlt (by rw[e];decide)
theorem dict_new{s:Shared}{x:AObj}(O:Ok G own s.heap)(hx:ORep G (upd own s.heap.objs.size x) (s.heap.push emptyDict) s.heap.objs.size x):own s.heap.objs.size=Option.none∧Step noX own (upd own s.heap.objs.size x) s {s with heap:=s.heap.push emptyDict}∧Ok G (upd own s.heap.objs.size x) (s.heap.push emptyDict):=
 (iAA (O.fresh (get_size _)) (Step.new (tk:=s.toks) O push_ext (get_size _)) (O.new push_ext (get_size _) hx ⟨_,Heap.get?_push_size _ rfl⟩))
theorem Ev.dict0{pos:Pos}(x:AObj)(hx:x=.dS []∨x=.dI []∨x=.dT [])(h:∀ a,own a=Option.none→K (.ref a) (upd own a x)):Ev G ℓ sc m own (.Dict [] [] pos) K:=fun A env X s Q E hA O F hQ=>by
 refine wpAny_Dict_empty ?_
 have fin:ORep G (upd own s.heap.objs.size x) (s.heap.push emptyDict) s.heap.objs.size x:=by
  rcases hx with rfl|rfl|rfl
  ·exact(iAEAA (sysOut O) [] (Heap.DictOf.new _) rfl .nil)
  ·exact(iAEAA (sysOut O) [] (Heap.DictOf.new _) rfl .nil)
  ·exact(iAEAAA (sysOut O) [] (Heap.DictOfH.new _) rfl .nil .nil)
 refine uAA (dict_new O fin) fun h0 S1 O1=>?_
 exact hQ _ _ _ _ (h _ h0) S1 O1 (.ref _)
noncomputable def Evp(G:GC)(ℓ:Nat)(sc:Names)(m:MM)(own:Own)(ks:List (Option Expr))(vs:List Expr)(K:List (AV × AV)→Own→Prop):Prop:=
 ∀(A:Around) (env:Env) (X:Addr→Prop) (s:Shared) (pos:Pos) (Q:List (Value × Value)→Shared→Prop) (E:Value→Shared→Prop),AOk A ℓ→Ok G own s.heap→Frm G sc env X m own s.heap→
  (∀ ps aps own' s',K aps own'→Step noX own own' s s'→Ok G own' s'.heap→VReps (fz own') s'.heap (ps.map (·.1)) (aps.map (·.1))→VReps (fz own') s'.heap (ps.map (·.2)) (aps.map (·.2))→Q ps s')→
  wpAny (model G.prog G.w) A (evalPairs (pairTrees ks vs env pos)) Q E s
theorem Evp.nil{K:List (AV × AV)→Own→Prop}(h:K [] own):Evp G ℓ sc m own [] [] K:=fun A env X s pos Q E hA O F hQ=>pairTrees_nil_walk (hQ [] [] own s h (Step.refl s) O .nil .nil)
theorem Evp.cons{k v:Expr}{ks:List (Option Expr)}{vs:List Expr}{K:List (AV × AV)→Own→Prop}(h:Ev G ℓ sc m own k fun a o1=>Ev G ℓ sc m o1 v fun b o2=>Evp G ℓ sc m o2 ks vs fun r o3=>K ((a,b)::r) o3):Evp G ℓ sc m own (some k::ks) (v::vs) K:=fun A env X s pos Q E hA O F hQ=>by
 refine pairTrees_cons_walk (h A env X s _ E hA O F fun va a o1 s1 k1 S1 O1 r1=>?_)
 refine k1 A env X s1 _ E hA O1 (F.step S1) fun vb b o2 s2 k2 S2 O2 r2=>?_
 refine k2 A env X s2 pos _ E hA O2 ((F.step S1).step S2) fun ps aps o3 s3 k3 S3 O3 q1 q2=>?_
 exact hQ _ _ o3 s3 k3 ((S1.trans S2).trans S3) O3 (.cons ((r1.step S2).step S3) q1) (.cons (r2.step S3) q2)
theorem storeS{A:Around}{E:Value→Shared→Prop}{d:Addr}:∀{ps:List (Value × Value)} {aps:List (Str × AV)} {kvs:List (Str × Value)} {es:List (Str × AV)} {s:Shared} {Q:PUnit→Shared→Prop},Ok G own s.heap→own d=Option.none→G.base.get? d=Option.none→
  s.heap.DictOf (strKind G.prog G.w) d kvs→kvs.map (·.1)=es.map (·.1)→VReps (fz own) s.heap (kvs.map (·.2)) (es.map (·.2))→VReps (fz own) s.heap (ps.map (·.1)) (aps.map fun p=>.str p.1)→VReps (fz own) s.heap (ps.map (·.2)) (aps.map (·.2))→es.length+aps.length≤sizeLine→
  (∀ kvs' s',Step (·∈[d]) own own s s'→Ok G own s'.heap→s'.heap.DictOf (strKind G.prog G.w) d kvs'→kvs'.map (·.1)=(aps.foldl (fun acc p=>aPut acc p.1 p.2) es).map (·.1)→VReps (fz own) s'.heap (kvs'.map (·.2)) ((aps.foldl (fun acc p=>aPut acc p.1 p.2) es).map (·.2))→Q ⟨⟩ s')→
  wpAny (model G.prog G.w) A (storeAll d ps) Q E s
 |[],aps,kvs,es,s,Q,O,hd,hb,D,e,r,rk,rv,hz,hQ=>by
  have:aps=[]:=by
   have:=rv.length
   simpa using this.symm
  subst this
  unfold storeAll
  exact wpAny_pure (hQ kvs s (Step.refl s) O D e r)
 |(k,v)::ps,[],kvs,es,s,Q,O,hd,hb,D,e,r,rk,rv,hz,hQ=>by have:=rv.length;simp at this
 |(k,v)::ps,(ak,av)::aps,kvs,es,s,Q,O,hd,hb,D,e,r,rk,rv,hz,hQ=>by
  cases rk with
  |cons rk1 rk=>
  cases rv with
  |cons rv1 rv=>
  obtain⟨_,rfl⟩:=rk1.i_str
  unfold storeAll
  rw[List.forIn_cons]
  have hlen:kvs.length=es.length:=by have:=congrArg List.length e;simpa using this
  simp only[List.length_cons] at hz
  refine wpAny_bind (wpAny_bind (wpAny_dictSet_pairs (knd:=strKind G.prog G.w) (k:=ak) (by simp[PySem.strKind,Value.isStrOf]) D (fun h' D' hs'=>wpAny_pure ?_) (by lia)))
  obtain⟨e1,r1⟩:=stored_rep (k:=ak) e r rv1
  have nt:∀ items n,s.heap.get? d≠some (tupO items n):=fun i n q=>by
   refine uEEEAA (id D) fun o V V ho hc V=>?_
   rw[q] at ho;cases ho
   exact absurd hc.1 (by simp)
  have S1:Step (·∈[d]) own own s {s with heap:=h',toks:=s.toks+1}:=Step.but hs'
  have T:=S1.monoY (fun a ha=>by rw[List.mem_singleton.mp ha];exact nt)
  have O1:Ok G own h':=O.frm hd hb nt hs'
  refine storeS (s:={s with heap:=h',toks:=s.toks+1}) (ps:=ps) (aps:=aps) (kvs:=_) (es:=aPut es ak av) O1 hd hb D' e1 (r1.mono T) (rk.mono T) (rv.mono T) (by have:=aPut_len (es:=es) (k:=ak) (d:=av);lia) fun kvs' s' S2 O2 D2 e2 r2=>?_
  exact hQ kvs' s' (S1.trans S2) O2 D2 e2 r2
theorem adopt_own{h:Heap}{d:Addr}{x:AObj}{o:Obj}(O:Ok G own h)(hd:own d=Option.none)(hb:G.base.get? d=Option.none)(ho:h.get? d=some o)(hn:∀ i n,o≠tupO i n)(hx:ORep G own h d x):Ok G (upd own d x) h:=by
 have k:TK (fz own) (fz (upd own d x)) h h:=fun b i n' eb p=>⟨eb,by
  show upd own d _ b=Option.none
  rw[upd_ne];exact p
  rintro rfl;rw[ho] at eb;cases eb;exact hn _ _ rfl⟩
 exact⟨fun b o eb=>⟨(O.base b o eb).1,by rw[upd_ne];exact(O.base b o eb).2;rintro rfl;rw[hb] at eb;cases eb⟩,fun b z eb=>by
  by_cases hbD:b=d
  ·subst hbD
   rw[upd_self] at eb;cases eb
   exact(iAE (hx.mono k (fun V e=>e)) o ho)
  ·rw[upd_ne _ _ hbD] at eb
   obtain⟨r,w⟩:=O.own b z eb
   exact⟨r.mono k (fun V e=>e),w⟩⟩
theorem Ev.dictS{ks:List (Option Expr)}{vs:List Expr}{pos:Pos}(h:Evp G ℓ sc m own ks vs fun r o1=>∃ aps:List (Str × AV),r=aps.map (fun p=>(AV.str p.1,p.2))∧aps.length≤100∧∀ d,o1 d=Option.none→K (.ref d) (upd o1 d (.dS (aps.foldl (fun acc p=>aPut acc p.1 p.2) []))))
  (hall:autoParam (ks.all (·.isSome)=true) sR) (hl:autoParam (ks.length=vs.length) sR) (h0:autoParam (ks≠[]) sS) (hlen:autoParam (ks.length≤15) sD):Ev G ℓ sc m own (.Dict ks vs pos) K:=fun A env X s Q E hA O F hQ=>by
 refine wpAny_Dict_any hall hl h0 hlen ?_
 have S0:Step noX own own s {s with heap:=s.heap.push emptyDict}:=⟨(iEE _ s.toks rfl),fun b o e p V=>⟨push_ext b o e,p⟩⟩
 have O0:Ok G own (s.heap.push emptyDict):=O.ext push_ext
 refine h A env X _ pos _ E hA O0 (F.step S0) fun ps r o1 s1 k1 S1 O1 rk rv=>?_
 refine uEAA k1 ?_;clear k1;rintro aps rfl hap k1
 have hd0:=O.fresh (get_size s.heap)
 have hdk:=S1.keep s.heap.objs.size emptyDict (Heap.get?_push_size _ rfl) hd0 id
 have D1:s1.heap.DictOf (strKind G.prog G.w) s.heap.objs.size []:=by
  refine uEEEA (Heap.DictOf.new (knd:=strKind G.prog G.w) s.heap) fun o es ep ho r=>?_
  rw[show(s.heap.push {cls:=.type "dict",data:=.dict #[]}).get? s.heap.objs.size=some emptyDict from Heap.get?_push_size _ rfl] at ho
  cases ho
  exact(iEEEA _ es ep hdk.1 r)
 simp only[List.map_map] at rk rv
 have hb:=O.baseFresh (get_size s.heap)
 refine storeS (aps:=aps) (es:=[]) O1 hdk.2 hb D1 rfl .nil rk rv (by simp only[List.length_nil];have:=sizeLine_eq;lia) fun kvs' s2 S2 O2 D2 e2 r2=>?_
 refine uEEEAA (id D2) fun o2 V V ho2 hc2 V=>?_
 have O3:=adopt_own (x:=.dS (aps.foldl (fun acc p=>aPut acc p.1 p.2) [])) O2 hdk.2 hb ho2 (fun i n q=>by rw[q] at hc2;exact absurd hc2.1 (by simp)) (iAEAA (sysOut O) kvs' D2 e2 r2)
 refine hQ _ _ _ s2 (k1 _ hdk.2) ?_ O3 (.ref _)
 have S3:=S0.trans S1
 exact Step.upd (S3.hide S2 fun x o e V V hx=>by rw[List.mem_singleton.mp hx,get_size] at e;cases e) (fun o e=>absurd e (no_size _ o))
theorem storeT1{A:Around}{E:Value→Shared→Prop}{d:Addr}{s:Shared}{k v:Value}{l:List AV}{av:AV}{Q:PUnit→Shared→Prop}(hA:AOk A ℓ)(hl:ℓ≤1000)(O:Ok G own s.heap)(hd:own d=Option.none)(hb:G.base.get? d=Option.none)
  (D:s.heap.DictOfH (tk G.prog G.w) d []) (rk:VRep (fz own) s.heap k (.tup l)) (rv:VRep (fz own) s.heap v av) (hk:tkOk (.tup l))
  (hQ:∀ xs' s',Step (·∈[d]) own own s s'→Ok G own s'.heap→s'.heap.DictOfH (tk G.prog G.w) d xs'→xs'.map (·.1)=[.tup l]→VReps (fz own) s'.heap (xs'.map (·.2.2)) [av]→VReps (fz own) s'.heap (xs'.map fun x=>.ref x.2.1) [.tup l]→Q ⟨⟩ s') :
  wpAny (model G.prog G.w) A (storeAll d [(k,v)]) Q E s:=by
 obtain⟨b,rfl⟩:=rk.refOf
 unfold storeAll
 rw[List.forIn_cons]
 have hr:(tk G.prog G.w).room A:=by have:=hA.room hl;show A.units+16<cLine;lia
 refine wpAny_bind (wpAny_bind (wpAny_dictSet_heap hr (tk_is rk hk) D (fun h' D' hs'=>wpAny_pure ?_) (by simp)))
 have nt:∀ items n,s.heap.get? d≠some (tupO items n):=fun i n q=>by
  refine uEEEAA (id D) fun o V V ho hc V=>?_
  rw[q] at ho;cases ho
  exact absurd hc.1 (by simp)
 have S1:Step (·∈[d]) own own s {s with heap:=h',toks:=s.toks+(tk G.prog G.w).draws (.tup l)}:=Step.but hs'
 have T:=S1.monoY (fun a ha=>by rw[List.mem_singleton.mp ha];exact nt)
 have O1:Ok G own h':=O.frm hd hb nt hs'
 have e:storedH ([]:List (AV × Addr × Value)) (.tup l) b v=[(.tup l,b,v)]:=by unfold storedH;rfl
 have D2:h'.DictOfH (tk G.prog G.w) d [(.tup l,b,v)]:=e▸D'
 show wpAny _ A (forIn [] PUnit.unit _) Q E _
 exact wpAny_pure (hQ _ _ S1 O1 D2 rfl (.cons (rv.mono T) .nil) (.cons (rk.mono T) .nil))
theorem Ev.dictT1{k v:Expr}{pos:Pos}(hl:ℓ≤1000)(h:Ev G ℓ sc m own k fun a o1=>Ev G ℓ sc m o1 v fun b o2=>∃ l,a=.tup l∧tkOk (.tup l)∧∀ d,o2 d=Option.none→K (.ref d) (upd o2 d (.dT [(.tup l,b)]))):Ev G ℓ sc m own (.Dict [some k] [v] pos) K:=fun A env X s Q E hA O F hQ=>by
 refine wpAny_Dict_any rfl rfl (by simp) (by show 1≤15;decide) ?_
 have S0:Step noX own own s {s with heap:=s.heap.push emptyDict}:=⟨(iEE _ s.toks rfl),fun b o e p V=>⟨push_ext b o e,p⟩⟩
 have O0:Ok G own (s.heap.push emptyDict):=O.ext push_ext
 refine pairTrees_cons_walk (h A env X _ _ E hA O0 (F.step S0) fun va a o1 s1 k1 S1 O1 r1=>?_)
 refine k1 A env X s1 _ E hA O1 ((F.step S0).step S1) fun vb b o2 s2 k2 S2 O2 r2=>pairTrees_nil_walk ?_
 refine uEAA k2 ?_;clear k2;rintro l rfl hk k2
 have hd0:=O.fresh (get_size s.heap)
 have S12:=S1.trans S2
 have hdk:=S12.keep s.heap.objs.size emptyDict (Heap.get?_push_size _ rfl) hd0 id
 have D2:s2.heap.DictOfH (tk G.prog G.w) s.heap.objs.size []:=by
  refine uEEEA (Heap.DictOfH.new (knd:=tk G.prog G.w) s.heap) fun o es ep ho r=>?_
  rw[show(s.heap.push {cls:=.type "dict",data:=.dict #[]}).get? s.heap.objs.size=some emptyDict from Heap.get?_push_size _ rfl] at ho
  cases ho
  refine uAAAA r ?_;clear r;rintro q1 q2 q3 q4 q5
  exact(iEEEAAAAA _ es ep hdk.1 q1 q2 q3 (fun x hx=>absurd hx (by simp)) q5)
 have hb:=O.baseFresh (get_size s.heap)
 refine storeT1 hA hl O2 hdk.2 hb D2 (r1.step S2) r2 hk fun xs' s3 S3 O3 D3 e3 q1 q2=>?_
 refine uEEEAA (id D3) fun o3 V V ho3 hc3 V=>?_
 have O4:=adopt_own (x:=.dT [(.tup l,b)]) O3 hdk.2 hb ho3 (fun i n q=>by rw[q] at hc3;exact absurd hc3.1 (by simp)) (iAEAAA (sysOut O) xs' D3 e3 q1 q2)
 refine hQ _ _ _ s3 (k2 _ hdk.2) ?_ O4 (.ref _)
 exact Step.upd ((S0.trans S12).hide S3 fun x o e V V hx=>by rw[List.mem_singleton.mp hx,get_size] at e;cases e) (fun o e=>absurd e (no_size _ o))
end
section
variable{G:GC}{ℓ:Nat}{sc:Names}{m:MM}{own:Own}
inductive DownH (J:Nat→MM→Own→Prop) (n:Nat) (m:MM) (o:Own):Prop
 |mk (k:Nat) (m':MM) (o':Own) (h0:k<n) (h1:∀ x v,m' x=some v→m x=some v) (h2:sub o' o) (h:J k m' o')
noncomputable def whK(J:Nat→MM→Own→Prop)(n:Nat)(K:AF→MM→Own→Prop):AF→MM→Own→Prop
 |.nxt,m,o=>DownH J n m o
 |.ret v,m,o=>K (.ret v) m o
inductive WhileH (G:GC) (ℓ:Nat) (sc:Names) (test:Expr) (body:List Stmt) (K:AF→MM→Own→Prop) (m:MM) (own:Own):Prop
 |mk (J:Nat→MM→Own→Prop) (n:Nat) (h0:J n m own) (hs:∀(J':Nat→MM→Own→Prop)(K':AF→MM→Own→Prop),(∀ i m o,J i m o→J' i m o)→(∀ f m o,K f m o→K' f m o)→∀ n m' o',J n m' o'→
   Tst G ℓ sc m' o' test fun b o1=>if b=true then Exs G ℓ sc m' o1 body (whK J' n K') else K' .nxt m' o1)
theorem Ex.while_{test:Expr}{body:List Stmt}{pos:Pos}{K:AF→MM→Own→Prop}(h:WhileH G ℓ sc test body K m own):Ex G ℓ sc m own (.While test body [] pos) K:=fun A env X s Q E hA O F hQ=>by
 obtain⟨J,n,J0,Jstep⟩:=h
 refine wpAny_While (codeAny_whileLoop (fun n s'=>∃ m' o',J n m' o'∧Step X own o' s s'∧Ok G o' s'.heap∧Frm G sc env X m' o' s'.heap) ?_ n (iEEAAA m own J0 (Step.refl s) O F))
 rintro n s' hh;refine uEEAAA hh ?_;clear hh;rintro m' o' hJ S' O' F'
 refine Jstep J K (fun V V V h=>h) (fun V V V h=>h) n m' o' hJ A env X s' _ _ hA O' F' fun b o1 s1 k1 S1 O1=>?_
 cases b with
 |true=>
  refine k1 A env X s1 _ _ hA O1 (F'.step S1) fun f af m2 o2 s2 k2 S2 O2 F2 r2=>?_
  cases f<;>cases af<;>first|exact r2.elim|skip
  ·obtain⟨k,m3,o3,hk,hm,hs,hJ'⟩:=k2
   exact(iEAEEAAA k hk m3 o3 hJ' (((S'.trans S1.weak).trans S2).less hs) (O2.less hs) ((F2.less hs).forget hm))
  ·exact hQ _ _ m2 o2 s2 k2 ((S'.trans S1.weak).trans S2) O2 F2 r2
 |false=>
  exact wpAny_execs_nil (hQ .next .nxt m' o1 s1 k1 (S'.trans S1.weak) O1 (F'.step S1) trivial)
theorem Ex.assign2{x y:Str}{p q tpos pos:Pos}{k:Nat}{value:Expr}{K:AF→MM→Own→Prop}(hx:stOk sc x=true)(hy:stOk sc y=true)
  (h:Ev G ℓ sc m own value fun av o1=>∃ a b,av=.tup [a,b]∧K .nxt (mset (mset m x a) y b) o1)
  (hs:autoParam (∀ env,swapsWithSole [.Tuple [.Name x p,.Name y q] k tpos] value pos.line env=pure false) sI)
  (hw:autoParam (∀ env,swappedStores [.Tuple [.Name x p,.Name y q] k tpos] value env=pure Option.none) sI) :
  Ex G ℓ sc m own (.Assign [.Tuple [.Name x p,.Name y q] k tpos] value pos) K:=fun A env X s Q E hA O F hQ=>by
 refine Assign_Tuple (h A env X s _ E hA O F fun v av o1 s1 k1 S1 O1 r1=>?_) (hs env) (hw env)
 refine uEEA k1 ?_;clear k1;rintro a b rfl k1
 exact Frm.assign hA.handled (F.step S1) O1 r1 (.pair hx hy) fun s2 S2 O2 F2=>hQ _ .nxt _ _ s2 k1 (S1.weak.trans S2) O2 F2 trivial
theorem Ex.assign2w{x y:Str}{p q tpos pos:Pos}{k:Nat}{value:Expr}{K:AF→MM→Own→Prop}(hx:sc.lookup x=some .local)(hy:sc.lookup y=some .local)
  (h:Ev G ℓ sc m own value fun av o1=>∃ a b,av=.tup [a,b]∧K .nxt (mset (mset m y b) x a) o1)
  (hs:autoParam (∀ env,swapsWithSole [.Tuple [.Name x p,.Name y q] k tpos] value pos.line env=pure false) sI)
  (hw:∀ env:Env,env.kindOf x=some .local→env.kindOf y=some .local→env.scope.kind=.function→swappedStores [.Tuple [.Name x p,.Name y q] k tpos] value env=pure (some [x,y])) :
  Ex G ℓ sc m own (.Assign [.Tuple [.Name x p,.Name y q] k tpos] value pos) K:=fun A env X s Q E hA O F hQ=>by
 refine Assign_Tuple_swapped (h A env X s _ E hA O F fun v av o1 s1 k1 S1 O1 r1=>?_) (hs env) (hw env (F.klocal x hx) (F.klocal y hy) F.kind)
 refine uEEA k1 ?_;clear k1;rintro a b rfl k1
 cases r1 with
 |@tup T items n _ pT ho hi=>
 refine uEEAA hi.two fun u w e ru rw'=>?_
 have hsz:items.size=2:=by rw[← Array.length_toList,e];rfl
 show wpAny _ A (unpackItems (.ref T) 2 Option.none) _ E s1
 rw[← hsz]
 refine PyProof.Rows.unpackItems_tuple hA.handled (iEAAE _ ho rfl _ rfl) fun h' hx'=>?_
 have S0:Step noX o1 o1 s1 {s1 with heap:=h'}:=⟨(iEE _ s1.toks rfl),fun b o e' p V=>⟨ext_of_but hx' b o e',p⟩⟩
 have O0:Ok G o1 h':=O1.ext (ext_of_but hx')
 rw[e]
 have F1:=(F.step S1).step S0
 show wpAny _ A (do holding [u] (bindName env y w);do holding [] (bindName env x u);pure ()) _ E _
 refine wpAny_bind (wpAny_holding (bindName_ (F1.st O0 (rw'.step S0) (by rw[stOk,hy];rfl) fun s2 S2 O2 F2=>?_)))
 refine wpAny_bind (wpAny_holding (bindName_ (F2.st O2 ((ru.step S0).stepX F1 S2) (by rw[stOk,hx];rfl) fun s3 S3 O3 F3=>wpAny_pure ?_)))
 exact hQ _ .nxt _ _ s3 k1 (((S1.weak.trans S0.weak).trans S2).trans S3) O3 F3 trivial
end
section
variable{G:GC}{ℓ:Nat}{own:Own}{A:Around}{E:Value→Shared→Prop}{s:Shared}
noncomputable def rngL(a b:Int):List AV:=intL ((List.range (b-a).toNat).map fun(i:Nat)=>a+(i:Int))
theorem rngL_length(a b:Int):(rngL a b).length=(b-a).toNat:=by unfold rngL;rw[intL_length,List.length_map,List.length_range]
theorem rngL_get{a b:Int}{i:Nat}{d:AV}(h:(rngL a b)[i]?=some d):i<(b-a).toNat∧d=.int (a+(i:Int)):=by
 unfold rngL at h
 rw[intL_get,List.getElem?_map] at h
 by_cases hi:i<(b-a).toNat
 ·rw[List.getElem?_range hi] at h
  simp only[Option.map_some,Option.some.injEq] at h
  exact⟨hi,h.symm⟩
 ·rw[List.getElem?_eq_none (by rw[List.length_range];lia)] at h
  simp at h
theorem Src.rng(hh:A.handled=Option.none)(t:Expr)(I:Addr)(a b:Int):Src G A t I [I] (rngL a b) (fun V=>True) (fun i V h=>IsRangeIter h I (a+(i:Int)) ((rngL a b).length-(i:Int)) 1) where
 frame:=fun st V hk=>hk I (by simp) _ st
 live:=fun st b hb=>by
  rw[List.mem_singleton.mp hb]
  exact(iEA _ st (fun i n q=>by simp at q))
 item:=@fun i own s d Q E hd hC O hw st hQ=>by
  obtain⟨hi,rfl⟩:=rngL_get hd
  have nt:∀ i n,s.heap.get? I≠some (tupO i n):=fun i n q=>by rw[st] at q;simp at q
  have hl:=rngL_length a b
  refine wpAny_pyNext_range_item st (by lia) fun h' hit' hs'=>(iEA _ rfl ?_)
  have S:Step (·∈[I]) own own s {s with heap:=h',toks:=s.toks+1}:=Step.but hs'
  refine letOwned_pass (s:={s with heap:=h',toks:=s.toks+1}) hit' rfl (by decide) (hQ _ _ S (O.frm (hw I (by simp)).1 (hw I (by simp)).2 nt hs') ?_ (.int _ _))
  have e1:a+(i:Int)+1=a+((i+1:Nat):Int):=Int.add_assoc _ _ _
  have e2:((rngL a b).length:Int)-(i:Int)-1=((rngL a b).length:Int)-((i+1:Nat):Int):=Int.sub_sub _ _ _
  rw[e1,e2] at hit'
  exact hit'
 done:=@fun own s Q E hC O hw st hQ=>by
  have nt:∀ i n,s.heap.get? I≠some (tupO i n):=fun i n q=>by rw[st] at q;simp at q
  refine wpAny_pyNext_range_end hh st (by lia) fun h' he'=>⟨rfl,hQ _ (Step.xbut (tk:=s.toks) he') (O.xfrm (hw I (by simp)).1 (hw I (by simp)).2 nt he')⟩
 self:=fun {i own s} Q E st hQ=>by
  have hT:s.TypeIs (.ref I) "range_iterator":=(iEA _ st rfl)
  refine wpAny_pyIter_slot hT F.slot_range_iterator_iter (wpAny_call_entry F.slot_range_iterator_iter hT F.entry_range_iterator_iter ?_ (F.args_range_iterator_iter_1 _))
  exact wpAny_pure (iEAEEAA _ rfl ("range_iterator") _ hT F.slot_range_iterator_next.lookup hQ)
theorem ItT.rng{t:Expr}{r:Addr}{a b:Int}{K:List AV→(Own→Prop)→Own→Prop}(hl:own r=some (.rng a b))(h:K (rngL a b) (fun V=>True) own):ItT G ℓ own t (.ref r) K:=fun A s v Q E hA O r hQ=>by
 cases r
 obtain⟨⟨ha,hb,_,_,_,e⟩,_⟩:=O.own r _ hl
 refine wpAny_pyIter_range e (small_one (by have:=ha.1;lia) (by have:=ha.2;lia) (by have:=hb.1;lia) (by have:=hb.2;lia)) ?_
 refine hQ _ _ _ _ _ own _ h (Src.rng hA.handled t _ a b) ?_ (Step.ext push_ext) (O.ext push_ext) (fresh_new O)
 have e1:a+((0:Nat):Int)=a:=Int.add_zero a
 have e2:((rngL a b).length:Int)-((0:Nat):Int)=Builtin.Range.rangeSize a b 1:=by
  rw[rngL_length,rangeSize_one,Int.ofNat_zero,Int.sub_zero]
  split
  ·next h=>exact Int.toNat_of_nonneg (Int.sub_nonneg_of_le (Int.le_of_lt h))
  ·next h=>rw[Int.toNat_eq_zero.mpr (Int.sub_nonpos_of_le (Int.not_lt.mp h))];rfl
 show IsRangeIter _ _ (a+((0:Nat):Int)) (((rngL a b).length:Int)-((0:Nat):Int)) 1
 rw[e1,e2]
 exact Heap.get?_push_size _ rfl
noncomputable def signs(x:Str):List AV:=x.cps.toList.map fun c=>.str ⟨#[c]⟩
theorem Src.walk{t:Expr}{I:Addr}{n:Nat}{P:Nat→Value→Prop}{St:Nat→Heap→Prop}{L:List AV}(W:Walks G.prog G.w A I [I] [I] n P St)(hn:n=L.length)(hP:∀{i v d} {P':Addr→Prop} {h},P i v→L[i]?=some d→VRep P' h v d)
  (hlive:∀ i h,St i h→∃ o T vs,h.get? I=some o∧o.cls=.type T∧o.data=.fields vs∧(["enumerate","zip","dict_itemiterator","dict_reverseitemiterator","odict_iterator","itertools.zip_longest","itertools.pairwise"].contains T)=false) :
  Src G A t I [I] L (fun V=>True) (fun i V h=>St i h) where
 frame:=fun st V hk=>W.frame _ _ _ st fun b hb o e=>hk b hb o e
 live:=fun st b hb=>by
  rw[List.mem_singleton.mp hb]
  refine uEEEAAA (hlive _ _ st) fun o T vs ho hc hd V=>?_
  exact(iEA o ho (fun i n q=>by rw[q] at hd;cases hd))
 item:=@fun i own s d Q E hd hC O hw st hQ=>by
  have hi:i<n:=by rw[hn];exact(List.getElem?_eq_some_iff.mp hd).1
  refine uEEEAAA (hlive _ _ st) fun o T vs ho hc hdat V=>?_
  have nt:∀ i n,s.heap.get? I≠some (tupO i n):=fun i n q=>by rw[q] at ho;cases ho;cases hdat
  refine W.item i s _ _ hi st fun v h' tk hp st' hk=>(iEA v rfl ?_)
  have he:Heap.ExtBut I s.heap h':=fun b o hb e=>hk b o (by simpa using hb) e
  refine uEEEAAA (hlive _ _ st') fun o' T' vs' ho' hc' hd' hn'=>?_
  exact letOwned_pass (s:={s with heap:=h',toks:=tk}) ho' hc' hn' (hQ v _ (Step.xbut he) (O.xfrm (hw I (by simp)).1 (hw I (by simp)).2 nt he) st' (hP hp hd))
 done:=@fun own s Q E hC O hw st hQ=>by
  refine uEEEAAA (hlive _ _ st) fun o T vs ho hc hdat V=>?_
  have nt:∀ i n,s.heap.get? I≠some (tupO i n):=fun i n q=>by rw[q] at ho;cases ho;cases hdat
  refine W.done s _ _ (by rw[hn];exact st) fun h' tk hk=>⟨rfl,?_⟩
  have he:Heap.ExtBut I s.heap h':=fun b o hb e=>hk b o (by simpa using hb) e
  exact hQ _ (Step.xbut he) (O.xfrm (hw I (by simp)).1 (hw I (by simp)).2 nt he)
 self:=fun Q E st hQ=>W.self _ _ _ _ st hQ
theorem ItT.str{t:Expr}{x:Str}{K:List AV→(Own→Prop)→Own→Prop}(hx:x.cps.all (·<128)=true)(h:K (signs x) (fun V=>True) own):ItT G ℓ own t (.str x) K:=fun A s v Q E hA O r hQ=>by
 cases r with
 |str _ u=>
 refine wpAny_pyIter_ascii hx ?_
 refine hQ _ _ _ _ _ own _ h (Src.walk (L:=signs x) (Walks.strAscii hA.handled _ x u) (by simp[signs]) (fun {i v d P' h} hp hd=>?_) (fun i h st=>?_)) (iEAA _ (Heap.get?_push_size _ rfl) rfl rfl) (Step.ext push_ext) (O.ext push_ext) (fresh_new O)
 ·refine uEEA hp ?_;clear hp;rintro c u' hc rfl
  unfold signs at hd
  rw[List.getElem?_map,Array.getElem?_toList,hc] at hd
  cases hd
  exact .str _ _
 ·refine uEAA st ?_;clear st;rintro o ho hc hd
  exact(iEEEAAA o _ _ ho hc hd (by decide))
theorem nextOf_tuple_item{it t:Addr}{i:Nat}{items}{x:Value}{Q:Value→Shared→Prop}(hit:s.heap.IsTupleIter it t i)(ht:s.heap.IsTuple t items)(hx:items[i]?=some x)
  (hQ:∀ h',h'.IsTupleIter it t (i+1)→Heap.SameBut it s.heap h'→Q x {s with heap:=h'}):wpAny (model G.prog G.w) A (Builtin.SmallTypes.nextOf (.ref it)) Q E s:=by
 refine uEAA (id hit) fun o ho hc hd=>?_
 refine uEAAE ht ?_;clear ht;rintro ol hol _ nl hdl
 refine wpAny_bind (wpAny_callSpecial?_slot (name:=Str.ofString "__next__") hit.typeIs F.slot_tuple_iterator_next
  (wpAny_call_entry F.slot_tuple_iterator_next hit.typeIs F.entry_tuple_iterator_next ?_ (F.args_tuple_iterator_next_1 _)))
 show wpAny _ _ (field (.ref it) 0>>=_) _ _ s
 refine wpAny_bind (wpAny_field ho hd (x:=.ref t) rfl ?_)
 refine wpAny_bind (wpAny_field ho hd (x:=.int i 0) rfl ?_)
 refine wpAny_bind (wpAny_seqItems hol hdl ?_)
 simp only[Int.toNat_natCast,hx]
 refine wpAny_bind (wpAny_setField ho hd (by simp) (wpAny_pure (iEA x rfl (wpAny_pure (hQ _ ?_ (Heap.SameBut.update ..))))))
 exact(iEAA _ (Heap.get?_update_self _ ho (Obj.isFreed_of_fields (Obj.data_mapFields hd _))) ((Obj.cls_mapFields ..).trans hc) (by
  rw[Obj.data_mapFields hd];simp[rawInt]))
theorem nextOf_tuple_end{it t:Addr}{i:Nat}{items}{Q:Value→Shared→Prop}(hh:A.handled=none)(hit:s.heap.IsTupleIter it t i)(ht:s.heap.IsTuple t items)(hx:items[i]?=none)
  (hE:∀ h' e,Heap.ExtBut it s.heap h'→(∃ o,h'.get? e=some o∧o.cls=.type "StopIteration")→E (.ref e) {s with heap:=h'}):wpAny (model G.prog G.w) A (Builtin.SmallTypes.nextOf (.ref it)) Q E s:=by
 refine uEAA (id hit) fun o ho hc hd=>?_
 refine uEAAE ht ?_;clear ht;rintro ol hol _ nl hdl
 refine wpAny_bind (wpAny_callSpecial?_slot (name:=Str.ofString "__next__") hit.typeIs F.slot_tuple_iterator_next
  (wpAny_call_entry F.slot_tuple_iterator_next hit.typeIs F.entry_tuple_iterator_next ?_ (F.args_tuple_iterator_next_1 _)))
 show wpAny _ _ (field (.ref it) 0>>=_) _ _ s
 refine wpAny_bind (wpAny_field ho hd (x:=.ref t) rfl ?_)
 refine wpAny_bind (wpAny_field ho hd (x:=.int i 0) rfl ?_)
 refine wpAny_bind (wpAny_seqItems hol hdl ?_)
 simp only[Int.toNat_natCast,hx]
 refine wpAny_bind (wpAny_rule (wpAny_bind (wpAny_setField ho hd (by simp) ?_)))
 refine wpAny_bind ?_
 refine wpAny_bind (wpAny_newObj_type ?_ (by size_fits))
 refine wpAny_bind (m:=firstArgMember _ _) (wpAny_of_eq (a:=Value.none) (by first|rfl|(simp only[firstArgMember];rfl)) ?_)
 refine wpAny_newObj_type ?_ (by size_fits)
 refine wpAny_raiseNew_none hh ?_
 exact hE _ _ (((Heap.SameBut.update ..).extBut.push _).push _) (iEA _ (Heap.get?_push_size _ rfl) rfl)
theorem Draws.tup(hh:A.handled=none)(it t:Addr)(hne:t≠it)(items:Array Value) :
  Draws G.prog G.w A it [it,t] items.size (fun i v=>items[i]?=some v) (fun i h=>h.IsTupleIter it t i∧h.IsTuple t items) where
 live:=fun V V st=>let ⟨o,ho,_⟩:=st.1;⟨o,ho⟩
 frame:=fun V V V st hk=>⟨let ⟨o,ho,r⟩:=st.1;(iEA o (hk it (by simp) o ho) r),let ⟨o,ho,r⟩:=st.2;(iEA o (hk t (by simp) o ho) r)⟩
 item:=fun i s Q E hi st hQ=>by
  refine nextOf_tuple_item st.1 st.2 (x:=items[i]) (by simp[hi]) fun h' hit' hs'=>?_
  exact hQ _ h' s.toks (by simp[hi]) ⟨hit',st.2.extBut hs'.extBut hne⟩ hs'
 done:=fun s Q E st hE=>nextOf_tuple_end hh st.1 st.2 (by simp) hE
theorem wpAny_pureB{M:Model}{A:Around}{x:Bool}{Q:Bool→Shared→Prop}{E:Value→Shared→Prop}{s:Shared}(h:∀ b,Q b s):wpAny M A (pure x) Q E s:=wpAny_pure (h x)
theorem enum_new_tup(l:Addr)(items:Array Value)(n:Nat) :
  Meets (Builtin.«enumerate.__new__» ⟨[.type "enumerate",.ref l],[]⟩) (fun V R s=>s.heap.get? l=some (tupO items n)∧
   R (.ok (.ret (.ref (s.heap.push {cls:=.type "tuple_iterator",data:=.fields #[.ref l,.int 0 0]}).objs.size)))
    {s with heap:=(s.heap.push {cls:=.type "tuple_iterator",data:=.fields #[.ref l,.int 0 0]}).push {cls:=.type "enumerate",data:=.fields #[.none,.bool false,.ref s.heap.objs.size,rawInt 0,.none,.none]}}):=
 .of_wp fun prog w A R s h=>by
  obtain⟨hp,g,d,tk,os⟩:=s;obtain⟨hl,h⟩:=h
  have hsub:=sub_enumerate
  have hL:Heap.IsTuple (Shared.heap ⟨hp,g,d,tk,os⟩) l items:=(iEAAE _ hl rfl n rfl)
  wp_walk using AutoSeq1.wpAny_loadPart' hl
  refine wpAny_stack_any fun st=>wpAny_pureB fun b=>?_
  cases b
  ·wp_walk using AutoSeq1.wpAny_loadPart' hl,wpAny_pyIter_tuple hL
   exact(iEA _ rfl h)
  ·wp_walk using AutoSeq1.wpAny_loadPart' hl,wpAny_pyIter_tuple hL
   exact(iEA _ rfl h)
end
section
variable{G:GC}{ℓ:Nat}{own:Own}{A:Around}{E:Value→Shared→Prop}{s:Shared}
theorem Ok.xwr{G own h h'}{wr:List Addr}(O:Ok G own h)(ha:∀ b∈wr,own b=Option.none∧G.base.get? b=Option.none)(hn:∀ b∈wr,∀ items n,h.get? b≠some (tupO items n))(hs:∀ b o,b∉wr→h.get? b=some o→h'.get? b=some o):Ok G own h' where
 base:=fun b o e=>by
  have k:=O.base b o e
  have hb:b∉wr:=fun q=>by rw[(ha b q).2] at e;cases e
  exact⟨hs b o hb k.1,k.2⟩
 own:=fun b z e=>by
  refine uAE (O.own b z e) fun r o ho=>?_
  have hb:b∉wr:=fun q=>by rw[(ha b q).1] at e;cases e
  refine(iAE (r.mono (fun c i n e p=>⟨hs c _ ?_ e,p⟩) (fun o e=>hs b o hb e)) o (hs b o hb ho))
  exact fun q=>hn c q _ _ e
theorem Step.xwr{own:Own}{wr:List Addr}{h':Heap}{tk:Nat}(hs:∀ b o,b∉wr→s.heap.get? b=some o→h'.get? b=some o):Step (·∈wr) own own s {s with heap:=h',toks:=tk}:=
 ⟨(iEE _ _ rfl),fun b o e p nx=>⟨hs b o nx e,p⟩⟩
noncomputable def enumFrom:Nat→List AV→List AV
 |_,[]=>[]
 |n,x::xs=>.tup [.int n,x]::enumFrom (n+1) xs
theorem enumFrom_2:∀(x:Nat)(x_2:AV)(xs:List AV),enumFrom x (x_2::xs)=AV.tup [AV.int ↑x,x_2]::enumFrom (x+1) xs:=by intros;rfl
theorem enumFrom_length:∀(l:List AV)(n:Nat),(enumFrom n l).length=l.length
 |[],_=>rfl
 |x::xs,n=>by rw[enumFrom_2,List.length_cons,List.length_cons,enumFrom_length xs]
theorem enumFrom_get:∀{l:List AV} {n i:Nat} {d:AV},(enumFrom n l)[i]?=some d→∃ x,l[i]?=some x∧d=.tup [.int ((n+i:Nat):Int),x]
 |[],n,i,d,h=>by have:=List.getElem?_nil.symm.trans h;cases this
 |x::xs,n,0,d,h=>by simp[enumFrom_2] at h;exact(iEA x rfl h.symm)
 |x::xs,n,i+1,d,h=>by
  simp only[enumFrom_2,List.getElem?_cons_succ] at h
  refine uEA (enumFrom_get h) ?_;rintro y hy rfl
  exact(iEA y (by simpa using hy) (by rw[show n+1+i=n+(i+1) by lia]))
theorem Src.enum(hh:A.handled=Option.none){elts:List Expr}{k:Nat}{pos:Pos}(e it T:Addr)(L:List AV)(hei:e≠it):Src G A (.Tuple elts k pos) e [e,it] (enumFrom 0 L) (fun V=>True) (fun i own h=>(∃ old,IsEnum h e it i old)∧h.IsTupleIter it T i∧TupAt own h T L) where
 frame:=fun st kk hk=>(iAA (let ⟨old,ho⟩:=st.1;⟨old,hk e (by simp) _ ho⟩) (let ⟨o,ho,r⟩:=st.2.1;(iEA o (hk it (by simp) o ho) r)) (st.2.2.mono kk))
 live:=fun st b hb=>by
  refine uAA st ?_;clear st;rintro⟨old,he⟩ ⟨o,ho,hc,_⟩ _
  rcases List.mem_cons.mp hb with rfl|hb
  ·exact(iEA _ he (fun i n q=>by simp at q))
  ·rw[List.mem_singleton.mp hb];exact(iEA o ho (fun i n q=>by rw[q] at hc;simp at hc))
 item:=@fun i own s d Q E hd hC O hw st hQ=>by
  refine uAA st ?_;clear st;rintro⟨old,he⟩ hit ⟨items,n,hT0,hT,r⟩
  refine uEA (enumFrom_get hd) ?_;rintro x hx rfl
  rw[Nat.zero_add] at hd hQ
  refine uEA (r.get hx) fun v hv rv=>?_
  have hlt:i<items.size:=by
   rw[Array.getElem?_toList] at hv
   exact(Array.getElem?_eq_some_iff.mp hv).1
  have hTi:T≠it:=by rintro rfl;refine uEAA hit ?_;clear hit;rintro o ho hc _;rw[hT] at ho;cases ho;simp at hc
  have hTe:e≠T:=by rintro rfl;have he2:s.heap.get? e=some _:=he;rw[hT] at he2;simp at he2
  have nt:∀ b∈[e,it],∀ i n,s.heap.get? b≠some (tupO i n):=fun b hb i n q=>by
   rcases List.mem_cons.mp hb with rfl|hb
   ·have he2:s.heap.get? b=some _:=he
    rw[q] at he2;simp at he2
   ·rw[List.mem_singleton.mp hb] at q;refine uEAA hit ?_;clear hit;rintro o ho hc _;rw[q] at ho;cases ho;simp at hc
  refine wpAny_pyNext_enum_itemD (Draws.tup (A:=A.in1) hh it T hTi items) he ⟨hit,(iEAAE _ hT rfl n rfl)⟩ hlt hei (by simp[hei,hTe]) fun y h' tk hy ho' hst' ht' hsz hk=>(iEA _ rfl ?_)
  rw[hv.symm.trans (Array.getElem?_toList ..)|>.symm.trans rfl |> fun V=>show items[i]?=some v by simpa using hv] at hy
  cases hy
  refine wpAny_letOwnedTupleGo_enum ho' fun h2 he2 hs2=>?_
  have hk2:∀ b o,b∉[e,it]→s.heap.get? b=some o→h2.get? b=some o:=fun b o hb eb=>by
   have h1:b≠e:=fun q=>hb (by simp[q])
   have h3:b≠it:=fun q=>hb (by simp[q])
   exact(hs2.2 b h1).trans (hk b o h1 h3 eb)
  have S:Step (·∈[e,it]) own own s {s with heap:=h2,toks:=tk+1}:=Step.xwr hk2
  have O2:=O.xwr hw nt hk2
  have T2:=S.monoY (fun b hb=>nt b hb)
  have hese:s.heap.objs.size≠e:=Nat.ne_of_gt (Heap.lt_size he)
  refine hQ (.ref s.heap.objs.size) _ S O2 (iAA ⟨v,?_⟩ ?_ ?_) ?_
  ·have:((i:Int)+1)=((i+1:Nat):Int):=by lia
   rw[this] at he2;exact he2
  ·refine uEA hst'.1 fun o ho r'=>?_
   exact(iEA o ((hs2.2 it (Ne.symm hei)).trans ho) r')
  ·exact TupAt.mono (iEEAA items n hT0 hT r) T2
  ·refine .tup (n:=0) (O.fresh (get_size _)) ((hs2.2 _ hese).trans ht') ?_
   exact .cons (.int _ _) (.cons (rv.mono T2) .nil)
 done:=@fun own s Q E hC O hw st hQ=>by
  refine uAA st ?_;clear st;rintro⟨old,he⟩ hit ⟨items,n,hT0,hT,r⟩
  rw[enumFrom_length] at he hit
  have hTi:T≠it:=by rintro rfl;refine uEAA hit ?_;clear hit;rintro o ho hc _;rw[hT] at ho;cases ho;simp at hc
  have nt:∀ b∈[e,it],∀ i n,s.heap.get? b≠some (tupO i n):=fun b hb i n q=>by
   rcases List.mem_cons.mp hb with rfl|hb
   ·have he2:s.heap.get? b=some _:=he
    rw[q] at he2;simp at he2
   ·rw[List.mem_singleton.mp hb] at q;refine uEAA hit ?_;clear hit;rintro o ho hc _;rw[q] at ho;cases ho;simp at hc
  have hl:=r.length
  rw[Array.length_toList] at hl
  refine wpAny_pyNext_enum_endD (Draws.tup (A:=A.in1) hh it T hTi items) he ⟨by rw[hl];exact hit,(iEAAE _ hT rfl n rfl)⟩ fun h' he'=>⟨rfl,?_⟩
  have hk2:∀ b o,b∉[e,it]→s.heap.get? b=some o→h'.get? b=some o:=fun b o hb eb=>he' b o (fun q=>hb (by simp[q])) eb
  exact hQ _ (Step.xwr (tk:=s.toks) hk2) (O.xwr hw nt hk2)
 self:=fun Q E st hQ=>let ⟨_,he⟩:=st.1;wpAny_pyIter_enum he hQ
theorem Cal.enum{elts:List Expr}{k:Nat}{pos:Pos}{L:List AV}{K:List AV→(Own→Prop)→Own→Prop}(h:K (enumFrom 0 L) (fun V=>True) own):Cal G ℓ own (.ty "enumerate") [.tup L] (fun av o1=>ItT G ℓ o1 (.Tuple elts k pos) av K):=fun A s fv vs Q E hA O rf R hQ=>by
 obtain rfl:=rf.i_ty
 refine uEA R.one ?_;rintro va rfl ra
 cases ra with
 |@tup T items n _ pT eT r=>
 refine callType_new F.called_enumerate (by decide) (F.typeCall_enumerate_1 _) (F.newCall_enumerate_1 _) (fun obj=>F.args_object_init_2 obj _) F.entry_enumerate_new (enum_new_tup T items n) ⟨eT,?_⟩
 have hz:(s.heap.push {cls:=.type "tuple_iterator",data:=.fields #[.ref T,.int 0 0]}).objs.size=s.heap.objs.size+1:=Heap.size_push ..
 let it:=s.heap.objs.size
 let e:=s.heap.objs.size+1
 let h1:=s.heap.push {cls:=.type "tuple_iterator",data:=.fields #[.ref T,.int 0 0]}
 let h2:=h1.push {cls:=.type "enumerate",data:=.fields #[.none,.bool false,.ref it,rawInt 0,.none,.none]}
 have he:IsEnum h2 e it 0 .none:=by
  have:=Heap.get?_push_size h1 (o:={cls:=.type "enumerate",data:=.fields #[.none,.bool false,.ref it,rawInt 0,.none,.none]}) rfl
  rw[hz] at this;exact this
 have hit:h2.IsTupleIter it T 0:=(iEAA _ (Heap.get?_push_of_some _ (Heap.get?_push_size _ rfl)) rfl rfl)
 have pT1:upd own it (.tit L 0) T=Option.none:=by
  rw[upd_ne];exact pT
  rintro rfl;rw[get_size] at eT;cases eT
 have pT2:∀ b i n,s.heap.get? b=some (tupO i n)→own b=Option.none→upd own it (.tit L 0) b=Option.none:=fun b i n eb p=>by
  rw[upd_ne];exact p
  rintro rfl;rw[get_size] at eb;cases eb
 have O1:Ok G (upd own it (.tit L 0)) h1:=O.new push_ext (get_size _) (iEEEAAA T items n (iEAA _ (Heap.get?_push_size _ rfl) rfl rfl) pT1 (push_ext _ _ eT) (r.mono fun b i n eb p=>⟨push_ext _ _ eb,pT2 b i n eb p⟩)) ⟨_,Heap.get?_push_size _ rfl⟩
 have e1:h1.get? e=Option.none:=by have:=get_size h1;rw[hz] at this;exact this
 have e0:s.heap.get? e=Option.none:=by
  cases q:s.heap.get? e with
  |none=>rfl
  |some o=>exact absurd (Heap.lt_size q) (Nat.not_lt.mpr (Nat.le_succ _))
 have O2:Ok G (upd (upd own it (.tit L 0)) e (.enum it)) h2:=O1.new push_ext e1 he ⟨_,he⟩
 have S1:Step noX own (upd own it (.tit L 0)) s {s with heap:=h1,toks:=s.toks}:=Step.new O push_ext (get_size _)
 have S2:Step noX (upd own it (.tit L 0)) (upd (upd own it (.tit L 0)) e (.enum it)) {s with heap:=h1} {s with heap:=h2,toks:=s.toks}:=Step.new (s:={s with heap:=h1}) O1 push_ext e1
 show _∧_
 rw[hz]
 refine⟨(iEA _ he rfl),hQ (.ref e) (.ref e) _ {s with heap:=h2} ?_ (S1.trans S2) O2 (.ref _)⟩
 have o_it:=O.fresh (get_size s.heap)
 have o_e:=O.fresh e0
 have hne:e≠it:=Nat.succ_ne_self _
 have hs:sub own (upd (upd own it (.tit L 0)) e (.enum it)):=(sub.upd o_it).trans (sub.upd (by rw[upd_ne _ _ hne];exact o_e))
 have l_e:upd (upd own it (.tit L 0)) e (.enum it) e=some (.enum it):=upd_self ..
 have l_it:upd (upd own it (.tit L 0)) e (.enum it) it=some (.tit L 0):=by rw[upd_ne _ _ (Ne.symm hne),upd_self]
 intro A' s' v' Q' E' hA' O' r' hQ'
 obtain rfl:=r'.i_ref
 obtain⟨he',_⟩:=O'.own e _ l_e
 obtain⟨⟨T',items',n',hit',pT',eT',r'⟩,_⟩:=O'.own it _ l_it
 refine wpAny_pyIter_enum (i:=0) he' ?_
 refine hQ' e [e,it] _ _ _ own s' h (Src.enum hA'.handled e it T' L hne) (iAA ⟨_,he'⟩ hit' (iEEAA items' n' (hs.none pT') eT' (r'.less hs))) ⟨(iEE _ _ rfl),fun b o eb p V=>⟨eb,hs.none p⟩⟩ (O'.less hs) fun b hb=>?_
 rcases List.mem_cons.mp hb with rfl|hb
 ·refine(iAA o_e ?_ (fun o V=>by rw[l_e];simp))
  cases q:G.base.get? e with
  |none=>rfl
  |some o=>have:=(O'.base _ _ q).2;rw[l_e] at this;cases this
 ·rw[List.mem_singleton.mp hb]
  refine(iAA o_it ?_ (fun o V=>by rw[l_it];simp))
  cases q:G.base.get? it with
  |none=>rfl
  |some o=>have:=(O'.base _ _ q).2;rw[l_it] at this;cases this
end
inductive ZS where
 |tup (L:List AV)
 |lst (l:Addr) (L:List AV)
noncomputable def ZS.list:ZS→List AV
 |.tup L=>L
 |.lst _ L=>L
noncomputable def ZS.av:ZS→AV
 |.tup L=>.tup L
 |.lst l _=>.ref l
noncomputable def ZS.C(own:Own):ZS→Prop
 |.tup _=>True
 |.lst l L=>own l=some (.list L)
noncomputable def InIt(own:Own)(h:Heap)(i:Addr)(z:ZS)(k:Nat):Prop:=match z with
 |.tup L=>∃ T,h.IsTupleIter i T k∧TupAt own h T L
 |.lst l _=>h.IsListIter i l k
theorem InIt.frame{own own':Own}{h h':Heap}{i z k}(x:InIt own h i z k)(kk:TK (fz own) (fz own') h h')(hi:∀ o,h.get? i=some o→h'.get? i=some o):InIt own' h' i z k:=by
 cases z with
 |tup L=>refine uEA x ?_;clear x;rintro T ⟨o,ho,r⟩ t;exact(iEA T (iEA o (hi o ho) r) (t.mono kk))
 |lst l L=>refine uEA x ?_;clear x;rintro o ho r;exact(iEA o (hi o ho) r)
theorem InIt.live{own:Own}{h:Heap}{i z k}(x:InIt own h i z k):∃ o T,h.get? i=some o∧o.cls=.type T∧T≠"tuple"∧T≠"zip":=by
 cases z with
 |tup L=>refine uEA x ?_;clear x;rintro T ⟨o,ho,hc,_⟩ t;exact(iEEAAA o _ ho hc (by decide) (by decide))
 |lst l L=>refine uEAA x ?_;clear x;rintro o ho hc _;exact(iEEAAA o _ ho hc (by decide) (by decide))
theorem InIt.notup{own:Own}{h:Heap}{i z k}(x:InIt own h i z k):∀ its n,h.get? i≠some (tupO its n):=fun its n q=>by
 refine uEEAAA x.live fun o T ho hc h1 V=>?_
 rw[q] at ho;cases ho
 simp at hc
 exact h1 hc.symm
section
variable{G:GC}{ℓ:Nat}{own:Own}{A:Around}{E:Value→Shared→Prop}{s:Shared}
theorem InIt.next{i:Addr}{z:ZS}{k:Nat}{d:AV}{Q:Value→Shared→Prop}(x:InIt own s.heap i z k)(hC:z.C own)(O:Ok G own s.heap)(hi:own i=Option.none)(hd:z.list[k]?=some d)
  (hQ:∀ v h',InIt own h' i z (k+1)→Heap.SameBut i s.heap h'→VRep (fz own) s.heap v d→Q v {s with heap:=h'}):wpAny (model G.prog G.w) A (Builtin.SmallTypes.nextOf (.ref i)) Q E s:=by
 cases z with
 |tup L=>
  refine uEA x ?_;clear x;rintro T hit ⟨items,n,hT0,hT,r⟩
  refine uEA (r.get hd) fun v hv rv=>?_
  have nt:s.heap.get? i≠some (tupO items n):=fun q=>by refine uEAA hit ?_;clear hit;rintro o ho hc _;rw[q] at ho;cases ho;simp at hc
  have hTi:T≠i:=by rintro rfl;exact nt hT
  refine nextOf_tuple_item hit (iEAAE _ hT rfl n rfl) (by simpa using hv) fun h' hit' hs'=>hQ v h' (iEA T hit' ?_) hs' rv
  refine TupAt.mono (iEEAA items n hT0 hT r) fun b it m e p=>⟨(hs'.2 b ?_).trans e,p⟩
  rintro rfl
  refine uEAA hit ?_;clear hit;rintro o ho hc _;rw[e] at ho;cases ho;simp at hc
 |lst l L=>
  obtain⟨⟨items,n,e,r⟩,_⟩:=O.own l _ hC
  refine uEA (r.get hd) fun v hv rv=>?_
  exact wpAny_nextOf_list_item x (iEAAE _ e rfl n rfl) (by simpa using hv) fun h' hit' hs'=>hQ v h' hit' hs' rv
theorem InIt.fin{i:Addr}{z:ZS}{k:Nat}{Q:Value→Shared→Prop}(hh:A.handled=Option.none)(x:InIt own s.heap i z k)(hC:z.C own)(O:Ok G own s.heap)(hd:z.list[k]?=Option.none)
  (hE:∀ h' e,Heap.ExtBut i s.heap h'→(∃ o,h'.get? e=some o∧o.cls=.type "StopIteration")→E (.ref e) {s with heap:=h'}):wpAny (model G.prog G.w) A (Builtin.SmallTypes.nextOf (.ref i)) Q E s:=by
 cases z with
 |tup L=>
  refine uEA x ?_;clear x;rintro T hit ⟨items,n,hT0,hT,r⟩
  have hl:=r.length
  rw[Array.length_toList] at hl
  have hd':L[k]?=Option.none:=hd
  exact nextOf_tuple_end hh hit (iEAAE _ hT rfl n rfl) (by rw[List.getElem?_eq_none_iff] at hd';rw[Array.getElem?_eq_none_iff];lia) hE
 |lst l L=>
  obtain⟨⟨items,n,e,r⟩,_⟩:=O.own l _ hC
  have hl:=r.length
  rw[Array.length_toList] at hl
  have hd':L[k]?=Option.none:=hd
  exact wpAny_nextOf_list_end hh x (iEAAE _ e rfl n rfl) (by rw[List.getElem?_eq_none_iff] at hd';rw[Array.getElem?_eq_none_iff];lia) hE
noncomputable def col(zs:List ZS)(k:Nat):List AV:=zs.map fun z=>z.list.getD k .none
noncomputable def zipL(zs:List ZS)(m:Nat):List AV:=(List.range m).map fun k=>.tup (col zs k)
theorem zipL_get{zs:List ZS}{m k:Nat}{d:AV}(h:(zipL zs m)[k]?=some d):k<m∧d=.tup (col zs k):=by
 unfold zipL at h
 rw[List.getElem?_map] at h
 by_cases hk:k<m
 ·rw[List.getElem?_range hk] at h
  simp only[Option.map_some,Option.some.injEq] at h
  exact⟨hk,h.symm⟩
 ·rw[List.getElem?_eq_none (by rw[List.length_range];lia)] at h
  simp at h
noncomputable abbrev zipO(f0:Value)(f1:Bool)(TI TO:Addr):Obj:={cls:=.type "zip",dict:=none,data:=.fields #[f0,.bool f1,.bool false,.ref TI,.ref TO],slots:=#[]}
structure ZSt (own:Own) (h:Heap) (z TI TO:Addr) (its:List (Addr × ZS)) (k:Nat):Prop where
 at_:∃ f0 f1,h.get? z=some (zipO f0 f1 TI TO)∧(f0=.none∨∃ (T:Nat) (i:Array Value) (m:Nat),f0=rawInt T∧h.get? T=some (tupO i m)∧own T=Option.none)
 ti:∃ m,h.get? TI=some (tupO (its.map fun p=>Value.ref p.1).toArray m)∧own TI=Option.none
 to:own TO=some (.otup its.length)
 inn:∀ p∈its,InIt own h p.1 p.2 k
structure ZOk (z:Addr) (its:List (Addr × ZS)) (m:Nat):Prop where
 nodup:(z::its.map (·.1)).Nodup
 len:∀ p∈its,p.2.list.length=m
 ne:its≠[]
 few:its.length≤1000
noncomputable abbrev zwr(z:Addr)(its:List (Addr × ZS)):List Addr:=z::its.map (·.1)
theorem step_but{own:Own}{wr:List Addr}{b:Addr}{h':Heap}{s0:Shared}(hb:b∈wr)(S:Step (·∈wr) own own s0 s)(hs:Heap.SameBut b s.heap h'):Step (·∈wr) own own s0 {s with heap:=h'}:=
 S.trans ⟨(iEE _ s.toks rfl),fun c o e p nx=>⟨(hs.2 c fun q=>nx (q▸hb)).trans e,p⟩⟩
structure ZD (G:GC) (own:Own) (s0:Shared) (z TI TO:Addr) (f1:Bool) (its:List (Addr × ZS)) (k:Nat) (dn lf:List (Addr × ZS)) (s:Shared):Prop where
 split:its=dn++lf
 step:Step (·∈zwr z its) own own s0 s
 heap:∃ h',s={s0 with heap:=h'}
 ok:Ok G own s.heap
 zip:s.heap.get? z=some (zipO .ellipsis f1 TI TO)
 to:∃ items n,s.heap.get? TO=some (tupO items n)∧items.size=its.length∧VReps (fz own) s.heap (items.toList.take dn.length) (col (dn.map (·.2)) k)
 one:∀ p∈dn,InIt own s.heap p.1 p.2 (k+1)
 two:∀ p∈lf,InIt own s.heap p.1 p.2 k
theorem ZD.zin{s0:Shared}{z TI TO:Addr}{f1:Bool}{its:List (Addr × ZS)}{k:Nat}{dn lf:List (Addr × ZS)}(D:ZD G own s0 z TI TO f1 its k dn lf s):∀ b∈zwr z its,∀ i n,s.heap.get? b≠some (tupO i n):=fun b hb i n q=>by
 rcases List.mem_cons.mp hb with rfl|hb
 ·rw[D.zip] at q;simp at q
 ·refine uEA (List.mem_map.mp hb) ?_;rintro p hp rfl
  rw[D.split] at hp
  rcases List.mem_append.mp hp with hp|hp
  ·exact(D.one p hp).notup _ _ q
  ·exact(D.two p hp).notup _ _ q
theorem ZD.item{s0:Shared}{z TI TO:Addr}{f1:Bool}{its:List (Addr × ZS)}{k m:Nat}{dn lf:List (Addr × ZS)}{p:Addr × ZS}{Q:Value→Shared→Prop}(D:ZD G own s0 z TI TO f1 its k dn (p::lf) s)(Z:ZOk z its m)(hk:k<m)(hC:∀ p∈its,p.2.C own)(hw:∀ b∈zwr z its,own b=Option.none∧G.base.get? b=Option.none)(hto:own TO=some (.otup its.length))
  (hQ:∀ v h',(∀ items n,h'.get? TO=some (tupO items n)→∀ h'' (s'':Shared),h''.get? TO=some (tupO (items.setIfInBounds dn.length v) n)→Heap.SameBut TO h' h''→s''={s with heap:=h''}→ZD G own s0 z TI TO f1 its k (dn++[p]) lf s'')→(∃ items n,h'.get? TO=some (tupO items n)∧items.size=its.length)→Q v {s with heap:=h'}) :
  wpAny (model G.prog G.w) A (Builtin.SmallTypes.nextOf (.ref p.1)) Q E s:=by
 have hp:p∈its:=by rw[D.split];simp
 have hpw:p.1∈zwr z its:=List.mem_cons_of_mem _ (List.mem_map.mpr (iEA p hp rfl))
 have hd:∃ d,p.2.list[k]?=some d:=⟨_,List.getElem?_eq_getElem (by rw[Z.len p hp];exact hk)⟩
 obtain⟨d,hd⟩:=hd
 have nd:its.map (·.1)=dn.map (·.1)++p.1::lf.map (·.1):=by rw[D.split];simp
 have ndp:=Z.nodup
 rw[nd] at ndp
 have hzp:z≠p.1:=fun q=>by simp[q] at ndp
 have hdp:∀ q∈dn,q.1≠p.1:=fun q hq e=>by
  rw[List.nodup_cons,List.nodup_append] at ndp
  exact ndp.2.2.2 q.1 (List.mem_map.mpr (iEA q hq rfl)) p.1 List.mem_cons_self e
 have hlp:∀ q∈lf,q.1≠p.1:=fun q hq e=>by
  rw[List.nodup_cons,List.nodup_append,List.nodup_cons] at ndp
  exact ndp.2.2.1.1 (List.mem_map.mpr (iEA q hq e))
 have nt:=D.zin
 refine InIt.next (D.two p List.mem_cons_self) (hC p hp) D.ok (hw p.1 hpw).1 hd fun v h' hin hs rv=>hQ v h' ?_ ?_
 ·intro items n hT h'' s'' hT'' hs'' e''
  subst e''
  refine uEEAA D.to fun it0 n0 eT hsz rT=>?_
  have hTp:TO≠p.1:=by rintro rfl;exact(D.two p List.mem_cons_self).notup _ _ eT
  have e1:h'.get? TO=some (tupO it0 n0):=(hs.2 _ hTp).trans eT
  rw[hT] at e1
  cases e1
  have S1:Step (·∈zwr z its) own own s0 {s with heap:=h'}:=step_but hpw D.step hs
  have O1:Ok G own h':=D.ok.frm (hw p.1 hpw).1 (hw p.1 hpw).2 (nt p.1 hpw) hs
  have T1:TK (fz own) (fz own) s.heap h':=fun b i n e q=>⟨(hs.2 b (by rintro rfl;exact nt _ hpw _ _ e)).trans e,q⟩
  have hupd:upd own TO (.otup its.length)=own:=by
   funext b
   by_cases hb:b=TO
   ·subst hb;rw[upd_self,hto]
   ·rw[upd_ne _ _ hb]
  have T2:TK (fz own) (fz own) h' h'':=fun b i n e q=>⟨(hs''.2 b (by rintro rfl;have:own b=Option.none:=q;rw[hto] at this;cases this)).trans e,q⟩
  have O2:Ok G own h'':=by
   have:=O1.chg (y:=.otup its.length) hto hs'' (iEEA _ n hT'' (by rw[Array.size_setIfInBounds];exact hsz)) ⟨_,hT''⟩
   rwa[hupd] at this
  have S2:Step (·∈zwr z its) own own s0 {s with heap:=h''}:=S1.trans (s1:={s with heap:=h'}) ⟨(iEE _ s.toks rfl),fun c o e q nx=>⟨(hs''.2 c fun r=>by subst r;rw[hto] at q;cases q).trans e,q⟩⟩
  have kp:∀ b,b≠p.1→b≠TO→h''.get? b=s.heap.get? b:=fun b h1 h2=>(hs''.2 b h2).trans (hs.2 b h1)
  have hz:z≠TO:=by rintro rfl;have:=D.zip;rw[eT] at this;simp at this
  refine⟨by rw[D.split];simp,S2,?_,O2,(kp z hzp hz).trans D.zip,(iEEAA _ n hT'' (by rw[Array.size_setIfInBounds];exact hsz) ?_),?_,?_⟩
  ·obtain⟨h0,e0⟩:=D.heap;exact⟨h'',by rw[e0]⟩
  ·have hlen:dn.length<items.size:=by rw[hsz,D.split];simp
   have e3:(items.setIfInBounds dn.length v).toList.take (dn++[p]).length=items.toList.take dn.length++[v]:=by
    rw[Array.toList_setIfInBounds,List.length_append,List.length_singleton,List.take_add_one,List.getElem?_set_self (by simpa using hlen)]
    rw[List.take_set_of_le (Nat.le_refl _)]
    rfl
   rw[e3]
   have e4:col ((dn++[p]).map (·.2)) k=col (dn.map (·.2)) k++[d]:=by
    unfold col
    rw[List.map_append,List.map_append]
    simp[List.getD,hd]
   rw[e4]
   exact((rT.mono T1).mono T2).append (.cons ((rv.mono T1).mono T2) .nil)
  ·intro q hq
   rcases List.mem_append.mp hq with hq|hq
   ·have hqT:q.1≠TO:=fun e=>(D.one q hq).notup _ _ (e▸eT)
    exact((D.one q hq).frame T1 (fun o e=>(hs.2 _ (hdp q hq)).trans e)).frame T2 (fun o e=>(hs''.2 _ hqT).trans e)
   ·rw[List.mem_singleton.mp hq]
    exact hin.frame T2 (fun o e=>(hs''.2 _ (Ne.symm hTp)).trans e)
  ·intro q hq
   have hqT:q.1≠TO:=fun e=>(D.two q (List.mem_cons_of_mem _ hq)).notup _ _ (e▸eT)
   exact((D.two q (List.mem_cons_of_mem _ hq)).frame T1 (fun o e=>(hs.2 _ (hlp q hq)).trans e)).frame T2 (fun o e=>(hs''.2 _ hqT).trans e)
 ·refine uEEAA D.to fun it0 n0 eT hsz rT=>?_
  have hTp:TO≠p.1:=by rintro rfl;exact(D.two p List.mem_cons_self).notup _ _ eT
  exact(iEEA it0 n0 ((hs.2 _ hTp).trans eT) hsz)
end
section
variable{G:GC}{ℓ:Nat}{own:Own}{A:Around}{E:Value→Shared→Prop}{s:Shared}
theorem ZSt.zin{z TI TO:Addr}{its:List (Addr × ZS)}{k:Nat}(D:ZSt own s.heap z TI TO its k):∀ b∈zwr z its,∀ i n,s.heap.get? b≠some (tupO i n):=fun b hb i n q=>by
 rcases List.mem_cons.mp hb with rfl|hb
 ·refine uEEA D.at_ fun f0 f1 e V=>?_
  rw[e] at q;simp at q
 ·refine uEA (List.mem_map.mp hb) ?_;rintro p hp rfl
  exact(D.inn p hp).notup _ _ q
theorem zip_set{z TI TO:Addr}{f0':Value}{f1':Bool}{h':Heap}{its:List (Addr × ZS)}{k:Nat}(O:Ok G own s.heap)(D:ZSt own s.heap z TI TO its k)(hw:∀ b∈zwr z its,own b=Option.none∧G.base.get? b=Option.none)(Z:z∉its.map (·.1))
  (e':h'.get? z=some (zipO f0' f1' TI TO)) (hf:f0'=.none∨∃ (T:Nat) (i:Array Value) (m:Nat),f0'=rawInt T∧s.heap.get? T=some (tupO i m)∧own T=Option.none) (hs:Heap.SameBut z s.heap h') :
  Step (·∈zwr z its) own own s {s with heap:=h'}∧Ok G own h'∧ZSt own h' z TI TO its k:=by
 have hz:=hw z List.mem_cons_self
 have nt:=D.zin
 have S1:Step (·∈zwr z its) own own s {s with heap:=h'}:=step_but List.mem_cons_self (Step.refl s) hs
 have T1:TK (fz own) (fz own) s.heap h':=fun b i n e q=>⟨(hs.2 b (by rintro rfl;exact nt _ List.mem_cons_self _ _ e)).trans e,q⟩
 refine(iAA S1 (O.frm hz.1 hz.2 (nt z List.mem_cons_self) hs) ⟨(iEEA f0' f1' e' ?_),?_,D.to,?_⟩)
 ·rcases hf with h|⟨T,i,m,h1,h2,h3⟩
  ·exact .inl h
  ·exact .inr (iEEEAA T i m h1 ((T1 _ _ _ h2 h3).1) h3)
 ·refine uEA D.ti fun m e q=>?_
  exact(iEA m ((T1 _ _ _ e q).1) q)
 ·intro p hp
  refine(D.inn p hp).frame T1 (fun o e=>(hs.2 _ ?_).trans e)
  intro q
  exact Z (q▸List.mem_map.mpr (iEA p hp rfl))
theorem zip_let{t:Expr}{v:Value}{z TI TO:Addr}{its:List (Addr × ZS)}{k:Nat}{Q:Unit→Shared→Prop}(O:Ok G own s.heap)(D:ZSt own s.heap z TI TO its k)(hw:∀ b∈zwr z its,own b=Option.none∧G.base.get? b=Option.none)(Z:z∉its.map (·.1))
  (hQ:∀ s',Step (·∈zwr z its) own own s s'→Ok G own s'.heap→ZSt own s'.heap z TI TO its k→Q () s'):wpAny (model G.prog G.w) A (letOwnedTupleGo t (.ref z) v) Q E s:=by
 have pass:Q () s:=hQ s (Step.refl s) O D
 refine uEEA D.at_ fun f0 f1 e hf=>?_
 have key:∀ a,wpAny (model G.prog G.w) A (do
   let o ← load z
   match o.cls,o.data with
   |.type n,.fields vs=>
    if ["enumerate","zip","dict_itemiterator","dict_reverseitemiterator","odict_iterator","itertools.zip_longest","itertools.pairwise"].contains n&&vs[0]? == some (rawInt a) then
     rule "for.unpacks-the-owned-tuple"
     updateField z 0 .none
   |_,_=>pure ()) Q E s:=fun a=>by
  refine wpAny_bind (wpAny_load e ?_)
  dsimp only
  split
  ·refine wpAny_bind (wpAny_rule ?_)
   show wpAny _ _ (setField (.ref z) 0 .none) Q E s
   refine wpAny_setField_rec e (by simp) fun h' e' hs=>?_
   refine uAA (zip_set (f0':=.none) (f1':=f1) O D hw Z e' (.inl rfl) hs) fun S1 O1 D1=>?_
   exact hQ _ S1 O1 D1
  ·exact wpAny_pure pass
 cases t<;>first|exact wpAny_pure pass|(cases v<;>first|exact wpAny_pure pass|exact key _)
theorem zip_done{s0:Shared}{z TI TO:Addr}{its:List (Addr × ZS)}{k:Nat}{o:Obj}{h7 h8:Heap}{f0':Value}{f1':Bool}(D:ZSt own s0.heap z TI TO its k)(hw:∀ b∈zwr z its,own b=Option.none∧G.base.get? b=Option.none)(Z:z∉its.map (·.1))(S:Step (·∈zwr z its) own own s0 s)(O:Ok G own s.heap)
  (hin:∀ p∈its,InIt own s.heap p.1 p.2 (k+1)) (Sp:Step noX own own s {s with heap:=s.heap.push o}) (Op:Ok G own (s.heap.push o)) (hs7:Heap.SameBut z (s.heap.push o) h7) (hs8:Heap.SameBut z h7 h8) (e8:h8.get? z=some (zipO f0' f1' TI TO))
  (hf:f0'=.none∨∃ (T:Nat) (i:Array Value) (m:Nat),f0'=rawInt T∧(s.heap.push o).get? T=some (tupO i m)∧own T=Option.none) (nt:∀ b∈zwr z its,∀ i n,s.heap.get? b≠some (tupO i n)) (hzs:z<s.heap.objs.size) :
  Step (·∈zwr z its) own own s0 {s with heap:=h8}∧Ok G own h8∧TK (fz own) (fz own) (s.heap.push o) h8∧ZSt own h8 z TI TO its (k+1):=by
 have hzw:z∈zwr z its:=List.mem_cons_self
 have hz:=hw z hzw
 have zl:∀ i n,(s.heap.push o).get? z≠some (tupO i n):=fun i n q=>by
  rw[Heap.get?_push_ne _ _ _ (Nat.ne_of_lt hzs)] at q
  exact nt z hzw i n q
 have hsz:Heap.SameBut z (s.heap.push o) h8:=hs7.trans hs8
 have T1:TK (fz own) (fz own) (s.heap.push o) h8:=fun b i n eb q=>⟨(hsz.2 b (fun h=>zl i n (h▸eb))).trans eb,q⟩
 have S1:Step (·∈zwr z its) own own s0 {s with heap:=s.heap.push o}:=S.trans Sp.weak
 have S2:Step (·∈zwr z its) own own s0 {s with heap:=h8}:=step_but (s:={s with heap:=s.heap.push o}) hzw S1 hsz
 refine(iAAA S2 (Op.frm hz.1 hz.2 zl hsz) T1 ⟨(iEEA f0' f1' e8 ?_),?_,D.to,?_⟩)
 ·rcases hf with h|⟨T,i,m,h1,h2,h3⟩
  ·exact .inl h
  ·exact .inr (iEEEAA T i m h1 ((T1 _ _ _ h2 h3).1) h3)
 ·refine uEA D.ti fun m e q=>?_
  exact(iEA m ((S2.keep _ _ e q (fun hb=>D.zin (s:=s0) _ hb _ _ e)).1) q)
 ·intro p hp
  refine(hin p hp).frame (fun b i n eb q=>T1 b i n (push_ext _ _ eb) q) (fun ob e=>(hsz.2 _ ?_).trans (push_ext _ _ e))
  intro q
  exact Z (q▸List.mem_map.mpr (iEA p hp rfl))
theorem alive_some{a:Addr}{o:Obj}{Q:Option Obj→Shared→Prop}(ho:s.heap.get? a=some o)(h:Q (some o) s):wpAny (model G.prog G.w) A (loadIfAlive a) Q E s:=by
 have h':Q (s.heap.get? a) s:=by rw[ho];exact h
 exact fun V V V=>h'
theorem free_no{z TI TO:Addr}{its:List (Addr × ZS)}{k T0:Nat}{f1:Bool}{i0:Array Value}{m0:Nat}(O:Ok G own s.heap)(D:ZSt own s.heap z TI TO its k)(hw:∀ b∈zwr z its,own b=Option.none∧G.base.get? b=Option.none)(Z:z∉its.map (·.1))(e:s.heap.get? z=some (zipO (rawInt T0) f1 TI TO))(eT0:s.heap.get? T0=some (tupO i0 m0))(hT0:own T0=Option.none) :
  wpAny (model G.prog G.w) A (Builtin.SmallTypes.ownedTupleIsFree (.ref z)) (fun b s1=>b=false∧(∃ h',s1={s with heap:=h'})∧Step (·∈zwr z its) own own s s1∧Ok G own s1.heap∧ZSt own s1.heap z TI TO its k∧s1.heap.get? z=some (zipO (rawInt T0) true TI TO)) E s:=by
 refine wpAny_bind (wpAny_field e rfl (x:=rawInt T0) rfl ?_)
 show wpAny _ A (do
  if (← loadIfAlive (T0:Int).toNat).isNone then return true
  if (← field (.ref z) 1) != .bool true then setField (.ref z) 1 (.bool true)
  return false) _ _ s
 refine wpAny_bind (alive_some (by rw[Int.toNat_natCast];exact eT0) ?_)
 rw[if_neg (by simp)]
 refine wpAny_bind (wpAny_field e rfl (x:=.bool f1) rfl ?_)
 cases f1 with
 |true=>
  rw[if_neg (by decide)]
  exact wpAny_pure (iAAAAA rfl ⟨_,rfl⟩ (Step.refl s) O D e)
 |false=>
  rw[if_pos (by decide)]
  refine wpAny_bind (wpAny_setField_rec e (by simp) fun h' e' hs=>wpAny_pure ?_)
  refine uAA (zip_set (f0':=rawInt T0) (f1':=true) O D hw Z e' (.inr (iEEEAA T0 i0 m0 rfl eT0 hT0)) hs) fun S1 O1 D1=>?_
  exact(iAAAAA rfl ⟨_,rfl⟩ S1 O1 D1 e')
structure ZF (G:GC) (own:Own) (s0:Shared) (z:Addr) (f0:Value) (TI TO:Addr) (its:List (Addr × ZS)) (k:Nat) (dn lf:List (Addr × ZS)) (got:Array Value) (s:Shared):Prop where
 split:its=dn++lf
 step:Step (·∈zwr z its) own own s0 s
 heap:∃ h',s={s0 with heap:=h'}
 ok:Ok G own s.heap
 zip:∃ f1,s.heap.get? z=some (zipO f0 f1 TI TO)
 got:VReps (fz own) s.heap got.toList (col (dn.map (·.2)) k)
 one:∀ p∈dn,InIt own s.heap p.1 p.2 (k+1)
 two:∀ p∈lf,InIt own s.heap p.1 p.2 k
theorem ZF.zin{s0:Shared}{z:Addr}{f0:Value}{TI TO:Addr}{its:List (Addr × ZS)}{k:Nat}{dn lf:List (Addr × ZS)}{got:Array Value}(D:ZF G own s0 z f0 TI TO its k dn lf got s):∀ b∈zwr z its,∀ i n,s.heap.get? b≠some (tupO i n):=fun b hb i n q=>by
 rcases List.mem_cons.mp hb with rfl|hb
 ·obtain⟨f1,e⟩:=D.zip
  rw[e] at q;simp at q
 ·refine uEA (List.mem_map.mp hb) ?_;rintro p hp rfl
  rw[D.split] at hp
  rcases List.mem_append.mp hp with hp|hp
  ·exact(D.one p hp).notup _ _ q
  ·exact(D.two p hp).notup _ _ q
theorem ZF.item{s0:Shared}{z:Addr}{f0:Value}{TI TO:Addr}{its:List (Addr × ZS)}{k m:Nat}{dn lf:List (Addr × ZS)}{p:Addr × ZS}{got:Array Value}{Q:Value→Shared→Prop}(D:ZF G own s0 z f0 TI TO its k dn (p::lf) got s)(Z:ZOk z its m)(hk:k<m)(hC:∀ p∈its,p.2.C own)(hw:∀ b∈zwr z its,own b=Option.none∧G.base.get? b=Option.none)
  (hQ:∀ v h',ZF G own s0 z f0 TI TO its k (dn++[p]) lf (got.push v) {s with heap:=h'}→Q v {s with heap:=h'}) :
  wpAny (model G.prog G.w) A (Builtin.SmallTypes.nextOf (.ref p.1)) Q E s:=by
 have hp:p∈its:=by rw[D.split];simp
 have hpw:p.1∈zwr z its:=List.mem_cons_of_mem _ (List.mem_map.mpr (iEA p hp rfl))
 obtain⟨d,hd⟩:∃ d,p.2.list[k]?=some d:=⟨_,List.getElem?_eq_getElem (by rw[Z.len p hp];exact hk)⟩
 have nd:its.map (·.1)=dn.map (·.1)++p.1::lf.map (·.1):=by rw[D.split];simp
 have ndp:=Z.nodup
 rw[nd] at ndp
 have hzp:z≠p.1:=fun q=>by simp[q] at ndp
 have hdp:∀ q∈dn,q.1≠p.1:=fun q hq e=>by
  rw[List.nodup_cons,List.nodup_append] at ndp
  exact ndp.2.2.2 q.1 (List.mem_map.mpr (iEA q hq rfl)) p.1 List.mem_cons_self e
 have hlp:∀ q∈lf,q.1≠p.1:=fun q hq e=>by
  rw[List.nodup_cons,List.nodup_append,List.nodup_cons] at ndp
  exact ndp.2.2.1.1 (List.mem_map.mpr (iEA q hq e))
 have nt:=D.zin
 refine InIt.next (D.two p List.mem_cons_self) (hC p hp) D.ok (hw p.1 hpw).1 hd fun v h' hin hs rv=>hQ v h' ?_
 have S1:Step (·∈zwr z its) own own s0 {s with heap:=h'}:=step_but hpw D.step hs
 have O1:Ok G own h':=D.ok.frm (hw p.1 hpw).1 (hw p.1 hpw).2 (nt p.1 hpw) hs
 have T1:TK (fz own) (fz own) s.heap h':=fun b i n e q=>⟨(hs.2 b (by rintro rfl;exact nt _ hpw _ _ e)).trans e,q⟩
 refine⟨by rw[D.split];simp,S1,?_,O1,?_,?_,?_,?_⟩
 ·obtain⟨h0,e0⟩:=D.heap;exact⟨h',by rw[e0]⟩
 ·obtain⟨f1,e1⟩:=D.zip;exact⟨f1,(hs.2 z hzp).trans e1⟩
 ·have e4:col ((dn++[p]).map (·.2)) k=col (dn.map (·.2)) k++[d]:=by
   unfold col
   rw[List.map_append,List.map_append]
   simp[List.getD,hd]
  rw[e4,Array.toList_push]
  exact(D.got.mono T1).append (.cons (rv.mono T1) .nil)
 ·intro q hq
  rcases List.mem_append.mp hq with hq|hq
  ·exact(D.one q hq).frame T1 (fun o e=>(hs.2 _ (hdp q hq)).trans e)
  ·rw[List.mem_singleton.mp hq];exact hin
 ·intro q hq
  exact(D.two q (List.mem_cons_of_mem _ hq)).frame T1 (fun o e=>(hs.2 _ (hlp q hq)).trans e)
theorem zip_next{z TI TO:Addr}{its:List (Addr × ZS)}{k m:Nat}{Q:Value→Shared→Prop}(O:Ok G own s.heap)(D:ZSt own s.heap z TI TO its k)(hw:∀ b∈zwr z its,own b=Option.none∧G.base.get? b=Option.none)(Z:ZOk z its m)(hk:k<m)(hC:∀ p∈its,p.2.C own)
  (hQ:∀ T s',Step (·∈zwr z its) own own s s'→Ok G own s'.heap→ZSt own s'.heap z TI TO its (k+1)→VRep (fz own) s'.heap (.ref T) (.tup (col (its.map (·.2)) k))→Q (.ref T) s') :
  wpAny (model G.prog G.w) A (Builtin.«zip.__next__» ⟨[.ref z],[]⟩) (fun fin s'=>∃ v,fin=.done (.ret v)∧Q v s') E s:=by
 refine uEEA D.at_ fun f0 f1 e hf=>?_
 refine uEA D.ti fun mt eTI hTI=>?_
 have hzn:z∉its.map (·.1):=(List.nodup_cons.mp Z.nodup).1
 show wpAny _ _ (field (.ref z) 2>>=_) _ _ _
 refine wpAny_bind (wpAny_field e rfl (x:=.bool false) rfl ?_)
 refine wpAny_bind (wpAny_field e rfl (x:=.ref TI) rfl ?_)
 refine wpAny_bind (wpAny_seqItems eTI rfl ?_)
 have hne:((its.map fun p=>Value.ref p.1).toArray).isEmpty=false:=by
  cases h:its with
  |nil=>exact absurd h Z.ne
  |cons a b=>simp
 dsimp only
 rw[if_neg (by rw[hne];exact Bool.false_ne_true)]
 have hsz:=Z.few
 have hzw:z∈zwr z its:=List.mem_cons_self
 obtain⟨iT,nT,eT,hTO⟩:∃ items n,s.heap.get? TO=some (tupO items n)∧items.size=its.length:=by
  obtain⟨⟨i,n,q1,q2⟩,_⟩:=O.own TO _ D.to
  exact(iEEA i n q1 q2)
 refine wpAny_bind (m:=Builtin.SmallTypes.ownedTupleIsFree (.ref z)) ?_
 rcases hf with rfl|⟨T0,i0,m0,rfl,eT0,hT0⟩
 ·unfold Builtin.SmallTypes.ownedTupleIsFree
  refine wpAny_bind (wpAny_field e rfl (x:=.none) rfl (wpAny_pure ?_))
  refine wpAny_bind (wpAny_rule ?_)
  refine wpAny_bind (wpAny_field e rfl (x:=.ref TO) rfl ?_)
  refine wpAny_bind (wpAny_setField_rec e (by simp) fun h1 e1 hs1=>?_)
  replace e1:h1.get? z=some (zipO .ellipsis f1 TI TO):=e1
  have nt:=D.zin
  have T1:TK (fz own) (fz own) s.heap h1:=fun b i n eb q=>⟨(hs1.2 b (fun h=>nt z hzw i n (h▸eb))).trans eb,q⟩
  have S1:Step (·∈zwr z its) own own s {s with heap:=h1}:=step_but hzw (Step.refl s) hs1
  have O1:Ok G own h1:=O.frm (hw z hzw).1 (hw z hzw).2 (nt z hzw) hs1
  have hTz:TO≠z:=by rintro rfl;exact nt _ hzw _ _ eT
  have D0:ZD G own s z TI TO f1 its k [] its {s with heap:=h1}:=by
   refine⟨rfl,S1,⟨h1,rfl⟩,O1,e1,(iEEAA iT nT ((hs1.2 _ hTz).trans eT) hTO ?_),fun p hp=>absurd hp (by simp),fun p hp=>(D.inn p hp).frame T1 fun o e=>(hs1.2 _ ?_).trans e⟩
   ·simp[col];exact .nil
   ·intro q;exact hzn (q▸List.mem_map.mpr (iEA p hp rfl))
  refine wpAny_bind ?_
  refine wpAny_forIn_list _ (fun rest b s'=>b.1=Option.none∧∃ dn lf,rest=(lf.map fun p=>Value.ref p.1).zipIdx dn.length∧ZD G own s z TI TO f1 its k dn lf s') _ ?_ ?_ _ _ (iAEEA rfl [] its rfl D0)
  ·rintro⟨x,idx⟩ rest b s' hh;refine uAEEA hh ?_;clear hh;rintro hb dn lf hrest D'
   cases lf with
   |nil=>simp at hrest
   |cons p lf=>
    rw[List.map_cons,List.zipIdx_cons,List.cons.injEq] at hrest
    obtain⟨hx,hrest⟩:=hrest
    cases hx
    refine wpAny_bind (wpAny_onRaise ?_)
    refine wpAny_bind (ZD.item D' Z hk hC hw D.to fun v h' hq ht=>wpAny_pure ?_)
    refine uEEA ht ?_;clear ht;rintro items n ht hts
    refine wpAny_bind (wpAny_seqItems ht rfl ?_)
    refine wpAny_bind (wpAny_updateSeq ht rfl ?_ (by rw[hts];have:=sizeLine_eq;lia) (by rw[Array.size_setIfInBounds,hts];have:=sizeLine_eq;lia))
    refine wpAny_bind (wpAny_letGo (wpAny_pure (iAEEA rfl (dn++[p]) lf (by rw[hrest];simp) ?_)))
    refine hq items n ht _ _ ?_ (Heap.SameBut.update ..) rfl
    rw[Heap.get?_update_self _ ht rfl]
    simp[Obj.mapSeq]
  ·rintro⟨b1,b2⟩ s' hh;refine uAEEA hh ?_;clear hh;rintro hb dn lf hrest D'
   have hlf:lf=[]:=by
    cases lf with
    |nil=>rfl
    |cons a b=>simp at hrest
   subst hlf
   simp only at hb
   subst hb
   have hdn:dn=its:=by have:=D'.split;rw[List.append_nil] at this;exact this.symm
   subst hdn
   refine uEEAA D'.to fun items n ht hts rT=>?_
   rw[List.take_of_length_le (by rw[Array.length_toList,hts];exact Nat.le_refl _)] at rT
   refine wpAny_bind (wpAny_seqItems ht rfl ?_)
   have hfew:=Z.few
   refine wpAny_bind (wpAny_newTuple ?_ (by rw[Array.length_toList,hts];have:=sizeLine_eq;lia))
   refine uAA (tup_new D'.ok rT) fun Sp Op rp=>?_
   obtain⟨h0,e0⟩:=D'.heap
   have hz':=D'.zip
   have ez2:(s'.heap.push {cls:=.type "tuple",data:=.seq items.toList.toArray}).get? z=some (zipO .ellipsis f1 TI TO):=Heap.get?_push_of_some _ hz'
   refine wpAny_bind (m:=Builtin.SmallTypes.ownedTupleHandOut (.ref z) (.ref s'.heap.objs.size)) ?_
   refine wpAny_bind (wpAny_setField_rec ez2 (by simp) fun h7 e7 hs7=>?_)
   replace e7:h7.get? z=some (zipO (rawInt s'.heap.objs.size) f1 TI TO):=e7
   refine wpAny_setField_rec e7 (by simp) fun h8 e8 hs8=>?_
   replace e8:h8.get? z=some (zipO (rawInt s'.heap.objs.size) false TI TO):=e8
   refine wpAny_pure (iEA _ rfl ?_)
   refine uAAA (zip_done D hw hzn D'.step D'.ok D'.one Sp Op hs7 hs8 e8 (.inr (iEEEAA _ _ _ rfl (Heap.get?_push_size _ rfl) (D'.ok.fresh (get_size _)))) (fun b hb=>D'.zin b hb) (Heap.lt_size D'.zip)) fun S9 O9 T9 D9=>?_
   exact hQ _ {s' with heap:=h8} S9 O9 D9 (rp.mono T9)
 ·refine wpAny_mono (free_no O D hw hzn e eT0 hT0) (fun b s1 hb=>?_) fun V V q=>q
  refine uAAAAA hb ?_;clear hb;rintro rfl ⟨h1,rfl⟩ S1 O1 D1 e1
  rw[← Array.forIn_toList]
  refine wpAny_bind ?_
  refine wpAny_forIn_list _ (fun rest b s'=>b.1=Option.none∧∃ dn lf,rest=(lf.map fun p=>Value.ref p.1)∧ZF G own s z (rawInt T0) TI TO its k dn lf b.2 s') _ ?_ ?_ _ _ (iAEEA rfl [] its rfl ?_)
  ·rintro x rest b s' hh;refine uAEEA hh ?_;clear hh;rintro hb dn lf hrest D'
   cases lf with
   |nil=>simp at hrest
   |cons p lf=>
    rw[List.map_cons,List.cons.injEq] at hrest
    obtain⟨rfl,hrest⟩:=hrest
    refine wpAny_bind (wpAny_holding ?_)
    refine wpAny_bind (ZF.item D' Z hk hC hw fun v h' D2=>wpAny_pure ?_)
    exact wpAny_pure (iAEEA rfl (dn++[p]) lf hrest D2)
  ·rintro⟨b1,b2⟩ s' hh;refine uAEEA hh ?_;clear hh;rintro hb dn lf hrest D'
   have hlf:lf=[]:=by
    cases lf with
    |nil=>rfl
    |cons a b=>simp at hrest
   subst hlf
   simp only at hb
   subst hb
   have hdn:dn=its:=by have:=D'.split;rw[List.append_nil] at this;exact this.symm
   subst hdn
   have rT:=D'.got
   have hlen:=rT.length
   rw[show(col (dn.map (·.2)) k).length=dn.length by simp[col]] at hlen
   refine wpAny_bind (wpAny_newTuple ?_ (by rw[hlen];have:=sizeLine_eq;lia))
   refine uAA (tup_new D'.ok rT) fun Sp Op rp=>?_
   obtain⟨f1',e2⟩:=D'.zip
   refine wpAny_pure (iEA _ rfl ?_)
   have hzw:z∈zwr z dn:=List.mem_cons_self
   refine uAAA (zip_done (h7:=s'.heap.push {cls:=.type "tuple",data:=.seq b2.toList.toArray}) D hw hzn D'.step D'.ok D'.one Sp Op (Heap.SameBut.refl ..) (Heap.SameBut.refl ..) (f0':=rawInt T0) (f1':=f1') (by exact Heap.get?_push_of_some _ e2) (.inr (iEEEAA T0 i0 m0 rfl (by
    exact Heap.get?_push_of_some _ (D'.step.keep T0 _ eT0 hT0 (fun hb=>D.zin _ hb _ _ eT0)).1) hT0)) (fun b hb=>D'.zin b hb) (Heap.lt_size e2)) fun S9 O9 T9 D9=>?_
   exact hQ _ {s' with heap:=_} S9 O9 D9 rp
  ·exact⟨rfl,S1,⟨h1,rfl⟩,O1,⟨true,e1⟩,.nil,fun p hp=>absurd hp (by simp),D1.inn⟩
end
section
variable{G:GC}{ℓ:Nat}{own:Own}{A:Around}{E:Value→Shared→Prop}{s:Shared}
theorem zip_end{z TI TO:Addr}{its:List (Addr × ZS)}{m:Nat}{Q:PySem.Fin→Shared→Prop}(hh:A.handled=Option.none)(O:Ok G own s.heap)(D:ZSt own s.heap z TI TO its m)(hw:∀ b∈zwr z its,own b=Option.none∧G.base.get? b=Option.none)(Z:ZOk z its m)(hC:∀ p∈its,p.2.C own)
  (hE:∀ h' e,Step (·∈zwr z its) own own s {s with heap:=h'}→Ok G own h'→(∃ o,h'.get? e=some o∧o.cls=.type "StopIteration")→E (.ref e) {s with heap:=h'}) :
  wpAny (model G.prog G.w) A (Builtin.«zip.__next__» ⟨[.ref z],[]⟩) Q E s:=by
 refine uEEA D.at_ fun f0 f1 e hf=>?_
 refine uEA D.ti fun mt eTI hTI=>?_
 have hzn:z∉its.map (·.1):=(List.nodup_cons.mp Z.nodup).1
 have hzw:z∈zwr z its:=List.mem_cons_self
 show wpAny _ _ (field (.ref z) 2>>=_) _ _ _
 refine wpAny_bind (wpAny_field e rfl (x:=.bool false) rfl ?_)
 refine wpAny_bind (wpAny_field e rfl (x:=.ref TI) rfl ?_)
 refine wpAny_bind (wpAny_seqItems eTI rfl ?_)
 obtain⟨p,its',rfl⟩:∃ p its',its=p::its':=by
  cases its with
  |nil=>exact absurd rfl Z.ne
  |cons p its'=>exact(iEE p its' rfl)
 have hpw:p.1∈zwr z (p::its'):=by simp
 have hpz:p.1≠z:=fun q=>hzn (by simp[q])
 have hend:p.2.list[m]?=Option.none:=List.getElem?_eq_none (by rw[Z.len p List.mem_cons_self];exact Nat.le_refl _)
 have hne:((List.map (fun p:Addr × ZS=>Value.ref p.1) (p::its')).toArray).isEmpty=false:=by simp
 dsimp only
 obtain⟨iT,nT,eT,hTO⟩:∃ items n,s.heap.get? TO=some (tupO items n)∧items.size=(p::its').length:=by
  obtain⟨⟨i,n,q1,q2⟩,_⟩:=O.own TO _ D.to
  exact(iEEA i n q1 q2)
 refine wpAny_bind (m:=Builtin.SmallTypes.ownedTupleIsFree (.ref z)) ?_
 rcases hf with rfl|⟨T0,i0,m0,rfl,eT0,hT0⟩
 ·unfold Builtin.SmallTypes.ownedTupleIsFree
  refine wpAny_bind (wpAny_field e rfl (x:=.none) rfl (wpAny_pure ?_))
  refine wpAny_bind (wpAny_rule ?_)
  refine wpAny_bind (wpAny_field e rfl (x:=.ref TO) rfl ?_)
  refine wpAny_bind (wpAny_setField_rec e (by simp) fun h1 e1 hs1=>?_)
  replace e1:h1.get? z=some (zipO .ellipsis f1 TI TO):=e1
  have nt:=D.zin
  have T1:TK (fz own) (fz own) s.heap h1:=fun b i n eb q=>⟨(hs1.2 b (fun h=>nt z hzw i n (h▸eb))).trans eb,q⟩
  have O1:Ok G own h1:=O.frm (hw z hzw).1 (hw z hzw).2 (nt z hzw) hs1
  have hin:InIt own h1 p.1 p.2 m:=(D.inn p List.mem_cons_self).frame T1 fun o e=>(hs1.2 _ hpz).trans e
  refine wpAny_bind ?_
  show wpAny _ _ (forIn ((Value.ref p.1::its'.map fun p=>Value.ref p.1).zipIdx) _ _) _ _ _
  refine wpAny_bind ?_
  refine wpAny_bind (wpAny_onRaise ?_)
  refine wpAny_bind (InIt.fin (s:={s with heap:=h1}) hh hin (hC p List.mem_cons_self) O1 hend fun h2 x hs2 hx=>?_)
  refine uEA hx ?_;clear hx;rintro ox hox hcx
  have e2:h2.get? z=some (zipO .ellipsis f1 TI TO):=hs2 _ _ (Ne.symm hpz) e1
  have hez:x≠z:=fun q=>by subst q;rw[e2] at hox;cases hox;simp at hcx
  refine wpAny_setField_rec e2 (by simp) fun h3 V hs3=>?_
  suffices hk:∀ b o,b∉zwr z (p::its')→s.heap.get? b=some o→h3.get? b=some o from hE h3 x (Step.xwr (tk:=s.toks) hk) (O.xwr hw nt hk) (iEA ox (hs3.extBut _ _ hez hox) hcx)
  intro b o hb eb
  have h1':b≠z:=fun q=>hb (q▸hzw)
  have h2':b≠p.1:=fun q=>hb (q▸hpw)
  exact hs3.extBut _ _ h1' (hs2 _ _ h2' (hs1.extBut _ _ h1' eb))
 ·refine wpAny_mono (free_no O D hw hzn e eT0 hT0) (fun b s1 hb=>?_) fun V V q=>q
  refine uAAAAA hb ?_;clear hb;rintro rfl ⟨h1,rfl⟩ S1 O1 D1 e1
  rw[← Array.forIn_toList]
  refine wpAny_bind ?_
  show wpAny _ _ (forIn (Value.ref p.1::its'.map fun p=>Value.ref p.1) _ _) _ _ _
  refine wpAny_bind ?_
  refine wpAny_bind (wpAny_holding ?_)
  refine wpAny_bind (InIt.fin (s:={s with heap:=h1}) hh (D1.inn p List.mem_cons_self) (hC p List.mem_cons_self) O1 hend fun h2 x hs2 hx=>?_)
  have hk:∀ b o,b∉zwr z (p::its')→h1.get? b=some o→h2.get? b=some o:=fun b o hb eb=>hs2 _ _ (fun q=>hb (q▸hpw)) eb
  exact hE h2 x (S1.trans (Step.xwr (s:={s with heap:=h1}) (tk:=s.toks) hk)) (O1.xwr hw (ZSt.zin (s:={s with heap:=h1}) D1) hk) hx
structure ZS0 (own:Own) (h:Heap) (z TI TO:Addr) (its:List (Addr × ZS)) (k:Nat):Prop where
 at_:∃ f0 f1,h.get? z=some (zipO f0 f1 TI TO)∧(f0=.none∨∃ (T:Nat) (i:Array Value) (m:Nat),f0=rawInt T∧h.get? T=some (tupO i m)∧own T=Option.none)
 ti:∃ m,h.get? TI=some (tupO (its.map fun p=>Value.ref p.1).toArray m)∧own TI=Option.none
 inn:∀ p∈its,InIt own h p.1 p.2 k
theorem ZS0.st{h:Heap}{z TI TO:Addr}{its:List (Addr × ZS)}{k:Nat}(x:ZS0 own h z TI TO its k)(ht:own TO=some (.otup its.length)):ZSt own h z TI TO its k:=⟨x.at_,x.ti,ht,x.inn⟩
theorem ZSt.s0{h:Heap}{z TI TO:Addr}{its:List (Addr × ZS)}{k:Nat}(x:ZSt own h z TI TO its k):ZS0 own h z TI TO its k:=⟨x.at_,x.ti,x.inn⟩
theorem ZS0.frame{own':Own}{h h':Heap}{z TI TO:Addr}{its:List (Addr × ZS)}{k:Nat}(x:ZS0 own h z TI TO its k)(kk:TK (fz own) (fz own') h h')(hk:∀ b∈zwr z its,∀ o,h.get? b=some o→h'.get? b=some o):ZS0 own' h' z TI TO its k:=by
 refine uEEA x.at_ fun f0 f1 e hf=>?_
 refine uEA x.ti fun m e2 h2=>?_
 refine⟨(iEEA f0 f1 (hk z List.mem_cons_self _ e) ?_),(iEA m ((kk _ _ _ e2 h2).1) ((kk _ _ _ e2 h2).2)),fun p hp=>(x.inn p hp).frame kk fun o e=>hk p.1 (List.mem_cons_of_mem _ (List.mem_map.mpr (iEA p hp rfl))) o e⟩
 rcases hf with h|⟨T,i,m,h1,h2,h3⟩
 ·exact .inl h
 ·exact .inr (iEEEAA T i m h1 ((kk _ _ _ h2 h3).1) ((kk _ _ _ h2 h3).2))
theorem Src.zip(hh:A.handled=Option.none)(t:Expr)(z TI TO:Addr)(its:List (Addr × ZS))(m:Nat)(Z:ZOk z its m):Src G A t z (zwr z its) (zipL (its.map (·.2)) m) (fun own=>own TO=some (.otup its.length)∧∀ p∈its,p.2.C own) (fun i own h=>ZS0 own h z TI TO its i) where
 frame:=fun st kk hk=>st.frame kk hk
 live:=fun {i own h} st b hb=>by
  rcases List.mem_cons.mp hb with rfl|hb
  ·refine uEEA st.at_ fun f0 f1 e V=>?_
   exact(iEA _ e (fun i n q=>by simp at q))
  ·refine uEA (List.mem_map.mp hb) ?_;rintro p hp rfl
   refine uEEAAA ((st.inn p hp).live) fun o T ho hc h1 V=>?_
   exact(iEA o ho (fun i n q=>by rw[q] at hc;simp at hc;exact h1 hc.symm))
 item:=@fun i own s d Q E hd hC O hw st hQ=>by
  obtain⟨hi,rfl⟩:=zipL_get hd
  have hzn:z∉its.map (·.1):=(List.nodup_cons.mp Z.nodup).1
  refine uEEA st.at_ fun f0 f1 e V=>?_
  have hT:s.TypeIs (.ref z) "zip":=(iEA _ e rfl)
  refine wpAny_bind (wpAny_attempt (wpAny_callSpecial?_slot (name:=Str.ofString "__next__") hT F.slot_zip_next
   (wpAny_call_entry F.slot_zip_next hT F.entry_zip_next (zip_next O (st.st hC.1) hw Z hi hC.2 fun T s' S' O' D' r'=>?_) (F.args_zip_next_1 _))))
  refine wpAny_pure (iEA _ rfl ?_)
  refine zip_let O' D' hw hzn fun s2 S2 O2 D2=>hQ _ s2 (S'.trans S2) O2 D2.s0 (r'.mono (S2.monoY fun b hb=>D'.zin b hb))
 done:=@fun own s Q E hC O hw st hQ=>by
  have hl:(zipL (its.map (·.2)) m).length=m:=by simp[zipL]
  rw[hl] at st
  refine uEEA st.at_ fun f0 f1 e V=>?_
  have hT:s.TypeIs (.ref z) "zip":=(iEA _ e rfl)
  refine wpAny_bind (wpAny_attempt (wpAny_callSpecial?_slot (name:=Str.ofString "__next__") hT F.slot_zip_next
   (wpAny_call_entry F.slot_zip_next hT F.entry_zip_next (zip_end hh O (st.st hC.1) hw Z hC.2 fun h' x S' O' hx=>?_) (F.args_zip_next_1 _))))
  refine uEA hx ?_;clear hx;rintro o ho hc
  refine wpAny_bind (wpAny_isInstance (T:="StopIteration") (b:=true) (iEA o ho hc) isSubtype_stop ?_)
  exact wpAny_pure ⟨rfl,hQ _ S' O'⟩
 self:=fun {i own s} Q E st hQ=>by
  refine uEEA st.at_ fun f0 f1 e V=>?_
  have hT:s.TypeIs (.ref z) "zip":=(iEA _ e rfl)
  refine wpAny_pyIter_slot hT F.slot_zip_iter (wpAny_call_entry F.slot_zip_iter hT F.entry_zip_iter ?_ (F.args_zip_iter_1 _))
  exact wpAny_pure (iEAEEAA _ rfl ("zip") _ hT F.slot_zip_next.lookup hQ)
end
noncomputable def IterAs(h:Heap)(v:Value)(o:Obj):Prop:=
 (∃ a items,v=.ref a∧h.IsList a items∧o={cls:=.type "list_iterator",data:=.fields #[.ref a,.int 0 0]})∨
 (∃ a items,v=.ref a∧h.IsTuple a items∧o={cls:=.type "tuple_iterator",data:=.fields #[.ref a,.int 0 0]})
theorem IterAs.push{h:Heap}{v:Value}{o o':Obj}(x:IterAs h v o):IterAs (h.push o') v o:=by
 rcases x with⟨a,i,e,hl,ho⟩|⟨a,i,e,hl,ho⟩
 ·exact .inl (iEEAA a i e (hl.push _) ho)
 ·exact .inr (iEEAA a i e (hl.push _) ho)
theorem pyIter_as{prog:Program}{w:World}{A:Around}{E:Value→Shared→Prop}{s:Shared}{v:Value}{o:Obj}{Q:Value→Shared→Prop}(x:IterAs s.heap v o)(hQ:Q (.ref s.heap.objs.size) {s with heap:=s.heap.push o}):wpAny (model prog w) A (pyIter v) Q E s:=by
 rcases x with⟨a,i,rfl,hl,rfl⟩|⟨a,i,rfl,hl,rfl⟩
 ·exact wpAny_pyIter_list hl hQ
 ·exact wpAny_pyIter_tuple hl hQ
theorem zip_new2(v1 v2:Value)(o1 o2:Obj) :
  Meets (Builtin.«zip.__new__» ⟨[.type "zip",v1,v2],[]⟩) (fun V R s=>IterAs s.heap v1 o1∧IterAs s.heap v2 o2∧
   R (.ok (.ret (.ref (((((s.heap.push o1).push o2).push {cls:=.type "tuple",data:=.seq #[.ref s.heap.objs.size,.ref (s.heap.push o1).objs.size]}).push {cls:=.type "tuple",data:=.seq #[.none,.none]}).objs.size)))) {s with heap:=(((((s.heap.push o1).push o2).push {cls:=.type "tuple",data:=.seq #[.ref s.heap.objs.size,.ref (s.heap.push o1).objs.size]}).push {cls:=.type "tuple",data:=.seq #[.none,.none]}).push {cls:=.type "zip",data:=.fields #[.none,.bool false,.bool false,.ref ((s.heap.push o1).push o2).objs.size,.ref (((s.heap.push o1).push o2).push {cls:=.type "tuple",data:=.seq #[.ref s.heap.objs.size,.ref (s.heap.push o1).objs.size]}).objs.size]})}):=
 .of_wp fun prog w A R s h=>by
  obtain⟨hp,g,d,tk,os⟩:=s;refine uAA h ?_;clear h;rintro hl1 hl2 h
  have hsub:=sub_zip
  have hL1:IterAs (Shared.heap ⟨hp,g,d,tk,os⟩) v1 o1:=hl1
  have hL2:IterAs (Shared.heap ⟨hp.push o1,g,d,tk,os⟩) v2 o2:=hl2.push
  wp_walk using pyIter_as hL1,pyIter_as hL2
  exact(iEA _ rfl h)
theorem zip_new3(v1 v2 v3:Value)(o1 o2 o3:Obj) :
  Meets (Builtin.«zip.__new__» ⟨[.type "zip",v1,v2,v3],[]⟩) (fun V R s=>IterAs s.heap v1 o1∧IterAs s.heap v2 o2∧IterAs s.heap v3 o3∧
   R (.ok (.ret (.ref ((((((s.heap.push o1).push o2).push o3).push {cls:=.type "tuple",data:=.seq #[.ref s.heap.objs.size,.ref (s.heap.push o1).objs.size,.ref ((s.heap.push o1).push o2).objs.size]}).push {cls:=.type "tuple",data:=.seq #[.none,.none,.none]}).objs.size)))) {s with heap:=((((((s.heap.push o1).push o2).push o3).push {cls:=.type "tuple",data:=.seq #[.ref s.heap.objs.size,.ref (s.heap.push o1).objs.size,.ref ((s.heap.push o1).push o2).objs.size]}).push {cls:=.type "tuple",data:=.seq #[.none,.none,.none]}).push {cls:=.type "zip",data:=.fields #[.none,.bool false,.bool false,.ref (((s.heap.push o1).push o2).push o3).objs.size,.ref ((((s.heap.push o1).push o2).push o3).push {cls:=.type "tuple",data:=.seq #[.ref s.heap.objs.size,.ref (s.heap.push o1).objs.size,.ref ((s.heap.push o1).push o2).objs.size]}).objs.size]})}):=
 .of_wp fun prog w A R s h=>by
  obtain⟨hp,g,d,tk,os⟩:=s;refine uAAA h ?_;clear h;rintro hl1 hl2 hl3 h
  have hsub:=sub_zip
  have hL1:IterAs (Shared.heap ⟨hp,g,d,tk,os⟩) v1 o1:=hl1
  have hL2:IterAs (Shared.heap ⟨hp.push o1,g,d,tk,os⟩) v2 o2:=hl2.push
  have hL3:IterAs (Shared.heap ⟨(hp.push o1).push o2,g,d,tk,os⟩) v3 o3:=hl3.push.push
  wp_walk using pyIter_as hL1,pyIter_as hL2,pyIter_as hL3
  exact(iEA _ rfl h)
theorem typeCall_zip_3(a b c:Value):checkTypeCall "zip" ⟨[a,b,c],[]⟩=pure ():=by kernel_rfl
theorem newCall_zip_3(a b c:Value):checkBuiltinCall "zip.__new__" ⟨[.type "zip",a,b,c],[]⟩=pure ():=by kernel_rfl
theorem args_object_init_4(a b c d:Value):argsOk "object.__init__" ⟨[a,b,c,d],[]⟩:=by
 unfold argsOk;rw[signature?_of (id:="object.__init__") (n:=['_','_','t','i','n','i','_','_']) (o:=['t','c','e','j','b','o']) (by kernel_rfl) F.owner_object];kernel_rfl
theorem na1{p a n:Nat}(h:p<a+1+n):p<a+(n+1):=by lia
theorem na2{b a n:Nat}(h:a+(n+1)≤b):a+1+n≤b:=by lia
theorem na3{b n:Nat}(h:b+(n+1)≤b):False:=by lia
noncomputable def ZS.ao:ZS→AObj
 |.tup L=>.tit L 0
 |.lst l _=>.lit l 0
noncomputable def addIts:Own→Addr→List ZS→Own
 |own,_,[]=>own
 |own,a,z::zs=>addIts (upd own a z.ao) (a+1) zs
theorem addIts_2:∀(x:Own)(x_1:Addr)(z:ZS)(zs:List ZS),addIts x x_1 (z::zs)=addIts (upd x x_1 (ZS.ao z)) (x_1+1) zs:=by intros;rfl
noncomputable def mkIts:Addr→List ZS→List (Addr × ZS)
 |_,[]=>[]
 |a,z::zs=>(a,z)::mkIts (a+1) zs
theorem mkIts_2:∀(x:Addr)(z:ZS)(zs:List ZS),mkIts x (z::zs)=(x,z)::mkIts (x+1) zs:=by intros;rfl
theorem mkIts_snd:∀(zs:List ZS)(a:Addr),(mkIts a zs).map (·.2)=zs
 |[],_=>rfl
 |z::zs,a=>by rw[mkIts_2,List.map_cons,mkIts_snd zs]
theorem mkIts_len:∀(zs:List ZS)(a:Addr),(mkIts a zs).length=zs.length
 |[],_=>rfl
 |z::zs,a=>by rw[mkIts_2,List.length_cons,mkIts_len zs,List.length_cons]
theorem mkIts_ge:∀(zs:List ZS)(a:Addr),∀ p∈mkIts a zs,a≤p.1∧p.1<a+zs.length
 |[],_,p,hp=>nomatch hp
 |z::zs,a,p,hp=>by
  rcases List.mem_cons.mp hp with rfl|hp
  ·exact⟨Nat.le_refl _,by simp⟩
  ·obtain⟨h1,h2⟩:=mkIts_ge zs (a+1) p hp
   exact⟨Nat.le_of_succ_le h1,na1 h2⟩
theorem mkIts_nodup:∀(zs:List ZS)(a:Addr),((mkIts a zs).map (·.1)).Nodup
 |[],_=>List.nodup_nil
 |z::zs,a=>by
  rw[mkIts_2,List.map_cons,List.nodup_cons]
  refine⟨fun h=>?_,mkIts_nodup zs _⟩
  refine uEA (List.mem_map.mp h) fun p hp e=>?_
  have:=(mkIts_ge zs _ p hp).1
  rw[e] at this
  exact absurd this (Nat.not_succ_le_self _)
theorem addIts_out:∀(zs:List ZS)(own:Own)(a b:Addr),(b<a∨a+zs.length≤b)→addIts own a zs b=own b
 |[],_,_,_,_=>rfl
 |z::zs,own,a,b,h=>by
  rw[addIts_2,addIts_out zs _ _ b (by rcases h with h|h;exact .inl (Nat.lt_succ_of_lt h);right;rw[List.length_cons] at h;exact na2 h),upd_ne]
  rintro rfl
  rcases h with h|h
  ·exact Nat.lt_irrefl _ h
  ·rw[List.length_cons] at h
   exact na3 h
theorem addIts_in:∀(zs:List ZS)(own:Own)(a:Addr),∀ p∈mkIts a zs,addIts own a zs p.1=some p.2.ao
 |[],_,_,p,hp=>nomatch hp
 |z::zs,own,a,p,hp=>by
  rw[addIts_2]
  rcases List.mem_cons.mp hp with rfl|hp
  ·rw[addIts_out zs _ _ _ (.inl (Nat.lt_succ_self _)),upd_self]
  ·exact addIts_in zs _ _ p hp
section
variable{G:GC}{ℓ:Nat}{own:Own}{A:Around}{E:Value→Shared→Prop}{s:Shared}
noncomputable def pushAll:Heap→List Obj→Heap
 |h,[]=>h
 |h,o::os=>pushAll (h.push o) os
theorem pushAll_2:∀(x:Heap)(o:Obj)(os:List Obj),pushAll x (o::os)=pushAll (Heap.push x o) os:=by intros;rfl
theorem pushAll_size:∀(os:List Obj)(h:Heap),(pushAll h os).objs.size=h.objs.size+os.length
 |[],h=>rfl
 |o::os,h=>by rw[pushAll_2,pushAll_size os,Heap.size_push,List.length_cons];lia
theorem pushAll_ext:∀(os:List Obj)(h:Heap),∀ b o,h.get? b=some o→(pushAll h os).get? b=some o
 |[],h,b,o,e=>e
 |x::os,h,b,o,e=>pushAll_ext os _ b o (push_ext b o e)
noncomputable def ZIt(own:Own)(h:Heap)(v:Value)(z:ZS)(o:Obj):Prop:=IterAs h v o∧VRep (fz own) h v z.av∧(match z with
 |.tup _=>o.cls=.type "tuple_iterator"
 |.lst l L=>o.cls=.type "list_iterator"∧own l=some (.list L))
theorem ZIt.ext{own':Own}{h h':Heap}{v:Value}{z:ZS}{o:Obj}(x:ZIt own h v z o)(hk:TK (fz own) (fz own') h h')(hi:IterAs h' v o)(hs:sub own own'):ZIt own' h' v z o:=by
 refine(iAA hi (x.2.1.mono hk) ?_)
 cases z with
 |tup L=>exact x.2.2
 |lst l L=>exact⟨x.2.2.1,hs _ _ x.2.2.2⟩
theorem zit_make{v:Value}{z:ZS}(O:Ok G own s.heap)(r:VRep (fz own) s.heap v z.av)(hC:z.C own):∃ o,ZIt own s.heap v z o:=by
 cases z with
 |tup L=>
  cases r with
  |@tup a items n _ p e r=>exact(iEAA _ (.inr (iEEAA a items rfl (iEAAE _ e rfl n rfl) rfl)) (.tup p e r) rfl)
 |lst l L=>
  cases r
  obtain⟨⟨items,n,e,r⟩,_⟩:=O.own l _ hC
  exact(iEAAA _ (.inl (iEEAA l items rfl (iEAAE _ e rfl n rfl) rfl)) (.ref _) rfl hC)
theorem zit_push{h:Heap}{v:Value}{z:ZS}{o:Obj}(O:Ok G own h)(x:ZIt own h v z o):Ok G (upd own h.objs.size z.ao) (h.push o):=by
 have hk:=O.fresh (get_size h)
 have nk:∀ b i n,h.get? b=some (tupO i n)→own b=Option.none→upd own h.objs.size z.ao b=Option.none:=fun b i n eb p=>by
  rw[upd_ne];exact p
  rintro rfl;rw[get_size] at eb;cases eb
 refine O.new push_ext (get_size _) ?_ ?_
 ·refine uAA x ?_;clear x;rintro hi hr hz
  cases z with
  |tup L=>
   obtain⟨a,items,n,rfl,p,e,r⟩:=hr.i_tup
   rcases hi with⟨a',i',e',hl,rfl⟩|⟨a',i',e',hl,rfl⟩
   ·simp at hz
   ·obtain rfl:=Value.ref.inj e'
    exact(iEEEAAA a items n (iEAA _ (Heap.get?_push_size _ rfl) rfl rfl) (nk _ _ _ e p) (push_ext _ _ e) (r.mono fun b i n eb p=>⟨push_ext _ _ eb,nk _ _ _ eb p⟩))
  |lst l L=>
   obtain rfl:=hr.i_ref
   rcases hi with⟨a',i',e',hl,rfl⟩|⟨a',i',e',hl,rfl⟩
   ·obtain rfl:=Value.ref.inj e'
    exact(iEAA _ (Heap.get?_push_size _ rfl) rfl rfl)
   ·simp at hz
 ·rcases x.1 with⟨a',i',e',hl,rfl⟩|⟨a',i',e',hl,rfl⟩<;>exact⟨_,Heap.get?_push_size _ rfl⟩
theorem zits_push:∀(zs:List ZS)(vs:List Value)(os:List Obj)(own:Own)(h:Heap),Ok G own h→vs.length=zs.length→os.length=zs.length→(∀(j:Nat)(v:Value)(z:ZS)(o:Obj),vs[j]?=some v→zs[j]?=some z→os[j]?=some o→ZIt own h v z o)→Ok G (addIts own h.objs.size zs) (pushAll h os)
 |[],vs,os,own,h,O,_,ho,_=>by
  have:os=[]:=List.length_eq_zero_iff.mp ho
  subst this;exact O
 |z::zs,[],os,own,h,O,hv,_,_=>by simp at hv
 |z::zs,v::vs,[],own,h,O,_,ho,_=>by simp at ho
 |z::zs,v::vs,o::os,own,h,O,hv,ho,hz=>by
  have x0:=hz 0 v z o rfl rfl rfl
  have O1:=zit_push O x0
  rw[addIts_2,pushAll_2]
  have e:h.objs.size+1=(h.push o).objs.size:=by rw[Heap.size_push]
  rw[e]
  refine zits_push zs vs os _ _ O1 (by simpa using hv) (by simpa using ho) fun j v' z' o' h1 h2 h3=>?_
  have x:=hz (j+1) v' z' o' (by simpa using h1) (by simpa using h2) (by simpa using h3)
  refine x.ext (fun b i n eb p=>⟨push_ext _ _ eb,?_⟩) x.1.push (sub.upd (O.fresh (get_size _)))
  show upd own _ _ b=Option.none
  rw[upd_ne];exact p
  rintro rfl;rw[get_size] at eb;cases eb
end
section
variable{G:GC}{ℓ:Nat}{own:Own}{A:Around}{E:Value→Shared→Prop}{s:Shared}
noncomputable def zipOwn(own:Own)(a:Addr)(zs:List ZS):Own:=upd (upd (addIts own a zs) (a+zs.length+1) (.otup zs.length)) (a+zs.length+2) (.zip ((mkIts a zs).map (·.1)) (a+zs.length+1))
noncomputable abbrev zipH(h:Heap)(zs:List ZS)(os:List Obj):Heap:=(((pushAll h os).push {cls:=.type "tuple",data:=.seq ((mkIts h.objs.size zs).map fun p=>Value.ref p.1).toArray}).push {cls:=.type "tuple",data:=.seq (List.replicate zs.length Value.none).toArray}).push {cls:=.type "zip",data:=.fields #[.none,.bool false,.bool false,.ref (h.objs.size+zs.length),.ref (h.objs.size+zs.length+1)]}
theorem zip_made{zs:List ZS}{vs:List Value}{os:List Obj}(O:Ok G own s.heap)(hv:vs.length=zs.length)(ho:os.length=zs.length)(hz:∀(j:Nat)(v:Value)(z:ZS)(o:Obj),vs[j]?=some v→zs[j]?=some z→os[j]?=some o→ZIt own s.heap v z o) :
  Step noX own (zipOwn own s.heap.objs.size zs) s {s with heap:=zipH s.heap zs os}∧Ok G (zipOwn own s.heap.objs.size zs) (zipH s.heap zs os):=by
 have O1:=zits_push zs vs os own s.heap O hv ho hz
 have hs1:(pushAll s.heap os).objs.size=s.heap.objs.size+zs.length:=by rw[pushAll_size,ho]
 have O2:Ok G (addIts own s.heap.objs.size zs) ((pushAll s.heap os).push {cls:=.type "tuple",data:=.seq ((mkIts s.heap.objs.size zs).map fun p=>Value.ref p.1).toArray}):=O1.ext push_ext
 have hs2:((pushAll s.heap os).push {cls:=.type "tuple",data:=.seq ((mkIts s.heap.objs.size zs).map fun p=>Value.ref p.1).toArray}).objs.size=s.heap.objs.size+zs.length+1:=by rw[Heap.size_push,hs1]
 have g2:=get_size ((pushAll s.heap os).push {cls:=.type "tuple",data:=.seq ((mkIts s.heap.objs.size zs).map fun p=>Value.ref p.1).toArray})
 rw[hs2] at g2
 have e3:(((pushAll s.heap os).push {cls:=.type "tuple",data:=.seq ((mkIts s.heap.objs.size zs).map fun p=>Value.ref p.1).toArray}).push {cls:=.type "tuple",data:=.seq (List.replicate zs.length Value.none).toArray}).get? (s.heap.objs.size+zs.length+1)=some (tupO (List.replicate zs.length Value.none).toArray 0):=by
  rw[← hs2];exact Heap.get?_push_size _ rfl
 have O3:=O2.new (x:=.otup zs.length) push_ext g2 (iEEA _ 0 e3 (by simp)) ⟨_,e3⟩
 have hs3:(((pushAll s.heap os).push {cls:=.type "tuple",data:=.seq ((mkIts s.heap.objs.size zs).map fun p=>Value.ref p.1).toArray}).push {cls:=.type "tuple",data:=.seq (List.replicate zs.length Value.none).toArray}).objs.size=s.heap.objs.size+zs.length+2:=by rw[Heap.size_push,hs2]
 have g3:=get_size (((pushAll s.heap os).push {cls:=.type "tuple",data:=.seq ((mkIts s.heap.objs.size zs).map fun p=>Value.ref p.1).toArray}).push {cls:=.type "tuple",data:=.seq (List.replicate zs.length Value.none).toArray})
 rw[hs3] at g3
 have e4:(zipH s.heap zs os).get? (s.heap.objs.size+zs.length+2)=some (zipO .none false (s.heap.objs.size+zs.length) (s.heap.objs.size+zs.length+1)):=by
  rw[← hs3];exact Heap.get?_push_size _ rfl
 have eTI:(zipH s.heap zs os).get? (s.heap.objs.size+zs.length)=some (tupO ((mkIts s.heap.objs.size zs).map fun p=>Value.ref p.1).toArray 0):=by
  rw[← hs1]
  exact Heap.get?_push_of_some _ (Heap.get?_push_of_some _ (Heap.get?_push_size _ rfl))
 have hti:zipOwn own s.heap.objs.size zs (s.heap.objs.size+zs.length)=Option.none:=by
  unfold zipOwn
  rw[upd_ne _ _ (Nat.ne_of_lt (Nat.lt_add_of_pos_right (by decide:0<2))),upd_ne _ _ (Nat.ne_of_lt (Nat.lt_add_of_pos_right (by decide:0<1))),addIts_out zs _ _ _ (.inr (Nat.le_refl _))]
  refine O.fresh ?_
  cases q:s.heap.get? (s.heap.objs.size+zs.length) with
  |none=>rfl
  |some o=>exact absurd (Heap.lt_size q) (Nat.not_lt.mpr (Nat.le_add_right _ _))
 have O4:Ok G (zipOwn own s.heap.objs.size zs) (zipH s.heap zs os):=O3.new (x:=.zip ((mkIts s.heap.objs.size zs).map (·.1)) (s.heap.objs.size+zs.length+1)) push_ext g3 (iEEAA _ 0 e4 hti (by rw[List.map_map];exact eTI)) ⟨_,e4⟩
 refine⟨⟨(iEE _ s.toks rfl),fun b o e p V=>⟨?_,?_⟩⟩,O4⟩
 ·exact push_ext _ _ (push_ext _ _ (push_ext _ _ (pushAll_ext os _ _ _ e)))
 ·have hb:b<s.heap.objs.size:=Heap.lt_size e
  unfold zipOwn
  rw[upd_ne _ _ (Nat.ne_of_lt (Nat.lt_of_lt_of_le hb (Nat.le_add_right_of_le (Nat.le_add_right _ _)))),upd_ne _ _ (Nat.ne_of_lt (Nat.lt_of_lt_of_le hb (Nat.le_add_right_of_le (Nat.le_add_right _ _)))),addIts_out zs _ _ _ (.inl hb)]
  exact p
structure ZipN (G:GC) (own0 own1:Own) (a:Addr) (zs:List ZS):Prop where
 eq:own1=zipOwn own0 a zs
 fresh:∀ b,a≤b→own0 b=Option.none∧G.base.get? b=Option.none
theorem ZipN.to{own0 own1:Own}{a:Addr}{zs:List ZS}(N:ZipN G own0 own1 a zs):own1 (a+zs.length+1)=some (.otup zs.length):=by
 rw[N.eq];unfold zipOwn
 rw[upd_ne _ _ (Nat.ne_of_lt (Nat.lt_succ_self _)),upd_self]
theorem ZipN.z{own0 own1:Own}{a:Addr}{zs:List ZS}(N:ZipN G own0 own1 a zs):own1 (a+zs.length+2)=some (.zip ((mkIts a zs).map (·.1)) (a+zs.length+1)):=by
 rw[N.eq];unfold zipOwn;rw[upd_self]
theorem ZipN.it{own0 own1:Own}{a:Addr}{zs:List ZS}(N:ZipN G own0 own1 a zs):∀ p∈mkIts a zs,own1 p.1=some p.2.ao:=fun p hp=>by
 have h2:=(mkIts_ge zs a p hp).2
 rw[N.eq];unfold zipOwn
 rw[upd_ne _ _ (Nat.ne_of_lt (Nat.lt_add_right _ h2)),upd_ne _ _ (Nat.ne_of_lt (Nat.lt_add_right _ h2)),addIts_in zs _ _ p hp]
theorem ZipN.sub{own0 own1:Own}{a:Addr}{zs:List ZS}(N:ZipN G own0 own1 a zs):sub (upd own0 (a+zs.length+1) (.otup zs.length)) own1:=fun b x e=>by
 by_cases hb:b=a+zs.length+1
 ·subst hb;rw[upd_self] at e;rw[N.to,e]
 ·rw[upd_ne _ _ hb] at e
  have hlt:b<a:=Nat.lt_of_not_le fun h=>by rw[(N.fresh b h).1] at e;cases e
  rw[N.eq];unfold zipOwn
  rw[upd_ne _ _ (Nat.ne_of_lt (Nat.lt_of_lt_of_le hlt (Nat.le_add_right_of_le (Nat.le_add_right _ _)))),upd_ne _ _ hb,addIts_out zs _ _ _ (.inl hlt),e]
theorem ZipN.wr{own0 own1:Own}{a:Addr}{zs:List ZS}(N:ZipN G own0 own1 a zs):∀ b∈zwr (a+zs.length+2) (mkIts a zs),upd own0 (a+zs.length+1) (.otup zs.length) b=Option.none∧G.base.get? b=Option.none∧own1 b≠Option.none:=fun b hb=>by
 rcases List.mem_cons.mp hb with rfl|hb
 ·have:=N.fresh (a+zs.length+2) (Nat.le_add_right_of_le (Nat.le_add_right _ _))
  exact(iAA (by rw[upd_ne _ _ (Nat.ne_of_gt (Nat.lt_succ_self _))];exact this.1) this.2 (by rw[N.z];simp))
 ·refine uEA (List.mem_map.mp hb) ?_;rintro p hp rfl
  obtain⟨h1,h2⟩:=mkIts_ge zs a p hp
  have:=N.fresh p.1 h1
  exact(iAA (by rw[upd_ne _ _ (Nat.ne_of_lt (Nat.lt_add_right _ h2))];exact this.1) this.2 (by rw[N.it p hp];simp))
theorem ZipN.nodup(a:Addr)(zs:List ZS):(zwr (a+zs.length+2) (mkIts a zs)).Nodup:=by
 refine List.nodup_cons.mpr ⟨fun h=>?_,mkIts_nodup zs a⟩
 refine uEA (List.mem_map.mp h) fun p hp e=>?_
 have h2:=(mkIts_ge zs a p hp).2
 rw[e] at h2
 exact absurd h2 (Nat.not_lt.mpr (Nat.le_add_right _ _))
theorem ZipN.zok{a:Addr}{zs:List ZS}{m:Nat}(hl:∀ z∈zs,z.list.length=m)(hne:zs≠[])(hfew:zs.length≤1000):ZOk (a+zs.length+2) (mkIts a zs) m where
 nodup:=ZipN.nodup a zs
 len:=fun p hp=>hl p.2 (by rw[← mkIts_snd zs a];exact List.mem_map.mpr (iEA p hp rfl))
 ne:=fun h=>hne (List.length_eq_zero_iff.mp (by rw[← mkIts_len zs a,h];rfl))
 few:=by rw[mkIts_len];exact hfew
theorem ZipN.st{own0 own1:Own}{a:Addr}{zs:List ZS}(N:ZipN G own0 own1 a zs)(O:Ok G own1 s.heap):∃ TI,ZS0 (upd own0 (a+zs.length+1) (.otup zs.length)) s.heap (a+zs.length+2) TI (a+zs.length+1) (mkIts a zs) 0:=by
 obtain⟨⟨TI,n,e,hti,eti⟩,_⟩:=O.own _ _ N.z
 rw[List.map_map] at eti
 refine⟨TI,(iEEA .none false e (.inl rfl)),(iEA n eti (N.sub.none hti)),fun p hp=>?_⟩
 obtain⟨r,_⟩:=O.own p.1 _ (N.it p hp)
 obtain⟨p1,p2⟩:=p
 cases p2 with
 |tup L=>
  refine uEEEAAA r ?_;clear r;rintro t items n hit h1 h2 h3
  exact(iEAEEAA t hit items n (N.sub.none h1) h2 (h3.less N.sub))
 |lst l L=>exact r
theorem ItT.zip{t:Expr}{own0:Own}{a:Addr}{zs:List ZS}{m:Nat}{K:List AV→(Own→Prop)→Own→Prop}(N:ZipN G own0 own a zs)(hl:∀ z∈zs,z.list.length=m)(hne:zs≠[])(hfew:zs.length≤1000)
  (h:K (zipL zs m) (fun o=>o (a+zs.length+1)=some (.otup zs.length)∧∀ z∈zs,z.C o) (upd own0 (a+zs.length+1) (.otup zs.length))):ItT G ℓ own t (.ref (a+zs.length+2)) K:=fun A s v Q E hA O r hQ=>by
 obtain rfl:=r.i_ref
 obtain⟨TI,st⟩:=N.st O
 have Z:=ZipN.zok (a:=a) hl hne hfew
 have SR:=Src.zip (G:=G) hA.handled t (a+zs.length+2) TI (a+zs.length+1) (mkIts a zs) m Z
 rw[mkIts_snd,mkIts_len] at SR
 have SR2:Src G A t (a+zs.length+2) (zwr (a+zs.length+2) (mkIts a zs)) (zipL zs m) (fun o=>o (a+zs.length+1)=some (.otup zs.length)∧∀ z∈zs,z.C o) (fun i own h=>ZS0 own h (a+zs.length+2) TI (a+zs.length+1) (mkIts a zs) i):=by
  have hc:∀{o:Own},(o (a+zs.length+1)=some (.otup zs.length)∧∀ z∈zs,z.C o)→(o (a+zs.length+1)=some (.otup zs.length)∧∀ p∈mkIts a zs,p.2.C o):=fun h=>⟨h.1,fun p hp=>h.2 p.2 (by rw[← mkIts_snd zs a];exact List.mem_map.mpr (iEA p hp rfl))⟩
  exact⟨SR.frame,SR.live,fun Q E hd hC=>SR.item Q E hd (hc hC),fun Q E hC=>SR.done Q E (hc hC),SR.self⟩
 refine SR.self (i:=0) (own:=upd own0 (a+zs.length+1) (.otup zs.length)) _ _ st ?_
 refine hQ _ _ _ _ _ _ s h SR2 st ⟨(iEE _ _ rfl),fun b o eb p V=>⟨eb,N.sub.none p⟩⟩ (O.less N.sub) fun b hb=>?_
 refine uAA (N.wr b hb) fun h1 h2 h3=>?_
 exact(iAA h1 h2 (fun V V=>h3))
theorem Cal.zip2{z1 z2:ZS}{K:AV→Own→Prop}(h1:z1.C own)(h2:z2.C own)(h:∀ a own1,ZipN G own own1 a [z1,z2]→K (.ref (a+2+2)) own1):Cal G ℓ own (.ty "zip") [z1.av,z2.av] K:=fun A s fv vs Q E hA O rf R hQ=>by
 obtain rfl:=rf.i_ty
 refine uEEAA R.two ?_;rintro v1 v2 rfl r1 r2
 obtain⟨o1,x1⟩:=zit_make O r1 h1
 obtain⟨o2,x2⟩:=zit_make O r2 h2
 obtain⟨S1,O1⟩:=zip_made (zs:=[z1,z2]) (vs:=[v1,v2]) (os:=[o1,o2]) O rfl rfl (fun j v z o e1 e2 e3=>by
  match j with
  |0=>cases e1;cases e2;cases e3;exact x1
  |1=>cases e1;cases e2;cases e3;exact x2
  |n+2=>simp at e1)
 have N:ZipN G own (zipOwn own s.heap.objs.size [z1,z2]) s.heap.objs.size [z1,z2]:=⟨rfl,fun b hb=>by
  have e:s.heap.get? b=Option.none:=by
   cases q:s.heap.get? b with
   |none=>rfl
   |some o=>exact absurd (Heap.lt_size q) (Nat.not_lt.mpr hb)
  exact⟨O.fresh e,O.baseFresh e⟩⟩
 have fin:=hQ (.ref (s.heap.objs.size+2+2)) _ _ _ (h _ _ N) S1 O1 (.ref _)
 refine callType_new F.called_zip (by decide) (F.typeCall_zip_2 _ _) (F.newCall_zip_2 _ _) (fun obj=>F.args_object_init_3 obj _ _) F.entry_zip_new (zip_new2 v1 v2 o1 o2) (iAA x1.1 x2.1 ?_)
 have hT:Shared.TypeIs {s with heap:=zipH s.heap [z1,z2] [o1,o2]} (.ref (s.heap.objs.size+2+2)) "zip":=by
  obtain⟨⟨TI,n,e,_⟩,_⟩:=O1.own _ _ N.z
  exact(iEA _ e rfl)
 show _∧_
 simp only[Heap.size_push]
 exact⟨hT,fin⟩
theorem Cal.zip3{z1 z2 z3:ZS}{K:AV→Own→Prop}(h1:z1.C own)(h2:z2.C own)(h3:z3.C own)(h:∀ a own1,ZipN G own own1 a [z1,z2,z3]→K (.ref (a+3+2)) own1):Cal G ℓ own (.ty "zip") [z1.av,z2.av,z3.av] K:=fun A s fv vs Q E hA O rf R hQ=>by
 obtain rfl:=rf.i_ty
 refine uEEEAAA R.three ?_;rintro v1 v2 v3 rfl r1 r2 r3
 obtain⟨o1,x1⟩:=zit_make O r1 h1
 obtain⟨o2,x2⟩:=zit_make O r2 h2
 obtain⟨o3,x3⟩:=zit_make O r3 h3
 obtain⟨S1,O1⟩:=zip_made (zs:=[z1,z2,z3]) (vs:=[v1,v2,v3]) (os:=[o1,o2,o3]) O rfl rfl (fun j v z o e1 e2 e3=>by
  match j with
  |0=>cases e1;cases e2;cases e3;exact x1
  |1=>cases e1;cases e2;cases e3;exact x2
  |2=>cases e1;cases e2;cases e3;exact x3
  |n+3=>simp at e1)
 have N:ZipN G own (zipOwn own s.heap.objs.size [z1,z2,z3]) s.heap.objs.size [z1,z2,z3]:=⟨rfl,fun b hb=>by
  have e:s.heap.get? b=Option.none:=by
   cases q:s.heap.get? b with
   |none=>rfl
   |some o=>exact absurd (Heap.lt_size q) (Nat.not_lt.mpr hb)
  exact⟨O.fresh e,O.baseFresh e⟩⟩
 have fin:=hQ (.ref (s.heap.objs.size+3+2)) _ _ _ (h _ _ N) S1 O1 (.ref _)
 refine callType_new F.called_zip (by decide) (typeCall_zip_3 _ _ _) (newCall_zip_3 _ _ _) (fun obj=>args_object_init_4 obj _ _ _) F.entry_zip_new (zip_new3 v1 v2 v3 o1 o2 o3) (iAAA x1.1 x2.1 x3.1 ?_)
 have hT:Shared.TypeIs {s with heap:=zipH s.heap [z1,z2,z3] [o1,o2,o3]} (.ref (s.heap.objs.size+3+2)) "zip":=by
  obtain⟨⟨TI,n,e,_⟩,_⟩:=O1.own _ _ N.z
  exact(iEA _ e rfl)
 show _∧_
 simp only[Heap.size_push]
 exact⟨hT,fin⟩
end
theorem zip_no_len:typeLookup (.type "zip") "__len__"=pure none:=by rw[typeLookup_type,builtinLookup_eq_fast];kernel_rfl
theorem zip_no_hint:typeLookup (.type "zip") "__length_hint__"=pure none:=by rw[typeLookup_type,builtinLookup_eq_fast];kernel_rfl
section
variable{G:GC}{ℓ:Nat}{A:Around}
theorem upd_upd(own:Own)(a:Addr)(x y:AObj):upd (upd own a x) a y=upd own a y:=by
 funext b
 by_cases h:b=a
 ·subst h;rw[upd_self,upd_self]
 ·rw[upd_ne _ _ h,upd_ne _ _ h,upd_ne _ _ h]
theorem upd_same{own:Own}{a:Addr}{x:AObj}(h:own a=some x):upd own a x=own:=by
 funext b
 by_cases hb:b=a
 ·subst hb;rw[upd_self,h]
 ·rw[upd_ne _ _ hb]
theorem ext_loop{z TI TO S:Addr}{its:List (Addr × ZS)}{m:Nat}{R:Result→Shared→Prop}(hh:A.handled=Option.none)(Z:ZOk z its m)(hC:∀ own,∀ p∈its,p.2.C own)(hm:m≤1000000)(acc0:List AV)(ha:acc0.length≤1000000) :
  ∀(r k:Nat)(own:Own)(s:Shared),m-k=r→k≤m→Ok G own s.heap→ZSt own s.heap z TI TO its k→(∀ b∈zwr z its,own b=Option.none∧G.base.get? b=Option.none)→own S=some (.list (acc0++(zipL (its.map (·.2)) m).take k))→
  (∀ s',Step (·∈zwr z its) own (upd own S (.list (acc0++zipL (its.map (·.2)) m))) s s'→Ok G (upd own S (.list (acc0++zipL (its.map (·.2)) m))) s'.heap→R (.ok (.ret .none)) s')→
  codeAny (model G.prog G.w) A (.builtin "list.extend.loop" ⟨[.ref S,.ref z,.none],[]⟩) R s:=by
 have hzl:(zipL (its.map (·.2)) m).length=m:=by simp[zipL]
 intro r
 induction r with
 |zero=>
  intro k own s hk hkm O D hw hS hR
  have hkm':k=m:=sb0 hk hkm
  subst hkm'
  rw[List.take_of_length_le (by rw[hzl];exact Nat.le_refl _)] at hS
  refine codeAny_builtin F.entry_extend_loop ?_
  rw[Around.under_plainId F.plain_extend_loop _]
  refine uEEA D.at_ fun f0 f1 e V=>?_
  have hT:s.TypeIs (.ref z) "zip":=(iEA _ e rfl)
  refine wpAny_bind ?_
  refine wpAny_bind (wpAny_attempt (wpAny_callSpecial?_slot (name:=Str.ofString "__next__") hT F.slot_zip_next
   (wpAny_call_entry F.slot_zip_next hT F.entry_zip_next (zip_end (by exact hh) O D hw Z (hC own) fun h' x S' O' hx=>?_) (F.args_zip_next_1 _))))
  refine uEA hx ?_;clear hx;rintro o ho hc
  refine wpAny_bind (wpAny_isInstance (T:="StopIteration") (b:=true) (iEA o ho hc) isSubtype_stop ?_)
  refine wpAny_pure (wpAny_pure ?_)
  rw[upd_same hS] at hR
  exact hR _ S' O'
 |succ r ih=>
  intro k own s hk hkm O D hw hS hR
  have hlt:k<m:=sbL hk
  refine codeAny_builtin F.entry_extend_loop ?_
  refine uEEA D.at_ fun f0 f1 e V=>?_
  have hT:s.TypeIs (.ref z) "zip":=(iEA _ e rfl)
  refine wpAny_bind ?_
  refine wpAny_bind (wpAny_attempt (wpAny_callSpecial?_slot (name:=Str.ofString "__next__") hT F.slot_zip_next
   (wpAny_call_entry F.slot_zip_next hT F.entry_zip_next (zip_next O D hw Z hlt (hC own) fun T s1 S1 O1 D1 r1=>?_) (F.args_zip_next_1 _))))
  refine wpAny_pure ?_
  obtain⟨⟨items,n,eS,rS⟩,_⟩:=O1.own S _ hS
  have hlS:=rS.length
  rw[Array.length_toList,List.length_append,List.length_take,hzl] at hlS
  have hszl:=sizeLine_eq
  have e2:(zipL (its.map (·.2)) m).take (k+1)=(zipL (its.map (·.2)) m).take k++[.tup (col (its.map (·.2)) k)]:=by
   rw[List.take_add_one]
   congr 1
   have:(zipL (its.map (·.2)) m)[k]?=some (.tup (col (its.map (·.2)) k)):=by
    unfold zipL
    rw[List.getElem?_map,List.getElem?_range hlt];rfl
   rw[this];rfl
  have rp:VReps (fz own) s1.heap (items.push (.ref T)).toList (acc0++(zipL (its.map (·.2)) m).take (k+1)):=by
   rw[Array.toList_push,e2,← List.append_assoc]
   exact rS.append (.cons r1 .nil)
  obtain⟨S2,O2⟩:=list_chg O1 hS eS (fun x=>x.push (.ref T)) rfl rp
  have hTO:=D1.to
  have hST:TO≠S:=by rintro rfl;rw[hS] at hTO;cases hTO
  have T2:TK (fz own) (fz (upd own S (.list (acc0++(zipL (its.map (·.2)) m).take (k+1))))) s1.heap (s1.heap.update S (Obj.mapSeq fun x=>x.push (.ref T))):=TK.chg hS (Heap.SameBut.update ..)
  have hw2:∀ b∈zwr z its,upd own S (.list (acc0++(zipL (its.map (·.2)) m).take (k+1))) b=Option.none∧G.base.get? b=Option.none:=fun b hb=>by
   have hbS:b≠S:=fun q=>by
    have:=(hw b hb).1
    rw[q,hS] at this;cases this
   rw[upd_ne _ _ hbS]
   exact hw b hb
  have D2:ZSt (upd own S (.list (acc0++(zipL (its.map (·.2)) m).take (k+1)))) (s1.heap.update S (Obj.mapSeq fun x=>x.push (.ref T))) z TI TO its (k+1):=by
   refine ZS0.st (D1.s0.frame T2 fun b hb o eb=>?_) (by rw[upd_ne _ _ hST];exact hTO)
   have hbS:S≠b:=by rintro rfl;have:=(hw _ hb).1;rw[hS] at this;cases this
   exact(Heap.get?_update_other _ _ hbS).trans eb
  refine wpAny_bind ?_
  refine wpAny_updateSeq eS rfl (wpAny_pure ⟨plainId_quiet F.plain_extend_loop _,ih (k+1) _ {s1 with heap:=s1.heap.update S (Obj.mapSeq fun x=>x.push (.ref T))} (sb1 hk) hlt O2 D2 hw2 (upd_self ..) fun s3 S3 O3=>?_⟩) (by lia) (by rw[Array.size_push];lia)
  rw[upd_upd] at S3 O3
  exact hR s3 ((S1.trans S2.weak).trans S3) O3
theorem Cal.extendZip{own0 own:Own}{a S:Addr}{zs:List ZS}{m:Nat}{acc:List AV}{K:AV→Own→Prop}(N:ZipN G own0 own a zs)(hl:∀ z∈zs,z.list.length=m)(hne:zs≠[])(hfew:zs.length≤1000)(ht:∀ z∈zs,∀ o,z.C o)(hS:own0 S=some (.list acc))(hm:m≤1000000)(hacc:acc.length≤1000000)
  (h:K .none (upd own0 S (.list (acc++zipL zs m)))):Cal G ℓ own (.bi "list.extend") [.ref S,.ref (a+zs.length+2)] K:=fun A s fv vs Q E hA O rf R hQ=>by
 obtain rfl:=rf.i_bi
 refine uEEAA R.two ?_;rintro va vb rfl ra rb
 obtain rfl:=ra.i_ref;obtain rfl:=rb.i_ref
 have Z:=ZipN.zok (a:=a) hl hne hfew
 let TO:=a+zs.length+1
 let ow:=upd own0 TO (.otup zs.length)
 have Ow:Ok G ow s.heap:=O.less N.sub
 have hST:S≠TO:=by rintro rfl;rw[(N.fresh TO (Nat.le_add_right_of_le (Nat.le_add_right _ _))).1] at hS;cases hS
 have hSw:ow S=some (.list acc):=by show upd own0 TO _ S=_;rw[upd_ne _ _ hST];exact hS
 obtain⟨TI,st⟩:=N.st O
 have hto:ow TO=some (.otup zs.length):=upd_self ..
 have D:ZSt ow s.heap (a+zs.length+2) TI TO (mkIts a zs) 0:=st.st (by rw[mkIts_len];exact hto)
 have hw:∀ b∈zwr (a+zs.length+2) (mkIts a zs),ow b=Option.none∧G.base.get? b=Option.none:=fun b hb=>⟨(N.wr b hb).1,(N.wr b hb).2.1⟩
 obtain⟨⟨items,n,eS,rS⟩,_⟩:=Ow.own S _ hSw
 have hlS:=rS.length
 rw[Array.length_toList] at hlS
 have hszl:=sizeLine_eq
 refine uEEA D.at_ fun f0 f1 ez V=>?_
 have hTz:s.TypeIs (.ref (a+zs.length+2)) "zip":=(iEA _ ez rfl)
 have hTS:s.TypeIs (.ref S) "list":=(iEA _ eS rfl)
 have hSz:S≠a+zs.length+2:=by rintro rfl;have:=(hw _ List.mem_cons_self).1;rw[hSw] at this;cases this
 obtain⟨S1,O1⟩:=list_chg Ow hSw eS (fun x=>x.push .none) rfl (l':=acc++[.none]) (by rw[Array.toList_push];exact rS.append (.cons .none .nil))
 have eS1:=IsL.update eS (fun x=>x.push .none)
 have T1:TK (fz ow) (fz (upd ow S (.list (acc++[.none])))) s.heap (s.heap.update S (Obj.mapSeq fun x=>x.push .none)):=TK.chg hSw (Heap.SameBut.update ..)
 obtain⟨S2,O2⟩:=list_chg (s:={s with heap:=s.heap.update S (Obj.mapSeq fun x=>x.push .none)}) O1 (upd_self ..) eS1 (fun x=>x.pop) (items':=items) Array.pop_push (l':=acc) (rS.mono T1)
 rw[upd_upd,upd_same hSw] at S2 O2
 let h2:=(s.heap.update S (Obj.mapSeq fun x=>x.push .none)).update S (Obj.mapSeq fun x=>x.pop)
 have kp:∀ b,b≠S→h2.get? b=s.heap.get? b:=fun b hb=>(Heap.get?_update_other _ _ (Ne.symm hb)).trans (Heap.get?_update_other _ _ (Ne.symm hb))
 have S12:Step noX ow ow s {s with heap:=h2}:=by
  refine⟨(iEE _ s.toks rfl),fun b o e p V=>⟨(kp b ?_).trans e,p⟩⟩
  rintro rfl;rw[hSw] at p;cases p
 have D2:ZSt ow h2 (a+zs.length+2) TI TO (mkIts a zs) 0:=by
  refine ZS0.st (st.frame S12.mono fun b hb o eb=>(kp b ?_).trans eb) (by rw[mkIts_len];exact hto)
  rintro rfl;have:=(hw _ hb).1;rw[hSw] at this;cases this
 have g:MeetsIn G.prog G.w (Builtin.«list.extend» ⟨[.ref S,.ref (a+zs.length+2)],[]⟩) (fun A' R s'=>A'=A∧s'=s∧R=wants Q E):=fun A' R s' hs=>by
  refine uAA hs ?_;clear hs;rintro rfl rfl rfl
  show wpAny _ A'.in1 (Builtin.List.listExtendWith (.ref S) (.ref (a+zs.length+2)) .none) _ _ s'
  refine wpAny_bind (wpAny_typeOf hTz ?_)
  have h1:Builtin.List.listSameRef (.ref S) (.ref (a+zs.length+2))=false:=by
   exact beq_eq_false_iff_ne.mpr hSz
  have h2':(Value.type "zip" == Value.type "list")=false:=by decide
  have h3:(Value.type "zip" == Value.type "tuple")=false:=by decide
  simp only[h1,h2',h3,Bool.or_false,Bool.false_eq_true,if_false]
  refine wpAny_bind (wpAny_pyIter_slot hTz F.slot_zip_iter (wpAny_call_entry F.slot_zip_iter hTz F.entry_zip_iter ?_ (F.args_zip_iter_1 _)))
  refine wpAny_pure (iEAEEAA _ rfl ("zip") _ hTz F.slot_zip_next.lookup ?_)
  refine wpAny_bind (wpAny_holding ?_)
  refine wpAny_bind (wpAny_specialOf hTz zip_no_len ?_)
  refine wpAny_bind (wpAny_specialOf hTz zip_no_hint ?_)
  refine wpAny_pure ?_
  show wpAny _ _ (rule "list.extend.makes-room">>=fun V=>Builtin.List.listTouch (.ref S)>>=fun V=>
   again (.builtin "list.extend.loop" ⟨[.ref S,.ref (a+zs.length+2),.none],[]⟩)) _ _ _
  refine wpAny_bind (wpAny_rule ?_)
  refine wpAny_bind ?_
  refine wpAny_bind (wpAny_updateSeq eS rfl ?_ (by lia) (by rw[Array.size_push];lia))
  refine wpAny_updateSeq eS1 rfl ?_ (by rw[Array.size_push];lia) (by rw[Array.pop_push];lia)
  refine wpAny_pure ⟨plainId_quiet F.plain_extend_loop _,?_⟩
  have e0:ow S=some (.list (acc++(zipL ((mkIts a zs).map (·.2)) m).take 0)):=by rw[List.take_zero,List.append_nil];exact hSw
  refine ext_loop hA.handled Z (fun o p hp=>ht p.2 (by rw[← mkIts_snd zs a];exact List.mem_map.mpr (iEA p hp rfl)) o) hm acc hacc m 0 ow {s' with heap:=h2} (Nat.sub_zero _) (Nat.zero_le _) O2 D2 hw e0 fun s3 S3 O3=>?_
  rw[mkIts_snd] at S3 O3
  have hs3:sub (upd own0 S (.list (acc++zipL zs m))) (upd ow S (.list (acc++zipL zs m))):=sub.upd2 (sub.upd (N.fresh TO (Nat.le_add_right_of_le (Nat.le_add_right _ _))).1)
  have Sx:Step (·∈zwr (a+zs.length+2) (mkIts a zs)) ow (upd ow S (.list (acc++zipL zs m))) s' s3:=(S12.weak.trans S3)
  refine hQ _ _ _ s3 h ?_ (O3.less hs3) .none
  refine⟨Sx.ex,fun b o e p V=>?_⟩
  have:=Sx.keep b o e (N.sub.none p) (fun hb=>(N.wr b hb).2.2 p)
  exact⟨this.1,hs3.none this.2⟩
 exact call_meetsIn F.slot_list_extend hTS F.entry_list_extend (F.args_list_extend_2 _ _) g (iAA rfl rfl rfl)
end
noncomputable def AV.kd:AV→Nat
 |.none=>0
 |.bool _=>1
 |.int _=>2
 |.str _=>3
 |.tup _=>4
 |.ref _=>5
 |.bi _=>6
 |.ty _=>7
noncomputable def AV.its:AV→List AV
 |.tup l=>l
 |.none=>[]
 |.bool _=>[]
 |.int _=>[]
 |.str _=>[]
 |.ref _=>[]
 |.bi _=>[]
 |.ty _=>[]
mutual
noncomputable def cmpOk:AV→AV→Bool
 |.int _,y=>y.kd == 2
 |.str _,y=>y.kd == 3
 |.tup a,y=>y.kd == 4&&cmpOks a y.its
 |.none,_=>false
 |.bool _,_=>false
 |.ref _,_=>false
 |.bi _,_=>false
 |.ty _,_=>false
noncomputable def cmpOks:List AV→List AV→Bool
 |[],_=>true
 |x::xs,l=>match l with
  |[]=>true
  |y::ys=>if x=y then cmpOks xs ys else cmpOk x y
end
theorem cmpOks_c{x y:AV}{xs ys:List AV}:cmpOks (x::xs) (y::ys)=if x=y then cmpOks xs ys else cmpOk x y:=rfl
theorem cmpOk_t{a b:List AV}:cmpOk (.tup a) (.tup b)=cmpOks a b:=rfl
section
variable{prog:Program}{w:World}
theorem cmpOk_is{x y:AV}(hx:x.key=true)(hy:y.key=true)(h:cmpOk x y=true):(∃ i j,x=.int i∧y=.int j)∨(∃ i j,x=.str i∧y=.str j)∨∃ i j,x=.tup i∧y=.tup j∧cmpOks i j=true:=by
 obtain⟨i,rfl⟩|⟨i,rfl⟩|⟨i,rfl,-⟩:=AV.key_is hx<;>obtain⟨j,rfl⟩|⟨j,rfl⟩|⟨j,rfl,-⟩:=AV.key_is hy<;>first|exact Bool.noConfusion h|exact .inl ⟨_,_,rfl,rfl⟩|exact .inr (.inl ⟨_,_,rfl,rfl⟩)|exact .inr (.inr ⟨_,_,rfl,rfl,h⟩)
theorem ltAny_n:∀(n:Nat) (x y:AV) {P:Addr→Prop} {A:Around} {E:Value→Shared→Prop} {s:Shared} {a b:Value} {Q:Value→Shared→Prop},x.dep<n→cmpOk x y=true→x.key=true→y.key=true→A.units+x.dep+1<cLine→VRep P s.heap a x→VRep P s.heap b y→
  (∀ c,Q (.bool c) s)→wpAny (model prog w) A (richCompare .Lt a b) Q E s
 |0,_,_,_,_,_,_,_,_,_,h,_,_,_,_,_,_,_=>absurd h (Nat.not_lt_zero _)
 |N+1,x,y,P,A,E,s,a,b,Q,hN,hc,hx,hy,hu,ra,rb,h=>by
  obtain⟨i,j,rfl,rfl⟩|⟨i,j,rfl,rfl⟩|⟨i,j,rfl,rfl,hcs⟩:=cmpOk_is hx hy hc
  ·obtain⟨_,rfl⟩:=ra.i_int
   obtain⟨_,rfl⟩:=rb.i_int
   exact PySem.P.lt_int (h _)
  ·obtain⟨_,rfl⟩:=ra.i_str
   obtain⟨_,rfl⟩:=rb.i_str
   exact PySem.P.lt_str (h _)
  obtain⟨pa,ia,na,rfl,_,ea,ria⟩:=ra.i_tup
  obtain⟨pb,ib,nb,rfl,_,eb,rib⟩:=rb.i_tup
  have hTa:s.TypeIs (.ref pa) "tuple":=⟨_,ea,rfl⟩
  have hTb:s.TypeIs (.ref pb) "tuple":=⟨_,eb,rfl⟩
  rw[AV.key_3] at hx hy
  rw[AV.dep_1] at hu hN
  have hN:=Nat.lt_of_succ_lt_succ hN
  clear ra rb hc
  refine wpAny_richCompare_same_room hTa hTb F.slot_tuple_lt (wpAny_call_entry F.slot_tuple_lt hTa F.entry_tuple_lt ?_ (F.args_tuple_lt_2 _ _)) (by lia)
  show wpAny _ A.in1 (isInstance (.ref pb) (.type "tuple")>>=_) _ _ s
  refine wpAny_bind (wpAny_isInstance hTb isSubtype_tuple_tuple ?_)
  show wpAny _ _ (Builtin.Tuple.tupleItemsOf (.ref pa)>>=_) _ _ s
  refine wpAny_bind (wpAny_tupleItemsOf ea rfl ?_)
  show wpAny _ _ (Builtin.Tuple.tupleItemsOf (.ref pb)>>=_) _ _ s
  refine wpAny_bind (wpAny_tupleItemsOf eb rfl ?_)
  refine wpAny_bind ?_
  clear hTa hTb ea eb
  refine wpAny_forIn_list _ (fun rest r s'=>r.1=Option.none∧s'=s∧∃ us vs xs ys,rest=List.zip us vs∧VReps P s.heap us xs∧VReps P s.heap vs ys∧(∀ x∈xs,x∈i)∧(∀ y∈ys,y∈j)∧cmpOks xs ys=true) _ ?_ ?_ _ _ ⟨rfl,rfl,_,_,i,j,rfl,ria,rib,fun V h=>h,fun V h=>h,hcs⟩
  ·rintro⟨u,v⟩ rest r s' ⟨hr,rfl,us,vs,xs,ys,e,ru,rv,sx,sy,hc'⟩
   cases ru with
   |nil=>exact(List.cons_ne_nil _ _ e).elim
   |@cons u' us' x xs' r1 ru'=>
   cases rv with
   |nil=>exact(List.cons_ne_nil _ _ e).elim
   |@cons v' vs' y ys' r2 rv'=>
   obtain⟨e1,e2⟩:=List.cons.inj (show(u,v)::rest=(u',v')::List.zip us' vs' from e)
   clear e
   obtain⟨rfl,rfl⟩:=Prod.mk.inj e1
   have mx:=sx x List.mem_cons_self
   have kx:=AV.key_of_mem hx x mx
   have ky:=AV.key_of_mem hy y (sy y List.mem_cons_self)
   have dx:=AV.dep_of_mem x mx
   rw[cmpOks_c] at hc'
   refine wpAny_bind (eqBool_av kx ky (by show A.units+1+x.dep<cLine;lia) r1 r2 ?_)
   by_cases hxy:x=y
   ·rw[decide_eq_true hxy]
    rw[if_pos hxy] at hc'
    simp only[Bool.not_true,Bool.false_eq_true,if_false]
    exact wpAny_pure ⟨rfl,rfl,us',vs',xs',ys',e2,ru',rv',fun z hz=>sx z (List.mem_cons_of_mem _ hz),fun z hz=>sy z (List.mem_cons_of_mem _ hz),hc'⟩
   ·rw[decide_eq_false hxy]
    rw[if_neg hxy] at hc'
    refine wpAny_bind (wpAny_rule (wpAny_bind (ltAny_n N x y (P:=P) (Nat.lt_of_le_of_lt dx hN) hc' kx ky (by show A.units+1+x.dep+1<cLine;lia) r1 r2 fun c=>?_)))
    exact wpAny_bind (wpAny_pure (wpAny_pure (wpAny_pure ⟨_,rfl,by simp,h c⟩)))
  ·rintro⟨r1,r2⟩ s' ⟨hr,rfl,_⟩
   cases hr
   exact wpAny_pure ⟨_,rfl,by simp[Builtin.Tuple.tupleCompareSizes],h _⟩
theorem ltAny(x y:AV){P:Addr→Prop}{A:Around}{E:Value→Shared→Prop}{s:Shared}{a b:Value}{Q:Value→Shared→Prop}(hc:cmpOk x y=true)(hx:x.key=true)(hy:y.key=true)(hu:A.units+x.dep+1<cLine)(ra:VRep P s.heap a x)(rb:VRep P s.heap b y)
  (h:∀ c,Q (.bool c) s):wpAny (model prog w) A (richCompare .Lt a b) Q E s:=ltAny_n _ x y (Nat.lt_succ_self _) hc hx hy hu ra rb h
end
noncomputable def KasT.all(N:Nat){α:Type}(P:α→Prop):KasT α→Prop
 |.ret a=>P a
 |.ask i j k=>i<N∧j<N∧∀ b,KasT.all N P (k b)
theorem KasT.all_bind{N:Nat}{α β:Type}{P:α→Prop}{R:β→Prop}{f:α→KasT β}(hf:∀ a,P a→KasT.all N R (f a)):∀{t:KasT α},KasT.all N P t→KasT.all N R (t.bind f)
 |.ret a,h=>hf a h
 |.ask i j k,h=>(iAA h.1 h.2.1 (fun b=>KasT.all_bind hf (h.2.2 b)))
theorem KasT.all_wp{N:Nat}{α:Type}{P:α→Prop}{cmp:Nat→Nat→(Bool→Shared→Prop)→Shared→Prop}{I:Shared→Prop}(hc:∀ i j C s,i<N→j<N→I s→(∀ b s',I s'→C b s')→cmp i j C s){Q:α→Shared→Prop}(hQ:∀ a s,P a→I s→Q a s):∀{t:KasT α} {s:Shared},KasT.all N P t→I s→t.kasWp cmp Q s
 |.ret a,s,h,hI=>hQ a s h hI
 |.ask i j k,s,h,hI=>hc i j _ s h.1 h.2.1 hI fun b s' hI'=>KasT.all_wp hc hQ (h.2.2 b) hI'
noncomputable def isPm(N:Nat)(p:Array Nat):Prop:=p.Perm (List.range N).toArray
set_option tactic.hygienic true in
theorem isPm.lt{N:Nat}{p:Array Nat}(h:isPm N p)(hN:0<N)(i:Nat):p.getD i 0<N:=by
 unfold Array.getD
 split
 ·rename_i hi
  have:p[i]∈(List.range N).toArray:=h.mem_iff.mp (Array.getElem_mem hi)
  simpa using this
 ·exact hN
theorem isPm.rev{N:Nat}{p:Array Nat}(h:isPm N p)(i j:Nat):isPm N (kas_rev p i j):=(mirror_perm p i j _).trans h
theorem isPm.bub{N:Nat}{p:Array Nat}(h:isPm N p)(i j:Nat):isPm N (bubble p i j):=(bubble_perm p i j).trans h
theorem all_asc{N:Nat}(hN:0<N){p:Array Nat}(hp:isPm N p):∀(f n:Nat),KasT.all N (fun V=>True) (kas_asc p f n)
 |0,n=>trivial
 |f+1,n=>(iAA (hp.lt hN _) (hp.lt hN _) (fun b=>by
  cases b
  ·simp only[Bool.false_eq_true,if_false];exact all_asc hN hp f (n+1)
  ·simp only[if_true];exact trivial))
theorem all_desc{N:Nat}(hN:0<N):∀(f:Nat)(p:Array Nat)(n q:Nat),isPm N p→KasT.all N (fun r:Array Nat × Nat × Nat=>isPm N r.1) (kas_desc f p n q)
 |0,p,n,q,hp=>hp
 |f+1,p,n,q,hp=>(iAA (hp.lt hN _) (hp.lt hN _) (fun b=>by
  cases b
  ·simp only[Bool.false_eq_true,if_false]
   refine(iAA (hp.lt hN _) (hp.lt hN _) (fun d=>?_))
   cases d
   ·simp only[Bool.false_eq_true,if_false];exact all_desc hN f p _ _ hp
   ·simp only[if_true];exact hp
  ·simp only[if_true]
   split
   ·exact all_desc hN f _ _ _ (hp.rev _ _)
   ·exact all_desc hN f _ _ _ hp))
theorem all_tail3{N:Nat}(hN:0<N)(n nrem:Nat){p:Array Nat}(hp:isPm N p):KasT.all N (fun r:Nat × Array Nat=>isPm N r.2) (kas_tail3 n nrem p):=by
 unfold kas_tail3
 refine KasT.all_bind (P:=fun V=>True) (fun m V=>?_) (all_asc hN (hp.rev _ _) _ _)
 exact hp.rev _ _
theorem all_descPart{N:Nat}(hN:0<N)(n nrem:Nat){p:Array Nat}(hp:isPm N p):KasT.all N (fun r:Nat × Array Nat=>isPm N r.2) (kas_descPart n nrem p):=by
 refine KasT.all_bind (fun r hr=>?_) (all_desc hN _ _ _ _ hp)
 split
 ·exact all_tail3 hN _ _ (hr.rev _ _)
 ·exact all_tail3 hN _ _ hr
theorem all_count{N:Nat}(hN:0<N)(nrem:Nat){p:Array Nat}(hp:isPm N p):KasT.all N (fun r:Nat × Array Nat=>isPm N r.2) (kas_count nrem p):=by
 refine KasT.all_bind (P:=fun V=>True) (fun n V=>?_) (all_asc hN hp _ _)
 split
 ·exact hp
 ·split
  ·refine(iAA (hp.lt hN _) (hp.lt hN _) (fun c=>?_))
   cases c
   ·simp only[Bool.false_eq_true,if_false];exact all_descPart hN _ _ (hp.rev _ _)
   ·simp only[if_true];exact hp
  ·exact all_descPart hN _ _ hp
theorem all_place{N:Nat}(hN:0<N){p:Array Nat}(hp:isPm N p)(k:Nat):∀(f l r:Nat),KasT.all N (fun V=>True) (kas_place p k f l r)
 |0,l,r=>trivial
 |f+1,l,r=>by
  rw[kas_place]
  split
  ·exact trivial
  ·refine(iAA (hp.lt hN _) (hp.lt hN _) (fun c=>?_))
   cases c
   ·simp only[Bool.false_eq_true,if_false];exact all_place hN hp k f _ _
   ·simp only[if_true];exact all_place hN hp k f _ _
theorem all_bin{N:Nat}(hN:0<N):∀(f:Nat)(p:Array Nat)(k:Nat),isPm N p→KasT.all N (isPm N) (kas_bin f p k)
 |0,p,k,hp=>hp
 |f+1,p,k,hp=>KasT.all_bind (P:=fun V=>True) (fun l V=>all_bin hN f _ _ (hp.bub _ _)) (all_place hN hp k _ _ _)
theorem all_sort{n:Nat}(hn:0<n):KasT.all n (isPm n) (kas_sort n):=by
 refine KasT.all_bind (fun r hr=>?_) (all_count hn n (Array.Perm.refl _))
 split
 ·exact all_bin hn _ _ _ hr
 ·exact hr
theorem pm_vals{vs:List Value}{p:Array Nat}(h:isPm vs.length p):(p.toList.map fun i=>vs.getD i Value.none).Perm vs:=by
 have h1:p.toList.Perm (List.range vs.length):=by
  have:=Array.perm_iff_toList_perm.mp h
  simpa using this
 have h2:=h1.map fun i=>vs.getD i Value.none
 refine h2.trans ?_
 have:((List.range vs.length).map fun i=>vs.getD i Value.none)=vs:=by
  apply List.ext_getElem?
  intro i
  rw[List.getElem?_map]
  by_cases hi:i<vs.length
  ·rw[List.getElem?_range hi];simp[List.getD,hi]
  ·rw[List.getElem?_eq_none (by rw[List.length_range];lia),List.getElem?_eq_none (by lia)];rfl
 rw[this]
structure SortOk (ks:List AV):Prop where
 key:∀ k∈ks,k.key=true∧k.dep≤8
 cmp:∀ x∈ks,∀ y∈ks,cmpOk x y=true
 kind:(∀ k∈ks,∃ i,k=.int i)∨(∀ k∈ks,∃ x r,k=.tup (.str x::r))∨(∀ k∈ks,∃ i r,k=.tup (.int i::r))
section
variable{prog:Program}{w:World}{A:Around}{E:Value→Shared→Prop}{s:Shared}{P:Addr→Prop}
noncomputable def KOk(ks:List AV)(κ:SortKind):Prop:=((∀ k∈ks,∃ i,k=.int i)∧κ=oneType')∨((∀ k∈ks,∃ x r,k=.tup (.str x::r))∧κ=tuples' true)∨((∀ k∈ks,∃ i r,k=.tup (.int i::r))∧κ=tuples' true)
theorem firsts_str:∀{vks:List Value} {ks:List AV},VReps P s.heap vks ks→(∀ k∈ks,∃ x r,k=.tup (.str x::r))→∃ fs,KatTups s.heap vks fs∧fs.length=vks.length∧∀ v∈fs,∃ x t,v=Value.str x t
 |_,[],r,_=>by rw[r.i_nil];exact(iEAA [] trivial rfl (fun v hv=>by simp at hv))
 |_,_::_,r,h=>by
  refine uEEAA r.i_cons ?_;clear r;rintro _ _ rfl r rs
  refine uEAA (firsts_str rs fun k hk=>h k (List.mem_cons_of_mem _ hk)) fun fs h1 h2 h3=>?_
  refine uEE (h _ List.mem_cons_self) ?_;rintro x r' rfl
  refine uEEEAAA r.i_tup ?_;clear r;rintro a items n rfl p e ri
  refine uEA (ri.get (i:=0) rfl) fun v hv rv=>?_
  obtain⟨_,rfl⟩:=rv.i_str
  exact(iEAA (_::fs) (KatTups.cons e rfl rfl (by simpa using hv) h1) (by simp[h2]) (fun u hu=>by
   rcases List.mem_cons.mp hu with rfl|hu
   ·exact(iEE _ _ rfl)
   ·exact h3 u hu))
theorem firsts_int:∀{vks:List Value} {ks:List AV},VReps P s.heap vks ks→(∀ k∈ks,∃ i r,k=.tup (.int i::r))→∃ fs,KatTups s.heap vks fs∧fs.length=vks.length∧∀ v∈fs,∃ x t,v=Value.int x t
 |_,[],r,_=>by rw[r.i_nil];exact(iEAA [] trivial rfl (fun v hv=>by simp at hv))
 |_,_::_,r,h=>by
  refine uEEAA r.i_cons ?_;clear r;rintro _ _ rfl r rs
  refine uEAA (firsts_int rs fun k hk=>h k (List.mem_cons_of_mem _ hk)) fun fs h1 h2 h3=>?_
  refine uEE (h _ List.mem_cons_self) ?_;rintro x r' rfl
  refine uEEEAAA r.i_tup ?_;clear r;rintro a items n rfl p e ri
  refine uEA (ri.get (i:=0) rfl) fun v hv rv=>?_
  obtain⟨_,rfl⟩:=rv.i_int
  exact(iEAA (_::fs) (KatTups.cons e rfl rfl (by simpa using hv) h1) (by simp[h2]) (fun u hu=>by
   rcases List.mem_cons.mp hu with rfl|hu
   ·exact(iEE _ _ rfl)
   ·exact h3 u hu))
theorem all_int:∀{vks:List Value} {ks:List AV},VReps P s.heap vks ks→(∀ k∈ks,∃ i,k=.int i)→∀ v∈vks,∃ i t,v=Value.int i t:=fun r h v hv=>by
 refine uEA (r.mem v hv) fun d hd rv=>?_
 obtain⟨i,rfl⟩:=h d hd
 obtain⟨_,rfl⟩:=rv.i_int
 exact(iEE _ _ rfl)
theorem kind_ok{vks:List Value}{ks:List AV}{Q:SortKind→Shared→Prop}(h2:2≤vks.length)(r:VReps P s.heap vks ks)(hk:SortOk ks)(hQ:∀ κ,KOk ks κ→Q κ s):wpAny (model prog w) A (keyKind' vks.toArray) Q E s:=by
 rcases hk.kind with k|k|k
 ·refine kas_kind (T:=.type "int") h2 (fun v hv=>?_) (by decide) (by decide) (hQ _ (.inl ⟨k,rfl⟩))
  refine uEE (all_int r k v hv) ?_;rintro i t rfl
  exact Looks.of_pure rfl
 ·refine uEAA (firsts_str r k) fun fs h1 h3 h4=>?_
  refine kat_kind (T:=.type "str") h1 (by lia) (fun v hv=>?_) (by decide) (hQ _ (.inr (.inl ⟨k,rfl⟩)))
  refine uEE (h4 v hv) ?_;rintro i t rfl
  exact Looks.of_pure rfl
 ·refine uEAA (firsts_int r k) fun fs h1 h3 h4=>?_
  refine kat_kind (T:=.type "int") h1 (by lia) (fun v hv=>?_) (by decide) (hQ _ (.inr (.inr ⟨k,rfl⟩)))
  refine uEE (h4 v hv) ?_;rintro i t rfl
  exact Looks.of_pure rfl
theorem oneLt_any{p q:Value}{Q:Bool→Shared→Prop}{x y:AV}(h:(∃ i j,x=.int i∧y=.int j)∨(∃ i j,x=.str i∧y=.str j))(rx:VRep P s.heap p x)(ry:VRep P s.heap q y)(hQ:∀ b,Q b s):wpAny (model prog w) A (oneLt' true p q) Q E s:=by
 rcases h with⟨i,j,rfl,rfl⟩|⟨i,j,rfl,rfl⟩
 ·obtain⟨_,rfl⟩:=rx.i_int;obtain⟨_,rfl⟩:=ry.i_int;exact oneLt_int (hQ _)
 ·obtain⟨_,rfl⟩:=rx.i_str;obtain⟨_,rfl⟩:=ry.i_str;exact oneLt_str (hQ _)
theorem lex_tail{fin:Bool}{Q:Bool→Shared→Prop}(hu:A.units+16<cLine)(hQ:∀ b,Q b s):∀{us vs:List Value} {xs ys:List AV} {i:Nat},0<i→VReps P s.heap us xs→VReps P s.heap vs ys→(∀ x∈xs,x.key=true∧x.dep≤8)→(∀ y∈ys,y.key=true)→cmpOks xs ys=true→KatLex prog w A true fin Q (us.zip vs) i s
 |us,vs,[],ys,_,_,r,_,_,_,_=>by rw[r.i_nil,List.zip_nil_left];exact kat_nil (hQ _)
 |us,vs,_::_,[],_,_,_,r,_,_,_=>by rw[r.i_nil,List.zip_nil_right];exact kat_nil (hQ _)
 |us,vs,x::_,y::_,i,hi,r,t,hx,hy,hc=>by
  refine uEEAA r.i_cons ?_;clear r;rintro _ _ rfl r rs
  refine uEEAA t.i_cons ?_;clear t;rintro _ _ rfl t ts
  rw[cmpOks_c] at hc
  have hxx:=hx x List.mem_cons_self
  have hyy:=hy y List.mem_cons_self
  refine kat_cons (eqBool_av hxx.1 hyy (uLt hu (Nat.le_trans hxx.2 (by decide))) r t (kat_go (fun he=>?_) fun he=>?_))
  ·have e:x=y:=of_decide_eq_true he
   rw[if_pos e] at hc
   exact kat_yes (lex_tail hu hQ (Nat.succ_pos i) rs ts (fun z hz=>hx z (List.mem_cons_of_mem _ hz)) (fun z hz=>hy z (List.mem_cons_of_mem _ hz)) hc)
  ·have e:¬ x=y:=of_decide_eq_false he
   rw[if_neg e] at hc
   refine kat_no ?_
   have hb:(true&&i == 0)=false:=by
    cases i with
    |zero=>exact absurd hi (Nat.lt_irrefl _)
    |succ n=>rfl
   rw[hb]
   refine kat_one _ _ (ltAny x y (P:=P) hc hxx.1 hyy (uLt (a:=x.dep+1) hu (Nat.le_trans (Nat.succ_le_succ hxx.2) (by decide))) r t fun c=>?_)
   exact hQ c
theorem ask_any{ks:List AV}{κ:SortKind}{a b:Value}{x y:AV}{Q:Bool→Shared→Prop}(hu:A.units+17<cLine)(hk:SortOk ks)(ho:KOk ks κ)(mx:x∈ks)(my:y∈ks)(ra:VRep P s.heap a x)(rb:VRep P s.heap b y)(hQ:∀ b,Q b s):wpAny (model prog w) A (keyLt' κ a b) Q E s:=by
 have tups:∀ l l',x=.tup l→y=.tup l'→(∃ i r j q,l=i::r∧l'=j::q∧((∃ m n,i=.int m∧j=.int n)∨(∃ m n,i=.str m∧j=.str n)))→wpAny (model prog w) A (keyLt' (tuples' true) a b) Q E s:=by
  rintro _ _ rfl rfl hh;refine uEEEEAA hh ?_;clear hh;rintro i r j q rfl rfl hij
  have hc:=hk.cmp _ mx _ my
  have kx:=hk.key _ mx
  have ky:=(hk.key _ my).1
  rw[cmpOk_t,cmpOks_c] at hc
  rw[AV.key_3,AV.keys_2,Bool.and_eq_true] at kx
  rw[AV.key_3,AV.keys_2,Bool.and_eq_true] at ky
  have kd:=kx.2
  rw[AV.dep_1,AV.deps_2] at kd
  obtain⟨pa,ia,na,rfl,pa0,ea,ria⟩:=ra.i_tup
  obtain⟨pb,ib,nb,rfl,pb0,eb,rib⟩:=rb.i_tup
  refine kat_lt ea rfl eb rfl ?_
  generalize decide (ia.size<ib.size)=fin
  generalize hia:ia.toList=la at ria ⊢
  generalize hib:ib.toList=lb at rib ⊢
  obtain⟨_,_,rfl,r1,rs1⟩:=ria.i_cons
  obtain⟨_,_,rfl,r2,rs2⟩:=rib.i_cons
  rw[List.zip_cons_cons]
  refine kat_cons (eqBool_av kx.1.1 ky.1 (uLt hu (Nat.le_trans (Nat.le_max_left _ _) (Nat.le_trans (Nat.le_of_succ_le_succ kd) (by decide)))) r1 r2 (kat_go (fun he=>?_) fun he=>?_))
  ·have e:i=j:=of_decide_eq_true he
   rw[if_pos e] at hc
   exact kat_yes (lex_tail (uLt hu (by decide)) hQ (Nat.succ_pos 0) rs1 rs2 (fun z hz=>⟨AV.key_of_mem kx.1.2 z hz,Nat.le_trans (AV.dep_of_mem z hz) (Nat.le_trans (Nat.le_max_right _ _) (Nat.le_trans (Nat.le_of_succ_le_succ kd) (by decide)))⟩) (fun z hz=>AV.key_of_mem ky.2 z hz) hc)
  ·refine kat_no ?_
   exact oneLt_any hij r1 r2 hQ
 rcases ho with⟨h,rfl⟩|⟨h,rfl⟩|⟨h,rfl⟩
 ·obtain⟨i,rfl⟩:=h x mx
  obtain⟨j,rfl⟩:=h y my
  obtain⟨_,rfl⟩:=ra.i_int;obtain⟨_,rfl⟩:=rb.i_int
  exact kat_lt_int (hQ _)
 ·refine uEE (h x mx) fun i r hx=>?_
  refine uEE (h y my) fun j q hy=>?_
  exact tups _ _ hx hy (iEEEEAA _ _ _ _ rfl rfl (.inr (iEEA _ _ rfl rfl)))
 ·refine uEE (h x mx) fun i r hx=>?_
  refine uEE (h y my) fun j q hy=>?_
  exact tups _ _ hx hy (iEEEEAA _ _ _ _ rfl rfl (.inl (iEEA _ _ rfl rfl)))
theorem run_any{vks vs:List Value}{ks:List AV}{κ:SortKind}{R:SortSt→Shared→Prop}(hu:A.units+17<cLine)(hl:vks.length=vs.length)(h2:2≤vs.length)(h64:vs.length<64)(r:VReps P s.heap vks ks)(hk:SortOk ks)(ho:KOk ks κ)
  (hR:∀ st' out,failedOf st'=none→(arrOf st').map (·.2)=List.toArray out→out.Perm vs→R st' s) :
  wpAny (model prog w) A ((sortRuns').run (SortSt.mk' κ (vks.toArray.zip vs.toArray) #[] 7 none)) (fun q s'=>R q.2 s') E s:=by
 refine kat_run (G:=fun p s'=>isPm vs.length p∧s'=s) hl h2 h64 (fun p st' s' hp har hf hg=>?_) ?_
 ·obtain⟨hpm,rfl⟩:=hg
  exact hR st' _ hf (kat_snds hl har) (pm_vals hpm)
 ·refine KasT.all_wp (N:=vs.length) (P:=isPm vs.length) (I:=fun s'=>s'=s) (fun i j C s' hi hj hI hC=>?_) (fun a s' ha hI=>⟨ha,hI⟩) (all_sort (by lia)) rfl
  subst hI
  have hlen:=r.length
  have get:∀ i,i<vs.length→∃ x∈ks,VRep P s'.heap (vks.getD i Value.none) x:=fun i hi=>by
   have hi':i<vks.length:=by lia
   refine uEA (r.mem (vks.getD i Value.none) (by rw[List.getD_eq_getElem?_getD,List.getElem?_eq_getElem hi'];exact List.getElem_mem hi')) fun d hd rd=>?_
   exact(iEA d hd rd)
  refine uEA (get i hi) fun x mx rx=>?_
  refine uEA (get j hj) fun y my ry=>?_
  exact ask_any hu hk ho mx my rx ry fun b=>hC b s' rfl
end
theorem VReps.perm{P h}{vs out:List Value}(p:out.Perm vs):∀{l:List AV},VReps P h vs l→∃ l',VReps P h out l'∧l'.Perm l:=by
 induction p with
 |nil=>intro l r;exact(iEA l r (List.Perm.refl _))
 |@cons x l1 l2 p ih=>
  intro l r
  cases r with
  |cons r rs=>
   refine uEA (ih rs) fun l' h1 h2=>?_
   exact(iEA (_::l') (.cons r h1) (h2.cons _))
 |@swap x y l1=>
  intro l r
  cases r with
  |cons r rs=>
   cases rs with
   |cons r2 rs=>
    exact(iEA _ (.cons r2 (.cons r rs)) (List.Perm.swap _ _ _))
 |@trans l1 l2 l3 p q ih1 ih2=>
  intro l r
  refine uEA (ih2 r) fun l' h1 h2=>?_
  refine uEA (ih1 h1) fun l'' h3 h4=>?_
  exact(iEA l'' h3 (h4.trans h2))
section
variable{G:GC}{ℓ:Nat}{own:Own}{A:Around}{E:Value→Shared→Prop}{s:Shared}
theorem ext2_of{s:Shared}{own own1:Own}{o1 o2:Obj}(O:Ok G own1 s.heap):Step noX own1 own1 s {s with heap:=(s.heap.push o1).push o2}∧Ok G own1 ((s.heap.push o1).push o2):=
 ⟨⟨(iEE _ s.toks rfl),fun b o e p V=>⟨push_ext _ _ (push_ext _ _ e),p⟩⟩,(O.ext push_ext).ext push_ext⟩
theorem list_sort_run{D:Addr}{L:List AV}{P:PySem.Fin→Shared→Prop}(hu:A.units+17<cLine)(O:Ok G own s.heap)(hD:own D=some (.list L))(h64:L.length<64)(hk:SortOk L)
  (hP:∀ L' s',L'.Perm L→Step noX own (upd own D (.list L')) s s'→Ok G (upd own D (.list L')) s'.heap→P (.done (.ret .none)) s'):wpAny (model G.prog G.w) A (Builtin.«list.sort» ⟨[.ref D],[]⟩) P E s:=by
 obtain⟨⟨items,n,e,r⟩,_⟩:=O.own D _ hD
 have hlen:=r.length
 rw[Array.length_toList] at hlen
 have hszl:=sizeLine_eq
 rw[list_sort_plain]
 refine wpAny_bind (listItems_at e rfl ?_)
 refine wpAny_bind (listUpdate_at e rfl ?_ (by lia) (Nat.zero_le _))
 obtain⟨S1,O1⟩:=list_chg O hD e (fun V=>#[]) rfl (l':=[]) .nil
 have e1:=IsL.update e (fun V=>#[])
 refine wpAny_bind (seqEpoch_at e1 rfl ?_)
 refine wpAny_bind (wpAny_newTuple ?_ (by rw[Array.length_toList];lia))
 refine wpAny_bind (wpAny_newList ?_ (Nat.zero_le _))
 refine wpAny_holding ?_
 obtain⟨S2,O2⟩:=ext2_of (own:=own) (s:={s with heap:=s.heap.update D (Obj.mapSeq fun V=>#[])}) (o1:={cls:=.type "tuple",data:=.seq items.toList.toArray}) (o2:={cls:=.type "list",data:=.seq ([]:List Value).toArray}) O1
 have S12:=S1.trans S2
 have e2:(((s.heap.update D (Obj.mapSeq fun V=>#[])).push {cls:=.type "tuple",data:=.seq items.toList.toArray}).push {cls:=.type "list",data:=.seq ([]:List Value).toArray}).get? D=some {cls:=.type "list",data:=.seq #[] (if (#[]:Array Value).size == items.size then n else n+1)}:=push_ext _ _ (push_ext _ _ e1)
 have r2:=r.mono (TK.chg (y:=.list []) hD (Heap.SameBut.update s.heap D (Obj.mapSeq fun V=>#[])))
 have r3:=r2.mono S2.mono
 have fin:∀ out:List Value,out.Perm items.toList→∀ s3:Shared,s3={s with heap:=((s.heap.update D (Obj.mapSeq fun V=>#[])).push {cls:=.type "tuple",data:=.seq items.toList.toArray}).push {cls:=.type "list",data:=.seq ([]:List Value).toArray}}→
   ∀ s4:Shared,s4={s3 with heap:=s3.heap.update D (Obj.mapSeq fun V=>out.toArray)}→P (.done (.ret .none)) s4:=by
  rintro out hp s3 rfl s4 rfl
  refine uEA (r3.perm hp) fun L' h1 h2=>?_
  obtain⟨S4,O4⟩:=list_chg (own:=upd own D (.list [])) (s:={s with heap:=((s.heap.update D (Obj.mapSeq fun V=>#[])).push {cls:=.type "tuple",data:=.seq items.toList.toArray}).push {cls:=.type "list",data:=.seq ([]:List Value).toArray}}) O2 (upd_self ..) e2 (fun V=>out.toArray) rfl (l':=L') h1
  rw[upd_upd] at S4 O4
  exact hP L' _ h2 (S12.trans S4) O4
 show wpAny (model G.prog G.w) A _ P E {s with heap:=((s.heap.update D (Obj.mapSeq fun V=>#[])).push {cls:=.type "tuple",data:=.seq items.toList.toArray}).push {cls:=.type "list",data:=.seq ([]:List Value).toArray}}
 dsimp only
 by_cases h2:items.size<2
 ·rw[if_pos h2,if_pos h2]
  refine wpAny_bind (wpAny_pure ?_)
  rw[StateT.run_pure]
  refine wpAny_bind (wpAny_pure ?_)
  dsimp only
  refine wpAny_bind (seqEpoch_at e2 rfl ?_)
  refine wpAny_bind (listUpdate_at e2 rfl ?_ (Nat.zero_le _) (by show((items.zip items).map (·.2)).size≤_;simp;lia))
  simp only[bne_self_eq_false,Bool.false_eq_true,if_false]
  refine wpAny_pure (fin items.toList (List.Perm.refl _) _ rfl _ ?_)
  have ez:(arrOf (SortSt.mk' general' (items.zip items) #[] 7 none)).map (·.2)=items.toList.toArray:=by
   show(items.zip items).map (·.2)=items.toList.toArray
   apply Array.toList_inj.mp
   rw[Array.toList_map,Array.toList_zip]
   simp[List.map_snd_zip]
  rw[ez]
 ·rw[if_neg h2,if_neg h2]
  have ei:items=items.toList.toArray:=by simp
  refine wpAny_bind ?_
  have hk2:keyKind' items=keyKind' items.toList.toArray:=by rw[← ei]
  refine kind_ok (by rw[Array.length_toList];lia) r3 hk fun κ ho=>?_
  refine wpAny_bind ?_
  have ez2:items.zip items=items.toList.toArray.zip items.toList.toArray:=by rw[← ei]
  rw[ez2]
  refine wpAny_mono (run_any (R:=fun st' s'=>s'={s with heap:=((s.heap.update D (Obj.mapSeq fun V=>#[])).push {cls:=.type "tuple",data:=.seq items.toList.toArray}).push {cls:=.type "list",data:=.seq ([]:List Value).toArray}}∧∃ out:List Value,failedOf st'=Option.none∧(arrOf st').map (·.2)=List.toArray out∧out.Perm items.toList)
   hu rfl (by rw[Array.length_toList];lia) (by rw[Array.length_toList];lia) r3 hk ho fun st' out hf hout hp=>(iAEAA rfl out hf hout hp)) ?_ fun V V x=>x
  rintro⟨⟨⟩,st'⟩ s' hh;refine uAEAA hh ?_;clear hh;rintro rfl out hf hout hp
  dsimp only
  refine wpAny_bind (seqEpoch_at e2 rfl ?_)
  rw[hout]
  refine wpAny_bind (listUpdate_at e2 rfl ?_ (Nat.zero_le _) (by rw[List.size_toArray,hp.length_eq,Array.length_toList];lia))
  rw[hf]
  simp only[bne_self_eq_false,Bool.false_eq_true,if_false]
  exact wpAny_pure (fin out hp _ rfl _ rfl)
end
section
variable{G:GC}{ℓ:Nat}{own:Own}{A:Around}{E:Value→Shared→Prop}{s:Shared}
theorem keys_end{D kS:Addr}{L ks:List AV}{vs vks:List Value}{e1 ek:Nat}{P:PySem.Fin→Shared→Prop}(hu:A.units+17<cLine)(O:Ok G own s.heap)(hD:own D=some (.list []))(hK:own kS=some (.list ks))(hne:kS≠D)
  (eD:s.heap.get? D=some {cls:=.type "list",data:=.seq #[] e1}) (eK:s.heap.get? kS=some {cls:=.type "list",data:=.seq vks.toArray ek}) (rv:VReps (fz own) s.heap vs L) (rk:VReps (fz own) s.heap vks ks) (hlen:ks.length=L.length) (h64:L.length<64) (hk:SortOk ks)
  (hP:∀ L' s',L'.Perm L→Step noX own (upd (upd own kS (.list [])) D (.list L')) s s'→Ok G (upd (upd own kS (.list [])) D (.list L')) s'.heap→P (.done (.ret .none)) s') :
  wpAny (model G.prog G.w) A (ksk_end D false vs.toArray e1 (.ref kS) vks.toArray) P E s:=by
 have l1:=rv.length
 have l2:=rk.length
 have hszl:=sizeLine_eq
 have fin:∀(st:SortSt)(out:List Value),failedOf st=Option.none→(arrOf st).map (·.2)=List.toArray out→out.Perm vs→wpAny (model G.prog G.w) A (ksk_tail D false e1 (.ref kS) st) P E s:=by
  intro st out hf hout hp
  refine wpAny_bind (listUpdate_at eK rfl ?_ (by rw[List.size_toArray];lia) (Nat.zero_le _))
  refine wpAny_bind (wpAny_letGo ?_)
  obtain⟨S1,O1⟩:=list_chg O hK eK (fun V=>#[]) rfl (l':=[]) .nil
  have eD1:(s.heap.update kS (Obj.mapSeq fun V=>#[])).get? D=some {cls:=.type "list",data:=.seq #[] e1}:=(Heap.get?_update_other _ _ hne).trans eD
  refine wpAny_bind (seqEpoch_at eD1 rfl ?_)
  rw[hout]
  refine wpAny_bind (listUpdate_at eD1 rfl ?_ (Nat.zero_le _) (by show out.toArray.size≤_;rw[List.size_toArray,hp.length_eq];lia))
  rw[hf]
  simp only[bne_self_eq_false,Bool.false_eq_true,if_false]
  refine uEA ((rv.mono (TK.chg (y:=.list []) hK (Heap.SameBut.update s.heap kS (Obj.mapSeq fun V=>#[])))).perm hp) fun L' h1 h2=>?_
  have hD1:upd own kS (.list []) D=some (.list []):=by rw[upd_ne _ _ (Ne.symm hne)];exact hD
  obtain⟨S2,O2⟩:=list_chg (s:={s with heap:=s.heap.update kS (Obj.mapSeq fun V=>#[])}) O1 hD1 eD1 (fun V=>out.toArray) rfl (l':=L') h1
  exact wpAny_pure (hP L' _ h2 (S1.trans S2) O2)
 unfold ksk_end
 dsimp only
 by_cases h2:vs.toArray.size<2
 ·rw[if_pos h2,if_pos h2]
  refine wpAny_bind (wpAny_pure ?_)
  refine wpAny_bind (wpAny_pure ?_)
  refine fin _ vs rfl ?_ (List.Perm.refl _)
  show(vks.toArray.zip vs.toArray).map (·.2)=vs.toArray
  apply Array.toList_inj.mp
  simp[List.map_snd_zip,l1,l2,hlen]
 ·rw[if_neg h2,if_neg h2]
  rw[List.size_toArray] at h2
  refine wpAny_bind (kind_ok (by lia) rk hk fun κ ho=>?_)
  refine wpAny_bind (wpAny_mono (run_any (R:=fun st' s'=>s'=s∧∃ out:List Value,failedOf st'=Option.none∧(arrOf st').map (·.2)=List.toArray out∧out.Perm vs)
   hu (by lia) (by lia) (by lia) rk hk ho fun st' out hf hout hp=>(iAEAA rfl out hf hout hp)) ?_ fun V V x=>x)
  rintro⟨⟨⟩,st'⟩ s' hh;refine uAEAA hh ?_;clear hh;rintro rfl out hf hout hp
  exact fin st' out hf hout hp
noncomputable def del(own:Own)(D:Addr):Own:=fun b=>if b=D then Option.none else own b
theorem del_self(own:Own)(D:Addr):del own D D=Option.none:=by simp[del]
theorem del_ne(own:Own){D b:Addr}(h:b≠D):del own D b=own b:=by simp[del,h]
theorem del_sub(own:Own)(D:Addr)(x:AObj):sub (del own D) (upd own D x):=fun b z e=>by
 by_cases h:b=D
 ·subst h;rw[del_self] at e;cases e
 ·rw[del_ne _ h] at e;rw[upd_ne _ _ h];exact e
theorem list_sort_key{D:Addr}{L:List AV}{fa:Addr}{kf:AV→AV}{P:PySem.Fin→Shared→Prop}(hA:AOk A ℓ)(hl:ℓ≤900)(O:Ok G own s.heap)(hD:own D=some (.list L))(h64:L.length<64)(hk:SortOk (L.map kf))
  (hf:∀ own' x,x∈L→Cal G ℓ own' (.ref fa) [x] fun k o1=>k=kf x∧o1=own')
  (hP:∀ L' s',L'.Perm L→Step noX own (upd own D (.list L')) s s'→Ok G (upd own D (.list L')) s'.heap→P (.done (.ret .none)) s'):wpAny (model G.prog G.w) A (ksk_tree D (.ref fa) false) P E s:=by
 obtain⟨⟨items,n,e,r⟩,_⟩:=O.own D _ hD
 have hlen:=r.length
 rw[Array.length_toList] at hlen
 have hszl:=sizeLine_eq
 refine wpAny_bind (listItems_at e rfl ?_)
 refine wpAny_bind (listUpdate_at e rfl ?_ (by lia) (Nat.zero_le _))
 obtain⟨S1,O1⟩:=list_chg O hD e (fun V=>#[]) rfl (l':=[]) .nil
 have e1:=IsL.update e (fun V=>#[])
 generalize hn1:(if (#[]:Array Value).size == items.size then n else n+1)=n1 at e1
 refine wpAny_bind (seqEpoch_at e1 rfl ?_)
 refine wpAny_bind (wpAny_newTuple ?_ (by rw[Array.length_toList];lia))
 refine wpAny_bind (wpAny_newList ?_ (Nat.zero_le _))
 refine wpAny_holding ?_
 have T1:=TK.chg (y:=.list []) hD (Heap.SameBut.update s.heap D (Obj.mapSeq fun V=>#[]))
 let s1:Shared:={s with heap:=s.heap.update D (Obj.mapSeq fun V=>#[])}
 let ow:=del own D
 have hbD:G.base.get? D=Option.none:=by
  cases q:G.base.get? D with
  |none=>rfl
  |some o=>have:=(O.base _ _ q).2;rw[hD] at this;cases this
 replace O1:Ok G ow s1.heap:=O1.less (del_sub own D _)
 replace S1:Step noX own ow s s1:=S1.less (del_sub own D _)
 replace T1:TK (fz own) (fz ow) s.heap s1.heap:=fun b i n e p=>⟨(T1 b i n e p).1,(del_sub own D _).none (T1 b i n e p).2⟩
 refine uAA (tup_new (s:=s1) (own:=ow) O1 (r.mono T1)) fun S2 O2 V=>?_
 let s2:Shared:={s with heap:=s1.heap.push {cls:=.type "tuple",data:=.seq items.toList.toArray}}
 refine uAA (list_new (s:=s2) (own:=ow) (vs:=[]) (avs:=[]) O2 .nil) fun hk0 S3 O3=>?_
 let kS:=s2.heap.objs.size
 let s3:Shared:={s with heap:=s2.heap.push {cls:=.type "list",data:=.seq ([]:List Value).toArray}}
 have hKD:kS≠D:=by
  intro q
  have h2:s2.heap.get? D=some _:=push_ext _ _ e1
  have h3:s2.heap.get? kS=Option.none:=get_size _
  rw[q,h2] at h3;cases h3
 have S123:Step noX own (upd ow kS (.list [])) s s3:=(S1.trans S2).trans S3
 have r3:VReps (fz (upd ow kS (.list []))) s3.heap items.toList L:=((r.mono T1).mono S2.mono).mono S3.mono
 have ek3:s3.heap.get? kS=some {cls:=.type "list",data:=.seq #[] 0}:=Heap.get?_push_size _ rfl
 have ed3:s3.heap.get? D=some {cls:=.type "list",data:=.seq #[] n1}:=push_ext _ _ (push_ext _ _ e1)
 show wpAny _ _ (ksk_rest D (.ref fa) false items n1 (.ref kS)) _ _ s3
 refine wpAny_bind (wpAny_rule ?_)
 refine wpAny_bind ?_
 rw[← Array.forIn_toList]
 refine wpAny_forIn_list _ (fun rest (V:PUnit) s'=>∃ dn lf vks c n2,L=dn++lf∧Step noX own (upd ow kS (.list (dn.map kf))) s s'∧Ok G (upd ow kS (.list (dn.map kf))) s'.heap∧VReps (fz (upd ow kS (.list (dn.map kf)))) s'.heap rest lf∧VReps (fz (upd ow kS (.list (dn.map kf)))) s'.heap items.toList L∧
   s'.heap.get? kS=some {cls:=.type "list",data:=.seq (List.toArray vks) c}∧VReps (fz (upd ow kS (.list (dn.map kf)))) s'.heap vks (dn.map kf)∧s'.heap.get? D=some {cls:=.type "list",data:=.seq #[] n2}∧n2=n1) _ ?_ ?_ _ _ (iEEEEEAAAAAAAA [] L [] 0 n1 rfl S123 O3 r3 r3 ek3 .nil ed3 rfl)
 ·rintro v rest ⟨⟩ s' hh;refine uEEEEEAAAAAAAA hh ?_;clear hh;rintro dn lf vks c n2 hL S' O' rl ri ek rk ed rfl
  cases rl with
  |@cons _ _ x xs r1 rl'=>
  have mx:x∈L:=by rw[hL];simp
  refine wpAny_bind (wpAny_attempt ?_)
  refine hf _ x mx A s' _ [v] _ _ hA O' (.ref _) (.cons r1 .nil) fun k ak o1 s4 hk4 S4 O4 r4=>?_
  obtain⟨rfl,rfl⟩:=hk4
  have hKo:upd ow kS (.list (dn.map kf)) kS=some (.list (dn.map kf)):=upd_self ..
  obtain⟨⟨its4,n4,ek4,rk4⟩,_⟩:=O4.own kS _ hKo
  have hlk:=rk4.length
  rw[Array.length_toList,List.length_map] at hlk
  have hdn:dn.length≤L.length:=by rw[hL];simp
  have rp:VReps (fz (upd ow kS (.list (dn.map kf)))) s4.heap (its4.push k).toList (dn.map kf++[kf x]):=by
   rw[Array.toList_push];exact rk4.append (.cons r4 .nil)
  obtain⟨S5,O5⟩:=list_chg O4 hKo ek4 (fun y=>y.push k) rfl rp
  rw[upd_upd] at S5 O5
  have ek5:=IsL.update ek4 (fun y=>y.push k)
  have T5:TK (fz (upd ow kS (.list (dn.map kf)))) (fz (upd ow kS (.list (dn.map kf++[kf x])))) s4.heap (s4.heap.update kS (Obj.mapSeq fun y=>y.push k)):=by
   have:=TK.chg (y:=.list (dn.map kf++[kf x])) hKo (Heap.SameBut.update s4.heap kS (Obj.mapSeq fun y=>y.push k))
   rwa[upd_upd] at this
  refine wpAny_bind (listUpdate_at ek4 rfl ?_ (by lia) (by rw[Array.size_push];lia))
  have hDo:upd ow kS (.list (dn.map kf)) D=Option.none:=by rw[upd_ne _ _ (Ne.symm hKD)];exact del_self ..
  have ed4:s4.heap.get? D=some {cls:=.type "list",data:=.seq #[] n2}:=(S4.keep D _ ed hDo id).1
  refine wpAny_pure (iEEEEEAAAAAAAA (dn++[x]) xs ((its4.push k).toList) _ n2 (by rw[hL];simp) ?_ ?_ ?_ ?_ ek5 ?_ ((Heap.get?_update_other _ _ hKD).trans ed4) rfl)
  ·rw[List.map_append];exact(S'.trans S4).trans S5
  ·rw[List.map_append];exact O5
  ·rw[List.map_append];exact(rl'.mono S4.mono).mono T5
  ·rw[List.map_append];exact(ri.mono S4.mono).mono T5
  ·rw[List.map_append];exact rp.mono T5
 ·rintro⟨⟩ s' hh;refine uEEEEEAAAAAAAA hh ?_;clear hh;rintro dn lf vks c n2 hL S' O' rl ri ek rk ed rfl
  cases rl
  rw[List.append_nil] at hL
  subst hL
  refine wpAny_bind (listItems_at ek rfl ?_)
  have hu:A.units+17<cLine:=by have:=hA.room (by lia);lia
  have ei:items=items.toList.toArray:=by simp
  rw[ei]
  have hDo:upd ow kS (.list (L.map kf)) D=Option.none:=by rw[upd_ne _ _ (Ne.symm hKD)];exact del_self ..
  have Oa:Ok G (upd (upd ow kS (.list (L.map kf))) D (.list [])) s'.heap:=adopt_own O' hDo hbD ed (fun i n q=>by simp at q) (iEEA (#[]) n2 ed .nil)
  have Ta:TK (fz (upd ow kS (.list (L.map kf)))) (fz (upd (upd ow kS (.list (L.map kf))) D (.list []))) s'.heap s'.heap:=fun b i n eb p=>⟨eb,by
   show upd _ D _ b=Option.none
   rw[upd_ne];exact p
   rintro rfl;rw[ed] at eb;simp at eb⟩
  refine keys_end hu Oa (upd_self ..) (by rw[upd_ne _ _ hKD];exact upd_self ..) hKD ed ek (ri.mono Ta) (rk.mono Ta) (by simp) h64 hk fun L' s5 hp S5 O5=>?_
  have hs:sub (upd own D (.list L')) (upd (upd (upd (upd ow kS (.list (L.map kf))) D (.list [])) kS (.list [])) D (.list L')):=by
   intro b z hz
   by_cases hb:b=D
   ·subst hb;rw[upd_self] at hz ⊢;exact hz
   ·rw[upd_ne _ _ hb] at hz ⊢
    have hbk:b≠kS:=by
     rintro rfl
     have h1:ow kS=Option.none:=hk0
     have h2:ow kS=own kS:=del_ne _ hKD
     rw[h2] at h1;rw[h1] at hz;cases hz
    rw[upd_ne _ _ hbk,upd_ne _ _ hb,upd_ne _ _ hbk]
    show del own D b=some z
    rw[del_ne _ hb];exact hz
  refine hP L' s5 hp ?_ (O5.less hs)
  refine uEE S'.ex fun h1 t1 q1=>?_
  refine uEE S5.ex fun h2 t2 q2=>?_
  refine⟨(iEE h2 t2 (by rw[q2,q1])),fun b o eb p V=>?_⟩
  have hb:b≠D:=by rintro rfl;rw[hD] at p;cases p
  have k1:=S'.keep b o eb p id
  have k2:=S5.keep b o k1.1 (by rw[upd_ne _ _ hb];exact k1.2) id
  exact⟨k2.1,by rw[upd_ne _ _ hb];exact p⟩
end
noncomputable def EAt(h:Heap)(d:Addr)(es:Array DictEntry)(ep:Nat):Prop:=∃ o,h.get? d=some o∧o.ExactDict∧o.data=.dict es ep
theorem EAt.typeIs{s:Shared}{d es ep}(x:EAt s.heap d es ep):s.TypeIs (.ref d) "dict":=let ⟨o,ho,hc,_⟩:=x;(iEA o ho hc.1)
theorem EAt.at'{h h':Heap}{d es ep}(x:EAt h d es ep)(e:∀ o,h.get? d=some o→h'.get? d=some o):EAt h' d es ep:=let ⟨o,ho,r⟩:=x;(iEA o (e _ ho) r)
theorem EAt.lt{h:Heap}{d es ep}(x:EAt h d es ep):d<h.objs.size:=let ⟨_,ho,_⟩:=x;Heap.lt_size ho
section
variable{prog:Program}{w:World}{A:Around}{E:Value→Shared→Prop}{s:Shared}
theorem pyIter_entries{d:Addr}{es:Array DictEntry}{ep:Nat}{Q:Value→Shared→Prop}(hd:(d == sysModules)=false)(hm:EAt s.heap d es ep)
  (hQ:Q (.ref s.heap.objs.size) {s with heap:=s.heap.push {cls:=.type "dict_keyiterator",data:=.fields #[.ref d,.int 0 0,.int es.size 0,.int ep 0]}}) :
  wpAny (model prog w) A (pyIter (.ref d)) Q E s:=by
 refine uEAA (id hm) fun o ho hc hdat=>?_
 have hT:s.TypeIs (.ref d) "dict":=hm.typeIs
 refine wpAny_pyIter_slot hT F.slot_dict_iter (wpAny_call_entry F.slot_dict_iter hT F.entry_dict_iter ?_ (F.args_dict_iter_1 _))
 unfold Builtin.«dict.__iter__»
 refine wpAny_bind ?_
 refine wpAny_bind (wpAny_notOrdered_dict hT ?_)
 refine wpAny_pure ?_
 show wpAny _ _ (Builtin.Dict.showsAll d>>=_) _ _ s
 unfold Builtin.Dict.showsAll
 rw[if_neg (by rw[hd];exact Bool.false_ne_true)]
 refine wpAny_bind (wpAny_pure ?_)
 refine wpAny_bind (wpAny_dictEntries ho hdat ?_)
 refine wpAny_bind (wpAny_dictEpoch ho hdat ?_)
 refine wpAny_bind (wpAny_newObj_type (wpAny_pure (iEAEEAA _ rfl ("dict_keyiterator") _ (iEA _ (Heap.get?_push_size _ rfl) rfl) F.slot_dict_keyiterator_next.lookup ?_)))
 simpa[rawInt] using hQ
theorem next_entry{it d:Addr}{i ep:Nat}{es:Array DictEntry}{Q:Option Value→Shared→Prop}(hit:s.heap.IsKeyIter it d i es.size ep)(hm:EAt s.heap d es ep)(hlt':i<es.size)
  (hQ:∀ h',h'.IsKeyIter it d (i+1) es.size ep→Heap.SameBut it s.heap h'→Q (some es[i].key) {s with heap:=h'}) :
  wpAny (model prog w) A (pyNext (.ref it)) Q E s:=by
 refine uEAA (id hit) fun o ho hc hd=>?_
 refine uEAA (id hm) fun od hod hcd hdd=>?_
 refine wpAny_bind (wpAny_attempt (wpAny_callSpecial?_slot (name:=Str.ofString "__next__") hit.typeIs F.slot_dict_keyiterator_next
  (wpAny_call_entry F.slot_dict_keyiterator_next hit.typeIs F.entry_dict_keyiterator_next ?_ (F.args_dict_keyiterator_next_1 _))))
 refine wpAny_bind (wpAny_pure ?_)
 refine wpAny_bind ?_
 refine wpAny_bind ?_
 first|refine wpAny_bind (wpAny_typeNameOfWhole_keyiter hit.typeIs (wpAny_pure ?_))|refine wpAny_bind (wpAny_typeNameOf_keyiter hit.typeIs (wpAny_pure ?_))
 refine wpAny_bind (wpAny_fieldsOf ho hd ?_)
 show wpAny _ _ (if (Value.ref d == Value.none)=true then _ else _) _ _ s
 rw[if_neg (show ¬ ((Value.ref d == Value.none)=true) from Bool.false_ne_true)]
 refine wpAny_bind (wpAny_pure ?_)
 refine wpAny_bind (wpAny_dictEntries hod hdd ?_)
 rw[if_neg (by simp)]
 refine wpAny_bind (wpAny_pure ?_)
 refine wpAny_bind (wpAny_dictEpoch hod hdd ?_)
 rw[if_neg (by simp)]
 refine wpAny_pure ?_
 simp only[show ¬ ((i:Int)<0) from by lia,if_false,Int.toNat_natCast,Array.getElem?_eq_getElem hlt']
 refine wpAny_bind ?_
 first|refine wpAny_bind (wpAny_typeNameOfWhole_keyiter hit.typeIs (wpAny_pure ?_))|refine wpAny_bind (wpAny_typeNameOf_keyiter hit.typeIs (wpAny_pure ?_))
 refine wpAny_bind (wpAny_isOneOf_keyiter hit.typeIs ?_)
 show wpAny _ _ (setField (.ref it) 1 (rawInt ((i:Int)+1))>>=_) _ _ s
 refine wpAny_bind (wpAny_setField ho hd (by simp) ?_)
 have hit':(s.heap.update it (Obj.mapFields (·.setIfInBounds 1 (rawInt ((i:Int)+1))))).IsKeyIter it d (i+1) es.size ep:=
  (iEAA _ (Heap.get?_update_self _ ho (Obj.isFreed_of_fields (Obj.data_mapFields hd _))) ((Obj.cls_mapFields ..).trans hc) (by rw[Obj.data_mapFields hd];simp[rawInt]))
 refine wpAny_bind (wpAny_holding ?_)
 refine wpAny_bind (wpAny_isOneOf_keyiter (s:={s with heap:=s.heap.update it (Obj.mapFields (·.setIfInBounds 1 (rawInt ((i:Int)+1))))}) hit'.typeIs ?_)
 exact wpAny_pure (wpAny_pure (iEA _ rfl (wpAny_pure (hQ _ hit' (Heap.SameBut.update ..)))))
theorem next_entry_end{it d:Addr}{i ep:Nat}{es:Array DictEntry}{Q:Option Value→Shared→Prop}(hh:A.handled=none)(hit:s.heap.IsKeyIter it d i es.size ep)(hm:EAt s.heap d es ep)(hge:es.size≤i)
  (hQ:∀ h',Heap.ExtBut it s.heap h'→Q none {s with heap:=h'}):wpAny (model prog w) A (pyNext (.ref it)) Q E s:=by
 refine uEAA (id hit) fun o ho hc hd=>?_
 refine uEAA (id hm) fun od hod hcd hdd=>?_
 refine wpAny_bind (wpAny_attempt (wpAny_callSpecial?_slot (name:=Str.ofString "__next__") hit.typeIs F.slot_dict_keyiterator_next
  (wpAny_call_entry F.slot_dict_keyiterator_next hit.typeIs F.entry_dict_keyiterator_next ?_ (F.args_dict_keyiterator_next_1 _))))
 refine wpAny_bind (wpAny_pure ?_)
 refine wpAny_bind ?_
 refine wpAny_bind ?_
 first|refine wpAny_bind (wpAny_typeNameOfWhole_keyiter hit.typeIs (wpAny_pure ?_))|refine wpAny_bind (wpAny_typeNameOf_keyiter hit.typeIs (wpAny_pure ?_))
 refine wpAny_bind (wpAny_fieldsOf ho hd ?_)
 show wpAny _ _ (if (Value.ref d == Value.none)=true then _ else _) _ _ s
 rw[if_neg (show ¬ ((Value.ref d == Value.none)=true) from Bool.false_ne_true)]
 refine wpAny_bind (wpAny_pure ?_)
 refine wpAny_bind (wpAny_dictEntries hod hdd ?_)
 rw[if_neg (by simp)]
 refine wpAny_bind (wpAny_pure ?_)
 refine wpAny_bind (wpAny_dictEpoch hod hdd ?_)
 rw[if_neg (by simp)]
 refine wpAny_pure ?_
 dsimp only
 rw[if_neg (show ¬ ((i:Int)<0) from by lia),Int.toNat_natCast,Array.getElem?_eq_none hge]
 refine wpAny_bind ?_
 first|refine wpAny_bind (wpAny_typeNameOfWhole_keyiter hit.typeIs (wpAny_pure ?_))|refine wpAny_bind (wpAny_typeNameOf_keyiter hit.typeIs (wpAny_pure ?_))
 show wpAny _ _ (setField (.ref it) 0 .none>>=_) _ _ s
 refine wpAny_bind (wpAny_setField ho hd (by simp) ?_)
 refine wpAny_bind ?_
 refine wpAny_bind (wpAny_newObj_type ?_ (by size_fits))
 refine wpAny_bind (m:=firstArgMember _ _) (wpAny_of_eq (a:=Value.none) (by first|rfl|(simp only[firstArgMember];rfl)) ?_)
 refine wpAny_newObj_type ?_ (by size_fits)
 refine wpAny_raiseNew_none hh ?_
 refine wpAny_bind (wpAny_isInstance (T:="StopIteration") (b:=true) (iEA _ (Heap.get?_push_size _ rfl) rfl) isSubtype_stop ?_)
 exact wpAny_pure (hQ _ (((Heap.SameBut.update ..).extBut.push _).push _))
theorem walk_entries(hh:A.handled=none)(I d:Addr)(hne:d≠I)(es:Array DictEntry)(ep:Nat) :
  Walks prog w A I [I,d] [I] es.size (fun i v=>(es[i]?).map (·.key)=some v) (fun i h=>h.IsKeyIter I d i es.size ep∧EAt h d es ep) where
 sub:=fun b hb=>by simp at hb;simp[hb]
 frame:=fun V V V st hk=>⟨st.1.at fun o e=>hk I (by simp) o e,st.2.at' fun o e=>hk d (by simp) o e⟩
 item:=fun i s Q E hi st hQ=>by
  refine next_entry st.1 st.2 hi fun h' hit' hs'=>?_
  exact hQ _ h' s.toks (by simp[hi]) ⟨hit',st.2.at' fun o e=>(hs'.2 d hne).trans e⟩ fun b o hb e=>hs'.extBut b o (fun h=>hb (by simp[h])) e
 done:=fun s Q E st hQ=>next_entry_end hh st.1 st.2 (Nat.le_refl _) fun h' he'=>hQ h' s.toks fun b o hb e=>he' b o (fun h=>hb (by simp[h])) e
 self:=fun V V V V st hQ=>wpAny_pyIter_keyiter st.1 hQ
theorem src_entries{d:Addr}{es:Array DictEntry}{ep:Nat}(lo:(d == sysModules)=false):KdlSrc prog w "dict" d d es.size (fun i v=>(es[i]?).map (·.key)=some v) (fun h=>EAt h d es ep) where
 type:=fun V hm=>hm.typeIs
 there:=fun V hm=>⟨hm.lt,hm.lt⟩
 keep:=fun V V hm hk=>hm.at' fun o e=>hk d (.inl rfl) o e
 notList:=by decide
 notTuple:=by decide
 hint:=fun V V V V hm hq=>kdl_hint_dict hm.typeIs hq
 iter:=fun V V hh hm=>(iEEAA _ _ (fun V V hq=>pyIter_entries lo hm hq) (walk_entries hh _ d (Nat.ne_of_lt hm.lt) es ep) ⟨(iEAA _ (Heap.get?_push_size _ rfl) rfl rfl),hm.at' fun o e=>Heap.get?_push_of_some _ e⟩)
end
section
variable{G:GC}{ℓ:Nat}{own:Own}{K:AV→Own→Prop}
noncomputable def ColT(G:GC)(ℓ:Nat)(own:Own)(av:AV)(K:List AV→Own→Prop):Prop:=
 ∀(A:Around)(s:Shared)(v:Value)(Q:List Value→Shared→Prop)(E:Value→Shared→Prop),AOk A ℓ→Ok G own s.heap→VRep (fz own) s.heap v av→
  (∀ vs avs own' s',K avs own'→Step noX own own' s s'→Ok G own' s'.heap→VReps (fz own') s'.heap vs avs→Q vs s')→wpAny (model G.prog G.w) A (collect v) Q E s
theorem ColT.list{a:Addr}{L:List AV}{K:List AV→Own→Prop}(ha:own a=some (.list L))(hsz:L.length≤1000000)(h:K L own):ColT G ℓ own (.ref a) K:=fun A s v Q E hA O r hQ=>by
 obtain rfl:=r.i_ref
 obtain⟨⟨items,n,e,r⟩,_⟩:=O.own a _ ha
 have hl:=r.length
 rw[Array.length_toList] at hl
 have hszl:=sizeLine_eq
 have ei:items=items.toList.toArray:=by simp
 have hL2:s.heap.IsList a items.toList.toArray:=ei▸((iEAAE _ e rfl n rfl):s.heap.IsList a items)
 refine collect_list (vs:=items.toList) hL2 ?_ (by rw[Array.length_toList];lia)
 have hk:∀ b o,s.heap.get? b=some o→((s.heap.push (seqObj "list" #[] 0)).update s.heap.objs.size (Obj.mapSeq (·++items.toList.toArray))).get? b=some o:=fun b o eb=>
  (Heap.get?_update_other _ _ (Nat.ne_of_gt (Heap.lt_size eb))).trans (push_ext _ _ eb)
 have S1:Step noX own own s {s with heap:=(s.heap.push (seqObj "list" #[] 0)).update s.heap.objs.size (Obj.mapSeq (·++items.toList.toArray))}:=⟨(iEE _ s.toks rfl),fun b o e p V=>⟨hk b o e,p⟩⟩
 exact hQ _ _ own _ h S1 (O.ext hk) (r.mono S1.mono)
theorem ColT.dT{a:Addr}{es:List (AV × AV)}{K:List AV→Own→Prop}(ha:own a=some (.dT es))(hsz:es.length≤1000000)(h:K (es.map (·.1)) own):ColT G ℓ own (.ref a) K:=fun A s v Q E hA O r hQ=>by
 obtain rfl:=r.i_ref
 obtain⟨⟨lo,xs,⟨o,ents,ep,ho,hc,hd,he,_⟩,hk,_,hr⟩,_⟩:=O.own a _ ha
 have hl:ents.size=es.length:=by
  have h1:ents.toList.length=xs.length:=by rw[he];simp
  have h2:=congrArg List.length hk
  simp at h1 h2;lia
 have hszl:=sizeLine_eq
 refine kdu_collect (A:=A) (src_entries (es:=ents) (ep:=ep) lo) hA.handled (iEAA o ho hc hd) (by lia) fun h' tk acc hkp hacc=>?_
 have ea:acc.toList=xs.map fun x=>Value.ref x.2.1:=by
  apply List.ext_getElem?
  intro i
  by_cases hi:i<acc.size
  ·have h1:Option.map (fun x=>x.key) ents[i]?=some acc[i]:=hacc.2 i acc[i] (by simp[hi])
   rw[← Array.getElem?_toList,he,List.getElem?_map,Option.map_map] at h1
   rw[Array.getElem?_toList,Array.getElem?_eq_getElem hi,List.getElem?_map,← h1]
   rfl
  ·have h2:acc.size=xs.length:=by
    rw[hacc.1]
    have h1:ents.toList.length=xs.length:=by rw[he];simp
    simpa using h1
   rw[Array.getElem?_toList,Array.getElem?_eq_none (by lia),List.getElem?_eq_none (by simp;lia)]
 have S1:Step noX own own s {s with heap:=h',toks:=tk}:=⟨(iEE _ _ rfl),fun b o e p V=>⟨hkp b o e,p⟩⟩
 rw[ea]
 exact hQ _ _ own _ h S1 (O.ext hkp) (hr.mono S1.mono)
theorem Cal.sorted{av:AV}(hl:ℓ≤900)(h:ColT G (ℓ+1) own av fun L o1=>L.length<64∧SortOk L∧∀ D L',o1 D=Option.none→L'.Perm L→K (.ref D) (upd o1 D (.list L'))):Cal G ℓ own (.bi "sorted") [av] K:=fun A s fv vs Q E hA O rf R hQ=>by
 obtain rfl:=rf.i_bi
 refine uEA R.one ?_;rintro va rfl ra
 refine Calls.call_function_entry kind_sorted plain_sorted entry_sorted (args_sorted1 _) ?_
 unfold Builtin.«sorted»
 refine wpAny_bind (m:=checkCount "sorted" 1 1 _) (wpAny_pure ?_)
 refine wpAny_bind (h A.in1 s va _ _ hA.in1 O ra fun vs L o1 s1 k1 S1 O1 r1=>?_)
 refine uAA k1 ?_;clear k1;rintro h64 hk k1
 have hszl:=sizeLine_eq
 refine wpAny_bind (wpAny_newList ?_ (by rw[r1.length];lia))
 refine uAA (list_new O1 r1) fun hD S2 O2=>?_
 refine wpAny_bind (wpAny_holding (wpAny_call_entry slot_list_sort (iEA _ (Heap.get?_push_size _ rfl) rfl) entry_list_sort ?_ (args_list_sort _)))
 refine list_sort_run (s:={s1 with heap:=s1.heap.push {cls:=.type "list",data:=.seq vs.toArray}}) (by have:=(hA.in1.in1).room (by lia);lia) O2 (upd_self ..) h64 hk fun L' s' hp S' O'=>(iEA _ rfl (wpAny_pure (iEA _ rfl ?_)))
 rw[upd_upd] at S' O'
 exact hQ _ _ _ s' (k1 _ L' hD hp) ((S1.trans S2).trans S') O' (.ref _)
noncomputable def KCal(G:GC)(ℓ:Nat)(own:Own)(f:AV)(args:List AV)(k:Str)(kv:AV)(K:AV→Own→Prop):Prop:=
 ∀(A:Around)(s:Shared)(fv:Value)(vs:List Value)(kvv:Value)(Q E:Value→Shared→Prop),AOk A ℓ→Ok G own s.heap→VRep (fz own) s.heap fv f→VReps (fz own) s.heap vs args→VRep (fz own) s.heap kvv kv→
  (∀ v av own' s',K av own'→Step noX own own' s s'→Ok G own' s'.heap→VRep (fz own') s'.heap v av→Q v s')→
  wpAny (model G.prog G.w) A (call fv vs [(k,kvv)]) Q E s
theorem KCal.sorted{av:AV}{fa:Addr}{kf:AV→AV}(hl:ℓ≤800)(h:ColT G (ℓ+1) own av fun L o1=>L.length<64∧SortOk (L.map kf)∧(∀ own' x,x∈L→Cal G (ℓ+2) own' (.ref fa) [x] fun k o1=>k=kf x∧o1=own')∧∀ D L',o1 D=Option.none→L'.Perm L→K (.ref D) (upd o1 D (.list L'))) :
  KCal G ℓ own (.bi "sorted") [av] "key" (.ref fa) K:=fun A s fv vs kvv Q E hA O rf R rk hQ=>by
 obtain rfl:=rf.i_bi;obtain rfl:=rk.i_ref
 refine uEA R.one ?_;rintro va rfl ra
 refine call_function_entry_kw kind_sorted plain_sorted entry_sorted (ksk_s1 _ _) ?_
 unfold Builtin.«sorted»
 refine wpAny_bind (m:=checkCount "sorted" 1 1 _) (wpAny_pure ?_)
 refine wpAny_bind (h A.in1 s va _ _ hA.in1 O ra fun vs L o1 s1 k1 S1 O1 r1=>?_)
 refine uAAA k1 ?_;clear k1;rintro h64 hk hf k1
 have hszl:=sizeLine_eq
 refine wpAny_bind (wpAny_newList ?_ (by rw[r1.length];lia))
 refine uAA (list_new O1 r1) fun hD S2 O2=>?_
 refine wpAny_bind (wpAny_holding (wpAny_call_entry_kw slot_list_sort (iEA _ (Heap.get?_push_size _ rfl) rfl) entry_list_sort ?_ (ksk_l1 _ _)))
 refine list_sort_key (s:={s1 with heap:=s1.heap.push {cls:=.type "list",data:=.seq vs.toArray}}) (ℓ:=ℓ+2) hA.in1.in1 (by lia) O2 (upd_self ..) h64 hk hf fun L' s' hp S' O'=>(iEA _ rfl (wpAny_pure (iEA _ rfl ?_)))
 rw[upd_upd] at S' O'
 exact hQ _ _ _ s' (k1 _ L' hD hp) ((S1.trans S2).trans S') O' (.ref _)
end
noncomputable def walkOk(place:Array Nat):Bool:=(List.range (place.size+1)).all fun k=>SetTable.below place (if k=0 then 0 else place.getD (k-1) 0+1) == k
noncomputable def addOk(place:Array Nat)(led:Bool)(h:Nat):Bool:=((stb led true place).freeSlot (h:Int)).any fun q=>!q.2&&(gp (SetTable.insertAt place (SetTable.below place q.1) q.1)&&decide (SetTable.below place q.1≤place.size))
theorem small_cases{P:Array Nat→Prop}(h0:P #[])(h1:∀ a:Fin 8,P #[a.val])(h2:∀ a b:Fin 8,gp #[a.val,b.val]=true→P #[a.val,b.val])(h3:∀ a b c:Fin 8,gp #[a.val,b.val,c.val]=true→P #[a.val,b.val,c.val]):∀ place,gp place=true→P place:=by
 intro place hg
 have hg':=hg
 unfold gp at hg'
 rw[Bool.and_eq_true,Bool.and_eq_true,decide_eq_true_iff] at hg'
 obtain⟨⟨hsz,_⟩,hall⟩:=hg'
 have hlt:∀ x∈place.toList,x≤7:=by
  rw[← Array.all_toList,List.all_eq_true] at hall
  exact fun x hx=>of_decide_eq_true (hall x hx)
 obtain⟨l⟩:=place
 match l,hsz,hlt,hg with
 |[],_,_,_=>exact h0
 |[a],_,hl,_=>exact h1 ⟨a,Nat.lt_succ_of_le (hl a (by simp))⟩
 |[a,b],_,hl,hg=>exact h2 ⟨a,Nat.lt_succ_of_le (hl a (by simp))⟩ ⟨b,Nat.lt_succ_of_le (hl b (by simp))⟩ hg
 |[a,b,c],_,hl,hg=>exact h3 ⟨a,Nat.lt_succ_of_le (hl a (by simp))⟩ ⟨b,Nat.lt_succ_of_le (hl b (by simp))⟩ ⟨c,Nat.lt_succ_of_le (hl c (by simp))⟩ hg
 |a::b::c::d::r,hs,_,_=>simp at hs
theorem walk_ok:∀ place,gp place=true→walkOk place=true:=
 small_cases (by decide +kernel) (by decide +kernel) (by decide +kernel) (by decide +kernel)
theorem add_ok(led:Bool):∀ place,gp place=true→place.size≤2→∀ h:Fin 16,addOk place led h.val=true:=by
 cases led
 ·refine small_cases (by decide +kernel) (by decide +kernel) ?_ (fun a b c V hs=>absurd hs (by simp))
  have:∀ a b:Fin 8,gp #[a.val,b.val]=true→∀ h:Fin 16,addOk #[a.val,b.val] false h.val=true:=by decide +kernel
  exact fun a b hg V=>this a b hg
 ·refine small_cases (by decide +kernel) (by decide +kernel) ?_ (fun a b c V hs=>absurd hs (by simp))
  have:∀ a b:Fin 8,gp #[a.val,b.val]=true→∀ h:Fin 16,addOk #[a.val,b.val] true h.val=true:=by decide +kernel
  exact fun a b hg V=>this a b hg
theorem insertAt_perm{α:Type}(xs:Array α)(p:Nat)(x:α)(hp:p≤xs.size):(SetTable.insertAt xs p x).toList.Perm (xs.toList++[x]):=by
 unfold SetTable.insertAt
 rw[Array.toList_append,Array.toList_push,Array.toList_extract,Array.toList_extract]
 simp only[List.extract,List.drop_zero,Nat.sub_zero]
 have h1:List.take (xs.size-p) (List.drop p xs.toList)=List.drop p xs.toList:=List.take_of_length_le (by simp)
 rw[h1]
 have h2:(List.take p xs.toList++[x]++List.drop p xs.toList).Perm (List.take p xs.toList++(List.drop p xs.toList++[x])):=by
  rw[List.append_assoc]
  exact List.Perm.append_left _ List.perm_append_comm
 refine h2.trans ?_
 rw[← List.append_assoc,List.take_append_drop]
theorem insertAt_size{α:Type}(xs:Array α)(p:Nat)(x:α)(hp:p≤xs.size):(SetTable.insertAt xs p x).size=xs.size+1:=by
 have:=(insertAt_perm xs p x hp).length_eq
 simpa using this
theorem lay_small{es:Array (Int × Value)}{place:Array Nat}{led:Bool}{h:Int}{x:Value}(hg:gp place=true)(hs:place.size=es.size)(h2:place.size≤2)(hh:0≤h∧h<16) :
  ∃ es' place',layNew (stb led true place) es h x=(es',stb led true place',false,false)∧gp place'=true∧place'.size=es'.size∧es'.size=es.size+1∧es'.toList.Perm (es.toList++[(h,x)]):=by
 have ha:=add_ok led place hg h2 ⟨h.toNat,(Int.toNat_lt hh.1).mpr hh.2⟩
 unfold addOk at ha
 have eh:((h.toNat:Nat):Int)=h:=Int.toNat_of_nonneg hh.1
 rw[eh] at ha
 cases hf:(stb led true place).freeSlot h with
 |none=>rw[hf] at ha;cases ha
 |some q=>
  obtain⟨j,wd⟩:=q
  rw[hf] at ha
  cases wd with
  |true=>exact absurd ha Bool.false_ne_true
  |false=>
   obtain⟨ha1,ha2⟩:=Bool.and_eq_true_iff.mp (show(gp (SetTable.insertAt place (SetTable.below place j) j)&&decide (SetTable.below place j≤place.size))=true from ha)
   replace ha2:=of_decide_eq_true ha2
   have hp:SetTable.below place j≤es.size:=by rw[← hs];exact ha2
   refine(iEEAAAA (SetTable.insertAt es (SetTable.below place j) (h,x)) (SetTable.insertAt place (SetTable.below place j) j) ?_ ha1 ?_ (insertAt_size _ _ _ hp) (insertAt_perm _ _ _ hp))
   ·unfold layNew
    rw[hf]
    have hput:(stb led true place).put j=(stb led true (SetTable.insertAt place (SetTable.below place j) j),SetTable.below place j):=by
     rfl
    simp only[hput]
    have hfit:(stb led true (SetTable.insertAt place (SetTable.below place j) j)).fits (SetTable.insertAt es (SetTable.below place j) (h,x)).size=true:=by
     rw[insertAt_size _ _ _ hp]
     show((SetTable.insertAt place (SetTable.below place j) j).size == es.size+1&&decide ((SetTable.insertAt place (SetTable.below place j) j).size+0≤7))=true
     rw[insertAt_size _ _ _ ha2,hs]
     simp
     lia
    unfold SetTable.orStandIn
    rw[hfit]
    rfl
   ·rw[insertAt_size _ _ _ hp,insertAt_size _ _ _ ha2,hs]
section
variable{G:GC}{ℓ:Nat}{own:Own}{A:Around}{E:Value→Shared→Prop}{s:Shared}
noncomputable abbrev bt(G:GC):Bool:=G.w.params.followText "set-order"
noncomputable abbrev setO(G:GC)(es:Array (Int × Value))(ep:Nat)(p:Bool)(place:Array Nat):Obj:={cls:=.type "set",dict:=none,data:=.set es ep (stb (bt G) p place),slots:=#[]}
theorem stb_fits{led p:Bool}{place:Array Nat}{n:Nat}(hg:gp place=true)(hs:place.size=n):(stb led p place).fits n=true:=by
 unfold gp at hg
 show(place.size == n&&decide (place.size+0≤7))=true
 rw[hs];simp;lia
theorem size_of_reps{es:Array (Int × Value)}{L:List AV}{h:Heap}(r:VReps (fz own) h (es.toList.map (·.2)) L):es.size=L.length:=by
 have:=r.length
 simpa using this
theorem chg_at{a:Addr}{x y:AObj}{o:Obj}{f:Obj→Obj}{o':Obj}(O:Ok G own s.heap)(ha:own a=some x)(e:s.heap.get? a=some o)(hf:(s.heap.update a f).get? a=some o')(hy:ORep G (upd own a y) (s.heap.update a f) a y) :
  Step noX own (upd own a y) s {s with heap:=s.heap.update a f}∧Ok G (upd own a y) (s.heap.update a f):=
 ⟨Step.chg (tk:=s.toks) ha (Heap.SameBut.update ..),O.chg ha (Heap.SameBut.update ..) hy ⟨_,hf⟩⟩
theorem hash_small{i:Int}(hi:0≤i∧i<16):hashInt i=i:=by
 have:∀ n:Fin 16,hashInt (n.val:Int)=(n.val:Int):=by decide +kernel
 have h:=this ⟨i.toNat,by lia⟩
 have e:((i.toNat:Nat):Int)=i:=Int.toNat_of_nonneg hi.1
 simp only at h
 rwa[e] at h
theorem setAdd_int{S:Addr}{L:List AV}{i:Int}{u:Tok}{Q:Bool→Shared→Prop}(O:Ok G own s.heap)(hS:own S=some (.sset true L))(h2:L.length≤2)(hi:0≤i∧i<16)
  (hQ:∀ b L' s',(L'=L∨L'.Perm (L++[.int i]))→Step noX own (upd own S (.sset true L')) s s'→Ok G (upd own S (.sset true L')) s'.heap→Q b s'):wpAny (model G.prog G.w) A (setAdd S (.int i u)) Q E s:=by
 obtain⟨⟨es,ep,place,e,hg,hs,hel,_,r⟩,_⟩:=O.own S _ hS
 have hel:=hel rfl
 have hsz:=size_of_reps r
 have hf:=stb_fits (led:=bt G) (p:=true) hg hs
 refine wpAny_holding ?_
 refine wpAny_bind ((intKind G.prog G.w).pyHash (k:=i) (by simp[PySem.intKind,Value.isInt]) ?_)
 have same:Q false {s with toks:=s.toks+1}:=by
  have h1:=hQ false L {s with toks:=s.toks+1} (.inl rfl)
  rw[upd_same hS] at h1
  exact h1 (Step.toks s _) O
 refine wpAny_holding (wpAny_bind (wpAny_setState_of (s:={s with toks:=s.toks+1}) e rfl hf ?_))
 dsimp only
 rw[byScan_of rfl (by unfold scanBound;lia) hel]
 refine wpAny_bind ?_
 refine wpAny_bind (wpAny_rule ?_)
 refine wpAny_bind (wpAny_setScan_of (knd:=intKind G.prog G.w) (by simp[PySem.intKind,Value.isInt]) e rfl hf hel ?_)
 cases hr:List.findIdx? (fun x=>(intKind G.prog G.w).is i x.2) es.toList with
 |some j=>
  exact wpAny_pure (wpAny_pure same)
 |none=>
  have hh:(intKind G.prog G.w).hash i=i:=hash_small hi
  rw[hh]
  refine uEEAAAA (lay_small (led:=bt G) (h:=i) (x:=.int i u) hg hs (by lia) hi) fun es' place' hlay hg' hs' hsz' hperm=>?_
  rw[hlay]
  dsimp only
  refine wpAny_bind (wpAny_pure ?_)
  refine wpAny_bind ?_
  refine wpAny_pure ?_
  rw[if_pos (by rfl)]
  have ho1:(s.heap.update S (Obj.putSet es' (stb (bt G) true place'))).get? S=some (setO G es' (ep+1) true place'):=by
   have:=Heap.get?_update_self (Obj.putSet es' (stb (bt G) true place')) e (by rw[putSet_of (ep:=ep) (es:=es) (t:=stb (bt G) true place) _ _ rfl];rfl)
   rw[putSet_of (ep:=ep) (es:=es) (t:=stb (bt G) true place) _ _ rfl] at this;exact this
  have hnf:(!false&&(stb (bt G) true place').tooFull)=false:=by
   have:(stb (bt G) true place').tooFull=false:=by
    show decide ((place'.size+0)*5 ≥ 7*3)=false
    exact decide_eq_false (by lia)
   rw[this];rfl
  have hel':ElemsOf (intKind G.prog G.w) es'.toList:=by
   have hp2:es'.toList.Perm (es.toList++[((intKind G.prog G.w).hash i,.int i u)]):=by rw[hh];exact hperm
   exact(hel.push (k:=i) (by simp[PySem.intKind,Value.isInt]) rfl).perm hp2
  refine uEA (VReps.perm (hperm.map (·.2)) (l:=L++[.int i]) (by rw[List.map_append];exact r.append (.cons (.int i u) .nil))) fun L' hL1 hL2=>?_
  have T2:TK (fz own) (fz (upd own S (.sset true L'))) s.heap (s.heap.update S (Obj.putSet es' (stb (bt G) true place'))):=TK.chg hS (Heap.SameBut.update ..)
  obtain⟨S1,O1⟩:=chg_at (s:={s with toks:=s.toks+1}) (y:=.sset true L') (O:=O) hS e ho1 (iEEEAAAAA es' (ep+1) place' ho1 hg' hs' (fun V=>hel') (fun h=>absurd h (by decide)) (hL1.mono T2))
  refine wpAny_bind (wpAny_storeSet_of (s:={s with toks:=s.toks+1}) e rfl ?_ (by have:=sizeLine_eq;lia))
  rw[hnf,if_neg Bool.false_ne_true]
  refine wpAny_pure ?_
  exact wpAny_pure (hQ true L' _ (.inr hL2) ((Step.toks s (s.toks+1)).trans S1) O1)
end
section
variable{G:GC}{ℓ:Nat}{own:Own}{A:Around}{E:Value→Shared→Prop}{s:Shared}
theorem hashByValue_tup{a:Addr}{items:Array Value}{n:Nat}{x:Str}{t:Tok}{rest:List Value}{Q:Bool→Shared→Prop}(e:s.heap.get? a=some (tupO items n))(hi:items.toList=.str x t::rest)(h:Q false s):wpAny (model G.prog G.w) A (hashByValue 8 (.ref a)) Q E s:=by
 have hT:s.TypeIs (.ref a) "tuple":=(iEA _ e rfl)
 refine wpAny_bind (wpAny_specialOf hT F.slot_tuple_hash.lookup ?_)
 refine wpAny_bind (wpAny_seqItems e rfl ?_)
 show wpAny _ _ (forIn items _ _>>=_) _ _ s
 rw[← Array.forIn_toList,hi,List.forIn_cons]
 refine wpAny_bind (wpAny_bind (wpAny_bind ?_))
 refine wpAny_pure ?_
 exact wpAny_pure (wpAny_pure (wpAny_pure h))
theorem probe_empty(b:Bool)(f:Nat→Int)(h:Int):(stb b true #[]).probe f h ((stb b true #[]).probeStart h)=some (.empty ((stb b true #[]).probeStart h).j Option.none):=rfl
theorem start_lt(b:Bool)(h:Int):((stb b true #[]).probeStart h).j≤7:=by
 exact Nat.le_of_lt_succ (Nat.mod_lt (SetTable.bits h) (by decide:0<7+1))
theorem search_empty{S:Addr}{x:Value}{h:Int}{ep:Nat}{n:Nat}{Q:SetFound→Shared→Prop}(e:s.heap.get? S=some (setO G #[] ep true #[]))(hQ:∀ j,j≤7→Q (.free j false) s):wpAny (model G.prog G.w) A (setSearchFrom S x h true (n+1) Option.none) Q E s:=by
 refine wpAny_bind (wpAny_setState_of e rfl (stb_fits (by decide +kernel) rfl) ?_)
 dsimp only
 have hg:(stb (bt G) true #[]).gaveWay=false:=by unfold SetTable.gaveWay;show((7:Nat) % 2 == 0)=false;decide
 rw[hg]
 exact wpAny_pure (hQ _ (start_lt _ _))
theorem gp_one{j:Nat}(h:j≤7):gp #[j]=true:=by
 have:∀ a:Fin 8,gp #[a.val]=true:=by decide +kernel
 exact this ⟨j,Nat.lt_succ_of_le h⟩
theorem setAdd_tup{S a:Addr}{x:Str}{k:List AV}{Q:Bool→Shared→Prop}(hu:A.units+20<cLine)(O:Ok G own s.heap)(hS:own S=some (.sset true []))(hk:tkOk (.tup (.str x::k)))(ra:VRep (fz own) s.heap (.ref a) (.tup (.str x::k)))
  (hQ:∀ b s',Step noX own (upd own S (.sset false [.tup (.str x::k)])) s s'→Ok G (upd own S (.sset false [.tup (.str x::k)])) s'.heap→Q b s'):wpAny (model G.prog G.w) A (setAdd S (.ref a)) Q E s:=by
 obtain⟨⟨es,ep,place,e,hg,hs,hel,_,r⟩,_⟩:=O.own S _ hS
 have hsz:=size_of_reps r
 have hes:es=#[]:=Array.eq_empty_of_size_eq_zero hsz
 subst hes
 have hpl:place=#[]:=Array.eq_empty_of_size_eq_zero (by rw[hs];rfl)
 subst hpl
 have hf:=stb_fits (led:=bt G) (p:=true) hg hs
 refine wpAny_holding ?_
 refine wpAny_bind (pyHash_av (P:=fz own) _ hk.1 (by have:=hk.2;lia) ra ?_)
 generalize hhash:(AV.tup (.str x::k)).hash G.w=hv
 let s1:Shared:={s with toks:=s.toks+(AV.tup (.str x::k)).draws}
 refine wpAny_holding (wpAny_bind (wpAny_setState_of (s:=s1) e rfl hf ?_))
 dsimp only
 have hsc:byScan (.ref a) (#[]:Array (Int × Value))=false:=rfl
 refine wpAny_bind ?_
 refine search_empty (s:=s1) e fun j hj=>?_
 refine wpAny_bind (wpAny_setState_of (s:=s1) e rfl hf ?_)
 cases ra with
 |@tup _ items n _ pa ea ria=>
 have ria':=ria
 generalize hil:items.toList=il at ria
 cases ria with
 |cons r0 rs0=>
 obtain⟨_,rfl⟩:=r0.i_str
 refine wpAny_bind (hashByValue_tup (s:=s1) ea hil ?_)
 have hput:(stb (bt G) true #[]).put j=(stb (bt G) true #[j],0):=rfl
 have hpl:({stb (bt G) true #[j] with plain:=false}:SetTable)=stb (bt G) false #[j]:=rfl
 have hins:SetTable.insertAt (#[]:Array (Int × Value)) 0 (hv,Value.ref a)=#[(hv,Value.ref a)]:=rfl
 have ho1:(s.heap.update S (Obj.putSet #[(hv,Value.ref a)] (stb (bt G) false #[j]))).get? S=some (setO G #[(hv,Value.ref a)] (ep+1) false #[j]):=by
  have:=Heap.get?_update_self (Obj.putSet #[(hv,Value.ref a)] (stb (bt G) false #[j])) e (by rw[putSet_of (ep:=ep) (es:=#[]) (t:=stb (bt G) true #[]) _ _ rfl];rfl)
  rw[putSet_of (ep:=ep) (es:=#[]) (t:=stb (bt G) true #[]) _ _ rfl] at this;exact this
 have T2:TK (fz own) (fz (upd own S (.sset false [.tup (.str x::k)]))) s.heap (s.heap.update S (Obj.putSet #[(hv,Value.ref a)] (stb (bt G) false #[j]))):=TK.chg hS (Heap.SameBut.update ..)
 have rr:VReps (fz own) s.heap [.ref a] [.tup (.str x::k)]:=.cons (.tup pa ea ria') .nil
 obtain⟨S1,O1⟩:=chg_at (s:=s1) (y:=.sset false [.tup (.str x::k)]) (O:=O) hS e ho1 (iEEEAAAAA (#[(hv,Value.ref a)]) (ep+1) (#[j]) ho1 (gp_one hj) rfl (fun h=>absurd h (by decide)) (fun V=>Nat.le_refl 1) (rr.mono T2))
 refine wpAny_bind (wpAny_storeSet_of (s:=s1) e rfl ?_ (by have:=sizeLine_eq;show 1≤sizeLine;lia))
 exact wpAny_pure (hQ true _ ((Step.toks s _).trans S1) O1)
end
section
variable{G:GC}{ℓ:Nat}{own:Own}{A:Around}{E:Value→Shared→Prop}{s:Shared}
theorem new_led(a:Value){Q₁:Value→Shared→Prop}
  (h:Q₁ (.ref s.heap.objs.size) {s with heap:=s.heap.push {cls:=.type "set",dict:=none,data:=.set #[] 0 (.fresh 0 0 !(bt G))}}) :
  codeAny (model G.prog G.w) A (.call (.builtin "set.__new__") ⟨[.type "set",a],[]⟩) (wants Q₁ E) s:=by
 refine codeAny_of_tree ?_
 refine wpAny_bind (wpAny_of_eq (PySem.F.newCall_set_1 a) (wpAny_pure ⟨plainId_quiet PySem.F.plain_set_new _,codeAny_builtin PySem.F.entry_set_new ?_⟩))
 unfold Builtin.«set.__new__» Builtin.Frozenset.newClass
 have hsub:=sub_set_self
 obtain⟨hp,g,d,tk,os⟩:=s
 wp_walk
 refine wpAny_askSetting (wpAny_pure ?_)
 refine wpAny_bind (wpAny_alloc (wpAny_pure ?_))
 exact wpAny_pure h
noncomputable def SA(G:GC)(ℓ:Nat)(S:Addr)(d:AV)(p:Bool)(Ls:List AV)(K:Bool→List AV→Prop):Prop:=
 ∀(A:Around)(own:Own)(s:Shared)(v:Value)(Q:Bool→Shared→Prop)(E:Value→Shared→Prop),AOk A ℓ→Ok G own s.heap→VRep (fz own) s.heap v d→own S=some (.sset p Ls)→
  (∀ b p' Ls' s',K p' Ls'→Step noX own (upd own S (.sset p' Ls')) s s'→Ok G (upd own S (.sset p' Ls')) s'.heap→Q b s')→wpAny (model G.prog G.w) A (setAdd S v) Q E s
theorem upd_loop{S I l:Addr}{L:List AV}{J:Nat→Bool→List AV→Prop}{R:Result→Shared→Prop}(hA:AOk A ℓ)(hSA:∀ i d p Ls,L[i]?=some d→J i p Ls→SA G (ℓ+1) S d p Ls (J (i+1))) :
  ∀(r i:Nat)(own:Own)(s:Shared)(p:Bool)(Ls:List AV),L.length-i=r→i≤L.length→J i p Ls→Ok G own s.heap→own S=some (.sset p Ls)→own l=some (.list L)→own I=Option.none→G.base.get? I=Option.none→s.heap.IsListIter I l i→
  (∀ p' Ls' s',J L.length p' Ls'→Step (·∈[I]) own (upd own S (.sset p' Ls')) s s'→Ok G (upd own S (.sset p' Ls')) s'.heap→R (.ok (.ret .none)) s')→
  codeAny (model G.prog G.w) A (.builtin "set.update.loop" ⟨[.ref S,.ref I],[]⟩) R s:=by
 intro r
 induction r with
 |zero=>
  intro i own s p Ls hr hi hJ O hS hl hI hb hit hR
  have hin:i=L.length:=sb0 hr hi
  subst hin
  obtain⟨⟨items,n,e,rl⟩,_⟩:=O.own l _ hl
  have hlen:=rl.length
  rw[Array.length_toList] at hlen
  have nt:∀ j k,s.heap.get? I≠some (tupO j k):=fun j k q=>by refine uEAA hit ?_;clear hit;rintro o ho hc _;rw[q] at ho;cases ho;simp at hc
  refine codeAny_builtin PyProof.Rows.F.entry_set_update_loop ?_
  rw[Around.under_plainId PyProof.Rows.F.plain_set_update_loop _]
  refine wpAny_bind (wpAny_pyNext_list_end hA.in1.handled hit (iEAAE _ e rfl n rfl) (by simp[hlen]) fun h' he=>?_)
  refine wpAny_pure ?_
  have:=hR p Ls {s with heap:=h'} hJ
  rw[upd_same hS] at this
  exact this (Step.xbut (tk:=s.toks) he) (O.xfrm hI hb nt he)
 |succ r ih=>
  intro i own s p Ls hr hi hJ O hS hl hI hb hit hR
  have hlt:i<L.length:=sbL hr
  obtain⟨⟨items,n,e,rl⟩,_⟩:=O.own l _ hl
  refine uEA (rl.get (List.getElem?_eq_getElem hlt)) fun v hv rv=>?_
  have nt:∀ j k,s.heap.get? I≠some (tupO j k):=fun j k q=>by refine uEAA hit ?_;clear hit;rintro o ho hc _;rw[q] at ho;cases ho;simp at hc
  refine codeAny_builtin PyProof.Rows.F.entry_set_update_loop ?_
  refine wpAny_bind (wpAny_pyNext_list_item hit (iEAAE _ e rfl n rfl) (by simpa using hv) fun h' hit' hs'=>?_)
  have S1:Step (·∈[I]) own own s {s with heap:=h',toks:=s.toks}:=Step.but hs'
  have O1:=O.frm hI hb nt hs'
  have T1:TK (fz own) (fz own) s.heap h':=S1.monoY fun a ha=>by rw[List.mem_singleton.mp ha];exact nt
  refine wpAny_bind (wpAny_holding ?_)
  refine hSA i _ p Ls (List.getElem?_eq_getElem hlt) hJ A.in1 own {s with heap:=h'} v _ _ hA.in1 O1 (rv.mono T1) hS fun b p' Ls' s2 hJ' S2 O2=>?_
  have hlS:l≠S:=by rintro rfl;rw[hS] at hl;cases hl
  have hIS:I≠S:=by rintro rfl;rw[hS] at hI;cases hI
  refine wpAny_pure ⟨plainId_quiet PyProof.Rows.F.plain_set_update_loop _,ih (i+1) _ s2 p' Ls' (sb1 hr) hlt hJ' O2 (upd_self ..) (by rw[upd_ne _ _ hlS];exact hl) (by rw[upd_ne _ _ hIS];exact hI) hb ?_ fun p3 Ls3 s3 hJ3 S3 O3=>?_⟩
  ·refine uEA hit' ?_;clear hit';rintro o ho r'
   exact(iEA o ((S2.keep _ _ ho hI id).1) r')
  ·rw[upd_upd] at S3 O3
   exact hR p3 Ls3 s3 hJ3 ((S1.trans S2.weak).trans S3) O3
set_option tactic.hygienic true in
set_option maxHeartbeats 3200000 in
theorem call_set{l:Addr}{L:List AV}{J:Nat→Bool→List AV→Prop}{Q:Value→Shared→Prop}(hA:AOk A ℓ)(O:Ok G own s.heap)(hl:own l=some (.list L))(h0:J 0 true [])(hSA:∀ S i d p Ls,L[i]?=some d→J i p Ls→SA G (ℓ+4) S d p Ls (J (i+1)))
  (h:∀ p Ls s',J L.length p Ls→own s.heap.objs.size=Option.none→Step noX own (upd own s.heap.objs.size (.sset p Ls)) s s'→Ok G (upd own s.heap.objs.size (.sset p Ls)) s'.heap→Q (.ref s.heap.objs.size) s') :
  wpAny (model G.prog G.w) A (call (.type "set") [.ref l]) Q E s:=by
 refine uEE PySem.F.called_set.mro fun c tl hmro=>?_
 have hmade:=PySem.F.called_set.made
 have hsub:=PySem.F.called_set.sub
 refine wpAny_call (codeAny_of_tree ?_)
 refine wpAny_pure ⟨Code.quiet_builtin _ (by decide +kernel),codeAny_builtin PySem.F.entry_type_call ?_⟩
 have h1:=PySem.F.called_set.notType
 have h2:=PySem.F.called_set.canCreate
 have hct:=PySem.F.typeCall_set_1 (.ref l)
 repeat (any_goals (first|assumption|wp_step))
 have hs0:=O.fresh (get_size s.heap)
 refine codeAny_mono (new_led (G:=G) (.ref l) (E:=E) (Q₁:=fun obj s₁=>obj=.ref s.heap.objs.size∧s₁={s with heap:=s.heap.push {cls:=.type "set",dict:=none,data:=.set #[] 0 (.fresh 0 0 !(bt G))}}) ⟨rfl,rfl⟩) fun r s₁ hr=>?_
 cases r with
 |error e=>exact hr
 |ok fl=>
  cases fl with
  |ret obj=>
   obtain⟨rfl,rfl⟩:=hr
   have hS:(s.heap.push {cls:=.type "set",dict:=none,data:=.set #[] 0 (.fresh 0 0 !(bt G))}).get? s.heap.objs.size=some {cls:=.type "set",dict:=none,data:=.set #[] 0 (.fresh 0 0 !(bt G))}:=Heap.get?_push_size _ rfl
   have hT:Shared.TypeIs {s with heap:=s.heap.push {cls:=.type "set",dict:=none,data:=.set #[] 0 (.fresh 0 0 !(bt G))}} (.ref s.heap.objs.size) "set":=(iEA _ hS rfl)
   have O1:Ok G (upd own s.heap.objs.size (.sset true [])) (s.heap.push {cls:=.type "set",dict:=none,data:=.set #[] 0 (.fresh 0 0 !(bt G))}):=
    O.new push_ext (get_size _) (iEEEAAAAA (#[]) 0 (#[]) hS (by decide +kernel) rfl (fun V e he=>by simp at he) (fun h=>absurd h (by decide)) .nil) ⟨_,hS⟩
   have S1:Step noX own (upd own s.heap.objs.size (.sset true [])) s {s with heap:=s.heap.push {cls:=.type "set",dict:=none,data:=.set #[] 0 (.fresh 0 0 !(bt G))},toks:=s.toks}:=Step.new O push_ext (get_size _)
   have hli:=PySem.F.called_set.init.lookup
   have hbi:=PySem.F.called_set.init.bind (.ref s.heap.objs.size)
   repeat (any_goals (first|assumption|wp_step))
   refine codeAny_mono (codeAny_call_builtin (R:=wants (fun r s₂=>r=.none∧∃ p Ls,J L.length p Ls∧Step noX own (upd own s.heap.objs.size (.sset p Ls)) s s₂∧Ok G (upd own s.heap.objs.size (.sset p Ls)) s₂.heap) E) PySem.F.called_set.init.plain PySem.F.entry_set_init (check_set_init_1 hT ?_)) fun r₂ s₂ hr₂=>?_
   ·have hlS:l≠s.heap.objs.size:=by rintro rfl;rw[hs0] at hl;cases hl
    have hl1:upd own s.heap.objs.size (.sset true []) l=some (.list L):=by rw[upd_ne _ _ hlS];exact hl
    obtain⟨⟨items,n,el,rl⟩,_⟩:=O1.own l _ hl1
    have hsls:=PySem.F.sub_list_set
    have hslf:=PySem.F.sub_list_frozenset
    have hne:(Value.type "list" == Value.type "dict")=false:=by decide
    have hL1:(s.heap.push {cls:=.type "set",dict:=none,data:=.set #[] 0 (.fresh 0 0 !(bt G))}).IsList l items:=(iEAAE _ el rfl n rfl)
    have el':(s.heap.push {cls:=.type "set",dict:=none,data:=.set #[] 0 (.fresh 0 0 !(bt G))}).get? l=some {cls:=.type "list",dict:=none,data:=.seq items n,slots:=#[]}:=el
    unfold Builtin.«set.__init__» noKeywords Builtin.Frozenset.updateFrom
    generalize hPI:pyIter=PI
    wp_walk
    subst hPI
    refine wpAny_pyIter_list hL1 ?_
    refine wpAny_bind (wpAny_runValue ?_)
    have hI0:upd own s.heap.objs.size (.sset true []) (s.heap.push {cls:=.type "set",dict:=none,data:=.set #[] 0 (.fresh 0 0 !(bt G))}).objs.size=Option.none:=O1.fresh (get_size _)
    have hIb:=O1.baseFresh (get_size _)
    have O2:Ok G (upd own s.heap.objs.size (.sset true [])) ((s.heap.push {cls:=.type "set",dict:=none,data:=.set #[] 0 (.fresh 0 0 !(bt G))}).push {cls:=.type "list_iterator",data:=.fields #[.ref l,.int 0 0]}):=O1.ext push_ext
    refine upd_loop (ℓ:=ℓ+3) (J:=J) ?hA3 (fun i d p Ls hd hJ=>hSA _ i d p Ls hd hJ) L.length 0 (upd own s.heap.objs.size (.sset true [])) _ true [] (Nat.sub_zero _) (Nat.zero_le _) h0 O2 (upd_self ..) hl1 hI0 hIb (iEAA _ (Heap.get?_push_size _ rfl) rfl rfl) fun p' Ls' s' hJ' S' O'=>?_
    case hA3=>first|exact hA.in1.in1.in1|exact hA.in1.in1.up (Nat.le_succ _)|exact hA.in1.up (Nat.le_add_right _ 2)
    rw[upd_upd] at S' O'
    refine wpAny_pure ?_
    refine wpAny_pure (iAEEAA rfl p' Ls' hJ' ?_ O')
    refine uEE S'.ex fun h3 t3 e3=>?_
    refine⟨(iEE h3 t3 (by rw[e3])),fun b o eb pb V=>?_⟩
    have hbI:b∉[(s.heap.push {cls:=.type "set",dict:=none,data:=.set #[] 0 (.fresh 0 0 !(bt G))}).objs.size]:=fun hb=>by
     rw[List.mem_singleton,Heap.size_push] at hb
     exact absurd (Heap.lt_size eb) (by rw[hb];exact Nat.not_lt.mpr (Nat.le_succ _))
    have hbS:b≠s.heap.objs.size:=fun q=>absurd (Heap.lt_size eb) (by rw[q];exact Nat.lt_irrefl _)
    exact S'.keep b o (push_ext _ _ (push_ext _ _ eb)) (by rw[upd_ne _ _ hbS];exact pb) hbI
   ·cases r₂ with
    |error e=>exact hr₂
    |ok fl₂=>
     cases fl₂ with
     |ret r=>
      refine uAEEAA hr₂ ?_;rintro rfl p Ls hJ S2 O2
      repeat (any_goals (first|assumption|wp_step))
      exact h p Ls _ hJ hs0 S2 O2
     |_=>exact hr₂.elim
  |_=>exact hr.elim
end
theorem slot_seti_next:Slot "set_iterator" "__next__" "set_iterator.__next__":=
 .of (owner:="set_iterator") (n:="__next__") (by rw[typeLookup_type,builtinLookup_eq_fast];kernel_rfl) (by decide +kernel) (by decide +kernel) (by decide +kernel)
  (by first|exact .inl (by decide +kernel)|exact .inr (by decide +kernel)) (by rw[isSubtype_type];kernel_rfl)
theorem slot_seti_iter:Slot "set_iterator" "__iter__" "set_iterator.__iter__":=
 .of (owner:="set_iterator") (n:="__iter__") (by rw[typeLookup_type,builtinLookup_eq_fast];kernel_rfl) (by decide +kernel) (by decide +kernel) (by decide +kernel)
  (by first|exact .inl (by decide +kernel)|exact .inr (by decide +kernel)) (by rw[isSubtype_type];kernel_rfl)
theorem entry_seti_next:entryFor table "set_iterator.__next__"=some Builtin.«set_iterator.__next__»:=entryFor_of_tree (by kernel_rfl)
theorem entry_seti_iter:entryFor table "set_iterator.__iter__"=some Builtin.«dict_keyiterator.__iter__»:=
 entryFor_alias (id':="dict_keyiterator.__iter__") (by kernel_rfl) (by first|rfl|decide +kernel|(unfold String.splitOn;simp +decide [String.splitOnAux])) (by decide +kernel) (by kernel_rfl)
theorem entry_set_iter:entryFor table "set.__iter__"=some Builtin.«frozenset.__iter__»:=
 entryFor_alias (id':="frozenset.__iter__") (by kernel_rfl) (by first|rfl|decide +kernel|(unfold String.splitOn;simp +decide [String.splitOnAux])) (by decide +kernel) (by kernel_rfl)
theorem args_seti_next(a:Value):argsOk "set_iterator.__next__" ⟨[a],[]⟩:=by unfold argsOk;kernel_rfl
theorem args_seti_iter(a:Value):argsOk "set_iterator.__iter__" ⟨[a],[]⟩:=by unfold argsOk;kernel_rfl
theorem hint_set{prog:Program}{w:World}{A:Around}{E:Value→Shared→Prop}{s:Shared}{r:Addr}{Q:Bool→Shared→Prop}(hT:s.TypeIs (.ref r) "set")(h:Q false s):wpAny (model prog w) A (Builtin.List.listLengthHint (.ref r)) Q E s:=by
 refine wpAny_bind (wpAny_specialOf hT PySem.F.slot_set_len.lookup ?_)
 generalize hid:("set.__len__":String)=id0
 wp_delta
 rw[show splitId id0=some ("set","__len__") from by subst hid;decide +kernel]
 subst hid
 refine wpAny_bind (wpAny_isInstance (T:="set") (b:=true) hT (by rw[isSubtype_type];kernel_rfl) ?_)
 refine wpAny_ite_split (fun hab=>absurd hab (by decide)) (fun V=>?_)
 refine wpAny_ite_split (fun V=>?_) (fun hab=>absurd (by decide +kernel) hab)
 refine wpAny_bind (wpAny_typeOf hT ?_)
 exact wpAny_pure h
theorem go_s{α:Type}(next:Nat→Nat)(fuel k:Nat)(left:List α)(out:Array α):pickOrder.go next (fuel+1) k left out=(match left[next k % left.length]? with|some x=>pickOrder.go next fuel (k+1) (left.eraseIdx (next k % left.length)) (out.push x)|none=>out):=rfl
theorem pick_perm{α:Type}(next:Nat→Nat):∀(fuel k:Nat)(left:List α)(out:Array α),left.length≤fuel→(pickOrder.go next fuel k left out).toList.Perm (out.toList++left)
 |0,k,left,out,h=>by
  have:left=[]:=List.length_eq_zero_iff.mp (Nat.le_zero.mp h)
  subst this
  rw[List.append_nil];exact List.Perm.refl _
 |fuel+1,k,left,out,h=>by
  rw[go_s]
  cases hx:left[next k % left.length]? with
  |none=>
   have hl:left=[]:=by
    cases left with
    |nil=>rfl
    |cons a l=>
     rw[List.getElem?_eq_none_iff] at hx
     exact absurd (Nat.mod_lt (next k) (Nat.succ_pos l.length)) (Nat.not_lt.mpr hx)
   subst hl
   simp
  |some x=>
   obtain⟨hlt,hget⟩:=List.getElem?_eq_some_iff.mp hx
   refine(pick_perm next fuel (k+1) _ _ (by rw[List.length_eraseIdx_of_lt hlt];exact Nat.le_trans (Nat.sub_le_sub_right h 1) (Nat.le_refl _))).trans ?_
   rw[Array.toList_push,List.append_assoc]
   refine List.Perm.append_left _ ?_
   rw[← hget]
   show(left[next k % left.length]::left.eraseIdx (next k % left.length)).Perm left
   rw[List.eraseIdx_eq_take_drop_succ]
   refine(List.perm_middle (l₁:=left.take (next k % left.length)) (l₂:=left.drop (next k % left.length+1))).symm.trans ?_
   rw[List.getElem_cons_drop,List.take_append_drop]
section
variable{G:GC}{ℓ:Nat}{own:Own}{A:Around}{E:Value→Shared→Prop}{s:Shared}
noncomputable def setW(G:GC)(S:Addr)(ep:Nat)(es:Array (Int × Value)):Array (Int × Value):=if bt G=true then pickOrder (G.w.params.setOrder S ep) es else es
theorem setW_perm(S:Addr)(ep:Nat)(es:Array (Int × Value)):(setW G S ep es).toList.Perm es.toList:=by
 unfold setW
 split
 ·have:=pick_perm (G.w.params.setOrder S ep) es.size 0 es.toList #[] (by simp)
  simpa[pickOrder] using this
 ·exact List.Perm.refl _
theorem setW_size(S:Addr)(ep:Nat)(es:Array (Int × Value)):(setW G S ep es).size=es.size:=by
 have:=(setW_perm (G:=G) S ep es).length_eq
 simpa using this
noncomputable def slotAt(place:Array Nat)(k:Nat):Nat:=if k=0 then 0 else place.getD (k-1) 0+1
theorem below_at{place:Array Nat}{k:Nat}(hg:gp place=true)(hk:k≤place.size):SetTable.below place (slotAt place k)=k:=by
 have h:=walk_ok place hg
 unfold walkOk at h
 rw[List.all_eq_true] at h
 have:=h k (List.mem_range.mpr (by lia))
 exact beq_iff_eq.mp this
noncomputable def slK(G:GC)(place:Array Nat)(k:Nat):Nat:=if bt G=true then 0 else slotAt place k
structure SFit (es:Array (Int × Value)) (p:Bool) (place:Array Nat):Prop where
 g:gp place=true
 s:place.size=es.size
 one:p=true∨es.size≤1
theorem set_next{S:Addr}{es:Array (Int × Value)}{ep k:Nat}{p:Bool}{place:Array Nat}{Q:Option (Value × Nat)→Shared→Prop}(hf:SFit es p place)(e:s.heap.get? S=some (setO G es ep p place))(hk:k≤es.size)
  (h:Q (((setW G S ep es)[k]?).map fun x=>(x.2,slK G place (k+1))) s):wpAny (model G.prog G.w) A (setNext S (slK G place k) k ep) Q E s:=by
 unfold slK at h ⊢
 refine wpAny_bind (wpAny_setState_of e rfl (stb_fits hf.g hf.s) ?_)
 refine wpAny_bind (wpAny_bind (wpAny_askSetting (wpAny_pure ?_)))
 show wpAny _ _ (if bt G=true then _ else _) _ _ s
 by_cases hb:bt G=true
 ·rw[if_pos hb]
  rw[if_neg (by simp)]
  refine wpAny_bind ?_
  refine wpAny_bind (wpAny_setState_of e rfl (stb_fits hf.g hf.s) ?_)
  refine wpAny_bind (wpAny_bind (wpAny_askSetting (wpAny_pure ?_)))
  show wpAny _ _ (if bt G=true then _ else _) _ _ s
  rw[if_pos hb]
  refine wpAny_bind (wpAny_askSetting (wpAny_pure (wpAny_pure ?_)))
  rw[setW,if_pos hb,if_pos hb] at h
  rw[if_pos hb]
  exact h
 ·rw[if_neg hb]
  rw[setW,if_neg hb,if_neg hb] at h
  rw[if_neg hb]
  have hbf:bt G=false:=Bool.eq_false_iff.mpr hb
  have hd:(!p&&decide (es.size > 1))=false:=by
   rcases hf.one with h1|h1
   ·rw[h1];rfl
   ·rw[decide_eq_false (Nat.not_lt.mpr h1),Bool.and_false]
  refine wpAny_ite_split (fun hab=>?_) (fun V=>?_)
  ·have:(!p&&decide (es.size > 1))=true:=hab
   rw[hd] at this;cases this
  refine wpAny_bind ?_
  have hled:(!(stb (bt G) p place).led&&!es.isEmpty)=false:=by
   show(!(!(bt G))&&!es.isEmpty)=false
   rw[hbf];rfl
  show wpAny _ _ (if (!(stb (bt G) p place).led&&!es.isEmpty)=true then _ else _) _ _ s
  rw[hled,if_neg Bool.false_ne_true]
  refine wpAny_pure ?_
  show wpAny _ _ (pure (match es[SetTable.below place (slotAt place k)]?,place[SetTable.below place (slotAt place k)]? with
   |some (_,x),some j=>some (x,j+1)
   |_,_=>Option.none)) _ _ s
  rw[below_at hf.g (by rw[hf.s];exact hk)]
  refine wpAny_pure ?_
  by_cases hlt:k<es.size
  ·have hlt2:k<place.size:=by rw[hf.s];exact hlt
   rw[Array.getElem?_eq_getElem hlt,Array.getElem?_eq_getElem hlt2]
   rw[Array.getElem?_eq_getElem hlt] at h
   have es1:slotAt place (k+1)=place[k]+1:=by
    unfold slotAt
    rw[if_neg (by lia)]
    simp[Array.getD,hlt2]
   rw[es1] at h
   exact h
  ·rw[Array.getElem?_eq_none (by lia)]
   rw[Array.getElem?_eq_none (by lia)] at h
   exact h
end
section
variable{G:GC}{ℓ:Nat}{own:Own}{A:Around}{E:Value→Shared→Prop}{s:Shared}
noncomputable abbrev setiO(slot k:Nat)(S:Addr)(n ep:Nat):Obj:={cls:=.type "set_iterator",data:=.fields #[rawInt slot,rawInt k,.ref S,rawInt n,rawInt ep]}
theorem slK_zero(place:Array Nat):slK G place 0=0:=by unfold slK slotAt;split<;>rfl
theorem pyIter_set{S:Addr}{es:Array (Int × Value)}{ep:Nat}{p:Bool}{place:Array Nat}{Q:Value→Shared→Prop}(hf:SFit es p place)(e:s.heap.get? S=some (setO G es ep p place))
  (hQ:Q (.ref s.heap.objs.size) {s with heap:=s.heap.push (setiO 0 0 S es.size ep)}):wpAny (model G.prog G.w) A (pyIter (.ref S)) Q E s:=by
 have hT:s.TypeIs (.ref S) "set":=(iEA _ e rfl)
 have hfit:=stb_fits (led:=bt G) (p:=p) hf.g hf.s
 refine wpAny_pyIter_slot hT F.slot_set_iter (wpAny_call_entry F.slot_set_iter hT entry_set_iter ?_ (F.args_set_iter_1 _))
 show wpAny _ _ (Builtin.Frozenset.sizeOf S>>=_) _ _ s
 refine wpAny_bind (wpAny_bind (wpAny_bind (wpAny_setState_of e rfl hfit (wpAny_pure (wpAny_pure ?_)))))
 refine wpAny_bind ?_
 refine wpAny_bind ?_
 refine wpAny_setState_of e rfl hfit ?_
 refine wpAny_bind (wpAny_bind (wpAny_askSetting (wpAny_pure ?_)))
 have hd:(!p&&decide (es.size > 1))=false:=by
  rcases hf.one with h1|h1
  ·rw[h1];rfl
  ·rw[decide_eq_false (by lia)];simp
 show wpAny _ _ (pure (!(bt G)&&(!p&&decide (es.size > 1)))) _ _ s
 rw[hd,Bool.and_false]
 refine wpAny_pure ?_
 refine wpAny_bind (wpAny_pure ?_)
 refine wpAny_bind (wpAny_setEpoch_of e rfl hfit ?_)
 refine wpAny_bind (wpAny_newObj_type (wpAny_pure (iEAEEAA _ rfl ("set_iterator") _ (iEA _ (Heap.get?_push_size _ rfl) rfl) slot_seti_next.lookup ?_)))
 exact hQ
theorem next_set{I S:Addr}{es:Array (Int × Value)}{ep k:Nat}{p:Bool}{place:Array Nat}{Q:Option Value→Shared→Prop}(hf:SFit es p place)(e:s.heap.get? S=some (setO G es ep p place))(hit:s.heap.get? I=some (setiO (slK G place k) k S es.size ep))(hk:k<es.size)
  (hQ:∀ v h',((setW G S ep es)[k]?).map (·.2)=some v→h'.get? I=some (setiO (slK G place (k+1)) (k+1) S es.size ep)→Heap.SameBut I s.heap h'→Q (some v) {s with heap:=h'}):wpAny (model G.prog G.w) A (pyNext (.ref I)) Q E s:=by
 have hT:s.TypeIs (.ref I) "set_iterator":=(iEA _ hit rfl)
 have hfit:=stb_fits (led:=bt G) (p:=p) hf.g hf.s
 refine wpAny_bind (wpAny_attempt (wpAny_callSpecial?_slot (name:=Str.ofString "__next__") hT slot_seti_next
  (wpAny_call_entry slot_seti_next hT entry_seti_next ?_ (args_seti_next _))))
 show wpAny _ _ (fieldsOf (.ref I)>>=_) _ _ s
 refine wpAny_bind (wpAny_fieldsOf hit rfl ?_)
 refine wpAny_bind (wpAny_bind (wpAny_setState_of e rfl hfit (wpAny_pure ?_)))
 rw[if_neg (by simp)]
 show wpAny _ _ (setNext S (slK G place k) k ep>>=_) _ _ s
 have hlt:k<(setW G S ep es).size:=by rw[setW_size];exact hk
 refine wpAny_bind (set_next hf e (Nat.le_of_lt hk) ?_)
 rw[Array.getElem?_eq_getElem hlt]
 refine wpAny_bind (wpAny_setField_rec hit (by simp) fun h1 e1 hs1=>?_)
 replace e1:h1.get? I=some (setiO (slK G place (k+1)) k S es.size ep):=e1
 refine wpAny_bind (wpAny_setField_rec e1 (by simp) fun h2 e2 hs2=>?_)
 replace e2:h2.get? I=some (setiO (slK G place (k+1)) (k+1) S es.size ep):=e2
 exact wpAny_pure (iEA _ rfl (wpAny_pure (hQ _ h2 (by rw[Array.getElem?_eq_getElem hlt];rfl) e2 (hs1.trans hs2))))
theorem next_set_end{I S:Addr}{es:Array (Int × Value)}{ep:Nat}{p:Bool}{place:Array Nat}{Q:Option Value→Shared→Prop}(hh:A.handled=Option.none)(hf:SFit es p place)(e:s.heap.get? S=some (setO G es ep p place))(hit:s.heap.get? I=some (setiO (slK G place es.size) es.size S es.size ep))
  (hQ:∀ h',Heap.ExtBut I s.heap h'→Q Option.none {s with heap:=h'}):wpAny (model G.prog G.w) A (pyNext (.ref I)) Q E s:=by
 have hT:s.TypeIs (.ref I) "set_iterator":=(iEA _ hit rfl)
 have hfit:=stb_fits (led:=bt G) (p:=p) hf.g hf.s
 refine wpAny_bind (wpAny_attempt (wpAny_callSpecial?_slot (name:=Str.ofString "__next__") hT slot_seti_next
  (wpAny_call_entry slot_seti_next hT entry_seti_next ?_ (args_seti_next _))))
 show wpAny _ _ (fieldsOf (.ref I)>>=_) _ _ s
 refine wpAny_bind (wpAny_fieldsOf hit rfl ?_)
 refine wpAny_bind (wpAny_bind (wpAny_setState_of e rfl hfit (wpAny_pure ?_)))
 rw[if_neg (by simp)]
 show wpAny _ _ (setNext S (slK G place es.size:Int).toNat (es.size:Int).toNat (ep:Int).toNat>>=_) _ _ s
 refine wpAny_bind (set_next hf e (Nat.le_refl _) ?_)
 rw[Array.getElem?_eq_none (by rw[setW_size];exact Nat.le_refl _)]
 refine wpAny_bind (wpAny_setField_rec hit (by simp) fun h1 e1 hs1=>?_)
 show wpAny _ _ (newExc (.type "StopIteration") []>>=_) _ _ _
 refine wpAny_bind ?_
 refine wpAny_bind (wpAny_newObj_type ?_ (by size_fits))
 refine wpAny_bind (m:=firstArgMember _ _) (wpAny_of_eq (a:=Value.none) (by first|rfl|(simp only[firstArgMember];rfl)) ?_)
 refine wpAny_newObj_type ?_ (by size_fits)
 refine wpAny_raiseNew_none hh ?_
 refine wpAny_bind (wpAny_isInstance (T:="StopIteration") (b:=true) (iEA _ (Heap.get?_push_size _ rfl) rfl) isSubtype_stop ?_)
 exact wpAny_pure (hQ _ ((hs1.extBut.push _).push _))
end
section
variable{G:GC}{ℓ:Nat}{own:Own}{A:Around}{E:Value→Shared→Prop}{s:Shared}
theorem walk_set(hh:A.handled=Option.none)(I S:Addr)(hne:S≠I){es:Array (Int × Value)}{ep:Nat}{p:Bool}{place:Array Nat}(hf:SFit es p place) :
  Walks G.prog G.w A I [I,S] [I] es.size (fun i v=>((setW G S ep es)[i]?).map (·.2)=some v) (fun i h=>h.get? I=some (setiO (slK G place i) i S es.size ep)∧h.get? S=some (setO G es ep p place)) where
 sub:=fun b hb=>by simp at hb;simp[hb]
 frame:=fun V V V st hk=>⟨hk I (by simp) _ st.1,hk S (by simp) _ st.2⟩
 item:=fun i s Q E hi st hQ=>by
  refine next_set hf st.2 st.1 hi fun v h' hv e' hs'=>?_
  exact hQ v h' s.toks hv ⟨e',(hs'.2 S hne).trans st.2⟩ fun b o hb e=>hs'.extBut b o (fun h=>hb (by simp[h])) e
 done:=fun s Q E st hQ=>next_set_end hh hf st.2 st.1 fun h' he'=>hQ h' s.toks fun b o hb e=>he' b o (fun h=>hb (by simp[h])) e
 self:=fun i s Q E st hQ=>by
  have hT:s.TypeIs (.ref I) "set_iterator":=(iEA _ st.1 rfl)
  refine wpAny_pyIter_slot hT slot_seti_iter (wpAny_call_entry slot_seti_iter hT entry_seti_iter ?_ (args_seti_iter _))
  exact wpAny_pure (iEAEEAA _ rfl ("set_iterator") _ hT slot_seti_next.lookup hQ)
theorem src_set{S:Addr}{es:Array (Int × Value)}{ep:Nat}{p:Bool}{place:Array Nat}(hf:SFit es p place):KdlSrc G.prog G.w "set" S S es.size (fun i v=>((setW G S ep es)[i]?).map (·.2)=some v) (fun h=>h.get? S=some (setO G es ep p place)) where
 type:=fun V hm=>(iEA _ hm rfl)
 there:=fun V hm=>⟨Heap.lt_size hm,Heap.lt_size hm⟩
 keep:=fun V V hm hk=>hk S (.inl rfl) _ hm
 notList:=by decide
 notTuple:=by decide
 hint:=fun V V V V hm hq=>hint_set (iEA _ hm rfl) hq
 iter:=fun V V hh hm=>(iEEAA _ _ (fun V V hq=>pyIter_set hf hm hq) (walk_set hh _ S (Nat.ne_of_lt (Heap.lt_size hm)) hf) ⟨by rw[slK_zero];exact Heap.get?_push_size _ rfl,Heap.get?_push_of_some _ hm⟩)
theorem ColT.sset{a:Addr}{p:Bool}{L:List AV}{K:List AV→Own→Prop}(ha:own a=some (.sset p L))(h:∀ L',L'.Perm L→K L' own):ColT G ℓ own (.ref a) K:=fun A s v Q E hA O r hQ=>by
 obtain rfl:=r.i_ref
 obtain⟨⟨es,ep,place,e,hg,hs,_,hp,r⟩,_⟩:=O.own a _ ha
 have hf:SFit es p place:=⟨hg,hs,by cases p;exact .inr (hp rfl);exact .inl rfl⟩
 have hsz:es.size≤3:=by
  rw[← hs]
  unfold gp at hg
  rw[Bool.and_eq_true,Bool.and_eq_true,decide_eq_true_iff] at hg
  exact hg.1.1
 have hszl:=sizeLine_eq
 refine kdu_collect (A:=A) (src_set (es:=es) (ep:=ep) hf) hA.handled e (by lia) fun h' tk acc hkp hacc=>?_
 have ea:acc.toList=(setW G a ep es).toList.map (·.2):=by
  apply List.ext_getElem?
  intro i
  by_cases hi:i<acc.size
  ·have h1:((setW G a ep es)[i]?).map (·.2)=some acc[i]:=hacc.2 i acc[i] (by simp[hi])
   rw[Array.getElem?_toList,Array.getElem?_eq_getElem hi,List.getElem?_map,Array.getElem?_toList,h1]
  ·have h2:acc.size=es.size:=hacc.1
   rw[Array.getElem?_toList,Array.getElem?_eq_none (by lia),List.getElem?_eq_none (by rw[List.length_map,Array.length_toList,setW_size];lia)]
 have S1:Step noX own own s {s with heap:=h',toks:=tk}:=⟨(iEE _ _ rfl),fun b o e p V=>⟨hkp b o e,p⟩⟩
 refine uEA (r.perm ((setW_perm (G:=G) a ep es).map (·.2))) fun L' h1 h2=>?_
 rw[ea]
 exact hQ _ L' own _ (h L' h2) S1 (O.ext hkp) (h1.mono S1.mono)
theorem SA.int{S:Addr}{i:Int}{Ls:List AV}{K:Bool→List AV→Prop}(h2:Ls.length≤2)(hi:0≤i∧i<16)(h:∀ L',(L'=Ls∨L'.Perm (Ls++[.int i]))→K true L'):SA G ℓ S (.int i) true Ls K:=fun A own s v Q E hA O r hS hQ=>by
 obtain⟨_,rfl⟩:=r.i_int
 exact setAdd_int O hS h2 hi fun b L' s' hL S1 O1=>hQ b true L' s' (h L' hL) S1 O1
theorem SA.tup{S:Addr}{x:Str}{k:List AV}{K:Bool→List AV→Prop}(hl:ℓ≤1000)(hk:tkOk (.tup (.str x::k)))(h:K false [.tup (.str x::k)]):SA G ℓ S (.tup (.str x::k)) true [] K:=fun A own s v Q E hA O r hS hQ=>by
 obtain⟨a,rfl⟩:=r.refOf
 exact setAdd_tup (by have:=hA.room hl;lia) O hS hk r fun b s' S1 O1=>hQ b false _ s' h S1 O1
theorem Cal.setI{a:Addr}{L:List Int}{K:AV→Own→Prop}(ha:own a=some (.list (intL L)))(h3:L.length≤3)(hi:∀ i∈L,0≤i∧i<16)(h:∀ c Ls,own c=Option.none→Ls.length≤3→(∀ x∈Ls,∃ i∈L,x=.int i)→K (.ref c) (upd own c (.sset true Ls))):Cal G ℓ own (.ty "set") [.ref a] K:=fun A s fv vs Q E hA O rf R hQ=>by
 obtain rfl:=rf.i_ty
 refine uEA R.one ?_;rintro va rfl ra
 obtain rfl:=ra.i_ref
 refine call_set (J:=fun i p Ls=>p=true∧Ls.length≤i∧∀ x∈Ls,∃ j∈L,x=.int j) hA O ha (iAA rfl (Nat.le_refl _) (fun x hx=>by simp at hx)) (fun S i d p Ls hd hJ=>?_) fun p Ls s' hJ h0 S1 O1=>?_
 ·refine uAA hJ ?_;clear hJ;rintro rfl hlen hin
  rw[intL_get] at hd
  refine uEA (Option.map_eq_some_iff.mp hd) ?_;rintro j hj rfl
  have hjm:=List.mem_of_getElem? hj
  have hilt:=(List.getElem?_eq_some_iff.mp hj).1
  refine SA.int (by lia) (hi j hjm) fun L' hL=>?_
  rcases hL with rfl|hL
  ·exact(iAA rfl (by lia) hin)
  ·refine(iAA rfl (by rw[hL.length_eq];simp;lia) (fun x hx=>?_))
   rcases List.mem_append.mp (hL.mem_iff.mp hx) with hx|hx
   ·exact hin x hx
   ·exact(iEA j hjm (List.mem_singleton.mp hx))
 ·refine uAA hJ ?_;clear hJ;rintro rfl hlen hin
  exact hQ _ _ _ s' (h _ Ls h0 (Nat.le_trans hlen (by rw[intL_length];exact h3)) hin) S1 O1 (.ref _)
theorem Cal.setT{a:Addr}{x:Str}{k:List AV}{K:AV→Own→Prop}(hl:ℓ≤900)(ha:own a=some (.list [.tup (.str x::k)]))(hk:tkOk (.tup (.str x::k)))(h:∀ c,own c=Option.none→K (.ref c) (upd own c (.sset false [.tup (.str x::k)]))):Cal G ℓ own (.ty "set") [.ref a] K:=fun A s fv vs Q E hA O rf R hQ=>by
 obtain rfl:=rf.i_ty
 refine uEA R.one ?_;rintro va rfl ra
 obtain rfl:=ra.i_ref
 refine call_set (J:=fun i p Ls=>(i=0∧p=true∧Ls=[])∨(i=1∧p=false∧Ls=[.tup (.str x::k)])) hA O ha (.inl (iAA rfl rfl rfl)) (fun S i d p Ls hd hJ=>?_) fun p Ls s' hJ h0 S1 O1=>?_
 ·rcases hJ with⟨rfl,rfl,rfl⟩|⟨rfl,rfl,rfl⟩
  ·simp only[List.getElem?_cons_zero,Option.some.injEq] at hd
   subst hd
   exact SA.tup (by lia) hk (.inr (iAA rfl rfl rfl))
  ·simp at hd
 ·rcases hJ with⟨h,_⟩|⟨_,rfl,rfl⟩
  ·simp at h
  ·exact hQ _ _ _ s' (h _ h0) S1 O1 (.ref _)
end
section
variable{G:GC}{ℓ:Nat}{sc:Names}{m:MM}{own:Own}{K:AV→Own→Prop}
theorem Cal.isspace{x:Str}(h:K (.bool (Txt.isspace x)) own):Cal G ℓ own (.bi "str.isspace") [.str x] K:=Cal.b1 h fun A s va Q E hA O ra hQ=>by
 obtain⟨_,rfl⟩:=ra.i_str
 exact PySem.SC.isspace (hQ _ s.toks (.bool _))
theorem Op.inStr{x y:Str}(h:K (.bool !(Builtin.Str.occurrences y x 0 y.length 1).isEmpty) own):Op G ℓ own (op2 (compareOp .In)) [.str x,.str y] K:=
 Op.pure1 h fun A s va vb Q E hA O ra rb hQ=>by
  obtain⟨_,rfl⟩:=ra.i_str;obtain⟨_,rfl⟩:=rb.i_str
  exact PyProof.Rows.in_str (hQ _ s.toks (.bool _))
theorem Sb.str{x:Str}{i:Int}{c:Nat}(hi:-2 ^ 63≤i∧i<2 ^ 63)(hc:(seqIndex? i x.length).bind (x.cps[·]?)=some c)(h:K (.str ⟨#[c]⟩) own):Sb G ℓ own (.str x) (.int i) K:=
 (iEEAA ("str") _ F.slot_str_getitem.lookup (fun s v O r=>by obtain⟨_,rfl⟩:=r.i_str;rfl) (Op.pure1 h fun A s va vb Q E hA O ra rb hQ=>by
  obtain⟨_,rfl⟩:=ra.i_str;obtain⟨_,rfl⟩:=rb.i_int
  refine PyProof.Rows.getItem_str ?_ hc (hQ _ _ (.str _ _))
  rw[Bool.or_eq_false_iff]
  exact⟨decide_eq_false (by lia),decide_eq_false (by lia)⟩))
noncomputable def strHead(x:Str):Str:=⟨(x.cps.toList.take 1).toArray⟩
theorem picked_head{x:Str}{u:Tok}(h1:1≤x.length):slicePicked x Option.none (some (1,u)) Option.none=[0]:=by
 unfold slicePicked Builtin.Str.strSliceIndices
 simp only[Option.map_none,Option.map_some,Option.getD_none,gt_iff_lt,Int.zero_lt_one,if_true]
 have e:max 0 (min (if (1:Int)<0 then 1+(x.length:Int) else 1) (x.length:Int))=1:=by
  rw[if_neg (by decide)];lia
 rw[e]
 rfl
set_option tactic.hygienic true in
theorem Sl.strHead{x:Str}(h1:1≤x.length)(hsz:x.length≤1000)(h:K (.str (Mine.strHead x)) own):Sl G ℓ own (.str x) Option.none (some 1) K:=
 (iEEAA ("str") _ F.slot_str_getitem.lookup (fun s v O r=>by obtain⟨_,rfl⟩:=r.i_str;rfl) (fun A s v vl vu sl Q E hA O r hs pl pu hQ=>by
  cases r with
  |str _ t=>
  cases pl
  cases pu with
  |int _ u=>
  refine wpAny_getItem_str_slice (l:=Option.none) (u:=some (1,u)) (st:=Option.none) hs rfl ?_
  unfold sliceMade
  rw[picked_head h1]
  have e2:([0].filterMap (x.cps[·]?))=x.cps.toList.take 1:=by
   have h0:0<x.cps.size:=h1
   generalize x.cps=y at h0 ⊢
   obtain⟨l⟩:=y
   cases l with
   |nil=>exact absurd h0 (by decide)
   |cons a b=>rfl
  split
  ·rename_i hc
   have hl:x.length=1:=by
    rw[Bool.and_eq_true] at hc
    have:=beq_iff_eq.mp hc.2
    simpa using this.symm
   have e3:Mine.strHead x=x:=by
    unfold Mine.strHead
    have:x.cps.toList.take 1=x.cps.toList:=List.take_of_length_le (by rw[Array.length_toList];exact Nat.le_of_eq hl)
    rw[this]
   rw[e3] at h
   exact hQ _ _ own s h (Step.refl s) O (.str _ _)
  ·rw[e2]
   refine⟨?_,hQ _ _ own _ h (Step.toks s _) O (.str _ _)⟩
   have hszl:=sizeLine_eq
   show(x.cps.toList.take 1).toArray.size≤sizeLine
   rw[List.size_toArray,List.length_take]
   lia))
theorem Cal.max{a:Addr}{l:List Int}(ha:own a=some (.list (intL l)))(hne:0<l.length)(h:∀ M,K (.int M) own):Cal G ℓ own (.bi "max") [.ref a] K:=fun A s fv vs Q E hA O rf R hQ=>by
 obtain rfl:=rf.i_bi
 refine uEA R.one ?_;rintro va rfl ra
 obtain rfl:=ra.i_ref
 obtain⟨⟨items,n,e,r⟩,_⟩:=O.own a _ ha
 have hl:=r.length
 rw[Array.length_toList,intL_length] at hl
 have hh:A.in1.handled=Option.none:=hA.handled
 have hne':a≠s.heap.objs.size:=by rintro rfl;rw[get_size] at e;cases e
 have hval:∀(i:Nat)(v:Value),items[i]?=some v→∃ t,v=.int ((fun i=>l.getD i 0) i) t:=fun i v hv=>by
  have hi:i<l.length:=by
   rw[← hl]
   exact(Array.getElem?_eq_some_iff.mp hv).1
  have h1:(intL l)[i]?=some (.int (l.getD i 0)):=by rw[intL_get,List.getElem?_eq_getElem hi];simp[List.getD,List.getElem?_eq_getElem hi]
  refine uEA (r.get h1) fun v' hv' rv=>?_
  rw[Array.getElem?_toList,hv] at hv'
  cases hv'
  obtain⟨_,rfl⟩:=rv.i_int
  exact⟨_,rfl⟩
 refine call_max_walkS (wpAny_pyIter_list (iEAAE _ e rfl n rfl) ?_)
 refine(iEEEEEEEEAAAAAA s.heap.objs.size [s.heap.objs.size,a] [s.heap.objs.size] _ items.size _ _ _ rfl ((Walks.list hh s.heap.objs.size a hne' items).toS) ⟨(iEAA _ (Heap.get?_push_size _ rfl) rfl rfl),(iEAAE _ (push_ext _ _ e) rfl n rfl)⟩ ?_ (by lia) (CmpOf.ints_gt (fun i=>l.getD i 0) hval) ?_)
 ·intro b hb
  show b<(s.heap.push _).objs.size
  rw[Heap.size_push]
  rcases List.mem_cons.mp hb with rfl|hb
  ·exact Nat.lt_succ_self _
  ·rw[List.mem_singleton.mp hb];exact Nat.lt_succ_of_lt (Heap.lt_size e)
 ·intro v s' hv hm
  obtain⟨t,rfl⟩:=hval _ v hv
  obtain⟨S1,O1⟩:=moved_step O (get_size _) (iEA _ rfl push_ext) hm
  exact hQ _ _ own s' (h _) S1 O1 (.int _ _)
theorem Tst.chain2{l e1 e2:Expr}{o1 o2:CmpOp}{pos:Pos}{K:Bool→Own→Prop}(h:Ev G ℓ sc m own l fun a w1=>Ev G ℓ sc m w1 e1 fun b w2=>Op G ℓ w2 (op2 (compareOp o1)) [a,b] fun c w3=>∃ t,c=.bool t∧if t=true then Ev G ℓ sc m w3 e2 fun d w4=>Op G ℓ w4 (op2 (compareOp o2)) [b,d] fun c2 w5=>∃ t2,c2=.bool t2∧K t2 w5 else K false w3)
  (hm:autoParam (behindInMarks o2 e2=false) sU):Tst G ℓ sc m own (.Compare l [o1,o2] [e1,e2] pos) K:=fun A env X s Q E hA O F hQ=>by
 refine wpAny_bind (h A env X s _ E hA O F fun va a w1 s1 k1 S1 O1 r1=>?_)
 show wpAny _ A (do
  let rv ← holding [va] (eval e1 env)
  standAt pos
  let c ← holding [va,rv] (compareOp o1 va rv)
  release [va,rv] [c]
  if ← holding [c,rv] (truthy c) then testChain pos rv [o2] [markedBehindIn o2 e2 (eval e2 env)] else pure false) Q E s1
 refine wpAny_bind (wpAny_holding (k1 A env X s1 _ E hA O1 (F.step S1) fun vb b w2 s2 k2 S2 O2 r2=>?_))
 refine wpAny_bind (wpAny_standAt (wpAny_bind (wpAny_holding ?_)))
 refine k2 A s2 [va,vb] _ E hA O2 (.cons (r1.step S2) (.cons r2 .nil)) fun vc c w3 s3 k3 S3 O3 r3=>?_
 refine uEA k3 ?_;clear k3;rintro t rfl k3
 obtain rfl:=r3.i_bool
 refine wpAny_bind (wpAny_release (wpAny_bind (wpAny_holding (wpAny_truthy_bool ?_))))
 cases t with
 |false=>exact wpAny_pure (hQ false w3 s3 k3 ((S1.trans S2).trans S3) O3)
 |true=>
  rw[if_pos rfl] at k3 ⊢
  rw[markedBehindIn_of_false hm]
  show wpAny _ A (do
   let rv ← holding [vb] (eval e2 env)
   standAt pos
   let c ← operate [vb,rv] (compareOp o2 vb rv)
   holding [c] (truthy c)) Q E s3
  refine wpAny_bind (wpAny_holding (k3 A env X s3 _ E hA O3 (((F.step S1).step S2).step S3) fun vd d w4 s4 k4 S4 O4 r4=>?_))
  refine wpAny_bind (wpAny_standAt (wpAny_bind (wpAny_operating ?_)))
  refine k4 A s4 [vb,vd] _ E hA O4 (.cons ((r2.step S3).step S4) (.cons r4 .nil)) fun ve c2 w5 s5 k5 S5 O5 r5=>?_
  refine uEA k5 ?_;clear k5;rintro t2 rfl k5
  obtain rfl:=r5.i_bool
  exact wpAny_holding (wpAny_truthy_bool (hQ t2 w5 s5 k5 ((((S1.trans S2).trans S3).trans S4).trans S5) O5))
theorem Ev.callStar{x:Str}{p sp pos:Pos}{e:Expr}{T:String}(h:Ev G ℓ sc m own (.Name x p) fun fv o1=>fv=.ty T∧Ev G ℓ sc m o1 e fun av o2=>∃ a L,av=.ref a∧o2 a=some (.list L)∧L.length≤1000∧Cal G ℓ o2 (.ty T) L K):Ev G ℓ sc m own (.Call (.Name x p) [.Starred e sp] [] pos) K:=fun A env X s Q E hA O F hQ=>by
 show wpAny _ A (do let f ← eval (.Name x p) env;callWith pos f [] (backTo pos (starEach [.Starred e sp] env)) []) Q E s
 refine wpAny_bind (h A env X s _ E hA O F fun fv av o1 s1 k S1 O1 r1=>?_)
 obtain⟨rfl,k⟩:=k
 obtain rfl:=r1.i_ty
 refine wpAny_bind (wpAny_holding ?_)
 show wpAny _ A (evalArgs (.type T) true [(true,do let v ← eval e env;standAt pos;pure v)] []) _ E s1
 unfold evalArgs
 refine wpAny_bind (wpAny_bind ?_)
 refine k A env X s1 _ E hA O1 (F.step S1) fun v av o2 s2 k2 S2 O2 r2=>wpAny_bind (wpAny_standAt (wpAny_pure ?_))
 refine uEEAAA k2 ?_;clear k2;rintro a L rfl hL hsz k2
 obtain rfl:=r2.i_ref
 obtain⟨⟨items,n,el,rl⟩,_⟩:=O2.own a _ hL
 have hTl:s2.TypeIs (.ref a) "list":=(iEA _ el rfl)
 refine wpAny_bind (wpAny_pure ?_)
 dsimp only
 refine wpAny_holding ?_
 refine wpAny_bind (wpAny_pure ?_)
 refine wpAny_bind ?_
 refine wpAny_bind ?_
 unfold notIterableAtAll
 refine wpAny_bind (wpAny_specialOf hTl PySem.F.slot_list_iter.lookup ?_)
 refine wpAny_pure ?_
 simp only[Bool.false_eq_true,if_false]
 refine wpAny_holding ?_
 refine ColT.list (G:=G) (ℓ:=ℓ) (K:=fun L' o=>L'=L∧o=o2) hL (by lia) ⟨rfl,rfl⟩ A s2 _ _ E hA O2 (.ref a) fun vs avs o3 s3 k3 S3 O3 r3=>?_
 obtain⟨rfl,rfl⟩:=k3
 refine wpAny_pure ?_
 refine wpAny_bind (wpAny_standAt ?_)
 refine wpAny_bind (wpAny_pure ?_)
 show wpAny _ A (do
  let r ← operate ((.type T::([]++vs).reverse)++[]) (PySem.call (.type T) ([]++vs) [])
  holding [r] point
  pure r) Q E s3
 refine wpAny_bind (wpAny_operating ?_)
 refine k2 A s3 (.type T) vs _ E hA O3 (.ty _) r3 fun v av o4 s4 k4 S4 O4 r4=>?_
 exact wpAny_bind (wpAny_holding (wpAny_point (wpAny_pure (hQ v av o4 s4 k4 (((S1.trans S2).trans S3).trans S4) O4 r4))))
end
section
variable{G:GC}{ℓ:Nat}{sc:Names}{m:MM}{own:Own}{K:AV→Own→Prop}
theorem Sb.last{a:Addr}{l:List AV}{d:AV}(ha:own a=some (.list (l++[d])))(h:K d own):Sb G ℓ own (.ref a) (.int (-1)) K:=
 (iEEAA ("list") _ F.slot_list_getitem.lookup (fun s v O r=>by obtain rfl:=r.i_ref;obtain⟨⟨it,n,e,_⟩,_⟩:=O.own a _ ha;exact(iEA _ e rfl)) (Op.pure1 h fun A s va vb Q E hA O ra rb hQ=>by
  obtain⟨_,rfl⟩:=rb.i_int
  obtain rfl:=ra.i_ref
  obtain⟨⟨it,n,e,r⟩,_⟩:=O.own a _ ha
  have hl:=r.length
  rw[Array.length_toList,List.length_append,List.length_singleton] at hl
  refine uEA (r.get (i:=l.length) (d:=d) (by simp)) fun v hv rv=>?_
  have e2:((-1:Int)+(it.size:Int)).toNat=l.length:=by rw[hl,Int.add_comm,show((l.length+1:Nat):Int)+-1=l.length from Int.add_neg_cancel_right (l.length:Int) 1];rfl
  exact wpAny_getItem_list_neg (iEAAE _ e rfl n rfl) (by decide) (by lia) (by decide) (by rw[e2];simpa using hv) (hQ v s.toks rv)))
theorem pick_rev(items:Array Value)(h:items.size=2∨items.size=3):(slicePick items Option.none Option.none (some (-1))).toList=items.toList.reverse:=by
 unfold slicePick
 rcases h with h|h
 ·have e:sliceRange (sliceBounds Option.none Option.none (some (-1)) items.size).1 (sliceBounds Option.none Option.none (some (-1)) items.size).2.1 (sliceBounds Option.none Option.none (some (-1)) items.size).2.2=[1,0]:=by
   rw[h];decide +kernel
  rw[e]
  obtain⟨l⟩:=items
  obtain⟨a,l,rfl,h1⟩:=len1 (n:=1) h
  obtain⟨b,l,rfl,h2⟩:=len1 (n:=0) h1
  rw[len0 h2];rfl
 ·have e:sliceRange (sliceBounds Option.none Option.none (some (-1)) items.size).1 (sliceBounds Option.none Option.none (some (-1)) items.size).2.1 (sliceBounds Option.none Option.none (some (-1)) items.size).2.2=[2,1,0]:=by
   rw[h];decide +kernel
  rw[e]
  obtain⟨l⟩:=items
  obtain⟨a,l,rfl,h1⟩:=len1 (n:=2) h
  obtain⟨b,l,rfl,h2⟩:=len1 (n:=1) h1
  obtain⟨c,l,rfl,h3⟩:=len1 (n:=0) h2
  rw[len0 h3];rfl
theorem Ev.rev{value st:Expr}{p pos:Pos}(h:Ev G ℓ sc m own value fun a o1=>Ev G ℓ sc m o1 st fun i o2=>i=.int (-1)∧∃ l L,a=.ref l∧o2 l=some (.list L)∧(L.length=2∨L.length=3)∧∀ b,o2 b=Option.none→K (.ref b) (upd o2 b (.list L.reverse))) :
  Ev G ℓ sc m own (.Subscript value (.Slice Option.none Option.none (some st) p) pos) K:=fun A env X s Q E hA O F hQ=>by
 refine wpAny_bind (h A env X s _ E hA O F fun va a o1 s1 k1 S1 O1 r1=>wpAny_bind (wpAny_holding ?_))
 refine wpAny_Slice ?_
 refine wpAny_pure (wpAny_pure ?_)
 refine k1 A env X s1 _ E hA O1 (F.step S1) fun vi i o2 s2 k2 S2 O2 r2=>?_
 refine uAEEAAA k2 ?_;clear k2;rintro rfl l L rfl hl hsz k2
 obtain rfl:=r1.i_ref
 cases r2 with
 |int _ t2=>
 refine wpAny_bind (wpAny_standAt ?_)
 have S3:Step noX o2 o2 s2 {s2 with heap:=s2.heap.push {cls:=.type "slice",data:=.fields #[.none,.none,.int (-1) t2]}}:=⟨(iEE _ s2.toks rfl),fun b o e p V=>⟨push_ext b o e,p⟩⟩
 have O3:Ok G o2 (s2.heap.push {cls:=.type "slice",data:=.fields #[.none,.none,.int (-1) t2]}):=O2.ext push_ext
 obtain⟨⟨it,n,e,r⟩,_⟩:=O3.own l _ hl
 have hlen:=r.length
 rw[Array.length_toList] at hlen
 have hT:Shared.TypeIs {s2 with heap:=s2.heap.push {cls:=.type "slice",data:=.fields #[.none,.none,.int (-1) t2]}} (.ref l) "list":=(iEA _ e rfl)
 refine wpAny_bind ?_
 rw[getitemInPython_of_ne hT.not_modules]
 refine wpAny_bind (wpAny_specialOf hT PySem.F.slot_list_getitem.lookup ?_)
 refine wpAny_pure (wpAny_bind ?_)
 show wpAny _ A (operate [.ref l,.ref s2.heap.objs.size] (getItem (.ref l) (.ref s2.heap.objs.size))) _ E _
 refine wpAny_operating ?_
 have hszl:=sizeLine_eq
 refine wpAny_getItem_list_slice (st:=some (-1)) (iEAAE _ e rfl n rfl) (Heap.IsSliceOf.new ..) .none .none (.int _ _) (by decide) ?_ (by lia)
 have rp:VReps (fz o2) (s2.heap.push {cls:=.type "slice",data:=.fields #[.none,.none,.int (-1) t2]}) (slicePick it Option.none Option.none (some (-1))).toList L.reverse:=by
  rw[pick_rev it (by lia)]
  exact r.reverse
 refine uAA (list_new (s:={s2 with heap:=s2.heap.push {cls:=.type "slice",data:=.fields #[.none,.none,.int (-1) t2]}}) O3 rp) fun h0 S4 O4=>?_
 refine wpAny_bind (wpAny_letTemporaryGo (wpAny_pure ?_))
 exact hQ _ _ _ _ (k2 _ h0) (((S1.trans S2).trans S3).trans S4) O4 (.ref _)
theorem Ev.callKw{x:Str}{p pos:Pos}{e ke:Expr}{k:Str}{kp:Pos}{id:String}(h:Ev G ℓ sc m own (.Name x p) fun fv o1=>fv=.bi id∧Ev G ℓ sc m o1 e fun a o2=>Ev G ℓ sc m o2 ke fun kv o3=>KCal G ℓ o3 (.bi id) [a] k kv K)
  (hns:autoParam (∀ env,backTo pos (starEach [e] env)=[(false,eval e env)]) sI):Ev G ℓ sc m own (.Call (.Name x p) [e] [⟨some k,ke,kp⟩] pos) K:=fun A env X s Q E hA O F hQ=>by
 show wpAny _ A (do let f ← eval (.Name x p) env;callWith pos f [] (backTo pos (starEach [e] env)) (backToKw pos (keywordEach [⟨some k,ke,kp⟩] env))) Q E s
 refine wpAny_bind (h A env X s _ E hA O F fun fv av o1 s1 k1 S1 O1 r1=>?_)
 obtain⟨rfl,k1⟩:=k1
 obtain rfl:=r1.i_bi
 refine callWith_kw ?_ (hns env) (by rw[hns env];rfl)
 rw[hns env]
 refine Calls.spliced_cons (k1 A env X s1 _ E hA O1 (F.step S1) fun va a o2 s2 k2 S2 O2 r2=>Calls.spliced_nil ?_)
 refine kws_cons (k2 A env X s2 _ E hA O2 ((F.step S1).step S2) fun vk kv o3 s3 k3 S3 O3 r3=>kws_nil ?_)
 exact k3 A s3 (.builtin id) [va] vk Q E hA O3 (.bi _) (.cons (r2.step S3) .nil) r3 fun v av o4 s4 k4 S4 O4 r4=>hQ v av o4 s4 k4 (((S1.trans S2).trans S3).trans S4) O4 r4
theorem Ex.setattr2{o1 o2 value:Expr}{n1 n2:Str}{p1 p2 tpos pos:Pos}{k:Nat}{K:AF→MM→Own→Prop}
  (h:Ev G ℓ sc m own value fun av w1=>∃ a b,av=.tup [a,b]∧Ev G ℓ sc m w1 o1 fun ov w2=>∃ x C d c,ov=.ref x∧w2 x=some (.inst C d)∧w2 d=some (.ns c)∧Cls G.w.params C∧noAttr G.w.params C n1∧n1∈attrNames∧
   Ev G ℓ sc m (upd w2 d (.ns (mset c n1 a))) o2 fun ov2 w3=>∃ x2 C2 d2 c2,ov2=.ref x2∧w3 x2=some (.inst C2 d2)∧w3 d2=some (.ns c2)∧Cls G.w.params C2∧noAttr G.w.params C2 n2∧n2∈attrNames∧K .nxt m (upd w3 d2 (.ns (mset c2 n2 b))))
  (hs:autoParam (∀ env,swapsWithSole [.Tuple [.Attribute o1 n1 p1,.Attribute o2 n2 p2] k tpos] value pos.line env=pure false) sI) (hw:autoParam (∀ env,swappedStores [.Tuple [.Attribute o1 n1 p1,.Attribute o2 n2 p2] k tpos] value env=pure Option.none) sI) :
  Ex G ℓ sc m own (.Assign [.Tuple [.Attribute o1 n1 p1,.Attribute o2 n2 p2] k tpos] value pos) K:=fun A env X s Q E hA O F hQ=>by
 refine Assign_Tuple (h A env X s _ E hA O F fun v av w1 s1 k1 S1 O1 r1=>?_) (hs env) (hw env)
 refine uEEA k1 ?_;clear k1;rintro a b rfl k1
 cases r1 with
 |@tup T items n _ pT ho hi=>
 refine uEEAA hi.two fun u w e ru rw'=>?_
 have hsz:items.size=2:=by rw[← Array.length_toList,e];rfl
 refine wpAny_assign_Tuple hA.handled (iEAAE _ ho rfl _ rfl) (by rw[hsz];rfl) rfl fun h' hx=>?_
 have S2:Step noX w1 w1 s1 {s1 with heap:=h'}:=⟨(iEE _ s1.toks rfl),fun b o e' p V=>⟨ext_of_but hx b o e',p⟩⟩
 have O2:Ok G w1 h':=O1.ext (ext_of_but hx)
 rw[e]
 show wpAny _ A (do holding [w] (PySem.assign (.Attribute o1 n1 p1) env u);do holding [] (PySem.assign (.Attribute o2 n2 p2) env w);pure ()) _ E _
 refine wpAny_bind (wpAny_holding ?_)
 show wpAny _ A (do let ov ← holding [u] (eval o1 env);standAt p1.atName;holding [u,ov] (setAttr ov n1 u);release [u,ov] []) _ E _
 refine wpAny_bind (wpAny_holding (k1 A env X {s1 with heap:=h'} _ E hA O2 ((F.step S1).step S2) fun ov av2 w2 s2 k2 S3 O3 r2=>wpAny_bind (wpAny_standAt (wpAny_bind (wpAny_holding ?_)))))
 refine uEEEEAAAAAA k2 ?_;clear k2;rintro x C d c rfl hx1 hd1 hC1 hn1 hat1 k2
 obtain rfl:=r2.i_ref
 refine set_attr O3 hx1 hd1 hC1 hn1 hat1 ((ru.step S2).step S3) fun s3 S4 O4=>wpAny_release ?_
 have F4:=(((F.step S1).step S2).step S3).step S4
 refine wpAny_bind (wpAny_holding ?_)
 show wpAny _ A (do let ov ← holding [w] (eval o2 env);standAt p2.atName;holding [w,ov] (setAttr ov n2 w);release [w,ov] []) _ E _
 refine wpAny_bind (wpAny_holding (k2 A env X s3 _ E hA O4 F4 fun ov2 av3 w3 s4 k3 S5 O5 r3=>wpAny_bind (wpAny_standAt (wpAny_bind (wpAny_holding ?_)))))
 refine uEEEEAAAAAA k3 ?_;clear k3;rintro x2 C2 d2 c2 rfl hx2 hd2 hC2 hn2 hat2 k3
 obtain rfl:=r3.i_ref
 refine set_attr O5 hx2 hd2 hC2 hn2 hat2 ((((rw'.step S2).step S3).step S4).step S5) fun s5 S6 O6=>wpAny_release (wpAny_pure ?_)
 exact hQ _ .nxt _ _ s5 k3 ((((((S1.trans S2).trans S3).trans S4).trans S5).trans S6).weak) O6 ((F4.step S5).step S6) trivial
end
noncomputable def fnBody:Stmt→List Stmt
 |.FunctionDef (body:=b) ..=>b
 |_=>[]
noncomputable def fdGet(P:Params)(a:Addr):FuncData:=(fdAt P a).getD default
theorem bind1{fd:FuncData}{x:Str}(h:∀ a,bindArgs fd ⟨[a],[]⟩=pure [(x,a)]):∀ vs:List Value,vs.length=[x].length→bindArgs fd ⟨vs,[]⟩=pure ([x].zip vs):=fun vs hv=>by
 obtain⟨a,vs,rfl,h1⟩:=len1 hv
 rw[len0 h1];exact h a
theorem bind2{fd:FuncData}{x y:Str}(h:∀ a b,bindArgs fd ⟨[a,b],[]⟩=pure [(x,a),(y,b)]):∀ vs:List Value,vs.length=[x,y].length→bindArgs fd ⟨vs,[]⟩=pure ([x,y].zip vs):=fun vs hv=>by
 obtain⟨a,vs,rfl,h1⟩:=len1 hv
 obtain⟨b,vs,rfl,h2⟩:=len1 h1
 rw[len0 h2];exact h a b
theorem bind3{fd:FuncData}{x y z:Str}(h:∀ a b c,bindArgs fd ⟨[a,b,c],[]⟩=pure [(x,a),(y,b),(z,c)]):∀ vs:List Value,vs.length=[x,y,z].length→bindArgs fd ⟨vs,[]⟩=pure ([x,y,z].zip vs):=fun vs hv=>by
 obtain⟨a,vs,rfl,h1⟩:=len1 hv
 obtain⟨b,vs,rfl,h2⟩:=len1 h1
 obtain⟨c,vs,rfl,h3⟩:=len1 h2
 rw[len0 h3];exact h a b c
theorem bind4{fd:FuncData}{x y z u:Str}(h:∀ a b c d,bindArgs fd ⟨[a,b,c,d],[]⟩=pure [(x,a),(y,b),(z,c),(u,d)]):∀ vs:List Value,vs.length=[x,y,z,u].length→bindArgs fd ⟨vs,[]⟩=pure ([x,y,z,u].zip vs):=fun vs hv=>by
 obtain⟨a,vs,rfl,h1⟩:=len1 hv
 obtain⟨b,vs,rfl,h2⟩:=len1 h1
 obtain⟨c,vs,rfl,h3⟩:=len1 h2
 obtain⟨d,vs,rfl,h4⟩:=len1 h3
 rw[len0 h4];exact h a b c d
noncomputable def fdSay(P:Params)(a:Addr):Option FuncBody × List (Str × Addr) × Names × Bool × Bool × Bool × ScopeKind × Addr × Addr:=
 ((fdAt P a).map (·.body),(fdGet P a).closure,(fdGet P a).scope.names,codeIn (KF P) (fdGet P a).code (fdGet P a).qualname,(fdGet P a).scope.isCoroutine,(fdGet P a).scope.isGenerator,(fdGet P a).scope.kind,(fdGet P a).globals,(fdGet P a).builtins)
theorem Def.make{P:Params}{a:Addr}{ps:List Str}{sc:Names}{body:List Stmt}(hb:∀ vs:List Value,vs.length=ps.length→bindArgs (fdGet P a) ⟨vs,[]⟩=pure (ps.zip vs))(h:fdSay P a=(some (.stmts body),[],sc,true,false,false,.function,mainGlobals,builtinsNs))
  (h5:(ps.all (fun x=>stOk sc x)&&sc.all (fun p=>p.2 != .free))=true):Def P a ps sc body:=by
 simp only[fdSay,Prod.mk.injEq] at h
 rw[Bool.and_eq_true] at h5
 refine uAAAAAAAA h ?_;clear h;rintro h1 h2 h3 h4 h6 h7 h8 h9 h10
 refine uEA (Option.map_eq_some_iff.mp h1) fun fd e e1=>?_
 have g:fdGet P a=fd:=by unfold fdGet;rw[e];rfl
 subst g
 exact⟨(iEAAAAAAAAAA _ e h3 e1 h2 h4 hb h6 h7 h8 h9 h10),fun x hx=>List.all_eq_true.mp h5.1 x hx,fun n x hx=>cells_in (.inl (lookup_mem hx)),fun x hx=>by
  have:=List.all_eq_true.mp h5.2 _ (lookup_mem hx)
  simp at this⟩
noncomputable abbrev sc_is_op:Names:=[("text",.local)]
theorem def_is_op(P:Params):Def P 79 ["text"] sc_is_op (fnBody (top 6)):=Def.make (bind1 (by intros;kernel_rfl)) (by kernel_rfl) (by kernel_rfl)
noncomputable abbrev sc_is_variable:Names:=[("t",.local),("len",.globalImplicit)]
theorem def_is_variable(P:Params):Def P 86 ["t"] sc_is_variable (fnBody (top 7)):=Def.make (bind1 (by intros;kernel_rfl)) (by kernel_rfl) (by kernel_rfl)
noncomputable abbrev sc_size:Names:=[("t",.local),("sum",.globalImplicit)]
theorem def_size(P:Params):Def P 91 ["t"] sc_size (fnBody (top 8)):=Def.make (bind1 (by intros;kernel_rfl)) (by kernel_rfl) (by kernel_rfl)
noncomputable abbrev sc_placed:Names:=[("pattern",.local),("table",.cell),("is_variable",.globalImplicit),("tuple",.globalImplicit),("TermFault",.globalImplicit)]
theorem def_placed(P:Params):Def P 96 ["pattern","table"] sc_placed (fnBody (top 9)):=Def.make (bind2 (by intros;kernel_rfl)) (by kernel_rfl) (by kernel_rfl)
noncomputable abbrev sc_parts:Names:=[("t",.local),("found",.local),("k",.cell),("kid",.local),("enumerate",.globalImplicit),("parts",.globalImplicit)]
theorem def_parts(P:Params):Def P 101 ["t"] sc_parts (fnBody (top 10)):=Def.make (bind1 (by intros;kernel_rfl)) (by kernel_rfl) (by kernel_rfl)
noncomputable abbrev sc_matched:Names:=[("pattern",.local),("t",.local),("table",.local),("waiting",.local),("here",.local),("there",.local),("len",.globalImplicit),("is_variable",.globalImplicit),("zip",.globalImplicit)]
theorem def_matched(P:Params):Def P 108 ["pattern","t"] sc_matched (fnBody (top 11)):=Def.make (bind2 (by intros;kernel_rfl)) (by kernel_rfl) (by kernel_rfl)
noncomputable abbrev sc_key_of:Names:=[("t",.local),("some",.local),("parts",.globalImplicit),("len",.globalImplicit),("tuple",.globalImplicit)]
theorem def_key_of(P:Params):Def P 113 ["t"] sc_key_of (fnBody (top 12)):=Def.make (bind1 (by intros;kernel_rfl)) (by kernel_rfl) (by kernel_rfl)
noncomputable abbrev sc_Bank_init:Names:=[("self",.local)]
theorem def_Bank_init(P:Params):Def P 127 ["self"] sc_Bank_init (fnBody (meth 13 0)):=Def.make (bind1 (by intros;kernel_rfl)) (by kernel_rfl) (by kernel_rfl)
noncomputable abbrev sc_Bank_take:Names:=[("self",.cell),("op",.local),("kids",.local),("node",.local),("kid",.local),("tuple",.globalImplicit),("len",.globalImplicit),("TermFault",.globalImplicit),("sum",.globalImplicit),("max",.globalImplicit)]
theorem def_Bank_take(P:Params):Def P 139 ["self","op","kids"] sc_Bank_take (fnBody (meth 13 2)):=Def.make (bind3 (by intros;kernel_rfl)) (by kernel_rfl) (by kernel_rfl)
noncomputable abbrev sc_Bank_require:Names:=[("self",.local),("op",.local),("is_op",.globalImplicit),("TermFault",.globalImplicit)]
theorem def_Bank_require(P:Params):Def P 146 ["self","op"] sc_Bank_require (fnBody (meth 13 3)):=Def.make (bind2 (by intros;kernel_rfl)) (by kernel_rfl) (by kernel_rfl)
noncomputable abbrev sc_Bank_op:Names:=[("self",.local),("n",.local)]
theorem def_Bank_op(P:Params):Def P 172 ["self","n"] sc_Bank_op (fnBody (meth 13 7)):=Def.make (bind2 (by intros;kernel_rfl)) (by kernel_rfl) (by kernel_rfl)
noncomputable abbrev sc_Bank_kids:Names:=[("self",.local),("n",.local)]
theorem def_Bank_kids(P:Params):Def P 179 ["self","n"] sc_Bank_kids (fnBody (meth 13 8)):=Def.make (bind2 (by intros;kernel_rfl)) (by kernel_rfl) (by kernel_rfl)
noncomputable abbrev sc_common:Names:=[("one",.local),("other",.local),("common_of",.globalImplicit)]
theorem def_common(P:Params):Def P 226 ["one","other"] sc_common (fnBody (top 16)):=Def.make (bind2 (by intros;kernel_rfl)) (by kernel_rfl) (by kernel_rfl)
noncomputable abbrev sc_common_of:Names:=[("terms",.local),("common_at",.globalImplicit),("tuple",.globalImplicit)]
theorem def_common_of(P:Params):Def P 233 ["terms"] sc_common_of (fnBody (top 17)):=Def.make (bind1 (by intros;kernel_rfl)) (by kernel_rfl) (by kernel_rfl)
noncomputable abbrev sc_common_at:Names:=[("terms",.cell),("names",.cell),("heads",.cell),("columns",.local),("range",.globalImplicit),("len",.globalImplicit),("tuple",.globalImplicit)]
theorem def_common_at(P:Params):Def P 238 ["terms","names"] sc_common_at (fnBody (top 18)):=Def.make (bind2 (by intros;kernel_rfl)) (by kernel_rfl) (by kernel_rfl)
noncomputable abbrev sc_is_covered:Names:=[("narrow",.local),("wide",.local),("matched",.globalImplicit)]
theorem def_is_covered(P:Params):Def P 245 ["narrow","wide"] sc_is_covered (fnBody (top 19)):=Def.make (bind2 (by intros;kernel_rfl)) (by kernel_rfl) (by kernel_rfl)
noncomputable abbrev sc_named:Names:=[("pattern",.local),("names",.cell),("len",.globalImplicit),("tuple",.globalImplicit)]
theorem def_named(P:Params):Def P 250 ["pattern","names"] sc_named (fnBody (top 20)):=Def.make (bind2 (by intros;kernel_rfl)) (by kernel_rfl) (by kernel_rfl)
noncomputable abbrev sc_HC_init:Names:=[("self",.local),("heap",.local)]
theorem def_HC_init(P:Params):Def P 264 ["self","heap"] sc_HC_init (fnBody (meth 21 0)):=Def.make (bind2 (by intros;kernel_rfl)) (by kernel_rfl) (by kernel_rfl)
noncomputable abbrev sc_HC_common:Names:=[("self",.local),("a",.local),("b",.local),("most",.local),("found",.local),("size",.local),("pattern",.local),("some",.cell),("range",.globalImplicit),("named",.globalImplicit),("sorted",.globalImplicit),("key_of",.globalImplicit)]
theorem def_HC_common(P:Params):Def P 269 ["self","a","b","most"] sc_HC_common (fnBody (meth 21 1)):=Def.make (bind4 (by intros;kernel_rfl)) (by kernel_rfl) (by kernel_rfl)
noncomputable abbrev sc_HC_limited:Names:=[("self",.local),("found",.local),("len",.globalImplicit),("MOST_PATTERNS",.globalImplicit),("LimitFault",.globalImplicit)]
theorem def_HC_limited(P:Params):Def P 276 ["self","found"] sc_HC_limited (fnBody (meth 21 2)):=Def.make (bind2 (by intros;kernel_rfl)) (by kernel_rfl) (by kernel_rfl)
noncomputable abbrev sc_HC_shared:Names:=[("self",.local),("a",.local),("b",.local),("size",.local),("key",.local),("found",.local),("node",.local),("other",.local),("kids",.local),("len",.globalImplicit),("sorted",.globalImplicit)]
theorem def_HC_shared(P:Params):Def P 283 ["self","a","b","size"] sc_HC_shared (fnBody (meth 21 3)):=Def.make (bind4 (by intros;kernel_rfl)) (by kernel_rfl) (by kernel_rfl)
noncomputable abbrev sc_HC_spread:Names:=[("self",.local),("some",.local),("others",.local),("size",.local),("key",.local),("found",.local),("first",.local),("late",.local),("pattern",.cell),("len",.globalImplicit),("range",.globalImplicit)]
theorem def_HC_spread(P:Params):Def P 288 ["self","some","others","size"] sc_HC_spread (fnBody (meth 21 4)):=Def.make (bind4 (by intros;kernel_rfl)) (by kernel_rfl) (by kernel_rfl)
noncomputable abbrev sc_Un_init:Names:=[("self",.local)]
theorem def_Un_init(P:Params):Def P 309 ["self"] sc_Un_init (fnBody (meth 23 0)):=Def.make (bind1 (by intros;kernel_rfl)) (by kernel_rfl) (by kernel_rfl)
noncomputable abbrev sc_Un_make:Names:=[("self",.local),("len",.globalImplicit)]
theorem def_Un_make(P:Params):Def P 316 ["self"] sc_Un_make (fnBody (meth 23 1)):=Def.make (bind1 (by intros;kernel_rfl)) (by kernel_rfl) (by kernel_rfl)
noncomputable abbrev sc_Un_size:Names:=[("self",.local),("len",.globalImplicit)]
theorem def_Un_size(P:Params):Def P 323 ["self"] sc_Un_size (fnBody (meth 23 2)):=Def.make (bind1 (by intros;kernel_rfl)) (by kernel_rfl) (by kernel_rfl)
noncomputable abbrev sc_Un_find:Names:=[("self",.local),("a",.local)]
theorem def_Un_find(P:Params):Def P 330 ["self","a"] sc_Un_find (fnBody (meth 23 3)):=Def.make (bind2 (by intros;kernel_rfl)) (by kernel_rfl) (by kernel_rfl)
noncomputable abbrev sc_Un_members:Names:=[("self",.local),("a",.local),("sorted",.globalImplicit)]
theorem def_Un_members(P:Params):Def P 344 ["self","a"] sc_Un_members (fnBody (meth 23 5)):=Def.make (bind2 (by intros;kernel_rfl)) (by kernel_rfl) (by kernel_rfl)
noncomputable abbrev sc_Heap_init:Names:=[("self",.local),("Bank",.globalImplicit),("Unions",.globalImplicit)]
theorem def_Heap_init(P:Params):Def P 391 ["self"] sc_Heap_init (fnBody (meth 25 0)):=Def.make (bind1 (by intros;kernel_rfl)) (by kernel_rfl) (by kernel_rfl)
noncomputable abbrev sc_Heap_node:Names:=[("self",.cell),("n",.local),("tuple",.globalImplicit)]
theorem def_Heap_node(P:Params):Def P 403 ["self","n"] sc_Heap_node (fnBody (meth 25 2)):=Def.make (bind2 (by intros;kernel_rfl)) (by kernel_rfl) (by kernel_rfl)
noncomputable abbrev sc_Heap_add:Names:=[("self",.cell),("op",.local),("numbers",.local),("n",.local),("c",.local),("sorted",.globalImplicit),("set",.globalImplicit)]
theorem def_Heap_add(P:Params):Def P 408 ["self","op","numbers"] sc_Heap_add (fnBody (meth 25 3)):=Def.make (bind3 (by intros;kernel_rfl)) (by kernel_rfl) (by kernel_rfl)
noncomputable abbrev sc_Heap_put:Names:=[("self",.cell),("term",.local),("tuple",.globalImplicit)]
theorem def_Heap_put(P:Params):Def P 413 ["self","term"] sc_Heap_put (fnBody (meth 25 4)):=Def.make (bind2 (by intros;kernel_rfl)) (by kernel_rfl) (by kernel_rfl)
noncomputable abbrev sc_Heap_look_at:Names:=[("self",.local),("n",.local),("other",.local)]
theorem def_Heap_look_at(P:Params):Def P 420 ["self","n"] sc_Heap_look_at (fnBody (meth 25 5)):=Def.make (bind2 (by intros;kernel_rfl)) (by kernel_rfl) (by kernel_rfl)
noncomputable abbrev sc_Heap_find:Names:=[("self",.local),("n",.local)]
theorem def_Heap_find(P:Params):Def P 427 ["self","n"] sc_Heap_find (fnBody (meth 25 6)):=Def.make (bind2 (by intros;kernel_rfl)) (by kernel_rfl) (by kernel_rfl)
noncomputable abbrev sc_Heap_members:Names:=[("self",.local),("c",.local)]
theorem def_Heap_members(P:Params):Def P 476 ["self","c"] sc_Heap_members (fnBody (meth 25 13)):=Def.make (bind2 (by intros;kernel_rfl)) (by kernel_rfl) (by kernel_rfl)
noncomputable abbrev sc_Heap_nodes_of:Names:=[("self",.cell),("c",.local),("sorted",.globalImplicit),("set",.globalImplicit)]
theorem def_Heap_nodes_of(P:Params):Def P 481 ["self","c"] sc_Heap_nodes_of (fnBody (meth 25 14)):=Def.make (bind2 (by intros;kernel_rfl)) (by kernel_rfl) (by kernel_rfl)
noncomputable abbrev sc_law_pick:Names:=[("hand",.local),("many",.local),("len",.globalImplicit)]
theorem def_law_pick(P:Params):Def P 514 ["hand","many"] sc_law_pick (fnBody (top 27)):=Def.make (bind2 (by intros;kernel_rfl)) (by kernel_rfl) (by kernel_rfl)
noncomputable abbrev sc_law_hand:Names:=[("script",.local),("cells",.local),("sum",.globalImplicit)]
theorem def_law_hand(P:Params):Def P 519 ["script"] sc_law_hand (fnBody (top 28)):=Def.make (bind1 (by intros;kernel_rfl)) (by kernel_rfl) (by kernel_rfl)
noncomputable abbrev sc_law_term:Names:=[("hand",.cell),("floors",.cell),("way",.local),("many",.local),("_law_pick",.globalImplicit),("tuple",.globalImplicit),("range",.globalImplicit)]
theorem def_law_term(P:Params):Def P 524 ["hand","floors"] sc_law_term (fnBody (top 29)):=Def.make (bind2 (by intros;kernel_rfl)) (by kernel_rfl) (by kernel_rfl)
noncomputable abbrev sc_law_bent:Names:=[("hand",.cell),("t",.local),("late",.local),("len",.globalImplicit),("_law_pick",.globalImplicit),("_law_term",.globalImplicit),("tuple",.globalImplicit)]
theorem def_law_bent(P:Params):Def P 529 ["hand","t"] sc_law_bent (fnBody (top 30)):=Def.make (bind2 (by intros;kernel_rfl)) (by kernel_rfl) (by kernel_rfl)
noncomputable abbrev sc_law_shared:Names:=[("rows",.local),("known",.cell),("heads",.local),("len",.globalImplicit),("str",.globalImplicit),("tuple",.globalImplicit),("zip",.globalImplicit)]
theorem def_law_shared(P:Params):Def P 534 ["rows","known"] sc_law_shared (fnBody (top 31)):=Def.make (bind2 (by intros;kernel_rfl)) (by kernel_rfl) (by kernel_rfl)
noncomputable abbrev sc_law_fits:Names:=[("wide",.local),("narrow",.local),("bound",.cell),("len",.globalImplicit),("zip",.globalImplicit)]
theorem def_law_fits(P:Params):Def P 539 ["wide","narrow","bound"] sc_law_fits (fnBody (top 32)):=Def.make (bind3 (by intros;kernel_rfl)) (by kernel_rfl) (by kernel_rfl)
noncomputable abbrev sc_law_joined:Names:=[("pattern",.local),("one",.cell),("other",.cell),("tuple",.globalImplicit)]
theorem def_law_joined(P:Params):Def P 544 ["pattern","one","other"] sc_law_joined (fnBody (top 33)):=Def.make (bind3 (by intros;kernel_rfl)) (by kernel_rfl) (by kernel_rfl)
end
section
variable(G:GC)
theorem Glb.ref{G:GC}{x:Str}{a:Addr}(h:nsIn (KF G.w.params) mainGlobals x=some (some (.ref a))):Glb G x (.ref a):=⟨_,.inl h,fun V V=>.ref a⟩
theorem Glb.bi{G:GC}{x:Str}{id:String}(h:nsIn (KF G.w.params) mainGlobals x=some Option.none)(h2:bootBuiltins x=some (.builtin id))(h3:x≠"__name__"):Glb G x (.bi id):=⟨_,.inr ⟨h,(G.bb x h3).trans h2⟩,fun V V=>.bi id⟩
theorem Glb.ty{G:GC}{x:Str}{id:String}(h:nsIn (KF G.w.params) mainGlobals x=some Option.none)(h2:bootBuiltins x=some (.type id))(h3:x≠"__name__"):Glb G x (.ty id):=⟨_,.inr ⟨h,(G.bb x h3).trans h2⟩,fun V V=>.ty id⟩
theorem g_is_op:Glb G "is_op" (.ref 79):=Glb.ref (by kernel_rfl)
theorem g_is_variable:Glb G "is_variable" (.ref 86):=Glb.ref (by kernel_rfl)
theorem g_size:Glb G "size" (.ref 91):=Glb.ref (by kernel_rfl)
theorem g_placed:Glb G "placed" (.ref 96):=Glb.ref (by kernel_rfl)
theorem g_parts:Glb G "parts" (.ref 101):=Glb.ref (by kernel_rfl)
theorem g_matched:Glb G "matched" (.ref 108):=Glb.ref (by kernel_rfl)
theorem g_key_of:Glb G "key_of" (.ref 113):=Glb.ref (by kernel_rfl)
theorem g_common:Glb G "common" (.ref 226):=Glb.ref (by kernel_rfl)
theorem g_common_of:Glb G "common_of" (.ref 233):=Glb.ref (by kernel_rfl)
theorem g_common_at:Glb G "common_at" (.ref 238):=Glb.ref (by kernel_rfl)
theorem g_is_covered:Glb G "is_covered" (.ref 245):=Glb.ref (by kernel_rfl)
theorem g_named:Glb G "named" (.ref 250):=Glb.ref (by kernel_rfl)
theorem g_law_pick:Glb G "_law_pick" (.ref 514):=Glb.ref (by kernel_rfl)
theorem g_law_hand:Glb G "_law_hand" (.ref 519):=Glb.ref (by kernel_rfl)
theorem g_law_term:Glb G "_law_term" (.ref 524):=Glb.ref (by kernel_rfl)
theorem g_law_bent:Glb G "_law_bent" (.ref 529):=Glb.ref (by kernel_rfl)
theorem g_law_shared:Glb G "_law_shared" (.ref 534):=Glb.ref (by kernel_rfl)
theorem g_law_fits:Glb G "_law_fits" (.ref 539):=Glb.ref (by kernel_rfl)
theorem g_law_joined:Glb G "_law_joined" (.ref 544):=Glb.ref (by kernel_rfl)
theorem g_Bank:Glb G "Bank" (.ref 215):=Glb.ref (by kernel_rfl)
theorem g_HeapCommon:Glb G "HeapCommon" (.ref 291):=Glb.ref (by kernel_rfl)
theorem g_Unions:Glb G "Unions" (.ref 373):=Glb.ref (by kernel_rfl)
theorem g_Heap:Glb G "Heap" (.ref 503):=Glb.ref (by kernel_rfl)
theorem g_MOST:Glb G "MOST_PATTERNS" (.int 2000):=⟨.int 2000 450,.inl (by kernel_rfl),fun V V=>.int _ _⟩
theorem g_len:Glb G "len" (.bi "len"):=Glb.bi (by kernel_rfl) (by kernel_rfl) (by decide)
theorem g_sum:Glb G "sum" (.bi "sum"):=Glb.bi (by kernel_rfl) (by kernel_rfl) (by decide)
theorem g_sorted:Glb G "sorted" (.bi "sorted"):=Glb.bi (by kernel_rfl) (by kernel_rfl) (by decide)
theorem g_max:Glb G "max" (.bi "max"):=Glb.bi (by kernel_rfl) (by kernel_rfl) (by decide)
theorem g_abs:Glb G "abs" (.bi "abs"):=Glb.bi (by kernel_rfl) (by kernel_rfl) (by decide)
theorem g_tuple:Glb G "tuple" (.ty "tuple"):=Glb.ty (by kernel_rfl) (by kernel_rfl) (by decide)
theorem g_range:Glb G "range" (.ty "range"):=Glb.ty (by kernel_rfl) (by kernel_rfl) (by decide)
theorem g_set:Glb G "set" (.ty "set"):=Glb.ty (by kernel_rfl) (by kernel_rfl) (by decide)
theorem g_str:Glb G "str" (.ty "str"):=Glb.ty (by kernel_rfl) (by kernel_rfl) (by decide)
theorem g_enumerate:Glb G "enumerate" (.ty "enumerate"):=Glb.ty (by kernel_rfl) (by kernel_rfl) (by decide)
theorem g_zip:Glb G "zip" (.ty "zip"):=Glb.ty (by kernel_rfl) (by kernel_rfl) (by decide)
theorem cls_Bank(P:Params):Cls P 215:=⟨by kernel_rfl,by kernel_rfl,by kernel_rfl,by kernel_rfl⟩
theorem me_Bank_take(P:Params):findIn (KF P) (.ref 215) "take"=some (some (.ref 139))∧isFn (KF P) (.ref 139)=true∧keepIn (KF P) (.ref 139)=true:=(iAA (by kernel_rfl) (by kernel_rfl) (by kernel_rfl))
theorem me_Bank_require(P:Params):findIn (KF P) (.ref 215) "require"=some (some (.ref 146))∧isFn (KF P) (.ref 146)=true∧keepIn (KF P) (.ref 146)=true:=(iAA (by kernel_rfl) (by kernel_rfl) (by kernel_rfl))
theorem me_Bank_op(P:Params):findIn (KF P) (.ref 215) "op"=some (some (.ref 172))∧isFn (KF P) (.ref 172)=true∧keepIn (KF P) (.ref 172)=true:=(iAA (by kernel_rfl) (by kernel_rfl) (by kernel_rfl))
theorem me_Bank_kids(P:Params):findIn (KF P) (.ref 215) "kids"=some (some (.ref 179))∧isFn (KF P) (.ref 179)=true∧keepIn (KF P) (.ref 179)=true:=(iAA (by kernel_rfl) (by kernel_rfl) (by kernel_rfl))
theorem in_Bank(P:Params):makesIn (KF P) 215=true∧findIn (KF P) (.ref 215) "__init__"=some (some (.ref 127))∧typeIn (KF P) (.ref 127)=some (.type "function"):=(iAA (by kernel_rfl) (by kernel_rfl) (by kernel_rfl))
theorem no_Bank_nodes(P:Params):noAttr P 215 "nodes":=by unfold noAttr;kernel_rfl
theorem no_Bank_numbers(P:Params):noAttr P 215 "numbers":=by unfold noAttr;kernel_rfl
theorem no_Bank_weights(P:Params):noAttr P 215 "weights":=by unfold noAttr;kernel_rfl
theorem no_Bank_depths(P:Params):noAttr P 215 "depths":=by unfold noAttr;kernel_rfl
theorem cls_HC(P:Params):Cls P 291:=⟨by kernel_rfl,by kernel_rfl,by kernel_rfl,by kernel_rfl⟩
theorem me_HC_common(P:Params):findIn (KF P) (.ref 291) "common"=some (some (.ref 269))∧isFn (KF P) (.ref 269)=true∧keepIn (KF P) (.ref 269)=true:=(iAA (by kernel_rfl) (by kernel_rfl) (by kernel_rfl))
theorem me_HC_limited(P:Params):findIn (KF P) (.ref 291) "limited"=some (some (.ref 276))∧isFn (KF P) (.ref 276)=true∧keepIn (KF P) (.ref 276)=true:=(iAA (by kernel_rfl) (by kernel_rfl) (by kernel_rfl))
theorem me_HC_shared(P:Params):findIn (KF P) (.ref 291) "shared"=some (some (.ref 283))∧isFn (KF P) (.ref 283)=true∧keepIn (KF P) (.ref 283)=true:=(iAA (by kernel_rfl) (by kernel_rfl) (by kernel_rfl))
theorem me_HC_spread(P:Params):findIn (KF P) (.ref 291) "spread"=some (some (.ref 288))∧isFn (KF P) (.ref 288)=true∧keepIn (KF P) (.ref 288)=true:=(iAA (by kernel_rfl) (by kernel_rfl) (by kernel_rfl))
theorem in_HC(P:Params):makesIn (KF P) 291=true∧findIn (KF P) (.ref 291) "__init__"=some (some (.ref 264))∧typeIn (KF P) (.ref 264)=some (.type "function"):=(iAA (by kernel_rfl) (by kernel_rfl) (by kernel_rfl))
theorem no_HC_heap(P:Params):noAttr P 291 "heap":=by unfold noAttr;kernel_rfl
theorem no_HC_known(P:Params):noAttr P 291 "known":=by unfold noAttr;kernel_rfl
theorem no_HC_rows(P:Params):noAttr P 291 "rows":=by unfold noAttr;kernel_rfl
theorem cls_Un(P:Params):Cls P 373:=⟨by kernel_rfl,by kernel_rfl,by kernel_rfl,by kernel_rfl⟩
theorem me_Un_make(P:Params):findIn (KF P) (.ref 373) "make"=some (some (.ref 316))∧isFn (KF P) (.ref 316)=true∧keepIn (KF P) (.ref 316)=true:=(iAA (by kernel_rfl) (by kernel_rfl) (by kernel_rfl))
theorem me_Un_size(P:Params):findIn (KF P) (.ref 373) "size"=some (some (.ref 323))∧isFn (KF P) (.ref 323)=true∧keepIn (KF P) (.ref 323)=true:=(iAA (by kernel_rfl) (by kernel_rfl) (by kernel_rfl))
theorem me_Un_find(P:Params):findIn (KF P) (.ref 373) "find"=some (some (.ref 330))∧isFn (KF P) (.ref 330)=true∧keepIn (KF P) (.ref 330)=true:=(iAA (by kernel_rfl) (by kernel_rfl) (by kernel_rfl))
theorem me_Un_members(P:Params):findIn (KF P) (.ref 373) "members"=some (some (.ref 344))∧isFn (KF P) (.ref 344)=true∧keepIn (KF P) (.ref 344)=true:=(iAA (by kernel_rfl) (by kernel_rfl) (by kernel_rfl))
theorem in_Un(P:Params):makesIn (KF P) 373=true∧findIn (KF P) (.ref 373) "__init__"=some (some (.ref 309))∧typeIn (KF P) (.ref 309)=some (.type "function"):=(iAA (by kernel_rfl) (by kernel_rfl) (by kernel_rfl))
theorem no_Un_above(P:Params):noAttr P 373 "above":=by unfold noAttr;kernel_rfl
theorem no_Un_lots(P:Params):noAttr P 373 "lots":=by unfold noAttr;kernel_rfl
theorem no_Un_merged(P:Params):noAttr P 373 "merged":=by unfold noAttr;kernel_rfl
theorem cls_Heap(P:Params):Cls P 503:=⟨by kernel_rfl,by kernel_rfl,by kernel_rfl,by kernel_rfl⟩
theorem me_Heap_node(P:Params):findIn (KF P) (.ref 503) "node"=some (some (.ref 403))∧isFn (KF P) (.ref 403)=true∧keepIn (KF P) (.ref 403)=true:=(iAA (by kernel_rfl) (by kernel_rfl) (by kernel_rfl))
theorem me_Heap_add(P:Params):findIn (KF P) (.ref 503) "add"=some (some (.ref 408))∧isFn (KF P) (.ref 408)=true∧keepIn (KF P) (.ref 408)=true:=(iAA (by kernel_rfl) (by kernel_rfl) (by kernel_rfl))
theorem me_Heap_put(P:Params):findIn (KF P) (.ref 503) "put"=some (some (.ref 413))∧isFn (KF P) (.ref 413)=true∧keepIn (KF P) (.ref 413)=true:=(iAA (by kernel_rfl) (by kernel_rfl) (by kernel_rfl))
theorem me_Heap_look_at(P:Params):findIn (KF P) (.ref 503) "look_at"=some (some (.ref 420))∧isFn (KF P) (.ref 420)=true∧keepIn (KF P) (.ref 420)=true:=(iAA (by kernel_rfl) (by kernel_rfl) (by kernel_rfl))
theorem me_Heap_find(P:Params):findIn (KF P) (.ref 503) "find"=some (some (.ref 427))∧isFn (KF P) (.ref 427)=true∧keepIn (KF P) (.ref 427)=true:=(iAA (by kernel_rfl) (by kernel_rfl) (by kernel_rfl))
theorem me_Heap_members(P:Params):findIn (KF P) (.ref 503) "members"=some (some (.ref 476))∧isFn (KF P) (.ref 476)=true∧keepIn (KF P) (.ref 476)=true:=(iAA (by kernel_rfl) (by kernel_rfl) (by kernel_rfl))
theorem me_Heap_nodes_of(P:Params):findIn (KF P) (.ref 503) "nodes_of"=some (some (.ref 481))∧isFn (KF P) (.ref 481)=true∧keepIn (KF P) (.ref 481)=true:=(iAA (by kernel_rfl) (by kernel_rfl) (by kernel_rfl))
theorem in_Heap(P:Params):makesIn (KF P) 503=true∧findIn (KF P) (.ref 503) "__init__"=some (some (.ref 391))∧typeIn (KF P) (.ref 391)=some (.type "function"):=(iAA (by kernel_rfl) (by kernel_rfl) (by kernel_rfl))
theorem no_Heap_bank(P:Params):noAttr P 503 "bank":=by unfold noAttr;kernel_rfl
theorem no_Heap_unions(P:Params):noAttr P 503 "unions":=by unfold noAttr;kernel_rfl
theorem no_Heap_edges(P:Params):noAttr P 503 "edges":=by unfold noAttr;kernel_rfl
theorem no_Heap_forest(P:Params):noAttr P 503 "forest":=by unfold noAttr;kernel_rfl
theorem no_Heap_known(P:Params):noAttr P 503 "known":=by unfold noAttr;kernel_rfl
theorem no_Heap_above(P:Params):noAttr P 503 "above":=by unfold noAttr;kernel_rfl
theorem no_Heap_waiting(P:Params):noAttr P 503 "waiting":=by unfold noAttr;kernel_rfl
theorem no_Heap_backs(P:Params):noAttr P 503 "backs":=by unfold noAttr;kernel_rfl
end
inductive T where
 |mk (op:Str) (kids:List T)
noncomputable instance:DecidableEq T:=fun a b=>Classical.propDecidable (a=b)
noncomputable def T.op:T→Str
 |.mk o _=>o
theorem T.op_1:∀(o:Str)(kids:List T),T.op (T.mk o kids)=o:=by intros;rfl
noncomputable def T.kids:T→List T
 |.mk _ k=>k
theorem T.kids_1:∀(o:Str)(kids:List T),T.kids (T.mk o kids)=kids:=by intros;rfl
noncomputable def dft:T:=.mk Str.empty []
mutual
noncomputable def T.av:T→AV
 |.mk o ks=>.tup (.str o::T.avs ks)
noncomputable def T.avs:List T→List AV
 |[]=>[]
 |k::ks=>k.av::T.avs ks
end
theorem T.av_1:∀(o:Str)(kids:List T),T.av (T.mk o kids)=AV.tup (AV.str o::T.avs kids):=by intros;rfl
theorem T.avs_1:T.avs []=[]:=by intros;rfl
theorem T.avs_2:∀(k:T)(ks:List T),T.avs (k::ks)=T.av k::T.avs ks:=by intros;rfl
mutual
noncomputable def T.size:T→Nat
 |.mk _ ks=>T.sizes ks+1
noncomputable def T.sizes:List T→Nat
 |[]=>0
 |k::ks=>k.size+T.sizes ks
end
theorem T.size_1:∀(o:Str)(kids:List T),T.size (T.mk o kids)=T.sizes kids+1:=by intros;rfl
theorem T.sizes_1:T.sizes []=0:=by intros;rfl
theorem T.sizes_2:∀(k:T)(ks:List T),T.sizes (k::ks)=T.size k+T.sizes ks:=by intros;rfl
mutual
noncomputable def T.dep:T→Nat
 |.mk _ ks=>T.deps ks+1
noncomputable def T.deps:List T→Nat
 |[]=>0
 |k::ks=>max k.dep (T.deps ks)
end
theorem T.dep_1:∀(o:Str)(kids:List T),T.dep (T.mk o kids)=T.deps kids+1:=by intros;rfl
theorem T.deps_1:T.deps []=0:=by intros;rfl
theorem T.deps_2:∀(k:T)(ks:List T),T.deps (k::ks)=max (T.dep k) (T.deps ks):=by intros;rfl
noncomputable def isV(x:Str):Bool:=decide ((x.cps.toList.take 1)=[63])
noncomputable def opOk(x:Str):Bool:=decide (1≤x.length)&&decide (x.length≤100)&&PyData.strOk x
mutual
noncomputable def T.ok:T→Bool
 |.mk o ks=>opOk o&&(decide (ks.length≤4)&&(!isV o || ks.isEmpty))&&T.oks ks
noncomputable def T.oks:List T→Bool
 |[]=>true
 |k::ks=>k.ok&&T.oks ks
end
theorem T.ok_1:∀(o:Str)(kids:List T),T.ok (T.mk o kids)=(opOk o&&(decide (List.length kids≤4)&&(!isV o || List.isEmpty kids))&&T.oks kids):=by intros;rfl
theorem T.oks_2:∀(k:T)(ks:List T),T.oks (k::ks)=(T.ok k&&T.oks ks):=by intros;rfl
mutual
noncomputable def T.gr:T→Bool
 |.mk o ks=>!isV o&&T.grs ks
noncomputable def T.grs:List T→Bool
 |[]=>true
 |k::ks=>k.gr&&T.grs ks
end
theorem T.gr_1:∀(o:Str)(kids:List T),T.gr (T.mk o kids)=(!isV o&&T.grs kids):=by intros;rfl
theorem T.grs_2:∀(k:T)(ks:List T),T.grs (k::ks)=(T.gr k&&T.grs ks):=by intros;rfl
theorem T.avs_eq:∀ l:List T,T.avs l=l.map T.av
 |[]=>by rw[T.avs_1];rfl
 |k::ks=>by rw[T.avs_2,T.avs_eq ks];rfl
theorem T.avs_len(l:List T):(T.avs l).length=l.length:=by rw[T.avs_eq];simp
theorem T.oks_iff:∀ l:List T,T.oks l=true↔∀ t∈l,t.ok=true
 |[]=>iff_of_true rfl nofun
 |k::ks=>by rw[T.oks_2,Bool.and_eq_true,T.oks_iff ks];simp
theorem T.grs_iff:∀ l:List T,T.grs l=true↔∀ t∈l,t.gr=true
 |[]=>iff_of_true rfl nofun
 |k::ks=>by rw[T.grs_2,Bool.and_eq_true,T.grs_iff ks];simp
theorem T.deps_le:∀{l:List T} {n:Nat},T.deps l≤n↔∀ t∈l,t.dep≤n
 |[],n=>by simp[T.deps_1,T.deps_2]
 |k::ks,n=>by rw[T.deps_2,Nat.max_le,T.deps_le (l:=ks)];simp
theorem T.size_pos(t:T):1≤t.size:=by cases t;rw[T.size_1];lia
theorem T.dep_pos(t:T):1≤t.dep:=by cases t;rw[T.dep_1];lia
theorem T.sizes_mem:∀{l:List T} {t:T},t∈l→t.size≤T.sizes l
 |k::ks,t,h=>by
  rw[T.sizes_2]
  rcases List.mem_cons.mp h with rfl|h
  ·lia
  ·have:=T.sizes_mem h;lia
theorem T.sizes_len:∀ l:List T,l.length≤T.sizes l
 |[]=>by simp
 |k::ks=>by rw[T.sizes_2,List.length_cons];have:=T.sizes_len ks;have:=k.size_pos;lia
mutual
theorem T.av_inj:∀{a b:T},a.av=b.av→a=b
 |.mk o ks,.mk p ls,h=>by
  rw[T.av_1,T.av_1] at h
  injection h with h
  injection h with h1 h2
  injection h1 with h1
  rw[h1,T.avs_inj h2]
theorem T.avs_inj:∀{a b:List T},T.avs a=T.avs b→a=b
 |[],[],_=>rfl
 |[],_::_,h=>by simp[T.avs_1,T.avs_2] at h
 |_::_,[],h=>by simp[T.avs_1,T.avs_2] at h
 |x::xs,y::ys,h=>by
  rw[T.avs_2,T.avs_2] at h
  injection h with h1 h2
  rw[T.av_inj h1,T.avs_inj h2]
end
theorem T.av_iff{a b:T}:a.av=b.av↔a=b:=⟨T.av_inj,fun h=>h▸rfl⟩
theorem opOk_iff{x:Str}(h:opOk x=true):1≤x.length∧x.length≤100∧PyData.strOk x=true:=by
 simp only[opOk,Bool.and_eq_true,decide_eq_true_eq] at h
 exact(iAA h.1.1 h.1.2 h.2)
theorem T.ok_iff{o:Str}{ks:List T}:(T.mk o ks).ok=true↔opOk o=true∧ks.length≤4∧(isV o=true→ks=[])∧∀ k∈ks,k.ok=true:=by
 rw[T.ok_1]
 simp only[Bool.and_eq_true,decide_eq_true_eq,T.oks_iff,Bool.or_eq_true,Bool.not_eq_true',List.isEmpty_iff]
 constructor
 ·rintro⟨⟨h1,h2,h3⟩,h4⟩
  exact(iAAA h1 h2 (fun e=>h3.resolve_left (by rw[e];simp)) h4)
 ·intro hh;refine uAAA hh ?_;clear hh;rintro h1 h2 h3 h4
  refine⟨(iAA h1 h2 ?_),h4⟩
  cases e:isV o
  ·exact .inl rfl
  ·exact .inr (h3 e)
theorem T.gr_iff{o:Str}{ks:List T}:(T.mk o ks).gr=true↔isV o=false∧∀ k∈ks,k.gr=true:=by
 rw[T.gr_1];simp[T.grs_iff]
mutual
theorem T.key_av:∀ t:T,t.ok=true→t.av.key=true
 |.mk o ks,h=>by
  rw[T.ok_iff] at h
  rw[T.av_1,AV.key_3,AV.keys_2,AV.key_2,(opOk_iff h.1).2.2,T.keys_avs ks h.2.2.2];rfl
theorem T.keys_avs:∀ l:List T,(∀ t∈l,t.ok=true)→AV.keys (T.avs l)=true
 |[],_=>by rw[T.avs_1];rfl
 |k::ks,h=>by rw[T.avs_2,AV.keys_2,T.key_av k (h k List.mem_cons_self),T.keys_avs ks fun t ht=>h t (List.mem_cons_of_mem _ ht)];rfl
end
mutual
theorem T.dep_av:∀ t:T,t.av.dep=t.dep
 |.mk o ks=>by
  have e:(AV.str o).dep=0:=rfl
  rw[T.av_1,AV.dep_1,AV.deps_2,e,T.deps_avs ks,T.dep_1];simp
theorem T.deps_avs:∀ l:List T,AV.deps (T.avs l)=T.deps l
 |[]=>by rw[T.avs_1,T.deps_1];rfl
 |k::ks=>by rw[T.avs_2,AV.deps_2,T.dep_av k,T.deps_avs ks,T.deps_2]
end
abbrev Bd:=List (Str × T)
noncomputable def bat(B:Bd)(v:Str):Option T:=(B.find? fun e=>decide (e.1=v)).map (·.2)
noncomputable def bput(B:Bd)(v:Str)(x:T):Bd:=if (bat B v).isSome then B else B++[(v,x)]
theorem bat_app(B:Bd)(v w:Str)(x:T):bat (B++[(v,x)]) w=(bat B w).or (if v=w then some x else none):=by
 unfold bat
 rw[List.find?_append]
 cases B.find? fun e=>decide (e.1=w) with
 |some e=>rfl
 |none=>by_cases h:v=w<;>simp[h]
theorem bat_put(B:Bd)(v w:Str)(x:T):bat (bput B v x) w=if w=v then some ((bat B v).getD x) else bat B w:=by
 unfold bput
 cases h:bat B v with
 |some y=>
  by_cases e:w=v
  ·subst e;simp[h]
  ·simp[e]
 |none=>
  rw[if_neg (by simp),bat_app]
  by_cases e:w=v
  ·subst e;rw[h];simp
  ·rw[if_neg e,if_neg (fun q=>e q.symm)];cases bat B w<;>rfl
def con(l:Bd):Prop:=∀ v x y,(v,x)∈l→(v,y)∈l→x=y
theorem con.sub{l k:Bd}(h:con l)(s:∀ p∈k,p∈l):con k:=fun v x y a b=>h v x y (s _ a) (s _ b)
def Rz(B L:Bd):Prop:=con L∧∀ v x,bat B v=some x↔(v,x)∈L
theorem Rz.nil:Rz [] []:=⟨fun V V V h=>by simp at h,fun v x=>by simp[bat]⟩
theorem Rz.put{B L:Bd}(h:Rz B L)(v:Str)(x:T):(bat (bput B v x) v=some x∧Rz (bput B v x) (L++[(v,x)]))∨(bat (bput B v x) v≠some x∧¬ con (L++[(v,x)])):=by
 rw[bat_put,if_pos rfl]
 cases e:bat B v with
 |none=>
  refine .inl (iAA rfl ?_ (fun w y=>?_))
  ·intro w y z hy hz
   rcases List.mem_append.mp hy with hy|hy<;>rcases List.mem_append.mp hz with hz|hz
   ·exact h.1 w y z hy hz
   ·simp only[List.mem_singleton,Prod.mk.injEq] at hz
    rw[← hz.1,(h.2 _ _).mpr hy] at e;cases e
   ·simp only[List.mem_singleton,Prod.mk.injEq] at hy
    rw[← hy.1,(h.2 _ _).mpr hz] at e;cases e
   ·simp only[List.mem_singleton,Prod.mk.injEq] at hy hz
    rw[hy.2,hz.2]
  ·rw[bat_put,e]
   by_cases q:w=v
   ·subst q
    have n:(w,y)∉L:=fun m=>by rw[(h.2 _ _).mpr m] at e;cases e
    simp[n,eq_comm]
   ·rw[if_neg q,h.2];simp[q]
 |some y=>
  have hy:=(h.2 _ _).mp e
  by_cases q:y=x
  ·subst q
   refine .inl (iAA rfl (h.1.sub fun p hp=>?_) (fun w z=>?_))
   ·rcases List.mem_append.mp hp with hp|hp
    ·exact hp
    ·rw[List.mem_singleton.mp hp];exact hy
   ·rw[bat_put,e]
    by_cases r:w=v
    ·subst r
     rw[if_pos rfl]
     simp only[Option.getD_some,Option.some.injEq,List.mem_append,List.mem_singleton,Prod.mk.injEq,true_and]
     exact⟨fun k=>.inr k.symm,fun k=>k.elim (fun m=>h.1 _ _ _ hy m) fun k=>k.symm⟩
    ·rw[if_neg r,h.2];simp[r]
  ·refine .inr ⟨by simp[q],fun c=>q ?_⟩
   exact c v y x (List.mem_append_left _ hy) (by simp)
mutual
noncomputable def occ:T→T→Option Bd
 |.mk v ks,n=>if isV v=true then some [(v,n)] else if v=n.op∧ks.length=n.kids.length then occs ks n.kids else none
noncomputable def occs:List T→List T→Option Bd
 |[],_=>some []
 |_::_,[]=>none
 |k::ks,n::ns=>match occ k n,occs ks ns with
  |some a,some b=>some (a++b)
  |_,_=>none
end
theorem occ_1:∀(x:T)(v:Str)(ks:List T),occ (T.mk v ks) x=if isV v=true then some [(v,x)] else if v=T.op x∧List.length ks=List.length (T.kids x) then occs ks (T.kids x) else none:=by intros;rfl
theorem occs_1:∀(x:List T),occs [] x=some []:=by intros;rfl
theorem occs_3:∀(k:T)(ks:List T)(n:T)(ns:List T),occs (k::ks) (n::ns)=match occ k n,occs ks ns with|some a,some b=>some (a++b)|x,x_1=>none:=by intros;rfl
mutual
noncomputable def fits:T→T→Bd→Bool × Bd
 |.mk v ks,n,B=>if isV v=true then(decide (bat (bput B v n) v=some n),bput B v n) else if v=n.op∧ks.length=n.kids.length then fitss ks n.kids B else(false,B)
noncomputable def fitss:List T→List T→Bd→Bool × Bd
 |[],_,B=>(true,B)
 |_::_,[],B=>(true,B)
 |k::ks,n::ns,B=>((fits k n B).1&&(fitss ks ns (fits k n B).2).1,(fitss ks ns (fits k n B).2).2)
end
theorem fits_1:∀(x:T)(x_1:Bd)(v:Str)(ks:List T),fits (T.mk v ks) x x_1=if isV v=true then(decide (bat (bput x_1 v x) v=some x),bput x_1 v x) else if v=T.op x∧List.length ks=List.length (T.kids x) then fitss ks (T.kids x) x_1 else(false,x_1):=by intros;rfl
theorem fitss_1:∀(x:List T)(x_1:Bd),fitss [] x x_1=(true,x_1):=by intros;rfl
theorem fitss_2:∀(x:Bd)(head:T)(tail:List T),fitss (head::tail) [] x=(true,x):=by intros;rfl
theorem fitss_3:∀(x:Bd)(k:T)(ks:List T)(n:T)(ns:List T),fitss (k::ks) (n::ns) x=((fits k n x).fst&&(fitss ks ns (fits k n x).snd).fst,(fitss ks ns (fits k n x).snd).snd):=by intros;rfl
mutual
theorem fits_spec:∀(w n:T)(B L:Bd),Rz B L→((fits w n B).1=true→∃ l,occ w n=some l∧Rz (fits w n B).2 (L++l))∧((fits w n B).1=false→∀ l,occ w n=some l→¬ con (L++l))
 |.mk v ks,n,B,L,h=>by
  rw[fits_1,occ_1]
  by_cases hv:isV v=true
  ·simp only[hv,if_true]
   rcases h.put v n with⟨h1,h2⟩|⟨h1,h2⟩
   ·exact⟨fun V=>(iEA _ rfl h2),fun e=>by simp[h1] at e⟩
   ·exact⟨fun e=>by simp[h1] at e,fun V l e=>by cases e;exact h2⟩
  ·simp only[hv,if_false]
   by_cases hh:v=n.op∧ks.length=n.kids.length
   ·simp only[hh,and_self,if_true]
    exact fitss_spec ks n.kids B L hh.2 h
   ·simp only[hh,if_false]
    exact⟨fun e=>by simp at e,fun V l e=>by simp at e⟩
theorem fitss_spec:∀(ks ns:List T)(B L:Bd),ks.length=ns.length→Rz B L→((fitss ks ns B).1=true→∃ l,occs ks ns=some l∧Rz (fitss ks ns B).2 (L++l))∧((fitss ks ns B).1=false→∀ l,occs ks ns=some l→¬ con (L++l))
 |[],[],B,L,_,h=>by
  rw[fitss_1,occs_1]
  exact⟨fun V=>(iEA [] rfl (by simpa using h)),fun e=>by simp at e⟩
 |k::ks,n::ns,B,L,hl,h=>by
  rw[fitss_3,occs_3]
  obtain⟨a1,a2⟩:=fits_spec k n B L h
  cases e:(fits k n B).1 with
  |false=>
   refine⟨fun q=>by simp at q,fun V l q=>?_⟩
   cases e1:occ k n with
   |none=>rw[e1] at q;simp at q
   |some a=>
    rw[e1] at q
    cases e2:occs ks ns with
    |none=>rw[e2] at q;simp at q
    |some b=>
     rw[e2] at q
     simp only[Option.some.injEq] at q
     subst q
     exact fun c=>a2 e a e1 (c.sub fun p hp=>by rcases List.mem_append.mp hp with hp|hp<;>simp[hp])
  |true=>
   refine uEA (a1 e) fun a ea ra=>?_
   obtain⟨b1,b2⟩:=fitss_spec ks ns (fits k n B).2 (L++a) (by simpa using hl) ra
   rw[ea]
   refine⟨fun q=>?_,fun q l r=>?_⟩
   ·refine uEA (b1 q) fun b eb rb=>?_
    rw[eb]
    exact(iEA _ rfl (by rw[← List.append_assoc];exact rb))
   ·cases e2:occs ks ns with
    |none=>rw[e2] at r;simp at r
    |some b=>
     rw[e2] at r
     simp only[Option.some.injEq] at r
     subst r
     rw[← List.append_assoc]
     exact b2 q b e2
end
def Mt(w n:T):Prop:=∃ l,occ w n=some l∧con l
theorem fits_iff(w n:T):(fits w n []).1=true↔Mt w n:=by
 obtain⟨a,b⟩:=fits_spec w n [] [] Rz.nil
 constructor
 ·intro h
  refine uEA (a h) fun l e r=>?_
  exact(iEA l e (by simpa using r.1))
 ·intro hh;refine uEA hh ?_;clear hh;rintro l e c
  cases h:(fits w n []).1 with
  |true=>rfl
  |false=>exact absurd (by simpa using c) (b h l e)
theorem fm_congr{α β:Type}{f g:α→List β}:∀{l:List α},(∀ p∈l,f p=g p)→l.flatMap f=l.flatMap g
 |[],_=>rfl
 |a::l,h=>by rw[List.flatMap_cons,List.flatMap_cons,h a List.mem_cons_self,fm_congr fun p hp=>h p (List.mem_cons_of_mem _ hp)]
def WOk(st:List (T × T))(L:Bd):Prop:=∃ f:T × T→Bd,(∀ p∈st,occ p.1 p.2=some (f p))∧con (L++st.flatMap f)
theorem occs_zip:∀{ks ns:List T},ks.length=ns.length→∀ l,occs ks ns=some l↔(∃ f:T × T→Bd,(∀ p∈ks.zip ns,occ p.1 p.2=some (f p))∧l=(ks.zip ns).flatMap f)
 |[],[],_,l=>by rw[occs_1];simp[eq_comm]
 |k::ks,n::ns,hl,l=>by
  rw[occs_3]
  have ih:=occs_zip (ks:=ks) (ns:=ns) (by simpa using hl)
  have key:∀ p:T × T,∀ x,occ p.1 p.2=some x→(occ p.1 p.2).getD []=x:=fun p x h=>by rw[h];rfl
  constructor
  ·intro h
   cases e1:occ k n with
   |none=>rw[e1] at h;simp at h
   |some a=>
    rw[e1] at h
    cases e2:occs ks ns with
    |none=>rw[e2] at h;simp at h
    |some b=>
     rw[e2] at h
     simp only[Option.some.injEq] at h
     refine uEA ((ih b).mp e2) ?_;rintro f hf rfl
     refine(iEA (fun p=>(occ p.1 p.2).getD []) (fun p hp=>?_) ?_)
     ·simp only[List.zip_cons_cons,List.mem_cons] at hp
      rcases hp with rfl|hp
      ·simp[e1]
      ·simp[hf p hp]
     ·rw[← h,List.zip_cons_cons,List.flatMap_cons]
      simp only[e1,Option.getD_some]
      congr 1
      exact fm_congr fun p hp=>by simp[hf p hp]
  ·intro hh;refine uEA hh ?_;clear hh;rintro f hf rfl
   rw[List.zip_cons_cons] at hf ⊢
   rw[hf (k,n) List.mem_cons_self,(ih ((ks.zip ns).flatMap f)).mpr (iEA f (fun p hp=>hf p (List.mem_cons_of_mem _ hp)) rfl)]
   rfl
theorem WOk.one(w n:T):WOk [(w,n)] []↔Mt w n:=by
 constructor
 ·intro hh;refine uEA hh ?_;clear hh;rintro f h c
  exact(iEA _ (h _ List.mem_cons_self) (by simpa using c))
 ·intro hh;refine uEA hh ?_;clear hh;rintro l e c
  exact(iEA (fun V=>l) (fun p hp=>by rw[List.mem_singleton.mp hp];exact e) (by simpa using c))
theorem WOk.perm{st st':List (T × T)}{L L':Bd}(h:∀ p,p∈st↔p∈st')(hL:∀ p,p∈L↔p∈L'):WOk st L→WOk st' L':=by
 intro hh;refine uEA hh ?_;clear hh;rintro f h1 c
 refine(iEA f (fun p hp=>h1 p ((h p).mpr hp)) (c.sub fun p hp=>?_))
 rcases List.mem_append.mp hp with hp|hp
 ·exact List.mem_append_left _ ((hL p).mpr hp)
 ·refine uEA (List.mem_flatMap.mp hp) fun q hq hp=>?_
  exact List.mem_append_right _ (List.mem_flatMap.mpr (iEA q ((h q).mpr hq) hp))
theorem WOk.var{v:Str}{ks:List T}{n:T}{st:List (T × T)}{L:Bd}(hv:isV v=true):WOk ((T.mk v ks,n)::st) L↔WOk st (L++[(v,n)]):=by
 have e:occ (T.mk v ks) n=some [(v,n)]:=by rw[occ_1,if_pos hv]
 constructor
 ·intro hh;refine uEA hh ?_;clear hh;rintro f h c
  have h1:=h _ List.mem_cons_self
  simp only[e,Option.some.injEq] at h1
  refine(iEA f (fun p hp=>h p (List.mem_cons_of_mem _ hp)) (c.sub fun p hp=>?_))
  rw[List.flatMap_cons,← h1,← List.append_assoc];exact hp
 ·intro hh;refine uEA hh ?_;clear hh;rintro f h c
  refine(iEA (fun p=>(occ p.1 p.2).getD []) (fun p hp=>?_) (c.sub fun p hp=>?_))
  ·rcases List.mem_cons.mp hp with rfl|hp
   ·simp[e]
   ·simp[h p hp]
  ·rw[List.flatMap_cons] at hp
   simp only[e,Option.getD_some] at hp
   rw[← List.append_assoc] at hp
   rcases List.mem_append.mp hp with hp|hp
   ·exact List.mem_append_left _ hp
   ·refine uEA (List.mem_flatMap.mp hp) fun q hq hp=>?_
    rw[h q hq] at hp
    exact List.mem_append_right _ (List.mem_flatMap.mpr (iEA q hq hp))
theorem WOk.not{v:Str}{ks:List T}{n:T}{st:List (T × T)}{L:Bd}(hv:isV v=false)(hh:¬ (v=n.op∧ks.length=n.kids.length)):¬ WOk ((T.mk v ks,n)::st) L:=by
 intro hh;refine uEA hh ?_;clear hh;rintro f h c
 have:=h _ List.mem_cons_self
 simp only at this
 rw[occ_1,if_neg (by rw[hv];simp),if_neg hh] at this
 cases this
theorem WOk.op{v:Str}{ks:List T}{n:T}{st:List (T × T)}{L:Bd}(hv:isV v=false)(hh:v=n.op∧ks.length=n.kids.length):WOk ((T.mk v ks,n)::st) L↔WOk (ks.zip n.kids++st) L:=by
 have e:occ (T.mk v ks) n=occs ks n.kids:=by rw[occ_1,if_neg (by rw[hv];simp),if_pos hh]
 constructor
 ·intro hh;refine uEA hh ?_;clear hh;rintro f h c
  have h1:=h _ List.mem_cons_self
  simp only[e] at h1
  refine uEA ((occs_zip hh.2 _).mp h1) fun g hg hl=>?_
  refine(iEA (fun p=>(occ p.1 p.2).getD []) (fun p hp=>?_) (c.sub fun p hp=>?_))
  ·rcases List.mem_append.mp hp with hp|hp
   ·simp[hg p hp]
   ·simp[h p (List.mem_cons_of_mem _ hp)]
  ·rw[List.flatMap_cons,hl]
   rcases List.mem_append.mp hp with hp|hp
   ·exact List.mem_append_left _ hp
   ·refine List.mem_append_right _ ?_
    refine uEA (List.mem_flatMap.mp hp) fun q hq hp=>?_
    rcases List.mem_append.mp hq with hq|hq
    ·simp only[hg q hq,Option.getD_some] at hp
     exact List.mem_append_left _ (List.mem_flatMap.mpr (iEA q hq hp))
    ·simp only[h q (List.mem_cons_of_mem _ hq),Option.getD_some] at hp
     exact List.mem_append_right _ (List.mem_flatMap.mpr (iEA q hq hp))
 ·intro hh;refine uEA hh ?_;clear hh;rintro f h c
  have h1:=(occs_zip hh.2 _).mpr (iEA f (fun p hp=>h p (List.mem_append_left _ hp)) rfl)
  refine(iEA (fun p=>(occ p.1 p.2).getD []) (fun p hp=>?_) (c.sub fun p hp=>?_))
  ·rcases List.mem_cons.mp hp with rfl|hp
   ·simp[e,h1]
   ·simp[h p (List.mem_append_right _ hp)]
  ·rw[List.flatMap_append]
   rw[List.flatMap_cons] at hp
   simp only[e,h1,Option.getD_some] at hp
   rcases List.mem_append.mp hp with hp|hp
   ·exact List.mem_append_left _ hp
   ·refine List.mem_append_right _ ?_
    rcases List.mem_append.mp hp with hp|hp
    ·exact List.mem_append_left _ hp
    ·refine uEA (List.mem_flatMap.mp hp) fun q hq hp=>?_
     rw[h q (List.mem_append_right _ hq)] at hp
     exact List.mem_append_right _ (List.mem_flatMap.mpr (iEA q hq hp))
mutual
noncomputable def subst(B:Bd):T→T
 |.mk v ks=>if isV v=true then(bat B v).getD dft else .mk v (substs B ks)
noncomputable def substs(B:Bd):List T→List T
 |[]=>[]
 |k::ks=>subst B k::substs B ks
end
theorem subst_1:∀(B:Bd)(o:Str)(kids:List T),subst B (T.mk o kids)=if isV o=true then Option.getD (bat B o) dft else T.mk o (substs B kids):=by intros;rfl
theorem substs_1:∀(B:Bd),substs B []=[]:=by intros;rfl
theorem substs_2:∀(B:Bd)(k:T)(ks:List T),substs B (k::ks)=subst B k::substs B ks:=by intros;rfl
theorem substs_eq(B:Bd):∀ l:List T,substs B l=l.map (subst B)
 |[]=>by rw[substs_1];rfl
 |k::ks=>by rw[substs_2,substs_eq B ks];rfl
mutual
noncomputable def T.bound(B:Bd):T→Prop
 |.mk v ks=>if isV v=true then(bat B v).isSome=true else T.bounds B ks
noncomputable def T.bounds(B:Bd):List T→Prop
 |[]=>True
 |k::ks=>T.bound B k∧T.bounds B ks
end
theorem T.bound_1:∀(B:Bd)(o:Str)(kids:List T),T.bound B (T.mk o kids)=if isV o=true then Option.isSome (bat B o)=true else T.bounds B kids:=by intros;rfl
theorem T.bounds_1:∀(B:Bd),T.bounds B []=True:=by intros;rfl
theorem T.bounds_2:∀(B:Bd)(k:T)(ks:List T),T.bounds B (k::ks)=(T.bound B k∧T.bounds B ks):=by intros;rfl
theorem T.bounds_iff(B:Bd):∀ l:List T,T.bounds B l↔∀ t∈l,T.bound B t
 |[]=>by simp[T.bounds_1,T.bounds_2]
 |k::ks=>by rw[T.bounds_2,T.bounds_iff B ks];simp
set_option tactic.hygienic true in
mutual
theorem occ_subst(B:Bd):∀(w n:T)(l:Bd),occ w n=some l→(∀ v x,(v,x)∈l→bat B v=some x)→subst B w=n∧T.bound B w
 |.mk v ks,.mk o ns,l,e,h=>by
  rw[occ_1] at e
  rw[subst_1,T.bound_1]
  by_cases hv:isV v=true
  ·rw[if_pos hv] at e ⊢
   rw[if_pos hv]
   cases e
   rw[h v _ List.mem_cons_self]
   exact⟨rfl,rfl⟩
  ·rw[if_neg hv] at e ⊢
   rw[if_neg hv]
   split at e
   ·rename_i hh
    have:=occs_subst B ks ns l hh.2 e h
    rw[this.1]
    exact⟨by rw[hh.1];rfl,this.2⟩
   ·cases e
theorem occs_subst(B:Bd):∀(ks ns:List T)(l:Bd),ks.length=ns.length→occs ks ns=some l→(∀ v x,(v,x)∈l→bat B v=some x)→substs B ks=ns∧T.bounds B ks
 |[],[],l,_,e,h=>by rw[substs_1,T.bounds_1];exact⟨rfl,trivial⟩
 |k::ks,n::ns,l,hl,e,h=>by
  rw[occs_3] at e
  cases e1:occ k n with
  |none=>rw[e1] at e;simp at e
  |some a=>
   rw[e1] at e
   cases e2:occs ks ns with
   |none=>rw[e2] at e;simp at e
   |some b=>
    rw[e2] at e
    simp only[Option.some.injEq] at e
    subst e
    have h1:=occ_subst B k n a e1 fun v x m=>h v x (List.mem_append_left _ m)
    have h2:=occs_subst B ks ns b (by simpa using hl) e2 fun v x m=>h v x (List.mem_append_right _ m)
    rw[substs_2,T.bounds_2,h1.1,h2.1]
    exact(iAA rfl h1.2 h2.2)
end
noncomputable def ntx(i:Nat):Str:=Str.ofString (toString (i:Int))
theorem ntx_list(i:Nat):(ntx i).cps.toList=(Nat.toDigits 10 i).map Char.toNat:=by
 unfold ntx
 rw[Str.ofString_eq_toList]
 show((toString i).toList).map Char.toNat=_
 rw[show toString i=Nat.repr i from rfl,Nat.toList_repr]
theorem toNat_inj:∀{a b:List Char},a.map Char.toNat=b.map Char.toNat→a=b
 |[],[],_=>rfl
 |[],_::_,h=>by simp at h
 |_::_,[],h=>by simp at h
 |x::xs,y::ys,h=>by
  simp only[List.map_cons,List.cons.injEq] at h
  rw[toNat_inj h.2,Char.toNat_inj.mp h.1]
theorem ntx_inj{i j:Nat}(h:ntx i=ntx j):i=j:=by
 have e:(Nat.toDigits 10 i).map Char.toNat=(Nat.toDigits 10 j).map Char.toNat:=by rw[← ntx_list,← ntx_list,h]
 rw[← Nat.ofDigitChars_ten_toDigits (n:=i),toNat_inj e,Nat.ofDigitChars_ten_toDigits]
theorem ntx_digit{i c:Nat}(h:c∈(ntx i).cps.toList):48≤c∧c≤57:=by
 rw[ntx_list] at h
 refine uEA (List.mem_map.mp h) ?_;rintro x hx rfl
 have:=Nat.isDigit_of_mem_toDigits (b:=10) (by decide) (by decide) hx
 simp only[Char.isDigit,Bool.and_eq_true,decide_eq_true_eq] at this
 exact⟨this.1,this.2⟩
theorem ntx_len{i k:Nat}(hk:0<k)(h:i<10 ^ k):(ntx i).length≤k+1:=by
 unfold ntx
 rw[PySem.ofString_length]
 exact PySem.int_text_length_le10 hk (by simpa using h)
noncomputable def qm:Str:=Str.ofString "?"
theorem qm_list:qm.cps.toList=[63]:=by unfold qm;rw[Str.ofString_eq_toList];rfl
theorem app_list(a b:Str):(a++b).cps.toList=a.cps.toList++b.cps.toList:=by
 show(a.cps++b.cps).toList=_
 simp
noncomputable def vn(i:Nat):Str:=qm++ntx i
theorem vn_inj{i j:Nat}(h:vn i=vn j):i=j:=by
 have:(vn i).cps.toList=(vn j).cps.toList:=by rw[h]
 unfold vn at this
 rw[app_list,app_list] at this
 have:=List.append_cancel_left this
 exact ntx_inj (by cases e:ntx i;cases e':ntx j;rw[e,e'] at this;simp only[Str.mk.injEq];exact Array.toList_inj.mp this)
theorem qm_isV(x:Str):isV (qm++x)=true:=by
 unfold isV
 rw[app_list,qm_list];simp
theorem vn_isV(i:Nat):isV (vn i)=true:=qm_isV _
theorem digits_ok{x:Str}(h:∀ c∈x.cps.toList,c<0x110000):PyData.strOk x=true:=by
 unfold PyData.strOk
 rw[Array.all_eq_true']
 intro c hc
 exact decide_eq_true (h c (by simpa using hc))
theorem qm_opOk{x:Str}(h:∀ c∈x.cps.toList,c<0x110000)(hl:x.length≤99):opOk (qm++x)=true:=by
 have l:(qm++x).length=1+x.length:=by
  show(qm++x).cps.size=_
  rw[← Array.length_toList,app_list,qm_list,List.length_append,Array.length_toList];rfl
 unfold opOk
 rw[l,digits_ok fun c hc=>?_]
 ·simp;lia
 ·rw[app_list,qm_list] at hc
  rcases List.mem_append.mp hc with hc|hc
  ·rw[List.mem_singleton.mp hc];decide
  ·exact h c hc
theorem vn_opOk{i:Nat}(h:i<1000):opOk (vn i)=true:=qm_opOk (fun c hc=>by have:=ntx_digit hc;lia) (by have:=ntx_len (k:=3) (by decide) (i:=i) (by lia);lia)
abbrev Nm:=List (List T)
noncomputable def ix:Nm→List T→Nat
 |[],_=>0
 |a::l,r=>if a=r then 0 else ix l r+1
theorem ix_2:∀(x a:List T) (l:List (List T)),ix (a::l) x=if a=x then 0 else ix l x+1:=by intros;rfl
noncomputable def add(nm:Nm)(r:List T):Nm:=if r∈nm then nm else nm++[r]
theorem ix_mem:∀{nm:Nm} {r:List T},r∈nm→nm[ix nm r]?=some r
 |a::l,r,h=>by
  rw[ix_2]
  by_cases e:a=r
  ·rw[if_pos e,e];rfl
  ·rw[if_neg e,List.getElem?_cons_succ]
   exact ix_mem ((List.mem_cons.mp h).resolve_left fun q=>e q.symm)
theorem ix_not:∀{nm:Nm} {r:List T},r∉nm→ix nm r=nm.length
 |[],r,_=>rfl
 |a::l,r,h=>by
  rw[ix_2,if_neg (fun e:a=r=>h (by rw[e];exact List.mem_cons_self)),ix_not fun m=>h (List.mem_cons_of_mem _ m)];rfl
theorem ix_add(nm:Nm)(r:List T):(add nm r)[ix nm r]?=some r:=by
 unfold add
 by_cases h:r∈nm
 ·rw[if_pos h];exact ix_mem h
 ·rw[if_neg h,ix_not h];simp
theorem ix_le(nm:Nm)(r:List T):ix nm r≤nm.length:=by
 by_cases h:r∈nm
 ·exact Nat.le_of_lt (List.getElem?_eq_some_iff.mp (ix_mem h)).1
 ·exact Nat.le_of_eq (ix_not h)
theorem add_pre(nm:Nm)(r:List T):∃ l,add nm r=nm++l:=by
 unfold add
 split
 ·exact⟨[],by simp⟩
 ·exact⟨_,rfl⟩
theorem add_len(nm:Nm)(r:List T):(add nm r).length≤nm.length+1:=by
 unfold add
 split<;>simp
noncomputable def hd0(rows:List T):T:=rows.headD dft
noncomputable def sameH(rows:List T):Bool:=decide (∀ a∈rows,∀ b∈rows,a.op=b.op∧a.kids.length=b.kids.length)
noncomputable def mapSt(g:Nat→Nm→T × Nm):List Nat→Nm→List T × Nm
 |[],nm=>([],nm)
 |k::ks,nm=>((g k nm).1::(mapSt g ks (g k nm).2).1,(mapSt g ks (g k nm).2).2)
theorem mapSt_1:∀(g:Nat→Nm→T × Nm)(x:Nm),mapSt g [] x=([],x):=by intros;rfl
theorem mapSt_2:∀(g:Nat→Nm→T × Nm)(x:Nm)(k:Nat)(ks:List Nat),mapSt g (k::ks) x=((g k x).fst::(mapSt g ks (g k x).snd).fst,(mapSt g ks (g k x).snd).snd):=by intros;rfl
theorem mapSt_app(g:Nat→Nm→T × Nm):∀(a b:List Nat)(nm:Nm),mapSt g (a++b) nm=((mapSt g a nm).1++(mapSt g b (mapSt g a nm).2).1,(mapSt g b (mapSt g a nm).2).2)
 |[],b,nm=>rfl
 |k::a,b,nm=>by rw[List.cons_append,mapSt_2,mapSt_app g a b,mapSt_2];rfl
theorem mapSt_len(g:Nat→Nm→T × Nm):∀(a:List Nat)(nm:Nm),(mapSt g a nm).1.length=a.length
 |[],nm=>rfl
 |k::a,nm=>by rw[mapSt_2,List.length_cons,mapSt_len g a,List.length_cons]
noncomputable def colT(rows:List T)(k:Nat):List T:=rows.map fun t=>t.kids.getD k dft
noncomputable def au:Nat→List T→Nm→T × Nm
 |0,_,nm=>(dft,nm)
 |f+1,rows,nm=>if sameH rows=true then(.mk (hd0 rows).op (mapSt (fun k=>au f (colT rows k)) (List.range (hd0 rows).kids.length) nm).1,(mapSt (fun k=>au f (colT rows k)) (List.range (hd0 rows).kids.length) nm).2)
  else(.mk (vn (ix nm rows)) [],add nm rows)
theorem au_2:∀(x:List T)(x_1:Nm)(f:Nat),au ((f+1)) x x_1=if sameH x=true then(T.mk (T.op (hd0 x)) (mapSt (fun k=>au f (colT x k)) (List.range (List.length (T.kids (hd0 x)))) x_1).fst,(mapSt (fun k=>au f (colT x k)) (List.range (List.length (T.kids (hd0 x)))) x_1).snd) else(T.mk (vn (ix x_1 x)) [],add x_1 x):=by intros;rfl
theorem hd0_mem{rows:List T}(h:rows≠[]):hd0 rows∈rows:=by
 cases rows with
 |nil=>exact absurd rfl h
 |cons a l=>exact List.mem_cons_self
theorem sameH_iff{rows:List T}(h:rows≠[]):sameH rows=true↔∀ a∈rows,a.op=(hd0 rows).op∧a.kids.length=(hd0 rows).kids.length:=by
 unfold sameH
 rw[decide_eq_true_eq]
 constructor
 ·exact fun k a ha=>k a ha _ (hd0_mem h)
 ·intro k a ha b hb
  rw[(k a ha).1,(k a ha).2,(k b hb).1,(k b hb).2]
  exact⟨rfl,rfl⟩
theorem colT_ne{rows:List T}(h:rows≠[])(k:Nat):colT rows k≠[]:=by unfold colT;simpa using h
theorem colT_hd{rows:List T}(h:rows≠[])(k:Nat):hd0 (colT rows k)=(hd0 rows).kids.getD k dft:=by
 cases rows with
 |nil=>exact absurd rfl h
 |cons a l=>rfl
theorem colT_all{rows:List T}{P Q:T→Prop}{k:Nat}(hs:sameH rows=true)(hk:k<(hd0 rows).kids.length)(hne:rows≠[])(h:∀ t∈rows,P t)(hq:∀ t,P t→∀ s∈t.kids,Q s):∀ t∈colT rows k,Q t:=by
 intro t ht
 refine uEA (List.mem_map.mp ht) ?_;rintro s hs' rfl
 refine hq s (h s hs') _ ?_
 have e:=(sameH_iff hne).mp hs s hs'
 have hk':k<s.kids.length:=e.2▸hk
 rw[List.getD_eq_getElem?_getD,List.getElem?_eq_getElem hk']
 exact List.getElem_mem hk'
theorem T.ok_kids{t:T}(h:t.ok=true):∀ s∈t.kids,s.ok=true:=by cases t;exact(T.ok_iff.mp h).2.2.2
theorem T.gr_kids{t:T}(h:t.gr=true):∀ s∈t.kids,s.gr=true:=by cases t;exact(T.gr_iff.mp h).2
theorem T.dep_kids{t:T}{n:Nat}(h:t.dep≤n+1):∀ s∈t.kids,s.dep≤n:=by
 cases t
 rw[T.dep_1] at h
 exact fun s hs=>T.deps_le.mp (Nat.le_of_succ_le_succ h) s hs
theorem T.eta(t:T):T.mk t.op t.kids=t:=by cases t;rfl
theorem mapSt_pre{g:Nat→Nm→T × Nm}:∀(a:List Nat)(nm:Nm),(∀ k∈a,∀ nm,∃ l,(g k nm).2=nm++l)→∃ l,(mapSt g a nm).2=nm++l
 |[],nm,_=>⟨[],by simp[mapSt_1,mapSt_2]⟩
 |k::a,nm,h=>by
  obtain⟨l,e⟩:=h k List.mem_cons_self nm
  obtain⟨m,e'⟩:=mapSt_pre a (g k nm).2 fun j hj=>h j (List.mem_cons_of_mem _ hj)
  rw[mapSt_2]
  exact⟨l++m,by rw[e',e,List.append_assoc]⟩
theorem au_pre:∀(f:Nat)(rows:List T)(nm:Nm),∃ l,(au f rows nm).2=nm++l
 |0,rows,nm=>⟨[],(List.append_nil nm).symm⟩
 |f+1,rows,nm=>by
  rw[au_2]
  split
  ·exact mapSt_pre _ _ fun k V nm=>au_pre f _ nm
  ·exact add_pre nm rows
theorem mapSt_len2{g:Nat→Nm→T × Nm}{z:Nat→Nat}:∀(a:List Nat)(nm:Nm),(∀ k∈a,∀ nm,(g k nm).2.length≤nm.length+z k)→(mapSt g a nm).2.length≤nm.length+(a.map z).sum
 |[],nm,_=>by simp[mapSt_1,mapSt_2]
 |k::a,nm,h=>by
  have h1:=h k List.mem_cons_self nm
  have h2:=mapSt_len2 (z:=z) a (g k nm).2 fun j hj=>h j (List.mem_cons_of_mem _ hj)
  rw[mapSt_2,List.map_cons,List.sum_cons]
  show(mapSt g a (g k nm).2).2.length≤_
  lia
theorem sizes_range:∀(l:List T),((List.range l.length).map fun k=>(l.getD k dft).size).sum=T.sizes l
 |[]=>by simp[T.sizes_1,T.sizes_2]
 |k::ks=>by
  rw[List.length_cons,List.range_succ_eq_map,List.map_cons,List.sum_cons,List.map_map,T.sizes_2,← sizes_range ks]
  rfl
theorem T.size_eq(t:T):t.size=T.sizes t.kids+1:=by cases t;rw[T.size_1];rfl
theorem au_len:∀(f:Nat)(rows:List T)(nm:Nm),rows≠[]→(au f rows nm).2.length≤nm.length+(hd0 rows).size
 |0,rows,nm,_=>Nat.le_add_right _ _
 |f+1,rows,nm,h=>by
  rw[au_2]
  have e:=T.size_eq (hd0 rows)
  split
  ·have:=mapSt_len2 (g:=fun k=>au f (colT rows k)) (z:=fun k=>((hd0 rows).kids.getD k dft).size) (List.range (hd0 rows).kids.length) nm fun k V nm=>by
    have:=au_len f (colT rows k) nm (colT_ne h k)
    rwa[colT_hd h] at this
   rw[sizes_range] at this
   show(mapSt _ _ nm).2.length≤_
   lia
  ·have:=add_len nm rows
   show(add nm rows).length≤_
   lia
theorem mapSt_occ{g:Nat→Nm→T × Nm}{nmF:Nm}{i:Nat}{t:T}:∀(a:List Nat)(nm:Nm),(∀ k∈a,∀ nm,∃ l,(g k nm).2=nm++l)→
  (∀ k∈a,∀ nm,(∃ l,nmF=(g k nm).2++l)→∃ L,occ (g k nm).1 (t.kids.getD k dft)=some L∧∀ v x,(v,x)∈L→∃ (j:Nat) (key:List T),v=vn j∧nmF[j]?=some key∧key[i]?=some x)→(∃ l,nmF=(mapSt g a nm).2++l)→
  ∃ L,occs (mapSt g a nm).1 (a.map fun k=>t.kids.getD k dft)=some L∧∀ v x,(v,x)∈L→∃ (j:Nat) (key:List T),v=vn j∧nmF[j]?=some key∧key[i]?=some x
 |[],nm,_,_,_=>(iEA [] (by rw[mapSt_1,List.map_nil,occs_1]) (fun v x h=>by simp at h))
 |k::a,nm,hp,h,⟨l,hl⟩=>by
  have hp':=fun j hj=>hp j (List.mem_cons_of_mem _ hj)
  rw[mapSt_2] at hl ⊢
  obtain⟨m,em⟩:=mapSt_pre a (g k nm).2 hp'
  refine uEA (h k List.mem_cons_self nm ⟨m++l,by rw[hl,em,List.append_assoc]⟩) fun L1 e1 c1=>?_
  refine uEA (mapSt_occ (i:=i) (t:=t) a (g k nm).2 hp' (fun j hj=>h j (List.mem_cons_of_mem _ hj)) ⟨l,hl⟩) fun L2 e2 c2=>?_
  rw[List.map_cons,occs_3,e1,e2]
  refine(iEA _ rfl (fun v x hx=>?_))
  rcases List.mem_append.mp hx with hx|hx
  ·exact c1 v x hx
  ·exact c2 v x hx
theorem kids_range(t:T):(List.range t.kids.length).map (fun k=>t.kids.getD k dft)=t.kids:=by
 apply List.ext_getElem (by simp)
 intro i h1 h2
 simp[List.getD_eq_getElem?_getD,h2]
set_option tactic.hygienic true in
theorem au_occ:∀(f:Nat)(rows:List T)(nm nmF:Nm),rows≠[]→(∀ t∈rows,t.gr=true)→(∀ t∈rows,t.dep≤f)→(∃ l,nmF=(au f rows nm).2++l)→∀(i:Nat)(t:T),rows[i]?=some t→
  ∃ L,occ (au f rows nm).1 t=some L∧∀ v x,(v,x)∈L→∃ (j:Nat) (key:List T),v=vn j∧nmF[j]?=some key∧key[i]?=some x
 |0,rows,nm,nmF,h,_,hd,_,i,t,ht=>absurd (hd t (List.mem_of_getElem? ht)) (by have:=t.dep_pos;lia)
 |f+1,rows,nm,nmF,h,hg,hd,hF,i,t,ht=>by
  have mt:=List.mem_of_getElem? ht
  rw[au_2] at hF ⊢
  split
  ·rename_i hs
   rw[if_pos hs] at hF
   have e:=(sameH_iff h).mp hs t mt
   refine uEA (mapSt_occ (g:=fun k=>au f (colT rows k)) (nmF:=nmF) (i:=i) (t:=t) (List.range (hd0 rows).kids.length) nm (fun k V nm=>au_pre f _ nm) (fun k hk nm hF=>by
    have hk:=List.mem_range.mp hk
    exact au_occ f (colT rows k) nm nmF (colT_ne h k) (colT_all hs hk h hg fun t ht=>T.gr_kids ht) (colT_all hs hk h hd fun t ht=>T.dep_kids ht) hF i _ (by unfold colT;rw[List.getElem?_map,ht];rfl)) hF) fun L e1 c=>?_
   refine(iEA L ?_ c)
   have g0:isV (hd0 rows).op=false:=by
    have:=hg _ (hd0_mem h)
    rw[← T.eta (hd0 rows),T.gr_iff] at this
    exact this.1
   rw[occ_1,if_neg (by rw[g0];simp),if_pos ⟨e.1.symm,by rw[mapSt_len,List.length_range,e.2]⟩,← e1,← e.2,kids_range]
  ·rename_i hs
   rw[if_neg hs] at hF
   obtain⟨l,hF⟩:=hF
   refine(iEA [(vn (ix nm rows),t)] (by rw[occ_1,if_pos (vn_isV _)]) (fun v x hx=>?_))
   simp only[List.mem_singleton,Prod.mk.injEq] at hx
   obtain⟨rfl,rfl⟩:=hx
   refine(iEEAA _ rows rfl ?_ ht)
   have:=ix_add nm rows
   rw[hF,List.getElem?_append_left (List.getElem?_eq_some_iff.mp this).1]
   exact this
theorem au_con{nmF:Nm}{i:Nat}{L:Bd}(c:∀ v x,(v,x)∈L→∃ (j:Nat) (key:List T),v=vn j∧nmF[j]?=some key∧key[i]?=some x):con L:=by
 intro v x y hx hy
 refine uEEAA (c v x hx) fun j k e1 e2 e3=>?_
 refine uEEAA (c v y hy) fun j' k' f1 f2 f3=>?_
 have:=vn_inj (e1.symm.trans f1)
 subst this
 rw[e2] at f2
 cases f2
 rw[e3] at f3
 cases f3
 rfl
theorem au_mt{f:Nat}{rows:List T}(h:rows≠[])(hg:∀ t∈rows,t.gr=true)(hd:∀ t∈rows,t.dep≤f){t:T}(ht:t∈rows):Mt (au f rows []).1 t:=by
 obtain⟨i,hi⟩:=List.getElem?_of_mem ht
 refine uEA (au_occ f rows [] _ h hg hd ⟨[],(List.append_nil _).symm⟩ i t hi) fun L e c=>?_
 exact(iEA L e (au_con c))
theorem mapSt_ok{g:Nat→Nm→T × Nm}{P:T→Prop}{z:Nat→Nat}{N:Nat}:∀(a:List Nat)(nm:Nm),nm.length+(a.map z).sum≤N→(∀ k∈a,∀ nm,(g k nm).2.length≤nm.length+z k)→
  (∀ k∈a,∀ nm,nm.length+z k≤N→P (g k nm).1)→∀ t∈(mapSt g a nm).1,P t
 |[],nm,_,_,_,t,ht=>by rw[mapSt_1] at ht;simp at ht
 |k::a,nm,hN,hz,h,t,ht=>by
  rw[List.map_cons,List.sum_cons] at hN
  rw[mapSt_2] at ht
  have h1:=hz k List.mem_cons_self nm
  rcases List.mem_cons.mp ht with rfl|ht
  ·exact h k List.mem_cons_self nm (by lia)
  ·exact mapSt_ok a _ (by lia) (fun j hj=>hz j (List.mem_cons_of_mem _ hj)) (fun j hj=>h j (List.mem_cons_of_mem _ hj)) t ht
set_option tactic.hygienic true in
theorem au_ok:∀(f:Nat)(rows:List T)(nm:Nm),rows≠[]→(∀ t∈rows,t.ok=true)→(∀ t∈rows,t.gr=true)→(∀ t∈rows,t.dep≤f)→nm.length+(hd0 rows).size≤900→(au f rows nm).1.ok=true∧(au f rows nm).1.dep≤f
 |0,rows,nm,h,_,_,hd,_=>absurd (hd _ (hd0_mem h)) (by have:=(hd0 rows).dep_pos;lia)
 |f+1,rows,nm,h,ho,hg,hd,hN=>by
  rw[au_2]
  have e:=T.size_eq (hd0 rows)
  split
  ·rename_i hs
   have o:=ho _ (hd0_mem h)
   have g:=hg _ (hd0_mem h)
   rw[← T.eta (hd0 rows)] at o g
   rw[T.ok_iff] at o
   rw[T.gr_iff] at g
   have key:∀ t∈(mapSt (fun k=>au f (colT rows k)) (List.range (hd0 rows).kids.length) nm).1,t.ok=true∧t.dep≤f:=by
    refine mapSt_ok (N:=900) (z:=fun k=>((hd0 rows).kids.getD k dft).size) _ nm (by rw[sizes_range];lia) (fun k V nm=>?_) fun k hk nm hN=>?_
    ·have:=au_len f (colT rows k) nm (colT_ne h k)
     rwa[colT_hd h] at this
    ·have hk:=List.mem_range.mp hk
     exact au_ok f (colT rows k) nm (colT_ne h k) (colT_all hs hk h ho fun t ht=>T.ok_kids ht) (colT_all hs hk h hg fun t ht=>T.gr_kids ht) (colT_all hs hk h hd fun t ht=>T.dep_kids ht) (by rw[colT_hd h];exact hN)
   refine⟨T.ok_iff.mpr (iAAA o.1 (by rw[mapSt_len,List.length_range];exact o.2.1) (fun q=>(by rw[g.1] at q;cases q)) (fun k hk=>(key k hk).1)),?_⟩
   rw[T.dep_1]
   exact Nat.succ_le_succ (T.deps_le.mpr fun k hk=>(key k hk).2)
  ·refine⟨T.ok_iff.mpr (iAAA (vn_opOk ?_) (by simp) (fun V=>rfl) (fun k hk=>by simp at hk)),by rw[T.dep_1,T.deps_1];lia⟩
   have:=ix_le nm rows
   lia
theorem ix_rev(r:List T):∀ nm:Nm,ix (nm.map List.reverse) r.reverse=ix nm r
 |[]=>rfl
 |a::l=>by
  rw[List.map_cons,ix_2,ix_2,ix_rev r l]
  simp only[List.reverse_inj]
theorem add_rev(r:List T)(nm:Nm):add (nm.map List.reverse) r.reverse=(add nm r).map List.reverse:=by
 unfold add
 have:r.reverse∈nm.map List.reverse↔r∈nm:=by
  rw[List.mem_map]
  exact⟨fun q17638=>uEA q17638 fun a h e=>List.reverse_inj.mp e▸h,fun h=>(iEA r h rfl)⟩
 by_cases h:r∈nm
 ·rw[if_pos h,if_pos (this.mpr h)]
 ·rw[if_neg h,if_neg (fun q=>h (this.mp q))];simp
theorem mapSt_rev{g g':Nat→Nm→T × Nm}:∀(a:List Nat)(nm:Nm),(∀ k∈a,∀ nm:Nm,g' k (nm.map List.reverse)=((g k nm).1,(g k nm).2.map List.reverse))→mapSt g' a (nm.map List.reverse)=((mapSt g a nm).1,(mapSt g a nm).2.map List.reverse)
 |[],nm,_=>rfl
 |k::a,nm,h=>by
  rw[mapSt_2,mapSt_2,h k List.mem_cons_self,mapSt_rev a _ fun j hj=>h j (List.mem_cons_of_mem _ hj)]
set_option tactic.hygienic true in
theorem au_rev:∀(f:Nat)(rows:List T)(nm:Nm),rows≠[]→au f rows.reverse (nm.map List.reverse)=((au f rows nm).1,(au f rows nm).2.map List.reverse)
 |0,rows,nm,_=>rfl
 |f+1,rows,nm,h=>by
  have hr:rows.reverse≠[]:=by simpa using h
  have hs:sameH rows.reverse=sameH rows:=by unfold sameH;simp
  rw[au_2,au_2,hs]
  split
  ·rename_i q
   have m:=List.mem_reverse.mp (hd0_mem hr)
   have e:=(sameH_iff h).mp q _ m
   have:=mapSt_rev (g:=fun k=>au f (colT rows k)) (g':=fun k=>au f (colT rows.reverse k)) (List.range (hd0 rows).kids.length) nm fun k V nm=>by
    have:colT rows.reverse k=(colT rows k).reverse:=by unfold colT;rw[List.map_reverse]
    rw[this]
    exact au_rev f _ nm (colT_ne h k)
   rw[e.1,e.2,this]
  ·rw[ix_rev,add_rev]
mutual
noncomputable def T.parts:T→List (List Int × T)
 |.mk o ks=>([],.mk o ks)::T.partss 0 ks
noncomputable def T.partss(i:Nat):List T→List (List Int × T)
 |[]=>[]
 |k::ks=>(k.parts.map fun p=>((i:Int)::p.1,p.2))++T.partss (i+1) ks
end
theorem T.parts_1:∀(o:Str)(kids:List T),T.parts (T.mk o kids)=([],T.mk o kids)::T.partss 0 kids:=by intros;rfl
theorem T.partss_1:∀(i:Nat),T.partss i []=[]:=by intros;rfl
theorem T.partss_2:∀(i:Nat)(k:T)(ks:List T),T.partss i (k::ks)=List.map (fun p=>(↑i::p.fst,p.snd)) (T.parts k)++T.partss (i+1) ks:=by intros;rfl
mutual
theorem T.parts_len:∀ t:T,t.parts.length=t.size
 |.mk o ks=>by rw[T.parts_1,List.length_cons,T.partss_len 0 ks,T.size_1]
theorem T.partss_len:∀(i:Nat)(l:List T),(T.partss i l).length=T.sizes l
 |i,[]=>by rw[T.partss_1,T.sizes_1];rfl
 |i,k::ks=>by rw[T.partss_2,List.length_append,List.length_map,T.parts_len k,T.partss_len (i+1) ks,T.sizes_2]
end
theorem T.partss_app:∀(a b:List T)(i:Nat),T.partss i (a++b)=T.partss i a++T.partss (i+a.length) b
 |[],b,i=>by rw[T.partss_1];rfl
 |k::a,b,i=>by rw[List.cons_append,T.partss_2,T.partss_2,T.partss_app a b,List.append_assoc,List.length_cons,Nat.add_right_comm];rfl
mutual
theorem T.parts_ok:∀ t:T,t.ok=true→∀ p∈t.parts,p.2.ok=true∧p.1.length≤t.dep
 |.mk o ks,h,p,hp=>by
  rcases List.mem_cons.mp hp with rfl|hp
  ·exact⟨h,Nat.zero_le _⟩
  ·have:=T.partss_ok 0 ks (T.ok_iff.mp h).2.2.2 p hp
   exact⟨this.1,this.2⟩
theorem T.partss_ok:∀(i:Nat)(l:List T),(∀ t∈l,t.ok=true)→∀ p∈T.partss i l,p.2.ok=true∧p.1.length≤T.deps l+1
 |i,[],_,p,hp=>by rw[T.partss_1] at hp;simp at hp
 |i,k::ks,h,p,hp=>by
  rw[T.deps_2]
  rcases List.mem_append.mp hp with hp|hp
  ·refine uEA (List.mem_map.mp hp) ?_;rintro q hq rfl
   have:=T.parts_ok k (h k List.mem_cons_self) q hq
   exact⟨this.1,by rw[List.length_cons];lia⟩
  ·have:=T.partss_ok (i+1) ks (fun t ht=>h t (List.mem_cons_of_mem _ ht)) p hp
   exact⟨this.1,by lia⟩
end
noncomputable def sx:List Str→Str→Nat
 |[],_=>0
 |a::l,r=>if a=r then 0 else sx l r+1
theorem sx_1:∀(x:Str),sx [] x=0:=by intros;rfl
theorem sx_2:∀(x a:Str)(l:List Str),sx (a::l) x=if a=x then 0 else sx l x+1:=by intros;rfl
noncomputable def sadd(nm:List Str)(r:Str):List Str:=if r∈nm then nm else nm++[r]
mutual
noncomputable def nmd:T→List Str→T × List Str
 |.mk v ks,nm=>if isV v=true then(.mk (vn (sx nm v)) [],sadd nm v) else(.mk v (nmds ks nm).1,(nmds ks nm).2)
noncomputable def nmds:List T→List Str→List T × List Str
 |[],nm=>([],nm)
 |k::ks,nm=>((nmd k nm).1::(nmds ks (nmd k nm).2).1,(nmds ks (nmd k nm).2).2)
end
theorem nmd_1:∀(x:List Str)(v:Str)(ks:List T),nmd (T.mk v ks) x=if isV v=true then(T.mk (vn (sx x v)) [],sadd x v) else(T.mk v (nmds ks x).fst,(nmds ks x).snd):=by intros;rfl
theorem nmds_1:∀(x:List Str),nmds [] x=([],x):=by intros;rfl
theorem nmds_2:∀(x:List Str)(k:T)(ks:List T),nmds (k::ks) x=((nmd k x).fst::(nmds ks (nmd k x).snd).fst,(nmds ks (nmd k x).snd).snd):=by intros;rfl
theorem nmds_app:∀(a b:List T)(nm:List Str),nmds (a++b) nm=((nmds a nm).1++(nmds b (nmds a nm).2).1,(nmds b (nmds a nm).2).2)
 |[],b,nm=>by rw[nmds_1];rfl
 |k::a,b,nm=>by rw[List.cons_append,nmds_2,nmds_app a b,nmds_2];rfl
theorem nmds_len:∀(a:List T)(nm:List Str),(nmds a nm).1.length=a.length
 |[],nm=>by rw[nmds_1]
 |k::a,nm=>by rw[nmds_2,List.length_cons,List.length_cons,nmds_len a]
theorem sadd_len(nm:List Str)(r:Str):(sadd nm r).length≤nm.length+1:=by
 unfold sadd
 split<;>simp
mutual
theorem nmd_len:∀(t:T)(nm:List Str),(nmd t nm).2.length≤nm.length+t.size
 |.mk v ks,nm=>by
  rw[nmd_1,T.size_1]
  split
  ·have:=sadd_len nm v
   show(sadd nm v).length≤_
   lia
  ·have:=nmds_len2 ks nm
   show(nmds ks nm).2.length≤_
   lia
theorem nmds_len2:∀(l:List T)(nm:List Str),(nmds l nm).2.length≤nm.length+T.sizes l
 |[],nm=>by rw[nmds_1];exact Nat.le_add_right _ _
 |k::ks,nm=>by
  have h1:=nmd_len k nm
  have h2:=nmds_len2 ks (nmd k nm).2
  rw[nmds_2,T.sizes_2]
  show(nmds ks (nmd k nm).2).2.length≤_
  lia
end
mutual
noncomputable def jn(one other:Str):T→T
 |.mk o ks=>if T.mk o ks=T.mk other [] then .mk one [] else .mk o (jns one other ks)
noncomputable def jns(one other:Str):List T→List T
 |[]=>[]
 |k::ks=>jn one other k::jns one other ks
end
theorem jn_1:∀(one other o:Str)(kids:List T),jn one other (T.mk o kids)=if T.mk o kids=T.mk other [] then T.mk one [] else T.mk o (jns one other kids):=by intros;rfl
theorem jns_1:∀(one other:Str),jns one other []=[]:=by intros;rfl
theorem jns_2:∀(one other:Str)(k:T)(ks:List T),jns one other (k::ks)=jn one other k::jns one other ks:=by intros;rfl
theorem jns_eq(one other:Str):∀ l:List T,jns one other l=l.map (jn one other)
 |[]=>by rw[jns_1];rfl
 |k::ks=>by rw[jns_2,jns_eq one other ks];rfl
mutual
theorem jn_ok{one other:Str}(h1:opOk one=true):∀ t:T,t.ok=true→(jn one other t).ok=true∧(jn one other t).dep≤t.dep
 |.mk o ks,h=>by
  rw[jn_1]
  split
  ·exact⟨T.ok_iff.mpr (iAAA h1 (by simp) (fun V=>rfl) (fun k hk=>by simp at hk)),by rw[T.dep_1,T.dep_1,T.deps_1];lia⟩
  ·rw[T.ok_iff] at h
   have:=jns_ok (other:=other) h1 ks h.2.2.2
   refine⟨T.ok_iff.mpr (iAAA h.1 (by rw[jns_eq,List.length_map];exact h.2.1) (fun q=>by rw[h.2.2.1 q,jns_1]) this.1),?_⟩
   exact Nat.succ_le_succ this.2
theorem jns_ok{one other:Str}(h1:opOk one=true):∀ l:List T,(∀ t∈l,t.ok=true)→(∀ t∈jns one other l,t.ok=true)∧T.deps (jns one other l)≤T.deps l
 |[],_=>by rw[jns_1];exact⟨fun t ht=>by simp at ht,Nat.le_refl _⟩
 |k::ks,h=>by
  have a:=jn_ok (other:=other) h1 k (h k List.mem_cons_self)
  have b:=jns_ok (other:=other) h1 ks fun t ht=>h t (List.mem_cons_of_mem _ ht)
  rw[jns_2,T.deps_2,T.deps_2]
  refine⟨fun t ht=>?_,by lia⟩
  rcases List.mem_cons.mp ht with rfl|ht
  ·exact a.1
  ·exact b.1 t ht
end
structure Gl (x:Str) (av:AV):Prop where
 g:∀ G,Glb G x av
 c:∀ P,callable P av=true
 n:(x == ("__debug__":Str))=false
theorem k_len:Gl "len" (.bi "len"):=⟨g_len,fun V=>by kernel_rfl,by kernel_rfl⟩
theorem k_sum:Gl "sum" (.bi "sum"):=⟨g_sum,fun V=>by kernel_rfl,by kernel_rfl⟩
theorem k_sorted:Gl "sorted" (.bi "sorted"):=⟨g_sorted,fun V=>by kernel_rfl,by kernel_rfl⟩
theorem k_max:Gl "max" (.bi "max"):=⟨g_max,fun V=>by kernel_rfl,by kernel_rfl⟩
theorem k_abs:Gl "abs" (.bi "abs"):=⟨g_abs,fun V=>by kernel_rfl,by kernel_rfl⟩
theorem k_tuple:Gl "tuple" (.ty "tuple"):=⟨g_tuple,fun V=>by kernel_rfl,by kernel_rfl⟩
theorem k_range:Gl "range" (.ty "range"):=⟨g_range,fun V=>by kernel_rfl,by kernel_rfl⟩
theorem k_set:Gl "set" (.ty "set"):=⟨g_set,fun V=>by kernel_rfl,by kernel_rfl⟩
theorem k_str:Gl "str" (.ty "str"):=⟨g_str,fun V=>by kernel_rfl,by kernel_rfl⟩
theorem k_enumerate:Gl "enumerate" (.ty "enumerate"):=⟨g_enumerate,fun V=>by kernel_rfl,by kernel_rfl⟩
theorem k_zip:Gl "zip" (.ty "zip"):=⟨g_zip,fun V=>by kernel_rfl,by kernel_rfl⟩
theorem k_is_op:Gl "is_op" (.ref 79):=⟨g_is_op,fun V=>by kernel_rfl,by kernel_rfl⟩
theorem k_is_variable:Gl "is_variable" (.ref 86):=⟨g_is_variable,fun V=>by kernel_rfl,by kernel_rfl⟩
theorem k_size:Gl "size" (.ref 91):=⟨g_size,fun V=>by kernel_rfl,by kernel_rfl⟩
theorem k_placed:Gl "placed" (.ref 96):=⟨g_placed,fun V=>by kernel_rfl,by kernel_rfl⟩
theorem k_parts:Gl "parts" (.ref 101):=⟨g_parts,fun V=>by kernel_rfl,by kernel_rfl⟩
theorem k_matched:Gl "matched" (.ref 108):=⟨g_matched,fun V=>by kernel_rfl,by kernel_rfl⟩
theorem k_common_of:Gl "common_of" (.ref 233):=⟨g_common_of,fun V=>by kernel_rfl,by kernel_rfl⟩
theorem k_common:Gl "common" (.ref 226):=⟨g_common,fun V=>by kernel_rfl,by kernel_rfl⟩
theorem k_common_at:Gl "common_at" (.ref 238):=⟨g_common_at,fun V=>by kernel_rfl,by kernel_rfl⟩
theorem k_is_covered:Gl "is_covered" (.ref 245):=⟨g_is_covered,fun V=>by kernel_rfl,by kernel_rfl⟩
theorem k_named:Gl "named" (.ref 250):=⟨g_named,fun V=>by kernel_rfl,by kernel_rfl⟩
theorem k_law_pick:Gl "_law_pick" (.ref 514):=⟨g_law_pick,fun V=>by kernel_rfl,by kernel_rfl⟩
theorem k_law_hand:Gl "_law_hand" (.ref 519):=⟨g_law_hand,fun V=>by kernel_rfl,by kernel_rfl⟩
theorem k_law_term:Gl "_law_term" (.ref 524):=⟨g_law_term,fun V=>by kernel_rfl,by kernel_rfl⟩
theorem k_law_bent:Gl "_law_bent" (.ref 529):=⟨g_law_bent,fun V=>by kernel_rfl,by kernel_rfl⟩
theorem k_law_shared:Gl "_law_shared" (.ref 534):=⟨g_law_shared,fun V=>by kernel_rfl,by kernel_rfl⟩
theorem k_law_fits:Gl "_law_fits" (.ref 539):=⟨g_law_fits,fun V=>by kernel_rfl,by kernel_rfl⟩
theorem k_law_joined:Gl "_law_joined" (.ref 544):=⟨g_law_joined,fun V=>by kernel_rfl,by kernel_rfl⟩
theorem k_Bank:Gl "Bank" (.ref 215):=⟨g_Bank,fun V=>by kernel_rfl,by kernel_rfl⟩
theorem k_HeapCommon:Gl "HeapCommon" (.ref 291):=⟨g_HeapCommon,fun V=>by kernel_rfl,by kernel_rfl⟩
theorem k_Unions:Gl "Unions" (.ref 373):=⟨g_Unions,fun V=>by kernel_rfl,by kernel_rfl⟩
theorem k_Heap:Gl "Heap" (.ref 503):=⟨g_Heap,fun V=>by kernel_rfl,by kernel_rfl⟩
section
variable{G:GC}{ℓ:Nat}{sc:Names}{m:MM}{own:Own}{K:AV→Own→Prop}{x:Str}{pos p:Pos}{av:AV}{args:List Expr}
theorem Ev.k{x:Str}{av:AV}(k:Gl x av)(h:Evs G ℓ sc m own args fun as o2=>Cal G ℓ o2 av as K)(hk:autoParam (sc.lookup x=some .globalImplicit) sK)(hns:autoParam (∀ env,(starEach args env).any (·.1)=false) sI):Ev G ℓ sc m own (.Call (.Name x p) args [] pos) K:=
 Ev.call (Ev.nglob hk (k.g G) ⟨k.c _,h⟩ k.n) hns
end
abbrev VX(v:AV)(o1:Own):AV→Own→Prop:=fun a o=>a=v∧sub o1 o
abbrev EvP(G:GC)(ℓ:Nat)(sc:Names)(m:MM)(own:Own)(e:Expr)(v:AV):Prop:=Ev G ℓ sc m own e (VX v own)
abbrev EsP(G:GC)(ℓ:Nat)(sc:Names)(m:MM)(own:Own)(es:List Expr)(vs:List AV):Prop:=Evs G ℓ sc m own es fun as o=>as=vs∧sub own o
abbrev OpP(G:GC)(ℓ:Nat)(own:Own)(f:List Value→Sem Value)(args:List AV)(v:AV):Prop:=Op G ℓ own f args (VX v own)
abbrev CaP(G:GC)(ℓ:Nat)(own:Own)(f:AV)(args:List AV)(v:AV):Prop:=Cal G ℓ own f args (VX v own)
abbrev SbP(G:GC)(ℓ:Nat)(own:Own)(a i v:AV):Prop:=Sb G ℓ own a i (VX v own)
abbrev TsP(G:GC)(ℓ:Nat)(sc:Names)(m:MM)(own:Own)(e:Expr)(b:Bool):Prop:=Tst G ℓ sc m own e fun t o=>t=b∧sub own o
section
variable{G:GC}{ℓ:Nat}{sc:Names}{m:MM}{own:Own}{K:AV→Own→Prop}{x:Str}{pos p:Pos}{v a b:AV}{args:List Expr}{e l r:Expr}
theorem Ev.to(h:EvP G ℓ sc m own e v)(k:K v own):Ev G ℓ sc m own e K:=h.conseq fun V V q=>(iEA own q.2 (q.1▸k))
theorem Op.to{f as}(h:OpP G ℓ own f as v)(k:K v own):Op G ℓ own f as K:=h.conseq fun V V q=>(iEA own q.2 (q.1▸k))
theorem Cal.to{f as}(h:CaP G ℓ own f as v)(k:K v own):Cal G ℓ own f as K:=h.conseq fun V V q=>(iEA own q.2 (q.1▸k))
theorem Tst.to{t:Bool}{K:Bool→Own→Prop}(h:TsP G ℓ sc m own e t)(k:K t own):Tst G ℓ sc m own e K:=h.conseq fun V V q=>(iEA own q.2 (q.1▸k))
theorem Evs.to{es:List Expr}{vs:List AV}{K:List AV→Own→Prop}(h:EsP G ℓ sc m own es vs)(k:K vs own):Evs G ℓ sc m own es K:=
 fun A env X s pos Q E hA O F hQ=>h A env X s pos Q E hA O F fun ws avs o1 s1 h1 S1 O1 r1=>by
  obtain⟨rfl,hs⟩:=h1
  exact hQ ws avs own s1 k (S1.less hs) (O1.less hs) (r1.less hs)
theorem rf:VX v own v own:=⟨rfl,sub.refl _⟩
theorem P.i{i:Int}{k:Nat}:EvP G ℓ sc m own (.Constant (.int i) k pos) (.int i):=Ev.cint rf
theorem P.s{i:Str}{k:Nat}:EvP G ℓ sc m own (.Constant (.str i) k pos) (.str i):=Ev.cstr rf
theorem P.bo{i:Bool}{k:Nat}:EvP G ℓ sc m own (.Constant (.bool i) k pos) (.bool i):=Ev.cbool rf
theorem P.n{k:Nat}:EvP G ℓ sc m own (.Constant .none k pos) .none:=Ev.cnone rf
theorem P.lo(hk:autoParam (sc.lookup x=some .local) sK)(hm:autoParam (m x=some v) sR)(hd:autoParam ((x == ("__debug__":Str))=false) sK):EvP G ℓ sc m own (.Name x pos) v:=Ev.nloc hk hm rf hd
theorem P.ce(hk:autoParam (sc.lookup x=some .cell) sK)(hm:autoParam (m x=some v) sR)(hd:autoParam ((x == ("__debug__":Str))=false) sK):EvP G ℓ sc m own (.Name x pos) v:=Ev.ncell hk hm rf hd
theorem P.fr(hk:autoParam (sc.lookup x=some .free) sK)(hm:autoParam (m x=some v) sR)(hd:autoParam ((x == ("__debug__":Str))=false) sK)(hd2:autoParam ((x == ("__classdict__":Str))=false) sK):EvP G ℓ sc m own (.Name x pos) v:=Ev.nfree hk hm rf hd hd2
theorem P.bin{op:Operator}(h1:EvP G ℓ sc m own l a)(h2:EvP G ℓ sc m own r b)(h3:OpP G ℓ own (op2 (binaryOp op)) [a,b] v):EvP G ℓ sc m own (.BinOp l op r pos) v:=Ev.binop (h1.to (h2.to h3))
theorem P.cmp{op:CmpOp}(h1:EvP G ℓ sc m own l a)(h2:EvP G ℓ sc m own r b)(h3:OpP G ℓ own (op2 (compareOp op)) [a,b] v)(hm:autoParam (behindInMarks op r=false) sU):EvP G ℓ sc m own (.Compare l [op] [r] pos) v:=Ev.cmp (h1.to (h2.to h3)) hm
theorem P.item(h1:EvP G ℓ sc m own l a)(h2:EvP G ℓ sc m own r b)(h3:SbP G ℓ own a b v)(hs:autoParam (∀ o i,subscripted r false o i=operate [o,i] (getItem o i)) sI):EvP G ℓ sc m own (.Subscript l r pos) v:=Ev.item (h1.to (h2.to h3)) hs
theorem P.tup{es:List Expr}{k:Nat}{vs:List AV}(h:EsP G ℓ sc m own es vs)(hl:autoParam (vs.length≤1000) sS):EvP G ℓ sc m own (.Tuple es k pos) (.tup vs):=Ev.tuple (h.to ⟨by rw[sizeLine_eq];lia,rf⟩)
theorem P.nil:EsP G ℓ sc m own [] []:=Evs.nil ⟨rfl,sub.refl _⟩
theorem P.cons{es:List Expr}{vs:List AV}(h1:EvP G ℓ sc m own e v)(h2:EsP G ℓ sc m own es vs)(he:autoParam (∀ env,starEach (e::es) env=(false,eval e env)::starEach es env) sI):EsP G ℓ sc m own (e::es) (v::vs):=Evs.cons (h1.to (h2.to ⟨rfl,sub.refl _⟩)) he
theorem P.one(h1:EvP G ℓ sc m own e v)(he:autoParam (∀ env,starEach (e::[]) env=(false,eval e env)::starEach [] env) sI):EsP G ℓ sc m own [e] [v]:=P.cons h1 P.nil he
theorem P.two{e2:Expr}(h1:EvP G ℓ sc m own e a)(h2:EvP G ℓ sc m own e2 b)(he:autoParam (∀ env,starEach (e::[e2]) env=(false,eval e env)::starEach [e2] env) sI)(he2:autoParam (∀ env,starEach (e2::[]) env=(false,eval e2 env)::starEach [] env) sI):EsP G ℓ sc m own [e,e2] [a,b]:=P.cons h1 (P.one h2 he2) he
theorem Sb.t0{l:List AV}(h:K a own):Sb G ℓ own (.tup (a::l)) (.int 0) K:=Sb.tup (k:=0) (by simp[seqIndex?]) rfl (by decide) h
theorem P.i0{vs:List AV}{k:Nat}{q:Pos}(h1:EvP G ℓ sc m own l (.tup (v::vs))):EvP G ℓ sc m own (.Subscript l (.Constant (.int 0) k q) pos) v:=P.item h1 P.i (Sb.t0 rf) (by intro _ _;rfl)
theorem pick1(a:AV)(l:List AV):avPick (some 1) Option.none (a::l)=l:=by
 unfold avPick
 have:clipAt (l.length+1) 1=1:=by
  unfold clipAt
  rw[if_neg (by decide),Int.min_eq_left (show(1:Int)≤((l.length+1:Nat):Int) from Int.ofNat_le.mpr (Nat.succ_le_succ (Nat.zero_le _)))];rfl
 simp[this]
theorem P.t1{vs:List AV}{k:Nat}{q q2:Pos}(h1:EvP G ℓ sc m own l (.tup (a::vs)))(hs:vs.length≤1000):EvP G ℓ sc m own (.Subscript l (.Slice (some (.Constant (.int 1) k q)) Option.none Option.none q2) pos) (.tup vs):=
 Ev.slice (h1.to (Ev.cint (iEA _ rfl (Sl.tup (by rw[sizeLine_eq,List.length_cons];lia) (by rw[pick1];exact rf)))))
theorem P.u1{vs:List AV}{k:Nat}{q q2:Pos}(h1:EvP G ℓ sc m own l (.tup (a::vs)))(hs:vs.length≤1000):EvP G ℓ sc m own (.Subscript l (.Slice Option.none (some (.Constant (.int 1) k q)) Option.none q2) pos) (.tup [a]):=
 Ev.slice (h1.to (show Ev _ _ _ _ _ _ _ from Ev.cint (iEA _ rfl (Sl.tup (by rw[sizeLine_eq,List.length_cons];lia) (by rw[show(1:Int)=((1:Nat):Int) from rfl,avPick_upto];exact rf)))))
theorem T.ts{t:Bool}(h:EvP G ℓ sc m own e (.bool t))(he:autoParam (∀ env whole,isTrue e env whole=(do let v ← whole;standAt e.pos;holding [v] (truthy v))) sI):TsP G ℓ sc m own e t:=Tst.val (h.to (iEAA t rfl rfl (sub.refl _))) he
theorem T.cmp{op:CmpOp}{t:Bool}(h1:EvP G ℓ sc m own l a)(h2:EvP G ℓ sc m own r b)(h3:OpP G ℓ own (op2 (compareOp op)) [a,b] (.bool t))(hm:autoParam (behindInMarks op r=false) sU):TsP G ℓ sc m own (.Compare l [op] [r] pos) t:=Tst.cmp (h1.to (h2.to (h3.to (iEAA t rfl rfl (sub.refl _))))) hm
theorem T.nt{t:Bool}(h:TsP G ℓ sc m own e t):TsP G ℓ sc m own (.UnaryOp .Not e pos) (!t):=Tst.not (h.to ⟨rfl,sub.refl _⟩)
theorem T.or2{t u:Bool}(h1:TsP G ℓ sc m own l t)(h2:t=false→TsP G ℓ sc m own r u):TsP G ℓ sc m own (.BoolOp .Or [l,r] pos) (t || u):=Tst.boolop (Tsts.or (h1.to (by
 cases t with
 |true=>exact⟨rfl,sub.refl _⟩
 |false=>exact Tsts.or ((h2 rfl).to (by cases u<;>first|exact⟨rfl,sub.refl _⟩|exact Tsts.nil_or ⟨rfl,sub.refl _⟩)))))
theorem T.and2{t u:Bool}(h1:TsP G ℓ sc m own l t)(h2:t=true→TsP G ℓ sc m own r u):TsP G ℓ sc m own (.BoolOp .And [l,r] pos) (t&&u):=Tst.boolop (Tsts.and (h1.to (by
 cases t with
 |false=>exact⟨rfl,sub.refl _⟩
 |true=>exact Tsts.and ((h2 rfl).to (by cases u<;>first|exact⟨rfl,sub.refl _⟩|exact Tsts.nil_and ⟨rfl,sub.refl _⟩)))))
theorem P.and2{t u:Bool}(h1:EvP G ℓ sc m own l (.bool t))(h2:t=true→EvP G ℓ sc m own r (.bool u)):EvP G ℓ sc m own (.BoolOp .And [l,r] pos) (.bool (t&&u)):=Ev.and2 (h1.to (iEA t rfl (by
 cases t with
 |false=>exact rf
 |true=>exact h2 rfl)))
theorem CompBody.map{t:Expr}{elt:Expr}{L:List AV}{C:Own→Prop}{o2:Own}{K:List AV→Own→Prop}(F:AV→AV)(hsz:L.length≤100000)(hC:C o2)
  (h:∀ d,d∈L→∃ m'',Asg sc t d m m''∧EvP G ℓ sc m'' o2 elt (F d)) (hK:K (L.map F) o2):CompBody G ℓ sc m t [] elt L C o2 K:=by
 refine⟨by rw[sizeLine_eq];lia,fun i ys o=>ys=(L.take i).map F∧o=o2,⟨by simp,rfl⟩,fun V V V e=>e.2▸hC,?_,?_⟩
 ·intro J' hJ;rintro i d ys _ hd ⟨rfl,rfl⟩
  refine uEA (h d (List.mem_of_getElem? hd)) fun m'' a e=>?_
  refine⟨m'',a,?_⟩
  unfold IfsT
  dsimp only
  rw[if_pos rfl]
  exact e.to ⟨_,sub.refl _,hJ _ _ _ ⟨by rw[List.take_add_one,hd];simp,rfl⟩⟩
 ·rintro ys _ ⟨rfl,rfl⟩
  rw[List.take_length]
  exact hK
theorem CompBody.filter{t c:Expr}{elt:Expr}{L:List AV}{C:Own→Prop}{o2:Own}{K:List AV→Own→Prop}(P:AV→Bool)(hsz:L.length≤100000)(hC:C o2)
  (h:∀ d,d∈L→∃ m'',Asg sc t d m m''∧TsP G ℓ sc m'' o2 c (P d)∧(P d=true→EvP G ℓ sc m'' o2 elt d)) (hK:K (L.filter P) o2):CompBody G ℓ sc m t [c] elt L C o2 K:=by
 refine⟨by rw[sizeLine_eq];lia,fun i ys o=>ys=(L.take i).filter P∧o=o2,⟨by simp,rfl⟩,fun V V V e=>e.2▸hC,?_,?_⟩
 ·intro J' hJ;rintro i d ys _ hd ⟨rfl,rfl⟩
  refine uEAA (h d (List.mem_of_getElem? hd)) fun m'' a e e2=>?_
  refine⟨m'',a,e.to ?_⟩
  cases hp:P d with
  |true=>
   rw[if_pos rfl]
   exact(e2 hp).to ⟨_,sub.refl _,hJ _ _ _ ⟨by rw[List.take_add_one,hd];simp[hp],rfl⟩⟩
  |false=>
   rw[if_neg (by simp)]
   exact⟨_,sub.refl _,hJ _ _ _ ⟨by rw[List.take_add_one,hd];simp[hp],rfl⟩⟩
 ·rintro ys _ ⟨rfl,rfl⟩
  rw[List.take_length]
  exact hK
def Wk(G:GC)(ℓ:Nat)(own:Own)(t:Expr)(av:AV)(L:List AV):Prop:=∀ K:List AV→(Own→Prop)→Own→Prop,(∀ C:Own→Prop,C own→K L C own)→ItT G ℓ own t av K
theorem Wk.tup{t:Expr}{L:List AV}:Wk G ℓ own t (.tup L) L:=fun K h=>ItT.tup (h _ trivial)
theorem Wk.list{t:Expr}{i:Addr}{L:List AV}(h0:own i=some (.list L)):Wk G ℓ own t (.ref i) L:=fun K h=>ItT.list h0 (h (fun o=>o i=some (.list L)) h0)
theorem Wk.str{t:Expr}{y:Str}(hx:y.cps.all (·<128)=true):Wk G ℓ own t (.str y) (signs y):=fun K h=>ItT.str hx (h _ trivial)
section
variable{t iter elt c:Expr}{scope:Scope}{L:List AV}{F:AV→AV}{Q:AV→Bool}{av:AV}
theorem P.comp(hi:EvP G ℓ sc m own iter av)(hw:Wk G ℓ own t av L)(h:∀ d,d∈L→∃ m'',Asg scope.names t d (seen scope.names m) m''∧EvP G ℓ scope.names m'' own elt (F d))
  (hK:∀ a,own a=Option.none→K (.ref a) (upd own a (.list (L.map F)))) (hsz:L.length≤100000) (hok:autoParam (okNames sc scope.names=true) sK) (hk:autoParam (scope.kind=.function) sR)
  (hs:autoParam (∀ env x,foldedSetIterable iter env x=pure x) sI):Ev G ℓ sc m own (.ListComp elt [⟨t,iter,[],0⟩] scope pos) K:=
 Ev.comp hok hk (hi.to (hw _ fun C hC=>CompBody.map F hsz hC h hK)) hs
theorem P.fil(hi:EvP G ℓ sc m own iter av)(hw:Wk G ℓ own t av L)(h:∀ d,d∈L→∃ m'',Asg scope.names t d (seen scope.names m) m''∧TsP G ℓ scope.names m'' own c (Q d)∧(Q d=true→EvP G ℓ scope.names m'' own elt d))
  (hK:∀ a,own a=Option.none→K (.ref a) (upd own a (.list (L.filter Q)))) (hsz:L.length≤100000) (hok:autoParam (okNames sc scope.names=true) sK) (hk:autoParam (scope.kind=.function) sR)
  (hs:autoParam (∀ env x,foldedSetIterable iter env x=pure x) sI):Ev G ℓ sc m own (.ListComp elt [⟨t,iter,[c],0⟩] scope pos) K:=
 Ev.comp hok hk (hi.to (hw _ fun C hC=>CompBody.filter Q hsz hC h hK)) hs
theorem P.tc{q q2:Pos}(hi:EvP G ℓ sc m own iter av)(hw:Wk G ℓ own t av L)(h:∀ d,d∈L→∃ m'',Asg scope.names t d (seen scope.names m) m''∧EvP G ℓ scope.names m'' own elt (F d))
  (hsz:L.length≤100000) (hn:autoParam (sc.lookup ("tuple":Str)=some .globalImplicit) sK) (hok:autoParam (okNames sc scope.names=true) sK) (hk:autoParam (scope.kind=.function) sR)
  (hs:autoParam (∀ env x,foldedSetIterable iter env x=pure x) sI) (hns:autoParam (∀ env,(starEach [.ListComp elt [⟨t,iter,[],0⟩] scope pos] env).any (·.1)=false) sI)
  (he:autoParam (∀ env,starEach (.ListComp elt [⟨t,iter,[],0⟩] scope pos::[]) env=(false,eval (.ListComp elt [⟨t,iter,[],0⟩] scope pos) env)::starEach [] env) sI) :
  EvP G ℓ sc m own (.Call (.Name "tuple" q) [.ListComp elt [⟨t,iter,[],0⟩] scope pos] [] q2) (.tup (L.map F)):=
 Ev.k k_tuple (Evs.cons (P.comp hi hw h (fun a ha=>Evs.nil (Cal.tupL (upd_self _ _ _) (by rw[sizeLine_eq,List.length_map];lia) ⟨rfl,sub.upd ha⟩)) hsz hok hk hs) he) hn hns
theorem P.su{q q2:Pos}{S:List Int}(hi:EvP G ℓ sc m own iter av)(hw:Wk G ℓ own t av L)(h:∀ d,d∈L→∃ m'',Asg scope.names t d (seen scope.names m) m''∧EvP G ℓ scope.names m'' own elt (F d))
  (hS:L.map F=intL S) (hsz:L.length≤100000) (hn:autoParam (sc.lookup ("sum":Str)=some .globalImplicit) sK) (hok:autoParam (okNames sc scope.names=true) sK) (hk:autoParam (scope.kind=.function) sR)
  (hs:autoParam (∀ env x,foldedSetIterable iter env x=pure x) sI) (hns:autoParam (∀ env,(starEach [.ListComp elt [⟨t,iter,[],0⟩] scope pos] env).any (·.1)=false) sI)
  (he:autoParam (∀ env,starEach (.ListComp elt [⟨t,iter,[],0⟩] scope pos::[]) env=(false,eval (.ListComp elt [⟨t,iter,[],0⟩] scope pos) env)::starEach [] env) sI) :
  EvP G ℓ sc m own (.Call (.Name "sum" q) [.ListComp elt [⟨t,iter,[],0⟩] scope pos] [] q2) (.int S.sum):=
 Ev.k k_sum (Evs.cons (P.comp hi hw h (fun a ha=>Evs.nil (Cal.sum (by rw[upd_self,hS]) ⟨rfl,sub.upd ha⟩)) hsz hok hk hs) he) hn hns
theorem P.filNil{op:CmpOp}{p2 p3:Pos}{b:Bool}(hi:EvP G ℓ sc m own iter av)(hw:Wk G ℓ own t av L)(h:∀ d,d∈L→∃ m'',Asg scope.names t d (seen scope.names m) m''∧TsP G ℓ scope.names m'' own c (Q d)∧(Q d=true→EvP G ℓ scope.names m'' own elt d))
  (hkey:∀ d∈L,d.key=true∧d.dep≤60) (hb:L.filter Q=[]↔b=true) (hl:ℓ≤1000) (hsz:L.length≤100000) (hok:autoParam (okNames sc scope.names=true) sK) (hk:autoParam (scope.kind=.function) sR)
  (hs:autoParam (∀ env x,foldedSetIterable iter env x=pure x) sI) (hm:autoParam (behindInMarks .Eq (.List [] p2)=false) sU) :
  EvP G ℓ sc m own (.Compare (.ListComp elt [⟨t,iter,[c],0⟩] scope pos) [.Eq] [.List [] p2] p3) (.bool b):=by
 refine Ev.cmp (P.fil hi hw h (fun a ha=>Ev.list (Evs.nil ⟨Nat.zero_le _,fun d hd=>?_⟩)) hsz hok hk hs) hm
 have hda:d≠a:=by rintro rfl;rw[upd_self] at hd;cases hd
 have keys:AV.keys (L.filter Q)=true∧AV.deps (L.filter Q)≤60:=by
  have:∀ M:List AV,(∀ d∈M,d.key=true∧d.dep≤60)→AV.keys M=true∧AV.deps M≤60:=by
   intro M
   induction M with
   |nil=>intro _;exact⟨rfl,Nat.zero_le _⟩
   |cons x M ih=>
    intro h
    obtain⟨h1,h2⟩:=ih fun d hd=>h d (List.mem_cons_of_mem _ hd)
    obtain⟨h3,h4⟩:=h x List.mem_cons_self
    exact⟨by rw[AV.keys_2,h3,h1];rfl,by rw[AV.deps_2];lia⟩
  exact this _ fun d hd=>hkey d (List.mem_filter.mp hd).1
 refine Op.eqL (x:=L.filter Q) (y:=[]) (by rw[upd_ne _ _ (Ne.symm hda),upd_self]) (upd_self _ _ _) keys.1 rfl keys.2 (Nat.zero_le _) hl ⟨?_,(sub.upd ha).trans (sub.upd hd)⟩
 congr 1
 rw[Bool.eq_iff_iff,decide_eq_true_eq,hb]
end
variable{K:AF→MM→Own→Prop}{st:Stmt}{rest bd el:List Stmt}{f:AV}
theorem S.ret(h:EvP G ℓ sc m own e v)(k:K (.ret v) m own):Exs G ℓ sc m own (.Return (some e) pos::rest) K:=Exs.cons (Ex.ret (h.to k))
theorem S.ifT(h:TsP G ℓ sc m own e true)(k:Exs G ℓ sc m own bd (andThen G ℓ sc rest K)):Exs G ℓ sc m own (.If e bd el pos::rest) K:=Exs.cons (Ex.if_ (h.to (by rw[if_pos rfl];exact k)))
theorem S.ifF(h:TsP G ℓ sc m own e false)(k:Exs G ℓ sc m own el (andThen G ℓ sc rest K)):Exs G ℓ sc m own (.If e bd el pos::rest) K:=Exs.cons (Ex.if_ (h.to (by rw[if_neg (by simp)];exact k)))
theorem S.ifF0(h:TsP G ℓ sc m own e false)(k:Exs G ℓ sc m own rest K):Exs G ℓ sc m own (.If e bd [] pos::rest) K:=S.ifF h (Exs.nil k)
theorem S.set{pos':Pos}(h:EvP G ℓ sc m own e v)(k:Exs G ℓ sc (mset m x v) own rest K)(hk:autoParam (stOk sc x=true) sK)(hs:autoParam (∀ env,swapsWith e (some (.Name x pos')) pos.line env=pure false) sI):Exs G ℓ sc m own (.Assign [.Name x pos'] e pos::rest) K:=Exs.cons (Ex.assign hk (h.to k) hs)
theorem D.fn{a:Addr}{ps:List Str}{body:List Stmt}{args:List AV}(D:Def G.w.params a ps sc body)(hl:ℓ<950)(h:Exs G (ℓ+1) sc (argM ps args m0) own body (ends (VX v own) own))(hn:autoParam (args.length=ps.length) sR):CaP G ℓ own (.ref a) args v:=Cal.fn D hn hl h
end
section
variable{G:GC}{ℓ:Nat}{sc:Names}{m:MM}{own:Own}{K:AV→Own→Prop}
theorem strHead_isV(x:Str):decide (AV.str (strHead x)=AV.str (Str.ofString "?"))=isV x:=by
 unfold isV strHead
 rw[Str.ofString_eq_toList,decide_eq_decide,AV.str.injEq,Str.mk.injEq]
 constructor
 ·intro h
  have:=congrArg Array.toList h
  simpa using this
 ·intro h
  rw[h];rfl
theorem strHead_ok{x:Str}(h:PyData.strOk x=true):PyData.strOk (strHead x)=true:=by
 refine digits_ok fun c hc=>?_
 unfold strHead at hc
 have:=Array.all_eq_true'.mp h c (Array.mem_toList_iff.mp (List.mem_of_mem_take hc))
 simpa using this
theorem sdep(x:Str):(AV.str x).dep≤64:=by simp[AV.dep_1,AV.dep_2,AV.dep_3]
theorem O.eqS{x y:Str}(hx:PyData.strOk x=true)(hy:PyData.strOk y=true)(hl:ℓ≤1000):OpP G ℓ own (op2 (compareOp .Eq)) [.str x,.str y] (.bool (decide (AV.str x=AV.str y))):=Op.eqK hx hy (sdep _) (sdep _) hl rf
theorem O.neS{x y:Str}(hx:PyData.strOk x=true)(hy:PyData.strOk y=true)(hl:ℓ≤1000):OpP G ℓ own (op2 (compareOp .NotEq)) [.str x,.str y] (.bool !(decide (AV.str x=AV.str y))):=Op.neK hx hy (sdep _) (sdep _) hl rf
theorem qm_ok:PyData.strOk (Str.ofString "?")=true:=by decide +kernel
theorem P.isQ{l:Expr}{x:Str}{k k2:Nat}{q q2 q3 q4 pos:Pos}(h:EvP G ℓ sc m own l (.str x))(hx:opOk x=true)(hl:ℓ≤1000) :
  EvP G ℓ sc m own (.Compare (.Subscript l (.Slice Option.none (some (.Constant (.int 1) k q)) Option.none q2) q3) [.Eq] [.Constant (.str "?") k2 q4] pos) (.bool (isV x)):=
 P.cmp (Ev.slice (h.to (show Ev _ _ _ _ _ _ _ from Ev.cint (iEA _ rfl (Sl.strHead (opOk_iff hx).1 (Nat.le_trans (opOk_iff hx).2.1 (by decide)) rf))))) P.s (by rw[← strHead_isV];exact O.eqS (strHead_ok (opOk_iff hx).2.2) qm_ok hl)
theorem T.isQ{l:Expr}{x:Str}{k k2:Nat}{q q2 q3 q4 pos:Pos}{b:Bool}(h:EvP G ℓ sc m own l (.str x))(hx:opOk x=true)(hl:ℓ≤1000)(hb:isV x=b) :
  TsP G ℓ sc m own (.Compare (.Subscript l (.Slice Option.none (some (.Constant (.int 1) k q)) Option.none q2) q3) [.Eq] [.Constant (.str "?") k2 q4] pos) b:=
 T.cmp (Ev.slice (h.to (show Ev _ _ _ _ _ _ _ from Ev.cint (iEA _ rfl (Sl.strHead (opOk_iff hx).1 (Nat.le_trans (opOk_iff hx).2.1 (by decide)) rf))))) P.s (by rw[← hb,← strHead_isV];exact O.eqS (strHead_ok (opOk_iff hx).2.2) qm_ok hl)
theorem T.eq{e:Expr}{a b:Bool}(h:TsP G ℓ sc m own e a)(q:a=b):TsP G ℓ sc m own e b:=q▸h
theorem P.lenT{e:Expr}{q q2:Pos}{vs:List AV}(h:EvP G ℓ sc m own e (.tup vs))(hs:vs.length≤1000)(hn:autoParam (sc.lookup ("len":Str)=some .globalImplicit) sK)(hns:autoParam (∀ env,(starEach [e] env).any (·.1)=false) sI)
  (he:autoParam (∀ env,starEach (e::[]) env=(false,eval e env)::starEach [] env) sI):EvP G ℓ sc m own (.Call (.Name "len" q) [e] [] q2) (.int vs.length):=
 Ev.k k_len ((P.one h he).to (Cal.lenT (by lia) rf)) hn hns
theorem avs_mem{l:List T}{d:AV}(h:d∈T.avs l):∃ t∈l,d=t.av:=by
 rw[T.avs_eq] at h
 refine uEA (List.mem_map.mp h) ?_;rintro t e rfl
 exact(iEA t e rfl)
open Classical in
noncomputable def lift(f:T→AV)(a:AV):AV:=if h:∃ t,a=T.av t then f h.choose else .none
theorem lift_av(f:T→AV)(t:T):lift f t.av=f t:=by
 unfold lift
 have h:∃ s,t.av=T.av s:=⟨t,rfl⟩
 rw[dif_pos h,← T.av_inj h.choose_spec]
theorem lift_map(f:T→AV)(l:List T):(T.avs l).map (lift f)=l.map f:=by
 rw[T.avs_eq,List.map_map]
 exact List.map_congr_left fun t V=>lift_av f t
structure Tm (o:Str) (ks:List T) (n:Nat):Prop where
 op:opOk o=true
 few:(T.avs ks).length≤1000
 kid:∀ d∈T.avs ks,∃ t,t∈ks∧d=t.av∧t.ok=true∧t.dep≤n
 few4:(T.avs ks).length≤4
 few9:(T.avs ks).length≤900
 fewM:(T.avs ks).length≤100000
 var:((T.avs ks).isEmpty&&isV o)=isV o
theorem Tm.of{o:Str}{ks:List T}{n:Nat}(h:(T.mk o ks).ok=true)(hd:(T.mk o ks).dep≤n+1):Tm o ks n:=by
 rw[T.ok_iff] at h
 have e:=T.avs_len ks
 refine⟨h.1,by rw[e];exact Nat.le_trans h.2.1 (by decide),fun d hdm=>?_,by rw[e];exact h.2.1,by rw[e];exact Nat.le_trans h.2.1 (by decide),by rw[e];exact Nat.le_trans h.2.1 (by decide),?_⟩
 ·refine uEA (avs_mem hdm) ?_;rintro t ht rfl
  rw[T.dep_1] at hd
  exact(iEAAA t ht rfl (h.2.2.2 t ht) (T.deps_le.mp (Nat.le_of_succ_le_succ hd) t ht))
 ·cases hv:isV o with
  |false=>simp
  |true=>rw[h.2.2.1 hv,T.avs_1];rfl
theorem lv{n:Nat}(h:ℓ+(n+1)≤900):ℓ<950∧ℓ+1+n≤900∧ℓ+1<940∧ℓ+1≤900∧ℓ+1≤1000∧ℓ<900:=by
 have a:ℓ+1≤900:=Nat.le_trans (Nat.add_le_add_left (Nat.succ_le_succ (Nat.zero_le n)) ℓ) h
 exact⟨Nat.lt_of_lt_of_le a (by decide),by rw[Nat.add_assoc,Nat.add_comm 1];exact h,Nat.lt_of_le_of_lt a (by decide),a,Nat.le_trans a (by decide),a⟩
theorem fitsL{l:List AV}{k:Nat}(h:l.length≤900)(hk:k≤900):k+l.length≤sizeLine:=by rw[sizeLine_eq];lia
theorem no0{t:T}{p:Prop}(h:t.dep≤0):p:=absurd t.dep_pos (by lia)
theorem is_variable_ok{x:Str}{l:List AV}(hl:ℓ<940)(h1:opOk x=true)(hs:l.length≤900):CaP G ℓ own (.ref 86) [.tup (.str x::l)] (.bool (l.isEmpty&&isV x)):=by
 refine D.fn (def_is_variable _) (by lia) ?_
 conv in (fnBody _)=>whnf
 have e:l.isEmpty=decide (((AV.str x::l).length:Int)=1):=by cases l<;>simp;lia
 rw[e]
 exact S.ret (P.and2 (P.cmp (P.lenT P.lo (by simp;lia)) P.i (Op.eqI rf)) fun V=>P.isQ (P.i0 P.lo) h1 (by lia)) rf
theorem sizes_sum(l:List T):(l.map fun t=>(t.size:Int)).sum=T.sizes l:=by
 induction l with
 |nil=>rfl
 |cons a l ih=>rw[List.map_cons,List.sum_cons,ih,T.sizes_2];lia
theorem intL_map(l:List T)(f:T→Int):(l.map fun t=>AV.int (f t))=intL (l.map f):=by
 induction l with
 |nil=>rfl
 |cons a l ih=>rw[List.map_cons,ih];rfl
theorem size_ok:∀(n:Nat)(t:T)(ℓ:Nat)(own:Own),t.ok=true→t.dep≤n→ℓ+n≤900→CaP G ℓ own (.ref 91) [t.av] (.int t.size)
 |0,_,_,_,_,hd,_=>no0 hd
 |n+1,.mk o ks,ℓ,own,ho,hd,hl=>by
  have I:=Tm.of ho hd
  have L:=lv hl
  refine D.fn (def_size _) L.1 ?_
  conv in (fnBody _)=>whnf
  rw[T.size_1,Int.natCast_add,Int.add_comm]
  refine S.ret (P.bin P.i (P.su (P.t1 P.lo I.few) Wk.tup (F:=lift fun t=>.int t.size) (fun d hd=>?_) ((lift_map _ _).trans (intL_map _ _)) I.fewM) (Op.add ?_)) rf
  ·refine uEAAA (I.kid d hd) ?_;rintro t ht rfl h1 h2
   rw[lift_av]
   exact(iEA _ (.name rfl) (Ev.k k_size ((P.one P.lo).to (size_ok n t _ _ h1 h2 L.2.1))))
  ·rw[sizes_sum];exact rf
noncomputable def bes(B:Bd):List (Str × AV):=B.map fun p=>(p.1,p.2.av)
theorem bes_at(B:Bd)(v:Str):aAt (bes B) v=(bat B v).map T.av:=by
 unfold aAt bes bat
 rw[List.find?_map,Option.map_map,Option.map_map]
 rfl
theorem placed_ok(B:Bd)(tb:Addr):∀(n:Nat)(t:T)(ℓ:Nat)(own:Own),own tb=some (.dS (bes B))→t.ok=true→T.bound B t→t.dep≤n→ℓ+n≤900→CaP G ℓ own (.ref 96) [t.av,.ref tb] (subst B t).av
 |0,_,_,_,_,_,_,hd,_=>no0 hd
 |n+1,.mk o ks,ℓ,own,htb,ho,hb,hd,hl=>by
  have I:=Tm.of ho hd
  have L:=lv hl
  refine D.fn (def_placed _) L.1 ?_
  conv in (fnBody _)=>whnf
  have iv:=is_variable_ok (G:=G) (ℓ:=ℓ+1) (own:=own) (x:=o) (l:=T.avs ks) L.2.2.1 I.op I.few9
  rw[I.var] at iv
  rw[T.bound_1] at hb
  rw[subst_1]
  cases hv:isV o with
  |false=>
   rw[hv] at hb iv
   rw[if_neg (by simp),T.bounds_iff] at hb
   rw[if_neg (by simp)]
   refine S.ifT (T.nt (T.ts (Ev.k k_is_variable ((P.one P.lo).to iv)))) (S.ret (P.bin (P.tup (P.one (P.i0 P.lo))) (P.tc (P.t1 P.lo I.few) Wk.tup (F:=lift fun t=>(subst B t).av) (fun d hd=>?_) I.fewM) (Op.addT (by simp) ?_ rf)) ⟨?_,sub.refl _⟩)
   ·refine uEAAA (I.kid d hd) ?_;rintro t ht rfl h1 h2
    rw[lift_av]
    exact(iEA _ (.name rfl) (Ev.k k_placed ((P.two P.lo P.fr).to (placed_ok B tb n t _ _ htb h1 (hb t ht) h2 L.2.1))))
   ·rw[List.length_map];exact fitsL I.few9 (Nat.succ_le_succ (Nat.zero_le _))
   ·rw[lift_map,T.av_1,T.avs_eq,substs_eq,List.map_map];rfl
  |true=>
   rw[hv] at hb iv
   rw[if_pos rfl] at hb ⊢
   obtain⟨x,hx⟩:=Option.isSome_iff_exists.mp hb
   have ha:aAt (bes B) o=some x.av:=by rw[bes_at,hx];rfl
   refine S.ifF0 (T.nt (T.ts (Ev.k k_is_variable ((P.one P.lo).to iv)))) (S.ifF0 (T.cmp (P.i0 P.lo) P.ce (Op.notIn (Op.inS htb (iEA _ rfl ?_)))) (S.ret (P.item P.ce (P.i0 P.lo) (Sb.dS htb ha rf)) ?_))
   ·rw[ha];exact rf
   ·rw[hx];exact rf
end
section
variable{G:GC}{ℓ:Nat}{sc:Names}{m:MM}{own:Own}{K:AV→Own→Prop}
theorem jn_ok_(one other:Str)(h1:opOk one=true)(h2:opOk other=true):∀(n:Nat)(t:T)(ℓ:Nat)(own:Own),t.ok=true→t.dep≤n→n≤50→ℓ+n≤900→CaP G ℓ own (.ref 544) [t.av,.str one,.str other] (jn one other t).av
 |0,_,_,_,_,hd,_,_=>no0 hd
 |n+1,.mk o ks,ℓ,own,ho,hd,hn,hl=>by
  have I:=Tm.of ho hd
  have L:=lv hl
  have e1:(T.mk other []).av=.tup [.str other]:=by rw[T.av_1,T.avs_1]
  have e2:(T.mk one []).av=.tup [.str one]:=by rw[T.av_1,T.avs_1]
  have k1:=T.key_av _ ho
  have dp:(AV.tup (.str o::T.avs ks)).dep≤64:=by rw[← T.av_1,T.dep_av];exact Nat.le_trans hd (by lia)
  refine D.fn (def_law_joined _) L.1 ?_
  conv in (fnBody _)=>whnf
  have cmp:=Op.eqK (G:=G) (ℓ:=ℓ+1) (own:=own) (a:=.tup (.str o::T.avs ks)) (b:=.tup [.str other]) k1 (by show AV.keys [.str other]=true;rw[AV.keys_2,AV.key_2,(opOk_iff h2).2.2];rfl) dp (by simp[AV.dep_1,AV.dep_2,AV.dep_3,AV.deps_1,AV.deps_2]) L.2.2.2.2.1 (rf (own:=own))
  rw[← T.av_1,← e1] at cmp
  rw[jn_1]
  by_cases q:T.mk o ks=T.mk other []
  ·rw[if_pos q]
   rw[decide_eq_true (T.av_iff.mpr q),e1,T.av_1] at cmp
   exact S.ifT (T.cmp P.lo (P.tup (P.one P.ce)) cmp) (S.ret (P.tup (P.one P.ce)) ⟨e2.symm,sub.refl _⟩)
  ·rw[if_neg q]
   rw[decide_eq_false (fun k=>q (T.av_iff.mp k)),e1,T.av_1] at cmp
   refine S.ifF0 (T.cmp P.lo (P.tup (P.one P.ce)) cmp) (S.ret (P.bin (P.u1 P.lo I.few) (P.tc (P.t1 P.lo I.few) Wk.tup (F:=lift fun t=>(jn one other t).av) (fun d hd=>?_) I.fewM) (Op.addT (by simp) ?_ rf)) ⟨?_,sub.refl _⟩)
   ·refine uEAAA (I.kid d hd) ?_;rintro t ht rfl h3 h4
    rw[lift_av]
    exact(iEA _ (.name rfl) (Ev.k k_law_joined ((P.cons P.lo (P.two P.fr P.fr)).to (jn_ok_ one other h1 h2 n t _ _ h3 h4 (Nat.le_of_succ_le hn) L.2.1))))
   ·rw[List.length_map];exact fitsL I.few9 (Nat.succ_le_succ (Nat.zero_le _))
   ·rw[lift_map,T.av_1,T.avs_eq,jns_eq,List.map_map];rfl
end
section
variable{G:GC}{ℓ:Nat}{sc:Names}{m:MM}{own:Own}{K:AV→Own→Prop}
theorem mset_mono{m:MM}{x:Str}{w:AV}(h:m x=Option.none):∀ y v,m y=some v→mset m x w y=some v:=fun y v e=>by
 rw[mset_ne];exact e
 rintro rfl;rw[h] at e;cases e
theorem enumFrom_get'{l:List T}{i:Nat}{d:AV}(h:(enumFrom 0 (T.avs l))[i]?=some d):∃ t,l[i]?=some t∧d=.tup [.int (i:Int),t.av]:=by
 refine uEA (enumFrom_get h) ?_;rintro x h1 rfl
 rw[T.avs_eq,List.getElem?_map] at h1
 refine uEA (Option.map_eq_some_iff.mp h1) ?_;rintro t e rfl
 exact(iEA t e (by rw[Nat.zero_add]))
noncomputable def pav(p:List Int × T):AV:=.tup [.tup (p.1.map AV.int),p.2.av]
noncomputable def consP(k:Int):AV→AV
 |.tup [.tup p,s]=>.tup [.tup (.int k::p),s]
 |x=>x
theorem parts_lens{a b:List (List Int × T)}{c:List AV}(h1:c.length≤1000)(h:a.length+b.length≤2000):(a.map pav).length+(b.map pav).length≤sizeLine∧(b.map pav).length≤100000:=by
 rw[sizeLine_eq,List.length_map,List.length_map];lia
theorem parts_ok_:∀(n:Nat)(t:T)(ℓ:Nat)(own:Own)(K:AV→Own→Prop),t.ok=true→t.dep≤n→n≤50→t.size≤1000→ℓ+n≤900→(∀ a,own a=Option.none→K (.ref a) (upd own a (.list (t.parts.map pav))))→Cal G ℓ own (.ref 101) [t.av] K
 |0,_,_,_,_,_,hd,_,_,_,_=>no0 hd
 |n+1,.mk o ks,ℓ,own,K,ho,hd,hn,hs,hl,hK=>by
  have I:=Tm.of ho hd
  have L:=lv hl
  rw[T.size_1] at hs
  refine Cal.conseq (K:=fun v w=>∃ a,v=.ref a∧own a=Option.none∧sub (upd own a (.list ((T.mk o ks).parts.map pav))) w) ?_ (fun v w q2076=>uEAA q2076 fun a e h1 h2=>(iEA _ h2 (e▸hK a h1)))
  rw[T.parts_1,T.av_1]
  refine Cal.hid fun KK hKK=>?_
  refine Cal.fn (def_parts _) rfl L.1 ?_
  conv in (fnBody _)=>whnf
  refine Exs.cons (Ex.assign (by kernel_rfl) (Ev.list ((P.one (P.tup (P.two (P.tup P.nil) P.lo))).to ⟨by rw[sizeLine_eq];simp,fun a ha=>?_⟩)))
  refine Exs.cons (Ex.for_ (Ev.k k_enumerate ((P.one (P.t1 P.lo I.few)).to (Cal.enum ⟨fun i m' o'=>m'=mset (argM ["t"] [.tup (.str o::T.avs ks)] m0) "found" (.ref a)∧o'=upd own a (.list ((([],T.mk o ks)::T.partss 0 (ks.take i)).map pav)),⟨rfl,?_⟩,fun V V V V=>trivial,?_,?_⟩))))
  ·rw[List.take_zero,T.partss_1];rfl
  ·intro J' K' hJ hK;rintro i d m' o' hdi ⟨rfl,rfl⟩
   refine uEA (enumFrom_get' hdi) ?_;rintro t ht rfl
   have mt:=List.mem_of_getElem? ht
   refine uEAAA (I.kid t.av (by rw[T.avs_eq];exact List.mem_map_of_mem mt)) fun t' ht' e h3 h4=>?_
   rw[← T.av_inj e] at h3 h4
   have hi:=(List.getElem?_eq_some_iff.mp ht).1
   have sz:(T.partss 0 (ks.take i)).length+t.parts.length≤1000∧t.size≤1000∧T.partss 0 (ks.take (i+1))=T.partss 0 (ks.take i)++t.parts.map fun p=>((i:Int)::p.1,p.2):=by
    have e1:T.partss 0 (ks.take (i+1))=T.partss 0 (ks.take i)++t.parts.map fun p=>((i:Int)::p.1,p.2):=by
     rw[List.take_add_one,ht,Option.toList_some,T.partss_app,T.partss_2,T.partss_1,List.append_nil,List.length_take,Nat.min_eq_left (Nat.le_of_lt hi),Nat.zero_add]
    have e2:T.partss 0 ks=T.partss 0 (ks.take (i+1))++T.partss (0+(ks.take (i+1)).length) (ks.drop (i+1)):=by rw[← T.partss_app,List.take_append_drop]
    have e3:=T.partss_len 0 ks
    rw[e2,e1,List.length_append,List.length_append,List.length_map] at e3
    have:=T.sizes_mem mt
    exact(iAA (by lia) (by lia) e1)
   have pl:=parts_lens (a:=([],T.mk o ks)::T.partss 0 (ks.take i)) (b:=t.parts) (c:=[]) (by simp) (by rw[List.length_cons];have:=sz.1;lia)
   refine⟨_,.pair (by kernel_rfl) (by kernel_rfl),Exs.cons (Ex.expr (Ev.meth mf_extend (Ev.to (v:=.ref a) P.lo ⟨.inl (iAE rfl _ (upd_self _ _ _)),Evs.cons (Ev.comp (by kernel_rfl) rfl (Ev.k k_parts ((P.one P.lo).to (parts_ok_ n t _ _ _ h3 h4 (Nat.le_of_succ_le hn) sz.2.1 L.2.1 fun b hb=>ItT.list (upd_self _ _ _) (CompBody.map (consP (i:Int)) pl.2 (upd_self _ _ _) ?_ fun a2 ha2=>Evs.nil ?_)))))⟩)))⟩
   ·intro d hdm
    refine uEA (List.mem_map.mp hdm) ?_;rintro p hp rfl
    exact(iEA _ (.pair (by kernel_rfl) (by kernel_rfl)) (P.tup (P.two (P.bin (P.tup (P.one P.fr)) P.lo (Op.addT (by simp) (by rw[sizeLine_eq,List.length_map];have:=(T.parts_ok t h3 p hp).2;simp;lia) rf)) P.lo)))
   ·have hba:b≠a:=by rintro rfl;rw[upd_self] at hb;cases hb
    have h2a:a2≠a:=by rintro rfl;rw[upd_ne _ _ (Ne.symm hba),upd_self] at ha2;cases ha2
    refine Cal.extend (by rw[upd_ne _ _ (Ne.symm h2a),upd_ne _ _ (Ne.symm hba),upd_self]) (upd_self _ _ _) (by rw[List.length_map (f:=consP _)];exact pl.1) ⟨rfl,Exs.nil ⟨_,_,?_,sub.upd2 (((sub.upd ha).trans (sub.upd hb)).trans (sub.upd ha2)),hJ _ _ _ ⟨rfl,?_⟩⟩⟩
    ·intro x v hx
     exact mset_mono rfl x v (mset_mono rfl x v hx)
    ·rw[sz.2.2,List.map_cons,List.map_cons,List.map_append,List.map_map,List.map_map,List.cons_append]
     rfl
  ·rintro m' o' ⟨rfl,rfl⟩
   rw[enumFrom_length,T.avs_len,List.take_length]
   exact S.ret P.lo (hKK _ _ (iEAA a rfl ha (sub.refl _)))
noncomputable def keyF(t:T):AV:=.tup [.int t.parts.length,.tup (t.parts.map fun p=>.str p.2.op),.tup (t.parts.map fun p=>.int (p.2.kids.length:Int))]
noncomputable def fstS:AV→AV
 |.tup (x::_)=>x
 |x=>x
noncomputable def cntS:AV→AV
 |.tup (_::l)=>.int (l.length:Int)
 |x=>x
theorem T.av_eq(t:T):t.av=.tup (.str t.op::T.avs t.kids):=by cases t;rw[T.av_1];rfl
noncomputable def sndP:AV→AV
 |.tup [_,s]=>s
 |x=>x
theorem key_of_ok(n:Nat)(t:T)(ℓ:Nat)(own:Own)(ho:t.ok=true)(hd:t.dep≤n)(hn:n≤50)(hs:t.size≤1000)(hl:ℓ+(n+1)≤900):CaP G ℓ own (.ref 113) [t.av] (keyF t):=by
 have L:=lv hl
 have e:=t.parts_len
 have ok:=T.parts_ok t ho
 refine D.fn (def_key_of _) L.1 ?_
 conv in (fnBody _)=>whnf
 refine Exs.cons (Ex.assignComp (by kernel_rfl) (by kernel_rfl) rfl (Ev.k k_parts ((P.one P.lo).to (parts_ok_ n t _ _ _ ho hd hn hs L.2.1 fun b hb=>ItT.list (upd_self _ _ _) (CompBody.map sndP ?_ (upd_self _ _ _) ?_ fun a ha=>?_)))))
 ·rw[List.length_map];lia
 ·intro d hdm
  refine uEA (List.mem_map.mp hdm) ?_;rintro p hp rfl
  exact(iEA _ (.pair (by kernel_rfl) (by kernel_rfl)) P.lo)
 ·rw[List.map_map]
  have ln:(t.parts.map (sndP∘pav)).length≤100000:=by rw[List.length_map];lia
  have mem:∀ d∈t.parts.map (sndP∘pav),∃ p∈t.parts,d=p.2.av:=fun d hd=>by
   refine uEA (List.mem_map.mp hd) ?_;rintro p hp rfl
   exact(iEA p hp rfl)
  refine S.ret (P.tup (P.cons (Ev.k k_len ((P.one P.lo).to (Cal.lenL (upd_self _ _ _) (by lia) rf))) (P.two (P.tc P.lo (Wk.list (upd_self _ _ _)) (F:=fstS) (fun d hd=>?_) ln) (P.tc P.lo (Wk.list (upd_self _ _ _)) (F:=cntS) (fun d hd=>?_) ln)))) ⟨?_,(sub.upd hb).trans (sub.upd ha)⟩
  ·refine uEA (mem d hd) ?_;rintro p hp rfl
   rw[T.av_eq]
   exact(iEA _ (.name rfl) (P.i0 P.lo))
  ·refine uEA (mem d hd) ?_;rintro p hp rfl
   have:=(ok p hp).1
   rw[T.av_eq]
   have k4:(T.avs p.2.kids).length≤4:=by
    rw[← T.eta p.2,T.ok_iff] at this
    rw[T.avs_len];exact this.2.1
   refine(iEA _ (.name rfl) (P.bin (P.lenT P.lo (by rw[List.length_cons];lia)) P.i (Op.sub ⟨?_,sub.refl _⟩)))
   show _=AV.int ((T.avs p.2.kids).length:Int)
   congr 1
   rw[List.length_cons];lia
  ·unfold keyF
   rw[List.length_map,List.map_map,List.map_map]
   have f1:t.parts.map (fstS∘(sndP∘pav))=t.parts.map fun p=>AV.str p.2.op:=List.map_congr_left fun p V=>by
    show fstS p.2.av=_
    rw[T.av_eq];rfl
   have f2:t.parts.map (cntS∘(sndP∘pav))=t.parts.map fun p=>AV.int (p.2.kids.length:Int):=List.map_congr_left fun p V=>by
    show cntS p.2.av=_
    rw[T.av_eq]
    show AV.int ((T.avs p.2.kids).length:Int)=_
    rw[T.avs_len]
   rw[f1,f2]
end
section
variable{G:GC}{ℓ:Nat}{sc:Names}{m:MM}{own:Own}{K:AV→Own→Prop}
abbrev CaX(G:GC)(ℓ:Nat)(own:Own)(f:AV)(args:List AV)(v:AV)(o1:Own):Prop:=Cal G ℓ own f args (VX v o1)
theorem Cal.tx{f as}{v:AV}{o1:Own}(h:CaX G ℓ own f as v o1)(k:K v o1):Cal G ℓ own f as K:=h.conseq fun V V q=>(iEA o1 q.2 (q.1▸k))
theorem bes_put(B:Bd)(v:Str)(x:T):(if (aAt (bes B) v).isSome then bes B else bes B++[(v,x.av)])=bes (bput B v x):=by
 unfold bput
 rw[bes_at]
 cases h:bat B v with
 |some y=>simp
 |none=>simp[bes]
theorem bes_get(B:Bd)(v:Str)(x:T):(aAt (bes B) v).getD x.av=((bat B v).getD x).av:=by
 rw[bes_at];cases bat B v<;>rfl
theorem bput_len(B:Bd)(v:Str)(x:T):(bput B v x).length≤B.length+1:=by
 unfold bput
 split<;>simp
theorem bput_at(B:Bd)(v:Str)(x:T):bat (bput B v x) v=some ((bat B v).getD x):=by rw[bat_put,if_pos rfl]
mutual
theorem fits_len:∀(w n:T)(B:Bd),(fits w n B).2.length≤B.length+w.size
 |.mk v ks,n,B=>by
  rw[fits_1,T.size_1]
  split
  ·have:=bput_len B v n
   show(bput B v n).length≤_
   lia
  ·split
   ·have:=fitss_len ks n.kids B
    lia
   ·exact Nat.le_add_right _ _
theorem fitss_len:∀(ks ns:List T)(B:Bd),(fitss ks ns B).2.length≤B.length+T.sizes ks
 |[],ns,B=>by rw[fitss_1];exact Nat.le_add_right _ _
 |_::_,[],B=>by rw[fitss_2];exact Nat.le_add_right _ _
 |k::ks,n::ns,B=>by
  have h1:=fits_len k n B
  have h2:=fitss_len ks ns (fits k n B).2
  rw[fitss_3,T.sizes_2]
  show(fitss ks ns (fits k n B).2).2.length≤_
  lia
end
theorem fitss_app:∀(a a':List T)(k n:T)(B:Bd),a.length=a'.length→fitss (a++[k]) (a'++[n]) B=((fitss a a' B).1&&(fits k n (fitss a a' B).2).1,(fits k n (fitss a a' B).2).2)
 |[],[],k,n,B,_=>by rw[List.nil_append,List.nil_append,fitss_3,fitss_1,fitss_1];simp
 |x::a,y::a',k,n,B,h=>by
  rw[List.cons_append,List.cons_append,fitss_3,fitss_app a a' k n _ (by simpa using h),fitss_3,Bool.and_assoc]
def BOk(B:Bd)(n:Nat):Prop:=∀ v x,bat B v=some x→x.ok=true∧x.dep≤n
theorem BOk.put{B:Bd}{n:Nat}(h:BOk B n){v:Str}{x:T}(hx:x.ok=true)(hd:x.dep≤n):BOk (bput B v x) n:=by
 intro w y hy
 rw[bat_put] at hy
 split at hy
 ·cases hb:bat B v with
  |none=>rw[hb] at hy;cases hy;exact⟨hx,hd⟩
  |some z=>rw[hb] at hy;cases hy;exact h v _ hb
 ·exact h w y hy
mutual
theorem fits_bok:∀(w n:T)(B:Bd)(N:Nat),BOk B N→n.ok=true→n.dep≤N→BOk (fits w n B).2 N
 |.mk v ks,.mk o ns,B,N,h,h1,h2=>by
  rw[fits_1]
  split
  ·exact h.put h1 h2
  ·split
   ·rw[T.dep_1] at h2
    exact fitss_bok ks ns B N h (fun t ht=>(T.ok_iff.mp h1).2.2.2 t ht) fun t ht=>Nat.le_trans (T.deps_le.mp (Nat.le_refl _) t ht) (Nat.le_of_succ_le h2)
   ·exact h
theorem fitss_bok:∀(ks ns:List T)(B:Bd)(N:Nat),BOk B N→(∀ t∈ns,t.ok=true)→(∀ t∈ns,t.dep≤N)→BOk (fitss ks ns B).2 N
 |[],ns,B,N,h,_,_=>by rw[fitss_1];exact h
 |_::_,[],B,N,h,_,_=>by rw[fitss_2];exact h
 |k::ks,n::ns,B,N,h,h1,h2=>by
  rw[fitss_3]
  exact fitss_bok ks ns _ N (fits_bok k n B N h (h1 n List.mem_cons_self) (h2 n List.mem_cons_self)) (fun t ht=>h1 t (List.mem_cons_of_mem _ ht)) fun t ht=>h2 t (List.mem_cons_of_mem _ ht)
end
theorem nil_bok(n:Nat):BOk [] n:=fun v x h=>by simp[bat] at h
theorem upd_comm{own:Own}{a b:Addr}{x y:AObj}(h:a≠b):upd (upd own a x) b y=upd (upd own b y) a x:=by
 funext c
 unfold upd
 by_cases h1:c=b
 ·subst h1;rw[if_pos rfl,if_neg (Ne.symm h),if_pos rfl]
 ·rw[if_neg h1,if_neg h1]
theorem zip2_get{ks ns:List T}{i:Nat}{d:AV}(h:(zipL [.tup (T.avs ks),.tup (T.avs ns)] ks.length)[i]?=some d)(hl:ks.length=ns.length):∃ k n,ks[i]?=some k∧ns[i]?=some n∧d=.tup [k.av,n.av]:=by
 obtain⟨hi,rfl⟩:=zipL_get h
 refine(iEEAA (ks[i]) (ns[i]'(hl▸hi)) (List.getElem?_eq_getElem hi) (List.getElem?_eq_getElem (hl▸hi)) ?_)
 show AV.tup [(T.avs ks).getD i .none,(T.avs ns).getD i .none]=_
 rw[T.avs_eq,T.avs_eq]
 simp[List.getD_eq_getElem?_getD,hi,hl▸hi]
theorem head_cond(v o:Str)(a b:Nat):(!decide (AV.str v=AV.str o) || !decide (((a+1:Nat):Int)=((b+1:Nat):Int)))=!decide (v=o∧a=b):=by
 by_cases h1:v=o
 ·by_cases h2:a=b
  ·simp[h1,h2]
  ·have:¬ (((a+1:Nat):Int)=((b+1:Nat):Int)):=by lia
   simp only[h1,h2,this,and_false,decide_false,Bool.not_false,Bool.or_true]
 ·simp[h1]
theorem T.sizes_app:∀ a b:List T,T.sizes (a++b)=T.sizes a+T.sizes b
 |[],b=>by rw[T.sizes_1];simp
 |k::a,b=>by rw[List.cons_append,T.sizes_2,T.sizes_2,T.sizes_app a b,Nat.add_assoc]
theorem T.sizes_take{ks:List T}{i:Nat}{k:T}(hk:ks[i]?=some k):T.sizes (ks.take i)+k.size≤T.sizes ks:=by
 obtain⟨hi,rfl⟩:=List.getElem?_eq_some_iff.mp hk
 have:T.sizes (ks.take i++ks[i]::ks.drop (i+1))=T.sizes ks:=by rw[← List.drop_eq_getElem_cons hi,List.take_append_drop]
 rw[← this,T.sizes_app,T.sizes_2];lia
theorem bools_app(a:List Bool)(b:Bool):bools (a++[b])=bools a++[.bool b]:=by
 induction a with
 |nil=>rfl
 |cons x a ih=>rw[List.cons_append,bools,ih];rfl
theorem avP_key{t:T}(h:t.ok=true){n:Nat}(hd:t.dep≤n)(hn:n≤60):t.av.key=true∧t.av.dep≤64:=⟨T.key_av t h,by rw[T.dep_av];lia⟩
theorem fits_ok_(bd:Addr):∀(n:Nat)(w u:T)(B:Bd)(ℓ:Nat)(own:Own),own bd=some (.dS (bes B))→w.ok=true→u.ok=true→w.dep≤n→n≤60→(∃ N≤60,BOk B N∧u.dep≤N)→B.length+w.size≤100000→ℓ+n≤900→
  CaX G ℓ own (.ref 539) [w.av,u.av,.ref bd] (.bool (fits w u B).1) (upd own bd (.dS (bes (fits w u B).2)))
 |0,_,_,_,_,_,_,_,_,hd,_,_,_,_=>no0 hd
 |n+1,.mk v ks,.mk o ns,B,ℓ,own,hb,hw,hu,hd,hn,⟨N,hN,bo,hu2⟩,hB,hl=>by
  have I:=Tm.of hw hd
  have L:=lv hl
  have J:=Tm.of (n:=N) hu (Nat.le_succ_of_le hu2)
  have ku:=avP_key hu hu2 hN
  rw[T.size_1] at hB
  rw[fits_1]
  refine Cal.fn (def_law_fits _) (by rw[T.av_1];rfl) L.1 ?_
  rw[T.av_1]
  conv in (fnBody _)=>whnf
  cases hv:isV v with
  |true=>
   rw[if_pos rfl]
   refine S.ifT (T.isQ (P.i0 P.lo) I.op L.2.2.2.2.1 hv) ?_
   have g:=bes_get B v (.mk o ns)
   have p:=bes_put B v (.mk o ns)
   have kx:((bat B v).getD (.mk o ns)).av.key=true∧((bat B v).getD (.mk o ns)).av.dep≤64:=by
    cases e:bat B v with
    |none=>exact ku
    |some z=>exact avP_key (bo v z e).1 (bo v z e).2 hN
   refine Exs.cons (Ex.ret (Ev.cmp (Ev.meth mf_setdefault (Ev.to (v:=.ref bd) P.ce ⟨.inr ⟨rfl,.inl ⟨_,hb⟩⟩,(P.two (P.i0 P.lo) P.lo).to (Cal.sdS hb (by rw[sizeLine_eq];unfold bes;rw[List.length_map];lia) ?_)⟩))))
   rw[g,p]
   refine Ev.to P.lo (Op.eqK kx.1 ku.1 kx.2 ku.2 L.2.2.2.2.1 ⟨?_,sub.refl _⟩)
   rw[bput_at]
   congr 1
   rw[decide_eq_decide]
   simp only[T.av_iff,Option.some.injEq]
  |false=>
   rw[if_neg (by simp)]
   refine S.ifF0 (T.isQ (P.i0 P.lo) I.op L.2.2.2.2.1 hv) ?_
   have same:upd own bd (.dS (bes B))=own:=upd_same hb
   have cond:=head_cond v o (T.avs ks).length (T.avs ns).length
   rw[T.avs_len,T.avs_len,← T.avs_len ks,← T.avs_len ns] at cond
   have ke:=opOk_iff I.op
   have ke2:=opOk_iff J.op
   have l1:(AV.str v::T.avs ks).length≤1000:=Nat.succ_le_succ (Nat.le_trans I.few9 (by decide))
   have l2:(AV.str o::T.avs ns).length≤1000:=Nat.succ_le_succ (Nat.le_trans J.few9 (by decide))
   have hun:(T.mk o ns).av=.tup (.str o::T.avs ns):=by rw[T.av_1]
   rw[hun]
   by_cases q:v=o∧(T.avs ks).length=(T.avs ns).length
   ·rw[decide_eq_true q] at cond
    have q':v=(T.mk o ns).op∧ks.length=(T.mk o ns).kids.length:=by rw[← T.avs_len ks];exact⟨q.1,q.2.trans (T.avs_len ns)⟩
    rw[if_pos q']
    refine S.ifF0 (T.eq (T.or2 (T.cmp (P.i0 P.lo) (P.i0 P.lo) (O.neS ke.2.2 ke2.2.2 L.2.2.2.2.1)) fun V=>T.cmp (P.lenT P.lo l1) (P.lenT P.lo l2) (Op.neI rf)) cond) ?_
    have hlen:ks.length=ns.length:=q'.2
    refine Exs.cons (Ex.ret (Ev.cmp (Ev.cbool (Ev.comp (by kernel_rfl) rfl (Ev.k k_zip ((P.two (P.t1 P.lo I.few) (P.t1 P.lo J.few)).to (Cal.zip2 (z1:=.tup (T.avs ks)) (z2:=.tup (T.avs ns)) trivial trivial fun a own1 Nz=>ItT.zip Nz (m:=ks.length) ?_ (by simp) (by simp) ?_)))))))
    ·intro z hz
     simp only[List.mem_cons,List.not_mem_nil,or_false] at hz
     rcases hz with rfl|rfl
     ·exact T.avs_len ks
     ·exact(T.avs_len ns).trans hlen.symm
    ·have hTO:own (a+2+1)=Option.none:=(Nz.fresh (a+2+1) (Nat.le_add_right_of_le (Nat.le_add_right a 2))).1
     have hne:bd≠a+2+1:=by intro k;rw[k,hTO] at hb;cases hb
     have s2:=T.sizes_len ks
     have hz:(zipL [ZS.tup (T.avs ks),ZS.tup (T.avs ns)] ks.length).length=ks.length:=by unfold zipL;rw[List.length_map,List.length_range]
     have bo':=fun i=>fitss_bok (ks.take i) (ns.take i) B N bo (fun t ht=>(T.ok_iff.mp hu).2.2.2 t (List.mem_of_mem_take ht)) fun t ht=>Nat.le_trans (T.deps_le.mp (Nat.le_refl _) t (List.mem_of_mem_take ht)) (Nat.le_of_succ_le (by rw[T.dep_1] at hu2;exact hu2))
     refine⟨by rw[hz,sizeLine_eq];lia,fun i ys o'=>∃ bs,ys=bools bs∧bs.all id=(fitss (ks.take i) (ns.take i) B).1∧o'=upd (upd own (a+2+1) (.otup 2)) bd (.dS (bes (fitss (ks.take i) (ns.take i) B).2)),?_,?_,?_,?_⟩
     ·refine(iEAA [] rfl ?_ ?_)
      ·rw[List.take_zero,fitss_1];rfl
      ·rw[List.take_zero,fitss_1]
       exact(upd_same (own:=upd own (a+2+1) (.otup 2)) (by rw[upd_ne _ _ hne];exact hb)).symm
     ·rintro i ys _ hh;refine uEAA hh ?_;clear hh;rintro bs rfl h1 rfl
      exact⟨by show upd (upd own (a+2+1) (.otup 2)) bd _ (a+2+1)=_;rw[upd_ne _ _ (Ne.symm hne)];exact upd_self _ _ _,fun z hz=>by
       simp only[List.mem_cons,List.not_mem_nil,or_false] at hz
       rcases hz with rfl|rfl<;>trivial⟩
     ·intro J' hJ;rintro i d ys _ hdi hh;refine uEAA hh ?_;clear hh;rintro bs rfl h1 rfl
      refine uEEAA (zip2_get hdi hlen) ?_;rintro k u hk hu' rfl
      have mk:=List.mem_of_getElem? hk
      have mu:=List.mem_of_getElem? hu'
      refine uEAAA (I.kid k.av (by rw[T.avs_eq];exact List.mem_map_of_mem mk)) fun k' V e k1 k2=>?_
      rw[← T.av_inj e] at k1 k2
      refine uEAAA (J.kid u.av (by rw[T.avs_eq];exact List.mem_map_of_mem mu)) fun u' V e' u1 u2=>?_
      rw[← T.av_inj e'] at u1 u2
      have ln:=fitss_len (ks.take i) (ns.take i) B
      have ln2:=T.sizes_take hk
      refine⟨_,.pair (by kernel_rfl) (by kernel_rfl),?_⟩
      unfold IfsT
      dsimp only
      rw[if_pos rfl]
      refine Ev.k k_law_fits ((P.cons P.lo (P.two P.lo P.fr)).to ((fits_ok_ bd n k u _ _ _ (upd_self _ _ _) k1 u1 k2 (Nat.le_of_succ_le hn) (iEAA N hN (bo' i) u2) (by lia) L.2.1).tx ⟨_,sub.refl _,hJ _ _ _ (iEAA (bs++[(fits k u (fitss (ks.take i) (ns.take i) B).2).1]) ((bools_app _ _).symm) ?_ ?_)⟩))
      ·rw[List.take_add_one,List.take_add_one,hk,hu',Option.toList_some,Option.toList_some,fitss_app _ _ _ _ _ (by rw[List.length_take,List.length_take,hlen]),List.all_append,h1]
       simp
      ·rw[List.take_add_one,List.take_add_one,hk,hu',Option.toList_some,Option.toList_some,fitss_app _ _ _ _ _ (by rw[List.length_take,List.length_take,hlen]),upd_upd]
     ·rintro ys _ hh;refine uEAA hh ?_;clear hh;rintro bs rfl h1 rfl b2 hb2
      rw[hz] at h1 hb2
      rw[List.take_of_length_le (Nat.le_refl _),List.take_of_length_le (Nat.le_of_eq hlen.symm)] at h1 hb2
      rw[hz,List.take_of_length_le (Nat.le_refl _),List.take_of_length_le (Nat.le_of_eq hlen.symm)]
      refine Op.falseNotIn (upd_self _ _ _) ⟨by rw[h1];rfl,?_⟩
      exact(sub.upd2 (sub.upd hTO)).trans (sub.upd hb2)
   ·rw[decide_eq_false q] at cond
    rw[if_neg (fun k:v=(T.mk o ns).op∧ks.length=(T.mk o ns).kids.length=>q ⟨k.1,by rw[T.avs_len,T.avs_len];exact k.2⟩)]
    exact S.ifT (T.eq (T.or2 (T.cmp (P.i0 P.lo) (P.i0 P.lo) (O.neS ke.2.2 ke2.2.2 L.2.2.2.2.1)) fun V=>T.cmp (P.lenT P.lo l1) (P.lenT P.lo l2) (Op.neI rf)) cond) (S.ret P.bo ⟨rfl,by rw[same];exact sub.refl _⟩)
end
section
variable{G:GC}{ℓ:Nat}{sc:Names}{m:MM}{own:Own}{K:AV→Own→Prop}
theorem kind_fn{env:Env}(h:env.scope.kind=.function):(env.blockKind != .function)=false:=by unfold Env.blockKind;rw[h];rfl
theorem kind_loc{env:Env}{x:Str}(h:env.kindOf x=some .local):(env.kindOf x == some .local)=true:=by rw[h];rfl
noncomputable def prav(p:T × T):AV:=.tup [p.1.av,p.2.av]
noncomputable def msr:List (T × T)→Nat
 |[]=>0
 |p::l=>p.1.size+msr l
theorem msr_1:msr []=0:=by intros;rfl
theorem msr_2:∀(p:T × T) (l:List (T × T)),msr (p::l)=T.size p.fst+msr l:=by intros;rfl
theorem msr_app:∀ a b:List (T × T),msr (a++b)=msr a+msr b
 |[],b=>by rw[msr_1];simp
 |p::a,b=>by rw[List.cons_append,msr_2,msr_2,msr_app a b,Nat.add_assoc]
theorem msr_len:∀ l:List (T × T),l.length≤msr l
 |[]=>Nat.le_refl _
 |p::l=>by rw[msr_2,List.length_cons];have:=msr_len l;have:=p.1.size_pos;lia
theorem msr_zip:∀(a b:List T),a.length=b.length→msr (a.zip b)=T.sizes a
 |[],[],_=>rfl
 |x::a,y::b,h=>by rw[List.zip_cons_cons,msr_2,T.sizes_2,msr_zip a b (by simpa using h)]
theorem msr_rev(l:List (T × T)):msr l.reverse=msr l:=by
 induction l with
 |nil=>rfl
 |cons p l ih=>rw[List.reverse_cons,msr_app,ih,msr_2,msr_2,msr_1];lia
structure Wt (N:Nat) (mt:Bool) (st:List (T × T)) (B L:Bd):Prop where
 rz:Rz B L
 iff:WOk st L↔mt=true
 ok:∀ p∈st,p.1.ok=true∧p.2.ok=true∧p.2.dep≤N
 bok:BOk B N
 len:B.length+msr st≤100000
theorem zipL_zip{a b:List T}(h:a.length=b.length):zipL [.tup (T.avs a),.tup (T.avs b)] a.length=(a.zip b).map prav:=by
 apply List.ext_getElem?
 intro i
 by_cases hi:i<a.length
 ·have hb:i<b.length:=h▸hi
  have e:(zipL [ZS.tup (T.avs a),ZS.tup (T.avs b)] a.length)[i]?=some (.tup (col [ZS.tup (T.avs a),ZS.tup (T.avs b)] i)):=by
   unfold zipL;rw[List.getElem?_map,List.getElem?_range hi];rfl
  refine uEEAA (zip2_get e h) fun k n h1 h2 h3=>?_
  rw[e,h3,List.getElem?_map,show(a.zip b)[i]?=some (k,n) from List.getElem?_zip_eq_some.mpr ⟨h1,h2⟩]
  rfl
 ·have l1:(zipL [ZS.tup (T.avs a),ZS.tup (T.avs b)] a.length).length≤i:=by unfold zipL;rw[List.length_map,List.length_range];lia
  have l2:((a.zip b).map prav).length≤i:=by rw[List.length_map,List.length_zip];lia
  rw[List.getElem?_eq_none l1,List.getElem?_eq_none l2]
theorem matched_ok{w u:T}{N:Nat}(mt:Bool)(hmt:Mt w u↔mt=true)(hw:w.ok=true)(hu:u.ok=true)(hd:u.dep≤N)(hN:N≤60)(hs:w.size≤10000)(hl:ℓ+2≤900)(hK:∀ v:AV,v.isN=!mt→K v own) :
  Cal G ℓ own (.ref 108) [w.av,u.av] K:=by
 have L:=lv (n:=1) hl
 refine Cal.conseq (K:=fun v o=>v.isN=(!mt)∧sub own o) ?_ (fun v o h=>(iEA own h.2 (hK v h.1)))
 refine Cal.fn (def_matched _) rfl L.1 ?_
 conv in (fnBody _)=>whnf
 refine Exs.cons (Ex.assign2w (by kernel_rfl) (by kernel_rfl) (hs:=by intro _;kernel_rfl) (hw:=fun env h1 h2 h3=>by dsimp only[swappedStores,List.filterMap,Expr.pos,List.head?,Option.map,Option.getD];rw[kind_fn h3,kind_loc h1,kind_loc h2];kernel_rfl) (Ev.tuple (Evs.cons (Ev.dict0 (.dS []) (.inl rfl) fun d hd0=>Evs.cons (Ev.list ((P.one (P.tup (P.two P.lo P.lo))).to ⟨by rw[sizeLine_eq];simp,fun l hl0=>Evs.nil (iAEEA (by rw[sizeLine_eq];simp) _ _ rfl ?_)⟩))))))
 have hld:l≠d:=by rintro rfl;rw[upd_self] at hl0;cases hl0
 have hlo:own l=Option.none:=by rwa[upd_ne _ _ hld] at hl0
 refine Exs.cons (Ex.while_ ⟨fun n m' o'=>m'=mset (mset (argM ["pattern","t"] [w.av,u.av] m0) "waiting" (.ref l)) "table" (.ref d)∧∃ st B Lb,Wt N mt st B Lb∧msr st=n∧o'=upd (upd own d (.dS (bes B))) l (.list (st.reverse.map prav)),_,(iAEEEAA rfl [(w,u)] [] [] ⟨Rz.nil,(WOk.one w u).trans hmt,fun p hp=>?_,nil_bok N,?_⟩ rfl rfl),?_⟩)
 ·rw[List.mem_singleton.mp hp];exact(iAA hw hu hd)
 ·show 0+(w.size+0)≤_;lia
 intro J' K' hJ hK2;rintro n m' o' hh;refine uAEEEAA hh ?_;clear hh;rintro rfl st B Lb W rfl rfl
 have ln:=msr_len st
 have wl:=W.len
 refine Tst.to (T.cmp (Ev.k k_len ((P.one P.lo).to (Cal.lenL (upd_self _ _ _) (by rw[List.length_map,List.length_reverse];lia) rf))) P.i (Op.gt rf)) ?_
 cases st with
 |nil=>
  refine hK2 _ _ _ (S.ret P.lo ⟨?_,(sub.upd hd0).trans (sub.upd (by rw[upd_ne _ _ hld];exact hlo))⟩)
  have:mt=true:=W.iff.mp (iEA (fun V=>[]) (fun p hp=>by simp at hp) (by simpa using W.rz.1))
  rw[this];rfl
 |cons p st=>
  obtain⟨⟨v,ks⟩,⟨o,ns⟩⟩:=p
  refine uAA (W.ok _ List.mem_cons_self) fun w1 w2 w3=>?_
  rw[msr_2,T.size_1] at wl
  have I:=Tm.of (n:=(T.mk v ks).dep) w1 (Nat.le_succ _)
  have J:=Tm.of (n:=N) w2 (Nat.le_succ_of_le w3)
  have kB:=avP_key w2 w3 hN
  have e1:(T.mk v ks).av=.tup (.str v::T.avs ks):=by rw[T.av_1]
  have e2:(T.mk o ns).av=.tup (.str o::T.avs ns):=by rw[T.av_1]
  rw[if_pos (by simp<;>omega)]
  have hpop:(((T.mk v ks,T.mk o ns)::st).reverse.map prav)=st.reverse.map prav++[.tup [(T.mk v ks).av,(T.mk o ns).av]]:=by rw[List.reverse_cons,List.map_append];rfl
  have sl:(st.reverse.map prav).length<100000:=by rw[List.length_map,List.length_reverse];rw[List.length_cons,msr_2,T.size_1] at ln;have:=msr_len st;lia
  refine Exs.cons (Ex.assign2 (by kernel_rfl) (by kernel_rfl) (Ev.meth mf_pop (Ev.to (v:=.ref l) P.lo ⟨.inl (iAE rfl _ (upd_self _ _ _)),Evs.nil (Cal.pop (by rw[← hpop];exact upd_self _ _ _) (by rw[sizeLine_eq];lia) (iEEA _ _ rfl ?_))⟩)))
  rw[upd_upd,e1]
  have iv:=is_variable_ok (G:=G) (ℓ:=ℓ+1) (own:=upd (upd own d (.dS (bes B))) l (.list (st.reverse.map prav))) (x:=v) (l:=T.avs ks) L.2.2.1 I.op I.few9
  rw[I.var] at iv
  have hd':upd (upd own d (.dS (bes B))) l (.list (st.reverse.map prav)) d=some (.dS (bes B)):=by rw[upd_ne _ _ (Ne.symm hld),upd_self]
  have back:∀(x y:AV)(z:Str)(q:AV),mset (mset (argM ["pattern","t"] [w.av,u.av] m0) "waiting" (.ref l)) "table" (.ref d) z=some q→mset (mset (mset (mset (argM ["pattern","t"] [w.av,u.av] m0) "waiting" (.ref l)) "table" (.ref d)) "here" x) "there" y z=some q:=fun x y z q h=>mset_mono rfl z q (mset_mono rfl z q h)
  have none_:mt=false→(AV.none).isN=(!mt)∧sub own (upd (upd own d (.dS (bes B))) l (.list (st.reverse.map prav))):=fun h=>⟨by rw[h];rfl,(sub.upd hd0).trans (sub.upd (by rw[upd_ne _ _ hld];exact hlo))⟩
  have no:∀{P:Prop},(P↔mt=true)→¬ P→mt=false:=fun h k=>by cases mt with
   |false=>rfl
   |true=>exact absurd (h.mpr rfl) k
  cases hv:isV v with
  |true=>
   rw[hv] at iv
   refine S.ifT (T.ts (Ev.k k_is_variable ((P.one P.lo).to iv))) ?_
   have g:=bes_get B v (.mk o ns)
   have p:=bes_put B v (.mk o ns)
   have kx:((bat B v).getD (.mk o ns)).av.key=true∧((bat B v).getD (.mk o ns)).av.dep≤64:=by
    cases e:bat B v with
    |none=>exact kB
    |some z=>exact avP_key (W.bok v z e).1 (W.bok v z e).2 hN
   have pl:=bput_len B v (.mk o ns)
   refine Exs.cons (Ex.if_ (Tst.cmp (Ev.meth mf_setdefault (Ev.to (v:=.ref d) P.lo ⟨.inr ⟨rfl,.inl ⟨_,hd'⟩⟩,(P.two (P.i0 P.lo) P.lo).to (Cal.sdS hd' (by rw[sizeLine_eq];unfold bes;rw[List.length_map];lia) ?_)⟩))))
   rw[g,p,upd_comm (Ne.symm hld),upd_upd]
   refine Ev.to P.lo (Op.neK kx.1 kB.1 kx.2 kB.2 L.2.2.2.2.1 (iEA _ rfl ?_))
   have bp:=bput_at B v (.mk o ns)
   rcases W.rz.put v (.mk o ns) with⟨h1,h2⟩|⟨h1,h2⟩
   ·rw[bp,Option.some.injEq] at h1
    rw[h1,decide_eq_true rfl,if_neg (by decide)]
    refine Exs.nil (Exs.nil (Exs.nil ⟨_,_,_,?_,back _ _,sub.refl _,hJ _ _ _ (iAEEEAA rfl st _ _ ⟨h2,(WOk.var hv).symm.trans W.iff,fun q hq=>W.ok q (List.mem_cons_of_mem _ hq),W.bok.put w2 w3,?_⟩ rfl (upd_comm hld))⟩))
    ·rw[msr_2,T.size_1];lia
    ·lia
   ·rw[bp,ne_eq,Option.some.injEq] at h1
    rw[decide_eq_false (fun k=>h1 (T.av_inj k)),Bool.not_false,if_pos rfl]
    have mf:mt=false:=no W.iff fun k=>by
     refine uEA ((WOk.var hv).mp k) fun f V c=>?_
     exact h2 (c.sub fun p hp=>List.mem_append_left _ hp)
    exact Exs.cons (Ex.ret (Ev.to P.n (hK2 _ _ _ ⟨by rw[mf];rfl,(sub.upd hlo).trans (sub.upd (by rw[upd_ne _ _ (Ne.symm hld)];exact hd0))⟩)))
  |false=>
   rw[hv] at iv
   refine S.ifF (T.ts (Ev.k k_is_variable ((P.one P.lo).to iv))) ?_
   rw[e2]
   have cond:=head_cond v o (T.avs ks).length (T.avs ns).length
   have ke:=opOk_iff I.op
   have ke2:=opOk_iff J.op
   have l1:(AV.str v::T.avs ks).length≤1000:=Nat.succ_le_succ (Nat.le_trans I.few9 (by decide))
   have l2:(AV.str o::T.avs ns).length≤1000:=Nat.succ_le_succ (Nat.le_trans J.few9 (by decide))
   by_cases q:v=o∧(T.avs ks).length=(T.avs ns).length
   ·rw[decide_eq_true q] at cond
    have hlen:ks.length=ns.length:=by rw[← T.avs_len ks,q.2,T.avs_len]
    refine S.ifF (T.eq (T.or2 (T.cmp (P.i0 P.lo) (P.i0 P.lo) (O.neS ke.2.2 ke2.2.2 L.2.2.2.2.1)) fun V=>T.cmp (P.lenT P.lo l1) (P.lenT P.lo l2) (Op.neI rf)) cond) ?_
    refine Exs.cons (Ex.expr (Ev.meth mf_extend (Ev.to (v:=.ref l) P.lo ⟨.inl (iAE rfl _ (upd_self _ _ _)),Evs.cons (Ev.k k_zip ((P.two (P.t1 P.lo I.few) (P.t1 P.lo J.few)).to (Cal.zip2 (z1:=.tup (T.avs ks)) (z2:=.tup (T.avs ns)) trivial trivial fun a own1 Nz=>Evs.nil (Cal.extendZip Nz (m:=ks.length) ?_ (by simp) (by simp) ?_ (upd_self _ _ _) ?_ ?_ ⟨rfl,?_⟩))))⟩)))
    ·intro z hz
     simp only[List.mem_cons,List.not_mem_nil,or_false] at hz
     rcases hz with rfl|rfl
     ·exact T.avs_len ks
     ·exact(T.avs_len ns).trans hlen.symm
    ·intro z hz o
     simp only[List.mem_cons,List.not_mem_nil,or_false] at hz
     rcases hz with rfl|rfl<;>trivial
    ·rw[← T.avs_len];exact Nat.le_trans I.few9 (by decide)
    ·lia
    ·rw[upd_upd,zipL_zip hlen]
     refine Exs.nil (Exs.nil (Exs.nil ⟨_,_,_,?_,back _ _,sub.refl _,hJ _ _ _ (iAEEEAA rfl ((ks.zip ns).reverse++st) B Lb ⟨W.rz,?_,?_,W.bok,?_⟩ rfl ?_)⟩))
     ·rw[msr_2,T.size_1,msr_app,msr_rev,msr_zip ks ns hlen];lia
     ·rw[← W.iff,WOk.op (n:=.mk o ns) hv ⟨q.1,hlen⟩]
      have mem:∀ p,p∈(ks.zip ns).reverse++st↔p∈ks.zip ns++st:=fun p=>by rw[List.mem_append,List.mem_append,List.mem_reverse]
      exact⟨WOk.perm mem fun p=>Iff.rfl,WOk.perm (fun p=>(mem p).symm) fun p=>Iff.rfl⟩
     ·intro p hp
      rcases List.mem_append.mp hp with hp|hp
      ·have hp:=List.mem_reverse.mp hp
       obtain⟨m1,m2⟩:=List.of_mem_zip (a:=p.1) (b:=p.2) hp
       exact(iAA (T.ok_kids w1 _ m1) (T.ok_kids w2 _ m2) (T.dep_kids (Nat.le_succ_of_le w3) _ m2))
      ·exact W.ok p (List.mem_cons_of_mem _ hp)
     ·rw[msr_app,msr_rev,msr_zip ks ns hlen];lia
     ·rw[List.reverse_append,List.reverse_reverse,List.map_append]
   ·rw[decide_eq_false q] at cond
    have mf:mt=false:=no W.iff (WOk.not hv fun k=>q ⟨k.1,by rw[T.avs_len,T.avs_len];exact k.2⟩)
    exact S.ifT (T.eq (T.or2 (T.cmp (P.i0 P.lo) (P.i0 P.lo) (O.neS ke.2.2 ke2.2.2 L.2.2.2.2.1)) fun V=>T.cmp (P.lenT P.lo l1) (P.lenT P.lo l2) (Op.neI rf)) cond) (S.ret P.n (hK2 _ _ _ (none_ mf)))
theorem is_covered_ok{w u:T}{N:Nat}(mt:Bool)(hmt:Mt w u↔mt=true)(hw:w.ok=true)(hu:u.ok=true)(hd:u.dep≤N)(hN:N≤60)(hs:w.size≤10000)(hl:ℓ+3≤900):CaP G ℓ own (.ref 245) [u.av,w.av] (.bool mt):=by
 refine D.fn (def_is_covered _) (by lia) ?_
 conv in (fnBody _)=>whnf
 refine Exs.cons (Ex.ret (Ev.cmp (Ev.k k_matched ((P.two P.lo P.lo).to (matched_ok mt hmt hw hu hd hN hs (by lia) fun v hv=>Ev.to P.n (Op.isNotNone ⟨by rw[hv];cases mt<;>rfl,sub.refl _⟩))))))
end
section
variable{α:Type}
open Classical in
noncomputable def gx:List α→α→Nat
 |[],_=>0
 |a::l,r=>if a=r then 0 else gx l r+1
open Classical in
theorem gx_2:∀{α:Type} (x a:α) (l:List α),gx (a::l) x=if a=x then 0 else gx l x+1:=by intros;rfl
open Classical in
noncomputable def gadd(l:List α)(r:α):List α:=if r∈l then l else l++[r]
noncomputable def esG(kf:α→AV)(f:Nat→AV):Nat→List α→List (AV × AV)
 |_,[]=>[]
 |i,r::l=>(kf r,f i)::esG kf f (i+1) l
theorem esG_2:∀{α:Type} (kf:α→AV) (f:Nat→AV) (x:Nat) (r:α) (l:List α),esG kf f x (r::l)=(kf r,f x)::esG kf f (x+1) l:=by intros;rfl
theorem esG_len(kf:α→AV)(f:Nat→AV):∀(l:List α)(i:Nat),(esG kf f i l).length=l.length
 |[],_=>rfl
 |r::l,i=>by rw[esG_2,List.length_cons,esG_len kf f l,List.length_cons]
theorem esG_app(kf:α→AV)(f:Nat→AV)(r:α):∀(l:List α)(i:Nat),esG kf f i (l++[r])=esG kf f i l++[(kf r,f (i+l.length))]
 |[],i=>rfl
 |a::l,i=>by rw[List.cons_append,esG_2,esG_app kf f r l,esG_2,List.length_cons,Nat.add_right_comm,Nat.add_assoc];rfl
theorem esG_at{kf:α→AV}(hk:∀ a b,kf a=kf b→a=b)(f:Nat→AV)(r:α):∀(l:List α)(i:Nat),(r∈l→aAt (esG kf f i l) (kf r)=some (f (i+gx l r)))∧(r∉l→aAt (esG kf f i l) (kf r)=Option.none∧gx l r=l.length)
 |[],i=>⟨fun h=>by simp at h,fun V=>⟨rfl,rfl⟩⟩
 |a::l,i=>by
  have ih:=esG_at hk f r l (i+1)
  rw[esG_2,aAt_cons,gx_2]
  by_cases e:a=r
  ·rw[if_pos (by rw[e]),if_pos e]
   exact⟨fun V=>rfl,fun h=>absurd (by rw[e];exact List.mem_cons_self) h⟩
  ·rw[if_neg (fun k=>e (hk _ _ k)),if_neg e]
   refine⟨fun h=>?_,fun h=>?_⟩
   ·rw[ih.1 ((List.mem_cons.mp h).resolve_left fun q=>e q.symm),Nat.add_right_comm,Nat.add_assoc]
   ·have:=ih.2 fun m=>h (List.mem_cons_of_mem _ m)
    exact⟨this.1,by rw[this.2];rfl⟩
theorem esG_sd{kf:α→AV}(hk:∀ a b,kf a=kf b→a=b)(f:Nat→AV)(r:α)(l:List α):(aAt (esG kf f 0 l) (kf r)).getD (f l.length)=f (gx l r)∧(if (aAt (esG kf f 0 l) (kf r)).isSome then esG kf f 0 l else esG kf f 0 l++[(kf r,f l.length)])=esG kf f 0 (gadd l r):=by
 have:=esG_at hk f r l 0
 unfold gadd
 by_cases h:r∈l
 ·rw[this.1 h,if_pos h,Nat.zero_add];exact⟨rfl,rfl⟩
 ·rw[(this.2 h).1,if_neg h,esG_app,Nat.zero_add,(this.2 h).2];exact⟨rfl,rfl⟩
end
noncomputable def kT(r:List T):AV:=.tup (T.avs r)
theorem kT_inj(a b:List T)(h:kT a=kT b):a=b:=by injection h with h;exact T.avs_inj h
theorem ix_gx:∀(nm:Nm)(r:List T),ix nm r=gx nm r
 |[],_=>rfl
 |a::l,r=>by
  rw[ix_2,gx_2,ix_gx l r]
  by_cases e:a=r
  ·rw[if_pos e,if_pos e]
  ·rw[if_neg e,if_neg e]
theorem add_gadd(nm:Nm)(r:List T):add nm r=gadd nm r:=by
 unfold add gadd
 by_cases e:r∈nm
 ·rw[if_pos e,if_pos e]
 ·rw[if_neg e,if_neg e]
noncomputable def kS(v:Str):AV:=.tup [.str v]
theorem kS_inj(a b:Str)(h:kS a=kS b):a=b:=by injection h with h;injection h with h _;injection h
theorem sx_gx:∀(nm:List Str)(r:Str),sx nm r=gx nm r
 |[],_=>rfl
 |a::l,r=>by
  rw[sx_2,gx_2,sx_gx l r]
  by_cases e:a=r
  ·rw[if_pos e,if_pos e]
  ·rw[if_neg e,if_neg e]
theorem sadd_gadd(nm:List Str)(r:Str):sadd nm r=gadd nm r:=by
 unfold sadd gadd
 by_cases e:r∈nm
 ·rw[if_pos e,if_pos e]
 ·rw[if_neg e,if_neg e]
noncomputable def vS(i:Nat):AV:=.str (vn i)
noncomputable def vT(i:Nat):AV:=.tup [.str (vn i)]
section
variable{G:GC}{ℓ:Nat}{sc:Names}{m:MM}{own:Own}{K:AV→Own→Prop}
theorem log_small{i:Nat}(h:i≤1000):(i:Int).natAbs.log2<1920:=by
 exact Nat.lt_of_le_of_lt (Nat.log2_le_self i) (by lia)
theorem ntx_eq(i:Nat):Str.ofString (toString (i:Int))=ntx i:=rfl
theorem ntx_len4{i:Nat}(h:i≤999):(ntx i).length≤4:=ntx_len (k:=3) (by decide) (by lia)
theorem vn_f(i:Nat):Str.empty++Str.ofString "?"++ntx i=vn i:=by
 have:Str.empty++Str.ofString "?"=qm:=by decide +kernel
 rw[this];rfl
theorem P.fvar{d:Addr}{es:List (AV × AV)}{e:Expr}{k:Nat}{q1 q2 q3 q4 pos:Pos}(he:EvP G ℓ sc m own e (.ref d))(hd:own d=some (.dT es))(hs:es.length≤900)(hn:autoParam (sc.lookup ("len":Str)=some .globalImplicit) sK)
  (hns:autoParam (∀ env,(starEach [e] env).any (·.1)=false) sI) (hee:autoParam (∀ env,starEach (e::[]) env=(false,eval e env)::starEach [] env) sI) :
  EvP G ℓ sc m own (.JoinedStr [.Constant (.str "?") k q1,.FormattedValue (.Call (.Name "len" q2) [e] [] q3) (-1) Option.none q4] pos) (.str (vn es.length)):=by
 have n4:=ntx_len4 (i:=es.length) (by lia)
 have l1:(Str.empty++Str.ofString "?").length=1:=by decide +kernel
 have l2:(Str.empty++Str.ofString "?"++ntx es.length).length≤sizeLine:=by
  rw[Str.length_append,l1,sizeLine_eq];lia
 refine Ev.fstr (Jo.str (by rw[l1,sizeLine_eq];decide) (Jo.int (Ev.k k_len ((P.one he hee).to (Cal.lenDT hd (by lia) (iEAAA _ rfl (log_small (by lia)) ?_ (Jo.nil (iAA ?_ ?_ (sub.refl _)))))) hn hns)))
 ·rw[ntx_eq];exact l2
 ·rw[ntx_eq];exact l2
 ·rw[ntx_eq,vn_f]
theorem named_ok_(nd:Addr):∀(n:Nat)(t:T)(nm:List Str)(ℓ:Nat)(own:Own),own nd=some (.dT (esG kS vT 0 nm))→t.ok=true→t.dep≤n→nm.length+t.size≤900→ℓ+n≤900→
  CaX G ℓ own (.ref 250) [t.av,.ref nd] (nmd t nm).1.av (upd own nd (.dT (esG kS vT 0 (nmd t nm).2)))
 |0,_,_,_,_,_,_,hd,_,_=>no0 hd
 |n+1,.mk o ks,nm,ℓ,own,hnd,ho,hd,hs,hl=>by
  have I:=Tm.of ho hd
  have L:=lv hl
  have ke:=opOk_iff I.op
  have el:=esG_len kS vT nm 0
  rw[T.size_1] at hs
  rw[nmd_1,T.av_1]
  refine Cal.fn (def_named _) rfl L.1 ?_
  conv in (fnBody _)=>whnf
  cases hv:isV o with
  |true=>
   have hk:T.avs ks=[]:=by
    have:=I.var
    rw[hv,Bool.and_true,List.isEmpty_iff] at this
    exact this
   rw[hk,if_pos rfl]
   refine S.ifT (T.isQ (P.i0 P.lo) I.op L.2.2.2.2.1 hv) (Exs.cons (Ex.ret (Ev.meth mf_setdefault (Ev.to (v:=.ref nd) P.ce ⟨.inr ⟨rfl,.inr (.inr ⟨_,hnd⟩)⟩,(P.two P.lo (P.tup (P.one (P.fvar P.ce hnd (by lia))))).to (Cal.sdT L.2.2.2.2.1 hnd ⟨?_,?_⟩ (by rw[el,sizeLine_eq];lia) ?_)⟩))))
   ·rw[AV.key_3,AV.keys_2,AV.key_2,ke.2.2];rfl
   ·simp[AV.dep_1,AV.dep_2,AV.dep_3,AV.deps_1,AV.deps_2]
   ·have:=esG_sd kS_inj vT o nm
    rw[el]
    refine⟨?_,?_⟩
    ·refine this.1.trans ?_
     rw[← sx_gx,T.av_1,T.avs_1];rfl
    ·have e2:=this.2
     rw[← sadd_gadd] at e2
     show sub _ (upd own nd (.dT (if (aAt (esG kS vT 0 nm) (kS o)).isSome=true then esG kS vT 0 nm else esG kS vT 0 nm++[(kS o,vT nm.length)])))
     rw[e2];exact sub.refl _
  |false=>
   rw[if_neg (by decide)]
   refine S.ifF0 (T.isQ (P.i0 P.lo) I.op L.2.2.2.2.1 hv) (Exs.cons (Ex.ret (Ev.binop (Ev.to (P.u1 P.lo I.few) (Ev.k k_tuple (Evs.cons (Ev.comp (by kernel_rfl) rfl (Ev.to (P.t1 P.lo I.few) (ItT.tup ⟨by rw[sizeLine_eq];exact Nat.le_trans I.fewM (by decide),fun i ys o'=>ys=T.avs (nmds (ks.take i) nm).1∧o'=upd own nd (.dT (esG kS vT 0 (nmds (ks.take i) nm).2)),?_,fun V V V V=>trivial,?_,?_⟩)))))))))
   ·rw[List.take_zero,nmds_1,T.avs_1]
    exact⟨rfl,(upd_same hnd).symm⟩
   ·intro J' hJ;rintro i d ys _ hdi ⟨rfl,rfl⟩
    rw[T.avs_eq,List.getElem?_map] at hdi
    refine uEA (Option.map_eq_some_iff.mp hdi) ?_;rintro t ht rfl
    have mt:=List.mem_of_getElem? ht
    refine uEAAA (I.kid t.av (by rw[T.avs_eq];exact List.mem_map_of_mem mt)) fun t' V e h3 h4=>?_
    rw[← T.av_inj e] at h3 h4
    have ln:=nmds_len2 (ks.take i) nm
    have sz:=T.sizes_take ht
    refine⟨_,.name rfl,?_⟩
    unfold IfsT
    dsimp only
    rw[if_pos rfl]
    refine Ev.k k_named ((P.two P.lo P.fr).to ((named_ok_ nd n t _ _ _ (upd_self _ _ _) h3 h4 (by lia) L.2.1).tx ⟨_,sub.refl _,hJ _ _ _ ⟨?_,?_⟩⟩))
    ·rw[List.take_add_one,ht,Option.toList_some,nmds_app,T.avs_eq,T.avs_eq,List.map_append,nmds_2,nmds_1];rfl
    ·rw[List.take_add_one,ht,Option.toList_some,nmds_app,upd_upd,nmds_2,nmds_1]
   ·rintro ys _ ⟨rfl,rfl⟩ a ha
    rw[T.avs_len,List.take_length] at ha ⊢
    have e1:(T.avs (nmds ks nm).1).length≤900:=by rw[T.avs_len,nmds_len,← T.avs_len];exact I.few9
    refine Evs.nil (Cal.tupL (upd_self _ _ _) (by rw[sizeLine_eq];lia) (Op.addT (by simp) (fitsL e1 (Nat.succ_le_succ (Nat.zero_le _))) ⟨?_,sub.upd ha⟩))
    rw[T.av_1];rfl
end
section
variable{G:GC}{ℓ:Nat}{sc:Names}{m:MM}{own:Own}{K:AV→Own→Prop}
theorem Cal.zipN{zs:List ZS}{K:AV→Own→Prop}(h:zs.length=2∨zs.length=3)(hC:∀ z∈zs,z.C own)(k:∀ a own1,ZipN G own own1 a zs→K (.ref (a+zs.length+2)) own1):Cal G ℓ own (.ty "zip") (zs.map ZS.av) K:=by
 rcases h with h|h
 ·obtain⟨z1,zs,rfl,h1⟩:=len1 h
  obtain⟨z2,zs,rfl,h2⟩:=len1 h1
  obtain rfl:=len0 h2
  exact Cal.zip2 (hC z1 (by simp)) (hC z2 (by simp)) k
 ·obtain⟨z1,zs,rfl,h1⟩:=len1 h
  obtain⟨z2,zs,rfl,h2⟩:=len1 h1
  obtain⟨z3,zs,rfl,h3⟩:=len1 h2
  obtain rfl:=len0 h3
  exact Cal.zip3 (hC z1 (by simp)) (hC z2 (by simp)) (hC z3 (by simp)) k
theorem S.setC{x:Str}{px pos spos:Pos}{t iter elt:Expr}{scope:Scope}{L:List AV}{F:AV→AV}{av:AV}{rest:List Stmt}{K:AF→MM→Own→Prop}(hi:EvP G ℓ sc m own iter av)(hw:Wk G ℓ own t av L)
  (h:∀ d,d∈L→∃ m'',Asg scope.names t d (seen scope.names m) m''∧EvP G ℓ scope.names m'' own elt (F d)) (hsz:L.length≤100000) (k:∀ a,own a=Option.none→Exs G ℓ sc (mset m x (.ref a)) (upd own a (.list (L.map F))) rest K)
  (hx:autoParam (stOk sc x=true) sK) (hok:autoParam (okNames sc scope.names=true) sK) (hk:autoParam (scope.kind=.function) sR) (hs:autoParam (∀ env x,foldedSetIterable iter env x=pure x) sI) :
  Exs G ℓ sc m own (.Assign [.Name x px] (.ListComp elt [⟨t,iter,[],0⟩] scope pos) spos::rest) K:=
 Exs.cons (Ex.assignComp hx hok hk (hi.to (hw _ fun C hC=>CompBody.map F hsz hC h k)) hs)
noncomputable def hdA(t:T):AV:=.tup [.str t.op,.int ((t.kids.length+1:Nat):Int)]
theorem hdA_iff{a b:T}:hdA a=hdA b↔a.op=b.op∧a.kids.length=b.kids.length:=by
 unfold hdA
 simp only[AV.tup.injEq,List.cons.injEq,AV.str.injEq,AV.int.injEq,and_true]
 constructor
 ·rintro⟨h1,h2⟩;exact⟨h1,by lia⟩
 ·rintro⟨h1,h2⟩;exact⟨h1,by lia⟩
theorem hdA_key{t:T}(h:t.ok=true):(hdA t).key=true∧(hdA t).dep≤1:=by
 rw[← T.eta t,T.ok_iff] at h
 unfold hdA
 refine⟨?_,by simp[AV.dep_1,AV.dep_2,AV.dep_3,AV.deps_1,AV.deps_2]⟩
 rw[AV.key_3,AV.keys_2,AV.key_2,(opOk_iff h.1).2.2,AV.keys_2,AV.keys_1,AV.key_1];rfl
theorem heads_eq{rows:List T}(h:rows≠[]):decide (rows.map hdA=List.replicate rows.length (hdA (hd0 rows)))=sameH rows:=by
 rw[Bool.eq_iff_iff,decide_eq_true_eq,sameH_iff h]
 constructor
 ·intro e a ha
  have:hdA a∈rows.map hdA:=List.mem_map_of_mem ha
  rw[e] at this
  exact hdA_iff.mp (List.mem_replicate.mp this).2
 ·intro k
  rw[List.eq_replicate_iff]
  refine⟨by simp,fun x hx=>?_⟩
  refine uEA (List.mem_map.mp hx) ?_;rintro a ha rfl
  exact hdA_iff.mpr (k a ha)
structure Rw (rows:List T) (f:Nat):Prop where
 len:rows.length=2∨rows.length=3
 ok:∀ t∈rows,t.ok=true
 dep:∀ t∈rows,t.dep≤f
theorem Rw.ne{rows:List T}{f:Nat}(R:Rw rows f):rows≠[]:=by rintro rfl;rcases R.len with h|h<;>cases h
theorem Rw.av{rows:List T}{f:Nat}(R:Rw rows f)(d:AV)(h:d∈T.avs rows):∃ t,t∈rows∧d=t.av∧t.ok=true∧(T.avs t.kids).length≤1000∧(AV.str t.op::T.avs t.kids).length≤1000:=by
 refine uEA (avs_mem h) ?_;rintro t ht rfl
 have:=R.ok t ht
 have k:(T.avs t.kids).length≤4:=by rw[T.avs_len];rw[← T.eta t,T.ok_iff] at this;exact this.2.1
 exact(iEAAAA t ht rfl this (Nat.le_trans k (by decide)) (by rw[List.length_cons];lia))
theorem Rw.small{rows:List T}{f:Nat}(R:Rw rows f):(T.avs rows).length≤3∧(T.avs rows).length≤1000∧(T.avs rows).length≤100000∧rows.length=(T.avs rows).length:=by
 rw[T.avs_len];rcases R.len with h|h<;>rw[h]<;>decide
theorem Rw.key{rows:List T}{f:Nat}(R:Rw rows f)(hf:f≤7):tkOk (kT rows):=by
 refine⟨?_,?_⟩
 ·show AV.keys (T.avs rows)=true
  exact T.keys_avs rows R.ok
 ·unfold kT
  rw[AV.dep_1,T.deps_avs]
  exact Nat.succ_le_succ (Nat.le_trans (T.deps_le.mpr R.dep) hf)
theorem Rw.col{rows:List T}{f k:Nat}(R:Rw rows (f+1))(hs:sameH rows=true)(hk:k<(hd0 rows).kids.length):Rw (colT rows k) f:=
 ⟨by unfold colT;rw[List.length_map];exact R.len,colT_all hs hk R.ne R.ok fun t h=>T.ok_kids h,colT_all hs hk R.ne R.dep fun t h=>T.dep_kids h⟩
theorem Rw.hd{rows:List T}{f:Nat}(R:Rw rows f):(hd0 rows).kids.length≤4∧opOk (hd0 rows).op=true:=by
 have:=R.ok _ (hd0_mem R.ne)
 rw[← T.eta (hd0 rows),T.ok_iff] at this
 exact⟨this.2.1,this.1⟩
theorem Rw.cons{rows:List T}{f:Nat}(R:Rw rows f):∃ l,T.avs rows=.tup (.str (hd0 rows).op::T.avs (hd0 rows).kids)::l∧rows.map hdA=hdA (hd0 rows)::rows.tail.map hdA:=by
 cases rows with
 |nil=>exact absurd rfl R.ne
 |cons a l=>exact(iEA (T.avs l) (by rw[T.avs_2,T.av_eq];rfl) rfl)
theorem hdA_keys{rows:List T}(h:∀ t∈rows,t.ok=true):AV.keys (rows.map hdA)=true∧AV.deps (rows.map hdA)≤60:=by
 induction rows with
 |nil=>exact⟨rfl,Nat.zero_le _⟩
 |cons a l ih=>
  have:=ih fun t ht=>h t (List.mem_cons_of_mem _ ht)
  have k:=hdA_key (h a List.mem_cons_self)
  rw[List.map_cons]
  exact⟨by rw[AV.keys_2,k.1,this.1];rfl,by rw[AV.deps_2];lia⟩
theorem rep_keys{a:AV}(h:a.key=true)(hd:a.dep≤1):∀ n,AV.keys (List.replicate n a)=true∧AV.deps (List.replicate n a)≤60
 |0=>⟨rfl,Nat.zero_le _⟩
 |n+1=>by
  have:=rep_keys h hd n
  rw[List.replicate_succ]
  exact⟨by rw[AV.keys_2,h,this.1];rfl,by rw[AV.deps_2];lia⟩
noncomputable def tailA:AV→AV
 |.tup (_::l)=>.tup l
 |x=>x
theorem qm_sp(i:Nat):Str.ofString "?"++ntx i=vn i:=rfl
theorem P.svar{d:Addr}{es:List (AV × AV)}{e:Expr}{k:Nat}{q1 q2 q3 q4 q5 pos:Pos}(he:EvP G ℓ sc m own e (.ref d))(hd:own d=some (.dT es))(hs:es.length≤900)(hn:autoParam (sc.lookup ("len":Str)=some .globalImplicit) sK)(hn2:autoParam (sc.lookup ("str":Str)=some .globalImplicit) sK)
  (hns:autoParam (∀ env,(starEach [e] env).any (·.1)=false) sI) (hee:autoParam (∀ env,starEach (e::[]) env=(false,eval e env)::starEach [] env) sI) :
  EvP G ℓ sc m own (.BinOp (.Constant (.str "?") k q1) .Add (.Call (.Name "str" q2) [.Call (.Name "len" q3) [e] [] q4] [] q5) pos) (.str (vn es.length)):=by
 have n4:=ntx_len4 (i:=es.length) (by lia)
 have l1:(Str.ofString "?").length=1:=by decide +kernel
 refine P.bin P.s (Ev.k k_str ((P.one (Ev.k k_len ((P.one he hee).to (Cal.lenDT hd (by lia) rf)) hn hns)).to (Cal.strI (log_small (by lia)) rf)) hn2) (Op.addS ?_ ?_)
 ·rw[ntx_eq,l1,sizeLine_eq];lia
 ·rw[ntx_eq,qm_sp];exact rf
theorem zip_col{rows:List T}{k:Nat}(hk:∀ t∈rows,k<t.kids.length):AV.tup (Mine.col (rows.map fun t=>ZS.tup (T.avs t.kids)) k)=.tup (T.avs (colT rows k)):=by
 unfold Mine.col colT
 rw[List.map_map,T.avs_eq,List.map_map]
 congr 1
 refine List.map_congr_left fun t ht=>?_
 show(T.avs t.kids).getD k .none=(t.kids.getD k dft).av
 have:=hk t ht
 rw[T.avs_eq,List.getD_eq_getElem?_getD,List.getD_eq_getElem?_getD,List.getElem?_map,List.getElem?_eq_getElem this]
 rfl
theorem sizes_range'(l:List T):∀ i,i≤l.length→((List.range i).map fun k=>(l.getD k dft).size).sum=T.sizes (l.take i)
 |0,_=>by rw[List.take_zero,T.sizes_1];rfl
 |i+1,h=>by
  rw[List.range_succ,List.map_append,List.sum_append,sizes_range' l i (Nat.le_of_succ_le h),List.take_add_one,List.getElem?_eq_getElem h,Option.toList_some,T.sizes_app,T.sizes_2,T.sizes_1]
  simp[List.getD_eq_getElem?_getD,List.getElem?_eq_getElem h]
theorem col_room{f:Nat}{rows:List T}{nm:Nm}(h:rows≠[]){i:Nat}(hi:i<(hd0 rows).kids.length):(mapSt (fun k=>au f (colT rows k)) (List.range i) nm).2.length+(hd0 (colT rows i)).size≤nm.length+(hd0 rows).size:=by
 have:=mapSt_len2 (g:=fun k=>au f (colT rows k)) (z:=fun k=>((hd0 rows).kids.getD k dft).size) (List.range i) nm fun k V nm=>by
  have:=au_len f (colT rows k) nm (colT_ne h k)
  rwa[colT_hd h] at this
 rw[sizes_range' _ i (Nat.le_of_lt hi)] at this
 have q:=T.sizes_take (List.getElem?_eq_getElem hi)
 rw[colT_hd h,T.size_eq (hd0 rows),List.getD_eq_getElem?_getD,List.getElem?_eq_getElem hi]
 show _+(hd0 rows).kids[i].size≤_
 lia
theorem mapSt_succ(g:Nat→Nm→T × Nm)(i:Nat)(nm:Nm):mapSt g (List.range (i+1)) nm=((mapSt g (List.range i) nm).1++[(g i (mapSt g (List.range i) nm).2).1],(g i (mapSt g (List.range i) nm).2).2):=by
 rw[List.range_succ,mapSt_app,mapSt_2,mapSt_1]
theorem shared_ok_(kd:Addr):∀(f:Nat)(rows:List T)(nm:Nm)(ℓ:Nat)(own:Own),own kd=some (.dT (esG kT vS 0 nm))→Rw rows f→f≤7→nm.length+(hd0 rows).size≤900→ℓ+f≤900→
  CaX G ℓ own (.ref 534) [.tup (T.avs rows),.ref kd] (au f rows nm).1.av (upd own kd (.dT (esG kT vS 0 (au f rows nm).2)))
 |0,_,_,_,_,_,R,_,_,_=>no0 (R.dep _ (hd0_mem R.ne))
 |f+1,rows,nm,ℓ,own,hkd,R,hf,hs,hl=>by
  have L:=lv hl
  have el:=esG_len kT vS nm 0
  have sm:=R.small
  have hh:=R.hd
  refine uEA R.cons fun tl hc1 hc2=>?_
  rw[au_2]
  refine Cal.fn (def_law_shared _) rfl L.1 ?_
  conv in (fnBody _)=>whnf
  refine S.setC P.lo Wk.tup (F:=lift hdA) (fun d hd=>?_) sm.2.2.1 fun a ha=>?_
  ·refine uEAAAA (R.av d hd) ?_;rintro t ht rfl h1 h2 h3
   rw[lift_av,T.av_eq]
   refine(iEA _ (.name rfl) (P.tup (P.two (P.i0 P.lo) (Ev.to (P.lenT P.lo h3) ⟨?_,sub.refl _⟩))))
   rw[List.length_cons,T.avs_len]
  ·rw[lift_map]
   have hka:kd≠a:=by rintro rfl;rw[ha] at hkd;cases hkd
   have hk1:upd own a (.list (rows.map hdA)) kd=some (.dT (esG kT vS 0 nm)):=by rw[upd_ne _ _ hka];exact hkd
   have hl3:(rows.map hdA).length≤3:=by rw[List.length_map,sm.2.2.2];exact sm.1
   have hp:avPick Option.none (some 1) (rows.map hdA)=[hdA (hd0 rows)]:=by rw[show(1:Int)=((1:Nat):Int) from rfl,avPick_upto,hc2];rfl
   have kk:=hdA_keys R.ok
   have hk0:=hdA_key (R.ok _ (hd0_mem R.ne))
   have kr:=rep_keys hk0.1 hk0.2 rows.length
   refine Exs.cons (Ex.if_ (Tst.cmp (Ev.to P.lo (Ev.binop (Ev.slice (Ev.to P.lo (show Ev _ _ _ _ _ _ _ from Ev.cint (iEA _ rfl (Sl.list (upd_self _ _ _) (by rw[sizeLine_eq];lia) fun b hb=>?_))))))))) 
   have hba:b≠a:=by rintro rfl;rw[upd_self] at hb;cases hb
   rw[hp]
   have hln:(rows.map hdA).length=rows.length:=List.length_map _
   refine Ev.k k_len ((P.one P.lo).to (Cal.lenL (l:=rows.map hdA) (by rw[upd_ne _ _ (Ne.symm hba),upd_self]) (by lia) (Op.mulL (k:=(rows.map hdA).length) (upd_self _ _ _) (by lia) fun c hc=>?_)))
   have hca:c≠a:=by rintro rfl;rw[upd_ne _ _ (Ne.symm hba),upd_self] at hc;cases hc
   have hcb:c≠b:=by rintro rfl;rw[upd_self] at hc;cases hc
   refine Op.neL (x:=rows.map hdA) (y:=List.replicate (rows.map hdA).length (hdA (hd0 rows))) (by rw[upd_ne _ _ (Ne.symm hca),upd_ne _ _ (Ne.symm hba),upd_self]) (upd_self _ _ _) kk.1 (by rw[hln];exact kr.1) kk.2 (by rw[hln];exact kr.2) L.2.2.2.2.1 (iEA _ rfl ?_)
   rw[hln,heads_eq R.ne]
   have hkb:kd≠b:=by rintro rfl;rw[hk1] at hb;cases hb
   have hkc:kd≠c:=by rintro rfl;rw[upd_ne _ _ hkb,hk1] at hc;cases hc
   have hk3:upd (upd (upd own a (.list (rows.map hdA))) b (.list [hdA (hd0 rows)])) c (.list (List.replicate rows.length (hdA (hd0 rows)))) kd=some (.dT (esG kT vS 0 nm)):=by rw[upd_ne _ _ hkc,upd_ne _ _ hkb,hk1]
   have S3:=((sub.upd ha).trans (sub.upd hb)).trans (sub.upd (o:=.list (List.replicate rows.length (hdA (hd0 rows)))) hc)
   cases hsm:sameH rows with
   |false=>
    rw[Bool.not_false,if_pos rfl,if_neg (by decide)]
    have:=esG_sd kT_inj vS rows nm
    refine Exs.cons (Ex.ret (Ev.tuple (Evs.cons (Ev.meth mf_setdefault (Ev.to (v:=.ref kd) P.ce ⟨.inr ⟨rfl,.inr (.inr ⟨_,hk3⟩)⟩,(P.two P.lo (P.svar P.ce hk3 (by lia))).to (Cal.sdT L.2.2.2.2.1 hk3 (R.key hf) (by rw[el,sizeLine_eq];lia) ?_)⟩)))))
    rw[el]
    refine Evs.nil (iAA (by rw[sizeLine_eq];simp) ?_ ?_)
    ·rw[← kT,T.av_1,T.avs_1,ix_gx]
     exact congrArg (fun x=>AV.tup [x]) this.1
    ·have e2:=this.2
     rw[← add_gadd] at e2
     show sub _ (upd _ kd (.dT (if (aAt (esG kT vS 0 nm) (kT rows)).isSome=true then esG kT vS 0 nm else esG kT vS 0 nm++[(kT rows,vS nm.length)])))
     rw[e2]
     exact sub.upd2 S3
   |true=>
    rw[Bool.not_true,if_neg (by decide),if_pos rfl]
    have e:=(sameH_iff R.ne).mp hsm
    have kz:∀ z∈rows.map (fun t=>ZS.tup (T.avs t.kids)),∃ t∈rows,z=.tup (T.avs t.kids):=fun z hz=>by
     refine uEA (List.mem_map.mp hz) ?_;rintro t ht rfl
     exact(iEA t ht rfl)
    have zl:(rows.map fun t=>ZS.tup (T.avs t.kids)).length=rows.length:=List.length_map _
    have za:(T.avs rows).map tailA=(rows.map fun t=>ZS.tup (T.avs t.kids)).map ZS.av:=by
     rw[T.avs_eq,List.map_map,List.map_map]
     exact List.map_congr_left fun t V=>by
      show tailA t.av=_
      rw[T.av_eq];rfl
    refine Exs.nil (Exs.cons (Ex.ret (Ev.binop (Ev.to (P.tup (P.one (P.i0 (v:=.str (hd0 rows).op) (vs:=T.avs (hd0 rows).kids) (P.item P.lo P.i ?_)))) (Ev.k k_tuple (Evs.cons (Ev.comp (by kernel_rfl) rfl (Ev.callStar (Ev.nglob (by kernel_rfl) (g_zip G) ⟨rfl,P.comp P.lo Wk.tup (F:=tailA) (fun d hd=>?_) (fun b2 hb2=>(iEEAAA b2 _ rfl (upd_self _ _ _) (by rw[List.length_map];exact sm.2.1) ?_)) sm.2.2.1⟩)))))))))
    ·rw[hc1]
     exact Sb.t0 rf
    ·refine uEAAAA (R.av d hd) ?_;rintro t ht rfl h1 h2 h3
     rw[T.av_eq]
     exact(iEA _ (.name rfl) (P.t1 P.lo h2))
    ·rw[za]
     refine Cal.zipN (by rw[zl];exact R.len) (fun z hz=>by refine uEA (kz z hz) ?_;rintro t _ rfl;trivial) fun z0 own1 Nz=>ItT.zip Nz (m:=(hd0 rows).kids.length) (fun z hz=>?_) (by simpa using R.ne) (by rw[zl];rcases R.len with h|h<;>lia) ?_
     ·refine uEA (kz z hz) ?_;rintro t ht rfl
      exact(T.avs_len _).trans (e t ht).2
     ·rw[zl]
      have hkb2:kd≠b2:=by rintro rfl;rw[hk3] at hb2;cases hb2
      generalize hW:upd (upd (upd (upd own a (.list (rows.map hdA))) b (.list [hdA (hd0 rows)])) c (.list (List.replicate rows.length (hdA (hd0 rows))))) b2 (.list ((rows.map fun t=>ZS.tup (T.avs t.kids)).map ZS.av))=W at Nz
      have SW:sub own W:=by rw[← hW];exact S3.trans (sub.upd hb2)
      have hkW:W kd=some (.dT (esG kT vS 0 nm)):=by rw[← hW,upd_ne _ _ hkb2];exact hk3
      have hTO:W (z0+rows.length+1)=Option.none:=(Nz.fresh (z0+rows.length+1) (Nat.le_add_right_of_le (Nat.le_add_right _ _))).1
      have hne:kd≠z0+rows.length+1:=by intro k;rw[k,hTO] at hkW;cases hkW
      have hz:(zipL (rows.map fun t=>ZS.tup (T.avs t.kids)) (hd0 rows).kids.length).length=(hd0 rows).kids.length:=by unfold zipL;rw[List.length_map,List.length_range]
      refine⟨by rw[hz,sizeLine_eq];lia,fun i ys o'=>ys=T.avs (mapSt (fun k=>au f (colT rows k)) (List.range i) nm).1∧o'=upd (upd W (z0+rows.length+1) (.otup rows.length)) kd (.dT (esG kT vS 0 (mapSt (fun k=>au f (colT rows k)) (List.range i) nm).2)),⟨rfl,?_⟩,?_,?_,?_⟩
      ·exact(upd_same (own:=upd W (z0+rows.length+1) (.otup rows.length)) (by rw[upd_ne _ _ hne];exact hkW)).symm
      ·rintro i ys _ ⟨rfl,rfl⟩
       exact⟨by rw[upd_ne _ _ (Ne.symm hne)];exact upd_self _ _ _,fun z hz=>by refine uEA (kz z hz) ?_;rintro t _ rfl;trivial⟩
      ·intro J' hJ;rintro i d ys _ hdi ⟨rfl,rfl⟩
       obtain⟨hi,rfl⟩:=zipL_get hdi
       rw[zip_col fun t ht=>by rw[(e t ht).2];exact hi]
       refine⟨_,.name rfl,?_⟩
       unfold IfsT
       dsimp only
       rw[if_pos rfl]
       refine Ev.k k_law_shared ((P.two P.lo P.fr).to ((shared_ok_ kd f (colT rows i) _ _ _ (upd_self _ _ _) (R.col hsm hi) (Nat.le_of_succ_le hf) (Nat.le_trans (col_room R.ne hi) hs) L.2.1).tx ⟨_,sub.refl _,hJ _ _ _ ⟨?_,?_⟩⟩))
       ·rw[mapSt_succ,T.avs_eq,T.avs_eq,List.map_append];rfl
       ·rw[mapSt_succ,upd_upd]
      ·rintro ys _ ⟨rfl,rfl⟩ c2 hc2
       rw[hz] at hc2 ⊢
       have e1:(T.avs (mapSt (fun k=>au f (colT rows k)) (List.range (hd0 rows).kids.length) nm).1).length≤900:=by rw[T.avs_len,mapSt_len,List.length_range];lia
       refine Evs.nil (Cal.tupL (upd_self _ _ _) (by rw[sizeLine_eq];lia) (Op.addT (by simp) (fitsL e1 (Nat.succ_le_succ (Nat.zero_le _))) ⟨?_,?_⟩))
       ·rw[T.av_1];rfl
       ·exact(sub.upd2 (SW.trans (sub.upd hTO))).trans (sub.upd hc2)
end
section
variable{G:GC}{ℓ:Nat}{sc:Names}{m:MM}{own:Own}{K:AV→Own→Prop}
theorem T.filNil{t iter elt c:Expr}{scope:Scope}{L:List AV}{Q:AV→Bool}{av:AV}{pos p2 p3:Pos}{b:Bool}(hi:EvP G ℓ sc m own iter av)(hw:Wk G ℓ own t av L)(h:∀ d,d∈L→∃ m'',Asg scope.names t d (seen scope.names m) m''∧TsP G ℓ scope.names m'' own c (Q d)∧(Q d=true→EvP G ℓ scope.names m'' own elt d))
  (hkey:AV.keys (L.filter Q)=true∧AV.deps (L.filter Q)≤60) (hb:L.filter Q=[]↔b=true) (hl:ℓ≤1000) (hsz:L.length≤100000) (hok:autoParam (okNames sc scope.names=true) sK) (hk:autoParam (scope.kind=.function) sR)
  (hs:autoParam (∀ env x,foldedSetIterable iter env x=pure x) sI) (hm:autoParam (behindInMarks .Eq (.List [] p2)=false) sU) :
  TsP G ℓ sc m own (.Compare (.ListComp elt [⟨t,iter,[c],0⟩] scope pos) [.Eq] [.List [] p2] p3) b:=by
 refine Tst.cmp (P.fil hi hw h (fun a ha=>Ev.list (Evs.nil ⟨Nat.zero_le _,fun d hd=>?_⟩)) hsz hok hk hs) hm
 have hda:d≠a:=by rintro rfl;rw[upd_self] at hd;cases hd
 refine Op.eqL (x:=L.filter Q) (y:=[]) (by rw[upd_ne _ _ (Ne.symm hda),upd_self]) (upd_self _ _ _) hkey.1 rfl hkey.2 (Nat.zero_le _) hl (iEAA _ rfl ?_ ((sub.upd ha).trans (sub.upd hd)))
 rw[Bool.eq_iff_iff,decide_eq_true_eq,hb]
theorem filter_keys{Q:AV→Bool}:∀{L:List AV} {n:Nat},AV.keys L=true∧AV.deps L≤n→AV.keys (L.filter Q)=true∧AV.deps (L.filter Q)≤n
 |[],n,h=>h
 |x::L,n,h=>by
  rw[AV.keys_2,Bool.and_eq_true,AV.deps_2,Nat.max_le] at h
  have ih:=filter_keys (Q:=Q) ⟨h.1.2,h.2.2⟩
  rw[List.filter_cons]
  split
  ·exact⟨by rw[AV.keys_2,h.1.1,ih.1];rfl,by rw[AV.deps_2];exact Nat.max_le.mpr ⟨h.2.1,ih.2⟩⟩
  ·exact ih
theorem filter_heads{rows:List T}(h:rows≠[]):(rows.map hdA).filter (fun d=>!decide (d=hdA (hd0 rows)))=[]↔sameH rows=true:=by
 rw[List.filter_eq_nil_iff,sameH_iff h]
 constructor
 ·intro k a ha
  have:=k (hdA a) (List.mem_map_of_mem ha)
  simp only[Bool.not_eq_true',decide_eq_false_iff_not,Classical.not_not] at this
  exact hdA_iff.mp this
 ·intro k d hd
  refine uEA (List.mem_map.mp hd) ?_;rintro a ha rfl
  simp only[Bool.not_eq_true',decide_eq_false_iff_not,Classical.not_not]
  exact hdA_iff.mpr (k a ha)
theorem seqIndex_nat{i n:Nat}(h:i<n):seqIndex? (i:Int) n=some i:=by
 have e:(if (i:Int)<0 then(i:Int)+n else i)=i:=if_neg (Int.not_lt.mpr (Int.natCast_nonneg i))
 show(if (decide (0≤(if (i:Int)<0 then(i:Int)+n else i))&&decide ((if (i:Int)<0 then(i:Int)+n else i)<n))=true then some (if (i:Int)<0 then(i:Int)+n else i).toNat else none)=_
 rw[e,decide_eq_true (Int.natCast_nonneg i),decide_eq_true (Int.ofNat_lt.mpr h)];rfl
noncomputable def colA(rows:List T):AV→AV
 |.int k=>.tup (T.avs (colT rows (k-1).toNat))
 |x=>x
theorem colA_at(rows:List T)(i:Nat):colA rows (.int (1+(i:Int)))=.tup (T.avs (colT rows i)):=by
 show AV.tup (T.avs (colT rows (1+(i:Int)-1).toNat))=_
 rw[show(1+(i:Int)-1).toNat=i by lia]
noncomputable def kidA(k:Nat)(t:T):AV:=(t.kids.getD k dft).av
theorem common_at_ok_(kd:Addr):∀(f:Nat)(rows:List T)(nm:Nm)(ℓ:Nat)(own:Own),own kd=some (.dT (esG kT vT 0 nm))→Rw rows f→f≤7→nm.length+(hd0 rows).size≤900→ℓ+f≤900→
  CaX G ℓ own (.ref 238) [.tup (T.avs rows),.ref kd] (au f rows nm).1.av (upd own kd (.dT (esG kT vT 0 (au f rows nm).2)))
 |0,_,_,_,_,_,R,_,_,_=>no0 (R.dep _ (hd0_mem R.ne))
 |f+1,rows,nm,ℓ,own,hkd,R,hf,hs,hl=>by
  have L:=lv hl
  have el:=esG_len kT vT nm 0
  have sm:=R.small
  have hh:=R.hd
  refine uEA R.cons fun tl hc1 hc2=>?_
  have kk:=hdA_keys R.ok
  have hk0:=hdA_key (R.ok _ (hd0_mem R.ne))
  rw[au_2]
  refine Cal.fn (def_common_at _) rfl L.1 ?_
  conv in (fnBody _)=>whnf
  refine S.setC P.ce Wk.tup (F:=lift hdA) (fun d hd=>?_) sm.2.2.1 fun a ha=>?_
  ·refine uEAAAA (R.av d hd) ?_;rintro t ht rfl h1 h2 h3
   rw[lift_av,T.av_eq]
   refine(iEA _ (.name rfl) (P.tup (P.two (P.i0 P.lo) (Ev.to (P.lenT P.lo h3) ⟨?_,sub.refl _⟩))))
   rw[List.length_cons,T.avs_len]
  ·rw[lift_map]
   have hka:kd≠a:=by rintro rfl;rw[ha] at hkd;cases hkd
   have hk1:upd own a (.list (rows.map hdA)) kd=some (.dT (esG kT vT 0 nm)):=by rw[upd_ne _ _ hka];exact hkd
   have hl3:(rows.map hdA).length≤100000:=by rw[List.length_map,sm.2.2.2];exact sm.2.2.1
   have h0:SbP G (ℓ+1) (upd own a (.list (rows.map hdA))) (.ref a) (.int ((0:Nat):Int)) (hdA (hd0 rows)):=Sb.list (upd_self _ _ _) (by rw[hc2];rfl) (by decide) rf
   have test:∀ d∈rows.map hdA,d.key=true∧d.dep≤64:=fun d hd=>by
    refine uEA (List.mem_map.mp hd) ?_;rintro t ht rfl
    have:=hdA_key (R.ok t ht)
    exact⟨this.1,Nat.le_trans this.2 (by decide)⟩
   cases hsm:sameH rows with
   |false=>
    rw[if_neg (by decide)]
    refine S.ifF0 (T.filNil P.ce (Wk.list (upd_self _ _ _)) (Q:=fun d=>!decide (d=hdA (hd0 rows))) (fun d hd=>(iEAA _ (.name rfl) (T.cmp P.lo (P.item P.fr P.i h0) (Op.neK (test d hd).1 hk0.1 (test d hd).2 (Nat.le_trans hk0.2 (by decide)) L.2.2.2.2.1 rf)) (fun V=>P.lo))) (filter_keys kk) ((filter_heads R.ne).trans (by rw[hsm])) L.2.2.2.2.1 hl3) ?_
    have ea:=esG_at kT_inj vT rows nm 0
    have tk:=R.key hf
    by_cases hm:rows∈nm
    ·have ea:=ea.1 hm
     rw[Nat.zero_add] at ea
     refine S.ifF0 (T.cmp P.ce P.ce (Op.notIn (Op.inT L.2.2.2.2.1 hk1 tk (iEA _ rfl ?_)))) (S.ret (P.item P.ce P.ce (Sb.dT L.2.2.2.2.1 hk1 tk ea rf)) ?_)
     ·show VX _ _ (.bool !(aAt (esG kT vT 0 nm) (kT rows)).isSome) _
      rw[ea];exact rf
     ·refine⟨by rw[T.av_1,T.avs_1,ix_gx];rfl,?_⟩
      show sub (upd own kd (.dT (esG kT vT 0 (add nm rows)))) _
      unfold add
      rw[if_pos hm,upd_same hkd]
      exact sub.upd ha
    ·have ea:=ea.2 hm
     refine S.ifT (T.cmp P.ce P.ce (Op.notIn (Op.inT L.2.2.2.2.1 hk1 tk (iEA _ rfl ?_)))) (Exs.cons (Ex.setitem (Ev.to (P.tup (P.one (P.fvar P.ce hk1 (by lia)))) (Ev.to P.ce (Ev.to P.ce (St3.dT L.2.2.2.2.1 hk1 tk (by rw[el,sizeLine_eq];lia) (Exs.nil (S.ret (P.item P.ce P.ce (Sb.dT (d:=vT nm.length) L.2.2.2.2.1 (upd_self _ _ _) tk ?_ rf)) ?_))))))))
     ·show VX _ _ (.bool !(aAt (esG kT vT 0 nm) (kT rows)).isSome) _
      rw[ea.1];exact rf
     ·rw[el]
      show aAt (aPut (esG kT vT 0 nm) (kT rows) (vT nm.length)) (kT rows)=_
      rw[aAt_put,if_pos rfl]
     ·refine⟨by rw[T.av_1,T.avs_1,ix_gx,ea.2];rfl,?_⟩
      show sub (upd own kd (.dT (esG kT vT 0 (add nm rows)))) (upd (upd own a _) kd (.dT (aPut (esG kT vT 0 nm) (kT rows) (.tup [.str (vn (esG kT vT 0 nm).length)]))))
      unfold add aPut
      rw[if_neg hm,ea.1,esG_app,el,Nat.zero_add]
      exact sub.upd2 (sub.upd ha)
   |true=>
    rw[if_pos rfl]
    have e:=(sameH_iff R.ne).mp hsm
    refine S.ifT (T.filNil P.ce (Wk.list (upd_self _ _ _)) (Q:=fun d=>!decide (d=hdA (hd0 rows))) (fun d hd=>(iEAA _ (.name rfl) (T.cmp P.lo (P.item P.fr P.i h0) (Op.neK (test d hd).1 hk0.1 (test d hd).2 (Nat.le_trans hk0.2 (by decide)) L.2.2.2.2.1 rf)) (fun V=>P.lo))) (filter_keys kk) ((filter_heads R.ne).trans (by rw[hsm])) L.2.2.2.2.1 hl3) ?_
    have hlen:(AV.str (hd0 rows).op::T.avs (hd0 rows).kids).length=(hd0 rows).kids.length+1:=by rw[List.length_cons,T.avs_len]
    refine Exs.cons (Ex.assignComp (by kernel_rfl) (by kernel_rfl) rfl (Ev.k k_range ((P.two P.i (P.lenT (P.item P.ce P.i (by rw[hc1];exact Sb.t0 rf)) (by rw[hlen];lia))).to (Cal.range2 (by unfold smallInt;decide) (by rw[hlen];unfold smallInt;lia) fun r hr=>ItT.rng (upd_self _ _ _) (CompBody.map (colA rows) ?_ trivial (fun d hd=>?_) fun cl hcl=>?_)))))
    ·rw[rngL_length,hlen];lia
    ·obtain⟨i,hi⟩:=List.getElem?_of_mem hd
     obtain⟨h1,rfl⟩:=rngL_get hi
     rw[hlen] at h1
     have hi:i<(hd0 rows).kids.length:=by lia
     have hF:(T.avs rows).map (lift (kidA i))=T.avs (colT rows i):=by
      rw[lift_map,T.avs_eq,colT,List.map_map];rfl
     rw[colA_at,← hF]
     refine(iEA _ (.name rfl) (P.tc P.fr Wk.tup (fun d hd=>?_) sm.2.2.1))
     refine uEAAAA (R.av d hd) ?_;rintro t ht rfl h1 h2 h3
     rw[lift_av]
     have hit:i<t.kids.length:=by rw[(e t ht).2];exact hi
     refine(iEA _ (.name rfl) (P.item (a:=.tup (.str t.op::T.avs t.kids)) (Ev.to P.lo ⟨T.av_eq t,sub.refl _⟩) P.fr (Sb.tup (k:=i+1) ?_ ?_ (by lia) rf)))
     ·rw[show(1+(i:Int))=((i+1:Nat):Int) by lia]
      exact seqIndex_nat (by rw[List.length_cons,T.avs_len];lia)
     ·rw[List.getElem?_cons_succ,T.avs_eq,List.getElem?_map,List.getElem?_eq_getElem hit]
      unfold kidA
      rw[List.getD_eq_getElem?_getD,List.getElem?_eq_getElem hit];rfl
    ·have hcols:(rngL 1 ((AV.str (hd0 rows).op::T.avs (hd0 rows).kids).length:Nat)).map (colA rows)=(List.range (hd0 rows).kids.length).map fun i=>.tup (T.avs (colT rows i)):=by
      rw[hlen]
      apply List.ext_getElem?
      intro i
      by_cases hi:i<(hd0 rows).kids.length
      ·have:(rngL 1 (((hd0 rows).kids.length+1:Nat):Int))[i]?=some (.int (1+(i:Int))):=by
        have hl:i<(rngL 1 (((hd0 rows).kids.length+1:Nat):Int)).length:=by rw[rngL_length];lia
        obtain⟨_,h⟩:=rngL_get (List.getElem?_eq_getElem hl)
        rw[List.getElem?_eq_getElem hl,h]
       rw[List.getElem?_map,this,List.getElem?_map,List.getElem?_range hi]
       exact congrArg some (colA_at rows i)
      ·rw[List.getElem?_eq_none (by rw[List.length_map,rngL_length];lia),List.getElem?_eq_none (by rw[List.length_map,List.length_range];lia)]
     rw[hcols]
     have hra:r≠a:=by rintro rfl;rw[upd_self] at hr;cases hr
     have hla:cl≠a:=by rintro rfl;rw[upd_ne _ _ (Ne.symm hra),upd_self] at hcl;cases hcl
     have hkr:kd≠r:=by rintro rfl;rw[hk1] at hr;cases hr
     have hk2:=(upd_ne _ (.rng 1 ((AV.str (hd0 rows).op::T.avs (hd0 rows).kids).length:Nat)) hkr).trans hk1
     have hkl:kd≠cl:=by rintro rfl;rw[hk2] at hcl;cases hcl
     have SW:=((sub.upd ha).trans (sub.upd hr)).trans (sub.upd (o:=.list ((List.range (hd0 rows).kids.length).map fun i=>.tup (T.avs (colT rows i)))) hcl)
     have hW2:=upd_self (upd (upd own a (.list (rows.map hdA))) r (.rng 1 ((AV.str (hd0 rows).op::T.avs (hd0 rows).kids).length:Nat))) cl (.list ((List.range (hd0 rows).kids.length).map fun i=>.tup (T.avs (colT rows i))))
     have hk3:=(upd_ne _ (.list ((List.range (hd0 rows).kids.length).map fun i=>.tup (T.avs (colT rows i)))) hkl).trans hk2
     have hA3:upd (upd (upd own a (.list (rows.map hdA))) r (.rng 1 ((AV.str (hd0 rows).op::T.avs (hd0 rows).kids).length:Nat))) cl (.list ((List.range (hd0 rows).kids.length).map fun i=>.tup (T.avs (colT rows i)))) a=some (.list (rows.map hdA)):=by rw[upd_ne _ _ (Ne.symm hla),upd_ne _ _ (Ne.symm hra),upd_self]
     generalize upd (upd (upd own a (.list (rows.map hdA))) r (.rng 1 ((AV.str (hd0 rows).op::T.avs (hd0 rows).kids).length:Nat))) cl (.list ((List.range (hd0 rows).kids.length).map fun i=>.tup (T.avs (colT rows i))))=W at SW hW2 hk3 hA3
     have hz:((List.range (hd0 rows).kids.length).map fun i=>AV.tup (T.avs (colT rows i))).length=(hd0 rows).kids.length:=by rw[List.length_map,List.length_range]
     refine Exs.cons (Ex.ret (Ev.binop (Ev.to (P.u1 (vs:=[.int (((hd0 rows).kids.length+1:Nat):Int)]) (P.item P.ce P.i (Sb.list (k:=0) hA3 (by rw[hc2];rfl) (by decide) rf)) (Nat.succ_le_succ (Nat.zero_le _))) (Ev.k k_tuple (Evs.cons (Ev.comp (by kernel_rfl) rfl (Ev.to P.lo (ItT.list hW2 ⟨by rw[hz,sizeLine_eq];lia,fun i ys o'=>ys=T.avs (mapSt (fun k=>au f (colT rows k)) (List.range i) nm).1∧o'=upd W kd (.dT (esG kT vT 0 (mapSt (fun k=>au f (colT rows k)) (List.range i) nm).2)),⟨rfl,(upd_same hk3).symm⟩,?_,?_,?_⟩))))))))
     ·rintro i ys _ ⟨rfl,rfl⟩
      rw[upd_ne _ _ (Ne.symm hkl)];exact hW2
     ·intro J' hJ;rintro i d ys _ hdi ⟨rfl,rfl⟩
      rw[List.getElem?_map] at hdi
      refine uEA (Option.map_eq_some_iff.mp hdi) ?_;rintro i' hi' rfl
      obtain⟨hi,rfl⟩:=List.getElem?_eq_some_iff.mp hi'
      rw[List.length_range] at hi
      rw[List.getElem_range]
      refine⟨_,.name rfl,?_⟩
      unfold IfsT
      dsimp only
      rw[if_pos rfl]
      refine Ev.k k_common_at ((P.two P.lo P.fr).to ((common_at_ok_ kd f (colT rows i) _ _ _ (upd_self _ _ _) (R.col hsm hi) (Nat.le_of_succ_le hf) (Nat.le_trans (col_room R.ne hi) hs) L.2.1).tx ⟨_,sub.refl _,hJ _ _ _ ⟨?_,?_⟩⟩))
      ·rw[mapSt_succ,T.avs_eq,T.avs_eq,List.map_append];rfl
      ·rw[mapSt_succ,upd_upd]
     ·rintro ys _ ⟨rfl,rfl⟩ c2 hc2'
      rw[hz] at hc2' ⊢
      have e1:(T.avs (mapSt (fun k=>au f (colT rows k)) (List.range (hd0 rows).kids.length) nm).1).length≤900:=by rw[T.avs_len,mapSt_len,List.length_range];lia
      refine Evs.nil (Cal.tupL (upd_self _ _ _) (by rw[sizeLine_eq];lia) (Op.addT (by simp) (fitsL e1 (Nat.succ_le_succ (Nat.zero_le _))) ⟨?_,?_⟩))
      ·rw[T.av_1];rfl
      ·exact(sub.upd2 SW).trans (sub.upd hc2')
theorem common_of_ok{f:Nat}{rows:List T}{arg:AV}(R:Rw rows f)(hf:f≤7)(hs:(hd0 rows).size≤900)(hl:ℓ+(f+2)≤900)(hA:∀ own',sub own own'→CaP G (ℓ+1) own' (.ty "tuple") [arg] (.tup (T.avs rows))) :
  CaP G ℓ own (.ref 233) [arg] (au f rows []).1.av:=by
 refine D.fn (def_common_of _) (by lia) ?_
 conv in (fnBody _)=>whnf
 refine Exs.cons (Ex.ret (Ev.k k_common_at (Evs.cons (Ev.k k_tuple ((P.one P.lo).to ((hA own (sub.refl _)).to (Evs.cons (Ev.dict0 (.dT []) (.inr (.inr rfl)) fun kd hkd=>Evs.nil ((common_at_ok_ kd f rows [] _ _ (upd_self _ _ _) R hf (by simpa using hs) (by lia)).tx ⟨rfl,?_⟩)))))))))
 rw[upd_upd]
 exact sub.upd hkd
theorem common_ok{f:Nat}{x y:T}(R:Rw [x,y] f)(hf:f≤7)(hs:x.size≤900)(hl:ℓ+(f+3)≤900):CaP G ℓ own (.ref 226) [x.av,y.av] (au f [x,y] []).1.av:=by
 refine D.fn (def_common _) (by lia) ?_
 conv in (fnBody _)=>whnf
 exact S.ret (Ev.k k_common_of ((P.one (P.tup (P.two P.lo P.lo))).to (common_of_ok R hf hs (by lia) fun own' V=>by
  rw[T.avs_2,T.avs_2,T.avs_1];exact Cal.tupT rf))) rf
end
noncomputable def ops5:List Str:=[Str.ofString "a",Str.ofString "b",Str.ofString "c",Str.ofString "f",Str.ofString "g"]
mutual
noncomputable def T.std:T→Bool
 |.mk o ks=>(decide (o∈ops5)&&decide (ks.length≤3))&&T.stds ks
noncomputable def T.stds:List T→Bool
 |[]=>true
 |k::ks=>k.std&&T.stds ks
end
theorem T.std_1:∀(o:Str)(kids:List T),T.std (T.mk o kids)=(decide (o∈ops5)&&decide (List.length kids≤3)&&T.stds kids):=by intros;rfl
theorem T.stds_2:∀(k:T)(ks:List T),T.stds (k::ks)=(T.std k&&T.stds ks):=by intros;rfl
theorem T.stds_iff:∀ l:List T,T.stds l=true↔∀ t∈l,t.std=true
 |[]=>iff_of_true rfl nofun
 |k::ks=>by rw[T.stds_2,Bool.and_eq_true,T.stds_iff ks];simp
theorem T.std_iff{o:Str}{ks:List T}:(T.mk o ks).std=true↔o∈ops5∧ks.length≤3∧∀ k∈ks,k.std=true:=by
 rw[T.std_1,Bool.and_eq_true,Bool.and_eq_true,decide_eq_true_eq,decide_eq_true_eq,T.stds_iff,and_assoc]
theorem ops5_ok{o:Str}(h:o∈ops5):opOk o=true∧isV o=false:=by
 have:(ops5.all fun o=>opOk o&&!isV o)=true:=by decide +kernel
 have:=List.all_eq_true.mp this o h
 rw[Bool.and_eq_true,Bool.not_eq_true'] at this
 exact this
mutual
theorem T.std_ok:∀ t:T,t.std=true→t.ok=true∧t.gr=true
 |.mk o ks,h=>by
  rw[T.std_iff] at h
  have k:=ops5_ok h.1
  have r:=T.stds_ok ks h.2.2
  exact⟨T.ok_iff.mpr (iAAA k.1 (Nat.le_succ_of_le h.2.1) (fun q=>by (rw[k.2] at q;cases q)) (fun t ht=>(r t ht).1)),T.gr_iff.mpr ⟨k.2,fun t ht=>(r t ht).2⟩⟩
theorem T.stds_ok:∀ l:List T,(∀ t∈l,t.std=true)→∀ t∈l,t.ok=true∧t.gr=true
 |[],_,t,ht=>by simp at ht
 |k::ks,h,t,ht=>by
  rcases List.mem_cons.mp ht with e|ht
  ·rw[e];exact T.std_ok k (h k List.mem_cons_self)
  ·exact T.stds_ok ks (fun t ht=>h t (List.mem_cons_of_mem _ ht)) t ht
end
theorem T.sizes_le{n:Nat}:∀ l:List T,(∀ t∈l,t.size≤n)→T.sizes l≤l.length*n
 |[],_=>by rw[T.sizes_1];exact Nat.zero_le _
 |k::ks,h=>by
  rw[T.sizes_2,List.length_cons,Nat.succ_mul]
  rw[Nat.add_comm k.size]
  exact Nat.add_le_add (T.sizes_le ks fun t ht=>h t (List.mem_cons_of_mem _ ht)) (h k List.mem_cons_self)
noncomputable def hes(c:Addr)(p:Nat)(s:Int):List (Str × AV):=[(Str.ofString "cells",.ref c),(Str.ofString "spot",.int (p:Int)),(Str.ofString "stir",.int s)]
theorem hesL{c:Addr}{p:Nat}{s:Int}:(hes c p s).length≤sizeLine:=by rw[sizeLine_eq];exact(by decide:3≤16777216)
structure Cs (own:Own) (h c:Addr) (cs:List Int):Prop where
 at_:own c=some (.list (intL cs))
 ok:∀ x∈cs,0≤x∧x≤1000003
 len:cs.length≤50
 ne:c≠h
structure Ha (own:Own) (h c:Addr) (p:Nat) (s:Int):Prop where
 at_:own h=some (.dS (hes c p s))
 ok:0≤s∧s<1021
theorem Cs.upd{own:Own}{h c:Addr}{cs:List Int}{x:AObj}(C:Cs own h c cs):Cs (Mine.upd own h x) h c cs:=⟨by rw[upd_ne _ _ C.ne];exact C.at_,C.ok,C.len,C.ne⟩
theorem Cs.fresh{own:Own}{h c a:Addr}{cs:List Int}{x:AObj}(C:Cs own h c cs)(ha:own a=Option.none):Cs (Mine.upd own a x) h c cs:=⟨(upd_ne _ _ (fun e=>by rw[← e,C.at_] at ha;cases ha)).trans C.at_,C.ok,C.len,C.ne⟩
theorem Ha.fresh{own:Own}{h c a:Addr}{p:Nat}{s:Int}{x:AObj}(C:Ha own h c p s)(ha:own a=Option.none):Ha (Mine.upd own a x) h c p s:=⟨(upd_ne _ _ (fun e=>by rw[← e,C.at_] at ha;cases ha)).trans C.at_,C.ok⟩
section
variable{G:GC}{ℓ:Nat}{sc:Names}{m:MM}{own:Own}{K:AV→Own→Prop}
theorem pick_ok{h c:Addr}{cs:List Int}{p:Nat}{s:Int}(n:Nat)(hn:1≤n∧n≤100)(C:Cs own h c cs)(H:Ha own h c p s)(hl:ℓ<940)
  (hK:∀(v:Nat) p' s',v<n→0≤s'∧s'<1021→K (.int (v:Int)) (upd own h (.dS (hes c p' s')))):Cal G ℓ own (.ref 514) [.ref h,.int (n:Int)] K:=by
 have fin:∀(x:Int) p' s',0≤x→0≤s'∧s'<1021→K (.int (x.fmod n)) (upd own h (.dS (hes c p' s'))):=fun x p' s' hx hs=>by
  have n0:(0:Int)<n:=Int.natCast_pos.mpr hn.1
  have h1:=Int.fmod_nonneg_of_pos x n0
  have:=hK (x.fmod n).toNat p' s' ((Int.toNat_lt h1).mpr (Int.fmod_lt_of_pos x n0)) hs
  rwa[Int.toNat_of_nonneg h1] at this
 refine Cal.fn (def_law_pick _) rfl (by lia) ?_
 conv in (fnBody _)=>whnf
 have w1:(1:Int)=((1:Nat):Int):=rfl
 refine Exs.cons (Ex.setitem (Ev.to (P.bin (P.item P.lo P.s (Sb.dS H.at_ (d:=.int (p:Int)) (by kernel_rfl) rf)) P.i (Op.add rf)) (Ev.to P.lo (Ev.to P.s (St3.dS H.at_ hesL ?_)))))
 have e1:aPut (hes c p s) (Str.ofString "spot") (.int ((p:Int)+1))=hes c (p+1) s:=by kernel_rfl
 have C1:=C.upd (x:=.dS (hes c (p+1) s))
 have h1:=upd_self own h (.dS (hes c (p+1) s))
 have cl:=intL_length cs
 refine Exs.cons (Ex.if_ (Tst.cmp (Ev.to (P.item P.lo P.s (Sb.dS h1 (d:=.int ((p+1:Nat):Int)) (by kernel_rfl) rf)) (Ev.k k_len (Evs.cons (Ev.to (P.item P.lo P.s (Sb.dS h1 (d:=.ref c) (by kernel_rfl) rf)) (Evs.nil (Cal.lenL C1.at_ (by rw[cl];exact i63 (Nat.le_trans C.len (by decide))) (Op.le (iEA _ rfl ?_))))))))))
 rw[cl]
 by_cases hp:((p+1:Nat):Int)≤(cs.length:Int)
 ·rw[decide_eq_true hp,if_pos rfl]
  have hpl:p<cs.length:=Int.ofNat_le.mp hp
  have hx:cs[p]∈cs:=List.getElem_mem hpl
  have ex:=C.ok _ hx
  refine Exs.cons (Ex.ret (Ev.binop (Ev.item (Ev.to (P.item P.lo P.s (Sb.dS h1 (d:=.ref c) (by kernel_rfl) rf)) (Ev.to (P.bin (P.item P.lo P.s (Sb.dS h1 (d:=.int ((p+1:Nat):Int)) (by kernel_rfl) rf)) P.i (Op.sub (K:=VX (.int (p:Int)) _) ⟨congrArg AV.int (Int.add_sub_cancel (p:Int) 1),sub.refl _⟩)) (Sb.list (d:=.int cs[p]) C1.at_ (by rw[intL_get,List.getElem?_eq_getElem hpl];rfl) (i63 (Nat.le_trans (Nat.le_of_lt hpl) (Nat.le_trans C.len (by decide)))) (Ev.to P.lo (Op.mod (by lia) ?_))))))))
  exact fin _ _ _ ex.1 H.ok
 ·rw[decide_eq_false hp,if_neg (by decide)]
  have hs:=H.ok
  refine Exs.nil (Exs.cons (Ex.setitem (Ev.to (P.bin (P.bin (P.bin (P.item P.lo P.s (Sb.dS h1 (d:=.int s) (by kernel_rfl) rf)) P.i (Op.mul (by lia) rf)) P.i (Op.add rf)) P.i (Op.mod (by decide) rf)) (Ev.to P.lo (Ev.to P.s (St3.dS h1 hesL ?_))))))
  generalize hz:((s*29+13).fmod 1021)=z
  have hz':0≤z∧z<1021:=hz▸⟨Int.fmod_nonneg_of_pos _ (by decide),Int.fmod_lt_of_pos _ (by decide)⟩
  have e2:aPut (hes c (p+1) s) (Str.ofString "stir") (.int z)=hes c (p+1) z:=by kernel_rfl
  rw[e2,upd_upd]
  refine Exs.cons (Ex.ret (Ev.to (P.bin (P.bin (P.item P.lo P.s (Sb.dS (upd_self _ _ _) (d:=.int z) (by kernel_rfl) rf)) P.i (Op.fdiv (by decide) (by kernel_rfl) rf)) P.lo (Op.mod (by lia) rf)) ?_))
  exact fin _ _ _ (Int.fdiv_nonneg hz'.1 (by decide)) hz'
end
section
variable{G:GC}{ℓ:Nat}{sc:Names}{m:MM}{own:Own}{K:AV→Own→Prop}
theorem VXt{b c:Bool}(h:c=b):VX (.bool b) own (.bool c) own:=⟨by rw[h],sub.refl _⟩
theorem VXi{i j:Int}(h:i=j):VX (.int j) own (.int i) own:=⟨by rw[h],sub.refl _⟩
theorem intL_take(l:List Int)(n:Nat):(intL l).take n=intL (l.take n):=by
 induction l generalizing n with
 |nil=>simp[intL_1,intL_2]
 |cons a l ih=>cases n with
  |zero=>rfl
  |succ n=>rw[intL_2,List.take_succ_cons,ih,List.take_succ_cons,intL_2]
theorem intL_mem{l:List Int}{d:AV}(h:d∈intL l):∃ i∈l,d=.int i:=by
 induction l with
 |nil=>simp[intL_1,intL_2] at h
 |cons a l ih=>
  rcases List.mem_cons.mp h with rfl|h
  ·exact(iEA a List.mem_cons_self rfl)
  ·refine uEA (ih h) fun i hi e=>?_;exact(iEA i (List.mem_cons_of_mem _ hi) e)
noncomputable def cel(i:Int):Int:=(if i<0 then -i else i).fmod 1000003
noncomputable def celA:AV→AV
 |.int i=>.int (cel i)
 |x=>x
theorem celA_map(l:List Int):(intL l).map celA=intL (l.map cel):=by
 induction l with
 |nil=>rfl
 |cons a l ih=>rw[intL_2,List.map_cons,ih];rfl
theorem cel_ok(i:Int):0≤cel i∧cel i≤1000003:=by
 unfold cel
 exact⟨Int.fmod_nonneg_of_pos _ (by decide),Int.le_of_lt (Int.fmod_lt_of_pos _ (by decide))⟩
def BL(G:GC)(a:Addr)(l:List AV):Prop:=∃ it n,G.base.get? a=some {cls:=.type "list",data:=.seq it n}∧∀ P h,VReps P h it.toList l
theorem Sl.base{a:Addr}{l:List AV}{lo hi:Option Int}(ha:BL G a l)(hsz:l.length≤sizeLine)(h:∀ b,own b=Option.none→K (.ref b) (upd own b (.list (avPick lo hi l)))):Sl G ℓ own (.ref a) lo hi K:=
 (iEEAA ("list") _ F.slot_list_getitem.lookup (fun s v O r=>by obtain rfl:=r.i_ref;refine uEEA ha ?_;clear ha;rintro it n e _;exact(iEA _ ((O.base _ _ e).1) rfl)) (fun A s v vl vu sl Q E hA O r hs pl pu hQ=>by
  obtain rfl:=r.i_ref
  refine uEEA ha ?_;clear ha;rintro it n e r
  have e:=(O.base _ _ e).1
  have r:=r (fz own) s.heap
  have hlen:=r.length
  rw[Array.length_toList] at hlen
  refine wpAny_getItem_list_slice (st:=Option.none) (iEAAE _ e rfl n rfl) hs pl pu .none (by decide) ?_ (by lia)
  have rp:VReps (fz own) s.heap (slicePick it lo hi Option.none).toList (avPick lo hi l):=by
   rw[slicePick_plain,List.toList_toArray,avPick,hlen]
   exact(r.drop _).take _
  refine uAA (list_new O rp) fun h0 S2 O2=>?_
  exact hQ _ _ _ _ (h _ h0) S2 O2 (.ref _)))
theorem hand_ok{sl:Addr}{ns:List Int}(hs:BL G sl (intL ns))(hn:ns.length≤1000)(hl:ℓ<900)
  (hK:∀ c h cs s,own c=Option.none→upd own c (.list (intL cs)) h=Option.none→Cs (upd (upd own c (.list (intL cs))) h (.dS (hes c 0 s))) h c cs→Ha (upd (upd own c (.list (intL cs))) h (.dS (hes c 0 s))) h c 0 s→K (.ref h) (upd (upd own c (.list (intL cs))) h (.dS (hes c 0 s)))) :
  Cal G ℓ own (.ref 519) [.ref sl] K:=by
 have il:=intL_length ns
 refine Cal.conseq (K:=fun v o=>∃ c h cs s,v=.ref h∧own c=Option.none∧upd own c (.list (intL cs)) h=Option.none∧Cs (upd (upd own c (.list (intL cs))) h (.dS (hes c 0 s))) h c cs∧Ha (upd (upd own c (.list (intL cs))) h (.dS (hes c 0 s))) h c 0 s∧sub (upd (upd own c (.list (intL cs))) h (.dS (hes c 0 s))) o) ?_
  (fun v o q3842=>uEEEEAAAAA q3842 fun c h cs s e h1 h2 h3 h4 h5=>(iEA _ h5 (e▸hK c h cs s h1 h2 h3 h4)))
 refine Cal.hid fun KK hKK=>?_
 refine Cal.fn (def_law_hand _) rfl (by lia) ?_
 conv in (fnBody _)=>whnf
 refine Exs.cons (Ex.assignComp (by kernel_rfl) (by kernel_rfl) rfl (Ev.slice (Ev.to P.lo (show Ev _ _ _ _ _ _ _ from Ev.cint (iEA _ rfl (Sl.base hs (by rw[il,sizeLine_eq];lia) fun b hb=>ItT.list (upd_self _ _ _) (CompBody.map celA ?_ (upd_self _ _ _) ?_ fun c hc=>?_)))))))
 ·exact Nat.le_trans (avPick_le _ _ _) (by lia)
 ·intro d hd
  rw[show(50:Int)=((50:Nat):Int) from rfl,avPick_upto,intL_take] at hd
  refine uEA (intL_mem hd) ?_;rintro i _ rfl
  exact(iEA _ (.name rfl) (P.bin (Ev.k k_abs ((P.one P.lo).to (Cal.abs rf))) P.i (Op.mod (by decide) rf)))
 ·rw[show(50:Int)=((50:Nat):Int) from rfl,avPick_upto,intL_take,celA_map]
  have hca:own c=Option.none:=(upd_none hc).1
  refine Exs.cons (Ex.ret (Ev.dictS (Evp.cons (Ev.to P.s (Ev.to P.lo (Evp.cons (Ev.to P.s (Ev.to P.i (Evp.cons (Ev.to P.s (Ev.to (P.bin (P.bin P.i (Ev.k k_sum ((P.one P.lo).to (Cal.sum (upd_self _ _ _) rf))) (Op.add rf)) P.i (Op.mod (by decide) rf)) (Evp.nil (iEAA [(Str.ofString "cells",.ref c),(Str.ofString "spot",.int 0),(Str.ofString "stir",.int ((11+((ns.take 50).map cel).sum).fmod 1021))] rfl (by simp) (fun h hh=>?_))))))))))))))
  have hh':=upd_none hh
  have hhb:=upd_none hh'.1
  have hch:c≠h:=Ne.symm hh'.2
  have e1:(List.foldl (fun acc (p:Str × AV)=>aPut acc p.1 p.2) [] [(Str.ofString "cells",.ref c),(Str.ofString "spot",.int 0),(Str.ofString "stir",.int ((11+((ns.take 50).map cel).sum).fmod 1021))])=hes c 0 ((11+((ns.take 50).map cel).sum).fmod 1021):=by kernel_rfl
  have ok:∀ x∈(ns.take 50).map cel,0≤x∧x≤1000003:=fun x hx=>by
   refine uEA (List.mem_map.mp hx) ?_;rintro i _ rfl
   exact cel_ok i
  have len:((ns.take 50).map cel).length≤50:=by rw[List.length_map,List.length_take];exact Nat.min_le_left _ _
  have e2:(11+((ns.take 50).map cel).sum).fmod 1021=(11+((ns.take 50).map cel).sum) % 1021:=Int.fmod_eq_emod_of_nonneg _ (by decide)
  generalize (11+((ns.take 50).map cel).sum).fmod 1021=z at e2 ⊢
  refine hKK _ _ (iEEEEAAAAA c h _ z rfl hca (by rw[upd_ne _ _ hh'.2];exact hhb.1) ⟨by rw[upd_ne _ _ hch,upd_self],ok,len,hch⟩ ⟨upd_self _ _ _,by lia⟩ (sub.upd2 (sub.upd2 (sub.upd hb))))
noncomputable def gsz:Nat→Nat
 |0=>1
 |n+1=>3*gsz n+1
theorem gsz_2:∀(n:Nat),gsz ((n+1))=3*gsz n+1:=by intros;rfl
theorem ops_get(w:Nat)(h:w<3):∃ x:Str,(seqIndex? (w:Int) (Str.ofString "abc").length).bind ((Str.ofString "abc").cps[·]?)=some (97+w)∧x=⟨#[97+w]⟩∧x∈ops5:=by
 rcases(by lia:w=0∨w=1∨w=2) with rfl|rfl|rfl<;>exact(iEAA _ (by decide +kernel) rfl (by decide +kernel))
theorem ops_get2(w:Nat)(h:w<4):∃ (x:Str) (c k:Nat),(seqIndex? (w:Int) (Str.ofString "ffgg").length).bind ((Str.ofString "ffgg").cps[·]?)=some c∧x=⟨#[c]⟩∧x∈ops5∧([AV.int 1,.int 2,.int 2,.int 3]:List AV)[w]?=some (.int (k:Int))∧1≤k∧k≤3:=by
 rcases(by lia:w=0∨w=1∨w=2∨w=3) with rfl|rfl|rfl|rfl
 ·exact(iEEEAAAAA _ 102 1 (by decide +kernel) rfl (by decide +kernel) rfl (by decide) (by decide))
 ·exact(iEEEAAAAA _ 102 2 (by decide +kernel) rfl (by decide +kernel) rfl (by decide) (by decide))
 ·exact(iEEEAAAAA _ 103 2 (by decide +kernel) rfl (by decide +kernel) rfl (by decide) (by decide))
 ·exact(iEEEAAAAA _ 103 3 (by decide +kernel) rfl (by decide +kernel) rfl (by decide) (by decide))
theorem Ha.upd{own:Own}{h c:Addr}{p:Nat}{s:Int}(hs:0≤s∧s<1021):Ha (Mine.upd own h (.dS (hes c p s))) h c p s:=⟨upd_self _ _ _,hs⟩
def Kt(own:Own)(h c:Addr)(d z:Nat):AV→Own→Prop:=fun v o=>∃ (t:T) (p':Nat) (s':Int),v=t.av∧t.std=true∧t.dep≤d∧t.size≤z∧(0≤s'∧s'<1021)∧sub (upd own h (.dS (hes c p' s'))) o
theorem Cal.kt{f:AV}{as:List AV}{h c:Addr}{d z:Nat}(H:Cal G ℓ own f as (Kt own h c d z))(hK:∀(t:T)(p':Nat)(s':Int),t.std=true→t.dep≤d→t.size≤z→0≤s'∧s'<1021→K t.av (upd own h (.dS (hes c p' s')))):Cal G ℓ own f as K:=
 H.conseq fun v o q8235=>uEEEAAAAA q8235 fun t p' s' e h1 h2 h3 h4 h5=>(iEA _ h5 (e▸hK t p' s' h1 h2 h3 h4))
theorem Kt.leaf{h c:Addr}{d z p:Nat}{s:Int}{x:Str}{v:AV}(ho:x∈ops5)(hs:0≤s∧s<1021)(hd:1≤d)(hz:1≤z)(e:v=.tup [.str x]):Kt own h c d z v (upd own h (.dS (hes c p s))):=
 (iEEEAAAAA (.mk x []) p s (by rw[T.av_1,T.avs_1,e]) (T.std_iff.mpr (iAA ho (by decide) (fun k hk=>by simp at hk))) (by rw[T.dep_1,T.deps_1];lia) (by rw[T.size_1,T.sizes_1];lia) hs (sub.refl _))
theorem term_ok_{h c:Addr}{cs:List Int}:∀(n:Nat)(p:Nat)(s:Int)(ℓ:Nat)(own:Own),Cs own h c cs→Ha own h c p s→ℓ+(n+1)≤900→n≤5→Cal G ℓ own (.ref 524) [.ref h,.int (n:Int)] (Kt own h c (n+1) (gsz n)):=by
 intro n
 induction n with
 |zero=>
  intro p s ℓ own C H hl hn
  have L:=lv hl
  refine Cal.fn (def_law_term _) rfl L.1 ?_
  conv in (fnBody _)=>whnf
  refine Exs.cons (Ex.assign (by kernel_rfl) (Ev.k k_law_pick (Evs.cons (Ev.to P.ce (Evs.cons (Ev.ifexp (Tst.to (T.cmp P.ce P.i (Op.gt rf)) ?_)))))))
  refine Ev.to P.i (Evs.nil (pick_ok (n:=3) (by decide) C H L.2.2.1 fun v p' s' hv hs=>?_))
  refine uEAA (ops_get v hv) ?_;rintro x hx rfl ho
  exact S.ifT (T.cmp P.lo P.i (Op.lt (VXt (by simp<;>lia)))) (S.ret (P.tup (P.one (P.item P.s P.lo (Sb.str (by lia) hx rf)))) (Kt.leaf ho hs (Nat.le_refl _) (Nat.le_refl _) rfl))
 |succ n ih=>
  intro p s ℓ own C H hl hn
  have L:=lv hl
  refine Cal.fn (def_law_term _) rfl L.1 ?_
  conv in (fnBody _)=>whnf
  refine Exs.cons (Ex.assign (by kernel_rfl) (Ev.k k_law_pick (Evs.cons (Ev.to P.ce (Evs.cons (Ev.ifexp (Tst.to (T.cmp P.ce P.i (Op.gt rf)) ?_)))))))
  rw[if_pos (by simp<;>omega)]
  refine Ev.to P.i (Evs.nil (pick_ok (n:=7) (by decide) C H L.2.2.1 fun v p1 s1 hv hs=>?_))
  by_cases hv3:v<3
  ·refine uEAA (ops_get v hv3) ?_;rintro x hx rfl ho
   exact S.ifT (T.cmp P.lo P.i (Op.lt (VXt (by simp<;>lia)))) (S.ret (P.tup (P.one (P.item P.s P.lo (Sb.str (by lia) hx rf)))) (Kt.leaf ho hs (by lia) (by rw[gsz_2];lia) rfl))
  ·obtain⟨w,rfl⟩:∃ w,v=w+3:=⟨v-3,by lia⟩
   refine uEEEAAAAA (ops_get2 w (by lia)) ?_;rintro x c3 k hx rfl ho hk hk1 hk3
   have ew:(((w+3:Nat):Int)-3)=(w:Int):=by lia
   have hw4:w<4:=by lia
   refine S.ifF0 (T.cmp P.lo P.i (Op.lt (VXt (by simp<;>lia)))) ?_
   refine S.set (P.item (v:=.int (k:Int)) (P.tup (P.cons P.i (P.cons P.i (P.two P.i P.i)))) (P.bin P.lo P.i (Op.sub rf)) (by rw[ew];exact Sb.tup (k:=w) (seqIndex_nat hw4) hk (by lia) rf)) ?_
   refine Exs.cons (Ex.ret (Ev.binop (Ev.to (P.tup (P.one (v:=.str ⟨#[c3]⟩) (P.item P.s (P.bin P.lo P.i (Op.sub rf)) (by rw[ew];exact Sb.str (by lia) hx rf)))) (Ev.k k_tuple (Evs.cons (Ev.comp (by kernel_rfl) rfl (Ev.k k_range ((P.one P.lo).to (Cal.range1 (by unfold smallInt;lia) fun r hr=>ItT.rng (upd_self _ _ _) ⟨?_,fun i ys o'=>∃ (ts:List T) (p':Nat) (s':Int),ys=T.avs ts∧ts.length=i∧(∀ t∈ts,t.std=true∧t.dep≤n+1∧t.size≤gsz n)∧(0≤s'∧s'<1021)∧o'=upd (upd own r (.rng 0 (k:Int))) h (.dS (hes c p' s')),?_,fun V V V V=>trivial,?_,?_⟩)))))))))
   ·rw[rngL_length,sizeLine_eq];lia
   ·have hrh:h≠r:=by rintro rfl;rw[upd_self] at hr;cases hr
    exact(iEEEAAAA [] p1 s1 rfl rfl (fun t ht=>by simp at ht) hs (upd_comm hrh))
   ·intro J' hJ;rintro i d ys _ hd hh;refine uEEEAAAA hh ?_;clear hh;rintro ts p' s' rfl hi hts hs' rfl
    obtain⟨_,rfl⟩:=rngL_get hd
    have hr':own r=Option.none:=(upd_none hr).1
    refine⟨_,.name rfl,?_⟩
    unfold IfsT
    dsimp only
    refine Ev.k k_law_term ((P.two P.fr (P.bin P.fr P.i (Op.sub (VXi (j:=(n:Int)) (by lia))))).to ((ih p' s' _ _ ((C.fresh hr').upd) (Ha.upd hs') L.2.1 (Nat.le_of_succ_le hn)).kt fun t p'' s'' h1 h2 h3 h4=>⟨_,sub.refl _,hJ _ _ _ (iEEEAAAA (ts++[t]) p'' s'' ?_ (by rw[List.length_append,hi];rfl) (fun u hu=>?_) h4 (upd_upd _ _ _ _))⟩))
    ·rw[T.avs_eq,T.avs_eq,List.map_append];rfl
    ·rcases List.mem_append.mp hu with hu|hu
     ·exact hts u hu
     ·rw[List.mem_singleton.mp hu];exact(iAA h1 h2 h3)
   ·rintro ys _ hh;refine uEEEAAAA hh ?_;clear hh;rintro ts p' s' rfl hi hts hs' rfl a ha
    rw[rngL_length,show((k:Int)-0).toNat=k by lia] at hi
    have e1:(T.avs ts).length≤900:=by rw[T.avs_len,hi];lia
    have hr':own r=Option.none:=(upd_none hr).1
    refine Evs.nil (Cal.tupL (upd_self _ _ _) (by rw[sizeLine_eq];lia) (Op.addT (by simp) (fitsL e1 (Nat.succ_le_succ (Nat.zero_le _))) (iEEEAAAAA (.mk ⟨#[c3]⟩ ts) p' s' (by rw[T.av_1];rfl) (T.std_iff.mpr (iAA ho (by lia) (fun t ht=>(hts t ht).1))) ?_ ?_ hs' ((sub.upd2 (sub.upd hr')).trans (sub.upd ha)))))
    ·rw[T.dep_1];exact Nat.succ_le_succ (T.deps_le.mpr fun t ht=>(hts t ht).2.1)
    ·rw[T.size_1,gsz_2]
     have h1:=T.sizes_le ts fun t ht=>(hts t ht).2.2
     have h2:ts.length*gsz n≤3*gsz n:=Nat.mul_le_mul_right _ (by lia)
     lia
end
section
variable{G:GC}{ℓ:Nat}{sc:Names}{m:MM}{own:Own}{K:AV→Own→Prop}
theorem Kt.up{h c:Addr}{d z d' z' p:Nat}{s:Int}{v:AV}{o o':Own}(k:Kt o h c d z v o')(hs:sub (upd own h (.dS (hes c p s))) o)(hd:d≤d')(hz:z≤z')(hh:∃ x,own h=some x):Kt own h c d' z' v o':=by
 refine uEEEAAAAA k ?_;clear k;rintro t p' s' e h1 h2 h3 h4 h5
 refine(iEEEAAAAA t p' s' e h1 (Nat.le_trans h2 hd) (Nat.le_trans h3 hz) h4 (fun b x hb=>h5 b x ?_))
 by_cases q:b=h
 ·subst q;rw[upd_self] at hb ⊢;exact hb
 ·rw[upd_ne _ _ q] at hb ⊢
  exact hs b x (by rw[upd_ne _ _ q];exact hb)
theorem drop_last(l:List AV)(h:l.length=4):avPick Option.none (some (-1)) l=l.take 3:=by
 have:clipAt l.length (-1)=3:=by rw[h];decide
 show(l.drop 0).take (clipAt l.length (-1)-0)=_
 rw[List.drop_zero,this]
theorem subh{own W:Own}{h:Addr}{z:AObj}(k:∀ b x,b≠h→own b=some x→W b=some x):sub (upd own h z) (upd W h z):=fun b x hb=>by
 by_cases q:b=h
 ·subst q;rw[upd_self] at hb ⊢;exact hb
 ·rw[upd_ne _ _ q] at hb ⊢;exact k b x q hb
theorem subh2{own:Own}{h a:Addr}{x y z:AObj}(ha:upd own h x a=Option.none):sub (upd own h z) (upd (upd (upd own h x) a y) h z):=subh fun b w q hb=>by
 have e:b≠a:=by rintro rfl;rw[upd_ne _ _ q,hb] at ha;cases ha
 rw[upd_ne _ _ e,upd_ne _ _ q];exact hb
theorem bent_ok_{h c:Addr}{cs:List Int}:∀(n:Nat)(t:T)(p:Nat)(s:Int)(ℓ:Nat)(own:Own),t.std=true→t.dep≤n→Cs own h c cs→Ha own h c p s→ℓ+(n+5)≤900→Cal G ℓ own (.ref 529) [.ref h,t.av] (Kt own h c (n+1) (5*t.size))
 |0,t,_,_,_,_,_,hd,_,_,_=>no0 hd
 |n+1,.mk o ks,p,s,ℓ,own,hst,hd,C,H,hl=>by
  have ok:=(T.std_ok _ hst).1
  have I:=Tm.of ok hd
  rw[T.std_iff] at hst
  have e0:(T.mk o ks).av=.tup (.str o::T.avs ks):=by rw[T.av_1]
  rw[T.size_1]
  have hh:∃ x,own h=some x:=⟨_,H.at_⟩
  rw[e0]
  refine Cal.fn (def_law_bent _) rfl (by lia) ?_
  conv in (fnBody _)=>whnf
  have l1:(AV.str o::T.avs ks).length≤1000:=Nat.succ_le_succ (Nat.le_trans I.few9 (by decide))
  have hlen:(AV.str o::T.avs ks).length=ks.length+1:=by rw[List.length_cons,T.avs_len]
  cases ks with
  |nil=>
   refine S.ifT (T.cmp (P.lenT P.lo l1) P.i (Op.eqI (VXt (by rw[hlen];simp)))) ?_
   refine Exs.cons (Ex.ret (Ev.ifexp (Tst.cmp (Ev.k k_law_pick ((P.two P.ce P.i).to (pick_ok (n:=3) (by decide) C H (by lia) fun v p1 s1 hv hs=>Ev.to P.i (Op.eqI (iEA _ rfl ?_))))))))
   by_cases hv0:v=0
   ·rw[decide_eq_true (by rw[hv0];rfl),if_pos rfl]
    refine Ev.k k_law_term ((P.two P.ce P.i).to ((term_ok_ 1 p1 s1 _ _ (C.upd) (Ha.upd hs) (by lia) (by decide)).conseq fun v o k=>(iEA o (sub.refl _) (k.up (sub.refl _) (by lia) ?_ hh))))
    show gsz 1≤5*(T.sizes []+1)
    rw[T.sizes_1];decide
   ·rw[decide_eq_false (by lia),if_neg (by decide)]
    exact Ev.to P.lo (iEEEAAAAA (.mk o []) p1 s1 e0.symm (T.std_iff.mpr hst) (by rw[T.dep_1,T.deps_1];lia) (by rw[T.size_1];lia) hs (sub.refl _))
  |cons k0 ks0=>
   generalize hks:k0::ks0=ks at *
   have hpos:1≤ks.length:=by rw[← hks];simp
   refine S.ifF0 (T.cmp (P.lenT P.lo l1) P.i (Op.eqI (VXt (by rw[hlen];simp;lia)))) ?_
   refine Exs.cons (Ex.assign (by kernel_rfl) (Ev.binop (Ev.to (P.tup (P.one (P.i0 P.lo))) (Ev.k k_tuple (Evs.cons (Ev.comp (by kernel_rfl) rfl (Ev.to (P.t1 P.lo I.few) (ItT.tup ⟨by rw[sizeLine_eq];exact Nat.le_trans I.fewM (by decide),fun i ys o'=>∃ (ts:List T) (p':Nat) (s':Int),ys=T.avs ts∧ts.length=i∧(∀ t∈ts,t.std=true∧t.dep≤n+1)∧T.sizes ts≤5*T.sizes (ks.take i)∧(0≤s'∧s'<1021)∧o'=upd own h (.dS (hes c p' s')),?_,fun V V V V=>trivial,?_,?_⟩)))))))) 
   ·exact(iEEEAAAAA [] p s rfl rfl (fun t ht=>by simp at ht) (by rw[List.take_zero,T.sizes_1];lia) H.ok ((upd_same H.at_).symm))
   ·intro J' hJ;rintro i d ys _ hdi hh;refine uEEEAAAAA hh ?_;clear hh;rintro ts p' s' rfl hi hts hsz hs' rfl
    rw[T.avs_eq,List.getElem?_map] at hdi
    refine uEA (Option.map_eq_some_iff.mp hdi) ?_;rintro t ht rfl
    have mt:=List.mem_of_getElem? ht
    refine uEAAA (I.kid t.av (by rw[T.avs_eq];exact List.mem_map_of_mem mt)) fun t' V e h3 h4=>?_
    rw[← T.av_inj e] at h3 h4
    refine⟨_,.name rfl,?_⟩
    unfold IfsT
    dsimp only
    rw[if_pos rfl]
    refine Ev.k k_law_bent ((P.two P.fr P.lo).to ((bent_ok_ n t p' s' _ _ (hst.2.2 t mt) h4 C.upd (Ha.upd hs') (by lia)).kt fun u p'' s'' h1 h2 h5 h6=>⟨_,sub.refl _,hJ _ _ _ (iEEEAAAAA (ts++[u]) p'' s'' ?_ (by rw[List.length_append,hi];rfl) (fun w hw=>?_) ?_ h6 (upd_upd _ _ _ _))⟩))
    ·rw[T.avs_eq,T.avs_eq,List.map_append];rfl
    ·rcases List.mem_append.mp hw with hw|hw
     ·exact hts w hw
     ·rw[List.mem_singleton.mp hw];exact⟨h1,h2⟩
    ·rw[List.take_add_one,ht,Option.toList_some,T.sizes_app,T.sizes_app,T.sizes_2,T.sizes_1,T.sizes_2,T.sizes_1];lia
   ·rintro ys _ hh;refine uEEEAAAAA hh ?_;clear hh;rintro ts p' s' rfl hi hts hsz hs' rfl a ha
    rw[T.avs_len] at hi hsz
    rw[List.take_length] at hsz
    have e1:(T.avs ts).length≤900:=by rw[T.avs_len,hi];lia
    have ha':own a=Option.none:=(upd_none ha).1
    have hk3:=hst.2.1
    refine Evs.nil (Cal.tupL (upd_self _ _ _) (by rw[sizeLine_eq];lia) (Op.addT (by simp) (fitsL e1 (Nat.succ_le_succ (Nat.zero_le _))) ?_))
    have C2:=(C.upd (x:=.dS (hes c p' s'))).fresh (x:=.list (T.avs ts)) ha
    have H2:=(Ha.upd (own:=own) (h:=h) (c:=c) (p:=p') hs').fresh (x:=.list (T.avs ts)) ha
    have el:(AV.str o::T.avs ts).length=ts.length+1:=by rw[List.length_cons,T.avs_len]
    refine Exs.cons (Ex.if_ (Tst.cmp (Ev.k k_law_pick ((P.two P.ce P.i).to (pick_ok (n:=5) (by decide) C2 H2 (by lia) fun v p2 s2 hv hs2=>Ev.to P.i (Op.gt (iEA _ rfl ?_)))))))
    have SH:=subh2 (z:=.dS (hes c p2 s2)) (y:=.list (T.avs ts)) ha
    by_cases hv0:(v:Int) > 0
    ·rw[decide_eq_true hv0,if_pos rfl]
     exact S.ret P.lo (iEEEAAAAA (.mk o ts) p2 s2 (by rw[T.av_1];rfl) (T.std_iff.mpr (iAA hst.1 (by rw[hi];exact hk3) (fun t ht=>(hts t ht).1))) (by rw[T.dep_1];exact Nat.succ_le_succ (T.deps_le.mpr fun t ht=>(hts t ht).2)) (by rw[T.size_1];lia) hs2 SH)
    ·rw[decide_eq_false hv0,if_neg (by decide)]
     by_cases h4:ts.length+1<4
     ·refine Exs.nil (Exs.cons (Ex.ret (Ev.ifexp (Tst.to (T.cmp (P.lenT (vs:=.str o::T.avs ts) P.lo (by rw[el];lia)) P.i (Op.lt (VXt (b:=true) (by rw[el];simp;lia)))) ?_))))
      refine Ev.binop (Ev.to P.lo (Ev.tuple (Evs.cons (Ev.k k_law_term ((P.two P.ce P.i).to ((term_ok_ 0 p2 s2 _ _ (C2.upd) (Ha.upd hs2) (by lia) (by decide)).kt fun u p3 s3 u1 u2 u3 u4=>Evs.nil ⟨by rw[sizeLine_eq];simp,Op.addT (by simp) (by show(AV.str o::T.avs ts).length+1≤_;rw[el,sizeLine_eq];lia) ?_⟩))))))
      rw[upd_upd]
      have u3':u.size≤1:=u3
      refine(iEEEAAAAA (.mk o (ts++[u])) p3 s3 ?_ (T.std_iff.mpr (iAA hst.1 (by rw[List.length_append];simp;lia) (fun t ht=>?_))) ?_ ?_ u4 (subh2 ha))
      ·rw[T.av_1,T.avs_eq,T.avs_eq,List.map_append];rfl
      ·rcases List.mem_append.mp ht with ht|ht
       ·exact(hts t ht).1
       ·rw[List.mem_singleton.mp ht];exact u1
      ·rw[T.dep_1]
       refine Nat.succ_le_succ (T.deps_le.mpr fun t ht=>?_)
       rcases List.mem_append.mp ht with ht|ht
       ·exact(hts t ht).2
       ·rw[List.mem_singleton.mp ht];lia
      ·rw[T.size_1,T.sizes_app,T.sizes_2,T.sizes_1];lia
     ·have l3:ts.length=3:=by lia
      refine Exs.nil (Exs.cons (Ex.ret (Ev.ifexp (Tst.to (T.cmp (P.lenT (vs:=.str o::T.avs ts) P.lo (by rw[el];lia)) P.i (Op.lt (VXt (b:=false) (by rw[el];simp;lia)))) ?_))))
      refine Ev.slice (Ev.to P.lo (show Ev _ _ _ _ _ _ _ from Ev.neg (Ev.cint (iEAEA _ rfl _ rfl (Sl.tup (l:=.str o::T.avs ts) (by rw[el,sizeLine_eq];lia) ?_)))))
      rw[drop_last _ (by rw[el,l3])]
      refine(iEEEAAAAA (.mk o (ts.take 2)) p2 s2 ?_ (T.std_iff.mpr (iAA hst.1 (by rw[List.length_take];lia) (fun t ht=>(hts t (List.mem_of_mem_take ht)).1))) ?_ ?_ hs2 SH)
      ·rw[T.av_1,T.avs_eq,T.avs_eq,List.map_take];rfl
      ·rw[T.dep_1];exact Nat.succ_le_succ (T.deps_le.mpr fun t ht=>(hts t (List.mem_of_mem_take ht)).2)
      ·have:T.sizes (ts.take 2)≤T.sizes ts:=by
        have e:=T.sizes_app (ts.take 2) (ts.drop 2)
        rw[List.take_append_drop] at e;lia
       rw[T.size_1];lia
end
set_option genInjectivity false in
structure HA where
 (hp hd bk bd un ud nodes nums wts dps uab ltl mrg kn ab e1 e2 e3:Addr)
abbrev Nd:=Str × List Nat
noncomputable def ndA(x:Nd):AV:=.tup (.str x.1::x.2.map fun(i:Nat)=>AV.int (i:Int))
noncomputable def iNA(i:Nat):AV:=.int (i:Int)
noncomputable def bm(A:HA):MM:=mset (mset (mset (mset m0 "nodes" (.ref A.nodes)) "numbers" (.ref A.nums)) "weights" (.ref A.wts)) "depths" (.ref A.dps)
noncomputable def um(A:HA):MM:=mset (mset (mset m0 "above" (.ref A.uab)) "lots" (.ref A.ltl)) "merged" (.ref A.mrg)
noncomputable def hm(A:HA):MM:=mset (mset (mset (mset (mset (mset (mset (mset m0 "bank" (.ref A.bk)) "unions" (.ref A.un)) "edges" (.ref A.e1)) "forest" (.ref A.e2)) "known" (.ref A.kn)) "above" (.ref A.ab)) "waiting" (.ref A.e3)) "backs" (.int 0)
noncomputable def nL(l:List Nat):List AV:=l.map fun(i:Nat)=>AV.int (i:Int)
structure BSt (own:Own) (A:HA) (N:List Nd) (W D:List Int):Prop where
 bk:own A.bk=some (.inst 215 A.bd)
 bd:own A.bd=some (.ns (bm A))
 nodes:own A.nodes=some (.list (N.map ndA))
 nums:own A.nums=some (.dT (esG ndA iNA 0 N))
 wts:own A.wts=some (.list (intL W))
 dps:own A.dps=some (.list (intL D))
 ne:A.nodes≠A.wts∧A.nodes≠A.dps∧A.wts≠A.dps
 wl:W.length=N.length
 dl:D.length=N.length
structure USt (own:Own) (A:HA) (lots:List Addr) (n:Nat):Prop where
 un:own A.un=some (.inst 373 A.ud)
 ud:own A.ud=some (.ns (um A))
 uab:own A.uab=some (.list (nL (List.range n)))
 ltl:own A.ltl=some (.list (lots.map AV.ref))
 len:lots.length=n
 lot:∀(i:Nat)(a:Addr),lots[i]?=some a→own a=some (.list [.int (i:Int)])
 ne:A.uab≠A.ltl
theorem ndA_inj(a b:Nd)(h:ndA a=ndA b):a=b:=by
 obtain⟨x,l⟩:=a
 obtain⟨y,k⟩:=b
 injection h with h
 injection h with h1 h2
 injection h1 with h1
 have:∀ l k:List Nat,(l.map fun(i:Nat)=>AV.int (i:Int))=(k.map fun(i:Nat)=>AV.int (i:Int))→l=k:=by
  intro l
  induction l with
  |nil=>intro k h;cases k with
   |nil=>rfl
   |cons=>simp at h
  |cons i l ih=>intro k h;cases k with
   |nil=>simp at h
   |cons j k=>
    simp only[List.map_cons,List.cons.injEq,AV.int.injEq] at h
    rw[ih k h.2,show i=j by lia]
 rw[Prod.mk.injEq]
 exact⟨h1,this l k h2⟩
theorem nL_intL(l:List Nat):nL l=intL (l.map fun(i:Nat)=>(i:Int)):=by
 induction l with
 |nil=>rfl
 |cons a l ih=>unfold nL at ih ⊢;rw[List.map_cons,ih];rfl
theorem ndA_key{x:Nd}(h:x.1∈ops5):tkOk (ndA x):=by
 have k:∀ l:List Nat,AV.keys (l.map fun(i:Nat)=>AV.int (i:Int))=true∧AV.deps (l.map fun(i:Nat)=>AV.int (i:Int))=0:=by
  intro l
  induction l with
  |nil=>exact⟨rfl,rfl⟩
  |cons a l ih=>rw[List.map_cons];exact⟨by rw[AV.keys_2,ih.1];rfl,by rw[AV.deps_2,ih.2];simp[AV.dep_1,AV.dep_2,AV.dep_3]⟩
 refine⟨?_,?_⟩
 ·show AV.keys (_::_)=true
  rw[AV.keys_2,AV.key_2,(opOk_iff (ops5_ok h).1).2.2,(k x.2).1];rfl
 ·show AV.deps (_::_)+1≤8
  rw[AV.deps_2,(k x.2).2];simp[AV.dep_1,AV.dep_2,AV.dep_3]
section
variable{G:GC}{ℓ:Nat}{sc:Names}{m:MM}{own:Own}{K:AV→Own→Prop}{A:HA}{N:List Nd}{W D:List Int}{lots:List Addr}{n:Nat}{o:Expr}{pos:Pos}
theorem P.attr{x d C:Addr}{a:MM}{name:Str}{v:AV}(h:EvP G ℓ sc m own o (.ref x))(hx:own x=some (.inst C d))(hd:own d=some (.ns a))(hC:Cls G.w.params C)(hn:noAttr G.w.params C name)(ha:a name=some v)(hb:v.noBi=true)
  (hbase:∀ env,attributeBase o name env (eval o env)=eval o env):EvP G ℓ sc m own (.Attribute o name pos) v:=Ev.attr (h.to (iEEEEEAAAAAAA x C d a v rfl hx hd ha hC hn hb rf)) hbase
theorem P.nodes(S:BSt own A N W D)(h:EvP G ℓ sc m own o (.ref A.bk))(hb:autoParam (∀ env,attributeBase o "nodes" env (eval o env)=eval o env) sI):EvP G ℓ sc m own (.Attribute o "nodes" pos) (.ref A.nodes):=P.attr h S.bk S.bd (cls_Bank _) (no_Bank_nodes _) (by kernel_rfl) rfl hb
theorem P.numbers(S:BSt own A N W D)(h:EvP G ℓ sc m own o (.ref A.bk))(hb:autoParam (∀ env,attributeBase o "numbers" env (eval o env)=eval o env) sI):EvP G ℓ sc m own (.Attribute o "numbers" pos) (.ref A.nums):=P.attr h S.bk S.bd (cls_Bank _) (no_Bank_numbers _) (by kernel_rfl) rfl hb
theorem P.uabove(U:USt own A lots n)(h:EvP G ℓ sc m own o (.ref A.un))(hb:autoParam (∀ env,attributeBase o "above" env (eval o env)=eval o env) sI):EvP G ℓ sc m own (.Attribute o "above" pos) (.ref A.uab):=P.attr h U.un U.ud (cls_Un _) (no_Un_above _) (by kernel_rfl) rfl hb
theorem P.ulots(U:USt own A lots n)(h:EvP G ℓ sc m own o (.ref A.un))(hb:autoParam (∀ env,attributeBase o "lots" env (eval o env)=eval o env) sI):EvP G ℓ sc m own (.Attribute o "lots" pos) (.ref A.ltl):=P.attr h U.un U.ud (cls_Un _) (no_Un_lots _) (by kernel_rfl) rfl hb
theorem VXb{b c:Bool}(h:c=b):VX (.bool b) own (.bool c) own:=⟨by rw[h],sub.refl _⟩
theorem P.lenL{e:Expr}{q q2:Pos}{a:Addr}{l:List AV}(h:EvP G ℓ sc m own e (.ref a))(ha:own a=some (.list l))(hs:l.length≤100000)(hn:autoParam (sc.lookup ("len":Str)=some .globalImplicit) sK)(hns:autoParam (∀ env,(starEach [e] env).any (·.1)=false) sI)
  (he:autoParam (∀ env,starEach (e::[]) env=(false,eval e env)::starEach [] env) sI):EvP G ℓ sc m own (.Call (.Name "len" q) [e] [] q2) (.int l.length):=
 Ev.k k_len ((P.one h he).to (Cal.lenL ha (by lia) rf)) hn hns
theorem nL_len(l:List Nat):(nL l).length=l.length:=List.length_map _
theorem un_size(U:USt own A lots n)(hn:n≤1000)(hl:ℓ<940):CaP G ℓ own (.ref 323) [.ref A.un] (.int (n:Int)):=by
 refine D.fn (def_Un_size _) (by lia) ?_
 conv in (fnBody _)=>whnf
 have e:(nL (List.range n)).length=n:=by rw[nL_len,List.length_range]
 refine S.ret (P.lenL (P.uabove U P.lo) U.uab (by lia)) ⟨by rw[e],sub.refl _⟩
theorem un_find(U:USt own A lots n){a:Nat}(ha:a<n)(hn:n≤1000)(hl:ℓ<940):CaP G ℓ own (.ref 330) [.ref A.un,.int (a:Int)] (.int (a:Int)):=by
 refine D.fn (def_Un_find _) (by lia) ?_
 conv in (fnBody _)=>whnf
 refine Exs.cons (Ex.while_ ⟨fun V m' o'=>m'=argM ["self","a"] [.ref A.un,.int (a:Int)] m0∧o'=own,0,⟨rfl,rfl⟩,?_⟩)
 intro J' K' hJ hK;rintro _ m' o' ⟨rfl,rfl⟩
 have e:(nL (List.range n))[a]?=some (.int (a:Int)):=by unfold nL;rw[List.getElem?_map,List.getElem?_range ha];rfl
 refine Tst.to (T.cmp (P.item (P.uabove U P.lo) P.lo (Sb.list U.uab e (by lia) rf)) P.lo (Op.neI (VXb (c:=!decide ((a:Int)=(a:Int))) (b:=false) (by simp)))) ?_
 exact hK _ _ _ (S.ret P.lo rf)
theorem un_members(U:USt own A lots n){a:Nat}(ha:a<n)(hn:n≤1000)(hl:ℓ+3≤900)(hK:∀ l,own l=Option.none→K (.ref l) (upd own l (.list [.int (a:Int)]))):Cal G ℓ own (.ref 344) [.ref A.un,.int (a:Int)] K:=by
 refine Cal.fn (def_Un_members _) rfl (by lia) ?_
 conv in (fnBody _)=>whnf
 have hal:a<lots.length:=by rw[U.len];exact ha
 have e:(lots.map AV.ref)[a]?=some (.ref lots[a]):=by rw[List.getElem?_map,List.getElem?_eq_getElem hal];rfl
 have lt:=U.lot a _ (List.getElem?_eq_getElem hal)
 refine Exs.cons (Ex.ret (Ev.k k_sorted (Evs.cons (Ev.item (Ev.to (P.ulots U P.lo) (Ev.imeth (Ev.to P.lo (iEEEEEAAAAAAAA _ _ _ _ _ rfl U.un U.ud (by kernel_rfl) (cls_Un _) ((me_Un_find _).1) ((me_Un_find _).2.1) ((me_Un_find _).2.2) ((P.one P.lo).to ((un_find U ha hn (by lia)).to ?_))))))))))
 refine Sb.list U.ltl e (by lia) (Evs.nil (Cal.sorted (by lia) (ColT.list lt (Nat.succ_le_succ (Nat.zero_le _)) (iAA (by simp) ⟨fun k hk=>?_,fun x hx y hy=>?_,.inl fun k hk=>⟨_,List.mem_singleton.mp hk⟩⟩ (fun l L' hl' hp=>?_)))))
 ·rw[List.mem_singleton.mp hk];exact⟨rfl,by simp[AV.dep_1,AV.dep_2,AV.dep_3]⟩
 ·rw[List.mem_singleton.mp hx,List.mem_singleton.mp hy];rfl
 ·rw[List.perm_singleton.mp hp]
  exact hK l hl'
theorem un_make(U:USt own A lots n)(hn:n≤1000)(hl:ℓ<940)(hK:∀ l,own l=Option.none→K (.int (n:Int)) (upd (upd (upd own A.uab (.list (nL (List.range (n+1))))) l (.list [.int (n:Int)])) A.ltl (.list ((lots++[l]).map AV.ref)))):Cal G ℓ own (.ref 316) [.ref A.un] K:=by
 refine Cal.fn (def_Un_make _) rfl (by lia) ?_
 conv in (fnBody _)=>whnf
 have e:(nL (List.range n)).length=n:=by rw[nL_len,List.length_range]
 have e2:nL (List.range n)++[.int (n:Int)]=nL (List.range (n+1)):=by unfold nL;rw[List.range_succ,List.map_append];rfl
 have e3:(nL (List.range (n+1))).length=n+1:=by rw[nL_len,List.length_range]
 have ll:(lots.map AV.ref).length=n:=by rw[List.length_map,U.len]
 refine Exs.cons (Ex.expr (Ev.meth mf_append (Ev.to (P.uabove U P.lo) ⟨.inl (iAE rfl _ U.uab),(P.one (P.lenL (P.uabove U P.lo) U.uab (by lia))).to (Cal.append U.uab (by rw[e,sizeLine_eq];lia) ⟨rfl,?_⟩)⟩)))
 rw[e,e2]
 have hux:A.un≠A.uab:=by intro k;have:=U.un;rw[k,U.uab] at this;cases this
 have hud:A.ud≠A.uab:=by intro k;have:=U.ud;rw[k,U.uab] at this;cases this
 generalize hW:upd own A.uab (.list (nL (List.range (n+1))))=W1
 have w1:W1 A.un=some (.inst 373 A.ud):=by rw[← hW,upd_ne _ _ hux];exact U.un
 have w2:W1 A.ud=some (.ns (um A)):=by rw[← hW,upd_ne _ _ hud];exact U.ud
 have w3:W1 A.ltl=some (.list (lots.map AV.ref)):=by rw[← hW,upd_ne _ _ (Ne.symm U.ne)];exact U.ltl
 refine Exs.cons (Ex.expr (Ev.meth mf_append (Ev.to (P.attr (v:=.ref A.ltl) P.lo w1 w2 (cls_Un _) (no_Un_lots _) (by kernel_rfl) rfl (by intro _;rfl)) ⟨.inl (iAE rfl _ w3),Evs.cons (Ev.list ((P.one (P.lenL (P.attr (v:=.ref A.ltl) P.lo w1 w2 (cls_Un _) (no_Un_lots _) (by kernel_rfl) rfl (by intro _;rfl)) w3 (by lia))).to ⟨by rw[sizeLine_eq];simp,fun l hl'=>Evs.nil (Cal.append (l:=lots.map AV.ref) ?_ (by rw[ll,sizeLine_eq];lia) ⟨rfl,?_⟩)⟩))⟩)))
 ·rw[upd_ne];exact w3
  intro k;rw[k,hl'] at w3;cases w3
 ·rw[ll]
  have hlu:l≠A.un:=by intro k;rw[k,w1] at hl';cases hl'
  have hld:l≠A.ud:=by intro k;rw[k,w2] at hl';cases hl'
  have hla:l≠A.uab:=by intro k;rw[k,← hW,upd_self] at hl';cases hl'
  have hlt:A.uab≠A.ltl:=U.ne
  have z1:A.un≠A.ltl:=by intro k;rw[k,w3] at w1;cases w1
  have z2:A.ud≠A.ltl:=by intro k;rw[k,w3] at w2;cases w2
  have v3:upd (upd W1 l (.list [.int (n:Int)])) A.ltl (.list (lots.map AV.ref++[.ref l])) A.uab=some (.list (nL (List.range (n+1)))):=by rw[upd_ne _ _ hlt,upd_ne _ _ (Ne.symm hla),← hW,upd_self]
  refine S.ret (P.bin (P.lenL (P.attr (v:=.ref A.uab) P.lo (by rw[upd_ne _ _ z1,upd_ne _ _ (Ne.symm hlu)];exact w1) (by rw[upd_ne _ _ z2,upd_ne _ _ (Ne.symm hld)];exact w2) (cls_Un _) (no_Un_above _) (by kernel_rfl) rfl (by intro _;rfl)) v3 (by lia)) P.i (Op.sub rf)) ?_
  rw[e3,show(((n+1:Nat):Int)-1)=(n:Int) by lia,← hW,show lots.map AV.ref++[AV.ref l]=(lots++[l]).map AV.ref by rw[List.map_append];rfl]
  exact hK l (by rw[← hW] at hl';exact(upd_none hl').1)
end
section
variable{G:GC}{ℓ:Nat}{sc:Names}{m:MM}{own:Own}{K:AV→Own→Prop}{A:HA}{N:List Nd}{W D:List Int}{lots:List Addr}{n:Nat}{o:Expr}{pos:Pos}
noncomputable def badS:Str:=Str.ofString "()[]{},:"
theorem ops5_facts{x:Str}(h:x∈ops5):Txt.isspace x=false∧(Builtin.Str.occurrences badS x 0 badS.length 1).isEmpty=true∧x.cps.all (·<128)=true∧signs x=[.str x]∧(AV.str x≠.str (Str.ofString ""))∧(AV.str x≠.str (Str.ofString "?"))∧PyData.strOk x=true∧∃ c,(seqIndex? 0 x.length).bind (x.cps[·]?)=some c∧(⟨#[c]⟩:Str)=x:=by
 have:(ops5.all fun x=>!Txt.isspace x&&(Builtin.Str.occurrences badS x 0 badS.length 1).isEmpty&&x.cps.all (·<128)&&decide (x.cps.toList.map (fun c=>(⟨#[c]⟩:Str))=[x])&&decide (x≠Str.ofString "")&&decide (x≠Str.ofString "?")&&PyData.strOk x&&decide (((seqIndex? 0 x.length).bind (x.cps[·]?)).map (fun c=>(⟨#[c]⟩:Str))=some x))=true:=by decide +kernel
 have:=List.all_eq_true.mp this x h
 simp only[Bool.and_eq_true,Bool.not_eq_true',decide_eq_true_eq] at this
 obtain⟨⟨⟨⟨⟨⟨⟨h1,h2⟩,h3⟩,h4⟩,h5⟩,h6⟩,h7⟩,h8⟩:=this
 refine uEA (Option.map_eq_some_iff.mp h8) fun c hc e=>?_
 refine(iAAAAAAAEA h1 h2 h3 ?_ (fun k=>h5 (by injection k)) (fun k=>h6 (by injection k)) h7 c hc e)
 have:=congrArg (List.map AV.str) h4
 rw[List.map_map] at this
 exact this
theorem is_op_ok{x:Str}(h:x∈ops5)(hl:ℓ<940):CaP G ℓ own (.ref 79) [.str x] (.bool true):=by
 refine uAAAAAAAEA (ops5_facts h) fun h1 h2 h3 h4 h5 h6 h7 c hc e=>?_
 refine Mine.D.fn (def_is_op _) (by lia) ?_
 conv in (fnBody _)=>whnf
 have es:PyData.strOk (Str.ofString "")=true:=by decide +kernel
 have em:=O.neS (G:=G) (ℓ:=ℓ+1) (own:=own) h7 es (by lia)
 rw[decide_eq_false h5] at em
 refine S.ret (P.and2 (P.cmp P.lo P.s em) fun V=>P.filNil (op:=.Eq) P.lo (by have:=Wk.str (G:=G) (ℓ:=ℓ+1) (own:=own) (t:=?t) h3;exact this) (Q:=fun V=>false) (b:=true) (fun d hd=>?_) (fun d hd=>?_) (by simp) (by lia) (by rw[h4];exact(by decide:1≤100000))) rf
 ·rw[h4] at hd
  rw[List.mem_singleton.mp hd]
  exact(iEAA _ (.name rfl) (T.or2 (T.ts (Ev.meth mf_isspace (Ev.to (v:=.str x) P.lo ⟨rfl,Evs.nil (Cal.isspace (VXb h1))⟩))) fun V=>T.cmp P.lo P.s (Op.inStr (VXb (b:=false) (by show(!(Builtin.Str.occurrences badS x 0 badS.length 1).isEmpty)=false;rw[h2];rfl)))) (fun k=>by simp at k))
 ·rw[h4] at hd
  rw[List.mem_singleton.mp hd]
  exact⟨h7,by simp[AV.dep_1,AV.dep_2,AV.dep_3]⟩
theorem require_ok{x:Str}{r:AV}(h:x∈ops5)(hl:ℓ<900):CaP G ℓ own (.ref 146) [r,.str x] .none:=by
 refine uAAAAAAAEA (ops5_facts h) fun h1 h2 h3 h4 h5 h6 h7 c hc e=>?_
 refine Mine.D.fn (def_Bank_require _) (by lia) ?_
 conv in (fnBody _)=>whnf
 have em:=O.eqS (G:=G) (ℓ:=ℓ+1) (own:=own) h7 qm_ok (by lia)
 rw[decide_eq_false h6] at em
 exact S.ifF0 (T.or2 (T.nt (T.ts (Ev.k k_is_op ((P.one P.lo).to (is_op_ok h (by lia)))))) fun V=>T.cmp (P.item (v:=.str x) P.lo P.i (Sb.str (by decide) hc (by rw[e];exact rf))) P.s em) (Exs.nil rf)
theorem bank_op(B:BSt own A N W D){i:Nat}{x:Nd}(hx:N[i]?=some x)(hi:i<2 ^ 40)(hl:ℓ<940):CaP G ℓ own (.ref 172) [.ref A.bk,.int (i:Int)] (.str x.1):=by
 refine Mine.D.fn (def_Bank_op _) (by lia) ?_
 conv in (fnBody _)=>whnf
 exact S.ret (P.i0 (P.item (v:=ndA x) (P.nodes B P.lo) P.lo (Sb.list B.nodes (by rw[List.getElem?_map,hx];rfl) (by lia) rf))) rf
theorem bank_kids(B:BSt own A N W D){i:Nat}{x:Nd}(hx:N[i]?=some x)(hi:i<2 ^ 40)(hk:x.2.length≤900)(hl:ℓ<940):CaP G ℓ own (.ref 179) [.ref A.bk,.int (i:Int)] (.tup (nL x.2)):=by
 refine Mine.D.fn (def_Bank_kids _) (by lia) ?_
 conv in (fnBody _)=>whnf
 exact S.ret (P.t1 (P.item (v:=ndA x) (P.nodes B P.lo) P.lo (Sb.list B.nodes (by rw[List.getElem?_map,hx];rfl) (by lia) rf)) (by rw[List.length_map];lia)) rf
theorem keep{own:Own}{a b:Addr}{x y z:AObj}(hb:own b=some y)(ha:own a=some x)(h:x≠y):upd own a z b=some y:=by
 rw[upd_ne];exact hb
 rintro rfl;rw[ha] at hb;injection hb with hb;exact h hb
theorem keep2{own:Own}{a b:Addr}{y z:AObj}(hb:own b=some y)(h:a≠b):upd own a z b=some y:=by rw[upd_ne _ _ (Ne.symm h)];exact hb
theorem St3.dTe{a:Addr}{es es':List (AV × AV)}{l:List AV}{v:AV}{K:Own→Prop}(hl:ℓ≤1000)(ha:own a=some (.dT es))(hk:tkOk (.tup l))(hsz:es.length≤sizeLine)(e:aPut es (.tup l) v=es')(h:K (upd own a (.dT es'))):St3 G ℓ own (.ref a) (.tup l) v K:=St3.dT hl ha hk hsz (by rw[e];exact h)
noncomputable def getA(W:List Int):AV→AV
 |.int k=>.int (W.getD k.toNat 0)
 |x=>x
theorem getA_map(W:List Int)(l:List Nat):(nL l).map (getA W)=intL (l.map fun k=>W.getD k 0):=by
 induction l with
 |nil=>rfl
 |cons a l ih=>
  unfold nL at ih ⊢
  rw[List.map_cons,List.map_cons,ih]
  show AV.int (W.getD ((a:Int)).toNat 0)::_=_
  rw[Int.toNat_natCast];rfl
theorem nL_mem{l:List Nat}{d:AV}(h:d∈nL l):∃ i∈l,d=.int (i:Int):=by
 refine uEA (List.mem_map.mp h) ?_;rintro i hi rfl
 exact(iEA i hi rfl)
theorem take_ok(B:BSt own A N W D){op:Str}{ks:List Nat}(ho:op∈ops5)(hk:∀ k∈ks,k<N.length)(hk3:ks.length≤3)(hN:N.length≤1000)(hl:ℓ+3≤900)
  (h1:(op,ks)∈N→K (.int ((gx N (op,ks):Nat):Int)) own)
  (h2:(op,ks)∉N→∀ w d:Int,K (.int (N.length:Int)) (upd (upd (upd (upd own A.nums (.dT (esG ndA iNA 0 (N++[(op,ks)])))) A.nodes (.list ((N++[(op,ks)]).map ndA))) A.wts (.list (intL (W++[w])))) A.dps (.list (intL (D++[d]))))) :
  Cal G ℓ own (.ref 139) [.ref A.bk,.str op,.tup (nL ks)] K:=by
 refine Cal.fn (def_Bank_take _) rfl (by lia) ?_
 conv in (fnBody _)=>whnf
 have nk:(nL ks).length≤900:=by rw[nL_len];lia
 have nd:AV.tup ([AV.str op]++nL ks)=ndA (op,ks):=rfl
 have tk:tkOk (ndA (op,ks)):=ndA_key ho
 have ea:=esG_at ndA_inj iNA (op,ks) N 0
 have el:=esG_len ndA iNA N 0
 refine S.set (v:=ndA (op,ks)) (P.bin (P.tup (P.one P.lo)) (Ev.k k_tuple ((P.one P.lo).to (Cal.tupT rf))) (Op.addT (by simp) (fitsL nk (Nat.succ_le_succ (Nat.zero_le _))) rf)) ?_
 by_cases hm:(op,ks)∈N
 ·have ea:=ea.1 hm
  rw[Nat.zero_add] at ea
  exact S.ifT (T.cmp P.lo (P.numbers B P.ce) (Op.inT (by lia) B.nums tk (VXb (by show(aAt (esG ndA iNA 0 N) (ndA (op,ks))).isSome=true;rw[ea];rfl)))) (S.ret (P.item (P.numbers B P.ce) P.lo (Sb.dT (by lia) B.nums tk ea rf)) (h1 hm))
 ·have ea:=ea.2 hm
  refine S.ifF0 (T.cmp P.lo (P.numbers B P.ce) (Op.inT (by lia) B.nums tk (VXb (by show(aAt (esG ndA iNA 0 N) (ndA (op,ks))).isSome=false;rw[ea.1];rfl)))) ?_
  refine Exs.cons (Ex.expr (Ev.imeth (Ev.to P.ce (iEEEEEAAAAAAAA _ _ _ _ _ rfl B.bk B.bd (by kernel_rfl) (cls_Bank _) ((me_Bank_require _).1) ((me_Bank_require _).2.1) ((me_Bank_require _).2.2) ((P.one P.lo).to ((require_ok ho (by lia)).to ⟨rfl,?_⟩))))))
  have nl:(N.map ndA).length=N.length:=List.length_map _
  refine Exs.cons (Ex.for_ (Ev.to (P.t1 (a:=.str op) (vs:=nL ks) P.lo (by lia)) (ItT.tup ⟨fun i m' o'=>m'=mset (argM ["self","op","kids"] [.ref A.bk,.str op,.tup (nL ks)] m0) "node" (ndA (op,ks))∧o'=own,⟨rfl,rfl⟩,fun V V V V=>trivial,?_,?_⟩)))
  ·intro J' K' hJ hK;rintro i d m' o' hd ⟨rfl,rfl⟩
   refine uEA (nL_mem (List.mem_of_getElem? hd)) ?_;rintro k hk' rfl
   have:=hk k hk'
   refine⟨_,.name (by kernel_rfl),Exs.cons (Ex.if_ (Tst.not (Tst.chain2 (Ev.to P.i (Ev.to P.lo (Op.le (iEA _ rfl ?_)))))))⟩
   refine Ev.to (P.lenL (P.nodes B P.ce) B.nodes (by rw[nl];lia)) (Op.lt (iEA _ rfl ?_))
   rw[nl,decide_eq_true (by lia),Bool.not_true,if_neg (by simp)]
   exact Exs.nil (Exs.nil ⟨_,_,fun x v hx=>mset_mono rfl x v hx,sub.refl _,hJ _ _ _ ⟨rfl,rfl⟩⟩)
  ·rintro m' o' ⟨rfl,rfl⟩
   have e1:aPut (esG ndA iNA 0 N) (ndA (op,ks)) (.int ((N.map ndA).length:Int))=esG ndA iNA 0 (N++[(op,ks)]):=by
    unfold aPut
    rw[ea.1,esG_app,nl,Nat.zero_add];rfl
   refine Exs.cons (Ex.setitem (Ev.to (P.lenL (P.nodes B P.ce) B.nodes (by rw[nl];lia)) (Ev.to (P.numbers B P.ce) (Ev.to P.lo (St3.dTe (by lia) B.nums tk (by rw[el,sizeLine_eq];lia) e1 ?_)))))
   generalize hW1:upd o' A.nums (.dT (esG ndA iNA 0 (N++[(op,ks)])))=W1
   have k1:W1 A.bk=some (.inst 215 A.bd):=by rw[← hW1];exact keep B.bk B.nums (by intro h;cases h)
   have k2:W1 A.bd=some (.ns (bm A)):=by rw[← hW1];exact keep B.bd B.nums (by intro h;cases h)
   have k3:W1 A.nodes=some (.list (N.map ndA)):=by rw[← hW1];exact keep B.nodes B.nums (by intro h;cases h)
   have k4:W1 A.wts=some (.list (intL W)):=by rw[← hW1];exact keep B.wts B.nums (by intro h;cases h)
   have k5:W1 A.dps=some (.list (intL D)):=by rw[← hW1];exact keep B.dps B.nums (by intro h;cases h)
   refine Exs.cons (Ex.expr (Ev.meth mf_append (Ev.to (P.attr (v:=.ref A.nodes) P.ce k1 k2 (cls_Bank _) (no_Bank_nodes _) (by kernel_rfl) rfl (by intro _;rfl)) ⟨.inl (iAE rfl _ k3),(P.one P.lo).to (Cal.append k3 (by rw[nl,sizeLine_eq];lia) ⟨rfl,?_⟩)⟩)))
   have e2:N.map ndA++[ndA (op,ks)]=(N++[(op,ks)]).map ndA:=by rw[List.map_append];rfl
   rw[e2]
   generalize hW2:upd W1 A.nodes (.list ((N++[(op,ks)]).map ndA))=W2
   have q1:W2 A.bk=some (.inst 215 A.bd):=by rw[← hW2];exact keep k1 k3 (by intro h;cases h)
   have q2:W2 A.bd=some (.ns (bm A)):=by rw[← hW2];exact keep k2 k3 (by intro h;cases h)
   have q4:W2 A.wts=some (.list (intL W)):=by rw[← hW2];exact keep2 k4 B.ne.1
   have q5:W2 A.dps=some (.list (intL D)):=by rw[← hW2];exact keep2 k5 B.ne.2.1
   have q3:W2 A.nodes=some (.list ((N++[(op,ks)]).map ndA)):=by rw[← hW2];exact upd_self _ _ _
   have wl:=intL_length W
   have dl:=intL_length D
   have rd:∀(X:List Int)(k:Nat),k<X.length→(intL X)[k]?=some (getA X (.int (k:Int))):=fun X k h=>by
    rw[intL_get,List.getElem?_eq_getElem h]
    show _=some (AV.int (X.getD ((k:Int)).toNat 0))
    rw[Int.toNat_natCast,List.getD_eq_getElem?_getD,List.getElem?_eq_getElem h];rfl
   refine Exs.cons (Ex.expr (Ev.meth mf_append (Ev.to (P.attr (v:=.ref A.wts) P.ce q1 q2 (cls_Bank _) (no_Bank_weights _) (by kernel_rfl) rfl (by intro _;rfl)) ⟨.inl (iAE rfl _ q4),(P.one (P.bin P.i (P.su (P.t1 (a:=.str op) (vs:=nL ks) P.lo (by lia)) Wk.tup (F:=getA W) (fun d hd=>?_) (getA_map W ks) (by lia)) (Op.add rf))).to (Cal.append q4 (by rw[wl,B.wl,sizeLine_eq];lia) ⟨rfl,?_⟩)⟩)))
   ·refine uEA (nL_mem hd) ?_;rintro k hk' rfl
    have hkN:=hk k hk'
    exact(iEA _ (.name rfl) (P.item (P.attr (v:=.ref A.wts) P.fr q1 q2 (cls_Bank _) (no_Bank_weights _) (by kernel_rfl) rfl (by intro _;rfl)) P.lo (Sb.list q4 (rd W k (by rw[B.wl];exact hkN)) (by lia) rf)))
   have e3:∀(X:List Int)(w:Int),intL X++[AV.int w]=intL (X++[w]):=fun X w=>by
    induction X with
    |nil=>rfl
    |cons a X ih=>rw[intL_2,List.cons_append,ih];rfl
   rw[e3]
   generalize (1+(ks.map fun k=>W.getD k 0).sum)=w
   generalize hW3:upd W2 A.wts (.list (intL (W++[w])))=W3
   have r1:W3 A.bk=some (.inst 215 A.bd):=by rw[← hW3];exact keep q1 q4 (by intro h;cases h)
   have r2:W3 A.bd=some (.ns (bm A)):=by rw[← hW3];exact keep q2 q4 (by intro h;cases h)
   have r3:W3 A.nodes=some (.list ((N++[(op,ks)]).map ndA)):=by rw[← hW3];exact keep2 q3 (Ne.symm B.ne.1)
   have r5:W3 A.dps=some (.list (intL D)):=by rw[← hW3];exact keep2 q5 B.ne.2.2
   refine Exs.cons (Ex.expr (Ev.meth mf_append (Ev.to (P.attr (v:=.ref A.dps) P.ce r1 r2 (cls_Bank _) (no_Bank_depths _) (by kernel_rfl) rfl (by intro _;rfl)) ⟨.inl (iAE rfl _ r5),Evs.cons (Ev.conseq (K:=fun v o=>∃ d:Int,v=.int d∧sub W3 o) (Ev.binop (Ev.to P.i (Ev.k k_max (Evs.cons (Ev.binop (P.comp (P.t1 (a:=.str op) (vs:=nL ks) P.lo (by lia)) Wk.tup (F:=getA D) (fun d hd=>?_) (fun a ha=>Ev.list ((P.one P.i).to ⟨by rw[sizeLine_eq];simp,fun b hb=>Op.addL (x:=(nL ks).map (getA D)) (y:=[.int 0]) ?_ (upd_self _ _ _) ?_ fun c hc=>Evs.nil (Cal.max (l:=(ks.map fun k=>D.getD k 0)++[0]) ?_ (by simp) fun M=>Op.add (iEA _ rfl (((sub.upd ha).trans (sub.upd hb)).trans (sub.upd hc))))⟩)) (by lia))))))) fun v o q13364=>uEA q13364 fun d e h=>(iEA W3 h ?_))⟩)))
   ·refine uEA (nL_mem hd) ?_;rintro k hk' rfl
    have hkN:=hk k hk'
    exact(iEA _ (.name rfl) (P.item (P.attr (v:=.ref A.dps) P.fr r1 r2 (cls_Bank _) (no_Bank_depths _) (by kernel_rfl) rfl (by intro _;rfl)) P.lo (Sb.list r5 (rd D k (by rw[B.dl];exact hkN)) (by lia) rf)))
   ·rw[upd_ne];exact upd_self _ _ _
    rintro rfl;rw[upd_self] at hb;cases hb
   ·rw[List.length_map,sizeLine_eq];simp;lia
   ·rw[upd_self,getA_map,← e3]
   ·subst e
    refine Evs.nil (Cal.append r5 (by rw[dl,B.dl,sizeLine_eq];lia) ⟨rfl,?_⟩)
    rw[e3]
    have s3:upd W3 A.dps (.list (intL (D++[d]))) A.nodes=some (.list ((N++[(op,ks)]).map ndA)):=keep2 r3 (Ne.symm B.ne.2.1)
    have s1:upd W3 A.dps (.list (intL (D++[d]))) A.bk=some (.inst 215 A.bd):=keep r1 r5 (by intro h;cases h)
    have s2:upd W3 A.dps (.list (intL (D++[d]))) A.bd=some (.ns (bm A)):=keep r2 r5 (by intro h;cases h)
    have l1:((N++[(op,ks)]).map ndA).length=N.length+1:=by rw[List.length_map,List.length_append];rfl
    refine S.ret (P.bin (P.lenL (P.attr (v:=.ref A.nodes) P.ce s1 s2 (cls_Bank _) (no_Bank_nodes _) (by kernel_rfl) rfl (by intro _;rfl)) s3 (by lia)) P.i (Op.sub rf)) ?_
    rw[l1,show(((N.length+1:Nat):Int)-1)=(N.length:Int) by lia,← hW3,← hW2,← hW1]
    exact h2 hm w d
end
structure St (own:Own) (l:List (Addr × AObj)):Prop where
 nd:(l.map (·.1)).Nodup
 at_:∀ p∈l,own p.1=some p.2
theorem St.get{own:Own}{l:List (Addr × AObj)}(S:St own l){i:Nat}{a:Addr}{x:AObj}(h:l[i]?=some (a,x)):own a=some x:=S.at_ _ (List.mem_of_getElem? h)
theorem St.ne{own:Own}{l:List (Addr × AObj)}(S:St own l){i j:Nat}{a b:Addr}{x y:AObj}(h:l[i]?=some (a,x))(k:l[j]?=some (b,y))(ij:i≠j):a≠b:=by
 intro e
 have hi:(l.map (·.1))[i]?=some a:=by rw[List.getElem?_map,h];rfl
 have hj:(l.map (·.1))[j]?=some b:=by rw[List.getElem?_map,k];rfl
 obtain⟨h1,h2⟩:=List.getElem?_eq_some_iff.mp hi
 obtain⟨h3,h4⟩:=List.getElem?_eq_some_iff.mp hj
 exact ij ((List.getElem_inj S.nd).mp (h2.trans (e.trans h4.symm)))
theorem St.set{own:Own}{l:List (Addr × AObj)}(S:St own l){i:Nat}{a:Addr}{x z:AObj}(h:l[i]?=some (a,x)):St (upd own a z) (l.set i (a,z)):=by
 obtain⟨hi,he⟩:=List.getElem?_eq_some_iff.mp h
 refine⟨?_,fun p hp=>?_⟩
 ·have:(l.set i (a,z)).map (·.1)=l.map (·.1):=by
   apply List.ext_getElem?
   intro j
   rw[List.getElem?_map,List.getElem?_map]
   by_cases e:j=i
   ·rw[e,List.getElem?_set_self hi,h];rfl
   ·rw[List.getElem?_set_ne (Ne.symm e)]
  rw[this];exact S.nd
 ·rcases List.mem_or_eq_of_mem_set hp with hp'|rfl
  ·obtain⟨j,hj⟩:=List.getElem?_of_mem hp
   by_cases ij:j=i
   ·subst ij
    rw[List.getElem?_set_self hi] at hj
    cases hj
    exact upd_self _ _ _
   ·rw[List.getElem?_set_ne (Ne.symm ij)] at hj
    rw[upd_ne _ _ (S.ne (i:=j) (j:=i) (x:=p.2) hj h ij)]
    exact S.at_ p hp'
  ·exact upd_self _ _ _
theorem St.new{own:Own}{l:List (Addr × AObj)}(S:St own l){a:Addr}{z:AObj}(h:own a=Option.none):St (upd own a z) (l++[(a,z)]):=by
 have k:∀ p∈l,p.1≠a:=fun p hp e=>by have:=S.at_ p hp;rw[e,h] at this;cases this
 refine⟨?_,fun p hp=>?_⟩
 ·rw[List.map_append]
  refine List.nodup_append.mpr (iAA S.nd (by simp) (fun x hx y hy=>?_))
  refine uEA (List.mem_map.mp hx) ?_;rintro p hp rfl
  rw[List.mem_singleton.mp hy];exact k p hp
 ·rcases List.mem_append.mp hp with hp|hp
  ·rw[upd_ne _ _ (k p hp)];exact S.at_ p hp
  ·rw[List.mem_singleton.mp hp];exact upd_self _ _ _
theorem St.less{own own':Own}{l:List (Addr × AObj)}(S:St own l)(h:sub own own'):St own' l:=⟨S.nd,fun p hp=>h _ _ (S.at_ p hp)⟩
structure Fm (own own':Own) (l l':List (Addr × AObj)):Prop where
 keep:∀ a o,own a=some o→a∉l.map (·.1)→own' a=some o
 new:∀ a,a∈l'.map (·.1)→a∈l.map (·.1)∨own a=Option.none
theorem Fm.refl(own:Own)(l:List (Addr × AObj)):Fm own own l l:=⟨fun V V h V=>h,fun V h=>.inl h⟩
theorem Fm.trans{o1 o2 o3:Own}{l1 l2 l3:List (Addr × AObj)}(a:Fm o1 o2 l1 l2)(b:Fm o2 o3 l2 l3):Fm o1 o3 l1 l3:=by
 refine⟨fun x o h n=>b.keep x o (a.keep x o h n) fun m=>?_,fun x h=>?_⟩
 ·rcases a.new x m with q|q
  ·exact n q
  ·rw[h] at q;cases q
 ·rcases b.new x h with q|q
  ·exact a.new x q
  ·by_cases m:x∈l1.map (·.1)
   ·exact .inl m
   ·refine .inr ?_
    cases e:o1 x with
    |none=>rfl
    |some o=>rw[a.keep x o e m] at q;cases q
theorem Fm.set{own:Own}{l:List (Addr × AObj)}{i:Nat}{a:Addr}{x z:AObj}(h:l[i]?=some (a,x)):Fm own (upd own a z) l (l.set i (a,z)):=by
 obtain⟨hi,he⟩:=List.getElem?_eq_some_iff.mp h
 refine⟨fun b o hb n=>?_,fun b hb=>?_⟩
 ·rw[upd_ne];exact hb
  rintro rfl;exact n (List.mem_map.mpr (iEA _ (List.mem_of_getElem? h) rfl))
 ·refine uEA (List.mem_map.mp hb) ?_;rintro p hp rfl
  rcases List.mem_or_eq_of_mem_set hp with hp|rfl
  ·exact .inl (List.mem_map.mpr (iEA p hp rfl))
  ·exact .inl (List.mem_map.mpr (iEA _ (List.mem_of_getElem? h) rfl))
theorem Fm.newc{own:Own}{l:List (Addr × AObj)}{a:Addr}{z:AObj}(h:own a=Option.none):Fm own (upd own a z) l (l++[(a,z)]):=by
 refine⟨fun b o hb n=>sub.upd h b o hb,fun b hb=>?_⟩
 rw[List.map_append] at hb
 rcases List.mem_append.mp hb with hb|hb
 ·exact .inl hb
 ·rw[List.mem_singleton.mp hb];exact .inr h
theorem Fm.sub{o1 o2 o3:Own}{l1 l2:List (Addr × AObj)}(a:Fm o1 o2 l1 l2)(h:Mine.sub o2 o3):Fm o1 o3 l1 l2:=⟨fun x o e n=>h _ _ (a.keep x o e n),a.new⟩
noncomputable def aes:Nat→List Addr→List (Int × AV)
 |_,[]=>[]
 |i,a::l=>((i:Int),.ref a)::aes (i+1) l
theorem aes_1:∀(x:Nat),aes x []=[]:=by intros;rfl
theorem aes_2:∀(x:Nat)(a:Addr)(l:List Addr),aes x (a::l)=(↑x,AV.ref a)::aes (x+1) l:=by intros;rfl
noncomputable def fx(A:HA)(Nn N Nk:List Nd)(n:Nat)(lots abv:List Addr)(W D:List Int):List (Addr × AObj):=
 [(A.hp,.inst 503 A.hd),(A.hd,.ns (hm A)),(A.bk,.inst 215 A.bd),(A.bd,.ns (bm A)),(A.un,.inst 373 A.ud),(A.ud,.ns (um A)),(A.nodes,.list (Nn.map ndA)),(A.nums,.dT (esG ndA iNA 0 N)),(A.wts,.list (intL W)),(A.dps,.list (intL D)),
  (A.uab,.list (nL (List.range n))),(A.ltl,.list (lots.map AV.ref)),(A.kn,.dT (esG ndA iNA 0 Nk)),(A.ab,.dI (aes 0 abv))]
noncomputable abbrev fixL(A:HA)(N:List Nd)(lots abv:List Addr)(W D:List Int):List (Addr × AObj):=fx A N N N N.length lots abv W D
structure HSt (own:Own) (A:HA) (N:List Nd) (lots abv:List Addr) (W D:List Int) (dyn:List (Addr × AObj)):Prop where
 st:St own (fixL A N lots abv W D++dyn)
 ll:lots.length=N.length
 lot:∀(i:Nat)(a:Addr),lots[i]?=some a→(a,AObj.list [.int (i:Int)])∈dyn
 al:abv.length=N.length
 abo:∀ a∈abv,∃ L,(a,AObj.list L)∈dyn∧L.length≤100*N.length
 wl:W.length=N.length
 dl:D.length=N.length
 ops:∀ x∈N,x.1∈ops5∧x.2.length≤3
 kid:∀(i:Nat)(x:Nd),N[i]?=some x→∀ k∈x.2,k<i
 nod:N.Nodup
 dis:∀ a∈lots,a∉abv
theorem HSt.B{own:Own}{A:HA}{N:List Nd}{lots abv:List Addr}{W D:List Int}{dyn:List (Addr × AObj)}(H:HSt own A N lots abv W D dyn):BSt own A N W D:=
 ⟨H.st.get (i:=2) rfl,H.st.get (i:=3) rfl,H.st.get (i:=6) rfl,H.st.get (i:=7) rfl,H.st.get (i:=8) rfl,H.st.get (i:=9) rfl,(iAA (H.st.ne (i:=6) (j:=8) rfl rfl (by decide)) (H.st.ne (i:=6) (j:=9) rfl rfl (by decide)) (H.st.ne (i:=8) (j:=9) rfl rfl (by decide))),H.wl,H.dl⟩
theorem HSt.U{own:Own}{A:HA}{N:List Nd}{lots abv:List Addr}{W D:List Int}{dyn:List (Addr × AObj)}(H:HSt own A N lots abv W D dyn):USt own A lots N.length:=
 ⟨H.st.get (i:=4) rfl,H.st.get (i:=5) rfl,H.st.get (i:=10) rfl,H.st.get (i:=11) rfl,H.ll,fun i a h=>H.st.at_ _ (List.mem_append_right _ (H.lot i a h)),H.st.ne (i:=10) (j:=11) rfl rfl (by decide)⟩
section
variable{G:GC}{ℓ:Nat}{sc:Names}{m:MM}{own:Own}{K:AV→Own→Prop}{A:HA}{N:List Nd}{W D:List Int}{lots abv:List Addr}{dyn:List (Addr × AObj)}{n:Nat}{o:Expr}{pos:Pos}
theorem P.imeth{x d C f:Addr}{a:MM}{name:Str}{v:AV}{apos:Pos}{args:List Expr}{vs:List AV}(ho:EvP G ℓ sc m own o (.ref x))(hx:own x=some (.inst C d))(hd:own d=some (.ns a))(hC:Cls G.w.params C)
  (hm:findIn (KF G.w.params) (.ref C) name=some (some (.ref f))∧isFn (KF G.w.params) (.ref f)=true∧keepIn (KF G.w.params) (.ref f)=true) (ha:EsP G ℓ sc m own args vs) (hc:CaP G ℓ own (.ref f) (.ref x::vs) v) (hn:autoParam (a name=Option.none) sK)
  (hbase:autoParam (∀ env,attributeBase o name env (eval o env)=eval o env) sI)
  (hfew:autoParam (∀ env,((backTo pos (starEach args env)).all (fun x=>!x.1)&&(backToKw pos (keywordEach [] env)).all (fun x=>x.1.isSome)&&decide (args.length+([]:List Keyword).length+(if ([]:List Keyword).isEmpty then 0 else 1)<30))=true) sI)
  (hline:autoParam ((apos.endLine == pos.line)=true) sR) (hns:autoParam (∀ env,(starEach args env).any (·.1)=false) sI):EvP G ℓ sc m own (.Call (.Attribute o name apos) args [] pos) v:=
 Ev.imeth (ho.to (iEEEEEAAAAAAAA x C d a f rfl hx hd hn hC hm.1 hm.2.1 hm.2.2 (ha.to hc))) hbase hfew hline hns
structure H0 (own:Own) (A:HA):Prop where
 hp:own A.hp=some (.inst 503 A.hd)
 hd:own A.hd=some (.ns (hm A))
theorem HSt.h0(H:HSt own A N lots abv W D dyn):H0 own A:=⟨H.st.get (i:=0) rfl,H.st.get (i:=1) rfl⟩
theorem P.bank(H:H0 own A)(h:EvP G ℓ sc m own o (.ref A.hp))(hb:autoParam (∀ env,attributeBase o "bank" env (eval o env)=eval o env) sI):EvP G ℓ sc m own (.Attribute o "bank" pos) (.ref A.bk):=P.attr h H.hp H.hd (cls_Heap _) (no_Heap_bank _) (by kernel_rfl) rfl hb
theorem P.unions(H:H0 own A)(h:EvP G ℓ sc m own o (.ref A.hp))(hb:autoParam (∀ env,attributeBase o "unions" env (eval o env)=eval o env) sI):EvP G ℓ sc m own (.Attribute o "unions" pos) (.ref A.un):=P.attr h H.hp H.hd (cls_Heap _) (no_Heap_unions _) (by kernel_rfl) rfl hb
theorem P.known(H:H0 own A)(h:EvP G ℓ sc m own o (.ref A.hp))(hb:autoParam (∀ env,attributeBase o "known" env (eval o env)=eval o env) sI):EvP G ℓ sc m own (.Attribute o "known" pos) (.ref A.kn):=P.attr h H.hp H.hd (cls_Heap _) (no_Heap_known _) (by kernel_rfl) rfl hb
theorem P.habove(H:H0 own A)(h:EvP G ℓ sc m own o (.ref A.hp))(hb:autoParam (∀ env,attributeBase o "above" env (eval o env)=eval o env) sI):EvP G ℓ sc m own (.Attribute o "above" pos) (.ref A.ab):=P.attr h H.hp H.hd (cls_Heap _) (no_Heap_above _) (by kernel_rfl) rfl hb
theorem heap_find(H:H0 own A)(U:USt own A lots n){a:Nat}(ha:a<n)(hn:n≤1000)(hl:ℓ+1<940):CaP G ℓ own (.ref 427) [.ref A.hp,.int (a:Int)] (.int (a:Int)):=by
 refine Mine.D.fn (def_Heap_find _) (by lia) ?_
 conv in (fnBody _)=>whnf
 exact S.ret (P.imeth (P.unions H P.lo) U.un U.ud (cls_Un _) (me_Un_find _) (P.one P.lo) (un_find U ha hn (by lia))) rf
theorem heap_members(H:H0 own A)(U:USt own A lots n){a:Nat}(ha:a<n)(hn:n≤1000)(hl:ℓ+4≤900)(hK:∀ l,own l=Option.none→K (.ref l) (upd own l (.list [.int (a:Int)]))):Cal G ℓ own (.ref 476) [.ref A.hp,.int (a:Int)] K:=by
 refine Cal.fn (def_Heap_members _) rfl (by lia) ?_
 conv in (fnBody _)=>whnf
 exact Exs.cons (Ex.ret (Ev.imeth (Ev.to (P.unions H P.lo) (iEEEEEAAAAAAAA _ _ _ _ _ rfl U.un U.ud (by kernel_rfl) (cls_Un _) ((me_Un_members _).1) ((me_Un_members _).2.1) ((me_Un_members _).2.2) ((P.one P.lo).to (un_members U ha hn (by lia) hK))))))
theorem heap_node(H:H0 own A)(B:BSt own A N W D)(U:USt own A lots N.length){i:Nat}{x:Nd}(hx:N[i]?=some x)(hk:∀ k∈x.2,k<N.length)(hk3:x.2.length≤3)(hN:N.length≤1000)(hl:ℓ+3<900):CaP G ℓ own (.ref 403) [.ref A.hp,.int (i:Int)] (ndA x):=by
 refine Mine.D.fn (def_Heap_node _) (by lia) ?_
 conv in (fnBody _)=>whnf
 have hi:=(List.getElem?_eq_some_iff.mp hx).1
 have e:(nL x.2).map id=nL x.2:=List.map_id _
 have nl:(nL x.2).length≤900:=by rw[nL_len];lia
 refine S.ret (P.bin (P.tup (P.one (P.imeth (P.bank H P.ce) B.bk B.bd (cls_Bank _) (me_Bank_op _) (P.one P.lo) (bank_op B hx (by lia) (by lia))))) (P.tc (P.imeth (P.bank H P.ce) B.bk B.bd (cls_Bank _) (me_Bank_kids _) (P.one P.lo) (bank_kids B hx (by lia) (by lia) (by lia))) Wk.tup (F:=id) (fun d hd=>?_) (by lia)) (Op.addT (by simp) ?_ ⟨?_,sub.refl _⟩)) rf
 ·refine uEA (nL_mem hd) ?_;rintro k hk' rfl
  exact(iEA _ (.name rfl) (P.imeth P.fr H.hp H.hd (cls_Heap _) (me_Heap_find _) (P.one P.lo) (heap_find H U (hk k hk') hN (by lia))))
 ·rw[e];exact fitsL nl (Nat.succ_le_succ (Nat.zero_le _))
 ·rw[e];rfl
theorem look_ok{Nk:List Nd}{x:Nd}(H:H0 own A)(B:BSt own A (Nk++[x]) W D)(U:USt own A lots (Nk++[x]).length)(hkn:own A.kn=some (.dT (esG ndA iNA 0 Nk)))(hx:x∉Nk)(ho:x.1∈ops5)(hk:∀ k∈x.2,k<(Nk++[x]).length)(hk3:x.2.length≤3)(hN:(Nk++[x]).length≤1000)(hl:ℓ+5<900) :
  Cal G ℓ own (.ref 420) [.ref A.hp,.int (Nk.length:Int)] (VX .none (upd own A.kn (.dT (esG ndA iNA 0 (Nk++[x]))))):=by
 refine Cal.fn (def_Heap_look_at _) rfl (by lia) ?_
 conv in (fnBody _)=>whnf
 have hg:(Nk++[x])[Nk.length]?=some x:=by simp
 have sd:=esG_sd ndA_inj iNA x Nk
 have ge:gx Nk x=Nk.length:=((esG_at ndA_inj iNA x Nk 0).2 hx).2
 have ga:gadd Nk x=Nk++[x]:=by unfold gadd;rw[if_neg hx]
 have el:=esG_len ndA iNA Nk 0
 refine Exs.cons (Ex.assign (by kernel_rfl) (Ev.meth mf_setdefault (Ev.to (P.known H P.lo) ⟨.inr ⟨rfl,.inr (.inr ⟨_,hkn⟩)⟩,(P.two (P.imeth P.lo H.hp H.hd (cls_Heap _) (me_Heap_node _) (P.one P.lo) (heap_node H B U hg hk hk3 hN (by lia))) P.lo).to (Cal.sdT (by lia) hkn (ndA_key ho) (by rw[el,sizeLine_eq];rw[List.length_append] at hN;lia) ?_)⟩)))
 have e1:=sd.1
 have e2:=sd.2
 rw[ge] at e1
 rw[ga] at e2
 show Exs G (ℓ+1) _ (mset _ _ ((aAt (esG ndA iNA 0 Nk) (ndA x)).getD (iNA Nk.length))) (upd own A.kn (.dT (if (aAt (esG ndA iNA 0 Nk) (ndA x)).isSome=true then esG ndA iNA 0 Nk else esG ndA iNA 0 Nk++[(ndA x,iNA Nk.length)]))) _ _
 rw[e1,e2]
 have H':H0 (upd own A.kn (.dT (esG ndA iNA 0 (Nk++[x])))) A:=⟨keep H.hp hkn (by intro h;cases h),keep H.hd hkn (by intro h;cases h)⟩
 have U':USt (upd own A.kn (.dT (esG ndA iNA 0 (Nk++[x])))) A lots (Nk++[x]).length:=⟨keep U.un hkn (by intro h;cases h),keep U.ud hkn (by intro h;cases h),keep U.uab hkn (by intro h;cases h),keep U.ltl hkn (by intro h;cases h),U.len,fun i a h=>keep (U.lot i a h) hkn (by intro h;cases h),U.ne⟩
 have hlt:Nk.length<(Nk++[x]).length:=by rw[List.length_append];exact Nat.lt_succ_self _
 refine S.ifF0 (T.cmp (P.imeth P.lo H'.hp H'.hd (cls_Heap _) (me_Heap_find _) (P.one P.lo) (heap_find H' U' hlt hN (by lia))) (P.imeth P.lo H'.hp H'.hd (cls_Heap _) (me_Heap_find _) (P.one P.lo) (heap_find H' U' hlt hN (by lia))) (Op.neI (VXb (by simp)))) (Exs.nil rf)
end
section
variable{G:GC}{ℓ:Nat}{sc:Names}{m:MM}{own:Own}{K:AV→Own→Prop}{A:HA}{N:List Nd}{W D:List Int}{lots abv:List Addr}{dyn:List (Addr × AObj)}{n:Nat}{o:Expr}{pos:Pos}
theorem gx_mem{α:Type}:∀{l:List α} {r:α},r∈l→l[gx l r]?=some r
 |a::l,r,h=>by
  rw[gx_2]
  by_cases e:a=r
  ·rw[if_pos e,e];rfl
  ·rw[if_neg e,List.getElem?_cons_succ]
   exact gx_mem ((List.mem_cons.mp h).resolve_left fun q=>e q.symm)
theorem aes_at:∀(l:List Addr)(i k:Nat),aAt (aes i l) ((i+k:Nat):Int)=(l[k]?).map AV.ref
 |[],i,k=>by rw[aes_1];simp[aAt]
 |a::l,i,k=>by
  rw[aes_2,aAt_cons]
  cases k with
  |zero=>rw[if_pos (by simp)];rfl
  |succ k=>
   rw[if_neg (by simp;lia),List.getElem?_cons_succ,← aes_at l (i+1) k]
   congr 1;lia
theorem aes_app:∀(l:List Addr)(i:Nat)(a:Addr),aes i (l++[a])=aes i l++[(((i+l.length:Nat):Int),.ref a)]
 |[],i,a=>rfl
 |b::l,i,a=>by rw[List.cons_append,aes_2,aes_2,aes_app l,List.length_cons,List.cons_append];congr 3;congr 1;lia
theorem aes_put(l:List Addr)(a:Addr):aPut (aes 0 l) (l.length:Int) (.ref a)=aes 0 (l++[a]):=by
 have h:=aes_at l 0 l.length
 rw[Nat.zero_add,List.getElem?_eq_none (Nat.le_refl _)] at h
 unfold aPut
 rw[h,aes_app,Nat.zero_add];rfl
theorem aes_len:∀(l:List Addr)(i:Nat),(aes i l).length=l.length
 |[],i=>rfl
 |a::l,i=>by rw[aes_2,List.length_cons,aes_len l,List.length_cons]
structure Dk (dyn:List (Addr × AObj)) (lots abv:List Addr) (cap:Nat):Prop where
 lot:∀(i:Nat)(a:Addr),lots[i]?=some a→(a,AObj.list [.int (i:Int)])∈dyn
 abo:∀ a∈abv,∃ L,(a,AObj.list L)∈dyn∧L.length≤cap
theorem mem_set{l:List (Addr × AObj)}{j:Nat}{a b:Addr}{x y z:AObj}(h:(b,y)∈l)(hj:l[j]?=some (a,x))(e:b≠a):(b,y)∈l.set j (a,z):=by
 obtain⟨i,hi⟩:=List.getElem?_of_mem h
 have ij:j≠i:=by rintro rfl;rw[hi] at hj;injection hj with hj;injection hj with h1 _;exact e h1
 exact List.mem_of_getElem? (i:=i) (by rw[List.getElem?_set_ne ij];exact hi)
theorem Dk.set{j cap:Nat}{a:Addr}{L L':List AV}(d:Dk dyn lots abv cap)(hj:dyn[j]?=some (a,.list L))(ha:a∈abv)(dis:∀ a∈lots,a∉abv)(hL:L'.length≤cap+1):Dk (dyn.set j (a,.list L')) lots abv (cap+1):=by
 refine⟨fun i b h=>mem_set (d.lot i b h) hj fun e=>dis b (List.mem_of_getElem? h) (e▸ha),fun b hb=>?_⟩
 by_cases e:b=a
 ·rw[e]
  obtain⟨hi,_⟩:=List.getElem?_eq_some_iff.mp hj
  exact(iEA L' (List.mem_of_getElem? (i:=j) (List.getElem?_set_self hi)) hL)
 ·refine uEA (d.abo b hb) fun M h1 h2=>?_
  exact(iEA M (mem_set h1 hj e) (by lia))
theorem set_right{α:Type}:∀(a b:List α)(j:Nat)(x:α),(a++b).set (a.length+j) x=a++b.set j x
 |[],b,j,x=>by simp
 |y::a,b,j,x=>by rw[List.length_cons,List.cons_append,Nat.add_right_comm,List.set_cons_succ,set_right a b j x];rfl
theorem get_right{α:Type}(a b:List α)(j:Nat):(a++b)[a.length+j]?=b[j]?:=by rw[List.getElem?_append_right (Nat.le_add_right _ _),Nat.add_sub_cancel_left]
theorem heap_add(H:HSt own A N lots abv W D dyn){op:Str}{ks:List Nat}(ho:op∈ops5)(hk:∀ k∈ks,k<N.length)(hk3:ks.length≤3)(hN:N.length≤12)(hl:ℓ+10≤900)
  (hK:∀ own' N' lots' abv' W' D' dyn' (i:Nat),HSt own' A N' lots' abv' W' D' dyn'→(N'=N∨N'=N++[(op,ks)])→N'[i]?=some (op,ks)→Fm own own' (fixL A N lots abv W D++dyn) (fixL A N' lots' abv' W' D'++dyn')→K (.int (i:Int)) own') :
  Cal G ℓ own (.ref 408) [.ref A.hp,.str op,.tup (nL ks)] K:=by
 refine Cal.conseq (K:=fun v q=>∃ own' N' lots' abv' W' D' dyn',∃ i:Nat,v=.int (i:Int)∧HSt own' A N' lots' abv' W' D' dyn'∧(N'=N∨N'=N++[(op,ks)])∧N'[i]?=some (op,ks)∧Fm own own' (fixL A N lots abv W D++dyn) (fixL A N' lots' abv' W' D'++dyn')∧sub own' q) ?_
  (fun v q q4580=>uEEEEEEEEAAAAA q4580 fun own' N' lots' abv' W' D' dyn' i e h1 h2 h3 h4 h5=>(iEA own' h5 (e▸hK own' N' lots' abv' W' D' dyn' i h1 h2 h3 h4)))
 refine Cal.hid fun KK hKK=>?_
 refine Cal.fn (def_Heap_add _) rfl (by lia) ?_
 conv in (fnBody _)=>whnf
 refine Exs.cons (Ex.assign (by kernel_rfl) (Ev.imeth (Ev.to (P.bank H.h0 P.ce) (iEEEEEAAAAAAAA _ _ _ _ _ rfl H.B.bk H.B.bd (by kernel_rfl) (cls_Bank _) ((me_Bank_take _).1) ((me_Bank_take _).2.1) ((me_Bank_take _).2.2) ((P.two P.lo P.lo).to (take_ok H.B ho hk hk3 (by lia) (by lia) (fun hm=>?_) fun hm w d=>?_))))))
 ·have hg:=gx_mem hm
  have hlt:=(List.getElem?_eq_some_iff.mp hg).1
  exact S.ifT (T.cmp P.lo (P.imeth (P.unions H.h0 P.ce) H.U.un H.U.ud (cls_Un _) (me_Un_size _) P.nil (un_size H.U (by lia) (by lia))) (Op.lt (VXb (by simp;lia)))) (S.ret P.lo (hKK _ _ (iEEEEEEEEAAAAA own N lots abv W D dyn _ rfl H (.inl rfl) hg (Fm.refl _ _) (sub.refl _))))
 ·have S1:St _ (fx A (N++[(op,ks)]) (N++[(op,ks)]) N N.length lots abv (W++[w]) (D++[d])++dyn):=(((H.st.set (i:=7) (z:=.dT (esG ndA iNA 0 (N++[(op,ks)]))) rfl).set (i:=6) (z:=.list ((N++[(op,ks)]).map ndA)) rfl).set (i:=8) (z:=.list (intL (W++[w]))) rfl).set (i:=9) (z:=.list (intL (D++[d]))) rfl
  have F1:Fm own _ _ (fx A (N++[(op,ks)]) (N++[(op,ks)]) N N.length lots abv (W++[w]) (D++[d])++dyn):=(((Fm.set (own:=own) (l:=fixL A N lots abv W D++dyn) (i:=7) (z:=.dT (esG ndA iNA 0 (N++[(op,ks)]))) rfl).trans (Fm.set (i:=6) (z:=.list ((N++[(op,ks)]).map ndA)) rfl)).trans (Fm.set (i:=8) (z:=.list (intL (W++[w]))) rfl)).trans (Fm.set (i:=9) (z:=.list (intL (D++[d]))) rfl)
  generalize upd (upd (upd (upd own A.nums (.dT (esG ndA iNA 0 (N++[(op,ks)])))) A.nodes (.list ((N++[(op,ks)]).map ndA))) A.wts (.list (intL (W++[w])))) A.dps (.list (intL (D++[d])))=o1 at S1 F1 ⊢
  have H1:H0 o1 A:=⟨S1.get (i:=0) rfl,S1.get (i:=1) rfl⟩
  have U1:USt o1 A lots N.length:=⟨S1.get (i:=4) rfl,S1.get (i:=5) rfl,S1.get (i:=10) rfl,S1.get (i:=11) rfl,H.ll,fun i a h=>S1.at_ _ (List.mem_append_right _ (H.lot i a h)),S1.ne (i:=10) (j:=11) rfl rfl (by decide)⟩
  refine S.ifF0 (T.cmp P.lo (P.imeth (P.unions H1 P.ce) U1.un U1.ud (cls_Un _) (me_Un_size _) P.nil (un_size U1 (by lia) (by lia))) (Op.lt (VXb (by simp)))) ?_
  refine Exs.cons (Ex.expr (Ev.imeth (Ev.to (P.unions H1 P.ce) (iEEEEEAAAAAAAA _ _ _ _ _ rfl U1.un U1.ud (by kernel_rfl) (cls_Un _) ((me_Un_make _).1) ((me_Un_make _).2.1) ((me_Un_make _).2.2) (Evs.nil (un_make U1 (by lia) (by lia) fun l hl0=>⟨rfl,?_⟩))))))
  have hl1:upd o1 A.uab (.list (nL (List.range (N.length+1)))) l=Option.none:=by rw[upd_ne];exact hl0;rintro rfl;rw[U1.uab] at hl0;cases hl0
  have S2:St _ (fx A (N++[(op,ks)]) (N++[(op,ks)]) N (N.length+1) (lots++[l]) abv (W++[w]) (D++[d])++(dyn++[(l,.list [.int (N.length:Int)])])):=((S1.set (i:=10) (z:=.list (nL (List.range (N.length+1)))) rfl).new (z:=.list [.int (N.length:Int)]) hl1).set (i:=11) (z:=.list ((lots++[l]).map AV.ref)) rfl
  have F2:Fm own _ _ (fx A (N++[(op,ks)]) (N++[(op,ks)]) N (N.length+1) (lots++[l]) abv (W++[w]) (D++[d])++(dyn++[(l,.list [.int (N.length:Int)])])):=((F1.trans (Fm.set (i:=10) (z:=.list (nL (List.range (N.length+1)))) rfl)).trans (Fm.newc (z:=.list [.int (N.length:Int)]) hl1)).trans (Fm.set (i:=11) (z:=.list ((lots++[l]).map AV.ref)) rfl)
  generalize upd (upd (upd o1 A.uab (.list (nL (List.range (N.length+1))))) l (.list [.int (N.length:Int)])) A.ltl (.list ((lots++[l]).map AV.ref))=o2 at S2 F2 ⊢
  have nlen:(N++[(op,ks)]).length=N.length+1:=by rw[List.length_append];rfl
  refine Exs.cons (Ex.setitem (Ev.list (Evs.nil ⟨by rw[sizeLine_eq];exact Nat.zero_le _,fun l2 hl2=>?_⟩)))
  have S2':=S2.new (z:=.list []) hl2
  have ap:=aes_put abv l2
  rw[H.al] at ap
  refine Ev.to (P.habove ⟨S2'.get (i:=0) rfl,S2'.get (i:=1) rfl⟩ P.ce) (Ev.to P.lo (St3.dI (es:=aes 0 abv) (S2'.get (i:=13) rfl) (by rw[aes_len,H.al,sizeLine_eq];lia) ?_))
  rw[ap]
  have S3:St _ (fx A (N++[(op,ks)]) (N++[(op,ks)]) N (N.length+1) (lots++[l]) (abv++[l2]) (W++[w]) (D++[d])++((dyn++[(l,.list [.int (N.length:Int)])])++[(l2,.list [])])):=S2'.set (i:=13) (z:=.dI (aes 0 (abv++[l2]))) rfl
  have F3:Fm own _ _ (fx A (N++[(op,ks)]) (N++[(op,ks)]) N (N.length+1) (lots++[l]) (abv++[l2]) (W++[w]) (D++[d])++((dyn++[(l,.list [.int (N.length:Int)])])++[(l2,.list [])])):=(F2.trans (Fm.newc (z:=.list []) hl2)).trans (Fm.set (i:=13) (z:=.dI (aes 0 (abv++[l2]))) rfl)
  generalize upd (upd o2 l2 (.list [])) A.ab (.dI (aes 0 (abv++[l2])))=o3 at S3 F3 ⊢
  have D3:Dk ((dyn++[(l,AObj.list [.int (N.length:Int)])])++[(l2,.list [])]) (lots++[l]) (abv++[l2]) (100*N.length):=by
   refine⟨fun i a h=>?_,fun a ha=>?_⟩
   ·by_cases hi:i<lots.length
    ·rw[List.getElem?_append_left hi] at h
     exact List.mem_append_left _ (List.mem_append_left _ (H.lot i a h))
    ·rw[List.getElem?_append_right (by lia)] at h
     have:i=N.length∧a=l:=by
      obtain⟨h1,h2⟩:=List.getElem?_eq_some_iff.mp h
      have hl:=H.ll
      simp at h1
      exact⟨by lia,by simp at h2;exact h2.symm⟩
     rw[this.1,this.2]
     exact List.mem_append_left _ (List.mem_append_right _ (by simp))
   ·rcases List.mem_append.mp ha with ha|ha
    ·refine uEA (H.abo a ha) fun L h1 h2=>?_
     exact(iEA L (List.mem_append_left _ (List.mem_append_left _ h1)) h2)
    ·rw[List.mem_singleton.mp ha]
     exact(iEA [] (List.mem_append_right _ (by simp)) (Nat.zero_le _))
  have dis3:∀ a∈lots++[l],a∉abv++[l2]:=by
   have key:∀ a∈abv,own a≠Option.none:=fun a ha=>by
    refine uEA (H.abo a ha) fun L h1 V=>?_
    rw[H.st.at_ _ (List.mem_append_right _ h1)];simp
   have k1:o1 l=Option.none:=hl0
   have k2:o2 l2=Option.none:=hl2
   have m2:∀ a∈lots++[l],o2 a≠Option.none:=fun a ha=>by
    obtain⟨i,hi⟩:=List.getElem?_of_mem ha
    by_cases h:i<lots.length
    ·rw[List.getElem?_append_left h] at hi
     rw[S2.at_ _ (List.mem_append_right _ (List.mem_append_left _ (H.lot i a hi)))];simp
    ·have:a=l:=by
      rw[List.getElem?_append_right (by lia)] at hi
      obtain⟨h1,h2⟩:=List.getElem?_eq_some_iff.mp hi
      simp at h2;exact h2.symm
     rw[this,S2.at_ (l,AObj.list [.int (N.length:Int)]) (List.mem_append_right _ (List.mem_append_right _ (by simp)))];simp
   intro a ha hb
   rcases List.mem_append.mp hb with hb|hb
   ·rcases List.mem_append.mp ha with ha|ha
    ·exact H.dis a ha hb
    ·rw[List.mem_singleton.mp ha] at hb
     refine uEA (H.abo l hb) fun L h1 V=>?_
     rw[S1.at_ _ (List.mem_append_right _ h1)] at k1;cases k1
   ·rw[List.mem_singleton.mp hb] at ha
    exact m2 _ ha k2
  have al3:(abv++[l2]).length=N.length+1:=by rw[List.length_append,H.al];rfl
  have F30:(fx A (N++[(op,ks)]) (N++[(op,ks)]) N (N.length+1) (lots++[l]) (abv++[l2]) (W++[w]) (D++[d])).length=14:=rfl
  have nl3:(nL ks).length≤3:=by rw[nL_len];exact hk3
  have U3:USt o3 A (lots++[l]) (N.length+1):=⟨S3.get (i:=4) rfl,S3.get (i:=5) rfl,S3.get (i:=10) rfl,S3.get (i:=11) rfl,by rw[List.length_append,H.ll];rfl,fun i a h=>S3.at_ _ (List.mem_append_right _ (D3.lot i a h)),S3.ne (i:=10) (j:=11) rfl rfl (by decide)⟩
  refine Exs.cons (Ex.for_ (Ev.k k_sorted (Evs.cons (Ev.k k_set (Evs.cons (P.comp P.lo Wk.tup (F:=id) (fun e he=>?_) (fun r1 hr1=>Evs.nil (Cal.setI (L:=ks.map fun(i:Nat)=>(i:Int)) ?_ (by rw[List.length_map];exact hk3) (fun i hi=>?_) fun c1 Ls hc1 hLs hin=>Evs.nil (Cal.sorted (by lia) (ColT.sset (upd_self _ _ _) fun L1 hp1=>(iAA ?_ ⟨fun k hk=>?_,fun x hx y hy=>?_,.inl fun k hk=>?_⟩ (fun D1 L' hD1 hp=>ItT.list (upd_self _ _ _) ⟨fun i m' o'=>m'=mset (argM ["self","op","numbers"] [.ref A.hp,.str op,.tup (nL ks)] m0) "n" (.int (N.length:Int))∧∃ dj,St o' (fx A (N++[(op,ks)]) (N++[(op,ks)]) N (N.length+1) (lots++[l]) (abv++[l2]) (W++[w]) (D++[d])++dj)∧Dk dj (lots++[l]) (abv++[l2]) (100*N.length+i)∧o' D1=some (.list L')∧D1∉(fx A (N++[(op,ks)]) (N++[(op,ks)]) N (N.length+1) (lots++[l]) (abv++[l2]) (W++[w]) (D++[d])++dj).map (·.1)∧Fm own o' (fixL A N lots abv W D++dyn) (fx A (N++[(op,ks)]) (N++[(op,ks)]) N (N.length+1) (lots++[l]) (abv++[l2]) (W++[w]) (D++[d])++dj),(iAEAAAA rfl _ ?_ D3 (upd_self _ _ _) ?_ ?_),fun V V V h=>h.2.choose_spec.2.2.1,?_,?_⟩)))))) (by lia)))))))
  ·refine uEA (nL_mem he) ?_;rintro k hk' rfl
   exact(iEA _ (.name rfl) (P.imeth P.fr (S3.get (i:=0) rfl) (S3.get (i:=1) rfl) (cls_Heap _) (me_Heap_find _) (P.one P.lo) (heap_find ⟨S3.get (i:=0) rfl,S3.get (i:=1) rfl⟩ U3 (Nat.lt_succ_of_lt (hk k hk')) (by lia) (by lia))))
  ·rw[upd_self,List.map_id,nL_intL]
  ·refine uEA (List.mem_map.mp hi) ?_;rintro k hk' rfl
   have:=hk k hk'
   lia
  ·rw[hp1.length_eq];lia
  ·refine uEA (hin k (hp1.mem_iff.mp hk)) ?_;rintro i _ rfl
   exact⟨rfl,by simp[AV.dep_1,AV.dep_2,AV.dep_3]⟩
  ·refine uEA (hin x (hp1.mem_iff.mp hx)) ?_;rintro i _ rfl
   refine uEA (hin y (hp1.mem_iff.mp hy)) ?_;rintro j _ rfl
   rfl
  ·refine uEA (hin k (hp1.mem_iff.mp hk)) ?_;rintro i _ rfl
   exact⟨i,rfl⟩
  ·exact S3.less (((sub.upd hr1).trans (sub.upd hc1)).trans (sub.upd hD1))
  ·intro hm
   refine uEA (List.mem_map.mp hm) fun p hp' e=>?_
   have:=(sub.upd hr1).trans (sub.upd (o:=.sset true Ls) hc1) _ _ (S3.at_ p hp')
   rw[e,hD1] at this;cases this
  ·exact F3.sub (((sub.upd hr1).trans (sub.upd hc1)).trans (sub.upd hD1))
  ·intro J' K' hJ hK;rintro i e m' o' he hh;refine uAEAAAA hh ?_;clear hh;rintro rfl dj Sj Dj hD hDn Fj
   refine uEA (hin e (hp1.mem_iff.mp (hp.mem_iff.mp (List.mem_of_getElem? he)))) ?_;rintro c hc rfl
   refine uEA (List.mem_map.mp hc) ?_;rintro k hk' rfl
   have hkN:=hk k hk'
   have hka:k<(abv++[l2]).length:=by rw[al3];lia
   have ha:(abv++[l2])[k]∈abv++[l2]:=List.getElem_mem hka
   have at_:=aes_at (abv++[l2]) 0 k
   rw[Nat.zero_add,List.getElem?_eq_getElem hka] at at_
   generalize (abv++[l2])[k]=a at ha at_
   refine uEA (Dj.abo a ha) fun M hM hML=>?_
   obtain⟨j,hj⟩:=List.getElem?_of_mem hM
   have hi3:i<3:=by have:=(List.getElem?_eq_some_iff.mp he).1;have:=hp.length_eq;have:=hp1.length_eq;lia
   have hjr:=(get_right (fx A (N++[(op,ks)]) (N++[(op,ks)]) N (N.length+1) (lots++[l]) (abv++[l2]) (W++[w]) (D++[d])) dj j).trans hj
   have hoa:=Sj.at_ _ (List.mem_append_right _ hM)
   refine⟨_,.name (by kernel_rfl),Exs.cons (Ex.expr (Ev.meth mf_append (Ev.item (Ev.to (P.habove ⟨Sj.get (i:=0) rfl,Sj.get (i:=1) rfl⟩ P.ce) (Ev.to P.lo (Sb.dI (Sj.get (i:=13) rfl) at_ ⟨.inl (iAE rfl _ hoa),(P.one P.lo).to (Cal.append hoa (by rw[sizeLine_eq];lia) ⟨rfl,Exs.nil ⟨_,_,fun x v hx=>mset_mono rfl x v hx,sub.refl _,hJ _ _ _ (iAEAAAA rfl (dj.set j (a,.list (M++[.int (N.length:Int)]))) ?_ ?_ ?_ ?_ ?_)⟩⟩)⟩))))))⟩
   ·rw[← set_right];exact Sj.set hjr
   ·have:=Dj.set (L':=M++[.int (N.length:Int)]) hj ha dis3 (by rw[List.length_append];simp;lia)
    exact this
   ·rw[upd_ne];exact hD
    rintro rfl
    exact hDn (List.mem_map.mpr (iEA _ (List.mem_append_right _ hM) rfl))
   ·intro hm
    rw[← set_right] at hm
    rcases(Fm.set (own:=o') (z:=.list (M++[.int (N.length:Int)])) hjr).new D1 hm with q|q
    ·exact hDn q
    ·rw[hD] at q;cases q
   ·rw[← set_right];exact Fj.trans (Fm.set hjr)
  ·rintro m' o' hh;refine uAEAAAA hh ?_;clear hh;rintro rfl dj Sj Dj hD hDn Fj
   have hx:(op,ks)∉N:=hm
   have hkk:∀ k∈ks,k<(N++[(op,ks)]).length:=fun k hk'=>by have:=hk k hk';lia
   have ul:(lots++[l]).length=N.length+1:=by rw[List.length_append,H.ll];rfl
   have Bj:BSt o' A (N++[(op,ks)]) (W++[w]) (D++[d]):=⟨Sj.get (i:=2) rfl,Sj.get (i:=3) rfl,Sj.get (i:=6) rfl,Sj.get (i:=7) rfl,Sj.get (i:=8) rfl,Sj.get (i:=9) rfl,(iAA (Sj.ne (i:=6) (j:=8) rfl rfl (by decide)) (Sj.ne (i:=6) (j:=9) rfl rfl (by decide)) (Sj.ne (i:=8) (j:=9) rfl rfl (by decide))),by rw[List.length_append,H.wl,nlen];rfl,by rw[List.length_append,H.dl,nlen];rfl⟩
   have Uj:USt o' A (lots++[l]) (N++[(op,ks)]).length:=by
    rw[nlen]
    exact⟨Sj.get (i:=4) rfl,Sj.get (i:=5) rfl,Sj.get (i:=10) rfl,Sj.get (i:=11) rfl,ul,fun i a h=>Sj.at_ _ (List.mem_append_right _ (Dj.lot i a h)),Sj.ne (i:=10) (j:=11) rfl rfl (by decide)⟩
   refine Exs.cons (Ex.expr (Ev.imeth (Ev.to P.ce (iEEEEEAAAAAAAA _ _ _ _ _ rfl (Sj.get (i:=0) rfl) (Sj.get (i:=1) rfl) (by kernel_rfl) (cls_Heap _) ((me_Heap_look_at _).1) ((me_Heap_look_at _).2.1) ((me_Heap_look_at _).2.2) ((P.one P.lo).to ((look_ok ⟨Sj.get (i:=0) rfl,Sj.get (i:=1) rfl⟩ Bj Uj (Sj.get (i:=12) rfl) hx ho hkk hk3 (by lia) (by lia)).tx ⟨rfl,?_⟩))))))
   have S5:=Sj.set (i:=12) (z:=.dT (esG ndA iNA 0 (N++[(op,ks)]))) rfl
   have F5:=Fj.trans (Fm.set (i:=12) (z:=.dT (esG ndA iNA 0 (N++[(op,ks)]))) rfl)
   have hL':L'.length≤3:=by rw[hp.length_eq,hp1.length_eq];exact hLs
   refine S.ret P.lo (hKK _ _ (iEEEEEEEEAAAAA _ (N++[(op,ks)]) (lots++[l]) (abv++[l2]) (W++[w]) (D++[d]) dj N.length rfl ⟨?_,?_,Dj.lot,?_,?_,Bj.wl,Bj.dl,?_,?_,?_,dis3⟩ (.inr rfl) (by simp) ?_ (sub.refl _)))
   ·unfold fixL;rw[nlen];exact S5
   ·rw[nlen];exact ul
   ·rw[nlen];exact al3
   ·intro a ha
    refine uEA (Dj.abo a ha) fun M h1 h2=>?_
    exact(iEA M h1 (by rw[nlen];lia))
   ·intro x hx'
    rcases List.mem_append.mp hx' with hx'|hx'
    ·exact H.ops x hx'
    ·rw[List.mem_singleton.mp hx'];exact⟨ho,hk3⟩
   ·intro i x hx' k hk'
    by_cases hi:i<N.length
    ·rw[List.getElem?_append_left hi] at hx'
     exact H.kid i x hx' k hk'
    ·rw[List.getElem?_append_right (by lia)] at hx'
     obtain⟨h1,h2⟩:=List.getElem?_eq_some_iff.mp hx'
     simp at h2
     rw[← h2] at hk'
     have:=hk k hk'
     lia
   ·exact List.nodup_append.mpr (iAA H.nod (by simp) (fun a ha b hb e=>hx (by rw[List.mem_singleton.mp hb] at e;rw[← e];exact ha)))
   ·unfold fixL;rw[nlen];exact F5
end
structure HD where
 (N:List Nd) (lots abv:List Addr) (W D:List Int) (dyn:List (Addr × AObj))
noncomputable abbrev HD.cells(A:HA)(d:HD):List (Addr × AObj):=fixL A d.N d.lots d.abv d.W d.D++d.dyn
abbrev HOk(own:Own)(A:HA)(d:HD):Prop:=HSt own A d.N d.lots d.abv d.W d.D d.dyn
structure Go (A:HA) (own own':Own) (d d':HD) (z:Nat):Prop where
 ok:HOk own' A d'
 pre:∃ l,d'.N=d.N++l
 len:d'.N.length≤d.N.length+z
 fm:Fm own own' (d.cells A) (d'.cells A)
theorem Go.refl{A:HA}{own:Own}{d:HD}(h:HOk own A d):Go A own own d d 0:=⟨h,⟨[],(List.append_nil _).symm⟩,Nat.le_refl _,Fm.refl _ _⟩
theorem Go.trans{A:HA}{o1 o2 o3:Own}{d1 d2 d3:HD}{z y:Nat}(a:Go A o1 o2 d1 d2 z)(b:Go A o2 o3 d2 d3 y):Go A o1 o3 d1 d3 (z+y):=by
 obtain⟨l,e⟩:=a.pre
 obtain⟨k,e2⟩:=b.pre
 exact⟨b.ok,⟨l++k,by rw[e2,e,List.append_assoc]⟩,by have:=a.len;have:=b.len;lia,a.fm.trans b.fm⟩
theorem HSt.up{own own':Own}{A:HA}{N:List Nd}{lots abv:List Addr}{W D:List Int}{dyn:List (Addr × AObj)}(H:HSt own A N lots abv W D dyn)(h:sub own own'):HSt own' A N lots abv W D dyn:={H with st:=H.st.less h}
inductive Nt (N:List Nd):T→Nat→Prop
 |mk {o:Str} {ks:List T} {is:List Nat} {n:Nat} (h:N[n]?=some (o,is)) (hl:is.length=ks.length) (hk:∀(j:Nat)(k:T)(i:Nat),ks[j]?=some k→is[j]?=some i→Nt N k i):Nt N (.mk o ks) n
theorem Nt.lt{N:List Nd}{t:T}{n:Nat}(h:Nt N t n):n<N.length:=by
 cases h with
 |mk h _ _=>exact(List.getElem?_eq_some_iff.mp h).1
theorem Nt.up{N:List Nd}{t:T}{n:Nat}(h:Nt N t n)(l:List Nd):Nt (N++l) t n:=by
 induction h with
 |mk h hl _ ih=>exact .mk (by rw[List.getElem?_append_left (List.getElem?_eq_some_iff.mp h).1];exact h) hl ih
theorem T.sizes_add{ks:List T}{i:Nat}{k:T}(hk:ks[i]?=some k):T.sizes (ks.take (i+1))=T.sizes (ks.take i)+k.size:=by
 rw[List.take_add_one,hk,Option.toList_some,T.sizes_app,T.sizes_2,T.sizes_1];rfl
section
variable{G:GC}{ℓ:Nat}{sc:Names}{m:MM}{own:Own}{K:AV→Own→Prop}{A:HA}{pos:Pos}
theorem put_ok:∀(f:Nat)(t:T)(ℓ:Nat)(own:Own)(d:HD)(K:AV→Own→Prop),HOk own A d→t.std=true→t.dep≤f→d.N.length+t.size≤12→ℓ+(f+12)≤900→
  (∀ own' d' n,Go A own own' d d' t.size→Nt d'.N t n→K (.int (n:Int)) own')→Cal G ℓ own (.ref 413) [.ref A.hp,t.av] K
 |0,_,_,_,_,_,_,_,hd,_,_,_=>no0 hd
 |f+1,.mk o ks,ℓ,own,d,K,H,hst,hd,hz,hl,hK=>by
  refine uAA (T.std_iff.mp hst) fun ho h3 hks=>?_
  have I:=Tm.of (T.std_ok _ hst).1 hd
  rw[T.size_1] at hz hK
  rw[T.av_1]
  refine Cal.conseq (K:=fun v q=>∃ own' d',∃ n:Nat,v=.int (n:Int)∧Go A own own' d d' (T.sizes ks+1)∧Nt d'.N (.mk o ks) n∧sub own' q) ?_ (fun v q q3588=>uEEEAAA q3588 fun own' d' n e h1 h2 h3=>(iEA own' h3 (e▸hK own' d' n h1 h2)))
  refine Cal.hid fun KK hKK=>?_
  refine Cal.fn (def_Heap_put _) rfl (by lia) ?_
  conv in (fnBody _)=>whnf
  refine Exs.cons (Ex.ret (Ev.imeth (Ev.to P.ce (iEEEEEAAAAAAAA _ _ _ _ _ rfl H.h0.hp H.h0.hd (by kernel_rfl) (cls_Heap _) ((me_Heap_add _).1) ((me_Heap_add _).2.1) ((me_Heap_add _).2.2) (Evs.cons (Ev.to (P.i0 P.lo) (Evs.cons (Ev.k k_tuple (Evs.cons (Ev.comp (by kernel_rfl) rfl (Ev.to (P.t1 P.lo I.few) (ItT.tup ⟨by rw[sizeLine_eq];exact Nat.le_trans I.fewM (by decide),fun i ys o'=>∃ d',∃ is:List Nat,ys=nL is∧is.length=i∧Go A own o' d d' (T.sizes (ks.take i))∧∀(j:Nat)(k:T)(n:Nat),ks[j]?=some k→is[j]?=some n→Nt d'.N k n,?_,fun V V V V=>trivial,?_,?_⟩))))))))))))
  ·exact(iEEAAA d [] rfl rfl (Go.refl H) (fun j k n V h=>by simp at h))
  ·intro J' hJ;rintro i a ys o' ha hh;refine uEEAAA hh ?_;clear hh;rintro d' is rfl hi g hn
   rw[T.avs_eq,List.getElem?_map] at ha
   refine uEA (Option.map_eq_some_iff.mp ha) ?_;rintro t ht rfl
   have mt:=List.mem_of_getElem? ht
   refine uEAAA (I.kid t.av (by rw[T.avs_eq];exact List.mem_map_of_mem mt)) fun t' V e V h4=>?_
   rw[← T.av_inj e] at h4
   have sz:=T.sizes_take ht
   have gl:=g.len
   refine⟨_,.name rfl,?_⟩
   unfold IfsT
   dsimp only
   rw[if_pos rfl]
   have h0:=g.ok.h0
   refine Ev.imeth (Ev.to P.fr (iEEEEEAAAAAAAA _ _ _ _ _ rfl h0.hp h0.hd (by kernel_rfl) (cls_Heap _) ((me_Heap_put _).1) ((me_Heap_put _).2.1) ((me_Heap_put _).2.2) ((P.one P.lo).to (put_ok f t _ _ d' _ g.ok (hks t mt) h4 (by lia) (by lia) fun o2 d2 n g2 h2=>⟨o2,sub.refl _,hJ _ _ _ (iEEAAA d2 (is++[n]) ?_ ?_ ?_ ?_)⟩))))
   ·unfold nL;rw[List.map_append];rfl
   ·rw[List.length_append,hi];rfl
   ·rw[T.sizes_add ht];exact g.trans g2
   ·intro j k m hj hm
    obtain⟨l,e⟩:=g2.pre
    by_cases hji:j<i
    ·rw[List.getElem?_append_left (by lia)] at hm
     rw[e];exact(hn j k m hj hm).up l
    ·rw[List.getElem?_append_right (by lia)] at hm
     obtain⟨h5,h6⟩:=List.getElem?_eq_some_iff.mp hm
     simp at h5 h6
     have:j=i:=by lia
     rw[this,ht] at hj
     cases hj;subst h6;exact h2
  ·rintro ys o' hh;refine uEEAAA hh ?_;clear hh;rintro d' is rfl hi g hn a ha
   have kl:ks.length=is.length:=by rw[hi,T.avs_len]
   refine Evs.nil (Cal.tupL (upd_self _ _ _) (by rw[nL_len,sizeLine_eq];lia) (Evs.nil ?_))
   have H':=g.ok.up (sub.upd (o:=.list (nL is)) ha)
   rw[T.avs_len,List.take_length] at g
   have gl:=g.len
   refine heap_add H' ho (fun k hk=>?_) (by lia) (by lia) (by lia) fun o2 N' l' a' W' D' y' i H2 hN hi' F2=>hKK _ _ (iEEEAAA o2 ⟨N',l',a',W',D',y'⟩ i rfl ?_ ?_ (sub.refl _))
   ·obtain⟨j,hj⟩:=List.getElem?_of_mem hk
    have jl:=(List.getElem?_eq_some_iff.mp hj).1
    exact(hn j _ k (List.getElem?_eq_getElem (by lia)) hj).lt
   ·refine⟨H2,?_,?_,(g.fm.sub (sub.upd ha)).trans F2⟩
    ·obtain⟨l,e⟩:=g.pre
     rcases hN with rfl|rfl
     ·exact⟨l,e⟩
     ·exact⟨l++[(o,is)],by rw[e,List.append_assoc]⟩
    ·rcases hN with rfl|rfl
     ·exact Nat.le_succ_of_le gl
     ·rw[List.length_append];exact Nat.succ_le_succ gl
   ·refine .mk hi' kl.symm fun j k m h4 h5=>?_
    have:=hn j k m h4 h5
    rcases hN with rfl|rfl
    ·exact this
    ·exact this.up _
end
section
variable{G:GC}{ℓ:Nat}{sc:Names}{m:MM}{own:Own}{K:AV→Own→Prop}{A:HA}{pos:Pos}{d:HD}
theorem HSt.kids{own:Own}{A:HA}{N:List Nd}{lots abv:List Addr}{W D:List Int}{dyn:List (Addr × AObj)}(H:HSt own A N lots abv W D dyn){i:Nat}{x:Nd}(hx:N[i]?=some x):x.1∈ops5∧x.2.length≤3∧∀ k∈x.2,k<N.length:=
 (iAA ((H.ops x (List.mem_of_getElem? hx)).1) ((H.ops x (List.mem_of_getElem? hx)).2) (fun k hk=>Nat.lt_trans (H.kid i x hx k hk) (List.getElem?_eq_some_iff.mp hx).1))
theorem cmpOks_self:∀ l:List AV,cmpOks l l=true
 |[]=>rfl
 |x::l=>by rw[cmpOks_c,if_pos rfl];exact cmpOks_self l
theorem nodes_of_ok(H:HOk own A d){i:Nat}{x:Nd}(hx:d.N[i]?=some x)(hN:d.N.length≤1000)(hl:ℓ+8≤900)(hK:∀ l,own l=Option.none→K (.ref l) (upd own l (.list [ndA x]))):Cal G ℓ own (.ref 481) [.ref A.hp,.int (i:Int)] K:=by
 refine Cal.conseq (K:=fun v q=>∃ l,v=.ref l∧own l=Option.none∧sub (upd own l (.list [ndA x])) q) ?_ (fun v q q1433=>uEAA q1433 fun l e h1 h2=>(iEA _ h2 (e▸hK l h1)))
 refine Cal.hid fun KK hKK=>?_
 refine Cal.fn (def_Heap_nodes_of _) rfl (by lia) ?_
 conv in (fnBody _)=>whnf
 refine uAA (H.kids hx) fun ho h3 hk=>?_
 have tk:=ndA_key (x:=x) ho
 refine Exs.cons (Ex.ret (Ev.k k_sorted (Evs.cons (Ev.k k_set (Evs.cons (Ev.comp (by kernel_rfl) rfl (Ev.imeth (Ev.to P.ce (iEEEEEAAAAAAAA _ _ _ _ _ rfl H.h0.hp H.h0.hd (by kernel_rfl) (cls_Heap _) ((me_Heap_members _).1) ((me_Heap_members _).2.1) ((me_Heap_members _).2.2) ((P.one P.lo).to (heap_members H.h0 H.U (List.getElem?_eq_some_iff.mp hx).1 hN (by lia) fun l hl0=>?_)))))))))))
 have H':=H.up (sub.upd (o:=.list [.int (i:Int)]) hl0)
 refine ItT.list (upd_self _ _ _) (CompBody.map (fun V=>ndA x) (by simp) (upd_self _ _ _) (fun e he=>?_) fun r hr=>?_)
 ·rw[List.mem_singleton.mp he]
  exact(iEA _ (.name rfl) (P.imeth P.fr H'.h0.hp H'.h0.hd (cls_Heap _) (me_Heap_node _) (P.one P.lo) (heap_node H'.h0 H'.B H'.U hx hk h3 hN (by lia))))
 ·refine Evs.nil (Cal.setT (by lia) (upd_self _ _ _) tk fun c hc=>Evs.nil (Cal.sorted (by lia) (ColT.sset (upd_self _ _ _) fun L1 hp1=>?_)))
  rw[List.perm_singleton.mp hp1]
  refine(iAA (by simp) ⟨fun k hk=>?_,fun x hx y hy=>?_,.inr (.inl fun k hk=>(iEE _ _ (List.mem_singleton.mp hk)))⟩ (fun D L' hD hp=>?_))
  ·rw[List.mem_singleton.mp hk];exact tk
  ·rw[List.mem_singleton.mp hx,List.mem_singleton.mp hy];exact cmpOks_self _
  ·rw[List.perm_singleton.mp hp]
   have s1:=(sub.upd (o:=.list [.int (i:Int)]) hl0).trans ((sub.upd hr).trans (sub.upd (o:=.sset false [ndA x]) hc))
   exact hKK _ _ (iEAA D rfl (s1.none hD) s1.upd2)
end
section
variable{G:GC}{ℓ:Nat}{sc:Names}{m:MM}{own own0:Own}{K:AV→Own→Prop}{A:HA}{pos:Pos}{d:HD}
structure Nw (own0 own:Own) (l:List (Addr × AObj)):Prop where
 st:St own l
 fm:Fm own0 own [] l
theorem Nw.old{l:List (Addr × AObj)}(n:Nw own0 own l):Mine.sub own0 own:=fun a o h=>n.fm.keep a o h (by simp)
theorem Nw.start{x d C:Addr}(hx:own x=Option.none)(hd:own d=Option.none)(ne:x≠d):Nw own (upd (upd own d (.ns m0)) x (.inst C d)) [(d,.ns m0),(x,.inst C d)]:=by
 have hx':upd own d (.ns m0) x=Option.none:=by rw[upd_ne _ _ ne];exact hx
 have S:St own []:=⟨List.nodup_nil,fun p hp=>by simp at hp⟩
 exact⟨(S.new hd).new hx',((Fm.newc (l:=[]) hd).trans (Fm.newc hx'))⟩
theorem Nw.join{own1 own2:Own}{l k:List (Addr × AObj)}(a:Nw own0 own1 l)(b:Nw own1 own2 k):Nw own0 own2 (l++k):=by
 refine⟨⟨?_,fun p hp=>?_⟩,⟨fun x o h V=>b.old _ _ (a.old _ _ h),fun x hx=>?_⟩⟩
 ·rw[List.map_append]
  refine List.nodup_append.mpr (iAA a.st.nd b.st.nd (fun x hx y hy e=>?_))
  subst e
  refine uEA (List.mem_map.mp hx) ?_;rintro p hp rfl
  rcases b.fm.new _ hy with q|q
  ·simp at q
  ·rw[a.st.at_ p hp] at q;cases q
 ·rcases List.mem_append.mp hp with hp|hp
  ·exact b.old _ _ (a.st.at_ p hp)
  ·exact b.st.at_ p hp
 ·rw[List.map_append] at hx
  rcases List.mem_append.mp hx with hx|hx
  ·exact a.fm.new x hx
  ·rcases b.fm.new x hx with q|q
   ·simp at q
   ·exact .inr (a.old.none q)
theorem Nw.set{l:List (Addr × AObj)}{i:Nat}{a:Addr}{x z:AObj}(n:Nw own0 own l)(h:l[i]?=some (a,x)):Nw own0 (upd own a z) (l.set i (a,z)):=⟨n.st.set h,n.fm.trans (Fm.set h)⟩
theorem Nw.one{c:Addr}{z:AObj}(h:own c=Option.none):Nw own (upd own c z) [(c,z)]:=⟨⟨by simp,fun p hp=>by rw[List.mem_singleton.mp hp];exact upd_self _ _ _⟩,Fm.newc (l:=[]) h⟩
theorem S.att{x d C:Addr}{a:MM}{i j:Nat}{l:List (Addr × AObj)}{name:Str}{value:Expr}{tpos p2:Pos}{rest:List Stmt}{K:AF→MM→Own→Prop}(n:Nw own0 own l)(hj:l[j]?=some (x,.inst C d))(hi:l[i]?=some (d,.ns a))
  (hv:Ev G ℓ sc m own value fun av o1=>∃ v k,av=v∧Nw own o1 k∧∀ own',Nw own0 own' ((l++k).set i (d,.ns (mset a name v)))→Exs G ℓ sc m own' rest K)
  (hC:Cls G.w.params C) (hn:noAttr G.w.params C name) (hat:name∈attrNames) (hk:autoParam (sc.lookup ("self":Str)=some .local) sK) (hm:autoParam (m "self"=some (.ref x)) sR)
  (hs:autoParam (∀ env,swapsWithSole [.Attribute (.Name "self" p2) name tpos] value pos.line env=pure false) sI) (hw:autoParam (∀ env,swappedStores [.Attribute (.Name "self" p2) name tpos] value env=pure Option.none) sI) :
  Exs G ℓ sc m own (.Assign [.Attribute (.Name "self" p2) name tpos] value pos::rest) K:=by
 refine Exs.cons (Ex.setattr (hv.conseq fun av o1 q3524=>uEEAA q3524 fun v k e n2 h=>(iEA o1 (Mine.sub.refl _) (Ev.to (P.lo hk hm) (iEEEEAAAAAA x C d a rfl (n2.old _ _ (n.st.get hj)) (n2.old _ _ (n.st.get hi)) hC hn hat ?_)))) hs hw)
 subst e
 have:=n.join n2
 exact h _ (this.set (by rw[List.getElem?_append_left (List.getElem?_eq_some_iff.mp hi).1];exact hi))
theorem Ev.freshL{p:Pos}{K:AV→Own→Prop}(h:∀ c o1,Nw own o1 [(c,.list [])]→K (.ref c) o1):Ev G ℓ sc m own (.List [] p) K:=Ev.list (Evs.nil ⟨by rw[sizeLine_eq];simp,fun c hc=>h c _ (Nw.one hc)⟩)
theorem bank_make(hl:ℓ<900)(hK:∀ bk bd c1 c2 c3 c4 o',Nw own o' [(bd,.ns (mset (mset (mset (mset m0 "nodes" (.ref c1)) "numbers" (.ref c2)) "weights" (.ref c3)) "depths" (.ref c4))),(bk,.inst 215 bd),(c1,.list []),(c2,.dT []),(c3,.list []),(c4,.list [])]→K (.ref bk) o'):Cal G ℓ own (.ref 215) [] K:=by
 refine Cal.make (in_Bank _).1 (in_Bank _).2.1 (in_Bank _).2.2 fun x d hx hd ne=>CalC.fn (def_Bank_init _) rfl (by lia) ?_
 conv in (fnBody _)=>whnf
 refine S.att (i:=0) (j:=1) (Nw.start hx hd ne) rfl rfl (Ev.freshL fun c1 o1 h1=>(iEEAA _ _ rfl h1 (fun w1 n1=>?_))) (cls_Bank _) (no_Bank_nodes _) (by decide)
 refine S.att (i:=0) (j:=1) n1 rfl rfl (Ev.dict0 (.dT []) (.inr (.inr rfl)) fun c2 h2=>(iEEAA _ _ rfl (Nw.one h2) (fun w2 n2=>?_))) (cls_Bank _) (no_Bank_numbers _) (by decide)
 refine S.att (i:=0) (j:=1) n2 rfl rfl (Ev.freshL fun c3 o3 h3=>(iEEAA _ _ rfl h3 (fun w3 n3=>?_))) (cls_Bank _) (no_Bank_weights _) (by decide)
 refine S.att (i:=0) (j:=1) n3 rfl rfl (Ev.freshL fun c4 o4 h4=>(iEEAA _ _ rfl h4 (fun w4 n4=>?_))) (cls_Bank _) (no_Bank_depths _) (by decide)
 exact Exs.nil ⟨rfl,hK _ _ _ _ _ _ _ n4⟩
theorem un_make0(hl:ℓ<900)(hK:∀ bk bd c1 c2 c3 o',Nw own o' [(bd,.ns (mset (mset (mset m0 "above" (.ref c1)) "lots" (.ref c2)) "merged" (.ref c3))),(bk,.inst 373 bd),(c1,.list []),(c2,.list []),(c3,.list [])]→K (.ref bk) o'):Cal G ℓ own (.ref 373) [] K:=by
 refine Cal.make (in_Un _).1 (in_Un _).2.1 (in_Un _).2.2 fun x d hx hd ne=>CalC.fn (def_Un_init _) rfl (by lia) ?_
 conv in (fnBody _)=>whnf
 refine S.att (i:=0) (j:=1) (Nw.start hx hd ne) rfl rfl (Ev.freshL fun c1 o1 h1=>(iEEAA _ _ rfl h1 (fun w1 n1=>?_))) (cls_Un _) (no_Un_above _) (by decide)
 refine S.att (i:=0) (j:=1) n1 rfl rfl (Ev.freshL fun c3 o3 h3=>(iEEAA _ _ rfl h3 (fun w3 n3=>?_))) (cls_Un _) (no_Un_lots _) (by decide)
 refine S.att (i:=0) (j:=1) n3 rfl rfl (Ev.freshL fun c4 o4 h4=>(iEEAA _ _ rfl h4 (fun w4 n4=>?_))) (cls_Un _) (no_Un_merged _) (by decide)
 exact Exs.nil ⟨rfl,hK _ _ _ _ _ _ n4⟩
theorem St.pick{l:List (Addr × AObj)}(S:St own l):∀(is:List Nat),is.Nodup→St own (is.filterMap fun i=>l[i]?)
 |[],_=>⟨List.nodup_nil,fun p hp=>by simp at hp⟩
 |i::is,hn=>by
  have ih:=S.pick is (List.nodup_cons.mp hn).2
  rw[List.filterMap_cons]
  cases e:l[i]? with
  |none=>exact ih
  |some p=>
   refine⟨List.nodup_cons.mpr ⟨fun hm=>?_,ih.nd⟩,fun q hq=>?_⟩
   ·refine uEA (List.mem_map.mp hm) fun q hq e2=>?_
    refine uEA (List.mem_filterMap.mp hq) fun j hj h=>?_
    exact S.ne (i:=i) (j:=j) e h (fun k=>(List.nodup_cons.mp hn).1 (k▸hj)) e2.symm
   ·rcases List.mem_cons.mp hq with rfl|hq
    ·exact S.at_ _ (List.mem_of_getElem? e)
    ·exact ih.at_ q hq
theorem pick_mem(l:List (Addr × AObj))(is:List Nat):∀ p∈is.filterMap (fun i=>l[i]?),p∈l:=fun p hp=>by
 refine uEA (List.mem_filterMap.mp hp) fun j V h=>?_
 exact List.mem_of_getElem? h
noncomputable abbrev hd0':HD:=⟨[],[],[],[],[],[]⟩
theorem heap_make(hl:ℓ<890)(hK:∀(A:HA) o',HOk o' A hd0'→Mine.sub own o'→Fm own o' [] (hd0'.cells A)→K (.ref A.hp) o'):Cal G ℓ own (.ref 503) [] K:=by
 refine Cal.make (in_Heap _).1 (in_Heap _).2.1 (in_Heap _).2.2 fun x d hx hd ne=>CalC.fn (def_Heap_init _) rfl (by lia) ?_
 conv in (fnBody _)=>whnf
 refine S.att (i:=0) (j:=1) (Nw.start hx hd ne) rfl rfl (Ev.k k_Bank (Evs.nil (bank_make (by lia) fun bk bd b1 b2 b3 b4 o1 h1=>(iEEAA _ _ rfl h1 (fun w1 n1=>?_))))) (cls_Heap _) (no_Heap_bank _) (by decide)
 refine S.att (i:=0) (j:=1) n1 rfl rfl (Ev.k k_Unions (Evs.nil (un_make0 (by lia) fun uk ud u1 u2 u3 o2 h2=>(iEEAA _ _ rfl h2 (fun w2 n2=>?_))))) (cls_Heap _) (no_Heap_unions _) (by decide)
 refine S.att (i:=0) (j:=1) n2 rfl rfl (Ev.freshL fun c1 o1 h1=>(iEEAA _ _ rfl h1 (fun w3 n3=>?_))) (cls_Heap _) (no_Heap_edges _) (by decide)
 refine S.att (i:=0) (j:=1) n3 rfl rfl (Ev.freshL fun c2 o1 h1=>(iEEAA _ _ rfl h1 (fun w4 n4=>?_))) (cls_Heap _) (no_Heap_forest _) (by decide)
 refine S.att (i:=0) (j:=1) n4 rfl rfl (Ev.dict0 (.dT []) (.inr (.inr rfl)) fun c3 h1=>(iEEAA _ _ rfl (Nw.one h1) (fun w5 n5=>?_))) (cls_Heap _) (no_Heap_known _) (by decide)
 refine S.att (i:=0) (j:=1) n5 rfl rfl (Ev.dict0 (.dI []) (.inr (.inl rfl)) fun c4 h1=>(iEEAA _ _ rfl (Nw.one h1) (fun w6 n6=>?_))) (cls_Heap _) (no_Heap_above _) (by decide)
 refine S.att (i:=0) (j:=1) n6 rfl rfl (Ev.freshL fun c5 o1 h1=>(iEEAA _ _ rfl h1 (fun w7 n7=>?_))) (cls_Heap _) (no_Heap_waiting _) (by decide)
 refine S.att (i:=0) (j:=1) n7 rfl rfl (Ev.to P.i (iEEAA _ [] rfl ⟨⟨List.nodup_nil,fun p hp=>by simp at hp⟩,Fm.refl _ _⟩ (fun w8 n8=>?_))) (cls_Heap _) (no_Heap_backs _) (by decide)
 simp only[List.cons_append,List.nil_append,List.append_nil,List.set_cons_zero] at n8
 have S:=And.intro (n8.st.pick [1,0,3,2,9,8,4,5,6,7,10,11,15,16] (by decide)) fun a ha=>n8.fm.new a (List.map_subset _ (pick_mem _ [1,0,3,2,9,8,4,5,6,7,10,11,15,16]) ha)
 refine Exs.nil ⟨rfl,hK ⟨x,d,bk,bd,uk,ud,b1,b2,b3,b4,u1,u2,u3,c3,c4,c1,c2,c5⟩ w8 ⟨S.1,rfl,fun i a h=>by simp at h,rfl,fun a h=>by simp at h,rfl,rfl,fun x h=>by simp at h,fun i x h=>by simp at h,List.nodup_nil,fun a h=>by simp at h⟩ n8.old ⟨fun a o h V=>n8.old a o h,S.2⟩⟩
end
noncomputable def pv(a b:Nat):Str:=qm++ntx a++Str.ofString "/"++ntx b
theorem pv_list(a b:Nat):(pv a b).cps.toList=63::((ntx a).cps.toList++47::(ntx b).cps.toList):=by
 unfold pv
 rw[app_list,app_list,app_list,qm_list,Str.ofString_eq_toList]
 simp
theorem cut47:∀{a a' b b':List Nat},47∉a→47∉a'→a++47::b=a'++47::b'→a=a'∧b=b'
 |[],[],_,_,_,_,h=>⟨rfl,by injection h⟩
 |[],x::a',_,_,_,h',h=>by injection h with h1 _;exact absurd h1 (List.ne_of_not_mem_cons h')
 |x::a,[],_,_,h',_,h=>by injection h with h1 _;exact absurd h1.symm (List.ne_of_not_mem_cons h')
 |x::a,y::a',_,_,h1,h2,h=>by
  injection h with e h
  have:=cut47 (List.not_mem_of_not_mem_cons h1) (List.not_mem_of_not_mem_cons h2) h
  exact⟨by rw[e,this.1],this.2⟩
theorem ntx_eqI{a b:Nat}(h:(ntx a).cps.toList=(ntx b).cps.toList):a=b:=ntx_inj (by
 cases ha:ntx a;cases hb:ntx b
 rw[ha,hb] at h
 rw[Str.mk.injEq];exact Array.toList_inj.mp h)
theorem pv_inj{a b c d:Nat}(h:pv a b=pv c d):a=c∧b=d:=by
 have h:=congrArg (fun s:Str=>s.cps.toList) h
 rw[pv_list,pv_list] at h
 injection h with _ h
 have n47:∀ i,47∉(ntx i).cps.toList:=fun i hm=>by have:=ntx_digit hm;lia
 have:=cut47 (n47 a) (n47 c) h
 exact⟨ntx_eqI this.1,ntx_eqI this.2⟩
theorem pv_isV(a b:Nat):isV (pv a b)=true:=by
 unfold isV;rw[pv_list];rfl
theorem pv_opOk{a b:Nat}(ha:a<100)(hb:b<100):opOk (pv a b)=true:=by
 have l1:=ntx_len (k:=2) (by decide) (i:=a) (by lia)
 have l2:=ntx_len (k:=2) (by decide) (i:=b) (by lia)
 have lq:qm.length=1:=by decide +kernel
 have ls:(Str.ofString "/").length=1:=by decide +kernel
 have hl:(pv a b).length≤8∧1≤(pv a b).length:=by
  unfold pv
  rw[Str.length_append,Str.length_append,Str.length_append];lia
 have hs:PyData.strOk (pv a b)=true:=digits_ok fun c hc=>by
  rw[pv_list] at hc
  have:∀ i,c∈(ntx i).cps.toList→c<0x110000:=fun i h=>by have:=ntx_digit h;lia
  rcases List.mem_cons.mp hc with rfl|hc
  ·decide
  ·rcases List.mem_append.mp hc with hc|hc
   ·exact this _ hc
   ·rcases List.mem_cons.mp hc with rfl|hc
    ·decide
    ·exact this _ hc
 unfold opOk
 rw[hs,decide_eq_true hl.2,decide_eq_true (by lia)];rfl
noncomputable def prods:List (List T)→List (List T)
 |[]=>[[]]
 |l::ls=>l.flatMap fun p=>(prods ls).map (p::·)
theorem prods_1:prods []=[[]]:=by intros;rfl
theorem prods_2:∀(l:List T) (ls:List (List T)),prods (l::ls)=List.flatMap (fun p=>List.map (fun x=>p::x) (prods ls)) l:=by intros;rfl
theorem prods_nil{ps:List T}:ps∈prods []↔ps=[]:=by rw[prods_1,List.mem_singleton]
theorem prods_cons{l:List T}{ls:List (List T)}{ps:List T}:ps∈prods (l::ls)↔∃ p r,ps=p::r∧p∈l∧r∈prods ls:=by
 rw[prods_2,List.mem_flatMap]
 constructor
 ·intro hh;refine uEA hh ?_;clear hh;rintro p hp h
  refine uEA (List.mem_map.mp h) ?_;rintro r hr rfl
  exact(iEEAA p r rfl hp hr)
 ·intro hh;refine uEEAA hh ?_;clear hh;rintro p r rfl hp hr
  exact(iEA p hp (List.mem_map_of_mem hr))
noncomputable def nd(N:List Nd)(a:Nat):Nd:=N.getD a (Str.empty,[])
theorem nd_eq{N:List Nd}{a:Nat}{x:Nd}(h:N[a]?=some x):nd N a=x:=by unfold nd;rw[List.getD_eq_getElem?_getD,h];rfl
theorem nd_at{N:List Nd}{a:Nat}(h:a<N.length):N[a]?=some (nd N a):=by rw[nd_eq (List.getElem?_eq_getElem h)];exact List.getElem?_eq_getElem h
noncomputable def cuts(N:List Nd):Nat→Nat→Nat→List T
 |0,_,_=>[]
 |f+1,a,b=>.mk (pv a b) []::if (nd N a).1=(nd N b).1∧(nd N a).2.length=(nd N b).2.length then(prods (((nd N a).2.zip (nd N b).2).map fun q=>cuts N f q.1 q.2)).map (T.mk (nd N a).1) else []
theorem cuts_2:∀(N:List Nd)(x x_1 f:Nat),cuts N ((f+1)) x x_1=T.mk (pv x x_1) []::if (nd N x).fst=(nd N x_1).fst∧List.length (nd N x).snd=List.length (nd N x_1).snd then List.map (T.mk (nd N x).fst) (prods (List.map (fun q=>cuts N f q.fst q.snd) (List.zip (nd N x).snd (nd N x_1).snd))) else []:=by intros;rfl
noncomputable def cut(N:List Nd)(a b:Nat):List T:=cuts N N.length a b
def Kd(N:List Nd):Prop:=∀(i:Nat)(x:Nd),N[i]?=some x→∀ k∈x.2,k<i
theorem cuts_fuel{N:List Nd}(hK:Kd N):∀(f g a b:Nat),a<f→a<g→a<N.length→cuts N f a b=cuts N g a b
 |0,_,_,_,h,_,_=>absurd h (Nat.not_lt_zero _)
 |_+1,0,_,_,_,h,_=>absurd h (Nat.not_lt_zero _)
 |f+1,g+1,a,b,h1,h2,h3=>by
  rw[cuts_2,cuts_2]
  have:((nd N a).2.zip (nd N b).2).map (fun q=>cuts N f q.1 q.2)=((nd N a).2.zip (nd N b).2).map (fun q=>cuts N g q.1 q.2):=List.map_congr_left fun q hq=>by
   have:=hK a _ (nd_at h3) q.1 (List.of_mem_zip hq).1
   exact cuts_fuel hK f g q.1 q.2 (by lia) (by lia) (by lia)
  rw[this]
noncomputable def rcut(N:List Nd)(is js:List Nat):List (List T):=prods ((is.zip js).map fun q=>cut N q.1 q.2)
theorem cut_eq{N:List Nd}(hK:Kd N){a b:Nat}(ha:a<N.length):cut N a b=.mk (pv a b) []::if (nd N a).1=(nd N b).1∧(nd N a).2.length=(nd N b).2.length then(rcut N (nd N a).2 (nd N b).2).map (T.mk (nd N a).1) else []:=by
 unfold cut
 rw[cuts_fuel hK N.length (N.length+1) a b ha (by lia) ha,cuts_2];rfl
def Nts(N:List Nd)(ks:List T)(is:List Nat):Prop:=is.length=ks.length∧∀(j:Nat)(k:T)(i:Nat),ks[j]?=some k→is[j]?=some i→Nt N k i
theorem Nts.cons{N:List Nd}{k:T}{ks:List T}{i:Nat}{is:List Nat}(h:Nts N (k::ks) (i::is)):Nt N k i∧Nts N ks is:=
 (iAA (h.2 0 k i rfl rfl) (Nat.succ.inj h.1) (fun j k i hk hi=>h.2 (j+1) k i hk hi))
theorem Nts.uncons{N:List Nd}{ks:List T}{i:Nat}{is:List Nat}(h:Nts N ks (i::is)):∃ k l,ks=k::l∧Nt N k i∧Nts N l is:=by
 cases ks with
 |nil=>cases h.1
 |cons k l=>exact(iEEAA k l rfl h.cons.1 h.cons.2)
theorem flat_len{α β:Type}(f:α→List β)(n:Nat):∀ l:List α,(∀ p∈l,(f p).length≤n)→(l.flatMap f).length≤l.length*n
 |[],_=>by simp
 |a::l,h=>by
  rw[List.flatMap_cons,List.length_append,List.length_cons,Nat.succ_mul,Nat.add_comm]
  exact Nat.add_le_add (flat_len f n l fun p hp=>h p (List.mem_cons_of_mem _ hp)) (h a List.mem_cons_self)
theorem rcut_cons(N:List Nd)(i j:Nat)(is js:List Nat):rcut N (i::is) (j::js)=(cut N i j).flatMap fun p=>(rcut N is js).map (p::·):=rfl
mutual
theorem cut_len{N:List Nd}(hK:Kd N):∀(t:T)(a b:Nat),Nt N t a→(cut N a b).length≤2 ^ t.size
 |.mk o ks,a,b,.mk h hl hk=>by
  rw[cut_eq hK (List.getElem?_eq_some_iff.mp h).1,nd_eq h,T.size_1,Nat.pow_succ,List.length_cons]
  have:=Nat.one_le_two_pow (n:=T.sizes ks)
  have r:=rcut_len hK ks _ (nd N b).2 ⟨hl,hk⟩
  split
  ·rw[List.length_map];dsimp only at r ⊢;lia
  ·rw[List.length_nil];lia
theorem rcut_len{N:List Nd}(hK:Kd N):∀(ks:List T)(is js:List Nat),Nts N ks is→(rcut N is js).length≤2 ^ T.sizes ks
 |[],is,js,h=>by
  rw[List.length_eq_zero_iff.mp h.1];exact Nat.le_refl _
 |k::ks,[],js,h=>by cases h.1
 |k::ks,i::is,[],h=>Nat.one_le_two_pow
 |k::ks,i::is,j::js,h=>by
  rw[rcut_cons,T.sizes_2,Nat.pow_add]
  refine Nat.le_trans (flat_len _ _ _ fun p V=>Nat.le_of_eq (List.length_map _)) (Nat.mul_le_mul (cut_len hK k i j h.cons.1) (rcut_len hK ks is js h.cons.2))
end
set_option tactic.hygienic true in
theorem cut_mem{N:List Nd}(hK:Kd N){a b:Nat}(ha:a<N.length){p:T}:p∈cut N a b↔p=.mk (pv a b) []∨((nd N a).1=(nd N b).1∧(nd N a).2.length=(nd N b).2.length)∧∃ ps,p=.mk (nd N a).1 ps∧ps∈rcut N (nd N a).2 (nd N b).2:=by
 rw[cut_eq hK ha,List.mem_cons]
 refine or_congr_right ?_
 split
 ·next c=>exact⟨fun h=>by refine uEA (List.mem_map.mp h) fun ps h1 h2=>?_;exact(iAEA c ps h2.symm h1),fun q8118=>uAEA q8118 fun V ps h1 h2=>h1▸List.mem_map_of_mem h2⟩
 ·next c=>exact⟨fun h=>by simp at h,fun h=>absurd h.1 c⟩
structure Nok (N:List Nd):Prop where
 kd:Kd N
 ops:∀ x∈N,x.1∈ops5∧x.2.length≤3
 few:N.length≤12
 nod:N.Nodup
theorem Nok.lt{N:List Nd}(h:Nok N){a k:Nat}(ha:a<N.length)(hk:k∈(nd N a).2):k<N.length:=Nat.lt_trans (h.kd a _ (nd_at ha) k hk) ha
mutual
theorem cut_ok{N:List Nd}(hN:Nok N):∀(t:T)(a b:Nat),Nt N t a→b<N.length→∀ p∈cut N a b,p.ok=true∧p.dep≤t.dep
 |.mk o ks,a,b,.mk h hl hk,hb,p,hp=>by
  have ha:=(List.getElem?_eq_some_iff.mp h).1
  have f:=hN.few
  rcases(cut_mem hN.kd ha).mp hp with rfl|⟨c,ps,rfl,hps⟩
  ·exact⟨T.ok_iff.mpr (iAAA (pv_opOk (by lia) (by lia)) (Nat.zero_le _) (fun V=>rfl) (fun k hk=>by simp at hk)),by rw[T.dep_1,T.dep_1,T.deps_1];lia⟩
  ·rw[nd_eq h] at c hps ⊢
   have r:=rcut_ok hN ks _ (nd N b).2 ⟨hl,hk⟩ (fun k hk=>hN.lt hb hk) ps hps
   have q:=hN.ops _ (List.mem_of_getElem? h)
   refine⟨T.ok_iff.mpr (iAAA ((ops5_ok q.1).1) ?_ (fun hv=>?_) (fun k hk=>(r.1 k hk).1)),?_⟩
   ·exact Nat.le_trans r.2 (by rw[← hl];exact Nat.le_succ_of_le q.2)
   ·rw[(ops5_ok q.1).2] at hv;cases hv
   ·rw[T.dep_1,T.dep_1];exact Nat.succ_le_succ (T.deps_le.mpr fun k hk=>(r.1 k hk).2)
theorem rcut_ok{N:List Nd}(hN:Nok N):∀(ks:List T)(is js:List Nat),Nts N ks is→(∀ k∈js,k<N.length)→∀ ps∈rcut N is js,(∀ k∈ps,k.ok=true∧k.dep≤T.deps ks)∧ps.length≤ks.length
 |[],is,js,h,hj,ps,hp=>by
  have:=List.length_eq_zero_iff.mp h.1
  subst this
  rw[prods_nil.mp hp];exact⟨fun k hk=>by simp at hk,Nat.le_refl _⟩
 |k::ks,[],js,h,hj,ps,hp=>by cases h.1
 |k::ks,i::is,[],h,hj,ps,hp=>by
  rw[prods_nil.mp hp];exact⟨fun k hk=>by simp at hk,Nat.zero_le _⟩
 |k::ks,i::is,j::js,h,hj,ps,hp=>by
  refine uEEAA (prods_cons.mp hp) ?_;rintro p r rfl h1 h2
  have c:=cut_ok hN k i j h.cons.1 (hj j List.mem_cons_self) p h1
  have d:=rcut_ok hN ks is js h.cons.2 (fun k hk=>hj k (List.mem_cons_of_mem _ hk)) r h2
  refine⟨fun q hq=>?_,Nat.succ_le_succ d.2⟩
  rcases List.mem_cons.mp hq with rfl|hq
  ·exact⟨c.1,Nat.le_trans c.2 (Nat.le_max_left _ _)⟩
  ·exact⟨(d.1 q hq).1,Nat.le_trans (d.1 q hq).2 (Nat.le_max_right _ _)⟩
end
theorem nodup_len{α:Type}:∀{l m:List α},l.Nodup→(∀ x∈l,x∈m)→l.length≤m.length
 |[],_,_,_=>Nat.zero_le _
 |a::l,m,hn,h=>by
  refine uEE (List.append_of_mem (h a List.mem_cons_self)) ?_;rintro p q rfl
  have hn:=List.nodup_cons.mp hn
  have:=nodup_len (m:=p++q) hn.2 fun x hx=>by
   have:=h x (List.mem_cons_of_mem _ hx)
   rcases List.mem_append.mp this with k|k
   ·exact List.mem_append_left _ k
   ·rcases List.mem_cons.mp k with rfl|k
    ·exact absurd hx hn.1
    ·exact List.mem_append_right _ k
  rw[List.length_append] at this
  rw[List.length_append,List.length_cons,List.length_cons];lia
section
variable{κ:Type}[DecidableEq κ]{es:List (κ × AV)}{k:κ}{v:AV}
set_option tactic.hygienic true in
theorem aPut_mem{e:κ × AV}(h:e∈aPut es k v):e∈es∨e=(k,v):=by
 unfold aPut at h
 split at h
 ·refine uEA (List.mem_map.mp h) ?_;rintro x hx rfl
  split
  ·next c=>exact .inr (by rw[c])
  ·exact .inl hx
 ·rcases List.mem_append.mp h with h|h
  ·exact .inl h
  ·exact .inr (List.mem_singleton.mp h)
theorem aAt_key:(aAt es k).isSome=true↔k∈es.map (·.1):=by
 unfold aAt
 rw[Option.isSome_map,List.find?_isSome]
 simp[eq_comm]
theorem aPut_keys:(aPut es k v).map (·.1)=if (aAt es k).isSome then es.map (·.1) else es.map (·.1)++[k]:=by
 unfold aPut
 split
 ·rw[List.map_map]
  refine List.map_congr_left fun e V=>?_
  dsimp only[Function.comp]
  split<;>rfl
 ·rw[List.map_append];rfl
set_option tactic.hygienic true in
theorem aPut_kmem{x:κ}:x∈(aPut es k v).map (·.1)↔x∈es.map (·.1)∨x=k:=by
 rw[aPut_keys]
 split
 ·next c=>exact⟨.inl,fun h=>h.elim id fun e=>e▸aAt_key.mp c⟩
 ·rw[List.mem_append,List.mem_singleton]
set_option tactic.hygienic true in
theorem aPut_nodup(h:(es.map (·.1)).Nodup):((aPut es k v).map (·.1)).Nodup:=by
 rw[aPut_keys]
 split
 ·exact h
 ·next c=>exact List.nodup_append.mpr (iAA h (by simp) (fun x hx y hy e=>c (aAt_key.mpr (by rw[← List.mem_singleton.mp hy,← e];exact hx))))
end
structure HCA where
 (x d kn rw:Addr)
noncomputable def cm(A:HA)(C:HCA):MM:=mset (mset (mset m0 "heap" (.ref A.hp)) "known" (.ref C.kn)) "rows" (.ref C.rw)
structure CD where
 (KE RE:List (AV × AV)) (mem:List (Addr × AObj))
noncomputable def cfx(A:HA)(C:HCA)(h:HD)(cd:CD):List (Addr × AObj):=
 (C.x,.inst 291 C.d)::(C.d,.ns (cm A C))::(C.kn,.dT cd.KE)::(C.rw,.dT cd.RE)::(h.cells A++cd.mem)
noncomputable def kK(a b s:Nat):AV:=.tup [.int (a:Int),.int (b:Int),.int (s:Int)]
noncomputable def kR(is js:List Nat)(s:Nat):AV:=.tup [.tup (nL is),.tup (nL js),.int (s:Int)]
noncomputable def sufs(N:List Nd):List (List Nat):=N.flatMap fun x=>(List.range 4).map fun k=>x.2.drop k
noncomputable def allK:List AV:=(List.range 12).flatMap fun a=>(List.range 12).flatMap fun b=>(List.range 6).map fun s=>kK a b s
noncomputable def allR(N:List Nd):List AV:=(sufs N).flatMap fun is=>(sufs N).flatMap fun js=>(List.range 6).map fun s=>kR is js s
noncomputable def rowA(R:List (List T)):List AV:=R.map fun r=>.tup (T.avs r)
def Sh(N:List Nd)(a b s:Nat)(Ts:List T):Prop:=Ts.Nodup∧∀ p,p∈Ts↔p∈cut N a b∧p.size=s
def Sp(N:List Nd)(is js:List Nat)(s:Nat)(R:List (List T)):Prop:=(∀ ps,ps∈R↔ps∈rcut N is js∧T.sizes ps=s)∧R.length≤4 ^ is.length*(rcut N is js).length
structure CSt (own:Own) (A:HA) (C:HCA) (h:HD) (cd:CD):Prop where
 st:St own (cfx A C h cd)
 hp:∃ o,HOk o A h
 n:Nok h.N
 kok:∀ e∈cd.KE,∃ a b s c Ts,e=(kK a b s,.ref c)∧kK a b s∈allK∧(c,AObj.list (T.avs Ts))∈cd.mem∧Sh h.N a b s Ts
 rok:∀ e∈cd.RE,∃ is js s c R,e=(kR is js s,.ref c)∧kR is js s∈allR h.N∧(c,AObj.list (rowA R))∈cd.mem∧Sp h.N is js s R
 knd:(cd.KE.map (·.1)).Nodup
 rnd:(cd.RE.map (·.1)).Nodup
section
variable{G:GC}{ℓ:Nat}{sc:Names}{m:MM}{own:Own}{A:HA}{C:HCA}{h:HD}{cd:CD}{pos:Pos}
theorem kK_inj{a b s a' b' s':Nat}(e:kK a b s=kK a' b' s'):a=a'∧b=b'∧s=s':=by
 unfold kK at e
 simp at e
 lia
theorem nL_inj:∀{l k:List Nat},nL l=nL k→l=k
 |[],[],_=>rfl
 |[],_::_,h=>by cases h
 |_::_,[],h=>by cases h
 |a::l,b::k,h=>by
  unfold nL at h
  rw[List.map_cons,List.map_cons] at h
  injection h with h1 h2
  injection h1 with h1
  rw[nL_inj h2,Int.ofNat.inj h1]
theorem kR_inj{is js is' js':List Nat}{s s':Nat}(e:kR is js s=kR is' js' s'):is=is'∧js=js'∧s=s':=by
 unfold kR at e
 injection e with e
 injection e with e1 e
 injection e with e2 e
 injection e with e3 _
 injection e1 with e1
 injection e2 with e2
 injection e3 with e3
 exact(iAA (nL_inj e1) (nL_inj e2) (Int.ofNat.inj e3))
theorem CSt.hok(H:CSt own A C h cd):HOk own A h:=by
 obtain⟨o,k⟩:=H.hp
 exact {k with st:=⟨k.st.nd,fun p hp=>H.st.at_ p (List.mem_cons_of_mem _ (List.mem_cons_of_mem _ (List.mem_cons_of_mem _ (List.mem_cons_of_mem _ (List.mem_append_left _ hp)))))⟩}
theorem CSt.less{own':Own}(H:CSt own A C h cd)(k:sub own own'):CSt own' A C h cd:={H with st:=H.st.less k}
theorem CSt.mem(H:CSt own A C h cd){c:Addr}{z:AObj}(hc:(c,z)∈cd.mem):own c=some z:=H.st.at_ (c,z) (List.mem_cons_of_mem _ (List.mem_cons_of_mem _ (List.mem_cons_of_mem _ (List.mem_cons_of_mem _ (List.mem_append_right _ hc)))))
theorem cfx_new(A:HA)(C:HCA)(h:HD)(cd:CD)(p:Addr × AObj):cfx A C h cd++[p]=cfx A C h {cd with mem:=cd.mem++[p]}:=by
 unfold cfx
 rw[List.cons_append,List.cons_append,List.cons_append,List.cons_append,List.append_assoc]
structure Gc (A:HA) (C:HCA) (h:HD) (own own':Own) (cd cd':CD):Prop where
 ok:CSt own' A C h cd'
 fm:Fm own own' (cfx A C h cd) (cfx A C h cd')
 mem:∀ p∈cd.mem,p∈cd'.mem
theorem Gc.refl(H:CSt own A C h cd):Gc A C h own own cd cd:=⟨H,Fm.refl _ _,fun V h=>h⟩
theorem Gc.trans{o1 o2 o3:Own}{c1 c2 c3:CD}(a:Gc A C h o1 o2 c1 c2)(b:Gc A C h o2 o3 c2 c3):Gc A C h o1 o3 c1 c3:=⟨b.ok,a.fm.trans b.fm,fun p hp=>b.mem p (a.mem p hp)⟩
theorem Gc.up{o1 o2 o3:Own}{c1 c2:CD}(a:Gc A C h o1 o2 c1 c2)(k:sub o2 o3):Gc A C h o1 o3 c1 c2:=⟨a.ok.less k,a.fm.sub k,a.mem⟩
theorem CSt.new(H:CSt own A C h cd){c:Addr}{z:AObj}(hc:own c=Option.none):Gc A C h own (upd own c z) cd {cd with mem:=cd.mem++[(c,z)]}:=by
 have S:=H.st.new (z:=z) hc
 have F:=Fm.newc (own:=own) (l:=cfx A C h cd) (z:=z) hc
 rw[cfx_new] at S F
 refine⟨{H with st:=S,kok:=fun e he=>?_,rok:=fun e he=>?_},F,fun p hp=>List.mem_append_left _ hp⟩
 ·refine uEEEEEAAA (H.kok e he) fun a b s c Ts h1 h2 h3 h4=>?_
  exact(iEEEEEAAA a b s c Ts h1 h2 (List.mem_append_left _ h3) h4)
 ·refine uEEEEEAAA (H.rok e he) fun a b s c Ts h1 h2 h3 h4=>?_
  exact(iEEEEEAAA a b s c Ts h1 h2 (List.mem_append_left _ h3) h4)
theorem CSt.kput(H:CSt own A C h cd){a b s:Nat}{c:Addr}{Ts:List T}(hc:(c,AObj.list (T.avs Ts))∈cd.mem)(hk:kK a b s∈allK)(hT:Sh h.N a b s Ts) :
  Gc A C h own (upd own C.kn (.dT (aPut cd.KE (kK a b s) (.ref c)))) cd {cd with KE:=aPut cd.KE (kK a b s) (.ref c)}:=by
 refine⟨{H with st:=H.st.set (i:=2) rfl,kok:=fun e he=>?_,knd:=aPut_nodup H.knd},Fm.set (i:=2) rfl,fun V h=>h⟩
 rcases aPut_mem he with he|rfl
 ·exact H.kok e he
 ·exact(iEEEEEAAA a b s c Ts rfl hk hc hT)
theorem CSt.rput(H:CSt own A C h cd){is js:List Nat}{s:Nat}{c:Addr}{R:List (List T)}(hc:(c,AObj.list (rowA R))∈cd.mem)(hk:kR is js s∈allR h.N)(hT:Sp h.N is js s R) :
  Gc A C h own (upd own C.rw (.dT (aPut cd.RE (kR is js s) (.ref c)))) cd {cd with RE:=aPut cd.RE (kR is js s) (.ref c)}:=by
 refine⟨{H with st:=H.st.set (i:=3) rfl,rok:=fun e he=>?_,rnd:=aPut_nodup H.rnd},Fm.set (i:=3) rfl,fun V h=>h⟩
 rcases aPut_mem he with he|rfl
 ·exact H.rok e he
 ·exact(iEEEEEAAA is js s c R rfl hk hc hT)
theorem CSt.klen(H:CSt own A C h cd):cd.KE.length≤1000000:=by
 have:=nodup_len H.knd (m:=allK) fun x hx=>by
  refine uEA (List.mem_map.mp hx) ?_;rintro e he rfl
  refine uEEEEEAA (H.kok e he) ?_;rintro a b s c Ts rfl h2 _
  exact h2
 rw[List.length_map] at this
 have l1:allK.length≤(List.range 12).length*((List.range 12).length*6):=flat_len _ _ _ fun p V=>flat_len _ _ _ fun q V=>by simp
 simp at l1;lia
theorem CSt.rlen(H:CSt own A C h cd):cd.RE.length≤1000000:=by
 have:=nodup_len H.rnd (m:=allR h.N) fun x hx=>by
  refine uEA (List.mem_map.mp hx) ?_;rintro e he rfl
  refine uEEEEEAA (H.rok e he) ?_;rintro a b s c Ts rfl h2 _
  exact h2
 rw[List.length_map] at this
 have l0:(sufs h.N).length≤h.N.length*4:=flat_len _ _ _ fun p V=>by simp
 have l1:(allR h.N).length≤(sufs h.N).length*((sufs h.N).length*6):=flat_len _ _ _ fun p V=>flat_len _ _ _ fun q V=>by simp
 have f:=H.n.few
 have:(sufs h.N).length*((sufs h.N).length*6)≤48*(48*6):=Nat.mul_le_mul (by lia) (Nat.mul_le_mul (by lia) (Nat.le_refl _))
 lia
def Pst(A:HA)(C:HCA)(h:HD)(own:Own)(cd:CD){β:Type}(F:β→List AV)(P:β→Prop):AV→Own→Prop:=fun v q=>∃ own' cd' c Ts,v=.ref c∧Gc A C h own own' cd cd'∧(c,AObj.list (F Ts))∈cd'.mem∧P Ts∧sub own' q
theorem Cal.pst{β:Type}{F:β→List AV}{P:β→Prop}{f:AV}{as:List AV}{K:AV→Own→Prop}(H:Cal G ℓ own f as (Pst A C h own cd F P))
  (k:∀ own' cd' c Ts,Gc A C h own own' cd cd'→(c,AObj.list (F Ts))∈cd'.mem→P Ts→K (.ref c) own'):Cal G ℓ own f as K:=
 H.conseq fun v q q10518=>uEEEEAAAA q10518 fun own' cd' c Ts e h1 h2 h3 h4=>(iEA own' h4 (e▸k own' cd' c Ts h1 h2 h3))
theorem limited_ok{a x:Addr}{es:List (AV × AV)}(ha:own a=some (.dT es))(hs:es.length≤2000)(hl:ℓ<940):CaP G ℓ own (.ref 276) [.ref x,.ref a] .none:=by
 refine Mine.D.fn (def_HC_limited _) (by lia) ?_
 conv in (fnBody _)=>whnf
 exact S.ifF0 (T.cmp (Ev.k k_len ((P.one P.lo).to (Cal.lenDT ha (by lia) rf))) (Ev.nglob (by kernel_rfl) (g_MOST _) rf) (Op.gt (VXb (by simp;lia)))) (Exs.nil rf)
theorem limited_okL{a x:Addr}{es:List AV}(ha:own a=some (.list es))(hs:es.length≤2000)(hl:ℓ<940):CaP G ℓ own (.ref 276) [.ref x,.ref a] .none:=by
 refine Mine.D.fn (def_HC_limited _) (by lia) ?_
 conv in (fnBody _)=>whnf
 exact S.ifF0 (T.cmp (P.lenL P.lo ha (by lia)) (Ev.nglob (by kernel_rfl) (g_MOST _) rf) (Op.gt (VXb (by simp;lia)))) (Exs.nil rf)
end
section
variable{G:GC}{ℓ:Nat}{sc:Names}{m:MM}{own:Own}{A:HA}{C:HCA}{h:HD}{cd:CD}{pos:Pos}{o:Expr}
theorem CSt.cx(H:CSt own A C h cd):own C.x=some (.inst 291 C.d):=H.st.get (i:=0) rfl
theorem CSt.cdd(H:CSt own A C h cd):own C.d=some (.ns (cm A C)):=H.st.get (i:=1) rfl
theorem P.ckn(H:CSt own A C h cd)(he:EvP G ℓ sc m own o (.ref C.x))(hb:autoParam (∀ env,attributeBase o "known" env (eval o env)=eval o env) sI):EvP G ℓ sc m own (.Attribute o "known" pos) (.ref C.kn):=P.attr he H.cx H.cdd (cls_HC _) (no_HC_known _) (by kernel_rfl) rfl hb
theorem P.crw(H:CSt own A C h cd)(he:EvP G ℓ sc m own o (.ref C.x))(hb:autoParam (∀ env,attributeBase o "rows" env (eval o env)=eval o env) sI):EvP G ℓ sc m own (.Attribute o "rows" pos) (.ref C.rw):=P.attr he H.cx H.cdd (cls_HC _) (no_HC_rows _) (by kernel_rfl) rfl hb
theorem P.chp(H:CSt own A C h cd)(he:EvP G ℓ sc m own o (.ref C.x))(hb:autoParam (∀ env,attributeBase o "heap" env (eval o env)=eval o env) sI):EvP G ℓ sc m own (.Attribute o "heap" pos) (.ref A.hp):=P.attr he H.cx H.cdd (cls_HC _) (no_HC_heap _) (by kernel_rfl) rfl hb
theorem kR_ok(is js:List Nat)(s:Nat):tkOk (kR is js s):=by
 have k:∀ l:List Nat,AV.keys (nL l)=true∧AV.deps (nL l)=0:=by
  intro l
  induction l with
  |nil=>exact⟨rfl,rfl⟩
  |cons a l ih=>unfold nL at ih ⊢;rw[List.map_cons];exact⟨by rw[AV.keys_2,ih.1];rfl,by rw[AV.deps_2,ih.2];simp[AV.dep_1,AV.dep_2,AV.dep_3]⟩
 unfold kR
 refine⟨?_,?_⟩
 ·simp[AV.key_1,AV.key_2,AV.key_3,AV.keys_1,AV.keys_2,k]
 ·simp[AV.dep_1,AV.dep_2,AV.dep_3,AV.deps_1,AV.deps_2,k]
theorem allR_mem{N:List Nd}{is js:List Nat}{s:Nat}(h1:is∈sufs N)(h2:js∈sufs N)(hs:s<6):kR is js s∈allR N:=
 List.mem_flatMap.mpr (iEA is h1 (List.mem_flatMap.mpr (iEA js h2 (List.mem_map.mpr (iEA s (List.mem_range.mpr hs) rfl)))))
theorem sufs_tail{N:List Nd}(hN:∀ x∈N,x.1∈ops5∧x.2.length≤3){i:Nat}{is:List Nat}(hm:i::is∈sufs N):is∈sufs N:=by
 refine uEA (List.mem_flatMap.mp hm) fun x hx hm=>?_
 refine uEA (List.mem_map.mp hm) fun k hk e=>?_
 have l:=congrArg List.length e
 rw[List.length_drop,List.length_cons] at l
 have:=(hN x hx).2
 refine List.mem_flatMap.mpr (iEA x hx (List.mem_map.mpr (iEA (k+1) (List.mem_range.mpr (by lia)) ?_)))
 rw[← List.tail_drop,e];rfl
theorem rcut_length{N:List Nd}:∀{is js:List Nat} {ps:List T},js.length=is.length→ps∈rcut N is js→ps.length=is.length
 |[],js,ps,e,hp=>by
  rw[prods_nil.mp hp];rfl
 |i::is,[],ps,e,hp=>by cases e
 |i::is,j::js,ps,e,hp=>by
  refine uEEAA (prods_cons.mp hp) ?_;rintro p r rfl _ h2
  rw[List.length_cons,List.length_cons,rcut_length (Nat.succ.inj e) h2]
noncomputable def consA(x:AV):AV→AV
 |.tup l=>.tup (x::l)
 |d=>d
theorem consA_map(p:T)(R:List (List T)):(rowA R).map (consA p.av)=rowA (R.map (p::·)):=by
 unfold rowA
 rw[List.map_map,List.map_map]
 exact List.map_congr_left fun r V=>by
  show AV.tup (p.av::T.avs r)=.tup (T.avs (p::r));rw[T.avs_2]
theorem rowA_len(R:List (List T)):(rowA R).length=R.length:=List.length_map _
theorem CSt.oth(H:CSt own A C h cd){fc:Addr}{z:AObj}(hn:fc∉(cfx A C h cd).map (·.1)):CSt (upd own fc z) A C h cd:=
 {H with st:=⟨H.st.nd,fun p hp=>by rw[upd_ne _ _ fun e=>hn (List.mem_map.mpr (iEA p hp e))];exact H.st.at_ p hp⟩}
theorem CSt.fresh(H:CSt own A C h cd){fc:Addr}(hf:own fc=Option.none):fc∉(cfx A C h cd).map (·.1):=fun hm=>by
 refine uEA (List.mem_map.mp hm) fun p hp e=>?_
 have:=H.st.at_ p hp
 rw[e,hf] at this;cases this
theorem Gc.apart{own':Own}{cd':CD}(g:Gc A C h own own' cd cd'){fc:Addr}{z:AObj}(hf:own fc=some z)(hn:fc∉(cfx A C h cd).map (·.1)):own' fc=some z∧fc∉(cfx A C h cd').map (·.1):=
 ⟨g.fm.keep _ _ hf hn,fun hm=>by
  rcases g.fm.new _ hm with q|q
  ·exact hn q
  ·rw[hf] at q;cases q⟩
theorem Gc.oth{own':Own}{cd':CD}(g:Gc A C h own own' cd cd'){fc:Addr}{z:AObj}(h0:own fc=Option.none)(hn:fc∉(cfx A C h cd').map (·.1)):Gc A C h own (upd own' fc z) cd cd':=by
 refine⟨g.ok.oth hn,⟨fun a o ha na=>?_,g.fm.new⟩,g.mem⟩
 rw[upd_ne]
 ·exact g.fm.keep a o ha na
 ·rintro rfl;rw[h0] at ha;cases ha
theorem Gc.adopt{own':Own}{cd':CD}(g:Gc A C h own own' cd cd'){fc:Addr}{z:AObj}(h0:own fc=Option.none)(hf:own' fc=some z)(hn:fc∉(cfx A C h cd').map (·.1)):Gc A C h own own' cd {cd' with mem:=cd'.mem++[(fc,z)]}:=by
 refine⟨{g.ok with st:=?_,kok:=fun e he=>?_,rok:=fun e he=>?_},⟨g.fm.keep,fun a ha=>?_⟩,fun p hp=>List.mem_append_left _ (g.mem p hp)⟩
 ·rw[← cfx_new]
  refine⟨?_,fun p hp=>?_⟩
  ·rw[List.map_append]
   refine List.nodup_append.mpr (iAA g.ok.st.nd (by simp) (fun x hx y hy e=>hn ?_))
   have e2:y=fc:=List.mem_singleton.mp hy
   rw[← e2,← e];exact hx
  ·rcases List.mem_append.mp hp with hp|hp
   ·exact g.ok.st.at_ p hp
   ·rw[List.mem_singleton.mp hp];exact hf
 ·refine uEEEEEAAA (g.ok.kok e he) fun a b s c Ts h1 h2 h3 h4=>?_
  exact(iEEEEEAAA a b s c Ts h1 h2 (List.mem_append_left _ h3) h4)
 ·refine uEEEEEAAA (g.ok.rok e he) fun a b s c Ts h1 h2 h3 h4=>?_
  exact(iEEEEEAAA a b s c Ts h1 h2 (List.mem_append_left _ h3) h4)
 ·rw[← cfx_new,List.map_append] at ha
  rcases List.mem_append.mp ha with ha|ha
  ·exact g.fm.new a ha
  ·rw[List.mem_singleton.mp ha];exact .inr h0
mutual
theorem T.dep_size:∀ t:T,t.dep≤t.size
 |.mk o ks=>by rw[T.dep_1,T.size_1];exact Nat.succ_le_succ (T.deps_sizes ks)
theorem T.deps_sizes:∀ l:List T,T.deps l≤T.sizes l
 |[]=>Nat.le_refl _
 |k::ks=>by
  rw[T.deps_2,T.sizes_2]
  exact Nat.max_le.mpr ⟨Nat.le_trans (T.dep_size k) (Nat.le_add_right _ _),Nat.le_trans (T.deps_sizes ks) (Nat.le_add_left _ _)⟩
end
theorem rowA_keys{d:Nat}:∀(R:List (List T)),(∀ r∈R,∀ k∈r,k.ok=true∧k.dep≤d)→AV.keys (rowA R)=true∧AV.deps (rowA R)≤d+1
 |[],_=>⟨rfl,Nat.zero_le _⟩
 |r::R,h=>by
  have ih:=rowA_keys R fun r' hr=>h r' (List.mem_cons_of_mem _ hr)
  have h0:=h r List.mem_cons_self
  have k1:=T.keys_avs r fun k hk=>(h0 k hk).1
  have k2:AV.deps (T.avs r)≤d:=by rw[T.deps_avs];exact T.deps_le.mpr fun k hk=>(h0 k hk).2
  unfold rowA at ih ⊢
  rw[List.map_cons]
  exact⟨by rw[AV.keys_2,AV.key_3,k1,ih.1];rfl,by rw[AV.deps_2,AV.dep_1];lia⟩
theorem T.neNil{l:Expr}{p2 p3:Pos}{a:Addr}{L:List AV}(he:EvP G ℓ sc m own l (.ref a))(ha:own a=some (.list L))(hk:AV.keys L=true)(hd:AV.deps L≤60)(hl:ℓ≤1000)(hm:autoParam (behindInMarks .NotEq (.List [] p2)=false) sU) :
  TsP G ℓ sc m own (.Compare l [.NotEq] [.List [] p2] p3) (!decide (L=[])):=by
 refine Tst.cmp (he.to (Ev.list (Evs.nil ⟨Nat.zero_le _,fun d hd'=>?_⟩))) hm
 exact Op.neL (y:=[]) (sub.upd hd' _ _ ha) (upd_self _ _ _) hk rfl hd (Nat.zero_le _) hl (iEAA _ rfl rfl (sub.upd hd'))
def HSh(G:GC)(A:HA)(C:HCA)(h:HD)(f:Nat):Prop:=∀(t:T)(a b s:Nat)(ℓ:Nat)(own:Own)(cd:CD),CSt own A C h cd→Nt h.N t a→b<h.N.length→t.dep≤f→t.size≤5→1≤s→s≤5→ℓ+(8*f+20)≤900→
 Cal G ℓ own (.ref 283) [.ref C.x,.int (a:Int),.int (b:Int),.int (s:Int)] (Pst A C h own cd T.avs (Sh h.N a b s))
theorem rs_len(s l:Nat):((s:Int)-((l+1:Nat):Int)+2-1).toNat=s-l:=by
 rw[show(s:Int)-((l+1:Nat):Int)+2-1=(s:Int)-(l:Int) by lia];exact Int.toNat_sub s l
theorem spread_ok{f:Nat}(HS:HSh G A C h f):∀(is js:List Nat)(ks:List T)(s:Nat)(ℓ:Nat)(own:Own)(cd:CD),CSt own A C h cd→Nts h.N ks is→js.length=is.length→(∀ j∈js,j<h.N.length)→is∈sufs h.N→js∈sufs h.N→T.sizes ks≤4→is.length≤3→s≤4→(∀ k∈ks,k.dep≤f)→ℓ+(8*f+21+is.length)≤900→
  Cal G ℓ own (.ref 288) [.ref C.x,.tup (nL is),.tup (nL js),.int (s:Int)] (Pst A C h own cd rowA (Sp h.N is js s))
 |[],js,ks,s,ℓ,own,cd,H,hks,hj,hjl,hi1,hi2,hz,h3,hs,hd,hl=>by
  have ej:=List.length_eq_zero_iff.mp hj
  subst ej
  refine Cal.fn (def_HC_spread _) rfl (by lia) ?_
  conv in (fnBody _)=>whnf
  refine S.ifT (T.cmp (P.lenT (vs:=[]) P.lo (Nat.zero_le _)) P.i (Op.eqI (VXb (by decide)))) ?_
  have fin:∀(R:List (List T)) (c:Addr),Sp h.N [] [] s R→own c=Option.none→Pst A C h own cd rowA (Sp h.N [] [] s) (.ref c) (upd own c (.list (rowA R))):=fun R c hR hc=>(iEEEEAAAA _ _ c R rfl (H.new hc) (List.mem_append_right _ (List.mem_singleton.mpr rfl)) hR (sub.refl _))
  cases s with
  |zero=>exact Exs.cons (Ex.ret (Ev.ifexp (Tst.to (t:=true) (T.cmp P.lo P.i (Op.eqI (VXb (by decide)))) (by rw[if_pos rfl];exact Ev.list (Evs.cons (Ev.to (P.tup P.nil) (Evs.nil ⟨by rw[sizeLine_eq];simp,fun c hc=>fin [[]] c ⟨fun ps=>⟨fun e=>⟨e,by rw[List.mem_singleton.mp e,T.sizes_1]⟩,fun e=>e.1⟩,Nat.le_refl _⟩ hc⟩)))))))
  |succ s=>exact Exs.cons (Ex.ret (Ev.ifexp (Tst.to (t:=false) (T.cmp P.lo P.i (Op.eqI (VXb (by simp;lia)))) (by rw[if_neg (by decide)];exact Ev.list (Evs.nil ⟨by rw[sizeLine_eq];simp,fun c hc=>fin [] c ⟨fun ps=>⟨fun e=>(List.not_mem_nil e).elim,fun e=>by have:=e.2;rw[prods_nil.mp e.1,T.sizes_1] at this;cases this⟩,Nat.zero_le _⟩ hc⟩)))))
 |i::is,[],ks,s,ℓ,own,cd,H,hks,hj,hjl,hi1,hi2,hz,h3,hs,hd,hl=>by cases hj
 |i::is,j::js,ks,s,ℓ,own,cd,H,hks,hj,hjl,hi1,hi2,hz,h3,hs,hd,hl=>by
  have nl1:(nL (i::is)).length=is.length+1:=nL_len _
  have L3:is.length≤2:=Nat.le_of_succ_le_succ h3
  have ejs:js.length=is.length:=Nat.succ.inj hj
  have tk:=kR_ok (i::is) (j::js) s
  refine uEEAA hks.uncons ?_;rintro t tl rfl hti htl
  rw[T.sizes_2] at hz
  refine Cal.fn (def_HC_spread _) rfl (by rw[List.length_cons] at hl;lia) ?_
  rw[List.length_cons] at hl
  conv in (fnBody _)=>whnf
  refine S.ifF0 (T.cmp (P.lenT (vs:=nL (i::is)) P.lo (by lia)) P.i (Op.eqI (VXb (by rw[nl1];simp;lia)))) ?_
  refine S.set (v:=kR (i::is) (j::js) s) (P.tup (P.cons P.lo (P.two P.lo P.lo))) ?_
  have last:∀(m':MM)(o':Own)(cd':CD),m' "self"=some (.ref C.x)→m' "key"=some (kR (i::is) (j::js) s)→Gc A C h own o' cd cd'→(aAt cd'.RE (kR (i::is) (j::js) s)).isSome=true→∀(p1 p2 p3 p4 p5:Pos),Exs G (ℓ+1) sc_HC_spread m' o' [.Return (some (.Subscript (.Attribute (.Name "self" p1) "rows" p2) (.Name "key" p3) p4)) p5] (ends (Pst A C h own cd rowA (Sp h.N (i::is) (j::js) s)) own):=by
   intro m' o' cd' k1 k2 g k3 p1 p2 p3 p4 p5
   obtain⟨v,hv⟩:=Option.isSome_iff_exists.mp k3
   refine uEEEEEAAA (g.ok.rok _ (aAt_mem hv)) fun is' js' s' c R e1 V e3 e4=>?_
   injection e1 with e1 e2
   refine uAA (kR_inj e1) fun r1 r2 r3=>?_
   subst r1 r2 r3 e2
   exact S.ret (P.item (P.crw g.ok (P.lo (hm:=k1))) (P.lo (hm:=k2)) (Sb.dT (by lia) (g.ok.st.get (i:=3) rfl) tk hv rf)) (iEEEEAAAA _ _ c R rfl g e3 e4 (sub.refl _))
  cases hm:(aAt cd.RE (kR (i::is) (j::js) s)).isSome with
  |true=>exact S.ifF0 (T.cmp P.lo (P.crw H P.lo) (Op.notIn (Op.inT (by lia) (H.st.get (i:=3) rfl) tk (iEA _ rfl (VXb (congrArg not hm)))))) (last _ _ cd rfl rfl (Gc.refl H) hm _ _ _ _ _)
  |false=>
   refine S.ifT (T.cmp P.lo (P.crw H P.lo) (Op.notIn (Op.inT (by lia) (H.st.get (i:=3) rfl) tk (iEA _ rfl (VXb (congrArg not hm)))))) (Exs.cons (Ex.assign (by kernel_rfl) (Ev.list (Evs.nil ⟨by rw[sizeLine_eq];simp,fun fc hfc=>?_⟩))))
   have G1:=(Gc.refl H).up (sub.upd (o:=.list []) hfc)
   have fn1:=H.fresh hfc
   have lt1:=hti.lt
   have lt2:=hjl j List.mem_cons_self
   have cl:=cut_len H.n.kd t i j hti
   have rl:=rcut_len H.n.kd tl is js htl
   have B4:4*((cut h.N i j).length*(4 ^ is.length*(rcut h.N is js).length))≤1024:=by
    have e1:4 ^ is.length≤4 ^ 2:=Nat.pow_le_pow_right (by decide) L3
    have e2:2 ^ t.size*2 ^ T.sizes tl≤2 ^ 4:=by rw[← Nat.pow_add];exact Nat.pow_le_pow_right (by decide) hz
    have e3:=Nat.mul_le_mul e1 (Nat.le_trans (Nat.mul_le_mul cl rl) e2)
    rw[Nat.mul_left_comm (cut h.N i j).length];exact Nat.mul_le_mul_left 4 e3
   generalize hc:(cut h.N i j).length=c at cl B4
   generalize hB:4 ^ is.length*(rcut h.N is js).length=B at B4
   refine Exs.cons (Ex.for_ (Ev.k k_range ((P.two P.i (P.bin (P.bin P.lo (P.lenT (vs:=nL (i::is)) P.lo (by lia)) (Op.sub rf)) P.i (Op.add rf))).to (Cal.range2 (by unfold smallInt;decide) (by rw[nl1];unfold smallInt;lia) fun r hr=>ItT.rng (upd_self _ _ _)
    ⟨fun n m' o'=>m'=mset (mset (argM ["self","some","others","size"] [.ref C.x,.tup (nL (i::is)),.tup (nL (j::js)),.int (s:Int)] m0) "key" (kR (i::is) (j::js) s)) "found" (.ref fc)∧∃ cd' F,Gc A C h own o' cd cd'∧o' fc=some (.list (rowA F))∧fc∉(cfx A C h cd').map (·.1)∧
     (∀ ps,ps∈F↔ps∈rcut h.N (i::is) (j::js)∧T.sizes ps=s∧∃ p r,ps=p::r∧p.size<n+1)∧F.length≤n*(c*B),?_,fun V V V V=>trivial,?_,?_⟩))))
   ·refine(iAEEAAAA rfl cd [] (G1.up (sub.upd hr)) ((sub.upd hr) _ _ (upd_self _ _ _)) fn1 (fun ps=>⟨fun e=>(List.not_mem_nil e).elim,fun q14164=>uAAEEA q14164 fun V V p r V e=>?_⟩) (Nat.zero_le _))
    have:=p.size_pos;lia
   ·intro J' K' hJ hK;rintro n d m' o' hd' hh;refine uAEEAAAA hh ?_;clear hh;rintro rfl cd' F g hF hFn hin hlen
    obtain⟨hn,rfl⟩:=rngL_get hd'
    rw[nl1,rs_len] at hn
    have hn:n+1+is.length≤s:=by rw[Nat.succ_add];exact Nat.lt_sub_iff_add_lt.mp hn
    have hns:n+1≤s:=Nat.le_trans (Nat.le_add_right _ _) hn
    have e1:(1+(n:Int))=((n+1:Nat):Int):=Int.add_comm _ _
    rw[e1]
    have e2:(s:Int)-((n+1:Nat):Int)=((s-(n+1):Nat):Int):=(Int.ofNat_sub hns).symm
    refine⟨_,.name (by kernel_rfl),?_⟩
    have hsh:1≤n+1∧n+1≤5:=⟨Nat.succ_pos n,Nat.le_trans hns (Nat.le_trans hs (by decide))⟩
    have H':=g.ok
    refine Exs.cons (Ex.assign (by kernel_rfl) (Ev.imeth (Ev.to P.lo (iEEEEEAAAAAAAA _ _ _ _ _ rfl H'.cx H'.cdd (by kernel_rfl) (cls_HC _) ((me_HC_spread _).1) ((me_HC_spread _).2.1) ((me_HC_spread _).2.2) ((P.cons (P.t1 (a:=.int (i:Int)) (vs:=nL is) P.lo (by rw[nL_len];lia)) (P.two (P.t1 (a:=.int (j:Int)) (vs:=nL js) P.lo (by rw[nL_len];lia)) (P.bin P.lo P.lo (Op.sub (by rw[e2];exact rf))))).to
     ((spread_ok HS is js tl (s-(n+1)) _ _ cd' H' htl ejs (fun j hj=>hjl j (List.mem_cons_of_mem _ hj)) (sufs_tail H.n.ops hi1) (sufs_tail H.n.ops hi2) (Nat.le_trans (Nat.le_add_left _ _) hz) (Nat.le_succ_of_le L3) (Nat.le_trans (Nat.sub_le _ _) hs) (fun k hk=>hd k (List.mem_cons_of_mem _ hk)) (la1 hl (Nat.le_refl _))).pst fun o3 cd3 lc Rl g3 hlc hRl=>?_))))))
    obtain⟨hF3,hFn3⟩:=g3.apart hF hFn
    have rk:AV.keys (rowA Rl)=true∧AV.deps (rowA Rl)≤60:=by
     have:=rowA_keys (d:=T.sizes tl) Rl fun r hr k hk=>by
      have:=(rcut_ok H.n tl is js htl (fun j hj=>hjl j (List.mem_cons_of_mem _ hj)) r ((hRl.1 r).mp hr).1).1 k hk
      exact⟨this.1,Nat.le_trans this.2 (T.deps_sizes tl)⟩
     exact⟨this.1,Nat.le_trans this.2 (Nat.le_trans (Nat.succ_le_succ (Nat.le_trans (Nat.le_add_left _ _) hz)) (by decide))⟩
    refine Exs.cons (Ex.if_ (Tst.to (t:=!decide (rowA Rl=[])) (T.neNil P.lo (g3.ok.mem hlc) rk.1 rk.2 (by lia)) ?_))
    have hfin:∀(F':List (List T)),(∀ ps,ps∈F'↔ps∈F∨∃ p r,ps=p::r∧p∈cut h.N i j∧p.size=n+1∧r∈Rl)→∀ ps,ps∈F'↔ps∈rcut h.N (i::is) (j::js)∧T.sizes ps=s∧∃ p r,ps=p::r∧p.size<n+1+1:=by
     intro F' hF' ps
     rw[hF',hin]
     constructor
     ·rintro(⟨h1,h2,p,r,h3,h4⟩|⟨p,r,rfl,h1,h2,h3⟩)
      ·exact(iAAEEA h1 h2 p r h3 (Nat.lt_succ_of_lt h4))
      ·have h4:=(hRl.1 r).mp h3
       exact(iAAEEA (prods_cons.mpr (iEEAA p r rfl h1 h4.1)) (by rw[T.sizes_2,h2,h4.2];exact Nat.add_sub_cancel' hns) p r rfl (Nat.lt_succ_of_le (Nat.le_of_eq h2)))
     ·intro hh;refine uAAEEA hh ?_;clear hh;rintro h1 h2 p r rfl h4
      by_cases h5:p.size<n+1
      ·exact .inl (iAAEEA h1 h2 p r rfl h5)
      ·refine uEEAA (prods_cons.mp h1) fun p' r' e h6 h7=>?_
       injection e with e3 e4
       subst e3 e4
       rw[T.sizes_2] at h2
       have h8:p.size=n+1:=Nat.le_antisymm (Nat.le_of_lt_succ h4) (Nat.le_of_not_lt h5)
       exact .inr (iEEAAA p r rfl h6 h8 ((hRl.1 r).mpr ⟨h7,by rw[← h2,h8];exact(Nat.add_sub_cancel_left ..).symm⟩))
    by_cases hRn:Rl=[]
    ·rw[if_neg (by rw[hRn];simp[rowA])]
     refine Exs.nil (Exs.nil ⟨_,o3,fun x v hx=>mset_mono rfl x v (mset_mono rfl x v hx),sub.refl _,hJ _ _ _ (iAEEAAAA rfl cd3 F (g.trans g3) hF3 hFn3 (hfin F fun ps=>⟨.inl,fun e=>e.elim id fun q17349=>uEEAAA q17349 fun p r V V V h=>by rw[hRn] at h;simp at h⟩) ?_)⟩)
     exact Nat.le_trans hlen (Nat.mul_le_mul_right _ (Nat.le_succ n))
    ·rw[if_pos (by rw[decide_eq_false (by unfold rowA;simpa using hRn)];rfl)]
     have S5:T.size t≤5:=Nat.le_trans (Nat.le_add_right _ _) (Nat.le_succ_of_le hz)
     refine Exs.cons (Ex.for_ (Ev.imeth (Ev.to P.lo (iEEEEEAAAAAAAA _ _ _ _ _ rfl g3.ok.cx g3.ok.cdd (by kernel_rfl) (cls_HC _) ((me_HC_shared _).1) ((me_HC_shared _).2.1) ((me_HC_shared _).2.2) ((P.cons (P.i0 (v:=.int (i:Int)) (vs:=nL is) P.lo) (P.two (P.i0 (v:=.int (j:Int)) (vs:=nL js) P.lo) P.lo)).to
      ((HS t i j (n+1) _ _ cd3 g3.ok hti lt2 (hd t List.mem_cons_self) S5 hsh.1 hsh.2 (la1 hl (Nat.le_add_right _ _))).pst fun o4 cd4 sc Ts g4 hsc hTs=>?_))))))
     obtain⟨hF4,hFn4⟩:=g4.apart hF3 hFn3
     have hsf:sc≠fc:=fun e=>hFn4 (List.mem_map.mpr (iEA _ (List.mem_cons_of_mem _ (List.mem_cons_of_mem _ (List.mem_cons_of_mem _ (List.mem_cons_of_mem _ (List.mem_append_right _ hsc))))) e))
     have hlf:lc≠fc:=fun e=>hFn3 (List.mem_map.mpr (iEA _ (List.mem_cons_of_mem _ (List.mem_cons_of_mem _ (List.mem_cons_of_mem _ (List.mem_cons_of_mem _ (List.mem_append_right _ hlc))))) e))
     have tc:Ts.length≤c:=by
      rw[← hc];exact nodup_len hTs.1 fun p hp=>((hTs.2 p).mp hp).1
     have rb:Rl.length≤B:=by rw[← hB];exact hRl.2
     have flen:∀ q,q≤Ts.length→(F++(Ts.take q).flatMap fun p=>Rl.map (p::·)).length≤(n+1)*(c*B):=fun q hq=>by
      have g1:=flat_len (fun p:T=>Rl.map (p::·)) B (Ts.take q) fun p V=>by rw[List.length_map];exact rb
      rw[List.length_take,Nat.min_eq_left hq] at g1
      rw[List.length_append,Nat.succ_mul];exact Nat.add_le_add hlen (Nat.le_trans g1 (Nat.mul_le_mul_right B (Nat.le_trans hq tc)))
     have fmax:(n+1)*(c*B)≤1024:=Nat.le_trans (Nat.mul_le_mul_right _ (Nat.le_trans hns hs)) B4
     refine ItT.list (g4.ok.mem hsc) ⟨fun q m' o'=>m'=mset (mset (mset (mset (argM ["self","some","others","size"] [.ref C.x,.tup (nL (i::is)),.tup (nL (j::js)),.int (s:Int)] m0) "key" (kR (i::is) (j::js) s)) "found" (.ref fc)) "first" (.int ((n+1:Nat):Int))) "late" (.ref lc)∧
      o'=upd o4 fc (.list (rowA (F++(Ts.take q).flatMap fun p=>Rl.map (p::·)))),⟨rfl,?_⟩,?_,?_,?_⟩
     ·rw[List.take_zero,List.flatMap_nil,List.append_nil];exact(upd_same hF4).symm
     ·rintro q m' o' ⟨rfl,rfl⟩
      rw[upd_ne _ _ hsf];exact g4.ok.mem hsc
     ·intro J' K' hJ hK;rintro q d m' o' hdq ⟨rfl,rfl⟩
      rw[T.avs_eq,List.getElem?_map] at hdq
      refine uEA (Option.map_eq_some_iff.mp hdq) ?_;rintro p hp rfl
      have hq:=(List.getElem?_eq_some_iff.mp hp).1
      have l1:=flen q (Nat.le_of_lt hq)
      have l2:=flen (q+1) hq
      have e3:(Ts.take (q+1)).flatMap (fun p=>Rl.map (p::·))=(Ts.take q).flatMap (fun p=>Rl.map (p::·))++Rl.map (p::·):=by
       rw[List.take_add_one,hp,Option.toList_some,List.flatMap_append,List.flatMap_cons,List.flatMap_nil,List.append_nil]
      rw[e3,← List.append_assoc] at l2
      generalize hF1:F++(Ts.take q).flatMap (fun p=>Rl.map (p::·))=F1 at l1 l2 ⊢
      have H5:=g4.ok.oth (z:=.list (rowA F1)) hFn4
      have hlc5:upd o4 fc (.list (rowA F1)) lc=some (.list (rowA Rl)):=by rw[upd_ne _ _ hlf];exact g4.ok.mem (g4.mem _ hlc)
      have rA:rowA (F1++Rl.map (p::·))=rowA F1++rowA (Rl.map (p::·)):=List.map_append
      have lR:(rowA Rl).length≤1024:=by rw[rowA_len];rw[List.length_append,List.length_map] at l2;exact Nat.le_trans (Nat.le_add_left _ _) (Nat.le_trans l2 fmax)
      refine⟨_,.name (by kernel_rfl),Exs.cons (Ex.expr (Ev.meth mf_extend (Ev.to (v:=.ref fc) P.lo ⟨.inl (iAE rfl _ (upd_self _ _ _)),Evs.cons (P.comp P.lo (Wk.list hlc5) (F:=consA p.av) (fun e he=>?_) (fun a ha=>Evs.nil (Cal.extend (l:=rowA F1) (k:=rowA (Rl.map (p::·))) ?_ ?_ ?_ ⟨rfl,?_⟩)) (by lia))⟩)))⟩
      ·refine uEA (List.mem_map.mp he) ?_;rintro r hr rfl
       have rs:(T.avs r).length≤900:=by
        rw[T.avs_len,rcut_length ejs ((hRl.1 r).mp hr).1];exact Nat.le_trans L3 (by decide)
       exact(iEA _ (.name rfl) (P.bin (P.tup (P.one P.fr)) P.lo (Op.addT (by simp) (fitsL rs (Nat.succ_le_succ (Nat.zero_le _))) rf)))
      ·rw[upd_ne];exact upd_self _ _ _
       rintro rfl;rw[upd_self] at ha;cases ha
      ·rw[upd_self,consA_map]
      ·rw[rowA_len,rowA_len,sizeLine_eq,← List.length_append];exact Nat.le_trans l2 (Nat.le_trans fmax (by decide))
      ·have sb:=subh2 (own:=o4) (h:=fc) (x:=.list (rowA F1)) (a:=a) (y:=.list ((rowA Rl).map (consA p.av))) (z:=.list (rowA F1++rowA (Rl.map (p::·)))) ha
       have H6:=(g4.ok.oth (z:=.list (rowA F1++rowA (Rl.map (p::·)))) hFn4).less sb
       refine Exs.cons (Ex.expr (Ev.to (P.imeth (v:=.none) P.lo H6.cx H6.cdd (cls_HC _) (me_HC_limited _) (P.one P.lo) (limited_okL (upd_self _ _ _) ?_ (by lia))) ⟨rfl,Exs.nil ⟨_,_,fun x v hx=>mset_mono rfl x v hx,sb,hJ _ _ _ ⟨rfl,by rw[e3,← List.append_assoc,hF1,rA]⟩⟩⟩))
       rw[← rA,rowA_len];exact Nat.le_trans l2 (Nat.le_trans fmax (by decide))
     ·rintro m' o' ⟨rfl,rfl⟩
      rw[T.avs_len,List.take_length]
      refine Exs.nil (Exs.nil ⟨_,_,fun x v hx=>mset_mono rfl x v (mset_mono rfl x v hx),sub.refl _,hJ _ _ _ (iAEEAAAA rfl cd4 _ ?_ (upd_self _ _ _) hFn4 (hfin _ fun ps=>?_) ?_)⟩)
      ·exact(g.trans (g3.trans g4)).oth hfc hFn4
      ·rw[List.mem_append,List.mem_flatMap]
       refine or_congr_right ⟨?_,?_⟩
       ·intro hh;refine uEA hh ?_;clear hh;rintro p hp h
        refine uEA (List.mem_map.mp h) ?_;rintro r hr rfl
        exact(iEEAAA p r rfl (((hTs.2 p).mp hp).1) (((hTs.2 p).mp hp).2) hr)
       ·intro hh;refine uEEAAA hh ?_;clear hh;rintro p r rfl h1 h2 h3
        exact(iEA p ((hTs.2 p).mpr ⟨h1,h2⟩) (List.mem_map_of_mem h3))
      ·have:=flen _ (Nat.le_refl _)
       rwa[List.take_length] at this
   ·rintro m' o' hh;refine uAEEAAAA hh ?_;clear hh;rintro rfl cd' F g hF hFn hin hlen
    rw[rngL_length,nl1] at hin hlen
    rw[rs_len] at hin hlen
    have hS:Sp h.N (i::is) (j::js) s F:=by
     refine⟨fun ps=>⟨fun e=>⟨((hin ps).mp e).1,((hin ps).mp e).2.1⟩,fun e=>(hin ps).mpr (iAA e.1 e.2 ?_)⟩,?_⟩
     ·refine uEEAA (prods_cons.mp e.1) ?_;rintro p r rfl h1 h2
      have q:is.length≤T.sizes r:=rcut_length ejs h2▸T.sizes_len r
      have:=e.2
      rw[T.sizes_2] at this
      exact(iEEA p r rfl (Nat.lt_succ_of_le (Nat.le_sub_of_add_le (this▸Nat.add_le_add_left q _))))
     ·rw[rcut_cons,List.length_cons]
      have fl:((cut h.N i j).flatMap fun p=>(rcut h.N is js).map (p::·)).length=c*(rcut h.N is js).length:=by
       rw[← hc]
       induction cut h.N i j with
       |nil=>simp
       |cons a l ih=>rw[List.flatMap_cons,List.length_append,ih,List.length_map,List.length_cons,Nat.succ_mul,Nat.add_comm]
      rw[fl]
      refine Nat.le_trans hlen (Nat.le_trans (Nat.mul_le_mul_right _ (Nat.le_trans (Nat.sub_le _ _) hs)) ?_)
      rw[← hB,Nat.pow_succ,Nat.mul_left_comm c,← Nat.mul_assoc,Nat.mul_comm 4]
      exact Nat.le_refl _
    have g2:=g.adopt hfc hF hFn
    have g3:=g2.ok.rput (is:=i::is) (js:=j::js) (s:=s) (c:=fc) (R:=F) (List.mem_append_right _ (List.mem_singleton.mpr rfl)) (allR_mem hi1 hi2 (by lia)) hS
    refine Exs.cons (Ex.setitem (Ev.to P.lo (Ev.to (P.crw g2.ok P.lo) (Ev.to P.lo (St3.dT (by lia) (g2.ok.st.get (i:=3) rfl) tk (by rw[sizeLine_eq];exact Nat.le_trans g2.ok.rlen (by decide)) ?_)))))
    exact Exs.nil (last _ _ _ (by rfl) (by rfl) (g2.trans g3) (aAt_key.mpr (aPut_kmem.mpr (.inr rfl))) _ _ _ _ _)
end
mutual
theorem T.cmp_av:∀ a b:T,cmpOk a.av b.av=true
 |.mk o ks,.mk p ls=>by
  rw[T.av_1,T.av_1,cmpOk_t,cmpOks_c]
  split
  ·exact T.cmp_avs ks ls
  ·rfl
theorem T.cmp_avs:∀ l k:List T,cmpOks (T.avs l) (T.avs k)=true
 |[],k=>by rw[T.avs_1];rfl
 |a::l,[]=>by rw[T.avs_2,T.avs_1];rfl
 |a::l,b::k=>by
  rw[T.avs_2,T.avs_2,cmpOks_c]
  split
  ·exact T.cmp_avs l k
  ·exact T.cmp_av a b
end
open Classical in
noncomputable def invT(a:AV):T:=if h:∃ t,a=T.av t then h.choose else dft
theorem invT_av(t:T):invT t.av=t:=by
 unfold invT
 have h:∃ s,t.av=T.av s:=⟨t,rfl⟩
 rw[dif_pos h];exact(T.av_inj h.choose_spec).symm
theorem avs_perm{L:List AV}{Ts:List T}(h:L.Perm (T.avs Ts)):∃ Ts',L=T.avs Ts'∧Ts'.Perm Ts:=by
 have e:(T.avs Ts).map invT=Ts:=by
  rw[T.avs_eq,List.map_map]
  exact(List.map_congr_left fun t V=>invT_av t).trans (List.map_id _)
 refine(iEA (L.map invT) ?_ (by have:=h.map invT;rwa[e] at this))
 rw[T.avs_eq,List.map_map]
 refine((List.map_congr_left fun a ha=>?_).trans (List.map_id _)).symm
 refine uEA (avs_mem (h.mem_iff.mp ha)) ?_;rintro t _ rfl
 show T.av (invT t.av)=t.av;rw[invT_av]
theorem SortOk.terms{Ts:List T}(h:∀ t∈Ts,t.ok=true∧t.dep≤8):SortOk (T.avs Ts):=by
 refine⟨fun k hk=>?_,fun x hx y hy=>?_,.inr (.inl fun k hk=>?_)⟩
 ·refine uEA (avs_mem hk) ?_;rintro t ht rfl
  exact⟨T.key_av t (h t ht).1,by rw[T.dep_av];exact(h t ht).2⟩
 ·refine uEA (avs_mem hx) ?_;rintro t _ rfl
  refine uEA (avs_mem hy) ?_;rintro s _ rfl
  exact T.cmp_av t s
 ·refine uEA (avs_mem hk) ?_;rintro⟨o,ks⟩ _ rfl
  exact(iEE o _ (by rw[T.av_1]))
noncomputable def eT(Ts:List T):List (AV × AV):=Ts.map fun t=>(t.av,.bool true)
theorem eT_keys(Ts:List T):(eT Ts).map (·.1)=T.avs Ts:=by unfold eT;rw[List.map_map,T.avs_eq];rfl
theorem eT_put(Ts:List T)(t:T):aPut (eT Ts) t.av (.bool true)=eT (gadd Ts t):=by
 have k:(aAt (eT Ts) t.av).isSome=true↔t∈Ts:=by
  rw[aAt_key,eT_keys,T.avs_eq,List.mem_map]
  exact⟨fun q2546=>uEA q2546 fun s h1 h2=>T.av_inj h2▸h1,fun h=>(iEA t h rfl)⟩
 unfold aPut gadd
 by_cases h:t∈Ts
 ·rw[if_pos (k.mpr h),if_pos h]
  unfold eT
  rw[List.map_map]
  refine List.map_congr_left fun s V=>?_
  dsimp only[Function.comp]
  split<;>rfl
 ·rw[if_neg fun q=>h (k.mp q),if_neg h]
  unfold eT
  rw[List.map_append];rfl
set_option tactic.hygienic true in
theorem gadd_mem{Ts:List T}{t p:T}:p∈gadd Ts t↔p∈Ts∨p=t:=by
 unfold gadd
 split
 ·next h=>exact⟨.inl,fun q=>q.elim id fun e=>e▸h⟩
 ·rw[List.mem_append,List.mem_singleton]
set_option tactic.hygienic true in
theorem gadd_nodup{Ts:List T}{t:T}(hn:Ts.Nodup):(gadd Ts t).Nodup:=by
 unfold gadd
 split
 ·exact hn
 ·next h=>exact List.nodup_append.mpr (iAA hn (by simp) (fun x hx y hy e=>h (by rw[← List.mem_singleton.mp hy,← e];exact hx)))
section
variable{G:GC}{ℓ:Nat}{sc:Names}{m:MM}{own:Own}{A:HA}{C:HCA}{h:HD}{cd:CD}{pos:Pos}{o:Expr}
theorem kK_ok(a b s:Nat):tkOk (kK a b s):=by
 unfold kK
 exact⟨by simp[AV.key_1,AV.key_2,AV.key_3,AV.keys_1,AV.keys_2],by simp[AV.dep_1,AV.dep_2,AV.dep_3,AV.deps_1,AV.deps_2]⟩
theorem allK_mem{a b s:Nat}(ha:a<12)(hb:b<12)(hs:s<6):kK a b s∈allK:=
 List.mem_flatMap.mpr (iEA a (List.mem_range.mpr ha) (List.mem_flatMap.mpr (iEA b (List.mem_range.mpr hb) (List.mem_map.mpr (iEA s (List.mem_range.mpr hs) rfl)))))
theorem pv_f(a b:Nat):Str.empty++Str.ofString "?"++ntx a++Str.ofString "/"++ntx b=pv a b:=by
 have:Str.empty++Str.ofString "?"=qm:=by decide +kernel
 rw[this];rfl
theorem P.pvar{e1 e2:Expr}{k1 k2:Nat}{q1 q2 q3 q4 pos:Pos}{a b:Nat}(h1:EvP G ℓ sc m own e1 (.int (a:Int)))(h2:EvP G ℓ sc m own e2 (.int (b:Int)))(ha:a<100)(hb:b<100) :
  EvP G ℓ sc m own (.JoinedStr [.Constant (.str "?") k1 q1,.FormattedValue e1 (-1) Option.none q2,.Constant (.str "/") k2 q3,.FormattedValue e2 (-1) Option.none q4] pos) (.str (pv a b)):=by
 have n1:=ntx_len4 (i:=a) (by lia)
 have n2:=ntx_len4 (i:=b) (by lia)
 have l1:(Str.empty++Str.ofString "?").length=1:=by decide +kernel
 have l2:(Str.ofString "/").length=1:=by decide +kernel
 have z:=sizeLine_eq
 refine Ev.fstr (Jo.str (by rw[l1,z];decide) (Jo.int (h1.to (iEAAA _ rfl (log_small (by lia)) ?_ (Jo.str ?_ (Jo.int (h2.to (iEAAA _ rfl (log_small (by lia)) ?_ (Jo.nil (iAA ?_ ?_ (sub.refl _)))))))))))
 ·rw[ntx_eq,Str.length_append,l1];lia
 ·rw[ntx_eq,Str.length_append,Str.length_append,l1,l2];lia
 ·rw[ntx_eq,ntx_eq,Str.length_append,Str.length_append,Str.length_append,l1,l2];lia
 ·rw[ntx_eq,ntx_eq,Str.length_append,Str.length_append,Str.length_append,l1,l2];lia
 ·rw[ntx_eq,ntx_eq,pv_f]
def opP(N:List Nd)(a b s:Nat)(p:T):Prop:=((nd N a).1=(nd N b).1∧(nd N a).2.length=(nd N b).2.length)∧∃ ps,p=.mk (nd N a).1 ps∧ps∈rcut N (nd N a).2 (nd N b).2∧T.sizes ps=s-1
theorem cut_split{N:List Nd}(hK:Kd N){a b s:Nat}(ha:a<N.length)(hs:1≤s)(p:T):(p∈cut N a b∧p.size=s)↔(p=.mk (pv a b) []∧s=1)∨opP N a b s p:=by
 rw[cut_mem hK ha]
 constructor
 ·rintro⟨rfl|⟨c,ps,rfl,h1⟩,h2⟩
  ·rw[T.size_1,T.sizes_1] at h2;exact .inl ⟨rfl,by lia⟩
  ·rw[T.size_1] at h2;exact .inr (iAEAA c ps rfl h1 (by lia))
 ·rintro(⟨rfl,rfl⟩|⟨c,ps,rfl,h1,h2⟩)
  ·exact⟨.inl rfl,by rw[T.size_1,T.sizes_1]⟩
  ·exact⟨.inr (iAEA c ps rfl h1),by rw[T.size_1];lia⟩
theorem sufs_self{N:List Nd}{a:Nat}(ha:a<N.length):(nd N a).2∈sufs N:=
 List.mem_flatMap.mpr (iEA (nd N a) (List.mem_of_getElem? (nd_at ha)) (List.mem_map.mpr (iEA 0 (by simp) rfl)))
def Fnd(A:HA)(C:HCA)(h:HD)(own:Own)(fc:Addr)(cd:CD)(a b s:Nat)(M:List (Addr × AObj))(q:T→Prop)(o':Own):Prop:=
 ∃ cd' Ts,Gc A C h own o' cd cd'∧o' fc=some (.dT (eT Ts))∧fc∉(cfx A C h cd').map (·.1)∧Ts.Nodup∧(∀ e∈M,e∈cd'.mem)∧∀ p,p∈Ts↔(p=.mk (pv a b) []∧s=1)∨q p
theorem shared_step{f:Nat}(HS:HSh G A C h f):HSh G A C h (f+1)
 |.mk op ks,a,b,s,ℓ,own,cd,H,.mk hx hkl hkt,hb,hd,hz,hs1,hs5,hl=>by
  have ha:=(List.getElem?_eq_some_iff.mp hx).1
  have hNt:Nt h.N (.mk op ks) a:=.mk hx hkl hkt
  have few:=H.n.few
  have ex:=nd_eq hx
  have tk:=kK_ok a b s
  rw[T.size_1] at hz
  rw[T.dep_1] at hd
  refine Cal.fn (def_HC_shared _) rfl (by lia) ?_
  conv in (fnBody _)=>whnf
  refine S.set (v:=kK a b s) (P.tup (P.cons P.lo (P.two P.lo P.lo))) ?_
  have last:∀(m':MM)(o':Own)(cd':CD),m' "self"=some (.ref C.x)→m' "key"=some (kK a b s)→Gc A C h own o' cd cd'→(aAt cd'.KE (kK a b s)).isSome=true→∀(p1 p2 p3 p4 p5:Pos),Exs G (ℓ+1) sc_HC_shared m' o' [.Return (some (.Subscript (.Attribute (.Name "self" p1) "known" p2) (.Name "key" p3) p4)) p5] (ends (Pst A C h own cd T.avs (Sh h.N a b s)) own):=by
   intro m' o' cd' k1 k2 g k3 p1 p2 p3 p4 p5
   obtain⟨v,hv⟩:=Option.isSome_iff_exists.mp k3
   refine uEEEEEAAA (g.ok.kok _ (aAt_mem hv)) fun a' b' s' c Ts e1 V e3 e4=>?_
   injection e1 with e1 e2
   refine uAA (kK_inj e1) fun r1 r2 r3=>?_
   subst r1 r2 r3 e2
   exact S.ret (P.item (P.ckn g.ok (P.lo (hm:=k1))) (P.lo (hm:=k2)) (Sb.dT (by lia) (g.ok.st.get (i:=2) rfl) tk hv rf)) (iEEEEAAAA _ _ c Ts rfl g e3 e4 (sub.refl _))
  cases hm:(aAt cd.KE (kK a b s)).isSome with
  |true=>exact S.ifF0 (T.cmp P.lo (P.ckn H P.lo) (Op.notIn (Op.inT (by lia) (H.st.get (i:=2) rfl) tk (iEA _ rfl (VXb (congrArg not hm)))))) (last _ _ cd rfl rfl (Gc.refl H) hm _ _ _ _ _)
  |false=>
   refine S.ifT (T.cmp P.lo (P.ckn H P.lo) (Op.notIn (Op.inT (by lia) (H.st.get (i:=2) rfl) tk (iEA _ rfl (VXb (congrArg not hm)))))) (Exs.cons (Ex.assign (by kernel_rfl) (Ev.conseq (K:=fun v o=>∃ fc T0,v=.ref fc∧own fc=Option.none∧T0.Nodup∧(∀ p,p∈T0↔p=.mk (pv a b) []∧s=1)∧sub (upd own fc (.dT (eT T0))) o) (Ev.ifexp ?_) ?_)))
   ·by_cases s1:s=1
    ·refine Tst.to (t:=true) (T.cmp P.lo P.i (Op.eqI (VXb (by simp;lia)))) ?_
     rw[if_pos rfl]
     refine Ev.dictT1 (by lia) (Ev.to (P.tup (P.one (P.pvar P.lo P.lo (by lia) (by lia)))) (Ev.to P.bo (iEAA _ rfl ?_ (fun fc hfc=>(iEEAAAA fc [.mk (pv a b) []] rfl hfc (by simp) (fun p=>⟨fun e=>⟨List.mem_singleton.mp e,s1⟩,fun e=>List.mem_singleton.mpr e.1⟩) ?_)))))
     ·exact⟨by rw[AV.key_3,AV.keys_2,AV.key_2,(opOk_iff (pv_opOk (a:=a) (b:=b) (by lia) (by lia))).2.2];rfl,by simp[AV.dep_1,AV.dep_2,AV.dep_3,AV.deps_1,AV.deps_2]⟩
     ·simp only[eT,List.map,T.av_1,T.avs_1,T.avs_2];exact sub.refl _
    ·refine Tst.to (t:=false) (T.cmp P.lo P.i (Op.eqI (VXb (by simp;lia)))) ?_
     rw[if_neg (by simp)]
     exact Ev.dict0 (.dT []) (.inr (.inr rfl)) fun fc hfc=>(iEEAAAA fc [] rfl hfc List.nodup_nil (fun p=>⟨fun e=>(List.not_mem_nil e).elim,fun e=>absurd e.2 s1⟩) (sub.refl _))
   ·rintro v o hh;refine uEEAAAA hh ?_;clear hh;rintro fc T0 rfl hfc hn0 hT0 hsub
    refine(iEA _ hsub ?_)
    have G1:=(Gc.refl H).up (sub.upd (o:=.dT (eT T0)) hfc)
    have fn1:=H.fresh hfc
    refine Exs.cons (Ex.for_ (Ev.imeth (Ev.to (P.chp G1.ok P.lo) (iEEEEEAAAAAAAA _ _ _ _ _ rfl G1.ok.hok.h0.hp G1.ok.hok.h0.hd (by kernel_rfl) (cls_Heap _) ((me_Heap_nodes_of _).1) ((me_Heap_nodes_of _).2.1) ((me_Heap_nodes_of _).2.2) ((P.one P.lo).to (nodes_of_ok G1.ok.hok (nd_at ha) (by lia) (by lia) fun c1 hc1=>?_))))))
    have N1:=G1.ok.new (z:=.list [ndA (nd h.N a)]) hc1
    have A1:=N1.apart (upd_self own fc (.dT (eT T0))) fn1
    refine ItT.list (upd_self _ _ _) ⟨fun i m' o'=>m'=mset (mset (argM ["self","a","b","size"] [.ref C.x,.int (a:Int),.int (b:Int),.int (s:Int)] m0) "key" (kK a b s)) "found" (.ref fc)∧Fnd A C h own fc cd a b s [(c1,.list [ndA (nd h.N a)])] (fun p=>0<i∧opP h.N a b s p) o',(iAEEAAAAA rfl _ T0 (G1.trans N1) A1.1 A1.2 hn0 (fun e he=>?_) (fun p=>?_)),?_,?_,?_⟩
    ·rw[List.mem_singleton.mp he];exact List.mem_append_right _ (List.mem_singleton.mpr rfl)
    ·rw[hT0];exact⟨.inl,fun e=>e.elim id fun k=>absurd k.1 (Nat.lt_irrefl 0)⟩
    ·rintro i m' o' hh;refine uAEEAAAAA hh ?_;clear hh;rintro _ cd' Ts g _ _ _ hM _
     exact g.ok.mem (hM _ List.mem_cons_self)
    ·intro J' K' hJ hK;rintro i d m' o' hd' hh;refine uAEEAAAAA hh ?_;clear hh;rintro rfl cd1 T1 g1 hF1 hFn1 hn1 hM1 hT1
     obtain⟨hi,hd'⟩:=List.getElem?_eq_some_iff.mp hd'
     have hi:i=0:=Nat.lt_one_iff.mp hi
     subst hi
     subst hd'
     refine⟨_,.name (by kernel_rfl),Exs.cons (Ex.for_ (Ev.imeth (Ev.to (P.chp g1.ok P.lo) (iEEEEEAAAAAAAA _ _ _ _ _ rfl g1.ok.hok.h0.hp g1.ok.hok.h0.hd (by kernel_rfl) (cls_Heap _) ((me_Heap_nodes_of _).1) ((me_Heap_nodes_of _).2.1) ((me_Heap_nodes_of _).2.2) ((P.one P.lo).to (nodes_of_ok g1.ok.hok (nd_at hb) (by lia) (by lia) fun c2 hc2=>?_))))))⟩
     have N2:=g1.ok.new (z:=.list [ndA (nd h.N b)]) hc2
     have A2:=N2.apart hF1 hFn1
     refine ItT.list (upd_self _ _ _) ⟨fun i m' o'=>m'=mset (mset (mset (argM ["self","a","b","size"] [.ref C.x,.int (a:Int),.int (b:Int),.int (s:Int)] m0) "key" (kK a b s)) "found" (.ref fc)) "node" (ndA (nd h.N a))∧Fnd A C h own fc cd a b s [(c1,.list [ndA (nd h.N a)]),(c2,.list [ndA (nd h.N b)])] (fun p=>0<i∧opP h.N a b s p) o',(iAEEAAAAA rfl _ T1 (g1.trans N2) A2.1 A2.2 hn1 (fun e he=>?_) hT1),?_,?_,?_⟩
     ·rcases List.mem_cons.mp he with rfl|he
      ·exact List.mem_append_left _ (hM1 _ List.mem_cons_self)
      ·rw[List.mem_singleton.mp he];exact List.mem_append_right _ (List.mem_singleton.mpr rfl)
     ·rintro i m' o' hh;refine uAEEAAAAA hh ?_;clear hh;rintro _ cd' Ts g _ _ _ hM _
      exact g.ok.mem (hM _ (List.mem_cons_of_mem _ List.mem_cons_self))
     ·intro J' K' hJ hK;rintro i d m' o' hd' hh;refine uAEEAAAAA hh ?_;clear hh;rintro rfl cd2 T2 g2 hF2 hFn2 hn2 hM2 hT2
      obtain⟨hi,hd'⟩:=List.getElem?_eq_some_iff.mp hd'
      have hi:i=0:=Nat.lt_one_iff.mp hi
      subst hi
      subst hd'
      have ny:=H.n.ops _ (List.mem_of_getElem? (nd_at hb))
      have nx:=H.n.ops _ (List.mem_of_getElem? (nd_at ha))
      have lx:(nL (nd h.N a).2).length≤3:=by rw[nL_len];exact nx.2
      have ly:(nL (nd h.N b).2).length≤3:=by rw[nL_len];exact ny.2
      have hk:∀ y:Nd,y.1∈ops5→∀ z:Int,(AV.tup [.str y.1,.int z]).key=true∧(AV.tup [.str y.1,.int z]).dep≤64:=fun y hy z=>⟨by show(PyData.strOk y.1&&(true&&true))=true;rw[(opOk_iff (ops5_ok hy).1).2.2];rfl,by simp[AV.dep_1,AV.dep_2,AV.dep_3,AV.deps_1,AV.deps_2]⟩
      have kx:=hk _ nx.1 ((AV.str (nd h.N a).1::nL (nd h.N a).2).length:Nat)
      have ky:=hk _ ny.1 ((AV.str (nd h.N b).1::nL (nd h.N b).2).length:Nat)
      refine⟨_,.name (by kernel_rfl),Exs.cons (Ex.if_ (Tst.to (T.cmp (P.tup (P.two (P.i0 (v:=.str (nd h.N a).1) (vs:=nL (nd h.N a).2) P.lo) (P.lenT (vs:=.str (nd h.N a).1::nL (nd h.N a).2) P.lo (by rw[List.length_cons];lia)))) (P.tup (P.two (P.i0 (v:=.str (nd h.N b).1) (vs:=nL (nd h.N b).2) P.lo) (P.lenT (vs:=.str (nd h.N b).1::nL (nd h.N b).2) P.lo (by rw[List.length_cons];lia)))) (Op.eqK kx.1 ky.1 kx.2 ky.2 (by lia) rf)) ?_))⟩
      have hiff:(AV.tup [.str (nd h.N a).1,.int ((AV.str (nd h.N a).1::nL (nd h.N a).2).length:Nat)]=.tup [.str (nd h.N b).1,.int ((AV.str (nd h.N b).1::nL (nd h.N b).2).length:Nat)])↔((nd h.N a).1=(nd h.N b).1∧(nd h.N a).2.length=(nd h.N b).2.length):=by
       rw[List.length_cons,List.length_cons,nL_len,nL_len]
       refine⟨fun e=>?_,fun q14543=>uA q14543 fun e1 e2=>by rw[e1,e2]⟩
       injection e with e
       injection e with e1 e
       injection e with e2 _
       injection e1 with e1
       injection e2 with e2
       exact⟨e1,by lia⟩
      by_cases hh:(nd h.N a).1=(nd h.N b).1∧(nd h.N a).2.length=(nd h.N b).2.length
      ·rw[if_pos (decide_eq_true (hiff.mpr hh))]
       have kk:Nts h.N ks (nd h.N a).2:=by rw[ex];exact⟨hkl,hkt⟩
       have es:(s:Int)-1=((s-1:Nat):Int):=by lia
       have ds:=T.deps_sizes ks
       refine Exs.cons (Ex.for_ (Ev.imeth (Ev.to P.lo (iEEEEEAAAAAAAA _ _ _ _ _ rfl g2.ok.cx g2.ok.cdd (by kernel_rfl) (cls_HC _) ((me_HC_spread _).1) ((me_HC_spread _).2.1) ((me_HC_spread _).2.2) ((P.cons (P.t1 (a:=.str (nd h.N a).1) (vs:=nL (nd h.N a).2) P.lo (by lia)) (P.two (P.t1 (a:=.str (nd h.N b).1) (vs:=nL (nd h.N b).2) P.lo (by lia)) (P.bin P.lo P.i (Op.sub (by rw[es];exact rf))))).to
        ((spread_ok HS (nd h.N a).2 (nd h.N b).2 ks (s-1) _ _ cd2 g2.ok kk hh.2.symm (fun k hk=>H.n.lt hb hk) (sufs_self ha) (sufs_self hb) (by lia) nx.2 (by lia) (fun k hk=>T.deps_le.mp (Nat.le_of_succ_le_succ hd) k hk) (by have:=nx.2;lia)).pst fun o4 cd4 rc Rl g4 hrc hRl=>?_))))))
       obtain⟨hF4,hFn4⟩:=g4.apart hF2 hFn2
       have hrf:rc≠fc:=fun e=>hFn4 (List.mem_map.mpr (iEA _ (List.mem_cons_of_mem _ (List.mem_cons_of_mem _ (List.mem_cons_of_mem _ (List.mem_cons_of_mem _ (List.mem_append_right _ hrc))))) e))
       have inc:∀(q:Nat)(Ts:List T),Ts.Nodup→(∀ p,p∈Ts↔(p=.mk (pv a b) []∧s=1)∨∃ ps∈Rl.take q,p=.mk (nd h.N a).1 ps)→Ts.length≤32∧∀ p∈Ts,tkOk p.av:=fun q Ts hn hT=>by
        have sub:∀ p∈Ts,p∈cut h.N a b:=fun p hp=>by
         refine((cut_split H.n.kd ha hs1 p).mpr (((hT p).mp hp).imp_right ?_)).1
         intro hh;refine uEA hh ?_;clear hh;rintro ps h1 h2
         have h3:=(hRl.1 ps).mp (List.mem_of_mem_take h1)
         exact(iAEAA hh ps h2 h3.1 h3.2)
        refine⟨Nat.le_trans (nodup_len hn sub) (Nat.le_trans (cut_len H.n.kd _ a b hNt) (show 2 ^ _≤2 ^ 5 from Nat.pow_le_pow_right (by decide) (by rw[T.size_1];exact hz))),fun p hp=>?_⟩
        have:=cut_ok H.n _ a b hNt hb p (sub p hp)
        rw[T.dep_1] at this
        exact⟨T.key_av p this.1,by rw[T.dep_av];lia⟩
       refine ItT.list (g4.ok.mem hrc) ⟨fun q m' o'=>m'=mset (mset (mset (mset (argM ["self","a","b","size"] [.ref C.x,.int (a:Int),.int (b:Int),.int (s:Int)] m0) "key" (kK a b s)) "found" (.ref fc)) "node" (ndA (nd h.N a))) "other" (ndA (nd h.N b))∧∃ Ts,o'=upd o4 fc (.dT (eT Ts))∧Ts.Nodup∧∀ p,p∈Ts↔(p=.mk (pv a b) []∧s=1)∨∃ ps∈Rl.take q,p=.mk (nd h.N a).1 ps,(iAEAA rfl T2 ((upd_same hF4).symm) hn2 (fun p=>?_)),?_,?_,?_⟩
       ·rw[hT2,List.take_zero]
        exact or_congr_right ⟨fun e=>absurd e.1 (Nat.lt_irrefl 0),fun q17713=>uEA q17713 fun ps e V=>(List.not_mem_nil e).elim⟩
       ·rintro q m' o' hh;refine uAEA hh ?_;clear hh;rintro _ Ts rfl _
        rw[upd_ne _ _ hrf];exact g4.ok.mem hrc
       ·intro J' K' hJ hK;rintro q d m' o' hdq hh;refine uAEAA hh ?_;clear hh;rintro rfl Ts rfl hnT hT
        refine uEA (Option.map_eq_some_iff.mp ((List.getElem?_map).symm.trans hdq)) ?_;rintro ps hps rfl
        have mps:=(hRl.1 ps).mp (List.mem_of_getElem? hps)
        have pl:(T.avs ps).length≤900:=by rw[T.avs_len,rcut_length hh.2.symm mps.1];exact Nat.le_trans nx.2 (by decide)
        have hT':∀ p,p∈gadd Ts (.mk (nd h.N a).1 ps)↔(p=.mk (pv a b) []∧s=1)∨∃ ps∈Rl.take (q+1),p=.mk (nd h.N a).1 ps:=fun p=>by
         rw[gadd_mem,hT,or_assoc]
         refine or_congr_right ?_
         rw[List.take_add_one,hps,Option.toList_some]
         constructor
         ·rintro(⟨r,h1,h2⟩|e)
          ·exact(iEA r (List.mem_append_left _ h1) h2)
          ·exact(iEA ps (List.mem_append_right _ (List.mem_singleton.mpr rfl)) e)
         ·intro hh;refine uEA hh ?_;clear hh;rintro r h1 h2
          rcases List.mem_append.mp h1 with h1|h1
          ·exact .inl (iEA r h1 h2)
          ·exact .inr (List.mem_singleton.mp h1▸h2)
        have hn':=gadd_nodup (t:=.mk (nd h.N a).1 ps) hnT
        have i1:=inc q Ts hnT hT
        have i2:=inc (q+1) _ hn' hT'
        have tkp:=i2.2 (.mk (nd h.N a).1 ps) (gadd_mem.mpr (.inr rfl))
        have ep:=eT_put Ts (.mk (nd h.N a).1 ps)
        rw[T.av_1] at tkp ep
        refine⟨_,.name (by kernel_rfl),Exs.cons (Ex.setitem (Ev.to P.bo (Ev.to P.lo (Ev.to (P.bin (P.tup (P.one (P.i0 (v:=.str (nd h.N a).1) (vs:=nL (nd h.N a).2) P.lo))) P.lo (Op.addT (x:=[.str (nd h.N a).1]) (y:=T.avs ps) (by simp) (fitsL pl (Nat.succ_le_succ (Nat.zero_le _))) rf)) (St3.dTe (by lia) (upd_self _ _ _) tkp (by unfold eT;rw[List.length_map,sizeLine_eq];lia) ep ?_)))))⟩
        rw[upd_upd]
        have H6:=g4.ok.oth (z:=.dT (eT (gadd Ts (.mk (nd h.N a).1 ps)))) hFn4
        exact Exs.cons (Ex.expr (Ev.to (P.imeth (v:=.none) P.lo H6.cx H6.cdd (cls_HC _) (me_HC_limited _) (P.one P.lo) (limited_ok (upd_self _ _ _) (by unfold eT;rw[List.length_map];lia) (by lia))) ⟨rfl,Exs.nil ⟨_,_,fun x v hx=>mset_mono rfl x v hx,sub.refl _,hJ _ _ _ (iAEAA rfl _ rfl hn' hT')⟩⟩))
       ·rintro m' o' hh;refine uAEAA hh ?_;clear hh;rintro rfl Ts rfl hnT hT
        rw[rowA_len,List.take_length] at hT
        refine Exs.nil (Exs.nil ⟨_,_,fun x v hx=>mset_mono rfl x v hx,sub.refl _,hJ _ _ _ (iAEEAAAAA rfl cd4 Ts ((g2.trans g4).oth hfc hFn4) (upd_self _ _ _) hFn4 hnT (fun e he=>g4.mem e (hM2 e he)) (fun p=>?_))⟩)
        rw[hT]
        refine or_congr_right ⟨fun q20639=>uEA q20639 fun ps h1 h2=>(iAAEA Nat.zero_lt_one hh ps h2 ((hRl.1 ps).mp h1)),fun q20716=>uAAEA q20716 fun V V ps h2 h1=>(iEA ps ((hRl.1 ps).mpr h1) h2)⟩
      ·rw[if_neg (by rw[decide_eq_false fun e=>hh (hiff.mp e)];simp)]
       refine Exs.nil (Exs.nil ⟨_,o',fun x v hx=>mset_mono rfl x v hx,sub.refl _,hJ _ _ _ (iAEEAAAAA rfl cd2 T2 g2 hF2 hFn2 hn2 hM2 (fun p=>?_))⟩)
       rw[hT2]
       exact or_congr_right ⟨fun e=>absurd e.1 (Nat.lt_irrefl 0),fun e=>absurd e.2.1 hh⟩
     ·rintro m' o' hh;refine uAEEAAAAA hh ?_;clear hh;rintro rfl cd2 T2 g2 hF2 hFn2 hn2 hM2 hT2
      exact Exs.nil ⟨_,o',fun x v hx=>mset_mono rfl x v hx,sub.refl _,hJ _ _ _ (iAEEAAAAA rfl cd2 T2 g2 hF2 hFn2 hn2 (fun e he=>hM2 e (by rw[List.mem_singleton.mp he];exact List.mem_cons_self)) hT2)⟩
    ·rintro m' o' hh;refine uAEEAAAAA hh ?_;clear hh;rintro rfl cd1 T1 g1 hF1 hFn1 hn1 hM1 hT1
     have T1c:∀ p,p∈T1↔p∈cut h.N a b∧p.size=s:=fun p=>by
      rw[hT1,cut_split H.n.kd ha hs1]
      exact or_congr_right ⟨fun e=>e.2,fun e=>⟨Nat.zero_lt_one,e⟩⟩
     have tl:T1.length≤32:=Nat.le_trans (nodup_len hn1 fun p hp=>((T1c p).mp hp).1) (Nat.le_trans (cut_len H.n.kd _ a b hNt) (show 2 ^ _≤2 ^ 5 from Nat.pow_le_pow_right (by decide) (by rw[T.size_1];exact hz)))
     have tok:∀ p∈T1,p.ok=true∧p.dep≤8:=fun p hp=>by
      have:=cut_ok H.n _ a b hNt hb p ((T1c p).mp hp).1
      have h2:=T.deps_sizes ks
      rw[T.dep_1] at this
      exact⟨this.1,by lia⟩
     refine Exs.cons (Ex.setitem (Ev.k k_sorted (Evs.cons (Ev.to P.lo (Evs.nil (Cal.sorted (by lia) (ColT.dT hF1 (by unfold eT;rw[List.length_map];lia) (iAA ?_ ?_ (fun D L' hD hp=>?_)))))))))
     ·rw[eT_keys,T.avs_len];lia
     ·rw[eT_keys];exact SortOk.terms tok
     ·rw[eT_keys] at hp
      refine uEA (avs_perm hp) ?_;rintro Ts rfl hTs
      have g3:=g1.ok.new (z:=.list (T.avs Ts)) hD
      have hSh:Sh h.N a b s Ts:=⟨hTs.nodup_iff.mpr hn1,fun p=>by rw[hTs.mem_iff];exact T1c p⟩
      have g4:=g3.ok.kput (a:=a) (b:=b) (s:=s) (c:=D) (Ts:=Ts) (List.mem_append_right _ (List.mem_singleton.mpr rfl)) (allK_mem (by lia) (by lia) (by lia)) hSh
      refine Ev.to (P.ckn g3.ok P.lo) (Ev.to P.lo (St3.dT (by lia) (g3.ok.st.get (i:=2) rfl) tk (by rw[sizeLine_eq];exact Nat.le_trans g3.ok.klen (by decide)) ?_))
      exact Exs.nil (last _ _ _ (by rfl) (by rfl) (g1.trans (g3.trans g4)) (aAt_key.mpr (aPut_kmem.mpr (.inr rfl))) _ _ _ _ _)
theorem shared_ok2:∀ f,HSh G A C h f
 |0=>fun V V V V V V V V V V hd V V V V=>no0 hd
 |f+1=>shared_step (shared_ok2 f)
end
theorem sx_le(nm:List Str)(r:Str):sx nm r≤nm.length:=by
 induction nm with
 |nil=>rw[sx_1];exact Nat.le_refl _
 |cons a l ih=>
  rw[sx_2]
  split
  ·exact Nat.zero_le _
  ·rw[List.length_cons];exact Nat.succ_le_succ ih
set_option tactic.hygienic true in
mutual
theorem nmd_ok:∀(t:T)(nm:List Str),t.ok=true→nm.length+t.size≤900→(nmd t nm).1.ok=true∧(nmd t nm).1.dep≤t.dep∧(nmd t nm).1.size=t.size
 |.mk v ks,nm,h,hz=>by
  rw[nmd_1]
  rw[T.size_1] at hz ⊢
  rw[T.dep_1]
  split
  ·have:=sx_le nm v
   exact(iAA (T.ok_iff.mpr (iAAA (vn_opOk (by lia)) (Nat.zero_le _) (fun V=>rfl) (fun k hk=>by simp at hk))) (by rw[T.dep_1,T.deps_1];lia) (by rw[T.size_1,T.sizes_1,(T.ok_iff.mp h).2.2.1 ‹_›,T.sizes_1]))
  ·next hv=>
   have i:=T.ok_iff.mp h
   have r:=nmds_ok ks nm i.2.2.2 (by lia)
   refine(iAA (T.ok_iff.mpr (iAAA i.1 (by rw[nmds_len];exact i.2.1) (fun k=>absurd k hv) r.1)) ?_ ?_)
   ·rw[T.dep_1];exact Nat.succ_le_succ r.2.1
   ·rw[T.size_1,r.2.2]
theorem nmds_ok:∀(l:List T)(nm:List Str),(∀ t∈l,t.ok=true)→nm.length+T.sizes l≤900→(∀ t∈(nmds l nm).1,t.ok=true)∧T.deps (nmds l nm).1≤T.deps l∧T.sizes (nmds l nm).1=T.sizes l
 |[],nm,_,_=>by rw[nmds_1];exact(iAA (fun t ht=>by simp at ht) (Nat.le_refl _) rfl)
 |k::ks,nm,h,hz=>by
  rw[T.sizes_2] at hz
  have l1:=nmd_len k nm
  have a:=nmd_ok k nm (h k List.mem_cons_self) (by lia)
  have b:=nmds_ok ks (nmd k nm).2 (fun t ht=>h t (List.mem_cons_of_mem _ ht)) (by lia)
  rw[nmds_2,T.deps_2,T.deps_2,T.sizes_2,T.sizes_2]
  refine(iAA (fun t ht=>?_) (Nat.max_le.mpr ⟨Nat.le_trans a.2.1 (Nat.le_max_left _ _),Nat.le_trans b.2.1 (Nat.le_max_right _ _)⟩) (by rw[a.2.2,b.2.2]))
  rcases List.mem_cons.mp ht with rfl|ht
  ·exact a.1
  ·exact b.1 t ht
end
theorem cmpOks_all{P:AV→Prop}(h:∀ x y,P x→P y→cmpOk x y=true):∀{l k:List AV},(∀ x∈l,P x)→(∀ x∈k,P x)→cmpOks l k=true
 |[],_,_,_=>rfl
 |_::_,[],_,_=>rfl
 |x::l,y::k,h1,h2=>by
  rw[cmpOks_c]
  split
  ·exact cmpOks_all h (fun z hz=>h1 z (List.mem_cons_of_mem _ hz)) fun z hz=>h2 z (List.mem_cons_of_mem _ hz)
  ·exact h x y (h1 x List.mem_cons_self) (h2 y List.mem_cons_self)
theorem all_keys{P:AV→Prop}(h:∀ x,P x→x.key=true∧x.dep=0):∀{l:List AV},(∀ x∈l,P x)→AV.keys l=true∧AV.deps l=0
 |[],_=>⟨rfl,rfl⟩
 |x::l,k=>by
  have a:=h x (k x List.mem_cons_self)
  have b:=all_keys h fun z hz=>k z (List.mem_cons_of_mem _ hz)
  exact⟨by rw[AV.keys_2,a.1,b.1];rfl,by rw[AV.deps_2,a.2,b.2];rfl⟩
theorem SortOk.keyF{Ts:List T}(h:∀ t∈Ts,t.ok=true):SortOk ((T.avs Ts).map (lift Mine.keyF)):=by
 have cs:∀ t:T,(∀ x∈t.parts.map fun p=>AV.str p.2.op,∃ s,x=.str s)∧(∀ x∈t.parts.map fun p=>AV.int (p.2.kids.length:Int),∃ i,x=.int i):=fun t=>
  ⟨fun x hx=>by refine uEA (List.mem_map.mp hx) ?_;rintro p _ rfl;exact⟨_,rfl⟩,fun x hx=>by refine uEA (List.mem_map.mp hx) ?_;rintro p _ rfl;exact⟨_,rfl⟩⟩
 rw[lift_map]
 refine⟨fun k hk=>?_,fun x hx y hy=>?_,.inr (.inr fun k hk=>?_)⟩
 ·refine uEA (List.mem_map.mp hk) ?_;rintro t ht rfl
  have a:=all_keys (P:=fun x=>∃ p∈t.parts,x=.str p.2.op) (fun x q3833=>uEA q3833 fun p hp e=>by
   have:=(T.parts_ok t (h t ht) p hp).1
   rw[← T.eta p.2,T.ok_iff] at this
   rw[e];exact⟨(opOk_iff this.1).2.2,by simp[AV.dep_1,AV.dep_2,AV.dep_3]⟩) (l:=t.parts.map fun p=>AV.str p.2.op) fun x hx=>by
    refine uEA (List.mem_map.mp hx) ?_;rintro p hp rfl;exact(iEA p hp rfl)
  have b:=all_keys (P:=fun x=>∃ i,x=.int i) (fun x q4208=>uE q4208 fun i e=>by rw[e];exact⟨rfl,by simp[AV.dep_1,AV.dep_2,AV.dep_3]⟩) (cs t).2
  unfold Mine.keyF
  exact⟨by rw[AV.key_3,AV.keys_2,AV.keys_2,AV.keys_2,AV.key_3,AV.key_3,AV.key_1,a.1,b.1];rfl,by simp[AV.dep_1,AV.dep_2,AV.dep_3,AV.deps_1,AV.deps_2,a.2,b.2]⟩
 ·refine uEA (List.mem_map.mp hx) ?_;rintro t _ rfl
  refine uEA (List.mem_map.mp hy) ?_;rintro s _ rfl
  have a:=cmpOks_all (P:=fun x=>∃ s,x=.str s) (fun x y q4599 q4610=>uE q4599 fun V e=>uE q4610 fun V e2=>by rw[e,e2];rfl) (cs t).1 (cs s).1
  have b:=cmpOks_all (P:=fun x=>∃ i,x=.int i) (fun x y q4731 q4742=>uE q4731 fun V e=>uE q4742 fun V e2=>by rw[e,e2];rfl) (cs t).2 (cs s).2
  unfold Mine.keyF
  rw[cmpOk_t,cmpOks_c]
  split
  ·rw[cmpOks_c]
   split
   ·rw[cmpOks_c]
    split
    ·rfl
    ·exact b
   ·exact a
  ·rfl
 ·refine uEA (List.mem_map.mp hk) ?_;rintro t _ rfl
  exact(iEE _ _ rfl)
section
variable{G:GC}{ℓ:Nat}{sc:Names}{m:MM}{own:Own}{A:HA}{C:HCA}{h:HD}{cd:CD}{pos:Pos}{o:Expr}
theorem hc_make{K:AV→Own→Prop}{hp:Addr}(hl:ℓ<900)(hK:∀ x d k r o',Nw own o' [(d,.ns (mset (mset (mset m0 "heap" (.ref hp)) "known" (.ref k)) "rows" (.ref r))),(x,.inst 291 d),(k,.dT []),(r,.dT [])]→K (.ref x) o'):Cal G ℓ own (.ref 291) [.ref hp] K:=by
 refine Cal.make (in_HC _).1 (in_HC _).2.1 (in_HC _).2.2 fun x d hx hd ne=>CalC.fn (def_HC_init _) rfl (by lia) ?_
 conv in (fnBody _)=>whnf
 refine S.att (i:=0) (j:=1) (Nw.start hx hd ne) rfl rfl (Ev.to P.lo (iEEAA _ [] rfl ⟨⟨List.nodup_nil,fun p hp=>by simp at hp⟩,Fm.refl _ _⟩ (fun w1 n1=>?_))) (cls_HC _) (no_HC_heap _) (by decide)
 refine S.att (i:=0) (j:=1) n1 rfl rfl (Ev.dict0 (.dT []) (.inr (.inr rfl)) fun c2 h2=>(iEEAA _ _ rfl (Nw.one h2) (fun w2 n2=>?_))) (cls_HC _) (no_HC_known _) (by decide)
 refine S.att (i:=0) (j:=1) n2 rfl rfl (Ev.dict0 (.dT []) (.inr (.inr rfl)) fun c3 h3=>(iEEAA _ _ rfl (Nw.one h3) (fun w3 n3=>?_))) (cls_HC _) (no_HC_rows _) (by decide)
 exact Exs.nil ⟨rfl,hK _ _ _ _ _ n3⟩
theorem mset_re{M:MM}{x y:Str}{k r k' r':AV}:mset (mset (mset (mset M x k) y r) x k') y r'=mset (mset M x k') y r':=by
 funext z
 unfold mset
 by_cases h1:z=y
 ·rw[if_pos h1,if_pos h1]
 ·rw[if_neg h1,if_neg h1]
  by_cases h2:z=x
  ·simp only[if_pos h2,if_neg h1]
  ·simp only[if_neg h2,if_neg h1]
theorem St.perm{l k:List (Addr × AObj)}(S:St own l)(p:k.Perm l):St own k:=⟨(p.map _).nodup_iff.mpr S.nd,fun q hq=>S.at_ q (p.mem_iff.mp hq)⟩
noncomputable def nmT(q:T):T:=(nmd q []).1
noncomputable def covB(S:List T)(w:T):Bool:=@decide (∀ o∈S,o≠w→¬ Mt w o) (Classical.propDecidable _)
def Nms(N:List Nd)(a b k:Nat)(F:List T):Prop:=F.Nodup∧∀ p,p∈F↔∃ q∈cut N a b,q.size≤k∧p=nmT q
theorem common_ok2{x d k0 r0:Addr}{t:T}{a b most:Nat}{R:List T}(S0:St own ((x,.inst 291 d)::(d,.ns (mset (mset (mset m0 "heap" (.ref A.hp)) "known" (.ref k0)) "rows" (.ref r0)))::h.cells A))(H0:HOk own A h)(hN:Nok h.N)(ht:Nt h.N t a)(hb:b<h.N.length)(hd:t.size≤5)(hm:most≤5)(hl:ℓ≤500)
  (hR:∀ S,Nms h.N a b most S→S.filter (covB S)=R) :
  Cal G ℓ own (.ref 269) [.ref x,.int (a:Int),.int (b:Int),.int (most:Int)] (fun v q=>∃ r,v=.ref r∧q r=some (.list (T.avs R))):=by
 refine Cal.fn (def_HC_common _) rfl (by lia) ?_
 conv in (fnBody _)=>whnf
 refine Exs.cons (Ex.setattr2 (Ev.tuple (Evs.cons (Ev.dict0 (.dT []) (.inr (.inr rfl)) fun kn hkn=>Evs.cons (Ev.dict0 (.dT []) (.inr (.inr rfl)) fun rw hrw=>Evs.nil (iAEEA (by rw[sizeLine_eq];simp) _ _ rfl ?_))))) (hw:=fun env=>?_))
 ·have S1:=(S0.new (z:=.dT []) hkn).new (z:=.dT []) hrw
  have x1:=S1.get (i:=0) (a:=x) rfl
  have d1:=S1.get (i:=1) (a:=d) rfl
  have S2:=S1.set (i:=1) (z:=.ns (mset (mset (mset (mset m0 "heap" (.ref A.hp)) "known" (.ref k0)) "rows" (.ref r0)) "known" (.ref kn))) rfl
  have S3:=S2.set (i:=1) (z:=.ns (mset (mset (mset (mset (mset m0 "heap" (.ref A.hp)) "known" (.ref k0)) "rows" (.ref r0)) "known" (.ref kn)) "rows" (.ref rw))) rfl
  refine Ev.to P.lo (iEEEEAAAAAA x 291 d _ rfl x1 d1 (cls_HC _) (no_HC_known _) (by decide) (Ev.to P.lo (iEEEEAAAAAA x 291 d _ rfl (S2.get (i:=0) rfl) (S2.get (i:=1) rfl) (cls_HC _) (no_HC_rows _) (by decide) ?_)))
  rw[mset_re] at S3
  have G0:CSt _ A ⟨x,d,kn,rw⟩ h ⟨[],[],[]⟩:=⟨S3.perm ?_,⟨own,H0⟩,hN,fun e he=>by simp at he,fun e he=>by simp at he,List.nodup_nil,List.nodup_nil⟩
  ·rw[mset_re]
   generalize upd (upd (upd (upd own kn (.dT [])) rw (.dT [])) d (.ns (mset (mset (mset (mset m0 "heap" (.ref A.hp)) "known" (.ref k0)) "rows" (.ref r0)) "known" (.ref kn)))) d (.ns (mset (mset (mset m0 "heap" (.ref A.hp)) "known" (.ref kn)) "rows" (.ref rw)))=o0 at G0
   have lt:=ht.lt
   have few:=hN.few
   refine Exs.cons (Ex.assign (by kernel_rfl) (Ev.dict0 (.dT []) (.inr (.inr rfl)) fun fc hfc=>?_))
   have G1:=(Gc.refl G0).up (sub.upd (o:=.dT []) hfc)
   have fn1:=G0.fresh hfc
   refine Exs.cons (Ex.for_ (Ev.k k_range ((P.two P.i (P.bin P.lo P.i (Op.add rf))).to (Cal.range2 (by unfold smallInt;decide) (by unfold smallInt;lia) fun r hr=>ItT.rng (upd_self _ _ _)
    ⟨fun n m' o'=>m'=mset (argM ["self","a","b","most"] [.ref x,.int (a:Int),.int (b:Int),.int (most:Int)] m0) "found" (.ref fc)∧∃ cd' F,Gc A ⟨x,d,kn,rw⟩ h o0 o' ⟨[],[],[]⟩ cd'∧o' fc=some (.dT (eT F))∧fc∉(cfx A ⟨x,d,kn,rw⟩ h cd').map (·.1)∧Nms h.N a b n F,?_,fun V V V V=>trivial,?_,?_⟩))))
   ·refine(iAEEAAAA rfl _ [] (G1.up (sub.upd hr)) ((sub.upd hr) _ _ (upd_self _ _ _)) fn1 List.nodup_nil (fun p=>⟨fun e=>(List.not_mem_nil e).elim,fun q5442=>uEAA q5442 fun q V e V=>?_⟩))
    have:=q.size_pos;lia
   ·intro J' K' hJ hK;rintro n dd m' o' hd' hh;refine uAEEAAA hh ?_;clear hh;rintro rfl cd1 F g1 hF hFn hNm
    obtain⟨hn,rfl⟩:=rngL_get hd'
    have e1:(1+(n:Int))=((n+1:Nat):Int):=by lia
    rw[e1]
    have d5:=Nat.le_trans (T.dep_size t) hd
    refine⟨_,.name (by kernel_rfl),Exs.cons (Ex.for_ (Ev.imeth (Ev.to P.lo (iEEEEEAAAAAAAA _ _ _ _ _ rfl g1.ok.cx g1.ok.cdd (by kernel_rfl) (cls_HC _) ((me_HC_shared _).1) ((me_HC_shared _).2.1) ((me_HC_shared _).2.2) ((P.cons (P.imeth (P.chp g1.ok P.lo) g1.ok.hok.h0.hp g1.ok.hok.h0.hd (cls_Heap _) (me_Heap_find _) (P.one P.lo) (heap_find g1.ok.hok.h0 g1.ok.hok.U lt (by lia) (by lia))) (P.two (P.imeth (P.chp g1.ok P.lo) g1.ok.hok.h0.hp g1.ok.hok.h0.hd (cls_Heap _) (me_Heap_find _) (P.one P.lo) (heap_find g1.ok.hok.h0 g1.ok.hok.U hb (by lia) (by lia))) P.lo)).to
     ((shared_ok2 5 t a b (n+1) _ _ cd1 g1.ok ht hb d5 hd (by lia) (by lia) (by lia)).pst fun o4 cd4 sc Ts g4 hsc hTs=>?_))))))⟩
    obtain⟨hF4,hFn4⟩:=g4.apart hF hFn
    have hsf:sc≠fc:=fun e=>hFn4 (List.mem_map.mpr (iEA _ (List.mem_cons_of_mem _ (List.mem_cons_of_mem _ (List.mem_cons_of_mem _ (List.mem_cons_of_mem _ (List.mem_append_right _ hsc))))) e))
    have few32:∀(q:Nat)(F':List T),F'.Nodup→(∀ p,p∈F'↔p∈F∨∃ u∈Ts.take q,p=nmT u)→F'.length≤32:=fun q F' hn hF'=>by
     have:=nodup_len hn (m:=(cut h.N a b).map nmT) fun p hp=>by
      rcases(hF' p).mp hp with hp|⟨u,hu,rfl⟩
      ·refine uEAA ((hNm.2 p).mp hp) ?_;rintro u hu _ rfl
       exact List.mem_map_of_mem hu
      ·exact List.mem_map_of_mem ((hTs.2 u).mp (List.mem_of_mem_take hu)).1
     rw[List.length_map] at this
     exact Nat.le_trans this (Nat.le_trans (cut_len hN.kd t a b ht) (show 2 ^ _≤2 ^ 5 from Nat.pow_le_pow_right (by decide) hd))
    refine ItT.list (g4.ok.mem hsc) ⟨fun q m' o'=>m'=mset (mset (argM ["self","a","b","most"] [.ref x,.int (a:Int),.int (b:Int),.int (most:Int)] m0) "found" (.ref fc)) "size" (.int ((n+1:Nat):Int))∧∃ F',o'=upd o4 fc (.dT (eT F'))∧F'.Nodup∧∀ p,p∈F'↔p∈F∨∃ u∈Ts.take q,p=nmT u,(iAEAA rfl F ((upd_same hF4).symm) hNm.1 (fun p=>?_)),?_,?_,?_⟩
    ·rw[List.take_zero]
     exact⟨.inl,fun e=>e.elim id fun q7899=>uEA q7899 fun u h V=>(List.not_mem_nil h).elim⟩
    ·rintro q m' o' hh;refine uAEA hh ?_;clear hh;rintro _ F' rfl _
     rw[upd_ne _ _ hsf];exact g4.ok.mem hsc
    ·intro J' K' hJ hK;rintro q dd m' o' hdq hh;refine uAEAA hh ?_;clear hh;rintro rfl F1 rfl hn1 hF1
     rw[T.avs_eq,List.getElem?_map] at hdq
     refine uEA (Option.map_eq_some_iff.mp hdq) ?_;rintro u hu rfl
     have mu:=(hTs.2 u).mp (List.mem_of_getElem? hu)
     have uok:=cut_ok hN t a b ht hb u mu.1
     have us:=mu.2
     have nok:=nmd_ok u [] uok.1 (by simp;lia)
     have hF2:∀ p,p∈gadd F1 (nmT u)↔p∈F∨∃ u∈Ts.take (q+1),p=nmT u:=fun p=>by
      rw[gadd_mem,hF1,or_assoc]
      refine or_congr_right ?_
      rw[List.take_add_one,hu,Option.toList_some]
      constructor
      ·rintro(⟨r,h1,h2⟩|e)
       ·exact(iEA r (List.mem_append_left _ h1) h2)
       ·exact(iEA u (List.mem_append_right _ (List.mem_singleton.mpr rfl)) e)
      ·intro hh;refine uEA hh ?_;clear hh;rintro r h1 h2
       rcases List.mem_append.mp h1 with h1|h1
       ·exact .inl (iEA r h1 h2)
       ·exact .inr (List.mem_singleton.mp h1▸h2)
     have hn2:=gadd_nodup (t:=nmT u) hn1
     have i1:=few32 q F1 hn1 hF1
     have i2:=few32 (q+1) _ hn2 hF2
     refine⟨_,.name (by kernel_rfl),Exs.cons (Ex.setitem (Ev.to P.bo (Ev.to P.lo (Ev.k k_named (Evs.cons (Ev.to P.lo (Evs.cons (Ev.dict0 (.dT []) (.inr (.inr rfl)) fun nd hnd=>Evs.nil ((named_ok_ nd 5 u [] _ _ (upd_self _ _ _) uok.1 (by lia) (by simp;lia) (by lia)).tx ?_)))))))))⟩
     have hnf:fc≠nd:=by rintro rfl;rw[upd_self] at hnd;cases hnd
     rw[upd_upd,T.av_eq]
     refine St3.dTe (es':=eT (gadd F1 (nmT u))) (by lia) (by rw[upd_ne _ _ hnf];exact upd_self _ _ _) (by rw[← T.av_eq];exact⟨T.key_av _ nok.1,by rw[T.dep_av];lia⟩) (by unfold eT;rw[List.length_map,sizeLine_eq];lia) (by rw[← T.av_eq];exact eT_put _ _) ?_
     have sb:=subh2 (own:=o4) (h:=fc) (x:=.dT (eT F1)) (a:=nd) (y:=.dT (esG kS vT 0 (nmd u []).2)) (z:=.dT (eT (gadd F1 (nmT u)))) hnd
     have H6:=(g4.ok.oth (z:=.dT (eT (gadd F1 (nmT u)))) hFn4).less sb
     exact Exs.cons (Ex.expr (Ev.to (P.imeth (v:=.none) P.lo H6.cx H6.cdd (cls_HC _) (me_HC_limited _) (P.one P.lo) (limited_ok (upd_self _ _ _) (by unfold eT;rw[List.length_map];lia) (by lia))) ⟨rfl,Exs.nil ⟨_,_,fun x v hx=>mset_mono rfl x v hx,sb,hJ _ _ _ (iAEAA rfl _ rfl hn2 hF2)⟩⟩))
    ·rintro m' o' hh;refine uAEAA hh ?_;clear hh;rintro rfl F1 rfl hn1 hF1
     rw[T.avs_len,List.take_length] at hF1
     refine Exs.nil ⟨_,_,fun x v hx=>mset_mono rfl x v hx,sub.refl _,hJ _ _ _ (iAEEAAAA rfl cd4 F1 ((g1.trans g4).oth hfc hFn4) (upd_self _ _ _) hFn4 hn1 (fun p=>?_))⟩
     rw[hF1,hNm.2]
     constructor
     ·rintro(⟨q,h1,h2,h3⟩|⟨q,h1,h2⟩)
      ·exact(iEAA q h1 (by lia) h3)
      ·have:=(hTs.2 q).mp h1
       exact(iEAA q this.1 (by lia) h2)
     ·intro hh;refine uEAA hh ?_;clear hh;rintro q h1 h2 h3
      by_cases h4:q.size≤n
      ·exact .inl (iEAA q h1 h4 h3)
      ·exact .inr (iEA q ((hTs.2 q).mpr ⟨h1,by lia⟩) h3)
   ·rintro m' o' hh;refine uAEEAAA hh ?_;clear hh;rintro rfl cd1 F g1 hF hFn hNm
    rw[rngL_length] at hNm
    have en:((most:Int)+1-1).toNat=most:=by lia
    rw[en] at hNm
    have fok:∀ p∈F,p.ok=true∧p.dep≤5∧p.size≤5:=fun p hp=>by
     refine uEAA ((hNm.2 p).mp hp) ?_;rintro q h1 h2 rfl
     have c:=cut_ok hN t a b ht hb q h1
     have n:=nmd_ok q [] c.1 (by simp;lia)
     have:=T.dep_size t
     exact(iAA n.1 (Nat.le_trans n.2.1 (by lia)) (by rw[nmT,n.2.2];lia))
    have few32:F.length≤32:=by
     have:=nodup_len hNm.1 (m:=(cut h.N a b).map nmT) fun p hp=>by
      refine uEAA ((hNm.2 p).mp hp) ?_;rintro u hu _ rfl
      exact List.mem_map_of_mem hu
     rw[List.length_map] at this
     exact Nat.le_trans this (Nat.le_trans (cut_len hN.kd t a b ht) (show 2 ^ _≤2 ^ 5 from Nat.pow_le_pow_right (by decide) hd))
    refine Exs.cons (Ex.assign (by kernel_rfl) (Ev.callKw (Ev.nglob (by kernel_rfl) (g_sorted _) ⟨rfl,Ev.to P.lo (Ev.nglob (by kernel_rfl) (g_key_of _) (KCal.sorted (kf:=lift keyF) (by lia) (ColT.dT hF (by unfold eT;rw[List.length_map];lia) (iAAA ?_ ?_ (fun own' x hx=>?_) (fun D L' hD hp=>?_)))))⟩)))
    ·rw[eT_keys,T.avs_len];lia
    ·rw[eT_keys];exact SortOk.keyF fun p hp=>(fok p hp).1
    ·rw[eT_keys] at hx
     refine uEA (avs_mem hx) ?_;rintro p hp rfl
     have k:=fok p hp
     rw[lift_av]
     exact(key_of_ok 5 p _ _ k.1 k.2.1 (by decide) (by lia) (by lia)).to ⟨rfl,rfl⟩
    ·rw[eT_keys] at hp
     refine uEA (avs_perm hp) ?_;rintro Ss rfl hS
     have sok:∀ p∈Ss,p.ok=true∧p.dep≤5∧p.size≤5:=fun p hp=>fok p (hS.mem_iff.mp hp)
     have sl:(T.avs Ss).length≤32:=by rw[T.avs_len,hS.length_eq];exact few32
     have hfin:=hR Ss ⟨hS.nodup_iff.mpr hNm.1,fun p=>by rw[hS.mem_iff];exact hNm.2 p⟩
     refine Exs.cons (Ex.ret (P.fil P.ce (Wk.list (upd_self _ _ _)) (Q:=fun e=>covB Ss (invT e)) (fun e he=>?_) (fun r hr=>(iEA r rfl ?_)) (by lia)))
     ·refine uEA (avs_mem he) ?_;rintro w hw rfl
      have kw:=sok w hw
      rw[invT_av]
      refine(iEAA _ (.name rfl) (T.filNil P.fr (Wk.list (upd_self _ _ _)) (Q:=fun e=>(!decide (e=w.av))&&@decide (Mt w (invT e)) (Classical.propDecidable _)) (fun e he=>?_) ?_ ?_ (by lia) (by lia)) (fun V=>P.ce))
      ·refine uEA (avs_mem he) ?_;rintro o ho rfl
       have ko:=sok o ho
       rw[invT_av]
       refine(iEAA _ (.name rfl) (T.and2 (T.cmp P.lo P.fr (Op.neK (T.key_av o ko.1) (T.key_av w kw.1) (by rw[T.dep_av];lia) (by rw[T.dep_av];lia) (by lia) rf)) fun V=>T.ts (Ev.k k_is_covered ((P.two P.lo P.fr).to (is_covered_ok (N:=5) _ ?_ kw.1 ko.1 ko.2.1 (by decide) (by lia) (by lia))))) (fun V=>P.lo))
       exact(@decide_eq_true_iff _ (Classical.propDecidable _)).symm
      ·have:∀ M:List AV,(∀ d∈M,d.key=true∧d.dep≤60)→AV.keys M=true∧AV.deps M≤60:=by
        intro M
        induction M with
        |nil=>intro _;exact⟨rfl,Nat.zero_le _⟩
        |cons x M ih=>
         intro h
         obtain⟨h1,h2⟩:=ih fun d hd=>h d (List.mem_cons_of_mem _ hd)
         obtain⟨h3,h4⟩:=h x List.mem_cons_self
         exact⟨by rw[AV.keys_2,h3,h1];rfl,by rw[AV.deps_2];lia⟩
       refine this _ fun e he=>?_
       refine uEA (avs_mem (List.mem_filter.mp he).1) ?_;rintro o ho rfl
       have ko:=sok o ho
       exact⟨T.key_av o ko.1,by rw[T.dep_av];lia⟩
      ·rw[List.filter_eq_nil_iff]
       refine Iff.trans ?_ (@decide_eq_true_iff _ (Classical.propDecidable _)).symm
       constructor
       ·intro k o ho e hM
        have:=k o.av (by rw[T.avs_eq];exact List.mem_map_of_mem ho)
        rw[invT_av,decide_eq_false fun q=>e (T.av_inj q),@decide_eq_true _ (Classical.propDecidable _) hM] at this
        exact this rfl
       ·intro k e he
        refine uEA (avs_mem he) ?_;rintro o ho rfl
        rw[invT_av]
        by_cases q:o=w
        ·rw[decide_eq_true (congrArg T.av q)];simp
        ·rw[@decide_eq_false _ (Classical.propDecidable _) (k o ho q)];simp
     ·rw[upd_self,← hfin,T.avs_eq,T.avs_eq,List.filter_map]
      congr 3
      refine List.filter_congr fun w V=>?_
      show covB Ss (invT w.av)=_
      rw[invT_av]
  ·rw[cfx]
   refine .cons _ (.cons _ ?_)
   rw[List.append_nil]
   show((kn,AObj.dT [])::(rw,AObj.dT [])::h.cells A).Perm ((h.cells A++[(kn,AObj.dT [])])++[(rw,AObj.dT [])])
   rw[List.append_assoc]
   exact List.perm_append_comm (l₁:=[(kn,AObj.dT []),(rw,AObj.dT [])])
 ·dsimp only[swappedStores,List.filterMap,Expr.pos,List.head?,Option.map,Option.getD]
  cases hb:(env.blockKind != .function)<;>kernel_rfl
end
theorem nodup_filter_one{α:Type}{p:α→Bool}{x:α}:∀{l:List α},l.Nodup→x∈l→(∀ y∈l,p y=true↔y=x)→l.filter p=[x]
 |[],_,h,_=>(List.not_mem_nil h).elim
 |a::l,hn,h,hp=>by
  obtain⟨h1,h2⟩:=List.nodup_cons.mp hn
  have hl:=fun y hy=>hp y (List.mem_cons_of_mem _ hy)
  rw[List.filter_cons]
  by_cases e:a=x
  ·rw[if_pos ((hp a List.mem_cons_self).mpr e),e,List.filter_eq_nil_iff.mpr fun y hy k=>h1 (by rw[e,← (hl y hy).mp k];exact hy)]
  ·rw[if_neg fun k=>e ((hp a List.mem_cons_self).mp k)]
   exact nodup_filter_one h2 ((List.mem_cons.mp h).resolve_left fun q=>e q.symm) hl
theorem Nt.fn{N:List Nd}{t:T}{n:Nat}(h:Nt N t n):∀{s:T},Nt N s n→t=s:=by
 induction h with
 |@mk o ks is n h hl hk ih=>
  intro s hs
  cases hs with
  |@mk o' ks' is' _ h' hl' hk'=>
   rw[h] at h'
   cases h'
   congr 1
   refine List.ext_getElem? fun j=>?_
   by_cases hj:j<ks.length
   ·have e1:=List.getElem?_eq_getElem hj
    have e2:=List.getElem?_eq_getElem (show j<ks'.length by lia)
    have e3:=List.getElem?_eq_getElem (show j<is.length by lia)
    rw[e1,e2,ih j _ _ e1 e3 (hk' j _ _ e2 e3)]
   ·rw[List.getElem?_eq_none (by lia),List.getElem?_eq_none (by lia)]
theorem Nt.inj{N:List Nd}(hN:N.Nodup){t:T}{n:Nat}(h:Nt N t n):∀{m:Nat},Nt N t m→n=m:=by
 induction h with
 |@mk o ks is n h hl hk ih=>
  intro m hm
  cases hm with
  |@mk _ _ is' _ h' hl' hk'=>
   have:is=is':=by
    refine List.ext_getElem? fun j=>?_
    by_cases hj:j<ks.length
    ·have e1:=List.getElem?_eq_getElem hj
     have e2:=List.getElem?_eq_getElem (show j<is'.length by lia)
     have e3:=List.getElem?_eq_getElem (show j<is.length by lia)
     rw[e2,e3,ih j _ _ e1 e3 (hk' j _ _ e1 e2)]
    ·rw[List.getElem?_eq_none (by lia),List.getElem?_eq_none (by lia)]
   subst this
   obtain⟨l1,q1⟩:=List.getElem?_eq_some_iff.mp h
   obtain⟨l2,q2⟩:=List.getElem?_eq_some_iff.mp h'
   exact(List.getElem_inj hN).mp (q1.trans q2.symm)
inductive Rl (N:List Nd):Nm→List Str→Prop
 |nil:Rl N [] []
 |cons {s1 s2:T} {i j:Nat} {nm:Nm} {nm':List Str} (h1:Nt N s1 i) (h2:Nt N s2 j) (h:Rl N nm nm'):Rl N ([s1,s2]::nm) (pv i j::nm')
theorem Rl.app{N:List Nd}{nm:Nm}{nm':List Str}(h:Rl N nm nm'){t1 t2:T}{a b:Nat}(ha:Nt N t1 a)(hb:Nt N t2 b):Rl N (nm++[[t1,t2]]) (nm'++[pv a b]):=by
 induction h with
 |nil=>exact .cons ha hb .nil
 |cons h1 h2 _ ih=>exact .cons h1 h2 ih
theorem Rl.ix{N:List Nd}(hN:N.Nodup){nm:Nm}{nm':List Str}(h:Rl N nm nm'){t1 t2:T}{a b:Nat}(ha:Nt N t1 a)(hb:Nt N t2 b):ix nm [t1,t2]=sx nm' (pv a b)∧([t1,t2]∈nm↔pv a b∈nm'):=by
 induction h with
 |nil=>exact⟨rfl,by simp⟩
 |@cons s1 s2 i j nm nm' h1 h2 h ih=>
  have e:[s1,s2]=[t1,t2]↔pv i j=pv a b:=by
   constructor
   ·intro e
    injection e with e1 e
    injection e with e2 _
    subst e1 e2
    rw[h1.inj hN ha,h2.inj hN hb]
   ·intro e
    obtain⟨e1,e2⟩:=pv_inj e
    subst e1 e2
    rw[h1.fn ha,h2.fn hb]
  rw[Mine.ix,sx_2,ih.1,List.mem_cons,List.mem_cons,ih.2]
  refine⟨?_,or_congr_left ⟨fun k=>(e.mp k.symm).symm,fun k=>(e.mpr k.symm).symm⟩⟩
  by_cases q:[s1,s2]=[t1,t2]
  ·rw[if_pos q,if_pos (e.mp q)]
  ·rw[if_neg q,if_neg fun k=>q (e.mpr k)]
theorem Rl.add{N:List Nd}(hN:N.Nodup){nm:Nm}{nm':List Str}(h:Rl N nm nm'){t1 t2:T}{a b:Nat}(ha:Nt N t1 a)(hb:Nt N t2 b):Rl N (Mine.add nm [t1,t2]) (sadd nm' (pv a b)):=by
 unfold Mine.add sadd
 by_cases q:[t1,t2]∈nm
 ·rw[if_pos q,if_pos ((h.ix hN ha hb).2.mp q)];exact h
 ·rw[if_neg q,if_neg fun k=>q ((h.ix hN ha hb).2.mpr k)];exact h.app ha hb
noncomputable def fl(N:List Nd):Nat→Nat→Nat→T
 |0,_,_=>dft
 |f+1,a,b=>if (nd N a).1=(nd N b).1∧(nd N a).2.length=(nd N b).2.length then .mk (nd N a).1 (((nd N a).2.zip (nd N b).2).map fun q=>fl N f q.1 q.2) else .mk (pv a b) []
theorem fl_2:∀(N:List Nd)(x x_1 f:Nat),fl N ((f+1)) x x_1=if (nd N x).fst=(nd N x_1).fst∧List.length (nd N x).snd=List.length (nd N x_1).snd then T.mk (nd N x).fst (List.map (fun q=>fl N f q.fst q.snd) (List.zip (nd N x).snd (nd N x_1).snd)) else T.mk (pv x x_1) []:=by intros;rfl
noncomputable def full(N:List Nd)(a b:Nat):T:=fl N N.length a b
theorem fl_fuel{N:List Nd}(hK:Kd N):∀(f g a b:Nat),a<f→a<g→a<N.length→fl N f a b=fl N g a b
 |0,_,_,_,h,_,_=>absurd h (Nat.not_lt_zero _)
 |_+1,0,_,_,_,h,_=>absurd h (Nat.not_lt_zero _)
 |f+1,g+1,a,b,h1,h2,h3=>by
  rw[fl_2,fl_2]
  have:((nd N a).2.zip (nd N b).2).map (fun q=>fl N f q.1 q.2)=((nd N a).2.zip (nd N b).2).map (fun q=>fl N g q.1 q.2):=List.map_congr_left fun q hq=>by
   have:=hK a _ (nd_at h3) q.1 (List.of_mem_zip hq).1
   exact fl_fuel hK f g q.1 q.2 (by lia) (by lia) (by lia)
  rw[this]
noncomputable def fulls(N:List Nd)(is js:List Nat):List T:=(is.zip js).map fun q=>full N q.1 q.2
theorem full_eq{N:List Nd}(hK:Kd N){a b:Nat}(ha:a<N.length):full N a b=if (nd N a).1=(nd N b).1∧(nd N a).2.length=(nd N b).2.length then .mk (nd N a).1 (fulls N (nd N a).2 (nd N b).2) else .mk (pv a b) []:=by
 unfold full
 rw[fl_fuel hK N.length (N.length+1) a b ha (by lia) ha,fl_2];rfl
theorem Nok.opV{N:List Nd}(h:Nok N){a:Nat}(ha:a<N.length):isV (nd N a).1=false:=(ops5_ok (h.ops _ (List.mem_of_getElem? (nd_at ha))).1).2
set_option tactic.hygienic true in
mutual
theorem full_cut{N:List Nd}(hK:Kd N):∀(t:T)(a b:Nat),Nt N t a→full N a b∈cut N a b
 |.mk o ks,a,b,.mk h hl hk=>by
  have ha:=(List.getElem?_eq_some_iff.mp h).1
  rw[cut_mem hK ha,full_eq hK ha]
  split
  ·next c=>exact .inr (iAEA c _ rfl (fulls_cut hK ks _ _ (by rw[nd_eq h];exact⟨hl,hk⟩)))
  ·exact .inl rfl
theorem fulls_cut{N:List Nd}(hK:Kd N):∀(ks:List T)(is js:List Nat),Nts N ks is→fulls N is js∈rcut N is js
 |[],is,js,h=>by
  rw[List.length_eq_zero_iff.mp h.1];exact prods_nil.mpr rfl
 |k::ks,[],js,h=>by cases h.1
 |k::ks,i::is,[],h=>prods_nil.mpr rfl
 |k::ks,i::is,j::js,h=>prods_cons.mpr (iEEAA _ _ rfl (full_cut hK k i j h.cons.1) (fulls_cut hK ks is js h.cons.2))
end
theorem mapSt_nmds{N:List Nd}{g:Nat→Nm→T × Nm}:∀(as:List Nat)(pl:List T),as.length=pl.length→(∀(j k:Nat)(p:T),as[j]?=some k→pl[j]?=some p→∀ nm nm',Rl N nm nm'→(g k nm).1=(nmd p nm').1∧Rl N (g k nm).2 (nmd p nm').2)→
  ∀ nm nm',Rl N nm nm'→(mapSt g as nm).1=(nmds pl nm').1∧Rl N (mapSt g as nm).2 (nmds pl nm').2
 |[],[],_,_,nm,nm',h=>by rw[mapSt_1,nmds_1];exact⟨rfl,h⟩
 |[],_::_,h,_,_,_,_=>by cases h
 |_::_,[],h,_,_,_,_=>by cases h
 |k::as,p::pl,hl,h,nm,nm',hr=>by
  obtain⟨e1,r1⟩:=h 0 k p rfl rfl nm nm' hr
  obtain⟨e2,r2⟩:=mapSt_nmds as pl (Nat.succ.inj hl) (fun j k p h1 h2=>h (j+1) k p h1 h2) _ _ r1
  rw[mapSt_2,nmds_2]
  exact⟨by rw[e1,e2],r2⟩
theorem au_full{N:List Nd}(hN:Nok N):∀(f:Nat)(t1 t2:T)(a b:Nat)(nm:Nm)(nm':List Str),Nt N t1 a→Nt N t2 b→t1.dep≤f→Rl N nm nm'→(au f [t1,t2] nm).1=(nmd (full N a b) nm').1∧Rl N (au f [t1,t2] nm).2 (nmd (full N a b) nm').2
 |0,_,_,_,_,_,_,_,_,hd,_=>no0 hd
 |f+1,.mk o ks,.mk o' ks',a,b,nm,nm',ha,hb,hd,hr=>by
  have la:=ha.lt
  have hr2:=And.intro (hr.ix hN.nod ha hb).1 (hr.add hN.nod ha hb)
  obtain⟨is,h,hl,hk⟩:∃ is,N[a]?=some (o,is)∧is.length=ks.length∧∀(j:Nat)(k:T)(i:Nat),ks[j]?=some k→is[j]?=some i→Nt N k i:=by cases ha with|mk h hl hk=>exact(iEAA _ h hl hk)
  obtain⟨is',h',hl',hk'⟩:∃ is,N[b]?=some (o',is)∧is.length=ks'.length∧∀(j:Nat)(k:T)(i:Nat),ks'[j]?=some k→is[j]?=some i→Nt N k i:=by cases hb with|mk h hl hk=>exact(iEAA _ h hl hk)
  have hv:=hN.opV la
  have hs:sameH [T.mk o ks,T.mk o' ks']=true↔o=o'∧is.length=is'.length:=by
   rw[sameH_iff (by simp)]
   constructor
   ·intro k
    have:=k (.mk o' ks') (by simp)
    exact⟨this.1.symm,by rw[hl,hl'];exact this.2.symm⟩
   ·rintro⟨e1,e2⟩ x hx
    rcases List.mem_cons.mp hx with rfl|hx
    ·exact⟨rfl,rfl⟩
    ·rw[List.mem_singleton.mp hx]
     exact⟨e1.symm,by show ks'.length=ks.length;lia⟩
  rw[full_eq hN.kd la]
  rw[nd_eq h] at hv ⊢
  rw[nd_eq h',au_2]
  by_cases c:o=o'∧is.length=is'.length
  ·rw[if_pos (hs.mpr c),if_pos c,nmd_1,if_neg (by rw[hv];simp)]
   have pw:=mapSt_nmds (N:=N) (g:=fun k=>au f (colT [T.mk o ks,T.mk o' ks'] k)) (List.range ks.length) (fulls N is is') (by unfold fulls;rw[List.length_range,List.length_map,List.length_zip];lia) (fun j k p h1 h2 nm nm' hr=>by
    obtain⟨l1,e1⟩:=List.getElem?_eq_some_iff.mp h1
    rw[List.getElem_range] at e1
    subst e1
    rw[List.length_range] at l1
    have e2:=List.getElem?_eq_getElem (show j<is.length by lia)
    have e3:=List.getElem?_eq_getElem (show j<is'.length by lia)
    have e4:=List.getElem?_eq_getElem l1
    have e5:=List.getElem?_eq_getElem (show j<ks'.length by lia)
    have e6:(is.zip is')[j]?=some (is[j],is'[j]):=List.getElem?_zip_eq_some.mpr ⟨e2,e3⟩
    have:p=full N is[j] is'[j]:=by
     unfold fulls at h2
     rw[List.getElem?_map,e6] at h2
     cases h2;rfl
    rw[this]
    have e7:colT [T.mk o ks,T.mk o' ks'] j=[ks[j],ks'[j]]:=by
     unfold colT
     rw[List.map_cons,List.map_cons,List.map_nil,T.kids_1,T.kids_1,List.getD_eq_getElem?_getD,List.getD_eq_getElem?_getD,e4,e5];rfl
    rw[e7]
    refine au_full hN f _ _ _ _ nm nm' (hk j _ _ e4 e2) (hk' j _ _ e5 e3) ?_ hr
    rw[T.dep_1] at hd
    exact T.deps_le.mp (Nat.le_of_succ_le_succ hd) _ (List.getElem_mem l1)) nm nm' hr
   refine⟨?_,pw.2⟩
   show T.mk o _=T.mk o _
   rw[← pw.1];rfl
  ·rw[if_neg fun k=>c (hs.mp k),if_neg c,nmd_1,if_pos (pv_isV a b),hr2.1]
   exact⟨rfl,hr2.2⟩
mutual
noncomputable def ren(nm:List Str):T→T
 |.mk v ks=>if isV v=true then .mk (vn (sx nm v)) [] else .mk v (rens nm ks)
noncomputable def rens(nm:List Str):List T→List T
 |[]=>[]
 |k::ks=>ren nm k::rens nm ks
end
theorem ren_1:∀(nm:List Str)(o:Str)(kids:List T),ren nm (T.mk o kids)=if isV o=true then T.mk (vn (sx nm o)) [] else T.mk o (rens nm kids):=by intros;rfl
theorem rens_1:∀(nm:List Str),rens nm []=[]:=by intros;rfl
theorem rens_2:∀(nm:List Str)(k:T)(ks:List T),rens nm (k::ks)=ren nm k::rens nm ks:=by intros;rfl
mutual
noncomputable def vin(nm:List Str):T→Prop
 |.mk v ks=>(isV v=true→v∈nm)∧(isV v=false→vins nm ks)
noncomputable def vins(nm:List Str):List T→Prop
 |[]=>True
 |k::ks=>vin nm k∧vins nm ks
end
theorem vin_1:∀(nm:List Str)(o:Str)(kids:List T),vin nm (T.mk o kids)=((isV o=true→o∈nm)∧(isV o=false→vins nm kids)):=by intros;rfl
theorem vins_1:∀(nm:List Str),vins nm []=True:=by intros;rfl
theorem vins_2:∀(nm:List Str)(k:T)(ks:List T),vins nm (k::ks)=(vin nm k∧vins nm ks):=by intros;rfl
theorem sx_sadd(v:Str)(l:List Str):∀ nm:List Str,sx (sadd nm v++l) v=sx nm v∧v∈sadd nm v++l∧∃ k,sadd nm v=nm++k
 |[]=>by unfold sadd;rw[if_neg (by simp)];simp[sx_1,sx_2]
 |a::nm=>by
  refine uAAE (sx_sadd v l nm) fun e1 e2 k e3=>?_
  by_cases e:a=v
  ·unfold sadd
   rw[if_pos (by rw[e];exact List.mem_cons_self),List.cons_append,sx_2,sx_2,if_pos e,if_pos e]
   exact(iAAE rfl (by rw[e];exact List.mem_cons_self) [] ((List.append_nil _).symm))
  ·have:sadd (a::nm) v=a::sadd nm v:=by
    unfold sadd
    by_cases m:v∈nm
    ·rw[if_pos m,if_pos (List.mem_cons_of_mem _ m)]
    ·rw[if_neg m,if_neg fun q=>(List.mem_cons.mp q).elim (fun r=>e r.symm) m];rfl
   rw[this,List.cons_append,sx_2,sx_2,if_neg e,if_neg e,e1]
   exact(iAAE rfl (List.mem_cons_of_mem _ e2) k (by rw[e3];rfl))
mutual
theorem nmd_pre:∀(t:T)(nm:List Str),∃ l,(nmd t nm).2=nm++l
 |.mk v ks,nm=>by
  rw[nmd_1]
  split
  ·exact(sx_sadd v [] nm).2.2
  ·exact nmds_pre ks nm
theorem nmds_pre:∀(l:List T)(nm:List Str),∃ k,(nmds l nm).2=nm++k
 |[],nm=>⟨[],by rw[nmds_1,List.append_nil]⟩
 |t::l,nm=>by
  obtain⟨k1,e1⟩:=nmd_pre t nm
  obtain⟨k2,e2⟩:=nmds_pre l (nmd t nm).2
  exact⟨k1++k2,by rw[nmds_2,← List.append_assoc,← e1];exact e2⟩
end
mutual
theorem nmd_ren:∀(t:T)(nm nmF:List Str),(∃ l,nmF=(nmd t nm).2++l)→(nmd t nm).1=ren nmF t∧vin nmF t
 |.mk v ks,nm,nmF,h=>by
  rw[nmd_1] at h ⊢
  rw[ren_1,vin_1]
  cases hv:isV v with
  |true=>
   rw[hv,if_pos rfl] at h
   obtain⟨l,rfl⟩:=h
   have:=sx_sadd v l nm
   rw[if_pos rfl,if_pos rfl,this.1]
   exact(iAA rfl (fun V=>this.2.1) (fun h=>by cases h))
  |false=>
   rw[hv,if_neg (by simp)] at h
   have:=nmds_ren ks nm nmF h
   rw[if_neg (by simp),if_neg (by simp),← this.1]
   exact(iAA rfl (fun h=>(by cases h)) (fun V=>this.2))
theorem nmds_ren:∀(l:List T)(nm nmF:List Str),(∃ k,nmF=(nmds l nm).2++k)→(nmds l nm).1=rens nmF l∧vins nmF l
 |[],nm,nmF,_=>by rw[nmds_1,rens_1,vins_1];exact⟨rfl,trivial⟩
 |t::l,nm,nmF,h=>by
  rw[nmds_2] at h ⊢
  rw[rens_2,vins_2]
  obtain⟨k,e⟩:=h
  obtain⟨k2,e2⟩:=nmds_pre l (nmd t nm).2
  have a:=nmd_ren t nm nmF ⟨k2++k,by rw[e,← List.append_assoc,← e2]⟩
  have b:=nmds_ren l (nmd t nm).2 nmF ⟨k,e⟩
  exact(iAA (by rw[a.1,b.1]) a.2 b.2)
end
theorem nmT_ren(t:T):nmT t=ren (nmd t []).2 t∧vin (nmd t []).2 t:=nmd_ren t [] _ ⟨[],(List.append_nil _).symm⟩
theorem rens_len(nm:List Str):∀ l:List T,(rens nm l).length=l.length
 |[]=>by rw[rens_1]
 |k::l=>by rw[rens_2,List.length_cons,rens_len nm l];rfl
theorem rens_fulls_len{N:List Nd}(nm:List Str){is js:List Nat}(e:is.length=js.length):(rens nm (fulls N is js)).length=is.length:=by
 rw[rens_len,fulls,List.length_map,List.length_zip];lia
theorem fulls_cons(N:List Nd)(i j:Nat)(is js:List Nat):fulls N (i::is) (j::js)=full N i j::fulls N is js:=rfl
def Vs(N:List Nd)(nq n0:List Str)(L:Bd):Prop:=∀ v x,(v,x)∈L→∃ i j,pv i j∈nq∧v=vn (sx nq (pv i j))∧x=ren n0 (full N i j)
mutual
theorem occ_full{N:List Nd}(hN:Nok N)(nq n0:List Str):∀(t:T)(a b:Nat)(q:T),Nt N t a→q∈cut N a b→vin nq q→∃ L,occ (ren nq q) (ren n0 (full N a b))=some L∧Vs N nq n0 L
 |.mk o ks,a,b,q,.mk h hl hk,hq,hv=>by
  have la:=(List.getElem?_eq_some_iff.mp h).1
  have ov:=hN.opV la
  rcases(cut_mem hN.kd la).mp hq with rfl|⟨c,ps,rfl,hps⟩
  ·rw[vin_1] at hv
   rw[ren_1,if_pos (pv_isV a b),occ_1,if_pos (vn_isV _)]
   refine(iEA _ rfl (fun v x hm=>?_))
   cases List.mem_singleton.mp hm
   exact(iEEAA a b (hv.1 (pv_isV a b)) rfl rfl)
  ·rw[vin_1] at hv
   rw[full_eq hN.kd la,if_pos c,ren_1,if_neg (by rw[ov];simp),ren_1,if_neg (by rw[ov];simp),occ_1,if_neg (by rw[ov];simp),T.op_1,T.kids_1]
   rw[if_pos ⟨rfl,by rw[rens_fulls_len n0 c.2,rens_len,rcut_length c.2.symm hps]⟩]
   exact occs_full hN nq n0 ks _ _ ps (by rw[nd_eq h];exact⟨hl,hk⟩) hps (hv.2 ov)
theorem occs_full{N:List Nd}(hN:Nok N)(nq n0:List Str):∀(ks:List T)(is js:List Nat)(ps:List T),Nts N ks is→ps∈rcut N is js→vins nq ps→∃ L,occs (rens nq ps) (rens n0 (fulls N is js))=some L∧Vs N nq n0 L
 |[],is,js,ps,h,hp,hv=>by
  have e:=List.length_eq_zero_iff.mp h.1
  subst e
  rw[prods_nil.mp hp,rens_1,occs_1]
  exact(iEA _ rfl (fun v x hm=>by simp at hm))
 |k::ks,[],js,ps,h,_,_=>by cases h.1
 |k::ks,i::is,[],ps,h,hp,hv=>by
  rw[prods_nil.mp hp,rens_1,occs_1]
  exact(iEA _ rfl (fun v x hm=>by simp at hm))
 |k::ks,i::is,j::js,ps,h,hp,hv=>by
  refine uEEAA (prods_cons.mp hp) ?_;rintro p r rfl h1 h2
  rw[vins_2] at hv
  refine uEA (occ_full hN nq n0 k i j p h.cons.1 h1 hv.1) fun L1 e1 v1=>?_
  refine uEA (occs_full hN nq n0 ks is js r h.cons.2 h2 hv.2) fun L2 e2 v2=>?_
  rw[fulls_cons,rens_2,rens_2,occs_3,e1,e2]
  exact(iEA _ rfl (fun v x hm=>(List.mem_append.mp hm).elim (v1 v x) (v2 v x)))
end
theorem sx_at{nm:List Str}{v:Str}(h:v∈nm):nm[sx nm v]?=some v:=by
 induction nm with
 |nil=>exact(List.not_mem_nil h).elim
 |cons a l ih=>
  rw[sx_2]
  by_cases e:a=v
  ·rw[if_pos e,e];rfl
  ·rw[if_neg e,List.getElem?_cons_succ]
   exact ih ((List.mem_cons.mp h).resolve_left fun q=>e q.symm)
theorem Vs.con{N:List Nd}{nq n0:List Str}{L:Bd}(h:Vs N nq n0 L):con L:=fun v x y h1 h2=>by
 refine uEEAA (h v x h1) ?_;rintro i j m1 e1 rfl
 refine uEEAA (h v y h2) ?_;rintro i' j' m2 e2 rfl
 have e:=vn_inj (e1.symm.trans e2)
 have q:=sx_at m1
 rw[e,sx_at m2] at q
 injection q with q
 obtain⟨r1,r2⟩:=pv_inj q
 rw[r1,r2]
set_option tactic.hygienic true in
mutual
theorem occ_back{N:List Nd}(hN:Nok N)(nq n0:List Str):∀(t:T)(a b:Nat)(q:T)(L:Bd),Nt N t a→q∈cut N a b→occ (ren n0 (full N a b)) (ren nq q)=some L→q=full N a b
 |.mk o ks,a,b,q,L,.mk h hl hk,hq,ho=>by
  have la:=(List.getElem?_eq_some_iff.mp h).1
  have ov:=hN.opV la
  rcases(cut_mem hN.kd la).mp hq with rfl|⟨c,ps,rfl,hps⟩
  ·rw[full_eq hN.kd la] at ho ⊢
   split at ho
   ·next c=>
    rw[ren_1,if_neg (by rw[ov];simp),ren_1,if_pos (pv_isV a b),occ_1,if_neg (by rw[ov];simp),T.op_1] at ho
    split at ho
    ·next c2=>rw[c2.1,vn_isV] at ov;cases ov
    ·cases ho
   ·next c=>rw[if_neg c]
  ·rw[full_eq hN.kd la,if_pos c] at ho ⊢
   rw[ren_1,if_neg (by rw[ov];simp),ren_1,if_neg (by rw[ov];simp),occ_1,if_neg (by rw[ov];simp),T.op_1,T.kids_1] at ho
   rw[if_pos ⟨rfl,by rw[rens_fulls_len n0 c.2,rens_len,rcut_length c.2.symm hps]⟩] at ho
   rw[occs_back hN nq n0 ks _ _ ps L (by rw[nd_eq h];exact⟨hl,hk⟩) hps ho]
theorem occs_back{N:List Nd}(hN:Nok N)(nq n0:List Str):∀(ks:List T)(is js:List Nat)(ps:List T)(L:Bd),Nts N ks is→ps∈rcut N is js→occs (rens n0 (fulls N is js)) (rens nq ps)=some L→ps=fulls N is js
 |[],is,js,ps,L,h,hp,_=>by
  have e:=List.length_eq_zero_iff.mp h.1
  subst e
  rw[prods_nil.mp hp];rfl
 |k::ks,[],js,ps,L,h,_,_=>by cases h.1
 |k::ks,i::is,[],ps,L,h,hp,_=>by rw[prods_nil.mp hp];rfl
 |k::ks,i::is,j::js,ps,L,h,hp,ho=>by
  refine uEEAA (prods_cons.mp hp) ?_;rintro p r rfl h1 h2
  rw[fulls_cons,rens_2,rens_2,occs_3] at ho
  split at ho
  ·next a b e1 e2=>rw[occ_back hN nq n0 k i j p _ h.cons.1 h1 e1,occs_back hN nq n0 ks is js r _ h.cons.2 h2 e2,fulls_cons]
  ·cases ho
end
mutual
theorem cut_size{N:List Nd}(hK:Kd N):∀(t:T)(a b:Nat),Nt N t a→∀ p∈cut N a b,p.size≤t.size
 |.mk o ks,a,b,.mk h hl hk,p,hp=>by
  rcases(cut_mem hK (List.getElem?_eq_some_iff.mp h).1).mp hp with rfl|⟨c,ps,rfl,hps⟩
  ·rw[T.size_1,T.sizes_1,T.size_1];lia
  ·rw[T.size_1,T.size_1]
   exact Nat.succ_le_succ (rcut_size hK ks _ _ (by rw[nd_eq h];exact⟨hl,hk⟩) ps hps)
theorem rcut_size{N:List Nd}(hK:Kd N):∀(ks:List T)(is js:List Nat),Nts N ks is→∀ ps∈rcut N is js,T.sizes ps≤T.sizes ks
 |[],is,js,h,ps,hp=>by
  have:=List.length_eq_zero_iff.mp h.1
  subst this
  rw[prods_nil.mp hp];exact Nat.le_refl _
 |k::ks,[],js,h,ps,hp=>by cases h.1
 |k::ks,i::is,[],h,ps,hp=>by rw[prods_nil.mp hp,T.sizes_1];exact Nat.zero_le _
 |k::ks,i::is,j::js,h,ps,hp=>by
  refine uEEAA (prods_cons.mp hp) ?_;rintro p r rfl h1 h2
  exact Nat.add_le_add (cut_size hK k i j h.cons.1 p h1) (rcut_size hK ks is js h.cons.2 r h2)
end
theorem least_size{N:List Nd}(hN:Nok N){t1 t2:T}{a b f:Nat}(ha:Nt N t1 a)(hb:Nt N t2 b)(hd:t1.dep≤f)(hz:t1.size≤5):(au f [t1,t2] []).1.size=(full N a b).size∧(full N a b).size≤5:=by
 have fc:=full_cut hN.kd t1 a b ha
 have z:=Nat.le_trans (cut_size hN.kd t1 a b ha _ fc) hz
 rw[(au_full hN f t1 t2 a b [] [] ha hb hd .nil).1]
 exact⟨(nmd_ok (full N a b) [] (cut_ok hN t1 a b ha hb.lt _ fc).1 (by simp;lia)).2.2,z⟩
theorem heap_law{N:List Nd}(hN:Nok N){t1 t2:T}{a b f:Nat}(ha:Nt N t1 a)(hb:Nt N t2 b)(hd:t1.dep≤f)(hz:t1.size≤5){S:List T}(hS:Nms N a b (au f [t1,t2] []).1.size S):S.filter (covB S)=[(au f [t1,t2] []).1]:=by
 have e:(au f [t1,t2] []).1=nmT (full N a b):=(au_full hN f t1 t2 a b [] [] ha hb hd .nil).1
 have fc:=full_cut hN.kd t1 a b ha
 have lz:=(least_size hN ha hb hd hz).1
 rw[lz] at hS
 rw[e]
 have least:nmT (full N a b)∈S:=(hS.2 _).mpr (iEAA _ fc (Nat.le_refl _) rfl)
 refine nodup_filter_one hS.1 least fun w hw=>?_
 refine uEAA ((hS.2 w).mp hw) ?_;rintro q hq hz rfl
 unfold covB
 rw[@decide_eq_true_iff _ (Classical.propDecidable _)]
 have r0:=nmT_ren (full N a b)
 constructor
 ·intro k
  refine Classical.byContradiction fun ne=>k _ least (fun q=>ne q.symm) ?_
  have rq:=nmT_ren q
  rw[rq.1,r0.1]
  refine uEA (occ_full hN (nmd q []).2 (nmd (full N a b) []).2 t1 a b q ha hq rq.2) fun L h1 h2=>?_
  exact(iEA L h1 h2.con)
 ·rintro k o ho ne hh;refine uEA hh ?_;clear hh;rintro L h1 _
  refine uEAA ((hS.2 o).mp ho) ?_;rintro u hu _ rfl
  rw[k,r0.1,(nmT_ren u).1] at h1
  exact ne (by rw[k,occ_back hN _ _ t1 a b u L ha hu h1])
noncomputable abbrev sc_law:Names:=[(("script":Str),NameKind.local),(("hand":Str),NameKind.local),(("terms":Str),NameKind.local),(("lap":Str),NameKind.local),(("known":Str),NameKind.local),(("due":Str),NameKind.local),(("x":Str),NameKind.local),(("y":Str),NameKind.local),(("wides":Str),NameKind.local),(("t":Str),NameKind.local),(("narrow":Str),NameKind.local),(("wide":Str),NameKind.local),(("bounds":Str),NameKind.local),(("bound":Str),NameKind.local),(("heap_now":Str),NameKind.local),(("least_now":Str),NameKind.local),(("one":Str),NameKind.local),(("other":Str),NameKind.local),(("_law_hand":Str),NameKind.globalImplicit),(("_law_term":Str),NameKind.globalImplicit),(("range":Str),NameKind.globalImplicit),(("_law_pick":Str),NameKind.globalImplicit),(("_law_bent":Str),NameKind.globalImplicit),(("_law_shared":Str),NameKind.globalImplicit),(("tuple":Str),NameKind.globalImplicit),(("common_of":Str),NameKind.globalImplicit),(("common":Str),NameKind.globalImplicit),(("_law_joined":Str),NameKind.globalImplicit),(("is_covered":Str),NameKind.globalImplicit),(("_law_fits":Str),NameKind.globalImplicit),(("zip":Str),NameKind.globalImplicit),(("placed":Str),NameKind.globalImplicit),(("size":Str),NameKind.globalImplicit),(("Heap":Str),NameKind.globalImplicit),(("HeapCommon":Str),NameKind.globalImplicit)]
theorem def_law(P:Params):Def P 549 ["script"] sc_law (fnBody (top 34)):=Def.make (bind1 (by intros;kernel_rfl)) (by kernel_rfl) (by kernel_rfl)
section
variable{G:GC}{ℓ:Nat}{sc:Names}{m:MM}{own:Own}{A:HA}{pos:Pos}{o:Expr}
structure Tz (ts:List T) (t0 tz:T):Prop where
 hd:∃ r,ts=t0::r
 la:∃ u,ts=u++[tz]
 len:ts.length=2∨ts.length=3
 std:∀ t∈ts,t.std=true∧t.dep≤4∧t.size≤65
theorem Tz.m0{ts:List T}{t0 tz:T}(h:Tz ts t0 tz):t0∈ts:=by obtain⟨r,e⟩:=h.hd;rw[e];exact List.mem_cons_self
theorem Tz.mz{ts:List T}{t0 tz:T}(h:Tz ts t0 tz):tz∈ts:=by obtain⟨r,e⟩:=h.la;rw[e];exact List.mem_append_right _ (List.mem_singleton.mpr rfl)
theorem Tz.rw{ts:List T}{t0 tz:T}(h:Tz ts t0 tz):Rw ts 4:=⟨h.len,fun t ht=>(T.std_ok t (h.std t ht).1).1,fun t ht=>(h.std t ht).2.1⟩
theorem Tz.two{ts:List T}{t0 tz:T}(h:Tz ts t0 tz):Rw [t0,tz] 4:=by
 have k:∀ t∈[t0,tz],t∈ts:=fun t ht=>by
  rcases List.mem_cons.mp ht with rfl|ht
  ·exact h.m0
  ·rw[List.mem_singleton.mp ht];exact h.mz
 exact⟨.inl rfl,fun t ht=>h.rw.ok t (k t ht),fun t ht=>h.rw.dep t (k t ht)⟩
theorem P.t0{ts:List T}{t0 tz:T}{tl:Addr}{k:Nat}{q q2:Pos}(h:Tz ts t0 tz)(hm:m ("terms":Str)=some (.ref tl))(ho:own tl=some (.list (T.avs ts)))(hk:autoParam (sc.lookup ("terms":Str)=some .local) sK):EvP G ℓ sc m own (.Subscript (.Name "terms" q) (.Constant (.int 0) k q2) pos) t0.av:=by
 obtain⟨r,e⟩:=h.hd
 exact P.item (P.lo hk hm) P.i (Sb.list (k:=0) ho (by rw[e,T.avs_2];rfl) (by decide) rf) (by intro _ _;rfl)
theorem P.tL{ts:List T}{t0 tz:T}{tl:Addr}{k:Nat}{q q2 q3:Pos}(h:Tz ts t0 tz)(hm:m ("terms":Str)=some (.ref tl))(ho:own tl=some (.list (T.avs ts)))(hk:autoParam (sc.lookup ("terms":Str)=some .local) sK):EvP G ℓ sc m own (.Subscript (.Name "terms" q) (.UnaryOp .USub (.Constant (.int 1) k q2) q3) pos) tz.av:=by
 obtain⟨u,e⟩:=h.la
 exact P.item (P.lo hk hm) (Ev.neg (Ev.cint (iEA _ rfl rf))) (Sb.last (l:=T.avs u) (by rw[ho,e,T.avs_eq,T.avs_eq,List.map_append];rfl) rf) (by intro _ _;rfl)
theorem Fm.apart{own own':Own}{l l':List (Addr × AObj)}(F:Fm own own' l l'){a:Addr}{z:AObj}(h:own a=some z)(hn:a∉l.map (·.1)):own' a=some z∧a∉l'.map (·.1):=
 ⟨F.keep _ _ h hn,fun m=>by
  rcases F.new _ m with q|q
  ·exact hn q
  ·rw[h] at q;cases q⟩
theorem Nw.and{own own':Own}{l k:List (Addr × AObj)}(n:Nw own own' l)(S:St own k):St own' (l++k):=by
 refine⟨?_,fun p hp=>?_⟩
 ·rw[List.map_append]
  refine List.nodup_append.mpr (iAA n.st.nd S.nd (fun x hx y hy e=>?_))
  refine uEA (List.mem_map.mp hy) ?_;rintro p hp rfl
  rcases n.fm.new x hx with q|q
  ·simp at q
  ·rw[e,S.at_ p hp] at q;cases q
 ·rcases List.mem_append.mp hp with hp|hp
  ·exact n.st.at_ p hp
  ·exact n.old _ _ (S.at_ p hp)
theorem St.subl{own:Own}{l k:List (Addr × AObj)}(S:St own l)(h:k.Sublist l):St own k:=⟨S.nd.sublist (h.map _),fun p hp=>S.at_ p (h.mem hp)⟩
abbrev KL(own0:Own):AF→MM→Own→Prop:=ends (fun v V=>v=.bool true) own0
theorem law_end{ts:List T}{t0 tz:T}{tl:Addr}{own0:Own}(hT:Tz ts t0 tz)(hm:m ("terms":Str)=some (.ref tl))(ho:own tl=some (.list (T.avs ts)))(hl:ℓ≤310) :
  Exs G ℓ sc_law m own (List.drop 13 (fnBody (top 34))) (KL own0):=by
 conv in (List.drop _ _)=>whnf
 have o0:=hT.std t0 hT.m0
 have oz:=hT.std tz hT.mz
 have k0:=T.std_ok t0 o0.1
 have kz:=T.std_ok tz oz.1
 refine Exs.cons (Ex.if_ (Tst.to (t:=decide (t0.size > 5) || decide (tz.size > 5)) (T.or2 (T.cmp (Ev.k k_size ((P.one (P.t0 hT hm ho)).to (size_ok 4 t0 _ _ k0.1 o0.2.1 (by lia)))) P.i (Op.gt (VXb (by simp;lia)))) fun V=>T.cmp (Ev.k k_size ((P.one (P.tL hT hm ho)).to (size_ok 4 tz _ _ kz.1 oz.2.1 (by lia)))) P.i (Op.gt (VXb (by simp;lia)))) ?_))
 by_cases hbig:t0.size > 5∨tz.size > 5
 ·rw[if_pos (by simpa using hbig)]
  exact S.ret P.bo rfl
 rw[if_neg (by simpa using hbig)]
 have z0:t0.size≤5:=by lia
 have zz:tz.size≤5:=by lia
 refine Exs.nil (Exs.cons (Ex.assign2w (by kernel_rfl) (by kernel_rfl) (Ev.tuple (Evs.cons (Ev.k k_Heap (Evs.nil (heap_make (by lia) fun A o1 H1 hs1 hf1=>?_)))))
  (hs:=by intro _;kernel_rfl) (hw:=fun env h1 h2 h3=>by dsimp only[swappedStores,List.filterMap,Expr.pos,List.head?,Option.map,Option.getD];rw[kind_fn h3,kind_loc h1,kind_loc h2];kernel_rfl)))
 refine Evs.cons (Ev.k k_law_shared (Evs.cons (Ev.to (P.tup (P.two (P.t0 hT hm (hs1 _ _ ho)) (P.tL hT hm (hs1 _ _ ho)))) (Evs.cons (Ev.dict0 (.dT []) (.inr (.inr rfl)) fun kd hkd=>Evs.nil ((shared_ok_ kd 4 [t0,tz] [] _ _ (upd_self _ _ _) hT.two (by decide) (by show 0+t0.size≤900;lia) (by lia)).tx (Evs.nil (iAEEA (by rw[sizeLine_eq];simp) _ _ rfl ?_))))))))
 rw[upd_upd]
 generalize hL:(au 4 [t0,tz] []).1=least
 have H2:HOk (upd o1 kd (.dT (esG kT vS 0 (au 4 [t0,tz] []).2))) A hd0':=H1.up (sub.upd hkd)
 have ho2:=(sub.upd (o:=.dT (esG kT vS 0 (au 4 [t0,tz] []).2)) hkd) _ _ (hs1 _ _ ho)
 have hn2:tl∉(hd0'.cells A).map (·.1):=fun hm=>by
  rcases hf1.new _ hm with q|q
  ·simp at q
  ·rw[ho] at q;cases q
 generalize upd o1 kd (.dT (esG kT vS 0 (au 4 [t0,tz] []).2))=o2 at H2 ho2
 have hm2:(mset (mset m "least_now" least.av) "heap_now" (.ref A.hp)) ("terms":Str)=some (.ref tl):=hm
 refine Exs.cons (Ex.assign2w (by kernel_rfl) (by kernel_rfl) (Ev.tuple (Evs.cons (Ev.imeth (Ev.to P.lo (iEEEEEAAAAAAAA _ _ _ _ _ rfl H2.h0.hp H2.h0.hd (by kernel_rfl) (cls_Heap _) ((me_Heap_put _).1) ((me_Heap_put _).2.1) ((me_Heap_put _).2.2) ((P.one (P.t0 hT hm2 ho2)).to (put_ok 4 t0 _ _ hd0' _ H2 o0.1 o0.2.1 (by show 0+t0.size≤12;lia) (by lia) fun o3 d3 a g3 ha=>?_)))))))
  (hs:=by intro _;kernel_rfl) (hw:=fun env h1 h2 h3=>by dsimp only[swappedStores,List.filterMap,Expr.pos,List.head?,Option.map,Option.getD];rw[kind_fn h3,kind_loc h1,kind_loc h2];kernel_rfl))
 have l3:d3.N.length≤5:=by have:=g3.len;have e:hd0'.N.length=0:=rfl;lia
 obtain⟨ho3,hn3⟩:=g3.fm.apart ho2 hn2
 refine Evs.cons (Ev.imeth (Ev.to P.lo (iEEEEEAAAAAAAA _ _ _ _ _ rfl g3.ok.h0.hp g3.ok.h0.hd (by kernel_rfl) (cls_Heap _) ((me_Heap_put _).1) ((me_Heap_put _).2.1) ((me_Heap_put _).2.2) ((P.one (P.tL hT hm2 ho3)).to (put_ok 4 tz _ _ d3 _ g3.ok oz.1 oz.2.1 (by lia) (by lia) fun o4 d4 b g4 hb=>Evs.nil (iAEEA (by rw[sizeLine_eq];simp) _ _ rfl ?_))))))
 have H4:=g4.ok
 have l4:d4.N.length≤12:=by have:=g4.len;lia
 have hN:Nok d4.N:=⟨H4.kid,H4.ops,l4,H4.nod⟩
 have ha4:Nt d4.N t0 a:=by
  obtain⟨l,e⟩:=g4.pre
  rw[e];exact ha.up l
 have ls:=least_size hN ha4 hb o0.2.1 z0
 have lo:=au_ok 4 [t0,tz] [] (by simp) hT.two.ok (fun t ht=>by
  rcases List.mem_cons.mp ht with rfl|ht
  ·exact k0.2
  ·rw[List.mem_singleton.mp ht];exact kz.2) hT.two.dep (by show 0+t0.size≤900;lia)
 rw[hL] at ls lo
 have l5:least.size≤5:=by lia
 have law:=fun S hS=>heap_law hN ha4 hb o0.2.1 z0 (S:=S) hS
 rw[hL] at law
 refine Exs.cons (Ex.ret (Ev.cmp (Ev.imeth (Ev.k k_HeapCommon (Evs.cons (Ev.to P.lo (Evs.nil (hc_make (by lia) fun x d k r o5 n5=>?_))))))))
 have S5:=((n5.and H4.st).subl (.cons₂ _ (.cons₂ _ (.cons _ (.cons _ (List.Sublist.refl _)))))).perm (.swap _ _ _)
 refine(iEEEEEAAAAAAAA x 291 d _ 269 rfl (S5.get (i:=0) rfl) (S5.get (i:=1) rfl) (by kernel_rfl) (cls_HC _) ((me_HC_common _).1) ((me_HC_common _).2.1) ((me_HC_common _).2.2) ((P.cons P.lo (P.two P.lo (Ev.k k_size ((P.one P.lo).to (size_ok 4 least _ _ lo.1 lo.2 (by lia)))))).to ((common_ok2 S5 (H4.up n5.old) hN ha4 hb.lt z0 l5 (by lia) law).conseq fun v q q8278=>uEA q8278 fun r e hq=>(iEA q (sub.refl _) ?_))))
 subst e
 refine Ev.list (Evs.cons (Ev.to P.lo (Evs.nil ⟨by rw[sizeLine_eq];simp,fun c hc=>?_⟩)))
 have kl:=T.key_av least lo.1
 have dl:AV.deps (T.avs [least])≤60:=by rw[T.deps_avs];exact Nat.le_trans (T.deps_le.mpr fun t ht=>by rw[List.mem_singleton.mp ht];exact lo.2) (by decide)
 refine Op.eqL (x:=T.avs [least]) (y:=[least.av]) (sub.upd hc _ _ hq) (upd_self _ _ _) (T.keys_avs _ fun t ht=>by rw[List.mem_singleton.mp ht];exact lo.1) (T.keys_avs [least] fun t ht=>by rw[List.mem_singleton.mp ht];exact lo.1) dl dl (by lia) ?_
 rw[decide_eq_true (by rfl)]
 rfl
end
section
variable{G:GC}{ℓ:Nat}{sc:Names}{m:MM}{own:Own}{A:HA}{pos:Pos}{o:Expr}
theorem Tz.gr{ts:List T}{t0 tz:T}(h:Tz ts t0 tz):∀ t∈ts,t.gr=true:=fun t ht=>(T.std_ok t (h.std t ht).1).2
theorem Tz.ne{ts:List T}{t0 tz:T}(h:Tz ts t0 tz):ts≠[]:=by obtain⟨r,e⟩:=h.hd;rw[e];simp
theorem Tz.due{ts:List T}{t0 tz:T}(h:Tz ts t0 tz):(au 4 ts []).1.ok=true∧(au 4 ts []).1.dep≤4:=
 au_ok 4 ts [] h.ne h.rw.ok h.gr h.rw.dep (by have:=(h.std _ (hd0_mem h.ne)).2.2;show 0+(hd0 ts).size≤900;lia)
theorem zipL2{a:Addr}{L:List T}{B:List Addr}{tl:Addr}{i:Nat}{d:AV}(h:(zipL [.lst tl (T.avs L),.lst a (B.map AV.ref)] L.length)[i]?=some d)(hl:B.length=L.length):∃ t b,L[i]?=some t∧B[i]?=some b∧d=.tup [t.av,.ref b]:=by
 obtain⟨hi,rfl⟩:=zipL_get h
 have e1:=List.getElem?_eq_getElem hi
 have e2:=List.getElem?_eq_getElem (show i<B.length by lia)
 refine(iEEAA _ _ e1 e2 ?_)
 unfold col ZS.list
 rw[List.map_cons,List.map_cons,List.map_nil]
 rw[List.getD_eq_getElem?_getD,List.getD_eq_getElem?_getD,T.avs_eq,List.getElem?_map,List.getElem?_map,e1,e2];rfl
theorem law_mid{ts:List T}{t0 tz due:T}{tl:Addr}{own0:Own}(hT:Tz ts t0 tz)(hm:m ("terms":Str)=some (.ref tl))(ho:own tl=some (.list (T.avs ts)))(hdue:(au 4 ts []).1=due)(hmd:m ("due":Str)=some due.av)(hds:due.size≤900)(hl:ℓ≤310) :
  Exs G ℓ sc_law m own (List.drop 11 (fnBody (top 34))) (KL own0):=by
 conv in (List.drop _ _)=>whnf
 have dk:=hT.due
 rw[hdue] at dk
 have len:=hT.len
 refine Exs.cons (Ex.assignComp (by kernel_rfl) (by kernel_rfl) rfl (Ev.to (P.lo (hm:=hm)) (ItT.list ho ⟨by rw[T.avs_len,sizeLine_eq];lia,fun i ys o'=>∃ bl:List Addr,ys=bl.map AV.ref∧bl.length=i∧Nw own o' (bl.map fun b=>(b,AObj.dS [])),(iEAA [] rfl rfl ⟨⟨List.nodup_nil,fun p hp=>by simp at hp⟩,Fm.refl _ _⟩),?_,?_,?_⟩)))
 ·rintro i ys o' hh;refine uEAA hh ?_;clear hh;rintro bl _ _ n
  exact n.old _ _ ho
 ·intro J' hJ;rintro i d ys o' hd hh;refine uEAA hh ?_;clear hh;rintro bl rfl hi n
  refine⟨_,.name rfl,?_⟩
  unfold IfsT
  dsimp only
  rw[if_pos rfl]
  refine Ev.dict0 (.dS []) (.inl rfl) fun b hb=>⟨_,sub.refl _,hJ _ _ _ (iEAA (bl++[b]) (by rw[List.map_append];rfl) (by rw[List.length_append,hi];rfl) ?_)⟩
  rw[List.map_append]
  exact n.join (Nw.one hb)
 ·rintro ys o1 hh;refine uEAA hh ?_;clear hh;rintro bl rfl hbl n a ha
  rw[T.avs_len] at hbl
  have ho1:=n.old _ _ ho
  have hb1:∀ b∈bl,o1 b=some (.dS []):=fun b hb=>n.st.at_ (b,.dS []) (List.mem_map_of_mem hb)
  have hbn:bl.Nodup:=by have:=n.st.nd;rwa[List.map_map,show((fun p:Addr × AObj=>p.1)∘fun b=>(b,AObj.dS []))=id from rfl,List.map_id] at this
  have ha1:=fun c z (h:o1 c=some z)=>sub.upd (o:=.list (bl.map AV.ref)) ha c z h
  have haa:=upd_self o1 a (.list (bl.map AV.ref))
  generalize upd o1 a (.list (bl.map AV.ref))=o2 at ha1 haa
  have hmB:(mset m "bounds" (.ref a)) ("terms":Str)=some (.ref tl):=hm
  refine Exs.cons (Ex.for_ (Ev.k k_zip ((P.two (P.lo (hm:=hmB)) P.lo).to (Cal.zip2 (z1:=.lst tl (T.avs ts)) (z2:=.lst a (bl.map AV.ref)) (ha1 _ _ ho1) haa fun z o3 Nz=>ItT.zip Nz (m:=ts.length) ?_ (by simp) (by simp) ?_))))
  ·intro y hy
   simp only[List.mem_cons,List.not_mem_nil,or_false] at hy
   rcases hy with rfl|rfl
   ·exact T.avs_len ts
   ·exact(List.length_map _).trans hbl
  ·have hTO:o2 (z+2+1)=Option.none:=(Nz.fresh (z+2+1) (Nat.le_add_right_of_le (Nat.le_add_right z 2))).1
   have s3:=sub.upd (o:=.otup 2) hTO
   have hz:(zipL [ZS.lst tl (T.avs ts),ZS.lst a (bl.map AV.ref)] ts.length).length=ts.length:=by unfold zipL;rw[List.length_map,List.length_range]
   refine⟨fun i m' o'=>m' ("terms":Str)=some (.ref tl)∧m' ("due":Str)=some due.av∧o' (z+2+1)=some (.otup 2)∧o' tl=some (.list (T.avs ts))∧o' a=some (.list (bl.map AV.ref))∧∀ b∈bl.drop i,o' b=some (.dS []),(iAAAAA hm hmd (upd_self _ _ _) (s3 _ _ (ha1 _ _ ho1)) (s3 _ _ haa) (fun b hb=>s3 _ _ (ha1 _ _ (hb1 b (List.mem_of_mem_drop hb))))),?_,?_,?_⟩
   ·rintro i m' o' hh;refine uAAAAA hh ?_;clear hh;rintro _ _ h1 h2 h3 _
    exact⟨h1,fun y hy=>by
     simp only[List.mem_cons,List.not_mem_nil,or_false] at hy
     rcases hy with rfl|rfl
     ·exact h2
     ·exact h3⟩
   ·intro J' K' hJ hK;rintro i d m' o' hd hh;refine uAAAAA hh ?_;clear hh;rintro hm hmd h1 h2 h3 h4
    refine uEEAA (zipL2 hd hbl) ?_;rintro t b ht hb rfl
    have mt:=List.mem_of_getElem? ht
    have ot:=hT.std t mt
    have kt:=T.std_ok t ot.1
    obtain⟨hbi,ebi⟩:=List.getElem?_eq_some_iff.mp hb
    have hdr:bl.drop i=b::bl.drop (i+1):=by rw[List.drop_eq_getElem_cons hbi,ebi]
    have hob:=h4 b (by rw[hdr];exact List.mem_cons_self)
    have hnb:b∉bl.drop (i+1):=by
     have:=hbn.sublist (List.drop_sublist i bl)
     rw[hdr] at this
     exact(List.nodup_cons.mp this).1
    have hMt:Mt due t:=hdue▸au_mt hT.ne hT.gr hT.rw.dep mt
    have hf:(fits due t []).1=true:=(fits_iff due t).mpr hMt
    refine uEA ((fits_spec due t [] [] Rz.nil).1 hf) fun l hocc hRz=>?_
    obtain⟨hsub,hbnd⟩:=occ_subst (fits due t []).2 due t l hocc fun v x hx=>(hRz.2 v x).mpr (by simpa using hx)
    have pl:=fun own=>placed_ok (G:=G) (fits due t []).2 b 4 due ℓ own
    have hmD:(mset (mset m' "t" t.av) "bound" (.ref b)) ("due":Str)=some due.av:=hmd
    refine⟨_,.pair (by kernel_rfl) (by kernel_rfl),Exs.cons (Ex.if_ (Tst.boolop (Tsts.or (Tst.not (Tst.val (Ev.k k_law_fits ((P.cons (P.lo (hm:=hmD)) (P.two P.lo P.lo)).to ((fits_ok_ b 4 due t [] _ _ hob dk.1 kt.1 dk.2 (by decide) (iEAA 4 (by decide) (fun v x h=>by simp[bat] at h) ot.2.1) (by simp;lia) (by lia)).tx (iEA _ rfl ?_)))) (by intro _ _;rfl))))))⟩
    rw[hf,if_neg (by decide)]
    have pl:=pl (upd o' b (.dS (bes (fits due t []).2))) (upd_self _ _ _) dk.1 hbnd dk.2 (by lia)
    rw[hsub] at pl
    refine Tsts.or (Tst.to (t:=false) (T.cmp (Ev.k k_placed ((P.two (P.lo (hm:=hmD)) P.lo).to pl)) P.lo (Op.neK (T.key_av t kt.1) (T.key_av t kt.1) (by rw[T.dep_av];lia) (by rw[T.dep_av];lia) (by lia) (VXb (by rw[decide_eq_true rfl];rfl)))) ?_)
    rw[if_neg (by decide)]
    refine Tsts.or (Tst.to (t:=false) (T.nt (t:=true) (T.ts (Ev.k k_is_covered ((P.two P.lo (P.lo (hm:=hmD))).to (is_covered_ok (N:=4) true ⟨fun V=>rfl,fun V=>hMt⟩ dk.1 kt.1 ot.2.1 (by decide) (by lia) (by lia)))))) ?_)
    refine Tsts.nil_or ?_
    refine Exs.nil (Exs.nil ⟨_,_,fun x v hx=>hx,sub.refl _,hJ _ _ _ (iAAAAA hm hmd ?_ ?_ ?_ (fun c hc=>?_))⟩)
    ·exact keep h1 hob (by intro h;cases h)
    ·exact keep h2 hob (by intro h;cases h)
    ·exact keep h3 hob (by intro h;cases h)
    ·have hcb:c≠b:=fun e=>hnb (by rw[← e];exact hc)
     rw[upd_ne _ _ hcb]
     exact h4 c (by rw[hdr];exact List.mem_cons_of_mem _ hc)
   ·rintro m' o' hh;refine uAAAAA hh ?_;clear hh;rintro hm _ _ h2 _ _
    exact law_end hT hm h2 hl
end
set_option tactic.hygienic true in
mutual
theorem occ_size:∀(w n:T)(l:Bd),w.ok=true→occ w n=some l→w.size≤n.size
 |.mk v ks,.mk o ns,l,hw,h=>by
  rw[occ_1] at h
  rw[T.size_1,T.size_1]
  cases hv:isV v with
  |true=>rw[(T.ok_iff.mp hw).2.2.1 hv,T.sizes_1];lia
  |false=>
   rw[if_neg (by rw[hv];simp)] at h
   split at h
   ·next c=>exact Nat.succ_le_succ (occs_size ks ns l (T.ok_iff.mp hw).2.2.2 c.2 h)
   ·cases h
theorem occs_size:∀(ks ns:List T)(l:Bd),(∀ k∈ks,k.ok=true)→ks.length=ns.length→occs ks ns=some l→T.sizes ks≤T.sizes ns
 |[],_,_,_,_,_=>by rw[T.sizes_1];exact Nat.zero_le _
 |_::_,[],_,_,h,_=>by cases h
 |k::ks,n::ns,l,hw,hl,h=>by
  rw[occs_3] at h
  rw[T.sizes_2,T.sizes_2]
  split at h
  ·next a b e1 e2=>exact Nat.add_le_add (occ_size k n a (hw k List.mem_cons_self) e1) (occs_size ks ns b (fun k hk=>hw k (List.mem_cons_of_mem _ hk)) (Nat.succ.inj hl) e2)
  ·cases h
end
section
variable{G:GC}{ℓ:Nat}{sc:Names}{m:MM}{own:Own}{A:HA}{pos:Pos}{o:Expr}
theorem Tz.dsz{ts:List T}{t0 tz:T}(h:Tz ts t0 tz):(au 4 ts []).1.size≤65:=by
 refine uEA (au_mt h.ne h.gr h.rw.dep h.m0) fun l hl V=>?_
 exact Nat.le_trans (occ_size _ _ _ h.due.1 hl) (h.std t0 h.m0).2.2
theorem law_wides{ts Ws:List T}{t0 tz due:T}{tl wl:Addr}{own0:Own}(hT:Tz ts t0 tz)(hm:m ("terms":Str)=some (.ref tl))(ho:own tl=some (.list (T.avs ts)))(hdue:(au 4 ts []).1=due)(hmd:m ("due":Str)=some due.av)
  (hmw:m ("wides":Str)=some (.ref wl)) (how:own wl=some (.list (T.avs Ws))) (hW:∀ w∈Ws,w.ok=true∧w.dep≤5∧w.size≤900) (hl:ℓ≤310) :
  Exs G ℓ sc_law m own (List.drop 10 (fnBody (top 34))) (KL own0):=by
 conv in (List.drop _ _)=>whnf
 have dk:=hT.due
 have ds:=hT.dsz
 rw[hdue] at dk ds
 have len:=hT.len
 have nok:∀ n∈due::ts,n.ok=true∧n.dep≤4:=fun n hn=>by
  rcases List.mem_cons.mp hn with rfl|hn
  ·exact dk
  ·exact⟨hT.rw.ok n hn,hT.rw.dep n hn⟩
 refine Exs.cons (Ex.for_ (Ev.binop (Ev.list (Evs.cons (Ev.to (P.lo (hm:=hmd)) (Evs.nil ⟨by rw[sizeLine_eq];simp,fun a ha=>Ev.to (P.lo (hm:=hm)) (Op.addL (x:=[due.av]) (y:=T.avs ts) (upd_self _ _ _) (sub.upd ha _ _ ho) (by rw[T.avs_len,sizeLine_eq];simp;lia) fun c hc=>?_)⟩))))))
 have ho1:=(sub.upd (o:=.list ([due.av]++T.avs ts)) hc) _ _ (sub.upd (o:=.list [due.av]) ha _ _ ho)
 have how1:=(sub.upd (o:=.list ([due.av]++T.avs ts)) hc) _ _ (sub.upd (o:=.list [due.av]) ha _ _ how)
 have hc1:=upd_self (upd own a (.list [due.av])) c (.list ([due.av]++T.avs ts))
 generalize upd (upd own a (.list [due.av])) c (.list ([due.av]++T.avs ts))=o1 at ho1 how1 hc1
 have e1:[due.av]++T.avs ts=T.avs (due::ts):=by rw[T.avs_2];rfl
 rw[e1] at hc1
 refine ItT.list hc1 ⟨fun i m' o'=>m' ("terms":Str)=some (.ref tl)∧m' ("due":Str)=some due.av∧m' ("wides":Str)=some (.ref wl)∧sub o1 o',(iAAA hm hmd hmw (sub.refl _)),fun i m' o' h=>h.2.2.2 _ _ hc1,?_,?_⟩
 ·intro J' K' hJ hK;rintro i d m' o' hd hh;refine uAAA hh ?_;clear hh;rintro hm hmd hmw hs
  rw[T.avs_eq,List.getElem?_map] at hd
  refine uEA (Option.map_eq_some_iff.mp hd) ?_;rintro n hn rfl
  have kn:=nok n (List.mem_of_getElem? hn)
  refine⟨_,.name (by kernel_rfl),Exs.cons (Ex.for_ (Ev.to (P.lo (hm:=hmw)) (ItT.list (hs _ _ how1) ⟨fun i m' o'=>m' ("terms":Str)=some (.ref tl)∧m' ("due":Str)=some due.av∧m' ("wides":Str)=some (.ref wl)∧m' ("narrow":Str)=some n.av∧sub o1 o',(iAAAA hm hmd hmw (by rfl) hs),fun i m' o' h=>h.2.2.2.2 _ _ how1,?_,?_⟩)))⟩
  ·intro J' K' hJ hK;rintro i d m' o' hd hh;refine uAAAA hh ?_;clear hh;rintro hm hmd hmw hmn hs
   rw[T.avs_eq,List.getElem?_map] at hd
   refine uEA (Option.map_eq_some_iff.mp hd) ?_;rintro w hw rfl
   have kw:=hW w (List.mem_of_getElem? hw)
   have hmN:(mset m' "wide" w.av) ("narrow":Str)=some n.av:=hmn
   refine⟨_,.name (by kernel_rfl),Exs.cons (Ex.if_ (Tst.cmp (Ev.to (Ev.k k_is_covered ((P.two (P.lo (hm:=hmN)) P.lo).to (is_covered_ok (N:=4) (fits w n []).1 (fits_iff w n).symm kw.1 kn.1 kn.2 (by decide) (by lia) (by lia)))) ?_)))⟩
   refine Ev.k k_law_fits (Evs.cons (Ev.to P.lo (Evs.cons (Ev.to (P.lo (hm:=hmN)) (Evs.cons (Ev.dict0 (.dS []) (.inl rfl) fun b hb=>Evs.nil ((fits_ok_ b 5 w n [] _ _ (upd_self _ _ _) kw.1 kn.1 kw.2.1 (by decide) (iEAA 4 (by decide) (fun v x h=>by simp[bat] at h) kn.2) (by simp;lia) (by lia)).tx (Op.isNotB (iEA _ rfl ?_)))))))))
   rw[decide_eq_true rfl,upd_upd,if_neg (by decide)]
   exact Exs.nil (Exs.nil ⟨_,_,fun x v hx=>hx,sub.refl _,hJ _ _ _ (iAAAA hm hmd hmw hmn (hs.trans (sub.upd hb)))⟩)
  ·rintro m' o' hh;refine uAAAA hh ?_;clear hh;rintro hm hmd hmw _ hs
   exact Exs.nil ⟨_,_,fun x v hx=>hx,sub.refl _,hJ _ _ _ (iAAA hm hmd hmw hs)⟩
 ·rintro m' o' hh;refine uAAA hh ?_;clear hh;rintro hm hmd hmw hs
  exact law_mid hT hm (hs _ _ ho1) hdue hmd (by lia) hl
end
mutual
theorem jn_size(a b:Str):∀ t:T,(jn a b t).size≤t.size
 |.mk o ks=>by
  rw[jn_1]
  split
  ·rw[T.size_1,T.sizes_1,T.size_1];lia
  ·rw[T.size_1,T.size_1];exact Nat.succ_le_succ (jns_size a b ks)
theorem jns_size(a b:Str):∀ l:List T,T.sizes (jns a b l)≤T.sizes l
 |[]=>by rw[jns_1];exact Nat.le_refl _
 |k::ks=>by rw[jns_2,T.sizes_2,T.sizes_2];exact Nat.add_le_add (jn_size a b k) (jns_size a b ks)
end
noncomputable def tX:T:=.mk (Str.ofString "?x") []
noncomputable def tY:T:=.mk (Str.ofString "?y") []
noncomputable def tF(l:List T):T:=.mk (Str.ofString "f") l
noncomputable def tG(l:List T):T:=.mk (Str.ofString "g") l
noncomputable def W8:List T:=[tX,tF [tX],tF [tX,tX],tF [tX,tY],tG [tX,tY],tG [tX,tX],tG [tX,tY,tX],tG [tY,tF [tX],tX]]
def WOk2(Ws:List T):Prop:=∀ w∈Ws,w.ok=true∧w.dep≤5∧w.size≤900
theorem W8_ok:WOk2 W8:=by
 have h:(W8.all fun w=>w.ok&&(decide (w.dep≤5)&&decide (w.size≤900)))=true:=by kernel_rfl
 intro w hw
 have:=List.all_eq_true.mp h w hw
 rwa[Bool.and_eq_true,Bool.and_eq_true,decide_eq_true_eq,decide_eq_true_eq] at this
noncomputable def lasO(t:T):List T:=if 1≤t.kids.length then [.mk t.op (t.kids.take (t.kids.length-1))] else []
theorem lasO_ok{t w:T}(h:t.ok=true∧t.dep≤4∧t.size≤65)(hw:w∈lasO t):w.ok=true∧w.dep≤5∧w.size≤900:=by
 obtain⟨o,ks⟩:=t
 unfold lasO at hw
 split at hw
 ·rw[List.mem_singleton.mp hw]
  have k:=T.ok_iff.mp h.1
  have hd:=h.2.1
  have hz:=h.2.2
  rw[T.size_1] at hz
  have e:=T.sizes_app (ks.take (ks.length-1)) (ks.drop (ks.length-1))
  rw[List.take_append_drop] at e
  refine(iAA (T.ok_iff.mpr (iAAA k.1 (Nat.le_trans (List.length_take_le' _ _) k.2.1) (fun v=>by rw[k.2.2.1 v];rfl) (fun q hq=>k.2.2.2 q (List.mem_of_mem_take hq)))) ?_ ?_)
  ·rw[T.dep_1]
   exact Nat.succ_le_succ (T.deps_le.mpr fun q hq=>Nat.le_trans (T.deps_le.mp (Nat.le_of_succ_le_succ hd) q (List.mem_of_mem_take hq)) (by decide))
  ·rw[T.size_1]
   show T.sizes (ks.take (ks.length-1))+1≤900
   lia
 ·simp at hw
section
variable{G:GC}{ℓ:Nat}{sc:Names}{m:MM}{own:Own}{A:HA}{pos:Pos}{o:Expr}
theorem drop_last2(l:List AV)(h:1≤l.length):avPick Option.none (some (-1)) l=l.take (l.length-1):=by
 have:clipAt l.length (-1)=l.length-1:=by
  unfold clipAt;rw[if_pos (by decide)]
  generalize l.length=n at h
  cases n with
  |zero=>cases h
  |succ n=>rw[show(-1+((n+1:Nat):Int))=(n:Int) from by rw[Int.add_comm];exact Int.add_neg_cancel_right (n:Int) 1,Int.min_eq_left (Int.ofNat_le.mpr (Nat.le_succ n)),Int.max_eq_right (Int.natCast_nonneg n)];rfl
 show(l.drop 0).take (clipAt l.length (-1)-0)=_
 rw[this];rfl
theorem law_x{ts:List T}{t0 tz due:T}{tl:Addr}{own0:Own}(hT:Tz ts t0 tz)(hm:m ("terms":Str)=some (.ref tl))(ho:own tl=some (.list (T.avs ts)))(hdue:(au 4 ts []).1=due)(hmd:m ("due":Str)=some due.av)(hl:ℓ≤310) :
  Exs G ℓ sc_law m own (List.drop 7 (fnBody (top 34))) (KL own0):=by
 conv in (List.drop _ _)=>whnf
 have dk:=hT.due
 have ds:=hT.dsz
 rw[hdue] at dk ds
 refine Exs.cons (Ex.assign2 (by kernel_rfl) (by kernel_rfl) (Ev.to (P.tup (P.two (P.tup (P.one P.s)) (P.tup (P.one P.s)))) (iEEA _ _ rfl ?_)) (hw:=fun env=>?_))
 ·refine Exs.cons (Ex.assign (by kernel_rfl) (Ev.list (Evs.to (P.cons P.lo (P.cons (P.tup (P.two P.s P.lo)) (P.cons (P.tup (P.cons P.s (P.two P.lo P.lo))) (P.cons (P.tup (P.cons P.s (P.two P.lo P.lo))) (P.cons (P.tup (P.cons P.s (P.two P.lo P.lo))) (P.cons (P.tup (P.cons P.s (P.two P.lo P.lo))) (P.two (P.tup (P.cons P.s (P.cons P.lo (P.two P.lo P.lo)))) (P.tup (P.cons P.s (P.cons P.lo (P.two (P.tup (P.two P.s P.lo)) P.lo))))))))))) ⟨by rw[sizeLine_eq];simp,fun wl hwl=>?_⟩)))
  have hw1:=upd_self own wl (.list (T.avs W8))
  have s1:=sub.upd (o:=.list (T.avs W8)) hwl
  have e8:∀ raw:List AV,raw=T.avs W8→upd own wl (.list raw)=upd own wl (.list (T.avs W8)):=fun raw e=>by rw[e]
  rw[e8 _ (by kernel_rfl)]
  have ho1:=s1 _ _ ho
  generalize upd own wl (.list (T.avs W8))=o1 at hw1 ho1
  have lw:(T.avs W8).length=8:=by rw[T.avs_len];rfl
  have q0:opOk (Str.ofString "?0")=true∧opOk (Str.ofString "?1")=true∧opOk (Str.ofString "?2")=true:=(iAA (by kernel_rfl) (by kernel_rfl) (by kernel_rfl))
  have hmd2:(mset (mset (mset m "x" (.tup [.str "?x"])) "y" (.tup [.str "?y"])) "wides" (.ref wl)) ("due":Str)=some due.av:=hmd
  have hm2:(mset (mset (mset m "x" (.tup [.str "?x"])) "y" (.tup [.str "?y"])) "wides" (.ref wl)) ("terms":Str)=some (.ref tl):=hm
  have j1:=jn_ok_ (G:=G) (Str.ofString "?0") (Str.ofString "?1") q0.1 q0.2.1 4 due ℓ o1 dk.1 dk.2 (by decide) (by lia)
  have j2:=jn_ok_ (G:=G) (Str.ofString "?1") (Str.ofString "?2") q0.2.1 q0.2.2 4 due ℓ o1 dk.1 dk.2 (by decide) (by lia)
  refine Exs.cons (Ex.assign (by kernel_rfl) (Ev.binop (Ev.binop (Ev.to P.lo (Ev.list (Evs.to (P.cons (P.lo (hm:=hmd2)) (P.two (Ev.k k_law_joined ((P.cons (P.lo (hm:=hmd2)) (P.two P.s P.s)).to j1)) (Ev.k k_law_joined ((P.cons (P.lo (hm:=hmd2)) (P.two P.s P.s)).to j2)))) ⟨by rw[sizeLine_eq];simp,fun a ha=>Op.addL (x:=T.avs W8) (sub.upd ha _ _ hw1) (upd_self _ _ _) (by rw[lw,sizeLine_eq];simp) fun c hc=>?_⟩))))))
  have e1:T.avs W8++[due.av,(jn (Str.ofString "?0") (Str.ofString "?1") due).av,(jn (Str.ofString "?1") (Str.ofString "?2") due).av]=T.avs (W8++[due,jn (Str.ofString "?0") (Str.ofString "?1") due,jn (Str.ofString "?1") (Str.ofString "?2") due]):=by
   rw[T.avs_eq,T.avs_eq,List.map_append];rfl
  rw[e1]
  have s2:=(sub.upd (o:=.list [due.av,(jn (Str.ofString "?0") (Str.ofString "?1") due).av,(jn (Str.ofString "?1") (Str.ofString "?2") due).av]) ha).trans (sub.upd (o:=.list (T.avs (W8++[due,jn (Str.ofString "?0") (Str.ofString "?1") due,jn (Str.ofString "?1") (Str.ofString "?2") due]))) hc)
  have hc2:=upd_self (upd o1 a (.list [due.av,(jn (Str.ofString "?0") (Str.ofString "?1") due).av,(jn (Str.ofString "?1") (Str.ofString "?2") due).av])) c (.list (T.avs (W8++[due,jn (Str.ofString "?0") (Str.ofString "?1") due,jn (Str.ofString "?1") (Str.ofString "?2") due])))
  have W11:WOk2 (W8++[due,jn (Str.ofString "?0") (Str.ofString "?1") due,jn (Str.ofString "?1") (Str.ofString "?2") due]):=fun w hw=>by
   rcases List.mem_append.mp hw with hw|hw
   ·exact W8_ok w hw
   ·have js:=jn_ok q0.1 (other:=Str.ofString "?1") due dk.1
    have js2:=jn_ok q0.2.1 (other:=Str.ofString "?2") due dk.1
    have z1:=jn_size (Str.ofString "?0") (Str.ofString "?1") due
    have z2:=jn_size (Str.ofString "?1") (Str.ofString "?2") due
    simp only[List.mem_cons,List.not_mem_nil,or_false] at hw
    rcases hw with rfl|rfl|rfl
    ·exact(iAA dk.1 (by lia) (by lia))
    ·exact(iAA js.1 (by lia) (by lia))
    ·exact(iAA js2.1 (by lia) (by lia))
  have l11:(W8++[due,jn (Str.ofString "?0") (Str.ofString "?1") due,jn (Str.ofString "?1") (Str.ofString "?2") due]).length=11:=rfl
  have ho2:=s2 _ _ ho1
  generalize upd (upd o1 a (.list [due.av,(jn (Str.ofString "?0") (Str.ofString "?1") due).av,(jn (Str.ofString "?1") (Str.ofString "?2") due).av])) c (.list (T.avs (W8++[due,jn (Str.ofString "?0") (Str.ofString "?1") due,jn (Str.ofString "?1") (Str.ofString "?2") due])))=o2 at hc2 ho2
  generalize W8++[due,jn (Str.ofString "?0") (Str.ofString "?1") due,jn (Str.ofString "?1") (Str.ofString "?2") due]=W at hc2 W11 l11
  have len:=hT.len
  refine Ev.comp (by kernel_rfl) rfl (Ev.to (P.lo (hm:=hm2)) (ItT.list ho2 ⟨by rw[T.avs_len,sizeLine_eq];lia,fun i ys o'=>o'=o2∧ys=T.avs ((ts.take i).flatMap lasO),⟨rfl,rfl⟩,fun i ys o' h=>h.1▸ho2,?_,?_⟩))
  ·intro J' hJ;rintro i d ys o' hd ⟨e1',e2'⟩
   subst e1' e2'
   rw[T.avs_eq,List.getElem?_map] at hd
   refine uEA (Option.map_eq_some_iff.mp hd) ?_;rintro t ht rfl
   have ot:=hT.std t (List.mem_of_getElem? ht)
   have kt:=T.ok_iff.mp (by rw[T.eta];exact(T.std_ok t ot.1).1:(T.mk t.op t.kids).ok=true)
   have el:(AV.str t.op::T.avs t.kids).length=t.kids.length+1:=by rw[List.length_cons,T.avs_len]
   have tk:(ts.take (i+1)).flatMap lasO=(ts.take i).flatMap lasO++lasO t:=by rw[List.take_add_one,ht,Option.toList_some,List.flatMap_append,List.flatMap_cons,List.flatMap_nil,List.append_nil]
   show CmpS _ _ _ _ _ _ _ t.av _ _ _
   rw[T.av_eq]
   refine⟨_,.name rfl,?_⟩
   by_cases h1:1≤t.kids.length
   ·refine Tst.to (t:=true) (T.cmp (P.lenT (vs:=.str t.op::T.avs t.kids) P.lo (by rw[el];lia)) P.i (Op.gt (VXb (by rw[el];simp;lia)))) ?_
    rw[if_pos rfl]
    refine Ev.slice (Ev.to P.lo (show Ev _ _ _ _ _ _ _ from Ev.neg (Ev.cint (iEAEA _ rfl _ rfl (Sl.tup (l:=.str t.op::T.avs t.kids) (by rw[el,sizeLine_eq];lia) ?_)))))
    rw[drop_last2 _ (by rw[el];lia)]
    refine⟨_,sub.refl _,hJ _ _ _ ⟨rfl,?_⟩⟩
    rw[tk,lasO,if_pos h1,T.avs_eq ((ts.take i).flatMap lasO++_),List.map_append,← T.avs_eq,List.map_cons,List.map_nil,T.av_1,el]
    obtain⟨k,hk⟩:∃ k,t.kids.length=k+1:=⟨t.kids.length-1,by lia⟩
    rw[hk,Nat.add_sub_cancel,Nat.add_sub_cancel,List.take_succ_cons,T.avs_eq t.kids,T.avs_eq (t.kids.take k),List.map_take]
   ·refine Tst.to (t:=false) (T.cmp (P.lenT (vs:=.str t.op::T.avs t.kids) P.lo (by rw[el];lia)) P.i (Op.gt (VXb (by rw[el];simp;lia)))) ?_
    exact⟨_,sub.refl _,hJ _ _ _ ⟨rfl,by rw[tk,lasO,if_neg h1,List.append_nil]⟩⟩
  ·rintro ys o' ⟨e1',e2'⟩ b hb
   subst e1' e2'
   rw[T.avs_len,List.take_length]
   have e3:T.avs W++T.avs (ts.flatMap lasO)=T.avs (W++ts.flatMap lasO):=by rw[T.avs_eq,T.avs_eq,T.avs_eq,List.map_append]
   refine Op.addL (x:=T.avs W) (y:=T.avs (ts.flatMap lasO)) (sub.upd hb _ _ hc2) (upd_self _ _ _) (by
    have fl:=flat_len lasO 1 ts (fun t V=>by unfold lasO;split<;>simp)
    rw[T.avs_len,T.avs_len,sizeLine_eq];lia) fun wl2 hw2=>?_
   rw[e3]
   refine law_wides (Ws:=W++ts.flatMap lasO) hT hm2 ((sub.upd hw2) _ _ (sub.upd hb _ _ ho2)) hdue hmd2 (by rfl) (upd_self _ _ _) (fun w hw=>?_) hl
   rcases List.mem_append.mp hw with hw|hw
   ·exact W11 w hw
   ·refine uEA (List.mem_flatMap.mp hw) fun t ht hw=>?_
    have ot:=hT.std t ht
    exact lasO_ok (iAA ((T.std_ok t ot.1).1) ot.2.1 ot.2.2) hw
 ·dsimp only[swappedStores,List.filterMap,Expr.pos,List.head?,Option.map,Option.getD]
  cases (env.blockKind != .function)<;>cases (env.kindOf "x" == some .local)<;>cases (env.kindOf "y" == some .local)<;>kernel_rfl
end
section
variable{G:GC}{ℓ:Nat}{sc:Names}{m:MM}{own:Own}{A:HA}{pos:Pos}{o:Expr}
theorem law_ok{sl:Addr}{ns:List Int}(hs:BL G sl (intL ns))(hn:ns.length≤1000)(hl:ℓ≤305):Cal G ℓ own (.ref 549) [.ref sl] (fun v V=>v=.bool true):=by
 refine Cal.fn (def_law _) rfl (by lia) ?_
 conv in (fnBody _)=>whnf
 refine Exs.cons (Ex.assign (by kernel_rfl) (Ev.k k_law_hand ((P.one P.lo).to (hand_ok hs hn (by lia) fun c h cs s hc hh C H=>?_))))
 generalize upd (upd own c (.list (intL cs))) h (.dS (hes c 0 s))=o1 at C H
 refine Exs.cons (Ex.assign (by kernel_rfl) (Ev.list (Evs.cons (Ev.k k_law_term ((P.two P.lo P.i).to ((term_ok_ 2 0 s _ _ C H (by lia) (by decide)).kt fun t p' s' h1 h2 h3 h4=>Evs.nil ⟨by rw[sizeLine_eq];simp,fun tl htl=>?_⟩)))))) 
 have C2:=(C.upd (x:=.dS (hes c p' s'))).fresh (x:=.list [t.av]) htl
 have H2:=(Ha.upd (own:=o1) (h:=h) (c:=c) (p:=p') h4).fresh (x:=.list [t.av]) htl
 have hct:c≠tl:=fun e=>by have k:=(C.upd (x:=.dS (hes c p' s'))).at_;have q:=(congrArg _ e).symm.trans k;rw[htl] at q;cases q
 have hht:h≠tl:=fun e=>by rw[← e,upd_self] at htl;cases htl
 have ht2:=upd_self (upd o1 h (.dS (hes c p' s'))) tl (.list [t.av])
 generalize upd (upd o1 h (.dS (hes c p' s'))) tl (.list [t.av])=o2 at C2 H2 ht2
 have hz2:t.size≤13:=h3
 refine Exs.cons (Ex.for_ (Ev.k k_range (Evs.cons (Ev.binop (Ev.to P.i (Ev.k k_law_pick ((P.two P.lo P.i).to (pick_ok (n:=2) (by decide) C2 H2 (by lia) fun v p2 s2 hv hs2=>Op.add (Evs.nil (Cal.range1 (by unfold smallInt;lia) fun r hr=>ItT.rng (upd_self _ _ _)
  ⟨fun i m' o'=>m'=mset (mset (argM ["script"] [.ref sl] m0) "hand" (.ref h)) "terms" (.ref tl)∧∃ (ts:List T) (p:Nat) (s:Int),o' tl=some (.list (T.avs ts))∧(∃ r,ts=t::r)∧ts.length=i+1∧(∀ u∈ts,u.std=true∧u.dep≤4∧u.size≤65)∧Cs o' h c cs∧Ha o' h c p s,?_,fun V V V V=>trivial,?_,?_⟩))))))))))
 ·refine(iAEEEAAAAA rfl [t] p2 s2 ?_ ⟨[],rfl⟩ rfl (fun u hu=>?_) (C2.upd.fresh hr) ((Ha.upd hs2).fresh hr))
  ·rw[T.avs_2,T.avs_1];exact sub.upd hr _ _ (keep ht2 H2.at_ (by intro h;cases h))
  ·rw[List.mem_singleton.mp hu];exact(iAA h1 (by lia) (by lia))
 ·intro J' K' hJ hK;rintro i d m' o' hd hh;refine uAEEEAAAAA hh ?_;clear hh;rintro rfl ts p s ht ⟨r0,hr0⟩ hlen hts C3 H3
  have hi:i<2:=by have:=(rngL_get hd).1;lia
  refine⟨_,.name (by kernel_rfl),Exs.cons (Ex.expr (Ev.meth mf_append (Ev.to (v:=.ref tl) P.lo ⟨.inl (iAE rfl _ ht),Evs.cons (Ev.k k_law_bent ((P.two P.lo (P.item (v:=t.av) P.lo P.i (Sb.list (k:=0) ht (by rw[hr0,T.avs_2];rfl) (by decide) rf))).to ((bent_ok_ 3 t p s _ _ h1 h2 C3 H3 (by lia)).kt fun u p3 s3 u1 u2 u3 u4=>Evs.nil ?_)))⟩)))⟩
  refine Cal.append (l:=T.avs ts) (keep ht H3.at_ (by intro h;cases h)) (by rw[T.avs_len,sizeLine_eq];lia) ⟨rfl,Exs.nil ⟨_,_,fun x v hx=>mset_mono rfl x v hx,sub.refl _,hJ _ _ _ (iAEEEAAAAA rfl (ts++[u]) p3 s3 ?_ ⟨r0++[u],by rw[hr0];rfl⟩ (by rw[List.length_append,hlen];rfl) (fun w hw=>?_) ?_ ?_)⟩⟩
  ·rw[upd_self,T.avs_eq,T.avs_eq,List.map_append];rfl
  ·rcases List.mem_append.mp hw with hw|hw
   ·exact hts w hw
   ·rw[List.mem_singleton.mp hw];exact(iAA u1 u2 (by lia))
  ·exact⟨by rw[upd_ne _ _ hct];exact(C3.upd (x:=.dS (hes c p3 s3))).at_,C3.ok,C3.len,C3.ne⟩
  ·exact⟨by rw[upd_ne _ _ hht];exact upd_self _ _ _,u4⟩
 ·rintro m' o' hh;refine uAEEEAAAAA hh ?_;clear hh;rintro rfl ts p s ht hr0 hlen hts C3 H3
  rw[rngL_length] at hlen
  have hne:ts≠[]:=by rintro rfl;simp at hlen
  have hT:Tz ts t (ts.getLast hne):=⟨hr0,⟨ts.dropLast,(List.dropLast_concat_getLast hne).symm⟩,by lia,hts⟩
  generalize ts.getLast hne=tz at hT
  have dk:=hT.due
  have k0:=hT.two.ok t (by simp)
  have z0:=(hT.std t hT.m0).2.2
  have zh:(hd0 ts).size≤65:=(hT.std _ (hd0_mem hne)).2.2
  have hrv:=congrArg Prod.fst (au_rev 4 ts [] hne)
  have lz:=hT.len
  refine Exs.cons (Ex.assign (by kernel_rfl) (Ev.dict0 (.dT []) (.inr (.inr rfl)) fun kd hkd=>?_))
  refine Exs.cons (Ex.assign (by kernel_rfl) (Ev.k k_law_shared (Evs.cons (Ev.k k_tuple (Evs.cons (Ev.to P.lo (Evs.nil (Cal.tupL (sub.upd hkd _ _ ht) (by rw[T.avs_len,sizeLine_eq];lia) ?_)))))))) 
  refine Evs.cons (Ev.to P.lo (Evs.nil ((shared_ok_ kd 4 ts [] _ _ (upd_self _ _ _) hT.rw (by decide) (by simp;lia) (by lia)).tx ?_)))
  rw[upd_upd]
  have ht3:=sub.upd (o:=.dT (esG kT vS 0 (au 4 ts []).2)) hkd _ _ ht
  generalize upd o' kd (.dT (esG kT vS 0 (au 4 ts []).2))=o3 at ht3
  generalize hdue:(au 4 ts []).1=due at dk hrv
  have kd1:=avP_key dk.1 dk.2 (by decide:4≤60)
  have ko:=fun own (a:Addr) (L:List T) (h:own a=some (.list (T.avs L))) (hL:L.length=2∨L.length=3)=>fun own' (hs:sub own own')=>(Cal.tupL (G:=G) (ℓ:=ℓ+1+1) (K:=VX (.tup (T.avs L)) own') (hs _ _ h) (by rw[T.avs_len,sizeLine_eq];lia) rf:CaP G (ℓ+1+1) own' (.ty "tuple") [.ref a] (.tup (T.avs L)))
  have rwr:Rw ts.reverse 4:=⟨by rw[List.length_reverse];exact hT.len,fun u hu=>hT.rw.ok u (List.mem_reverse.mp hu),fun u hu=>hT.rw.dep u (List.mem_reverse.mp hu)⟩
  have zr:(hd0 ts.reverse).size≤65:=(hT.std _ (List.mem_reverse.mp (hd0_mem rwr.ne))).2.2
  have mt:∀(x:AV)(y:AV),(mset (mset (mset (mset (argM ["script"] [.ref sl] m0) "hand" (.ref h)) "terms" (.ref tl)) "known" x) "due" y) ("terms":Str)=some (.ref tl):=fun V V=>rfl
  have md:∀(x:AV)(y:AV),(mset (mset (mset (mset (argM ["script"] [.ref sl] m0) "hand" (.ref h)) "terms" (.ref tl)) "known" x) "due" y) ("due":Str)=some y:=fun V V=>rfl
  have mt1:=mt (.ref kd) due.av
  have md1:=md (.ref kd) due.av
  generalize mset (mset (mset (mset (argM ["script"] [.ref sl] m0) "hand" (.ref h)) "terms" (.ref tl)) "known" (.ref kd)) "due" due.av=m5 at mt1 md1
  refine Exs.cons (Ex.if_ (Tst.to (t:=!decide (due.av=due.av) || !decide (due.av=due.av)) (T.or2 (T.cmp (Ev.k k_common_of ((P.one (P.lo (hm:=mt1))).to (hdue▸common_of_ok hT.rw (by decide) (by lia) (by lia) fun own' hs=>ko own' tl ts (hs _ _ ht3) hT.len own' (sub.refl _)))) (P.lo (hm:=md1)) (Op.neK kd1.1 kd1.1 kd1.2 kd1.2 (by lia) rf)) fun V=>T.cmp (Ev.k k_common_of (Evs.cons (Ev.rev (Ev.to (P.lo (hm:=mt1)) (Ev.neg (Ev.cint (iEAAEEAAA _ rfl rfl tl (T.avs ts) rfl ht3 (by rw[T.avs_len];exact hT.len) (fun b hb=>Evs.nil ((common_of_ok rwr (by decide) (by lia) (by lia) fun own' hs=>ko own' b ts.reverse (hs _ _ (by rw[upd_self,T.avs_eq,T.avs_eq,List.map_reverse])) (by rw[List.length_reverse];exact hT.len) own' (sub.refl _)).to ⟨by rw[← hrv];rfl,sub.upd hb⟩))))))))) (P.lo (hm:=md1)) (Op.neK kd1.1 kd1.1 kd1.2 kd1.2 (by lia) rf)) ?_))
  rw[decide_eq_true rfl,if_neg (by decide)]
  refine Exs.nil (Exs.cons (Ex.if_ (Tst.cmp (Ev.to (Ev.k k_common ((P.two (P.t0 hT mt1 ht3) (P.tL hT mt1 ht3)).to (common_ok hT.two (by decide) (by lia) (by lia)))) ?_))))
  refine Ev.k k_law_shared (Evs.cons (Ev.to (P.tup (P.two (P.t0 hT mt1 ht3) (P.tL hT mt1 ht3))) (Evs.cons (Ev.dict0 (.dT []) (.inr (.inr rfl)) fun k2 hk2=>Evs.nil ((shared_ok_ k2 4 [t,tz] [] _ _ (upd_self _ _ _) hT.two (by decide) (by show 0+t.size≤900;lia) (by lia)).tx ?_)))))
  have d2:=au_ok 4 [t,tz] [] (by simp) hT.two.ok (fun u hu=>hT.gr u (by
   rcases List.mem_cons.mp hu with rfl|hu
   ·exact hT.m0
   ·rw[List.mem_singleton.mp hu];exact hT.mz)) hT.two.dep (by show 0+t.size≤900;lia)
  have kd2:=avP_key d2.1 d2.2 (by decide:4≤60)
  refine Op.neK kd2.1 kd2.1 kd2.2 kd2.2 (by lia) (iEA _ rfl ?_)
  rw[decide_eq_true rfl,upd_upd,if_neg (by decide)]
  exact Exs.nil (law_x hT mt1 (sub.upd hk2 _ _ ht3) hdue md1 (by lia))
end
theorem ints_of{R:WRecords}:∀{xs:List WData},WShape.hasItems R xs .int=true→∃ ns:List Int,xs=ns.map WData.int
 |[],_=>⟨[],rfl⟩
 |x::xs,h=>by
  rw[WShape.hasItems,Bool.and_eq_true] at h
  obtain⟨ns,rfl⟩:=ints_of h.2
  obtain⟨i,rfl⟩:=hasW_int h.1
  exact⟨i::ns,rfl⟩
theorem well_ints{w:World}{h:Heap}{vs:List Value}{ns:List Int}:WellAll w.params h vs (ns.map WData.int)→∀ Q h',VReps Q h' vs (intL ns):=by
 induction ns generalizing vs with
 |nil=>intro x Q h';cases x;exact .nil
 |cons n ns ih=>
  intro x Q h'
  obtain⟨v,vs,rfl,a,b⟩:=wellAll_cons_inv x
  obtain⟨t,rfl⟩:=Value.isInt_shape ((encInt rwW.prog w).is a).1
  exact .cons (.int _ _) (ih b Q h')
theorem law_walk{d:DefRec}{kwd:List (Str × Expr)}(hd:defOf vq "law"=some (d,kwd)):WalkO vq [] (XL vq []) (Hook.says HK) rwW d kwd fun f vs=>PySem.call f vs:=by
 intro w s₀ s₁ mg mb GR Y a o pm cd doc dV kV ho hdt hcd hdf hmg hgens args vals as hpre hlay hrd hwl hlo
 have hK:(KF w.params).In s₁.heap:=kIn_of Y
 have ha:mg d.name=some (.ref 549):=by
  rw[defOf_name hd]
  exact mg_of hK GR.T.g (by kernel_rfl)
 rw[hmg] at ha
 cases ha
 obtain⟨hsh,hp⟩:=pre_splitW hpre
 refine uEEAA (hasAllW_cons (e:=.list .int) (es:=[]) hsh) ?_;rintro x r rfl hx hr
 have hr':r=[]:=by
  cases r with
  |nil=>rfl
  |cons y r=>exact(Bool.false_ne_true hr).elim
 subst hr'
 refine uEA (hasW_list hx) ?_;rintro xs rfl hx2
 obtain⟨ns,rfl⟩:=ints_of hx2
 obtain⟨v,vs,rfl,w1,w2⟩:=wellAll_cons_inv hwl
 cases w2
 cases w1 with
 |@list l vs _ hl wi=>
 have hn:ns.length≤63:=by
  have hv:rwW.pre.value rwW.records {args:=[.list (ns.map WData.int)]}=some (.bool (!(decide ((63:Int)<((ns.map WData.int).length:Nat)))&&true)):=w_and (w_not (w_lt w_lit (by simp[WTm.value]))) w_lit
  have:=condW_of hp hv
  rw[List.length_map] at this
  simp at this
  lia
 let G:GC:=⟨rwW.prog,w,s₁.heap,hK,mb,GR.T.b,GR.T.nolimit,GR.T.builtins⟩
 have O:Ok G (fun V=>Option.none) s₁.heap:=⟨fun a o e=>⟨e,rfl⟩,fun a ao e=>by cases e⟩
 refine law_ok (G:=G) (ℓ:=301) (own:=fun V=>Option.none) (sl:=l) (ns:=ns) (iEEA vs.toArray _ hl (fun P h=>by rw[List.toList_toArray];exact well_ints wi P h)) (by lia) (by lia) callerA s₁ (.ref 549) [.ref l] _ _ ⟨rfl,by decide,by decide⟩ O (.ref _) (.cons (.ref _) .nil) fun v av own' s' hv S O' r=>?_
 subst hv
 obtain rfl:=r.i_bool
 refine uEE S.ex ?_;rintro h' tk rfl
 have hpost:rwW.claim.post [.list (ns.map WData.int)] (.bool true) [.list (ns.map WData.int)]=true:=
  Bool.and_eq_true_iff.mpr ⟨show WShape.has rwW.records (.bool true) .bool=true by rfl,holdsW_of_value (t:=rwW.post) (w_eq_bool (k:=true) (l:=true) (w_res rfl) w_lit)⟩
 exact(iAAA (.inl (iEEEAAAA (.bool true) (.bool true) [] rfl (fun cls=>rfl) (.bool true) hpost (fun V=>⟨.nil,fun a h=>by cases h⟩))) (OldK.of_keep fun b o e=>(S.keep b o e rfl id).1) rfl (.of_eq hgens))
end Mine
set_option maxHeartbeats 8000000 in
theorem PySem.Challenge.cw_sa0040_01_holds : PySem.Challenge.rw_sa0040_01.Holds :=
 Mine.holds_of fun V V=>Mine.law_walk
