import PyProof.Rows.All
import Wide.All
import OpenK.AllK
import Wide.FinOn
import Lean
import PySem.Challenge.RW_nu0297_01
set_option Elab.async false
set_option maxRecDepth 100000
set_option maxHeartbeats 0
set_option linter.all false
noncomputable section
namespace Nu
open PySem PySem.W PySem.Calls PyProof.Rows PySem.Spec
section
abbrev PH:=Addr→Option Obj
def PH.le (g g':PH):Prop:=∀ b o,g b=some o→g' b=some o
theorem PH.le_refl (g:PH):g.le g:=fun _ _ h=>h
theorem PH.le_trans {a b c:PH}(x:a.le b) (y:b.le c):a.le c:=fun i z h=>y i z (x i z h)
def PH.add (g:PH) (a:Addr) (o:Obj):PH:=fun b=>if b=a then some o else g b
theorem PH.add_self {g:PH}{a:Addr}{o:Obj}:(g.add a o) a=some o:=if_pos rfl
theorem PH.add_ne {g:PH}{a b:Addr}{o:Obj}(h:b≠a):(g.add a o) b=g b:=if_neg h
theorem PH.le_add {g:PH}{a:Addr}{o:Obj}(h:g a=none):g.le (g.add a o):=fun b o' e=>by
  by_cases q:b=a
  · subst q; rw [h] at e; cases e
  · rw [PH.add_ne q]; exact e
abbrev Rho:=Nat→Option (Nat×Nat)
def Rho.le (ρ ρ':Rho):Prop:=∀ i x,ρ i=some x→ρ' i=some x
theorem Rho.le_refl (ρ:Rho):ρ.le ρ:=fun _ _ h=>h
theorem Rho.le_trans {a b c:Rho}(x:a.le b) (y:b.le c):a.le c:=fun i z h=>y i z (x i z h)
inductive TV where
  | none
  | bool (b:Bool)
  | sym (b:Bool)
  | int (i:Int)
  | sint (i:Int)
  | str (s:Str)
  | type (n:Nat)
  | bi (n:Nat)
  | raw (a:Nat)
  | ref (i:Nat)
  | tup (xs:List TV)
  | lst (xs:List TV)
  | ins (C:Nat) (fs:List (Str×TV))
  deriving Inhabited
def biN:Nat→String
  | 0=>"len"
  | 1=>"max"
  | 2=>"isinstance"
  | 3=>"abs"
  | 4=>"list.append"
  | 5=>"list.pop"
  | 6=>"dict.get"
  | 7=>"dict.update"
  | _=>"print"
def tyN:Nat→String
  | 0=>"list"
  | 1=>"tuple"
  | 2=>"int"
  | 3=>"range"
  | 4=>"bool"
  | 5=>"str"
  | _=>"object"
mutual
inductive VR (P:Params) (g:PH) (ρ:Rho):TV→Value→Prop
  | none:VR P g ρ .none .none
  | bool {b}:VR P g ρ (.bool b) (.bool b)
  | sym {b}:VR P g ρ (.sym b) (.bool b)
  | int {i t}:VR P g ρ (.int i) (.int i t)
  | sint {i t}:VR P g ρ (.sint i) (.int i t)
  | str {s t}:VR P g ρ (.str s) (.str s t)
  | type {n}:VR P g ρ (.type n) (.type (tyN n))
  | bi {n}:VR P g ρ (.bi n) (.builtin (biN n))
  | raw {a}:VR P g ρ (.raw a) (.ref a)
  | ref {i a d}:ρ i=some (a,d)→VR P g ρ (.ref i) (.ref a)
  | tup {xs a vs n}:g a=some ⟨.type "tuple",none,.seq vs n,#[]⟩→VRs P g ρ xs vs.toList→VR P g ρ (.tup xs) (.ref a)
  | lst {xs a vs n}:g a=some ⟨.type "list",none,.seq vs n,#[]⟩→VRs P g ρ xs vs.toList→VR P g ρ (.lst xs) (.ref a)
  | ins {C fs a d es n}:g a=some ⟨.ref C,some d,.plain,#[]⟩→g d=some (dictOf es n)→FR P g ρ fs es→VR P g ρ (.ins C fs) (.ref a)
inductive VRs (P:Params) (g:PH) (ρ:Rho):List TV→List Value→Prop
  | nil:VRs P g ρ [] []
  | cons {t v ts vs}:VR P g ρ t v→VRs P g ρ ts vs→VRs P g ρ (t::ts) (v::vs)
inductive FR (P:Params) (g:PH) (ρ:Rho):List (Str×TV)→List DictEntry→Prop
  | nil:FR P g ρ [] []
  | cons {n t tk v fs es}:VR P g ρ t v→FR P g ρ fs es→FR P g ρ ((n,t)::fs) (⟨PyData.keyHash P n,.str n tk,v⟩::es)
end
section
variable {P:Params}{g g':PH}{ρ ρ':Rho}
mutual
theorem VR.mono (hg:g.le g') (h:ρ.le ρ'):∀ {t:TV}{v:Value},VR P g ρ t v→VR P g' ρ' t v
  | _,_,.none=>.none
  | _,_,.bool=>.bool
  | _,_,.sym=>.sym
  | _,_,.int=>.int
  | _,_,.sint=>.sint
  | _,_,.str=>.str
  | _,_,.type=>.type
  | _,_,.bi=>.bi
  | _,_,.raw=>.raw
  | _,_,.ref e=>.ref (h _ _ e)
  | _,_,.tup e x=>.tup (hg _ _ e) (x.mono hg h)
  | _,_,.lst e x=>.lst (hg _ _ e) (x.mono hg h)
  | _,_,.ins e e' x=>.ins (hg _ _ e) (hg _ _ e') (x.mono hg h)
theorem VRs.mono (hg:g.le g') (h:ρ.le ρ'):∀ {t:List TV}{v:List Value},VRs P g ρ t v→VRs P g' ρ' t v
  | _,_,.nil=>.nil
  | _,_,.cons x y=>.cons (x.mono hg h) (y.mono hg h)
theorem FR.mono (hg:g.le g') (h:ρ.le ρ'):∀ {t:List (Str×TV)}{v:List DictEntry},FR P g ρ t v→FR P g' ρ' t v
  | _,_,.nil=>.nil
  | _,_,.cons x y=>.cons (x.mono hg h) (y.mono hg h)
end
theorem VRs.length {ts:List TV}{vs:List Value}(x:VRs P g ρ ts vs):ts.length=vs.length:=by
  induction vs generalizing ts with
  | nil=>cases x; rfl
  | cons v vs ih=>cases x with | cons _ y=>simp [ih y]
theorem VRs.append {ts ts':List TV}{vs vs':List Value}(x:VRs P g ρ ts vs) (y:VRs P g ρ ts' vs'):VRs P g ρ (ts++ts') (vs++vs'):=by
  induction vs generalizing ts with
  | nil=>cases x; exact y
  | cons v vs ih=>cases x with | cons a r=>exact .cons a (ih r)
theorem VRs.get {ts:List TV}{vs:List Value}(x:VRs P g ρ ts vs):∀ {i:Nat}{t:TV},ts[i]?=some t→∃ v,vs[i]?=some v∧VR P g ρ t v:=by
  induction vs generalizing ts with
  | nil=>cases x; intro i t h; simp at h
  | cons v vs ih =>
    cases x with
    | cons a r =>
      intro i t h
      cases i with
      | zero=>simp at h; subst h; exact ⟨_,rfl,a⟩
      | succ i=>simp at h; obtain ⟨v,e,r⟩:=ih r h; exact ⟨v,by simpa using e,r⟩
theorem VRs.get' {ts:List TV}{vs:List Value}(x:VRs P g ρ ts vs):∀ {i:Nat}{v:Value},vs[i]?=some v→∃ t,ts[i]?=some t∧VR P g ρ t v:=by
  induction vs generalizing ts with
  | nil=>intro i t h; simp at h
  | cons v vs ih =>
    cases x with
    | cons a r =>
      intro i t h
      cases i with
      | zero=>simp at h; subst h; exact ⟨_,rfl,a⟩
      | succ i=>simp at h; obtain ⟨v,e,r⟩:=ih r h; exact ⟨v,by simpa using e,r⟩
theorem VRs.split {ts ts':List TV}:∀ {vs:List Value},VRs P g ρ (ts++ts') vs→∃ a b,vs=a++b∧VRs P g ρ ts a∧VRs P g ρ ts' b:=by
  induction ts with
  | nil=>intro vs h; exact ⟨[],vs,rfl,.nil,h⟩
  | cons t ts ih =>
    intro vs h
    cases h with
    | cons a r=>obtain ⟨p,q,e,x,y⟩:=ih r; exact ⟨_::p,q,by rw [e]; rfl,.cons a x,y⟩
theorem VRs.reverse {ts:List TV}{vs:List Value}(x:VRs P g ρ ts vs):VRs P g ρ ts.reverse vs.reverse:=by
  induction vs generalizing ts with
  | nil=>cases x; exact .nil
  | cons v vs ih =>
    cases x with
    | cons a r=>rw [List.reverse_cons,List.reverse_cons]; exact (ih r).append (.cons a .nil)
theorem VRs.drop {ts:List TV}{vs:List Value}(n:Nat) (x:VRs P g ρ ts vs):VRs P g ρ (ts.drop n) (vs.drop n):=by
  induction n generalizing ts vs with
  | zero=>exact x
  | succ n ih=>cases x with
    | nil=>simpa using VRs.nil
    | cons _ r=>exact ih r
theorem VRs.take {ts:List TV}{vs:List Value}(n:Nat) (x:VRs P g ρ ts vs):VRs P g ρ (ts.take n) (vs.take n):=by
  induction n generalizing ts vs with
  | zero=>simpa using VRs.nil
  | succ n ih=>cases x with
    | nil=>simpa using VRs.nil
    | cons a r=>exact .cons a (ih r)
theorem FR.length {fs:List (Str×TV)}{es:List DictEntry}(x:FR P g ρ fs es):fs.length=es.length:=by
  induction es generalizing fs with
  | nil=>cases x; rfl
  | cons v vs ih=>cases x with | cons _ y=>simp [ih y]
end
abbrev sq (a b:Str):Bool:=Fast.sEq a b
theorem sq_iff {a b:Str}:sq a b=true ↔ a=b:=Fast.sEq_iff
theorem sq_refl (a:Str):sq a a=true:=sq_iff.mpr rfl
theorem sq_eq_decide (a b:Str):sq a b=decide (a=b):=by
  cases h:sq a b with
  | true=>simp [sq_iff.mp h]
  | false =>
    by_cases e:a=b
    · subst e; rw [sq_refl] at h; cases h
    · simp [e]
def lkF {α:Type}(l:List (Str×α)) (x:Str):Option α:=@List.rec (Str×α) (fun _=>Option α) none (fun p _ ih=>@Bool.rec (fun _=>Option α) ih (some p.2) (sq p.1 x)) l
def puF {α:Type}(l:List (Str×α)) (x:Str) (v:α):List (Str×α):=@List.rec (Str×α) (fun _=>List (Str×α)) [(x,v)] (fun p r ih=>@Bool.rec (fun _=>List (Str×α)) (p::ih) ((p.1,v)::r) (sq p.1 x)) l
theorem lkF_nil {α:Type}(x:Str):lkF ([]:List (Str×α)) x=none:=rfl
theorem lkF_cons {α:Type}(p:Str×α) (l:List (Str×α)) (x:Str):lkF (p::l) x=if p.1=x then some p.2 else lkF l x:=by
  show (@Bool.rec (fun _=>Option α) (lkF l x) (some p.2) (sq p.1 x))=_
  rw [sq_eq_decide]
  by_cases h:p.1=x<;>simp [h]
theorem puF_nil {α:Type}(x:Str) (v:α):puF ([]:List (Str×α)) x v=[(x,v)]:=rfl
theorem puF_cons {α:Type}(p:Str×α) (l:List (Str×α)) (x:Str) (v:α):puF (p::l) x v=if p.1=x then (p.1,v)::l else p::puF l x v:=by
  show (@Bool.rec (fun _=>List (Str×α)) (p::puF l x v) ((p.1,v)::l) (sq p.1 x))=_
  rw [sq_eq_decide]
  by_cases h:p.1=x<;>simp [h]
theorem lkF_puF {α:Type}(x y:Str) (v:α):∀ l:List (Str×α),lkF (puF l x v) y=if y=x then some v else lkF l y
  | []=>by
    rw [puF_nil,lkF_cons,lkF_nil]
    by_cases h:y=x
    · simp [h]
    · have:¬ x=y:=fun e=>h e.symm
      simp [h,this]
  | p::l=>by
    rw [puF_cons,lkF_cons p l]
    by_cases h:p.1=x
    · rw [if_pos h,lkF_cons]
      by_cases q:y=x
      · simp [q,h]
      · have:¬ x=y:=fun e=>q e.symm
        simp [q,h,this]
    · rw [if_neg h,lkF_cons,lkF_puF x y v l]
      by_cases q:p.1=y
      · have:¬ y=x:=fun e=>h (q.trans e)
        simp [q,this]
      · simp [q]
theorem lkF_lookup {α:Type}(x:Str):∀ l:List (Str×α),lkF l x=l.lookup x
  | []=>rfl
  | p::l=>by
    obtain ⟨n,v⟩:=p
    rw [lkF_cons,List.lookup_cons,lkF_lookup x l]
    by_cases h:n=x
    · subst h; simp
    · have:(x==n)=false:=beq_eq_false_iff_ne.mpr fun e=>h e.symm
      simp [h,this]
theorem isStr_str (n x:Str) (t:Tok):(Value.str n t).isStr x=decide (n=x):=by
  show (n==x)=_
  rw [Bool.eq_iff_iff]; simp
section
variable {P:Params}{g:PH}{ρ:Rho}
theorem FR.get {x:Str}{fs:List (Str×TV)}{es:List DictEntry}(r:FR P g ρ fs es):(lkF fs x=none∧getL x es=some none) ∨ ∃ t v,lkF fs x=some t∧getL x es=some (some v)∧VR P g ρ t v:=by
  have key:(lkF fs x=none∧es.find? (·.key.isStr x)=none∧es.any (·.refKey)=false) ∨ ∃ t e,lkF fs x=some t∧es.find? (·.key.isStr x)=some e∧VR P g ρ t e.val:=by
    induction es generalizing fs with
    | nil=>cases r; exact .inl ⟨rfl,rfl,rfl⟩
    | cons e es ih =>
      cases r with
      | @cons n t tk v fs es a r' =>
        rw [lkF_cons]
        by_cases h:n=x
        · refine .inr ⟨t,⟨PyData.keyHash P n,.str n tk,v⟩,if_pos h,?_,a⟩
          rw [List.find?_cons_of_pos]; simp [isStr_str,h]
        · rw [if_neg (by exact h),List.find?_cons_of_neg (by simp [isStr_str,h])]
          rcases ih r' with ⟨i1,i2,i3⟩ | i
          · exact .inl ⟨i1,i2,by rw [List.any_cons,i3]; rfl⟩
          · exact .inr i
  unfold getL
  rcases key with ⟨a,b,c⟩ | ⟨t,e,a,b,c⟩
  · exact .inl ⟨a,by rw [b,c]; rfl⟩
  · exact .inr ⟨t,e.val,a,by rw [b],c⟩
theorem FR.put {x:Str}{tk:Tok}{t:TV}{v:Value}(hv:VR P g ρ t v) {fs:List (Str×TV)}{es:List DictEntry}(r:FR P g ρ fs es):FR P g ρ (puF fs x t) (putL x (PyData.keyHash P x) (.str x tk) v es):=by
  induction es generalizing fs with
  | nil=>cases r; exact .cons hv .nil
  | cons e es ih =>
    cases r with
    | @cons n t' tk' v' fs es a r =>
      rw [puF_cons]
      show FR P g ρ _ (if (Value.str n tk').isStr x then _ else _)
      rw [isStr_str]
      by_cases h:n=x
      · rw [if_pos (by exact h),if_pos (by simpa using h)]; exact .cons hv r
      · rw [if_neg (by exact h),if_neg (by simpa using h)]; exact .cons a (ih r)
end
end
section
inductive Key where
  | i (n:Int)
  | s (x:Str)
  deriving DecidableEq
def Key.is:Key→Value→Bool
  | .i n,v=>Value.isInt n v
  | .s x,v=>Value.isStrOf x v
theorem Key.shape {k:Key}{v:Value}(h:k.is v=true):(∃ n t,k = .i n∧v = .int n t) ∨ ∃ x t,k = .s x∧v = .str x t:=by
  cases k with
  | i n=>obtain ⟨t,rfl⟩:=Value.isInt_shape h; exact .inl ⟨n,t,rfl,rfl⟩
  | s x=>obtain ⟨t,rfl⟩:=Value.isStrOf_shape h; exact .inr ⟨x,t,rfl,rfl⟩
theorem isInt_int (n m:Int) (t:Tok):Value.isInt n (.int m t)=decide (n=m):=by
  show (m==n)=_
  rw [Bool.eq_iff_iff,beq_iff_eq,decide_eq_true_eq]; exact ⟨Eq.symm,Eq.symm⟩
theorem isStrOf_str (x y:Str) (t:Tok):Value.isStrOf x (.str y t)=decide (x=y):=by
  show (y==x)=_
  rw [Bool.eq_iff_iff,beq_iff_eq,decide_eq_true_eq]; exact ⟨Eq.symm,Eq.symm⟩
section
variable {prog:Program}{w:World}{A:Around}{E:Value→Shared→Prop}{s:Shared}
theorem eqBool_mix {n:Int}{x:Str}{t u:Tok}{Q:Bool→Shared→Prop}(h:Q false s):wpAny (model prog w) A (eqBool (.int n t) (.str x u)) Q E s:=by
  unfold eqBool
  refine wpAny_holding ?_
  rw [if_neg (by intro e; have:=eq_of_beq e; cases this)]
  have z:wpAny (model prog w) A (richCompare .Eq (.int n t) (.str x u)) (fun v s'=>wpAny (model prog w) A (truthOfDropped v) Q E s') E s:=by
    have:=EqMixed.eq_int_str (prog:=prog) (w:=w) (A:=A) (E:=E) (s:=s) (a:=n) (t:=t) (b:=x) (u:=u) (Q:=fun v s'=>wpAny (model prog w) A (truthOfDropped v) Q E s') (wpAny_truthy_bool h)
    exact this
  exact wpAny_bind z
theorem eqBool_mix' {n:Int}{x:Str}{t u:Tok}{Q:Bool→Shared→Prop}(h:Q false s):wpAny (model prog w) A (eqBool (.str x u) (.int n t)) Q E s:=by
  unfold eqBool
  refine wpAny_holding ?_
  rw [if_neg (by intro e; have:=eq_of_beq e; cases this)]
  have z:wpAny (model prog w) A (richCompare .Eq (.str x u) (.int n t)) (fun v s'=>wpAny (model prog w) A (truthOfDropped v) Q E s') E s:=by
    have:=EqMixed.eq_str_int (prog:=prog) (w:=w) (A:=A) (E:=E) (s:=s) (a:=x) (t:=u) (b:=n) (u:=t) (Q:=fun v s'=>wpAny (model prog w) A (truthOfDropped v) Q E s') (wpAny_truthy_bool h)
    exact this
  exact wpAny_bind z
end
def Key.hsh (w:World):Key→Int
  | .i n=>hashInt n
  | .s x=>hashStr w x
def keyKind (prog:Program) (w:World):KeyKind prog w Key where
  is:=Key.is
  hash:=Key.hsh w
  inj:=fun v a b ha hb=>by
    rcases Key.shape ha with ⟨n,t,rfl,rfl⟩ | ⟨x,t,rfl,rfl⟩<;>rcases Key.shape hb with ⟨m,u,rfl,e⟩ | ⟨y,u,rfl,e⟩<;>cases e<;>rfl
  byValue:=fun k v h=>by rcases Key.shape h with ⟨n,t,rfl,rfl⟩ | ⟨x,t,rfl,rfl⟩<;>rfl
  pyHash:=fun hv h=>by
    rcases Key.shape hv with ⟨n,t,rfl,rfl⟩ | ⟨x,t,rfl,rfl⟩
    · exact wpAny_pyHash_int h
    · exact wpAny_pyHash_str h
  eqBool:=fun hu hv h=>by
    rcases Key.shape hu with ⟨n,t,rfl,rfl⟩ | ⟨x,t,rfl,rfl⟩<;>rcases Key.shape hv with ⟨m,u,rfl,rfl⟩ | ⟨y,u,rfl,rfl⟩
    · refine wpAny_eqBool_int ?_
      have:(n==m)=decide (Key.i n=Key.i m):=by rw [Bool.eq_iff_iff]; simp
      rw [this]; exact h
    · exact eqBool_mix (by simpa using h)
    · exact eqBool_mix' (by simpa using h)
    · refine wpAny_eqBool_str ?_
      have:decide (x=y)=decide (Key.s x=Key.s y):=by rw [Bool.eq_iff_iff]; simp
      rw [this]; exact h
  «strs» := fun k x t v h=>by
    rcases Key.shape h with ⟨n,u,rfl,e⟩ | ⟨y,u,rfl,e⟩
    · cases e
    · cases e; cases v<;>rfl
theorem hashStr_key (w:World) (x:Str):hashStr w x=PyData.keyHash w.params x:=rfl
inductive Cell where
  | inst (C:Nat) (fs:List (Str×TV))
  | lst (xs:List TV)
  | stk (rev:List TV)
  | ns (loc:List (Str×TV))
  | sdic (es:List (Str×TV))
  | dic (N:Nat) (g:Int→Option Int) (es:List (Str×TV×Bool))
  | cel (v:Option TV)
  | itr (tup:Bool) (src:TV) (i:Nat)
  | rng (n:Int)
  | rit (x left:Int)
  | clo (k:Nat) (cs:List (Str×Nat))
  | tbl (P:Nat) (b:Array Value) (l:List (Nat×Nat))
abbrev szL:Nat:=1000000
def OptR (P:Params) (g:PH) (ρ:Rho):Option TV→Option Value→Prop
  | none,v=>v=none
  | some t,v=>∃ x,v=some x∧VR P g ρ t x
theorem OptR.mono {P:Params}{g g':PH}{ρ ρ':Rho}(hg:g.le g') (h:ρ.le ρ'):∀ {t:Option TV}{v:Option Value},OptR P g ρ t v→OptR P g' ρ' t v
  | none,_,x=>x
  | some _,_,⟨x,e,r⟩=>⟨x,e,r.mono hg h⟩
def WkR (P:Params) (g:PH) (ρ:Rho):Option (TV×Bool)→Option Value→Prop
  | none,_=>True
  | some (t,b),v=>(∃ x,v=some x∧VR P g ρ t x)∨(b=false∧t = .none∧v=none)
theorem WkR.mono {P:Params}{g g':PH}{ρ ρ':Rho}(hg:g.le g') (h:ρ.le ρ'):∀ {t:Option (TV×Bool)}{v:Option Value},WkR P g ρ t v→WkR P g' ρ' t v
  | none,_,_=>trivial
  | some (_,_),_,.inl ⟨x,e,r⟩=>.inl ⟨x,e,r.mono hg h⟩
  | some (_,_),_,.inr x=>.inr x
def IntR:Option Int→Option Value→Prop
  | none,v=>v=none
  | some i,v=>∃ t,v=some (.int i t)
inductive ClR (ρ:Rho):List (Str×Nat)→List (Str×Addr)→Prop
  | nil:ClR ρ [] []
  | cons {x i a d cs cl}:ρ i=some (a,d)→ClR ρ cs cl→ClR ρ ((x,i)::cs) ((x,a)::cl)
theorem ClR.mono {ρ ρ':Rho}(h:ρ.le ρ') {cs:List (Str×Nat)}{cl:List (Str×Addr)}(x:ClR ρ cs cl):ClR ρ' cs cl:=by
  induction x with
  | nil=>exact .nil
  | cons e _ ih=>exact .cons (h _ _ e) ih
theorem ClR.get {ρ:Rho}{x:Str}{i:Nat}{cs:List (Str×Nat)}{cl:List (Str×Addr)}(r:ClR ρ cs cl) (h:lkF cs x=some i):∃ a d,ρ i=some (a,d)∧cl.lookup x=some a:=by
  induction r with
  | nil=>cases h
  | @cons y j a d cs cl e _ ih =>
    rw [lkF_cons] at h
    by_cases q:y=x
    · subst q
      rw [if_pos rfl] at h; cases h
      exact ⟨a,d,e,by rw [List.lookup_cons]; simp⟩
    · rw [if_neg (by exact q)] at h
      obtain ⟨a',d',e',l⟩:=ih h
      refine ⟨a',d',e',?_⟩
      rw [List.lookup_cons]
      have:(x==y)=false:=beq_eq_false_iff_ne.mpr fun e=>q e.symm
      rw [this]; exact l
structure CloI where
  name:Str
  qual:Str
  params:Arguments
  body:FuncBody
  scope:Scope
  nm:List Str
abbrev seqCls (tup:Bool):String:=cond tup "tuple_iterator" "list_iterator"
inductive FS (P:Params) (g:PH) (ρ:Rho):List (Str×TV)→List (Key×Value)→Prop
  | nil:FS P g ρ [] []
  | cons {n t v fs es}:VR P g ρ t v→FS P g ρ fs es→FS P g ρ ((n,t)::fs) ((.s n,v)::es)
theorem FS.mono {P:Params}{g g':PH}{ρ ρ':Rho}(hg:g.le g') (h:ρ.le ρ') {fs:List (Str×TV)}{es:List (Key×Value)}(x:FS P g ρ fs es):FS P g' ρ' fs es:=by
  induction es generalizing fs with
  | nil=>cases x; exact .nil
  | cons e es ih=>cases x with | cons a r=>exact .cons (a.mono hg h) (ih r)
theorem FS.length {P:Params}{g:PH}{ρ:Rho}{fs:List (Str×TV)}{es:List (Key×Value)}(x:FS P g ρ fs es):fs.length=es.length:=by
  induction es generalizing fs with
  | nil=>cases x; rfl
  | cons e es ih=>cases x with | cons a r=>simp [ih r]
theorem FS.at_ {P:Params}{g:PH}{ρ:Rho}{fs:List (Str×TV)}{es:List (Key×Value)}(x:FS P g ρ fs es) (y:Str):OptR P g ρ (lkF fs y) (valueAt es (.s y)):=by
  induction es generalizing fs with
  | nil=>cases x; rfl
  | cons e es ih =>
    cases x with
    | @cons n t v fs es a r =>
      rw [lkF_cons]
      unfold valueAt
      by_cases q:n=y
      · rw [if_pos q,List.find?_cons_of_pos (by simp [q])]; exact ⟨v,rfl,a⟩
      · rw [if_neg (by exact q),List.find?_cons_of_neg (by simpa using q)]; exact ih r
theorem FS.noInt {P:Params}{g:PH}{ρ:Rho}{fs:List (Str×TV)}{es:List (Key×Value)}(x:FS P g ρ fs es) (n:Int):valueAt es (.i n)=none:=by
  induction es generalizing fs with
  | nil=>cases x; rfl
  | cons e es ih =>
    cases x with
    | cons a r =>
      unfold valueAt
      rw [List.find?_cons_of_neg (by simp)]; exact ih r
theorem FS.put {P:Params}{g:PH}{ρ:Rho}{fs:List (Str×TV)}{es:List (Key×Value)}(x:FS P g ρ fs es) {y:Str}{t:TV}{v:Value}(hv:VR P g ρ t v) (hn:(es.map (·.1)).Nodup):FS P g ρ (puF fs y t) (stored es (.s y) v):=by
  have key:∀ {fs:List (Str×TV)}{es:List (Key×Value)},FS P g ρ fs es→(es.map (·.1)).Nodup→(es.any (fun kv=>kv.1 = .s y)=false→FS P g ρ (puF fs y t) (es++[(.s y,v)]))∧(es.any (fun kv=>kv.1 = .s y)=true→FS P g ρ (puF fs y t) (es.map (fun kv=>if kv.1 = .s y then (kv.1,v) else kv))):=by
    intro fs es x hn
    induction es generalizing fs with
    | nil=>cases x; exact ⟨fun _=>.cons hv .nil,fun e=>by cases e⟩
    | cons e es ih =>
      cases x with
      | @cons n t' v' fs es a r =>
        obtain ⟨h1,h2⟩:=List.nodup_cons.mp (show (Key.s n::es.map (·.1)).Nodup from hn)
        rw [puF_cons]
        by_cases q:n=y
        · subst q
          refine ⟨fun e=>by simp at e,fun _ => ?_⟩
          rw [if_pos rfl,List.map_cons,if_pos rfl]
          have:es.map (fun kv=>if kv.1=Key.s n then (kv.1,v) else kv)=es:=by
            conv=>rhs; rw [← List.map_id es]
            refine List.map_congr_left fun kv hk => ?_
            rw [if_neg]; rfl
            intro e
            exact h1 (List.mem_map.mpr ⟨kv,hk,e⟩)
          rw [this]
          exact .cons hv r
        · rw [if_neg (by exact q)]
          have hq:(decide ((Key.s n)=Key.s y))=false:=by simpa using q
          obtain ⟨i1,i2⟩:=ih r h2
          refine ⟨fun e => ?_,fun e => ?_⟩
          · rw [List.any_cons] at e; simp only [hq,Bool.false_or] at e
            exact .cons a (i1 e)
          · rw [List.any_cons] at e; simp only [hq,Bool.false_or] at e
            rw [List.map_cons,if_neg (by simpa using q)]
            exact .cons a (i2 e)
  obtain ⟨i1,i2⟩:=key x hn
  unfold stored
  cases h:es.any (fun kv=>kv.1 = .s y) with
  | true=>rw [if_pos rfl]; exact i2 h
  | false=>rw [if_neg (by simp)]; exact i1 h
section
variable (prog:Program) (w:World) (cloT:Nat→CloI)
def CellOb (g:PH) (ρ:Rho) (a d:Nat) (oa od:Option Obj):Cell→Prop
  | .inst C fs=>oa=some ⟨.ref C,some d,.plain,#[]⟩ ∧ ∃ es n,od=some (dictOf es n)∧FR w.params g ρ fs es∧es.length≤1000
  | .lst xs=>∃ vs n,oa=some ⟨.type "list",none,.seq vs n,#[]⟩∧VRs w.params g ρ xs vs.toList∧vs.size≤szL
  | .stk rev=>∃ vs n,oa=some ⟨.type "list",none,.seq vs n,#[]⟩∧VRs w.params g ρ rev.reverse vs.toList∧vs.size≤szL
  | .ns loc=>∃ o es ep,oa=some o∧o.data = .dict es ep∧StrKeys es ∧ ∀ x,OptR w.params g ρ (lkF loc x) (nsFind es x)
  | .sdic fs=>∃ o es,oa=some o∧o.IsDictOf (keyKind prog w) es∧FS w.params g ρ fs es∧es.length≤1000
  | .dic N gi es=>∃ ds ep,oa=some ⟨.type "dict",none,.dict ds ep,#[]⟩∧KeysOf (keyKind prog w) ds∧(∀ n,IntR (gi n) (findBy Key.is ds (.i n)))∧(∀ x,WkR w.params g ρ (lkF es x) (findBy Key.is ds (.s x)))∧ds.size≤N
  | .cel v=>∃ o v',oa=some o∧o.data = .cell v'∧OptR w.params g ρ v v'
  | .itr tup src i=>∃ a o,oa=some o∧o.cls = .type (seqCls tup)∧o.data = .fields #[.ref a,.int i 0]∧VR w.params g ρ src (.ref a)
  | .rng n=>∃ t u v,oa=some ⟨.type "range",none,.fields #[.int 0 t,.int n u,.int 1 v],#[]⟩
  | .rit x left=>oa=some ⟨.type "range_iterator",none,.fields #[rawInt x,rawInt left,rawInt 1],#[]⟩
  | .clo k cs=>∃ fd,oa=some ⟨.type "function",none,.func fd,#[]⟩∧fd.name=(cloT k).name∧fd.qualname=(cloT k).qual∧fd.params=(cloT k).params∧fd.body=(cloT k).body∧fd.scope=(cloT k).scope ∧
      fd.globals=mainGlobals∧fd.builtins=builtinsNs∧ClR ρ cs fd.closure∧fd.code = .ref d∧fd.defaults = .none ∧ ∃ oc vs tk,od=some oc∧oc.data = .fields vs∧vs[1]?=some (.str (cloT k).qual tk)
  | .tbl P b l=>a=P ∧ ∃ ps,oa=some (tabObj ps)∧TriplesOk ps.toList∧(∀ pos:Pos,(pos.line,pos.col)∉l→codeAmong pos ps.toList=none) ∧ ∃ more,ps=b++more
def Cell.two:Cell→Bool
  | .inst .. => true
  | .clo .. => true
  | _=>false
variable {prog w cloT}
theorem CellOb.mono {g g':PH}{ρ ρ':Rho}(hg:g.le g') (h:ρ.le ρ') {a d:Nat}{oa od:Option Obj}:∀ {c:Cell},CellOb prog w cloT g ρ a d oa od c→CellOb prog w cloT g' ρ' a d oa od c
  | .inst C fs,⟨a,es,n,b,c,z⟩=>⟨a,es,n,b,c.mono hg h,z⟩
  | .lst xs,⟨vs,n,a,b,c⟩=>⟨vs,n,a,b.mono hg h,c⟩
  | .stk xs,⟨vs,n,a,b,c⟩=>⟨vs,n,a,b.mono hg h,c⟩
  | .ns loc,⟨o,es,ep,a,b,c,d⟩=>⟨o,es,ep,a,b,c,fun x=>(d x).mono hg h⟩
  | .sdic fs,⟨o,es,a,b,c,z⟩=>⟨o,es,a,b,c.mono hg h,z⟩
  | .dic N gi es,⟨ds,ep,a,k,b,c,z⟩=>⟨ds,ep,a,k,b,fun x=>(c x).mono hg h,z⟩
  | .cel v,⟨o,v',a,e,b⟩=>⟨o,v',a,e,b.mono hg h⟩
  | .itr _ _ _,⟨a,o,x,y,z,u⟩=>⟨a,o,x,y,z,u.mono hg h⟩
  | .rng _,x=>x
  | .rit ..,x=>x
  | .clo k cs,⟨fd,a,b1,b2,b3,b4,b5,b6,b7,b8,b9⟩=>⟨fd,a,b1,b2,b3,b4,b5,b6,b7,b8.mono h,b9⟩
  | .tbl ..,x=>x
theorem CellOb.some_a {g:PH}{ρ:Rho}{a d:Nat}{oa od:Option Obj}:∀ {c:Cell},CellOb prog w cloT g ρ a d oa od c→∃ o,oa=some o
  | .inst ..,⟨a,_⟩=>⟨_,a⟩
  | .lst _,⟨_,_,a,_⟩=>⟨_,a⟩
  | .stk _,⟨_,_,a,_⟩=>⟨_,a⟩
  | .ns _,⟨_,_,_,a,_⟩=>⟨_,a⟩
  | .sdic _,⟨_,_,a,_⟩=>⟨_,a⟩
  | .dic ..,⟨_,_,a,_⟩=>⟨_,a⟩
  | .cel _,⟨_,_,a,_⟩=>⟨_,a⟩
  | .itr ..,⟨_,_,a,_⟩=>⟨_,a⟩
  | .rng _,⟨_,_,_,a⟩=>⟨_,a⟩
  | .rit ..,a=>⟨_,a⟩
  | .clo ..,⟨_,a,_⟩=>⟨_,a⟩
  | .tbl ..,⟨_,_,a,_⟩=>⟨_,a⟩
theorem CellOb.some_d {g:PH}{ρ:Rho}{a d:Nat}{oa od:Option Obj}:∀ {c:Cell},CellOb prog w cloT g ρ a d oa od c→c.two=true→∃ o,od=some o:=by
  intro c x t
  cases c<;>first | (cases t; done) | skip
  · obtain ⟨_,_,_,b,_⟩:=x; exact ⟨_,b⟩
  · obtain ⟨_,_,_,_,_,_,_,_,_,_,_,_,oc,_,_,e,_⟩:=x; exact ⟨oc,e⟩
theorem CellOb.one {g:PH}{ρ:Rho}{a d:Nat}{oa od od':Option Obj}:∀ {c:Cell},c.two=false→CellOb prog w cloT g ρ a d oa od c→CellOb prog w cloT g ρ a d oa od' c
  | .lst _,_,x=>x
  | .stk _,_,x=>x
  | .ns _,_,x=>x
  | .sdic _,_,x=>x
  | .dic ..,_,x=>x
  | .cel _,_,x=>x
  | .itr ..,_,x=>x
  | .rng _,_,x=>x
  | .rit ..,_,x=>x
  | .tbl ..,_,x=>x
end
end
section
def lkC {α:Type}(l:List (Nat×α)) (i:Nat):Option α:=@List.rec (Nat×α) (fun _=>Option α) none (fun p _ ih=>@Bool.rec (fun _=>Option α) ih (some p.2) (Nat.beq p.1 i)) l
def puC {α:Type}(l:List (Nat×α)) (i:Nat) (c:α):List (Nat×α):=@List.rec (Nat×α) (fun _=>List (Nat×α)) [] (fun p r ih=>@Bool.rec (fun _=>List (Nat×α)) (p::ih) ((p.1,c)::r) (Nat.beq p.1 i)) l
theorem lkC_cons {α:Type}(p:Nat×α) (l:List (Nat×α)) (i:Nat):lkC (p::l) i=if p.1=i then some p.2 else lkC l i:=by
  show (@Bool.rec (fun _=>Option α) (lkC l i) (some p.2) (Nat.beq p.1 i))=_
  rw [BT.beq_eq]
  by_cases h:p.1=i<;>simp [h]
theorem puC_cons {α:Type}(p:Nat×α) (l:List (Nat×α)) (i:Nat) (c:α):puC (p::l) i c=if p.1=i then (p.1,c)::l else p::puC l i c:=by
  show (@Bool.rec (fun _=>List (Nat×α)) (p::puC l i c) ((p.1,c)::l) (Nat.beq p.1 i))=_
  rw [BT.beq_eq]
  by_cases h:p.1=i<;>simp [h]
theorem lkC_split {α:Type}{i:Nat}{c:α}:∀ {l:List (Nat×α)},lkC l i=some c→∃ l1 l2,l=l1++(i,c)::l2 ∧ ∀ c',puC l i c'=l1++(i,c')::l2
  | [],h=>nomatch (show (none:Option α)=some c from h)
  | p::l,h=>by
    rw [lkC_cons] at h
    by_cases e:p.1=i
    · rw [if_pos e] at h
      obtain ⟨j,x⟩:=p
      cases e; cases h
      exact ⟨[],l,rfl,fun c'=>by rw [puC_cons,if_pos rfl]; rfl⟩
    · rw [if_neg e] at h
      obtain ⟨l1,l2,a,b⟩:=lkC_split h
      exact ⟨p::l1,l2,by rw [a]; rfl,fun c'=>by rw [puC_cons,if_neg e,b]; rfl⟩
theorem lkC_mem {α:Type}{i:Nat}{c:α}{l:List (Nat×α)}(h:lkC l i=some c):(i,c)∈l:=by
  obtain ⟨l1,l2,rfl,_⟩:=lkC_split h
  simp
def rmC {α:Type}(l:List (Nat×α)) (i:Nat):List (Nat×α):=@List.rec (Nat×α) (fun _=>List (Nat×α)) [] (fun p r ih=>@Bool.rec (fun _=>List (Nat×α)) (p::ih) r (Nat.beq p.1 i)) l
theorem rmC_cons {α:Type}(p:Nat×α) (l:List (Nat×α)) (i:Nat):rmC (p::l) i=if p.1=i then l else p::rmC l i:=by
  show (@Bool.rec (fun _=>List (Nat×α)) (p::rmC l i) l (Nat.beq p.1 i))=_
  rw [BT.beq_eq]
  by_cases h:p.1=i<;>simp [h]
theorem rmC_sub {α:Type}(i:Nat):∀ l:List (Nat×α),List.Sublist (rmC l i) l
  | []=>.slnil
  | p::l=>by
    rw [rmC_cons]
    by_cases e:p.1=i
    · rw [if_pos e]; exact List.sublist_cons_self _ _
    · rw [if_neg e]; exact (rmC_sub i l).cons_cons p
theorem rmC_split {α:Type}{i:Nat}{c:α}:∀ {l:List (Nat×α)},lkC l i=some c→∃ l1 l2,l=l1++(i,c)::l2∧rmC l i=l1++l2
  | [],h=>nomatch (show (none:Option α)=some c from h)
  | p::l,h=>by
    rw [lkC_cons] at h
    by_cases e:p.1=i
    · rw [if_pos e] at h
      obtain ⟨j,x⟩:=p
      cases e; cases h
      exact ⟨[],l,rfl,by rw [rmC_cons,if_pos rfl]; rfl⟩
    · rw [if_neg e] at h
      obtain ⟨l1,l2,a,b⟩:=rmC_split h
      exact ⟨p::l1,l2,by rw [a]; rfl,by rw [rmC_cons,if_neg e,b]; rfl⟩
abbrev Ent:=Nat×Cell
def adr (ρ:Rho) (e:Ent):List Addr:=match ρ e.1 with
  | some (a,d)=>if e.2.two then [a,d] else [a]
  | none=>[]
def adrs (ρ:Rho) (l:List Ent):List Addr:=l.flatMap (adr ρ)
theorem adrs_cons (ρ:Rho) (e:Ent) (l:List Ent):adrs ρ (e::l)=adr ρ e++adrs ρ l:=rfl
theorem adrs_append (ρ:Rho) (l l':List Ent):adrs ρ (l++l')=adrs ρ l++adrs ρ l':=by simp [adrs]
theorem mem_adrs {ρ:Rho}{l:List Ent}{x:Addr}:x∈adrs ρ l ↔ ∃ i c a d,(i,c)∈l∧ρ i=some (a,d)∧(x=a∨(c.two=true∧x=d)):=by
  unfold adrs
  rw [List.mem_flatMap]
  constructor
  · rintro ⟨⟨i,c⟩,hm,hx⟩
    unfold adr at hx
    cases e:ρ i with
    | none=>rw [e] at hx; cases hx
    | some p =>
      obtain ⟨a,d⟩:=p
      rw [e] at hx
      cases t:c.two with
      | true=>simp [t] at hx; exact ⟨i,c,a,d,hm,e,hx.imp id fun y=>⟨t,y⟩⟩
      | false=>simp [t] at hx; exact ⟨i,c,a,d,hm,e,.inl hx⟩
  · rintro ⟨i,c,a,d,hm,e,hx⟩
    refine ⟨(i,c),hm,?_⟩
    unfold adr
    dsimp only
    rw [e]
    rcases hx with rfl | ⟨t,rfl⟩
    · dsimp only; split<;>simp
    · dsimp only; rw [t]; simp
section
variable (prog:Program) (w:World) (cloT:Nat→CloI)
abbrev CellAt (g:PH) (ρ:Rho) (h:Heap) (a d:Nat) (c:Cell):Prop:=CellOb prog w cloT g ρ a d (h.get? a) (h.get? d) c
structure Rel (g f:PH) (h:Heap) (ρ:Rho) (l:List Ent):Prop where
  gf:g.le f
  keep:∀ b o,f b=some o→h.get? b=some o
  at_:∀ i c,(i,c)∈l→∃ a d,ρ i=some (a,d)∧CellAt prog w cloT g ρ h a d c
  fresh:∀ a∈adrs ρ l,f a=none
  nd:(adrs ρ l).Nodup
structure Ext (g f:PH) (ρ:Rho) (g' f':PH) (ρ':Rho):Prop where
  gl:g.le g'
  fl:f.le f'
  rl:ρ.le ρ'
  nw:∀ b o,g' b=some o→g b=some o∨f b=none
variable {prog w cloT}
variable {g f g' f' g'' f'':PH}{h h':Heap}{ρ ρ' ρ'':Rho}{l:List Ent}
theorem Ext.refl:Ext g f ρ g f ρ:=⟨PH.le_refl _,PH.le_refl _,Rho.le_refl _,fun _ _ e=>.inl e⟩
theorem Ext.trans (x:Ext g f ρ g' f' ρ') (y:Ext g' f' ρ' g'' f'' ρ''):Ext g f ρ g'' f'' ρ'' :=
  ⟨PH.le_trans x.gl y.gl,PH.le_trans x.fl y.fl,Rho.le_trans x.rl y.rl,fun b o e=>by
    rcases y.nw b o e with e | e
    · exact x.nw b o e
    · cases q:f b with
      | none=>exact .inr rfl
      | some o'=>have:=x.fl _ _ q; rw [e] at this; cases this⟩
theorem CellAt.keeps {a d:Nat}{c:Cell}(x:CellAt prog w cloT g ρ h a d c) (k:∀ b o,h.get? b=some o→h'.get? b=some o):CellAt prog w cloT g ρ h' a d c:=by
  obtain ⟨o,e⟩:=x.some_a
  unfold CellAt at x ⊢
  rw [k _ _ e,← e]
  cases t:c.two with
  | true=>obtain ⟨o',e'⟩:=CellOb.some_d x t; rw [k _ _ e',← e']; exact x
  | false=>exact x.one t
theorem CellAt.same {a d:Nat}{c:Cell}(x:CellAt prog w cloT g ρ h a d c) {y:Addr}(hs:Heap.SameBut y h h') (na:a≠y) (ndd:c.two=true→d≠y):CellAt prog w cloT g ρ h' a d c:=by
  unfold CellAt at x ⊢
  rw [hs.2 a na]
  cases t:c.two with
  | true=>rw [hs.2 d (ndd t)]; exact x
  | false=>exact x.one t
theorem CellAt.upto {a d:Nat}{c:Cell}(x:CellAt prog w cloT g ρ h a d c) (ka:∀ o,h.get? a=some o→h'.get? a=some o) (kd:c.two=true→∀ o,h.get? d=some o→h'.get? d=some o):CellAt prog w cloT g ρ h' a d c:=by
  obtain ⟨o,e⟩:=x.some_a
  unfold CellAt at x ⊢
  rw [ka _ e,← e]
  cases t:c.two with
  | true=>obtain ⟨o',e'⟩:=CellOb.some_d x t; rw [kd t _ e',← e']; exact x
  | false=>exact x.one t
theorem Rel.some_of (R:Rel prog w cloT g f h ρ l) {x:Addr}(hx:x∈adrs ρ l):∃ o,h.get? x=some o:=by
  obtain ⟨i,c,a,d,hm,e,hx⟩:=mem_adrs.mp hx
  obtain ⟨a',d',e',z⟩:=R.at_ i c hm
  rw [e] at e'; cases e'
  rcases hx with rfl | ⟨t,rfl⟩
  · exact z.some_a
  · exact z.some_d t
theorem Rel.no (R:Rel prog w cloT g f h ρ l) {x:Addr}(hx:h.get? x=none):x∉adrs ρ l∧f x=none∧g x=none:=by
  have hf:f x=none:=by
    cases q:f x with
    | none=>rfl
    | some o=>rw [R.keep _ _ q] at hx; cases hx
  refine ⟨fun hm => ?_,hf,?_⟩
  · obtain ⟨o,q⟩:=R.some_of hm; rw [hx] at q; cases q
  · cases q:g x with
    | none=>rfl
    | some o=>rw [R.gf _ _ q] at hf; cases hf
theorem Rel.grow (R:Rel prog w cloT g f h ρ l) (k:∀ b o,h.get? b=some o→h'.get? b=some o):Rel prog w cloT g f h' ρ l :=
  ⟨R.gf,fun b o e=>k _ _ (R.keep b o e),fun i c hm=>let ⟨a,d,e,z⟩:=R.at_ i c hm; ⟨a,d,e,z.keeps k⟩,R.fresh,R.nd⟩
theorem Rel.other (R:Rel prog w cloT g f h ρ l) {y:Addr}(k:∀ b o,b≠y→h.get? b=some o→h'.get? b=some o) (h0:f y=none) (h1:y∉adrs ρ l):Rel prog w cloT g f h' ρ l :=
  ⟨R.gf,fun b o e=>k b o (by rintro rfl; rw [h0] at e; cases e) (R.keep b o e),
   fun i c hm=>let ⟨a,d,e,z⟩:=R.at_ i c hm; ⟨a,d,e,z.upto (fun o=>k a o (by rintro rfl; exact h1 (mem_adrs.mpr ⟨i,c,a,d,hm,e,.inl rfl⟩))) (fun t o=>k d o (by rintro rfl; exact h1 (mem_adrs.mpr ⟨i,c,a,d,hm,e,.inr ⟨t,rfl⟩⟩)))⟩,R.fresh,R.nd⟩
theorem adrs_mono (hr:ρ.le ρ') (hall:∀ i c,(i,c)∈l→∃ p,ρ i=some p):adrs ρ' l=adrs ρ l:=by
  induction l with
  | nil=>rfl
  | cons x l ih =>
    rw [adrs_cons,adrs_cons,ih fun i c hm=>hall i c (.tail _ hm)]
    obtain ⟨i,c⟩:=x
    obtain ⟨p,e⟩:=hall i c (.head _)
    unfold adr
    dsimp only
    rw [e,hr _ _ e]
theorem Rel.adrs_le (R:Rel prog w cloT g f h ρ l) (hr:ρ.le ρ'):adrs ρ' l=adrs ρ l:=adrs_mono hr fun i c hm=>let ⟨a,d,e,_⟩:=R.at_ i c hm; ⟨_,e⟩
theorem Rel.rho (R:Rel prog w cloT g f h ρ l) (hr:ρ.le ρ'):Rel prog w cloT g f h ρ' l:=by
  have e:=R.adrs_le hr
  exact ⟨R.gf,R.keep,fun i c hm=>let ⟨a,d,e,z⟩:=R.at_ i c hm; ⟨a,d,hr _ _ e,CellOb.mono (PH.le_refl _) hr z⟩,by rw [e]; exact R.fresh,by rw [e]; exact R.nd⟩
def Rho.add (ρ:Rho) (i a d:Nat):Rho:=fun j=>if j=i then some (a,d) else ρ j
theorem Rho.add_le {i a d:Nat}(h:ρ i=none):ρ.le (ρ.add i a d):=fun j x e=>by
  unfold Rho.add
  by_cases q:j=i
  · subst q; rw [h] at e; cases e
  · rw [if_neg q]; exact e
theorem Rho.add_at {i a d:Nat}:(ρ.add i a d) i=some (a,d):=if_pos rfl
theorem Rho.add_ne {i j a d:Nat}(h:j≠i):(ρ.add i a d) j=ρ j:=if_neg h
theorem Rel.imm (R:Rel prog w cloT g f h ρ l) {a:Addr}{o:Obj}(k:∀ b o,h.get? b=some o→h'.get? b=some o) (ha:h.get? a=none) (ho:h'.get? a=some o) :
    Rel prog w cloT (g.add a o) (f.add a o) h' ρ l∧Ext g f ρ (g.add a o) (f.add a o) ρ:=by
  obtain ⟨n1,n2,n3⟩:=R.no ha
  refine ⟨⟨fun b o' e => ?_,fun b o' e => ?_,fun i c hm => ?_,fun b hb => ?_,R.nd⟩,⟨PH.le_add n3,PH.le_add n2,Rho.le_refl _,fun b o' e => ?_⟩⟩
  · by_cases q:b=a
    · subst q; rw [PH.add_self] at e ⊢; exact e
    · rw [PH.add_ne q] at e ⊢; exact R.gf _ _ e
  · by_cases q:b=a
    · subst q; rw [PH.add_self] at e; cases e; exact ho
    · rw [PH.add_ne q] at e; exact k _ _ (R.keep _ _ e)
  · obtain ⟨a',d,e,z⟩:=R.at_ i c hm
    exact ⟨a',d,e,CellOb.mono (PH.le_add n3) (Rho.le_refl _) (z.keeps k)⟩
  · rw [PH.add_ne (by rintro rfl; exact n1 hb)]; exact R.fresh b hb
  · by_cases q:b=a
    · subst q; exact .inr n2
    · rw [PH.add_ne q] at e; exact .inl e
theorem Rel.new (R:Rel prog w cloT g f h ρ l) {i a d:Nat}{c:Cell}(hi:ρ i=none) (k:∀ b o,h.get? b=some o→h'.get? b=some o) (ha:h.get? a=none) (hd:c.two=true→h.get? d=none∧a≠d)
    (hc:CellAt prog w cloT g (ρ.add i a d) h' a d c):Rel prog w cloT g f h' (ρ.add i a d) ((i,c)::l):=by
  have hle:=Rho.add_le (a:=a) (d:=d) hi
  have R':=(R.grow k).rho hle
  have e:adrs (ρ.add i a d) l=adrs ρ l:=R.adrs_le hle
  have e1:adr (ρ.add i a d) (i,c)=if c.two then [a,d] else [a]:=by unfold adr; dsimp only; rw [Rho.add_at]
  refine ⟨R.gf,R'.keep,fun j c' hm => ?_,fun x hx => ?_,?_⟩
  · rcases List.mem_cons.mp hm with q | hm
    · cases q; exact ⟨a,d,Rho.add_at,hc⟩
    · exact R'.at_ j c' hm
  · rw [adrs_cons,e,e1] at hx
    rcases List.mem_append.mp hx with hx | hx
    · cases t:c.two with
      | true =>
        rw [t] at hx; simp at hx
        rcases hx with rfl | rfl
        · exact (R.no ha).2.1
        · exact (R.no (hd t).1).2.1
      | false=>rw [t] at hx; simp at hx; subst hx; exact (R.no ha).2.1
    · exact R.fresh x hx
  · rw [adrs_cons,e,e1]
    cases t:c.two with
    | true =>
      rw [if_pos rfl]
      refine List.nodup_cons.mpr ⟨?_,List.nodup_cons.mpr ⟨(R.no (hd t).1).1,R.nd⟩⟩
      intro hm
      rcases List.mem_cons.mp hm with rfl | hm
      · exact (hd t).2 rfl
      · exact (R.no ha).1 hm
    | false =>
      rw [if_neg (by simp)]
      exact List.nodup_cons.mpr ⟨(R.no ha).1,R.nd⟩
theorem Rel.put (R:Rel prog w cloT g f h ρ l) {i a d y:Nat}{c c':Cell}(hl:lkC l i=some c) (hi:ρ i=some (a,d)) (ht:c'.two=c.two) (hy:y=a∨(c.two=true∧y=d)) (k:∀ b o,b≠y→h.get? b=some o→h'.get? b=some o)
    (hc:CellAt prog w cloT g ρ h' a d c'):Rel prog w cloT g f h' ρ (puC l i c'):=by
  obtain ⟨l1,l2,rfl,hp⟩:=lkC_split hl
  rw [hp]
  have ea:adr ρ (i,c')=adr ρ (i,c):=by unfold adr; dsimp only; rw [hi]; dsimp only; rw [ht]
  have hA:adrs ρ (l1++(i,c')::l2)=adrs ρ (l1++(i,c)::l2):=by rw [adrs_append,adrs_append,adrs_cons,adrs_cons,ea]
  have yin:y∈adr ρ (i,c):=by
    unfold adr; dsimp only; rw [hi]; dsimp only
    rcases hy with rfl | ⟨t,rfl⟩
    · split<;>simp
    · rw [t]; simp
  have nd:=R.nd
  rw [adrs_append,adrs_cons] at nd
  obtain ⟨_,nd2,nd3⟩:=List.nodup_append.mp nd
  have n1:y∉adrs ρ l1:=fun q=>nd3 y q y (List.mem_append_left _ yin) rfl
  have n2:y∉adrs ρ l2:=fun q=>(List.nodup_append.mp nd2).2.2 y yin y q rfl
  have yall:y∈adrs ρ (l1++(i,c)::l2):=by rw [adrs_append,adrs_cons]; exact List.mem_append_right _ (List.mem_append_left _ yin)
  refine ⟨R.gf,fun b o e=>k b o (by rintro rfl; rw [R.fresh _ yall] at e; cases e) (R.keep b o e),fun j cj hm => ?_,by rw [hA]; exact R.fresh,by rw [hA]; exact R.nd⟩
  have rest:∀ lx,y∉adrs ρ lx→(∀ p,p∈lx→p∈l1++(i,c)::l2)→(j,cj)∈lx→∃ a d,ρ j=some (a,d)∧CellAt prog w cloT g ρ h' a d cj:=fun lx hn hin hm=>by
    obtain ⟨a',d',e',z⟩:=R.at_ j cj (hin _ hm)
    exact ⟨a',d',e',z.upto (fun o=>k _ o (by rintro rfl; exact hn (mem_adrs.mpr ⟨j,cj,_,_,hm,e',.inl rfl⟩))) (fun t o=>k _ o (by rintro rfl; exact hn (mem_adrs.mpr ⟨j,cj,_,_,hm,e',.inr ⟨t,rfl⟩⟩)))⟩
  rcases List.mem_append.mp hm with hm | hm
  · exact rest l1 n1 (fun p hp=>List.mem_append_left _ hp) hm
  · rcases List.mem_cons.mp hm with q | hm
    · cases q; exact ⟨a,d,hi,hc⟩
    · exact rest l2 n2 (fun p hp=>List.mem_append_right _ (.tail _ hp)) hm
theorem Rel.less (R:Rel prog w cloT g f h ρ l) {l':List Ent}(hsub:List.Sublist l' l):Rel prog w cloT g f h ρ l':=by
  have hA:List.Sublist (adrs ρ l') (adrs ρ l):=by
    clear R
    induction hsub with
    | slnil=>exact .slnil
    | cons x _ ih=>exact ih.trans (by rw [adrs_cons]; exact List.sublist_append_right _ _)
    | cons_cons x _ ih=>rw [adrs_cons,adrs_cons]; exact List.Sublist.append_left ih _
  exact ⟨R.gf,R.keep,fun i c hm=>R.at_ i c (hsub.subset hm),fun a ha=>R.fresh a (hA.subset ha),R.nd.sublist hA⟩
theorem Rel.freeze1 (R:Rel prog w cloT g f h ρ l) {i a d:Nat}{c:Cell}{o:Obj}(hl:lkC l i=some c) (hi:ρ i=some (a,d)) (ho:h.get? a=some o) :
    Rel prog w cloT (g.add a o) (f.add a o) h ρ (rmC l i)∧Ext g f ρ (g.add a o) (f.add a o) ρ:=by
  obtain ⟨l1,l2,e,hp⟩:=rmC_split hl
  have hm:a∈adr ρ (i,c):=by unfold adr; dsimp only; rw [hi]; dsimp only; split<;>simp
  have ain:a∈adrs ρ l:=by rw [e,adrs_append,adrs_cons]; exact List.mem_append_right _ (List.mem_append_left _ hm)
  have n2:=R.fresh a ain
  have n3:g a=none:=by
    cases q:g a with
    | none=>rfl
    | some o=>rw [R.gf _ _ q] at n2; cases n2
  have R':=R.less (rmC_sub i l)
  have nd:=R.nd
  rw [e,adrs_append,adrs_cons] at nd
  obtain ⟨_,nd2,nd3⟩:=List.nodup_append.mp nd
  have n1:a∉adrs ρ (rmC l i):=by
    rw [hp,adrs_append]
    intro q
    rcases List.mem_append.mp q with q | q
    · exact nd3 a q a (List.mem_append_left _ hm) rfl
    · exact (List.nodup_append.mp nd2).2.2 a hm a q rfl
  refine ⟨⟨fun b o' e => ?_,fun b o' e => ?_,fun i c hm => ?_,fun b hb => ?_,R'.nd⟩,⟨PH.le_add n3,PH.le_add n2,Rho.le_refl _,fun b o' e => ?_⟩⟩
  · by_cases q:b=a
    · subst q; rw [PH.add_self] at e ⊢; exact e
    · rw [PH.add_ne q] at e ⊢; exact R.gf _ _ e
  · by_cases q:b=a
    · subst q; rw [PH.add_self] at e; cases e; exact ho
    · rw [PH.add_ne q] at e; exact R.keep _ _ e
  · obtain ⟨a',d,e,z⟩:=R'.at_ i c hm
    exact ⟨a',d,e,CellOb.mono (PH.le_add n3) (Rho.le_refl _) z⟩
  · rw [PH.add_ne (by rintro rfl; exact n1 hb)]; exact R'.fresh b hb
  · by_cases q:b=a
    · subst q; exact .inr n2
    · rw [PH.add_ne q] at e; exact .inl e
theorem Rel.freeze2 (R:Rel prog w cloT g f h ρ l) {i a d:Nat}{c:Cell}{o od:Obj}(hl:lkC l i=some c) (ht:c.two=true) (hi:ρ i=some (a,d)) (ho:h.get? a=some o) (hd:h.get? d=some od) :
    Rel prog w cloT ((g.add a o).add d od) ((f.add a o).add d od) h ρ (rmC l i)∧Ext g f ρ ((g.add a o).add d od) ((f.add a o).add d od) ρ:=by
  obtain ⟨R1,E1⟩:=R.freeze1 hl hi ho
  obtain ⟨l1,l2,e,hp⟩:=rmC_split hl
  have hA:adr ρ (i,c)=[a,d]:=by unfold adr; dsimp only; rw [hi]; dsimp only; rw [ht]; rfl
  have nd:=R.nd
  rw [e,adrs_append,adrs_cons,hA] at nd
  obtain ⟨_,nd2,nd3⟩:=List.nodup_append.mp nd
  have had:a≠d:=by
    intro q
    have:=(List.nodup_append.mp nd2).1
    rw [q] at this
    simp at this
  have n1:d∉adrs ρ (rmC l i):=by
    rw [hp,adrs_append]
    intro q
    rcases List.mem_append.mp q with q | q
    · exact nd3 d q d (List.mem_append_left _ (by simp)) rfl
    · exact (List.nodup_append.mp nd2).2.2 d (by simp) d q rfl
  have din:d∈adrs ρ l:=by rw [e,adrs_append,adrs_cons,hA]; exact List.mem_append_right _ (List.mem_append_left _ (by simp))
  have n2:(f.add a o) d=none:=by rw [PH.add_ne (Ne.symm had)]; exact R.fresh d din
  have n3:(g.add a o) d=none:=by
    cases q:(g.add a o) d with
    | none=>rfl
    | some o'=>rw [R1.gf _ _ q] at n2; cases n2
  refine ⟨⟨fun b o' e => ?_,fun b o' e => ?_,fun i c hm => ?_,fun b hb => ?_,R1.nd⟩,E1.trans ⟨PH.le_add n3,PH.le_add n2,Rho.le_refl _,fun b o' e => ?_⟩⟩
  · by_cases q:b=d
    · subst q; rw [PH.add_self] at e ⊢; exact e
    · rw [PH.add_ne q] at e ⊢; exact R1.gf _ _ e
  · by_cases q:b=d
    · subst q; rw [PH.add_self] at e; cases e; exact hd
    · rw [PH.add_ne q] at e; exact R1.keep _ _ e
  · obtain ⟨a',d',e,z⟩:=R1.at_ i c hm
    exact ⟨a',d',e,CellOb.mono (PH.le_add n3) (Rho.le_refl _) z⟩
  · rw [PH.add_ne (by rintro rfl; exact n1 hb)]; exact R1.fresh b hb
  · by_cases q:b=d
    · subst q; exact .inr n2
    · rw [PH.add_ne q] at e; exact .inl e
open Classical in
def PH.over (f:PH) (h:Heap) (as:List Addr):PH:=fun b=>if b∈as then h.get? b else f b
open Classical in
def PH.off (f:PH) (as:List Addr):PH:=fun b=>if b∈as then none else f b
theorem Rel.sub (R:Rel prog w cloT g f h ρ l) {l1 l2:List Ent}(hp:l.Perm (l1++l2)):Rel prog w cloT g (f.over h (adrs ρ l2)) h ρ l1:=by
  have hA:(adrs ρ l).Perm (adrs ρ l1++adrs ρ l2):=by rw [← adrs_append]; exact List.Perm.flatMap_right _ hp
  have nd:=hA.nodup_iff.mp R.nd
  obtain ⟨n1,n2,n3⟩:=List.nodup_append.mp nd
  refine ⟨fun b o e => ?_,fun b o e => ?_,fun i c hm=>R.at_ i c (hp.mem_iff.mpr (List.mem_append_left _ hm)),fun b hb => ?_,n1⟩
  · unfold PH.over
    split
    · rename_i q
      have:=R.fresh b (hA.mem_iff.mpr (List.mem_append_right _ q))
      rw [R.gf _ _ e] at this; cases this
    · exact R.gf _ _ e
  · unfold PH.over at e
    split at e
    · exact e
    · exact R.keep _ _ e
  · unfold PH.over
    rw [if_neg fun q=>n3 b hb b q rfl]
    exact R.fresh b (hA.mem_iff.mpr (List.mem_append_left _ hb))
theorem Rel.back (R:Rel prog w cloT g f h ρ l) {l1 l2 l1':List Ent}(hp:l.Perm (l1++l2)) (E:Ext g (f.over h (adrs ρ l2)) ρ g' f' ρ') (R':Rel prog w cloT g' f' h' ρ' l1') :
    Rel prog w cloT g' (f'.off (adrs ρ l2)) h' ρ' (l1'++l2)∧Ext g f ρ g' (f'.off (adrs ρ l2)) ρ':=by
  have hA:(adrs ρ l).Perm (adrs ρ l1++adrs ρ l2):=by rw [← adrs_append]; exact List.Perm.flatMap_right _ hp
  have nd:=hA.nodup_iff.mp R.nd
  obtain ⟨n1,n2,n3⟩:=List.nodup_append.mp nd
  have R2:Rel prog w cloT g f h ρ l2:=by
    refine ⟨R.gf,R.keep,fun i c hm=>R.at_ i c (hp.mem_iff.mpr (List.mem_append_right _ hm)),fun b hb=>R.fresh b (hA.mem_iff.mpr (List.mem_append_right _ hb)),n2⟩
  have e2:adrs ρ' l2=adrs ρ l2:=R2.adrs_le E.rl
  have stays:∀ b∈adrs ρ l2,∀ o,h.get? b=some o→f' b=some o:=fun b hb o e=>E.fl b o (by unfold PH.over; rw [if_pos hb]; exact e)
  have notg:∀ b∈adrs ρ l2,g' b=none:=fun b hb=>by
    cases q:g' b with
    | none=>rfl
    | some o =>
      rcases E.nw b o q with e | e
      · have:=R2.fresh b hb; rw [R.gf _ _ e] at this; cases this
      · obtain ⟨o',e'⟩:=R2.some_of hb
        unfold PH.over at e; rw [if_pos hb,e'] at e; cases e
  refine ⟨⟨fun b o e => ?_,fun b o e => ?_,fun i c hm => ?_,fun b hb => ?_,?_⟩,⟨E.gl,fun b o e => ?_,E.rl,fun b o e => ?_⟩⟩
  · unfold PH.off
    rw [if_neg fun q=>by rw [notg b q] at e; cases e]
    exact R'.gf _ _ e
  · unfold PH.off at e
    split at e
    · cases e
    · exact R'.keep _ _ e
  · rcases List.mem_append.mp hm with hm | hm
    · exact R'.at_ i c hm
    · obtain ⟨a,d,e,z⟩:=R2.at_ i c hm
      refine ⟨a,d,E.rl _ _ e,CellOb.mono E.gl E.rl (z.upto (fun o q=>R'.keep _ _ (stays a (mem_adrs.mpr ⟨i,c,a,d,hm,e,.inl rfl⟩) o q)) fun t o q=>R'.keep _ _ (stays d (mem_adrs.mpr ⟨i,c,a,d,hm,e,.inr ⟨t,rfl⟩⟩) o q))⟩
  · rw [adrs_append,e2] at hb
    unfold PH.off
    split
    · rfl
    · rename_i q
      rcases List.mem_append.mp hb with hb | hb
      · exact R'.fresh b hb
      · exact absurd hb q
  · rw [adrs_append,e2]
    refine List.nodup_append.mpr ⟨R'.nd,n2,fun x hx y hy e => ?_⟩
    subst e
    obtain ⟨o,q⟩:=R2.some_of hy
    have:=R'.fresh x hx
    rw [stays x hy o q] at this; cases this
  · unfold PH.off
    rw [if_neg fun q=>by rw [R2.fresh b q] at e; cases e]
    refine E.fl b o ?_
    unfold PH.over
    rw [if_neg fun q=>by rw [R2.fresh b q] at e; cases e]; exact e
  · rcases E.nw b o e with e' | e'
    · exact .inl e'
    · unfold PH.over at e'
      split at e'
      · rename_i q; rw [notg b q] at e; cases e
      · exact .inr e'
end
end
section
structure St where
  cells:List Ent
  next:Nat
  dirs:List Nat
def M (α:Type):=St→Option (α×St×List Prop)
def M.ret {α:Type}(a:α):M α:=fun σ=>some (a,σ,[])
def M.bd {α β:Type}(m:M α) (k:α→M β):M β:=fun σ=>match m σ with
  | none=>none
  | some (a,σ1,c1)=>match k a σ1 with
    | none=>none
    | some (b,σ2,c2)=>some (b,σ2,c1++c2)
def M.fail {α:Type}:M α:=fun _=>none
def allP:List Prop→Prop
  | []=>True
  | p::r=>p∧allP r
theorem allP_append {a b:List Prop}:allP (a++b) ↔ allP a∧allP b:=by
  induction a with
  | nil=>simp [allP]
  | cons p r ih=>simp [allP,ih,and_assoc]
theorem M.bd_some {α β:Type}{m:M α}{k:α→M β}{σ:St}{b:β}{σ':St}{c:List Prop}(h:m.bd k σ=some (b,σ',c)) :
    ∃ a σ1 c1 c2,m σ=some (a,σ1,c1)∧k a σ1=some (b,σ',c2)∧c=c1++c2:=by
  unfold M.bd at h
  split at h
  · cases h
  · rename_i a σ1 c1 e
    split at h
    · cases h
    · rename_i b' σ2 c2 e2
      cases h
      exact ⟨a,σ1,c1,c2,e,e2,rfl⟩
structure HB where
  heap:Heap
  os:OsState
  gens:Array GenState
def LeB (hb:HB) (g:PH) (s:Shared):Prop:=PH.le hb.heap.get? g∧s.os=hb.os∧s.gens=hb.gens
abbrev Same (s s':Shared):Prop:=s'.os=s.os∧s'.gens=s.gens
theorem LeB.up {hb:HB}{g g':PH}{s:Shared}(x:LeB hb g s) (h:g.le g'):LeB hb g' s:=⟨PH.le_trans x.1 h,x.2⟩
theorem LeB.go {hb:HB}{g:PH}{s s':Shared}(x:LeB hb g s) (h:Same s s'):LeB hb g s':=⟨x.1,h.1.trans x.2.1,h.2.trans x.2.2⟩
structure BaseH (K:Frag) (mg mb:Str→Option Value) (hb:HB):Prop where
  k:K.In hb.heap
  limit:hb.heap.NoLimit
  g:hb.heap.Ns mainGlobals mg
  b:hb.heap.Ns builtinsNs mb
  low:∃ o,hb.heap.get? sysModules=some o
section
variable (prog:Program) (w:World) (cloT:Nat→CloI) (hb:HB)
structure RelS (σ:St) (g f:PH) (ρ:Rho) (s:Shared):Prop where
  r:Rel prog w cloT g f s.heap ρ σ.cells
  n:∀ i,σ.next≤i→ρ i=none
  b0:LeB hb g s
abbrev Fa:Value→Shared→Prop:=fun _ _=>False
def Back {α β:Type}(g f:PH) (ρ:Rho) (σ':St) (a:α) (P:PH→Rho→α→β→Prop) (b:β) (s':Shared):Prop :=
  ∃ g' f' ρ',Ext g f ρ g' f' ρ'∧RelS prog w cloT hb σ' g' f' ρ' s'∧P g' ρ' a b
def Tri {α β:Type}(A:Around) (g f:PH) (ρ:Rho) (m:M α) (t:Sem β) (P:PH→Rho→α→β→Prop):Prop :=
  ∀ σ a σ' c,m σ=some (a,σ',c)→allP c→∀ s,RelS prog w cloT hb σ g f ρ s→wpAny (model prog w) A t (Back prog w cloT hb g f ρ σ' a P) Fa s
variable {prog w cloT hb}
variable {A:Around}{g f g' f':PH}{ρ ρ':Rho}{α β γ δ:Type}
theorem RelS.b {σ:St}{s:Shared}(R:RelS prog w cloT hb σ g f ρ s):PH.le hb.heap.get? g:=R.b0.1
theorem RelS.keeps {σ:St}{s:Shared}(R:RelS prog w cloT hb σ g f ρ s):∀ b o,hb.heap.get? b=some o→s.heap.get? b=some o:=fun b o e=>R.r.keep _ _ (R.r.gf _ _ (R.b _ _ e))
theorem RelS.K {K:Frag}{mg mb:Str→Option Value}{σ:St}{s:Shared}(R:RelS prog w cloT hb σ g f ρ s) (B:BaseH K mg mb hb):K.In s.heap:=B.k.keeps R.keeps
theorem RelS.gk {σ:St}{s:Shared}(R:RelS prog w cloT hb σ g f ρ s) {b:Addr}{o:Obj}(e:g b=some o):s.heap.get? b=some o:=R.r.keep _ _ (R.r.gf _ _ e)
theorem RelS.grow {σ:St}{s s':Shared}(R:RelS prog w cloT hb σ g f ρ s) (k:∀ b o,s.heap.get? b=some o→s'.heap.get? b=some o) (e:Same s s':=by exact ⟨rfl,rfl⟩):RelS prog w cloT hb σ g f ρ s':=⟨R.r.grow k,R.n,R.b0.go e⟩
theorem Back.same {σ':St}{a:α}{P:PH→Rho→α→β→Prop}{b:β}{s':Shared}(R:RelS prog w cloT hb σ' g f ρ s') (p:P g ρ a b):Back prog w cloT hb g f ρ σ' a P b s':=⟨g,f,ρ,Ext.refl,R,p⟩
theorem Back.mono {σ':St}{a:α}{a':γ}{P:PH→Rho→α→β→Prop}{P':PH→Rho→γ→δ→Prop}{b:β}{b':δ}{s':Shared}(x:Back prog w cloT hb g f ρ σ' a P b s') (h:∀ g' ρ',g.le g'→ρ.le ρ'→P g' ρ' a b→P' g' ρ' a' b'):Back prog w cloT hb g f ρ σ' a' P' b' s' :=
  let ⟨g',f',ρ',E,R,p⟩:=x; ⟨g',f',ρ',E,R,h _ _ E.gl E.rl p⟩
theorem Tri.ret {a:α}{b:β}{P:PH→Rho→α→β→Prop}(h:P g ρ a b):Tri prog w cloT hb A g f ρ (M.ret a) (pure b) P:=fun σ a' σ' c e _ s R=>by
  cases e
  exact wpAny_pure (.same R h)
theorem Tri.fail {t:Sem β}{P:PH→Rho→α→β→Prop}:Tri prog w cloT hb A g f ρ M.fail t P:=fun _ _ _ _ e=>nomatch e
theorem Tri.bind {m:M α}{k:α→M γ}{t:Sem β}{u:β→Sem δ}{P:PH→Rho→α→β→Prop}{P':PH→Rho→γ→δ→Prop}(h:Tri prog w cloT hb A g f ρ m t P)
    (h':∀ g' f' ρ' a b,Ext g f ρ g' f' ρ'→P g' ρ' a b→Tri prog w cloT hb A g' f' ρ' (k a) (u b) P'):Tri prog w cloT hb A g f ρ (m.bd k) (t >>= u) P':=fun σ a σ' c e hc s R=>by
  obtain ⟨a1,σ1,c1,c2,e1,e2,rfl⟩:=M.bd_some e
  obtain ⟨hc1,hc2⟩:=allP_append.mp hc
  refine wpAny_bind (wpAny_mono (h σ a1 σ1 c1 e1 hc1 s R) (fun b s1 x => ?_) fun _ _ x=>x.elim)
  obtain ⟨g',f',ρ',E,R',p⟩:=x
  refine wpAny_mono (h' g' f' ρ' a1 b E p σ1 a σ' c2 e2 hc2 s1 R') (fun b' s2 y => ?_) fun _ _ x=>x
  obtain ⟨g'',f'',ρ'',E',R'',p'⟩:=y
  exact ⟨g'',f'',ρ'',E.trans E',R'',p'⟩
theorem Tri.mono {m:M α}{t:Sem β}{P P':PH→Rho→α→β→Prop}(h:Tri prog w cloT hb A g f ρ m t P) (hp:∀ g' ρ' a b,g.le g'→ρ.le ρ'→P g' ρ' a b→P' g' ρ' a b):Tri prog w cloT hb A g f ρ m t P':=fun σ a σ' c e hc s R =>
  wpAny_mono (h σ a σ' c e hc s R) (fun b s' x=>x.mono fun g' ρ' z1 z2 z=>hp _ _ _ _ z1 z2 z) fun _ _ x=>x
def Quick {β:Type}(u:Sem β) (b:β):Prop:=∀ (A:Around) (Q:β→Shared→Prop) (E:Value→Shared→Prop) (s:Shared),Q b s→wpAny (model prog w) A u Q E s
theorem Tri.quick {m:M α}{u:Sem γ}{b:γ}{t:γ→Sem β}{P:PH→Rho→α→β→Prop}(q:Quick (prog:=prog) (w:=w) u b) (h:Tri prog w cloT hb A g f ρ m (t b) P):Tri prog w cloT hb A g f ρ m (u >>= t) P:=fun σ a σ' c e hc s R =>
  wpAny_bind (q _ _ _ _ (h σ a σ' c e hc s R))
theorem quick_standAt {p:Pos}:Quick (prog:=prog) (w:=w) (standAt p) ():=fun _ _ _ _ h=>wpAny_standAt h
theorem quick_rule {p:String}:Quick (prog:=prog) (w:=w) (rule p) ():=fun _ _ _ _ h=>wpAny_rule h
theorem quick_pure {β:Type}{b:β}:Quick (prog:=prog) (w:=w) (pure b) b:=fun _ _ _ _ h=>wpAny_pure h
theorem quick_eq {β:Type}{u:Sem β}{b:β}(e:u=pure b):Quick (prog:=prog) (w:=w) u b:=e▸quick_pure
theorem quick_holding {β:Type}{vs:List Value}{u:Sem β}{b:β}(q:Quick (prog:=prog) (w:=w) u b):Quick (prog:=prog) (w:=w) (holding vs u) b:=fun _ _ _ _ h=>wpAny_holding (q _ _ _ _ h)
theorem quick_point:Quick (prog:=prog) (w:=w) point ():=fun _ _ _ _ h=>wpAny_point h
theorem quick_release {vs keep:List Value}:Quick (prog:=prog) (w:=w) (release vs keep) ():=fun _ _ _ _ h=>fun Γ p hΓ=>by rw [Sem.wp_release]; exact h
theorem quick_letGo {base:Expr}{o r:Value}:Quick (prog:=prog) (w:=w) (letTemporaryGo base o r) ():=fun _ _ _ _ h=>wpAny_letTemporaryGo h
theorem Tri.at_ {m:M α}{p:Pos}{t:Unit→Sem β}{P:PH→Rho→α→β→Prop}(h:Tri prog w cloT hb A g f ρ m (t ()) P):Tri prog w cloT hb A g f ρ m (standAt p >>= t) P:=h.quick quick_standAt
theorem Tri.holding {m:M α}{vs:List Value}{t:Sem β}{P:PH→Rho→α→β→Prop}(h:Tri prog w cloT hb A g f ρ m t P):Tri prog w cloT hb A g f ρ m (holding vs t) P:=fun σ a σ' c e hc s R=>wpAny_holding (h σ a σ' c e hc s R)
theorem Tri.operate {m:M α}{vs:List Value}{t:Sem Value}{P:PH→Rho→α→Value→Prop}(h:Tri prog w cloT hb A g f ρ m t P):Tri prog w cloT hb A g f ρ m (operate vs t) P:=fun σ a σ' c e hc s R=>fun Γ p hΓ=>by
  rw [Sem.wp_operate]; exact h σ a σ' c e hc s R Γ p hΓ
theorem Tri.of_eq {m:M α}{t t':Sem β}{P:PH→Rho→α→β→Prop}(e:t=t') (h:Tri prog w cloT hb A g f ρ m t' P):Tri prog w cloT hb A g f ρ m t P:=e▸h
theorem Tri.behind {m:M α}{t:Sem β}{u:β→Sem δ}{v:β→δ}{P:PH→Rho→α→β→Prop}{P':PH→Rho→α→δ→Prop}(h:Tri prog w cloT hb A g f ρ m t P) (q:∀ b,Quick (prog:=prog) (w:=w) (u b) (v b)) (hp:∀ g' ρ' a b,P g' ρ' a b→P' g' ρ' a (v b)) :
    Tri prog w cloT hb A g f ρ m (t >>= u) P':=fun σ a σ' c e hc s R =>
  wpAny_bind (wpAny_mono (h σ a σ' c e hc s R) (fun b s' x=>q b _ _ _ _ (x.mono fun _ _ _ _ z=>hp _ _ _ _ z)) fun _ _ x=>x)
theorem Tri.own {m:M γ}{k:γ→M α}{t:Sem β}{P:PH→Rho→α→β→Prop}(h:∀ σ x σ' c,m σ=some (x,σ',c)→allP c→∀ s,RelS prog w cloT hb σ g f ρ s→RelS prog w cloT hb σ' g f ρ s∧Tri prog w cloT hb A g f ρ (k x) t P):Tri prog w cloT hb A g f ρ (m.bd k) t P:=fun σ a σ' c e hc s R=>by
  obtain ⟨a1,σ1,c1,c2,e1,e2,rfl⟩:=M.bd_some e
  obtain ⟨hc1,hc2⟩:=allP_append.mp hc
  obtain ⟨R',T⟩:=h σ a1 σ1 c1 e1 hc1 s R
  exact T σ1 a σ' c2 e2 hc2 s R'
def getC (i:Nat):M Cell:=fun σ=>match lkC σ.cells i with
  | some c=>some (c,σ,[])
  | none=>none
def takeD:M Nat:=fun σ=>match σ.dirs with
  | d::r=>some (d,⟨σ.cells,σ.next,r⟩,[])
  | []=>none
def need (p:Prop):M Unit:=fun σ=>some ((),σ,[p])
def orFail {α:Type}:Option α→M α
  | some a=>M.ret a
  | none=>M.fail
def dropC (i:Nat):M Unit:=fun σ=>some ((),⟨rmC σ.cells i,σ.next,σ.dirs⟩,[])
theorem Tri.takeD {k:Nat→M α}{t:Sem β}{P:PH→Rho→α→β→Prop}(h:∀ d,Tri prog w cloT hb A g f ρ (k d) t P):Tri prog w cloT hb A g f ρ (takeD.bd k) t P:=.own fun σ x σ' c e _ s R=>by
  unfold Nu.takeD at e
  split at e
  · cases e; exact ⟨⟨R.r,R.n,R.b0⟩,h _⟩
  · cases e
theorem Tri.need {p:Prop}{k:Unit→M α}{t:Sem β}{P:PH→Rho→α→β→Prop}(h:p→Tri prog w cloT hb A g f ρ (k ()) t P):Tri prog w cloT hb A g f ρ ((need p).bd k) t P:=.own fun σ x σ' c e hc s R=>by
  cases e
  exact ⟨R,h hc.1⟩
theorem Tri.orFail {o:Option γ}{k:γ→M α}{t:Sem β}{P:PH→Rho→α→β→Prop}(h:∀ a,o=some a→Tri prog w cloT hb A g f ρ (k a) t P):Tri prog w cloT hb A g f ρ ((orFail o).bd k) t P:=.own fun σ x σ' c e hc s R=>by
  cases o with
  | none=>cases e
  | some a=>cases e; exact ⟨R,h _ rfl⟩
theorem Tri.dropC {i:Nat}{k:Unit→M α}{t:Sem β}{P:PH→Rho→α→β→Prop}(h:Tri prog w cloT hb A g f ρ (k ()) t P):Tri prog w cloT hb A g f ρ ((dropC i).bd k) t P:=.own fun σ x σ' c e hc s R=>by
  cases e
  exact ⟨⟨R.r.less (rmC_sub _ _),R.n,R.b0⟩,h⟩
abbrev VRp (w:World):PH→Rho→TV→Value→Prop:=fun g ρ t v=>VR w.params g ρ t v
abbrev VRsp (w:World):PH→Rho→List TV→List Value→Prop:=fun g ρ t v=>VRs w.params g ρ t v
end
end
section
structure FnI where
  nm:List Str
  op:List TV
  body:List Stmt
  scope:Scope
  qual:Str
  co:Option Nat
structure Tab where
  gl:List (Str×TV)
  me:List (Nat×List (Str×Nat))
  ab:List (Nat×List Str)
  cl:List (Nat×List (Str×Nat))
  fz:List Nat
  mm:List (Nat×Nat)
  ro:List (Nat×List (Str×TV))
  kp:List Nat
  fn:List (Nat×FnI)
def hasN (l:List Str) (x:Str):Bool:=@List.rec Str (fun _=>Bool) false (fun p _ ih=>@Bool.rec (fun _=>Bool) ih true (sq p x)) l
theorem hasN_mem {l:List Str}{x:Str}(h:hasN l x=true):x∈l:=by
  induction l with
  | nil=>cases h
  | cons p l ih =>
    have h:(@Bool.rec (fun _=>Bool) (hasN l x) true (sq p x))=true:=h
    cases q:sq p x with
    | true=>rw [sq_iff.mp q]; exact .head _
    | false=>rw [q] at h; exact .tail _ (ih h)
def hasI (l:List Nat) (x:Nat):Bool:=@List.rec Nat (fun _=>Bool) false (fun p _ ih=>@Bool.rec (fun _=>Bool) ih true (Nat.beq p x)) l
theorem hasI_mem {l:List Nat}{x:Nat}(h:hasI l x=true):x∈l:=by
  induction l with
  | nil=>cases h
  | cons p l ih =>
    have h:(@Bool.rec (fun _=>Bool) (hasI l x) true (Nat.beq p x))=true:=h
    cases q:Nat.beq p x with
    | true=>rw [Nat.eq_of_beq_eq_true q]; exact .head _
    | false=>rw [q] at h; exact .tail _ (ih h)
def abOk (K:Frag) (C:Nat) (name:Str):Bool:=findIn K (.ref C) name==some none&&plainGet K C name&&hasDictIn K C&&plainOver K C&&findIn K (.ref C) "__setattr__" == some (some (.builtin "object.__setattr__"))
def meOk (K:Frag) (C:Nat) (name:Str) (f:Nat):Bool:=findIn K (.ref C) name==some (some (.ref f))&&plainGet K C name&&isFn K (.ref f)
def clOk (K:Frag) (C:Nat) (name:Str) (f:Nat):Bool:=readsIn K C (.type "type")&&(match findCls K (.ref C) (.type "type") name with | some (.val v)=>v == .ref f | _=>false)&&specialIn K (.ref C) "__getattribute__" == some (some (.builtin "type.__getattribute__"))
def mkOk (K:Frag) (C fI:Nat):Bool:=makesIn K C&&findIn K (.ref C) "__init__" == some (some (.ref fI))&&typeIn K (.ref fI)==some (.type "function")
inductive SKeys (P:Params):List DictEntry→Prop
  | nil:SKeys P []
  | cons {x t v es}:SKeys P es→SKeys P (⟨PyData.keyHash P x,.str x t,v⟩::es)
theorem FR.skeys {P:Params}{g:PH}{ρ:Rho}{fs:List (Str×TV)}{es:List DictEntry}(h:FR P g ρ fs es):SKeys P es:=by
  induction es generalizing fs with
  | nil=>exact .nil
  | cons e es ih=>cases h with | cons _ r=>exact .cons (ih r)
def kPH (K:Frag):PH:=fun a=>K.lookup a
def bindV (i:FnI) (vs dvs:List Value):List (Str×Value):=i.nm.zip (vs++dvs.drop (vs.length - (i.nm.length - i.op.length)))
def FnOk (P:Params) (K:Frag) (a:Nat) (i:FnI):Prop:=∃ oc od osl fd,K.lookup a=some ⟨oc,od,.func fd,osl⟩∧fd.scope=i.scope∧fd.body = .stmts i.body∧fd.qualname=i.qual∧fd.globals=mainGlobals∧fd.builtins=builtinsNs∧fd.closure=[]∧codeIn K fd.code i.qual=true ∧
  i.scope.isCoroutine=false∧i.scope.isGenerator=false∧i.scope.kind = .function∧(i.nm.all fun y=>i.scope.names.lookup y==some .local||i.scope.names.lookup y==some .cell)=true∧((cellsFrom 0 i.scope.names []).map (·.1)).Nodup∧i.op.length≤i.nm.length∧(∀ c,i.co=some c→fd.code = .ref c) ∧
  ∃ dvs:List Value,(∀ g ρ,PH.le (kPH K) g→VRs P g ρ i.op dvs) ∧ ∀ S (vs:List Value),i.nm.length - i.op.length≤vs.length→vs.length≤i.nm.length→peek K S (bindArgs fd ⟨vs,[]⟩)=some (bindV i vs dvs)
structure TabOk (P:Params) (K:Frag) (tab:Tab) (mg mb:Str→Option Value):Prop where
  gl:∀ x t,lkF tab.gl x=some t→∃ v,(∀ g ρ,PH.le (kPH K) g→VR P g ρ t v)∧(mg x=some v∨(mg x=none∧mb x=some v))
  me:∀ C l,lkC tab.me C=some l→∀ x f,lkF l x=some f→meOk K C x f=true
  ab:∀ C l,lkC tab.ab C=some l→∀ x,x∈l→abOk K C x=true
  cl:∀ C l,lkC tab.cl C=some l→∀ x f,lkF l x=some f→clOk K C x f=true
  mm:∀ C f,lkC tab.mm C=some f→mkOk K C f=true
  ro:∀ a l,lkC tab.ro a=some l→∃ es n,K.lookup a=some (dictOf es n) ∧ ∀ g ρ,PH.le (kPH K) g→FR P g ρ l es
  kp:∀ a,hasI tab.kp a=true→keepIn K (.ref a)=true
  fn:∀ a i,lkC tab.fn a=some i→FnOk P K a i
section
variable {prog:Program}{w:World}{cloT:Nat→CloI}{hb:HB}{K:Frag}{tab:Tab}{mg mb:Str→Option Value}
variable {A:Around}{g f g' f':PH}{ρ ρ':Rho}{α β γ δ:Type}{E:Value→Shared→Prop}{s:Shared}
theorem BaseH.le (B:BaseH K mg mb hb) (h:PH.le hb.heap.get? g):PH.le (kPH K) g:=fun a o e=>h _ _ (B.k a o e)
theorem VR.handed {P:Params}{t:TV}{v:Value}(h:VR P g ρ t v) (n:∀ i,t ≠ .bi i):handedIn v=true:=by
  cases h<;>first | rfl | exact absurd rfl (n _)
theorem inst_at {x d C:Nat}{es:List DictEntry}{n:Nat}{h:Heap}(hx:h.get? x=some ⟨.ref C,some d,.plain,#[]⟩) (hd:h.get? d=some (dictOf es n)):InstAt h x ⟨.ref C,some d,.plain,#[]⟩ C (some (dictOf es n)):=⟨hx,rfl,rfl,hd⟩
theorem getAttr_inst {x d C:Nat}{es:List DictEntry}{n:Nat}{name:Str}{v:Value}{e:Bool}{Q:Value→Shared→Prop}(X:K.In s.heap) (hx:s.heap.get? x=some ⟨.ref C,some d,.plain,#[]⟩) (hd:s.heap.get? d=some (dictOf es n)) (ok:abOk K C name=true)
    (hl:getL name es=some (some v)) (hv:handedIn v=true) (h:Q v { s with toks:=s.toks+1 }):wpAny (model prog w) A (getAttr (.ref x) name e) Q E s:=by
  simp only [abOk,Bool.and_eq_true,beq_iff_eq] at ok
  obtain ⟨⟨⟨⟨o1,o2⟩,o3⟩,o4⟩,o5⟩:=ok
  exact get_value X (inst_at hx hd) (plainGet_of o2).1 (findObj_own o3 o1 rfl hl) hv h
def fieldsOfT (t:TV):M (Nat×List (Str×TV)):=match t with
  | .ref i=>(getC i).bd fun c=>match c with
    | .inst C fs=>.ret (C,fs)
    | _=>.fail
  | .ins C fs=>.ret (C,fs)
  | _=>.fail
def notBi:TV→Bool
  | .bi _=>false
  | _=>true
def getA (tab:Tab) (t:TV) (name:Str):M TV:=match t with
  | .raw C=>(orFail (lkC tab.cl C)).bd fun l=>(orFail (lkF l name)).bd fun f=>.ret (.raw f)
  | t=>(fieldsOfT t).bd fun p=>(orFail (lkC tab.ab p.1)).bd fun l=>@Bool.rec (fun _=>M TV) .fail ((orFail (lkF p.2 name)).bd fun r=>@Bool.rec (fun _=>M TV) .fail (.ret r) (notBi r)) (hasN l name)
theorem notBi_ne {t:TV}(h:notBi t=true):∀ i,t ≠ .bi i:=by rintro i rfl; cases h
theorem fieldsOfT_at {σ σ':St}{c:List Prop}{t:TV}{v:Value}{p:Nat×List (Str×TV)}(R:RelS prog w cloT hb σ g f ρ s) (h:VR w.params g ρ t v) (e:fieldsOfT t σ=some (p,σ',c)) :
    σ'=σ ∧ ∃ x d es n,v = .ref x∧s.heap.get? x=some ⟨.ref p.1,some d,.plain,#[]⟩∧s.heap.get? d=some (dictOf es n)∧FR w.params g ρ p.2 es:=by
  unfold fieldsOfT at e
  cases h with
  | @ref i a d hi =>
    obtain ⟨c1,σ1,p1,p2,e1,e2,rfl⟩:=M.bd_some e
    unfold getC at e1
    split at e1
    · rename_i cc hcc
      cases e1
      obtain ⟨a',d',hi',z⟩:=R.r.at_ i _ (lkC_mem hcc)
      rw [hi] at hi'; cases hi'
      cases c1<;>first | cases e2 | skip
      obtain ⟨z1,es,n,z2,z3,_⟩:=z
      exact ⟨rfl,a,d,es,n,rfl,z1,z2,z3⟩
    · cases e1
  | @ins C fs a d es n h1 h2 h3=>cases e; exact ⟨rfl,a,d,es,n,rfl,R.gk h1,R.gk h2,h3⟩
  | _=>cases e
theorem Tri.getA (B:BaseH K mg mb hb) (T:TabOk w.params K tab mg mb) {t:TV}{v:Value}{name:Str}{ex:Bool}(h:VR w.params g ρ t v):Tri prog w cloT hb A g f ρ (getA tab t name) (getAttr v name ex) (VRp w):=by
  intro σ a σ' c e hc s R
  have X:=R.K B
  unfold Nu.getA at e
  split at e
  · rename_i C
    cases h
    obtain ⟨l,σ1,c1,c2,e1,e2,rfl⟩:=M.bd_some e
    cases hl:lkC tab.cl C with
    | none=>rw [hl] at e1; cases e1
    | some l' =>
      rw [hl] at e1; cases e1
      obtain ⟨fn,σ2,c3,c4,e3,e4,rfl⟩:=M.bd_some e2
      cases hf:lkF l name with
      | none=>rw [hf] at e3; cases e3
      | some f' =>
        rw [hf] at e3; cases e3
        cases e4
        have ok:=T.cl C l hl name fn hf
        simp only [clOk,Bool.and_eq_true,beq_iff_eq] at ok
        obtain ⟨⟨o1,o2⟩,o3⟩:=ok
        split at o2
        · rename_i v' hv'
          have:=eq_of_beq o2; subst this
          exact cls_value X o1 hv' rfl (.same (R.grow fun _ _ e=>e) .raw)
        · cases o2
  · obtain ⟨p,σ1,c1,c2,e1,e2,rfl⟩:=M.bd_some e
    obtain ⟨rfl,x,d,es,n,rfl,hx,hd,F⟩:=fieldsOfT_at R h e1
    obtain ⟨l,σ2,c3,c4,e3,e4,rfl⟩:=M.bd_some e2
    cases hl:lkC tab.ab p.1 with
    | none=>rw [hl] at e3; cases e3
    | some l' =>
      rw [hl] at e3; cases e3
      cases hn:hasN l name with
      | false=>rw [hn] at e4; cases e4
      | true =>
        rw [hn] at e4
        obtain ⟨r,σ3,c5,c6,e5,e6,rfl⟩:=M.bd_some e4
        rcases F.get (x:=name) with ⟨q,_⟩ | ⟨t',v',q,ql,qr⟩
        · rw [q] at e5; cases e5
        · rw [q] at e5; cases e5
          cases nb:notBi r with
          | false=>rw [nb] at e6; cases e6
          | true =>
            rw [nb] at e6; cases e6
            exact getAttr_inst X hx hd (T.ab _ _ hl _ (hasN_mem hn)) ql (qr.handed (notBi_ne nb)) (.same (R.grow fun _ _ e=>e) qr)
end
end
section
section
variable {α β γ:Type}{σ σ':St}{a:α}{c:List Prop}
theorem orFail_inv {o:Option γ}{k:γ→M α}(h:(orFail o).bd k σ=some (a,σ',c)):∃ x,o=some x∧k x σ=some (a,σ',c):=by
  obtain ⟨x,σ1,c1,c2,e1,e2,rfl⟩:=M.bd_some h
  cases o with
  | none=>cases e1
  | some y=>cases e1; exact ⟨_,rfl,e2⟩
theorem getC_inv {i:Nat}{k:Cell→M α}(h:(getC i).bd k σ=some (a,σ',c)):∃ x,lkC σ.cells i=some x∧k x σ=some (a,σ',c):=by
  obtain ⟨x,σ1,c1,c2,e1,e2,rfl⟩:=M.bd_some h
  unfold getC at e1
  split at e1
  · cases e1; exact ⟨_,by assumption,e2⟩
  · cases e1
theorem need_inv {p:Prop}{k:Unit→M α}(h:(need p).bd k σ=some (a,σ',c)) (hc:allP c):p ∧ ∃ c',k () σ=some (a,σ',c')∧allP c':=by
  obtain ⟨x,σ1,c1,c2,e1,e2,rfl⟩:=M.bd_some h
  cases e1
  exact ⟨hc.1,c2,e2,hc.2⟩
theorem takeD_inv {k:Nat→M α}(h:takeD.bd k σ=some (a,σ',c)):∃ d r,σ.dirs=d::r∧k d ⟨σ.cells,σ.next,r⟩=some (a,σ',c):=by
  obtain ⟨x,σ1,c1,c2,e1,e2,rfl⟩:=M.bd_some h
  unfold takeD at e1
  split at e1
  · cases e1; exact ⟨_,_,by assumption,e2⟩
  · cases e1
theorem dropC_inv {i:Nat}{k:Unit→M α}(h:(dropC i).bd k σ=some (a,σ',c)):k () ⟨rmC σ.cells i,σ.next,σ.dirs⟩=some (a,σ',c):=by
  obtain ⟨x,σ1,c1,c2,e1,e2,rfl⟩:=M.bd_some h
  cases e1; exact e2
theorem ret_bd_inv {x:γ}{k:γ→M α}(h:(M.ret x).bd k σ=some (a,σ',c)):k x σ=some (a,σ',c):=by
  obtain ⟨x,σ1,c1,c2,e1,e2,rfl⟩:=M.bd_some h
  cases e1; exact e2
def chk (b:Bool) (k:M α):M α:=@Bool.rec (fun _=>M α) .fail k b
theorem chk_inv {b:Bool}{k:M α}(h:chk b k σ=some (a,σ',c)):b=true∧k σ=some (a,σ',c):=by
  cases b with
  | false=>cases h
  | true=>exact ⟨rfl,h⟩
def ifB (b:Bool) (k l:M α):M α:=@Bool.rec (fun _=>M α) l k b
def putC (i:Nat) (x:Cell):M Unit:=fun σ=>some ((),⟨puC σ.cells i x,σ.next,σ.dirs⟩,[])
theorem putC_inv {i:Nat}{x:Cell}{k:Unit→M α}(h:(putC i x).bd k σ=some (a,σ',c)):k () ⟨puC σ.cells i x,σ.next,σ.dirs⟩=some (a,σ',c):=by
  obtain ⟨x,σ1,c1,c2,e1,e2,rfl⟩:=M.bd_some h
  cases e1; exact e2
def newC (x:Cell):M Nat:=fun σ=>some (σ.next,⟨(σ.next,x)::σ.cells,σ.next+1,σ.dirs⟩,[])
theorem newC_inv {x:Cell}{k:Nat→M α}(h:(newC x).bd k σ=some (a,σ',c)):k σ.next ⟨(σ.next,x)::σ.cells,σ.next+1,σ.dirs⟩=some (a,σ',c):=by
  obtain ⟨x,σ1,c1,c2,e1,e2,rfl⟩:=M.bd_some h
  cases e1; exact e2
end
section
variable {prog:Program}{w:World}{cloT:Nat→CloI}{hb:HB}{K:Frag}{tab:Tab}{mg mb:Str→Option Value}
variable {A:Around}{g f g' f':PH}{ρ ρ':Rho}{α β γ δ:Type}{E:Value→Shared→Prop}{s:Shared}
theorem RelS.dirs {σ:St}{r:List Nat}(R:RelS prog w cloT hb σ g f ρ s):RelS prog w cloT hb ⟨σ.cells,σ.next,r⟩ g f ρ s:=⟨R.r,R.n,R.b0⟩
theorem RelS.toks {σ:St}{s':Shared}(R:RelS prog w cloT hb σ g f ρ s) (e:s'.heap=s.heap) (e':Same s s':=by exact ⟨rfl,rfl⟩):RelS prog w cloT hb σ g f ρ s':=⟨by rw [e]; exact R.r,R.n,R.b0.go e'⟩
theorem RelS.cell {σ:St}{i a d:Nat}{c:Cell}(R:RelS prog w cloT hb σ g f ρ s) (h:lkC σ.cells i=some c) (hi:ρ i=some (a,d)):CellAt prog w cloT g ρ s.heap a d c:=by
  obtain ⟨a',d',e,z⟩:=R.r.at_ i c (lkC_mem h)
  rw [hi] at e; cases e
  exact z
theorem RelS.there {σ:St}{i:Nat}{c:Cell}(R:RelS prog w cloT hb σ g f ρ s) (h:lkC σ.cells i=some c):∃ a d,ρ i=some (a,d)∧CellAt prog w cloT g ρ s.heap a d c:=R.r.at_ i c (lkC_mem h)
theorem RelS.put {σ:St}{i a d y:Nat}{c c':Cell}{s':Shared}(R:RelS prog w cloT hb σ g f ρ s) (hl:lkC σ.cells i=some c) (hi:ρ i=some (a,d)) (ht:c'.two=c.two) (hy:y=a∨(c.two=true∧y=d)) (k:∀ b o,b≠y→s.heap.get? b=some o→s'.heap.get? b=some o)
    (hc:CellAt prog w cloT g ρ s'.heap a d c') (e':Same s s':=by exact ⟨rfl,rfl⟩):RelS prog w cloT hb ⟨puC σ.cells i c',σ.next,σ.dirs⟩ g f ρ s':=⟨R.r.put hl hi ht hy k hc,R.n,R.b0.go e'⟩
theorem sameBut_k {y:Addr}{h h':Heap}(hs:Heap.SameBut y h h'):∀ b o,b≠y→h.get? b=some o→h'.get? b=some o:=fun b o n e=>(hs.2 b n).trans e
theorem CellAt.ne {a d:Nat}{c:Cell}{l:List Ent}{h:Heap}(R:Rel prog w cloT g f h ρ l) {i:Nat}(hm:(i,c)∈l) (hi:ρ i=some (a,d)) (t:c.two=true):a≠d:=by
  obtain ⟨l1,l2,e⟩:=List.append_of_mem hm
  have nd:=R.nd
  rw [e,adrs_append,adrs_cons] at nd
  have hA:adr ρ (i,c)=[a,d]:=by unfold adr; dsimp only; rw [hi]; dsimp only; rw [t]; rfl
  rw [hA] at nd
  intro q
  have:=(List.nodup_append.mp (List.nodup_append.mp nd).2.1).1
  rw [q] at this; simp at this
theorem RelS.new {σ:St}{a d:Nat}{c:Cell}{s':Shared}(R:RelS prog w cloT hb σ g f ρ s) (k:∀ b o,s.heap.get? b=some o→s'.heap.get? b=some o) (ha:s.heap.get? a=none) (hd:c.two=true→s.heap.get? d=none∧a≠d)
    (hc:CellAt prog w cloT g (ρ.add σ.next a d) s'.heap a d c) (e':Same s s':=by exact ⟨rfl,rfl⟩):RelS prog w cloT hb ⟨(σ.next,c)::σ.cells,σ.next+1,σ.dirs⟩ g f (ρ.add σ.next a d) s'∧Ext g f ρ g f (ρ.add σ.next a d) :=
  ⟨⟨R.r.new (R.n _ (Nat.le_refl _)) k ha hd hc,fun i hi=>by
    have hi:σ.next+1≤i:=hi
    rw [Rho.add_ne (by omega)]; exact R.n i (by omega),R.b0.go e'⟩,⟨PH.le_refl _,PH.le_refl _,Rho.add_le (R.n _ (Nat.le_refl _)),fun b o e=>.inl e⟩⟩
theorem RelS.imm {σ:St}{a:Addr}{o:Obj}{s':Shared}(R:RelS prog w cloT hb σ g f ρ s) (k:∀ b o,s.heap.get? b=some o→s'.heap.get? b=some o) (ha:s.heap.get? a=none) (ho:s'.heap.get? a=some o) (e':Same s s':=by exact ⟨rfl,rfl⟩) :
    RelS prog w cloT hb σ (g.add a o) (f.add a o) ρ s'∧Ext g f ρ (g.add a o) (f.add a o) ρ :=
  let ⟨x,y⟩:=R.r.imm k ha ho; ⟨⟨x,R.n,(R.b0.go e').up y.gl⟩,y⟩
theorem fresh_none (h:Heap):h.get? h.objs.size=none:=by
  cases e:h.get? h.objs.size with
  | none=>rfl
  | some o=>exact absurd (Heap.lt_size e) (Nat.lt_irrefl _)
theorem fresh_none' (h:Heap) (o:Obj):h.get? (h.push o).objs.size=none:=by
  cases e:h.get? (h.push o).objs.size with
  | none=>rfl
  | some o' =>
    have z:=Heap.lt_size e
    rw [Heap.size_push] at z
    exact absurd z (Nat.not_lt.mpr (Nat.le_succ _))
theorem setAttr_inst {x d C:Nat}{es:List DictEntry}{n:Nat}{name:Str}{v:Value}{Q:Unit→Shared→Prop}(X:K.In s.heap) (hx:s.heap.get? x=some ⟨.ref C,some d,.plain,#[]⟩) (hd:s.heap.get? d=some (dictOf es n)) (ok:abOk K C name=true)
    (hl:(getL name es).isSome=true) (hz:(putL name (PyData.keyHash w.params name) (.str name (s.toks+1)) v es).length≤1001)
    (h:∀ h',Heap.SameBut d s.heap h'→h'.get? d=some (dictOf (putL name (PyData.keyHash w.params name) (.str name (s.toks+1)) v es) (putN name es n))→Q () { s with heap:=h',toks:=s.toks+2 }) :
    wpAny (model prog w) A (setAttr (.ref x) name v) Q E s:=by
  simp only [abOk,Bool.and_eq_true,beq_iff_eq] at ok
  obtain ⟨⟨⟨⟨o1,o2⟩,o3⟩,o4⟩,o5⟩:=ok
  have I:=inst_at hx hd
  refine set_plain X I o5 (osa_open (s:={ s with toks:=s.toks+1 }) (r:=none) X I o4 (by unfold takerIn; rw [o1]; rfl) fun b => ?_)
  obtain ⟨cd,hc,hd'⟩:=any_some o3
  have D':(s.heap.update d (Obj.putName name (PyData.keyHash w.params name) (.str name (s.toks+1)) v)).get? d=some (dictOf (putL name (PyData.keyHash w.params name) (.str name (s.toks+1)) v es) (putN name es n)):=by
    rw [← putName_dict]
    exact Heap.get?_update_self _ hd (by rw [putName_dict]; rfl)
  refine wpAny_bind (wpAny_pure (wpAny_bind (wpAny_bind (wpAny_loadPart hx (wpAny_bind ((looks_clsIn (M:=model prog w) X hc) _ _ _ _ (fun _ _ e=>e) ?_))))))
  rw [hd']
  refine wpAny_pure (a:=some d) (wpAny_bind (wpAny_pure (wpAny_bind ?_)))
  unfold nsSet
  refine wpAny_bind (wpAny_bind (wpAny_askSetting (wpAny_pure (wpAny_bind (wpAny_mkText (wpAny_bind (wpAny_loadPart hd ?_)))))))
  have c:(!es.toArray.any (·.key.isStr name)&&es.toArray.any (·.refKey))=false:=by
    rw [← Array.any_toList,← Array.any_toList]
    unfold getL at hl
    split at hl
    · rename_i en he
      rw [List.any_eq_true.mpr ⟨en,List.mem_of_find?_eq_some he,List.find?_some he⟩]; rfl
    · split at hl
      · cases hl
      · rename_i z; rw [Bool.not_eq_true] at z
        rw [show es.toArray.toList.any (·.refKey)=false from z,Bool.and_false]
  dsimp only
  rw [aRefKeyMayBeTheName_at,c]
  refine wpAny_updatePart hd ?_
  refine wpAny_bind (wpAny_lookBehind D' (pastItsLine_dict (by rw [List.size_toArray,sizeLine_eq]; omega)) ?_)
  exact wpAny_pure (h _ (Heap.SameBut.update ..) D')
end
end
section
structure AE where
  scope:Scope
  loc:Nat
  cs:List (Str×Nat)
  co:Option (Nat×Str)
structure EnvR (ρ:Rho) (e:AE) (env:Env):Prop where
  sc:env.scope=e.scope
  fn:e.scope.kind = .function
  gl:env.globals=mainGlobals
  bl:env.builtins=builtinsNs
  lo:∃ d,ρ e.loc=some (env.locals,d)
  cs:ClR ρ e.cs env.cells
  co:∀ c q,e.co=some (c,q)→env.code = .ref c∧env.qual=q++".<locals>."
theorem EnvR.mono {ρ ρ':Rho}(h:ρ.le ρ') {e:AE}{env:Env}(x:EnvR ρ e env):EnvR ρ' e env :=
  ⟨x.sc,x.fn,x.gl,x.bl,let ⟨d,e⟩:=x.lo; ⟨d,h _ _ e⟩,x.cs.mono h,x.co⟩
theorem EnvR.kind {ρ:Rho}{e:AE}{env:Env}(x:EnvR ρ e env) {n:Str}{k:Option NameKind}(h:lkF e.scope.names n=k):env.kindOf n=k:=by
  unfold Env.kindOf; rw [x.sc,← lkF_lookup]; exact h
def kindB (k:Option NameKind):Nat:=match k with
  | some .local=>1
  | some .cell=>2
  | some .free=>3
  | some .globalImplicit=>4
  | _=>0
def nmDebug:Str:=Str.ofString "__debug__"
def nmClass:Str:=Str.ofString "__classdict__"
def evName (tab:Tab) (e:AE) (x:Str):M TV:=chk (!(sq x nmDebug)) (match lkF e.scope.names x with
  | some .local=>(getC e.loc).bd fun c=>match c with
    | .ns l=>(orFail (lkF l x)).bd fun t=>.ret t
    | _=>.fail
  | some .cell=>(orFail (lkF e.cs x)).bd fun i=>(getC i).bd fun c=>match c with
    | .cel (some t)=>.ret t
    | _=>.fail
  | some .free=>chk (!(sq x nmClass)) ((orFail (lkF e.cs x)).bd fun i=>(getC i).bd fun c=>match c with
    | .cel (some t)=>.ret t
    | _=>.fail)
  | some .globalImplicit=>(orFail (lkF tab.gl x)).bd fun t=>.ret t
  | _=>.fail)
def stName (e:AE) (x:Str) (t:TV):M Unit:=match lkF e.scope.names x with
  | some .local=>(getC e.loc).bd fun c=>match c with
    | .ns l=>putC e.loc (.ns (puF l x t))
    | _=>.fail
  | some .cell=>(orFail (lkF e.cs x)).bd fun i=>(getC i).bd fun c=>match c with
    | .cel _=>putC i (.cel (some t))
    | _=>.fail
  | _=>.fail
def evC:Const→M TV
  | .none=>.ret .none
  | .bool b=>.ret (.bool b)
  | .int i=>.ret (.int i)
  | .str s=>.ret (.str s)
  | _=>.fail
theorem sq_false {a b:Str}(h:(!(sq a b))=true):(a==b)=false:=by
  cases q:sq a b with
  | true=>rw [q] at h; cases h
  | false =>
    refine beq_eq_false_iff_ne.mpr fun e => ?_
    rw [e,sq_refl] at q; cases q
section
variable {prog:Program}{w:World}{cloT:Nat→CloI}{hb:HB}{K:Frag}{tab:Tab}{mg mb:Str→Option Value}
variable {A:Around}{g f g' f':PH}{ρ ρ':Rho}{α β γ δ:Type}{E:Value→Shared→Prop}{s:Shared}
theorem Tri.const {c:Const}{k:Nat}{pos:Pos}{env:Env}:Tri prog w cloT hb A g f ρ (evC c) (eval (.Constant c k pos) env) (VRp w):=by
  intro σ a σ' cc e hc s R
  cases c<;>first | (cases e; done) | (cases e; skip)
  · exact fun _ _ _=>.same R .none
  · exact fun _ _ _=>.same R .bool
  · exact wpAny_Constant_int (.same (R.toks rfl) .int)
  · exact Constant_str (.same (R.toks rfl) .str)
theorem OptR.some_of {P:Params}{t:TV}{v:Option Value}(h:OptR P g ρ (some t) v):∃ x,v=some x∧VR P g ρ t x:=h
theorem Tri.name (B:BaseH K mg mb hb) (T:TabOk w.params K tab mg mb) {e:AE}{env:Env}{x:Str}{pos:Pos}(N:EnvR ρ e env):Tri prog w cloT hb A g f ρ (evName tab e x) (eval (.Name x pos) env) (VRp w):=by
  intro σ a σ' cc h hc s R
  unfold evName at h
  obtain ⟨h1,h⟩:=chk_inv h
  have hd:(x==("__debug__" : Str))=false:=sq_false h1
  have hk:env.scope.kind = .function:=by rw [N.sc]; exact N.fn
  rcases q:lkF e.scope.names x with _ | (_ | _ | _ | _ | _)<;>rw [q] at h<;>dsimp only at h
  · cases h
  · obtain ⟨c,hc',h⟩:=getC_inv h
    split at h
    · rename_i l
      obtain ⟨t,ht,h⟩:=orFail_inv h
      cases h
      obtain ⟨d,hl⟩:=N.lo
      obtain ⟨o,es,ep,o1,o2,o3,o4⟩:=R.cell hc' hl
      have o5:=o4 x
      rw [ht] at o5
      obtain ⟨v,e1,e2⟩:=o5.some_of
      exact wpAny_Name (wpAny_loadName_local hk (N.kind q) ⟨o,es,ep,o1,o2,o3,fun _=>rfl⟩ e1 (.same R e2)) hd
    · cases h
  · obtain ⟨i,hi,h⟩:=orFail_inv h
    obtain ⟨c,hc',h⟩:=getC_inv h
    split at h
    · cases h
      obtain ⟨a',d,e1,e2⟩:=N.cs.get hi
      obtain ⟨o,v',o1,o2,o3⟩:=R.cell hc' e1
      obtain ⟨v,rfl,o4⟩:=o3.some_of
      exact wpAny_Name (wpAny_loadName_cell hk (N.kind q) e2 ⟨o,o1,o2⟩ (.same R o4)) hd
    · cases h
  · obtain ⟨h2,h⟩:=chk_inv h
    obtain ⟨i,hi,h⟩:=orFail_inv h
    obtain ⟨c,hc',h⟩:=getC_inv h
    split at h
    · cases h
      obtain ⟨a',d,e1,e2⟩:=N.cs.get hi
      obtain ⟨o,v',o1,o2,o3⟩:=R.cell hc' e1
      obtain ⟨v,rfl,o4⟩:=o3.some_of
      exact wpAny_Name (wpAny_loadName_free hk (N.kind q) e2 ⟨o,o1,o2⟩ (.same R o4) (sq_false h2)) hd
    · cases h
  · cases h
  · obtain ⟨t,ht,h⟩:=orFail_inv h
    cases h
    obtain ⟨v,hv,hg⟩:=T.gl x a ht
    have V:=hv g ρ (B.le R.b)
    refine Name_function_global hk (N.kind q) ?_ hd
    rcases hg with hg | ⟨hg,hg'⟩
    · exact loadGlobal_global (by rw [N.gl]; exact B.g.keeps R.keeps) hg (.same R V)
    · exact loadGlobal_builtin (by rw [N.gl]; exact B.g.keeps R.keeps) hg (by rw [N.bl]; exact B.b.keeps R.keeps) hg' (.same R V)
theorem Tri.store {e:AE}{env:Env}{x:Str}{t:TV}{v:Value}(N:EnvR ρ e env) (hv:VR w.params g ρ t v):Tri prog w cloT hb A g f ρ (stName e x t) (storeName env x v) (fun _ _ _ _=>True):=by
  intro σ a σ' cc h hc s R
  unfold stName at h
  have hk:env.scope.kind = .function:=by rw [N.sc]; exact N.fn
  rcases q:lkF e.scope.names x with _ | (_ | _ | _ | _ | _)<;>rw [q] at h<;>dsimp only at h
  · cases h
  · obtain ⟨c,hc',h⟩:=getC_inv h
    split at h
    · rename_i l
      cases h
      obtain ⟨d,hl⟩:=N.lo
      obtain ⟨o,es,ep,o1,o2,o3,o4⟩:=R.cell hc' hl
      refine wpAny_storeName_local (N.kind q) (m:=fun n=>nsFind es n) ⟨o,es,ep,o1,o2,o3,fun _=>rfl⟩ (fun h' hn hs => ?_) (by rw [hk]; rfl)
      obtain ⟨o',es',ep',p1,p2,p3,p4⟩:=hn
      refine .same (R.put hc' hl rfl (.inl rfl) (sameBut_k hs) ⟨o',es',ep',p1,p2,p3,fun y => ?_⟩) trivial
      rw [p4 y,lkF_puF]; dsimp only
      by_cases z:y=x
      · rw [if_pos z,if_pos z]; exact ⟨v,rfl,hv⟩
      · rw [if_neg z,if_neg z]; exact o4 y
    · cases h
  · obtain ⟨i,hi,h⟩:=orFail_inv h
    obtain ⟨c,hc',h⟩:=getC_inv h
    split at h
    · rename_i v0
      cases h
      obtain ⟨a',d,e1,e2⟩:=N.cs.get hi
      obtain ⟨o,v',o1,o2,o3⟩:=R.cell hc' e1
      refine wpAny_storeName_cell hk (N.kind q) e2 ⟨o,o1,o2⟩ fun h' hh hs => ?_
      obtain ⟨o',p1,p2⟩:=hh
      exact .same (R.put hc' e1 rfl (.inl rfl) (sameBut_k hs) ⟨o',_,p1,p2,v,rfl,hv⟩) trivial
    · cases h
  · cases h
  · cases h
  · cases h
def setA (tab:Tab) (t:TV) (name:Str) (r:TV):M Unit:=match t with
  | .ref i=>(getC i).bd fun c=>match c with
    | .inst C fs=>(orFail (lkC tab.ab C)).bd fun l=>chk (hasN l name) (chk (Nat.ble fs.length 900) (putC i (.inst C (puF fs name r))))
    | _=>.fail
  | _=>.fail
theorem putL_length (x:Str) (h:Int) (k v:Value):∀ es:List DictEntry,(putL x h k v es).length≤es.length+1
  | []=>Nat.le_refl _
  | e::r=>by
    unfold putL
    split
    · exact Nat.le_succ _
    · exact Nat.succ_le_succ (putL_length x h k v r)
theorem Tri.setA (B:BaseH K mg mb hb) (T:TabOk w.params K tab mg mb) {t r:TV}{v u:Value}{name:Str}(h:VR w.params g ρ t v) (hr:VR w.params g ρ r u):Tri prog w cloT hb A g f ρ (setA tab t name r) (setAttr v name u) (fun _ _ _ _=>True):=by
  intro σ a σ' cc q hc s R
  have X:=R.K B
  unfold Nu.setA at q
  split at q
  · rename_i i
    obtain ⟨c,hc',q⟩:=getC_inv q
    split at q
    · rename_i C fs
      obtain ⟨l,hl,q⟩:=orFail_inv q
      obtain ⟨hn,q⟩:=chk_inv q
      obtain ⟨hz,q⟩:=chk_inv q
      have hz:fs.length≤900:=Nat.le_of_ble_eq_true hz
      cases q
      cases h with
      | @ref _ x d hi =>
        obtain ⟨o1,es,n,o2,o3,o4⟩:=R.cell hc' hi
        have hlen:es.length≤900:=by rw [← o3.length]; exact hz
        have hp:=putL_length name (PyData.keyHash w.params name) (.str name (s.toks+1)) u es
        refine setAttr_inst X o1 o2 (T.ab _ _ hl _ (hasN_mem hn)) ?_ (by omega) fun h' hs hd => ?_
        · rcases o3.get (x:=name) with ⟨_,z⟩ | ⟨_,_,_,z,_⟩<;>rw [z]<;>rfl
        · have hne:x≠d:=CellAt.ne R.r (lkC_mem hc') hi rfl
          exact .same (R.put (s':={ s with heap:=h',toks:=s.toks+2 }) hc' hi rfl (.inr ⟨rfl,rfl⟩) (sameBut_k hs) ⟨(hs.2 x hne).trans o1,_,_,hd,o3.put hr,by omega⟩) trivial
    · cases q
  · cases q
end
end
section
def asInt:TV→M Int
  | .int i=>.ret i
  | .sint i=>takeD.bd fun d=>(need (i=(d:Int))).bd fun _=>.ret (d:Int)
  | _=>.fail
abbrev seqTy (tup:Bool):String:=cond tup "tuple" "list"
def seqT:TV→M (Bool×List TV)
  | .lst xs=>.ret (false,xs)
  | .tup xs=>.ret (true,xs)
  | .ref i=>(getC i).bd fun c=>match c with
    | .lst xs=>.ret (false,xs)
    | _=>.fail
  | _=>.fail
def stkT:TV→M (Nat×List TV)
  | .ref i=>(getC i).bd fun c=>match c with
    | .stk rev=>.ret (i,rev)
    | _=>.fail
  | _=>.fail
section
variable {prog:Program}{w:World}{cloT:Nat→CloI}{hb:HB}{K:Frag}{tab:Tab}{mg mb:Str→Option Value}
variable {A:Around}{g f g' f':PH}{ρ ρ':Rho}{α β γ δ:Type}{E:Value→Shared→Prop}{s:Shared}
theorem asInt_at {σ σ':St}{c:List Prop}{t:TV}{v:Value}{i:Int}(h:VR w.params g ρ t v) (e:asInt t σ=some (i,σ',c)) (hc:allP c):(∃ r,σ'=⟨σ.cells,σ.next,r⟩) ∧ ∃ tk,v = .int i tk:=by
  unfold asInt at e
  cases h with
  | int=>cases e; exact ⟨⟨_,rfl⟩,_,rfl⟩
  | sint =>
    obtain ⟨d,r,hd,e⟩:=takeD_inv e
    obtain ⟨hp,c',e,hc'⟩:=need_inv e hc
    cases e
    exact ⟨⟨r,rfl⟩,_,by rw [hp]⟩
  | _=>cases e
theorem seqT_at {σ σ':St}{c:List Prop}{t:TV}{v:Value}{p:Bool×List TV}(R:RelS prog w cloT hb σ g f ρ s) (h:VR w.params g ρ t v) (e:seqT t σ=some (p,σ',c)) :
    σ'=σ ∧ ∃ a vs n,v = .ref a∧s.heap.get? a=some ⟨.type (seqTy p.1),none,.seq vs n,#[]⟩∧VRs w.params g ρ p.2 vs.toList:=by
  unfold seqT at e
  cases h with
  | tup h1 h2=>cases e; exact ⟨rfl,_,_,_,rfl,R.gk h1,h2⟩
  | lst h1 h2=>cases e; exact ⟨rfl,_,_,_,rfl,R.gk h1,h2⟩
  | @ref i a d hi =>
    obtain ⟨x,hx,e⟩:=getC_inv e
    cases x<;>first | (cases e; done) | skip
    cases e
    obtain ⟨vs,n,o1,o2,o3⟩:=R.cell hx hi
    exact ⟨rfl,_,_,_,rfl,o1,o2⟩
  | _=>cases e
theorem stkT_at {σ σ':St}{c:List Prop}{t:TV}{v:Value}{p:Nat×List TV}(R:RelS prog w cloT hb σ g f ρ s) (h:VR w.params g ρ t v) (e:stkT t σ=some (p,σ',c)) :
    σ'=σ∧t = .ref p.1∧lkC σ.cells p.1=some (.stk p.2) ∧ ∃ a d vs n,ρ p.1=some (a,d)∧v = .ref a∧s.heap.get? a=some ⟨.type "list",none,.seq vs n,#[]⟩∧VRs w.params g ρ p.2.reverse vs.toList∧vs.size≤szL:=by
  unfold stkT at e
  cases h with
  | @ref i a d hi =>
    obtain ⟨x,hx,e⟩:=getC_inv e
    cases x<;>first | (cases e; done) | skip
    cases e
    obtain ⟨vs,n,o1,o2,o3⟩:=R.cell hx hi
    exact ⟨rfl,rfl,hx,_,_,_,_,hi,rfl,o1,o2,o3⟩
  | _=>cases e
theorem exact_list {h:Heap}{a:Addr}{vs:Array Value}{n:Nat}(e:h.get? a=some ⟨.type "list",none,.seq vs n,#[]⟩):h.IsList a vs:=⟨_,e,rfl,_,rfl⟩
theorem exact_tup {h:Heap}{a:Addr}{vs:Array Value}{n:Nat}(e:h.get? a=some ⟨.type "tuple",none,.seq vs n,#[]⟩):IsTup h a vs:=⟨_,e,rfl,_,rfl⟩
theorem VRs.getA {P:Params}{ts:List TV}{vs:Array Value}(x:VRs P g ρ ts vs.toList) {i:Nat}{t:TV}(h:ts[i]?=some t):∃ v,vs[i]?=some v∧VR P g ρ t v:=by
  obtain ⟨v,e,r⟩:=x.get h
  exact ⟨v,by rw [← Array.getElem?_toList]; exact e,r⟩
theorem VRs.sizeA {P:Params}{ts:List TV}{vs:Array Value}(x:VRs P g ρ ts vs.toList):vs.size=ts.length:=by rw [x.length,Array.length_toList]
def lenT (t:TV):M TV:=match t with
  | .ref i=>(getC i).bd fun c=>match c with
    | .lst xs=>chk (Nat.ble xs.length szL) (.ret (.int (xs.length:Nat)))
    | .stk rev=>.ret (.sint (rev.length:Nat))
    | _=>.fail
  | .lst xs=>chk (Nat.ble xs.length szL) (.ret (.int (xs.length:Nat)))
  | .tup xs=>chk (Nat.ble xs.length szL) (.ret (.int (xs.length:Nat)))
  | _=>.fail
theorem szL_lt {n:Nat}(h:n≤szL):(n:Int)<2 ^ 63:=by unfold szL at h; omega
theorem Tri.len {t:TV}{v:Value}(h:VR w.params g ρ t v):Tri prog w cloT hb A g f ρ (lenT t) (call (.builtin "len") [v]) (VRp w):=by
  intro σ a σ' c e hc s R
  unfold lenT at e
  cases h with
  | @tup xs b vs n h1 h2 =>
    obtain ⟨hz,e⟩:=chk_inv e
    cases e
    have hz:=Nat.le_of_ble_eq_true hz
    rw [← h2.sizeA] at hz ⊢
    exact len_tuple (exact_tup (R.gk h1)) (szL_lt hz) (.same (R.toks rfl) .int)
  | @lst xs b vs n h1 h2 =>
    obtain ⟨hz,e⟩:=chk_inv e
    cases e
    have hz:=Nat.le_of_ble_eq_true hz
    rw [← h2.sizeA] at hz ⊢
    exact len_list (exact_list (R.gk h1)) (szL_lt hz) (.same (R.toks rfl) .int)
  | @ref i b d hi =>
    obtain ⟨x,hx,e⟩:=getC_inv e
    cases x<;>first | (cases e; done) | skip
    · obtain ⟨hz,e⟩:=chk_inv e
      cases e
      obtain ⟨vs,n,o1,o2,o3⟩:=R.cell hx hi
      rw [← o2.sizeA]
      exact len_list (exact_list o1) (szL_lt o3) (.same (R.toks rfl) .int)
    · cases e
      obtain ⟨vs,n,o1,o2,o3⟩:=R.cell hx hi
      have z:=o2.sizeA
      rw [List.length_reverse] at z
      rw [← z]
      exact len_list (exact_list o1) (szL_lt o3) (.same (R.toks rfl) .sint)
  | _=>cases e
def itemS (t i:TV):M TV:=(asInt i).bd fun k=>match k with
  | .ofNat j=>(seqT t).bd fun p=>chk (Nat.ble j szL) ((orFail p.2[j]?).bd fun r=>.ret r)
  | .negSucc 0=>(stkT t).bd fun p=>match p.2 with
    | r::_=>.ret r
    | []=>.fail
  | _=>.fail
theorem Tri.itemS {t i:TV}{v u:Value}(h:VR w.params g ρ t v) (hi:VR w.params g ρ i u):Tri prog w cloT hb A g f ρ (itemS t i) (getItem v u) (VRp w):=by
  intro σ a σ' c e hc s R
  obtain ⟨k,σ1,c1,c2,e1,e2,rfl⟩:=M.bd_some e
  obtain ⟨hc1,hc2⟩:=allP_append.mp hc
  obtain ⟨⟨r,rfl⟩,tk,rfl⟩:=asInt_at hi e1 hc1
  have R1:RelS prog w cloT hb ⟨σ.cells,σ.next,r⟩ g f ρ s:=R.dirs
  match k,e2 with
  | .ofNat j,e2 =>
    obtain ⟨p,σ2,c3,c4,e3,e4,rfl⟩:=M.bd_some e2
    obtain ⟨rfl,b,vs,n,rfl,o1,o2⟩:=seqT_at R1 h e3
    obtain ⟨hz,e4⟩:=chk_inv e4
    have hz:j≤szL:=Nat.le_of_ble_eq_true hz
    obtain ⟨x,hx,e4⟩:=orFail_inv e4
    cases e4
    obtain ⟨y,hy,yr⟩:=o2.getA hx
    have hlt:j<vs.size:=(Array.getElem?_eq_some_iff.mp hy).1
    cases hp:p.1 with
    | false =>
      rw [hp] at o1
      exact wpAny_getItem_list (exact_list o1) (Int.natCast_nonneg j) (szL_lt hz) hy (.same R1 yr)
    | true =>
      rw [hp] at o1
      refine getItem_tuple (exact_tup o1) (by have:=szL_lt hz; show -(2 ^ 63)≤(j:Int); omega) (szL_lt hz) (j:=j) ?_ hy (.same R1 yr)
      unfold seqIndex?
      have:¬ (Int.ofNat j<0):=by show ¬ ((j:Int)<0); omega
      simp only [this,if_false]
      rw [if_pos (by show (decide (0≤(j:Int))&&decide ((j:Int)<vs.size))=true; simp; omega)]
      rfl
  | .negSucc 0,e2 =>
    obtain ⟨p,σ2,c3,c4,e3,e4,rfl⟩:=M.bd_some e2
    obtain ⟨rfl,rfl,hl,b,d,vs,n,hr,rfl,o1,o2,o3⟩:=stkT_at R1 h e3
    rcases hp:p.2 with _ | ⟨x,rest⟩<;>rw [hp] at e4<;>dsimp only at e4
    · cases e4
    · cases e4
      rw [hp] at o2
      have z:=o2.sizeA
      rw [List.length_reverse,List.length_cons] at z
      obtain ⟨y,hy,yr⟩:=o2.getA (i:=rest.length) (t:=a) (by rw [List.reverse_cons,List.getElem?_append_right (by simp)]; simp)
      refine wpAny_getItem_list_neg (exact_list o1) (by decide) (by show -(vs.size:Int) ≤ -1; omega) (by decide) (x:=y) ?_ (.same R1 yr)
      have:((Int.negSucc 0)+(vs.size:Int)).toNat=rest.length:=by
        have:(Int.negSucc 0:Int) = -1:=rfl
        rw [this,z]; omega
      rw [this]; exact hy
end
end
section
theorem isStr_eq (x:Str):∀ v:Value,v.isStr x=Value.isStrOf x v:=by
  intro v
  cases v<;>rfl
theorem Key.is_s (x:Str) (v:Value):Key.is (.s x) v=v.isStr x:=(isStr_eq x v).symm
section
variable {P:Params}
theorem SKeys.mem {es:List DictEntry}(k:SKeys P es) {e:DictEntry}(h:e∈es):∃ x t,e.key = .str x t∧e.hash=PyData.keyHash P x:=by
  induction k with
  | nil=>cases h
  | @cons x t v es _ ih =>
    rcases List.mem_cons.mp h with rfl | h
    · exact ⟨x,t,rfl,rfl⟩
    · exact ih h
theorem SKeys.find {es:List DictEntry}(k:SKeys P es) (x:Str):getL x es=some (findBy Key.is es.toArray (.s x)):=by
  have e:es.any (·.refKey)=false:=by
    rw [List.any_eq_false]
    intro d hd
    obtain ⟨y,t,q,_⟩:=k.mem hd
    unfold DictEntry.refKey
    rw [q]; simp
  unfold getL findBy
  rw [List.find?_toArray]
  have:(fun e:DictEntry=>Key.is (.s x) e.key)=fun e=>e.key.isStr x:=funext fun e=>Key.is_s x e.key
  rw [this]
  cases es.find? (fun e=>e.key.isStr x) with
  | some d=>rfl
  | none=>dsimp only; rw [e]; rfl
theorem SKeys.noInt {es:List DictEntry}(k:SKeys P es) (n:Int):findBy Key.is es.toArray (.i n)=none:=by
  unfold findBy
  rw [List.find?_toArray]
  have:es.find? (fun e=>Key.is (.i n) e.key)=none:=by
    rw [List.find?_eq_none]
    intro d hd
    obtain ⟨y,t,q,_⟩:=k.mem hd
    rw [q]
    show ¬ (Value.isInt n (.str y t)=true)
    exact fun z=>by cases z
  rw [this]; rfl
end
inductive DV where
  | ex (fs:List (Str×TV))
  | wk (gi:Int→Option Int) (es:List (Str×TV×Bool))
def dictT (tab:Tab):TV→M DV
  | .raw a=>chk (!(Nat.beq a 1)) ((orFail (lkC tab.ro a)).bd fun l=>.ret (.ex l))
  | .ref i=>(getC i).bd fun c=>match c with
    | .sdic fs=>.ret (.ex fs)
    | .dic _ gi es=>.ret (.wk gi es)
    | _=>.fail
  | _=>.fail
def keyT:TV→M Key
  | .str x=>.ret (.s x)
  | .int n=>.ret (.i n)
  | .sint n=>.ret (.i n)
  | _=>.fail
inductive DVok (P:Params) (g:PH) (ρ:Rho) (F:Key→Option Value):DV→Prop
  | ex {fs}:(∀ x,OptR P g ρ (lkF fs x) (F (.s x)))→(∀ n,F (.i n)=none)→DVok P g ρ F (.ex fs)
  | wk {gi es}:(∀ n,IntR (gi n) (F (.i n)))→(∀ x,WkR P g ρ (lkF es x) (F (.s x)))→DVok P g ρ F (.wk gi es)
section
variable {prog:Program}{w:World}{cloT:Nat→CloI}{hb:HB}{K:Frag}{tab:Tab}{mg mb:Str→Option Value}
variable {A:Around}{g f g' f':PH}{ρ ρ':Rho}{α β γ δ:Type}{E:Value→Shared→Prop}{s:Shared}
theorem kk_is (k:Key) (v:Value):(keyKind prog w).is k v=Key.is k v:=rfl
theorem kk_int (n:Int) (t:Tok):(keyKind prog w).is (.i n) (.int n t)=true:=by rw [kk_is]; exact (isInt_int n n t).trans (by simp)
theorem kk_str (x:Str) (t:Tok):(keyKind prog w).is (.s x) (.str x t)=true:=by rw [kk_is,Key.is_s,isStr_str]; simp
theorem SKeys.keysOf {es:List DictEntry}(k:SKeys w.params es):KeysOf (keyKind prog w) es.toArray:=by
  intro e he
  obtain ⟨x,t,q,q'⟩:=k.mem (by simpa using he)
  exact ⟨.s x,by rw [q]; exact kk_str x t,q'⟩
theorem SKeys.map {es:List DictEntry}{n:Nat}{h:Heap}{a:Addr}(k:SKeys w.params es) (e:h.get? a=some (dictOf es n)):h.MapOf (keyKind prog w) a (fun x=>findBy Key.is es.toArray x) :=
  ⟨_,_,_,e,⟨rfl,rfl,rfl⟩,rfl,k.keysOf,fun _=>rfl⟩
theorem FR.opt {P:Params}{fs:List (Str×TV)}{es:List DictEntry}(r:FR P g ρ fs es) (x:Str):OptR P g ρ (lkF fs x) (findBy Key.is es.toArray (.s x)):=by
  have z:=r.skeys.find x
  rcases r.get (x:=x) with ⟨a,b⟩ | ⟨t,v,a,b,c⟩
  · rw [a]; rw [b] at z; exact (Option.some.inj z).symm
  · rw [a]; rw [b] at z; exact ⟨v,(Option.some.inj z).symm,c⟩
theorem keyT_at {σ σ':St}{c:List Prop}{t:TV}{v:Value}{k:Key}(h:VR w.params g ρ t v) (e:keyT t σ=some (k,σ',c)):σ'=σ∧(keyKind prog w).is k v=true:=by
  unfold keyT at e
  cases h with
  | str=>cases e; exact ⟨rfl,kk_str _ _⟩
  | int=>cases e; exact ⟨rfl,kk_int _ _⟩
  | sint=>cases e; exact ⟨rfl,kk_int _ _⟩
  | _=>cases e
theorem RelS.notLow {σ:St}(B:BaseH K mg mb hb) (R:RelS prog w cloT hb σ g f ρ s) {a:Addr}(ha:a∈adrs ρ σ.cells):(a==sysModules)=false:=by
  refine beq_eq_false_iff_ne.mpr fun e => ?_
  obtain ⟨o,ho⟩:=B.low
  have:=R.r.fresh a ha
  rw [e,R.r.gf _ _ (R.b _ _ ho)] at this
  cases this
theorem dictT_at {σ σ':St}{c:List Prop}{t:TV}{v:Value}{D:DV}(B:BaseH K mg mb hb) (T:TabOk w.params K tab mg mb) (R:RelS prog w cloT hb σ g f ρ s) (h:VR w.params g ρ t v) (e:dictT tab t σ=some (D,σ',c)) :
    σ'=σ ∧ ∃ a F,v = .ref a∧s.heap.MapOf (keyKind prog w) a F∧(a==sysModules)=false∧DVok w.params g ρ F D:=by
  unfold dictT at e
  cases h with
  | @raw a =>
    obtain ⟨h1,e⟩:=chk_inv e
    obtain ⟨l,hl,e⟩:=orFail_inv e
    cases e
    obtain ⟨es,n,o1,o2⟩:=T.ro a l hl
    have r:=o2 g ρ (B.le R.b)
    refine ⟨rfl,a,_,rfl,r.skeys.map ((R.K B) _ _ o1),?_,.ex r.opt r.skeys.noInt⟩
    refine beq_eq_false_iff_ne.mpr fun e => ?_
    rw [e] at h1; cases h1
  | @ref i a d hi =>
    obtain ⟨x,hx,e⟩:=getC_inv e
    have low:(a==sysModules)=false:=R.notLow B (mem_adrs.mpr ⟨i,x,a,d,lkC_mem hx,hi,.inl rfl⟩)
    cases x<;>first | (cases e; done) | skip
    · cases e
      obtain ⟨o,es,o1,o2,o3,o4⟩:=R.cell hx hi
      exact ⟨rfl,a,_,rfl,(Heap.dictOf_iff.mpr ⟨o,o1,o2⟩).mapOf,low,.ex (fun y=>o3.at_ y) (fun n=>o3.noInt n)⟩
    · cases e
      obtain ⟨ds,ep,o1,o2,o3,o4,o5⟩:=R.cell hx hi
      exact ⟨rfl,a,_,rfl,⟨_,_,_,o1,⟨rfl,rfl,rfl⟩,rfl,o2,fun _=>rfl⟩,low,.wk o3 o4⟩
  | _=>cases e
def itemD (tab:Tab) (t k:TV):M TV:=(dictT tab t).bd fun D=>(keyT k).bd fun q=>match D,q with
  | .ex fs,.s x=>(orFail (lkF fs x)).bd fun r=>.ret r
  | .wk gi es,.s x=>(orFail (lkF es x)).bd fun r=>chk r.2 (.ret r.1)
  | .wk gi es,.i n=>(need (∃ v,gi n=some v)).bd fun _=>.ret (.sint ((gi n).getD 0))
  | _,_=>.fail
theorem Tri.itemD (B:BaseH K mg mb hb) (T:TabOk w.params K tab mg mb) {t k:TV}{v u:Value}(h:VR w.params g ρ t v) (hk:VR w.params g ρ k u):Tri prog w cloT hb A g f ρ (itemD tab t k) (getItem v u) (VRp w):=by
  intro σ a σ' c e hc s R
  obtain ⟨D,σ1,c1,c2,e1,e2,rfl⟩:=M.bd_some e
  obtain ⟨hc1,hc2⟩:=allP_append.mp hc
  obtain ⟨rfl,b,F,rfl,m,low,ok⟩:=dictT_at B T R h e1
  obtain ⟨q,σ2,c3,c4,e3,e4,rfl⟩:=M.bd_some e2
  obtain ⟨hc3,hc4⟩:=allP_append.mp hc2
  obtain ⟨rfl,hq⟩:=keyT_at (prog:=prog) (w:=w) hk e3
  cases ok with
  | ex o1 o2 =>
    cases q with
    | i n=>cases e4
    | s x =>
      obtain ⟨r,hr,e4⟩:=orFail_inv e4
      cases e4
      have z:=o1 x
      rw [hr] at z
      obtain ⟨y,hy,yr⟩:=z.some_of
      exact wpAny_getItem_of hq m hy (.same (R.toks rfl) yr)
  | wk o1 o2 =>
    cases q with
    | i n =>
      obtain ⟨⟨i,hi⟩,c',e4,_⟩:=need_inv e4 hc4
      cases e4
      have z:=o1 n
      rw [hi] at z
      obtain ⟨tk,z⟩:=z
      exact wpAny_getItem_of hq m z (.same (R.toks rfl) (by rw [hi]; exact .sint))
    | s x =>
      obtain ⟨r,hr,e4⟩:=orFail_inv e4
      obtain ⟨hb',e4⟩:=chk_inv e4
      cases e4
      have z:=o2 x
      rw [hr] at z
      obtain ⟨t',b'⟩:=r
      rcases z with ⟨y,hy,yr⟩ | ⟨z,_⟩
      · exact wpAny_getItem_of hq m hy (.same (R.toks rfl) yr)
      · rw [show b'=true from hb'] at z; cases z
def getD (tab:Tab) (t k:TV) (dflt:Option TV):M TV:=(dictT tab t).bd fun D=>(keyT k).bd fun q=>match D,q with
  | .ex fs,.s x=>match lkF fs x with
    | some r=>.ret r
    | none=>.ret (dflt.getD .none)
  | .wk gi es,.s x=>(orFail (lkF es x)).bd fun r=>match dflt with
    | none=>.ret r.1
    | some _=>.fail
  | .wk gi es,.i n=>match dflt with
    | some (.int z)=>.ret (.sint ((gi n).getD z))
    | _=>.fail
  | _,_=>.fail
def OptV (P:Params) (g:PH) (ρ:Rho):Option TV→Option Value→Prop
  | none,none=>True
  | some t,some v=>VR P g ρ t v
  | _,_=>False
theorem getD_at {σ σ':St}{c:List Prop}{t k a:TV}{v u:Value}{dt:Option TV}{dv:Option Value}(B:BaseH K mg mb hb) (T:TabOk w.params K tab mg mb) (R:RelS prog w cloT hb σ g f ρ s) (h:VR w.params g ρ t v) (hk:VR w.params g ρ k u) (hd:OptV w.params g ρ dt dv)
    (e:getD tab t k dt σ=some (a,σ',c)):σ'=σ ∧ ∃ b F q,v = .ref b∧s.heap.MapOf (keyKind prog w) b F∧(b==sysModules)=false∧(keyKind prog w).is q u=true∧VR w.params g ρ a ((F q).getD (dv.getD .none)):=by
  obtain ⟨D,σ1,c1,c2,e1,e2,rfl⟩:=M.bd_some e
  obtain ⟨rfl,b,F,rfl,m,low,ok⟩:=dictT_at B T R h e1
  obtain ⟨q,σ2,c3,c4,e3,e4,rfl⟩:=M.bd_some e2
  obtain ⟨rfl,hq⟩:=keyT_at (prog:=prog) (w:=w) hk e3
  cases ok with
  | ex o1 o2 =>
    cases q with
    | i n=>cases e4
    | s x =>
      have z:=o1 x
      dsimp only at e4
      cases hl:lkF _ x with
      | none =>
        rw [hl] at e4 z
        cases e4
        refine ⟨rfl,b,F,_,rfl,m,low,hq,?_⟩
        rw [show F (.s x)=none from z]
        show VR _ _ _ (dt.getD .none) (dv.getD .none)
        cases dt<;>cases dv<;>first | exact .none | exact hd | exact hd.elim
      | some r =>
        rw [hl] at e4 z
        cases e4
        obtain ⟨y,hy,yr⟩:=z.some_of
        exact ⟨rfl,b,F,_,rfl,m,low,hq,by rw [hy]; exact yr⟩
  | wk o1 o2 =>
    cases q with
    | i n =>
      cases dt with
      | none=>cases e4
      | some dt =>
        cases dv with
        | none=>exact hd.elim
        | some dv =>
          cases hd<;>first | (cases e4; done) | skip
          cases e4
          have z:=o1 n
          refine ⟨rfl,b,F,_,rfl,m,low,hq,?_⟩
          rename_i gi _ z0 _
          cases hg:gi n with
          | none=>rw [hg] at z; rw [show F (.i n)=none from z]; exact .sint
          | some i=>rw [hg] at z; obtain ⟨tk,z⟩:=z; rw [z]; exact .sint
    | s x =>
      obtain ⟨r,hr,e4⟩:=orFail_inv e4
      cases dt with
      | some _=>cases e4
      | none =>
        cases dv with
        | some _=>exact hd.elim
        | none =>
          cases e4
          have z:=o2 x
          rw [hr] at z
          obtain ⟨t',b'⟩:=r
          refine ⟨rfl,b,F,_,rfl,m,low,hq,?_⟩
          rcases z with ⟨y,hy,yr⟩ | ⟨_,rfl,z⟩
          · rw [hy]; exact yr
          · rw [z]; exact .none
theorem Tri.getD1 (B:BaseH K mg mb hb) (T:TabOk w.params K tab mg mb) {t k:TV}{v u:Value}(h:VR w.params g ρ t v) (hk:VR w.params g ρ k u):Tri prog w cloT hb A g f ρ (getD tab t k none) (call (.builtin "dict.get") [v,u]) (VRp w):=by
  intro σ a σ' c e hc s R
  obtain ⟨rfl,b,F,q,rfl,m,low,hq,V⟩:=getD_at (dt:=none) (dv:=none) B T R h hk trivial e
  exact call_meetsIn PySem.F.slot_dict_get m.typeIs PySem.F.entry_dict_get (PySem.F.args_dict_get_2 _ _) (meets_dict_get (keyKind prog w) b hq low) ⟨F,m,.same (R.toks rfl) V⟩
theorem Tri.getD2 (B:BaseH K mg mb hb) (T:TabOk w.params K tab mg mb) {t k r:TV}{v u x:Value}(h:VR w.params g ρ t v) (hk:VR w.params g ρ k u) (hr:VR w.params g ρ r x):Tri prog w cloT hb A g f ρ (getD tab t k (some r)) (call (.builtin "dict.get") [v,u,x]) (VRp w):=by
  intro σ a σ' c e hc s R
  obtain ⟨rfl,b,F,q,rfl,m,low,hq,V⟩:=getD_at (dt:=some r) (dv:=some x) B T R h hk hr e
  exact call_meetsIn PySem.F.slot_dict_get m.typeIs PySem.F.entry_dict_get (PySem.F.args_dict_get_3 _ _ _) (meets_dict_get_default (keyKind prog w) b hq low x) ⟨F,m,.same (R.toks rfl) V⟩
def inD (tab:Tab) (t k:TV):M Bool:=(dictT tab t).bd fun D=>(keyT k).bd fun q=>match D,q with
  | .ex fs,.s x=>.ret (lkF fs x).isSome
  | _,_=>.fail
theorem inD_at {σ σ':St}{c:List Prop}{t k:TV}{a:Bool}{v u:Value}(B:BaseH K mg mb hb) (T:TabOk w.params K tab mg mb) (R:RelS prog w cloT hb σ g f ρ s) (h:VR w.params g ρ t v) (hk:VR w.params g ρ k u)
    (e:inD tab t k σ=some (a,σ',c)):σ'=σ ∧ ∃ b F q,v = .ref b∧s.heap.MapOf (keyKind prog w) b F∧(b==sysModules)=false∧(keyKind prog w).is q u=true∧(F q).isSome=a:=by
  obtain ⟨D,σ1,c1,c2,e1,e2,rfl⟩:=M.bd_some e
  obtain ⟨rfl,b,F,rfl,m,low,ok⟩:=dictT_at B T R h e1
  obtain ⟨q,σ2,c3,c4,e3,e4,rfl⟩:=M.bd_some e2
  obtain ⟨rfl,hq⟩:=keyT_at (prog:=prog) (w:=w) hk e3
  cases ok with
  | wk o1 o2=>cases q<;>cases e4
  | ex o1 o2 =>
    cases q with
    | i n=>cases e4
    | s x =>
      cases e4
      refine ⟨rfl,b,F,_,rfl,m,low,hq,?_⟩
      have z:=o1 x
      cases hl:lkF _ x with
      | none=>rw [hl] at z; rw [show F (.s x)=none from z]; rfl
      | some r=>rw [hl] at z; obtain ⟨y,hy,_⟩:=z.some_of; rw [hy]; rfl
theorem Tri.isInD (B:BaseH K mg mb hb) (T:TabOk w.params K tab mg mb) {t k:TV}{v u:Value}(h:VR w.params g ρ t v) (hk:VR w.params g ρ k u):Tri prog w cloT hb A g f ρ (Nu.inD tab t k) (compareOp .In u v) (fun _ _ a r=>r = .bool a):=by
  intro σ a σ' c e hc s R
  obtain ⟨rfl,b,F,q,rfl,m,low,hq,V⟩:=inD_at B T R h hk e
  exact wpAny_in_of hq low m (.same (R.toks rfl) (by rw [V]))
theorem Tri.notInD (B:BaseH K mg mb hb) (T:TabOk w.params K tab mg mb) {t k:TV}{v u:Value}(h:VR w.params g ρ t v) (hk:VR w.params g ρ k u):Tri prog w cloT hb A g f ρ (Nu.inD tab t k) (compareOp .NotIn u v) (fun _ _ a r=>r = .bool (!a)):=by
  intro σ a σ' c e hc s R
  obtain ⟨rfl,b,F,q,rfl,m,low,hq,V⟩:=inD_at B T R h hk e
  exact wpAny_notIn_of hq low m (.same (R.toks rfl) (by rw [V]))
end
end
section
def newTup (xs:List TV):M TV:=chk (Nat.ble xs.length 1000) (.ret (.tup xs))
def newLst (xs:List TV):M TV:=chk (Nat.ble xs.length 1000) ((newC (.lst xs)).bd fun i=>.ret (.ref i))
def appT (t x:TV):M TV:=match t with
  | .ref i=>(getC i).bd fun c=>match c with
    | .lst xs=>chk (Nat.ble xs.length 1000) ((putC i (.lst (xs++[x]))).bd fun _=>.ret .none)
    | .stk rev=>(need (rev.length<szL)).bd fun _=>(putC i (.stk (x::rev))).bd fun _=>.ret .none
    | _=>.fail
  | _=>.fail
def popT (t:TV):M TV:=match t with
  | .ref i=>(getC i).bd fun c=>match c with
    | .stk (x::rev)=>(putC i (.stk rev)).bd fun _=>.ret x
    | _=>.fail
  | _=>.fail
def pop0 (t:TV):M TV:=match t with
  | .ref i=>(getC i).bd fun c=>match c with
    | .lst (x::xs)=>(putC i (.lst xs)).bd fun _=>.ret x
    | _=>.fail
  | _=>.fail
def setD (t k x:TV):M Unit:=match t with
  | .ref i=>(getC i).bd fun c=>match c with
    | .sdic fs=>match k with
      | .str n=>chk (Nat.ble fs.length 900) (putC i (.sdic (puF fs n x)))
      | _=>.fail
    | .dic N gi es=>(need (N<szL)).bd fun _=>match k with
      | .str n=>putC i (.dic (N+1) gi (puF es n (x,true)))
      | .int z=>match x with
        | .sint y=>putC i (.dic (N+1) (fun m=>if m=z then some y else gi m) es)
        | .int y=>putC i (.dic (N+1) (fun m=>if m=z then some y else gi m) es)
        | _=>.fail
      | .sint z=>match x with
        | .sint y=>putC i (.dic (N+1) (fun m=>if m=z then some y else gi m) es)
        | .int y=>putC i (.dic (N+1) (fun m=>if m=z then some y else gi m) es)
        | _=>.fail
      | _=>.fail
    | _=>.fail
  | _=>.fail
section
variable {prog:Program}{w:World}{cloT:Nat→CloI}{hb:HB}{K:Frag}{tab:Tab}{mg mb:Str→Option Value}
variable {A:Around}{g f g' f':PH}{ρ ρ':Rho}{α β γ δ:Type}{E:Value→Shared→Prop}{s:Shared}
theorem push_k (h:Heap) (o:Obj):∀ b o',h.get? b=some o'→(h.push o).get? b=some o':=fun _ _ e=>Heap.get?_push_of_some o e
theorem push_at (h:Heap) (o:Obj) (hf:o.isFreed=false):(h.push o).get? h.objs.size=some o:=Heap.get?_push_size h hf
theorem ble_k {n k:Nat}(h:Nat.ble n k=true):n≤k:=Nat.le_of_ble_eq_true h
theorem szL_line {n:Nat}(h:n≤szL):n≤sizeLine:=by rw [sizeLine_eq]; unfold szL at h; omega
theorem k_line {n:Nat}(h:n≤1000):n≤sizeLine:=by rw [sizeLine_eq]; omega
theorem Tri.newTup {xs:List TV}{vs:List Value}(h:VRs w.params g ρ xs vs):Tri prog w cloT hb A g f ρ (newTup xs) (newTuple vs) (VRp w):=by
  intro σ a σ' c e hc s R
  obtain ⟨hz,e⟩:=chk_inv e
  cases e
  have hz:=ble_k hz
  obtain ⟨R',E'⟩:=R.imm (s':={ s with heap:=s.heap.push { cls:=.type "tuple",data:=.seq vs.toArray } }) (push_k _ _) (fresh_none _) (push_at _ _ rfl)
  exact wpAny_newTuple ⟨_,_,_,E',R',.tup PH.add_self (h.mono E'.gl E'.rl)⟩ (k_line (by rw [← h.length]; exact hz))
theorem Tri.newLst {xs:List TV}{vs:List Value}(h:VRs w.params g ρ xs vs):Tri prog w cloT hb A g f ρ (newLst xs) (newList vs) (VRp w):=by
  intro σ a σ' c e hc s R
  obtain ⟨hz,e⟩:=chk_inv e
  have e:=newC_inv e
  cases e
  have hz:=ble_k hz
  obtain ⟨R',E'⟩:=R.new (c:=.lst xs) (a:=s.heap.objs.size) (d:=0) (s':={ s with heap:=s.heap.push { cls:=.type "list",data:=.seq vs.toArray } }) (push_k _ _) (fresh_none _) (fun t=>by cases t)
    ⟨vs.toArray,0,push_at _ _ rfl,h.mono (PH.le_refl _) (Rho.add_le (R.n _ (Nat.le_refl _))),by rw [List.size_toArray,← h.length]; unfold szL; omega⟩
  exact wpAny_newList ⟨_,_,_,E',R',.ref Rho.add_at⟩ (k_line (by rw [← h.length]; exact hz))
theorem Tri.app {t x:TV}{v u:Value}(h:VR w.params g ρ t v) (hx:VR w.params g ρ x u):Tri prog w cloT hb A g f ρ (appT t x) (call (.builtin "list.append") [v,u]) (VRp w):=by
  intro σ a σ' c e hc s R
  unfold appT at e
  cases h with
  | @ref i b d hi =>
    obtain ⟨y,hy,e⟩:=getC_inv e
    cases y<;>first | (cases e; done) | skip
    · rename_i xs
      obtain ⟨hz,e⟩:=chk_inv e
      have e:=putC_inv e
      cases e
      obtain ⟨vs,n,o1,o2,o3⟩:=R.cell hy hi
      have hz:=ble_k hz
      rw [← o2.sizeA] at hz
      refine append_at o1 (fun h' hs ho => ?_) (k_line hz)
      refine .same (R.put hy hi rfl (.inl rfl) (sameBut_k hs) ⟨_,_,ho,?_,?_⟩) .none
      · rw [Array.toList_push]; exact o2.append (.cons hx .nil)
      · rw [Array.size_push]; unfold szL; omega
    · rename_i rev
      obtain ⟨hn,c',e,_⟩:=need_inv e hc
      have e:=putC_inv e
      cases e
      obtain ⟨vs,n,o1,o2,o3⟩:=R.cell hy hi
      have hz:=o2.sizeA
      rw [List.length_reverse] at hz
      rw [← hz] at hn
      refine append_at o1 (fun h' hs ho => ?_) (szL_line o3)
      refine .same (R.put hy hi rfl (.inl rfl) (sameBut_k hs) ⟨_,_,ho,?_,?_⟩) .none
      · rw [Array.toList_push,List.reverse_cons]; exact o2.append (.cons hx .nil)
      · rw [Array.size_push]; omega
  | _=>cases e
theorem mapSeq_at {h:Heap}{b:Addr}{vs vs':Array Value}{n:Nat}{fn:Array Value→Array Value}(o1:h.get? b=some ⟨.type "list",none,.seq vs n,#[]⟩) (he:fn vs=vs') (hs:vs'.size≠vs.size) :
    (h.update b (Obj.mapSeq fn)).get? b=some ⟨.type "list",none,.seq vs' (n+1),#[]⟩:=by
  have q:=PySem.IsL.update o1 fn
  rw [he,if_neg (by simpa using hs)] at q
  exact q
theorem Tri.pop {t:TV}{v:Value}(h:VR w.params g ρ t v):Tri prog w cloT hb A g f ρ (popT t) (call (.builtin "list.pop") [v]) (VRp w):=by
  intro σ a σ' c e hc s R
  unfold popT at e
  cases h with
  | @ref i b d hi =>
    obtain ⟨y,hy,e⟩:=getC_inv e
    rcases y with _ | _ | (_ | ⟨x,rev⟩) | _ | _ | _ | _ | _ | _ | _ | _<;>first | (cases e; done) | skip
    have e:=putC_inv e
    cases e
    obtain ⟨vs,n,o1,o2,o3⟩:=R.cell hy hi
    rw [List.reverse_cons] at o2
    obtain ⟨p,q,e1,r1,r2⟩:=VRs.split o2
    cases r2 with
    | @cons _ y _ _ ry r3 =>
      cases r3
      have ei:vs=(p++[y]).toArray:=by rw [← e1]
      subst ei
      have hk:(p++[y]).toArray.size - 1=p.length:=by rw [List.size_toArray,List.length_append]; rfl
      have hy':(p++[y]).toArray[(p++[y]).toArray.size - 1]?=some y:=by rw [hk]; simp
      refine call_meets PySem.F.slot_list_pop ⟨_,o1,rfl⟩ PySem.F.entry_list_pop (PySem.F.args_list_pop_1 _) (PySem.MeetsSeq.list_pop_last b _ n y hy' (szL_line o3)) ⟨o1,?_⟩
      have ee:(p++[y]).toArray.eraseIdxIfInBounds ((p++[y]).toArray.size - 1)=p.toArray:=by rw [hk,kl_erase,List.append_nil]
      refine .same (R.put (s':={ s with heap:=s.heap.update b (Obj.mapSeq fun xs=>xs.eraseIdxIfInBounds ((p++[y]).toArray.size - 1)) }) hy hi rfl (.inl rfl) (sameBut_k (Heap.SameBut.update ..)) ⟨p.toArray,n+1,mapSeq_at o1 ee ?_,r1,?_⟩) ry
      · rw [List.size_toArray,List.size_toArray,List.length_append]; simp
      · rw [List.size_toArray] at o3 ⊢; rw [List.length_append] at o3; omega
  | _=>cases e
theorem Tri.pop0 {t:TV}{v:Value}{tk:Tok}(h:VR w.params g ρ t v):Tri prog w cloT hb A g f ρ (pop0 t) (call (.builtin "list.pop") [v,.int 0 tk]) (VRp w):=by
  intro σ a σ' c e hc s R
  unfold Nu.pop0 at e
  cases h with
  | @ref i b d hi =>
    obtain ⟨y,hy,e⟩:=getC_inv e
    rcases y with _ | (_ | ⟨x,xs⟩) | _ | _ | _ | _ | _ | _ | _ | _ | _<;>first | (cases e; done) | skip
    have e:=putC_inv e
    cases e
    obtain ⟨vs,n,o1,o2,o3⟩:=R.cell hy hi
    obtain ⟨vl⟩:=vs
    cases o2 with
    | @cons _ y _ q ry r3 =>
      have hk:seqIndex? 0 (y::q).toArray.size=some 0:=by unfold seqIndex?; simp
      have hy':(y::q).toArray[0]?=some y:=by simp
      refine call_meets PySem.F.slot_list_pop ⟨_,o1,rfl⟩ PySem.F.entry_list_pop (PySem.F.args_list_pop_2 _ _) (PySem.MeetsSeq.list_pop_at b _ n 0 tk 0 y (by decide +kernel) hk hy' (szL_line o3)) ⟨o1,?_⟩
      have ee:(y::q).toArray.eraseIdxIfInBounds 0=q.toArray:=kl_erase [] q y
      refine .same (R.put (s':={ s with heap:=s.heap.update b (Obj.mapSeq fun xs=>xs.eraseIdxIfInBounds 0) }) hy hi rfl (.inl rfl) (sameBut_k (Heap.SameBut.update ..)) ⟨q.toArray,n+1,mapSeq_at o1 ee ?_,r3,?_⟩) ry
      · rw [List.size_toArray,List.size_toArray]; simp
      · rw [List.size_toArray] at o3 ⊢; rw [List.length_cons] at o3; omega
  | _=>cases e
theorem setItem_le {d:Addr}{o:Obj}{es:Array DictEntry}{ep:Nat}{k:Key}{key v:Value}{Q:Unit→Shared→Prop}(hkey:(keyKind prog w).is k key=true) (ho:s.heap.get? d=some o) (hc:o.ExactDict) (hd:o.data = .dict es ep) (hk:PySem.KeysOf (keyKind prog w) es) (hz:es.size≤sizeLine)
    (hQ:∀ h' o' es' ep',h'.get? d=some o'→o'.ExactDict→o'.data = .dict es' ep'→PySem.KeysOf (keyKind prog w) es'→(∀ x,findBy (keyKind prog w).is es' x=if x=k then some v else findBy (keyKind prog w).is es x)→es'.size≤es.size+1→Heap.SameBut d s.heap h'→Q () { s with heap:=h',toks:=s.toks+1 }) :
    wpAny (model prog w) A (setItem (.ref d) key v) Q E s:=by
  have hm:s.heap.MapOf (keyKind prog w) d (fun x=>findBy (keyKind prog w).is es x):=⟨o,es,ep,ho,hc,hd,hk,fun _=>rfl⟩
  unfold setItem
  refine wpAny_holding (wpAny_bind (wpAny_sequenceKey hm.typeIs (by decide) ?_))
  refine wpAny_bind (wpAny_callSpecial?_slot (name:=Str.ofString "__setitem__") hm.typeIs slot_dict_setitem
    (wpAny_call_entry slot_dict_setitem hm.typeIs entry_dict_setitem ?_ (args_dict_setitem _ _ _)))
  show wpAny _ _ (Builtin.Dict.notOrdered "__setitem__" ⟨[.ref d,key,v],[]⟩ >>= _) _ _ s
  refine wpAny_bind (wpAny_notOrdered_dict hm.typeIs ?_)
  show wpAny _ _ (dictSet d key v >>= _) _ _ s
  refine wpAny_bind ?_
  unfold dictSet
  refine wpAny_holding (wpAny_bind ((keyKind prog w).pyHash hkey ?_))
  unfold dictSetHashed
  refine wpAny_holding (wpAny_bind (wpAny_dictFind_of (s:={ s with toks:=s.toks+1 }) hkey ho hd hk ?_))
  cases hi:es.findIdx? fun e=>(keyKind prog w).is k e.key with
  | some i =>
    refine wpAny_bind (wpAny_rule (wpAny_bind (wpAny_updateDict (s:={ s with toks:=s.toks+1 }) ho hd (wpAny_point (wpAny_pure ⟨.none,rfl,wpAny_pure ?_⟩)))))
    refine hQ _ _ _ ep (Heap.get?_update_self _ ho (Obj.isFreed_of_dict (Obj.data_mapDict hd _))) (hc.mapDict _) (Obj.data_mapDict hd _) (hk.modify _ _) (fun x=>findBy_modify _ (keyKind prog w).inj es k x v i hi) ?_ (Heap.SameBut.update ..)
    rw [Array.size_modify]; exact Nat.le_succ _
  | none =>
    refine wpAny_bind (wpAny_rule (wpAny_updateDictKeys (hz:=hz) (s:={ s with toks:=s.toks+1 }) ho hd (wpAny_pure ⟨.none,rfl,wpAny_pure ?_⟩)))
    refine hQ _ _ _ (ep+1) (Heap.get?_update_self _ ho (Obj.isFreed_of_dict (Obj.data_mapDictKeys hd _))) (hc.mapDictKeys _) (Obj.data_mapDictKeys hd _) (hk.push hkey _) (fun x=>findBy_push _ es k x _ _ v (KeyKind.is_eq_decide hkey) hi) ?_ (Heap.SameBut.update ..)
    rw [Array.size_push]; exact Nat.le_refl _
theorem exact_mk {o:Obj}{es:Array DictEntry}{ep:Nat}(hc:o.ExactDict) (hd:o.data = .dict es ep):o=⟨.type "dict",none,.dict es ep,#[]⟩:=by
  obtain ⟨c,d,dt,sl⟩:=o
  obtain ⟨a,b,z⟩:=hc
  dsimp only at a b z hd
  subst a b z hd
  rfl
theorem kk_s (x:Str) (es:Array DictEntry):findBy (keyKind prog w).is es (.s x)=findBy Key.is es (.s x):=rfl
theorem set_int {z y:Int}{i N:Nat}{gi:Int→Option Int}{es:List (Str×TV×Bool)}{b d:Addr}{k:Value}{tk:Tok}{σ:St}(R:RelS prog w cloT hb σ g f ρ s) (hi:ρ i=some (b,d)) (hy:lkC σ.cells i=some (.dic N gi es)) (hn:N<szL) (hk:(keyKind prog w).is (.i z) k=true) :
    wpAny (model prog w) A (setItem (.ref b) k (.int y tk)) (Back prog w cloT hb g f ρ ⟨puC σ.cells i (.dic (N+1) (fun m=>if m=z then some y else gi m) es),σ.next,σ.dirs⟩ () (fun _ _ _ _=>True)) Fa s:=by
  obtain ⟨ds,ep,o1,o2,o3,o4,o5⟩:=R.cell hy hi
  refine setItem_le hk o1 ⟨rfl,rfl,rfl⟩ rfl o2 (szL_line (Nat.le_trans o5 (Nat.le_of_lt hn))) fun h' o' es' ep' p1 p2 p3 p4 p5 p6 p7 => ?_
  have:=exact_mk p2 p3
  subst this
  refine .same (R.put hy hi rfl (.inl rfl) (sameBut_k p7) ⟨es',ep',p1,p4,fun m => ?_,fun x => ?_,by omega⟩) trivial
  · rw [show findBy Key.is es' (.i m)=_ from p5 (.i m)]
    by_cases q:m=z
    · subst q; dsimp only; rw [if_pos rfl,if_pos rfl]; exact ⟨tk,rfl⟩
    · dsimp only; rw [if_neg q,if_neg (by simpa using q)]; exact o3 m
  · rw [show findBy Key.is es' (.s x)=_ from p5 (.s x),if_neg (by simp)]; exact o4 x
theorem set_str {n:Str}{t:TV}{i N:Nat}{gi:Int→Option Int}{es:List (Str×TV×Bool)}{b d:Addr}{k v:Value}{σ:St}(R:RelS prog w cloT hb σ g f ρ s) (hv:VR w.params g ρ t v) (hi:ρ i=some (b,d)) (hy:lkC σ.cells i=some (.dic N gi es)) (hn:N<szL) (hk:(keyKind prog w).is (.s n) k=true) :
    wpAny (model prog w) A (setItem (.ref b) k v) (Back prog w cloT hb g f ρ ⟨puC σ.cells i (.dic (N+1) gi (puF es n (t,true))),σ.next,σ.dirs⟩ () (fun _ _ _ _=>True)) Fa s:=by
  obtain ⟨ds,ep,o1,o2,o3,o4,o5⟩:=R.cell hy hi
  refine setItem_le hk o1 ⟨rfl,rfl,rfl⟩ rfl o2 (szL_line (Nat.le_trans o5 (Nat.le_of_lt hn))) fun h' o' es' ep' p1 p2 p3 p4 p5 p6 p7 => ?_
  have:=exact_mk p2 p3
  subst this
  refine .same (R.put hy hi rfl (.inl rfl) (sameBut_k p7) ⟨es',ep',p1,p4,fun m => ?_,fun x => ?_,by omega⟩) trivial
  · rw [show findBy Key.is es' (.i m)=_ from p5 (.i m),if_neg (by simp)]; exact o3 m
  · rw [show findBy Key.is es' (.s x)=_ from p5 (.s x),lkF_puF]
    by_cases q:x=n
    · rw [if_pos q,if_pos (by rw [q])]; exact .inl ⟨v,rfl,hv⟩
    · rw [if_neg q,if_neg (by simpa using q)]; exact o4 x
theorem Tri.setD {t k x:TV}{v u y:Value}(h:VR w.params g ρ t v) (hk:VR w.params g ρ k u) (hx:VR w.params g ρ x y):Tri prog w cloT hb A g f ρ (setD t k x) (setItem v u y) (fun _ _ _ _=>True):=by
  intro σ a σ' c e hc s R
  unfold Nu.setD at e
  cases h with
  | @ref i b d hi =>
    obtain ⟨cc,hy,e⟩:=getC_inv e
    cases cc<;>first | (cases e; done) | skip
    · rename_i fs
      cases k<;>first | (cases e; done) | skip
      obtain ⟨hz,e⟩:=chk_inv e
      cases hk
      cases e
      have hz:=ble_k hz
      obtain ⟨o,es,o1,o2,o3,o4⟩:=R.cell hy hi
      have hnd:=o2.choose_spec.choose_spec.2.2.2.2
      refine wpAny_setItem_pairs (kk_str _ _) (Heap.dictOf_iff.mpr ⟨o,o1,o2⟩) (fun h' hm hs => ?_) (k_line o4)
      obtain ⟨o',p1,p2⟩:=Heap.dictOf_iff.mp hm
      have hF:=fun n=>o3.put (y:=n) hx hnd
      refine .same (R.put (s':={ s with heap:=h',toks:=s.toks+1 }) hy hi rfl (.inl rfl) (sameBut_k hs) ⟨o',_,p1,p2,hF _,?_⟩) trivial
      rw [o3.length] at hz
      unfold stored
      split
      · rw [List.length_map]; exact o4
      · rw [List.length_append]; show es.length+1≤1000; omega
    · rename_i N gi es
      obtain ⟨hn,c',e,_⟩:=need_inv e hc
      cases k<;>first | (cases e; done) | skip
      · cases hk
        cases x<;>first | (cases e; done) | skip
        · cases hx; cases e; exact set_int R hi hy hn (kk_int _ _)
        · cases hx; cases e; exact set_int R hi hy hn (kk_int _ _)
      · cases hk
        cases x<;>first | (cases e; done) | skip
        · cases hx; cases e; exact set_int R hi hy hn (kk_int _ _)
        · cases hx; cases e; exact set_int R hi hy hn (kk_int _ _)
      · cases hk
        cases e
        exact set_str R hx hi hy hn (kk_str _ _)
  | _=>cases e
end
end
section
def numT:TV→M (Bool×Int)
  | .int i=>.ret (true,i)
  | .sint i=>.ret (false,i)
  | _=>.fail
def mkN (k:Bool) (z:Int):TV:=match k with
  | true=>.int z
  | false=>.sint z
def kk (a b:Bool):Bool:=match a with
  | true=>b
  | false=>false
def decT (k:Bool) (p:Prop) [Decidable p]:M Bool:=match k with
  | true=>.ret (decide p)
  | false=>takeD.bd fun d=>match d with
    | 0=>(need (¬ p)).bd fun _=>.ret false
    | _+1=>(need p).bd fun _=>.ret true
def lstT:TV→M (List TV)
  | .lst xs=>.ret xs
  | .ref i=>(getC i).bd fun c=>match c with
    | .lst xs=>.ret xs
    | _=>.fail
  | _=>.fail
def neInt (y:Int):Bool:=match y with
  | .ofNat 0=>false
  | _=>true
def binN (op:Operator) (a b:TV):M TV:=(numT a).bd fun p=>(numT b).bd fun q=>match op with
  | .Add=>.ret (mkN (kk p.1 q.1) (p.2+q.2))
  | .Sub=>.ret (mkN (kk p.1 q.1) (p.2 - q.2))
  | .Mult=>(need (IntMulOk p.2 q.2)).bd fun _=>.ret (mkN (kk p.1 q.1) (p.2*q.2))
  | .Mod=>(need (q.2≠0)).bd fun _=>.ret (mkN (kk p.1 q.1) (p.2.fmod q.2))
  | .FloorDiv=>(need (q.2≠0∧Builtin.divisionGoesByPylong p.2 q.2=false)).bd fun _=>.ret (mkN (kk p.1 q.1) (p.2.fdiv q.2))
  | .Pow=>(need (0≤q.2∧q.2≤1000000∧p.2.natAbs<2 ^ 64)).bd fun _=>.ret (mkN (kk p.1 q.1) (p.2 ^ q.2.toNat))
  | _=>.fail
def binT (op:Operator) (a b:TV):M TV:=match a with
  | .str x=>match op,b with
    | .Add,.str y=>chk (Nat.ble (x.length+y.length) 1000) (.ret (.str (x++y)))
    | _,_=>.fail
  | .int x=>binN op (.int x) b
  | .sint x=>binN op (.sint x) b
  | a=>(lstT a).bd fun xs=>match op with
    | .Add=>(lstT b).bd fun ys=>(need ((xs++ys).length≤1000)).bd fun _=>(newC (.lst (xs++ys))).bd fun i=>.ret (.ref i)
    | .Mult=>match xs with
      | [x]=>(asInt b).bd fun k=>match k with
        | .ofNat 0=>(newC (.lst [])).bd fun i=>.ret (.ref i)
        | .ofNat 1=>(newC (.lst [x])).bd fun i=>.ret (.ref i)
        | _=>.fail
      | _=>.fail
    | _=>.fail
def cmpN (op:CmpOp) (k:Bool) (x y:Int):M Bool:=match op with
  | .Eq=>decT k (x=y)
  | .NotEq=>(decT k (x=y)).bd fun b=>.ret (!b)
  | .Lt=>decT k (x<y)
  | .LtE=>decT k (x≤y)
  | .Gt=>decT k (y<x)
  | .GtE=>decT k (y≤x)
  | _=>.fail
def eqO (op:CmpOp) (b:Bool):M Bool:=match op with
  | .Eq=>.ret b
  | .NotEq=>.ret (!b)
  | _=>.fail
section
variable {prog:Program}{w:World}{cloT:Nat→CloI}{hb:HB}{K:Frag}{tab:Tab}{mg mb:Str→Option Value}
variable {A:Around}{g f g' f':PH}{ρ ρ':Rho}{α β γ δ:Type}{E:Value→Shared→Prop}{s:Shared}
theorem numT_at {σ σ':St}{c:List Prop}{t:TV}{v:Value}{p:Bool×Int}(h:VR w.params g ρ t v) (e:numT t σ=some (p,σ',c)):σ'=σ ∧ ∃ tk,v = .int p.2 tk:=by
  unfold numT at e
  cases h<;>first | (cases e; done) | (cases e; exact ⟨rfl,_,rfl⟩)
theorem VR.mkN {P:Params}{k:Bool}{z:Int}{tk:Tok}:VR P g ρ (mkN k z) (.int z tk):=by cases k<;>constructor
theorem decT_inv {σ σ':St}{c:List Prop}{k:Bool}{p:Prop} [Decidable p] {b:Bool}(e:decT k p σ=some (b,σ',c)) (hc:allP c):(∃ r,σ'=⟨σ.cells,σ.next,r⟩)∧b=decide p:=by
  unfold decT at e
  cases k with
  | true=>cases e; exact ⟨⟨_,rfl⟩,rfl⟩
  | false =>
    obtain ⟨d,r,hd,e⟩:=takeD_inv e
    cases d with
    | zero =>
      obtain ⟨hp,c',e,_⟩:=need_inv e hc
      cases e
      exact ⟨⟨r,rfl⟩,by simp [hp]⟩
    | succ d =>
      obtain ⟨hp,c',e,_⟩:=need_inv e hc
      cases e
      exact ⟨⟨r,rfl⟩,by simp [hp]⟩
theorem lstT_at {σ σ':St}{c:List Prop}{t:TV}{v:Value}{xs:List TV}(R:RelS prog w cloT hb σ g f ρ s) (h:VR w.params g ρ t v) (e:lstT t σ=some (xs,σ',c)) :
    σ'=σ ∧ ∃ a vs n,v = .ref a∧s.heap.get? a=some ⟨.type "list",none,.seq vs n,#[]⟩∧VRs w.params g ρ xs vs.toList:=by
  unfold lstT at e
  cases h with
  | lst h1 h2=>cases e; exact ⟨rfl,_,_,_,rfl,R.gk h1,h2⟩
  | @ref i a d hi =>
    obtain ⟨x,hx,e⟩:=getC_inv e
    cases x<;>first | (cases e; done) | skip
    cases e
    obtain ⟨vs,n,o1,o2,o3⟩:=R.cell hx hi
    exact ⟨rfl,_,_,_,rfl,o1,o2⟩
  | _=>cases e
theorem bd_inv {α γ:Type}{σ σ':St}{a:α}{c:List Prop}{m:M γ}{k:γ→M α}(h:m.bd k σ=some (a,σ',c)) (hc:allP c):∃ x σ1 c1 c2,m σ=some (x,σ1,c1)∧k x σ1=some (a,σ',c2)∧allP c1∧allP c2:=by
  obtain ⟨x,σ1,c1,c2,e1,e2,rfl⟩:=M.bd_some h
  obtain ⟨h1,h2⟩:=allP_append.mp hc
  exact ⟨x,σ1,c1,c2,e1,e2,h1,h2⟩
theorem Tri.binN {op:Operator}{t u:TV}{v z:Value}(h:VR w.params g ρ t v) (h':VR w.params g ρ u z):Tri prog w cloT hb A g f ρ (binN op t u) (binaryOp op v z) (VRp w):=by
  intro σ a σ' c e hc s R
  obtain ⟨p,σ1,c1,c2,e1,e2,hc1,hc2⟩:=bd_inv e hc
  obtain ⟨rfl,tk,rfl⟩:=numT_at h e1
  obtain ⟨q,σ2,c3,c4,e3,e4,hc3,hc4⟩:=bd_inv e2 hc2
  obtain ⟨rfl,tk',rfl⟩:=numT_at h' e3
  cases op<;>first | (cases e4; done) | skip
  · cases e4; exact PyProof.Rows.add_int (.same (R.toks rfl) .mkN)
  · cases e4; exact PyProof.Rows.sub_int (.same (R.toks rfl) .mkN)
  · obtain ⟨hp,c',e4,_⟩:=need_inv e4 hc4
    cases e4; exact PyProof.Rows.mul_int (.same (R.toks rfl) .mkN) hp
  · obtain ⟨hp,c',e4,_⟩:=need_inv e4 hc4
    cases e4; exact PyProof.Rows.mod_int hp (.same (R.toks rfl) .mkN)
  · obtain ⟨hp,c',e4,_⟩:=need_inv e4 hc4
    cases e4; exact pow_int_small hp.1 hp.2.1 hp.2.2 (.same (R.toks rfl) .mkN)
  · obtain ⟨hp,c',e4,_⟩:=need_inv e4 hc4
    cases e4; exact PyProof.Rows.floordiv_int hp.1 (.same (R.toks rfl) .mkN) (.inl hp.2)
theorem RelS.newL {σ:St}{xs:List TV}{vs:Array Value}(R:RelS prog w cloT hb σ g f ρ s) (h:VRs w.params g ρ xs vs.toList) (hz:vs.size≤szL) :
    Back prog w cloT hb g f ρ ⟨(σ.next,.lst xs)::σ.cells,σ.next+1,σ.dirs⟩ (.ref σ.next) (VRp w) (.ref s.heap.objs.size) { s with heap:=s.heap.push { cls:=.type "list",data:=.seq vs } }:=by
  obtain ⟨R',E'⟩:=R.new (c:=.lst xs) (a:=s.heap.objs.size) (d:=0) (s':={ s with heap:=s.heap.push { cls:=.type "list",data:=.seq vs } }) (push_k _ _) (fresh_none _) (fun t=>by cases t)
    ⟨vs,0,push_at _ _ rfl,h.mono (PH.le_refl _) (Rho.add_le (R.n _ (Nat.le_refl _))),hz⟩
  exact ⟨_,_,_,E',R',.ref Rho.add_at⟩
theorem mul_list_at {l:Addr}{items:Array Value}{k:Nat}{x:Int}{u:Tok}{Q:Value→Shared→Prop}(hl:s.heap.get? l=some ⟨.type "list",none,.seq items k,#[]⟩)
    (hlo : -(2 ^ 63:Int)≤x) (hhi:x<2 ^ 63) (hsz:items.size*x.toNat≤2 ^ 24)
    (h:Q (.ref s.heap.objs.size) { s with heap:=s.heap.push { cls:=.type "list",data:=.seq (List.foldl (fun x1 x2=>x1++x2) #[] (List.replicate (if items.isEmpty=true then 0 else x.toNat) items)) } }) :
    wpAny (model prog w) A (binaryOp .Mult (.ref l) (.int x u)) Q E s :=
  wpAny_binaryOp_repeat_ref (T:="list") (U:="int") (by decide) ⟨_,hl,rfl⟩ (fun s'=>typeIs_int s' x u) noFill_list_mul F.fills_int_mul F.slot_int_rmul repeat_list F.slot_int_index.lookup
    (call_meets F.slot_int_rmul (typeIs_int s x u) F.entry_int_rmul (F.args_int_rmul_2 _ _) (int___rmul___int_list x u l items k)
      ⟨hl,rfl,⟨_,hl,rfl⟩,call_meets F.slot_list_mul ⟨_,hl,rfl⟩ F.entry_list_mul (F.args_list_mul_2 _ _)
        (AutoListH.list___mul___list_int_3 l items k x u (by simp [Builtin.List.listFitsIndex]; omega) (by omega) (by simp [Builtin.List.listTooLong,sizeLine]; omega)) ⟨hl,h⟩⟩)
theorem Tri.binT {op:Operator}{t u:TV}{v z:Value}(h:VR w.params g ρ t v) (h':VR w.params g ρ u z):Tri prog w cloT hb A g f ρ (binT op t u) (binaryOp op v z) (VRp w):=by
  have lists:∀ {t:TV}{v:Value},VR w.params g ρ t v→Tri prog w cloT hb A g f ρ ((lstT t).bd fun xs=>match op with
      | .Add=>(lstT u).bd fun ys=>(Nu.need ((xs++ys).length≤1000)).bd fun _=>(newC (.lst (xs++ys))).bd fun i=>.ret (.ref i)
      | .Mult=>match xs with
        | [x]=>(asInt u).bd fun k=>match k with
          | .ofNat 0=>(newC (.lst [])).bd fun i=>.ret (.ref i)
          | .ofNat 1=>(newC (.lst [x])).bd fun i=>.ret (.ref i)
          | _=>.fail
        | _=>.fail
      | _=>.fail) (binaryOp op v z) (VRp w):=by
    intro t v h σ a σ' c e hc s R
    obtain ⟨xs,σ1,c1,c2,e1,e2,hc1,hc2⟩:=bd_inv e hc
    obtain ⟨rfl,l,vs,n,rfl,o1,o2⟩:=lstT_at R h e1
    cases op<;>first | (cases e2; done) | skip
    · obtain ⟨ys,σ2,c3,c4,e3,e4,hc3,hc4⟩:=bd_inv e2 hc2
      obtain ⟨rfl,l',vs',n',rfl,p1,p2⟩:=lstT_at R h' e3
      obtain ⟨hz,c',e4,_⟩:=need_inv e4 hc4
      have e4:=newC_inv e4
      cases e4
      rw [List.length_append,← o2.sizeA,← p2.sizeA] at hz
      refine concat_meets ⟨_,o1,rfl⟩ ⟨_,p1,rfl⟩ noFill_list_add seq_list_add PySem.F.slot_list_add PySem.F.entry_list_add (PySem.F.args_list_add_2 _ _) (list_addW l l' vs vs' n n' none none #[] #[] (k_line hz)) ⟨o1,p1,?_⟩
      exact R.newL (xs:=xs++ys) (by rw [Array.toList_append]; exact o2.append p2) (by rw [Array.size_append]; unfold szL; omega)
    · rcases xs with _ | ⟨x,_ | _⟩<;>first | (cases e2; done) | skip
      obtain ⟨k,σ2,c3,c4,e3,e4,hc3,hc4⟩:=bd_inv e2 hc2
      obtain ⟨⟨r,rfl⟩,tk,rfl⟩:=asInt_at h' e3 hc3
      have R1:RelS prog w cloT hb ⟨σ1.cells,σ1.next,r⟩ g f ρ s:=R.dirs
      have hsz:=o2.sizeA
      obtain ⟨vl⟩:=vs
      cases o2 with
      | @cons _ y _ q ry r3 =>
        cases r3
        have key:∀ k:Nat,k≤1→∀ Q:Value→Shared→Prop,Q (.ref s.heap.objs.size) { s with heap:=s.heap.push { cls:=.type "list",data:=.seq (List.foldl (fun x1 x2=>x1++x2) #[] (List.replicate k #[y])) } } →
            wpAny (model prog w) A (binaryOp .Mult (.ref l) (.int (k:Int) tk)) Q Fa s:=fun k hk Q hQ=>by
          refine mul_list_at o1 (by omega) (by omega) (by rw [show (#[y]:Array Value).size=1 from rfl,Int.toNat_natCast]; omega) ?_
          have hk2:(if (#[y]:Array Value).isEmpty=true then 0 else ((k:Int)).toNat)=k:=by simp
          rw [hk2]; exact hQ
        match k,e4 with
        | .ofNat 0,e4 =>
          have e4:=newC_inv e4
          cases e4
          exact key 0 (by omega) _ (R1.newL (xs:=[]) (vs:=#[]) .nil (Nat.zero_le _))
        | .ofNat 1,e4 =>
          have e4:=newC_inv e4
          cases e4
          exact key 1 (by omega) _ (R1.newL (xs:=[x]) (vs:=#[]++#[y]) (.cons ry .nil) (Nat.le_of_ble_eq_true rfl))
  unfold Nu.binT
  cases h with
  | str =>
    intro σ a σ' c e hc s R
    cases op<;>first | (cases e; done) | skip
    cases u<;>first | (cases e; done) | skip
    cases h'
    obtain ⟨hz,e⟩:=chk_inv e
    cases e
    exact SBL.add (fun t' k _=>.same (R.toks rfl) .str) (k_line (ble_k hz))
  | int=>exact Tri.binN .int h'
  | sint=>exact Tri.binN .sint h'
  | none=>exact lists .none
  | bool=>exact lists .bool
  | sym=>exact lists .sym
  | type=>exact lists .type
  | bi=>exact lists .bi
  | raw=>exact lists .raw
  | ref hi=>exact lists (.ref hi)
  | tup a b=>exact lists (.tup a b)
  | lst a b=>exact lists (.lst a b)
  | ins a b c=>exact lists (.ins a b c)
theorem Tri.iadd {t u:TV}{v z:Value}(h:VR w.params g ρ t v) (h':VR w.params g ρ u z):Tri prog w cloT hb A g f ρ (Nu.binN .Add t u) (inplaceOp .Add v z) (VRp w):=by
  intro σ a σ' c e hc s R
  obtain ⟨p,σ1,c1,c2,e1,e2,hc1,hc2⟩:=bd_inv e hc
  obtain ⟨rfl,tk,rfl⟩:=numT_at h e1
  obtain ⟨q,σ2,c3,c4,e3,e4,hc3,hc4⟩:=bd_inv e2 hc2
  obtain ⟨rfl,tk',rfl⟩:=numT_at h' e3
  cases e4; exact PyProof.Rows.iadd_int (.same (R.toks rfl) .mkN)
end
end
section
mutual
def pd:TV→Option PyData
  | .none=>some .none
  | .bool b=>some (.bool b)
  | .sym b=>some (.bool b)
  | .int i=>some (.int i)
  | .sint i=>some (.int i)
  | .str x=>some (.str x)
  | .tup xs=>match pds xs with
    | some ds=>some (.tuple ds)
    | none=>none
  | .lst xs=>match pds xs with
    | some ds=>some (.list ds)
    | none=>none
  | _=>none
def pds:List TV→Option (List PyData)
  | []=>some []
  | x::xs=>match pd x,pds xs with
    | some d,some ds=>some (d::ds)
    | _,_=>none
end
def okT (t:TV):Prop:=∃ d,pd t=some d∧SeqAt.shaped d=true
def okTs (ts:List TV):Prop:=∃ ds,pds ts=some ds∧SeqAt.shaped (.list ds)=true
def eqS (a b:TV):M Bool:=match a with
  | .none=>match b with
    | .none=>.ret true
    | .int _=>.ret false
    | .sint _=>.ret false
    | _=>.fail
  | .str x=>match b with
    | .str y=>(need (okT (.str x)∧okT (.str y))).bd fun _=>.ret (sq x y)
    | .int _=>(need (okT (.str x))).bd fun _=>.ret false
    | .sint _=>(need (okT (.str x))).bd fun _=>.ret false
    | _=>.fail
  | .int x=>match b with
    | .none=>.ret false
    | .str y=>(need (okT (.str y))).bd fun _=>.ret false
    | b=>(numT b).bd fun q=>decT q.1 (x=q.2)
  | .sint x=>match b with
    | .none=>.ret false
    | .str y=>(need (okT (.str y))).bd fun _=>.ret false
    | b=>(numT b).bd fun q=>decT false (x=q.2)
  | .tup xs=>match b with
    | .tup ys=>(need (xs=ys∧okT (.tup xs))).bd fun _=>.ret true
    | _=>.fail
  | .lst xs=>match b with
    | .ref j=>(getC j).bd fun c'=>match c' with
      | .lst ys=>match ys with
        | []=>(need (okTs xs)).bd fun _=>match xs with
          | []=>.ret true
          | _::_=>.ret false
        | _::_=>.fail
      | _=>.fail
    | _=>.fail
  | .ref i=>(getC i).bd fun c=>match b with
    | .ref j=>(getC j).bd fun c'=>match c with
      | .stk r=>match c' with
        | .stk r'=>(need (r=r'∧okTs r.reverse)).bd fun _=>.ret true
        | .lst ys=>(need (r=[]∧ys=[])).bd fun _=>.ret true
        | _=>.fail
      | .lst xs=>match c' with
        | .lst ys=>match ys with
          | []=>(need (okTs xs)).bd fun _=>match xs with
            | []=>.ret true
            | _::_=>.ret false
          | _::_=>.fail
        | _=>.fail
      | _=>.fail
    | _=>.fail
  | _=>.fail
def isN (a b:TV):M Bool:=match b with
  | .none=>match a with
    | .none=>.ret true
    | .bi _=>.fail
    | _=>.ret false
  | _=>.fail
def strsT (l:List TV):Option (List Str):=@List.rec TV (fun _=>Option (List Str)) (some []) (fun t _ ih=>match t with
  | .str x=>match ih with
    | some r=>some (x::r)
    | none=>none
  | _=>none) l
def inT (tab:Tab) (a b:TV):M Bool:=match b with
  | .tup ys=>match a with
    | .str x=>(orFail (strsT ys)).bd fun l=>.ret (hasN l x)
    | _=>.fail
  | b=>inD tab b a
def cmpT (tab:Tab) (op:CmpOp) (a b:TV):M Bool:=match op with
  | .Eq=>eqS a b
  | .NotEq=>(eqS a b).bd fun r=>.ret (!r)
  | .Is=>isN a b
  | .IsNot=>(isN a b).bd fun r=>.ret (!r)
  | .In=>inT tab a b
  | .NotIn=>(inT tab a b).bd fun r=>.ret (!r)
  | op=>(numT a).bd fun p=>(numT b).bd fun q=>cmpN op (kk p.1 q.1) p.2 q.2
def truT (t:TV):M Bool:=match t with
  | .bool b=>.ret b
  | .none=>.ret false
  | .int i=>.ret (neInt i)
  | .sint i=>(decT false (i=0)).bd fun b=>.ret (!b)
  | _=>.fail
structure Room (d:Nat) (A:Around):Prop where
  hd:A.handled=none
  dep:A.depth+3*d+20<recursionLimit
  un:A.units+12*d+200<cLine
section
variable {prog:Program}{w:World}{cloT:Nat→CloI}{hb:HB}{K:Frag}{tab:Tab}{mg mb:Str→Option Value}
variable {A:Around}{g f g' f':PH}{ρ ρ':Rho}{α β γ δ:Type}{E:Value→Shared→Prop}{s:Shared}
mutual
theorem VR.reads {P:Params}{h:Heap}(hk:∀ b o,g b=some o→h.get? b=some o):∀ {t:TV}{v:Value}{d:PyData},VR P g ρ t v→pd t=some d→∃ as,Reads h v d as
  | _,_,_,.none,e=>by cases e; exact ⟨_,.none⟩
  | _,_,_,.bool,e=>by cases e; exact ⟨_,.bool _⟩
  | _,_,_,.sym,e=>by cases e; exact ⟨_,.bool _⟩
  | _,_,_,.int,e=>by cases e; exact ⟨_,.int _ _⟩
  | _,_,_,.sint,e=>by cases e; exact ⟨_,.int _ _⟩
  | _,_,_,.str,e=>by cases e; exact ⟨_,.str _ _⟩
  | _,_,_,.type,e=>by cases e
  | _,_,_,.bi,e=>by cases e
  | _,_,_,.raw,e=>by cases e
  | _,_,_,.ref _,e=>by cases e
  | _,_,_,.ins _ _ _,e=>by cases e
  | .tup xs,_,d,.tup h1 h2,e=>by
    rw [pd] at e
    cases q:pds xs with
    | none=>rw [q] at e; cases e
    | some ds=>rw [q] at e; cases e; obtain ⟨as,r⟩:=h2.reads hk q; exact ⟨_,.tuple (hk _ _ h1) rfl rfl r⟩
  | .lst xs,_,d,.lst h1 h2,e=>by
    rw [pd] at e
    cases q:pds xs with
    | none=>rw [q] at e; cases e
    | some ds=>rw [q] at e; cases e; obtain ⟨as,r⟩:=h2.reads hk q; exact ⟨_,.list (hk _ _ h1) rfl rfl r⟩
theorem VRs.reads {P:Params}{h:Heap}(hk:∀ b o,g b=some o→h.get? b=some o):∀ {t:List TV}{v:List Value}{d:List PyData},VRs P g ρ t v→pds t=some d→∃ as,ReadsAll h v d as
  | _,_,_,.nil,e=>by cases e; exact ⟨_,.nil⟩
  | x::xs,_,d,.cons a r,e=>by
    rw [pds] at e
    cases q:pd x with
    | none=>rw [q] at e; cases e
    | some d0 =>
      cases q':pds xs with
      | none=>rw [q,q'] at e; cases e
      | some ds =>
        rw [q,q'] at e; cases e
        obtain ⟨as,x1⟩:=a.reads hk q
        obtain ⟨bs,x2⟩:=r.reads hk q'
        exact ⟨_,.cons x1 x2⟩
end
structure Same2 (h:Heap) (v u:Value) (b:Bool):Prop where
  ex:∃ da db as bs,Reads h v da as∧Reads h u db bs∧SeqAt.shaped da=true∧SeqAt.shaped db=true∧da.eqv db=b
theorem Same2.eq {v u:Value}{b:Bool}{d:Nat}{Q:Value→Shared→Prop}(x:Same2 s.heap v u b) (r:Room d A) (h:Q (.bool b) s):wpAny (model prog w) A (compareOp .Eq v u) Q E s:=by
  obtain ⟨da,db,as,bs,h1,h2,h3,h4,h5⟩:=x.ex
  exact eq_dataH h1 h2 h3 h4 (by have:=r.un; omega) (by rw [h5]; exact h)
theorem Same2.ne {v u:Value}{b:Bool}{d:Nat}{Q:Value→Shared→Prop}(x:Same2 s.heap v u b) (r:Room d A) (h:Q (.bool (!b)) s):wpAny (model prog w) A (compareOp .NotEq v u) Q E s:=by
  obtain ⟨da,db,as,bs,h1,h2,h3,h4,h5⟩:=x.ex
  exact ne_dataH h1 h2 h3 h4 (by have:=r.un; omega) (by rw [h5]; exact h)
theorem sh_none:SeqAt.shaped .none=true:=rfl
theorem sh_int (i:Int):SeqAt.shaped (.int i)=true:=rfl
theorem okT_str {x:Str}(h:okT (.str x)):SeqAt.shaped (.str x)=true:=by obtain ⟨d,e,h⟩:=h; cases e; exact h
theorem RelS.gk' {σ:St}(R:RelS prog w cloT hb σ g f ρ s):∀ b o,g b=some o→s.heap.get? b=some o:=fun _ _ e=>R.gk e
theorem list_reads {h:Heap}{a:Addr}{vs:Array Value}{n:Nat}{ts:List TV}{ds:List PyData}{P:Params}(hk:∀ b o,g b=some o→h.get? b=some o) (o1:h.get? a=some ⟨.type "list",none,.seq vs n,#[]⟩) (o2:VRs P g ρ ts vs.toList) (q:pds ts=some ds):∃ as,Reads h (.ref a) (.list ds) as:=by
  obtain ⟨as,r⟩:=o2.reads hk q
  exact ⟨_,.list o1 rfl rfl r⟩
theorem eqS_num {σ σ':St}{c:List Prop}{x:Int}{tk:Tok}{u:Value}{t':TV}{k:Bool→Bool}{b:Bool}(R:RelS prog w cloT hb σ g f ρ s) (h':VR w.params g ρ t' u) (e:((numT t').bd fun q=>decT (k q.1) (x=q.2)) σ=some (b,σ',c)) (hc:allP c) :
    (∃ r,σ'=⟨σ.cells,σ.next,r⟩)∧Same2 s.heap (.int x tk) u b:=by
  obtain ⟨q,σ1,c1,c2,e1,e2,hc1,hc2⟩:=bd_inv e hc
  obtain ⟨rfl,tk',rfl⟩:=numT_at h' e1
  obtain ⟨hr,rfl⟩:=decT_inv e2 hc2
  refine ⟨hr,⟨_,_,_,_,.int _ _,.int _ _,sh_int _,sh_int _,?_⟩⟩
  show (x==q.2)=_
  rw [Bool.eq_iff_iff]; simp
theorem eqS_at {σ σ':St}{c:List Prop}{t t':TV}{v u:Value}{b:Bool}(R:RelS prog w cloT hb σ g f ρ s) (h:VR w.params g ρ t v) (h':VR w.params g ρ t' u) (e:eqS t t' σ=some (b,σ',c)) (hc:allP c) :
    (∃ r,σ'=⟨σ.cells,σ.next,r⟩)∧Same2 s.heap v u b:=by
  have hk:=R.gk'
  unfold eqS at e
  cases h with
  | none =>
    cases h'<;>first | (cases e; done) | (cases e; exact ⟨⟨_,rfl⟩,⟨_,_,_,_,.none,.none,rfl,rfl,rfl⟩⟩) | (cases e; exact ⟨⟨_,rfl⟩,⟨_,_,_,_,.none,.int _ _,rfl,rfl,rfl⟩⟩)
  | @str x tk =>
    cases h'<;>first | (cases e; done) | skip
    · obtain ⟨hp,c',e,_⟩:=need_inv e hc
      cases e
      exact ⟨⟨_,rfl⟩,⟨_,_,_,_,.str _ _,.int _ _,okT_str hp,rfl,rfl⟩⟩
    · obtain ⟨hp,c',e,_⟩:=need_inv e hc
      cases e
      exact ⟨⟨_,rfl⟩,⟨_,_,_,_,.str _ _,.int _ _,okT_str hp,rfl,rfl⟩⟩
    · obtain ⟨hp,c',e,_⟩:=need_inv e hc
      cases e
      refine ⟨⟨_,rfl⟩,⟨_,_,_,_,.str _ _,.str _ _,okT_str hp.1,okT_str hp.2,?_⟩⟩
      show (_==_)=_
      rw [sq_eq_decide,Bool.eq_iff_iff]; simp
  | @int x tk =>
    cases h' with
    | none=>cases e; exact ⟨⟨_,rfl⟩,⟨_,_,_,_,.int _ _,.none,rfl,rfl,rfl⟩⟩
    | str =>
      obtain ⟨hp,c',e,_⟩:=need_inv e hc
      cases e
      exact ⟨⟨_,rfl⟩,⟨_,_,_,_,.int _ _,.str _ _,rfl,okT_str hp,rfl⟩⟩
    | int=>exact eqS_num (k:=id) R .int e hc
    | sint=>exact eqS_num (k:=id) R .sint e hc
    | _=>cases e
  | @sint x tk =>
    cases h' with
    | none=>cases e; exact ⟨⟨_,rfl⟩,⟨_,_,_,_,.int _ _,.none,rfl,rfl,rfl⟩⟩
    | str =>
      obtain ⟨hp,c',e,_⟩:=need_inv e hc
      cases e
      exact ⟨⟨_,rfl⟩,⟨_,_,_,_,.int _ _,.str _ _,rfl,okT_str hp,rfl⟩⟩
    | int=>exact eqS_num (k:=fun _=>false) R .int e hc
    | sint=>exact eqS_num (k:=fun _=>false) R .sint e hc
    | _=>cases e
  | tup h1 h2 =>
    cases h'<;>first | (cases e; done) | skip
    obtain ⟨hp,c',e,_⟩:=need_inv e hc
    cases e
    obtain ⟨rfl,d,hd,hs⟩:=hp
    obtain ⟨as,r1⟩:=VR.reads hk (.tup h1 h2) hd
    obtain ⟨bs,r2⟩:=VR.reads hk (.tup (by assumption) (by assumption)) hd
    exact ⟨⟨_,rfl⟩,⟨d,d,_,_,r1,r2,hs,hs,SeqAt.eqv_refl d (by unfold SeqAt.shaped at hs; exact (Bool.and_eq_true_iff.mp hs).1)⟩⟩
  | @lst xs a vs n o1' o2 =>
    cases h' with
    | @ref j a' d' hj =>
      obtain ⟨y,hy,e⟩:=getC_inv e
      cases y with
      | lst ys =>
        cases ys with
        | cons _ _=>cases e
        | nil =>
          obtain ⟨⟨ds,hp,hs⟩,c',e,_⟩:=need_inv e hc
          have o1:=R.gk o1'
          obtain ⟨us,m,p1,p2,p3⟩:=R.cell hy hj
          obtain ⟨as,r1⟩:=list_reads hk o1 o2 hp
          obtain ⟨bs,r2⟩:=list_reads hk p1 p2 (ds:=[]) rfl
          cases xs with
          | nil =>
            cases e; cases hp
            exact ⟨⟨_,rfl⟩,⟨_,_,_,_,r1,r2,rfl,rfl,rfl⟩⟩
          | cons z zs =>
            cases e
            refine ⟨⟨_,rfl⟩,⟨_,_,_,_,r1,r2,hs,rfl,?_⟩⟩
            rw [pds] at hp
            cases q:pd z with
            | none=>rw [q] at hp; cases hp
            | some d0 =>
              cases q':pds zs with
              | none=>rw [q,q'] at hp; cases hp
              | some d1=>rw [q,q'] at hp; cases hp; rfl
      | _=>cases e
    | _=>cases e
  | @ref i a d hi =>
    obtain ⟨x,hx,e⟩:=getC_inv e
    cases h' with
    | @ref j a' d' hj =>
      obtain ⟨y,hy,e⟩:=getC_inv e
      cases x with
      | lst xs =>
        cases y with
        | lst ys =>
          cases ys with
          | cons _ _=>cases e
          | nil =>
            obtain ⟨⟨ds,hp,hs⟩,c',e,_⟩:=need_inv e hc
            obtain ⟨vs,n,o1,o2,o3⟩:=R.cell hx hi
            obtain ⟨us,m,p1,p2,p3⟩:=R.cell hy hj
            obtain ⟨as,r1⟩:=list_reads hk o1 o2 hp
            obtain ⟨bs,r2⟩:=list_reads hk p1 p2 (ds:=[]) rfl
            cases xs with
            | nil =>
              cases e; cases hp
              exact ⟨⟨_,rfl⟩,⟨_,_,_,_,r1,r2,rfl,rfl,rfl⟩⟩
            | cons z zs =>
              cases e
              refine ⟨⟨_,rfl⟩,⟨_,_,_,_,r1,r2,hs,rfl,?_⟩⟩
              rw [pds] at hp
              cases q:pd z with
              | none=>rw [q] at hp; cases hp
              | some d0 =>
                cases q':pds zs with
                | none=>rw [q,q'] at hp; cases hp
                | some d1=>rw [q,q'] at hp; cases hp; rfl
        | _=>cases e
      | stk r0 =>
        cases y with
        | lst ys =>
          obtain ⟨⟨rfl,rfl⟩,c',e,_⟩:=need_inv e hc
          cases e
          obtain ⟨vs,n,o1,o2,o3⟩:=R.cell hx hi
          obtain ⟨us,m,p1,p2,p3⟩:=R.cell hy hj
          obtain ⟨as,r1⟩:=list_reads hk o1 o2 (ds:=[]) rfl
          obtain ⟨bs,r2⟩:=list_reads hk p1 p2 (ds:=[]) rfl
          exact ⟨⟨_,rfl⟩,⟨_,_,_,_,r1,r2,rfl,rfl,rfl⟩⟩
        | stk r1 =>
          obtain ⟨⟨rfl,ds,hp,hs⟩,c',e,_⟩:=need_inv e hc
          cases e
          obtain ⟨vs,n,o1,o2,o3⟩:=R.cell hx hi
          obtain ⟨us,m,p1,p2,p3⟩:=R.cell hy hj
          obtain ⟨as,r1⟩:=list_reads hk o1 o2 hp
          obtain ⟨bs,r2⟩:=list_reads hk p1 p2 hp
          exact ⟨⟨_,rfl⟩,⟨_,_,_,_,r1,r2,hs,hs,SeqAt.eqv_refl _ (by unfold SeqAt.shaped at hs; exact (Bool.and_eq_true_iff.mp hs).1)⟩⟩
        | _=>cases e
      | _=>cases e
    | _=>cases e
  | _=>cases e
theorem isN_at {σ σ':St}{c:List Prop}{t t':TV}{v u:Value}{b:Bool}(h:VR w.params g ρ t v) (h':VR w.params g ρ t' u) (e:isN t t' σ=some (b,σ',c)):σ'=σ∧u = .none∧PySem.plainIs v .none=true∧(v==Value.none)=b:=by
  unfold isN at e
  cases h'<;>first | (cases e; done) | skip
  cases h<;>first | (cases e; done) | skip
  all_goals (cases e; exact ⟨rfl,rfl,rfl,rfl⟩)
theorem strsT_at {xs:List TV}{vs:List Value}{l:List Str}(h:VRs w.params g ρ xs vs) (e:strsT xs=some l):(∀ v∈vs,∃ x t,v = .str x t∧x∈l) ∧ ∀ x∈l,∃ t,Value.str x t∈vs:=by
  induction vs generalizing xs l with
  | nil=>cases h; cases e; exact ⟨by simp,by simp⟩
  | cons v vs ih =>
    cases h with
    | @cons t _ ts _ a r =>
      have e:(match (generalizing:=false) t with
        | .str x=>match (generalizing:=false) strsT ts with
          | some r=>some (x::r)
          | none=>none
        | _=>none)=some l:=e
      cases a with
      | @str x tk =>
       cases q:strsT ts with
       | none=>rw [q] at e; cases e
       | some l' =>
        rw [q] at e; cases e
        obtain ⟨i1,i2⟩:=ih r q
        refine ⟨fun v hv => ?_,fun y hy => ?_⟩
        · rcases List.mem_cons.mp hv with rfl | hv
          · exact ⟨x,tk,rfl,.head _⟩
          · obtain ⟨y,t,e,m⟩:=i1 v hv; exact ⟨y,t,e,.tail _ m⟩
        · rcases List.mem_cons.mp hy with rfl | hy
          · exact ⟨tk,.head _⟩
          · obtain ⟨t,m⟩:=i2 y hy; exact ⟨t,.tail _ m⟩
      | _=>cases e
theorem hasN_iff {l:List Str}{x:Str}:hasN l x=true ↔ x∈l:=by
  refine ⟨hasN_mem,fun h => ?_⟩
  induction l with
  | nil=>cases h
  | cons p l ih =>
    show (@Bool.rec (fun _=>Bool) (hasN l x) true (sq p x))=true
    rcases List.mem_cons.mp h with rfl | h
    · rw [sq_refl]
    · rw [ih h]; cases sq p x<;>rfl
theorem inT_tup {xs:List TV}{x:Str}{tk:Tok}{a:Addr}{vs:Array Value}{n:Nat}{l:List Str}{d:Nat}{Q:Value→Shared→Prop}(r:Room d A) (h1:s.heap.get? a=some ⟨.type "tuple",none,.seq vs n,#[]⟩) (h2:VRs w.params g ρ xs vs.toList) (e:strsT xs=some l) :
    (Q (.bool (hasN l x)) s→wpAny (model prog w) A (compareOp .In (.str x tk) (.ref a)) Q E s)∧(Q (.bool (!hasN l x)) s→wpAny (model prog w) A (compareOp .NotIn (.str x tk) (.ref a)) Q E s):=by
  obtain ⟨m1,m2⟩:=strsT_at h2 e
  have he:∀ y,y∈vs→SeqAt.EqAt A.in1 s y (.str x tk) ((fun y=>y.isStr x) y):=fun y hy=>by
    obtain ⟨z,t,rfl,_⟩:=m1 y (by simpa using hy)
    exact SeqAt.EqAt.str_str z t x tk
  have ht:s.heap.IsTuple a vs:=⟨_,h1,rfl,_,rfl⟩
  have hh:vs.any (fun y=>y.isStr x)=hasN l x:=by
    rw [Bool.eq_iff_iff,hasN_iff,Array.any_eq_true']
    constructor
    · rintro ⟨y,hy,e⟩
      obtain ⟨z,t,rfl,hz⟩:=m1 y (by simpa using hy)
      rw [isStr_str] at e
      have:z=x:=by simpa using e
      rw [← this]; exact hz
    · intro hx
      obtain ⟨t,ht⟩:=m2 x hx
      exact ⟨_,by simpa using ht,by rw [isStr_str]; simp⟩
  exact ⟨fun q=>SeqAt.in_tupleAt _ ht he (by rw [hh]; exact q),fun q=>SeqAt.notIn_tupleAt _ ht he (by rw [hh]; exact q)⟩
def BoolR:PH→Rho→Bool→Value→Prop:=fun _ _ b r=>r = .bool b
theorem RelS.ofD {σ σ':St}(R:RelS prog w cloT hb σ g f ρ s) (h:∃ r,σ'=⟨σ.cells,σ.next,r⟩):RelS prog w cloT hb σ' g f ρ s:=by obtain ⟨r,rfl⟩:=h; exact R.dirs
theorem Tri.inTT (B:BaseH K mg mb hb) (T:TabOk w.params K tab mg mb) {d:Nat}(r:Room d A) {t u:TV}{v z:Value}(h:VR w.params g ρ t v) (h':VR w.params g ρ u z) :
    Tri prog w cloT hb A g f ρ (inT tab t u) (compareOp .In v z) BoolR∧Tri prog w cloT hb A g f ρ ((inT tab t u).bd fun b=>.ret (!b)) (compareOp .NotIn v z) BoolR:=by
  constructor
  · intro σ a σ' c e hc s R
    cases h' with
    | @tup ys b vs n h1 h2 =>
      cases h with
      | str =>
        unfold inT at e
        obtain ⟨l,hl,e⟩:=orFail_inv e
        cases e
        exact (inT_tup r (R.gk h1) h2 hl).1 (.same R rfl)
      | _=>cases e
    | raw=>exact Tri.isInD B T .raw h σ a σ' c e hc s R
    | ref hi=>exact Tri.isInD B T (.ref hi) h σ a σ' c e hc s R
    | _=>exact Tri.isInD B T (by constructor<;>assumption) h σ a σ' c e hc s R
  · intro σ a σ' c e hc s R
    obtain ⟨b0,σ1,c1,c2,e1,e2,hc1,hc2⟩:=bd_inv e hc
    cases e2
    cases h' with
    | @tup ys b vs n h1 h2 =>
      cases h with
      | str =>
        unfold inT at e1
        obtain ⟨l,hl,e1⟩:=orFail_inv e1
        cases e1
        exact (inT_tup r (R.gk h1) h2 hl).2 (.same R rfl)
      | _=>cases e1
    | raw=>exact wpAny_mono (Tri.notInD B T .raw h σ b0 _ c1 e1 hc1 s R) (fun _ _ x=>x.mono fun _ _ _ _ z=>z) fun _ _ x=>x
    | ref hi=>exact wpAny_mono (Tri.notInD B T (.ref hi) h σ b0 _ c1 e1 hc1 s R) (fun _ _ x=>x.mono fun _ _ _ _ z=>z) fun _ _ x=>x
    | _=>exact wpAny_mono (Tri.notInD B T (by constructor<;>assumption) h σ b0 _ c1 e1 hc1 s R) (fun _ _ x=>x.mono fun _ _ _ _ z=>z) fun _ _ x=>x
theorem Tri.cmp (B:BaseH K mg mb hb) (T:TabOk w.params K tab mg mb) {d:Nat}(r:Room d A) {op:CmpOp}{t u:TV}{v z:Value}(h:VR w.params g ρ t v) (h':VR w.params g ρ u z):Tri prog w cloT hb A g f ρ (cmpT tab op t u) (compareOp op v z) BoolR:=by
  have nums:∀ op,(op = .Lt∨op = .LtE∨op = .Gt∨op = .GtE)→Tri prog w cloT hb A g f ρ ((numT t).bd fun p=>(numT u).bd fun q=>cmpN op (kk p.1 q.1) p.2 q.2) (compareOp op v z) BoolR:=by
    intro op ho σ a σ' c e hc s R
    obtain ⟨p,σ1,c1,c2,e1,e2,hc1,hc2⟩:=bd_inv e hc
    obtain ⟨rfl,tk,rfl⟩:=numT_at h e1
    obtain ⟨q,σ2,c3,c4,e3,e4,hc3,hc4⟩:=bd_inv e2 hc2
    obtain ⟨rfl,tk',rfl⟩:=numT_at h' e3
    rcases ho with rfl | rfl | rfl | rfl<;>obtain ⟨hr,rfl⟩:=decT_inv e4 hc4
    · exact PyProof.Rows.lt_int (.same (R.ofD hr) rfl)
    · exact PyProof.Rows.le_int (.same (R.ofD hr) rfl)
    · exact PyProof.Rows.gt_int (.same (R.ofD hr) rfl)
    · exact PyProof.Rows.ge_int (.same (R.ofD hr) rfl)
  unfold cmpT
  cases op with
  | Eq =>
    intro σ a σ' c e hc s R
    obtain ⟨hr,z⟩:=eqS_at R h h' e hc
    exact z.eq r (.same (R.ofD hr) rfl)
  | NotEq =>
    intro σ a σ' c e hc s R
    obtain ⟨b0,σ1,c1,c2,e1,e2,hc1,hc2⟩:=bd_inv e hc
    cases e2
    obtain ⟨hr,z⟩:=eqS_at R h h' e1 hc1
    exact z.ne r (.same (R.ofD hr) rfl)
  | Is =>
    intro σ a σ' c e hc s R
    obtain ⟨rfl,rfl,h1,h2⟩:=isN_at h h' e
    exact PySem.wpAny_is_plain h1 (.same R (by rw [h2]; rfl))
  | IsNot =>
    intro σ a σ' c e hc s R
    obtain ⟨b0,σ1,c1,c2,e1,e2,hc1,hc2⟩:=bd_inv e hc
    cases e2
    obtain ⟨rfl,rfl,h1,h2⟩:=isN_at h h' e1
    exact PySem.wpAny_isNot_plain h1 (.same R (by rw [h2]; rfl))
  | In=>exact (Tri.inTT B T r h h').1
  | NotIn=>exact (Tri.inTT B T r h h').2
  | Lt=>exact nums _ (.inl rfl)
  | LtE=>exact nums _ (.inr (.inl rfl))
  | Gt=>exact nums _ (.inr (.inr (.inl rfl)))
  | GtE=>exact nums _ (.inr (.inr (.inr rfl)))
def EqR:PH→Rho→Bool→Bool→Prop:=fun _ _ b r=>r=b
theorem Tri.tru {t:TV}{v:Value}(h:VR w.params g ρ t v):Tri prog w cloT hb A g f ρ (truT t) (truthy v) EqR:=by
  intro σ a σ' c e hc s R
  unfold truT at e
  cases h with
  | bool=>cases e; exact wpAny_truthy_bool (.same R rfl)
  | none=>cases e; exact PyProof.Rows.truthy_none (.same R rfl)
  | @int i tk =>
    cases e
    refine PyProof.Rows.truthy_int (.same R ?_)
    show (i != 0)=neInt i
    unfold neInt
    split
    · rfl
    · rename_i hne; rw [bne_iff_ne]; exact fun e=>hne e
  | @sint i tk =>
    obtain ⟨b0,σ1,c1,c2,e1,e2,hc1,hc2⟩:=bd_inv e hc
    cases e2
    obtain ⟨hr,rfl⟩:=decT_inv e1 hc1
    refine PyProof.Rows.truthy_int (.same (R.ofD hr) ?_)
    show (i != 0) = !decide (i=0)
    rw [Bool.eq_iff_iff]; simp
  | _=>cases e
end
end
section
inductive FL where
  | next
  | brk
  | cont
  | ret (t:TV)
structure Evs where
  ex:Nat→AE→Expr→M TV
  tr:Nat→AE→Expr→M Bool
  ss:Nat→AE→List Stmt→M FL
  cl:Nat→TV→List TV→M TV
  wh:Nat→AE→Expr→List Stmt→M FL
  fo:Nat→AE→Str→TV→List Stmt→M FL
  co:Nat→AE→Expr→List Expr→Str→TV→TV→M Unit
def nmAppend:Str:=Str.ofString "append"
def nmPop:Str:=Str.ofString "pop"
def nmGet:Str:=Str.ofString "get"
def nmUpdate:Str:=Str.ofString "update"
def listM (name:Str):M Nat:=ifB (sq name nmAppend) (.ret 4) (chk (sq name nmPop) (.ret 5))
def dictM (name:Str):M Nat:=ifB (sq name nmGet) (.ret 6) (chk (sq name nmUpdate) (.ret 7))
def instM (tab:Tab) (C:Nat) (fs:List (Str×TV)) (t:TV) (name:Str):M (TV×List TV):=(orFail (lkC tab.me C)).bd fun l=>(orFail (lkF l name)).bd fun f=>match lkF fs name with
  | none=>.ret (.raw f,[t])
  | some _=>.fail
def isSomeB {α:Type}:Option α→Bool
  | some _=>true
  | none=>false
def metT (tab:Tab) (t:TV) (name:Str):M (TV×List TV):=match t with
  | .raw C=>ifB (isSomeB (lkC tab.ro C)) ((dictM name).bd fun k=>.ret (.bi k,[.raw C])) ((getA tab (.raw C) name).bd fun f=>.ret (f,[]))
  | .ref i=>(getC i).bd fun c=>match c with
    | .inst C fs=>instM tab C fs (.ref i) name
    | .lst _=>(listM name).bd fun k=>.ret (.bi k,[.ref i])
    | .stk _=>(listM name).bd fun k=>.ret (.bi k,[.ref i])
    | .sdic _=>(dictM name).bd fun k=>.ret (.bi k,[.ref i])
    | .dic .. => (dictM name).bd fun k=>.ret (.bi k,[.ref i])
    | _=>.fail
  | .ins C fs=>instM tab C fs (.ins C fs) name
  | _=>.fail
def canT (tab:Tab) (t:TV):M Unit:=match t with
  | .raw a=>chk (hasI tab.kp a) (.ret ())
  | .bi _=>.ret ()
  | .type _=>.ret ()
  | .ref i=>(getC i).bd fun c=>match c with
    | .clo .. => .ret ()
    | _=>.fail
  | _=>.fail
def notStar:Expr→Bool
  | .Starred .. => false
  | _=>true
def nsup:Expr→Bool
  | .Call (.Name _ _) [] [] _=>false
  | _=>true
def exs (p:Expr→M TV) (l:List Expr):M (List TV):=@List.rec Expr (fun _=>M (List TV)) (.ret []) (fun x _ ih=>chk (notStar x) ((p x).bd fun t=>ih.bd fun ts=>.ret (t::ts))) l
section
variable {prog:Program}{w:World}{cloT:Nat→CloI}{hb:HB}{K:Frag}{tab:Tab}{mg mb:Str→Option Value}
variable {A:Around}{g f g' f':PH}{ρ ρ':Rho}{α β γ δ:Type}{E:Value→Shared→Prop}{s:Shared}
theorem ifB_inv {b:Bool}{k l:M α}{σ σ':St}{a:α}{c:List Prop}(h:ifB b k l σ=some (a,σ',c)):(b=true∧k σ=some (a,σ',c))∨(b=false∧l σ=some (a,σ',c)):=by
  cases b with
  | false=>exact .inr ⟨rfl,h⟩
  | true=>exact .inl ⟨rfl,h⟩
theorem starEach_cons {x:Expr}{r:List Expr}{env:Env}(h:notStar x=true):starEach (x::r) env=(false,eval x env)::starEach r env:=by
  cases x<;>first | rfl | (cases h)
theorem base_of {o:Expr}{attr:Str}{env:Env}{whole:Sem Value}(h:nsup o=true):attributeBase o attr env whole=whole:=by
  unfold attributeBase
  split
  · cases h
  · rfl
theorem Tri.exs {p:Expr→M TV}{env:Env}{pos:Pos}{ae:AE}(hp:∀ g f ρ x,EnvR ρ ae env→Tri prog w cloT hb A g f ρ (p x) (eval x env) (VRp w)):∀ {l:List Expr}{g f:PH}{ρ:Rho},EnvR ρ ae env →
    Tri prog w cloT hb A g f ρ (exs p l) (spliced (backTo pos (starEach l env))) (VRsp w)
  | [],g,f,ρ,_=>Tri.ret (P:=VRsp w) (b:=[]) .nil
  | x::r,g,f,ρ,N=>by
    intro σ a σ' c e hc s R
    have e:chk (notStar x) ((p x).bd fun t=>(Nu.exs p r).bd fun ts=>.ret (t::ts)) σ=some (a,σ',c):=e
    obtain ⟨h1,e⟩:=chk_inv e
    rw [starEach_cons h1]
    obtain ⟨t,σ1,c1,c2,e1,e2,hc1,hc2⟩:=bd_inv e hc
    obtain ⟨ts,σ2,c3,c4,e3,e4,hc3,hc4⟩:=bd_inv e2 hc2
    cases e4
    refine Calls.spliced_cons (wpAny_mono (hp g f ρ x N σ t σ1 c1 e1 hc1 s R) (fun v s1 x1 => ?_) fun _ _ z=>z.elim)
    obtain ⟨g1,f1,ρ1,E1,R1,V1⟩:=x1
    refine wpAny_mono (Tri.exs hp (l:=r) (pos:=pos) (N.mono E1.rl) σ1 ts _ c3 e3 hc3 s1 R1) (fun vs s2 x2 => ?_) fun _ _ z=>z.elim
    obtain ⟨g2,f2,ρ2,E2,R2,V2⟩:=x2
    exact ⟨g2,f2,ρ2,E1.trans E2,R2,.cons (V1.mono E2.gl E2.rl) V2⟩
theorem canT_at (B:BaseH K mg mb hb) (T:TabOk w.params K tab mg mb) {σ σ':St}{c:List Prop}{t:TV}{v:Value}(R:RelS prog w cloT hb σ g f ρ s) (h:VR w.params g ρ t v) (e:canT tab t σ=some ((),σ',c)) :
    σ'=σ ∧ ∃ k,(k=Keeper.frame∨k=Keeper.machine∨k=Keeper.boundFrame)∧Looks (model prog w) s.heap (keeperOf v) k:=by
  unfold canT at e
  cases h with
  | raw =>
    obtain ⟨h1,e⟩:=chk_inv e
    cases e
    exact ⟨rfl,keeps_K (T.kp _ h1) _ (R.K B)⟩
  | bi=>cases e; exact ⟨rfl,.machine,.inr (.inl rfl),.of_pure rfl⟩
  | type=>cases e; exact ⟨rfl,.machine,.inr (.inl rfl),.of_pure rfl⟩
  | @ref i a d hi =>
    obtain ⟨x,hx,e⟩:=getC_inv e
    cases x with
    | clo k cs =>
      cases e
      obtain ⟨fd,o1,_⟩:=R.cell hx hi
      exact ⟨rfl,.frame,.inl rfl,(Looks.ld (part:=none) o1).andThen .now⟩
    | _=>cases e
  | _=>cases e
theorem starEach_plain {l:List Expr}{env:Env}{pos:Pos}(h:l.all notStar=true):(backTo pos (starEach l env)).any (·.1)=false∧(backTo pos (starEach l env)).all (fun x => !x.1)=true:=by
  induction l with
  | nil=>exact ⟨rfl,rfl⟩
  | cons x r ih =>
    rw [List.all_cons,Bool.and_eq_true] at h
    rw [starEach_cons h.1]
    obtain ⟨i1,i2⟩:=ih h.2
    exact ⟨by show (false||_)=false; rw [Bool.false_or]; exact i1,by show (true&&_)=true; rw [Bool.true_and]; exact i2⟩
def callT (tab:Tab) (p:Expr→M TV) (cl:TV→List TV→M TV) (fn:TV) (first:List TV) (l:List Expr):M TV:=chk (l.all notStar) ((exs p l).bd fun vs=>(canT tab fn).bd fun _=>cl fn (first++vs))
theorem Tri.callW (B:BaseH K mg mb hb) (T:TabOk w.params K tab mg mb) {p:Expr→M TV}{cl:TV→List TV→M TV}{env:Env}{pos:Pos}{ae:AE}(hp:∀ g f ρ x,EnvR ρ ae env→Tri prog w cloT hb A g f ρ (p x) (eval x env) (VRp w))
    (hcl:∀ g f ρ t v ts vs,VR w.params g ρ t v→VRs w.params g ρ ts vs→Tri prog w cloT hb A g f ρ (cl t ts) (call v vs) (VRp w)) (N:EnvR ρ ae env) {fn:TV}{fv:Value}{first:List TV}{fs:List Value}{l:List Expr}(hf:VR w.params g ρ fn fv) (h1:VRs w.params g ρ first fs) :
    Tri prog w cloT hb A g f ρ (callT tab p cl fn first l) (callWith pos fv fs (backTo pos (starEach l env)) []) (VRp w):=by
  intro σ a σ' c e hc s R
  obtain ⟨hl,e⟩:=chk_inv e
  obtain ⟨vs,σ1,c1,c2,e1,e2,hc1,hc2⟩:=bd_inv e hc
  obtain ⟨u,σ2,c3,c4,e3,e4,hc3,hc4⟩:=bd_inv e2 hc2
  obtain ⟨p1,p2⟩:=starEach_plain (env:=env) (pos:=pos) hl
  refine callWith_of (P:=fun h=>∃ k,(k=Keeper.frame∨k=Keeper.machine∨k=Keeper.boundFrame)∧Looks (model prog w) h (keeperOf fv) k) (by rw [p1]; rfl) (fun _ x=>x) ?_
  have key:=Tri.exs (pos:=pos) hp (l:=l) N σ vs σ1 c1 e1 hc1 s R
  have go:wpAny (model prog w) A (spliced (backTo pos (starEach l env))) (fun us s₁=>(∃ k,(k=Keeper.frame∨k=Keeper.machine∨k=Keeper.boundFrame)∧Looks (model prog w) s₁.heap (keeperOf fv) k)∧wpAny (model prog w) A (call fv (fs++us) []) (Back prog w cloT hb g f ρ σ' a (VRp w)) Fa s₁) Fa s:=by
    refine wpAny_mono key (fun us s1 x1 => ?_) fun _ _ z=>z.elim
    obtain ⟨g1,f1,ρ1,E1,R1,V1⟩:=x1
    obtain ⟨rfl,hk⟩:=canT_at B T R1 (hf.mono E1.gl E1.rl) e3
    refine ⟨hk,wpAny_mono (hcl g1 f1 ρ1 fn fv (first++vs) (fs++us) (hf.mono E1.gl E1.rl) ((h1.mono E1.gl E1.rl).append V1) _ a σ' c4 e4 hc4 s1 R1) (fun r s2 x2 => ?_) fun _ _ z=>z.elim⟩
    obtain ⟨g2,f2,ρ2,E2,R2,V2⟩:=x2
    exact ⟨g2,f2,ρ2,E1.trans E2,R2,V2⟩
  cases l with
  | nil =>
    cases e1
    obtain ⟨rfl,hk⟩:=canT_at B T R hf e3
    exact evalArgs_nil3 ⟨hk,hcl g f ρ fn fv (first++[]) (fs++[]) hf (h1.append .nil) _ a σ' c4 e4 hc4 s R⟩
  | cons x r =>
    rw [List.all_cons,Bool.and_eq_true] at hl
    rw [starEach_cons hl.1] at go ⊢
    exact Calls.evalArgs_plain go
theorem biN_type (k:Nat) (h:k=4∨k=5):typeOf (.builtin (biN k))=pure (.type "method_descriptor"):=by
  rcases h with rfl | rfl
  · exact PySem.F.type_list_append
  · exact PySem.F.type_list_pop
def MetR (w:World):PH→Rho→TV×List TV→Value×List Value→Prop:=fun g ρ p q=>VR w.params g ρ p.1 q.1∧VRs w.params g ρ p.2 q.2
theorem nm_append:nmAppend=Str.ofString "append" := rfl
theorem getM_list {name:Str}{k:Nat}{pl:Sem Bool}{a:Addr}{vs:Array Value}{n:Nat}{σ σ':St}{c:List Prop}{Q:Value×List Value→Shared→Prop}(o1:s.heap.get? a=some ⟨.type "list",none,.seq vs n,#[]⟩) (e:listM name σ=some (k,σ',c)) (hq:σ'=σ→Q (.builtin (biN k),[.ref a]) s) :
    wpAny (model prog w) A (getMethod (.ref a) name pl) Q E s:=by
  unfold listM at e
  rcases ifB_inv e with ⟨h1,e⟩ | ⟨_,e⟩
  · cases e
    rw [sq_iff.mp h1]
    exact getMethod_builtin ⟨_,o1,rfl⟩ PySem.F.plainAttrs_list PySem.F.slot_list_append PySem.F.type_list_append (fun a' e=>by cases e; exact ⟨_,o1,rfl⟩) (hq rfl)
  · obtain ⟨h1,e⟩:=chk_inv e
    cases e
    rw [sq_iff.mp h1]
    exact getMethod_builtin ⟨_,o1,rfl⟩ PySem.F.plainAttrs_list PySem.F.slot_list_pop PySem.F.type_list_pop (fun a' e=>by cases e; exact ⟨_,o1,rfl⟩) (hq rfl)
theorem getM_dict {name:Str}{k:Nat}{pl:Sem Bool}{a:Addr}{ob:Obj}{σ σ':St}{c:List Prop}{Q:Value×List Value→Shared→Prop}(o1:s.heap.get? a=some ob) (h1:ob.cls = .type "dict") (h2:ob.dict=none) (e:dictM name σ=some (k,σ',c)) (hq:σ'=σ→Q (.builtin (biN k),[.ref a]) s) :
    wpAny (model prog w) A (getMethod (.ref a) name pl) Q E s:=by
  unfold dictM at e
  rcases ifB_inv e with ⟨h3,e⟩ | ⟨_,e⟩
  · cases e
    rw [sq_iff.mp h3]
    exact getMethod_builtin ⟨_,o1,h1⟩ PySem.F.plainAttrs_dict PySem.F.slot_dict_get PySem.F.type_dict_get (fun a' e=>by cases e; exact ⟨_,o1,h2⟩) (hq rfl)
  · obtain ⟨h3,e⟩:=chk_inv e
    cases e
    rw [sq_iff.mp h3]
    exact getMethod_builtin ⟨_,o1,h1⟩ PySem.F.plainAttrs_dict PySem.F.slot_dict_update PySem.F.type_dict_update (fun a' e=>by cases e; exact ⟨_,o1,h2⟩) (hq rfl)
theorem getM_inst (T:TabOk w.params K tab mg mb) {name:Str}{pl:Sem Bool}{x d C:Nat}{es:List DictEntry}{n:Nat}{fs:List (Str×TV)}{t:TV}{p:TV×List TV}{σ σ':St}{c:List Prop}{Q:Value×List Value→Shared→Prop}(X:K.In s.heap) (hx:s.heap.get? x=some ⟨.ref C,some d,.plain,#[]⟩) (hd:s.heap.get? d=some (dictOf es n)) (F:FR w.params g ρ fs es)
    (h:VR w.params g ρ t (.ref x)) (e:instM tab C fs t name σ=some (p,σ',c)) (hq:σ'=σ→∀ fa,MetR w g ρ p (.ref fa,[.ref x])→Q (.ref fa,[.ref x]) s):wpAny (model prog w) A (getMethod (.ref x) name pl) Q E s:=by
  obtain ⟨l,hl,e⟩:=orFail_inv e
  obtain ⟨fa,hf,e⟩:=orFail_inv e
  have ok:=T.me C l hl name fa hf
  simp only [meOk,Bool.and_eq_true,beq_iff_eq] at ok
  obtain ⟨⟨o1,o2⟩,o3⟩:=ok
  rcases F.get (x:=name) with ⟨q,ql⟩ | ⟨_,_,q,_⟩
  · rw [q] at e; cases e
    refine method_fn X (inst_at hx hd) (plainGet_of o2).1 (plainGet_of o2).2 o1 (beq_iff_eq.mp o3) (by show (lookIn name (dictOf es n)).map _=_; rw [lookIn_dict,ql]; rfl) (hq rfl fa ⟨.raw,.cons h .nil⟩)
  · rw [q] at e; cases e
theorem Tri.met (B:BaseH K mg mb hb) (T:TabOk w.params K tab mg mb) {name:Str}{pl:Sem Bool}{t:TV}{v:Value}(h:VR w.params g ρ t v):Tri prog w cloT hb A g f ρ (metT tab t name) (getMethod v name pl) (MetR w):=by
  intro σ a σ' c e hc s R
  unfold metT at e
  cases h with
  | @raw C =>
    rcases ifB_inv e with ⟨h1,e⟩ | ⟨_,e⟩
    · cases hl:lkC tab.ro C with
      | none=>rw [hl] at h1; cases h1
      | some l =>
        obtain ⟨k,σ1,c1,c2,e1,e2,hc1,hc2⟩:=bd_inv e hc
        cases e2
        obtain ⟨es,n,o1,_⟩:=T.ro C l hl
        exact getM_dict (R.K B _ _ o1) rfl rfl e1 fun q=>by subst q; exact .same R ⟨.bi,.cons .raw .nil⟩
    · obtain ⟨fn,σ1,c1,c2,e1,e2,hc1,hc2⟩:=bd_inv e hc
      cases e2
      have e0:=e1
      unfold Nu.getA at e1
      obtain ⟨l,hl,e1⟩:=orFail_inv e1
      obtain ⟨fa,hf,e1⟩:=orFail_inv e1
      have ok:=T.cl C l hl name fa hf
      simp only [clOk,Bool.and_eq_true,beq_iff_eq] at ok
      refine method_cls (R.K B) ok.2 (wpAny_mono (Tri.getA B T .raw σ fn _ c1 e0 hc1 s R) (fun r s' x => ?_) fun _ _ z=>z.elim)
      exact x.mono fun g' ρ' _ _ z=>⟨z,.nil⟩
  | @ref i b d hi =>
    obtain ⟨x,hx,e⟩:=getC_inv e
    cases x with
    | inst C fs =>
      obtain ⟨o1,es,n,o2,o3,_⟩:=R.cell hx hi
      exact getM_inst T (R.K B) o1 o2 o3 (.ref hi) e fun q fa z=>by subst q; exact .same R z
    | lst xs =>
      obtain ⟨k,σ1,c1,c2,e1,e2,hc1,hc2⟩:=bd_inv e hc
      cases e2
      obtain ⟨vs,n,o1,_⟩:=R.cell hx hi
      exact getM_list o1 e1 fun q=>by subst q; exact .same R ⟨.bi,.cons (.ref hi) .nil⟩
    | stk xs =>
      obtain ⟨k,σ1,c1,c2,e1,e2,hc1,hc2⟩:=bd_inv e hc
      cases e2
      obtain ⟨vs,n,o1,_⟩:=R.cell hx hi
      exact getM_list o1 e1 fun q=>by subst q; exact .same R ⟨.bi,.cons (.ref hi) .nil⟩
    | sdic fs =>
      obtain ⟨k,σ1,c1,c2,e1,e2,hc1,hc2⟩:=bd_inv e hc
      cases e2
      obtain ⟨o,es,o1,⟨_,_,o2,_⟩,_⟩:=R.cell hx hi
      exact getM_dict o1 o2.1 o2.2.1 e1 fun q=>by subst q; exact .same R ⟨.bi,.cons (.ref hi) .nil⟩
    | dic N gi es =>
      obtain ⟨k,σ1,c1,c2,e1,e2,hc1,hc2⟩:=bd_inv e hc
      cases e2
      obtain ⟨ds,ep,o1,_⟩:=R.cell hx hi
      exact getM_dict o1 rfl rfl e1 fun q=>by subst q; exact .same R ⟨.bi,.cons (.ref hi) .nil⟩
    | _=>cases e
  | @ins C fs b d es n h1 h2 h3=>exact getM_inst T (R.K B) (R.gk h1) (R.gk h2) h3 (.ins h1 h2 h3) e fun q fa z=>by subst q; exact .same R z
  | _=>cases e
end
end
section
def notSlice:Expr→Bool
  | .Slice .. => false
  | _=>true
def subT (tab:Tab) (o i:TV):M TV:=match o with
  | .raw a=>itemD tab (.raw a) i
  | .ref j=>(getC j).bd fun c=>match c with
    | .sdic _=>itemD tab (.ref j) i
    | .dic .. => itemD tab (.ref j) i
    | .lst _=>itemS (.ref j) i
    | .stk _=>itemS (.ref j) i
    | _=>.fail
  | .tup xs=>itemS (.tup xs) i
  | .lst xs=>itemS (.lst xs) i
  | _=>.fail
abbrev XT:=Evs→Nat→AE→Expr→M TV
def cmpF (tab:Tab) (p:Evs) (d:Nat) (ae:AE) (l:Expr) (ops:List CmpOp) (rs:List Expr):M Bool:=match ops with
  | [op]=>match rs with
    | [r]=>chk (!(behindInMarks op r)) ((p.ex d ae l).bd fun a=>(p.ex d ae r).bd fun b=>cmpT tab op a b)
    | _=>.fail
  | _=>.fail
def short (op:BoolOp) (b:Bool):Bool:=match op with
  | .And=>match b with
    | true=>false
    | false=>true
  | .Or=>b
def boF (p:Evs) (d:Nat) (ae:AE) (op:BoolOp) (vs:List Expr) (pos:Pos):M TV:=match vs with
  | []=>.fail
  | x::r=>match r with
    | []=>p.ex d ae x
    | y::r=>(p.ex d ae x).bd fun t=>(truT t).bd fun b=>ifB (short op b) (.ret t) (p.ex d ae (.BoolOp op (y::r) pos))
def uopF (p:Evs) (d:Nat) (ae:AE) (op:UnaryOp) (v:Expr):M TV:=(p.ex d ae v).bd fun t=>match op with
  | .USub=>(numT t).bd fun q=>.ret (mkN q.1 (-q.2))
  | .Not=>(truT t).bd fun b=>.ret (.bool (!b))
  | _=>.fail
def callF (tab:Tab) (p:Evs) (d:Nat) (ae:AE) (fn:Expr) (args:List Expr) (kws:List Keyword) (pos:Pos):M TV:=match kws with
  | _::_=>.fail
  | []=>match fn with
    | .Attribute o name apos=>chk (nsup o) (chk (Nat.beq apos.endLine pos.line) (chk (Nat.ble args.length 25) ((p.ex d ae o).bd fun ov=>(metT tab ov name).bd fun q=>callT tab (p.ex d ae) (p.cl d) q.1 q.2 args)))
    | fn=>(p.ex d ae fn).bd fun fv=>callT tab (p.ex d ae) (p.cl d) fv [] args
def exF (tab:Tab) (xt:XT) (p:Evs) (d:Nat) (ae:AE) (x:Expr):M TV:=match x with
  | .Constant c _ _=>evC c
  | .Name id _=>evName tab ae id
  | .Attribute v a _=>chk (nsup v) ((p.ex d ae v).bd fun o=>getA tab o a)
  | .Subscript v s pos=>ifB (notSlice s) ((p.ex d ae v).bd fun o=>(p.ex d ae s).bd fun i=>subT tab o i) (xt p d ae (.Subscript v s pos))
  | .BinOp l op r _=>(p.ex d ae l).bd fun a=>(p.ex d ae r).bd fun b=>binT op a b
  | .UnaryOp op v _=>uopF p d ae op v
  | .Compare l ops rs _=>(cmpF tab p d ae l ops rs).bd fun c=>.ret (.bool c)
  | .BoolOp op vs pos=>boF p d ae op vs pos
  | .IfExp t b o _=>(p.tr d ae t).bd fun c=>ifB c (p.ex d ae b) (p.ex d ae o)
  | .Tuple xs _ _=>(exs (p.ex d ae) xs).bd newTup
  | .List xs _=>(exs (p.ex d ae) xs).bd newLst
  | .Call fn args kws pos=>callF tab p d ae fn args kws pos
  | x=>xt p d ae x
def trF (tab:Tab) (xt:XT) (p:Evs) (d:Nat) (ae:AE) (x:Expr):M Bool:=match x with
  | .UnaryOp op v pos=>match op with
    | .Not=>(p.tr d ae v).bd fun b=>.ret (!b)
    | _=>.fail
  | .BoolOp op vs pos=>match vs with
    | []=>.fail
    | y::r=>match r with
      | []=>p.tr d ae y
      | z::r=>(p.tr d ae y).bd fun b=>ifB (short op b) (.ret b) (p.tr d ae (.BoolOp op (z::r) pos))
  | .IfExp .. => .fail
  | .Compare l ops rs _=>cmpF tab p d ae l ops rs
  | x=>(exF tab xt p d ae x).bd truT
section
variable (prog:Program) (w:World) (cloT:Nat→CloI) (hb:HB)
inductive FLR (w:World) (g:PH) (ρ:Rho):FL→Flow→Prop
  | next:FLR w g ρ .next .next
  | brk:FLR w g ρ .brk .brk
  | cont:FLR w g ρ .cont .cont
  | ret {t v}:VR w.params g ρ t v→FLR w g ρ (.ret t) (.ret v)
def LoopR (Q:Flow→Shared→Prop):Result→Shared→Prop:=fun r s'=>match r with
  | .ok f=>Q f s'
  | .error _=>False
def TriC (A:Around) (g f:PH) (ρ:Rho) (m:M FL) (c:Code):Prop :=
  ∀ σ a σ' cs,m σ=some (a,σ',cs)→allP cs→∀ s,RelS prog w cloT hb σ g f ρ s→codeAny (model prog w) A c (LoopR (Back prog w cloT hb g f ρ σ' a (FLR w))) s
def TriK (A:Around) (g f:PH) (ρ:Rho) (m:M Unit) (c:Code):Prop :=
  ∀ σ a σ' cs,m σ=some (a,σ',cs)→allP cs→∀ s,RelS prog w cloT hb σ g f ρ s→codeAny (model prog w) A c (LoopR (Back prog w cloT hb g f ρ σ' a (fun _ _ _ f=>f = .next))) s
structure Snd (e:Evs):Prop where
  ex:∀ A d g f ρ ae env x,Room d A→EnvR ρ ae env→Tri prog w cloT hb A g f ρ (e.ex d ae x) (eval x env) (VRp w)
  tr:∀ A d g f ρ ae env x,Room d A→EnvR ρ ae env→Tri prog w cloT hb A g f ρ (e.tr d ae x) (isTrue x env (eval x env)) EqR
  ss:∀ A d g f ρ ae env l,Room d A→EnvR ρ ae env→Tri prog w cloT hb A g f ρ (e.ss d ae l) (execs l env) (FLR w)
  cl:∀ A d g f ρ t v ts vs,Room d A→VR w.params g ρ t v→VRs w.params g ρ ts vs→Tri prog w cloT hb A g f ρ (e.cl d t ts) (call v vs) (VRp w)
  wh:∀ A d g f ρ ae env test body,Room d A→EnvR ρ ae env→TriC prog w cloT hb A g f ρ (e.wh d ae test body) (.whileLoop test body [] env)
  fo:∀ A d g f ρ ae env x px t v body,Room d A→EnvR ρ ae env→VR w.params g ρ t v→TriC prog w cloT hb A g f ρ (e.fo d ae x t body) (.forLoop (.Name x px) v body [] env)
  co:∀ A d g f ρ ae env elt ifs x px t v t' v' iter scope pos,Room d A→EnvR ρ ae env→VR w.params g ρ t v→VR w.params g ρ t' v'→TriK prog w cloT hb A g f ρ (e.co d ae elt ifs x t t') (.compLoop (.ListComp elt [⟨.Name x px,iter,ifs,0⟩] scope pos) 0 v v' env)
def SndX (xt:XT):Prop:=∀ p,Snd prog w cloT hb p→∀ A d g f ρ ae env x,Room d A→EnvR ρ ae env→Tri prog w cloT hb A g f ρ (xt p d ae x) (eval x env) (VRp w)
end
section
variable {prog:Program}{w:World}{cloT:Nat→CloI}{hb:HB}{K:Frag}{tab:Tab}{mg mb:Str→Option Value}
variable {A:Around}{g f g' f':PH}{ρ ρ':Rho}{α β γ δ:Type}{E:Value→Shared→Prop}{s:Shared}{xt:XT}{p:Evs}{d:Nat}{ae:AE}{env:Env}
theorem Tri.chk {b:Bool}{k:M α}{t:Sem β}{P:PH→Rho→α→β→Prop}(h:b=true→Tri prog w cloT hb A g f ρ k t P):Tri prog w cloT hb A g f ρ (Nu.chk b k) t P:=by
  intro σ a σ' c e hc s R
  obtain ⟨hb,e⟩:=chk_inv e
  exact h hb σ a σ' c e hc s R
theorem Tri.ifB {b:Bool}{k l:M α}{t:Sem β}{P:PH→Rho→α→β→Prop}(h:b=true→Tri prog w cloT hb A g f ρ k t P) (h':b=false→Tri prog w cloT hb A g f ρ l t P):Tri prog w cloT hb A g f ρ (Nu.ifB b k l) t P:=by
  intro σ a σ' c e hc s R
  rcases ifB_inv e with ⟨hb,e⟩ | ⟨hb,e⟩
  · exact h hb σ a σ' c e hc s R
  · exact h' hb σ a σ' c e hc s R
theorem Tri.retMap {m:M α}{k:α→γ}{t:Sem β}{P:PH→Rho→α→β→Prop}{P':PH→Rho→γ→β→Prop}(h:Tri prog w cloT hb A g f ρ m t P) (hp:∀ g ρ a b,P g ρ a b→P' g ρ (k a) b):Tri prog w cloT hb A g f ρ (m.bd fun a=>.ret (k a)) t P':=by
  intro σ a σ' c e hc s R
  obtain ⟨x,σ1,c1,c2,e1,e2,hc1,hc2⟩:=bd_inv e hc
  cases e2
  exact wpAny_mono (h σ x _ c1 e1 hc1 s R) (fun b s' y=>y.mono fun g' ρ' _ _ z=>hp _ _ _ _ z) fun _ _ z=>z
theorem Tri.post {m:M α}{t:Sem β}{u:β→δ}{P:PH→Rho→α→β→Prop}{P':PH→Rho→α→δ→Prop}(h:Tri prog w cloT hb A g f ρ m t P) (hp:∀ g ρ a b,P g ρ a b→P' g ρ a (u b)):Tri prog w cloT hb A g f ρ m (t >>= fun b=>pure (u b)) P':=h.behind (fun _=>quick_pure) hp
theorem getitem_false {v:Value}{Q:Bool→Shared→Prop}(h:s.TypeIs v "list" ∨ s.TypeIs v "tuple" ∨ s.TypeIs v "dict") (hn:v ≠ .builtin "sys.modules#opaque") (q:Q false s):wpAny (model prog w) A (getitemInPython v) Q E s:=by
  rw [getitemInPython_of_ne hn]
  rcases h with h | h | h
  · exact wpAny_bind (wpAny_specialOf h slot_list_getitem.lookup (wpAny_pure q))
  · exact wpAny_bind (wpAny_specialOf h PyProof.Rows.slot_tuple_getitem.lookup (wpAny_pure q))
  · exact wpAny_bind (wpAny_specialOf h slot_dict_getitem.lookup (wpAny_pure q))
theorem itemS_type {o i:TV}{v u:Value}{σ σ':St}{a:TV}{c:List Prop}(R:RelS prog w cloT hb σ g f ρ s) (h:VR w.params g ρ o v) (hi:VR w.params g ρ i u) (e:itemS o i σ=some (a,σ',c)) (hc:allP c):∃ b,v = .ref b∧(s.TypeIs v "list" ∨ s.TypeIs v "tuple"):=by
  obtain ⟨k,σ1,c1,c2,e1,e2,hc1,hc2⟩:=bd_inv e hc
  obtain ⟨⟨r,rfl⟩,tk,rfl⟩:=asInt_at hi e1 hc1
  have R1:RelS prog w cloT hb ⟨σ.cells,σ.next,r⟩ g f ρ s:=R.dirs
  match k,e2 with
  | .ofNat j,e2 =>
    obtain ⟨p,σ2,c3,c4,e3,e4,hc3,hc4⟩:=bd_inv e2 hc2
    obtain ⟨rfl,b,vs,n,rfl,o1,o2⟩:=seqT_at R1 h e3
    refine ⟨b,rfl,?_⟩
    cases hp:p.1 with
    | false=>rw [hp] at o1; exact .inl ⟨_,o1,rfl⟩
    | true=>rw [hp] at o1; exact .inr ⟨_,o1,rfl⟩
  | .negSucc 0,e2 =>
    obtain ⟨p,σ2,c3,c4,e3,e4,hc3,hc4⟩:=bd_inv e2 hc2
    obtain ⟨rfl,rfl,hl,b,d,vs,n,hr,rfl,o1,o2,o3⟩:=stkT_at R1 h e3
    exact ⟨b,rfl,.inl ⟨_,o1,rfl⟩⟩
theorem itemD_type (B:BaseH K mg mb hb) (T:TabOk w.params K tab mg mb) {o i:TV}{v:Value}{σ σ':St}{a:TV}{c:List Prop}(R:RelS prog w cloT hb σ g f ρ s) (h:VR w.params g ρ o v) (e:itemD tab o i σ=some (a,σ',c)):∃ b,v = .ref b∧s.TypeIs v "dict" := by
  obtain ⟨D,σ1,c1,c2,e1,e2,rfl⟩:=M.bd_some e
  obtain ⟨rfl,b,F,rfl,m,low,ok⟩:=dictT_at B T R h e1
  exact ⟨b,rfl,m.typeIs⟩
theorem subT_at (B:BaseH K mg mb hb) (T:TabOk w.params K tab mg mb) {o i:TV}{v u:Value}{σ σ':St}{a:TV}{c:List Prop}(R:RelS prog w cloT hb σ g f ρ s) (h:VR w.params g ρ o v) (hi:VR w.params g ρ i u) (e:subT tab o i σ=some (a,σ',c)) (hc:allP c) :
    (∃ b,v = .ref b∧(s.TypeIs v "list" ∨ s.TypeIs v "tuple" ∨ s.TypeIs v "dict"))∧wpAny (model prog w) A (getItem v u) (Back prog w cloT hb g f ρ σ' a (VRp w)) Fa s:=by
  unfold subT at e
  have S:∀ {o:TV}{v:Value},VR w.params g ρ o v→itemS o i σ=some (a,σ',c)→(∃ b,v = .ref b∧(s.TypeIs v "list" ∨ s.TypeIs v "tuple" ∨ s.TypeIs v "dict"))∧wpAny (model prog w) A (getItem v u) (Back prog w cloT hb g f ρ σ' a (VRp w)) Fa s:=fun h e=>by
    obtain ⟨b,q,t⟩:=itemS_type R h hi e hc
    exact ⟨⟨b,q,t.imp id .inl⟩,Tri.itemS h hi σ a σ' c e hc s R⟩
  have D:∀ {o:TV}{v:Value},VR w.params g ρ o v→itemD tab o i σ=some (a,σ',c)→(∃ b,v = .ref b∧(s.TypeIs v "list" ∨ s.TypeIs v "tuple" ∨ s.TypeIs v "dict"))∧wpAny (model prog w) A (getItem v u) (Back prog w cloT hb g f ρ σ' a (VRp w)) Fa s:=fun h e=>by
    obtain ⟨b,q,t⟩:=itemD_type B T R h e
    exact ⟨⟨b,q,.inr (.inr t)⟩,Tri.itemD B T h hi σ a σ' c e hc s R⟩
  cases h with
  | raw=>exact D .raw e
  | ref hj =>
    obtain ⟨x,hx,e⟩:=getC_inv e
    cases x with
    | sdic=>exact D (.ref hj) e
    | dic=>exact D (.ref hj) e
    | lst=>exact S (.ref hj) e
    | stk=>exact S (.ref hj) e
    | _=>cases e
  | tup h1 h2=>exact S (.tup h1 h2) e
  | lst h1 h2=>exact S (.lst h1 h2) e
  | _=>cases e
theorem wp_operate {M:Model}{vs:List Value}{t:Sem Value}{Q:Value→Shared→Prop}(h:wpAny M A t Q E s):wpAny M A (operate vs t) Q E s:=fun Γ p hΓ=>by rw [Sem.wp_operate]; exact h Γ p hΓ
theorem subscripted_of {sl:Expr}{o i:Value}(h:notSlice sl=true):subscripted sl false o i=operate [o,i] (getItem o i):=by
  cases sl<;>first | rfl | cases h
theorem Tri.sub (B:BaseH K mg mb hb) (T:TabOk w.params K tab mg mb) {sl vx:Expr}{o i:TV}{v u:Value}(hs:notSlice sl=true) (h:VR w.params g ρ o v) (hi:VR w.params g ρ i u) :
    Tri prog w cloT hb A g f ρ (subT tab o i) (do let r ← subscripted sl (← getitemInPython v) v u; letTemporaryGo vx v r; pure r) (VRp w):=by
  intro σ a σ' c e hc s R
  obtain ⟨⟨b,rfl,t⟩,wp⟩:=subT_at (A:=A) B T R h hi e hc
  refine wpAny_bind (getitem_false t (by simp) ?_)
  rw [subscripted_of hs]
  refine wpAny_bind (wp_operate (wpAny_mono wp (fun r s' x => ?_) fun _ _ z=>z))
  exact wpAny_bind (wpAny_letTemporaryGo (wpAny_pure x))
theorem Tri.cmpC (B:BaseH K mg mb hb) (T:TabOk w.params K tab mg mb) (S:Snd prog w cloT hb p) (r:Room d A) (N:EnvR ρ ae env) {l:Expr}{ops:List CmpOp}{rs:List Expr}{pos:Pos} :
    Tri prog w cloT hb A g f ρ (cmpF tab p d ae l ops rs) (do compareChain pos (← eval l env) ops (markedEach ops rs (evalEach rs env))) BoolR:=by
  unfold cmpF
  rcases ops with _ | ⟨op,_ | _⟩<;>first | exact .fail | skip
  rcases rs with _ | ⟨x,_ | _⟩<;>first | exact .fail | skip
  refine .chk fun hm => ?_
  refine .bind (S.ex A d g f ρ ae env l r N) fun g1 f1 ρ1 a v E1 V1 => ?_
  show Tri _ _ _ _ _ _ _ _ _ (do let rv ← PySem.holding [v] (markedBehindIn op x (eval x env)); standAt pos; PySem.operate [v,rv] (compareOp op v rv)) _
  rw [markedBehindIn_of_false (by simpa using hm)]
  refine .bind (Tri.holding (S.ex A d g1 f1 ρ1 ae env x r (N.mono E1.rl))) fun g2 f2 ρ2 b u E2 V2 => ?_
  exact .at_ (by
    intro σ a' σ' c e hc s R
    exact wp_operate (Tri.cmp B T r (V1.mono E2.gl E2.rl) V2 σ a' σ' c e hc s R))
theorem Tri.testC (B:BaseH K mg mb hb) (T:TabOk w.params K tab mg mb) (S:Snd prog w cloT hb p) (r:Room d A) (N:EnvR ρ ae env) {l:Expr}{ops:List CmpOp}{rs:List Expr}{pos:Pos} :
    Tri prog w cloT hb A g f ρ (cmpF tab p d ae l ops rs) (do testChain pos (← eval l env) ops (markedEach ops rs (evalEach rs env))) EqR:=by
  unfold cmpF
  rcases ops with _ | ⟨op,_ | _⟩<;>first | exact .fail | skip
  rcases rs with _ | ⟨x,_ | _⟩<;>first | exact .fail | skip
  refine .chk fun hm => ?_
  refine .bind (S.ex A d g f ρ ae env l r N) fun g1 f1 ρ1 a v E1 V1 => ?_
  show Tri _ _ _ _ _ _ _ _ _ (do let rv ← PySem.holding [v] (markedBehindIn op x (eval x env)); standAt pos; let c ← PySem.operate [v,rv] (compareOp op v rv); PySem.holding [c] (truthy c)) _
  rw [markedBehindIn_of_false (by simpa using hm)]
  refine .bind (Tri.holding (S.ex A d g1 f1 ρ1 ae env x r (N.mono E1.rl))) fun g2 f2 ρ2 b u E2 V2 => ?_
  refine .at_ ?_
  intro σ a' σ' c e hc s R
  refine wpAny_bind (wp_operate (wpAny_mono (Tri.cmp B T r (V1.mono E2.gl E2.rl) V2 σ a' σ' c e hc s R) (fun v s' x => ?_) fun _ _ z=>z))
  obtain ⟨g3,f3,ρ3,E3,R3,rfl⟩:=x
  exact wpAny_holding (wpAny_truthy_bool ⟨g3,f3,ρ3,E3,R3,rfl⟩)
theorem Tri.bo (S:Snd prog w cloT hb p) (r:Room d A) (N:EnvR ρ ae env) {op:BoolOp}{vs:List Expr}{pos:Pos} :
    Tri prog w cloT hb A g f ρ (boF p d ae op vs pos) (eval (.BoolOp op vs pos) env) (VRp w):=by
  unfold boF
  rcases vs with _ | ⟨x,_ | ⟨y,l⟩⟩
  · exact .fail
  · exact S.ex A d g f ρ ae env x r N
  · show Tri _ _ _ _ _ _ _ _ _ (do let v ← eval x env; standAt pos; let t ← PySem.holding [v] (truthy v); match op,t with | .And,false | .Or,true=>pure v | _,_=>eval (.BoolOp op (y::l) pos) env) _
    refine .bind (S.ex A d g f ρ ae env x r N) fun g1 f1 ρ1 a v E1 V1 => ?_
    refine .at_ (.bind (Tri.holding (Tri.tru V1)) fun g2 f2 ρ2 b u E2 V2 => ?_)
    have V2:u=b:=V2
    subst V2
    refine .ifB (fun h => ?_) fun h => ?_
    · cases op<;>cases u<;>first | (cases h; done) | exact Tri.ret (V1.mono E2.gl E2.rl)
    · cases op<;>cases u<;>first | (cases h; done) | exact S.ex A d g2 f2 ρ2 ae env _ r (N.mono (Rho.le_trans E1.rl E2.rl))
theorem Tri.uop (S:Snd prog w cloT hb p) (r:Room d A) (N:EnvR ρ ae env) {op:UnaryOp}{v:Expr}{pos:Pos} :
    Tri prog w cloT hb A g f ρ (uopF p d ae op v) (eval (.UnaryOp op v pos) env) (VRp w):=by
  unfold uopF
  show Tri _ _ _ _ _ _ _ _ _ (do let x ← eval v env; standAt pos; PySem.holding [x] (unaryOp op x)) _
  refine .bind (S.ex A d g f ρ ae env v r N) fun g1 f1 ρ1 a v E1 V1 => ?_
  refine .at_ (Tri.holding ?_)
  cases op<;>first | exact .fail | skip
  · rw [show unaryOp .Not v=PySem.holding [v] (do return Value.bool (!(← PySem.truthy v))) from rfl]
    refine Tri.holding ?_
    intro σ a' σ' c e hc s R
    obtain ⟨x,σ1,c1,c2,e1,e2,hc1,hc2⟩:=bd_inv e hc
    cases e2
    refine wpAny_bind (wpAny_mono (Tri.tru V1 σ x _ c1 e1 hc1 s R) (fun b s' z=>wpAny_pure ?_) fun _ _ z=>z)
    obtain ⟨g3,f3,ρ3,E3,R3,rfl⟩:=z
    exact ⟨g3,f3,ρ3,E3,R3,.bool⟩
  · intro σ a' σ' c e hc s R
    obtain ⟨x,σ1,c1,c2,e1,e2,hc1,hc2⟩:=bd_inv e hc
    obtain ⟨rfl,tk,rfl⟩:=numT_at V1 e1
    cases e2
    exact PyProof.Rows.neg_int (.same (R.toks rfl) .mkN)
end
end
section
section
variable {prog:Program}{w:World}{cloT:Nat→CloI}{hb:HB}{K:Frag}{tab:Tab}{mg mb:Str→Option Value}
variable {A:Around}{g f g' f':PH}{ρ ρ':Rho}{α β γ δ:Type}{E:Value→Shared→Prop}{s:Shared}{xt:XT}{p:Evs}{d:Nat}{ae:AE}{env:Env}
theorem form_ok {l:List Expr}{env:Env}{pos:Pos}(h:l.all notStar=true) (hz:Nat.ble l.length 25=true):methodCallForm (l.length+([]:List Keyword).length) (backTo pos (starEach l env)) (backToKw pos (keywordEach [] env))=true:=by
  unfold methodCallForm
  have:=ble_k hz
  rw [(starEach_plain (env:=env) (pos:=pos) h).2]
  simp [backToKw,keywordEach]
  omega
theorem Tri.callA (B:BaseH K mg mb hb) (T:TabOk w.params K tab mg mb) (S:Snd prog w cloT hb p) (r:Room d A) (N:EnvR ρ ae env) {o:Expr}{name:Str}{apos pos:Pos}{args:List Expr}(h1:nsup o=true) (h2:Nat.beq apos.endLine pos.line=true) (h3:Nat.ble args.length 25=true) :
    Tri prog w cloT hb A g f ρ ((p.ex d ae o).bd fun ov=>(metT tab ov name).bd fun q=>callT tab (p.ex d ae) (p.cl d) q.1 q.2 args) (eval (.Call (.Attribute o name apos) args [] pos) env) (VRp w):=by
  intro σ a σ' c e hc s R
  have hl:args.all notStar=true:=by
    obtain ⟨_,σ1,c1,c2,e1,e2,hc1,hc2⟩:=bd_inv e hc
    obtain ⟨_,σ2,c3,c4,e3,e4,hc3,hc4⟩:=bd_inv e2 hc2
    exact (chk_inv e4).1
  have key:Tri prog w cloT hb A g f ρ ((p.ex d ae o).bd fun ov=>(metT tab ov name).bd fun q=>callT tab (p.ex d ae) (p.cl d) q.1 q.2 args) (eval (.Call (.Attribute o name apos) args [] pos) env) (VRp w):=by
    rw [arm_eval_Call,base_of h1]
    refine .bind (S.ex A d g f ρ ae env o r N) fun g1 f1 ρ1 ov v E1 V1 => ?_
    refine .at_ ?_
    unfold methodCall
    rw [form_ok hl h3]
    refine .bind (Tri.holding (Tri.met B T V1)) fun g2 f2 ρ2 q u E2 V2 => ?_
    have hpos:methodCallPos true o env apos pos=pure pos:=by
      unfold methodCallPos
      simp [Nat.eq_of_beq_eq_true h2]
    obtain ⟨u1,u2⟩:=u
    dsimp only
    rw [hpos]
    refine .quick quick_pure ?_
    exact Tri.callW B T (fun g f ρ x N=>S.ex A d g f ρ ae env x r N) (fun g f ρ t v ts vs h h'=>S.cl A d g f ρ t v ts vs r h h') (N.mono (Rho.le_trans E1.rl E2.rl)) V2.1 V2.2
  exact key σ a σ' c e hc s R
theorem Tri.callN (B:BaseH K mg mb hb) (T:TabOk w.params K tab mg mb) (S:Snd prog w cloT hb p) (r:Room d A) (N:EnvR ρ ae env) {fn:Expr}{pos:Pos}{args:List Expr}
    (he:eval (.Call fn args [] pos) env=(do callWith pos (← eval fn env) [] (backTo pos (starEach args env)) [])) :
    Tri prog w cloT hb A g f ρ ((p.ex d ae fn).bd fun fv=>callT tab (p.ex d ae) (p.cl d) fv [] args) (eval (.Call fn args [] pos) env) (VRp w):=by
  rw [he]
  refine .bind (S.ex A d g f ρ ae env fn r N) fun g1 f1 ρ1 ov v E1 V1 => ?_
  exact Tri.callW B T (fun g f ρ x N=>S.ex A d g f ρ ae env x r N) (fun g f ρ t v ts vs h h'=>S.cl A d g f ρ t v ts vs r h h') (N.mono E1.rl) V1 .nil
theorem Tri.callE (B:BaseH K mg mb hb) (T:TabOk w.params K tab mg mb) (S:Snd prog w cloT hb p) (r:Room d A) (N:EnvR ρ ae env) {fn:Expr}{pos:Pos}{args:List Expr}{kws:List Keyword} :
    Tri prog w cloT hb A g f ρ (callF tab p d ae fn args kws pos) (eval (.Call fn args kws pos) env) (VRp w):=by
  unfold callF
  cases kws with
  | cons _ _=>exact .fail
  | nil =>
    cases fn with
    | Attribute o name apos=>exact .chk fun h1=>.chk fun h2=>.chk fun h3=>Tri.callA B T S r N h1 h2 h3
    | _=>exact Tri.callN B T S r N rfl
theorem Tri.exF (B:BaseH K mg mb hb) (T:TabOk w.params K tab mg mb) (X:SndX prog w cloT hb xt) (S:Snd prog w cloT hb p) (r:Room d A) (N:EnvR ρ ae env) {x:Expr} :
    Tri prog w cloT hb A g f ρ (exF tab xt p d ae x) (eval x env) (VRp w):=by
  unfold Nu.exF
  cases x with
  | Constant c k pos=>exact Tri.const
  | Name id pos=>exact Tri.name B T N
  | Attribute v a pos =>
    refine .chk fun h => ?_
    rw [arm_eval_Attribute,base_of h]
    refine .bind (S.ex A d g f ρ ae env v r N) fun g1 f1 ρ1 o u E1 V1 => ?_
    refine .at_ ?_
    show Tri _ _ _ _ _ _ _ _ _ (PySem.holding [u] (getAttr u a true) >>= fun r=>letTemporaryGo v u r >>= fun _=>pure r) _
    intro σ a' σ' c e hc s R
    exact wpAny_bind (wpAny_holding (wpAny_mono (Tri.getA B T V1 σ a' σ' c e hc s R) (fun r s' x=>wpAny_bind (wpAny_letTemporaryGo (wpAny_pure x))) fun _ _ z=>z))
  | Subscript v sl pos =>
    refine .ifB (fun h => ?_) fun _=>X p S A d g f ρ ae env _ r N
    rw [arm_eval_Subscript]
    refine .bind (S.ex A d g f ρ ae env v r N) fun g1 f1 ρ1 o u E1 V1 => ?_
    refine .bind (Tri.holding (S.ex A d g1 f1 ρ1 ae env sl r (N.mono E1.rl))) fun g2 f2 ρ2 i z E2 V2 => ?_
    exact .at_ (Tri.sub B T h (V1.mono E2.gl E2.rl) V2)
  | BinOp l op r' pos =>
    rw [eval_BinOp]
    refine .bind (S.ex A d g f ρ ae env l r N) fun g1 f1 ρ1 o u E1 V1 => ?_
    refine .bind (Tri.holding (S.ex A d g1 f1 ρ1 ae env r' r (N.mono E1.rl))) fun g2 f2 ρ2 i z E2 V2 => ?_
    exact .at_ (Tri.operate (Tri.binT (V1.mono E2.gl E2.rl) V2))
  | UnaryOp op v pos=>exact Tri.uop S r N
  | Compare l ops rs pos =>
    refine Tri.retMap (Tri.cmpC B T S r N (pos:=pos)) (fun g ρ b v h => ?_)
    have h:v = .bool b:=h
    rw [h]; exact .bool
  | BoolOp op vs pos=>exact Tri.bo S r N
  | IfExp t b o pos =>
    rw [arm_eval_IfExp]
    refine .bind (S.tr A d g f ρ ae env t r N) fun g1 f1 ρ1 c u E1 V1 => ?_
    have V1:u=c:=V1
    subst V1
    refine .ifB (fun h => ?_) fun h => ?_
    · subst h; exact S.ex A d g1 f1 ρ1 ae env b r (N.mono E1.rl)
    · subst h; exact S.ex A d g1 f1 ρ1 ae env o r (N.mono E1.rl)
  | Tuple xs k pos =>
    rw [arm_eval_Tuple]
    refine .at_ (.bind (Tri.exs (fun g f ρ x N=>S.ex A d g f ρ ae env x r N) N) fun g1 f1 ρ1 c u E1 V1 => ?_)
    exact Tri.newTup V1
  | List xs pos =>
    rw [arm_eval_List]
    refine .at_ (.bind (Tri.exs (fun g f ρ x N=>S.ex A d g f ρ ae env x r N) N) fun g1 f1 ρ1 c u E1 V1 => ?_)
    exact Tri.newLst V1
  | Call fn args kws pos=>exact Tri.callE B T S r N
  | _=>exact X p S A d g f ρ ae env _ r N
theorem Tri.bdBool {m:M Bool}{t:Sem Bool}(h:Tri prog w cloT hb A g f ρ m t EqR):Tri prog w cloT hb A g f ρ (m.bd fun b=>.ret (!b)) (do return !(← t)) EqR:=by
  intro σ a σ' c e hc s R
  obtain ⟨x,σ1,c1,c2,e1,e2,hc1,hc2⟩:=bd_inv e hc
  cases e2
  refine wpAny_bind (wpAny_mono (h σ x _ c1 e1 hc1 s R) (fun b s' z=>wpAny_pure ?_) fun _ _ z=>z)
  obtain ⟨g3,f3,ρ3,E3,R3,z⟩:=z
  have z:b=x:=z
  subst z
  exact ⟨g3,f3,ρ3,E3,R3,rfl⟩
theorem isTrue_dflt {m:M TV}{x:Expr}{pos:Pos}(h:Tri prog w cloT hb A g f ρ m (eval x env) (VRp w)):Tri prog w cloT hb A g f ρ (m.bd truT) (do let v ← eval x env; standAt pos; PySem.holding [v] (truthy v)) EqR:=by
  refine .bind h fun g1 f1 ρ1 c u E1 V1 => ?_
  exact .at_ (Tri.holding (Tri.tru V1))
theorem Tri.trF (B:BaseH K mg mb hb) (T:TabOk w.params K tab mg mb) (X:SndX prog w cloT hb xt) (S:Snd prog w cloT hb p) (r:Room d A) (N:EnvR ρ ae env) {x:Expr} :
    Tri prog w cloT hb A g f ρ (trF tab xt p d ae x) (isTrue x env (eval x env)) EqR:=by
  have dflt:Tri prog w cloT hb A g f ρ ((Nu.exF tab xt p d ae x).bd truT) (do let v ← eval x env; standAt x.pos; PySem.holding [v] (truthy v)) EqR:=isTrue_dflt (Tri.exF B T X S r N)
  unfold Nu.trF
  cases x with
  | UnaryOp op v pos =>
    cases op with
    | Not=>exact Tri.bdBool (S.tr A d g f ρ ae env v r N)
    | _=>exact .fail
  | BoolOp op vs pos =>
    rcases vs with _ | ⟨y,_ | ⟨z,l⟩⟩
    · exact .fail
    · show Tri _ _ _ _ _ _ _ _ _ (allTrue op [y] env) _
      have e:allTrue op [y] env=(do match op,← isTrue y env (eval y env) with
        | .And,false=>pure false
        | .Or,true=>pure true
        | _,_=>pure (op == .And)):=rfl
      rw [e]
      intro σ a σ' c e hc s R
      refine wpAny_bind (wpAny_mono (S.tr A d g f ρ ae env y r N σ a σ' c e hc s R) (fun b s' z => ?_) fun _ _ z=>z)
      obtain ⟨g3,f3,ρ3,E3,R3,z⟩:=z
      have z:b=a:=z
      subst z
      cases op<;>cases b<;>exact wpAny_pure ⟨g3,f3,ρ3,E3,R3,rfl⟩
    · show Tri _ _ _ _ _ _ _ _ _ (allTrue op (y::z::l) env) _
      have e:allTrue op (y::z::l) env=(do match op,← isTrue y env (eval y env) with
        | .And,false=>pure false
        | .Or,true=>pure true
        | _,_=>isTrue (.BoolOp op (z::l) pos) env (eval (.BoolOp op (z::l) pos) env)):=rfl
      rw [e]
      refine .bind (S.tr A d g f ρ ae env y r N) fun g1 f1 ρ1 c u E1 V1 => ?_
      have V1:u=c:=V1
      subst V1
      refine .ifB (fun h => ?_) fun h => ?_
      · cases op<;>cases u<;>first | (cases h; done) | exact Tri.ret rfl
      · cases op<;>cases u<;>first | (cases h; done) | exact S.tr A d g1 f1 ρ1 ae env _ r (N.mono E1.rl)
  | IfExp t b o pos=>exact .fail
  | Compare l ops rs pos=>exact Tri.testC B T S r N
  | _=>exact dflt
end
end
section
def iterT (t:TV):M TV:=match t with
  | .lst xs=>(newC (.itr false (.lst xs) 0)).bd fun i=>.ret (.ref i)
  | .tup xs=>(newC (.itr true (.tup xs) 0)).bd fun i=>.ret (.ref i)
  | .ref i=>(getC i).bd fun c=>match c with
    | .lst _=>(newC (.itr false (.ref i) 0)).bd fun j=>.ret (.ref j)
    | .rng n=>match n with
      | .ofNat m=>chk (Nat.ble m 1000) ((newC (.rit 0 (.ofNat m))).bd fun j=>.ret (.ref j))
      | _=>.fail
    | .itr false _ _=>.ret (.ref i)
    | _=>.fail
  | _=>.fail
def nextT (t:TV):M (Option TV):=match t with
  | .ref i=>(getC i).bd fun c=>match c with
    | .itr tup src k=>(seqT src).bd fun p=>ifB p.1 (chk tup (match p.2[k]? with
        | some x=>(putC i (.itr tup src (k+1))).bd fun _=>.ret (some x)
        | none=>(dropC i).bd fun _=>.ret none)) (chk (!tup) (match p.2[k]? with
        | some x=>(putC i (.itr tup src (k+1))).bd fun _=>.ret (some x)
        | none=>(dropC i).bd fun _=>.ret none))
    | .rit x l=>match l with
      | .ofNat 0=>(dropC i).bd fun _=>.ret none
      | .ofNat (n+1)=>(putC i (.rit (x+1) (.ofNat n))).bd fun _=>.ret (some (.int x))
      | _=>.fail
    | _=>.fail
  | _=>.fail
def rangeT (t:TV):M TV:=(asInt t).bd fun n=>(newC (.rng n)).bd fun i=>.ret (.ref i)
section
variable {prog:Program}{w:World}{cloT:Nat→CloI}{hb:HB}{K:Frag}{tab:Tab}{mg mb:Str→Option Value}
variable {A:Around}{g f g' f':PH}{ρ ρ':Rho}{α β γ δ:Type}{E:Value→Shared→Prop}{s:Shared}{xt:XT}{p:Evs}{d:Nat}{ae:AE}{env:Env}
theorem RelS.newOb {σ:St}{c:Cell}{o:Obj}{k:Nat}(R:RelS prog w cloT hb σ g f ρ s) (h2:c.two=false) (hf:o.isFreed=false) (hc:∀ ρ',ρ.le ρ'→CellOb prog w cloT g ρ' s.heap.objs.size 0 (some o) none c) :
    Back prog w cloT hb g f ρ ⟨(σ.next,c)::σ.cells,σ.next+1,σ.dirs⟩ (TV.ref σ.next) (VRp w) (.ref s.heap.objs.size) { s with heap:=s.heap.push o,toks:=k }:=by
  obtain ⟨R',E'⟩:=R.new (c:=c) (a:=s.heap.objs.size) (d:=0) (s':={ s with heap:=s.heap.push o,toks:=k }) (push_k _ _) (fresh_none _) (fun t=>by rw [h2] at t; cases t)
    (by
      show CellOb prog w cloT g _ s.heap.objs.size 0 ((s.heap.push o).get? s.heap.objs.size) _ c
      rw [push_at _ _ hf]
      exact CellOb.one h2 (hc _ (Rho.add_le (R.n _ (Nat.le_refl _)))))
  exact ⟨_,_,_,E',R',.ref Rho.add_at⟩
theorem range_size {m:Nat}:Builtin.Range.rangeSize 0 (m:Int) 1=m:=by
  rw [rangeSize_one]; split<;>omega
theorem Tri.iter {t:TV}{v:Value}(h:VR w.params g ρ t v):Tri prog w cloT hb A g f ρ (iterT t) (pyIter v) (VRp w):=by
  intro σ a σ' c e hc s R
  unfold iterT at e
  cases h with
  | @lst xs b vs n h1 h2 =>
    have e:=newC_inv e
    cases e
    refine wpAny_pyIter_list (exact_list (R.gk h1)) (R.newOb rfl rfl fun ρ' hr=>⟨b,_,rfl,rfl,rfl,(VR.lst h1 h2).mono (PH.le_refl _) hr⟩)
  | @tup xs b vs n h1 h2 =>
    have e:=newC_inv e
    cases e
    refine wpAny_pyIter_tuple ⟨_,R.gk h1,rfl,_,rfl⟩ (R.newOb rfl rfl fun ρ' hr=>⟨b,_,rfl,rfl,rfl,(VR.tup h1 h2).mono (PH.le_refl _) hr⟩)
  | @ref i b d hi =>
    obtain ⟨x,hx,e⟩:=getC_inv e
    cases x with
    | lst xs =>
      have e:=newC_inv e
      cases e
      obtain ⟨vs,n,o1,_⟩:=R.cell hx hi
      exact wpAny_pyIter_list (exact_list o1) (R.newOb rfl rfl fun ρ' hr=>⟨b,_,rfl,rfl,rfl,(VR.ref hi).mono (PH.le_refl _) hr⟩)
    | rng n =>
      cases n with
      | negSucc _=>cases e
      | ofNat m =>
        obtain ⟨hz,e⟩:=chk_inv e
        have e:=newC_inv e
        cases e
        obtain ⟨t,u,v,o1⟩:=R.cell hx hi
        have hz:=ble_k hz
        refine wpAny_pyIter_range (a:=0) (b:=(m:Int)) (c:=1) o1 (small_one (by decide) (by decide) (by omega) (by omega)) ?_
        rw [range_size]
        exact R.newOb rfl rfl fun ρ' hr=>rfl
    | itr tup src k =>
      cases tup with
      | true=>cases e
      | false =>
        cases e
        obtain ⟨a,o,o1,o2,o3,_⟩:=R.cell hx hi
        exact wpAny_pyIter_listiter ⟨o,o1,o2,o3⟩ (.same R (.ref hi))
    | _=>cases e
  | _=>cases e
theorem RelS.drop {σ:St}{i a d:Nat}{c:Cell}{s':Shared}(R:RelS prog w cloT hb σ g f ρ s) (hl:lkC σ.cells i=some c) (hi:ρ i=some (a,d)) (ht:c.two=false) (k:∀ b o,b≠a→s.heap.get? b=some o→s'.heap.get? b=some o) (e':Same s s':=by exact ⟨rfl,rfl⟩) :
    RelS prog w cloT hb ⟨rmC σ.cells i,σ.next,σ.dirs⟩ g f ρ s':=by
  obtain ⟨l1,l2,e,hp⟩:=rmC_split hl
  have hA:adr ρ (i,c)=[a]:=by unfold adr; dsimp only; rw [hi]; dsimp only; rw [ht]; rfl
  have ain:a∈adrs ρ σ.cells:=by rw [e,adrs_append,adrs_cons,hA]; simp
  have nd:=R.r.nd
  rw [e,adrs_append,adrs_cons,hA] at nd
  obtain ⟨_,nd2,nd3⟩:=List.nodup_append.mp nd
  have n1:a∉adrs ρ (rmC σ.cells i):=by
    rw [hp,adrs_append]
    intro q
    rcases List.mem_append.mp q with q | q
    · exact nd3 a q a (by simp) rfl
    · exact (List.nodup_append.mp nd2).2.2 a (by simp) a q rfl
  exact ⟨(R.r.less (rmC_sub i _)).other k (R.r.fresh a ain) n1,R.n,R.b0.go e'⟩
def OptV1 (w:World):PH→Rho→Option TV→Option Value→Prop:=fun g ρ t v=>match t,v with
  | none,none=>True
  | some t,some v=>VR w.params g ρ t v
  | _,_=>False
theorem extBut_k {y:Addr}{h h':Heap}(hs:Heap.ExtBut y h h'):∀ b o,b≠y→h.get? b=some o→h'.get? b=some o:=fun b o n e=>hs b o n e
theorem Tri.nextI {t:TV}{v:Value}(hh:A.handled=none) (h:VR w.params g ρ t v):Tri prog w cloT hb A g f ρ (nextT t) (pyNext v) (OptV1 w):=by
  intro σ a σ' c e hc s R
  unfold nextT at e
  cases h with
  | @ref i b d hi =>
    obtain ⟨x,hx,e⟩:=getC_inv e
    cases x with
    | itr tup src k =>
      obtain ⟨la,o,o1,o2,o3,o4⟩:=R.cell hx hi
      obtain ⟨q,σ1,c1,c2,e1,e2,hc1,hc2⟩:=bd_inv e hc
      obtain ⟨rfl,l,vs,n,hl,p1,p2⟩:=seqT_at R o4 e1
      cases hl
      rcases ifB_inv e2 with ⟨h1,e2⟩ | ⟨h1,e2⟩
      · obtain ⟨rfl,e2⟩:=chk_inv e2
        rw [h1] at p1
        cases hk:q.2[k]? with
        | some y =>
          rw [hk] at e2
          have e2:=putC_inv e2
          cases e2
          obtain ⟨z,hz,zr⟩:=p2.getA hk
          refine wpAny_pyNext_tuple_item ⟨o,o1,o2,o3⟩ ⟨_,p1,rfl,_,rfl⟩ hz fun h' hi' hs => ?_
          obtain ⟨o',u1,u2,u3⟩:=hi'
          exact .same (R.put hx hi rfl (.inl rfl) (sameBut_k hs) ⟨la,o',u1,u2,u3,o4⟩) zr
        | none =>
          rw [hk] at e2
          have e2:=dropC_inv e2
          cases e2
          have hn:vs[k]?=none:=by
            rw [Array.getElem?_eq_none_iff,p2.sizeA]
            exact List.getElem?_eq_none_iff.mp hk
          refine wpAny_pyNext_tuple_end hh ⟨o,o1,o2,o3⟩ ⟨_,p1,rfl,_,rfl⟩ hn fun h' hs => ?_
          exact .same (R.drop hx hi rfl (extBut_k hs)) trivial
      · obtain ⟨ht,e2⟩:=chk_inv e2
        have ht:tup=false:=by simpa using ht
        subst ht
        rw [h1] at p1
        cases hk:q.2[k]? with
        | some y =>
          rw [hk] at e2
          have e2:=putC_inv e2
          cases e2
          obtain ⟨z,hz,zr⟩:=p2.getA hk
          refine wpAny_pyNext_list_item ⟨o,o1,o2,o3⟩ (exact_list p1) hz fun h' hi' hs => ?_
          obtain ⟨o',u1,u2,u3⟩:=hi'
          exact .same (R.put hx hi rfl (.inl rfl) (sameBut_k hs) ⟨la,o',u1,u2,u3,o4⟩) zr
        | none =>
          rw [hk] at e2
          have e2:=dropC_inv e2
          cases e2
          have hn:vs[k]?=none:=by
            rw [Array.getElem?_eq_none_iff,p2.sizeA]
            exact List.getElem?_eq_none_iff.mp hk
          refine wpAny_pyNext_list_end hh ⟨o,o1,o2,o3⟩ (exact_list p1) hn fun h' hs => ?_
          exact .same (R.drop hx hi rfl (extBut_k hs)) trivial
    | rit x l =>
      have o1:=R.cell hx hi
      cases l with
      | negSucc _=>cases e
      | ofNat m =>
        cases m with
        | zero =>
          have e:=dropC_inv e
          cases e
          exact wpAny_pyNext_range_end hh o1 (by decide) fun h' hs=>.same (R.drop hx hi rfl (extBut_k hs)) trivial
        | succ n =>
          have e:=putC_inv e
          cases e
          refine wpAny_pyNext_range_item o1 (by show (0:Int)<((n+1:Nat):Int); omega) fun h' hi' hs => ?_
          have q:((n+1:Nat):Int) - 1=(n:Int):=by omega
          have hi':IsRangeIter h' b (x+1) (((n+1:Nat):Int) - 1) 1:=hi'
          rw [q] at hi'
          exact .same (R.put (s':={ s with heap:=h',toks:=s.toks+1 }) hx hi rfl (.inl rfl) (sameBut_k hs) hi') .int
    | _=>cases e
  | _=>cases e
theorem Tri.range {t:TV}{v:Value}(h:VR w.params g ρ t v):Tri prog w cloT hb A g f ρ (rangeT t) (call (.type "range") [v]) (VRp w):=by
  intro σ a σ' c e hc s R
  obtain ⟨n,σ1,c1,c2,e1,e2,hc1,hc2⟩:=bd_inv e hc
  obtain ⟨⟨r,rfl⟩,tk,rfl⟩:=asInt_at h e1 hc1
  have e2:=newC_inv e2
  cases e2
  exact call_range_1 ((R.dirs (r:=r)).newOb rfl rfl fun ρ' hr=>⟨_,_,_,rfl⟩)
theorem noted_false {env:Env}{x:Value}{s':Shared}{E':Value→Shared→Prop}:Fa x s'→notedBy (model prog w) A env E' x s':=fun h=>h.elim
theorem while_turn {test body}{R:Result→Shared→Prop}(h:wpAny (model prog w) A (isTrue test env (eval test env)) (fun b s₂=>if b then wpAny (model prog w) A (execs body env) (fun f s₃=>match f with
      | .next | .cont=>codeAny (model prog w) A (.whileLoop test body [] env) R s₃
      | .brk=>R (.ok .next) s₃
      | .ret v=>R (.ok (.ret v)) s₃) Fa s₂ else R (.ok .next) s₂) Fa s):codeAny (model prog w) A (.whileLoop test body [] env) R s:=by
  refine codeAny_of_tree ?_
  show wpAny _ A ((whileTurn test body [] env).onRaise (fun x=>do noteFrame x env; theTreesLotGoes x)) _ _ s
  refine wpAny_noted ?_
  simp only [whileTurn]
  refine wpAny_bind (wpAny_mono h (fun b s₂ h₂ => ?_) fun _ _ h'=>h'.elim)
  cases b with
  | false =>
    simp only [Bool.false_eq_true,if_false] at h₂ ⊢
    exact wpAny_bind (wpAny_execs_nil (wpAny_pure h₂))
  | true =>
    simp only [if_true] at h₂ ⊢
    refine wpAny_bind (wpAny_mono h₂ (fun f s₃ h₃ => ?_) fun _ _ h'=>h'.elim)
    cases f with
    | next=>exact wpAny_pure ⟨rfl,h₃⟩
    | cont=>exact wpAny_pure ⟨rfl,h₃⟩
    | brk=>exact wpAny_pure h₃
    | ret v=>exact wpAny_pure h₃
theorem for_turn {x:Str}{px:Pos}{it:Value}{body}{R:Result→Shared→Prop}(h:wpAny (model prog w) A (pyNext it) (fun r s₁=>match r with
      | none=>R (.ok .next) s₁
      | some v=>wpAny (model prog w) A (storeName env x v) (fun _ s₂=>wpAny (model prog w) A (execs body env) (fun f s₃=>match f with
          | .next | .cont=>codeAny (model prog w) A (.forLoop (.Name x px) it body [] env) R s₃
          | .brk=>R (.ok .next) s₃
          | .ret v=>R (.ok (.ret v)) s₃) Fa s₂) Fa s₁) Fa s):codeAny (model prog w) A (.forLoop (.Name x px) it body [] env) R s:=by
  refine codeAny_of_tree ?_
  show wpAny _ A ((forTurn (.Name x px) it body [] env).onRaise (fun x=>do noteFrame x env; theTreesLotGoes x)) _ _ s
  refine wpAny_noted ?_
  simp only [forTurn]
  refine wpAny_bind (wpAny_standAt (wpAny_bind (wpAny_onRaise (wpAny_mono h (fun r s₁ h₁ => ?_) fun _ _ h'=>h'.elim))))
  cases r with
  | none=>exact wpAny_pure ⟨rfl,codeAny_block (wpAny_execs_nil h₁)⟩
  | some v =>
    refine wpAny_bind (wpAny_of_eq (a:=()) rfl ?_)
    refine wpAny_bind (wpAny_assign_Name (wpAny_mono h₁ (fun _ s₂ h₂=>wpAny_bind (wpAny_mono h₂ (fun f s₃ h₃ => ?_) fun _ _ h'=>h'.elim)) fun _ _ h'=>h'.elim))
    cases f with
    | next=>exact wpAny_pure ⟨rfl,h₃⟩
    | cont=>exact wpAny_pure ⟨rfl,h₃⟩
    | brk=>exact wpAny_pure h₃
    | ret v=>exact wpAny_pure h₃
theorem comp_turn {elt iter:Expr}{ifs:List Expr}{x:Str}{px:Pos}{scope:Scope}{pos:Pos}{it acc:Value}{R:Result→Shared→Prop}(h:wpAny (model prog w) A (pyNext it) (fun r s₁=>match r with
      | none=>R (.ok .next) s₁
      | some v=>wpAny (model prog w) A (storeName env x v) (fun _ s₂=>wpAny (model prog w) A (forIn ifs true fun c r=>if r=true then do let ok ← isTrue c env (eval c env); pure (ForInStep.yield ok) else pure (ForInStep.yield r)) (fun ok s₂ =>
          if ok=true then wpAny (model prog w) A (eval elt env) (fun y s₃=>wpAny (model prog w) A (call (.builtin "list.append") [acc,y]) (fun _ s₄ =>
            codeAny (model prog w) A (.compLoop (.ListComp elt [⟨.Name x px,iter,ifs,0⟩] scope pos) 0 it acc env) R s₄) Fa s₃) Fa s₂
          else codeAny (model prog w) A (.compLoop (.ListComp elt [⟨.Name x px,iter,ifs,0⟩] scope pos) 0 it acc env) R s₂) Fa s₂) Fa s₁) Fa s) :
    codeAny (model prog w) A (.compLoop (.ListComp elt [⟨.Name x px,iter,ifs,0⟩] scope pos) 0 it acc env) R s:=by
  refine codeAny_of_tree ?_
  show wpAny _ A ((compTurn (.ListComp elt [⟨.Name x px,iter,ifs,0⟩] scope pos) 0 it acc env).onRaise (fun x=>do noteFrame x env; theTreesLotGoes x)) _ _ s
  refine wpAny_noted ?_
  rw [compTurn_list]
  refine wpAny_bind (wpAny_standAt (wpAny_bind (wpAny_mono h (fun r s₁ h₁ => ?_) fun _ _ h'=>h'.elim)))
  cases r with
  | none=>exact wpAny_pure h₁
  | some v =>
    refine wpAny_bind (wpAny_of_eq (a:=()) rfl ?_)
    refine wpAny_bind (wpAny_assign_Name (wpAny_mono h₁ (fun _ s₂ h₂=>wpAny_bind (wpAny_mono h₂ (fun ok s₃ h₃ => ?_) fun _ _ h'=>h'.elim)) fun _ _ h'=>h'.elim))
    cases ok with
    | false=>exact wpAny_pure ⟨rfl,h₃⟩
    | true=>exact wpAny_bind (wpAny_bind (wpAny_mono h₃ (fun x s₄ h₄=>wpAny_bind (wpAny_mono h₄ (fun _ s₅ h₅=>wpAny_pure (wpAny_pure ⟨rfl,h₅⟩)) fun _ _ h'=>h'.elim)) fun _ _ h'=>h'.elim))
end
end
section
def whF (p:Evs) (d:Nat) (ae:AE) (test:Expr) (body:List Stmt):M FL:=(p.tr d ae test).bd fun b=>ifB b ((p.ss d ae body).bd fun f=>match f with
  | .next=>p.wh d ae test body
  | .cont=>p.wh d ae test body
  | .brk=>.ret .next
  | .ret v=>.ret (.ret v)) (.ret .next)
def foF (p:Evs) (d:Nat) (ae:AE) (x:Str) (t:TV) (body:List Stmt):M FL:=(nextT t).bd fun o=>match o with
  | none=>.ret .next
  | some v=>(stName ae x v).bd fun _=>(p.ss d ae body).bd fun f=>match f with
    | .next=>p.fo d ae x t body
    | .cont=>p.fo d ae x t body
    | .brk=>.ret .next
    | .ret v=>.ret (.ret v)
def tstM (p:Evs) (d:Nat) (ae:AE) (ifs:List Expr):M Bool:=match ifs with
  | []=>.ret true
  | c::r=>match r with
    | []=>p.tr d ae c
    | _=>.fail
def coF (p:Evs) (d:Nat) (ae:AE) (elt:Expr) (ifs:List Expr) (x:Str) (t t':TV):M Unit:=(nextT t).bd fun o=>match o with
  | none=>.ret ()
  | some v=>(stName ae x v).bd fun _=>(tstM p d ae ifs).bd fun b=>ifB b ((p.ex d ae elt).bd fun y=>(appT t' y).bd fun _=>p.co d ae elt ifs x t t') (p.co d ae elt ifs x t t')
section
variable {prog:Program}{w:World}{cloT:Nat→CloI}{hb:HB}{K:Frag}{tab:Tab}{mg mb:Str→Option Value}
variable {A:Around}{g f g' f':PH}{ρ ρ':Rho}{α β γ δ:Type}{E:Value→Shared→Prop}{s:Shared}{xt:XT}{p:Evs}{d:Nat}{ae:AE}{env:Env}
theorem Back.under {σ':St}{a:α}{P:PH→Rho→α→β→Prop}{b:β}{s':Shared}{g1 f1:PH}{ρ1:Rho}(E:Ext g f ρ g1 f1 ρ1) (x:Back prog w cloT hb g1 f1 ρ1 σ' a P b s'):Back prog w cloT hb g f ρ σ' a P b s' :=
  let ⟨g2,f2,ρ2,E2,R2,p⟩:=x; ⟨g2,f2,ρ2,E.trans E2,R2,p⟩
theorem LoopR.mono {Q Q':Flow→Shared→Prop}(h:∀ f s,Q f s→Q' f s):∀ r s,LoopR Q r s→LoopR Q' r s
  | .ok f,s,x=>h f s x
  | .error _,_,x=>x
theorem TriC.wh (S:Snd prog w cloT hb p) (r:Room d A) (N:EnvR ρ ae env) {test:Expr}{body:List Stmt}:TriC prog w cloT hb A g f ρ (whF p d ae test body) (.whileLoop test body [] env):=by
  intro σ a σ' c e hc s R
  obtain ⟨b,σ1,c1,c2,e1,e2,hc1,hc2⟩:=bd_inv e hc
  refine while_turn (wpAny_mono (S.tr A d g f ρ ae env test r N σ b σ1 c1 e1 hc1 s R) (fun b' s1 x1 => ?_) fun _ _ z=>z)
  obtain ⟨g1,f1,ρ1,E1,R1,V1⟩:=x1
  have V1:b'=b:=V1
  subst V1
  rcases ifB_inv e2 with ⟨rfl,e2⟩ | ⟨rfl,e2⟩
  · rw [if_pos rfl]
    obtain ⟨fl,σ2,c3,c4,e3,e4,hc3,hc4⟩:=bd_inv e2 hc2
    refine wpAny_mono (S.ss A d g1 f1 ρ1 ae env body r (N.mono E1.rl) σ1 fl σ2 c3 e3 hc3 s1 R1) (fun f' s2 x2 => ?_) fun _ _ z=>z
    obtain ⟨g2,f2,ρ2,E2,R2,V2⟩:=x2
    have E3:=E1.trans E2
    cases V2 with
    | next=>exact codeAny_mono (S.wh A d g2 f2 ρ2 ae env test body r (N.mono E3.rl) σ2 a σ' c4 e4 hc4 s2 R2) (LoopR.mono fun f s x=>x.under E3)
    | cont=>exact codeAny_mono (S.wh A d g2 f2 ρ2 ae env test body r (N.mono E3.rl) σ2 a σ' c4 e4 hc4 s2 R2) (LoopR.mono fun f s x=>x.under E3)
    | brk=>cases e4; exact ⟨g2,f2,ρ2,E3,R2,.next⟩
    | ret V=>cases e4; exact ⟨g2,f2,ρ2,E3,R2,.ret V⟩
  · cases e2
    rw [if_neg (by simp)]
    exact ⟨g1,f1,ρ1,E1,R1,.next⟩
theorem TriC.fo (S:Snd prog w cloT hb p) (r:Room d A) (N:EnvR ρ ae env) {x:Str}{px:Pos}{t:TV}{v:Value}{body:List Stmt}(h:VR w.params g ρ t v):TriC prog w cloT hb A g f ρ (foF p d ae x t body) (.forLoop (.Name x px) v body [] env):=by
  intro σ a σ' c e hc s R
  obtain ⟨o,σ1,c1,c2,e1,e2,hc1,hc2⟩:=bd_inv e hc
  refine for_turn (wpAny_mono (Tri.nextI r.hd h σ o σ1 c1 e1 hc1 s R) (fun o' s1 x1 => ?_) fun _ _ z=>z)
  obtain ⟨g1,f1,ρ1,E1,R1,V1⟩:=x1
  cases o with
  | none =>
    cases o' with
    | none=>cases e2; exact ⟨g1,f1,ρ1,E1,R1,.next⟩
    | some _=>exact V1.elim
  | some y =>
    cases o' with
    | none=>exact V1.elim
    | some u =>
      have V1:VR w.params g1 ρ1 y u:=V1
      obtain ⟨z,σ2,c3,c4,e3,e4,hc3,hc4⟩:=bd_inv e2 hc2
      refine wpAny_mono (Tri.store (N.mono E1.rl) V1 σ1 z σ2 c3 e3 hc3 s1 R1) (fun _ s2 x2 => ?_) fun _ _ z=>z
      obtain ⟨g2,f2,ρ2,E2,R2,_⟩:=x2
      obtain ⟨fl,σ3,c5,c6,e5,e6,hc5,hc6⟩:=bd_inv e4 hc4
      refine wpAny_mono (S.ss A d g2 f2 ρ2 ae env body r (N.mono (Rho.le_trans E1.rl E2.rl)) σ2 fl σ3 c5 e5 hc5 s2 R2) (fun f' s3 x3 => ?_) fun _ _ z=>z
      obtain ⟨g3,f3,ρ3,E3,R3,V3⟩:=x3
      have E4:=(E1.trans E2).trans E3
      cases V3 with
      | next=>exact codeAny_mono (S.fo A d g3 f3 ρ3 ae env x px t v body r (N.mono E4.rl) (h.mono E4.gl E4.rl) σ3 a σ' c6 e6 hc6 s3 R3) (LoopR.mono fun f s x=>x.under E4)
      | cont=>exact codeAny_mono (S.fo A d g3 f3 ρ3 ae env x px t v body r (N.mono E4.rl) (h.mono E4.gl E4.rl) σ3 a σ' c6 e6 hc6 s3 R3) (LoopR.mono fun f s x=>x.under E4)
      | brk=>cases e6; exact ⟨g3,f3,ρ3,E4,R3,.next⟩
      | ret V=>cases e6; exact ⟨g3,f3,ρ3,E4,R3,.ret V⟩
theorem Tri.tst (S:Snd prog w cloT hb p) (r:Room d A) (N:EnvR ρ ae env) {ifs:List Expr}:Tri prog w cloT hb A g f ρ (tstM p d ae ifs) (forIn ifs true fun c r=>if r=true then do let ok ← isTrue c env (eval c env); pure (ForInStep.yield ok) else pure (ForInStep.yield r)) EqR:=by
  unfold tstM
  rcases ifs with _ | ⟨c,_ | _⟩
  · intro σ a σ' cs e hc s R
    cases e
    exact wpAny_tests_nil (.same R rfl)
  · intro σ a σ' cs e hc s R
    exact wpAny_tests_one (S.tr A d g f ρ ae env c r N σ a σ' cs e hc s R)
  · exact .fail
theorem TriK.co (S:Snd prog w cloT hb p) (r:Room d A) (N:EnvR ρ ae env) {elt iter:Expr}{ifs:List Expr}{x:Str}{px pos:Pos}{scope:Scope}{t t':TV}{v v':Value}(h:VR w.params g ρ t v) (h':VR w.params g ρ t' v') :
    TriK prog w cloT hb A g f ρ (coF p d ae elt ifs x t t') (.compLoop (.ListComp elt [⟨.Name x px,iter,ifs,0⟩] scope pos) 0 v v' env):=by
  intro σ a σ' c e hc s R
  obtain ⟨o,σ1,c1,c2,e1,e2,hc1,hc2⟩:=bd_inv e hc
  refine comp_turn (wpAny_mono (Tri.nextI r.hd h σ o σ1 c1 e1 hc1 s R) (fun o' s1 x1 => ?_) fun _ _ z=>z)
  obtain ⟨g1,f1,ρ1,E1,R1,V1⟩:=x1
  cases o with
  | none =>
    cases o' with
    | none=>cases e2; exact ⟨g1,f1,ρ1,E1,R1,rfl⟩
    | some _=>exact V1.elim
  | some y =>
    cases o' with
    | none=>exact V1.elim
    | some u =>
      have V1:VR w.params g1 ρ1 y u:=V1
      obtain ⟨z,σ2,c3,c4,e3,e4,hc3,hc4⟩:=bd_inv e2 hc2
      refine wpAny_mono (Tri.store (N.mono E1.rl) V1 σ1 z σ2 c3 e3 hc3 s1 R1) (fun _ s2 x2 => ?_) fun _ _ z=>z
      obtain ⟨g2,f2,ρ2,E2,R2,_⟩:=x2
      obtain ⟨tb,σ3,c5,c6,e5,e6,hc5,hc6⟩:=bd_inv e4 hc4
      refine wpAny_mono (Tri.tst S r (N.mono (Rho.le_trans E1.rl E2.rl)) σ2 tb σ3 c5 e5 hc5 s2 R2) (fun ok s3 x3 => ?_) fun _ _ z=>z
      obtain ⟨g3,f3,ρ3,E3,R3,V3⟩:=x3
      have V3:ok=tb:=V3
      subst V3
      have E4:=(E1.trans E2).trans E3
      rcases ifB_inv e6 with ⟨rfl,e6⟩ | ⟨rfl,e6⟩
      · rw [if_pos rfl]
        obtain ⟨fl,σ4,c7,c8,e7,e8,hc7,hc8⟩:=bd_inv e6 hc6
        refine wpAny_mono (S.ex A d g3 f3 ρ3 ae env elt r (N.mono E4.rl) σ3 fl σ4 c7 e7 hc7 s3 R3) (fun f' s4 x4 => ?_) fun _ _ z=>z
        obtain ⟨g4,f4,ρ4,E5,R4,V4⟩:=x4
        have E6:=E4.trans E5
        obtain ⟨q,σ5,c9,c10,e9,e10,hc9,hc10⟩:=bd_inv e8 hc8
        refine wpAny_mono (Tri.app (h'.mono E6.gl E6.rl) V4 σ4 q σ5 c9 e9 hc9 s4 R4) (fun _ s5 x5 => ?_) fun _ _ z=>z
        obtain ⟨g5,f5,ρ5,E7,R5,_⟩:=x5
        have E8:=E6.trans E7
        exact codeAny_mono (S.co A d g5 f5 ρ5 ae env elt ifs x px t v t' v' iter scope pos r (N.mono E8.rl) (h.mono E8.gl E8.rl) (h'.mono E8.gl E8.rl) σ5 a σ' c10 e10 hc10 s5 R5) (LoopR.mono fun f s x=>x.under E8)
      · rw [if_neg (by simp)]
        exact codeAny_mono (S.co A d g3 f3 ρ3 ae env elt ifs x px t v t' v' iter scope pos r (N.mono E4.rl) (h.mono E4.gl E4.rl) (h'.mono E4.gl E4.rl) σ3 a σ' c6 e6 hc6 s3 R3) (LoopR.mono fun f s x=>x.under E4)
theorem Tri.forS (S:Snd prog w cloT hb p) (r:Room d A) (N:EnvR ρ ae env) {x:Str}{px pos:Pos}{iter:Expr}{body:List Stmt}(hs:∀ x,foldedSetIterable iter env x=pure x) :
    Tri prog w cloT hb A g f ρ ((p.ex d ae iter).bd fun t=>(iterT t).bd fun i=>p.fo d ae x i body) (exec (.For (.Name x px) iter body [] pos) env) (FLR w):=by
  intro σ a σ' c e hc s R
  obtain ⟨t,σ1,c1,c2,e1,e2,hc1,hc2⟩:=bd_inv e hc
  obtain ⟨i,σ2,c3,c4,e3,e4,hc3,hc4⟩:=bd_inv e2 hc2
  refine wpAny_For (wpAny_mono (S.ex A d g f ρ ae env iter r N σ t σ1 c1 e1 hc1 s R) (fun v s1 x1 => ?_) fun _ _ z=>z.elim) hs
  obtain ⟨g1,f1,ρ1,E1,R1,V1⟩:=x1
  refine wpAny_mono (Tri.iter V1 σ1 i σ2 c3 e3 hc3 s1 R1) (fun v s2 x2 => ?_) fun _ _ z=>z.elim
  obtain ⟨g2,f2,ρ2,E2,R2,V2⟩:=x2
  have E3:=E1.trans E2
  refine codeAny_mono (S.fo A d g2 f2 ρ2 ae env x px i v body r (N.mono E3.rl) V2 σ2 a σ' c4 e4 hc4 s2 R2) fun res s' z => ?_
  cases res with
  | ok f=>exact Back.under E3 z
  | error e=>exact z.elim
theorem Tri.whileS (S:Snd prog w cloT hb p) (r:Room d A) (N:EnvR ρ ae env) {test:Expr}{body:List Stmt}{pos:Pos} :
    Tri prog w cloT hb A g f ρ (p.wh d ae test body) (exec (.While test body [] pos) env) (FLR w):=by
  intro σ a σ' c e hc s R
  refine wpAny_While (codeAny_mono (S.wh A d g f ρ ae env test body r N σ a σ' c e hc s R) fun res s' z => ?_)
  cases res with
  | ok f=>exact z
  | error e=>exact z.elim
end
end
section
def envA (sc:Scope):Env:={ scope:=sc,locals:=0,globals:=mainGlobals,cells:=[],qual:=Str.ofString "",func:=none,code:=.none,frame:=none,builtins:=builtinsNs }
def setAt:Nat→TV→List TV→List TV
  | 0,t,[]=>[]
  | 0,t,_::r=>t::r
  | _+1,_,[]=>[]
  | n+1,t,x::r=>x::setAt n t r
def setT (o i t:TV):M Unit:=match o with
  | .ref j=>(getC j).bd fun c=>match c with
    | .lst xs=>(asInt i).bd fun k=>match k with
      | .ofNat m=>chk (Nat.blt m xs.length) (chk (Nat.ble m szL) (putC j (.lst (setAt m t xs))))
      | _=>.fail
    | .sdic _=>setD (.ref j) i t
    | .dic .. => setD (.ref j) i t
    | _=>.fail
  | _=>.fail
def asF (tab:Tab) (p:Evs) (d:Nat) (ae:AE) (x:Expr) (t:TV):M Unit:=match x with
  | .Name id _=>stName ae id t
  | .Attribute o a _=>(p.ex d ae o).bd fun ov=>setA tab ov a t
  | .Subscript o i _=>chk (notSlice i) ((p.ex d ae o).bd fun ov=>(p.ex d ae i).bd fun iv=>setT ov iv t)
  | _=>.fail
def asAll (k:Expr→TV→M Unit) (xs:List Expr) (ts:List TV):M Unit:=match xs with
  | []=>match ts with
    | []=>.ret ()
    | _=>.fail
  | x::xs=>match ts with
    | []=>.fail
    | t::ts=>chk (notStar x) ((k x t).bd fun _=>asAll k xs ts)
def stAll (ae:AE) (xs:List Str) (ts:List TV):M Unit:=match xs with
  | []=>match ts with
    | []=>.ret ()
    | _=>.fail
  | x::xs=>match ts with
    | []=>.fail
    | t::ts=>(stName ae x t).bd fun _=>stAll ae xs ts
def tupT (t:TV) (n:Nat):M (List TV):=match t with
  | .tup xs=>chk (Nat.beq xs.length n) (.ret xs)
  | _=>.fail
section
variable {prog:Program}{w:World}{cloT:Nat→CloI}{hb:HB}{K:Frag}{tab:Tab}{mg mb:Str→Option Value}
variable {A:Around}{g f g' f':PH}{ρ ρ':Rho}{α β γ δ:Type}{E:Value→Shared→Prop}{s:Shared}{xt:XT}{p:Evs}{d:Nat}{ae:AE}{env:Env}
theorem swapped_scope {ts:List Expr}{v:Expr}:swappedStores ts v env=swappedStores ts v (envA env.scope):=rfl
theorem swaps1_scope {t:Option Expr}{v:Expr}{l:Nat}:swapsWith v t l env=swapsWith v t l (envA env.scope):=rfl
theorem swaps_scope {ts:List Expr}{v:Expr}{l:Nat}:swapsWithSole ts v l env=swapsWithSole ts v l (envA env.scope):=by
  rcases ts with _ | ⟨t,_ | _⟩<;>rfl
theorem VRs.setAt {P:Params}{n:Nat}{t:TV}{v:Value}(hv:VR P g ρ t v):∀ {ts:List TV}{vs:List Value},VRs P g ρ ts vs→VRs P g ρ (Nu.setAt n t ts) (vs.set n v):=by
  induction n with
  | zero =>
    intro ts vs h
    cases h with
    | nil=>exact .nil
    | cons a r=>exact .cons hv r
  | succ n ih =>
    intro ts vs h
    cases h with
    | nil=>exact .nil
    | cons a r=>exact .cons a (ih r)
theorem setItem_at {l:Addr}{items:Array Value}{n:Nat}{k:Int}{t:Tok}{v:Value}{Q:Unit→Shared→Prop}(hl:s.heap.get? l=some ⟨.type "list",none,.seq items n,#[]⟩)
    (h0:0≤k) (hfit:k<2 ^ 63) (hn:k<items.size)
    (hQ:∀ h' n',h'.get? l=some ⟨.type "list",none,.seq (items.setIfInBounds k.toNat v) n',#[]⟩→Heap.SameBut l s.heap h'→Q () { s with heap:=h' }) :
    wpAny (model prog w) A (setItem (.ref l) (.int k t) v) Q E s:=by
  have hT:s.TypeIs (.ref l) "list" := ⟨_,hl,rfl⟩
  unfold setItem
  refine wpAny_holding (wpAny_bind (wpAny_sequenceKey hT (by decide) ?_))
  refine wpAny_bind (wpAny_callSpecial?_slot (name:=Str.ofString "__setitem__") hT slot_list_setitem
    (wpAny_call_entry slot_list_setitem hT entry_list_setitem ?_ (args_list_setitem _ _ _)))
  show wpAny _ _ (Builtin.List.listSubscript? (.int k t) >>= _) _ _ s
  refine wpAny_bind (wpAny_listSubscript_int (fitsIndex_of h0 hfit) ?_)
  clear hfit
  obtain ⟨j,rfl⟩:=Int.eq_ofNat_of_zero_le h0
  have hj:j<items.size:=by omega
  have hx':items[j]?=some items[j]:=Array.getElem?_eq_getElem hj
  show wpAny _ _ ((seqItemAt l j >>= fun r=>pure (r.map (j,·))) >>= _) _ _ s
  refine wpAny_bind (wpAny_bind (wpAny_seqItemAt hl rfl (wpAny_pure ?_)))
  rw [hx']
  show wpAny _ _ (setSeqItemAt l j v >>= _) _ _ s
  have q:=PySem.IsL.update hl (·.setIfInBounds j v)
  exact wpAny_bind (wpAny_setSeqItemAt hl rfl (wpAny_pure ⟨.none,rfl,wpAny_pure (hQ _ _ q (Heap.SameBut.update ..))⟩))
theorem Tri.setI {o i t:TV}{v u z:Value}(h:VR w.params g ρ o v) (hi:VR w.params g ρ i u) (ht:VR w.params g ρ t z):Tri prog w cloT hb A g f ρ (setT o i t) (setItem v u z) (fun _ _ _ _=>True):=by
  intro σ a σ' c e hc s R
  unfold setT at e
  cases h with
  | @ref j b d hj =>
    have D:Nu.setD (.ref j) i t σ=some (a,σ',c)→wpAny (model prog w) A (setItem (.ref b) u z) (Back prog w cloT hb g f ρ σ' a (fun _ _ _ _=>True)) Fa s:=fun e=>Tri.setD (.ref hj) hi ht σ a σ' c e hc s R
    obtain ⟨x,hx,e⟩:=getC_inv e
    cases x with
    | sdic=>exact D e
    | dic=>exact D e
    | lst xs =>
      obtain ⟨k,σ1,c1,c2,e1,e2,hc1,hc2⟩:=bd_inv e hc
      obtain ⟨⟨r,rfl⟩,tk,rfl⟩:=asInt_at hi e1 hc1
      cases k with
      | negSucc _=>cases e2
      | ofNat m =>
        obtain ⟨h1,e2⟩:=chk_inv e2
        obtain ⟨h2,e2⟩:=chk_inv e2
        cases e2
        have h1:m<xs.length:=Nat.le_of_ble_eq_true h1
        have R1:RelS prog w cloT hb ⟨σ.cells,σ.next,r⟩ g f ρ s:=R.dirs
        obtain ⟨vs,n,o1,o2,o3⟩:=R1.cell hx hj
        rw [← o2.sizeA] at h1
        refine setItem_at o1 (Int.natCast_nonneg m) (szL_lt (ble_k h2)) (by show (m:Int)<_; omega) fun h' n' q hs => ?_
        refine .same (R1.put hx hj rfl (.inl rfl) (sameBut_k hs) ⟨_,n',q,?_,?_⟩) trivial
        · rw [Array.toList_setIfInBounds]; exact o2.setAt ht
        · rw [Array.size_setIfInBounds]; exact o3
    | _=>cases e
  | _=>cases e
theorem Tri.as1 (B:BaseH K mg mb hb) (T:TabOk w.params K tab mg mb) (S:Snd prog w cloT hb p) (r:Room d A) (N:EnvR ρ ae env) {x:Expr}{t:TV}{v:Value}(h:VR w.params g ρ t v) :
    Tri prog w cloT hb A g f ρ (asF tab p d ae x t) (assign x env v) (fun _ _ _ _=>True):=by
  unfold asF
  cases x with
  | Name id pos =>
    intro σ a σ' c e hc s R
    exact wpAny_assign_Name (Tri.store N h σ a σ' c e hc s R)
  | Attribute o attr pos =>
    rw [arm_assign_Attribute]
    refine .bind (Tri.holding (S.ex A d g f ρ ae env o r N)) fun g1 f1 ρ1 ov u E1 V1 => ?_
    refine .at_ ?_
    intro σ a σ' c e hc s R
    exact wpAny_bind (wpAny_holding (wpAny_mono (Tri.setA B T V1 (h.mono E1.gl E1.rl) σ a σ' c e hc s R) (fun _ s' x=>quick_release _ _ _ _ x) fun _ _ z=>z))
  | Subscript o i pos =>
    refine .chk fun hs => ?_
    rw [arm_assign_Subscript]
    refine .bind (Tri.holding (S.ex A d g f ρ ae env o r N)) fun g1 f1 ρ1 ov u E1 V1 => ?_
    refine .bind (Tri.holding (S.ex A d g1 f1 ρ1 ae env i r (N.mono E1.rl))) fun g2 f2 ρ2 iv z E2 V2 => ?_
    refine .at_ ?_
    intro σ a σ' c e hc s R
    exact wpAny_bind (wpAny_holding (wpAny_mono (Tri.setI (V1.mono E2.gl E2.rl) V2 ((h.mono E1.gl E1.rl).mono E2.gl E2.rl) σ a σ' c e hc s R) (fun _ s' x=>quick_release _ _ _ _ x) fun _ _ z=>z))
  | _=>exact .fail
theorem assignEach_cons {x:Expr}{r:List Expr}(h:notStar x=true):assignEach (x::r) env=(false,assign x env)::assignEach r env:=by
  cases x<;>first | rfl | (cases h)
theorem Tri.asEach (B:BaseH K mg mb hb) (T:TabOk w.params K tab mg mb) (S:Snd prog w cloT hb p) (r:Room d A):∀ {xs:List Expr}{ts:List TV}{vs:List Value}{g f:PH}{ρ:Rho},EnvR ρ ae env→VRs w.params g ρ ts vs →
    Tri prog w cloT hb A g f ρ (asAll (asF tab p d ae) xs ts) (assignInOrder ((assignEach xs env).map (·.2)) vs) (fun _ _ _ _=>True)
  | [],ts,vs,g,f,ρ,N,h=>by
    unfold asAll
    cases h with
    | nil=>exact .ret trivial
    | cons _ _=>exact .fail
  | x::xs,ts,vs,g,f,ρ,N,h=>by
    unfold asAll
    cases h with
    | nil=>exact .fail
    | @cons t v ts vs a r' =>
      refine .chk fun hs => ?_
      rw [assignEach_cons hs]
      show Tri _ _ _ _ _ _ _ _ _ (do PySem.holding vs (assign x env v); assignInOrder ((assignEach xs env).map (·.2)) vs) _
      refine .bind (Tri.holding (Tri.as1 B T S r N a)) fun g1 f1 ρ1 _ _ E1 _ => ?_
      exact Tri.asEach B T S r (N.mono E1.rl) (r'.mono E1.gl E1.rl)
theorem Tri.stEach:∀ {xs:List Str}{ts:List TV}{vs:List Value}{g f:PH}{ρ:Rho},EnvR ρ ae env→VRs w.params g ρ ts vs →
    Tri prog w cloT hb A g f ρ (stAll ae xs ts) (assignInOrder (xs.map fun n=>bindName env n) vs) (fun _ _ _ _=>True)
  | [],ts,vs,g,f,ρ,N,h=>by
    unfold stAll
    cases h with
    | nil=>exact .ret trivial
    | cons _ _=>exact .fail
  | x::xs,ts,vs,g,f,ρ,N,h=>by
    unfold stAll
    cases h with
    | nil=>exact .fail
    | @cons t v ts vs a r' =>
      show Tri _ _ _ _ _ _ _ _ _ (do PySem.holding vs (bindName env x v); assignInOrder (xs.map fun n=>bindName env n) vs) _
      have key:Tri prog w cloT hb A g f ρ (stName ae x t) (bindName env x v) (fun _ _ _ _=>True):=fun σ a' σ' c e hc s R=>wpAny_bindName (Tri.store N a σ a' σ' c e hc s R)
      refine .bind (Tri.holding key) fun g1 f1 ρ1 _ _ E1 _ => ?_
      exact Tri.stEach (N.mono E1.rl) (r'.mono E1.gl E1.rl)
theorem unpack_at {t:TV}{v:Value}{n:Nat}{xs:List TV}{σ σ':St}{c:List Prop}{Q:List Value→Shared→Prop}(hh:A.handled=none) (R:RelS prog w cloT hb σ g f ρ s) (h:VR w.params g ρ t v) (e:tupT t n σ=some (xs,σ',c))
    (hQ:∀ vs h',VRs w.params g ρ xs vs→RelS prog w cloT hb σ' g f ρ { s with heap:=h' }→Q vs { s with heap:=h' }):wpAny (model prog w) A (unpackItems v n none) Q E s:=by
  unfold tupT at e
  cases h with
  | @tup xs b vs m h1 h2 =>
    obtain ⟨hn,e⟩:=chk_inv e
    cases e
    have hn:xs.length=n:=Nat.eq_of_beq_eq_true hn
    rw [← hn,← h2.sizeA]
    refine unpackItems_tuple hh (exact_tup (R.gk h1)) fun h' hs=>hQ _ _ h2 (R.grow fun b o e=>hs b o (Nat.ne_of_lt (Heap.lt_size e)) e)
  | _=>cases e
end
end
section
abbrev XS:=Evs→Nat→AE→Stmt→M FL
def notSet:Expr→Bool
  | .Set .. => false
  | _=>true
def asgF (tab:Tab) (p:Evs) (d:Nat) (ae:AE) (ts:List Expr) (v:Expr):M FL:=(p.ex d ae v).bd fun t=>(orFail (pureOf (swappedStores ts v (envA ae.scope)))).bd fun o=>match o with
  | some names=>(tupT t names.length).bd fun l=>(stAll ae names.reverse l.reverse).bd fun _=>.ret .next
  | none=>match ts with
    | [x]=>match x with
      | .Tuple elts _ _=>chk (elts.all notStar) ((tupT t elts.length).bd fun l=>(asAll (asF tab p d ae) elts l).bd fun _=>.ret .next)
      | x=>(asF tab p d ae x t).bd fun _=>.ret .next
    | _=>.fail
def augF (tab:Tab) (p:Evs) (d:Nat) (ae:AE) (o:Expr) (attr:Str) (v:Expr):M FL :=
  (p.ex d ae o).bd fun ov=>(getA tab ov attr).bd fun old=>(p.ex d ae v).bd fun nv=>(binN .Add old nv).bd fun r=>(setA tab ov attr r).bd fun _=>.ret .next
def stF (tab:Tab) (xs:XS) (p:Evs) (d:Nat) (ae:AE) (st:Stmt):M FL:=match st with
  | .Expr e pos=>(orFail (pureOf (swapsWith e none pos.line (envA ae.scope)))).bd fun b=>ifB b .fail ((p.ex d ae e).bd fun _=>.ret .next)
  | .Pass _=>.ret .next
  | .Return o _=>match o with
    | some e=>(p.ex d ae e).bd fun t=>.ret (.ret t)
    | none=>.ret (.ret .none)
  | .Assign ts v pos=>(orFail (pureOf (swapsWithSole ts v pos.line (envA ae.scope)))).bd fun b=>ifB b (xs p d ae (.Assign ts v pos)) (asgF tab p d ae ts v)
  | .AugAssign x op v pos=>match x with
    | .Attribute o attr tpos=>match op with
      | .Add=>augF tab p d ae o attr v
      | _=>.fail
    | _=>.fail
  | .If t b o _=>(p.tr d ae t).bd fun c=>ifB c (p.ss d ae b) (p.ss d ae o)
  | .While t b o _=>match o with
    | []=>p.wh d ae t b
    | _=>.fail
  | .For x i b o pos=>match x with
    | .Name y px=>match o with
      | []=>chk (notSet i) ((p.ex d ae i).bd fun t=>(iterT t).bd fun i=>p.fo d ae y i b)
      | _=>.fail
    | _=>.fail
  | .Try b h o fin _=>match fin with
    | []=>(p.ss d ae b).bd fun f=>match f with
      | .next=>p.ss d ae o
      | f=>.ret f
    | _=>.fail
  | st=>xs p d ae st
def ssF (tab:Tab) (xs:XS) (p:Evs) (d:Nat) (ae:AE) (l:List Stmt):M FL:=match l with
  | []=>.ret .next
  | st::r=>(stF tab xs p d ae st).bd fun f=>match f with
    | .next=>p.ss d ae r
    | f=>.ret f
section
variable (prog:Program) (w:World) (cloT:Nat→CloI) (hb:HB)
def SndS (xs:XS):Prop:=∀ p,Snd prog w cloT hb p→∀ A d g f ρ ae env st,Room d A→EnvR ρ ae env→Tri prog w cloT hb A g f ρ (xs p d ae st) (exec st env) (FLR w)
end
section
variable {prog:Program}{w:World}{cloT:Nat→CloI}{hb:HB}{K:Frag}{tab:Tab}{mg mb:Str→Option Value}
variable {A:Around}{g f g' f':PH}{ρ ρ':Rho}{α β γ δ:Type}{E:Value→Shared→Prop}{s:Shared}{xs:XS}{p:Evs}{d:Nat}{ae:AE}{env:Env}
theorem assignEach_len:∀ {l:List Expr},l.all notStar=true→(assignEach l env).length=l.length∧(assignEach l env).findIdx? (·.1)=none
  | [],_=>⟨rfl,rfl⟩
  | x::r,h=>by
    rw [List.all_cons,Bool.and_eq_true] at h
    obtain ⟨i1,i2⟩:=assignEach_len (l:=r) h.2
    rw [assignEach_cons h.1]
    refine ⟨by rw [List.length_cons,i1,List.length_cons],?_⟩
    rw [List.findIdx?_cons,i2]; rfl
theorem pure_of {m:Sem β}{b:β}(h:pureOf m=some b):m=pure b:=of_pureOf h
theorem Tri.assignOne (B:BaseH K mg mb hb) (T:TabOk w.params K tab mg mb) (S:Snd prog w cloT hb p) (r:Room d A) (N:EnvR ρ ae env) {t:TV}{v:Value}{ts:List Expr}(h:VR w.params g ρ t v) :
    Tri prog w cloT hb A g f ρ (match ts with
      | [x]=>match x with
        | .Tuple elts _ _=>Nu.chk (elts.all notStar) ((tupT t elts.length).bd fun l=>(asAll (asF tab p d ae) elts l).bd fun _=>.ret FL.next)
        | x=>(asF tab p d ae x t).bd fun _=>.ret .next
      | _=>.fail) (do assignAll v ((assignEach ts env).map (·.2)); pure Flow.next) (FLR w):=by
  rcases ts with _ | ⟨x,_ | _⟩<;>first | exact .fail | skip
  have one:notStar x=true→Tri prog w cloT hb A g f ρ ((asF tab p d ae x t).bd fun _=>.ret FL.next) (do assignAll v ((assignEach [x] env).map (·.2)); pure Flow.next) (FLR w):=fun hn=>by
    rw [assignEach_cons hn]
    refine .bind (t:=assign x env v) (Tri.as1 B T S r N h) fun g1 f1 ρ1 _ _ E1 _=>.ret .next
  cases x with
  | Tuple elts k pos =>
    refine .chk fun he => ?_
    obtain ⟨l1,l2⟩:=assignEach_len (env:=env) he
    show Tri _ _ _ _ _ _ _ _ _ (do (do standAt pos; unpack v (assignEach elts env)); pure Flow.next) _
    intro σ a σ' c e hc s R
    obtain ⟨l,σ1,c1,c2,e1,e2,hc1,hc2⟩:=bd_inv e hc
    obtain ⟨z,σ2,c3,c4,e3,e4,hc3,hc4⟩:=bd_inv e2 hc2
    cases e4
    refine wpAny_bind (wpAny_bind (wpAny_standAt ?_))
    unfold unpack
    rw [l1,l2]
    refine wpAny_bind (wpAny_holding (unpack_at r.hd R h e1 fun vs h' hv R' => ?_))
    exact wpAny_mono (Tri.asEach B T S r N hv σ1 z _ c3 e3 hc3 _ R') (fun _ s' x=>wpAny_pure (x.mono fun _ _ _ _ _=>.next)) fun _ _ z=>z
  | Starred x p' =>
    intro σ a σ' c e hc s R
    obtain ⟨l,σ1,c1,c2,e1,e2,hc1,hc2⟩:=bd_inv e hc
    cases e1
  | _=>exact one rfl
theorem Tri.asg (B:BaseH K mg mb hb) (T:TabOk w.params K tab mg mb) (S:Snd prog w cloT hb p) (r:Room d A) (N:EnvR ρ ae env) {ts:List Expr}{v:Expr} :
    Tri prog w cloT hb A g f ρ (asgF tab p d ae ts v) (do let x ← eval v env; assignStores env x (← swappedStores ts v env) ((assignEach ts env).map (·.2))) (FLR w):=by
  unfold asgF
  refine .bind (S.ex A d g f ρ ae env v r N) fun g1 f1 ρ1 t u E1 V1 => ?_
  rw [show swappedStores ts v env=swappedStores ts v (envA ae.scope) by rw [← N.sc]; rfl]
  refine .orFail fun o ho => ?_
  rw [pure_of ho]
  refine .quick quick_pure ?_
  cases o with
  | none=>exact Tri.assignOne B T S r (N.mono E1.rl) V1
  | some names =>
    show Tri _ _ _ _ _ _ _ _ _ (do rule "assign.swapped-stores"; let items ← unpackItems u names.length none; assignInOrder (names.reverse.map fun n=>bindName env n) items.reverse; pure Flow.next) _
    refine .quick quick_rule ?_
    intro σ a σ' c e hc s R
    obtain ⟨l,σ1,c1,c2,e1,e2,hc1,hc2⟩:=bd_inv e hc
    obtain ⟨z,σ2,c3,c4,e3,e4,hc3,hc4⟩:=bd_inv e2 hc2
    cases e4
    refine wpAny_bind (unpack_at r.hd R V1 e1 fun vs h' hv R'=>wpAny_bind ?_)
    exact wpAny_mono (Tri.stEach (N.mono E1.rl) hv.reverse σ1 z _ c3 e3 hc3 _ R') (fun _ s' x=>wpAny_pure (x.mono fun _ _ _ _ _=>.next)) fun _ _ z=>z
theorem Tri.aug (B:BaseH K mg mb hb) (T:TabOk w.params K tab mg mb) (S:Snd prog w cloT hb p) (r:Room d A) (N:EnvR ρ ae env) {o:Expr}{attr:Str}{tpos pos:Pos}{v:Expr} :
    Tri prog w cloT hb A g f ρ (augF tab p d ae o attr v) (exec (.AugAssign (.Attribute o attr tpos) .Add v pos) env) (FLR w):=by
  intro σ a σ' c e hc s R
  obtain ⟨ov,σ1,c1,c2,e1,e2,hc1,hc2⟩:=bd_inv e hc
  obtain ⟨old,σ2,c3,c4,e3,e4,hc3,hc4⟩:=bd_inv e2 hc2
  obtain ⟨nv,σ3,c5,c6,e5,e6,hc5,hc6⟩:=bd_inv e4 hc4
  obtain ⟨rv,σ4,c7,c8,e7,e8,hc7,hc8⟩:=bd_inv e6 hc6
  obtain ⟨z,σ5,c9,c10,e9,e10,hc9,hc10⟩:=bd_inv e8 hc8
  cases e10
  show wpAny _ _ (do
    standAt pos
    let ov ← eval o env
    let new ← PySem.holding [ov] do
      standAt tpos.atName
      let old ← getAttr ov attr true
      let v ← PySem.holding [old] (eval v env)
      standAt pos
      PySem.operate [old,v] (inplaceOp .Add old v)
    standAt tpos.atName
    PySem.holding [new,ov] (setAttr ov attr new)
    release [new,ov] []
    pure Flow.next) _ _ _
  refine wpAny_bind (wpAny_standAt (wpAny_bind (wpAny_mono (S.ex A d g f ρ ae env o r N σ ov σ1 c1 e1 hc1 s R) (fun u1 s1 x1 => ?_) fun _ _ z=>z)))
  obtain ⟨g1,f1,ρ1,E1,R1,V1⟩:=x1
  refine wpAny_bind (wpAny_holding (wpAny_bind (wpAny_standAt (wpAny_bind (wpAny_mono (Tri.getA B T V1 σ1 old σ2 c3 e3 hc3 s1 R1) (fun u2 s2 x2 => ?_) fun _ _ z=>z)))))
  obtain ⟨g2,f2,ρ2,E2,R2,V2⟩:=x2
  refine wpAny_bind (wpAny_holding (wpAny_mono (S.ex A d g2 f2 ρ2 ae env v r (N.mono (Rho.le_trans E1.rl E2.rl)) σ2 nv σ3 c5 e5 hc5 s2 R2) (fun u3 s3 x3 => ?_) fun _ _ z=>z))
  obtain ⟨g3,f3,ρ3,E3,R3,V3⟩:=x3
  refine wpAny_bind (wpAny_standAt (wp_operate (wpAny_mono (Tri.iadd (V2.mono E3.gl E3.rl) V3 σ3 rv σ4 c7 e7 hc7 s3 R3) (fun u4 s4 x4 => ?_) fun _ _ z=>z)))
  obtain ⟨g4,f4,ρ4,E4,R4,V4⟩:=x4
  have E:=E2.trans (E3.trans E4)
  refine wpAny_bind (wpAny_standAt (wpAny_bind (wpAny_holding (wpAny_mono (Tri.setA B T (V1.mono E.gl E.rl) V4 σ4 z _ c9 e9 hc9 s4 R4) (fun _ s5 x5 => ?_) fun _ _ z=>z))))
  exact wpAny_bind (quick_release _ _ _ _ (wpAny_pure ((x5.mono fun _ _ _ _ _=>.next).under (E1.trans E))))
theorem notSet_of {i:Expr}(h:notSet i=true) (x:Value):foldedSetIterable i env x=pure x:=by
  cases i<;>first | rfl | (cases h)
theorem interactive_fn (N:EnvR ρ ae env):interactive env=false:=by
  unfold interactive
  rw [N.sc,N.fn]; rfl
theorem Tri.st (B:BaseH K mg mb hb) (T:TabOk w.params K tab mg mb) (X:SndS prog w cloT hb xs) (S:Snd prog w cloT hb p) (r:Room d A) (N:EnvR ρ ae env) {st:Stmt} :
    Tri prog w cloT hb A g f ρ (stF tab xs p d ae st) (exec st env) (FLR w):=by
  unfold stF
  cases st with
  | Expr e pos =>
    refine .orFail fun b hb'=>.ifB (fun _=>.fail) fun h => ?_
    subst h
    have hb':=pure_of hb'
    rw [← N.sc,← swaps1_scope] at hb'
    rw [exec_Expr env e pos (interactive_fn N) hb']
    refine .at_ ?_
    intro σ a σ' c e' hc s R
    obtain ⟨t,σ1,c1,c2,e1,e2,hc1,hc2⟩:=bd_inv e' hc
    cases e2
    exact wpAny_bind (wpAny_mono (S.ex A d g f ρ ae env e r N σ t _ c1 e1 hc1 s R) (fun v s' x=>wpAny_dropValue (x.mono fun _ _ _ _ _=>.next)) fun _ _ z=>z)
  | Pass pos=>exact .at_ (.ret .next)
  | Return o pos =>
    cases o with
    | none=>exact .at_ (.ret (.ret .none))
    | some e =>
      rw [exec_Return_some]
      refine .at_ (.bind (S.ex A d g f ρ ae env e r N) fun g1 f1 ρ1 t u E1 V1=>.ret (.ret V1))
  | Assign ts v pos =>
    refine .orFail fun b hb'=>.ifB (fun _=>X p S A d g f ρ ae env _ r N) fun h => ?_
    subst h
    have hb':=pure_of hb'
    rw [← N.sc,← swaps_scope] at hb'
    show Tri _ _ _ _ _ _ _ _ _ (do
      standAt pos
      if ← swapsWithSole ts v pos.line env then do
        evalThenUse v env fun v=>assignAll v ((assignEach ts env).map (·.2))
        pure Flow.next
      else do
        let x ← eval v env
        assignStores env x (← swappedStores ts v env) ((assignEach ts env).map (·.2))) _
    refine .at_ ?_
    rw [hb']
    exact .quick quick_pure (Tri.asg B T S r N)
  | AugAssign x op v pos =>
    cases x with
    | Attribute o attr tpos =>
      cases op with
      | Add=>exact Tri.aug B T S r N
      | _=>exact .fail
    | _=>exact .fail
  | If t b o pos =>
    rw [exec_If]
    refine .at_ (.bind (S.tr A d g f ρ ae env t r N) fun g1 f1 ρ1 c u E1 V1 => ?_)
    have V1:u=c:=V1
    subst V1
    refine .ifB (fun h => ?_) fun h => ?_
    · subst h; exact S.ss A d g1 f1 ρ1 ae env b r (N.mono E1.rl)
    · subst h; exact S.ss A d g1 f1 ρ1 ae env o r (N.mono E1.rl)
  | While t b o pos =>
    cases o with
    | nil=>exact Tri.whileS S r N
    | cons _ _=>exact .fail
  | For x i b o pos =>
    cases x with
    | Name y px =>
      cases o with
      | nil=>exact .chk fun h=>Tri.forS S r N (fun x=>notSet_of h x)
      | cons _ _=>exact .fail
    | _=>exact .fail
  | Try b h o fin pos =>
    cases fin with
    | cons _ _=>exact .fail
    | nil =>
      rw [arm_exec_Try]
      refine .at_ ?_
      intro σ a σ' c e hc s R
      obtain ⟨fl,σ1,c1,c2,e1,e2,hc1,hc2⟩:=bd_inv e hc
      unfold tryStmt
      show wpAny _ _ (do
        match ← (execs b env).attempt with
        | .ok .next=>execs o env
        | .ok f=>pure f
        | .error e =>
          noteFrame e env
          if h.isEmpty then throw e
          setFlight e none
          if false&&h.any (fun | .ExceptHandler none .. => true | _=>false) then unsupported "internal:except-star-without-type"
          if false then runOwn (.starHandlers e e (← newList []) h env) env (some e) else handleBy e env h) _ _ _
      refine wpAny_bind (wpAny_attempt (wpAny_mono (S.ss A d g f ρ ae env b r N σ fl σ1 c1 e1 hc1 s R) (fun v s' x => ?_) fun _ _ z=>z.elim))
      obtain ⟨g1,f1,ρ1,E1,R1,V1⟩:=x
      cases V1 with
      | next=>exact wpAny_mono (S.ss A d g1 f1 ρ1 ae env o r (N.mono E1.rl) σ1 a σ' c2 e2 hc2 s' R1) (fun v s' x=>x.under E1) fun _ _ z=>z
      | brk=>cases e2; exact wpAny_pure ⟨g1,f1,ρ1,E1,R1,.brk⟩
      | cont=>cases e2; exact wpAny_pure ⟨g1,f1,ρ1,E1,R1,.cont⟩
      | ret V=>cases e2; exact wpAny_pure ⟨g1,f1,ρ1,E1,R1,.ret V⟩
  | _=>exact X p S A d g f ρ ae env _ r N
theorem Tri.ssAll (B:BaseH K mg mb hb) (T:TabOk w.params K tab mg mb) (X:SndS prog w cloT hb xs) (S:Snd prog w cloT hb p) (r:Room d A) (N:EnvR ρ ae env) {l:List Stmt} :
    Tri prog w cloT hb A g f ρ (ssF tab xs p d ae l) (execs l env) (FLR w):=by
  unfold ssF
  cases l with
  | nil=>exact .ret .next
  | cons st l =>
    intro σ a σ' c e hc s R
    obtain ⟨fl,σ1,c1,c2,e1,e2,hc1,hc2⟩:=bd_inv e hc
    refine wpAny_execs_cons (wpAny_mono (Tri.st B T X S r N σ fl σ1 c1 e1 hc1 s R) (fun v s' x => ?_) fun _ _ z=>z)
    obtain ⟨g1,f1,ρ1,E1,R1,V1⟩:=x
    cases V1 with
    | next=>exact wpAny_mono (S.ss A d g1 f1 ρ1 ae env l r (N.mono E1.rl) σ1 a σ' c2 e2 hc2 s' R1) (fun v s' x=>x.under E1) fun _ _ z=>z
    | brk=>cases e2; exact ⟨g1,f1,ρ1,E1,R1,.brk⟩
    | cont=>cases e2; exact ⟨g1,f1,ρ1,E1,R1,.cont⟩
    | ret V=>cases e2; exact ⟨g1,f1,ρ1,E1,R1,.ret V⟩
end
end
section
def foldP (l:List (Str×TV)):List (Str×TV)→List (Str×TV):=@List.rec (Str×TV) (fun _=>List (Str×TV)→List (Str×TV)) (fun acc=>acc) (fun p _ ih acc=>ih (puF acc p.1 p.2)) l
theorem foldP_cons (p:Str×TV) (l acc:List (Str×TV)):foldP (p::l) acc=foldP l (puF acc p.1 p.2):=rfl
def updT (a b:TV):M TV:=match a with
  | .ref i=>match b with
    | .ref j=>chk (!(Nat.beq i j)) ((getC i).bd fun c=>match c with
      | .sdic fs=>(getC j).bd fun c=>match c with
        | .sdic gs=>chk (Nat.ble (fs.length+gs.length) 900) ((putC i (.sdic (foldP gs fs))).bd fun _=>.ret .none)
        | _=>.fail
      | _=>.fail)
    | _=>.fail
  | _=>.fail
section
variable {prog:Program}{w:World}{cloT:Nat→CloI}{hb:HB}{K:Frag}{tab:Tab}{mg mb:Str→Option Value}
variable {A:Around}{g f g' f':PH}{ρ ρ':Rho}{α β γ δ:Type}{E:Value→Shared→Prop}{s:Shared}{d:Nat}
theorem stored_nodup {es:List (Key×Value)}{k:Key}{v:Value}(h:(es.map (·.1)).Nodup):((stored es k v).map (·.1)).Nodup:=by
  unfold stored
  split
  · rw [List.map_map]
    have:es.map ((fun x=>x.1)∘fun kv=>if kv.1=k then (kv.1,v) else kv)=es.map (·.1):=by
      refine List.map_congr_left fun kv _ => ?_
      show (if kv.1=k then (kv.1,v) else kv).1=kv.1
      split<;>rfl
    rw [this]; exact h
  · rename_i q
    rw [List.map_append]
    refine List.nodup_append.mpr ⟨h,by simp,fun a ha b hb => ?_⟩
    simp at hb
    subst hb
    rintro rfl
    obtain ⟨kv,hk,e⟩:=List.mem_map.mp ha
    exact q (List.any_eq_true.mpr ⟨kv,hk,by simpa using e⟩)
theorem FS.merge {P:Params}{gs:List (Str×TV)}{more:List (Key×Value)}(y:FS P g ρ gs more):∀ {fs:List (Str×TV)}{es:List (Key×Value)},FS P g ρ fs es→(es.map (·.1)).Nodup→FS P g ρ (foldP gs fs) (merged es more)∧(merged es more).length≤es.length+more.length:=by
  induction more generalizing gs with
  | nil=>cases y; exact fun x _=>⟨x,Nat.le_refl _⟩
  | cons e more ih =>
    cases y with
    | @cons n t v gs _ a r =>
      intro fs es x hn
      obtain ⟨i1,i2⟩:=ih r (x.put (y:=n) a hn) (stored_nodup hn)
      refine ⟨i1,?_⟩
      have:=stored_length_le es (Key.s n) v
      have i2:(merged es ((Key.s n,v)::more)).length≤_:=i2
      rw [List.length_cons]
      omega
theorem two_adr {σ:St}{i j a b da db:Nat}{c c':Cell}(R:RelS prog w cloT hb σ g f ρ s) (hi:lkC σ.cells i=some c) (hj:lkC σ.cells j=some c') (ei:ρ i=some (a,da)) (ej:ρ j=some (b,db)) (h:i≠j):a≠b:=by
  obtain ⟨l1,l2,e,_⟩:=lkC_split hi
  have nd:=R.r.nd
  rw [e,adrs_append,adrs_cons] at nd
  obtain ⟨_,nd2,nd3⟩:=List.nodup_append.mp nd
  have ia:a∈adr ρ (i,c):=by unfold adr; dsimp only; rw [ei]; dsimp only; split<;>simp
  have hm:=lkC_mem hj
  rw [e] at hm
  rintro rfl
  rcases List.mem_append.mp hm with hm | hm
  · exact nd3 a (mem_adrs.mpr ⟨j,c',a,db,hm,ej,.inl rfl⟩) a (List.mem_append_left _ ia) rfl
  · rcases List.mem_cons.mp hm with q | hm
    · cases q; exact h rfl
    · exact (List.nodup_append.mp nd2).2.2 a ia a (mem_adrs.mpr ⟨j,c',a,db,hm,ej,.inl rfl⟩) rfl
theorem Tri.upd (B:BaseH K mg mb hb) {a b:TV}{v u:Value}(h:VR w.params g ρ a v) (h':VR w.params g ρ b u):Tri prog w cloT hb A g f ρ (updT a b) (call (.builtin "dict.update") [v,u]) (VRp w):=by
  intro σ t σ' c e hc s R
  unfold updT at e
  cases h with
  | @ref i x dx hi =>
    cases h' with
    | @ref j y dy hj =>
      obtain ⟨h1,e⟩:=chk_inv e
      have hne:i≠j:=by rintro rfl; rw [BT.beq_eq] at h1; simp at h1
      obtain ⟨ci,hci,e⟩:=getC_inv e
      cases ci<;>first | (cases e; done) | skip
      rename_i fs
      obtain ⟨cj,hcj,e⟩:=getC_inv e
      cases cj<;>first | (cases e; done) | skip
      rename_i gs
      obtain ⟨h2,e⟩:=chk_inv e
      have h2:=ble_k h2
      cases e
      obtain ⟨o,es,o1,o2,o3,o4⟩:=R.cell hci hi
      obtain ⟨o',es',p1,p2,p3,p4⟩:=R.cell hcj hj
      have hxy:=two_adr R hci hcj hi hj hne
      have low:=R.notLow B (mem_adrs.mpr ⟨j,_,y,dy,lkC_mem hcj,hj,.inl rfl⟩)
      have hD:s.heap.DictOf (keyKind prog w) x es:=Heap.dictOf_iff.mpr ⟨o,o1,o2⟩
      have hnd:=o2.choose_spec.choose_spec.2.2.2.2
      obtain ⟨m1,m2⟩:=p3.merge o3 hnd
      rw [o3.length,p3.length] at h2
      refine call_meetsIn PySem.F.slot_dict_update hD.typeIs PySem.F.entry_dict_update (PySem.F.args_dict_update_2 _ _) (meets_dict_update (keyKind prog w) x y hxy low)
        ⟨es,es',hD,Heap.dictOf_iff.mpr ⟨o',p1,p2⟩,k_line (by omega),fun h' hmm _ hs => ?_⟩
      obtain ⟨o'',q1,q2⟩:=Heap.dictOf_iff.mp hmm
      exact .same (R.put (s':={ s with heap:=h' }) hci hi rfl (.inl rfl) (sameBut_k hs) ⟨o'',_,q1,q2,m1,by omega⟩) .none
    | _=>cases e
  | _=>cases e
end
end
section
def maxT (a b:TV):M TV:=match a with
  | .int x=>match b with
    | .int y=>ifB (decide (x<y)) (.ret (.int y)) (.ret (.int x))
    | _=>.fail
  | _=>.fail
def isBoolT (t:TV):M TV:=match t with
  | .bool _=>.ret (.bool true)
  | .sym _=>.ret (.bool true)
  | .none=>.ret (.bool false)
  | .int _=>.ret (.bool false)
  | .sint _=>.ret (.bool false)
  | _=>.fail
def keysT (l:List (Str×TV)):List TV:=@List.rec (Str×TV) (fun _=>List TV) [] (fun p _ ih=>.str p.1::ih) l
def listT (t:TV):M TV:=match t with
  | .ref i=>(getC i).bd fun c=>match c with
    | .lst xs=>(newC (.lst xs)).bd fun j=>.ret (.ref j)
    | .sdic fs=>(newC (.lst (keysT fs))).bd fun j=>.ret (.ref j)
    | _=>.fail
  | .lst xs=>chk (Nat.ble xs.length 1000) ((newC (.lst xs)).bd fun j=>.ret (.ref j))
  | .tup xs=>chk (Nat.ble xs.length 1000) ((newC (.lst xs)).bd fun j=>.ret (.ref j))
  | _=>.fail
def tupleT (t:TV):M TV:=match t with
  | .tup xs=>.ret (.tup xs)
  | _=>.fail
def intT (t:TV):M TV:=match t with
  | .bool true=>.ret (.int 1)
  | .bool false=>.ret (.int 0)
  | _=>.fail
def absT (t:TV):M TV:=match t with
  | .sint i=>.ret (.sint (if i<0 then -i else i))
  | _=>.fail
def biF (tab:Tab) (k:Nat) (args:List TV):M TV:=match args with
  | []=>.fail
  | a::r=>match r with
    | []=>match k with
      | 0=>lenT a
      | 3=>absT a
      | 5=>popT a
      | _=>.fail
    | b::r=>match r with
      | []=>match k with
        | 1=>maxT a b
        | 2=>match b with
          | .type 4=>isBoolT a
          | _=>.fail
        | 4=>appT a b
        | 5=>match b with
          | .int (.ofNat 0)=>pop0 a
          | _=>.fail
        | 6=>getD tab a b none
        | 7=>updT a b
        | _=>.fail
      | c::r=>match r with
        | []=>match k with
          | 6=>getD tab a b (some c)
          | _=>.fail
        | _=>.fail
def tyF (k:Nat) (args:List TV):M TV:=match args with
  | [a]=>match k with
    | 0=>listT a
    | 1=>tupleT a
    | 2=>intT a
    | 3=>rangeT a
    | _=>.fail
  | _=>.fail
section
variable {prog:Program}{w:World}{cloT:Nat→CloI}{hb:HB}{K:Frag}{tab:Tab}{mg mb:Str→Option Value}
variable {A:Around}{g f g' f':PH}{ρ ρ':Rho}{α β γ δ:Type}{E:Value→Shared→Prop}{s:Shared}{d:Nat}
theorem Tri.max {a b:TV}{v u:Value}(r:Room d A) (h:VR w.params g ρ a v) (h':VR w.params g ρ b u):Tri prog w cloT hb A g f ρ (maxT a b) (call (.builtin "max") [v,u]) (VRp w):=by
  intro σ t σ' c e hc s R
  unfold maxT at e
  cases h with
  | @int x tk =>
    cases h' with
    | @int y tk' =>
      refine max_two_ints r.hd fun h1 tk1 hk => ?_
      have R':RelS prog w cloT hb σ g f ρ { s with heap:=h1,toks:=tk1 }:=R.grow hk
      rcases ifB_inv e with ⟨hb',e⟩ | ⟨hb',e⟩
      · cases e
        rw [if_pos (by simpa using hb')]; exact .same R' .int
      · cases e
        rw [if_neg (by simpa using hb')]; exact .same R' .int
    | _=>cases e
  | _=>cases e
theorem Tri.isB {a:TV}{v:Value}(h:VR w.params g ρ a v):Tri prog w cloT hb A g f ρ (isBoolT a) (call (.builtin "isinstance") [v,.type "bool"]) (VRp w):=by
  intro σ t σ' c e hc s R
  unfold isBoolT at e
  cases h<;>first | (cases e; done) | (cases e; skip)
  · exact IsiPair.NoneType_bool (.same (R.toks rfl) .bool)
  · exact IsiPair.bool_bool (.same R .bool)
  · exact IsiPair.bool_bool (.same R .bool)
  · exact IsiPair.int_bool (.same (R.toks rfl) .bool)
  · exact IsiPair.int_bool (.same (R.toks rfl) .bool)
theorem keysT_at {P:Params}{fs:List (Str×TV)}{es:List (Key×Value)}(F:FS P g ρ fs es):∀ {vs:List Value},vs.length=es.length→(∀ (j:Nat) (v:Value),vs[j]?=some v→∃ (k:Key) (x:Value),es[j]?=some (k,x)∧(keyKind prog w).is k v=true)→VRs P g ρ (keysT fs) vs:=by
  induction es generalizing fs with
  | nil =>
    intro vs hl _
    cases F
    cases vs with
    | nil=>exact .nil
    | cons _ _=>simp at hl
  | cons e es ih =>
    intro vs hl hv
    cases F with
    | @cons n t v fs es a r =>
      cases vs with
      | nil=>simp at hl
      | cons u us =>
        refine .cons ?_ (ih r (by simpa using hl) fun j z hz=>by simpa using hv (j+1) z (by simpa using hz))
        obtain ⟨k,x,e,hk⟩:=hv 0 u rfl
        simp at e
        obtain ⟨rfl,rfl⟩:=e
        obtain ⟨tk,rfl⟩:=Value.isStrOf_shape (show Value.isStrOf n u=true from hk)
        exact .str
theorem RelS.newL' {σ:St}{xs:List TV}{vs:Array Value}{n:Nat}{h':Heap}{tk:Tok}(R:RelS prog w cloT hb σ g f ρ s) (h:VRs w.params g ρ xs vs.toList) (hz:vs.size≤szL) (hk:∀ b o,s.heap.get? b=some o→h'.get? b=some o) (hh:h'.get? s.heap.objs.size=some ⟨.type "list",none,.seq vs n,#[]⟩) :
    Back prog w cloT hb g f ρ ⟨(σ.next,.lst xs)::σ.cells,σ.next+1,σ.dirs⟩ (.ref σ.next) (VRp w) (.ref s.heap.objs.size) { s with heap:=h',toks:=tk }:=by
  obtain ⟨R',E'⟩:=R.new (c:=.lst xs) (a:=s.heap.objs.size) (d:=0) (s':={ s with heap:=h',toks:=tk }) hk (fresh_none _) (fun t=>by cases t)
    ⟨vs,n,hh,h.mono (PH.le_refl _) (Rho.add_le (R.n _ (Nat.le_refl _))),hz⟩
  exact ⟨_,_,_,E',R',.ref Rho.add_at⟩
theorem Tri.list (B:BaseH K mg mb hb) (r:Room d A) {a:TV}{v:Value}(h:VR w.params g ρ a v):Tri prog w cloT hb A g f ρ (listT a) (call (.type "list") [v]) (VRp w):=by
  intro σ t σ' c e hc s R
  unfold listT at e
  cases h with
  | @lst xs b vs n h1 h2 =>
    obtain ⟨hz,e⟩:=chk_inv e
    have e:=newC_inv e
    cases e
    have hz:=ble_k hz
    rw [← h2.sizeA] at hz
    exact call_list_seq b (.inl rfl) (R.gk h1) rfl rfl (fun h' c' hk hD=>R.newL' h2 (by unfold szL; omega) hk hD) (k_line hz)
  | @tup xs b vs n h1 h2 =>
    obtain ⟨hz,e⟩:=chk_inv e
    have e:=newC_inv e
    cases e
    have hz:=ble_k hz
    rw [← h2.sizeA] at hz
    exact call_list_seq b (.inr rfl) (R.gk h1) rfl rfl (fun h' c' hk hD=>R.newL' h2 (by unfold szL; omega) hk hD) (k_line hz)
  | @ref i b d hi =>
    obtain ⟨x,hx,e⟩:=getC_inv e
    cases x with
    | lst xs =>
      have e:=newC_inv e
      cases e
      obtain ⟨vs,n,o1,o2,o3⟩:=R.cell hx hi
      exact call_list_seq b (.inl rfl) o1 rfl rfl (fun h' c' hk hD=>R.newL' o2 o3 hk hD) (szL_line o3)
    | sdic fs =>
      have low:(b==sysModules)=false:=R.notLow B (mem_adrs.mpr ⟨i,_,b,d,lkC_mem hx,hi,.inl rfl⟩)
      have e:=newC_inv e
      cases e
      obtain ⟨o,es,o1,o2,o3,o4⟩:=R.cell hx hi
      obtain ⟨ep,hat⟩:=(Heap.dictOf_iff.mpr ⟨o,o1,o2⟩:s.heap.DictOf (keyKind prog w) b es).dictAt
      refine kdl_call (kdl_dict low) r.hd hat (k_line o4) fun h' tk acc' c' hk hD hi'=>R.newL' (keysT_at (prog:=prog) (w:=w) o3 (vs:=acc'.toList) ?_ ?_) ?_ hk hD
      · rw [Array.length_toList]; exact hi'.1
      · intro j v hv; exact hi'.2 j v (by rw [← Array.getElem?_toList]; exact hv)
      · rw [hi'.1]; unfold szL; omega
    | _=>cases e
  | _=>cases e
theorem Tri.tuple {a:TV}{v:Value}(h:VR w.params g ρ a v):Tri prog w cloT hb A g f ρ (tupleT a) (call (.type "tuple") [v]) (VRp w):=by
  intro σ t σ' c e hc s R
  unfold tupleT at e
  cases h with
  | tup h1 h2=>cases e; exact call_tuple_tup (exact_tup (R.gk h1)) (.same R (.tup h1 h2))
  | _=>cases e
theorem Tri.intB {a:TV}{v:Value}(h:VR w.params g ρ a v):Tri prog w cloT hb A g f ρ (intT a) (call (.type "int") [v]) (VRp w):=by
  intro σ t σ' c e hc s R
  unfold intT at e
  cases h with
  | @bool b =>
    cases b with
    | true=>cases e; exact PySem.call_int_bool (.same (R.toks rfl) .int)
    | false=>cases e; exact PySem.call_int_bool (.same (R.toks rfl) .int)
  | _=>cases e
theorem VRs.one {P:Params}{a:TV}{vs:List Value}(h:VRs P g ρ [a] vs):∃ v,vs=[v]∧VR P g ρ a v:=by
  cases h with | cons x y=>cases y; exact ⟨_,rfl,x⟩
theorem VRs.two {P:Params}{a b:TV}{vs:List Value}(h:VRs P g ρ [a,b] vs):∃ v u,vs=[v,u]∧VR P g ρ a v∧VR P g ρ b u:=by
  cases h with | cons x y=>obtain ⟨u,rfl,z⟩:=y.one; exact ⟨_,_,rfl,x,z⟩
theorem VRs.three {P:Params}{a b c:TV}{vs:List Value}(h:VRs P g ρ [a,b,c] vs):∃ v u z,vs=[v,u,z]∧VR P g ρ a v∧VR P g ρ b u∧VR P g ρ c z:=by
  cases h with | cons x y=>obtain ⟨u,z,rfl,p,q⟩:=y.two; exact ⟨_,_,_,rfl,x,p,q⟩
theorem Tri.abs {t:TV}{v:Value}(h:VR w.params g ρ t v):Tri prog w cloT hb A g f ρ (absT t) (call (.builtin "abs") [v]) (VRp w):=by
  intro σ a σ' c e hc s R
  cases h with
  | sint=>cases e; exact call_abs_int fun u tk=>.same (R.toks rfl) .sint
  | _=>cases e
theorem Tri.bi (B:BaseH K mg mb hb) (T:TabOk w.params K tab mg mb) (r:Room d A) {k:Nat}{ts:List TV}{vs:List Value}(h:VRs w.params g ρ ts vs):Tri prog w cloT hb A g f ρ (biF tab k ts) (call (.builtin (biN k)) vs) (VRp w):=by
  unfold biF
  rcases ts with _ | ⟨a,_ | ⟨b,_ | ⟨c,_ | _⟩⟩⟩<;>dsimp only
  · exact .fail
  · obtain ⟨v,rfl,h1⟩:=h.one
    split
    · exact Tri.len h1
    · exact Tri.abs h1
    · exact Tri.pop h1
    · exact .fail
  · obtain ⟨v,u,rfl,h1,h2⟩:=h.two
    split
    · exact Tri.max r h1 h2
    · split
      · cases h2; exact Tri.isB h1
      · exact .fail
    · exact Tri.app h1 h2
    · split
      · cases h2; exact Tri.pop0 h1
      · exact .fail
    · exact Tri.getD1 B T h1 h2
    · exact Tri.upd B h1 h2
    · exact .fail
  · obtain ⟨v,u,z,rfl,h1,h2,h3⟩:=h.three
    split
    · exact Tri.getD2 B T h1 h2 h3
    · exact .fail
  · exact .fail
theorem Tri.ty (B:BaseH K mg mb hb) (r:Room d A) {k:Nat}{ts:List TV}{vs:List Value}(h:VRs w.params g ρ ts vs):Tri prog w cloT hb A g f ρ (tyF k ts) (call (.type (tyN k)) vs) (VRp w):=by
  unfold tyF
  rcases ts with _ | ⟨a,_ | _⟩<;>dsimp only
  · exact .fail
  · obtain ⟨v,rfl,h1⟩:=h.one
    split
    · exact Tri.list B r h1
    · exact Tri.tuple h1
    · exact Tri.intB h1
    · exact Tri.range h1
    · exact .fail
  · exact .fail
end
end
section
def isLoc (names:List (Str×NameKind)) (n:Str):Bool:=match lkF names n with
  | some .local=>true
  | _=>false
def locT (names:List (Str×NameKind)) (l:List (Str×TV)):List (Str×TV)→List (Str×TV):=@List.rec (Str×TV) (fun _=>List (Str×TV)→List (Str×TV)) (fun acc=>acc) (fun p _ ih acc=>@Bool.rec (fun _=>List (Str×TV)) (ih acc) (ih (puF acc p.1 p.2)) (isLoc names p.1)) l
def celT (names:List (Str×NameKind)) (l:List (Str×TV)):List (Str×TV)→List (Str×TV):=@List.rec (Str×TV) (fun _=>List (Str×TV)→List (Str×TV)) (fun acc=>acc) (fun p _ ih acc=>@Bool.rec (fun _=>List (Str×TV)) (ih (puF acc p.1 p.2)) (ih acc) (isLoc names p.1)) l
def cellsM (bc:List (Str×TV)):List (Str×NameKind)→List (Str×Nat)→M (List (Str×Nat))
  | [],acc=>.ret acc
  | (n,k)::r,acc=>match k with
    | .cell=>(newC (.cel (lkF bc n))).bd fun i=>cellsM bc r ((n,i)::acc)
    | _=>cellsM bc r acc
def endF (L:Nat) (f:FL):M TV:=(getC L).bd fun c=>match c with
  | .ns _=>(dropC L).bd fun _=>match f with
    | .ret t=>.ret t
    | _=>.ret .none
  | _=>.fail
def bindT (i:FnI) (args:List TV):List (Str×TV):=i.nm.zip (args++i.op.drop (args.length - (i.nm.length - i.op.length)))
def coF' (i:FnI):Option (Nat×Str):=match i.co with
  | some c=>some (c,i.qual)
  | none=>none
def bodyF (p:Evs) (d:Nat) (i:FnI) (bt:List (Str×TV)):M TV :=
  (newC (.ns (locT i.scope.names bt []))).bd fun L=>(cellsM (celT i.scope.names bt []) i.scope.names []).bd fun cs=>(p.ss d ⟨i.scope,L,cs,coF' i⟩ i.body).bd fun f=>endF L f
def fnF (p:Evs) (d:Nat) (i:FnI) (args:List TV):M TV:=chk (Nat.ble (i.nm.length - i.op.length) args.length) (chk (Nat.ble args.length i.nm.length) (bodyF p d i (bindT i args)))
inductive BR (P:Params) (g:PH) (ρ:Rho):List (Str×TV)→List (Str×Value)→Prop
  | nil:BR P g ρ [] []
  | cons {n t v r r'}:VR P g ρ t v→BR P g ρ r r'→BR P g ρ ((n,t)::r) ((n,v)::r')
section
variable {prog:Program}{w:World}{cloT:Nat→CloI}{hb:HB}{K:Frag}{tab:Tab}{mg mb:Str→Option Value}
variable {A:Around}{g f g' f':PH}{ρ ρ':Rho}{α β γ δ:Type}{E:Value→Shared→Prop}{s:Shared}{p:Evs}{d:Nat}
theorem BR.zip {P:Params}:∀ {ns:List Str}{ts:List TV}{vs:List Value},VRs P g ρ ts vs→BR P g ρ (ns.zip ts) (ns.zip vs)
  | [],_,_,_=>by simpa using BR.nil
  | _::_,[],[],.nil=>.nil
  | n::ns,t::ts,v::vs,.cons a r=>.cons a (BR.zip r)
theorem BR.names {P:Params}{bt:List (Str×TV)}{bv:List (Str×Value)}(h:BR P g ρ bt bv):bt.map (·.1)=bv.map (·.1):=by
  induction bv generalizing bt with
  | nil=>cases h; rfl
  | cons b r ih=>cases h with | cons _ y=>simp [ih y]
theorem isLoc_iff {names:List (Str×NameKind)}{n:Str}:isLoc names n=true ↔ names.lookup n=some .local:=by
  unfold isLoc
  rw [lkF_lookup]
  split<;>simp_all
theorem OptR.put {P:Params}{acc:List (Str×TV)}{m:Str→Option Value}{n:Str}{t:TV}{v:Value}(h:∀ x,OptR P g ρ (lkF acc x) (m x)) (hv:VR P g ρ t v):∀ x,OptR P g ρ (lkF (puF acc n t) x) (if x=n then some v else m x):=fun x=>by
  rw [lkF_puF]
  by_cases q:x=n
  · rw [if_pos q,if_pos q]; exact ⟨v,rfl,hv⟩
  · rw [if_neg q,if_neg q]; exact h x
theorem locT_at {P:Params}{names:List (Str×NameKind)}{kf:Str→Option NameKind}(hk:∀ n,kf n=names.lookup n) {bt:List (Str×TV)}{bv:List (Str×Value)}(h:BR P g ρ bt bv) :
    ∀ {acc:List (Str×TV)}{m:Str→Option Value},(∀ x,OptR P g ρ (lkF acc x) (m x))→∀ x,OptR P g ρ (lkF (locT names bt acc) x) (bindL kf bv m x):=by
  induction bv generalizing bt with
  | nil=>cases h; exact fun h=>h
  | cons b r ih =>
    cases h with
    | @cons n t v bt r a y =>
      intro acc m hm
      show ∀ x,OptR P g ρ (lkF (@Bool.rec (fun _=>List (Str×TV)) (locT names bt acc) (locT names bt (puF acc n t)) (isLoc names n)) x) (bindL kf r (if kf n=some .local then fun y=>if y=n then some v else m y else m) x)
      cases q:isLoc names n with
      | true =>
        rw [if_pos (by rw [hk]; exact isLoc_iff.mp q)]
        exact ih y (OptR.put hm a)
      | false =>
        rw [if_neg (by rw [hk]; intro e; rw [isLoc_iff.mpr e] at q; cases q)]
        exact ih y hm
theorem celT_at {P:Params}{names:List (Str×NameKind)}{kf:Str→Option NameKind}(hk:∀ n,kf n=names.lookup n) {bt:List (Str×TV)}{bv:List (Str×Value)}(h:BR P g ρ bt bv) :
    ∀ {acc:List (Str×TV)}{m:Str→Option Value},(∀ x,OptR P g ρ (lkF acc x) (m x))→∀ x,OptR P g ρ (lkF (celT names bt acc) x) (bindC kf bv m x):=by
  induction bv generalizing bt with
  | nil=>cases h; exact fun h=>h
  | cons b r ih =>
    cases h with
    | @cons n t v bt r a y =>
      intro acc m hm
      show ∀ x,OptR P g ρ (lkF (@Bool.rec (fun _=>List (Str×TV)) (celT names bt (puF acc n t)) (celT names bt acc) (isLoc names n)) x) (bindC kf r (if kf n=some .local then m else fun y=>if y=n then some v else m y) x)
      cases q:isLoc names n with
      | true =>
        rw [if_pos (by rw [hk]; exact isLoc_iff.mp q)]
        exact ih y hm
      | false =>
        rw [if_neg (by rw [hk]; intro e; rw [isLoc_iff.mpr e] at q; cases q)]
        exact ih y (OptR.put hm a)
theorem Rel.newAt {l:List Ent}{h:Heap}(R:Rel prog w cloT g f h ρ l) {i a:Nat}{c:Cell}(hi:ρ i=none) (hn:a∉adrs ρ l) (hf:f a=none) (ht:c.two=false) (hc:CellAt prog w cloT g (ρ.add i a 0) h a 0 c):Rel prog w cloT g f h (ρ.add i a 0) ((i,c)::l):=by
  have hle:=Rho.add_le (a:=a) (d:=0) hi
  have R':=R.rho hle
  have e:adrs (ρ.add i a 0) l=adrs ρ l:=R.adrs_le hle
  have e1:adr (ρ.add i a 0) (i,c)=[a]:=by unfold adr; dsimp only; rw [Rho.add_at]; dsimp only; rw [ht]; rfl
  refine ⟨R.gf,R'.keep,fun j c' hm => ?_,fun x hx => ?_,?_⟩
  · rcases List.mem_cons.mp hm with q | hm
    · cases q; exact ⟨a,0,Rho.add_at,hc⟩
    · exact R'.at_ j c' hm
  · rw [adrs_cons,e,e1] at hx
    rcases List.mem_append.mp hx with hx | hx
    · simp at hx; subst hx; exact hf
    · exact R.fresh x hx
  · rw [adrs_cons,e,e1]
    exact List.nodup_cons.mpr ⟨hn,R.nd⟩
theorem RelS.newAt {σ:St}(R:RelS prog w cloT hb σ g f ρ s) {a:Nat}{c:Cell}(hn:a∉adrs ρ σ.cells) (hf:f a=none) (ht:c.two=false) (hc:∀ ρ',ρ.le ρ'→CellOb prog w cloT g ρ' a 0 (s.heap.get? a) none c) :
    RelS prog w cloT hb ⟨(σ.next,c)::σ.cells,σ.next+1,σ.dirs⟩ g f (ρ.add σ.next a 0) s :=
  have hle:=Rho.add_le (a:=a) (d:=0) (R.n _ (Nat.le_refl _))
  ⟨R.r.newAt (R.n _ (Nat.le_refl _)) hn hf ht (CellOb.one ht (hc _ hle)),fun i hi=>by
    have hi:σ.next+1≤i:=hi
    rw [Rho.add_ne (by omega)]; exact R.n i (by omega),R.b0⟩
theorem cellsFrom_acc:∀ (names:List (Str×NameKind)) (n:Nat) (acc:List (Str×Addr)),∀ x∈acc,x∈cellsFrom n names acc
  | [],_,_,x,h=>h
  | (y,k)::r,n,acc,x,h=>by
    unfold cellsFrom
    split
    · exact cellsFrom_acc r (n+1) _ x (.tail _ h)
    · exact cellsFrom_acc r n acc x h
theorem cellsM_at {cm:Str→Option Value}{bc:List (Str×TV)}(hm:∀ x,OptR w.params g ρ (lkF bc x) (cm x)):∀ (names:List (Str×NameKind)) (n:Nat) (accA:List (Str×Addr)) (accM cs:List (Str×Nat)) (σ σ':St) (c:List Prop) (ρ1:Rho),
    ρ.le ρ1→RelS prog w cloT hb σ g f ρ1 s→ClR ρ1 accM accA→(∀ a∈adrs ρ1 σ.cells,a<n)→(∀ a,n≤a→f a=none)→(∀ x∈cellsFrom n names accA,s.heap.IsCell x.2 (cm x.1))→cellsM bc names accM σ=some (cs,σ',c) →
    ∃ ρ2,ρ1.le ρ2∧RelS prog w cloT hb σ' g f ρ2 s∧ClR ρ2 cs (cellsFrom n names accA)
  | [],n,accA,accM,cs,σ,σ',c,ρ1,hle,R,hcl,hlt,hf,hh,e=>by
    unfold cellsM at e
    cases e
    exact ⟨ρ1,Rho.le_refl _,R,hcl⟩
  | (x,k)::r,n,accA,accM,cs,σ,σ',c,ρ1,hle,R,hcl,hlt,hf,hh,e=>by
    by_cases hk:k = .cell
    · subst hk
      unfold cellsM at e
      dsimp only at e
      have e:=newC_inv e
      have hcf:cellsFrom n ((x,.cell)::r) accA=cellsFrom (n+1) r ((x,n)::accA):=by rw [cellsFrom]; simp
      rw [hcf] at hh ⊢
      obtain ⟨o,ho,hd⟩:=hh (x,n) (cellsFrom_acc _ _ _ _ (.head _))
      have R1:=R.newAt (a:=n) (c:=.cel (lkF bc x)) (fun q=>Nat.lt_irrefl _ (hlt n q)) (hf n (Nat.le_refl _)) rfl (fun ρ' hr=>⟨o,_,ho,hd,(hm x).mono (PH.le_refl _) (Rho.le_trans hle hr)⟩)
      have hl1:=Rho.add_le (a:=n) (d:=0) (R.n _ (Nat.le_refl _))
      have hadr:adrs (ρ1.add σ.next n 0) ((σ.next,Cell.cel (lkF bc x))::σ.cells)=n::adrs ρ1 σ.cells:=by
        rw [adrs_cons,R.r.adrs_le hl1]
        have:adr (ρ1.add σ.next n 0) (σ.next,Cell.cel (lkF bc x))=[n]:=by unfold adr; dsimp only; rw [Rho.add_at]; rfl
        rw [this]; rfl
      obtain ⟨ρ2,q1,q2,q3⟩:=cellsM_at hm r (n+1) ((x,n)::accA) ((x,σ.next)::accM) cs _ σ' c _ (Rho.le_trans hle hl1) R1 (.cons Rho.add_at (hcl.mono hl1))
        (fun a ha=>by
          have ha:a∈adrs (ρ1.add σ.next n 0) ((σ.next,Cell.cel (lkF bc x))::σ.cells):=ha
          rw [hadr] at ha
          rcases List.mem_cons.mp ha with rfl | ha
          · exact Nat.lt_succ_self _
          · exact Nat.lt_succ_of_lt (hlt a ha)) (fun a ha=>hf a (by omega)) hh e
      exact ⟨ρ2,Rho.le_trans hl1 q1,q2,q3⟩
    · have hcf:cellsFrom n ((x,k)::r) accA=cellsFrom n r accA:=by rw [cellsFrom,if_neg (by simpa using hk)]
      rw [hcf] at hh ⊢
      have e:cellsM bc r accM σ=some (cs,σ',c):=by
        unfold cellsM at e
        cases k<;>first | exact e | exact absurd rfl hk
      exact cellsM_at hm r n accA accM cs σ σ' c ρ1 hle R hcl hlt hf hh e
def CallR (Q:Value→Shared→Prop):Result→Shared→Prop:=fun r s'=>match r with
  | .ok (.ret v)=>Q v s'
  | _=>False
def TriF (prog:Program) (w:World) (cloT:Nat→CloI) (hb:HB) (A:Around) (g f:PH) (ρ:Rho) (m:M TV) (c:Code):Prop :=
  ∀ σ a σ' cs,m σ=some (a,σ',cs)→allP cs→∀ s,RelS prog w cloT hb σ g f ρ s→codeAny (model prog w) A c (CallR (Back prog w cloT hb g f ρ σ' a (VRp w))) s
theorem Room.deeper {env:Env}(r:Room (d+1) A):Room d (A.deeper env):=⟨r.hd,by have:=r.dep; show A.depth+1+3*d+20<_; omega,by have:=r.un; show A.units+3+12*d+200<_; omega⟩
theorem Room.lt (r:Room d A):A.depth<recursionLimit:=by have:=r.dep; omega
theorem endF_at {L:Nat}{fl:FL}{fv:Flow}{a:TV}{σ σ':St}{c:List Prop}(R:RelS prog w cloT hb σ g f ρ s) (hv:FLR w g ρ fl fv) (e:endF L fl σ=some (a,σ',c)):RelS prog w cloT hb σ' g f ρ s∧VR w.params g ρ a (match (generalizing:=false) fv with | .ret v=>v | _=>.none):=by
  obtain ⟨x,hx,e⟩:=getC_inv e
  cases x with
  | ns loc =>
    have e:=dropC_inv e
    obtain ⟨b,d,hi,z⟩:=R.there hx
    have R':=R.drop hx hi rfl (s':=s) (fun b o _ e=>e)
    cases hv<;>(cases e; refine ⟨R',?_⟩)<;>first | exact .none | assumption
  | _=>cases e
theorem TriF.fn (B:BaseH K mg mb hb) (S:Snd prog w cloT hb p) {a:Nat}{i:FnI}(F:FnOk w.params K a i) (r:Room (d+1) A) {ts:List TV}{vs:List Value}(h:VRs w.params g ρ ts vs) :
    TriF prog w cloT hb A g f ρ (fnF p d i ts) (.call (.ref a) ⟨vs,[]⟩):=by
  intro σ t σ' c e hc s R
  obtain ⟨oc,od,osl,fd,k1,k2,k3,k4,k5,k6,k7,k8,k9,k10,k11,k12,k13,k14,k17,dvs,k15,k16⟩:=F
  obtain ⟨h1,e⟩:=chk_inv e
  obtain ⟨h2,e⟩:=chk_inv e
  have X:=R.K B
  have hlen:=h.length
  have hb1:=k16 ⟨prog,w.params⟩ vs (by rw [← hlen]; exact ble_k h1) (by rw [← hlen]; exact ble_k h2)
  have hbt:BR w.params g ρ (bindT i ts) (bindV i vs dvs):=by
    unfold bindT bindV
    rw [hlen]
    exact BR.zip (h.append ((k15 g ρ (B.le R.b)).drop _))
  refine codeAny_call_function r.lt (X _ _ k1) rfl (by rw [k2]; exact k9) (by rw [k2]; exact k10) k3 (by rw [k4]; exact codeRec_of X k8) ?_
  refine (Looks.of_peek (M:=model prog w) X hb1).here ?_
  rw [k2,k5,k6,k7]
  have hall:((bindV i vs dvs).all fun y=>i.scope.names.lookup y.1==some .local||i.scope.names.lookup y.1==some .cell)=true:=by
    rw [List.all_eq_true] at k12 ⊢
    intro y hy
    exact k12 y.1 (List.of_mem_zip hy).1
  refine wpAny_newFunctionEnv_cells k11 (kindsX hall _) fun env he s' x => ?_
  subst he
  refine ⟨(B.limit.keeps R.keeps).keeps x.toInCall.keep,codeAny_func ?_⟩
  obtain ⟨L,σ1,c1,c2,e1,e2,hc1,hc2⟩:=bd_inv e hc
  obtain ⟨cs,σ2,c3,c4,e3,e4,hc3,hc4⟩:=bd_inv e2 hc2
  obtain ⟨fl,σ3,c5,c6,e5,e6,hc5,hc6⟩:=bd_inv e4 hc4
  cases e1
  have hle:∀ b o,s.heap.get? b=some o→s'.heap.get? b=some o:=x.toInCall.keep
  have lt_of:∀ b∈adrs ρ σ.cells,b<s.heap.objs.size:=fun b hb=>by obtain ⟨o,ho⟩:=R.r.some_of hb; exact Heap.lt_size ho
  have f_none:∀ b,s.heap.objs.size≤b→f b=none:=fun b hb=>by
    cases q:f b with
    | none=>rfl
    | some o=>exact absurd (Heap.lt_size (R.r.keep _ _ q)) (Nat.not_lt.mpr hb)
  have R1:RelS prog w cloT hb σ g f ρ s':=R.grow hle (by obtain ⟨h',tk,rfl⟩:=x.toInCall.same; exact ⟨rfl,rfl⟩)
  have hkf:∀ n,Env.kindOf (newEnv i.scope s.heap.objs.size mainGlobals (cellsFrom (s.heap.objs.size+1) i.scope.names []) (fd.qualname++".<locals>.") (some a) fd.code none builtinsNs) n=i.scope.names.lookup n:=fun n=>rfl
  obtain ⟨o,es,ep,n1,n2,n3,n4⟩:=x.toInCall.ns
  have R2:=R1.newAt (a:=s.heap.objs.size) (c:=.ns (locT i.scope.names (bindT i ts) [])) (fun q=>Nat.lt_irrefl _ (lt_of _ q)) (f_none _ (Nat.le_refl _)) rfl
    (fun ρ' hr=>⟨o,es,ep,n1,n2,n3,fun y=>by
      rw [n4 y]
      exact (locT_at hkf hbt (acc:=[]) (m:=fun _=>none) (fun _=>rfl) y).mono (PH.le_refl _) hr⟩)
  have hl1:=Rho.add_le (a:=s.heap.objs.size) (d:=0) (R.n _ (Nat.le_refl _))
  have hadr:adrs (ρ.add σ.next s.heap.objs.size 0) ((σ.next,Cell.ns (locT i.scope.names (bindT i ts) []))::σ.cells)=s.heap.objs.size::adrs ρ σ.cells:=by
    rw [adrs_cons,R.r.adrs_le hl1]
    have:adr (ρ.add σ.next s.heap.objs.size 0) (σ.next,Cell.ns (locT i.scope.names (bindT i ts) []))=[s.heap.objs.size]:=by unfold adr; dsimp only; rw [Rho.add_at]; rfl
    rw [this]; rfl
  have hnd:((cellsFrom (s.heap.objs.size+1) i.scope.names []).map (·.1)).Nodup:=by rw [cellsFrom_names i.scope.names _ 0 [] [] rfl]; exact k13
  obtain ⟨ρ2,q1,R3,q3⟩:=cellsM_at (cm:=bindC (fun n=>i.scope.names.lookup n) (bindV i vs dvs) fun _=>none) (bc:=celT i.scope.names (bindT i ts) []) (ρ:=ρ) (g:=g)
    (celT_at (fun n=>rfl) hbt (acc:=[]) (m:=fun _=>none) (fun _=>rfl)) i.scope.names (s.heap.objs.size+1) [] [] cs _ σ2 c3 _ hl1 R2 .nil
    (fun b hb=>by
      have hb:b∈adrs (ρ.add σ.next s.heap.objs.size 0) ((σ.next,Cell.ns (locT i.scope.names (bindT i ts) []))::σ.cells):=hb
      rw [hadr] at hb
      rcases List.mem_cons.mp hb with rfl | hb
      · exact Nat.lt_succ_self _
      · exact Nat.lt_succ_of_lt (lt_of b hb)) (fun b hb=>f_none b (by omega)) (fun y hy=>x.cell y.1 y.2 (lookup_of_mem_nodup hnd hy)) e3
  have hl2:=Rho.le_trans hl1 q1
  have N:EnvR ρ2 ⟨i.scope,σ.next,cs,coF' i⟩ (newEnv i.scope s.heap.objs.size mainGlobals (cellsFrom (s.heap.objs.size+1) i.scope.names []) (fd.qualname++".<locals>.") (some a) fd.code none builtinsNs) :=
    ⟨rfl,k11,rfl,rfl,⟨0,q1 _ _ Rho.add_at⟩,q3,fun c q e=>by
      unfold coF' at e
      split at e
      · rename_i cc hcc
        cases e
        exact ⟨k17 _ hcc,by show fd.qualname++_=_; rw [k4]⟩
      · cases e⟩
  refine wpAny_mono (S.ss _ d g f ρ2 ⟨i.scope,σ.next,cs,coF' i⟩ _ i.body r.deeper N σ2 fl σ3 c5 e5 hc5 s' R3) (fun fv s3 z => ?_) fun _ _ z=>z.elim
  obtain ⟨g3,f3,ρ3,E3,R4,V4⟩:=z
  obtain ⟨R5,V5⟩:=endF_at R4 V4 e6
  exact ⟨g3,f3,ρ3,⟨E3.gl,E3.fl,Rho.le_trans hl2 E3.rl,E3.nw⟩,R5,V5⟩
end
end
section
def mapMT (k:TV→M TV) (l:List TV):M (List TV):=@List.rec TV (fun _=>M (List TV)) (.ret []) (fun x _ ih=>(k x).bd fun t=>ih.bd fun ts=>.ret (t::ts)) l
def mapMF (k:TV→M TV) (l:List (Str×TV)):M (List (Str×TV)):=@List.rec (Str×TV) (fun _=>M (List (Str×TV))) (.ret []) (fun x _ ih=>(k x.2).bd fun t=>ih.bd fun ts=>.ret ((x.1,t)::ts)) l
def frzT (n:Nat):TV→M TV:=@Nat.rec (fun _=>TV→M TV) (fun t=>.ret t) (fun _ ih t=>match t with
  | .tup xs=>(mapMT ih xs).bd fun ys=>.ret (.tup ys)
  | .ref j=>(getC j).bd fun c=>match c with
    | .lst xs=>(mapMT ih xs).bd fun ys=>(getC j).bd fun c'=>match c' with
      | .lst _=>(dropC j).bd fun _=>.ret (.lst ys)
      | _=>.fail
    | _=>.ret (.ref j)
  | t=>.ret t) n
def frzI (id:Nat):M TV:=(getC id).bd fun c=>match c with
  | .inst C fs=>(mapMF (frzT 6) fs).bd fun fs'=>(getC id).bd fun c'=>match c' with
    | .inst _ _=>(dropC id).bd fun _=>.ret (.ins C fs')
    | _=>.fail
  | _=>.fail
section
variable {prog:Program}{w:World}{cloT:Nat→CloI}{hb:HB}
variable {A:Around}{g f g' f':PH}{ρ ρ':Rho}{α β γ δ:Type}{s:Shared}
def Own {α β:Type}(prog:Program) (w:World) (cloT:Nat→CloI) (hb:HB) (m:M α) (P:PH→Rho→α→β→Prop) (b:β) (g f:PH) (ρ:Rho) (s:Shared) (σ:St):Prop :=
  ∀ a σ' c,m σ=some (a,σ',c)→∃ g' f',Ext g f ρ g' f' ρ∧RelS prog w cloT hb σ' g' f' ρ s∧P g' ρ a b
theorem mapMT_own {k:TV→M TV}(hk:∀ (t:TV) (v:Value) (g f:PH) (σ:St),VR w.params g ρ t v→RelS prog w cloT hb σ g f ρ s→Own prog w cloT hb (k t) (VRp w) v g f ρ s σ):∀ {xs:List TV}{vs:List Value}{g f:PH}{σ:St},VRs w.params g ρ xs vs→RelS prog w cloT hb σ g f ρ s→Own prog w cloT hb (mapMT k xs) (VRsp w) vs g f ρ s σ
  | [],vs,g,f,σ,h,R=>by
    intro a σ' c e
    cases h
    cases e
    exact ⟨g,f,Ext.refl,R,.nil⟩
  | x::xs,vs,g,f,σ,h,R=>by
    intro a σ' c e
    cases h with
    | @cons t v ts vs p q =>
      have e:((k x).bd fun t=>(mapMT k xs).bd fun ts=>.ret (t::ts)) σ=some (a,σ',c):=e
      obtain ⟨t',σ1,c1,c2,e1,e2,rfl⟩:=M.bd_some e
      obtain ⟨ts',σ2,c3,c4,e3,e4,rfl⟩:=M.bd_some e2
      cases e4
      obtain ⟨g1,f1,E1,R1,V1⟩:=hk x v g f σ p R t' σ1 c1 e1
      obtain ⟨g2,f2,E2,R2,V2⟩:=mapMT_own hk (q.mono E1.gl E1.rl) R1 ts' _ c3 e3
      exact ⟨g2,f2,E1.trans E2,R2,.cons (VR.mono E2.gl E2.rl V1) V2⟩
theorem mapMF_own {k:TV→M TV}(hk:∀ (t:TV) (v:Value) (g f:PH) (σ:St),VR w.params g ρ t v→RelS prog w cloT hb σ g f ρ s→Own prog w cloT hb (k t) (VRp w) v g f ρ s σ):∀ {xs:List (Str×TV)}{vs:List DictEntry}{g f:PH}{σ:St},FR w.params g ρ xs vs→RelS prog w cloT hb σ g f ρ s→Own prog w cloT hb (mapMF k xs) (fun g ρ a b=>FR w.params g ρ a b) vs g f ρ s σ
  | [],vs,g,f,σ,h,R=>by
    intro a σ' c e
    cases h
    cases e
    exact ⟨g,f,Ext.refl,R,.nil⟩
  | x::xs,vs,g,f,σ,h,R=>by
    intro a σ' c e
    cases h with
    | @cons n t tk v fs es p q =>
      have e:((k t).bd fun u=>(mapMF k xs).bd fun ts=>.ret ((n,u)::ts)) σ=some (a,σ',c):=e
      obtain ⟨t',σ1,c1,c2,e1,e2,rfl⟩:=M.bd_some e
      obtain ⟨ts',σ2,c3,c4,e3,e4,rfl⟩:=M.bd_some e2
      cases e4
      obtain ⟨g1,f1,E1,R1,V1⟩:=hk t v g f σ p R t' σ1 c1 e1
      obtain ⟨g2,f2,E2,R2,V2⟩:=mapMF_own hk (q.mono E1.gl E1.rl) R1 ts' _ c3 e3
      exact ⟨g2,f2,E1.trans E2,R2,.cons (VR.mono E2.gl E2.rl V1) V2⟩
theorem frzT_own:∀ (n:Nat) {t:TV}{v:Value}{g f:PH}{σ:St},VR w.params g ρ t v→RelS prog w cloT hb σ g f ρ s→Own prog w cloT hb (frzT n t) (VRp w) v g f ρ s σ
  | 0,t,v,g,f,σ,h,R=>by
    intro a σ' c e
    cases e
    exact ⟨g,f,Ext.refl,R,h⟩
  | n+1,t,v,g,f,σ,h,R=>by
    intro a σ' c e
    have dflt:∀ {t:TV},VR w.params g ρ t v→(M.ret t:M TV) σ=some (a,σ',c)→∃ g' f',Ext g f ρ g' f' ρ∧RelS prog w cloT hb σ' g' f' ρ s∧VRp w g' ρ a v:=fun h e=>by
      cases e; exact ⟨g,f,Ext.refl,R,h⟩
    cases h with
    | @tup xs b vs k h1 h2 =>
      have e:((mapMT (frzT n) xs).bd fun ys=>.ret (.tup ys)) σ=some (a,σ',c):=e
      obtain ⟨ys,σ1,c1,c2,e1,e2,rfl⟩:=M.bd_some e
      cases e2
      obtain ⟨g1,f1,E1,R1,V1⟩:=mapMT_own (fun t v g f σ h R=>frzT_own n h R) h2 R ys _ c1 e1
      exact ⟨g1,f1,E1,R1,.tup (E1.gl _ _ h1) V1⟩
    | @ref j b d hj =>
      have e:((getC j).bd fun c=>match c with
        | .lst xs=>(mapMT (frzT n) xs).bd fun ys=>(getC j).bd fun c'=>match c' with
          | .lst _=>(dropC j).bd fun _=>.ret (.lst ys)
          | _=>.fail
        | _=>.ret (.ref j)) σ=some (a,σ',c):=e
      obtain ⟨x,hx,e⟩:=getC_inv e
      cases x with
      | lst xs =>
        obtain ⟨ys,σ1,c1,c2,e1,e2,rfl⟩:=M.bd_some e
        obtain ⟨vs,k,o1,o2,_⟩:=R.cell hx hj
        obtain ⟨g1,f1,E1,R1,V1⟩:=mapMT_own (fun t v g f σ h R=>frzT_own n h R) o2 R ys _ c1 e1
        obtain ⟨y,hy,e2⟩:=getC_inv e2
        cases y with
        | lst xs' =>
          have e2:=dropC_inv e2
          cases e2
          obtain ⟨R2,E2⟩:=R1.r.freeze1 hy (E1.rl _ _ hj) o1
          refine ⟨_,_,E1.trans E2,⟨R2,R1.n,R1.b0.up E2.gl⟩,.lst PH.add_self (VRs.mono E2.gl E2.rl V1)⟩
        | _=>cases e2
      | _=>exact dflt (.ref hj) e
    | none=>exact dflt .none e
    | bool=>exact dflt .bool e
    | sym=>exact dflt .sym e
    | int=>exact dflt .int e
    | sint=>exact dflt .sint e
    | str=>exact dflt .str e
    | type=>exact dflt .type e
    | bi=>exact dflt .bi e
    | raw=>exact dflt .raw e
    | lst h1 h2=>exact dflt (.lst h1 h2) e
    | ins h1 h2 h3=>exact dflt (.ins h1 h2 h3) e
theorem frzI_own {id a d:Nat}{g f:PH}{σ:St}(hi:ρ id=some (a,d)) (R:RelS prog w cloT hb σ g f ρ s):Own prog w cloT hb (frzI id) (VRp w) (.ref a) g f ρ s σ:=by
  intro t σ' c e
  obtain ⟨x,hx,e⟩:=getC_inv e
  cases x with
  | inst C fs =>
    obtain ⟨fs',σ1,c1,c2,e1,e2,rfl⟩:=M.bd_some e
    obtain ⟨o1,es,n,o2,o3,_⟩:=R.cell hx hi
    obtain ⟨g1,f1,E1,R1,V1⟩:=mapMF_own (fun t v g f σ h R=>frzT_own 6 h R) o3 R fs' _ c1 e1
    obtain ⟨y,hy,e2⟩:=getC_inv e2
    cases y with
    | inst C' fs2 =>
      have e2:=dropC_inv e2
      cases e2
      obtain ⟨R2,E2⟩:=R1.r.freeze2 hy rfl (E1.rl _ _ hi) o1 o2
      have hne:a≠d:=CellAt.ne R1.r (lkC_mem hy) (E1.rl _ _ hi) rfl
      refine ⟨_,_,E1.trans E2,⟨R2,R1.n,R1.b0.up E2.gl⟩,.ins ?_ PH.add_self (FR.mono E2.gl E2.rl V1)⟩
      rw [PH.add_ne hne]; exact PH.add_self
    | _=>cases e2
  | _=>cases e
theorem frzL_own {ts:List TV}{vs:List Value}{g f:PH}{σ:St}(h:VRs w.params g ρ ts vs) (R:RelS prog w cloT hb σ g f ρ s):Own prog w cloT hb (mapMT (frzT 6) ts) (VRsp w) vs g f ρ s σ:=mapMT_own (fun t v g f σ h R=>frzT_own 6 h R) h R
end
end
section
abbrev Orc:=List (Nat×(Nat→List TV→M TV))
def cloF (cloT:Nat→CloI) (p:Evs) (d:Nat) (k:Nat) (cs:List (Str×Nat)) (args:List TV):M TV:=chk (Nat.beq args.length (cloT k).nm.length) ((newC (.ns ((cloT k).nm.zip args).reverse)).bd fun L=>match (cloT k).body with
  | .stmts b=>(p.ss d ⟨(cloT k).scope,L,cs,none⟩ b).bd fun f=>endF L f
  | .expr x=>(p.ex d ⟨(cloT k).scope,L,cs,none⟩ x).bd fun t=>endF L (.ret t))
def mkF (tab:Tab) (p:Evs) (d:Nat) (C:Nat) (i:FnI) (args:List TV):M TV:=(mapMT (frzT 6) args).bd fun args=>(newC (.inst C [])).bd fun id=>(fnF p d i (.ref id::args)).bd fun r=>match r with
  | .none=>ifB (hasI tab.fz C) (frzI id) (.ret (.ref id))
  | _=>.fail
def clF (tab:Tab) (cloT:Nat→CloI) (orc:Orc) (p:Evs) (d:Nat) (t:TV) (args:List TV):M TV:=match d with
  | 0=>.fail
  | d+1=>match t with
    | .raw a=>match lkC orc a with
      | some m=>m d args
      | none=>match lkC tab.fn a with
        | some i=>fnF p d i args
        | none=>match d with
          | 0=>.fail
          | d+1=>(orFail (lkC tab.mm a)).bd fun fI=>(orFail (lkC tab.fn fI)).bd fun i=>mkF tab p d a i args
    | .ref j=>(getC j).bd fun c=>match c with
      | .clo k cs=>cloF cloT p d k cs args
      | _=>.fail
    | .bi k=>biF tab k args
    | .type k=>tyF k args
    | _=>.fail
def CloOk (i:CloI):Prop:=i.scope.kind = .function∧i.scope.isCoroutine=false∧i.scope.isGenerator=false∧(∀ x∈i.scope.names,x.2 ≠ .cell)∧(∀ x∈i.nm,i.scope.names.lookup x=some .local) ∧
  ∀ fd:FuncData,fd.params=i.params→fd.defaults = .none→∀ (vs:List Value),vs.length=i.nm.length→∀ (K:Frag) S,peek K S (bindArgs fd ⟨vs,[]⟩)=some (i.nm.zip vs)
section
variable (prog:Program) (w:World) (cloT:Nat→CloI) (hb:HB)
def SndO (orc:Orc):Prop:=∀ a m,lkC orc a=some m→∀ A d g f ρ ts vs,Room (d+1) A→VRs w.params g ρ ts vs→Tri prog w cloT hb A g f ρ (m d ts) (call (.ref a) vs) (VRp w)
end
section
variable {prog:Program}{w:World}{cloT:Nat→CloI}{hb:HB}{K:Frag}{tab:Tab}{mg mb:Str→Option Value}{orc:Orc}
variable {A:Around}{g f g' f':PH}{ρ ρ':Rho}{α β γ δ:Type}{E:Value→Shared→Prop}{s:Shared}{p:Evs}{d:Nat}
theorem CallR.mono {Q Q':Value→Shared→Prop}(h:∀ v s,Q v s→Q' v s):∀ r s,CallR Q r s→CallR Q' r s
  | .ok (.ret v),s,x=>h v s x
  | .ok .next,_,x=>x
  | .ok .brk,_,x=>x
  | .ok .cont,_,x=>x
  | .error _,_,x=>x
theorem TriF.call {m:M TV}{fv:Value}{vs:List Value}(h:TriF prog w cloT hb A g f ρ m (.call fv ⟨vs,[]⟩)):Tri prog w cloT hb A g f ρ m (call fv vs) (VRp w):=by
  intro σ a σ' c e hc s R
  refine wpAny_call (codeAny_mono (h σ a σ' c e hc s R) fun r s' x => ?_)
  rcases r with e | (v | _ | _ | _)<;>first | exact x | exact x.elim
theorem BR.rev {P:Params}{bt:List (Str×TV)}{bv:List (Str×Value)}(h:BR P g ρ bt bv):BR P g ρ bt.reverse bv.reverse:=by
  have app:∀ {a a' b b'},BR P g ρ a a'→BR P g ρ b b'→BR P g ρ (a++b) (a'++b'):=by
    intro a a' b b' x y
    induction a' generalizing a with
    | nil=>cases x; exact y
    | cons u r ih=>cases x with | cons p q=>exact .cons p (ih q)
  induction bv generalizing bt with
  | nil=>cases h; exact .nil
  | cons b r ih =>
    cases h with
    | cons a y=>rw [List.reverse_cons,List.reverse_cons]; exact app (ih y) (.cons a .nil)
theorem BR.look {P:Params}{bt:List (Str×TV)}{bv:List (Str×Value)}(h:BR P g ρ bt bv) (x:Str):OptR P g ρ (lkF bt x) (bv.lookup x):=by
  induction bv generalizing bt with
  | nil=>cases h; rfl
  | cons b r ih =>
    cases h with
    | @cons n t v bt r a y =>
      rw [lkF_cons,List.lookup_cons]
      by_cases q:n=x
      · subst q; simp; exact ⟨v,rfl,a⟩
      · have:(x==n)=false:=beq_eq_false_iff_ne.mpr fun e=>q e.symm
        rw [if_neg (by exact q),this]; exact ih y
theorem TriF.clo (B:BaseH K mg mb hb) (S:Snd prog w cloT hb p) {k:Nat}{cs:List (Str×Nat)}{j:Nat}{σ σ':St}{c:List Prop}{t:TV}{b db:Nat}(ok:CloOk (cloT k)) (R:RelS prog w cloT hb σ g f ρ s) (hx:lkC σ.cells j=some (.clo k cs)) (hj:ρ j=some (b,db)) (r:Room (d+1) A) {ts:List TV}{vs:List Value}(h:VRs w.params g ρ ts vs)
    (e:cloF cloT p d k cs ts σ=some (t,σ',c)) (hc:allP c):codeAny (model prog w) A (.call (.ref b) ⟨vs,[]⟩) (CallR (Back prog w cloT hb g f ρ σ' t (VRp w))) s:=by
  obtain ⟨fd,o1,b1,b2,b3,b4,b5,b6,b7,b8,b9,b10,oc,cvs,tk,o2,o3,o4⟩:=R.cell hx hj
  obtain ⟨k1,k2,k3,k4,k5,k6⟩:=ok
  obtain ⟨h1,e⟩:=chk_inv e
  have h1:ts.length=(cloT k).nm.length:=Nat.eq_of_beq_eq_true h1
  have X:=R.K B
  have hbind:=k6 fd b3 b10 vs (by rw [← h.length]; exact h1) K ⟨prog,w.params⟩
  have hbt:BR w.params g ρ ((cloT k).nm.zip ts) ((cloT k).nm.zip vs):=BR.zip h
  obtain ⟨L,σ1,c1,c2,e1,e2,hc1,hc2⟩:=bd_inv e hc
  cases e1
  have lt_of:∀ b∈adrs ρ σ.cells,b<s.heap.objs.size:=fun b hb=>by obtain ⟨o,ho⟩:=R.r.some_of hb; exact Heap.lt_size ho
  have f_none:∀ b,s.heap.objs.size≤b→f b=none:=fun b hb=>by
    cases q:f b with
    | none=>rfl
    | some o=>exact absurd (Heap.lt_size (R.r.keep _ _ q)) (Nat.not_lt.mpr hb)
  have hcd:s.heap.CodeRec fd.code fd.qualname:=⟨db,oc,cvs,tk,b9,o2,o3,by rw [b2]; exact o4⟩
  have key:∀ (h₀:Heap),h₀.Ns s.heap.objs.size (fun x=>((cloT k).nm.zip vs).reverse.lookup x)→(∀ b o,s.heap.get? b=some o→h₀.get? b=some o) →
      ∃ ρ2,RelS prog w cloT hb ⟨(σ.next,.ns ((cloT k).nm.zip ts).reverse)::σ.cells,σ.next+1,σ.dirs⟩ g f ρ2 { s with heap:=h₀,toks:=s.toks+((cloT k).nm.zip vs).length }∧ρ.le ρ2 ∧
        EnvR ρ2 ⟨(cloT k).scope,σ.next,cs,none⟩ (newEnv (cloT k).scope s.heap.objs.size mainGlobals fd.closure (fd.qualname++".<locals>.") (some b) fd.code none builtinsNs):=fun h₀ hns hk=>by
    obtain ⟨o,es,ep,n1,n2,n3,n4⟩:=hns
    have R1:RelS prog w cloT hb σ g f ρ { s with heap:=h₀,toks:=s.toks+((cloT k).nm.zip vs).length }:=R.grow hk
    have hl1:=Rho.add_le (a:=s.heap.objs.size) (d:=0) (R.n _ (Nat.le_refl _))
    refine ⟨_,R1.newAt (a:=s.heap.objs.size) (fun q=>Nat.lt_irrefl _ (lt_of _ q)) (f_none _ (Nat.le_refl _)) rfl (fun ρ' hr=>⟨o,es,ep,n1,n2,n3,fun y=>by
      rw [n4 y]; exact (hbt.rev.look y).mono (PH.le_refl _) hr⟩),hl1,⟨rfl,k1,rfl,rfl,⟨0,Rho.add_at⟩,b8.mono hl1,fun _ _ e=>nomatch e⟩⟩
  have fin:∀ {ρ2:Rho}{fl:FL}{fv:Flow}{g3 f3:PH}{ρ3:Rho}{σ3:St}{c3:List Prop}{s3:Shared},ρ.le ρ2→Ext g f ρ2 g3 f3 ρ3→RelS prog w cloT hb σ3 g3 f3 ρ3 s3→FLR w g3 ρ3 fl fv→endF σ.next fl σ3=some (t,σ',c3) →
      Back prog w cloT hb g f ρ σ' t (VRp w) (match fv with | .ret v=>v | _=>.none) s3:=fun hl E3 R3 V3 e3=>by
    obtain ⟨R5,V5⟩:=endF_at R3 V3 e3
    exact ⟨_,_,_,⟨E3.gl,E3.fl,Rho.le_trans hl E3.rl,E3.nw⟩,R5,V5⟩
  have hlim:=B.limit.keeps R.keeps
  have hl':∀ x∈(cloT k).nm.zip vs,(cloT k).scope.names.lookup x.1=some .local:=fun x hx=>k5 x.1 (List.of_mem_zip hx).1
  cases hbody:(cloT k).body with
  | stmts body =>
    rw [hbody] at e2 b4
    dsimp only at e2
    obtain ⟨fl,σ3,c5,c6,e5,e6,hc5,hc6⟩:=bd_inv e2 hc2
    refine codeAny_call_function r.lt o1 rfl (by rw [b5]; exact k2) (by rw [b5]; exact k3) b4 hcd ?_
    refine (Looks.of_peek (M:=model prog w) X hbind).here ?_
    rw [b5,b6,b7]
    refine wpAny_newFunctionEnv k4 hl' (fun h₀ hns₀ hsb₀ => ?_) k1
    have hk:∀ b o,s.heap.get? b=some o→h₀.get? b=some o:=fun b o e=>hsb₀.extBut b o (Nat.ne_of_lt (Heap.lt_size e)) (Heap.get?_push_of_some _ e)
    refine ⟨hlim.keeps hk,codeAny_func ?_⟩
    obtain ⟨ρ2,R2,hl,N⟩:=key h₀ hns₀ hk
    refine wpAny_mono (S.ss _ d g f ρ2 _ _ body r.deeper N _ fl σ3 c5 e5 hc5 _ R2) (fun fv s3 z => ?_) fun _ _ z=>z.elim
    obtain ⟨g3,f3,ρ3,E3,R4,V4⟩:=z
    exact fin hl E3 R4 V4 e6
  | expr x =>
    rw [hbody] at e2 b4
    dsimp only at e2
    obtain ⟨tv,σ3,c5,c6,e5,e6,hc5,hc6⟩:=bd_inv e2 hc2
    refine kla_callFunE r.lt o1 rfl (by rw [b5]; exact k2) (by rw [b5]; exact k3) b4 hcd ?_
    refine (Looks.of_peek (M:=model prog w) X hbind).here ?_
    rw [b5,b6,b7]
    refine wpAny_newFunctionEnv k4 hl' (fun h₀ hns₀ hsb₀ => ?_) k1
    have hk:∀ b o,s.heap.get? b=some o→h₀.get? b=some o:=fun b o e=>hsb₀.extBut b o (Nat.ne_of_lt (Heap.lt_size e)) (Heap.get?_push_of_some _ e)
    refine ⟨hlim.keeps hk,kla_codeExpr ?_⟩
    obtain ⟨ρ2,R2,hl,N⟩:=key h₀ hns₀ hk
    refine wpAny_mono (S.ex _ d g f ρ2 _ _ x r.deeper N _ tv σ3 c5 e5 hc5 _ R2) (fun v s3 z => ?_) fun _ _ z=>z.elim
    obtain ⟨g3,f3,ρ3,E3,R4,V4⟩:=z
    exact fin (fl:=.ret tv) (fv:=.ret v) hl E3 R4 (.ret V4) e6
theorem under_units (C:Addr) (vals:List Value):(Code.builtin "type.__call__" ⟨.ref C::vals,[]⟩).cUnits≤3∧(Code.builtin "type.__call__" ⟨.ref C::vals,[]⟩).weight=1:=⟨Nat.le_of_ble_eq_true rfl,rfl⟩
theorem Room.make {C:Addr}{vals:List Value}(r:Room (d+1) A):Room d (A.under (.builtin "type.__call__" ⟨.ref C::vals,[]⟩)) :=
  ⟨r.hd,by have:=r.dep; have:=(under_units C vals).2; show A.depth+_+3*d+20<_; omega,by have:=r.un; have:=(under_units C vals).1; show A.units+_+12*d+200<_; omega⟩
theorem Tri.mk (B:BaseH K mg mb hb) (T:TabOk w.params K tab mg mb) (S:Snd prog w cloT hb p) {C fI:Nat}{i:FnI}(hm:lkC tab.mm C=some fI) (hi:lkC tab.fn fI=some i) (r:Room (d+2) A) {ts:List TV}{vs:List Value}(h:VRs w.params g ρ ts vs) :
    Tri prog w cloT hb A g f ρ (mkF tab p d C i ts) (call (.ref C) vs) (VRp w):=by
  intro σ t σ' c e hc s R
  have ok:=T.mm C fI hm
  simp only [mkOk,Bool.and_eq_true,beq_iff_eq] at ok
  obtain ⟨⟨m1,m2⟩,m3⟩:=ok
  have X:=R.K B
  obtain ⟨ts',σ0,c0,c0',e0,e,hc0,hc⟩:=bd_inv e hc
  obtain ⟨g0,f0,E0,R0,h⟩:=frzL_own h R ts' σ0 c0 e0
  have R:=R0
  obtain ⟨id,σ1,c1,c2,e1,e2,hc1,hc2⟩:=bd_inv e hc
  cases e1
  obtain ⟨rv,σ2,c3,c4,e3,e4,hc3,hc4⟩:=bd_inv e2 hc2
  obtain ⟨hh,gg,dd,tt,os⟩:=s
  refine wpAny_call (make_core (makes_of X m1) (looks_findIn X m2) (fun self=>bind_fn X self m3) (.inl rfl) ?_)
  have hk:∀ b o,hh.get? b=some o→((hh.push emptyDict).push (instObj C hh.objs.size)).get? b=some o:=fun b o e=>Heap.get?_push_of_some _ (Heap.get?_push_of_some _ e)
  have hd:((hh.push emptyDict).push (instObj C hh.objs.size)).get? hh.objs.size=some emptyDict:=Heap.get?_push_of_some _ (push_at _ _ rfl)
  have hx:((hh.push emptyDict).push (instObj C hh.objs.size)).get? (hh.objs.size+1)=some (instObj C hh.objs.size):=by
    have:=push_at (hh.push emptyDict) (instObj C hh.objs.size) rfl
    rwa [Heap.size_push] at this
  obtain ⟨R1,E1⟩:=R.new (c:=.inst C []) (a:=hh.objs.size+1) (d:=hh.objs.size) (s':=⟨(hh.push emptyDict).push (instObj C hh.objs.size),gg,dd,tt,os⟩) hk (by have:=fresh_none' hh emptyDict; rwa [Heap.size_push] at this) (fun _=>⟨fresh_none hh,Nat.succ_ne_self _⟩)
    ⟨hx,[],0,hd,.nil,Nat.zero_le _⟩
  refine codeAny_mono (TriF.fn B S (T.fn _ _ hi) (r.make (d:=d+1)) (.cons (.ref Rho.add_at) (h.mono E1.gl E1.rl)) _ rv σ2 c3 e3 hc3 _ R1) fun res s' z => ?_
  rcases res with er | (v | _ | _ | _)<;>first | exact z.elim | skip
  obtain ⟨g2,f2,ρ2,E2,R2,V2⟩:=z
  have hid:=E2.rl _ _ (Rho.add_at (ρ:=ρ) (i:=σ0.next) (a:=hh.objs.size+1) (d:=hh.objs.size))
  cases V2<;>first | (cases e4; done) | skip
  rcases ifB_inv e4 with ⟨_,e4⟩ | ⟨_,e4⟩
  · obtain ⟨g3,f3,E3,R3,V3⟩:=frzI_own hid R2 t σ' c4 e4
    exact ⟨rfl,g3,f3,ρ2,E0.trans (E1.trans (E2.trans E3)),R3,V3⟩
  · cases e4
    exact ⟨rfl,g2,f2,ρ2,E0.trans (E1.trans E2),R2,.ref hid⟩
theorem Tri.clAll (B:BaseH K mg mb hb) (T:TabOk w.params K tab mg mb) (S:Snd prog w cloT hb p) (O:SndO prog w cloT hb orc) (C:∀ k,CloOk (cloT k)) (r:Room d A) {t:TV}{v:Value}{ts:List TV}{vs:List Value}(h:VR w.params g ρ t v) (h':VRs w.params g ρ ts vs) :
    Tri prog w cloT hb A g f ρ (clF tab cloT orc p d t ts) (call v vs) (VRp w):=by
  unfold clF
  cases d with
  | zero=>exact .fail
  | succ d =>
    dsimp only
    cases h with
    | @raw a =>
      dsimp only
      cases ho:lkC orc a with
      | some m=>exact O a m ho A d g f ρ ts vs r h'
      | none =>
        dsimp only
        cases hf:lkC tab.fn a with
        | some i=>exact TriF.call (TriF.fn B S (T.fn _ _ hf) r h')
        | none =>
          dsimp only
          cases d with
          | zero=>exact .fail
          | succ d =>
            refine .orFail fun fI hm=>.orFail fun i hi => ?_
            exact Tri.mk B T S hm hi r h'
    | @ref j b db hj =>
      intro σ a σ' c e hc s R
      obtain ⟨x,hx,e⟩:=getC_inv e
      cases x with
      | clo k cs =>
        refine wpAny_call (codeAny_mono (TriF.clo B S (C k) R hx hj r h' e hc) fun r s' x => ?_)
        rcases r with e | (v | _ | _ | _)<;>first | exact x | exact x.elim
      | _=>cases e
    | bi=>exact Tri.bi B T r h'
    | type=>exact Tri.ty B r h'
    | _=>exact .fail
end
end
section
def evs0:Evs:=⟨fun _ _ _=>.fail,fun _ _ _=>.fail,fun _ _ _=>.fail,fun _ _ _=>.fail,fun _ _ _ _=>.fail,fun _ _ _ _ _=>.fail,fun _ _ _ _ _ _ _=>.fail⟩
def evsS (tab:Tab) (cloT:Nat→CloI) (orc:Orc) (xt:XT) (xs:XS) (p:Evs):Evs :=
  ⟨exF tab xt p,trF tab xt p,ssF tab xs p,clF tab cloT orc p,whF p,foF p,coF p⟩
def evs (tab:Tab) (cloT:Nat→CloI) (orc:Orc) (xt:XT) (xs:XS) (n:Nat):Evs:=@Nat.rec (fun _=>Evs) evs0 (fun _ p=>evsS tab cloT orc xt xs p) n
section
variable {prog:Program}{w:World}{cloT:Nat→CloI}{hb:HB}{K:Frag}{tab:Tab}{mg mb:Str→Option Value}{orc:Orc}{xt:XT}{xs:XS}
theorem snd0:Snd prog w cloT hb evs0 :=
  ⟨fun _ _ _ _ _ _ _ _ _ _=>.fail,fun _ _ _ _ _ _ _ _ _ _=>.fail,fun _ _ _ _ _ _ _ _ _ _=>.fail,fun _ _ _ _ _ _ _ _ _ _ _ _=>.fail,fun _ _ _ _ _ _ _ _ _ _ _=>(fun _ _ _ _ e=>nomatch e),fun _ _ _ _ _ _ _ _ _ _ _ _ _ _ _=>(fun _ _ _ _ e=>nomatch e),fun _ _ _ _ _ _ _ _ _ _ _ _ _ _ _ _ _ _ _ _ _ _=>(fun _ _ _ _ e=>nomatch e)⟩
theorem sndS (B:BaseH K mg mb hb) (T:TabOk w.params K tab mg mb) (O:SndO prog w cloT hb orc) (C:∀ k,CloOk (cloT k)) (X:SndX prog w cloT hb xt) (Y:SndS prog w cloT hb xs) {p:Evs}(S:Snd prog w cloT hb p):Snd prog w cloT hb (evsS tab cloT orc xt xs p) where
  ex:=fun A d g f ρ ae env x r N=>Tri.exF B T X S r N
  tr:=fun A d g f ρ ae env x r N=>Tri.trF B T X S r N
  ss:=fun A d g f ρ ae env l r N=>Tri.ssAll B T Y S r N
  cl:=fun A d g f ρ t v ts vs r h h'=>Tri.clAll B T S O C r h h'
  wh:=fun A d g f ρ ae env test body r N=>TriC.wh S r N
  fo:=fun A d g f ρ ae env x px t v body r N h=>TriC.fo S r N h
  co:=fun A d g f ρ ae env elt ifs x px t v t' v' iter scope pos r N h h'=>TriK.co S r N h h'
theorem snd (B:BaseH K mg mb hb) (T:TabOk w.params K tab mg mb) (O:SndO prog w cloT hb orc) (C:∀ k,CloOk (cloT k)) (X:SndX prog w cloT hb xt) (Y:SndS prog w cloT hb xs):∀ n,Snd prog w cloT hb (evs tab cloT orc xt xs n)
  | 0=>snd0
  | n+1=>sndS B T O C X Y (snd B T O C X Y n)
end
end
section
mutual
def clT (S:List Nat):TV→Prop
  | .ref i=>i∈S
  | .tup xs=>clTs S xs
  | .lst xs=>clTs S xs
  | .ins _ fs=>clFs S fs
  | _=>True
def clTs (S:List Nat):List TV→Prop
  | []=>True
  | x::xs=>clT S x∧clTs S xs
def clFs (S:List Nat):List (Str×TV)→Prop
  | []=>True
  | (_,x)::xs=>clT S x∧clFs S xs
end
def clC (S:List Nat):Cell→Prop
  | .inst _ fs=>clFs S fs
  | .lst xs=>clTs S xs
  | .stk xs=>clTs S xs
  | .ns fs=>clFs S fs
  | .sdic fs=>clFs S fs
  | .dic _ _ es=>∀ x t b,lkF es x=some (t,b)→clT S t
  | .cel none=>True
  | .cel (some t)=>clT S t
  | .itr _ src _=>clT S src
  | .clo _ cs=>∀ p∈cs,p.2∈S
  | _=>True
theorem clTs_mem {S:List Nat}:∀ {xs:List TV},clTs S xs ↔ ∀ x∈xs,clT S x
  | []=>by simp [clTs]
  | x::xs=>by simp [clTs,clTs_mem (xs:=xs)]
theorem clFs_mem {S:List Nat}:∀ {xs:List (Str×TV)},clFs S xs ↔ ∀ p∈xs,clT S p.2
  | []=>by simp [clFs]
  | (n,x)::xs=>by simp [clFs,clFs_mem (xs:=xs)]
theorem clFs_look {S:List Nat}{xs:List (Str×TV)}(h:clFs S xs) {x:Str}{t:TV}(e:lkF xs x=some t):clT S t:=by
  induction xs with
  | nil=>cases e
  | cons p r ih =>
    obtain ⟨n,y⟩:=p
    rw [lkF_cons] at e
    by_cases q:n=x
    · rw [if_pos q] at e; cases e; exact h.1
    · rw [if_neg (by exact q)] at e; exact ih h.2 e
def onS (S:List Nat) (ρ ρ':Rho):Prop:=∀ i∈S,∀ p,ρ i=some p→ρ' i=some p
section
variable {P:Params}{g:PH}{ρ ρ':Rho}{S:List Nat}
mutual
theorem VR.recl (h:onS S ρ ρ'):∀ {t:TV}{v:Value},VR P g ρ t v→clT S t→VR P g ρ' t v
  | _,_,.none,_=>.none
  | _,_,.bool,_=>.bool
  | _,_,.sym,_=>.sym
  | _,_,.int,_=>.int
  | _,_,.sint,_=>.sint
  | _,_,.str,_=>.str
  | _,_,.type,_=>.type
  | _,_,.bi,_=>.bi
  | _,_,.raw,_=>.raw
  | _,_,.ref e,c=>.ref (h _ c _ e)
  | _,_,.tup e x,c=>.tup e (x.recl h c)
  | _,_,.lst e x,c=>.lst e (x.recl h c)
  | _,_,.ins e e' x,c=>.ins e e' (x.recl h c)
theorem VRs.recl (h:onS S ρ ρ'):∀ {t:List TV}{v:List Value},VRs P g ρ t v→clTs S t→VRs P g ρ' t v
  | _,_,.nil,_=>.nil
  | _,_,.cons x y,c=>.cons (x.recl h c.1) (y.recl h c.2)
theorem FR.recl (h:onS S ρ ρ'):∀ {t:List (Str×TV)}{v:List DictEntry},FR P g ρ t v→clFs S t→FR P g ρ' t v
  | _,_,.nil,_=>.nil
  | _,_,.cons x y,c=>.cons (x.recl h c.1) (y.recl h c.2)
end
theorem FS.recl (h:onS S ρ ρ') {fs:List (Str×TV)}{es:List (Key×Value)}(x:FS P g ρ fs es) (c:clFs S fs):FS P g ρ' fs es:=by
  induction es generalizing fs with
  | nil=>cases x; exact .nil
  | cons e es ih=>cases x with | cons a r=>exact .cons (a.recl h c.1) (ih r c.2)
theorem OptR.recl (h:onS S ρ ρ') {t:Option TV}{v:Option Value}(x:OptR P g ρ t v) (c:∀ u,t=some u→clT S u):OptR P g ρ' t v:=by
  cases t with
  | none=>exact x
  | some t=>obtain ⟨y,e,r⟩:=x; exact ⟨y,e,r.recl h (c _ rfl)⟩
theorem ClR.recl (h:onS S ρ ρ') {cs:List (Str×Nat)}{cl:List (Str×Addr)}(x:ClR ρ cs cl) (c:∀ p∈cs,p.2∈S):ClR ρ' cs cl:=by
  induction x with
  | nil=>exact .nil
  | cons e _ ih=>exact .cons (h _ (c _ (.head _)) _ e) (ih fun p hp=>c p (.tail _ hp))
end
section
variable {prog:Program}{w:World}{cloT:Nat→CloI}{hb:HB}{K:Frag}{tab:Tab}{mg mb:Str→Option Value}{orc:Orc}
variable {A:Around}{g f g' f':PH}{ρ ρ':Rho}{α β γ δ:Type}{E:Value→Shared→Prop}{s:Shared}{S:List Nat}{l l':List Ent}{h:Heap}
theorem CellOb.recl (hs:onS S ρ ρ') {a d:Nat}{oa od:Option Obj}:∀ {c:Cell},CellOb prog w cloT g ρ a d oa od c→clC S c→CellOb prog w cloT g ρ' a d oa od c
  | .inst C fs,⟨a,es,n,b,c,z⟩,k=>⟨a,es,n,b,c.recl hs k,z⟩
  | .lst xs,⟨vs,n,a,b,c⟩,k=>⟨vs,n,a,b.recl hs k,c⟩
  | .stk xs,⟨vs,n,a,b,c⟩,k=>⟨vs,n,a,b.recl hs (clTs_mem.mpr fun x hx=>clTs_mem.mp k x (List.mem_reverse.mp hx)),c⟩
  | .ns loc,⟨o,es,ep,a,b,c,d⟩,k=>⟨o,es,ep,a,b,c,fun x=>(d x).recl hs fun u e=>clFs_look k e⟩
  | .sdic fs,⟨o,es,a,b,c,z⟩,k=>⟨o,es,a,b,c.recl hs k,z⟩
  | .dic N gi es,⟨ds,ep,a,kk,b,c,z⟩,k=>⟨ds,ep,a,kk,b,fun x=>by
      have:=c x
      cases e:lkF es x with
      | none=>trivial
      | some p =>
        obtain ⟨t,b⟩:=p
        rw [e] at this
        exact this.imp (fun ⟨y,q,r⟩=>⟨y,q,r.recl hs (k x t b e)⟩) id,z⟩
  | .cel none,⟨o,v',a,e,b⟩,_=>⟨o,v',a,e,b⟩
  | .cel (some t),⟨o,v',a,e,b⟩,k=>⟨o,v',a,e,b.recl hs fun u q=>by cases q; exact k⟩
  | .itr _ _ _,⟨a,o,x,y,z,u⟩,k=>⟨a,o,x,y,z,u.recl hs k⟩
  | .rng _,x,_=>x
  | .rit ..,x,_=>x
  | .clo k cs,⟨fd,a,b1,b2,b3,b4,b5,b6,b7,b8,b9⟩,c=>⟨fd,a,b1,b2,b3,b4,b5,b6,b7,b8.recl hs c,b9⟩
  | .tbl ..,x,_=>x
theorem adrs_same (h:∀ p∈l,ρ' p.1=ρ p.1):adrs ρ' l=adrs ρ l:=by
  induction l with
  | nil=>rfl
  | cons p r ih =>
    rw [adrs_cons,adrs_cons,ih fun q hq=>h q (.tail _ hq)]
    unfold adr
    rw [h p (.head _)]
theorem Rel.recl (R:Rel prog w cloT g f h ρ l) (hs:onS S ρ ρ') (hl:∀ p∈l,p.1∈S∧clC S p.2):Rel prog w cloT g f h ρ' l:=by
  have same:∀ p∈l,ρ' p.1=ρ p.1:=fun p hp=>by
    obtain ⟨a,d,e,_⟩:=R.at_ p.1 p.2 hp
    rw [e]; exact hs _ (hl p hp).1 _ e
  have e:=adrs_same same
  exact ⟨R.gf,R.keep,fun i c hm=>let ⟨a,d,q,z⟩:=R.at_ i c hm; ⟨a,d,(same _ hm).trans q,CellOb.recl hs z (hl _ hm).2⟩,by rw [e]; exact R.fresh,by rw [e]; exact R.nd⟩
theorem Rel.perm (R:Rel prog w cloT g f h ρ l) (p:l.Perm l'):Rel prog w cloT g f h ρ l' :=
  have hA:(adrs ρ l).Perm (adrs ρ l'):=List.Perm.flatMap_right _ p
  ⟨R.gf,R.keep,fun i c hm=>R.at_ i c (p.mem_iff.mpr hm),fun a ha=>R.fresh a (hA.mem_iff.mpr ha),hA.nodup_iff.mp R.nd⟩
theorem lkC_puC {α:Type}{i j:Nat}{c:α}(hne:j≠i):∀ (l:List (Nat×α)),lkC (puC l i c) j=lkC l j
  | []=>rfl
  | p::l=>by
    rw [puC_cons]
    by_cases q:p.1=i
    · rw [if_pos q,lkC_cons,lkC_cons]
      have:¬ p.1=j:=fun e=>hne (e.symm.trans q)
      rw [if_neg (by exact this),if_neg this]
    · rw [if_neg q,lkC_cons,lkC_cons,lkC_puC hne l]
def putAll:List Ent→List Ent→List Ent
  | l,[]=>l
  | l,p::r=>putAll (puC l p.1 p.2) r
theorem split_pre:∀ {pre post:List Ent}{l:List Ent},pre.map (·.1)=post.map (·.1)→(pre.map (·.1)).Nodup→(∀ p∈pre,lkC l p.1=some p.2)→∃ rest,l.Perm (pre++rest)∧(putAll l post).Perm (post++rest)
  | [],[],l,_,_,_=>⟨l,.refl _,.refl _⟩
  | [],_::_,_,h,_,_=>by simp at h
  | _::_,[],_,h,_,_=>by simp at h
  | (i,c)::pt,(i',c')::qt,l,h,hn,hl=>by
    simp only [List.map_cons,List.cons.injEq] at h
    obtain ⟨rfl,h⟩:=h
    obtain ⟨n1,n2⟩:=List.nodup_cons.mp (show (i::pt.map (·.1)).Nodup from hn)
    obtain ⟨l1,l2,e,hp⟩:=lkC_split (hl (i,c) (.head _))
    have hp:=hp c'
    obtain ⟨rest,p1,p2⟩:=split_pre (pre:=pt) (post:=qt) (l:=puC l i c') h n2 fun p hp'=>by
      rw [lkC_puC fun q=>n1 (by rw [← q]; exact List.mem_map_of_mem hp')]
      exact hl p (.tail _ hp')
    have hm:(i,c')∈rest:=by
      have:(i,c')∈pt++rest:=p1.mem_iff.mp (by rw [hp]; simp)
      rcases List.mem_append.mp this with q | q
      · exact absurd (List.mem_map_of_mem (f:=(·.1)) q) n1
      · exact q
    obtain ⟨r1,r2,er⟩:=List.append_of_mem hm
    have q1:rest.Perm ((i,c')::(r1++r2)):=by rw [er]; exact List.perm_middle
    have q2:(l1++l2).Perm (pt++(r1++r2)):=by
      have a1:((i,c')::(l1++l2)).Perm (puC l i c'):=by rw [hp]; exact List.perm_middle.symm
      have a2:(pt++rest).Perm ((i,c')::(pt++(r1++r2))):=(List.Perm.append_left pt q1).trans List.perm_middle
      exact (a1.trans (p1.trans a2)).cons_inv
    refine ⟨r1++r2,?_,?_⟩
    · rw [e]; exact List.perm_middle.trans (q2.cons _)
    · show (putAll (puC l i c') qt).Perm ((i,c')::(qt++(r1++r2)))
      exact p2.trans ((List.Perm.append_left qt q1).trans List.perm_middle)
structure EntC where
  fn:Nat
  dep:Nat
  args:List TV
  pre:List Ent
  post:List Ent
  res:TV
def EntC.ids (e:EntC):List Nat:=e.pre.map (·.1)
structure EntOk (e:EntC):Prop where
  same:e.pre.map (·.1)=e.post.map (·.1)
  nd:(e.pre.map (·.1)).Nodup
  args:clTs e.ids e.args
  pre:∀ p∈e.pre,clC e.ids p.2
  post:∀ p∈e.post,clC e.ids p.2
  res:clT e.ids e.res
section
variable (prog w cloT hb)
def Con (e:EntC):Prop:=∀ (A:Around) (g f:PH) (ρ:Rho) (vs:List Value) (s:Shared),Room e.dep A→(∀ i,i∉e.ids→ρ i=none)→LeB hb g s→VRs w.params g ρ e.args vs→Rel prog w cloT g f s.heap ρ e.pre →
  wpAny (model prog w) A (call (.ref e.fn) vs) (fun v s'=>∃ g' f' ρ',Ext g f ρ g' f' ρ'∧Rel prog w cloT g' f' s'.heap ρ' e.post∧VR w.params g' ρ' e.res v∧Same s s') Fa s
end
def preM:List Ent→M Unit
  | []=>.ret ()
  | p::r=>(getC p.1).bd fun c=>(need (c=p.2)).bd fun _=>preM r
def postM:List Ent→M Unit
  | []=>.ret ()
  | p::r=>(putC p.1 p.2).bd fun _=>postM r
def entM (tbl:List EntC) (fn:Nat) (d:Nat) (args:List TV):M TV:=takeD.bd fun k=>(orFail tbl[k]?).bd fun e=>(need (e.fn=fn∧e.dep≤d+1∧e.args=args)).bd fun _=>(preM e.pre).bd fun _=>(postM e.post).bd fun _=>.ret e.res
theorem preM_at:∀ {pre:List Ent}{σ σ':St}{c:List Prop},preM pre σ=some ((),σ',c)→allP c→σ'=σ ∧ ∀ p∈pre,lkC σ.cells p.1=some p.2
  | [],_,_,_,e,_=>by cases e; exact ⟨rfl,fun _ h=>nomatch h⟩
  | p::r,σ,σ',c,e,hc=>by
    obtain ⟨x,hx,e⟩:=getC_inv e
    obtain ⟨rfl,c',e,hc'⟩:=need_inv e hc
    obtain ⟨rfl,h⟩:=preM_at e hc'
    refine ⟨rfl,fun q hq => ?_⟩
    rcases List.mem_cons.mp hq with rfl | hq
    · exact hx
    · exact h q hq
theorem postM_at:∀ {post:List Ent}{σ σ':St}{c:List Prop},postM post σ=some ((),σ',c)→σ'=⟨putAll σ.cells post,σ.next,σ.dirs⟩
  | [],_,_,_,e=>by cases e; rfl
  | p::r,σ,σ',c,e=>by
    have e:=putC_inv e
    have:=postM_at (post:=r) (σ:=⟨puC σ.cells p.1 p.2,σ.next,σ.dirs⟩) e
    rw [this]; rfl
theorem Room.le {d d':Nat}(r:Room d A) (h:d'≤d):Room d' A:=⟨r.hd,by have:=r.dep; omega,by have:=r.un; omega⟩
theorem Tri.con {tbl:List EntC}(C:∀ e∈tbl,EntOk e∧Con prog w cloT hb e) {fn d:Nat}{ts:List TV}{vs:List Value}(r:Room (d+1) A) (hv:VRs w.params g ρ ts vs):Tri prog w cloT hb A g f ρ (entM tbl fn d ts) (call (.ref fn) vs) (VRp w):=by
  intro σ a σ' c e hc s R
  obtain ⟨k,rd,hd,e⟩:=takeD_inv e
  obtain ⟨en,he,e⟩:=orFail_inv e
  obtain ⟨⟨rfl,h2,rfl⟩,c',e,hc'⟩:=need_inv e hc
  obtain ⟨u,σ1,c1,c2,e1,e2,hc1,hc2⟩:=bd_inv e hc'
  obtain ⟨rfl,hpre⟩:=preM_at e1 hc1
  obtain ⟨u',σ2,c3,c4,e3,e4,hc3,hc4⟩:=bd_inv e2 hc2
  have:=postM_at e3
  subst this
  cases e4
  obtain ⟨ok,con⟩:=C en (List.mem_of_getElem? he)
  obtain ⟨rest,p1,p2⟩:=split_pre ok.same ok.nd hpre
  have p1:σ.cells.Perm (en.pre++rest):=p1
  have Rs:=R.r.sub p1
  let ρ0:Rho:=fun i=>if i∈en.ids then ρ i else none
  have h0:onS en.ids ρ ρ0:=fun i hi p e=>by show (if i∈en.ids then ρ i else none)=_; rw [if_pos hi]; exact e
  have inS:∀ p∈en.pre,p.1∈en.ids∧clC en.ids p.2:=fun p hp=>⟨List.mem_map_of_mem hp,ok.pre p hp⟩
  have inS':∀ p∈en.post,p.1∈en.ids∧clC en.ids p.2:=fun p hp=>⟨by unfold EntC.ids; rw [ok.same]; exact List.mem_map_of_mem hp,ok.post p hp⟩
  have R0:=Rs.recl h0 inS
  refine wpAny_mono (con A g _ ρ0 vs s (r.le h2) (fun i hi=>if_neg hi) R.b0 (hv.recl h0 ok.args) R0) (fun v s' x => ?_) fun _ _ z=>z
  obtain ⟨g',f',ρ',E',R',V',hsm⟩:=x
  have back:onS en.ids ρ' ρ:=fun i hi p e=>by
    obtain ⟨q,hq,rfl⟩:=List.mem_map.mp hi
    obtain ⟨a,d,e1,_⟩:=R.r.at_ q.1 q.2 (p1.mem_iff.mpr (List.mem_append_left _ hq))
    have:=E'.rl _ _ (h0 _ hi _ e1)
    rw [this] at e; cases e; exact e1
  have R2:=R'.recl back inS'
  obtain ⟨R3,E3⟩:=R.r.back p1 ⟨E'.gl,E'.fl,Rho.le_refl _,E'.nw⟩ R2
  exact ⟨g',_,ρ,E3,⟨R3.perm p2.symm,R.n,(R.b0.go hsm).up E3.gl⟩,V'.recl back ok.res⟩
end
end
section
def isCellB (names:List (Str×NameKind)) (n:Str):Bool:=match lkF names n with
  | some .cell=>true
  | _=>false
def relT (names:List (Str×NameKind)) (scope:Scope):Scope :=
  ⟨scope.kind,scope.names.map fun p=>match p.2 with
    | .free=>match isCellB names p.1 with
      | true=>(p.1,.cell)
      | false=>p
    | _=>p,scope.isGenerator,scope.isCoroutine,scope.more⟩
def namesOk (names:List (Str×NameKind)):List (Str×NameKind)→Bool:=fun l=>l.all fun p=>match p.2 with
  | .cell=>false
  | .local=>isLoc names p.1
  | _=>true
def isFnK:ScopeKind→Bool
  | .function=>true
  | _=>false
def cloA (ae:AE):List (Str×NameKind)→List (Str×Nat)→M (List (Str×Nat))
  | [],acc=>.ret acc
  | (n,k)::r,acc=>match k with
    | .free=>(orFail (lkF ae.cs n)).bd fun i=>cloA ae r ((n,i)::acc)
    | _=>cloA ae r acc
def lcF (p:Evs) (d:Nat) (ae:AE) (elt:Expr) (ifs:List Expr) (x:Str) (iter:Expr) (scope:Scope):M (TV×Nat) :=
  chk (isFnK scope.kind&&namesOk scope.names scope.names&&notSet iter) ((p.ex d ae iter).bd fun t=>(iterT t).bd fun it=>(newLst []).bd fun acc=>(cloA ae scope.names []).bd fun cs =>
    (newC (.ns [])).bd fun L=>(p.co d ⟨relT ae.scope.names scope,L,cs,none⟩ elt ifs x it acc).bd fun _=>(getC L).bd fun c=>match c with
      | .ns _=>.ret (acc,L)
      | _=>.fail)
def dropNs (L:Nat):M Unit:=(getC L).bd fun c=>match c with
  | .ns _=>dropC L
  | _=>.fail
section
variable {prog:Program}{w:World}{cloT:Nat→CloI}{hb:HB}{K:Frag}{tab:Tab}{mg mb:Str→Option Value}{orc:Orc}
variable {A:Around}{g f g' f':PH}{ρ ρ':Rho}{α β γ δ:Type}{E:Value→Shared→Prop}{s:Shared}{p:Evs}{d:Nat}{ae:AE}{env:Env}
theorem relabel_eq (N:EnvR ρ ae env) {scope:Scope}:relabel scope env=relT ae.scope.names scope:=by
  unfold relabel relT
  have:(fun (x:Str×NameKind)=>(match x with | (n,k)=>if (k == .free&&env.scope.kind == .function&&env.kindOf n==some .cell)=true then (n,NameKind.cell) else (n,k)))=fun p=>match p.2 with
    | .free=>match isCellB ae.scope.names p.1 with
      | true=>(p.1,NameKind.cell)
      | false=>p
    | _=>p:=by
    funext ⟨n,k⟩
    have hk:env.scope.kind = .function:=by rw [N.sc]; exact N.fn
    have e:env.kindOf n=lkF ae.scope.names n:=(N.kind rfl)
    dsimp only
    rw [hk,e]
    cases k with
    | free =>
      have:(isCellB ae.scope.names n)=(lkF ae.scope.names n==some NameKind.cell):=by
        unfold isCellB
        rcases lkF ae.scope.names n with _ | (_ | _ | _ | _ | _)<;>rfl
      rw [this]
      cases q:(lkF ae.scope.names n==some NameKind.cell)<;>rfl
    | _=>rfl
  obtain ⟨k,n,a,b,c⟩:=scope
  exact congrArg (fun f=>(⟨k,n.map f,a,b,c⟩:Scope)) this
theorem cloA_at (N:EnvR ρ ae env) (f:Str×NameKind→List (Str×Addr)→Sem (ForInStep (List (Str×Addr)))) (hf:∀ n k r,f (n,k) r=if (k==NameKind.free)=true then (cellOf env n >>= fun a=>pure (ForInStep.yield ((n,a)::r))) else pure (ForInStep.yield r)) :
    ∀ (names:List (Str×NameKind)) (acc:List (Str×Nat)) (accA:List (Str×Addr)) (σ σ':St) (cs:List (Str×Nat)) (c:List Prop),ClR ρ acc accA→cloA ae names acc σ=some (cs,σ',c)→σ'=σ ∧ ∃ cl,forIn names accA f=pure cl∧ClR ρ cs cl
  | [],acc,accA,σ,σ',cs,c,h,e=>by cases e; exact ⟨rfl,accA,rfl,h⟩
  | (n,k)::r,acc,accA,σ,σ',cs,c,h,e=>by
    rw [List.forIn_cons,hf]
    have go:∀ {acc accA},ClR ρ acc accA→cloA ae r acc σ=some (cs,σ',c)→σ'=σ ∧ ∃ cl,forIn r accA f=pure cl∧ClR ρ cs cl:=fun h e=>cloA_at N f hf r _ _ σ σ' cs c h e
    cases k with
    | free =>
      obtain ⟨i,hi,e⟩:=orFail_inv (show ((orFail (lkF ae.cs n)).bd fun i=>cloA ae r ((n,i)::acc)) σ=_ from e)
      obtain ⟨a,dd,q1,q2⟩:=N.cs.get hi
      obtain ⟨z,cl,hcl,hr⟩:=go (.cons q1 h) e
      refine ⟨z,cl,?_,hr⟩
      rw [if_pos (show (NameKind.free==NameKind.free)=true from rfl)]
      have:cellOf env n=pure a:=by unfold cellOf; rw [q2]
      rw [this,pure_bind,pure_bind]
      exact hcl
    | _ =>
      obtain ⟨z,cl,hcl,hr⟩:=go h e
      refine ⟨z,cl,?_,hr⟩
      rw [if_neg (by decide),pure_bind]
      exact hcl
theorem cloA_pure (N:EnvR ρ ae env) {scope:Scope}{σ σ':St}{cs:List (Str×Nat)}{c:List Prop}(e:cloA ae scope.names [] σ=some (cs,σ',c)):σ'=σ ∧ ∃ cl,closureFor scope env=pure cl∧ClR ρ cs cl:=by
  unfold closureFor
  obtain ⟨z,cl,h1,h2⟩:=cloA_at N (fun x r=>match x with | (n,k)=>if (k==NameKind.free)=true then (cellOf env n >>= fun a=>pure (ForInStep.yield ((n,a)::r))) else pure (ForInStep.yield r)) (fun _ _ _=>rfl) scope.names [] [] σ σ' cs c .nil e
  refine ⟨z,cl,?_,h2⟩
  exact (congrArg (· >>= fun r=>(pure r:Sem _)) h1).trans rfl
theorem chk2 {a b c:Bool}(h:(a&&b&&c)=true):a=true∧b=true∧c=true:=by simpa [Bool.and_eq_true,and_assoc] using h
theorem iterSelf {σ σ1:St}{t it:TV}{v:Value}{c1:List Prop}{g1 f1:PH}{ρ1:Rho}{σ2:St}{cc:Cell}{i:Nat}{s2:Shared}{Q:Value→Shared→Prop}{E:Value→Shared→Prop}{b dd:Nat}(R:RelS prog w cloT hb σ2 g1 f1 ρ1 s2) (hi:lkC σ2.cells i=some cc) (hr:ρ1 i=some (b,dd))
    (hc:(∃ tup src k,cc = .itr tup src k) ∨ ∃ x l,cc = .rit x l) (h:Q (.ref b) s2):wpAny (model prog w) A (pyIter (.ref b)) Q E s2:=by
  have z:=R.cell hi hr
  rcases hc with ⟨tup,src,k,rfl⟩ | ⟨x,l,rfl⟩
  · obtain ⟨a,o,o1,o2,o3,o4⟩:=z
    cases tup with
    | true=>exact wpAny_pyIter_tupleiter ⟨o,o1,o2,o3⟩ h
    | false=>exact wpAny_pyIter_listiter ⟨o,o1,o2,o3⟩ h
  · exact wpAny_pyIter_rangeiter z h
theorem iterT_cell {σ σ':St}{t it:TV}{c:List Prop}(e:iterT t σ=some (it,σ',c)):∃ i cc,it = .ref i∧((σ'.cells=(i,cc)::σ.cells)∨lkC σ'.cells i=some cc)∧((∃ tup src k,cc = .itr tup src k) ∨ ∃ x l,cc = .rit x l):=by
  unfold iterT at e
  cases t with
  | lst xs=>have e:=newC_inv e; cases e; exact ⟨_,_,rfl,.inl rfl,.inl ⟨_,_,_,rfl⟩⟩
  | tup xs=>have e:=newC_inv e; cases e; exact ⟨_,_,rfl,.inl rfl,.inl ⟨_,_,_,rfl⟩⟩
  | ref i =>
    obtain ⟨x,hx,e⟩:=getC_inv e
    cases x with
    | lst xs=>have e:=newC_inv e; cases e; exact ⟨_,_,rfl,.inl rfl,.inl ⟨_,_,_,rfl⟩⟩
    | rng n =>
      cases n with
      | ofNat m =>
        obtain ⟨h1,e⟩:=chk_inv e
        have e:=newC_inv e; cases e; exact ⟨_,_,rfl,.inl rfl,.inr ⟨_,_,rfl⟩⟩
      | negSucc _=>cases e
    | itr tup src k =>
      cases tup with
      | false=>cases e; exact ⟨_,_,rfl,.inr hx,.inl ⟨_,_,_,rfl⟩⟩
      | true=>cases e
    | _=>cases e
  | _=>cases e
theorem lkC_head {α:Type}{i:Nat}{c:α}{l:List (Nat×α)}:lkC ((i,c)::l) i=some c:=by rw [lkC_cons,if_pos rfl]
theorem lkC_skip {α:Type}{i j:Nat}{c c':α}{l:List (Nat×α)}(h:lkC l i=some c) (hne:j≠i):lkC ((j,c')::l) i=some c:=by rw [lkC_cons,if_neg hne]; exact h
theorem namesOk_cell {names:List (Str×NameKind)}(h:namesOk names names=true):∀ x∈names,x.2 ≠ .cell:=fun x hx e=>by
  have:=List.all_eq_true.mp h x hx
  rw [e] at this; cases this
theorem namesOk_local {names:List (Str×NameKind)}(h:namesOk names names=true):∀ x∈names,x.2 = .local→names.lookup x.1=some .local:=fun x hx e=>by
  have:=List.all_eq_true.mp h x hx
  rw [e] at this; exact isLoc_iff.mp this
theorem lkC_newest {σ:St}(R:RelS prog w cloT hb σ g f ρ s) {i:Nat}{c:Cell}(h:lkC σ.cells i=some c):σ.next≠i:=by
  rintro rfl
  obtain ⟨a,dd,e,_⟩:=R.there h
  rw [R.n _ (Nat.le_refl _)] at e; cases e
theorem Tri.lc (S:Snd prog w cloT hb p) (r:Room d A) (N:EnvR ρ ae env) {elt iter:Expr}{ifs:List Expr}{x:Str}{px pos:Pos}{scope:Scope}{use:Option (Value→Sem Unit)}{newp:Pos}{Q:Value→Shared→Prop}{t:TV}{L:Nat}{σ σ':St}{c:List Prop}
    (e:lcF p d ae elt ifs x iter scope σ=some ((t,L),σ',c)) (hc:allP c) (R:RelS prog w cloT hb σ g f ρ s)
    (hQ:∀ g' f' ρ' v C m s',Ext g f ρ g' f' ρ'→RelS prog w cloT hb σ' g' f' ρ' s'→VR w.params g' ρ' t v→ρ' L=some (C,0)→(∃ es,lkC σ'.cells L=some (.ns es))→s'.heap.Ns C m →
      match use with
      | none=>∀ h',Heap.SameBut C s'.heap h'→Q v { s' with heap:=h' }
      | some u=>wpAny (model prog w) A (u v) (fun _ s''=>∃ m,s''.heap.Ns C m ∧ ∀ h',Heap.SameBut C s''.heap h'→Q .none { s'' with heap:=h' }) Fa s') :
    wpAny (model prog w) A (comprehension (.ListComp elt [⟨.Name x px,iter,ifs,0⟩] scope pos) scope env newp (newList []) false (eval iter env) use) Q Fa s:=by
  obtain ⟨h1,e⟩:=chk_inv e
  obtain ⟨k1,k2,k3⟩:=chk2 h1
  have k1:scope.kind = .function:=by cases q:scope.kind<;>rw [q] at k1<;>first | rfl | cases k1
  obtain ⟨tv,σ1,c1,c1',e1,e,hc1,hc⟩:=bd_inv e hc
  obtain ⟨it,σ2,c2,c2',e2,e,hc2,hc⟩:=bd_inv e hc
  obtain ⟨acc,σ3,c3,c3',e3,e,hc3,hc⟩:=bd_inv e hc
  obtain ⟨cs,σ4,c4,c4',e4,e,hc4,hc⟩:=bd_inv e hc
  obtain ⟨L',σ5,c5,c5',e5,e,hc5,hc⟩:=bd_inv e hc
  obtain ⟨un,σ6,c6,c6',e6,e,hc6,hc⟩:=bd_inv e hc
  obtain ⟨ccL,hccL,e⟩:=getC_inv e
  cases ccL<;>first | (cases e; done) | skip
  rename_i esL
  cases e
  cases e5
  have hclo:σ4=σ3:=(cloA_pure N e4).1
  subst hclo
  obtain ⟨_,cl,hcl,hclr⟩:=cloA_pure N e4
  refine wpAny_comprehension_free rfl (notSet_of k3) hcl k1 (namesOk_local k2) ?_
  refine wpAny_mono (S.ex A d g f ρ ae env iter r N σ tv σ1 c1 e1 hc1 s R) (fun v s1 x1 => ?_) fun _ _ z=>z.elim
  obtain ⟨g1,f1,ρ1,E1,R1,V1⟩:=x1
  refine wpAny_mono (Tri.iter V1 σ1 it σ2 c2 e2 hc2 s1 R1) (fun iv s2 x2 => ?_) fun _ _ z=>z.elim
  obtain ⟨g2,f2,ρ2,E2,R2,V2⟩:=x2
  have hit:∃ i cc,it = .ref i∧lkC σ2.cells i=some cc∧((∃ tup src k,cc = .itr tup src k) ∨ ∃ x l,cc = .rit x l):=by
    obtain ⟨i,cc,q1,q2,q3⟩:=iterT_cell e2
    refine ⟨i,cc,q1,?_,q3⟩
    rcases q2 with q2 | q2
    · rw [q2]; exact lkC_head
    · exact q2
  obtain ⟨i,cc,rfl,hi,hcc⟩:=hit
  cases e3
  refine wpAny_mono (Tri.newLst (xs:=[]) (vs:=[]) (by exact .nil) σ2 _ _ _ rfl trivial s2 R2) (fun av s3 x3 => ?_) fun _ _ z=>z.elim
  obtain ⟨g3,f3,ρ3,E3,R3,V3⟩:=x3
  have E13:=(E1.trans E2).trans E3
  refine wpAny_newFunctionEnv (namesOk_cell k2) (by intro y hy; simp at hy) (fun h₀ hns₀ hsb₀ => ?_) k1
  have hk:∀ b o,s3.heap.get? b=some o→h₀.get? b=some o:=fun b o e=>hsb₀.extBut b o (Nat.ne_of_lt (Heap.lt_size e)) (Heap.get?_push_of_some _ e)
  have lt_of:∀ b∈adrs ρ3 _,b<s3.heap.objs.size:=fun b hb=>by obtain ⟨o,ho⟩:=R3.r.some_of hb; exact Heap.lt_size ho
  have f_none:∀ b,s3.heap.objs.size≤b→f3 b=none:=fun b hb=>by
    cases q:f3 b with
    | none=>rfl
    | some o=>exact absurd (Heap.lt_size (R3.r.keep _ _ q)) (Nat.not_lt.mpr hb)
  obtain ⟨o,es,ep,n1,n2,n3,n4⟩:=hns₀
  have R4:=(R3.grow (s':={ s3 with heap:=h₀,toks:=s3.toks+([]:List (Str×Value)).length }) hk).newAt (c:=.ns []) (a:=s3.heap.objs.size) (fun q=>Nat.lt_irrefl _ (lt_of _ q)) (f_none _ (Nat.le_refl _)) rfl
    (fun ρ' hr=>⟨o,es,ep,n1,n2,n3,fun y=>by rw [n4 y]; exact rfl⟩)
  have hl1:=Rho.add_le (a:=s3.heap.objs.size) (d:=0) (R3.n _ (Nat.le_refl _))
  have V2':=V2.mono E3.gl (Rho.le_trans E3.rl hl1)
  have i3:lkC ((σ2.next,Cell.lst [])::σ2.cells) i=some cc:=lkC_skip hi (lkC_newest R2 hi)
  have i4:lkC ((σ2.next+1,Cell.ns [])::(σ2.next,Cell.lst [])::σ2.cells) i=some cc:=lkC_skip i3 (lkC_newest R3 i3)
  have N4:EnvR (ρ3.add (σ2.next+1) s3.heap.objs.size 0) ⟨relT ae.scope.names scope,σ2.next+1,cs,none⟩ (compEnvC scope cl s3.heap.objs.size env) :=
    ⟨relabel_eq N,k1,N.gl,N.bl,⟨0,Rho.add_at⟩,hclr.mono (Rho.le_trans E13.rl hl1),fun _ _ e=>nomatch e⟩
  have loop:codeAny (model prog w) A (.compLoop (.ListComp elt [⟨.Name x px,iter,ifs,0⟩] scope pos) 0 iv av (compEnvC scope cl s3.heap.objs.size env)) (compPost (model prog w) A Fa use Q av s3.heap.objs.size)
      { s3 with heap:=h₀,toks:=s3.toks+([]:List (Str×Value)).length }:=by
    refine codeAny_mono (S.co A d g3 f3 _ _ _ elt ifs x px (.ref i) iv _ av iter scope pos r N4 V2' (V3.mono (PH.le_refl _) hl1) _ un σ' c6 e6 hc6 _ R4) fun res s' z => ?_
    cases res with
    | error x=>exact z.elim
    | ok fl =>
      obtain ⟨g5,f5,ρ5,E5,R5,_⟩:=z
      have hL:ρ5 (σ2.next+1)=some (s3.heap.objs.size,0):=E5.rl _ _ Rho.add_at
      obtain ⟨oL,eL,pL,z1,z2,z3,z4⟩:=R5.cell hccL hL
      have hns:s'.heap.Ns s3.heap.objs.size (nsFind eL):=⟨oL,eL,pL,z1,z2,z3,fun _=>rfl⟩
      have hE:Ext g f ρ g5 f5 ρ5:=⟨PH.le_trans E13.gl E5.gl,PH.le_trans E13.fl E5.fl,Rho.le_trans E13.rl (Rho.le_trans hl1 E5.rl),(E13.trans ⟨E5.gl,E5.fl,Rho.le_trans hl1 E5.rl,E5.nw⟩).nw⟩
      have q:=hQ g5 f5 ρ5 av s3.heap.objs.size _ s' hE R5 (V3.mono E5.gl (Rho.le_trans hl1 E5.rl)) hL ⟨_,hccL⟩ hns
      cases use with
      | none=>exact ⟨_,hns,q⟩
      | some u=>exact q
  refine codeAny_compStart_list loop ?_
  cases V2' with
  | ref hb=>exact iterSelf (t:=.none) (it:=.none) (v:=.none) (σ:=σ) (σ1:=σ) (c1:=[]) R4 i4 hb hcc loop
end
end
section
def lcE (p:Evs) (d:Nat) (ae:AE) (elt:Expr) (ifs:List Expr) (x:Str) (iter:Expr) (scope:Scope):M TV:=(lcF p d ae elt ifs x iter scope).bd fun q=>(dropNs q.2).bd fun _=>.ret q.1
def lcS (p:Evs) (d:Nat) (ae:AE) (y:Str) (elt:Expr) (ifs:List Expr) (x:Str) (iter:Expr) (scope:Scope):M FL:=(lcF p d ae elt ifs x iter scope).bd fun q=>(stName ae y q.1).bd fun _=>(dropNs q.2).bd fun _=>.ret .next
section
variable {prog:Program}{w:World}{cloT:Nat→CloI}{hb:HB}{K:Frag}{tab:Tab}{mg mb:Str→Option Value}{orc:Orc}
variable {A:Around}{g f g' f':PH}{ρ ρ':Rho}{α β γ δ:Type}{E:Value→Shared→Prop}{s:Shared}{p:Evs}{d:Nat}{ae:AE}{env:Env}
theorem dropNs_inv {L:Nat}{σ σ':St}{u:Unit}{c:List Prop}(e:dropNs L σ=some (u,σ',c)):∃ es,lkC σ.cells L=some (.ns es)∧σ'=⟨rmC σ.cells L,σ.next,σ.dirs⟩:=by
  obtain ⟨x,hx,e⟩:=getC_inv e
  cases x<;>first | (cases e; done) | skip
  cases e
  exact ⟨_,hx,rfl⟩
theorem Tri.lcE (S:Snd prog w cloT hb p) (r:Room d A) (N:EnvR ρ ae env) {elt iter:Expr}{ifs:List Expr}{x:Str}{px pos:Pos}{scope:Scope} :
    Tri prog w cloT hb A g f ρ (lcE p d ae elt ifs x iter scope) (eval (.ListComp elt [⟨.Name x px,iter,ifs,0⟩] scope pos) env) (VRp w):=by
  intro σ a σ' c e hc s R
  obtain ⟨⟨t,L⟩,σ1,c1,c2,e1,e2,hc1,hc2⟩:=bd_inv e hc
  obtain ⟨u,σ2,c3,c4,e3,e4,hc3,hc4⟩:=bd_inv e2 hc2
  cases e4
  obtain ⟨es,h1,rfl⟩:=dropNs_inv e3
  rw [eval_ListComp]
  refine Tri.lc S r N e1 hc1 R fun g' f' ρ' v C m s' E' R' V' hL _ hns => ?_
  dsimp only
  intro h' hs
  exact ⟨g',f',ρ',E',R'.drop (s':={ s' with heap:=h' }) h1 hL rfl (sameBut_k hs),V'⟩
theorem Tri.lcS (S:Snd prog w cloT hb p) (r:Room d A) (N:EnvR ρ ae env) {elt iter:Expr}{ifs:List Expr}{x y:Str}{px py pos spos:Pos}{scope:Scope}
    (hsw:swapsWith (.ListComp elt [⟨.Name x px,iter,ifs,0⟩] scope pos) (some (.Name y py)) spos.line env=pure true) :
    Tri prog w cloT hb A g f ρ (lcS p d ae y elt ifs x iter scope) (exec (.Assign [.Name y py] (.ListComp elt [⟨.Name x px,iter,ifs,0⟩] scope pos) spos) env) (FLR w):=by
  intro σ a σ' c e hc s R
  obtain ⟨⟨t,L⟩,σ1,c1,c2,e1,e2,hc1,hc2⟩:=bd_inv e hc
  obtain ⟨u,σ2,c3,c4,e3,e4,hc3,hc4⟩:=bd_inv e2 hc2
  obtain ⟨u',σ3,c5,c6,e5,e6,hc5,hc6⟩:=bd_inv e4 hc4
  cases e6
  obtain ⟨es,h1,rfl⟩:=dropNs_inv e5
  rw [exec_Assign_Name_used _ _ _ _ hsw]
  refine wpAny_bind (wpAny_standAt (wpAny_bind ?_))
  show wpAny _ A (do let _ ← comprehension (.ListComp elt [⟨.Name x px,iter,ifs,0⟩] scope pos) scope env _ (newList []) false (eval iter env) (some (assign (.Name y py) env))) _ _ s
  refine wpAny_bind (wpAny_mono (Tri.lc (Q:=fun _ s'=>Back prog w cloT hb g f ρ ⟨rmC σ2.cells L,σ2.next,σ2.dirs⟩ FL.next (FLR w) Flow.next s') S r N e1 hc1 R fun g' f' ρ' v C m s' E' R' V' hL _ hns => ?_) (fun _ s' q=>wpAny_pure (wpAny_pure q)) fun _ _ z=>z)
  dsimp only
  refine wpAny_assign_Name (wpAny_mono (Tri.store (N.mono E'.rl) V' σ1 u σ2 c3 e3 hc3 s' R') (fun _ s2 x2 => ?_) fun _ _ z=>z)
  obtain ⟨g2,f2,ρ2,E2,R2,_⟩:=x2
  have hL2:=E2.rl _ _ hL
  obtain ⟨o,es',ep,z1,z2,z3,z4⟩:=R2.cell h1 hL2
  exact ⟨_,⟨o,es',ep,z1,z2,z3,fun _=>rfl⟩,fun h' hs=>⟨g2,f2,ρ2,E'.trans E2,R2.drop (s':={ s2 with heap:=h' }) h1 hL2 rfl (sameBut_k hs),.next⟩⟩
end
def pairsM (p:Expr→M TV):List (Option Expr)→List Expr→M (List (Str×TV))
  | [],vs=>match vs with
    | []=>.ret []
    | _=>.fail
  | k::ks,vs=>match k with
    | some (.Constant (.str n) _ _)=>match vs with
      | v::vs=>(p v).bd fun t=>(pairsM p ks vs).bd fun r=>.ret ((n,t)::r)
      | []=>.fail
    | _=>.fail
def wkOf:List (Str×TV)→List (Str×TV×Bool)
  | []=>[]
  | (n,t)::r=>(n,t,true)::wkOf r
def exOf:Nat→List (Str×TV×Bool)
  | 0=>[]
  | 1=>[(Str.ofString "$!",.none,false),(Str.ofString "$e",.none,false)]
  | _=>[(Str.ofString "$e",.none,false)]
def dicF (p:Evs) (d:Nat) (ae:AE) (ks:List (Option Expr)) (vs:List Expr):M TV:=takeD.bd fun k=>(newC (.sdic [])).bd fun i=>chk (Nat.ble ks.length 15) ((pairsM (p.ex d ae) ks vs).bd fun ps=>(getC i).bd fun c=>match c with
  | .sdic []=>chk (Nat.ble ps.length 15) ((putC i (match k with
    | 0=>.sdic (foldP ps [])
    | k+1=>.dic 15 (fun _=>none) (wkOf (foldP ps [])++exOf k))).bd fun _=>.ret (.ref i))
  | _=>.fail)
def cutL (w:Nat) (k:Int) (xs:List TV):Option (List TV):=match w,k with
  | 0,.ofNat n=>some (xs.drop n)
  | 1,.ofNat n=>some (xs.take n)
  | 2,.negSucc 0=>some xs.reverse
  | _,_=>none
def notTup:TV→Bool
  | .tup _=>false
  | _=>true
def sliF (p:Evs) (d:Nat) (ae:AE) (v e:Expr) (w:Nat):M TV:=(p.ex d ae v).bd fun t=>(p.ex d ae e).bd fun k=>match k with
  | .int k=>(lstT t).bd fun xs=>chk (notTup t) ((orFail (cutL w k xs)).bd fun ys=>(need (xs.length≤szL)).bd fun _=>(newC (.lst ys)).bd fun i=>.ret (.ref i))
  | _=>.fail
section
variable {prog:Program}{w:World}{cloT:Nat→CloI}{hb:HB}{K:Frag}{tab:Tab}{mg mb:Str→Option Value}{orc:Orc}
variable {A:Around}{g f g' f':PH}{ρ ρ':Rho}{α β γ δ:Type}{E:Value→Shared→Prop}{s:Shared}{p:Evs}{d:Nat}{ae:AE}{env:Env}
theorem wkOf_at (l:List (Str×TV)) (x:Str):lkF (wkOf l) x=(lkF l x).map fun t=>(t,true):=by
  induction l with
  | nil=>rfl
  | cons p r ih =>
    obtain ⟨n,t⟩:=p
    show lkF ((n,t,true)::wkOf r) x=_
    rw [lkF_cons,lkF_cons]
    by_cases q:n=x
    · rw [if_pos q,if_pos q]; rfl
    · rw [if_neg (by exact q),if_neg (by exact q)]; exact ih
theorem lkF_append {α:Type}{x:Str}:∀ (a b:List (Str×α)),lkF (a++b) x=(match lkF a x with
    | some t=>some t
    | none=>lkF b x)
  | [],_=>rfl
  | p::a,b=>by
    rw [List.cons_append,lkF_cons,lkF_cons]
    by_cases h:p.1=x
    · rw [if_pos h,if_pos h]
    · rw [if_neg h,if_neg h]; exact lkF_append a b
theorem lk_weak:∀ {l:List (Str×TV×Bool)}{x:Str},(∀ p∈l,p.2=(TV.none,false))→lkF l x=none∨lkF l x=some (.none,false)
  | [],_,_=>.inl rfl
  | p::l,x,h=>by
    rw [lkF_cons]
    by_cases q:p.1=x
    · rw [if_pos q,h p (.head _)]; exact .inr rfl
    · rw [if_neg q]; exact lk_weak fun p hp=>h p (.tail _ hp)
theorem exOf_at (k:Nat) (x:Str):lkF (exOf k) x=none∨lkF (exOf k) x=some (.none,false):=by
  refine lk_weak fun p hp => ?_
  rcases k with _ | _ | k
  · cases hp
  · have hp:p∈[(Str.ofString "$!",TV.none,false),(Str.ofString "$e",TV.none,false)]:=hp
    simp only [List.mem_cons,List.not_mem_nil,or_false] at hp
    rcases hp with rfl | rfl<;>rfl
  · have hp:p∈[(Str.ofString "$e",TV.none,false)]:=hp
    simp only [List.mem_cons,List.not_mem_nil,or_false] at hp
    subst hp; rfl
theorem toDic {o:Obj}{es:List (Key×Value)}{fs:List (Str×TV)}{N:Nat}{aa dd k:Nat}{od:Option Obj}(h:o.IsDictOf (keyKind prog w) es) (F:FS w.params g ρ fs es) (hn:es.length≤N):CellOb prog w cloT g ρ aa dd (some o) od (.dic N (fun _=>none) (wkOf fs++exOf k)):=by
  obtain ⟨ds,ep,h1,h2,h3,h4,h5⟩:=h
  have he:=exact_mk h1 h2
  subst he
  have hf:∀ k,findBy Key.is ds k=valueAt es k:=fun k=>by
    rw [← h4.find k]
    unfold findBy
    rw [← Array.find?_toList]
    rfl
  refine ⟨ds,ep,rfl,h3,fun n => ?_,fun x => ?_,?_⟩
  · rw [hf,F.noInt]; exact rfl
  · rw [hf,lkF_append,wkOf_at]
    have:=F.at_ x
    cases q:lkF fs x with
    | none =>
      rw [q] at this
      have this:valueAt es (.s x)=none:=this
      show WkR w.params g ρ (lkF (exOf k) x) _
      rcases exOf_at k x with z | z
      · rw [z]; trivial
      · rw [z]; exact .inr ⟨rfl,rfl,this⟩
    | some t =>
      rw [q] at this
      obtain ⟨v,e1,e2⟩:=this
      exact .inl ⟨v,e1,e2⟩
  · have:=h4.length
    rw [Array.length_toList] at this; omega
def PairR (prog:Program) (w:World):PH→Rho→List (Str×TV)→List (Value×Value)→Prop:=fun g ρ ps vs=>∃ kvs,Carries (keyKind prog w) vs kvs∧FS w.params g ρ ps kvs
def mkPairs (pos:Pos) (env:Env):List (Option Expr)→List Expr→List (Sem Value×Sem Value)
  | some k::ks,v::vs=>(eval k env,do let x ← eval v env; standAt pos; pure x)::mkPairs pos env ks vs
  | _,_=>[]
theorem pairsM_len {q:Expr→M TV}:∀ {ks:List (Option Expr)}{vs:List Expr}{σ σ':St}{ps:List (Str×TV)}{c:List Prop},pairsM q ks vs σ=some (ps,σ',c) →
    (mkPairs pos env ks vs).length=ks.length∧ps.length=ks.length∧(evalEachOpt ks env).zip ((evalEach vs env).map fun v=>do let x ← v; standAt pos; pure x)=(mkPairs pos env ks vs).map fun p=>(some p.1,p.2)
  | [],vs,σ,σ',ps,c,e=>by
    cases vs with
    | nil=>cases e; exact ⟨rfl,rfl,rfl⟩
    | cons _ _=>cases e
  | k::ks,vs,σ,σ',ps,c,e=>by
    unfold pairsM at e
    split at e
    · split at e
      · obtain ⟨t,σ1,c1,c2,e1,e2,rfl⟩:=M.bd_some e
        obtain ⟨r,σ2,c3,c4,e3,e4,rfl⟩:=M.bd_some e2
        cases e4
        obtain ⟨i1,i2,i3⟩:=pairsM_len e3
        refine ⟨by show _+1=_+1; rw [i1],by rw [List.length_cons,List.length_cons,i2],?_⟩
        show (_::List.zip (evalEachOpt ks env) _)=_::List.map _ _
        rw [← i3]; rfl
      · cases e
    · cases e
theorem Tri.pairs (S:Snd prog w cloT hb p) (r:Room d A) {pos:Pos}:∀ {ks:List (Option Expr)}{vs:List Expr}{g f:PH}{ρ:Rho},EnvR ρ ae env→Tri prog w cloT hb A g f ρ (pairsM (p.ex d ae) ks vs) (evalPairs (mkPairs pos env ks vs)) (PairR prog w)
  | [],vs,g,f,ρ,N=>by
    intro σ a σ' c e hc s R
    cases vs with
    | nil=>cases e; exact evalPairs_nil (.same R ⟨[],trivial,.nil⟩)
    | cons _ _=>cases e
  | k::ks,vs,g,f,ρ,N=>by
    intro σ a σ' c e hc s R
    unfold pairsM at e
    split at e
    · split at e
      · obtain ⟨t,σ1,c1,c2,e1,e2,hc1,hc2⟩:=bd_inv e hc
        obtain ⟨ps,σ2,c3,c4,e3,e4,hc3,hc4⟩:=bd_inv e2 hc2
        cases e4
        refine evalPairs_cons (Constant_str ?_)
        refine wpAny_bind (wpAny_mono (S.ex A d g f ρ ae env _ r N σ t σ1 c1 e1 hc1 _ (R.toks rfl)) (fun v s1 x1=>wpAny_bind (wpAny_standAt (wpAny_pure ?_))) fun _ _ z=>z)
        obtain ⟨g1,f1,ρ1,E1,R1,V1⟩:=x1
        refine wpAny_mono (Tri.pairs S r (N.mono E1.rl) σ1 ps _ c3 e3 hc3 s1 R1) (fun vs s2 x2 => ?_) fun _ _ z=>z
        obtain ⟨g2,f2,ρ2,E2,R2,kvs,k1,k2⟩:=x2
        exact ⟨g2,f2,ρ2,E1.trans E2,R2,(.s _,v)::kvs,⟨kk_str _ _,rfl,k1⟩,.cons (V1.mono E2.gl E2.rl) k2⟩
      · cases e
    · cases e
theorem Tri.dicF (S:Snd prog w cloT hb p) (r:Room d A) (N:EnvR ρ ae env) {ks:List (Option Expr)}{vs:List Expr}{pos:Pos} :
    Tri prog w cloT hb A g f ρ (dicF p d ae ks vs) (eval (.Dict ks vs pos) env) (VRp w):=by
  intro σ a σ' c e hc s R
  obtain ⟨k,rr,hd,e⟩:=takeD_inv e
  have R0:RelS prog w cloT hb ⟨σ.cells,σ.next,rr⟩ g f ρ s:=R.dirs
  have e:=newC_inv e
  obtain ⟨h1,e⟩:=chk_inv e
  obtain ⟨ps,σ2,c3,c4,e3,e4,hc3,hc4⟩:=bd_inv e hc
  obtain ⟨x,hx,e4⟩:=getC_inv e4
  obtain ⟨l1,l2,l3⟩:=pairsM_len (pos:=pos) (env:=env) e3
  have B0:=R0.newOb (c:=.sdic []) (o:={ cls:=.type "dict",data:=.dict #[] }) (k:=s.toks) rfl rfl fun ρ' hr=>⟨_,[],rfl,(Heap.dictOf_iff.mp (Heap.DictOf.new (knd:=keyKind prog w) (h:=s.heap))).elim fun o ho=>by
    rw [push_at _ _ rfl] at ho
    exact (Option.some.inj ho.1)▸ho.2,.nil,Nat.zero_le _⟩
  obtain ⟨g1,f1,ρ1,E1,R1,V1⟩:=B0
  cases V1 with
  | @ref _ _ dd hid =>
    cases x<;>first | (cases e4; done) | skip
    rename_i es0
    cases es0<;>first | (cases e4; done) | skip
    obtain ⟨h2,e4⟩:=chk_inv e4
    have h2:=ble_k h2
    cases e4
    have R1':RelS prog w cloT hb _ g1 f1 ρ1 { s with heap:=s.heap.push { cls:=.type "dict",data:=.dict #[] } }:=R1
    have fin:∀ (g2 f2:PH) (ρ2:Rho) (s2:Shared) (kvs:List (Key×Value)) (h':Heap),Ext g1 f1 ρ1 g2 f2 ρ2→RelS prog w cloT hb σ2 g2 f2 ρ2 s2→FS w.params g2 ρ2 ps kvs→h'.DictOf (keyKind prog w) s.heap.objs.size (merged [] kvs)→Heap.SameBut s.heap.objs.size s2.heap h'→∀ tk,
        Back prog w cloT hb g f ρ ⟨puC σ2.cells σ.next (match k with
          | 0=>Cell.sdic (foldP ps [])
          | k+1=>.dic 15 (fun _=>none) (wkOf (foldP ps [])++exOf k)),σ2.next,σ2.dirs⟩ (TV.ref σ.next) (VRp w) (.ref s.heap.objs.size) { s2 with heap:=h',toks:=tk }:=fun g2 f2 ρ2 s2 kvs h' E2 R2 F2 hD hs tk=>by
      obtain ⟨o',q1,q2⟩:=Heap.dictOf_iff.mp hD
      obtain ⟨m1,m2⟩:=F2.merge (g:=g2) (ρ:=ρ2) (fs:=[]) (es:=[]) .nil .nil
      have m3:=F2.length
      have hi2:=E2.rl _ _ hid
      rw [List.length_nil,Nat.zero_add] at m2
      refine ⟨g2,f2,ρ2,E1.trans E2,?_,.ref hi2⟩
      refine R2.put (s':={ s2 with heap:=h',toks:=tk }) hx hi2 (by cases k<;>rfl) (.inl rfl) (sameBut_k hs) ?_
      show CellOb prog w cloT g2 ρ2 _ _ (h'.get? s.heap.objs.size) _ _
      rw [q1]
      cases k with
      | zero=>exact ⟨o',_,rfl,q2,m1,by omega⟩
      | succ n=>exact toDic q2 m1 (by omega)
    cases ks with
    | nil =>
      cases vs with
      | cons _ _=>cases e3
      | nil =>
        cases e3
        refine wpAny_Dict_empty ?_
        exact fin g1 f1 ρ1 _ [] _ Ext.refl R1' .nil (by
          obtain ⟨o,es,o1,o2,o3,_⟩:=R1'.cell hx hid
          cases o3
          exact Heap.dictOf_iff.mpr ⟨o,o1,o2⟩) (Heap.SameBut.refl _ _) s.toks
    | cons k0 ks =>
      refine wpAny_Dict_pairs (knd:=keyKind prog w) l3 (by intro q; rw [q] at l1; cases l1) (by rw [l1]; exact ble_k h1) ?_
      refine wpAny_mono (Tri.pairs S r (N.mono E1.rl) _ ps σ2 c3 e3 hc3 _ R1') (fun vs s2 x2 => ?_) fun _ _ z=>z.elim
      obtain ⟨g2,f2,ρ2,E2,R2,kvs,k1,k2⟩:=x2
      obtain ⟨o,es,o1,o2,o3,_⟩:=R2.cell hx (E2.rl _ _ hid)
      cases o3
      exact ⟨kvs,k1,Heap.dictOf_iff.mpr ⟨o,o1,o2⟩,fun h' hD hs=>fin g2 f2 ρ2 s2 kvs h' E2 R2 k2 hD hs _⟩
end
end
section
structure CodeI where
  c:Nat
  P:Nat
def hasPos (l:List (Nat×Nat)) (x y:Nat):Bool:=@List.rec (Nat×Nat) (fun _=>Bool) false (fun p _ ih=>@Bool.rec (fun _=>Bool) ih true (Nat.beq p.1 x&&Nat.beq p.2 y)) l
theorem hasPos_no {l:List (Nat×Nat)}{x y:Nat}(h:hasPos l x y=false):(x,y)∉l:=by
  induction l with
  | nil=>exact List.not_mem_nil
  | cons p l ih =>
    have h:(@Bool.rec (fun _=>Bool) (hasPos l x y) true (Nat.beq p.1 x&&Nat.beq p.2 y))=false:=h
    cases q:(Nat.beq p.1 x&&Nat.beq p.2 y) with
    | true=>rw [q] at h; cases h
    | false =>
      rw [q] at h
      intro hm
      rcases List.mem_cons.mp hm with rfl | hm
      · simp at q
      · exact ih h hm
def mkClo (cloT:Nat→CloI) (ci:CodeI) (ae:AE) (name:Str) (params:Arguments) (body:FuncBody) (scope:Scope) (pos:Pos):M TV :=
  takeD.bd fun k=>(orFail ae.co).bd fun q=>chk (Nat.beq q.1 ci.c) ((need ((cloT k).name=name∧(cloT k).qual=q.2++".<locals>." ++ name∧(cloT k).params=params∧(cloT k).body=body∧(cloT k).scope=scope)).bd fun _ =>
    (cloA ae scope.names []).bd fun cs=>(getC 0).bd fun t=>match t with
      | .tbl P b l=>chk (Nat.beq P ci.P) (chk (!(hasPos l pos.line pos.col)) ((putC 0 (.tbl P b ((pos.line,pos.col)::l))).bd fun _=>(newC (.clo k cs)).bd fun i=>.ret (.ref i)))
      | _=>.fail)
def noDoc (b:List Stmt):Bool:=match docOf b with
  | none=>true
  | some _=>false
def plainArg:Arg→Bool
  | ⟨_,none,_⟩=>true
  | _=>false
def defF (cloT:Nat→CloI) (ci:CodeI) (ae:AE) (name:Str) (args:Arguments) (body:List Stmt) (deco:List Expr) (ret:Option Expr) (tp:List TypeParam) (scope:Scope) (bind:Str) (pos:Pos):M FL:=match args with
  | ⟨[],as,none,[],[],none,[]⟩=>match deco with
    | []=>match ret with
      | none=>match tp with
        | []=>chk (as.all plainArg&&noDoc body&&isLoc ae.scope.names bind) ((mkClo cloT ci ae name ⟨[],as,none,[],[],none,[]⟩ (.stmts body) scope pos).bd fun f=>(stName ae bind f).bd fun _=>.ret .next)
        | _=>.fail
      | _=>.fail
    | _=>.fail
  | _=>.fail
def nmLam:Str:=Str.ofString "<lambda>"
def lamF (cloT:Nat→CloI) (ci:CodeI) (ae:AE) (args:Arguments) (body:Expr) (scope:Scope) (pos:Pos):M TV:=match args with
  | ⟨[],as,none,[],[],none,[]⟩=>mkClo cloT ci ae nmLam ⟨[],as,none,[],[],none,[]⟩ (.expr body) scope pos
  | _=>.fail
def xtF (cloT:Nat→CloI) (ci:CodeI):XT:=fun p d ae x=>match x with
  | .Subscript v (.Slice (some e) none none _) _=>sliF p d ae v e 0
  | .Subscript v (.Slice none (some e) none _) _=>sliF p d ae v e 1
  | .Subscript v (.Slice none none (some e) _) _=>sliF p d ae v e 2
  | .Dict ks vs _=>dicF p d ae ks vs
  | .ListComp elt [⟨.Name x _,iter,ifs,0⟩] scope _=>lcE p d ae elt ifs x iter scope
  | .Lambda args body scope pos=>lamF cloT ci ae args body scope pos
  | _=>.fail
def xsF (cloT:Nat→CloI) (ci:CodeI):XS:=fun p d ae st=>match st with
  | .Assign [.Name y py] (.ListComp elt [⟨.Name x px,iter,ifs,0⟩] scope pos) spos=>(orFail (pureOf (swapsWith (.ListComp elt [⟨.Name x px,iter,ifs,0⟩] scope pos) (some (.Name y py)) spos.line (envA ae.scope)))).bd fun b=>ifB b (lcS p d ae y elt ifs x iter scope) .fail
  | .FunctionDef name args body deco ret tp scope _ bind pos=>defF cloT ci ae name args body deco ret tp scope bind pos
  | .Break _=>.ret .brk
  | _=>.fail
section
variable {prog:Program}{w:World}{cloT:Nat→CloI}{hb:HB}{K:Frag}{tab:Tab}{mg mb:Str→Option Value}{orc:Orc}
variable {A:Around}{g f g' f':PH}{ρ ρ':Rho}{α β γ δ:Type}{E:Value→Shared→Prop}{s:Shared}{p:Evs}{d:Nat}{ae:AE}{env:Env}{ci:CodeI}
def slPart {α:Type}(w i:Nat) (e:α):Option α:=if w=i then some e else none
theorem cutL_at {w:Nat}{k:Int}{xs ys:List TV}(h:cutL w k xs=some ys) {P:Params}{vs:Array Value}(hv:VRs P g ρ xs vs.toList):slPart w 2 k≠some 0 ∧ ∃ zs,slicePick vs (slPart w 0 k) (slPart w 1 k) (slPart w 2 k)=zs.toArray∧VRs P g ρ ys zs∧zs.length≤vs.size:=by
  unfold cutL at h
  split at h<;>cases h
  · rename_i n
    exact ⟨by simp [slPart],_,slicePick_from' vs n,hv.drop n,by rw [List.length_drop,Array.length_toList]; omega⟩
  · rename_i n
    refine ⟨by simp [slPart],_,?_,hv.take n,by rw [List.length_take,Array.length_toList]; omega⟩
    exact slicePick_upto' vs n
  · exact ⟨by simp [slPart],_,krv_pick vs,hv.reverse,by rw [List.length_reverse,Array.length_toList]; exact Nat.le_refl _⟩
theorem Tri.sliF (S:Snd prog w cloT hb p) (r:Room d A) (N:EnvR ρ ae env) {v e0:Expr}{wh:Nat}{p1 pos:Pos}(hw:wh<3) :
    Tri prog w cloT hb A g f ρ (sliF p d ae v e0 wh) (eval (.Subscript v (.Slice (slPart wh 0 e0) (slPart wh 1 e0) (slPart wh 2 e0) p1) pos) env) (VRp w):=by
  intro σ a σ' c e hc s R
  obtain ⟨t,σ1,c1,c2,e1,e,hc1,hc⟩:=bd_inv e hc
  obtain ⟨kt,σ2,c3,c4,e3,e,hc3,hc⟩:=bd_inv e hc
  cases kt<;>first | (cases e; done) | skip
  rename_i k
  obtain ⟨xs,σ3,c5,c6,e5,e,hc5,hc⟩:=bd_inv e hc
  obtain ⟨h1,e⟩:=chk_inv e
  obtain ⟨ys,hy,e⟩:=orFail_inv e
  obtain ⟨hz,c',e,_⟩:=need_inv e hc
  have e:=newC_inv e
  cases e
  rw [arm_eval_Subscript]
  refine wpAny_bind (wpAny_mono (S.ex A d g f ρ ae env v r N σ t σ1 c1 e1 hc1 s R) (fun o s1 x1 => ?_) fun _ _ z=>z)
  obtain ⟨g1,f1,ρ1,E1,R1,V1⟩:=x1
  have part:∀ {Q:Value→Value→Value→Shared→Prop},wpAny (model prog w) A (eval e0 env) (fun u s'=>Q (if wh=0 then u else .none) (if wh=1 then u else .none) (if wh=2 then u else .none) s') Fa s1 →
      wpAny (model prog w) A (evalPart (slPart wh 0 e0) env) (fun l s₁=>wpAny (model prog w) A (evalPart (slPart wh 1 e0) env) (fun u s₂=>wpAny (model prog w) A (evalPart (slPart wh 2 e0) env) (fun st s₃=>Q l u st s₃) Fa s₂) Fa s₁) Fa s1:=fun {Q} h=>by
    rcases (by omega:wh=0∨wh=1∨wh=2) with rfl | rfl | rfl
    · exact wpAny_mono h (fun u s' x=>wpAny_pure (wpAny_pure x)) fun _ _ z=>z
    · exact wpAny_pure (wpAny_mono h (fun u s' x=>wpAny_pure x) fun _ _ z=>z)
    · exact wpAny_pure (wpAny_pure h)
  refine wpAny_bind (wpAny_holding (wpAny_Slice (part (wpAny_mono (S.ex A d g1 f1 ρ1 ae env e0 r (N.mono E1.rl) σ1 _ σ2 c3 e3 hc3 s1 R1) (fun u s2 x2 => ?_) fun _ _ z=>z))))
  obtain ⟨g2,f2,ρ2,E2,R2,V2⟩:=x2
  obtain ⟨tk,rfl⟩:∃ tk,u = .int k tk:=by cases V2; exact ⟨_,rfl⟩
  have V1:=V1.mono E2.gl E2.rl
  have key:σ3=σ2 ∧ ∃ l vs m,o = .ref l∧s2.heap.get? l=some ⟨.type "list",none,.seq vs m,#[]⟩∧VRs w.params g2 ρ2 xs vs.toList:=by
    cases V1 with
    | @lst ys b vs m q1 q2=>cases e5; exact ⟨rfl,b,vs,m,rfl,R2.gk q1,q2⟩
    | @ref i b dd hi =>
      obtain ⟨x,hx,e5⟩:=getC_inv e5
      cases x<;>first | (cases e5; done) | skip
      cases e5
      obtain ⟨vs,m,o1,o2,o3⟩:=R2.cell hx hi
      exact ⟨rfl,b,vs,m,rfl,o1,o2⟩
    | tup _ _=>cases h1
    | _=>cases e5
  obtain ⟨rfl,l,vs,m,rfl,hl,hv⟩:=key
  obtain ⟨h0,zs,hp,hzs,hlen⟩:=cutL_at hy hv
  have hsz:vs.size≤szL:=by rw [hv.sizeA]; exact hz
  have hpart:∀ i,IsPart (if wh=i then .int k tk else .none) (slPart wh i k):=fun i=>by
    unfold slPart
    by_cases q:wh=i
    · rw [if_pos q,if_pos q]; exact .int _ _
    · rw [if_neg q,if_neg q]; exact .none
  refine wpAny_bind (wpAny_standAt ?_)
  have hk:∀ (ob:Obj) b o,s2.heap.get? b=some o→(s2.heap.push ob).get? b=some o:=fun ob b o e=>Heap.get?_push_of_some _ e
  refine wpAny_bind (getitem_false (.inl ⟨_,hk _ _ _ hl,rfl⟩) (by simp) ?_)
  obtain ⟨ops,hops⟩:∃ ops,subscripted (Expr.Slice (slPart wh 0 e0) (slPart wh 1 e0) (slPart wh 2 e0) p1) false (Value.ref l) (Value.ref s2.heap.objs.size)=PySem.operate ops (getItem (.ref l) (.ref s2.heap.objs.size)):=by
    rcases (by omega:wh=0∨wh=1∨wh=2) with rfl | rfl | rfl<;>exact ⟨_,rfl⟩
  rw [hops]
  refine wpAny_bind (wp_operate ?_)
  refine wpAny_getItem_list_slice (exact_list (hk _ _ _ hl)) (Heap.IsSliceOf.new _ _ _ _) (hpart 0) (hpart 1) (hpart 2) h0 ?_ (szL_line hsz)
  rw [hp]
  refine wpAny_bind (wpAny_letTemporaryGo (wpAny_pure ?_))
  have R3:=R2.grow (s':={ s2 with heap:=s2.heap.push { cls:=.type "slice",data:=.fields #[(if wh=0 then .int k tk else .none),(if wh=1 then .int k tk else .none),(if wh=2 then .int k tk else .none)] } }) (hk _)
  exact (R3.newOb (c:=.lst ys) (o:={ cls:=.type "list",data:=.seq zs.toArray }) rfl rfl fun ρ' hr=>⟨zs.toArray,0,rfl,hzs.mono (PH.le_refl _) hr,by
    rw [List.size_toArray]; omega⟩).under (E1.trans E2)
theorem wpAny_mkFun {M:Model}{E:Value→Shared→Prop}{name qual:Str}{params:Arguments}{body:FuncBody}{scope:Scope}{c P:Addr}{ps:Array Value}{pos:Pos}{fl:Nat}{clos:List (Str×Addr)}{Q:Value→Shared→Prop}
    (hcl:closureFor scope env=pure clos) (hge0:env.globals=mainGlobals) (hg:s.heap.Ns mainGlobals mg) (hcode:env.code = .ref c) (C:CodeHd s.heap c P) (hP:s.heap.get? P=some (tabObj ps)) (ht:TriplesOk ps.toList)
    (hnf:codeAmong pos ps.toList=none) (hgP:mainGlobals≠P) (hb:s.heap.BuiltinsAt mg P) (hdoc:∀ b,body = .stmts b→docOf b=none)
    (h:∀ c' ctv h' tk,Heap.ExtBut P s.heap h'→s.heap.objs.size≤c'→c'<h'.objs.size→h'.CodeRec (.ref c') qual→h'.get? P=some (tabObj (ps++#[rawInt pos.line,rawInt pos.col,.ref c'])) →
      Q (.ref h'.objs.size) { s with heap:=h'.push { cls:=.type "function",data:=.func { name,qualname:=qual,params,body,scope,globals:=mainGlobals,closure:=clos,defaults:=.none,kwdefaults:=.none,doc:=.none,pyModule:=((mg "__name__").getD .none),annotations:=none,code:=.ref c',closureTuple:=ctv,builtins:=builtinsNs } },toks:=tk }) :
    wpAny M A (makeFunction name qual params body scope env [] [] [] pos fl) Q E s:=by
  obtain ⟨bm,ob,hbm,hne0,_,hneP,hbo,hcls,hdict,hdata⟩:=hb
  rw [makeFunction_eq]
  simp only [List.zip_nil_right,List.filterMap_nil,List.isEmpty_nil,if_true,pure_bind]
  unfold makeTail
  rw [hcl,hge0]
  refine wpAny_bind (wpAny_pure ?_)
  cases clos with
  | nil =>
    simp only [List.isEmpty_nil,if_true]
    refine wpAny_bind (wpAny_pure ?_)
    refine wpAny_bind (wpAny_functionCodeX hcode (C.code hP ht) (C.tab hP) hnf fun c' h' tk hx hge hlt _ hrec htb _ => ?_)
    have hg':=hg.extBut hx hgP
    refine wpAny_bind (wpAny_builtinsFor hg' hbm hne0 (hx _ _ hneP hbo) hcls hdict hdata ?_)
    refine wpAny_bind (wpAny_nsGet hg' ?_)
    cases body with
    | expr x=>exact wpAny_bind (wpAny_pure (wpAny_newObj_type (h c' .none h' tk hx hge hlt hrec htb.2) (by size_fits)))
    | stmts b =>
      dsimp only
      rw [hdoc b rfl]
      exact wpAny_bind (wpAny_pure (wpAny_newObj_type (h c' .none h' tk hx hge hlt hrec htb.2) (by size_fits)))
  | cons q r =>
    simp only [List.isEmpty_cons,Bool.false_eq_true,if_false]
    refine wpAny_bind (wpAny_newTextTuple ?_)
    refine wpAny_bind (wpAny_functionCodeX hcode ((C.keeps fun b o e=>Heap.get?_push_of_some _ e).code (Heap.get?_push_of_some _ hP) ht) ((C.keeps fun b o e=>Heap.get?_push_of_some _ e).tab (Heap.get?_push_of_some _ hP)) hnf fun c' h' tk hx hge hlt _ hrec htb _ => ?_)
    have hg':=(hg.push _).extBut hx hgP
    have hx':Heap.ExtBut P s.heap h':=fun b o hb' e=>hx b o hb' (Heap.get?_push_of_some _ e)
    have hge':s.heap.objs.size≤c':=Nat.le_trans (by rw [Heap.size_push]; omega) hge
    refine wpAny_bind (wpAny_builtinsFor hg' hbm hne0 (hx' _ _ hneP hbo) hcls hdict hdata ?_)
    refine wpAny_bind (wpAny_nsGet hg' ?_)
    cases body with
    | expr x=>exact wpAny_bind (wpAny_pure (wpAny_newObj_type (h c' _ h' tk hx' hge' hlt hrec htb.2) (by size_fits)))
    | stmts b =>
      dsimp only
      rw [hdoc b rfl]
      exact wpAny_bind (wpAny_pure (wpAny_newObj_type (h c' _ h' tk hx' hge' hlt hrec htb.2) (by size_fits)))
theorem Rel.newAt2 {l:List Ent}{h:Heap}(R:Rel prog w cloT g f h ρ l) {i a d:Nat}{c:Cell}(hi:ρ i=none) (hn:a∉adrs ρ l) (hn':d∉adrs ρ l) (hne:a≠d) (hf:f a=none) (hf':f d=none) (ht:c.two=true) (hc:CellAt prog w cloT g (ρ.add i a d) h a d c):Rel prog w cloT g f h (ρ.add i a d) ((i,c)::l):=by
  have hle:=Rho.add_le (a:=a) (d:=d) hi
  have R':=R.rho hle
  have e:adrs (ρ.add i a d) l=adrs ρ l:=R.adrs_le hle
  have e1:adr (ρ.add i a d) (i,c)=[a,d]:=by unfold adr; dsimp only; rw [Rho.add_at]; dsimp only; rw [ht]; rfl
  refine ⟨R.gf,R'.keep,fun j c' hm => ?_,fun x hx => ?_,?_⟩
  · rcases List.mem_cons.mp hm with q | hm
    · cases q; exact ⟨a,d,Rho.add_at,hc⟩
    · exact R'.at_ j c' hm
  · rw [adrs_cons,e,e1] at hx
    rcases List.mem_append.mp hx with hx | hx
    · simp at hx
      rcases hx with rfl | rfl
      · exact hf
      · exact hf'
    · exact R.fresh x hx
  · rw [adrs_cons,e,e1]
    exact List.nodup_cons.mpr ⟨fun q=>by
      rcases List.mem_cons.mp q with q | q
      · exact hne q
      · exact hn q,List.nodup_cons.mpr ⟨hn',R.nd⟩⟩
theorem codeAmong_other {pos pos':Pos}{c:Value}{l:List Value}(h:TriplesOk l) (hn:codeAmong pos' l=none) (hne:¬ (pos.line=pos'.line∧pos.col=pos'.col)):codeAmong pos' (l++[rawInt pos.line,rawInt pos.col,c])=none:=by
  fun_induction TriplesOk l with
  | case1 =>
    simp only [List.nil_append,rawInt,codeAmong]
    rw [if_neg]
    intro q
    simp only [Bool.and_eq_true,beq_iff_eq] at q
    exact hne ⟨by omega,by omega⟩
  | case2 a t b u x rest ih =>
    simp only [List.cons_append,codeAmong] at hn ⊢
    split at hn
    · cases hn
    · rename_i hc
      rw [if_neg hc]
      exact ih h hn
  | case3 l h1 h2=>exact h.elim
structure CodeB (hb:HB) (mg:Str→Option Value) (ci:CodeI):Prop where
  c:CodeHd hb.heap ci.c ci.P
  b:hb.heap.BuiltinsAt mg ci.P
  g:mainGlobals≠ci.P
theorem Tri.mkClo (B:BaseH K mg mb hb) (CB:CodeB hb mg ci) (N:EnvR ρ ae env) {name qn:Str}{params:Arguments}{body:FuncBody}{scope:Scope}{pos:Pos}{fl:Nat}(hdoc:∀ b,body = .stmts b→docOf b=none) (hq:∀ q,env.qual=q++".<locals>." → qn=q++".<locals>." ++ name) :
    Tri prog w cloT hb A g f ρ (mkClo cloT ci ae name params body scope pos) (makeFunction name qn params body scope env [] [] [] pos fl) (VRp w):=by
  intro σ a σ' c e hc s R
  obtain ⟨k,rr,hd,e⟩:=takeD_inv e
  obtain ⟨q,hq',e⟩:=orFail_inv e
  obtain ⟨cc,qq⟩:=q
  obtain ⟨h1,e⟩:=chk_inv e
  obtain ⟨⟨n1,n2,n3,n4,n5⟩,c',e,hc⟩:=need_inv e hc
  obtain ⟨cs,σ1,c1,c2,e1,e,hc1,hc⟩:=bd_inv e hc
  obtain ⟨z,cl,hcl,hclr⟩:=cloA_pure N e1
  subst z
  obtain ⟨t,ht,e⟩:=getC_inv e
  cases t<;>first | (cases e; done) | skip
  rename_i P b9 l
  obtain ⟨h2,e⟩:=chk_inv e
  obtain ⟨h3,e⟩:=chk_inv e
  cases e
  have h1:cc=ci.c:=Nat.eq_of_beq_eq_true h1
  have h2:P=ci.P:=Nat.eq_of_beq_eq_true h2
  subst h2
  have hnp:(pos.line,pos.col)∉l:=hasPos_no (by simpa using h3)
  obtain ⟨hco,hql⟩:=N.co _ _ hq'
  have R0:RelS prog w cloT hb ⟨σ.cells,σ.next,rr⟩ g f ρ s:=R.dirs
  obtain ⟨a0,d0,hi0,z0⟩:=R0.there ht
  obtain ⟨rfl,ps,o1,o2,o3,more,o4⟩:=z0
  refine wpAny_mkFun hcl N.gl (B.g.keeps R.keeps) (by rw [hco,h1]) (CB.c.keeps R.keeps) o1 o2 (o3 pos hnp) CB.g (CB.b.keeps R.keeps) hdoc fun c' ctv h' tk hx hge hlt hrec htb => ?_
  have hnew:∀ b,s.heap.objs.size≤b→s.heap.get? b=none:=fun b hb=>by
    cases q:s.heap.get? b with
    | none=>rfl
    | some o=>exact absurd (Heap.lt_size q) (Nat.not_lt.mpr hb)
  have hPlt:ci.P<s.heap.objs.size:=Heap.lt_size o1
  have hsz:s.heap.objs.size≤h'.objs.size:=Nat.le_of_lt (Nat.lt_of_le_of_lt hge hlt)
  have hks:∀ b o,b≠ci.P→s.heap.get? b=some o→∀ ob:Obj,(h'.push ob).get? b=some o:=fun b o n e ob=>Heap.get?_push_of_some _ (hx b o n e)
  have R1:=R0.put (s':={ s with heap:=h'.push { cls:=.type "function",data:=.func { name,qualname:=qn,params,body,scope,globals:=mainGlobals,closure:=cl,defaults:=.none,kwdefaults:=.none,doc:=.none,pyModule:=((mg "__name__").getD .none),annotations:=none,code:=.ref c',closureTuple:=ctv,builtins:=builtinsNs } },toks:=tk })
    (c':=.tbl ci.P b9 ((pos.line,pos.col)::l)) ht hi0 rfl (.inl rfl) (fun b o n e=>hks b o n e _) ⟨rfl,_,Heap.get?_push_of_some _ htb,by
      rw [Array.toList_append]
      exact TriplesOk_snoc _ _ _ _ o2,⟨fun pos' hn'=>by
      rw [Array.toList_append]
      refine codeAmong_other o2 (o3 pos' fun q=>hn' (.tail _ q)) ?_
      rintro ⟨x,y⟩
      exact hn' (by rw [← x,← y]; exact .head _),_,by rw [o4,Array.append_assoc]⟩⟩
  have nin:∀ b,s.heap.objs.size≤b→b∉adrs ρ (puC σ.cells 0 (.tbl ci.P b9 ((pos.line,pos.col)::l))):=fun b hb q=>by
    obtain ⟨l1,l2,w1,w2⟩:=lkC_split ht
    have w1:σ.cells=_:=w1
    rw [w2,adrs_append,adrs_cons] at q
    have:adrs ρ σ.cells=adrs ρ l1++(adr ρ (0,.tbl ci.P b9 ((pos.line,pos.col)::l))++adrs ρ l2):=by rw [w1,adrs_append,adrs_cons]; rfl
    rw [← this] at q
    obtain ⟨o,ho⟩:=R.r.some_of q
    rw [hnew b hb] at ho; cases ho
  have fno:∀ b,s.heap.objs.size≤b→f b=none:=fun b hb=>by
    cases q:f b with
    | none=>rfl
    | some o=>have:=R.r.keep _ _ q; rw [hnew b hb] at this; cases this
  have hne:h'.objs.size≠c':=Nat.ne_of_gt hlt
  have hnx:ρ σ.next=none:=R.n _ (Nat.le_refl _)
  have R2:=R1.r.newAt2 (i:=σ.next) (a:=h'.objs.size) (d:=c') (c:=.clo k cs) hnx (nin _ hsz) (nin _ hge) hne (fno _ hsz) (fno _ hge) rfl (by
    obtain ⟨cr,oc,vs,tq,q1,q2,q3,q4⟩:=hrec
    cases q1
    refine ⟨_,push_at _ _ rfl,n1.symm,?_,n3.symm,n4.symm,n5.symm,rfl,rfl,hclr.mono (Rho.add_le hnx),rfl,rfl,oc,vs,tq,Heap.get?_push_of_some _ q2,q3,?_⟩
    · show qn=_
      rw [n2]; exact hq _ hql
    · rw [q4,n2,hq _ hql])
  exact ⟨g,f,_,⟨PH.le_refl _,PH.le_refl _,Rho.add_le hnx,fun _ _ e=>.inl e⟩,⟨R2,fun i hi=>by
    have hi:σ.next+1≤i:=hi
    rw [Rho.add_ne (by omega)]; exact R.n i (by omega),R.b0⟩,.ref Rho.add_at⟩
theorem anns_nil:∀ {as:List Arg},as.all plainArg=true→annotationsOf as env=[]
  | [],_=>rfl
  | ⟨n,none,p⟩::r,h=>by
    rw [List.all_cons,Bool.and_eq_true] at h
    show annotationsOf r env=[]
    exact anns_nil h.2
  | ⟨n,some a,p⟩::r,h=>by
    rw [List.all_cons,Bool.and_eq_true] at h
    cases h.1
theorem Tri.defF (B:BaseH K mg mb hb) (CB:CodeB hb mg ci) (N:EnvR ρ ae env) {name bind:Str}{args:Arguments}{body:List Stmt}{deco:List Expr}{ret:Option Expr}{tp:List TypeParam}{scope:Scope}{ts:Option Scope}{pos:Pos} :
    Tri prog w cloT hb A g f ρ (defF cloT ci ae name args body deco ret tp scope bind pos) (exec (.FunctionDef name args body deco ret tp scope ts bind pos) env) (FLR w):=by
  unfold Nu.defF
  split
  · rename_i as
    split
    · split
      · split
        · refine .chk fun h => ?_
          obtain ⟨h1,h2,h3⟩:=chk2 h
          have hd:docOf body=none:=by
            unfold noDoc at h2
            split at h2
            · assumption
            · cases h2
          have hloc:env.kindOf bind=some .local:=by
            unfold isLoc at h3
            split at h3
            · exact N.kind (by assumption)
            · cases h3
          have hqn:qualnameIn env name bind=env.qual++name:=by
            unfold qualnameIn
            rw [hloc]; rfl
          intro σ a σ' c e hc s R
          obtain ⟨t,σ1,c1,c2,e1,e2,hc1,hc2⟩:=bd_inv e hc
          obtain ⟨u,σ2,c3,c4,e3,e4,hc3,hc4⟩:=bd_inv e2 hc2
          cases e4
          have hev:exec (.FunctionDef name ⟨[],as,none,[],[],none,[]⟩ body [] none [] scope ts bind pos) env=(do
              standAt pos
              let f ← PySem.holding [] (do
                let ann ← evalNamed (annotationsOf (as++[]++[]++[]++[]) env++[])
                makeFunction name (qualnameIn env name bind) ⟨[],as,none,[],[],none,[]⟩ (.stmts body) scope env [] [] ann pos pos.line)
              standAt pos
              bindName env bind f
              pure .next):=by
            rw [arm_exec_FunctionDef]
            rfl
          rw [hev,hqn]
          have hann:annotationsOf (as++[]++[]++[]++[]) env++([]:List (Str×Sem Value))=[]:=by
            simp only [List.append_nil]; exact anns_nil h1
          rw [hann]
          refine wpAny_bind (wpAny_standAt (wpAny_bind (wpAny_holding (wpAny_bind (wpAny_pure ?_)))))
          refine wpAny_mono (Tri.mkClo B CB N (fun b q=>by cases q; exact hd) (fun q e=>by rw [e]) σ t σ1 c1 e1 hc1 s R) (fun v s1 x1 => ?_) fun _ _ z=>z
          obtain ⟨g1,f1,ρ1,E1,R1,V1⟩:=x1
          refine wpAny_bind (wpAny_standAt (wpAny_bind (wpAny_bindName ?_)))
          refine wpAny_mono (Tri.store (N.mono E1.rl) V1 σ1 u _ c3 e3 hc3 s1 R1) (fun _ s2 x2=>wpAny_pure (Back.under E1 (x2.mono fun _ _ _ _ _=>FLR.next))) fun _ _ z=>z
        · exact .fail
      · exact .fail
    · exact .fail
  · exact .fail
theorem Tri.lamF (B:BaseH K mg mb hb) (CB:CodeB hb mg ci) (N:EnvR ρ ae env) {args:Arguments}{body:Expr}{scope:Scope}{pos:Pos} :
    Tri prog w cloT hb A g f ρ (lamF cloT ci ae args body scope pos) (eval (.Lambda args body scope pos) env) (VRp w):=by
  unfold Nu.lamF
  split
  · rename_i as
    intro σ a σ' c e hc s R
    have hev:eval (.Lambda ⟨[],as,none,[],[],none,[]⟩ body scope pos) env=makeFunction nmLam (env.qual++nmLam) ⟨[],as,none,[],[],none,[]⟩ (.expr body) scope env [] [] [] pos pos.line:=rfl
    rw [hev]
    exact Tri.mkClo B CB N (fun b q=>by cases q) (fun q e=>by rw [e]) σ a σ' c e hc s R
  · exact .fail
theorem sndX (B:BaseH K mg mb hb) (CB:CodeB hb mg ci):SndX prog w cloT hb (xtF cloT ci):=by
  intro p S A d g f ρ ae env x r N
  unfold xtF
  split
  · exact Tri.sliF (wh:=0) S r N (by decide)
  · exact Tri.sliF (wh:=1) S r N (by decide)
  · exact Tri.sliF (wh:=2) S r N (by decide)
  · exact Tri.dicF S r N
  · exact Tri.lcE S r N
  · exact Tri.lamF B CB N
  · exact .fail
theorem sndS' (B:BaseH K mg mb hb) (CB:CodeB hb mg ci):SndS prog w cloT hb (xsF cloT ci):=by
  intro p S A d g f ρ ae env x r N
  unfold xsF
  split
  · refine .orFail fun b hb'=>.ifB (fun h => ?_) fun _=>.fail
    subst h
    have hb':=pure_of hb'
    rw [← N.sc,← swaps1_scope] at hb'
    exact Tri.lcS S r N hb'
  · exact Tri.defF B CB N
  · exact .at_ (.ret .brk)
  · exact .fail
end
end
abbrev pw:Program:=PySem.Challenge.pw_nu0297_01
def us (s:String) (t:Nat):Value:=.str (Str.ofString s) t
def u (s:String):Str:=Str.ofString s
def ue (P:Params) (s:String) (t:Nat) (v:Value):DictEntry:=⟨PyData.keyHash P (Str.ofString s),.str (Str.ofString s) t,v⟩
def bd:List Stmt:=pw.main.body
def nthS (l:List Stmt) (i:Nat):Stmt:=(l[i]?).getD default
def sT (i:Nat):Stmt:=nthS bd i
def clsBody:Stmt→List Stmt
  | .ClassDef _ _ _ b _ _ _ _ _ _ _=>b
  | _=>[]
def sM (i j:Nat):Stmt:=nthS (clsBody (sT i)) j
def stParams:Stmt→Arguments
  | .FunctionDef _ a _ _ _ _ _ _ _ _=>a
  | _=>default
def stBody:Stmt→List Stmt
  | .FunctionDef _ _ b _ _ _ _ _ _ _=>b
  | _=>[]
def stScope:Stmt→Scope
  | .FunctionDef _ _ _ _ _ _ s _ _ _=>s
  | _=>default
def uf (n q:String) (st:Stmt) (g:Nat) (d pm cd:Value) (b:Nat):FuncData :=
  { name:=Str.ofString n,qualname:=Str.ofString q,params:=stParams st,body:=.stmts (stBody st),scope:=stScope st,globals:=g,closure:=[],defaults:=d,kwdefaults:=.none,doc:=.none,
    pyModule:=pm,annotations:=none,code:=cd,closureTuple:=.none,builtins:=b }
def over (k:List (Nat×Obj)) (x:Nat→Obj) (i:Nat):Obj:=@List.rec (Nat×Obj) (fun _=>Obj) (x i) (fun p _ ih=>@Bool.rec (fun _=>Obj) ih p.2 (Nat.beq p.1 i)) k
def treeOf (f:Nat→Obj) (n k:Nat):Nat→Nat→BT :=
  @Nat.rec (fun _=>Nat→Nat→BT) (fun _ _=>.nil) (fun _ ih a b=>@Bool.rec (fun _=>BT) .nil (.node (f b) (ih (2*a) (a+b)) (ih (2*a) (2*a+b))) (Nat.blt b n)) k
def envT:Env:={ scope:=pw.main.scope,locals:=mainNs,globals:=mainNs,cells:=[],code:=.ref 13,frame:=some 14 }
def cT:Code:=.body (behindTheImports pw) envT
def stT (k:List (Nat×Obj)) (x:Nat→Obj) (n t:Nat) (os:OsState):SharedT:=⟨treeOf (over k x) n 12 1 0,n,{},Array.mk [],{},t,os⟩
def obs (as:List Nat) (r:Flow×SharedT×Code×Pos):Flow×Nat×Life×Array GenState×Drawn×Nat×OsState×Code×Pos×List (Option Obj) :=
  (r.1,r.2.1.n,r.2.1.life,r.2.1.gens,r.2.1.drawn,r.2.1.toks,r.2.1.os,r.2.2.1,r.2.2.2,as.map r.2.1.tree.get)
def kv (k:List (Nat×Obj)):List (Option Obj):=k.map fun p=>some p.2
def ks (k:List (Nat×Obj)):List Nat:=k.map fun p=>p.1
def sgL (k:Params→List (Nat×Obj)) (as:List Nat) (n t i m N:Nat) (pos:Pos) (w:World) (os:OsState) (x:Nat→Obj) :=
  (PySem.W.Fast.tw10110043849684766642 PySem.W.Fast.tw14364793385576792824 pw w 11 (some (.ref 6)) 1 N (stT (k w.params) x n t os) (piecesOf ((bd.drop i).take m) envT cT pos [topFrame ⟨0,0,0,0⟩])).map (obs as)
def sgR (k:Params→List (Nat×Obj)) (n t:Nat) (pos:Pos) (w:World) (os:OsState):Option (Flow×Nat×Life×Array GenState×Drawn×Nat×OsState×Code×Pos×List (Option Obj)) :=
  some (.next,n,{},Array.mk [],{},t,os,cT,pos,kv (k w.params))
def co (n q:String) (t a b r k:Nat):Obj:=⟨(.type "code"),none,.fields #[us n t,us q (t+1),us "/claim/cut.py" (t+2),.int a 0,.int b 0,.int 0 0,.int 0 0,.int 3 0,.ref r,.bool true,.int 181 0,.ref (r+1),.none,.ref (r+2),.ref (r+3),.ref (r+4),.int k 0,.int a 0,us "/claim/cut.py" (k+1)],#[]⟩
def o11 (P:Params):Obj:=⟨(.type "tuple"),none,.seq #[] 0,#[]⟩
def o12 (P:Params):Obj:=⟨.none,none,.fields #[],#[]⟩
def o13 (P:Params):Obj:=⟨(.type "code"),none,.fields #[(us "<module>" 182),(us "<module>" 183),(us "/claim/cut.py" 184),(.int (1) 0),(.int (0) 0),(.int (0) 0),(.int (0) 0),(.int (0) 0),(.ref 11),(.bool false),(.int (181) 0),(.ref 12),.none,.none,.none,.none,(.int (185) 0),(.int (1) 0),(us "/claim/cut.py" 186)],#[]⟩
def o14 (P:Params):Obj:=⟨(.type "frame"),none,.plain,#[some (.ref 13),some (.ref 3),some (.ref 3),none,some (us "__main__" 164),none,some (.ref 0)]⟩
def kb0 (P:Params) (a b:Obj):List (Nat×Obj):=[(0,boot_o_0 P),(1,boot_o_1 P),(2,boot_o_2 P),(3,a),(4,boot_o_4 P),(5,boot_o_5 P),(6,boot_o_6 P),(7,boot_o_7 P),(8,boot_o_8 P),(9,boot_o_9 P),(10,boot_o_10 P),(11,o11 P),(12,b),(13,o13 P),(14,o14 P)]
def kn0 (P:Params):List (Nat×Obj):=kb0 P (boot_o_3 P) (o12 P)
def b3_0 (P:Params) (x:Value):List DictEntry:=[ue P "__name__" 165 x,ue P "__doc__" 166 .none,ue P "__package__" 167 .none,ue P "__loader__" 168 (.builtin "__main__.__loader__#opaque"),ue P "__spec__" 169 .none,ue P "__annotations__" 170 (.ref 6),ue P "__builtins__" 171 (.ref 4),ue P "__file__" 173 (us "/claim/cut.py" 172),ue P "__cached__" 174 .none,ue P "_wall" 193 (.ref 21),ue P "GemError" 223 (.ref 39),ue P "BadArgument" 239 (.ref 52),ue P "StepsOver" 264 (.ref 71),ue P "Raised" 289 (.ref 90)]
def o3_0 (P:Params):Obj:=⟨(.type "dict"),none,.dict ⟨b3_0 P (us "gemrows.nodes" 290)⟩ 14,#[]⟩
def b12_1:List Value:=[(.int (1) 0),(.int (0) 0),(.ref 20),(.int (5) 0),(.int (0) 0),(.ref 27),(.int (10) 0),(.int (0) 0),(.ref 48),(.int (12) 0),(.int (0) 0),(.ref 60),(.int (17) 0),(.int (0) 0),(.ref 79)]
def o12_1 (P:Params):Obj:=⟨.none,none,.fields ⟨b12_1⟩,#[]⟩
def kb1 (P:Params) (a b:Obj):List (Nat×Obj):=kb0 P a b
def kn1 (P:Params):List (Nat×Obj):=kb1 P (o3_0 P) (o12_1 P)
def b3_1 (P:Params) (x:Value):List DictEntry:=b3_0 P x++[ue P "FIELDS" 521 (.ref 93)]
def o3_1 (P:Params):Obj:=⟨(.type "dict"),none,.dict ⟨b3_1 P (us "gemrows.nodes" 290)⟩ 15,#[]⟩
def o93 (P:Params):Obj:=⟨(.type "dict"),none,.dict #[ue P "nil" 292 (.ref 94),ue P "true" 294 (.ref 95),ue P "false" 296 (.ref 96),ue P "self" 298 (.ref 97),ue P "retry" 300 (.ref 98),ue P "int" 302 (.ref 99),ue P "sym" 305 (.ref 100),ue P "str" 308 (.ref 101),ue P "dstr" 311 (.ref 102),ue P "array" 314 (.ref 103),ue P "hash" 317 (.ref 104),ue P "range" 320 (.ref 105),ue P "splat" 325 (.ref 106),ue P "lvar" 328 (.ref 107),ue P "ivar" 331 (.ref 108),ue P "gvar" 334 (.ref 109),ue P "const" 337 (.ref 110),ue P "t_local" 341 (.ref 112),ue P "t_ivar" 344 (.ref 113),ue P "t_gvar" 347 (.ref 114),ue P "t_const" 350 (.ref 115),ue P "t_index" 353 (.ref 116),ue P "t_attr" 357 (.ref 117),ue P "t_splat" 361 (.ref 118),ue P "t_group" 364 (.ref 119),ue P "assign" 367 (.ref 120),ue P "masgn" 371 (.ref 121),ue P "opasgn" 375 (.ref 122),ue P "call" 380 (.ref 123),ue P "vcall" 387 (.ref 124),ue P "block" 390 (.ref 125),ue P "blockpass" 394 (.ref 126),ue P "and" 397 (.ref 127),ue P "or" 401 (.ref 128),ue P "not" 405 (.ref 130),ue P "super" 408 (.ref 131),ue P "yield" 412 (.ref 132),ue P "lambda" 415 (.ref 133),ue P "defined" 419 (.ref 134),ue P "seq" 422 (.ref 135),ue P "if" 425 (.ref 136),ue P "while" 430 (.ref 137),ue P "case" 435 (.ref 138),ue P "casein" 440 (.ref 139),ue P "matchp" 445 (.ref 140),ue P "matchq" 449 (.ref 141),ue P "begin" 453 (.ref 142),ue P "break" 459 (.ref 143),ue P "next" 462 (.ref 144),ue P "return" 465 (.ref 145),ue P "def" 468 (.ref 146),ue P "class" 474 (.ref 148),ue P "module" 478 (.ref 149),ue P "sclass" 481 (.ref 150),ue P "alias" 484 (.ref 151),ue P "undef" 487 (.ref 152),ue P "p_value" 489 (.ref 153),ue P "p_bind" 491 (.ref 154),ue P "p_pin" 493 (.ref 155),ue P "p_alt" 495 (.ref 156),ue P "p_as" 497 (.ref 157),ue P "p_array" 500 (.ref 158),ue P "p_hash" 505 (.ref 159)] 63,#[]⟩
def o97 (P:Params):Obj:=⟨(.type "tuple"),none,.seq #[] 0,#[]⟩
def o98 (P:Params):Obj:=⟨(.type "tuple"),none,.seq #[] 0,#[]⟩
def o99 (P:Params):Obj:=⟨(.type "tuple"),none,.seq #[(us "value" 303)] 0,#[]⟩
def o100 (P:Params):Obj:=⟨(.type "tuple"),none,.seq #[(us "name" 306)] 0,#[]⟩
def o107 (P:Params):Obj:=⟨(.type "tuple"),none,.seq #[(us "name" 329)] 0,#[]⟩
def o108 (P:Params):Obj:=⟨(.type "tuple"),none,.seq #[(us "name" 332)] 0,#[]⟩
def o110 (P:Params):Obj:=⟨(.type "tuple"),none,.seq #[(us "scope" 338),(us "name" 339)] 0,#[]⟩
def o114 (P:Params):Obj:=⟨(.type "tuple"),none,.seq #[(us "name" 348)] 0,#[]⟩
def o135 (P:Params):Obj:=⟨(.type "tuple"),none,.seq #[(us "items" 423)] 0,#[]⟩
def o136 (P:Params):Obj:=⟨(.type "tuple"),none,.seq #[(us "test" 426),(us "yes" 427),(us "no" 428)] 0,#[]⟩
def o142 (P:Params):Obj:=⟨(.type "tuple"),none,.seq #[(us "body" 454),(us "rescues" 455),(us "other" 456),(us "ensure" 457)] 0,#[]⟩
def o143 (P:Params):Obj:=⟨(.type "tuple"),none,.seq #[(us "value" 460)] 0,#[]⟩
def o144 (P:Params):Obj:=⟨(.type "tuple"),none,.seq #[(us "value" 463)] 0,#[]⟩
def o145 (P:Params):Obj:=⟨(.type "tuple"),none,.seq #[(us "value" 466)] 0,#[]⟩
def kb2 (P:Params) (a b:Obj):List (Nat×Obj):=kb1 P a b++[(93,o93 P),(97,o97 P),(98,o98 P),(99,o99 P),(100,o100 P),(107,o107 P),(108,o108 P),(110,o110 P),(114,o114 P),(135,o135 P),(136,o136 P),(142,o142 P),(143,o143 P),(144,o144 P),(145,o145 P)]
def kn2 (P:Params):List (Nat×Obj):=kb2 P (o3_1 P) (o12_1 P)
def b3_2 (P:Params) (x:Value):List DictEntry:=b3_1 P x++[ue P "Node" 564 (.ref 185)]
def o3_2 (P:Params):Obj:=⟨(.type "dict"),none,.dict ⟨b3_2 P (us "gemrows.things" 565)⟩ 16,#[]⟩
def b12_2:List Value:=b12_1++[(.int (24) 0),(.int (0) 0),(.ref 165)]
def o12_2 (P:Params):Obj:=⟨.none,none,.fields ⟨b12_2⟩,#[]⟩
def o168 (P:Params):Obj:=⟨(.type "tuple"),none,.seq #[(.ref 167),(.int (0) 534)] 0,#[]⟩
def o174 (P:Params):Obj:=co "__init__" "Node.__init__" 535 26 4 169 542
def o175 (P:Params):Obj:=⟨(.type "function"),none,.func (uf "__init__" "Node.__init__" (sM 8 0) 3 (.ref 168) (us "gemrows.nodes" 290) (.ref 174) 0),#[]⟩
def o184 (P:Params):Obj:=⟨(.type "dict"),none,.dict #[ue P "__module__" 529 (us "gemrows.nodes" 290),ue P "__firstlineno__" 533 (.int (24) 532),ue P "__init__" 544 (.ref 175),ue P "part" 552 (.ref 182),ue P "__static_attributes__" 557 (.ref 183),ue P "__dict__" 559 (.ref 186),ue P "__weakref__" 561 (.ref 187),ue P "__doc__" 562 .none] 4,#[]⟩
def o185 (P:Params):Obj:=⟨(.type "type"),none,.cls { name:=(u "Node"),bases:=[(.type "object")],mro:=[(.ref 185),(.type "object")],ns:=184,qualname:=(u "Node"),hasDict:=true,slotNames:=[],subclasses:=[],abstract:=false,collection:=none,hasDel:=false },#[none,none,some (us "Node" 522),some (us "Node" 530),some (.builtin "object.__new__"),some (.bool true)]⟩
def kb3 (P:Params) (a b:Obj):List (Nat×Obj):=kb2 P a b++[(168,o168 P),(174,o174 P),(175,o175 P),(184,o184 P),(185,o185 P)]
def kn3 (P:Params):List (Nat×Obj):=kb3 P (o3_2 P) (o12_2 P)
def b3_3 (P:Params) (x:Value):List DictEntry:=b3_2 P x++[ue P "SIMPLE_ESCAPES" 600 (.ref 190)]
def o3_3 (P:Params):Obj:=⟨(.type "dict"),none,.dict ⟨b3_3 P (us "gemrows.things" 565)⟩ 17,#[]⟩
def kb4 (P:Params) (a b:Obj):List (Nat×Obj):=kb3 P a b
def kn4 (P:Params):List (Nat×Obj):=kb4 P (o3_3 P) (o12_2 P)
def b3_4 (P:Params) (x:Value):List DictEntry:=b3_3 P x++[ue P "OPERATORS" 628 (.ref 191),ue P "DEEPEST_KEY" 630 (.int (12) 629),ue P "Thing" 665 (.ref 208),ue P "Text" 693 (.ref 230),ue P "ListThing" 720 (.ref 250),ue P "TableThing" 770 (.ref 288),ue P "RangeThing" 801 (.ref 308),ue P "ProcThing" 844 (.ref 329),ue P "ErrorThing" 872 (.ref 349),ue P "FiberThing" 902 (.ref 369),ue P "ModuleThing" 949 (.ref 396),ue P "is_int" 956 (.ref 405),ue P "truth" 963 (.ref 412),ue P "sort_of" 970 (.ref 419),ue P "same" 979 (.ref 426),ue P "code_of" 985 (.ref 432),ue P "is_word" 993 (.ref 439),ue P "is_label" 1000 (.ref 446),ue P "is_plain_symbol" 1007 (.ref 453),ue P "full_name" 1014 (.ref 460)]
def o3_4 (P:Params):Obj:=⟨(.type "dict"),none,.dict ⟨b3_4 P (us "gemrows.things" 565)⟩ 37,#[]⟩
def b12_3:List Value:=b12_2++[(.int (40) 0),(.int (0) 0),(.ref 197),(.int (49) 0),(.int (0) 0),(.ref 218),(.int (54) 0),(.int (0) 0),(.ref 238),(.int (59) 0),(.int (0) 0),(.ref 258),(.int (74) 0),(.int (0) 0),(.ref 296),(.int (81) 0),(.int (0) 0),(.ref 316),(.int (94) 0),(.int (0) 0),(.ref 337),(.int (100) 0),(.int (0) 0),(.ref 357),(.int (108) 0),(.int (0) 0),(.ref 377),(.int (126) 0),(.int (0) 0),(.ref 404),(.int (128) 0),(.int (0) 0),(.ref 411),(.int (132) 0),(.int (0) 0),(.ref 418),(.int (140) 0),(.int (0) 0),(.ref 425),(.int (145) 0),(.int (0) 0),(.ref 431),(.int (156) 0),(.int (0) 0),(.ref 438),(.int (163) 0),(.int (0) 0),(.ref 445),(.int (165) 0),(.int (0) 0),(.ref 452),(.int (173) 0),(.int (0) 0),(.ref 459)]
def o12_3 (P:Params):Obj:=⟨.none,none,.fields ⟨b12_3⟩,#[]⟩
def o204 (P:Params):Obj:=co "__init__" "Thing.__init__" 643 42 3 199 649
def o205 (P:Params):Obj:=⟨(.type "function"),none,.func (uf "__init__" "Thing.__init__" (sM 13 0) 3 .none (us "gemrows.things" 565) (.ref 204) 0),#[]⟩
def o207 (P:Params):Obj:=⟨(.type "dict"),none,.dict #[ue P "__module__" 638 (us "gemrows.things" 565),ue P "__firstlineno__" 642 (.int (40) 641),ue P "__init__" 651 (.ref 205),ue P "__static_attributes__" 658 (.ref 206),ue P "__dict__" 660 (.ref 209),ue P "__weakref__" 662 (.ref 210),ue P "__doc__" 663 .none] 4,#[]⟩
def o208 (P:Params):Obj:=⟨(.type "type"),none,.cls { name:=(u "Thing"),bases:=[(.type "object")],mro:=[(.ref 208),(.type "object")],ns:=207,qualname:=(u "Thing"),hasDict:=true,slotNames:=[],subclasses:=[(.ref 230),(.ref 250),(.ref 288),(.ref 308),(.ref 329),(.ref 349),(.ref 369),(.ref 396)],abstract:=false,collection:=none,hasDel:=false },#[none,none,some (us "Thing" 631),some (us "Thing" 639),some (.builtin "object.__new__"),some (.bool true)]⟩
def o379 (P:Params):Obj:=⟨(.type "tuple"),none,.seq #[.none,(.bool false),.none,.none] 0,#[]⟩
def o385 (P:Params):Obj:=co "__init__" "ModuleThing.__init__" 915 110 7 380 925
def o386 (P:Params):Obj:=⟨(.type "function"),none,.func (uf "__init__" "ModuleThing.__init__" (sM 21 0) 3 (.ref 379) (us "gemrows.things" 565) (.ref 385) 0),#[]⟩
def o395 (P:Params):Obj:=⟨(.type "dict"),none,.dict #[ue P "__module__" 910 (us "gemrows.things" 565),ue P "__firstlineno__" 914 (.int (108) 913),ue P "__init__" 927 (.ref 386),ue P "is_own" 934 (.ref 393),ue P "__static_attributes__" 946 (.ref 394),ue P "__doc__" 947 .none] 2,#[]⟩
def o396 (P:Params):Obj:=⟨(.type "type"),none,.cls { name:=(u "ModuleThing"),bases:=[(.ref 208)],mro:=[(.ref 396),(.ref 208),(.type "object")],ns:=395,qualname:=(u "ModuleThing"),hasDict:=true,slotNames:=[],subclasses:=[],abstract:=false,collection:=none,hasDel:=false },#[some (.ref 372),none,some (us "ModuleThing" 903),some (us "ModuleThing" 911),some (.builtin "object.__new__"),some (.bool true)]⟩
def o411 (P:Params):Obj:=co "truth" "truth" 957 128 1 406 961
def o412 (P:Params):Obj:=⟨(.type "function"),none,.func (uf "truth" "truth" (sT 23) 3 .none (us "gemrows.things" 565) (.ref 411) 0),#[]⟩
def kb5 (P:Params) (a b:Obj):List (Nat×Obj):=kb4 P a b++[(204,o204 P),(205,o205 P),(207,o207 P),(208,o208 P),(379,o379 P),(385,o385 P),(386,o386 P),(395,o395 P),(396,o396 P),(411,o411 P),(412,o412 P)]
def kn5 (P:Params):List (Nat×Obj):=kb5 P (o3_4 P) (o12_3 P)
def b3_5 (P:Params) (x:Value):List DictEntry:=b3_4 P x++[ue P "show_letter" 1024 (.ref 467),ue P "show_text" 1030 (.ref 472),ue P "show_symbol" 1037 (.ref 479),ue P "show_pair" 1046 (.ref 486),ue P "show_range" 1056 (.ref 493),ue P "show_thing" 1062 (.ref 498),ue P "show_error" 1073 (.ref 505),ue P "show" 1083 (.ref 513),ue P "give_cause" 1095 (.ref 520),ue P "Way" 1128 (.ref 538),ue P "Task" 1166 (.ref 560),ue P "Walker" 1301 (.ref 659),ue P "do_plain" 1310 (.ref 670),ue P "do_values" 1320 (.ref 677),ue P "do_seq" 1330 (.ref 684),ue P "do_if" 1343 (.ref 691),ue P "LAST_ERROR" 1347 (us "$!" 1346)]
def o3_5 (P:Params):Obj:=⟨(.type "dict"),none,.dict ⟨b3_5 P (us "gemrows.walkflow" 1344)⟩ 54,#[]⟩
def b12_4:List Value:=b12_3++[(.int (181) 0),(.int (0) 0),(.ref 466),(.int (191) 0),(.int (0) 0),(.ref 471),(.int (194) 0),(.int (0) 0),(.ref 478),(.int (196) 0),(.int (0) 0),(.ref 485),(.int (200) 0),(.int (0) 0),(.ref 492),(.int (204) 0),(.int (0) 0),(.ref 497),(.int (225) 0),(.int (0) 0),(.ref 504),(.int (231) 0),(.int (0) 0),(.ref 512),(.int (243) 0),(.int (0) 0),(.ref 519),(.int (253) 0),(.int (0) 0),(.ref 526),(.int (259) 0),(.int (0) 0),(.ref 548),(.int (269) 0),(.int (0) 0),(.ref 570),(.int (331) 0),(.int (0) 0),(.ref 669),(.int (333) 0),(.int (0) 0),(.ref 676),(.int (345) 0),(.int (0) 0),(.ref 683),(.int (352) 0),(.int (0) 0),(.ref 690)]
def o12_4 (P:Params):Obj:=⟨.none,none,.fields ⟨b12_4⟩,#[]⟩
def o528 (P:Params):Obj:=⟨(.type "tuple"),none,.seq #[.none,.none] 0,#[]⟩
def o534 (P:Params):Obj:=co "__init__" "Way.__init__" 1108 255 4 529 1115
def o535 (P:Params):Obj:=⟨(.type "function"),none,.func (uf "__init__" "Way.__init__" (sM 41 0) 3 (.ref 528) (us "gemrows.walk" 1084) (.ref 534) 0),#[]⟩
def o537 (P:Params):Obj:=⟨(.type "dict"),none,.dict #[ue P "__module__" 1103 (us "gemrows.walk" 1084),ue P "__firstlineno__" 1107 (.int (253) 1106),ue P "__init__" 1117 (.ref 535),ue P "__static_attributes__" 1121 (.ref 536),ue P "__dict__" 1123 (.ref 539),ue P "__weakref__" 1125 (.ref 540),ue P "__doc__" 1126 .none] 4,#[]⟩
def o538 (P:Params):Obj:=⟨(.type "type"),none,.cls { name:=(u "Way"),bases:=[(.type "object")],mro:=[(.ref 538),(.type "object")],ns:=537,qualname:=(u "Way"),hasDict:=true,slotNames:=[],subclasses:=[],abstract:=false,collection:=none,hasDel:=false },#[none,none,some (us "Way" 1096),some (us "Way" 1104),some (.builtin "object.__new__"),some (.bool true)]⟩
def o550 (P:Params):Obj:=⟨(.type "tuple"),none,.seq #[.none] 0,#[]⟩
def o556 (P:Params):Obj:=co "__init__" "Task.__init__" 1141 261 5 551 1149
def o557 (P:Params):Obj:=⟨(.type "function"),none,.func (uf "__init__" "Task.__init__" (sM 42 0) 3 (.ref 550) (us "gemrows.walk" 1084) (.ref 556) 0),#[]⟩
def o559 (P:Params):Obj:=⟨(.type "dict"),none,.dict #[ue P "__module__" 1136 (us "gemrows.walk" 1084),ue P "__firstlineno__" 1140 (.int (259) 1139),ue P "__init__" 1151 (.ref 557),ue P "__static_attributes__" 1159 (.ref 558),ue P "__dict__" 1161 (.ref 561),ue P "__weakref__" 1163 (.ref 562),ue P "__doc__" 1164 .none] 4,#[]⟩
def o560 (P:Params):Obj:=⟨(.type "type"),none,.cls { name:=(u "Task"),bases:=[(.type "object")],mro:=[(.ref 560),(.type "object")],ns:=559,qualname:=(u "Task"),hasDict:=true,slotNames:=[],subclasses:=[],abstract:=false,collection:=none,hasDel:=false },#[none,none,some (us "Task" 1129),some (us "Task" 1137),some (.builtin "object.__new__"),some (.bool true)]⟩
def o577 (P:Params):Obj:=co "__init__" "Walker.__init__" 1179 271 4 572 1186
def o578 (P:Params):Obj:=⟨(.type "function"),none,.func (uf "__init__" "Walker.__init__" (sM 43 0) 3 .none (us "gemrows.walk" 1084) (.ref 577) 0),#[]⟩
def o584 (P:Params):Obj:=co "enter" "Walker.enter" 1189 279 2 579 1194
def o585 (P:Params):Obj:=⟨(.type "function"),none,.func (uf "enter" "Walker.enter" (sM 43 1) 3 .none (us "gemrows.walk" 1084) (.ref 584) 0),#[]⟩
def o591 (P:Params):Obj:=co "go" "Walker.go" 1197 282 3 586 1203
def o592 (P:Params):Obj:=⟨(.type "function"),none,.func (uf "go" "Walker.go" (sM 43 2) 3 .none (us "gemrows.walk" 1084) (.ref 591) 0),#[]⟩
def o593 (P:Params):Obj:=⟨(.type "tuple"),none,.seq #[.none,(us "call" 1206),.none] 0,#[]⟩
def o599 (P:Params):Obj:=co "send" "Walker.send" 1207 285 7 594 1217
def o600 (P:Params):Obj:=⟨(.type "function"),none,.func (uf "send" "Walker.send" (sM 43 3) 3 (.ref 593) (us "gemrows.walk" 1084) (.ref 599) 0),#[]⟩
def o606 (P:Params):Obj:=co "done" "Walker.done" 1220 288 2 601 1225
def o607 (P:Params):Obj:=⟨(.type "function"),none,.func (uf "done" "Walker.done" (sM 43 4) 3 .none (us "gemrows.walk" 1084) (.ref 606) 0),#[]⟩
def o613 (P:Params):Obj:=co "leave" "Walker.leave" 1228 292 2 608 1233
def o614 (P:Params):Obj:=⟨(.type "function"),none,.func (uf "leave" "Walker.leave" (sM 43 5) 3 .none (us "gemrows.walk" 1084) (.ref 613) 0),#[]⟩
def o648 (P:Params):Obj:=co "step" "Walker.step" 1270 312 1 643 1278
def o649 (P:Params):Obj:=⟨(.type "function"),none,.func (uf "step" "Walker.step" (sM 43 10) 3 .none (us "gemrows.walk" 1084) (.ref 648) 0),#[]⟩
def o655 (P:Params):Obj:=co "run" "Walker.run" 1281 327 1 650 1285
def o656 (P:Params):Obj:=⟨(.type "function"),none,.func (uf "run" "Walker.run" (sM 43 11) 3 .none (us "gemrows.walk" 1084) (.ref 655) 0),#[]⟩
def o658 (P:Params):Obj:=⟨(.type "dict"),none,.dict #[ue P "__module__" 1174 (us "gemrows.walk" 1084),ue P "__firstlineno__" 1178 (.int (269) 1177),ue P "__init__" 1188 (.ref 578),ue P "enter" 1196 (.ref 585),ue P "go" 1205 (.ref 592),ue P "send" 1219 (.ref 600),ue P "done" 1227 (.ref 607),ue P "leave" 1235 (.ref 614),ue P "deliver" 1243 (.ref 621),ue P "going" 1252 (.ref 628),ue P "raise_error" 1260 (.ref 635),ue P "fail" 1269 (.ref 642),ue P "step" 1280 (.ref 649),ue P "run" 1287 (.ref 656),ue P "__static_attributes__" 1294 (.ref 657),ue P "__dict__" 1296 (.ref 660),ue P "__weakref__" 1298 (.ref 661),ue P "__doc__" 1299 .none] 4,#[]⟩
def o659 (P:Params):Obj:=⟨(.type "type"),none,.cls { name:=(u "Walker"),bases:=[(.type "object")],mro:=[(.ref 659),(.type "object")],ns:=658,qualname:=(u "Walker"),hasDict:=true,slotNames:=[],subclasses:=[],abstract:=false,collection:=none,hasDel:=false },#[none,none,some (us "Walker" 1167),some (us "Walker" 1175),some (.builtin "object.__new__"),some (.bool true)]⟩
def o669 (P:Params):Obj:=co "do_plain" "do_plain" 1302 331 3 664 1308
def o670 (P:Params):Obj:=⟨(.type "function"),none,.func (uf "do_plain" "do_plain" (sT 44) 3 .none (us "gemrows.walk" 1084) (.ref 669) 0),#[]⟩
def o676 (P:Params):Obj:=co "do_values" "do_values" 1311 333 3 671 1318
def o677 (P:Params):Obj:=⟨(.type "function"),none,.func (uf "do_values" "do_values" (sT 45) 3 .none (us "gemrows.walk" 1084) (.ref 676) 0),#[]⟩
def o683 (P:Params):Obj:=co "do_seq" "do_seq" 1321 345 3 678 1328
def o684 (P:Params):Obj:=⟨(.type "function"),none,.func (uf "do_seq" "do_seq" (sT 46) 3 .none (us "gemrows.walk" 1084) (.ref 683) 0),#[]⟩
def o690 (P:Params):Obj:=co "do_if" "do_if" 1331 352 3 685 1341
def o691 (P:Params):Obj:=⟨(.type "function"),none,.func (uf "do_if" "do_if" (sT 47) 3 .none (us "gemrows.walk" 1084) (.ref 690) 0),#[]⟩
def kb6 (P:Params) (a b:Obj):List (Nat×Obj):=kb5 P a b++[(528,o528 P),(534,o534 P),(535,o535 P),(537,o537 P),(538,o538 P),(550,o550 P),(556,o556 P),(557,o557 P),(559,o559 P),(560,o560 P),(577,o577 P),(578,o578 P),(584,o584 P),(585,o585 P),(591,o591 P),(592,o592 P),(593,o593 P),(599,o599 P),(600,o600 P),(606,o606 P),(607,o607 P),(613,o613 P),(614,o614 P),(648,o648 P),(649,o649 P),(655,o655 P),(656,o656 P),(658,o658 P),(659,o659 P),(669,o669 P),(670,o670 P),(676,o676 P),(677,o677 P),(683,o683 P),(684,o684 P),(690,o690 P),(691,o691 P)]
def kn6 (P:Params):List (Nat×Obj):=kb6 P (o3_5 P) (o12_4 P)
def b3_6 (P:Params) (x:Value):List DictEntry:=b3_5 P x++[ue P "NOWHERE" 1354 (.ref 692)]
def o3_6 (P:Params):Obj:=⟨(.type "dict"),none,.dict ⟨b3_6 P (us "gemrows.walkflow" 1344)⟩ 55,#[]⟩
def kb7 (P:Params) (a b:Obj):List (Nat×Obj):=kb6 P a b
def kn7 (P:Params):List (Nat×Obj):=kb7 P (o3_6 P) (o12_4 P)
def b3_7 (P:Params) (x:Value):List DictEntry:=b3_6 P x++[ue P "end_by" 1362 (.ref 699),ue P "Rescue" 1394 (.ref 716),ue P "begin" 1403 (.ref 727),ue P "begin_body" 1411 (.ref 734),ue P "after_body" 1424 (.ref 741),ue P "ask_class" 1436 (.ref 748),ue P "after_class" 1445 (.ref 755),ue P "ask_error" 1454 (.ref 762),ue P "after_asked" 1467 (.ref 769),ue P "after_target" 1476 (.ref 776),ue P "rescue_body" 1484 (.ref 783),ue P "after_rescue" 1493 (.ref 790),ue P "begin_ensure" 1503 (.ref 797),ue P "after_ensure" 1512 (.ref 804)]
def o3_7 (P:Params):Obj:=⟨(.type "dict"),none,.dict ⟨b3_7 P (us "gemrows.walkflow" 1344)⟩ 69,#[]⟩
def b12_5:List Value:=b12_4++[(.int (368) 0),(.int (0) 0),(.ref 698),(.int (373) 0),(.int (0) 0),(.ref 705),(.int (381) 0),(.int (0) 0),(.ref 726),(.int (386) 0),(.int (0) 0),(.ref 733),(.int (390) 0),(.int (0) 0),(.ref 740),(.int (400) 0),(.int (0) 0),(.ref 747),(.int (413) 0),(.int (0) 0),(.ref 754),(.int (419) 0),(.int (0) 0),(.ref 761),(.int (426) 0),(.int (0) 0),(.ref 768),(.int (442) 0),(.int (0) 0),(.ref 775),(.int (447) 0),(.int (0) 0),(.ref 782),(.int (450) 0),(.int (0) 0),(.ref 789),(.int (456) 0),(.int (0) 0),(.ref 796),(.int (464) 0),(.int (0) 0),(.ref 803)]
def o12_5 (P:Params):Obj:=⟨.none,none,.fields ⟨b12_5⟩,#[]⟩
def o698 (P:Params):Obj:=co "end_by" "end_by" 1355 368 2 693 1360
def o699 (P:Params):Obj:=⟨(.type "function"),none,.func (uf "end_by" "end_by" (sT 51) 3 .none (us "gemrows.walkflow" 1344) (.ref 698) 0),#[]⟩
def o712 (P:Params):Obj:=co "__init__" "Rescue.__init__" 1375 375 1 707 1379
def o713 (P:Params):Obj:=⟨(.type "function"),none,.func (uf "__init__" "Rescue.__init__" (sM 52 0) 3 .none (us "gemrows.walkflow" 1344) (.ref 712) 0),#[]⟩
def o715 (P:Params):Obj:=⟨(.type "dict"),none,.dict #[ue P "__module__" 1370 (us "gemrows.walkflow" 1344),ue P "__firstlineno__" 1374 (.int (373) 1373),ue P "__init__" 1381 (.ref 713),ue P "__static_attributes__" 1387 (.ref 714),ue P "__dict__" 1389 (.ref 717),ue P "__weakref__" 1391 (.ref 718),ue P "__doc__" 1392 .none] 4,#[]⟩
def o716 (P:Params):Obj:=⟨(.type "type"),none,.cls { name:=(u "Rescue"),bases:=[(.type "object")],mro:=[(.ref 716),(.type "object")],ns:=715,qualname:=(u "Rescue"),hasDict:=true,slotNames:=[],subclasses:=[],abstract:=false,collection:=none,hasDel:=false },#[none,none,some (us "Rescue" 1363),some (us "Rescue" 1371),some (.builtin "object.__new__"),some (.bool true)]⟩
def o726 (P:Params):Obj:=co "begin" "begin" 1395 381 3 721 1401
def o727 (P:Params):Obj:=⟨(.type "function"),none,.func (uf "begin" "begin" (sT 53) 3 .none (us "gemrows.walkflow" 1344) (.ref 726) 0),#[]⟩
def o733 (P:Params):Obj:=co "begin_body" "begin_body" 1404 386 2 728 1409
def o734 (P:Params):Obj:=⟨(.type "function"),none,.func (uf "begin_body" "begin_body" (sT 54) 3 .none (us "gemrows.walkflow" 1344) (.ref 733) 0),#[]⟩
def o740 (P:Params):Obj:=co "after_body" "after_body" 1412 390 3 735 1422
def o741 (P:Params):Obj:=⟨(.type "function"),none,.func (uf "after_body" "after_body" (sT 55) 3 .none (us "gemrows.walkflow" 1344) (.ref 740) 0),#[]⟩
def o747 (P:Params):Obj:=co "ask_class" "ask_class" 1425 400 2 742 1434
def o748 (P:Params):Obj:=⟨(.type "function"),none,.func (uf "ask_class" "ask_class" (sT 56) 3 .none (us "gemrows.walkflow" 1344) (.ref 747) 0),#[]⟩
def o754 (P:Params):Obj:=co "after_class" "after_class" 1437 413 3 749 1443
def o755 (P:Params):Obj:=⟨(.type "function"),none,.func (uf "after_class" "after_class" (sT 57) 3 .none (us "gemrows.walkflow" 1344) (.ref 754) 0),#[]⟩
def o761 (P:Params):Obj:=co "ask_error" "ask_error" 1446 419 2 756 1452
def o762 (P:Params):Obj:=⟨(.type "function"),none,.func (uf "ask_error" "ask_error" (sT 58) 3 .none (us "gemrows.walkflow" 1344) (.ref 761) 0),#[]⟩
def o768 (P:Params):Obj:=co "after_asked" "after_asked" 1455 426 3 763 1465
def o769 (P:Params):Obj:=⟨(.type "function"),none,.func (uf "after_asked" "after_asked" (sT 59) 3 .none (us "gemrows.walkflow" 1344) (.ref 768) 0),#[]⟩
def o775 (P:Params):Obj:=co "after_target" "after_target" 1468 442 3 770 1474
def o776 (P:Params):Obj:=⟨(.type "function"),none,.func (uf "after_target" "after_target" (sT 60) 3 .none (us "gemrows.walkflow" 1344) (.ref 775) 0),#[]⟩
def o782 (P:Params):Obj:=co "rescue_body" "rescue_body" 1477 447 2 777 1482
def o783 (P:Params):Obj:=⟨(.type "function"),none,.func (uf "rescue_body" "rescue_body" (sT 61) 3 .none (us "gemrows.walkflow" 1344) (.ref 782) 0),#[]⟩
def o789 (P:Params):Obj:=co "after_rescue" "after_rescue" 1485 450 3 784 1491
def o790 (P:Params):Obj:=⟨(.type "function"),none,.func (uf "after_rescue" "after_rescue" (sT 62) 3 .none (us "gemrows.walkflow" 1344) (.ref 789) 0),#[]⟩
def o796 (P:Params):Obj:=co "begin_ensure" "begin_ensure" 1494 456 3 791 1501
def o797 (P:Params):Obj:=⟨(.type "function"),none,.func (uf "begin_ensure" "begin_ensure" (sT 63) 3 .none (us "gemrows.walkflow" 1344) (.ref 796) 0),#[]⟩
def o803 (P:Params):Obj:=co "after_ensure" "after_ensure" 1504 464 3 798 1510
def o804 (P:Params):Obj:=⟨(.type "function"),none,.func (uf "after_ensure" "after_ensure" (sT 64) 3 .none (us "gemrows.walkflow" 1344) (.ref 803) 0),#[]⟩
def kb8 (P:Params) (a b:Obj):List (Nat×Obj):=kb7 P a b++[(698,o698 P),(699,o699 P),(712,o712 P),(713,o713 P),(715,o715 P),(716,o716 P),(726,o726 P),(727,o727 P),(733,o733 P),(734,o734 P),(740,o740 P),(741,o741 P),(747,o747 P),(748,o748 P),(754,o754 P),(755,o755 P),(761,o761 P),(762,o762 P),(768,o768 P),(769,o769 P),(775,o775 P),(776,o776 P),(782,o782 P),(783,o783 P),(789,o789 P),(790,o790 P),(796,o796 P),(797,o797 P),(803,o803 P),(804,o804 P)]
def kn8 (P:Params):List (Nat×Obj):=kb8 P (o3_7 P) (o12_5 P)
def b3_8 (P:Params) (x:Value):List DictEntry:=b3_7 P x++[ue P "BEGIN_STEPS" 1527 (.ref 805)]
def o3_8 (P:Params):Obj:=⟨(.type "dict"),none,.dict ⟨b3_8 P (us "gemrows.walkflow" 1344)⟩ 70,#[]⟩
def o805 (P:Params):Obj:=⟨(.type "dict"),none,.dict #[ue P "body" 1513 (.ref 741),ue P "class" 1514 (.ref 755),ue P "asked" 1515 (.ref 769),ue P "target" 1516 (.ref 776),ue P "rescue" 1517 (.ref 790),ue P "other" 1518 (.ref 797),ue P "ensure" 1519 (.ref 804)] 7,#[]⟩
def kb9 (P:Params) (a b:Obj):List (Nat×Obj):=kb8 P a b++[(805,o805 P)]
def kn9 (P:Params):List (Nat×Obj):=kb9 P (o3_8 P) (o12_5 P)
def b3_9 (P:Params) (x:Value):List DictEntry:=b3_8 P x++[ue P "way_out" 1536 (.ref 812),ue P "is_over" 1547 (.ref 819),ue P "retry" 1556 (.ref 826),ue P "raise_version" 1565 (.ref 833),ue P "own_module" 1574 (.ref 840),ue P "MODULES" 1580 (.ref 841)]
def o3_9 (P:Params):Obj:=⟨(.type "dict"),none,.dict ⟨b3_9 P (us "gemrows.world" 1575)⟩ 76,#[]⟩
def b12_6:List Value:=b12_5++[(.int (467) 0),(.int (0) 0),(.ref 811),(.int (475) 0),(.int (0) 0),(.ref 818),(.int (486) 0),(.int (0) 0),(.ref 825),(.int (489) 0),(.int (0) 0),(.ref 832),(.int (491) 0),(.int (0) 0),(.ref 839)]
def o12_6 (P:Params):Obj:=⟨.none,none,.fields ⟨b12_6⟩,#[]⟩
def o811 (P:Params):Obj:=co "way_out" "way_out" 1528 467 3 806 1534
def o812 (P:Params):Obj:=⟨(.type "function"),none,.func (uf "way_out" "way_out" (sT 66) 3 .none (us "gemrows.walkflow" 1344) (.ref 811) 0),#[]⟩
def o818 (P:Params):Obj:=co "is_over" "is_over" 1537 475 2 813 1545
def o819 (P:Params):Obj:=⟨(.type "function"),none,.func (uf "is_over" "is_over" (sT 67) 3 .none (us "gemrows.walkflow" 1344) (.ref 818) 0),#[]⟩
def o825 (P:Params):Obj:=co "retry" "retry" 1548 486 3 820 1554
def o826 (P:Params):Obj:=⟨(.type "function"),none,.func (uf "retry" "retry" (sT 68) 3 .none (us "gemrows.walkflow" 1344) (.ref 825) 0),#[]⟩
def o841 (P:Params):Obj:=⟨(.type "tuple"),none,.seq #[(us "Kernel" 1577),(us "Comparable" 1578),(us "Enumerable" 1579)] 0,#[]⟩
def kb10 (P:Params) (a b:Obj):List (Nat×Obj):=kb9 P a b++[(811,o811 P),(812,o812 P),(818,o818 P),(819,o819 P),(825,o825 P),(826,o826 P),(841,o841 P)]
def kn10 (P:Params):List (Nat×Obj):=kb10 P (o3_9 P) (o12_6 P)
def b3_10 (P:Params) (x:Value):List DictEntry:=b3_9 P x++[ue P "BUILTINS" 1697 (.ref 842),ue P "MIXED" 1719 (.ref 845)]
def o3_10 (P:Params):Obj:=⟨(.type "dict"),none,.dict ⟨b3_10 P (us "gemrows.world" 1575)⟩ 78,#[]⟩
def o842 (P:Params):Obj:=⟨(.type "dict"),none,.dict #[ue P "BasicObject" 1581 .none,ue P "Object" 1583 (us "BasicObject" 1584),ue P "Module" 1586 (us "Object" 1587),ue P "Class" 1589 (us "Module" 1590),ue P "Kernel" 1592 .none,ue P "Comparable" 1594 .none,ue P "Enumerable" 1596 .none,ue P "NilClass" 1598 (us "Object" 1599),ue P "TrueClass" 1601 (us "Object" 1602),ue P "FalseClass" 1604 (us "Object" 1605),ue P "Numeric" 1607 (us "Object" 1608),ue P "Integer" 1610 (us "Numeric" 1611),ue P "String" 1613 (us "Object" 1614),ue P "Symbol" 1616 (us "Object" 1617),ue P "Array" 1619 (us "Object" 1620),ue P "Hash" 1622 (us "Object" 1623),ue P "Range" 1625 (us "Object" 1626),ue P "Proc" 1628 (us "Object" 1629),ue P "Fiber" 1631 (us "Object" 1632),ue P "Exception" 1634 (us "Object" 1635),ue P "ScriptError" 1637 (us "Exception" 1638),ue P "NotImplementedError" 1640 (us "ScriptError" 1641),ue P "SystemStackError" 1643 (us "Exception" 1644),ue P "StandardError" 1646 (us "Exception" 1647),ue P "ArgumentError" 1649 (us "StandardError" 1650),ue P "UncaughtThrowError" 1652 (us "ArgumentError" 1653),ue P "FiberError" 1655 (us "StandardError" 1656),ue P "IndexError" 1658 (us "StandardError" 1659),ue P "KeyError" 1661 (us "IndexError" 1662),ue P "StopIteration" 1664 (us "IndexError" 1665),ue P "LocalJumpError" 1667 (us "StandardError" 1668),ue P "NameError" 1670 (us "StandardError" 1671),ue P "NoMethodError" 1673 (us "NameError" 1674),ue P "NoMatchingPatternError" 1676 (us "StandardError" 1677),ue P "NoMatchingPatternKeyError" 1679 (us "NoMatchingPatternError" 1680),ue P "RangeError" 1681 (us "StandardError" 1682),ue P "RuntimeError" 1683 (us "StandardError" 1684),ue P "FrozenError" 1685 (us "RuntimeError" 1686),ue P "TypeError" 1687 (us "StandardError" 1688),ue P "ZeroDivisionError" 1689 (us "StandardError" 1690)] 40,#[]⟩
def o845 (P:Params):Obj:=⟨(.type "dict"),none,.dict #[ue P "Object" 1698 (.ref 846),ue P "Numeric" 1700 (.ref 847),ue P "String" 1702 (.ref 848),ue P "Symbol" 1704 (.ref 849),ue P "Array" 1706 (.ref 850),ue P "Hash" 1708 (.ref 851),ue P "Range" 1710 (.ref 852)] 7,#[]⟩
def o846 (P:Params):Obj:=⟨(.type "tuple"),none,.seq #[(us "Kernel" 1699)] 0,#[]⟩
def kb11 (P:Params) (a b:Obj):List (Nat×Obj):=kb10 P a b++[(842,o842 P),(845,o845 P),(846,o846 P)]
def kn11 (P:Params):List (Nat×Obj):=kb11 P (o3_10 P) (o12_6 P)
def b3_11 (P:Params) (x:Value):List DictEntry:=b3_10 P x++[ue P "UNMADE" 1726 (.ref 853),ue P "World" 2072 (.ref 1106),ue P "_law_bag" 2080 (.ref 1115),ue P "_law_take" 2091 (.ref 1122),ue P "_law_mark" 2098 (.ref 1129),ue P "_law_item" 2107 (.ref 1136),ue P "_law_seq" 2113 (.ref 1141),ue P "_law_rescue" 2119 (.ref 1146),ue P "_law_begin" 2125 (.ref 1151),ue P "_law_has" 2133 (.ref 1158),ue P "_law_kinds" 2151 (.ref 1165),ue P "_law_asks" 2157 (.ref 1170),ue P "_law_rescued" 2170 (.ref 1177),ue P "_law_tried" 2181 (.ref 1184),ue P "_law_walk" 2194 (.ref 1191),ue P "law" 2210 (.ref 1198)]
def o3_11 (P:Params):Obj:=⟨(.type "dict"),none,.dict ⟨b3_11 P (us "law_nu0297_01" 2073)⟩ 94,#[]⟩
def b12_7:List Value:=b12_6++[(.int (511) 0),(.int (0) 0),(.ref 859),(.int (714) 0),(.int (0) 0),(.ref 1114),(.int (720) 0),(.int (0) 0),(.ref 1121),(.int (730) 0),(.int (0) 0),(.ref 1128),(.int (732) 0),(.int (0) 0),(.ref 1135),(.int (742) 0),(.int (0) 0),(.ref 1140),(.int (748) 0),(.int (0) 0),(.ref 1145),(.int (752) 0),(.int (0) 0),(.ref 1150),(.int (758) 0),(.int (0) 0),(.ref 1157),(.int (760) 0),(.int (0) 0),(.ref 1164),(.int (797) 0),(.int (0) 0),(.ref 1169),(.int (806) 0),(.int (0) 0),(.ref 1176),(.int (819) 0),(.int (0) 0),(.ref 1183),(.int (834) 0),(.int (0) 0),(.ref 1190),(.int (859) 0),(.int (0) 0),(.ref 1197)]
def o12_7 (P:Params):Obj:=⟨.none,none,.fields ⟨b12_7⟩,#[]⟩
def o861 (P:Params):Obj:=⟨(.type "tuple"),none,.seq #[.none,.none,(.int (20000) 1739)] 0,#[]⟩
def o867 (P:Params):Obj:=co "__init__" "World.__init__" 1740 513 5 862 1749
def o868 (P:Params):Obj:=⟨(.type "function"),none,.func (uf "__init__" "World.__init__" (sM 77 0) 3 (.ref 861) (us "gemrows.world" 1575) (.ref 867) 0),#[]⟩
def o874 (P:Params):Obj:=co "tick" "World.tick" 1752 533 1 869 1756
def o875 (P:Params):Obj:=⟨(.type "function"),none,.func (uf "tick" "World.tick" (sM 77 1) 3 .none (us "gemrows.world" 1575) (.ref 874) 0),#[]⟩
def o888 (P:Params):Obj:=co "number" "World.number" 1767 541 1 883 1771
def o889 (P:Params):Obj:=⟨(.type "function"),none,.func (uf "number" "World.number" (sM 77 3) 3 .none (us "gemrows.world" 1575) (.ref 888) 0),#[]⟩
def o909 (P:Params):Obj:=co "builtin" "World.builtin" 1790 565 2 904 1796
def o910 (P:Params):Obj:=⟨(.type "function"),none,.func (uf "builtin" "World.builtin" (sM 77 6) 3 .none (us "gemrows.world" 1575) (.ref 909) 0),#[]⟩
def o914 (P:Params):Obj:=⟨(.type "code"),none,.fields #[(us "make_builtin" 1799),(us "World.make_builtin" 1800),(us "/claim/cut.py" 1801),(.int (569) 0),(.int (2) 0),(.int (0) 0),(.int (0) 0),(.int (3) 0),(.ref 911),(.bool true),(.int (181) 0),(.ref 912),.none,.none,.none,(.ref 913),(.int (1802) 0),(.int (569) 0),(us "/claim/cut.py" 1803)],#[]⟩
def o915 (P:Params):Obj:=⟨(.type "function"),none,.func (uf "make_builtin" "World.make_builtin" (sM 77 7) 3 .none (us "gemrows.world" 1575) (.ref 914) 0),#[]⟩
def o921 (P:Params):Obj:=co "give_own" "World.give_own" 1805 582 2 916 1810
def o922 (P:Params):Obj:=⟨(.type "function"),none,.func (uf "give_own" "World.give_own" (sM 77 8) 3 .none (us "gemrows.world" 1575) (.ref 921) 0),#[]⟩
def o1105 (P:Params):Obj:=⟨(.type "dict"),none,.dict #[ue P "__module__" 1734 (us "gemrows.world" 1575),ue P "__firstlineno__" 1738 (.int (511) 1737),ue P "__init__" 1751 (.ref 868),ue P "tick" 1758 (.ref 875),ue P "write" 1766 (.ref 882),ue P "number" 1773 (.ref 889),ue P "next_ident" 1780 (.ref 896),ue P "ident" 1789 (.ref 903),ue P "builtin" 1798 (.ref 910),ue P "make_builtin" 1804 (.ref 915),ue P "give_own" 1812 (.ref 922),ue P "new_module" 1827 (.ref 930),ue P "class_of" 1835 (.ref 937),ue P "own_of" 1843 (.ref 944),ue P "own_behind" 1851 (.ref 951),ue P "root_of" 1859 (.ref 958),ue P "real_class" 1867 (.ref 965),ue P "text" 1875 (.ref 972),ue P "list_of" 1883 (.ref 979),ue P "table_of" 1891 (.ref 986),ue P "key_of" 1899 (.ref 993),ue P "range_of" 1909 (.ref 1000),ue P "proc" 1926 (.ref 1007),ue P "thing" 1936 (.ref 1014),ue P "is_error_class" 1944 (.ref 1021),ue P "spread" 1950 (.ref 1026),ue P "error" 1959 (.ref 1033),ue P "fail" 1968 (.ref 1040),ue P "need_thawed" 1976 (.ref 1047),ue P "set_field" 1986 (.ref 1054),ue P "describe" 1994 (.ref 1061),ue P "own_constant" 2003 (.ref 1068),ue P "find_constant" 2012 (.ref 1075),ue P "constant" 2021 (.ref 1082),ue P "find_in" 2030 (.ref 1089),ue P "constant_in" 2039 (.ref 1096),ue P "set_constant" 2049 (.ref 1103),ue P "__static_attributes__" 2065 (.ref 1104),ue P "__dict__" 2067 (.ref 1107),ue P "__weakref__" 2069 (.ref 1108),ue P "__doc__" 2070 .none] 4,#[]⟩
def o1106 (P:Params):Obj:=⟨(.type "type"),none,.cls { name:=(u "World"),bases:=[(.type "object")],mro:=[(.ref 1106),(.type "object")],ns:=1105,qualname:=(u "World"),hasDict:=true,slotNames:=[],subclasses:=[],abstract:=false,collection:=none,hasDel:=false },#[none,none,some (us "World" 1727),some (us "World" 1735),some (.builtin "object.__new__"),some (.bool true)]⟩
def o1114 (P:Params):Obj:=⟨(.type "code"),none,.fields #[(us "_law_bag" 2075),(us "_law_bag" 2076),(us "/claim/cut.py" 2077),(.int (714) 0),(.int (1) 0),(.int (0) 0),(.int (0) 0),(.int (3) 0),(.ref 1111),(.bool true),(.int (181) 0),(.ref 1112),.none,.none,.none,(.ref 1113),(.int (2078) 0),(.int (714) 0),(us "/claim/cut.py" 2079)],#[]⟩
def o1115 (P:Params):Obj:=⟨(.type "function"),none,.func (uf "_law_bag" "_law_bag" (sT 79) 3 .none (us "law_nu0297_01" 2073) (.ref 1114) 0),#[]⟩
def o1121 (P:Params):Obj:=co "_law_take" "_law_take" 2081 720 2 1116 2089
def o1122 (P:Params):Obj:=⟨(.type "function"),none,.func (uf "_law_take" "_law_take" (sT 80) 3 .none (us "law_nu0297_01" 2073) (.ref 1121) 0),#[]⟩
def o1128 (P:Params):Obj:=co "_law_mark" "_law_mark" 2092 730 1 1123 2096
def o1129 (P:Params):Obj:=⟨(.type "function"),none,.func (uf "_law_mark" "_law_mark" (sT 81) 3 .none (us "law_nu0297_01" 2073) (.ref 1128) 0),#[]⟩
def o1135 (P:Params):Obj:=co "_law_item" "_law_item" 2099 732 2 1130 2105
def o1136 (P:Params):Obj:=⟨(.type "function"),none,.func (uf "_law_item" "_law_item" (sT 82) 3 .none (us "law_nu0297_01" 2073) (.ref 1135) 0),#[]⟩
def o1140 (P:Params):Obj:=⟨(.type "code"),none,.fields #[(us "_law_seq" 2108),(us "_law_seq" 2109),(us "/claim/cut.py" 2110),(.int (742) 0),(.int (3) 0),(.int (0) 0),(.int (0) 0),(.int (3) 0),(.ref 1137),(.bool true),(.int (181) 0),(.ref 1138),.none,.none,.none,(.ref 1139),(.int (2111) 0),(.int (742) 0),(us "/claim/cut.py" 2112)],#[]⟩
def o1141 (P:Params):Obj:=⟨(.type "function"),none,.func (uf "_law_seq" "_law_seq" (sT 83) 3 .none (us "law_nu0297_01" 2073) (.ref 1140) 0),#[]⟩
def o1145 (P:Params):Obj:=⟨(.type "code"),none,.fields #[(us "_law_rescue" 2114),(us "_law_rescue" 2115),(us "/claim/cut.py" 2116),(.int (748) 0),(.int (2) 0),(.int (0) 0),(.int (0) 0),(.int (3) 0),(.ref 1142),(.bool true),(.int (181) 0),(.ref 1143),.none,.none,.none,(.ref 1144),(.int (2117) 0),(.int (748) 0),(us "/claim/cut.py" 2118)],#[]⟩
def o1146 (P:Params):Obj:=⟨(.type "function"),none,.func (uf "_law_rescue" "_law_rescue" (sT 84) 3 .none (us "law_nu0297_01" 2073) (.ref 1145) 0),#[]⟩
def o1150 (P:Params):Obj:=⟨(.type "code"),none,.fields #[(us "_law_begin" 2120),(us "_law_begin" 2121),(us "/claim/cut.py" 2122),(.int (752) 0),(.int (2) 0),(.int (0) 0),(.int (0) 0),(.int (3) 0),(.ref 1147),(.bool true),(.int (181) 0),(.ref 1148),.none,.none,.none,(.ref 1149),(.int (2123) 0),(.int (752) 0),(us "/claim/cut.py" 2124)],#[]⟩
def o1151 (P:Params):Obj:=⟨(.type "function"),none,.func (uf "_law_begin" "_law_begin" (sT 85) 3 .none (us "law_nu0297_01" 2073) (.ref 1150) 0),#[]⟩
def o1157 (P:Params):Obj:=co "_law_has" "_law_has" 2126 758 2 1152 2131
def o1158 (P:Params):Obj:=⟨(.type "function"),none,.func (uf "_law_has" "_law_has" (sT 86) 3 .none (us "law_nu0297_01" 2073) (.ref 1157) 0),#[]⟩
def o1159 (P:Params):Obj:=⟨(.type "tuple"),none,.seq #[] 0,#[]⟩
def o1160 (P:Params):Obj:=⟨.none,none,.fields #[],#[]⟩
def o1164 (P:Params):Obj:=co "_law_kinds" "_law_kinds" 2134 760 2 1159 2149
def o1165 (P:Params):Obj:=⟨(.type "function"),none,.func (uf "_law_kinds" "_law_kinds" (sT 87) 3 .none (us "law_nu0297_01" 2073) (.ref 1164) 0),#[]⟩
def o1169 (P:Params):Obj:=⟨(.type "code"),none,.fields #[(us "_law_asks" 2152),(us "_law_asks" 2153),(us "/claim/cut.py" 2154),(.int (797) 0),(.int (3) 0),(.int (0) 0),(.int (0) 0),(.int (3) 0),(.ref 1166),(.bool true),(.int (181) 0),(.ref 1167),.none,.none,.none,(.ref 1168),(.int (2155) 0),(.int (797) 0),(us "/claim/cut.py" 2156)],#[]⟩
def o1170 (P:Params):Obj:=⟨(.type "function"),none,.func (uf "_law_asks" "_law_asks" (sT 88) 3 .none (us "law_nu0297_01" 2073) (.ref 1169) 0),#[]⟩
def o1176 (P:Params):Obj:=co "_law_rescued" "_law_rescued" 2158 806 4 1171 2168
def o1177 (P:Params):Obj:=⟨(.type "function"),none,.func (uf "_law_rescued" "_law_rescued" (sT 89) 3 .none (us "law_nu0297_01" 2073) (.ref 1176) 0),#[]⟩
def o1183 (P:Params):Obj:=co "_law_tried" "_law_tried" 2171 819 3 1178 2179
def o1184 (P:Params):Obj:=⟨(.type "function"),none,.func (uf "_law_tried" "_law_tried" (sT 90) 3 .none (us "law_nu0297_01" 2073) (.ref 1183) 0),#[]⟩
def o1190 (P:Params):Obj:=co "_law_walk" "_law_walk" 2182 834 3 1185 2192
def o1191 (P:Params):Obj:=⟨(.type "function"),none,.func (uf "_law_walk" "_law_walk" (sT 91) 3 .none (us "law_nu0297_01" 2073) (.ref 1190) 0),#[]⟩
def o1192 (P:Params):Obj:=⟨(.type "tuple"),none,.seq #[] 0,#[]⟩
def o1193 (P:Params):Obj:=⟨.none,none,.fields #[],#[]⟩
def o1194 (P:Params):Obj:=⟨(.type "tuple"),none,.seq #[(us "script" 2198),(us "bag" 2199),(us "tree" 2200),(us "trace" 2201),(us "due" 2202),(us "known" 2203),(us "world" 2204),(us "walker" 2205),(us "way" 2206),(us "result" 2207)] 0,#[]⟩
def o1195 (P:Params):Obj:=⟨(.type "tuple"),none,.seq #[] 0,#[]⟩
def o1196 (P:Params):Obj:=⟨.none,none,.func (uf "law" "law" (sT 92) 0 .none .none .none 0),#[]⟩
def o1197 (P:Params):Obj:=co "law" "law" 2195 859 1 1192 2208
def o1198 (P:Params):Obj:=⟨(.type "function"),none,.func (uf "law" "law" (sT 92) 3 .none (us "law_nu0297_01" 2073) (.ref 1197) 0),#[]⟩
def kb12 (P:Params) (a b:Obj):List (Nat×Obj):=kb11 P a b++[(861,o861 P),(867,o867 P),(868,o868 P),(874,o874 P),(875,o875 P),(888,o888 P),(889,o889 P),(909,o909 P),(910,o910 P),(914,o914 P),(915,o915 P),(921,o921 P),(922,o922 P),(1105,o1105 P),(1106,o1106 P),(1114,o1114 P),(1115,o1115 P),(1121,o1121 P),(1122,o1122 P),(1128,o1128 P),(1129,o1129 P),(1135,o1135 P),(1136,o1136 P),(1140,o1140 P),(1141,o1141 P),(1145,o1145 P),(1146,o1146 P),(1150,o1150 P),(1151,o1151 P),(1157,o1157 P),(1158,o1158 P),(1159,o1159 P),(1160,o1160 P),(1164,o1164 P),(1165,o1165 P),(1169,o1169 P),(1170,o1170 P),(1176,o1176 P),(1177,o1177 P),(1183,o1183 P),(1184,o1184 P),(1190,o1190 P),(1191,o1191 P),(1192,o1192 P),(1193,o1193 P),(1194,o1194 P),(1195,o1195 P),(1196,o1196 P),(1197,o1197 P),(1198,o1198 P)]
def kn12 (P:Params):List (Nat×Obj):=kb12 P (o3_11 P) (o12_7 P)
def as0:List Nat:=[0,1,2,3,4,5,6,7,8,9,10,11,12,13,14]
def as1:List Nat:=as0
def as2:List Nat:=as1++[93,97,98,99,100,107,108,110,114,135,136,142,143,144,145]
def as3:List Nat:=as2++[168,174,175,184,185]
def as4:List Nat:=as3
def as5:List Nat:=as4++[204,205,207,208,379,385,386,395,396,411,412]
def as6:List Nat:=as5++[528,534,535,537,538,550,556,557,559,560,577,578,584,585,591,592,593,599,600,606,607,613,614,648,649,655,656,658,659,669,670,676,677,683,684,690,691]
def as7:List Nat:=as6
def as8:List Nat:=as7++[698,699,712,713,715,716,726,727,733,734,740,741,747,748,754,755,761,762,768,769,775,776,782,783,789,790,796,797,803,804]
def as9:List Nat:=as8++[805]
def as10:List Nat:=as9++[811,812,818,819,825,826,841]
def as11:List Nat:=as10++[842,845,846]
def as12:List Nat:=as11++[861,867,868,874,875,888,889,909,910,914,915,921,922,1105,1106,1114,1115,1121,1122,1128,1129,1135,1136,1140,1141,1145,1146,1150,1151,1157,1158,1159,1160,1164,1165,1169,1170,1176,1177,1183,1184,1190,1191,1192,1193,1194,1195,1196,1197,1198]
theorem sg0 (w:World) (os:OsState) (x:Nat→Obj):sgL kn0 as1 15 187 0 7 971 ⟨0,0,0,0⟩ w os x=sgR kn1 93 292 ⟨22,0,22,8⟩ w os:=by kernel_rfl
theorem sg1f (w:World) (os:OsState) (x:Nat→Obj):sgL kn1 as2 93 292 7 1 1419 ⟨22,0,22,8⟩ (w.withFollow "special-get-raises" false) os x=sgR kn2 160 522 ⟨23,0,23,6⟩ (w.withFollow "special-get-raises" false) os:=by kernel_rfl
theorem sg1t (w:World) (os:OsState) (x:Nat→Obj):sgL kn1 as2 93 292 7 1 1419 ⟨22,0,22,8⟩ (w.withFollow "special-get-raises" true) os x=sgR kn2 160 522 ⟨23,0,23,6⟩ (w.withFollow "special-get-raises" true) os:=by kernel_rfl
theorem sg1 (w:World) (os:OsState) (x:Nat→Obj):sgL kn1 as2 93 292 7 1 1419 ⟨22,0,22,8⟩ w os x=sgR kn2 160 522 ⟨23,0,23,6⟩ w os:=byRow2 "special-get-raises" (P:=fun w=>sgL kn1 as2 93 292 7 1 1419 ⟨22,0,22,8⟩ w os x=sgR kn2 160 522 ⟨23,0,23,6⟩ w os) (fun w=>sg1f w os x) (fun w=>sg1t w os x) w
theorem sg2 (w:World) (os:OsState) (x:Nat→Obj):sgL kn2 as3 160 522 8 2 273 ⟨23,0,23,6⟩ w os x=sgR kn3 190 567 ⟨36,0,36,8⟩ w os:=by kernel_rfl
theorem sg3f (w:World) (os:OsState) (x:Nat→Obj):sgL kn3 as4 190 567 10 1 176 ⟨36,0,36,8⟩ (w.withFollow "special-get-raises" false) os x=sgR kn4 191 601 ⟨37,0,37,14⟩ (w.withFollow "special-get-raises" false) os:=by kernel_rfl
theorem sg3t (w:World) (os:OsState) (x:Nat→Obj):sgL kn3 as4 190 567 10 1 176 ⟨36,0,36,8⟩ (w.withFollow "special-get-raises" true) os x=sgR kn4 191 601 ⟨37,0,37,14⟩ (w.withFollow "special-get-raises" true) os:=by kernel_rfl
theorem sg3 (w:World) (os:OsState) (x:Nat→Obj):sgL kn3 as4 190 567 10 1 176 ⟨36,0,36,8⟩ w os x=sgR kn4 191 601 ⟨37,0,37,14⟩ w os:=byRow2 "special-get-raises" (P:=fun w=>sgL kn3 as4 190 567 10 1 176 ⟨36,0,36,8⟩ w os x=sgR kn4 191 601 ⟨37,0,37,14⟩ w os) (fun w=>sg3f w os x) (fun w=>sg3t w os x) w
theorem sg4 (w:World) (os:OsState) (x:Nat→Obj):sgL kn4 as5 191 601 11 20 2686 ⟨37,0,37,14⟩ w os x=sgR kn5 461 1015 ⟨173,0,180,55⟩ w os:=by kernel_rfl
theorem sg5 (w:World) (os:OsState) (x:Nat→Obj):sgL kn5 as6 461 1015 31 19 1484 ⟨173,0,180,55⟩ w os x=sgR kn6 692 1348 ⟨366,0,366,10⟩ w os:=by kernel_rfl
theorem sg6f (w:World) (os:OsState) (x:Nat→Obj):sgL kn6 as7 692 1348 50 1 41 ⟨366,0,366,10⟩ (w.withFollow "special-get-raises" false) os x=sgR kn7 693 1355 ⟨367,0,367,7⟩ (w.withFollow "special-get-raises" false) os:=by kernel_rfl
theorem sg6t (w:World) (os:OsState) (x:Nat→Obj):sgL kn6 as7 692 1348 50 1 41 ⟨366,0,366,10⟩ (w.withFollow "special-get-raises" true) os x=sgR kn7 693 1355 ⟨367,0,367,7⟩ (w.withFollow "special-get-raises" true) os:=by kernel_rfl
theorem sg6 (w:World) (os:OsState) (x:Nat→Obj):sgL kn6 as7 692 1348 50 1 41 ⟨366,0,366,10⟩ w os x=sgR kn7 693 1355 ⟨367,0,367,7⟩ w os:=byRow2 "special-get-raises" (P:=fun w=>sgL kn6 as7 692 1348 50 1 41 ⟨366,0,366,10⟩ w os x=sgR kn7 693 1355 ⟨367,0,367,7⟩ w os) (fun w=>sg6f w os x) (fun w=>sg6t w os x) w
theorem sg7 (w:World) (os:OsState) (x:Nat→Obj):sgL kn7 as8 693 1355 51 14 638 ⟨367,0,367,7⟩ w os x=sgR kn8 805 1513 ⟨464,0,465,65⟩ w os:=by kernel_rfl
theorem sg8f (w:World) (os:OsState) (x:Nat→Obj):sgL kn8 as9 805 1513 65 1 123 ⟨464,0,465,65⟩ (w.withFollow "special-get-raises" false) os x=sgR kn9 806 1528 ⟨466,0,466,11⟩ (w.withFollow "special-get-raises" false) os:=by kernel_rfl
theorem sg8t (w:World) (os:OsState) (x:Nat→Obj):sgL kn8 as9 805 1513 65 1 123 ⟨464,0,465,65⟩ (w.withFollow "special-get-raises" true) os x=sgR kn9 806 1528 ⟨466,0,466,11⟩ (w.withFollow "special-get-raises" true) os:=by kernel_rfl
theorem sg8 (w:World) (os:OsState) (x:Nat→Obj):sgL kn8 as9 805 1513 65 1 123 ⟨464,0,465,65⟩ w os x=sgR kn9 806 1528 ⟨466,0,466,11⟩ w os:=byRow2 "special-get-raises" (P:=fun w=>sgL kn8 as9 805 1513 65 1 123 ⟨464,0,465,65⟩ w os x=sgR kn9 806 1528 ⟨466,0,466,11⟩ w os) (fun w=>sg8f w os x) (fun w=>sg8t w os x) w
theorem sg9 (w:World) (os:OsState) (x:Nat→Obj):sgL kn9 as10 806 1528 66 8 187 ⟨466,0,466,11⟩ w os x=sgR kn10 842 1581 ⟨507,0,507,7⟩ w os:=by kernel_rfl
theorem sg10f (w:World) (os:OsState) (x:Nat→Obj):sgL kn10 as11 842 1581 74 2 888 ⟨507,0,507,7⟩ (w.withFollow "special-get-raises" false) os x=sgR kn11 853 1720 ⟨509,0,509,5⟩ (w.withFollow "special-get-raises" false) os:=by kernel_rfl
theorem sg10t (w:World) (os:OsState) (x:Nat→Obj):sgL kn10 as11 842 1581 74 2 888 ⟨507,0,507,7⟩ (w.withFollow "special-get-raises" true) os x=sgR kn11 853 1720 ⟨509,0,509,5⟩ (w.withFollow "special-get-raises" true) os:=by kernel_rfl
theorem sg10 (w:World) (os:OsState) (x:Nat→Obj):sgL kn10 as11 842 1581 74 2 888 ⟨507,0,507,7⟩ w os x=sgR kn11 853 1720 ⟨509,0,509,5⟩ w os:=byRow2 "special-get-raises" (P:=fun w=>sgL kn10 as11 842 1581 74 2 888 ⟨507,0,507,7⟩ w os x=sgR kn11 853 1720 ⟨509,0,509,5⟩ w os) (fun w=>sg10f w os x) (fun w=>sg10t w os x) w
theorem sg11 (w:World) (os:OsState) (x:Nat→Obj):sgL kn11 as12 853 1720 76 17 1813 ⟨509,0,509,5⟩ w os x=sgR kn12 1199 2211 ⟨859,0,870,89⟩ w os:=by kernel_rfl
theorem treeOf_succ (f:Nat→Obj) (n k a b:Nat):treeOf f n (k+1) a b=if b<n then .node (f b) (treeOf f n k (2*a) (a+b)) (treeOf f n k (2*a) (2*a+b)) else .nil:=by
  show (@Bool.rec (fun _=>BT) .nil (.node (f b) (treeOf f n k (2*a) (a+b)) (treeOf f n k (2*a) (2*a+b))) (Nat.blt b n))=_
  by_cases h:b<n
  · have:Nat.blt b n=true:=Nat.ble_eq_true_of_le h
    rw [this,if_pos h]
  · have:Nat.blt b n=false:=by
      cases e:Nat.blt b n with
      | false=>rfl
      | true=>exact absurd (Nat.le_of_ble_eq_true e) h
    rw [this,if_neg h]
theorem treeOf_get (f:Nat→Obj) (n:Nat):∀ (k a b i:Nat),i+1<2 ^ k→(treeOf f n k a b).get i=if a*i+b<n then some (f (a*i+b)) else none
  | 0,a,b,i,h=>by simp at h
  | k+1,a,b,i,h=>by
    rw [treeOf_succ]
    by_cases hb:b<n
    · rw [if_pos hb,BT.get_node]
      by_cases h0:i=0
      · subst h0; simp [hb]
      · rw [if_neg h0]
        have hp:2 ^ (k+1)=2*2 ^ k:=by rw [Nat.pow_succ]; omega
        by_cases p:i % 2=1
        · rw [if_pos p,treeOf_get f n k (2*a) (a+b) (i / 2) (by omega)]
          have hj:i=2*(i / 2)+1:=by omega
          have:2*a*(i / 2)+(a+b)=a*i+b:=by
            generalize i / 2=q at hj
            subst hj
            rw [Nat.mul_add,Nat.mul_one,← Nat.mul_assoc,Nat.mul_comm a 2]; omega
          rw [this]
        · rw [if_neg p,treeOf_get f n k (2*a) (2*a+b) (i / 2 - 1) (by omega)]
          have hj:i=2*(i / 2 - 1)+2:=by omega
          have:2*a*(i / 2 - 1)+(2*a+b)=a*i+b:=by
            generalize i / 2 - 1=q at hj
            subst hj
            rw [Nat.mul_add,← Nat.mul_assoc,Nat.mul_comm a 2]; omega
          rw [this]
    · rw [if_neg hb]
      have:¬ a*i+b<n:=by omega
      rw [if_neg this]; rfl
theorem over_cons (p:Nat×Obj) (k:List (Nat×Obj)) (x:Nat→Obj) (i:Nat):over (p::k) x i=if p.1=i then p.2 else over k x i:=by
  show (@Bool.rec (fun _=>Obj) (over k x i) p.2 (Nat.beq p.1 i))=_
  rw [BT.beq_eq]
  by_cases h:p.1=i<;>simp [h]
theorem over_same (x:Nat→Obj):∀ (k:List (Nat×Obj)),(∀ p∈k,x p.1=p.2)→over k x=x
  | [],_=>rfl
  | p::k,h=>by
    funext i
    rw [over_cons,over_same x k fun q hq=>h q (.tail _ hq)]
    by_cases e:p.1=i
    · rw [if_pos e,← e]; exact (h p (.head _)).symm
    · rw [if_neg e]
theorem list_treeOf (f:Nat→Obj) (n:Nat) (hn:n<4000):(treeOf f n 12 1 0).list n=(List.range n).map f:=by
  unfold BT.list
  apply List.map_congr_left
  intro i hi
  have:i<n:=List.mem_range.mp hi
  rw [treeOf_get f n 12 1 0 i (by omega)]
  simp [this]
theorem kv_get {T:BT}:∀ {k:List (Nat×Obj)},(ks k).map T.get=kv k→∀ p∈k,T.get p.1=some p.2
  | [],_,p,hp=>nomatch hp
  | q::k,h,p,hp=>by
    simp only [ks,kv,List.map_cons,List.cons.injEq] at h
    rcases List.mem_cons.mp hp with rfl | hp
    · exact h.1
    · exact kv_get h.2 p hp
abbrev an6:Option Value:=some (.ref 6)
abbrev q0:Pos:=⟨0,0,0,0⟩
theorem sg_eq:@segRunT = @PySem.W.Fast.tw10110043849684766642:=PySem.W.Fast.te10110043849684766642
theorem tb_eq:treeTable=PySem.W.Fast.tw14364793385576792824:=PySem.W.Fast.te14364793385576792824
theorem link {k k':Params→List (Nat×Obj)}{as:List Nat}{n t i m N n' t':Nat}{pos pos':Pos}
    (hs:∀ (w:World) (os:OsState) (x:Nat→Obj),sgL k as n t i m N pos w os x=sgR k' n' t' pos' w os) (has:∀ P,as=ks (k' P)) (hn:n'<4000)
    (w:World) (os:OsState) (x:Nat→Obj):∃ x':Nat→Obj,over (k' w.params) x'=x' ∧ ∀ (M:Nat) (r:Shared),
      topRun treeTable pw w 11 an6 M (stT (k' w.params) x' n' t' os).abs (restOf (bd.drop (i+m)) envT cT pos' [topFrame q0])=some r →
      topRun treeTable pw w 11 an6 (N+M) (stT (k w.params) x n t os).abs (restOf (bd.drop i) envT cT pos [topFrame q0])=some r:=by
  have h:=hs w os x
  unfold sgL sgR at h
  rw [← sg_eq,← tb_eq] at h
  obtain ⟨r,hr,he⟩:=Option.map_eq_some_iff.mp h
  obtain ⟨f,⟨T,n1,lf,gs,dr,t1,os1⟩,c,p⟩:=r
  simp only [obs,Prod.mk.injEq] at he
  obtain ⟨rfl,rfl,rfl,rfl,rfl,rfl,rfl,rfl,rfl,hk⟩:=he
  rw [has w.params] at hk
  have hg:=kv_get hk
  have ho:over (k' w.params) (fun i=>(T.get i).getD default)=fun i=>(T.get i).getD default:=over_same _ _ fun p hp=>by rw [hg p hp]; rfl
  refine ⟨fun i=>(T.get i).getD default,ho,fun M r hM => ?_⟩
  have habs:SharedT.abs ⟨T,n1,{},Array.mk [],{},t1,os1⟩=(stT (k' w.params) (fun i=>(T.get i).getD default) n1 t1 os1).abs:=by
    show Shared.mk (absHeap T n1 {}) _ _ _ _=Shared.mk (absHeap (treeOf (over (k' w.params) fun i=>(T.get i).getD default) n1 12 1 0) n1 {}) _ _ _ _
    have:absHeap T n1 {}=absHeap (treeOf (over (k' w.params) fun i=>(T.get i).getD default) n1 12 1 0) n1 {}:=by
      unfold absHeap
      rw [list_treeOf _ _ hn,ho]
      rfl
    rw [this]; rfl
  have e1:=segRun_of hr
  rw [habs] at e1
  have e2:bd.drop i=(bd.drop i).take m++bd.drop (i+m):=by rw [← List.drop_drop,List.take_append_drop]
  rw [e2]
  exact piece_app e1 hM
theorem fin_run {tb:String→Option Builtin}{p:Program}{w:World}{n₀:Nat}{ann:Option Value}{s:Shared}{c:Code}{pos q:Pos}:topRun tb p w n₀ ann 2 s ⟨doneF .next,c,pos,[topFrame q]⟩=some s:=by
  cases s; rfl
theorem bd_end:bd.drop 93=[]:=by kernel_rfl
theorem top_all (w:World) (os:OsState) (x:Nat→Obj):∃ M x',M≤12000∧over (kn12 w.params) x'=x' ∧
    topRun treeTable pw w 11 an6 M (stT (kn0 w.params) x 15 187 os).abs (restOf bd envT cT q0 [topFrame q0])=some (stT (kn12 w.params) x' 1199 2211 os).abs:=by
  obtain ⟨x1,_,h0⟩:=link sg0 (fun _=>rfl) (by decide) w os x
  obtain ⟨x2,_,h1⟩:=link sg1 (fun _=>rfl) (by decide) w os x1
  obtain ⟨x3,_,h2⟩:=link sg2 (fun _=>rfl) (by decide) w os x2
  obtain ⟨x4,_,h3⟩:=link sg3 (fun _=>rfl) (by decide) w os x3
  obtain ⟨x5,_,h4⟩:=link sg4 (fun _=>rfl) (by decide) w os x4
  obtain ⟨x6,_,h5⟩:=link sg5 (fun _=>rfl) (by decide) w os x5
  obtain ⟨x7,_,h6⟩:=link sg6 (fun _=>rfl) (by decide) w os x6
  obtain ⟨x8,_,h7⟩:=link sg7 (fun _=>rfl) (by decide) w os x7
  obtain ⟨x9,_,h8⟩:=link sg8 (fun _=>rfl) (by decide) w os x8
  obtain ⟨x10,_,h9⟩:=link sg9 (fun _=>rfl) (by decide) w os x9
  obtain ⟨x11,_,h10⟩:=link sg10 (fun _=>rfl) (by decide) w os x10
  obtain ⟨x12,o12,h11⟩:=link sg11 (fun _=>rfl) (by decide) w os x11
  have z:topRun treeTable pw w 11 an6 2 (stT (kn12 w.params) x12 1199 2211 os).abs (restOf (bd.drop (76+17)) envT cT ⟨859,0,870,89⟩ [topFrame q0])=some (stT (kn12 w.params) x12 1199 2211 os).abs:=by
    rw [show bd.drop (76+17)=[] from bd_end]
    exact piece_nil fin_run
  exact ⟨_,x12,by decide,o12,h0 _ _ (h1 _ _ (h2 _ _ (h3 _ _ (h4 _ _ (h5 _ _ (h6 _ _ (h7 _ _ (h8 _ _ (h9 _ _ (h10 _ _ (h11 _ _ z)))))))))))⟩
theorem tg_eq:@topGo = @PySem.W.Fast.tw15667345088766844465:=PySem.W.Fast.te15667345088766844465
theorem dn_eq:@denote = @PySem.W.Fast.tw11892475500146522536:=PySem.W.Fast.te11892475500146522536
theorem pre_k (w:World) (os:OsState) (x:Nat→Obj):PySem.W.Fast.tw15667345088766844465 PySem.W.Fast.tw14364793385576792824 pw w 11 an6 12 ⟨boot_heap w.params,Array.mk [],boot_drawn,boot_toks,os⟩ (topStub pw) =
    some ((stT (kn0 w.params) x 15 187 os).abs,⟨PySem.W.Fast.tw11892475500146522536 PySem.W.Fast.tw14364793385576792824 cT,cT,q0,[topFrame q0]⟩):=by kernel_rfl
theorem bd_eq:behindTheImports pw=bd:=by kernel_rfl
theorem block_k (w:World) (s:Shared):segRun treeTable pw w 11 an6 1 1 s (blockOf (behindTheImports pw) envT cT q0 [topFrame q0])=some (.next,s,cT,q0):=by kernel_rfl
theorem top_run (w:World) (os:OsState):∃ M x',M≤12100∧over (kn12 w.params) x'=x' ∧
    topRun treeTable pw w 11 an6 M ⟨boot_heap w.params,Array.mk [],boot_drawn,boot_toks,os⟩ (topStub pw)=some (stT (kn12 w.params) x' 1199 2211 os).abs:=by
  have hp:=pre_k w os default
  rw [← tg_eq,← tb_eq,← dn_eq] at hp
  obtain ⟨M,x',hM,ho,h⟩:=top_all w os default
  rw [← bd_eq] at h
  exact ⟨12+(1+M),x',by omega,ho,go_top hp (piece_block (block_k w _) h)⟩
def qv:Program:={ pw with main:={ pw.main with body:=[sT 92] } }
def looseN:List Str:=(["_wall","GemError","BadArgument","StepsOver","Raised","FIELDS","Node","SIMPLE_ESCAPES","OPERATORS","DEEPEST_KEY","Thing","Text","ListThing","TableThing","RangeThing","ProcThing","ErrorThing","FiberThing","ModuleThing","is_int","truth","sort_of","same","code_of","is_word","is_label","is_plain_symbol","full_name","show_letter","show_text","show_symbol","show_pair","show_range","show_thing","show_error","show","give_cause","Way","Task","Walker","do_plain","do_values","do_seq","do_if","LAST_ERROR","NOWHERE","end_by","Rescue","begin","begin_body","after_body","ask_class","after_class","ask_error","after_asked","after_target","rescue_body","after_rescue","begin_ensure","after_ensure","BEGIN_STEPS","way_out","is_over","retry","raise_version","own_module","MODULES","BUILTINS","MIXED","UNMADE","World","_law_bag","_law_take","_law_mark","_law_item","_law_seq","_law_rescue","_law_begin","_law_has","_law_kinds","_law_asks","_law_rescued","_law_tried","_law_walk"]:List String).map Str.ofString
def sF (w:World) (os:OsState) (x:Nat→Obj):Shared:=(stT (kn12 w.params) x 1199 2211 os).abs
theorem ck1 (w:World) (os:OsState) (x:Nat→Obj):(staticsOk (importedModules pw.main.body) (boot_heap w.params) (sF w os x).heap&&namesBound pw (sF w os x).heap&&gensDone (sF w os x)&&laidKept (boot_heap w.params) (sF w os x).heap)=true:=by kernel_rfl
theorem ck2 (w:World):((boot_heap w.params).isNs mainGlobals&&(#[]:Array GenState).size==0,(boot_heap w.params).objs.size,(boot_heap w.params).nsMap mainGlobals "__annotations__")=(true,11,an6):=by kernel_rfl
theorem s1 (w:World) (os:OsState) (x:Nat→Obj):seen ((recsOf qv).map (·.name)) (ownsOf qv) [] { (sF w os x) with gens:=#[] }=expectedOf qv:=by kernel_rfl
theorem s2 (w:World) (os:OsState) (x:Nat→Obj):(sF w os x).heap.bltView=bltViewBooted:=by kernel_rfl
theorem s3 (w:World) (os:OsState) (x:Nat→Obj):(sF w os x).heap.keysOk (looseW qv looseN) ((recsOf qv).map (·.name)) ((litsOf qv).map (·.1)) ((clssOf qv (looseW qv looseN)).map (·.name))=true:=by kernel_rfl
theorem s4 (w:World) (os:OsState) (x:Nat→Obj):((sF w os x).heap.accountedOkI (importedModules pw.main.body)&&(sF w os x).heap.isNs mainGlobals&&(sF w os x).heap.isNs builtinsNs&&tablesOk qv (sF w os x).heap)=true:=by kernel_rfl
theorem s5 (w:World) (os:OsState) (x:Nat→Obj):tabsOk qv (sF w os x)=true:=by kernel_rfl
theorem s6 (w:World) (os:OsState) (x:Nat→Obj):pinSeenD qv (drecsOf qv) (sF w os x)=pinGoodD (drecsOf qv):=by kernel_rfl
theorem s7 (w:World) (os:OsState) (x:Nat→Obj):plainSeenE qv (looseW qv looseN) (sF w os x)=plainGoodE qv (looseW qv looseN):=by kernel_rfl
theorem s8 (w:World) (os:OsState) (x:Nat→Obj):plainSeenD qv looseN (sF w os x)=plainGoodD qv looseN:=by kernel_rfl
theorem s9 (w:World) (os:OsState) (x:Nat→Obj):wideSeen qv (sF w os x)=wideGood qv:=by kernel_rfl
theorem s10 (w:World) (os:OsState) (x:Nat→Obj):clsSeenW qv looseN (sF w os x)=clsGoodW qv looseN:=by kernel_rfl
abbrev NF:Nat:=20000
theorem open_k1:opening pw=plainProg pw.main.scope.names:=by kernel_rfl
theorem open_k2 (s:Shared):fenceModules? pw s=some s:=by kernel_rfl
theorem open_all:∀ w:World,(fencedOpening treeTable pw w NF).map (fun s=>(s.heap,s.gens,s.drawn,s.toks))=some (boot_heap w.params,Array.mk [],boot_drawn,boot_toks) :=
  boot_open open_k1 (by decide) open_k2
def yF (s:Shared):List (Option Obj)×Nat×Nat:=(as12.map s.heap.get?,s.heap.objs.size,s.toks)
def yA (w:World):List (Option Obj)×Nat×Nat:=(kv (kn12 w.params),1199,2211)
theorem y_k (w:World) (os:OsState) (x:Nat→Obj):yF (sF w os x)=yA w:=by kernel_rfl
theorem left:LeftO pw qv looseN (fun _=>true) yF yA NF:=fun w=>by
  obtain ⟨⟨h,gs,d,k,os⟩,e,e'⟩:=Option.map_eq_some_iff.mp (open_all w)
  obtain ⟨rfl,rfl,rfl,rfl⟩:h=boot_heap w.params∧gs=Array.mk []∧d=boot_drawn∧k=boot_toks:=by simpa using e'
  obtain ⟨M,x,hM,ho,hr⟩:=top_run w os
  obtain ⟨z1,z2,z3⟩:_∧_∧_:=by simpa only [Prod.mk.injEq] using ck2 w
  have r:=topRun_mono (NF - M) _ _ _ _ hr
  rw [show M+(NF - M)=NF by simp only [NF]; omega] at r
  have t:topFrom treeTable pw w NF ⟨boot_heap w.params,Array.mk [],boot_drawn,boot_toks,os⟩=some (sF w os x):=by
    unfold topFrom
    dsimp only
    rw [z1,z2,z3,r]
    show (match staticsOk (importedModules pw.main.body) (boot_heap w.params) (sF w os x).heap&&namesBound pw (sF w os x).heap&&gensDone (sF w os x)&&laidKept (boot_heap w.params) (sF w os x).heap with | true=>some (sF w os x) | false=>none)=_
    rw [ck1 w os x]
  unfold openEnds
  rw [e]
  show (topFrom treeTable pw w NF ⟨boot_heap w.params,Array.mk [],boot_drawn,boot_toks,os⟩).map _=_
  rw [t]
  show some (openSeen qv looseN (importedModules pw.main.body) (fun _=>true) true (sF w os x),yF (sF w os x))=_
  rw [y_k]
  have z:openSeen qv looseN (importedModules pw.main.body) (fun _=>true) true (sF w os x)=openGood qv looseN:=by
    unfold openSeen openGood
    have hgn:((sF w os x).gens.size==0)=true:=rfl
    rw [s1,s2,s3,s5,s6,s7,s8,s9,s10,Bool.true_and,s4]
    rfl
  rw [z]
abbrev lawR:OpenLaw:=PySem.Challenge.rw_nu0297_01
theorem ws_k:PySem.W.Fast.tw9446332074065402090 lawR=true:=by kernel_rfl
theorem ws:OpenLaw.wellSaid lawR=true:=by rw [PySem.W.Fast.te9446332074065402090]; exact ws_k
def stPos:Stmt→Pos
  | .FunctionDef _ _ _ _ _ _ _ _ _ p=>p
  | _=>default
def dLaw:DefRec:=⟨Str.ofString "law",stParams (sT 92),stBody (sT 92),stScope (sT 92),stPos (sT 92)⟩
theorem hd1:defOf qv lawR.row.name=some (dLaw,[]):=by kernel_rfl
theorem hd2:lawR.row.prog.theDef lawR.row.name=some (dLaw.params,dLaw.body,dLaw.scope):=by kernel_rfl
theorem hd3:kwWritten? dLaw.params.kwonlyargs dLaw.params.kw_defaults=some []:=by kernel_rfl
theorem hd4:(chainsOk qv&&opensWell lawR.row.prog&&(frees lawR.row.toRowW&&lawR.row.within.isEmpty))=true:=by kernel_rfl
theorem hd5:lawR.row.toRowW.promised:=by w_witness2
theorem hd6:lawR.row.prog.bare:=⟨rfl,rfl,rfl,rfl,rfl,by decide +kernel⟩
abbrev Walk:Prop:=WalkX qv looseN (fun _ _=>True) yF yA lawR.row.toRowW dLaw [] fun f vs=>PySem.call f vs
theorem head (walk:Walk):PySem.Challenge.rw_nu0297_01.Holds :=
  holds_law ws fun said=>holds_openX left (fun _ _=>trivial) (fun _ _ _ _ _=>trivial) hd1 hd2 hd3 (fun _ _=>recFacts_nil rfl) rfl said hd4 hd6 hd5 walk
def fnI (st:Stmt) (q:String) (op:List TV) (co:Option Nat):FnI:=⟨(stParams st).args.map (·.arg),op,stBody st,stScope st,u q,co⟩
def tGl:List (Str×TV):=[(u "FIELDS",.raw 93),(u "Node",.raw 185),(u "Thing",.raw 208),(u "ModuleThing",.raw 396),(u "truth",.raw 412),(u "Way",.raw 538),(u "Task",.raw 560),(u "Walker",.raw 659),(u "do_plain",.raw 670),(u "do_values",.raw 677),(u "do_seq",.raw 684),(u "do_if",.raw 691),(u "LAST_ERROR",.str (u "$!")),(u "NOWHERE",.raw 692),(u "end_by",.raw 699),(u "Rescue",.raw 716),(u "begin",.raw 727),(u "begin_body",.raw 734),(u "after_body",.raw 741),(u "ask_class",.raw 748),(u "after_class",.raw 755),(u "ask_error",.raw 762),(u "after_asked",.raw 769),(u "after_target",.raw 776),(u "rescue_body",.raw 783),(u "after_rescue",.raw 790),(u "begin_ensure",.raw 797),(u "after_ensure",.raw 804),(u "BEGIN_STEPS",.raw 805),(u "way_out",.raw 812),(u "is_over",.raw 819),(u "retry",.raw 826),(u "MODULES",.tup [.str (u "Kernel"),.str (u "Comparable"),.str (u "Enumerable")]),(u "BUILTINS",.raw 842),(u "MIXED",.raw 845),(u "World",.raw 1106),(u "_law_bag",.raw 1115),(u "_law_take",.raw 1122),(u "_law_mark",.raw 1129),(u "_law_item",.raw 1136),(u "_law_seq",.raw 1141),(u "_law_rescue",.raw 1146),(u "_law_begin",.raw 1151),(u "_law_has",.raw 1158),(u "_law_kinds",.raw 1165),(u "_law_asks",.raw 1170),(u "_law_rescued",.raw 1177),(u "_law_tried",.raw 1184),(u "_law_walk",.raw 1191),(u "law",.raw 1198),(u "abs",.bi 3),(u "bool",.type 4),(u "int",.type 2),(u "isinstance",.bi 2),(u "len",.bi 0),(u "list",.type 0),(u "max",.bi 1),(u "range",.type 3),(u "tuple",.type 1)]
def tMe:List (Nat×List (Str×Nat)):=[(659,[(u "enter",585),(u "go",592),(u "send",600),(u "done",607),(u "leave",614),(u "step",649),(u "run",656)]),(1106,[(u "tick",875),(u "number",889),(u "builtin",910),(u "make_builtin",915),(u "give_own",922)])]
def tAb:List (Nat×List Str):=[(185,[u "kind",u "parts",u "line",u "own"]),(208,[u "number",u "owner",u "fields",u "own",u "frozen",u "ident"]),(396,[u "number",u "owner",u "fields",u "own",u "frozen",u "ident",u "name",u "is_class",u "parent",u "outer",u "methods",u "constants",u "mixed",u "ahead",u "attached",u "native",u "kept"]),(538,[u "sort",u "value",u "tag"]),(560,[u "kind",u "node",u "env",u "number",u "state",u "held",u "kept"]),(659,[u "world",u "table",u "catches",u "stack",u "way",u "fiber"]),(716,[u "way",u "arm",u "place",u "tests",u "before"]),(1106,[u "natives",u "prelude",u "read",u "most",u "taken",u "last_number",u "last_ident",u "symbol_idents",u "made",u "version",u "const_version",u "globals",u "out",u "is_ready",u "main"])]
def tCl:List (Nat×List (Str×Nat)):=[(208,[(u "__init__",205)])]
def tMm:List (Nat×Nat):=[(185,175),(208,205),(396,386),(538,535),(560,557),(659,578),(716,713),(1106,868)]
def tRo:List (Nat×List (Str×TV)):=[(93,[(u "nil",.raw 94),(u "true",.raw 95),(u "false",.raw 96),(u "self",.tup []),(u "retry",.tup []),(u "int",.tup [.str (u "value")]),(u "sym",.tup [.str (u "name")]),(u "str",.raw 101),(u "dstr",.raw 102),(u "array",.raw 103),(u "hash",.raw 104),(u "range",.raw 105),(u "splat",.raw 106),(u "lvar",.tup [.str (u "name")]),(u "ivar",.tup [.str (u "name")]),(u "gvar",.raw 109),(u "const",.tup [.str (u "scope"),.str (u "name")]),(u "t_local",.raw 112),(u "t_ivar",.raw 113),(u "t_gvar",.tup [.str (u "name")]),(u "t_const",.raw 115),(u "t_index",.raw 116),(u "t_attr",.raw 117),(u "t_splat",.raw 118),(u "t_group",.raw 119),(u "assign",.raw 120),(u "masgn",.raw 121),(u "opasgn",.raw 122),(u "call",.raw 123),(u "vcall",.raw 124),(u "block",.raw 125),(u "blockpass",.raw 126),(u "and",.raw 127),(u "or",.raw 128),(u "not",.raw 130),(u "super",.raw 131),(u "yield",.raw 132),(u "lambda",.raw 133),(u "defined",.raw 134),(u "seq",.tup [.str (u "items")]),(u "if",.tup [.str (u "test"),.str (u "yes"),.str (u "no")]),(u "while",.raw 137),(u "case",.raw 138),(u "casein",.raw 139),(u "matchp",.raw 140),(u "matchq",.raw 141),(u "begin",.tup [.str (u "body"),.str (u "rescues"),.str (u "other"),.str (u "ensure")]),(u "break",.tup [.str (u "value")]),(u "next",.tup [.str (u "value")]),(u "return",.tup [.str (u "value")]),(u "def",.raw 146),(u "class",.raw 148),(u "module",.raw 149),(u "sclass",.raw 150),(u "alias",.raw 151),(u "undef",.raw 152),(u "p_value",.raw 153),(u "p_bind",.raw 154),(u "p_pin",.raw 155),(u "p_alt",.raw 156),(u "p_as",.raw 157),(u "p_array",.raw 158),(u "p_hash",.raw 159)]),(805,[(u "body",.raw 741),(u "class",.raw 755),(u "asked",.raw 769),(u "target",.raw 776),(u "rescue",.raw 790),(u "other",.raw 797),(u "ensure",.raw 804)]),(842,[(u "BasicObject",.none),(u "Object",.str (u "BasicObject")),(u "Module",.str (u "Object")),(u "Class",.str (u "Module")),(u "Kernel",.none),(u "Comparable",.none),(u "Enumerable",.none),(u "NilClass",.str (u "Object")),(u "TrueClass",.str (u "Object")),(u "FalseClass",.str (u "Object")),(u "Numeric",.str (u "Object")),(u "Integer",.str (u "Numeric")),(u "String",.str (u "Object")),(u "Symbol",.str (u "Object")),(u "Array",.str (u "Object")),(u "Hash",.str (u "Object")),(u "Range",.str (u "Object")),(u "Proc",.str (u "Object")),(u "Fiber",.str (u "Object")),(u "Exception",.str (u "Object")),(u "ScriptError",.str (u "Exception")),(u "NotImplementedError",.str (u "ScriptError")),(u "SystemStackError",.str (u "Exception")),(u "StandardError",.str (u "Exception")),(u "ArgumentError",.str (u "StandardError")),(u "UncaughtThrowError",.str (u "ArgumentError")),(u "FiberError",.str (u "StandardError")),(u "IndexError",.str (u "StandardError")),(u "KeyError",.str (u "IndexError")),(u "StopIteration",.str (u "IndexError")),(u "LocalJumpError",.str (u "StandardError")),(u "NameError",.str (u "StandardError")),(u "NoMethodError",.str (u "NameError")),(u "NoMatchingPatternError",.str (u "StandardError")),(u "NoMatchingPatternKeyError",.str (u "NoMatchingPatternError")),(u "RangeError",.str (u "StandardError")),(u "RuntimeError",.str (u "StandardError")),(u "FrozenError",.str (u "RuntimeError")),(u "TypeError",.str (u "StandardError")),(u "ZeroDivisionError",.str (u "StandardError"))]),(845,[(u "Object",.tup [.str (u "Kernel")]),(u "Numeric",.raw 847),(u "String",.raw 848),(u "Symbol",.raw 849),(u "Array",.raw 850),(u "Hash",.raw 851),(u "Range",.raw 852)])]
def tKp:List Nat:=[175,205,386,412,535,557,578,585,592,600,607,614,649,656,670,677,684,691,699,713,727,734,741,748,755,762,769,776,783,790,797,804,812,819,826,868,875,889,910,915,922,1115,1122,1129,1136,1141,1146,1151,1158,1165,1170,1177,1184,1191,1198,185,208,396,538,560,659,716,1106]
def tFn:List (Nat×FnI):=[(175,fnI (sM 8 0) "Node.__init__" [.raw 167,.int 0] none),
  (205,fnI (sM 13 0) "Thing.__init__" [] none),
  (386,fnI (sM 21 0) "ModuleThing.__init__" [.none,.bool false,.none,.none] none),
  (412,fnI (sT 23) "truth" [] none),
  (535,fnI (sM 41 0) "Way.__init__" [.none,.none] none),
  (557,fnI (sM 42 0) "Task.__init__" [.none] none),
  (578,fnI (sM 43 0) "Walker.__init__" [] none),
  (585,fnI (sM 43 1) "Walker.enter" [] none),
  (592,fnI (sM 43 2) "Walker.go" [] none),
  (600,fnI (sM 43 3) "Walker.send" [.none,.str (u "call"),.none] none),
  (607,fnI (sM 43 4) "Walker.done" [] none),
  (614,fnI (sM 43 5) "Walker.leave" [] none),
  (649,fnI (sM 43 10) "Walker.step" [] none),
  (656,fnI (sM 43 11) "Walker.run" [] none),
  (670,fnI (sT 44) "do_plain" [] none),
  (677,fnI (sT 45) "do_values" [] none),
  (684,fnI (sT 46) "do_seq" [] none),
  (691,fnI (sT 47) "do_if" [] none),
  (699,fnI (sT 51) "end_by" [] none),
  (713,fnI (sM 52 0) "Rescue.__init__" [] none),
  (727,fnI (sT 53) "begin" [] none),
  (734,fnI (sT 54) "begin_body" [] none),
  (741,fnI (sT 55) "after_body" [] none),
  (748,fnI (sT 56) "ask_class" [] none),
  (755,fnI (sT 57) "after_class" [] none),
  (762,fnI (sT 58) "ask_error" [] none),
  (769,fnI (sT 59) "after_asked" [] none),
  (776,fnI (sT 60) "after_target" [] none),
  (783,fnI (sT 61) "rescue_body" [] none),
  (790,fnI (sT 62) "after_rescue" [] none),
  (797,fnI (sT 63) "begin_ensure" [] none),
  (804,fnI (sT 64) "after_ensure" [] none),
  (812,fnI (sT 66) "way_out" [] none),
  (819,fnI (sT 67) "is_over" [] none),
  (826,fnI (sT 68) "retry" [] none),
  (868,fnI (sM 77 0) "World.__init__" [.none,.none,.int 20000] none),
  (875,fnI (sM 77 1) "World.tick" [] none),
  (889,fnI (sM 77 3) "World.number" [] none),
  (910,fnI (sM 77 6) "World.builtin" [] none),
  (915,fnI (sM 77 7) "World.make_builtin" [] none),
  (922,fnI (sM 77 8) "World.give_own" [] none),
  (1115,fnI (sT 79) "_law_bag" [] none),
  (1122,fnI (sT 80) "_law_take" [] none),
  (1129,fnI (sT 81) "_law_mark" [] none),
  (1136,fnI (sT 82) "_law_item" [] none),
  (1141,fnI (sT 83) "_law_seq" [] none),
  (1146,fnI (sT 84) "_law_rescue" [] none),
  (1151,fnI (sT 85) "_law_begin" [] none),
  (1158,fnI (sT 86) "_law_has" [] none),
  (1165,fnI (sT 87) "_law_kinds" [] (some 1164)),
  (1170,fnI (sT 88) "_law_asks" [] none),
  (1177,fnI (sT 89) "_law_rescued" [] none),
  (1184,fnI (sT 90) "_law_tried" [] none),
  (1191,fnI (sT 91) "_law_walk" [] none),
  (1198,fnI (sT 92) "law" [] none)]
def theTab:Tab:=⟨tGl,tMe,tAb,tCl,[185,538],tMm,tRo,tKp,tFn⟩
def dropA (a:Nat) (l:List (Nat×Obj)):List (Nat×Obj):=@List.rec (Nat×Obj) (fun _=>List (Nat×Obj)) [] (fun p _ ih=>@Bool.rec (fun _=>List (Nat×Obj)) (p::ih) ih (Nat.beq p.1 a)) l
def KK (P:Params):Frag:=dropA 1160 (kn12 P)
def nodupS:List Str→Bool
  | []=>true
  | x::r => !(hasN r x)&&nodupS r
theorem hasN_of {l:List Str}{x:Str}(h:x∈l):hasN l x=true:=by
  induction l with
  | nil=>cases h
  | cons p l ih =>
    show (@Bool.rec (fun _=>Bool) (hasN l x) true (sq p x))=true
    cases q:sq p x with
    | true=>rfl
    | false =>
      rcases List.mem_cons.mp h with rfl | h
      · rw [sq_refl] at q; cases q
      · exact ih h
theorem nodupS_of:∀ {l:List Str},nodupS l=true→l.Nodup
  | [],_=>.nil
  | x::r,h=>by
    have h:(!(hasN r x)&&nodupS r)=true:=h
    rw [Bool.and_eq_true] at h
    refine List.nodup_cons.mpr ⟨fun q => ?_,nodupS_of h.2⟩
    rw [hasN_of q] at h; cases h.1
def sqS (a b:String):Bool:=sq (Str.ofString a) (Str.ofString b)
def intB (a b:Int):Bool:=decide (a=b)
def vr1B:TV→Value→Bool
  | .none,.none=>true
  | .bool true,.bool true=>true
  | .bool false,.bool false=>true
  | .int i,.int j _=>intB i j
  | .str s,.str t _=>sq s t
  | .raw a,.ref b=>Nat.beq a b
  | _,_=>false
def vrsB:List TV→List Value→Bool
  | [],[]=>true
  | t::ts,v::vs=>vr1B t v&&vrsB ts vs
  | _,_=>false
theorem vr1B_ok {P:Params}{g:PH}{ρ:Rho}{t:TV}{v:Value}(h:vr1B t v=true):VR P g ρ t v:=by
  unfold vr1B at h
  split at h<;>first | (cases h; done) | skip
  · exact .none
  · exact .bool
  · exact .bool
  · have:=of_decide_eq_true h; subst this; exact .int
  · have:=sq_iff.mp h; subst this; exact .str
  · have:=Nat.eq_of_beq_eq_true h; subst this; exact .raw
theorem vrsB_ok {P:Params}{g:PH}{ρ:Rho}:∀ {ts:List TV}{vs:List Value},vrsB ts vs=true→VRs P g ρ ts vs
  | [],[],_=>.nil
  | t::ts,v::vs,h=>by
    have h:(vr1B t v&&vrsB ts vs)=true:=h
    rw [Bool.and_eq_true] at h
    exact .cons (vr1B_ok h.1) (vrsB_ok h.2)
  | [],_::_,h=>by cases h
  | _::_,[],h=>by cases h
def CuF (T:Type):Nat→Type
  | 0=>T
  | n+1=>Value→CuF T n
def cuN {T:Type}:(n:Nat)→(List Value→T)→CuF T n
  | 0,f=>f []
  | n+1,f=>fun v=>cuN n fun l=>f (v::l)
def CuT (T:Type):Nat→Nat→Type
  | n,0=>CuF T n
  | n,m+1=>CuF T n×CuT T (n+1) m
def cuNs {T:Type}:(n m:Nat)→(List Value→T)→CuT T n m
  | n,0,f=>cuN n f
  | n,m+1,f=>(cuN n f,cuNs (n+1) m f)
theorem cuN_eq {T:Type}{n:Nat}:∀ {L R:List Value→T},cuN n L=cuN n R→∀ vs,vs.length=n→L vs=R vs:=by
  induction n with
  | zero=>intro L R h vs e; rw [List.length_eq_zero_iff.mp e]; exact h
  | succ n ih =>
    intro L R h vs e
    cases vs with
    | nil=>cases e
    | cons v vs=>exact ih (congrFun h v) vs (Nat.succ.inj e)
theorem cuNs_eq {T:Type}{m:Nat}:∀ {n:Nat}{L R:List Value→T},cuNs n m L=cuNs n m R→∀ vs,n≤vs.length→vs.length≤n+m→L vs=R vs:=by
  induction m with
  | zero=>intro n L R h vs a b; exact cuN_eq h vs (Nat.le_antisymm b a)
  | succ m ih =>
    intro n L R h vs a b
    have h:(cuN n L,cuNs (n+1) m L)=(cuN n R,cuNs (n+1) m R):=h
    simp only [Prod.mk.injEq] at h
    rcases Nat.lt_or_eq_of_le a with q | q
    · exact ih h.2 vs q (by omega)
    · exact cuN_eq h.1 vs q.symm
theorem fnK {P:Params}{a:Nat}{i:FnI}(fd:FuncData) (dvs:List Value) (n m:Nat) (lk:(KK P).lookup a=some ⟨.type "function",none,.func fd,#[]⟩)
    (h:((fd.scope,fd.body,fd.qualname,fd.globals,fd.builtins,fd.closure,codeIn (KK P) fd.code i.qual),(i.scope.isCoroutine,i.scope.isGenerator,i.scope.kind),i.nm.length - i.op.length,i.nm.length)=((i.scope,.stmts i.body,i.qual,mainGlobals,builtinsNs,[],true),(false,false,.function),n,n+m))
    (h2:((i.nm.all fun y=>i.scope.names.lookup y==some .local||i.scope.names.lookup y==some .cell)&&(nodupS ((cellsFrom 0 i.scope.names []).map (·.1))&&(Nat.ble i.op.length i.nm.length&&vrsB i.op dvs)))=true)
    (co:∀ c,i.co=some c→fd.code = .ref c) (run:(fun S=>cuNs n m fun vs=>peek (KK P) S (bindArgs fd ⟨vs,[]⟩))=fun _=>cuNs n m fun vs=>some (bindV i vs dvs)):FnOk P (KK P) a i:=by
  simp only [Prod.mk.injEq] at h
  obtain ⟨⟨a1,a2,a3,a4,a5,a6,a7⟩,⟨b1,b2,b3⟩,c1,c2⟩:=h
  simp only [Bool.and_eq_true] at h2
  obtain ⟨d1,d2,d3,d4⟩:=h2
  exact ⟨_,_,_,fd,lk,a1,a2,a3,a4,a5,a6,a7,b1,b2,b3,d1,nodupS_of d2,Nat.le_of_ble_eq_true d3,co,dvs,fun g ρ _=>vrsB_ok d4,fun S vs x y=>cuNs_eq (congrFun run S) vs (c1▸x) (c2▸y)⟩
theorem fn_175 (P:Params):FnOk P (KK P) 175 (fnI (sM 8 0) "Node.__init__" [.raw 167,.int 0] none):=fnK (uf "__init__" "Node.__init__" (sM 8 0) 3 (.ref 168) (us "gemrows.nodes" 290) (.ref 174) 0) [(.ref 167),(.int (0) 534)] 2 2 (by kernel_rfl) (by kernel_rfl) (by kernel_rfl) (fun _ e=>nomatch e) (by kernel_rfl)
theorem fn_205 (P:Params):FnOk P (KK P) 205 (fnI (sM 13 0) "Thing.__init__" [] none):=fnK (uf "__init__" "Thing.__init__" (sM 13 0) 3 .none (us "gemrows.things" 565) (.ref 204) 0) [] 3 0 (by kernel_rfl) (by kernel_rfl) (by kernel_rfl) (fun _ e=>nomatch e) (by kernel_rfl)
theorem fn_386 (P:Params):FnOk P (KK P) 386 (fnI (sM 21 0) "ModuleThing.__init__" [.none,.bool false,.none,.none] none):=fnK (uf "__init__" "ModuleThing.__init__" (sM 21 0) 3 (.ref 379) (us "gemrows.things" 565) (.ref 385) 0) [.none,(.bool false),.none,.none] 3 4 (by kernel_rfl) (by kernel_rfl) (by kernel_rfl) (fun _ e=>nomatch e) (by kernel_rfl)
theorem fn_412 (P:Params):FnOk P (KK P) 412 (fnI (sT 23) "truth" [] none):=fnK (uf "truth" "truth" (sT 23) 3 .none (us "gemrows.things" 565) (.ref 411) 0) [] 1 0 (by kernel_rfl) (by kernel_rfl) (by kernel_rfl) (fun _ e=>nomatch e) (by kernel_rfl)
theorem fn_535 (P:Params):FnOk P (KK P) 535 (fnI (sM 41 0) "Way.__init__" [.none,.none] none):=fnK (uf "__init__" "Way.__init__" (sM 41 0) 3 (.ref 528) (us "gemrows.walk" 1084) (.ref 534) 0) [.none,.none] 2 2 (by kernel_rfl) (by kernel_rfl) (by kernel_rfl) (fun _ e=>nomatch e) (by kernel_rfl)
theorem fn_557 (P:Params):FnOk P (KK P) 557 (fnI (sM 42 0) "Task.__init__" [.none] none):=fnK (uf "__init__" "Task.__init__" (sM 42 0) 3 (.ref 550) (us "gemrows.walk" 1084) (.ref 556) 0) [.none] 4 1 (by kernel_rfl) (by kernel_rfl) (by kernel_rfl) (fun _ e=>nomatch e) (by kernel_rfl)
theorem fn_578 (P:Params):FnOk P (KK P) 578 (fnI (sM 43 0) "Walker.__init__" [] none):=fnK (uf "__init__" "Walker.__init__" (sM 43 0) 3 .none (us "gemrows.walk" 1084) (.ref 577) 0) [] 4 0 (by kernel_rfl) (by kernel_rfl) (by kernel_rfl) (fun _ e=>nomatch e) (by kernel_rfl)
theorem fn_585 (P:Params):FnOk P (KK P) 585 (fnI (sM 43 1) "Walker.enter" [] none):=fnK (uf "enter" "Walker.enter" (sM 43 1) 3 .none (us "gemrows.walk" 1084) (.ref 584) 0) [] 2 0 (by kernel_rfl) (by kernel_rfl) (by kernel_rfl) (fun _ e=>nomatch e) (by kernel_rfl)
theorem fn_592 (P:Params):FnOk P (KK P) 592 (fnI (sM 43 2) "Walker.go" [] none):=fnK (uf "go" "Walker.go" (sM 43 2) 3 .none (us "gemrows.walk" 1084) (.ref 591) 0) [] 3 0 (by kernel_rfl) (by kernel_rfl) (by kernel_rfl) (fun _ e=>nomatch e) (by kernel_rfl)
theorem fn_600 (P:Params):FnOk P (KK P) 600 (fnI (sM 43 3) "Walker.send" [.none,.str (u "call"),.none] none):=fnK (uf "send" "Walker.send" (sM 43 3) 3 (.ref 593) (us "gemrows.walk" 1084) (.ref 599) 0) [.none,(us "call" 1206),.none] 4 3 (by kernel_rfl) (by kernel_rfl) (by kernel_rfl) (fun _ e=>nomatch e) (by kernel_rfl)
theorem fn_607 (P:Params):FnOk P (KK P) 607 (fnI (sM 43 4) "Walker.done" [] none):=fnK (uf "done" "Walker.done" (sM 43 4) 3 .none (us "gemrows.walk" 1084) (.ref 606) 0) [] 2 0 (by kernel_rfl) (by kernel_rfl) (by kernel_rfl) (fun _ e=>nomatch e) (by kernel_rfl)
theorem fn_614 (P:Params):FnOk P (KK P) 614 (fnI (sM 43 5) "Walker.leave" [] none):=fnK (uf "leave" "Walker.leave" (sM 43 5) 3 .none (us "gemrows.walk" 1084) (.ref 613) 0) [] 2 0 (by kernel_rfl) (by kernel_rfl) (by kernel_rfl) (fun _ e=>nomatch e) (by kernel_rfl)
theorem fn_649 (P:Params):FnOk P (KK P) 649 (fnI (sM 43 10) "Walker.step" [] none):=fnK (uf "step" "Walker.step" (sM 43 10) 3 .none (us "gemrows.walk" 1084) (.ref 648) 0) [] 1 0 (by kernel_rfl) (by kernel_rfl) (by kernel_rfl) (fun _ e=>nomatch e) (by kernel_rfl)
theorem fn_656 (P:Params):FnOk P (KK P) 656 (fnI (sM 43 11) "Walker.run" [] none):=fnK (uf "run" "Walker.run" (sM 43 11) 3 .none (us "gemrows.walk" 1084) (.ref 655) 0) [] 1 0 (by kernel_rfl) (by kernel_rfl) (by kernel_rfl) (fun _ e=>nomatch e) (by kernel_rfl)
theorem fn_670 (P:Params):FnOk P (KK P) 670 (fnI (sT 44) "do_plain" [] none):=fnK (uf "do_plain" "do_plain" (sT 44) 3 .none (us "gemrows.walk" 1084) (.ref 669) 0) [] 3 0 (by kernel_rfl) (by kernel_rfl) (by kernel_rfl) (fun _ e=>nomatch e) (by kernel_rfl)
theorem fn_677 (P:Params):FnOk P (KK P) 677 (fnI (sT 45) "do_values" [] none):=fnK (uf "do_values" "do_values" (sT 45) 3 .none (us "gemrows.walk" 1084) (.ref 676) 0) [] 3 0 (by kernel_rfl) (by kernel_rfl) (by kernel_rfl) (fun _ e=>nomatch e) (by kernel_rfl)
theorem fn_684 (P:Params):FnOk P (KK P) 684 (fnI (sT 46) "do_seq" [] none):=fnK (uf "do_seq" "do_seq" (sT 46) 3 .none (us "gemrows.walk" 1084) (.ref 683) 0) [] 3 0 (by kernel_rfl) (by kernel_rfl) (by kernel_rfl) (fun _ e=>nomatch e) (by kernel_rfl)
theorem fn_691 (P:Params):FnOk P (KK P) 691 (fnI (sT 47) "do_if" [] none):=fnK (uf "do_if" "do_if" (sT 47) 3 .none (us "gemrows.walk" 1084) (.ref 690) 0) [] 3 0 (by kernel_rfl) (by kernel_rfl) (by kernel_rfl) (fun _ e=>nomatch e) (by kernel_rfl)
theorem fn_699 (P:Params):FnOk P (KK P) 699 (fnI (sT 51) "end_by" [] none):=fnK (uf "end_by" "end_by" (sT 51) 3 .none (us "gemrows.walkflow" 1344) (.ref 698) 0) [] 2 0 (by kernel_rfl) (by kernel_rfl) (by kernel_rfl) (fun _ e=>nomatch e) (by kernel_rfl)
theorem fn_713 (P:Params):FnOk P (KK P) 713 (fnI (sM 52 0) "Rescue.__init__" [] none):=fnK (uf "__init__" "Rescue.__init__" (sM 52 0) 3 .none (us "gemrows.walkflow" 1344) (.ref 712) 0) [] 1 0 (by kernel_rfl) (by kernel_rfl) (by kernel_rfl) (fun _ e=>nomatch e) (by kernel_rfl)
theorem fn_727 (P:Params):FnOk P (KK P) 727 (fnI (sT 53) "begin" [] none):=fnK (uf "begin" "begin" (sT 53) 3 .none (us "gemrows.walkflow" 1344) (.ref 726) 0) [] 3 0 (by kernel_rfl) (by kernel_rfl) (by kernel_rfl) (fun _ e=>nomatch e) (by kernel_rfl)
theorem fn_734 (P:Params):FnOk P (KK P) 734 (fnI (sT 54) "begin_body" [] none):=fnK (uf "begin_body" "begin_body" (sT 54) 3 .none (us "gemrows.walkflow" 1344) (.ref 733) 0) [] 2 0 (by kernel_rfl) (by kernel_rfl) (by kernel_rfl) (fun _ e=>nomatch e) (by kernel_rfl)
theorem fn_741 (P:Params):FnOk P (KK P) 741 (fnI (sT 55) "after_body" [] none):=fnK (uf "after_body" "after_body" (sT 55) 3 .none (us "gemrows.walkflow" 1344) (.ref 740) 0) [] 3 0 (by kernel_rfl) (by kernel_rfl) (by kernel_rfl) (fun _ e=>nomatch e) (by kernel_rfl)
theorem fn_748 (P:Params):FnOk P (KK P) 748 (fnI (sT 56) "ask_class" [] none):=fnK (uf "ask_class" "ask_class" (sT 56) 3 .none (us "gemrows.walkflow" 1344) (.ref 747) 0) [] 2 0 (by kernel_rfl) (by kernel_rfl) (by kernel_rfl) (fun _ e=>nomatch e) (by kernel_rfl)
theorem fn_755 (P:Params):FnOk P (KK P) 755 (fnI (sT 57) "after_class" [] none):=fnK (uf "after_class" "after_class" (sT 57) 3 .none (us "gemrows.walkflow" 1344) (.ref 754) 0) [] 3 0 (by kernel_rfl) (by kernel_rfl) (by kernel_rfl) (fun _ e=>nomatch e) (by kernel_rfl)
theorem fn_762 (P:Params):FnOk P (KK P) 762 (fnI (sT 58) "ask_error" [] none):=fnK (uf "ask_error" "ask_error" (sT 58) 3 .none (us "gemrows.walkflow" 1344) (.ref 761) 0) [] 2 0 (by kernel_rfl) (by kernel_rfl) (by kernel_rfl) (fun _ e=>nomatch e) (by kernel_rfl)
theorem fn_769 (P:Params):FnOk P (KK P) 769 (fnI (sT 59) "after_asked" [] none):=fnK (uf "after_asked" "after_asked" (sT 59) 3 .none (us "gemrows.walkflow" 1344) (.ref 768) 0) [] 3 0 (by kernel_rfl) (by kernel_rfl) (by kernel_rfl) (fun _ e=>nomatch e) (by kernel_rfl)
theorem fn_776 (P:Params):FnOk P (KK P) 776 (fnI (sT 60) "after_target" [] none):=fnK (uf "after_target" "after_target" (sT 60) 3 .none (us "gemrows.walkflow" 1344) (.ref 775) 0) [] 3 0 (by kernel_rfl) (by kernel_rfl) (by kernel_rfl) (fun _ e=>nomatch e) (by kernel_rfl)
theorem fn_783 (P:Params):FnOk P (KK P) 783 (fnI (sT 61) "rescue_body" [] none):=fnK (uf "rescue_body" "rescue_body" (sT 61) 3 .none (us "gemrows.walkflow" 1344) (.ref 782) 0) [] 2 0 (by kernel_rfl) (by kernel_rfl) (by kernel_rfl) (fun _ e=>nomatch e) (by kernel_rfl)
theorem fn_790 (P:Params):FnOk P (KK P) 790 (fnI (sT 62) "after_rescue" [] none):=fnK (uf "after_rescue" "after_rescue" (sT 62) 3 .none (us "gemrows.walkflow" 1344) (.ref 789) 0) [] 3 0 (by kernel_rfl) (by kernel_rfl) (by kernel_rfl) (fun _ e=>nomatch e) (by kernel_rfl)
theorem fn_797 (P:Params):FnOk P (KK P) 797 (fnI (sT 63) "begin_ensure" [] none):=fnK (uf "begin_ensure" "begin_ensure" (sT 63) 3 .none (us "gemrows.walkflow" 1344) (.ref 796) 0) [] 3 0 (by kernel_rfl) (by kernel_rfl) (by kernel_rfl) (fun _ e=>nomatch e) (by kernel_rfl)
theorem fn_804 (P:Params):FnOk P (KK P) 804 (fnI (sT 64) "after_ensure" [] none):=fnK (uf "after_ensure" "after_ensure" (sT 64) 3 .none (us "gemrows.walkflow" 1344) (.ref 803) 0) [] 3 0 (by kernel_rfl) (by kernel_rfl) (by kernel_rfl) (fun _ e=>nomatch e) (by kernel_rfl)
theorem fn_812 (P:Params):FnOk P (KK P) 812 (fnI (sT 66) "way_out" [] none):=fnK (uf "way_out" "way_out" (sT 66) 3 .none (us "gemrows.walkflow" 1344) (.ref 811) 0) [] 3 0 (by kernel_rfl) (by kernel_rfl) (by kernel_rfl) (fun _ e=>nomatch e) (by kernel_rfl)
theorem fn_819 (P:Params):FnOk P (KK P) 819 (fnI (sT 67) "is_over" [] none):=fnK (uf "is_over" "is_over" (sT 67) 3 .none (us "gemrows.walkflow" 1344) (.ref 818) 0) [] 2 0 (by kernel_rfl) (by kernel_rfl) (by kernel_rfl) (fun _ e=>nomatch e) (by kernel_rfl)
theorem fn_826 (P:Params):FnOk P (KK P) 826 (fnI (sT 68) "retry" [] none):=fnK (uf "retry" "retry" (sT 68) 3 .none (us "gemrows.walkflow" 1344) (.ref 825) 0) [] 3 0 (by kernel_rfl) (by kernel_rfl) (by kernel_rfl) (fun _ e=>nomatch e) (by kernel_rfl)
theorem fn_868 (P:Params):FnOk P (KK P) 868 (fnI (sM 77 0) "World.__init__" [.none,.none,.int 20000] none):=fnK (uf "__init__" "World.__init__" (sM 77 0) 3 (.ref 861) (us "gemrows.world" 1575) (.ref 867) 0) [.none,.none,(.int (20000) 1739)] 2 3 (by kernel_rfl) (by kernel_rfl) (by kernel_rfl) (fun _ e=>nomatch e) (by kernel_rfl)
theorem fn_875 (P:Params):FnOk P (KK P) 875 (fnI (sM 77 1) "World.tick" [] none):=fnK (uf "tick" "World.tick" (sM 77 1) 3 .none (us "gemrows.world" 1575) (.ref 874) 0) [] 1 0 (by kernel_rfl) (by kernel_rfl) (by kernel_rfl) (fun _ e=>nomatch e) (by kernel_rfl)
theorem fn_889 (P:Params):FnOk P (KK P) 889 (fnI (sM 77 3) "World.number" [] none):=fnK (uf "number" "World.number" (sM 77 3) 3 .none (us "gemrows.world" 1575) (.ref 888) 0) [] 1 0 (by kernel_rfl) (by kernel_rfl) (by kernel_rfl) (fun _ e=>nomatch e) (by kernel_rfl)
theorem fn_910 (P:Params):FnOk P (KK P) 910 (fnI (sM 77 6) "World.builtin" [] none):=fnK (uf "builtin" "World.builtin" (sM 77 6) 3 .none (us "gemrows.world" 1575) (.ref 909) 0) [] 2 0 (by kernel_rfl) (by kernel_rfl) (by kernel_rfl) (fun _ e=>nomatch e) (by kernel_rfl)
theorem fn_915 (P:Params):FnOk P (KK P) 915 (fnI (sM 77 7) "World.make_builtin" [] none):=fnK (uf "make_builtin" "World.make_builtin" (sM 77 7) 3 .none (us "gemrows.world" 1575) (.ref 914) 0) [] 2 0 (by kernel_rfl) (by kernel_rfl) (by kernel_rfl) (fun _ e=>nomatch e) (by kernel_rfl)
theorem fn_922 (P:Params):FnOk P (KK P) 922 (fnI (sM 77 8) "World.give_own" [] none):=fnK (uf "give_own" "World.give_own" (sM 77 8) 3 .none (us "gemrows.world" 1575) (.ref 921) 0) [] 2 0 (by kernel_rfl) (by kernel_rfl) (by kernel_rfl) (fun _ e=>nomatch e) (by kernel_rfl)
theorem fn_1115 (P:Params):FnOk P (KK P) 1115 (fnI (sT 79) "_law_bag" [] none):=fnK (uf "_law_bag" "_law_bag" (sT 79) 3 .none (us "law_nu0297_01" 2073) (.ref 1114) 0) [] 1 0 (by kernel_rfl) (by kernel_rfl) (by kernel_rfl) (fun _ e=>nomatch e) (by kernel_rfl)
theorem fn_1122 (P:Params):FnOk P (KK P) 1122 (fnI (sT 80) "_law_take" [] none):=fnK (uf "_law_take" "_law_take" (sT 80) 3 .none (us "law_nu0297_01" 2073) (.ref 1121) 0) [] 2 0 (by kernel_rfl) (by kernel_rfl) (by kernel_rfl) (fun _ e=>nomatch e) (by kernel_rfl)
theorem fn_1129 (P:Params):FnOk P (KK P) 1129 (fnI (sT 81) "_law_mark" [] none):=fnK (uf "_law_mark" "_law_mark" (sT 81) 3 .none (us "law_nu0297_01" 2073) (.ref 1128) 0) [] 1 0 (by kernel_rfl) (by kernel_rfl) (by kernel_rfl) (fun _ e=>nomatch e) (by kernel_rfl)
theorem fn_1136 (P:Params):FnOk P (KK P) 1136 (fnI (sT 82) "_law_item" [] none):=fnK (uf "_law_item" "_law_item" (sT 82) 3 .none (us "law_nu0297_01" 2073) (.ref 1135) 0) [] 2 0 (by kernel_rfl) (by kernel_rfl) (by kernel_rfl) (fun _ e=>nomatch e) (by kernel_rfl)
theorem fn_1141 (P:Params):FnOk P (KK P) 1141 (fnI (sT 83) "_law_seq" [] none):=fnK (uf "_law_seq" "_law_seq" (sT 83) 3 .none (us "law_nu0297_01" 2073) (.ref 1140) 0) [] 3 0 (by kernel_rfl) (by kernel_rfl) (by kernel_rfl) (fun _ e=>nomatch e) (by kernel_rfl)
theorem fn_1146 (P:Params):FnOk P (KK P) 1146 (fnI (sT 84) "_law_rescue" [] none):=fnK (uf "_law_rescue" "_law_rescue" (sT 84) 3 .none (us "law_nu0297_01" 2073) (.ref 1145) 0) [] 2 0 (by kernel_rfl) (by kernel_rfl) (by kernel_rfl) (fun _ e=>nomatch e) (by kernel_rfl)
theorem fn_1151 (P:Params):FnOk P (KK P) 1151 (fnI (sT 85) "_law_begin" [] none):=fnK (uf "_law_begin" "_law_begin" (sT 85) 3 .none (us "law_nu0297_01" 2073) (.ref 1150) 0) [] 2 0 (by kernel_rfl) (by kernel_rfl) (by kernel_rfl) (fun _ e=>nomatch e) (by kernel_rfl)
theorem fn_1158 (P:Params):FnOk P (KK P) 1158 (fnI (sT 86) "_law_has" [] none):=fnK (uf "_law_has" "_law_has" (sT 86) 3 .none (us "law_nu0297_01" 2073) (.ref 1157) 0) [] 2 0 (by kernel_rfl) (by kernel_rfl) (by kernel_rfl) (fun _ e=>nomatch e) (by kernel_rfl)
theorem fn_1165 (P:Params):FnOk P (KK P) 1165 (fnI (sT 87) "_law_kinds" [] (some 1164)):=fnK (uf "_law_kinds" "_law_kinds" (sT 87) 3 .none (us "law_nu0297_01" 2073) (.ref 1164) 0) [] 2 0 (by kernel_rfl) (by kernel_rfl) (by kernel_rfl) (fun c e=>by cases e; kernel_rfl) (by kernel_rfl)
theorem fn_1170 (P:Params):FnOk P (KK P) 1170 (fnI (sT 88) "_law_asks" [] none):=fnK (uf "_law_asks" "_law_asks" (sT 88) 3 .none (us "law_nu0297_01" 2073) (.ref 1169) 0) [] 3 0 (by kernel_rfl) (by kernel_rfl) (by kernel_rfl) (fun _ e=>nomatch e) (by kernel_rfl)
theorem fn_1177 (P:Params):FnOk P (KK P) 1177 (fnI (sT 89) "_law_rescued" [] none):=fnK (uf "_law_rescued" "_law_rescued" (sT 89) 3 .none (us "law_nu0297_01" 2073) (.ref 1176) 0) [] 4 0 (by kernel_rfl) (by kernel_rfl) (by kernel_rfl) (fun _ e=>nomatch e) (by kernel_rfl)
theorem fn_1184 (P:Params):FnOk P (KK P) 1184 (fnI (sT 90) "_law_tried" [] none):=fnK (uf "_law_tried" "_law_tried" (sT 90) 3 .none (us "law_nu0297_01" 2073) (.ref 1183) 0) [] 3 0 (by kernel_rfl) (by kernel_rfl) (by kernel_rfl) (fun _ e=>nomatch e) (by kernel_rfl)
theorem fn_1191 (P:Params):FnOk P (KK P) 1191 (fnI (sT 91) "_law_walk" [] none):=fnK (uf "_law_walk" "_law_walk" (sT 91) 3 .none (us "law_nu0297_01" 2073) (.ref 1190) 0) [] 3 0 (by kernel_rfl) (by kernel_rfl) (by kernel_rfl) (fun _ e=>nomatch e) (by kernel_rfl)
theorem fn_1198 (P:Params):FnOk P (KK P) 1198 (fnI (sT 92) "law" [] none):=fnK (uf "law" "law" (sT 92) 3 .none (us "law_nu0297_01" 2073) (.ref 1197) 0) [] 1 0 (by kernel_rfl) (by kernel_rfl) (by kernel_rfl) (fun _ e=>nomatch e) (by kernel_rfl)
theorem fn_all (P:Params):∀ p∈tFn,FnOk P (KK P) p.1 p.2:=by
  unfold tFn
  simp only [List.forall_mem_cons]
  exact ⟨fn_175 P,fn_205 P,fn_386 P,fn_412 P,fn_535 P,fn_557 P,fn_578 P,fn_585 P,fn_592 P,fn_600 P,fn_607 P,fn_614 P,fn_649 P,fn_656 P,fn_670 P,fn_677 P,fn_684 P,fn_691 P,fn_699 P,fn_713 P,fn_727 P,fn_734 P,fn_741 P,fn_748 P,fn_755 P,fn_762 P,fn_769 P,fn_776 P,fn_783 P,fn_790 P,fn_797 P,fn_804 P,fn_812 P,fn_819 P,fn_826 P,fn_868 P,fn_875 P,fn_889 P,fn_910 P,fn_915 P,fn_922 P,fn_1115 P,fn_1122 P,fn_1129 P,fn_1136 P,fn_1141 P,fn_1146 P,fn_1151 P,fn_1158 P,fn_1165 P,fn_1170 P,fn_1177 P,fn_1184 P,fn_1191 P,fn_1198 P,fun _ h=>nomatch h⟩
def tupB (xs:List TV):Obj→Bool
  | ⟨.type s,none,.seq vs _,sl⟩=>decide (s = "tuple")&&sl.isEmpty&&vrsB xs vs.toList
  | _=>false
def vrX (K:Frag):TV→Value→Bool
  | .type n,.type m=>decide (tyN n=m)
  | .bi n,.builtin m=>decide (biN n=m)
  | .tup xs,.ref a=>(match K.lookup a with
    | some o=>tupB xs o
    | none=>false)
  | t,v=>vr1B t v
theorem vrX_ok {P:Params}{K:Frag}{g:PH}{ρ:Rho}{t:TV}{v:Value}(hg:PH.le (kPH K) g) (h:vrX K t v=true):VR P g ρ t v:=by
  unfold vrX at h
  split at h
  · rw [← of_decide_eq_true h]; exact .type
  · rw [← of_decide_eq_true h]; exact .bi
  · split at h
    · rename_i o ho
      unfold tupB at h
      split at h
      · obtain ⟨h1,h2,h3⟩:=chk2 h
        rename_i s vs n sl
        have h1:=of_decide_eq_true h1
        have h2:sl = #[]:=by simpa using h2
        subst h1 h2
        exact .tup (hg _ _ ho) (vrsB_ok h3)
      · cases h
    · cases h
  · exact vr1B_ok h
theorem FR.ue {P:Params}{g:PH}{ρ:Rho}{x:String}{tk:Nat}{t:TV}{v:Value}{fs:List (Str×TV)}{es:List DictEntry}(h:VR P g ρ t v) (r:FR P g ρ fs es):FR P g ρ ((u x,t)::fs) (ue P x tk v::es):=.cons h r
def glB (K:Frag) (x:Str) (t:TV):Bool:=match nsIn K mainGlobals x with
  | some (some v)=>vrX K t v
  | some none=>(match nsIn K builtinsNs x with
    | some (some v)=>vrX K t v
    | _=>false)
  | none=>false
theorem ns_of {K:Frag}{h:Heap}{a:Addr}{m:Str→Option Value}(X:K.In h) (hn:h.Ns a m) {x:Str}{r:Option Value}(e:nsIn K a x=some r):m x=r:=by
  obtain ⟨o,es,ep,o1,o2,o3,o4⟩:=hn
  unfold nsIn at e
  split at e
  · rename_i c d es' n sl hl
    have:=X _ _ hl
    rw [o1] at this; cases this
    cases o2
    rw [← o4 x]
    unfold nsFind findBy
    rw [← Array.find?_toList]
    split at e
    · rename_i q hq
      cases e
      show Option.map _ (List.find? (fun e:DictEntry=>e.key.isStr x) es.toList)=_
      rw [hq]; rfl
    · rename_i hq
      split at e
      · cases e
      · cases e
        show Option.map _ (List.find? (fun e:DictEntry=>e.key.isStr x) es.toList)=_
        rw [hq]; rfl
  · cases e
theorem frZ {P:Params}{K:Frag}{g:PH}{ρ:Rho}(hg:PH.le (kPH K) g):∀ (l:List (String×Nat×TV×Value)),(l.all fun e=>vrX K e.2.2.1 e.2.2.2)=true→FR P g ρ (l.map fun e=>(u e.1,e.2.2.1)) (l.map fun e=>ue P e.1 e.2.1 e.2.2.2)
  | [],_=>.nil
  | e::l,h=>by
    have h:(vrX K e.2.2.1 e.2.2.2&&l.all fun e=>vrX K e.2.2.1 e.2.2.2)=true:=h
    rw [Bool.and_eq_true] at h
    exact FR.ue (vrX_ok hg h.1) (frZ hg l h.2)
def dr93:List (String×Nat×TV×Value):=[("nil",292,.raw 94,(.ref 94)),("true",294,.raw 95,(.ref 95)),("false",296,.raw 96,(.ref 96)),("self",298,.tup [],(.ref 97)),("retry",300,.tup [],(.ref 98)),("int",302,.tup [.str (u "value")],(.ref 99)),("sym",305,.tup [.str (u "name")],(.ref 100)),("str",308,.raw 101,(.ref 101)),("dstr",311,.raw 102,(.ref 102)),("array",314,.raw 103,(.ref 103)),("hash",317,.raw 104,(.ref 104)),("range",320,.raw 105,(.ref 105)),("splat",325,.raw 106,(.ref 106)),("lvar",328,.tup [.str (u "name")],(.ref 107)),("ivar",331,.tup [.str (u "name")],(.ref 108)),("gvar",334,.raw 109,(.ref 109)),("const",337,.tup [.str (u "scope"),.str (u "name")],(.ref 110)),("t_local",341,.raw 112,(.ref 112)),("t_ivar",344,.raw 113,(.ref 113)),("t_gvar",347,.tup [.str (u "name")],(.ref 114)),("t_const",350,.raw 115,(.ref 115)),("t_index",353,.raw 116,(.ref 116)),("t_attr",357,.raw 117,(.ref 117)),("t_splat",361,.raw 118,(.ref 118)),("t_group",364,.raw 119,(.ref 119)),("assign",367,.raw 120,(.ref 120)),("masgn",371,.raw 121,(.ref 121)),("opasgn",375,.raw 122,(.ref 122)),("call",380,.raw 123,(.ref 123)),("vcall",387,.raw 124,(.ref 124)),("block",390,.raw 125,(.ref 125)),("blockpass",394,.raw 126,(.ref 126)),("and",397,.raw 127,(.ref 127)),("or",401,.raw 128,(.ref 128)),("not",405,.raw 130,(.ref 130)),("super",408,.raw 131,(.ref 131)),("yield",412,.raw 132,(.ref 132)),("lambda",415,.raw 133,(.ref 133)),("defined",419,.raw 134,(.ref 134)),("seq",422,.tup [.str (u "items")],(.ref 135)),("if",425,.tup [.str (u "test"),.str (u "yes"),.str (u "no")],(.ref 136)),("while",430,.raw 137,(.ref 137)),("case",435,.raw 138,(.ref 138)),("casein",440,.raw 139,(.ref 139)),("matchp",445,.raw 140,(.ref 140)),("matchq",449,.raw 141,(.ref 141)),("begin",453,.tup [.str (u "body"),.str (u "rescues"),.str (u "other"),.str (u "ensure")],(.ref 142)),("break",459,.tup [.str (u "value")],(.ref 143)),("next",462,.tup [.str (u "value")],(.ref 144)),("return",465,.tup [.str (u "value")],(.ref 145)),("def",468,.raw 146,(.ref 146)),("class",474,.raw 148,(.ref 148)),("module",478,.raw 149,(.ref 149)),("sclass",481,.raw 150,(.ref 150)),("alias",484,.raw 151,(.ref 151)),("undef",487,.raw 152,(.ref 152)),("p_value",489,.raw 153,(.ref 153)),("p_bind",491,.raw 154,(.ref 154)),("p_pin",493,.raw 155,(.ref 155)),("p_alt",495,.raw 156,(.ref 156)),("p_as",497,.raw 157,(.ref 157)),("p_array",500,.raw 158,(.ref 158)),("p_hash",505,.raw 159,(.ref 159))]
def dr805:List (String×Nat×TV×Value):=[("body",1513,.raw 741,(.ref 741)),("class",1514,.raw 755,(.ref 755)),("asked",1515,.raw 769,(.ref 769)),("target",1516,.raw 776,(.ref 776)),("rescue",1517,.raw 790,(.ref 790)),("other",1518,.raw 797,(.ref 797)),("ensure",1519,.raw 804,(.ref 804))]
def dr842:List (String×Nat×TV×Value):=[("BasicObject",1581,.none,.none),("Object",1583,.str (u "BasicObject"),(us "BasicObject" 1584)),("Module",1586,.str (u "Object"),(us "Object" 1587)),("Class",1589,.str (u "Module"),(us "Module" 1590)),("Kernel",1592,.none,.none),("Comparable",1594,.none,.none),("Enumerable",1596,.none,.none),("NilClass",1598,.str (u "Object"),(us "Object" 1599)),("TrueClass",1601,.str (u "Object"),(us "Object" 1602)),("FalseClass",1604,.str (u "Object"),(us "Object" 1605)),("Numeric",1607,.str (u "Object"),(us "Object" 1608)),("Integer",1610,.str (u "Numeric"),(us "Numeric" 1611)),("String",1613,.str (u "Object"),(us "Object" 1614)),("Symbol",1616,.str (u "Object"),(us "Object" 1617)),("Array",1619,.str (u "Object"),(us "Object" 1620)),("Hash",1622,.str (u "Object"),(us "Object" 1623)),("Range",1625,.str (u "Object"),(us "Object" 1626)),("Proc",1628,.str (u "Object"),(us "Object" 1629)),("Fiber",1631,.str (u "Object"),(us "Object" 1632)),("Exception",1634,.str (u "Object"),(us "Object" 1635)),("ScriptError",1637,.str (u "Exception"),(us "Exception" 1638)),("NotImplementedError",1640,.str (u "ScriptError"),(us "ScriptError" 1641)),("SystemStackError",1643,.str (u "Exception"),(us "Exception" 1644)),("StandardError",1646,.str (u "Exception"),(us "Exception" 1647)),("ArgumentError",1649,.str (u "StandardError"),(us "StandardError" 1650)),("UncaughtThrowError",1652,.str (u "ArgumentError"),(us "ArgumentError" 1653)),("FiberError",1655,.str (u "StandardError"),(us "StandardError" 1656)),("IndexError",1658,.str (u "StandardError"),(us "StandardError" 1659)),("KeyError",1661,.str (u "IndexError"),(us "IndexError" 1662)),("StopIteration",1664,.str (u "IndexError"),(us "IndexError" 1665)),("LocalJumpError",1667,.str (u "StandardError"),(us "StandardError" 1668)),("NameError",1670,.str (u "StandardError"),(us "StandardError" 1671)),("NoMethodError",1673,.str (u "NameError"),(us "NameError" 1674)),("NoMatchingPatternError",1676,.str (u "StandardError"),(us "StandardError" 1677)),("NoMatchingPatternKeyError",1679,.str (u "NoMatchingPatternError"),(us "NoMatchingPatternError" 1680)),("RangeError",1681,.str (u "StandardError"),(us "StandardError" 1682)),("RuntimeError",1683,.str (u "StandardError"),(us "StandardError" 1684)),("FrozenError",1685,.str (u "RuntimeError"),(us "RuntimeError" 1686)),("TypeError",1687,.str (u "StandardError"),(us "StandardError" 1688)),("ZeroDivisionError",1689,.str (u "StandardError"),(us "StandardError" 1690))]
def dr845:List (String×Nat×TV×Value):=[("Object",1698,.tup [.str (u "Kernel")],(.ref 846)),("Numeric",1700,.raw 847,(.ref 847)),("String",1702,.raw 848,(.ref 848)),("Symbol",1704,.raw 849,(.ref 849)),("Array",1706,.raw 850,(.ref 850)),("Hash",1708,.raw 851,(.ref 851)),("Range",1710,.raw 852,(.ref 852))]
theorem ro_of {P:Params}(a n:Nat) (d:List (String×Nat×TV×Value)) (lk:(KK P).lookup a=some (dictOf (d.map fun e=>ue P e.1 e.2.1 e.2.2.2) n)) (h:(d.all fun e=>vrX (KK P) e.2.2.1 e.2.2.2)=true):∃ es n,(KK P).lookup a=some (dictOf es n) ∧ ∀ g ρ,PH.le (kPH (KK P)) g→FR P g ρ (d.map fun e=>(u e.1,e.2.2.1)) es:=⟨_,n,lk,fun _ _ hg=>frZ hg d h⟩
theorem cl_208 (P:Params):clOk (KK P) 208 (u "__init__") 205=true:=by kernel_rfl
theorem kp_all (P:Params):tKp.all (fun a=>keepIn (KK P) (.ref a))=true:=by kernel_rfl
theorem gl_all (P:Params):tGl.all (fun p=>glB (KK P) p.1 p.2)=true:=by kernel_rfl
theorem ab_al (P:Params):tAb.all (fun p=>p.2.all fun x=>abOk (KK P) p.1 x)=true:=by kernel_rfl
theorem me_al (P:Params):tMe.all (fun p=>p.2.all fun x=>meOk (KK P) p.1 x.1 x.2)=true:=by kernel_rfl
theorem mm_al (P:Params):tMm.all (fun p=>mkOk (KK P) p.1 p.2)=true:=by kernel_rfl
theorem ab_all (P:Params):∀ p∈tAb,∀ x∈p.2,abOk (KK P) p.1 x=true:=fun p h x hx=>List.all_eq_true.mp (List.all_eq_true.mp (ab_al P) p h) x hx
theorem me_all (P:Params):∀ p∈tMe,∀ x∈p.2,meOk (KK P) p.1 x.1 x.2=true:=fun p h x hx=>List.all_eq_true.mp (List.all_eq_true.mp (me_al P) p h) x hx
theorem mm_all (P:Params):∀ p∈tMm,mkOk (KK P) p.1 p.2=true:=fun p h=>List.all_eq_true.mp (mm_al P) p h
theorem ro_all (P:Params):∀ p∈tRo,∃ es n,(KK P).lookup p.1=some (dictOf es n) ∧ ∀ g ρ,PH.le (kPH (KK P)) g→FR P g ρ p.2 es:=by
  unfold tRo
  refine List.forall_mem_cons.mpr ⟨ro_of 93 63 dr93 (by kernel_rfl) (by kernel_rfl),?_⟩
  refine List.forall_mem_cons.mpr ⟨ro_of 805 7 dr805 (by kernel_rfl) (by kernel_rfl),?_⟩
  refine List.forall_mem_cons.mpr ⟨ro_of 842 40 dr842 (by kernel_rfl) (by kernel_rfl),?_⟩
  refine List.forall_mem_cons.mpr ⟨ro_of 845 7 dr845 (by kernel_rfl) (by kernel_rfl),?_⟩
  intro p hp; cases hp
theorem lkF_mem {α:Type}{x:Str}{a:α}:∀ {l:List (Str×α)},lkF l x=some a→(x,a)∈l
  | [],h=>nomatch (show (none:Option α)=some a from h)
  | p::l,h=>by
    rw [lkF_cons] at h
    by_cases q:p.1=x
    · rw [if_pos q] at h; obtain ⟨y,b⟩:=p; cases q; cases h; exact .head _
    · rw [if_neg q] at h; exact .tail _ (lkF_mem h)
theorem tab_ok {P:Params}{h:Heap}{mg mb:Str→Option Value}(X:(KK P).In h) (hg:h.Ns mainGlobals mg) (hb:h.Ns builtinsNs mb):TabOk P (KK P) theTab mg mb where
  gl:=fun x t e=>by
    have q:=List.all_eq_true.mp (gl_all P) _ (lkF_mem e)
    unfold glB at q
    dsimp only at q
    split at q
    · rename_i v hv
      exact ⟨v,fun g ρ hg=>vrX_ok hg q,.inl (ns_of X hg hv)⟩
    · rename_i hv
      split at q
      · rename_i v hv'
        exact ⟨v,fun g ρ hg=>vrX_ok hg q,.inr ⟨ns_of X hg hv,ns_of X hb hv'⟩⟩
      · cases q
    · cases q
  me:=fun C l e x f e'=>me_all P _ (lkC_mem e) _ (lkF_mem e')
  ab:=fun C l e x hx=>ab_all P _ (lkC_mem e) x hx
  cl:=fun C l e x f e'=>by
    have h1:=lkC_mem e
    have h2:(C,l)=(208,[(u "__init__",205)]):=by simpa [theTab,tCl] using h1
    cases h2
    have h3:=lkF_mem e'
    have h4:(x,f)=(u "__init__",205):=by simpa using h3
    cases h4
    exact cl_208 P
  mm:=fun C f e=>mm_all P _ (lkC_mem e)
  ro:=fun a l e=>ro_all P _ (lkC_mem e)
  kp:=fun a e=>List.all_eq_true.mp (kp_all P) _ (hasI_mem e)
  fn:=fun a i e=>fn_all P _ (lkC_mem e)
def kd (i:Nat):Stmt:=nthS (stBody (sT 87)) i
def cloS (st:Stmt) (n:String):CloI:=⟨u n,u ("_law_kinds.<locals>." ++ n),stParams st,.stmts (stBody st),stScope st,(stParams st).args.map (·.arg)⟩
def lamOf:Stmt→Expr
  | .Assign _ (.Dict _ (x::_) _) _=>x
  | _=>default
def cloL:Expr→CloI
  | .Lambda a b s _=>⟨u "<lambda>",u "_law_kinds.<locals>.<lambda>",a,.expr b,s,a.args.map (·.arg)⟩
  | _=>⟨u "",u "",default,.stmts [],⟨.function,[],false,false,[]⟩,[]⟩
def clo:Nat→CloI
  | 0=>cloS (kd 0) "mark"
  | 1=>cloS (kd 1) "toss"
  | 2=>cloS (kd 2) "last"
  | 3=>cloS (kd 3) "fewer"
  | 4=>cloS (kd 4) "any_error"
  | 5=>cloS (kd 5) "asked"
  | 6=>cloS (kd 6) "settle"
  | _=>cloL (lamOf (kd 7))
def ci0:CodeI:=⟨1164,1160⟩
def evo (orc:Orc) (n:Nat):Evs:=evs theTab clo orc (xtF clo ci0) (xsF clo ci0) n
def okKinds:List Str:=[u "begin",u "seq",u "break",u "return"]
def tfs (kind:Str) (node state held:TV):List (Str×TV):=[(u "kind",.str kind),(u "node",node),(u "env",.none),(u "number",.none),(u "state",state),(u "held",held),(u "kept",.none)]
def OverOk (cells:List Ent) (rev:List TV):Prop:=∀ t∈rev,∃ i kd nd st hd,t = .ref i∧(i,Cell.inst 560 (tfs kd nd st hd))∈cells∧kd∈okKinds
def isTask:List (Str×TV)→Bool
  | [(a,.str kd),(b,_),(c,.none),(d,.none),(e,_),(f,_),(g,.none)]=>sq a (u "kind")&&sq b (u "node")&&sq c (u "env")&&sq d (u "number")&&sq e (u "state")&&sq f (u "held")&&sq g (u "kept")&&hasN okKinds kd
  | _=>false
def hidF (l:List Ent):List Ent:=@List.rec Ent (fun _=>List Ent) [] (fun p _ ih=>@Bool.rec (fun _=>List Ent) ih (p::ih) (Nat.ble 2000 p.1&&Nat.ble p.1 999999)) l
def headOk (cells:List Ent):TV→Bool
  | .ref i=>(match lkC cells i with
    | some (.inst C fs)=>Nat.beq C 560&&isTask fs
    | _=>false)
  | _=>false
def isWkr:List (Str×TV)→Option TV
  | [(a,_),(b,_),(c,_),(d,t),(e,_),(f,_)]=>cond (sq a (u "world")&&sq b (u "table")&&sq c (u "catches")&&sq d (u "stack")&&sq e (u "way")&&sq f (u "fiber")) (some t) none
  | _=>none
def overM (_d:Nat) (args:List TV):M TV:=match args with
  | [.ref wi,.str k]=>chk (sq k (u "break")||sq k (u "return")) ((getC wi).bd fun c=>match c with
    | .inst C fs=>chk (Nat.beq C 659) ((orFail (isWkr fs)).bd fun t=>match t with
      | .ref si=>(getC si).bd fun c=>match c with
        | .stk (t::rev)=>chk (Nat.ble 4 _d) (fun σ=>(chk (headOk σ.cells t) fun σ=>some (.bool false,σ,[OverOk (hidF σ.cells) rev])) σ)
        | _=>.fail
      | _=>.fail)
    | _=>.fail)
  | _=>.fail
def orcM:Orc:=[(819,overM)]
def ev (n:Nat):Evs:=evo orcM n
def wfs (x:Nat→TV) (tk:Int):List (Str×TV):=[(u "natives",x 0),(u "prelude",x 1),(u "read",x 2),(u "most",.int 20000),(u "taken",.sint tk),(u "last_number",x 3),(u "last_ident",x 4),(u "symbol_idents",x 5),(u "made",x 6),(u "version",x 7),(u "const_version",x 8),(u "globals",.ref 3),(u "out",x 9),(u "is_ready",x 10),(u "main",x 11)]
def kinds:List (Str×TV):=[(u "begin",.ref 21),(u "retry",.raw 826),(u "break",.raw 812),(u "next",.raw 812),(u "return",.raw 812),(u "seq",.raw 684),(u "if",.raw 691),(u "int",.raw 670),(u "values",.raw 677),(u "sym",.ref 22),(u "ivar",.ref 23),(u "self",.ref 24),(u "lvar",.ref 25),(u "const",.ref 26),(u "sending",.ref 27),(u "settle",.ref 28)]
structure MS where
  tr:List TV
  cN:Nat
  ct:Int→Option Int
  gN:Nat
  la:TV
  lb:Bool
  er:TV
  eb:Bool
  tk:Nat
def fixedC (x:Nat→TV) (m:MS) (way:TV) (stack:List TV):List Ent :=
  [(1,.stk m.tr),(2,.dic m.cN m.ct []),(3,.dic m.gN (fun _=>none) [(u "$!",m.la,m.lb),(u "$e",m.er,m.eb)]),(4,.inst 1106 (wfs x (m.tk:Int))),
   (5,.inst 659 [(u "world",.ref 4),(u "table",.ref 7),(u "catches",.tup [.str (u "begin")]),(u "stack",.ref 6),(u "way",way),(u "fiber",.none)]),(6,.stk stack),(7,.sdic kinds),(8,.ns [(u "self",.ref 5)]),
   (21,.clo 7 []),(22,.clo 0 [(u "trace",29)]),(23,.clo 1 []),(24,.clo 2 [(u "trace",29)]),(25,.clo 3 [(u "counts",30)]),(26,.clo 4 []),(27,.clo 5 [(u "trace",29)]),(28,.clo 6 []),(29,.cel (some (.ref 1))),(30,.cel (some (.ref 2)))]
def taskF (kind:String) (node:TV) (state held:TV):Cell:=.inst 560 [(u "kind",.str (u kind)),(u "node",node),(u "env",.none),(u "number",.none),(u "state",state),(u "held",held),(u "kept",.none)]
def nodeT (kind:String) (parts:List TV):TV:=.ins 185 [(u "kind",.str (u kind)),(u "parts",.tup parts),(u "line",.int 0),(u "own",.none)]
def wayT (sort:String) (v:TV):TV:=.ins 538 [(u "sort",.str (u sort)),(u "value",v),(u "tag",.none)]
def rae:AE:=⟨stScope (sM 43 11),8,[],none⟩
def loopOf:Stmt→Expr×List Stmt
  | .While t b _ _=>(t,b)
  | _=>(default,[])
def runLoop:Expr×List Stmt:=loopOf (nthS (stBody (sM 43 11)) 0)
def stepM (n d:Nat):M FL:=((ev n).tr d rae runLoop.1).bd fun b=>ifB b ((ev n).ss d rae runLoop.2) .fail
def cloB (i:CloI):Bool:=isFnK i.scope.kind && !i.scope.isCoroutine && !i.scope.isGenerator&&namesOk i.scope.names i.scope.names&&i.nm.all (isLoc i.scope.names)
theorem cloOk_of {i:CloI}(h:cloB i=true) (hl:Nat.beq i.nm.length 3=true) (hb:∀ (name qualname:Str) (body:FuncBody) (scope:Scope) (globals:Addr) (closure:List (Str×Addr)) (kwdefaults doc pyModule:Value) (annotations:Option Addr) (code closureTuple:Value) (builtins:Addr) (K:Frag) S (a b c:Value),
    peek K S (bindArgs ⟨name,qualname,i.params,body,scope,globals,closure,.none,kwdefaults,doc,pyModule,annotations,code,closureTuple,builtins⟩ ⟨[a,b,c],[]⟩)=some (i.nm.zip [a,b,c])):CloOk i:=by
  unfold cloB at h
  simp only [Bool.and_eq_true,Bool.not_eq_true'] at h
  obtain ⟨⟨⟨⟨h1,h2⟩,h3⟩,h4⟩,h5⟩:=h
  refine ⟨?_,h2,h3,namesOk_cell h4,fun x hx=>isLoc_iff.mp (List.all_eq_true.mp h5 x hx),fun fd e1 e2 vs hv K S => ?_⟩
  · cases q:i.scope.kind<;>rw [q] at h1<;>first | rfl | cases h1
  · rw [Nat.eq_of_beq_eq_true hl] at hv
    rcases vs with _ | ⟨a,_ | ⟨b,_ | ⟨c,_ | ⟨d,r⟩⟩⟩⟩<;>simp at hv
    obtain ⟨name,qualname,params,body,scope,globals,closure,defaults,kwdefaults,doc,pyModule,annotations,code,closureTuple,builtins⟩:=fd
    dsimp only at e1 e2
    subst e1 e2
    exact hb _ _ _ _ _ _ _ _ _ _ _ _ _ K S a b c
theorem clo_0:CloOk (clo 0):=cloOk_of (by kernel_rfl) (by kernel_rfl) (by intros; kernel_rfl)
theorem clo_1:CloOk (clo 1):=cloOk_of (by kernel_rfl) (by kernel_rfl) (by intros; kernel_rfl)
theorem clo_2:CloOk (clo 2):=cloOk_of (by kernel_rfl) (by kernel_rfl) (by intros; kernel_rfl)
theorem clo_3:CloOk (clo 3):=cloOk_of (by kernel_rfl) (by kernel_rfl) (by intros; kernel_rfl)
theorem clo_4:CloOk (clo 4):=cloOk_of (by kernel_rfl) (by kernel_rfl) (by intros; kernel_rfl)
theorem clo_5:CloOk (clo 5):=cloOk_of (by kernel_rfl) (by kernel_rfl) (by intros; kernel_rfl)
theorem clo_6:CloOk (clo 6):=cloOk_of (by kernel_rfl) (by kernel_rfl) (by intros; kernel_rfl)
theorem clo_7:CloOk (cloL (lamOf (kd 7))):=cloOk_of (by kernel_rfl) (by kernel_rfl) (by intros; kernel_rfl)
theorem clo_all:∀ k,CloOk (clo k)
  | 0=>clo_0
  | 1=>clo_1
  | 2=>clo_2
  | 3=>clo_3
  | 4=>clo_4
  | 5=>clo_5
  | 6=>clo_6
  | _+7=>clo_7
section
mutual
def renT (φ:Nat→Nat):TV→TV
  | .ref i=>.ref (φ i)
  | .tup xs=>.tup (renTs φ xs)
  | .lst xs=>.lst (renTs φ xs)
  | .ins C fs=>.ins C (renFs φ fs)
  | t=>t
def renTs (φ:Nat→Nat):List TV→List TV
  | []=>[]
  | x::xs=>renT φ x::renTs φ xs
def renFs (φ:Nat→Nat):List (Str×TV)→List (Str×TV)
  | []=>[]
  | (n,x)::xs=>(n,renT φ x)::renFs φ xs
end
mutual
def alT (p:Nat→Prop):TV→Prop
  | .ref i=>p i
  | .tup xs=>alTs p xs
  | .lst xs=>alTs p xs
  | .ins _ fs=>alFs p fs
  | _=>True
def alTs (p:Nat→Prop):List TV→Prop
  | []=>True
  | x::xs=>alT p x∧alTs p xs
def alFs (p:Nat→Prop):List (Str×TV)→Prop
  | []=>True
  | (_,x)::xs=>alT p x∧alFs p xs
end
mutual
theorem alT.imp {p q:Nat→Prop}(h:∀ i,p i→q i):∀ {t:TV},alT p t→alT q t
  | .ref i,x=>h i x
  | .tup xs,x=>alTs.imp h (t:=xs) x
  | .lst xs,x=>alTs.imp h (t:=xs) x
  | .ins _ fs,x=>alFs.imp h (t:=fs) x
  | .none,_=>trivial
  | .bool _,_=>trivial
  | .sym _,_=>trivial
  | .int _,_=>trivial
  | .sint _,_=>trivial
  | .str _,_=>trivial
  | .type _,_=>trivial
  | .bi _,_=>trivial
  | .raw _,_=>trivial
theorem alTs.imp {p q:Nat→Prop}(h:∀ i,p i→q i):∀ {t:List TV},alTs p t→alTs q t
  | [],_=>trivial
  | x::xs,y=>⟨alT.imp h y.1,alTs.imp h y.2⟩
theorem alFs.imp {p q:Nat→Prop}(h:∀ i,p i→q i):∀ {t:List (Str×TV)},alFs p t→alFs q t
  | [],_=>trivial
  | (_,x)::xs,y=>⟨alT.imp h y.1,alFs.imp h y.2⟩
end
mutual
theorem renT_id {φ:Nat→Nat}:∀ {t:TV},alT (fun i=>φ i=i) t→renT φ t=t
  | .ref i,x=>congrArg TV.ref x
  | .tup xs,x=>congrArg TV.tup (renTs_id (t:=xs) x)
  | .lst xs,x=>congrArg TV.lst (renTs_id (t:=xs) x)
  | .ins C fs,x=>congrArg (TV.ins C) (renFs_id (t:=fs) x)
  | .none,_=>rfl
  | .bool _,_=>rfl
  | .sym _,_=>rfl
  | .int _,_=>rfl
  | .sint _,_=>rfl
  | .str _,_=>rfl
  | .type _,_=>rfl
  | .bi _,_=>rfl
  | .raw _,_=>rfl
theorem renTs_id {φ:Nat→Nat}:∀ {t:List TV},alTs (fun i=>φ i=i) t→renTs φ t=t
  | [],_=>rfl
  | x::xs,y=>by rw [renTs,renT_id y.1,renTs_id y.2]
theorem renFs_id {φ:Nat→Nat}:∀ {t:List (Str×TV)},alFs (fun i=>φ i=i) t→renFs φ t=t
  | [],_=>rfl
  | (n,x)::xs,y=>by rw [renFs,renT_id y.1,renFs_id y.2]
end
theorem alTs_mem {p:Nat→Prop}:∀ {xs:List TV},alTs p xs ↔ ∀ x∈xs,alT p x
  | []=>by simp [alTs]
  | x::xs=>by simp [alTs,alTs_mem (xs:=xs)]
theorem alFs_mem {p:Nat→Prop}:∀ {xs:List (Str×TV)},alFs p xs ↔ ∀ x∈xs,alT p x.2
  | []=>by simp [alFs]
  | (n,x)::xs=>by simp [alFs,alFs_mem (xs:=xs)]
theorem renTs_map {φ:Nat→Nat}:∀ (xs:List TV),renTs φ xs=xs.map (renT φ)
  | []=>rfl
  | x::xs=>by rw [renTs,renTs_map xs]; rfl
theorem renFs_map {φ:Nat→Nat}:∀ (xs:List (Str×TV)),renFs φ xs=xs.map fun p=>(p.1,renT φ p.2)
  | []=>rfl
  | (n,x)::xs=>by rw [renFs,renFs_map xs]; rfl
theorem renTs_reverse {φ:Nat→Nat}(xs:List TV):(renTs φ xs).reverse=renTs φ xs.reverse:=by rw [renTs_map,renTs_map,List.map_reverse]
theorem lkF_ren {φ:Nat→Nat}{x:Str}:∀ (l:List (Str×TV)),lkF (renFs φ l) x=(lkF l x).map (renT φ)
  | []=>rfl
  | (n,t)::l=>by
    rw [renFs,lkF_cons,lkF_cons]
    by_cases h:n=x
    · rw [if_pos h,if_pos h]; rfl
    · rw [if_neg (by exact h),if_neg (by exact h)]; exact lkF_ren l
def renC (φ:Nat→Nat):Cell→Cell
  | .inst C fs=>.inst C (renFs φ fs)
  | .lst xs=>.lst (renTs φ xs)
  | .stk xs=>.stk (renTs φ xs)
  | .ns fs=>.ns (renFs φ fs)
  | .sdic fs=>.sdic (renFs φ fs)
  | .dic N g es=>.dic N g (es.map fun p=>(p.1,renT φ p.2.1,p.2.2))
  | .cel v=>.cel (v.map (renT φ))
  | .itr b t i=>.itr b (renT φ t) i
  | .clo k cs=>.clo k (cs.map fun p=>(p.1,φ p.2))
  | c=>c
def alC (p:Nat→Prop):Cell→Prop
  | .inst _ fs=>alFs p fs
  | .lst xs=>alTs p xs
  | .stk xs=>alTs p xs
  | .ns fs=>alFs p fs
  | .sdic fs=>alFs p fs
  | .dic _ _ es=>∀ q∈es,alT p q.2.1
  | .cel none=>True
  | .cel (some t)=>alT p t
  | .itr _ src _=>alT p src
  | .clo _ cs=>∀ q∈cs,p q.2
  | _=>True
def renE (φ:Nat→Nat) (e:Ent):Ent:=(φ e.1,renC φ e.2)
def alE (p:Nat→Prop) (e:Ent):Prop:=p e.1∧alC p e.2
theorem alC.imp {p q:Nat→Prop}(h:∀ i,p i→q i):∀ {c:Cell},alC p c→alC q c
  | .inst _ _,x=>alFs.imp h x
  | .lst _,x=>alTs.imp h x
  | .stk _,x=>alTs.imp h x
  | .ns _,x=>alFs.imp h x
  | .sdic _,x=>alFs.imp h x
  | .dic ..,x=>fun e he=>alT.imp h (x e he)
  | .cel none,_=>trivial
  | .cel (some _),x=>alT.imp h x
  | .itr ..,x=>alT.imp h x
  | .rng _,_=>trivial
  | .rit ..,_=>trivial
  | .clo ..,x=>fun e he=>h _ (x e he)
  | .tbl ..,_=>trivial
theorem renC_id {φ:Nat→Nat}:∀ {c:Cell},alC (fun i=>φ i=i) c→renC φ c=c
  | .inst _ _,x=>congrArg _ (renFs_id x)
  | .lst _,x=>congrArg _ (renTs_id x)
  | .stk _,x=>congrArg _ (renTs_id x)
  | .ns _,x=>congrArg _ (renFs_id x)
  | .sdic _,x=>congrArg _ (renFs_id x)
  | .dic N g es,x=>congrArg (Cell.dic N g) (by
    conv=>rhs; rw [← List.map_id es]
    exact List.map_congr_left fun p hp=>by rw [renT_id (x p hp)]; rfl)
  | .cel none,_=>rfl
  | .cel (some _),x=>congrArg (fun t=>Cell.cel (some t)) (renT_id x)
  | .itr ..,x=>by rw [renC,renT_id x]
  | .rng _,_=>rfl
  | .rit ..,_=>rfl
  | .clo k cs,x=>congrArg (Cell.clo k) (by
    conv=>rhs; rw [← List.map_id cs]
    exact List.map_congr_left fun p hp=>by rw [show φ p.2=p.2 from x p hp]; rfl)
  | .tbl ..,_=>rfl
theorem renE_id {φ:Nat→Nat}{e:Ent}(h:alE (fun i=>φ i=i) e):renE φ e=e:=by
  obtain ⟨i,c⟩:=e
  show (φ i,renC φ c)=_
  rw [show φ i=i from h.1,renC_id h.2]
theorem renL_id {φ:Nat→Nat}{l:List Ent}(h:∀ e∈l,alE (fun i=>φ i=i) e):l.map (renE φ)=l:=by
  conv=>rhs; rw [← List.map_id l]
  exact List.map_congr_left fun e he=>renE_id (h e he)
theorem two_ren {φ:Nat→Nat}(c:Cell):(renC φ c).two=c.two:=by cases c<;>rfl
section
variable {P:Params}{g:PH}{ρ ρ':Rho}{φ:Nat→Nat}{p:Nat→Prop}
def onR (φ:Nat→Nat) (p:Nat→Prop) (ρ ρ':Rho):Prop:=∀ i,p i→∀ q,ρ i=some q→ρ' (φ i)=some q
mutual
theorem VR.ren (h:onR φ p ρ ρ'):∀ {t:TV}{v:Value},VR P g ρ t v→alT p t→VR P g ρ' (renT φ t) v
  | _,_,.none,_=>.none
  | _,_,.bool,_=>.bool
  | _,_,.sym,_=>.sym
  | _,_,.int,_=>.int
  | _,_,.sint,_=>.sint
  | _,_,.str,_=>.str
  | _,_,.type,_=>.type
  | _,_,.bi,_=>.bi
  | _,_,.raw,_=>.raw
  | _,_,.ref e,c=>.ref (h _ c _ e)
  | _,_,.tup e x,c=>.tup e (x.ren h c)
  | _,_,.lst e x,c=>.lst e (x.ren h c)
  | _,_,.ins e e' x,c=>.ins e e' (x.ren h c)
theorem VRs.ren (h:onR φ p ρ ρ'):∀ {t:List TV}{v:List Value},VRs P g ρ t v→alTs p t→VRs P g ρ' (renTs φ t) v
  | _,_,.nil,_=>.nil
  | _,_,.cons x y,c=>.cons (x.ren h c.1) (y.ren h c.2)
theorem FR.ren (h:onR φ p ρ ρ'):∀ {t:List (Str×TV)}{v:List DictEntry},FR P g ρ t v→alFs p t→FR P g ρ' (renFs φ t) v
  | _,_,.nil,_=>.nil
  | _,_,.cons x y,c=>.cons (x.ren h c.1) (y.ren h c.2)
end
theorem FS.ren (h:onR φ p ρ ρ') {fs:List (Str×TV)}{es:List (Key×Value)}(x:FS P g ρ fs es) (c:alFs p fs):FS P g ρ' (renFs φ fs) es:=by
  induction es generalizing fs with
  | nil=>cases x; exact .nil
  | cons e es ih=>cases x with | cons a r=>exact .cons (a.ren h c.1) (ih r c.2)
theorem OptR.ren (h:onR φ p ρ ρ') {t:Option TV}{v:Option Value}(x:OptR P g ρ t v) (c:∀ u,t=some u→alT p u):OptR P g ρ' (t.map (renT φ)) v:=by
  cases t with
  | none=>exact x
  | some t=>obtain ⟨y,e,r⟩:=x; exact ⟨y,e,r.ren h (c _ rfl)⟩
theorem ClR.ren (h:onR φ p ρ ρ') {cs:List (Str×Nat)}{cl:List (Str×Addr)}(x:ClR ρ cs cl) (c:∀ q∈cs,p q.2):ClR ρ' (cs.map fun q=>(q.1,φ q.2)) cl:=by
  induction x with
  | nil=>exact .nil
  | cons e _ ih=>exact .cons (h _ (c _ (.head _)) _ e) (ih fun q hq=>c q (.tail _ hq))
theorem alFs_look {xs:List (Str×TV)}(h:alFs p xs) {x:Str}{t:TV}(e:lkF xs x=some t):alT p t:=by
  induction xs with
  | nil=>cases e
  | cons q r ih =>
    obtain ⟨n,y⟩:=q
    rw [lkF_cons] at e
    by_cases q:n=x
    · rw [if_pos q] at e; cases e; exact h.1
    · rw [if_neg (by exact q)] at e; exact ih h.2 e
theorem lkF_dmap {x:Str}:∀ (l:List (Str×TV×Bool)),lkF (l.map fun q=>(q.1,renT φ q.2.1,q.2.2)) x=(lkF l x).map fun q=>(renT φ q.1,q.2)
  | []=>rfl
  | (n,t)::l=>by
    rw [List.map_cons,lkF_cons,lkF_cons]
    by_cases h:n=x
    · rw [if_pos h,if_pos h]; rfl
    · rw [if_neg (by exact h),if_neg (by exact h)]; exact lkF_dmap l
end
section
variable {prog:Program}{w:World}{cloT:Nat→CloI}{hb:HB}{g f g' f':PH}{ρ ρ':Rho}{φ:Nat→Nat}{p:Nat→Prop}{h:Heap}{l l':List Ent}
theorem CellOb.ren (hs:onR φ p ρ ρ') {a d:Nat}{oa od:Option Obj}:∀ {c:Cell},CellOb prog w cloT g ρ a d oa od c→alC p c→CellOb prog w cloT g ρ' a d oa od (renC φ c)
  | .inst C fs,⟨a,es,n,b,c,z⟩,k=>⟨a,es,n,b,c.ren hs k,z⟩
  | .lst xs,⟨vs,n,a,b,c⟩,k=>⟨vs,n,a,b.ren hs k,c⟩
  | .stk xs,⟨vs,n,a,b,c⟩,k=>⟨vs,n,a,by rw [renTs_reverse]; exact b.ren hs (alTs_mem.mpr fun x hx=>alTs_mem.mp k x (List.mem_reverse.mp hx)),c⟩
  | .ns loc,⟨o,es,ep,a,b,c,d⟩,k=>⟨o,es,ep,a,b,c,fun x=>by rw [lkF_ren]; exact (d x).ren hs fun u e=>alFs_look k e⟩
  | .sdic fs,⟨o,es,a,b,c,z⟩,k=>⟨o,es,a,b,c.ren hs k,z⟩
  | .dic N gi es,⟨ds,ep,a,kk,b,c,z⟩,k=>⟨ds,ep,a,kk,b,fun x=>by
      have:=c x
      rw [lkF_dmap]
      cases e:lkF es x with
      | none=>trivial
      | some q =>
        obtain ⟨t,b⟩:=q
        rw [e] at this
        refine this.imp (fun ⟨y,q,r⟩=>⟨y,q,r.ren hs (k _ (lkF_mem e))⟩) fun ⟨a,b,c⟩=>⟨a,by subst b; rfl,c⟩,z⟩
  | .cel none,⟨o,v',a,e,b⟩,_=>⟨o,v',a,e,b⟩
  | .cel (some t),⟨o,v',a,e,b⟩,k=>⟨o,v',a,e,OptR.ren (t:=some t) hs b fun u q=>by cases q; exact k⟩
  | .itr _ _ _,⟨a,o,x,y,z,u⟩,k=>⟨a,o,x,y,z,u.ren hs k⟩
  | .rng _,x,_=>x
  | .rit ..,x,_=>x
  | .clo k cs,⟨fd,a,b1,b2,b3,b4,b5,b6,b7,b8,b9⟩,c=>⟨fd,a,b1,b2,b3,b4,b5,b6,b7,b8.ren hs c,b9⟩
  | .tbl ..,x,_=>x
theorem Rel.ren (R:Rel prog w cloT g f h ρ l) (hs:onR φ p ρ ρ') (hl:∀ e∈l,alE p e):Rel prog w cloT g f h ρ' (l.map (renE φ)):=by
  have hadr:∀ l0:List Ent,(∀ e∈l0,e∈l)→adrs ρ' (l0.map (renE φ))=adrs ρ l0:=by
    intro l0 hm
    induction l0 with
    | nil=>rfl
    | cons e r ih =>
      rw [List.map_cons,adrs_cons,adrs_cons,ih fun q hq=>hm q (.tail _ hq)]
      obtain ⟨a,d,e1,_⟩:=R.at_ e.1 e.2 (hm e (.head _))
      have e2:ρ' (φ e.1)=some (a,d):=hs _ (hl e (hm e (.head _))).1 _ e1
      congr 1
      unfold adr renE
      dsimp only
      rw [e1,e2,two_ren]
  have hA:=hadr l fun _ h=>h
  refine ⟨R.gf,R.keep,fun i c hm => ?_,by rw [hA]; exact R.fresh,by rw [hA]; exact R.nd⟩
  obtain ⟨e,he,q⟩:=List.mem_map.mp hm
  obtain ⟨j,c0⟩:=e
  cases q
  obtain ⟨a,d,e1,z⟩:=R.at_ j c0 he
  exact ⟨a,d,hs _ (hl _ he).1 _ e1,CellOb.ren hs z (hl _ he).2⟩
theorem Rel.wk (R:Rel prog w cloT g f h ρ l) {i:Nat}{c c':Cell}(hc:lkC l i=some c) (ht:c'.two=c.two) (hw:∀ a d oa od,CellOb prog w cloT g ρ a d oa od c→CellOb prog w cloT g ρ a d oa od c'):Rel prog w cloT g f h ρ (puC l i c'):=by
  obtain ⟨a,d,hi,z⟩:=R.at_ _ _ (lkC_mem hc)
  exact R.put hc hi ht (.inl rfl) (fun _ _ _ e=>e) (hw _ _ _ _ z)
end
def turn (al:List (Nat×Nat)) (i:Nat):Nat:=(lkC al i).getD i
def back (al:List (Nat×Nat)):List (Nat×Nat):=al.map fun p=>(p.2,p.1)
def goodI (al:List (Nat×Nat)) (i:Nat):Prop:=i∈al.map (·.1)∨(i∉al.map (·.1)∧i∉al.map (·.2))
theorem lkC_none {α:Type}{i:Nat}:∀ {l:List (Nat×α)},i∉l.map (·.1)→lkC l i=none
  | [],_=>rfl
  | p::l,h=>by
    rw [lkC_cons,if_neg fun e=>h (by rw [← e]; exact .head _)]
    exact lkC_none fun q=>h (.tail _ q)
theorem lkC_of_mem {α:Type}{i:Nat}{a:α}:∀ {l:List (Nat×α)},(l.map (·.1)).Nodup→(i,a)∈l→lkC l i=some a
  | p::l,hn,hm=>by
    obtain ⟨h1,h2⟩:=List.nodup_cons.mp (show (p.1::l.map (·.1)).Nodup from hn)
    rcases List.mem_cons.mp hm with q | hm
    · subst q; exact lkC_head
    · rw [lkC_cons,if_neg]
      · exact lkC_of_mem h2 hm
      · intro e
        exact h1 (by rw [e]; exact List.mem_map_of_mem (f:=(·.1)) hm)
theorem turn_back {al:List (Nat×Nat)}(hv:(al.map (·.2)).Nodup) {i:Nat}(h:goodI al i):turn (back al) (turn al i)=i:=by
  have hb:(back al).map (·.1)=al.map (·.2):=by unfold back; rw [List.map_map]; rfl
  rcases h with h | ⟨h,h'⟩
  · obtain ⟨p,hp,e⟩:=List.mem_map.mp h
    have hsome:∃ b,lkC al i=some b:=by
      clear hv hb
      induction al with
      | nil=>cases hp
      | cons q r ih =>
        rw [lkC_cons]
        by_cases z:q.1=i
        · rw [if_pos z]; exact ⟨_,rfl⟩
        · rw [if_neg z]
          rcases List.mem_cons.mp hp with rfl | hp
          · exact absurd e z
          · exact ih (List.mem_map.mpr ⟨p,hp,e⟩) hp
    obtain ⟨b,hb'⟩:=hsome
    have hm:=lkC_mem hb'
    unfold turn
    rw [hb']
    have:lkC (back al) b=some i:=lkC_of_mem (by rw [hb]; exact hv) (List.mem_map.mpr ⟨(i,b),hm,rfl⟩)
    show (lkC (back al) b).getD b=i
    rw [this]; rfl
  · have e1:turn al i=i:=by unfold turn; rw [lkC_none h]; rfl
    rw [e1]
    unfold turn
    rw [lkC_none (by rw [hb]; exact h')]; rfl
end
inductive W3 | brk | nxt | ret
def W3.k:W3→String
  | .brk=>"break"
  | .nxt=>"next"
  | .ret=>"return"
inductive Cn | k0 | k1 | k2 | k7 | k9
def Cn.i:Cn→Int
  | .k0=>0
  | .k1=>1
  | .k2=>2
  | .k7=>7
  | .k9=>9
inductive Cl | c0 | c1 (a:Cn) | c2 (a b:Cn)
abbrev Tl:=Option (Int×Int)
mutual
inductive It
  | sym (n:Int)
  | toss (n:Int)
  | last
  | out (k:W3) (v:Option Int)
  | beg (body:Sq) (rs:Rs) (other late:Oq)
inductive Sq
  | one (a:It) (t:Tl)
  | two (a b:It) (t:Tl)
inductive Oq
  | no
  | yes (s:Sq)
inductive Rc
  | mk (cl:Cl) (goal:Bool) (body:Sq)
inductive Rs
  | r0
  | r1 (a:Rc)
  | r2 (a b:Rc)
end
inductive Ch
  | it (i:It)
  | re (number most:Int)
def tlCh:Tl→List Ch
  | none=>[]
  | some (n,m)=>[.re n m]
def Sq.ch:Sq→List Ch
  | .one a t=>.it a::tlCh t
  | .two a b t=>.it a::.it b::tlCh t
def oi:Option Int→TV
  | none=>.none
  | some n=>.sint n
def ndT (k:Str) (p:TV):TV:=.ins 185 [(u "kind",.str k),(u "parts",p),(u "line",.int 0),(u "own",.none)]
def symT (n:Int):TV:=ndT (u "sym") (.tup [.sint n])
def markT:Option Int→TV
  | none=>.none
  | some n=>symT n
def reT (n m:Int):TV:=ndT (u "if") (.tup [ndT (u "lvar") (.tup [.tup [.sint n,.sint m]]),ndT (u "retry") (.tup []),.none])
def tlT:Tl→List TV
  | none=>[]
  | some (n,m)=>[reT n m]
def cnT (c:Cn):TV:=ndT (u "int") (.tup [.int c.i])
def clT':Cl→List TV
  | .c0=>[]
  | .c1 a=>[cnT a]
  | .c2 a b=>[cnT a,cnT b]
def goalT:TV:=ndT (u "t_gvar") (.tup [.str (u "$e")])
def gT:Bool→TV
  | true=>goalT
  | false=>.none
mutual
def It.tv:It→TV
  | .sym n=>symT n
  | .toss n=>ndT (u "ivar") (.tup [.sint n])
  | .last=>ndT (u "self") (.tup [])
  | .out k v=>ndT (u k.k) (.tup [markT v])
  | .beg body rs other late=>ndT (u "begin") (.tup [body.tv,.lst rs.tv,other.tv,late.tv])
def Sq.tv:Sq→TV
  | .one a t=>ndT (u "seq") (.tup [.lst (a.tv::tlT t)])
  | .two a b t=>ndT (u "seq") (.tup [.lst (a.tv::b.tv::tlT t)])
def Oq.tv:Oq→TV
  | .no=>.none
  | .yes s=>s.tv
def Rc.tv:Rc→TV
  | .mk cl goal body=>.tup [.lst (clT' cl),gT goal,body.tv]
def Rs.tv:Rs→List TV
  | .r0=>[]
  | .r1 a=>[a.tv]
  | .r2 a b=>[a.tv,b.tv]
end
def Ch.tv:Ch→TV
  | .it i=>i.tv
  | .re n m=>reT n m
theorem Sq.tv_ch (s:Sq):s.tv=ndT (u "seq") (.tup [.lst (s.ch.map Ch.tv)]):=by
  cases s with
  | one a t=>rw [Sq.tv]; cases t<;>rfl
  | two a b t=>rw [Sq.tv]; cases t<;>rfl
theorem It.tv_nd (i:It):∃ k p,i.tv=ndT k p:=by
  cases i<;>(rw [It.tv]; exact ⟨_,_,rfl⟩)
theorem Ch.tv_nd (c:Ch):∃ k p,c.tv=ndT k p:=by
  cases c with
  | it i=>exact i.tv_nd
  | re n m=>exact ⟨_,_,rfl⟩
theorem Sq.ch_len (s:Sq):s.ch.length=1∨s.ch.length=2∨s.ch.length=3:=by
  rcases s with ⟨a,t⟩ | ⟨a,b,t⟩<;>rcases t with _ | ⟨n,m⟩<;>simp [Sq.ch,tlCh]
inductive Res
  | val (v:Option Int)
  | raise (e:Int)
  | retry
  | out (k:W3) (v:Option Int)
def Res.s:Res→String
  | .val _=>"value"
  | .raise _=>"raise"
  | .retry=>"retry"
  | .out k _=>k.k
def Res.v:Res→TV
  | .val v=>oi v
  | .raise e=>.sint e
  | .retry=>.none
  | .out _ v=>oi v
def Res.isVal:Res→Bool
  | .val _=>true
  | _=>false
def Res.isRaise:Res→Bool
  | .raise _=>true
  | _=>false
def Res.isRetry:Res→Bool
  | .retry=>true
  | _=>false
structure B where
  tr:List TV
  ct:Int→Option Int
  la:Option Int
  er:Option Int
def B.note (b:B) (t:TV):B:=⟨t::b.tr,b.ct,b.la,b.er⟩
def B.cnt (b:B) (n:Int):Int:=(b.ct n).getD 0+1
def B.count (b:B) (n:Int):B:=⟨b.tr,fun m=>if m=n then some (b.cnt n) else b.ct m,b.la,b.er⟩
def lastT (b:B):TV:=.tup [.str (u "last"),oi b.la]
def askT (e:Int) (c:Cn):TV:=.tup [.str (u "asked"),.int c.i,.sint e,.str (u "===")]
def B.asks (b:B) (e:Int):List Cn→B
  | []=>b
  | c::r=>(b.note (askT e c)).asks e r
def B.enter (b:B) (e:Int) (goal:Bool):B:=⟨b.tr,b.ct,some e,if goal then some e else b.er⟩
def B.leave (b:B) (la:Option Int):B:=⟨b.tr,b.ct,la,b.er⟩
def Cn.has (c:Cn) (e:Int):Bool:=match c with
  | .k7=>true
  | c=>decide (e.fmod 3=c.i)
inductive Pk
  | no
  | bad
  | hit
def askL:List Cn→Int→List Cn×Pk
  | [],_=>([],.no)
  | c::r,e=>match c with
    | .k9=>([c],.bad)
    | c=>match c.has e with
      | true=>([c],.hit)
      | false=>let (a,p):=askL r e; (c::a,p)
def Cl.asked:Cl→List Cn
  | .c0=>[.k7]
  | .c1 a=>[a]
  | .c2 a b=>[a,b]
inductive Pick
  | no
  | bad
  | hit (r:Rc)
def Rc.cl:Rc→Cl
  | .mk c _ _=>c
def Rc.goal:Rc→Bool
  | .mk _ g _=>g
def Rc.body:Rc→Sq
  | .mk _ _ b=>b
def pickL:List Rc→Int→List Cn×Pick
  | [],_=>([],.no)
  | r::rs,e=>match askL r.cl.asked e with
    | (a,.hit)=>(a,.hit r)
    | (a,.bad)=>(a,.bad)
    | (a,.no)=>let (a',p):=pickL rs e; (a++a',p)
def Rs.list:Rs→List Rc
  | .r0=>[]
  | .r1 a=>[a]
  | .r2 a b=>[a,b]
def pick (rs:Rs) (e:Int):List Cn×Pick:=pickL rs.list e
def late (r r2:Res):Res:=match r2 with
  | .val _=>r
  | r2=>r2
inductive J
  | it (i:It)
  | ch (c:Ch)
  | sq (rem:List Ch) (r:Option Int)
  | tr (k:Nat) (body:Sq) (rs:Rs) (other:Oq)
def gk:Bool→Nat
  | true=>2
  | false=>0
inductive Big:J→B→Res→B→Nat→Prop
  | sym {n b}:Big (.it (.sym n)) b (.val (some n)) (b.note (.sint n)) 1
  | toss {n b}:Big (.it (.toss n)) b (.raise n) b 1
  | last {b}:Big (.it .last) b (.val none) (b.note (lastT b)) 1
  | out0 {k b}:Big (.it (.out k none)) b (.out k none) b 1
  | out1 {k n b}:Big (.it (.out k (some n))) b (.out k (some n)) (b.note (.sint n)) 3
  | beg0 {body rs other b r b1 n}:Big (.tr 2 body rs other) b r b1 n→Big (.it (.beg body rs other .no)) b r b1 (1+n)
  | beg1 {body rs other s b r b1 n r2 b2 k}:Big (.tr 2 body rs other) b r b1 n→Big (.sq s.ch none) b1 r2 b2 k→Big (.it (.beg body rs other (.yes s))) b (late r r2) b2 (1+n+k+1)
  | chit {i b r b1 n}:Big (.it i) b r b1 n→Big (.ch (.it i)) b r b1 n
  | re1 {n m b}:b.cnt n≤m→Big (.ch (.re n m)) b .retry (b.count n) 4
  | re0 {n m b}:¬ b.cnt n≤m→Big (.ch (.re n m)) b (.val none) (b.count n) 3
  | nil {r b}:Big (.sq [] r) b (.val r) b 1
  | stop {c cs r0 b r b1 n}:Big (.ch c) b r b1 n→r.isVal=false→Big (.sq (c::cs) r0) b r b1 (1+n)
  | go {c cs r0 b v b1 n r b2 k}:Big (.ch c) b (.val v) b1 n→Big (.sq cs v) b1 r b2 k→Big (.sq (c::cs) r0) b r b2 (1+n+k)
  | tval {z body rs b v b1 n}:Big (.sq body.ch none) b (.val v) b1 n→Big (.tr z body rs .no) b (.val v) b1 (n+1)
  | toth {z body rs o b v b1 n r b2 k}:Big (.sq body.ch none) b (.val v) b1 n→Big (.sq o.ch none) b1 r b2 k→Big (.tr z body rs (.yes o)) b r b2 (n+1+k+1)
  | tout {z body rs other b r b1 n}:Big (.sq body.ch none) b r b1 n→r.isVal=false→r.isRaise=false→Big (.tr z body rs other) b r b1 (n+1)
  | tno {z body rs other b e b1 n a}:Big (.sq body.ch none) b (.raise e) b1 n→pick rs e=(a,.no)→Big (.tr z body rs other) b (.raise e) (b1.asks e a) (n+1+6*a.length)
  | tbad {z body rs other b e b1 n a}:Big (.sq body.ch none) b (.raise e) b1 n→pick rs e=(a,.bad)→Big (.tr z body rs other) b (.raise 5) (b1.asks e a) (n+1+6*a.length)
  | thit {z body rs other b e b1 n a R r b2 k}:Big (.sq body.ch none) b (.raise e) b1 n→pick rs e=(a,.hit R)→Big (.sq R.body.ch none) ((b1.asks e a).enter e R.goal) r b2 k→r.isRetry=false →
      Big (.tr z body rs other) b r (b2.leave b1.la) (n+1+6*a.length+gk R.goal+k+1)
  | tre {z body rs other b e b1 n a R b2 k r b3 m}:Big (.sq body.ch none) b (.raise e) b1 n→pick rs e=(a,.hit R)→Big (.sq R.body.ch none) ((b1.asks e a).enter e R.goal) .retry b2 k →
      Big (.tr z body rs other) (b2.leave b1.la) r b3 m→Big (.tr (z+1) body rs other) b r b3 (n+1+6*a.length+gk R.goal+k+1+m)
abbrev NX:Nat:=1000000
inductive Tsk
  | plain (kind:Str) (node state:TV) (held:List TV)
  | beg (node:TV) (state:Str) (way:TV) (arm place:Int) (tests:List TV) (before:TV)
def rfs (way:TV) (arm place:Int) (tests before:TV):List (Str×TV):=[(u "way",way),(u "arm",.int arm),(u "place",.int place),(u "tests",tests),(u "before",before)]
def tcells:Tsk→Nat→Nat→Nat→List Ent
  | .plain kind node state held,i,j,_=>[(i,.inst 560 (tfs kind node state (.ref j))),(j,.lst held)]
  | .beg node state way arm place tests before,i,j,k=>[(i,.inst 560 (tfs (u "begin") node (.str state) (.ref j))),(j,.inst 716 (rfs way arm place (.ref k) before)),(k,.lst tests)]
def tasksS:List Tsk→List TV
  | []=>[]
  | _::r=>.ref (2000+4*r.length)::tasksS r
def tasksR:List Tsk→List Ent
  | []=>[]
  | t::r=>tcells t (2000+4*r.length) (2000+4*r.length+1) (2000+4*r.length+2)++tasksR r
def frontC (x:Nat→TV) (m:MS) (way:TV) (t:Tsk) (S:List TV):List Ent:=tcells t 10 11 12++fixedC x m way (.ref 10::S)
inductive HO
  | lst (xs:List TV)
  | res (C:Nat) (fs:List (Str×TV)) (ys:List TV)
def heldO (cells:List Ent) (j:Nat):Option (HO×List Nat):=match lkC cells j with
  | some (.lst xs)=>some (.lst xs,[])
  | some (.inst C fs)=>(match lkF fs (u "tests") with
    | some (.ref k)=>(match lkC cells k with
      | some (.lst ys)=>some (.res C (puF fs (u "tests") .none) ys,[k])
      | _=>none)
    | _=>none)
  | _=>none
def taskO (cells:List Ent) (i:Nat):Option ((Nat×List (Str×TV)×HO)×List Nat):=match lkC cells i with
  | some (.inst C fs)=>(match lkF fs (u "held") with
    | some (.ref j)=>(match heldO cells j with
      | some (h,l)=>some ((C,puF fs (u "held") .none,h),i::j::l)
      | none=>none)
    | _=>none)
  | _=>none
def obsOf:Tsk→Nat×List (Str×TV)×HO
  | .plain kind node state held=>(560,tfs kind node state .none,.lst held)
  | .beg node state way arm place tests before=>(560,tfs (u "begin") node (.str state) .none,.res 716 (rfs way arm place .none before) tests)
theorem puF_back {α:Type}{x:Str}{a b:α}:∀ {l:List (Str×α)},lkF l x=some a→puF (puF l x b) x a=l
  | [],h=>nomatch (show (none:Option α)=some a from h)
  | p::l,h=>by
    rw [lkF_cons] at h
    rw [puF_cons]
    by_cases q:p.1=x
    · rw [if_pos q] at h
      rw [if_pos q,puF_cons,if_pos q]
      cases h; rfl
    · rw [if_neg q] at h
      rw [if_neg q,puF_cons,if_neg q,puF_back h]
theorem taskO_at {cells:List Ent}{i:Nat}{t:Tsk}{l:List Nat}(h:taskO cells i=some (obsOf t,l)):∃ j k,(∀ e∈tcells t i j k,lkC cells e.1=some e.2)∧(tcells t i j k).map (·.1)=l:=by
  unfold taskO at h
  split at h
  · rename_i C fs hi
    split at h
    · rename_i j hj
      split at h
      · rename_i ho l' hh
        simp only [Option.some.injEq,Prod.mk.injEq] at h
        obtain ⟨h1,rfl⟩:=h
        unfold heldO at hh
        cases t with
        | plain kind node state held =>
          simp only [obsOf,Prod.mk.injEq] at h1
          obtain ⟨rfl,h2,rfl⟩:=h1
          have hfs:fs=tfs kind node state (.ref j):=by
            have:=puF_back (b:=TV.none) hj
            rw [h2] at this
            exact this.symm.trans (by kernel_rfl)
          split at hh
          · rename_i xs hx
            cases hh
            refine ⟨j,0,fun e he => ?_,rfl⟩
            have he:e∈[(i,Cell.inst 560 (tfs kind node state (.ref j))),(j,.lst held)]:=he
            simp only [List.mem_cons,List.not_mem_nil,or_false] at he
            rcases he with rfl | rfl
            · rw [hi,hfs]
            · exact hx
          · split at hh
            · split at hh<;>cases hh
            · cases hh
          · cases hh
        | beg node state way arm place tests before =>
          simp only [obsOf,Prod.mk.injEq] at h1
          obtain ⟨rfl,h2,rfl⟩:=h1
          have hfs:fs=tfs (u "begin") node (.str state) (.ref j):=by
            have:=puF_back (b:=TV.none) hj
            rw [h2] at this
            exact this.symm.trans (by kernel_rfl)
          split at hh
          · cases hh
          · rename_i C' fs' hx
            split at hh
            · rename_i k hk
              split at hh
              · rename_i ys hy
                simp only [Option.some.injEq,Prod.mk.injEq,HO.res.injEq] at hh
                obtain ⟨⟨rfl,h3,rfl⟩,rfl⟩:=hh
                have hfs':fs'=rfs way arm place (.ref k) before:=by
                  have:=puF_back (b:=TV.none) hk
                  rw [h3] at this
                  exact this.symm.trans (by kernel_rfl)
                refine ⟨j,k,fun e he => ?_,rfl⟩
                have he:e∈[(i,Cell.inst 560 (tfs (u "begin") node (.str state) (.ref j))),(j,.inst 716 (rfs way arm place (.ref k) before)),(k,.lst ys)]:=he
                simp only [List.mem_cons,List.not_mem_nil,or_false] at he
                rcases he with rfl | rfl | rfl
                · rw [hi,hfs]
                · rw [hx,hfs']
                · exact hy
              · cases hh
            · cases hh
          · cases hh
      · cases h
    · cases h
  · cases h
def fixIds:List Nat:=[1,2,3,4,5,6,7,8,21,22,23,24,25,26,27,28,29,30]
def seeF (ids:List Nat) (cells:List Ent):List (Option Cell):=ids.map (lkC cells)
def wantF (x:Nat→TV) (m:MS) (way:TV) (stack:List TV):List (Option Cell):=(fixedC x m way stack).map fun e=>some e.2
def popO (r:Option (FL×St×List Prop)):Option (List (Option Cell)×List Prop):=match r with
  | some (.next,σ,c)=>some (seeF fixIds σ.cells,c)
  | _=>none
def popR (r:Option (FL×St×List Prop)):Option (List (Option Cell)×List Ent×List Prop):=match r with
  | some (.next,σ,c)=>some (seeF fixIds σ.cells,σ.cells.drop 20,c)
  | _=>none
def topId (cells:List Ent):Option (Nat×List TV):=match lkC cells 6 with
  | some (.stk (.ref p::r))=>some (p,r)
  | _=>none
def nodupN:List Nat→Bool
  | []=>true
  | x::r => !(hasI r x)&&nodupN r
def rangeN:List Nat→Bool
  | []=>true
  | x::r=>(Nat.ble x 30||Nat.ble NX x)&&rangeN r
def pushO (r:Option (FL×St×List Prop)):Option (List (Option Cell)×List TV×(Nat×List (Str×TV)×HO)×(Nat×List (Str×TV)×HO)×Bool×List Prop):=match r with
  | some (.next,σ,c)=>(match topId σ.cells with
    | some (p,S)=>(match taskO σ.cells p with
      | some (a,la)=>(match taskO σ.cells 10 with
        | some (b,lb)=>some (seeF [1,2,3,4,5,7,8,21,22,23,24,25,26,27,28,29,30] σ.cells,S,a,b,nodupN (la++lb++fixIds)&&rangeN (la++lb),c)
        | none=>none)
      | none=>none)
    | none=>none)
  | _=>none
def wantP (x:Nat→TV) (m:MS) (way:TV):List (Option Cell):=((fixedC x m way []).filter fun e => !(Nat.beq e.1 6)).map fun e=>some e.2
theorem hasI_of {l:List Nat}{x:Nat}(h:x∈l):hasI l x=true:=by
  induction l with
  | nil=>cases h
  | cons p l ih =>
    show (@Bool.rec (fun _=>Bool) (hasI l x) true (Nat.beq p x))=true
    rw [BT.beq_eq]
    rcases List.mem_cons.mp h with rfl | h
    · simp
    · rw [ih h]; cases (decide (p=x))<;>rfl
theorem nodupN_of:∀ {l:List Nat},nodupN l=true→l.Nodup
  | [],_=>.nil
  | x::r,h=>by
    have h:(!(hasI r x)&&nodupN r)=true:=h
    rw [Bool.and_eq_true] at h
    refine List.nodup_cons.mpr ⟨fun q => ?_,nodupN_of h.2⟩
    rw [hasI_of q] at h; cases h.1
theorem rangeN_of:∀ {l:List Nat},rangeN l=true→∀ z∈l,z≤30∨NX≤z
  | [],_,z,hz=>by cases hz
  | x::r,h,z,hz=>by
    have h:((Nat.ble x 30||Nat.ble NX x)&&rangeN r)=true:=h
    rw [Bool.and_eq_true,Bool.or_eq_true] at h
    rcases List.mem_cons.mp hz with rfl | hz
    · exact h.1.imp Nat.le_of_ble_eq_true Nat.le_of_ble_eq_true
    · exact rangeN_of h.2 z hz
theorem fixed_ids (x:Nat→TV) (m:MS) (way:TV) (S:List TV):(fixedC x m way S).map (·.1)=fixIds:=by kernel_rfl
theorem popO_at {x:Nat→TV}{m:MS}{way:TV}{S:List TV}{r:Option (FL×St×List Prop)}{c:List Prop}(h:popO r=some (wantF x m way S,c)) :
    ∃ σ,r=some (.next,σ,c) ∧ ∀ e∈fixedC x m way S,lkC σ.cells e.1=some e.2:=by
  unfold popO at h
  split at h
  · rename_i σ c'
    simp only [Option.some.injEq,Prod.mk.injEq] at h
    obtain ⟨h1,rfl⟩:=h
    refine ⟨σ,rfl,?_⟩
    unfold seeF wantF at h1
    rw [← fixed_ids x m way S,List.map_map] at h1
    exact fun e he=>List.map_inj_left.mp h1 e he
  · cases h
theorem popR_at {x:Nat→TV}{m:MS}{way:TV}{S:List TV}{r:Option (FL×St×List Prop)}{c:List Prop}{rest:List Ent}(h:popR r=some (wantF x m way S,rest,c)) :
    ∃ σ,r=some (.next,σ,c)∧(∀ e∈fixedC x m way S,lkC σ.cells e.1=some e.2)∧σ.cells.drop 20=rest:=by
  unfold popR at h
  split at h
  · rename_i σ c'
    simp only [Option.some.injEq,Prod.mk.injEq] at h
    obtain ⟨h1,h2,rfl⟩:=h
    refine ⟨σ,rfl,?_,h2⟩
    unfold seeF wantF at h1
    rw [← fixed_ids x m way S,List.map_map] at h1
    exact fun e he=>List.map_inj_left.mp h1 e he
  · cases h
theorem pushO_at {x:Nat→TV}{m:MS}{way:TV}{S:List TV}{t p:Tsk}{r:Option (FL×St×List Prop)}{c:List Prop}(h:pushO r=some (wantP x m way,S,obsOf t,obsOf p,true,c)) :
    ∃ σ i j k a b,r=some (.next,σ,c)∧(∀ e∈fixedC x m way (.ref i::S),lkC σ.cells e.1=some e.2)∧(∀ e∈tcells t i j k,lkC σ.cells e.1=some e.2)∧(∀ e∈tcells p 10 a b,lkC σ.cells e.1=some e.2) ∧
      ((tcells t i j k).map (·.1)++(tcells p 10 a b).map (·.1)++fixIds).Nodup ∧ ∀ z∈(tcells t i j k).map (·.1)++(tcells p 10 a b).map (·.1),z≤30∨NX≤z:=by
  unfold pushO at h
  split at h
  · rename_i σ c'
    split at h
    · rename_i i S' ht
      split at h
      · rename_i ta la hta
        split at h
        · rename_i tb lb htb
          simp only [Option.some.injEq,Prod.mk.injEq] at h
          obtain ⟨h1,rfl,rfl,rfl,h5,rfl⟩:=h
          obtain ⟨j,k,q1,q2⟩:=taskO_at hta
          obtain ⟨a,b,q3,q4⟩:=taskO_at htb
          refine ⟨σ,i,j,k,a,b,rfl,fun e he => ?_,q1,q3,by rw [q2,q4]; exact nodupN_of (Bool.and_eq_true_iff.mp h5).1,by rw [q2,q4]; exact rangeN_of (Bool.and_eq_true_iff.mp h5).2⟩
          have h6:lkC σ.cells 6=some (.stk (.ref i::S')):=by
            unfold topId at ht
            split at ht
            · rename_i hh; cases ht; exact hh
            · cases ht
          by_cases hid:e.1=6
          · have:e=(6,.stk (.ref i::S')):=by
              have hn:((fixedC x m way (.ref i::S')).map (·.1)).Nodup:=by rw [fixed_ids]; exact nodupN_of (by kernel_rfl)
              have h0:lkC (fixedC x m way (.ref i::S')) 6=some (.stk (.ref i::S')):=by kernel_rfl
              have h1':=lkC_of_mem hn (show (e.1,e.2)∈_ from he)
              rw [hid,h0] at h1'
              obtain ⟨e1,e2⟩:=e
              cases hid; cases h1'; rfl
            rw [this]; exact h6
          · have hids:((fixedC x m way []).filter fun e => !(Nat.beq e.1 6)).map (·.1)=[1,2,3,4,5,7,8,21,22,23,24,25,26,27,28,29,30]:=by kernel_rfl
            have hl:(fixedC x m way (.ref i::S')).filter (fun e => !(Nat.beq e.1 6))=(fixedC x m way []).filter fun e => !(Nat.beq e.1 6):=by kernel_rfl
            unfold seeF wantP at h1
            rw [← hids,List.map_map,← hl] at h1
            exact List.map_inj_left.mp h1 e (List.mem_filter.mpr ⟨he,by rw [BT.beq_eq]; simpa using hid⟩)
        · cases h
      · cases h
    · cases h
  · cases h
def MS.tick (m:MS):MS:=⟨m.tr,m.cN,m.ct,m.gN,m.la,m.lb,m.er,m.eb,m.tk+1⟩
def MS.note (m:MS) (t:TV):MS:=⟨t::m.tr,m.cN,m.ct,m.gN,m.la,m.lb,m.er,m.eb,m.tk⟩
def MS.count (m:MS) (n:Int):MS:=⟨m.tr,m.cN+1,fun z=>if z=n then some ((m.ct n).getD 0+1) else m.ct z,m.gN,m.la,m.lb,m.er,m.eb,m.tk⟩
def MS.last (m:MS) (t:TV):MS:=⟨m.tr,m.cN,m.ct,m.gN+1,t,true,m.er,m.eb,m.tk⟩
def MS.target (m:MS) (t:TV):MS:=⟨m.tr,m.cN,m.ct,m.gN+1,m.la,m.lb,t,true,m.tk⟩
def cS (S:List TV):Prop:=(0:Int)<(((TV.ref 10::S:List TV).length:Nat):Int)
def tkOk (m:MS):Prop:=¬ (20000:Int)<(m.tk:Int)+1
def cA (m:MS):Prop:=m.tr.length<szL
def ok2 (a b:String):Prop:=okT (.str (u a))∧okT (.str (u b))
def cP (S:List TV):Prop:=(TV.ref 10::S:List TV).length<szL
theorem st_lvar1 (x:Nat→TV) (m:MS) (S:List TV) (n k:Int):popO (stepM 100 16 ⟨frontC x m .none (.plain (u "lvar") (ndT (u "lvar") (.tup [.tup [.sint n,.sint k]])) (.int 0) []) S,NX,[1,0,1]⟩)=some (wantF x (m.tick.count n) (wayT "value" (.bool true)) S,[cS S,tkOk m,m.cN<szL,(∃ v,(m.count n).ct n=some v),((m.count n).ct n).getD 0≤k]):=by kernel_rfl
theorem st_lvar0 (x:Nat→TV) (m:MS) (S:List TV) (n k:Int):popO (stepM 100 16 ⟨frontC x m .none (.plain (u "lvar") (ndT (u "lvar") (.tup [.tup [.sint n,.sint k]])) (.int 0) []) S,NX,[1,0,0]⟩)=some (wantF x (m.tick.count n) (wayT "value" (.bool false)) S,[cS S,tkOk m,m.cN<szL,(∃ v,(m.count n).ct n=some v),¬ ((m.count n).ct n).getD 0≤k]):=by kernel_rfl
theorem st_out0_break (x:Nat→TV) (m:MS) (S:List TV) (rest:List Ent):popR (stepM 100 16 ⟨frontC x m .none (.plain (u "break") (ndT (u "break") (.tup [.none])) (.int 0) []) S++rest,NX,[1,0]⟩)=some (wantF x m.tick (wayT "break" .none) S,rest,[cS S,tkOk m,ok2 "break" "next",OverOk (hidF rest) S]):=by kernel_rfl
theorem st_out2_break (x:Nat→TV) (m:MS) (S:List TV) (rest:List Ent) (nd:TV) (z:Int):popR (stepM 100 16 ⟨frontC x m (wayT "value" (.sint z)) (.plain (u "break") (ndT (u "break") (.tup [nd])) (.str (u "value")) []) S++rest,NX,[1,0]⟩)=some (wantF x m.tick (wayT "break" (.sint z)) S,rest,[cS S,ok2 "value" "value",tkOk m,okT (.str (u "value")),ok2 "break" "next",OverOk (hidF rest) S]):=by kernel_rfl
theorem st_out0_return (x:Nat→TV) (m:MS) (S:List TV) (rest:List Ent):popR (stepM 100 16 ⟨frontC x m .none (.plain (u "return") (ndT (u "return") (.tup [.none])) (.int 0) []) S++rest,NX,[1,0]⟩)=some (wantF x m.tick (wayT "return" .none) S,rest,[cS S,tkOk m,ok2 "return" "next",OverOk (hidF rest) S]):=by kernel_rfl
theorem st_out2_return (x:Nat→TV) (m:MS) (S:List TV) (rest:List Ent) (nd:TV) (z:Int):popR (stepM 100 16 ⟨frontC x m (wayT "value" (.sint z)) (.plain (u "return") (ndT (u "return") (.tup [nd])) (.str (u "value")) []) S++rest,NX,[1,0]⟩)=some (wantF x m.tick (wayT "return" (.sint z)) S,rest,[cS S,ok2 "value" "value",tkOk m,okT (.str (u "value")),ok2 "return" "next",OverOk (hidF rest) S]):=by kernel_rfl
structure Hyp (prog:Program) (w:World) (hb:HB) (mg mb:Str→Option Value):Prop where
  B:BaseH (KK w.params) mg mb hb
  T:TabOk w.params (KK w.params) theTab mg mb
  C:CodeB hb mg ci0
  O:SndO prog w clo hb orcM
abbrev nr (t:TV):Prop:=alT (fun _=>False) t
def nrK:Tsk→Prop
  | .plain _ node state held=>nr node∧nr state∧alTs (fun _=>False) held
  | .beg node _ way _ _ tests before=>nr node∧nr way∧alTs (fun _=>False) tests∧nr before
def tids (t:Tsk) (i j k:Nat):List Nat:=(tcells t i j k).map (·.1)
theorem nr.id {φ:Nat→Nat}{t:TV}(h:nr t):renT φ t=t:=renT_id (alT.imp (fun _ x=>x.elim) h)
theorem nrs.id {φ:Nat→Nat}{t:List TV}(h:alTs (fun _=>False) t):renTs φ t=t:=renTs_id (alTs.imp (fun _ x=>x.elim) h)
theorem tcells_ren {φ:Nat→Nat}{t:Tsk}{i j k i' j' k':Nat}(hn:nrK t) (h:(tids t i j k).map φ=tids t i' j' k'):(tcells t i j k).map (renE φ)=tcells t i' j' k':=by
  cases t with
  | plain kind node state held =>
    have h:[φ i,φ j]=[i',j']:=h
    simp only [List.cons.injEq,and_true] at h
    obtain ⟨h1,h2⟩:=h
    obtain ⟨n1,n2,n3⟩:=hn
    show [(φ i,Cell.inst 560 (renFs φ (tfs kind node state (.ref j)))),(φ j,Cell.lst (renTs φ held))]=_
    rw [nrs.id n3]
    show [(φ i,Cell.inst 560 [(u "kind",.str kind),(u "node",renT φ node),(u "env",.none),(u "number",.none),(u "state",renT φ state),(u "held",.ref (φ j)),(u "kept",.none)]),(φ j,Cell.lst held)]=_
    rw [n1.id,n2.id,h1,h2]; rfl
  | beg node state way arm place tests before =>
    have h:[φ i,φ j,φ k]=[i',j',k']:=h
    simp only [List.cons.injEq,and_true] at h
    obtain ⟨h1,h2,h3⟩:=h
    obtain ⟨n1,n2,n3,n4⟩:=hn
    show [(φ i,Cell.inst 560 (renFs φ (tfs (u "begin") node (.str state) (.ref j)))),(φ j,Cell.inst 716 (renFs φ (rfs way arm place (.ref k) before))),(φ k,Cell.lst (renTs φ tests))]=_
    rw [nrs.id n3]
    show [(φ i,Cell.inst 560 [(u "kind",.str (u "begin")),(u "node",renT φ node),(u "env",.none),(u "number",.none),(u "state",.str state),(u "held",.ref (φ j)),(u "kept",.none)]),(φ j,Cell.inst 716 [(u "way",renT φ way),(u "arm",.int arm),(u "place",.int place),(u "tests",.ref (φ k)),(u "before",renT φ before)]),(φ k,Cell.lst tests)]=_
    rw [n1.id,n2.id,n4.id,h1,h2,h3]; rfl
theorem tcells_al {p:Nat→Prop}{t:Tsk}{i j k:Nat}(hn:nrK t) (h:∀ z∈tids t i j k,p z):∀ e∈tcells t i j k,alE p e:=by
  have im:∀ {t:TV},nr t→alT p t:=fun h=>alT.imp (fun _ x=>x.elim) h
  have ims:∀ {t:List TV},alTs (fun _=>False) t→alTs p t:=fun h=>alTs.imp (fun _ x=>x.elim) h
  cases t with
  | plain kind node state held =>
    obtain ⟨n1,n2,n3⟩:=hn
    have hi:p i:=h i (.head _)
    have hj:p j:=h j (.tail _ (.head _))
    intro e he
    rcases List.mem_cons.mp he with rfl | he
    · exact ⟨hi,trivial,im n1,trivial,trivial,im n2,hj,trivial,trivial⟩
    · rcases List.mem_cons.mp he with rfl | he
      · exact ⟨hj,ims n3⟩
      · cases he
  | beg node state way arm place tests before =>
    obtain ⟨n1,n2,n3,n4⟩:=hn
    have hi:p i:=h i (.head _)
    have hj:p j:=h j (.tail _ (.head _))
    have hk:p k:=h k (.tail _ (.tail _ (.head _)))
    intro e he
    rcases List.mem_cons.mp he with rfl | he
    · exact ⟨hi,trivial,im n1,trivial,trivial,trivial,hj,trivial,trivial⟩
    · rcases List.mem_cons.mp he with rfl | he
      · exact ⟨hj,im n2,trivial,trivial,hk,im n4,trivial⟩
      · rcases List.mem_cons.mp he with rfl | he
        · exact ⟨hk,ims n3⟩
        · cases he
def fixP (i:Nat):Prop:=i∈fixIds∨(31≤i∧i<2000)
structure FixOk (x:Nat→TV) (m:MS) (way:TV):Prop where
  x:∀ i,alT (fun i=>31≤i∧i<2000) (x i)
  tr:∀ t∈m.tr,nr t
  la:nr m.la
  er:nr m.er
  way:nr way
theorem fixed_al' {x:Nat→TV}{m:MS}{way:TV}{S:List TV}{p:Nat→Prop}(hx:∀ i,alT p (x i)) (htr:∀ t∈m.tr,nr t) (hla:nr m.la) (her:nr m.er) (hway:nr way) (hf:∀ i,i∈fixIds→p i) (hS:∀ t∈S,alT p t):∀ e∈fixedC x m way S,alE p e:=by
  have im:∀ {t:TV},nr t→alT p t:=fun h=>alT.imp (fun _ x=>x.elim) h
  have f1:=hf 1 (by unfold fixIds; decide)
  have f2:=hf 2 (by unfold fixIds; decide)
  have f3:=hf 3 (by unfold fixIds; decide)
  have f4:=hf 4 (by unfold fixIds; decide)
  have f5:=hf 5 (by unfold fixIds; decide)
  have f6:=hf 6 (by unfold fixIds; decide)
  have f7:=hf 7 (by unfold fixIds; decide)
  have f8:=hf 8 (by unfold fixIds; decide)
  have f21:=hf 21 (by unfold fixIds; decide)
  have f22:=hf 22 (by unfold fixIds; decide)
  have f23:=hf 23 (by unfold fixIds; decide)
  have f24:=hf 24 (by unfold fixIds; decide)
  have f25:=hf 25 (by unfold fixIds; decide)
  have f26:=hf 26 (by unfold fixIds; decide)
  have f27:=hf 27 (by unfold fixIds; decide)
  have f28:=hf 28 (by unfold fixIds; decide)
  have f29:=hf 29 (by unfold fixIds; decide)
  have f30:=hf 30 (by unfold fixIds; decide)
  unfold fixedC
  refine List.forall_mem_cons.mpr ⟨⟨f1,alTs_mem.mpr fun t ht=>im (htr t ht)⟩,?_⟩
  refine List.forall_mem_cons.mpr ⟨⟨f2,fun q hq=>by cases hq⟩,?_⟩
  refine List.forall_mem_cons.mpr ⟨⟨f3,fun q hq => ?_⟩,?_⟩
  · rcases List.mem_cons.mp hq with rfl | hq
    · exact im hla
    · rcases List.mem_cons.mp hq with rfl | hq
      · exact im her
      · cases hq
  refine List.forall_mem_cons.mpr ⟨⟨f4,hx 0,hx 1,hx 2,trivial,trivial,hx 3,hx 4,hx 5,hx 6,hx 7,hx 8,f3,hx 9,hx 10,hx 11,trivial⟩,?_⟩
  refine List.forall_mem_cons.mpr ⟨⟨f5,f4,f7,⟨trivial,trivial⟩,f6,im hway,trivial,trivial⟩,?_⟩
  refine List.forall_mem_cons.mpr ⟨⟨f6,alTs_mem.mpr hS⟩,?_⟩
  refine List.forall_mem_cons.mpr ⟨⟨f7,f21,trivial,trivial,trivial,trivial,trivial,trivial,trivial,trivial,f22,f23,f24,f25,f26,f27,f28,trivial⟩,?_⟩
  refine List.forall_mem_cons.mpr ⟨⟨f8,f5,trivial⟩,?_⟩
  refine List.forall_mem_cons.mpr ⟨⟨f21,fun q hq=>by cases hq⟩,?_⟩
  refine List.forall_mem_cons.mpr ⟨⟨f22,fun q hq=>by rcases List.mem_cons.mp hq with rfl | hq; exact f29; cases hq⟩,?_⟩
  refine List.forall_mem_cons.mpr ⟨⟨f23,fun q hq=>by cases hq⟩,?_⟩
  refine List.forall_mem_cons.mpr ⟨⟨f24,fun q hq=>by rcases List.mem_cons.mp hq with rfl | hq; exact f29; cases hq⟩,?_⟩
  refine List.forall_mem_cons.mpr ⟨⟨f25,fun q hq=>by rcases List.mem_cons.mp hq with rfl | hq; exact f30; cases hq⟩,?_⟩
  refine List.forall_mem_cons.mpr ⟨⟨f26,fun q hq=>by cases hq⟩,?_⟩
  refine List.forall_mem_cons.mpr ⟨⟨f27,fun q hq=>by rcases List.mem_cons.mp hq with rfl | hq; exact f29; cases hq⟩,?_⟩
  refine List.forall_mem_cons.mpr ⟨⟨f28,fun q hq=>by cases hq⟩,?_⟩
  refine List.forall_mem_cons.mpr ⟨⟨f29,f1⟩,?_⟩
  refine List.forall_mem_cons.mpr ⟨⟨f30,f2⟩,?_⟩
  intro e he; cases he
theorem fixed_al {x:Nat→TV}{m:MS}{way:TV}{S:List TV}{p:Nat→Prop}(ok:FixOk x m way) (hp:∀ i,fixP i→p i) (hS:∀ t∈S,alT p t):∀ e∈fixedC x m way S,alE p e :=
  fixed_al' (fun i=>alT.imp (fun i h=>hp i (.inr h)) (ok.x i)) ok.tr ok.la ok.er ok.way (fun i h=>hp i (.inl h)) hS
theorem fixed_split (x:Nat→TV) (m:MS) (way:TV) (S:List TV):∃ a b,(∀ S',fixedC x m way S'=a++(6,.stk S')::b):=by
  refine ⟨(fixedC x m way []).take 5,(fixedC x m way []).drop 6,fun S'=>by kernel_rfl⟩
theorem fixed_ren {x:Nat→TV}{m:MS}{way:TV}{S S':List TV}{φ:Nat→Nat}(ok:FixOk x m way) (hp:∀ i,fixP i→φ i=i) (hS:renTs φ S=S'):(fixedC x m way S).map (renE φ)=fixedC x m way S':=by
  have h0:=renL_id (fixed_al (S:=[]) (p:=fun i=>φ i=i) ok hp (fun t ht=>by cases ht))
  obtain ⟨a,b,h⟩:=fixed_split x m way S
  rw [h] at h0
  rw [h,h]
  rw [List.map_append,List.map_cons] at h0 ⊢
  have h1:=List.append_inj h0 (by simp)
  obtain ⟨e1,e2⟩:=h1
  have e3:=(List.cons.inj e2).2
  rw [e1,e3]
  have:renE φ (6,.stk S)=(6,.stk S'):=by
    show (φ 6,Cell.stk (renTs φ S))=_
    rw [hS,hp 6 (.inl (by unfold fixIds; decide))]
  rw [this]
section
structure Conf where
  b:B
  tk:Nat
  way:TV
  stk:List Tsk
def MSof (b:B) (tk cN gN:Nat) (lb eb:Bool):MS:=⟨b.tr,cN,b.ct,gN,oi b.la,lb,oi b.er,eb,tk⟩
def Conf.cells (x:Nat→TV) (c:Conf) (m:MS):List Ent:=match c.stk with
  | []=>fixedC x m c.way []
  | t::r=>frontC x m c.way t (tasksS r)++tasksR r
structure Conf.Ok (c:Conf):Prop where
  tr:∀ t∈c.b.tr,nr t
  way:nr c.way
  stk:∀ t∈c.stk,nrK t
  trl:c.b.tr.length≤c.tk
  sl:c.stk.length≤c.tk+1
  tk:c.tk≤20000
def Good (prog:Program) (w:World) (hb:HB) (x:Nat→TV) (g0 f0:PH) (ρ0:Rho) (c:Conf) (s:Shared):Prop :=
  c.Ok ∧ ∃ g f ρ cN gN lb eb,(PH.le g0 g∧PH.le f0 f ∧ ∀ b o,g b=some o→g0 b=some o∨f0 b=none)∧(∀ i,fixP i→∀ q,ρ0 i=some q→ρ i=some q)∧(∀ i,NX≤i→ρ i=none)∧LeB hb g s ∧
    Rel prog w clo g f s.heap ρ (c.cells x (MSof c.b c.tk cN gN lb eb))∧cN≤15+c.tk∧gN≤15+c.tk
theorem oi_nr (v:Option Int):nr (oi v):=by cases v<;>exact trivial
theorem fixOk_of {x:Nat→TV}(hx:∀ i,alT (fun i=>31≤i∧i<2000) (x i)) {b:B}{tk cN gN:Nat}{lb eb:Bool}{way:TV}(h1:∀ t∈b.tr,nr t) (h2:nr way):FixOk x (MSof b tk cN gN lb eb) way:=⟨hx,h1,oi_nr _,oi_nr _,h2⟩
theorem turn_of {al:List (Nat×Nat)}(hk:(al.map (·.1)).Nodup) {i j:Nat}(h:(i,j)∈al):turn al i=j:=by unfold turn; rw [lkC_of_mem hk h]; rfl
theorem turn_no {al:List (Nat×Nat)}{i:Nat}(h:i∉al.map (·.1)):turn al i=i:=by unfold turn; rw [lkC_none h]; rfl
theorem back_keys (al:List (Nat×Nat)):(back al).map (·.1)=al.map (·.2):=by unfold back; rw [List.map_map]; rfl
def turned (al:List (Nat×Nat)) (ρ:Rho):Rho:=fun i=>if i<NX then ρ (turn (back al) i) else none
section
variable {prog:Program}{w:World}{hb:HB}{mg mb:Str→Option Value}{g f g0 f0:PH}{ρ ρ0:Rho}{h:Heap}{l sel tgt junk:List Ent}{al:List (Nat×Nat)}
theorem conv (R:Rel prog w clo g f h ρ l) (hp:l.Perm (sel++junk)) (hv:(al.map (·.2)).Nodup) (hal:∀ e∈sel,alE (fun i=>goodI al i∧turn al i<NX) e) (ht:sel.map (renE (turn al))=tgt):Rel prog w clo g f h (turned al ρ) tgt:=by
  have R1:=(R.perm hp).less (List.sublist_append_left sel junk)
  rw [← ht]
  refine R1.ren (p:=fun i=>goodI al i∧turn al i<NX) (fun i hi q hq => ?_) hal
  unfold turned
  rw [if_pos hi.2,turn_back hv hi.1]; exact hq
theorem turned_fix (hk:∀ i,fixP i→i∉al.map (·.2)) (hf:∀ i,fixP i→∀ q,ρ0 i=some q→ρ i=some q):∀ i,fixP i→∀ q,ρ0 i=some q→turned al ρ i=some q:=fun i hi q e=>by
  have hlt:i<NX:=by
    rcases hi with hi | hi
    · have:∀ z∈fixIds,z<NX:=by
        intro z hz
        have:=List.all_eq_true.mp (show fixIds.all (fun z=>Nat.blt z NX)=true by kernel_rfl) z hz
        exact Nat.le_of_ble_eq_true this
      exact this i hi
    · have:i<2000:=hi.2
      show i<1000000
      omega
  unfold turned
  rw [if_pos hlt,turn_no (by rw [back_keys]; exact hk i hi)]
  exact hf i hi q e
theorem fixP_lt {i:Nat}(h:fixP i):i≤1999∧i≠10∧i≠11∧i≠12:=by
  rcases h with h | h
  · have:=List.all_eq_true.mp (show fixIds.all (fun z=>Nat.ble z 1999 && !(Nat.beq z 10) && !(Nat.beq z 11) && !(Nat.beq z 12))=true by kernel_rfl) i h
    simp only [Bool.and_eq_true,Bool.not_eq_true'] at this
    obtain ⟨⟨⟨h1,h2⟩,h3⟩,h4⟩:=this
    refine ⟨Nat.le_of_ble_eq_true h1,?_,?_,?_⟩<;>rintro rfl<;>simp at h2 h3 h4
  · omega
theorem tasksR_al {p:Nat→Prop}:∀ {r:List Tsk},(∀ t∈r,nrK t)→(∀ z,2000≤z→z<2000+4*r.length→p z)→∀ e∈tasksR r,alE p e
  | [],_,_,e,he=>by cases he
  | t::r,hn,hp,e,he=>by
    rcases List.mem_append.mp he with he | he
    · refine tcells_al (hn t (.head _)) (fun z hz=>hp z ?_ ?_) e he
      · cases t<;>simp [tids,tcells] at hz<;>omega
      · cases t<;>simp [tids,tcells] at hz<;>(rw [List.length_cons]; omega)
    · exact tasksR_al (fun t ht=>hn t (.tail _ ht)) (fun z h1 h2=>hp z h1 (by rw [List.length_cons]; omega)) e he
theorem tasksS_al {p:Nat→Prop}:∀ {r:List Tsk},(∀ z,2000≤z→z<2000+4*r.length→p z)→∀ t∈tasksS r,alT p t
  | [],_,t,ht=>by cases ht
  | _::r,hp,t,ht=>by
    rcases List.mem_cons.mp ht with rfl | ht
    · exact hp _ (by omega) (by rw [List.length_cons]; omega)
    · exact tasksS_al (fun z h1 h2=>hp z h1 (by rw [List.length_cons]; omega)) t ht
end
end
section
section
variable {prog:Program}{w:World}{hb:HB}{mg mb:Str→Option Value}
theorem Hyp.snd (H:Hyp prog w hb mg mb) (n:Nat):Snd prog w clo hb (ev n):=Nu.snd H.B H.T H.O clo_all (sndX H.B H.C) (sndS' H.B H.C) n
abbrev Loop (prog:Program) (w:World) (A:Around) (env:Env) (Q:Result→Shared→Prop) (s:Shared):Prop:=codeAny (model prog w) A (.whileLoop runLoop.1 runLoop.2 [] env) Q s
variable {A:Around}{env:Env}{g f g0 f0:PH}{ρ ρ0:Rho}{s:Shared}{Q:Result→Shared→Prop}
theorem loop_turn (H:Hyp prog w hb mg mb) {n d:Nat}(r:Room d A) (N:EnvR ρ rae env) {σ σ':St}{c:List Prop}(e:stepM n d σ=some (.next,σ',c)) (hc:allP c) (R:RelS prog w clo hb σ g f ρ s)
    (k:∀ g' f' ρ' s',Ext g f ρ g' f' ρ'→RelS prog w clo hb σ' g' f' ρ' s'→Loop prog w A env Q s'):Loop prog w A env Q s:=by
  obtain ⟨b,σ1,c1,c2,e1,e2,hc1,hc2⟩:=bd_inv e hc
  have S:=H.snd n
  refine while_turn (wpAny_mono (S.tr A d g f ρ rae env runLoop.1 r N σ b σ1 c1 e1 hc1 s R) (fun b' s1 x1 => ?_) fun _ _ z=>z)
  obtain ⟨g1,f1,ρ1,E1,R1,V1⟩:=x1
  have V1:b'=b:=V1
  subst V1
  rcases ifB_inv e2 with ⟨rfl,e2⟩ | ⟨rfl,e2⟩
  · rw [if_pos rfl]
    refine wpAny_mono (S.ss A d g1 f1 ρ1 rae env runLoop.2 r (N.mono E1.rl) σ1 .next σ' c2 e2 hc2 s1 R1) (fun f' s2 x2 => ?_) fun _ _ z=>z
    obtain ⟨g2,f2,ρ2,E2,R2,V2⟩:=x2
    cases V2
    exact k _ _ _ _ (E1.trans E2) R2
  · cases e2
variable (prog w hb A env g0 f0 ρ0) in
structure Goes (x:Nat→TV) (c c':Conf):Prop where
  go:∀ Q,(∀ s,Good prog w hb x g0 f0 ρ0 c' s→Loop prog w A env Q s)→∀ s,Good prog w hb x g0 f0 ρ0 c s→Loop prog w A env Q s
variable {x:Nat→TV}
theorem Goes.refl {c:Conf}:Goes prog w hb A env g0 f0 ρ0 x c c:=⟨fun _ h=>h⟩
theorem Goes.trans {a b c:Conf}(h:Goes prog w hb A env g0 f0 ρ0 x a b) (h':Goes prog w hb A env g0 f0 ρ0 x b c):Goes prog w hb A env g0 f0 ρ0 x a c:=⟨fun Q k=>h.go Q (h'.go Q k)⟩
structure Ground0 (x:Nat→TV) (A:Around) (ρ0:Rho) (env:Env):Prop where
  room:Room 16 A
  env:EnvR ρ0 rae env
  x:∀ i,alT (fun i=>31≤i∧i<2000) (x i)
theorem env_fix (N:EnvR ρ0 rae env) (hf:∀ i,fixP i→∀ q,ρ0 i=some q→ρ i=some q):EnvR ρ rae env :=
  ⟨N.sc,N.fn,N.gl,N.bl,let ⟨d,e⟩:=N.lo; ⟨d,hf 8 (.inl (by unfold fixIds; decide)) _ e⟩,by
    have key:∀ z,ClR ρ0 [] z→ClR ρ [] z:=fun z h=>by cases h; exact .nil
    exact key _ N.cs,N.co⟩
theorem sel_of {cells sel:List Ent}(hn:(sel.map (·.1)).Nodup) (h:∀ e∈sel,lkC cells e.1=some e.2):∃ junk,cells.Perm (sel++junk):=by
  obtain ⟨rest,p1,_⟩:=split_pre (pre:=sel) (post:=sel) rfl hn h
  exact ⟨rest,p1⟩
theorem land_pop {l:List Ent}{h:Heap}{r:List Tsk}{b:B}{tk cN gN:Nat}{lb eb:Bool}{way:TV}{junk:List Ent}(ok:FixOk x (MSof b tk cN gN lb eb) way) (hn:∀ t∈r,nrK t) (hl:r.length≤20001)
    (R:Rel prog w clo g f h ρ l) (hp:l.Perm ((fixedC x (MSof b tk cN gN lb eb) way (tasksS r)++tasksR r)++junk)) :
    ∃ al,(∀ i,fixP i→i∉al.map (·.2))∧Rel prog w clo g f h (turned al ρ) (Conf.cells x ⟨b,tk,way,r⟩ (MSof b tk cN gN lb eb)):=by
  have hNX:NX=1000000:=rfl
  cases r with
  | nil =>
    refine ⟨[],(fun i _ h=>by cases h),conv (al:=[]) R hp .nil (fun e he => ?_) ?_⟩
    · rw [show tasksR []=[] from rfl,show tasksS []=[] from rfl,List.append_nil] at he
      refine fixed_al ok (fun i hi=>⟨.inr ⟨by simp,by simp⟩,?_⟩) (fun t ht=>by cases ht) e he
      show i<NX
      have:=(fixP_lt hi).1; omega
    · rw [show tasksR []=[] from rfl,show tasksS []=[] from rfl,List.append_nil]
      exact fixed_ren ok (fun i _=>rfl) rfl
  | cons t r =>
    let b0:=2000+4*r.length
    let al:List (Nat×Nat):=(tids t b0 (b0+1) (b0+2)).zip (tids t 10 11 12)
    have hlr:r.length+1≤20001:=hl
    have e1:al.map (·.1)=tids t b0 (b0+1) (b0+2):=by
      show (List.zip _ _).map _=_
      rw [List.map_fst_zip]; cases t<;>simp [tids,tcells]
    have e2:al.map (·.2)=tids t 10 11 12:=by
      show (List.zip _ _).map _=_
      rw [List.map_snd_zip]; cases t<;>simp [tids,tcells]
    have hv:(al.map (·.2)).Nodup:=by rw [e2]; cases t<;>simp [tids,tcells]
    have hk:(al.map (·.1)).Nodup:=by rw [e1]; cases t<;>simp [tids,tcells]<;>omega
    have keyr:∀ z∈al.map (·.1),b0≤z∧z≤b0+2:=fun z hz=>by
      rw [e1] at hz; cases t<;>simp [tids,tcells] at hz<;>omega
    have valr:∀ z∈al.map (·.2),z=10∨z=11∨z=12:=fun z hz=>by
      rw [e2] at hz; cases t<;>simp [tids,tcells] at hz<;>omega
    have ht10:turn al b0=10:=turn_of hk (by
      show (b0,10)∈List.zip _ _
      cases t<;>exact .head _)
    have other:∀ z,z∉al.map (·.1)→z∉al.map (·.2)→z<NX→goodI al z∧turn al z<NX:=fun z h1 h2 h3=>⟨.inr ⟨h1,h2⟩,by rw [turn_no h1]; exact h3⟩
    have fixg:∀ i,fixP i→goodI al i∧turn al i<NX:=fun i hi=>by
      have:=fixP_lt hi
      exact other i (fun q=>by have:=keyr i q; omega) (fun q=>by have:=valr i q; omega) (by omega)
    have hidg:∀ z,2000≤z→z<b0→goodI al z∧turn al z<NX:=fun z h1 h2=>other z (fun q=>by have:=keyr z q; omega) (fun q=>by have:=valr z q; omega) (by omega)
    have keyg:∀ z∈tids t b0 (b0+1) (b0+2),goodI al z∧turn al z<NX:=fun z hz=>by
      refine ⟨.inl (by rw [e1]; exact hz),?_⟩
      have hz:z∈al.map (·.1):=by rw [e1]; exact hz
      obtain ⟨q,hq,rfl⟩:=List.mem_map.mp hz
      rw [turn_of hk hq]
      have:=valr q.2 (List.mem_map_of_mem hq)
      omega
    have hb0g:goodI al b0∧turn al b0<NX:=keyg b0 (by cases t<;>exact .head _)
    have hp':l.Perm (((tcells t b0 (b0+1) (b0+2)++fixedC x (MSof b tk cN gN lb eb) way (.ref b0::tasksS r))++tasksR r)++junk):=hp.trans (List.Perm.append_right _ (by
      rw [List.append_assoc]
      exact List.perm_append_comm_assoc _ _ _))
    refine ⟨al,fun i hi q=>by have:=valr i q; have:=fixP_lt hi; omega,conv R hp' hv (fun e he => ?_) ?_⟩
    · rcases List.mem_append.mp he with he | he
      · rcases List.mem_append.mp he with he | he
        · exact tcells_al (hn t (.head _)) keyg e he
        · refine fixed_al ok fixg (fun t' ht' => ?_) e he
          rcases List.mem_cons.mp ht' with rfl | ht'
          · exact hb0g
          · exact tasksS_al hidg t' ht'
      · exact tasksR_al (fun t' ht'=>hn t' (.tail _ ht')) hidg e he
    · have hidr:∀ z,2000≤z→z<b0→turn al z=z:=fun z h1 h2=>turn_no (fun q=>by have:=keyr z q; omega)
      have fixr:∀ i,fixP i→turn al i=i:=fun i hi=>turn_no (fun q=>by have:=keyr i q; have:=fixP_lt hi; omega)
      rw [List.map_append,List.map_append]
      rw [fixed_ren ok fixr (S':=.ref 10::tasksS r) (by
        show renT (turn al) (.ref b0)::renTs (turn al) (tasksS r)=_
        rw [show renT (turn al) (.ref b0) = .ref (turn al b0) from rfl,ht10]
        rw [renTs_id (alTs_mem.mpr (tasksS_al hidr))])]
      rw [renL_id (tasksR_al (fun t' ht'=>hn t' (.tail _ ht')) hidr)]
      rw [tcells_ren (i':=10) (j':=11) (k':=12) (hn t (.head _)) (by
        rw [← e1,← e2]
        rw [List.map_map]
        exact List.map_congr_left fun q hq=>turn_of hk (by obtain ⟨a,b⟩:=q; exact hq))]
      rfl
theorem land_push {l:List Ent}{h:Heap}{r:List Tsk}{c p:Tsk}{i j k a b':Nat}{b:B}{tk cN gN:Nat}{lb eb:Bool}{way:TV}{junk:List Ent}(ok:FixOk x (MSof b tk cN gN lb eb) way) (hn:∀ t∈r,nrK t) (hc:nrK c) (hq:nrK p) (hl:r.length≤20001)
    (nd:(tids c i j k++tids p 10 a b'++fixIds).Nodup) (rg:∀ z∈tids c i j k++tids p 10 a b',z≤30∨NX≤z)
    (R:Rel prog w clo g f h ρ l) (hp:l.Perm (((tcells c i j k++fixedC x (MSof b tk cN gN lb eb) way (.ref i::.ref 10::tasksS r))++(tcells p 10 a b'++tasksR r))++junk)) :
    ∃ al,(∀ i,fixP i→i∉al.map (·.2))∧Rel prog w clo g f h (turned al ρ) (Conf.cells x ⟨b,tk,way,c::p::r⟩ (MSof b tk cN gN lb eb)):=by
  have hNX:NX=1000000:=rfl
  let b0:=2000+4*r.length
  let al:List (Nat×Nat):=(tids c i j k++tids p 10 a b').zip (tids c 10 11 12++tids p b0 (b0+1) (b0+2))
  have tl:∀ (t:Tsk) (i j k i' j' k':Nat),(tids t i j k).length=(tids t i' j' k').length:=fun t _ _ _ _ _ _=>by cases t<;>simp [tids,tcells]
  have e1:al.map (·.1)=tids c i j k++tids p 10 a b':=by
    show (List.zip _ _).map _=_
    rw [List.map_fst_zip]; rw [List.length_append,List.length_append,tl c i j k 10 11 12,tl p 10 a b' b0 (b0+1) (b0+2)]; exact Nat.le_refl _
  have e2:al.map (·.2)=tids c 10 11 12++tids p b0 (b0+1) (b0+2):=by
    show (List.zip _ _).map _=_
    rw [List.map_snd_zip]; rw [List.length_append,List.length_append,tl c i j k 10 11 12,tl p 10 a b' b0 (b0+1) (b0+2)]; exact Nat.le_refl _
  have hz:al=(tids c i j k).zip (tids c 10 11 12)++(tids p 10 a b').zip (tids p b0 (b0+1) (b0+2)):=List.zip_append (tl c i j k 10 11 12)
  have hv:(al.map (·.2)).Nodup:=by
    rw [e2]
    have hb:b0 ≥ 2000:=Nat.le_add_right _ _
    cases c<;>cases p<;>simp [tids,tcells]<;>omega
  have hk:(al.map (·.1)).Nodup:=by rw [e1]; exact (List.nodup_append.mp nd).1
  have valr:∀ z∈al.map (·.2),z=10∨z=11∨z=12∨(b0≤z∧z≤b0+2):=fun z hz=>by
    rw [e2] at hz; cases c<;>cases p<;>simp [tids,tcells] at hz<;>omega
  have keyr:∀ z∈al.map (·.1),z≤30∨NX≤z:=fun z hz=>by rw [e1] at hz; exact rg z hz
  have keyf:∀ z∈al.map (·.1),z∉fixIds:=fun z hz q=>by rw [e1] at hz; exact (List.nodup_append.mp nd).2.2 z hz z q rfl
  have other:∀ z,z∉al.map (·.1)→z∉al.map (·.2)→z<NX→goodI al z∧turn al z<NX:=fun z h1 h2 h3=>⟨.inr ⟨h1,h2⟩,by rw [turn_no h1]; exact h3⟩
  have fixk:∀ i,fixP i→i∉al.map (·.1):=fun i hi q=>by
    have:=keyr i q
    rcases hi with hi | hi
    · exact keyf i q hi
    · omega
  have fixv:∀ i,fixP i→i∉al.map (·.2):=fun i hi q=>by
    have:=valr i q; have:=fixP_lt hi; omega
  have fixg:∀ i,fixP i→goodI al i∧turn al i<NX:=fun i hi=>other i (fixk i hi) (fixv i hi) (by have:=fixP_lt hi; omega)
  have hidk:∀ z,2000≤z→z<b0→z∉al.map (·.1):=fun z h1 h2 q=>by have:=keyr z q; omega
  have hidg:∀ z,2000≤z→z<b0→goodI al z∧turn al z<NX:=fun z h1 h2=>other z (hidk z h1 h2) (fun q=>by have:=valr z q; omega) (by omega)
  have keyg:∀ z∈tids c i j k++tids p 10 a b',goodI al z∧turn al z<NX:=fun z hz=>by
    have hz:z∈al.map (·.1):=by rw [e1]; exact hz
    refine ⟨.inl hz,?_⟩
    obtain ⟨q,hq,rfl⟩:=List.mem_map.mp hz
    rw [turn_of hk hq]
    have:=valr q.2 (List.mem_map_of_mem hq)
    omega
  have hig:goodI al i∧turn al i<NX:=keyg i (List.mem_append_left _ (by cases c<;>exact .head _))
  have h10g:goodI al 10∧turn al 10<NX:=keyg 10 (List.mem_append_right _ (by cases p<;>exact .head _))
  have hti:turn al i=10:=turn_of hk (by rw [hz]; exact List.mem_append_left _ (by cases c<;>exact .head _))
  have ht10:turn al 10=b0:=turn_of hk (by rw [hz]; exact List.mem_append_right _ (by cases p<;>exact .head _))
  refine ⟨al,fixv,conv R hp hv (fun e he => ?_) ?_⟩
  · rcases List.mem_append.mp he with he | he
    · rcases List.mem_append.mp he with he | he
      · exact tcells_al hc (fun z hz=>keyg z (List.mem_append_left _ hz)) e he
      · refine fixed_al ok fixg (fun t' ht' => ?_) e he
        rcases List.mem_cons.mp ht' with rfl | ht'
        · exact hig
        · rcases List.mem_cons.mp ht' with rfl | ht'
          · exact h10g
          · exact tasksS_al hidg t' ht'
    · rcases List.mem_append.mp he with he | he
      · exact tcells_al hq (fun z hz=>keyg z (List.mem_append_right _ hz)) e he
      · exact tasksR_al hn hidg e he
  · have hidr:∀ z,2000≤z→z<b0→turn al z=z:=fun z h1 h2=>turn_no (hidk z h1 h2)
    have fixr:∀ i,fixP i→turn al i=i:=fun i hi=>turn_no (fixk i hi)
    rw [List.map_append,List.map_append,List.map_append]
    rw [fixed_ren ok fixr (S':=.ref 10::.ref b0::tasksS r) (by
      show renT (turn al) (.ref i)::renT (turn al) (.ref 10)::renTs (turn al) (tasksS r)=_
      rw [show renT (turn al) (.ref i) = .ref (turn al i) from rfl,hti,show renT (turn al) (.ref 10) = .ref (turn al 10) from rfl,ht10]
      rw [renTs_id (alTs_mem.mpr (tasksS_al hidr))])]
    rw [renL_id (tasksR_al hn hidr)]
    rw [tcells_ren (i':=10) (j':=11) (k':=12) hc (by
      have:∀ q∈(tids c i j k).zip (tids c 10 11 12),turn al q.1=q.2:=fun q hq=>turn_of hk (by rw [hz]; exact List.mem_append_left _ hq)
      calc (tids c i j k).map (turn al)=(((tids c i j k).zip (tids c 10 11 12)).map (·.1)).map (turn al):=by rw [List.map_fst_zip]; rw [tl c i j k 10 11 12]; exact Nat.le_refl _
        _=((tids c i j k).zip (tids c 10 11 12)).map (·.2):=by rw [List.map_map]; exact List.map_congr_left this
        _=_:=by rw [List.map_snd_zip]; rw [tl c i j k 10 11 12]; exact Nat.le_refl _)]
    rw [tcells_ren (i':=b0) (j':=b0+1) (k':=b0+2) hq (by
      have:∀ q∈(tids p 10 a b').zip (tids p b0 (b0+1) (b0+2)),turn al q.1=q.2:=fun q hq=>turn_of hk (by rw [hz]; exact List.mem_append_right _ hq)
      calc (tids p 10 a b').map (turn al)=(((tids p 10 a b').zip (tids p b0 (b0+1) (b0+2))).map (·.1)).map (turn al):=by rw [List.map_fst_zip]; rw [tl p 10 a b' b0 (b0+1) (b0+2)]; exact Nat.le_refl _
        _=((tids p 10 a b').zip (tids p b0 (b0+1) (b0+2))).map (·.2):=by rw [List.map_map]; exact List.map_congr_left this
        _=_:=by rw [List.map_snd_zip]; rw [tl p 10 a b' b0 (b0+1) (b0+2)]; exact Nat.le_refl _)]
    rfl
end
end
section
section
variable {prog:Program}{w:World}{hb:HB}{mg mb:Str→Option Value}{A:Around}{env:Env}{g f g0 f0:PH}{ρ ρ0:Rho}{s:Shared}{x:Nat→TV}
theorem fixIds_nodup:fixIds.Nodup:=nodupN_of (by kernel_rfl)
theorem behind {g f g' f'':PH}{ρ ρ':Rho}(h1:PH.le g0 g∧PH.le f0 f ∧ ∀ b o,g b=some o→g0 b=some o∨f0 b=none) (E:Ext g f ρ g' f'' ρ'):PH.le g0 g'∧PH.le f0 f'' ∧ ∀ b o,g' b=some o→g0 b=some o∨f0 b=none:=by
  obtain ⟨a1,a2,a3⟩:=h1
  refine ⟨PH.le_trans a1 E.gl,PH.le_trans a2 E.fl,fun b o e => ?_⟩
  rcases E.nw b o e with e | e
  · exact a3 b o e
  · refine .inr ?_
    cases q:f0 b with
    | none=>rfl
    | some o'=>rw [a2 _ _ q] at e; cases e
theorem turned_none {al:List (Nat×Nat)}:∀ i,NX≤i→turned al ρ i=none:=fun i hi=>by
  unfold turned
  rw [if_neg (Nat.not_lt.mpr hi)]
theorem goes_pop (H:Hyp prog w hb mg mb) (G0:Ground0 x A ρ0 env) {c:Conf}{t:Tsk}{r:List Tsk}{b':B}{tk':Nat}{way':TV}(hk:c.stk=t::r) (ok':c.Ok→Conf.Ok ⟨b',tk',way',r⟩)
    (run:∀ cN gN lb eb,∃ dirs cN' gN' lb' eb' conds,popO (stepM 100 16 ⟨frontC x (MSof c.b c.tk cN gN lb eb) c.way t (tasksS r),NX,dirs⟩)=some (wantF x (MSof b' tk' cN' gN' lb' eb') way' (tasksS r),conds) ∧
      (c.Ok→cN≤15+c.tk→gN≤15+c.tk→allP conds∧cN'≤15+tk'∧gN'≤15+tk')):Goes prog w hb A env g0 f0 ρ0 x c ⟨b',tk',way',r⟩:=by
  refine ⟨fun Q k s hgood => ?_⟩
  obtain ⟨ok,g,f,ρ,cN,gN,lb,eb,h1,h2,h3,h4,R,h5,h6⟩:=hgood
  obtain ⟨dirs,cN',gN',lb',eb',conds,hrun,hcs⟩:=run cN gN lb eb
  obtain ⟨hc,h5',h6'⟩:=hcs ok h5 h6
  obtain ⟨σ,hσ,hsel⟩:=popO_at hrun
  unfold Conf.cells at R
  rw [hk] at R
  dsimp only at R
  have R1:=R.sub (l1:=frontC x (MSof c.b c.tk cN gN lb eb) c.way t (tasksS r)) (l2:=tasksR r) (.refl _)
  refine loop_turn H G0.room (env_fix G0.env h2) hσ hc ⟨R1,h3,h4⟩ fun g' f' ρ' s' E' R' => ?_
  obtain ⟨R2,E2⟩:=R.back (.refl _) E' R'.r
  have okn:=ok' ok
  obtain ⟨junk,hp⟩:=sel_of (cells:=σ.cells) (sel:=fixedC x (MSof b' tk' cN' gN' lb' eb') way' (tasksS r)) (by rw [fixed_ids]; exact fixIds_nodup) hsel
  have hp2:(σ.cells++tasksR r).Perm ((fixedC x (MSof b' tk' cN' gN' lb' eb') way' (tasksS r)++tasksR r)++junk):=by
    refine (List.Perm.append_right _ hp).trans ?_
    rw [List.append_assoc,List.append_assoc]
    exact List.Perm.append_left _ List.perm_append_comm
  obtain ⟨al,hal,R3⟩:=land_pop (r:=r) (fixOk_of G0.x okn.tr okn.way) okn.stk (by have h8:=ok.tk; have h9:=ok.sl; rw [hk,List.length_cons] at h9; omega) R2 hp2
  exact k s' ⟨okn,g',_,_,cN',gN',lb',eb',behind h1 E2,turned_fix hal (fun i hi q e=>E2.rl _ _ (h2 i hi q e)),turned_none,R'.b0,R3,h5',h6'⟩
theorem goes_push (H:Hyp prog w hb mg mb) (G0:Ground0 x A ρ0 env) {c:Conf}{t ch t':Tsk}{r:List Tsk}{b':B}{tk':Nat}(hk:c.stk=t::r) (ok':c.Ok→Conf.Ok ⟨b',tk',.none,ch::t'::r⟩)
    (run:∀ cN gN lb eb,∃ dirs cN' gN' lb' eb' conds,pushO (stepM 100 16 ⟨frontC x (MSof c.b c.tk cN gN lb eb) c.way t (tasksS r),NX,dirs⟩)=some (wantP x (MSof b' tk' cN' gN' lb' eb') .none,.ref 10::tasksS r,obsOf ch,obsOf t',true,conds) ∧
      (c.Ok→cN≤15+c.tk→gN≤15+c.tk→allP conds∧cN'≤15+tk'∧gN'≤15+tk')):Goes prog w hb A env g0 f0 ρ0 x c ⟨b',tk',.none,ch::t'::r⟩:=by
  refine ⟨fun Q k s hgood => ?_⟩
  obtain ⟨ok,g,f,ρ,cN,gN,lb,eb,h1,h2,h3,h4,R,h5,h6⟩:=hgood
  obtain ⟨dirs,cN',gN',lb',eb',conds,hrun,hcs⟩:=run cN gN lb eb
  obtain ⟨hc,h5',h6'⟩:=hcs ok h5 h6
  obtain ⟨σ,i,j,kk,a,b,hσ,hf,ht,hpt,nd,rg⟩:=pushO_at hrun
  unfold Conf.cells at R
  rw [hk] at R
  dsimp only at R
  have R1:=R.sub (l1:=frontC x (MSof c.b c.tk cN gN lb eb) c.way t (tasksS r)) (l2:=tasksR r) (.refl _)
  refine loop_turn H G0.room (env_fix G0.env h2) hσ hc ⟨R1,h3,h4⟩ fun g' f' ρ' s' E' R' => ?_
  obtain ⟨R2,E2⟩:=R.back (.refl _) E' R'.r
  have okn:=ok' ok
  obtain ⟨junk,hp⟩:=sel_of (cells:=σ.cells) (sel:=tcells ch i j kk++(tcells t' 10 a b++fixedC x (MSof b' tk' cN' gN' lb' eb') .none (.ref i::.ref 10::tasksS r))) (by
      rw [List.map_append,List.map_append,fixed_ids,← List.append_assoc]; exact nd) (fun e he=>by
      rcases List.mem_append.mp he with he | he
      · exact ht e he
      · rcases List.mem_append.mp he with he | he
        · exact hpt e he
        · exact hf e he)
  have hp2:(σ.cells++tasksR r).Perm (((tcells ch i j kk++fixedC x (MSof b' tk' cN' gN' lb' eb') .none (.ref i::.ref 10::tasksS r))++(tcells t' 10 a b++tasksR r))++junk):=by
    refine (List.Perm.append_right _ hp).trans ?_
    simp only [List.append_assoc]
    refine List.Perm.append_left _ ?_
    refine (List.perm_append_comm_assoc _ _ _).trans ?_
    refine List.Perm.append_left _ (List.Perm.append_left _ List.perm_append_comm)
  obtain ⟨al,hal,R3⟩:=land_push (fixOk_of G0.x okn.tr okn.way) (fun t ht=>okn.stk t (.tail _ (.tail _ ht))) (okn.stk ch (.head _)) (okn.stk t' (.tail _ (.head _))) (by have:=ok.sl; have h8:=ok.tk; rw [hk,List.length_cons] at this; omega) nd rg R2 hp2
  exact k s' ⟨okn,g',_,_,cN',gN',lb',eb',behind h1 E2,turned_fix hal (fun i hi q e=>E2.rl _ _ (h2 i hi q e)),turned_none,R'.b0,R3,h5',h6'⟩
theorem goes_popR (H:Hyp prog w hb mg mb) (G0:Ground0 x A ρ0 env) {c:Conf}{t:Tsk}{r:List Tsk}{b':B}{tk':Nat}{way':TV}(hk:c.stk=t::r) (ok':c.Ok→Conf.Ok ⟨b',tk',way',r⟩)
    (run:∀ cN gN lb eb,∃ dirs cN' gN' lb' eb' conds,popR (stepM 100 16 ⟨frontC x (MSof c.b c.tk cN gN lb eb) c.way t (tasksS r)++tasksR r,NX,dirs⟩)=some (wantF x (MSof b' tk' cN' gN' lb' eb') way' (tasksS r),tasksR r,conds) ∧
      (c.Ok→cN≤15+c.tk→gN≤15+c.tk→allP conds∧cN'≤15+tk'∧gN'≤15+tk')):Goes prog w hb A env g0 f0 ρ0 x c ⟨b',tk',way',r⟩:=by
  refine ⟨fun Q k s hgood => ?_⟩
  obtain ⟨ok,g,f,ρ,cN,gN,lb,eb,h1,h2,h3,h4,R,h5,h6⟩:=hgood
  obtain ⟨dirs,cN',gN',lb',eb',conds,hrun,hcs⟩:=run cN gN lb eb
  obtain ⟨hc,h5',h6'⟩:=hcs ok h5 h6
  obtain ⟨σ,hσ,hsel,hd⟩:=popR_at hrun
  unfold Conf.cells at R
  rw [hk] at R
  dsimp only at R
  refine loop_turn H G0.room (env_fix G0.env h2) hσ hc ⟨R,h3,h4⟩ fun g' f' ρ' s' E' R' => ?_
  have okn:=ok' ok
  have hfront:∀ e∈fixedC x (MSof b' tk' cN' gN' lb' eb') way' (tasksS r),lkC (σ.cells.take 20) e.1=some e.2:=fun e he=>by
    have h9:=hsel e he
    have hs:σ.cells=σ.cells.take 20++tasksR r:=by rw [← hd]; exact (List.take_append_drop 20 σ.cells).symm
    have key:∀ (a b:List Ent) (i:Nat) (c:Cell),lkC (a++b) i=some c→(∀ q∈b,q.1≠i)→lkC a i=some c:=by
      intro a b i c
      induction a with
      | nil =>
        intro hh hb
        exact absurd (lkC_mem hh) (fun hm=>hb _ hm rfl)
      | cons p a ih =>
        intro hh hb
        rw [List.cons_append,lkC_cons] at hh
        rw [lkC_cons]
        by_cases q:p.1=i
        · rw [if_pos q] at hh ⊢; exact hh
        · rw [if_neg q] at hh ⊢; exact ih hh hb
    rw [hs] at h9
    refine key _ _ _ _ h9 fun q hq e1 => ?_
    have hqi:=(tasksR_al (p:=fun z=>2000≤z) okn.stk (fun z h _=>h) q hq).1
    have hei:e.1∈fixIds:=by rw [← fixed_ids x (MSof b' tk' cN' gN' lb' eb') way' (tasksS r)]; exact List.mem_map_of_mem (f:=(·.1)) he
    have:=(fixP_lt (.inl hei)).1
    omega
  obtain ⟨junk,hp⟩:=sel_of (cells:=σ.cells.take 20) (sel:=fixedC x (MSof b' tk' cN' gN' lb' eb') way' (tasksS r)) (by rw [fixed_ids]; exact fixIds_nodup) hfront
  have hp2:σ.cells.Perm ((fixedC x (MSof b' tk' cN' gN' lb' eb') way' (tasksS r)++tasksR r)++junk):=by
    have hs:σ.cells=σ.cells.take 20++tasksR r:=by rw [← hd]; exact (List.take_append_drop 20 σ.cells).symm
    rw [hs]
    refine (List.Perm.append_right _ hp).trans ?_
    rw [List.append_assoc,List.append_assoc]
    exact List.Perm.append_left _ List.perm_append_comm
  obtain ⟨al,hal,R3⟩:=land_pop (r:=r) (fixOk_of G0.x okn.tr okn.way) okn.stk (by have h8:=ok.tk; have h9:=ok.sl; rw [hk,List.length_cons] at h9; omega) R'.r hp2
  exact k s' ⟨okn,g',_,_,cN',gN',lb',eb',behind h1 E',turned_fix hal (fun i hi q e=>E'.rl _ _ (h2 i hi q e)),turned_none,R'.b0,R3,h5',h6'⟩
theorem cS_ok (S:List TV):cS S:=by
  unfold cS
  rw [List.length_cons]
  omega
theorem tick_ok {b:B}{tk cN gN:Nat}{lb eb:Bool}(h:tk+1≤20000):tkOk (MSof b tk cN gN lb eb):=by
  show ¬ (20000:Int)<((tk:Nat):Int)+1
  omega
theorem tasksS_len (r:List Tsk):(tasksS r).length=r.length:=by
  induction r with
  | nil=>rfl
  | cons t r ih=>show (tasksS r).length+1=_; rw [ih]; rfl
theorem cP_ok {r:List Tsk}(h:r.length≤20002):cP (tasksS r):=by
  show (TV.ref 10::tasksS r).length<1000000
  rw [List.length_cons,tasksS_len]; omega
theorem cA_ok {b:B}{tk cN gN:Nat}{lb eb:Bool}(h:b.tr.length≤tk) (h2:tk≤20000):cA (MSof b tk cN gN lb eb):=by
  show b.tr.length<1000000
  omega
end
end
theorem okw_value:okT (.str (u "value")):=⟨_,rfl,by kernel_rfl⟩
theorem okw_raise:okT (.str (u "raise")):=⟨_,rfl,by kernel_rfl⟩
theorem okw_retry:okT (.str (u "retry")):=⟨_,rfl,by kernel_rfl⟩
theorem okw_break:okT (.str (u "break")):=⟨_,rfl,by kernel_rfl⟩
theorem okw_next:okT (.str (u "next")):=⟨_,rfl,by kernel_rfl⟩
theorem okw_return:okT (.str (u "return")):=⟨_,rfl,by kernel_rfl⟩
theorem okw_body:okT (.str (u "body")):=⟨_,rfl,by kernel_rfl⟩
theorem okw_class:okT (.str (u "class")):=⟨_,rfl,by kernel_rfl⟩
theorem okw_asked:okT (.str (u "asked")):=⟨_,rfl,by kernel_rfl⟩
theorem okw_target:okT (.str (u "target")):=⟨_,rfl,by kernel_rfl⟩
theorem okw_rescue:okT (.str (u "rescue")):=⟨_,rfl,by kernel_rfl⟩
theorem okw_other:okT (.str (u "other")):=⟨_,rfl,by kernel_rfl⟩
theorem okw_ensure:okT (.str (u "ensure")):=⟨_,rfl,by kernel_rfl⟩
theorem okw_splat:okT (.str (u "splat")):=⟨_,rfl,by kernel_rfl⟩
theorem okw_int:okT (.str (u "int")):=⟨_,rfl,by kernel_rfl⟩
theorem okw_const:okT (.str (u "const")):=⟨_,rfl,by kernel_rfl⟩
abbrev wy (r:Res):TV:=wayT r.s r.v
def taskOf:TV→Tsk
  | .ins C ((a,.str k)::r)=>.plain k (.ins C ((a,.str k)::r)) (.int 0) []
  | t=>.plain (u "") t (.int 0) []
theorem taskOf_nd (k:Str) (p:TV):taskOf (ndT k p) = .plain k (ndT k p) (.int 0) []:=rfl
def tkKind:Tsk→Str
  | .plain k .. => k
  | .beg .. => u "begin"
def okS (r:List Tsk):Prop:=∀ t∈r,tkKind t∈okKinds
theorem nd_nr {k:Str}{p:TV}(h:nr p):nr (ndT k p):=⟨trivial,h,trivial,trivial,trivial⟩
theorem way_nr {k:String}{v:TV}(h:nr v):nr (wayT k v):=⟨trivial,h,trivial,trivial⟩
theorem Res.v_nr (r:Res):nr r.v:=by cases r<;>first | exact oi_nr _ | exact trivial
theorem wy_nr (r:Res):nr (wy r):=way_nr r.v_nr
theorem Conf.Ok.pop {b b':B}{tk:Nat}{way way':TV}{t:Tsk}{r:List Tsk}(ok:Conf.Ok ⟨b,tk,way,t::r⟩) (h:b'.tr=b.tr ∨ ∃ e,nr e∧b'.tr=e::b.tr) (hw:nr way') (htk:tk+1≤20000):Conf.Ok ⟨b',tk+1,way',r⟩ where
  tr:=by
    rcases h with h | ⟨e,he,h⟩
    · rw [h]; exact ok.tr
    · rw [h]; intro t ht
      rcases List.mem_cons.mp ht with rfl | ht
      · exact he
      · exact ok.tr t ht
  way:=hw
  stk:=fun t ht=>ok.stk t (.tail _ ht)
  trl:=by
    have:=ok.trl
    rcases h with h | ⟨e,he,h⟩
    · show b'.tr.length≤tk+1; rw [h]; exact Nat.le_succ_of_le this
    · show b'.tr.length≤tk+1; rw [h,List.length_cons]; exact Nat.succ_le_succ this
  sl:=by have:=ok.sl; rw [List.length_cons] at this; show r.length≤tk+1+1; have:r.length+1≤tk+1:=this; omega
  tk:=htk
theorem Conf.Ok.pass {b:B}{tk:Nat}{way way':TV}{t:Tsk}{r:List Tsk}(ok:Conf.Ok ⟨b,tk,way,t::r⟩) (hw:nr way'):Conf.Ok ⟨b,tk,way',r⟩ where
  tr:=ok.tr
  way:=hw
  stk:=fun t ht=>ok.stk t (.tail _ ht)
  trl:=ok.trl
  sl:=by have:=ok.sl; rw [List.length_cons] at this; show r.length≤tk+1; have:r.length+1≤tk+1:=this; omega
  tk:=ok.tk
theorem Conf.Ok.push {b b':B}{tk:Nat}{way:TV}{t t' c:Tsk}{r:List Tsk}(ok:Conf.Ok ⟨b,tk,way,t::r⟩) (h:b'.tr=b.tr ∨ ∃ e,nr e∧b'.tr=e::b.tr) (hc:nrK c) (ht:nrK t') (htk:tk+1≤20000):Conf.Ok ⟨b',tk+1,.none,c::t'::r⟩ where
  tr:=(ok.pop h (way':=.none) trivial htk).tr
  way:=trivial
  stk:=fun t hm=>by
    rcases List.mem_cons.mp hm with rfl | hm
    · exact hc
    · rcases List.mem_cons.mp hm with rfl | hm
      · exact ht
      · exact ok.stk t (.tail _ hm)
  trl:=(ok.pop h (way':=.none) trivial htk).trl
  sl:=by have:=ok.sl; rw [List.length_cons] at this; show r.length+1+1≤tk+1+1; have:r.length+1≤tk+1:=this; omega
  tk:=htk
theorem hidF_mem {l:List Ent}{e:Ent}(h:e∈l) (h1:2000≤e.1) (h2:e.1≤999999):e∈hidF l:=by
  induction l with
  | nil=>cases h
  | cons p r ih =>
    show e ∈ @Bool.rec (fun _=>List Ent) (hidF r) (p::hidF r) (Nat.ble 2000 p.1&&Nat.ble p.1 999999)
    rcases List.mem_cons.mp h with rfl | h
    · rw [Nat.ble_eq_true_of_le h1,Nat.ble_eq_true_of_le h2]; exact .head _
    · cases (Nat.ble 2000 p.1&&Nat.ble p.1 999999) with
      | true=>exact .tail _ (ih h)
      | false=>exact ih h
theorem over_ok:∀ {r:List Tsk},okS r→r.length≤20002→OverOk (hidF (tasksR r)) (tasksS r)
  | [],_,_=>fun t ht=>by cases ht
  | t::r,h,hl=>fun t' ht'=>by
    have mono:∀ e,e∈tasksR r→2000≤e.1→e.1≤999999→e∈hidF (tasksR (t::r)):=fun e he h1 h2=>hidF_mem (List.mem_append_right _ he) h1 h2
    have hl:r.length+1≤20002:=hl
    rcases List.mem_cons.mp ht' with rfl | ht'
    · refine ⟨2000+4*r.length,?_⟩
      cases t with
      | plain k nd st hd=>exact ⟨k,nd,st,.ref (2000+4*r.length+1),rfl,hidF_mem (List.mem_append_left _ (.head _)) (Nat.le_add_right _ _) (by show 2000+4*r.length≤999999; omega),h _ (.head _)⟩
      | beg nd st w a q ts bf=>exact ⟨u "begin",nd,.str st,.ref (2000+4*r.length+1),rfl,hidF_mem (List.mem_append_left _ (.head _)) (Nat.le_add_right _ _) (by show 2000+4*r.length≤999999; omega),h _ (.head _)⟩
    · obtain ⟨i,kd,nd,st,hd,e1,e2,e3⟩:=over_ok (fun t ht=>h t (.tail _ ht)) (by omega) t' ht'
      refine ⟨i,kd,nd,st,hd,e1,?_,e3⟩
      have sub:∀ {l:List Ent}{e:Ent},e∈hidF l→e∈l∧2000≤e.1∧e.1≤999999:=by
        intro l e he
        induction l with
        | nil=>cases he
        | cons p r ih =>
          have he:e ∈ @Bool.rec (fun _=>List Ent) (hidF r) (p::hidF r) (Nat.ble 2000 p.1&&Nat.ble p.1 999999):=he
          cases q:(Nat.ble 2000 p.1&&Nat.ble p.1 999999) with
          | true =>
            rw [q] at he
            rw [Bool.and_eq_true] at q
            rcases List.mem_cons.mp he with rfl | he
            · exact ⟨.head _,Nat.le_of_ble_eq_true q.1,Nat.le_of_ble_eq_true q.2⟩
            · have:=ih he; exact ⟨.tail _ this.1,this.2⟩
          | false=>rw [q] at he; have:=ih he; exact ⟨.tail _ this.1,this.2⟩
      obtain ⟨m1,m2,m3⟩:=sub e2
      exact hidF_mem (List.mem_append_right _ m1) m2 m3
section
section
variable {prog:Program}{w:World}{hb:HB}{mg mb:Str→Option Value}{A:Around}{env:Env}{g0 f0:PH}{ρ0:Rho}{x:Nat→TV}
theorem push_len {b:B}{tk:Nat}{way:TV}{t:Tsk}{r:List Tsk}(ok:Conf.Ok ⟨b,tk,way,t::r⟩):r.length≤20002:=by
  have h1:r.length+1≤tk+1:=ok.sl
  have h2:tk≤20000:=ok.tk
  omega
theorem over_len {b:B}{tk:Nat}{way:TV}{t:Tsk}{r:List Tsk}(ok:Conf.Ok ⟨b,tk,way,t::r⟩):r.length≤20002:=push_len ok
theorem dict_len {n tk:Nat}(h:n≤15+tk) (h2:tk≤20000):n<szL:=by show n<1000000; omega
theorem cnt_yes {b:B}{n k:Int}{tk cN gN:Nat}{lb eb:Bool}(h:b.cnt n≤k):(((MSof b tk cN gN lb eb).count n).ct n).getD 0≤k:=by
  show ((if n=n then some (b.cnt n) else b.ct n)).getD 0≤k
  rw [if_pos rfl]; exact h
theorem cnt_no {b:B}{n k:Int}{tk cN gN:Nat}{lb eb:Bool}(h:¬ b.cnt n≤k):¬ (((MSof b tk cN gN lb eb).count n).ct n).getD 0≤k:=by
  show ¬ ((if n=n then some (b.cnt n) else b.ct n)).getD 0≤k
  rw [if_pos rfl]; exact h
abbrev pl (k:String) (as:List TV) (i:Int):Tsk:=.plain (u k) (ndT (u k) (.tup as)) (.int i) []
abbrev nk (k:Str) (p:TV):Tsk:=.plain k (ndT k p) (.int 0) []
abbrev bg (bd:TV) (rs:List TV) (o l:TV) (s:String) (W:TV) (a q:Int) (ts:List TV) (bf:TV):Tsk:=.beg (ndT (u "begin") (.tup [bd,.lst rs,o,l])) (u s) W a q ts bf
inductive Ef
  | tick | note (t:TV) | last (o:Option Int) | target (o:Option Int)
def Ef.ms:Ef→MS→MS
  | .tick,m=>m.tick
  | .note t,m=>m.tick.note t
  | .last o,m=>m.tick.last (oi o)
  | .target o,m=>m.tick.target (oi o)
def Ef.b:Ef→B→B
  | .tick,b=>b
  | .note t,b=>b.note t
  | .last o,b=>⟨b.tr,b.ct,o,b.er⟩
  | .target o,b=>⟨b.tr,b.ct,b.la,o⟩
def Ef.nr:Ef→Prop
  | .note t=>Nu.nr t
  | _=>True
def Ef.mute:Ef→Prop
  | .note _=>False
  | _=>True
theorem Ef.at_ (E:Ef) (b:B) (tk cN gN:Nat) (lb eb:Bool):∃ gN' lb' eb',E.ms (MSof b tk cN gN lb eb)=MSof (E.b b) (tk+1) cN gN' lb' eb'∧gN'≤gN+1:=by
  cases E
  · exact ⟨_,_,_,rfl,Nat.le_succ _⟩
  · exact ⟨_,_,_,rfl,Nat.le_succ _⟩
  · exact ⟨_,_,_,rfl,Nat.le_refl _⟩
  · exact ⟨_,_,_,rfl,Nat.le_refl _⟩
theorem Ef.tr (E:Ef) (h:E.nr) (b:B):(E.b b).tr=b.tr ∨ ∃ e,Nu.nr e∧(E.b b).tr=e::b.tr:=by
  cases E
  · exact .inl rfl
  · exact .inr ⟨_,h,rfl⟩
  · exact .inl rfl
  · exact .inl rfl
inductive CK
  | s | t | a | p | g | v (x:String) | w (x y:String) | o (x:String) | x (p:Prop)
abbrev vv:CK:=.v "value"
def CK.den (m:MS) (S:List TV):CK→Prop
  | .s=>cS S
  | .t=>tkOk m
  | .a=>cA m
  | .p=>cP S
  | .g=>m.gN<szL
  | .v i=>ok2 i "value"
  | .w i j=>ok2 i j
  | .o i=>okT (.str (u i))
  | .x q=>q
def isW (x:String):Bool:=["value","raise","retry","break","next","return","body","class","asked","target","rescue","other","ensure","splat","int","const"].contains x
theorem isW_ok {x:String}(h:isW x=true):okT (.str (u x)):=by
  have h:x∈["value","raise","retry","break","next","return","body","class","asked","target","rescue","other","ensure","splat","int","const"]:=List.contains_iff_mem.mp h
  simp only [List.mem_cons,List.not_mem_nil,or_false] at h
  rcases h with rfl | rfl | rfl | rfl | rfl | rfl | rfl | rfl | rfl | rfl | rfl | rfl | rfl | rfl | rfl | rfl
  all_goals first | exact okw_value | exact okw_raise | exact okw_retry | exact okw_break | exact okw_next | exact okw_return | exact okw_body | exact okw_class | exact okw_asked | exact okw_target | exact okw_rescue | exact okw_other | exact okw_ensure | exact okw_splat | exact okw_int | exact okw_const
def CK.good:CK→Bool
  | .v i=>isW i
  | .w i j=>isW i&&isW j
  | .o i=>isW i
  | _=>true
def exP:List CK→Prop
  | []=>True
  | .x q::r=>q∧exP r
  | _::r=>exP r
theorem ck_all {b:B}{tk cN gN:Nat}{lb eb:Bool}{way:TV}{t:Tsk}{r:List Tsk}(ok:Conf.Ok ⟨b,tk,way,t::r⟩) (h:tk+1≤20000) (h6:gN≤15+tk):∀ {L:List CK},L.all CK.good=true→exP L→allP (L.map (CK.den (MSof b tk cN gN lb eb) (tasksS r)))
  | [],_,_=>trivial
  | c::L,hL,hx=>by
    have hL:(c.good&&L.all CK.good)=true:=hL
    rw [Bool.and_eq_true] at hL
    have e:isW "value" = true:=by kernel_rfl
    cases c with
    | s=>exact ⟨cS_ok _,ck_all ok h h6 hL.2 hx⟩
    | t=>exact ⟨tick_ok h,ck_all ok h h6 hL.2 hx⟩
    | a=>exact ⟨cA_ok ok.trl ok.tk,ck_all ok h h6 hL.2 hx⟩
    | p=>exact ⟨cP_ok (push_len ok),ck_all ok h h6 hL.2 hx⟩
    | g=>exact ⟨dict_len h6 ok.tk,ck_all ok h h6 hL.2 hx⟩
    | v x=>exact ⟨⟨isW_ok hL.1,isW_ok e⟩,ck_all ok h h6 hL.2 hx⟩
    | w x y=>exact ⟨⟨isW_ok (Bool.and_eq_true_iff.mp hL.1).1,isW_ok (Bool.and_eq_true_iff.mp hL.1).2⟩,ck_all ok h h6 hL.2 hx⟩
    | o x=>exact ⟨isW_ok hL.1,ck_all ok h h6 hL.2 hx⟩
    | x p=>exact ⟨hx.1,ck_all ok h h6 hL.2 hx.2⟩
inductive So
  | raise | retry | brk | nxt | ret
def So.s:So→String
  | .raise=>"raise"
  | .retry=>"retry"
  | .brk=>"break"
  | .nxt=>"next"
  | .ret=>"return"
abbrev PopG (_:Hyp prog w hb mg mb) (_:Ground0 x A ρ0 env) (g0 f0:PH) (bb:B) (tk:Nat) (r:List Tsk) (b':B) (way:TV) (top:Tsk) (way':TV):Prop:=tk+1≤20000→nr way'→Goes prog w hb A env g0 f0 ρ0 x ⟨bb,tk,way,top::r⟩ ⟨b',tk+1,way',r⟩
abbrev PopN (_:Hyp prog w hb mg mb) (_:Ground0 x A ρ0 env) (g0 f0:PH) (bb:B) (tk:Nat) (r:List Tsk) (t:TV) (way:TV) (top:Tsk) (way':TV):Prop:=tk+1≤20000→nr t→nr way'→Goes prog w hb A env g0 f0 ρ0 x ⟨bb,tk,way,top::r⟩ ⟨bb.note t,tk+1,way',r⟩
abbrev PassG (_:Hyp prog w hb mg mb) (_:Ground0 x A ρ0 env) (g0 f0:PH) (bb:B) (tk:Nat) (r:List Tsk) (way:TV) (top:Tsk):Prop:=nr way→Goes prog w hb A env g0 f0 ρ0 x ⟨bb,tk,way,top::r⟩ ⟨bb,tk,way,r⟩
abbrev PushG (_:Hyp prog w hb mg mb) (_:Ground0 x A ρ0 env) (g0 f0:PH) (bb:B) (tk:Nat) (r:List Tsk) (b':B) (way:TV) (top ch pa:Tsk):Prop:=tk+1≤20000→nrK ch→nrK pa→Goes prog w hb A env g0 f0 ρ0 x ⟨bb,tk,way,top::r⟩ ⟨b',tk+1,.none,ch::pa::r⟩
variable (H:Hyp prog w hb mg mb) (G0:Ground0 x A ρ0 env) {bb:B}{tk:Nat}{r:List Tsk}
theorem popL {way way':TV}{top:Tsk}(dirs:List Nat) (E:Ef) (L:List CK) (hL:L.all CK.good=true) (hx:exP L) (hn:E.nr) (run:∀ cN gN lb eb S,popO (stepM 100 16 ⟨frontC x (MSof bb tk cN gN lb eb) way top S,NX,dirs⟩)=some (wantF x (E.ms (MSof bb tk cN gN lb eb)) way' S,L.map (CK.den (MSof bb tk cN gN lb eb) S))):PopG H G0 g0 f0 bb tk r (E.b bb) way top way':=fun h hw =>
  goes_pop H G0 rfl (fun ok=>ok.pop (E.tr hn _) hw h) fun cN gN lb eb=>by
    obtain ⟨gN',lb',eb',e,h1⟩:=E.at_ bb tk cN gN lb eb
    have q:=run cN gN lb eb (tasksS r)
    rw [e] at q
    exact ⟨dirs,cN,gN',lb',eb',_,q,fun ok h5 h6=>⟨ck_all ok h h6 hL hx,Nat.le_succ_of_le h5,Nat.le_trans h1 (Nat.succ_le_succ h6)⟩⟩
theorem pushL {way:TV}{top ch pa:Tsk}(E:Ef) (L:List CK) (hL:L.all CK.good=true) (hx:exP L) (hm:E.mute) (run:∀ cN gN lb eb S,pushO (stepM 100 16 ⟨frontC x (MSof bb tk cN gN lb eb) way top S,NX,[1,0]⟩)=some (wantP x (E.ms (MSof bb tk cN gN lb eb)) .none,.ref 10::S,obsOf ch,obsOf pa,true,L.map (CK.den (MSof bb tk cN gN lb eb) S))):PushG H G0 g0 f0 bb tk r (E.b bb) way top ch pa:=fun h hc hp =>
  goes_push H G0 rfl (fun ok=>ok.push (E.tr (by cases E<;>first | trivial | exact hm.elim) _) hc hp h) fun cN gN lb eb=>by
    obtain ⟨gN',lb',eb',e,h1⟩:=E.at_ bb tk cN gN lb eb
    have q:=run cN gN lb eb (tasksS r)
    rw [e] at q
    exact ⟨[1,0],cN,gN',lb',eb',_,q,fun ok h5 h6=>⟨ck_all ok h h6 hL hx,Nat.le_succ_of_le h5,Nat.le_trans h1 (Nat.succ_le_succ h6)⟩⟩
theorem passL {way:TV}{top:Tsk}(s:String) (hs:isW s=true) (run:∀ cN gN lb eb S,popO (stepM 100 16 ⟨frontC x (MSof bb tk cN gN lb eb) way top S,NX,[1]⟩)=some (wantF x (MSof bb tk cN gN lb eb) way S,[cS S,ok2 s "value"])):PassG H G0 g0 f0 bb tk r way top:=fun hw =>
  goes_pop H G0 rfl (fun ok=>ok.pass hw) fun cN gN lb eb=>⟨[1],cN,gN,lb,eb,_,run cN gN lb eb (tasksS r),fun _ h5 h6=>⟨⟨cS_ok _,⟨isW_ok hs,okw_value⟩,trivial⟩,h5,h6⟩⟩
include H G0
theorem g_sym (n:Int):PopN H G0 g0 f0 bb tk r (.sint n) .none (.plain (u "sym") (symT n) (.int 0) []) (wayT "value" (.sint n)):=fun h hn=>popL H G0 [1,0] (.note (.sint n)) [.s,.t,.a] (by kernel_rfl) trivial hn (fun _ _ _ _ _=>by kernel_rfl) h
theorem g_toss (n:Int):PopG H G0 g0 f0 bb tk r bb .none (pl "ivar" [.sint n] 0) (wayT "raise" (.sint n)):=popL H G0 [1,0] .tick [.s,.t] (by kernel_rfl) trivial trivial fun _ _ _ _ _=>by kernel_rfl
theorem g_last:PopN H G0 g0 f0 bb tk r (lastT bb) .none (pl "self" [] 0) (wayT "value" .none):=fun h hn=>popL H G0 [1,0] (.note (lastT bb)) [.s,.t,.a] (by kernel_rfl) trivial hn (fun _ _ _ _ _=>by kernel_rfl) h
theorem g_retry:PopG H G0 g0 f0 bb tk r bb .none (pl "retry" [] 0) (wayT "retry" .none):=popL H G0 [1,0] .tick [.s,.t] (by kernel_rfl) trivial trivial fun _ _ _ _ _=>by kernel_rfl
theorem g_int (v:Int):PopG H G0 g0 f0 bb tk r bb .none (pl "int" [.int v] 0) (wayT "value" (.int v)):=popL H G0 [1,0] .tick [.s,.t] (by kernel_rfl) trivial trivial fun _ _ _ _ _=>by kernel_rfl
theorem g_const:PopG H G0 g0 f0 bb tk r bb .none (pl "const" [.none,.str (u "StandardError")] 0) (wayT "value" (.int 7)):=popL H G0 [1,0] .tick [.s,.t] (by kernel_rfl) trivial trivial fun _ _ _ _ _=>by kernel_rfl
theorem g_lvar1 (n k:Int) (hk:bb.cnt n≤k):PopG H G0 g0 f0 bb tk r (bb.count n) .none (pl "lvar" [.tup [.sint n,.sint k]] 0) (wayT "value" (.bool true)):=fun h hw =>
  goes_pop H G0 rfl (fun ok=>ok.pop (.inl rfl) hw h) fun cN gN lb eb=>⟨[1,0,1],(cN+1),gN,lb,eb,_,st_lvar1 x (MSof bb tk cN gN lb eb) (tasksS r) n k,fun ok h5 h6=>⟨⟨cS_ok _,tick_ok h,dict_len h5 ok.tk,⟨_,if_pos rfl⟩,cnt_yes hk,trivial⟩,Nat.succ_le_succ h5,Nat.le_succ_of_le h6⟩⟩
theorem g_lvar0 (n k:Int) (hk:¬ bb.cnt n≤k):PopG H G0 g0 f0 bb tk r (bb.count n) .none (pl "lvar" [.tup [.sint n,.sint k]] 0) (wayT "value" (.bool false)):=fun h hw =>
  goes_pop H G0 rfl (fun ok=>ok.pop (.inl rfl) hw h) fun cN gN lb eb=>⟨[1,0,0],(cN+1),gN,lb,eb,_,st_lvar0 x (MSof bb tk cN gN lb eb) (tasksS r) n k,fun ok h5 h6=>⟨⟨cS_ok _,tick_ok h,dict_len h5 ok.tk,⟨_,if_pos rfl⟩,cnt_no hk,trivial⟩,Nat.succ_le_succ h5,Nat.le_succ_of_le h6⟩⟩
theorem g_if0 (k k2:Str) (p p2:TV):PushG H G0 g0 f0 bb tk r bb .none (pl "if" [ndT k p,ndT k2 p2,.none] 0) (nk k p) (pl "if" [ndT k p,ndT k2 p2,.none] 1):=pushL H G0 .tick [.s,.t,.p] (by kernel_rfl) trivial trivial fun _ _ _ _ _=>by kernel_rfl
theorem g_if1 (k k2:Str) (p p2:TV):PushG H G0 g0 f0 bb tk r bb (wayT "value" (.bool true)) (pl "if" [ndT k p,ndT k2 p2,.none] 1) (nk k2 p2) (pl "if" [ndT k p,ndT k2 p2,.none] 2):=pushL H G0 .tick [.s,vv,.t,.p] (by kernel_rfl) trivial trivial fun _ _ _ _ _=>by kernel_rfl
theorem g_if2 (k k2:Str) (p p2:TV):PopG H G0 g0 f0 bb tk r bb (wayT "value" (.bool false)) (pl "if" [ndT k p,ndT k2 p2,.none] 1) (wayT "value" .none):=popL H G0 [1,0] .tick [.s,vv,.t] (by kernel_rfl) trivial trivial fun _ _ _ _ _=>by kernel_rfl
theorem g_seq1_0 (k:Str) (p:TV):PushG H G0 g0 f0 bb tk r bb .none (pl "seq" [.lst [ndT k p]] 0) (nk k p) (pl "seq" [.lst [ndT k p]] 1):=pushL H G0 .tick [.s,.t,.p] (by kernel_rfl) trivial trivial fun _ _ _ _ _=>by kernel_rfl
theorem g_seq1_end_0 (c0:TV):PopG H G0 g0 f0 bb tk r bb (wayT "value" .none) (pl "seq" [.lst [c0]] 1) (wayT "value" .none):=popL H G0 [1,0] .tick [.s,vv,.t] (by kernel_rfl) trivial trivial fun _ _ _ _ _=>by kernel_rfl
theorem g_seq1_end_1 (c0:TV) (z:Int):PopG H G0 g0 f0 bb tk r bb (wayT "value" (.sint z)) (pl "seq" [.lst [c0]] 1) (wayT "value" (.sint z)):=popL H G0 [1,0] .tick [.s,vv,.t] (by kernel_rfl) trivial trivial fun _ _ _ _ _=>by kernel_rfl
theorem g_seq2_0 (k:Str) (p c1:TV):PushG H G0 g0 f0 bb tk r bb .none (pl "seq" [.lst [ndT k p,c1]] 0) (nk k p) (pl "seq" [.lst [ndT k p,c1]] 1):=pushL H G0 .tick [.s,.t,.p] (by kernel_rfl) trivial trivial fun _ _ _ _ _=>by kernel_rfl
theorem g_seq2_1 (k:Str) (p v c0:TV):PushG H G0 g0 f0 bb tk r bb (wayT "value" v) (pl "seq" [.lst [c0,ndT k p]] 1) (nk k p) (pl "seq" [.lst [c0,ndT k p]] 2):=pushL H G0 .tick [.s,vv,.t,.p] (by kernel_rfl) trivial trivial fun _ _ _ _ _=>by kernel_rfl
theorem g_seq2_end_0 (c0 c1:TV):PopG H G0 g0 f0 bb tk r bb (wayT "value" .none) (pl "seq" [.lst [c0,c1]] 2) (wayT "value" .none):=popL H G0 [1,0] .tick [.s,vv,.t] (by kernel_rfl) trivial trivial fun _ _ _ _ _=>by kernel_rfl
theorem g_seq2_end_1 (c0 c1:TV) (z:Int):PopG H G0 g0 f0 bb tk r bb (wayT "value" (.sint z)) (pl "seq" [.lst [c0,c1]] 2) (wayT "value" (.sint z)):=popL H G0 [1,0] .tick [.s,vv,.t] (by kernel_rfl) trivial trivial fun _ _ _ _ _=>by kernel_rfl
theorem g_seq3_0 (k:Str) (p c1 c2:TV):PushG H G0 g0 f0 bb tk r bb .none (pl "seq" [.lst [ndT k p,c1,c2]] 0) (nk k p) (pl "seq" [.lst [ndT k p,c1,c2]] 1):=pushL H G0 .tick [.s,.t,.p] (by kernel_rfl) trivial trivial fun _ _ _ _ _=>by kernel_rfl
theorem g_seq3_1 (k:Str) (p v c0 c2:TV):PushG H G0 g0 f0 bb tk r bb (wayT "value" v) (pl "seq" [.lst [c0,ndT k p,c2]] 1) (nk k p) (pl "seq" [.lst [c0,ndT k p,c2]] 2):=pushL H G0 .tick [.s,vv,.t,.p] (by kernel_rfl) trivial trivial fun _ _ _ _ _=>by kernel_rfl
theorem g_seq3_2 (k:Str) (p v c0 c1:TV):PushG H G0 g0 f0 bb tk r bb (wayT "value" v) (pl "seq" [.lst [c0,c1,ndT k p]] 2) (nk k p) (pl "seq" [.lst [c0,c1,ndT k p]] 3):=pushL H G0 .tick [.s,vv,.t,.p] (by kernel_rfl) trivial trivial fun _ _ _ _ _=>by kernel_rfl
theorem g_seq3_end_0 (c0 c1 c2:TV):PopG H G0 g0 f0 bb tk r bb (wayT "value" .none) (pl "seq" [.lst [c0,c1,c2]] 3) (wayT "value" .none):=popL H G0 [1,0] .tick [.s,vv,.t] (by kernel_rfl) trivial trivial fun _ _ _ _ _=>by kernel_rfl
theorem g_seq3_end_1 (c0 c1 c2:TV) (z:Int):PopG H G0 g0 f0 bb tk r bb (wayT "value" (.sint z)) (pl "seq" [.lst [c0,c1,c2]] 3) (wayT "value" (.sint z)):=popL H G0 [1,0] .tick [.s,vv,.t] (by kernel_rfl) trivial trivial fun _ _ _ _ _=>by kernel_rfl
theorem g_seq_s (s:So) (node st v:TV) (held:List TV):PassG H G0 g0 f0 bb tk r (wayT s.s v) (.plain (u "seq") node st held):=passL H G0 s.s (by cases s<;>kernel_rfl) fun _ _ _ _ _=>by cases s<;>kernel_rfl
theorem g_if_retry (node st v:TV) (held:List TV):PassG H G0 g0 f0 bb tk r (wayT "retry" v) (.plain (u "if") node st held):=passL H G0 "retry" (by kernel_rfl) fun _ _ _ _ _=>by kernel_rfl
theorem g_out1_break (k:Str) (p:TV):PushG H G0 g0 f0 bb tk r bb .none (pl "break" [ndT k p] 0) (nk k p) (.plain (u "break") (ndT (u "break") (.tup [ndT k p])) (.str (u "value")) []):=pushL H G0 .tick [.s,.t,.p] (by kernel_rfl) trivial trivial fun _ _ _ _ _=>by kernel_rfl
theorem g_out0_next:PopG H G0 g0 f0 bb tk r bb .none (pl "next" [.none] 0) (wayT "next" .none):=popL H G0 [1,0] .tick [.s,.t,.w "next" "next"] (by kernel_rfl) trivial trivial fun _ _ _ _ _=>by kernel_rfl
theorem g_out2_next_0 (nd:TV):PopG H G0 g0 f0 bb tk r bb (wayT "value" .none) (.plain (u "next") (ndT (u "next") (.tup [nd])) (.str (u "value")) []) (wayT "next" .none):=popL H G0 [1,0] .tick [.s,vv,.t,.o "value",.w "next" "next"] (by kernel_rfl) trivial trivial fun _ _ _ _ _=>by kernel_rfl
theorem g_out2_next_1 (nd:TV) (z:Int):PopG H G0 g0 f0 bb tk r bb (wayT "value" (.sint z)) (.plain (u "next") (ndT (u "next") (.tup [nd])) (.str (u "value")) []) (wayT "next" (.sint z)):=popL H G0 [1,0] .tick [.s,vv,.t,.o "value",.w "next" "next"] (by kernel_rfl) trivial trivial fun _ _ _ _ _=>by kernel_rfl
theorem g_out1_next (k:Str) (p:TV):PushG H G0 g0 f0 bb tk r bb .none (pl "next" [ndT k p] 0) (nk k p) (.plain (u "next") (ndT (u "next") (.tup [ndT k p])) (.str (u "value")) []):=pushL H G0 .tick [.s,.t,.p] (by kernel_rfl) trivial trivial fun _ _ _ _ _=>by kernel_rfl
theorem g_out1_return (k:Str) (p:TV):PushG H G0 g0 f0 bb tk r bb .none (pl "return" [ndT k p] 0) (nk k p) (.plain (u "return") (ndT (u "return") (.tup [ndT k p])) (.str (u "value")) []):=pushL H G0 .tick [.s,.t,.p] (by kernel_rfl) trivial trivial fun _ _ _ _ _=>by kernel_rfl
theorem g_out0_break (hr:okS r):PopG H G0 g0 f0 bb tk r bb .none (pl "break" [.none] 0) (wayT "break" .none):=fun h hw =>
  goes_popR H G0 rfl (fun ok=>ok.pop (.inl rfl) hw h) fun cN gN lb eb=>⟨[1,0],cN,gN,lb,eb,_,st_out0_break x (MSof bb tk cN gN lb eb) (tasksS r) (tasksR r) ,fun ok h5 h6=>⟨⟨cS_ok _,tick_ok h,⟨okw_break,okw_next⟩,over_ok hr (over_len ok),trivial⟩,Nat.le_succ_of_le h5,Nat.le_succ_of_le h6⟩⟩
theorem g_out2_break (nd:TV) (z:Int) (hr:okS r):PopG H G0 g0 f0 bb tk r bb (wayT "value" (.sint z)) (.plain (u "break") (ndT (u "break") (.tup [nd])) (.str (u "value")) []) (wayT "break" (.sint z)):=fun h hw =>
  goes_popR H G0 rfl (fun ok=>ok.pop (.inl rfl) hw h) fun cN gN lb eb=>⟨[1,0],cN,gN,lb,eb,_,st_out2_break x (MSof bb tk cN gN lb eb) (tasksS r) (tasksR r) nd z,fun ok h5 h6=>⟨⟨cS_ok _,⟨okw_value,okw_value⟩,tick_ok h,okw_value,⟨okw_break,okw_next⟩,over_ok hr (over_len ok),trivial⟩,Nat.le_succ_of_le h5,Nat.le_succ_of_le h6⟩⟩
theorem g_out0_return (hr:okS r):PopG H G0 g0 f0 bb tk r bb .none (pl "return" [.none] 0) (wayT "return" .none):=fun h hw =>
  goes_popR H G0 rfl (fun ok=>ok.pop (.inl rfl) hw h) fun cN gN lb eb=>⟨[1,0],cN,gN,lb,eb,_,st_out0_return x (MSof bb tk cN gN lb eb) (tasksS r) (tasksR r) ,fun ok h5 h6=>⟨⟨cS_ok _,tick_ok h,⟨okw_return,okw_next⟩,over_ok hr (over_len ok),trivial⟩,Nat.le_succ_of_le h5,Nat.le_succ_of_le h6⟩⟩
theorem g_out2_return (nd:TV) (z:Int) (hr:okS r):PopG H G0 g0 f0 bb tk r bb (wayT "value" (.sint z)) (.plain (u "return") (ndT (u "return") (.tup [nd])) (.str (u "value")) []) (wayT "return" (.sint z)):=fun h hw =>
  goes_popR H G0 rfl (fun ok=>ok.pop (.inl rfl) hw h) fun cN gN lb eb=>⟨[1,0],cN,gN,lb,eb,_,st_out2_return x (MSof bb tk cN gN lb eb) (tasksS r) (tasksR r) nd z,fun ok h5 h6=>⟨⟨cS_ok _,⟨okw_value,okw_value⟩,tick_ok h,okw_value,⟨okw_return,okw_next⟩,over_ok hr (over_len ok),trivial⟩,Nat.le_succ_of_le h5,Nat.le_succ_of_le h6⟩⟩
theorem g_vals0_int (p:TV):PushG H G0 g0 f0 bb tk r bb .none (.plain (u "values") (.lst [ndT (u "int") p]) (.int 0) []) (nk (u "int") p) (.plain (u "values") (.lst [ndT (u "int") p]) (.int 0) []):=pushL H G0 .tick [.s,.t,.w "int" "splat",.p] (by kernel_rfl) trivial trivial fun _ _ _ _ _=>by kernel_rfl
theorem g_vals1_int (p:TV) (v:Int):PopG H G0 g0 f0 bb tk r bb (wayT "value" (.int v)) (.plain (u "values") (.lst [ndT (u "int") p]) (.int 0) []) (wayT "value" (.lst [.int v])):=popL H G0 [1,0] .tick [.s,vv,.t,.w "int" "splat"] (by kernel_rfl) trivial trivial fun _ _ _ _ _=>by kernel_rfl
theorem g_vals0_const (p:TV):PushG H G0 g0 f0 bb tk r bb .none (.plain (u "values") (.lst [ndT (u "const") p]) (.int 0) []) (nk (u "const") p) (.plain (u "values") (.lst [ndT (u "const") p]) (.int 0) []):=pushL H G0 .tick [.s,.t,.w "const" "splat",.p] (by kernel_rfl) trivial trivial fun _ _ _ _ _=>by kernel_rfl
theorem g_vals1_const (p:TV) (v:Int):PopG H G0 g0 f0 bb tk r bb (wayT "value" (.int v)) (.plain (u "values") (.lst [ndT (u "const") p]) (.int 0) []) (wayT "value" (.lst [.int v])):=popL H G0 [1,0] .tick [.s,vv,.t,.w "const" "splat"] (by kernel_rfl) trivial trivial fun _ _ _ _ _=>by kernel_rfl
theorem g_send0_t (e:Int) (he:e.fmod 3=0):PopN H G0 g0 f0 bb tk r (.tup [.str (u "asked"),.int 0,.sint e,.str (u "===")]) .none (.plain (u "sending") (.tup [.int 0,.str (u "==="),.lst [.sint e],.none,.str (u "call")]) (.int 0) []) (wayT "value" (.bool true)):=fun h hn=>popL H G0 [1,0,1] (.note (.tup [.str (u "asked"),.int 0,.sint e,.str (u "===")])) [.s,.t,.a,.x ((3:Int)≠0),.x (e.fmod 3=0)] (by kernel_rfl) ⟨by decide,he,trivial⟩ hn (fun _ _ _ _ _=>by kernel_rfl) h
theorem g_send0_f (e:Int) (he:¬ e.fmod 3=0):PopN H G0 g0 f0 bb tk r (.tup [.str (u "asked"),.int 0,.sint e,.str (u "===")]) .none (.plain (u "sending") (.tup [.int 0,.str (u "==="),.lst [.sint e],.none,.str (u "call")]) (.int 0) []) (wayT "value" (.bool false)):=fun h hn=>popL H G0 [1,0,0] (.note (.tup [.str (u "asked"),.int 0,.sint e,.str (u "===")])) [.s,.t,.a,.x ((3:Int)≠0),.x (¬ e.fmod 3=0)] (by kernel_rfl) ⟨by decide,he,trivial⟩ hn (fun _ _ _ _ _=>by kernel_rfl) h
theorem g_send1_t (e:Int) (he:e.fmod 3=1):PopN H G0 g0 f0 bb tk r (.tup [.str (u "asked"),.int 1,.sint e,.str (u "===")]) .none (.plain (u "sending") (.tup [.int 1,.str (u "==="),.lst [.sint e],.none,.str (u "call")]) (.int 0) []) (wayT "value" (.bool true)):=fun h hn=>popL H G0 [1,0,1] (.note (.tup [.str (u "asked"),.int 1,.sint e,.str (u "===")])) [.s,.t,.a,.x ((3:Int)≠0),.x (e.fmod 3=1)] (by kernel_rfl) ⟨by decide,he,trivial⟩ hn (fun _ _ _ _ _=>by kernel_rfl) h
theorem g_send1_f (e:Int) (he:¬ e.fmod 3=1):PopN H G0 g0 f0 bb tk r (.tup [.str (u "asked"),.int 1,.sint e,.str (u "===")]) .none (.plain (u "sending") (.tup [.int 1,.str (u "==="),.lst [.sint e],.none,.str (u "call")]) (.int 0) []) (wayT "value" (.bool false)):=fun h hn=>popL H G0 [1,0,0] (.note (.tup [.str (u "asked"),.int 1,.sint e,.str (u "===")])) [.s,.t,.a,.x ((3:Int)≠0),.x (¬ e.fmod 3=1)] (by kernel_rfl) ⟨by decide,he,trivial⟩ hn (fun _ _ _ _ _=>by kernel_rfl) h
theorem g_send2_t (e:Int) (he:e.fmod 3=2):PopN H G0 g0 f0 bb tk r (.tup [.str (u "asked"),.int 2,.sint e,.str (u "===")]) .none (.plain (u "sending") (.tup [.int 2,.str (u "==="),.lst [.sint e],.none,.str (u "call")]) (.int 0) []) (wayT "value" (.bool true)):=fun h hn=>popL H G0 [1,0,1] (.note (.tup [.str (u "asked"),.int 2,.sint e,.str (u "===")])) [.s,.t,.a,.x ((3:Int)≠0),.x (e.fmod 3=2)] (by kernel_rfl) ⟨by decide,he,trivial⟩ hn (fun _ _ _ _ _=>by kernel_rfl) h
theorem g_send2_f (e:Int) (he:¬ e.fmod 3=2):PopN H G0 g0 f0 bb tk r (.tup [.str (u "asked"),.int 2,.sint e,.str (u "===")]) .none (.plain (u "sending") (.tup [.int 2,.str (u "==="),.lst [.sint e],.none,.str (u "call")]) (.int 0) []) (wayT "value" (.bool false)):=fun h hn=>popL H G0 [1,0,0] (.note (.tup [.str (u "asked"),.int 2,.sint e,.str (u "===")])) [.s,.t,.a,.x ((3:Int)≠0),.x (¬ e.fmod 3=2)] (by kernel_rfl) ⟨by decide,he,trivial⟩ hn (fun _ _ _ _ _=>by kernel_rfl) h
theorem g_send7 (e:Int):PopN H G0 g0 f0 bb tk r (.tup [.str (u "asked"),.int 7,.sint e,.str (u "===")]) .none (.plain (u "sending") (.tup [.int 7,.str (u "==="),.lst [.sint e],.none,.str (u "call")]) (.int 0) []) (wayT "value" (.bool true)):=fun h hn=>popL H G0 [1,0] (.note (.tup [.str (u "asked"),.int 7,.sint e,.str (u "===")])) [.s,.t,.a] (by kernel_rfl) trivial hn (fun _ _ _ _ _=>by kernel_rfl) h
theorem g_send9 (e:Int):PopN H G0 g0 f0 bb tk r (.tup [.str (u "asked"),.int 9,.sint e,.str (u "===")]) .none (.plain (u "sending") (.tup [.int 9,.str (u "==="),.lst [.sint e],.none,.str (u "call")]) (.int 0) []) (wayT "raise" (.int 5)):=fun h hn=>popL H G0 [1,0] (.note (.tup [.str (u "asked"),.int 9,.sint e,.str (u "===")])) [.s,.t,.a] (by kernel_rfl) trivial hn (fun _ _ _ _ _=>by kernel_rfl) h
theorem g_settle (e:Int):PopG H G0 g0 f0 bb tk r ⟨bb.tr,bb.ct,bb.la,(some e)⟩ .none (.plain (u "settle") (.tup [goalT,.sint e]) (.int 0) []) (wayT "value" (.sint e)):=popL H G0 [1,0] (.target (some e)) [.s,.t,.g] (by kernel_rfl) trivial trivial fun _ _ _ _ _=>by kernel_rfl
theorem g_beg0 (k:Str) (p o l:TV) (rs:List TV):PushG H G0 g0 f0 bb tk r bb .none (pl "begin" [(ndT k p),.lst rs,o,l] 0) (nk k p) (bg (ndT k p) rs o l "body" .none 0 0 [] .none):=pushL H G0 .tick [.s,.t,.p] (by kernel_rfl) trivial trivial fun _ _ _ _ _=>by kernel_rfl
theorem g_body_n_value_0 (bd:TV) (rs:List TV) (W bf:TV) (a q:Int) (ts:List TV):PopG H G0 g0 f0 bb tk r bb (wayT "value" .none) (bg bd rs .none .none "body" W a q ts bf) (wayT "value" .none):=popL H G0 [1,0] .tick [.s,vv,.t,.o "body",.w "value" "raise",vv,vv] (by kernel_rfl) trivial trivial fun _ _ _ _ _=>by kernel_rfl
theorem g_body_n_value_1 (bd:TV) (rs:List TV) (W bf:TV) (a q:Int) (ts:List TV) (z:Int):PopG H G0 g0 f0 bb tk r bb (wayT "value" (.sint z)) (bg bd rs .none .none "body" W a q ts bf) (wayT "value" (.sint z)):=popL H G0 [1,0] .tick [.s,vv,.t,.o "body",.w "value" "raise",vv,vv] (by kernel_rfl) trivial trivial fun _ _ _ _ _=>by kernel_rfl
theorem g_other_n_value_0 (o:TV) (rs:List TV) (bd:TV) (W bf:TV) (a q:Int) (ts:List TV):PopG H G0 g0 f0 bb tk r bb (wayT "value" .none) (bg bd rs o .none "other" W a q ts bf) (wayT "value" .none):=popL H G0 [1,0] .tick [.s,vv,.t,.o "other",vv] (by kernel_rfl) trivial trivial fun _ _ _ _ _=>by kernel_rfl
theorem g_other_n_value_1 (o:TV) (rs:List TV) (bd:TV) (W bf:TV) (a q:Int) (ts:List TV) (z:Int):PopG H G0 g0 f0 bb tk r bb (wayT "value" (.sint z)) (bg bd rs o .none "other" W a q ts bf) (wayT "value" (.sint z)):=popL H G0 [1,0] .tick [.s,vv,.t,.o "other",vv] (by kernel_rfl) trivial trivial fun _ _ _ _ _=>by kernel_rfl
theorem g_resc_n_value_0_b0 (o:TV) (rs:List TV) (bd:TV) (W:TV) (a q:Int) (ts:List TV):PopG H G0 g0 f0 bb tk r ⟨bb.tr,bb.ct,none,bb.er⟩ (wayT "value" .none) (bg bd rs o .none "rescue" W a q ts .none) (wayT "value" .none):=popL H G0 [1,0] (.last none) [.s,vv,.t,.o "rescue",.g,.w "value" "retry",vv] (by kernel_rfl) trivial trivial fun _ _ _ _ _=>by kernel_rfl
theorem g_resc_n_value_0_b1 (o:TV) (rs:List TV) (bd:TV) (W:TV) (a q:Int) (ts:List TV) (zb:Int):PopG H G0 g0 f0 bb tk r ⟨bb.tr,bb.ct,(some zb),bb.er⟩ (wayT "value" .none) (bg bd rs o .none "rescue" W a q ts (.sint zb)) (wayT "value" .none):=popL H G0 [1,0] (.last (some zb)) [.s,vv,.t,.o "rescue",.g,.w "value" "retry",vv] (by kernel_rfl) trivial trivial fun _ _ _ _ _=>by kernel_rfl
theorem g_resc_n_value_1_b0 (o:TV) (rs:List TV) (bd:TV) (W:TV) (a q:Int) (ts:List TV) (z:Int):PopG H G0 g0 f0 bb tk r ⟨bb.tr,bb.ct,none,bb.er⟩ (wayT "value" (.sint z)) (bg bd rs o .none "rescue" W a q ts .none) (wayT "value" (.sint z)):=popL H G0 [1,0] (.last none) [.s,vv,.t,.o "rescue",.g,.w "value" "retry",vv] (by kernel_rfl) trivial trivial fun _ _ _ _ _=>by kernel_rfl
theorem g_resc_n_value_1_b1 (o:TV) (rs:List TV) (bd:TV) (W:TV) (a q:Int) (ts:List TV) (z:Int) (zb:Int):PopG H G0 g0 f0 bb tk r ⟨bb.tr,bb.ct,(some zb),bb.er⟩ (wayT "value" (.sint z)) (bg bd rs o .none "rescue" W a q ts (.sint zb)) (wayT "value" (.sint z)):=popL H G0 [1,0] (.last (some zb)) [.s,vv,.t,.o "rescue",.g,.w "value" "retry",vv] (by kernel_rfl) trivial trivial fun _ _ _ _ _=>by kernel_rfl
theorem g_body_n_raise (bd v:TV) (W bf:TV) (a q:Int) (ts:List TV):PopG H G0 g0 f0 bb tk r bb (wayT "raise" v) (bg bd [] .none .none "body" W a q ts bf) (wayT "raise" v):=popL H G0 [1,0] .tick [.s,.v "raise",.t,.o "body",.w "raise" "raise",.v "raise",.v "raise"] (by kernel_rfl) trivial trivial fun _ _ _ _ _=>by kernel_rfl
theorem g_bodyo_n_raise (k2:Str) (p2:TV) (bd v:TV) (W bf:TV) (a q:Int) (ts:List TV):PopG H G0 g0 f0 bb tk r bb (wayT "raise" v) (bg bd [] (ndT k2 p2) .none "body" W a q ts bf) (wayT "raise" v):=popL H G0 [1,0] .tick [.s,.v "raise",.t,.o "body",.w "raise" "raise",.v "raise",.v "raise"] (by kernel_rfl) trivial trivial fun _ _ _ _ _=>by kernel_rfl
theorem g_body_n_s (s:So) (hs:s ≠ .raise) (bd v:TV) (rs:List TV) (W bf:TV) (a q:Int) (ts:List TV):PopG H G0 g0 f0 bb tk r bb (wayT s.s v) (bg bd rs .none .none "body" W a q ts bf) (wayT s.s v):=popL H G0 [1,0] .tick [.s,.v s.s,.t,.o "body",.w s.s "raise",.v s.s,.v s.s] (by cases s<;>kernel_rfl) trivial trivial fun _ _ _ _ _=>by cases s<;>first | exact absurd rfl hs | kernel_rfl
theorem g_bodyo_n_s (s:So) (hs:s ≠ .raise) (k2:Str) (p2:TV) (bd v:TV) (rs:List TV) (W bf:TV) (a q:Int) (ts:List TV):PopG H G0 g0 f0 bb tk r bb (wayT s.s v) (bg bd rs (ndT k2 p2) .none "body" W a q ts bf) (wayT s.s v):=popL H G0 [1,0] .tick [.s,.v s.s,.t,.o "body",.w s.s "raise",.v s.s,.v s.s] (by cases s<;>kernel_rfl) trivial trivial fun _ _ _ _ _=>by cases s<;>first | exact absurd rfl hs | kernel_rfl
theorem g_other_n_s (s:So) (o:TV) (rs:List TV) (bd v:TV) (W bf:TV) (a q:Int) (ts:List TV):PopG H G0 g0 f0 bb tk r bb (wayT s.s v) (bg bd rs o .none "other" W a q ts bf) (wayT s.s v):=popL H G0 [1,0] .tick [.s,.v s.s,.t,.o "other",.v s.s] (by cases s<;>kernel_rfl) trivial trivial fun _ _ _ _ _=>by cases s<;>kernel_rfl
theorem g_resc_n_s_b0 (s:So) (hs:s ≠ .retry) (o:TV) (rs:List TV) (bd v:TV) (W:TV) (a q:Int) (ts:List TV):PopG H G0 g0 f0 bb tk r ⟨bb.tr,bb.ct,none,bb.er⟩ (wayT s.s v) (bg bd rs o .none "rescue" W a q ts .none) (wayT s.s v):=popL H G0 [1,0] (.last none) [.s,.v s.s,.t,.o "rescue",.g,.w s.s "retry",.v s.s] (by cases s<;>kernel_rfl) trivial trivial fun _ _ _ _ _=>by cases s<;>first | exact absurd rfl hs | kernel_rfl
theorem g_resc_n_s_b1 (s:So) (hs:s ≠ .retry) (o:TV) (rs:List TV) (bd v:TV) (W:TV) (a q:Int) (ts:List TV) (zb:Int):PopG H G0 g0 f0 bb tk r ⟨bb.tr,bb.ct,(some zb),bb.er⟩ (wayT s.s v) (bg bd rs o .none "rescue" W a q ts (.sint zb)) (wayT s.s v):=popL H G0 [1,0] (.last (some zb)) [.s,.v s.s,.t,.o "rescue",.g,.w s.s "retry",.v s.s] (by cases s<;>kernel_rfl) trivial trivial fun _ _ _ _ _=>by cases s<;>first | exact absurd rfl hs | kernel_rfl
theorem g_bad_n (o:TV) (rs:List TV) (bd v:TV) (W bf:TV) (a q:Int) (ts:List TV):PopG H G0 g0 f0 bb tk r bb (wayT "raise" v) (bg bd rs o .none "asked" W a q ts bf) (wayT "raise" v):=popL H G0 [1,0] .tick [.s,.v "raise",.t,.o "asked",.v "raise",.v "raise"] (by kernel_rfl) trivial trivial fun _ _ _ _ _=>by kernel_rfl
theorem g_body_y_value (k:Str) (p:TV) (bd v:TV) (rs:List TV) (W bf:TV) (a q:Int) (ts:List TV):PushG H G0 g0 f0 bb tk r bb (wayT "value" v) (bg bd rs .none (ndT k p) "body" W a q ts bf) (nk k p) (bg bd rs .none (ndT k p) "ensure" (wayT "value" v) a q ts bf):=pushL H G0 .tick [.s,vv,.t,.o "body",.w "value" "raise",vv,.p] (by kernel_rfl) trivial trivial fun _ _ _ _ _=>by kernel_rfl
theorem g_other_y_value (o:TV) (rs:List TV) (k:Str) (p:TV) (bd v:TV) (W bf:TV) (a q:Int) (ts:List TV):PushG H G0 g0 f0 bb tk r bb (wayT "value" v) (bg bd rs o (ndT k p) "other" W a q ts bf) (nk k p) (bg bd rs o (ndT k p) "ensure" (wayT "value" v) a q ts bf):=pushL H G0 .tick [.s,vv,.t,.o "other",.p] (by kernel_rfl) trivial trivial fun _ _ _ _ _=>by kernel_rfl
theorem g_resc_y_value_b0 (o:TV) (rs:List TV) (k:Str) (p:TV) (bd v:TV) (W:TV) (a q:Int) (ts:List TV):PushG H G0 g0 f0 bb tk r ⟨bb.tr,bb.ct,none,bb.er⟩ (wayT "value" v) (bg bd rs o (ndT k p) "rescue" W a q ts .none) (nk k p) (bg bd rs o (ndT k p) "ensure" (wayT "value" v) a q ts .none):=pushL H G0 (.last none) [.s,vv,.t,.o "rescue",.g,.w "value" "retry",.p] (by kernel_rfl) trivial trivial fun _ _ _ _ _=>by kernel_rfl
theorem g_resc_y_value_b1 (o:TV) (rs:List TV) (k:Str) (p:TV) (bd v:TV) (W:TV) (a q:Int) (ts:List TV) (zb:Int):PushG H G0 g0 f0 bb tk r ⟨bb.tr,bb.ct,(some zb),bb.er⟩ (wayT "value" v) (bg bd rs o (ndT k p) "rescue" W a q ts (.sint zb)) (nk k p) (bg bd rs o (ndT k p) "ensure" (wayT "value" v) a q ts (.sint zb)):=pushL H G0 (.last (some zb)) [.s,vv,.t,.o "rescue",.g,.w "value" "retry",.p] (by kernel_rfl) trivial trivial fun _ _ _ _ _=>by kernel_rfl
theorem g_body_y_raise (k:Str) (p:TV) (bd v:TV) (W bf:TV) (a q:Int) (ts:List TV):PushG H G0 g0 f0 bb tk r bb (wayT "raise" v) (bg bd [] .none (ndT k p) "body" W a q ts bf) (nk k p) (bg bd [] .none (ndT k p) "ensure" (wayT "raise" v) a q ts bf):=pushL H G0 .tick [.s,.v "raise",.t,.o "body",.w "raise" "raise",.v "raise",.p] (by kernel_rfl) trivial trivial fun _ _ _ _ _=>by kernel_rfl
theorem g_bodyo_y_raise (k2:Str) (p2:TV) (k:Str) (p:TV) (bd v:TV) (W bf:TV) (a q:Int) (ts:List TV):PushG H G0 g0 f0 bb tk r bb (wayT "raise" v) (bg bd [] (ndT k2 p2) (ndT k p) "body" W a q ts bf) (nk k p) (bg bd [] (ndT k2 p2) (ndT k p) "ensure" (wayT "raise" v) a q ts bf):=pushL H G0 .tick [.s,.v "raise",.t,.o "body",.w "raise" "raise",.v "raise",.p] (by kernel_rfl) trivial trivial fun _ _ _ _ _=>by kernel_rfl
theorem g_body_y_s (s:So) (hs:s ≠ .raise) (k:Str) (p:TV) (bd v:TV) (rs:List TV) (W bf:TV) (a q:Int) (ts:List TV):PushG H G0 g0 f0 bb tk r bb (wayT s.s v) (bg bd rs .none (ndT k p) "body" W a q ts bf) (nk k p) (bg bd rs .none (ndT k p) "ensure" (wayT s.s v) a q ts bf):=pushL H G0 .tick [.s,.v s.s,.t,.o "body",.w s.s "raise",.v s.s,.p] (by cases s<;>kernel_rfl) trivial trivial fun _ _ _ _ _=>by cases s<;>first | exact absurd rfl hs | kernel_rfl
theorem g_bodyo_y_s (s:So) (hs:s ≠ .raise) (k2:Str) (p2:TV) (k:Str) (p:TV) (bd v:TV) (rs:List TV) (W bf:TV) (a q:Int) (ts:List TV):PushG H G0 g0 f0 bb tk r bb (wayT s.s v) (bg bd rs (ndT k2 p2) (ndT k p) "body" W a q ts bf) (nk k p) (bg bd rs (ndT k2 p2) (ndT k p) "ensure" (wayT s.s v) a q ts bf):=pushL H G0 .tick [.s,.v s.s,.t,.o "body",.w s.s "raise",.v s.s,.p] (by cases s<;>kernel_rfl) trivial trivial fun _ _ _ _ _=>by cases s<;>first | exact absurd rfl hs | kernel_rfl
theorem g_other_y_s (s:So) (o:TV) (rs:List TV) (k:Str) (p:TV) (bd v:TV) (W bf:TV) (a q:Int) (ts:List TV):PushG H G0 g0 f0 bb tk r bb (wayT s.s v) (bg bd rs o (ndT k p) "other" W a q ts bf) (nk k p) (bg bd rs o (ndT k p) "ensure" (wayT s.s v) a q ts bf):=pushL H G0 .tick [.s,.v s.s,.t,.o "other",.p] (by cases s<;>kernel_rfl) trivial trivial fun _ _ _ _ _=>by cases s<;>kernel_rfl
theorem g_resc_y_s_b0 (s:So) (hs:s ≠ .retry) (o:TV) (rs:List TV) (k:Str) (p:TV) (bd v:TV) (W:TV) (a q:Int) (ts:List TV):PushG H G0 g0 f0 bb tk r ⟨bb.tr,bb.ct,none,bb.er⟩ (wayT s.s v) (bg bd rs o (ndT k p) "rescue" W a q ts .none) (nk k p) (bg bd rs o (ndT k p) "ensure" (wayT s.s v) a q ts .none):=pushL H G0 (.last none) [.s,.v s.s,.t,.o "rescue",.g,.w s.s "retry",.p] (by cases s<;>kernel_rfl) trivial trivial fun _ _ _ _ _=>by cases s<;>first | exact absurd rfl hs | kernel_rfl
theorem g_resc_y_s_b1 (s:So) (hs:s ≠ .retry) (o:TV) (rs:List TV) (k:Str) (p:TV) (bd v:TV) (W:TV) (a q:Int) (ts:List TV) (zb:Int):PushG H G0 g0 f0 bb tk r ⟨bb.tr,bb.ct,(some zb),bb.er⟩ (wayT s.s v) (bg bd rs o (ndT k p) "rescue" W a q ts (.sint zb)) (nk k p) (bg bd rs o (ndT k p) "ensure" (wayT s.s v) a q ts (.sint zb)):=pushL H G0 (.last (some zb)) [.s,.v s.s,.t,.o "rescue",.g,.w s.s "retry",.p] (by cases s<;>kernel_rfl) trivial trivial fun _ _ _ _ _=>by cases s<;>first | exact absurd rfl hs | kernel_rfl
theorem g_bad_y (o:TV) (rs:List TV) (k:Str) (p:TV) (bd v:TV) (W bf:TV) (a q:Int) (ts:List TV):PushG H G0 g0 f0 bb tk r bb (wayT "raise" v) (bg bd rs o (ndT k p) "asked" W a q ts bf) (nk k p) (bg bd rs o (ndT k p) "ensure" (wayT "raise" v) a q ts bf):=pushL H G0 .tick [.s,.v "raise",.t,.o "asked",.v "raise",.p] (by kernel_rfl) trivial trivial fun _ _ _ _ _=>by kernel_rfl
theorem g_body_else (k:Str) (p l bd v:TV) (rs:List TV) (W bf:TV) (a q:Int) (ts:List TV):PushG H G0 g0 f0 bb tk r bb (wayT "value" v) (bg bd rs (ndT k p) l "body" W a q ts bf) (nk k p) (bg bd rs (ndT k p) l "other" W a q ts bf):=pushL H G0 .tick [.s,vv,.t,.o "body",.w "value" "raise",vv,.p] (by kernel_rfl) trivial trivial fun _ _ _ _ _=>by kernel_rfl
theorem g_resc_retry_b0 (o l:TV) (rs:List TV) (k:Str) (p v:TV) (W:TV) (a q:Int) (ts:List TV):PushG H G0 g0 f0 bb tk r ⟨bb.tr,bb.ct,none,bb.er⟩ (wayT "retry" v) (bg (ndT k p) rs o l "rescue" W a q ts .none) (nk k p) (bg (ndT k p) rs o l "body" .none 0 0 [] .none):=pushL H G0 (.last none) [.s,.v "retry",.t,.o "rescue",.g,.w "retry" "retry",.p] (by kernel_rfl) trivial trivial fun _ _ _ _ _=>by kernel_rfl
theorem g_resc_retry_b1 (o l:TV) (rs:List TV) (k:Str) (p v:TV) (W:TV) (a q:Int) (ts:List TV) (zb:Int):PushG H G0 g0 f0 bb tk r ⟨bb.tr,bb.ct,(some zb),bb.er⟩ (wayT "retry" v) (bg (ndT k p) rs o l "rescue" W a q ts (.sint zb)) (nk k p) (bg (ndT k p) rs o l "body" .none 0 0 [] .none):=pushL H G0 (.last (some zb)) [.s,.v "retry",.t,.o "rescue",.g,.w "retry" "retry",.p] (by kernel_rfl) trivial trivial fun _ _ _ _ _=>by kernel_rfl
theorem g_ens_value_0 (o l bd v2:TV) (rs:List TV) (bf:TV) (a q:Int) (ts:List TV):PopG H G0 g0 f0 bb tk r bb (wayT "value" v2) (bg bd rs o l "ensure" (wayT "value" .none) a q ts bf) (wayT "value" .none):=popL H G0 [1,0] .tick [.s,vv,.t,.o "ensure",vv,vv] (by kernel_rfl) trivial trivial fun _ _ _ _ _=>by kernel_rfl
theorem g_ens_value_1 (o l bd v2:TV) (rs:List TV) (bf:TV) (a q:Int) (ts:List TV) (z:Int):PopG H G0 g0 f0 bb tk r bb (wayT "value" v2) (bg bd rs o l "ensure" (wayT "value" (.sint z)) a q ts bf) (wayT "value" (.sint z)):=popL H G0 [1,0] .tick [.s,vv,.t,.o "ensure",vv,vv] (by kernel_rfl) trivial trivial fun _ _ _ _ _=>by kernel_rfl
theorem g_ens_s (s:So) (o l bd v2 v:TV) (rs:List TV) (bf:TV) (a q:Int) (ts:List TV):PopG H G0 g0 f0 bb tk r bb (wayT "value" v2) (bg bd rs o l "ensure" (wayT s.s v) a q ts bf) (wayT s.s v):=popL H G0 [1,0] .tick [.s,vv,.t,.o "ensure",vv,.v s.s] (by cases s<;>kernel_rfl) trivial trivial fun _ _ _ _ _=>by cases s<;>kernel_rfl
theorem g_enso_s (s:So) (o l bd v:TV) (rs:List TV) (W bf:TV) (a q:Int) (ts:List TV):PopG H G0 g0 f0 bb tk r bb (wayT s.s v) (bg bd rs o l "ensure" W a q ts bf) (wayT s.s v):=popL H G0 [1,0] .tick [.s,.v s.s,.t,.o "ensure",.v s.s,.v s.s] (by cases s<;>kernel_rfl) trivial trivial fun _ _ _ _ _=>by cases s<;>kernel_rfl
theorem g_ask1_0 (o l bd v g b:TV) (W bf:TV) (ts:List TV):PushG H G0 g0 f0 bb tk r bb (wayT "raise" v) (bg bd [(.tup [.lst [],g,b])] o l "body" W 0 0 ts bf) (.plain (u "values") (.lst [ndT (u "const") (.tup [.none,.str (u "StandardError")])]) (.int 0) []) (bg bd [(.tup [.lst [],g,b])] o l "class" (wayT "raise" v) 0 1 ts bf):=pushL H G0 .tick [.s,.v "raise",.t,.o "body",.w "raise" "raise",.p] (by kernel_rfl) trivial trivial fun _ _ _ _ _=>by kernel_rfl
theorem g_ask2_0 (o l bd v g b:TV) (r1:TV) (W bf:TV) (ts:List TV):PushG H G0 g0 f0 bb tk r bb (wayT "raise" v) (bg bd [(.tup [.lst [],g,b]),r1] o l "body" W 0 0 ts bf) (.plain (u "values") (.lst [ndT (u "const") (.tup [.none,.str (u "StandardError")])]) (.int 0) []) (bg bd [(.tup [.lst [],g,b]),r1] o l "class" (wayT "raise" v) 0 1 ts bf):=pushL H G0 .tick [.s,.v "raise",.t,.o "body",.w "raise" "raise",.p] (by kernel_rfl) trivial trivial fun _ _ _ _ _=>by kernel_rfl
theorem g_ask1_1 (o l bd v g b:TV) (d0:TV) (W bf:TV) (ts:List TV):PushG H G0 g0 f0 bb tk r bb (wayT "raise" v) (bg bd [(.tup [.lst [ndT (u "int") (.tup [d0])],g,b])] o l "body" W 0 0 ts bf) (.plain (u "values") (.lst [ndT (u "int") (.tup [d0])]) (.int 0) []) (bg bd [(.tup [.lst [ndT (u "int") (.tup [d0])],g,b])] o l "class" (wayT "raise" v) 0 1 ts bf):=pushL H G0 .tick [.s,.v "raise",.t,.o "body",.w "raise" "raise",.p] (by kernel_rfl) trivial trivial fun _ _ _ _ _=>by kernel_rfl
theorem g_ask2_1 (o l bd v g b:TV) (d0:TV) (r1:TV) (W bf:TV) (ts:List TV):PushG H G0 g0 f0 bb tk r bb (wayT "raise" v) (bg bd [(.tup [.lst [ndT (u "int") (.tup [d0])],g,b]),r1] o l "body" W 0 0 ts bf) (.plain (u "values") (.lst [ndT (u "int") (.tup [d0])]) (.int 0) []) (bg bd [(.tup [.lst [ndT (u "int") (.tup [d0])],g,b]),r1] o l "class" (wayT "raise" v) 0 1 ts bf):=pushL H G0 .tick [.s,.v "raise",.t,.o "body",.w "raise" "raise",.p] (by kernel_rfl) trivial trivial fun _ _ _ _ _=>by kernel_rfl
theorem g_ask1_2 (o l bd v g b:TV) (d0 d1:TV) (W bf:TV) (ts:List TV):PushG H G0 g0 f0 bb tk r bb (wayT "raise" v) (bg bd [(.tup [.lst [ndT (u "int") (.tup [d0]),ndT (u "int") (.tup [d1])],g,b])] o l "body" W 0 0 ts bf) (.plain (u "values") (.lst [ndT (u "int") (.tup [d0])]) (.int 0) []) (bg bd [(.tup [.lst [ndT (u "int") (.tup [d0]),ndT (u "int") (.tup [d1])],g,b])] o l "class" (wayT "raise" v) 0 1 ts bf):=pushL H G0 .tick [.s,.v "raise",.t,.o "body",.w "raise" "raise",.p] (by kernel_rfl) trivial trivial fun _ _ _ _ _=>by kernel_rfl
theorem g_ask2_2 (o l bd v g b:TV) (d0 d1:TV) (r1:TV) (W bf:TV) (ts:List TV):PushG H G0 g0 f0 bb tk r bb (wayT "raise" v) (bg bd [(.tup [.lst [ndT (u "int") (.tup [d0]),ndT (u "int") (.tup [d1])],g,b]),r1] o l "body" W 0 0 ts bf) (.plain (u "values") (.lst [ndT (u "int") (.tup [d0])]) (.int 0) []) (bg bd [(.tup [.lst [ndT (u "int") (.tup [d0]),ndT (u "int") (.tup [d1])],g,b]),r1] o l "class" (wayT "raise" v) 0 1 ts bf):=pushL H G0 .tick [.s,.v "raise",.t,.o "body",.w "raise" "raise",.p] (by kernel_rfl) trivial trivial fun _ _ _ _ _=>by kernel_rfl
theorem g_class (o l bd:TV) (v e:Int) (rs:List TV) (bf:TV) (a q:Int) (ts:List TV):PushG H G0 g0 f0 bb tk r bb (wayT "value" (.lst [.int v])) (bg bd rs o l "class" (wayT "raise" (.sint e)) a q ts bf) (.plain (u "sending") (.tup [.int v,.str (u "==="),.lst [.sint e],.none,.str (u "call")]) (.int 0) []) (bg bd rs o l "asked" (wayT "raise" (.sint e)) a q [] bf):=pushL H G0 .tick [.s,vv,.t,.o "class",vv,.p] (by kernel_rfl) trivial trivial fun _ _ _ _ _=>by kernel_rfl
theorem g_no1_1_n (o bd e g b bf:TV) (d0:TV):PopG H G0 g0 f0 bb tk r bb (wayT "value" (.bool false)) (bg bd [(.tup [.lst [ndT (u "int") (.tup [d0])],g,b])] o .none "asked" (wayT "raise" e) 0 1 [] bf) (wayT "raise" e):=popL H G0 [1,0] .tick [.s,vv,.t,.o "asked",vv,.v "raise"] (by kernel_rfl) trivial trivial fun _ _ _ _ _=>by kernel_rfl
theorem g_no1_1_y (o bd e g b bf:TV) (k:Str) (p:TV) (d0:TV):PushG H G0 g0 f0 bb tk r bb (wayT "value" (.bool false)) (bg bd [(.tup [.lst [ndT (u "int") (.tup [d0])],g,b])] o (ndT k p) "asked" (wayT "raise" e) 0 1 [] bf) (nk k p) (bg bd [(.tup [.lst [ndT (u "int") (.tup [d0])],g,b])] o (ndT k p) "ensure" (wayT "raise" e) 1 0 [] bf):=pushL H G0 .tick [.s,vv,.t,.o "asked",vv,.p] (by kernel_rfl) trivial trivial fun _ _ _ _ _=>by kernel_rfl
theorem g_no1_2_n (o bd e g b bf:TV) (d0 d1:TV):PopG H G0 g0 f0 bb tk r bb (wayT "value" (.bool false)) (bg bd [(.tup [.lst [ndT (u "int") (.tup [d0]),ndT (u "int") (.tup [d1])],g,b])] o .none "asked" (wayT "raise" e) 0 2 [] bf) (wayT "raise" e):=popL H G0 [1,0] .tick [.s,vv,.t,.o "asked",vv,.v "raise"] (by kernel_rfl) trivial trivial fun _ _ _ _ _=>by kernel_rfl
theorem g_no1_2_y (o bd e g b bf:TV) (k:Str) (p:TV) (d0 d1:TV):PushG H G0 g0 f0 bb tk r bb (wayT "value" (.bool false)) (bg bd [(.tup [.lst [ndT (u "int") (.tup [d0]),ndT (u "int") (.tup [d1])],g,b])] o (ndT k p) "asked" (wayT "raise" e) 0 2 [] bf) (nk k p) (bg bd [(.tup [.lst [ndT (u "int") (.tup [d0]),ndT (u "int") (.tup [d1])],g,b])] o (ndT k p) "ensure" (wayT "raise" e) 1 0 [] bf):=pushL H G0 .tick [.s,vv,.t,.o "asked",vv,.p] (by kernel_rfl) trivial trivial fun _ _ _ _ _=>by kernel_rfl
theorem g_nx1_2 (o l bd e g b bf:TV) (d0 d1:TV):PushG H G0 g0 f0 bb tk r bb (wayT "value" (.bool false)) (bg bd [(.tup [.lst [ndT (u "int") (.tup [d0]),ndT (u "int") (.tup [d1])],g,b])] o l "asked" (wayT "raise" e) 0 1 [] bf) (.plain (u "values") (.lst [ndT (u "int") (.tup [d1])]) (.int 0) []) (bg bd [(.tup [.lst [ndT (u "int") (.tup [d0]),ndT (u "int") (.tup [d1])],g,b])] o l "class" (wayT "raise" e) 0 2 [] bf):=pushL H G0 .tick [.s,vv,.t,.o "asked",vv,.p] (by kernel_rfl) trivial trivial fun _ _ _ _ _=>by kernel_rfl
theorem g_nx2_2 (o l bd e g b bf:TV) (d0 d1:TV) (r1:TV):PushG H G0 g0 f0 bb tk r bb (wayT "value" (.bool false)) (bg bd [(.tup [.lst [ndT (u "int") (.tup [d0]),ndT (u "int") (.tup [d1])],g,b]),r1] o l "asked" (wayT "raise" e) 0 1 [] bf) (.plain (u "values") (.lst [ndT (u "int") (.tup [d1])]) (.int 0) []) (bg bd [(.tup [.lst [ndT (u "int") (.tup [d0]),ndT (u "int") (.tup [d1])],g,b]),r1] o l "class" (wayT "raise" e) 0 2 [] bf):=pushL H G0 .tick [.s,vv,.t,.o "asked",vv,.p] (by kernel_rfl) trivial trivial fun _ _ _ _ _=>by kernel_rfl
theorem g_to2_10 (o l bd e g b bf:TV) (g2 b2:TV) (d0:TV):PushG H G0 g0 f0 bb tk r bb (wayT "value" (.bool false)) (bg bd [(.tup [.lst [ndT (u "int") (.tup [d0])],g,b]),.tup [.lst [],g2,b2]] o l "asked" (wayT "raise" e) 0 1 [] bf) (.plain (u "values") (.lst [ndT (u "const") (.tup [.none,.str (u "StandardError")])]) (.int 0) []) (bg bd [(.tup [.lst [ndT (u "int") (.tup [d0])],g,b]),.tup [.lst [],g2,b2]] o l "class" (wayT "raise" e) 1 1 [] bf):=pushL H G0 .tick [.s,vv,.t,.o "asked",vv,.p] (by kernel_rfl) trivial trivial fun _ _ _ _ _=>by kernel_rfl
theorem g_to2_11 (o l bd e g b bf:TV) (g2 b2:TV) (d0:TV) (y0:TV):PushG H G0 g0 f0 bb tk r bb (wayT "value" (.bool false)) (bg bd [(.tup [.lst [ndT (u "int") (.tup [d0])],g,b]),.tup [.lst [ndT (u "int") (.tup [y0])],g2,b2]] o l "asked" (wayT "raise" e) 0 1 [] bf) (.plain (u "values") (.lst [ndT (u "int") (.tup [y0])]) (.int 0) []) (bg bd [(.tup [.lst [ndT (u "int") (.tup [d0])],g,b]),.tup [.lst [ndT (u "int") (.tup [y0])],g2,b2]] o l "class" (wayT "raise" e) 1 1 [] bf):=pushL H G0 .tick [.s,vv,.t,.o "asked",vv,.p] (by kernel_rfl) trivial trivial fun _ _ _ _ _=>by kernel_rfl
theorem g_to2_12 (o l bd e g b bf:TV) (g2 b2:TV) (d0:TV) (y0 y1:TV):PushG H G0 g0 f0 bb tk r bb (wayT "value" (.bool false)) (bg bd [(.tup [.lst [ndT (u "int") (.tup [d0])],g,b]),.tup [.lst [ndT (u "int") (.tup [y0]),ndT (u "int") (.tup [y1])],g2,b2]] o l "asked" (wayT "raise" e) 0 1 [] bf) (.plain (u "values") (.lst [ndT (u "int") (.tup [y0])]) (.int 0) []) (bg bd [(.tup [.lst [ndT (u "int") (.tup [d0])],g,b]),.tup [.lst [ndT (u "int") (.tup [y0]),ndT (u "int") (.tup [y1])],g2,b2]] o l "class" (wayT "raise" e) 1 1 [] bf):=pushL H G0 .tick [.s,vv,.t,.o "asked",vv,.p] (by kernel_rfl) trivial trivial fun _ _ _ _ _=>by kernel_rfl
theorem g_to2_20 (o l bd e g b bf:TV) (g2 b2:TV) (d0 d1:TV):PushG H G0 g0 f0 bb tk r bb (wayT "value" (.bool false)) (bg bd [(.tup [.lst [ndT (u "int") (.tup [d0]),ndT (u "int") (.tup [d1])],g,b]),.tup [.lst [],g2,b2]] o l "asked" (wayT "raise" e) 0 2 [] bf) (.plain (u "values") (.lst [ndT (u "const") (.tup [.none,.str (u "StandardError")])]) (.int 0) []) (bg bd [(.tup [.lst [ndT (u "int") (.tup [d0]),ndT (u "int") (.tup [d1])],g,b]),.tup [.lst [],g2,b2]] o l "class" (wayT "raise" e) 1 1 [] bf):=pushL H G0 .tick [.s,vv,.t,.o "asked",vv,.p] (by kernel_rfl) trivial trivial fun _ _ _ _ _=>by kernel_rfl
theorem g_to2_21 (o l bd e g b bf:TV) (g2 b2:TV) (d0 d1:TV) (y0:TV):PushG H G0 g0 f0 bb tk r bb (wayT "value" (.bool false)) (bg bd [(.tup [.lst [ndT (u "int") (.tup [d0]),ndT (u "int") (.tup [d1])],g,b]),.tup [.lst [ndT (u "int") (.tup [y0])],g2,b2]] o l "asked" (wayT "raise" e) 0 2 [] bf) (.plain (u "values") (.lst [ndT (u "int") (.tup [y0])]) (.int 0) []) (bg bd [(.tup [.lst [ndT (u "int") (.tup [d0]),ndT (u "int") (.tup [d1])],g,b]),.tup [.lst [ndT (u "int") (.tup [y0])],g2,b2]] o l "class" (wayT "raise" e) 1 1 [] bf):=pushL H G0 .tick [.s,vv,.t,.o "asked",vv,.p] (by kernel_rfl) trivial trivial fun _ _ _ _ _=>by kernel_rfl
theorem g_to2_22 (o l bd e g b bf:TV) (g2 b2:TV) (d0 d1:TV) (y0 y1:TV):PushG H G0 g0 f0 bb tk r bb (wayT "value" (.bool false)) (bg bd [(.tup [.lst [ndT (u "int") (.tup [d0]),ndT (u "int") (.tup [d1])],g,b]),.tup [.lst [ndT (u "int") (.tup [y0]),ndT (u "int") (.tup [y1])],g2,b2]] o l "asked" (wayT "raise" e) 0 2 [] bf) (.plain (u "values") (.lst [ndT (u "int") (.tup [y0])]) (.int 0) []) (bg bd [(.tup [.lst [ndT (u "int") (.tup [d0]),ndT (u "int") (.tup [d1])],g,b]),.tup [.lst [ndT (u "int") (.tup [y0]),ndT (u "int") (.tup [y1])],g2,b2]] o l "class" (wayT "raise" e) 1 1 [] bf):=pushL H G0 .tick [.s,vv,.t,.o "asked",vv,.p] (by kernel_rfl) trivial trivial fun _ _ _ _ _=>by kernel_rfl
theorem g_no2_1_n (o bd e g b bf:TV) (d0:TV) (r0:TV):PopG H G0 g0 f0 bb tk r bb (wayT "value" (.bool false)) (bg bd [r0,(.tup [.lst [ndT (u "int") (.tup [d0])],g,b])] o .none "asked" (wayT "raise" e) 1 1 [] bf) (wayT "raise" e):=popL H G0 [1,0] .tick [.s,vv,.t,.o "asked",vv,.v "raise"] (by kernel_rfl) trivial trivial fun _ _ _ _ _=>by kernel_rfl
theorem g_no2_1_y (o bd e g b bf:TV) (k:Str) (p:TV) (d0:TV) (r0:TV):PushG H G0 g0 f0 bb tk r bb (wayT "value" (.bool false)) (bg bd [r0,(.tup [.lst [ndT (u "int") (.tup [d0])],g,b])] o (ndT k p) "asked" (wayT "raise" e) 1 1 [] bf) (nk k p) (bg bd [r0,(.tup [.lst [ndT (u "int") (.tup [d0])],g,b])] o (ndT k p) "ensure" (wayT "raise" e) 2 0 [] bf):=pushL H G0 .tick [.s,vv,.t,.o "asked",vv,.p] (by kernel_rfl) trivial trivial fun _ _ _ _ _=>by kernel_rfl
theorem g_no2_2_n (o bd e g b bf:TV) (d0 d1:TV) (r0:TV):PopG H G0 g0 f0 bb tk r bb (wayT "value" (.bool false)) (bg bd [r0,(.tup [.lst [ndT (u "int") (.tup [d0]),ndT (u "int") (.tup [d1])],g,b])] o .none "asked" (wayT "raise" e) 1 2 [] bf) (wayT "raise" e):=popL H G0 [1,0] .tick [.s,vv,.t,.o "asked",vv,.v "raise"] (by kernel_rfl) trivial trivial fun _ _ _ _ _=>by kernel_rfl
theorem g_no2_2_y (o bd e g b bf:TV) (k:Str) (p:TV) (d0 d1:TV) (r0:TV):PushG H G0 g0 f0 bb tk r bb (wayT "value" (.bool false)) (bg bd [r0,(.tup [.lst [ndT (u "int") (.tup [d0]),ndT (u "int") (.tup [d1])],g,b])] o (ndT k p) "asked" (wayT "raise" e) 1 2 [] bf) (nk k p) (bg bd [r0,(.tup [.lst [ndT (u "int") (.tup [d0]),ndT (u "int") (.tup [d1])],g,b])] o (ndT k p) "ensure" (wayT "raise" e) 2 0 [] bf):=pushL H G0 .tick [.s,vv,.t,.o "asked",vv,.p] (by kernel_rfl) trivial trivial fun _ _ _ _ _=>by kernel_rfl
theorem g_nx3_2 (o l bd e g b bf:TV) (d0 d1:TV) (r0:TV):PushG H G0 g0 f0 bb tk r bb (wayT "value" (.bool false)) (bg bd [r0,(.tup [.lst [ndT (u "int") (.tup [d0]),ndT (u "int") (.tup [d1])],g,b])] o l "asked" (wayT "raise" e) 1 1 [] bf) (.plain (u "values") (.lst [ndT (u "int") (.tup [d1])]) (.int 0) []) (bg bd [r0,(.tup [.lst [ndT (u "int") (.tup [d0]),ndT (u "int") (.tup [d1])],g,b])] o l "class" (wayT "raise" e) 1 2 [] bf):=pushL H G0 .tick [.s,vv,.t,.o "asked",vv,.p] (by kernel_rfl) trivial trivial fun _ _ _ _ _=>by kernel_rfl
theorem g_hit1_n (o l bd cl:TV) (e:Int) (k:Str) (p bf:TV) (q:Int):PushG H G0 g0 f0 bb tk r ⟨bb.tr,bb.ct,(some e),bb.er⟩ (wayT "value" (.bool true)) (bg bd [.tup [cl,.none,ndT k p]] o l "asked" (wayT "raise" (.sint e)) 0 q [] bf) (nk k p) (bg bd [.tup [cl,.none,ndT k p]] o l "rescue" (wayT "raise" (.sint e)) 0 q [] (oi bb.la)):=pushL H G0 (.last (some e)) [.s,vv,.t,.o "asked",vv,.g,.p] (by kernel_rfl) trivial trivial fun _ _ _ _ _=>by kernel_rfl
theorem g_hit1_g (o l bd cl b:TV) (e:Int) (bf:TV) (q:Int):PushG H G0 g0 f0 bb tk r ⟨bb.tr,bb.ct,(some e),bb.er⟩ (wayT "value" (.bool true)) (bg bd [.tup [cl,goalT,b]] o l "asked" (wayT "raise" (.sint e)) 0 q [] bf) (.plain (u "settle") (.tup [goalT,.sint e]) (.int 0) []) (bg bd [.tup [cl,goalT,b]] o l "target" (wayT "raise" (.sint e)) 0 q [] (oi bb.la)):=pushL H G0 (.last (some e)) [.s,vv,.t,.o "asked",vv,.g,.p] (by kernel_rfl) trivial trivial fun _ _ _ _ _=>by kernel_rfl
theorem g_target1 (o l bd cl g v:TV) (k:Str) (p W bf:TV) (q:Int):PushG H G0 g0 f0 bb tk r bb (wayT "value" v) (bg bd [.tup [cl,g,ndT k p]] o l "target" W 0 q [] bf) (nk k p) (bg bd [.tup [cl,g,ndT k p]] o l "rescue" W 0 q [] bf):=pushL H G0 .tick [.s,vv,.t,.o "target",vv,.p] (by kernel_rfl) trivial trivial fun _ _ _ _ _=>by kernel_rfl
theorem g_hit2_n (o l bd cl:TV) (e:Int) (k:Str) (p bf:TV) (q:Int) (r1:TV):PushG H G0 g0 f0 bb tk r ⟨bb.tr,bb.ct,(some e),bb.er⟩ (wayT "value" (.bool true)) (bg bd [.tup [cl,.none,ndT k p],r1] o l "asked" (wayT "raise" (.sint e)) 0 q [] bf) (nk k p) (bg bd [.tup [cl,.none,ndT k p],r1] o l "rescue" (wayT "raise" (.sint e)) 0 q [] (oi bb.la)):=pushL H G0 (.last (some e)) [.s,vv,.t,.o "asked",vv,.g,.p] (by kernel_rfl) trivial trivial fun _ _ _ _ _=>by kernel_rfl
theorem g_hit2_g (o l bd cl b:TV) (e:Int) (bf:TV) (q:Int) (r1:TV):PushG H G0 g0 f0 bb tk r ⟨bb.tr,bb.ct,(some e),bb.er⟩ (wayT "value" (.bool true)) (bg bd [.tup [cl,goalT,b],r1] o l "asked" (wayT "raise" (.sint e)) 0 q [] bf) (.plain (u "settle") (.tup [goalT,.sint e]) (.int 0) []) (bg bd [.tup [cl,goalT,b],r1] o l "target" (wayT "raise" (.sint e)) 0 q [] (oi bb.la)):=pushL H G0 (.last (some e)) [.s,vv,.t,.o "asked",vv,.g,.p] (by kernel_rfl) trivial trivial fun _ _ _ _ _=>by kernel_rfl
theorem g_target2 (o l bd cl g v:TV) (k:Str) (p W bf:TV) (q:Int) (r1:TV):PushG H G0 g0 f0 bb tk r bb (wayT "value" v) (bg bd [.tup [cl,g,ndT k p],r1] o l "target" W 0 q [] bf) (nk k p) (bg bd [.tup [cl,g,ndT k p],r1] o l "rescue" W 0 q [] bf):=pushL H G0 .tick [.s,vv,.t,.o "target",vv,.p] (by kernel_rfl) trivial trivial fun _ _ _ _ _=>by kernel_rfl
theorem g_hit3_n (o l bd cl:TV) (e:Int) (k:Str) (p bf:TV) (q:Int) (r0:TV):PushG H G0 g0 f0 bb tk r ⟨bb.tr,bb.ct,(some e),bb.er⟩ (wayT "value" (.bool true)) (bg bd [r0,.tup [cl,.none,ndT k p]] o l "asked" (wayT "raise" (.sint e)) 1 q [] bf) (nk k p) (bg bd [r0,.tup [cl,.none,ndT k p]] o l "rescue" (wayT "raise" (.sint e)) 1 q [] (oi bb.la)):=pushL H G0 (.last (some e)) [.s,vv,.t,.o "asked",vv,.g,.p] (by kernel_rfl) trivial trivial fun _ _ _ _ _=>by kernel_rfl
theorem g_hit3_g (o l bd cl b:TV) (e:Int) (bf:TV) (q:Int) (r0:TV):PushG H G0 g0 f0 bb tk r ⟨bb.tr,bb.ct,(some e),bb.er⟩ (wayT "value" (.bool true)) (bg bd [r0,.tup [cl,goalT,b]] o l "asked" (wayT "raise" (.sint e)) 1 q [] bf) (.plain (u "settle") (.tup [goalT,.sint e]) (.int 0) []) (bg bd [r0,.tup [cl,goalT,b]] o l "target" (wayT "raise" (.sint e)) 1 q [] (oi bb.la)):=pushL H G0 (.last (some e)) [.s,vv,.t,.o "asked",vv,.g,.p] (by kernel_rfl) trivial trivial fun _ _ _ _ _=>by kernel_rfl
theorem g_target3 (o l bd cl g v:TV) (k:Str) (p W bf:TV) (q:Int) (r0:TV):PushG H G0 g0 f0 bb tk r bb (wayT "value" v) (bg bd [r0,.tup [cl,g,ndT k p]] o l "target" W 1 q [] bf) (nk k p) (bg bd [r0,.tup [cl,g,ndT k p]] o l "rescue" W 1 q [] bf):=pushL H G0 .tick [.s,vv,.t,.o "target",vv,.p] (by kernel_rfl) trivial trivial fun _ _ _ _ _=>by kernel_rfl
theorem m_sym {b:B}{tk:Nat}{n:Int}{r:List Tsk}(h:tk+1≤20000):Goes prog w hb A env g0 f0 ρ0 x ⟨b,tk,.none,taskOf (symT n)::r⟩ ⟨b.note (.sint n),tk+1,wy (.val (some n)),r⟩:=g_sym H G0 n h trivial (wy_nr (.val (some n)))
theorem m_toss {b:B}{tk:Nat}{n:Int}{r:List Tsk}(h:tk+1≤20000):Goes prog w hb A env g0 f0 ρ0 x ⟨b,tk,.none,taskOf (It.toss n).tv::r⟩ ⟨b,tk+1,wy (.raise n),r⟩:=g_toss H G0 n h (wy_nr (.raise n))
end
end
section
theorem symT_nr (n:Int):nr (symT n):=nd_nr ⟨trivial,trivial⟩
theorem tlT_nr (t:Tl):alTs (fun _=>False) (tlT t):=by
  cases t with
  | none=>exact trivial
  | some q=>exact ⟨nd_nr ⟨nd_nr ⟨⟨trivial,trivial,trivial⟩,trivial⟩,nd_nr trivial,trivial,trivial⟩,trivial⟩
theorem clT_nr (c:Cl):alTs (fun _=>False) (clT' c):=by
  cases c with
  | c0=>exact trivial
  | c1 a=>exact ⟨nd_nr ⟨trivial,trivial⟩,trivial⟩
  | c2 a b=>exact ⟨nd_nr ⟨trivial,trivial⟩,nd_nr ⟨trivial,trivial⟩,trivial⟩
theorem gT_nr (g:Bool):nr (gT g):=by
  cases g with
  | false=>exact trivial
  | true=>exact nd_nr ⟨trivial,trivial⟩
mutual
theorem It.nr:∀ i:It,nr i.tv
  | .sym n=>by rw [It.tv]; exact symT_nr n
  | .toss n=>by rw [It.tv]; exact nd_nr ⟨trivial,trivial⟩
  | .last=>by rw [It.tv]; exact nd_nr trivial
  | .out k none=>by rw [It.tv]; exact nd_nr ⟨trivial,trivial⟩
  | .out k (some n)=>by rw [It.tv]; exact nd_nr ⟨symT_nr n,trivial⟩
  | .beg body rs other late=>by rw [It.tv]; exact nd_nr ⟨body.nr,rs.nr,other.nr,late.nr,trivial⟩
theorem Sq.nr:∀ s:Sq,Nu.nr s.tv
  | .one a t=>by rw [Sq.tv]; exact nd_nr ⟨⟨a.nr,tlT_nr t⟩,trivial⟩
  | .two a b t=>by rw [Sq.tv]; exact nd_nr ⟨⟨a.nr,b.nr,tlT_nr t⟩,trivial⟩
theorem Oq.nr:∀ o:Oq,Nu.nr o.tv
  | .no=>by rw [Oq.tv]; exact trivial
  | .yes s=>by rw [Oq.tv]; exact s.nr
theorem Rc.nr:∀ r:Rc,Nu.nr r.tv
  | .mk cl goal body=>by rw [Rc.tv]; exact ⟨clT_nr cl,gT_nr goal,body.nr,trivial⟩
theorem Rs.nr:∀ r:Rs,alTs (fun _=>False) r.tv
  | .r0=>by rw [Rs.tv]; exact trivial
  | .r1 a=>by rw [Rs.tv]; exact ⟨a.nr,trivial⟩
  | .r2 a b=>by rw [Rs.tv]; exact ⟨a.nr,b.nr,trivial⟩
end
theorem Ch.nr (c:Ch):Nu.nr c.tv:=by
  cases c with
  | it i=>exact i.nr
  | re n m=>exact (tlT_nr (some (n,m))).1
theorem Sq.tv_nd (s:Sq):∃ k p,s.tv=ndT k p:=⟨_,_,s.tv_ch⟩
theorem task_nr {t:TV}(h:Nu.nr t) (e:∃ k p,t=ndT k p):nrK (taskOf t):=by
  obtain ⟨k,p,rfl⟩:=e
  exact ⟨h,trivial,trivial⟩
def begN (body:Sq) (rs:Rs) (other late:Oq):TV:=ndT (u "begin") (.tup [body.tv,.lst rs.tv,other.tv,late.tv])
theorem begN_nr (body:Sq) (rs:Rs) (other late:Oq):Nu.nr (begN body rs other late):=nd_nr ⟨body.nr,rs.nr,other.nr,late.nr,trivial⟩
abbrev bgT (body:Sq) (rs:Rs) (other late:Oq) (st:String) (way:TV) (a q:Int) (ts:List TV) (bf:TV):Tsk:=.beg (begN body rs other late) (u st) way a q ts bf
theorem bg_nr {body:Sq}{rs:Rs}{other late:Oq}{st:String}{way:TV}{a q:Int}{ts:List TV}{bf:TV}(h1:Nu.nr way) (h2:alTs (fun _=>False) ts) (h3:Nu.nr bf):nrK (bgT body rs other late st way a q ts bf):=⟨begN_nr _ _ _ _,h1,h2,h3⟩
section
variable {prog:Program}{w:World}{hb:HB}{mg mb:Str→Option Value}{A:Around}{env:Env}{g0 f0:PH}{ρ0:Rho}{x:Nat→TV}
variable (prog w hb A env g0 f0 ρ0 x) in
def Fin (body:Sq) (rs:Rs) (other late:Oq) (res:Res) (b:B) (tk:Nat) (r:List Tsk) (c':Conf):Prop:=match late with
  | .no=>Goes prog w hb A env g0 f0 ρ0 x ⟨b,tk,wy res,r⟩ c'
  | .yes s=>∀ a q ts bf,alTs (fun _=>False) ts→Nu.nr bf→Goes prog w hb A env g0 f0 ρ0 x ⟨b,tk,.none,taskOf s.tv::bgT body rs other (.yes s) "ensure" (wy res) a q ts bf::r⟩ c'
variable (H:Hyp prog w hb mg mb) (G0:Ground0 x A ρ0 env) {body:Sq}{rs:Rs}{other late:Oq}{res:Res}{b:B}{tk:Nat}{r:List Tsk}{c':Conf}{W bf:TV}{a q:Int}{ts:List TV}
include H G0
theorem ens_other (h:tk+1≤20000) (hts:alTs (fun _=>False) ts) (hbf:Nu.nr bf) (F:Fin prog w hb A env g0 f0 ρ0 x body rs other late res b (tk+1) r c') :
    Goes prog w hb A env g0 f0 ρ0 x ⟨b,tk,wy res,bgT body rs other late "other" W a q ts bf::r⟩ c':=by
  cases late with
  | no =>
    refine Goes.trans ?_ (show Goes prog w hb A env g0 f0 ρ0 x _ c' from F)
    unfold bgT begN
    rw [Oq.tv]
    rcases res with (_ | z) | e | _ | ⟨_ | _ | _,v⟩
    · exact g_other_n_value_0 H G0 _ _ _ _ _ _ _ _ h (wy_nr (.val none))
    · exact g_other_n_value_1 H G0 _ _ _ _ _ _ _ _ _ h (wy_nr (.val (some z)))
    · exact g_other_n_s H G0 .raise _ _ _ _ _ _ _ _ _ h (wy_nr (.raise e))
    · exact g_other_n_s H G0 .retry _ _ _ _ _ _ _ _ _ h (wy_nr .retry)
    · exact g_other_n_s H G0 .brk _ _ _ _ _ _ _ _ _ h (wy_nr (.out .brk v))
    · exact g_other_n_s H G0 .nxt _ _ _ _ _ _ _ _ _ h (wy_nr (.out .nxt v))
    · exact g_other_n_s H G0 .ret _ _ _ _ _ _ _ _ _ h (wy_nr (.out .ret v))
  | yes s =>
    refine Goes.trans ?_ (F a q ts bf hts hbf)
    have hp:=bg_nr (body:=body) (rs:=rs) (other:=other) (late:=.yes s) (st:="ensure") (way:=wy res) (a:=a) (q:=q) (wy_nr res) hts hbf
    have hc:=task_nr s.nr s.tv_nd
    unfold bgT begN at hp ⊢
    obtain ⟨k,p,e⟩:=s.tv_nd
    rw [Oq.tv,e] at hp ⊢
    rw [e] at hc
    rcases res with (_ | z) | e | _ | ⟨_ | _ | _,v⟩
    · exact g_other_y_value H G0 _ _ _ _ _ _ _ _ _ _ _ h hc hp
    · exact g_other_y_value H G0 _ _ _ _ _ _ _ _ _ _ _ h hc hp
    · exact g_other_y_s H G0 .raise _ _ _ _ _ _ _ _ _ _ _ h hc hp
    · exact g_other_y_s H G0 .retry _ _ _ _ _ _ _ _ _ _ _ h hc hp
    · exact g_other_y_s H G0 .brk _ _ _ _ _ _ _ _ _ _ _ h hc hp
    · exact g_other_y_s H G0 .nxt _ _ _ _ _ _ _ _ _ _ _ h hc hp
    · exact g_other_y_s H G0 .ret _ _ _ _ _ _ _ _ _ _ _ h hc hp
theorem ens_resc0 (hres:res.isRetry=false) (h:tk+1≤20000) (hts:alTs (fun _=>False) ts) (F:Fin prog w hb A env g0 f0 ρ0 x body rs other late res (b.leave none) (tk+1) r c') :
    Goes prog w hb A env g0 f0 ρ0 x ⟨b,tk,wy res,bgT body rs other late "rescue" W a q ts (oi none)::r⟩ c':=by
  cases late with
  | no =>
    refine Goes.trans ?_ (show Goes prog w hb A env g0 f0 ρ0 x _ c' from F)
    unfold bgT begN
    simp only [Oq.tv]
    rcases res with (_ | z) | e | _ | ⟨_ | _ | _,v⟩
    · exact g_resc_n_value_0_b0 H G0 _ _ _ _ _ _ _ h (wy_nr (.val none))
    · exact g_resc_n_value_1_b0 H G0 _ _ _ _ _ _ _ _ h (wy_nr (.val (some z)))
    · exact g_resc_n_s_b0 H G0 .raise (fun h=>nomatch h) _ _ _ _ _ _ _ _ h (wy_nr _)
    · exact absurd hres (by simp [Res.isRetry])
    · exact g_resc_n_s_b0 H G0 .brk (fun h=>nomatch h) _ _ _ _ _ _ _ _ h (wy_nr _)
    · exact g_resc_n_s_b0 H G0 .nxt (fun h=>nomatch h) _ _ _ _ _ _ _ _ h (wy_nr _)
    · exact g_resc_n_s_b0 H G0 .ret (fun h=>nomatch h) _ _ _ _ _ _ _ _ h (wy_nr _)
  | yes s =>
    refine Goes.trans ?_ (F a q ts (oi none) hts (oi_nr _))
    have hp:=bg_nr (body:=body) (rs:=rs) (other:=other) (late:=.yes s) (st:="ensure") (way:=wy res) (a:=a) (q:=q) (wy_nr res) hts (show Nu.nr (oi none) from oi_nr _)
    have hc:=task_nr s.nr s.tv_nd
    unfold bgT begN at hp ⊢
    obtain ⟨k,p,e⟩:=s.tv_nd
    simp only [Oq.tv,e] at hp ⊢
    rw [e] at hc
    rcases res with (_ | z) | e | _ | ⟨_ | _ | _,v⟩
    · exact g_resc_y_value_b0 H G0 _ _ _ _ _ _ _ _ _ _ h hc hp
    · exact g_resc_y_value_b0 H G0 _ _ _ _ _ _ _ _ _ _ h hc hp
    · exact g_resc_y_s_b0 H G0 .raise (fun h=>nomatch h) _ _ _ _ _ _ _ _ _ _ h hc hp
    · exact absurd hres (by simp [Res.isRetry])
    · exact g_resc_y_s_b0 H G0 .brk (fun h=>nomatch h) _ _ _ _ _ _ _ _ _ _ h hc hp
    · exact g_resc_y_s_b0 H G0 .nxt (fun h=>nomatch h) _ _ _ _ _ _ _ _ _ _ h hc hp
    · exact g_resc_y_s_b0 H G0 .ret (fun h=>nomatch h) _ _ _ _ _ _ _ _ _ _ h hc hp
theorem ens_resc1 {zb:Int}(hres:res.isRetry=false) (h:tk+1≤20000) (hts:alTs (fun _=>False) ts) (F:Fin prog w hb A env g0 f0 ρ0 x body rs other late res (b.leave (some zb)) (tk+1) r c') :
    Goes prog w hb A env g0 f0 ρ0 x ⟨b,tk,wy res,bgT body rs other late "rescue" W a q ts (oi (some zb))::r⟩ c':=by
  cases late with
  | no =>
    refine Goes.trans ?_ (show Goes prog w hb A env g0 f0 ρ0 x _ c' from F)
    unfold bgT begN
    simp only [Oq.tv]
    rcases res with (_ | z) | e | _ | ⟨_ | _ | _,v⟩
    · exact g_resc_n_value_0_b1 H G0 _ _ _ _ _ _ _ _ h (wy_nr (.val none))
    · exact g_resc_n_value_1_b1 H G0 _ _ _ _ _ _ _ _ _ h (wy_nr (.val (some z)))
    · exact g_resc_n_s_b1 H G0 .raise (fun h=>nomatch h) _ _ _ _ _ _ _ _ _ h (wy_nr _)
    · exact absurd hres (by simp [Res.isRetry])
    · exact g_resc_n_s_b1 H G0 .brk (fun h=>nomatch h) _ _ _ _ _ _ _ _ _ h (wy_nr _)
    · exact g_resc_n_s_b1 H G0 .nxt (fun h=>nomatch h) _ _ _ _ _ _ _ _ _ h (wy_nr _)
    · exact g_resc_n_s_b1 H G0 .ret (fun h=>nomatch h) _ _ _ _ _ _ _ _ _ h (wy_nr _)
  | yes s =>
    refine Goes.trans ?_ (F a q ts (oi (some zb)) hts (oi_nr _))
    have hp:=bg_nr (body:=body) (rs:=rs) (other:=other) (late:=.yes s) (st:="ensure") (way:=wy res) (a:=a) (q:=q) (wy_nr res) hts (show Nu.nr (oi (some zb)) from oi_nr _)
    have hc:=task_nr s.nr s.tv_nd
    unfold bgT begN at hp ⊢
    obtain ⟨k,p,e⟩:=s.tv_nd
    simp only [Oq.tv,e] at hp ⊢
    rw [e] at hc
    rcases res with (_ | z) | e | _ | ⟨_ | _ | _,v⟩
    · exact g_resc_y_value_b1 H G0 _ _ _ _ _ _ _ _ _ _ _ h hc hp
    · exact g_resc_y_value_b1 H G0 _ _ _ _ _ _ _ _ _ _ _ h hc hp
    · exact g_resc_y_s_b1 H G0 .raise (fun h=>nomatch h) _ _ _ _ _ _ _ _ _ _ _ h hc hp
    · exact absurd hres (by simp [Res.isRetry])
    · exact g_resc_y_s_b1 H G0 .brk (fun h=>nomatch h) _ _ _ _ _ _ _ _ _ _ _ h hc hp
    · exact g_resc_y_s_b1 H G0 .nxt (fun h=>nomatch h) _ _ _ _ _ _ _ _ _ _ _ h hc hp
    · exact g_resc_y_s_b1 H G0 .ret (fun h=>nomatch h) _ _ _ _ _ _ _ _ _ _ _ h hc hp
theorem ens_resc {lo:Option Int}(hres:res.isRetry=false) (h:tk+1≤20000) (hts:alTs (fun _=>False) ts) (F:Fin prog w hb A env g0 f0 ρ0 x body rs other late res (b.leave lo) (tk+1) r c') :
    Goes prog w hb A env g0 f0 ρ0 x ⟨b,tk,wy res,bgT body rs other late "rescue" W a q ts (oi lo)::r⟩ c':=by
  cases lo with
  | none=>exact ens_resc0 H G0 hres h hts F
  | some z=>exact ens_resc1 H G0 hres h hts F
theorem ens_body (hres:res.isVal=false∧res.isRaise=false) (h:tk+1≤20000) (hts:alTs (fun _=>False) ts) (hbf:Nu.nr bf) (F:Fin prog w hb A env g0 f0 ρ0 x body rs .no late res b (tk+1) r c') :
    Goes prog w hb A env g0 f0 ρ0 x ⟨b,tk,wy res,bgT body rs .no late "body" W a q ts bf::r⟩ c':=by
  cases late with
  | no =>
    refine Goes.trans ?_ (show Goes prog w hb A env g0 f0 ρ0 x _ c' from F)
    unfold bgT begN
    simp only [Oq.tv]
    rcases res with (_ | z) | e | _ | ⟨_ | _ | _,v⟩
    · exact absurd hres (by simp [Res.isVal])
    · exact absurd hres (by simp [Res.isVal])
    · exact absurd hres (by simp [Res.isRaise])
    · exact g_body_n_s H G0 .retry (fun h=>nomatch h) _ _ _ _ _ _ _ _ h (wy_nr _)
    · exact g_body_n_s H G0 .brk (fun h=>nomatch h) _ _ _ _ _ _ _ _ h (wy_nr _)
    · exact g_body_n_s H G0 .nxt (fun h=>nomatch h) _ _ _ _ _ _ _ _ h (wy_nr _)
    · exact g_body_n_s H G0 .ret (fun h=>nomatch h) _ _ _ _ _ _ _ _ h (wy_nr _)
  | yes s =>
    refine Goes.trans ?_ (F a q ts bf hts hbf)
    have hp:=bg_nr (body:=body) (rs:=rs) (other:=.no) (late:=.yes s) (st:="ensure") (way:=wy res) (a:=a) (q:=q) (wy_nr res) hts (show Nu.nr bf from hbf)
    have hc:=task_nr s.nr s.tv_nd
    unfold bgT begN at hp ⊢
    obtain ⟨k,p,e⟩:=s.tv_nd
    simp only [Oq.tv,e] at hp ⊢
    rw [e] at hc
    rcases res with (_ | z) | e | _ | ⟨_ | _ | _,v⟩
    · exact absurd hres (by simp [Res.isVal])
    · exact absurd hres (by simp [Res.isVal])
    · exact absurd hres (by simp [Res.isRaise])
    · exact g_body_y_s H G0 .retry (fun h=>nomatch h) _ _ _ _ _ _ _ _ _ _ h hc hp
    · exact g_body_y_s H G0 .brk (fun h=>nomatch h) _ _ _ _ _ _ _ _ _ _ h hc hp
    · exact g_body_y_s H G0 .nxt (fun h=>nomatch h) _ _ _ _ _ _ _ _ _ _ h hc hp
    · exact g_body_y_s H G0 .ret (fun h=>nomatch h) _ _ _ _ _ _ _ _ _ _ h hc hp
theorem ens_bodyo {o:Sq}(hres:res.isVal=false∧res.isRaise=false) (h:tk+1≤20000) (hts:alTs (fun _=>False) ts) (hbf:Nu.nr bf) (F:Fin prog w hb A env g0 f0 ρ0 x body rs (.yes o) late res b (tk+1) r c') :
    Goes prog w hb A env g0 f0 ρ0 x ⟨b,tk,wy res,bgT body rs (.yes o) late "body" W a q ts bf::r⟩ c':=by
  obtain ⟨ko,po,eo⟩:=o.tv_nd
  cases late with
  | no =>
    refine Goes.trans ?_ (show Goes prog w hb A env g0 f0 ρ0 x _ c' from F)
    unfold bgT begN
    simp only [Oq.tv,eo]
    rcases res with (_ | z) | e | _ | ⟨_ | _ | _,v⟩
    · exact absurd hres (by simp [Res.isVal])
    · exact absurd hres (by simp [Res.isVal])
    · exact absurd hres (by simp [Res.isRaise])
    · exact g_bodyo_n_s H G0 .retry (fun h=>nomatch h) _ _ _ _ _ _ _ _ _ _ h (wy_nr _)
    · exact g_bodyo_n_s H G0 .brk (fun h=>nomatch h) _ _ _ _ _ _ _ _ _ _ h (wy_nr _)
    · exact g_bodyo_n_s H G0 .nxt (fun h=>nomatch h) _ _ _ _ _ _ _ _ _ _ h (wy_nr _)
    · exact g_bodyo_n_s H G0 .ret (fun h=>nomatch h) _ _ _ _ _ _ _ _ _ _ h (wy_nr _)
  | yes s =>
    refine Goes.trans ?_ (F a q ts bf hts hbf)
    have hp:=bg_nr (body:=body) (rs:=rs) (other:=(.yes o)) (late:=.yes s) (st:="ensure") (way:=wy res) (a:=a) (q:=q) (wy_nr res) hts (show Nu.nr bf from hbf)
    have hc:=task_nr s.nr s.tv_nd
    unfold bgT begN at hp ⊢
    obtain ⟨k,p,e⟩:=s.tv_nd
    simp only [Oq.tv,e,eo] at hp ⊢
    rw [e] at hc
    rcases res with (_ | z) | e | _ | ⟨_ | _ | _,v⟩
    · exact absurd hres (by simp [Res.isVal])
    · exact absurd hres (by simp [Res.isVal])
    · exact absurd hres (by simp [Res.isRaise])
    · exact g_bodyo_y_s H G0 .retry (fun h=>nomatch h) _ _ _ _ _ _ _ _ _ _ _ _ h hc hp
    · exact g_bodyo_y_s H G0 .brk (fun h=>nomatch h) _ _ _ _ _ _ _ _ _ _ _ _ h hc hp
    · exact g_bodyo_y_s H G0 .nxt (fun h=>nomatch h) _ _ _ _ _ _ _ _ _ _ _ _ h hc hp
    · exact g_bodyo_y_s H G0 .ret (fun h=>nomatch h) _ _ _ _ _ _ _ _ _ _ _ _ h hc hp
end
end
section
def ansW (e:Int):Cn→TV
  | .k9=>wy (.raise 5)
  | c=>wayT "value" (.bool (c.has e))
section
variable {prog:Program}{w:World}{hb:HB}{mg mb:Str→Option Value}{A:Around}{env:Env}{g0 f0:PH}{ρ0:Rho}{x:Nat→TV}
variable (H:Hyp prog w hb mg mb) (G0:Ground0 x A ρ0 env) {body:Sq}{rs:Rs}{other late:Oq}{res:Res}{b:B}{tk:Nat}{r:List Tsk}{c':Conf}{W bf:TV}{a q:Int}{ts:List TV}
include H G0
theorem ens_val {v:Option Int}(h:tk+1≤20000) (hts:alTs (fun _=>False) ts) (hbf:Nu.nr bf) (F:Fin prog w hb A env g0 f0 ρ0 x body rs .no late (.val v) b (tk+1) r c') :
    Goes prog w hb A env g0 f0 ρ0 x ⟨b,tk,wy (.val v),bgT body rs .no late "body" W a q ts bf::r⟩ c':=by
  cases late with
  | no =>
    refine Goes.trans ?_ (show Goes prog w hb A env g0 f0 ρ0 x _ c' from F)
    unfold bgT begN
    simp only [Oq.tv]
    cases v with
    | none=>exact g_body_n_value_0 H G0 _ _ _ _ _ _ _ h (wy_nr (.val none))
    | some z=>exact g_body_n_value_1 H G0 _ _ _ _ _ _ _ _ h (wy_nr (.val (some z)))
  | yes s =>
    refine Goes.trans ?_ (F a q ts bf hts hbf)
    have hp:=bg_nr (body:=body) (rs:=rs) (other:=.no) (late:=.yes s) (st:="ensure") (way:=wy (.val v)) (a:=a) (q:=q) (wy_nr _) hts hbf
    have hc:=task_nr s.nr s.tv_nd
    unfold bgT begN at hp ⊢
    obtain ⟨k,p,e⟩:=s.tv_nd
    simp only [Oq.tv,e] at hp ⊢
    rw [e] at hc
    exact g_body_y_value H G0 _ _ _ _ _ _ _ _ _ _ h hc hp
theorem ens_r0 {e:Int}(h:tk+1≤20000) (hts:alTs (fun _=>False) ts) (hbf:Nu.nr bf) (F:Fin prog w hb A env g0 f0 ρ0 x body .r0 other late (.raise e) b (tk+1) r c') :
    Goes prog w hb A env g0 f0 ρ0 x ⟨b,tk,wy (.raise e),bgT body .r0 other late "body" W a q ts bf::r⟩ c':=by
  cases late with
  | no =>
    refine Goes.trans ?_ (show Goes prog w hb A env g0 f0 ρ0 x _ c' from F)
    cases other with
    | no =>
      unfold bgT begN
      simp only [Oq.tv,Rs.tv]
      exact g_body_n_raise H G0 _ _ _ _ _ _ _ h (wy_nr (.raise e))
    | yes o =>
      obtain ⟨ko,po,eo⟩:=o.tv_nd
      unfold bgT begN
      simp only [Oq.tv,Rs.tv,eo]
      exact g_bodyo_n_raise H G0 _ _ _ _ _ _ _ _ _ h (wy_nr (.raise e))
  | yes s =>
    refine Goes.trans ?_ (F a q ts bf hts hbf)
    have hp:=bg_nr (body:=body) (rs:=.r0) (other:=other) (late:=.yes s) (st:="ensure") (way:=wy (.raise e)) (a:=a) (q:=q) (wy_nr _) hts hbf
    have hc:=task_nr s.nr s.tv_nd
    unfold bgT begN at hp ⊢
    obtain ⟨k,p,es⟩:=s.tv_nd
    cases other with
    | no =>
      simp only [Oq.tv,Rs.tv,es] at hp ⊢
      rw [es] at hc
      exact g_body_y_raise H G0 _ _ _ _ _ _ _ _ _ h hc hp
    | yes o =>
      obtain ⟨ko,po,eo⟩:=o.tv_nd
      simp only [Oq.tv,Rs.tv,es,eo] at hp ⊢
      rw [es] at hc
      exact g_bodyo_y_raise H G0 _ _ _ _ _ _ _ _ _ _ _ h hc hp
theorem ens_bad {e:Int}(h:tk+1≤20000) (hts:alTs (fun _=>False) ts) (hbf:Nu.nr bf) (F:Fin prog w hb A env g0 f0 ρ0 x body rs other late (.raise e) b (tk+1) r c') :
    Goes prog w hb A env g0 f0 ρ0 x ⟨b,tk,wy (.raise e),bgT body rs other late "asked" W a q ts bf::r⟩ c':=by
  cases late with
  | no =>
    refine Goes.trans ?_ (show Goes prog w hb A env g0 f0 ρ0 x _ c' from F)
    unfold bgT begN
    simp only [Oq.tv]
    exact g_bad_n H G0 _ _ _ _ _ _ _ _ _ h (wy_nr (.raise e))
  | yes s =>
    refine Goes.trans ?_ (F a q ts bf hts hbf)
    have hp:=bg_nr (body:=body) (rs:=rs) (other:=other) (late:=.yes s) (st:="ensure") (way:=wy (.raise e)) (a:=a) (q:=q) (wy_nr _) hts hbf
    have hc:=task_nr s.nr s.tv_nd
    unfold bgT begN at hp ⊢
    obtain ⟨k,p,es⟩:=s.tv_nd
    simp only [Oq.tv,es] at hp ⊢
    rw [es] at hc
    exact g_bad_y H G0 _ _ _ _ _ _ _ _ _ _ _ h hc hp
theorem goes_weak {t:Tsk}:Goes prog w hb A env g0 f0 ρ0 x ⟨b,tk,wayT "raise" (.int 5),t::r⟩ ⟨b,tk,wy (.raise 5),t::r⟩:=by
  refine ⟨fun Q k s hgood => ?_⟩
  obtain ⟨ok,g,f,ρ,cN,gN,lb,eb,h1,h2,h3,h4,R,h5,h6⟩:=hgood
  have ok':Conf.Ok ⟨b,tk,wy (.raise 5),t::r⟩:=⟨ok.tr,wy_nr _,ok.stk,ok.trl,ok.sl,ok.tk⟩
  let wc (way:TV):Cell:=.inst 659 [(u "world",.ref 4),(u "table",.ref 7),(u "catches",.tup [.str (u "begin")]),(u "stack",.ref 6),(u "way",way),(u "fiber",.none)]
  have e1:lkC (Conf.cells x ⟨b,tk,wayT "raise" (.int 5),t::r⟩ (MSof b tk cN gN lb eb)) 5=some (wc (wayT "raise" (.int 5))):=by cases t<;>kernel_rfl
  have e2:puC (Conf.cells x ⟨b,tk,wayT "raise" (.int 5),t::r⟩ (MSof b tk cN gN lb eb)) 5 (wc (wy (.raise 5)))=Conf.cells x ⟨b,tk,wy (.raise 5),t::r⟩ (MSof b tk cN gN lb eb):=by cases t<;>kernel_rfl
  have R2:=R.wk e1 (c':=wc (wy (.raise 5))) rfl fun a d oa od z=>by
    obtain ⟨z1,es,n,z2,z3,z4⟩:=z
    refine ⟨z1,es,n,z2,?_,z4⟩
    cases z3 with | cons f1 z3=>cases z3 with | cons f2 z3=>cases z3 with | cons f3 z3=>cases z3 with | cons f4 z3=>cases z3 with | cons f5 z3=>cases z3 with | cons f6 z3 =>
    refine .cons f1 (.cons f2 (.cons f3 (.cons f4 (.cons ?_ (.cons f6 z3)))))
    cases f5 with
    | ins q1 q2 q3 =>
      cases q3 with | cons k1 q3=>cases q3 with | cons k2 q3 =>
      refine .ins q1 q2 (.cons k1 (.cons ?_ q3))
      cases k2
      exact .sint
  rw [e2] at R2
  exact k s ⟨ok',g,f,ρ,cN,gN,lb,eb,h1,h2,h3,h4,R2,h5,h6⟩
theorem m_send {e:Int}{c:Cn}{t:Tsk}(h:tk+1≤20000):Goes prog w hb A env g0 f0 ρ0 x ⟨b,tk,.none,.plain (u "sending") (.tup [.int c.i,.str (u "==="),.lst [.sint e],.none,.str (u "call")]) (.int 0) []::t::r⟩
    ⟨b.note (askT e c),tk+1,ansW e c,t::r⟩:=by
  have hn:∀ c:Cn,Nu.nr (askT e c):=fun c=>⟨trivial,trivial,trivial,trivial,trivial⟩
  have hv:∀ v,Nu.nr (wayT "value" (.bool v)):=fun v=>way_nr trivial
  cases c with
  | k0 =>
    by_cases he:e.fmod 3=0
    · rw [show ansW e .k0=wayT "value" (.bool true) from congrArg (fun z=>wayT "value" (.bool z)) (show Cn.has .k0 e=true from decide_eq_true he)]
      exact g_send0_t H G0 _ he h (hn .k0) (hv _)
    · rw [show ansW e .k0=wayT "value" (.bool false) from congrArg (fun z=>wayT "value" (.bool z)) (show Cn.has .k0 e=false from decide_eq_false he)]
      exact g_send0_f H G0 _ he h (hn .k0) (hv _)
  | k1 =>
    by_cases he:e.fmod 3=1
    · rw [show ansW e .k1=wayT "value" (.bool true) from congrArg (fun z=>wayT "value" (.bool z)) (show Cn.has .k1 e=true from decide_eq_true he)]
      exact g_send1_t H G0 _ he h (hn .k1) (hv _)
    · rw [show ansW e .k1=wayT "value" (.bool false) from congrArg (fun z=>wayT "value" (.bool z)) (show Cn.has .k1 e=false from decide_eq_false he)]
      exact g_send1_f H G0 _ he h (hn .k1) (hv _)
  | k2 =>
    by_cases he:e.fmod 3=2
    · rw [show ansW e .k2=wayT "value" (.bool true) from congrArg (fun z=>wayT "value" (.bool z)) (show Cn.has .k2 e=true from decide_eq_true he)]
      exact g_send2_t H G0 _ he h (hn .k2) (hv _)
    · rw [show ansW e .k2=wayT "value" (.bool false) from congrArg (fun z=>wayT "value" (.bool z)) (show Cn.has .k2 e=false from decide_eq_false he)]
      exact g_send2_f H G0 _ he h (hn .k2) (hv _)
  | k7=>exact g_send7 H G0 _ h (hn .k7) (hv _)
  | k9=>exact Goes.trans (g_send9 H G0 _ h (hn .k9) (way_nr trivial)) (goes_weak H G0)
def askN (const:Bool) (c:Cn):TV:=match const with
  | true=>ndT (u "const") (.tup [.none,.str (u "StandardError")])
  | false=>cnT c
def valsT (nd:TV):Tsk:=.plain (u "values") (.lst [nd]) (.int 0) []
theorem ask_one {e:Int}{c:Cn}{const:Bool}(hcst:const=true→c = .k7) (hbf:Nu.nr bf) (h:tk+5≤20000):Goes prog w hb A env g0 f0 ρ0 x ⟨b,tk,.none,valsT (askN const c)::bgT body rs other late "class" (wy (.raise e)) a q [] bf::r⟩
    ⟨b.note (askT e c),tk+5,ansW e c,bgT body rs other late "asked" (wy (.raise e)) a q [] bf::r⟩:=by
  have hnd:Nu.nr (askN const c):=by
    cases const with
    | true=>exact nd_nr ⟨trivial,trivial,trivial⟩
    | false=>exact nd_nr ⟨trivial,trivial⟩
  have hva:nrK (valsT (askN const c)):=⟨⟨hnd,trivial⟩,trivial,trivial⟩
  have step2:Goes prog w hb A env g0 f0 ρ0 x ⟨b,tk,.none,valsT (askN const c)::bgT body rs other late "class" (wy (.raise e)) a q [] bf::r⟩ ⟨b,tk+3,wayT "value" (.lst [.int c.i]),bgT body rs other late "class" (wy (.raise e)) a q [] bf::r⟩:=by
    cases const with
    | true =>
      have:=hcst rfl
      subst this
      refine Goes.trans (g_vals0_const H G0 _ (by omega) (⟨hnd,trivial,trivial⟩) hva) ?_
      refine Goes.trans (g_const H G0 (by omega) (way_nr trivial)) ?_
      exact g_vals1_const H G0 _ _ (by omega) (way_nr ⟨trivial,trivial⟩)
    | false =>
      refine Goes.trans (g_vals0_int H G0 _ (by omega) (⟨hnd,trivial,trivial⟩) hva) ?_
      refine Goes.trans (g_int H G0 _ (by omega) (way_nr trivial)) ?_
      exact g_vals1_int H G0 _ _ (by omega) (way_nr ⟨trivial,trivial⟩)
  refine Goes.trans step2 ?_
  refine Goes.trans (g_class H G0 _ _ _ _ _ _ _ _ _ _ (by omega) (⟨⟨trivial,trivial,⟨trivial,trivial⟩,trivial,trivial,trivial⟩,trivial,trivial⟩) (bg_nr (wy_nr (.raise e)) trivial hbf)) ?_
  exact m_send H G0 (by omega)
end
end
section
section
variable {prog:Program}{w:World}{hb:HB}{mg mb:Str→Option Value}{A:Around}{env:Env}{g0 f0:PH}{ρ0:Rho}{x:Nat→TV}
variable (H:Hyp prog w hb mg mb) (G0:Ground0 x A ρ0 env) {body:Sq}{rs:Rs}{other late:Oq}{res:Res}{b:B}{tk:Nat}{r:List Tsk}{c':Conf}{W bf:TV}{a q:Int}{ts:List TV}{e:Int}
variable (prog w hb A env g0 f0 ρ0 x) in
def Tgt (body:Sq) (rs:Rs) (other late:Oq) (e:Int) (p:Pick) (b:B) (tk:Nat) (r:List Tsk) (c':Conf):Prop:=match p with
  | .no=>Fin prog w hb A env g0 f0 ρ0 x body rs other late (.raise e) b tk r c'
  | .bad=>Fin prog w hb A env g0 f0 ρ0 x body rs other late (.raise 5) b tk r c'
  | .hit R=>∀ a q,Goes prog w hb A env g0 f0 ρ0 x ⟨b.enter e R.goal,tk+gk R.goal,.none,taskOf R.body.tv::bgT body rs other late "rescue" (wy (.raise e)) a q [] (oi b.la)::r⟩ c'
def gkP:Pick→Nat
  | .hit R=>gk R.goal
  | _=>0
def pk (l:List Cn) (R:Rc) (rest:List Rc) (e:Int):List Cn×Pick:=match askL l e with
  | (a,.hit)=>(a,.hit R)
  | (a,.bad)=>(a,.bad)
  | (a,.no)=>(a++(pickL rest e).1,(pickL rest e).2)
theorem pk_nil {R:Rc}{rest:List Rc}:pk [] R rest e=pickL rest e:=rfl
theorem pk_first {R:Rc}{rest:List Rc}:pickL (R::rest) e=pk R.cl.asked R rest e:=by
  unfold pk
  rw [pickL]
  all_goals
    cases askL R.cl.asked e with
    | mk a p=>cases p<;>rfl
theorem pk_bad {l:List Cn}{R:Rc}{rest:List Rc}:pk (.k9::l) R rest e=([.k9],.bad):=rfl
theorem askL_hit {c:Cn}{l:List Cn}(h:c ≠ .k9) (hh:c.has e=true):askL (c::l) e=([c],.hit):=by
  cases c<;>first | exact absurd rfl h | (rw [askL]<;>first | (simp only [hh]; done) | (intro q; cases q))
theorem askL_no {c:Cn}{l:List Cn}(h:c ≠ .k9) (hh:c.has e=false):askL (c::l) e=(c::(askL l e).1,(askL l e).2):=by
  cases c<;>first | exact absurd rfl h | (rw [askL]<;>first | (simp only [hh]; done) | (intro q; cases q))
theorem pk_hit {c:Cn}{l:List Cn}{R:Rc}{rest:List Rc}(h:c ≠ .k9) (hh:c.has e=true):pk (c::l) R rest e=([c],.hit R):=by
  unfold pk; rw [askL_hit h hh]
theorem pk_no {c:Cn}{l:List Cn}{R:Rc}{rest:List Rc}(h:c ≠ .k9) (hh:c.has e=false):pk (c::l) R rest e=(c::(pk l R rest e).1,(pk l R rest e).2):=by
  unfold pk; rw [askL_no h hh]
  rcases askL l e with ⟨a,_ | _ | _⟩<;>rfl
include H G0
theorem cur {const:Bool}{c:Cn}{l:List Cn}{R:Rc}{rest:List Rc}(hcst:const=true→c = .k7) (hbf:Nu.nr bf)
    (hb':tk+6*(pk (c::l) R rest e).1.length+gkP (pk (c::l) R rest e).2≤20000) (T:Tgt prog w hb A env g0 f0 ρ0 x body rs other late e (pk (c::l) R rest e).2 (b.asks e (pk (c::l) R rest e).1) (tk+6*(pk (c::l) R rest e).1.length) r c')
    (khit:∀ b' tk',tk'+1+gk R.goal≤20000→Tgt prog w hb A env g0 f0 ρ0 x body rs other late e (.hit R) b' (tk'+1) r c'→Goes prog w hb A env g0 f0 ρ0 x ⟨b',tk',wayT "value" (.bool true),bgT body rs other late "asked" (wy (.raise e)) a q [] bf::r⟩ c')
    (kno:c.has e=false→∀ b' tk',tk'+1+6*(pk l R rest e).1.length+gkP (pk l R rest e).2≤20000→Tgt prog w hb A env g0 f0 ρ0 x body rs other late e (pk l R rest e).2 (b'.asks e (pk l R rest e).1) (tk'+1+6*(pk l R rest e).1.length) r c' →
      Goes prog w hb A env g0 f0 ρ0 x ⟨b',tk',wayT "value" (.bool false),bgT body rs other late "asked" (wy (.raise e)) a q [] bf::r⟩ c') :
    Goes prog w hb A env g0 f0 ρ0 x ⟨b,tk,.none,valsT (askN const c)::bgT body rs other late "class" (wy (.raise e)) a q [] bf::r⟩ c':=by
  by_cases h9:c = .k9
  · subst h9
    rw [pk_bad] at hb' T
    have hb':tk+6≤20000:=hb'
    refine Goes.trans (ask_one H G0 hcst hbf (by omega)) ?_
    exact ens_bad H G0 (by omega) trivial hbf T
  · have ha:∀ v,c.has e=v→ansW e c=wayT "value" (.bool v):=fun v hv=>by
      cases c<;>first | exact absurd rfl h9 | exact congrArg (fun z=>wayT "value" (.bool z)) hv
    cases hh:c.has e with
    | true =>
      rw [pk_hit h9 hh] at hb' T
      have hb':tk+6+gk R.goal≤20000:=hb'
      refine Goes.trans (ask_one H G0 hcst hbf (by omega)) ?_
      rw [ha true hh]
      exact khit _ _ (by omega) T
    | false =>
      rw [pk_no h9 hh] at hb' T
      have hl:(c::(pk l R rest e).1).length=(pk l R rest e).1.length+1:=rfl
      dsimp only at hb' T
      rw [hl] at hb' T
      refine Goes.trans (ask_one H G0 hcst hbf (by omega)) ?_
      rw [ha false hh]
      refine kno hh _ _ (by omega) ?_
      have:tk+5+1+6*(pk l R rest e).1.length=tk+6*((pk l R rest e).1.length+1):=by omega
      rw [this]; exact T
theorem hit1 {cl:Cl}{goal:Bool}{bd:Sq}(hbf:Nu.nr bf) (h:tk+1+gk goal≤20000) (T:Tgt prog w hb A env g0 f0 ρ0 x body (.r1 (.mk cl goal bd)) other late e (.hit (.mk cl goal bd)) b (tk+1) r c') :
    Goes prog w hb A env g0 f0 ρ0 x ⟨b,tk,wayT "value" (.bool true),bgT body (.r1 (.mk cl goal bd)) other late "asked" (wy (.raise e)) 0 q [] bf::r⟩ c':=by
  refine Goes.trans ?_ (T 0 q)
  have hc:=task_nr bd.nr bd.tv_nd
  have hp:∀ st,nrK (bgT body (.r1 (.mk cl goal bd)) other late st (wy (.raise e)) 0 q [] (oi b.la)):=fun st=>bg_nr (wy_nr _) trivial (oi_nr _)
  obtain ⟨k,p,eb⟩:=bd.tv_nd
  show Goes prog w hb A env g0 f0 ρ0 x _ ⟨b.enter e goal,tk+1+gk goal,.none,taskOf bd.tv::_::r⟩
  cases goal with
  | false =>
    unfold bgT begN at hp ⊢
    simp only [Rs.tv,Rc.tv,gT,eb] at hp ⊢
    rw [eb] at hc
    exact g_hit1_n H G0 _ _ _ _ _ _ _ _ _ h hc (hp "rescue")
  | true =>
    have h:tk+1+2≤20000:=h
    unfold bgT begN at hp ⊢
    simp only [Rs.tv,Rc.tv,gT,eb] at hp ⊢
    rw [eb] at hc
    refine Goes.trans (g_hit1_g H G0 _ _ _ _ _ _ _ _ (by omega) (⟨⟨gT_nr true,trivial,trivial⟩,trivial,trivial⟩) (hp "target")) ?_
    refine Goes.trans (g_settle H G0 _ (by omega) (way_nr trivial)) ?_
    exact g_target1 H G0 _ _ _ _ _ _ _ _ _ _ _ (by omega) hc (hp "rescue")
end
end
section
section
variable {prog:Program}{w:World}{hb:HB}{mg mb:Str→Option Value}{A:Around}{env:Env}{g0 f0:PH}{ρ0:Rho}{x:Nat→TV}
variable (H:Hyp prog w hb mg mb) (G0:Ground0 x A ρ0 env) {body:Sq}{other late:Oq}{res:Res}{b:B}{tk:Nat}{r:List Tsk}{c':Conf}{W bf:TV}{a q:Int}{ts:List TV}{e:Int}
include H G0
theorem hit2 {rx:Rc}{cl:Cl}{goal:Bool}{bd:Sq}(hbf:Nu.nr bf) (h:tk+1+gk goal≤20000) (T:Tgt prog w hb A env g0 f0 ρ0 x body (.r2 (.mk cl goal bd) rx) other late e (.hit (.mk cl goal bd)) b (tk+1) r c') :
    Goes prog w hb A env g0 f0 ρ0 x ⟨b,tk,wayT "value" (.bool true),bgT body (.r2 (.mk cl goal bd) rx) other late "asked" (wy (.raise e)) 0 q [] bf::r⟩ c':=by
  refine Goes.trans ?_ (T 0 q)
  have hc:=task_nr bd.nr bd.tv_nd
  have hp:∀ st,nrK (bgT body (.r2 (.mk cl goal bd) rx) other late st (wy (.raise e)) 0 q [] (oi b.la)):=fun st=>bg_nr (wy_nr _) trivial (oi_nr _)
  obtain ⟨k,p,eb⟩:=bd.tv_nd
  show Goes prog w hb A env g0 f0 ρ0 x _ ⟨b.enter e goal,tk+1+gk goal,.none,taskOf bd.tv::_::r⟩
  cases goal with
  | false =>
    unfold bgT begN at hp ⊢
    simp only [Rs.tv,Rc.tv,gT,eb] at hp ⊢
    rw [eb] at hc
    exact g_hit2_n H G0 _ _ _ _ _ _ _ _ _ _ h hc (hp "rescue")
  | true =>
    have h:tk+1+2≤20000:=h
    unfold bgT begN at hp ⊢
    simp only [Rs.tv,Rc.tv,gT,eb] at hp ⊢
    rw [eb] at hc
    refine Goes.trans (g_hit2_g H G0 _ _ _ _ _ _ _ _ _ (by omega) (⟨⟨gT_nr true,trivial,trivial⟩,trivial,trivial⟩) (hp "target")) ?_
    refine Goes.trans (g_settle H G0 _ (by omega) (way_nr trivial)) ?_
    exact g_target2 H G0 _ _ _ _ _ _ _ _ _ _ _ _ (by omega) hc (hp "rescue")
theorem hit3 {rx:Rc}{cl:Cl}{goal:Bool}{bd:Sq}(hbf:Nu.nr bf) (h:tk+1+gk goal≤20000) (T:Tgt prog w hb A env g0 f0 ρ0 x body (.r2 rx (.mk cl goal bd)) other late e (.hit (.mk cl goal bd)) b (tk+1) r c') :
    Goes prog w hb A env g0 f0 ρ0 x ⟨b,tk,wayT "value" (.bool true),bgT body (.r2 rx (.mk cl goal bd)) other late "asked" (wy (.raise e)) 1 q [] bf::r⟩ c':=by
  refine Goes.trans ?_ (T 1 q)
  have hc:=task_nr bd.nr bd.tv_nd
  have hp:∀ st,nrK (bgT body (.r2 rx (.mk cl goal bd)) other late st (wy (.raise e)) 1 q [] (oi b.la)):=fun st=>bg_nr (wy_nr _) trivial (oi_nr _)
  obtain ⟨k,p,eb⟩:=bd.tv_nd
  show Goes prog w hb A env g0 f0 ρ0 x _ ⟨b.enter e goal,tk+1+gk goal,.none,taskOf bd.tv::_::r⟩
  cases goal with
  | false =>
    unfold bgT begN at hp ⊢
    simp only [Rs.tv,Rc.tv,gT,eb] at hp ⊢
    rw [eb] at hc
    exact g_hit3_n H G0 _ _ _ _ _ _ _ _ _ _ h hc (hp "rescue")
  | true =>
    have h:tk+1+2≤20000:=h
    unfold bgT begN at hp ⊢
    simp only [Rs.tv,Rc.tv,gT,eb] at hp ⊢
    rw [eb] at hc
    refine Goes.trans (g_hit3_g H G0 _ _ _ _ _ _ _ _ _ (by omega) (⟨⟨gT_nr true,trivial,trivial⟩,trivial,trivial⟩) (hp "target")) ?_
    refine Goes.trans (g_settle H G0 _ (by omega) (way_nr trivial)) ?_
    exact g_target3 H G0 _ _ _ _ _ _ _ _ _ _ _ _ (by omega) hc (hp "rescue")
theorem exh1_1 {g:Bool}{bd:Sq}{d0:Cn}(h:tk+1≤20000) (hbf:Nu.nr bf) (F:Fin prog w hb A env g0 f0 ρ0 x body (.r1 (.mk (.c1 d0) g bd)) other late (.raise e) b (tk+1) r c') :
    Goes prog w hb A env g0 f0 ρ0 x ⟨b,tk,wayT "value" (.bool false),bgT body (.r1 (.mk (.c1 d0) g bd)) other late "asked" (wy (.raise e)) 0 1 [] bf::r⟩ c':=by
  cases late with
  | no =>
    refine Goes.trans ?_ (show Goes prog w hb A env g0 f0 ρ0 x _ c' from F)
    unfold bgT begN
    simp only [Oq.tv,Rs.tv,Rc.tv,clT']
    exact g_no1_1_n H G0 _ _ _ _ _ _ _ h (wy_nr (.raise e))
  | yes s =>
    refine Goes.trans ?_ (F 1 0 [] bf trivial hbf)
    have hp:=bg_nr (body:=body) (rs:=(.r1 (.mk (.c1 d0) g bd))) (other:=other) (late:=.yes s) (st:="ensure") (way:=wy (.raise e)) (a:=1) (q:=0) (ts:=[]) (wy_nr _) trivial hbf
    have hc:=task_nr s.nr s.tv_nd
    unfold bgT begN at hp ⊢
    obtain ⟨k,p,es⟩:=s.tv_nd
    simp only [Oq.tv,es,Rs.tv,Rc.tv,clT'] at hp ⊢
    rw [es] at hc
    exact g_no1_1_y H G0 _ _ _ _ _ _ _ _ _ h hc hp
theorem exh1_2 {g:Bool}{bd:Sq}{d0 d1:Cn}(h:tk+1≤20000) (hbf:Nu.nr bf) (F:Fin prog w hb A env g0 f0 ρ0 x body (.r1 (.mk (.c2 d0 d1) g bd)) other late (.raise e) b (tk+1) r c') :
    Goes prog w hb A env g0 f0 ρ0 x ⟨b,tk,wayT "value" (.bool false),bgT body (.r1 (.mk (.c2 d0 d1) g bd)) other late "asked" (wy (.raise e)) 0 2 [] bf::r⟩ c':=by
  cases late with
  | no =>
    refine Goes.trans ?_ (show Goes prog w hb A env g0 f0 ρ0 x _ c' from F)
    unfold bgT begN
    simp only [Oq.tv,Rs.tv,Rc.tv,clT']
    exact g_no1_2_n H G0 _ _ _ _ _ _ _ _ h (wy_nr (.raise e))
  | yes s =>
    refine Goes.trans ?_ (F 1 0 [] bf trivial hbf)
    have hp:=bg_nr (body:=body) (rs:=(.r1 (.mk (.c2 d0 d1) g bd))) (other:=other) (late:=.yes s) (st:="ensure") (way:=wy (.raise e)) (a:=1) (q:=0) (ts:=[]) (wy_nr _) trivial hbf
    have hc:=task_nr s.nr s.tv_nd
    unfold bgT begN at hp ⊢
    obtain ⟨k,p,es⟩:=s.tv_nd
    simp only [Oq.tv,es,Rs.tv,Rc.tv,clT'] at hp ⊢
    rw [es] at hc
    exact g_no1_2_y H G0 _ _ _ _ _ _ _ _ _ _ h hc hp
theorem exh2_1 {g:Bool}{bd:Sq}{d0:Cn}{rx:Rc}(h:tk+1≤20000) (hbf:Nu.nr bf) (F:Fin prog w hb A env g0 f0 ρ0 x body (.r2 rx (.mk (.c1 d0) g bd)) other late (.raise e) b (tk+1) r c') :
    Goes prog w hb A env g0 f0 ρ0 x ⟨b,tk,wayT "value" (.bool false),bgT body (.r2 rx (.mk (.c1 d0) g bd)) other late "asked" (wy (.raise e)) 1 1 [] bf::r⟩ c':=by
  cases late with
  | no =>
    refine Goes.trans ?_ (show Goes prog w hb A env g0 f0 ρ0 x _ c' from F)
    unfold bgT begN
    simp only [Oq.tv,Rs.tv,Rc.tv,clT']
    exact g_no2_1_n H G0 _ _ _ _ _ _ _ _ h (wy_nr (.raise e))
  | yes s =>
    refine Goes.trans ?_ (F 2 0 [] bf trivial hbf)
    have hp:=bg_nr (body:=body) (rs:=(.r2 rx (.mk (.c1 d0) g bd))) (other:=other) (late:=.yes s) (st:="ensure") (way:=wy (.raise e)) (a:=2) (q:=0) (ts:=[]) (wy_nr _) trivial hbf
    have hc:=task_nr s.nr s.tv_nd
    unfold bgT begN at hp ⊢
    obtain ⟨k,p,es⟩:=s.tv_nd
    simp only [Oq.tv,es,Rs.tv,Rc.tv,clT'] at hp ⊢
    rw [es] at hc
    exact g_no2_1_y H G0 _ _ _ _ _ _ _ _ _ _ h hc hp
theorem exh2_2 {g:Bool}{bd:Sq}{d0 d1:Cn}{rx:Rc}(h:tk+1≤20000) (hbf:Nu.nr bf) (F:Fin prog w hb A env g0 f0 ρ0 x body (.r2 rx (.mk (.c2 d0 d1) g bd)) other late (.raise e) b (tk+1) r c') :
    Goes prog w hb A env g0 f0 ρ0 x ⟨b,tk,wayT "value" (.bool false),bgT body (.r2 rx (.mk (.c2 d0 d1) g bd)) other late "asked" (wy (.raise e)) 1 2 [] bf::r⟩ c':=by
  cases late with
  | no =>
    refine Goes.trans ?_ (show Goes prog w hb A env g0 f0 ρ0 x _ c' from F)
    unfold bgT begN
    simp only [Oq.tv,Rs.tv,Rc.tv,clT']
    exact g_no2_2_n H G0 _ _ _ _ _ _ _ _ _ h (wy_nr (.raise e))
  | yes s =>
    refine Goes.trans ?_ (F 2 0 [] bf trivial hbf)
    have hp:=bg_nr (body:=body) (rs:=(.r2 rx (.mk (.c2 d0 d1) g bd))) (other:=other) (late:=.yes s) (st:="ensure") (way:=wy (.raise e)) (a:=2) (q:=0) (ts:=[]) (wy_nr _) trivial hbf
    have hc:=task_nr s.nr s.tv_nd
    unfold bgT begN at hp ⊢
    obtain ⟨k,p,es⟩:=s.tv_nd
    simp only [Oq.tv,es,Rs.tv,Rc.tv,clT'] at hp ⊢
    rw [es] at hc
    exact g_no2_2_y H G0 _ _ _ _ _ _ _ _ _ _ _ h hc hp
theorem cur3_22 {g:Bool}{bd:Sq}{d0 d1:Cn}{rx:Rc}(hbf:Nu.nr bf) (hb':tk+6*(pk (d1::[]) (.mk (.c2 d0 d1) g bd) [] e).1.length+gkP (pk (d1::[]) (.mk (.c2 d0 d1) g bd) [] e).2≤20000) (T:Tgt prog w hb A env g0 f0 ρ0 x body (.r2 rx (.mk (.c2 d0 d1) g bd)) other late e (pk (d1::[]) (.mk (.c2 d0 d1) g bd) [] e).2 (b.asks e (pk (d1::[]) (.mk (.c2 d0 d1) g bd) [] e).1) (tk+6*(pk (d1::[]) (.mk (.c2 d0 d1) g bd) [] e).1.length) r c') :
    Goes prog w hb A env g0 f0 ρ0 x ⟨b,tk,.none,valsT (askN false d1)::bgT body (.r2 rx (.mk (.c2 d0 d1) g bd)) other late "class" (wy (.raise e)) 1 2 [] bf::r⟩ c' :=
  cur H G0 (fun q=>nomatch q) hbf hb' T (fun b' tk' h T=>hit3 H G0 hbf h T) fun hh b' tk' h T=>by
    exact exh2_2 H G0 (by omega) hbf T
theorem cur3_21 {g:Bool}{bd:Sq}{d0 d1:Cn}{rx:Rc}(hbf:Nu.nr bf) (hb':tk+6*(pk (d0::[d1]) (.mk (.c2 d0 d1) g bd) [] e).1.length+gkP (pk (d0::[d1]) (.mk (.c2 d0 d1) g bd) [] e).2≤20000) (T:Tgt prog w hb A env g0 f0 ρ0 x body (.r2 rx (.mk (.c2 d0 d1) g bd)) other late e (pk (d0::[d1]) (.mk (.c2 d0 d1) g bd) [] e).2 (b.asks e (pk (d0::[d1]) (.mk (.c2 d0 d1) g bd) [] e).1) (tk+6*(pk (d0::[d1]) (.mk (.c2 d0 d1) g bd) [] e).1.length) r c') :
    Goes prog w hb A env g0 f0 ρ0 x ⟨b,tk,.none,valsT (askN false d0)::bgT body (.r2 rx (.mk (.c2 d0 d1) g bd)) other late "class" (wy (.raise e)) 1 1 [] bf::r⟩ c' :=
  cur H G0 (fun q=>nomatch q) hbf hb' T (fun b' tk' h T=>hit3 H G0 hbf h T) fun hh b' tk' h T=>by
    refine Goes.trans ?_ (cur3_22 H G0 hbf h T)
    have hp:=bg_nr (body:=body) (rs:=(.r2 rx (.mk (.c2 d0 d1) g bd))) (other:=other) (late:=late) (st:="class") (way:=wy (.raise e)) (a:=1) (q:=2) (ts:=[]) (bf:=bf) (wy_nr _) trivial hbf
    unfold bgT begN at hp ⊢
    simp only [Rs.tv,Rc.tv,clT'] at hp ⊢
    exact g_nx3_2 H G0 _ _ _ _ _ _ _ _ _ _ (by omega) (⟨⟨nd_nr ⟨trivial,trivial⟩,trivial⟩,trivial,trivial⟩) hp
theorem cur3_1 {g:Bool}{bd:Sq}{d0:Cn}{rx:Rc}(hbf:Nu.nr bf) (hb':tk+6*(pk (d0::[]) (.mk (.c1 d0) g bd) [] e).1.length+gkP (pk (d0::[]) (.mk (.c1 d0) g bd) [] e).2≤20000) (T:Tgt prog w hb A env g0 f0 ρ0 x body (.r2 rx (.mk (.c1 d0) g bd)) other late e (pk (d0::[]) (.mk (.c1 d0) g bd) [] e).2 (b.asks e (pk (d0::[]) (.mk (.c1 d0) g bd) [] e).1) (tk+6*(pk (d0::[]) (.mk (.c1 d0) g bd) [] e).1.length) r c') :
    Goes prog w hb A env g0 f0 ρ0 x ⟨b,tk,.none,valsT (askN false d0)::bgT body (.r2 rx (.mk (.c1 d0) g bd)) other late "class" (wy (.raise e)) 1 1 [] bf::r⟩ c' :=
  cur H G0 (fun q=>nomatch q) hbf hb' T (fun b' tk' h T=>hit3 H G0 hbf h T) fun hh b' tk' h T=>by
    exact exh2_1 H G0 (by omega) hbf T
theorem cur3_0 {g:Bool}{bd:Sq}{rx:Rc}(hbf:Nu.nr bf) (hb':tk+6*(pk (.k7::[]) (.mk .c0 g bd) [] e).1.length+gkP (pk (.k7::[]) (.mk .c0 g bd) [] e).2≤20000) (T:Tgt prog w hb A env g0 f0 ρ0 x body (.r2 rx (.mk .c0 g bd)) other late e (pk (.k7::[]) (.mk .c0 g bd) [] e).2 (b.asks e (pk (.k7::[]) (.mk .c0 g bd) [] e).1) (tk+6*(pk (.k7::[]) (.mk .c0 g bd) [] e).1.length) r c') :
    Goes prog w hb A env g0 f0 ρ0 x ⟨b,tk,.none,valsT (askN true .k7)::bgT body (.r2 rx (.mk .c0 g bd)) other late "class" (wy (.raise e)) 1 1 [] bf::r⟩ c' :=
  cur H G0 (fun _=>rfl) hbf hb' T (fun b' tk' h T=>hit3 H G0 hbf h T) fun hh b' tk' h T=>by
    exact absurd hh (by simp [Cn.has])
theorem cur2_22_0 {g g2:Bool}{bd b2:Sq}{d0 d1:Cn}(hbf:Nu.nr bf) (hb':tk+6*(pk (d1::[]) (.mk (.c2 d0 d1) g bd) [(.mk .c0 g2 b2)] e).1.length+gkP (pk (d1::[]) (.mk (.c2 d0 d1) g bd) [(.mk .c0 g2 b2)] e).2≤20000) (T:Tgt prog w hb A env g0 f0 ρ0 x body (.r2 (.mk (.c2 d0 d1) g bd) (.mk .c0 g2 b2)) other late e (pk (d1::[]) (.mk (.c2 d0 d1) g bd) [(.mk .c0 g2 b2)] e).2 (b.asks e (pk (d1::[]) (.mk (.c2 d0 d1) g bd) [(.mk .c0 g2 b2)] e).1) (tk+6*(pk (d1::[]) (.mk (.c2 d0 d1) g bd) [(.mk .c0 g2 b2)] e).1.length) r c') :
    Goes prog w hb A env g0 f0 ρ0 x ⟨b,tk,.none,valsT (askN false d1)::bgT body (.r2 (.mk (.c2 d0 d1) g bd) (.mk .c0 g2 b2)) other late "class" (wy (.raise e)) 0 2 [] bf::r⟩ c' :=
  cur H G0 (fun q=>nomatch q) hbf hb' T (fun b' tk' h T=>hit2 H G0 hbf h T) fun hh b' tk' h T=>by
    refine Goes.trans ?_ (cur3_0 (g:=g2) (bd:=b2) (rx:=.mk (.c2 d0 d1) g bd) H G0 hbf h T)
    have hp:=bg_nr (body:=body) (rs:=(.r2 (.mk (.c2 d0 d1) g bd) (.mk .c0 g2 b2))) (other:=other) (late:=late) (st:="class") (way:=wy (.raise e)) (a:=1) (q:=1) (ts:=[]) (bf:=bf) (wy_nr _) trivial hbf
    unfold bgT begN at hp ⊢
    simp only [Rs.tv,Rc.tv,clT'] at hp ⊢
    exact g_to2_20 H G0 _ _ _ _ _ _ _ _ _ _ _ (by omega) (⟨⟨nd_nr ⟨trivial,trivial,trivial⟩,trivial⟩,trivial,trivial⟩) hp
theorem cur2_21_0 {g g2:Bool}{bd b2:Sq}{d0 d1:Cn}(hbf:Nu.nr bf) (hb':tk+6*(pk (d0::[d1]) (.mk (.c2 d0 d1) g bd) [(.mk .c0 g2 b2)] e).1.length+gkP (pk (d0::[d1]) (.mk (.c2 d0 d1) g bd) [(.mk .c0 g2 b2)] e).2≤20000) (T:Tgt prog w hb A env g0 f0 ρ0 x body (.r2 (.mk (.c2 d0 d1) g bd) (.mk .c0 g2 b2)) other late e (pk (d0::[d1]) (.mk (.c2 d0 d1) g bd) [(.mk .c0 g2 b2)] e).2 (b.asks e (pk (d0::[d1]) (.mk (.c2 d0 d1) g bd) [(.mk .c0 g2 b2)] e).1) (tk+6*(pk (d0::[d1]) (.mk (.c2 d0 d1) g bd) [(.mk .c0 g2 b2)] e).1.length) r c') :
    Goes prog w hb A env g0 f0 ρ0 x ⟨b,tk,.none,valsT (askN false d0)::bgT body (.r2 (.mk (.c2 d0 d1) g bd) (.mk .c0 g2 b2)) other late "class" (wy (.raise e)) 0 1 [] bf::r⟩ c' :=
  cur H G0 (fun q=>nomatch q) hbf hb' T (fun b' tk' h T=>hit2 H G0 hbf h T) fun hh b' tk' h T=>by
    refine Goes.trans ?_ (cur2_22_0 H G0 hbf h T)
    have hp:=bg_nr (body:=body) (rs:=(.r2 (.mk (.c2 d0 d1) g bd) (.mk .c0 g2 b2))) (other:=other) (late:=late) (st:="class") (way:=wy (.raise e)) (a:=0) (q:=2) (ts:=[]) (bf:=bf) (wy_nr _) trivial hbf
    unfold bgT begN at hp ⊢
    simp only [Rs.tv,Rc.tv,clT'] at hp ⊢
    exact g_nx2_2 H G0 _ _ _ _ _ _ _ _ _ _ (by omega) (⟨⟨nd_nr ⟨trivial,trivial⟩,trivial⟩,trivial,trivial⟩) hp
theorem cur2_1_0 {g g2:Bool}{bd b2:Sq}{d0:Cn}(hbf:Nu.nr bf) (hb':tk+6*(pk (d0::[]) (.mk (.c1 d0) g bd) [(.mk .c0 g2 b2)] e).1.length+gkP (pk (d0::[]) (.mk (.c1 d0) g bd) [(.mk .c0 g2 b2)] e).2≤20000) (T:Tgt prog w hb A env g0 f0 ρ0 x body (.r2 (.mk (.c1 d0) g bd) (.mk .c0 g2 b2)) other late e (pk (d0::[]) (.mk (.c1 d0) g bd) [(.mk .c0 g2 b2)] e).2 (b.asks e (pk (d0::[]) (.mk (.c1 d0) g bd) [(.mk .c0 g2 b2)] e).1) (tk+6*(pk (d0::[]) (.mk (.c1 d0) g bd) [(.mk .c0 g2 b2)] e).1.length) r c') :
    Goes prog w hb A env g0 f0 ρ0 x ⟨b,tk,.none,valsT (askN false d0)::bgT body (.r2 (.mk (.c1 d0) g bd) (.mk .c0 g2 b2)) other late "class" (wy (.raise e)) 0 1 [] bf::r⟩ c' :=
  cur H G0 (fun q=>nomatch q) hbf hb' T (fun b' tk' h T=>hit2 H G0 hbf h T) fun hh b' tk' h T=>by
    refine Goes.trans ?_ (cur3_0 (g:=g2) (bd:=b2) (rx:=.mk (.c1 d0) g bd) H G0 hbf h T)
    have hp:=bg_nr (body:=body) (rs:=(.r2 (.mk (.c1 d0) g bd) (.mk .c0 g2 b2))) (other:=other) (late:=late) (st:="class") (way:=wy (.raise e)) (a:=1) (q:=1) (ts:=[]) (bf:=bf) (wy_nr _) trivial hbf
    unfold bgT begN at hp ⊢
    simp only [Rs.tv,Rc.tv,clT'] at hp ⊢
    exact g_to2_10 H G0 _ _ _ _ _ _ _ _ _ _ (by omega) (⟨⟨nd_nr ⟨trivial,trivial,trivial⟩,trivial⟩,trivial,trivial⟩) hp
theorem cur2_22_1 {g g2:Bool}{bd b2:Sq}{d0 d1 y0:Cn}(hbf:Nu.nr bf) (hb':tk+6*(pk (d1::[]) (.mk (.c2 d0 d1) g bd) [(.mk (.c1 y0) g2 b2)] e).1.length+gkP (pk (d1::[]) (.mk (.c2 d0 d1) g bd) [(.mk (.c1 y0) g2 b2)] e).2≤20000) (T:Tgt prog w hb A env g0 f0 ρ0 x body (.r2 (.mk (.c2 d0 d1) g bd) (.mk (.c1 y0) g2 b2)) other late e (pk (d1::[]) (.mk (.c2 d0 d1) g bd) [(.mk (.c1 y0) g2 b2)] e).2 (b.asks e (pk (d1::[]) (.mk (.c2 d0 d1) g bd) [(.mk (.c1 y0) g2 b2)] e).1) (tk+6*(pk (d1::[]) (.mk (.c2 d0 d1) g bd) [(.mk (.c1 y0) g2 b2)] e).1.length) r c') :
    Goes prog w hb A env g0 f0 ρ0 x ⟨b,tk,.none,valsT (askN false d1)::bgT body (.r2 (.mk (.c2 d0 d1) g bd) (.mk (.c1 y0) g2 b2)) other late "class" (wy (.raise e)) 0 2 [] bf::r⟩ c' :=
  cur H G0 (fun q=>nomatch q) hbf hb' T (fun b' tk' h T=>hit2 H G0 hbf h T) fun hh b' tk' h T=>by
    refine Goes.trans ?_ (cur3_1 (g:=g2) (bd:=b2) (d0:=y0) (rx:=.mk (.c2 d0 d1) g bd) H G0 hbf h T)
    have hp:=bg_nr (body:=body) (rs:=(.r2 (.mk (.c2 d0 d1) g bd) (.mk (.c1 y0) g2 b2))) (other:=other) (late:=late) (st:="class") (way:=wy (.raise e)) (a:=1) (q:=1) (ts:=[]) (bf:=bf) (wy_nr _) trivial hbf
    unfold bgT begN at hp ⊢
    simp only [Rs.tv,Rc.tv,clT'] at hp ⊢
    exact g_to2_21 H G0 _ _ _ _ _ _ _ _ _ _ _ _ (by omega) (⟨⟨nd_nr ⟨trivial,trivial⟩,trivial⟩,trivial,trivial⟩) hp
theorem cur2_21_1 {g g2:Bool}{bd b2:Sq}{d0 d1 y0:Cn}(hbf:Nu.nr bf) (hb':tk+6*(pk (d0::[d1]) (.mk (.c2 d0 d1) g bd) [(.mk (.c1 y0) g2 b2)] e).1.length+gkP (pk (d0::[d1]) (.mk (.c2 d0 d1) g bd) [(.mk (.c1 y0) g2 b2)] e).2≤20000) (T:Tgt prog w hb A env g0 f0 ρ0 x body (.r2 (.mk (.c2 d0 d1) g bd) (.mk (.c1 y0) g2 b2)) other late e (pk (d0::[d1]) (.mk (.c2 d0 d1) g bd) [(.mk (.c1 y0) g2 b2)] e).2 (b.asks e (pk (d0::[d1]) (.mk (.c2 d0 d1) g bd) [(.mk (.c1 y0) g2 b2)] e).1) (tk+6*(pk (d0::[d1]) (.mk (.c2 d0 d1) g bd) [(.mk (.c1 y0) g2 b2)] e).1.length) r c') :
    Goes prog w hb A env g0 f0 ρ0 x ⟨b,tk,.none,valsT (askN false d0)::bgT body (.r2 (.mk (.c2 d0 d1) g bd) (.mk (.c1 y0) g2 b2)) other late "class" (wy (.raise e)) 0 1 [] bf::r⟩ c' :=
  cur H G0 (fun q=>nomatch q) hbf hb' T (fun b' tk' h T=>hit2 H G0 hbf h T) fun hh b' tk' h T=>by
    refine Goes.trans ?_ (cur2_22_1 H G0 hbf h T)
    have hp:=bg_nr (body:=body) (rs:=(.r2 (.mk (.c2 d0 d1) g bd) (.mk (.c1 y0) g2 b2))) (other:=other) (late:=late) (st:="class") (way:=wy (.raise e)) (a:=0) (q:=2) (ts:=[]) (bf:=bf) (wy_nr _) trivial hbf
    unfold bgT begN at hp ⊢
    simp only [Rs.tv,Rc.tv,clT'] at hp ⊢
    exact g_nx2_2 H G0 _ _ _ _ _ _ _ _ _ _ (by omega) (⟨⟨nd_nr ⟨trivial,trivial⟩,trivial⟩,trivial,trivial⟩) hp
theorem cur2_1_1 {g g2:Bool}{bd b2:Sq}{d0 y0:Cn}(hbf:Nu.nr bf) (hb':tk+6*(pk (d0::[]) (.mk (.c1 d0) g bd) [(.mk (.c1 y0) g2 b2)] e).1.length+gkP (pk (d0::[]) (.mk (.c1 d0) g bd) [(.mk (.c1 y0) g2 b2)] e).2≤20000) (T:Tgt prog w hb A env g0 f0 ρ0 x body (.r2 (.mk (.c1 d0) g bd) (.mk (.c1 y0) g2 b2)) other late e (pk (d0::[]) (.mk (.c1 d0) g bd) [(.mk (.c1 y0) g2 b2)] e).2 (b.asks e (pk (d0::[]) (.mk (.c1 d0) g bd) [(.mk (.c1 y0) g2 b2)] e).1) (tk+6*(pk (d0::[]) (.mk (.c1 d0) g bd) [(.mk (.c1 y0) g2 b2)] e).1.length) r c') :
    Goes prog w hb A env g0 f0 ρ0 x ⟨b,tk,.none,valsT (askN false d0)::bgT body (.r2 (.mk (.c1 d0) g bd) (.mk (.c1 y0) g2 b2)) other late "class" (wy (.raise e)) 0 1 [] bf::r⟩ c' :=
  cur H G0 (fun q=>nomatch q) hbf hb' T (fun b' tk' h T=>hit2 H G0 hbf h T) fun hh b' tk' h T=>by
    refine Goes.trans ?_ (cur3_1 (g:=g2) (bd:=b2) (d0:=y0) (rx:=.mk (.c1 d0) g bd) H G0 hbf h T)
    have hp:=bg_nr (body:=body) (rs:=(.r2 (.mk (.c1 d0) g bd) (.mk (.c1 y0) g2 b2))) (other:=other) (late:=late) (st:="class") (way:=wy (.raise e)) (a:=1) (q:=1) (ts:=[]) (bf:=bf) (wy_nr _) trivial hbf
    unfold bgT begN at hp ⊢
    simp only [Rs.tv,Rc.tv,clT'] at hp ⊢
    exact g_to2_11 H G0 _ _ _ _ _ _ _ _ _ _ _ (by omega) (⟨⟨nd_nr ⟨trivial,trivial⟩,trivial⟩,trivial,trivial⟩) hp
theorem cur2_22_2 {g g2:Bool}{bd b2:Sq}{d0 d1 y0 y1:Cn}(hbf:Nu.nr bf) (hb':tk+6*(pk (d1::[]) (.mk (.c2 d0 d1) g bd) [(.mk (.c2 y0 y1) g2 b2)] e).1.length+gkP (pk (d1::[]) (.mk (.c2 d0 d1) g bd) [(.mk (.c2 y0 y1) g2 b2)] e).2≤20000) (T:Tgt prog w hb A env g0 f0 ρ0 x body (.r2 (.mk (.c2 d0 d1) g bd) (.mk (.c2 y0 y1) g2 b2)) other late e (pk (d1::[]) (.mk (.c2 d0 d1) g bd) [(.mk (.c2 y0 y1) g2 b2)] e).2 (b.asks e (pk (d1::[]) (.mk (.c2 d0 d1) g bd) [(.mk (.c2 y0 y1) g2 b2)] e).1) (tk+6*(pk (d1::[]) (.mk (.c2 d0 d1) g bd) [(.mk (.c2 y0 y1) g2 b2)] e).1.length) r c') :
    Goes prog w hb A env g0 f0 ρ0 x ⟨b,tk,.none,valsT (askN false d1)::bgT body (.r2 (.mk (.c2 d0 d1) g bd) (.mk (.c2 y0 y1) g2 b2)) other late "class" (wy (.raise e)) 0 2 [] bf::r⟩ c' :=
  cur H G0 (fun q=>nomatch q) hbf hb' T (fun b' tk' h T=>hit2 H G0 hbf h T) fun hh b' tk' h T=>by
    refine Goes.trans ?_ (cur3_21 (g:=g2) (bd:=b2) (d0:=y0) (d1:=y1) (rx:=.mk (.c2 d0 d1) g bd) H G0 hbf h T)
    have hp:=bg_nr (body:=body) (rs:=(.r2 (.mk (.c2 d0 d1) g bd) (.mk (.c2 y0 y1) g2 b2))) (other:=other) (late:=late) (st:="class") (way:=wy (.raise e)) (a:=1) (q:=1) (ts:=[]) (bf:=bf) (wy_nr _) trivial hbf
    unfold bgT begN at hp ⊢
    simp only [Rs.tv,Rc.tv,clT'] at hp ⊢
    exact g_to2_22 H G0 _ _ _ _ _ _ _ _ _ _ _ _ _ (by omega) (⟨⟨nd_nr ⟨trivial,trivial⟩,trivial⟩,trivial,trivial⟩) hp
theorem cur2_21_2 {g g2:Bool}{bd b2:Sq}{d0 d1 y0 y1:Cn}(hbf:Nu.nr bf) (hb':tk+6*(pk (d0::[d1]) (.mk (.c2 d0 d1) g bd) [(.mk (.c2 y0 y1) g2 b2)] e).1.length+gkP (pk (d0::[d1]) (.mk (.c2 d0 d1) g bd) [(.mk (.c2 y0 y1) g2 b2)] e).2≤20000) (T:Tgt prog w hb A env g0 f0 ρ0 x body (.r2 (.mk (.c2 d0 d1) g bd) (.mk (.c2 y0 y1) g2 b2)) other late e (pk (d0::[d1]) (.mk (.c2 d0 d1) g bd) [(.mk (.c2 y0 y1) g2 b2)] e).2 (b.asks e (pk (d0::[d1]) (.mk (.c2 d0 d1) g bd) [(.mk (.c2 y0 y1) g2 b2)] e).1) (tk+6*(pk (d0::[d1]) (.mk (.c2 d0 d1) g bd) [(.mk (.c2 y0 y1) g2 b2)] e).1.length) r c') :
    Goes prog w hb A env g0 f0 ρ0 x ⟨b,tk,.none,valsT (askN false d0)::bgT body (.r2 (.mk (.c2 d0 d1) g bd) (.mk (.c2 y0 y1) g2 b2)) other late "class" (wy (.raise e)) 0 1 [] bf::r⟩ c' :=
  cur H G0 (fun q=>nomatch q) hbf hb' T (fun b' tk' h T=>hit2 H G0 hbf h T) fun hh b' tk' h T=>by
    refine Goes.trans ?_ (cur2_22_2 H G0 hbf h T)
    have hp:=bg_nr (body:=body) (rs:=(.r2 (.mk (.c2 d0 d1) g bd) (.mk (.c2 y0 y1) g2 b2))) (other:=other) (late:=late) (st:="class") (way:=wy (.raise e)) (a:=0) (q:=2) (ts:=[]) (bf:=bf) (wy_nr _) trivial hbf
    unfold bgT begN at hp ⊢
    simp only [Rs.tv,Rc.tv,clT'] at hp ⊢
    exact g_nx2_2 H G0 _ _ _ _ _ _ _ _ _ _ (by omega) (⟨⟨nd_nr ⟨trivial,trivial⟩,trivial⟩,trivial,trivial⟩) hp
theorem cur2_1_2 {g g2:Bool}{bd b2:Sq}{d0 y0 y1:Cn}(hbf:Nu.nr bf) (hb':tk+6*(pk (d0::[]) (.mk (.c1 d0) g bd) [(.mk (.c2 y0 y1) g2 b2)] e).1.length+gkP (pk (d0::[]) (.mk (.c1 d0) g bd) [(.mk (.c2 y0 y1) g2 b2)] e).2≤20000) (T:Tgt prog w hb A env g0 f0 ρ0 x body (.r2 (.mk (.c1 d0) g bd) (.mk (.c2 y0 y1) g2 b2)) other late e (pk (d0::[]) (.mk (.c1 d0) g bd) [(.mk (.c2 y0 y1) g2 b2)] e).2 (b.asks e (pk (d0::[]) (.mk (.c1 d0) g bd) [(.mk (.c2 y0 y1) g2 b2)] e).1) (tk+6*(pk (d0::[]) (.mk (.c1 d0) g bd) [(.mk (.c2 y0 y1) g2 b2)] e).1.length) r c') :
    Goes prog w hb A env g0 f0 ρ0 x ⟨b,tk,.none,valsT (askN false d0)::bgT body (.r2 (.mk (.c1 d0) g bd) (.mk (.c2 y0 y1) g2 b2)) other late "class" (wy (.raise e)) 0 1 [] bf::r⟩ c' :=
  cur H G0 (fun q=>nomatch q) hbf hb' T (fun b' tk' h T=>hit2 H G0 hbf h T) fun hh b' tk' h T=>by
    refine Goes.trans ?_ (cur3_21 (g:=g2) (bd:=b2) (d0:=y0) (d1:=y1) (rx:=.mk (.c1 d0) g bd) H G0 hbf h T)
    have hp:=bg_nr (body:=body) (rs:=(.r2 (.mk (.c1 d0) g bd) (.mk (.c2 y0 y1) g2 b2))) (other:=other) (late:=late) (st:="class") (way:=wy (.raise e)) (a:=1) (q:=1) (ts:=[]) (bf:=bf) (wy_nr _) trivial hbf
    unfold bgT begN at hp ⊢
    simp only [Rs.tv,Rc.tv,clT'] at hp ⊢
    exact g_to2_12 H G0 _ _ _ _ _ _ _ _ _ _ _ _ (by omega) (⟨⟨nd_nr ⟨trivial,trivial⟩,trivial⟩,trivial,trivial⟩) hp
theorem cur2_0 {g:Bool}{bd:Sq}{rx:Rc}(hbf:Nu.nr bf) (hb':tk+6*(pk (.k7::[]) (.mk .c0 g bd) [rx] e).1.length+gkP (pk (.k7::[]) (.mk .c0 g bd) [rx] e).2≤20000) (T:Tgt prog w hb A env g0 f0 ρ0 x body (.r2 (.mk .c0 g bd) rx) other late e (pk (.k7::[]) (.mk .c0 g bd) [rx] e).2 (b.asks e (pk (.k7::[]) (.mk .c0 g bd) [rx] e).1) (tk+6*(pk (.k7::[]) (.mk .c0 g bd) [rx] e).1.length) r c') :
    Goes prog w hb A env g0 f0 ρ0 x ⟨b,tk,.none,valsT (askN true .k7)::bgT body (.r2 (.mk .c0 g bd) rx) other late "class" (wy (.raise e)) 0 1 [] bf::r⟩ c' :=
  cur H G0 (fun _=>rfl) hbf hb' T (fun b' tk' h T=>hit2 H G0 hbf h T) fun hh b' tk' h T=>by
    exact absurd hh (by simp [Cn.has])
theorem cur1_22 {g:Bool}{bd:Sq}{d0 d1:Cn}(hbf:Nu.nr bf) (hb':tk+6*(pk (d1::[]) (.mk (.c2 d0 d1) g bd) [] e).1.length+gkP (pk (d1::[]) (.mk (.c2 d0 d1) g bd) [] e).2≤20000) (T:Tgt prog w hb A env g0 f0 ρ0 x body (.r1 (.mk (.c2 d0 d1) g bd)) other late e (pk (d1::[]) (.mk (.c2 d0 d1) g bd) [] e).2 (b.asks e (pk (d1::[]) (.mk (.c2 d0 d1) g bd) [] e).1) (tk+6*(pk (d1::[]) (.mk (.c2 d0 d1) g bd) [] e).1.length) r c') :
    Goes prog w hb A env g0 f0 ρ0 x ⟨b,tk,.none,valsT (askN false d1)::bgT body (.r1 (.mk (.c2 d0 d1) g bd)) other late "class" (wy (.raise e)) 0 2 [] bf::r⟩ c' :=
  cur H G0 (fun q=>nomatch q) hbf hb' T (fun b' tk' h T=>hit1 H G0 hbf h T) fun hh b' tk' h T=>by
    exact exh1_2 H G0 (by omega) hbf T
theorem cur1_21 {g:Bool}{bd:Sq}{d0 d1:Cn}(hbf:Nu.nr bf) (hb':tk+6*(pk (d0::[d1]) (.mk (.c2 d0 d1) g bd) [] e).1.length+gkP (pk (d0::[d1]) (.mk (.c2 d0 d1) g bd) [] e).2≤20000) (T:Tgt prog w hb A env g0 f0 ρ0 x body (.r1 (.mk (.c2 d0 d1) g bd)) other late e (pk (d0::[d1]) (.mk (.c2 d0 d1) g bd) [] e).2 (b.asks e (pk (d0::[d1]) (.mk (.c2 d0 d1) g bd) [] e).1) (tk+6*(pk (d0::[d1]) (.mk (.c2 d0 d1) g bd) [] e).1.length) r c') :
    Goes prog w hb A env g0 f0 ρ0 x ⟨b,tk,.none,valsT (askN false d0)::bgT body (.r1 (.mk (.c2 d0 d1) g bd)) other late "class" (wy (.raise e)) 0 1 [] bf::r⟩ c' :=
  cur H G0 (fun q=>nomatch q) hbf hb' T (fun b' tk' h T=>hit1 H G0 hbf h T) fun hh b' tk' h T=>by
    refine Goes.trans ?_ (cur1_22 H G0 hbf h T)
    have hp:=bg_nr (body:=body) (rs:=(.r1 (.mk (.c2 d0 d1) g bd))) (other:=other) (late:=late) (st:="class") (way:=wy (.raise e)) (a:=0) (q:=2) (ts:=[]) (bf:=bf) (wy_nr _) trivial hbf
    unfold bgT begN at hp ⊢
    simp only [Rs.tv,Rc.tv,clT'] at hp ⊢
    exact g_nx1_2 H G0 _ _ _ _ _ _ _ _ _ (by omega) (⟨⟨nd_nr ⟨trivial,trivial⟩,trivial⟩,trivial,trivial⟩) hp
theorem cur1_1 {g:Bool}{bd:Sq}{d0:Cn}(hbf:Nu.nr bf) (hb':tk+6*(pk (d0::[]) (.mk (.c1 d0) g bd) [] e).1.length+gkP (pk (d0::[]) (.mk (.c1 d0) g bd) [] e).2≤20000) (T:Tgt prog w hb A env g0 f0 ρ0 x body (.r1 (.mk (.c1 d0) g bd)) other late e (pk (d0::[]) (.mk (.c1 d0) g bd) [] e).2 (b.asks e (pk (d0::[]) (.mk (.c1 d0) g bd) [] e).1) (tk+6*(pk (d0::[]) (.mk (.c1 d0) g bd) [] e).1.length) r c') :
    Goes prog w hb A env g0 f0 ρ0 x ⟨b,tk,.none,valsT (askN false d0)::bgT body (.r1 (.mk (.c1 d0) g bd)) other late "class" (wy (.raise e)) 0 1 [] bf::r⟩ c' :=
  cur H G0 (fun q=>nomatch q) hbf hb' T (fun b' tk' h T=>hit1 H G0 hbf h T) fun hh b' tk' h T=>by
    exact exh1_1 H G0 (by omega) hbf T
theorem cur1_0 {g:Bool}{bd:Sq}(hbf:Nu.nr bf) (hb':tk+6*(pk (.k7::[]) (.mk .c0 g bd) [] e).1.length+gkP (pk (.k7::[]) (.mk .c0 g bd) [] e).2≤20000) (T:Tgt prog w hb A env g0 f0 ρ0 x body (.r1 (.mk .c0 g bd)) other late e (pk (.k7::[]) (.mk .c0 g bd) [] e).2 (b.asks e (pk (.k7::[]) (.mk .c0 g bd) [] e).1) (tk+6*(pk (.k7::[]) (.mk .c0 g bd) [] e).1.length) r c') :
    Goes prog w hb A env g0 f0 ρ0 x ⟨b,tk,.none,valsT (askN true .k7)::bgT body (.r1 (.mk .c0 g bd)) other late "class" (wy (.raise e)) 0 1 [] bf::r⟩ c' :=
  cur H G0 (fun _=>rfl) hbf hb' T (fun b' tk' h T=>hit1 H G0 hbf h T) fun hh b' tk' h T=>by
    exact absurd hh (by simp [Cn.has])
theorem ask_all {rs:Rs}(hrs:rs.list≠[]) (hbf:Nu.nr bf) (hb':tk+1+6*(pick rs e).1.length+gkP (pick rs e).2≤20000) (T:Tgt prog w hb A env g0 f0 ρ0 x body rs other late e (pick rs e).2 (b.asks e (pick rs e).1) (tk+1+6*(pick rs e).1.length) r c') :
    Goes prog w hb A env g0 f0 ρ0 x ⟨b,tk,wy (.raise e),bgT body rs other late "body" W 0 0 [] bf::r⟩ c':=by
  unfold pick at hb' T
  rcases rs with _ | ⟨⟨_ | d0 | ⟨d0,d1⟩,g,bd⟩⟩ | ⟨⟨_ | d0 | ⟨d0,d1⟩,g,bd⟩,rx⟩
  · exact absurd rfl hrs
  · simp only [Rs.list,pk_first,Rc.cl,Cl.asked] at hb' T
    refine Goes.trans ?_ (cur1_0 H G0 hbf hb' T)
    have hp:=bg_nr (body:=body) (rs:=(.r1 (.mk .c0 g bd))) (other:=other) (late:=late) (st:="class") (way:=wy (.raise e)) (a:=0) (q:=1) (ts:=[]) (bf:=bf) (wy_nr _) trivial hbf
    unfold bgT begN at hp ⊢
    simp only [Rs.tv,Rc.tv,clT'] at hp ⊢
    exact g_ask1_0 H G0 _ _ _ _ _ _ _ _ _ (by omega) (⟨⟨nd_nr ⟨trivial,trivial,trivial⟩,trivial⟩,trivial,trivial⟩) hp
  · simp only [Rs.list,pk_first,Rc.cl,Cl.asked] at hb' T
    refine Goes.trans ?_ (cur1_1 H G0 hbf hb' T)
    have hp:=bg_nr (body:=body) (rs:=(.r1 (.mk (.c1 d0) g bd))) (other:=other) (late:=late) (st:="class") (way:=wy (.raise e)) (a:=0) (q:=1) (ts:=[]) (bf:=bf) (wy_nr _) trivial hbf
    unfold bgT begN at hp ⊢
    simp only [Rs.tv,Rc.tv,clT'] at hp ⊢
    exact g_ask1_1 H G0 _ _ _ _ _ _ _ _ _ _ (by omega) (⟨⟨nd_nr ⟨trivial,trivial⟩,trivial⟩,trivial,trivial⟩) hp
  · simp only [Rs.list,pk_first,Rc.cl,Cl.asked] at hb' T
    refine Goes.trans ?_ (cur1_21 H G0 hbf hb' T)
    have hp:=bg_nr (body:=body) (rs:=(.r1 (.mk (.c2 d0 d1) g bd))) (other:=other) (late:=late) (st:="class") (way:=wy (.raise e)) (a:=0) (q:=1) (ts:=[]) (bf:=bf) (wy_nr _) trivial hbf
    unfold bgT begN at hp ⊢
    simp only [Rs.tv,Rc.tv,clT'] at hp ⊢
    exact g_ask1_2 H G0 _ _ _ _ _ _ _ _ _ _ _ (by omega) (⟨⟨nd_nr ⟨trivial,trivial⟩,trivial⟩,trivial,trivial⟩) hp
  · simp only [Rs.list,pk_first (R:=.mk .c0 g bd),Rc.cl,Cl.asked] at hb' T
    refine Goes.trans ?_ (cur2_0 H G0 hbf hb' T)
    have hp:=bg_nr (body:=body) (rs:=(.r2 (.mk .c0 g bd) rx)) (other:=other) (late:=late) (st:="class") (way:=wy (.raise e)) (a:=0) (q:=1) (ts:=[]) (bf:=bf) (wy_nr _) trivial hbf
    unfold bgT begN at hp ⊢
    simp only [Rs.tv,Rc.tv,clT'] at hp ⊢
    exact g_ask2_0 H G0 _ _ _ _ _ _ _ _ _ _ (by omega) (⟨⟨nd_nr ⟨trivial,trivial,trivial⟩,trivial⟩,trivial,trivial⟩) hp
  · simp only [Rs.list,pk_first (R:=.mk (.c1 d0) g bd),Rc.cl,Cl.asked] at hb' T
    rcases rx with ⟨_ | y0 | ⟨y0,y1⟩,g2,b2⟩
    · refine Goes.trans ?_ (cur2_1_0 H G0 hbf hb' T)
      have hp:=bg_nr (body:=body) (rs:=(.r2 (.mk (.c1 d0) g bd) (.mk .c0 g2 b2))) (other:=other) (late:=late) (st:="class") (way:=wy (.raise e)) (a:=0) (q:=1) (ts:=[]) (bf:=bf) (wy_nr _) trivial hbf
      unfold bgT begN at hp ⊢
      simp only [Rs.tv,Rc.tv,clT'] at hp ⊢
      exact g_ask2_1 H G0 _ _ _ _ _ _ _ _ _ _ _ (by omega) (⟨⟨nd_nr ⟨trivial,trivial⟩,trivial⟩,trivial,trivial⟩) hp
    · refine Goes.trans ?_ (cur2_1_1 H G0 hbf hb' T)
      have hp:=bg_nr (body:=body) (rs:=(.r2 (.mk (.c1 d0) g bd) (.mk (.c1 y0) g2 b2))) (other:=other) (late:=late) (st:="class") (way:=wy (.raise e)) (a:=0) (q:=1) (ts:=[]) (bf:=bf) (wy_nr _) trivial hbf
      unfold bgT begN at hp ⊢
      simp only [Rs.tv,Rc.tv,clT'] at hp ⊢
      exact g_ask2_1 H G0 _ _ _ _ _ _ _ _ _ _ _ (by omega) (⟨⟨nd_nr ⟨trivial,trivial⟩,trivial⟩,trivial,trivial⟩) hp
    · refine Goes.trans ?_ (cur2_1_2 H G0 hbf hb' T)
      have hp:=bg_nr (body:=body) (rs:=(.r2 (.mk (.c1 d0) g bd) (.mk (.c2 y0 y1) g2 b2))) (other:=other) (late:=late) (st:="class") (way:=wy (.raise e)) (a:=0) (q:=1) (ts:=[]) (bf:=bf) (wy_nr _) trivial hbf
      unfold bgT begN at hp ⊢
      simp only [Rs.tv,Rc.tv,clT'] at hp ⊢
      exact g_ask2_1 H G0 _ _ _ _ _ _ _ _ _ _ _ (by omega) (⟨⟨nd_nr ⟨trivial,trivial⟩,trivial⟩,trivial,trivial⟩) hp
  · simp only [Rs.list,pk_first (R:=.mk (.c2 d0 d1) g bd),Rc.cl,Cl.asked] at hb' T
    rcases rx with ⟨_ | y0 | ⟨y0,y1⟩,g2,b2⟩
    · refine Goes.trans ?_ (cur2_21_0 H G0 hbf hb' T)
      have hp:=bg_nr (body:=body) (rs:=(.r2 (.mk (.c2 d0 d1) g bd) (.mk .c0 g2 b2))) (other:=other) (late:=late) (st:="class") (way:=wy (.raise e)) (a:=0) (q:=1) (ts:=[]) (bf:=bf) (wy_nr _) trivial hbf
      unfold bgT begN at hp ⊢
      simp only [Rs.tv,Rc.tv,clT'] at hp ⊢
      exact g_ask2_2 H G0 _ _ _ _ _ _ _ _ _ _ _ _ (by omega) (⟨⟨nd_nr ⟨trivial,trivial⟩,trivial⟩,trivial,trivial⟩) hp
    · refine Goes.trans ?_ (cur2_21_1 H G0 hbf hb' T)
      have hp:=bg_nr (body:=body) (rs:=(.r2 (.mk (.c2 d0 d1) g bd) (.mk (.c1 y0) g2 b2))) (other:=other) (late:=late) (st:="class") (way:=wy (.raise e)) (a:=0) (q:=1) (ts:=[]) (bf:=bf) (wy_nr _) trivial hbf
      unfold bgT begN at hp ⊢
      simp only [Rs.tv,Rc.tv,clT'] at hp ⊢
      exact g_ask2_2 H G0 _ _ _ _ _ _ _ _ _ _ _ _ (by omega) (⟨⟨nd_nr ⟨trivial,trivial⟩,trivial⟩,trivial,trivial⟩) hp
    · refine Goes.trans ?_ (cur2_21_2 H G0 hbf hb' T)
      have hp:=bg_nr (body:=body) (rs:=(.r2 (.mk (.c2 d0 d1) g bd) (.mk (.c2 y0 y1) g2 b2))) (other:=other) (late:=late) (st:="class") (way:=wy (.raise e)) (a:=0) (q:=1) (ts:=[]) (bf:=bf) (wy_nr _) trivial hbf
      unfold bgT begN at hp ⊢
      simp only [Rs.tv,Rc.tv,clT'] at hp ⊢
      exact g_ask2_2 H G0 _ _ _ _ _ _ _ _ _ _ _ _ (by omega) (⟨⟨nd_nr ⟨trivial,trivial⟩,trivial⟩,trivial,trivial⟩) hp
end
end
section
theorem okK_seq:u "seq" ∈ okKinds:=hasN_mem (by kernel_rfl)
theorem okK_beg:u "begin" ∈ okKinds:=hasN_mem (by kernel_rfl)
def wayAt:List Ch→Option Int→TV
  | [],_=>.none
  | _::_,v=>wayT "value" (oi v)
def seqT' (full:Sq) (k:Nat):Tsk:=.plain (u "seq") (ndT (u "seq") (.tup [.lst (full.ch.map Ch.tv)])) (.int (k:Int)) []
theorem okS_cons {t:Tsk}{r:List Tsk}(h:tkKind t∈okKinds) (hr:okS r):okS (t::r):=fun t' ht'=>by
  rcases List.mem_cons.mp ht' with rfl | ht'
  · exact h
  · exact hr t' ht'
theorem chs_nr (l:List Ch):alTs (fun _=>False) (l.map Ch.tv):=by
  induction l with
  | nil=>exact trivial
  | cons c r ih=>exact ⟨c.nr,ih⟩
theorem seq_nr (full:Sq) (k:Nat):nrK (seqT' full k):=⟨nd_nr ⟨chs_nr _,trivial⟩,trivial,trivial⟩
section
variable {prog:Program}{w:World}{hb:HB}{mg mb:Str→Option Value}{A:Around}{env:Env}{g0 f0:PH}{ρ0:Rho}{x:Nat→TV}
variable (H:Hyp prog w hb mg mb) (G0:Ground0 x A ρ0 env) {b:B}{tk:Nat}{r:List Tsk}
include H G0
theorem m_last (h:tk+1≤20000):Goes prog w hb A env g0 f0 ρ0 x ⟨b,tk,.none,taskOf It.last.tv::r⟩ ⟨b.note (lastT b),tk+1,wy (.val none),r⟩:=by
  rw [It.tv]
  exact g_last H G0 h (⟨trivial,oi_nr _,trivial⟩) (wy_nr (.val none))
theorem m_out0 {k:W3}(hr:okS r) (h:tk+1≤20000):Goes prog w hb A env g0 f0 ρ0 x ⟨b,tk,.none,taskOf (It.out k none).tv::r⟩ ⟨b,tk+1,wy (.out k none),r⟩:=by
  rw [It.tv]
  cases k with
  | brk=>exact g_out0_break H G0 hr h (wy_nr (.out .brk none))
  | nxt=>exact g_out0_next H G0 h (wy_nr (.out .nxt none))
  | ret=>exact g_out0_return H G0 hr h (wy_nr (.out .ret none))
theorem m_out1 {k:W3}{n:Int}(hr:okS r) (h:tk+3≤20000):Goes prog w hb A env g0 f0 ρ0 x ⟨b,tk,.none,taskOf (It.out k (some n)).tv::r⟩ ⟨b.note (.sint n),tk+3,wy (.out k (some n)),r⟩:=by
  rw [It.tv]
  have hc:nrK (taskOf (symT n)):=task_nr (symT_nr n) ⟨_,_,rfl⟩
  have hp:∀ k:W3,nrK (.plain (u k.k) (ndT (u k.k) (.tup [symT n])) (.str (u "value")) []):=fun k=>⟨nd_nr ⟨symT_nr n,trivial⟩,trivial,trivial⟩
  cases k with
  | brk =>
    refine Goes.trans (g_out1_break H G0 _ _ (by omega) hc (hp .brk)) ?_
    refine Goes.trans (m_sym H G0 (by omega)) ?_
    exact g_out2_break H G0 _ _ hr (by omega) (wy_nr (.out .brk (some n)))
  | nxt =>
    refine Goes.trans (g_out1_next H G0 _ _ (by omega) hc (hp .nxt)) ?_
    refine Goes.trans (m_sym H G0 (by omega)) ?_
    exact g_out2_next_1 H G0 _ _ (by omega) (wy_nr (.out .nxt (some n)))
  | ret =>
    refine Goes.trans (g_out1_return H G0 _ _ (by omega) hc (hp .ret)) ?_
    refine Goes.trans (m_sym H G0 (by omega)) ?_
    exact g_out2_return H G0 _ _ hr (by omega) (wy_nr (.out .ret (some n)))
theorem m_re {n m:Int}(h:tk+2≤20000) (v:Bool) (hv:if v then b.cnt n≤m else ¬ b.cnt n≤m):∃ t2,(∃ k p k2 p2,t2=Tsk.plain (u "if") (ndT (u "if") (.tup [ndT k p,ndT k2 p2,.none])) (.int 1) []∧k2=u "retry" ∧ p2 = .tup []∧Nu.nr p)∧Goes prog w hb A env g0 f0 ρ0 x ⟨b,tk,.none,taskOf (reT n m)::r⟩ ⟨b.count n,tk+2,wayT "value" (.bool v),t2::r⟩:=by
  have hre:Nu.nr (reT n m):=(tlT_nr (some (n,m))).1
  refine ⟨.plain (u "if") (reT n m) (.int 1) [],⟨u "lvar",_,u "retry",.tup [],rfl,rfl,rfl,⟨⟨trivial,trivial,trivial⟩,trivial⟩⟩,?_⟩
  refine Goes.trans (g_if0 H G0 _ _ _ _ (by omega) (⟨nd_nr ⟨⟨trivial,trivial,trivial⟩,trivial⟩,trivial,trivial⟩) (⟨hre,trivial,trivial⟩)) ?_
  cases v with
  | true=>exact g_lvar1 H G0 _ _ hv (by omega) (way_nr trivial)
  | false=>exact g_lvar0 H G0 _ _ hv (by omega) (way_nr trivial)
theorem m_re1 {n m:Int}(h:tk+4≤20000) (hv:b.cnt n≤m):Goes prog w hb A env g0 f0 ρ0 x ⟨b,tk,.none,taskOf (reT n m)::r⟩ ⟨b.count n,tk+4,wy .retry,r⟩:=by
  obtain ⟨t2,⟨k,p,k2,p2,rfl,rfl,rfl,hp⟩,g⟩:=m_re H G0 (r:=r) (by omega:tk+2≤20000) true hv
  refine Goes.trans g ?_
  refine Goes.trans (g_if1 H G0 _ _ _ _ (by omega) (⟨nd_nr trivial,trivial,trivial⟩) (⟨nd_nr ⟨nd_nr hp,nd_nr trivial,trivial,trivial⟩,trivial,trivial⟩)) ?_
  refine Goes.trans (g_retry H G0 (by omega) (wy_nr .retry)) ?_
  exact g_if_retry H G0 _ _ _ _ (wy_nr .retry)
theorem m_re0 {n m:Int}(h:tk+3≤20000) (hv:¬ b.cnt n≤m):Goes prog w hb A env g0 f0 ρ0 x ⟨b,tk,.none,taskOf (reT n m)::r⟩ ⟨b.count n,tk+3,wy (.val none),r⟩:=by
  obtain ⟨t2,⟨k,p,k2,p2,rfl,rfl,rfl,hp⟩,g⟩:=m_re H G0 (r:=r) (by omega:tk+2≤20000) false hv
  refine Goes.trans g ?_
  exact g_if2 H G0 _ _ _ _ (by omega) (wy_nr (.val none))
theorem seq_push {full:Sq}{done cs:List Ch}{c:Ch}{v:Option Int}(hf:full.ch=done++c::cs) (h:tk+1≤20000) :
    Goes prog w hb A env g0 f0 ρ0 x ⟨b,tk,wayAt done v,seqT' full done.length::r⟩ ⟨b,tk+1,.none,taskOf c.tv::seqT' full (done.length+1)::r⟩:=by
  have hc:=task_nr c.nr c.tv_nd
  have hp:=seq_nr full (done.length+1)
  have hl:=full.ch_len
  unfold seqT' at hp ⊢
  rw [hf] at hp hl ⊢
  obtain ⟨k,p,ec⟩:=c.tv_nd
  rcases done with _ | ⟨d1,_ | ⟨d2,done⟩⟩
  · rcases cs with _ | ⟨e1,_ | ⟨e2,_ | ⟨e3,cs⟩⟩⟩
    · simp only [List.nil_append,List.map_cons,List.map_nil,ec] at hp ⊢
      rw [ec] at hc
      exact g_seq1_0 H G0 _ _ h hc hp
    · simp only [List.nil_append,List.map_cons,List.map_nil,ec] at hp ⊢
      rw [ec] at hc
      exact g_seq2_0 H G0 _ _ _ h hc hp
    · simp only [List.nil_append,List.map_cons,List.map_nil,ec] at hp ⊢
      rw [ec] at hc
      exact g_seq3_0 H G0 _ _ _ _ h hc hp
    · simp at hl<;>omega
  · rcases cs with _ | ⟨e1,_ | ⟨e2,cs⟩⟩
    · simp only [List.cons_append,List.nil_append,List.map_cons,List.map_nil,ec] at hp ⊢
      rw [ec] at hc
      exact g_seq2_1 H G0 _ _ _ _ h hc hp
    · simp only [List.cons_append,List.nil_append,List.map_cons,List.map_nil,ec] at hp ⊢
      rw [ec] at hc
      exact g_seq3_1 H G0 _ _ _ _ _ h hc hp
    · simp at hl<;>omega
  · rcases done with _ | ⟨d3,done⟩
    · rcases cs with _ | ⟨e1,cs⟩
      · simp only [List.cons_append,List.nil_append,List.map_cons,List.map_nil,ec] at hp ⊢
        rw [ec] at hc
        exact g_seq3_2 H G0 _ _ _ _ _ h hc hp
      · simp at hl<;>omega
    · simp at hl<;>omega
theorem seq_end {full:Sq}{done:List Ch}{v:Option Int}(hf:full.ch=done) (h:tk+1≤20000) :
    Goes prog w hb A env g0 f0 ρ0 x ⟨b,tk,wayAt done v,seqT' full done.length::r⟩ ⟨b,tk+1,wy (.val v),r⟩:=by
  have hl:=full.ch_len
  unfold seqT'
  rw [hf] at hl ⊢
  rcases done with _ | ⟨d1,_ | ⟨d2,_ | ⟨d3,_ | ⟨d4,done⟩⟩⟩⟩
  · simp at hl
  · cases v with
    | none=>exact g_seq1_end_0 H G0 _ h (wy_nr (.val none))
    | some z=>exact g_seq1_end_1 H G0 _ _ h (wy_nr (.val (some z)))
  · cases v with
    | none=>exact g_seq2_end_0 H G0 _ _ h (wy_nr (.val none))
    | some z=>exact g_seq2_end_1 H G0 _ _ _ h (wy_nr (.val (some z)))
  · cases v with
    | none=>exact g_seq3_end_0 H G0 _ _ _ h (wy_nr (.val none))
    | some z=>exact g_seq3_end_1 H G0 _ _ _ _ h (wy_nr (.val (some z)))
  · simp at hl<;>omega
theorem seq_pass {full:Sq}{k:Nat}{res:Res}(hr:res.isVal=false):Goes prog w hb A env g0 f0 ρ0 x ⟨b,tk,wy res,seqT' full k::r⟩ ⟨b,tk,wy res,r⟩:=by
  unfold seqT'
  rcases res with (_ | z) | e | _ | ⟨_ | _ | _,v⟩
  · cases hr
  · cases hr
  · exact g_seq_s H G0 .raise _ _ _ _ (wy_nr (.raise e))
  · exact g_seq_s H G0 .retry _ _ _ _ (wy_nr .retry)
  · exact g_seq_s H G0 .brk _ _ _ _ (wy_nr (.out .brk v))
  · exact g_seq_s H G0 .nxt _ _ _ _ (wy_nr (.out .nxt v))
  · exact g_seq_s H G0 .ret _ _ _ _ (wy_nr (.out .ret v))
end
end
section
section
variable {prog:Program}{w:World}{hb:HB}{mg mb:Str→Option Value}{A:Around}{env:Env}{g0 f0:PH}{ρ0:Rho}{x:Nat→TV}
variable (prog w hb A env g0 f0 ρ0 x) in
def Mach (j:J) (b:B) (res:Res) (b':B) (n:Nat):Prop:=∀ (r:List Tsk) (tk:Nat),okS r→tk+n≤20000→match j with
  | .it i=>Goes prog w hb A env g0 f0 ρ0 x ⟨b,tk,.none,taskOf i.tv::r⟩ ⟨b',tk+n,wy res,r⟩
  | .ch c=>Goes prog w hb A env g0 f0 ρ0 x ⟨b,tk,.none,taskOf c.tv::r⟩ ⟨b',tk+n,wy res,r⟩
  | .sq rem v=>∀ (full:Sq) (done:List Ch),full.ch=done++rem→Goes prog w hb A env g0 f0 ρ0 x ⟨b,tk,wayAt done v,seqT' full done.length::r⟩ ⟨b',tk+n,wy res,r⟩
  | .tr _ body rs other=>∀ late c',Fin prog w hb A env g0 f0 ρ0 x body rs other late res b' (tk+n) r c'→Goes prog w hb A env g0 f0 ρ0 x ⟨b,tk,.none,taskOf body.tv::bgT body rs other late "body" .none 0 0 [] .none::r⟩ c'
theorem okS_beg {nd:TV}{st:Str}{way:TV}{a q:Int}{ts:List TV}{bf:TV}{r:List Tsk}(hr:okS r):okS (Tsk.beg nd st way a q ts bf::r):=okS_cons okK_beg hr
theorem okS_seq {full:Sq}{k:Nat}{r:List Tsk}(hr:okS r):okS (seqT' full k::r):=okS_cons okK_seq hr
theorem asks_la (e:Int):∀ (a:List Cn) (b:B),(b.asks e a).la=b.la
  | [],_=>rfl
  | c::a,b=>asks_la e a (b.note (askT e c))
theorem task_seq (s:Sq):taskOf s.tv=seqT' s 0:=by rw [s.tv_ch]; rfl
variable (H:Hyp prog w hb mg mb) (G0:Ground0 x A ρ0 env)
include H G0
theorem retry_push {body:Sq}{rs:Rs}{other late:Oq}{b:B}{tk:Nat}{r:List Tsk}{W:TV}{a q:Int}{ts:List TV}{lo:Option Int}(h:tk+1≤20000) :
    Goes prog w hb A env g0 f0 ρ0 x ⟨b,tk,wy .retry,bgT body rs other late "rescue" W a q ts (oi lo)::r⟩ ⟨b.leave lo,tk+1,.none,taskOf body.tv::bgT body rs other late "body" .none 0 0 [] .none::r⟩:=by
  have hp:=bg_nr (body:=body) (rs:=rs) (other:=other) (late:=late) (st:="body") (way:=.none) (a:=0) (q:=0) (ts:=[]) (bf:=.none) trivial trivial trivial
  have hc:=task_nr body.nr body.tv_nd
  unfold bgT begN at hp ⊢
  obtain ⟨k,p,e⟩:=body.tv_nd
  rw [e] at hp hc ⊢
  cases lo with
  | none=>exact g_resc_retry_b0 H G0 _ _ _ _ _ _ _ _ _ _ h hc hp
  | some z=>exact g_resc_retry_b1 H G0 _ _ _ _ _ _ _ _ _ _ _ h hc hp
theorem else_push {body o:Sq}{rs:Rs}{late:Oq}{b:B}{tk:Nat}{r:List Tsk}{W bf:TV}{a q:Int}{ts:List TV}{v:Option Int}(hW:Nu.nr W) (hbf:Nu.nr bf) (hts:alTs (fun _=>False) ts) (h:tk+1≤20000) :
    Goes prog w hb A env g0 f0 ρ0 x ⟨b,tk,wy (.val v),bgT body rs (.yes o) late "body" W a q ts bf::r⟩ ⟨b,tk+1,.none,taskOf o.tv::bgT body rs (.yes o) late "other" W a q ts bf::r⟩:=by
  have hp:=bg_nr (body:=body) (rs:=rs) (other:=.yes o) (late:=late) (st:="other") (way:=W) (a:=a) (q:=q) (ts:=ts) (bf:=bf) hW hts hbf
  have hc:=task_nr o.nr o.tv_nd
  unfold bgT begN at hp ⊢
  obtain ⟨k,p,e⟩:=o.tv_nd
  simp only [Oq.tv,e] at hp ⊢
  rw [e] at hc
  exact g_body_else H G0 _ _ _ _ _ _ _ _ _ _ _ h hc hp
theorem beg_push {body:Sq}{rs:Rs}{other late:Oq}{b:B}{tk:Nat}{r:List Tsk}(h:tk+1≤20000) :
    Goes prog w hb A env g0 f0 ρ0 x ⟨b,tk,.none,taskOf (It.beg body rs other late).tv::r⟩ ⟨b,tk+1,.none,taskOf body.tv::bgT body rs other late "body" .none 0 0 [] .none::r⟩:=by
  have hp:=bg_nr (body:=body) (rs:=rs) (other:=other) (late:=late) (st:="body") (way:=.none) (a:=0) (q:=0) (ts:=[]) (bf:=.none) trivial trivial trivial
  have hc:=task_nr body.nr body.tv_nd
  rw [It.tv]
  unfold bgT begN at hp ⊢
  obtain ⟨k,p,e⟩:=body.tv_nd
  rw [e] at hp hc ⊢
  exact g_beg0 H G0 _ _ _ _ _ h hc hp
theorem ens_end {body:Sq}{rs:Rs}{other late:Oq}{b:B}{tk:Nat}{r:List Tsk}{bf:TV}{a q:Int}{ts:List TV}{res r2:Res}(h:tk+1≤20000) :
    Goes prog w hb A env g0 f0 ρ0 x ⟨b,tk,wy r2,bgT body rs other late "ensure" (wy res) a q ts bf::r⟩ ⟨b,tk+1,wy (Nu.late res r2),r⟩:=by
  unfold bgT begN
  rcases r2 with v2 | e2 | _ | ⟨_ | _ | _,v2⟩
  · rcases res with (_ | z) | e | _ | ⟨_ | _ | _,v⟩
    · exact g_ens_value_0 H G0 _ _ _ _ _ _ _ _ _ h (wy_nr (.val none))
    · exact g_ens_value_1 H G0 _ _ _ _ _ _ _ _ _ _ h (wy_nr (.val (some z)))
    · exact g_ens_s H G0 .raise _ _ _ _ _ _ _ _ _ _ h (wy_nr (.raise e))
    · exact g_ens_s H G0 .retry _ _ _ _ _ _ _ _ _ _ h (wy_nr .retry)
    · exact g_ens_s H G0 .brk _ _ _ _ _ _ _ _ _ _ h (wy_nr (.out .brk v))
    · exact g_ens_s H G0 .nxt _ _ _ _ _ _ _ _ _ _ h (wy_nr (.out .nxt v))
    · exact g_ens_s H G0 .ret _ _ _ _ _ _ _ _ _ _ h (wy_nr (.out .ret v))
  · exact g_enso_s H G0 .raise _ _ _ _ _ _ _ _ _ _ h (wy_nr (.raise e2))
  · exact g_enso_s H G0 .retry _ _ _ _ _ _ _ _ _ _ h (wy_nr .retry)
  · exact g_enso_s H G0 .brk _ _ _ _ _ _ _ _ _ _ h (wy_nr (.out .brk v2))
  · exact g_enso_s H G0 .nxt _ _ _ _ _ _ _ _ _ _ h (wy_nr (.out .nxt v2))
  · exact g_enso_s H G0 .ret _ _ _ _ _ _ _ _ _ _ h (wy_nr (.out .ret v2))
theorem mach {j:J}{b:B}{res:Res}{b':B}{n:Nat}(h:Big j b res b' n):Mach prog w hb A env g0 f0 ρ0 x j b res b' n:=by
  induction h with
  | sym=>intro r tk hr ht; exact m_sym H G0 ht
  | toss=>intro r tk hr ht; exact m_toss H G0 ht
  | last=>intro r tk hr ht; exact m_last H G0 ht
  | out0=>intro r tk hr ht; exact m_out0 H G0 hr ht
  | out1=>intro r tk hr ht; exact m_out1 H G0 hr ht
  | @beg0 body rs other b r b1 n _ ih =>
    intro r tk hr ht
    refine Goes.trans (beg_push H G0 (by omega)) ?_
    have:=ih r (tk+1) hr (by omega)
    refine this .no _ ?_
    rw [show tk+(1+n)=tk+1+n by omega]
    exact Goes.refl
  | @beg1 body rs other s b r b1 n r2 b2 k _ _ ih ih2 =>
    intro r' tk hr ht
    refine Goes.trans (beg_push H G0 (by omega)) ?_
    refine (ih r' (tk+1) hr (by omega)) (.yes s) _ fun a q ts bf hts hbf => ?_
    rw [task_seq]
    refine Goes.trans ((ih2 (_::r') (tk+1+n) (okS_beg hr) (by omega)) s [] rfl) ?_
    rw [show tk+(1+n+k+1)=tk+1+n+k+1 by omega]
    exact ens_end H G0 (by omega)
  | chit _ ih=>exact ih
  | re1 hc=>intro r tk hr ht; exact m_re1 H G0 ht hc
  | re0 hc=>intro r tk hr ht; exact m_re0 H G0 ht hc
  | nil =>
    intro r tk hr ht full done hf
    rw [List.append_nil] at hf
    exact seq_end H G0 hf ht
  | @stop c cs r0 b r b1 n _ hv ih =>
    intro r' tk hr ht full done hf
    refine Goes.trans (seq_push H G0 hf (by omega)) ?_
    refine Goes.trans (ih (_::r') (tk+1) (okS_seq hr) (by omega)) ?_
    rw [show tk+(1+n)=tk+1+n by omega]
    exact seq_pass H G0 hv
  | @go c cs r0 b v b1 n r b2 k _ _ ih ih2 =>
    intro r' tk hr ht full done hf
    refine Goes.trans (seq_push H G0 hf (by omega)) ?_
    refine Goes.trans (ih (_::r') (tk+1) (okS_seq hr) (by omega)) ?_
    have:=ih2 r' (tk+1+n) hr (by omega) full (done++[c]) (by rw [hf]; simp)
    rw [show tk+(1+n+k)=tk+1+n+k by omega]
    rw [List.length_append,List.length_singleton] at this
    have hw:wayAt (done++[c]) v=wy (.val v):=by cases done<;>rfl
    rw [hw] at this
    exact this
  | @tval z body rs b v b1 n _ ih =>
    intro r tk hr ht late c' F
    rw [task_seq]
    refine Goes.trans ((ih (_::r) tk (okS_beg hr) (by omega)) body [] rfl) ?_
    exact ens_val H G0 (by omega) trivial trivial F
  | @toth z body rs o b v b1 n r b2 k _ _ ih ih2 =>
    intro r' tk hr ht late c' F
    rw [task_seq]
    refine Goes.trans ((ih (_::r') tk (okS_beg hr) (by omega)) body [] rfl) ?_
    refine Goes.trans (else_push H G0 trivial trivial trivial (by omega)) ?_
    rw [task_seq]
    refine Goes.trans ((ih2 (_::r') (tk+n+1) (okS_beg hr) (by omega)) o [] rfl) ?_
    rw [show tk+(n+1+k+1)=tk+n+1+k+1 by omega] at F
    exact ens_other H G0 (by omega) trivial trivial F
  | @tout z body rs other b r b1 n _ hv he ih =>
    intro r' tk hr ht late c' F
    rw [task_seq]
    refine Goes.trans ((ih (_::r') tk (okS_beg hr) (by omega)) body [] rfl) ?_
    cases other with
    | no=>exact ens_body H G0 ⟨hv,he⟩ (by omega) trivial trivial F
    | yes o=>exact ens_bodyo H G0 ⟨hv,he⟩ (by omega) trivial trivial F
  | @tno z body rs other b e b1 n a _ hp ih =>
    intro r' tk hr ht late c' F
    rw [task_seq]
    refine Goes.trans ((ih (_::r') tk (okS_beg hr) (by omega)) body [] rfl) ?_
    by_cases hrs:rs.list=[]
    · have:rs = .r0:=by cases rs<;>first | rfl | cases hrs
      subst this
      have ha:a=[]:=by cases hp; rfl
      subst ha
      exact ens_r0 H G0 (by simp at ht; omega) trivial trivial F
    · refine ask_all H G0 hrs trivial (by rw [hp]; show tk+n+1+6*a.length+0≤20000; omega) ?_
      rw [hp]
      show Fin prog w hb A env g0 f0 ρ0 x body rs other late (.raise e) (b1.asks e a) (tk+n+1+6*a.length) r' c'
      rw [show tk+n+1+6*a.length=tk+(n+1+6*a.length) by omega]; exact F
  | @tbad z body rs other b e b1 n a _ hp ih =>
    intro r' tk hr ht late c' F
    rw [task_seq]
    refine Goes.trans ((ih (_::r') tk (okS_beg hr) (by omega)) body [] rfl) ?_
    have hrs:rs.list≠[]:=by intro q; unfold pick at hp; rw [q] at hp; cases hp
    refine ask_all H G0 hrs trivial (by rw [hp]; show tk+n+1+6*a.length+0≤20000; omega) ?_
    rw [hp]
    show Fin prog w hb A env g0 f0 ρ0 x body rs other late (.raise 5) (b1.asks e a) (tk+n+1+6*a.length) r' c'
    rw [show tk+n+1+6*a.length=tk+(n+1+6*a.length) by omega]; exact F
  | @thit z body rs other b e b1 n a R r b2 k _ hp _ hnr ih ih2 =>
    intro r' tk hr ht late c' F
    rw [task_seq]
    refine Goes.trans ((ih (_::r') tk (okS_beg hr) (by omega)) body [] rfl) ?_
    have hrs:rs.list≠[]:=by intro q; unfold pick at hp; rw [q] at hp; cases hp
    refine ask_all H G0 hrs trivial (by rw [hp]; show tk+n+1+6*a.length+gk R.goal≤20000; omega) ?_
    rw [hp]
    intro ai qi
    have hla:(b1.asks e a).la=b1.la:=asks_la e a b1
    rw [hla,task_seq]
    show Goes prog w hb A env g0 f0 ρ0 x ⟨_,tk+n+1+6*a.length+gk R.goal,.none,_⟩ _
    refine Goes.trans ((ih2 (_::r') (tk+n+1+6*a.length+gk R.goal) (okS_beg hr) (by omega)) R.body [] rfl) ?_
    rw [show tk+(n+1+6*a.length+gk R.goal+k+1)=tk+n+1+6*a.length+gk R.goal+k+1 by omega] at F
    exact ens_resc H G0 hnr (by omega) trivial F
  | @tre z body rs other b e b1 n a R b2 k r b3 m _ hp _ _ ih ih2 ih3 =>
    intro r' tk hr ht late c' F
    rw [task_seq]
    refine Goes.trans ((ih (_::r') tk (okS_beg hr) (by omega)) body [] rfl) ?_
    have hrs:rs.list≠[]:=by intro q; unfold pick at hp; rw [q] at hp; cases hp
    refine ask_all H G0 hrs trivial (by rw [hp]; show tk+n+1+6*a.length+gk R.goal≤20000; omega) ?_
    rw [hp]
    intro ai qi
    have hla:(b1.asks e a).la=b1.la:=asks_la e a b1
    rw [hla,task_seq]
    show Goes prog w hb A env g0 f0 ρ0 x ⟨_,tk+n+1+6*a.length+gk R.goal,.none,_⟩ _
    refine Goes.trans ((ih2 (_::r') (tk+n+1+6*a.length+gk R.goal) (okS_beg hr) (by omega)) R.body [] rfl) ?_
    refine Goes.trans (retry_push H G0 (by omega)) ?_
    rw [show tk+(n+1+6*a.length+gk R.goal+k+1+m)=tk+n+1+6*a.length+gk R.goal+k+1+m by omega] at F
    exact (ih3 r' (tk+n+1+6*a.length+gk R.goal+k+1) hr (by omega)) late c' F
end
end
mutual
def It.nb:It→Nat
  | .out _ _=>1
  | .beg body rs other late=>1+body.nb+rs.nb+other.nb+late.nb
  | _=>0
def Sq.nb:Sq→Nat
  | .one a _=>a.nb
  | .two a b _=>a.nb+b.nb
def Oq.nb:Oq→Nat
  | .no=>0
  | .yes s=>s.nb
def Rc.nb:Rc→Nat
  | .mk _ _ body=>body.nb
def Rs.nb:Rs→Nat
  | .r0=>0
  | .r1 a=>a.nb
  | .r2 a b=>a.nb+b.nb
end
def Sq.tail:Sq→Tl
  | .one _ t=>t
  | .two _ _ t=>t
mutual
def It.wt (d:Nat):It→Prop
  | .beg body rs other late=>∃ d',d=d'+1∧body.wt d'∧body.tail=none∧rs.wt d'∧other.wt d'∧late.wt d'
  | _=>True
def Sq.wt (d:Nat):Sq→Prop
  | .one a _=>a.wt d
  | .two a b _=>a.wt d∧b.wt d
def Oq.wt (d:Nat):Oq→Prop
  | .no=>True
  | .yes s=>s.wt d∧s.tail=none
def Rc.wt (d:Nat):Rc→Prop
  | .mk _ _ body=>body.wt d ∧ ∀ n m,body.tail=some (n,m)→m≤2
def Rs.wt (d:Nat):Rs→Prop
  | .r0=>True
  | .r1 a=>a.wt d
  | .r2 a b=>a.wt d∧b.wt d
end
abbrev Ctr:=Int→Option Int
def cv (c:Ctr) (n:Int):Int:=(c n).getD 0
def Le (c c':Ctr):Prop:=∀ n,cv c n≤cv c' n
def NN (c:Ctr):Prop:=∀ n,0≤cv c n
theorem Le.refl (c:Ctr):Le c c:=fun _=>Int.le_refl _
theorem Le.trans {a b c:Ctr}(h:Le a b) (h':Le b c):Le a c:=fun n=>Int.le_trans (h n) (h' n)
theorem NN.le {a b:Ctr}(h:NN a) (h':Le a b):NN b:=fun n=>Int.le_trans (h n) (h' n)
theorem count_le (b:B) (n:Int):Le b.ct (b.count n).ct:=fun m=>by
  unfold cv B.count B.cnt
  dsimp only
  by_cases h:m=n
  · subst h; rw [if_pos rfl]; show _≤(b.ct m).getD 0+1; omega
  · rw [if_neg h]; exact Int.le_refl _
def Anti (Φ:Ctr→Nat):Prop:=∀ c c',Le c c'→Φ c'≤Φ c
def EOk (j:J) (A:Nat) (Φ:Ctr→Nat) (r:Res):Prop:=∀ b:B,NN b.ct→∃ b' n,Big j b r b' n∧b'.la=b.la∧Le b.ct b'.ct∧n+Φ b'.ct≤A+Φ b.ct
def ItP (d:Nat) (i:It):Prop:=∃ A Φ r,A≤50*i.nb+1∧(∀ c,NN c→Φ c≤100*d*i.nb)∧Anti Φ∧r.isRetry=false∧EOk (.it i) A Φ r
def SqP (d:Nat) (s:Sq):Prop:=∃ A Φ r,A≤50*s.nb+5∧(∀ c,NN c→Φ c≤100*d*s.nb)∧Anti Φ∧r.isRetry=false∧EOk (.sq s.ch none) A Φ r
def RcP (d:Nat) (R:Rc):Prop:=∃ (A:Nat) (Φ rem:Ctr→Nat) (r:Res),A≤50*R.nb+10∧(∀ c,NN c→Φ c≤100*d*R.nb)∧Anti Φ∧Anti rem∧(∀ c,NN c→rem c≤2)∧r.isRetry=false ∧
  ∀ b:B,NN b.ct→∃ b' n r',Big (.sq R.body.ch none) b r' b' n∧b'.la=b.la∧Le b.ct b'.ct∧n+Φ b'.ct≤A+Φ b.ct∧(r'=r∨(r' = .retry∧rem b'.ct+1≤rem b.ct))
theorem leafP {d:Nat}{i:It}{r:Res}{k:Nat}(hk:k≤50*i.nb+1) (hr:r.isRetry=false) (h:∀ b:B,∃ b',Big (.it i) b r b' k∧b'.la=b.la∧b'.ct=b.ct):ItP d i :=
  ⟨k,fun _=>0,r,hk,fun _ _=>Nat.zero_le _,fun _ _ _=>Nat.le_refl _,hr,fun b _=>by
    obtain ⟨b',h1,h2,h3⟩:=h b
    exact ⟨b',k,h1,h2,by rw [h3]; exact Le.refl _,Nat.le_refl _⟩⟩
def TOk (j:J) (A:Nat) (Φ rem:Ctr→Nat) (r:Res):Prop:=∀ b:B,NN b.ct→∃ b' n r',Big j b r' b' n∧b'.la=b.la∧Le b.ct b'.ct∧n+Φ b'.ct≤A+Φ b.ct∧(r'=r∨(r' = .retry∧rem b'.ct+1≤rem b.ct))
theorem EOk.t {j:J}{A:Nat}{Φ rem:Ctr→Nat}{r:Res}(h:EOk j A Φ r):TOk j A Φ rem r:=fun b hb=>by
  obtain ⟨b',n,h1,h2,h3,h4⟩:=h b hb
  exact ⟨b',n,r,h1,h2,h3,h4,.inl rfl⟩
theorem sq_nil {v:Option Int}:EOk (.sq [] v) 1 (fun _=>0) (.val v):=fun b _=>⟨b,1,.nil,rfl,Le.refl _,Nat.le_refl _⟩
theorem sq_cons {c:Ch}{cs:List Ch}{A A2:Nat}{Φ Φ2:Ctr→Nat}{r r2:Res}{r0:Option Int}(h:EOk (.ch c) A Φ r) (h2:∀ v,r = .val v→EOk (.sq cs v) A2 Φ2 r2) (hr:r.isVal=false→r2=r) (a1:Anti Φ) (a2:Anti Φ2) :
    EOk (.sq (c::cs) r0) (1+A+A2) (fun c=>Φ c+Φ2 c) r2:=fun b hb=>by
  obtain ⟨b1,n,g1,g2,g3,g4⟩:=h b hb
  by_cases hv:r.isVal=true
  · obtain ⟨v,rfl⟩:∃ v,r = .val v:=by cases r<;>first | exact ⟨_,rfl⟩ | cases hv
    obtain ⟨b2,k,k1,k2,k3,k4⟩:=h2 v rfl b1 (hb.le g3)
    refine ⟨b2,1+n+k,.go g1 k1,k2.trans g2,g3.trans k3,?_⟩
    have x1:=a1 _ _ k3
    have x2:=a2 _ _ g3
    dsimp only
    omega
  · have hv:r.isVal=false:=by simpa using hv
    rw [hr hv]
    refine ⟨b1,1+n,.stop g1 hv,g2,g3,?_⟩
    have x2:=a2 _ _ g3
    dsimp only
    omega
theorem sq_consT {c:Ch}{cs:List Ch}{A A2:Nat}{Φ Φ2 rem:Ctr→Nat}{r r2:Res}{r0:Option Int}(h:EOk (.ch c) A Φ r) (h2:∀ v,r = .val v→TOk (.sq cs v) A2 Φ2 rem r2) (hr:r.isVal=false→r2=r) (a1:Anti Φ) (a2:Anti Φ2) (a3:Anti rem) :
    TOk (.sq (c::cs) r0) (1+A+A2) (fun c=>Φ c+Φ2 c) rem r2:=fun b hb=>by
  obtain ⟨b1,n,g1,g2,g3,g4⟩:=h b hb
  by_cases hv:r.isVal=true
  · obtain ⟨v,rfl⟩:∃ v,r = .val v:=by cases r<;>first | exact ⟨_,rfl⟩ | cases hv
    obtain ⟨b2,k,r',k1,k2,k3,k4,k5⟩:=h2 v rfl b1 (hb.le g3)
    refine ⟨b2,1+n+k,r',.go g1 k1,k2.trans g2,g3.trans k3,?_,k5.imp id fun q=>⟨q.1,Nat.le_trans q.2 (a3 _ _ g3)⟩⟩
    have x1:=a1 _ _ k3
    have x2:=a2 _ _ g3
    dsimp only
    omega
  · have hv:r.isVal=false:=by simpa using hv
    rw [hr hv]
    refine ⟨b1,1+n,r,.stop g1 hv,g2,g3,?_,.inl rfl⟩
    have x2:=a2 _ _ g3
    dsimp only
    omega
def remOf (n m:Int) (c:Ctr):Nat:=(m - cv c n).toNat
theorem rem_anti (n m:Int):Anti (remOf n m):=fun c c' h=>by
  have:=h n
  unfold remOf
  omega
theorem sq_tail {n m:Int}{v:Option Int}:TOk (.sq [.re n m] v) 5 (fun _=>0) (remOf n m) (.val none):=fun b hb=>by
  have hc:cv (b.count n).ct n=cv b.ct n+1:=by
    unfold cv B.count B.cnt
    dsimp only
    rw [if_pos rfl]; rfl
  by_cases h:b.cnt n≤m
  · refine ⟨b.count n,1+4,.retry,.stop (.re1 h) rfl,rfl,count_le b n,Nat.le_refl _,.inr ⟨rfl,?_⟩⟩
    have h0:=hb n
    have h:cv b.ct n+1≤m:=h
    unfold remOf
    rw [hc]
    omega
  · exact ⟨b.count n,1+3+1,.val none,.go (.re0 h) .nil,rfl,count_le b n,Nat.le_refl _,.inl rfl⟩
theorem anti0:Anti (fun _=>0):=fun _ _ _=>Nat.le_refl _
theorem anti_add {Φ Φ2:Ctr→Nat}(a1:Anti Φ) (a2:Anti Φ2):Anti (fun c=>Φ c+Φ2 c):=fun c c' h=>Nat.add_le_add (a1 c c' h) (a2 c c' h)
theorem EOk.ch {i:It}{A:Nat}{Φ:Ctr→Nat}{r:Res}(h:EOk (.it i) A Φ r):EOk (.ch (.it i)) A Φ r:=fun b hb=>by
  obtain ⟨b',n,h1,h2⟩:=h b hb
  exact ⟨b',n,.chit h1,h2⟩
def thenR (r r2:Res):Res:=if r.isVal then r2 else r
theorem thenR_no {r r2:Res}(h:r.isVal=false):thenR r r2=r:=by unfold thenR; rw [h]; rfl
theorem thenR_yes {v:Option Int}{r2:Res}:thenR (.val v) r2=r2:=rfl
theorem thenR_retry {r r2:Res}(h:r.isRetry=false) (h2:r2.isRetry=false):(thenR r r2).isRetry=false:=by
  unfold thenR
  split<;>assumption
theorem sqP_of {d:Nat}:∀ {s:Sq},(∀ i,Ch.it i∈s.ch→ItP d i)→s.tail=none→SqP d s
  | .one a t,h,ht=>by
    have ht:t=none:=ht
    subst ht
    obtain ⟨A,Φ,r,h1,h2,h3,h4,h5⟩:=h a (.head _)
    refine ⟨1+A+1,fun c=>Φ c+0,r,by show _≤50*a.nb+5; omega,fun c hc=>h2 c hc,h3,h4,?_⟩
    exact sq_cons h5.ch (fun v e=>by rw [e]; exact sq_nil) (fun _=>rfl) h3 anti0
  | .two a b t,h,ht=>by
    have ht:t=none:=ht
    subst ht
    obtain ⟨A,Φ,r,h1,h2,h3,h4,h5⟩:=h a (.head _)
    obtain ⟨A',Φ',r',h1',h2',h3',h4',h5'⟩:=h b (.tail _ (.head _))
    refine ⟨1+A+(1+A'+1),fun c=>Φ c+(Φ' c+0),thenR r r',by show _≤50*(a.nb+b.nb)+5; omega,fun c hc => ?_,anti_add h3 h3',thenR_retry h4 h4',?_⟩
    · have:=h2 c hc; have:=h2' c hc
      show Φ c+Φ' c≤100*d*(a.nb+b.nb)
      rw [Nat.mul_add]; omega
    · refine sq_cons h5.ch (fun v e => ?_) (fun hv=>thenR_no hv) h3 (anti_add h3' anti0)
      rw [e,thenR_yes]
      exact sq_cons h5'.ch (fun v e=>by rw [e]; exact sq_nil) (fun _=>rfl) h3' anti0
theorem rcP_of {d:Nat}{R:Rc}(h:∀ i,Ch.it i∈R.body.ch→ItP d i) (ht:∀ n m,R.body.tail=some (n,m)→m≤2):RcP d R:=by
  obtain ⟨cl,goal,s⟩:=R
  have hnb:(Rc.mk cl goal s).nb=s.nb:=by rw [Rc.nb]
  cases htl:s.tail with
  | none =>
    obtain ⟨A,Φ,r,h1,h2,h3,h4,h5⟩:=sqP_of (s:=s) h htl
    exact ⟨A,Φ,fun _=>0,r,by rw [hnb]; omega,by rw [hnb]; exact h2,h3,anti0,fun _ _=>Nat.zero_le _,h4,fun b hb=>h5.t (rem:=fun _=>0) b hb⟩
  | some q =>
    obtain ⟨n,m⟩:=q
    have hm:=ht n m htl
    have hrem:∀ c,NN c→remOf n m c≤2:=fun c hc=>by have:=hc n; unfold remOf; omega
    cases s with
    | one a t =>
      have htl:t=some (n,m):=htl
      subst htl
      obtain ⟨A,Φ,r,h1,h2,h3,h4,h5⟩:=h a (.head _)
      refine ⟨1+A+5,fun c=>Φ c+0,remOf n m,thenR r (.val none),by rw [hnb]; show _≤50*a.nb+10; omega,fun c hc=>by rw [hnb]; exact h2 c hc,h3,rem_anti n m,hrem,thenR_retry h4 rfl,?_⟩
      exact sq_consT h5.ch (fun v e=>by rw [e,thenR_yes]; exact sq_tail) (fun hv=>thenR_no hv) h3 anti0 (rem_anti n m)
    | two a b t =>
      have htl:t=some (n,m):=htl
      subst htl
      obtain ⟨A,Φ,r,h1,h2,h3,h4,h5⟩:=h a (.head _)
      obtain ⟨A',Φ',r',h1',h2',h3',h4',h5'⟩:=h b (.tail _ (.head _))
      refine ⟨1+A+(1+A'+5),fun c=>Φ c+(Φ' c+0),remOf n m,thenR r (thenR r' (.val none)),by rw [hnb]; show _≤50*(a.nb+b.nb)+10; omega,fun c hc => ?_,anti_add h3 h3',rem_anti n m,hrem,thenR_retry h4 (thenR_retry h4' rfl),?_⟩
      · have:=h2 c hc; have:=h2' c hc
        rw [hnb]
        show Φ c+Φ' c≤100*d*(a.nb+b.nb)
        rw [Nat.mul_add]; omega
      · refine sq_consT h5.ch (fun v e => ?_) (fun hv=>thenR_no hv) h3 (anti_add h3' anti0) (rem_anti n m)
        rw [e,thenR_yes]
        exact sq_consT h5'.ch (fun v e=>by rw [e,thenR_yes]; exact sq_tail) (fun hv=>thenR_no hv) h3' anti0 (rem_anti n m)
theorem askL_len:∀ (l:List Cn) (e:Int),(askL l e).1.length≤l.length
  | [],_=>Nat.le_refl _
  | c::r,e=>by
    have ih:=askL_len r e
    cases c with
    | k9=>show 1≤_; simp
    | _ =>
      simp only [askL]
      split
      · simp
      · simpa using ih
theorem asked_len (c:Cl):c.asked.length≤2:=by cases c<;>simp [Cl.asked]
theorem pickL_len:∀ (l:List Rc) (e:Int),(pickL l e).1.length≤2*l.length
  | [],_=>Nat.le_refl _
  | r::rs,e=>by
    have ih:=pickL_len rs e
    have h1:=askL_len r.cl.asked e
    have h2:=asked_len r.cl
    rw [pickL]
    rcases h:askL r.cl.asked e with ⟨a,_ | _ | _⟩<;>rw [h] at h1
    · show (a++_).length≤_
      rw [List.length_append,List.length_cons]
      have h1:a.length≤_:=h1
      omega
    · have h1:a.length≤_:=h1
      show a.length≤_
      rw [List.length_cons]; omega
    · have h1:a.length≤_:=h1
      show a.length≤_
      rw [List.length_cons]; omega
theorem pick_len (rs:Rs) (e:Int):(pick rs e).1.length≤4:=by
  have:=pickL_len rs.list e
  unfold pick
  cases rs with
  | r0=>exact Nat.zero_le 4
  | r1 a=>exact Nat.le_trans this (by show 2*1≤4; omega)
  | r2 a b=>exact this
theorem pickL_mem:∀ (l:List Rc) (e:Int) (a:List Cn) (R:Rc),pickL l e=(a,.hit R)→R∈l
  | [],e,a,R,h=>by cases h
  | r::rs,e,a,R,h=>by
    rw [pickL] at h
    rcases h':askL r.cl.asked e with ⟨a',_ | _ | _⟩<;>rw [h'] at h
    · have h:(a'++(pickL rs e).1,(pickL rs e).2)=(a,.hit R):=h
      rw [Prod.mk.injEq] at h
      exact .tail _ (pickL_mem rs e _ R (Prod.ext rfl h.2))
    · cases h
    · cases h; exact .head _
theorem asks_ct (e:Int):∀ (a:List Cn) (b:B),(b.asks e a).ct=b.ct∧(b.asks e a).la=b.la
  | [],_=>⟨rfl,rfl⟩
  | c::a,b=>asks_ct e a (b.note (askT e c))
theorem Rs.nb_mem {rs:Rs}{R:Rc}(h:R∈rs.list):R.nb≤rs.nb:=by
  cases rs with
  | r0=>cases h
  | r1 a =>
    have h:R∈[a]:=h
    rw [List.mem_singleton] at h; subst h
    rw [Rs.nb]; exact Nat.le_refl _
  | r2 a b =>
    have h:R∈[a,b]:=h
    simp only [List.mem_cons,List.not_mem_nil,or_false] at h
    rw [Rs.nb]
    rcases h with rfl | rfl<;>omega
theorem trP {d:Nat}{body:Sq}{rs:Rs}{other:Oq}(hb:SqP d body) (hr:∀ R∈rs.list,RcP d R) (ho:∀ o,other = .yes o→SqP d o) :
    ∃ A Φ r,A≤50*(body.nb+rs.nb+other.nb)+43∧(∀ c,NN c→Φ c≤100*d*(body.nb+rs.nb+other.nb)+2*(50*(body.nb+rs.nb+other.nb)+43))∧Anti Φ∧r.isRetry=false∧EOk (.tr 2 body rs other) A Φ r:=by
  obtain ⟨A,Φ,r,h1,h2,h3,h4,h5⟩:=hb
  have hmul:100*d*(body.nb+rs.nb+other.nb)=100*d*body.nb+100*d*rs.nb+100*d*other.nb:=by rw [Nat.mul_add,Nat.mul_add]
  have base:∀ c,NN c→Φ c≤100*d*(body.nb+rs.nb+other.nb)+2*(50*(body.nb+rs.nb+other.nb)+43):=fun c hc=>by
    have:=h2 c hc; rw [hmul]; omega
  cases r with
  | retry=>cases h4
  | out k v =>
    refine ⟨A+1,Φ,.out k v,by omega,base,h3,rfl,fun b hb => ?_⟩
    obtain ⟨b1,n,g1,g2,g3,g4⟩:=h5 b hb
    exact ⟨b1,n+1,.tout g1 rfl rfl,g2,g3,by omega⟩
  | val v =>
    cases other with
    | no =>
      refine ⟨A+1,Φ,.val v,by omega,base,h3,rfl,fun b hb => ?_⟩
      obtain ⟨b1,n,g1,g2,g3,g4⟩:=h5 b hb
      exact ⟨b1,n+1,.tval g1,g2,g3,by omega⟩
    | yes o =>
      obtain ⟨A',Φ',r',h1',h2',h3',h4',h5'⟩:=ho o rfl
      have hn:(Oq.yes o).nb=o.nb:=by rw [Oq.nb]
      refine ⟨A+1+A'+1,fun c=>Φ c+Φ' c,r',by rw [hn]; omega,fun c hc => ?_,anti_add h3 h3',h4',fun b hb => ?_⟩
      · have:=h2 c hc; have:=h2' c hc; rw [hmul,hn]; show Φ c+Φ' c≤_; omega
      · obtain ⟨b1,n,g1,g2,g3,g4⟩:=h5 b hb
        obtain ⟨b2,k,k1,k2,k3,k4⟩:=h5' b1 (hb.le g3)
        refine ⟨b2,n+1+k+1,.toth g1 k1,k2.trans g2,g3.trans k3,?_⟩
        have x1:=h3 _ _ k3
        have x2:=h3' _ _ g3
        dsimp only
        omega
  | raise e =>
    have hlen:=pick_len rs e
    rcases hp:pick rs e with ⟨a,_ | _ | R⟩
    · rw [hp] at hlen
      have hlen:a.length≤4:=hlen
      refine ⟨A+1+6*a.length,Φ,.raise e,by omega,base,h3,rfl,fun b hb => ?_⟩
      obtain ⟨b1,n,g1,g2,g3,g4⟩:=h5 b hb
      obtain ⟨c1,c2⟩:=asks_ct e a b1
      refine ⟨b1.asks e a,n+1+6*a.length,.tno g1 hp,c2.trans g2,by rw [c1]; exact g3,?_⟩
      rw [c1]; omega
    · rw [hp] at hlen
      have hlen:a.length≤4:=hlen
      refine ⟨A+1+6*a.length,Φ,.raise 5,by omega,base,h3,rfl,fun b hb => ?_⟩
      obtain ⟨b1,n,g1,g2,g3,g4⟩:=h5 b hb
      obtain ⟨c1,c2⟩:=asks_ct e a b1
      refine ⟨b1.asks e a,n+1+6*a.length,.tbad g1 hp,c2.trans g2,by rw [c1]; exact g3,?_⟩
      rw [c1]; omega
    · rw [hp] at hlen
      have hlen:a.length≤4:=hlen
      have hmem:R∈rs.list:=pickL_mem rs.list e a R hp
      have hnb:=Rs.nb_mem hmem
      obtain ⟨A',Φ',rem,r',h1',h2',h3',h4',h5',h6',h7'⟩:=hr R hmem
      have hgk:gk R.goal≤2:=by cases R.goal<;>simp [gk]
      let Rw:=A+1+6*a.length+gk R.goal+A'+1
      have hRw:Rw≤50*(body.nb+rs.nb+other.nb)+43:=by show A+1+6*a.length+gk R.goal+A'+1≤_; omega
      refine ⟨Rw,fun c=>Φ c+Φ' c+Rw*rem c,r',hRw,fun c hc => ?_,fun c c' h => ?_,h6',?_⟩
      · have:=h2 c hc; have:=h2' c hc
        have q:=Nat.mul_le_mul_left Rw (h5' c hc)
        have q2:100*d*R.nb≤100*d*rs.nb:=Nat.mul_le_mul_left _ hnb
        rw [hmul]
        show Φ c+Φ' c+Rw*rem c≤_
        omega
      · have:=h3 c c' h; have:=h3' c c' h
        have:=Nat.mul_le_mul_left Rw (h4' c c' h)
        show Φ c'+Φ' c'+Rw*rem c'≤Φ c+Φ' c+Rw*rem c
        omega
      · have key:∀ k,∀ b:B,NN b.ct→rem b.ct≤k→∃ b' n,Big (.tr k body rs other) b r' b' n∧b'.la=b.la∧Le b.ct b'.ct∧n+(Φ b'.ct+Φ' b'.ct+Rw*rem b'.ct)≤Rw+(Φ b.ct+Φ' b.ct+Rw*rem b.ct):=by
          intro k
          induction k with
          | zero =>
            intro b hb hk
            obtain ⟨b1,n,g1,g2,g3,g4⟩:=h5 b hb
            obtain ⟨c1,c2⟩:=asks_ct e a b1
            obtain ⟨b2,m,r2,k1,k2,k3,k4,k5⟩:=h7' ((b1.asks e a).enter e R.goal) (by show NN (b1.asks e a).ct; rw [c1]; exact hb.le g3)
            have e1:((b1.asks e a).enter e R.goal).ct=b1.ct:=c1
            rw [e1] at k3 k4 k5
            have y1:=h4' _ _ g3
            rcases k5 with rfl | ⟨rfl,k5⟩
            · refine ⟨b2.leave b1.la,_,.thit g1 hp k1 h6',g2,g3.trans k3,?_⟩
              have x1:=h3 _ _ k3
              have x2:=h3' _ _ g3
              have x3:=Nat.mul_le_mul_left Rw (h4' _ _ (g3.trans k3))
              show (n+1+6*a.length+gk R.goal+m+1)+(Φ b2.ct+Φ' b2.ct+Rw*rem b2.ct)≤_
              show _≤(A+1+6*a.length+gk R.goal+A'+1)+_
              omega
            · omega
          | succ k ih =>
            intro b hb hk
            obtain ⟨b1,n,g1,g2,g3,g4⟩:=h5 b hb
            obtain ⟨c1,c2⟩:=asks_ct e a b1
            obtain ⟨b2,m,r2,k1,k2,k3,k4,k5⟩:=h7' ((b1.asks e a).enter e R.goal) (by show NN (b1.asks e a).ct; rw [c1]; exact hb.le g3)
            have e1:((b1.asks e a).enter e R.goal).ct=b1.ct:=c1
            rw [e1] at k3 k4 k5
            have y1:=h4' _ _ g3
            have x1:=h3 _ _ k3
            have x2:=h3' _ _ g3
            rcases k5 with rfl | ⟨rfl,k5⟩
            · refine ⟨b2.leave b1.la,_,.thit g1 hp k1 h6',g2,g3.trans k3,?_⟩
              have x3:=Nat.mul_le_mul_left Rw (h4' _ _ (g3.trans k3))
              show (n+1+6*a.length+gk R.goal+m+1)+(Φ b2.ct+Φ' b2.ct+Rw*rem b2.ct)≤_
              show _≤(A+1+6*a.length+gk R.goal+A'+1)+_
              omega
            · obtain ⟨b3,m3,l1,l2,l3,l4⟩:=ih (b2.leave b1.la) (hb.le (g3.trans k3)) (by show rem b2.ct≤k; omega)
              refine ⟨b3,_,.tre g1 hp k1 l1,l2.trans g2,(g3.trans k3).trans l3,?_⟩
              have l4:m3+(Φ b3.ct+Φ' b3.ct+Rw*rem b3.ct)≤Rw+(Φ b2.ct+Φ' b2.ct+Rw*rem b2.ct):=l4
              have x3:Rw*(rem b2.ct+1)≤Rw*rem b.ct:=Nat.mul_le_mul_left Rw (by omega)
              rw [Nat.mul_add,Nat.mul_one] at x3
              have hRw2:Rw=A+1+6*a.length+gk R.goal+A'+1:=rfl
              show (n+1+6*a.length+gk R.goal+m+1+m3)+(Φ b3.ct+Φ' b3.ct+Rw*rem b3.ct)≤_
              omega
        exact fun b hb=>key 2 b hb (h5' _ hb)
theorem late_retry {r r2:Res}(h:r.isRetry=false) (h2:r2.isRetry=false):(Nu.late r r2).isRetry=false:=by
  cases r2<;>first | exact h | exact h2
theorem begP {d:Nat}{body:Sq}{rs:Rs}{other late:Oq}(hb:SqP d body) (hr:∀ R∈rs.list,RcP d R) (ho:∀ o,other = .yes o→SqP d o) (hl:∀ o,late = .yes o→SqP d o):ItP (d+1) (.beg body rs other late):=by
  obtain ⟨A,Φ,r,h1,h2,h3,h4,h5⟩:=trP hb hr ho
  have hnb:(It.beg body rs other late).nb=1+body.nb+rs.nb+other.nb+late.nb:=by rw [It.nb]
  have hm:∀ k,100*(d+1)*k=100*d*k+100*k:=fun k=>by rw [Nat.mul_add,Nat.add_mul,Nat.mul_one]
  have hS:100*d*(1+body.nb+rs.nb+other.nb+late.nb)=100*d+100*d*(body.nb+rs.nb+other.nb)+100*d*late.nb:=by
    have:1+body.nb+rs.nb+other.nb+late.nb=1+(body.nb+rs.nb+other.nb)+late.nb:=by omega
    rw [this,Nat.mul_add,Nat.mul_add,Nat.mul_one]
  cases late with
  | no =>
    refine ⟨1+A,Φ,r,by rw [hnb]; omega,fun c hc => ?_,h3,h4,fun b hb => ?_⟩
    · have:=h2 c hc; rw [hnb,hm,hS]; omega
    · obtain ⟨b1,n,g1,g2,g3,g4⟩:=h5 b hb
      exact ⟨b1,1+n,.beg0 g1,g2,g3,by omega⟩
  | yes s =>
    obtain ⟨A',Φ',r',h1',h2',h3',h4',h5'⟩:=hl s rfl
    have hn:(Oq.yes s).nb=s.nb:=by rw [Oq.nb]
    refine ⟨1+A+A'+1,fun c=>Φ c+Φ' c,Nu.late r r',by rw [hnb,hn]; omega,fun c hc => ?_,anti_add h3 h3',late_retry h4 h4',fun b hb => ?_⟩
    · have:=h2 c hc; have:=h2' c hc; rw [hnb,hm,hS,hn]; show Φ c+Φ' c≤_; omega
    · obtain ⟨b1,n,g1,g2,g3,g4⟩:=h5 b hb
      obtain ⟨b2,k,k1,k2,k3,k4⟩:=h5' b1 (hb.le g3)
      refine ⟨b2,1+n+k+1,.beg1 g1 k1,k2.trans g2,g3.trans k3,?_⟩
      have x1:=h3 _ _ k3
      have x2:=h3' _ _ g3
      dsimp only
      omega
mutual
theorem It.p (d:Nat):∀ i:It,i.wt d→ItP d i
  | .sym n,_=>leafP (r:=.val (some n)) (k:=1) (by omega) rfl fun b=>⟨_,.sym,rfl,rfl⟩
  | .toss n,_=>leafP (r:=.raise n) (k:=1) (by omega) rfl fun b=>⟨_,.toss,rfl,rfl⟩
  | .last,_=>leafP (r:=.val none) (k:=1) (by omega) rfl fun b=>⟨_,.last,rfl,rfl⟩
  | .out k none,_=>leafP (r:=.out k none) (k:=1) (by omega) rfl fun b=>⟨_,.out0,rfl,rfl⟩
  | .out k (some n),_=>leafP (r:=.out k (some n)) (k:=3) (by rw [It.nb]; omega) rfl fun b=>⟨_,.out1,rfl,rfl⟩
  | .beg body rs other late,h=>by
    rw [It.wt] at h
    obtain ⟨d',rfl,h1,h2,h3,h4,h5⟩:=h
    exact begP (Sq.p d' body h1 h2) (Rs.p d' rs h3) (Oq.p d' other h4) (Oq.p d' late h5)
theorem Sq.p (d:Nat):∀ s:Sq,s.wt d→s.tail=none→SqP d s
  | .one a t,h,ht=>by
    rw [Sq.wt] at h
    have q:=It.p d a h
    refine sqP_of (s:=.one a t) (fun i hi => ?_) ht
    have ht:t=none:=ht
    subst ht
    have hi:Ch.it i∈[Ch.it a]:=hi
    rw [List.mem_singleton] at hi
    cases hi
    exact q
  | .two a b t,h,ht=>by
    rw [Sq.wt] at h
    have q:=It.p d a h.1
    have q':=It.p d b h.2
    refine sqP_of (s:=.two a b t) (fun i hi => ?_) ht
    have ht:t=none:=ht
    subst ht
    have hi:Ch.it i∈[Ch.it a,Ch.it b]:=hi
    simp only [List.mem_cons,List.not_mem_nil,or_false] at hi
    rcases hi with hi | hi
    · cases hi; exact q
    · cases hi; exact q'
theorem Sq.pi (d:Nat):∀ s:Sq,s.wt d→∀ i,Ch.it i∈s.ch→ItP d i
  | .one a t,h,i,hi=>by
    rw [Sq.wt] at h
    have q:=It.p d a h
    have hi:i=a:=by rcases t with _ | ⟨n,m⟩<;>simpa [Sq.ch,tlCh] using hi
    rw [hi]; exact q
  | .two a b t,h,i,hi=>by
    rw [Sq.wt] at h
    have q:=It.p d a h.1
    have q':=It.p d b h.2
    have hi:i=a∨i=b:=by rcases t with _ | ⟨n,m⟩<;>simpa [Sq.ch,tlCh] using hi
    rcases hi with hi | hi
    · rw [hi]; exact q
    · rw [hi]; exact q'
theorem Oq.p (d:Nat):∀ o:Oq,o.wt d→∀ s,o = .yes s→SqP d s
  | .no,_,s,e=>by cases e
  | .yes s,h,s',e=>by
    rw [Oq.wt] at h
    have q:=Sq.p d s h.1 h.2
    cases e
    exact q
theorem Rc.p (d:Nat):∀ r:Rc,r.wt d→RcP d r
  | .mk cl goal body,h=>by
    rw [Rc.wt] at h
    exact rcP_of (Sq.pi d body h.1) h.2
theorem Rs.p (d:Nat):∀ r:Rs,r.wt d→∀ R∈r.list,RcP d R
  | .r0,_,R,h=>by cases h
  | .r1 a,h,R,hR=>by
    rw [Rs.wt] at h
    have q:=Rc.p d a h
    have hR:R∈[a]:=hR
    rw [List.mem_singleton] at hR
    rw [hR]; exact q
  | .r2 a b,h,R,hR=>by
    rw [Rs.wt] at h
    have q:=Rc.p d a h.1
    have q':=Rc.p d b h.2
    have hR:R∈[a,b]:=hR
    simp only [List.mem_cons,List.not_mem_nil,or_false] at hR
    rcases hR with hR | hR
    · rw [hR]; exact q
    · rw [hR]; exact q'
end
def resT (r:Res):TV:=.tup [.str (u r.s),r.v]
def sCells (tr:List TV) (N:Nat) (ct:Int→Option Int) (la er:TV) (eb:Bool):List Ent:=[(1,.stk tr),(2,.dic N ct [(u "$!",la,true),(u "$e",er,eb)])]
def iWalk:FnI:=fnI (sT 91) "_law_walk" [] none
def iTried:FnI:=fnI (sT 90) "_law_tried" [] none
def iRescued:FnI:=fnI (sT 89) "_law_rescued" [] none
def iAsks:FnI:=fnI (sT 88) "_law_asks" [] none
def orcW (tw tr:List EntC):Orc:=[(1191,entM tw 1191),(1177,entM tr 1177)]
def runW (i:FnI) (tw tr:List EntC) (d:Nat) (args:List TV) (cells:List Ent) (dirs:List Nat):Option (TV×St×List Prop):=fnF (evo (orcW tw tr) 120) d i args ⟨cells,10,dirs⟩
def seeW (r:Option (TV×St×List Prop)):Option (TV×List (Option Cell)×List Prop):=match r with
  | some (t,σ,c)=>some (t,[lkC σ.cells 1,lkC σ.cells 2],c)
  | none=>none
section
structure Hyp0 (prog:Program) (w:World) (hb:HB) (mg mb:Str→Option Value):Prop where
  B:BaseH (KK w.params) mg mb hb
  T:TabOk w.params (KK w.params) theTab mg mb
  C:CodeB hb mg ci0
section
variable {prog:Program}{w:World}{hb:HB}{mg mb:Str→Option Value}{A:Around}{g f g' f':PH}{ρ ρ':Rho}{s:Shared}
theorem Hyp0.snd (H:Hyp0 prog w hb mg mb) {orc:Orc}(O:SndO prog w clo hb orc) (n:Nat):Snd prog w clo hb (evo orc n):=Nu.snd H.B H.T O clo_all (sndX H.B H.C) (sndS' H.B H.C) n
theorem Hyp0.fn (H:Hyp0 prog w hb mg mb) {orc:Orc}(O:SndO prog w clo hb orc) {n fn d:Nat}{i:FnI}(hf:lkC theTab.fn fn=some i) (r:Room (d+1) A) {ts:List TV}{vs:List Value}(h:VRs w.params g ρ ts vs) :
    Tri prog w clo hb A g f ρ (fnF (evo orc n) d i ts) (call (.ref fn) vs) (VRp w):=(TriF.fn H.B (H.snd O n) (H.T.fn _ _ hf) r h).call
mutual
theorem clT_al {S:List Nat}:∀ {t:TV},alT (· ∈ S) t→clT S t
  | .ref i,x=>x
  | .tup xs,x=>clTs_al (t:=xs) x
  | .lst xs,x=>clTs_al (t:=xs) x
  | .ins _ fs,x=>clFs_al (t:=fs) x
  | .none,_=>trivial
  | .bool _,_=>trivial
  | .sym _,_=>trivial
  | .int _,_=>trivial
  | .sint _,_=>trivial
  | .str _,_=>trivial
  | .type _,_=>trivial
  | .bi _,_=>trivial
  | .raw _,_=>trivial
theorem clTs_al {S:List Nat}:∀ {t:List TV},alTs (· ∈ S) t→clTs S t
  | [],_=>trivial
  | x::xs,y=>⟨clT_al y.1,clTs_al y.2⟩
theorem clFs_al {S:List Nat}:∀ {t:List (Str×TV)},alFs (· ∈ S) t→clFs S t
  | [],_=>trivial
  | (_,x)::xs,y=>⟨clT_al y.1,clFs_al y.2⟩
end
theorem nr.al {p:Nat→Prop}{t:TV}(h:nr t):alT p t:=alT.imp (fun _ x=>x.elim) h
theorem nrs.al {p:Nat→Prop}{t:List TV}(h:alTs (fun _=>False) t):alTs p t:=alTs.imp (fun _ x=>x.elim) h
theorem nr.cl {S:List Nat}{t:TV}(h:nr t):clT S t:=clT_al h.al
theorem nrs.cl {S:List Nat}{t:List TV}(h:∀ x∈t,nr x):clTs S t:=clTs_mem.mpr fun x hx=>(h x hx).cl
theorem con_of_m {m:M TV}{fn dep nx:Nat}{args:List TV}{pre post:List Ent}{dirs:List Nat}{res:TV}{σ':St}{c:List Prop}
    (T:∀ A g f ρ vs,Room dep A→VRs w.params g ρ args vs→Tri prog w clo hb A g f ρ m (call (.ref fn) vs) (VRp w))
    (e:m ⟨pre,nx,dirs⟩=some (res,σ',c)) (hc:allP c) (hn:∀ p∈pre,p.1<nx) (hp:∀ p∈post,lkC σ'.cells p.1=some p.2) (nd:(post.map (·.1)).Nodup) :
    Con prog w clo hb ⟨fn,dep,args,pre,post,res⟩:=by
  intro A g f ρ vs s r hρ hB hv R
  have R0:RelS prog w clo hb ⟨pre,nx,dirs⟩ g f ρ s:=⟨R,fun i hi=>hρ i fun q=>by
    obtain ⟨p,hp,rfl⟩:=List.mem_map.mp q
    have hi:nx≤p.1:=hi
    exact absurd (hn p hp) (Nat.not_lt.mpr hi),hB⟩
  refine wpAny_mono (T A g f ρ vs r hv _ res σ' c e hc s R0) (fun v s' x => ?_) fun _ _ z=>z
  obtain ⟨g',f',ρ',E,R',V⟩:=x
  obtain ⟨junk,hj⟩:=sel_of (cells:=σ'.cells) nd hp
  exact ⟨g',f',ρ',E,(R'.r.perm hj).less (List.sublist_append_left _ _),V,R'.b0.2.1.trans hB.2.1.symm,R'.b0.2.2.trans hB.2.2.symm⟩
theorem con_run (H:Hyp0 prog w hb mg mb) {orc:Orc}(O:SndO prog w clo hb orc) {n fn d nx:Nat}{i:FnI}(hf:lkC theTab.fn fn=some i) {args:List TV}{pre post:List Ent}{dirs:List Nat}{res:TV}{σ':St}{c:List Prop}
    (e:fnF (evo orc n) d i args ⟨pre,nx,dirs⟩=some (res,σ',c)) (hc:allP c) (hn:∀ p∈pre,p.1<nx) (hp:∀ p∈post,lkC σ'.cells p.1=some p.2) (nd:(post.map (·.1)).Nodup) :
    Con prog w clo hb ⟨fn,d+1,args,pre,post,res⟩ :=
  con_of_m (m:=fnF (evo orc n) d i args) (fun A g f ρ vs r hv=>H.fn O hf r hv) e hc hn hp nd
def frzS (t:TV):M TV:=match t with
  | .ref j=>(getC j).bd fun c=>match c with
    | .lst xs=>(dropC j).bd fun _=>.ret (.lst xs)
    | _=>.ret (.ref j)
  | t=>.ret t
theorem frzS_own {t:TV}{v:Value}{g f:PH}{σ:St}(h:VR w.params g ρ t v) (R:RelS prog w clo hb σ g f ρ s):Own prog w clo hb (frzS t) (VRp w) v g f ρ s σ:=by
  intro a σ' c e
  have dflt:∀ {t:TV},VR w.params g ρ t v→(M.ret t:M TV) σ=some (a,σ',c)→∃ g' f',Ext g f ρ g' f' ρ∧RelS prog w clo hb σ' g' f' ρ s∧VRp w g' ρ a v:=fun h e=>by
    cases e; exact ⟨g,f,Ext.refl,R,h⟩
  unfold frzS at e
  cases h with
  | @ref j b d hj =>
    obtain ⟨x,hx,e⟩:=getC_inv e
    cases x with
    | lst xs =>
      have e:=dropC_inv e
      cases e
      obtain ⟨vs,k,o1,o2,_⟩:=R.cell hx hj
      obtain ⟨R2,E2⟩:=R.r.freeze1 hx hj o1
      exact ⟨_,_,E2,⟨R2,R.n,R.b0.up E2.gl⟩,.lst PH.add_self (VRs.mono E2.gl E2.rl o2)⟩
    | _=>exact dflt (.ref hj) e
  | none=>exact dflt .none e
  | bool=>exact dflt .bool e
  | sym=>exact dflt .sym e
  | int=>exact dflt .int e
  | sint=>exact dflt .sint e
  | str=>exact dflt .str e
  | type=>exact dflt .type e
  | bi=>exact dflt .bi e
  | raw=>exact dflt .raw e
  | tup h1 h2=>exact dflt (.tup h1 h2) e
  | lst h1 h2=>exact dflt (.lst h1 h2) e
  | ins h1 h2 h3=>exact dflt (.ins h1 h2 h3) e
def frzB (i:Nat):M Unit:=(getC i).bd fun c=>match c with
  | .lst (t::_)=>(frzS t).bd fun t'=>(getC i).bd fun c'=>match c' with
    | .lst (_::r)=>putC i (.lst (t'::r))
    | _=>.fail
  | _=>.fail
def finB (t:TV):M TV:=(frzB 1).bd fun _=>frzT 6 t
theorem frzB_own {i:Nat}{g f:PH}{σ:St}(R:RelS prog w clo hb σ g f ρ s):Own prog w clo hb (frzB i) (fun _ _ _ _=>True) () g f ρ s σ:=by
  intro a σ' c e
  obtain ⟨x,hx,e⟩:=getC_inv e
  cases x with
  | lst xs =>
    cases xs with
    | nil=>cases e
    | cons t r =>
      obtain ⟨t',σ1,c1,c2,e1,e2,rfl⟩:=M.bd_some e
      obtain ⟨y,hy,e2⟩:=getC_inv e2
      obtain ⟨b,d,hi,z⟩:=R.there hx
      obtain ⟨vs,n,o1,o2,o3⟩:=z
      generalize hl:vs.toList=l at o2
      cases o2 with
      | @cons _ v _ vl p q =>
        obtain ⟨g1,f1,E1,R1,V1⟩:=frzS_own p R t' σ1 c1 e1
        cases y with
        | lst ys =>
          cases ys with
          | nil=>cases e2
          | cons t0 r0 =>
            have e2:putC i (.lst (t'::r0)) σ1=some (a,σ',c2):=e2
            cases e2
            obtain ⟨b',d',hi',z'⟩:=R1.there hy
            rw [E1.rl _ _ hi] at hi'
            cases hi'
            obtain ⟨vs',n',p1,p2,p3⟩:=z'
            rw [o1] at p1
            cases p1
            rw [hl] at p2
            cases p2 with
            | cons _ q2 =>
              refine ⟨g1,f1,E1,R1.put hy hi rfl (.inl rfl) (fun _ _ _ e=>e) ⟨vs,n,o1,?_,o3⟩,trivial⟩
              rw [hl]
              exact .cons V1 q2
        | _=>cases e2
  | _=>cases e
theorem Tri.finB {m:M TV}{t:Sem Value}(h:Tri prog w clo hb A g f ρ m t (VRp w)):Tri prog w clo hb A g f ρ (m.bd finB) t (VRp w):=by
  intro σ a σ' c e hc s R
  obtain ⟨x,σ1,c1,c2,e1,e2,hc1,hc2⟩:=bd_inv e hc
  refine wpAny_mono (h σ x σ1 c1 e1 hc1 s R) (fun v s' z => ?_) fun _ _ z=>z
  obtain ⟨g1,f1,ρ1,E1,R1,V1⟩:=z
  obtain ⟨u,σ2,c3,c4,e3,e4,hc3,hc4⟩:=bd_inv e2 hc2
  obtain ⟨g2,f2,E2,R2,_⟩:=frzB_own R1 u σ2 c3 e3
  obtain ⟨g3,f3,E3,R3,V3⟩:=frzT_own 6 (VR.mono E2.gl E2.rl V1) R2 a σ' c4 e4
  exact ⟨g3,f3,ρ1,E1.trans (E2.trans E3),R3,V3⟩
theorem con_runB (H:Hyp0 prog w hb mg mb) {orc:Orc}(O:SndO prog w clo hb orc) {n fn d nx:Nat}{i:FnI}(hf:lkC theTab.fn fn=some i) {args:List TV}{pre post:List Ent}{dirs:List Nat}{res:TV}{σ':St}{c:List Prop}
    (e:((fnF (evo orc n) d i args).bd finB) ⟨pre,nx,dirs⟩=some (res,σ',c)) (hc:allP c) (hn:∀ p∈pre,p.1<nx) (hp:∀ p∈post,lkC σ'.cells p.1=some p.2) (nd:(post.map (·.1)).Nodup) :
    Con prog w clo hb ⟨fn,d+1,args,pre,post,res⟩ :=
  con_of_m (m:=(fnF (evo orc n) d i args).bd finB) (fun A g f ρ vs r hv=>(H.fn O hf r hv).finB) e hc hn hp nd
theorem Con.deeper {e:EntC}{d:Nat}(h:Con prog w clo hb e) (hd:e.dep≤d):Con prog w clo hb ⟨e.fn,d,e.args,e.pre,e.post,e.res⟩:=fun A g f ρ vs s r=>h A g f ρ vs s (r.le hd)
abbrev AllC (prog:Program) (w:World) (hb:HB) (t:List EntC):Prop:=∀ e∈t,EntOk e∧Con prog w clo hb e
theorem sndO_nil:SndO prog w clo hb []:=fun a m e=>nomatch (show (none:Option (Nat→List TV→M TV))=some m from e)
theorem sndO_cons {orc:Orc}{fn:Nat}{t:List EntC}(h:AllC prog w hb t) (O:SndO prog w clo hb orc):SndO prog w clo hb ((fn,entM t fn)::orc):=by
  intro a m e A d g f ρ ts vs r hv
  rw [lkC_cons] at e
  by_cases q:fn=a
  · rw [if_pos q] at e
    cases e
    subst q
    exact Tri.con h r hv
  · rw [if_neg (by exact q)] at e
    exact O a m e A d g f ρ ts vs r hv
end
end
structure Ph where
  b:B
  N:Nat
  eb:Bool
def Ph.d (p:Ph):Cell:=.dic p.N p.b.ct [(u "$!",oi p.b.la,true),(u "$e",oi p.b.er,p.eb)]
def Ph.c (p:Ph):List Ent:=[(1,.stk p.b.tr),(2,p.d)]
def Ph.s (p:Ph):List (Option Cell):=[some (.stk p.b.tr),some p.d]
def Ph.note (p:Ph) (t:TV):Ph:=⟨p.b.note t,p.N,p.eb⟩
def Ph.count (p:Ph) (n:Int):Ph:=⟨p.b.count n,p.N+1,p.eb⟩
def Ph.at_ (p:Ph) (t:List TV):Ph:=⟨⟨t,p.b.ct,p.b.la,p.b.er⟩,p.N,p.eb⟩
def Ph.enter (p:Ph) (t:List TV) (e:Int) (goal:Bool):Ph:=⟨(p.at_ t).b.enter e goal,if goal then p.N+1+1 else p.N+1,goal||p.eb⟩
def Ph.leave (q:Ph) (la:Option Int):Ph:=⟨q.b.leave la,q.N+1,q.eb⟩
def eW (Dc:Nat) (c r:TV) (p q:Ph):EntC:=⟨1191,Dc,[c,.ref 1,.ref 2],p.c,q.c,r⟩
def eR (Dr:Nat) (P r0 r:TV) (p q:Ph):EntC:=⟨1177,Dr,[P,r0,.ref 1,.ref 2],p.c,q.c,r⟩
def eA (Da:Nat) (q:TV) (e:Int) (t t':List TV) (r:TV):EntC:=⟨1170,Da,[q,.sint e,.ref 1],[(1,.stk t)],[(1,.stk t')],r⟩
def cW (m Dc:Nat) (c:TV) (p:Ph):List Prop:=[(1191:Nat)=1191∧Dc≤m∧[c,.ref 1,.ref 2]=[c,TV.ref 1,.ref 2],Cell.stk p.b.tr = .stk p.b.tr,p.d=p.d]
def cR (m Dr:Nat) (P r0:TV) (p:Ph):List Prop:=[(1177:Nat)=1177∧Dr≤m∧[P,r0,.ref 1,.ref 2]=[P,r0,TV.ref 1,.ref 2],Cell.stk p.b.tr = .stk p.b.tr,p.d=p.d]
def cA' (m Da:Nat) (q:TV) (e:Int) (t:List TV):List Prop:=[(1170:Nat)=1170∧Da≤m∧[q,.sint e,.ref 1]=[q,TV.sint e,.ref 1],Cell.stk t = .stk t]
def rnW (tw tr:List EntC) (D:Nat) (c:TV) (p:Ph) (dirs:List Nat):=seeW (runW iWalk tw tr (D+8) [c,.ref 1,.ref 2] p.c dirs)
def oks (k:String) (n:Nat):List Prop:=(["sym","ivar","self","begin","seq","if"].take n).map (ok2 k)
theorem w_sym (p:Ph) (D:Nat) (n:Int):rnW [] [] D (symT n) p []=some (resT (.val (some n)),(p.note (.sint n)).s,oks "sym" 1++[p.b.tr.length<szL]):=by kernel_rfl
theorem w_toss (p:Ph) (D:Nat) (n:Int):rnW [] [] D (ndT (u "ivar") (.tup [.sint n])) p []=some (resT (.raise n),p.s,oks "ivar" 2):=by kernel_rfl
theorem w_last (p:Ph) (D:Nat):rnW [] [] D (ndT (u "self") (.tup [])) p []=some (resT (.val none),(p.note (lastT p.b)).s,oks "self" 3++[p.b.tr.length<szL]):=by kernel_rfl
theorem w_re (p:Ph) (D:Nat) (n m:Int) (v:Bool):rnW [] [] D (reT n m) p [cond v 1 0]=some (resT (cond v .retry (.val none)),(p.count n).s,oks "if" 6++[p.N<szL,∃ v,(p.count n).b.ct n=some v,cond v (((p.count n).b.ct n).getD 0≤m) (¬ ((p.count n).b.ct n).getD 0≤m)]):=by
  cases v<;>kernel_rfl
theorem w_out0 (p:Ph) (D:Nat) (k:W3):rnW [] [] D (ndT (u k.k) (.tup [.none])) p []=some (resT (.out k none),p.s,oks k.k 6):=by
  cases k<;>kernel_rfl
theorem w_out1 (p q:Ph) (D Dc:Nat) (k:W3) (n:Int):rnW [eW Dc (symT n) (resT (.val (some n))) p q] [] D (ndT (u k.k) (.tup [symT n])) p [0]=some (resT (.out k (some n)),q.s,oks k.k 6++cW (D+7+1) Dc (symT n) p):=by
  cases k<;>kernel_rfl
def tabS (Dc:Nat) (c:TV) (r:Res) (q:Ph):Ph→List (TV×Option Int×Ph)→List EntC
  | p,[]=>[eW Dc c (resT r) p q]
  | p,(x,v,p')::vs=>eW Dc x (resT (.val v)) p p'::tabS Dc c r q p' vs
def cdsS (D Dc:Nat) (c:TV) (r:Res):Ph→List (TV×Option Int×Ph)→List Prop
  | p,[]=>cW (D+7+1) Dc c p++[ok2 r.s "value"]
  | p,(x,v,p')::vs=>cW (D+7+1) Dc x p++(ok2 "value" "value" :: cdsS D Dc c r p' vs)
theorem w_seq (p q:Ph) (D Dc:Nat) (vs:List (TV×Option Int×Ph)) (c:TV) (r:Res) (cs:List TV) (h:vs.length+cs.length≤2) (hv:r.isVal=false∨cs=[]) :
    rnW (tabS Dc c r q p vs) [] D (ndT (u "seq") (.tup [.lst (vs.map (·.1)++c::cs)])) p (match vs with
      | []=>[0]
      | [_]=>[0,1]
      | _=>[0,1,2])=some (resT r,q.s,oks "seq" 5++cdsS D Dc c r p vs):=by
  rcases vs with _ | ⟨⟨x1,v1,p1⟩,_ | ⟨⟨x2,v2,p2⟩,_ | ⟨_,vs⟩⟩⟩<;>rcases cs with _ | ⟨c1,_ | ⟨c2,_ | ⟨c3,cs⟩⟩⟩<;>simp only [List.length_cons,List.length_nil] at h<;>first
    | (exfalso; omega)
    | (rcases r with v | e | _ | ⟨_ | _ | _,v⟩<;>first
      | (rcases hv with hv | hv<;>cases hv; done)
      | kernel_rfl)
def askB:List Cn→List Bool→List Cn×Pk
  | .k9::_,_=>([.k9],.bad)
  | .k7::_,_=>([.k7],.hit)
  | c::_,true::_=>([c],.hit)
  | c::r,false::bs=>let (a,p):=askB r bs; (c::a,p)
  | _,_=>([],.no)
def askD:List Cn→List Bool→List Nat
  | .k9::_,_=>[]
  | .k7::_,_=>[]
  | _::_,true::_=>[1]
  | _::r,false::bs=>0::askD r bs
  | _,_=>[]
def askC (e:Int):List TV→List Cn→List Bool→List Prop
  | t,.k9::_,_=>[t.length<szL]
  | t,.k7::_,_=>[t.length<szL]
  | t,c::_,true::_=>[t.length<szL,(3:Int)≠0,e.fmod 3=c.i]
  | t,c::r,false::bs=>(t.length<szL)::((3:Int)≠0)::(¬ e.fmod 3=c.i)::askC e (askT e c::t) r bs
  | _,_,_=>[]
def askS (e:Int):List TV→List Cn→List TV
  | t,[]=>t
  | t,c::r=>askS e (askT e c::t) r
def Pk.tv:Pk→TV
  | .no=>.bool false
  | .bad=>.none
  | .hit=>.bool true
def Cl.l:Cl→List Cn
  | .c0=>[]
  | .c1 a=>[a]
  | .c2 a b=>[a,b]
def seeW1 (r:Option (TV×St×List Prop)):Option (TV×List (Option Cell)×List Prop):=match r with
  | some (t,σ,c)=>some (t,[lkC σ.cells 1],c)
  | none=>none
def rnA (D:Nat) (q:TV) (e:Int) (t:List TV) (dirs:List Nat):=seeW1 (runW iAsks [] [] (D+8) [q,.sint e,.ref 1] [(1,.stk t)] dirs)
theorem w_asks (cl:Cl) (g b:TV) (e:Int) (t:List TV) (D:Nat) (b1 b2:Bool):rnA D (.tup [.lst (clT' cl),g,b]) e t (askD cl.asked [b1,b2]) =
    some ((askB cl.asked [b1,b2]).2.tv,[some (.stk (askS e t (askB cl.asked [b1,b2]).1))],okTs (cl.l.map fun c=>.int c.i)::askC e t cl.asked [b1,b2]):=by
  rcases cl with _ | c | ⟨c,c'⟩
  · kernel_rfl
  · cases c<;>cases b1<;>kernel_rfl
  · cases c with
    | k7=>kernel_rfl
    | k9=>kernel_rfl
    | k0=>cases b1 with
      | true=>kernel_rfl
      | false=>cases c'<;>cases b2<;>kernel_rfl
    | k1=>cases b1 with
      | true=>kernel_rfl
      | false=>cases c'<;>cases b2<;>kernel_rfl
    | k2=>cases b1 with
      | true=>kernel_rfl
      | false=>cases c'<;>cases b2<;>kernel_rfl
inductive RF
  | no
  | bad (q:TV) (t:List TV) (more:List TV)
  | hit (cl:TV) (goal:Bool) (b:TV) (t:List TV) (more:List TV) (q:Ph) (r:TV)
def RF.l:RF→List TV
  | .no=>[]
  | .bad q _ more=>q::more
  | .hit cl goal b _ more _ _=>.tup [cl,gT goal,b]::more
def tabA (Da:Nat) (e:Int) (fi:RF):List TV→List (TV×List TV)→List EntC
  | t,(q,t')::ms=>eA Da q e t t' (.bool false)::tabA Da e fi t' ms
  | t,[]=>match fi with
    | .no=>[]
    | .bad q t' _=>[eA Da q e t t' .none]
    | .hit cl goal b t' _ _ _=>[eA Da (.tup [cl,gT goal,b]) e t t' (.bool true)]
def cdsA (D Da Dw:Nat) (e:Int) (p:Ph) (fi:RF):List TV→List (TV×List TV)→List Prop
  | t,(q,t')::ms=>cA' (D+7+1) Da q e t++cdsA D Da Dw e p fi t' ms
  | t,[]=>match fi with
    | .no=>[]
    | .bad q t' _=>cA' (D+7+1) Da q e t
    | .hit cl goal b t' _ q _=>cA' (D+7+1) Da (.tup [cl,gT goal,b]) e t++(((p.N<szL)::cond goal [p.N+1<szL] [])++(cW (D+7+1) Dw b (p.enter t' e goal)++[q.N<szL]))
def tabW (Dw:Nat) (e:Int) (p:Ph):RF→List EntC
  | .hit cl goal b t' _ q r=>[eW Dw b r (p.enter t' e goal) q]
  | _=>[]
def lastA:List TV→List (TV×List TV)→List TV
  | t,[]=>t
  | _,(_,t')::ms=>lastA t' ms
def outA (e:Int) (p:Ph) (ms:List (TV×List TV)):RF→TV×Ph
  | .no=>(resT (.raise e),p.at_ (lastA p.b.tr ms))
  | .bad _ t _=>(.tup [.str (u "raise"),.int 5],p.at_ t)
  | .hit _ _ _ _ _ q r=>(r,q.leave p.b.la)
def dirA (ms:List (TV×List TV)) (fi:RF):List Nat :=
  (match ms with
    | []=>[]
    | [_]=>[0]
    | _=>[0,1])++match fi with
    | .no=>[]
    | .bad .. => [ms.length]
    | .hit .. => [ms.length,0]
def orcR (tw ta:List EntC):Orc:=[(1191,entM tw 1191),(1170,entM ta 1170)]
def runR (i:FnI) (tw ta:List EntC) (d:Nat) (args:List TV) (cells:List Ent) (dirs:List Nat):Option (TV×St×List Prop):=fnF (evo (orcR tw ta) 120) d i args ⟨cells,10,dirs⟩
def prt (bd:TV) (rs:List TV) (o l:TV):TV:=.tup [bd,.lst rs,o,l]
def rnR (tw ta:List EntC) (D:Nat) (P:TV) (e:Int) (p:Ph) (dirs:List Nat):=seeW (runR iRescued tw ta (D+8) [P,resT (.raise e),.ref 1,.ref 2] p.c dirs)
theorem w_resc (D Da Dw:Nat) (bd o l:TV) (e:Int) (p:Ph) (ms:List (TV×List TV)) (fi:RF) (h:ms.length+fi.l.length≤2) :
    rnR (tabW Dw e p fi) (tabA Da e fi p.b.tr ms) D (prt bd (ms.map (·.1)++fi.l) o l) e p (dirA ms fi)=some ((outA e p ms fi).1,(outA e p ms fi).2.s,cdsA D Da Dw e p fi p.b.tr ms):=by
  rcases ms with _ | ⟨⟨q1,t1⟩,_ | ⟨⟨q2,t2⟩,_ | ⟨_,ms⟩⟩⟩<;>rcases fi with _ | ⟨q,t,_ | ⟨m1,_ | ⟨_,more⟩⟩⟩ | ⟨cl,_ | _,b,t,_ | ⟨m1,_ | ⟨_,more⟩⟩,q,r⟩<;>simp only [RF.l,List.length_cons,List.length_nil] at h<;>first
    | (exfalso; omega)
    | kernel_rfl
inductive Fi
  | v0 (v:Option Int) (q:Ph)
  | v1 (v:Option Int) (q:Ph) (k:Str) (po:TV) (r:TV) (q':Ph)
  | x (r:Res) (q:Ph) (o:TV)
  | rr (e:Int) (q:Ph) (r:Res) (q':Ph) (o:TV)
def Fi.ok:Fi→Prop
  | .x r _ _=>r.isVal=false∧r.isRaise=false
  | .rr _ _ r _ _=>r.isRetry=false
  | _=>True
def Fi.o:Fi→TV
  | .v0 .. => .none
  | .v1 _ _ k po _ _=>ndT k po
  | .x _ _ o=>o
  | .rr _ _ _ _ o=>o
def Fi.r:Fi→TV
  | .v0 v _=>resT (.val v)
  | .v1 _ _ _ _ r _=>r
  | .x r _ _=>resT r
  | .rr _ _ r _ _=>resT r
def Fi.q:Fi→Ph
  | .v0 _ q=>q
  | .v1 _ _ _ _ _ q=>q
  | .x _ q _=>q
  | .rr _ _ _ q _=>q
inductive La
  | no
  | yes (k:Str) (pl:TV) (r:Res) (q:Ph)
def La.l:La→TV
  | .no=>.none
  | .yes k pl _ _=>ndT k pl
abbrev Pss:=List (Int×Ph×Ph)
def lastP:Ph→Pss→Ph
  | p,[]=>p
  | _,(_,_,q)::ps=>lastP q ps
def twT (Dc:Nat) (bd:TV) (fi:Fi) (la:La):Ph→Pss→List EntC
  | p,(e,p1,p2)::ps=>eW Dc bd (resT (.raise e)) p p1::twT Dc bd fi la p2 ps
  | p,[]=>(match fi with
    | .v0 v q=>[eW Dc bd (resT (.val v)) p q]
    | .v1 v q k po r q'=>[eW Dc bd (resT (.val v)) p q,eW Dc (ndT k po) r q q']
    | .x r q _=>[eW Dc bd (resT r) p q]
    | .rr e q _ _ _=>[eW Dc bd (resT (.raise e)) p q])++match la with
    | .no=>[]
    | .yes k pl r q=>[eW Dc (ndT k pl) (resT r) fi.q q]
def trT (Dr:Nat) (P:TV) (fi:Fi):Pss→List EntC
  | (e,p1,p2)::ps=>eR Dr P (resT (.raise e)) (resT .retry) p1 p2::trT Dr P fi ps
  | []=>match fi with
    | .rr e q r q' _=>[eR Dr P (resT (.raise e)) (resT r) q q']
    | _=>[]
def cdT (D Dc Dr:Nat) (bd P:TV) (fi:Fi) (la:La):Ph→Pss→List Prop
  | p,(e,p1,p2)::ps=>cW (D+6+1) Dc bd p++(ok2 "raise" "raise" :: (cR (D+6+1) Dr P (resT (.raise e)) p1++(ok2 "retry" "retry" :: cdT D Dc Dr bd P fi la p2 ps)))
  | p,[]=>(match fi with
    | .v0 v q=>cW (D+6+1) Dc bd p++[ok2 "value" "raise",ok2 "value" "retry",ok2 "value" "value",ok2 "value" "retry"]
    | .v1 v q k po r q'=>cW (D+6+1) Dc bd p++([ok2 "value" "raise",ok2 "value" "retry",ok2 "value" "value"]++cW (D+6+1) Dc (ndT k po) q)
    | .x r q _=>cW (D+6+1) Dc bd p++([ok2 r.s "raise",ok2 r.s "retry"]++cond r.isRetry [] [ok2 r.s "value",ok2 r.s "retry"])
    | .rr e q r q' _=>cW (D+6+1) Dc bd p++(ok2 "raise" "raise" :: (cR (D+6+1) Dr P (resT (.raise e)) q++[ok2 r.s "retry"])))++match la with
    | .no=>[]
    | .yes k pl r q=>cW (D+6+1) Dc (ndT k pl) fi.q++[ok2 r.s "value"]
def drT (fi:Fi) (la:La) (n:Nat):List Nat :=
  (match n with
    | 0=>[]
    | 1=>[0,0]
    | _=>[0,0,1,1])++((match fi with
    | .v0 .. => [n]
    | .v1 .. => [n,n+1]
    | .x .. => [n]
    | .rr .. => [n,n])++match la with
    | .no=>[]
    | .yes .. => (match fi with
      | .v1 .. => [n+2]
      | _=>[n+1]))
def La.r (r0:TV):La→TV
  | .no=>r0
  | .yes _ _ r _=>match r.isVal with
    | true=>r0
    | false=>resT r
def La.q (q0:Ph):La→Ph
  | .no=>q0
  | .yes _ _ _ q=>q
theorem w_begin (D Dc Dr:Nat) (bd:TV) (rs:List TV) (p:Ph) (fi:Fi) (la:La) (ps:Pss) (h:ps.length≤2) (hf:fi.ok) :
    rnW (twT Dc bd fi la p ps) (trT Dr (prt bd rs fi.o la.l) fi ps) D (ndT (u "begin") (prt bd rs fi.o la.l)) p (drT fi la ps.length) =
      some (la.r fi.r,(la.q fi.q).s,oks "begin" 4++(ok2 "retry" "retry" :: cdT D Dc Dr bd (prt bd rs fi.o la.l) fi la p ps)):=by
  rcases ps with _ | ⟨⟨e1,p1,p2⟩,_ | ⟨⟨e2,p3,p4⟩,_ | ⟨_,ps⟩⟩⟩<;>simp only [List.length_cons,List.length_nil] at h<;>first
    | (exfalso; omega)
    | (rcases la with _ | ⟨k,pl,v | e | _ | ⟨_ | _ | _,v⟩,ql⟩<;>rcases fi with ⟨v',q⟩ | ⟨v',q,k',po,r',q'⟩ | ⟨v'' | e'' | _ | ⟨_ | _ | _,v''⟩,q,o⟩ | ⟨e',q,v'' | e'' | _ | ⟨_ | _ | _,v''⟩,q',o⟩<;>first
      | (cases hf; done)
      | (obtain ⟨hf1,hf2⟩:=hf; first | (cases hf1; done) | (cases hf2; done))
      | kernel_rfl)
section
theorem okT_of {s:String}(h:SeqAt.shaped (.str (u s))=true):okT (.str (u s)):=⟨_,rfl,h⟩
theorem ok_sym:okT (.str (u "sym")):=okT_of (by kernel_rfl)
theorem ok_ivar:okT (.str (u "ivar")):=okT_of (by kernel_rfl)
theorem ok_self:okT (.str (u "self")):=okT_of (by kernel_rfl)
theorem ok_begin:okT (.str (u "begin")):=okT_of (by kernel_rfl)
theorem ok_seq:okT (.str (u "seq")):=okT_of (by kernel_rfl)
theorem ok_if:okT (.str (u "if")):=okT_of (by kernel_rfl)
theorem okR (r:Res):okT (.str (u r.s)):=by
  rcases r with v | e | _ | ⟨_ | _ | _,v⟩
  · exact okw_value
  · exact okw_raise
  · exact okw_retry
  · exact okw_break
  · exact okw_next
  · exact okw_return
theorem okW (k:W3):okT (.str (u k.k)):=by
  cases k
  · exact okw_break
  · exact okw_next
  · exact okw_return
theorem oks_ok {k:String}(h:okT (.str (u k))) (n:Nat):allP (oks k n):=by
  have key:∀ l:List String,(∀ x∈l,okT (.str (u x)))→allP (l.map (ok2 k)):=by
    intro l
    induction l with
    | nil=>intro _; exact trivial
    | cons x l ih=>intro hl; exact ⟨⟨h,hl x (.head _)⟩,ih fun y hy=>hl y (.tail _ hy)⟩
  refine key _ fun x hx => ?_
  have hx:=List.mem_of_mem_take hx
  simp only [List.mem_cons,List.not_mem_nil,or_false] at hx
  rcases hx with rfl | rfl | rfl | rfl | rfl | rfl
  · exact ok_sym
  · exact ok_ivar
  · exact ok_self
  · exact ok_begin
  · exact ok_seq
  · exact ok_if
theorem resT_nr (r:Res):nr (resT r):=⟨trivial,r.v_nr,trivial⟩
abbrev nrs (l:List TV):Prop:=∀ t∈l,nr t
theorem nrs_cons {t:TV}{l:List TV}(h:nr t) (h':nrs l):nrs (t::l):=fun x hx=>by
  rcases List.mem_cons.mp hx with rfl | hx
  · exact h
  · exact h' x hx
abbrev NrP (p:Ph):Prop:=nrs p.b.tr
theorem Ph.c_cl {p:Ph}{S:List Nat}(h:NrP p):∀ e∈p.c,clC S e.2:=by
  intro e he
  have he:e∈[(1,Cell.stk p.b.tr),(2,p.d)]:=he
  simp only [List.mem_cons,List.not_mem_nil,or_false] at he
  rcases he with rfl | rfl
  · exact nrs.cl h
  · intro x t b hl
    have:=lkF_mem hl
    simp only [List.mem_cons,List.not_mem_nil,or_false,Prod.mk.injEq] at this
    rcases this with ⟨_,rfl,_⟩ | ⟨_,rfl,_⟩<;>exact (oi_nr _).cl
theorem ph_ent {fn d:Nat}{args:List TV}{r:TV}{p q:Ph}(ha:∀ t∈args,nr t∨t = .ref 1∨t = .ref 2) (hp:NrP p) (hq:NrP q) (hr:nr r):EntOk ⟨fn,d,args,p.c,q.c,r⟩ where
  same:=rfl
  nd:=show [1,2].Nodup by decide
  args:=clTs_mem.mpr fun t ht=>by
    rcases ha t ht with h | rfl | rfl
    · exact h.cl
    · exact .head _
    · exact .tail _ (.head _)
  pre:=p.c_cl hp
  post:=q.c_cl hq
  res:=hr.cl
theorem eW_ok {d:Nat}{c r:TV}{p q:Ph}(hc:nr c) (hp:NrP p) (hq:NrP q) (hr:nr r):EntOk (eW d c r p q):=ph_ent (fun t ht=>by
  simp only [List.mem_cons,List.not_mem_nil,or_false] at ht
  rcases ht with rfl | rfl | rfl
  · exact .inl hc
  · exact .inr (.inl rfl)
  · exact .inr (.inr rfl)) hp hq hr
theorem eR_ok {d:Nat}{P r0 r:TV}{p q:Ph}(hP:nr P) (h0:nr r0) (hp:NrP p) (hq:NrP q) (hr:nr r):EntOk (eR d P r0 r p q):=ph_ent (fun t ht=>by
  simp only [List.mem_cons,List.not_mem_nil,or_false] at ht
  rcases ht with rfl | rfl | rfl | rfl
  · exact .inl hP
  · exact .inl h0
  · exact .inr (.inl rfl)
  · exact .inr (.inr rfl)) hp hq hr
theorem eA_ok {d:Nat}{q:TV}{e:Int}{t t':List TV}{r:TV}(hq:nr q) (h:nrs t) (h':nrs t') (hr:nr r):EntOk (eA d q e t t' r) where
  same:=rfl
  nd:=show [1].Nodup by decide
  args:=⟨hq.cl,trivial,.head _,trivial⟩
  pre:=fun e he=>by
    have he:e∈[(1,Cell.stk t)]:=he
    rw [List.mem_singleton] at he; subst he; exact nrs.cl h
  post:=fun e he=>by
    have he:e∈[(1,Cell.stk t')]:=he
    rw [List.mem_singleton] at he; subst he; exact nrs.cl h'
  res:=hr.cl
section
variable {prog:Program}{w:World}{hb:HB}{mg mb:Str→Option Value}
variable (prog w hb) in
abbrev CW (d:Nat) (c r:TV) (p q:Ph):Prop:=Con prog w clo hb (eW d c r p q)
variable (prog w hb) in
abbrev CR (d:Nat) (P r0 r:TV) (p q:Ph):Prop:=Con prog w clo hb (eR d P r0 r p q)
variable (prog w hb) in
def Ent1 (e:EntC):Prop:=EntOk e∧Con prog w clo hb e
theorem all_nil:AllC prog w hb []:=fun _ h=>nomatch h
theorem all_cons {e:EntC}{l:List EntC}(h:Ent1 prog w hb e) (h':AllC prog w hb l):AllC prog w hb (e::l):=fun x hx=>by
  rcases List.mem_cons.mp hx with rfl | hx
  · exact h
  · exact h' x hx
theorem all_app {l l':List EntC}(h:AllC prog w hb l) (h':AllC prog w hb l'):AllC prog w hb (l++l'):=fun x hx=>(List.mem_append.mp hx).elim (h x) (h' x)
theorem seeW_at {r:Option (TV×St×List Prop)}{t:TV}{q:Ph}{c:List Prop}(h:seeW r=some (t,q.s,c)):∃ σ',r=some (t,σ',c) ∧ ∀ e∈q.c,lkC σ'.cells e.1=some e.2:=by
  unfold seeW at h
  split at h
  · rename_i t' σ c'
    simp only [Option.some.injEq,Prod.mk.injEq] at h
    obtain ⟨rfl,h2,rfl⟩:=h
    have h2:[lkC σ.cells 1,lkC σ.cells 2]=[some (.stk q.b.tr),some q.d]:=h2
    simp only [List.cons.injEq,and_true] at h2
    refine ⟨σ,rfl,fun e he => ?_⟩
    have he:e∈[(1,Cell.stk q.b.tr),(2,q.d)]:=he
    simp only [List.mem_cons,List.not_mem_nil,or_false] at he
    rcases he with rfl | rfl
    · exact h2.1
    · exact h2.2
  · cases h
theorem Ph.lt (p:Ph):∀ e∈p.c,e.1<10:=fun e he=>by
  have he:e∈[(1,Cell.stk p.b.tr),(2,p.d)]:=he
  simp only [List.mem_cons,List.not_mem_nil,or_false] at he
  rcases he with rfl | rfl
  · exact (by decide:1<10)
  · exact (by decide:2<10)
theorem Ph.nd (q:Ph):(q.c.map (·.1)).Nodup:=show [1,2].Nodup by decide
theorem Con.res_wk {e:EntC}{r':TV}(h:Con prog w clo hb e) (hr:∀ g ρ v,VR w.params g ρ e.res v→VR w.params g ρ r' v):Con prog w clo hb ⟨e.fn,e.dep,e.args,e.pre,e.post,r'⟩:=fun A g f ρ vs s r h1 h2 h3 h4 =>
  wpAny_mono (h A g f ρ vs s r h1 h2 h3 h4) (fun v s' x=>by
    obtain ⟨g',f',ρ',a,b,c,d⟩:=x
    exact ⟨g',f',ρ',a,b,hr _ _ _ c,d⟩) fun _ _ z=>z
variable (H:Hyp0 prog w hb mg mb)
include H
theorem con_W {tw tr:List EntC}{D:Nat}{c t:TV}{p q:Ph}{dirs:List Nat}{cds:List Prop}(e:rnW tw tr D c p dirs=some (t,q.s,cds)) (hc:allP cds) (h1:AllC prog w hb tw) (h2:AllC prog w hb tr) {d:Nat}(hd:D+9≤d):CW prog w hb d c t p q:=by
  obtain ⟨σ',e',h3⟩:=seeW_at e
  exact (con_run (fn:=1191) (i:=iWalk) H (sndO_cons h1 (sndO_cons h2 sndO_nil)) (by kernel_rfl) e' hc p.lt h3 q.nd).deeper hd
theorem con_R {tw ta:List EntC}{D:Nat}{P t:TV}{e0:Int}{p q:Ph}{dirs:List Nat}{cds:List Prop}(e:rnR tw ta D P e0 p dirs=some (t,q.s,cds)) (hc:allP cds) (h1:AllC prog w hb tw) (h2:AllC prog w hb ta) {d:Nat}(hd:D+9≤d):CR prog w hb d P (resT (.raise e0)) t p q:=by
  obtain ⟨σ',e',h3⟩:=seeW_at e
  exact (con_run (fn:=1177) (i:=iRescued) H (sndO_cons h1 (sndO_cons h2 sndO_nil)) (by kernel_rfl) e' hc p.lt h3 q.nd).deeper hd
theorem c_sym {p:Ph}{n:Int}(h:p.b.tr.length<szL) {d:Nat}(hd:9≤d):CW prog w hb d (symT n) (resT (.val (some n))) p (p.note (.sint n)) :=
  con_W H (w_sym p 0 n) (allP_append.mpr ⟨oks_ok ok_sym 1,h,trivial⟩) all_nil all_nil hd
theorem c_toss {p:Ph}{n:Int}{d:Nat}(hd:9≤d):CW prog w hb d (It.toss n).tv (resT (.raise n)) p p:=by
  rw [It.tv]; exact con_W H (w_toss p 0 n) (oks_ok ok_ivar 2) all_nil all_nil hd
theorem c_last {p:Ph}(h:p.b.tr.length<szL) {d:Nat}(hd:9≤d):CW prog w hb d It.last.tv (resT (.val none)) p (p.note (lastT p.b)):=by
  rw [It.tv]; exact con_W H (w_last p 0) (allP_append.mpr ⟨oks_ok ok_self 3,h,trivial⟩) all_nil all_nil hd
theorem c_out0 {p:Ph}{k:W3}{d:Nat}(hd:9≤d):CW prog w hb d (It.out k none).tv (resT (.out k none)) p p:=by
  rw [It.tv]; exact con_W H (w_out0 p 0 k) (oks_ok (okW k) 6) all_nil all_nil hd
theorem c_out1 {p:Ph}{k:W3}{n:Int}(h:p.b.tr.length<szL) (hp:NrP p) {d:Nat}(hd:10≤d):CW prog w hb d (It.out k (some n)).tv (resT (.out k (some n))) p (p.note (.sint n)):=by
  rw [It.tv]
  exact con_W H (w_out1 p (p.note (.sint n)) 1 9 k n) (allP_append.mpr ⟨oks_ok (okW k) 6,⟨rfl,by omega,rfl⟩,rfl,rfl,trivial⟩) (all_cons ⟨eW_ok (symT_nr n) hp (nrs_cons trivial hp) (resT_nr _),c_sym H h (Nat.le_refl 9)⟩ all_nil) all_nil hd
theorem c_re {p:Ph}{n m:Int}(v:Bool) (h:p.N<szL) (hv:cond v (p.b.cnt n≤m) (¬ p.b.cnt n≤m)) {d:Nat}(hd:9≤d):CW prog w hb d (reT n m) (resT (cond v .retry (.val none))) p (p.count n):=by
  have hct:(p.count n).b.ct n=some (p.b.cnt n):=if_pos rfl
  refine con_W H (w_re p 0 n m v) (allP_append.mpr ⟨oks_ok ok_if 6,h,⟨_,hct⟩,?_,trivial⟩) all_nil all_nil hd
  rw [hct]; exact hv
end
end
section
section
variable {prog:Program}{w:World}{hb:HB}{mg mb:Str→Option Value}
theorem cW_ok {m d:Nat}{c:TV}{p:Ph}(h:d≤m):allP (cW m d c p):=⟨⟨rfl,h,rfl⟩,rfl,rfl,trivial⟩
theorem cR_ok {m d:Nat}{P r0:TV}{p:Ph}(h:d≤m):allP (cR m d P r0 p):=⟨⟨rfl,h,rfl⟩,rfl,rfl,trivial⟩
theorem cA_ok' {m d:Nat}{q:TV}{e:Int}{t:List TV}(h:d≤m):allP (cA' m d q e t):=⟨⟨rfl,h,rfl⟩,rfl,trivial⟩
variable (prog w hb) in
inductive SeqT (m:Nat):List Ch→Option Int→Ph→Res→Ph→Prop
  | nil {v p}:SeqT m [] v p (.val v) p
  | stop {c cs v p r q}:CW prog w hb m c.tv (resT r) p q→NrP q→r.isVal=false→SeqT m (c::cs) v p r q
  | go {c cs v v0 p q r s}:CW prog w hb m c.tv (resT (.val v)) p q→NrP q→SeqT m cs v q r s→SeqT m (c::cs) v0 p r s
theorem SeqT.nr {m:Nat}{l:List Ch}{v:Option Int}{p q:Ph}{r:Res}(h:SeqT prog w hb m l v p r q) (hp:NrP p):NrP q:=by
  induction h with
  | nil=>exact hp
  | stop _ h _=>exact h
  | go _ h _ ih=>exact ih h
theorem SeqT.split {m:Nat}{l:List Ch}{v:Option Int}{p q:Ph}{r:Res}(h:SeqT prog w hb m l v p r q) (hl:l≠[]) (hp:NrP p):∃ (vs:List (TV×Option Int×Ph)) (c:TV) (cs:List TV),l.map Ch.tv=vs.map (·.1)++c::cs∧(r.isVal=false∨cs=[])∧AllC prog w hb (tabS m c r q p vs):=by
  induction h with
  | nil=>exact absurd rfl hl
  | @stop c cs v p r q h1 h2 h3=>exact ⟨[],c.tv,cs.map Ch.tv,rfl,.inl h3,all_cons ⟨eW_ok c.nr hp h2 (resT_nr r),h1⟩ all_nil⟩
  | @go c cs v v0 p q r s h1 h2 h3 ih =>
    cases cs with
    | nil =>
      cases h3
      exact ⟨[],c.tv,[],rfl,.inr rfl,all_cons ⟨eW_ok c.nr hp h2 (resT_nr _),h1⟩ all_nil⟩
    | cons c' cs =>
      obtain ⟨vs,x,xs,e1,e2,e3⟩:=ih (by simp) h2
      exact ⟨(c.tv,v,q)::vs,x,xs,by rw [List.map_cons,e1]; rfl,e2,all_cons ⟨eW_ok c.nr hp h2 (resT_nr _),h1⟩ e3⟩
theorem cdsS_ok {D m:Nat}{c:TV}{r:Res}(h:m≤D+8):∀ {vs:List (TV×Option Int×Ph)}{p:Ph},allP (cdsS D m c r p vs)
  | [],p=>allP_append.mpr ⟨cW_ok h,⟨okR r,okw_value⟩,trivial⟩
  | _::_,p=>allP_append.mpr ⟨cW_ok h,⟨okw_value,okw_value⟩,cdsS_ok h⟩
variable (H:Hyp0 prog w hb mg mb)
include H
theorem c_seq {m:Nat}{s:Sq}{p q:Ph}{r:Res}(h:SeqT prog w hb m s.ch none p r q) (hp:NrP p) (hm:8≤m):CW prog w hb (m+1) s.tv (resT r) p q:=by
  have hl:=s.ch_len
  obtain ⟨vs,c,cs,e1,e2,e3⟩:=h.split (by intro e; rw [e] at hl; simp at hl) hp
  have hlen:vs.length+cs.length≤2:=by
    have:=congrArg List.length e1
    rw [List.length_map,List.length_append,List.length_map,List.length_cons] at this
    omega
  rw [s.tv_ch,e1]
  exact con_W H (w_seq p q (m - 8) m vs c r cs hlen e2) (allP_append.mpr ⟨oks_ok ok_seq 5,cdsS_ok (by omega)⟩) e3 all_nil (by omega)
omit H
def Cl.bits (cl:Cl) (e:Int):Bool×Bool:=match cl with
  | .c0=>(true,false)
  | .c1 a=>(a.has e,false)
  | .c2 a b=>(a.has e,b.has e)
theorem askB_L (cl:Cl) (e:Int):askB cl.asked [(cl.bits e).1,(cl.bits e).2]=askL cl.asked e:=by
  rcases cl with _ | a | ⟨a,b⟩
  · rfl
  · cases a<;>simp only [Cl.asked,Cl.bits,askB,askL]<;>split<;>simp_all [askB,askL,Cn.has]
  · cases a<;>cases b<;>simp only [Cl.asked,Cl.bits]<;>simp only [askB,askL,Cn.has]<;>(repeat' split)<;>simp_all [askB,askL,Cn.has]
theorem has_iff {c:Cn}{e:Int}(h:c ≠ .k7):c.has e=true ↔ e.fmod 3=c.i:=by
  cases c<;>first | (exact absurd rfl h) | (simp [Cn.has])
theorem bits_al (cl:Cl) (e:Int):∃ j,[(cl.bits e).1,(cl.bits e).2]=cl.asked.map (·.has e)++j:=by
  rcases cl with _ | a | ⟨a,b⟩
  · exact ⟨[false],rfl⟩
  · exact ⟨[false],rfl⟩
  · exact ⟨[],rfl⟩
theorem askC_ok {e:Int}:∀ {l:List Cn}{bs:List Bool}{t:List TV},(∃ j,bs=l.map (·.has e)++j)→t.length+l.length≤szL→allP (askC e t l bs)
  | [],bs,t,_,_=>by rcases bs with _ | ⟨_,_⟩<;>exact trivial
  | c::r,bs,t,⟨j,hj⟩,hl=>by
    subst hj
    have h0:t.length<szL:=by rw [List.length_cons] at hl; omega
    have h1:(askT e c::t).length+r.length≤szL:=by rw [List.length_cons] at hl ⊢; omega
    have h3:(3:Int)≠0:=by decide
    have main:c ≠ .k7→c ≠ .k9→allP (askC e t (c::r) (c.has e::(r.map (·.has e)++j))):=fun q7 q9=>by
      have hi:=has_iff (c:=c) (e:=e) q7
      cases hh:c.has e with
      | true =>
        rw [hh] at hi
        have hi:=hi.mp rfl
        cases c<;>first | exact absurd rfl q7 | exact absurd rfl q9 | exact ⟨h0,h3,hi,trivial⟩
      | false =>
        have hn:¬ e.fmod 3=c.i:=fun q=>by rw [hi.mpr q] at hh; cases hh
        have ih:=askC_ok (l:=r) (bs:=r.map (·.has e)++j) (t:=askT e c::t) ⟨j,rfl⟩ h1
        cases c<;>first | exact absurd rfl q7 | exact absurd rfl q9 | exact ⟨h0,h3,hn,ih⟩
    by_cases q7:c = .k7
    · subst q7; exact ⟨h0,trivial⟩
    · by_cases q9:c = .k9
      · subst q9; exact ⟨h0,trivial⟩
      · exact main q7 q9
theorem okTs_cl (cl:Cl):okTs (cl.l.map fun c=>.int c.i):=by
  rcases cl with _ | c | ⟨c,c'⟩<;>exact ⟨_,rfl,by kernel_rfl⟩
theorem askT_nr (e:Int) (c:Cn):nr (askT e c):=⟨trivial,trivial,trivial,trivial,trivial⟩
theorem askS_nr {e:Int}:∀ {l:List Cn}{t:List TV},nrs t→nrs (askS e t l)
  | [],t,h=>h
  | c::r,t,h=>askS_nr (l:=r) (nrs_cons (askT_nr e c) h)
theorem askS_len {e:Int}:∀ {l:List Cn}{t:List TV},(askS e t l).length=t.length+l.length
  | [],t=>rfl
  | c::r,t=>by rw [askS,askS_len (l:=r),List.length_cons,List.length_cons]; omega
theorem askS_app {e:Int}:∀ {l l':List Cn}{t:List TV},askS e t (l++l')=askS e (askS e t l) l'
  | [],l',t=>rfl
  | c::r,l',t=>askS_app (l:=r)
theorem asks_tr (e:Int):∀ (a:List Cn) (b:B),b.asks e a=⟨askS e b.tr a,b.ct,b.la,b.er⟩
  | [],_=>rfl
  | c::a,b=>asks_tr e a (b.note (askT e c))
theorem Pk.nr (k:Pk):Nu.nr k.tv:=by cases k<;>exact trivial
include H
theorem c_asks {r:Rc}{e:Int}{t:List TV}(ht:nrs t) (hl:t.length+2≤szL):Ent1 prog w hb (eA 9 r.tv e t (askS e t (askL r.cl.asked e).1) (askL r.cl.asked e).2.tv):=by
  obtain ⟨cl,goal,bd⟩:=r
  have hr:=Rc.nr (.mk cl goal bd)
  refine ⟨eA_ok hr ht (askS_nr ht) (Pk.nr _),?_⟩
  rw [Rc.tv]
  have h0:=w_asks cl (gT goal) bd.tv e t 0 (cl.bits e).1 (cl.bits e).2
  rw [askB_L] at h0
  unfold rnA seeW1 at h0
  split at h0
  · rename_i t' σ c' h1
    simp only [Option.some.injEq,Prod.mk.injEq,List.cons.injEq,and_true] at h0
    obtain ⟨rfl,h2,rfl⟩:=h0
    refine con_run (fn:=1170) (i:=iAsks) H (sndO_cons all_nil (sndO_cons all_nil sndO_nil)) (by kernel_rfl) h1 ⟨okTs_cl cl,askC_ok (bits_al cl e) ?_⟩ (fun q hq => ?_) (fun q hq => ?_) (show [1].Nodup by decide)
    · have:=asked_len cl; omega
    · have hq:q∈[(1,Cell.stk t)]:=hq
      rw [List.mem_singleton] at hq; subst hq; exact (by decide:1<10)
    · have hq:q∈[(1,Cell.stk (askS e t (askL cl.asked e).1))]:=hq
      rw [List.mem_singleton] at hq; subst hq; exact h2
  · cases h0
omit H
end
end
section
section
variable {prog:Program}{w:World}{hb:HB}{mg mb:Str→Option Value}
theorem rc_tv (r:Rc):r.tv = .tup [.lst (clT' r.cl),gT r.goal,r.body.tv]:=by cases r; rw [Rc.tv]; rfl
variable (H:Hyp0 prog w hb mg mb)
include H
theorem pick_tab (e:Int):∀ (L:List Rc) (t:List TV) (a:List Cn) (pk:Pick),nrs t→t.length+2*L.length≤szL→pickL L e=(a,pk)→match pk with
    | .no=>∃ ms:List (TV×List TV),ms.map (·.1)=L.map Rc.tv∧AllC prog w hb (tabA 9 e .no t ms)∧lastA t ms=askS e t a
    | .bad=>∃ (ms:List (TV×List TV)) (q:TV) (more:List TV),ms.map (·.1)++q::more=L.map Rc.tv∧AllC prog w hb (tabA 9 e (.bad q (askS e t a) more) t ms)
    | .hit R=>∃ (ms:List (TV×List TV)) (more:List TV),ms.map (·.1)++R.tv::more=L.map Rc.tv∧R∈L ∧ ∀ q r,AllC prog w hb (tabA 9 e (.hit (.lst (clT' R.cl)) R.goal R.body.tv (askS e t a) more q r) t ms)
  | [],t,a,pk,ht,hl,h=>by
    cases h
    exact ⟨[],rfl,all_nil,rfl⟩
  | x::L,t,a,pk,ht,hl,h=>by
    have hl2:t.length+2*L.length+2≤szL:=by rw [List.length_cons] at hl; omega
    have hx:=c_asks H (r:=x) (e:=e) ht (by omega)
    rw [pickL] at h
    rcases hk:askL x.cl.asked e with ⟨ax,_ | _ | _⟩<;>rw [hk] at h hx
    · rcases hp:pickL L e with ⟨a',pk'⟩
      have h:(ax++(pickL L e).1,(pickL L e).2)=(a,pk):=h
      rw [hp] at h
      have h:(ax++a',pk')=(a,pk):=h
      cases h
      have hax:ax.length≤2:=by have:=askL_len x.cl.asked e; rw [hk] at this; exact Nat.le_trans this (asked_len _)
      have ih:=pick_tab e L (askS e t ax) a' pk (askS_nr ht) (by rw [askS_len]; omega) hp
      cases pk with
      | no =>
        obtain ⟨ms,e1,e2,e3⟩:=ih
        exact ⟨(x.tv,askS e t ax)::ms,by rw [List.map_cons,e1]; rfl,all_cons hx e2,by rw [askS_app]; exact e3⟩
      | bad =>
        obtain ⟨ms,q,more,e1,e2⟩:=ih
        exact ⟨(x.tv,askS e t ax)::ms,q,more,by rw [List.map_cons,List.cons_append,e1]; rfl,all_cons hx (by rw [askS_app]; exact e2)⟩
      | hit R =>
        obtain ⟨ms,more,e1,e2,e3⟩:=ih
        exact ⟨(x.tv,askS e t ax)::ms,more,by rw [List.map_cons,List.cons_append,e1]; rfl,.tail _ e2,fun q r=>all_cons hx (by rw [askS_app]; exact e3 q r)⟩
    · cases h
      exact ⟨[],x.tv,L.map Rc.tv,rfl,all_cons hx all_nil⟩
    · cases h
      refine ⟨[],L.map Rc.tv,rfl,.head _,fun q r=>all_cons ?_ all_nil⟩
      rw [← rc_tv]; exact hx
omit H
theorem cdsA_ok {D m:Nat}{e:Int}{p:Ph}{fi:RF}(h9:1≤D) (hm:m≤D+8) (hN:p.N+1<szL) (hq:∀ cl g b t more q r,fi = .hit cl g b t more q r→q.N<szL):∀ {ms:List (TV×List TV)}{t:List TV},allP (cdsA D 9 m e p fi t ms)
  | [],t=>by
    cases fi with
    | no=>exact trivial
    | bad q t' more=>exact cA_ok' (by omega)
    | hit cl goal b t' more q r =>
      refine allP_append.mpr ⟨cA_ok' (by omega),allP_append.mpr ⟨⟨by omega,?_⟩,allP_append.mpr ⟨cW_ok hm,hq _ _ _ _ _ _ _ rfl,trivial⟩⟩⟩
      cases goal
      · exact trivial
      · exact ⟨hN,trivial⟩
  | (q,t')::ms,t=>allP_append.mpr ⟨cA_ok' (by omega),cdsA_ok h9 hm hN hq⟩
theorem enter_nr {p:Ph}{t:List TV}{e:Int}{g:Bool}(h:nrs t):NrP (p.enter t e g):=h
theorem rs_tv (rs:Rs):rs.tv=rs.list.map Rc.tv:=by cases rs<;>rw [Rs.tv]<;>rfl
theorem rs_len (rs:Rs):rs.list.length≤2:=by cases rs<;>simp [Rs.list]
include H
theorem c_resc {m:Nat}{rs:Rs}{e:Int}{bd o l:TV}{p:Ph}(hm:9≤m) (hp:NrP p) (hs:p.b.tr.length+4≤szL) (hN:p.N+1<szL) {a:List Cn}{pk:Pick}(hpk:pick rs e=(a,pk)):match pk with
    | .no=>CR prog w hb (m+1) (prt bd rs.tv o l) (resT (.raise e)) (resT (.raise e)) p (p.at_ (askS e p.b.tr a))
    | .bad=>CR prog w hb (m+1) (prt bd rs.tv o l) (resT (.raise e)) (resT (.raise 5)) p (p.at_ (askS e p.b.tr a))
    | .hit R=>R∈rs.list ∧ ∀ q r,CW prog w hb m R.body.tv (resT r) (p.enter (askS e p.b.tr a) e R.goal) q→NrP q→q.N<szL→CR prog w hb (m+1) (prt bd rs.tv o l) (resT (.raise e)) (resT r) p (q.leave p.b.la):=by
  have hr:=rs_len rs
  have h:=pick_tab H e rs.list p.b.tr a pk hp (by omega) hpk
  have hlen:∀ (ms:List (TV×List TV)) (fl:List TV),ms.map (·.1)++fl=rs.list.map Rc.tv→ms.length+fl.length≤2:=fun ms fl q=>by
    have:=congrArg List.length q
    rw [List.length_append,List.length_map,List.length_map] at this
    omega
  rw [rs_tv]
  cases pk with
  | no =>
    obtain ⟨ms,e1,e2,e3⟩:=h
    have e1:ms.map (·.1)++RF.l .no=rs.list.map Rc.tv:=by rw [← e1]; exact List.append_nil _
    have:=con_R H (w_resc (m - 8) 9 m bd o l e p ms .no (hlen _ _ e1)) (cdsA_ok (by omega) (by omega) hN (fun _ _ _ _ _ _ _ q=>by cases q)) all_nil e2 (d:=m+1) (by omega)
    rw [e1] at this
    have e4:(outA e p ms .no).2=p.at_ (askS e p.b.tr a):=by show p.at_ (lastA p.b.tr ms)=_; rw [e3]
    rw [e4] at this
    exact this
  | bad =>
    obtain ⟨ms,q,more,e1,e2⟩:=h
    have:=con_R H (w_resc (m - 8) 9 m bd o l e p ms (.bad q (askS e p.b.tr a) more) (hlen _ _ e1)) (cdsA_ok (by omega) (by omega) hN (fun _ _ _ _ _ _ _ q=>by cases q)) all_nil e2 (d:=m+1) (by omega)
    rw [show ms.map (·.1)++RF.l (.bad q (askS e p.b.tr a) more)=_ from e1] at this
    refine Con.res_wk this fun g ρ v hv => ?_
    have hv:VR w.params g ρ (.tup [.str (u "raise"),.int 5]) v:=hv
    cases hv with
    | tup h1 h2=>exact .tup h1 (by
        generalize Array.toList _=z at h2
        cases h2 with
        | cons x y=>cases y with
          | cons x' y'=>cases x'; exact .cons x (.cons .sint y'))
  | hit R =>
    obtain ⟨ms,more,e1,e2,e3⟩:=h
    refine ⟨e2,fun q r hw hq hqN => ?_⟩
    rw [rc_tv] at e1
    have:=con_R H (w_resc (m - 8) 9 m bd o l e p ms (.hit (.lst (clT' R.cl)) R.goal R.body.tv (askS e p.b.tr a) more q (resT r)) (hlen _ _ e1)) (cdsA_ok (by omega) (by omega) hN (fun _ _ _ _ _ _ _ z=>by cases z; exact hqN))
      (all_cons ⟨eW_ok R.body.nr (enter_nr (askS_nr hp)) hq (resT_nr r),hw⟩ all_nil) (e3 q (resT r)) (d:=m+1) (by omega)
    rw [show ms.map (·.1)++RF.l (.hit (.lst (clT' R.cl)) R.goal R.body.tv (askS e p.b.tr a) more q (resT r))=_ from e1] at this
    exact this
end
end
section
section
variable {prog:Program}{w:World}{hb:HB}{mg mb:Str→Option Value}
variable (prog w hb) in
inductive TrT (m:Nat) (body:Sq) (rs:Rs) (o:Oq):Nat→Ph→Res→Ph→Prop
  | v0 {z v p q}:CW prog w hb m body.tv (resT (.val v)) p q→NrP q→o = .no→TrT m body rs o z p (.val v) q
  | v1 {z s v p q r q'}:CW prog w hb m body.tv (resT (.val v)) p q→NrP q→o = .yes s→CW prog w hb m s.tv (resT r) q q'→NrP q'→TrT m body rs o z p r q'
  | x {z p r q}:CW prog w hb m body.tv (resT r) p q→NrP q→r.isVal=false→r.isRaise=false→TrT m body rs o z p r q
  | rr {z e p q r q'}:CW prog w hb m body.tv (resT (.raise e)) p q→NrP q→(∀ l,CR prog w hb (m+1) (prt body.tv rs.tv o.tv l) (resT (.raise e)) (resT r) q q')→NrP q'→r.isRetry=false→TrT m body rs o z p r q'
  | re {z e p q q' r s}:CW prog w hb m body.tv (resT (.raise e)) p q→NrP q→(∀ l,CR prog w hb (m+1) (prt body.tv rs.tv o.tv l) (resT (.raise e)) (resT .retry) q q')→NrP q'→TrT m body rs o z q' r s→TrT m body rs o (z+1) p r s
theorem prt_nr (body:Sq) (rs:Rs) (o:Oq) {l:TV}(hl:nr l):nr (prt body.tv rs.tv o.tv l):=⟨body.nr,rs.nr,o.nr,hl,trivial⟩
theorem TrT.split {m z:Nat}{body:Sq}{rs:Rs}{o:Oq}{p q:Ph}{r:Res}(h:TrT prog w hb m body rs o z p r q) (hp:NrP p):∃ (ps:Pss) (fi:Fi),ps.length≤z∧fi.ok∧fi.o=o.tv∧fi.r=resT r∧fi.q=q∧NrP q∧AllC prog w hb (twT m body.tv fi .no p ps) ∧ ∀ l,nr l→AllC prog w hb (trT (m+1) (prt body.tv rs.tv o.tv l) fi ps):=by
  induction h with
  | @v0 z v p q h1 h2 h3 =>
    subst h3
    exact ⟨[],.v0 v q,Nat.zero_le _,trivial,by rw [Oq.tv]; rfl,rfl,rfl,h2,all_cons ⟨eW_ok body.nr hp h2 (resT_nr _),h1⟩ all_nil,fun l _=>all_nil⟩
  | @v1 z s v p q r q' h1 h2 h3 h4 h5 =>
    subst h3
    have hs:=s.nr
    have ho:(Oq.yes s).tv=s.tv:=by rw [Oq.tv]
    rw [ho]
    rw [s.tv_ch] at h4 hs ⊢
    exact ⟨[],.v1 v q _ _ (resT r) q',Nat.zero_le _,trivial,rfl,rfl,rfl,h5,all_cons ⟨eW_ok body.nr hp h2 (resT_nr _),h1⟩ (all_cons ⟨eW_ok hs h2 h5 (resT_nr r),h4⟩ all_nil),fun l _=>all_nil⟩
  | @x z p r q h1 h2 h3 h4 =>
    exact ⟨[],.x r q o.tv,Nat.zero_le _,⟨h3,h4⟩,rfl,rfl,rfl,h2,all_cons ⟨eW_ok body.nr hp h2 (resT_nr _),h1⟩ all_nil,fun l _=>all_nil⟩
  | @rr z e p q r q' h1 h2 h3 h4 h5 =>
    exact ⟨[],.rr e q r q' o.tv,Nat.zero_le _,h5,rfl,rfl,rfl,h4,all_cons ⟨eW_ok body.nr hp h2 (resT_nr _),h1⟩ all_nil,fun l hl=>all_cons ⟨eR_ok (prt_nr body rs o hl) (resT_nr _) h2 h4 (resT_nr r),h3 l⟩ all_nil⟩
  | @re z e p q q' r s h1 h2 h3 h4 _ ih =>
    obtain ⟨ps,fi,e1,e2,e3,e4,e5,e6,e7,e8⟩:=ih h4
    exact ⟨(e,q,q')::ps,fi,Nat.succ_le_succ e1,e2,e3,e4,e5,e6,all_cons ⟨eW_ok body.nr hp h2 (resT_nr _),h1⟩ e7,fun l hl=>all_cons ⟨eR_ok (prt_nr body rs o hl) (resT_nr _) h2 h4 (resT_nr _),h3 l⟩ (e8 l hl)⟩
theorem twT_la {m:Nat}{bd:TV}{fi:Fi}{la:La}:∀ {ps:Pss}{p:Ph},twT m bd fi la p ps=twT m bd fi .no p ps++(match la with
      | .no=>[]
      | .yes k pl r q=>[eW m (ndT k pl) (resT r) fi.q q])
  | [],p=>by
    simp only [twT,List.append_nil]
    all_goals cases la<;>rfl
  | (e,p1,p2)::ps,p=>by
    simp only [twT,List.cons_append]
    rw [twT_la (ps:=ps)]
theorem cdT_ok {D m:Nat}{bd P:TV}{fi:Fi}{la:La}(h:m+1≤D+7):∀ {ps:Pss}{p:Ph},allP (cdT D m (m+1) bd P fi la p ps)
  | [],p=>by
    unfold cdT
    refine allP_append.mpr ⟨?_,?_⟩
    · cases fi with
      | v0 v q=>exact allP_append.mpr ⟨cW_ok (by omega),⟨okw_value,okw_raise⟩,⟨okw_value,okw_retry⟩,⟨okw_value,okw_value⟩,⟨okw_value,okw_retry⟩,trivial⟩
      | v1 v q k po r q'=>exact allP_append.mpr ⟨cW_ok (by omega),⟨okw_value,okw_raise⟩,⟨okw_value,okw_retry⟩,⟨okw_value,okw_value⟩,cW_ok (by omega)⟩
      | x r q o =>
        refine allP_append.mpr ⟨cW_ok (by omega),⟨okR r,okw_raise⟩,⟨okR r,okw_retry⟩,?_⟩
        cases r.isRetry
        · exact ⟨⟨okR r,okw_value⟩,⟨okR r,okw_retry⟩,trivial⟩
        · exact trivial
      | rr e q r q' o=>exact allP_append.mpr ⟨cW_ok (by omega),⟨okw_raise,okw_raise⟩,allP_append.mpr ⟨cR_ok (by omega),⟨okR r,okw_retry⟩,trivial⟩⟩
    · cases la with
      | no=>exact trivial
      | yes k pl r q=>exact allP_append.mpr ⟨cW_ok (by omega),⟨okR r,okw_value⟩,trivial⟩
  | (e,p1,p2)::ps,p=>allP_append.mpr ⟨cW_ok (by omega),⟨okw_raise,okw_raise⟩,allP_append.mpr ⟨cR_ok (by omega),⟨okw_retry,okw_retry⟩,cdT_ok h⟩⟩
variable (H:Hyp0 prog w hb mg mb)
include H
theorem c_beg {m:Nat}{body:Sq}{rs:Rs}{o:Oq}{p q:Ph}{r:Res}(h:TrT prog w hb m body rs o 2 p r q) (hp:NrP p) (hm:8≤m) :
    CW prog w hb (m+3) (It.beg body rs o .no).tv (resT r) p q ∧ ∀ s r2 q2,CW prog w hb m s.tv (resT r2) q q2→NrP q2→CW prog w hb (m+3) (It.beg body rs o (.yes s)).tv (resT (late r r2)) p q2:=by
  obtain ⟨ps,fi,e1,e2,e3,e4,e5,e6,e7,e8⟩:=h.split hp
  refine ⟨?_,fun s r2 q2 h1 h2 => ?_⟩
  · have:=con_W H (w_begin (m - 6) m (m+1) body.tv rs.tv p fi .no ps e1 e2) (allP_append.mpr ⟨oks_ok ok_begin 4,⟨okw_retry,okw_retry⟩,cdT_ok (by omega)⟩) e7 (by
      rw [e3]; exact e8 _ trivial) (d:=m+3) (by omega)
    rw [e3] at this
    have t1:(It.beg body rs o .no).tv=ndT (u "begin") (prt body.tv rs.tv o.tv .none):=by rw [It.tv,show Oq.no.tv = .none by rw [Oq.tv]]; rfl
    rw [t1]
    have t2:La.r fi.r .no=resT r:=e4
    have t3:La.q fi.q .no=q:=e5
    rw [t2,t3] at this
    exact this
  · have hs:=s.nr
    have t1:(It.beg body rs o (.yes s)).tv=ndT (u "begin") (prt body.tv rs.tv o.tv s.tv):=by rw [It.tv,show (Oq.yes s).tv=s.tv by rw [Oq.tv]]; rfl
    rw [t1]
    rw [s.tv_ch] at h1 hs ⊢
    have:=con_W H (w_begin (m - 6) m (m+1) body.tv rs.tv p fi (.yes _ _ r2 q2) ps e1 e2) (allP_append.mpr ⟨oks_ok ok_begin 4,⟨okw_retry,okw_retry⟩,cdT_ok (by omega)⟩) (by
      rw [twT_la]
      refine all_app e7 (all_cons ⟨eW_ok hs (by rw [e5]; exact e6) h2 (resT_nr r2),?_⟩ all_nil)
      rw [e5]; exact h1) (by rw [e3]; exact e8 _ hs) (d:=m+3) (by omega)
    rw [e3] at this
    have t2:La.r fi.r (.yes (u "seq") (.tup [.lst (s.ch.map Ch.tv)]) r2 q2)=resT (late r r2):=by
      rw [e4]; rcases r2 with v | e | _ | ⟨k,v⟩<;>rfl
    rw [t2] at this
    exact this
end
end
section
def J.wt (d:Nat):J→Prop
  | .it i=>i.wt d
  | .ch c=>∀ i,c = .it i→i.wt d
  | .sq rem _=>∀ i,Ch.it i∈rem→i.wt d
  | .tr _ body rs o=>body.wt d∧rs.wt d∧o.wt d
theorem sq_wt {d:Nat}{s:Sq}(h:s.wt d):∀ i,Ch.it i∈s.ch→i.wt d:=by
  rcases s with ⟨a,t⟩ | ⟨a,b,t⟩<;>rw [Sq.wt] at h<;>intro i hi
  · have hi:i=a:=by rcases t with _ | ⟨n,m⟩<;>simpa [Sq.ch,tlCh] using hi
    rw [hi]; exact h
  · have hi:i=a∨i=b:=by rcases t with _ | ⟨n,m⟩<;>simpa [Sq.ch,tlCh] using hi
    rcases hi with hi | hi<;>rw [hi]
    · exact h.1
    · exact h.2
theorem rs_wt {d:Nat}{rs:Rs}{R:Rc}(h:rs.wt d) (hm:R∈rs.list):R.body.wt d:=by
  have key:∀ r:Rc,r.wt d→r.body.wt d:=fun r hr=>by
    cases r; rw [Rc.wt] at hr; exact hr.1
  cases rs with
  | r0=>cases hm
  | r1 a =>
    rw [Rs.wt] at h
    have hm:R∈[a]:=hm
    rw [List.mem_singleton] at hm; subst hm; exact key _ h
  | r2 a b =>
    rw [Rs.wt] at h
    have hm:R∈[a,b]:=hm
    simp only [List.mem_cons,List.not_mem_nil,or_false] at hm
    rcases hm with rfl | rfl
    · exact key _ h.1
    · exact key _ h.2
section
variable {prog:Program}{w:World}{hb:HB}{mg mb:Str→Option Value}
variable (prog w hb) in
def SpO (d:Nat) (p:Ph) (r:Res) (q:Ph):J→Prop
  | .it i=>CW prog w hb (10+4*d) i.tv (resT r) p q
  | .ch c=>CW prog w hb (10+4*d) c.tv (resT r) p q
  | .sq rem v=>SeqT prog w hb (10+4*d) rem v p r q
  | .tr z body rs o=>TrT prog w hb (11+4*d) body rs o z p r q
structure In (p:Ph) (b:B) (T:Nat):Prop where
  e:p.b=b
  nr:NrP p
  l:p.b.tr.length≤T
  n:p.N≤T
theorem In.up {p:Ph}{b:B}{T T':Nat}(h:In p b T) (ht:T≤T'):In p b T':=⟨h.e,h.nr,Nat.le_trans h.l ht,Nat.le_trans h.n ht⟩
theorem In.note {p:Ph}{b:B}{T T':Nat}{t:TV}(h:In p b T) (hn:Nu.nr t) (ht:T+1≤T'):In (p.note t) (b.note t) T' :=
  ⟨by rw [← h.e]; rfl,nrs_cons hn h.nr,by have:=h.l; show p.b.tr.length+1≤_; omega,by have:=h.n; show p.N≤_; omega⟩
theorem In.count {p:Ph}{b:B}{T T':Nat}{n:Int}(h:In p b T) (ht:T+1≤T'):In (p.count n) (b.count n) T' :=
  ⟨by rw [← h.e]; rfl,h.nr,by have:=h.l; show p.b.tr.length≤_; omega,by have:=h.n; show p.N+1≤_; omega⟩
theorem In.asks {p:Ph}{b:B}{T T':Nat}{e:Int}{a:List Cn}(h:In p b T) (ht:T+a.length≤T'):In (p.at_ (askS e p.b.tr a)) (b.asks e a) T' :=
  ⟨by rw [asks_tr,← h.e]; rfl,askS_nr h.nr,by have:=h.l; show (askS e p.b.tr a).length≤_; rw [askS_len]; omega,by have:=h.n; show p.N≤_; omega⟩
theorem In.enter {p:Ph}{b:B}{T T':Nat}{e:Int}{a:List Cn}{g:Bool}(h:In p b T) (ht:T+a.length+2≤T'):In (p.enter (askS e p.b.tr a) e g) ((b.asks e a).enter e g) T' :=
  ⟨by rw [asks_tr,← h.e]; rfl,askS_nr h.nr,by have:=h.l; show (askS e p.b.tr a).length≤_; rw [askS_len]; omega,by
    have:=h.n
    show (if g then p.N+1+1 else p.N+1)≤_
    split<;>omega⟩
theorem In.leave {p:Ph}{b:B}{T T':Nat}{la:Option Int}(h:In p b T) (ht:T+1≤T'):In (p.leave la) (b.leave la) T' :=
  ⟨by rw [← h.e]; rfl,h.nr,by have:=h.l; show p.b.tr.length≤_; omega,by have:=h.n; show p.N+1≤_; omega⟩
variable (H:Hyp0 prog w hb mg mb)
include H
theorem spec {j:J}{b b':B}{r:Res}{n:Nat}(h:Big j b r b' n):∀ (p:Ph) (T d:Nat),In p b T→T+4*n≤900000→j.wt d→∃ q,In q b' (T+4*n)∧SpO prog w hb d p r q j:=by
  have hz:szL=1000000:=rfl
  induction h with
  | sym=>exact fun p T d hp hT _=>⟨_,hp.note trivial (by omega),by
      show CW prog w hb _ (It.sym _).tv _ _ _
      rw [It.tv]; exact c_sym H (by have:=hp.l; omega) (by omega)⟩
  | toss=>exact fun p T d hp hT _=>⟨_,hp.up (by omega),c_toss H (by omega)⟩
  | last=>exact fun p T d hp hT _=>⟨_,by rw [← hp.e]; exact (show In p p.b T from ⟨rfl,hp.nr,hp.l,hp.n⟩).note ⟨trivial,oi_nr _,trivial⟩ (by omega),c_last H (by have:=hp.l; omega) (by omega)⟩
  | out0=>exact fun p T d hp hT _=>⟨_,hp.up (by omega),c_out0 H (by omega)⟩
  | out1=>exact fun p T d hp hT _=>⟨_,hp.note trivial (by omega),c_out1 H (by have:=hp.l; omega) hp.nr (by omega)⟩
  | beg0 _ ih =>
    intro p T d hp hT hw
    have hw:It.wt d _:=hw
    rw [It.wt] at hw
    obtain ⟨d',rfl,h1,h2,h3,h4,h5⟩:=hw
    obtain ⟨q,i,o⟩:=ih p T d' hp (by omega) ⟨h1,h3,h4⟩
    exact ⟨q,i.up (by omega),(c_beg H o hp.nr (by omega)).1.deeper (show 11+4*d'+3≤_ by omega)⟩
  | beg1 _ _ ih ih2 =>
    intro p T d hp hT hw
    have hw:It.wt d _:=hw
    rw [It.wt] at hw
    obtain ⟨d',rfl,h1,h2,h3,h4,h5⟩:=hw
    rw [Oq.wt] at h5
    obtain ⟨q,i,o⟩:=ih p T d' hp (by omega) ⟨h1,h3,h4⟩
    obtain ⟨q2,i2,o2⟩:=ih2 q _ d' i (by omega) (sq_wt h5.1)
    exact ⟨q2,i2.up (by omega),((c_beg H o hp.nr (by omega)).2 _ _ q2 ((c_seq H o2 i.nr (by omega)).deeper (show 10+4*d'+1≤_ by omega)) i2.nr).deeper (show 11+4*d'+3≤_ by omega)⟩
  | chit _ ih=>exact fun p T d hp hT hw=>ih p T d hp hT (hw _ rfl)
  | re1 hc=>exact fun p T d hp hT _=>⟨_,hp.count (by omega),c_re H true (by have:=hp.n; omega) (by rw [hp.e]; exact hc) (by omega)⟩
  | re0 hc=>exact fun p T d hp hT _=>⟨_,hp.count (by omega),c_re H false (by have:=hp.n; omega) (by rw [hp.e]; exact hc) (by omega)⟩
  | nil=>exact fun p T d hp hT _=>⟨p,hp.up (by omega),.nil⟩
  | stop _ hv ih =>
    intro p T d hp hT hw
    obtain ⟨q,i,o⟩:=ih p T d hp (by omega) (fun i e=>hw i (by rw [e]; exact .head _))
    exact ⟨q,i.up (by omega),.stop o i.nr hv⟩
  | go _ _ ih ih2 =>
    intro p T d hp hT hw
    obtain ⟨q,i,o⟩:=ih p T d hp (by omega) (fun i e=>hw i (by rw [e]; exact .head _))
    obtain ⟨q2,i2,o2⟩:=ih2 q _ d i (by omega) (fun i h=>hw i (.tail _ h))
    exact ⟨q2,i2.up (by omega),.go o i.nr o2⟩
  | tval _ ih =>
    intro p T d hp hT hw
    obtain ⟨q,i,o⟩:=ih p T d hp (by omega) (sq_wt hw.1)
    exact ⟨q,i.up (by omega),.v0 ((c_seq H o hp.nr (by omega)).deeper (show 10+4*d+1≤_ by omega)) i.nr rfl⟩
  | toth _ _ ih ih2 =>
    intro p T d hp hT hw
    obtain ⟨hw1,hw2,hw3⟩:=hw
    rw [Oq.wt] at hw3
    obtain ⟨q,i,o⟩:=ih p T d hp (by omega) (sq_wt hw1)
    obtain ⟨q2,i2,o2⟩:=ih2 q _ d i (by omega) (sq_wt hw3.1)
    exact ⟨q2,i2.up (by omega),.v1 ((c_seq H o hp.nr (by omega)).deeper (show 10+4*d+1≤_ by omega)) i.nr rfl ((c_seq H o2 i.nr (by omega)).deeper (show 10+4*d+1≤_ by omega)) i2.nr⟩
  | tout _ hv he ih =>
    intro p T d hp hT hw
    obtain ⟨q,i,o⟩:=ih p T d hp (by omega) (sq_wt hw.1)
    exact ⟨q,i.up (by omega),.x ((c_seq H o hp.nr (by omega)).deeper (show 10+4*d+1≤_ by omega)) i.nr hv he⟩
  | @tno z body rs other b e b1 n a _ hpk ih =>
    intro p T d hp hT hw
    obtain ⟨q,i,o⟩:=ih p T d hp (by omega) (sq_wt hw.1)
    have i2:=i.asks (e:=e) (a:=a) (T':=T+4*(n+1+6*a.length)) (by omega)
    exact ⟨_,i2,.rr ((c_seq H o hp.nr (by omega)).deeper (show 10+4*d+1≤_ by omega)) i.nr (fun l=>c_resc H (by omega) i.nr (by have:=i.l; omega) (by have:=i.n; omega) hpk) i2.nr rfl⟩
  | @tbad z body rs other b e b1 n a _ hpk ih =>
    intro p T d hp hT hw
    obtain ⟨q,i,o⟩:=ih p T d hp (by omega) (sq_wt hw.1)
    have i2:=i.asks (e:=e) (a:=a) (T':=T+4*(n+1+6*a.length)) (by omega)
    exact ⟨_,i2,.rr ((c_seq H o hp.nr (by omega)).deeper (show 10+4*d+1≤_ by omega)) i.nr (fun l=>c_resc H (by omega) i.nr (by have:=i.l; omega) (by have:=i.n; omega) hpk) i2.nr rfl⟩
  | @thit z body rs other b e b1 n a R r b2 k _ hpk _ hnr ih ih2 =>
    intro p T d hp hT hw
    obtain ⟨q,i,o⟩:=ih p T d hp (by omega) (sq_wt hw.1)
    have hin:=i.enter (e:=e) (a:=a) (g:=R.goal) (T':=T+4*n+a.length+2) (by omega)
    have cr:=fun l=>c_resc H (bd:=body.tv) (o:=other.tv) (l:=l) (m:=11+4*d) (by omega) i.nr (by have:=i.l; omega) (by have:=i.n; omega) hpk
    obtain ⟨q2,i2,o2⟩:=ih2 _ _ d hin (by omega) (sq_wt (rs_wt hw.2.1 (cr .none).1))
    have i3:=i2.leave (la:=q.b.la) (T':=T+4*(n+1+6*a.length+gk R.goal+k+1)) (by omega)
    refine ⟨_,by rw [← i.e]; exact i3,.rr ((c_seq H o hp.nr (by omega)).deeper (show 10+4*d+1≤_ by omega)) i.nr (fun l => ?_) i3.nr hnr⟩
    exact (cr l).2 q2 r ((c_seq H o2 hin.nr (by omega)).deeper (show 10+4*d+1≤_ by omega)) i2.nr (by have:=i2.n; omega)
  | @tre z body rs other b e b1 n a R b2 k r b3 m _ hpk _ _ ih ih2 ih3 =>
    intro p T d hp hT hw
    obtain ⟨q,i,o⟩:=ih p T d hp (by omega) (sq_wt hw.1)
    have hin:=i.enter (e:=e) (a:=a) (g:=R.goal) (T':=T+4*n+a.length+2) (by omega)
    have cr:=fun l=>c_resc H (bd:=body.tv) (o:=other.tv) (l:=l) (m:=11+4*d) (by omega) i.nr (by have:=i.l; omega) (by have:=i.n; omega) hpk
    obtain ⟨q2,i2,o2⟩:=ih2 _ _ d hin (by omega) (sq_wt (rs_wt hw.2.1 (cr .none).1))
    have i3:=i2.leave (la:=q.b.la) (T':=T+4*(n+1+6*a.length+gk R.goal+k+1)) (by omega)
    obtain ⟨q3,i4,o3⟩:=ih3 _ _ d (by rw [← i.e]; exact i3) (by omega) hw
    refine ⟨q3,i4.up (by omega),.re ((c_seq H o hp.nr (by omega)).deeper (show 10+4*d+1≤_ by omega)) i.nr (fun l => ?_) i3.nr o3⟩
    exact (cr l).2 q2 .retry ((c_seq H o2 hin.nr (by omega)).deeper (show 10+4*d+1≤_ by omega)) i2.nr (by have:=i2.n; omega)
end
end
section
def rmAll:List Ent→List Nat→List Ent
  | l,[]=>l
  | l,i::r=>rmAll (rmC l i) r
theorem lkC_rmC {α:Type}{i j:Nat}(hne:j≠i):∀ (l:List (Nat×α)),lkC (rmC l i) j=lkC l j
  | []=>rfl
  | p::l=>by
    rw [rmC_cons]
    by_cases q:p.1=i
    · rw [if_pos q,lkC_cons,if_neg (fun e=>hne (e.symm.trans q))]
    · rw [if_neg q,lkC_cons,lkC_cons,lkC_rmC hne l]
theorem rmAll_perm:∀ {pre:List Ent}{l:List Ent},(pre.map (·.1)).Nodup→(∀ p∈pre,lkC l p.1=some p.2)→l.Perm (pre++rmAll l (pre.map (·.1)))
  | [],l,_,_=>.refl _
  | (i,c)::r,l,hn,hl=>by
    obtain ⟨n1,n2⟩:=List.nodup_cons.mp (show (i::r.map (·.1)).Nodup from hn)
    obtain ⟨l1,l2,e,hp⟩:=rmC_split (hl (i,c) (.head _))
    have h1:l.Perm ((i,c)::rmC l i):=by
      rw [hp]
      conv=>lhs; rw [e]
      exact List.perm_middle
    exact h1.trans ((rmAll_perm (l:=rmC l i) n2 fun p hp'=>by
      rw [lkC_rmC fun q=>n1 (by rw [← q]; exact List.mem_map_of_mem hp')]
      exact hl p (.tail _ hp')).cons _)
section
variable {prog:Program}{w:World}{hb:HB}{mg mb:Str→Option Value}{A:Around}{g f g' f':PH}{ρ ρ':Rho}{s:Shared}{env:Env}{h:Heap}{l l':List Ent}
def CImp (prog:Program) (w:World) (e e':Ent):Prop:=e.1=e'.1∧e.2.two=e'.2.two ∧ ∀ g ρ a d oa od,CellOb prog w clo g ρ a d oa od e.2→CellOb prog w clo g ρ a d oa od e'.2
inductive CImps (prog:Program) (w:World):List Ent→List Ent→Prop
  | nil:CImps prog w [] []
  | cons {e e' l l'}:CImp prog w e e'→CImps prog w l l'→CImps prog w (e::l) (e'::l')
theorem CImp.refl {e:Ent}:CImp prog w e e:=⟨rfl,rfl,fun _ _ _ _ _ _ x=>x⟩
theorem Rel.imp (R:Rel prog w clo g f h ρ l) (hi:CImps prog w l l'):Rel prog w clo g f h ρ l':=by
  have key:adrs ρ l'=adrs ρ l ∧ ∀ i c',(i,c')∈l'→∃ c,(i,c)∈l ∧ ∀ g ρ a d oa od,CellOb prog w clo g ρ a d oa od c→CellOb prog w clo g ρ a d oa od c':=by
    clear R
    induction hi with
    | nil=>exact ⟨rfl,fun _ _ h=>nomatch h⟩
    | @cons e e' l l' x _ ih =>
      obtain ⟨i,c⟩:=e
      obtain ⟨i',c'⟩:=e'
      obtain ⟨x1,x2,x3⟩:=x
      dsimp only at x1 x2 x3
      subst x1
      refine ⟨?_,fun j d hj => ?_⟩
      · rw [adrs_cons,adrs_cons,ih.1]
        congr 1
        unfold adr
        dsimp only
        rw [x2]
      · rcases List.mem_cons.mp hj with q | hj
        · cases q; exact ⟨c,.head _,x3⟩
        · obtain ⟨c0,h1,h2⟩:=ih.2 j d hj
          exact ⟨c0,.tail _ h1,h2⟩
  refine ⟨R.gf,R.keep,fun i c' hm => ?_,by rw [key.1]; exact R.fresh,by rw [key.1]; exact R.nd⟩
  obtain ⟨c,h1,h2⟩:=key.2 i c' hm
  obtain ⟨a,d,e,z⟩:=R.at_ i c h1
  exact ⟨a,d,e,h2 _ _ _ _ _ _ z⟩
variable (prog w hb) in
def LoopOk (A:Around) (g f:PH) (ρ:Rho) (post:List Ent) (c:Code) (s:Shared):Prop:=codeAny (model prog w) A c (LoopR fun fl s'=>fl = .next ∧ ∃ g' f',Ext g f ρ g' f' ρ∧Rel prog w clo g' f' s'.heap ρ post∧LeB hb g' s') s
variable (prog w hb) in
def WC (d:Nat) (ae:AE) (test:Expr) (body:List Stmt) (pre post:List Ent):Prop:=∀ (A:Around) (g f:PH) (ρ:Rho) (env:Env) (s:Shared),Room d A→EnvR ρ ae env→LeB hb g s→Rel prog w clo g f s.heap ρ pre→LoopOk prog w hb A g f ρ post (.whileLoop test body [] env) s
variable (prog w hb) in
def FC (d:Nat) (ae:AE) (x:Str) (t:TV) (body:List Stmt) (pre post:List Ent):Prop:=∀ (A:Around) (g f:PH) (ρ:Rho) (env:Env) (px:Pos) (v:Value) (s:Shared),Room d A→EnvR ρ ae env→VR w.params g ρ t v→LeB hb g s→Rel prog w clo g f s.heap ρ pre→LoopOk prog w hb A g f ρ post (.forLoop (.Name x px) v body [] env) s
variable (prog w hb) in
def KC (d:Nat) (ae:AE) (elt:Expr) (ifs:List Expr) (x:Str) (t t':TV) (pre post:List Ent):Prop:=∀ (A:Around) (g f:PH) (ρ:Rho) (env:Env) (px:Pos) (v v':Value) (iter:Expr) (scope:Scope) (pos:Pos) (s:Shared),Room d A→EnvR ρ ae env→VR w.params g ρ t v→VR w.params g ρ t' v'→LeB hb g s→Rel prog w clo g f s.heap ρ pre →
  LoopOk prog w hb A g f ρ post (.compLoop (.ListComp elt [⟨.Name x px,iter,ifs,0⟩] scope pos) 0 v v' env) s
def hkM {α:Type}(a:α) (C:Prop) (pre post:List Ent):M α:=(need (C∧(pre.map (·.1)).Nodup)).bd fun _=>(preM pre).bd fun _=>fun σ=>some (a,⟨post++rmAll σ.cells (pre.map (·.1)),σ.next,σ.dirs⟩,[])
theorem hk_at {α:Type}{x a:α}{C:Prop}{pre post:List Ent}{σ σ':St}{cs:List Prop}{c:Code}{P:PH→Rho→α→Flow→Prop}(e:hkM x C pre post σ=some (a,σ',cs)) (hc:allP cs) (R:RelS prog w clo hb σ g f ρ s) (hP:∀ g ρ,P g ρ x .next)
    (h:∀ f,C→Rel prog w clo g f s.heap ρ pre→LoopOk prog w hb A g f ρ post c s):codeAny (model prog w) A c (LoopR (Back prog w clo hb g f ρ σ' a P)) s:=by
  obtain ⟨⟨hl,hn⟩,c',e,hc'⟩:=need_inv e hc
  obtain ⟨u,σ1,c1,c2,e1,e2,hc1,hc2⟩:=bd_inv e hc'
  obtain ⟨rfl,hpre⟩:=preM_at e1 hc1
  cases e2
  have hp:=rmAll_perm hn hpre
  refine codeAny_mono (h _ hl (R.r.sub hp)) fun res s' z => ?_
  cases res with
  | error _=>exact z.elim
  | ok fl =>
    obtain ⟨rfl,g',f',E,R',hB⟩:=z
    obtain ⟨R2,E2⟩:=R.r.back hp E R'
    exact ⟨g',_,ρ,E2,⟨R2,R.n,hB⟩,hP _ _⟩
variable (prog w hb) in
def whM (pre post:List Ent) (d:Nat) (ae:AE) (test:Expr) (body:List Stmt):M FL:=hkM .next (WC prog w hb d ae test body pre post) pre post
variable (prog w hb) in
def foM (pre post:List Ent) (d:Nat) (ae:AE) (x:Str) (t:TV) (body:List Stmt):M FL:=hkM .next (FC prog w hb d ae x t body pre post) pre post
variable (prog w hb) in
def coM (pre post:List Ent) (d:Nat) (ae:AE) (elt:Expr) (ifs:List Expr) (x:Str) (t t':TV):M Unit:=hkM () (KC prog w hb d ae elt ifs x t t' pre post) pre post
abbrev HW:=Nat→AE→Expr→List Stmt→M FL
abbrev HF:=Nat→AE→Str→TV→List Stmt→M FL
abbrev HC:=Nat→AE→Expr→List Expr→Str→TV→TV→M Unit
def evsH (orc:Orc) (W:HW) (F:HF) (C:HC) (n:Nat):Evs:=@Nat.rec (fun _=>Evs) evs0 (fun _ p=>⟨exF theTab (xtF clo ci0) p,trF theTab (xtF clo ci0) p,ssF theTab (xsF clo ci0) p,clF theTab clo orc p,W,F,C⟩) n
variable (prog w hb) in
structure HkOk (W:HW) (F:HF) (C:HC):Prop where
  wh:∀ A d g f ρ ae env test body,Room d A→EnvR ρ ae env→TriC prog w clo hb A g f ρ (W d ae test body) (.whileLoop test body [] env)
  fo:∀ A d g f ρ ae env x px t v body,Room d A→EnvR ρ ae env→VR w.params g ρ t v→TriC prog w clo hb A g f ρ (F d ae x t body) (.forLoop (.Name x px) v body [] env)
  co:∀ A d g f ρ ae env elt ifs x px t v t' v' iter scope pos,Room d A→EnvR ρ ae env→VR w.params g ρ t v→VR w.params g ρ t' v'→TriK prog w clo hb A g f ρ (C d ae elt ifs x t t') (.compLoop (.ListComp elt [⟨.Name x px,iter,ifs,0⟩] scope pos) 0 v v' env)
theorem hkOk (p1 q1 p2 q2 p3 q3:List Ent):HkOk prog w hb (whM prog w hb p1 q1) (foM prog w hb p2 q2) (coM prog w hb p3 q3) where
  wh:=fun A d g f ρ ae env test body r N σ a σ' c e hc s R=>hk_at e hc R (fun _ _=>.next) fun f hl Rs=>hl A g f ρ env s r N R.b0 Rs
  fo:=fun A d g f ρ ae env x px t v body r N hv σ a σ' c e hc s R=>hk_at e hc R (fun _ _=>.next) fun f hl Rs=>hl A g f ρ env px v s r N hv R.b0 Rs
  co:=fun A d g f ρ ae env elt ifs x px t v t' v' iter scope pos r N hv hv' σ a σ' c e hc s R=>hk_at e hc R (fun _ _=>rfl) fun f hl Rs=>hl A g f ρ env px v v' iter scope pos s r N hv hv' R.b0 Rs
theorem sndH (H:Hyp0 prog w hb mg mb) {orc:Orc}(O:SndO prog w clo hb orc) {W:HW}{F:HF}{C:HC}(K:HkOk prog w hb W F C):∀ n,Snd prog w clo hb (evsH orc W F C n)
  | 0=>snd0
  | n+1=>by
    have S:=sndS H.B H.T O clo_all (sndX H.B H.C) (sndS' H.B H.C) (sndH H O K n)
    exact ⟨S.ex,S.tr,S.ss,S.cl,K.wh,K.fo,K.co⟩
theorem fnH (H:Hyp0 prog w hb mg mb) {orc:Orc}(O:SndO prog w clo hb orc) {W:HW}{F:HF}{C:HC}(K:HkOk prog w hb W F C) {n fn d:Nat}{i:FnI}(hf:lkC theTab.fn fn=some i) (r:Room (d+1) A) {ts:List TV}{vs:List Value}(h:VRs w.params g ρ ts vs) :
    Tri prog w clo hb A g f ρ (fnF (evsH orc W F C n) d i ts) (call (.ref fn) vs) (VRp w):=(TriF.fn H.B (sndH H O K n) (H.T.fn _ _ hf) r h).call
structure Own0 (ids:List Nat) (pre post:List Ent) (ae:AE):Prop where
  e:pre.map (·.1)=ids
  cp:∀ p∈pre,clC ids p.2
  cq:∀ p∈post,p.1∈ids∧clC ids p.2
  nd:(post.map (·.1)).Nodup
  loc:ae.loc∈ids
  cs:∀ p∈ae.cs,p.2∈ids
theorem own_env {ids:List Nat}{pre post:List Ent}{ae:AE}(O:Own0 ids pre post ae) (N:EnvR ρ ae env):EnvR (fun i=>if i∈ids then ρ i else none) ae env :=
  have h0:onS ids ρ (fun i=>if i∈ids then ρ i else none):=fun i hi p e=>by show (if i∈ids then ρ i else none)=_; rw [if_pos hi]; exact e
  ⟨N.sc,N.fn,N.gl,N.bl,let ⟨d,e⟩:=N.lo; ⟨d,h0 _ O.loc _ e⟩,N.cs.recl h0 O.cs,N.co⟩
theorem own_run {α:Type}{ids:List Nat}{pre post:List Ent}{ae:AE}{x:α}{σ':St}{nx:Nat}{dirs:List Nat}{m:M α}{cs:List Prop}{c:Code}{P:PH→Rho→α→Flow→Prop}(O:Own0 ids pre post ae) (hP:∀ g ρ fl,P g ρ x fl→fl = .next) (e:m ⟨pre,nx,dirs⟩=some (x,σ',cs)) (hc:allP cs) (hn:∀ i∈ids,i<nx) (hp:∀ p∈post,lkC σ'.cells p.1=some p.2)
    (hB:LeB hb g s) (R:Rel prog w clo g f s.heap ρ pre) (T:∀ σ a σ' cs,m σ=some (a,σ',cs)→allP cs→∀ s,RelS prog w clo hb σ g f (fun i=>if i∈ids then ρ i else none) s→codeAny (model prog w) A c (LoopR (Back prog w clo hb g f (fun i=>if i∈ids then ρ i else none) σ' a P)) s):LoopOk prog w hb A g f ρ post c s:=by
  have h0:onS ids ρ (fun i=>if i∈ids then ρ i else none):=fun i hi p e=>by show (if i∈ids then ρ i else none)=_; rw [if_pos hi]; exact e
  have R0:=R.recl h0 fun p hp=>⟨by rw [← O.e]; exact List.mem_map_of_mem hp,O.cp p hp⟩
  refine codeAny_mono (T _ _ _ _ e hc s ⟨R0,fun i hi=>if_neg fun q=>absurd (hn i q) (Nat.not_lt.mpr hi),hB⟩) fun res s' z => ?_
  cases res with
  | error _=>exact z.elim
  | ok fl =>
    obtain ⟨g',f',ρ',E,R',V⟩:=z
    obtain ⟨junk,hj⟩:=sel_of (cells:=σ'.cells) O.nd hp
    have back:onS ids ρ' ρ:=fun i hi p e=>by
      rw [← O.e] at hi
      obtain ⟨q,hq,rfl⟩:=List.mem_map.mp hi
      obtain ⟨a,d,e1,_⟩:=R.at_ q.1 q.2 hq
      have:=E.rl _ _ (h0 _ (by rw [← O.e]; exact hi) _ e1)
      rw [this] at e; cases e; exact e1
    exact ⟨hP _ _ _ V,g',f',⟨E.gl,E.fl,Rho.le_refl _,E.nw⟩,((R'.r.perm hj).less (List.sublist_append_left _ _)).recl back O.cq,R'.b0⟩
theorem FC.of_ev {p:Evs}(S:Snd prog w clo hb p) {d nx:Nat}{ae:AE}{x:Str}{t:TV}{body:List Stmt}{ids:List Nat}{pre post:List Ent}{dirs:List Nat}{σ':St}{cs:List Prop}(O:Own0 ids pre post ae) (ht:clT ids t) (e:p.fo d ae x t body ⟨pre,nx,dirs⟩=some (.next,σ',cs)) (hc:allP cs) (hn:∀ i∈ids,i<nx) (hp:∀ p∈post,lkC σ'.cells p.1=some p.2):FC prog w hb d ae x t body pre post :=
  fun A g f ρ env px v s r N hv hB R=>own_run O (fun _ _ _ h=>by cases h; rfl) e hc hn hp hB R fun σ a σ' cs e hc s R=>S.fo A d g f _ ae env x px t v body r (own_env O N) (hv.recl (fun i hi p e=>by show (if i∈ids then ρ i else none)=_; rw [if_pos hi]; exact e) ht) σ a σ' cs e hc s R
theorem KC.of_ev {p:Evs}(S:Snd prog w clo hb p) {d nx:Nat}{ae:AE}{elt:Expr}{ifs:List Expr}{x:Str}{t t':TV}{ids:List Nat}{pre post:List Ent}{dirs:List Nat}{σ':St}{cs:List Prop}(O:Own0 ids pre post ae) (ht:clT ids t) (ht':clT ids t') (e:p.co d ae elt ifs x t t' ⟨pre,nx,dirs⟩=some ((),σ',cs)) (hc:allP cs) (hn:∀ i∈ids,i<nx) (hp:∀ p∈post,lkC σ'.cells p.1=some p.2):KC prog w hb d ae elt ifs x t t' pre post :=
  fun A g f ρ env px v v' iter scope pos s r N hv hv' hB R=>own_run O (fun _ _ _ h=>h) e hc hn hp hB R fun σ a σ' cs e hc s R =>
    have h0:onS ids ρ (fun i=>if i∈ids then ρ i else none):=fun i hi p e=>by show (if i∈ids then ρ i else none)=_; rw [if_pos hi]; exact e
    S.co A d g f _ ae env elt ifs x px t v t' v' iter scope pos r (own_env O N) (hv.recl h0 ht) (hv'.recl h0 ht') σ a σ' cs e hc s R
end
end
section
def iOver:FnI:=fnI (sT 67) "is_over" [] none
def forBody:Stmt→List Stmt
  | .For _ _ b _ _=>b
  | _=>[]
def bodyO:List Stmt:=forBody (nthS iOver.body 0)
def aeO:AE:=⟨iOver.scope,10,[],none⟩
def wkT (t1 t2 t3:TV) (xs:List TV) (t5 t6:TV):TV:=.ins 659 [(u "world",t1),(u "table",t2),(u "catches",t3),(u "stack",.lst xs),(u "way",t5),(u "fiber",t6)]
def nsO (W:TV) (k:Str):Option TV→List (Str×TV)
  | none=>[(u "walker",W),(u "kind",.str k)]
  | some t=>[(u "walker",W),(u "kind",.str k),(u "task",t)]
def atO (W:TV) (k:Str) (ys:List TV) (o:Option TV) (i:Nat):List Ent:=[(10,.ns (nsO W k o)),(11,.lst ys),(12,.itr false (.ref 11) i)]
def posO (W:TV) (k:Str) (ys:List TV) (o:Option TV):List Ent:=[(10,.ns (nsO W k o)),(11,.lst ys)]
def TaskT (x:TV):Prop:=∃ kd nd st hd,x = .ins 560 (tfs kd nd st hd)∧kd∈okKinds∧nr nd∧nr st∧nr hd
theorem o_body (kd:Str) (h:kd∈okKinds) (W nd st hd:TV) (k:Str) (ys:List TV) (j m:Nat):∃ a b c,kd=u a∧(a = "begin" ∨ a = "seq" ∨ a = "break" ∨ a = "return") ∧
    (evo [] (m+40)).ss 4 aeO bodyO ⟨atO W k ys (some (.ins 560 (tfs kd nd st hd))) j,20,[]⟩=some (.next,⟨atO W k ys (some (.ins 560 (tfs kd nd st hd))) j,b,[]⟩,[ok2 a "while",ok2 a "activation",ok2 a "blockrun"])∧b=20∧c=0:=by
  have h:kd∈[u "begin",u "seq",u "break",u "return"]:=h
  simp only [List.mem_cons,List.not_mem_nil,or_false] at h
  rcases h with rfl | rfl | rfl | rfl
  · exact ⟨"begin",20,0,rfl,.inl rfl,by kernel_rfl,rfl,rfl⟩
  · exact ⟨"seq",20,0,rfl,.inr (.inl rfl),by kernel_rfl,rfl,rfl⟩
  · exact ⟨"break",20,0,rfl,.inr (.inr (.inl rfl)),by kernel_rfl,rfl,rfl⟩
  · exact ⟨"return",20,0,rfl,.inr (.inr (.inr rfl)),by kernel_rfl,rfl,rfl⟩
theorem bd_val {α β:Type}{m:M α}{k:α→M β}{σ σ1:St}{a:α}{c1:List Prop}(h:m σ=some (a,σ1,c1)):(m.bd k) σ=(match k a σ1 with
    | none=>none
    | some (b,σ2,c2)=>some (b,σ2,c1++c2)):=by
  unfold M.bd; rw [h]; all_goals rfl
theorem o_next (W:TV) (k:Str) (ys:List TV) (o:Option TV) (i:Nat):nextT (.ref 12) ⟨atO W k ys o i,20,[]⟩=(match ys[i]? with
    | some x=>some (some x,⟨atO W k ys o (i+1),20,[]⟩,[])
    | none=>some (none,⟨posO W k ys o,20,[]⟩,[])):=by
  have h:nextT (.ref 12) ⟨atO W k ys o i,20,[]⟩=(match ys[i]? with
      | some x=>((putC 12 (.itr false (.ref 11) (i+1))).bd fun _=>.ret (some x):M (Option TV))
      | none=>(dropC 12).bd fun _=>.ret none) ⟨atO W k ys o i,20,[]⟩:=by
    simp only [nextT]
    rw [bd_val (m:=getC 12) (a:=Cell.itr false (.ref 11) i) (σ1:=⟨atO W k ys o i,20,[]⟩) (c1:=[]) (by kernel_rfl)]
    simp only []
    rw [bd_val (m:=seqT (.ref 11)) (a:=(false,ys)) (σ1:=⟨atO W k ys o i,20,[]⟩) (c1:=[]) (by kernel_rfl)]
    dsimp only [ifB,chk]
    cases e:ys[i]?<;>kernel_rfl
  rw [h]
  cases e:ys[i]?<;>kernel_rfl
theorem okO {a:String}(h:a = "begin" ∨ a = "seq" ∨ a = "break" ∨ a = "return"):okT (.str (u a)):=by
  rcases h with rfl | rfl | rfl | rfl
  · exact ⟨_,rfl,by kernel_rfl⟩
  · exact ⟨_,rfl,by kernel_rfl⟩
  · exact okw_break
  · exact okw_return
theorem o_store (W:TV) (k:Str) (ys:List TV) (o:Option TV) (i:Nat) (v:TV):stName aeO (u "task") v ⟨atO W k ys o i,20,[]⟩=some ((),⟨atO W k ys (some v) i,20,[]⟩,[]):=by cases o<;>kernel_rfl
theorem o_loop (W:TV) (k:Str) (ys:List TV) (hy:∀ x∈ys,TaskT x):∀ (m i:Nat) (o:Option TV),ys.length=i+m→(∀ t,o=some t→nr t)→∃ o' cs,(evo [] (m+41)).fo 4 aeO (u "task") (.ref 12) bodyO ⟨atO W k ys o i,20,[]⟩=some (.next,⟨posO W k ys o',20,[]⟩,cs)∧allP cs ∧ ∀ t,o'=some t→nr t
  | 0,i,o,hl,ho=>by
    have hn:ys[i]?=none:=List.getElem?_eq_none_iff.mpr (by omega)
    have e:=o_next W k ys o i
    rw [hn] at e
    refine ⟨o,[],?_,trivial,ho⟩
    show foF (evo [] (0+40)) 4 aeO (u "task") (.ref 12) bodyO _=_
    unfold foF
    rw [bd_val e]
    rfl
  | m+1,i,o,hl,ho=>by
    have hi:i<ys.length:=by omega
    have hs:ys[i]?=some ys[i]:=List.getElem?_eq_getElem hi
    obtain ⟨kd,nd,st,hd,q,hk,n1,n2,n3⟩:=hy _ (List.getElem_mem hi)
    have e:=o_next W k ys o i
    rw [hs,q] at e
    have hnr:nr (.ins 560 (tfs kd nd st hd)):=⟨trivial,n1,trivial,trivial,n2,n3,trivial,trivial⟩
    obtain ⟨o',cs,h1,h2,h3⟩:=o_loop W k ys hy m (i+1) (some (.ins 560 (tfs kd nd st hd))) (by omega) (fun t ht=>by cases ht; exact hnr)
    obtain ⟨a,b,c,ha,ha',hb,rfl,_⟩:=o_body kd hk W nd st hd k ys (i+1) (m+1)
    refine ⟨o',[ok2 a "while",ok2 a "activation",ok2 a "blockrun"]++cs,?_,allP_append.mpr ⟨⟨⟨okO ha',⟨_,rfl,by kernel_rfl⟩⟩,⟨okO ha',⟨_,rfl,by kernel_rfl⟩⟩,⟨okO ha',⟨_,rfl,by kernel_rfl⟩⟩,trivial⟩,h2⟩,h3⟩
    show foF (evo [] (m+1+40)) 4 aeO (u "task") (.ref 12) bodyO _=_
    unfold foF
    rw [bd_val e]
    simp only []
    rw [bd_val (o_store W k ys o (i+1) _),bd_val hb]
    simp only []
    have h1:(evo [] (m+1+40)).fo 4 aeO (u "task") (.ref 12) bodyO ⟨atO W k ys (some (.ins 560 (tfs kd nd st hd))) (i+1),20,[]⟩=some (.next,⟨posO W k ys o',20,[]⟩,cs):=h1
    rw [h1]
    rfl
variable {prog:Program}{w:World}{hb:HB}{mg mb:Str→Option Value}
theorem o_run (prog:Program) (w:World) (hb:HB) (t1 t2 t3 t5 t6:TV) (xs:List TV) (k:Str) (o:Option TV) (W:HW) (C:HC) :
    fnF (evsH [] W (foM prog w hb (atO (wkT t1 t2 t3 xs t5 t6) k xs.reverse none 0) (posO (wkT t1 t2 t3 xs t5 t6) k xs.reverse o)) C 60) 4 iOver [wkT t1 t2 t3 xs t5 t6,.str k] ⟨[],10,[]⟩ =
      some (.bool false,⟨[(11,.lst xs.reverse)],13,[]⟩,[xs.length≤szL,FC prog w hb 4 aeO (u "task") (.ref 12) bodyO (atO (wkT t1 t2 t3 xs t5 t6) k xs.reverse none 0) (posO (wkT t1 t2 t3 xs t5 t6) k xs.reverse o)∧[10,11,12].Nodup,
        Cell.ns (nsO (wkT t1 t2 t3 xs t5 t6) k none) = .ns (nsO (wkT t1 t2 t3 xs t5 t6) k none),Cell.lst xs.reverse = .lst xs.reverse,Cell.itr false (.ref 11) 0 = .itr false (.ref 11) 0]):=by kernel_rfl
theorem task_nr' {x:TV}(h:TaskT x):nr x:=by
  obtain ⟨kd,nd,st,hd,rfl,hk,n1,n2,n3⟩:=h
  exact ⟨trivial,n1,trivial,trivial,n2,n3,trivial,trivial⟩
theorem con_over (H:Hyp0 prog w hb mg mb) {t1 t2 t3 t5 t6:TV}{xs:List TV}{k:Str}(h1:nr t1) (h2:nr t2) (h3:nr t3) (h5:nr t5) (h6:nr t6) (hx:∀ x∈xs,TaskT x) (hl:xs.length≤szL):Con prog w clo hb ⟨819,5,[wkT t1 t2 t3 xs t5 t6,.str k],[],[],.bool false⟩:=by
  have hxr:∀ x∈xs.reverse,TaskT x:=fun x hm=>hx x (List.mem_reverse.mp hm)
  have hW:nr (wkT t1 t2 t3 xs t5 t6):=⟨h1,h2,h3,alTs_mem.mpr fun x hm=>task_nr' (hx x hm),h5,h6,trivial⟩
  obtain ⟨o',cs,e,hcs,ho⟩:=o_loop (wkT t1 t2 t3 xs t5 t6) k xs.reverse hxr xs.reverse.length 0 none (by omega) (fun t ht=>by cases ht)
  have nsc:∀ o:Option TV,(∀ t,o=some t→nr t)→clC [10,11,12] (.ns (nsO (wkT t1 t2 t3 xs t5 t6) k o)):=fun o ho=>by
    cases o with
    | none=>exact ⟨hW.cl,trivial,trivial⟩
    | some t=>exact ⟨hW.cl,trivial,(ho t rfl).cl,trivial⟩
  have lsc:clC [10,11,12] (.lst xs.reverse):=nrs.cl fun x hm=>task_nr' (hxr x hm)
  have O:Own0 [10,11,12] (atO (wkT t1 t2 t3 xs t5 t6) k xs.reverse none 0) (posO (wkT t1 t2 t3 xs t5 t6) k xs.reverse o') aeO:=by
    refine ⟨rfl,fun p hp => ?_,fun p hp => ?_,show [10,11].Nodup by decide,by show 10∈[10,11,12]; decide,fun p hp=>by cases hp⟩
    · have hp:p∈[(10,Cell.ns (nsO (wkT t1 t2 t3 xs t5 t6) k none)),(11,.lst xs.reverse),(12,.itr false (.ref 11) 0)]:=hp
      simp only [List.mem_cons,List.not_mem_nil,or_false] at hp
      rcases hp with rfl | rfl | rfl
      · exact nsc none (fun t ht=>by cases ht)
      · exact lsc
      · exact .tail _ (.head _)
    · have hp:p∈[(10,Cell.ns (nsO (wkT t1 t2 t3 xs t5 t6) k o')),(11,.lst xs.reverse)]:=hp
      simp only [List.mem_cons,List.not_mem_nil,or_false] at hp
      rcases hp with rfl | rfl
      · exact ⟨.head _,nsc o' ho⟩
      · exact ⟨.tail _ (.head _),lsc⟩
  have F:FC prog w hb 4 aeO (u "task") (.ref 12) bodyO (atO (wkT t1 t2 t3 xs t5 t6) k xs.reverse none 0) (posO (wkT t1 t2 t3 xs t5 t6) k xs.reverse o') :=
    FC.of_ev (H.snd sndO_nil _) O (show 12∈[10,11,12] by decide) e hcs (fun i hi=>by simp only [List.mem_cons,List.not_mem_nil,or_false] at hi; omega) fun p hp=>by
      have hp:p∈[(10,Cell.ns (nsO (wkT t1 t2 t3 xs t5 t6) k o')),(11,.lst xs.reverse)]:=hp
      simp only [List.mem_cons,List.not_mem_nil,or_false] at hp
      rcases hp with rfl | rfl<;>kernel_rfl
  refine con_of_m (m:=fnF (evsH [] (whM prog w hb [] []) (foM prog w hb (atO (wkT t1 t2 t3 xs t5 t6) k xs.reverse none 0) (posO (wkT t1 t2 t3 xs t5 t6) k xs.reverse o')) (coM prog w hb [] []) 60) 4 iOver [wkT t1 t2 t3 xs t5 t6,.str k]) (fun A g f ρ vs r hv=>fnH H sndO_nil (hkOk ..) (by kernel_rfl) r hv)
    (o_run prog w hb t1 t2 t3 t5 t6 xs k o' _ _) ⟨hl,⟨F,by decide⟩,rfl,rfl,rfl,trivial⟩ (fun p hp=>by cases hp) (fun p hp=>by cases hp) .nil
end
section
section
variable {P:Params}{g:PH}{ρ:Rho}
theorem VR.raw' {t:TV}{v:Value}(h:VR P g ρ t v):∃ t',nr t' ∧ ∀ g' ρ',VR P g' ρ' t' v:=by
  cases h with
  | none=>exact ⟨.none,trivial,fun _ _=>.none⟩
  | @bool b=>exact ⟨.bool b,trivial,fun _ _=>.bool⟩
  | @sym b=>exact ⟨.bool b,trivial,fun _ _=>.bool⟩
  | @int i t=>exact ⟨.int i,trivial,fun _ _=>.int⟩
  | @sint i t=>exact ⟨.int i,trivial,fun _ _=>.int⟩
  | @str s t=>exact ⟨.str s,trivial,fun _ _=>.str⟩
  | @type n=>exact ⟨.type n,trivial,fun _ _=>.type⟩
  | @bi n=>exact ⟨.bi n,trivial,fun _ _=>.bi⟩
  | @raw a=>exact ⟨.raw a,trivial,fun _ _=>.raw⟩
  | ref _=>exact ⟨.raw _,trivial,fun _ _=>.raw⟩
  | tup _ _=>exact ⟨.raw _,trivial,fun _ _=>.raw⟩
  | lst _ _=>exact ⟨.raw _,trivial,fun _ _=>.raw⟩
  | ins _ _ _=>exact ⟨.raw _,trivial,fun _ _=>.raw⟩
theorem FR.task {kd:Str}{nd st hd:TV}{es:List DictEntry}(h:FR P g ρ (tfs kd nd st hd) es):∃ nd' st' hd',nr nd'∧nr st'∧nr hd' ∧ ∀ g' ρ',FR P g' ρ' (tfs kd nd' st' hd') es:=by
  have h:FR P g ρ [(u "kind",.str kd),(u "node",nd),(u "env",.none),(u "number",.none),(u "state",st),(u "held",hd),(u "kept",.none)] es:=h
  cases h with
  | cons p1 r1=>cases r1 with
    | cons p2 r2=>cases r2 with
      | cons p3 r3=>cases r3 with
        | cons p4 r4=>cases r4 with
          | cons p5 r5=>cases r5 with
            | cons p6 r6=>cases r6 with
              | cons p7 r7 =>
                cases r7
                obtain ⟨nd',n1,h1⟩:=p2.raw'
                obtain ⟨st',n2,h2⟩:=p5.raw'
                obtain ⟨hd',n3,h3⟩:=p6.raw'
                cases p1
                cases p3
                cases p4
                cases p7
                exact ⟨nd',st',hd',n1,n2,n3,fun g' ρ'=>.cons .str (.cons (h1 _ _) (.cons .none (.cons .none (.cons (h2 _ _) (.cons (h3 _ _) (.cons .none .nil))))))⟩
end
theorem isTask_at {fs:List (Str×TV)}(h:isTask fs=true):∃ kd nd st hd,fs=tfs kd nd st hd∧kd∈okKinds:=by
  unfold isTask at h
  split at h
  · simp only [Bool.and_eq_true] at h
    obtain ⟨⟨⟨⟨⟨⟨⟨h1,h2⟩,h3⟩,h4⟩,h5⟩,h6⟩,h7⟩,h8⟩:=h
    rw [sq_iff.mp h1,sq_iff.mp h2,sq_iff.mp h3,sq_iff.mp h4,sq_iff.mp h5,sq_iff.mp h6,sq_iff.mp h7]
    exact ⟨_,_,_,_,rfl,hasN_mem h8⟩
  · cases h
theorem headOk_at {cells:List Ent}{t:TV}(h:headOk cells t=true):∃ i kd nd st hd,t = .ref i∧(i,Cell.inst 560 (tfs kd nd st hd))∈cells∧kd∈okKinds:=by
  unfold headOk at h
  cases t<;>first | (cases h; done) | skip
  rename_i i
  simp only [] at h
  cases hl:lkC cells i with
  | none=>rw [hl] at h; cases h
  | some c =>
    rw [hl] at h
    cases c<;>first | (cases h; done) | skip
    rename_i C fs
    simp only [Bool.and_eq_true] at h
    have hC:C=560:=Nat.eq_of_beq_eq_true h.1
    subst hC
    obtain ⟨kd,nd,st,hd,rfl,hkd⟩:=isTask_at h.2
    exact ⟨i,kd,nd,st,hd,rfl,lkC_mem hl,hkd⟩
theorem isWkr_at {fs:List (Str×TV)}{t:TV}(h:isWkr fs=some t):∃ t1 t2 t3 t5 t6,fs=[(u "world",t1),(u "table",t2),(u "catches",t3),(u "stack",t),(u "way",t5),(u "fiber",t6)]:=by
  unfold isWkr at h
  split at h
  · rename_i a t1 b t2 c t3 d t4 e t5 f t6
    cases q:(sq a (u "world")&&sq b (u "table")&&sq c (u "catches")&&sq d (u "stack")&&sq e (u "way")&&sq f (u "fiber")) with
    | false=>rw [q] at h; cases h
    | true =>
      rw [q] at h
      cases h
      simp only [Bool.and_eq_true] at q
      obtain ⟨⟨⟨⟨⟨h1,h2⟩,h3⟩,h4⟩,h5⟩,h6⟩:=q
      rw [sq_iff.mp h1,sq_iff.mp h2,sq_iff.mp h3,sq_iff.mp h4,sq_iff.mp h5,sq_iff.mp h6]
      exact ⟨_,_,_,_,_,rfl⟩
  · cases h
theorem hidF_sub {l:List Ent}{e:Ent}(h:e∈hidF l):e∈l:=by
  induction l with
  | nil=>cases h
  | cons p r ih =>
    have h:e ∈ @Bool.rec (fun _=>List Ent) (hidF r) (p::hidF r) (Nat.ble 2000 p.1&&Nat.ble p.1 999999):=h
    cases q:(Nat.ble 2000 p.1&&Nat.ble p.1 999999) with
    | true =>
      rw [q] at h
      rcases List.mem_cons.mp h with rfl | h
      · exact .head _
      · exact .tail _ (ih h)
    | false=>rw [q] at h; exact .tail _ (ih h)
section
variable {prog:Program}{w:World}{hb:HB}{mg mb:Str→Option Value}{g f:PH}{ρ:Rho}{h:Heap}{cells:List Ent}
theorem tasks_view (R:Rel prog w clo g f h ρ cells):∀ {ts:List TV}{vs:List Value},VRs w.params g ρ ts vs→OverOk cells ts→∃ xs,(∀ ρ',VRs w.params h.get? ρ' xs vs) ∧ ∀ x∈xs,TaskT x
  | [],_,hv,_=>by cases hv; exact ⟨[],fun _=>.nil,fun x hx=>by cases hx⟩
  | t::ts,_,hv,ho=>by
    cases hv with
    | @cons t v ts vs p q =>
      obtain ⟨xs,h1,h2⟩:=tasks_view R q fun x hx=>ho x (.tail _ hx)
      obtain ⟨i,kd,nd,st,hd,rfl,hm,hk⟩:=ho _ (.head _)
      cases p with
      | ref hi =>
        obtain ⟨a,d,e,o1,es,n,o2,o3,_⟩:=R.at_ _ _ hm
        rw [hi] at e; cases e
        obtain ⟨nd',st',hd',n1,n2,n3,hf⟩:=o3.task
        exact ⟨.ins 560 (tfs kd nd' st' hd')::xs,fun ρ'=>.cons (.ins o1 o2 (hf _ _)) (h1 ρ'),fun x hx=>by
          rcases List.mem_cons.mp hx with rfl | hx
          · exact ⟨kd,nd',st',hd',rfl,hk,n1,n2,n3⟩
          · exact h2 x hx⟩
theorem sndO_over (H:Hyp0 prog w hb mg mb):SndO prog w clo hb orcM:=by
  intro a m e A d g f ρ ts vs r hv
  replace e:lkC [(819,overM)] a=some m:=e
  rw [lkC_cons] at e
  by_cases q:819=a
  · rw [if_pos q] at e
    cases e
    subst q
    intro σ t σ' c e hc s R
    replace e:overM d ts σ=some (t,σ',c):=e
    unfold overM at e
    split at e
    · rename_i wi k
      obtain ⟨hk,e⟩:=chk_inv e
      obtain ⟨x,hx,e⟩:=getC_inv e
      cases x<;>first | (cases e; done) | skip
      rename_i C fs
      obtain ⟨hC,e⟩:=chk_inv e
      have hC:C=659:=Nat.eq_of_beq_eq_true hC
      subst hC
      obtain ⟨tw,htw,e⟩:=orFail_inv e
      cases tw<;>first | (cases e; done) | skip
      rename_i si
      obtain ⟨y,hy,e⟩:=getC_inv e
      cases y<;>first | (cases e; done) | skip
      rename_i rv
      cases rv with
      | nil=>cases e
      | cons t0 rev =>
        obtain ⟨hd4,e⟩:=chk_inv e
        have e:(chk (headOk σ.cells t0) fun σ=>some (.bool false,σ,[OverOk (hidF σ.cells) rev]):M TV) σ=some (t,σ',c):=e
        obtain ⟨hh,e⟩:=chk_inv e
        cases e
        obtain ⟨ho,_⟩:=hc
        obtain ⟨t1,t2,t3,t5,t6,rfl⟩:=isWkr_at htw
        have hall:OverOk σ.cells (t0::rev).reverse:=fun t ht=>by
          rcases List.mem_cons.mp (List.mem_reverse.mp ht) with rfl | ht
          · exact headOk_at hh
          · obtain ⟨i,kd,nd,st,hd,e1,e2,e3⟩:=ho t ht
            exact ⟨i,kd,nd,st,hd,e1,hidF_sub e2,e3⟩
        cases hv with
        | cons pw hv=>cases hv with
          | cons pk hv =>
            cases hv
            cases pw with
            | @ref _ aw dw hw =>
            obtain ⟨o1,es,n,o2,o3,_⟩:=R.cell hx hw
            cases pk with
            | @str _ tk =>
            cases o3 with
            | cons p1 r1=>cases r1 with
              | cons p2 r2=>cases r2 with
                | cons p3 r3=>cases r3 with
                  | cons p4 r4=>cases r4 with
                    | cons p5 r5=>cases r5 with
                      | cons p6 r6 =>
                        cases r6
                        cases p4 with
                        | @ref _ al dl hl =>
                        obtain ⟨va,nn,l1,l2,l3⟩:=R.cell hy hl
                        obtain ⟨xs,hxs,htask⟩:=tasks_view R.r l2 hall
                        obtain ⟨y1,m1,q1⟩:=p1.raw'
                        obtain ⟨y2,m2,q2⟩:=p2.raw'
                        obtain ⟨y3,m3,q3⟩:=p3.raw'
                        obtain ⟨y5,m5,q5⟩:=p5.raw'
                        obtain ⟨y6,m6,q6⟩:=p6.raw'
                        have hlen:xs.length≤szL:=by
                          have:=(hxs fun _=>none).length
                          rw [this,Array.length_toList]; exact l3
                        have con:=con_over H (k:=k) m1 m2 m3 m5 m6 htask hlen
                        refine wpAny_mono (con A s.heap.get? s.heap.get? (fun _=>none) [.ref aw,.str k tk] s (r.le (by have:=ble_k hd4; show 5≤d+1; omega)) (fun _ _=>rfl) ⟨fun b o e=>R.keeps b o e,R.b0.2⟩
                          (.cons (.ins o1 o2 (.cons (q1 _ _) (.cons (q2 _ _) (.cons (q3 _ _) (.cons (.lst l1 (hxs _)) (.cons (q5 _ _) (.cons (q6 _ _) .nil))))))) (.cons .str .nil))
                          ⟨PH.le_refl _,fun _ _ e=>e,(fun i c hm=>by cases hm),(fun a ha=>by cases ha),List.Pairwise.nil⟩) (fun v s' z => ?_) fun _ _ z=>z
                        obtain ⟨g',f',ρ',E,R',V,hs⟩:=z
                        refine .same (R.grow (fun b o e=>R'.keep _ _ (E.fl _ _ e)) hs) ?_
                        cases V; exact .bool
    · cases e
  · rw [if_neg (by exact q)] at e; cases e
end
end
structure Bg where
  gr:List Int
  n:Int
  sd:Int
  lf:Int
def bagC (b:Bg):Cell:=.lst [.lst (b.gr.map .sint),.sint b.n,.sint b.sd,.sint b.lf]
def Bg.dec (b:Bg):Bg:=⟨b.gr,b.n,b.sd,b.lf - 1⟩
def iTake:FnI:=fnI (sT 80) "_law_take" [] none
def iMark:FnI:=fnI (sT 81) "_law_mark" [] none
def iItem:FnI:=fnI (sT 82) "_law_item" [] none
def iSeq:FnI:=fnI (sT 83) "_law_seq" [] none
def iRescue:FnI:=fnI (sT 84) "_law_rescue" [] none
def iBegin:FnI:=fnI (sT 85) "_law_begin" [] none
def eB (fn d:Nat) (args:List TV) (b b':Bg) (r:TV):EntC:=⟨fn,d,.ref 1::args,[(1,bagC b)],[(1,bagC b')],r⟩
def cB (m fn d:Nat) (args:List TV) (b:Bg):List Prop:=[fn=fn∧d≤m∧TV.ref 1::args = .ref 1::args,bagC b=bagC b]
def tk (d:Nat) (m:Int) (b b':Bg) (r:TV):EntC:=eB 1122 d [.int m] b b' r
def ctk (D d:Nat) (m:Int) (b:Bg):List Prop:=cB (D+7+1) 1122 d [.int m] b
def orcG (t:List EntC) (fn:Nat) (t':List EntC) (fn2:Nat) (t2:List EntC):Orc:=[(1122,entM t 1122),(fn,entM t' fn),(fn2,entM t2 fn2)]
def seeG (r:Option (TV×St×List Prop)):Option (TV×Option Cell×List Prop):=match r with
  | some (t,σ,c)=>some (t,lkC σ.cells 1,c)
  | none=>none
def rnG (orc:Orc) (i:FnI) (D:Nat) (args:List TV) (b:Bg) (dirs:List Nat):=seeG (fnF (evo orc 120) (D+8) i (.ref 1::args) ⟨[(1,bagC b)],10,dirs⟩)
def rnGB (orc:Orc) (i:FnI) (D:Nat) (args:List TV) (b:Bg) (dirs:List Nat):=seeG (((fnF (evo orc 120) (D+8) i (.ref 1::args)).bd finB) ⟨[(1,bagC b)],10,dirs⟩)
def tkX (b:Bg):Int:=(((((b.sd+40063*(b.n+1)) ^ 5).fmod 2147483647)+93001*(b.n+1)) ^ 3).fmod 2147483587
theorem g_take0 (n sd lf m:Int) (D:Nat):rnGB [] iTake D [.int m] ⟨[],n,sd,lf⟩ []=some (.sint (((tkX ⟨[],n,sd,lf⟩).fdiv 16).fmod m),some (bagC ⟨[],n+1,sd,lf⟩),
    [okTs [],IntMulOk 40063 (n+1),0≤(5:Int)∧(5:Int)≤1000000∧(sd+40063*(n+1)).natAbs<2 ^ 64,(2147483647:Int)≠0,IntMulOk 93001 (n+1),
      0≤(3:Int)∧(3:Int)≤1000000∧((((sd+40063*(n+1)) ^ 5).fmod 2147483647)+93001*(n+1)).natAbs<2 ^ 64,(2147483587:Int)≠0,
      (16:Int)≠0∧Builtin.divisionGoesByPylong (tkX ⟨[],n,sd,lf⟩) 16=false,m≠0]):=by kernel_rfl
theorem g_take1 (g:Int) (r:List Int) (n sd lf m:Int) (D:Nat) (v:Bool):rnGB [] iTake D [.int m] ⟨g::r,n,sd,lf⟩ [cond v 1 0]=some (.sint (g.fmod m),some (bagC ⟨cond v (g.fdiv m::r) r,n+1,sd,lf⟩),
    [okTs ((g::r).map .sint),m≠0,m≠0∧Builtin.divisionGoesByPylong g m=false,cond v (0<g.fdiv m) (¬ 0<g.fdiv m),((g::r).map TV.sint).length≤szL,(cond v [TV.sint (g.fdiv m)] []++List.drop 1 ((g::r).map TV.sint)).length≤1000]):=by
  cases v<;>kernel_rfl
def oG (t be:List EntC):Orc:=orcG t 1151 be 1136 []
def rnI (t be:List EntC) (D:Nat) (δ:Nat) (b:Bg) (dirs:List Nat):=rnG (oG t be) iItem D [.int (δ:Int)] b dirs
theorem g_mark (b:Bg) (D:Nat):rnG [] iMark D [] b []=some (symT b.n,some (bagC b),[]):=by kernel_rfl
theorem gi_end (b:Bg) (D δ:Nat):rnI [] [] D δ b [0]=some (symT b.n,some (bagC b.dec),[¬ 0<b.lf - 1]):=by
  kernel_rfl
theorem gi_toss (b b1 b2:Bg) (D d δ:Nat) (k:Int):rnI [tk d 9 b.dec b1 (.int 0),tk d 4 b1 b2 (.sint k)] [] D δ b [1,0,1] =
    some (ndT (u "ivar") (.tup [.sint k]),some (bagC b2),(0<b.lf - 1)::(ctk D d 9 b.dec++ctk D d 4 b1)):=by
  kernel_rfl
def W3.n:W3→Int
  | .brk=>0
  | .nxt=>1
  | .ret=>2
theorem gi_out (b b1 b2 b3:Bg) (D d δ:Nat) (k:W3) (v:Bool):rnI [tk d 9 b.dec b1 (.int 1),tk d 3 b1 b2 (.int k.n),tk d 2 b2 b3 (.int (cond v 1 0))] [] D δ b [1,0,1,2] =
    some (ndT (u k.k) (.tup [markT (cond v (some b2.n) none)]),some (bagC b3),(0<b.lf - 1)::(ctk D d 9 b.dec++(ctk D d 3 b1++ctk D d 2 b2))):=by
  cases k<;>cases v<;>kernel_rfl
theorem gi_last (b b1:Bg) (D d δ:Nat):rnI [tk d 9 b.dec b1 (.int 2)] [] D δ b [1,0]=some (ndT (u "self") (.tup []),some (bagC b1),(0<b.lf - 1)::ctk D d 9 b.dec):=by
  kernel_rfl
theorem gi_beg (b b1 b2:Bg) (D d d' δ w:Nat) (ke:Str) (p:TV) (h:δ<3) (hw:3≤w∧w<7):rnI [tk d 9 b.dec b1 (.int (w:Int))] [eB 1151 d' [.int (δ:Int)] b1 b2 (ndT ke p)] D (δ+1) b [1,0,0] =
    some (ndT ke p,some (bagC b2),(0<b.lf - 1)::(ctk D d 9 b.dec++cB (D+7+1) 1151 d' [.int (δ:Int)] b1)):=by
  rcases (by omega:δ=0∨δ=1∨δ=2) with rfl | rfl | rfl<;>rcases (by omega:w=3∨w=4∨w=5∨w=6) with rfl | rfl | rfl | rfl<;>kernel_rfl
theorem gi_mrk (b b1:Bg) (D d δ w:Nat) (hw:(3≤w∧w<7∧δ=0)∨w=7∨w=8):rnI [tk d 9 b.dec b1 (.int (w:Int))] [] D δ b [1,0] =
    some (symT b1.n,some (bagC b1),(0<b.lf - 1)::ctk D d 9 b.dec):=by
  rcases (by omega:(w=3∧δ=0)∨(w=4∧δ=0)∨(w=5∧δ=0)∨(w=6∧δ=0)∨w=7∨w=8) with ⟨rfl,rfl⟩ | ⟨rfl,rfl⟩ | ⟨rfl,rfl⟩ | ⟨rfl,rfl⟩ | rfl | rfl
  · kernel_rfl
  · kernel_rfl
  · kernel_rfl
  · kernel_rfl
  · kernel_rfl
  · kernel_rfl
inductive Tls
  | no
  | no' (b':Bg)
  | yes (b' b'':Bg) (k:Int)
def rnS (t it:List EntC) (D:Nat) (δ:Nat) (r:Bool) (b:Bg) (dirs:List Nat):=rnG (orcG t 1136 it 1151 []) iSeq D [.int (δ:Int),.bool r] b dirs
def eI (d δ:Nat) (b b':Bg) (k:Str) (p:TV):EntC:=eB 1136 d [.int (δ:Int)] b b' (ndT k p)
def Tls.r:Tls→Bool
  | .no=>false
  | _=>true
def Tls.tk (d:Nat) (b:Bg):Tls→List EntC
  | .no=>[]
  | .no' b'=>[Nu.tk d 2 b b' (.int 0)]
  | .yes b' b'' k=>[Nu.tk d 2 b b' (.int 1),Nu.tk d 2 b' b'' (.sint k)]
def Tls.cd (D d:Nat) (b:Bg):Tls→List Prop
  | .no=>[]
  | .no' b'=>ctk D d 2 b
  | .yes b' b'' k=>ctk D d 2 b++ctk D d 2 b'
def Tls.b (b:Bg):Tls→Bg
  | .no=>b
  | .no' b'=>b'
  | .yes _ b'' _=>b''
def Tls.t:Tls→Tl
  | .yes b' _ k=>some (b'.n,1+k)
  | _=>none
def Tls.d:Tls→List Nat
  | .no=>[]
  | .no' _=>[1]
  | .yes .. => [1,2]
theorem g_seq1 (b b1 b2:Bg) (D d d' δ:Nat) (k:Str) (p:TV) (tl:Tls):rnS (tk d 2 b b1 (.int 0)::tl.tk d b2) [eI d' δ b1 b2 k p] D δ tl.r b ([0,0]++tl.d) =
    some (ndT (u "seq") (.tup [.lst (ndT k p::tlT tl.t)]),some (bagC (tl.b b2)),ctk D d 2 b++(cB (D+7+1) 1136 d' [.int (δ:Int)] b1++tl.cd D d b2)):=by
  cases tl<;>kernel_rfl
theorem g_seq2 (b b1 b2 b3:Bg) (D d d' δ:Nat) (k k2:Str) (p p2:TV) (tl:Tls):rnS (tk d 2 b b1 (.int 1)::tl.tk d b3) [eI d' δ b1 b2 k p,eI d' δ b2 b3 k2 p2] D δ tl.r b ([0,0,1]++tl.d) =
    some (ndT (u "seq") (.tup [.lst (ndT k p::ndT k2 p2::tlT tl.t)]),some (bagC (tl.b b3)),ctk D d 2 b++(cB (D+7+1) 1136 d' [.int (δ:Int)] b1++(cB (D+7+1) 1136 d' [.int (δ:Int)] b2++tl.cd D d b3))):=by
  cases tl<;>kernel_rfl
def Cn.n:Cn→Int
  | .k0=>0
  | .k1=>1
  | .k2=>2
  | .k7=>3
  | .k9=>4
def rnRs (t sq:List EntC) (D:Nat) (δ:Nat) (b:Bg) (dirs:List Nat):=rnGB (orcG t 1141 sq 1136 []) iRescue D [.int (δ:Int)] b dirs
def eS (d δ:Nat) (r:Bool) (b b':Bg) (k:Str) (p:TV):EntC:=eB 1141 d [.int (δ:Int),.bool r] b b' (ndT k p)
def cE (D d δ:Nat) (r:Bool) (b:Bg):List Prop:=cB (D+7+1) 1141 d [.int (δ:Int),.bool r] b
theorem g_resc (cl:Cl) (g:Bool) (b b1 b2 b3 b4 b5:Bg) (D d d' δ:Nat) (k:Str) (p:TV) :
    rnRs (match cl with
      | .c0=>[tk d 3 b b1 (.int 0),tk d 2 b1 b4 (.int (cond g 1 0))]
      | .c1 x=>[tk d 3 b b1 (.int 1),tk d 5 b1 b2 (.int x.n),tk d 2 b2 b4 (.int (cond g 1 0))]
      | .c2 x y=>[tk d 3 b b1 (.int 2),tk d 5 b1 b2 (.int x.n),tk d 5 b2 b3 (.int y.n),tk d 2 b3 b4 (.int (cond g 1 0))]) [eS d' δ true b4 b5 k p] D δ b (match cl with
      | .c0=>[0,1,0]
      | .c1 _=>[0,1,2,0]
      | .c2 .. => [0,1,2,3,0]) =
    some (.tup [.lst (clT' cl),gT g,ndT k p],some (bagC b5),(match cl with
      | .c0=>ctk D d 3 b++ctk D d 2 b1
      | .c1 _=>ctk D d 3 b++(ctk D d 5 b1++ctk D d 2 b2)
      | .c2 .. => ctk D d 3 b++(ctk D d 5 b1++(ctk D d 5 b2++ctk D d 2 b3)))++cE D d' δ true b4):=by
  rcases cl with _ | x | ⟨x,y⟩<;>cases g<;>(try cases x)<;>(try cases y)<;>kernel_rfl
def rcT (l:TV) (g:Bool) (k:Str) (p:TV):TV:=.tup [l,gT g,ndT k p]
def eRs (d δ:Nat) (b b':Bg) (r:TV):EntC:=eB 1146 d [.int (δ:Int)] b b' r
def cRs (D d δ:Nat) (b:Bg):List Prop:=cB (D+7+1) 1146 d [.int (δ:Int)] b
def rnB (t sq rs:List EntC) (D:Nat) (δ:Nat) (b:Bg) (dirs:List Nat):=rnG (orcG t 1141 sq 1146 rs) iBegin D [.int (δ:Int)] b dirs
inductive Opq
  | no
  | yes (k:Str) (p:TV) (b':Bg)
def Opq.b (b:Bg):Opq→Bg
  | .no=>b
  | .yes _ _ b'=>b'
def Opq.v:Opq→TV
  | .no=>.none
  | .yes k p _=>ndT k p
def Opq.i:Opq→Int
  | .no=>0
  | .yes .. => 1
def Opq.e (d δ:Nat) (b:Bg):Opq→List EntC
  | .no=>[]
  | .yes k p b'=>[eS d δ false b b' k p]
def Opq.c (D d δ:Nat) (b:Bg):Opq→List Prop
  | .no=>[]
  | .yes k p b'=>cE D d δ false b
abbrev Rsc:=List (Str×TV×Bg×List TV×Bool)
def rsE (d δ:Nat):Bg→Rsc→List EntC
  | _,[]=>[]
  | b,(k,p,b',l,g)::r=>eRs d δ b b' (rcT (.lst l) g k p)::rsE d δ b' r
def rsC (D d δ:Nat):Bg→Rsc→List Prop
  | _,[]=>[]
  | b,(_,_,b',_,_)::r=>cRs D d δ b++rsC D d δ b' r
def rsB:Bg→Rsc→Bg
  | b,[]=>b
  | _,(_,_,b',_,_)::r=>rsB b' r
def rsT:Rsc→List TV
  | []=>[]
  | (k,p,_,l,g)::r=>rcT (.lst l) g k p::rsT r
def rsN:Rsc→Int
  | []=>0
  | [_]=>1
  | _=>2
def rsD:Rsc→List Nat
  | []=>[]
  | [_]=>[0]
  | _=>[0,1]
theorem g_begin (b b1 b2 b3 b4:Bg) (rs:Rsc) (o l:Opq) (D d d1 d2 δ:Nat) (k:Str) (p:TV) (h:rs.length≤2) :
    rnB [tk d 3 b1 b2 (.int (rsN rs)),tk d 2 (rsB b2 rs) b3 (.int o.i),tk d 2 (o.b b3) b4 (.int l.i)] (eS d1 δ false b b1 k p::(o.e d1 δ b3++l.e d1 δ b4)) (rsE d2 δ b2 rs) D δ b
      ([0,0]++(rsD rs++(1::((match o with | .no=>[] | .yes .. => [1])++(2::match l with | .no=>[] | .yes .. => (match o with | .no=>[1] | .yes .. => [2])))))) =
    some (ndT (u "begin") (.tup [ndT k p,.lst (rsT rs),o.v,l.v]),some (bagC (l.b b4)),cE D d1 δ false b++(ctk D d 3 b1++(rsC D d2 δ b2 rs++(ctk D d 2 (rsB b2 rs)++(o.c D d1 δ b3++(ctk D d 2 (o.b b3)++l.c D d1 δ b4)))))):=by
  rcases rs with _ | ⟨⟨k1,p1,c1,l1,_ | _⟩,_ | ⟨⟨k2,p2,c2,l2,_ | _⟩,_ | ⟨_,rs⟩⟩⟩<;>simp only [List.length_cons,List.length_nil] at h<;>first
    | (exfalso; omega)
    | (cases o<;>cases l<;>kernel_rfl)
section
def flat (t:TV):Prop:=∃ d,pd t=some d∧d.canLay0=true∧d.depth≤3
theorem flat_all:∀ {ts:List TV},(∀ t∈ts,flat t)→∃ ds,pds ts=some ds∧PyData.canLayAll0 ds=true∧PyData.depthAll ds≤3
  | [],_=>⟨[],rfl,by simp [PyData.canLayAll0],by simp [PyData.depthAll]⟩
  | t::ts,h=>by
    obtain ⟨d,h1,h2,h3⟩:=h t (.head _)
    obtain ⟨ds,g1,g2,g3⟩:=flat_all (ts:=ts) fun x hx=>h x (.tail _ hx)
    refine ⟨d::ds,by rw [pds,h1,g1],by simp [PyData.canLayAll0,h2,g2],?_⟩
    simp only [PyData.depthAll]
    exact Nat.max_le.mpr ⟨h3,g3⟩
theorem okTs_flat {ts:List TV}(h:∀ t∈ts,flat t):okTs ts:=by
  obtain ⟨ds,h1,h2,h3⟩:=flat_all h
  refine ⟨ds,h1,?_⟩
  unfold SeqAt.shaped
  rw [Bool.and_eq_true]
  exact ⟨by simpa [PyData.canLay0] using h2,decide_eq_true (by simp only [PyData.depth]; omega)⟩
theorem flat_int (i:Int):flat (.sint i):=⟨.int i,rfl,by simp [PyData.canLay0],by simp [PyData.depth]⟩
theorem okTs_ints (l:List Int):okTs (l.map .sint):=okTs_flat fun t ht=>by
  obtain ⟨i,_,rfl⟩:=List.mem_map.mp ht
  exact flat_int i
structure BgOk (b:Bg) (K:Nat):Prop where
  n0:0≤b.n
  n1:b.n≤K
  s0:0≤b.sd
  s1:b.sd<2147483629
  g:b.gr.length≤24
theorem BgOk.up {b:Bg}{K K':Nat}(h:BgOk b K) (hk:K≤K'):BgOk b K':=⟨h.n0,Int.le_trans h.n1 (by omega),h.s0,h.s1,h.g⟩
theorem BgOk.dec {b:Bg}{K:Nat}(h:BgOk b K):BgOk b.dec K:=⟨h.n0,h.n1,h.s0,h.s1,h.g⟩
theorem bag_nr (b:Bg):nrs [TV.lst (b.gr.map .sint),.sint b.n,.sint b.sd,.sint b.lf]:=by
  have key:∀ l:List Int,alTs (fun _=>False) (l.map TV.sint):=fun l=>by
    induction l with
    | nil=>exact trivial
    | cons _ _ ih=>exact ⟨trivial,ih⟩
  intro t ht
  simp only [List.mem_cons,List.not_mem_nil,or_false] at ht
  rcases ht with rfl | rfl | rfl | rfl
  · exact key _
  · exact trivial
  · exact trivial
  · exact trivial
theorem eB_ok {fn d:Nat}{args:List TV}{b b':Bg}{r:TV}(ha:nrs args) (hr:nr r):EntOk (eB fn d args b b' r) where
  same:=rfl
  nd:=show [1].Nodup by decide
  args:=⟨.head _,nrs.cl ha⟩
  pre:=fun e he=>by
    have he:e∈[(1,bagC b)]:=he
    rw [List.mem_singleton] at he; subst he; exact nrs.cl (bag_nr b)
  post:=fun e he=>by
    have he:e∈[(1,bagC b')]:=he
    rw [List.mem_singleton] at he; subst he; exact nrs.cl (bag_nr b')
  res:=hr.cl
theorem cB_ok {m fn d:Nat}{args:List TV}{b:Bg}(h:d≤m):allP (cB m fn d args b):=⟨⟨rfl,h,rfl⟩,rfl,trivial⟩
theorem ints_nr {l:List TV}(h:∀ t∈l,(∃ i,t = .int i) ∨ ∃ b,t = .bool b):nrs l:=fun t ht=>by
  rcases h t ht with ⟨i,rfl⟩ | ⟨b,rfl⟩<;>exact trivial
theorem blend_lt {sd n:Int}{m:Int}(hm:0<m) (hm':m≤2147483647) {x:Int}(h0:0≤n) (h1:n≤1000000):(x.fmod m+93001*(n+1)).natAbs<2 ^ 64:=by
  have h2:=Int.fmod_nonneg_of_pos x hm
  have h3:=Int.fmod_lt_of_pos x hm
  omega
section
variable {prog:Program}{w:World}{hb:HB}{mg mb:Str→Option Value}
theorem seeG_at {r:Option (TV×St×List Prop)}{t:TV}{b:Bg}{c:List Prop}(h:seeG r=some (t,some (bagC b),c)):∃ σ',r=some (t,σ',c) ∧ ∀ e∈[((1:Nat),bagC b)],lkC σ'.cells e.1=some e.2:=by
  unfold seeG at h
  split at h
  · rename_i t' σ c'
    simp only [Option.some.injEq,Prod.mk.injEq] at h
    obtain ⟨rfl,h2,rfl⟩:=h
    exact ⟨σ,rfl,fun e he=>by rw [List.mem_singleton] at he; subst he; exact h2⟩
  · cases h
theorem pre_lt {c:Cell}:∀ p∈[((1:Nat),c)],p.1<10:=fun p hp=>by rw [List.mem_singleton] at hp; subst hp; exact (by decide:1<10)
theorem Con.res_int {fn d:Nat}{args:List TV}{pre post:List Ent}{k:Int}(h:Con prog w clo hb ⟨fn,d,args,pre,post,.sint k⟩):Con prog w clo hb ⟨fn,d,args,pre,post,.int k⟩:=h.res_wk fun g ρ v hv=>by cases hv; exact .int
variable (H:Hyp0 prog w hb mg mb)
include H
theorem con_B {orc:Orc}(O:SndO prog w clo hb orc) {fn:Nat}{i:FnI}(hf:lkC theTab.fn fn=some i) {D:Nat}{args:List TV}{b b':Bg}{dirs:List Nat}{t:TV}{cds:List Prop}(e:rnG orc i D args b dirs=some (t,some (bagC b'),cds)) (hc:allP cds) {d:Nat}(hd:D+9≤d):Con prog w clo hb (eB fn d args b b' t):=by
  obtain ⟨σ',e',h3⟩:=seeG_at e
  exact (con_run H O hf e' hc pre_lt h3 (show [1].Nodup by decide)).deeper hd
theorem con_BB {orc:Orc}(O:SndO prog w clo hb orc) {fn:Nat}{i:FnI}(hf:lkC theTab.fn fn=some i) {D:Nat}{args:List TV}{b b':Bg}{dirs:List Nat}{t:TV}{cds:List Prop}(e:rnGB orc i D args b dirs=some (t,some (bagC b'),cds)) (hc:allP cds) {d:Nat}(hd:D+9≤d):Con prog w clo hb (eB fn d args b b' t):=by
  obtain ⟨σ',e',h3⟩:=seeG_at e
  exact (con_runB H O hf e' hc pre_lt h3 (show [1].Nodup by decide)).deeper hd
theorem c_take {m:Int}(hm:0<m) (hm':m<10) {b:Bg}{K:Nat}(hb':BgOk b K) (hK:K+1≤1000000):∃ (b':Bg) (k:Int),BgOk b' (K+1)∧b'.lf=b.lf∧0≤k∧k<m ∧ ∀ d,9≤d→Ent1 prog w hb (tk d m b b' (.sint k))∧Ent1 prog w hb (tk d m b b' (.int k)):=by
  have h1:=hb'.n0
  have h2:=hb'.n1
  have key:∀ (b':Bg) (x:Int),(∀ d,9≤d→Con prog w clo hb (tk d m b b' (.sint (x.fmod m))))→BgOk b' (K+1)→b'.lf=b.lf→∃ (b':Bg) (k:Int),BgOk b' (K+1)∧b'.lf=b.lf∧0≤k∧k<m ∧ ∀ d,9≤d→Ent1 prog w hb (tk d m b b' (.sint k))∧Ent1 prog w hb (tk d m b b' (.int k)):=fun b' x hx hok hl =>
    ⟨b',x.fmod m,hok,hl,Int.fmod_nonneg_of_pos x hm,Int.fmod_lt_of_pos x hm,fun d hd=>⟨⟨eB_ok (ints_nr fun t ht=>by rw [List.mem_singleton] at ht; exact .inl ⟨_,ht⟩) trivial,hx d hd⟩,
      ⟨eB_ok (ints_nr fun t ht=>by rw [List.mem_singleton] at ht; exact .inl ⟨_,ht⟩) trivial,(hx d hd).res_int⟩⟩⟩
  obtain ⟨gr,n,sd,lf⟩:=b
  have hs0:=hb'.s0
  have hs1:=hb'.s1
  have hg:=hb'.g
  dsimp only at h1 h2 hs0 hs1 hg
  cases gr with
  | nil =>
    refine key ⟨[],n+1,sd,lf⟩ _ (fun d hd=>con_BB H sndO_nil (fn:=1122) (i:=iTake) (by kernel_rfl) (g_take0 n sd lf m 0) ?_ hd) ⟨by show 0≤n+1; omega,by show n+1≤((K+1:Nat):Int); omega,hs0,hs1,hg⟩ rfl
    refine ⟨okTs_ints [],.of_left (by decide +kernel),⟨by decide,by decide,by omega⟩,by decide,.of_left (by decide +kernel),⟨by decide,by decide,blend_lt (sd:=sd) (by decide) (by decide) h1 (by omega)⟩,by decide,⟨by decide,PyProof.noPylong_small (by decide)⟩,by omega,trivial⟩
  | cons g r =>
    refine key ⟨cond (decide (0<g.fdiv m)) (g.fdiv m::r) r,n+1,sd,lf⟩ g (fun d hd=>con_BB H sndO_nil (fn:=1122) (i:=iTake) (by kernel_rfl) (g_take1 g r n sd lf m 0 (decide (0<g.fdiv m))) ?_ hd) ⟨by show 0≤n+1; omega,by show n+1≤((K+1:Nat):Int); omega,hs0,hs1,?_⟩ rfl
    · have hl:r.length+1≤24:=hg
      refine ⟨okTs_ints _,by omega,⟨by omega,PyProof.noPylong_small (by omega)⟩,?_,?_,?_,trivial⟩
      · by_cases q:0<g.fdiv m
        · rw [decide_eq_true q]; exact q
        · rw [decide_eq_false q]; exact q
      · rw [List.length_map,List.length_cons]; show r.length+1≤1000000; omega
      · rw [List.map_cons,List.drop_one,List.tail_cons,List.length_append,List.length_map]
        cases (decide (0<g.fdiv m))<;>simp<;>omega
    · have hl:r.length+1≤24:=hg
      show (cond (decide (0<g.fdiv m)) (g.fdiv m::r) r).length≤24
      cases (decide (0<g.fdiv m))<;>simp<;>omega
end
end
section
def pot (x:Int):Nat:=(x - 1).toNat
def cI:Nat→Nat
  | 0=>3
  | δ+1=>10*cI δ+27
theorem cI3 (δ:Nat):3≤cI δ:=by cases δ<;>simp only [cI]<;>omega
section
variable {prog:Program}{w:World}{hb:HB}{mg mb:Str→Option Value}
variable (prog w hb) in
def GI (δ:Nat):Prop:=∀ (b:Bg) (K:Nat),BgOk b K→K+cI δ≤1000000→∃ (b':Bg) (i:It),BgOk b' (K+cI δ)∧i.wt δ∧i.nb+pot b'.lf≤pot b.lf ∧ ∀ d,10+4*δ≤d→Ent1 prog w hb (eB 1136 d [.int (δ:Int)] b b' i.tv)
variable (prog w hb) in
def GB (δ:Nat):Prop:=∀ (b:Bg) (K:Nat),BgOk b K→K+(10*cI δ+26)≤1000000→∃ (b':Bg) (i:It),BgOk b' (K+(10*cI δ+26))∧i.wt (δ+1)∧i.nb+pot b'.lf≤1+pot b.lf∧(∀ d,13+4*δ≤d→Ent1 prog w hb (eB 1151 d [.int (δ:Int)] b b' i.tv)) ∧ ∃ p,i.tv=ndT (u "begin") p
variable (prog w hb) in
def GS (δ:Nat):Prop:=∀ (r:Bool) (b:Bg) (K:Nat),BgOk b K→K+(3+2*cI δ)≤1000000→∃ (b':Bg) (s:Sq),BgOk b' (K+(3+2*cI δ))∧s.wt δ∧(r=false→s.tail=none)∧(∀ n m,s.tail=some (n,m)→m≤2)∧s.nb+pot b'.lf≤pot b.lf ∧ ∀ d,11+4*δ≤d→Ent1 prog w hb (eB 1141 d [.int (δ:Int),.bool r] b b' s.tv)
variable (prog w hb) in
def GR (δ:Nat):Prop:=∀ (b:Bg) (K:Nat),BgOk b K→K+(7+2*cI δ)≤1000000→∃ (b':Bg) (R:Rc),BgOk b' (K+(7+2*cI δ))∧R.wt δ∧R.nb+pot b'.lf≤pot b.lf ∧ ∀ d,12+4*δ≤d→Ent1 prog w hb (eB 1146 d [.int (δ:Int)] b b' R.tv)
theorem arg1_nr (i:Int):nrs [TV.int i]:=ints_nr fun t ht=>by rw [List.mem_singleton] at ht; exact .inl ⟨_,ht⟩
theorem arg2_nr (i:Int) (r:Bool):nrs [TV.int i,.bool r]:=ints_nr fun t ht=>by
  simp only [List.mem_cons,List.not_mem_nil,or_false] at ht
  rcases ht with rfl | rfl
  · exact .inl ⟨_,rfl⟩
  · exact .inr ⟨_,rfl⟩
theorem ctk_ok {D d:Nat}{m:Int}{b:Bg}(h:d≤D+8):allP (ctk D d m b):=cB_ok h
theorem lst2 {e e':EntC}(h:Ent1 prog w hb e) (h':Ent1 prog w hb e'):AllC prog w hb [e,e']:=all_cons h (all_cons h' all_nil)
theorem lst3 {e e' e'':EntC}(h:Ent1 prog w hb e) (h':Ent1 prog w hb e') (h'':Ent1 prog w hb e''):AllC prog w hb [e,e',e'']:=all_cons h (lst2 h' h'')
theorem lst1 {e:EntC}(h:Ent1 prog w hb e):AllC prog w hb [e]:=all_cons h all_nil
theorem sndG {t t' t2:List EntC}{fn fn2:Nat}(h:AllC prog w hb t) (h':AllC prog w hb t') (h2:AllC prog w hb t2):SndO prog w clo hb (orcG t fn t' fn2 t2):=sndO_cons h (sndO_cons h' (sndO_cons h2 sndO_nil))
variable (H:Hyp0 prog w hb mg mb)
include H
theorem con_I {D δ:Nat}{t be:List EntC}{b b':Bg}{dirs:List Nat}{x:TV}{cds:List Prop}(e:rnI t be D δ b dirs=some (x,some (bagC b'),cds)) (hc:allP cds) (ht:AllC prog w hb t) (hbe:AllC prog w hb be) (hx:nr x) {d:Nat}(hd:D+9≤d):Ent1 prog w hb (eB 1136 d [.int (δ:Int)] b b' x) :=
  ⟨eB_ok (arg1_nr _) hx,con_B H (sndG ht hbe all_nil) (i:=iItem) (by kernel_rfl) e hc hd⟩
theorem g_item {δ:Nat}(hδ:δ<4) (hB:∀ δ',δ=δ'+1→GB prog w hb δ'):GI prog w hb δ:=by
  intro b K hb' hK
  have h3:=cI3 δ
  have sym:∀ {b':Bg}{n:Int},BgOk b' (K+cI δ)→pot b'.lf≤pot b.lf→(∀ d,10+4*δ≤d→Ent1 prog w hb (eB 1136 d [.int (δ:Int)] b b' (symT n)))→∃ (b':Bg) (i:It),BgOk b' (K+cI δ)∧i.wt δ∧i.nb+pot b'.lf≤pot b.lf ∧ ∀ d,10+4*δ≤d→Ent1 prog w hb (eB 1136 d [.int (δ:Int)] b b' i.tv):=fun {b'}{n} h1 h2 h4 =>
    ⟨b',.sym n,h1,by rw [It.wt]<;>simp,by rw [It.nb]<;>simp<;>exact h2,fun d hd=>by rw [It.tv]; exact h4 d hd⟩
  by_cases hl:0<b.lf - 1
  · obtain ⟨b1,k,o1,l1,k0,k1,e1⟩:=c_take H (m:=9) (by decide) (by decide) hb'.dec (by omega)
    have l1:b1.lf=b.lf - 1:=l1
    have hp:pot b1.lf+1=pot b.lf:=by unfold pot; rw [l1]; omega
    have t9:∀ d,9≤d→Ent1 prog w hb (tk d 9 b.dec b1 (.int k)):=fun d hd=>(e1 d hd).2
    by_cases q0:k=0
    · subst q0
      obtain ⟨b2,k2,o2,l2,_,_,e2⟩:=c_take H (m:=4) (by decide) (by decide) o1 (by omega)
      exact ⟨b2,.toss k2,o2.up (by omega),by rw [It.wt]<;>simp,by rw [It.nb,l2]<;>simp<;>omega,fun d hd=>by
        rw [It.tv]
        exact con_I H (gi_toss b b1 b2 1 9 δ k2) ⟨hl,allP_append.mpr ⟨ctk_ok (by omega),ctk_ok (by omega)⟩⟩ (lst2 (t9 9 (by omega)) (e2 9 (by omega)).1) all_nil (nd_nr ⟨trivial,trivial⟩) (by omega)⟩
    · by_cases q1:k=1
      · subst q1
        obtain ⟨b2,k2,o2,l2,_,_,e2⟩:=c_take H (m:=3) (by decide) (by decide) o1 (by omega)
        obtain ⟨b3,k3,o3,l3,_,_,e3⟩:=c_take H (m:=2) (by decide) (by decide) o2 (by omega)
        obtain ⟨W,hW⟩:∃ W:W3,k2=W.n:=by
          rcases (by omega:k2=0∨k2=1∨k2=2) with rfl | rfl | rfl
          · exact ⟨.brk,rfl⟩
          · exact ⟨.nxt,rfl⟩
          · exact ⟨.ret,rfl⟩
        obtain ⟨v,hv⟩:∃ v:Bool,k3=cond v 1 0:=by
          rcases (by omega:k3=0∨k3=1) with rfl | rfl
          · exact ⟨false,rfl⟩
          · exact ⟨true,rfl⟩
        subst hW hv
        exact ⟨b3,.out W (cond v (some b2.n) none),o3.up (by omega),by rw [It.wt]<;>simp,by rw [It.nb,l3,l2]; omega,fun d hd=>by
          rw [It.tv]
          refine con_I H (gi_out b b1 b2 b3 1 9 δ W v) ⟨hl,allP_append.mpr ⟨ctk_ok (by omega),allP_append.mpr ⟨ctk_ok (by omega),ctk_ok (by omega)⟩⟩⟩ (lst3 (t9 9 (by omega)) (e2 9 (by omega)).2 (e3 9 (by omega)).2) all_nil (nd_nr ⟨?_,trivial⟩) (by omega)
          cases v
          · exact trivial
          · exact symT_nr _⟩
      · by_cases q2:k=2
        · subst q2
          exact ⟨b1,.last,o1.up (by omega),by rw [It.wt]<;>simp,by rw [It.nb]<;>simp<;>omega,fun d hd=>by
            rw [It.tv]
            exact con_I H (gi_last b b1 1 9 δ) ⟨hl,ctk_ok (by omega)⟩ (lst1 (t9 9 (by omega))) all_nil (nd_nr trivial) (by omega)⟩
        · obtain ⟨wn,rfl⟩:∃ wn:Nat,k=(wn:Int):=⟨k.toNat,by omega⟩
          by_cases q3:(3≤wn∧wn<7∧δ=0)∨wn=7∨wn=8
          · exact sym (o1.up (by omega)) (by omega) fun d hd=>con_I H (gi_mrk b b1 1 9 δ wn q3) ⟨hl,ctk_ok (by omega)⟩ (lst1 (t9 9 (by omega))) all_nil (symT_nr _) (by omega)
          · obtain ⟨δ',rfl⟩:∃ δ',δ=δ'+1:=⟨δ - 1,by omega⟩
            have hc:cI (δ'+1)=10*cI δ'+27:=rfl
            obtain ⟨b2,i,o2,w2,p2,e2,_⟩:=hB δ' rfl b1 _ o1 (by omega)
            obtain ⟨ke,p,hi⟩:=i.tv_nd
            have hin:=i.nr
            rw [hi] at hin
            refine ⟨b2,i,o2.up (by omega),w2,by omega,fun d hd => ?_⟩
            have e2:=e2 (13+4*δ') (Nat.le_refl _)
            rw [hi] at e2 ⊢
            exact con_I H (gi_beg b b1 b2 (5+4*δ') 9 (13+4*δ') δ' wn ke p (by omega) (by omega)) ⟨hl,allP_append.mpr ⟨ctk_ok (by omega),cB_ok (by omega)⟩⟩ (lst1 (t9 9 (by omega))) (lst1 e2) hin (by omega)
  · exact sym (b':=b.dec) (hb'.dec.up (by omega)) (by show pot (b.lf - 1)≤pot b.lf; unfold pot; omega) fun d hd=>con_I H (gi_end b 1 δ) ⟨hl,trivial⟩ all_nil all_nil (symT_nr _) (by omega)
end
end
section
section
variable {prog:Program}{w:World}{hb:HB}{mg mb:Str→Option Value}
variable (H:Hyp0 prog w hb mg mb)
include H
theorem g_tail {r:Bool}{b:Bg}{K:Nat}(hb':BgOk b K) (hK:K+2≤1000000):∃ tl:Tls,tl.r=r∧BgOk (tl.b b) (K+2)∧(tl.b b).lf=b.lf∧(r=false→tl.t=none)∧(∀ n m,tl.t=some (n,m)→m≤2)∧AllC prog w hb (tl.tk 9 b):=by
  cases r with
  | false=>exact ⟨.no,rfl,hb'.up (by omega),rfl,(fun _=>rfl),(fun n m h=>by cases h),all_nil⟩
  | true =>
    obtain ⟨b1,k,o1,l1,k0,k1,e1⟩:=c_take H (m:=2) (by decide) (by decide) hb' (by omega)
    rcases (by omega:k=0∨k=1) with rfl | rfl
    · exact ⟨.no' b1,rfl,o1.up (by omega),l1,(fun q=>by cases q),(fun n m h=>by cases h),lst1 (e1 9 (Nat.le_refl _)).2⟩
    · obtain ⟨b2,k2,o2,l2,k3,k4,e2⟩:=c_take H (m:=2) (by decide) (by decide) o1 (by omega)
      exact ⟨.yes b1 b2 k2,rfl,o2.up (by omega),l2.trans l1,(fun q=>by cases q),(fun n m h=>by cases h; omega),lst2 (e1 9 (Nat.le_refl _)).2 (e2 9 (Nat.le_refl _)).1⟩
omit H in
theorem tl_cd {D:Nat}{b:Bg}(h:9≤D+8):∀ tl:Tls,allP (tl.cd D 9 b)
  | .no=>trivial
  | .no' _=>ctk_ok h
  | .yes .. => allP_append.mpr ⟨ctk_ok h,ctk_ok h⟩
theorem con_S {D δ:Nat}{r:Bool}{t it:List EntC}{b b':Bg}{dirs:List Nat}{x:TV}{cds:List Prop}(e:rnS t it D δ r b dirs=some (x,some (bagC b'),cds)) (hc:allP cds) (ht:AllC prog w hb t) (hit:AllC prog w hb it) (hx:nr x) {d:Nat}(hd:D+9≤d):Ent1 prog w hb (eB 1141 d [.int (δ:Int),.bool r] b b' x) :=
  ⟨eB_ok (arg2_nr _ _) hx,con_B H (sndG ht hit all_nil) (i:=iSeq) (by kernel_rfl) e hc hd⟩
theorem g_sq {δ:Nat}(hI:GI prog w hb δ):GS prog w hb δ:=by
  intro r b K hb' hK
  have h3:=cI3 δ
  obtain ⟨b1,k,o1,l1,k0,k1,e1⟩:=c_take H (m:=2) (by decide) (by decide) hb' (by omega)
  have t9:=(e1 9 (Nat.le_refl _)).2
  obtain ⟨b2,i,o2,w2,p2,e2⟩:=hI b1 _ o1 (by omega)
  have e2:=e2 (10+4*δ) (Nat.le_refl _)
  obtain ⟨ki,pi,hi⟩:=i.tv_nd
  rcases (by omega:k=0∨k=1) with rfl | rfl
  · obtain ⟨tl,h1,h2,h4,h5,h6,h7⟩:=g_tail H (r:=r) o2 (by omega)
    subst h1
    refine ⟨tl.b b2,.one i tl.t,h2.up (by omega),by rw [Sq.wt]; exact w2,h5,h6,by rw [Sq.nb,h4]; rw [l1] at p2; exact p2,fun d hd => ?_⟩
    have hn:=(Sq.one i tl.t).nr
    rw [Sq.tv] at hn ⊢
    rw [hi] at e2 hn ⊢
    exact con_S H (g_seq1 b b1 b2 (2+4*δ) 9 (10+4*δ) δ ki pi tl) (allP_append.mpr ⟨ctk_ok (by omega),allP_append.mpr ⟨cB_ok (by omega),tl_cd (by omega) tl⟩⟩) (all_cons t9 h7) (lst1 e2) hn (by omega)
  · obtain ⟨b3,i2,o3,w3,p3,e3⟩:=hI b2 _ o2 (by omega)
    have e3:=e3 (10+4*δ) (Nat.le_refl _)
    obtain ⟨kj,pj,hj⟩:=i2.tv_nd
    obtain ⟨tl,h1,h2,h4,h5,h6,h7⟩:=g_tail H (r:=r) o3 (by omega)
    subst h1
    refine ⟨tl.b b3,.two i i2 tl.t,h2.up (by omega),by rw [Sq.wt]; exact ⟨w2,w3⟩,h5,h6,by rw [Sq.nb,h4]; rw [l1] at p2; omega,fun d hd => ?_⟩
    have hn:=(Sq.two i i2 tl.t).nr
    rw [Sq.tv] at hn ⊢
    rw [hi,hj] at hn ⊢
    rw [hi] at e2
    rw [hj] at e3
    exact con_S H (g_seq2 b b1 b2 b3 (2+4*δ) 9 (10+4*δ) δ ki kj pi pj tl) (allP_append.mpr ⟨ctk_ok (by omega),allP_append.mpr ⟨cB_ok (by omega),allP_append.mpr ⟨cB_ok (by omega),tl_cd (by omega) tl⟩⟩⟩) (all_cons t9 h7) (lst2 e2 e3) hn (by omega)
omit H in
theorem cn_of {k:Int}(h:0≤k) (h':k<5):∃ c:Cn,k=c.n:=by
  rcases (by omega:k=0∨k=1∨k=2∨k=3∨k=4) with rfl | rfl | rfl | rfl | rfl
  · exact ⟨.k0,rfl⟩
  · exact ⟨.k1,rfl⟩
  · exact ⟨.k2,rfl⟩
  · exact ⟨.k7,rfl⟩
  · exact ⟨.k9,rfl⟩
omit H in
theorem bit_of {k:Int}(h:0≤k) (h':k<2):∃ v:Bool,k=cond v 1 0:=by
  rcases (by omega:k=0∨k=1) with rfl | rfl
  · exact ⟨false,rfl⟩
  · exact ⟨true,rfl⟩
theorem g_rs {δ:Nat}(hS:GS prog w hb δ):GR prog w hb δ:=by
  intro b K hb' hK
  have h3:=cI3 δ
  obtain ⟨b1,k,o1,l1,k0,k1,e1⟩:=c_take H (m:=3) (by decide) (by decide) hb' (by omega)
  have t1:=(e1 9 (Nat.le_refl _)).2
  have rest:∀ (cl:Cl) (bc:Bg),BgOk bc (K+3)→bc.lf=b.lf→(∀ (b4 b5:Bg) (g:Bool) (ks:Str) (ps:TV),Ent1 prog w hb (tk 9 2 bc b4 (.int (cond g 1 0)))→Ent1 prog w hb (eS (11+4*δ) δ true b4 b5 ks ps)→nr (ndT ks ps)→Con prog w clo hb (eB 1146 (12+4*δ) [.int (δ:Int)] b b5 (.tup [.lst (clT' cl),gT g,ndT ks ps]))) →
      ∃ (b':Bg) (R:Rc),BgOk b' (K+(7+2*cI δ))∧R.wt δ∧R.nb+pot b'.lf≤pot b.lf ∧ ∀ d,12+4*δ≤d→Ent1 prog w hb (eB 1146 d [.int (δ:Int)] b b' R.tv):=fun cl bc oc lc hc=>by
    obtain ⟨b4,k4,o4,l4,z0,z1,e4⟩:=c_take H (m:=2) (by decide) (by decide) oc (by omega)
    obtain ⟨g,rfl⟩:=bit_of z0 z1
    obtain ⟨b5,s,o5,w5,_,q5,p5,e5⟩:=hS true b4 _ o4 (by omega)
    have e5:=e5 (11+4*δ) (Nat.le_refl _)
    have hn:=s.nr
    have hR:=(Rc.mk cl g s).nr
    refine ⟨b5,.mk cl g s,o5.up (by omega),by rw [Rc.wt]; exact ⟨w5,q5⟩,by rw [Rc.nb]; rw [l4,lc] at p5; exact p5,fun d hd=>⟨eB_ok (arg1_nr _) hR,?_⟩⟩
    rw [Rc.tv]
    rw [s.tv_ch] at e5 hn ⊢
    exact (hc b4 b5 g _ _ (e4 9 (Nat.le_refl _)).2 e5 hn).deeper hd
  have go:∀ (cl:Cl) (g:Bool) (b2 b3 b4 b5:Bg) (ks:Str) (ps:TV) (t:List EntC),AllC prog w hb t→Ent1 prog w hb (eS (11+4*δ) δ true b4 b5 ks ps) →
      t=(match cl with
      | .c0=>[tk 9 3 b b1 (.int 0),tk 9 2 b1 b4 (.int (cond g 1 0))]
      | .c1 x=>[tk 9 3 b b1 (.int 1),tk 9 5 b1 b2 (.int x.n),tk 9 2 b2 b4 (.int (cond g 1 0))]
      | .c2 x y=>[tk 9 3 b b1 (.int 2),tk 9 5 b1 b2 (.int x.n),tk 9 5 b2 b3 (.int y.n),tk 9 2 b3 b4 (.int (cond g 1 0))])→Con prog w clo hb (eB 1146 (12+4*δ) [.int (δ:Int)] b b5 (.tup [.lst (clT' cl),gT g,ndT ks ps])):=fun cl g b2 b3 b4 b5 ks ps t ht hs e=>by
    subst e
    refine con_BB H (sndG ht (lst1 hs) all_nil) (i:=iRescue) (by kernel_rfl) (g_resc cl g b b1 b2 b3 b4 b5 (3+4*δ) 9 (11+4*δ) δ ks ps) (allP_append.mpr ⟨?_,cB_ok (by omega)⟩) (by omega)
    rcases cl with _ | x | ⟨x,y⟩
    · exact allP_append.mpr ⟨ctk_ok (by omega),ctk_ok (by omega)⟩
    · exact allP_append.mpr ⟨ctk_ok (by omega),allP_append.mpr ⟨ctk_ok (by omega),ctk_ok (by omega)⟩⟩
    · exact allP_append.mpr ⟨ctk_ok (by omega),allP_append.mpr ⟨ctk_ok (by omega),allP_append.mpr ⟨ctk_ok (by omega),ctk_ok (by omega)⟩⟩⟩
  rcases (by omega:k=0∨k=1∨k=2) with rfl | rfl | rfl
  · exact rest .c0 b1 (o1.up (by omega)) l1 fun b4 b5 g ks ps h4 h5 _=>go .c0 g b1 b1 b4 b5 ks ps _ (lst2 t1 h4) h5 rfl
  · obtain ⟨b2,k2,o2,l2,y0,y1,e2⟩:=c_take H (m:=5) (by decide) (by decide) o1 (by omega)
    obtain ⟨x,rfl⟩:=cn_of y0 y1
    exact rest (.c1 x) b2 (o2.up (by omega)) (l2.trans l1) fun b4 b5 g ks ps h4 h5 _=>go (.c1 x) g b2 b2 b4 b5 ks ps _ (lst3 t1 (e2 9 (Nat.le_refl _)).2 h4) h5 rfl
  · obtain ⟨b2,k2,o2,l2,y0,y1,e2⟩:=c_take H (m:=5) (by decide) (by decide) o1 (by omega)
    obtain ⟨x,rfl⟩:=cn_of y0 y1
    obtain ⟨b3,k3,o3,l3,x0,x1,e3⟩:=c_take H (m:=5) (by decide) (by decide) o2 (by omega)
    obtain ⟨y,rfl⟩:=cn_of x0 x1
    exact rest (.c2 x y) b3 (o3.up (by omega)) ((l3.trans l2).trans l1) fun b4 b5 g ks ps h4 h5 _=>go (.c2 x y) g b2 b3 b4 b5 ks ps _ (all_cons t1 (lst3 (e2 9 (Nat.le_refl _)).2 (e3 9 (Nat.le_refl _)).2 h4)) h5 rfl
end
end
section
section
variable {prog:Program}{w:World}{hb:HB}{mg mb:Str→Option Value}
theorem op_c {D d δ:Nat}{b:Bg}(h:d≤D+8):∀ o:Opq,allP (o.c D d δ b)
  | .no=>trivial
  | .yes .. => cB_ok h
theorem rs_c {D d δ:Nat}(h:d≤D+8):∀ {rs:Rsc}{b:Bg},allP (rsC D d δ b rs)
  | [],_=>trivial
  | (_,_,b',_,_)::r,b=>allP_append.mpr ⟨cB_ok h,rs_c h (rs:=r)⟩
variable (H:Hyp0 prog w hb mg mb)
include H
theorem g_opq {δ:Nat}(hS:GS prog w hb δ) {b:Bg}{K:Nat}(hb':BgOk b K) (hK:K+(4+2*cI δ)≤1000000):∃ (b1:Bg) (o:Opq) (oq:Oq),Ent1 prog w hb (tk 9 2 b b1 (.int o.i))∧BgOk (o.b b1) (K+(4+2*cI δ))∧oq.tv=o.v∧oq.wt δ∧oq.nb+pot (o.b b1).lf≤pot b.lf∧AllC prog w hb (o.e (11+4*δ) δ b1):=by
  obtain ⟨b1,k,o1,l1,k0,k1,e1⟩:=c_take H (m:=2) (by decide) (by decide) hb' (by omega)
  have t1:=(e1 9 (Nat.le_refl _)).2
  rcases (by omega:k=0∨k=1) with rfl | rfl
  · exact ⟨b1,.no,.no,t1,o1.up (by omega),by rw [Oq.tv]; rfl,by rw [Oq.wt]; exact trivial,by rw [Oq.nb]; show 0+pot b1.lf≤_; rw [l1]; omega,all_nil⟩
  · obtain ⟨b2,s,o2,w2,q2,_,p2,e2⟩:=hS false b1 _ o1 (by omega)
    have e2:=e2 (11+4*δ) (Nat.le_refl _)
    rw [s.tv_ch] at e2
    exact ⟨b1,.yes _ _ b2,.yes s,t1,o2.up (by omega),by rw [Oq.tv,s.tv_ch]; rfl,by rw [Oq.wt]; exact ⟨w2,q2 rfl⟩,by rw [Oq.nb]; show s.nb+pot b2.lf≤_; rw [l1] at p2; exact p2,lst1 e2⟩
theorem g_one {δ:Nat}(hR:GR prog w hb δ) {b:Bg}{K:Nat}(hb':BgOk b K) (hK:K+(7+2*cI δ)≤1000000):∃ (b1:Bg) (R:Rc) (k:Str) (p:TV),BgOk b1 (K+(7+2*cI δ))∧R.wt δ∧R.nb+pot b1.lf≤pot b.lf∧R.tv=rcT (.lst (clT' R.cl)) R.goal k p∧Ent1 prog w hb (eRs (12+4*δ) δ b b1 (rcT (.lst (clT' R.cl)) R.goal k p)):=by
  obtain ⟨b1,R,o1,w1,p1,e1⟩:=hR b K hb' hK
  have e1:=e1 (12+4*δ) (Nat.le_refl _)
  obtain ⟨cl,g,s⟩:=R
  refine ⟨b1,_,u "seq",.tup [.lst (s.ch.map Ch.tv)],o1,w1,p1,?_,?_⟩
  · rw [Rc.tv,s.tv_ch]; rfl
  · rw [Rc.tv,s.tv_ch] at e1; exact e1
theorem g_rsc {δ:Nat}(hR:GR prog w hb δ) {b:Bg}{K:Nat}(hb':BgOk b K) (hK:K+2*(7+2*cI δ)≤1000000) {k:Int}(k0:0≤k) (k1:k<3):∃ (rs:Rs) (l:Rsc),rsN l=k∧l.length≤2∧rs.tv=rsT l∧rs.wt δ∧rs.nb+pot (rsB b l).lf≤pot b.lf∧BgOk (rsB b l) (K+2*(7+2*cI δ))∧AllC prog w hb (rsE (12+4*δ) δ b l):=by
  rcases (by omega:k=0∨k=1∨k=2) with rfl | rfl | rfl
  · exact ⟨.r0,[],rfl,Nat.zero_le _,by rw [Rs.tv]; rfl,by rw [Rs.wt]; exact trivial,by rw [Rs.nb]; show 0+pot b.lf≤_; omega,hb'.up (by omega),all_nil⟩
  · obtain ⟨b1,R,ks,p,o1,w1,p1,t1,e1⟩:=g_one H hR hb' (by omega)
    exact ⟨.r1 R,[(ks,p,b1,clT' R.cl,R.goal)],rfl,by simp,by rw [Rs.tv,t1]; rfl,by rw [Rs.wt]; exact w1,by rw [Rs.nb]; exact p1,o1.up (by omega),lst1 e1⟩
  · obtain ⟨b1,R,ks,p,o1,w1,p1,t1,e1⟩:=g_one H hR hb' (by omega)
    obtain ⟨b2,R2,ks2,pp2,o2,w2,p2,t2,e2⟩:=g_one H hR o1 (by omega)
    exact ⟨.r2 R R2,[(ks,p,b1,clT' R.cl,R.goal),(ks2,pp2,b2,clT' R2.cl,R2.goal)],rfl,by simp,by rw [Rs.tv,t1,t2]; rfl,by rw [Rs.wt]; exact ⟨w1,w2⟩,by rw [Rs.nb]; show R.nb+R2.nb+pot b2.lf≤_; omega,o2.up (by omega),lst2 e1 e2⟩
theorem g_bg {δ:Nat}(hS:GS prog w hb δ) (hR:GR prog w hb δ):GB prog w hb δ:=by
  intro b K hb' hK
  have h3:=cI3 δ
  obtain ⟨b1,s,o1,w1,q1,_,p1,e1⟩:=hS false b K hb' (by omega)
  have e1:=e1 (11+4*δ) (Nat.le_refl _)
  obtain ⟨b2,k,o2,l2,k0,k1,e2⟩:=c_take H (m:=3) (by decide) (by decide) o1 (by omega)
  obtain ⟨rs,l,h1,h2,h4,h5,h6,h7,h8⟩:=g_rsc H hR o2 (by omega) k0 k1
  subst h1
  obtain ⟨b3,o,oq,t3,o3,v3,w3,p3,e3⟩:=g_opq H hS h7 (by omega)
  obtain ⟨b4,o',oq',t4,o4,v4,w4,p4,e4⟩:=g_opq H hS o3 (by omega)
  have hn:=(It.beg s rs oq oq').nr
  refine ⟨o'.b b4,.beg s rs oq oq',o4.up (by omega),by rw [It.wt]; exact ⟨δ,rfl,w1,q1 rfl,h5,w3,w4⟩,by
    rw [It.nb]
    rw [l2] at h6
    omega,fun d hd=>⟨eB_ok (arg1_nr _) hn,?_⟩,_,by rw [It.tv]⟩
  rw [It.tv,v3,v4,h4] at *
  rw [s.tv_ch] at e1 ⊢
  exact con_B H (sndG (lst3 (e2 9 (Nat.le_refl _)).2 t3 t4) (all_cons e1 (all_app e3 e4)) h8) (i:=iBegin) (by kernel_rfl) (g_begin b b1 b2 b3 b4 l o o' (4+4*δ) 9 (11+4*δ) (12+4*δ) δ _ _ h2)
    (allP_append.mpr ⟨cB_ok (by omega),allP_append.mpr ⟨ctk_ok (by omega),allP_append.mpr ⟨rs_c (by omega),allP_append.mpr ⟨ctk_ok (by omega),allP_append.mpr ⟨op_c (by omega) o,allP_append.mpr ⟨ctk_ok (by omega),op_c (by omega) o'⟩⟩⟩⟩⟩⟩) (by omega)
theorem g_all:∀ δ,δ<4→GI prog w hb δ∧GB prog w hb δ
  | 0,h=>by
    have hI:=g_item H h fun δ' e=>by cases e
    have hS:=g_sq H hI
    exact ⟨hI,g_bg H hS (g_rs H hS)⟩
  | δ+1,h=>by
    have hI:=g_item H h fun δ' e=>by cases e; exact (g_all δ (by omega)).2
    have hS:=g_sq H hI
    exact ⟨hI,g_bg H hS (g_rs H hS)⟩
end
end
theorem next_at {it src:Nat}{cells:List Ent}{xs:List TV}{i n:Nat}{ds:List Nat}(h1:lkC cells it=some (.itr false (.ref src) i)) (h2:lkC cells src=some (.lst xs)):nextT (.ref it) ⟨cells,n,ds⟩=(match xs[i]? with
    | some x=>some (some x,⟨puC cells it (.itr false (.ref src) (i+1)),n,ds⟩,[])
    | none=>some (none,⟨rmC cells it,n,ds⟩,[])):=by
  have e1:getC it ⟨cells,n,ds⟩=some (.itr false (.ref src) i,⟨cells,n,ds⟩,[]):=by unfold getC; dsimp only; rw [h1]
  have e2:getC src ⟨cells,n,ds⟩=some (.lst xs,⟨cells,n,ds⟩,[]):=by unfold getC; dsimp only; rw [h2]
  have e3:seqT (.ref src) ⟨cells,n,ds⟩=some ((false,xs),⟨cells,n,ds⟩,[]):=by
    simp only [seqT]
    rw [bd_val e2]
    rfl
  simp only [nextT]
  rw [bd_val e1]
  simp only []
  rw [bd_val e3]
  dsimp only [ifB,chk]
  cases xs[i]?<;>rfl
def iBag:FnI:=fnI (sT 79) "_law_bag" [] none
def compOf:Stmt→Expr×List Expr×Scope
  | .Assign _ (.ListComp elt [⟨_,_,ifs,_⟩] sc _) _=>(elt,ifs,sc)
  | _=>(default,[],default)
def cmpB:Expr×List Expr×Scope:=compOf (nthS iBag.body 0)
def aeK:AE:=⟨relT iBag.scope.names cmpB.2.2,14,[],none⟩
def aeB:AE:=⟨iBag.scope,10,[],none⟩
def bodyB:List Stmt:=forBody (nthS iBag.body 2)
abbrev big:Int:=1000000000000000000
def absI (y:Int):Int:=if y<0 then -y else y
def bigI (y:Int):Bool:=decide (big<absI y)
def nsK:Option TV→List (Str×TV)
  | none=>[]
  | some v=>[(u "cell",v)]
def atK (Y acc:List TV) (o:Option TV) (i:Nat):List Ent:=[(11,.lst Y),(12,.itr false (.ref 11) i),(13,.lst acc),(14,.ns (nsK o))]
def posK (Y acc:List TV) (o:Option TV):List Ent:=[(11,.lst Y),(13,.lst acc),(14,.ns (nsK o))]
abbrev cP10:Prop:=0≤(18:Int)∧(18:Int)≤1000000∧(10:Int).natAbs<2 ^ 64
theorem k_test (Y acc:List TV) (y:Int) (j m:Nat) (b:Bool) (ds:List Nat):tstM (evo [] (m+40)) 9 aeK cmpB.2.1 ⟨atK Y acc (some (.sint y)) j,20,cond b 1 0::ds⟩=some (b,⟨atK Y acc (some (.sint y)) j,20,ds⟩,[cP10,cond b (big<absI y) (¬ big<absI y)]):=by cases b<;>kernel_rfl
theorem k_elt (Y acc:List TV) (y:Int) (j m:Nat) (ds:List Nat):(evo [] (m+40)).ex 9 aeK cmpB.1 ⟨atK Y acc (some (.sint y)) j,20,ds⟩=some (.sint (absI y - big),⟨atK Y acc (some (.sint y)) j,20,ds⟩,[cP10]):=by kernel_rfl
theorem k_app (Y acc:List TV) (o:Option TV) (v:TV) (j:Nat) (ds:List Nat) (h:acc.length≤1000):appT (.ref 13) v ⟨atK Y acc o j,20,ds⟩=some (.none,⟨atK Y (acc++[v]) o j,20,ds⟩,[]):=by
  simp only [appT]
  rw [bd_val (m:=getC 13) (a:=Cell.lst acc) (σ1:=⟨atK Y acc o j,20,ds⟩) (c1:=[]) (by kernel_rfl)]
  simp only []
  rw [Nat.ble_eq_true_of_le h]
  kernel_rfl
theorem k_store (Y acc:List TV) (o:Option TV) (v:TV) (j:Nat) (ds:List Nat):stName aeK (u "cell") v ⟨atK Y acc o j,20,ds⟩=some ((),⟨atK Y acc (some v) j,20,ds⟩,[]):=by cases o<;>kernel_rfl
def grI (l:List Int):List Int:=(l.filter bigI).map fun y=>absI y - big
theorem grI_cons (y:Int) (l:List Int):grI (y::l)=cond (bigI y) ((absI y - big)::grI l) (grI l):=by
  unfold grI
  cases h:bigI y with
  | true=>rw [List.filter_cons_of_pos h,List.map_cons]; rfl
  | false=>rw [List.filter_cons_of_neg (by rw [h]; simp)]; rfl
def dirK (l:List Int):List Nat:=l.map fun y=>cond (bigI y) 1 0
theorem drop_at {α:Type}{l:List α}{i:Nat}(h:i<l.length):l.drop i=l[i]::l.drop (i+1):=List.drop_eq_getElem_cons h
theorem k_loop (ys:List Int):∀ (m i:Nat) (acc:List Int) (o:Option TV),ys.length=i+m→acc.length+m≤1000→(∀ t,o=some t→nr t)→∃ o' cs,(evo [] (m+41)).co 9 aeK cmpB.1 cmpB.2.1 (u "cell") (.ref 12) (.ref 13) ⟨atK (ys.map .sint) (acc.map .sint) o i,20,dirK (ys.drop i)⟩ =
      some ((),⟨posK (ys.map .sint) ((acc++grI (ys.drop i)).map .sint) o',20,[]⟩,cs)∧allP cs ∧ ∀ t,o'=some t→nr t
  | 0,i,acc,o,hl,ha,ho=>by
    have hn:(ys.map TV.sint)[i]?=none:=List.getElem?_eq_none_iff.mpr (by rw [List.length_map]; omega)
    have e:=next_at (it:=12) (src:=11) (cells:=atK (ys.map .sint) (acc.map .sint) o i) (xs:=ys.map .sint) (i:=i) (n:=20) (ds:=dirK (ys.drop i)) (by kernel_rfl) (by kernel_rfl)
    rw [hn] at e
    have hd:ys.drop i=[]:=List.drop_of_length_le (by omega)
    rw [hd] at e ⊢
    refine ⟨o,[],?_,trivial,ho⟩
    show coF (evo [] (0+40)) 9 aeK cmpB.1 cmpB.2.1 (u "cell") (.ref 12) (.ref 13) _=_
    unfold coF
    rw [bd_val e,show acc++grI []=acc from List.append_nil _]
    rfl
  | m+1,i,acc,o,hl,ha,ho=>by
    have hi:i<ys.length:=by omega
    have hs:(ys.map TV.sint)[i]?=some (.sint ys[i]):=by rw [List.getElem?_map,List.getElem?_eq_getElem hi]; rfl
    have hd:=drop_at hi
    have e:=next_at (it:=12) (src:=11) (cells:=atK (ys.map .sint) (acc.map .sint) o i) (xs:=ys.map .sint) (i:=i) (n:=20) (ds:=dirK (ys.drop i)) (by kernel_rfl) (by kernel_rfl)
    rw [hs] at e
    have e:nextT (.ref 12) ⟨atK (ys.map .sint) (acc.map .sint) o i,20,dirK (ys.drop i)⟩=some (some (.sint ys[i]),⟨atK (ys.map .sint) (acc.map .sint) o (i+1),20,dirK (ys.drop i)⟩,[]):=e
    have hP:cP10:=by decide
    obtain ⟨o',cs,h1,h2,h3⟩:=k_loop ys m (i+1) (cond (bigI ys[i]) (acc++[absI ys[i] - big]) acc) (some (.sint ys[i])) (by omega) (by cases bigI ys[i]<;>simp<;>omega) (fun t ht=>by cases ht; exact trivial)
    have hb:cond (bigI ys[i]) (big<absI ys[i]) (¬ big<absI ys[i]):=by
      cases q:bigI ys[i] with
      | true=>show big<absI ys[i]; exact of_decide_eq_true q
      | false=>show ¬ big<absI ys[i]; exact of_decide_eq_false q
    have hdir:dirK (ys.drop i)=cond (bigI ys[i]) 1 0::dirK (ys.drop (i+1)):=by rw [hd]; rfl
    have hgr:grI (ys.drop i)=cond (bigI ys[i]) ((absI ys[i] - big)::grI (ys.drop (i+1))) (grI (ys.drop (i+1))):=by rw [hd,grI_cons]
    rw [hdir] at e ⊢
    rw [hgr]
    have e2:=k_test (ys.map .sint) (acc.map .sint) ys[i] (i+1) (m+1) (bigI ys[i]) (dirK (ys.drop (i+1)))
    have e0:=k_store (ys.map .sint) (acc.map .sint) o (.sint ys[i]) (i+1) (cond (bigI ys[i]) 1 0::dirK (ys.drop (i+1)))
    generalize bigI ys[i]=b at *
    cases b with
    | false =>
      refine ⟨o',[cP10,¬ big<absI ys[i]]++cs,?_,allP_append.mpr ⟨⟨hP,hb,trivial⟩,h2⟩,h3⟩
      show coF (evo [] (m+1+40)) 9 aeK cmpB.1 cmpB.2.1 (u "cell") (.ref 12) (.ref 13) _=_
      unfold coF
      rw [bd_val e]
      simp only []
      rw [bd_val e0,bd_val e2]
      dsimp only [ifB]
      have h1:(evo [] (m+1+40)).co 9 aeK cmpB.1 cmpB.2.1 (u "cell") (.ref 12) (.ref 13) ⟨atK (ys.map .sint) (acc.map .sint) (some (.sint ys[i])) (i+1),20,dirK (ys.drop (i+1))⟩=some ((),⟨posK (ys.map .sint) ((acc++grI (ys.drop (i+1))).map .sint) o',20,[]⟩,cs):=h1
      rw [h1]
      rfl
    | true =>
      have e3:=k_elt (ys.map .sint) (acc.map .sint) ys[i] (i+1) (m+1) (dirK (ys.drop (i+1)))
      have e4:=k_app (ys.map .sint) (acc.map .sint) (some (.sint ys[i])) (.sint (absI ys[i] - big)) (i+1) (dirK (ys.drop (i+1))) (by rw [List.length_map]; omega)
      refine ⟨o',[cP10,big<absI ys[i]]++([cP10]++cs),?_,allP_append.mpr ⟨⟨hP,hb,trivial⟩,hP,h2⟩,h3⟩
      show coF (evo [] (m+1+40)) 9 aeK cmpB.1 cmpB.2.1 (u "cell") (.ref 12) (.ref 13) _=_
      unfold coF
      rw [bd_val e]
      simp only []
      rw [bd_val e0,bd_val e2]
      dsimp only [ifB]
      rw [bd_val e3,bd_val e4]
      have h1:(evo [] (m+1+40)).co 9 aeK cmpB.1 cmpB.2.1 (u "cell") (.ref 12) (.ref 13) ⟨atK (ys.map .sint) ((acc++[absI ys[i] - big]).map .sint) (some (.sint ys[i])) (i+1),20,dirK (ys.drop (i+1))⟩=some ((),⟨posK (ys.map .sint) ((acc++[absI ys[i] - big]++grI (ys.drop (i+1))).map .sint) o',20,[]⟩,cs):=h1
      rw [List.map_append] at h1
      have h1:(evo [] (m+1+40)).co 9 aeK cmpB.1 cmpB.2.1 (u "cell") (.ref 12) (.ref 13) ⟨atK (ys.map .sint) (acc.map .sint++[.sint (absI ys[i] - big)]) (some (.sint ys[i])) (i+1),20,dirK (ys.drop (i+1))⟩=_:=h1
      rw [h1,List.append_assoc]
      rfl
def nsF (S:List TV) (sd:TV) (o:Option TV):List (Str×TV):=(u "script",.lst S)::(u "great",.ref 13)::(u "seed",sd)::nsK o
def atF (S G:List TV) (sd:TV) (o:Option TV) (Y:List TV) (i:Nat):List Ent:=[(10,.ns (nsF S sd o)),(13,.lst G),(15,.lst Y),(16,.itr false (.ref 15) i)]
def posF (S G:List TV) (sd:TV) (o:Option TV) (Y:List TV):List Ent:=[(10,.ns (nsF S sd o)),(13,.lst G),(15,.lst Y)]
abbrev md:Int:=2147483629
theorem f_body (S G:List TV) (s y:Int) (Y:List TV) (j m:Nat):(evo [] (m+40)).ss 9 aeB bodyB ⟨atF S G (.sint s) (some (.sint y)) Y j,20,[]⟩=some (.next,⟨atF S G (.sint ((s*48271+y).fmod md)) (some (.sint y)) Y j,20,[]⟩,[IntMulOk s 48271,md≠0]):=by kernel_rfl
theorem f_body0 (S G:List TV) (y:Int) (Y:List TV) (j m:Nat):(evo [] (m+40)).ss 9 aeB bodyB ⟨atF S G (.int 27011) (some (.sint y)) Y j,20,[]⟩=some (.next,⟨atF S G (.sint ((27011*48271+y).fmod md)) (some (.sint y)) Y j,20,[]⟩,[IntMulOk 27011 48271,md≠0]):=by kernel_rfl
theorem f_store (S G:List TV) (sd:TV) (o:Option TV) (v:TV) (Y:List TV) (j:Nat):stName aeB (u "cell") v ⟨atF S G sd o Y j,20,[]⟩=some ((),⟨atF S G sd (some v) Y j,20,[]⟩,[]):=by cases o<;>kernel_rfl
def SdT (t:TV):Prop:=t = .int 27011 ∨ ∃ s,t = .sint s∧0≤s∧s<md
theorem f_loop (S G:List TV) (ys:List Int):∀ (m i:Nat) (sd:TV) (o:Option TV),ys.length=i+m→SdT sd→(∀ t,o=some t→nr t)→∃ sd' o' cs,(evo [] (m+41)).fo 9 aeB (u "cell") (.ref 16) bodyB ⟨atF S G sd o (ys.map .sint) i,20,[]⟩ =
      some (.next,⟨posF S G sd' o' (ys.map .sint),20,[]⟩,cs)∧allP cs∧SdT sd' ∧ ∀ t,o'=some t→nr t
  | 0,i,sd,o,hl,hsd,ho=>by
    have hn:(ys.map TV.sint)[i]?=none:=List.getElem?_eq_none_iff.mpr (by rw [List.length_map]; omega)
    have e:=next_at (it:=16) (src:=15) (cells:=atF S G sd o (ys.map .sint) i) (xs:=ys.map .sint) (i:=i) (n:=20) (ds:=[]) (by kernel_rfl) (by kernel_rfl)
    rw [hn] at e
    refine ⟨sd,o,[],?_,trivial,hsd,ho⟩
    show foF (evo [] (0+40)) 9 aeB (u "cell") (.ref 16) bodyB _=_
    unfold foF
    rw [bd_val e]
    rfl
  | m+1,i,sd,o,hl,hsd,ho=>by
    have hi:i<ys.length:=by omega
    have hs:(ys.map TV.sint)[i]?=some (.sint ys[i]):=by rw [List.getElem?_map,List.getElem?_eq_getElem hi]; rfl
    have e:=next_at (it:=16) (src:=15) (cells:=atF S G sd o (ys.map .sint) i) (xs:=ys.map .sint) (i:=i) (n:=20) (ds:=[]) (by kernel_rfl) (by kernel_rfl)
    rw [hs] at e
    have e:nextT (.ref 16) ⟨atF S G sd o (ys.map .sint) i,20,[]⟩=some (some (.sint ys[i]),⟨atF S G sd o (ys.map .sint) (i+1),20,[]⟩,[]):=e
    have e0:=f_store S G sd o (.sint ys[i]) (ys.map .sint) (i+1)
    have go:∀ s:Int,(evo [] (m+1+40)).ss 9 aeB bodyB ⟨atF S G sd (some (.sint ys[i])) (ys.map .sint) (i+1),20,[]⟩=some (.next,⟨atF S G (.sint ((s*48271+ys[i]).fmod md)) (some (.sint ys[i])) (ys.map .sint) (i+1),20,[]⟩,[IntMulOk s 48271,md≠0])→∃ sd' o' cs,(evo [] (m+1+41)).fo 9 aeB (u "cell") (.ref 16) bodyB ⟨atF S G sd o (ys.map .sint) i,20,[]⟩ =
        some (.next,⟨posF S G sd' o' (ys.map .sint),20,[]⟩,cs)∧allP cs∧SdT sd' ∧ ∀ t,o'=some t→nr t:=fun s hb=>by
      obtain ⟨sd',o',cs,h1,h2,h3,h4⟩:=f_loop S G ys m (i+1) (.sint ((s*48271+ys[i]).fmod md)) (some (.sint ys[i])) (by omega) (.inr ⟨_,rfl,Int.fmod_nonneg_of_pos _ (by decide),Int.fmod_lt_of_pos _ (by decide)⟩) (fun t ht=>by cases ht; exact trivial)
      refine ⟨sd',o',[IntMulOk s 48271,md≠0]++cs,?_,allP_append.mpr ⟨⟨.of_right (by decide +kernel),by decide,trivial⟩,h2⟩,h3,h4⟩
      show foF (evo [] (m+1+40)) 9 aeB (u "cell") (.ref 16) bodyB _=_
      unfold foF
      rw [bd_val e]
      simp only []
      rw [bd_val e0,bd_val hb]
      simp only []
      have h1:(evo [] (m+1+40)).fo 9 aeB (u "cell") (.ref 16) bodyB ⟨atF S G (.sint ((s*48271+ys[i]).fmod md)) (some (.sint ys[i])) (ys.map .sint) (i+1),20,[]⟩=some (.next,⟨posF S G sd' o' (ys.map .sint),20,[]⟩,cs):=h1
      rw [h1]
      rfl
    rcases hsd with rfl | ⟨s,rfl,_,_⟩
    · exact go 27011 (f_body0 S G ys[i] (ys.map .sint) (i+1) (m+1))
    · exact go s (f_body S G s ys[i] (ys.map .sint) (i+1) (m+1))
section
def finJ (t:TV):M TV:=match t with
  | .ref j=>(frzB j).bd fun _=>.ret (.ref j)
  | _=>.fail
section
variable {prog:Program}{w:World}{hb:HB}{mg mb:Str→Option Value}{A:Around}{g f:PH}{ρ:Rho}
theorem Tri.finJ {m:M TV}{t:Sem Value}(h:Tri prog w clo hb A g f ρ m t (VRp w)):Tri prog w clo hb A g f ρ (m.bd finJ) t (VRp w):=by
  intro σ a σ' c e hc s R
  obtain ⟨x,σ1,c1,c2,e1,e2,hc1,hc2⟩:=bd_inv e hc
  refine wpAny_mono (h σ x σ1 c1 e1 hc1 s R) (fun v s' z => ?_) fun _ _ z=>z
  obtain ⟨g1,f1,ρ1,E1,R1,V1⟩:=z
  cases x<;>first | (cases e2; done) | skip
  rename_i j
  replace e2:((frzB j).bd fun _=>M.ret (TV.ref j)) σ1=some (a,σ',c2):=e2
  obtain ⟨y,σ2,c3,c4,e3,e4,hc3,hc4⟩:=bd_inv e2 hc2
  cases e4
  obtain ⟨g2,f2,E2,R2,_⟩:=frzB_own R1 y _ c3 e3
  exact ⟨g2,f2,ρ1,E1.trans E2,R2,VR.mono E2.gl E2.rl V1⟩
variable (prog w hb) in
def evB (S Y G:List TV) (oK oF:Option TV) (sd:TV):Evs:=evsH [] (whM prog w hb [] []) (foM prog w hb (atF S G (.int 27011) none Y 0) (posF S G sd oF Y)) (coM prog w hb (atK Y [] none 0) (posK Y G oK)) 60
variable (prog w hb) in
def cdB (S Y G:List TV) (oK oF:Option TV) (sd:TV):List Prop:=[S.length≤szL,KC prog w hb 9 aeK cmpB.1 cmpB.2.1 (u "cell") (.ref 12) (.ref 13) (atK Y [] none 0) (posK Y G oK)∧[11,12,13,14].Nodup,
  Cell.lst Y = .lst Y,Cell.itr false (.ref 11) 0 = .itr false (.ref 11) 0,Cell.lst [] = .lst [],Cell.ns [] = .ns [],S.length≤szL,
  FC prog w hb 9 aeB (u "cell") (.ref 16) bodyB (atF S G (.int 27011) none Y 0) (posF S G sd oF Y)∧[10,13,15,16].Nodup,Cell.ns (nsF S (.int 27011) none) = .ns (nsF S (.int 27011) none),Cell.lst G = .lst G,Cell.lst Y = .lst Y,Cell.itr false (.ref 15) 0 = .itr false (.ref 15) 0,okTs G]
def seeB (r:Option (TV×St×List Prop)):Option (TV×Option Cell×List Prop):=match r with
  | some (t,σ,c)=>some (t,lkC σ.cells 18,c)
  | none=>none
theorem b_run1 (prog:Program) (w:World) (hb:HB) (S G:List TV) (x sd:TV) (oK oF:Option TV):seeB (((fnF (evB prog w hb S (S.take 24) (x::G) oK oF sd) 9 iBag [.lst S]).bd finJ) ⟨[],10,[]⟩) =
    some (.ref 18,some (.lst [.lst (x::G),.int 0,sd,.int 40]),cdB prog w hb S (S.take 24) (x::G) oK oF sd):=by kernel_rfl
def rngS (n:Nat) (f:Nat→TV):List TV:=(List.range n).map f
theorem b_run0 (prog:Program) (w:World) (hb:HB) (f:Nat→TV) (sd:TV) (oK oF:Option TV) (n:Nat) (hn:n<64):seeB (((fnF (evB prog w hb (rngS n f) ((rngS n f).take 24) [] oK oF sd) 9 iBag [.lst (rngS n f)]).bd finJ) ⟨[],10,[]⟩) =
    some (.ref 18,some (.lst [.lst [],.int 0,sd,.int (cond (Nat.blt 1 n) 40 7)]),cdB prog w hb (rngS n f) ((rngS n f).take 24) [] oK oF sd):=by
  iterate 64 (rcases n with _ | n; (focus kernel_rfl))
  omega
end
end
section
abbrev rho0:Rho:=fun _=>none
section
variable {prog:Program}{w:World}{hb:HB}{mg mb:Str→Option Value}{A:Around}{g f:PH}{ρ:Rho}{s:Shared}
variable (prog w hb) in
def BC (S:List TV) (b:Bg):Prop:=∀ (A:Around) (g f:PH) (vs:List Value) (s:Shared),Room 10 A→LeB hb g s→VRs w.params g rho0 [.lst S] vs→Rel prog w clo g f s.heap rho0 [] →
  wpAny (model prog w) A (call (.ref 1115) vs) (fun v s'=>∃ g' f' a d,(PH.le g g'∧PH.le f f' ∧ ∀ b o,g' b=some o→g b=some o∨f b=none)∧Rel prog w clo g' f' s'.heap (rho0.add 1 a d) [(1,bagC b)]∧v = .ref a∧Same s s') Fa s
theorem seeB_at {r:Option (TV×St×List Prop)}{t:TV}{c:Cell}{cs:List Prop}(h:seeB r=some (t,some c,cs)):∃ σ',r=some (t,σ',cs)∧lkC σ'.cells 18=some c:=by
  unfold seeB at h
  split at h
  · rename_i t' σ c'
    simp only [Option.some.injEq,Prod.mk.injEq] at h
    obtain ⟨rfl,h2,rfl⟩:=h
    exact ⟨σ,rfl,h2⟩
  · cases h
theorem BC.of_run (H:Hyp0 prog w hb mg mb) {S Y G:List TV}{oK oF:Option TV}{sd:TV}{lf:Int}{b:Bg}(hc:allP (cdB prog w hb S Y G oK oF sd))
    (h:seeB (((fnF (evB prog w hb S Y G oK oF sd) 9 iBag [.lst S]).bd finJ) ⟨[],10,[]⟩)=some (.ref 18,some (.lst [.lst G,.int 0,sd,.int lf]),cdB prog w hb S Y G oK oF sd))
    (hb':∀ (P:Params) (g:PH) (ρ:Rho) vs,VRs P g ρ [.lst G,.int 0,sd,.int lf] vs→VRs P g ρ [.lst (b.gr.map .sint),.sint b.n,.sint b.sd,.sint b.lf] vs):BC prog w hb S b:=by
  intro A g f vs s r hB hv R
  obtain ⟨σ',e,hl⟩:=seeB_at h
  have R0:RelS prog w clo hb ⟨[],10,[]⟩ g f rho0 s:=⟨R,fun _ _=>rfl,hB⟩
  have T:Tri prog w clo hb A g f rho0 ((fnF (evB prog w hb S Y G oK oF sd) 9 iBag [.lst S]).bd finJ) (call (.ref 1115) vs) (VRp w):=(fnH H sndO_nil (hkOk ..) (by kernel_rfl) r hv).finJ
  refine wpAny_mono (T _ _ _ _ e hc s R0) (fun v s' z => ?_) fun _ _ z=>z
  obtain ⟨g',f',ρ',E,R',V⟩:=z
  cases V with
  | @ref _ a d hi =>
    have hs:Same s s':=⟨R'.b0.2.1.trans hB.2.1.symm,R'.b0.2.2.trans hB.2.2.symm⟩
    obtain ⟨junk,hj⟩:=sel_of (cells:=σ'.cells) (sel:=[(18,.lst [.lst G,.int 0,sd,.int lf])]) (by simp) (fun e he=>by rw [List.mem_singleton] at he; subst he; exact hl)
    have R1:=(R'.r.perm hj).less (List.sublist_append_left _ _)
    have R2:Rel prog w clo g' f' s'.heap ρ' [(18,bagC b)]:=R1.imp (.cons ⟨rfl,rfl,fun g ρ a d oa od x=>by
      obtain ⟨vs,n,x1,x2,x3⟩:=x
      exact ⟨vs,n,x1,hb' _ _ _ _ x2,x3⟩⟩ .nil)
    have hal:∀ p:Nat→Prop,alC p (bagC b):=fun p=>alTs_mem.mpr fun x hx=>(bag_nr b x hx).al
    have R3:=R2.ren (φ:=fun _=>1) (p:=fun i=>i=18) (ρ':=rho0.add 1 a d) (fun i hi' q e=>by
      subst hi'
      rw [hi] at e; cases e
      exact Rho.add_at) (fun e he=>by rw [List.mem_singleton] at he; subst he; exact ⟨rfl,hal _⟩)
    have e4:[(18,bagC b)].map (renE fun _=>1)=[(1,bagC b)]:=by
      show [((1:Nat),renC (fun _=>1) (bagC b))]=_
      have hn:alC (fun i=>(fun _=>1) i=i) (bagC b):=hal _
      rw [renC_id hn]
    rw [e4] at R3
    exact ⟨g',f',a,d,⟨E.gl,E.fl,E.nw⟩,R3,rfl,hs⟩
theorem sints_nr (l:List Int):nrs (l.map TV.sint):=fun t ht=>by
  obtain ⟨i,_,rfl⟩:=List.mem_map.mp ht
  exact trivial
theorem nsK_cl {S:List Nat}{o:Option TV}(ho:∀ t,o=some t→nr t):clFs S (nsK o):=by
  cases o with
  | none=>exact trivial
  | some t=>exact ⟨(ho t rfl).cl,trivial⟩
theorem own_K (ys:List Int) (G:List Int) (o:Option TV) (ho:∀ t,o=some t→nr t):Own0 [11,12,13,14] (atK (ys.map .sint) [] none 0) (posK (ys.map .sint) (G.map .sint) o) aeK:=by
  refine ⟨rfl,fun p hp => ?_,fun p hp => ?_,show [11,13,14].Nodup by decide,show 14∈[11,12,13,14] by decide,fun p hp=>by cases hp⟩
  · have hp:p∈[(11,Cell.lst (ys.map .sint)),(12,.itr false (.ref 11) 0),(13,.lst []),(14,.ns [])]:=hp
    simp only [List.mem_cons,List.not_mem_nil,or_false] at hp
    rcases hp with rfl | rfl | rfl | rfl
    · exact nrs.cl (sints_nr ys)
    · exact (show 11∈[11,12,13,14] by decide)
    · exact trivial
    · exact trivial
  · have hp:p∈[(11,Cell.lst (ys.map .sint)),(13,.lst (G.map .sint)),(14,.ns (nsK o))]:=hp
    simp only [List.mem_cons,List.not_mem_nil,or_false] at hp
    rcases hp with rfl | rfl | rfl
    · exact ⟨by simp,nrs.cl (sints_nr ys)⟩
    · exact ⟨by simp,nrs.cl (sints_nr G)⟩
    · exact ⟨by simp,nsK_cl ho⟩
theorem own_F (xs ys:List Int) (G:List Int) (sd:TV) (hsd:SdT sd) (o:Option TV) (ho:∀ t,o=some t→nr t):Own0 [10,13,15,16] (atF (xs.map .sint) (G.map .sint) (.int 27011) none (ys.map .sint) 0) (posF (xs.map .sint) (G.map .sint) sd o (ys.map .sint)) aeB:=by
  have hS:clT [10,13,15,16] (.lst (xs.map .sint)):=nrs.cl (sints_nr xs)
  have hns:∀ t o,nr t→(∀ z,o=some z→nr z)→clC [10,13,15,16] (.ns (nsF (xs.map .sint) t o)):=fun t o h h'=>⟨hS,(show 13∈[10,13,15,16] by decide),h.cl,nsK_cl h'⟩
  refine ⟨rfl,fun p hp => ?_,fun p hp => ?_,show [10,13,15].Nodup by decide,show 10∈[10,13,15,16] by decide,fun p hp=>by cases hp⟩
  · have hp:p∈[(10,Cell.ns (nsF (xs.map .sint) (.int 27011) none)),(13,.lst (G.map .sint)),(15,.lst (ys.map .sint)),(16,.itr false (.ref 15) 0)]:=hp
    simp only [List.mem_cons,List.not_mem_nil,or_false] at hp
    rcases hp with rfl | rfl | rfl | rfl
    · exact hns _ _ trivial (fun z hz=>by cases hz)
    · exact nrs.cl (sints_nr G)
    · exact nrs.cl (sints_nr ys)
    · exact (show 15∈[10,13,15,16] by decide)
  · have hp:p∈[(10,Cell.ns (nsF (xs.map .sint) sd o)),(13,.lst (G.map .sint)),(15,.lst (ys.map .sint))]:=hp
    simp only [List.mem_cons,List.not_mem_nil,or_false] at hp
    rcases hp with rfl | rfl | rfl
    · exact ⟨by simp,hns _ _ (by rcases hsd with rfl | ⟨s,rfl,_⟩<;>exact trivial) ho⟩
    · exact ⟨by simp,nrs.cl (sints_nr G)⟩
    · exact ⟨by simp,nrs.cl (sints_nr ys)⟩
theorem con_bag (H:Hyp0 prog w hb mg mb) (xs:List Int) (hl:xs.length≤63):∃ b:Bg,BgOk b 0∧(b.lf=40∨b.lf=7)∧BC prog w hb (xs.map .sint) b:=by
  have hY:(xs.map TV.sint).take 24=(xs.take 24).map TV.sint:=List.map_take.symm
  have h24:(xs.take 24).length≤24:=by rw [List.length_take]; omega
  obtain ⟨oK,cs1,e1,k1,k2⟩:=k_loop (xs.take 24) (xs.take 24).length 0 [] none (by omega) (by simp; omega) (fun t ht=>by cases ht)
  rw [List.drop_zero,List.nil_append] at e1
  obtain ⟨sd,oF,cs2,e2,k3,k4,k5⟩:=f_loop (xs.map .sint) ((grI (xs.take 24)).map .sint) (xs.take 24) (xs.take 24).length 0 (.int 27011) none (by omega) (.inl rfl) (fun t ht=>by cases ht)
  have hK:KC prog w hb 9 aeK cmpB.1 cmpB.2.1 (u "cell") (.ref 12) (.ref 13) (atK ((xs.take 24).map .sint) [] none 0) (posK ((xs.take 24).map .sint) ((grI (xs.take 24)).map .sint) oK) :=
    KC.of_ev (H.snd sndO_nil _) (own_K _ _ _ k2) (show 12∈[11,12,13,14] by decide) (show 13∈[11,12,13,14] by decide) e1 k1 (fun i hi=>by simp only [List.mem_cons,List.not_mem_nil,or_false] at hi; omega) fun p hp=>by
      have hp:p∈[(11,Cell.lst ((xs.take 24).map .sint)),(13,.lst ((grI (xs.take 24)).map .sint)),(14,.ns (nsK oK))]:=hp
      simp only [List.mem_cons,List.not_mem_nil,or_false] at hp
      rcases hp with rfl | rfl | rfl<;>kernel_rfl
  have hF:FC prog w hb 9 aeB (u "cell") (.ref 16) bodyB (atF (xs.map .sint) ((grI (xs.take 24)).map .sint) (.int 27011) none ((xs.take 24).map .sint) 0) (posF (xs.map .sint) ((grI (xs.take 24)).map .sint) sd oF ((xs.take 24).map .sint)) :=
    FC.of_ev (H.snd sndO_nil _) (own_F _ _ _ _ k4 _ k5) (show 16∈[10,13,15,16] by decide) e2 k3 (fun i hi=>by simp only [List.mem_cons,List.not_mem_nil,or_false] at hi; omega) fun p hp=>by
      have hp:p∈[(10,Cell.ns (nsF (xs.map .sint) sd oF)),(13,.lst ((grI (xs.take 24)).map .sint)),(15,.lst ((xs.take 24).map .sint))]:=hp
      simp only [List.mem_cons,List.not_mem_nil,or_false] at hp
      rcases hp with rfl | rfl | rfl<;>kernel_rfl
  have hsz:(xs.map TV.sint).length≤szL:=by rw [List.length_map]; show xs.length≤1000000; omega
  have hcd:allP (cdB prog w hb (xs.map .sint) ((xs.take 24).map .sint) ((grI (xs.take 24)).map .sint) oK oF sd):=⟨hsz,⟨hK,by decide⟩,rfl,rfl,rfl,rfl,hsz,⟨hF,by decide⟩,rfl,rfl,rfl,rfl,okTs_ints _,trivial⟩
  obtain ⟨s0,hs0,hs1,hconv⟩:∃ s0:Int,0≤s0∧s0<md ∧ ∀ (P:Params) (g:PH) (ρ:Rho) (G:List Int) (lf:Int) vs,VRs P g ρ [.lst (G.map .sint),.int 0,sd,.int lf] vs→VRs P g ρ [.lst (G.map .sint),.sint 0,.sint s0,.sint lf] vs:=by
    have go:∀ s0:Int,(∀ (P:Params) (g:PH) (ρ:Rho) v,VR P g ρ sd v→VR P g ρ (.sint s0) v)→∀ (P:Params) (g:PH) (ρ:Rho) (G:List Int) (lf:Int) vs,VRs P g ρ [.lst (G.map .sint),.int 0,sd,.int lf] vs→VRs P g ρ [.lst (G.map .sint),.sint 0,.sint s0,.sint lf] vs:=fun s0 hh P g ρ G lf vs h=>by
      cases h with
      | cons a r=>cases r with
        | cons b r=>cases r with
          | cons c r=>cases r with
            | cons d r =>
              cases r
              cases b
              cases d
              exact .cons a (.cons .sint (.cons (hh _ _ _ _ c) (.cons .sint .nil)))
    rcases k4 with rfl | ⟨s0,rfl,h0,h1⟩
    · exact ⟨27011,by decide,by decide,go _ fun P g ρ v h=>by cases h; exact .sint⟩
    · exact ⟨s0,h0,h1,go _ fun P g ρ v h=>h⟩
  have hgl:(grI (xs.take 24)).length≤24:=by
    unfold grI
    rw [List.length_map]
    exact Nat.le_trans (List.length_filter_le _ _) h24
  have fin:∀ lf:Int,(lf=40∨lf=7)→seeB (((fnF (evB prog w hb (xs.map .sint) ((xs.take 24).map .sint) ((grI (xs.take 24)).map .sint) oK oF sd) 9 iBag [.lst (xs.map .sint)]).bd finJ) ⟨[],10,[]⟩)=some (.ref 18,some (.lst [.lst ((grI (xs.take 24)).map .sint),.int 0,sd,.int lf]),cdB prog w hb (xs.map .sint) ((xs.take 24).map .sint) ((grI (xs.take 24)).map .sint) oK oF sd)→∃ b:Bg,BgOk b 0∧(b.lf=40∨b.lf=7)∧BC prog w hb (xs.map .sint) b:=fun lf hlf h =>
    ⟨⟨grI (xs.take 24),0,s0,lf⟩,⟨Int.le_refl _,Int.le_refl _,hs0,hs1,hgl⟩,hlf,BC.of_run H hcd h fun P g ρ vs hv=>hconv P g ρ _ _ vs hv⟩
  cases hg:grI (xs.take 24) with
  | nil =>
    rw [hg] at fin
    have hx:rngS xs.length (fun i=>.sint (xs[i]?.getD 0))=xs.map TV.sint:=by
      unfold rngS
      refine List.ext_getElem (by rw [List.length_map,List.length_map,List.length_range]) fun i h1 h2 => ?_
      rw [List.length_map] at h2
      rw [List.getElem_map,List.getElem_map,List.getElem_range,List.getElem?_eq_getElem h2]; rfl
    have:=b_run0 prog w hb (fun i=>.sint (xs[i]?.getD 0)) sd oK oF xs.length (by omega)
    rw [hx,hY] at this
    refine fin _ ?_ this
    cases (Nat.blt 1 xs.length)<;>simp
  | cons x r =>
    rw [hg] at fin
    have:=b_run1 prog w hb (xs.map .sint) (r.map .sint) (.sint x) sd oK oF
    rw [hY] at this
    exact fin 40 (.inl rfl) this
def bagM (prog:Program) (w:World) (hb:HB) (S:List TV) (b:Bg) (d:Nat) (args:List TV):M TV:=(need (BC prog w hb S b∧args=[.lst S]∧nrs S)).bd fun _=>chk (Nat.ble 9 d) ((newC (bagC b)).bd fun i=>.ret (.ref i))
theorem sndO_bag {S:List TV}{b:Bg}{orc:Orc}(O:SndO prog w clo hb orc):SndO prog w clo hb ((1115,bagM prog w hb S b)::orc):=by
  intro a m e A d g f ρ ts vs r hv
  rw [lkC_cons] at e
  by_cases q:1115=a
  · rw [if_pos q] at e
    cases e
    subst q
    intro σ t σ' c e hc s R
    replace e:bagM prog w hb S b d ts σ=some (t,σ',c):=e
    obtain ⟨⟨hBC,rfl,hS⟩,c',e,hc'⟩:=need_inv e hc
    obtain ⟨hd,e⟩:=chk_inv e
    have e:=newC_inv e
    cases e
    have Rs:=(R.r.sub (l1:=[]) (l2:=σ.cells) (.refl _)).recl (ρ':=rho0) (S:=[]) (fun i hi=>by cases hi) (fun p hp=>by cases hp)
    have hv0:VRs w.params g rho0 [.lst S] vs:=hv.recl (S:=[]) (fun i hi=>by cases hi) ⟨nrs.cl hS,trivial⟩
    refine wpAny_mono (hBC A g _ vs s (r.le (by have:=ble_k hd; omega)) R.b0 hv0 Rs) (fun v s' z => ?_) fun _ _ z=>z
    obtain ⟨g',f',a,dd,⟨h1,h2,h3⟩,R',rfl,hs⟩:=z
    have hal:∀ p:Nat→Prop,alC p (bagC b):=fun p=>alTs_mem.mpr fun x hx=>(bag_nr b x hx).al
    have hnx:ρ σ.next=none:=R.n _ (Nat.le_refl _)
    have R3:=R'.ren (φ:=fun _=>σ.next) (p:=fun i=>i=1) (ρ':=ρ.add σ.next a dd) (fun i hi' q e=>by
      subst hi'
      rw [Rho.add_at] at e; cases e
      exact Rho.add_at) (fun e he=>by rw [List.mem_singleton] at he; subst he; exact ⟨rfl,hal _⟩)
    have e4:[(1,bagC b)].map (renE fun _=>σ.next)=[(σ.next,bagC b)]:=by
      show [(σ.next,renC (fun _=>σ.next) (bagC b))]=_
      have hn:alC (fun i=>(fun _=>σ.next) i=i) (bagC b):=hal _
      rw [renC_id hn]
    rw [e4] at R3
    obtain ⟨R4,E4⟩:=R.r.back (l1:=[]) (l2:=σ.cells) (.refl _) ⟨h1,h2,Rho.add_le hnx,h3⟩ R3
    exact ⟨g',_,_,E4,⟨R4,fun i hi=>by
      have hi:σ.next+1≤i:=hi
      rw [Rho.add_ne (by omega)]; exact R.n i (by omega),(R.b0.go hs).up h1⟩,.ref Rho.add_at⟩
  · rw [if_neg (by exact q)] at e
    exact O a m e A d g f ρ ts vs r hv
end
end
section
theorem l_end (x:Nat→TV) (m:MS) (way:TV):((ev 100).tr 16 rae runLoop.1 ⟨fixedC x m way [],NX,[0]⟩)=some (false,⟨fixedC x m way [],NX,[]⟩,[¬ (0:Int)<0]):=by kernel_rfl
section
variable {prog:Program}{w:World}{hb:HB}{mg mb:Str→Option Value}{A:Around}{g f:PH}{ρ0:Rho}{sh:Shared}{env:Env}
theorem con_loop (H:Hyp prog w hb mg mb) {x:Nat→TV}(hx:∀ i,alT (fun i=>31≤i∧i<2000) (x i)) {s:Sq}{b b':B}{r:Res}{n:Nat}(hbig:Big (.sq s.ch none) b r b' n) (hn:n≤20000) (hb0:b.tr=[]) {cN gN:Nat}{lb eb:Bool}(hc:cN≤15) (hg:gN≤15)
    (room:Room 16 A) (N:EnvR ρ0 rae env) (hB:LeB hb g sh) (hNX:∀ i,NX≤i→ρ0 i=none) (R:Rel prog w clo g f sh.heap ρ0 (Conf.cells x ⟨b,0,.none,[taskOf s.tv]⟩ (MSof b 0 cN gN lb eb))) :
    Loop prog w A env (LoopR fun fl s'=>fl = .next ∧ ∃ g' f' ρ' cN' gN' lb' eb',(PH.le g g'∧PH.le f f' ∧ ∀ b o,g' b=some o→g b=some o∨f b=none)∧(∀ i,fixP i→∀ q,ρ0 i=some q→ρ' i=some q)∧LeB hb g' s' ∧
      Rel prog w clo g' f' s'.heap ρ' (fixedC x (MSof b' n cN' gN' lb' eb') (wy r) [])∧cN'≤15+n∧gN'≤15+n) sh:=by
  have G0:Ground0 x A ρ0 env:=⟨room,N,hx⟩
  have M:=mach (prog:=prog) (w:=w) (hb:=hb) (g0:=g) (f0:=f) H G0 hbig [] 0 (fun t ht=>nomatch ht) (by omega) s [] rfl
  have e1:seqT' s ([]:List Ch).length=taskOf s.tv:=(task_seq s).symm
  rw [e1] at M
  refine M.go _ (fun s' hgood => ?_) sh ⟨⟨(by rw [hb0]; intro t ht; cases ht),trivial,fun t ht => ?_,(by rw [hb0]; exact Nat.zero_le _),Nat.le_refl 1,Nat.zero_le _⟩,g,f,ρ0,cN,gN,lb,eb,⟨PH.le_refl _,PH.le_refl _,fun _ _ e=>.inl e⟩,fun _ _ _ e=>e,hNX,hB,R,hc,hg⟩
  · obtain ⟨ok,g',f',ρ',cN',gN',lb',eb',h1,h2,h3,h4,R',h5,h6⟩:=hgood
    rw [Nat.zero_add] at R' h5 h6
    have R':Rel prog w clo g' f' s'.heap ρ' (fixedC x (MSof b' n cN' gN' lb' eb') (wy r) []):=R'
    have S:=H.snd 100
    refine while_turn (wpAny_mono (S.tr A 16 g' f' ρ' rae env runLoop.1 room (env_fix N h2) _ _ _ _ (l_end x (MSof b' n cN' gN' lb' eb') (wy r)) ⟨by decide,trivial⟩ s' ⟨R',h3,h4⟩) (fun bo s2 z => ?_) fun _ _ z=>z)
    obtain ⟨g2,f2,ρ2,E2,R2,V2⟩:=z
    have V2:bo=false:=V2
    subst V2
    rw [if_neg (by simp)]
    exact ⟨rfl,g2,f2,ρ2,cN',gN',lb',eb',behind h1 E2,fun i hi q e=>E2.rl _ _ (h2 i hi q e),R2.b0,R2.r,h5,h6⟩
  · rw [List.mem_singleton] at ht
    rw [ht]
    exact task_nr s.nr ⟨_,_,s.tv_ch⟩
end
end
section
def evsW (orc:Orc) (W:HW) (n:Nat):Evs:=@Nat.rec (fun _=>Evs) evs0 (fun _ p=>⟨exF theTab (xtF clo ci0) p,trF theTab (xtF clo ci0) p,ssF theTab (xsF clo ci0) p,clF theTab clo orc p,W,foF p,coF p⟩) n
section
variable {prog:Program}{w:World}{hb:HB}{mg mb:Str→Option Value}
theorem sndW (H:Hyp0 prog w hb mg mb) {orc:Orc}(O:SndO prog w clo hb orc) (pre post:List Ent):∀ n,Snd prog w clo hb (evsW orc (whM prog w hb pre post) n)
  | 0=>snd0
  | n+1=>by
    have S:=sndS H.B H.T O clo_all (sndX H.B H.C) (sndS' H.B H.C) (sndW H O pre post n)
    exact ⟨S.ex,S.tr,S.ss,S.cl,(hkOk pre post [] [] [] []).wh,S.fo,S.co⟩
end
def iLaw:FnI:=fnI (sT 92) "law" [] none
end
section
section
variable {φ ψ:Nat→Nat}{p:Nat→Prop}
mutual
theorem alT_ren:∀ {t:TV},alT (fun i=>p (φ i)) t→alT p (renT φ t)
  | .ref i,x=>x
  | .tup xs,x=>alTs_ren (t:=xs) x
  | .lst xs,x=>alTs_ren (t:=xs) x
  | .ins _ fs,x=>alFs_ren (t:=fs) x
  | .none,_=>trivial
  | .bool _,_=>trivial
  | .sym _,_=>trivial
  | .int _,_=>trivial
  | .sint _,_=>trivial
  | .str _,_=>trivial
  | .type _,_=>trivial
  | .bi _,_=>trivial
  | .raw _,_=>trivial
theorem alTs_ren:∀ {t:List TV},alTs (fun i=>p (φ i)) t→alTs p (renTs φ t)
  | [],_=>trivial
  | x::xs,y=>⟨alT_ren y.1,alTs_ren y.2⟩
theorem alFs_ren:∀ {t:List (Str×TV)},alFs (fun i=>p (φ i)) t→alFs p (renFs φ t)
  | [],_=>trivial
  | (_,x)::xs,y=>⟨alT_ren y.1,alFs_ren y.2⟩
end
mutual
theorem renT_ren:∀ (t:TV),renT ψ (renT φ t)=renT (fun i=>ψ (φ i)) t
  | .ref i=>rfl
  | .tup xs=>congrArg TV.tup (renTs_ren xs)
  | .lst xs=>congrArg TV.lst (renTs_ren xs)
  | .ins C fs=>congrArg (TV.ins C) (renFs_ren fs)
  | .none=>rfl
  | .bool _=>rfl
  | .sym _=>rfl
  | .int _=>rfl
  | .sint _=>rfl
  | .str _=>rfl
  | .type _=>rfl
  | .bi _=>rfl
  | .raw _=>rfl
theorem renTs_ren:∀ (t:List TV),renTs ψ (renTs φ t)=renTs (fun i=>ψ (φ i)) t
  | []=>rfl
  | x::xs=>by simp only [renTs]; rw [renT_ren x,renTs_ren xs]
theorem renFs_ren:∀ (t:List (Str×TV)),renFs ψ (renFs φ t)=renFs (fun i=>ψ (φ i)) t
  | []=>rfl
  | (n,x)::xs=>by simp only [renFs]; rw [renT_ren x,renFs_ren xs]
end
theorem alC_ren:∀ {c:Cell},alC (fun i=>p (φ i)) c→alC p (renC φ c)
  | .inst _ _,x=>alFs_ren x
  | .lst _,x=>alTs_ren x
  | .stk _,x=>alTs_ren x
  | .ns _,x=>alFs_ren x
  | .sdic _,x=>alFs_ren x
  | .dic ..,x=>fun q hq=>by
    obtain ⟨q',h,rfl⟩:=List.mem_map.mp hq
    exact alT_ren (x q' h)
  | .cel none,_=>trivial
  | .cel (some _),x=>alT_ren x
  | .itr ..,x=>alT_ren x
  | .rng _,_=>trivial
  | .rit ..,_=>trivial
  | .clo ..,x=>fun q hq=>by
    obtain ⟨q',h,rfl⟩:=List.mem_map.mp hq
    exact x q' h
  | .tbl ..,_=>trivial
theorem renC_ren:∀ (c:Cell),renC ψ (renC φ c)=renC (fun i=>ψ (φ i)) c
  | .inst _ _=>congrArg _ (renFs_ren _)
  | .lst _=>congrArg _ (renTs_ren _)
  | .stk _=>congrArg _ (renTs_ren _)
  | .ns _=>congrArg _ (renFs_ren _)
  | .sdic _=>congrArg _ (renFs_ren _)
  | .dic N g es=>congrArg (Cell.dic N g) (by
    rw [List.map_map]
    exact List.map_congr_left fun q _=>by show (q.1,renT ψ (renT φ q.2.1),q.2.2)=_; rw [renT_ren])
  | .cel none=>rfl
  | .cel (some _)=>congrArg (fun t=>Cell.cel (some t)) (renT_ren _)
  | .itr .. => by simp only [renC]; rw [renT_ren]
  | .rng _=>rfl
  | .rit .. => rfl
  | .clo k cs=>congrArg (Cell.clo k) (by rw [List.map_map]; rfl)
  | .tbl .. => rfl
end
section
variable {prog:Program}{w:World}{hb:HB}{g f:PH}{ρ:Rho}{h:Heap}{l:List Ent}{al:List (Nat×Nat)}{S:List Nat}
theorem tb {al:List (Nat×Nat)}(hv:(al.map (·.2)).Nodup) {i:Nat}(h:i∈al.map (·.1)):turn (back al) (turn al i)=i:=turn_back hv (.inl h)
theorem ren_back (hv:(al.map (·.2)).Nodup) (hl:∀ e∈l,alE (· ∈ al.map (·.1)) e):(l.map (renE (turn al))).map (renE (turn (back al)))=l:=by
  rw [List.map_map]
  conv=>rhs; rw [← List.map_id l]
  refine List.map_congr_left fun e he => ?_
  obtain ⟨i,c⟩:=e
  obtain ⟨h1,h2⟩:=hl _ he
  show (turn (back al) (turn al i),renC _ (renC _ c))=(i,c)
  rw [tb hv h1,renC_ren,renC_id (alC.imp (fun i hi=>tb hv hi) h2)]
theorem Rel.unren (hv:(al.map (·.2)).Nodup) (R:Rel prog w clo g f h ρ (l.map (renE (turn al)))) (hl:∀ e∈l,alE (· ∈ al.map (·.1)) e) {ρ0:Rho}(h0:∀ i∈al.map (·.1),ρ0 i=ρ (turn al i)):Rel prog w clo g f h ρ0 l:=by
  have R1:=R.ren (φ:=turn (Nu.back al)) (p:=fun i=>∃ j∈al.map (·.1),i=turn al j) (ρ':=ρ0) (fun i hi q e=>by
    obtain ⟨j,hj,rfl⟩:=hi
    rw [tb hv hj,h0 j hj]; exact e) (fun e he=>by
    obtain ⟨e',h',rfl⟩:=List.mem_map.mp he
    obtain ⟨i,c⟩:=e'
    obtain ⟨h1,h2⟩:=hl _ h'
    exact ⟨⟨i,h1,rfl⟩,alC_ren (alC.imp (fun i hi=>⟨i,hi,rfl⟩) h2)⟩)
  rw [ren_back hv hl] at R1
  exact R1
theorem VR.unren {P:Params}(hv:(al.map (·.2)).Nodup) {t:TV}{v:Value}(V:VR P g ρ (renT (turn al) t) v) (ht:alT (· ∈ al.map (·.1)) t) {ρ0:Rho}(h0:∀ i∈al.map (·.1),ρ0 i=ρ (turn al i)):VR P g ρ0 t v:=by
  have V1:=V.ren (φ:=turn (back al)) (p:=fun i=>∃ j∈al.map (·.1),i=turn al j) (ρ':=ρ0) (fun i hi q e=>by
    obtain ⟨j,hj,rfl⟩:=hi
    rw [tb hv hj,h0 j hj]; exact e) (alT_ren (alT.imp (fun i hi=>⟨i,hi,rfl⟩) ht))
  rw [renT_ren,renT_id (alT.imp (fun i hi=>tb hv hi) ht)] at V1
  exact V1
theorem Con.ren {e:EntC}(hc:Con prog w clo hb e) (hk:al.map (·.1)=e.ids) (hv:(al.map (·.2)).Nodup) (ha:∀ t∈e.args,alT (· ∈ al.map (·.1)) t) (hp:∀ c∈e.pre,alE (· ∈ al.map (·.1)) c) (hq:∀ c∈e.post,alE (· ∈ al.map (·.1)) c) (hr:alT (· ∈ al.map (·.1)) e.res) :
    Con prog w clo hb ⟨e.fn,e.dep,e.args.map (renT (turn al)),e.pre.map (renE (turn al)),e.post.map (renE (turn al)),renT (turn al) e.res⟩:=by
  intro A g f ρ vs s r hρ hB hv' R
  let ρ0:Rho:=fun i=>if i∈al.map (·.1) then ρ (turn al i) else none
  have h0:∀ i∈al.map (·.1),ρ0 i=ρ (turn al i):=fun i hi=>if_pos hi
  have R0:=Rel.unren hv R hp h0
  have hargs:∀ {ts:List TV}{vs:List Value},VRs w.params g ρ (ts.map (renT (turn al))) vs→(∀ t∈ts,alT (· ∈ al.map (·.1)) t)→VRs w.params g ρ0 ts vs:=by
    intro ts
    induction ts with
    | nil=>intro vs h _; cases h; exact .nil
    | cons t ts ih =>
      intro vs h hal
      cases h with
      | cons a b=>exact .cons (VR.unren hv a (hal _ (.head _)) h0) (ih b fun x hx=>hal x (.tail _ hx))
  refine wpAny_mono (hc A g f ρ0 vs s r (fun i hi=>if_neg (by rw [hk]; exact hi)) hB (hargs hv' ha) R0) (fun v s' x => ?_) fun _ _ z=>z
  obtain ⟨g',f',ρ',E,R',V,hs⟩:=x
  have back:onR (turn al) (· ∈ al.map (·.1)) ρ' ρ:=fun i hi q eq=>by
    have hi':=hi
    rw [hk] at hi'
    obtain ⟨c,hc',rfl⟩:=List.mem_map.mp hi'
    obtain ⟨a,d,e1,_⟩:=R0.at_ c.1 c.2 hc'
    have e2:=E.rl _ _ e1
    rw [eq] at e2; cases e2
    rw [← h0 _ hi]; exact e1
  exact ⟨g',f',ρ,⟨E.gl,E.fl,Rho.le_refl _,E.nw⟩,R'.ren back hq,V.ren back hr,hs⟩
theorem Con.imp {e:EntC}{pre':List Ent}(hc:Con prog w clo hb e) (hi:CImps prog w pre' e.pre) (hk:pre'.map (·.1)=e.ids):Con prog w clo hb ⟨e.fn,e.dep,e.args,pre',e.post,e.res⟩:=fun A g f ρ vs s r hρ hB hv R =>
  hc A g f ρ vs s r (fun i hi=>hρ i (by show i∉pre'.map (·.1); rw [hk]; exact hi)) hB hv (R.imp hi)
end
end
section
def x0:Nat→TV
  | 0=>.ref 31
  | 1=>.ref 32
  | 3=>.int 6
  | 4=>.int 8
  | 5=>.ref 33
  | 6=>.ref 34
  | 7=>.int 0
  | 8=>.int 0
  | 9=>.ref 35
  | 10=>.bool true
  | 11=>.ref 36
  | _=>.none
def alL:List (Nat×Nat):=[(10,130),(11,132),(1,9),(2,111),(3,18),(4,13),(5,126),(6,128),(7,122),(8,133),(21,123),(22,115),(23,116),(24,117),(25,118),(26,119),(27,120),(28,121),(29,113),(30,114),(31,12),(32,15),(33,16),(34,17),(35,19),(36,101)]
def keysP:List Nat:=fixIds++[31,32,33,34,35,36]
def kindsA:List (Str×TV):=renFs (turn alL) kinds
def wfsA (t:TV):List (Str×TV):=[(u "natives",.ref 12),(u "prelude",.ref 15),(u "read",.none),(u "most",.int 20000),(u "taken",t),(u "last_number",.int 6),(u "last_ident",.int 8),(u "symbol_idents",.ref 16),(u "made",.ref 17),(u "version",.int 0),(u "const_version",.int 0),(u "globals",.ref 18),(u "out",.ref 19),(u "is_ready",.bool true),(u "main",.ref 101)]
def fixG (tr ct gl:Cell) (tk way:TV) (st:Cell):List Ent :=
  [(9,tr),(111,ct),(18,gl),(13,.inst 1106 (wfsA tk)),(126,.inst 659 [(u "world",.ref 13),(u "table",.ref 122),(u "catches",.tup [.str (u "begin")]),(u "stack",.ref 128),(u "way",way),(u "fiber",.none)]),(128,st),(122,.sdic kindsA),(133,.ns [(u "self",.ref 126)]),
   (123,.clo 7 []),(115,.clo 0 [(u "trace",113)]),(116,.clo 1 []),(117,.clo 2 [(u "trace",113)]),(118,.clo 3 [(u "counts",114)]),(119,.clo 4 []),(120,.clo 5 [(u "trace",113)]),(121,.clo 6 []),(113,.cel (some (.ref 9))),(114,.cel (some (.ref 111)))]
def glD (N:Nat) (la:TV) (lb:Bool) (er:TV) (eb:Bool):Cell:=.dic N (fun _=>none) [(u "$!",la,lb),(u "$e",er,eb)]
def tskA (T:TV):List Ent:=[(130,.inst 560 (tfs (u "seq") T (.int 0) (.ref 132))),(132,.lst [])]
def preA (T:TV):List Ent:=tskA T++fixG (.lst []) (.dic 15 (fun _=>none) []) (glD 15 .none false .none false) (.int 0) .none (.lst [.ref 130])
abbrev NB:Nat:=100000
def posA (b:B) (r:Res) (n:Nat):List Ent:=fixG (.stk b.tr) (.dic NB b.ct []) (glD NB (oi b.la) false (oi b.er) false) (.sint (n:Int)) (wy r) (.stk [])
def bI:B:=⟨[],fun _=>none,none,none⟩
theorem fix_ren (m:MS) (way:TV) (S:List TV):(fixedC x0 m way S).map (renE (turn alL))=fixG (.stk (renTs (turn alL) m.tr)) (.dic m.cN m.ct []) (glD m.gN (renT (turn alL) m.la) m.lb (renT (turn alL) m.er) m.eb) (.sint (m.tk:Int)) (renT (turn alL) way) (.stk (renTs (turn alL) S)):=by kernel_rfl
theorem nodupL:(alL.map (·.2)).Nodup:=nodupN_of (by kernel_rfl)
theorem keysL {i:Nat}(h:i∈keysP):i∈alL.map (·.1):=by
  have:∀ i∈keysP,hasI (alL.map (·.1)) i=true:=List.all_eq_true.mp (show keysP.all (hasI (alL.map (·.1)))=true by kernel_rfl)
  exact hasI_mem (this i h)
theorem x0_al {p:Nat→Prop}(h:∀ i,i∈keysP→p i):∀ i,alT p (x0 i)
  | 0=>h 31 (hasI_mem (by kernel_rfl))
  | 1=>h 32 (hasI_mem (by kernel_rfl))
  | 2=>trivial
  | 3=>trivial
  | 4=>trivial
  | 5=>h 33 (hasI_mem (by kernel_rfl))
  | 6=>h 34 (hasI_mem (by kernel_rfl))
  | 7=>trivial
  | 8=>trivial
  | 9=>h 35 (hasI_mem (by kernel_rfl))
  | 10=>trivial
  | 11=>h 36 (hasI_mem (by kernel_rfl))
  | _+12=>trivial
theorem x0_in:∀ i,alT (fun i=>31≤i∧i<2000) (x0 i)
  | 0=>(by decide:31≤31∧31<2000)
  | 1=>(by decide:31≤32∧32<2000)
  | 2=>trivial
  | 3=>trivial
  | 4=>trivial
  | 5=>(by decide:31≤33∧33<2000)
  | 6=>(by decide:31≤34∧34<2000)
  | 7=>trivial
  | 8=>trivial
  | 9=>(by decide:31≤35∧35<2000)
  | 10=>trivial
  | 11=>(by decide:31≤36∧36<2000)
  | _+12=>trivial
theorem fixI_P {i:Nat}(h:i∈fixIds):i∈keysP:=List.mem_append_left _ h
section
variable {P:Params}{g:PH}{ρ:Rho}
theorem FR.mid {n:Str}{i:Int}:∀ (a:List (Str×TV)) {b:List (Str×TV)}{es:List DictEntry},FR P g ρ (a++(n,.int i)::b) es→FR P g ρ (a++(n,.sint i)::b) es
  | [],b,es,h=>by
    have h:FR P g ρ ((n,.int i)::b) es:=h
    cases h with
    | cons x y=>cases x; exact .cons .sint y
  | (m,t)::a,b,es,h=>by
    have h:FR P g ρ ((m,t)::(a++(n,.int i)::b)) es:=h
    cases h with
    | cons x y=>exact .cons x (FR.mid a y)
end
section
variable {prog:Program}{w:World}{hb:HB}{mg mb:Str→Option Value}
theorem imp_stk {i:Nat}{xs:List TV}:CImp prog w (i,.lst xs) (i,.stk xs.reverse):=⟨rfl,rfl,fun g ρ a d oa od x=>by
  obtain ⟨vs,n,x1,x2,x3⟩:=x
  exact ⟨vs,n,x1,by rw [List.reverse_reverse]; exact x2,x3⟩⟩
theorem imp_refl:∀ (l:List Ent),CImps prog w l l
  | []=>.nil
  | _::r=>.cons .refl (imp_refl r)
theorem imp_app {a b c d:List Ent}(h:CImps prog w a b) (h':CImps prog w c d):CImps prog w (a++c) (b++d):=by
  induction h with
  | nil=>exact h'
  | cons x _ ih=>exact .cons x ih
theorem imp_taken {t:Int}:CImp prog w (13,.inst 1106 (wfsA (.int t))) (13,.inst 1106 (wfsA (.sint t))):=⟨rfl,rfl,fun g ρ a d oa od x=>by
  obtain ⟨x1,es,n,x2,x3,x4⟩:=x
  exact ⟨x1,es,n,x2,FR.mid [(u "natives",.ref 12),(u "prelude",.ref 15),(u "read",.none),(u "most",.int 20000)] x3,x4⟩⟩
theorem imp_dic {i N N':Nat}{gi:Int→Option Int}{es es':List (Str×TV×Bool)}(hN:N≤N') (he:∀ g ρ x v,WkR w.params g ρ (lkF es x) v→WkR w.params g ρ (lkF es' x) v):CImp prog w (i,.dic N gi es) (i,.dic N' gi es'):=⟨rfl,rfl,fun g ρ a d oa od x=>by
  obtain ⟨ds,ep,x1,x2,x3,x4,x5⟩:=x
  exact ⟨ds,ep,x1,x2,x3,fun y=>he _ _ _ _ (x4 y),Nat.le_trans x5 hN⟩⟩
theorem wk_down {la er:TV}{lb eb:Bool}{g:PH}{ρ:Rho}(x:Str) (v:Option Value) (h:WkR w.params g ρ (lkF [(u "$!",la,lb),(u "$e",er,eb)] x) v):WkR w.params g ρ (lkF [(u "$!",la,false),(u "$e",er,false)] x) v:=by
  have down:∀ (t:TV) (b:Bool),WkR w.params g ρ (some (t,b)) v→WkR w.params g ρ (some (t,false)) v:=fun t b h=>by
    rcases h with h | ⟨_,h2,h3⟩
    · exact .inl h
    · exact .inr ⟨rfl,h2,h3⟩
  rw [lkF_cons,lkF_cons] at h ⊢
  by_cases q:u "$!" = x
  · rw [if_pos q] at h ⊢; exact down _ _ h
  · rw [if_neg (by exact q)] at h ⊢
    by_cases q2:u "$e" = x
    · rw [if_pos q2] at h ⊢; exact down _ _ h
    · rw [if_neg (by exact q2)] at h ⊢; exact h
theorem imp_pre (T:TV):CImps prog w (preA T) (tskA T++fixG (.stk []) (.dic 15 (fun _=>none) []) (glD 15 .none false .none false) (.sint 0) .none (.stk [.ref 130])) :=
  imp_app (imp_refl _) (.cons (imp_stk (xs:=[])) (.cons .refl (.cons .refl (.cons imp_taken (.cons .refl (.cons (imp_stk (xs:=[.ref 130])) (imp_refl _)))))))
theorem imp_post (b:B) (n cN gN:Nat) (lb eb:Bool) (way:TV) (S:List TV) (hc:cN≤NB) (hg:gN≤NB):CImps prog w (fixedC x0 (MSof b n cN gN lb eb) way S) (fixedC x0 (MSof b n NB NB false false) way S) :=
  .cons .refl (.cons (imp_dic hc fun _ _ _ _ h=>h) (.cons (imp_dic hg fun g ρ x v h=>wk_down x v h) (imp_refl _)))
def aeR:AE:=⟨stScope (sM 43 11),133,[],none⟩
theorem wc_loop (H:Hyp prog w hb mg mb) {s:Sq}{b':B}{r:Res}{n:Nat}(hbig:Big (.sq s.ch none) bI r b' n) (hn:n≤20000) (htr:nrs b'.tr) {d:Nat}(hd:16≤d):WC prog w hb d aeR runLoop.1 runLoop.2 (preA s.tv) (posA b' r n):=by
  intro A g f ρ env sh room N hB R
  have hT:nrK (taskOf s.tv):=task_nr s.nr ⟨_,_,s.tv_ch⟩
  have et:taskOf s.tv = .plain (u "seq") s.tv (.int 0) []:=by rw [s.tv_ch]; rfl
  have hcells:Conf.cells x0 ⟨bI,0,.none,[taskOf s.tv]⟩ (MSof bI 0 15 15 false false)=tcells (taskOf s.tv) 10 11 12++fixedC x0 (MSof bI 0 15 15 false false) .none [.ref 10]:=List.append_nil _
  have R1:=R.imp (imp_pre s.tv)
  have e1:(Conf.cells x0 ⟨bI,0,.none,[taskOf s.tv]⟩ (MSof bI 0 15 15 false false)).map (renE (turn alL))=tskA s.tv++fixG (.stk []) (.dic 15 (fun _=>none) []) (glD 15 .none false .none false) (.sint 0) .none (.stk [.ref 130]):=by
    rw [hcells,List.map_append,fix_ren,tcells_ren (i':=130) (j':=132) (k':=0) hT (by rw [et]; kernel_rfl),et]
    rfl
  rw [← e1] at R1
  have inK:∀ i,i∈keysP→i∈alL.map (·.1):=fun i h=>keysL h
  have hal:∀ e∈Conf.cells x0 ⟨bI,0,.none,[taskOf s.tv]⟩ (MSof bI 0 15 15 false false),alE (· ∈ alL.map (·.1)) e:=by
    rw [hcells]
    intro e he
    rcases List.mem_append.mp he with he | he
    · refine tcells_al hT (fun z hz => ?_) e he
      rw [et] at hz
      have hz:z∈[10,11]:=hz
      simp only [List.mem_cons,List.not_mem_nil,or_false] at hz
      rcases hz with rfl | rfl<;>exact hasI_mem (by kernel_rfl)
    · exact fixed_al' (m:=MSof bI 0 15 15 false false) (way:=.none) (x0_al inK) (fun t ht=>by cases ht) trivial trivial trivial (fun i h=>inK i (fixI_P h)) (fun t ht=>by
        rw [List.mem_singleton] at ht; subst ht
        exact (hasI_mem (by kernel_rfl):10∈alL.map (·.1))) e he
  let ρc:Rho:=fun i=>if i∈alL.map (·.1) then ρ (turn alL i) else none
  have h0:∀ i∈alL.map (·.1),ρc i=ρ (turn alL i):=fun i hi=>if_pos hi
  have R2:=Rel.unren nodupL R1 hal h0
  have hNX:∀ i,NX≤i→ρc i=none:=fun i hi=>if_neg fun q=>by
    have:∀ i∈alL.map (·.1),Nat.blt i NX=true:=List.all_eq_true.mp (show (alL.map (·.1)).all (fun i=>Nat.blt i NX)=true by kernel_rfl)
    have:=Nat.le_of_ble_eq_true (this i q)
    omega
  have N2:EnvR ρc rae env:=⟨N.sc,N.fn,N.gl,N.bl,by
    obtain ⟨d,e⟩:=N.lo
    exact ⟨d,by rw [show rae.loc=8 from rfl,h0 8 (hasI_mem (by kernel_rfl))]; exact e⟩,by
    have key:∀ z,ClR ρ [] z→ClR ρc [] z:=fun z h=>by cases h; exact .nil
    exact key _ N.cs,N.co⟩
  refine codeAny_mono (con_loop H x0_in hbig hn rfl (Nat.le_refl 15) (Nat.le_refl 15) (room.le hd) N2 hB hNX R2) fun res s' z => ?_
  cases res with
  | error _=>exact z.elim
  | ok fl =>
    obtain ⟨rfl,g',f',ρ',cN',gN',lb',eb',h1,h2,hB',R',c1,c2⟩:=z
    have R3:=R'.imp (imp_post b' n cN' gN' lb' eb' (wy r) [] (by show cN'≤100000; omega) (by show gN'≤100000; omega))
    have refs:∀ x i,lkF (wfs x0 0) x=some (.ref i)→∃ q,ρc i=some q:=fun x i hl=>by
      obtain ⟨a,d,e,o1,es,nn,o2,o3,_⟩:=R2.at_ 4 (.inst 1106 (wfs x0 0)) (by rw [hcells]; exact List.mem_append_right _ (.tail _ (.tail _ (.tail _ (.head _)))))
      rcases o3.get (x:=x) with ⟨q,_⟩ | ⟨t,v,q1,_,V⟩
      · rw [hl] at q; cases q
      · rw [hl] at q1; cases q1
        cases V with
        | ref q=>exact ⟨_,q⟩
    have some0:∀ i∈keysP,∃ q,ρc i=some q:=fun i hi=>by
      rcases List.mem_append.mp hi with hi | hi
      · have hi':i∈(fixedC x0 (MSof bI 0 15 15 false false) .none [.ref 10]).map (·.1):=by rw [fixed_ids]; exact hi
        obtain ⟨c,hc,rfl⟩:=List.mem_map.mp hi'
        obtain ⟨a,d,e,_⟩:=R2.at_ c.1 c.2 (by rw [hcells]; exact List.mem_append_right _ hc)
        exact ⟨_,e⟩
      · simp only [List.mem_cons,List.not_mem_nil,or_false] at hi
        rcases hi with rfl | rfl | rfl | rfl | rfl | rfl
        · exact refs (u "natives") 31 (by kernel_rfl)
        · exact refs (u "prelude") 32 (by kernel_rfl)
        · exact refs (u "symbol_idents") 33 (by kernel_rfl)
        · exact refs (u "made") 34 (by kernel_rfl)
        · exact refs (u "out") 35 (by kernel_rfl)
        · exact refs (u "main") 36 (by kernel_rfl)
    have inF:∀ i∈keysP,fixP i:=fun i hi=>by
      rcases List.mem_append.mp hi with hi | hi
      · exact .inl hi
      · simp only [List.mem_cons,List.not_mem_nil,or_false] at hi
        exact .inr (by omega)
    have R4:=R3.ren (φ:=turn alL) (p:=(· ∈ keysP)) (ρ':=ρ) (fun i hi q e=>by
      obtain ⟨q0,e0⟩:=some0 i hi
      have e3:=h2 i (inF i hi) q0 e0
      rw [e] at e3; cases e3
      rw [← h0 i (inK i hi)]; exact e0) (fixed_al' (x0_al fun i h=>h) htr (oi_nr _) (oi_nr _) (wy_nr r) (fun i h=>fixI_P h) (fun t ht=>by cases ht))
    have e4:(fixedC x0 (MSof b' n NB NB false false) (wy r) []).map (renE (turn alL))=posA b' r n:=by
      rw [fix_ren]
      show fixG (.stk (renTs (turn alL) b'.tr)) (.dic NB b'.ct []) (glD NB (renT (turn alL) (oi b'.la)) false (renT (turn alL) (oi b'.er)) false) (.sint (n:Int)) (renT (turn alL) (wy r)) (.stk [])=_
      rw [nrs.id (alTs_mem.mpr htr),(oi_nr b'.la).id,(oi_nr b'.er).id,(wy_nr r).id]
      rfl
    rw [e4] at R4
    exact ⟨rfl,g',f',⟨h1.1,h1.2.1,Rho.le_refl _,h1.2.2⟩,R4,hB'⟩
end
end
def treeT (P:TV) (n:Int):TV:=ndT (u "seq") (.tup [.lst [ndT (u "begin") P,symT n]])
def eBeg (d:Nat) (δ:Int) (b b':Bg) (P:TV):EntC:=⟨1151,d,[.ref 2,.int δ],[(2,bagC b)],[(2,bagC b')],ndT (u "begin") P⟩
def knI:Cell:=.dic 15 (fun _=>none) [(u "$!",.none,true),(u "$e",.none,false)]
def knD (N:Nat) (ct:Int→Option Int) (er:Option Int) (eb:Bool):Cell:=.dic N ct [(u "$!",.none,true),(u "$e",oi er,eb)]
def wayV (rs:Str) (rv:TV):TV:=.ins 538 [(u "sort",.str rs),(u "value",rv),(u "tag",.none)]
def eWlk (d:Nat) (T:TV) (tr:List TV) (kn:Cell) (rs:Str) (rv:TV):EntC:=⟨1191,d,[T,.ref 10,.ref 11],[(10,.lst []),(11,knI)],[(10,.stk tr),(11,kn)],.tup [.str rs,rv]⟩
def posV (tr:List TV) (ct:Int→Option Int) (er:Option Int) (n:Nat) (rs:Str) (rv:TV):List Ent:=fixG (.stk tr) (.dic NB ct []) (glD NB .none false (oi er) false) (.sint (n:Int)) (wayV rs rv) (.stk [])
def orcL (prog:Program) (w:World) (hb:HB) (S:List TV) (b:Bg) (eb ew:EntC):Orc:=[(1115,bagM prog w hb S b),(1151,entM [eb] 1151),(1191,entM [ew] 1191)]
def dirsL (v:Bool) (er:Option Int):List Nat:=[cond v 1 0,0,3]++([0,0,0,0,2,0,0,0,0,0,0,0,0,0,0,0,0,0,0,0,0]++([1,0,1,2,3,4,5,6,0,7,0,0]++0::match er with
  | none=>[]
  | some _=>[1]))
def runLaw (prog:Program) (w:World) (hb:HB) (S:List TV) (b:Bg) (eb ew:EntC) (T:TV) (post:List Ent) (ps:Array Value) (dirs:List Nat) :=
  fnF (evsW (orcL prog w hb S b eb ew) (whM prog w hb (preA T) post) 150) 40 iLaw [.lst S] ⟨[(0,.tbl 1160 ps [])],1,dirs⟩
def seeL (r:Option (TV×St×List Prop)):Option (TV×Option Cell×List Prop):=match r with
  | some (t,σ,c)=>some (t,lkC σ.cells 0,c)
  | none=>none
def cEq (k:Nat):Prop:=(clo k).name=(clo k).name∧(clo k).qual=(clo k).qual∧(clo k).params=(clo k).params∧(clo k).body=(clo k).body∧(clo k).scope=(clo k).scope
def eqsL (l:List Ent):List Prop:=l.map fun p=>p.2=p.2
def cdL (prog:Program) (w:World) (hb:HB) (S:List TV) (b b':Bg) (P:TV) (v:Bool) (dB dW:Nat) (tr:List TV) (er:Option Int) (post:List Ent) (rs:Str) (rv:TV):List Prop :=
  [BC prog w hb S b∧[TV.lst S]=[.lst S]∧nrs S,cond v (b.lf<10) (¬ b.lf<10),(1151:Nat)=1151∧dB≤39+1∧[TV.ref 2,.int (cond v 1 3)]=[.ref 2,.int (cond v 1 3)],bagC b=bagC b,
    cEq 0,cEq 1,cEq 2,cEq 3,cEq 4,cEq 5,cEq 6,cEq 7,WC prog w hb 39 aeR runLoop.1 runLoop.2 (preA (treeT P b'.n)) post∧((preA (treeT P b'.n)).map (·.1)).Nodup]++(eqsL (preA (treeT P b'.n)) ++
  ([(1191:Nat)=1191∧dW≤39+1∧[treeT P b'.n,.ref 10,.ref 11]=[treeT P b'.n,TV.ref 10,.ref 11],Cell.lst [] = .lst [],knI=knI,[TV.str rs,rv]=[.str rs,rv]∧okT (.tup [.str rs,rv]),tr=tr∧okTs tr.reverse,([]:List TV)=[]∧([]:List TV)=[]]++(match er with
    | none=>[]
    | some e=>[e=e])))
theorem law_run (prog:Program) (w:World) (hb:HB) (S:List TV) (b b':Bg) (P:TV) (v:Bool) (dB dW:Nat) (tr:List TV) (ct:Int→Option Int) (kN:Nat) (keb:Bool) (er:Option Int) (n:Nat) (rs:Str) (rv:Option Int) (ps:Array Value) :
    seeL (runLaw prog w hb S b (eBeg dB (cond v 1 3) b b' P) (eWlk dW (treeT P b'.n) tr (knD kN ct er keb) rs (oi rv)) (treeT P b'.n) (posV tr ct er n rs (oi rv)) ps (dirsL v er)) =
      some (.bool true,some (.tbl 1160 ps [(792,22),(789,4),(781,4),(778,4),(773,4),(769,4),(766,4),(762,4)]),cdL prog w hb S b b' P v dB dW tr er (posV tr ct er n rs (oi rv)) rs (oi rv)):=by
  cases v<;>cases er<;>cases rv<;>kernel_rfl
section
theorem flat_str {x:Str}(h:okT (.str x)):flat (.str x):=by
  have hs:=okT_str h
  exact ⟨.str x,rfl,SeqAt.canLay_of_shaped hs,by simp [PyData.depth]⟩
theorem flat_oi (v:Option Int):flat (oi v):=by
  cases v with
  | none=>exact ⟨.none,rfl,by simp [PyData.canLay0],by simp [PyData.depth]⟩
  | some n=>exact flat_int n
theorem flat_tup1 {xs:List TV}(h:∀ x∈xs,∃ d,pd x=some d∧d.canLay0=true∧d.depth=0):flat (.tup xs)∧okT (.tup xs):=by
  have key:∀ xs:List TV,(∀ x∈xs,∃ d,pd x=some d∧d.canLay0=true∧d.depth=0)→∃ ds,pds xs=some ds∧PyData.canLayAll0 ds=true∧PyData.depthAll ds=0:=by
    intro xs
    induction xs with
    | nil=>intro _; exact ⟨[],rfl,by simp [PyData.canLayAll0],by simp [PyData.depthAll]⟩
    | cons x r ih =>
      intro h
      obtain ⟨d,h1,h2,h3⟩:=h x (.head _)
      obtain ⟨ds,g1,g2,g3⟩:=ih fun y hy=>h y (.tail _ hy)
      exact ⟨d::ds,by rw [pds,h1,g1],by simp [PyData.canLayAll0,h2,g2],by simp only [PyData.depthAll,h3,g3]; rfl⟩
  obtain ⟨ds,h1,h2,h3⟩:=key xs h
  have hp:pd (.tup xs)=some (.tuple ds):=by rw [pd,h1]
  have hc:(PyData.tuple ds).canLay0=true:=by simpa [PyData.canLay0] using h2
  have hd:(PyData.tuple ds).depth=1:=by simp only [PyData.depth,h3]
  refine ⟨⟨_,hp,hc,by omega⟩,_,hp,?_⟩
  unfold SeqAt.shaped
  rw [Bool.and_eq_true]
  exact ⟨hc,decide_eq_true (by omega)⟩
theorem leaf_str {x:Str}(h:okT (.str x)):∃ d,pd (.str x)=some d∧d.canLay0=true∧d.depth=0:=⟨.str x,rfl,SeqAt.canLay_of_shaped (okT_str h),by simp [PyData.depth]⟩
theorem leaf_int (i:Int):∃ d,pd (.int i)=some d∧d.canLay0=true∧d.depth=0:=⟨.int i,rfl,by simp [PyData.canLay0],by simp [PyData.depth]⟩
theorem leaf_sint (i:Int):∃ d,pd (.sint i)=some d∧d.canLay0=true∧d.depth=0:=⟨.int i,rfl,by simp [PyData.canLay0],by simp [PyData.depth]⟩
theorem leaf_oi (v:Option Int):∃ d,pd (oi v)=some d∧d.canLay0=true∧d.depth=0:=by
  cases v with
  | none=>exact ⟨.none,rfl,by simp [PyData.canLay0],by simp [PyData.depth]⟩
  | some n=>exact leaf_sint n
theorem flat_last (b:B):flat (lastT b):=(flat_tup1 fun x hx=>by
  simp only [List.mem_cons,List.not_mem_nil,or_false] at hx
  rcases hx with rfl | rfl
  · exact leaf_str (okT_of (by kernel_rfl))
  · exact leaf_oi _).1
theorem flat_ask (e:Int) (c:Cn):flat (askT e c):=(flat_tup1 fun x hx=>by
  simp only [List.mem_cons,List.not_mem_nil,or_false] at hx
  rcases hx with rfl | rfl | rfl | rfl
  · exact leaf_str okw_asked
  · exact leaf_int _
  · exact leaf_sint _
  · exact leaf_str (okT_of (by kernel_rfl))).1
abbrev flats (l:List TV):Prop:=∀ t∈l,flat t
theorem flats_cons {t:TV}{l:List TV}(h:flat t) (h':flats l):flats (t::l):=fun x hx=>by
  rcases List.mem_cons.mp hx with rfl | hx
  · exact h
  · exact h' x hx
theorem flats_asks {e:Int}:∀ {a:List Cn}{b:B},flats b.tr→flats (b.asks e a).tr
  | [],b,h=>h
  | c::a,b,h=>flats_asks (a:=a) (b:=b.note (askT e c)) (flats_cons (flat_ask e c) h)
theorem big_flat {j:J}{b b':B}{r:Res}{n:Nat}(h:Big j b r b' n):flats b.tr→flats b'.tr:=by
  induction h with
  | sym=>exact fun h=>flats_cons (flat_int _) h
  | toss=>exact fun h=>h
  | last=>exact fun h=>flats_cons (flat_last _) h
  | out0=>exact fun h=>h
  | out1=>exact fun h=>flats_cons (flat_int _) h
  | beg0 _ ih=>exact ih
  | beg1 _ _ ih ih2=>exact fun h=>ih2 (ih h)
  | chit _ ih=>exact ih
  | re1 _=>exact fun h=>h
  | re0 _=>exact fun h=>h
  | nil=>exact fun h=>h
  | stop _ _ ih=>exact ih
  | go _ _ ih ih2=>exact fun h=>ih2 (ih h)
  | tval _ ih=>exact ih
  | toth _ _ ih ih2=>exact fun h=>ih2 (ih h)
  | tout _ _ _ ih=>exact ih
  | tno _ _ ih=>exact fun h=>flats_asks (ih h)
  | tbad _ _ ih=>exact fun h=>flats_asks (ih h)
  | thit _ _ _ _ ih ih2=>exact fun h=>ih2 (flats_asks (ih h))
  | tre _ _ _ _ ih ih2 ih3=>exact fun h=>ih3 (ih2 (flats_asks (ih h)))
def Res.o:Res→Option Int
  | .val v=>v
  | .raise e=>some e
  | .retry=>none
  | .out _ v=>v
theorem Res.v_o (r:Res):r.v=oi r.o:=by cases r<;>rfl
section
variable {prog:Program}{w:World}{hb:HB}{mg mb:Str→Option Value}
theorem beg_ent {d:Nat}{δ:Int}{b b':Bg}{P:TV}(h:Ent1 prog w hb (eB 1151 d [.int δ] b b' (ndT (u "begin") P))) (hP:nr P):Ent1 prog w hb (eBeg d δ b b' P):=by
  have hal:∀ (b:Bg) (p:Nat→Prop),alC p (bagC b):=fun b p=>alTs_mem.mpr fun x hx=>(bag_nr b x hx).al
  have hn:nr (ndT (u "begin") P):=nd_nr hP
  refine ⟨⟨rfl,show [2].Nodup by decide,⟨.head _,trivial,trivial⟩,fun e he => ?_,fun e he => ?_,hn.cl⟩,?_⟩
  · have he:e∈[(2,bagC b)]:=he
    rw [List.mem_singleton] at he; subst he; exact nrs.cl (bag_nr b)
  · have he:e∈[(2,bagC b')]:=he
    rw [List.mem_singleton] at he; subst he; exact nrs.cl (bag_nr b')
  have c:=h.2.ren (al:=[(1,2)]) rfl (by decide) (fun t ht=>by
    have ht:t∈[TV.ref 1,.int δ]:=ht
    simp only [List.mem_cons,List.not_mem_nil,or_false] at ht
    rcases ht with rfl | rfl
    · exact .head _
    · exact trivial) (fun e he=>by
    have he:e∈[(1,bagC b)]:=he
    rw [List.mem_singleton] at he; subst he; exact ⟨.head _,hal _ _⟩) (fun e he=>by
    have he:e∈[(1,bagC b')]:=he
    rw [List.mem_singleton] at he; subst he; exact ⟨.head _,hal _ _⟩) hn.al
  have e1:∀ b:Bg,[((1:Nat),bagC b)].map (renE (turn [(1,2)]))=[(2,bagC b)]:=fun b=>by
    show [(turn [(1,2)] 1,renC (turn [(1,2)]) (bagC b))]=_
    rw [renC_id (hal b _)]; rfl
  have e2:renT (turn [(1,2)]) (ndT (u "begin") P)=ndT (u "begin") P:=hn.id
  have c:Con prog w clo hb ⟨1151,d,[.ref 2,.int δ],[((1:Nat),bagC b)].map (renE (turn [(1,2)])),[((1:Nat),bagC b')].map (renE (turn [(1,2)])),renT (turn [(1,2)]) (ndT (u "begin") P)⟩:=c
  rw [e1,e1,e2] at c
  exact c
theorem wlk_ent {d:Nat}{T:TV}{q:Ph}{r:Res}{tr:List TV}{ct:Int→Option Int}{er:Option Int}(hq:q.b=⟨tr,ct,none,er⟩) (h:CW prog w hb d T (resT r) ⟨bI,15,false⟩ q) (hT:nr T) (hn:nrs tr):Ent1 prog w hb (eWlk d T tr (knD q.N ct er q.eb) (u r.s) (oi r.o)):=by
  have hr:nr (resT r):=resT_nr r
  have er':resT r = .tup [.str (u r.s),oi r.o]:=by show TV.tup [.str (u r.s),r.v]=_; rw [r.v_o]
  have qd:q.d=knD q.N ct er q.eb:=by unfold Ph.d knD; rw [hq]; rfl
  have kcl:∀ (S:List Nat) (N:Nat) (ct:Int→Option Int) (er:Option Int) (eb:Bool),clC S (knD N ct er eb):=fun S N ct er eb x t b hl=>by
    have:=lkF_mem hl
    simp only [List.mem_cons,List.not_mem_nil,or_false,Prod.mk.injEq] at this
    rcases this with ⟨_,rfl,_⟩ | ⟨_,rfl,_⟩
    · exact trivial
    · exact (oi_nr er).cl
  have kal:∀ (p:Nat→Prop) (N:Nat) (ct:Int→Option Int) (er:Option Int) (eb:Bool),alC p (knD N ct er eb):=fun p N ct er eb x hx=>by
    simp only [List.mem_cons,List.not_mem_nil,or_false] at hx
    rcases hx with rfl | rfl
    · exact trivial
    · exact (oi_nr er).al
  refine ⟨⟨rfl,show [10,11].Nodup by decide,⟨hT.cl,.head _,.tail _ (.head _),trivial⟩,fun e he => ?_,fun e he => ?_,by rw [er'] at hr; exact hr.cl⟩,?_⟩
  · have he:e∈[(10,Cell.lst []),(11,knD 15 (fun _=>none) none false)]:=he
    simp only [List.mem_cons,List.not_mem_nil,or_false] at he
    rcases he with rfl | rfl
    · exact trivial
    · exact kcl _ _ _ _ _
  · have he:e∈[(10,Cell.stk tr),(11,knD q.N ct er q.eb)]:=he
    simp only [List.mem_cons,List.not_mem_nil,or_false] at he
    rcases he with rfl | rfl
    · exact nrs.cl hn
    · exact kcl _ _ _ _ _
  have c:=h.ren (al:=[(1,10),(2,11)]) rfl (by decide) (fun t ht=>by
    have ht:t∈[T,.ref 1,.ref 2]:=ht
    simp only [List.mem_cons,List.not_mem_nil,or_false] at ht
    rcases ht with rfl | rfl | rfl
    · exact hT.al
    · exact .head _
    · exact .tail _ (.head _)) (fun e he=>by
    have he:e∈[(1,Cell.stk []),(2,knD 15 (fun _=>none) none false)]:=he
    simp only [List.mem_cons,List.not_mem_nil,or_false] at he
    rcases he with rfl | rfl
    · exact ⟨.head _,trivial⟩
    · exact ⟨.tail _ (.head _),kal _ _ _ _ _⟩) (fun e he=>by
    have he:e∈[(1,Cell.stk q.b.tr),(2,q.d)]:=he
    rw [qd,hq] at he
    simp only [List.mem_cons,List.not_mem_nil,or_false] at he
    rcases he with rfl | rfl
    · exact ⟨.head _,nrs.al (alTs_mem.mpr hn)⟩
    · exact ⟨.tail _ (.head _),kal _ _ _ _ _⟩) hr.al
  have c:Con prog w clo hb ⟨1191,d,[renT (turn [(1,10),(2,11)]) T,.ref 10,.ref 11],[(10,.stk []),(11,renC (turn [(1,10),(2,11)]) (knD 15 (fun _=>none) none false))],[(10,.stk (renTs (turn [(1,10),(2,11)]) q.b.tr)),(11,renC (turn [(1,10),(2,11)]) q.d)],renT (turn [(1,10),(2,11)]) (resT r)⟩:=c
  rw [hT.id,hr.id,qd,hq,renC_id (kal _ _ _ _ _),renC_id (kal _ _ _ _ _),nrs.id (alTs_mem.mpr hn),er'] at c
  exact c.imp (.cons (imp_stk (xs:=[])) (.cons .refl .nil)) rfl
end
end
section
section
variable {prog:Program}{w:World}{hb:HB}{mg mb:Str→Option Value}
def LawC (prog:Program) (w:World) (hb:HB) (xs:List Int):Prop:=∀ (A:Around) (g f:PH) (vs:List Value) (s:Shared) (ps:Array Value),Room 41 A→LeB hb g s→VRs w.params g (rho0.add 0 1160 0) [.lst (xs.map .sint)] vs→Rel prog w clo g f s.heap (rho0.add 0 1160 0) [(0,.tbl 1160 ps [])] →
  wpAny (model prog w) A (call (.ref 1198) vs) (fun v s'=>v = .bool true∧(∃ g' f' ρ' l,Ext g f (rho0.add 0 1160 0) g' f' ρ'∧Rel prog w clo g' f' s'.heap ρ' [(0,.tbl 1160 ps l)])∧Same s s') Fa s
theorem law_go (H:Hyp prog w hb mg mb) {xs:List Int}{b b':Bg}{v:Bool}{P:TV}{i:It}{dB dW:Nat}{tr:List TV}{ct:Int→Option Int}{kN:Nat}{keb:Bool}{er:Option Int}{n:Nat}{r:Res}
    (hB:BC prog w hb (xs.map .sint) b) (hv:cond v (b.lf<10) (¬ b.lf<10)) (hbeg:Ent1 prog w hb (eBeg dB (cond v 1 3) b b' P)) (hdB:dB≤40) (hW:Ent1 prog w hb (eWlk dW (treeT P b'.n) tr (knD kN ct er keb) (u r.s) (oi r.o))) (hdW:dW≤40)
    (hloop:WC prog w hb 39 aeR runLoop.1 runLoop.2 (preA (treeT P b'.n)) (posV tr ct er n (u r.s) (oi r.o))) (hfl:flats tr):LawC prog w hb xs:=by
  intro A g f vs s ps room hLe hvs R
  have H0:Hyp0 prog w hb mg mb:=⟨H.B,H.T,H.C⟩
  have hrun:=law_run prog w hb (xs.map .sint) b b' P v dB dW tr ct kN keb er n (u r.s) r.o ps
  have hpair:okT (.tup [.str (u r.s),oi r.o]):=(flat_tup1 fun x hx=>by
    simp only [List.mem_cons,List.not_mem_nil,or_false] at hx
    rcases hx with rfl | rfl
    · exact leaf_str (okR r)
    · exact leaf_oi _).2
  have hcd:allP (cdL prog w hb (xs.map .sint) b b' P v dB dW tr er (posV tr ct er n (u r.s) (oi r.o)) (u r.s) (oi r.o)):=by
    refine allP_append.mpr ⟨⟨⟨hB,rfl,sints_nr xs⟩,hv,⟨rfl,by omega,rfl⟩,rfl,?_,?_,?_,?_,?_,?_,?_,?_,⟨hloop,nodupN_of (by kernel_rfl)⟩,trivial⟩,allP_append.mpr ⟨?_,allP_append.mpr ⟨⟨⟨rfl,by omega,rfl⟩,rfl,rfl,⟨rfl,hpair⟩,⟨rfl,okTs_flat fun t ht=>hfl t (List.mem_reverse.mp ht)⟩,⟨rfl,rfl⟩,trivial⟩,?_⟩⟩⟩
    iterate 8 exact ⟨rfl,rfl,rfl,rfl,rfl⟩
    · have key:∀ l:List Ent,allP (eqsL l):=fun l=>by
        induction l with
        | nil=>exact trivial
        | cons _ _ ih=>exact ⟨rfl,ih⟩
      exact key _
    · cases er
      · exact trivial
      · exact ⟨rfl,trivial⟩
  unfold seeL at hrun
  split at hrun
  · rename_i t σ' c e
    simp only [Option.some.injEq,Prod.mk.injEq] at hrun
    obtain ⟨rfl,hl,rfl⟩:=hrun
    have O:SndO prog w clo hb (orcL prog w hb (xs.map .sint) b (eBeg dB (cond v 1 3) b b' P) (eWlk dW (treeT P b'.n) tr (knD kN ct er keb) (u r.s) (oi r.o))):=sndO_bag (sndO_cons (lst1 hbeg) (sndO_cons (lst1 hW) sndO_nil))
    have R0:RelS prog w clo hb ⟨[(0,.tbl 1160 ps [])],1,dirsL v er⟩ g f (rho0.add 0 1160 0) s:=⟨R,fun i hi=>by
      have hi:1≤i:=hi
      rw [Rho.add_ne (by omega)],hLe⟩
    have T:=(TriF.fn (A:=A) (g:=g) (f:=f) (ρ:=rho0.add 0 1160 0) (d:=40) H.B (sndW H0 O (preA (treeT P b'.n)) (posV tr ct er n (u r.s) (oi r.o)) 150) (H.T.fn 1198 iLaw (by kernel_rfl)) room hvs).call
    refine wpAny_mono (T _ _ _ _ e hcd s R0) (fun v' s' z => ?_) fun _ _ z=>z
    obtain ⟨g',f',ρ',E,R',V⟩:=z
    cases V
    obtain ⟨junk,hj⟩:=sel_of (cells:=σ'.cells) (sel:=[(0,.tbl 1160 ps [(792,22),(789,4),(781,4),(778,4),(773,4),(769,4),(766,4),(762,4)])]) (by simp) (fun e he=>by rw [List.mem_singleton] at he; subst he; exact hl)
    exact ⟨rfl,⟨g',f',ρ',_,E,(R'.r.perm hj).less (List.sublist_append_left _ _)⟩,R'.b0.2.1.trans hLe.2.1.symm,R'.b0.2.2.trans hLe.2.2.symm⟩
  · cases hrun
theorem law_con (H:Hyp prog w hb mg mb) (xs:List Int) (hl:xs.length≤63):LawC prog w hb xs:=by
  have H0:Hyp0 prog w hb mg mb:=⟨H.B,H.T,H.C⟩
  obtain ⟨b,ob,hlf,hBC⟩:=con_bag H0 xs hl
  obtain ⟨v,hv,hpot⟩:∃ v:Bool,cond v (b.lf<10) (¬ b.lf<10)∧(1+pot b.lf)*(100*(cond v 1 3+1)+50)+5≤20000:=by
    rcases hlf with h | h
    · exact ⟨false,by show ¬ b.lf<10; omega,by rw [h]; decide⟩
    · exact ⟨true,by show b.lf<10; omega,by rw [h]; decide⟩
  have hδ:∃ δ:Nat,δ<4∧(δ:Int)=cond v 1 3∧δ=cond v 1 3∧10*cI δ+26≤1000000:=by
    cases v
    · exact ⟨3,by decide,rfl,rfl,by decide⟩
    · exact ⟨1,by decide,rfl,rfl,by decide⟩
  obtain ⟨δ,hδ4,hδi,hδn,hδc⟩:=hδ
  obtain ⟨b',i,ob',wi,pi,ei,P,hP⟩:=(g_all H0 δ hδ4).2 b 0 ob (by omega)
  have hnP:nr (ndT (u "begin") P):=by rw [← hP]; exact i.nr
  have ei:=ei 25 (by omega)
  rw [hP,hδi] at ei
  have hbeg:=beg_ent ei hnP.2.1
  let s:Sq:=.two i (.sym b'.n) none
  have stv:s.tv=treeT P b'.n:=by
    show (Sq.two i (.sym b'.n) none).tv=_
    rw [Sq.tv,hP,It.tv]; rfl
  have swt:s.wt (δ+1):=by
    show (Sq.two i (.sym b'.n) none).wt (δ+1)
    rw [Sq.wt]; exact ⟨wi,by rw [It.wt]<;>simp⟩
  have snb:s.nb=i.nb:=by
    show (Sq.two i (.sym b'.n) none).nb=_
    rw [Sq.nb,show (It.sym b'.n).nb=0 by rw [It.nb]<;>simp]; rfl
  obtain ⟨Ac,Φ,r,a1,a2,a3,a4,a5⟩:=Sq.p (δ+1) s swt rfl
  have hNN:NN bI.ct:=fun n=>Int.le_refl _
  obtain ⟨b1,n,hbig,hla,_,htk⟩:=a5 bI hNN
  have hn:n≤20000:=by
    have q1:=a2 bI.ct hNN
    rw [snb] at a1 q1
    rw [← hδn] at hpot
    have q2:i.nb≤1+pot b.lf:=by omega
    have q3:=Nat.mul_le_mul_right (100*(δ+1)+50) q2
    have q4:i.nb*(100*(δ+1)+50)=100*(δ+1)*i.nb+50*i.nb:=by
      rw [Nat.mul_comm i.nb,Nat.add_mul]
    omega
  obtain ⟨q,iq,oq⟩:=spec H0 hbig ⟨bI,15,false⟩ 15 (δ+1) ⟨rfl,fun t ht=>(by cases ht),Nat.zero_le _,Nat.le_refl _⟩ (by omega) (sq_wt swt)
  have cq:=c_seq H0 oq (fun t ht=>(by cases ht)) (by omega)
  obtain ⟨tr,ct,la,er⟩:=b1
  have hla:la=none:=hla
  subst hla
  have hnr:nrs tr:=by have:=iq.nr; unfold NrP at this; rw [iq.e] at this; exact this
  have sn:=s.nr
  rw [stv] at cq sn
  have hW:=wlk_ent iq.e cq sn hnr
  have hloop:=wc_loop H hbig hn hnr (d:=39) (by decide)
  rw [stv] at hloop
  have hpos:posA ⟨tr,ct,none,er⟩ r n=posV tr ct er n (u r.s) (oi r.o):=by
    unfold posA posV
    show fixG _ _ _ _ (wayT r.s r.v) _=fixG _ _ _ _ (wayV (u r.s) (oi r.o)) _
    rw [r.v_o]; rfl
  rw [hpos] at hloop
  exact law_go H (i:=i) hBC hv hbeg (by decide) hW (by omega) hloop (big_flat hbig fun t ht=>(by cases ht))
end
end
theorem items_int {R:WRecords}:∀ {xs:List WData},WShape.hasItems R xs .int=true→∃ ns:List Int,xs=ns.map WData.int
  | [],_=>⟨[],rfl⟩
  | x::xs,h=>by
    simp only [WShape.hasItems,Bool.and_eq_true] at h
    obtain ⟨ns,rfl⟩:=items_int h.2
    cases x<;>first | (exact ⟨_::ns,rfl⟩) | (have h1:=h.1; simp [WShape.has,WShape.arms,WShape.armsAll] at h1)
theorem args_int {R:WRecords}{args:List WData}(h:WShape.hasAll R args [.list .int]=true):∃ ns:List Int,args=[.list (ns.map WData.int)]:=by
  rcases args with _ | ⟨d,_ | ⟨_,_⟩⟩
  · simp [WShape.hasAll] at h
  · simp only [WShape.hasAll,Bool.and_true] at h
    cases d<;>first | (simp [WShape.has,WShape.arms,WShape.armsAll] at h; done) | skip
    rename_i xs
    have h':WShape.hasItems R xs .int=true:=by simpa [WShape.has,WShape.arms,WShape.armsAll] using h
    obtain ⟨ns,rfl⟩:=items_int h'
    exact ⟨ns,rfl⟩
  · simp [WShape.hasAll] at h
theorem lay_ints {R:WRecords}{cl:Str→Option Addr}{P:Params}{ord:List DictEntry→List DictEntry}:∀ {ns:List Int}{s:Shared}{vs:List Value}{s':Shared},layAllW R cl P ord (ns.map WData.int) s=some (vs,s')→s'.heap=s.heap ∧ ∀ g ρ,VRs P g ρ (ns.map .sint) vs
  | [],s,vs,s',h=>by
    simp only [List.map_nil,layAllW,Option.some.injEq,Prod.mk.injEq] at h
    obtain ⟨rfl,rfl⟩:=h
    exact ⟨rfl,fun _ _=>.nil⟩
  | n::ns,s,vs,s',h=>by
    simp only [List.map_cons,layAllW,layW] at h
    split at h
    · rename_i r hr
      simp only [Option.some.injEq,Prod.mk.injEq] at h
      obtain ⟨rfl,rfl⟩:=h
      obtain ⟨h1,h2⟩:=lay_ints hr
      exact ⟨h1,fun g ρ=>.cons .sint (h2 g ρ)⟩
    · cases h
theorem lay_list {R:WRecords}{cl:Str→Option Addr}{P:Params}{ord:List DictEntry→List DictEntry}{ns:List Int}{s:Shared}{vs:List Value}{s':Shared}(h:layAllW R cl P ord [.list (ns.map WData.int)] s=some (vs,s')) :
    ∃ a ws,vs=[.ref a]∧a=s.heap.objs.size∧s'.heap.get? a=some ⟨.type "list",none,.seq ws 0,#[]⟩ ∧ ∀ g ρ,VRs P g ρ (ns.map .sint) ws.toList:=by
  simp only [layAllW,layW] at h
  split at h
  · rename_i q hq
    split at hq
    · rename_i r hr
      cases hq
      simp only [Option.some.injEq,Prod.mk.injEq] at h
      obtain ⟨rfl,rfl⟩:=h
      obtain ⟨h1,h2⟩:=lay_ints hr
      exact ⟨_,r.1.toArray,rfl,by rw [h1],Heap.get?_push_size _ rfl,fun g ρ=>h2 g ρ⟩
    · cases hq
  · cases h
theorem dropA_mem {a:Nat}{p:Nat×Obj}:∀ {l:List (Nat×Obj)},p∈dropA a l→p∈l∧p.1≠a
  | [],h=>by cases h
  | q::l,h=>by
    have h:p ∈ @Bool.rec (fun _=>List (Nat×Obj)) (q::dropA a l) (dropA a l) (Nat.beq q.1 a):=h
    cases hb:Nat.beq q.1 a with
    | true =>
      rw [hb] at h
      have:=dropA_mem (l:=l) h
      exact ⟨.tail _ this.1,this.2⟩
    | false =>
      rw [hb] at h
      rcases List.mem_cons.mp h with rfl | h
      · refine ⟨.head _,fun e => ?_⟩
        rw [e] at hb; simp at hb
      · have:=dropA_mem (l:=l) h
        exact ⟨.tail _ this.1,this.2⟩
theorem as_k (P:Params):as12=(kn12 P).map (·.1):=by kernel_rfl
theorem k_1160 (P:Params):(kn12 P).lookup 1160=some (tabObj #[]):=by kernel_rfl
def codeV (vs:Array Value):Bool:=(match vs[11]? with
    | some (Value.ref p)=>Nat.beq p 1160
    | _=>false)&&(match vs.getD 18 .none with
    | Value.str _ _=>true
    | _=>false)&&(match vs.getD 7 .none with
    | Value.int _ _=>true
    | _=>false)&&(match vs.getD 9 .none with
    | Value.bool _=>true
    | _=>false)&&(match vs.getD 10 .none with
    | Value.int _ _=>true
    | _=>false)
def codeOk (P:Params):Bool:=match (kn12 P).lookup 1164 with
  | some ⟨.type c,_,.fields vs,_⟩=>decide (c = "code")&&codeV vs
  | _=>false
theorem code_k (P:Params):codeOk P=true:=by kernel_rfl
theorem law_k (P:Params):nsIn (KK P) mainGlobals "law" = some (some (.ref 1198)):=by kernel_rfl
theorem code_hd {P:Params}{h:Heap}(X:∀ a o,(kn12 P).lookup a=some o→h.get? a=some o):CodeHd h 1164 1160:=by
  have hc:=code_k P
  unfold codeOk at hc
  split at hc
  · rename_i c d vs sl hl
    unfold codeV at hc
    simp only [Bool.and_eq_true] at hc
    obtain ⟨h1,⟨⟨⟨h2,h3⟩,h4⟩,h5⟩,h6⟩:=hc
    have h1:c = "code" := of_decide_eq_true h1
    subst h1
    split at h2
    · rename_i p hp
      have h2:p=1160:=Nat.eq_of_beq_eq_true h2
      subst h2
      split at h3
      · rename_i f tf e3
        split at h4
        · rename_i fl tg e4
          split at h5
          · rename_i bo e5
            split at h6
            · rename_i tx tt e6
              exact ⟨_,vs,f,tf,fl,tg,bo,tx,tt,X _ _ hl,rfl,rfl,hp,by rw [Array.getD_eq_getD_getElem?,hp]; rfl,e3,e4,e5,e6,by decide⟩
            · cases h6
          · cases h5
        · cases h4
      · cases h3
    · cases h2
  · cases hc
theorem sys_k (P:Params):((kn12 P).lookup sysModules).isSome=true:=by kernel_rfl
theorem pre_len {ns:List Int}(h:lawR.pre.holds [] { args:=[.list (ns.map WData.int)] }=true):ns.length≤63:=by
  refine Nat.le_of_not_lt fun q => ?_
  have e:W.less? (.int 63) (.int (ns.map WData.int).length)=some true:=by
    rw [List.length_map]
    show some (decide ((63:Int)<(ns.length:Int)))=_
    rw [decide_eq_true (by omega)]
  have e2:lawR.pre.value [] { args:=[.list (ns.map WData.int)] }=some (.bool false):=by
    show WTm.value [] (.and (.not (.lt (.lit (.int 63)) (.len (.arg 0)))) (.lit (.bool true))) { args:=[.list (ns.map WData.int)] }=_
    simp only [WTm.value,List.getElem?_cons_zero,e,Option.map_some,Bool.not_true]
  rw [WTm.holds,e2] at h
  cases h
theorem post_ok (args:List WData):((lawR.row.toRowW).claim.post args (.bool true) args)=true:=by
  kernel_rfl
theorem the_walk:Walk:=by
  intro w s₀ s₁ mg mb G Y a o pm cd doc dV kV ha ho hcode hd hmg hgens args vals as L hpre hlay hrd hwell hsys
  have Y1:as12.map s₀.heap.get?=kv (kn12 w.params):=congrArg (·.1) Y
  have X0:Frag.In (kn12 w.params) s₀.heap:=Frag.in_of (as_k w.params) Y1
  have X1:Frag.In (kn12 w.params) s₁.heap:=X0.keeps L.keeps
  have h1160:s₁.heap.get? 1160=some (tabObj #[]):=X1 _ _ (k_1160 w.params)
  let hh:Heap:=hideAll s₁.heap [1160]
  have hget:∀ b o,b≠1160→s₁.heap.get? b=some o→hh.get? b=some o:=fun b o hb e=>hideAll_get _ e (by simpa using hb)
  have hnone:hh.get? 1160=none:=hideAll_none [1160] (by simp)
  have hof:∀ b o,hh.get? b=some o→s₁.heap.get? b=some o:=fun b o e=>of_hideAll [1160] e
  have nsHide:∀ {c:Addr}{m:Str→Option Value},c≠1160→s₁.heap.Ns c m→hh.Ns c m:=fun hc h=>by
    obtain ⟨o,es,ep,e,r⟩:=h
    exact ⟨o,es,ep,hget _ _ hc e,r⟩
  let hb:HB:=⟨hh,s₁.os,s₁.gens⟩
  have K:(KK w.params).In hh:=fun b o e=>by
    have hm:(b,o)∈KK w.params:=by
      have:∀ (l:List (Nat×Obj)),l.lookup b=some o→(b,o)∈l:=fun l=>by
        induction l with
        | nil=>intro h; cases h
        | cons q r ih =>
          obtain ⟨x,y⟩:=q
          intro h
          rw [List.lookup_cons] at h
          cases hq:(b==x) with
          | true=>rw [hq] at h; cases h; rw [eq_of_beq hq]; exact .head _
          | false=>rw [hq] at h; exact .tail _ (ih h)
      exact this _ e
    obtain ⟨m1,m2⟩:=dropA_mem hm
    have nd:((kn12 w.params).map (·.1)).Nodup:=by rw [← as_k]; exact nodupN_of (by kernel_rfl)
    have e2:(kn12 w.params).lookup b=some o:=by
      have:∀ (l:List (Nat×Obj)),(l.map (·.1)).Nodup→(b,o)∈l→l.lookup b=some o:=fun l=>by
        induction l with
        | nil=>intro _ h; cases h
        | cons q r ih =>
          obtain ⟨x,y⟩:=q
          intro hn h
          obtain ⟨n1,n2⟩:=List.nodup_cons.mp (show (x::r.map (·.1)).Nodup from hn)
          rw [List.lookup_cons]
          rcases List.mem_cons.mp h with h | h
          · cases h; rw [beq_self_eq_true]
          · have:(b==x)=false:=beq_eq_false_iff_ne.mpr fun e=>n1 (by rw [← e]; exact List.mem_map_of_mem (f:=(·.1)) h)
            rw [this]; exact ih n2 h
      exact this _ nd m1
    exact hget _ _ m2 (X1 _ _ e2)
  have hlim:hh.NoLimit:=by
    obtain ⟨mc,h1,h2⟩:=G.T.nolimit
    exact ⟨mc,nsHide (by decide) h1,h2⟩
  have hNg:hh.Ns mainGlobals mg:=nsHide (by decide) G.T.g
  have hNb:hh.Ns builtinsNs mb:=nsHide (by decide) G.T.b
  have hlow:∃ o,hh.get? sysModules=some o:=by
    have:∃ o,s₁.heap.get? sysModules=some o:=by
      have h0:∃ o,(kn12 w.params).lookup sysModules=some o:=Option.isSome_iff_exists.mp (sys_k _)
      obtain ⟨o,e⟩:=h0
      exact ⟨o,X1 _ _ e⟩
    obtain ⟨o,e⟩:=this
    exact ⟨o,hget _ _ (by decide) e⟩
  have B:BaseH (KK w.params) mg mb hb:=⟨K,hlim,hNg,hNb,hlow⟩
  have T:TabOk w.params (KK w.params) theTab mg mb:=tab_ok K hNg hNb
  have CB:CodeB hb mg ci0:=by
    refine ⟨?_,?_,by decide⟩
    · obtain ⟨o,vs,file,tf,fl,tg,inF,tx,tt,e,r⟩:=code_hd X1
      exact ⟨o,vs,file,tf,fl,tg,inF,tx,tt,hget _ _ (by decide) e,r⟩
    · obtain ⟨bm,ob,e1,e2,e3,e4,e5,e6⟩:=G.T.bmain
      have n1:bm≠1160:=fun q=>by
        rw [q,h1160] at e3; cases e3; cases e6
      have n2:bm≠mainGlobals:=fun q=>by
        obtain ⟨o,es,ep,z1,z2,_⟩:=G.T.g
        rw [q,z1] at e3; cases e3; rw [z2] at e6; cases e6
      exact ⟨bm,ob,e1,e2,n2,n1,hget _ _ n1 e3,e4,e5,e6⟩
  have H0:Hyp0 (lawR.row.toRowW).prog w hb mg mb:=⟨B,T,CB⟩
  have H:Hyp (lawR.row.toRowW).prog w hb mg mb:=⟨B,T,CB,sndO_over H0⟩
  have ea:a=1198:=by
    have e1:mg "law" = some (.ref 1198):=ns_of K hNg (law_k w.params)
    have e2:mg "law" = some (.ref a):=hmg
    rw [e1] at e2; cases e2; rfl
  subst ea
  have hp:(WShape.hasAll [] args [.list .int]&&lawR.pre.holds [] { args:=args })=true:=hpre
  obtain ⟨hp1,hp2⟩:=Bool.and_eq_true_iff.mp hp
  obtain ⟨ns,rfl⟩:=args_int hp1
  have hlen:ns.length≤63:=pre_len hp2
  obtain ⟨ord,_,hlaid⟩:=L.laid
  obtain ⟨al,ws,rfl,hal,hlist,hvs⟩:=lay_list hlaid
  have hal1160:al≠1160:=fun q=>by
    rw [q,h1160] at hlist; cases hlist
  have LC0:=law_con H ns hlen
  refine wpAny_mono (LC0 callerA hh.get? hh.get? [.ref al] s₁ #[] ⟨rfl,by decide +kernel,by decide +kernel⟩ ⟨PH.le_refl _,rfl,rfl⟩ (.cons (.lst (hget _ _ hal1160 hlist) (hvs _ _)) .nil) ?_) (fun v s' z => ?_) fun _ _ z=>z.elim
  · refine ⟨PH.le_refl _,hof,fun i c hm => ?_,fun x hx => ?_,?_⟩
    · rw [List.mem_singleton] at hm
      cases hm
      exact ⟨1160,0,Rho.add_at,rfl,#[],h1160,trivial,fun _ _=>rfl,#[],rfl⟩
    · have hx:x∈[1160]:=by
        have:adrs (rho0.add 0 1160 0) [(0,Cell.tbl 1160 #[] [])]=[1160]:=by
          rw [adrs_cons]; unfold adr; dsimp only; rw [Rho.add_at]; rfl
        rw [this] at hx; exact hx
      rw [List.mem_singleton] at hx
      rw [hx]; exact hnone
    · have:adrs (rho0.add 0 1160 0) [(0,Cell.tbl 1160 #[] [])]=[1160]:=by
        rw [adrs_cons]; unfold adr; dsimp only; rw [Rho.add_at]; rfl
      rw [this]; exact List.nodup_cons.mpr ⟨List.not_mem_nil,.nil⟩
  · obtain ⟨rfl,⟨g',f',ρ',l,E,R'⟩,hs1,hs2⟩:=z
    have hkeep:∀ b o,b≠1160→s₁.heap.get? b=some o→s'.heap.get? b=some o:=fun b o hb e=>R'.keep _ _ (E.fl _ _ (hget _ _ hb e))
    obtain ⟨a',d',e1,_,ps',p1,_,_,more,p2⟩:=R'.at_ 0 _ (.head _)
    have ea:a'=1160:=by
      have:=E.rl _ _ (Rho.add_at (ρ:=rho0) (i:=0) (a:=1160) (d:=0))
      rw [this] at e1; cases e1; rfl
    subst ea
    refine ⟨.inl ⟨_,.bool true,[],rfl,fun cls=>rfl,.bool true,?_,fun _=>⟨.nil,fun a ha=>by cases ha⟩⟩,⟨fun b o e => ?_,fun b o e => ?_⟩,hs1,?_⟩
    · exact post_ok _
    · by_cases q:b=1160
      · subst q
        rw [h1160] at e; cases e
        obtain ⟨oc,vs,_,_,_,_,_,_,_,z1,z2,z3,z4,_⟩:=code_hd X1
        exact .inr (.inl ⟨⟨1164,oc,vs,z1,z2,z3,z4⟩,rfl,#[],more,rfl,by rw [p1,p2]⟩)
      · exact .inl (hkeep b o q e)
    · by_cases q:b=1160
      · subst q; exact ⟨_,p1⟩
      · exact ⟨o,hkeep b o q e⟩
    · exact AllBare.of_eq (hs2.trans hgens)
end Nu
end
theorem PySem.Challenge.cw_nu0297_01_holds : PySem.Challenge.rw_nu0297_01.Holds :=
  Nu.head Nu.the_walk
