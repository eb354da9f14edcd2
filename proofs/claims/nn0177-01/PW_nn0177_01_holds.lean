import PyProof.Rows.All
import Wide.All
import OpenK.AllK
import Wide.FinOn
import KE.KItem
import KE.KWords
import KE.LcSums
import KE.KIntText
import KE.KIsNot
import KE.BytesMake
import KE.KxDecode
import KE.KxSplit
import PyProof.AttrMissSeq
import KE.KDictOf
import KE.KPar
import Lean
import PySem.Challenge.RW_nn0177_01
set_option Elab.async false
set_option maxRecDepth 100000
set_option maxHeartbeats 0
set_option genInjectivity false
set_option linter.all false
set_option genSizeOf false
set_option bootstrap.genMatcherCode false
set_option tactic.hygienic false
namespace Mine.Internal
open PySem PySem.W PyProof.Rows PySem.Calls
section
variable {P : Prop}
theorem nsm {α : Type _} {a : α} (h : none = some a) : P:=nomatch h
theorem nft (h : false = true) : P:=nomatch h
theorem yG (h : ∀ G : Prop,(P -> G) -> G) : P:=h P id
end
inductive V where
 | none
 | bool (b : Bool)
 | int (i : Int)
 | str (l : List Nat)
 | bytes (l : List Nat)
 | ref (n : Nat)
 | top (v : Value)
inductive KV where
 | int (i : Int)
 | str (l : List Nat)
 deriving DecidableEq
inductive XF where
 | new
 | plain
 | ctx
inductive It where
 | b (c : Nat)
 | hex (l : List Nat)
 | hx (l : List Nat)
noncomputable def digH (n : Nat) : Nat:=match Nat.blt n 10 with
 | true=>48 + n
 | false=>55 + n
noncomputable def hexL : List Nat -> List Nat
 | []=>[]
 | c :: r=>digH (c / 16) :: digH (c % 16) :: hexL r
noncomputable def flatI : List It -> List Nat
 | []=>[]
 | .b c :: r=>c :: flatI r
 | .hex l :: r=>60 :: (hexL l ++ 62 :: flatI r)
 | .hx l :: r=>hexL l ++ 62 :: flatI r
inductive RF where
 | ints (l : List Int)
 | strs (l : List (List Nat))
 | dic (es : List (Int × List Nat))
 | sl (l : List Int) (b : Obj)
inductive MO where
 | list (vs : List V)
 | slist (vs : List V) (b : Obj)
 | tup (vs : List V)
 | dict (es : List (KV × V))
 | tdict (es : List (List Int × Nat × V))
 | inst (C : Addr) (d : Nat)
 | flds (fs : List (Str × V))
 | cell (v : Option V)
 | litr (l i : Nat)
 | titr (l i : Nat)
 | ritr (cur left step : Int)
 | bitr (l : List Nat) (i : Nat)
 | sitr (l : List Nat) (i : Nat)
 | rng (a b c : Int)
 | exc (C : Addr) (d : Option Nat) (fr : XF)
 | gone
 | cfl (p : Nat) (its : List It)
 | rf (q : RF)
 | gpot (c k : Nat)
 | gcel
set_option backward.match.sparseCases false in
noncomputable def MO.isGone : MO -> Bool
 | .gone=>true
 | _=>false
noncomputable def RF.mo : RF -> MO
 | .ints l=>.list (l.map .int)
 | .strs l=>.list (l.map .str)
 | .dic es=>.dict (es.map λ p=>(.int p.1,.str p.2))
 | .sl l b=>.slist (l.map .int) b
set_option backward.match.sparseCases false in
noncomputable def viewO : MO -> MO
 | .rf q=>q.mo
 | o=>o
abbrev Hp:=List MO
inductive VR (R : List Addr) : V -> Value -> Prop where
 | none : VR R .none .none
 | bool (b : Bool) : VR R (.bool b) (.bool b)
 | int (i : Int) (tk : Tok) : VR R (.int i) (.int i tk)
 | str (l : List Nat) (tk : Tok) : VR R (.str l) (.str ⟨⟨l⟩⟩ tk)
 | bytes (b : Array UInt8) (tk : Tok) : VR R (.bytes (b.toList.map UInt8.toNat)) (.bytes b tk)
 | ref {n : Nat} {a : Addr} (h : R[n]? = some a) : VR R (.ref n) (.ref a)
 | top (v : Value) : VR R (.top v) v
inductive VRs (R : List Addr) : List V -> List Value -> Prop where
 | nil : VRs R [] []
 | cons {v : V} {x : Value} {vs : List V} {xs : List Value} (h : VR R v x) (t : VRs R vs xs) : VRs R (v :: vs) (x :: xs)
noncomputable def Ext (R R' : List Addr) : Prop:=∃ T,R' = R ++ T
theorem Ext.refl (R : List Addr) : Ext R R:=⟨[],by simp⟩
theorem Ext.trans {R R' R'' : List Addr} (a : Ext R R') (b : Ext R' R'') : Ext R R'':=by
 obtain ⟨T,rfl⟩:=a
 obtain ⟨U,rfl⟩:=b
 exact ⟨T ++ U,by simp⟩
theorem Ext.push (R : List Addr) (a : Addr) : Ext R (R ++ [a]):=⟨[a],rfl⟩
theorem Ext.nil (R : List Addr) : Ext [] R:=⟨R,rfl⟩
theorem Ext.get {R R' : List Addr} (e : Ext R R') {n : Nat} {a : Addr} (h : R[n]? = some a) : R'[n]? = some a:=by
 obtain ⟨T,rfl⟩:=e
 have : n < R.length:=(List.getElem?_eq_some_iff.mp h).1
 refine (List.getElem?_append_left this) ▸ ?_; exact h
section
variable {R : List Addr} {x : Value}
theorem VR.invNone (h : VR R .none x) : x = .none:=by cases h; rfl
theorem VR.invBool {b : Bool} (h : VR R (.bool b) x) : x = .bool b:=by cases h; rfl
theorem VR.invInt {i : Int} (h : VR R (.int i) x) : ∃ t,x = .int i t:=by cases h; exact ⟨_,rfl⟩
theorem VR.invStr {l : List Nat} (h : VR R (.str l) x) : ∃ t,x = .str ⟨⟨l⟩⟩ t:=by cases h; exact ⟨_,rfl⟩
theorem VR.invBytes {l : List Nat} (h : VR R (.bytes l) x) : ∃ b t,x = .bytes b t ∧ l = b.toList.map UInt8.toNat:=by cases h; exact ⟨_,_,rfl,rfl⟩
theorem VR.invRef {n : Nat} (h : VR R (.ref n) x) : ∃ a,x = .ref a ∧ R[n]? = some a:=by cases h; exact ⟨_,rfl,by assumption⟩
theorem VR.invTop {v : Value} (h : VR R (.top v) x) : x = v:=by cases h; rfl
end
theorem VR.ext {R R' : List Addr} (e : Ext R R') {v : V} {x : Value} (h : VR R v x) : VR R' v x:=by
 cases h with
 | none=>exact .none
 | bool b=>exact .bool b
 | int i tk=>exact .int i tk
 | str l tk=>exact .str l tk
 | bytes b tk=>exact .bytes b tk
 | ref h=>exact .ref (e.get h)
 | top=>exact .top _
theorem VRs.ext {R R' : List Addr} (e : Ext R R') {vs : List V} {xs : List Value} (h : VRs R vs xs) : VRs R' vs xs:=by
 induction h with
 | nil=>exact .nil
 | cons h _ ih=>exact .cons (h.ext e) ih
theorem VRs.length {R : List Addr} {vs : List V} {xs : List Value} (h : VRs R vs xs) : vs.length = xs.length:=by
 induction h with
 | nil=>rfl
 | cons _ _ ih=>simp [ih]
theorem VRs.get {R : List Addr} {vs : List V} {xs : List Value} (h : VRs R vs xs) : ∀ {i : Nat} {v : V},vs[i]? = some v -> ∃ x,xs[i]? = some x ∧ VR R v x:=by
 induction h with
 | nil=>intro i v e; cases i <;> exact nsm e
 | cons h _ ih=>
  intro i v e
  cases i with
  | zero=>cases e; exact ⟨_,rfl,h⟩
  | succ i=>exact ih (i:=i) e
theorem VRs.append {R : List Addr} {vs ws : List V} {xs ys : List Value} (h : VRs R vs xs) (k : VRs R ws ys) : VRs R (vs ++ ws) (xs ++ ys):=by
 induction h with
 | nil=>exact k
 | cons h _ ih=>exact .cons h ih
theorem VRs.set {R : List Addr} {vs : List V} {xs : List Value} (h : VRs R vs xs) {v : V} {x : Value} (hv : VR R v x) : ∀ i : Nat,VRs R (vs.set i v) (xs.set i x):=by
 induction h with
 | nil=>intro i; exact .nil
 | cons h t ih=>
  intro i
  cases i with
  | zero=>exact .cons hv t
  | succ i=>exact .cons h (ih i)
inductive FR (P : Params) (R : List Addr) : List (Str × V) -> List DictEntry -> Prop where
 | nil : FR P R [] []
 | cons {n : Str} {v : V} {x : Value} {tk : Tok} {fs : List (Str × V)} {es : List DictEntry} (h : VR R v x) (t : FR P R fs es) :
   FR P R ((n,v) :: fs) (⟨PyData.keyHash P n,.str n tk,x⟩ :: es)
theorem FR.ext {P : Params} {R R' : List Addr} (e : Ext R R') {fs : List (Str × V)} {es : List DictEntry} (h : FR P R fs es) : FR P R' fs es:=by
 induction h with
 | nil=>exact .nil
 | cons h _ ih=>exact .cons (h.ext e) ih
noncomputable def kvIs : KV -> Value -> Bool
 | .int i,v=>Value.isInt i v
 | .str l,v=>Value.isStrOf ⟨⟨l⟩⟩ v
inductive KR (R : List Addr) : List (KV × V) -> List (KV × Value) -> Prop where
 | nil : KR R [] []
 | cons {k : KV} {v : V} {x : Value} {es : List (KV × V)} {kvs : List (KV × Value)} (h : VR R v x) (t : KR R es kvs) : KR R ((k,v) :: es) ((k,x) :: kvs)
theorem KR.ext {R R' : List Addr} (e : Ext R R') {es : List (KV × V)} {kvs : List (KV × Value)} (h : KR R es kvs) : KR R' es kvs:=by
 induction h with
 | nil=>exact .nil
 | cons h _ ih=>exact .cons (h.ext e) ih
inductive TR (R : List Addr) : List (List Int × Nat × V) -> List (List Int × Addr × Value) -> Prop where
 | nil : TR R [] []
 | cons {k : List Int} {n : Nat} {a : Addr} {v : V} {x : Value} {es : List (List Int × Nat × V)} {kvs : List (List Int × Addr × Value)} (hn : R[n]? = some a) (h : VR R v x) (t : TR R es kvs) :
   TR R ((k,n,v) :: es) ((k,a,x) :: kvs)
theorem TR.ext {R R' : List Addr} (e : Ext R R') {es : List (List Int × Nat × V)} {kvs : List (List Int × Addr × Value)} (h : TR R es kvs) : TR R' es kvs:=by
 induction h with
 | nil=>exact .nil
 | cons hn h _ ih=>exact .cons (e.get hn) (h.ext e) ih
section
variable (prog : Program) (w : World)
noncomputable def kvHash : KV -> Int
 | .int i=>hashInt i
 | .str l=>hashStr w ⟨⟨l⟩⟩
inductive KvA : KV -> Value -> Prop where
 | int (i : Int) (t : Tok) : KvA (.int i) (.int i t)
 | str (l : List Nat) (t : Tok) : KvA (.str l) (.str ⟨⟨l⟩⟩ t)
theorem kv_shape {k : KV} {v : Value} (h : kvIs k v = true) : KvA k v:=by
 cases k with
 | int i=>obtain ⟨t,rfl⟩:=Value.isInt_shape h; exact .int i t
 | str l=>obtain ⟨t,rfl⟩:=Value.isStrOf_shape h; exact .str l t
theorem eqB_is {A : Around} {E : Value -> Shared -> Prop} {s : Shared} {i : Int} {t u : Tok} {l : Str} {Q : Bool -> Shared -> Prop} (h : Q false s) : wpAny (model prog w) A (eqBool (.int i t) (.str l u)) Q E s:=
 wpAny_holding (wpAny_ite_false rfl (wpAny_bind (wpAny_mono (EqMixed.eq_int_str (Q:=λ r s'=>r = .bool false ∧ Q false s') ⟨rfl,h⟩) (λ r s' q=>q.1 ▸ wpAny_truthy_bool q.2) λ _ _ e=>e)))
theorem eqB_si {A : Around} {E : Value -> Shared -> Prop} {s : Shared} {i : Int} {t u : Tok} {l : Str} {Q : Bool -> Shared -> Prop} (h : Q false s) : wpAny (model prog w) A (eqBool (.str l u) (.int i t)) Q E s:=
 wpAny_holding (wpAny_ite_false rfl (wpAny_bind (wpAny_mono (EqMixed.eq_str_int (Q:=λ r s'=>r = .bool false ∧ Q false s') ⟨rfl,h⟩) (λ r s' q=>q.1 ▸ wpAny_truthy_bool q.2) λ _ _ e=>e)))
noncomputable def kvKind : KeyKind prog w KV where
 is:=kvIs
 hash:=kvHash w
 inj:=λ v a b ha hb=>by
  have ha:=kv_shape ha
  have hb:=kv_shape hb
  cases ha <;> cases hb <;> rfl
 byValue:=λ k v h=>by cases kv_shape h <;> rfl
 pyHash:=λ {A E s k v Q} hk h=>by
  cases kv_shape hk with
  | int i t=>exact (intKind prog w).pyHash (k:=i) (intKind_is prog w i t) h
  | str l t=>exact (strKind prog w).pyHash (k:=⟨⟨l⟩⟩) (strKind_is prog w _ t) h
 eqBool:=λ {A E s a b u v Q} ha hb h=>by
  cases kv_shape ha with
  | int i t=>cases kv_shape hb with
   | int j u=>exact (intKind prog w).eqBool (intKind_is prog w i t) (intKind_is prog w j u) (decide_eq_decide.mpr ⟨λ (e : KV.int i = KV.int j)=>by injection e,congrArg _⟩ ▸ h)
   | str k u=>exact eqB_is prog w (decide_eq_false (show ¬ (KV.int i = KV.str k) from λ e=>nomatch e) ▸ h)
  | str l t=>cases kv_shape hb with
   | int j u=>exact eqB_si prog w (decide_eq_false (show ¬ (KV.str l = KV.int j) from λ e=>nomatch e) ▸ h)
   | str k u=>exact (strKind prog w).eqBool (strKind_is prog w _ t) (strKind_is prog w _ u) ((decide_eq_decide.mpr ⟨λ (e : KV.str l = KV.str k)=>congrArg (λ l=>(⟨⟨l⟩⟩ : Str)) (by injection e),λ e=>congrArg (λ s : Str=>KV.str s.cps.toList) e⟩ : decide (KV.str l = KV.str k) = decide ((⟨⟨l⟩⟩ : Str) = ⟨⟨k⟩⟩)) ▸ h)
 «strs»:=λ k x t v h=>by
  cases kv_shape h with
  | str l u=>cases v <;> rfl
end
section
variable {α β : Type}
noncomputable def Sp (o : Option β) (Q : β -> Prop) : Prop:=∀ p,o = some p -> Q p
theorem Sp.of {o : Option β} {Q : β -> Prop} (h : Sp o Q) : ∀ p,o = some p -> Q p:=h
theorem Sp.no {Q : β -> Prop} : Sp none Q:=λ _ h=>nomatch h
theorem Sp.so {p : β} {Q : β -> Prop} (h : Q p) : Sp (some p) Q:=λ _ e=>Option.some.inj e ▸ h
noncomputable def yC (l : List α) (k : α -> List α -> Option β) : Option β:=match l with
 | a :: r=>k a r
 | []=>none
theorem yC.sp {C : List α -> β -> Prop} {k : α -> List α -> Option β} {l : List α} (h : ∀ a r,Sp (k a r) (C (a :: r))) : Sp (yC l k) (C l):=match l with
 | a :: r=>h a r
 | []=>.no
noncomputable def yE (l : List α) (x : Option β) : Option β:=match l with
 | []=>x
 | _ :: _=>none
theorem yE.sp {C : List α -> β -> Prop} {x : Option β} {l : List α} (h : Sp x (C [])) : Sp (yE l x) (C l):=match l with
 | []=>h
 | _ :: _=>.no
noncomputable def yB (b : Bool) (x : Option β) : Option β:=match b with
 | true=>x
 | false=>none
theorem yB.sp {Q : β -> Prop} {x : Option β} {b : Bool} (h : b = true -> Sp x Q) : Sp (yB b x) Q:=match b,h with
 | true,h=>h rfl
 | false,_=>.no
noncomputable def yN (n m : Nat) (x : Option β) : Option β:=match Nat.beq n m with
 | true=>x
 | false=>none
theorem yN.sp {C : Nat -> β -> Prop} {x : Option β} {n m : Nat} (h : Sp x (C m)) : Sp (yN n m x) (C n):=by
 unfold yN
 cases q : Nat.beq n m with
 | true=>rw [Nat.eq_of_beq_eq_true q]; exact h
 | false=>exact .no
noncomputable def yFst {γ δ : Type} (p : γ × δ) (k : γ -> δ -> Option β) : Option β:=k p.1 p.2
theorem yFst.sp {γ δ : Type} {C : γ × δ -> β -> Prop} {k : γ -> δ -> Option β} {p : γ × δ} (h : ∀ a b,Sp (k a b) (C (a,b))) : Sp (yFst p k) (C p):=h p.1 p.2
set_option backward.match.sparseCases false in
noncomputable def yRef (v : V) (m : Nat) (x : Option β) : Option β:=match v with
 | .ref n=>yN n m x
 | _=>none
theorem yRef.sp {C : V -> β -> Prop} {x : Option β} {v : V} {m : Nat} (h : Sp x (C (.ref m))) : Sp (yRef v m x) (C v):=by
 cases v with
 | ref n=>exact yN.sp (C:=λ n=>C (.ref n)) h
 | _=>exact .no
set_option backward.match.sparseCases false in
noncomputable def yInt (v : V) (k : Int -> Option β) : Option β:=match v with
 | .int i=>k i
 | _=>none
theorem yInt.sp {C : V -> β -> Prop} {k : Int -> Option β} {v : V} (h : ∀ i,Sp (k i) (C (.int i))) : Sp (yInt v k) (C v):=by
 cases v with
 | int i=>exact h i
 | _=>exact .no
noncomputable def yNat (v : V) (k : Nat -> Option β) : Option β:=yInt v λ i=>match i with
 | .ofNat n=>k n
 | .negSucc _=>none
theorem yNat.sp {C : V -> β -> Prop} {k : Nat -> Option β} {v : V} (h : ∀ n,Sp (k n) (C (.int (.ofNat n)))) : Sp (yNat v k) (C v):=yInt.sp λ i=>match i with
 | .ofNat n=>h n
 | .negSucc _=>.no
set_option backward.match.sparseCases false in
noncomputable def yStr (v : V) (k : List Nat -> Option β) : Option β:=match v with
 | .str l=>k l
 | _=>none
theorem yStr.sp {C : V -> β -> Prop} {k : List Nat -> Option β} {v : V} (h : ∀ i,Sp (k i) (C (.str i))) : Sp (yStr v k) (C v):=by
 cases v with
 | str i=>exact h i
 | _=>exact .no
set_option backward.match.sparseCases false in
noncomputable def yByt (v : V) (k : List Nat -> Option β) : Option β:=match v with
 | .bytes l=>k l
 | _=>none
theorem yByt.sp {C : V -> β -> Prop} {k : List Nat -> Option β} {v : V} (h : ∀ i,Sp (k i) (C (.bytes i))) : Sp (yByt v k) (C v):=by
 cases v with
 | bytes i=>exact h i
 | _=>exact .no
noncomputable def yNone (v : V) (x : Option β) : Option β:=match v with
 | .none=>x
 | _=>none
set_option backward.match.sparseCases false in
noncomputable def yBool (v : V) (k : Bool -> Option β) : Option β:=match v with
 | .bool b=>k b
 | _=>none
noncomputable def yAt (o : Option α) (k : α -> Option β) (x : Option β) : Option β:=match o with
 | some o=>k o
 | none=>x
noncomputable def yR (v : V) (k : Nat -> Option β) : Option β:=match v with
 | .ref n=>k n
 | _=>none
noncomputable def nb (neg r : Bool) : Bool:=match neg with
 | true=>!r
 | false=>r
set_option backward.match.sparseCases false
noncomputable def hL (o : Option MO) (k : List V -> Option β) : Option β:=match o with
 | some o=>(match o with
  | .list x=>k x
  | _=>none)
 | none=>none
noncomputable def hD (o : Option MO) (k : List (KV × V) -> Option β) : Option β:=match o with
 | some o=>(match o with
  | .dict x=>k x
  | _=>none)
 | none=>none
noncomputable def hT (o : Option MO) (k : List V -> Option β) : Option β:=match o with
 | some o=>(match o with
  | .tup x=>k x
  | _=>none)
 | none=>none
set_option backward.match.sparseCases true
end
abbrev tupK (prog : Program) (w : World):=tupleKind (intKind prog w)
noncomputable def IsTD (prog : Program) (w : World) (o : Obj) (kvs : List (List Int × Addr × Value)) : Prop:=
 ∃ es ep,o.ExactDict ∧ o.data = .dict es ep ∧ es.toList = kvs.map (entryOfKey (tupK prog w)) ∧ (kvs.map (·.1)).Nodup
noncomputable def ExcD (fr : XF) (vs : Array Value) : Prop:=match fr with
 | .new=>∃ t : Addr,vs = #[.ref t,.none,.none,.none,.bool false,.none]
 | .plain=>vs[2]? = some .none
 | .ctx=>True
noncomputable def csrF (D : List Nat) (q : Nat) : List (Str × V):=[(⟨⟨[100,97,116,97]⟩⟩,.bytes D),(⟨⟨[97,116]⟩⟩,.int q),(⟨⟨[101,110,100]⟩⟩,.int D.length)]
inductive LO (R : List Addr) (vs : List V) (o : Obj) : Prop where
 | mk (xs : List Value) (n : Nat) (c : o.cls = .type "list") (d : o.dict = none) (sl : o.slots = #[]) (q : o.data = .seq (List.toArray xs) n) (v : VRs R vs xs)
inductive TO (R : List Addr) (vs : List V) (o : Obj) : Prop where
 | mk (xs : List Value) (n : Nat) (c : o.cls = .type "tuple") (q : o.data = .seq (List.toArray xs) n) (v : VRs R vs xs)
noncomputable def OR (prog : Program) (w : World) (R : List Addr) : MO -> Obj -> Prop
 | .list vs,o=>LO R vs o
 | .slist vs b,o=>o = b ∧ ∃ xs n,b = listOf (List.toArray xs) n ∧ VRs R vs xs
 | .tup vs,o=>TO R vs o
 | .dict es,o=>∃ kvs,o.IsDictOf (kvKind prog w) kvs ∧ KR R es kvs
 | .tdict es,o=>∃ kvs,IsTD prog w o kvs ∧ TR R es kvs
 | .inst C d,o=>∃ a,R[d]? = some a ∧ o = instObj C a
 | .flds fs,o=>∃ es n,o = dictOf es n ∧ FR w.params R fs es
 | .cell v,o=>match v with
  | none=>o.data = .cell none
  | some v=>∃ x,o.data = .cell (some x) ∧ VR R v x
 | .litr l i,o=>∃ a,R[l]? = some a ∧ o.cls = .type "list_iterator" ∧ o.data = .fields #[.ref a,.int i 0]
 | .titr l i,o=>∃ a,R[l]? = some a ∧ o.cls = .type "tuple_iterator" ∧ o.data = .fields #[.ref a,.int i 0]
 | .ritr cur left step,o=>o = { cls:=.type "range_iterator",dict:=none,data:=.fields #[rawInt cur,rawInt left,rawInt step],slots:=#[] }
 | .bitr l i,o=>∃ (b : Array UInt8) (t : Tok),l = b.toList.map UInt8.toNat ∧ o.cls = .type "bytes_iterator" ∧ o.data = .fields #[.bytes b t,.int i 0]
 | .sitr l i,o=>∃ (t : Tok),(o.cls = .type "str_ascii_iterator" ∨ o.cls = .type "str_iterator") ∧ o.data = .fields #[.str ⟨⟨l⟩⟩ t,.int i 0]
 | .rng a b c,o=>∃ (t u v : Tok),o = { cls:=.type "range",dict:=none,data:=.fields #[.int a t,.int b u,.int c v],slots:=#[] }
 | .exc C d fr,o=>o.cls = .ref C ∧ (∃ vs,o.data = .fields vs ∧ ExcD fr vs) ∧ match d with
  | none=>o.dict = none
  | some d=>∃ a,R[d]? = some a ∧ o.dict = some a
 | .gone,_=>True
 | .rf q,o=>match q with
  | .ints l=>LO R (l.map .int) o
  | .strs l=>LO R (l.map .str) o
  | .dic es=>∃ kvs,o.IsDictOf (kvKind prog w) kvs ∧ KR R (es.map λ p=>(.int p.1,.str p.2)) kvs
  | .sl l b=>o = b ∧ ∃ xs n,b = listOf (List.toArray xs) n ∧ VRs R (l.map .int) xs
 | .gpot c k,o=>∃ (st : Int) (i : Nat),i ≤ k ∧ LO R [.ref c,.int st,.int i] o
 | .gcel,o=>∃ is : List Nat,is.length ≤ 40 ∧ LO R (is.map λ i=>.int (.ofNat i)) o
 | .cfl q its,o=>∃ D,(q ≤ D.length ∧ D.length ≤ 1000000 ∧ D.drop q = flatI its) ∧ ∃ es n,o = dictOf es n ∧ FR w.params R (csrF D q) es
section
variable {R R' : List Addr} {vs : List V} {o : Obj}
theorem LO.ext (h : LO R vs o) (e : Ext R R') : LO R' vs o:=let ⟨xs,n,a,b,c,d,k⟩:=h; ⟨xs,n,a,b,c,d,k.ext e⟩
theorem TO.ext (h : TO R vs o) (e : Ext R R') : TO R' vs o:=let ⟨xs,n,a,b,k⟩:=h; ⟨xs,n,a,b,k.ext e⟩
end
theorem exE {α : Type} {P Q : α -> Prop} (h : ∃ x,P x) (k : ∀ x,P x -> Q x) : ∃ x,Q x:=let ⟨x,h⟩:=h; ⟨x,k x h⟩
theorem OR.ext {prog : Program} {w : World} {R R' : List Addr} (e : Ext R R') {o : MO} {ob : Obj} (h : OR prog w R o ob) : OR prog w R' o ob:=by
 cases o with
 | list _=>exact LO.ext h e
 | slist _ _=>exact ⟨h.1,exE h.2 λ _ h=>exE h λ _ h=>⟨h.1,h.2.ext e⟩⟩
 | tup _=>exact TO.ext h e
 | dict _=>exact exE h λ _ h=>⟨h.1,h.2.ext e⟩
 | tdict _=>exact exE h λ _ h=>⟨h.1,h.2.ext e⟩
 | inst _ _=>exact exE h λ _ h=>⟨e.get h.1,h.2⟩
 | flds _=>exact exE h λ _ h=>exE h λ _ h=>⟨h.1,h.2.ext e⟩
 | cell v=>cases v with
  | none=>exact h
  | some v=>exact exE h λ _ h=>⟨h.1,h.2.ext e⟩
 | litr _ _=>exact exE h λ _ h=>⟨e.get h.1,h.2⟩
 | titr _ _=>exact exE h λ _ h=>⟨e.get h.1,h.2⟩
 | exc _ d _=>cases d with
  | none=>exact h
  | some d=>exact ⟨h.1,h.2.1,exE h.2.2 λ _ h=>⟨e.get h.1,h.2⟩⟩
 | rf q=>cases q with
  | «ints» _=>exact LO.ext h e
  | «strs» _=>exact LO.ext h e
  | dic _=>exact exE h λ _ h=>⟨h.1,h.2.ext e⟩
  | sl _ _=>exact ⟨h.1,exE h.2 λ _ h=>exE h λ _ h=>⟨h.1,h.2.ext e⟩⟩
 | gpot _ _=>exact exE h λ _ h=>exE h λ _ h=>⟨h.1,h.2.ext e⟩
 | gcel=>exact exE h λ _ h=>⟨h.1,h.2.ext e⟩
 | cfl _ _=>exact exE h λ _ h=>⟨h.1,exE h.2 λ _ h=>exE h λ _ h=>⟨h.1,h.2.ext e⟩⟩
 | _=>exact h
theorem OR.view {prog : Program} {w : World} {R : List Addr} {o : MO} {b : Obj} (h : OR prog w R o b) : OR prog w R (viewO o) b:=by
 cases o with
 | rf q=>cases q <;> exact h
 | _=>exact h
theorem view_gone (o : MO) : (viewO o).isGone = o.isGone:=by
 cases o with
 | rf q=>cases q <;> rfl
 | _=>rfl
noncomputable def Act (H : Hp) (R : List Addr) (i : Nat) (a : Addr) : Prop:=∃ o,H[i]? = some o ∧ o.isGone = false ∧ R[i]? = some a
noncomputable def acts : Hp -> List Addr -> List Addr
 | [],_=>[]
 | _ :: _,[]=>[]
 | o :: H,a :: R=>match o.isGone with
  | true=>acts H R
  | false=>a :: acts H R
theorem mem_acts : ∀ {H : Hp} {R : List Addr} {a : Addr},a ∈ acts H R ↔ ∃ i,Act H R i a:=by
 intro l_
 induction l_ with
 | nil=>
  intro _ _
  exact ⟨λ h=>(nomatch h),λ ⟨i,o,e,_⟩=>by cases i <;> cases e⟩
 | cons o H ih_=>
  intro z1_ a
  cases z1_ with
  | nil=>
   exact ⟨λ h=>(nomatch h),λ ⟨i,o,_,_,e⟩=>by cases i <;> cases e⟩
  | cons b R=>
   dsimp only [acts]
   cases q : o.isGone with
   | true=>
    refine ih_.trans ?_
    constructor
    ·rintro ⟨i,x,e,g,r⟩; exact ⟨i + 1,x,e,g,r⟩
    ·rintro ⟨i,x,e,g,r⟩
     cases i with
     | zero=>cases e; replace g:=q ▸ g; cases g
     | succ i=>exact ⟨i,x,e,g,r⟩
   | false=>
    refine List.mem_cons.trans ?_
    rw [ih_]
    constructor
    ·rintro (rfl | ⟨i,x,e,g,r⟩)
     ·exact ⟨0,o,rfl,q,rfl⟩
     ·exact ⟨i + 1,x,e,g,r⟩
    ·rintro ⟨i,x,e,g,r⟩
     cases i with
     | zero=>cases r; exact .inl rfl
     | succ i=>exact .inr ⟨i,x,e,g,r⟩
structure Inv (prog : Program) (w : World) (g₀ g : Heap) (L : Addr) (m : Str -> Option Value) (R : List Addr) (H : Hp) (h : Heap) : Prop where
 S : ∀ b o,g₀.get? b = some o -> h.get? b = some o
 ns : h.Ns L m
 K : ∀ b o,g.get? b = some o -> ∃ sl,h.get? b = some { o with slots:=sl }
 lo : g₀.get? L = none ∧ g.get? L = none ∧ g₀.objs.size ≤ L
 len : H.length = R.length
 nd : ∀ (i j : Nat) (a : Addr),Act H R i a -> Act H R j a -> i = j
 ob : ∀ (i : Nat) (o : MO) (a : Addr),H[i]? = some o -> o.isGone = false -> R[i]? = some a -> ∃ b,h.get? a = some b ∧ OR prog w R o b
 out : ∀ (i : Nat) (a : Addr),Act H R i a -> a ≠ L ∧ g.get? a = none ∧ g₀.get? a = none
section
variable {prog : Program} {w : World} {g₀ g : Heap} {L : Addr} {m : Str -> Option Value} {R : List Addr} {H : Hp} {h h' : Heap}
theorem Inv.frL (I : Inv prog w g₀ g L m R H h) : ∃ o,h.get? L = some o:=let ⟨o,_,_,e,_⟩:=I.ns; ⟨o,e⟩
theorem Inv.addr (I : Inv prog w g₀ g L m R H h) {i : Nat} {o : MO} (e : H[i]? = some o) (hg : o.isGone = false) : ∃ a b,R[i]? = some a ∧ h.get? a = some b ∧ OR prog w R o b:=by
 have lt : i < R.length:=I.len ▸ (List.getElem?_eq_some_iff.mp e).1
 have ha : R[i]? = some R[i]:=List.getElem?_eq_getElem lt
 obtain ⟨b,hb,ho⟩:=I.ob i o _ e hg ha
 exact ⟨_,b,ha,hb,ho⟩
theorem Inv.at (I : Inv prog w g₀ g L m R H h) {i : Nat} {a : Addr} {o : MO} (e : H[i]? = some o) (hg : o.isGone = false) (ha : R[i]? = some a) : ∃ b,h.get? a = some b ∧ OR prog w R o b:=I.ob i o a e hg ha
theorem Inv.act_live (I : Inv prog w g₀ g L m R H h) {i : Nat} {a : Addr} (x : Act H R i a) : ∃ b,h.get? a = some b:=by
 refine yG λ G_ k_=>?_
 obtain ⟨o,e,hg,r⟩:=x
 obtain ⟨b,hb,_⟩:=I.ob i o a e hg r
 refine k_ ?_
 exact ⟨b,hb⟩
theorem Inv.keeps' {m' : Str -> Option Value} (I : Inv prog w g₀ g L m R H h) (hn : h'.Ns L m') (k : ∀ b o,b ≠ L -> h.get? b = some o -> h'.get? b = some o) : Inv prog w g₀ g L m' R H h' where
 S:=λ b o e=>k b o (λ q=>by replace e:=q ▸ e; replace e:=I.lo.1 ▸ e; cases e) (I.S b o e)
 ns:=hn
 K:=λ b o e=>by
  obtain ⟨sl,hs⟩:=I.K b o e
  exact ⟨sl,k b _ (λ q=>by replace e:=q ▸ e; replace e:=I.lo.2.1 ▸ e; cases e) hs⟩
 lo:=I.lo
 len:=I.len
 nd:=I.nd
 ob:=λ i o a e hg r=>by
  obtain ⟨b,hb,ho⟩:=I.ob i o a e hg r
  exact ⟨b,k a b (I.out i a ⟨o,e,hg,r⟩).1 hb,ho⟩
 out:=I.out
theorem Inv.keeps (I : Inv prog w g₀ g L m R H h) (k : ∀ b o,h.get? b = some o -> h'.get? b = some o) : Inv prog w g₀ g L m R H h':=
 I.keeps' (let ⟨o,es,ep,e,r⟩:=I.ns; ⟨o,es,ep,k _ _ e,r⟩) λ b o _ e=>k b o e
theorem Inv.names {m' : Str -> Option Value} (I : Inv prog w g₀ g L m R H h) (hn : h'.Ns L m') (hs : Heap.SameBut L h h') : Inv prog w g₀ g L m' R H h':=
 I.keeps' hn λ b _ q e=>(hs.2 b q).trans e
theorem act_set {H : Hp} {R : List Addr} {i j : Nat} {o : MO} {a : Addr} (x : Act (H.set i o) R j a) (hj : j ≠ i) : Act H R j a:=by
 obtain ⟨p,e,hg,r⟩:=x
 replace e:=(List.getElem?_set_ne (Ne.symm hj)).symm.trans e
 exact ⟨p,e,hg,r⟩
theorem Inv.turn' {m' : Str -> Option Value} (I : Inv prog w g₀ g L m R H h) {i : Nat} {a : Addr} {o o₀ : MO} (hi : H[i]? = some o₀) (hg₀ : o₀.isGone = false) (ha : R[i]? = some a)
  (hn : h'.Ns L m') (k : ∀ c x,c ≠ L -> c ≠ a -> h.get? c = some x -> h'.get? c = some x) (hb : o.isGone = false -> ∃ b,h'.get? a = some b ∧ OR prog w R o b) : Inv prog w g₀ g L m' R (H.set i o) h':=by
 have A₀ : Act H R i a:=⟨o₀,hi,hg₀,ha⟩
 have oa:=I.out i a A₀
 have act : ∀ j c,Act (H.set i o) R j c -> Act H R j c:=λ j c x=>by
  by_cases hj : j = i
  ·subst hj
   obtain ⟨_,_,_,r⟩:=x
   replace r:=ha ▸ r; cases r
   exact A₀
  ·exact act_set x hj
 exact {
  S:=λ b x e=>k b x (λ q=>by rw [q,I.lo.1] at e; cases e) (λ q=>by rw [q,oa.2.2] at e; cases e) (I.S b x e)
  ns:=hn
  K:=λ b x e=>by
   obtain ⟨sl,hs⟩:=I.K b x e
   exact ⟨sl,k b _ (λ q=>by rw [q,I.lo.2.1] at e; cases e) (λ q=>by rw [q,oa.2.1] at e; cases e) hs⟩
  lo:=I.lo
  len:=by refine List.length_set.trans ?_; exact I.len
  nd:=λ i' j' c x y=>I.nd i' j' c (act _ _ x) (act _ _ y)
  ob:=λ j p c e hg r=>by
   by_cases hj : j = i
   ·subst hj
    replace r:=ha ▸ r; cases r
    have lt : j < H.length:=(List.getElem?_eq_some_iff.mp hi).1
    replace e:=(List.getElem?_set_self lt) ▸ e
    cases e
    exact hb hg
   ·replace e:=(List.getElem?_set_ne (Ne.symm hj)) ▸ e
    obtain ⟨b,hb',ho⟩:=I.ob j p c e hg r
    exact ⟨b,k c b (I.out j c ⟨p,e,hg,r⟩).1 (λ q=>hj (I.nd j i a (q ▸ ⟨p,e,hg,r⟩) A₀)) hb',ho⟩
  out:=λ j c x=>I.out j c (act j c x) }
theorem Inv.turn (I : Inv prog w g₀ g L m R H h) {i : Nat} {a : Addr} {o o₀ : MO} (hi : H[i]? = some o₀) (hg₀ : o₀.isGone = false) (ha : R[i]? = some a)
  (k : ∀ c x,c ≠ a -> h.get? c = some x -> h'.get? c = some x) (hb : o.isGone = false -> ∃ b,h'.get? a = some b ∧ OR prog w R o b) : Inv prog w g₀ g L m R (H.set i o) h':=
 I.turn' hi hg₀ ha (let ⟨oL,es,ep,e,r⟩:=I.ns; ⟨oL,es,ep,k _ _ (Ne.symm (I.out i a ⟨o₀,hi,hg₀,ha⟩).1) e,r⟩) (λ c x _=>k c x) hb
theorem act_push {H : Hp} {R : List Addr} (len : H.length = R.length) {o : MO} {a c : Addr} {j : Nat} (x : Act (H ++ [o]) (R ++ [a]) j c) : Act H R j c ∨ (j = H.length ∧ c = a ∧ o.isGone = false):=by
 obtain ⟨p,e,hg,r⟩:=x
 by_cases hj : j < H.length
 ·rw [List.getElem?_append_left hj] at e
  rw [List.getElem?_append_left (len ▸ hj)] at r
  exact .inl ⟨p,e,hg,r⟩
 ·have hle : H.length ≤ j:=Nat.le_of_not_lt hj
  replace e:=(List.getElem?_append_right hle) ▸ e
  replace r:=(List.getElem?_append_right (len ▸ hle)) ▸ r
  cases q : j - H.length with
  | zero=>
   rw [q] at e
   simp only [<- len,q] at r
   refine yG λ G_ k_=>?_
   obtain rfl:=Option.some.inj e; cases r
   refine k_ ?_
   exact .inr ⟨by lia,rfl,hg⟩
  | succ n=>rw [q] at e; exact nsm e
theorem Inv.make' {m' : Str -> Option Value} (I : Inv prog w g₀ g L m R H h) {a : Addr} {o : MO} {b : Obj} (hn : h'.Ns L m') (k : ∀ c x,c ≠ L -> h.get? c = some x -> h'.get? c = some x) (hf : h.get? a = none) (hb : h'.get? a = some b)
  (ho : OR prog w (R ++ [a]) o b) : Inv prog w g₀ g L m' (R ++ [a]) (H ++ [o]) h':=by
 have J:=I.keeps' hn k
 have aL : a ≠ L:=λ q=>by obtain ⟨x,hx⟩:=I.frL; rw [<- q,hf] at hx; exact nsm hx
 exact {
  S:=J.S
  ns:=hn
  K:=J.K
  lo:=J.lo
  len:=by simp only [List.length_append,List.length_append,I.len]; rfl
  nd:=λ i j c x y=>by
   rcases act_push I.len x with x1 | ⟨e1,e2,_⟩ <;> rcases act_push I.len y with y1 | ⟨f1,f2,_⟩
   ·exact I.nd i j c x1 y1
   ·obtain ⟨z,hz⟩:=I.act_live x1
    rw [f2,hf] at hz; exact nsm hz
   ·obtain ⟨z,hz⟩:=I.act_live y1
    rw [e2,hf] at hz; exact nsm hz
   ·simp only [e1,f1]
  ob:=λ i p c e hg r=>by
   by_cases hi : i < H.length
   ·replace e:=(List.getElem?_append_left hi).symm.trans e
    rw [List.getElem?_append_left (I.len ▸ hi)] at r
    obtain ⟨b',hb',ho'⟩:=J.ob i p c e hg r
    exact ⟨b',hb',ho'.ext (Ext.push R a)⟩
   ·rcases act_push I.len ⟨p,e,hg,r⟩ with ⟨q,e',_⟩ | ⟨rfl,rfl,_⟩
    ·exact absurd (List.getElem?_eq_some_iff.mp e').1 hi
    ·replace e:=(List.getElem?_append_right (Nat.le_refl _)) ▸ e; rw [Nat.sub_self] at e
     cases e
     exact ⟨b,hb,ho⟩
  out:=λ i c x=>by
   rcases act_push I.len x with x | ⟨rfl,rfl,_⟩
   ·exact I.out i c x
   ·refine ⟨aL,?_,?_⟩
    ·cases q : g.get? c with
     | none=>rfl
     | some x=>obtain ⟨sl,hs⟩:=I.K c x q; rw [hf] at hs; exact nsm hs
    ·cases q : g₀.get? c with
     | none=>rfl
     | some x=>have:=I.S c x q; replace this:=hf ▸ this; cases this }
theorem Inv.make (I : Inv prog w g₀ g L m R H h) {a : Addr} {o : MO} {b : Obj} (k : ∀ c x,h.get? c = some x -> h'.get? c = some x) (hf : h.get? a = none) (hb : h'.get? a = some b)
  (ho : OR prog w (R ++ [a]) o b) : Inv prog w g₀ g L m (R ++ [a]) (H ++ [o]) h':=
 I.make' (let ⟨o,es,ep,e,r⟩:=I.ns; ⟨o,es,ep,k _ _ e,r⟩) (λ c x _=>k c x) hf hb ho
theorem Inv.push (I : Inv prog w g₀ g L m R H h) {o : MO} {b : Obj} (hfr : b.isFreed = false) (ho : OR prog w (R ++ [h.objs.size]) o b) : Inv prog w g₀ g L m (R ++ [h.objs.size]) (H ++ [o]) (h.push b):=
 I.make (λ _ _ e=>Heap.get?_push_of_some _ e) (Heap.get?_none_of_le (Nat.le_refl _)) (Heap.get?_push_size _ hfr) ho
theorem Inv.enter (I : Inv prog w g₀ g L m R H h) {L' : Addr} {m' : Str -> Option Value} (hn : h'.Ns L' m') (k : ∀ b o,h.get? b = some o -> h'.get? b = some o) (hL : h.get? L' = none) (hs : g₀.objs.size ≤ L') :
  Inv prog w g₀ (hideAll h (acts H R)) L' m' R H h' where
 S:=λ b o e=>k b o (I.S b o e)
 ns:=hn
 K:=λ b o e=>⟨o.slots,k _ _ (of_hideAll _ e)⟩
 lo:=by
  refine ⟨?_,?_,hs⟩
  ·cases q : g₀.get? L' with
   | none=>rfl
   | some x=>have:=I.S _ x q; rw [hL] at this; exact nsm this
  ·cases q : (hideAll h (acts H R)).get? L' with
   | none=>rfl
   | some x=>have:=of_hideAll _ q; rw [hL] at this; exact nsm this
 len:=I.len
 nd:=I.nd
 ob:=λ i o a e hg r=>by
  obtain ⟨b,hb,ho⟩:=I.ob i o a e hg r
  exact ⟨b,k _ _ hb,ho⟩
 out:=λ i a x=>by
  obtain ⟨b,hb⟩:=I.act_live x
  refine ⟨λ q=>(by replace hL:=q ▸ hL; replace hL:=hb ▸ hL; cases hL),hideAll_none _ (mem_acts.mpr ⟨i,x⟩),(I.out i a x).2.2⟩
theorem Ns.slots {h h' : Heap} {L : Addr} {m : Str -> Option Value} (hn : h.Ns L m) (k : ∀ o,h.get? L = some o -> ∃ sl,h'.get? L = some { o with slots:=sl }) : h'.Ns L m:=by
 refine yG λ G_ k_=>?_
 obtain ⟨o,es,ep,e,hd,r⟩:=hn
 obtain ⟨sl,hs⟩:=k o e
 refine k_ ?_
 exact ⟨_,es,ep,hs,hd,r⟩
theorem Inv.leave (I : Inv prog w g₀ g L m R H h) {L' : Addr} {m' : Str -> Option Value} {R' : List Addr} {H' : Hp} (J : Inv prog w g₀ (hideAll h (acts H R)) L' m' R' H' h') : Inv prog w g₀ g L m R' H' h':=by
 have nL : L ∉ acts H R:=λ hm=>let ⟨i,x⟩:=mem_acts.mp hm; (I.out i L x).1 rfl
 have gL : ∀ o,h.get? L = some o -> (hideAll h (acts H R)).get? L = some o:=λ o e=>hideAll_get _ e nL
 have st : ∀ b o,g.get? b = some o -> ∃ sl,(hideAll h (acts H R)).get? b = some { o with slots:=sl }:=λ b o e=>by
  obtain ⟨sl,hs⟩:=I.K b o e
  exact ⟨sl,hideAll_get _ hs λ hm=>by obtain ⟨i,x⟩:=mem_acts.mp hm; replace e:=((I.out i b x).2.1) ▸ e; cases e⟩
 exact {
  S:=J.S
  ns:=Ns.slots I.ns λ o e=>J.K L o (gL o e)
  K:=λ b o e=>by
   obtain ⟨sl,hs⟩:=st b o e
   obtain ⟨sl',hs'⟩:=J.K b _ hs
   exact ⟨sl',hs'⟩
  lo:=I.lo
  len:=J.len
  nd:=J.nd
  ob:=J.ob
  out:=λ i a x=>by
   have oa:=J.out i a x
   refine ⟨λ q=>?_,?_,oa.2.2⟩
   ·refine yG λ G_ k_=>?_
    obtain ⟨o,e⟩:=I.frL
    refine k_ ?_
    replace oa:=q ▸ oa
    replace oa:=(gL o e) ▸ oa; cases oa.2.1
   ·cases q : g.get? a with
    | none=>rfl
    | some y=>obtain ⟨sl,hs⟩:=st a y q; replace oa:=hs ▸ oa; cases oa.2.1 }
set_option backward.match.sparseCases false in
noncomputable def others (g₀ : Heap) (L : Addr) (h : Heap) : List (Addr × Obj):=(List.range h.objs.size).filterMap λ a=>match h.get? a,g₀.get? a,Nat.beq a L with
 | some o,none,false=>some (a,o)
 | _,_,_=>none
set_option tactic.hygienic true in
theorem mem_others {a : Addr} {o : Obj} : (a,o) ∈ others g₀ L h ↔ h.get? a = some o ∧ g₀.get? a = none ∧ a ≠ L:=by
 refine List.mem_filterMap.trans ?_
 constructor
 ·rintro ⟨b,_,e⟩
  refine yG λ G_ k_=>?_
  split at e
  refine k_ ?_
  ·rename_i o' h1 h2 h3
   refine yG λ G_ k_=>?_
   cases e
   refine k_ ?_
   exact ⟨h1,h2,λ q=>by replace h3:=q ▸ h3; rw [Nat.beq_refl] at h3; cases h3⟩
  ·exact nsm e
 ·rintro ⟨h1,h2,h3⟩
  refine ⟨a,List.mem_range.mpr (Heap.lt_size h1),?_⟩
  have : Nat.beq a L = false:=by cases q : Nat.beq a L with
   | false=>rfl
   | true=>exact absurd (Nat.eq_of_beq_eq_true q) h3
  simp only [h1,h2,this]
theorem Inv.fr (I : Inv prog w g₀ g L m R H h) : Fr g₀ L h m:=⟨I.ns,I.S,I.lo.2.2⟩
theorem Inv.news (_I : Inv prog w g₀ g L m R H h) : News g₀ L h (others g₀ L h):=λ p hp=>by
 obtain ⟨h1,h2,h3⟩:=mem_others.mp hp
 exact ⟨h1,h3,h2⟩
theorem keeps_of {m' : Str -> Option Value} {news : List (Addr × Obj)} (F : Fr g₀ L h' m') (N : News g₀ L h' news) (hs : ∀ p ∈ others g₀ L h,p ∈ news) : ∀ b o,b ≠ L -> h.get? b = some o -> (g₀.get? b = none ∨ g₀.get? b = some o) -> h'.get? b = some o:=λ b o hb e q=>by
 rcases q with q | q
 ·exact (N _ (hs _ (mem_others.mpr ⟨e,q,hb⟩))).1
 ·exact F.keep b o q
theorem Inv.keepsN {m' : Str -> Option Value} {news : List (Addr × Obj)} (I : Inv prog w g₀ g L m R H h) (F : Fr g₀ L h' m') (N : News g₀ L h' news) (hs : ∀ p ∈ others g₀ L h,p ∈ news) : ∀ b o,b ≠ L -> h.get? b = some o -> h'.get? b = some o:=λ b o hb e=>
 keeps_of F N hs b o hb e (by
  cases q : g₀.get? b with
  | none=>exact .inl rfl
  | some x=>have:=I.S b x q; rw [e] at this; obtain rfl:=Option.some.inj this; exact .inr rfl)
theorem Inv.makeN {m' : Str -> Option Value} (I : Inv prog w g₀ g L m R H h) {a : Addr} {o : MO} {b : Obj} (F : Fr g₀ L h' m') (N : News g₀ L h' ((a,b) :: others g₀ L h)) (hf : h.get? a = none) (ho : OR prog w (R ++ [a]) o b) : Inv prog w g₀ g L m' (R ++ [a]) (H ++ [o]) h':=
 I.make' F.ns (I.keepsN F N λ _=>.tail _) hf (N _ (.head _)).1 ho
theorem freshN {D : Addr} {o : Obj} {news : List (Addr × Obj)} (N : News g₀ L h' ((D,o) :: news)) (lt : ∀ p ∈ others g₀ L h,p.1 < D) : h.get? D = none:=by
 obtain ⟨_,n2,n3⟩:=N _ (.head _)
 cases q : h.get? D with
 | none=>rfl
 | some x=>exact absurd (lt _ (mem_others.mpr ⟨q,n3,n2⟩)) (Nat.lt_irrefl _)
set_option backward.match.sparseCases false in
set_option tactic.hygienic true in
theorem others_split {a : Addr} {o : Obj} (ha : (a,o) ∈ others g₀ L h) : ∃ pre post,others g₀ L h = pre ++ (a,o) :: post ∧ (∀ p ∈ pre,p.1 ≠ a) ∧ ∀ p ∈ post,p.1 ≠ a:=by
 obtain ⟨pre,post,e⟩:=List.append_of_mem ha
 have nd : ((others g₀ L h).map (·.1)).Nodup:=by
  have : ∀ l : List Nat,l.Nodup -> ((l.filterMap λ a=>match h.get? a,g₀.get? a,Nat.beq a L with
   | some o,none,false=>some (a,o)
   | _,_,_=>none).map (·.1)).Nodup:=by
   intro l
   induction l with
   | nil=>intro _; exact List.nodup_nil
   | cons x l ih=>
    intro hn
    rw [List.nodup_cons] at hn
    simp only [List.filterMap_cons]
    split
    ·exact ih hn.2
    ·rename_i p hp
     rw [List.map_cons,List.nodup_cons]
     refine ⟨λ hm=>?_,ih hn.2⟩
     rw [List.mem_map] at hm
     obtain ⟨q,hq,hqe⟩:=hm
     rw [List.mem_filterMap] at hq
     obtain ⟨y,hy,hye⟩:=hq
     have e1 : p.1 = x:=by
      split at hp
      ·obtain rfl:=Option.some.inj hp; rfl
      ·exact nsm hp
     have e2 : q.1 = y:=by
      split at hye
      ·obtain rfl:=Option.some.inj hye; rfl
      ·exact nsm hye
     simp only [e1,e2] at hqe
     exact hn.1 (hqe ▸ hy)
  exact this _ List.nodup_range
 rw [e,List.map_append,List.map_cons,List.nodup_append,List.nodup_cons] at nd
 refine ⟨pre,post,e,λ p hp q=>nd.2.2 p.1 (List.mem_map_of_mem hp) a (.head _) q,λ p hp q=>nd.2.1.1 (List.mem_map.mpr ⟨p,hp,q⟩)⟩
end
noncomputable def leq : List Nat -> List Nat -> Bool
 | [],l=>match l with
  | []=>true
  | _ :: _=>false
 | a :: x,l=>match l with
  | []=>false
  | b :: y=>match Nat.beq a b with
   | true=>leq x y
   | false=>false
theorem leq_iff : ∀ {x y : List Nat},leq x y = true ↔ x = y:=by
 intro l_
 induction l_ with
 | nil=>
  intro z1_
  cases z1_ with
  | nil=>
   exact ⟨λ _=>rfl,λ _=>rfl⟩
  | cons _ _=>
   exact ⟨λ h=>Bool.noConfusion (h : false = true),λ h=>nomatch h⟩
 | cons a x ih_=>
  intro z2_
  cases z2_ with
  | nil=>
   exact ⟨λ h=>Bool.noConfusion (h : false = true),λ h=>nomatch h⟩
  | cons b y=>
   show (match Nat.beq a b with | true=>leq x y | false=>false) = true ↔ _
   cases h : Nat.beq a b with
   | true=>
    have:=Nat.eq_of_beq_eq_true h
    subst this
    refine ih_.trans ?_
    rw [List.cons.injEq]
    exact ⟨λ q=>⟨rfl,q⟩,λ q=>q.2⟩
   | false=>
    have : a ≠ b:=Nat.ne_of_beq_eq_false h
    exact ⟨λ q=>Bool.noConfusion (q : false = true),λ q=>absurd (List.cons.inj q).1 this⟩
theorem leq_eq (a b : List Nat) : leq a b = (a == b):=by
 cases q : leq a b with
 | true=>refine (leq_iff.mp q) ▸ ?_; simp
 | false=>
  cases r : (a == b) with
  | false=>rfl
  | true=>replace q:=(beq_iff_eq.mp r) ▸ q; replace q:=(leq_iff.mpr rfl) ▸ q; cases q
noncomputable def seq (a b : Str) : Bool:=leq a.cps.toList b.cps.toList
theorem seq_iff {a b : Str} : seq a b = true ↔ a = b:=by
 refine leq_iff.trans ?_
 constructor
 ·intro h
  cases a; cases b
  simp only [Str.mk.injEq]
  exact Array.toList_inj.mp h
 ·rintro rfl; rfl
theorem seq_eq (a b : Str) : seq a b = (a == b):=by
 cases q : seq a b with
 | true=>refine (seq_iff.mp q) ▸ ?_; simp
 | false=>
  cases r : (a == b) with
  | false=>rfl
  | true=>replace q:=(beq_iff_eq.mp r) ▸ q; replace q:=(seq_iff.mpr rfl) ▸ q; cases q
noncomputable def look {α : Type} (x : Str) : List (Str × α) -> Option α
 | []=>none
 | (y,v) :: r=>match seq x y with
  | true=>some v
  | false=>look x r
theorem look_eq {α : Type} (x : Str) : ∀ l : List (Str × α),look x l = l.lookup x:=by
 intro l_
 induction l_ with
 | nil=>
  exact rfl
 | cons z1_ r ih_=>
  cases z1_ with
  | mk y v=>
   dsimp only [look]
   refine Eq.trans ?_ List.lookup_cons.symm
   rw [seq_eq]
   cases q : (x == y) with
   | true=>rfl
   | false=>exact ih_
structure FnI where
 name : Str
 params : List Str
 dflts : List V
 scope : Scope
 body : List Stmt
structure Cx where
 glob : Str -> Option V
 fn : Addr -> Option FnI
 cls : Addr -> Option Addr
 meth : Addr -> Str -> Option Addr
 exc : Addr -> Option Addr
 sub : Addr -> Addr -> Option Bool
 obj : Addr -> Option MO
 attr : Addr -> Str -> Bool
 sets : Addr -> Str -> Bool
 xset : Addr -> Str -> Bool
 xcls : Addr -> Bool
 isi : Addr -> Bool
structure Fc where
 sc : Scope
 d : Nat
 h : Option Nat
inductive Bd where
 | loc (v : V)
 | cel (n : Nat)
abbrev Nm:=List (Str × Bd)
noncomputable def setN (x : Str) (b : Bd) : Nm -> Nm
 | []=>[(x,b)]
 | (y,c) :: r=>match seq x y with
  | true=>(y,b) :: r
  | false=>(y,c) :: setN x b r
inductive Fl where
 | next | ret (v : V) | brk | cont
section
variable (cx : Cx)
set_option backward.match.sparseCases false in
noncomputable def at_ (H : Hp) : V -> Option MO
 | .ref n=>match H[n]? with
  | some o=>some (viewO o)
  | none=>none
 | .top (.ref a)=>cx.obj a
 | _=>none
noncomputable def intsOf : List V -> Option (List Int)
 | []=>some []
 | v :: r=>match v with
  | .int i=>(intsOf r).map (i :: ·)
  | _=>none
noncomputable def strsOf : List V -> Option (List (List Nat))
 | []=>some []
 | v :: r=>match v with
  | .str l=>(strsOf r).map (l :: ·)
  | _=>none
noncomputable def ieq : List Int -> List Int -> Bool
 | [],l=>match l with
  | []=>true
  | _ :: _=>false
 | a :: x,l=>match l with
  | []=>false
  | b :: y=>match a == b with
   | true=>ieq x y
   | false=>false
theorem ieq_eq : ∀ a b : List Int,ieq a b = decide (a = b):=by
 intro l_
 induction l_ with
 | nil=>
  intro z1_
  cases z1_ with
  | nil=>
   simp [ieq]
  | cons _ _=>
   simp [ieq]
 | cons a x ih_=>
  intro z2_
  cases z2_ with
  | nil=>
   simp [ieq]
  | cons b y=>
   dsimp only [ieq]
   by_cases h : a = b
   ·subst h; simp [ih_ y]
   ·have : (a == b) = false:=by simpa using h
    simp [this,h]
noncomputable def rowsEq : List (List Int) -> List (List Int) -> Bool
 | [],l=>match l with
  | []=>true
  | _ :: _=>false
 | a :: x,l=>match l with
  | []=>false
  | b :: y=>match ieq a b with
   | true=>rowsEq x y
   | false=>false
set_option backward.match.sparseCases false
noncomputable def rowsOf (H : Hp) : List V -> Option (List (List Int))
 | []=>some []
 | v :: r=>match v with
  | .ref n=>match H[n]? with
   | some (.tup vs)=>match intsOf vs with
    | some is=>(rowsOf H r).map (is :: ·)
    | none=>none
   | _=>none
  | _=>none
noncomputable def eqM (H : Hp) (a b : V) : Option Bool:=match a with
 | .none=>yNone b (some true)
 | .bool p=>yBool b λ q=>some (p == q)
 | .int i=>yInt b λ j=>some (i == j)
 | .str l=>yStr b λ r=>some (leq l r)
 | .bytes l=>yByt b λ r=>some (leq l r)
 | .ref i=>yR b λ j=>yAt H[i]? (λ o=>match o with
  | .tup xs=>hT H[j]? λ ys=>(intsOf xs).bind λ p=>(intsOf ys).bind λ q=>some (ieq p q)
  | .list xs=>hL H[j]? λ ys=>(rowsOf H xs).bind λ p=>(rowsOf H ys).bind λ q=>some (rowsEq p q)
  | _=>none) none
 | .top _=>none
noncomputable def truthM (H : Hp) : V -> Option Bool
 | .none=>some false
 | .bool b=>some b
 | .int i=>some (!(i == 0))
 | .str l=>match Nat.ble l.length 1000000 with
  | true=>some (!l.isEmpty)
  | false=>none
 | .bytes l=>match Nat.ble l.length 1000000 with
  | true=>some (!l.isEmpty)
  | false=>none
 | .ref n=>match H[n]? with
  | some (.list vs)=>match Nat.ble vs.length 1000000 with
   | true=>some (!vs.isEmpty)
   | false=>none
  | some (.tup vs)=>match Nat.ble vs.length 1000000 with
   | true=>some (!vs.isEmpty)
   | false=>none
  | _=>none
 | .top _=>none
set_option backward.match.sparseCases true
noncomputable def anyI (k : Int) : List Int -> Bool
 | []=>false
 | x :: r=>match x == k with
  | true=>true
  | false=>anyI k r
noncomputable def anyS (k : List Nat) : List (List Nat) -> Bool
 | []=>false
 | x :: r=>match leq x k with
  | true=>true
  | false=>anyS k r
noncomputable def anyC (c : Nat) : List Nat -> Bool
 | []=>false
 | x :: r=>match Nat.beq x c with
  | true=>true
  | false=>anyC c r
noncomputable def inV (v : V) (vs : List V) : Option Bool:=match v with
 | .int k=>(intsOf vs).map (anyI k)
 | .str k=>(strsOf vs).map (anyS k)
 | _=>none
noncomputable def keyOf : V -> Option KV
 | .int i=>some (.int i)
 | .str l=>some (.str l)
 | _=>none
set_option backward.match.sparseCases false in
noncomputable def kvEq : KV -> KV -> Bool
 | .int a,.int b=>a == b
 | .str a,.str b=>leq a b
 | _,_=>false
theorem kvEq_eq (a b : KV) : kvEq a b = decide (a = b):=by
 cases a <;> cases b <;> simp only [kvEq,leq_eq] <;> first | rfl | (simp; done) | (rw [Bool.eq_iff_iff]; refine beq_iff_eq.trans ?_; rw [decide_eq_true_eq]; exact ⟨λ e=>e ▸ rfl,λ e=>by injection e⟩)
noncomputable def dfind (k : KV) : List (KV × V) -> Option V
 | []=>none
 | (q,x) :: r=>match kvEq q k with
  | true=>some x
  | false=>dfind k r
noncomputable def dput (k : KV) (x : V) : List (KV × V) -> List (KV × V)
 | []=>[(k,x)]
 | (q,y) :: r=>match kvEq q k with
  | true=>(q,x) :: r
  | false=>(q,y) :: dput k x r
noncomputable def tkey (H : Hp) (n : Nat) : Option (List Int):=match H[n]? with
 | some (.tup vs)=>intsOf vs
 | _=>none
noncomputable def tok (H : Hp) : List (List Int × Nat × V) -> Bool
 | []=>true
 | (k,n,_) :: r=>match tkey H n with
  | some k'=>match ieq k' k with
   | true=>tok H r
   | false=>false
  | none=>false
noncomputable def tfind (k : List Int) : List (List Int × Nat × V) -> Option V
 | []=>none
 | (q,_,x) :: r=>match ieq q k with
  | true=>some x
  | false=>tfind k r
noncomputable def tput (k : List Int) (n : Nat) (x : V) : List (List Int × Nat × V) -> List (List Int × Nat × V)
 | []=>[(k,n,x)]
 | (q,n',y) :: r=>match ieq q k with
  | true=>(q,n',x) :: r
  | false=>(q,n',y) :: tput k n x r
set_option backward.match.sparseCases false in
noncomputable def dgetM (H : Hp) (o : MO) (k : V) : Option (Option V):=match o with
 | .dict es=>match keyOf k with
  | some q=>some (dfind q es)
  | none=>yR k λ n=>yE es ((tkey H n).bind λ _=>some none)
 | .tdict es=>yR k λ n=>(tkey H n).bind λ q=>yB (tok H es) (some (tfind q es))
 | _=>none
noncomputable def dsetM (H : Hp) (o : MO) (k x : V) : Option MO:=match o with
 | .dict es=>match keyOf k with
  | some q=>yB (Nat.ble es.length 1000) (some (.dict (dput q x es)))
  | none=>yR k λ n=>yE es ((tkey H n).bind λ q=>some (.tdict [(q,n,x)]))
 | .tdict es=>yR k λ n=>(tkey H n).bind λ q=>yB (tok H es) (yB (Nat.ble es.length 1000) (some (.tdict (tput q n x es))))
 | _=>none
set_option backward.match.sparseCases false in
noncomputable def isM (a b : V) : Option Bool:=yNone b (match a with
 | .none=>some true
 | .top _=>none
 | _=>some false)
noncomputable def inM (H : Hp) (a b : V) : Option Bool:=yAt (at_ cx H b) (λ o=>match o with
  | .tup vs=>inV a vs
  | .list vs=>inV a vs
  | .dict es=>(dgetM H (.dict es) a).map (·.isSome)
  | .tdict es=>(dgetM H (.tdict es) a).map (·.isSome)
  | _=>none) (yStr a λ l=>yC l λ c l=>yE l (yStr b λ r=>some (anyC c r)))
noncomputable def cmpM (op : CmpOp) (a b : V) (H : Hp) : Option Bool:=match op with
 | .Eq=>eqM H a b
 | .NotEq=>(eqM H a b).map (!·)
 | .Lt=>yInt a λ x=>yInt b λ y=>some (decide (x < y))
 | .LtE=>yInt a λ x=>yInt b λ y=>some (decide (x ≤ y))
 | .Gt=>yInt a λ x=>yInt b λ y=>some (decide (x > y))
 | .GtE=>yInt a λ x=>yInt b λ y=>some (decide (x ≥ y))
 | .Is=>isM a b
 | .IsNot=>(isM a b).map (!·)
 | .In=>inM cx H a b
 | .NotIn=>match a with
  | .ref _=>none
  | _=>(inM cx H a b).map (!·)
set_option backward.match.sparseCases false in
noncomputable def binopM (op : Operator) (a b : V) (H : Hp) : Option (V × Hp):=match op with
 | .Add=>match a with
  | .bytes x=>yByt b λ y=>yB (Nat.ble (x.length + y.length) 1000000) (some (.bytes (x ++ y),H))
  | .ref i=>yR b λ j=>hL H[i]? λ x=>hL H[j]? λ y=>yB (Nat.ble (x.length + y.length) 1000000) (some (.ref H.length,H ++ [.list (x ++ y)]))
  | _=>none
 | .Mult=>yR a λ i=>yNat b λ n=>hL H[i]? λ x=>yB (Nat.ble (x.length * n) 256 && Nat.ble n 1000) (some (.ref H.length,H ++ [.list (List.replicate n x).flatten]))
 | _=>none
end
noncomputable def clampI (n : Nat) (k : Int) : Nat:=match k with
 | .ofNat m=>match Nat.ble m n with
  | true=>m
  | false=>n
 | .negSucc m=>n - (m + 1)
noncomputable def cutL {α : Type} (l : List α) (lo hi : Option Int) : List α:=
 let a:=match lo with | none=>0 | some k=>clampI l.length k
 let b:=match hi with | none=>l.length | some k=>clampI l.length k
 (l.drop a).take (b - a)
noncomputable def idxN (n : Nat) (k : Int) : Option Nat:=match k with
 | .ofNat m=>match Nat.blt m n && Nat.ble m 1000000 with
  | true=>some m
  | false=>none
 | .negSucc _=>none
noncomputable def idxS (n : Nat) (k : Int) : Option Nat:=match k with
 | .ofNat m=>match Nat.blt m n && Nat.ble m 1000000 with
  | true=>some m
  | false=>none
 | .negSucc m=>match Nat.ble (m + 1) n && Nat.ble n 1000000 with
  | true=>some (n - (m + 1))
  | false=>none
noncomputable def isWs (c : Nat) : Bool:=Nat.beq c 32
noncomputable def wordsA : List Nat -> List Nat -> List (List Nat)
 | [],w=>match w with
  | []=>[]
  | c :: r=>[(c :: r).reverse]
 | c :: l,w=>match isWs c with
  | true=>match w with
   | []=>wordsA l []
   | d :: r=>(d :: r).reverse :: wordsA l []
  | false=>wordsA l (c :: w)
noncomputable def splitA (d : Nat) : List Nat -> List Nat -> List (List Nat)
 | [],w=>[w.reverse]
 | c :: l,w=>match Nat.beq c d with
  | true=>w.reverse :: splitA d l []
  | false=>splitA d l (c :: w)
noncomputable def lowA (c : Nat) : Nat:=match Nat.ble 65 c && Nat.ble c 90 with
 | true=>c + 32
 | false=>c
noncomputable def joinA (sep : List Nat) : List (List Nat) -> List Nat
 | []=>[]
 | x :: r=>match r with
  | []=>x
  | _ :: _=>x ++ (sep ++ joinA sep r)
noncomputable def bytesOf : List V -> Option (List (List Nat))
 | []=>some []
 | v :: r=>match v with
  | .bytes l=>(bytesOf r).map (l :: ·)
  | _=>none
set_option backward.match.sparseCases false in
noncomputable def octetsOf : List V -> Option (List Nat)
 | []=>some []
 | v :: r=>match v with
  | .int (.ofNat n)=>match Nat.blt n 256 with
   | true=>(octetsOf r).map (n :: ·)
   | false=>none
  | _=>none
noncomputable def findL (x : List Nat) : List (List Nat) -> Nat -> Option Nat
 | [],_=>none
 | l :: r,i=>match leq l x with
  | true=>some i
  | false=>findL x r (i + 1)
noncomputable def findC (c : Nat) : List Nat -> Nat -> Option Nat
 | [],_=>none
 | d :: r,i=>match Nat.beq d c with
  | true=>some i
  | false=>findC c r (i + 1)
noncomputable def allM (H : Hp) : List V -> Option Bool
 | []=>some true
 | v :: r=>match truthM H v with
  | some true=>allM H r
  | some false=>some false
  | none=>none
set_option backward.match.sparseCases false in
noncomputable def pairsOf (H : Hp) : List V -> Option (List (V × V))
 | []=>some []
 | v :: r=>match v with
  | .ref n=>match H[n]? with
   | some (.tup [a,b])=>(pairsOf H r).map ((a,b) :: ·)
   | _=>none
  | _=>none
noncomputable def dputs : List (KV × V) -> List (V × V) -> Option (List (KV × V))
 | es,[]=>some es
 | es,(k,x) :: r=>match keyOf k with
  | some q=>dputs (dput q x es) r
  | none=>none
section
variable (cx : Cx)
set_option backward.match.sparseCases false in
noncomputable def getM (v i : V) (H : Hp) : Option V:=yAt (at_ cx H v) (λ o=>match o with
 | .list vs=>yInt i λ k=>(idxN vs.length k).bind (vs[·]?)
 | .tup vs=>yInt i λ k=>(idxN vs.length k).bind (vs[·]?)
 | .dict es=>(dgetM H (.dict es) i).join
 | .tdict es=>(dgetM H (.tdict es) i).join
 | _=>none) (match v with
  | .bytes l=>yInt i λ k=>((idxS l.length k).bind (l[·]?)).map λ n : Nat=>.int n
  | .str l=>yInt i λ k=>((idxN l.length k).bind (l[·]?)).map λ c=>.str [c]
  | _=>none)
set_option backward.match.sparseCases false in
noncomputable def sliceM (v : V) (lo hi st : Option Int) (H : Hp) : Option (V × Hp):=match st with
 | none=>(match v with
  | .bytes l=>yB (Nat.ble l.length 1000000) (some (.bytes (cutL l lo hi),H))
  | .str l=>yB (Nat.ble l.length 1000000) (some (.str (cutL l lo hi),H))
  | .ref n=>yAt H[n]? (λ o=>match o with
   | .list vs=>yB (Nat.ble vs.length 1000000) (some (.ref H.length,H ++ [.list (cutL vs lo hi)]))
   | .slist vs _=>yB (Nat.ble vs.length 1000000) (some (.ref H.length,H ++ [.list (cutL vs lo hi)]))
   | _=>none) none
  | _=>none)
 | some k=>(match lo with
  | none=>(match hi with
   | none=>yByt v λ l=>(match k with
    | .ofNat _=>none
    | .negSucc m=>yN m 0 (yB (Nat.ble l.length 1000000) (some (.bytes l.reverse,H))))
   | some _=>none)
  | some _=>none)
noncomputable def nm (s : String) : Str:=Str.ofString s
noncomputable def sumL : List (List Nat) -> Nat
 | []=>0
 | x :: r=>x.length + sumL r
noncomputable def strsV (l : List (List Nat)) : List V:=l.map .str
noncomputable def okWords (l : List Nat) : Bool:=Nat.ble l.length 1000000 && l.all λ c=>Nat.ble 32 c && Nat.ble c 126
inductive Rk where
 | lappend | lindex | dget | ssplit | slower | sindex | sjoin | bjoin | exc
 | inst (f : Addr)
noncomputable def pick {β : Type} : List (Str × β) -> Str -> Option β
 | [],_=>none
 | p :: r,n=>match seq n p.1 with
  | true=>some p.2
  | false=>pick r n
set_option backward.match.sparseCases false in
noncomputable def flsOf (o : MO) : Option (List (Str × V)):=match o with
 | .flds fs=>some fs
 | .cfl q _=>some (csrF [] q)
 | _=>none
noncomputable def lRk : List (Str × Rk):=[(⟨#[97,112,112,101,110,100]⟩,.lappend),(⟨#[105,110,100,101,120]⟩,.lindex)]
noncomputable def sRk : List (Str × Rk):=[(⟨#[115,112,108,105,116]⟩,.ssplit),(⟨#[108,111,119,101,114]⟩,.slower),(⟨#[105,110,100,101,120]⟩,.sindex),(⟨#[106,111,105,110]⟩,.sjoin)]
set_option backward.match.sparseCases false in
noncomputable def recvM (v : V) (name : Str) (H : Hp) : Option Rk:=match v with
 | .ref n=>yAt H[n]? (λ o=>match o with
  | .list _=>pick lRk name
  | .dict _=>pick [(⟨#[103,101,116]⟩,.dget)] name
  | .inst C d=>yAt H[d]? (λ o=>(flsOf o).bind λ fs=>yB (look name fs).isNone ((cx.meth C name).map .inst)) none
  | _=>none) none
 | .str _=>pick sRk name
 | .bytes _=>pick [(⟨#[106,111,105,110]⟩,.bjoin)] name
 | .top T=>(match T with
  | .type T=>yB (T == "Exception") (pick [(⟨#[95,95,105,110,105,116,95,95]⟩,.exc)] name)
  | _=>none)
 | _=>none
set_option backward.match.sparseCases false in
noncomputable def methM (rk : Rk) (v : V) (args : List V) (H : Hp) : Option (V × Hp):=match rk with
 | .lindex=>yR v λ n=>hL H[n]? λ vs=>yC args λ x t=>yE t (yStr x λ x=>(strsOf vs).bind λ xs=>yB (Nat.ble vs.length 1000000) ((findL x xs 0).map λ i : Nat=>(.int i,H)))
 | .dget=>yR v λ n=>hD H[n]? λ es=>yC args λ k t=>(keyOf k).bind λ q=>match t with
  | []=>some ((dfind q es).getD .none,H)
  | d :: t=>yE t (some ((dfind q es).getD d,H))
 | .ssplit=>yStr v λ l=>match args with
  | []=>yB (okWords l) (some (.ref H.length,H ++ [.list (strsV (wordsA l []))]))
  | a :: t=>yE t (yStr a λ s=>yC s λ c s=>yE s (yB (Nat.ble l.length 1000 && !anyC c l) (some (.ref H.length,H ++ [.list [.str l]]))))
 | .slower=>yStr v λ l=>yE args (yB (Nat.ble l.length 1000000 && l.all (Nat.ble · 127)) (some (.str (l.map lowA),H)))
 | .sindex=>yStr v λ l=>yC args λ d t=>yE t (yStr d λ d=>yC (Builtin.Str.occurrences ⟨⟨l⟩⟩ ⟨⟨d⟩⟩ 0 l.length 1) λ i _=>some (.int i,H))
 | .sjoin=>yStr v λ l=>yC args λ a t=>yE t (yR a λ n=>hL H[n]? λ vs=>(strsOf vs).bind λ xs=>yB (Nat.ble (sumL xs + xs.length * l.length) 1000000) (some (.str (joinA l xs),H)))
 | .bjoin=>yByt v λ l=>yC args λ a t=>yE t (yR a λ n=>hL H[n]? λ vs=>(bytesOf vs).bind λ xs=>yB (Nat.ble (sumL xs + xs.length * l.length) 1000000) (some (.bytes (joinA l xs),H)))
 | _=>none
inductive Ty where
 | none | int | bool | str | list | tuple | dict
 deriving DecidableEq
set_option backward.match.sparseCases false
noncomputable def tyM (v : V) (H : Hp) : Option Ty:=match v with
 | .none=>some .none
 | .int _=>some .int
 | .bool _=>some .bool
 | .str _=>some .str
 | .ref i=>match H[i]? with
  | some (.list _)=>some .list
  | some (.tup _)=>some .tuple
  | some (.dict _)=>some .dict
  | some (.tdict _)=>some .dict
  | _=>Option.none
 | _=>Option.none
noncomputable def hF {β : Type} (o : Option MO) (k : List (Str × V) -> Option β) : Option β:=match o with
 | some o=>(match o with
  | .flds fs=>k fs
  | _=>none)
 | none=>none
noncomputable def instOf (H : Hp) (v : V) : Option (Addr × Nat × List (Str × V)):=yR v λ n=>yAt H[n]? (λ o=>match o with
 | .inst C d=>hF H[d]? λ fs=>some (C,d,fs)
 | _=>none) none
set_option backward.match.sparseCases true
noncomputable def askT (T : String) : Option Ty:=
 if T = "int" then some .int else if T = "bool" then some .bool else if T = "list" then some .list else if T = "dict" then some .dict else none
set_option backward.match.sparseCases false in
noncomputable def isA (t : Ty) (T : Ty) : Bool:=match t,T with
 | .int,.int=>true
 | .bool,.int=>true
 | .bool,.bool=>true
 | .list,.list=>true
 | .dict,.dict=>true
 | _,_=>false
set_option backward.match.sparseCases false in
noncomputable def isiM (v : V) (H : Hp) (T : Value) : Option Bool:=match T with
 | .type n=>(askT n).bind λ T=>yAt (tyM v H) (λ t=>some (isA t T)) ((instOf H v).bind λ q=>yB (cx.isi q.1) (some false))
 | .ref C=>yAt (tyM v H) (λ _=>(cx.sub C C).map λ _=>false) ((instOf H v).bind λ q=>(cx.sub q.1 C).bind λ b=>match b with
  | true=>some true
  | false=>yB (cx.isi q.1) (yB (!Nat.beq q.1 C) (some false)))
 | _=>none
noncomputable def lenO (o : MO) : Option Nat:=match o with
 | .list vs=>some vs.length
 | .tup vs=>some vs.length
 | _=>none
noncomputable def lenM (v : V) (H : Hp) : Option Nat:=match v with
 | .str l=>some l.length
 | .bytes l=>some l.length
 | _=>(at_ cx H v).bind lenO
noncomputable def boolsOf : List V -> Option (List Bool)
 | []=>some []
 | v :: r=>match v with
  | .bool b=>(boolsOf r).map (b :: ·)
  | _=>none
noncomputable def fitC (i : Int) : Bool:=match i with
 | .ofNat n=>Nat.ble n 9223372036854775807
 | .negSucc n=>Nat.ble n 9223372036854775807
theorem fitC_eq (i : Int) : fitC i = (decide (-9223372036854775808 ≤ i) && decide (i < 9223372036854775808)):=by
 refine Bool.eq_iff_iff.mpr ?_
 simp only [Bool.and_eq_true,decide_eq_true_eq,decide_eq_true_eq]
 cases i with
 | ofNat n=>
  refine (Iff.of_eq Nat.ble_eq).trans ?_
  rw [show Int.ofNat n = (n : Int) from rfl]
  omega
 | negSucc n=>
  refine (Iff.of_eq Nat.ble_eq).trans ?_
  omega
noncomputable def rS (a b c : Int) : Bool:=fitC a && fitC b && fitC c && fitC (Builtin.Range.rangeSize a b c) && (Builtin.Range.rangeSize a b c == 0 || if c > 0 then fitC (b + (c - 1)) else fitC (b + (c + 1)))
theorem rS_eq (a b c : Int) : rS a b c = Builtin.Range.small a b c:=by unfold rS; simp only [fitC_eq]; kernel_rfl
set_option backward.match.sparseCases false in
noncomputable def iterM (v : V) (H : Hp) : Option MO:=match v with
 | .ref n=>yAt H[n]? (λ o=>match o with
  | .list _=>some (.litr n 0)
  | .tup _=>some (.titr n 0)
  | .rng a b c=>yB (rS a b c) (some (.ritr a (Builtin.Range.rangeSize a b c) c))
  | _=>none) none
 | .bytes l=>some (.bitr l 0)
 | .str l=>some (.sitr l 0)
 | _=>none
set_option backward.match.sparseCases false in
noncomputable def nextM (it : MO) (H : Hp) : Option (Option (V × MO)):=match it with
 | .litr n i=>hL H[n]? λ vs=>some ((vs[i]?).map λ v=>(v,.litr n (i + 1)))
 | .titr n i=>hT H[n]? λ vs=>some ((vs[i]?).map λ v=>(v,.titr n (i + 1)))
 | .ritr c left st=>match decide (0 < left) with
  | true=>some (some (.int c,.ritr (c + st) (left - 1) st))
  | false=>some none
 | .bitr l i=>some ((l[i]?).map λ n=>(.int n,.bitr l (i + 1)))
 | .sitr l i=>some ((l[i]?).map λ c=>(.str [c],.sitr l (i + 1)))
 | _=>none
end
noncomputable def ownN (x : Str) : Bool:=seq x ⟨#[95,95,100,101,98,117,103,95,95]⟩ || seq x ⟨#[95,95,99,108,97,115,115,100,105,99,116,95,95]⟩
set_option backward.match.sparseCases false
noncomputable def loadM (cx : Cx) (sc : Scope) (x : Str) (φ : Nm) (H : Hp) : Option V:=match look x sc.names with
 | some k=>match k with
  | .local=>match look x φ,ownN x with
   | some (.loc v),false=>some v
   | _,_=>none
  | .cell=>match ownN x with
   | false=>inCell (look x φ) H
   | true=>none
  | .free=>match ownN x with
   | false=>inCell (look x φ) H
   | true=>none
  | .globalImplicit=>cx.glob x
  | .globalExplicit=>none
 | none=>none
where
 inCell (b : Option Bd) (H : Hp) : Option V:=match b with
  | some (.cel n)=>match H[n]? with
   | some (.cell (some v))=>some v
   | _=>none
  | _=>none
noncomputable def storeM (sc : Scope) (x : Str) (v : V) (φ : Nm) (H : Hp) : Option (Nm × Hp):=match look x sc.names with
 | some k=>match k with
  | .local=>some (setN x (.loc v) φ,H)
  | .cell=>match look x φ with
   | some (.cel n)=>match H[n]? with
    | some (.cell _)=>some (φ,H.set n (.cell (some v)))
    | _=>none
   | _=>none
  | _=>none
 | none=>none
noncomputable def cellsM : List (Str × NameKind) -> Nm -> Hp -> Nm × Hp
 | [],φ,H=>(φ,H)
 | (x,k) :: r,φ,H=>match k with
  | .cell=>cellsM r ((x,.cel H.length) :: φ) (H ++ [.cell none])
  | _=>cellsM r φ H
set_option backward.match.sparseCases true
noncomputable def bindM (sc : Scope) : List Str -> List V -> Nm -> Hp -> Option (Nm × Hp)
 | [],vs,φ,H=>match vs with
  | []=>some (φ,H)
  | _ :: _=>none
 | x :: xs,vs,φ,H=>match vs with
  | []=>none
  | v :: vs=>match storeM sc x v φ H with
   | some (φ',H')=>bindM sc xs vs φ' H'
   | none=>none
noncomputable def fullM (fi : FnI) (args : List V) : Option (List V):=
 let k:=fi.params.length
 match Nat.ble args.length k && Nat.ble (k - args.length) fi.dflts.length with
 | true=>some (args ++ fi.dflts.drop (fi.dflts.length - (k - args.length)))
 | false=>none
noncomputable def enterM (fi : FnI) (args : List V) (H : Hp) : Option (Nm × Hp):=match fullM fi args with
 | some vs=>match cellsM fi.scope.names [] H with
  | (φ,H')=>bindM fi.scope fi.params vs φ H'
 | none=>none
set_option backward.match.sparseCases false
noncomputable def freeM : List (Str × NameKind) -> Nm -> Option Nm
 | [],_=>some []
 | (x,k) :: r,φ=>match k with
  | .free=>match look x φ with
   | some (.cel n)=>(freeM r φ).map ((x,.cel n) :: ·)
   | _=>none
  | _=>freeM r φ
noncomputable def excOf (H : Hp) (v : V) : Option (Addr × Nat × List (Str × V)):=yR v λ n=>yAt H[n]? (λ o=>match o with
 | .exc C d _=>(match d with
  | some d=>hF H[d]? λ fs=>some (C,d,fs)
  | none=>none)
 | _=>none) none
noncomputable def cflOf (H : Hp) (v : V) : Option (Addr × Nat × List (Str × V)):=yR v λ n=>yAt H[n]? (λ o=>match o with
 | .inst C d=>yAt H[d]? (λ o=>match o with
  | .cfl q _=>some (C,d,[(⟨⟨[97,116]⟩⟩,.int q)])
  | _=>none) none
 | _=>none) none
set_option backward.match.sparseCases true
noncomputable def fieldsOf (H : Hp) (v : V) : Option (Addr × Nat × List (Str × V)):=match instOf H v with
 | some r=>some r
 | none=>match excOf H v with
  | some r=>some r
  | none=>cflOf H v
set_option backward.match.sparseCases false in
noncomputable def plainV : V -> Bool
 | .top (.builtin _)=>false
 | _=>true
set_option backward.match.sparseCases false in
noncomputable def freshOf (H : Hp) (v : V) : Option (Nat × Addr):=yR v λ n=>yAt H[n]? (λ o=>match o with
 | .exc C d x=>(match d with
  | none=>(match x with
   | .new=>some (n,C)
   | _=>none)
  | some _=>none)
 | _=>none) none
noncomputable def putF (x : Str) (v : V) : List (Str × V) -> List (Str × V)
 | []=>[(x,v)]
 | (y,w) :: r=>match seq x y with
  | true=>(y,v) :: r
  | false=>(y,w) :: putF x v r
set_option backward.match.sparseCases false
noncomputable def starE : Expr -> Bool
 | .Starred ..=>true
 | _=>false
noncomputable def baseE : Expr -> Bool
 | .Call (.Name _ _) [] [] _=>false
 | _=>true
noncomputable def setE : Expr -> Bool
 | .Set ..=>true
 | _=>false
noncomputable def compE : Expr -> Bool
 | .ListComp ..=>true
 | .SetComp ..=>true
 | .DictComp ..=>true
 | _=>false
noncomputable def listE : Expr -> Bool
 | .List ..=>true
 | _=>false
noncomputable def tlE : Expr -> Bool
 | .Tuple ..=>true
 | .List ..=>true
 | _=>false
noncomputable def swapE (t x : Expr) : Bool:=match x with
 | .SetComp ..=>true
 | .DictComp ..=>true
 | .Tuple ..=>tlE t
 | _=>listE t
set_option backward.match.sparseCases true
section
variable {Ω : Type} (no : Ω)
noncomputable def optK {α : Type} (o : Option α) (k : α -> Ω) : Ω:=match o with
 | some a=>k a
 | none=>no
set_option backward.match.sparseCases false in
noncomputable def intM (op : Operator) (x y : Int) : Option Int:=match op with
 | .Add=>some (x + y)
 | .Sub=>some (x - y)
 | .Mult=>yB (Nat.ble y.natAbs 9223372036854775807) (some (x * y))
 | .FloorDiv=>yB (decide (0 < y) && Nat.ble y.natAbs 1000000000) (some (Int.fdiv x y))
 | .Mod=>yB (decide (0 < y)) (some (Int.fmod x y))
 | _=>none
noncomputable def binE (op : Operator) (a b : V) (H : Hp) (K : V -> Hp -> Ω) : Ω:=match a with
 | .int x=>match b with
  | .int y=>optK no (intM op x y) λ i=>K (.int i) H
  | _=>no
 | a=>optK no (binopM op a b H) λ q=>K q.1 q.2
set_option backward.match.sparseCases false in
noncomputable def setE' (v i x : V) (H : Hp) (K : Hp -> Ω) : Ω:=match v with
 | .ref n=>match H[n]? with
  | some o=>(match o with
   | .list vs=>(match i with
    | .int k=>optK no (idxN vs.length k) λ j=>K (H.set n (.list (vs.set j x)))
    | _=>no)
   | .dict es=>optK no (dsetM H (.dict es) i x) λ o=>K (H.set n o)
   | .tdict es=>optK no (dsetM H (.tdict es) i x) λ o=>K (H.set n o)
   | _=>no)
  | none=>no
 | _=>no
noncomputable def sliceE (v : V) (a b c : Option Int) (H : Hp) (K : V -> Hp -> Ω) : Ω:=match v with
 | .bytes l=>match c with
  | some (.negSucc 0)=>match a with
   | none=>match b with
    | none=>match Nat.ble l.length 1000000 with
     | true=>K (.bytes l.reverse) H
     | false=>no
    | some _=>no
   | some _=>no
  | c=>optK no (sliceM (.bytes l) a b c H) λ q=>K q.1 q.2
 | v=>optK no (sliceM v a b c H) λ q=>K q.1 q.2
noncomputable def dicF (i : Int) : List (Int × List Nat) -> Option (List Nat)
 | []=>none
 | e :: r=>match e.1 == i with
  | true=>some e.2
  | false=>dicF i r
set_option backward.match.sparseCases false in
noncomputable def getE (cx : Cx) (v i : V) (H : Hp) (K : V -> Hp -> Ω) : Ω:=match v with
 | .ref n=>match H[n]? with
  | some (.rf q)=>match i with
   | .int k=>match q with
    | .ints l=>optK no (idxN l.length k) λ j=>optK no (l[j]?) λ x=>K (.int x) H
    | .strs l=>optK no (idxN l.length k) λ j=>optK no (l[j]?) λ x=>K (.str x) H
    | .dic es=>optK no (dicF k es) λ x=>K (.str x) H
    | .sl _ _=>no
   | _=>no
  | _=>optK no (getM cx v i H) λ r=>K r H
 | _=>optK no (getM cx v i H) λ r=>K r H
noncomputable def gB (b : Bool) (x : Ω) : Ω:=match b with
 | true=>x
 | false=>no
noncomputable def bltLen (cx : Cx) (v : V) (H : Hp) (K : V -> Hp -> Ω) : Ω:=optK no (lenM cx v H) λ n=>gB no (Nat.ble n 1000000) (K (.int n) H)
noncomputable def bltAbs (v : V) (H : Hp) (K : V -> Hp -> Ω) : Ω:=match v with
 | .int i=>K (.int (if i < 0 then -i else i)) H
 | _=>no
noncomputable def bltChr (v : V) (H : Hp) (K : V -> Hp -> Ω) : Ω:=match v with
 | .int i=>(match i with
  | .ofNat n=>gB no (Nat.ble n 1114111) (K (.str [n]) H)
  | .negSucc _=>no)
 | _=>no
noncomputable def bltOrd (v : V) (H : Hp) (K : V -> Hp -> Ω) : Ω:=match v with
 | .str l=>(match l with
  | c :: r=>(match r with
   | []=>K (.int c) H
   | _ :: _=>no)
  | []=>no)
 | _=>no
noncomputable def bltAll (v : V) (H : Hp) (K : V -> Hp -> Ω) : Ω:=match v with
 | .ref n=>optK no (hL H[n]? boolsOf) λ bs=>gB no (Nat.ble bs.length 1000000) (K (.bool (bs.all λ b=>b)) H)
 | _=>no
noncomputable def blt4 (id : String) (v : V) (H : Hp) (K : V -> Hp -> Ω) : Ω:=if id = "all" then bltAll no v H K else no
noncomputable def blt3 (id : String) (v : V) (H : Hp) (K : V -> Hp -> Ω) : Ω:=if id = "ord" then bltOrd no v H K else blt4 no id v H K
noncomputable def blt2 (id : String) (v : V) (H : Hp) (K : V -> Hp -> Ω) : Ω:=if id = "chr" then bltChr no v H K else blt3 no id v H K
noncomputable def blt1 (id : String) (v : V) (H : Hp) (K : V -> Hp -> Ω) : Ω:=if id = "abs" then bltAbs no v H K else blt2 no id v H K
noncomputable def bltA (cx : Cx) (id : String) (v : V) (H : Hp) (K : V -> Hp -> Ω) : Ω:=if id = "len" then bltLen no cx v H K else blt1 no id v H K
noncomputable def tyA (T : String) (v : V) (H : Hp) (K : V -> Hp -> Ω) : Ω:=
 if T = "int" then (match v with
  | .int i=>K (.int i) H
  | .str l=>(match Nat.ble l.length 100 with
   | true=>optK no (PySem.intText? ⟨⟨l⟩⟩) λ n=>K (.int n) H
   | false=>no)
  | _=>no)
 else if T = "range" then (match v with
  | .int n=>K (.ref H.length) (H ++ [.rng 0 n 1])
  | _=>no)
 else match v with
  | .ref n=>optK no (hL H[n]? some) λ vs=>
   if T = "list" then (match Nat.ble vs.length 1000000 with
    | true=>K (.ref H.length) (H ++ [.list vs])
    | false=>no)
   else if T = "bytes" then (match Nat.ble vs.length 1000000 with
    | true=>optK no (octetsOf vs) λ l=>K (.bytes l) H
    | false=>no)
   else if T = "dict" then (match Nat.ble vs.length 100 with
    | true=>optK no ((pairsOf H vs).bind λ ps=>dputs [] ps) λ es=>K (.ref H.length) (H ++ [.dict es])
    | false=>no)
   else no
  | _=>no
set_option backward.match.sparseCases false in
noncomputable def builtE (cx : Cx) (f : Value) (args : List V) (H : Hp) (K : V -> Hp -> Ω) : Ω:=match f with
 | .builtin id=>(match args with
  | []=>no
  | v :: t=>(match t with
   | []=>bltA no cx id v H K
   | T :: t=>(match t with
    | []=>if id = "isinstance" then (match T with
      | .top T=>optK no (isiM cx v H T) λ b=>K (.bool b) H
      | _=>no) else no
    | _ :: _=>no)))
 | .type T=>(match args with
  | []=>no
  | v :: t=>(match t with
   | []=>tyA no T v H K
   | b :: t=>if T = "range" then (match v with
    | .int a=>(match b with
     | .int b=>(match t with
      | []=>K (.ref H.length) (H ++ [.rng a b 1])
      | c :: t=>(match t with
       | []=>(match c with
        | .int c=>(match decide (0 < c) && Nat.ble c.natAbs 1000000 with
         | true=>K (.ref H.length) (H ++ [.rng a b c])
         | false=>no)
        | _=>no)
       | _ :: _=>no))
     | _=>no)
    | _=>no) else no))
 | _=>no
noncomputable def evs (e : Expr -> Hp -> (V -> Hp -> Ω) -> Ω) : List Expr -> Hp -> (List V -> Hp -> Ω) -> Ω
 | [],H,K=>K [] H
 | x :: r,H,K=>match starE x with
  | true=>no
  | false=>e x H λ v H'=>evs e r H' λ vs H''=>K (v :: vs) H''
noncomputable def boolV (e : Expr -> Hp -> (V -> Hp -> Ω) -> Ω) (op : BoolOp) : List Expr -> Hp -> (V -> Hp -> Ω) -> Ω
 | [],_,_=>no
 | x :: r,H,K=>match r with
  | []=>e x H K
  | _ :: _=>e x H λ v H'=>optK no (truthM H' v) λ b=>match op with
   | .And=>match b with
    | true=>boolV e op r H' K
    | false=>K v H'
   | .Or=>match b with
    | true=>K v H'
    | false=>boolV e op r H' K
noncomputable def boolT (t : Expr -> Hp -> (Bool -> Hp -> Ω) -> Ω) (op : BoolOp) : List Expr -> Hp -> (Bool -> Hp -> Ω) -> Ω
 | [],H,K=>match op with
  | .And=>K true H
  | .Or=>K false H
 | x :: r,H,K=>t x H λ b H'=>match op with
  | .And=>match b with
   | true=>boolT t op r H' K
   | false=>K false H'
  | .Or=>match b with
   | true=>K true H'
   | false=>boolT t op r H' K
set_option backward.match.sparseCases false in
noncomputable def chainV (cx : Cx) (e : Expr -> Hp -> (V -> Hp -> Ω) -> Ω) (v : V) : List CmpOp -> List Expr -> Hp -> (Bool -> Hp -> Ω) -> Ω
 | [],_,_,_=>no
 | op :: ops,cs,H,K=>match cs with
  | []=>no
  | x :: r=>gB no (!setE x) <| match ops,r with
   | [],[]=>e x H λ u H'=>optK no (cmpM cx op v u H') λ b=>K b H'
   | _ :: _,_ :: _=>e x H λ u H'=>optK no (cmpM cx op v u H') λ b=>match b with
    | true=>chainV cx e u ops r H' K
    | false=>K false H'
   | _,_=>no
noncomputable def runSs (s : Nm -> Stmt -> Hp -> (Fl -> Nm -> Hp -> Ω) -> Ω) : List Stmt -> Nm -> Hp -> (Fl -> Nm -> Hp -> Ω) -> Ω
 | [],φ,H,K=>K .next φ H
 | st :: r,φ,H,K=>s φ st H λ fl φ' H'=>match fl with
  | .next=>runSs s r φ' H' K
  | .ret v=>K (.ret v) φ' H'
  | .brk=>K .brk φ' H'
  | .cont=>K .cont φ' H'
set_option backward.match.sparseCases false in
noncomputable def pairsE (e : Expr -> Hp -> (V -> Hp -> Ω) -> Ω) : List (Option Expr) -> List Expr -> Hp -> (List (V × V) -> Hp -> Ω) -> Ω
 | [],vs,H,K=>match vs with
  | []=>K [] H
  | _ :: _=>no
 | k :: ks,vs,H,K=>match k,vs with
  | some k,v :: vs=>e k H λ kv H1=>e v H1 λ vv H2=>pairsE e ks vs H2 λ ps H3=>K ((kv,vv) :: ps) H3
  | _,_=>no
noncomputable def partE (e : Expr -> Hp -> (V -> Hp -> Ω) -> Ω) (o : Option Expr) (H : Hp) (K : Option Int -> Hp -> Ω) : Ω:=match o with
 | none=>K none H
 | some x=>e x H λ v H'=>match v with
  | .int i=>K (some i) H'
  | .none=>K none H'
  | _=>no
set_option backward.match.sparseCases false in
noncomputable def names1 (sc : Scope) : List Expr -> List V -> Nm -> Hp -> Option (Nm × Hp)
 | [],vs,φ,H=>match vs with
  | []=>some (φ,H)
  | _ :: _=>none
 | t :: ts,vs,φ,H=>match t,vs with
  | .Name x _,v :: vs=>match storeM sc x v φ H with
   | some (φ',H')=>names1 sc ts vs φ' H'
   | none=>none
  | _,_=>none
noncomputable def itemsM (H : Hp) (v : V) : Option (List V):=yR v λ n=>hT H[n]? some
structure Ev (Ω : Type) where
 e : Fc -> Nm -> Expr -> Hp -> (V -> Hp -> Ω) -> (Nat -> Hp -> Ω) -> Ω
 t : Fc -> Nm -> Expr -> Hp -> (Bool -> Hp -> Ω) -> (Nat -> Hp -> Ω) -> Ω
 s : Fc -> Nm -> Stmt -> Hp -> (Fl -> Nm -> Hp -> Ω) -> (Nat -> Nm -> Hp -> Ω) -> Ω
 c : Nat -> Option Nat -> V -> List V -> Hp -> (V -> Hp -> Ω) -> (Nat -> Hp -> Ω) -> Ω
 w : Fc -> Nm -> Expr -> List Stmt -> Hp -> (Fl -> Nm -> Hp -> Ω) -> (Nat -> Nm -> Hp -> Ω) -> Ω
 f : Fc -> Nm -> Expr -> Nat -> List Stmt -> Hp -> (Fl -> Nm -> Hp -> Ω) -> (Nat -> Nm -> Hp -> Ω) -> Ω
 l : Fc -> Nm -> Str -> List Expr -> Expr -> Nat -> Nat -> Hp -> (Hp -> Ω) -> Ω
variable (cx : Cx) (ih : Ev Ω)
set_option backward.match.sparseCases false
noncomputable def callM : V -> Bool
 | .top (.ref a)=>(cx.fn a).isSome || ((cx.cls a).isSome || (cx.exc a).isSome)
 | .top (.builtin _)=>true
 | .top (.type _)=>true
 | _=>false
noncomputable def excInit (vs : List V) (H : Hp) : Bool:=match vs with
 | [.ref n,_]=>match H[n]? with
  | some (.exc C _ .new)=>cx.xcls C
  | _=>false
 | _=>false
noncomputable def kLoc : NameKind -> Bool
 | .local=>true
 | _=>false
set_option backward.match.sparseCases true
noncomputable def kCel : NameKind -> Bool
 | .cell=>true
 | _=>false
set_option backward.match.sparseCases false in
noncomputable def compOk (sc : Scope) : Bool:=(match sc.kind with | .function=>true | _=>false) && sc.names.all λ y=>!kCel y.2 && (!kLoc y.2 || (match look y.1 sc.names with | some k=>kLoc k | none=>false))
set_option backward.match.sparseCases false in
noncomputable def constV : Const -> Option V
 | .none=>some .none
 | .bool b=>some (.bool b)
 | .int i=>some (.int i)
 | .str s=>some (.str s.cps.toList)
 | .bytes b=>some (.bytes (b.map UInt8.toNat))
 | _=>none
noncomputable def appE (ov : V) (vs : List V) (H : Hp) (K : V -> Hp -> Ω) : Ω:=match ov with
 | .ref n=>optK no (hL H[n]? some) λ l=>(match vs with
  | []=>no
  | x :: t=>(match t with
   | []=>(match Nat.ble l.length 1000000 with
    | true=>K .none (H.set n (.list (l ++ [x])))
    | false=>no)
   | _ :: _=>no))
 | _=>no
noncomputable def methC (rk : Rk) (ov : V) (vs : List V) (H : Hp) (K : V -> Hp -> Ω) : Ω:=match rk with
 | .lappend=>appE no ov vs H K
 | rk=>optK no (methM rk ov vs H) λ r=>K r.1 r.2
noncomputable def methE (d : Nat) (hd : Option Nat) (rk : Rk) (ov : V) (vs : List V) (H : Hp) (K : V -> Hp -> Ω) (X : Nat -> Hp -> Ω) : Ω:=match rk with
 | .inst f=>ih.c d hd (.top (.ref f)) (ov :: vs) H K X
 | .exc=>match excInit cx vs H with
  | true=>K .none H
  | false=>no
 | rk=>match hd with
  | none=>methC no rk ov vs H K
  | some _=>no
noncomputable def raiseN (cx : Cx) (v : V) (H : Hp) : Option (Nat × Addr × Option Nat):=yR v λ n=>yAt H[n]? (λ o=>match o with
 | .exc C d xf=>(match xf with
  | .new=>yB (cx.xcls C) (some (n,C,d))
  | _=>none)
 | _=>none) none
noncomputable def plainO (o : MO) : Bool:=match o with
 | .exc _ _ xf=>(match xf with
  | .plain=>true
  | _=>false)
 | _=>false
noncomputable def raiseE (fc : Fc) (X : Nat -> Nm -> Hp -> Ω) (n : Nat) (C : Addr) (d : Option Nat) (φ : Nm) (H : Hp) : Ω:=match fc.h with
 | none=>X n φ (H.set n (.exc C d .plain))
 | some i=>match H[i]? with
  | some o=>gB no (plainO o) (X n φ (H.set n (.exc C d .ctx)))
  | none=>no
set_option backward.match.sparseCases false in
noncomputable def natC (x : Expr) : Option Nat:=match x with
 | .Constant c _ _=>(match c with
  | .int i=>(match i with
   | .ofNat n=>some n
   | .negSucc _=>none)
  | _=>none)
 | _=>none
noncomputable def nameOf (x : Expr) : Option Str:=match x with
 | .Name n _=>some n
 | _=>none
set_option backward.match.sparseCases false in
noncomputable def subOf (x : Expr) : Option (Expr × Expr):=match x with
 | .Subscript o i _=>some (o,i)
 | _=>none
noncomputable def gen1 (gs : List Comprehension) : Option (Str × Expr × List Expr):=yC gs λ c r=>yE r ((nameOf c.target).bind λ x=>yB (c.is_async == 0) (some (x,c.iter,c.ifs)))
noncomputable def hnd1 (hs : List ExceptHandler) : Option (Str × Option Str × List Stmt):=yC hs λ h r=>yE r (match h with
 | .ExceptHandler t n hb _=>(t.bind nameOf).bind λ c=>some (c,n,hb))
set_option backward.match.sparseCases false
noncomputable def eStep (fc : Fc) (φ : Nm) (x : Expr) (H : Hp) (K : V -> Hp -> Ω) (X : Nat -> Hp -> Ω) : Ω:=
 let e:=λ x H K=>ih.e fc φ x H K X
 match x with
 | .Constant c _ _=>optK no (constV c) λ v=>K v H
 | .Name x _=>optK no (loadM cx fc.sc x φ H) λ v=>K v H
 | .BoolOp op vs _=>boolV no e op vs H K
 | .BinOp l op r _=>match op with
  | .Pow=>optK no (natC l) λ m=>optK no (natC r) λ n=>gB no (Nat.ble n 1000 && Nat.ble m 10) (K (.int (.ofNat (m ^ n))) H)
  | op=>e l H λ a H1=>e r H1 λ b H2=>binE no op a b H2 K
 | .UnaryOp op x _=>match op with
  | .USub=>e x H λ v H1=>match v with
   | .int i=>K (.int (-i)) H1
   | _=>no
  | .Not=>e x H λ v H1=>optK no (truthM H1 v) λ b=>K (.bool (!b)) H1
  | _=>no
 | .IfExp t b o _=>ih.t fc φ t H (λ q H1=>match q with
  | true=>e b H1 K
  | false=>e o H1 K) X
 | .Dict ks vs _=>gB no (Nat.ble ks.length 15 && (Nat.beq ks.length vs.length && ks.all Option.isSome)) <|
  pairsE no e ks vs (H ++ [.dict []]) λ ps H1=>optK no (dputs [] ps) λ es=>optK no (hD H1[H.length]? λ es0=>yE es0 (some ())) λ _=>K (.ref H.length) (H1.set H.length (.dict es))
 | .List xs _=>evs no e xs H λ vs H1=>gB no (Nat.ble vs.length 1000) (K (.ref H1.length) (H1 ++ [.list vs]))
 | .Tuple xs _ _=>evs no e xs H λ vs H1=>gB no (Nat.ble vs.length 1000) (K (.ref H1.length) (H1 ++ [.tup vs]))
 | .ListComp elt gs sc _=>match fc.h with
  | none=>optK no (gen1 gs) λ q=>gB no (compOk sc && !setE q.2.1) <| optK no (freeM sc.names φ) λ φc=>e q.2.1 H λ v H1=>optK no (iterM v H1) λ it=>
    ih.l ⟨sc,fc.d,none⟩ φc q.1 q.2.2 elt H1.length (H1.length + 1) (H1 ++ [it,.list []]) (λ H2=>K (.ref (H1.length + 1)) H2)
  | some _=>no
 | .Compare l ops cs _=>e l H λ v H1=>chainV no cx e v ops cs H1 λ b H2=>K (.bool b) H2
 | .Call f args ks pos=>match ks,args.all (λ x=>!starE x) with
  | [],true=>match f with
   | .Attribute o name apos=>match baseE o && (apos.endLine == pos.line && Nat.ble args.length 20) with
    | true=>e o H λ ov H1=>optK no (recvM cx ov name H1) λ rk=>evs no e args H1 λ vs H2=>methE no cx ih fc.d fc.h rk ov vs H2 K X
    | false=>no
   | .Name x p=>e (.Name x p) H λ fv H1=>match callM cx fv with
    | true=>evs no e args H1 λ vs H2=>ih.c fc.d fc.h fv vs H2 K X
    | false=>no
   | _=>no
  | _,_=>no
 | .Attribute o name _=>match baseE o with
  | true=>e o H λ v H1=>optK no (fieldsOf H1 v) λ fs=>match cx.attr fs.1 name with
   | true=>optK no (look name fs.2.2) λ r=>match plainV r with
    | true=>K r H1
    | false=>no
   | false=>no
  | false=>no
 | .Subscript o i _=>match i with
  | .Slice lo hi st _=>e o H λ v H1=>partE no e lo H1 λ a H2=>partE no e hi H2 λ b H3=>partE no e st H3 λ c H4=>sliceE no v a b c H4 K
  | i=>e o H λ v H1=>e i H1 λ k H2=>getE no cx v k H2 K
 | _=>no
noncomputable def tStep (fc : Fc) (φ : Nm) (x : Expr) (H : Hp) (K : Bool -> Hp -> Ω) (X : Nat -> Hp -> Ω) : Ω:=match x with
 | .UnaryOp op y p=>match op with
  | .Not=>ih.t fc φ y H (λ b H1=>K (!b) H1) X
  | op=>ih.e fc φ (.UnaryOp op y p) H (λ v H1=>optK no (truthM H1 v) λ b=>K b H1) X
 | .BoolOp op vs _=>boolT (λ x H K=>ih.t fc φ x H K X) op vs H K
 | .IfExp t b o _=>ih.t fc φ t H (λ q H1=>match q with
  | true=>ih.t fc φ b H1 K X
  | false=>ih.t fc φ o H1 K X) X
 | .Compare l ops cs _=>ih.e fc φ l H (λ v H1=>chainV no cx (λ x H K=>ih.e fc φ x H K X) v ops cs H1 K) X
 | x=>ih.e fc φ x H (λ v H1=>optK no (truthM H1 v) λ b=>K b H1) X
noncomputable def assignE (fc : Fc) (φ : Nm) (t : Expr) (v : V) (H : Hp) (K : Nm -> Hp -> Ω) (X : Nat -> Hp -> Ω) : Ω:=
 let e:=λ x H K=>ih.e fc φ x H K X
 match t with
 | .Name x _=>optK no (storeM fc.sc x v φ H) λ q=>K q.1 q.2
 | .Attribute o name _=>e o H λ ov H1=>match freshOf H1 ov with
  | some (n,C)=>match cx.xset C name with
   | true=>K φ ((H1.set n (.exc C (some H1.length) .new)) ++ [.flds [(name,v)]])
   | false=>no
  | none=>match instOf H1 ov with
   | some (C,d,fs)=>match cx.sets C name,Nat.ble fs.length 100 with
    | true,true=>K φ (H1.set d (.flds (putF name v fs)))
    | _,_=>no
   | none=>optK no (excOf H1 ov) λ fs=>match cx.xset fs.1 name,Nat.ble fs.2.2.length 100 with
    | true,true=>K φ (H1.set fs.2.1 (.flds (putF name v fs.2.2)))
    | _,_=>no
 | .Subscript o i _=>match i with
  | .Slice ..=>no
  | i=>e o H λ ov H1=>e i H1 λ k H2=>setE' no ov k v H2 λ H3=>K φ H3
 | .Tuple ts _ _=>match fc.h with
  | some _=>no
  | none=>optK no (itemsM H v) λ vs=>match Nat.beq ts.length vs.length && ts.all (λ t=>!starE t) with
   | true=>tups ts vs φ H K
   | false=>no
 | _=>no
where
 tups : List Expr -> List V -> Nm -> Hp -> (Nm -> Hp -> Ω) -> Ω
  | [],vs,φ,H,K=>match vs with
   | []=>K φ H
   | _ :: _=>no
  | t :: ts,vs,φ,H,K=>match vs with
   | []=>no
   | v :: vs=>match nameOf t with
    | some x=>optK no (storeM fc.sc x v φ H) λ q=>tups ts vs q.1 q.2 K
    | none=>optK no (subOf t) λ q=>optK no (nameOf q.1) λ _=>optK no (nameOf q.2) λ _=>ih.e fc φ q.1 H (λ ov H1=>ih.e fc φ q.2 H1 (λ k H2=>setE' no ov k v H2 λ H3=>tups ts vs φ H3 K) λ _ _=>no) λ _ _=>no
set_option backward.match.sparseCases true
noncomputable def excD (H : Hp) (x : Nat) : Option Addr:=match H[x]? with
 | some o=>(match o with
  | .exc D _ _=>some D
  | _=>none)
 | none=>none
noncomputable def locN (y : Str) (fc : Fc) : Bool:=match look y fc.sc.names with
 | some k=>kLoc k
 | none=>false
set_option backward.match.sparseCases false in
noncomputable def excC (cx : Cx) (fc : Fc) (c : Str) : Option Addr:=match look c fc.sc.names with
 | some k=>(match k with
  | .globalImplicit=>(match cx.glob c with
   | some v=>(match v with
    | .top u=>(match u with
     | .ref C=>some C
     | _=>none)
    | _=>none)
   | none=>none)
  | _=>none)
 | none=>none
noncomputable def tryX (fc : Fc) (c : Str) (n : Option Str) (hb : List Stmt) (K : Fl -> Nm -> Hp -> Ω) (X : Nat -> Nm -> Hp -> Ω) (x : Nat) (φ1 : Nm) (H1 : Hp) : Ω:=optK no (excC cx fc c) λ C=>optK no (excD H1 x) λ D=>
 match cx.sub D C with
 | some b=>gB no (b && (cx.xcls D && cx.xcls C)) (match n with
  | none=>runSs (λ φ st H K=>ih.s { fc with h:=some x } φ st H K X) hb φ1 H1 K
  | some y=>gB no (locN y fc) (runSs (λ φ st H K=>ih.s { fc with h:=some x } φ st H K λ n _ H=>X n [] H) hb (setN y (.loc (.ref x)) φ1) H1 λ _ _ _=>no))
 | none=>no
set_option backward.match.sparseCases false in
noncomputable def sStep (fc : Fc) (φ : Nm) (st : Stmt) (H : Hp) (K : Fl -> Nm -> Hp -> Ω) (X : Nat -> Nm -> Hp -> Ω) : Ω:=
 let e:=λ x H K=>ih.e fc φ x H K λ n H=>X n φ H
 let ss:=λ l φ H=>runSs (λ φ st H K=>ih.s fc φ st H K X) l φ H K
 match st with
 | .Expr x _=>gB no (!compE x) <| e x H λ _ H1=>K .next φ H1
 | .Pass _=>K .next φ H
 | .Break _=>K .brk φ H
 | .Continue _=>K .cont φ H
 | .Return o _=>match o with
  | none=>K (.ret .none) φ H
  | some x=>e x H λ v H1=>K (.ret v) φ H1
 | .Assign ts x _=>match ts with
  | t :: r=>(match r with
   | []=>gB no (!swapE t x && !starE t) <| e x H λ v H1=>assignE no cx ih fc φ t v H1 (λ φ' H2=>K .next φ' H2) λ n H=>X n φ H
   | _ :: _=>no)
  | []=>no
 | .If t b o _=>ih.t fc φ t H (λ q H1=>match q with
  | true=>ss b φ H1
  | false=>ss o φ H1) λ n H=>X n φ H
 | .While t b o _=>match o with
  | []=>ih.w fc φ t b H K X
  | _ :: _=>no
 | .For t it b o _=>match fc.h with
  | none=>(match o with
   | []=>gB no (!setE it) <| e it H λ v H1=>optK no (iterM v H1) λ i=>ih.f fc φ t H1.length b (H1 ++ [i]) K X
   | _ :: _=>no)
  | some _=>no
 | .Raise x c _=>match x with
  | some x=>(match c with
   | none=>e x H λ v H1=>optK no (raiseN cx v H1) λ q=>raiseE no fc X q.1 q.2.1 q.2.2 φ H1
   | some _=>no)
  | none=>no
 | .Try b hs o f _=>optK no (hnd1 hs) λ q=>match o with
  | []=>(match f with
   | []=>(match q.2.2 with
    | []=>no
    | b₀ :: bs=>runSs (λ φ st H K'=>ih.s fc φ st H K' (tryX no cx ih fc q.1 q.2.1 (b₀ :: bs) K X)) b φ H K)
   | _ :: _=>no)
  | _ :: _=>no
 | _=>no
noncomputable def cStep (d : Nat) (hd : Option Nat) (f : V) (args : List V) (H : Hp) (K : V -> Hp -> Ω) (X : Nat -> Hp -> Ω) : Ω:=match f with
 | .top (.ref a)=>match d with
  | 0=>no
  | d + 1=>match cx.fn a with
   | some fi=>optK no (enterM fi args H) λ q=>
     runSs (λ φ st H K=>ih.s ⟨fi.scope,d,hd⟩ φ st H K λ n _ H=>X n H) fi.body q.1 q.2 λ fl _ H'=>match fl with
      | .ret v=>K v H'
      | .next=>K .none H'
      | _=>no
   | none=>match cx.cls a with
    | some init=>ih.c d hd (.top (.ref init)) (.ref (H.length + 1) :: args) (H ++ [.flds [],.inst a H.length]) (λ v H'=>match v with
     | .none=>K (.ref (H.length + 1)) H'
     | _=>no) X
    | none=>match cx.exc a,Nat.ble args.length 1000 with
     | some init,true=>ih.c d hd (.top (.ref init)) (.ref H.length :: args) (H ++ [.exc a none .new]) (λ v H'=>match v with
      | .none=>K (.ref H.length) H'
      | _=>no) X
     | _,_=>no
 | .top v=>match hd with
  | none=>builtE no cx v args H K
  | some _=>no
 | _=>no
noncomputable def wStep (fc : Fc) (φ : Nm) (t : Expr) (b : List Stmt) (H : Hp) (K : Fl -> Nm -> Hp -> Ω) (X : Nat -> Nm -> Hp -> Ω) : Ω:=
 ih.t fc φ t H (λ q H1=>match q with
  | true=>runSs (λ φ st H K=>ih.s fc φ st H K X) b φ H1 λ fl φ' H2=>match fl with
   | .next=>ih.w fc φ' t b H2 K X
   | .cont=>ih.w fc φ' t b H2 K X
   | .brk=>K .next φ' H2
   | .ret v=>K (.ret v) φ' H2
  | false=>K .next φ H1) λ n H=>X n φ H
noncomputable def fStep (fc : Fc) (φ : Nm) (t : Expr) (k : Nat) (b : List Stmt) (H : Hp) (K : Fl -> Nm -> Hp -> Ω) (X : Nat -> Nm -> Hp -> Ω) : Ω:=
 optK no (H[k]?) λ it=>optK no (nextM it H) λ r=>match r with
  | none=>K .next φ (H.set k .gone)
  | some q=>assignE no cx ih fc φ t q.1 (H.set k q.2) (λ φ1 H1=>runSs (λ φ st H K=>ih.s fc φ st H K X) b φ1 H1 λ fl φ' H2=>match fl with
   | .next=>ih.f fc φ' t k b H2 K X
   | .cont=>ih.f fc φ' t k b H2 K X
   | .brk=>K .next φ' H2
   | .ret v=>K (.ret v) φ' H2) λ n H=>X n φ H
set_option backward.match.sparseCases false in
noncomputable def lStep (fc : Fc) (φ : Nm) (x : Str) (ifs : List Expr) (elt : Expr) (k acc : Nat) (H : Hp) (K : Hp -> Ω) : Ω:=
 optK no (H[k]?) λ it=>optK no (nextM it H) λ r=>match r with
  | none=>K (H.set k .gone)
  | some q=>optK no (storeM fc.sc x q.1 φ (H.set k q.2)) λ p=>boolT (λ x H K=>ih.t fc p.1 x H K λ _ _=>no) .And ifs p.2 λ b H1=>match b with
   | true=>ih.e fc p.1 elt H1 (λ v H2=>match H2[acc]? with
    | some (.list vs)=>match Nat.ble vs.length 1000000 with
     | true=>ih.l fc p.1 x ifs elt k acc (H2.set acc (.list (vs ++ [v]))) K
     | false=>no
    | _=>no) λ _ _=>no
   | false=>ih.l fc p.1 x ifs elt k acc H1 K
noncomputable def step : Ev Ω where
 e:=eStep no cx ih
 t:=tStep no cx ih
 s:=sStep no cx ih
 c:=cStep no cx ih
 w:=wStep ih
 f:=fStep no cx ih
 l:=lStep no ih
end
noncomputable def nil {Ω : Type} (no : Ω) : Ev Ω where
 e:=λ _ _ _ _ _ _=>no
 t:=λ _ _ _ _ _ _=>no
 s:=λ _ _ _ _ _ _=>no
 c:=λ _ _ _ _ _ _ _=>no
 w:=λ _ _ _ _ _ _ _=>no
 f:=λ _ _ _ _ _ _ _ _=>no
 l:=λ _ _ _ _ _ _ _ _ _=>no
noncomputable def R {Ω : Type} (no : Ω) (cx : Cx) : Nat -> Ev Ω
 | 0=>nil no
 | n + 1=>step no cx (R no cx n)
section
open PySem PySem.W PyProof.Rows PySem.Calls Builtin Builtin.ObjectAttr
noncomputable def excEnd (l : List Value) : Bool:=match l with
 | b :: r=>(match b with
  | .type b=>b == "BaseException" && (match r with
   | c :: r=>(match c with
    | .type c=>c == "object" && r.isEmpty
    | _=>false)
   | []=>false)
  | _=>false)
 | []=>false
noncomputable def excTail : List Value -> Bool
 | []=>false
 | v :: r=>match v with
  | .ref _=>excTail r
  | .type a=>a == "Exception" && excEnd r
  | _=>false
theorem excEnd_eq {l : List Value} (h : excEnd l = true) : l = [.type "BaseException",.type "object"]:=by
 cases l with
 | nil=>exact nft h
 | cons b r=>cases b with
  | type b=>
   obtain ⟨h1,h⟩:=Bool.and_eq_true_iff.mp (show (b == "BaseException" && _) = true from h)
   cases r with
   | nil=>exact nft h
   | cons c r=>cases c with
    | type c=>
     obtain ⟨h2,h3⟩:=Bool.and_eq_true_iff.mp (show (c == "object" && r.isEmpty) = true from h)
     simp only [beq_iff_eq.mp h1,beq_iff_eq.mp h2,List.isEmpty_iff.mp h3]
    | _=>exact nft h
  | _=>exact nft h
theorem excTail_ind {P : List Value -> Prop} (h0 : P [.type "Exception",.type "BaseException",.type "object"]) (h1 : ∀ c r,P r -> P (.ref c :: r)) {l : List Value} (e : excTail l = true) : P l:=by
 induction l with
 | nil=>exact nft e
 | cons v r ih=>cases v with
  | ref c=>exact h1 c r (ih e)
  | type a=>
   obtain ⟨e1,e2⟩:=Bool.and_eq_true_iff.mp (show (a == "Exception" && excEnd r) = true from e)
   simp only [beq_iff_eq.mp e1,excEnd_eq e2]
   exact h0
  | _=>exact nft e
noncomputable def excOver (K : Frag) (C : Addr) : Bool:=(clsIn K C).any λ cd=>excTail cd.mro
theorem refuse_tail (self : Value) : refuseLoop self "__setattr__" [.type "Exception",.type "BaseException",.type "object"] = pure ():=by kernel_rfl
theorem refuse_exc (self : Value) {l : List Value} (e : excTail l = true) : refuseLoop self "__setattr__" l = pure ():=
 excTail_ind (P:=λ l=>refuseLoop self "__setattr__" l = pure ()) (refuse_tail self) (λ c r h=>(refuseLoop_ref ..).trans h) e
theorem exc_has {b : Value} (hb : b = .type "object" ∨ b = .type "BaseException") {l : List Value} (e : excTail l = true) : l.contains b = true:=by
 refine excTail_ind (P:=λ l=>l.contains b = true) ?_ (λ c r h=>by simp only [List.contains_cons,h,Bool.or_true]) e
 rcases hb with rfl | rfl <;> decide
section
variable {prog : Program} {w : World} {A : Around} {E : Value -> Shared -> Prop} {s : Shared} {K : Frag} {x C : Addr}
theorem putL_len (x : Str) (hs : Int) (key val : Value) : ∀ es : List DictEntry,(putL x hs key val es).length ≤ es.length + 1:=by
 intro l_
 induction l_ with
 | nil=>
  simp [putL]
 | cons e r ih_=>
  dsimp only [putL]
  split
  ·simp
  ·have:=ih_
   simp
   omega
set_option tactic.hygienic true in
theorem store_dict {d : Addr} {es : List DictEntry} {n : Nat} {name : Str} {tk : Tok} {v : Value} {Q : Fin -> Shared -> Prop} (hD : s.heap.get? d = some (dictOf es n)) (hl : (getL name es).isSome = true)
  (hz : (putL name (PyData.keyHash w.params name) (.str name s.toks) v es).length ≤ 1000)
  (h : ∀ h',h'.get? d = some (dictOf (putL name (PyData.keyHash w.params name) (.str name s.toks) v es) (putN name es n)) -> Heap.SameBut d s.heap h' -> Q (.done (.ret .none)) { s with heap:=h',toks:=s.toks + 1 }) :
  wpAny (model prog w) A (storeInDict d (.str name tk) name v) Q E s:=by
 have hp:=putName_dict name (PyData.keyHash w.params name) (.str name s.toks) v es n
 have D':=Heap.get?_update_self (Obj.putName name (PyData.keyHash w.params name) (.str name s.toks) v) hD (by rw [hp]; rfl)
 refine wpAny_bind (wpAny_pure (wpAny_bind ?_))
 refine wpAny_bind (wpAny_bind (wpAny_askSetting (wpAny_pure (wpAny_bind (wpAny_mkText (wpAny_bind (wpAny_loadPart hD ?_)))))))
 dsimp only
 have c : (!es.toArray.any (·.key.isStr name) && es.toArray.any (·.refKey)) = false:=by
  rw [<- Array.any_toList,<- Array.any_toList]
  unfold getL at hl
  split at hl
  ·rename_i en he
   rw [show (es.toArray.toList.any λ x=>x.key.isStr name) = true from List.any_eq_true.mpr ⟨en,List.mem_of_find?_eq_some he,List.find?_some (p:=λ y : DictEntry=>y.key.isStr name) he⟩]; rfl
  ·split at hl
   ·exact nft hl
   ·rename_i z; simp only [Bool.not_eq_true] at z; simp only [show (es.toArray.toList.any λ x=>x.refKey) = false from z,Bool.and_false]
 rw [aRefKeyMayBeTheName_at,c]
 refine wpAny_updatePart hD ?_
 refine wpAny_bind (wpAny_lookBehind D' (by rw [hp]; exact pastItsLine_dict (by simp only [List.size_toArray,sizeLine_eq]; lia)) ?_)
 exact wpAny_pure (h _ (D'.trans (congrArg some hp)) (Heap.SameBut.update ..))
theorem osa_exc {ox : Obj} {od : Option Obj} {name : Str} {tk : Tok} {v : Value} {R : Result -> Shared -> Prop} (X : K.In s.heap) (I : InstAt s.heap x ox C od) (hp : excOver K C = true) (ha : findIn K (.ref C) name = some none)
  (h : wpAny (model prog w) A.in1 (storeInOwnDict (.ref x) (.ref C) (.str name tk) name v false)
   (λ fin s'=>match fin with | .done f=>R (.ok f) s' | .again c'=>c'.quiet = true ∧ codeAny (model prog w) A c' R s') (λ e s'=>R (.error e) s') s) :
  codeAny (model prog w) A (.call (.builtin "object.__setattr__") ⟨[.ref x,.str name tk,v],[]⟩) R s:=by
 have SF:=PySem.F.store_object
 obtain ⟨cd,hc,ho⟩:=any_some hp
 have ne : cd.mro.isEmpty = false:=by cases q : cd.mro with | nil=>replace ho:=q ▸ ho; cases ho | cons _ _=>rfl
 have sub : Looks (model prog w) s.heap (isInstance (.ref x) (.type "object")) true:=I.type.andThen (looks_mroIn X (by unfold mroIn; refine hc ▸ ?_; rw [Option.bind_some,if_neg (by rw [ne]; decide),exc_has (.inl rfl) ho]))
 have hm : Looks (model prog w) s.heap (mroOf (.ref C)) cd.mro:=(looks_clsIn X hc).andThen .now
 refine codeAny_call_builtin SF.slot.plain SF.entry (@check_slot (model prog w) _ _ s "object.__setattr__" "object" "__setattr__" (.ref x) [.str name tk,v] [] _ SF.kind SF.split sub (SF.args (.ref x) (.str name tk) v) ?_)
 rw [osa_eq,refuse_eq]
 refine wpAny_bind (wpAny_bind (I.type.here (wpAny_bind (hm.here ?_))))
 refine (refuse_exc _ ho) ▸ ?_
 refine wpAny_pure (wpAny_bind (I.type.here (wpAny_bind ((looks_findIn X ha).here (wpAny_bind (wpAny_pure ?_))))))
 exact h
theorem set_old {ox : Obj} {da : Addr} {es : List DictEntry} {n : Nat} {name : Str} {v : Value} {Q : Unit -> Shared -> Prop} (X : K.In s.heap) (I : InstAt s.heap x ox C (some (dictOf es n))) (hd : ox.dict = some da)
  (hs : findIn K (.ref C) "__setattr__" = some (some (.builtin "object.__setattr__"))) (hp : excOver K C = true) (hh : hasDictIn K C = true) (ha : findIn K (.ref C) name = some none) (hl : (getL name es).isSome = true) (hz : es.length ≤ 900)
  (h : ∀ h' tk,h'.get? da = some (dictOf (putL name (PyData.keyHash w.params name) (.str name tk) v es) (putN name es n)) -> Heap.SameBut da s.heap h' -> Q () { s with heap:=h',toks:=s.toks + 2 }) :
  wpAny (model prog w) A (setAttr (.ref x) name v) Q E s:=by
 refine set_plain X I hs ?_
 refine osa_exc (s:={ s with toks:=s.toks + 1 }) X I hp ha ?_
 refine yG λ G_ k_=>?_
 obtain ⟨cd,hc,hd'⟩:=any_some hh
 have hda : s.heap.get? da = some (dictOf es n):=by have:=I.dict; simp only [hd] at this; exact this
 obtain ⟨hx,hcl,hn,-⟩:=I
 obtain ⟨oc,odi,oda,osl⟩:=ox
 dsimp only at hcl hd
 subst hcl hd
 refine k_ ?_
 refine wpAny_bind (wpAny_pure (wpAny_bind (wpAny_bind (wpAny_loadPart hx (wpAny_bind ((looks_clsIn X hc).at ?_))))))
 rw [hd']
 refine wpAny_pure (a:=some da) ?_
 have hlen:=putL_len name (PyData.keyHash w.params name) (.str name (s.toks + 1)) v es
 exact store_dict (s:={ s with toks:=s.toks + 1 }) hda hl (by dsimp only; omega) λ h' e k=>h h' _ e k
theorem set_first {ox : Obj} {vs : Array Value} {name : Str} {v : Value} {Q : Unit -> Shared -> Prop} (X : K.In s.heap) (I : InstAt s.heap x ox C none) (hd : ox.dict = none) (hv : ox.data = .fields vs)
  (hs : findIn K (.ref C) "__setattr__" = some (some (.builtin "object.__setattr__"))) (hp : excOver K C = true) (hh : hasDictIn K C = true) (ha : findIn K (.ref C) name = some none)
  (h : ∀ h' tk,h'.get? s.heap.objs.size = some (dictOf [⟨PyData.keyHash w.params name,.str name tk,v⟩] 1) -> h'.get? x = some { ox with dict:=some s.heap.objs.size } ->
   (∀ b o,b ≠ x -> s.heap.get? b = some o -> h'.get? b = some o) -> Q () { s with heap:=h',toks:=s.toks + 2 }) :
  wpAny (model prog w) A (setAttr (.ref x) name v) Q E s:=by
 refine set_plain X I hs ?_
 refine osa_exc (s:={ s with toks:=s.toks + 1 }) X I hp ha ?_
 refine yG λ G_ k_=>?_
 obtain ⟨cd,hc,hd'⟩:=any_some hh
 obtain ⟨hx,hcl,hn,-⟩:=I
 obtain ⟨oc,odi,oda,osl⟩:=ox
 dsimp only at hcl hd hv
 subst hcl hd hv
 refine k_ ?_
 refine wpAny_bind (wpAny_pure (wpAny_bind (wpAny_bind (wpAny_loadPart hx (wpAny_bind ((looks_clsIn X hc).at ?_))))))
 rw [hd']
 have xlt:=Heap.lt_size hx
 refine wpAny_bind (wpAny_alloc ?_)
 have hx1:=Heap.get?_push_of_some (h:=s.heap) { cls:=.type "dict",data:=.dict #[] } hx
 refine wpAny_bind (wpAny_update hx1 ?_)
 have hd1 : ((s.heap.push { cls:=.type "dict",data:=.dict #[] }).update x λ o=>{ o with dict:=some s.heap.objs.size }).get? s.heap.objs.size = some (dictOf [] 0):=by
  refine (Heap.get?_update_other _ _ (Nat.ne_of_lt xlt)).trans ?_
  exact Heap.get?_push_size _ rfl
 refine wpAny_pure ?_
 refine store_dict (s:={ s with heap:=(s.heap.push { cls:=.type "dict",data:=.dict #[] }).update x λ o=>{ o with dict:=some s.heap.objs.size },toks:=s.toks + 1 }) hd1 rfl (by simp [putL]) λ h' e k=>?_
 refine h h' _ e ?_ λ b o hb hbo=>?_
 ·refine (k.2 x (Nat.ne_of_lt xlt)).trans ?_
  exact Heap.get?_update_self _ hx1 rfl
 ·refine (k.2 b (Nat.ne_of_lt (Heap.lt_size hbo))).trans ?_; refine (Heap.get?_update_other _ _ (Ne.symm hb)).trans ?_
  exact Heap.get?_push_of_some _ hbo
noncomputable def excGet (K : Frag) (C : Addr) : Bool:=findIn K (.ref C) "__getattribute__" == some (some (.builtin "BaseException.__getattribute__")) && (findIn K (.ref C) "__getattr__" == some none && excOver K C)
theorem bga_slot : Slot "BaseException" "__getattribute__" "BaseException.__getattribute__":=
 .of (owner:="BaseException") (n:="__getattribute__") (by rw [typeLookup_type,builtinLookup_eq_fast]; kernel_rfl) (by decide +kernel) (by decide +kernel) (by decide +kernel)
  (by first | exact .inl (by decide +kernel) | exact .inr (by decide +kernel)) (by rw [isSubtype_type]; kernel_rfl)
theorem bga_kind : builtinKind "BaseException.__getattribute__" = some .slot:=by decide +kernel
theorem bga_split : splitId "BaseException.__getattribute__" = some ("BaseException","__getattribute__"):=by decide +kernel
theorem oga_eq (self : Value) (name : Str) (tk : Tok) : Builtin.«object.__getattribute__» ⟨[self,.str name tk],[]⟩ = (typeOf self >>= λ tp=>find self tp name >>= λ r=>match r with
  | .value v=>ret v
  | .bind g a=>bindTo g a self tp
  | .missing=>do
   if tp == .type "module" then
    if <- isOpaqueModuleObj self then
     let byTheModulesOwnEntry:=match (<- stack).drop 1 with
      | (.builtin "module.__getattribute__" ⟨m :: _,_⟩,_) :: _=>m == self
      | _=>false
     if !byTheModulesOwnEntry then unsupported "thirdparty:object.__getattribute__:a-miss-on-an-opaque-module"
   if tp == .type "type" then
    if let some key <- opaqueClassAbove self then unsupported s!"thirdparty:{key.toString}.{name.toString}:object.__getattribute__-misses-on-an-opaque-class"
   noSuchAttribute self name):=by kernel_rfl
theorem get_exc {ox : Obj} {es : List DictEntry} {n : Nat} {name : Str} {v : Value} {expr : Bool} {Q : Value -> Shared -> Prop} (X : K.In s.heap) (I : InstAt s.heap x ox C (some (dictOf es n))) (hg : excGet K C = true) (hh : hasDictIn K C = true)
  (ha : findIn K (.ref C) name = some none) (hl : getL name es = some (some v)) (hv : handedIn v = true) (h : Q v { s with toks:=s.toks + 1 }) : wpAny (model prog w) A (getAttr (.ref x) name expr) Q E s:=by
 unfold excGet at hg
 simp only [Bool.and_eq_true,beq_iff_eq] at hg
 obtain ⟨g1,g2,hp⟩:=hg
 obtain ⟨cd,hc,ho⟩:=any_some hp
 have ne : cd.mro.isEmpty = false:=by cases q : cd.mro with | nil=>replace ho:=q ▸ ho; cases ho | cons _ _=>rfl
 obtain ⟨hp',g,d,t,os⟩:=s
 have L0:=I.type (M:=model prog w)
 have sub : Looks (model prog w) hp' (isInstance (.ref x) (.type "BaseException")) true:=L0.andThen (looks_mroIn X (by unfold mroIn; refine hc ▸ ?_; rw [Option.bind_some,if_neg (by rw [ne]; decide),exc_has (.inr rfl) ho]))
 have L1:=looks_findIn (M:=model prog w) X g1
 have L2:=looks_findIn (M:=model prog w) X g2
 have L3:=looks_find (M:=model prog w) X I (findObj_own hh ha rfl hl)
 refine wpAny_bind (wpAny_mkText (wpAny_holding (wpAny_bind (L0.at (wpAny_bind (L1.at ?_))))))
 refine wpAny_bind (L2.at (wpAny_bind (wpAny_attempt (wpAny_holding ?_))))
 delta callGetattribute
 rw [if_neg (show ¬ ((expr && onTheHeap (Value.builtin "BaseException.__getattribute__")) = true) from by cases expr <;> exact Bool.false_ne_true)]
 dsimp only [boundAndCalled]
 refine wpAny_bind (wpAny_pure ?_)
 show wpAny _ _ (call (.builtin "BaseException.__getattribute__") [.ref x,.str name t]) _ _ _
 refine wpAny_call (codeAny_call_builtin bga_slot.plain F.entry_bexc_ga ?_)
 refine @check_slot (model prog w) _ _ ⟨hp',g,d,t + 1,os⟩ "BaseException.__getattribute__" "BaseException" "__getattribute__" (.ref x) [.str name t] [] _ bga_kind bga_split sub (F.args_bexc_ga _ _) ?_
 rw [oga_eq]
 refine wpAny_bind (L0.at (wpAny_bind (L3.at ?_)))
 refine wpAny_pure ?_
 show wpAny _ _ (handedOut v) _ _ _
 refine (handedOut_of hv) ▸ ?_; exact wpAny_pure h
end
end
section
open PySem PySem.W PyProof.Rows PySem.Calls Builtin
set_option backward.match.sparseCases false in
noncomputable def isNew (o : Option Value) : Bool:=match o with
 | some v=>(match v with
  | .builtin i=>i == "Exception.__new__"
  | _=>false)
 | none=>false
set_option backward.match.sparseCases false in
noncomputable def newIn (sl : List (Option Value)) : Bool:=match sl with
 | _ :: _ :: _ :: _ :: k4 :: r=>isNew k4 && Nat.beq r.length 1
 | _=>false
theorem newIn_eq {sl : List (Option Value)} (h : newIn sl = true) : ∃ k0 k1 k2 k3 k5,sl = [k0,k1,k2,k3,some (.builtin "Exception.__new__"),k5]:=by
 match sl,h with
 | k0 :: k1 :: k2 :: k3 :: k4 :: r,h=>
  obtain ⟨h1,h2⟩:=Bool.and_eq_true_iff.mp (show (isNew k4 && Nat.beq r.length 1) = true from h)
  cases k4 with
  | none=>exact nft h1
  | some v=>cases v with
   | builtin i=>
    obtain ⟨k5,rfl⟩:=List.length_eq_one_iff.mp (Nat.eq_of_beq_eq_true h2)
    rw [beq_iff_eq.mp (show (i == "Exception.__new__") = true from h1)]
    exact ⟨_,_,_,_,_,rfl⟩
   | _=>exact nft h1
noncomputable def mroIs (C : Addr) (l : List Value) : Bool:=match l with
 | v :: bm=>(match v with
  | .ref c=>c == C && excTail bm
  | _=>false)
 | []=>false
set_option backward.match.sparseCases false in
noncomputable def excIn (K : Frag) (C : Addr) : Bool:=match K.lookup C with
 | some o=>(match o.cls with
  | .type t=>(match o.data with
   | .cls cd=>mroIs C cd.mro && !cd.hasDel
   | _=>false) && (t == "type" && newIn o.slots.toList)
  | _=>false)
 | none=>false
theorem tail_not {X : String} (h1 : X ≠ "Exception") (h2 : X ≠ "BaseException") (h3 : X ≠ "object") {l : List Value} (e : excTail l = true) : l.contains (.type X) = false:=
 excTail_ind (P:=λ l=>l.contains (.type X) = false) (by simp [h1,h2,h3]) (λ c r h=>by simp only [List.contains_cons,h]; rfl) e
theorem tail_exc {l : List Value} (e : excTail l = true) : l.contains (.type "Exception") = true:=
 excTail_ind (P:=λ l=>l.contains (.type "Exception") = true) (by decide) (λ c r h=>by simp only [List.contains_cons,h,Bool.or_true]) e
inductive XObj (C : Addr) (h : Heap) : Prop where
 | mk (nm q : Str) (N : Addr) (bs bm : List Value) (hdct : Bool) (sn : List Str) (sub : List Value) (ab : Bool) (col : Option Bool) (dd : Option Addr) (k0 k1 k2 k3 k5 : Option Value) (hC : h.get? C = some (excClassObj nm q C N bs bm hdct sn sub ab col dd k0 k1 k2 k3 k5 "Exception.__new__")) (hb : excTail bm = true) : XObj C h
theorem excIn_obj {K : Frag} {h : Heap} {C : Addr} (X : K.In h) (e : excIn K C = true) : XObj C h:=by
 unfold excIn at e
 cases ho : K.lookup C with
 | none=>rw [ho] at e; exact nft e
 | some o=>
  rw [ho] at e
  obtain ⟨c,dd,dt,sl⟩:=o
  cases c with
  | type t=>cases dt with
   | cls cd=>
    refine yG λ G_ k_=>?_
    obtain ⟨e3,e1⟩:=Bool.and_eq_true_iff.mp (show ((mroIs C cd.mro && !cd.hasDel) && (t == "type" && newIn sl.toList)) = true from e)
    obtain ⟨e1,e2⟩:=Bool.and_eq_true_iff.mp e1
    obtain ⟨e3,e4⟩:=Bool.and_eq_true_iff.mp e3
    obtain ⟨k0,k1,k2,k3,k5,hsl⟩:=newIn_eq e2
    obtain ⟨nm,bs,mro,ns,q,hdct,sn,sub,ab,col,hdel⟩:=cd
    refine k_ ?_
    dsimp only at e3 e4
    simp only [Bool.not_eq_true'] at e4
    cases mro with
    | nil=>exact nft e3
    | cons v bm=>cases v with
     | ref c=>
      obtain ⟨e5,e6⟩:=Bool.and_eq_true_iff.mp (show (c == C && excTail bm) = true from e3)
      refine ⟨nm,q,ns,bs,bm,hdct,sn,sub,ab,col,dd,k0,k1,k2,k3,k5,?_,e6⟩
      simp only [X _ _ ho,beq_iff_eq.mp e1,e4,beq_iff_eq.mp e5,show sl = #[k0,k1,k2,k3,some (.builtin "Exception.__new__"),k5] from Array.toList_inj.mp hsl]
     | _=>exact nft e3
   | _=>exact nft e
  | _=>exact nft e
section
variable {prog : Program} {w : World} {A : Around} {E : Value -> Shared -> Prop} {h : Heap} {g : Array GenState} {d : Drawn} {t : Nat} {os : OsState}
variable {nm q : Str} {C N : Addr} {bs bm : List Value} {hdct : Bool} {sn : List Str} {sub : List Value} {ab : Bool} {col : Option Bool} {dd : Option Addr} {k0 k1 k2 k3 k5 : Option Value}
theorem check_newE {M : Model} (hb : excTail bm = true) {rest : List Value} {Q : Unit -> Shared -> Prop} (hC : h.get? C = some (excClassObj nm q C N bs bm hdct sn sub ab col dd k0 k1 k2 k3 k5 "Exception.__new__"))
  (hq : Q () ⟨h,g,d,t,os⟩) : wpAny M A (checkBuiltinCall "Exception.__new__" ⟨.ref C :: rest,[]⟩) Q E ⟨h,g,d,t,os⟩:=by
 have F:=PySem.F.excBase_Exception
 have hcont : (Value.ref C :: bm).contains (.type "Exception") = true:=by rw [List.contains_cons,tail_exc hb,Bool.or_true]
 have hstar:=F.noStar
 simp only [checkBuiltinCall,F.newKind,F.newSplit,F.newRow]
 repeat (first | refine wpAny_loadPart_at hC ?_ | (refine wpAny_isSubtype_exc hC ?_; rw [hcont]) | refine wpAny_staticBase_exc hC ?_ | refine wpAny_madeBy_exc hC ?_ | simp only [bne_self_eq_false,Bool.false_eq_true,if_false] | wp_step)
 exact hq
theorem newE (hb : excTail bm = true) {R : Result -> Shared -> Prop} {rest : List Value} (hC : h.get? C = some (excClassObj nm q C N bs bm hdct sn sub ab col dd k0 k1 k2 k3 k5 "Exception.__new__"))
  (hq : R (.ok (.ret (.ref (h.objs.size + 1)))) ⟨(h.push { cls:=.type "tuple",data:=.seq rest.toArray }).push
   { cls:=.ref C,data:=.fields #[.ref h.objs.size,.none,.none,.none,.bool false,.none] },g,d,t,os⟩) (hrest : rest.length ≤ sizeLine) :
  codeAny (model prog w) A (.builtin "Exception.__new__" ⟨.ref C :: rest,[]⟩) R ⟨h,g,d,t,os⟩:=by
 have F:=PySem.F.excBase_Exception
 have hends:=F.ends
 have hcB : (Value.ref C :: bm).contains (.type "Exception") = true:=by rw [List.contains_cons,tail_exc hb,Bool.or_true]
 have hcA : (Value.ref C :: bm).contains (.type "AttributeError") = false:=by rw [List.contains_cons,tail_not (by decide) (by decide) (by decide) hb]; rfl
 have hcN : (Value.ref C :: bm).contains (.type "NameError") = false:=by rw [List.contains_cons,tail_not (by decide) (by decide) (by decide) hb]; rfl
 refine codeAny_builtinAt F.entry ?_
 unfold Builtin.«BaseException.__new__»
 refine PySem.wpAt_bind ?_
 show PySem.wpAt _ _ _ (stack >>= _) _ _ _
 refine PySem.wpAt_bind (PySem.wpAt_stack λ p below=>PySem.wpAt_of_wpAny ?_)
 wp_walk
 refine PySem.wpAt_of_wpAny ?_
 rw [F.owner]
 repeat (first | with_reducible refine wpAny_madeHere_exc F.canon hC ?_ | with_reducible refine wpAny_loadPart_at hC ?_ | (with_reducible refine wpAny_isSubtype_exc hC ?_; first | rw [hcB] | rw [hcA] | rw [hcN]) | wp_step)
 show R _ _
 rw [Heap.size_push]
 exact hq
theorem make_exc {K : Frag} {fI : Addr} {rest : List Value} {Q : Value -> Shared -> Prop} (X : K.In h) (he : excIn K C = true) (hi : findIn K (.ref C) "__init__" = some (some (.ref fI))) (hf : typeIn K (.ref fI) = some (.type "function"))
  (hrest : rest.length ≤ sizeLine)
  (hq : wpAny (model prog w) (A.under (.builtin "type.__call__" ⟨.ref C :: rest,[]⟩)) (call (.ref fI) (.ref (h.objs.size + 1) :: rest)) (λ r s'=>r = .none ∧ Q (.ref (h.objs.size + 1)) s') E
   ⟨(h.push { cls:=.type "tuple",data:=.seq rest.toArray }).push { cls:=.ref C,data:=.fields #[.ref h.objs.size,.none,.none,.none,.bool false,.none] },g,d,t,os⟩) :
  codeAny (model prog w) A (.call (.ref C) ⟨rest,[]⟩) (λ r s'=>match r with | .ok (.ret v)=>Q v s' | .ok _=>False | .error e=>E e s') ⟨h,g,d,t,os⟩:=by
 obtain ⟨nm,q,N,bs,bm,hdct,sn,sub,ab,col,dd,k0,k1,k2,k3,k5,hC,hb⟩:=excIn_obj X he
 have f1:=tc_lookup
 have f2:=tc_bind (.ref C)
 have hT : (⟨h,g,d,t,os⟩ : Shared).TypeIs (.ref C) "type":=⟨_,hC,rfl⟩
 refine codeAny_of_tree ?_
 show wpAny _ _ (callAny (.ref C) _) _ _ _
 repeat (any_goals (first | assumption | with_reducible refine wpAny_loadPart_at hC ?_ | wp_step))
 refine ⟨rfl,?_⟩
 refine codeAny_call_builtin_at (Code.quiet_builtin _ (by decide +kernel)) entry_typeCall (wpAny_check_type_call_sub hC ?_)
 repeat (first | with_reducible refine wpAny_loadPart_at hC ?_ | with_reducible refine wpAny_madeBy_exc hC ?_ | wp_step)
 refine codeAny_call_builtin_code (Code.quiet_builtin _ PySem.F.excBase_Exception.quiet) (check_newE hb hC ?_)
 refine newE hb hC ?_ hrest
 show wpAny _ _ _ _ _ _
 have k : ∀ b o,h.get? b = some o -> ((h.push { cls:=.type "tuple",data:=.seq rest.toArray }).push { cls:=.ref C,data:=.fields #[.ref h.objs.size,.none,.none,.none,.bool false,.none] }).get? b = some o:=
  λ b o e=>Heap.get?_push_of_some _ (Heap.get?_push_of_some _ e)
 have hC₁:=k _ _ hC
 have X₁:=X.keeps k
 have hget : ((h.push { cls:=.type "tuple",data:=.seq rest.toArray }).push
   { cls:=.ref C,data:=.fields #[.ref h.objs.size,.none,.none,.none,.bool false,.none] }).get? (h.objs.size + 1) = some
   { cls:=.ref C,data:=.fields #[.ref h.objs.size,.none,.none,.none,.bool false,.none] }:=by heap_get
 have hcC : (Value.ref C :: bm).contains (.ref C) = true:=by simp
 unfold isInstance
 repeat (first | with_reducible refine wpAny_loadPart_at hget ?_ | (with_reducible refine wpAny_isSubtype_exc hC₁ ?_; rw [hcC]) | wp_step)
 show wpAny _ _ (isSubtype (.ref C) (.ref C)) _ _ _
 refine wpAny_isSubtype_exc hC₁ ?_
 rw [hcC]
 repeat (first | with_reducible refine wpAny_loadPart_at hget ?_ | wp_step)
 show wpAny _ _ (typeLookup (.ref C) _) _ _ _
 refine (looks_findIn X₁ hi).at (wpAny_holding (wpAny_bind ((bind_fn X₁ _ hf).at ?_)))
 refine wpAny_bind (wpAny_mono hq (λ r s' hr=>?_) λ _ _ x=>x)
 obtain ⟨rfl,hQ⟩:=hr
 wp_walk
 exact hQ
end
end
section
open PySem PySem.W PyProof.Rows PySem.Calls Builtin
section
variable {prog : Program} {w : World} {A : Around} {E : Value -> Shared -> Prop} {h : Heap} {g : Array GenState} {d : Drawn} {t : Nat} {os : OsState} {K : Frag} {C x : Addr}
variable {nm q : Str} {N : Addr} {bs bm : List Value} {hdct : Bool} {sn : List Str} {sub : List Value} {ab : Bool} {col : Option Bool} {dd : Option Addr} {k0 k1 k2 k3 k5 : Option Value}
theorem check_initE {M : Model} (hb : excTail bm = true) {e : Addr} {oe : Obj} {rest : List Value} {Q : Unit -> Shared -> Prop} (hC : h.get? C = some (excClassObj nm q C N bs bm hdct sn sub ab col dd k0 k1 k2 k3 k5 "Exception.__new__"))
  (he : h.get? e = some oe) (hcls : oe.cls = .ref C) (hq : Q () ⟨h,g,d,t,os⟩) : wpAny M A (checkBuiltinCall "Exception.__init__" ⟨.ref e :: rest,[]⟩) Q E ⟨h,g,d,t,os⟩:=by
 have F:=PySem.F.excBase_Exception
 have hcB : (Value.ref C :: bm).contains (.type "Exception") = true:=by rw [List.contains_cons,tail_exc hb,Bool.or_true]
 have hshort:=F.noStar
 simp only [checkBuiltinCall,F.initKind,F.initSplit,F.initRow]
 repeat (first | (with_reducible refine wpAny_loadPart_at he ?_; rw [hcls]) | with_reducible refine wpAny_loadPart_at hC ?_ | (with_reducible refine wpAny_isSubtype_exc hC ?_; rw [hcB]) | wp_step)
 refine wpAny_onRaise ?_
 rw [show ∀ (a b : String) (n : Nat),Bind.check ⟨.positional,"*","Exception",.self,[⟨"args",.varPos,false⟩]⟩ a b n (List.map (λ x=>x.fst) ({ pos:=Value.ref e :: rest } : Args).kw) = pure () from
  λ a b n=>check_star_args _ _ _ _ _ _]
 exact wpAny_pure hq
theorem init_exc {ox : Obj} {t0 : Addr} {what : Value} {Q : Value -> Shared -> Prop} (X : K.In h) (he : excIn K C = true) (hx : h.get? x = some ox) (hcls : ox.cls = .ref C) (hv : ox.data = .fields #[.ref t0,.none,.none,.none,.bool false,.none])
  (hq : ∀ h' (t' : Addr),h'.get? x = some { ox with data:=.fields #[.ref t',.none,.none,.none,.bool false,.none] } -> (∀ b o,b ≠ x -> h.get? b = some o -> h'.get? b = some o) -> Q .none ⟨h',g,d,t,os⟩) :
  wpAny (model prog w) A (call (.builtin "Exception.__init__") [.ref x,what]) Q E ⟨h,g,d,t,os⟩:=by
 obtain ⟨nm,q,N,bs,bm,hdct,sn,sub,ab,col,dd,k0,k1,k2,k3,k5,hC,hb⟩:=excIn_obj X he
 have F:=PySem.F.excBase_Exception
 refine wpAny_call (codeAny_call_builtin F.init.plain F.initEntry (check_initE hb hC hx hcls ?_))
 obtain ⟨oc,od,oda,osl⟩:=ox
 dsimp only at hcls hv
 subst hcls hv
 wp_walk
 refine hq _ h.objs.size ?_ λ b o hbx hbo=>?_
 ·rw [Heap.get?_update_self _ (Heap.get?_push_of_some _ hx) rfl]
  rfl
 ·rw [Heap.get?_update_other _ _ (Ne.symm hbx)]
  exact Heap.get?_push_of_some _ hbo
theorem entry_unchain : entryFor table "proto.unchain" = some Builtin.«proto.unchain»:=entryFor_of_tree (by kernel_rfl)
theorem raiseNew_in {M : Model} {α : Type} {s : Shared} {a b : Addr} {oa ob : Obj} {vs ws : Array Value} {Q : α -> Shared -> Prop} (hh : A.handled = some (.ref b)) (hb : s.heap.get? b = some ob) (hd : ob.data = .fields ws) (h2 : ws[2]? = some .none)
  (ha : s.heap.get? a = some oa) (hda : oa.data = .fields vs) (hsz : 2 < vs.size) (hne : b ≠ a) (hE : E (.ref a) { s with heap:=s.heap.update a (Obj.mapFields (·.setIfInBounds 2 (.ref b))) }) :
  wpAny (model prog w) A (raiseNew (.ref a) : Sem α) Q E s:=by
 refine wpAny_bind (wpAny_handled ?_)
 rw [hh]
 refine wpAny_ite_true (by simp [hne]) (wpAny_bind (wpAny_holding (wpAny_runValue (codeAny_builtin entry_unchain (wpAny_bind (m:=field (.ref b) 2) (wpAny_field hb hd h2 (wpAny_ite_true rfl (wpAny_pure (wpAny_bind ?_)))))))))
 unfold updateField
 refine wpAny_bind (wpAny_load ha ?_)
 rw [hda]
 exact wpAny_ite_true (decide_eq_true hsz) (wpAny_update ha (wpAny_throw hE))
inductive RaiseA (K : Frag) (prog : Program) (w : World) (A : Around) (Q : Flow -> Shared -> Prop) (E : Value -> Shared -> Prop) : Value -> Shared -> Prop where
 | mk (e C : Addr) (ox : Obj) (t0 : Addr) {s : Shared} (X : K.In s.heap) (hx : excIn K C = true) (he : s.heap.get? e = some ox) (hcls : ox.cls = .ref C) (hv : ox.data = .fields #[.ref t0,.none,.none,.none,.bool false,.none]) (h : wpAny (model prog w) A (raiseNew (.ref e) : Sem Flow) Q E s) : RaiseA K prog w A Q E (.ref e) s
theorem raise_exc {s : Shared} {env : Env} {xs : Sem Value} {Q : Flow -> Shared -> Prop}
  (h : wpAny (model prog w) A xs (λ v s₁=>RaiseA K prog w A Q E v s₁) E s) : wpAny (model prog w) A (raiseStmt env (some xs) none) Q E s:=by
 unfold raiseStmt
 refine wpAny_bind (wpAny_mono h (λ v s₁ h₁=>?_) λ _ _ x=>x)
 obtain ⟨e,C,ox,t0,X,hx,he,hcls,hv,hE⟩:=h₁
 obtain ⟨nm,q,N,bs,bm,hdct,sn,sub,ab,col,dd,k0,k1,k2,k3,k5,hC,hb⟩:=excIn_obj X hx
 have hcB : (Value.ref C :: bm).contains (.type "BaseException") = true:=by rw [List.contains_cons,exc_has (.inr rfl) hb,Bool.or_true]
 obtain ⟨hp,g,d,tk,os⟩:=s₁
 obtain ⟨oc,od,oda,osl⟩:=ox
 dsimp only at hcls hv
 subst hcls hv
 repeat (first | with_reducible refine wpAny_loadPart_at he ?_ | with_reducible refine wpAny_loadPart_at hC ?_ | (with_reducible refine wpAny_isSubtype_exc hC ?_; rw [hcB]) | wp_step)
 exact hE
theorem matches_exc {C' e : Addr} {oe : Obj} {b : Bool} {Q : Bool -> Shared -> Prop} (X : K.In h) (hx : excIn K C = true) (hx' : excIn K C' = true) (hs : subIn K (.ref C) (.ref C') = some b) (he : h.get? e = some oe) (hcls : oe.cls = .ref C)
  (hq : Q b ⟨h,g,d,t,os⟩) : wpAny (model prog w) A (excMatches (.ref e) (.ref C')) Q E ⟨h,g,d,t,os⟩:=by
 obtain ⟨nm,q,N,bs,bm,hdct,sn,sub,ab,col,dd,k0,k1,k2,k3,k5,hC,hb⟩:=excIn_obj X hx'
 have hcB : (Value.ref C' :: bm).contains (.type "BaseException") = true:=by rw [List.contains_cons,exc_has (.inr rfl) hb,Bool.or_true]
 have f:=tc_notTuple
 have L:=looks_subIn (M:=model prog w) X hs
 obtain ⟨oc,od,oda,osl⟩:=oe
 dsimp only at hcls
 subst hcls
 unfold excMatches
 repeat (first | with_reducible refine wpAny_loadPart_at he ?_ | with_reducible refine wpAny_loadPart_at hC ?_ | (with_reducible refine wpAny_isSubtype_exc hC ?_; rw [hcB]) | wp_step)
 show wpAny _ _ (isSubtype (.ref C) (.ref C')) _ _ _
 refine L.at ?_
 cases b <;> (wp_walk; exact hq)
end
end
structure Base (K : Frag) (mg mb : Str -> Option Value) (g : Heap) : Prop where
 k : K.In g
 ng : g.Ns mainGlobals mg
 nb : g.Ns builtinsNs mb
 lim : g.NoLimit
 sm : ∃ o,g.get? sysModules = some o
noncomputable def BdR (env : Env) (m : Str -> Option Value) (R : List Addr) (x : Str) : Bd -> Prop
 | .loc v=>∃ val,m x = some val ∧ VR R v val
 | .cel n=>∃ c,env.cells.lookup x = some c ∧ R[n]? = some c
noncomputable def HdOk (A : Around) (h : Option Nat) (R : List Addr) : Prop:=match h with
 | none=>A.handled = none
 | some i=>∃ a,A.handled = some (.ref a) ∧ R[i]? = some a
theorem HdOk.ext {A : Around} {h : Option Nat} {R R' : List Addr} (e : Ext R R') (x : HdOk A h R) : HdOk A h R':=by
 cases h with
 | none=>exact x
 | some i=>obtain ⟨a,x,y⟩:=x; exact ⟨a,x,e.get y⟩
structure EnvOk (A : Around) (fc : Fc) (env : Env) (φ : Nm) (L : Addr) (m : Str -> Option Value) (R : List Addr) : Prop where
 loc : env.locals = L
 glo : env.globals = mainGlobals
 blt : env.builtins = builtinsNs
 fn : env.scope.kind = .function
 kind : ∀ x k,look x fc.sc.names = some k -> env.kindOf x = some k ∨ (k = .free ∧ env.kindOf x = some .cell)
 nm : ∀ x b,look x φ = some b -> BdR env m R x b
 hdl : HdOk A fc.h R
theorem BdR.ext {env : Env} {m : Str -> Option Value} {R R' : List Addr} {x : Str} (e : Ext R R') {b : Bd} (h : BdR env m R x b) : BdR env m R' x b:=by
 cases b with
 | loc _=>exact Exists.elim h λ v h=>⟨v,h.1,h.2.ext e⟩
 | cel _=>exact Exists.elim h λ v h=>⟨v,h.1,e.get h.2⟩
theorem EnvOk.ext {A : Around} {fc : Fc} {env : Env} {φ : Nm} {L : Addr} {m : Str -> Option Value} {R R' : List Addr} (e : Ext R R') (E : EnvOk A fc env φ L m R) : EnvOk A fc env φ L m R':=
 ⟨E.loc,E.glo,E.blt,E.fn,E.kind,λ x b h=>(E.nm x b h).ext e,E.hdl.ext e⟩
noncomputable def Same (s s' : Shared) : Prop:=s'.gens = s.gens ∧ s'.drawn = s.drawn ∧ s'.os = s.os
theorem Same.refl (s : Shared) : Same s s:=⟨rfl,rfl,rfl⟩
theorem Same.trans {a b c : Shared} (x : Same a b) (y : Same b c) : Same a c:=⟨y.1.trans x.1,y.2.1.trans x.2.1,y.2.2.trans x.2.2⟩
theorem Same.mk' {s : Shared} {h : Heap} {t : Nat} : Same s { s with heap:=h,toks:=t }:=⟨rfl,rfl,rfl⟩
noncomputable def FrOk (g₀ g : Heap) (L : Addr) (fs : List Env) : Prop:=∀ e ∈ fs,e.scope.kind ≠ .module ∧ ∃ L',e.frame = some L' ∧ g₀.get? L' = none ∧ (L' = L ∨ ∃ o,g.get? L' = some o ∧ ∀ vs,o.data ≠ .fields vs)
structure Arnd (g₀ : Heap) (A : Around) (fc : Fc) (g : Heap) (L : Addr) : Prop where
 dep : A.depth + 3 * fc.d ≤ 900
 uni : A.units + 20 * fc.d ≤ 9000
 fr : ∃ fs,A.frames = some fs ∧ FrOk g₀ g L fs
structure ArndS (g₀ : Heap) (A : Around) (fc : Fc) (env : Env) (g : Heap) (L : Addr) : Prop where
 a : Arnd g₀ A fc g L
 own : ∃ outer,A.frames = some (env :: outer) ∧ env.frame = some L ∧ g.FunFrames g₀ outer
inductive Raw (R : List Addr) (H : Hp) (a : Addr) (h : Heap) : Prop where
 | mk (i : Nat) (C : Addr) (d : Option Nat) (oe : Obj) (vs : Array Value) (x1 : ∃ x : XF,x ≠ .new ∧ H[i]? = some (MO.exc C d x)) (x2 : R[i]? = some a) (x3 : h.get? a = some oe) (x4 : oe.data = .fields vs) (x5 : vs[1]? = some .none) : Raw R H a h
inductive Tb (g₀ g : Heap) (fl : Value -> Prop) (R : List Addr) (H : Hp) (a : Addr) (h : Heap) : Prop where
 | mk (i : Nat) (C : Addr) (d : Option Nat) (oe : Obj) (vs : Array Value) (T : Addr) (oT : Obj) (ts : Array Value) (f : Value) (x1 : ∃ x : XF,x ≠ .new ∧ H[i]? = some (MO.exc C d x)) (x2 : R[i]? = some a) (x3 : h.get? a = some oe) (x4 : oe.data = .fields vs) (x5 : vs[1]? = some (.ref T)) (x6 : T ≠ a)
  (x7 : h.get? T = some oT) (x8 : oT.data = .fields ts) (x9 : ts[3]? = some f) (x10 : fl f) (x11 : g₀.get? T = none) (x12 : g.get? T = none) (x13 : ∀ i,¬ Act H R i T) : Tb g₀ g fl R H a h
noncomputable def Fly (g₀ g : Heap) (fl : Value -> Prop) (R : List Addr) (H : Hp) (a : Addr) (h : Heap) : Prop:=Raw R H a h ∨ Tb g₀ g fl R H a h
abbrev flN : Value -> Prop:=λ f=>f = .none
abbrev flL (L : Addr) : Value -> Prop:=λ f=>f = .none ∨ f = rawInt L
theorem Tb.mono {g₀ g : Heap} {fl fl' : Value -> Prop} {R : List Addr} {H : Hp} {a : Addr} {h : Heap} (k : ∀ f,fl f -> fl' f) (x : Tb g₀ g fl R H a h) : Tb g₀ g fl' R H a h:=by
 obtain ⟨i,C,d,oe,vs,T,oT,ts,f,x1,x2,x3,x4,x5,x6,x7,x8,x9,x10,x11,x12,x13⟩:=x
 exact ⟨i,C,d,oe,vs,T,oT,ts,f,x1,x2,x3,x4,x5,x6,x7,x8,x9,k _ x10,x11,x12,x13⟩
theorem Fly.mono {g₀ g : Heap} {fl fl' : Value -> Prop} {R : List Addr} {H : Hp} {a : Addr} {h : Heap} (k : ∀ f,fl f -> fl' f) (x : Fly g₀ g fl R H a h) : Fly g₀ g fl' R H a h:=x.imp id (Tb.mono k)
inductive FdOk (K : Frag) (f : Addr) (fi : FnI) : Prop where
 | mk (oc : Value) (od : Option Addr) (osl : Array (Option Value)) (fd : FuncData) (f1 : K.lookup f = some ⟨oc,od,.func fd,osl⟩) (f2 : codeIn K fd.code fd.qualname = true) (f3 : fd.body = .stmts fi.body) (f4 : fd.scope = fi.scope) (f5 : fd.globals = mainGlobals) (f6 : fd.builtins = builtinsNs) (f7 : fd.closure = [])
  (dl : List Value) (hdl : VRs [] fi.dflts dl) (hb : ∀ (s : Shared) (xs : List Value),K.In s.heap -> xs.length ≤ fi.params.length -> fi.params.length - xs.length ≤ dl.length -> BindsTo s fd ⟨xs,[]⟩ (fi.params.zip (xs ++ dl.drop (dl.length - (fi.params.length - xs.length))))) : FdOk K f fi
structure FnOk (K : Frag) (f : Addr) (fi : FnI) : Prop where
 fd : FdOk K f fi
 co : fi.scope.isCoroutine = false
 gen : fi.scope.isGenerator = false
 kind : fi.scope.kind = .function
noncomputable def instOk (K : Frag) (C : Addr) : Bool:=(clsIn K C).isSome && (typeIn K (.ref C) == some (.type "type") && (instIn K (.ref C) (.type "type") == some true && instIn K (.ref C) (.type "tuple") == some false))
structure CxOk (cx : Cx) (prog : Program) (w : World) (K : Frag) (g₀ : Heap) (mg mb : Str -> Option Value) : Prop where
 glob : ∀ x v,cx.glob x = some v -> (x == ("__debug__" : Str)) = false ∧ ∃ val,(mg x = some val ∨ (mg x = none ∧ mb x = some val)) ∧ VR [] v val
 obj : ∀ a o,cx.obj a = some o -> (a == sysModules) = false ∧ o.isGone = false ∧ ∃ b,g₀.get? a = some b ∧ OR prog w [] o b
 attr : ∀ C name,cx.attr C name = true -> (plainGet K C name = true ∨ excGet K C = true) ∧ hasDictIn K C = true ∧ findIn K (.ref C) name = some none
 sets : ∀ C name,cx.sets C name = true -> findIn K (.ref C) "__setattr__" = some (some (.builtin "object.__setattr__")) ∧ plainOver K C = true ∧ hasDictIn K C = true ∧ findIn K (.ref C) name = some none
 xset : ∀ C name,cx.xset C name = true -> findIn K (.ref C) "__setattr__" = some (some (.builtin "object.__setattr__")) ∧ excOver K C = true ∧ hasDictIn K C = true ∧ findIn K (.ref C) name = some none
 xcls : ∀ C,cx.xcls C = true -> excIn K C = true
 isi : ∀ C,cx.isi C = true -> plainGet K C "__class__" = true ∧ hasDictIn K C = true ∧ findIn K (.ref C) "__class__" = some (some (.builtin "object.__class__")) ∧
  specialIn K (.builtin "object.__class__") "__get__" = some (some (.builtin "getset_descriptor.__get__")) ∧ takesIn K (.builtin "object.__class__") = some true ∧ mroIn K C (.type "object") = some true ∧
  (subIn K (.ref C) (.type "int") = some false ∧ subIn K (.ref C) (.type "bool") = some false ∧ subIn K (.ref C) (.type "list") = some false ∧ subIn K (.ref C) (.type "dict") = some false)
 sub : ∀ C D b,cx.sub C D = some b -> subIn K (.ref C) (.ref D) = some b ∧ instOk K D = true
 cls : ∀ C f,cx.cls C = some f -> makesIn K C = true ∧ keepIn K (.ref C) = true ∧ findIn K (.ref C) "__init__" = some (some (.ref f)) ∧ typeIn K (.ref f) = some (.type "function")
 exc : ∀ C f,cx.exc C = some f -> excIn K C = true ∧ keepIn K (.ref C) = true ∧ findIn K (.ref C) "__init__" = some (some (.ref f)) ∧ typeIn K (.ref f) = some (.type "function")
 meth : ∀ C name f,cx.meth C name = some f -> plainGet K C name = true ∧ findIn K (.ref C) name = some (some (.ref f)) ∧ isFn K (.ref f) = true ∧ keepIn K (.ref f) = true
 fn : ∀ f fi,cx.fn f = some fi -> FnOk K f fi
section
variable {prog : Program} {w : World} {cx : Cx} {K : Frag} {mg mb : Str -> Option Value} {g₀ : Heap}
noncomputable def EndX (prog : Program) (w : World) (g₀ g : Heap) (L : Addr) (m : Str -> Option Value) (R : List Addr) (s : Shared) (X : Nat -> Hp -> Prop) (Ec : Value -> Shared -> Prop) : Prop:=
 ∀ n H' R' a s',X n H' -> Ext R R' -> Inv prog w g₀ g L m R' H' s'.heap -> R'[n]? = some a -> Fly g₀ g flN R' H' a s'.heap -> Same s s' -> Ec (.ref a) s'
noncomputable def EndV (prog : Program) (w : World) (g₀ g : Heap) (L : Addr) (m : Str -> Option Value) {β α : Type} (ρ : List Addr -> β -> α -> Prop) (R : List Addr) (s : Shared) (k : β -> Hp -> Prop) (Qc : α -> Shared -> Prop) : Prop:=
 ∀ b H' R' a s',k b H' -> Ext R R' -> Inv prog w g₀ g L m R' H' s'.heap -> ρ R' b a -> Same s s' -> Qc a s'
noncomputable def Ok (prog : Program) (w : World) (g₀ : Heap) (A : Around) (g : Heap) (L : Addr) (m : Str -> Option Value) {β α : Type} (ρ : List Addr -> β -> α -> Prop)
  (t : Sem α) (R : List Addr) (s : Shared) (k : β -> Hp -> Prop) (X : Nat -> Hp -> Prop) : Prop:=
 ∀ Qc Ec,EndV prog w g₀ g L m ρ R s k Qc -> EndX prog w g₀ g L m R s X Ec -> wpAny (model prog w) A t Qc Ec s
theorem EndX.on {g : Heap} {L : Addr} {m : Str -> Option Value} {R R' : List Addr} {s s' : Shared} {X : Nat -> Hp -> Prop} {Ec : Value -> Shared -> Prop} (h : EndX prog w g₀ g L m R s X Ec) (e : Ext R R') (sm : Same s s') :
  EndX prog w g₀ g L m R' s' X Ec:=λ n H' R'' a s'' x e' I ha fl sm'=>h n H' R'' a s'' x (e.trans e') I ha fl (sm.trans sm')
theorem EndV.on {g : Heap} {L : Addr} {m : Str -> Option Value} {β α : Type} {ρ : List Addr -> β -> α -> Prop} {R R' : List Addr} {s s' : Shared} {k : β -> Hp -> Prop} {Qc : α -> Shared -> Prop} (h : EndV prog w g₀ g L m ρ R s k Qc) (e : Ext R R') (sm : Same s s') :
  EndV prog w g₀ g L m ρ R' s' k Qc:=λ b H' R'' a s'' x e' I ha sm'=>h b H' R'' a s'' x (e.trans e') I ha (sm.trans sm')
theorem Ok.bind {A : Around} {g : Heap} {L : Addr} {m : Str -> Option Value} {β α γ δ : Type} {ρ : List Addr -> β -> α -> Prop} {σ : List Addr -> γ -> δ -> Prop} {t : Sem α} {f : α -> Sem δ} {R : List Addr} {s : Shared}
  {k : β -> Hp -> Prop} {l : γ -> Hp -> Prop} {X : Nat -> Hp -> Prop} (h : Ok prog w g₀ A g L m ρ t R s k X)
  (hf : ∀ b H' R' a s',k b H' -> Ext R R' -> Inv prog w g₀ g L m R' H' s'.heap -> ρ R' b a -> Same s s' -> Ok prog w g₀ A g L m σ (f a) R' s' l X) : Ok prog w g₀ A g L m σ (t >>= f) R s l X:=
 λ Qc Ec hQ hE=>wpAny_bind (h _ _ (λ b H' R' a s' hk e I ha sm=>hf b H' R' a s' hk e I ha sm Qc Ec (hQ.on e sm) (hE.on e sm)) hE)
theorem Ok.ends {A : Around} {g : Heap} {L : Addr} {m : Str -> Option Value} {β α γ : Type} {ρ : List Addr -> β -> α -> Prop} {σ : List Addr -> γ -> α -> Prop} {t : Sem α} {R : List Addr} {s : Shared}
  {k : β -> Hp -> Prop} {l : γ -> Hp -> Prop} {X Y : Nat -> Hp -> Prop} (h : Ok prog w g₀ A g L m ρ t R s k X) (hk : ∀ b H' R' a,k b H' -> ρ R' b a -> ∃ c,l c H' ∧ σ R' c a) (hX : ∀ n H',X n H' -> Y n H') :
  Ok prog w g₀ A g L m σ t R s l Y:=λ Qc Ec hQ hE=>
 h Qc Ec (λ b H' R' a s' x e I ha sm=>let ⟨c,y,z⟩:=hk b H' R' a x ha; hQ c H' R' a s' y e I z sm) λ n H' R' a s' x e I ha fl sm=>hE n H' R' a s' (hX n H' x) e I ha fl sm
theorem EndV.at {g : Heap} {L : Addr} {m : Str -> Option Value} {β α : Type} {ρ : List Addr -> β -> α -> Prop} {R : List Addr} {H : Hp} {s : Shared} {k : β -> Hp -> Prop} {Qc : α -> Shared -> Prop} (h : EndV prog w g₀ g L m ρ R s k Qc)
  (I : Inv prog w g₀ g L m R H s.heap) {b : β} {a : α} (hk : k b H) (hr : ρ R b a) (t : Nat) : Qc a { s with toks:=t }:=h b H R a _ hk (Ext.refl R) I hr Same.mk'
theorem EndV.here {g : Heap} {L : Addr} {m : Str -> Option Value} {β α : Type} {ρ : List Addr -> β -> α -> Prop} {R : List Addr} {H : Hp} {s : Shared} {k : β -> Hp -> Prop} {Qc : α -> Shared -> Prop} (h : EndV prog w g₀ g L m ρ R s k Qc)
  (I : Inv prog w g₀ g L m R H s.heap) {b : β} {a : α} (hk : k b H) (hr : ρ R b a) : Qc a s:=h b H R a _ hk (Ext.refl R) I hr (Same.refl s)
theorem EndV.made {g : Heap} {L : Addr} {m : Str -> Option Value} {β α : Type} {ρ : List Addr -> β -> α -> Prop} {R : List Addr} {H : Hp} {s : Shared} {k : β -> Hp -> Prop} {Qc : α -> Shared -> Prop} (h : EndV prog w g₀ g L m ρ R s k Qc)
  (I : Inv prog w g₀ g L m R H s.heap) {b : β} {a : α} {o : MO} {ob : Obj} (hk : k b (H ++ [o])) (hr : ρ (R ++ [s.heap.objs.size]) b a) (ho : OR prog w (R ++ [s.heap.objs.size]) o ob) (t : Nat) (hf : ob.isFreed = false:=by rfl) : Qc a { s with heap:=s.heap.push ob,toks:=t }:=
 h b (H ++ [o]) _ a _ hk (Ext.push R _) (I.push hf ho) hr Same.mk'
theorem get_len {R : List Addr} {H : Hp} (h : H.length = R.length) {a : Addr} : (R ++ [a])[H.length]? = some a:=by rw [h]; simp
theorem Inv.newRef {g : Heap} {L : Addr} {m : Str -> Option Value} {R : List Addr} {H : Hp} {h : Heap} (I : Inv prog w g₀ g L m R H h) {a : Addr} : VR (R ++ [a]) (.ref H.length) (.ref a):=.ref (get_len I.len)
theorem nameOf_eq {e : Expr} {x : Str} (h : nameOf e = some x) : ∃ p,e = .Name x p:=by
 cases e with
 | Name n p=>exact ⟨p,Option.some.inj h ▸ rfl⟩
 | _=>exact nsm h
theorem subOf_eq {e : Expr} {q : Expr × Expr} (h : subOf e = some q) : ∃ p,e = .Subscript q.1 q.2 p:=by
 cases e with
 | Subscript o i p=>exact ⟨p,Option.some.inj h ▸ rfl⟩
 | _=>exact nsm h
theorem optK_some {α : Type} {o : Option α} {k : α -> Prop} (h : optK False o k) : ∃ a,o = some a ∧ k a:=by
 cases o with
 | none=>exact h.elim
 | some a=>exact ⟨a,rfl,h⟩
section
variable {R : List Addr} {β : Type} {C : Value -> Prop} {Q : β -> Prop} {v : V} {x : Value}
theorem VR.eNone (r : VR R .none x) (h : C .none) : C x:=by cases r; exact h
theorem VR.eBool {b : Bool} (r : VR R (.bool b) x) (h : C (.bool b)) : C x:=by cases r; exact h
theorem VR.eInt {i : Int} (r : VR R (.int i) x) (h : ∀ t,C (.int i t)) : C x:=by cases r; exact h _
theorem VR.eByt {l : List Nat} {C : List Nat -> Value -> Prop} (r : VR R (.bytes l) x) (h : ∀ b t,C (b.toList.map UInt8.toNat) (.bytes b t)) : C l x:=by cases r; exact h _ _
theorem VR.eStr {l : List Nat} (r : VR R (.str l) x) (h : ∀ t,C (.str ⟨⟨l⟩⟩ t)) : C x:=by cases r; exact h _
theorem VR.eRef {n : Nat} (r : VR R (.ref n) x) (h : ∀ a,R[n]? = some a -> C (.ref a)) : C x:=by
 cases r with
 | ref e=>exact h _ e
theorem yInt.ok {k : Int -> Option β} (h : optK False (yInt v k) Q) (r : VR R v x) (H : ∀ i t,optK False (k i) Q -> C (.int i t)) : C x:=by
 cases v with
 | int i=>exact r.eInt λ t=>H i t h
 | _=>exact h.elim
theorem yNat.ok {k : Nat -> Option β} (h : optK False (yNat v k) Q) (r : VR R v x) (H : ∀ (i : Nat) t,optK False (k i) Q -> C (.int (.ofNat i) t)) : C x:=
 yInt.ok h r λ i t h=>match i,h with
  | .ofNat n,h=>H n t h
  | .negSucc _,h=>h.elim
theorem yByt.ok {k : List Nat -> Option β} (h : optK False (yByt v k) Q) (r : VR R v x) (H : ∀ (b : Array UInt8) t,optK False (k (b.toList.map UInt8.toNat)) Q -> C (.bytes b t)) : C x:=by
 cases v with
 | bytes l=>cases r; exact H _ _ h
 | _=>exact h.elim
theorem yStr.ok {k : List Nat -> Option β} (h : optK False (yStr v k) Q) (r : VR R v x) (H : ∀ (l : List Nat) t,optK False (k l) Q -> C (.str ⟨⟨l⟩⟩ t)) : C x:=by
 cases v with
 | str l=>exact r.eStr λ t=>H l t h
 | _=>exact h.elim
theorem yNone.ok {k : Option β} (h : optK False (yNone v k) Q) (r : VR R v x) (H : optK False k Q -> C .none) : C x:=by
 cases v with
 | none=>exact r.eNone (H h)
 | _=>exact h.elim
theorem yBool.ok {k : Bool -> Option β} (h : optK False (yBool v k) Q) (r : VR R v x) (H : ∀ b,optK False (k b) Q -> C (.bool b)) : C x:=by
 cases v with
 | bool b=>exact r.eBool (H b h)
 | _=>exact h.elim
theorem yR.ok {k : Nat -> Option β} (h : optK False (yR v k) Q) (r : VR R v x) (H : ∀ n a,R[n]? = some a -> optK False (k n) Q -> C (.ref a)) : C x:=by
 cases v with
 | ref n=>exact r.eRef λ a e=>H n a e h
 | _=>exact h.elim
end
theorem yB.ok {β : Type} {Q : β -> Prop} {b : Bool} {x : Option β} {P : Prop} (h : optK False (yB b x) Q) (H : b = true -> optK False x Q -> P) : P:=by
 cases b with
 | true=>exact H rfl h
 | false=>exact h.elim
theorem yB.ble {β : Type} {Q : β -> Prop} {a b : Nat} {x : Option β} {P : Prop} (h : optK False (yB (Nat.ble a b) x) Q) (H : a ≤ b -> optK False x Q -> P) : P:=yB.ok h λ e=>H (Nat.le_of_ble_eq_true e)
theorem yAt.ok {α β : Type} {Q : β -> Prop} {o : Option α} {k : α -> Option β} {x : Option β} {P : Prop} (h : optK False (yAt o k x) Q) (H : ∀ m,o = some m -> optK False (k m) Q -> P) (H2 : optK False x Q -> P) : P:=by
 cases o with
 | none=>exact H2 h
 | some m=>exact H m rfl h
theorem bindK {α β : Type} {Q : β -> Prop} {o : Option α} {k : α -> Option β} {P : Prop} (h : optK False (o.bind k) Q) (H : ∀ a,o = some a -> optK False (k a) Q -> P) : P:=by
 cases o with
 | none=>exact h.elim
 | some a=>exact H a rfl h
theorem mapK {α β : Type} {Q : β -> Prop} {o : Option α} {f : α -> β} (h : optK False (o.map f) Q) : optK False o λ a=>Q (f a):=by
 cases o with
 | none=>exact h
 | some a=>exact h
theorem mpK {α β : Type} {Q : β -> Prop} {o : Option α} {f : α -> β} {P : Prop} (h : optK False (o.map f) Q) (H : ∀ a,o = some a -> Q (f a) -> P) : P:=by
 cases o with
 | none=>exact h.elim
 | some a=>exact H a rfl h
theorem yE.ok {α β : Type} {Q : β -> Prop} {C : List α -> Prop} {l : List α} {x : Option β} (h : optK False (yE l x) Q) (H : optK False x Q -> C []) : C l:=by
 cases l with
 | nil=>exact H h
 | cons _ _=>exact h.elim
theorem yC.ok {α β : Type} {Q : β -> Prop} {C : List α -> Prop} {l : List α} {k : α -> List α -> Option β} (h : optK False (yC l k) Q) (H : ∀ a r,optK False (k a r) Q -> C (a :: r)) : C l:=by
 cases l with
 | nil=>exact h.elim
 | cons a r=>exact H a r h
theorem yC.vs {β : Type} {Q : β -> Prop} {R : List Addr} {C : List Value -> Prop} {l : List V} {xs : List Value} {k : V -> List V -> Option β} (h : optK False (yC l k) Q) (rs : VRs R l xs) (H : ∀ a r x xs',VR R a x -> VRs R r xs' -> optK False (k a r) Q -> C (x :: xs')) : C xs:=by
 cases rs with
 | nil=>exact h.elim
 | cons r rs=>exact H _ _ _ _ r rs h
theorem yE.vs {β : Type} {Q : β -> Prop} {R : List Addr} {C : List Value -> Prop} {l : List V} {xs : List Value} {x : Option β} (h : optK False (yE l x) Q) (rs : VRs R l xs) (H : optK False x Q -> C []) : C xs:=by
 cases rs with
 | nil=>exact H h
 | cons r rs=>exact h.elim
theorem hD.ok {β : Type} {Q : β -> Prop} {o : Option MO} {k : List (KV × V) -> Option β} {P : Prop} (h : optK False (hD o k) Q) (H : ∀ vs,o = some (.dict vs) -> optK False (k vs) Q -> P) : P:=by
 cases o with
 | none=>exact h.elim
 | some o=>cases o with
  | dict vs=>exact H vs rfl h
  | _=>exact h.elim
theorem hF.ok {β : Type} {Q : β -> Prop} {o : Option MO} {k : List (Str × V) -> Option β} {P : Prop} (h : optK False (hF o k) Q) (H : ∀ vs,o = some (.flds vs) -> optK False (k vs) Q -> P) : P:=by
 cases o with
 | none=>exact h.elim
 | some o=>cases o with
  | flds vs=>exact H vs rfl h
  | _=>exact h.elim
theorem optK_of {α : Type} {o : Option α} {a : α} {Q : α -> Prop} (h : o = some a) (k : Q a) : optK False o Q:=h ▸ k
theorem hT.ok {β : Type} {Q : β -> Prop} {o : Option MO} {k : List V -> Option β} {P : Prop} (h : optK False (hT o k) Q) (H : ∀ vs,o = some (.tup vs) -> optK False (k vs) Q -> P) : P:=by
 cases o with
 | none=>exact h.elim
 | some o=>cases o with
  | tup vs=>exact H vs rfl h
  | _=>exact h.elim
theorem hL.ok {β : Type} {Q : β -> Prop} {o : Option MO} {k : List V -> Option β} {P : Prop} (h : optK False (hL o k) Q) (H : ∀ vs,o = some (.list vs) -> optK False (k vs) Q -> P) : P:=by
 cases o with
 | none=>exact h.elim
 | some o=>cases o with
  | list vs=>exact H vs rfl h
  | _=>exact h.elim
theorem mpE {α β : Type} {o : Option α} {f : α -> β} {b : β} {C : β -> Prop} (h : o.map f = some b) (k : ∀ a,o = some a -> C (f a)) : C b:=by
 cases o with
 | none=>exact nsm h
 | some a=>cases h; exact k a rfl
theorem joinK {α : Type} {Q : α -> Prop} {o : Option (Option α)} (h : optK False o.join Q) : optK False o λ r=>optK False r Q:=by
 cases o with
 | none=>exact h
 | some r=>exact h
theorem optE {α : Type} {o : Option α} {k : α -> Prop} {P : Prop} (h : optK False o k) (H : ∀ a,o = some a -> k a -> P) : P:=by
 cases o with
 | none=>exact h.elim
 | some a=>exact H a rfl h
theorem dfind_dic (i : Int) : ∀ es : List (Int × List Nat),dfind (.int i) (es.map λ p=>(KV.int p.1,V.str p.2)) = (dicF i es).map .str:=by
 intro l_
 induction l_ with
 | nil=>
  exact rfl
 | cons e r ih_=>
  show (match e.1 == i with
   | true=>some (V.str e.2)
   | false=>dfind (.int i) (r.map λ p=>(KV.int p.1,V.str p.2))) = Option.map V.str (match e.1 == i with
   | true=>some e.2
   | false=>dicF i r)
  cases e.1 == i with
  | true=>rfl
  | false=>exact ih_
theorem getE_imp {v i : V} {H : Hp} {K : V -> Hp -> Prop} (h : getE False cx v i H K) : optK False (getM cx v i H) λ r=>K r H:=by
 cases v with
 | ref n=>
  cases q : H[n]? with
  | none=>unfold getE at h; dsimp only at h; simp only [q] at h; exact h
  | some o=>
   cases o with
   | rf r=>
    unfold getE at h
    dsimp only at h
    rw [q] at h
    have e : at_ cx H (.ref n) = some r.mo:=by unfold at_; dsimp only; refine q ▸ ?_; rfl
    cases i with
    | int k=>
     cases r with
     | «ints» l=>
      obtain ⟨j,hj,h⟩:=optK_some h
      obtain ⟨x,hx,h⟩:=optK_some h
      have : getM cx (.ref n) (.int k) H = some (.int x):=by
       unfold getM
       rw [e]
       show (idxN (l.map V.int).length k).bind ((l.map V.int)[·]?) = _
       rw [List.length_map,hj]
       show (l.map V.int)[j]? = _
       simp only [List.getElem?_map,hx]
       rfl
      rw [this]
      exact h
     | «strs» l=>
      obtain ⟨j,hj,h⟩:=optK_some h
      obtain ⟨x,hx,h⟩:=optK_some h
      have : getM cx (.ref n) (.int k) H = some (.str x):=by
       unfold getM
       rw [e]
       show (idxN (l.map V.str).length k).bind ((l.map V.str)[·]?) = _
       rw [List.length_map,hj]
       show (l.map V.str)[j]? = _
       simp only [List.getElem?_map,hx]
       rfl
      rw [this]
      exact h
     | «dic» es=>
      obtain ⟨x,hx,h⟩:=optK_some h
      have : getM cx (.ref n) (.int k) H = some (.str x):=by
       delta getM
       dsimp only
       rw [e]
       show (some (dfind (.int k) (es.map λ p=>(KV.int p.1,V.str p.2)))).join = _
       simp only [dfind_dic,hx]
       rfl
      refine this ▸ ?_
      exact h
     | «sl» l b=>exact h.elim
    | _=>exact h.elim
   | _=>unfold getE at h; dsimp only at h; simp only [q] at h; exact h
 | _=>exact h
theorem tfE {b : Bool} {a P : Prop} (h : match b with | true=>a | false=>False) (H : b = true -> a -> P) : P:=by
 cases b with
 | true=>exact H rfl h
 | false=>exact h.elim
theorem sliceE_imp {v : V} {a b c : Option Int} {H : Hp} {K : V -> Hp -> Prop} (h : sliceE False v a b c H K) : optK False (sliceM v a b c H) λ q=>K q.1 q.2:=by
 cases v with
 | bytes l=>
  cases c with
  | none=>exact h
  | some k=>
   cases k with
   | ofNat n=>exact h
   | negSucc n=>
    cases n with
    | succ n=>exact h
    | zero=>
     cases a with
     | some _=>exact (show False from h).elim
     | none=>
      cases b with
      | some _=>exact (show False from h).elim
      | none=>
       refine tfE h λ e h=>?_
       show optK False (yB (Nat.ble l.length 1000000) (some (V.bytes l.reverse,H))) _
       refine e ▸ ?_
       exact h
 | _=>exact h
theorem iteE {c : Prop} [Decidable c] {a b P : Prop} (h : if c then a else b) (H1 : c -> a -> P) (H2 : ¬ c -> b -> P) : P:=by
 by_cases q : c
 ·rw [if_pos q] at h; exact H1 q h
 ·rw [if_neg q] at h; exact H2 q h
theorem gB.ok {b : Bool} {a P : Prop} (h : gB False b a) (H : b = true -> a -> P) : P:=tfE h H
theorem gB.ble {m n : Nat} {a P : Prop} (h : gB False (Nat.ble m n) a) (H : m ≤ n -> a -> P) : P:=tfE h λ e=>H (Nat.le_of_ble_eq_true e)
theorem bleE {m n : Nat} {a P : Prop} (h : match Nat.ble m n with | true=>a | false=>False) (H : m ≤ n -> a -> P) : P:=tfE h λ e=>H (Nat.le_of_ble_eq_true e)
abbrev boolρ : List Addr -> Bool -> Bool -> Prop:=λ _ a b=>a = b
abbrev bvρ : List Addr -> Bool -> Value -> Prop:=λ _ a b=>b = .bool a
abbrev unitρ : List Addr -> Unit -> Unit -> Prop:=λ _ _ _=>True
variable {fc : Fc} {φ : Nm} {H : Hp} {A : Around} {env : Env} {g : Heap} {L : Addr} {m : Str -> Option Value} {R : List Addr} {s : Shared} {X : Nat -> Hp -> Prop}
theorem ok_const {c : Const} {k0 : Nat} {pos : Pos} {k : V -> Hp -> Prop} {v : V} (hc : constV c = some v) (hk : k v H) (I : Inv prog w g₀ g L m R H s.heap) :
  Ok prog w g₀ A g L m VR (eval (.Constant c k0 pos) env) R s k X:=by
 intro Qc Ec hQ _
 cases c with
 | none=>cases hc; exact wpAny_Constant_none (hQ.here I hk .none)
 | bool b=>cases hc; exact wpAny_Constant_bool (hQ.here I hk (.bool b))
 | int i=>cases hc; exact wpAny_Constant_int (hQ.at I hk (.int i _) _)
 | str x=>cases hc; exact wpAny_Constant_str (hQ.at I hk (VR.str x.cps.toList _) _)
 | bytes b=>
  cases hc
  refine wpAny_mkTextBytes (hQ.at I hk ?_ _)
  have:=VR.bytes (R:=R) b.toArray s.toks
  simpa using this
 | float | complex | ellipsis=>exact nsm hc
set_option tactic.hygienic true in
theorem own_debug {x : Str} (h : ownN x = false) : (x == ("__debug__" : Str)) = false ∧ (x == ("__classdict__" : Str)) = false:=by
 unfold ownN at h
 rw [Bool.or_eq_false_iff,seq_eq,seq_eq] at h
 exact h
set_option tactic.hygienic true in
theorem ok_name (B : Base K mg mb g₀) (CX : CxOk cx prog w K g₀ mg mb) {x : Str} {pos : Pos} {k : V -> Hp -> Prop} {v : V} (hc : loadM cx fc.sc x φ H = some v) (hk : k v H) (E : EnvOk A fc env φ L m R) (I : Inv prog w g₀ g L m R H s.heap) :
  Ok prog w g₀ A g L m VR (eval (.Name x pos) env) R s k X:=by
 intro Qc Ec hQ _
 unfold loadM at hc
 cases hl : look x fc.sc.names with
 | none=>rw [hl] at hc; exact nsm hc
 | some kd=>
  rw [hl] at hc
  have hkd:=E.kind x kd hl
  have cellRead : ∀ b,look x φ = b -> loadM.inCell b H = some v -> ∃ c val,env.cells.lookup x = some c ∧ s.heap.IsCell c (some val) ∧ VR R v val:=by
   intro b hb hv
   cases b with
   | none=>exact nsm hv
   | some b=>
    cases b with
    | loc _=>exact nsm hv
    | cel n=>
     refine yG λ G_ k_=>?_
     obtain ⟨c,hcl,hn⟩:=E.nm x _ hb
     refine k_ ?_
     dsimp only [loadM.inCell] at hv
     cases hH : H[n]? with
     | none=>rw [hH] at hv; exact nsm hv
     | some o=>
      replace hv:=hH ▸ hv
      refine yG λ G_ k_=>?_
      cases o <;> try (exact nsm hv; done)
      refine k_ ?_
      rename_i cv
      cases cv with
      | none=>exact nsm hv
      | some cv=>
       refine yG λ G_ k_=>?_
       cases hv
       obtain ⟨b,hb,ho⟩:=I.at hH rfl hn
       obtain ⟨y,hy,hr⟩:=ho
       refine k_ ?_
       exact ⟨c,y,hcl,⟨b,hb,hy⟩,hr⟩
  cases kd with
  | «local»=>
   cases hb : look x φ with
   | none=>simp only [hb] at hc; exact nsm hc
   | some b=>
    replace hc:=hb ▸ hc
    cases b with
    | cel _=>exact nsm hc
    | loc v'=>
     cases ho : ownN x with
     | true=>simp only [ho] at hc; exact nsm hc
     | false=>
      simp only [ho] at hc
      refine yG λ G_ k_=>?_
      cases hc
      obtain ⟨val,hm,hr⟩:=E.nm x _ hb
      refine k_ ?_
      have hkd' : env.kindOf x = some .local:=by rcases hkd with q | ⟨q,_⟩; exact q; cases q
      exact wpAny_Name (hd:=(own_debug ho).1) (wpAny_loadName_local E.fn hkd' (E.loc.symm ▸ I.ns) hm (hQ.here I hk hr))
  | cell=>
   simp only at hc
   cases ho : ownN x with
   | true=>rw [ho] at hc; exact nsm hc
   | false=>
    rw [ho] at hc
    obtain ⟨c,val,h1,h2,h3⟩:=cellRead _ rfl hc
    have hkd' : env.kindOf x = some .cell:=by rcases hkd with q | ⟨q,_⟩; exact q; cases q
    exact wpAny_Name (hd:=(own_debug ho).1) (wpAny_loadName_cell E.fn hkd' h1 h2 (hQ.here I hk h3))
  | free=>
   simp only at hc
   cases ho : ownN x with
   | true=>rw [ho] at hc; exact nsm hc
   | false=>
    rw [ho] at hc
    obtain ⟨c,val,h1,h2,h3⟩:=cellRead _ rfl hc
    rcases hkd with hkd' | ⟨_,hkd'⟩
    ·exact wpAny_Name (hd:=(own_debug ho).1) (wpAny_loadName_free E.fn hkd' h1 h2 (hQ.here I hk h3) (own_debug ho).2)
    ·exact wpAny_Name (hd:=(own_debug ho).1) (wpAny_loadName_cell E.fn hkd' h1 h2 (hQ.here I hk h3))
  | globalImplicit=>
   simp only at hc
   obtain ⟨hd,val,hv,hr⟩:=CX.glob x v hc
   have hkd' : env.kindOf x = some .globalImplicit:=by rcases hkd with q | ⟨q,_⟩; exact q; cases q
   refine wpAny_Name (hd:=hd) ?_
   refine (loadName_read E.fn hkd') ▸ ?_
   have hr' : VR R v val:=hr.ext (Ext.nil R)
   have ng : s.heap.Ns env.globals mg:=by rw [E.glo]; exact B.ng.keeps I.S
   rcases hv with hv | ⟨hv,hb⟩
   ·exact loadGlobal_global ng hv (hQ.here I hk hr')
   ·exact loadGlobal_builtin ng hv (by refine E.blt ▸ ?_; exact B.nb.keeps I.S) hb (hQ.here I hk hr')
  | globalExplicit=>exact nsm hc
end
section
variable {prog : Program} {w : World} {cx : Cx} {K : Frag} {mg mb : Str -> Option Value} {g₀ : Heap}
variable {fc : Fc} {φ : Nm} {H : Hp} {A : Around} {env : Env} {g : Heap} {L : Addr} {m : Str -> Option Value} {R : List Addr} {s : Shared} {X : Nat -> Hp -> Prop}
theorem mulOk {x y : Int} (h : y.natAbs ≤ 9223372036854775807) : IntMulOk x y:=IntMulOk.of_right (intBits_le_64 (by omega) (by omega))
theorem bytesMap (b : Array UInt8) : (b.toList.map UInt8.toNat).length = b.size:=by simp
theorem VRs.rep {R : List Addr} {vs : List V} {xs : List Value} (h : VRs R vs xs) : ∀ n : Nat,VRs R (List.replicate n vs).flatten (List.replicate n xs).flatten
 | 0=>.nil
 | n + 1=>by simp only [List.replicate_succ,List.replicate_succ,List.flatten_cons,List.flatten_cons]; exact h.append (h.rep n)
section
variable {op : Operator} {a b : V} {x y : Value} {k : V -> Hp -> Prop}
theorem ok_intop {i j : Int} (h : optK False (intM op i j) λ q=>k (.int q) H) (ra : VR R (.int i) x) (rb : VR R (.int j) y) (I : Inv prog w g₀ g L m R H s.heap) : Ok prog w g₀ A g L m VR (binaryOp op x y) R s k X:=by
 intro Qc Ec hQ _
 apply ra.eInt; intro t; apply rb.eInt; intro u
 cases op with
 | Add=>exact P.add_int (hQ.at I h (.int _ _) _)
 | Sub=>exact P.sub_int (hQ.at I h (.int _ _) _)
 | Mult=>exact yB.ble h λ hb h=>P.mul_int (hQ.at I h (.int _ _) _) (mulOk hb)
 | FloorDiv=>
  refine yB.ok h λ hm h=>?_
  simp only [Bool.and_eq_true,decide_eq_true_eq] at hm
  have hb:=Nat.le_of_ble_eq_true hm.2
  exact floordiv_int (Int.ne_of_gt hm.1) (hQ.at I h (.int _ _) _) (.inl (PyProof.noPylong_small (by omega)))
 | Mod=>exact yB.ok h λ hm h=>mod_int' (Int.ne_of_gt (of_decide_eq_true hm)) (hQ.at I h (.int _ _) _)
 | _=>exact h.elim
theorem ok_binop (hop : optK False (binopM op a b H) λ q=>k q.1 q.2) (ra : VR R a x) (rb : VR R b y) (I : Inv prog w g₀ g L m R H s.heap) : Ok prog w g₀ A g L m VR (binaryOp op x y) R s k X:=by
 intro Qc Ec hQ _
 cases op with
 | Add=>cases a with
  | bytes l=>
   revert hop; apply ra.eByt; intro b1 t1 hop; apply yByt.ok hop rb; intro b2 t2 hop; refine yB.ble hop λ hb h=>?_
   rw [bytesMap,bytesMap] at hb
   refine KBy.add_bytes (by lia) λ t' k'=>hQ.at I h ?_ _
   rw [<- List.map_append,<- Array.toList_append]
   exact .bytes _ _
  | ref i=>
   apply ra.eRef; intro a1 r1; apply yR.ok hop rb; intro j a2 r2 hop
   refine hL.ok hop λ vs h1 hop=>hL.ok hop λ ws h2 hop=>yB.ble hop λ hb hop=>?_
   refine yG λ G_ k_=>?_
   obtain ⟨o1,e1,xs,n1,c1,_,_,q1,v1⟩:=I.at h1 rfl r1
   obtain ⟨o2,e2,ys,n2,c2,_,_,q2,v2⟩:=I.at h2 rfl r2
   refine k_ ?_
   rw [v1.length,v2.length] at hb
   refine add_lists (vs:=xs) (ws:=ys) (hsz:=by simp only [sizeLine_eq]; lia) I.fr I.news ⟨_,e1,c1,_,q1⟩ ⟨_,e2,c2,_,q2⟩ λ h' F' N'=>?_
   exact hQ _ _ _ _ _ hop (Ext.push R _) (I.makeN F' N' (Heap.get?_none_of_le (Nat.le_refl _)) ⟨_,0,rfl,rfl,rfl,rfl,(v1.append v2).ext (Ext.push R _)⟩) I.newRef Same.mk'
  | _=>exact hop.elim
 | Mult=>
  apply yR.ok hop ra; intro i a1 r1 hop; apply yNat.ok hop rb; intro n u hop
  refine hL.ok hop λ vs h1 hop=>yB.ok hop λ hb hop=>?_
  simp only [Bool.and_eq_true] at hb
  refine yG λ G_ k_=>?_
  obtain ⟨o1,e1,xs,n1,c1,_,_,q1,v1⟩:=I.at h1 rfl r1
  refine k_ ?_
  have hn:=Nat.le_of_ble_eq_true hb.2
  have hz:=Nat.le_of_ble_eq_true hb.1
  rw [v1.length] at hz
  refine KMa.mul (vs:=xs) I.fr I.news ⟨_,e1,c1,_,q1⟩ (by simp only [Int.ofNat_eq_natCast]; simp +arith) (by simp only [Int.ofNat_eq_natCast]; lia) (by simp only [Int.toNat_natCast,Int.ofNat_eq_natCast]; omega) rfl λ D h' F' N' lt=>?_
  exact hQ _ _ _ _ _ hop (Ext.push R _) (I.makeN F' N' (freshN N' lt) ⟨_,0,rfl,rfl,rfl,rfl,(v1.rep n).ext (Ext.push R _)⟩) I.newRef Same.mk'
 | _=>exact hop.elim
theorem ok_binE (h : binE False op a b H k) (ra : VR R a x) (rb : VR R b y) (I : Inv prog w g₀ g L m R H s.heap) : Ok prog w g₀ A g L m VR (binaryOp op x y) R s k X:=by
 cases a with
 | int i=>cases b with
  | int j=>exact ok_intop h ra rb I
  | _=>exact h.elim
 | _=>exact ok_binop h ra rb I
end
set_option tactic.hygienic true in
theorem ok_truth {v : V} {x : Value} {b : Bool} {k : Bool -> Hp -> Prop} (ht : truthM H v = some b) (hk : k b H) (rv : VR R v x) (I : Inv prog w g₀ g L m R H s.heap) :
  Ok prog w g₀ A g L m boolρ (truthy x) R s k X:=by
 intro Qc Ec hQ _
 cases rv with
 | none=>cases ht; exact truthy_none (hQ.here I hk rfl)
 | bool b'=>cases ht; exact wpAny_truthy_bool (hQ.here I hk rfl)
 | int i tk=>
  cases ht
  refine PyProof.Rows.truthy_int (hQ.here I hk ?_)
  rfl
 | str l tk=>
  simp only [truthM] at ht
  split at ht
  ·rename_i hb
   cases ht
   have hb:=Nat.le_of_ble_eq_true hb
   have hl : (⟨⟨l⟩⟩ : Str).length = l.length:=rfl
   refine P.truthy_str (by rw [hl]; lia) (hQ.at I hk ?_ _)
   rw [hl]
   cases l <;> simp [boolρ]
   lia
  ·exact nsm ht
 | bytes b' tk=>
  simp only [truthM] at ht
  split at ht
  ·rename_i hb
   cases ht
   have hb:=Nat.le_of_ble_eq_true hb
   rw [bytesMap] at hb
   refine truthy_bytes (by lia) (hQ.at I hk ?_ _)
   obtain ⟨l⟩:=b'
   cases l <;> simp [boolρ]
   lia
  ·exact nsm ht
 | ref hr=>
  simp only [truthM] at ht
  split at ht
  ·rename_i vs hH
   split at ht
   ·rename_i hb
    cases ht
    have hb:=Nat.le_of_ble_eq_true hb
    obtain ⟨o1,e1,xs,n1,c1,_,_,q1,v1⟩:=I.at hH rfl hr
    have hl:=v1.length
    refine wpAny_truthy_list (items:=xs.toArray) ⟨_,e1,c1,_,q1⟩ (by rw [List.size_toArray]; omega) (hQ.at I hk ?_ _)
    cases v1 <;> rfl
   ·exact nsm ht
  ·rename_i vs hH
   split at ht
   ·rename_i hb
    refine yG λ G_ k_=>?_
    cases ht
    have hb:=Nat.le_of_ble_eq_true hb
    obtain ⟨o1,e1,xs,n1,q1,q2,v1⟩:=I.at hH rfl hr
    refine k_ ?_
    have hl:=v1.length
    refine truthy_tuple (items:=xs.toArray) ⟨_,e1,q1,_,q2⟩ (by rw [List.size_toArray]; omega) (hQ.at I hk ?_ _)
    cases v1 <;> rfl
   ·exact nsm ht
  ·exact nsm ht
 | top=>exact nsm ht
end
section
variable {prog : Program} {w : World} {cx : Cx} {K : Frag} {mg mb : Str -> Option Value} {g₀ : Heap}
variable {fc : Fc} {φ : Nm} {H : Hp} {A : Around} {env : Env} {g : Heap} {L : Addr} {m : Str -> Option Value} {R : List Addr} {s : Shared} {X : Nat -> Hp -> Prop}
set_option tactic.hygienic true in
theorem VRs.ints_ {R : List Addr} {vs : List V} {xs : List Value} (h : VRs R vs xs) : ∀ {is : List Int},intsOf vs = some is -> IntsAre xs is:=by
 induction h with
 | nil=>intro is e; obtain rfl:=Option.some.inj e; exact .nil
 | cons h _ ih=>
  rename_i v x vs xs _
  intro is e
  cases v <;> try (exact nsm e; done)
  cases h
  dsimp only [intsOf] at e
  cases q : intsOf vs with
  | none=>rw [q] at e; exact nsm e
  | some r=>rw [q] at e; obtain rfl:=Option.some.inj e; exact .cons _ _ (ih q)
set_option tactic.hygienic true in
theorem VRs.texts_ {R : List Addr} {vs : List V} {xs : List Value} (h : VRs R vs xs) : ∀ {is : List (List Nat)},strsOf vs = some is -> StrsAre xs (is.map λ l=>⟨⟨l⟩⟩):=by
 induction h with
 | nil=>intro is e; obtain rfl:=Option.some.inj e; exact .nil
 | cons h _ ih=>
  rename_i v x vs xs _
  intro is e
  cases v <;> try (exact nsm e; done)
  cases h
  dsimp only [strsOf] at e
  cases q : strsOf vs with
  | none=>rw [q] at e; exact nsm e
  | some r=>rw [q] at e; obtain rfl:=Option.some.inj e; exact .cons _ _ (ih q)
theorem anyI_eq (k : Int) : ∀ l : List Int,anyI k l = l.any (· == k):=by
 intro l_
 induction l_ with
 | nil=>
  exact rfl
 | cons x r ih_=>
  dsimp only [anyI]
  dsimp only [List.any_cons]
  cases x == k with
  | true=>rfl
  | false=>exact ih_
theorem strEq (a b : List Nat) : ((⟨⟨a⟩⟩ : Str) == ⟨⟨b⟩⟩) = leq a b:=by rw [<- seq_eq]; rfl
theorem anyS_eq (k : List Nat) : ∀ l : List (List Nat),anyS k l = (l.map λ l=>(⟨⟨l⟩⟩ : Str)).any (· == ⟨⟨k⟩⟩):=by
 intro l_
 induction l_ with
 | nil=>
  exact rfl
 | cons x r ih_=>
  dsimp only [anyS]
  rw [List.map_cons,List.any_cons,strEq]
  cases leq x k with
  | true=>rfl
  | false=>exact ih_
theorem anyC_iff (c : Nat) : ∀ l : List Nat,anyC c l = true ↔ ∃ i : Nat,l[i]? = some c:=by
 intro l_
 induction l_ with
 | nil=>
  exact ⟨λ h=>Bool.noConfusion (h : false = true),λ ⟨i,h⟩=>by cases i <;> cases h⟩
 | cons x r ih_=>
  dsimp only [anyC]
  cases q : Nat.beq x c with
  | true=>
   refine ⟨λ _=>⟨0,?_⟩,λ _=>rfl⟩
   refine (Nat.eq_of_beq_eq_true q) ▸ ?_; rfl
  | false=>
   have hne : x ≠ c:=Nat.ne_of_beq_eq_false q
   refine ih_.trans ?_
   constructor
   ·rintro ⟨i,h⟩; exact ⟨i + 1,h⟩
   ·rintro ⟨i,h⟩
    cases i with
    | zero=>exact absurd (Option.some.inj h) hne
    | succ i=>exact ⟨i,h⟩
theorem contains_one (c : Nat) (l : List Nat) : Txt.contains ⟨⟨l⟩⟩ ⟨⟨[c]⟩⟩ = anyC c l:=by
 have h : Txt.contains ⟨⟨l⟩⟩ ⟨⟨[c]⟩⟩ = true ↔ anyC c l = true:=by
  unfold Txt.contains
  rw [StrLaws.found_iff,anyC_iff]
  exact exists_congr λ i=>StrLaws.subAt_one ⟨⟨l⟩⟩ c i
 cases q : anyC c l with
 | true=>exact h.mpr q
 | false=>
  cases r : Txt.contains ⟨⟨l⟩⟩ ⟨⟨[c]⟩⟩ with
  | false=>rfl
  | true=>replace q:=(h.mp r) ▸ q; cases q
theorem ints_reads {h : Heap} {xs : List Value} {is : List Int} (q : IntsAre xs is) : ∃ as,ReadsAll h xs (is.map PyData.int) as:=by
 induction q with
 | nil=>exact ⟨_,.nil⟩
 | cons _ _ _ ih=>exact ih.elim λ _ q=>⟨_,.cons (.int _ _) q⟩
theorem eqvInts : ∀ a b : List Int,PyData.eqvAll (a.map PyData.int) (b.map PyData.int) = ieq a b:=λ a b=>by simp only [ked_eqvAll,ieq_eq]
theorem eqvRows : ∀ a b : List (List Int),PyData.eqvAll (a.map λ l=>PyData.tuple (l.map PyData.int)) (b.map λ l=>PyData.tuple (l.map PyData.int)) = rowsEq a b:=by
 intro l_
 induction l_ with
 | nil=>
  intro z1_
  cases z1_ with
  | nil=>
   simp [rowsEq,PyData.eqvAll]
  | cons _ _=>
   simp [rowsEq,PyData.eqvAll]
 | cons a x ih_=>
  intro z2_
  cases z2_ with
  | nil=>
   simp [rowsEq,PyData.eqvAll]
  | cons b y=>
   simp only [List.map_cons,PyData.eqvAll,PyData.eqv,rowsEq,eqvInts,ih_ y]
   cases ieq a b <;> rfl
theorem shapedT (is : List Int) : SeqAt.shaped (.tuple (is.map PyData.int)) = true:=by
 simp [SeqAt.shaped,PyData.canLay0,PyData.depth,ke_canLayAll0,ke_depthAll]
theorem canLayRows : ∀ l : List (List Int),PyData.canLayAll0 (l.map λ l=>PyData.tuple (l.map PyData.int)) = true:=by
 intro l_
 induction l_ with
 | nil=>
  exact rfl
 | cons _ r ih_=>
  simp [PyData.canLayAll0,PyData.canLay0,ke_canLayAll0,ih_]
theorem depthRows : ∀ l : List (List Int),PyData.depthAll (l.map λ l=>PyData.tuple (l.map PyData.int)) ≤ 1:=by
 intro l_
 induction l_ with
 | nil=>
  simp [PyData.depthAll]
 | cons _ r ih_=>
  simp [PyData.depthAll,PyData.depth,ke_depthAll]
  lia
theorem shapedR (is : List (List Int)) : SeqAt.shaped (.list (is.map λ l=>PyData.tuple (l.map PyData.int))) = true:=by
 have:=depthRows is
 simp [SeqAt.shaped,PyData.canLay0,PyData.depth,canLayRows]
 lia
set_option tactic.hygienic true in
theorem rows_reads (I : Inv prog w g₀ g L m R H s.heap) {vs : List V} {xs : List Value} (h : VRs R vs xs) : ∀ {is : List (List Int)},rowsOf H vs = some is -> ∃ as,ReadsAll s.heap xs (is.map λ l=>PyData.tuple (l.map PyData.int)) as:=by
 induction h with
 | nil=>intro is e; obtain rfl:=Option.some.inj e; exact ⟨_,.nil⟩
 | cons h _ ih=>
  rename_i v x vs xs _
  intro is e
  cases v <;> try (exact nsm e; done)
  refine yG λ G_ k_=>?_
  cases h
  rename_i n a hn
  dsimp only [rowsOf] at e
  split at e
  refine k_ ?_
  ·rename_i ws hw
   split at e
   ·rename_i js hj
    cases q : rowsOf H vs with
    | none=>rw [q] at e; exact nsm e
    | some r=>
     replace e:=q ▸ e; cases e
     refine yG λ G_ k_=>?_
     obtain ⟨as,hr⟩:=ih q
     obtain ⟨o,ho,ys,k,hc,hd,hv⟩:=I.at hw rfl hn
     obtain ⟨bs,hi⟩:=ints_reads (h:=s.heap) (hv.ints_ hj)
     refine k_ ?_
     exact ⟨_,.cons (.tuple ho hc hd hi) hr⟩
   ·exact nsm e
  ·exact nsm e
theorem eqvT (p q : List Int) : PyData.eqv (.tuple (p.map PyData.int)) (.tuple (q.map PyData.int)) = ieq p q:=by simp only [PyData.eqv,eqvInts]
theorem eqvL (p q : List (List Int)) : PyData.eqv (.list (p.map λ l=>PyData.tuple (l.map PyData.int))) (.list (q.map λ l=>PyData.tuple (l.map PyData.int))) = rowsEq p q:=by simp only [PyData.eqv,eqvRows]
theorem bytEq (a b : Array UInt8) : (a.toList == b.toList) = leq (a.toList.map UInt8.toNat) (b.toList.map UInt8.toNat):=by
 rw [leq_eq,Bool.eq_iff_iff,beq_iff_eq,beq_iff_eq]
 exact ⟨λ h=>by exact h ▸ rfl,λ h=>List.map_inj_right (λ _ _=>UInt8.toNat.inj) |>.mp h⟩
theorem ok_eq (neg : Bool) {a b : V} {x y : Value} {k : Bool -> Hp -> Prop} (h : optK False (eqM H a b) λ r=>k (nb neg r) H) (ra : VR R a x) (rb : VR R b y)
  (I : Inv prog w g₀ g L m R H s.heap) (hu : A.units ≤ 9000) : Ok prog w g₀ A g L m bvρ (compareOp (match neg with | true=>.NotEq | false=>.Eq) x y) R s k X:=by
 intro Qc Ec hQ _
 have cl : A.units + 64 < cLine:=by unfold cLine; lia
 cases a with
 | none=>apply ra.eNone; apply yNone.ok h rb; intro h; cases neg; exact EqNone.eq_none_none (hQ.here I h rfl); exact EqNone.ne_none_none (hQ.here I h rfl)
 | bool _=>apply ra.eBool; apply yBool.ok h rb; intro _ h; cases neg; exact eq_bool (hQ.here I h rfl); exact ne_bool (hQ.here I h rfl)
 | int _=>apply ra.eInt; intro _; apply yInt.ok h rb; intro _ _ h; cases neg; exact P.eq_int (hQ.here I h rfl); exact P.ne_int (hQ.here I h rfl)
 | str _=>apply ra.eStr; intro _; apply yStr.ok h rb; intro _ _ h; cases neg; exact PyProof.Rows.eq_str (hQ.here I h (congrArg Value.bool (strEq _ _))); exact PyProof.Rows.ne_str (hQ.here I h (congrArg (λ b=>Value.bool !b) (strEq _ _)))
 | bytes _=>revert h; apply ra.eByt; intro b1 _ h; apply yByt.ok h rb; intro b2 _ h; cases neg; exact PySem.W.eq_bytes (hQ.here I h (congrArg Value.bool (bytEq _ _))); exact PySem.W.ne_bytes (hQ.here I h (congrArg (λ b=>Value.bool !b) (bytEq _ _)))
 | ref _=>
  apply ra.eRef; intro a1 r1; apply yR.ok h rb; intro j a2 r2 h
  refine yAt.ok h (λ o h1 h=>?_) False.elim
  cases o with
  | tup _=>
   refine hT.ok h λ ys h2 h=>bindK h λ p e1 h=>bindK h λ q e2 h=>?_
   refine yG λ G_ k_=>?_
   obtain ⟨o1,g1,xs,n1,c1,d1,v1⟩:=I.at h1 rfl r1
   obtain ⟨o2,g2,ys,n2,c2,d2,v2⟩:=I.at h2 rfl r2
   obtain ⟨as,ia⟩:=ints_reads (h:=s.heap) (v1.ints_ e1)
   obtain ⟨bs,ib⟩:=ints_reads (h:=s.heap) (v2.ints_ e2)
   refine k_ ?_
   cases neg
   exact eq_dataH (.tuple g1 c1 d1 ia) (.tuple g2 c2 d2 ib) (shapedT _) (shapedT _) cl (hQ.here I h (congrArg Value.bool (eqvT p q)))
   exact ne_dataH (.tuple g1 c1 d1 ia) (.tuple g2 c2 d2 ib) (shapedT _) (shapedT _) cl (hQ.here I h (congrArg (λ b=>Value.bool !b) (eqvT p q)))
  | list _=>
   refine hL.ok h λ ys h2 h=>bindK h λ p e1 h=>bindK h λ q e2 h=>?_
   refine yG λ G_ k_=>?_
   obtain ⟨o1,g1,xs,n1,c1,_,_,d1,v1⟩:=I.at h1 rfl r1
   obtain ⟨o2,g2,ys,n2,c2,_,_,d2,v2⟩:=I.at h2 rfl r2
   obtain ⟨as,ia⟩:=rows_reads I v1 e1
   obtain ⟨bs,ib⟩:=rows_reads I v2 e2
   refine k_ ?_
   cases neg
   exact eq_dataH (.list g1 c1 d1 ia) (.list g2 c2 d2 ib) (shapedR _) (shapedR _) cl (hQ.here I h (congrArg Value.bool (eqvL p q)))
   exact ne_dataH (.list g1 c1 d1 ia) (.list g2 c2 d2 ib) (shapedR _) (shapedR _) cl (hQ.here I h (congrArg (λ b=>Value.bool !b) (eqvL p q)))
  | _=>exact h.elim
 | top _=>exact h.elim
end
section
variable {prog : Program} {w : World} {cx : Cx} {K : Frag} {mg mb : Str -> Option Value} {g₀ : Heap}
variable {fc : Fc} {φ : Nm} {H : Hp} {A : Around} {env : Env} {g : Heap} {L : Addr} {m : Str -> Option Value} {R : List Addr} {s : Shared} {X : Nat -> Hp -> Prop}
theorem Inv.notSys (B : Base K mg mb g₀) (I : Inv prog w g₀ g L m R H s.heap) {i : Nat} {a : Addr} {o : MO} (hi : H[i]? = some o) (hg : o.isGone = false) (ha : R[i]? = some a) : (a == sysModules) = false:=by
 obtain ⟨x,hx⟩:=B.sm
 have:=(I.out i a ⟨o,hi,hg,ha⟩).2.2
 refine beq_eq_false_iff_ne.mpr λ q=>?_
 simp only [q,hx] at this; cases this
set_option tactic.hygienic true in
theorem at_obj (B : Base K mg mb g₀) (CX : CxOk cx prog w K g₀ mg mb) (I : Inv prog w g₀ g L m R H s.heap) {v : V} {x : Value} {o : MO} (h : at_ cx H v = some o) (hg : o.isGone = false) (rv : VR R v x) :
  ∃ a b,x = .ref a ∧ s.heap.get? a = some b ∧ OR prog w R o b ∧ (a == sysModules) = false:=by
 cases rv <;> try (exact nsm h; done)
 ·rename_i n a hn
  have h : (match H[n]? with
   | some o=>some (viewO o)
   | none=>none) = some o:=h
  split at h
  ·rename_i o' ho'
   refine yG λ G_ k_=>?_
   cases h
   rw [view_gone] at hg
   obtain ⟨b,hb,ho⟩:=I.at ho' hg hn
   refine k_ ?_
   exact ⟨a,b,rfl,hb,ho.view,I.notSys B ho' hg hn⟩
  ·exact nsm h
 ·refine yG λ G_ k_=>?_
  cases x <;> try (exact nsm h; done)
  rename_i a
  obtain ⟨h1,_,b,hb,ho⟩:=CX.obj a o h
  refine k_ ?_
  exact ⟨a,b,rfl,I.S a b hb,ho.ext (Ext.nil R),h1⟩
noncomputable def inOp (neg : Bool) : CmpOp:=match neg with
 | true=>.NotIn
 | false=>.In
noncomputable def isOp (neg : Bool) : CmpOp:=match neg with
 | true=>.IsNot
 | false=>.Is
theorem at_e {C : Value -> Prop} (B : Base K mg mb g₀) (CX : CxOk cx prog w K g₀ mg mb) (I : Inv prog w g₀ g L m R H s.heap) {v : V} {x : Value} {o : MO} (h : at_ cx H v = some o) (hg : o.isGone = false) (rv : VR R v x)
  (k : ∀ a b,s.heap.get? a = some b -> OR prog w R o b -> (a == sysModules) = false -> C (.ref a)) : C x:=by
 refine yG λ G_ k_=>?_
 obtain ⟨a,b,e,h1,h2,h3⟩:=at_obj B CX I h hg rv
 refine k_ ?_
 simp only [e]
 exact k a b h1 h2 h3
set_option tactic.hygienic true in
theorem keyOf_is {v : V} {x : Value} {q : KV} (h : keyOf v = some q) (rv : VR R v x) : (kvKind prog w).is q x = true:=by
 cases rv <;> try (exact nsm h; done)
 ·rename_i i tk; obtain rfl:=Option.some.inj h; exact intKind_is prog w i tk
 ·rename_i l tk; obtain rfl:=Option.some.inj h; exact strKind_is prog w ⟨⟨l⟩⟩ tk
set_option tactic.hygienic true in
theorem KR.find {R : List Addr} {es : List (KV × V)} {kvs : List (KV × Value)} (h : KR R es kvs) (q : KV) : (dfind q es = none ∧ valueAt kvs q = none) ∨ ∃ v x,dfind q es = some v ∧ valueAt kvs q = some x ∧ VR R v x:=by
 induction h with
 | nil=>exact .inl ⟨rfl,rfl⟩
 | cons hv _ ih=>
  rename_i k v x es kvs _
  dsimp only [dfind,valueAt]
  rw [kvEq_eq,List.find?_cons]
  by_cases e : k = q
  ·subst e
   refine .inr ⟨v,x,?_,?_,hv⟩ <;> simp
  ·simp only [e,decide_false]
   exact ih
set_option tactic.hygienic true in
theorem TR.find {R : List Addr} {es : List (List Int × Nat × V)} {kvs : List (List Int × Addr × Value)} (h : TR R es kvs) (q : List Int) : (tfind q es = none ∧ atKey kvs q = none) ∨ ∃ v a x,tfind q es = some v ∧ atKey kvs q = some (a,x) ∧ VR R v x:=by
 induction h with
 | nil=>exact .inl ⟨rfl,rfl⟩
 | cons hn hv _ ih=>
  rename_i k n a v x es kvs _
  dsimp only [tfind,atKey]
  rw [ieq_eq,List.find?_cons]
  by_cases e : k = q
  ·subst e
   refine .inr ⟨v,a,x,?_,?_,hv⟩ <;> simp
  ·simp only [e,decide_false]
   exact ih
set_option tactic.hygienic true in
theorem items_ints {xs : List Value} {is : List Int} (h : IntsAre xs is) : ItemsAre (intKind prog w) is xs:=by
 induction h with
 | nil=>exact .nil
 | cons i t _ ih=>exact .cons (intKind_is prog w i t) ih
set_option tactic.hygienic true in
theorem tkey_is (I : Inv prog w g₀ g L m R H s.heap) {n : Nat} {a : Addr} {q : List Int} (h : tkey H n = some q) (hn : R[n]? = some a) : IsTupleKey (intKind prog w) s.heap q a:=by
 unfold tkey at h
 refine yG λ G_ k_=>?_
 split at h
 refine k_ ?_
 ·rename_i vs hH
  refine yG λ G_ k_=>?_
  obtain ⟨o,ho,xs,k,hc,hd,hv⟩:=I.at hH rfl hn
  refine k_ ?_
  exact ⟨o,_,k,ho,hc,hd,items_ints (hv.ints_ h)⟩
 ·exact nsm h
set_option tactic.hygienic true in
theorem tok_is (I : Inv prog w g₀ g L m R H s.heap) {es : List (List Int × Nat × V)} {kvs : List (List Int × Addr × Value)} (h : TR R es kvs) : tok H es = true -> ∀ x ∈ kvs,IsTupleKey (intKind prog w) s.heap x.1 x.2.1:=by
 induction h with
 | nil=>intro _ x hx; cases hx
 | cons hn hv _ ih=>
  rename_i k n a v x es kvs _
  intro ht y hy
  dsimp only [tok] at ht
  split at ht
  ·rename_i k' hk
   split at ht
   ·rename_i he
    rw [ieq_eq,decide_eq_true_eq] at he
    subst he
    rcases List.mem_cons.mp hy with rfl | hy
    ·exact tkey_is I hk hn
    ·exact ih ht y hy
   ·exact nft ht
  ·exact nft ht
theorem dictOf_heap {knd : KeyKind prog w KV} {a : Addr} {o : Obj} {kvs : List (KV × Value)} (ho : s.heap.get? a = some o) (hd : o.IsDictOf knd kvs) : s.heap.DictOf knd a kvs:=Heap.dictOf_iff.mpr ⟨o,ho,hd⟩
theorem tdict_heap (I : Inv prog w g₀ g L m R H s.heap) {a : Addr} {o : Obj} {es : List (List Int × Nat × V)} {kvs : List (List Int × Addr × Value)} (ho : s.heap.get? a = some o) (hd : IsTD prog w o kvs) (ht : TR R es kvs) (hk : tok H es = true) :
  s.heap.DictOfH (tupK prog w) a kvs:=by
 refine yG λ G_ k_=>?_
 obtain ⟨e,ep,h1,h2,h3,h4⟩:=hd
 refine k_ ?_
 exact ⟨o,e,ep,ho,h1,h2,h3,tok_is I ht hk,h4⟩
theorem empty_heap {knd : KeyKind prog w KV} {a : Addr} {o : Obj} (ho : s.heap.get? a = some o) (hd : o.IsDictOf knd []) : s.heap.DictOfH (tupK prog w) a []:=by
 refine yG λ G_ k_=>?_
 obtain ⟨e,ep,h1,h2,_,h4,_⟩:=hd
 refine k_ ?_
 refine ⟨o,e,ep,ho,h1,h2,?_,⟨λ x hx=>(nomatch hx),List.nodup_nil⟩⟩
 cases q : e.toList with
 | nil=>rfl
 | cons y r=>simp only [q] at h4; cases h4
theorem KR.nil_ {R : List Addr} {kvs : List (KV × Value)} (h : KR R [] kvs) : kvs = []:=by cases h; rfl
inductive DLook (prog : Program) (w : World) (R : List Addr) (s : Shared) (a : Addr) (kv : V) (key : Value) (rx : Option Value) : Prop where
 | kv (q : KV) (kvs : List (KV × Value)) (h1 : (kvKind prog w).is q key = true) (h2 : s.heap.DictOf (kvKind prog w) a kvs) (h3 : rx = valueAt kvs q)
 | tk (n : Nat) (c : Addr) (q : List Int) (kvs : List (List Int × Addr × Value)) (e : kv = .ref n) (h1 : key = .ref c) (h2 : IsTupleKey (intKind prog w) s.heap q c) (h3 : s.heap.DictOfH (tupK prog w) a kvs) (h4 : rx = (atKey kvs q).map (·.2))
noncomputable def VRo (R : List Addr) (r : Option V) (rx : Option Value) : Prop:=match r with
 | none=>rx = none
 | some v=>∃ x,rx = some x ∧ VR R v x
theorem VRo.some_ {R : List Addr} {r : Option V} {rx : Option Value} (h : VRo R r rx) : r.isSome = rx.isSome:=by
 cases r with
 | none=>rw [show rx = none from h]; rfl
 | some v=>obtain ⟨x,hx,_⟩:=h; rw [hx]; rfl
theorem dget_look {P : Prop} {Q : Option V -> Prop} (I : Inv prog w g₀ g L m R H s.heap) {o : MO} {a : Addr} {b : Obj} (hb : s.heap.get? a = some b) (ho : OR prog w R o b) {kv : V} {key : Value} (h : optK False (dgetM H o kv) Q) (rk : VR R kv key)
  (k : ∀ r rx,Q r -> VRo R r rx -> DLook prog w R s a kv key rx -> P) : P:=by
 delta dgetM at h
 cases o with
 | dict es=>
  obtain ⟨kvs,hd,hr⟩:=ho
  cases q : keyOf kv with
  | some q'=>
   dsimp only at h
   rw [q] at h
   refine k _ _ h ?_ (.kv q' kvs (keyOf_is q rk) (dictOf_heap hb hd) rfl)
   rcases hr.find q' with ⟨e1,e2⟩ | ⟨v,x,e1,e2,e3⟩
   ·refine e1 ▸ ?_; exact e2
   ·refine e1 ▸ ?_; exact ⟨x,e2,e3⟩
  | none=>
   dsimp only at h
   rw [q] at h
   revert rk hr
   cases kv with
   | ref n=>
    intro rk hr
    obtain ⟨c,e1,hc⟩:=rk.invRef
    revert hr; apply yE.ok h; intro h hr
    refine bindK h λ q hq h=>?_
    have e:=hr.nil_
    subst e
    exact k _ none h rfl (.tk n c q [] rfl e1 (tkey_is I hq hc) (empty_heap hb hd) rfl)
   | _=>exact h.elim
 | tdict es=>
  obtain ⟨kvs,hd,hr⟩:=ho
  cases kv with
  | ref n=>
   obtain ⟨c,e1,hc⟩:=rk.invRef
   refine bindK h λ q hq h=>yB.ok h λ ht h=>?_
   refine k _ _ h ?_ (.tk n c q kvs rfl e1 (tkey_is I hq hc) (tdict_heap I hb hd hr ht) rfl)
   rcases hr.find q with ⟨e3,e2⟩ | ⟨v,a,x,e4,e2,e3⟩
   ·simp only [e3,e2]; rfl
   ·simp only [e4,e2]; exact ⟨x,rfl,e3⟩
  | _=>exact h.elim
 | _=>exact h.elim
theorem ok_dictIn {kv : V} (hu : A.units ≤ 9000) (neg : Bool) (hneg : neg = true -> ∀ n,kv ≠ .ref n) (I : Inv prog w g₀ g L m R H s.heap) {o : MO} {a : Addr} {b : Obj} (hb : s.heap.get? a = some b) (hs : (a == sysModules) = false) (ho : OR prog w R o b)
  {key : Value} {k : Bool -> Hp -> Prop} (h : optK False (dgetM H o kv) λ r=>k (nb neg r.isSome) H) (rk : VR R kv key) : Ok prog w g₀ A g L m bvρ (compareOp (inOp neg) key (.ref a)) R s k X:=by
 intro Qc Ec hQ _
 refine dget_look I hb ho h rk λ r rx hk hr hl=>?_
 replace hk:=hr.some_ ▸ hk
 cases hl with
 | kv q kvs h1 h2 h3=>
  subst h3
  cases neg
  exact wpAny_in_of h1 hs h2.mapOf (hQ.at I hk rfl _)
  exact wpAny_notIn_of h1 hs h2.mapOf (hQ.at I hk rfl _)
 | tk n c q kvs e h1 h2 h3 h4=>
  subst h1 h4
  have hroom : (tupK prog w).room A.in1:=by
   show A.units + 1 < cLine
   unfold cLine; lia
  cases neg with
  | false=>
   refine wpAny_in_heap hroom h2 hs h3 (hQ.at I hk ?_ _)
   show Value.bool _ = Value.bool (Option.map _ _).isSome
   simp only [Option.isSome_map]
  | true=>exact absurd e (hneg rfl n)
theorem ok_inV (neg : Bool) {a : V} {vs : List V} {x : Value} {xs : List Value} {p : Addr} {k : Bool -> Hp -> Prop} (h : optK False (inV a vs) λ r=>k (nb neg r) H) (ra : VR R a x) (hv : VRs R vs xs) (I : Inv prog w g₀ g L m R H s.heap)
  (hp : s.heap.IsList p xs.toArray ∨ IsTup s.heap p xs.toArray) : Ok prog w g₀ A g L m bvρ (compareOp (inOp neg) x (.ref p)) R s k X:=by
 intro Qc Ec hQ _
 cases a with
 | int i=>
  apply ra.eInt; intro t
  refine mpK h λ is q h=>?_
  rw [anyI_eq] at h
  rcases hp with hp | hp <;> cases neg
  exact in_list_ints hp (hv.ints_ q) (hQ.here I h rfl)
  exact notin_list_ints hp (hv.ints_ q) (hQ.here I h rfl)
  exact in_tuple_ints hp (hv.ints_ q) (hQ.here I h rfl)
  exact notin_tuple_ints hp (hv.ints_ q) (hQ.here I h rfl)
 | str i=>
  apply ra.eStr; intro t
  refine mpK h λ is q h=>?_
  rw [anyS_eq] at h
  rcases hp with hp | hp <;> cases neg
  exact in_list_strs hp (hv.texts_ q) (hQ.here I h rfl)
  exact notin_list_strs hp (hv.texts_ q) (hQ.here I h rfl)
  exact in_tuple_strs hp (hv.texts_ q) (hQ.here I h rfl)
  exact notin_tuple_strs hp (hv.texts_ q) (hQ.here I h rfl)
 | _=>exact h.elim
theorem ok_in (B : Base K mg mb g₀) (CX : CxOk cx prog w K g₀ mg mb) (hu : A.units ≤ 9000) {a b : V} {x y : Value} (neg : Bool) (hneg : neg = true -> ∀ n,a ≠ .ref n) (I : Inv prog w g₀ g L m R H s.heap)
  {k : Bool -> Hp -> Prop} (h : optK False (inM cx H a b) λ r=>k (nb neg r) H) (ra : VR R a x) (rb : VR R b y) : Ok prog w g₀ A g L m bvρ (compareOp (inOp neg) x y) R s k X:=by
 refine yAt.ok h (λ o ha h=>?_) λ h=>?_
 ·cases o with
  | tup vs=>apply at_e B CX I ha rfl rb; exact λ p ob hb ⟨xs,n,hc,hd,hv⟩ _=>ok_inV neg h ra hv I (.inr ⟨ob,hb,hc,n,hd⟩)
  | list vs=>apply at_e B CX I ha rfl rb; exact λ p ob hb ⟨xs,n,hc,_,_,hd,hv⟩ _=>ok_inV neg h ra hv I (.inl ⟨ob,hb,hc,n,hd⟩)
  | dict es=>apply at_e B CX I ha rfl rb; exact λ p ob hb ho hs=>ok_dictIn hu neg hneg I hb hs ho (mapK h) ra
  | tdict es=>apply at_e B CX I ha rfl rb; exact λ p ob hb ho hs=>ok_dictIn hu neg hneg I hb hs ho (mapK h) ra
  | _=>exact h.elim
 ·apply yStr.ok h ra; intro l t h
  apply yC.ok h; intro c l h; apply yE.ok h; intro h
  apply yStr.ok h rb; intro r u h
  intro Qc Ec hQ _
  rw [<- contains_one] at h
  cases neg
  exact SB.contains (hQ.here I h rfl)
  exact SB.notContains (hQ.here I h rfl)
theorem ok_is (neg : Bool) {a b : V} {x y : Value} (I : Inv prog w g₀ g L m R H s.heap) {k : Bool -> Hp -> Prop} (h : optK False (isM a b) λ r=>k (nb neg r) H) (ra : VR R a x) (rb : VR R b y) :
  Ok prog w g₀ A g L m bvρ (compareOp (isOp neg) x y) R s k X:=by
 have fin : ∀ {x : Value} {r : Bool},k (nb neg r) H -> plainIs x .none = true -> (x == .none) = r -> Ok prog w g₀ A g L m bvρ (compareOp (isOp neg) x .none) R s k X:=by
  intro x r h h1 h2 Qc Ec hQ _
  subst h2
  cases neg
  exact wpAny_is_plain h1 (hQ.here I h rfl)
  exact wpAny_isNot_plain h1 (hQ.here I h rfl)
 apply yNone.ok h rb; intro h
 cases a with
 | none=>apply ra.eNone; exact fin h rfl rfl
 | bool _=>apply ra.eBool; exact fin h rfl rfl
 | int _=>apply ra.eInt; intro _; exact fin h rfl rfl
 | str _=>apply ra.eStr; intro _; exact fin h rfl rfl
 | bytes _=>revert h; apply ra.eByt; intro _ _ h; exact fin h rfl rfl
 | ref _=>apply ra.eRef; intro _ _; exact fin h rfl rfl
 | top _=>exact h.elim
theorem ok_cmp (B : Base K mg mb g₀) (CX : CxOk cx prog w K g₀ mg mb) (hu : A.units ≤ 9000) {a b : V} {x y : Value} {op : CmpOp} (I : Inv prog w g₀ g L m R H s.heap)
  {r : Bool} (h : cmpM cx op a b H = some r) (ra : VR R a x) (rb : VR R b y) {k : Bool -> Hp -> Prop} (hk : k r H) : Ok prog w g₀ A g L m bvρ (compareOp op x y) R s k X:=by
 have h : optK False (cmpM cx op a b H) λ r=>k r H:=optK_of h hk
 cases op with
 | Eq=>exact ok_eq false h ra rb I hu
 | NotEq=>exact ok_eq true (mapK h) ra rb I hu
 | Lt=>apply yInt.ok h ra; intro _ _ h; apply yInt.ok h rb; intro _ _ h; exact λ Qc Ec hQ _=>P.lt_int (hQ.here I h rfl)
 | LtE=>apply yInt.ok h ra; intro _ _ h; apply yInt.ok h rb; intro _ _ h; exact λ Qc Ec hQ _=>P.le_int (hQ.here I h rfl)
 | Gt=>apply yInt.ok h ra; intro _ _ h; apply yInt.ok h rb; intro _ _ h; exact λ Qc Ec hQ _=>P.gt_int (hQ.here I h rfl)
 | GtE=>apply yInt.ok h ra; intro _ _ h; apply yInt.ok h rb; intro _ _ h; exact λ Qc Ec hQ _=>P.ge_int (hQ.here I h rfl)
 | Is=>exact ok_is false I h ra rb
 | IsNot=>exact ok_is true I (mapK h) ra rb
 | In=>exact ok_in B CX hu false (λ q=>Bool.noConfusion q) I h ra rb
 | NotIn=>cases a with
  | ref _=>exact h.elim
  | _=>exact ok_in B CX hu true (λ _ n e=>by cases e) I (mapK h) ra rb
end
section
variable {prog : Program} {w : World} {cx : Cx} {K : Frag} {mg mb : Str -> Option Value} {g₀ : Heap}
noncomputable def SE (prog : Program) (w : World) (g₀ : Heap) (A : Around) (env : Env) (g : Heap) (L : Addr) (m : Str -> Option Value) (R₀ : List Addr) (X : Nat -> Hp -> Prop) (e : Expr -> Hp -> (V -> Hp -> Prop) -> Prop) : Prop:=
 ∀ x H k R s,e x H k -> Ext R₀ R -> Inv prog w g₀ g L m R H s.heap -> Ok prog w g₀ A g L m VR (eval x env) R s k X
noncomputable def ST (prog : Program) (w : World) (g₀ : Heap) (A : Around) (env : Env) (g : Heap) (L : Addr) (m : Str -> Option Value) (R₀ : List Addr) (X : Nat -> Hp -> Prop) (t : Expr -> Hp -> (Bool -> Hp -> Prop) -> Prop) : Prop:=
 ∀ x H k R s,t x H k -> Ext R₀ R -> Inv prog w g₀ g L m R H s.heap -> Ok prog w g₀ A g L m boolρ (isTrue x env (eval x env)) R s k X
variable {fc : Fc} {φ : Nm} {H : Hp} {A : Around} {env : Env} {g : Heap} {L : Addr} {m : Str -> Option Value} {R R₀ : List Addr} {s : Shared} {X : Nat -> Hp -> Prop}
variable {e : Expr -> Hp -> (V -> Hp -> Prop) -> Prop} {t : Expr -> Hp -> (Bool -> Hp -> Prop) -> Prop}
theorem Ok.mono {β α : Type} {ρ : List Addr -> β -> α -> Prop} {u : Sem α} {k : β -> Hp -> Prop} (h : Ok prog w g₀ A g L m ρ u R s k X) {k' : β -> Hp -> Prop} {X' : Nat -> Hp -> Prop} (hk : ∀ b H,k b H -> k' b H) (hX : ∀ n H,X n H -> X' n H) :
  Ok prog w g₀ A g L m ρ u R s k' X':=h.ends (λ b H' R' a x r=>⟨b,hk b H' x,r⟩) hX
theorem Ok.standAt {β α : Type} {ρ : List Addr -> β -> α -> Prop} {pos : Pos} {u : Sem α} {k : β -> Hp -> Prop} (h : Ok prog w g₀ A g L m ρ u R s k X) : Ok prog w g₀ A g L m ρ (do standAt pos; u) R s k X:=
 λ Qc Ec hQ hE=>wpAny_bind (wpAny_standAt (h Qc Ec hQ hE))
theorem Ok.holding {β α : Type} {ρ : List Addr -> β -> α -> Prop} {vs : List Value} {u : Sem α} {k : β -> Hp -> Prop} (h : Ok prog w g₀ A g L m ρ u R s k X) : Ok prog w g₀ A g L m ρ (holding vs u) R s k X:=
 λ Qc Ec hQ hE=>wpAny_holding (h Qc Ec hQ hE)
theorem wpAny_release {M : Model} {E : Value -> Shared -> Prop} {vs keep : List Value} {Q : Unit -> Shared -> Prop} (h : Q () s) : wpAny M A (release vs keep) Q E s:=λ Γ p hΓ=>by
 simp only [Sem.wp_release]; exact h
theorem wpAny_operate {M : Model} {E : Value -> Shared -> Prop} {vs : List Value} {u : Sem Value} {Q : Value -> Shared -> Prop} (h : wpAny M A u Q E s) : wpAny M A (operate vs u) Q E s:=λ Γ p hΓ=>by
 simp only [Sem.wp_operate]; exact h Γ p hΓ
theorem Ok.operate {β : Type} {ρ : List Addr -> β -> Value -> Prop} {vs : List Value} {u : Sem Value} {k : β -> Hp -> Prop} (h : Ok prog w g₀ A g L m ρ u R s k X) : Ok prog w g₀ A g L m ρ (operate vs u) R s k X:=
 λ Qc Ec hQ hE=>wpAny_operate (h Qc Ec hQ hE)
theorem Ok.pure {β α : Type} {ρ : List Addr -> β -> α -> Prop} {a : α} {b : β} {k : β -> Hp -> Prop} (I : Inv prog w g₀ g L m R H s.heap) (hk : k b H) (hr : ρ R b a) : Ok prog w g₀ A g L m ρ (Pure.pure a) R s k X:=
 λ Qc Ec hQ _=>wpAny_pure (hQ.here I hk hr)
theorem SE.up (S : SE prog w g₀ A env g L m R₀ X e) (h : Ext R₀ R) : SE prog w g₀ A env g L m R X e:=λ x H k R' s hx e' I=>S x H k R' s hx (h.trans e') I
theorem ok_boolV {op : BoolOp} {pos : Pos} (S : SE prog w g₀ A env g L m R₀ X e) : ∀ {vs : List Expr} {H : Hp} {k : V -> Hp -> Prop} {R : List Addr} {s : Shared},boolV False e op vs H k -> Ext R₀ R -> Inv prog w g₀ g L m R H s.heap ->
  Ok prog w g₀ A g L m VR (boolOp pos op (evalEach vs env)) R s k X:=by
 intro l_
 induction l_ with
 | nil=>
  intro _ _ _ _ h _ _
  exact h.elim
 | cons x z1_ ih_=>
  intro H k R s h eR I
  cases z1_ with
  | nil=>
   exact S x H k R s h eR I
  | cons y r=>
   show Ok prog w g₀ A g L m VR (do
    let v <- eval x env
    standAt pos
    let t <- holding [v] (truthy v)
    match op,t with
    | .And,false | .Or,true=>Pure.pure v
    | _,_=>boolOp pos op (evalEach (y :: r) env)) R s k X
   refine (S x H _ R s h eR I).bind λ v H1 R1 a s1 hv e1 I1 ra sm=>?_
   obtain ⟨b,hb,hv⟩:=optK_some hv
   refine Ok.standAt (Ok.bind (Ok.holding (ok_truth (k:=λ b' H'=>b' = b ∧ H' = H1) hb ⟨rfl,rfl⟩ ra I1)) λ b' H2 R2 c s2 hb2 e2 I2 rc sm2=>?_)
   obtain ⟨rfl,rfl⟩:=hb2
   cases rc
   cases op <;> cases b'
   ·exact Ok.pure I2 hv (ra.ext e2)
   ·exact ih_ hv (eR.trans (e1.trans e2)) I2
   ·exact ih_ hv (eR.trans (e1.trans e2)) I2
   ·exact Ok.pure I2 hv (ra.ext e2)
theorem set_marks {x : Expr} (h : setE x = false) (op : CmpOp) : behindInMarks op x = false:=by
 cases x <;> first | rfl | cases h
theorem ok_chain (B : Base K mg mb g₀) (CX : CxOk cx prog w K g₀ mg mb) (hu : A.units ≤ 9000) {pos : Pos} (S : SE prog w g₀ A env g L m R₀ X e) : ∀ {ops : List CmpOp} {cs : List Expr} {v : V} {x : Value} {H : Hp} {k : Bool -> Hp -> Prop} {R : List Addr} {s : Shared},
  chainV False cx e v ops cs H k -> VR R v x -> Ext R₀ R -> Inv prog w g₀ g L m R H s.heap ->
  Ok prog w g₀ A g L m bvρ (compareChain pos x ops (markedEach ops cs (evalEach cs env))) R s k X:=by
 intro l_
 induction l_ with
 | nil=>
  intro _ _ _ _ _ _ _ h _ _ _
  exact h.elim
 | cons op ops ih_=>
  intro z1_ v x H k R s h rv eR I
  cases z1_ with
  | nil=>
   exact h.elim
  | cons c r=>
   refine gB.ok h λ hset h=>?_
   have hset:=Bool.not_eq_true' _ ▸ hset
   cases ops with
   | nil=>
    cases r with
    | cons _ _=>exact h.elim
    | nil=>
     show Ok prog w g₀ A g L m bvρ (do
      let rv <- holding [x] (markedBehindIn op c (eval c env))
      standAt pos
      operate [x,rv] (compareOp op x rv)) R s k X
     refine (markedBehindIn_of_false (set_marks hset op)) ▸ ?_
     refine (Ok.holding (S c H _ R s h eR I)).bind λ u H1 R1 a s1 hv e1 I1 ra sm=>?_
     obtain ⟨b,hb,hv⟩:=optK_some hv
     exact Ok.standAt (Ok.operate (ok_cmp B CX hu I1 hb (rv.ext e1) ra hv))
   | cons op2 ops=>
    cases r with
    | nil=>exact h.elim
    | cons d r=>
     show Ok prog w g₀ A g L m bvρ (do
      let rv <- holding [x] (eval c env)
      standAt pos
      let c <- holding [x,rv] (compareOp op x rv)
      release [x,rv] [c]
      if <- holding [c,rv] (truthy c) then compareChain pos rv (op2 :: ops) (markedEach (op2 :: ops) (d :: r) (evalEach (d :: r) env)) else Pure.pure c) R s k X
     refine (Ok.holding (S c H _ R s h eR I)).bind λ u H1 R1 a s1 hv e1 I1 ra sm=>?_
     obtain ⟨b,hb,hv⟩:=optK_some hv
     refine Ok.standAt ((Ok.holding (ok_cmp B CX hu (k:=λ b' H'=>b' = b ∧ H' = H1) I1 hb (rv.ext e1) ra ⟨rfl,rfl⟩)).bind λ b' H2 R2 y s2 hb2 e2 I2 ry sm2=>?_)
     obtain ⟨rfl,rfl⟩:=hb2
     cases ry
     refine λ Qc Ec hQ hE=>wpAny_bind (wpAny_release (wpAny_bind (wpAny_holding (wpAny_truthy_bool ?_))))
     cases b' with
     | true=>exact ih_ hv (ra.ext e2) (eR.trans (e1.trans e2)) I2 Qc Ec hQ hE
     | false=>exact wpAny_pure (hQ.here I2 hv rfl)
theorem ok_test (B : Base K mg mb g₀) (CX : CxOk cx prog w K g₀ mg mb) (hu : A.units ≤ 9000) {pos : Pos} (S : SE prog w g₀ A env g L m R₀ X e) : ∀ {ops : List CmpOp} {cs : List Expr} {v : V} {x : Value} {H : Hp} {k : Bool -> Hp -> Prop} {R : List Addr} {s : Shared},
  chainV False cx e v ops cs H k -> VR R v x -> Ext R₀ R -> Inv prog w g₀ g L m R H s.heap ->
  Ok prog w g₀ A g L m boolρ (testChain pos x ops (markedEach ops cs (evalEach cs env))) R s k X:=by
 intro l_
 induction l_ with
 | nil=>
  intro _ _ _ _ _ _ _ h _ _ _
  exact h.elim
 | cons op ops ih_=>
  intro z1_ v x H k R s h rv eR I
  cases z1_ with
  | nil=>
   exact h.elim
  | cons c r=>
   refine gB.ok h λ hset h=>?_
   have hset:=Bool.not_eq_true' _ ▸ hset
   cases ops with
   | nil=>
    cases r with
    | cons _ _=>exact h.elim
    | nil=>
     show Ok prog w g₀ A g L m boolρ (do
      let rv <- holding [x] (markedBehindIn op c (eval c env))
      standAt pos
      let c <- operate [x,rv] (compareOp op x rv)
      holding [c] (truthy c)) R s k X
     refine (markedBehindIn_of_false (set_marks hset op)) ▸ ?_
     refine (Ok.holding (S c H _ R s h eR I)).bind λ u H1 R1 a s1 hv e1 I1 ra sm=>?_
     obtain ⟨b,hb,hv⟩:=optK_some hv
     refine Ok.standAt ((Ok.operate (ok_cmp B CX hu I1 hb (rv.ext e1) ra hv)).bind λ b' H2 R2 y s2 hb2 e2 I2 ry sm2=>?_)
     cases ry
     exact λ Qc Ec hQ hE=>wpAny_holding (wpAny_truthy_bool (hQ.here I2 hb2 rfl))
   | cons op2 ops=>
    cases r with
    | nil=>exact h.elim
    | cons d r=>
     show Ok prog w g₀ A g L m boolρ (do
      let rv <- holding [x] (eval c env)
      standAt pos
      let c <- holding [x,rv] (compareOp op x rv)
      release [x,rv] [c]
      if <- holding [c,rv] (truthy c) then testChain pos rv (op2 :: ops) (markedEach (op2 :: ops) (d :: r) (evalEach (d :: r) env)) else Pure.pure false) R s k X
     refine (Ok.holding (S c H _ R s h eR I)).bind λ u H1 R1 a s1 hv e1 I1 ra sm=>?_
     obtain ⟨b,hb,hv⟩:=optK_some hv
     refine Ok.standAt ((Ok.holding (ok_cmp B CX hu (k:=λ b' H'=>b' = b ∧ H' = H1) I1 hb (rv.ext e1) ra ⟨rfl,rfl⟩)).bind λ b' H2 R2 y s2 hb2 e2 I2 ry sm2=>?_)
     obtain ⟨rfl,rfl⟩:=hb2
     cases ry
     refine λ Qc Ec hQ hE=>wpAny_bind (wpAny_release (wpAny_bind (wpAny_holding (wpAny_truthy_bool ?_))))
     cases b' with
     | true=>exact ih_ hv (ra.ext e2) (eR.trans (e1.trans e2)) I2 Qc Ec hQ hE
     | false=>exact wpAny_pure (hQ.here I2 hv rfl)
theorem ok_boolT {op : BoolOp} (S : ST prog w g₀ A env g L m R₀ X t) : ∀ {vs : List Expr} {H : Hp} {k : Bool -> Hp -> Prop} {R : List Addr} {s : Shared},boolT t op vs H k -> Ext R₀ R -> Inv prog w g₀ g L m R H s.heap ->
  Ok prog w g₀ A g L m boolρ (allTrue op vs env) R s k X:=by
 intro l_
 induction l_ with
 | nil=>
  intro H k R s h _ I
  cases op <;> exact Ok.pure I h rfl
 | cons x r ih_=>
  intro H k R s h eR I
  show Ok prog w g₀ A g L m boolρ (do
   match op,<- isTrue x env (eval x env) with
   | .And,false=>Pure.pure false
   | .Or,true=>Pure.pure true
   | _,_=>allTrue op r env) R s k X
  refine (S x H _ R s h eR I).bind λ b H1 R1 a s1 hv e1 I1 ra sm=>?_
  cases ra
  cases op <;> cases b
  ·exact Ok.pure I1 hv rfl
  ·exact ih_ hv (eR.trans e1) I1
  ·exact ih_ hv (eR.trans e1) I1
  ·exact Ok.pure I1 hv rfl
theorem star_each {x : Expr} (h : starE x = false) (r : List Expr) : starEach (x :: r) env = (false,eval x env) :: starEach r env:=by
 cases x <;> first | rfl | cases h
theorem ok_evs {pos : Pos} (S : SE prog w g₀ A env g L m R₀ X e) : ∀ {xs : List Expr} {H : Hp} {k : List V -> Hp -> Prop} {R : List Addr} {s : Shared},evs False e xs H k -> Ext R₀ R -> Inv prog w g₀ g L m R H s.heap ->
  Ok prog w g₀ A g L m VRs (spliced (backTo pos (starEach xs env))) R s k X:=by
 intro l_
 induction l_ with
 | nil=>
  intro H k R s h _ I
  exact Ok.pure I h .nil
 | cons x r ih_=>
  intro H k R s h eR I
  dsimp only [evs] at h
  cases hs : starE x with
  | true=>rw [hs] at h; exact h.elim
  | false=>
   rw [hs] at h
   rw [star_each hs]
   show Ok prog w g₀ A g L m VRs (do
    let v <- eval x env
    let here <- Pure.pure [v]
    return here ++ (<- holding here (spliced (backTo pos (starEach r env))))) R s k X
   refine (S x H _ R s h eR I).bind λ v H1 R1 a s1 hv e1 I1 ra sm=>?_
   refine λ Qc Ec hQ hE=>wpAny_bind (wpAny_pure ?_)
   refine ((Ok.holding (ih_ hv (eR.trans e1) I1)).bind (σ:=VRs) (l:=k) λ vs H2 R2 as s2 hv2 e2 I2 ras sm2=>?_) Qc Ec hQ hE
   exact Ok.pure I2 hv2 (.cons (ra.ext e2) ras)
end
section
variable {prog : Program} {w : World} {cx : Cx} {K : Frag} {mg mb : Str -> Option Value} {g₀ : Heap}
variable {fc : Fc} {φ : Nm} {H : Hp} {A : Around} {env : Env} {g : Heap} {L : Addr} {m : Str -> Option Value} {R R₀ : List Addr} {s : Shared} {X : Nat -> Hp -> Prop}
variable {e : Expr -> Hp -> (V -> Hp -> Prop) -> Prop} {t : Expr -> Hp -> (Bool -> Hp -> Prop) -> Prop}
theorem strIs (n x : Str) (tk : Tok) : (Value.str n tk).isStr x = seq x n:=by
 simp only [seq_eq]
 show (n == x) = (x == n)
 rw [Bool.eq_iff_iff,beq_iff_eq,beq_iff_eq]
 exact eq_comm
theorem FR.noRef {P : Params} {R : List Addr} {fs : List (Str × V)} {es : List DictEntry} (h : FR P R fs es) : es.any (·.refKey) = false:=by
 induction h with
 | nil=>rfl
 | cons _ _ ih=>simp only [List.any_cons,ih]; rfl
theorem FR.len {P : Params} {R : List Addr} {fs : List (Str × V)} {es : List DictEntry} (h : FR P R fs es) : fs.length = es.length:=by
 induction h with
 | nil=>rfl
 | cons _ _ ih=>simp [ih]
set_option tactic.hygienic true in
theorem FR.get {P : Params} {R : List Addr} {fs : List (Str × V)} {es : List DictEntry} (h : FR P R fs es) (x : Str) : (∃ v val,look x fs = some v ∧ getL x es = some (some val) ∧ VR R v val) ∨ (look x fs = none ∧ getL x es = some none):=by
 have key : (∃ v val en,look x fs = some v ∧ es.find? (·.key.isStr x) = some en ∧ en.val = val ∧ VR R v val) ∨ (look x fs = none ∧ es.find? (·.key.isStr x) = none):=by
  induction h with
  | nil=>exact .inr ⟨rfl,rfl⟩
  | cons hv _ ih=>
   rename_i n v val tk fs es _
   dsimp only [look]
   rw [List.find?_cons,strIs]
   cases seq x n with
   | true=>exact .inl ⟨v,val,_,rfl,rfl,rfl,hv⟩
   | false=>exact ih
 unfold getL
 rcases key with ⟨v,val,en,h1,h2,h3,h4⟩ | ⟨h1,h2⟩
 ·refine .inl ⟨v,val,h1,?_,h4⟩
  rw [h2]; simp [h3]
 ·refine .inr ⟨h1,?_⟩
  rw [h2,h.noRef]; rfl
set_option tactic.hygienic true in
theorem FR.put {P : Params} {R : List Addr} {fs : List (Str × V)} {es : List DictEntry} (h : FR P R fs es) {v : V} {val : Value} (hv : VR R v val) (x : Str) (tk : Tok) : FR P R (putF x v fs) (putL x (PyData.keyHash P x) (.str x tk) val es):=by
 induction h with
 | nil=>exact .cons hv .nil
 | cons hw ht ih=>
  rename_i n u val' tk' fs es
  dsimp only [putF,putL]
  rw [strIs]
  cases seq x n with
  | true=>exact .cons hv ht
  | false=>exact .cons hw ih
theorem plain_handed {R : List Addr} {v : V} {x : Value} (h : plainV v = true) (hv : VR R v x) : handedIn x = true:=by
 cases hv <;> try rfl
 cases x <;> first | rfl | exact nft h
inductive FldA (P : Params) (R : List Addr) (h : Heap) (C : Addr) (d : Nat) (fs : List (Str × V)) : Value -> Prop where
 | mk (a da : Addr) (ox : Obj) (es : List DictEntry) (n : Nat) (hd : R[d]? = some da) (hda : h.get? da = some (dictOf es n)) (hf : FR P R fs es) (hx : ox.dict = some da) (hi : InstAt h a ox C (some (dictOf es n))) : FldA P R h C d fs (.ref a)
theorem fa_inst (I : Inv prog w g₀ g L m R H s.heap) {n d : Nat} {a C : Addr} {fs : List (Str × V)} (hn : R[n]? = some a) (hH : H[n]? = some (.inst C d)) (hF : H[d]? = some (.flds fs)) : FldA w.params R s.heap C d fs (.ref a):=by
 refine yG λ G_ k_=>?_
 obtain ⟨ob,hb,da,hd,ho⟩:=I.at hH rfl hn
 subst ho
 obtain ⟨od,hod,es,k,hk,hf⟩:=I.at hF rfl hd
 subst hk
 refine k_ ?_
 exact ⟨a,da,_,es,k,hd,hod,hf,rfl,⟨hb,rfl,rfl,hod⟩⟩
theorem inst_at (I : Inv prog w g₀ g L m R H s.heap) {v : V} {x : Value} {C : Addr} {d : Nat} {fs : List (Str × V)} (h : instOf H v = some (C,d,fs)) (rv : VR R v x) : FldA w.params R s.heap C d fs x ∧ H[d]? = some (.flds fs):=by
 have h : optK False (instOf H v) λ q=>q = (C,d,fs):=optK_of h rfl
 apply yR.ok h rv; intro n a hn h
 refine yAt.ok h (λ o hH h=>?_) False.elim
 cases o with
 | inst C' d'=>
  refine hF.ok h λ fs' hF h=>?_
  refine yG λ G_ k_=>?_
  cases h
  refine k_ ?_
  exact ⟨fa_inst I hn hH hF,hF⟩
 | _=>exact h.elim
theorem exc_at (I : Inv prog w g₀ g L m R H s.heap) {v : V} {x : Value} {C : Addr} {d : Nat} {fs : List (Str × V)} (h : excOf H v = some (C,d,fs)) (rv : VR R v x) : FldA w.params R s.heap C d fs x ∧ H[d]? = some (.flds fs):=by
 have h : optK False (excOf H v) λ q=>q = (C,d,fs):=optK_of h rfl
 apply yR.ok h rv; intro n a hn h
 refine yAt.ok h (λ o hH h=>?_) False.elim
 cases o with
 | exc C' d' fr=>cases d' with
  | none=>exact h.elim
  | some d'=>
   refine hF.ok h λ fs' hF h=>?_
   refine yG λ G_ k_=>?_
   cases h
   obtain ⟨ob,hb,hc,⟨vs,hvs,_⟩,da,hd,ho⟩:=I.at hH rfl hn
   obtain ⟨od,hod,es,k,hk,hf⟩:=I.at hF rfl hd
   subst hk
   refine k_ ?_
   exact ⟨⟨a,da,ob,es,k,hd,hod,hf,ho,⟨hb,hc,by unfold notCls; exact hvs ▸ rfl,by simp only [ho]; exact hod⟩⟩,hF⟩
 | _=>exact h.elim
theorem cfl_look {D : List Nat} {q : Nat} {name : Str} {r : V} (h : look name [((⟨⟨[97,116]⟩⟩ : Str),V.int q)] = some r) : look name (csrF D q) = some r:=by
 dsimp only [look] at h
 split at h
 ·rename_i q'
  rw [seq_iff.mp q']
  exact h
 ·exact nsm h
theorem cfl_at (I : Inv prog w g₀ g L m R H s.heap) {n d q : Nat} {a C : Addr} {its : List It} (hn : R[n]? = some a) (hH : H[n]? = some (.inst C d)) (hF : H[d]? = some (.cfl q its)) : ∃ D,FldA w.params R s.heap C d (csrF D q) (.ref a):=by
 refine yG λ G_ k_=>?_
 obtain ⟨ob,hb,da,hd,ho⟩:=I.at hH rfl hn
 subst ho
 obtain ⟨od,hod,D,_,es,k,hk,hf⟩:=I.at hF rfl hd
 subst hk
 refine k_ ?_
 exact ⟨D,a,da,_,es,k,hd,hod,hf,rfl,⟨hb,rfl,rfl,hod⟩⟩
theorem fields_at (I : Inv prog w g₀ g L m R H s.heap) {v : V} {x : Value} {C : Addr} {d : Nat} {fs : List (Str × V)} (h : fieldsOf H v = some (C,d,fs)) (rv : VR R v x) :
  ∃ fs',FldA w.params R s.heap C d fs' x ∧ ∀ name r,look name fs = some r -> look name fs' = some r:=by
 unfold fieldsOf at h
 cases h1 : instOf H v with
 | some r=>
  rw [h1] at h
  refine yG λ G_ k_=>?_
  obtain rfl:=Option.some.inj h
  refine k_ ?_
  exact ⟨_,(inst_at I h1 rv).1,λ _ _ q=>q⟩
 | none=>
  replace h:=h1 ▸ h
  cases h2 : excOf H v with
  | some r=>
   dsimp only at h
   rw [h2] at h
   obtain rfl:=Option.some.inj h
   exact ⟨_,(exc_at I h2 rv).1,λ _ _ q=>q⟩
  | none=>
   dsimp only at h
   replace h:=h2 ▸ h
   have h : optK False (cflOf H v) λ q=>q = (C,d,fs):=optK_of h rfl
   apply yR.ok h rv; intro n a hn h
   refine yAt.ok h (λ o hH h=>?_) False.elim
   cases o with
   | inst C' d'=>
    refine yAt.ok h (λ o hF h=>?_) False.elim
    cases o with
    | cfl q its=>
     refine yG λ G_ k_=>?_
     cases h
     obtain ⟨D,hD⟩:=cfl_at I hn hH hF
     refine k_ ?_
     exact ⟨_,hD,λ name r q=>cfl_look q⟩
    | _=>exact h.elim
   | _=>exact h.elim
theorem ok_getattr (B : Base K mg mb g₀) (CX : CxOk cx prog w K g₀ mg mb) (I : Inv prog w g₀ g L m R H s.heap) {v r : V} {x : Value} {fs : Addr × Nat × List (Str × V)} {name : Str} {k : V -> Hp -> Prop} (hf : fieldsOf H v = some fs)
  (ha : cx.attr fs.1 name = true) (hl : look name fs.2.2 = some r) (hp : plainV r = true) (hk : k r H) (rv : VR R v x) {b : Bool} : Ok prog w g₀ A g L m VR (getAttr x name b) R s k X:=by
 intro Qc Ec hQ _
 refine yG λ G_ k_=>?_
 obtain ⟨C,d,fs⟩:=fs
 obtain ⟨fs',⟨a,da,ox,es,n,_,_,hfr,_,hi⟩,hlk⟩:=fields_at I hf rv
 have hl:=hlk _ _ hl
 obtain ⟨c1,c2,c3⟩:=CX.attr _ _ ha
 rcases hfr.get name with ⟨v',val,h1,h2,h3⟩ | ⟨h1,_⟩
 refine k_ ?_
 ·replace hl:=h1 ▸ hl
  cases hl
  rcases c1 with c1 | c1
  ·exact get_own I.fr B.k hi c1 c2 c3 rfl h2 (plain_handed hp h3) (hQ.at I hk h3 _)
  ·exact get_exc (B.k.keeps I.S) hi c1 c2 c3 h2 (plain_handed hp h3) (hQ.at I hk h3 _)
 ·replace hl:=h1 ▸ hl; exact nsm hl
theorem Inv.upd (I : Inv prog w g₀ g L m R H s.heap) {i : Nat} {a : Addr} {o o₀ : MO} {b₀ b : Obj} (hi : H[i]? = some o₀) (hg₀ : o₀.isGone = false) (ha : R[i]? = some a) (h₀ : s.heap.get? a = some b₀) :
  ∃ news',Upd a b₀ b (others g₀ L s.heap) news' ∧ ∀ h',Fr g₀ L h' m -> News g₀ L h' news' -> OR prog w R o b -> Inv prog w g₀ g L m R (H.set i o) h':=by
 have oa:=I.out i a ⟨o₀,hi,hg₀,ha⟩
 refine yG λ G_ k_=>?_
 obtain ⟨pre,post,e,p1,p2⟩:=others_split (mem_others.mpr ⟨h₀,oa.2.2,oa.1⟩)
 refine k_ ?_
 refine ⟨pre ++ (a,b) :: post,?_,λ h' F' N' ho=>?_⟩
 ·rw [e]
  clear e
  induction pre with
  | nil=>exact .head p2
  | cons p pre ih=>exact .tail (p1 p (.head _)) (ih λ q hq=>p1 q (.tail _ hq))
 ·refine I.turn' (h':=h') (o:=o) hi hg₀ ha F'.ns (λ c x q hc hx=>?_) λ _=>⟨b,(N' (a,b) (List.mem_append_right _ (.head _))).1,ho⟩
  ·cases hg : g₀.get? c with
    | some y=>
     have:=I.S c y hg
     replace this:=hx ▸ this
     cases this
     exact F'.keep c _ hg
    | none=>
     have hm:=mem_others.mpr ⟨hx,hg,q⟩
     replace hm:=e ▸ hm
     refine (N' (c,x) ?_).1
     rcases List.mem_append.mp hm with hm | hm
     ·exact List.mem_append_left _ hm
     ·rcases List.mem_cons.mp hm with hm | hm
      ·cases hm; exact absurd rfl hc
      ·exact List.mem_append_right _ (.tail _ hm)
theorem ok_setattr (B : Base K mg mb g₀) (CX : CxOk cx prog w K g₀ mg mb) (I : Inv prog w g₀ g L m R H s.heap) {v r : V} {x y : Value} {C : Addr} {d : Nat} {fs : List (Str × V)} {name : Str} {k : Unit -> Hp -> Prop} (hf : instOf H v = some (C,d,fs))
  (ha : cx.sets C name = true) (hl : Nat.ble fs.length 100 = true) (hk : k () (H.set d (.flds (putF name r fs)))) (rv : VR R v x) (rr : VR R r y) : Ok prog w g₀ A g L m unitρ (setAttr x name y) R s k X:=by
 intro Qc Ec hQ _
 refine yG λ G_ k_=>?_
 obtain ⟨⟨a,da,ox,es,n,hd,hda,hfr,hx,hi⟩,hF⟩:=inst_at I hf rv
 obtain ⟨c1,c2,c3,c4⟩:=CX.sets _ _ ha
 have hlen:=Nat.le_of_ble_eq_true hl
 have hlk : (getL name es).isSome = true:=by
  rcases hfr.get name with ⟨v',val,h1,h2,h3⟩ | ⟨_,h2⟩ <;> rw [h2] <;> rfl
 obtain ⟨news',hU,hend⟩:=I.upd (o:=.flds (putF name r fs)) (b:=dictOf (putL name (PyData.keyHash w.params name) (.str name (s.toks + 1)) y es) (putN name es n)) hF rfl hd hda
 refine k_ ?_
 refine set_dict I.fr B.k I.news hi hx c1 c2 ?_ c3 hlk rfl hU ?_ λ h' F' N'=>?_
 ·unfold takerIn; rw [c4]; rfl
 ·have:=putL_len name (PyData.keyHash w.params name) (.str name (s.toks + 1)) y es
  have:=hfr.len
  lia
 ·exact hQ () _ R () _ hk (Ext.refl R) (hend h' F' N' ⟨_,_,rfl,hfr.put rr name _⟩) trivial Same.mk'
end
section
section
open PySem.Builtin
theorem sliced_rev (b : Array UInt8) : Bytes.sliced b ((b.size : Int) - 1) (-1) (-1) = b.toList.reverse.toArray:=by
 unfold Bytes.sliced
 simp only [krv_sliceRange,krv_range,List.filterMap_reverse,krv_all]
theorem meets_rev (b : Array UInt8) (t : Tok) (a : Addr) (u : Tok) :
  Meets («bytes.__getitem__» ⟨[.bytes b t,.ref a],[]⟩) (λ _ R s=>s.heap.IsSliceOf a .none .none (.int (-1) u) ∧ b.size ≤ sizeLine ∧ ∀ t' k,R (.ok (.ret (.bytes b.toList.reverse.toArray t'))) { s with toks:=k }):=by
 refine .of_wp λ prog w A R s hS=>?_
 refine yG λ G_ k_=>?_
 obtain ⟨⟨o,ho,hc,hd⟩,hsz,h⟩:=hS
 refine k_ ?_
 have hT : s.TypeIs (.ref a) "slice":=⟨o,ho,hc⟩
 show wpAny _ _ (Bytes.payload (.bytes b t) >>= λ r=>_) _ _ s
 refine wpAny_bind (wpAny_of_eq (a:=b) rfl ?_)
 show wpAny _ _ (Bytes.subscript? (.ref a) >>= λ r=>_) _ _ s
 refine wpAny_bind ?_
 refine wpAny_bind (wpAny_specialOf hT slice_no_index (wpAny_pure ?_))
 refine wpAny_bind (wpAny_typeOf hT ?_)
 refine wpAny_bind ?_
 refine wpAny_bind (wpAny_field (x:=.int (-1) u) ho hd rfl ?_)
 kby_int
 refine wpAny_ite (KBy.ite_no (show ¬ ((rawInt (-1) == rawInt 0) = true) from Bool.false_ne_true) ?_)
 refine wpAny_bind (wpAny_field (x:=.none) ho hd rfl ?_)
 kby_none
 refine wpAny_bind (wpAny_field (x:=.none) ho hd rfl ?_)
 kby_none
 refine wpAny_pure ?_
 have go : wpAny (model prog w) A.in1 (sliceIndices (rawPart none) (rawPart none) (rawPart (some (-1))) b.size) (λ r s'=>r = sliceBounds none none (some (-1)) b.size ∧ s' = s) (λ _ _=>False) s:=
  wpAny_of_eq (sliceIndices_raw none none (some (-1)) b.size (by decide)) ⟨rfl,rfl⟩
 refine wpAny_bind (wpAny_mono go (λ r s' hr=>?_) λ _ _ e=>e.elim)
 obtain ⟨rfl,rfl⟩:=hr
 rw [krv_bounds]
 have hn : ¬ ((((b.size : Int) - 1 == 0 && (-1 : Int) == 1) && (-1 : Int) == (b.size : Int)) && !b.isEmpty) = true:=by simp
 refine wpAny_ite (KBy.ite_no hn ?_)
 rw [sliced_rev]
 exact wpAny_bind (wpAny_mkBytes (wpAny_pure ⟨_,rfl,h _ _⟩) (by simpa using hsz))
end
section
variable {prog : Program} {w : World} {cx : Cx} {K : Frag} {mg mb : Str -> Option Value} {g₀ : Heap}
variable {fc : Fc} {φ : Nm} {H : Hp} {A : Around} {env : Env} {g : Heap} {L : Addr} {m : Str -> Option Value} {R R₀ : List Addr} {s : Shared} {X : Nat -> Hp -> Prop}
set_option tactic.hygienic true in
theorem idxN_some {n : Nat} {k : Int} {j : Nat} (h : idxN n k = some j) : k = (j : Int) ∧ j < n ∧ j ≤ 1000000:=by
 unfold idxN at h
 split at h
 ·rename_i m
  split at h
  ·rename_i hb
   cases h
   simp only [Bool.and_eq_true] at hb
   exact ⟨rfl,of_decide_eq_true (by simpa [Nat.blt_eq] using hb.1),Nat.le_of_ble_eq_true hb.2⟩
  ·exact nsm h
 ·exact nsm h
theorem seqIndex_nat {j n : Nat} (h : j < n) : seqIndex? (j : Int) n = some j:=by
 have hn : ¬ ((j : Int) < 0):=by simp +arith
 have h2 : (j : Int) < (n : Int):=by lia
 simp [seqIndex?,hn,h2]
set_option tactic.hygienic true in
theorem idxS_some {n : Nat} {k : Int} {j : Nat} (h : idxS n k = some j) : seqIndex? k n = some j ∧ j < n ∧ -1000000 ≤ k ∧ k ≤ 1000000:=by
 unfold idxS at h
 split at h
 ·rename_i m
  split at h
  ·rename_i hb
   cases h
   simp only [Bool.and_eq_true] at hb
   have h1 : j < n:=of_decide_eq_true (by simpa [Nat.blt_eq] using hb.1)
   have h2:=Nat.le_of_ble_eq_true hb.2
   exact ⟨seqIndex_nat h1,h1,by simp only [Int.ofNat_eq_natCast]; simp +arith,by simp only [Int.ofNat_eq_natCast]; lia⟩
  ·exact nsm h
 ·rename_i m
  split at h
  ·rename_i hb
   cases h
   simp only [Bool.and_eq_true] at hb
   have h1:=Nat.le_of_ble_eq_true hb.1
   have h2:=Nat.le_of_ble_eq_true hb.2
   have e1 : Int.negSucc m < 0:=Int.negSucc_lt_zero m
   have e2 : Int.negSucc m + (n : Int) = ((n - (m + 1) : Nat) : Int):=by omega
   refine ⟨?_,by omega,by lia,by lia⟩
   have h3 : ((n - (m + 1) : Nat) : Int) < (n : Int):=by omega
   simp only [seqIndex?,e1,if_true,e2]
   simp [h3]
  ·exact nsm h
noncomputable def ItemOk (prog : Program) (w : World) (g₀ : Heap) (A : Around) (g : Heap) (L : Addr) (m : Str -> Option Value) (R : List Addr) (s : Shared) (x y : Value) (k : V -> Hp -> Prop) (X : Nat -> Hp -> Prop) : Prop:=
 ∃ T id,s.TypeIs x T ∧ typeLookup (.type T) "__getitem__" = pure (some (.builtin id)) ∧ Ok prog w g₀ A g L m VR (getItem x y) R s k X
theorem room_ (hu : A.units ≤ 9000) : (tupK prog w).room A.in1:=by
 show A.units + 1 < cLine
 unfold cLine; lia
theorem lt63 {j : Nat} (h : j ≤ 1000000) : (j : Int) < 2 ^ 63:=by lia
theorem ok_dictGet (hu : A.units ≤ 9000) (I : Inv prog w g₀ g L m R H s.heap) {o : MO} {a : Addr} {b : Obj} (hb : s.heap.get? a = some b) (ho : OR prog w R o b)
  {kv : V} {key : Value} {k : V -> Hp -> Prop} (h : optK False (dgetM H o kv).join λ r=>k r H) (rk : VR R kv key) : ItemOk prog w g₀ A g L m R s (.ref a) key k X:=by
 refine dget_look I hb ho (joinK h) rk λ r rx h hr hl=>optE h λ v e h=>?_
 subst e
 obtain ⟨x,hx,rx'⟩:=hr
 subst hx
 cases hl with
 | kv q kvs h1 h2 h3=>exact ⟨_,_,h2.typeIs,slot_dict_getitem.lookup,λ Qc Ec hQ _=>wpAny_getItem_of h1 h2.mapOf h3.symm (hQ.at I h rx' _)⟩
 | tk n c q kvs e h1 h2 h3 h4=>
  subst h1
  cases hp : atKey kvs q with
  | none=>rw [hp] at h4; cases h4
  | some p=>
   replace h4:=hp ▸ h4
   refine yG λ G_ k_=>?_
   cases h4
   refine k_ ?_
   exact ⟨_,_,h3.typeIs,slot_dict_getitem.lookup,λ Qc Ec hQ _=>wpAny_getItem_heap (room_ hu) h2 h3 hp (hQ.at I h rx' _)⟩
theorem ok_get (B : Base K mg mb g₀) (CX : CxOk cx prog w K g₀ mg mb) (hu : A.units ≤ 9000) (I : Inv prog w g₀ g L m R H s.heap) {v i : V} {x y : Value} {k : V -> Hp -> Prop} (h : optK False (getM cx v i H) λ r=>k r H) (rv : VR R v x) (ri : VR R i y) :
  ItemOk prog w g₀ A g L m R s x y k X:=by
 refine yAt.ok h (λ o ha h=>?_) λ h=>?_
 ·cases o with
  | list vs=>
   apply at_e B CX I ha rfl rv; rintro p ob hb ⟨xs,n,hc,_,_,hd,hv⟩ _
   apply yInt.ok h ri; intro kk t h
   refine bindK h λ j hi h0=>optE h0 λ r hr hk=>?_
   obtain ⟨rfl,h1,h2⟩:=idxN_some hi
   obtain ⟨z,hz,rz⟩:=hv.get hr
   exact ⟨_,_,⟨_,hb,hc⟩,slot_list_getitem.lookup,λ Qc Ec hQ _=>wpAny_getItem_list (items:=xs.toArray) ⟨_,hb,hc,_,hd⟩ (Int.natCast_nonneg j) (lt63 h2) (x:=z) ((List.getElem?_toArray ..).trans hz) (hQ.here I hk rz)⟩
  | tup vs=>
   apply at_e B CX I ha rfl rv; rintro p ob hb ⟨xs,n,hc,hd,hv⟩ _
   apply yInt.ok h ri; intro kk t h
   refine bindK h λ j hi h0=>optE h0 λ r hr hk=>?_
   obtain ⟨rfl,h1,h2⟩:=idxN_some hi
   obtain ⟨z,hz,rz⟩:=hv.get hr
   simp only [hv.length] at h1
   exact ⟨_,_,⟨_,hb,hc⟩,slot_tuple_getitem.lookup,λ Qc Ec hQ _=>getItem_tuple (items:=xs.toArray) (j:=j) ⟨_,hb,hc,_,hd⟩ (Int.le_trans (by decide) (Int.natCast_nonneg j)) (lt63 h2) (seqIndex_nat h1) (x:=z) ((List.getElem?_toArray ..).trans hz) (hQ.here I hk rz)⟩
  | dict es=>apply at_e B CX I ha rfl rv; exact λ p ob hb ho _=>ok_dictGet hu I hb ho h ri
  | tdict es=>apply at_e B CX I ha rfl rv; exact λ p ob hb ho _=>ok_dictGet hu I hb ho h ri
  | _=>exact h.elim
 ·cases v with
  | str l=>
   apply rv.eStr; intro t; apply yInt.ok h ri; intro kk u h
   refine mpK h λ c hc0 hk=>?_
   refine yG λ G_ k_=>?_
   obtain ⟨j,hi,hc⟩:=Option.bind_eq_some_iff.mp hc0
   obtain ⟨rfl,h1,h2⟩:=idxN_some hi
   refine k_ ?_
   refine ⟨_,_,typeIs_str _ _ _,F.slot_str_getitem.lookup,λ Qc Ec hQ _=>P.getItem_str (c:=c) ?_ ?_ (hQ.at I hk (.str [c] _) _)⟩
   ·simp; lia
   ·have : (⟨⟨l⟩⟩ : Str).length = l.length:=rfl
    simp only [this,seqIndex_nat h1]
    simpa using hc
  | bytes l=>
   revert h; apply rv.eByt; intro b t h; apply yInt.ok h ri; intro kk u h
   refine mpK h λ c hc0 h=>?_
   obtain ⟨j,hi,hc⟩:=Option.bind_eq_some_iff.mp hc0
   rw [bytesMap] at hi
   obtain ⟨h1,h2,h3,h4⟩:=idxS_some hi
   rw [List.getElem?_map] at hc
   revert h; apply mpE hc; intro c hc h
   refine ⟨_,_,typeIs_bytes _ _ _,FB.slot_bytes_getitem.lookup,λ Qc Ec hQ _=>getItem_gives (typeIs_bytes _ _ _) (by decide) FB.slot_bytes_getitem FB.entry_bytes_getitem (FB.args_bytes_getitem_2 _ _) (gives_bytes_getitem _ kk t u c ?_ ?_) (hQ.at I h (.int _ _) _)⟩
   ·simp only [Builtin.Bytes.fitsIndex,Bool.and_eq_true,decide_eq_true_eq]; lia
   ·rw [h1]; simpa using hc
  | _=>exact h.elim
theorem KR.len {R : List Addr} {es : List (KV × V)} {kvs : List (KV × Value)} (h : KR R es kvs) : es.length = kvs.length:=by
 induction h with
 | nil=>rfl
 | cons _ _ ih=>simp [ih]
theorem TR.len {R : List Addr} {es : List (List Int × Nat × V)} {kvs : List (List Int × Addr × Value)} (h : TR R es kvs) : es.length = kvs.length:=by
 induction h with
 | nil=>rfl
 | cons _ _ _ ih=>simp [ih]
set_option tactic.hygienic true in
theorem KR.put {R : List Addr} {es : List (KV × V)} {kvs : List (KV × Value)} (h : KR R es kvs) {v : V} {x : Value} (hv : VR R v x) (q : KV) (hn : (kvs.map (·.1)).Nodup) : KR R (dput q v es) (stored kvs q x):=by
 unfold stored
 induction h with
 | nil=>exact .cons hv .nil
 | cons hw ht ih=>
  rename_i k u y es kvs
  dsimp only [dput]
  rw [kvEq_eq]
  rw [List.map_cons,List.nodup_cons] at hn
  by_cases e : k = q
  ·subst e
   simp only [decide_true]
   have hs : ((k,y) :: kvs).any (λ kv=>decide (kv.1 = k)) = true:=by simp
   rw [if_pos hs,List.map_cons,if_pos rfl,map_store_of_not_mem kvs k x hn.1]
   exact .cons hv ht
  ·simp only [e,decide_false]
   have ih':=ih hn.2
   have ea : ((k,y) :: kvs).any (λ kv=>decide (kv.1 = q)) = kvs.any (λ kv=>decide (kv.1 = q)):=by simp [e]
   rw [ea]
   by_cases hs : kvs.any (λ kv=>decide (kv.1 = q)) = true
   ·rw [if_pos hs] at ih' ⊢
    rw [List.map_cons,if_neg e]
    exact .cons hw ih'
   ·rw [if_neg hs] at ih' ⊢
    exact .cons hw ih'
set_option tactic.hygienic true in
theorem TR.put {R : List Addr} {es : List (List Int × Nat × V)} {kvs : List (List Int × Addr × Value)} (h : TR R es kvs) {v : V} {x : Value} (hv : VR R v x) {n : Nat} {a : Addr} (hn : R[n]? = some a) (q : List Int) (nd : (kvs.map (·.1)).Nodup) : TR R (tput q n v es) (storedH kvs q a x):=by
 unfold storedH
 induction h with
 | nil=>exact .cons hn hv .nil
 | cons hm hw ht ih=>
  rename_i k n' a' u y es kvs
  dsimp only [tput]
  rw [ieq_eq]
  rw [List.map_cons,List.nodup_cons] at nd
  by_cases e : k = q
  ·subst e
   simp only [decide_true]
   have hs : (atKey ((k,a',y) :: kvs) k).isSome = true:=by simp [atKey]
   rw [if_pos hs,List.map_cons,map_putAt_of_not_mem kvs k x nd.1]
   have : putAt k x (k,a',y) = (k,a',x):=by simp [putAt]
   simp only [this]
   exact .cons hm hv ht
  ·simp only [e,decide_false]
   have ih':=ih nd.2
   have ea : atKey ((k,a',y) :: kvs) q = atKey kvs q:=by simp [atKey,e]
   refine ea ▸ ?_
   by_cases hs : (atKey kvs q).isSome = true
   ·rw [if_pos hs] at ih' ⊢
    rw [List.map_cons]
    have : putAt q x (k,a',y) = (k,a',y):=by simp [putAt,e]
    simp only [this]
    exact .cons hm hw ih'
   ·rw [if_neg hs] at ih' ⊢
    exact .cons hm hw ih'
theorem VRs.size {R : List Addr} {vs : List V} {xs : List Value} (h : VRs R vs xs) : xs.toArray.size = vs.length:=by simp [h.length]
theorem ok_set (B : Base K mg mb g₀) (hu : A.units ≤ 9000) (I : Inv prog w g₀ g L m R H s.heap) {v i u : V} {x y z : Value} {k : Unit -> Hp -> Prop} (h : setE' False v i u H λ H'=>k () H') (rv : VR R v x) (ri : VR R i y) (ru : VR R u z) :
  Ok prog w g₀ A g L m unitρ (setItem x y z) R s k X:=by
 intro Qc Ec hQ _
 delta setE' at h
 cases v with
 | ref n=>
  apply rv.eRef; intro a hn
  cases hH : H[n]? with
  | none=>dsimp only at h; replace h:=hH ▸ h; exact h.elim
  | some o=>
   dsimp only at h
   rw [hH] at h
   cases o with
   | list vs=>
    cases i with
    | int kk=>
     apply ri.eInt; intro t
     refine optE h λ j hi hk=>?_
     refine yG λ G_ k_=>?_
     obtain ⟨ob,hb,xs,nn,hc,hdn,hsl,hd,hv⟩:=I.at hH rfl hn
     obtain ⟨rfl,h1,h2⟩:=idxN_some hi
     obtain ⟨oc,odi,oda,osl⟩:=ob
     dsimp only at hc hdn hsl hd
     subst hc hdn hsl hd
     refine k_ ?_
     have hq:=PySem.IsL.update hb (·.setIfInBounds j z)
     rw [List.setIfInBounds_toArray] at hq
     refine ki_setAt (items:=xs.toArray) (n:=nn) hb (Int.natCast_nonneg j) (lt63 h2) (by rw [hv.size]; exact Int.ofNat_lt.mpr h1) ?_
     refine hQ () _ R () _ hk (Ext.refl R) (I.turn hH rfl hn (λ c o hc ho=>(Heap.get?_update_other _ _ (Ne.symm hc)).trans ho) λ _=>⟨_,hq,xs.set j z,_,rfl,rfl,rfl,rfl,hv.set ru j⟩) trivial Same.mk'
    | _=>exact h.elim
   | dict es=>
    obtain ⟨ob,hb,kvs,hd,hr⟩:=I.at hH rfl hn
    delta dsetM at h
    cases hq : keyOf i with
    | some kq=>
     dsimp only at h
     rw [hq] at h
     refine yB.ble h λ hl h=>wpAny_setItem_pairs (keyOf_is hq ri) (dictOf_heap hb hd) (λ h' hm' hs'=>?_) (by simp only [<- hr.len,sizeLine_eq]; lia)
     refine hQ () _ R () _ h (Ext.refl R) (I.turn hH rfl hn (λ c o hc ho=>(hs'.2 c hc).trans ho) λ _=>?_) trivial Same.mk'
     refine yG λ G_ k_=>?_
     obtain ⟨o',ho',hd'⟩:=Heap.dictOf_iff.mp hm'
     obtain ⟨_,_,_,_,_,_,nd⟩:=hd
     refine k_ ?_
     exact ⟨o',ho',_,hd',hr.put ru kq nd⟩
    | none=>
     dsimp only at h
     replace h:=hq ▸ h
     apply yR.ok h ri; intro n' c hcn h
     revert hr hH; apply yE.ok h; intro h hH hr
     refine bindK h λ ks hks h=>?_
     have e:=hr.nil_
     subst e
     refine wpAny_setItem_heap (room_ hu) (tkey_is I hks hcn) (empty_heap hb hd) (λ h' hm' hs'=>?_) (Nat.zero_le _)
     refine hQ () _ R () _ h (Ext.refl R) (I.turn hH rfl hn (λ c o hc ho=>(hs'.2 c hc).trans ho) λ _=>?_) trivial Same.mk'
     refine yG λ G_ k_=>?_
     obtain ⟨o',es',ep',ho',x1,x2,x3,_,x5⟩:=hm'
     refine k_ ?_
     exact ⟨o',ho',_,⟨es',ep',x1,x2,x3,x5⟩,.cons hcn ru .nil⟩
   | tdict es=>
    obtain ⟨ob,hb,kvs,hd,hr⟩:=I.at hH rfl hn
    delta dsetM at h
    apply yR.ok h ri; intro n' c hcn h
    refine bindK h λ ks hks h=>yB.ok h λ ht h=>yB.ble h λ hl h=>?_
    refine wpAny_setItem_heap (room_ hu) (tkey_is I hks hcn) (tdict_heap I hb hd hr ht) (λ h' hm' hs'=>?_) (by simp only [<- hr.len,sizeLine_eq]; lia)
    refine hQ () _ R () _ h (Ext.refl R) (I.turn hH rfl hn (λ c o hc ho=>(hs'.2 c hc).trans ho) λ _=>?_) trivial Same.mk'
    refine yG λ G_ k_=>?_
    obtain ⟨o',es',ep',ho',x1,x2,x3,_,x5⟩:=hm'
    obtain ⟨_,_,_,_,_,nd⟩:=hd
    refine k_ ?_
    exact ⟨o',ho',_,⟨es',ep',x1,x2,x3,x5⟩,hr.put ru hcn ks nd⟩
   | _=>exact h.elim
 | _=>exact h.elim
end
end
theorem clampI_le (n : Nat) (k : Int) : clampI n k ≤ n:=by
 unfold clampI
 cases k with
 | ofNat m=>
  dsimp only
  cases q : Nat.ble m n with
  | true=>exact Nat.le_of_ble_eq_true q
  | false=>exact Nat.le_refl n
 | negSucc m=>exact Nat.sub_le _ _
theorem clampI_eq (n : Nat) (k : Int) : clampI n k = clipAt n k:=by
 delta clampI clipAt
 cases k with
 | ofNat m=>
  have h0 : (0 : Int) ≤ Int.ofNat m:=Int.natCast_nonneg m
  rw [if_neg (Int.not_lt.mpr h0)]
  dsimp only
  cases q : Nat.ble m n with
  | true=>simp only [Int.min_eq_left (show Int.ofNat m ≤ (n : Int) from Int.ofNat_le.mpr (Nat.le_of_ble_eq_true q)),Int.max_eq_right h0]; rfl
  | false=>simp only [Int.min_eq_right (show (n : Int) ≤ Int.ofNat m from Int.ofNat_le.mpr (Nat.le_of_lt (Nat.lt_of_not_le λ e=>by replace q:=(Nat.ble_eq_true_of_le e) ▸ q; cases q))),Int.max_eq_right (Int.natCast_nonneg n)]; rfl
 | negSucc m=>
  refine (if_pos (Int.negSucc_lt_zero m)) ▸ ?_
  dsimp only
  have e : Int.negSucc m + (n : Int) = Int.subNatNat n (m + 1):=rfl
  refine e ▸ ?_
  rcases Nat.lt_or_ge n (m + 1) with h | h
  ·rw [Int.subNatNat_of_lt h,Nat.sub_eq_zero_of_le (Nat.le_of_lt h),Int.max_eq_left (Int.le_trans (Int.min_le_left _ _) (Int.le_of_lt (Int.negSucc_lt_zero _)))]; rfl
  ·rw [Int.subNatNat_of_le h,Int.min_eq_left (Int.ofNat_le.mpr (Nat.sub_le _ _)),Int.max_eq_right (Int.natCast_nonneg _)]; rfl
theorem cutL_eq {α : Type} (l : List α) (lo hi : Option Int) : cutL l lo hi = (l.drop (lo.elim 0 (clipAt l.length))).take (hi.elim l.length (clipAt l.length) - lo.elim 0 (clipAt l.length)):=by
 dsimp only [cutL]
 cases lo <;> cases hi <;> simp [clampI_eq]
theorem cutL_map {α β : Type} (f : α -> β) (l : List α) (lo hi : Option Int) : cutL (l.map f) lo hi = (cutL l lo hi).map f:=by
 rw [cutL_eq,cutL_eq,List.length_map,<- List.map_drop,<- List.map_take]
theorem pick_cut (items : List Value) (lo hi : Option Int) : slicePick items.toArray lo hi none = (cutL items lo hi).toArray:=by
 unfold slicePick
 rw [sliceBounds_plain,cutL_eq]
 rw [sliceRange_one,pick_run,List.size_toArray]
theorem clip_le (n : Nat) (hi : Option Int) : hi.elim n (clipAt n) ≤ n:=by
 cases hi with
 | none=>exact Nat.le_refl _
 | some k=>rw [Option.elim_some,<- clampI_eq]; exact clampI_le n k
open PySem.Builtin PySem.Builtin.Str in
theorem strCut (l : List Nat) (lo hi : Option Int) : strSliceIndices lo hi 1 l.length = (List.range (hi.elim l.length (clipAt l.length) - lo.elim 0 (clipAt l.length))).map (lo.elim 0 (clipAt l.length) + ·):=by
 rw [<- sliceRange_one]
 delta strSliceIndices
 dsimp only
 cases lo <;> cases hi <;> simp [clipAt_cast]
theorem VRs.drop {R : List Addr} {vs : List V} {xs : List Value} (h : VRs R vs xs) : ∀ n : Nat,VRs R (vs.drop n) (xs.drop n):=by
 induction h with
 | nil=>intro n; simp; exact .nil
 | cons h t ih=>
  intro n
  cases n with
  | zero=>exact .cons h t
  | succ n=>exact ih n
theorem VRs.take {R : List Addr} {vs : List V} {xs : List Value} (h : VRs R vs xs) : ∀ n : Nat,VRs R (vs.take n) (xs.take n):=by
 induction h with
 | nil=>intro n; simp; exact .nil
 | cons h t ih=>
  intro n
  cases n with
  | zero=>exact .nil
  | succ n=>exact .cons h (ih n)
theorem VRs.cut {R : List Addr} {vs : List V} {xs : List Value} (h : VRs R vs xs) (lo hi : Option Int) : VRs R (cutL vs lo hi) (cutL xs lo hi):=by
 rw [cutL_eq,cutL_eq,<- h.length]
 exact (h.drop _).take _
section
variable {prog : Program} {w : World} {cx : Cx} {K : Frag} {mg mb : Str -> Option Value} {g₀ : Heap}
variable {fc : Fc} {φ : Nm} {H : Hp} {A : Around} {env : Env} {g : Heap} {L : Addr} {m : Str -> Option Value} {R R₀ : List Addr} {s : Shared} {X : Nat -> Hp -> Prop}
noncomputable def partOf : Option Int -> Option (Int × Tok) -> Prop
 | none,p=>p = none
 | some i,p=>∃ t,p = some (i,t)
theorem part_val {o : Option Int} {x : Value} (h : IsPart x o) : ∃ p,partOf o p ∧ x = partValue p ∧ p.map (·.1) = o:=by
 cases h with
 | none=>exact ⟨none,rfl,rfl,rfl⟩
 | int i t=>exact ⟨some (i,t),⟨t,rfl⟩,rfl,rfl⟩
theorem cut_all {l : List Nat} {lo hi : Option Int} (hw : hi.elim l.length (clipAt l.length) - lo.elim 0 (clipAt l.length) = l.length) : cutL l lo hi = l:=by
 have h1:=clip_le l.length hi
 rw [cutL_eq]
 have a0 : lo.elim 0 (clipAt l.length) = 0 ∨ l.length = 0:=by lia
 rcases a0 with a0 | a0
 ·rw [hw,a0,List.drop_zero,List.take_length]
 ·have : l = []:=List.length_eq_zero_iff.mp a0
  subst this
  simp
theorem cut_len {α : Type} (l : List α) (lo hi : Option Int) : (cutL l lo hi).length ≤ l.length:=by
 simp only [cutL_eq,List.length_take,List.length_drop]
 exact Nat.le_trans (Nat.min_le_right _ _) (Nat.sub_le _ _)
section
variable {v : V} {x pl pu ps : Value} {lo hi st : Option Int} {a : Addr} {k : V -> Hp -> Prop} (I : Inv prog w g₀ g L m R H s.heap) (hs : s.heap.IsSliceOf a pl pu ps) (hl : IsPart pl lo) (hu : IsPart pu hi)
include I hs hl hu
theorem slc_bytes {b : Array UInt8} {t : Tok} (hp : ps = .none) (hz : b.size ≤ 1000000) (h : k (.bytes (cutL (b.toList.map UInt8.toNat) lo hi)) H) : ItemOk prog w g₀ A g L m R s (.bytes b t) (.ref a) k X:=by
 subst hp
 refine ⟨_,_,typeIs_bytes _ _ _,FB.slot_bytes_getitem.lookup,λ Qc Ec hQ _=>getItem_meets (typeIs_bytes _ _ _) (by decide) FB.slot_bytes_getitem FB.entry_bytes_getitem (FB.args_bytes_getitem_2 _ _) (KBc.meets_slice2 b t a hl hu)
  ⟨hs,Nat.le_trans (KBc.size_picked_le b lo hi) (by simp only [sizeLine_eq]; lia),λ t' k'=>hQ.at I h ?_ _⟩⟩
 simp only [cutL_map,KBc.picked_eq,show (b.toList.drop (lo.elim 0 (clipAt b.size))).take (hi.elim b.size (clipAt b.size) - lo.elim 0 (clipAt b.size)) = cutL b.toList lo hi from by simp only [cutL_eq,Array.length_toList]]
 exact VR.bytes (R:=R) (cutL b.toList lo hi).toArray t'
theorem slc_str {l : List Nat} {t : Tok} (hp : ps = .none) (hz : l.length ≤ 1000000) (h : k (.str (cutL l lo hi)) H) : ItemOk prog w g₀ A g L m R s (.str ⟨⟨l⟩⟩ t) (.ref a) k X:=by
 refine yG λ G_ k_=>?_
 subst hp
 obtain ⟨p1,q1,rfl,e1⟩:=part_val hl
 obtain ⟨p2,q2,rfl,e2⟩:=part_val hu
 refine k_ ?_
 refine ⟨_,_,typeIs_str _ _ _,F.slot_str_getitem.lookup,λ Qc Ec hQ _=>wpAny_getItem_str_slice (l:=p1) (u:=p2) (st:=none) hs rfl ?_⟩
 have hpk : slicePicked ⟨⟨l⟩⟩ p1 p2 none = (List.range (hi.elim l.length (clipAt l.length) - lo.elim 0 (clipAt l.length))).map (lo.elim 0 (clipAt l.length) + ·):=by
  unfold slicePicked
  simp only [e1,e2]
  exact strCut l lo hi
 clear hs hl hu q1 q2 e1 e2
 dsimp only [sliceMade]
 split
 ·rename_i hw
  simp only [Bool.and_eq_true] at hw
  have hw:=beq_iff_eq.mp hw.2
  simp only [hpk,List.length_map,List.length_range] at hw
  rw [cut_all hw] at h
  exact hQ.here I h (.str l t)
 ·rw [hpk,pick_run,<- cutL_eq]
  exact ⟨Nat.le_trans (cut_len l lo hi) (by simp only [sizeLine_eq]; lia),hQ.at I h (.str _ _) _⟩
theorem slc_list {ob : Obj} {c : Addr} {vs : List V} {xs : List Value} {n : Nat} (hp : ps = .none) (hb : s.heap.get? c = some ob) (hc : ob.cls = .type "list") (hd : ob.data = .seq (List.toArray xs) n) (hv : VRs R vs xs) (hz : vs.length ≤ 1000000) (h : k (.ref H.length) (H ++ [.list (cutL vs lo hi)])) :
  ItemOk prog w g₀ A g L m R s (.ref c) (.ref a) k X:=by
 subst hp
 exact ⟨_,_,⟨_,hb,hc⟩,slot_list_getitem.lookup,λ Qc Ec hQ _=>wpAny_getItem_list_slice (items:=xs.toArray) ⟨_,hb,hc,_,hd⟩ hs hl hu .none (λ e=>nomatch e) (hQ.made I h I.newRef ⟨_,0,rfl,rfl,rfl,by rw [pick_cut],(hv.cut lo hi).ext (Ext.push R _)⟩ s.toks) (by simp only [hv.size,sizeLine_eq]; lia)⟩
theorem slc_rev {b : Array UInt8} {t : Tok} (h1 : lo = none) (h2 : hi = none) (h3 : IsPart ps (some (.negSucc 0))) (hz : b.size ≤ 1000000) (h : k (.bytes (b.toList.map UInt8.toNat).reverse) H) : ItemOk prog w g₀ A g L m R s (.bytes b t) (.ref a) k X:=by
 refine yG λ G_ k_=>?_
 subst h1 h2
 cases hl; cases hu; cases h3
 refine k_ ?_
 refine ⟨_,_,typeIs_bytes _ _ _,FB.slot_bytes_getitem.lookup,λ Qc Ec hQ _=>getItem_meets (typeIs_bytes _ _ _) (by decide) FB.slot_bytes_getitem FB.entry_bytes_getitem (FB.args_bytes_getitem_2 _ _) (meets_rev b t a _)
  ⟨hs,by simp only [sizeLine_eq]; lia,λ t' k'=>hQ.at I h ?_ _⟩⟩
 refine List.map_reverse ▸ ?_
 exact VR.bytes (R:=R) b.toList.reverse.toArray t'
theorem ok_slice (h : optK False (sliceM v lo hi st H) λ q=>k q.1 q.2) (rv : VR R v x) (hp : IsPart ps st) : ItemOk prog w g₀ A g L m R s x (.ref a) k X:=by
 cases st with
 | none=>
  have hp : ps = .none:=by cases hp; rfl
  cases v with
  | bytes l=>
   revert h; apply rv.eByt; intro b t h
   exact yB.ble h λ hz h=>slc_bytes I hs hl hu hp (bytesMap b ▸ hz) h
  | str l=>
   apply rv.eStr; intro t
   exact yB.ble h λ hz h=>slc_str I hs hl hu hp hz h
  | ref n=>
   apply rv.eRef; intro c hn
   refine yAt.ok h (λ o hH h=>?_) False.elim
   cases o with
   | list vs=>
    obtain ⟨ob,hb,xs,nn,hc,_,_,hd,hv⟩:=I.at hH rfl hn
    exact yB.ble h λ hz h=>slc_list I hs hl hu hp hb hc hd hv hz h
   | slist vs _=>
    refine yG λ G_ k_=>?_
    obtain ⟨ob,hb,rfl,xs,nn,hd,hv⟩:=I.at hH rfl hn
    subst hd
    refine k_ ?_
    exact yB.ble h λ hz h=>slc_list I hs hl hu hp hb rfl rfl hv hz h
   | _=>exact h.elim
  | _=>exact h.elim
 | some q=>cases lo with
  | none=>cases hi with
   | none=>cases v with
    | bytes l=>cases q with
     | negSucc m=>cases m with
      | zero=>
       revert h; apply rv.eByt; intro b t h
       exact yB.ble h λ hz h=>slc_rev I hs hl hu rfl rfl hp (bytesMap b ▸ hz) h
      | succ m=>exact (show False from h).elim
     | ofNat _=>exact (show False from h).elim
    | _=>exact (show False from h).elim
   | some _=>exact (show False from h).elim
  | some _=>exact (show False from h).elim
end
end
section
variable {prog : Program} {w : World} {cx : Cx} {K : Frag} {mg mb : Str -> Option Value} {g₀ : Heap}
variable {fc : Fc} {φ : Nm} {H : Hp} {A : Around} {env : Env} {g : Heap} {L : Addr} {m : Str -> Option Value} {R R₀ : List Addr} {s : Shared} {X : Nat -> Hp -> Prop}
variable {e : Expr -> Hp -> (V -> Hp -> Prop) -> Prop} {t : Expr -> Hp -> (Bool -> Hp -> Prop) -> Prop}
inductive PRs (R : List Addr) : List (V × V) -> List (Value × Value) -> Prop where
 | nil : PRs R [] []
 | cons {a b : V} {x y : Value} {vs : List (V × V)} {xs : List (Value × Value)} (h : VR R a x) (k : VR R b y) (t : PRs R vs xs) : PRs R ((a,b) :: vs) ((x,y) :: xs)
theorem PRs.ext {R R' : List Addr} (e : Ext R R') {vs : List (V × V)} {xs : List (Value × Value)} (h : PRs R vs xs) : PRs R' vs xs:=by
 induction h with
 | nil=>exact .nil
 | cons h k _ ih=>exact .cons (h.ext e) (k.ext e) ih
theorem PRs.len {R : List Addr} {vs : List (V × V)} {xs : List (Value × Value)} (h : PRs R vs xs) : vs.length = xs.length:=by
 induction h with
 | nil=>rfl
 | cons _ _ _ ih=>simp [ih]
theorem ok_pairs {pos : Pos} (S : SE prog w g₀ A env g L m R₀ X e) : ∀ {ks : List (Option Expr)} {vs : List Expr} {H : Hp} {k : List (V × V) -> Hp -> Prop} {R : List Addr} {s : Shared},pairsE False e ks vs H k -> Ext R₀ R -> Inv prog w g₀ g L m R H s.heap ->
  Ok prog w g₀ A g L m PRs (evalPairs (pairTrees ks vs env pos)) R s k X:=by
 intro l_
 induction l_ with
 | nil=>
  intro z1_ H k R s h _ I
  cases z1_ with
  | nil=>
   exact λ Qc Ec hQ _=>evalPairs_nil (hQ.here I h .nil)
  | cons _ _=>
   exact h.elim
 | cons z2_ ks ih_=>
  intro z3_ H k R s h eR I
  cases z2_ with
  | none=>
   exact h.elim
  | some q=>
   cases z3_ with
   | nil=>
    exact h.elim
   | cons v vs=>
    intro Qc Ec hQ hE
    refine pairTrees_cons_walk (S q H _ R s h eR I _ _ (λ a H1 R1 x s1 h1 e1 I1 ra sm1=>S v H1 _ R1 s1 h1 (eR.trans e1) I1 _ _ (λ b H2 R2 y s2 h2 e2 I2 rb sm2=>?_) (hE.on e1 sm1)) hE)
    refine ih_ h2 (eR.trans (e1.trans e2)) I2 _ _ (λ ps H3 R3 xs s3 h3 e3 I3 rs sm3=>?_) (hE.on (e1.trans e2) (sm1.trans sm2))
    exact hQ _ H3 R3 _ s3 h3 (e1.trans (e2.trans e3)) I3 (.cons (ra.ext (e2.trans e3)) (rb.ext e3) rs) (sm1.trans (sm2.trans sm3))
theorem merged_nodup {kvs : List (KV × Value)} : ∀ {acc : List (KV × Value)},(acc.map (·.1)).Nodup -> ((merged acc kvs).map (·.1)).Nodup:=by
 induction kvs with
 | nil=>intro acc h; exact h
 | cons p kvs ih=>
  intro acc h
  show ((merged (stored acc p.1 p.2) kvs).map (·.1)).Nodup
  apply ih
  unfold stored
  split
  ·rw [keys_map_store]; exact h
  ·rename_i hn
   rw [List.map_append,List.nodup_append]
   refine ⟨h,by simp,?_⟩
   intro a ha b hb
   rw [List.map_cons,List.map_nil,List.mem_singleton] at hb
   rintro rfl
   obtain ⟨q,hq,rfl⟩:=List.mem_map.mp ha
   exact hn (List.any_eq_true.mpr ⟨q,hq,by simp [hb]⟩)
theorem stored_nodup {acc : List (KV × Value)} (h : (acc.map (·.1)).Nodup) (q : KV) (x : Value) : ((stored acc q x).map (·.1)).Nodup:=merged_nodup (kvs:=[(q,x)]) h
set_option tactic.hygienic true in
theorem dputs_rel {R : List Addr} {ps : List (V × V)} {xs : List (Value × Value)} {acc es : List (KV × V)} {kvs : List (KV × Value)} (r : PRs R ps xs) (h : dputs acc ps = some es) (hk : KR R acc kvs) (nd : (kvs.map (·.1)).Nodup) :
  ∃ more,Carries (kvKind prog w) xs more ∧ KR R es (merged kvs more):=by
 induction r generalizing acc kvs with
 | nil=>obtain rfl:=Option.some.inj h; exact ⟨[],trivial,hk⟩
 | cons ha hb _ ih=>
  dsimp only [dputs] at h
  split at h
  ·rename_i q hq
   obtain ⟨more,h1,h2⟩:=ih h (hk.put hb q nd) (stored_nodup nd q _)
   exact ⟨(q,_) :: more,⟨keyOf_is hq ha,rfl,h1⟩,h2⟩
  ·exact nsm h
theorem pairs_some {ks : List (Option Expr)} {vs : List Expr} {H : Hp} {k : List (V × V) -> Hp -> Prop} (h : pairsE False e ks vs H k) (q : vs = []) : ks = []:=by
 subst q
 cases ks with
 | nil=>rfl
 | cons a r=>cases a <;> exact h.elim
end
structure Snd (prog : Program) (w : World) (g₀ : Heap) (ih : Ev Prop) : Prop where
 e : ∀ {fc φ x H k X A env g L m R s},ih.e fc φ x H k X -> Arnd g₀ A fc g L -> EnvOk A fc env φ L m R -> Inv prog w g₀ g L m R H s.heap -> Ok prog w g₀ A g L m VR (eval x env) R s k X
 t : ∀ {fc φ x H k X A env g L m R s},ih.t fc φ x H k X -> Arnd g₀ A fc g L -> EnvOk A fc env φ L m R -> Inv prog w g₀ g L m R H s.heap -> Ok prog w g₀ A g L m boolρ (isTrue x env (eval x env)) R s k X
section
variable {prog : Program} {w : World} {cx : Cx} {K : Frag} {mg mb : Str -> Option Value} {g₀ : Heap}
variable {fc : Fc} {φ : Nm} {H : Hp} {A : Around} {env : Env} {g : Heap} {L : Addr} {m : Str -> Option Value} {R R₀ : List Addr} {s : Shared} {X : Nat -> Hp -> Prop} {ih : Ev Prop}
theorem Snd.se (S : Snd prog w g₀ ih) (Z : Arnd g₀ A fc g L) (E : EnvOk A fc env φ L m R) : SE prog w g₀ A env g L m R X (λ x H k=>ih.e fc φ x H k X):=λ x H k R' s h e I=>S.e h Z (E.ext e) I
theorem Snd.st (S : Snd prog w g₀ ih) (Z : Arnd g₀ A fc g L) (E : EnvOk A fc env φ L m R) : ST prog w g₀ A env g L m R X (λ x H k=>ih.t fc φ x H k X):=λ x H k R' s h e I=>S.t h Z (E.ext e) I
theorem Arnd.units (Z : Arnd g₀ A fc g L) : A.units ≤ 9000:=by have:=Z.uni; lia
theorem snd_t (B : Base K mg mb g₀) (CX : CxOk cx prog w K g₀ mg mb) (S : Snd prog w g₀ ih) {x : Expr} {k : Bool -> Hp -> Prop} (h : tStep False cx ih fc φ x H k X) (Z : Arnd g₀ A fc g L) (E : EnvOk A fc env φ L m R) (I : Inv prog w g₀ g L m R H s.heap) :
  Ok prog w g₀ A g L m boolρ (isTrue x env (eval x env)) R s k X:=by
 have other : ih.e fc φ x H (λ v H1=>optK False (truthM H1 v) λ b=>k b H1) X -> (isTrue x env (eval x env) = (do let v <- eval x env; standAt x.pos; holding [v] (truthy v))) -> Ok prog w g₀ A g L m boolρ (isTrue x env (eval x env)) R s k X:=λ h q=>by
  rw [q]
  refine (S.e h Z E I).bind λ v H1 R1 a s1 hv e1 I1 ra sm=>?_
  obtain ⟨b,hb,hv⟩:=optK_some hv
  exact Ok.standAt (Ok.holding (ok_truth hb hv ra I1))
 cases x with
 | UnaryOp op y p=>cases op with
  | Not=>exact λ Qc Ec hQ hE=>wpAny_isTrue_Not (S.t h Z E I _ _ (λ b H1 R1 a s1 hb e1 I1 ra sm=>by subst ra; exact hQ _ H1 R1 _ s1 hb e1 I1 rfl sm) hE)
  | _=>exact other h rfl
 | BoolOp op vs p=>exact ok_boolT (S.st Z E) h (Ext.refl R) I
 | IfExp tt b o p=>
  refine (S.t h Z E I).bind λ q H1 R1 a s1 hb e1 I1 ra sm=>?_
  cases ra
  cases q with
  | true=>exact S.t hb Z (E.ext e1) I1
  | false=>exact S.t hb Z (E.ext e1) I1
 | Compare l ops cs p=>
  refine (S.e h Z E I).bind λ v H1 R1 a s1 hv e1 I1 ra sm=>?_
  exact ok_test B CX Z.units ((S.se Z E).up e1) hv ra (Ext.refl R1) I1
 | _=>exact other h rfl
abbrev partρ : List Addr -> Option Int -> Value -> Prop:=λ _ o x=>IsPart x o
theorem ok_part {e : Expr -> Hp -> (V -> Hp -> Prop) -> Prop} (S : SE prog w g₀ A env g L m R₀ X e) {o : Option Expr} {k : Option Int -> Hp -> Prop} (h : partE False e o H k) (eR : Ext R₀ R) (I : Inv prog w g₀ g L m R H s.heap) :
  Ok prog w g₀ A g L m partρ (evalPart o env) R s k X:=by
 cases o with
 | none=>exact Ok.pure I h .none
 | some x=>
  refine (S x H _ R s h eR I).ends (λ v H' R' a hv hr=>?_) λ _ _ x=>x
  cases hr with
  | int i t=>exact ⟨some i,hv,.int i t⟩
  | none=>exact ⟨none,hv,.none⟩
  | _=>exact (show False from hv).elim
theorem base_plain {o : Expr} {name : Str} {u : Sem Value} (h : baseE o = true) : attributeBase o name env u = u:=by
 cases o with
 | Call f args ks p=>
  cases f with
  | Name x q=>
   cases args with
   | nil=>
    cases ks with
    | nil=>exact nft h
    | cons _ _=>rfl
   | cons _ _=>rfl
  | _=>rfl
 | _=>rfl
theorem intPow (m n : Nat) : ((m : Int) ^ n) = ((m ^ n : Nat) : Int):=by rfl
theorem natC_eq {x : Expr} {n : Nat} (h : natC x = some n) : ∃ k p,x = .Constant (.int (.ofNat n)) k p:=by
 cases x with
 | Constant c k p=>cases c with
  | int i=>cases i with
   | ofNat m=>cases h; exact ⟨_,_,rfl⟩
   | negSucc _=>exact nsm h
  | _=>exact nsm h
 | _=>exact nsm h
theorem new_dict (I : Inv prog w g₀ g L m R H s.heap) : Inv prog w g₀ g L m (R ++ [s.heap.objs.size]) (H ++ [.dict []]) (s.heap.push { cls:=.type "dict",data:=.dict #[] }):=
 I.push (o:=.dict []) (b:={ cls:=.type "dict",data:=.dict #[] }) rfl ⟨[],⟨#[],0,⟨rfl,rfl,rfl⟩,rfl,λ e he=>by simp at he,.nil,List.nodup_nil⟩,.nil⟩
theorem dict_fin (I : Inv prog w g₀ g L m R H s.heap) {k : V -> Hp -> Prop} {R3 : List Addr} {H3 : Hp} {s3 : Shared} {ps : List (V × V)} {xs : List (Value × Value)} {Qc : Value -> Shared -> Prop} (hQ : EndV prog w g₀ g L m VR R s k Qc) (e3 : Ext (R ++ [s.heap.objs.size]) R3) (I3 : Inv prog w g₀ g L m R3 H3 s3.heap) (rs : PRs R3 ps xs) (sm3 : Same s s3)
  (h3 : optK False (dputs [] ps) λ es=>optK False (hD H3[H.length]? λ es0=>yE es0 (some ())) λ _=>k (.ref H.length) (H3.set H.length (.dict es))) : ∃ kvs,Carries (kvKind prog w) xs kvs ∧ s3.heap.DictOf (kvKind prog w) s.heap.objs.size [] ∧ ∀ h' tk,h'.DictOf (kvKind prog w) s.heap.objs.size (merged [] kvs) -> Heap.SameBut s.heap.objs.size s3.heap h' -> Qc (.ref s.heap.objs.size) { s3 with heap:=h',toks:=tk }:=by
 refine optE h3 λ es hes h3=>hD.ok h3 λ es0 hH h3=>?_
 revert hH; apply yE.ok h3; intro h3 hH
 have hR : R3[H.length]? = some s.heap.objs.size:=e3.get (get_len I.len)
 refine yG λ G_ k_=>?_
 obtain ⟨ob,hob,kvs,hd,hr⟩:=I3.at hH rfl hR
 have e:=hr.nil_
 subst e
 obtain ⟨more,m1,m2⟩:=dputs_rel rs hes (KR.nil (R:=R3)) List.nodup_nil
 refine k_ ?_
 refine ⟨more,m1,dictOf_heap hob hd,λ h' tk hm' hs'=>?_⟩
 refine hQ _ _ R3 _ _ h3 ((Ext.push R _).trans e3) (I3.turn hH rfl hR (λ c o hc ho=>(hs'.2 c hc).trans ho) λ _=>?_) (.ref hR) (sm3.trans Same.mk')
 obtain ⟨o',ho',hd'⟩:=Heap.dictOf_iff.mp hm'
 exact ⟨o',ho',_,hd',m2⟩
theorem snd_e (B : Base K mg mb g₀) (CX : CxOk cx prog w K g₀ mg mb) (S : Snd prog w g₀ ih)
  (hCall : ∀ {f args ks pos k},eStep False cx ih fc φ (.Call f args ks pos) H k X -> Ok prog w g₀ A g L m VR (eval (.Call f args ks pos) env) R s k X)
  (hComp : ∀ {el gs sc pos k},eStep False cx ih fc φ (.ListComp el gs sc pos) H k X -> Ok prog w g₀ A g L m VR (eval (.ListComp el gs sc pos) env) R s k X)
  {x : Expr} {k : V -> Hp -> Prop} (h : eStep False cx ih fc φ x H k X) (Z : Arnd g₀ A fc g L) (E : EnvOk A fc env φ L m R) (I : Inv prog w g₀ g L m R H s.heap) :
  Ok prog w g₀ A g L m VR (eval x env) R s k X:=by
 cases x with
 | Call f args ks pos=>exact hCall h
 | ListComp el gs sc pos=>exact hComp h
 | Constant c k0 pos=>
  obtain ⟨v,hv,hk⟩:=optK_some (show optK False (constV c) _ from h)
  exact ok_const hv hk I
 | Name x pos=>
  obtain ⟨v,hv,hk⟩:=optK_some (show optK False (loadM cx fc.sc x φ H) _ from h)
  exact ok_name B CX hv hk E I
 | BoolOp op vs pos=>exact ok_boolV (S.se Z E) h (Ext.refl R) I
 | BinOp l op r pos=>
  have plain : (ih.e fc φ l H (λ a H1=>ih.e fc φ r H1 (λ b H2=>binE False op a b H2 k) X) X) -> Ok prog w g₀ A g L m VR (eval (.BinOp l op r pos) env) R s k X:=λ h=>by
   refine (S.e h Z E I).bind λ a H1 R1 x s1 ha e1 I1 ra sm=>?_
   refine (Ok.holding (S.e ha Z (E.ext e1) I1)).bind λ b H2 R2 y s2 hb e2 I2 rb sm2=>?_
   exact Ok.standAt (Ok.operate (ok_binE hb (ra.ext e2) rb I2))
  cases op <;> try exact plain h
  refine optE (show optK False (natC l) _ from h) λ mm hl h=>optE h λ n hr h=>gB.ok h λ hb hk=>?_
  obtain ⟨_,_,rfl⟩:=natC_eq hl
  obtain ⟨_,_,rfl⟩:=natC_eq hr
  simp only [Bool.and_eq_true] at hb
  have h1:=Nat.le_of_ble_eq_true hb.1
  have h2:=Nat.le_of_ble_eq_true hb.2
  intro Qc Ec hQ _
  refine wpAny_BinOp (wpAny_Constant_int (wpAny_Constant_int (pow_int_small (Int.natCast_nonneg n) (by simp only [Int.ofNat_eq_natCast]; lia) (by simp only [Int.ofNat_eq_natCast]; omega) (hQ.at I hk ?_ _))))
  exact .int _ _
 | UnaryOp op y pos=>
  cases op <;> try exact (show False from h).elim
  ·simp only [arm_eval_UnaryOp]
   refine (S.e (show ih.e fc φ y H _ X from h) Z E I).bind λ v H1 R1 a s1 hv e1 I1 ra sm=>?_
   obtain ⟨b,hb,hk⟩:=optK_some hv
   refine Ok.standAt (Ok.holding λ Qc Ec hQ hE=>not_of (ok_truth (k:=λ b' H'=>b' = b ∧ H' = H1) (X:=X) hb ⟨rfl,rfl⟩ ra I1 _ _ (λ b' H' R' a' s' hb' e' I' r' sm'=>?_) hE))
   obtain ⟨rfl,rfl⟩:=hb'
   subst r'
   exact hQ _ H' R' _ s' hk e' I' (.bool _) sm'
  ·simp only [arm_eval_UnaryOp]
   refine (S.e (show ih.e fc φ y H _ X from h) Z E I).bind λ v H1 R1 a s1 hv e1 I1 ra sm=>?_
   cases ra <;> try exact (show False from hv).elim
   exact Ok.standAt (Ok.holding λ Qc Ec hQ hE=>P.neg_int (hQ.at I1 hv (.int _ _) _))
 | IfExp tt b o pos=>
  refine (S.t (show ih.t fc φ tt H _ X from h) Z E I).bind λ q H1 R1 a s1 hb e1 I1 ra sm=>?_
  cases ra
  cases q with
  | true=>exact S.e hb Z (E.ext e1) I1
  | false=>exact S.e hb Z (E.ext e1) I1
 | Dict ks vs pos=>
  refine gB.ok (show gB False _ _ from h) λ hb h=>?_
  simp only [Bool.and_eq_true,Bool.and_eq_true] at hb
  have h1:=Nat.le_of_ble_eq_true hb.1
  have h2:=Nat.eq_of_beq_eq_true hb.2.1
  have I1:=new_dict I
  intro Qc Ec hQ hE
  cases ks with
  | nil=>
   cases vs with
   | cons _ _=>cases h2
   | nil=>
    refine wpAny_Dict_empty ?_
    obtain ⟨kvs,c1,c2,c3⟩:=dict_fin I (s3:={ s with heap:=s.heap.push { cls:=.type "dict",data:=.dict #[] } }) (ps:=[]) (xs:=[]) hQ (Ext.refl _) I1 .nil Same.mk' h
    cases kvs with
    | cons _ _=>exact c1.elim
    | nil=>exact c3 _ s.toks c2 (Heap.SameBut.refl _ _)
  | cons q ks=>
   refine wpAny_Dict_walk (knd:=kvKind prog w) hb.2.2 h2 (by simp) h1 ?_
   refine ok_pairs ((S.se Z E).up (Ext.push R _)) (R:=R ++ [s.heap.objs.size]) h (Ext.refl _) I1 _ _ (λ ps H3 R3 xs s3 h3 e3 I3 rs sm3=>?_) (hE.on (Ext.push R _) Same.mk')
   obtain ⟨kvs,c1,c2,c3⟩:=dict_fin I hQ e3 I3 rs (Same.trans Same.mk' sm3) h3
   exact ⟨kvs,c1,c2,λ h' a b=>c3 h' _ a b⟩
 | List xs pos=>
  refine Ok.standAt ((ok_evs (S.se Z E) (show evs False _ xs H _ from h) (Ext.refl R) I).bind λ ws H1 R1 as s1 hv e1 I1 ra sm=>?_)
  refine gB.ble hv λ hb hv Qc Ec hQ _=>?_
  refine wpAny_newList (hQ.made I1 hv I1.newRef ⟨_,0,rfl,rfl,rfl,rfl,ra.ext (Ext.push R1 _)⟩ s1.toks) ?_
  rw [<- ra.length,sizeLine_eq]; omega
 | Tuple xs c pos=>
  refine Ok.standAt ((ok_evs (S.se Z E) (show evs False _ xs H _ from h) (Ext.refl R) I).bind λ ws H1 R1 as s1 hv e1 I1 ra sm=>?_)
  refine gB.ble hv λ hb hv Qc Ec hQ _=>?_
  refine wpAny_newTuple (hQ.made I1 hv I1.newRef ⟨_,0,rfl,rfl,ra.ext (Ext.push R1 _)⟩ s1.toks) ?_
  rw [<- ra.length,sizeLine_eq]; omega
 | Compare l ops cs pos=>
  refine (S.e (show ih.e fc φ l H _ X from h) Z E I).bind λ v H1 R1 a s1 hv e1 I1 ra sm=>?_
  exact (ok_chain B CX Z.units ((S.se Z E).up e1) hv ra (Ext.refl R1) I1).ends (λ b H' R' y hb hr=>⟨.bool b,hb,by subst hr; exact .bool b⟩) λ _ _ x=>x
 | Attribute o name pos=>
  delta eStep at h
  dsimp only at h
  split at h
  ·rename_i hb
   have he : eval (.Attribute o name pos) env = (do
    let v <- eval o env
    standAt pos.atName
    let r <- holding [v] (getAttr v name true)
    letTemporaryGo o v r
    pure r):=by simp only [arm_eval_Attribute,base_plain hb]
   intro Qc Ec hQ hE
   refine Attribute_any_ (S.e h Z E I _ _ (λ v H1 R1 x s1 hv e1 I1 rv sm=>?_) hE) he
   refine yG λ G_ k_=>?_
   obtain ⟨fs,hf,hv⟩:=optK_some hv
   split at hv
   refine k_ ?_
   ·rename_i ha
    refine yG λ G_ k_=>?_
    obtain ⟨r,hr,hv⟩:=optK_some hv
    split at hv
    refine k_ ?_
    ·rename_i hp
     exact ok_getattr B CX I1 hf ha hr hp hv rv _ _ (hQ.on e1 sm) (hE.on e1 sm)
    ·exact hv.elim
   ·exact hv.elim
  ·exact h.elim
 | Subscript o i pos=>
  have plain : (∀ a b c p,i ≠ .Slice a b c p) -> (ih.e fc φ o H (λ v H1=>ih.e fc φ i H1 (λ q H2=>getE False cx v q H2 k) X) X) -> Ok prog w g₀ A g L m VR (eval (.Subscript o i pos) env) R s k X:=λ hn h=>by
   intro Qc Ec hQ hE
   refine Subscript_ (S.e h Z E I _ _ (λ v H1 R1 x s1 hv e1 I1 rv sm=>S.e hv Z (E.ext e1) I1 _ _ (λ q H2 R2 y s2 hq e2 I2 rq sm2=>?_) (hE.on e1 sm)) hE)
   obtain ⟨T,id,t1,t2,t3⟩:=ok_get B CX Z.units I2 (getE_imp hq) (rv.ext e2) rq (A:=A) (X:=X)
   refine tail_any (ops:=[x,y]) t1 t2 (t3 _ _ (hQ.on (e1.trans e2) (sm.trans sm2)) (hE.on (e1.trans e2) (sm.trans sm2))) ?_
   cases i <;> first | rfl | exact absurd rfl (hn _ _ _ _)
  cases i with
  | Slice lo hi st p=>
   have SS:=S.se Z E (X:=X)
   intro Qc Ec hQ hE
   refine Subscript_ (S.e h Z E I _ _ (λ v H1 R1 x s1 hv e1 I1 rv sm1=>?_) hE)
   have E1:=hE.on e1 sm1
   refine wpAny_Slice (ok_part SS hv e1 I1 _ _ (λ a H2 R2 pa s2 ha e2 I2 ra sm2=>?_) E1)
   have E2:=E1.on e2 sm2
   refine ok_part SS ha (e1.trans e2) I2 _ _ (λ b H3 R3 pb s3 hb e3 I3 rb sm3=>?_) E2
   have E3:=E2.on e3 sm3
   refine ok_part SS hb (e1.trans (e2.trans e3)) I3 _ _ (λ c H4 R4 pc s4 hc e4 I4 rc sm4=>?_) E3
   have I5 : Inv prog w g₀ g L m R4 H4 (s4.heap.push { cls:=.type "slice",data:=.fields #[pa,pb,pc] }):=I4.keeps λ _ _ e=>Heap.get?_push_of_some _ e
   have eR:=e1.trans (e2.trans (e3.trans e4))
   have sm : Same s { s4 with heap:=s4.heap.push { cls:=.type "slice",data:=.fields #[pa,pb,pc] } }:=sm1.trans (sm2.trans (sm3.trans (sm4.trans Same.mk')))
   obtain ⟨T,id,t1,t2,t3⟩:=ok_slice (s:={ s4 with heap:=s4.heap.push { cls:=.type "slice",data:=.fields #[pa,pb,pc] } }) I5 (Heap.IsSliceOf.new _ _ _ _) ra rb (sliceE_imp hc) (rv.ext (e2.trans (e3.trans e4))) rc (A:=A) (X:=X)
   cases st with
   | none=>exact tail_any (ops:=[.ref s4.heap.objs.size,x]) t1 t2 (t3 _ _ (hQ.on eR sm) (hE.on eR sm)) rfl
   | some st=>exact tail_any (ops:=[x,.ref s4.heap.objs.size]) t1 t2 (t3 _ _ (hQ.on eR sm) (hE.on eR sm)) rfl
  | _=>exact plain (λ _ _ _ _ q=>by cases q) h
 | NamedExpr | Lambda | Set | SetComp | DictComp | GeneratorExp | Await | Yield | YieldFrom | FormattedValue | JoinedStr | Starred | Slice=>exact (show False from h).elim
end
noncomputable def flρ (R : List Addr) : Fl -> Flow -> Prop
 | .next,f=>f = .next
 | .ret v,f=>∃ x,f = .ret x ∧ VR R v x
 | .brk,f=>f = .brk
 | .cont,f=>f = .cont
section
variable {prog : Program} {w : World} {cx : Cx} {K : Frag} {mg mb : Str -> Option Value} {g₀ : Heap}
noncomputable def EndN (prog : Program) (w : World) (g₀ : Heap) (A : Around) (fc : Fc) (env : Env) (g : Heap) (L : Addr) {β α : Type} (ρ : List Addr -> β -> α -> Prop) (R : List Addr) (s : Shared) (k : β -> Nm -> Hp -> Prop) (Qc : α -> Shared -> Prop) : Prop:=
 ∀ b φ' H' R' m' a s',k b φ' H' -> Ext R R' -> Inv prog w g₀ g L m' R' H' s'.heap -> EnvOk A fc env φ' L m' R' -> ρ R' b a -> Same s s' -> Qc a s'
noncomputable def EndNX (prog : Program) (w : World) (g₀ : Heap) (A : Around) (fc : Fc) (env : Env) (g : Heap) (L : Addr) (R : List Addr) (s : Shared) (X : Nat -> Nm -> Hp -> Prop) (Ec : Value -> Shared -> Prop) : Prop:=
 ∀ n φ' H' R' m' a s',X n φ' H' -> Ext R R' -> Inv prog w g₀ g L m' R' H' s'.heap -> EnvOk A fc env φ' L m' R' -> R'[n]? = some a -> Fly g₀ g (flL L) R' H' a s'.heap -> Same s s' -> Ec (.ref a) s'
noncomputable def OkN (prog : Program) (w : World) (g₀ : Heap) (A : Around) (fc : Fc) (env : Env) (g : Heap) (L : Addr) {β α : Type} (ρ : List Addr -> β -> α -> Prop) (t : Sem α) (R : List Addr) (s : Shared) (k : β -> Nm -> Hp -> Prop) (X : Nat -> Nm -> Hp -> Prop) : Prop:=
 ∀ Qc Ec,EndN prog w g₀ A fc env g L ρ R s k Qc -> EndNX prog w g₀ A fc env g L R s X Ec -> wpAny (model prog w) A t Qc Ec s
variable {fc : Fc} {φ : Nm} {H : Hp} {A : Around} {env : Env} {g : Heap} {L : Addr} {m : Str -> Option Value} {R R₀ : List Addr} {s : Shared} {X : Nat -> Nm -> Hp -> Prop} {ih : Ev Prop}
theorem EndN.on {β α : Type} {ρ : List Addr -> β -> α -> Prop} {R R' : List Addr} {s s' : Shared} {k : β -> Nm -> Hp -> Prop} {Qc : α -> Shared -> Prop} (h : EndN prog w g₀ A fc env g L ρ R s k Qc) (e : Ext R R') (sm : Same s s') :
  EndN prog w g₀ A fc env g L ρ R' s' k Qc:=λ b φ' H' R'' m' a s'' x e' I E r sm'=>h b φ' H' R'' m' a s'' x (e.trans e') I E r (sm.trans sm')
theorem EndNX.on {R R' : List Addr} {s s' : Shared} {X : Nat -> Nm -> Hp -> Prop} {Ec : Value -> Shared -> Prop} (h : EndNX prog w g₀ A fc env g L R s X Ec) (e : Ext R R') (sm : Same s s') :
  EndNX prog w g₀ A fc env g L R' s' X Ec:=λ n φ' H' R'' m' a s'' x e' I E ha fl sm'=>h n φ' H' R'' m' a s'' x (e.trans e') I E ha fl (sm.trans sm')
theorem EndNX.of {R : List Addr} {s : Shared} {Ec : Value -> Shared -> Prop} (h : EndNX prog w g₀ A fc env g L R s X Ec) (E : EnvOk A fc env φ L m R) : EndX prog w g₀ g L m R s (λ n H=>X n φ H) Ec:=
 λ n H' R' a s' x e I ha fl sm=>h n φ H' R' m a s' x e I (E.ext e) ha (fl.mono λ _=>.inl) sm
theorem Ok.bindN {β α γ δ : Type} {ρ : List Addr -> β -> α -> Prop} {σ : List Addr -> γ -> δ -> Prop} {t : Sem α} {f : α -> Sem δ} {k : β -> Hp -> Prop} {l : γ -> Nm -> Hp -> Prop}
  (h : Ok prog w g₀ A g L m ρ t R s k λ n H=>X n φ H) (E : EnvOk A fc env φ L m R)
  (hf : ∀ b H' R' a s',k b H' -> Ext R R' -> Inv prog w g₀ g L m R' H' s'.heap -> EnvOk A fc env φ L m R' -> ρ R' b a -> Same s s' -> OkN prog w g₀ A fc env g L σ (f a) R' s' l X) : OkN prog w g₀ A fc env g L σ (t >>= f) R s l X:=
 λ Qc Ec hQ hE=>wpAny_bind (h _ _ (λ b H' R' a s' hk e I ha sm=>hf b H' R' a s' hk e I (E.ext e) ha sm Qc Ec (hQ.on e sm) (hE.on e sm)) (hE.of E))
theorem OkN.bind {β α γ δ : Type} {ρ : List Addr -> β -> α -> Prop} {σ : List Addr -> γ -> δ -> Prop} {t : Sem α} {f : α -> Sem δ} {k : β -> Nm -> Hp -> Prop} {l : γ -> Nm -> Hp -> Prop}
  (h : OkN prog w g₀ A fc env g L ρ t R s k X)
  (hf : ∀ b φ' H' R' m' a s',k b φ' H' -> Ext R R' -> Inv prog w g₀ g L m' R' H' s'.heap -> EnvOk A fc env φ' L m' R' -> ρ R' b a -> Same s s' -> OkN prog w g₀ A fc env g L σ (f a) R' s' l X) : OkN prog w g₀ A fc env g L σ (t >>= f) R s l X:=
 λ Qc Ec hQ hE=>wpAny_bind (h _ _ (λ b φ' H' R' m' a s' hk e I E ha sm=>hf b φ' H' R' m' a s' hk e I E ha sm Qc Ec (hQ.on e sm) (hE.on e sm)) hE)
theorem OkN.pure {β α : Type} {ρ : List Addr -> β -> α -> Prop} {a : α} {b : β} {k : β -> Nm -> Hp -> Prop} (I : Inv prog w g₀ g L m R H s.heap) (E : EnvOk A fc env φ L m R) (hk : k b φ H) (hr : ρ R b a) : OkN prog w g₀ A fc env g L ρ (Pure.pure a) R s k X:=
 λ _ _ hQ _=>wpAny_pure (hQ b φ H R m a s hk (Ext.refl R) I E hr (Same.refl s))
theorem OkN.standAt {β α : Type} {ρ : List Addr -> β -> α -> Prop} {pos : Pos} {u : Sem α} {k : β -> Nm -> Hp -> Prop} (h : OkN prog w g₀ A fc env g L ρ u R s k X) : OkN prog w g₀ A fc env g L ρ (do standAt pos; u) R s k X:=
 λ Qc Ec hQ hE=>wpAny_bind (wpAny_standAt (h Qc Ec hQ hE))
theorem OkN.holding {β α : Type} {ρ : List Addr -> β -> α -> Prop} {vs : List Value} {u : Sem α} {k : β -> Nm -> Hp -> Prop} (h : OkN prog w g₀ A fc env g L ρ u R s k X) : OkN prog w g₀ A fc env g L ρ (holding vs u) R s k X:=
 λ Qc Ec hQ hE=>wpAny_holding (h Qc Ec hQ hE)
theorem Ok.toN {β α : Type} {ρ : List Addr -> β -> α -> Prop} {t : Sem α} {k : β -> Nm -> Hp -> Prop} (h : Ok prog w g₀ A g L m ρ t R s (λ b H=>k b φ H) λ n H=>X n φ H) (E : EnvOk A fc env φ L m R) : OkN prog w g₀ A fc env g L ρ t R s k X:=
 λ Qc Ec hQ hE=>h Qc Ec (λ b H' R' a s' x e I r sm=>hQ b φ H' R' m a s' x e I (E.ext e) r sm) (hE.of E)
theorem look_setN (x y : Str) (b : Bd) : ∀ φ : Nm,look y (setN x b φ) = if y = x then some b else look y φ:=by
 intro l_
 induction l_ with
 | nil=>
  dsimp only [setN,look,look]
  cases q : seq y x with
  | true=>rw [if_pos (seq_iff.mp q)]
  | false=>simp only [if_neg λ e=>by replace q:=(seq_iff.mpr e) ▸ q; cases q]
 | cons z1_ r ih_=>
  cases z1_ with
  | mk z c=>
   dsimp only [setN]
   cases q : seq x z with
   | true=>
    have:=seq_iff.mp q
    subst this
    show look y ((x,b) :: r) = _
    dsimp only [look]
    cases p : seq y x with
    | true=>rw [if_pos (seq_iff.mp p)]
    | false=>rw [if_neg λ e=>by replace p:=(seq_iff.mpr e) ▸ p; cases p]
   | false=>
    dsimp only [look]
    cases p : seq y z with
    | true=>
     have:=seq_iff.mp p
     subst this
     rw [if_neg λ e=>by simp only [e,seq_iff.mpr rfl] at q; cases q]
    | false=>exact ih_
set_option tactic.hygienic true in
theorem ok_storeName {x : Str} {v : V} {y : Value} {φ' : Nm} {H' : Hp} (h : storeM fc.sc x v φ H = some (φ',H')) (rv : VR R v y) (E : EnvOk A fc env φ L m R) (I : Inv prog w g₀ g L m R H s.heap) {k : Unit -> Nm -> Hp -> Prop} (hk : k () φ' H') :
  OkN prog w g₀ A fc env g L unitρ (storeName env x y) R s k X:=by
 intro Qc Ec hQ _
 unfold storeM at h
 refine yG λ G_ k_=>?_
 split at h
 refine k_ ?_
 ·rename_i kd hl
  have hkd:=E.kind x kd hl
  split at h
  ·cases h
   have hkd' : env.kindOf x = some .local:=by rcases hkd with q | ⟨q,_⟩; exact q; cases q
   have hp : (env.scope.kind == .class || (env.scope.kind == .module && env.locals != env.globals)) = false:=by rw [E.fn]; rfl
   refine wpAny_storeName_local hkd' (E.loc.symm ▸ I.ns) (λ h' hn hs=>?_) hp
   rw [E.loc] at hn hs
   refine hQ () _ _ R _ () _ hk (Ext.refl R) (I.names hn hs) ⟨E.loc,E.glo,E.blt,E.fn,E.kind,λ z b hz=>?_,E.hdl⟩ trivial Same.mk'
   rw [look_setN] at hz
   by_cases e : z = x
   ·replace hz:=(if_pos e) ▸ hz
    cases hz
    exact ⟨y,if_pos e,rv⟩
   ·replace hz:=(if_neg e) ▸ hz
    have:=E.nm z b hz
    cases b with
    | loc v'=>obtain ⟨val,h1,h2⟩:=this; exact ⟨val,(if_neg e).trans h1,h2⟩
    | cel n=>exact this
  ·split at h
   ·rename_i n hb
    split at h
    ·rename_i cv hH
     refine yG λ G_ k_=>?_
     cases h
     obtain ⟨c,hc,hn⟩:=E.nm x _ hb
     have hkd' : env.kindOf x = some .cell:=by rcases hkd with q | ⟨q,_⟩; exact q; cases q
     obtain ⟨ob,hob,ho⟩:=I.at hH rfl hn
     have hcell : ∃ v₀,s.heap.IsCell c v₀:=by
      cases cv with
      | none=>exact ⟨_,ob,hob,ho⟩
      | some cv=>obtain ⟨z,hz,_⟩:=ho; exact ⟨_,ob,hob,hz⟩
     obtain ⟨v₀,hcell⟩:=hcell
     refine k_ ?_
     refine wpAny_storeName_cell E.fn hkd' hc hcell λ h' hc' hs'=>?_
     refine hQ () _ _ R m () _ hk (Ext.refl R) (I.turn hH rfl hn (λ z o hz ho=>(hs'.2 z hz).trans ho) λ _=>?_) E trivial Same.mk'
     obtain ⟨o',ho',hd'⟩:=hc'
     exact ⟨o',ho',y,hd',rv⟩
    ·exact nsm h
   ·exact nsm h
  ·exact nsm h
 ·exact nsm h
theorem ok_store {x : Str} {v : V} {y : Value} {φ' : Nm} {H' : Hp} (h : storeM fc.sc x v φ H = some (φ',H')) (rv : VR R v y) (E : EnvOk A fc env φ L m R) (I : Inv prog w g₀ g L m R H s.heap) {k : Unit -> Nm -> Hp -> Prop} (hk : k () φ' H') :
  OkN prog w g₀ A fc env g L unitρ (bindName env x y) R s k X:=λ Qc Ec hQ hE=>wpAny_bindName (ok_storeName h rv E I hk Qc Ec hQ hE)
noncomputable def SS (prog : Program) (w : World) (g₀ : Heap) (A : Around) (fc : Fc) (env : Env) (g : Heap) (L : Addr) (X : Nat -> Nm -> Hp -> Prop) (f : Nm -> Stmt -> Hp -> (Fl -> Nm -> Hp -> Prop) -> Prop) : Prop:=
 ∀ φ st H k R m s,f φ st H k -> EnvOk A fc env φ L m R -> Inv prog w g₀ g L m R H s.heap -> OkN prog w g₀ A fc env g L flρ (exec st env) R s k X
theorem ok_execs {f : Nm -> Stmt -> Hp -> (Fl -> Nm -> Hp -> Prop) -> Prop} (S : SS prog w g₀ A fc env g L X f) : ∀ {l : List Stmt} {φ : Nm} {H : Hp} {k : Fl -> Nm -> Hp -> Prop} {R : List Addr} {m : Str -> Option Value} {s : Shared},
  runSs f l φ H k -> EnvOk A fc env φ L m R -> Inv prog w g₀ g L m R H s.heap -> OkN prog w g₀ A fc env g L flρ (execs l env) R s k X:=by
 intro l_
 induction l_ with
 | nil=>
  intro φ H k R m s h E I
  exact OkN.pure I E h rfl
 | cons st r ih_=>
  intro φ H k R m s h E I
  intro Qc Ec hQ hE
  refine wpAny_execs_cons (S φ st H _ R m s h E I _ _ (λ fl φ' H' R' m' a s' hk e I' E' hr sm=>?_) hE)
  cases fl with
  | next=>cases hr; exact ih_ hk E' I' Qc Ec (hQ.on e sm) (hE.on e sm)
  | ret v=>obtain ⟨x,rfl,hx⟩:=hr; exact hQ _ _ _ _ _ _ _ hk e I' E' ⟨x,rfl,hx⟩ sm
  | brk=>cases hr; exact hQ _ _ _ _ _ _ _ hk e I' E' rfl sm
  | cont=>cases hr; exact hQ _ _ _ _ _ _ _ hk e I' E' rfl sm
end
section
variable {prog : Program} {w : World} {g₀ g : Heap} {fc : Fc} {A : Around} {env : Env} {L : Addr} {m : Str -> Option Value} {R : List Addr} {H : Hp} {h h' : Heap}
theorem Inv.faded (I : Inv prog w g₀ g L m R H h) {i : Nat} {C : Addr} {d : Option Nat} {a : Addr} {oe ob : Obj} {vs : Array Value} {P : Addr -> Prop} {fs : List Addr} {xf : XF} (hx : xf ≠ .new) (hi : H[i]? = some (.exc C d xf)) (ha : R[i]? = some a)
  (he : h.get? a = some oe) (he' : h'.get? a = some ob) (hc : ob.cls = oe.cls) (hdd : ob.dict = oe.dict) (hv : ob.data = .fields vs) (hv2 : ∀ ws,oe.data = .fields ws -> vs[2]? = ws[2]?)
  (hP : ∀ b,P b -> b ≠ L ∧ g₀.get? b = none ∧ g.get? b = none ∧ ∀ i,¬ Act H R i b) (hfs : ∀ b ∈ fs,g₀.get? b = none ∧ ∀ i,¬ Act H R i b)
  (k : ∀ b o,b ≠ a -> ¬ P b -> h.get? b = some o -> ∃ sl,h'.get? b = some { o with slots:=sl } ∧ (b ∉ fs -> h'.get? b = some o)) : Inv prog w g₀ g L m R H h':=by
 have A₀ : Act H R i a:=⟨_,hi,rfl,ha⟩
 have oa:=I.out i a A₀
 exact {
  S:=λ b o e=>by
   have hb : b ≠ a:=λ q=>by rw [q,oa.2.2] at e; exact nsm e
   have hb' : ¬ P b:=λ q=>by rw [(hP b q).2.1] at e; exact nsm e
   obtain ⟨sl,_,k2⟩:=k b o hb hb' (I.S b o e)
   exact k2 λ q=>by rw [(hfs b q).1] at e; exact nsm e
  ns:=Ns.slots I.ns λ o e=>by
   refine yG λ G_ k_=>?_
   obtain ⟨sl,k1,_⟩:=k L o (Ne.symm oa.1) (λ q=>(hP L q).1 rfl) e
   refine k_ ?_
   exact ⟨sl,k1⟩
  K:=λ b o e=>by
   obtain ⟨sl,hs⟩:=I.K b o e
   obtain ⟨sl',k1,_⟩:=k b _ (λ q=>by replace e:=q ▸ e; replace e:=oa.2.1 ▸ e; cases e) (λ q=>by replace e:=((hP b q).2.2.1) ▸ e; cases e) hs
   exact ⟨sl',k1⟩
  lo:=I.lo
  len:=I.len
  nd:=I.nd
  ob:=λ j o c e hg r=>by
   by_cases hj : j = i
   ·subst hj
    replace e:=hi ▸ e; cases e
    replace r:=ha ▸ r; cases r
    obtain ⟨b,hb,ho⟩:=I.ob j _ a hi rfl ha
    replace hb:=he ▸ hb; cases hb
    refine ⟨ob,he',?_⟩
    obtain ⟨h1,⟨ws,hw,hx2⟩,h3⟩:=ho
    refine ⟨hc.trans h1,⟨vs,hv,?_⟩,?_⟩
    ·cases xf with
     | new=>exact absurd rfl hx
     | plain=>exact (hv2 ws hw).trans hx2
     | ctx=>trivial
    refine hdd ▸ ?_; exact h3
   ·obtain ⟨b,hb,ho⟩:=I.ob j o c e hg r
    have ac : Act H R j c:=⟨o,e,hg,r⟩
    obtain ⟨_,_,k2⟩:=k c b (λ q=>hj (I.nd j i a (q ▸ ac) A₀)) (λ q=>(hP c q).2.2.2 j ac) hb
    exact ⟨b,k2 λ q=>(hfs c q).2 j ac,ho⟩
  out:=I.out }
theorem mapId (o : Obj) : o.mapFields id = o:=by
 obtain ⟨c,d,dt,sl⟩:=o
 cases dt <;> rfl
inductive Nt (fs : List Addr) (oe : Obj) (vs : Array Value) (a L : Addr) (o1 : Option Value) (h h' : Heap) : Prop where
 | mk (k : Array Value -> Array Value) (T : Addr) (oT : Obj) (ts : Array Value) (a1 : h'.get? a = some (oe.mapFields k)) (a2 : (k vs)[1]? = some (.ref T)) (b2 : (k vs)[2]? = vs[2]?) (a3 : T ≠ a) (a4 : h'.get? T = some oT) (a5 : oT.data = .fields ts) (a6 : ts[3]? = some (rawInt L))
  (a7 : h.get? T = none ∨ o1 = some (.ref T)) (a8 : ∀ b o,b ≠ a -> ¬ o1 = some (.ref b) -> h.get? b = some o -> ∃ sl,h'.get? b = some { o with slots:=sl } ∧ (b ∉ fs -> h'.get? b = some o)) : Nt fs oe vs a L o1 h h'
theorem Nt.of {fs : List Addr} {oe : Obj} {vs : Array Value} {a L : Addr} {o1 : Option Value} {h h' : Heap} (x : Nt fs oe vs a L none h h') : Nt fs oe vs a L o1 h h':=by
 obtain ⟨k,T,oT,ts,a1,a2,b2,a3,a4,a5,a6,a7,a8⟩:=x
 exact ⟨k,T,oT,ts,a1,a2,b2,a3,a4,a5,a6,a7.imp_right (λ e=>(nomatch e)),λ b o hb _ ho=>a8 b o hb (λ e=>(nomatch e)) ho⟩
section
variable {M : Model} {E : Value -> Shared -> Prop} {s : Shared} {base : Heap} {outer : List Env} {a : Addr} {oe : Obj} {vs : Array Value} {Q : Unit -> Shared -> Prop}
 (hfr : A.frames = some (env :: outer)) (hl : s.heap.FunFrames base (env :: outer)) (hf : env.frame = some L) (he : s.heap.get? a = some oe) (hd : oe.data = .fields vs)
include hfr hl hf he hd
theorem new_entry {head : Value} {hn : Bool} (hsz : 1 < vs.size) (hQ : ∀ h',Nt ((env :: outer).filterMap (·.frame)) oe vs a L none s.heap h' -> Q () { s with heap:=h' }) :
  wpAny M A (do let x <- frameOf env; let pl <- entryPlaceOf L hn; let b <- EntryCells.newEntry head x .none (rawInt L) .none pl; setField (.ref a) 1 b) Q E s:=by
 have hea : a ∉ (env :: outer).filterMap (·.frame):=λ hm=>by
  obtain ⟨_,o,ho,hnf⟩:=hl.mem hm
  exact hnf vs (Option.some.inj (he.symm.trans ho) ▸ hd)
 refine wpAny_bind (wpAny_frameOf_fun hfr hl hf λ h₁ hs₁=>wpAny_bind (wpAny_entryPlaceOf λ pl hpl=>?_))
 refine wpAny_bind (wpAny_newObj_type ?_ (hpl.sizeOk5 _ _ _ _ _))
 have he₁ : h₁.get? a = some oe:=(hs₁.2.1 a hea).trans he
 have hTe : h₁.objs.size ≠ a:=Nat.ne_of_gt (Heap.lt_size he₁)
 refine wpAny_setField (Heap.get?_push_of_some _ he₁) hd hsz (hQ _ ⟨(·.setIfInBounds 1 (Value.ref h₁.objs.size)),h₁.objs.size,_,_,Heap.get?_update_self _ (Heap.get?_push_of_some _ he₁) (Obj.isFreed_of_fields (Obj.data_mapFields hd _)),by simp [hsz],Array.getElem?_setIfInBounds_ne (by decide),hTe,
  (Heap.get?_update_other _ _ (Ne.symm hTe)).trans (Heap.get?_push_size h₁ rfl),rfl,by first | (simp; done) | (rcases hpl with rfl | ⟨_,_,_,_,_,_,_,rfl⟩ <;> simp),
  .inl (Heap.get?_none_of_le (Nat.le_of_eq hs₁.1.symm)),λ b o hb _ ho=>?_⟩)
 obtain ⟨sl,hs⟩:=hs₁.2.2 b o ho
 have e:=λ f=>Heap.get?_update_other (h:=h₁.push { cls:=.type "traceback",dict:=none,data:=.fields ([head,.ref L,.none,rawInt L,.none] ++ (if pl.isEmpty then List.replicate 6 Value.none else pl)).toArray }) f (Ne.symm hb)
 exact ⟨sl,(e _).trans (Heap.get?_push_of_some _ hs),λ hm=>(e _).trans (Heap.get?_push_of_some _ ((hs₁.2.1 b hm).trans ho))⟩
theorem note_none (h1 : vs[1]? = some .none) (hQ : ∀ h',Nt ((env :: outer).filterMap (·.frame)) oe vs a L vs[1]? s.heap h' -> Q () { s with heap:=h' }) : wpAny M A (noteFrame (.ref a) env) Q E s:=by
 delta noteFrame
 refine hf ▸ ?_
 exact wpAny_bind (wpAny_field he hd h1 (wpAny_ite_false rfl (new_entry hfr hl hf he hd (Array.getElem?_eq_some_iff.mp h1).1 λ h' x=>hQ h' x.of)))
theorem note_tb {T : Addr} {oT : Obj} {ts : Array Value} {f : Value} (h1 : vs[1]? = some (.ref T)) (hTa : T ≠ a) (hT : s.heap.get? T = some oT) (hdT : oT.data = .fields ts) (h3 : ts[3]? = some f) (hff : f = .none ∨ f = rawInt L)
  (hQ : ∀ h',Nt ((env :: outer).filterMap (·.frame)) oe vs a L vs[1]? s.heap h' -> Q () { s with heap:=h' }) : wpAny M A (noteFrame (.ref a) env) Q E s:=by
 delta noteFrame
 refine hf ▸ ?_
 refine wpAny_bind (wpAny_field he hd h1 (wpAny_ite_true rfl (wpAny_bind (wpAny_field hT hdT h3 ?_))))
 rcases hff with rfl | rfl
 ·refine wpAny_ite_false (by simp [rawInt]) (wpAny_bind (wpAny_setField hT hdT (Array.getElem?_eq_some_iff.mp h3).1 ?_))
  have other : ∀ b,b ≠ T -> (s.heap.update T (Obj.mapFields (·.setIfInBounds 3 Value.none))).get? b = s.heap.get? b:=λ b hb=>Heap.get?_update_other _ _ (Ne.symm hb)
  refine new_entry (s:={ s with heap:=s.heap.update T (Obj.mapFields (·.setIfInBounds 3 Value.none)) }) hfr (hl.of_keeps λ b o hb hnf=>⟨o,(other b λ q=>hnf ts (Option.some.inj (hb.symm.trans (q ▸ hT)) ▸ hdT)).trans hb,rfl⟩) hf ((other a (Ne.symm hTa)).trans he) hd (Array.getElem?_eq_some_iff.mp h1).1
   λ h' ⟨k,T',oT',ts',a1,a2,b2,a3,a4,a5,a6,a7,a8⟩=>hQ h' ⟨k,T',oT',ts',a1,a2,b2,a3,a4,a5,a6,?_,λ b o hb hbT ho=>a8 b o hb (λ e=>(nomatch e)) ((other b λ q=>hbT (q ▸ h1)).trans ho)⟩
  by_cases e : T' = T
  ·exact .inr (e ▸ h1)
  ·exact .inl ((other T' e).symm.trans (a7.resolve_right λ e=>(nomatch e)))
 ·exact wpAny_ite_true (by simp) (wpAny_pure (hQ s.heap ⟨id,T,oT,ts,by rw [mapId]; exact he,h1,rfl,hTa,hT,hdT,h3,.inr h1,λ b o _ _ ho=>⟨o.slots,ho,λ _=>ho⟩⟩))
end
theorem ArndS.fs (Z : ArndS g₀ A fc env g L) (hk : env.scope.kind = .function) (I : Inv prog w g₀ g L m R H h) : ∃ outer,A.frames = some (env :: outer) ∧ env.frame = some L ∧ h.FunFrames g₀ (env :: outer) ∧
  ∀ b ∈ (env :: outer).filterMap (·.frame),g₀.get? b = none ∧ ∀ i,¬ Act H R i b:=by
 refine yG λ G_ k_=>?_
 obtain ⟨outer,h1,h2,h3⟩:=Z.own
 obtain ⟨oL,es,ep,hL,hLd,_⟩:=id I.ns
 refine k_ ?_
 have out : h.FunFrames g₀ outer:=by
  refine h3.of_keeps λ b o hb _=>?_
  obtain ⟨sl,hs⟩:=I.K b o hb
  exact ⟨_,hs,rfl⟩
 refine ⟨outer,h1,h2,⟨by refine hk ▸ ?_; simp,⟨L,oL,h2,I.lo.1,hL,λ vs q=>by replace q:=hLd ▸ q; cases q⟩,out⟩,λ b hb=>?_⟩
 simp only [List.filterMap_cons,h2] at hb
 rcases List.mem_cons.mp hb with e | hb
 ·subst e
  exact ⟨I.lo.1,λ i x=>(I.out i b x).1 rfl⟩
 ·obtain ⟨q,o,ho,_⟩:=h3.mem hb
  exact ⟨q,λ i x=>by replace ho:=((I.out i b x).2.1) ▸ ho; cases ho⟩
variable {M : Model} {E : Value -> Shared -> Prop} {s : Shared} {a : Addr}
theorem nt_tb {fs : List Addr} (I : Inv prog w g₀ g L m R H h) (h4 : ∀ b ∈ fs,g₀.get? b = none ∧ ∀ i,¬ Act H R i b) {i : Nat} {C : Addr} {d : Option Nat} {oe : Obj} {vs : Array Value} (hi : ∃ x : XF,x ≠ .new ∧ H[i]? = some (MO.exc C d x)) (ha : R[i]? = some a) (he : h.get? a = some oe) (hd : oe.data = .fields vs)
  (hP : ∀ b,vs[1]? = some (.ref b) -> b ≠ L ∧ g₀.get? b = none ∧ g.get? b = none ∧ ∀ i,¬ Act H R i b) (N : Nt fs oe vs a L vs[1]? h h') : Inv prog w g₀ g L m R H h' ∧ Tb g₀ g (· = rawInt L) R H a h':=by
 refine yG λ G_ k_=>?_
 obtain ⟨k,T,oT,ts,a1,a2,b2,a3,a4,a5,a6,a7,a8⟩:=N
 obtain ⟨xf,hx,hi⟩:=hi
 refine k_ ?_
 have hdict : (oe.mapFields k).dict = oe.dict:=by obtain ⟨c,dd,dt,sl⟩:=oe; cases dt <;> rfl
 have hT : g₀.get? T = none ∧ g.get? T = none ∧ ∀ i,¬ Act H R i T:=by
  rcases a7 with q | q
  ·refine ⟨?_,?_,λ j x=>?_⟩
   ·cases z : g₀.get? T with
    | none=>rfl
    | some o=>exact nsm (q.symm.trans (I.S T o z))
   ·cases z : g.get? T with
    | none=>rfl
    | some o=>obtain ⟨sl,z⟩:=I.K T o z; exact nsm (q.symm.trans z)
   ·obtain ⟨b,hb⟩:=I.act_live x
    exact nsm (q.symm.trans hb)
  ·exact (hP T q).2
 exact ⟨I.faded hx hi ha he a1 (Obj.cls_mapFields _ _) hdict (Obj.data_mapFields hd _) (λ ws q=>Data.fields.inj (hd.symm.trans q) ▸ b2) hP h4 a8,
  ⟨i,C,d,_,_,T,oT,ts,_,⟨xf,hx,hi⟩,ha,a1,Obj.data_mapFields hd _,a2,a3,a4,a5,a6,rfl,hT.1,hT.2.1,hT.2.2⟩⟩
theorem ok_note (Z : ArndS g₀ A fc env g L) (hk : env.scope.kind = .function) (I : Inv prog w g₀ g L m R H s.heap) (F : Fly g₀ g (flL L) R H a s.heap) {Q : Unit -> Shared -> Prop}
  (hQ : ∀ h',Inv prog w g₀ g L m R H h' -> Tb g₀ g (· = rawInt L) R H a h' -> Q () { s with heap:=h' }) : wpAny M A (noteFrame (.ref a) env) Q E s:=by
 refine yG λ G_ k_=>?_
 obtain ⟨outer,h1,h2,h3,h4⟩:=Z.fs hk I
 obtain ⟨oL,es,ep,hL,hLd,_⟩:=id I.ns
 refine k_ ?_
 rcases F with ⟨i,C,d,oe,vs,hi,ha,he,hd,hv⟩ | ⟨i,C,d,oe,vs,T,oT,ts,f,hi,ha,he,hd,hv,x6,x7,x8,x9,x10,x11,x12,x13⟩
 ·exact note_none h1 h3 h2 he hd hv λ h' N=>(nt_tb I h4 hi ha he hd (λ b q=>nomatch hv.symm.trans q) N).elim (hQ h')
 ·refine note_tb h1 h3 h2 he hd hv x6 x7 x8 x9 x10 λ h' N=>(nt_tb I h4 hi ha he hd (λ b q=>?_) N).elim (hQ h')
  obtain rfl:=Value.ref.inj (Option.some.inj (hv.symm.trans q))
  exact ⟨λ q=>(by rw [q,hL] at x7; rw [<- Option.some.inj x7,hLd] at x8; exact nomatch x8),x11,x12,x13⟩
theorem ok_flight (I : Inv prog w g₀ g L m R H s.heap) {fl : Value -> Prop} (F : Tb g₀ g fl R H a s.heap) {fr : Option Addr} {Q : Unit -> Shared -> Prop}
  (hQ : ∀ h',Inv prog w g₀ g L m R H h' -> Tb g₀ g (· = fr.elim .none λ f=>rawInt f) R H a h' -> Q () { s with heap:=h' }) : wpAny M A (setFlight (.ref a) fr) Q E s:=by
 refine yG λ G_ k_=>?_
 obtain ⟨i,C,d,oe,vs,T,oT,ts,f,⟨xf,hx,hi⟩,ha,he,hd,hv,x6,x7,x8,x9,x10,x11,x12,x13⟩:=F
 obtain ⟨oL,es,ep,hL,hLd,_⟩:=id I.ns
 refine k_ ?_
 have hTL : T ≠ L:=λ q=>by rw [q,hL] at x7; rw [<- Option.some.inj x7,hLd] at x8; exact nomatch x8
 have hsz3 : 3 < ts.size:=(Array.getElem?_eq_some_iff.mp x9).1
 have other : ∀ (f : Obj -> Obj) b,b ≠ T -> (s.heap.update T f).get? b = s.heap.get? b:=λ f b hb=>Heap.get?_update_other _ _ (Ne.symm hb)
 refine wpAny_bind (wpAny_field he hd hv (wpAny_ite_true rfl (wpAny_setField x7 x8 hsz3 (hQ _ ?_ ?_))))
 ·exact I.faded (fs:=[]) (P:=λ b=>b = T) hx hi ha he ((other _ a (Ne.symm x6)).trans he) rfl rfl hd (λ ws q=>Data.fields.inj (hd.symm.trans q) ▸ rfl) (λ b q=>q ▸ ⟨hTL,x11,x12,x13⟩) (λ b q=>(nomatch q)) λ b o hb hT ho=>⟨o.slots,(other _ b hT).trans ho,λ _=>(other _ b hT).trans ho⟩
 ·exact ⟨i,C,d,oe,vs,T,_,_,_,⟨xf,hx,hi⟩,ha,(other _ a (Ne.symm x6)).trans he,hd,hv,x6,Heap.get?_update_self _ x7 (Obj.isFreed_of_fields (Obj.data_mapFields x8 _)),Obj.data_mapFields x8 _,by simp [hsz3],rfl,x11,x12,x13⟩
theorem ok_back (hf : env.frame = some L) (I : Inv prog w g₀ g L m R H s.heap) {fl : Value -> Prop} (F : Tb g₀ g fl R H a s.heap)
  (hQ : ∀ h',Inv prog w g₀ g L m R H h' -> Tb g₀ g (· = rawInt L) R H a h' -> E (.ref a) { s with heap:=h' }) : cameBackBy M A env E (.ref a) s:=by
 have F':=F
 refine yG λ G_ k_=>?_
 obtain ⟨i,C,d,oe,vs,T,oT,ts,f,hi,ha,he,hd,hv,_⟩:=F
 refine k_ ?_
 refine wpAny_bind (wpAny_field he hd hv (wpAny_ite_false rfl ?_))
 refine hf ▸ ?_
 exact (ok_flight (fr:=some L) (Q:=λ _ s'=>E (.ref a) s') I F' λ h' I' T'=>hQ h' I' T')
theorem ok_noted {A' : Around} (Z : ArndS g₀ A' fc env g L) (hk : env.scope.kind = .function) (I : Inv prog w g₀ g L m R H s.heap) (F : Fly g₀ g (flL L) R H a s.heap)
  (hQ : ∀ h',Inv prog w g₀ g L m R H h' -> Tb g₀ g (· = rawInt L) R H a h' -> E (.ref a) { s with heap:=h' }) : notedBy M A' env (cameBackBy M A env E) (.ref a) s:=by
 refine ok_note Z hk I F λ h' I' F'=>?_
 exact ok_back (s:={ s with heap:=h' }) Z.own.choose_spec.2.1 I' F' λ h'' I'' F''=>hQ h'' I'' F''
end
abbrev refρ : List Addr -> Nat -> Value -> Prop:=λ R n x=>∃ a,x = .ref a ∧ R[n]? = some a
noncomputable def isIt : MO -> Bool
 | .litr ..=>true
 | .titr ..=>true
 | .ritr ..=>true
 | .bitr ..=>true
 | .sitr ..=>true
 | _=>false
noncomputable def NextPost (prog : Program) (w : World) (g₀ g : Heap) (L : Addr) (m : Str -> Option Value) (R : List Addr) (H : Hp) (s : Shared) (k : Nat) (Q : Option Value -> Shared -> Prop) : Option (V × MO) -> Prop
 | none=>∀ s',Inv prog w g₀ g L m R (H.set k .gone) s'.heap -> Same s s' -> Q none s'
 | some (v,it')=>isIt it' = true -> ∀ x s',Inv prog w g₀ g L m R (H.set k it') s'.heap -> VR R v x -> Same s s' -> Q (some x) s'
section
variable {prog : Program} {w : World} {cx : Cx} {g₀ g : Heap} {A : Around} {L : Addr} {m : Str -> Option Value} {R : List Addr} {H : Hp} {s : Shared}
theorem ok_iter {v : V} {x : Value} {it : MO} (h : iterM v H = some it) (rv : VR R v x) (I : Inv prog w g₀ g L m R H s.heap) {k : Nat -> Hp -> Prop} (hk : k H.length (H ++ [it])) {X : Nat -> Hp -> Prop} :
  Ok prog w g₀ A g L m refρ (pyIter x) R s k X:=by
 intro Qc Ec hQ _
 have hnew : refρ (R ++ [s.heap.objs.size]) H.length (.ref s.heap.objs.size):=⟨_,rfl,get_len I.len⟩
 have h : optK False (iterM v H) λ it=>k H.length (H ++ [it]):=optK_of h hk
 cases v with
 | ref n=>
  apply rv.eRef; intro a hn
  have hl:=(Ext.push R s.heap.objs.size).get hn
  refine yAt.ok h (λ o hH h=>?_) False.elim
  cases o with
  | list vs=>
   obtain ⟨o,ho,xs,e,hc,_,_,hd,hv⟩:=I.at hH rfl hn
   exact wpAny_pyIter_list ⟨o,ho,hc,_,hd⟩ (hQ.made I h hnew ⟨a,hl,rfl,rfl⟩ s.toks)
  | tup vs=>
   refine yG λ G_ k_=>?_
   obtain ⟨o,ho,xs,e,hc,hd,hv⟩:=I.at hH rfl hn
   refine k_ ?_
   exact wpAny_pyIter_tuple ⟨o,ho,hc,_,hd⟩ (hQ.made I h hnew ⟨a,hl,rfl,rfl⟩ s.toks)
  | rng a b c=>
   refine yB.ok h λ hb h=>?_
   refine yG λ G_ k_=>?_
   obtain ⟨o,ho,t,u,v,ho'⟩:=I.at hH rfl hn
   subst ho'
   refine k_ ?_
   exact wpAny_pyIter_range ho (rS_eq a b c ▸ hb) (hQ.made I h hnew rfl s.toks)
  | _=>exact h.elim
 | bytes l=>revert h; apply rv.eByt; intro b t h; exact KBw.pyIter_bytes (hQ.made I h hnew ⟨b,t,rfl,rfl,rfl⟩ s.toks)
 | str l=>
  apply rv.eStr; intro t
  cases ha : (⟨⟨l⟩⟩ : Str).cps.all (· < 128) with
  | true=>exact wpAny_pyIter_ascii ha (hQ.made I h hnew ⟨t,.inl rfl,rfl⟩ s.toks)
  | false=>exact wpAny_pyIter_wide ha (hQ.made I h hnew ⟨t,.inr rfl,rfl⟩ s.toks)
 | _=>exact h.elim
theorem ok_letGo {M : Model} {E : Value -> Shared -> Prop} {target : Expr} {k : Nat} {a : Addr} {v : Value} {it : MO} {Q : Unit -> Shared -> Prop} (I : Inv prog w g₀ g L m R H s.heap) (hk : H[k]? = some it) (ha : R[k]? = some a)
    (hit : isIt it = true) (h : Q () s) : wpAny M A (letOwnedTupleGo target (.ref a) v) Q E s:=by
  have hg : it.isGone = false:=by cases it <;> first | rfl | exact nft hit
  obtain ⟨o,ho,hor⟩:=I.at hk hg ha
  have hcd : ∃ n vs,o.cls = .type n ∧ o.data = .fields vs ∧ (["enumerate","zip","dict_itemiterator","dict_reverseitemiterator","odict_iterator","itertools.zip_longest","itertools.pairwise"] : List String).contains n = false:=by
    cases it with
    | litr l i=>obtain ⟨_,_,hc,hd⟩:=hor; exact ⟨_,_,hc,hd,by decide⟩
    | titr l i=>obtain ⟨_,_,hc,hd⟩:=hor; exact ⟨_,_,hc,hd,by decide⟩
    | ritr a b c=>subst hor; exact ⟨_,_,rfl,rfl,by decide⟩
    | bitr l i=>obtain ⟨_,_,_,hc,hd⟩:=hor; exact ⟨_,_,hc,hd,by decide⟩
    | sitr l i=>obtain ⟨_,hc | hc,hd⟩:=hor <;> exact ⟨_,_,hc,hd,by decide⟩
    | _=>exact nft hit
  obtain ⟨n,vs,hc,hd,hnc⟩:=hcd
  cases target <;> first
    | exact wpAny_pure h
    | (cases v <;> first
        | exact wpAny_pure h
        | (refine wpAny_bind (wpAny_load ho ?_)
           refine hc ▸ ?_
           refine hd ▸ ?_
           dsimp only
           refine hnc ▸ ?_
           exact wpAny_pure h))
theorem ok_next (hh : A.handled = none) {k : Nat} {a : Addr} {it : MO} {r : Option (V × MO)} {Q : Option Value -> Shared -> Prop} {E : Value -> Shared -> Prop} (I : Inv prog w g₀ g L m R H s.heap) (hk : H[k]? = some it) (ha : R[k]? = some a)
  (hn : nextM it H = some r)
  (hQ : NextPost prog w g₀ g L m R H s k Q r) :
  wpAny (model prog w) A (pyNext (.ref a)) Q E s:=by
 have gone : ∀ {h' : Heap},it.isGone = false -> Heap.ExtBut a s.heap h' -> Inv prog w g₀ g L m R (H.set k .gone) h':=λ hg hs=>I.turn hk hg ha (λ c x hc hx=>hs c x hc hx) λ q=>by cases q
 have on : ∀ {h' : Heap} {it' : MO} {b : Obj},it.isGone = false -> Heap.SameBut a s.heap h' -> h'.get? a = some b -> OR prog w R it' b -> Inv prog w g₀ g L m R (H.set k it') h':=λ hg hs hb ho=>I.turn hk hg ha (λ c x hc hx=>hs.extBut c x hc hx) λ _=>⟨_,hb,ho⟩
 have hn : optK False (nextM it H) (NextPost prog w g₀ g L m R H s k Q):=optK_of hn hQ
 clear hQ
 delta nextM at hn
 cases it with
 | litr n i=>
  refine hL.ok hn λ vs hH hn=>?_
  obtain ⟨o,ho,l,hl,hc,hd⟩:=I.at hk rfl ha
  obtain ⟨o2,ho2,xs,e,hc2,_,_,hd2,hv⟩:=I.at hH rfl hl
  have hn : NextPost prog w g₀ g L m R H s k Q ((vs[i]?).map λ v=>(v,.litr n (i + 1))):=hn
  cases hvi : vs[i]? with
  | some v=>
   simp only [hvi] at hn
   obtain ⟨x,hx,hr⟩:=hv.get hvi
   exact wpAny_pyNext_list_item ⟨o,ho,hc,hd⟩ ⟨o2,ho2,hc2,_,hd2⟩ (x:=x) ((List.getElem?_toArray ..).trans hx) λ h' ⟨b,hb,c1,c2⟩ hs=>hn rfl x _ (on rfl hs hb ⟨l,hl,c1,c2⟩) hr Same.mk'
  | none=>
   simp only [hvi] at hn
   exact wpAny_pyNext_list_end hh ⟨o,ho,hc,hd⟩ ⟨o2,ho2,hc2,_,hd2⟩ (by refine (List.getElem?_toArray).trans ?_; rw [List.getElem?_eq_none_iff,<- hv.length]; exact List.getElem?_eq_none_iff.mp hvi) λ h' hs=>hn _ (gone rfl hs) Same.mk'
 | titr n i=>
  refine hT.ok hn λ vs hH hn=>?_
  refine yG λ G_ k_=>?_
  obtain ⟨o,ho,l,hl,hc,hd⟩:=I.at hk rfl ha
  obtain ⟨o2,ho2,xs,e,hc2,hd2,hv⟩:=I.at hH rfl hl
  refine k_ ?_
  have hn : NextPost prog w g₀ g L m R H s k Q ((vs[i]?).map λ v=>(v,.titr n (i + 1))):=hn
  cases hvi : vs[i]? with
  | some v=>
   simp only [hvi] at hn
   obtain ⟨x,hx,hr⟩:=hv.get hvi
   exact wpAny_pyNext_tuple_item ⟨o,ho,hc,hd⟩ ⟨o2,ho2,hc2,_,hd2⟩ (x:=x) ((List.getElem?_toArray ..).trans hx) λ h' ⟨b,hb,c1,c2⟩ hs=>hn rfl x _ (on rfl hs hb ⟨l,hl,c1,c2⟩) hr Same.mk'
  | none=>
   simp only [hvi] at hn
   exact wpAny_pyNext_tuple_end hh ⟨o,ho,hc,hd⟩ ⟨o2,ho2,hc2,_,hd2⟩ (by refine (List.getElem?_toArray).trans ?_; rw [List.getElem?_eq_none_iff,<- hv.length]; exact List.getElem?_eq_none_iff.mp hvi) λ h' hs=>hn _ (gone rfl hs) Same.mk'
 | ritr c left st=>
  refine yG λ G_ k_=>?_
  obtain ⟨o,ho,hor⟩:=I.at hk rfl ha
  subst hor
  refine k_ ?_
  dsimp only at hn
  cases hl : decide (0 < left) with
  | true=>
   rw [hl] at hn
   exact wpAny_pyNext_range_item ho (of_decide_eq_true hl) λ h' hit hs=>hn rfl _ _ (on rfl hs hit rfl) (.int _ _) Same.mk'
  | false=>
   rw [hl] at hn
   exact wpAny_pyNext_range_end hh ho (Int.not_lt.mp (of_decide_eq_false hl)) λ h' hs=>hn _ (gone rfl hs) Same.mk'
 | bitr l i=>
  obtain ⟨o,ho,b,t,hl,hc,hd⟩:=I.at hk rfl ha
  subst hl
  have hn : NextPost prog w g₀ g L m R H s k Q (((b.toList.map UInt8.toNat)[i]?).map λ n=>(.int n,.bitr (b.toList.map UInt8.toNat) (i + 1))):=hn
  rw [List.getElem?_map,Array.getElem?_toList] at hn
  cases hc1 : b[i]? with
  | some c=>
   rw [hc1] at hn
   exact KBw.next_item ⟨o,ho,hc,hd⟩ hc1 λ h' ⟨b',hb',c1,c2⟩ hs=>hn rfl _ _ (on rfl hs hb' ⟨b,t,rfl,c1,c2⟩) (.int _ _) Same.mk'
  | none=>
   replace hn:=hc1 ▸ hn
   exact KBw.next_end hh ⟨o,ho,hc,hd⟩ hc1 λ h' hs=>hn _ (gone rfl hs) Same.mk'
 | sitr l i=>
  obtain ⟨o,ho,t,hc,hd⟩:=I.at hk rfl ha
  have hn : NextPost prog w g₀ g L m R H s k Q ((l[i]?).map λ c=>(.str [c],.sitr l (i + 1))):=hn
  cases hni : l[i]? with
  | some n=>
   simp only [hni] at hn
   have hx : (⟨⟨l⟩⟩ : Str).cps[i]? = some n:=(List.getElem?_toArray ..).trans hni
   rcases hc with hc | hc
   ·exact wpAny_pyNext_ascii_item ⟨o,ho,hc,hd⟩ hx λ h' ⟨b',hb',c1,c2⟩ hs=>hn rfl _ _ (on rfl hs hb' ⟨t,.inl c1,c2⟩) (.str _ _) Same.mk'
   ·exact wpAny_pyNext_wide_item ⟨o,ho,hc,hd⟩ hx λ h' ⟨b',hb',c1,c2⟩ hs=>hn rfl _ _ (on rfl hs hb' ⟨t,.inr c1,c2⟩) (.str _ _) Same.mk'
  | none=>
   simp only [hni] at hn
   have hx : (⟨⟨l⟩⟩ : Str).cps[i]? = none:=(List.getElem?_toArray ..).trans hni
   rcases hc with hc | hc
   ·exact wpAny_pyNext_ascii_end hh ⟨o,ho,hc,hd⟩ hx λ h' hs=>hn _ (gone rfl hs) Same.mk'
   ·exact wpAny_pyNext_wide_end hh ⟨o,ho,hc,hd⟩ hx λ h' hs=>hn _ (gone rfl hs) Same.mk'
 | _=>exact hn.elim
end
section
variable {prog : Program} {w : World} {cx : Cx} {K : Frag} {mg mb : Str -> Option Value} {g₀ : Heap}
variable {fc : Fc} {φ : Nm} {H : Hp} {A : Around} {env : Env} {g : Heap} {L : Addr} {m : Str -> Option Value} {R R₀ : List Addr} {s : Shared} {ih : Ev Prop}
theorem EnvOk.keeps {R' : List Addr} (E : EnvOk A fc env φ L m R) (e : Ext R R') : EnvOk A fc env φ L m R':=E.ext e
theorem ok_setfresh (B : Base K mg mb g₀) (CX : CxOk cx prog w K g₀ mg mb) (I : Inv prog w g₀ g L m R H s.heap) {v r : V} {x y : Value} {n : Nat} {C : Addr} {name : Str} {k : Unit -> Hp -> Prop} {X : Nat -> Hp -> Prop} (hf : freshOf H v = some (n,C))
  (ha : cx.xset C name = true) (hk : k () ((H.set n (.exc C (some H.length) .new)) ++ [.flds [(name,r)]])) (rv : VR R v x) (rr : VR R r y) : Ok prog w g₀ A g L m unitρ (setAttr x name y) R s k X:=by
 intro Qc Ec hQ _
 have hf : optK False (freshOf H v) λ q=>q = (n,C):=optK_of hf rfl
 apply yR.ok hf rv; intro n' a hn hf
 refine yAt.ok hf (λ o hH hf=>?_) False.elim
 cases o with
 | exc C' d x'=>cases d with
  | none=>cases x' with
   | new=>
    refine yG λ G_ k_=>?_
    cases hf
    obtain ⟨ob,hb,hc,⟨vs,hvs,hx⟩,hdn⟩:=I.at hH rfl hn
    obtain ⟨c1,c2,c3,c4⟩:=CX.xset _ _ ha
    refine k_ ?_
    have lt : n < H.length:=(List.getElem?_eq_some_iff.mp hH).1
    refine set_first (B.k.keeps I.S) ⟨hb,hc,by unfold notCls; exact hvs ▸ rfl,by refine hdn ▸ ?_; trivial⟩ hdn hvs c1 c2 c3 c4 λ h' tk e1 e2 e3=>?_
    have J:=I.push (o:=.flds [(name,r)]) (b:=dictOf [⟨PyData.keyHash w.params name,.str name tk,y⟩] 1) rfl ⟨_,_,rfl,.cons (rr.ext (Ext.push R _)) .nil⟩
    have J2:=J.turn (h':=h') (o:=.exc C (some H.length) .new) ((List.getElem?_append_left lt).trans hH) rfl ((Ext.push R s.heap.objs.size).get hn) (λ c x hca hcx=>?_) λ _=>⟨_,e2,hc,⟨vs,hvs,hx⟩,_,get_len I.len,rfl⟩
    ·rw [List.set_append_left _ _ lt] at J2
     exact hQ () _ _ () _ hk (Ext.push R _) J2 trivial Same.mk'
    ·rcases Heap.get?_push_cases hcx with ⟨rfl,rfl⟩ | q
     ·exact e1
     ·exact e3 c x hca q
   | _=>exact (show False from hf).elim
  | some _=>exact (show False from hf).elim
 | _=>exact (show False from hf).elim
theorem ok_setexc (B : Base K mg mb g₀) (CX : CxOk cx prog w K g₀ mg mb) (I : Inv prog w g₀ g L m R H s.heap) {v r : V} {x y : Value} {C : Addr} {d : Nat} {fs : List (Str × V)} {name : Str} {k : Unit -> Hp -> Prop} {X : Nat -> Hp -> Prop} (hf : excOf H v = some (C,d,fs))
  (ha : cx.xset C name = true) (hl : Nat.ble fs.length 100 = true) (hk : k () (H.set d (.flds (putF name r fs)))) (rv : VR R v x) (rr : VR R r y) : Ok prog w g₀ A g L m unitρ (setAttr x name y) R s k X:=by
 intro Qc Ec hQ _
 refine yG λ G_ k_=>?_
 obtain ⟨⟨a,da,ox,es,n,hd,hda,hfr,hdict,hi⟩,hF⟩:=exc_at I hf rv
 obtain ⟨c1,c2,c3,c4⟩:=CX.xset _ _ ha
 refine k_ ?_
 have hlen:=Nat.le_of_ble_eq_true hl
 have hlk : (getL name es).isSome = true:=by
  rcases hfr.get name with ⟨v',val,h1,h2,h3⟩ | ⟨_,h2⟩ <;> rw [h2] <;> rfl
 refine set_old (B.k.keeps I.S) hi hdict c1 c2 c3 c4 hlk (by have:=hfr.len; lia) λ h' tk e1 e2=>?_
 exact hQ () _ R () _ hk (Ext.refl R) (I.turn hF rfl hd (λ c z hc hz=>(e2.2 c hc).trans hz) λ _=>⟨_,e1,_,_,rfl,hfr.put rr name tk⟩) trivial Same.mk'
theorem wpAny_unit {M : Model} {E : Value -> Shared -> Prop} {α : Type} {u : Sem Unit} {f : Unit -> Sem α} {Q : α -> Shared -> Prop} (h : wpAny M A u (λ _ s'=>wpAny M A (f ()) Q E s') E s) : wpAny M A (u >>= f) Q E s:=wpAny_bind (wpAny_mono h (λ _ _ q=>q) λ _ _ e=>e)
theorem setItem_arm (o i : Expr) (pos : Pos) (v : Value) : assign (.Subscript o i pos) env v = (do
  let ov <- holding [v] (eval o env)
  let iv <- holding [v,ov] (eval i env)
  standAt pos
  holding [v,ov,iv] (setItem ov iv v)
  release (match i with | .Slice _ _ none _=>[iv,v,ov] | _=>[v,ov,iv]) []):=rfl
theorem setAttr_arm (o : Expr) (name : Str) (pos : Pos) (v : Value) : assign (.Attribute o name pos) env v = (do
  let ov <- holding [v] (eval o env)
  standAt pos.atName
  holding [v,ov] (setAttr ov name v)
  release [v,ov] []):=rfl
theorem ok_item (B : Base K mg mb g₀) (S : Snd prog w g₀ ih) (Z : Arnd g₀ A fc g L) {o i : Expr} {pos : Pos} {v : V} {x : Value} {k : Nm -> Hp -> Prop} {X : Nat -> Nm -> Hp -> Prop}
  (h : ih.e fc φ o H (λ ov H1=>ih.e fc φ i H1 (λ q H2=>setE' False ov q v H2 λ H3=>k φ H3) λ n H=>X n φ H) λ n H=>X n φ H) (rv : VR R v x) (E : EnvOk A fc env φ L m R) (I : Inv prog w g₀ g L m R H s.heap) :
  OkN prog w g₀ A fc env g L unitρ (assign (.Subscript o i pos) env x) R s (λ _=>k) X:=by
 dsimp only [setItem_arm]
 refine (Ok.holding (S.e h Z E I)).bindN E λ ov H1 R1 ox s1 h1 e1 I1 E1 r1 sm1=>?_
 refine (Ok.holding (S.e h1 Z E1 I1)).bindN E1 λ iv H2 R2 ix s2 h2 e2 I2 E2 r2 sm2=>?_
 refine OkN.standAt λ Qc Ec hQ hE=>wpAny_unit (wpAny_holding ?_)
 refine ok_set B Z.units I2 (k:=λ _ H'=>k φ H') h2 (r1.ext e2) r2 (rv.ext (e1.trans e2)) (X:=λ n H=>X n φ H) _ _ (λ _ H' R' _ s' hk' e' I' _ sm'=>?_) (hE.of E2)
 exact wpAny_release (hQ () φ H' R' m () s' hk' e' I' (E2.ext e') trivial sm')
set_option tactic.hygienic true in
theorem ok_attr (B : Base K mg mb g₀) (CX : CxOk cx prog w K g₀ mg mb) (S : Snd prog w g₀ ih) (Z : Arnd g₀ A fc g L) {o : Expr} {name : Str} {pos : Pos} {v : V} {x : Value} {k : Nm -> Hp -> Prop} {X : Nat -> Nm -> Hp -> Prop}
  (h : assignE False cx ih fc φ (.Attribute o name pos) v H k λ n H=>X n φ H) (rv : VR R v x) (E : EnvOk A fc env φ L m R) (I : Inv prog w g₀ g L m R H s.heap) :
  OkN prog w g₀ A fc env g L unitρ (assign (.Attribute o name pos) env x) R s (λ _=>k) X:=by
 refine (Ok.holding (S.e (show ih.e fc φ o H _ _ from h) Z E I)).bindN E λ ov H1 R1 ox s1 h1 e1 I1 E1 r1 sm1=>?_
 refine OkN.standAt λ Qc Ec hQ hE=>wpAny_unit (wpAny_holding ?_)
 have fin : ∀ H',k φ H' -> (Ok prog w g₀ A g L m unitρ (setAttr ox name x) R1 s1 (λ _ H2=>H2 = H') λ n H=>X n φ H) -> wpAny (model prog w) A (setAttr ox name x) (λ _ s'=>wpAny (model prog w) A (release [x,ox] []) Qc Ec s') Ec s1:=by
  intro H' hk hok
  refine hok _ _ (λ _ H2 R' _ s' hk' e' I' _ sm'=>?_) (hE.of E1)
  refine yG λ G_ k_=>?_
  subst hk'
  refine k_ ?_
  exact wpAny_release (hQ () φ H2 R' m () s' hk e' I' (E1.ext e') trivial sm')
 split at h1
 ·rename_i n C hf
  split at h1
  ·rename_i hx
   exact fin _ h1 (ok_setfresh B CX I1 hf hx rfl r1 (rv.ext e1))
  ·exact h1.elim
 ·split at h1
  ·rename_i C d fs hf
   split at h1
   ·rename_i hx hl
    exact fin _ h1 (ok_setattr B CX I1 hf hx hl rfl r1 (rv.ext e1))
   ·exact h1.elim
  ·refine yG λ G_ k_=>?_
   obtain ⟨fs,hf,h1⟩:=optK_some h1
   split at h1
   refine k_ ?_
   ·rename_i hx hl
    exact fin _ h1 (ok_setexc B CX I1 hf hx hl rfl r1 (rv.ext e1))
   ·exact h1.elim
theorem ok_name_store (E : EnvOk A fc env φ L m R) (I : Inv prog w g₀ g L m R H s.heap) {x : Str} {pos : Pos} {v : V} {y : Value} {q : Nm × Hp} {k : Nm -> Hp -> Prop} {X : Nat -> Nm -> Hp -> Prop} (h : storeM fc.sc x v φ H = some q) (hk : k q.1 q.2) (rv : VR R v y) :
  OkN prog w g₀ A fc env g L unitρ (assign (.Name x pos) env y) R s (λ _=>k) X:=by
 exact OkN.standAt (ok_store h rv E I (k:=λ _=>k) hk)
theorem OkN.weak {β α : Type} {ρ : List Addr -> β -> α -> Prop} {t : Sem α} {k : β -> Nm -> Hp -> Prop} {X Y : Nat -> Nm -> Hp -> Prop} (h : OkN prog w g₀ A fc env g L ρ t R s k X) (hX : ∀ n φ H,X n φ H -> Y n φ H) : OkN prog w g₀ A fc env g L ρ t R s k Y:=
 λ Qc Ec hQ hE=>h Qc Ec hQ λ n φ' H' R' m' a s' x=>hE n φ' H' R' m' a s' (hX _ _ _ x)
set_option tactic.hygienic true in
theorem each_star {t : Expr} (h : starE t = false) (r : List Expr) : assignEach (t :: r) env = (false,assign t env) :: assignEach r env:=by
 cases t <;> first | rfl | cases h
set_option tactic.hygienic true in
theorem ok_tups (B : Base K mg mb g₀) (S : Snd prog w g₀ ih) (Z : Arnd g₀ A fc g L) {X : Nat -> Nm -> Hp -> Prop} :
  ∀ {ts : List Expr} {vs : List V} {xs : List Value} {φ : Nm} {H : Hp} {k : Nm -> Hp -> Prop} {R : List Addr} {m : Str -> Option Value} {s : Shared},
  assignE.tups False ih fc ts vs φ H k -> VRs R vs xs -> EnvOk A fc env φ L m R -> Inv prog w g₀ g L m R H s.heap ->
  OkN prog w g₀ A fc env g L unitρ (assignInOrder ((assignEach ts env).map (·.2)) xs) R s (λ _=>k) X:=by
 intro l_
 induction l_ with
 | nil=>
  intro z1_ xs φ H k R m s h rv E I
  cases z1_ with
  | nil=>
   refine yG λ G_ k_=>?_
   cases rv
   refine k_ ?_
   exact OkN.pure (b:=()) I E h trivial
  | cons _ _=>
   exact h.elim
 | cons t ts ih_=>
  intro z2_ xs φ H k R m s h rv E I
  cases z2_ with
  | nil=>
   exact h.elim
  | cons v vs=>
   cases rv with
   | cons ra rs=>
   rename_i x xs
   have step : ∀ {k1 : Nm -> Hp -> Prop},starE t = false -> OkN prog w g₀ A fc env g L unitρ (assign t env x) R s (λ _=>k1) X -> (∀ φ' H',k1 φ' H' -> assignE.tups False ih fc ts vs φ' H' k) ->
     OkN prog w g₀ A fc env g L unitρ (assignInOrder ((assignEach (t :: ts) env).map (·.2)) (x :: xs)) R s (λ _=>k) X:=by
    intro k1 hs h1 h2
    rw [each_star hs]
    show OkN prog w g₀ A fc env g L unitρ (do holding xs (assign t env x); assignInOrder ((assignEach ts env).map (·.2)) xs) R s (λ _=>k) X
    exact OkN.bind (OkN.holding h1) λ _ φ' H' R' m' _ s' hk e I' E' _ _=>ih_ (h2 φ' H' hk) (rs.ext e) E' I'
   have h : (match nameOf t with
    | some x=>optK False (storeM fc.sc x v φ H) λ q=>assignE.tups False ih fc ts vs q.1 q.2 k
    | none=>optK False (subOf t) λ q=>optK False (nameOf q.1) λ _=>optK False (nameOf q.2) λ _=>ih.e fc φ q.1 H (λ ov H1=>ih.e fc φ q.2 H1 (λ k1 H2=>setE' False ov k1 v H2 λ H3=>assignE.tups False ih fc ts vs φ H3 k) λ _ _=>False) λ _ _=>False):=h
   cases hn : nameOf t with
   | some y=>
    simp only [hn] at h
    obtain ⟨p,rfl⟩:=nameOf_eq hn
    refine optE h λ q hq hk=>step (k1:=λ φ' H'=>φ' = q.1 ∧ H' = q.2) rfl (ok_name_store E I hq ⟨rfl,rfl⟩ ra) ?_
    rintro _ _ ⟨rfl,rfl⟩
    exact hk
   | none=>
    simp only [hn] at h
    refine optE h λ q hq h=>optE h λ _ _ h=>optE h λ _ _ hk=>?_
    obtain ⟨p,rfl⟩:=subOf_eq hq
    exact step (k1:=λ φ' H'=>assignE.tups False ih fc ts vs φ' H' k) rfl (OkN.weak (X:=λ _ _ _=>False) (ok_item B S Z hk ra E I) λ _ _ _ q=>q.elim) λ _ _ q=>q
theorem stars_ : ∀ {l : List Expr},(∀ t ∈ l,(!starE t) = true) -> (assignEach l env).length = l.length ∧ (assignEach l env).findIdx? (·.1) = none:=by
 intro l_
 induction l_ with
 | nil=>
  intro _
  exact ⟨rfl,rfl⟩
 | cons t l ih_=>
  intro hl
  obtain ⟨q1,q2⟩:=ih_ λ t ht=>hl t (.tail _ ht)
  rw [each_star (Bool.not_eq_true' _ ▸ hl t (.head _)),List.length_cons,List.length_cons,q1,List.findIdx?_cons,q2]
  exact ⟨rfl,rfl⟩
theorem ok_assign (B : Base K mg mb g₀) (CX : CxOk cx prog w K g₀ mg mb) (S : Snd prog w g₀ ih) (Z : Arnd g₀ A fc g L) {t : Expr} {v : V} {x : Value} {k : Nm -> Hp -> Prop} {X : Nat -> Nm -> Hp -> Prop}
  (h : assignE False cx ih fc φ t v H k λ n H=>X n φ H) (rv : VR R v x) (E : EnvOk A fc env φ L m R) (I : Inv prog w g₀ g L m R H s.heap) :
  OkN prog w g₀ A fc env g L unitρ (assign t env x) R s (λ _=>k) X:=by
 cases t with
 | Name y pos=>
  obtain ⟨q,hq,h⟩:=optK_some (show optK False (storeM fc.sc y v φ H) _ from h)
  exact ok_name_store E I hq h rv
 | Attribute o name pos=>exact ok_attr B CX S Z h rv E I
 | Subscript o i pos=>
  cases i <;> first | exact ok_item B S Z h rv E I | exact (show False from h).elim
 | Tuple ts c pos=>
  obtain ⟨sc,d,hd⟩:=fc
  cases hd with
  | some _=>exact (show False from h).elim
  | none=>
   refine optE (show optK False (itemsM H v) _ from h) λ vs hv h=>tfE h λ hb h=>?_
   rw [Bool.and_eq_true,List.all_eq_true] at hb
   have hv : optK False (itemsM H v) λ l=>l = vs:=optK_of hv rfl
   apply yR.ok hv rv; intro n a hn hv
   refine hT.ok hv λ vs' hH hv=>?_
   refine yG λ G_ k_=>?_
   obtain rfl : vs' = vs:=hv
   obtain ⟨o,ho,xs,e,hc,hd,hvr⟩:=I.at hH rfl hn
   obtain ⟨q1,q2⟩:=stars_ (env:=env) hb.2
   refine k_ ?_
   intro Qc Ec hQ hE
   refine wpAny_assign_Tuple (items:=xs.toArray) E.hdl ⟨o,ho,hc,_,hd⟩ (by simp only [q1,Nat.eq_of_beq_eq_true hb.1,hvr.length,List.size_toArray]) q2 λ h' hs=>?_
   have I' : Inv prog w g₀ g L m R H h':=I.keeps λ b o hb=>hs b o (Nat.ne_of_lt (Heap.lt_size hb)) hb
   exact ok_tups B S Z (s:={ s with heap:=h' }) h hvr E I' Qc Ec (hQ.on (Ext.refl R) Same.mk') (hE.on (Ext.refl R) Same.mk')
 | _=>exact (show False from h).elim
end
abbrev LoopR (prog : Program) (w : World) (A : Around) (env : Env) (Qc : Flow -> Shared -> Prop) (Ec : Value -> Shared -> Prop) (r : Result) (s' : Shared) : Prop:=
 match r with
 | .ok f=>Qc f s'
 | .error e=>cameBackBy (model prog w) A env Ec e s'
structure SndS (prog : Program) (w : World) (g₀ : Heap) (ih : Ev Prop) : Prop where
 s : ∀ {fc φ st H k X A env g L m R s},ih.s fc φ st H k X -> ArndS g₀ A fc env g L -> EnvOk A fc env φ L m R -> Inv prog w g₀ g L m R H s.heap -> OkN prog w g₀ A fc env g L flρ (exec st env) R s k X
 wl : ∀ {fc φ t b H k X A env g L m R s},ih.w fc φ t b H k X -> ArndS g₀ A fc env g L -> EnvOk A fc env φ L m R -> Inv prog w g₀ g L m R H s.heap ->
  ∀ Qc Ec,EndN prog w g₀ A fc env g L flρ R s k Qc -> EndNX prog w g₀ A fc env g L R s X Ec -> codeAny (model prog w) A (.whileLoop t b [] env) (LoopR prog w A env Qc Ec) s
 fl : ∀ {fc φ t n b H k X A env g L m R s a},ih.f fc φ t n b H k X -> fc.h = none -> ArndS g₀ A fc env g L -> EnvOk A fc env φ L m R -> Inv prog w g₀ g L m R H s.heap -> R[n]? = some a ->
  ∀ Qc Ec,EndN prog w g₀ A fc env g L flρ R s k Qc -> EndNX prog w g₀ A fc env g L R s X Ec -> codeAny (model prog w) A (.forLoop t (.ref a) b [] env) (LoopR prog w A env Qc Ec) s
section
variable {prog : Program} {w : World} {cx : Cx} {K : Frag} {mg mb : Str -> Option Value} {g₀ : Heap}
variable {fc : Fc} {φ : Nm} {H : Hp} {A : Around} {env : Env} {g : Heap} {L : Addr} {m : Str -> Option Value} {R R₀ : List Addr} {s : Shared} {ih : Ev Prop} {X : Nat -> Nm -> Hp -> Prop}
theorem EndNX.noted (Z : ArndS g₀ A fc env g L) (hk : env.scope.kind = .function) {Ec : Value -> Shared -> Prop} (h : EndNX prog w g₀ A fc env g L R s X Ec) :
  EndNX prog w g₀ A fc env g L R s X (notedBy (model prog w) A env (cameBackBy (model prog w) A env Ec)):=by
 intro n φ' H' R' m' a s' x e I E ha fl sm
 exact ok_noted Z hk I fl λ h' I' F'=>h n φ' H' R' m' a _ x e I' E ha (.inr (F'.mono λ _ q=>.inr q)) (sm.trans Same.mk')
theorem SndS.ss (S : SndS prog w g₀ ih) (Z : ArndS g₀ A fc env g L) : SS prog w g₀ A fc env g L X (λ φ st H K=>ih.s fc φ st H K X):=λ _ _ _ _ _ _ _ h E I=>S.s h Z E I
theorem whileTurn_ok (B : Base K mg mb g₀) (S : Snd prog w g₀ ih) (SS : SndS prog w g₀ ih) {t : Expr} {b : List Stmt} {k : Fl -> Nm -> Hp -> Prop} (h : wStep ih fc φ t b H k X) (Z : ArndS g₀ A fc env g L) (E : EnvOk A fc env φ L m R) (I : Inv prog w g₀ g L m R H s.heap) :
  ∀ Qc Ec,EndN prog w g₀ A fc env g L flρ R s k Qc -> EndNX prog w g₀ A fc env g L R s X Ec -> codeAny (model prog w) A (.whileLoop t b [] env) (LoopR prog w A env Qc Ec) s:=by
 intro Qc Ec hQ hE
 refine codeAny_of_tree ?_
 show wpAny _ A ((whileTurn t b [] env).onRaise (λ x=>do noteFrame x env; theTreesLotGoes x)) _ _ s
 refine wpAny_noted ?_
 have hEn:=hE.noted Z E.fn
 refine wpAny_bind (S.t h Z.a E I _ _ (λ q H1 R1 q' s1 hq e1 I1 rq sm1=>?_) (hEn.of E))
 cases rq
 have E1:=E.ext e1
 cases q with
 | false=>
  refine wpAny_bind (wpAny_execs_nil (wpAny_pure ?_))
  exact hQ .next φ H1 R1 m .next s1 hq e1 I1 E1 rfl sm1
 | true=>
  refine wpAny_bind (ok_execs (SS.ss Z) hq E1 I1 _ _ (λ fl φ' H2 R2 m2 f s2 hf e2 I2 E2 rf sm2=>?_) (hEn.on e1 sm1))
  have again : ih.w fc φ' t b H2 k X -> codeAny (model prog w) A (.whileLoop t b [] env) (LoopR prog w A env Qc Ec) s2:=λ hw=>SS.wl hw Z E2 I2 Qc Ec (hQ.on (e1.trans e2) (sm1.trans sm2)) (hE.on (e1.trans e2) (sm1.trans sm2))
  cases fl with
  | next=>cases rf; exact wpAny_pure ⟨rfl,again hf⟩
  | cont=>cases rf; exact wpAny_pure ⟨rfl,again hf⟩
  | brk=>cases rf; exact wpAny_pure (hQ _ _ _ _ _ _ _ hf (e1.trans e2) I2 E2 rfl (sm1.trans sm2))
  | ret v=>obtain ⟨x,rfl,hx⟩:=rf; exact wpAny_pure (hQ _ _ _ _ _ _ _ hf (e1.trans e2) I2 E2 ⟨x,rfl,hx⟩ (sm1.trans sm2))
theorem forTurn_ok (B : Base K mg mb g₀) (CX : CxOk cx prog w K g₀ mg mb) (S : Snd prog w g₀ ih) (SS : SndS prog w g₀ ih) {t : Expr} {n : Nat} {b : List Stmt} {a : Addr} {k : Fl -> Nm -> Hp -> Prop} (h : fStep False cx ih fc φ t n b H k X) (hh : fc.h = none) (Z : ArndS g₀ A fc env g L) (E : EnvOk A fc env φ L m R)
  (I : Inv prog w g₀ g L m R H s.heap) (ha : R[n]? = some a) :
  ∀ Qc Ec,EndN prog w g₀ A fc env g L flρ R s k Qc -> EndNX prog w g₀ A fc env g L R s X Ec -> codeAny (model prog w) A (.forLoop t (.ref a) b [] env) (LoopR prog w A env Qc Ec) s:=by
 intro Qc Ec hQ hE
 refine codeAny_of_tree ?_
 show wpAny _ A ((forTurn t (.ref a) b [] env).onRaise (λ x=>do noteFrame x env; theTreesLotGoes x)) _ _ s
 refine wpAny_noted ?_
 have hEn:=hE.noted Z E.fn
 refine yG λ G_ k_=>?_
 obtain ⟨it,hk,h⟩:=optK_some h
 obtain ⟨r,hr,h⟩:=optK_some h
 refine k_ ?_
 have lt : n < H.length:=(List.getElem?_eq_some_iff.mp hk).1
 refine wpAny_bind (wpAny_standAt (wpAny_bind (wpAny_onRaise (ok_next (by have:=E.hdl; rw [hh] at this; exact this) I hk ha hr ?_))))
 cases r with
 | none=>
  intro s' I' sm
  refine wpAny_pure ⟨rfl,codeAny_block (wpAny_execs_nil ?_)⟩
  exact hQ .next φ _ R m .next s' h (Ext.refl R) I' E rfl sm
 | some q=>
  intro hq x s' I' rv sm
  obtain ⟨v,it'⟩:=q
  refine wpAny_bind (ok_letGo (it:=it') I' (by exact (List.getElem?_set_self lt)) ha hq ?_)
  refine wpAny_bind (ok_assign B CX S Z.a h rv E I' _ _ (λ _ φ1 H1 R1 m1 _ s1 h1 e1 I1 E1 _ sm1=>?_) (hEn.on (Ext.refl R) sm))
  have sm1:=sm.trans sm1
  refine wpAny_bind (ok_execs (SS.ss Z) h1 E1 I1 _ _ (λ fl φ' H2 R2 m2 f s2 hf e2 I2 E2 rf sm2=>?_) (hEn.on e1 sm1))
  have again : ih.f fc φ' t n b H2 k X -> codeAny (model prog w) A (.forLoop t (.ref a) b [] env) (LoopR prog w A env Qc Ec) s2:=λ hw=>
   SS.fl hw hh Z E2 I2 ((e1.trans e2).get ha) Qc Ec (hQ.on (e1.trans e2) (sm1.trans sm2)) (hE.on (e1.trans e2) (sm1.trans sm2))
  cases fl with
  | next=>cases rf; exact wpAny_pure ⟨rfl,again hf⟩
  | cont=>cases rf; exact wpAny_pure ⟨rfl,again hf⟩
  | brk=>cases rf; exact wpAny_pure (hQ _ _ _ _ _ _ _ hf (e1.trans e2) I2 E2 rfl (sm1.trans sm2))
  | ret v=>obtain ⟨x,rfl,hx⟩:=rf; exact wpAny_pure (hQ _ _ _ _ _ _ _ hf (e1.trans e2) I2 E2 ⟨x,rfl,hx⟩ (sm1.trans sm2))
end
section
variable {prog : Program} {w : World} {cx : Cx} {K : Frag} {mg mb : Str -> Option Value} {g₀ : Heap}
variable {fc : Fc} {φ : Nm} {H : Hp} {A : Around} {env : Env} {g : Heap} {L : Addr} {m : Str -> Option Value} {R R₀ : List Addr} {s : Shared} {ih : Ev Prop} {X : Nat -> Nm -> Hp -> Prop}
theorem ok_passOn {M : Model} {α : Type} {E : Value -> Shared -> Prop} {what : String} {a : Addr} {Q : α -> Shared -> Prop} (hf : env.frame = some L) (I : Inv prog w g₀ g L m R H s.heap) {fl : Value -> Prop} (F : Tb g₀ g fl R H a s.heap)
  (hQ : ∀ h',Inv prog w g₀ g L m R H h' -> Tb g₀ g (· = rawInt L) R H a h' -> E (.ref a) { s with heap:=h' }) : wpAny M A (PySem.passOn what (.ref a) env : Sem α) Q E s:=by
 have F':=F
 obtain ⟨i,C,d,oe,vs,T,oT,ts,f,hi,ha,he,hd,hv,_⟩:=F
 refine wpAny_bind (wpAny_field he hd hv (wpAny_ite_false rfl ?_))
 refine hf ▸ ?_
 exact wpAny_bind (ok_flight (fr:=some L) (Q:=λ _ s'=>wpAny M A (throw (.ref a) : Sem α) Q E s') I F' λ h' I' T'=>wpAny_throw (hQ h' I' T'))
theorem plainO_eq {o : MO} (h : plainO o = true) : ∃ C d,o = .exc C d .plain:=by
 cases o with
 | exc C d xf=>cases xf with
  | plain=>exact ⟨C,d,rfl⟩
  | _=>exact nft h
 | _=>exact nft h
theorem raise_go {n : Nat} {C : Addr} {d : Option Nat} {a t : Addr} {ob : Obj} {Qc : Flow -> Shared -> Prop} {Ec : Value -> Shared -> Prop} (hdd : match d with
   | none=>ob.dict = none
   | some d=>∃ a,R[d]? = some a ∧ ob.dict = some a) (hE : EndNX prog w g₀ A fc env g L R s X Ec) (E : EnvOk A fc env φ L m R) (I : Inv prog w g₀ g L m R H s.heap) (hH : H[n]? = some (.exc C d .new)) (hn : R[n]? = some a)
  (hob : s.heap.get? a = some ob) (hc : ob.cls = .ref C) (hvs : ob.data = .fields #[.ref t,.none,.none,.none,.bool false,.none]) (h : raiseE False fc X n C d φ H) : wpAny (model prog w) A (raiseNew (.ref a) : Sem Flow) Qc Ec s:=by
 have hh:=E.hdl
 have lt : n < H.length:=(List.getElem?_eq_some_iff.mp hH).1
 delta raiseE at h
 cases hfh : fc.h with
 | none=>
  rw [hfh] at h hh
  exact wpAny_raiseNew_none hh (hE n φ _ R m a s h (Ext.refl R) (I.turn hH rfl hn (λ _ _ _ q=>q) λ _=>⟨ob,hob,hc,⟨_,hvs,rfl⟩,hdd⟩) E hn (.inl ⟨n,C,d,ob,_,⟨.plain,λ e=>(nomatch e),List.getElem?_set_self lt⟩,hn,hob,hvs,rfl⟩) (Same.refl s))
 | some i=>
  rw [hfh] at h hh
  dsimp only at h
  cases hH2 : H[i]? with
  | none=>rw [hH2] at h; exact h.elim
  | some o=>
   simp only [hH2] at h
   refine gB.ok h λ hp h=>?_
   refine yG λ G_ k_=>?_
   obtain ⟨C2,d2,rfl⟩:=plainO_eq hp
   obtain ⟨b,hb1,hb2⟩:=hh
   obtain ⟨ob2,hob2,hc2,⟨ws,hws,hw2⟩,_⟩:=I.at hH2 rfl hb2
   refine k_ ?_
   have hne : b ≠ a:=λ q=>by
    obtain rfl:=I.nd i n b ⟨_,hH2,rfl,hb2⟩ ⟨_,hH,rfl,q ▸ hn⟩
    exact nomatch hH.symm.trans hH2
   have hdict : ∀ f,(ob.mapFields f).dict = ob.dict:=by obtain ⟨c,dd,dt,sl⟩:=ob; cases dt <;> intro f <;> rfl
   have hu:=Heap.get?_update_self (Obj.mapFields (·.setIfInBounds 2 (.ref b))) hob (Obj.isFreed_of_fields (Obj.data_mapFields hvs _))
   exact raiseNew_in (M:=model prog w) hb1 hob2 hws hw2 hob hvs (show 2 < 6 by decide) hne (hE n φ _ R m a { s with heap:=s.heap.update a (Obj.mapFields (·.setIfInBounds 2 (.ref b))) } h (Ext.refl R)
    (I.turn hH rfl hn (λ z _ hz q=>(Heap.get?_update_other _ _ (Ne.symm hz)).trans q) λ _=>⟨_,hu,(Obj.cls_mapFields _ _).trans hc,⟨_,Obj.data_mapFields hvs _,trivial⟩,by rw [hdict]; exact hdd⟩) E hn (.inl ⟨n,C,d,_,_,⟨.ctx,λ e=>(nomatch e),List.getElem?_set_self lt⟩,hn,hu,Obj.data_mapFields hvs _,rfl⟩) Same.mk')
theorem ok_raise (B : Base K mg mb g₀) (CX : CxOk cx prog w K g₀ mg mb) (S : Snd prog w g₀ ih) (Z : ArndS g₀ A fc env g L) {x c : Option Expr} {pos : Pos} {k : Fl -> Nm -> Hp -> Prop} (h : sStep False cx ih fc φ (.Raise x c pos) H k X)
  (E : EnvOk A fc env φ L m R) (I : Inv prog w g₀ g L m R H s.heap) : OkN prog w g₀ A fc env g L flρ (exec (.Raise x c pos) env) R s k X:=by
 cases x with
 | none=>exact (show False from h).elim
 | some x=>cases c with
  | some _=>exact (show False from h).elim
  | none=>
   intro Qc Ec hQ hE
   refine wpAny_bind (wpAny_standAt ?_)
   refine raise_exc (K:=K) (wpAny_bind (S.e (show ih.e fc φ x H _ _ from h) Z.a E I _ _ (λ v H1 R1 xv s1 h1 e1 I1 rv sm1=>wpAny_bind (wpAny_standAt (wpAny_pure ?_))) (hE.of E)))
   apply yR.ok h1 rv
   intro n a hn h1
   refine yAt.ok h1 (λ o hH h1=>?_) λ h1=>h1.elim
   cases o with
   | exc C d xf=>cases xf with
    | new=>
     refine yB.ok h1 λ hx h1=>?_
     refine yG λ G_ k_=>?_
     obtain ⟨ob,hob,hc,⟨vs,hvs,t,ht⟩,hdd⟩:=I1.at hH rfl hn
     subst ht
     refine k_ ?_
     exact ⟨a,C,ob,t,B.k.keeps I1.S,CX.xcls C hx,hob,hc,hvs,raise_go hdd (hE.on e1 sm1) (E.ext e1) I1 hH hn hob hc hvs h1⟩
    | _=>exact h1.elim
   | _=>exact h1.elim
end
section
variable {prog : Program} {w : World} {cx : Cx} {K : Frag} {mg mb : Str -> Option Value} {g₀ : Heap}
variable {fc : Fc} {φ : Nm} {H : Hp} {A : Around} {env : Env} {g : Heap} {L : Addr} {m : Str -> Option Value} {R R₀ : List Addr} {s : Shared} {ih : Ev Prop} {X : Nat -> Nm -> Hp -> Prop}
theorem ArndS.mark {fc' : Fc} (Z : ArndS g₀ A fc env g L) (h : fc'.d = fc.d) (v : Option Value) : ArndS g₀ (A.mark v) fc' env g L:=⟨⟨by have:=Z.a.dep; refine h ▸ ?_; exact this,by have:=Z.a.uni; refine h ▸ ?_; exact this,Z.a.fr⟩,Z.own⟩
theorem EnvOk.mark {a : Addr} {x : Nat} (E : EnvOk A fc env φ L m R) (hx : R[x]? = some a) : EnvOk (A.mark (some (.ref a))) { fc with h:=some x } env φ L m R:=⟨E.loc,E.glo,E.blt,E.fn,E.kind,E.nm,⟨a,rfl,hx⟩⟩
theorem EnvOk.unmark {A' : Around} {i : Option Nat} (E' : EnvOk A' { fc with h:=i } env φ L m R) (hd : HdOk A fc.h R) : EnvOk A fc env φ L m R:=⟨E'.loc,E'.glo,E'.blt,E'.fn,E'.kind,E'.nm,hd⟩
theorem glob_at (B : Base K mg mb g₀) (CX : CxOk cx prog w K g₀ mg mb) (E : EnvOk A fc env φ L m R) (I : Inv prog w g₀ g L m R H s.heap) {M : Model} {A' : Around} {c : Str} {p : Pos} {v : V} {Q : Value -> Shared -> Prop} {Ec : Value -> Shared -> Prop}
  (hl : look c fc.sc.names = some .globalImplicit) (hc : cx.glob c = some v) (h : ∀ val,VR [] v val -> Q val s) : wpAny M A' (eval (.Name c p) env) Q Ec s:=by
 refine yG λ G_ k_=>?_
 obtain ⟨hd,val,hv,hr⟩:=CX.glob c v hc
 refine k_ ?_
 have hkd' : env.kindOf c = some .globalImplicit:=by rcases E.kind c _ hl with q | ⟨q,_⟩; exact q; cases q
 refine wpAny_Name (hd:=hd) ?_
 refine (loadName_read E.fn hkd') ▸ ?_
 have ng : s.heap.Ns env.globals mg:=by rw [E.glo]; exact B.ng.keeps I.S
 rcases hv with hv | ⟨hv,hb⟩
 ·exact loadGlobal_global ng hv (h _ hr)
 ·exact loadGlobal_builtin ng hv (by refine E.blt ▸ ?_; exact B.nb.keeps I.S) hb (h _ hr)
theorem ok_caught (B : Base K mg mb g₀) (CX : CxOk cx prog w K g₀ mg mb) (Z : ArndS g₀ A fc env g L) (E : EnvOk A fc env φ L m R) (I : Inv prog w g₀ g L m R H s.heap) {x : Nat} {a : Addr} (ha : R[x]? = some a) (F : Fly g₀ g (flL L) R H a s.heap)
  {c : Str} {p pos : Pos} {n : Option Str} {b₀ : Stmt} {bs : List Stmt} {C D : Addr} {d : Option Nat} {xf : XF} {Qc : Flow -> Shared -> Prop} {Ec : Value -> Shared -> Prop} (hl : look c fc.sc.names = some .globalImplicit) (hc : cx.glob c = some (.top (.ref C)))
  (hx : H[x]? = some (.exc D d xf)) (hs : cx.sub D C = some true) (hD : cx.xcls D = true) (hC : cx.xcls C = true)
  (hgo : ∀ s',Inv prog w g₀ g L m R H s'.heap -> Tb g₀ g flN R H a s'.heap -> Same s s' -> codeAny (model prog w) (A.mark (some (.ref a))) (.handlers (.ref a) [.ExceptHandler none n (b₀ :: bs) pos] env) (λ r s₂=>match r with
     | .ok f=>(match n with
      | none=>Qc f s₂
      | some y=>wpAny (model prog w) A (do bindName env y .none; unbindBehindTheSuite env y pos) (λ _ s₃=>Qc f s₃) Ec s₂)
     | .error x=>cameBackBy (model prog w) A env Ec x s₂) s') :
  wpAny (model prog w) A (noteFrame (.ref a) env) (λ _ s₂=>wpAny (model prog w) A (setFlight (.ref a) none) (λ _ s₃=>
   wpAny (model prog w) A (handleBy (.ref a) env [.ExceptHandler (some (.Name c p)) n (b₀ :: bs) pos]) Qc Ec s₃) Ec s₂) Ec s:=by
 refine ok_note Z E.fn I F λ h1 I1 T1=>?_
 refine ok_flight (s:={ s with heap:=h1 }) I1 T1 λ h2 I2 T2=>?_
 refine wpAny_handleBy_cons (codeAny_handlers_test ?_) (by intro q; cases q)
 refine glob_at (s:={ s with heap:=h2 }) B CX E I2 hl hc λ val hv=>?_
 refine yG λ G_ k_=>?_
 cases hv
 obtain ⟨ob,hob,hor⟩:=I2.at hx (by rfl) ha
 refine k_ ?_
 have hcl : ob.cls = .ref D:=by cases d <;> exact hor.1
 refine matches_exc (B.k.keeps I2.S) (CX.xcls D hD) (CX.xcls C hC) (CX.sub D C true hs).1 hob hcl ?_
 exact hgo _ I2 (T2.mono λ _ q=>q) Same.mk'
theorem ok_suite (B : Base K mg mb g₀) (CX : CxOk cx prog w K g₀ mg mb) (SS : SndS prog w g₀ ih) (Z : ArndS g₀ A fc env g L) (E : EnvOk A fc env φ L m R) (I : Inv prog w g₀ g L m R H s.heap) {x : Nat} {a : Addr} (ha : R[x]? = some a) (T : Tb g₀ g flN R H a s.heap)
  {b₀ : Stmt} {bs : List Stmt} {pos : Pos} {k : Fl -> Nm -> Hp -> Prop} (h : runSs (λ φ st H K=>ih.s { fc with h:=some x } φ st H K X) (b₀ :: bs) φ H k) {Qc : Flow -> Shared -> Prop} {Ec : Value -> Shared -> Prop}
  (hQ : EndN prog w g₀ A fc env g L flρ R s k Qc) (hE : EndNX prog w g₀ A fc env g L R s X Ec) :
  codeAny (model prog w) (A.mark (some (.ref a))) (.handlers (.ref a) [.ExceptHandler none none (b₀ :: bs) pos] env) (λ r s₂=>match r with
     | .ok f=>Qc f s₂
     | .error x=>cameBackBy (model prog w) A env Ec x s₂) s:=by
 have Z' : ArndS g₀ (A.mark (some (.ref a))) { fc with h:=some x } env g L:=Z.mark (fc':={ fc with h:=some x }) rfl _
 refine codeAny_handlers_suite (ok_flight I T λ h3 I3 T3=>?_)
 refine ok_execs (s:={ s with heap:=h3 }) (SS.ss Z') h (E.mark ha) I3 _ _ (λ fl φ' H' R' m' f s' hk e' I' E' r sm=>?_) λ n φ' H' R' m' b s' hk e' I' E' hb F sm=>?_
 ·exact hQ fl φ' H' R' m' f s' hk e' I' (E'.unmark (E.hdl.ext e')) r (Same.trans Same.mk' sm)
 ·refine ok_noted Z' E.fn I' F λ h4 I4 T4=>?_
  exact hE n φ' H' R' m' b _ hk e' I4 (E'.unmark (E.hdl.ext e')) hb (.inr (T4.mono λ _ q=>.inr q)) ((Same.trans Same.mk' sm).trans Same.mk')
theorem ok_suite_as (B : Base K mg mb g₀) (CX : CxOk cx prog w K g₀ mg mb) (SS : SndS prog w g₀ ih) (Z : ArndS g₀ A fc env g L) (E : EnvOk A fc env φ L m R) (I : Inv prog w g₀ g L m R H s.heap) {x : Nat} {a : Addr} (ha : R[x]? = some a) (T : Tb g₀ g flN R H a s.heap)
  {y : Str} {b₀ : Stmt} {bs : List Stmt} {pos : Pos} (hy : look y fc.sc.names = some .local) (h : runSs (λ φ st H K=>ih.s { fc with h:=some x } φ st H K λ n _ H=>X n [] H) (b₀ :: bs) (setN y (.loc (.ref x)) φ) H λ _ _ _=>False) {Qc : Flow -> Shared -> Prop} {Ec : Value -> Shared -> Prop}
  (hE : EndNX prog w g₀ A fc env g L R s X Ec) :
  codeAny (model prog w) (A.mark (some (.ref a))) (.handlers (.ref a) [.ExceptHandler none (some y) (b₀ :: bs) pos] env) (λ r s₂=>match r with
     | .ok f=>wpAny (model prog w) A (do bindName env y .none; unbindBehindTheSuite env y pos) (λ _ s₃=>Qc f s₃) Ec s₂
     | .error x=>cameBackBy (model prog w) A env Ec x s₂) s:=by
 have Z' : ArndS g₀ (A.mark (some (.ref a))) { fc with h:=some x } env g L:=Z.mark (fc':={ fc with h:=some x }) rfl _
 have hkl : env.kindOf y = some .local:=by rcases E.kind y _ hy with q | ⟨q,_⟩; exact q; cases q
 have hp : (env.scope.kind == .class || (env.scope.kind == .module && env.locals != env.globals)) = false:=by rw [E.fn]; rfl
 refine codeAny_handlers_suite_as (ok_flight I T λ h3 I3 T3=>?_)
 refine wpAny_storeName_local hkl (E.loc.symm ▸ I3.ns) (λ h4 hn4 hs4=>?_) hp
 rw [E.loc] at hn4 hs4
 have I4:=I3.names hn4 hs4
 have E4 : EnvOk (A.mark (some (.ref a))) { fc with h:=some x } env (setN y (.loc (.ref x)) φ) L (λ z=>if z = y then some (.ref a) else m z) R:=by
  refine ⟨E.loc,E.glo,E.blt,E.fn,E.kind,λ z b hz=>?_,⟨a,rfl,ha⟩⟩
  rw [look_setN] at hz
  by_cases e : z = y
  ·replace hz:=(if_pos e) ▸ hz
   cases hz
   exact ⟨.ref a,if_pos e,.ref ha⟩
  ·replace hz:=(if_neg e) ▸ hz
   have:=E.nm z b hz
   cases b with
   | loc v'=>obtain ⟨val,h1,h2⟩:=this; exact ⟨val,(if_neg e).trans h1,h2⟩
   | cel n=>exact this
 refine ok_execs (s:={ s with heap:=h4,toks:=_ }) (SS.ss Z') h E4 I4 _ _ (λ fl φ' H' R' m' f s' hk e' I' E' r sm=>hk.elim) λ n φ' H' R' m' b s' hk e' I' E' hb F sm=>?_
 have sm' : Same s s':=Same.trans Same.mk' sm
 refine ok_note Z' E.fn I' F λ h5 I5 T5=>?_
 refine wpAny_nameGoes (s:={ s' with heap:=h5 }) hkl (E.loc.symm ▸ I5.ns) hp λ h6 m6 hn6 hs6=>?_
 simp only [E.loc] at hn6 hs6
 have I6:=I5.names hn6 hs6
 have T6 : Tb g₀ g (· = rawInt L) R' H' b h6:=by
  refine yG λ G_ k_=>?_
  obtain ⟨i,C,d,oe,vs,T,oT,ts,f,⟨xf,hx,hi⟩,hb',he,hd,hv,x6,x7,x8,x9,x10,x11,x12,x13⟩:=T5
  obtain ⟨oL,es,ep,hL,hLd,_⟩:=id I5.ns
  refine k_ ?_
  have hbL : b ≠ L:=(I5.out i b ⟨_,hi,rfl,hb'⟩).1
  have hTL : T ≠ L:=λ q=>by simp only [q,hL] at x7; obtain rfl:=Option.some.inj x7; replace x8:=hLd ▸ x8; cases x8
  exact ⟨i,C,d,oe,vs,T,oT,ts,f,⟨xf,hx,hi⟩,hb',(hs6.2 b hbL).trans he,hd,hv,x6,(hs6.2 T hTL).trans x7,x8,x9,x10,x11,x12,x13⟩
 refine ok_passOn Z.own.choose_spec.2.1 (s:={ s' with heap:=h6,toks:=_ }) I6 T6 λ h7 I7 T7=>?_
 refine ok_noted (s:={ s' with heap:=h7,toks:=_ }) Z' E.fn I7 (.inr (T7.mono λ _ q=>.inr q)) λ h8 I8 T8=>?_
 have EE : EnvOk A fc env [] L m6 R':=⟨E.loc,E.glo,E.blt,E.fn,E.kind,λ z b hz=>(by cases hz),E.hdl.ext e'⟩
 exact hE n [] H' R' m6 b _ hk e' I8 EE hb (.inr (T8.mono λ _ q=>.inr q)) (sm'.trans Same.mk')
theorem hnd1_eq {hs : List ExceptHandler} {c : Str} {n : Option Str} {hb : List Stmt} (h : hnd1 hs = some (c,n,hb)) : ∃ p pos,hs = [.ExceptHandler (some (.Name c p)) n hb pos]:=by
 have h : optK False (hnd1 hs) λ q=>q = (c,n,hb):=optK_of h rfl
 apply yC.ok h; intro x r h; apply yE.ok h; intro h
 obtain ⟨t,n',hb',pos⟩:=x
 refine bindK h λ y hy h=>?_
 obtain ⟨e,rfl,he⟩:=Option.bind_eq_some_iff.mp hy
 obtain ⟨p,rfl⟩:=nameOf_eq he
 cases h
 exact ⟨_,_,rfl⟩
theorem excC_eq {c : Str} {C : Addr} (h : excC cx fc c = some C) : look c fc.sc.names = some .globalImplicit ∧ cx.glob c = some (.top (.ref C)):=by
 unfold excC at h
 cases h1 : look c fc.sc.names with
 | none=>replace h:=h1 ▸ h; exact nsm h
 | some k=>
  rw [h1] at h
  cases k with
  | globalImplicit=>
   cases h2 : cx.glob c with
   | none=>dsimp only at h; rw [h2] at h; exact nsm h
   | some v=>
    dsimp only at h
    rw [h2] at h
    cases v with
    | top u=>cases u with
     | ref D=>cases h; exact ⟨rfl,rfl⟩
     | _=>exact nsm h
    | _=>exact nsm h
  | _=>exact nsm h
theorem excD_eq {x : Nat} {D : Addr} (h : excD H x = some D) : ∃ d xf,H[x]? = some (.exc D d xf):=by
 unfold excD at h
 cases h1 : H[x]? with
 | none=>rw [h1] at h; exact nsm h
 | some o=>
  replace h:=h1 ▸ h
  cases o with
  | exc D' d xf=>cases h; exact ⟨_,_,rfl⟩
  | _=>exact nsm h
theorem locN_eq {y : Str} (h : locN y fc = true) : look y fc.sc.names = some .local:=by
 unfold locN at h
 cases h1 : look y fc.sc.names with
 | none=>rw [h1] at h; exact nft h
 | some k=>
  rw [h1] at h
  cases k with
  | «local»=>rfl
  | _=>exact nft h
theorem ok_try (B : Base K mg mb g₀) (CX : CxOk cx prog w K g₀ mg mb) (SS : SndS prog w g₀ ih) (Z : ArndS g₀ A fc env g L) {b o f : List Stmt} {hs : List ExceptHandler} {pos : Pos} {k : Fl -> Nm -> Hp -> Prop} (h : sStep False cx ih fc φ (.Try b hs o f pos) H k X)
  (E : EnvOk A fc env φ L m R) (I : Inv prog w g₀ g L m R H s.heap) : OkN prog w g₀ A fc env g L flρ (exec (.Try b hs o f pos) env) R s k X:=by
 refine optE (show optK False (hnd1 hs) _ from h) λ q hq h=>?_
 obtain ⟨c,n,hb⟩:=q
 cases o with
 | cons _ _=>exact h.elim
 | nil=>cases f with
  | cons _ _=>exact h.elim
  | nil=>cases hb with
   | nil=>exact h.elim
   | cons b₀ bs=>
    obtain ⟨p,hpos,rfl⟩:=hnd1_eq hq
    intro Qc Ec hQ hE
    refine wpAny_Try_except (ok_execs (SS.ss Z) h E I _ _ (λ fl φ' H' R' m' f s' hk e' I' E' r sm=>?_) λ x φ1 H1 R1 m1 a s1 hk e1 I1 E1 ha F sm1=>?_)
    ·cases fl with
     | next=>cases r; exact wpAny_execs_nil (hQ _ _ _ _ _ _ _ hk e' I' E' rfl sm)
     | ret v=>obtain ⟨x,rfl,hx⟩:=r; exact hQ _ _ _ _ _ _ _ hk e' I' E' ⟨x,rfl,hx⟩ sm
     | brk=>cases r; exact hQ _ _ _ _ _ _ _ hk e' I' E' rfl sm
     | cont=>cases r; exact hQ _ _ _ _ _ _ _ hk e' I' E' rfl sm
    ·have hQ1:=hQ.on e1 sm1
     have hE1:=hE.on e1 sm1
     refine optE hk λ C hC hk=>optE hk λ D hD hk=>?_
     obtain ⟨hl,hc⟩:=excC_eq hC
     obtain ⟨d,xf,hx⟩:=excD_eq hD
     cases hs : cx.sub D C with
     | none=>rw [hs] at hk; exact hk.elim
     | some b=>
      replace hk:=hs ▸ hk
      refine gB.ok hk λ hb hk=>?_
      simp only [Bool.and_eq_true,Bool.and_eq_true] at hb
      simp only [hb.1] at hs
      refine ok_caught B CX Z E1 I1 ha F hl hc hx hs hb.2.1 hb.2.2 λ s' I' T' sm'=>?_
      cases n with
      | none=>exact ok_suite B CX SS Z E1 I' ha T' hk (hQ1.on (Ext.refl _) sm') (hE1.on (Ext.refl _) sm')
      | some y=>exact gB.ok hk λ hy hk=>ok_suite_as B CX SS Z E1 I' ha T' (locN_eq hy) hk (hE1.on (Ext.refl _) sm')
end
section
variable {prog : Program} {w : World} {cx : Cx} {K : Frag} {mg mb : Str -> Option Value} {g₀ : Heap}
variable {fc : Fc} {φ : Nm} {H : Hp} {A : Around} {env : Env} {g : Heap} {L : Addr} {m : Str -> Option Value} {R R₀ : List Addr} {s : Shared} {ih : Ev Prop} {X : Nat -> Nm -> Hp -> Prop}
theorem swaps_no {x : Expr} {t : Option Expr} {l : Nat} (h : compE x = false) : swapsWith x t l env = pure false:=by
 cases x <;> first | rfl | cases h
theorem fold_no {x : Expr} (h : setE x = false) : ∀ v,foldedSetIterable x env v = pure v:=by
 intro v
 cases x <;> first | rfl | cases h
theorem swapped_no {t x : Expr} (h : swapE t x = false) : swappedStores [t] x env = pure none:=by
 cases t <;> first | rfl | (cases x <;> first | rfl | cases h)
theorem each_one {t : Expr} (h : starE t = false) : (assignEach [t] env).map (·.2) = [assign t env]:=by rw [each_star h]; rfl
theorem comp_list {t x : Expr} (hc : compE x = true) (hsw : swapE t x = false) : ∃ el gs sc p,x = .ListComp el gs sc p:=by
 cases x with
 | ListComp el gs sc p=>exact ⟨_,_,_,_,rfl⟩
 | SetComp _ _ _ _=>exact nft (show false = true from hsw.symm)
 | DictComp _ _ _ _ _=>exact nft (show false = true from hsw.symm)
 | _=>exact nft hc
theorem swaps_b {t el : Expr} {gs : List Comprehension} {sc : Scope} {p : Pos} {l : Nat} : ∃ b,swapsWith (.ListComp el gs sc p) (some t) l env = pure b:=by
 cases t <;> exact ⟨_,rfl⟩
theorem ok_assign_stmt (B : Base K mg mb g₀) (CX : CxOk cx prog w K g₀ mg mb) (S : Snd prog w g₀ ih) (Z : ArndS g₀ A fc env g L) {t x : Expr} {pos : Pos} {k : Fl -> Nm -> Hp -> Prop} (hsw : swapE t x = false) (hs : starE t = false)
  (hno : swapsWith x (some t) pos.line env = pure false)
  (h : ih.e fc φ x H (λ v H1=>assignE False cx ih fc φ t v H1 (λ φ' H2=>k .next φ' H2) λ n H=>X n φ H) λ n H=>X n φ H)
  (E : EnvOk A fc env φ L m R) (I : Inv prog w g₀ g L m R H s.heap) : OkN prog w g₀ A fc env g L flρ (exec (.Assign [t] x pos) env) R s k X:=by
 refine OkN.standAt ?_
 have e1 : swapsWithSole [t] x pos.line env = pure false:=hno
 simp only [e1]
 refine (S.e h Z.a E I).bindN E λ v H1 R1 xv s1 h1 e1 I1 E1 rv sm1=>?_
 rw [swapped_no hsw]
 rw [each_one hs]
 show OkN prog w g₀ A fc env g L flρ (do assign t env xv; Pure.pure .next) R1 s1 k X
 refine OkN.bind (ρ:=unitρ) (k:=λ _ φ' H'=>k .next φ' H') (ok_assign B CX S Z.a h1 rv E1 I1) λ _ φ' H' R' m' _ s' hk e' I' E' _ _=>?_
 exact OkN.pure I' E' hk rfl
theorem snd_s (B : Base K mg mb g₀) (CX : CxOk cx prog w K g₀ mg mb) (S : Snd prog w g₀ ih) (SS : SndS prog w g₀ ih)
  (hSwap : ∀ {t el gs sc cpos pos k},swapsWith (.ListComp el gs sc cpos) (some t) pos.line env = pure true -> ih.e fc φ (.ListComp el gs sc cpos) H (λ v H1=>assignE False cx ih fc φ t v H1 (λ φ' H2=>k .next φ' H2) λ n H=>X n φ H) (λ n H=>X n φ H) ->
   OkN prog w g₀ A fc env g L flρ (exec (.Assign [t] (.ListComp el gs sc cpos) pos) env) R s k X)
  {st : Stmt} {k : Fl -> Nm -> Hp -> Prop} (h : sStep False cx ih fc φ st H k X) (Z : ArndS g₀ A fc env g L) (E : EnvOk A fc env φ L m R) (I : Inv prog w g₀ g L m R H s.heap) :
  OkN prog w g₀ A fc env g L flρ (exec st env) R s k X:=by
 cases st with
 | Raise x c pos=>exact ok_raise B CX S Z h E I
 | Try b hs o f pos=>exact ok_try B CX SS Z h E I
 | Pass pos=>exact λ Qc Ec hQ _=>wpAny_Pass (hQ _ _ _ _ _ _ _ h (Ext.refl R) I E rfl (Same.refl s))
 | Break pos=>exact λ Qc Ec hQ _=>wpAny_Break (hQ _ _ _ _ _ _ _ h (Ext.refl R) I E rfl (Same.refl s))
 | Continue pos=>exact λ Qc Ec hQ _=>wpAny_Continue (hQ _ _ _ _ _ _ _ h (Ext.refl R) I E rfl (Same.refl s))
 | Expr x pos=>
  refine gB.ok (show gB False _ _ from h) λ hc h Qc Ec hQ hE=>?_
  exact wpAny_Expr_any (S.e h Z.a E I _ _ (λ v H1 R1 xv s1 h1 e1 I1 rv sm1=>hQ _ _ _ _ _ _ _ h1 e1 I1 (E.ext e1) rfl sm1) (hE.of E)) (by dsimp only [interactive]; refine E.fn ▸ ?_; rfl) (swaps_no (Bool.not_eq_true' _ ▸ hc))
 | Return o pos=>
  cases o with
  | none=>exact λ Qc Ec hQ _=>wpAny_Return_none (hQ _ _ _ _ _ _ _ h (Ext.refl R) I E ⟨_,rfl,.none⟩ (Same.refl s))
  | some x=>
   intro Qc Ec hQ hE
   exact wpAny_Return_some (S.e (show ih.e fc φ x H _ _ from h) Z.a E I _ _ (λ v H1 R1 xv s1 h1 e1 I1 rv sm1=>hQ (.ret v) _ _ _ _ _ _ h1 e1 I1 (E.ext e1) ⟨_,rfl,rv⟩ sm1) (hE.of E))
 | Assign ts x pos=>
  cases ts with
  | nil=>exact (show False from h).elim
  | cons t r=>cases r with
   | cons _ _=>exact (show False from h).elim
   | nil=>
    refine gB.ok (show gB False _ _ from h) λ hb h=>?_
    simp only [Bool.and_eq_true,Bool.not_eq_true',Bool.not_eq_true'] at hb
    cases hc : compE x with
    | false=>exact ok_assign_stmt B CX S Z hb.1 hb.2 (swaps_no hc) h E I
    | true=>
     obtain ⟨el,gs,sc,cpos,rfl⟩:=comp_list hc hb.1
     obtain ⟨b,hs⟩:=swaps_b (t:=t) (el:=el) (gs:=gs) (sc:=sc) (p:=cpos) (l:=pos.line) (env:=env)
     cases b with
     | false=>exact ok_assign_stmt B CX S Z hb.1 hb.2 hs h E I
     | true=>exact hSwap hs h
 | If t b o pos=>
  intro Qc Ec hQ hE
  refine wpAny_If (S.t (show ih.t fc φ t H _ _ from h) Z.a E I _ _ (λ q H1 R1 a s1 h1 e1 I1 ra sm1=>?_) (hE.of E))
  cases ra
  cases q with
  | true=>exact ok_execs (SS.ss Z) h1 (E.ext e1) I1 Qc Ec (hQ.on e1 sm1) (hE.on e1 sm1)
  | false=>exact ok_execs (SS.ss Z) h1 (E.ext e1) I1 Qc Ec (hQ.on e1 sm1) (hE.on e1 sm1)
 | While t b o pos=>
  delta sStep at h
  dsimp only at h
  split at h
  ·intro Qc Ec hQ hE
   exact wpAny_While (SS.wl h (fc:=fc) ⟨⟨Z.a.dep,Z.a.uni,Z.a.fr⟩,Z.own⟩ E I Qc Ec hQ hE)
  ·exact h.elim
 | For t it b o pos=>
  delta sStep at h
  dsimp only at h
  cases hh : fc.h with
  | some _=>rw [hh] at h; exact h.elim
  | none=>
   simp only [hh] at h
   cases o with
   | cons _ _=>exact h.elim
   | nil=>
    dsimp only at h
    refine gB.ok h λ hset h Qc Ec hQ hE=>wpAny_For (S.e h Z.a E I _ _ (λ v H1 R1 xv s1 h1 e1 I1 rv sm1=>?_) (hE.of E)) (fold_no (Bool.not_eq_true' _ ▸ hset))
    obtain ⟨i,hi,h1⟩:=optK_some h1
    refine ok_iter (k:=λ n H'=>n = H1.length ∧ H' = H1 ++ [i]) (X:=λ _ _=>False) hi rv I1 ⟨rfl,rfl⟩ _ _ (λ n H2 R2 a s2 hn e2 I2 ra sm2=>?_) λ _ _ _ _ _ q=>q.elim
    refine yG λ G_ k_=>?_
    obtain ⟨rfl,rfl⟩:=hn
    obtain ⟨a,rfl,hR⟩:=ra
    refine k_ ?_
    have e12:=e1.trans e2
    have sm12:=sm1.trans sm2
    exact SS.fl h1 hh ⟨⟨Z.a.dep,Z.a.uni,Z.a.fr⟩,Z.own⟩ (E.ext e12) I2 hR Qc Ec (hQ.on e12 sm12) (hE.on e12 sm12)
 | _=>exact (show False from h).elim
end
structure SndL (prog : Program) (w : World) (g₀ : Heap) (ih : Ev Prop) : Prop where
 l : ∀ {fc φ x ifs elt n acc H k A env g L m R s a D},ih.l fc φ x ifs elt n acc H k -> fc.h = none -> Arnd g₀ A fc g L -> EnvOk A fc env φ L m R -> Inv prog w g₀ g L m R H s.heap -> R[n]? = some a -> R[acc]? = some D ->
  ∀ P : Result -> Shared -> Prop,(∀ (H' : Hp) (R' : List Addr) (m' : Str -> Option Value) (s' : Shared),k H' -> Ext R R' -> Inv prog w g₀ g L m' R' H' s'.heap -> Same s s' -> P (.ok .next) s') ->
  ∀ (iter : Expr) (scope : Scope) (pos px : Pos),codeAny (model prog w) A (.compLoop (.ListComp elt [⟨.Name x px,iter,ifs,0⟩] scope pos) 0 (.ref a) (.ref D) env) P s
theorem append_any {prog : Program} {w : World} {A : Around} {E : Value -> Shared -> Prop} {s : Shared} {D : Addr} {o : Obj} {xs : List Value} {n : Nat} {x : Value} {Q : Value -> Shared -> Prop} (ho : s.heap.get? D = some o)
  (hc : o.cls = .type "list") (hdn : o.dict = none) (hsl : o.slots = #[]) (hd : o.data = .seq (List.toArray xs) n) (hsz : xs.length ≤ 1000000)
  (h : ∀ h' n',h'.get? D = some { cls:=.type "list",data:=.seq (List.toArray (xs ++ [x])) n' } -> Heap.SameBut D s.heap h' -> Q .none { s with heap:=h' }) :
  wpAny (model prog w) A (call (.builtin "list.append") [.ref D,x]) Q E s:=by
 refine yG λ G_ k_=>?_
 obtain ⟨oc,odi,oda,osl⟩:=o
 dsimp only at hc hdn hsl hd
 subst hc hdn hsl hd
 refine k_ ?_
 refine append_at (hsz:=by simp only [List.size_toArray,sizeLine_eq]; lia) ho λ h' hs ho'=>h h' (n + 1) (by simp only [ho']; simp) hs
section
variable {prog : Program} {w : World} {cx : Cx} {K : Frag} {mg mb : Str -> Option Value} {g₀ : Heap}
variable {fc : Fc} {φ : Nm} {H : Hp} {A : Around} {env : Env} {g : Heap} {L : Addr} {m : Str -> Option Value} {R R₀ : List Addr} {s : Shared} {ih : Ev Prop}
abbrev testsOf (env : Env) (ifs : List Expr) (b : Bool) : Sem Bool:=forIn ifs b λ c r=>if r = true then do let ok <- isTrue c env (eval c env); pure (ForInStep.yield ok) else pure (ForInStep.yield r)
theorem tests_false : ∀ ifs : List Expr,testsOf env ifs false = pure false:=by
 intro l_
 induction l_ with
 | nil=>
  exact rfl
 | cons c r ih_=>
  unfold testsOf
  rw [List.forIn_cons]
  exact ih_
theorem ok_tests {X : Nat -> Hp -> Prop} {t : Expr -> Hp -> (Bool -> Hp -> Prop) -> Prop} (S : ST prog w g₀ A env g L m R₀ X t) : ∀ {ifs : List Expr} {H : Hp} {k : Bool -> Hp -> Prop} {R : List Addr} {s : Shared},boolT t .And ifs H k -> Ext R₀ R -> Inv prog w g₀ g L m R H s.heap ->
  Ok prog w g₀ A g L m boolρ (testsOf env ifs true) R s k X:=by
 intro l_
 induction l_ with
 | nil=>
  intro H k R s h _ I
  exact Ok.pure I h rfl
 | cons x r ih_=>
  intro H k R s h eR I
  dsimp only [boolT] at h
  unfold testsOf
  rw [List.forIn_cons]
  rw [if_pos (show true = true from rfl),bind_assoc]
  refine (S x H _ R s h eR I).bind λ b H1 R1 a s1 hv e1 I1 ra sm=>?_
  show Ok prog w g₀ A g L m boolρ (testsOf env r a) R1 s1 k X
  cases ra
  cases b with
  | true=>exact ih_ hv (eR.trans e1) I1
  | false=>rw [tests_false]; exact Ok.pure I1 hv rfl
theorem compTurn_ok (B : Base K mg mb g₀) (CX : CxOk cx prog w K g₀ mg mb) (S : Snd prog w g₀ ih) (SL : SndL prog w g₀ ih) {x : Str} {ifs : List Expr} {elt : Expr} {n acc : Nat} {a D : Addr} {k : Hp -> Prop} (h : lStep False ih fc φ x ifs elt n acc H k) (hh : fc.h = none) (Z : Arnd g₀ A fc g L)
  (E : EnvOk A fc env φ L m R) (I : Inv prog w g₀ g L m R H s.heap) (ha : R[n]? = some a) (hD : R[acc]? = some D) :
  ∀ P : Result -> Shared -> Prop,(∀ (H' : Hp) (R' : List Addr) (m' : Str -> Option Value) (s' : Shared),k H' -> Ext R R' -> Inv prog w g₀ g L m' R' H' s'.heap -> Same s s' -> P (.ok .next) s') ->
  ∀ (iter : Expr) (scope : Scope) (pos px : Pos),codeAny (model prog w) A (.compLoop (.ListComp elt [⟨.Name x px,iter,ifs,0⟩] scope pos) 0 (.ref a) (.ref D) env) P s:=by
 intro P hP iter scope pos px
 refine yG λ G_ k_=>?_
 obtain ⟨it,hk,h⟩:=optK_some h
 obtain ⟨r,hr,h⟩:=optK_some h
 refine k_ ?_
 refine codeAny_of_tree ?_
 show wpAny _ A ((compTurn (.ListComp elt [⟨.Name x px,iter,ifs,0⟩] scope pos) 0 (.ref a) (.ref D) env).onRaise (λ x=>do noteFrame x env; theTreesLotGoes x)) _ _ s
 refine wpAny_noted ?_
 rw [compTurn_list]
 refine wpAny_bind (wpAny_standAt (wpAny_bind (ok_next (by have:=E.hdl; rw [hh] at this; exact this) I hk ha hr ?_)))
 cases r with
 | none=>
  intro s' I' sm
  exact wpAny_pure (hP _ R m s' h (Ext.refl R) I' sm)
 | some q=>
  intro hq v s' I' rv sm
  obtain ⟨vv,it'⟩:=q
  refine wpAny_bind (wpAny_of_eq (a:=()) rfl ?_)
  refine yG λ G_ k_=>?_
  obtain ⟨p,hp,h⟩:=optK_some h
  refine k_ ?_
  refine wpAny_bind (ok_name_store (k:=λ φ' H'=>φ' = p.1 ∧ H' = p.2) (X:=λ _ _ _=>False) E I' hp ⟨rfl,rfl⟩ rv _ _ (λ _ φ1 H1 R1 m1 _ s1 h1 e1 I1 E1 _ sm1=>?_) λ _ _ _ _ _ _ _ q=>q.elim)
  obtain ⟨rfl,rfl⟩:=h1
  have sm1:=sm.trans sm1
  refine wpAny_bind (ok_tests (S.st Z E1 (X:=λ _ _=>False)) h (Ext.refl R1) I1 _ _ (λ b H2 R2 b' s2 h2 e2 I2 rb sm2=>?_) λ _ _ _ _ _ q=>q.elim)
  cases rb
  have e12:=e1.trans e2
  have sm12:=sm1.trans sm2
  have E2:=E1.ext e2
  have again : ∀ H3 R3 s3,ih.l fc p.1 x ifs elt n acc H3 k -> Ext R2 R3 -> Inv prog w g₀ g L m1 R3 H3 s3.heap -> Same s2 s3 -> codeAny (model prog w) A (.compLoop (.ListComp elt [⟨.Name x px,iter,ifs,0⟩] scope pos) 0 (.ref a) (.ref D) env) P s3:=λ H3 R3 s3 h3 e3 I3 sm3=>
   SL.l h3 hh Z (E2.ext e3) I3 ((e12.trans e3).get ha) ((e12.trans e3).get hD) P (λ H' R' m' s' x e' I' sm'=>hP H' R' m' s' x ((e12.trans e3).trans e') I' ((sm12.trans sm3).trans sm')) iter scope pos px
  cases b with
  | false=>exact wpAny_pure ⟨rfl,again H2 R2 s2 h2 (Ext.refl R2) I2 (Same.refl s2)⟩
  | true=>
   refine wpAny_bind (wpAny_bind (S.e h2 Z E2 I2 _ _ (λ u H3 R3 y s3 h3 e3 I3 ry sm3=>?_) λ _ _ _ _ _ q=>q.elim))
   dsimp only at h3
   refine yG λ G_ k_=>?_
   split at h3
   refine k_ ?_
   ·rename_i vs hH
    refine yG λ G_ k_=>?_
    split at h3
    refine k_ ?_
    ·rename_i hb
     have hb:=Nat.le_of_ble_eq_true hb
     have hD3:=(e12.trans e3).get hD
     refine yG λ G_ k_=>?_
     obtain ⟨o,ho,xs,nn,hc,hdn,hsl,hd,hv⟩:=I3.at hH rfl hD3
     refine k_ ?_
     have hl:=hv.length
     refine wpAny_bind (append_any ho hc hdn hsl hd (by lia) λ h' n' ho' hs'=>?_)
     refine wpAny_pure (wpAny_pure ⟨rfl,again _ R3 _ h3 e3 (I3.turn hH rfl hD3 (λ c z hc hz=>(hs'.2 c hc).trans hz) λ _=>⟨_,ho',xs ++ [y],n',rfl,rfl,rfl,rfl,hv.append (.cons ry .nil)⟩) (sm3.trans Same.mk')⟩)
    ·exact h3.elim
   ·exact h3.elim
theorem ok_self (hh : A.handled = none) {k : Nat} {a : Addr} {it : MO} {Q : Value -> Shared -> Prop} {E : Value -> Shared -> Prop} (I : Inv prog w g₀ g L m R H s.heap) (hk : H[k]? = some it) (ha : R[k]? = some a) (hit : isIt it = true) (h : Q (.ref a) s) :
  wpAny (model prog w) A (pyIter (.ref a)) Q E s:=by
 cases it with
 | litr l i=>obtain ⟨o,ho,b,hb,hc,hd⟩:=I.at hk rfl ha; exact wpAny_pyIter_listiter ⟨o,ho,hc,hd⟩ h
 | titr l i=>obtain ⟨o,ho,b,hb,hc,hd⟩:=I.at hk rfl ha; exact wpAny_pyIter_tupleiter ⟨o,ho,hc,hd⟩ h
 | ritr x y z=>obtain ⟨o,ho,hor⟩:=I.at hk rfl ha; subst hor; exact wpAny_pyIter_rangeiter ho h
 | bitr l i=>obtain ⟨o,ho,b,t,hl,hc,hd⟩:=I.at hk rfl ha; exact KBw.pyIter_self ⟨o,ho,hc,hd⟩ h
 | sitr l i=>
  obtain ⟨o,ho,t,hc | hc,hd⟩:=I.at hk rfl ha
  ·exact wpAny_pyIter_striter_ascii ⟨o,ho,hc,hd⟩ h
  ·exact wpAny_pyIter_striter_wide ⟨o,ho,hc,hd⟩ h
 | _=>exact nft hit
theorem iter_isIt {v : V} {it : MO} (h : iterM v H = some it) : isIt it = true:=by
 have h2 : optK False (iterM v H) λ x=>x = it:=optK_of h rfl
 cases v with
 | ref n=>
  refine yAt.ok h2 (λ o _ h=>?_) False.elim
  cases o with
  | list _=>exact (show MO.litr n 0 = it from h) ▸ rfl
  | tup _=>exact (show MO.titr n 0 = it from h) ▸ rfl
  | rng _ _ _=>exact yB.ok h λ _ h=>(show _ = it from h) ▸ rfl
  | _=>exact h.elim
 | bytes l=>exact (show MO.bitr l 0 = it from h2) ▸ rfl
 | str l=>exact (show MO.sitr l 0 = it from h2) ▸ rfl
 | _=>exact h2.elim
end
section
variable {prog : Program} {w : World} {cx : Cx} {K : Frag} {mg mb : Str -> Option Value} {g₀ : Heap}
variable {fc : Fc} {φ : Nm} {H : Hp} {A : Around} {env : Env} {g : Heap} {L : Addr} {m : Str -> Option Value} {R R₀ : List Addr} {s : Shared} {ih : Ev Prop}
theorem fun_frames {g' : Heap} : ∀ {fs : List Env},(∀ e ∈ fs,e.scope.kind ≠ .module ∧ ∃ L',e.frame = some L' ∧ g₀.get? L' = none ∧ ∃ o,g'.get? L' = some o ∧ ∀ vs,o.data ≠ .fields vs) -> g'.FunFrames g₀ fs:=by
 intro l_
 induction l_ with
 | nil=>
  intro _
  exact trivial
 | cons e fs ih_=>
  intro h
  obtain ⟨h1,L',h2,h3,o,h4,h5⟩:=h e (.head _)
  exact ⟨h1,⟨L',o,h2,h3,h4,h5⟩,ih_ λ e he=>h e (.tail _ he)⟩
theorem FrOk.enter {h : Heap} {fs : List Env} (I : Inv prog w g₀ g L m R H h) (F : FrOk g₀ g L fs) : ∀ e ∈ fs,e.scope.kind ≠ .module ∧ ∃ L',e.frame = some L' ∧ g₀.get? L' = none ∧ ∃ o,(hideAll h (acts H R)).get? L' = some o ∧ ∀ vs,o.data ≠ .fields vs:=by
 intro e he
 refine yG λ G_ k_=>?_
 obtain ⟨h1,L',h2,h3,h4⟩:=F e he
 refine k_ ?_
 refine ⟨h1,L',h2,h3,?_⟩
 rcases h4 with rfl | ⟨o,ho,hn⟩
 ·refine yG λ G_ k_=>?_
  obtain ⟨oL,es,ep,hL,hLd,_⟩:=I.ns
  refine k_ ?_
  exact ⟨oL,hideAll_get _ hL (λ hm=>let ⟨i,x⟩:=mem_acts.mp hm; (I.out i _ x).1 rfl),λ vs q=>by replace q:=hLd ▸ q; cases q⟩
 ·obtain ⟨sl,hs⟩:=I.K L' o ho
  exact ⟨_,hideAll_get _ hs (λ hm=>by obtain ⟨i,x⟩:=mem_acts.mp hm; replace ho:=((I.out i _ x).2.1) ▸ ho; cases ho),hn⟩
theorem Inv.but {h h' : Heap} {C : Addr} (I : Inv prog w g₀ g L m R H h) (h1 : g₀.get? C = none) (h2 : g.get? C = none) (h3 : C ≠ L) (h4 : ∀ i,¬ Act H R i C) (hs : Heap.SameBut C h h') : Inv prog w g₀ g L m R H h' where
 S:=λ b o e=>(hs.2 b λ q=>by replace e:=q ▸ e; replace e:=h1 ▸ e; cases e).trans (I.S b o e)
 ns:=let ⟨o,es,ep,e,r⟩:=I.ns; ⟨o,es,ep,(hs.2 L (Ne.symm h3)).trans e,r⟩
 K:=λ b o e=>by
  obtain ⟨sl,q⟩:=I.K b o e
  exact ⟨sl,(hs.2 b λ z=>by replace e:=z ▸ e; replace e:=h2 ▸ e; cases e).trans q⟩
 lo:=I.lo
 len:=I.len
 nd:=I.nd
 ob:=λ i o a e hg r=>by
  obtain ⟨b,hb,ho⟩:=I.ob i o a e hg r
  exact ⟨b,(hs.2 a λ z=>h4 i (z ▸ ⟨o,e,hg,r⟩)).trans hb,ho⟩
 out:=I.out
theorem relabel_kind {x : Str} {k : NameKind} : ∀ {names : List (Str × NameKind)},look x names = some k ->
  (names.map λ (n,k)=>if (k == NameKind.free && env.scope.kind == .function && env.kindOf n == some .cell) then (n,NameKind.cell) else (n,k)).lookup x = some k ∨
  (k = .free ∧ (names.map λ (n,k)=>if (k == NameKind.free && env.scope.kind == .function && env.kindOf n == some .cell) then (n,NameKind.cell) else (n,k)).lookup x = some .cell):=by
 intro l_
 induction l_ with
 | nil=>
  intro h
  exact nsm h
 | cons z1_ r ih_=>
  intro h
  cases z1_ with
  | mk n q=>
   dsimp only [look] at h
   show List.lookup x ((if (q == NameKind.free && env.scope.kind == .function && env.kindOf n == some .cell) = true then (n,NameKind.cell) else (n,q)) :: _) = _ ∨ _ ∧ List.lookup x ((if (q == NameKind.free && env.scope.kind == .function && env.kindOf n == some .cell) = true then (n,NameKind.cell) else (n,q)) :: _) = _
   rw [seq_eq] at h
   by_cases hc : (q == NameKind.free && env.scope.kind == .function && env.kindOf n == some .cell) = true
   ·rw [if_pos hc]
    simp only [List.lookup_cons]
    cases hx : x == n with
    | true=>
     replace h:=hx ▸ h
     refine yG λ G_ k_=>?_
     cases h
     refine k_ ?_
     right
     simp only [Bool.and_eq_true,beq_iff_eq] at hc
     exact ⟨hc.1.1,rfl⟩
    | false=>
     rw [hx] at h
     exact ih_ h
   ·rw [if_neg hc]
    simp only [List.lookup_cons]
    cases hx : x == n with
    | true=>replace h:=hx ▸ h; left; exact h
    | false=>rw [hx] at h; exact ih_ h
theorem closure_of {names : List (Str × NameKind)} : ∀ (cs : List (Str × Addr)),(∀ y ∈ names,y.2 = .free -> ∃ c,env.cells.lookup y.1 = some c) -> (∀ x c,cs.lookup x = some c -> env.cells.lookup x = some c) ->
  ∃ cl,(forIn names cs λ x r=>(if x.2 == NameKind.free then do let c <- cellOf env x.1; pure (ForInStep.yield ((x.1,c) :: r)) else pure (ForInStep.yield r) : Sem (ForInStep (List (Str × Addr))))) = pure cl ∧
   (∀ x c,cl.lookup x = some c -> env.cells.lookup x = some c) ∧ (∀ x,(cs.lookup x).isSome = true -> (cl.lookup x).isSome = true) ∧ ∀ y ∈ names,y.2 = .free -> (cl.lookup y.1).isSome = true:=by
 induction names with
 | nil=>intro cs _ h; exact ⟨cs,rfl,h,λ _ q=>q,λ _ q=>(nomatch q)⟩
 | cons p r ih=>
  intro cs hf hc
  obtain ⟨n,k⟩:=p
  simp only [List.forIn_cons]
  cases hk : (k == NameKind.free) with
  | false=>
   refine yG λ G_ k_=>?_
   obtain ⟨cl,e1,e2,e3,e4⟩:=ih cs (λ y hy=>hf y (.tail _ hy)) hc
   refine k_ ?_
   refine ⟨cl,e1,e2,e3,λ y hy hyf=>?_⟩
   cases hy with
   | head=>replace hk:=(show k = NameKind.free from hyf) ▸ hk; cases hk
   | tail _ hy=>exact e4 y hy hyf
  | true=>
   have hkf : k = .free:=by simpa using hk
   obtain ⟨c,hcl⟩:=hf (n,k) (.head _) hkf
   have hco : cellOf env n = pure c:=by unfold cellOf; exact (show env.cells.lookup n = some c from hcl) ▸ rfl
   simp only [hk,if_true,hco,pure_bind]
   refine yG λ G_ k_=>?_
   obtain ⟨cl,e1,e2,e3,e4⟩:=ih ((n,c) :: cs) (λ y hy=>hf y (.tail _ hy)) (λ x c' hx=>by
    simp only [List.lookup_cons] at hx
    cases q : x == n with
    | true=>rw [q] at hx; obtain rfl:=Option.some.inj hx; refine (beq_iff_eq.mp q) ▸ ?_; exact hcl
    | false=>rw [q] at hx; exact hc x c' hx)
   refine k_ ?_
   refine ⟨cl,e1,e2,λ x hx=>e3 x (by simp only [List.lookup_cons]; cases q : x == n <;> first | rfl | exact hx),λ y hy hyf=>?_⟩
   cases hy with
   | head=>exact e3 n (by simp only [List.lookup_cons,beq_self_eq_true]; rfl)
   | tail _ hy=>exact e4 y hy hyf
set_option tactic.hygienic true in
theorem free_spec : ∀ {names : List (Str × NameKind)} {φ φc : Nm},freeM names φ = some φc -> (∀ x b,look x φc = some b -> (∃ n,b = .cel n ∧ look x φ = some (.cel n)) ∧ (x,NameKind.free) ∈ names) ∧ ∀ y ∈ names,y.2 = .free -> ∃ n,look y.1 φ = some (.cel n):=by
 intro l_
 induction l_ with
 | nil=>
  intro φ φc h
  obtain rfl:=Option.some.inj h; exact ⟨λ x b q=>(nomatch q),λ y q=>(nomatch q)⟩
 | cons z1_ r ih_=>
  intro φ φc h
  cases z1_ with
  | mk n k=>
   have other : k ≠ .free -> freeM r φ = some φc -> _:=λ hk h=>(by
    obtain ⟨e1,e2⟩:=ih_ h
    exact ⟨λ x b q=>⟨(e1 x b q).1,.tail _ (e1 x b q).2⟩,λ y hy hyf=>by
     cases hy with
     | head=>exact absurd hyf hk
     | tail _ hy=>exact e2 y hy hyf⟩ : (∀ x b,look x φc = some b -> (∃ n,b = .cel n ∧ look x φ = some (.cel n)) ∧ (x,NameKind.free) ∈ (n,k) :: r) ∧ ∀ y ∈ (n,k) :: r,y.2 = .free -> ∃ n,look y.1 φ = some (.cel n))
   cases k with
   | free=>
    unfold freeM at h
    dsimp only at h
    split at h
    ·rename_i c hc
     obtain ⟨φ',h1,rfl⟩:=Option.map_eq_some_iff.mp h
     obtain ⟨e1,e2⟩:=ih_ h1
     refine ⟨λ x b q=>?_,λ y hy hyf=>?_⟩
     ·unfold look at q
      cases z : seq x n with
      | true=>
       replace q:=z ▸ q
       cases q
       rw [seq_iff.mp z]
       exact ⟨⟨c,rfl,hc⟩,.head _⟩
      | false=>
       replace q:=z ▸ q
       exact ⟨(e1 x b q).1,.tail _ (e1 x b q).2⟩
     ·cases hy with
      | head=>exact ⟨c,hc⟩
      | tail _ hy=>exact e2 y hy hyf
    ·exact nsm h
   | «local»=>exact other (by simp) h
   | cell=>exact other (by simp) h
   | globalImplicit=>exact other (by simp) h
   | globalExplicit=>exact other (by simp) h
set_option tactic.hygienic true in
theorem compOk_spec {sc : Scope} (h : compOk sc = true) : sc.kind = .function ∧ (∀ y ∈ sc.names,y.2 ≠ .cell) ∧ ∀ y ∈ sc.names,y.2 = .local -> sc.names.lookup y.1 = some .local:=by
 unfold compOk at h
 rw [Bool.and_eq_true,List.all_eq_true] at h
 obtain ⟨h1,h2⟩:=h
 refine ⟨?_,λ y hy q=>?_,λ y hy q=>?_⟩
 ·split at h1
  ·assumption
  ·exact nft h1
 ·have:=h2 y hy
  rw [q] at this
  exact nft this
 ·have:=h2 y hy
  rw [q] at this
  rw [<- look_eq]
  split at this
  ·rename_i k hk
   refine hk.trans ?_
   cases k <;> first | rfl | exact nft this
  ·exact nft this
end
section
variable {prog : Program} {w : World} {cx : Cx} {K : Frag} {mg mb : Str -> Option Value} {g₀ : Heap}
variable {fc : Fc} {φ : Nm} {H : Hp} {A : Around} {env : Env} {g : Heap} {L : Addr} {m : Str -> Option Value} {R R₀ : List Addr} {s : Shared} {ih : Ev Prop}
theorem ok_comp (B : Base K mg mb g₀) (CX : CxOk cx prog w K g₀ mg mb) (S : Snd prog w g₀ ih) (SL : SndL prog w g₀ ih) {elt iter : Expr} {x : Str} {px pos p1 : Pos} {ifs : List Expr} {sc : Scope} {k : V -> Hp -> Prop} {X : Nat -> Hp -> Prop}
  (hh : fc.h = none) (hok : compOk sc = true) (hset : setE iter = false)
  (h : optK False (freeM sc.names φ) λ φc=>ih.e fc φ iter H (λ v H1=>optK False (iterM v H1) λ it=>
    ih.l ⟨sc,fc.d,none⟩ φc x ifs elt H1.length (H1.length + 1) (H1 ++ [it,.list []]) (λ H2=>k (.ref (H1.length + 1)) H2)) X)
  (Z : Arnd g₀ A fc g L) (E : EnvOk A fc env φ L m R) (I : Inv prog w g₀ g L m R H s.heap) {use : Option (Value -> Sem Unit)} {Q : Value -> Shared -> Prop} {Ec : Value -> Shared -> Prop}
  (hQ : ∀ n D C H' R' s',k (.ref n) H' -> Ext R R' -> Inv prog w g₀ g L m R' H' s'.heap -> R'[n]? = some D -> Same s s' -> (∃ mC,s'.heap.Ns C mC) -> C ≠ L -> g₀.get? C = none -> g.get? C = none -> (∀ i,¬ Act H' R' i C) ->
   compPost (model prog w) A Ec use Q (.ref D) C (.ok .next) s')
  (hE : EndX prog w g₀ g L m R s X Ec) :
  wpAny (model prog w) A (comprehension (.ListComp elt [⟨.Name x px,iter,ifs,0⟩] sc pos) sc env p1 (newList []) false (eval iter env) use) Q Ec s:=by
 refine yG λ G_ k_=>?_
 obtain ⟨hkind,hcell,hnames⟩:=compOk_spec hok
 have hfree : ∀ φc,freeM sc.names φ = some φc -> ∀ y ∈ sc.names,y.2 = .free -> ∃ c,env.cells.lookup y.1 = some c:=by
  intro φc hf y hy hyf
  refine yG λ G_ k_=>?_
  obtain ⟨n,hn⟩:=(free_spec hf).2 y hy hyf
  obtain ⟨c,hc,_⟩:=E.nm _ _ hn
  refine k_ ?_
  exact ⟨c,hc⟩
 obtain ⟨φc,hφc,h⟩:=optK_some h
 obtain ⟨cl,c1,c2,_,c4⟩:=closure_of (env:=env) [] (hfree φc hφc) (λ x c q=>by cases q)
 refine k_ ?_
 have hclos : closureFor sc env = pure cl:=by
  dsimp only [closureFor]
  rw [c1]; rfl
 refine wpAny_comprehension_free rfl (λ v=>fold_no hset v) hclos hkind hnames ?_
 refine S.e h Z E I _ _ (λ v H1 R1 xv s1 h1 e1 I1 rv sm1=>?_) hE
 obtain ⟨it,hit,h1⟩:=optK_some h1
 refine ok_iter (k:=λ n H'=>n = H1.length ∧ H' = H1 ++ [it]) (X:=λ _ _=>False) hit rv I1 ⟨rfl,rfl⟩ _ _ (λ n H2 R2 a s2 hn e2 I2 ra sm2=>?_) λ _ _ _ _ _ q=>q.elim
 refine yG λ G_ k_=>?_
 obtain ⟨rfl,rfl⟩:=hn
 obtain ⟨ai,rfl,hRi⟩:=ra
 refine k_ ?_
 refine wpAny_newList ?_ (by show (0 : Nat) ≤ _; exact Nat.zero_le _)
 have I3:=I2.push (o:=.list []) (b:={ cls:=.type "list",data:=.seq (List.toArray []) }) rfl ⟨[],0,rfl,rfl,rfl,rfl,.nil⟩
 have hlen2 : (H1 ++ [it]).length = H1.length + 1:=by simp
 have hRD : (R2 ++ [s2.heap.objs.size])[H1.length + 1]? = some s2.heap.objs.size:=by refine hlen2 ▸ ?_; exact get_len I2.len
 generalize hs3 : ({ s2 with heap:=s2.heap.push { cls:=.type "list",data:=.seq (List.toArray []) } } : Shared) = s3
 have hs3' : s3.heap = s2.heap.push { cls:=.type "list",data:=.seq (List.toArray []) }:=by exact hs3 ▸ rfl
 have sm3 : Same s s3:=by simp only [<- hs3]; exact sm1.trans (sm2.trans Same.mk')
 simp only [<- hs3'] at I3
 refine wpAny_newFunctionEnv hcell (λ y hy=>by cases hy) (λ h' hn' hs'=>?_) hkind
 have hCn : s3.heap.get? s3.heap.objs.size = none:=Heap.get?_none_of_le (Nat.le_refl _)
 have keep : ∀ b o,s3.heap.get? b = some o -> h'.get? b = some o:=λ b o e=>(hs'.2 b (Nat.ne_of_lt (Heap.lt_size e))).trans (Heap.get?_push_of_some _ e)
 refine yG λ G_ k_=>?_
 obtain ⟨oL,esL,epL,hoL,_⟩:=id I3.ns
 refine k_ ?_
 have J:=I3.enter (h':=h') hn' keep hCn (Nat.le_of_lt (Nat.lt_of_le_of_lt I3.lo.2.2 (Heap.lt_size hoL)))
 have e13 : Ext R (R2 ++ [s2.heap.objs.size]):=e1.trans (e2.trans (Ext.push _ _))
 have Zc : Arnd g₀ A ⟨sc,fc.d,none⟩ (hideAll s3.heap (acts (H1 ++ [it] ++ [.list []]) (R2 ++ [s2.heap.objs.size]))) s3.heap.objs.size:=by
  obtain ⟨fs,f1,f2⟩:=Z.fr
  refine ⟨Z.dep,Z.uni,fs,f1,λ e he=>?_⟩
  refine yG λ G_ k_=>?_
  obtain ⟨q1,L',q2,q3,q4⟩:=f2.enter I3 e he
  refine k_ ?_
  exact ⟨q1,L',q2,q3,.inr q4⟩
 have EcO : EnvOk A ⟨sc,fc.d,none⟩ { newEnv sc s3.heap.objs.size env.globals cl env.qual none .none (some env) builtinsNs with scope:=relabel sc env } φc s3.heap.objs.size (λ x=>([] : List (Str × Value)).reverse.lookup x) (R2 ++ [s2.heap.objs.size]):=by
  refine ⟨rfl,E.glo,E.blt,hkind,λ y k hy=>relabel_kind hy,λ y b hy=>?_,?_⟩
  ·refine yG λ G_ k_=>?_
   obtain ⟨⟨n,rfl,hn⟩,hm⟩:=(free_spec hφc).1 y b hy
   obtain ⟨c,hc1,hc2⟩:=E.nm _ _ hn
   refine k_ ?_
   have hsome:=c4 _ hm rfl
   cases hcl : cl.lookup y with
   | none=>rw [hcl] at hsome; exact nft hsome
   | some c'=>
    have:=c2 y c' hcl
    rw [hc1] at this
    refine yG λ G_ k_=>?_
    cases this
    refine k_ ?_
    exact ⟨c,hcl,e13.get hc2⟩
  ·have:=E.hdl; rw [hh] at this; exact this
 have loop : codeAny (model prog w) A (.compLoop (.ListComp elt [⟨.Name x px,iter,ifs,0⟩] sc pos) 0 (.ref ai) (.ref s2.heap.objs.size) { newEnv sc s3.heap.objs.size env.globals cl env.qual none .none (some env) builtinsNs with scope:=relabel sc env })
   (compPost (model prog w) A Ec use Q (.ref s2.heap.objs.size) s3.heap.objs.size) { s3 with heap:=h',toks:=s3.toks + ([] : List (Str × Value)).length }:=by
  have h1' : ih.l ⟨sc,fc.d,none⟩ φc x ifs elt H1.length (H1.length + 1) (H1 ++ [it] ++ [.list []]) (λ H2=>k (.ref (H1.length + 1)) H2):=by simp only [List.append_assoc]; exact h1
  refine SL.l h1' rfl Zc EcO (s:={ s3 with heap:=h',toks:=_ }) J ((Ext.push _ _).get hRi) hRD _ (λ H' R' m' s' hk e' J' sm'=>?_) iter sc pos px
  have IO:=I3.leave J'
  have hCL : s3.heap.objs.size ≠ L:=λ q=>by rw [<- q,hCn] at hoL; exact nsm hoL
  refine hQ _ _ _ H' R' s' hk (e13.trans e') IO (e'.get hRD) (sm3.trans (Same.trans Same.mk' sm')) ⟨m',J'.ns⟩ hCL J'.lo.1 ?_ λ i x=>(J'.out i _ x).1 rfl
  cases q : g.get? s3.heap.objs.size with
  | none=>rfl
  | some o=>obtain ⟨sl,z⟩:=I3.K _ o q; replace z:=hCn.symm.trans z; exact nsm z
 refine codeAny_compStart_list loop ?_
 have hHi : (H1 ++ [it] ++ [MO.list []])[H1.length]? = some it:=by rw [List.append_assoc,List.getElem?_append_right (Nat.le_refl _),Nat.sub_self]; rfl
 exact ok_self (s:={ s3 with heap:=h',toks:=_ }) (by have:=E.hdl; rw [hh] at this; exact this) J hHi ((Ext.push _ _).get hRi) (iter_isIt hit) loop
end
section
variable {prog : Program} {w : World} {cx : Cx} {K : Frag} {mg mb : Str -> Option Value} {g₀ : Heap}
variable {fc : Fc} {φ : Nm} {H : Hp} {A : Around} {env : Env} {g : Heap} {L : Addr} {m : Str -> Option Value} {R R₀ : List Addr} {s : Shared} {ih ih' : Ev Prop}
theorem gen1_eq {gs : List Comprehension} {q : Str × Expr × List Expr} (h : gen1 gs = some q) : ∃ px,gs = [⟨.Name q.1 px,q.2.1,q.2.2,0⟩]:=by
 have h : optK False (gen1 gs) λ x=>x = q:=optK_of h rfl
 apply yC.ok h; intro c r h; apply yE.ok h; intro h
 obtain ⟨t,it,ifs,as⟩:=c
 refine bindK h λ x hx h=>yB.ok h λ hb h=>?_
 obtain ⟨p,e⟩:=nameOf_eq hx
 refine ((show (x,it,ifs) = q from h)) ▸ ?_
 refine (show as = 0 from beq_iff_eq.mp hb) ▸ ?_
 refine (show t = _ from e) ▸ ?_
 exact ⟨p,rfl⟩
theorem comp_parts {el : Expr} {gs : List Comprehension} {sc : Scope} {pos : Pos} {k : V -> Hp -> Prop} {X : Nat -> Hp -> Prop} (h : eStep False cx ih fc φ (.ListComp el gs sc pos) H k X) : ∃ x px iter ifs,gs = [⟨.Name x px,iter,ifs,0⟩] ∧ fc.h = none ∧ compOk sc = true ∧ setE iter = false ∧
  (optK False (freeM sc.names φ) λ φc=>ih.e fc φ iter H (λ v H1=>optK False (iterM v H1) λ it=>
    ih.l ⟨sc,fc.d,none⟩ φc x ifs el H1.length (H1.length + 1) (H1 ++ [it,.list []]) (λ H2=>k (.ref (H1.length + 1)) H2)) X):=by
 obtain ⟨sc',d,hd⟩:=fc
 cases hd with
 | some _=>exact (show False from h).elim
 | none=>
  refine optE (show optK False (gen1 gs) _ from h) λ q hq h=>gB.ok h λ hb hk=>?_
  simp only [Bool.and_eq_true,Bool.not_eq_true'] at hb
  obtain ⟨px,rfl⟩:=gen1_eq hq
  exact ⟨q.1,px,q.2.1,q.2.2,rfl,rfl,hb.1,hb.2,hk⟩
theorem ok_listcomp (B : Base K mg mb g₀) (CX : CxOk cx prog w K g₀ mg mb) (S : Snd prog w g₀ ih) (SL : SndL prog w g₀ ih) {el : Expr} {gs : List Comprehension} {sc : Scope} {pos : Pos} {k : V -> Hp -> Prop} {X : Nat -> Hp -> Prop}
  (h : eStep False cx ih fc φ (.ListComp el gs sc pos) H k X) (Z : Arnd g₀ A fc g L) (E : EnvOk A fc env φ L m R) (I : Inv prog w g₀ g L m R H s.heap) : Ok prog w g₀ A g L m VR (eval (.ListComp el gs sc pos) env) R s k X:=by
 refine yG λ G_ k_=>?_
 obtain ⟨x,px,iter,ifs,rfl,hh,hok,hset,h⟩:=comp_parts h
 refine k_ ?_
 intro Qc Ec hQ hE
 refine ok_comp (use:=none) B CX S SL hh hok hset h Z E I (λ n D C H' R' s' hk e I' hD sm hn hCL h1 h2 h3=>?_) hE
 obtain ⟨mC,hn⟩:=hn
 exact ⟨mC,hn,λ h' hs=>hQ _ H' R' _ _ hk e (I'.but h1 h2 hCL h3 hs) (.ref hD) (sm.trans Same.mk')⟩
theorem pure_bool {a b : Bool} (h : (Pure.pure a : Sem Bool) = Pure.pure b) : a = b:=Sem.pure.inj h
set_option tactic.hygienic true in
theorem ok_swap (B : Base K mg mb g₀) (CX : CxOk cx prog w K g₀ mg mb) (S : Snd prog w g₀ ih) (SL : SndL prog w g₀ ih) {t el : Expr} {gs : List Comprehension} {sc : Scope} {cpos pos : Pos} {k : Fl -> Nm -> Hp -> Prop} {X : Nat -> Nm -> Hp -> Prop}
  (hsw : swapsWith (.ListComp el gs sc cpos) (some t) pos.line env = pure true)
  (h : eStep False cx ih fc φ (.ListComp el gs sc cpos) H (λ v H1=>assignE False cx ih' fc φ t v H1 (λ φ' H2=>k .next φ' H2) λ n H=>X n φ H) λ n H=>X n φ H)
  (Z : Arnd g₀ A fc g L) (E : EnvOk A fc env φ L m R) (I : Inv prog w g₀ g L m R H s.heap) : OkN prog w g₀ A fc env g L flρ (exec (.Assign [t] (.ListComp el gs sc cpos) pos) env) R s k X:=by
 obtain ⟨x,px,iter,ifs,rfl,hh,hok,hset,h⟩:=comp_parts h
 have ht : ∃ y py,t = .Name y py:=by
  cases t <;> first | exact ⟨_,_,rfl⟩ | exact absurd (pure_bool hsw) Bool.false_ne_true
 obtain ⟨y,py,rfl⟩:=ht
 have hb:=pure_bool (show (Pure.pure (env.blockKind == .function && env.kindOf y == some .local && py.line == cpos.line && !(sc.names.any λ (n,k)=>n == y && (k == .local || k == .cell))) : Sem Bool) = Pure.pure true from hsw)
 simp only [Bool.and_eq_true,beq_iff_eq] at hb
 have hky : env.kindOf y = some .local:=hb.1.1.2
 have hp : (env.scope.kind == .class || (env.scope.kind == .module && env.locals != env.globals)) = false:=by refine E.fn ▸ ?_; rfl
 intro Qc Ec hQ hE
 refine (exec_Assign_Name_used _ _ _ _ hsw) ▸ ?_
 refine wpAny_bind (wpAny_standAt (wpAny_bind ?_))
 refine wpAny_bind (wpAny_mono (ok_comp (k:=λ v H1=>assignE False cx ih' fc φ (.Name y py) v H1 (λ φ' H2=>k .next φ' H2) λ n H=>X n φ H) (use:=some (assign (.Name y py) env)) (Q:=λ _ s'=>Qc .next s') (Ec:=Ec) B CX S SL hh hok hset h Z E I (λ n D C H' R' s' hk e I' hD sm hn hCL h1 h2 h3=>?_) (hE.of E)) (λ _ s' q=>wpAny_pure (wpAny_pure q)) λ _ _ q=>q)
 refine yG λ G_ k_=>?_
 obtain ⟨q,hst,hk⟩:=optK_some (show optK False (storeM fc.sc y (.ref n) φ H') _ from hk)
 obtain ⟨mC,hn⟩:=hn
 have E':=E.ext e
 have hloc : look y fc.sc.names = some .local ∧ q = (setN y (.loc (.ref n)) φ,H'):=by
  unfold storeM at hst
  split at hst
  ·rename_i kd hl
   have hkd:=E'.kind y kd hl
   replace hkd:=hky ▸ hkd
   cases kd with
   | «local»=>cases hst; exact ⟨hl,rfl⟩
   | cell=>rcases hkd with z | ⟨z,_⟩ <;> cases z
   | _=>exact nsm hst
  ·exact nsm hst
 obtain ⟨hl,rfl⟩:=hloc
 refine k_ ?_
 refine wpAny_assign_Name (wpAny_storeName_local hky (E'.loc.symm ▸ I'.ns) (λ h₂ hn₂ hs₂=>?_) hp)
 rw [E'.loc] at hn₂ hs₂
 refine ⟨mC,hn.sameBut hs₂ hCL,λ h₃ hs₃=>?_⟩
 have I2:=I'.names hn₂ hs₂
 refine hQ .next _ H' R' _ .next _ hk e (I2.but h1 h2 hCL h3 hs₃) ⟨E'.loc,E'.glo,E'.blt,E'.fn,E'.kind,λ z b hz=>?_,E'.hdl⟩ rfl (sm.trans Same.mk')
 rw [look_setN] at hz
 by_cases ez : z = y
 ·replace hz:=(if_pos ez) ▸ hz
  cases hz
  exact ⟨.ref D,if_pos ez,.ref hD⟩
 ·replace hz:=(if_neg ez) ▸ hz
  have:=E'.nm z b hz
  cases b with
  | loc v'=>obtain ⟨val,h1,h2⟩:=this; exact ⟨val,(if_neg ez).trans h1,h2⟩
  | cel n=>exact this
end
structure SndC (prog : Program) (w : World) (g₀ : Heap) (ih : Ev Prop) : Prop where
 r : ∀ {fc a args H k X A g L m R s xs},ih.c fc.d fc.h (.top (.ref a)) args H k X -> Arnd g₀ A fc g L -> HdOk A fc.h R -> Inv prog w g₀ g L m R H s.heap -> VRs R args xs ->
  ∀ Qc Ec,EndV prog w g₀ g L m VR R s k Qc -> EndX prog w g₀ g L m R s X Ec -> codeAny (model prog w) A (.call (.ref a) ⟨xs,[]⟩) (λ r s'=>match r with | .ok (.ret v)=>Qc v s' | .ok _=>False | .error e=>Ec e s') s
 c : ∀ {fc f args H k X A g L m R s x xs},ih.c fc.d fc.h f args H k X -> Arnd g₀ A fc g L -> HdOk A fc.h R -> Inv prog w g₀ g L m R H s.heap -> VR R f x -> VRs R args xs -> Ok prog w g₀ A g L m VR (call x xs) R s k X
section
variable {prog : Program} {w : World} {cx : Cx} {K : Frag} {mg mb : Str -> Option Value} {g₀ : Heap}
variable {fc : Fc} {φ : Nm} {H : Hp} {A : Around} {env : Env} {g : Heap} {L : Addr} {m : Str -> Option Value} {R R₀ : List Addr} {s : Shared} {ih : Ev Prop}
noncomputable def CelOk (φ : Nm) (cells : List (Str × Addr)) (R : List Addr) : Prop:=∀ x b,look x φ = some b -> ∃ n c,b = .cel n ∧ cells.lookup x = some c ∧ R[n]? = some c
theorem CelOk.ext {cells : List (Str × Addr)} {R' : List Addr} (e : Ext R R') (h : CelOk φ cells R) : CelOk φ cells R':=λ x b q=>let ⟨n,c,a1,a2,a3⟩:=h x b q; ⟨n,c,a1,a2,e.get a3⟩
theorem cells_loop {M : Model} {E : Value -> Shared -> Prop} {f : Str × NameKind -> List (Str × Addr) -> Sem (ForInStep (List (Str × Addr)))} {Q : List (Str × Addr) -> Shared -> Prop}
  (hf : ∀ n k cs,f (n,k) cs = if (k == NameKind.cell) = true then do let a <- alloc { cls:=.type "cell",data:=.cell none }; pure (.yield ((n,a) :: cs)) else pure (.yield cs)) :
  ∀ {names : List (Str × NameKind)} {φ φ' : Nm} {H H' : Hp} {R : List Addr} {s : Shared} {cells : List (Str × Addr)},cellsM names φ H = (φ',H') -> CelOk φ cells R -> Inv prog w g₀ g L m R H s.heap ->
  (∀ cells' R' s',CelOk φ' cells' R' -> Inv prog w g₀ g L m R' H' s'.heap -> Ext R R' -> Same s s' -> s'.toks = s.toks -> (∀ b o,s.heap.get? b = some o -> s'.heap.get? b = some o) -> Q cells' s') -> wpAny M A (forIn names cells f) Q E s:=by
 intro l_
 induction l_ with
 | nil=>
  intro φ φ' H H' R s cells h hc I hQ
  refine yG λ G_ k_=>?_
  cases h
  refine k_ ?_
  exact wpAny_pure (hQ cells R s hc I (Ext.refl R) (Same.refl s) rfl λ _ _ q=>q)
 | cons z1_ r ih_=>
  intro φ φ' H H' R s cells h hc I hQ
  cases z1_ with
  | mk n k=>
   rw [List.forIn_cons,hf]
   cases hk : (k == NameKind.cell) with
   | false=>
    have h' : cellsM r φ H = (φ',H'):=by
     cases k <;> first | exact h | cases hk
    exact ih_ h' hc I hQ
   | true=>
    have hkc : k = .cell:=by simpa using hk
    subst hkc
    refine (if_pos rfl) ▸ ?_
    rw [bind_assoc]
    refine wpAny_bind (wpAny_alloc ?_)
    have I1:=I.push (o:=.cell none) (b:={ cls:=.type "cell",data:=.cell none }) rfl rfl
    refine ih_ (s:={ s with heap:=s.heap.push { cls:=.type "cell",data:=.cell none } }) h ?_ I1 λ cells' R' s' q1 q2 q3 q4 q5 q6=>hQ cells' R' s' q1 q2 ((Ext.push _ _).trans q3) (Same.trans Same.mk' q4) q5 λ b o hb=>q6 b o (Heap.get?_push_of_some _ hb)
    intro x b hx
    dsimp only [look] at hx
    dsimp only [List.lookup_cons]
    cases z : seq x n with
    | true=>
     replace hx:=z ▸ hx
     cases hx
     rw [seq_eq] at z
     rw [z]
     exact ⟨H.length,_,rfl,rfl,get_len I.len⟩
    | false=>
     rw [z] at hx
     rw [seq_eq] at z
     rw [z]
     refine yG λ G_ k_=>?_
     obtain ⟨n',c,a1,a2,a3⟩:=hc x b hx
     refine k_ ?_
     exact ⟨n',c,a1,a2,(Ext.push _ _).get a3⟩
set_option tactic.hygienic true in
theorem binds_loop {E : Value -> Shared -> Prop} {Q : PUnit -> Shared -> Prop} {f : Str × Value -> PUnit -> Sem (ForInStep PUnit)} (hf : ∀ n v u,f (n,v) u = (do storeName env n v; pure (.yield PUnit.unit))) :
  ∀ {ps : List Str} {vs : List V} {xs : List Value} {φ φ' : Nm} {H H' : Hp} {R : List Addr} {m : Str -> Option Value} {s : Shared},bindM fc.sc ps vs φ H = some (φ',H') -> VRs R vs xs -> EnvOk A fc env φ L m R -> Inv prog w g₀ g L m R H s.heap ->
  (∀ R' m' s',EnvOk A fc env φ' L m' R' -> Inv prog w g₀ g L m' R' H' s'.heap -> Ext R R' -> Same s s' -> Q PUnit.unit s') -> wpAny (model prog w) A (forIn (ps.zip xs) PUnit.unit f) Q E s:=by
 intro l_
 induction l_ with
 | nil=>
  intro z1_ xs φ φ' H H' R m s h rv EO I hQ
  cases z1_ with
  | nil=>
   cases h
   exact wpAny_pure (hQ R m s EO I (Ext.refl R) (Same.refl s))
  | cons _ _=>
   exact nsm h
 | cons p ps ih_=>
  intro z2_ xs φ φ' H H' R m s h rv EO I hQ
  cases z2_ with
  | nil=>
   exact nsm h
  | cons v vs=>
   refine yG λ G_ k_=>?_
   cases rv with
   | cons ra rs=>
   rename_i x xs
   unfold bindM at h
   dsimp only at h
   split at h
   refine k_ ?_
   ·rename_i φ1 H1 hst
    rw [List.zip_cons_cons,List.forIn_cons,hf,bind_assoc]
    refine wpAny_bind (ok_storeName (k:=λ _ φ2 H2=>φ2 = φ1 ∧ H2 = H1) (X:=λ _ _ _=>False) hst ra EO I ⟨rfl,rfl⟩ _ _ (λ _ φ2 H2 R2 m2 _ s2 hk e2 I2 E2 _ sm2=>?_) λ _ _ _ _ _ _ _ q=>q.elim)
    refine yG λ G_ k_=>?_
    obtain ⟨rfl,rfl⟩:=hk
    refine k_ ?_
    exact ih_ h (rs.ext e2) E2 I2 λ R' m' s' q1 q2 q3 q4=>hQ R' m' s' q1 q2 (e2.trans q3) (sm2.trans q4)
   ·exact nsm h
theorem ok_newEnv {g₁ g₂ : Heap} {E : Value -> Shared -> Prop} {Q : Env -> Shared -> Prop} {fi : FnI} {args : List V} {full : List V} {xs : List Value} {qual : Str} {func : Option Addr} {code : Value} {hd : Option Nat} {d : Nat} {φ' : Nm} {H' : Hp}
  (hk : fi.scope.kind = .function) (hful : fullM fi args = some full) (hen : enterM fi args H = some (φ',H')) (rv : VRs R full xs) (hdl : HdOk A hd R)
  (hJ : ∀ h' m',h'.Ns s.heap.objs.size m' -> (∀ b o,s.heap.get? b = some o -> h'.get? b = some o) -> Inv prog w g₁ g₂ s.heap.objs.size m' R H h')
  (hQ : ∀ env R' m' s',Inv prog w g₁ g₂ s.heap.objs.size m' R' H' s'.heap -> EnvOk A ⟨fi.scope,d,hd⟩ env φ' s.heap.objs.size m' R' -> env.frame = some s.heap.objs.size -> Ext R R' -> Same s s' -> Q env s') :
  wpAny (model prog w) A (newFunctionEnv fi.scope mainGlobals [] (fi.params.zip xs) qual func code none builtinsNs) Q E s:=by
 delta enterM at hen
 dsimp only at hen
 rw [hful] at hen
 dsimp only at hen
 dsimp only [newFunctionEnv,Option.isSome_none,Bool.false_eq_true,if_false]
 refine wpAny_bind (wpAny_alloc ?_)
 have J:=hJ (s.heap.push { cls:=.type "frame",data:=.dict #[] }) (λ _=>none) (Heap.Ns.new s.heap (.type "frame")) (λ b o e=>Heap.get?_push_of_some _ e)
 refine wpAny_bind (cells_loop (λ n k cs=>?_) (s:={ s with heap:=s.heap.push { cls:=.type "frame",data:=.dict #[] } }) (show cellsM fi.scope.names [] H = (_,_) from rfl) (λ x b q=>by cases q) J λ cells' R' s' q1 q2 q3 q4 q5 q6=>?_)
 ·cases hk : (k == NameKind.cell) <;> dsimp only [hk]
 ·have E1 : EnvOk A ⟨fi.scope,d,hd⟩ { scope:=fi.scope,locals:=s.heap.objs.size,globals:=mainGlobals,cells:=cells',qual:=qual,func:=func,code:=code,frame:=some s.heap.objs.size,builtins:=builtinsNs } (cellsM fi.scope.names [] H).1 s.heap.objs.size (λ _=>none) R':=by
   refine ⟨rfl,rfl,rfl,hk,λ x k hx=>.inl (by rw [look_eq] at hx; exact hx),λ x b hx=>?_,hdl.ext q3⟩
   obtain ⟨n,c,rfl,a2,a3⟩:=q1 x b hx
   exact ⟨c,a2,a3⟩
  refine wpAny_bind (binds_loop (fc:=⟨fi.scope,d,hd⟩) (λ n v u=>rfl) (show bindM (Fc.sc ⟨fi.scope,d,hd⟩) fi.params full (cellsM fi.scope.names [] H).1 (cellsM fi.scope.names [] H).2 = some (φ',H') from hen) (rv.ext q3) E1 q2 λ R2 m2 s2 w1 w2 w3 w4=>?_)
  exact wpAny_pure (hQ _ R2 m2 s2 w2 w1 rfl (q3.trans w3) ((Same.trans Same.mk' q4).trans w4))
end
section
variable {prog : Program} {w : World} {cx : Cx} {K : Frag} {mg mb : Str -> Option Value} {g₀ : Heap}
variable {fc : Fc} {φ : Nm} {H : Hp} {A : Around} {env : Env} {g : Heap} {L : Addr} {m : Str -> Option Value} {R R₀ : List Addr} {s : Shared} {ih : Ev Prop} {X : Nat -> Hp -> Prop}
theorem VRs.drop' {vs : List V} {xs : List Value} (h : VRs R vs xs) : ∀ n : Nat,VRs R (vs.drop n) (xs.drop n):=by
 induction h with
 | nil=>intro n; simp only [List.drop_nil,List.drop_nil]; exact .nil
 | cons a b ih=>
  intro n
  cases n with
  | zero=>exact .cons a b
  | succ n=>exact ih n
theorem Tb.leave {h h' : Heap} {fl : Value -> Prop} {R' : List Addr} {H' : Hp} {a : Addr} (I : Inv prog w g₀ g L m R H h) (x : Tb g₀ (hideAll h (acts H R)) fl R' H' a h') : Tb g₀ g fl R' H' a h':=by
 obtain ⟨i,C,d,oe,vs,T,oT,ts,f,x1,x2,x3,x4,x5,x6,x7,x8,x9,x10,x11,x12,x13⟩:=x
 refine ⟨i,C,d,oe,vs,T,oT,ts,f,x1,x2,x3,x4,x5,x6,x7,x8,x9,x10,x11,?_,x13⟩
 cases q : g.get? T with
 | none=>rfl
 | some o=>
  obtain ⟨sl,hs⟩:=I.K T o q
  replace x12:=(hideAll_get _ hs (λ hm=>by obtain ⟨i,x⟩:=mem_acts.mp hm; replace q:=((I.out i _ x).2.1) ▸ q; cases q)) ▸ x12
  cases x12
theorem ok_func {g₁ g₂ : Heap} (nl : g₁.NoLimit) {f : Addr} {fi : FnI} (F : FnOk K f fi) {d : Nat} {hd : Option Nat} {args : List V} {xs : List Value} {φ1 : Nm} {H1 : Hp} (hen : enterM fi args H = some (φ1,H1))
  (hdep : A.depth + 3 * (d + 1) ≤ 900) (huni : A.units + 20 * (d + 1) ≤ 9000) {fs : List Env} (z1 : A.frames = some fs)
  (z3 : ∀ e ∈ fs,e.scope.kind ≠ .module ∧ ∃ L',e.frame = some L' ∧ g₁.get? L' = none ∧ ∃ o,g₂.get? L' = some o ∧ ∀ vs,o.data ≠ .fields vs)
  (hdl : HdOk A hd R) (kin : K.In s.heap)
  (hJ : ∀ h' m',h'.Ns s.heap.objs.size m' -> (∀ b o,s.heap.get? b = some o -> h'.get? b = some o) -> Inv prog w g₁ g₂ s.heap.objs.size m' R H h') (rv : VRs R args xs)
  {Qr : Result -> Shared -> Prop} (hB : ∀ env' R1 m1 s1,ArndS g₁ (A.deeper env') ⟨fi.scope,d,hd⟩ env' g₂ s.heap.objs.size -> EnvOk (A.deeper env') ⟨fi.scope,d,hd⟩ env' φ1 s.heap.objs.size m1 R1 -> Inv prog w g₁ g₂ s.heap.objs.size m1 R1 H1 s1.heap -> Ext R R1 -> Same s s1 ->
   wpAny (model prog w) (A.deeper env') (execs fi.body env') (λ f s'=>Qr (.ok (.ret (match f with | .ret v=>v | _=>.none))) s') (λ e s'=>wpAny (model prog w) (A.deeper env') (leaving env' e) (λ _ s''=>Qr (.error e) s'') (λ e' s''=>Qr (.error e') s'') s') s1) :
  codeAny (model prog w) A (.call (.ref f) ⟨xs,[]⟩) Qr s:=by
 refine yG λ G_ k_=>?_
 obtain ⟨⟨oc,od,osl,fd,f1,f2,f3,f4,f5,f6,f7,dl,hdl2,hbind⟩,co,gen,kind⟩:=F
 have hroom : A.depth < recursionLimit:=by
  have e : recursionLimit = 1000:=rfl
  omega
 have hen':=hen
 dsimp only [enterM] at hen'
 cases hfull : fullM fi args with
 | none=>replace hen':=hfull ▸ hen'; cases hen'
 | some full=>
 have hful:=hfull
 unfold fullM at hful
 dsimp only at hful
 split at hful
 refine k_ ?_
 ·rename_i hb
  simp only [Bool.and_eq_true] at hb
  have b1:=Nat.le_of_ble_eq_true hb.1
  have b2:=Nat.le_of_ble_eq_true hb.2
  cases hful
  have hbind:=hbind s xs kin (rv.length ▸ b1) (rv.length ▸ hdl2.length ▸ b2)
  rw [<- rv.length,<- hdl2.length] at hbind
  refine codeAny_call_function hroom (kin _ _ f1) rfl (by rw [f4]; exact co) (by rw [f4]; exact gen) f3 (codeRec_of kin f2) (hbind _ _ _ _ ?_)
  simp only [f4,f5,f6,f7]
  have rfull:=rv.append ((hdl2.ext (Ext.nil R)).drop' (fi.dflts.length - (fi.params.length - args.length)))
  refine ok_newEnv (d:=d) (hd:=hd) kind hfull hen rfull hdl hJ λ env' R1 m1 s1 J E1 hfr e1 sm1=>?_
  refine ⟨nl.keeps J.S,?_⟩
  have hLL : g₁.get? s.heap.objs.size = none:=J.lo.1
  have Z' : ArndS g₁ (A.deeper env') ⟨fi.scope,d,hd⟩ env' g₂ s.heap.objs.size:=by
   refine ⟨⟨?_,?_,env' :: fs,Around.frames_deeper z1,λ e he=>?_⟩,fs,Around.frames_deeper z1,hfr,fun_frames z3⟩
   ·show A.depth + 1 + 3 * d ≤ 900
    omega
   ·show A.units + 3 + 20 * d ≤ 9000
    omega
   ·cases he with
    | head=>exact ⟨by refine E1.fn ▸ ?_; simp,_,hfr,hLL,.inl rfl⟩
    | tail _ he=>
     refine yG λ G_ k_=>?_
     obtain ⟨q1,L',q2,q3,q4⟩:=z3 e he
     refine k_ ?_
     exact ⟨q1,L',q2,q3,.inr q4⟩
  exact codeAny_func (hB env' R1 m1 s1 Z' ⟨E1.loc,E1.glo,E1.blt,E1.fn,E1.kind,E1.nm,E1.hdl⟩ J e1 sm1)
 ·exact nsm hful
theorem ok_def' {g₁ g₂ : Heap} (B : Base K mg mb g₁) (S : SndS prog w g₁ ih) {f : Addr} {fi : FnI} (F : FnOk K f fi) {d : Nat} {hd : Option Nat} {args : List V} {xs : List Value} {k : V -> Hp -> Prop}
  (h : optK False (enterM fi args H) λ q=>runSs (λ φ st H K=>ih.s ⟨fi.scope,d,hd⟩ φ st H K λ n _ H=>X n H) fi.body q.1 q.2 λ fl _ H'=>match fl with
   | .ret v=>k v H'
   | .next=>k .none H'
   | _=>False)
  (hdep : A.depth + 3 * (d + 1) ≤ 900) (huni : A.units + 20 * (d + 1) ≤ 9000) {fs : List Env} (z1 : A.frames = some fs)
  (z3 : ∀ e ∈ fs,e.scope.kind ≠ .module ∧ ∃ L',e.frame = some L' ∧ g₁.get? L' = none ∧ ∃ o,g₂.get? L' = some o ∧ ∀ vs,o.data ≠ .fields vs)
  (hdl : HdOk A hd R) (kin : K.In s.heap)
  (hJ : ∀ h' m',h'.Ns s.heap.objs.size m' -> (∀ b o,s.heap.get? b = some o -> h'.get? b = some o) -> Inv prog w g₁ g₂ s.heap.objs.size m' R H h') (rv : VRs R args xs)
  {Qc : Value -> Shared -> Prop} {Ec : Value -> Shared -> Prop}
  (hQ : ∀ v H2 R2 m2 a s2,k v H2 -> Ext R R2 -> Inv prog w g₁ g₂ s.heap.objs.size m2 R2 H2 s2.heap -> VR R2 v a -> Same s s2 -> Qc a s2)
  (hE : ∀ n H2 R2 m2 a s2,X n H2 -> Ext R R2 -> Inv prog w g₁ g₂ s.heap.objs.size m2 R2 H2 s2.heap -> R2[n]? = some a -> Tb g₁ g₂ flN R2 H2 a s2.heap -> Same s s2 -> Ec (.ref a) s2) :
  codeAny (model prog w) A (.call (.ref f) ⟨xs,[]⟩) (λ r s'=>match r with | .ok (.ret v)=>Qc v s' | .ok _=>False | .error e=>Ec e s') s:=by
 refine yG λ G_ k_=>?_
 obtain ⟨⟨φ1,H1⟩,hen,h⟩:=optK_some h
 refine k_ ?_
 refine ok_func B.lim F hen hdep huni z1 z3 hdl kin hJ rv λ env' R1 m1 s1 Z' E2 J e1 sm1=>ok_execs (S.ss Z') h E2 J _ _ (λ fl φ2 H2 R2 m2 a s2 hk e2 J2 E3 hr sm2=>?_) λ n φ2 H2 R2 m2 a s2 hx e2 J2 E3 ha fl sm2=>?_
 ·cases fl with
  | next=>cases hr; exact hQ _ _ _ _ _ _ hk (e1.trans e2) J2 .none (sm1.trans sm2)
  | ret v=>obtain ⟨x,rfl,hx⟩:=hr; exact hQ _ _ _ _ _ _ hk (e1.trans e2) J2 hx (sm1.trans sm2)
  | brk=>exact hk.elim
  | cont=>exact hk.elim
 ·unfold leaving
  refine wpAny_bind (ok_note Z' E3.fn J2 fl λ h3 J3 F3=>?_)
  refine ok_flight (fr:=none) (s:={ s2 with heap:=h3 }) J3 F3 λ h4 J4 F4=>?_
  exact hE n H2 R2 m2 a { s2 with heap:=h4 } hx (e1.trans e2) J4 ha (F4.mono λ _ q=>q) (sm1.trans (sm2.trans ⟨rfl,rfl,rfl⟩))
theorem ok_def (B : Base K mg mb g₀) (S : SndS prog w g₀ ih) {f : Addr} {fi : FnI} (F : FnOk K f fi) {d : Nat} {hd : Option Nat} {args : List V} {xs : List Value} {k : V -> Hp -> Prop}
  (h : optK False (enterM fi args H) λ q=>runSs (λ φ st H K=>ih.s ⟨fi.scope,d,hd⟩ φ st H K λ n _ H=>X n H) fi.body q.1 q.2 λ fl _ H'=>match fl with
   | .ret v=>k v H'
   | .next=>k .none H'
   | _=>False)
  (Z : Arnd g₀ A ⟨fc.sc,d + 1,hd⟩ g L) (hdl : HdOk A hd R) (I : Inv prog w g₀ g L m R H s.heap) (rv : VRs R args xs)
  {Qc : Value -> Shared -> Prop} {Ec : Value -> Shared -> Prop} (hQ : EndV prog w g₀ g L m VR R s k Qc) (hE : EndX prog w g₀ g L m R s X Ec) :
  codeAny (model prog w) A (.call (.ref f) ⟨xs,[]⟩) (λ r s'=>match r with | .ok (.ret v)=>Qc v s' | .ok _=>False | .error e=>Ec e s') s:=by
 refine yG λ G_ k_=>?_
 obtain ⟨fs,z1,z2⟩:=Z.fr
 obtain ⟨oL,es,ep,hoL,_⟩:=id I.ns
 refine k_ ?_
 exact ok_def' B S F h Z.dep Z.uni z1 (z2.enter I) hdl (B.k.keeps I.S)
  (λ h' m' hn hk=>I.enter hn hk (Heap.get?_none_of_le (Nat.le_refl _)) (Nat.le_of_lt (Nat.lt_of_le_of_lt I.lo.2.2 (Heap.lt_size hoL)))) rv
  (λ v H2 R2 m2 a s2 hk e J r sm=>hQ v H2 R2 a s2 hk e (I.leave J) r sm) λ n H2 R2 m2 a s2 hx e J ha F sm=>hE n H2 R2 a s2 hx e (I.leave J) ha (.inr (F.leave I)) sm
end
section
variable {prog : Program} {w : World} {cx : Cx} {K : Frag} {mg mb : Str -> Option Value} {g₀ : Heap}
variable {fc : Fc} {φ : Nm} {H : Hp} {A : Around} {env : Env} {g : Heap} {L : Addr} {m : Str -> Option Value} {R R₀ : List Addr} {s : Shared} {ih : Ev Prop} {X : Nat -> Hp -> Prop}
theorem Arnd.class {d : Nat} {hd : Option Nat} {sc : Scope} {C : Addr} {xs : List Value} (Z : Arnd g₀ A ⟨sc,d + 1,hd⟩ g L) : Arnd g₀ (A.under (.builtin "type.__call__" ⟨.ref C :: xs,[]⟩)) ⟨sc,d,hd⟩ g L where
 dep:=by
  have:=Z.dep
  show A.depth + 1 + 3 * d ≤ 900
  dsimp only at this
  lia
 uni:=by
  have:=Z.uni
  show A.units + 1 + 20 * d ≤ 9000
  dsimp only at this
  lia
 fr:=Z.fr
theorem ok_class (B : Base K mg mb g₀) (CX : CxOk cx prog w K g₀ mg mb) (SC : SndC prog w g₀ ih) {C f : Addr} (hc : cx.cls C = some f) {d : Nat} {hd : Option Nat} {args : List V} {xs : List Value} {k : V -> Hp -> Prop}
  (h : ih.c d hd (.top (.ref f)) (.ref (H.length + 1) :: args) (H ++ [.flds [],.inst C H.length]) (λ v H'=>match v with
     | .none=>k (.ref (H.length + 1)) H'
     | _=>False) X)
  (Z : Arnd g₀ A ⟨fc.sc,d + 1,hd⟩ g L) (hdl : HdOk A hd R) (I : Inv prog w g₀ g L m R H s.heap) (rv : VRs R args xs)
  {Qc : Value -> Shared -> Prop} {Ec : Value -> Shared -> Prop} (hQ : EndV prog w g₀ g L m VR R s k Qc) (hE : EndX prog w g₀ g L m R s X Ec) :
  codeAny (model prog w) A (.call (.ref C) ⟨xs,[]⟩) (λ r s'=>match r with | .ok (.ret v)=>Qc v s' | .ok _=>False | .error e=>Ec e s') s:=by
 obtain ⟨c1,c2,c3,c4⟩:=CX.cls C f hc
 have kin : K.In s.heap:=B.k.keeps I.S
 have I1:=I.push (o:=.flds []) (b:=emptyDict) rfl ⟨[],0,rfl,.nil⟩
 have hget : (R ++ [s.heap.objs.size])[H.length]? = some s.heap.objs.size:=get_len I.len
 have I2:=I1.push (o:=.inst C H.length) (b:=instObj C s.heap.objs.size) rfl ⟨_,(Ext.push _ _).get hget,rfl⟩
 simp only [Heap.size_push,List.append_assoc,List.append_assoc] at I2
 have hx : (R ++ ([s.heap.objs.size] ++ [s.heap.objs.size + 1]))[H.length + 1]? = some (s.heap.objs.size + 1):=by
  refine (List.getElem?_append_right (by rw [I.len]; exact Nat.le_add_right _ _)).trans ?_
  rw [I.len,Nat.add_sub_cancel_left]; rfl
 have eR : Ext R (R ++ ([s.heap.objs.size] ++ [s.heap.objs.size + 1])):=⟨_,rfl⟩
 obtain ⟨hh,gg,dd,t,os⟩:=s
 refine make_core (makes_of kin c1) (looks_findIn kin c3) (λ self=>bind_fn kin self c4) (.inl rfl) ?_
 refine codeAny_mono (SC.r (fc:=⟨fc.sc,d,hd⟩) (s:=⟨(hh.push emptyDict).push (instObj C hh.objs.size),gg,dd,t,os⟩) h (Z.class (xs:=xs)) (HdOk.ext eR hdl) I2 (.cons (.ref hx) (rv.ext eR))
  (λ v s'=>v = .none ∧ Qc (.ref (hh.objs.size + 1)) s') Ec (λ v H' R' a s' hk e I' ra sm=>?_) (hE.on eR Same.mk')) λ r s' z=>?_
 ·cases ra with
  | none=>exact ⟨rfl,hQ _ H' R' _ s' hk (eR.trans e) I' (.ref (e.get hx)) (Same.trans Same.mk' sm)⟩
  | _=>exact (show False from hk).elim
 ·rcases r with e | (v | _ | _ | _) <;> first | exact z | exact z.elim
theorem ok_excCls (B : Base K mg mb g₀) (CX : CxOk cx prog w K g₀ mg mb) (SC : SndC prog w g₀ ih) {C f : Addr} (hc : cx.exc C = some f) {d : Nat} {hd : Option Nat} {args : List V} {xs : List Value} {k : V -> Hp -> Prop}
  (hz : xs.length ≤ sizeLine)
  (h : ih.c d hd (.top (.ref f)) (.ref H.length :: args) (H ++ [.exc C none .new]) (λ v H'=>match v with
      | .none=>k (.ref H.length) H'
      | _=>False) X)
  (Z : Arnd g₀ A ⟨fc.sc,d + 1,hd⟩ g L) (hdl : HdOk A hd R) (I : Inv prog w g₀ g L m R H s.heap) (rv : VRs R args xs)
  {Qc : Value -> Shared -> Prop} {Ec : Value -> Shared -> Prop} (hQ : EndV prog w g₀ g L m VR R s k Qc) (hE : EndX prog w g₀ g L m R s X Ec) :
  codeAny (model prog w) A (.call (.ref C) ⟨xs,[]⟩) (λ r s'=>match r with | .ok (.ret v)=>Qc v s' | .ok _=>False | .error e=>Ec e s') s:=by
 obtain ⟨c1,c2,c3,c4⟩:=CX.exc C f hc
 have kin : K.In s.heap:=B.k.keeps I.S
 have I1 : Inv prog w g₀ g L m R H (s.heap.push { cls:=.type "tuple",data:=.seq xs.toArray }):=I.keeps λ _ _ e=>Heap.get?_push_of_some _ e
 have I2:=I1.push (o:=.exc C none .new) (b:={ cls:=.ref C,data:=.fields #[.ref s.heap.objs.size,.none,.none,.none,.bool false,.none] }) rfl ⟨rfl,⟨_,rfl,_,rfl⟩,rfl⟩
 simp only [Heap.size_push] at I2
 have hx : (R ++ [s.heap.objs.size + 1])[H.length]? = some (s.heap.objs.size + 1):=get_len I.len
 have eR : Ext R (R ++ [s.heap.objs.size + 1]):=⟨_,rfl⟩
 obtain ⟨hh,gg,dd,t,os⟩:=s
 refine make_exc kin c1 c3 c4 hz (wpAny_call ?_)
 exact SC.r (fc:=⟨fc.sc,d,hd⟩) (s:=⟨(hh.push { cls:=.type "tuple",data:=.seq xs.toArray }).push { cls:=.ref C,data:=.fields #[.ref hh.objs.size,.none,.none,.none,.bool false,.none] },gg,dd,t,os⟩) h (Z.class (xs:=xs)) (HdOk.ext eR hdl) I2 (.cons (.ref hx) (rv.ext eR))
  (λ v s'=>v = .none ∧ Qc (.ref (hh.objs.size + 1)) s') Ec (λ v H' R' a s' hk e I' ra sm=>by
   cases ra with
   | none=>exact ⟨rfl,hQ _ H' R' _ s' hk (eR.trans e) I' (.ref (e.get hx)) (Same.trans Same.mk' sm)⟩
   | _=>exact (show False from hk).elim) (hE.on eR Same.mk')
end
section
open PySem PySem.W PyProof.Rows PySem.Calls Builtin Builtin.Str
theorem space_tab : ((List.range 127).all λ c=>!(Nat.ble 32 c) || (Unicode.isSpace c == isWs c)) = true:=by decide +kernel
theorem space_of {c : Nat} (h1 : 32 ≤ c) (h2 : c ≤ 126) : Unicode.isSpace c = isWs c:=by
 have:=List.all_eq_true.mp space_tab c (List.mem_range.mpr (by lia))
 rw [Nat.ble_eq_true_of_le h1] at this
 simpa using this
noncomputable def mkS (w : List Nat) : PySem.Str:=⟨⟨w⟩⟩
theorem mkS_app (a b : List Nat) : mkS a ++ mkS b = mkS (a ++ b):=Str.ext' (by
 simp only [Str.cps_append]
 exact Array.toList_inj.mp (by simp [mkS]))
theorem scan_words : ∀ (l : List Nat) (ws : List PySem.Str) (run : List Nat),(∀ c ∈ l,32 ≤ c ∧ c ≤ 126) -> KWd.fin (l.foldl KWd.step (ws,mkS run.reverse)) = ws ++ (wordsA l run).map mkS:=by
 intro l_
 induction l_ with
 | nil=>
  intro ws run _
  delta wordsA KWd.fin
  cases run with
  | nil=>simp [mkS,PySem.Str.length]
  | cons c r=>simp [mkS,PySem.Str.length]
 | cons c l ih_=>
  intro ws run h
  simp only [List.foldl_cons]
  have hc:=h c (.head _)
  have hl : ∀ d ∈ l,32 ≤ d ∧ d ≤ 126:=λ d hd=>h d (.tail _ hd)
  dsimp only [wordsA,KWd.step]
  rw [space_of hc.1 hc.2]
  cases hw : isWs c with
  | true=>
   simp only [if_true]
   cases run with
   | nil=>
    exact ih_ ws [] hl
   | cons d r=>
    rw [if_neg (by simp [mkS,PySem.Str.length])]
    have:=ih_ (ws ++ [mkS (d :: r).reverse]) [] hl
    simp only [List.append_assoc] at this
    exact this
  | false=>
   simp only [Bool.false_eq_true,if_false]
   have:=ih_ ws (c :: run) hl
   simp only [<- this]
   congr 3
   show _ = mkS (c :: run).reverse
   simp only [List.reverse_cons]
   exact mkS_app run.reverse [c]
theorem words_ok {l : List Nat} (h : okWords l = true) : Txt.words (mkS l) = (wordsA l []).map mkS:=by
 unfold okWords at h
 rw [Bool.and_eq_true,List.all_eq_true] at h
 simp only [KWd.words_scan]
 refine (scan_words l [] [] λ c hc=>?_).trans rfl
 have:=h.2 c hc
 simp only [Bool.and_eq_true] at this
 exact ⟨Nat.le_of_ble_eq_true this.1,Nat.le_of_ble_eq_true this.2⟩
theorem lower_tab : ((List.range 128).all λ c=>Unicode.lowerOf c == [lowA c] && !(c == 0x3A3)) = true:=by decide +kernel
theorem lower_of {c : Nat} (h : c ≤ 127) : Unicode.lowerOf c = [lowA c] ∧ (c == 0x3A3) = false:=by
 have:=List.all_eq_true.mp lower_tab c (List.mem_range.mpr (by lia))
 simpa using this
theorem lower_ok {l : List Nat} (h : l.all (Nat.ble · 127) = true) : Txt.lower (mkS l) = mkS (l.map lowA):=by
 rw [List.all_eq_true] at h
 delta Txt.lower placed mkS
 congr 1
 apply Array.toList_inj.mp
 simp only [Array.toList_flatten]
 have e : ((⟨l⟩ : Array Nat).mapIdx λ i c=>((λ i _=>Unicode.lowerAt (⟨l⟩ : Array Nat) i) i c).toArray) = ⟨l.map λ c=>#[lowA c]⟩:=by
  apply Array.ext
  ·simp
  ·intro i h1 h2
   have hi : i < l.length:=by simpa using h1
   have hc:=lower_of (Nat.le_of_ble_eq_true (h l[i] (List.getElem_mem hi)))
   simp only [Array.getElem_mapIdx,List.getElem_toArray,List.getElem_map]
   unfold Unicode.lowerAt
   have : (⟨l⟩ : Array Nat)[i]? = some l[i]:=by simp [hi]
   rw [this]
   dsimp only
   rw [hc.2,hc.1]
   simp
 refine e ▸ ?_
 rw [List.map_map]
 have key : ∀ l : List Nat,(l.map λ c=>[lowA c]).flatten = l.map lowA:=λ l=>by
  induction l with
  | nil=>rfl
  | cons a r ih=>simp only [List.map_cons,List.flatten_cons,ih]; rfl
 exact key l
theorem join_ok (sep : List Nat) : ∀ xs : List (List Nat),Txt.join (mkS sep) (xs.map mkS) = mkS (joinA sep xs):=by
 intro l_
 induction l_ with
 | nil=>
  unfold Txt.join; rw [StrLaws.glued_eq_join]; rfl
 | cons x z1_ ih_=>
  cases z1_ with
  | nil=>
   unfold Txt.join; rw [StrLaws.glued_eq_join]; rfl
  | cons y r=>
   have:=ih_
   unfold Txt.join at this ⊢
   simp only [StrLaws.glued_eq_join] at this ⊢
   show mkS x ++ mkS sep ++ PySem.Str.join (mkS sep) ((y :: r).map mkS) = _
   simp only [this,mkS_app,mkS_app,List.append_assoc]
   rfl
theorem sumL_eq : ∀ xs : List (List Nat),((xs.map mkS).map PySem.Str.length).sum = sumL xs:=by
 intro l_
 induction l_ with
 | nil=>
  exact rfl
 | cons x r ih_=>
  simp only [List.map_cons,List.map_cons,List.sum_cons,ih_]
  rfl
theorem anyC_has {c : Nat} : ∀ {l : List Nat},anyC c l = true ↔ c ∈ l:=by
 intro l_
 induction l_ with
 | nil=>
  exact ⟨λ h=>(by cases h),λ h=>(by cases h)⟩
 | cons d r ih_=>
  dsimp only [anyC]
  cases h : Nat.beq d c with
  | true=>exact ⟨λ _=>by refine (Nat.eq_of_beq_eq_true h) ▸ ?_; exact .head _,λ _=>rfl⟩
  | false=>
   have hn:=Nat.ne_of_beq_eq_false h
   exact ⟨λ q=>.tail _ (ih_.mp q),λ q=>by
    cases q with
    | head=>exact absurd rfl hn
    | tail _ q=>exact ih_.mpr q⟩
theorem split_no {l : List Nat} {c : Nat} (h : anyC c l = false) : Txt.split (mkS l) (mkS [c]) = [mkS l]:=by
 unfold Txt.split
 split
 ·rfl
 ·have he : (Builtin.Str.occurrences (mkS l) (mkS [c]) 0 (mkS l).length 1).isEmpty = true:=by
   have:=StrLaws.found_one (mkS l) c
   have hm : c ∉ (mkS l).cps.toList:=λ q=>by replace h:=(anyC_has.mpr (show c ∈ l from q)) ▸ h; cases h
   simp only [decide_eq_false hm] at this
   exact (Bool.not_eq_false' _).mp this
  have hno : ∀ i,i + (mkS [c]).length ≤ (mkS l).length -> subAt (mkS l) (mkS [c]) i = false:=λ i hi=>by
   cases q : subAt (mkS l) (mkS [c]) i with
   | false=>rfl
   | true=>
    have:=(StrLaws.found_iff (mkS l) (mkS [c])).mpr ⟨i,hi,q⟩
    rw [he] at this; exact nft this
  rw [PySem.W.occ_nil_of_no _ _ _ hno]
  rfl
end
section
variable {prog : Program} {w : World} {cx : Cx} {K : Frag} {mg mb : Str -> Option Value} {g₀ : Heap}
variable {fc : Fc} {φ : Nm} {H : Hp} {A : Around} {env : Env} {g : Heap} {L : Addr} {m : Str -> Option Value} {R R₀ : List Addr} {s : Shared} {X : Nat -> Hp -> Prop}
theorem optK_map {α β : Type} {f : α -> β} {o : Option α} {k : β -> Prop} (h : optK False (o.map f) k) : ∃ a,o = some a ∧ k (f a):=by
 cases o with
 | none=>exact h.elim
 | some a=>exact ⟨a,rfl,h⟩
theorem optK_bind {α β : Type} {f : α -> Option β} {o : Option α} {k : β -> Prop} (h : optK False (o.bind f) k) : ∃ a,o = some a ∧ optK False (f a) k:=by
 cases o with
 | none=>exact h.elim
 | some a=>exact ⟨a,rfl,h⟩
theorem mk_len (l : List Nat) : PySem.Str.length ⟨⟨l⟩⟩ = l.length:=rfl
theorem ok_lenA (B : Base K mg mb g₀) (CX : CxOk cx prog w K g₀ mg mb) (I : Inv prog w g₀ g L m R H s.heap) {v : V} {x : Value} {k : V -> Hp -> Prop} (h : optK False ((at_ cx H v).bind lenO) λ n=>gB False (Nat.ble n 1000000) (k (.int n) H)) (rv : VR R v x) :
  Ok prog w g₀ A g L m VR (call (.builtin "len") [x]) R s k X:=by
 intro Qc Ec hQ _
 refine bindK h λ o ho h=>?_
 cases o with
 | list vs=>
  refine gB.ble h λ hn hk=>?_
  apply at_e B CX I ho rfl rv
  intro p ob hb ⟨xs,c,hc,_,_,hd,hv⟩ _
  refine len_list (items:=xs.toArray) ⟨_,hb,hc,_,hd⟩ (by rw [List.size_toArray,<- hv.length]; omega) ?_
  rw [List.size_toArray,<- hv.length]
  exact hQ.at I hk (.int _ _) _
 | tup vs=>
  refine gB.ble h λ hn hk=>?_
  apply at_e B CX I ho rfl rv
  intro p ob hb ⟨xs,c,hc,hd,hv⟩ _
  refine len_tuple (items:=xs.toArray) ⟨_,hb,hc,_,hd⟩ (by rw [List.size_toArray,<- hv.length]; omega) ?_
  rw [List.size_toArray,<- hv.length]
  exact hQ.at I hk (.int _ _) _
 | _=>exact h.elim
theorem ok_len (B : Base K mg mb g₀) (CX : CxOk cx prog w K g₀ mg mb) (I : Inv prog w g₀ g L m R H s.heap) {v : V} {x : Value} {k : V -> Hp -> Prop} (h : bltLen False cx v H k) (rv : VR R v x) :
  Ok prog w g₀ A g L m VR (call (.builtin "len") [x]) R s k X:=by
 delta bltLen lenM at h
 cases v with
 | str l=>
  apply rv.eStr
  intro t Qc Ec hQ _
  exact gB.ble h λ hn hk=>PyProof.Rows.len_str (by simp only [mk_len]; omega) (hQ.at I hk (.int _ _) _)
 | bytes l=>
  revert h
  apply rv.eByt
  intro b t h Qc Ec hQ _
  refine gB.ble h λ hn hk=>?_
  rw [List.length_map,Array.length_toList] at hn hk
  exact len_bytes (Nat.le_trans hn (by decide)) (hQ.at I hk (.int _ _) _)
 | _=>exact ok_lenA B CX I h rv
noncomputable def TyVal (h : Heap) : Ty -> Value -> Prop
 | .none,x=>x = .none
 | .int,x=>∃ i u,x = .int i u
 | .bool,x=>∃ b,x = .bool b
 | .str,x=>∃ l u,x = .str l u
 | .list,x=>∃ a o,x = .ref a ∧ h.get? a = some o ∧ o.cls = .type "list"
 | .tuple,x=>∃ a o,x = .ref a ∧ h.get? a = some o ∧ o.cls = .type "tuple"
 | .dict,x=>∃ a o,x = .ref a ∧ h.get? a = some o ∧ o.cls = .type "dict"
theorem ty_val {t : Ty} {v : V} {x : Value} (ht : tyM v H = some t) (rv : VR R v x) (I : Inv prog w g₀ g L m R H s.heap) : TyVal s.heap t x:=by
 unfold tyM at ht
 split at ht
 ·obtain rfl:=Option.some.inj ht; exact rv.invNone
 ·obtain rfl:=Option.some.inj ht; obtain ⟨u,rfl⟩:=rv.invInt; exact ⟨_,_,rfl⟩
 ·obtain rfl:=Option.some.inj ht; exact ⟨_,rv.invBool⟩
 ·obtain rfl:=Option.some.inj ht; obtain ⟨u,rfl⟩:=rv.invStr; exact ⟨_,_,rfl⟩
 ·obtain ⟨a,rfl,hn⟩:=rv.invRef
  split at ht
  ·rename_i hH
   obtain rfl:=Option.some.inj ht
   obtain ⟨ob,hob,xs,nn,hc,_,_,_,_⟩:=I.at hH rfl hn
   exact ⟨a,ob,rfl,hob,hc⟩
  ·rename_i hH
   obtain rfl:=Option.some.inj ht
   obtain ⟨ob,hob,xs,nn,hc,_,_⟩:=I.at hH rfl hn
   exact ⟨a,ob,rfl,hob,hc⟩
  ·rename_i hH
   obtain rfl:=Option.some.inj ht
   obtain ⟨ob,hob,kvs,⟨es,ep,hd,_⟩,_⟩:=I.at hH rfl hn
   exact ⟨a,ob,rfl,hob,hd.1⟩
  ·rename_i hH
   obtain rfl:=Option.some.inj ht
   obtain ⟨ob,hob,kvs,⟨es,ep,hd,_⟩,_⟩:=I.at hH rfl hn
   exact ⟨a,ob,rfl,hob,hd.1⟩
  ·exact nsm ht
 ·exact nsm ht
theorem askT_some {n : String} {T : Ty} (h : askT n = some T) : (n = "int" ∧ T = .int) ∨ (n = "bool" ∧ T = .bool) ∨ (n = "list" ∧ T = .list) ∨ (n = "dict" ∧ T = .dict):=by
 unfold askT at h
 split at h
 ·exact .inl ⟨by assumption,(Option.some.inj h).symm⟩
 split at h
 ·exact .inr (.inl ⟨by assumption,(Option.some.inj h).symm⟩)
 split at h
 ·exact .inr (.inr (.inl ⟨by assumption,(Option.some.inj h).symm⟩))
 split at h
 ·exact .inr (.inr (.inr ⟨by assumption,(Option.some.inj h).symm⟩))
 ·exact nsm h
theorem isi_val {n : String} {t T : Ty} {x : Value} {M : Value -> Shared -> Prop} {E : Value -> Shared -> Prop} (hT : askT n = some T) (hx : TyVal s.heap t x) (h1 : M (.bool (isA t T)) s) (h2 : M (.bool (isA t T)) { s with toks:=s.toks + 1 }) :
  wpAny (model prog w) A (call (.builtin "isinstance") [x,.type n]) M E s:=by
 rcases askT_some hT with ⟨rfl,rfl⟩ | ⟨rfl,rfl⟩ | ⟨rfl,rfl⟩ | ⟨rfl,rfl⟩
 ·cases t with
  | none=>obtain rfl:=(hx : x = .none); exact IsiPair.NoneType_int h2
  | int=>obtain ⟨_,_,rfl⟩:=hx; exact IsiPair.int_int h1
  | bool=>obtain ⟨_,rfl⟩:=hx; exact IsiPair.bool_int h1
  | str=>obtain ⟨_,_,rfl⟩:=hx; exact IsiPair.str_int h2
  | list=>obtain ⟨_,_,rfl,hb,hc⟩:=hx; exact IsiPair.list_int hb hc h2
  | tuple=>obtain ⟨_,_,rfl,hb,hc⟩:=hx; exact IsiPair.tuple_int hb hc h2
  | dict=>obtain ⟨_,_,rfl,hb,hc⟩:=hx; exact IsiPair.dict_int hb hc h2
 ·cases t with
  | none=>obtain rfl:=(hx : x = .none); exact IsiPair.NoneType_bool h2
  | int=>obtain ⟨_,_,rfl⟩:=hx; exact IsiPair.int_bool h2
  | bool=>obtain ⟨_,rfl⟩:=hx; exact IsiPair.bool_bool h1
  | str=>obtain ⟨_,_,rfl⟩:=hx; exact IsiPair.str_bool h2
  | list=>obtain ⟨_,_,rfl,hb,hc⟩:=hx; exact IsiPair.list_bool hb hc h2
  | tuple=>obtain ⟨_,_,rfl,hb,hc⟩:=hx; exact IsiPair.tuple_bool hb hc h2
  | dict=>obtain ⟨_,_,rfl,hb,hc⟩:=hx; exact IsiPair.dict_bool hb hc h2
 ·cases t with
  | none=>obtain rfl:=(hx : x = .none); exact IsiPair.NoneType_list h2
  | int=>obtain ⟨_,_,rfl⟩:=hx; exact IsiPair.int_list h2
  | bool=>obtain ⟨_,rfl⟩:=hx; exact IsiPair.bool_list h2
  | str=>obtain ⟨_,_,rfl⟩:=hx; exact IsiPair.str_list h2
  | list=>obtain ⟨_,_,rfl,hb,hc⟩:=hx; exact IsiPair.list_list hb hc h1
  | tuple=>obtain ⟨_,_,rfl,hb,hc⟩:=hx; exact IsiPair.tuple_list hb hc h2
  | dict=>obtain ⟨_,_,rfl,hb,hc⟩:=hx; exact IsiPair.dict_list hb hc h2
 ·cases t with
  | none=>obtain rfl:=(hx : x = .none); exact IsiPair.NoneType_dict h2
  | int=>obtain ⟨_,_,rfl⟩:=hx; exact IsiPair.int_dict h2
  | bool=>obtain ⟨_,rfl⟩:=hx; exact IsiPair.bool_dict h2
  | str=>obtain ⟨_,_,rfl⟩:=hx; exact IsiPair.str_dict h2
  | list=>obtain ⟨_,_,rfl,hb,hc⟩:=hx; exact IsiPair.list_dict hb hc h2
  | tuple=>obtain ⟨_,_,rfl,hb,hc⟩:=hx; exact IsiPair.tuple_dict hb hc h2
  | dict=>obtain ⟨_,_,rfl,hb,hc⟩:=hx; exact IsiPair.dict_dict hb hc h1
theorem ok_isiT {t T : Ty} {n : String} {v : V} {x : Value} {k : V -> Hp -> Prop} (hT : askT n = some T) (ht : tyM v H = some t) (hk : k (.bool (isA t T)) H) (rv : VR R v x) (I : Inv prog w g₀ g L m R H s.heap) :
  Ok prog w g₀ A g L m VR (call (.builtin "isinstance") [x,.type n]) R s k X:=
 λ Qc Ec hQ _=>isi_val hT (ty_val ht rv I) (hQ.here I hk (.bool _)) (hQ.at I hk (.bool _) _)
theorem isn_of {C : Addr} {T : String} (h : instOk K C = true) (hT : subIn K (.type T) (.ref C) = some false) : isNotIn K T C = true:=by
 unfold instOk at h
 simp only [Bool.and_eq_true] at h
 obtain ⟨h1,h2,h3,_⟩:=h
 unfold isNotIn
 simp only [h1,h2,h3,hT]
 rfl
theorem ok_isiC (B : Base K mg mb g₀) (CX : CxOk cx prog w K g₀ mg mb) {t : Ty} {C : Addr} {v : V} {x : Value} {k : V -> Hp -> Prop} {b : Bool} (hC : cx.sub C C = some b) (ht : tyM v H = some t) (hk : k (.bool false) H) (rv : VR R v x) (I : Inv prog w g₀ g L m R H s.heap) :
  Ok prog w g₀ A g L m VR (call (.builtin "isinstance") [x,.ref C]) R s k X:=by
 intro Qc Ec hQ _
 have kin : K.In s.heap:=B.k.keeps I.S
 have hi:=(CX.sub C C b hC).2
 have up : Qc (.bool false) { s with toks:=s.toks + 1 }:=hQ.at I hk (.bool _) _
 have hx:=ty_val ht rv I
 clear hk hQ rv ht
 cases t with
 | none=>
  obtain rfl:=(hx : x = .none)
  exact isn_call (P:=λ _=>True) kin (λ M=>Looks.of_pure rfl) (isn_of hi (by kernel_rfl)) (by intro e; cases e) trivial none_cls up
 | int=>
  obtain ⟨_,_,rfl⟩:=hx
  exact isn_call (P:=λ _=>True) kin (λ M=>Looks.of_pure rfl) (isn_of hi (by kernel_rfl)) (by intro e; cases e) trivial int_cls up
 | bool=>
  obtain ⟨_,rfl⟩:=hx
  exact isn_call (P:=λ _=>True) kin (λ M=>Looks.of_pure rfl) (isn_of hi (by kernel_rfl)) (by intro e; cases e) trivial bool_cls up
 | str=>
  obtain ⟨_,_,rfl⟩:=hx
  exact isn_call (P:=λ _=>True) kin (λ M=>Looks.of_pure rfl) (isn_of hi (by kernel_rfl)) (by intro e; cases e) trivial str_cls up
 | list=>
  obtain ⟨_,ob,rfl,hb,hc⟩:=hx
  exact isn_call (P:=λ h=>∃ o,h.get? _ = some o ∧ o.cls = .type "list") kin (λ M=>hc ▸ (Looks.ld hb).andThen .now) (isn_of hi (by kernel_rfl)) (by intro e; cases e) ⟨ob,hb,hc⟩ list_cls up
 | tuple=>
  obtain ⟨_,ob,rfl,hb,hc⟩:=hx
  exact isn_call (P:=λ h=>∃ o,h.get? _ = some o ∧ o.cls = .type "tuple") kin (λ M=>hc ▸ (Looks.ld hb).andThen .now) (isn_of hi (by kernel_rfl)) (by intro e; cases e) ⟨ob,hb,hc⟩ tuple_cls up
 | dict=>
  obtain ⟨_,ob,rfl,hb,hc⟩:=hx
  exact isn_call (P:=λ h=>∃ o,h.get? _ = some o ∧ o.cls = .type "dict") kin (λ M=>hc ▸ (Looks.ld hb).andThen .now) (isn_of hi (by kernel_rfl)) (by intro e; cases e) ⟨ob,hb,hc⟩ dict_cls up
theorem ok_isiD (B : Base K mg mb g₀) (CX : CxOk cx prog w K g₀ mg mb) {v : V} {x : Value} {n : String} {T : Ty} {D : Addr} {d : Nat} {fs : List (Str × V)} {k : V -> Hp -> Prop} (hT : askT n = some T) (hi : cx.isi D = true) (hif : instOf H v = some (D,d,fs)) (hk : k (.bool false) H) (rv : VR R v x) (I : Inv prog w g₀ g L m R H s.heap) :
  Ok prog w g₀ A g L m VR (call (.builtin "isinstance") [x,.type n]) R s k X:=by
 refine yG λ G_ k_=>?_
 obtain ⟨⟨a,da,ox,es,nn,_,_,_,_,J⟩,_⟩:=inst_at I hif rv
 obtain ⟨c1,c2,c3,c4,c5,c6,c7,c8,c9,c10⟩:=CX.isi D hi
 refine k_ ?_
 intro Qc Ec hQ _
 have up : Qc (.bool false) { s with toks:=s.toks + 1 }:=hQ.at I hk (.bool _) _
 have kin : K.In s.heap:=B.k.keeps I.S
 clear hQ hk rv hif hi
 rcases askT_some hT with ⟨rfl,_⟩ | ⟨rfl,_⟩ | ⟨rfl,_⟩ | ⟨rfl,_⟩
 ·exact kin_callT kin J (by unfold kin_notT; rw [c7]; rfl) F.isi_meta_int c1 c2 c3 c4 c5 c6 up
 ·exact kin_callT kin J (by unfold kin_notT; rw [c8]; rfl) F.isi_meta_bool c1 c2 c3 c4 c5 c6 up
 ·exact kin_callT kin J (by unfold kin_notT; rw [c9]; rfl) F.isi_meta_list c1 c2 c3 c4 c5 c6 up
 ·exact kin_callT kin J (by unfold kin_notT; rw [c10]; rfl) F.isi_meta_dict c1 c2 c3 c4 c5 c6 up
theorem ok_isiE (B : Base K mg mb g₀) (CX : CxOk cx prog w K g₀ mg mb) {v : V} {x : Value} {C D : Addr} {d : Nat} {fs : List (Str × V)} {b : Bool} {k : V -> Hp -> Prop} (hs : cx.sub D C = some b) (hif : instOf H v = some (D,d,fs)) (h : optK False (match b with
  | true=>some true
  | false=>yB (cx.isi D) (yB (!Nat.beq D C) (some false))) λ b=>k (.bool b) H) (rv : VR R v x) (I : Inv prog w g₀ g L m R H s.heap) :
  Ok prog w g₀ A g L m VR (call (.builtin "isinstance") [x,.ref C]) R s k X:=by
 obtain ⟨⟨a,da,ox,es,nn,_,_,_,_,J⟩,_⟩:=inst_at I hif rv
 obtain ⟨h1,h2⟩:=CX.sub D C b hs
 unfold instOk at h2
 simp only [Bool.and_eq_true,Bool.and_eq_true,Bool.and_eq_true] at h2
 have kin : K.In s.heap:=B.k.keeps I.S
 clear rv hif hs
 cases b with
 | true=>
  intro Qc Ec hQ _
  refine isi_call kin (λ M=>J.type) ?_ (by intro e; cases e) (hQ.here I h (.bool _))
  unfold isIn
  simp only [h2.1,h2.2.1,h2.2.2.1,h1]
  exact Bool.or_true _
 | false=>
  refine yB.ok h λ hi h=>yB.ok h λ hne hk=>?_
  refine yG λ G_ k_=>?_
  obtain ⟨c1,c2,c3,c4,c5,c6,_⟩:=CX.isi D hi
  refine k_ ?_
  intro Qc Ec hQ _
  refine kin_callC kin J ?_ c1 c2 c3 c4 c5 c6 (hQ.at I hk (.bool _) _)
  unfold kin_not
  simp only [h2.1,h2.2.1,h1,decide_eq_true (Nat.ne_of_beq_eq_false (Bool.not_eq_true' _ ▸ hne))]
  rfl
theorem ok_isi (B : Base K mg mb g₀) (CX : CxOk cx prog w K g₀ mg mb) {v : V} {x T : Value} {k : V -> Hp -> Prop} (h : optK False (isiM cx v H T) λ b=>k (.bool b) H) (rv : VR R v x) (I : Inv prog w g₀ g L m R H s.heap) :
  Ok prog w g₀ A g L m VR (call (.builtin "isinstance") [x,T]) R s k X:=by
 cases T with
 | type n=>exact bindK h λ T hT h=>yAt.ok h (λ t ht hk=>ok_isiT hT ht hk rv I) λ h=>bindK h λ q hq h=>yB.ok h λ hi hk=>ok_isiD B CX hT hi hq hk rv I
 | ref C=>exact yAt.ok h (λ t ht h=>mpK h λ b hb hk=>ok_isiC B CX hb ht hk rv I) λ h=>bindK h λ q hq h=>bindK h λ b hb h=>ok_isiE B CX hb hq h rv I
 | _=>exact h.elim
end
section
variable {prog : Program} {w : World} {cx : Cx} {K : Frag} {mg mb : Str -> Option Value} {g₀ : Heap}
variable {fc : Fc} {φ : Nm} {H : Hp} {A : Around} {env : Env} {g : Heap} {L : Addr} {m : Str -> Option Value} {R R₀ : List Addr} {s : Shared} {X : Nat -> Hp -> Prop}
theorem VRs.one {v : V} {xs : List Value} (h : VRs R [v] xs) : ∃ x,xs = [x] ∧ VR R v x:=by
 cases h with
 | cons a t=>cases t; exact ⟨_,rfl,a⟩
theorem VRs.two {v u : V} {xs : List Value} (h : VRs R [v,u] xs) : ∃ x y,xs = [x,y] ∧ VR R v x ∧ VR R u y:=by
 cases h with
 | cons a t=>obtain ⟨y,rfl,b⟩:=t.one; exact ⟨_,_,rfl,a,b⟩
theorem VRs.three {v u z : V} {xs : List Value} (h : VRs R [v,u,z] xs) : ∃ x y q,xs = [x,y,q] ∧ VR R v x ∧ VR R u y ∧ VR R z q:=by
 cases h with
 | cons a t=>obtain ⟨y,q,rfl,b,c⟩:=t.two; exact ⟨_,_,_,rfl,a,b,c⟩
theorem VRs.bools_ {vs : List V} {xs : List Value} (h : VRs R vs xs) : ∀ {bs : List Bool},boolsOf vs = some bs -> LSm.BoolsAre xs bs:=by
 induction h with
 | nil=>intro bs e; obtain rfl:=Option.some.inj e; exact .nil
 | cons hv _ ih=>
  intro bs e
  cases hv <;> try (exact nsm e; done)
  obtain ⟨r,hr,rfl⟩:=Option.map_eq_some_iff.mp e
  exact .cons _ (ih hr)
set_option tactic.hygienic true in
theorem octets_ {vs : List V} {xs : List Value} (h : VRs R vs xs) : ∀ {l : List Nat},octetsOf vs = some l -> IntsAre xs (l.map Int.ofNat) ∧ ∀ n ∈ l,n < 256:=by
 induction h with
 | nil=>intro l e; obtain rfl:=Option.some.inj e; exact ⟨.nil,λ n q=>by cases q⟩
 | cons hv _ ih=>
  intro l e
  dsimp only [octetsOf] at e
  cases hv <;> try (exact nsm e; done)
  rename_i i tk
  split at e
  ·rename_i n hn
   split at e
   ·rename_i hb
    refine yG λ G_ k_=>?_
    cases hn
    obtain ⟨r,hr,rfl⟩:=Option.map_eq_some_iff.mp e
    obtain ⟨i1,i2⟩:=ih hr
    refine k_ ?_
    exact ⟨.cons _ _ i1,λ n q=>by
     cases q with
     | head=>exact Nat.lt_of_lt_of_le (Nat.lt_of_lt_of_le (Nat.lt_succ_self _) (Nat.le_of_ble_eq_true hb)) (Nat.le_refl _)
     | tail _ q=>exact i2 n q⟩
   ·exact nsm e
  ·exact nsm e
theorem octets_back {l : List Nat} (h : ∀ n ∈ l,n < 256) : (byteArr (l.map Int.ofNat)).toList.map UInt8.toNat = l:=by
 induction l with
 | nil=>rfl
 | cons n r ih=>
  have ih:=ih λ n q=>h n (.tail _ q)
  have hn:=h n (.head _)
  refine Eq.trans (show _ = (n.toUInt8).toNat :: List.map UInt8.toNat ((r.map Int.ofNat).map λ n=>n.toNat.toUInt8) from rfl) ?_
  exact congr (congrArg List.cons (Nat.mod_eq_of_lt hn)) ih
theorem Inv.keepsF {h' : Heap} {m' : Str -> Option Value} (I : Inv prog w g₀ g L m R H s.heap) (F : Fr g₀ L h' m') (N : News g₀ L h' (others g₀ L s.heap)) : Inv prog w g₀ g L m' R H h':=
 I.keeps' F.ns (I.keepsN F N λ _ h=>h)
section
variable {v : V} {x : Value} {k : V -> Hp -> Prop} (rv : VR R v x) (I : Inv prog w g₀ g L m R H s.heap)
include rv I
theorem ok_bltA {id : String} (B : Base K mg mb g₀) (CX : CxOk cx prog w K g₀ mg mb) (hh : A.handled = none) (h : bltA False cx id v H k) : Ok prog w g₀ A g L m VR (call (.builtin id) [x]) R s k X:=by
 refine iteE h (λ e h=>?_) λ _ h=>?_
 ·subst e; exact ok_len B CX I h rv
 refine iteE h (λ e h=>?_) λ _ h=>?_
 ·subst e
  cases v with
  | int i=>apply rv.eInt; intro t; exact λ Qc Ec hQ _=>call_abs_int λ u tk=>hQ.at I h (.int _ _) _
  | _=>exact h.elim
 refine iteE h (λ e h=>?_) λ _ h=>?_
 ·subst e
  cases v with
  | int i=>cases i with
   | ofNat n=>
    apply rv.eInt; intro t
    refine gB.ble h λ hb h Qc Ec hQ _=>P.chr_of_int ?_ (hQ.at I h (VR.str [_] _) _)
    simp only [Int.ofNat_eq_natCast]
    lia
   | negSucc _=>exact h.elim
  | _=>exact h.elim
 refine iteE h (λ e h=>?_) λ _ h=>iteE h (λ e h=>?_) λ _ h=>h.elim
 ·subst e
  cases v with
  | str l=>cases l with
   | nil=>exact h.elim
   | cons c r=>cases r with
    | nil=>apply rv.eStr; intro t; exact λ Qc Ec hQ _=>P.ord_of_char (hQ.at I h (.int _ _) _)
    | cons _ _=>exact h.elim
  | _=>exact h.elim
 ·subst e
  cases v with
  | ref n=>
   apply rv.eRef; intro a hn
   refine optE h λ bs hb h=>gB.ble h λ _ h Qc Ec hQ _=>?_
   refine hL.ok (optK_of (Q:=λ b=>b = bs) hb rfl) λ vs hH hb=>?_
   obtain ⟨ob,hob,ys,c,hc,_,_,hd,hv⟩:=I.at hH rfl hn
   refine optE hb λ bs2 hb2 e=>?_
   subst e
   exact LSm.all_bools I.fr I.news hh (vs:=ys) ⟨_,hob,hc,_,hd⟩ (hv.bools_ hb2) λ h' tk F' N'=>hQ _ H R _ _ h (Ext.refl R) (I.keepsF F' N') (.bool _) Same.mk'
  | _=>exact h.elim
theorem ok_tyA {T : String} (hh : A.handled = none) (hnd : T ≠ "dict") (h : tyA False T v H k) : Ok prog w g₀ A g L m VR (call (.type T) [x]) R s k X:=by
 refine iteE h (λ e h=>?_) λ _ h=>iteE h (λ e h=>?_) λ _ h=>?_
 ·subst e
  cases v with
  | int i=>apply rv.eInt; intro t; exact λ Qc Ec hQ _=>call_int_int (hQ.here I h (.int _ _))
  | str l=>apply rv.eStr; intro t; exact bleE h λ hb h=>optE h λ n hn h Qc Ec hQ _=>KIN.call_text hn (by simp only [mk_len]; omega) (hQ.at I h (.int _ _) _)
  | _=>exact h.elim
 ·subst e
  cases v with
  | int i=>apply rv.eInt; intro t; exact λ Qc Ec hQ _=>call_range_1 (hQ.made I h I.newRef ⟨_,_,_,rfl⟩ _)
  | _=>exact h.elim
 ·cases v with
  | ref n=>
   apply rv.eRef; intro a hn
   refine hL.ok h λ vs hH h=>?_
   obtain ⟨ob,hob,ys,c,hc,_,_,hd,hv⟩:=I.at hH rfl hn
   refine iteE (show ite _ _ _ from h) (λ e h=>?_) λ _ h=>iteE h (λ e h=>?_) λ _ h=>iteE h (λ e h=>(hnd e).elim) λ _ h=>h.elim <;> subst e
   ·refine bleE h λ hb h Qc Ec hQ _=>?_
    rw [hv.length] at hb
    exact call_list_seq a (.inl rfl) hob hc hd (λ h' c' hk' hn'=>hQ _ _ _ _ _ h (Ext.push R _) (I.make hk' (Heap.get?_none_of_le (Nat.le_refl _)) hn' ⟨ys,c',rfl,rfl,rfl,rfl,hv.ext (Ext.push R _)⟩) I.newRef Same.mk') (by simp only [List.size_toArray,sizeLine_eq]; omega)
   ·refine bleE h λ hb h=>optE h λ l hl h Qc Ec hQ _=>?_
    rw [hv.length] at hb
    obtain ⟨o1,o2⟩:=octets_ hv hl
    refine call_bytes_ints (vs:=ys) ⟨_,hob,hc,_,hd⟩ o1 (λ n hn=>?_) (by simp only [sizeLine_eq]; omega) hh λ h' t k' hk'=>?_
    ·obtain ⟨n',hn',rfl⟩:=List.mem_map.mp hn
     exact ⟨Int.natCast_nonneg n',Int.ofNat_lt.mpr (o2 n' hn')⟩
    ·refine hQ _ H R _ _ h (Ext.refl R) (I.keeps hk') ?_ Same.mk'
     have:=VR.bytes (R:=R) (byteArr (l.map Int.ofNat)) t
     rw [octets_back o2] at this
     exact this
  | _=>exact h.elim
end
theorem ok_builtE (B : Base K mg mb g₀) (CX : CxOk cx prog w K g₀ mg mb) (hh : A.handled = none) {f : Value} {args : List V} {xs : List Value} {k : V -> Hp -> Prop} (hnd : f ≠ .type "dict") (h : builtE False cx f args H k)
  (rv : VRs R args xs) (I : Inv prog w g₀ g L m R H s.heap) : Ok prog w g₀ A g L m VR (call f xs) R s k X:=by
 cases f with
 | builtin id=>cases rv with
  | nil=>exact (show False from h).elim
  | cons r1 rt=>cases rt with
   | nil=>exact ok_bltA r1 I B CX hh h
   | @cons T _ _ _ r2 rt=>cases rt with
    | nil=>
     refine iteE h (λ e h=>?_) λ _ h=>h.elim
     subst e
     cases T with
     | top T=>
      refine yG λ G_ k_=>?_
      obtain rfl:=r2.invTop
      refine k_ ?_
      exact ok_isi B CX h r1 I
     | _=>exact h.elim
    | cons _ _=>exact (show False from h).elim
 | type T=>cases rv with
  | nil=>exact (show False from h).elim
  | @cons a _ _ _ r1 rt=>cases rt with
   | nil=>exact ok_tyA r1 I hh (λ e=>hnd (congrArg Value.type e)) h
   | @cons b _ _ _ r2 rt=>
    refine iteE h (λ e h=>?_) λ _ h=>h.elim
    subst e
    cases a with
    | int a=>cases b with
     | int b=>
      revert rt; apply r1.eInt; intro _; apply r2.eInt; intro _ rt
      cases rt with
      | nil=>exact λ Qc Ec hQ _=>call_range_2 (hQ.made I h I.newRef ⟨_,_,_,rfl⟩ _)
      | @cons c _ _ _ r3 rt=>cases rt with
       | nil=>cases c with
        | int c=>
         apply r3.eInt; intro _
         refine tfE h λ hb h Qc Ec hQ _=>?_
         simp only [Bool.and_eq_true] at hb
         have hp:=of_decide_eq_true hb.1
         have hb:=Nat.le_of_ble_eq_true hb.2
         exact call_range_3 (Int.ne_of_gt hp) (hQ.made I h I.newRef ⟨_,_,_,rfl⟩ _) (.inl (PyProof.noPylong_small (by omega)))
        | _=>exact h.elim
       | cons _ _=>exact h.elim
     | _=>exact h.elim
    | _=>exact h.elim
 | _=>exact (show False from h).elim
end
section
open PySem PySem.W PyProof.Rows PySem.Calls Builtin Builtin.Bytes
theorem jm_two {motive : Array Value -> Sort _} (a b : Value) (r : List Value) (h1 : (x : Value) -> motive #[x]) (h2 : (x : Array Value) -> motive x) : Builtin.Bytes.joinM.match_1 motive ((a :: b :: r).toArray) h1 h2 = h2 ((a :: b :: r).toArray):=by rfl
theorem jm_none {motive : Array Value -> Sort _} (h1 : (x : Value) -> motive #[x]) (h2 : (x : Array Value) -> motive x) : Builtin.Bytes.joinM.match_1 motive (([] : List Value).toArray) h1 h2 = h2 (([] : List Value).toArray):=by rfl
theorem jm_ne {motive : Array Value -> Sort _} : ∀ (l : List Value),l.length ≠ 1 -> ∀ (h1 : (x : Value) -> motive #[x]) (h2 : (x : Array Value) -> motive x),Builtin.Bytes.joinM.match_1 motive l.toArray h1 h2 = h2 l.toArray:=by
 intro z1_ h _ _
 cases z1_ with
 | nil=>
  exact rfl
 | cons _ z2_=>
  cases z2_ with
  | nil=>
   exact absurd rfl h
  | cons _ _=>
   exact rfl
theorem jm_one {motive : Array Value -> Sort _} (a : Value) (h1 : (x : Value) -> motive #[x]) (h2 : (x : Array Value) -> motive x) : Builtin.Bytes.joinM.match_1 motive ([a].toArray) h1 h2 = h1 a:=by rfl
section
variable {b : Array UInt8} {t : Tok}
theorem sp1 : specialOf (.bytes b t) "__buffer__" = pure (some (.builtin "bytes.__buffer__")):=by
 show typeLookup (.type "bytes") _ = _
 rw [typeLookup_type,builtinLookup_eq_fast]; kernel_rfl
theorem sp2 : specialOf (.bytes b t) "__release_buffer__" = pure none:=by
 show typeLookup (.type "bytes") _ = _
 rw [typeLookup_type,builtinLookup_eq_fast]; kernel_rfl
theorem bind_of {α β : Type} {m : Sem α} {a : α} {f : α -> Sem β} (h : m = pure a) : (m >>= f) = f a:=h ▸ pure_bind a f
theorem ow1 : slotIsOwn (.bytes b t) "__buffer__" = pure true:=by
 refine (bind_of sp1).trans ?_
 show (if (!("bytes.__buffer__".endsWith ("." ++ "__buffer__"))) = true then pure false else isInstance (.bytes b t) (.type ("bytes.__buffer__".dropRight ("__buffer__".length + 1)))) = _
 rw [show (!("bytes.__buffer__".endsWith ("." ++ "__buffer__"))) = false from by decide +kernel,show "bytes.__buffer__".dropRight ("__buffer__".length + 1) = "bytes" from by decide +kernel]
 exact F.bm_sub
theorem ow2 : slotIsOwn (.bytes b t) "__release_buffer__" = pure true:=bind_of sp2
theorem buf1 {id : String} {full : Bool} : buffer? id (.bytes b t) full = pure (some b):=by
 refine (bind_of sp1).trans ((bind_of ow1).trans ((bind_of sp1).trans ?_))
 rfl
theorem take1 {id : String} {n : Int} : takeBuffer? id (.bytes b t) n = pure (some (b,none)):=(bind_of sp1).trans ((bind_of ow1).trans ((bind_of rfl).trans (bind_of buf1)))
theorem takeq {id : String} {n : Int} : takeBufferQuiet? id (.bytes b t) n = pure (some (b,none)):=(congrArg (λ x : Sem (Option (Array UInt8 × Option Value))=>x.attempt >>= _) take1).trans rfl
end
noncomputable def bvals (ps : List (Array UInt8 × Tok)) : List Value:=ps.map λ p=>.bytes p.1 p.2
abbrev BSt:=Array (Array UInt8) × List (Value × Option Value)
noncomputable def Tame (l : List (Value × Option Value)) : Prop:=∀ q ∈ l,q.1.onHeap = false ∧ q.2 = none
theorem joinloop {M : Model} {A : Around} {E : Value -> Shared -> Prop} {s : Shared} {Q : BSt -> Shared -> Prop} {f : Nat -> BSt -> Sem (ForInStep BSt)} {ps : List (Array UInt8 × Tok)}
  (hf : ∀ i p parts taken (Q' : ForInStep BSt -> Shared -> Prop),ps[i]? = some p -> Tame taken -> Q' (.yield (parts.push p.1,taken ++ [(.bytes p.1 p.2,none)])) s -> wpAny M A (f i (parts,taken)) Q' E s) :
  ∀ (todo : List (Array UInt8 × Tok)) (i : Nat) (parts : Array (Array UInt8)) (taken : List (Value × Option Value)),ps.drop i = todo -> Tame taken ->
   (∀ tk,Tame tk -> Q (parts ++ (todo.map (·.1)).toArray,tk) s) -> wpAny M A (forIn (List.range' i todo.length) (parts,taken) f) Q E s:=by
 intro l_
 induction l_ with
 | nil=>
  intro i parts taken _ ht hQ
  have:=hQ taken ht
  exact wpAny_pure (by exact this)
 | cons p todo ih_=>
  intro i parts taken hd ht hQ
  have hp : ps[i]? = some p:=by
   have : (ps.drop i)[0]? = some p:=by rw [hd]; rfl
   replace this:=(List.getElem?_drop).symm.trans this
   simpa using this
  refine List.length_cons ▸ ?_
  refine List.range'_succ ▸ ?_
  rw [List.forIn_cons]
  refine wpAny_bind (hf i p parts taken _ hp ht ?_)
  have hd' : ps.drop (i + 1) = todo:=by refine List.drop_drop ▸ ?_; rw [hd]; rfl
  refine ih_ (i + 1) (parts.push p.1) (taken ++ [(.bytes p.1 p.2,none)]) hd' (λ q hq=>?_) λ tk htk=>?_
  ·rcases List.mem_append.mp hq with hq | hq
   ·exact ht q hq
   ·refine (List.mem_singleton.mp hq) ▸ ?_; exact ⟨rfl,rfl⟩
  ·have:=hQ tk htk
   have e : parts ++ ((p :: todo).map (·.1)).toArray = parts.push p.1 ++ (todo.map (·.1)).toArray:=by
    apply Array.toList_inj.mp; simp
   refine e ▸ ?_; exact this
theorem join_go {M : Model} {A : Around} {E : Value -> Shared -> Prop} {s : Shared} {keep : List Value} {Q : Unit -> Shared -> Prop} (h : Q () s) : ∀ {taken : List (Value × Option Value)},Tame taken -> wpAny M A (joinLetGo taken keep) Q E s:=by
 intro l_
 induction l_ with
 | nil=>
  intro _
  exact wpAny_pure h
 | cons z1_ r ih_=>
  intro ht
  cases z1_ with
  | mk x w=>
   have hw : w = none:=(ht (x,w) (.head _)).2
   subst hw
   exact wpAny_bind (wpAny_letGo (ih_ λ q hq=>ht q (.tail _ hq)))
theorem sum_fold : ∀ (l : List (Array UInt8)) (n : Nat),l.foldl (λ n b=>n + b.size) n = n + (l.map Array.size).sum:=by
 intro l_
 induction l_ with
 | nil=>
  intro n
  rfl
 | cons b r ih_=>
  intro n
  simp only [List.foldl_cons,ih_,List.map_cons,List.sum_cons]; simp +arith
theorem slot_bjoin : Slot "bytes" "join" "bytes.join":=
 .of (owner:="bytes") (n:="join") (by rw [typeLookup_type,builtinLookup_eq_fast]; kernel_rfl) (by decide +kernel) (by decide +kernel) (by decide +kernel)
  (by first | exact .inl (by decide +kernel) | exact .inr (by decide +kernel)) (by rw [isSubtype_type]; kernel_rfl)
theorem type_bjoin : typeOf (.builtin "bytes.join") = pure (.type "method_descriptor"):=by show builtinType _ = _; refine builtinType_eq_fast ▸ ?_; kernel_rfl
theorem entry_bjoin : entryFor table "bytes.join" = some Builtin.«bytes.join»:=entryFor_of_tree (by kernel_rfl)
theorem args_bjoin (a b : Value) : argsOk "bytes.join" ⟨[a,b],[]⟩:=by
 unfold argsOk; refine (signature?_of (id:="bytes.join") (n:=['n','i','o','j']) (o:=['s','e','t','y','b']) (by kernel_rfl) FB.owner_bytes) ▸ ?_; kernel_rfl
theorem joined_one (sep p : Array UInt8) : joined sep [p] = p:=by
 dsimp only [joined]
 simp
theorem range_loop {M : Model} {A : Around} {E : Value -> Shared -> Prop} {s : Shared} {β : Type} {Q : β -> Shared -> Prop} {n : Nat} {i : β} {f : Nat -> β -> Sem (ForInStep β)} {hp : 0 < 1} (h : wpAny M A (forIn (List.range' 0 n) i f) Q E s) : wpAny M A (forIn (⟨0,n,1,hp⟩ : Std.Legacy.Range) i f) Q E s:=by
 rw [Std.Legacy.Range.forIn_eq_forIn_range',show (⟨0,n,1,hp⟩ : Std.Legacy.Range).size = n from by simp [Std.Legacy.Range.size]]
 exact h
theorem bvals_size (ps : List (Array UInt8 × Tok)) : (bvals ps).toArray.size = ps.length:=by unfold bvals; simp only [List.size_toArray,List.length_map]
theorem bvals_at {ps : List (Array UInt8 × Tok)} {i : Nat} {p : Array UInt8 × Tok} (hp : ps[i]? = some p) : (bvals ps).toArray.getD i Value.none = .bytes p.1 p.2:=by
 obtain ⟨hlt,hpe⟩:=List.getElem?_eq_some_iff.mp hp
 unfold bvals
 simp [Array.getD,hlt,hpe]
theorem tame_any {taken : List (Value × Option Value)} (ht : Tame taken) : (taken.any λ x=>x.1.onHeap) = false:=by
 rw [List.any_eq_false]
 intro q hq
 rw [(ht q hq).1]
 exact Bool.false_ne_true
theorem short_join {l : List (Array UInt8)} {c : Nat} (hz : c * (l.length - 1) + (l.map Array.size).sum ≤ 1000000) : tooLong (Array.foldl (λ x1 x2=>x1 + x2.size) (c * (l.toArray.size - 1)) l.toArray) = false:=by
 rw [<- Array.foldl_toList]
 refine decide_eq_false ?_
 simp only [sum_fold,sizeLine_eq,List.size_toArray]
 exact Nat.not_lt.mpr (Nat.le_trans hz (by decide))
theorem bytes_join {prog : Program} {w : World} {A : Around} {E : Value -> Shared -> Prop} {s : Shared} {sep : Array UInt8} {t : Tok} {D : Addr} {o : Obj} {ps : List (Array UInt8 × Tok)} {n : Nat} {Q : Value -> Shared -> Prop}
  (ho : s.heap.get? D = some o) (hc : o.cls = .type "list") (hd : o.data = .seq (bvals ps).toArray n) (hz : sep.size * (ps.length - 1) + ((ps.map (·.1)).map Array.size).sum ≤ 1000000) (hz2 : (joined sep (ps.map (·.1))).size ≤ 1000000)
  (hQ : ∀ t' k,Q (.bytes (joined sep (ps.map (·.1))) t') { s with toks:=k }) : wpAny (model prog w) A (call (.builtin "bytes.join") [.bytes sep t,.ref D]) Q E s:=by
 have hT : s.TypeIs (.ref D) "list":=⟨o,ho,hc⟩
 refine wpAny_call_entry slot_bjoin (PySem.W.typeIs_bytes _ _ _) entry_bjoin ?_ (args_bjoin _ _)
 refine wpAny_bind (wpAny_of_eq (a:=(Value.bytes sep t,Value.ref D)) rfl (wpAny_ite_true rfl (wpAny_bind (wpAny_bind (wpAny_typeOf hT (wpAny_ite_true rfl (wpAny_pure (wpAny_bind (wpAny_seqItems ho hd (wpAny_ite_true rfl ?_))))))))))
 by_cases h1 : ps.length = 1
 ·obtain ⟨p,rfl⟩:=List.length_eq_one_iff.mp h1
  refine wpAny_bind (wpAny_typeOf (PySem.W.typeIs_bytes _ _ _) (wpAny_ite_true rfl (wpAny_bind (wpAny_rule (wpAny_pure ⟨_,rfl,?_⟩)))))
  exact (joined_one sep p.1 ▸ hQ p.2 s.toks : Q (.bytes p.1 p.2) s)
 ·rw [jm_ne (bvals ps) (by unfold bvals; rw [List.length_map]; exact h1)]
  refine wpAny_bind (range_loop ?_)
  rw [bvals_size]
  refine joinloop (ps:=ps) (λ i p parts taken Q' hp ht hq=>?_) ps 0 #[] [] rfl (λ q hq=>nomatch hq) λ tk htk=>?_
  ·refine wpAny_bind (wpAny_seqItems ho hd (wpAny_ite_false (by rw [tame_any ht]; rfl) ?_))
   rw [bvals_at hp,takeq]
   exact wpAny_bind (wpAny_holding (wpAny_pure (wpAny_bind (wpAny_seqItems ho hd (wpAny_ite_false (by rw [bvals_size,bne_self_eq_false]; rfl) (wpAny_pure hq))))))
  ·rw [Array.empty_append]
   refine wpAny_bind (wpAny_of_eq (a:=sep) rfl (wpAny_ite_false (by rw [short_join (by rw [List.length_map]; exact hz)]; rfl) ?_))
   refine wpAny_bind (m:=mkBytes (joined sep (ps.map λ x=>x.1).toArray.toList)) (wpAny_mkBytes ?_ (Nat.le_trans hz2 (by simp only [sizeLine_eq]; decide)))
   refine wpAny_bind (wpAny_holding (wpAny_point (wpAny_bind (join_go ?_ htk))))
   exact wpAny_pure ⟨_,rfl,hQ _ _⟩
end
noncomputable def octs (b : Array UInt8) : List Nat:=b.toList.map UInt8.toNat
noncomputable def tailA (sep : List Nat) : List (List Nat) -> List Nat
 | []=>[]
 | p :: r=>sep ++ (p ++ tailA sep r)
theorem joinA_tail (sep : List Nat) : ∀ (x : List Nat) (r : List (List Nat)),joinA sep (x :: r) = x ++ tailA sep r
 | x,[]=>by simp [joinA,tailA]
 | x,y :: r=>by
  show x ++ (sep ++ joinA sep (y :: r)) = _
  rw [joinA_tail sep y r]
  rfl
theorem joined_tail (sep : Array UInt8) : ∀ (r : List (Array UInt8)) (k : Nat) (acc : Array UInt8),0 < k ->
  octs ((r.zipIdx k).foldl (λ out (p : Array UInt8 × Nat)=>(if p.2 > 0 then out ++ sep else out) ++ p.1) acc) = octs acc ++ tailA (octs sep) (r.map octs):=by
 intro l_
 induction l_ with
 | nil=>
  intro _ acc _
  simp [tailA]
 | cons p r ih_=>
  intro k acc hk
  simp only [List.zipIdx_cons,List.foldl_cons,ih_ (k + 1) _ (Nat.succ_pos _)]
  simp only [hk,gt_iff_lt,if_true]
  simp [octs,tailA,List.append_assoc]
theorem joined_octs (sep : Array UInt8) : ∀ l : List (Array UInt8),octs (Builtin.Bytes.joined sep l) = joinA (octs sep) (l.map octs):=by
 intro z1_
 cases z1_ with
 | nil=>
  exact rfl
 | cons p r=>
  have:=joined_tail sep r (0 + 1) ((if 0 > 0 then #[] ++ sep else #[]) ++ p) (Nat.succ_pos _)
  refine this.trans ?_
  simp only [List.map_cons,joinA_tail]
  simp
theorem joinA_len (sep : List Nat) : ∀ xs : List (List Nat),(joinA sep xs).length ≤ sumL xs + xs.length * sep.length:=by
 intro l_
 induction l_ with
 | nil=>
  simp [joinA]
 | cons x z1_ ih_=>
  cases z1_ with
  | nil=>
   simp [joinA,sumL]
  | cons y r=>
   have:=ih_
   show (x ++ (sep ++ joinA sep (y :: r))).length ≤ x.length + sumL (y :: r) + (r.length + 1 + 1) * sep.length
   simp only [List.length_append,List.length_cons] at this ⊢
   lia
section
variable {prog : Program} {w : World} {cx : Cx} {K : Frag} {mg mb : Str -> Option Value} {g₀ : Heap}
variable {fc : Fc} {φ : Nm} {H : Hp} {A : Around} {env : Env} {g : Heap} {L : Addr} {m : Str -> Option Value} {R R₀ : List Addr} {s : Shared} {X : Nat -> Hp -> Prop}
set_option tactic.hygienic true in
theorem VRs.texts {vs : List V} {xs : List Value} (h : VRs R vs xs) : ∀ {ts : List (List Nat)},strsOf vs = some ts -> ∃ l : List (PySem.Str × Tok),xs = strValues l ∧ l.map (·.1) = ts.map mkS ∧ vs = ts.map .str:=by
 induction h with
 | nil=>intro ts e; obtain rfl:=Option.some.inj e; exact ⟨[],rfl,rfl,rfl⟩
 | cons hv _ ih=>
  intro ts e
  cases hv <;> try (exact nsm e; done)
  rename_i l tk
  refine yG λ G_ k_=>?_
  obtain ⟨r,hr,rfl⟩:=Option.map_eq_some_iff.mp e
  obtain ⟨l',h1,h2,h3⟩:=ih hr
  refine k_ ?_
  exact ⟨(mkS l,tk) :: l',by rw [h1]; rfl,by refine List.map_cons.trans ?_; rw [h2]; rfl,by rw [h3]; rfl⟩
set_option tactic.hygienic true in
theorem VRs.bytesV {vs : List V} {xs : List Value} (h : VRs R vs xs) : ∀ {ts : List (List Nat)},bytesOf vs = some ts -> ∃ l : List (Array UInt8 × Tok),xs = bvals l ∧ (l.map (·.1)).map octs = ts:=by
 induction h with
 | nil=>intro ts e; obtain rfl:=Option.some.inj e; exact ⟨[],rfl,rfl⟩
 | cons hv _ ih=>
  intro ts e
  cases hv <;> try (exact nsm e; done)
  rename_i b tk
  obtain ⟨r,hr,rfl⟩:=Option.map_eq_some_iff.mp e
  obtain ⟨l',h1,h2⟩:=ih hr
  exact ⟨(b,tk) :: l',by rw [h1]; rfl,by simp only [List.map_cons,List.map_cons,h2]; rfl⟩
theorem strs_rel : ∀ (ts : List (List Nat)) (l : List (PySem.Str × Tok)),l.map (·.1) = ts.map mkS -> VRs R (strsV ts) (strValues l):=by
 intro l_
 induction l_ with
 | nil=>
  intro z1_ h
  cases z1_ with
  | nil=>
   exact .nil
  | cons _ _=>
   cases h
 | cons t ts ih_=>
  intro z2_ h
  cases z2_ with
  | nil=>
   cases h
  | cons p l=>
   obtain ⟨x,tk⟩:=p
   simp only [List.map_cons,List.map_cons,List.cons.injEq] at h
   obtain ⟨h1,h2⟩:=h
   subst h1
   exact .cons (.str t tk) (ih_ l h2)
theorem bsum : ∀ (l : List (Array UInt8)),(l.map Array.size).sum = sumL (l.map octs):=by
 intro l_
 induction l_ with
 | nil=>
  exact rfl
 | cons b r ih_=>
  simp only [List.map_cons,List.sum_cons,ih_,List.map_cons]
  congr 1
  simp [octs]
noncomputable def idOf : Rk -> String
 | .lappend=>"list.append"
 | .lindex=>"list.index"
 | .dget=>"dict.get"
 | .ssplit=>"str.split"
 | .slower=>"str.lower"
 | .sindex=>"str.index"
 | .sjoin=>"str.join"
 | .bjoin=>"bytes.join"
 | .exc=>""
 | .inst _=>""
set_option backward.match.sparseCases false in
noncomputable def plainRk : Rk -> Bool
 | .exc=>false
 | .inst _=>false
 | _=>true
theorem findL_at {x : List Nat} : ∀ {xs : List (List Nat)} {k i : Nat},findL x xs k = some i -> ∃ j,i = k + j ∧ xs[j]? = some x ∧ ∀ m,m < j -> ∀ y,xs[m]? = some y -> y ≠ x:=by
 intro l_
 induction l_ with
 | nil=>
  intro _ _ h
  exact nsm h
 | cons l r ih_=>
  intro k i h
  dsimp only [findL] at h
  split at h
  ·rename_i q
   refine yG λ G_ k_=>?_
   cases h
   refine k_ ?_
   exact ⟨0,rfl,by refine (leq_iff.mp q) ▸ ?_; rfl,λ m hm=>absurd hm (Nat.not_lt_zero m)⟩
  ·rename_i q
   obtain ⟨j,rfl,h1,h2⟩:=ih_ h
   refine ⟨j + 1,by simp +arith,h1,λ m hm y hy=>?_⟩
   cases m with
   | zero=>
    cases hy
    intro e
    replace q:=(leq_iff.mpr e) ▸ q
    cases q
   | succ m=>exact h2 m (by exact Nat.lt_of_succ_lt_succ ‹_›) y hy
theorem mkS_inj {a b : List Nat} (h : mkS a = mkS b) : a = b:=by
 unfold mkS at h
 injection h with h
 injection h
theorem isStrOf_mk {a b : PySem.Str} {tk : Tok} : PyProof.Rows.isStrOf a (Value.str b tk) = true ↔ b = a:=by
 dsimp only [PyProof.Rows.isStrOf]
 simp
theorem strsAre_vals : ∀ (l : List (PySem.Str × Tok)),StrsAre (strValues l) (l.map (·.1)):=by
 intro l_
 induction l_ with
 | nil=>
  exact .nil
 | cons p r ih_=>
  exact .cons _ _ (ih_)
section
variable {v : V} {x : Value} {args : List V} {xs : List Value} {k : V -> Hp -> Prop} (rv : VR R v x) (ra : VRs R args xs) (I : Inv prog w g₀ g L m R H s.heap)
include rv ra I
theorem meth_append (h : appE False v args H k) : Ok prog w g₀ A g L m VR (call (.builtin (idOf .lappend)) (x :: xs)) R s k X:=by
 cases v with
 | ref n=>
  apply rv.eRef; intro a hn
  refine hL.ok h λ vs hH h=>?_
  cases ra with
  | nil=>exact h.elim
  | cons ry ra=>cases ra with
   | nil=>
    refine bleE h λ hb h Qc Ec hQ _=>?_
    refine yG λ G_ k_=>?_
    obtain ⟨ob,hob,zs,c,hc,hdn,hsl,hd,hv⟩:=I.at hH rfl hn
    refine k_ ?_
    rw [hv.length] at hb
    exact append_any hob hc hdn hsl hd (by omega) λ h' n' ho' hs'=>hQ _ _ R _ _ h (Ext.refl R) (I.turn hH rfl hn (λ b z hb hz=>(hs'.2 b hb).trans hz) λ _=>⟨_,ho',_,n',rfl,rfl,rfl,rfl,hv.append (.cons ry .nil)⟩) .none Same.mk'
   | cons _ _=>exact h.elim
 | _=>exact h.elim
theorem meth_index (h : optK False (methM .lindex v args H) λ q=>k q.1 q.2) : Ok prog w g₀ A g L m VR (call (.builtin (idOf .lindex)) (x :: xs)) R s k X:=by
 apply yR.ok h rv; intro n a hn h
 refine hL.ok h λ vs hH h=>?_
 apply yC.vs h ra; intro b r y ys ry ra h; apply yE.vs h ra; intro h; clear ra; apply yStr.ok h ry; intro t tk h; clear ry
 refine bindK h λ ts hts h=>yB.ble h λ hb h=>mpK h λ j hf h Qc Ec hQ _=>?_
 refine yG λ G_ k_=>?_
 obtain ⟨ob,hob,ys,c,hc,hdn,hsl,hd,hv⟩:=I.at hH rfl hn
 rw [hv.length] at hb
 obtain ⟨l,rfl,hl,hvs⟩:=hv.texts hts
 obtain ⟨j,rfl,h1,h2⟩:=findL_at hf
 rw [Nat.zero_add] at h
 obtain ⟨oc,odi,oda,osl⟩:=ob
 dsimp only at hc hdn hsl hd
 subst hc hdn hsl hd
 refine k_ ?_
 have hjl : j < ts.length:=(List.getElem?_eq_some_iff.mp h1).1
 have hts' : ts.length = (strValues l).length:=by
  have:=congrArg List.length hl
  simp only [List.length_map,List.length_map] at this
  unfold strValues
  simp only [List.length_map,this]
 have at_ : ∀ (m : Nat) (y : List Nat),ts[m]? = some y -> ∃ tk,(strValues l)[m]? = some (Value.str (mkS y) tk):=λ m y hy=>by
  have e1 : (l.map (·.1))[m]? = some (mkS y):=by simp only [hl,List.getElem?_map,hy]; rfl
  rw [List.getElem?_map] at e1
  obtain ⟨p,hp,hp2⟩:=Option.map_eq_some_iff.mp e1
  refine ⟨p.2,?_⟩
  unfold strValues
  simp only [List.getElem?_map,hp]
  exact hp2 ▸ rfl
 refine call_meets F.slot_list_index ⟨_,hob,rfl⟩ F.entry_list_index (F.args_list_index_2 _ _)
  (PySem.SeqAt.list_indexAt a (strValues l).toArray c none #[] (.str (mkS t) tk) (PyProof.Rows.isStrOf (mkS t)) j (by simp only [List.size_toArray,<- hts']; exact hjl) (by lia) ?_ ?_)
  ⟨hob,λ y hy=>(eq_isStrOf (mkS t) tk (strsAre_vals l) y (Array.mem_def.mp hy)).at _ _,hQ.at I h (.int _ _) _⟩
 ·refine yG λ G_ k_=>?_
  obtain ⟨tk',e⟩:=at_ j t h1
  obtain ⟨e1,e2⟩:=List.getElem?_eq_some_iff.mp e
  refine k_ ?_
  simp only [List.getElem_toArray,e2]
  exact isStrOf_mk.mpr rfl
 ·intro m hm hmj
  have hml : m < ts.length:=Nat.lt_trans hmj hjl
  obtain ⟨tk',e⟩:=at_ m ts[m] (List.getElem?_eq_getElem hml)
  obtain ⟨e1,e2⟩:=List.getElem?_eq_some_iff.mp e
  simp only [List.getElem_toArray,e2]
  cases q : PyProof.Rows.isStrOf (mkS t) (Value.str (mkS ts[m]) tk') with
  | false=>rfl
  | true=>exact absurd (mkS_inj (isStrOf_mk.mp q)) (h2 m hmj _ (List.getElem?_eq_getElem hml))
theorem meth_dget (B : Base K mg mb g₀) (h : optK False (methM .dget v args H) λ q=>k q.1 q.2) : Ok prog w g₀ A g L m VR (call (.builtin (idOf .dget)) (x :: xs)) R s k X:=by
 apply yR.ok h rv; intro n a hn h
 refine hD.ok h λ es hH h=>?_
 apply yC.vs h ra; intro b r y ys ry ra h
 refine bindK h λ q hq h=>?_
 obtain ⟨ob,hob,kvs,hd,hr⟩:=I.at hH rfl hn
 have hD:=dictOf_heap hob hd
 have hs:=I.notSys B hH rfl hn
 have hkey:=keyOf_is (prog:=prog) (w:=w) hq ry
 have val : ∀ {d : V} {z : Value} {Qc : Value -> Shared -> Prop} {t : Nat},EndV prog w g₀ g L m VR R s k Qc -> k ((dfind q es).getD d) H -> VR R d z -> Qc ((valueAt kvs q).getD z) { s with toks:=t }:=by
  intro d z Qc t hQ h rz
  rcases hr.find q with ⟨e1,e2⟩ | ⟨v',x',e1,e2,e3⟩
  ·refine e2 ▸ ?_; rw [e1] at h; exact hQ.at I h rz _
  ·refine e2 ▸ ?_; rw [e1] at h; exact hQ.at I h e3 _
 intro Qc Ec hQ _
 cases ra with
 | nil=>exact call_meetsIn F.slot_dict_get hD.typeIs F.entry_dict_get (F.args_dict_get_2 _ _) (meets_dict_get (kvKind prog w) a hkey hs) ⟨_,hD.mapOf,val hQ h .none⟩
 | cons rz ra=>
  apply yE.vs h ra; intro h
  exact call_meetsIn F.slot_dict_get hD.typeIs F.entry_dict_get (F.args_dict_get_3 _ _ _) (meets_dict_get_default (kvKind prog w) a hkey hs _) ⟨_,hD.mapOf,val hQ h rz⟩
theorem meth_split (h : optK False (methM .ssplit v args H) λ q=>k q.1 q.2) : Ok prog w g₀ A g L m VR (call (.builtin (idOf .ssplit)) (x :: xs)) R s k X:=by
 apply yStr.ok h rv; intro l tk h
 cases ra with
 | nil=>
  refine yB.ok h λ hb h Qc Ec hQ _=>?_
  have hz : l.length ≤ 1000000:=by unfold okWords at hb; simp only [Bool.and_eq_true] at hb; exact Nat.le_of_ble_eq_true hb.1
  refine KSpl.split0 I.fr I.news (λ D l' h' k' hw ha F' N' lt=>?_) (by simp only [mk_len,sizeLine_eq]; omega)
  have hw : l'.map (·.1) = Txt.words (mkS l):=hw
  simp only [words_ok hb] at hw
  exact hQ _ _ _ _ _ h (Ext.push R _) (I.makeN F' N' (freshN N' lt) ⟨strValues l',0,rfl,rfl,rfl,rfl,strs_rel _ _ hw⟩) I.newRef Same.mk'
 | cons ry ra=>
  apply yE.vs h ra; intro h; apply yStr.ok h ry; intro d tk2 h; apply yC.ok h; intro c d h; apply yE.ok h; intro h
  refine yB.ok h λ hb h Qc Ec hQ _=>?_
  simp only [Bool.and_eq_true,Bool.not_eq_true'] at hb
  have hz:=Nat.le_of_ble_eq_true hb.1
  refine KSpl.split1 I.fr I.news rfl (λ D l' h' k' hw ha F' N' lt=>?_) (by simp only [mk_len,sizeLine_eq]; omega)
  have hw : l'.map (·.1) = [mkS l]:=hw.trans (split_no hb.2)
  exact hQ _ _ _ _ _ h (Ext.push R _) (I.makeN F' N' (freshN N' lt) ⟨strValues l',0,rfl,rfl,rfl,rfl,strs_rel [l] _ hw⟩) I.newRef Same.mk'
theorem meth_lower (h : optK False (methM .slower v args H) λ q=>k q.1 q.2) : Ok prog w g₀ A g L m VR (call (.builtin (idOf .slower)) (x :: xs)) R s k X:=by
 apply yStr.ok h rv; intro l tk h; apply yE.vs h ra; intro h
 refine yB.ok h λ hb h Qc Ec hQ _=>?_
 simp only [Bool.and_eq_true] at hb
 have hz:=Nat.le_of_ble_eq_true hb.1
 have e : Txt.lower ⟨⟨l⟩⟩ = mkS (l.map lowA):=lower_ok hb.2
 refine SC.lower ?_ ?_ <;> rw [e]
 ·unfold Builtin.Str.tooLong
  rw [decide_eq_false_iff_not]
  show ¬ (List.length (l.map lowA) > sizeLine)
  simp only [List.length_map,sizeLine_eq]; lia
 ·exact hQ.at I h (.str _ _) _
theorem meth_sindex (h : optK False (methM .sindex v args H) λ q=>k q.1 q.2) : Ok prog w g₀ A g L m VR (call (.builtin (idOf .sindex)) (x :: xs)) R s k X:=by
 apply yStr.ok h rv; intro l tk h
 apply yC.vs h ra; intro b r y ys ry ra h; apply yE.vs h ra; intro h; apply yStr.ok h ry; intro d tk2 h
 cases hi : Builtin.Str.occurrences ⟨⟨l⟩⟩ ⟨⟨d⟩⟩ 0 l.length 1 with
 | nil=>rw [hi] at h; exact h.elim
 | cons i r=>rw [hi] at h; exact λ Qc Ec hQ _=>SC.index hi (hQ.at I h (.int _ _) _)
theorem meth_sjoin (h : optK False (methM .sjoin v args H) λ q=>k q.1 q.2) : Ok prog w g₀ A g L m VR (call (.builtin (idOf .sjoin)) (x :: xs)) R s k X:=by
 apply yStr.ok h rv; intro l tk h
 apply yC.vs h ra; intro b r y ys ry ra h; apply yE.vs h ra; intro h; apply yR.ok h ry; intro n a hn h
 refine hL.ok h λ vs hH h=>bindK h λ ts hts h=>yB.ble h λ hb h Qc Ec hQ _=>?_
 refine yG λ G_ k_=>?_
 obtain ⟨ob,hob,ys,c,hc,_,_,hd,hv⟩:=I.at hH rfl hn
 obtain ⟨l',rfl,hl,_⟩:=hv.texts hts
 refine k_ ?_
 refine SC.join (D:=a) (l:=l') ⟨_,hob,hc,_,hd⟩ hl (joinOk_of ?_) λ t' k'=>?_
 ·simp only [sumL_eq,List.length_map,mk_len]; lia
 ·refine (show Txt.join ⟨⟨l⟩⟩ (ts.map mkS) = mkS (joinA l ts) from join_ok l ts) ▸ ?_
  exact hQ.at I h (.str _ _) _
theorem meth_bjoin (h : optK False (methM .bjoin v args H) λ q=>k q.1 q.2) : Ok prog w g₀ A g L m VR (call (.builtin (idOf .bjoin)) (x :: xs)) R s k X:=by
 apply yByt.ok h rv; intro b tk h
 apply yC.vs h ra; intro b' r y ys ry ra h; apply yE.vs h ra; intro h; apply yR.ok h ry; intro n a hn h
 refine hL.ok h λ vs hH h=>bindK h λ ts hts h=>yB.ble h λ hb h Qc Ec hQ _=>?_
 refine yG λ G_ k_=>?_
 obtain ⟨ob,hob,ys,c,hc,_,_,hd,hv⟩:=I.at hH rfl hn
 obtain ⟨l',rfl,hl⟩:=hv.bytesV hts
 refine k_ ?_
 clear rv ra ry hv hH hts
 have hj:=joined_octs b (l'.map (·.1))
 simp only [hl] at hj
 have hlen : ts.length = l'.length:=by simp only [<- hl,List.length_map,List.length_map]
 have hjl:=joinA_len (octs b) ts
 rw [show (octs b).length = b.size from bytesMap b] at hjl
 rw [bytesMap] at hb
 refine bytes_join hob hc hd ?_ ?_ λ t' k'=>?_
 ·simp only [bsum,hl]
  have : b.size * (l'.length - 1) ≤ ts.length * b.size:=by rw [Nat.mul_comm,hlen]; exact Nat.mul_le_mul_right _ (Nat.sub_le _ _)
  lia
 ·have : (Builtin.Bytes.joined b (l'.map (·.1))).size = (joinA (octs b) ts).length:=by refine hj ▸ ?_; exact (bytesMap _).symm
  refine this ▸ ?_; exact Nat.le_trans ‹_› ‹_›
 ·have:=VR.bytes (R:=R) (Builtin.Bytes.joined b (l'.map (·.1))) t'
  rw [show (Builtin.Bytes.joined b (l'.map (·.1))).toList.map UInt8.toNat = joinA (b.toList.map UInt8.toNat) ts from hj] at this
  exact hQ.at I h this _
end
theorem ok_methM (B : Base K mg mb g₀) {v : V} {x : Value} {args : List V} {xs : List Value} {rk : Rk} {k : V -> Hp -> Prop} (h : methC False rk v args H k)
  (rv : VR R v x) (ra : VRs R args xs) (I : Inv prog w g₀ g L m R H s.heap) : Ok prog w g₀ A g L m VR (call (.builtin (idOf rk)) (x :: xs)) R s k X:=by
 cases rk with
 | lappend=>exact meth_append rv ra I h
 | lindex=>exact meth_index rv ra I h
 | dget=>exact meth_dget rv ra I B h
 | ssplit=>exact meth_split rv ra I h
 | slower=>exact meth_lower rv ra I h
 | sindex=>exact meth_sindex rv ra I h
 | sjoin=>exact meth_sjoin rv ra I h
 | bjoin=>exact meth_bjoin rv ra I h
 | _=>exact h.elim
end
noncomputable def DictOk (prog : Program) (w : World) (g₀ : Heap) (cx : Cx) : Prop:=∀ {H : Hp} {A : Around} {g : Heap} {L : Addr} {m : Str -> Option Value} {R : List Addr} {s : Shared} {X : Nat -> Hp -> Prop} {args : List V} {xs : List Value} {k : V -> Hp -> Prop},
 A.handled = none -> builtE False cx (.type "dict") args H k -> VRs R args xs -> Inv prog w g₀ g L m R H s.heap -> Ok prog w g₀ A g L m VR (call (.type "dict") xs) R s k X
section
variable {prog : Program} {w : World} {cx : Cx} {K : Frag} {mg mb : Str -> Option Value} {g₀ : Heap}
variable {fc : Fc} {φ : Nm} {H : Hp} {A : Around} {env : Env} {g : Heap} {L : Addr} {m : Str -> Option Value} {R R₀ : List Addr} {s : Shared} {ih : Ev Prop} {X : Nat -> Hp -> Prop}
set_option tactic.hygienic true in
theorem snd_cr (B : Base K mg mb g₀) (CX : CxOk cx prog w K g₀ mg mb) (SS : SndS prog w g₀ ih) (SC : SndC prog w g₀ ih) {a : Addr} {args : List V} {xs : List Value} {k : V -> Hp -> Prop}
  (h : cStep False cx ih fc.d fc.h (.top (.ref a)) args H k X) (Z : Arnd g₀ A fc g L) (hdl : HdOk A fc.h R) (I : Inv prog w g₀ g L m R H s.heap) (rv : VRs R args xs)
  {Qc : Value -> Shared -> Prop} {Ec : Value -> Shared -> Prop} (hQ : EndV prog w g₀ g L m VR R s k Qc) (hE : EndX prog w g₀ g L m R s X Ec) :
  codeAny (model prog w) A (.call (.ref a) ⟨xs,[]⟩) (λ r s'=>match r with | .ok (.ret v)=>Qc v s' | .ok _=>False | .error e=>Ec e s') s:=by
 obtain ⟨sc,d,hd⟩:=fc
 cases d with
 | zero=>exact (show False from h).elim
 | succ d=>
  unfold cStep at h
  dsimp only at h
  cases hf : cx.fn a with
  | some fi=>
   rw [hf] at h
   exact ok_def (fc:=⟨sc,d + 1,hd⟩) B SS (CX.fn a fi hf) h Z hdl I rv hQ hE
  | none=>
   rw [hf] at h
   dsimp only at h
   cases hc : cx.cls a with
   | some init=>
    rw [hc] at h
    exact ok_class (fc:=⟨sc,d + 1,hd⟩) B CX SC hc h Z hdl I rv hQ hE
   | none=>
    rw [hc] at h
    dsimp only at h
    split at h
    ·rename_i init hx hz
     have hz:=Nat.le_of_ble_eq_true hz
     exact ok_excCls (fc:=⟨sc,d + 1,hd⟩) B CX SC hx (by simp only [<- rv.length,sizeLine_eq]; omega) h Z hdl I rv hQ hE
    ·exact h.elim
theorem snd_cc (B : Base K mg mb g₀) (CX : CxOk cx prog w K g₀ mg mb) (SS : SndS prog w g₀ ih) (SC : SndC prog w g₀ ih) (hD : DictOk prog w g₀ cx) {f : V} {x : Value} {args : List V} {xs : List Value} {k : V -> Hp -> Prop}
  (h : cStep False cx ih fc.d fc.h f args H k X) (Z : Arnd g₀ A fc g L) (hdl : HdOk A fc.h R) (I : Inv prog w g₀ g L m R H s.heap) (rf : VR R f x) (rv : VRs R args xs) :
  Ok prog w g₀ A g L m VR (call x xs) R s k X:=by
 cases rf with
 | top=>
  cases x with
  | ref a=>exact λ Qc Ec hQ hE=>wpAny_call (snd_cr B CX SS SC h Z hdl I rv hQ hE)
  | builtin id=>
   unfold cStep at h
   dsimp only at h
   split at h
   ·rename_i hh
    have hn : A.handled = none:=by rw [hh] at hdl; exact hdl
    exact ok_builtE B CX hn (λ e=>by cases e) h rv I
   ·exact h.elim
  | type T=>
   unfold cStep at h
   dsimp only at h
   split at h
   ·rename_i hh
    have hn : A.handled = none:=by rw [hh] at hdl; exact hdl
    by_cases hT : T = "dict"
    ·subst hT
     exact hD hn h rv I
    ·exact ok_builtE B CX hn (λ e=>hT (Value.type.inj e)) h rv I
   ·exact h.elim
  | _=>
   unfold cStep at h
   dsimp only at h
   split at h
   ·exact (show False from h).elim
   ·exact h.elim
 | _=>exact (show False from h).elim
theorem star_false {x : Expr} {r : List Expr} (h : starE x = false) : starEach (x :: r) env = (false,eval x env) :: starEach r env:=by
 cases x <;> first | rfl | cases h
theorem noStar {pos : Pos} {xs : List Expr} (h : xs.all (λ x=>!starE x) = true) : (backTo pos (starEach xs env)).any (·.1) = false:=by
 induction xs with
 | nil=>rfl
 | cons x r ih=>
  simp only [List.all_cons,Bool.and_eq_true,Bool.not_eq_true'] at h
  exact (star_false h.1) ▸ ih h.2
theorem ok_args {e : Expr -> Hp -> (V -> Hp -> Prop) -> Prop} {pos : Pos} {f : Value} {xs : List Expr} (S : SE prog w g₀ A env g L m R₀ X e) {k : List V -> Hp -> Prop} (ha : xs.all (λ x=>!starE x) = true) (h : evs False e xs H k) (eR : Ext R₀ R) (I : Inv prog w g₀ g L m R H s.heap)
  {Q : Args -> Shared -> Prop} {Ec : Value -> Shared -> Prop} (hQ : EndV prog w g₀ g L m VRs R s k λ vs s'=>Q ⟨vs,[]⟩ s') (hE : EndX prog w g₀ g L m R s X Ec) :
  wpAny (model prog w) A (evalArgs f true (backTo pos (starEach xs env)) []) Q Ec s:=by
 cases xs with
 | nil=>exact PySem.evalArgs_none (hQ.here I h .nil)
 | cons x r=>
  have h2:=ok_evs (pos:=pos) S h eR I _ _ hQ hE
  simp only [List.all_cons,Bool.and_eq_true,Bool.not_eq_true'] at ha
  rw [star_false ha.1] at h2 ⊢
  exact evalArgs_plain h2
theorem ok_callWith {e : Expr -> Hp -> (V -> Hp -> Prop) -> Prop} {pos : Pos} {f : Value} {first : List Value} {xs : List Expr} (B : Base K mg mb g₀) (S : SE prog w g₀ A env g L m R₀ X e) {k : List V -> Hp -> Prop} {l : V -> Hp -> Prop}
  (hk : (∃ a,f = .ref a ∧ keepIn K (.ref a) = true) ∨ ∀ a,f ≠ .ref a)
  (ha : xs.all (λ x=>!starE x) = true) (h : evs False e xs H k) (eR : Ext R₀ R) (I : Inv prog w g₀ g L m R H s.heap)
  (hc : ∀ vs H' R' as s',k vs H' -> Ext R R' -> Inv prog w g₀ g L m R' H' s'.heap -> VRs R' vs as -> Same s s' -> Ok prog w g₀ A g L m VR (call f (first ++ as)) R' s' l X) :
  Ok prog w g₀ A g L m VR (callWith pos f first (backTo pos (starEach xs env)) []) R s l X:=by
 intro Qc Ec hQ hE
 refine callWith_of (P:=K.In) (by rw [noStar ha]; rfl) (λ h X'=>?_) (ok_args S ha h eR I (λ vs H' R' as s' hv e' I' rv sm=>⟨B.k.keeps I'.S,hc vs H' R' as s' hv e' I' rv sm _ _ (hQ.on e' sm) (hE.on e' sm)⟩) hE)
 rcases hk with ⟨a,rfl,hk⟩ | hk
 ·exact keeps_K hk h X'
 ·refine ⟨.machine,.inr (.inl rfl),Looks.of_pure ?_⟩
  cases f <;> first | rfl | exact absurd rfl (hk _)
theorem look_none {fs : List (Str × V)} {es : List DictEntry} {P : Params} {name : Str} (h : FR P R fs es) (hn : look name fs = none) : getL name es = some none:=by
 rcases h.get name with ⟨v,val,h1,_⟩ | ⟨_,h2⟩
 ·replace h1:=hn.symm.trans h1; exact nsm h1
 ·exact h2
theorem eval_meth {o : Expr} {name : Str} {apos pos : Pos} {args : List Expr} (hb : baseE o = true) (hp : (apos.endLine == pos.line) = true) (hl : args.length ≤ 20) (ha : args.all (λ x=>!starE x) = true) :
  eval (.Call (.Attribute o name apos) args [] pos) env = (do
   let ov <- eval o env
   standAt apos.atName
   let (f,first) <- holding [ov] (getMethod ov name (do return (<- importBound o env).getD true))
   callWith pos f first (backTo pos (starEach args env)) []):=by
 have h1 : eval (.Call (.Attribute o name apos) args [] pos) env = (do
   let ov <- attributeBase o name env (eval o env)
   standAt apos.atName
   methodCall o name apos pos env ov (args.length + 0) (backTo pos (starEach args env)) []):=rfl
 have hform : methodCallForm (args.length + 0) (backTo pos (starEach args env)) [] = true:=by
  unfold methodCallForm
  have:=noStar (env:=env) (pos:=pos) ha
  rw [List.any_eq_false] at this
  have h2 : (backTo pos (starEach args env)).all (λ x=>!x.1) = true:=by
   rw [List.all_eq_true]
   intro x hx
   have:=this x hx
   simpa using this
  rw [h2]
  simp
  omega
 simp only [h1,base_plain hb]
 delta methodCall methodCallPos calleeOf
 simp only [hform]
 simp only [Bool.not_true,Bool.false_or,hp,if_true,pure_bind]
theorem exc_meth : typeOf (.type "Exception") = (pure (.type "type") : Sem Value):=by first | rfl | kernel_rfl
end
section
variable {prog : Program} {w : World} {cx : Cx} {K : Frag} {mg mb : Str -> Option Value} {g₀ : Heap}
variable {fc : Fc} {φ : Nm} {H : Hp} {A : Around} {env : Env} {g : Heap} {L : Addr} {m : Str -> Option Value} {R R₀ : List Addr} {s : Shared} {ih : Ev Prop} {X : Nat -> Hp -> Prop}
theorem exc_type : typeOf (.type "Exception") = (pure (.type "type") : Sem Value):=exc_meth
theorem exc_stub : Manifest.isStub "Exception" = false:=by decide +kernel
theorem exc_find (K : Frag) : findCls K (.type "Exception") (.type "type") "__init__" = some (.val (.builtin "Exception.__init__")):=by kernel_rfl
theorem keep_fn (CX : CxOk cx prog w K g₀ mg mb) {v : V} {x : Value} (h : callM cx v = true) (rv : VR R v x) : (∃ a,x = .ref a ∧ keepIn K (.ref a) = true) ∨ ∀ a,x ≠ .ref a:=by
 cases rv with
 | top=>
  cases x with
  | ref a=>
   refine .inl ⟨a,rfl,?_⟩
   unfold callM at h
   rw [Bool.or_eq_true,Bool.or_eq_true] at h
   rcases h with h | h | h
   ·obtain ⟨fi,hf⟩:=Option.isSome_iff_exists.mp h
    obtain ⟨⟨oc,od,osl,fd,f1,_⟩,_⟩:=CX.fn a fi hf
    unfold keepIn
    dsimp only
    rw [f1]
   ·obtain ⟨f,hf⟩:=Option.isSome_iff_exists.mp h
    exact (CX.cls a f hf).2.1
   ·obtain ⟨f,hf⟩:=Option.isSome_iff_exists.mp h
    exact (CX.exc a f hf).2.1
  | _=>exact .inr λ a e=>by cases e
 | _=>exact nft h
theorem csr_none {name : Str} {D : List Nat} {q : Nat} (h : look name (csrF [] q) = none) : look name (csrF D q) = none:=by
 unfold csrF at h ⊢
 unfold look at h ⊢
 cases q1 : seq name ⟨⟨[100,97,116,97]⟩⟩ with
 | true=>replace h:=q1 ▸ h; cases h
 | false=>
  replace h:=q1 ▸ h
  dsimp only [look] at h ⊢
  cases q2 : seq name ⟨⟨[97,116]⟩⟩ with
  | true=>replace h:=q2 ▸ h; cases h
  | false=>
   replace h:=q2 ▸ h
   dsimp only [look] at h ⊢
   cases q3 : seq name ⟨⟨[101,110,100]⟩⟩ with
   | true=>replace h:=q3 ▸ h; cases h
   | false=>rfl
noncomputable def RecvA (cx : Cx) (prog : Program) (w : World) (A : Around) (R : List Addr) (s : Shared) (name : Str) (x : Value) (rk : Rk) : Prop:=match rk with
 | .inst f=>∃ C d fs,cx.meth C name = some f ∧ FldA w.params R s.heap C d fs x ∧ look name fs = none
 | .exc=>x = .type "Exception" ∧ name = ⟨#[95,95,105,110,105,116,95,95]⟩
 | rk=>∀ (E : Value -> Shared -> Prop) (Q : Value × List Value -> Shared -> Prop) (pl : Sem Bool),Q (.builtin (idOf rk),[x]) s -> wpAny (model prog w) A (getMethod x name pl) Q E s
noncomputable def pickP {β : Type} (P : Str -> β -> Prop) : List (Str × β) -> Prop
 | []=>True
 | p :: r=>P p.1 p.2 ∧ pickP P r
theorem pick_ok {β : Type} {P : Str -> β -> Prop} {n : Str} {b : β} : ∀ {l : List (Str × β)},optK False (pick l n) (λ r=>r = b) -> pickP P l -> P n b:=by
 intro l_
 induction l_ with
 | nil=>
  intro h _
  exact h.elim
 | cons p r ih_=>
  intro h hp
  have h : optK False (match seq n p.1 with
   | true=>some p.2
   | false=>pick r n) (λ r=>r = b):=h
  cases q : seq n p.1 with
  | true=>rw [q] at h; simp only [seq_iff.mp q,<- (show p.2 = b from h)]; exact hp.1
  | false=>rw [q] at h; exact ih_ h hp.2
theorem recv_ok {v : V} {name : Str} {rk : Rk} {x : Value} (h : recvM cx v name H = some rk) (rv : VR R v x) (I : Inv prog w g₀ g L m R H s.heap) : RecvA cx prog w A R s name x rk:=by
 have h : optK False (recvM cx v name H) (λ r=>r = rk):=optK_of h rfl
 cases rv with
 | @ref n a hn=>
  refine yAt.ok (o:=H[n]?) h (λ o hH h=>?_) λ h=>h.elim
  cases o with
  | list vs=>
   obtain ⟨ob,hob,xs,c,hc,hd,_,_,_⟩:=I.at hH rfl hn
   exact pick_ok (P:=λ n rk=>RecvA cx prog w A R s n (.ref a) rk) h ⟨λ _ _ _ hQ=>Calls.getMethod_list_append hob hc hd hQ,λ _ _ _ hQ=>getMethod_builtin ⟨_,hob,hc⟩ F.plainAttrs_list F.slot_list_index F.type_list_index (λ b e=>Value.ref.inj e ▸ ⟨_,hob,hd⟩) hQ,trivial⟩
  | dict _=>
   obtain ⟨ob,hob,kvs,hd,_⟩:=I.at hH rfl hn
   have hD:=dictOf_heap hob hd
   exact pick_ok (P:=λ n rk=>RecvA cx prog w A R s n (.ref a) rk) h ⟨λ _ _ _ hQ=>getMethod_builtin hD.typeIs F.plainAttrs_dict F.slot_dict_get F.type_dict_get hD.mapOf.noDict hQ,trivial⟩
  | inst C d=>
   refine yAt.ok (o:=H[d]?) h (λ o hd h=>?_) λ h=>h.elim
   refine bindK h λ fs hf h=>yB.ok h λ hl h=>mpK h λ f hm h=>?_
   subst h
   have hl : look name fs = none:=Option.isNone_iff_eq_none.mp hl
   cases o with
   | flds l=>exact ⟨C,d,l,hm,fa_inst I hn hH hd,Option.some.inj hf ▸ hl⟩
   | cfl q its=>
    obtain ⟨D,hD⟩:=cfl_at I hn hH hd
    exact ⟨C,d,_,hm,hD,csr_none (Option.some.inj hf ▸ hl)⟩
   | _=>exact nsm hf
  | _=>exact h.elim
 | str l t=>exact pick_ok (P:=λ n rk=>RecvA cx prog w A R s n (.str _ _) rk) h ⟨λ _ _ _ hQ=>GM.split hQ,λ _ _ _ hQ=>GM.lower hQ,λ _ _ _ hQ=>GM.index hQ,λ _ _ _ hQ=>GM.join hQ,trivial⟩
 | bytes b t=>exact pick_ok (P:=λ n rk=>RecvA cx prog w A R s n (.bytes _ _) rk) h ⟨λ _ _ _ hQ=>getMethod_builtin (PySem.W.typeIs_bytes _ _ _) FB.plainAttrs_bytes slot_bjoin type_bjoin (λ a e=>nomatch e) hQ,trivial⟩
 | top=>
  cases x with
  | type T=>
   refine yB.ok h λ hT h=>?_
   rw [beq_iff_eq] at hT
   subst hT
   exact pick_ok (P:=λ n rk=>RecvA cx prog w A R s n (.type "Exception") rk) h ⟨⟨rfl,rfl⟩,trivial⟩
  | _=>exact h.elim
 | _=>exact h.elim
set_option tactic.hygienic true in
theorem ok_excInit (B : Base K mg mb g₀) (CX : CxOk cx prog w K g₀ mg mb) {vs : List V} {as : List Value} {k : V -> Hp -> Prop} (h : match excInit cx vs H with
  | true=>k .none H
  | false=>False) (rv : VRs R vs as) (I : Inv prog w g₀ g L m R H s.heap) : Ok prog w g₀ A g L m VR (call (.builtin "Exception.__init__") as) R s k X:=by
 split at h
 ·rename_i hx
  unfold excInit at hx
  split at hx
  ·rename_i n u
   split at hx
   ·rename_i C d hH
    refine yG λ G_ k_=>?_
    obtain ⟨x,what,rfl,r1,r2⟩:=rv.two
    cases r1
    rename_i a hn
    obtain ⟨ox,hox,hc,⟨vs,hd,t0,hv⟩,hdict⟩:=I.at hH rfl hn
    refine k_ ?_
    intro Qc Ec hQ _
    have hx':=CX.xcls C hx
    obtain ⟨hp,gg,dd,t,os⟩:=s
    refine init_exc (ox:=ox) (t0:=t0) (B.k.keeps I.S) hx' hox hc (by simp only [hd,hv]) λ h' t' ho' hk'=>?_
    have e : H.set n (.exc C d .new) = H:=by
     obtain ⟨hlt,he⟩:=List.getElem?_eq_some_iff.mp hH
     refine he ▸ ?_; exact List.set_getElem_self hlt
    have I':=I.turn (o:=.exc C d .new) hH rfl hn (λ c o hc ho=>hk' c o hc ho) (λ _=>⟨_,ho',hc,⟨_,rfl,t',rfl⟩,hdict⟩)
    simp only [e] at I'
    exact hQ .none H R .none _ h (Ext.refl R) I' .none ⟨rfl,rfl,rfl⟩
   ·exact nft hx
  ·exact nft hx
 ·exact h.elim
set_option tactic.hygienic true in
theorem ok_call (B : Base K mg mb g₀) (CX : CxOk cx prog w K g₀ mg mb) (S : Snd prog w g₀ ih) (SC : SndC prog w g₀ ih) {f : Expr} {args : List Expr} {ks : List Keyword} {pos : Pos} {k : V -> Hp -> Prop}
  (h : eStep False cx ih fc φ (.Call f args ks pos) H k X) (Z : Arnd g₀ A fc g L) (E : EnvOk A fc env φ L m R) (I : Inv prog w g₀ g L m R H s.heap) : Ok prog w g₀ A g L m VR (eval (.Call f args ks pos) env) R s k X:=by
 delta eStep at h
 dsimp only at h
 split at h
 ·rename_i ha
  cases f <;> try exact (show False from h).elim
  ·rename_i o name apos
   dsimp only at h
   split at h
   ·rename_i hb
    rw [Bool.and_eq_true,Bool.and_eq_true] at hb
    rw [eval_meth hb.1 hb.2.1 (Nat.le_of_ble_eq_true hb.2.2) ha]
    refine (S.e h Z E I).bind λ ov H1 R1 x s1 h1 e1 I1 rv sm1=>?_
    obtain ⟨rk,hrk,h1⟩:=optK_some h1
    have E1:=E.ext e1
    have SEx:=S.se Z E1 (X:=X)
    have hR:=recv_ok (A:=A) hrk rv I1
    have mid : (∀ (E : Value -> Shared -> Prop) (Q : Value × List Value -> Shared -> Prop) (pl : Sem Bool),Q (.builtin (idOf rk),[x]) s1 -> wpAny (model prog w) A (getMethod x name pl) Q E s1) -> (∀ vs H2,methE False cx ih fc.d fc.h rk ov vs H2 k X -> (match fc.h with | none=>methC False rk ov vs H2 k | some _=>False)) -> Ok prog w g₀ A g L m VR (do
      standAt apos.atName
      let (f,first) <- holding [x] (getMethod x name (do return (<- importBound o env).getD true))
      callWith pos f first (backTo pos (starEach args env)) []) R1 s1 k X:=by
     intro hm hred Qc Ec hQ hE
     refine wpAny_bind (wpAny_standAt (wpAny_bind (wpAny_holding (hm _ _ _ ?_))))
     refine ok_callWith (first:=[x]) B SEx (.inr λ a e=>by cases e) ha h1 (Ext.refl R1) I1 (λ vs H2 R2 as s2 h2 e2 I2 rvs sm2=>?_) Qc Ec hQ hE
     have h2:=hred vs H2 h2
     split at h2
     ·exact ok_methM B h2 (rv.ext e2) rvs I2
     ·exact h2.elim
    cases rk with
    | lappend=>exact mid hR λ _ _ q=>q
    | lindex=>exact mid hR λ _ _ q=>q
    | dget=>exact mid hR λ _ _ q=>q
    | ssplit=>exact mid hR λ _ _ q=>q
    | slower=>exact mid hR λ _ _ q=>q
    | sindex=>exact mid hR λ _ _ q=>q
    | sjoin=>exact mid hR λ _ _ q=>q
    | bjoin=>exact mid hR λ _ _ q=>q
    | exc=>
     rw [hR.1,hR.2]
     intro Qc Ec hQ hE
     refine wpAny_bind (wpAny_standAt (wpAny_bind (wpAny_holding (method_type (K:=K) I1.fr B.k exc_type exc_stub (exc_find K) rfl ?_))))
     refine ok_callWith (s:={ s1 with toks:=s1.toks + 1 }) (first:=[]) B SEx (.inr λ a e=>by cases e) ha h1 (Ext.refl R1) I1 (λ vs H2 R2 as s2 h2 e2 I2 rvs sm2=>?_) Qc Ec (hQ.on (Ext.refl _) Same.mk') (hE.on (Ext.refl _) Same.mk')
     exact ok_excInit B CX h2 rvs I2
    | inst f=>
     obtain ⟨C,d,fs,hm,⟨a,da,ox,es,nn,_,_,hfr,_,J⟩,hlk⟩:=hR
     obtain ⟨c1,c2,c3,c4⟩:=CX.meth C name f hm
     intro Qc Ec hQ hE
     refine wpAny_bind (wpAny_standAt (wpAny_bind (wpAny_holding (method_inst I1.fr B.k J c1 c2 c3 (look_none hfr hlk) ?_))))
     refine ok_callWith (first:=[.ref a]) B SEx (.inl ⟨f,rfl,c4⟩) ha h1 (Ext.refl R1) I1 (λ vs H2 R2 as s2 h2 e2 I2 rvs sm2=>?_) Qc Ec hQ hE
     exact SC.c h2 Z (E1.hdl.ext e2) I2 (.top _) (.cons (rv.ext e2) rvs)
   ·exact h.elim
  ·rename_i x p
   dsimp only at h
   have he : eval (.Call (.Name x p) args [] pos) env = (do callWith pos (<- eval (.Name x p) env) [] (backTo pos (starEach args env)) []):=rfl
   rw [he]
   refine (S.e h Z E I).bind λ fv H1 R1 fx s1 h1 e1 I1 rv sm1=>?_
   split at h1
   ·rename_i hc
    refine ok_callWith (first:=[]) B (S.se Z (E.ext e1)) (keep_fn CX hc rv) ha h1 (Ext.refl R1) I1 λ vs H2 R2 as s2 h2 e2 I2 rvs sm2=>?_
    exact SC.c h2 Z ((E.hdl.ext e1).ext e2) I2 (rv.ext e2) rvs
   ·exact h1.elim
 ·exact h.elim
end
structure SndA (prog : Program) (w : World) (g₀ : Heap) (ih : Ev Prop) : Prop where
 e : Snd prog w g₀ ih
 s : SndS prog w g₀ ih
 l : SndL prog w g₀ ih
 c : SndC prog w g₀ ih
section
variable {prog : Program} {w : World} {cx : Cx} {K : Frag} {mg mb : Str -> Option Value} {g₀ : Heap}
theorem nil_ok : SndA prog w g₀ (nil False) where
 e:=⟨λ h=>(show False from h).elim,λ h=>(show False from h).elim⟩
 s:=⟨λ h=>(show False from h).elim,λ h=>(show False from h).elim,λ h=>(show False from h).elim⟩
 l:=⟨λ h=>(show False from h).elim⟩
 c:=⟨λ h=>(show False from h).elim,λ h=>(show False from h).elim⟩
theorem step_ok (B : Base K mg mb g₀) (CX : CxOk cx prog w K g₀ mg mb) (hD : DictOk prog w g₀ cx) {ih : Ev Prop} (S : SndA prog w g₀ ih)
  (hS : ih = nil False ∨ ∃ ih',ih = step False cx ih' ∧ SndA prog w g₀ ih') : SndA prog w g₀ (step False cx ih) where
 e:=⟨λ h Z E I=>snd_e B CX S.e (λ h=>ok_call B CX S.e S.c h Z E I) (λ h=>ok_listcomp B CX S.e S.l h Z E I) h Z E I,λ h Z E I=>snd_t B CX S.e h Z E I⟩
 s:=⟨λ {fc φ st H k X A env g L m R s} h Z E I=>snd_s B CX S.e S.s (λ hsw h=>by
   rcases hS with rfl | ⟨ih',rfl,S'⟩
   ·exact (show False from h).elim
   ·exact ok_swap B CX S'.e S'.l hsw h Z.a E I) h Z E I,
  λ h Z E I=>whileTurn_ok B S.e S.s h Z E I,λ h hh Z E I ha=>forTurn_ok B CX S.e S.s h hh Z E I ha⟩
 l:=⟨λ h hh Z E I ha hD=>compTurn_ok B CX S.e S.l h hh Z E I ha hD⟩
 c:=⟨λ h Z hdl I rv _ _ hQ hE=>snd_cr B CX S.s S.c h Z hdl I rv hQ hE,λ h Z hdl I rf rv=>snd_cc B CX S.s S.c hD h Z hdl I rf rv⟩
theorem sound (B : Base K mg mb g₀) (CX : CxOk cx prog w K g₀ mg mb) (hD : DictOk prog w g₀ cx) : ∀ n,SndA prog w g₀ (R False cx n)
 | 0=>nil_ok
 | 1=>step_ok B CX hD nil_ok (.inl rfl)
 | n + 2=>step_ok B CX hD (sound B CX hD (n + 1)) (.inr ⟨R False cx n,rfl,sound B CX hD n⟩)
end
theorem keys_miss : typeLookup (.type "list") "keys" = pure none:=by rw [typeLookup_type,builtinLookup_eq_fast]; kernel_rfl
section
variable {prog : Program} {w : World} {A : Around} {E : Value -> Shared -> Prop} {s : Shared}
theorem keys_none {a : Addr} {o : Obj} {xs : Array Value} {k : Nat} {Q : Option Value -> Shared -> Prop} (ho : s.heap.get? a = some o) (hc : o.cls = .type "list") (hd : o.data = .seq xs k) (hdn : o.dict = none) (hA : A.handled = none)
  (h : ∀ h' tk,(∀ b x,s.heap.get? b = some x -> h'.get? b = some x) -> Q none { s with heap:=h',toks:=tk }) : wpAny (model prog w) A (getAttr? (.ref a) "keys") Q E s:=by
 obtain ⟨cls,dd,data,sl⟩:=o
 dsimp only at hc hd hdn
 subst hc hd hdn
 obtain ⟨hp,g,d,tk,os⟩:=s
 have hT0 : ∀ t,(⟨hp,g,d,t,os⟩ : Shared).TypeIs (.ref a) "list":=λ t=>⟨_,ho,rfl⟩
 have f1:=sub_AttributeError
 have f3:=F.slot_list_getattribute.lookup
 have f4:=F.slot_list_getattribute.bind (.ref a)
 have f5:=am_list_getattr_none
 unfold getAttr? getAttrBy? getAttrBy
 have hT1:=hT0 (tk + 1)
 repeat (any_goals (first | assumption | ((with_reducible show wpAny _ _ (call (Value.builtin "list.__getattribute__") _ _) _ _ _); refine call_meets F.slot_list_getattribute hT1 am_entry_list_getattribute (F.args_list_getattribute_2 _ _) (meets_getattribute_miss_list a xs k sl _ _ keys_miss (by decide +kernel) (by size_fits)) ⟨ho,hA,λ h' tk' e hx=>?_⟩) | wp_step))
 obtain ⟨t',u',he⟩:=hx.there
 show wpAny _ _ (getattributeRaised _ _ _ _ _ _ _) _ _ _
 unfold getattributeRaised
 repeat (any_goals (first | assumption | wp_step))
 exact h _ _ hx.keeps
end
theorem upd_entry : entryFor table "dict.update.loop" = some Builtin.«dict.update.loop»:=by first | exact entryFor_of_fast (by kernel_rfl) | exact entryFor_of_tree (by kernel_rfl)
theorem upd_plain : plainId "dict.update.loop" = true:=by decide +kernel
noncomputable def PairAt (h : Heap) (x : Value) (p : Value × Value) : Prop:=∃ t o n,x = .ref t ∧ h.get? t = some o ∧ o.cls = .type "tuple" ∧ o.data = .seq [p.1,p.2].toArray n
section
variable {prog : Program} {w : World} {A : Around} {E : Value -> Shared -> Prop}
theorem upd_loop {R : Result -> Shared -> Prop} (hh : A.handled = none) {D I l : Addr} {h₀ : Heap} {items : List Value} (hDI : D ≠ I) (h0I : h₀.get? I = none) (h0D : h₀.get? D = none) (hlD : l ≠ D) (hlI : l ≠ I) :
  ∀ (todo : List (Value × Value)) (xs : List Value) (i : Nat) (kvs acc : List (KV × Value)) (s : Shared),items.drop i = xs -> todo.length = xs.length -> (∀ (j : Nat) x p,xs[j]? = some x -> todo[j]? = some p -> PairAt h₀ x p) -> Carries (kvKind prog w) todo kvs -> acc.length + todo.length ≤ 1000000 ->
   s.heap.DictOf (kvKind prog w) D acc -> s.heap.IsListIter I l i -> s.heap.IsList l items.toArray -> (∀ b o,h₀.get? b = some o -> s.heap.get? b = some o) ->
   (∀ h' tk,h'.DictOf (kvKind prog w) D (merged acc kvs) -> (∀ b o,b ≠ I -> b ≠ D -> s.heap.get? b = some o -> h'.get? b = some o) -> R (.ok (.ret .none)) { s with heap:=h',toks:=tk }) ->
   codeAny (model prog w) A (.builtin "dict.update.loop" ⟨[.ref D,.ref I,rawInt i,.none],[]⟩) R s:=by
 intro l_
 induction l_ with
 | nil=>
  intro xs i kvs acc s hd hlen hp hc hsz hD hI hL hk hR
  refine yG λ G_ k_=>?_
  cases xs with
  | cons _ _=>cases hlen
  | nil=>
  cases kvs with
  | cons _ _=>exact hc.elim
  | nil=>
  refine k_ ?_
  refine codeAny_builtin upd_entry ?_
  dsimp only [Builtin.«dict.update.loop»]
  have hx : items.toArray[i]? = none:=by
   have : items.length ≤ i:=by
    have:=congrArg List.length hd
    simp at this; lia
   simp [this]
  refine wpAny_bind (wpAny_pyNext_list_end (by exact hh) hI hL hx λ h' hs=>?_)
  refine wpAny_bind (m:=Builtin.Dict.addKeywords D []) (wpAny_pure (wpAny_pure ?_))
  have:=hR h' s.toks (hD.extBut hs hDI) λ b o hb _ e=>hs b o hb e
  exact this
 | cons p todo ih_=>
  intro xs i kvs acc s hd hlen hp hc hsz hD hI hL hk hR
  refine yG λ G_ k_=>?_
  cases xs with
  | nil=>cases hlen
  | cons x xs=>
  obtain ⟨key,v⟩:=p
  cases kvs with
  | nil=>exact hc.elim
  | cons kv kvs=>
  obtain ⟨k,v'⟩:=kv
  obtain ⟨hkey,rfl,hc⟩:=hc
  obtain ⟨t,o,n,rfl,ht,hcls,hdat⟩:=hp 0 x (key,v) rfl rfl
  refine k_ ?_
  refine codeAny_builtin upd_entry ?_
  rw [Around.under_plainId upd_plain _]
  dsimp only [Builtin.«dict.update.loop»]
  have hx : items.toArray[i]? = some (.ref t):=by
   have : (items.drop i)[0]? = some (.ref t):=by rw [hd]; rfl
   simpa using this
  refine wpAny_bind (wpAny_pyNext_list_item hI hL hx λ h' hit hs=>?_)
  have htI : t ≠ I:=λ e=>by rw [e,h0I] at ht; exact nsm ht
  have ht' : h'.get? t = some o:=(hs.2 t htI).trans (hk t o ht)
  have hT : ({ s with heap:=h' } : Shared).TypeIs (.ref t) "tuple":=⟨o,ht',hcls⟩
  refine wpAny_bind (wpAny_holding (wpAny_bind (wpAny_tryCatch ?_)))
  refine wpAny_bind (wpAny_typeOf hT ?_)
  refine wpAny_bind (wpAny_seqItems (s:={ s with heap:=h' }) ht' hdat (wpAny_pure ?_))
  refine wpAny_holding ?_
  have hD' : h'.DictOf (kvKind prog w) D acc:=hD.extBut (λ b o hb e=>(hs.2 b hb).trans e) hDI
  have hl1 : acc.length + (todo.length + 1) ≤ 1000000:=by simpa using hsz
  refine wpAny_dictSet_pairs (s:={ s with heap:=h' }) hkey hD' (λ h2 hD2 hs2=>?_) (by simp only [sizeLine_eq]; lia)
  refine wpAny_pure (a:=Fin.again (.builtin "dict.update.loop" ⟨[.ref D,.ref I,rawInt (i + 1 : Nat),.none],[]⟩)) ⟨plainId_quiet upd_plain _,?_⟩
  have hst:=stored_length_le acc k v
  refine ih_ xs (i + 1) kvs (stored acc k v) { s with heap:=h2,toks:=s.toks + 1 } (by refine List.drop_drop ▸ ?_; refine hd ▸ ?_; rfl) (by simpa using hlen) (λ j x p h1 h2=>hp (j + 1) x p h1 h2) hc (by lia) hD2 ?_ ?_ (λ b o e=>?_) λ h3 tk hD3 hk3=>?_
  ·obtain ⟨oi,hoi,r⟩:=hit
   exact ⟨oi,(hs2.2 I (Ne.symm hDI)).trans hoi,r⟩
  ·obtain ⟨ol,hol,r⟩:=hL
   exact ⟨ol,(hs2.2 l hlD).trans ((hs.2 l hlI).trans hol),r⟩
  ·exact (hs2.2 b λ q=>by rw [q,h0D] at e; cases e).trans ((hs.2 b λ q=>by rw [q,h0I] at e; cases e).trans (hk b o e))
  ·exact hR h3 tk hD3 λ b o hb hb2 e=>hk3 b o hb hb2 ((hs2.2 b hb2).trans ((hs.2 b hb).trans e))
theorem call_dict_pairs {l : Addr} {o : Obj} {items : List Value} {n : Nat} {s : Shared} {todo : List (Value × Value)} {kvs : List (KV × Value)} {Q : Value -> Shared -> Prop} (hh : A.handled = none) (ho : s.heap.get? l = some o) (hc : o.cls = .type "list") (hd : o.data = .seq items.toArray n) (hdn : o.dict = none)
  (hlen : todo.length = items.length) (hp : ∀ (j : Nat) x p,items[j]? = some x -> todo[j]? = some p -> PairAt s.heap x p) (hcar : Carries (kvKind prog w) todo kvs) (hsz : todo.length ≤ 1000000)
  (h : ∀ h' tk,h'.DictOf (kvKind prog w) s.heap.objs.size (merged [] kvs) -> (∀ b x,s.heap.get? b = some x -> h'.get? b = some x) -> Q (.ref s.heap.objs.size) { s with heap:=h',toks:=tk }) :
  wpAny (model prog w) A (call (.type "dict") [.ref l]) Q E s:=by
 refine callType_codes (Q₁:=λ obj s₁=>obj = .ref s.heap.objs.size ∧ s₁ = { s with heap:=s.heap.push { cls:=.type "dict",data:=.dict #[] } }) F.kt_called_dict (F.kt_typeCall_dict_1 _) F.entry_dict_init (kt_code_dict_new _ ⟨rfl,rfl⟩) ?_
 rintro obj s₁ ⟨rfl,rfl⟩
 have hnew : (s.heap.push { cls:=.type "dict",data:=.dict #[] }).DictOf (kvKind prog w) s.heap.objs.size []:=Heap.DictOf.new s.heap
 refine ⟨hnew.typeIs,F.args_dict_init_2 _ _,?_⟩
 have ho1:=Heap.get?_push_of_some { cls:=.type "dict",data:=.dict #[] } ho
 have hT : ({ s with heap:=s.heap.push { cls:=.type "dict",data:=.dict #[] } } : Shared).TypeIs (.ref l) "list":=⟨o,ho1,hc⟩
 dsimp only [Builtin.«dict.__init__»]
 refine wpAny_bind ?_
 dsimp only [Builtin.Dict.selfAndRest]
 refine wpAny_bind (wpAny_notOrdered_dict hnew.typeIs ?_)
 refine wpAny_pure ?_
 show wpAny _ _ (Builtin.Dict.updateFrom "dict.__init__" s.heap.objs.size (.ref l) [] .none) _ _ _
 refine wpAny_bind (wpAny_typeOf hT ?_)
 refine wpAny_bind (keys_none (s:={ s with heap:=s.heap.push { cls:=.type "dict",data:=.dict #[] } }) ho1 hc hd hdn (by exact hh) λ h1 tk1 hk1=>?_)
 have ho2:=hk1 _ _ ho1
 refine wpAny_bind (wpAny_rule (wpAny_bind (wpAny_pyIter_list (s:={ s with heap:=h1,toks:=tk1 }) ⟨o,ho2,hc,n,hd⟩ ?_)))
 have hlt1 : s.heap.objs.size < h1.objs.size:=by
  obtain ⟨od,hod,_⟩:=Heap.dictOf_iff.mp hnew
  exact Heap.lt_size (hk1 _ _ hod)
 have hDn : s.heap.get? s.heap.objs.size = none:=Heap.get?_none_of_le (Nat.le_refl _)
 have hIn : s.heap.get? h1.objs.size = none:=Heap.get?_none_of_le (Nat.le_of_lt hlt1)
 have hll : l < s.heap.objs.size:=Heap.lt_size ho
 refine wpAny_pure (a:=Fin.again (.builtin "dict.update.loop" ⟨[.ref s.heap.objs.size,.ref h1.objs.size,rawInt (0 : Nat),.none],[]⟩)) ⟨plainId_quiet upd_plain _,?_⟩
 refine upd_loop (A:=A.in1) (R:=wants (λ r s₂=>r = .none ∧ Q (.ref s.heap.objs.size) s₂) E) (h₀:=s.heap) (items:=items) (by exact hh) (Nat.ne_of_lt hlt1) hIn hDn (Nat.ne_of_lt hll) (Nat.ne_of_lt (Nat.lt_trans hll hlt1)) todo items 0 kvs [] { s with heap:=h1.push { cls:=.type "list_iterator",data:=.fields #[.ref l,.int 0 0] },toks:=tk1 } rfl hlen hp hcar (by simpa using hsz) ?_ ⟨_,Heap.get?_push_size _ rfl,rfl,rfl⟩ ⟨o,Heap.get?_push_of_some _ ho2,hc,n,hd⟩
  (λ b x e=>Heap.get?_push_of_some _ (hk1 _ _ (Heap.get?_push_of_some _ e))) λ h' tk hD' hk'=>⟨rfl,?_⟩
 ·exact (hnew.at λ x e=>Heap.get?_push_of_some _ (hk1 _ _ e))
 ·exact h h' tk hD' λ b x e=>hk' b x (λ q=>by rw [q,hIn] at e; cases e) (λ q=>by rw [q,hDn] at e; cases e) (Heap.get?_push_of_some _ (hk1 _ _ (Heap.get?_push_of_some _ e)))
end
section
variable {prog : Program} {w : World} {cx : Cx} {K : Frag} {mg mb : Str -> Option Value} {g₀ : Heap}
set_option tactic.hygienic true in
theorem pairs_rel {g h : Heap} {L : Addr} {m : Str -> Option Value} {R : List Addr} {H : Hp} (I : Inv prog w g₀ g L m R H h) {vs : List V} {xs : List Value} {ps : List (V × V)} (q : VRs R vs xs) (e : pairsOf H vs = some ps) :
  ∃ todo,PRs R ps todo ∧ todo.length = xs.length ∧ ∀ (j : Nat) x p,xs[j]? = some x -> todo[j]? = some p -> PairAt h x p:=by
 induction q generalizing ps with
 | nil=>obtain rfl:=Option.some.inj e; exact ⟨[],.nil,rfl,λ j x p h=>by cases j <;> cases h⟩
 | cons hv _ ih=>
  refine yG λ G_ k_=>?_
  dsimp only [pairsOf] at e
  cases hv <;> try (exact nsm e; done)
  rename_i n a hn
  dsimp only at e
  split at e
  ·rename_i u v hH
   obtain ⟨r,hr,rfl⟩:=Option.map_eq_some_iff.mp e
   obtain ⟨todo,t1,t2,t3⟩:=ih hr
   obtain ⟨ob,hob,ys,c,hc,hd,hy⟩:=I.at hH rfl hn
   obtain ⟨y,z,rfl,ry,rz⟩:=hy.two
   refine k_ ?_
   exact ⟨(y,z) :: todo,.cons ry rz t1,congrArg (· + 1) t2,λ j x p h1 h2=>by
    cases j with
    | zero=>cases h1; obtain rfl:=Option.some.inj h2; exact ⟨a,ob,c,rfl,hob,hc,hd⟩
    | succ j=>exact t3 j x p h1 h2⟩
  ·exact nsm e
theorem hL_some {o : Option MO} {vs : List V} (h : hL o some = some vs) : o = some (.list vs):=by
 cases o with
 | none=>exact nsm h
 | some o=>cases o <;> cases h; rfl
theorem dict_ok : DictOk prog w g₀ cx:=by
 intro H A g L m R s X args xs k hh h rv I Qc Ec hQ _
 cases rv with
 | nil=>exact (show False from h).elim
 | cons r0 rt=>cases rt with
  | nil=>
   refine iteE (show tyA False "dict" _ _ _ from h) (λ e _=>absurd e (by decide)) λ _ h=>iteE h (λ e _=>absurd e (by decide)) λ _ h=>?_
   revert h
   cases r0 with
   | ref hn=>
    intro h
    refine optE h λ vs hH h=>iteE h (λ e _=>absurd e (by decide)) λ _ h=>iteE h (λ e _=>absurd e (by decide)) λ _ h=>iteE h (λ _ h=>?_) λ e _=>absurd rfl e
    refine bleE h λ hb h=>optE h λ es he hk=>?_
    have hH:=hL_some hH
    refine yG λ G_ k_=>?_
    obtain ⟨ps,hps,hes⟩:=Option.bind_eq_some_iff.mp he
    obtain ⟨ob,hob,ys,c,hc,hdn,_,hd,hv⟩:=I.at hH rfl hn
    obtain ⟨todo,t1,t2,t3⟩:=pairs_rel I hv hps
    obtain ⟨more,m1,m2⟩:=dputs_rel (prog:=prog) (w:=w) t1 hes (KR.nil (R:=R)) List.nodup_nil
    refine k_ ?_
    rw [hv.length] at hb
    refine call_dict_pairs hh hob hc hd hdn t2 t3 m1 (by omega) λ h' tk hD hk'=>?_
    obtain ⟨o',ho',hd'⟩:=Heap.dictOf_iff.mp hD
    exact hQ _ _ _ _ _ hk (Ext.push R _) (I.make hk' (Heap.get?_none_of_le (Nat.le_refl _)) ho' ⟨_,hd',m2.ext (Ext.push R _)⟩) I.newRef Same.mk'
   | _=>exact False.elim
  | cons r1 rt=>exact (show False from h).elim
theorem sound' (B : Base K mg mb g₀) (CX : CxOk cx prog w K g₀ mg mb) (n : Nat) : SndA prog w g₀ (R False cx n):=sound B CX dict_ok n
end
noncomputable def mapO {α β : Type} (f : α -> Option β) : List α -> Option (List β)
 | []=>some []
 | a :: r=>match f a with
  | some b=>match mapO f r with
   | some l=>some (b :: l)
   | none=>none
  | none=>none
noncomputable def renV (r : Nat -> Option Nat) : V -> Option V
 | .ref n=>match r n with
  | some m=>some (.ref m)
  | none=>none
 | v=>some v
noncomputable def renP {α : Type} (r : Nat -> Option Nat) (p : α × V) : Option (α × V):=match renV r p.2 with
 | some v=>some (p.1,v)
 | none=>none
set_option backward.match.sparseCases false in
noncomputable def renT (r : Nat -> Option Nat) (p : List Int × Nat × V) : Option (List Int × Nat × V):=match r p.2.1,renV r p.2.2 with
 | some n,some v=>some (p.1,n,v)
 | _,_=>none
set_option backward.match.sparseCases false in
noncomputable def renO (r : Nat -> Option Nat) : MO -> Option MO
 | .list vs=>(mapO (renV r) vs).map .list
 | .slist vs b=>(mapO (renV r) vs).map λ l=>.slist l b
 | .tup vs=>(mapO (renV r) vs).map .tup
 | .dict es=>(mapO (renP r) es).map .dict
 | .tdict es=>(mapO (renT r) es).map .tdict
 | .inst C d=>(r d).map (.inst C)
 | .flds fs=>(mapO (renP r) fs).map .flds
 | .cell v=>match v with
  | none=>some (.cell none)
  | some v=>(renV r v).map λ x=>.cell (some x)
 | .litr l i=>(r l).map λ n=>.litr n i
 | .titr l i=>(r l).map λ n=>.titr n i
 | .exc C d fr=>match d with
  | none=>some (.exc C none fr)
  | some d=>(r d).map λ n=>.exc C (some n) fr
 | .gpot c k=>(r c).map λ n=>.gpot n k
 | o=>some o
noncomputable def Rn (r : Nat -> Option Nat) (R R' : List Addr) : Prop:=∀ n n',r n = some n' -> ∀ a,R[n]? = some a -> R'[n']? = some a
section
variable {prog : Program} {w : World} {r : Nat -> Option Nat} {R R' : List Addr}
set_option tactic.hygienic true in
theorem ren_v (h : Rn r R R') {v v' : V} {x : Value} (e : renV r v = some v') (k : VR R v x) : VR R' v' x:=by
 cases k with
 | ref hn=>
  unfold renV at e
  split at e
  ·rename_i e'
   split at e
   ·rename_i q
    obtain rfl:=Option.some.inj e; cases e'
    exact .ref (h _ _ q _ hn)
   ·exact nsm e
  ·rename_i q
   exact absurd rfl (q _)
 | none=>cases e; exact .none
 | bool b=>cases e; exact .bool b
 | int i t=>cases e; exact .int i t
 | str l t=>cases e; exact .str l t
 | bytes b t=>cases e; exact .bytes b t
 | top=>cases e; exact .top _
theorem mapO_cons {α β : Type} {f : α -> Option β} {a : α} {l : List α} {bs : List β} (e : mapO f (a :: l) = some bs) : ∃ b bs',f a = some b ∧ mapO f l = some bs' ∧ bs = b :: bs':=by
 dsimp only [mapO] at e
 split at e
 ·rename_i h1
  split at e
  ·rename_i h2
   cases e
   exact ⟨_,_,h1,h2,rfl⟩
  ·exact nsm e
 ·exact nsm e
theorem mapO_len {α β : Type} {f : α -> Option β} : ∀ {l : List α} {bs : List β},mapO f l = some bs -> bs.length = l.length:=by
 intro l_
 induction l_ with
 | nil=>
  intro _ e
  obtain rfl:=Option.some.inj e; rfl
 | cons a l ih_=>
  intro _ e
  obtain ⟨b,bs',_,h2,rfl⟩:=mapO_cons e
  simp only [List.length_cons,List.length_cons,ih_ h2]
theorem mapO_get {α β : Type} {f : α -> Option β} : ∀ {l : List α} {bs : List β},mapO f l = some bs -> ∀ {i : Nat} {b : β},bs[i]? = some b -> ∃ a,l[i]? = some a ∧ f a = some b:=by
 intro l_
 induction l_ with
 | nil=>
  intro _ e i b h
  obtain rfl:=Option.some.inj e; exact nsm h
 | cons a l ih_=>
  intro _ e i b h
  obtain ⟨b',bs',h1,h2,rfl⟩:=mapO_cons e
  cases i with
  | zero=>cases h; exact ⟨a,rfl,h1⟩
  | succ i=>exact ih_ h2 (i:=i) h
theorem ren_vs (h : Rn r R R') {vs vs' : List V} {xs : List Value} (e : mapO (renV r) vs = some vs') (q : VRs R vs xs) : VRs R' vs' xs:=by
 induction q generalizing vs' with
 | nil=>obtain rfl:=Option.some.inj e; exact .nil
 | cons a _ ih=>
  obtain ⟨_,_,h1,h2,rfl⟩:=mapO_cons e
  exact .cons (ren_v h h1 a) (ih h2)
theorem renP_inv {α : Type} {p : α × V} {q : α × V} (e : renP r p = some q) : ∃ v,renV r p.2 = some v ∧ q = (p.1,v):=by
 unfold renP at e
 split at e
 ·rename_i h1; obtain rfl:=Option.some.inj e; exact ⟨_,h1,rfl⟩
 ·exact nsm e
theorem ren_fs {P : Params} (h : Rn r R R') {fs fs' : List (Str × V)} {es : List DictEntry} (e : mapO (renP r) fs = some fs') (q : FR P R fs es) : FR P R' fs' es:=by
 induction q generalizing fs' with
 | nil=>obtain rfl:=Option.some.inj e; exact .nil
 | cons a _ ih=>
  obtain ⟨_,_,h1,h2,rfl⟩:=mapO_cons e
  obtain ⟨v,h3,rfl⟩:=renP_inv h1
  exact .cons (ren_v h h3 a) (ih h2)
theorem ren_ks (h : Rn r R R') {es es' : List (KV × V)} {kvs : List (KV × Value)} (e : mapO (renP r) es = some es') (q : KR R es kvs) : KR R' es' kvs:=by
 induction q generalizing es' with
 | nil=>obtain rfl:=Option.some.inj e; exact .nil
 | cons a _ ih=>
  obtain ⟨_,_,h1,h2,rfl⟩:=mapO_cons e
  obtain ⟨v,h3,rfl⟩:=renP_inv h1
  exact .cons (ren_v h h3 a) (ih h2)
theorem ren_ts (h : Rn r R R') {es es' : List (List Int × Nat × V)} {kvs : List (List Int × Addr × Value)} (e : mapO (renT r) es = some es') (q : TR R es kvs) : TR R' es' kvs:=by
 induction q generalizing es' with
 | nil=>obtain rfl:=Option.some.inj e; exact .nil
 | cons hn a _ ih=>
  refine yG λ G_ k_=>?_
  obtain ⟨_,_,h1,h2,rfl⟩:=mapO_cons e
  delta renT at h1
  dsimp only at h1
  split at h1
  refine k_ ?_
  ·rename_i q1 q2
   cases h1
   exact .cons (h _ _ q1 _ hn) (ren_v h q2 a) (ih h2)
  ·exact nsm h1
theorem ren_id {α : Type} {f : α -> V} (hf : ∀ a,renV (λ _=>none) (f a) = some (f a)) : ∀ l : List α,mapO (renV λ _=>none) (l.map f) = some (l.map f):=by
 intro l_
 induction l_ with
 | nil=>
  exact rfl
 | cons a l ih_=>
  refine List.map_cons ▸ ?_
  dsimp only [mapO]
  rw [hf,ih_]
theorem rn_no : Rn (λ _=>none) R R':=λ _ _ e=>nomatch e
theorem ren_idk : ∀ es : List (Int × List Nat),mapO (renP λ _=>none) (es.map λ p=>(KV.int p.1,V.str p.2)) = some (es.map λ p=>(KV.int p.1,V.str p.2)):=by
 intro l_
 induction l_ with
 | nil=>
  exact rfl
 | cons a l ih_=>
  refine List.map_cons ▸ ?_
  dsimp only [mapO]
  refine ih_ ▸ ?_
  rfl
theorem FR_csr {P : Params} {D : List Nat} {q : Nat} {es : List DictEntry} (k : FR P R (csrF D q) es) : FR P R' (csrF D q) es:=
 ren_fs (r:=λ _=>none) (λ _ _ e=>nomatch e) rfl k
theorem LO.ren {vs vs' : List V} {b : Obj} (k : LO R vs b) (h : Rn r R R') (e : mapO (renV r) vs = some vs') : LO R' vs' b:=let ⟨xs,n,k1,k2,k3,k4,k5⟩:=k; ⟨xs,n,k1,k2,k3,k4,ren_vs h e k5⟩
theorem TO.ren {vs vs' : List V} {b : Obj} (k : TO R vs b) (h : Rn r R R') (e : mapO (renV r) vs = some vs') : TO R' vs' b:=let ⟨xs,n,k1,k2,k5⟩:=k; ⟨xs,n,k1,k2,ren_vs h e k5⟩
theorem ren_o (h : Rn r R R') {o o' : MO} {b : Obj} (e : renO r o = some o') (k : OR prog w R o b) : OR prog w R' o' b:=by
 cases o with
 | list vs=>apply mpE e; intro l h1; exact LO.ren k h h1
 | slist vs b=>apply mpE e; intro l h1; exact ⟨k.1,exE k.2 λ _ k=>exE k λ _ k=>⟨k.1,ren_vs h h1 k.2⟩⟩
 | tup vs=>apply mpE e; intro l h1; exact TO.ren k h h1
 | dict es=>apply mpE e; intro l h1; exact exE k λ _ k=>⟨k.1,ren_ks h h1 k.2⟩
 | tdict es=>apply mpE e; intro l h1; exact exE k λ _ k=>⟨k.1,ren_ts h h1 k.2⟩
 | inst C d=>apply mpE e; intro l h1; exact exE k λ a k=>⟨h _ _ h1 _ k.1,k.2⟩
 | flds fs=>apply mpE e; intro l h1; exact exE k λ _ k=>exE k λ _ k=>⟨k.1,ren_fs h h1 k.2⟩
 | cell v=>
  cases v with
  | none=>cases e; exact k
  | some v=>apply mpE e; intro l h1; exact exE k λ _ k=>⟨k.1,ren_v h h1 k.2⟩
 | litr l i=>apply mpE e; intro l h1; exact exE k λ a k=>⟨h _ _ h1 _ k.1,k.2⟩
 | titr l i=>apply mpE e; intro l h1; exact exE k λ a k=>⟨h _ _ h1 _ k.1,k.2⟩
 | exc C d fr=>
  cases d with
  | none=>cases e; exact k
  | some d=>apply mpE e; intro l h1; exact ⟨k.1,k.2.1,exE k.2.2 λ a k=>⟨h _ _ h1 _ k.1,k.2⟩⟩
 | rf q=>
  cases e
  cases q with
  | «ints» l=>exact LO.ren k rn_no (ren_id (λ _=>rfl) l)
  | «strs» l=>exact LO.ren k rn_no (ren_id (λ _=>rfl) l)
  | «sl» l b=>exact ⟨k.1,exE k.2 λ _ k=>exE k λ _ k=>⟨k.1,ren_vs rn_no (ren_id (λ _=>rfl) l) k.2⟩⟩
  | «dic» es=>exact exE k λ _ k=>⟨k.1,ren_ks rn_no (ren_idk es) k.2⟩
 | gpot c j=>
  apply mpE e; intro l h1
  refine exE k λ st k=>exE k λ i k=>⟨k.1,LO.ren k.2 h ?_⟩
  have e1 : renV r (.ref c) = some (.ref l):=by unfold renV; dsimp only; exact h1 ▸ rfl
  dsimp only [mapO]
  refine e1 ▸ ?_
  rfl
 | gcel=>cases e; exact exE k λ is k=>⟨k.1,LO.ren k.2 rn_no (ren_id (λ _=>rfl) is)⟩
 | cfl p its=>cases e; exact exE k λ D k=>⟨k.1,exE k.2 λ _ k=>exE k λ _ k=>⟨k.1,FR_csr k.2⟩⟩
 | _=>cases e; exact k
theorem ren_gone {o o' : MO} (e : renO r o = some o') : o'.isGone = o.isGone:=by
 cases o with
 | cell v=>
  cases v with
  | none=>cases e; rfl
  | some v=>apply mpE e; intros; rfl
 | exc C d fr=>
  cases d with
  | none=>cases e; rfl
  | some d=>apply mpE e; intros; rfl
 | _=>first | (cases e; rfl; done) | (apply mpE e; intros; rfl)
end
noncomputable def idx (n : Nat) : List Nat -> Nat -> Option Nat
 | [],_=>none
 | m :: r,i=>match Nat.beq m n with
  | true=>some i
  | false=>idx n r (i + 1)
theorem idx_get {n : Nat} : ∀ {l : List Nat} {i j : Nat},idx n l i = some j -> ∃ k,j = i + k ∧ l[k]? = some n:=by
 intro l_
 induction l_ with
 | nil=>
  intro _ _ e
  exact nsm e
 | cons m r ih_=>
  intro i j e
  dsimp only [idx] at e
  split at e
  ·rename_i q
   cases e
   exact ⟨0,rfl,by refine (Nat.eq_of_beq_eq_true q) ▸ ?_; rfl⟩
  ·obtain ⟨k,h1,h2⟩:=ih_ e
   exact ⟨k + 1,by lia,h2⟩
noncomputable def refV : V -> List Nat
 | .ref n=>[n]
 | _=>[]
noncomputable def refO : MO -> List Nat
 | .list vs=>vs.flatMap refV
 | .slist vs _=>vs.flatMap refV
 | .tup vs=>vs.flatMap refV
 | .dict es=>es.flatMap λ p=>refV p.2
 | .tdict es=>es.flatMap λ p=>p.2.1 :: refV p.2.2
 | .inst _ d=>[d]
 | .flds fs=>fs.flatMap λ p=>refV p.2
 | .cell v=>match v with
  | none=>[]
  | some v=>refV v
 | .litr l _=>[l]
 | .titr l _=>[l]
 | .exc _ d _=>match d with
  | none=>[]
  | some d=>[d]
 | .gpot c _=>[c]
 | _=>[]
noncomputable def inN (n : Nat) : List Nat -> Bool
 | []=>false
 | m :: r=>match Nat.beq m n with
  | true=>true
  | false=>inN n r
theorem inN_iff {n : Nat} : ∀ {l : List Nat},inN n l = true ↔ n ∈ l:=by
 intro l_
 induction l_ with
 | nil=>
  exact Iff.intro (λ h=>Bool.noConfusion (h : false = true)) λ h=>nomatch h
 | cons m r ih_=>
  dsimp only [inN]
  split
  ·rename_i q
   refine (Nat.eq_of_beq_eq_true q) ▸ ?_
   exact ⟨λ _=>.head _,λ _=>rfl⟩
  ·rename_i q
   refine ih_.trans ?_
   rw [List.mem_cons]
   exact Iff.intro .inr λ h=>h.resolve_left λ e=>Nat.ne_of_beq_eq_false q e.symm
noncomputable def reach (H : Hp) : Nat -> List Nat -> List Nat -> Option (List Nat)
 | 0,_,_=>none
 | n + 1,todo,σ=>match todo with
  | []=>some σ
  | m :: todo=>match inN m σ with
   | true=>reach H n todo σ
   | false=>match H[m]? with
    | some o=>match o.isGone with
     | true=>none
     | false=>reach H n (refO o ++ todo) (σ ++ [m])
    | none=>none
set_option tactic.hygienic true in
theorem reach_ok {H : Hp} : ∀ {n : Nat} {todo σ σ' : List Nat},reach H n todo σ = some σ' -> ∃ τ,σ' = σ ++ τ ∧ (σ.Nodup -> σ'.Nodup) ∧ ∀ m ∈ τ,∃ o,H[m]? = some o ∧ o.isGone = false:=by
 intro l_
 induction l_ with
 | zero=>
  intro _ _ _ e
  exact nsm e
 | succ n ih_=>
  intro z1_ σ σ' e
  cases z1_ with
  | nil=>
   obtain rfl:=Option.some.inj e; exact ⟨[],by simp,id,λ m h=>nomatch h⟩
  | cons m todo=>
   unfold reach at e
   dsimp only at e
   split at e
   ·exact ih_ e
   ·rename_i hn
    split at e
    ·rename_i o ho
     split at e
     ·exact nsm e
     ·rename_i hg
      obtain ⟨τ,h1,h2,h3⟩:=ih_ e
      refine ⟨m :: τ,by simp only [h1,List.append_assoc]; rfl,λ nd=>h2 ?_,λ x hx=>?_⟩
      ·rw [List.nodup_append]
       refine ⟨nd,by simp,λ a ha b hb q=>?_⟩
       rw [List.mem_singleton] at hb
       rw [q,hb,<- inN_iff,hn] at ha
       exact nft ha
      ·cases hx with
       | head=>exact ⟨o,ho,hg⟩
       | tail _ hx=>exact h3 x hx
    ·exact nsm e
set_option backward.match.sparseCases false in
noncomputable def grab (H : Hp) (args : List V) : Option (List Nat × Hp × List V):=match reach H 400 (args.flatMap refV) [] with
 | some σ=>match mapO (λ n=>match H[n]? with
   | some o=>renO (λ m=>idx m σ 0) o
   | none=>none) σ,mapO (renV λ m=>idx m σ 0) args with
  | some Hs,some as=>some (σ,Hs,as)
  | _,_=>none
 | none=>none
set_option backward.match.sparseCases false in
noncomputable def setAll : List Nat -> List MO -> Hp -> Hp
 | n :: σ,o :: os,H=>setAll σ os (H.set n o)
 | _,_,H=>H
noncomputable def toR (σ τ : List Nat) (base n : Nat) : Option Nat:=match Nat.blt n σ.length with
 | true=>σ[n]?
 | false=>idx n τ base
set_option backward.match.sparseCases false in
noncomputable def back (σ : List Nat) (H : Hp) (v : V) (H2 : Hp) : Option (V × Hp):=match reach H2 400 (refV v ++ (H2.take σ.length).flatMap refO) (List.range σ.length) with
 | some σ'=>match renV (toR σ (σ'.drop σ.length) H.length) v,mapO (renO (toR σ (σ'.drop σ.length) H.length)) (H2.take σ.length),mapO (λ m=>match H2[m]? with
   | some o=>renO (toR σ (σ'.drop σ.length) H.length) o
   | none=>none) (σ'.drop σ.length) with
  | some v',some os,some ns=>some (v',setAll σ os H ++ ns)
  | _,_,_=>none
 | none=>none
abbrev Spec:=Nat -> Option Nat -> List V -> Hp -> (V -> Hp -> Prop) -> (Nat -> Hp -> Prop) -> Prop -> Prop
set_option backward.match.sparseCases false in
noncomputable def cOr (O : Addr -> Option Spec) (cx : Cx) (ih : Ev Prop) (d : Nat) (hd : Option Nat) (f : V) (args : List V) (H : Hp) (K : V -> Hp -> Prop) (X : Nat -> Hp -> Prop) : Prop:=match f with
 | .top (.ref a)=>match O a with
  | some S=>S d hd args H K X (cStep False cx ih d hd (.top (.ref a)) args H K X)
  | none=>cStep False cx ih d hd (.top (.ref a)) args H K X
 | f=>cStep False cx ih d hd f args H K X
noncomputable def stepO (O : Addr -> Option Spec) (cx : Cx) (ih : Ev Prop) : Ev Prop where
 e:=eStep False cx ih
 t:=tStep False cx ih
 s:=sStep False cx ih
 c:=cOr O cx ih
 w:=wStep ih
 f:=fStep False cx ih
 l:=lStep False ih
noncomputable def RO (O : Addr -> Option Spec) (cx : Cx) : Nat -> Ev Prop
 | 0=>nil False
 | n + 1=>stepO O cx (RO O cx n)
section
variable {prog : Program} {w : World} {cx : Cx} {K : Frag} {mg mb : Str -> Option Value} {g₀ : Heap}
structure SpecOn (prog : Program) (w : World) (g₀ : Heap) (f : Addr) (S : Spec) : Prop where
 on : ∀ {d : Nat} {hd : Option Nat} {args : List V} {H : Hp} {k : V -> Hp -> Prop} {X : Nat -> Hp -> Prop} {fb : Prop} {A : Around} {sc : Scope} {g : Heap} {L : Addr} {m : Str -> Option Value} {R : List Addr} {s : Shared} {xs : List Value},
  S d hd args H k X fb -> Arnd g₀ A ⟨sc,d,hd⟩ g L -> HdOk A hd R -> Inv prog w g₀ g L m R H s.heap -> VRs R args xs ->
  ∀ Qc Ec,EndV prog w g₀ g L m VR R s k Qc -> EndX prog w g₀ g L m R s X Ec ->
   (fb -> codeAny (model prog w) A (.call (.ref f) ⟨xs,[]⟩) (λ r s'=>match r with | .ok (.ret v)=>Qc v s' | .ok _=>False | .error e=>Ec e s') s) ->
   codeAny (model prog w) A (.call (.ref f) ⟨xs,[]⟩) (λ r s'=>match r with | .ok (.ret v)=>Qc v s' | .ok _=>False | .error e=>Ec e s') s
theorem stepO_ok {O : Addr -> Option Spec} (B : Base K mg mb g₀) (CX : CxOk cx prog w K g₀ mg mb) (hO : ∀ a S,O a = some S -> SpecOn prog w g₀ a S) {ih : Ev Prop} (S : SndA prog w g₀ ih)
  (hS : ih = nil False ∨ ∃ ih',ih = stepO O cx ih' ∧ SndA prog w g₀ ih') : SndA prog w g₀ (stepO O cx ih) where
 e:=⟨λ h Z E I=>snd_e B CX S.e (λ h=>ok_call B CX S.e S.c h Z E I) (λ h=>ok_listcomp B CX S.e S.l h Z E I) h Z E I,λ h Z E I=>snd_t B CX S.e h Z E I⟩
 s:=⟨λ {fc φ st H k X A env g L m R s} h Z E I=>snd_s B CX S.e S.s (λ hsw h=>by
   rcases hS with rfl | ⟨ih',rfl,S'⟩
   ·exact (show False from h).elim
   ·exact ok_swap B CX S'.e S'.l hsw h Z.a E I) h Z E I,
  λ h Z E I=>whileTurn_ok B S.e S.s h Z E I,λ h hh Z E I ha=>forTurn_ok B CX S.e S.s h hh Z E I ha⟩
 l:=⟨λ h hh Z E I ha hD=>compTurn_ok B CX S.e S.l h hh Z E I ha hD⟩
 c:=by
  have key : ∀ {fc : Fc} {a : Addr} {args : List V} {H : Hp} {k : V -> Hp -> Prop} {X : Nat -> Hp -> Prop} {A : Around} {g : Heap} {L : Addr} {m : Str -> Option Value} {R : List Addr} {s : Shared} {xs : List Value},cOr O cx ih fc.d fc.h (.top (.ref a)) args H k X -> Arnd g₀ A fc g L -> HdOk A fc.h R -> Inv prog w g₀ g L m R H s.heap -> VRs R args xs ->
    ∀ Qc Ec,EndV prog w g₀ g L m VR R s k Qc -> EndX prog w g₀ g L m R s X Ec -> codeAny (model prog w) A (.call (.ref a) ⟨xs,[]⟩) (λ r s'=>match r with | .ok (.ret v)=>Qc v s' | .ok _=>False | .error e=>Ec e s') s:=by
   intro fc a args H k X A g L m R s xs h Z hdl I rv Qc Ec hQ hE
   unfold cOr at h
   dsimp only at h
   cases ho : O a with
   | none=>rw [ho] at h; exact snd_cr B CX S.s S.c h Z hdl I rv hQ hE
   | some Sp=>
    replace h:=ho ▸ h
    exact (hO a Sp ho).on (sc:=fc.sc) h Z hdl I rv Qc Ec hQ hE λ fb=>snd_cr B CX S.s S.c fb Z hdl I rv hQ hE
  refine ⟨λ h Z hdl I rv _ _ hQ hE=>key h Z hdl I rv _ _ hQ hE,λ {fc f args H k X A g L m R s x xs} h Z hdl I rf rv=>?_⟩
  by_cases hf : ∃ a,f = .top (.ref a)
  ·obtain ⟨a,rfl⟩:=hf
   refine rf.invTop ▸ ?_
   exact λ Qc Ec hQ hE=>wpAny_call (key h Z hdl I rv _ _ hQ hE)
  ·refine snd_cc B CX S.s S.c dict_ok ?_ Z hdl I rf rv
   have h : cOr O cx ih fc.d fc.h f args H k X:=h
   unfold cOr at h
   split at h
   ·exact absurd ⟨_,rfl⟩ hf
   ·exact h
theorem soundO {O : Addr -> Option Spec} (B : Base K mg mb g₀) (CX : CxOk cx prog w K g₀ mg mb) (hO : ∀ a S,O a = some S -> SpecOn prog w g₀ a S) : ∀ n,SndA prog w g₀ (RO O cx n)
 | 0=>nil_ok
 | 1=>stepO_ok B CX hO nil_ok (.inl rfl)
 | n + 2=>stepO_ok B CX hO (soundO B CX hO (n + 1)) (.inr ⟨RO O cx n,rfl,soundO B CX hO n⟩)
end
section
variable {prog : Program} {w : World} {cx : Cx} {K : Frag} {mg mb : Str -> Option Value} {g₀ g₁ : Heap}
theorem Base.mono (B : Base K mg mb g₀) (h : ∀ b o,g₀.get? b = some o -> g₁.get? b = some o) : Base K mg mb g₁ where
 k:=B.k.keeps h
 ng:=let ⟨o,es,ep,e,r⟩:=B.ng; ⟨o,es,ep,h _ _ e,r⟩
 nb:=let ⟨o,es,ep,e,r⟩:=B.nb; ⟨o,es,ep,h _ _ e,r⟩
 lim:=B.lim.keeps h
 sm:=let ⟨o,e⟩:=B.sm; ⟨o,h _ _ e⟩
theorem CxOk.mono (C : CxOk cx prog w K g₀ mg mb) (h : ∀ b o,g₀.get? b = some o -> g₁.get? b = some o) : CxOk cx prog w K g₁ mg mb:=
 { C with obj:=λ a o e=>let ⟨x,y,b,z,u⟩:=C.obj a o e; ⟨x,y,b,h _ _ z,u⟩ }
structure Prt (H Hs : Hp) (σ : List Nat) : Prop where
 nd : σ.Nodup
 len : Hs.length = σ.length
 at_ : ∀ (j n : Nat),σ[j]? = some n -> ∃ o o' : MO,H[n]? = some o ∧ o.isGone = false ∧ renO (λ m=>idx m σ 0) o = some o' ∧ Hs[j]? = some o'
noncomputable def RS (σ : List Nat) (R : List Addr) : List Addr:=σ.map λ n=>R.getD n 0
noncomputable def hid (g₀ : Heap) (H : Hp) (R : List Addr) (σ : List Nat) (h : Heap) : List Addr:=(List.range h.objs.size).filter λ a=>@decide (g₀.get? a = none ∧ ¬ ∃ i,i ∉ σ ∧ Act H R i a) (Classical.propDecidable _)
noncomputable def G1 (g₀ : Heap) (H : Hp) (R : List Addr) (σ : List Nat) (h : Heap) : Heap:=hideAll h (hid g₀ H R σ h)
variable {g : Heap} {L : Addr} {m : Str -> Option Value} {R : List Addr} {H Hs : Hp} {h h' : Heap} {σ : List Nat}
theorem G1_some {a : Addr} {o : Obj} : (G1 g₀ H R σ h).get? a = some o ↔ h.get? a = some o ∧ ((∃ o',g₀.get? a = some o') ∨ ∃ i,i ∉ σ ∧ Act H R i a):=by
 constructor
 ·intro e
  have e1:=of_hideAll _ e
  refine ⟨e1,?_⟩
  have hn : a ∉ hid g₀ H R σ h:=λ hm=>by
   have:=hideAll_none (hid g₀ H R σ h) (h:=h) hm
   replace this:=(show (hideAll h (hid g₀ H R σ h)).get? a = some o from e) ▸ this
   cases this
  cases q : g₀.get? a with
  | some o'=>exact .inl ⟨o',rfl⟩
  | none=>
   refine .inr (Classical.byContradiction λ hc=>hn ?_)
   unfold hid
   rw [List.mem_filter]
   exact ⟨List.mem_range.mpr (Heap.lt_size e1),@decide_eq_true _ (Classical.propDecidable _) ⟨q,hc⟩⟩
 ·rintro ⟨e1,e2⟩
  refine hideAll_get _ e1 λ hm=>?_
  unfold hid at hm
  rw [List.mem_filter] at hm
  refine yG λ G_ k_=>?_
  obtain ⟨q1,q2⟩:=@of_decide_eq_true _ (Classical.propDecidable _) hm.2
  refine k_ ?_
  rcases e2 with ⟨o',e2⟩ | e2
  ·replace e2:=q1.symm.trans e2; exact nsm e2
  ·exact q2 e2
theorem Prt.rs (len : H.length = R.length) (S : Prt H Hs σ) {j n : Nat} (e : σ[j]? = some n) : ∃ a,R[n]? = some a ∧ (RS σ R)[j]? = some a:=by
 obtain ⟨o,o',h1,_⟩:=S.at_ j n e
 have lt : n < R.length:=len ▸ (List.getElem?_eq_some_iff.mp h1).1
 refine ⟨R[n],List.getElem?_eq_getElem lt,?_⟩
 unfold RS
 simp only [List.getElem?_map,e,Option.map_some,List.getD_eq_getElem?_getD,List.getElem?_eq_getElem lt]
 rfl
theorem rn_in : Rn (λ m=>idx m σ 0) R (RS σ R):=λ n j e a ha=>by
 obtain ⟨k,rfl,e'⟩:=idx_get (show idx n σ 0 = some j from e)
 clear e
 unfold RS
 simp only [Nat.zero_add,List.getElem?_map,e',Option.map_some,List.getD_eq_getElem?_getD,ha]
 rfl
theorem Prt.act (len : H.length = R.length) (S : Prt H Hs σ) {j : Nat} {a : Addr} (x : Act Hs (RS σ R) j a) : ∃ n,σ[j]? = some n ∧ Act H R n a:=by
 refine yG λ G_ k_=>?_
 obtain ⟨o',e,hg,r⟩:=x
 have lt : j < σ.length:=S.len ▸ (List.getElem?_eq_some_iff.mp e).1
 obtain ⟨o,o2,h1,h2,_,h4⟩:=S.at_ j σ[j] (List.getElem?_eq_getElem lt)
 obtain ⟨a',r1,r2⟩:=S.rs len (List.getElem?_eq_getElem lt)
 refine k_ ?_
 replace r2:=r ▸ r2; cases r2
 exact ⟨σ[j],List.getElem?_eq_getElem lt,o,h1,h2,r1⟩
theorem Prt.enter (I : Inv prog w g₀ g L m R H h) (S : Prt H Hs σ) {m' : Str -> Option Value} (hn : h'.Ns h.objs.size m') (k : ∀ b o,h.get? b = some o -> h'.get? b = some o) :
  Inv prog w (G1 g₀ H R σ h) (hideAll h (acts Hs (RS σ R))) h.objs.size m' (RS σ R) Hs h' where
 S:=λ b o e=>k b o (G1_some.mp e).1
 ns:=hn
 K:=λ b o e=>⟨o.slots,k _ _ (of_hideAll _ e)⟩
 lo:=by
  have hnone : h.get? h.objs.size = none:=Heap.get?_none_of_le (Nat.le_refl _)
  refine ⟨?_,?_,?_⟩
  ·cases q : (G1 g₀ H R σ h).get? h.objs.size with
   | none=>rfl
   | some x=>have:=(G1_some.mp q).1; rw [hnone] at this; exact nsm this
  ·cases q : (hideAll h (acts Hs (RS σ R))).get? h.objs.size with
   | none=>rfl
   | some x=>have:=of_hideAll _ q; rw [hnone] at this; exact nsm this
  ·unfold G1; rw [hideAll_size]; exact Nat.le_refl _
 len:=by unfold RS; simp only [List.length_map,S.len]
 nd:=λ i j a x y=>by
  obtain ⟨n,e1,x⟩:=S.act I.len x
  obtain ⟨n',e2,y⟩:=S.act I.len y
  have:=I.nd _ _ a x y
  subst this
  exact (List.getElem?_inj (List.getElem?_eq_some_iff.mp e1).1 S.nd).mp (e1.trans e2.symm)
 ob:=λ j o' a e hg r=>by
  refine yG λ G_ k_=>?_
  obtain ⟨n,e1,o,h1,h2,h3⟩:=S.act I.len ⟨o',e,hg,r⟩
  obtain ⟨o2,o3,k1,k2,k3,k4⟩:=S.at_ j n e1
  replace k1:=h1 ▸ k1; cases k1
  replace k4:=e ▸ k4; cases k4
  obtain ⟨b,hb,ho⟩:=I.ob n o a h1 h2 h3
  refine k_ ?_
  exact ⟨b,k _ _ hb,ren_o rn_in k3 ho⟩
 out:=λ j a x=>by
  refine yG λ G_ k_=>?_
  obtain ⟨n,e1,y⟩:=S.act I.len x
  obtain ⟨b,hb⟩:=I.act_live y
  refine k_ ?_
  refine ⟨Nat.ne_of_lt (Heap.lt_size hb),hideAll_none _ (mem_acts.mpr ⟨j,x⟩),?_⟩
  cases q : (G1 g₀ H R σ h).get? a with
  | none=>rfl
  | some o=>
   rcases (G1_some.mp q).2 with ⟨o',z⟩ | ⟨i,z1,z2⟩
   ·rw [(I.out n a y).2.2] at z; exact nsm z
   ·rw [I.nd i n a z2 y] at z1
    exact absurd (List.mem_of_getElem? e1) z1
theorem setAll_len : ∀ {σ : List Nat} {os : List MO} {H : Hp},(setAll σ os H).length = H.length:=by
 intro l_
 induction l_ with
 | nil=>
  intro _ _
  delta setAll; rfl
 | cons n σ ih_=>
  intro z1_ H
  cases z1_ with
  | nil=>
   delta setAll; rfl
  | cons o os=>
   dsimp only [setAll]; simp only [ih_,List.length_set]
theorem setAll_not : ∀ {σ : List Nat} {os : List MO} {H : Hp} {i : Nat},i ∉ σ -> (setAll σ os H)[i]? = H[i]?:=by
 intro l_
 induction l_ with
 | nil=>
  intro _ _ _ _
  delta setAll; rfl
 | cons n σ ih_=>
  intro z1_ H i hn
  cases z1_ with
  | nil=>
   delta setAll; rfl
  | cons o os=>
   refine (ih_ λ q=>hn (.tail _ q)).trans ?_
   exact (List.getElem?_set_ne λ q=>hn (by refine q ▸ ?_; exact .head _))
theorem setAll_at : ∀ {σ : List Nat} {os : List MO} {H : Hp} {j i : Nat},σ.Nodup -> σ[j]? = some i -> i < H.length -> j < os.length -> (setAll σ os H)[i]? = os[j]?:=by
 intro σ
 induction σ with
 | nil=>intro _ _ _ _ _ e _ _; exact nsm e
 | cons n σ ih=>
  intro os H j i nd e lt lj
  cases os with
  | nil=>exact absurd lj (Nat.not_lt_zero _)
  | cons o os=>
  rw [List.nodup_cons] at nd
  cases j with
  | zero=>
   cases e
   exact (setAll_not nd.1).trans (List.getElem?_set_self lt)
  | succ j=>exact ih nd.2 e (by simp only [List.length_set]; exact lt) (Nat.lt_of_succ_lt_succ lj)
theorem toR_lt {σ τ : List Nat} {b n i : Nat} (lt : n < σ.length) (q : toR σ τ b n = some i) : σ[n]? = some i:=by
 unfold toR at q
 rw [show Nat.blt n σ.length = true from Nat.ble_eq_true_of_le lt] at q
 exact q
theorem blt_no {n m : Nat} (h : ¬ n < m) : Nat.blt n m = false:=by
 cases z : Nat.blt n m with
 | false=>rfl
 | true=>exact absurd (Nat.le_of_ble_eq_true z) h
theorem toR_ge {σ τ : List Nat} {b n i : Nat} (lt : ¬ n < σ.length) (q : toR σ τ b n = some i) : ∃ k,i = b + k ∧ τ[k]? = some n:=by
 unfold toR at q
 rw [blt_no lt] at q
 exact idx_get q
theorem toR_of {σ τ : List Nat} {b j i : Nat} (q : σ[j]? = some i) : toR σ τ b j = some i:=by
 unfold toR
 refine (show Nat.blt j σ.length = true from Nat.ble_eq_true_of_le (List.getElem?_eq_some_iff.mp q).1) ▸ ?_
 exact q
theorem idx_at {n : Nat} : ∀ {l : List Nat} {k b : Nat},l.Nodup -> l[k]? = some n -> idx n l b = some (b + k):=by
 intro l_
 induction l_ with
 | nil=>
  intro _ _ _ h
  exact nsm h
 | cons x l ih_=>
  intro k b nd h
  rw [List.nodup_cons] at nd
  dsimp only [idx]
  cases k with
  | zero=>cases h; rw [Nat.beq_refl]; rfl
  | succ k=>
   have hx : Nat.beq x n = false:=by
    cases z : Nat.beq x n with
    | false=>rfl
    | true=>rw [Nat.eq_of_beq_eq_true z] at nd; exact absurd (List.mem_of_getElem? (i:=k) h) nd.1
   refine hx ▸ ?_
   exact (ih_ (k:=k) nd.2 h).trans (congrArg some (Nat.add_right_comm b 1 k))
structure Lv (σ τ : List Nat) (H H2 : Hp) (os ns : List MO) : Prop where
 nd : σ.Nodup
 ndt : τ.Nodup
 lt2 : ∀ n ∈ τ,¬ n < σ.length
 slt : ∀ (j i : Nat),σ[j]? = some i -> i < H.length
 le2 : σ.length ≤ H2.length
 hos : mapO (renO (toR σ τ H.length)) (H2.take σ.length) = some os
 hns : mapO (λ m=>match H2[m]? with
  | some o=>renO (toR σ τ H.length) o
  | none=>none) τ = some ns
section
variable {τ : List Nat} {H2 : Hp} {os ns : List MO}
theorem Lv.los (V : Lv σ τ H H2 os ns) : os.length = σ.length:=by simp only [mapO_len V.hos,List.length_take,Nat.min_eq_left V.le2]
theorem Lv.lns (V : Lv σ τ H H2 os ns) : ns.length = τ.length:=mapO_len V.hns
theorem Lv.inj (V : Lv σ τ H H2 os ns) {n n' i : Nat} (q : toR σ τ H.length n = some i) (q' : toR σ τ H.length n' = some i) : n = n':=by
 by_cases lt : n < σ.length <;> by_cases lt' : n' < σ.length
 ·exact (List.getElem?_inj lt V.nd).mp ((toR_lt lt q).trans (toR_lt lt' q').symm)
 ·obtain ⟨k,rfl,_⟩:=toR_ge lt' q'; exact absurd (V.slt _ _ (toR_lt lt q)) (Nat.not_lt.mpr (Nat.le_add_right _ _))
 ·obtain ⟨k,rfl,_⟩:=toR_ge lt q; exact absurd (V.slt _ _ (toR_lt lt' q')) (Nat.not_lt.mpr (Nat.le_add_right _ _))
 ·obtain ⟨k,rfl,h1⟩:=toR_ge lt q
  obtain ⟨k',e2,h2⟩:=toR_ge lt' q'
  rw [<- Nat.add_left_cancel e2,h1] at h2
  exact Option.some.inj h2
theorem Lv.kp (V : Lv σ τ H H2 os ns) {n i : Nat} {o : MO} (q : toR σ τ H.length n = some i) (ho : H2[n]? = some o) : ∃ o',renO (toR σ τ H.length) o = some o' ∧ (setAll σ os H ++ ns)[i]? = some o':=by
 by_cases lt : n < σ.length
 ·have q:=toR_lt lt q
  have lo:=V.los.symm ▸ lt
  refine yG λ G_ k_=>?_
  obtain ⟨o2,h1,h2⟩:=mapO_get V.hos (List.getElem?_eq_getElem lo)
  replace h1:=(List.getElem?_take_of_lt lt) ▸ h1
  replace h1:=ho ▸ h1
  cases h1
  refine k_ ?_
  exact ⟨_,h2,by refine (List.getElem?_append_left (by simp only [setAll_len]; exact V.slt _ _ q)).trans ?_; refine (setAll_at V.nd q (V.slt _ _ q) lo).trans ?_; exact (List.getElem?_eq_getElem lo) ▸ rfl⟩
 ·obtain ⟨k,rfl,hk⟩:=toR_ge lt q
  have lk : k < ns.length:=V.lns ▸ (List.getElem?_eq_some_iff.mp hk).1
  refine yG λ G_ k_=>?_
  obtain ⟨n2,h1,h2⟩:=mapO_get V.hns (List.getElem?_eq_getElem lk)
  replace h1:=hk ▸ h1
  cases h1
  refine k_ ?_
  rw [ho] at h2
  refine ⟨_,h2,?_⟩
  refine (List.getElem?_append_right (by rw [setAll_len]; exact Nat.le_add_right _ _)).trans ?_
  rw [setAll_len,Nat.add_sub_cancel_left]
  exact List.getElem?_eq_getElem lk
theorem Lv.inv (V : Lv σ τ H H2 os ns) {i : Nat} {o3 : MO} (q : (setAll σ os H ++ ns)[i]? = some o3) : (i ∉ σ ∧ i < H.length ∧ H[i]? = some o3) ∨ ∃ n o2,toR σ τ H.length n = some i ∧ H2[n]? = some o2 ∧ renO (toR σ τ H.length) o2 = some o3:=by
 by_cases lt : i < H.length
 ·rw [List.getElem?_append_left (by simp only [setAll_len]; exact lt)] at q
  by_cases hm : i ∈ σ
  ·obtain ⟨j,hj⟩:=List.mem_iff_getElem?.mp hm
   have lj:=(List.getElem?_eq_some_iff.mp hj).1
   rw [setAll_at V.nd hj lt (V.los ▸ lj)] at q
   obtain ⟨o2,h1,h2⟩:=mapO_get V.hos q
   rw [List.getElem?_take_of_lt lj] at h1
   exact .inr ⟨j,o2,toR_of hj,h1,h2⟩
  ·replace q:=(setAll_not hm) ▸ q
   exact .inl ⟨hm,lt,q⟩
 ·have hle:=Nat.le_of_not_lt lt
  rw [List.getElem?_append_right (by rw [setAll_len]; exact hle),setAll_len] at q
  obtain ⟨n,h1,h2⟩:=mapO_get V.hns q
  cases ho2 : H2[n]? with
  | none=>replace h2:=ho2 ▸ h2; exact nsm h2
  | some o2=>
   rw [ho2] at h2
   refine .inr ⟨n,o2,?_,ho2,h2⟩
   unfold toR
   refine (blt_no (V.lt2 n (List.mem_of_getElem? h1))) ▸ ?_
   exact (idx_at V.ndt h1).trans (congrArg some (Nat.add_sub_cancel' hle))
theorem Lv.rn (V : Lv σ τ H H2 os ns) {R2 : List Addr} (len : H.length = R.length) (S : Prt H Hs σ) (e : Ext (RS σ R) R2) : Rn (toR σ τ H.length) R2 (R ++ τ.map λ m=>R2.getD m 0):=λ n i q a ha=>by
 by_cases lt : n < σ.length
 ·have q:=toR_lt lt q
  refine yG λ G_ k_=>?_
  obtain ⟨a',r1,r2⟩:=S.rs len q
  have:=e.get r2
  replace this:=ha ▸ this
  cases this
  refine k_ ?_
  refine (List.getElem?_append_left (len ▸ V.slt _ _ q)) ▸ ?_
  exact r1
 ·obtain ⟨k,rfl,hk⟩:=toR_ge lt q
  refine (List.getElem?_append_right (len ▸ Nat.le_add_right _ _)).trans ?_
  refine len ▸ ?_
  rw [Nat.add_sub_cancel_left,List.getElem?_map,hk,Option.map_some,List.getD_eq_getElem?_getD,ha]
  rfl
end
set_option tactic.hygienic true in
theorem back_parts {H2 H3 : Hp} {v v' : V} (S : Prt H Hs σ) (le2 : σ.length ≤ H2.length) (hb : back σ H v H2 = some (v',H3)) : ∃ τ os ns,Lv σ τ H H2 os ns ∧ renV (toR σ τ H.length) v = some v' ∧ H3 = setAll σ os H ++ ns:=by
 unfold back at hb
 cases hr : reach H2 400 (refV v ++ (H2.take σ.length).flatMap refO) (List.range σ.length) with
 | none=>rw [hr] at hb; exact nsm hb
 | some σ'=>
  rw [hr] at hb
  refine yG λ G_ k_=>?_
  obtain ⟨τ,rfl,hnd,hτ⟩:=reach_ok hr
  have hdrop : (List.range σ.length ++ τ).drop σ.length = τ:=List.drop_left' List.length_range
  dsimp only at hb
  replace hb:=hdrop ▸ hb
  have hnd:=hnd List.nodup_range
  rw [List.nodup_append] at hnd
  split at hb
  refine k_ ?_
  ·rename_i v1 os ns hv hos hns
   refine yG λ G_ k_=>?_
   cases hb
   refine k_ ?_
   exact ⟨τ,os,ns,⟨S.nd,hnd.2.1,λ n hn lt=>hnd.2.2 n (List.mem_range.mpr lt) n hn rfl,λ j i q=>let ⟨_,_,h,_⟩:=S.at_ _ _ q; (List.getElem?_eq_some_iff.mp h).1,le2,hos,hns⟩,hv,rfl⟩
  ·exact nsm hb
section
variable {τ : List Nat} {H2 : Hp} {os ns : List MO} {L' : Addr} {m' : Str -> Option Value} {R2 : List Addr} {h2 : Heap} {i : Nat} {a : Addr}
theorem Lv.inv2 (V : Lv σ τ H H2 os ns) (len : H.length = R.length) (len2 : H2.length = R2.length) (rn : Rn (toR σ τ H.length) R2 (R ++ τ.map λ m=>R2.getD m 0)) (x : Act (setAll σ os H ++ ns) (R ++ τ.map λ m=>R2.getD m 0) i a) :
  (i ∉ σ ∧ Act H R i a) ∨ ∃ n,toR σ τ H.length n = some i ∧ Act H2 R2 n a:=by
 obtain ⟨o3,h1,h2,h3⟩:=x
 rcases V.inv h1 with ⟨q1,q2,q3⟩ | ⟨n,o2,q1,q2,q3⟩
 ·replace h3:=(List.getElem?_append_left (len ▸ q2)).symm.trans h3
  exact .inl ⟨q1,o3,q3,h2,h3⟩
 ·have lt : n < R2.length:=len2 ▸ (List.getElem?_eq_some_iff.mp q2).1
  have:=rn _ _ q1 _ (List.getElem?_eq_getElem lt)
  replace this:=h3 ▸ this
  cases this
  exact .inr ⟨n,q1,o2,q2,(ren_gone q3) ▸ h2,List.getElem?_eq_getElem lt⟩
theorem other_ (I : Inv prog w g₀ g L m R H h) (hi : i ∉ σ) (x : Act H R i a) : ∃ b,h.get? a = some b ∧ (G1 g₀ H R σ h).get? a = some b:=by
 obtain ⟨b,hb⟩:=I.act_live x
 exact ⟨b,hb,G1_some.mpr ⟨hb,.inr ⟨i,hi,x⟩⟩⟩
theorem st_ (I : Inv prog w g₀ g L m R H h) (S : Prt H Hs σ) {b : Addr} {o : Obj} (e : g.get? b = some o) : ∃ sl,(hideAll h (acts Hs (RS σ R))).get? b = some { o with slots:=sl }:=by
 obtain ⟨sl,hs⟩:=I.K b o e
 refine ⟨sl,hideAll_get _ hs λ hm=>?_⟩
 obtain ⟨j,x⟩:=mem_acts.mp hm
 obtain ⟨n,_,y⟩:=S.act I.len x
 replace e:=((I.out n b y).2.1).symm.trans e
 exact nsm e
theorem gn_ (I : Inv prog w g₀ g L m R H h) (S : Prt H Hs σ) (q : (hideAll h (acts Hs (RS σ R))).get? a = none) : g.get? a = none:=by
 cases z : g.get? a with
 | none=>rfl
 | some y=>obtain ⟨sl,hs⟩:=st_ I S z; replace q:=hs ▸ q; cases q
theorem g0n_ (I : Inv prog w g₀ g L m R H h) (q : (G1 g₀ H R σ h).get? a = none) : g₀.get? a = none:=by
 cases z : g₀.get? a with
 | none=>rfl
 | some y=>replace q:=(G1_some.mpr ⟨I.S _ _ z,.inl ⟨y,z⟩⟩) ▸ q; cases q
theorem gL_ (I : Inv prog w g₀ g L m R H h) (S : Prt H Hs σ) {o : Obj} (e : h.get? L = some o) : (hideAll h (acts Hs (RS σ R))).get? L = some o:=hideAll_get _ e λ hm=>by
 obtain ⟨j,x⟩:=mem_acts.mp hm
 obtain ⟨n,_,y⟩:=S.act I.len x
 exact (I.out n L y).1 rfl
theorem Lv.state (V : Lv σ τ H H2 os ns) (I : Inv prog w g₀ g L m R H h) (S : Prt H Hs σ) (J : Inv prog w (G1 g₀ H R σ h) (hideAll h (acts Hs (RS σ R))) L' m' R2 H2 h2) (rn : Rn (toR σ τ H.length) R2 (R ++ τ.map λ m=>R2.getD m 0)) :
  Inv prog w g₀ g L m (R ++ τ.map λ m=>R2.getD m 0) (setAll σ os H ++ ns) h2 where
 S:=λ b o z=>J.S b o (G1_some.mpr ⟨I.S b o z,.inl ⟨o,z⟩⟩)
 ns:=Ns.slots I.ns λ o z=>J.K L o (gL_ I S z)
 K:=λ b o z=>let ⟨_,hs⟩:=st_ I S z; let ⟨sl',hs'⟩:=J.K b _ hs; ⟨sl',hs'⟩
 lo:=I.lo
 len:=by simp only [List.length_append,List.length_append,setAll_len,V.lns,List.length_map,I.len]
 nd:=λ i j a x y=>by
  rcases V.inv2 I.len J.len rn x with ⟨x1,x2⟩ | ⟨n,x1,x2⟩ <;> rcases V.inv2 I.len J.len rn y with ⟨y1,y2⟩ | ⟨n',y1,y2⟩
  ·exact I.nd i j a x2 y2
  ·obtain ⟨b,_,hb⟩:=other_ I x1 x2; rw [(J.out _ _ y2).2.2] at hb; exact nsm hb
  ·obtain ⟨b,_,hb⟩:=other_ I y1 y2; rw [(J.out _ _ x2).2.2] at hb; exact nsm hb
  ·rw [<- J.nd _ _ a x2 y2,x1] at y1
   exact Option.some.inj y1
 ob:=λ i o3 a e3 hg r=>by
  rcases V.inv e3 with ⟨q1,q2,q3⟩ | ⟨n,o2,q1,q2,q3⟩
  ·replace r:=(List.getElem?_append_left (I.len ▸ q2)) ▸ r
   refine yG λ G_ k_=>?_
   obtain ⟨b,hb,ho⟩:=I.ob i o3 a q3 hg r
   obtain ⟨b',hb',hg1⟩:=other_ I q1 ⟨o3,q3,hg,r⟩
   rw [hb] at hb'
   obtain rfl:=Option.some.inj hb'
   refine k_ ?_
   exact ⟨b,J.S _ _ hg1,ho.ext ⟨_,rfl⟩⟩
  ·have lt : n < R2.length:=J.len ▸ (List.getElem?_eq_some_iff.mp q2).1
   have:=rn _ _ q1 _ (List.getElem?_eq_getElem lt)
   replace this:=r ▸ this
   cases this
   obtain ⟨b,hb,ho⟩:=J.ob n o2 _ q2 ((ren_gone q3) ▸ hg) (List.getElem?_eq_getElem lt)
   exact ⟨b,hb,ren_o rn q3 ho⟩
 out:=λ i a x=>by
  rcases V.inv2 I.len J.len rn x with ⟨x1,x2⟩ | ⟨n,x1,x2⟩
  ·exact I.out i a x2
  ·have oa:=J.out n a x2
   refine ⟨λ q=>?_,gn_ I S oa.2.1,g0n_ I oa.2.2⟩
   refine yG λ G_ k_=>?_
   obtain ⟨o,z⟩:=I.frL
   refine k_ ?_
   replace oa:=q ▸ oa
   replace oa:=(gL_ I S z) ▸ oa
   cases oa.2.1
end
theorem Prt.leave (I : Inv prog w g₀ g L m R H h) (S : Prt H Hs σ) {L' : Addr} {m' : Str -> Option Value} {R2 : List Addr} {H2 : Hp} {h2 : Heap} (J : Inv prog w (G1 g₀ H R σ h) (hideAll h (acts Hs (RS σ R))) L' m' R2 H2 h2) (e : Ext (RS σ R) R2)
  {v v' : V} {H3 : Hp} (hb : back σ H v H2 = some (v',H3)) :
  ∃ R3,Ext R R3 ∧ Inv prog w g₀ g L m R3 H3 h2 ∧ (∀ x,VR R2 v x -> VR R3 v' x) ∧ ∀ n a fl,v = .ref n -> R2[n]? = some a -> (∃ C d x,H2[n]? = some (.exc C d x)) -> Tb (G1 g₀ H R σ h) (hideAll h (acts Hs (RS σ R))) fl R2 H2 a h2 -> ∃ n',v' = .ref n' ∧ R3[n']? = some a ∧ Tb g₀ g fl R3 H3 a h2:=by
 have le2 : σ.length ≤ H2.length:=by
  obtain ⟨T,hT⟩:=id e
  simp only [J.len,hT,List.length_append,RS,List.length_map]
  exact Nat.le_add_right _ _
 obtain ⟨τ,os,ns,V,hv,rfl⟩:=back_parts S le2 hb
 have rn:=V.rn I.len S e
 refine ⟨_,⟨_,rfl⟩,V.state I S J rn,λ x hx=>ren_v rn hv hx,λ n a fl hvn ha hexc t=>?_⟩
 subst hvn
 obtain ⟨n',hn',rfl⟩:=Option.map_eq_some_iff.mp (show (toR σ τ H.length n).map _root_.Mine.Internal.V.ref = some v' by simp only [<- hv]; unfold renV; dsimp only; cases toR σ τ H.length n <;> rfl)
 refine ⟨n',rfl,rn _ _ hn' _ ha,?_⟩
 refine yG λ G_ k_=>?_
 obtain ⟨i,C,d,oe,vs,T,oT,ts,f,⟨x0,xn,xH⟩,x2,x3,x4,x5,x6,x7,x8,x9,x10,x11,x12,x13⟩:=t
 obtain ⟨C2,d2,x2',hexc⟩:=hexc
 obtain rfl:=J.nd i n a ⟨_,xH,rfl,x2⟩ ⟨_,hexc,rfl,ha⟩
 obtain ⟨o',k1,k2⟩:=V.kp hn' xH
 obtain ⟨d',rfl⟩ : ∃ d',o' = .exc C d' x0:=by
  cases d with
  | none=>cases k1; exact ⟨_,rfl⟩
  | some d=>obtain ⟨l,_,rfl⟩:=Option.map_eq_some_iff.mp k1; exact ⟨_,rfl⟩
 refine k_ ?_
 refine ⟨n',C,d',oe,vs,T,oT,ts,f,⟨x0,xn,k2⟩,rn _ _ hn' _ ha,x3,x4,x5,x6,x7,x8,x9,x10,g0n_ I x11,gn_ I S x12,λ i3 y=>?_⟩
 rcases V.inv2 I.len J.len rn y with ⟨y1,y2⟩ | ⟨n2,y1,y2⟩
 ·obtain ⟨b,_,hb⟩:=other_ I y1 y2; replace hb:=x11.symm.trans hb; exact nsm hb
 ·exact x13 _ y2
end
abbrev PT:=(V -> Hp -> Prop) -> (Nat -> Hp -> Prop) -> Prop
noncomputable def orcK (σ : List Nat) (H : Hp) (K : V -> Hp -> Prop) : V -> Hp -> Prop:=λ v H2=>optK False (back σ H v H2) λ q=>K q.1 q.2
set_option backward.match.sparseCases false in
noncomputable def orcX (σ : List Nat) (H : Hp) (X : Nat -> Hp -> Prop) : Nat -> Hp -> Prop:=λ n H2=>match H2[n]? with
 | some (.exc _ _ _)=>optK False (back σ H (.ref n) H2) λ q=>match q.1 with
  | .ref n'=>X n' q.2
  | _=>False
 | _=>False
noncomputable def orc (need : Nat) (F : List V -> Hp -> Option PT) : Spec:=λ d hd args H K X fb=>match hd with
 | some _=>fb
 | none=>match Nat.ble need d with
  | false=>fb
  | true=>match grab H args with
   | none=>fb
   | some q=>match F q.2.2 q.2.1 with
    | none=>fb
    | some P=>P (orcK q.1 H K) (orcX q.1 H X)
section
variable {prog : Program} {w : World} {cx : Cx} {K : Frag} {mg mb : Str -> Option Value} {g₀ : Heap}
set_option tactic.hygienic true in
theorem grab_part {H : Hp} {args : List V} {σ : List Nat} {Hs : Hp} {as : List V} (e : grab H args = some (σ,Hs,as)) : Prt H Hs σ ∧ mapO (renV λ m=>idx m σ 0) args = some as:=by
 unfold grab at e
 split at e
 ·rename_i σ' hr
  split at e
  ·rename_i Hs' as' h1 h2
   refine yG λ G_ k_=>?_
   cases e
   obtain ⟨τ,e1,hnd,hτ⟩:=reach_ok hr
   simp only [List.nil_append] at e1
   subst e1
   refine k_ ?_
   have len:=mapO_len h1
   refine ⟨⟨hnd List.nodup_nil,len,λ j n hj=>?_⟩,h2⟩
   have lt : j < Hs.length:=len ▸ (List.getElem?_eq_some_iff.mp hj).1
   refine yG λ G_ k_=>?_
   obtain ⟨n',k1,k2⟩:=mapO_get h1 (List.getElem?_eq_getElem lt)
   replace k1:=hj ▸ k1
   cases k1
   obtain ⟨o,ho,hg⟩:=hτ n (List.mem_of_getElem? hj)
   refine k_ ?_
   rw [ho] at k2
   exact ⟨o,_,ho,hg,k2,List.getElem?_eq_getElem lt⟩
  ·exact nsm e
 ·exact nsm e
inductive Ch1 : MO -> MO -> Prop where
 | refl (o : MO) : Ch1 o o
 | cfl {p : Nat} {a b : List It} (h : flatI a = flatI b) : Ch1 (.cfl p a) (.cfl p b)
inductive Ch : Hp -> Hp -> Prop where
 | nil : Ch [] []
 | cons {o o' : MO} {H H' : Hp} (h : Ch1 o o') (t : Ch H H') : Ch (o :: H) (o' :: H')
theorem Ch.refl : ∀ H,Ch H H:=by
 intro l_
 induction l_ with
 | nil=>
  exact .nil
 | cons o H ih_=>
  exact .cons (.refl o) (ih_)
theorem Ch.len {H H' : Hp} (h : Ch H H') : H'.length = H.length:=by
 induction h with
 | nil=>rfl
 | cons _ _ ih=>simp only [List.length_cons,List.length_cons,ih]
theorem Ch.at {H H' : Hp} (h : Ch H H') {i : Nat} {o' : MO} (e : H'[i]? = some o') : ∃ o,H[i]? = some o ∧ Ch1 o o':=by
 induction h generalizing i with
 | nil=>exact nsm e
 | cons h1 _ ih=>
  cases i with
  | zero=>cases e; exact ⟨_,rfl,h1⟩
  | succ i=>exact ih (i:=i) e
theorem Ch1.gone {o o' : MO} (h : Ch1 o o') : o'.isGone = o.isGone:=by cases h <;> rfl
theorem Ch1.or {R : List Addr} {o o' : MO} {b : Obj} (h : Ch1 o o') (k : OR prog w R o b) : OR prog w R o' b:=by
 cases h with
 | refl=>exact k
 | cfl e=>obtain ⟨D,⟨h1,h2,h3⟩,es,n,k1,k2⟩:=k; exact ⟨D,⟨h1,h2,h3.trans e⟩,es,n,k1,k2⟩
theorem Ch.inv {g : Heap} {L : Addr} {m : Str -> Option Value} {R : List Addr} {H H' : Hp} {h : Heap} (x : Ch H H') (I : Inv prog w g₀ g L m R H h) : Inv prog w g₀ g L m R H' h:=
  have act : ∀ {i a},Act H' R i a -> Act H R i a:=λ ⟨o',e,hg,r⟩=>let ⟨o,e2,c⟩:=x.at e; ⟨o,e2,c.gone ▸ hg,r⟩
  { S:=I.S
    ns:=I.ns
    K:=I.K
    lo:=I.lo
    len:=x.len ▸ I.len
    nd:=λ i j a p q=>I.nd i j a (act p) (act q)
    ob:=λ i o' a e hg r=>by
      refine yG λ G_ k_=>?_
      obtain ⟨o,e2,c⟩:=x.at e
      obtain ⟨b,hb,ho⟩:=I.ob i o a e2 (c.gone ▸ hg) r
      refine k_ ?_
      exact ⟨b,hb,c.or ho⟩
    out:=λ i a p=>I.out i a (act p) }
abbrev Hyp (cx : Cx) (prog : Program) (w : World) (K : Frag) (mg mb : Str -> Option Value) (O : Addr -> Option Spec) : Prop:=
 ∀ g₁,Base K mg mb g₁ -> CxOk cx prog w K g₁ mg mb -> ∀ a S,O a = some S -> SpecOn prog w g₁ a S
noncomputable def runF (ih : Ev Prop) (fi : FnI) (d : Nat) (args : List V) (H : Hp) (k : V -> Hp -> Prop) (X : Nat -> Hp -> Prop) : Prop:=
 optK False (enterM fi args H) λ q=>runSs (λ φ st H K=>ih.s ⟨fi.scope,d,none⟩ φ st H K λ n _ H=>X n H) fi.body q.1 q.2 λ fl _ H'=>match fl with
  | .ret v=>k v H'
  | .next=>k .none H'
  | _=>False
theorem part_call {O : Addr -> Option Spec} (hO : Hyp cx prog w K mg mb O) (B : Base K mg mb g₀) (CX : CxOk cx prog w K g₀ mg mb) {f : Addr} {fi : FnI} (hf : cx.fn f = some fi) {need n : Nat} {σ : List Nat} {H Hs Hr : Hp} {args as : List V} {k : V -> Hp -> Prop} {x : Nat -> Hp -> Prop} (hch : Ch Hs Hr)
  (S : Prt H Hs σ) (has : mapO (renV λ m=>idx m σ 0) args = some as) (h : runF (RO O cx n) fi need as Hr k x) {A : Around} {sc : Scope} {d : Nat} {g : Heap} {L : Addr} {m : Str -> Option Value} {R : List Addr} {s : Shared} {xs : List Value} (hd : need + 1 ≤ d)
  (Z : Arnd g₀ A ⟨sc,d,none⟩ g L) (hdl : HdOk A none R) (I : Inv prog w g₀ g L m R H s.heap) (rv : VRs R args xs) {Qc : Value -> Shared -> Prop} {Ec : Value -> Shared -> Prop}
  (hQ : ∀ v H2 R2 m2 a s2,k v H2 -> Ext (RS σ R) R2 -> Inv prog w (G1 g₀ H R σ s.heap) (hideAll s.heap (acts Hs (RS σ R))) s.heap.objs.size m2 R2 H2 s2.heap -> VR R2 v a -> Same s s2 -> Qc a s2)
  (hE : ∀ n H2 R2 m2 a s2,x n H2 -> Ext (RS σ R) R2 -> Inv prog w (G1 g₀ H R σ s.heap) (hideAll s.heap (acts Hs (RS σ R))) s.heap.objs.size m2 R2 H2 s2.heap -> R2[n]? = some a -> Tb (G1 g₀ H R σ s.heap) (hideAll s.heap (acts Hs (RS σ R))) flN R2 H2 a s2.heap -> Same s s2 -> Ec (.ref a) s2) :
  codeAny (model prog w) A (.call (.ref f) ⟨xs,[]⟩) (λ r s'=>match r with | .ok (.ret v)=>Qc v s' | .ok _=>False | .error e=>Ec e s') s:=by
 have up : ∀ b o,g₀.get? b = some o -> (G1 g₀ H R σ s.heap).get? b = some o:=λ b o z=>G1_some.mpr ⟨I.S b o z,.inl ⟨o,z⟩⟩
 have B1:=B.mono up
 have CX1:=CX.mono up
 obtain ⟨fs,z1,z2⟩:=Z.fr
 have live : ∀ {L' : Addr},(∀ i,¬ Act H R i L') -> g₀.get? L' = none -> (∃ o,s.heap.get? L' = some o ∧ ∀ vs,o.data ≠ .fields vs) -> (G1 g₀ H R σ s.heap).get? L' = none ∧ ∃ o,(hideAll s.heap (acts Hs (RS σ R))).get? L' = some o ∧ ∀ vs,o.data ≠ .fields vs:=by
  intro L' ha h0 ⟨o,ho,hv⟩
  refine ⟨?_,o,hideAll_get _ ho λ hm=>?_,hv⟩
  ·cases q : (G1 g₀ H R σ s.heap).get? L' with
   | none=>rfl
   | some y=>
    rcases (G1_some.mp q).2 with ⟨o',z⟩ | ⟨i,_,z⟩
    ·replace z:=h0.symm.trans z; exact nsm z
    ·exact absurd z (ha i)
  ·obtain ⟨j,y⟩:=mem_acts.mp hm
   obtain ⟨n,_,y⟩:=S.act I.len y
   exact ha n y
 refine ok_def' (R:=RS σ R) (d:=need) (hd:=none) B1 (soundO B1 CX1 (hO _ B1 CX1) n).s (CX1.fn f fi hf) h (Nat.le_trans (Nat.add_le_add_left (Nat.mul_le_mul_left 3 hd) _) Z.dep) (Nat.le_trans (Nat.add_le_add_left (Nat.mul_le_mul_left 20 hd) _) Z.uni) z1 (λ e he=>?_) (show HdOk A none (RS σ R) from hdl) (B.k.keeps I.S)
  (λ h' m' hn hk=>hch.inv (S.enter I hn hk)) (ren_vs rn_in has rv) hQ hE
 refine yG λ G_ k_=>?_
 obtain ⟨q1,L',q2,q3,q4⟩:=z2 e he
 refine k_ ?_
 refine ⟨q1,L',q2,?_⟩
 have hl : (∀ i,¬ Act H R i L') ∧ ∃ o,s.heap.get? L' = some o ∧ ∀ vs,o.data ≠ .fields vs:=by
  have:=z2.enter I e he
  refine yG λ G_ k_=>?_
  obtain ⟨_,L2,p2,p3,o,p4,p5⟩:=this
  replace p2:=q2 ▸ p2
  cases p2
  refine k_ ?_
  refine ⟨λ i y=>?_,o,of_hideAll _ p4,p5⟩
  replace p4:=(hideAll_none _ (mem_acts.mpr ⟨i,y⟩)).symm.trans p4
  exact nsm p4
 exact live hl.1 q3 hl.2
set_option tactic.hygienic true in
theorem orc_on {O : Addr -> Option Spec} (hO : Hyp cx prog w K mg mb O) {f : Addr} {fi : FnI} (hf : cx.fn f = some fi) {need : Nat} {F : List V -> Hp -> Option PT}
  (hF : ∀ as Hs P,F as Hs = some P -> ∀ k x,P k x -> ∃ Hr n,Ch Hs Hr ∧ runF (RO O cx n) fi need as Hr k x) (B : Base K mg mb g₀) (CX : CxOk cx prog w K g₀ mg mb) : SpecOn prog w g₀ f (orc (need + 1) F):=by
 refine ⟨?_⟩
 intro d hd args H k X fb A sc g L m R s xs h Z hdl I rv Qc Ec hQ hE hfb
 unfold orc at h
 split at h
 ·exact hfb h
 ·split at h
  ·exact hfb h
  ·rename_i hn
   split at h
   ·exact hfb h
   ·rename_i q hg
    refine yG λ G_ k_=>?_
    obtain ⟨σ,Hs,as⟩:=q
    refine k_ ?_
    dsimp only at h
    split at h
    ·exact hfb h
    ·rename_i P hP
     refine yG λ G_ k_=>?_
     obtain ⟨S,has⟩:=grab_part hg
     obtain ⟨Hr,n,hch,hrun⟩:=hF _ _ _ hP _ _ h
     refine k_ ?_
     refine part_call hO B CX hf hch S has hrun (Nat.le_of_ble_eq_true hn) Z hdl I rv (λ v H2 R2 m2 a s2 hk e J r sm=>?_) λ n H2 R2 m2 a s2 hx e J ha t sm=>?_
     ·refine yG λ G_ k_=>?_
      obtain ⟨⟨v',H3⟩,hb,hk⟩:=optK_some hk
      obtain ⟨R3,e3,I3,hv,_⟩:=S.leave I J e hb
      refine k_ ?_
      exact hQ v' H3 R3 a s2 hk e3 I3 (hv a r) sm
     ·unfold orcX at hx
      split at hx
      ·rename_i C d' fr hex
       obtain ⟨⟨v',H3⟩,hb,hx⟩:=optK_some hx
       obtain ⟨R3,e3,I3,hv,ht⟩:=S.leave I J e hb
       obtain ⟨n',rfl,hn',t'⟩:=ht n a _ rfl ha ⟨C,d',fr,hex⟩ t
       exact hE n' H3 R3 a s2 hx e3 I3 hn' (.inr t') sm
      ·exact hx.elim
end
set_option backward.match.sparseCases false in
noncomputable def isGh : MO -> Bool
 | .rf _=>true
 | .gpot _ _=>true
 | .gcel=>true
 | .cfl _ _=>true
 | _=>false
inductive Gh1 : MO -> MO -> Prop where
 | self {o : MO} (h : isGh o = false) : Gh1 o o
 | rf (q : RF) : Gh1 (.rf q) q.mo
 | pot {c k : Nat} (st : Int) {i : Nat} (h : i ≤ k) : Gh1 (.gpot c k) (.list [.ref c,.int st,.int i])
 | cel (is : List Nat) (h : is.length ≤ 40) : Gh1 .gcel (.list (is.map λ i=>.int (.ofNat i)))
 | cfl {p : Nat} {its : List It} (D : List Nat) (h : p ≤ D.length ∧ D.length ≤ 1000000 ∧ D.drop p = flatI its) : Gh1 (.cfl p its) (.flds (csrF D p))
inductive Gh : Hp -> Hp -> Prop where
 | nil : Gh [] []
 | cons {o o' : MO} {H H' : Hp} (h : Gh1 o o') (t : Gh H H') : Gh (o :: H) (o' :: H')
section
variable {prog : Program} {w : World} {cx : Cx} {K : Frag} {mg mb : Str -> Option Value} {g₀ : Heap} {R : List Addr}
theorem Gh1.gone {o o' : MO} (h : Gh1 o o') : o'.isGone = o.isGone:=by
 cases h with
 | self=>rfl
 | rf q=>cases q <;> rfl
 | _=>rfl
theorem Gh1.back {o o' : MO} {b : Obj} (h : Gh1 o o') (k : OR prog w R o' b) : OR prog w R o b:=by
 cases h with
 | self=>exact k
 | rf q=>cases q <;> exact k
 | pot st hi=>exact ⟨st,_,hi,k⟩
 | cel is hi=>exact ⟨is,hi,k⟩
 | cfl D hD=>exact ⟨D,hD,k⟩
set_option tactic.hygienic true in
theorem Gh1.some {o : MO} {b : Obj} (k : OR prog w R o b) : ∃ o',Gh1 o o' ∧ OR prog w R o' b:=by
 cases hg : isGh o with
 | false=>exact ⟨o,.self hg,k⟩
 | true=>
  cases o <;> try (exact nft hg; done)
  ·exact let ⟨D,hD,k⟩:=k; ⟨_,.cfl D hD,k⟩
  ·rename_i q; exact ⟨_,.rf q,k.view⟩
  ·exact let ⟨st,i,hi,k⟩:=k; ⟨_,.pot st hi,k⟩
  ·exact let ⟨is,hi,k⟩:=k; ⟨_,.cel is hi,k⟩
theorem gone_gh {o : MO} (h : o.isGone = true) : isGh o = false:=by
 cases o <;> first | rfl | exact nft h
theorem Gh.len {H H' : Hp} (h : Gh H H') : H'.length = H.length:=by
 induction h with
 | nil=>rfl
 | cons _ _ ih=>simp only [List.length_cons,List.length_cons,ih]
theorem Gh.at {H H' : Hp} (h : Gh H H') {i : Nat} {o' : MO} (e : H'[i]? = some o') : ∃ o,H[i]? = some o ∧ Gh1 o o':=by
 induction h generalizing i with
 | nil=>exact nsm e
 | cons h1 _ ih=>
  cases i with
  | zero=>cases e; exact ⟨_,rfl,h1⟩
  | succ i=>exact ih (i:=i) e
theorem Gh.fwd {H H' : Hp} (h : Gh H H') {i : Nat} {o : MO} (e : H[i]? = some o) : ∃ o',H'[i]? = some o' ∧ Gh1 o o':=by
 induction h generalizing i with
 | nil=>exact nsm e
 | cons h1 _ ih=>
  cases i with
  | zero=>cases e; exact ⟨_,rfl,h1⟩
  | succ i=>exact ih (i:=i) e
theorem Gh.act {H H' : Hp} (h : Gh H H') {i : Nat} {a : Addr} : Act H' R i a ↔ Act H R i a:=by
 constructor
 ·rintro ⟨o',e,hg,r⟩
  obtain ⟨o,e2,g1⟩:=h.at e
  exact ⟨o,e2,g1.gone ▸ hg,r⟩
 ·rintro ⟨o,e,hg,r⟩
  obtain ⟨o',e2,g1⟩:=h.fwd e
  exact ⟨o',e2,g1.gone.symm ▸ hg,r⟩
theorem Gh.pick {h : Heap} : ∀ (H : Hp) (as : List Addr),H.length = as.length -> (∀ (i : Nat) (o : MO) (a : Addr),H[i]? = some o -> o.isGone = false -> as[i]? = some a -> ∃ b,h.get? a = some b ∧ OR prog w R o b) ->
  ∃ H',Gh H H' ∧ ∀ (i : Nat) (o : MO) (a : Addr),H'[i]? = some o -> o.isGone = false -> as[i]? = some a -> ∃ b,h.get? a = some b ∧ OR prog w R o b:=by
 intro l_
 induction l_ with
 | nil=>
  intro _ _ _
  exact ⟨[],.nil,λ i o a e=>nomatch e⟩
 | cons o H ih_=>
  intro z1_ e hob
  cases z1_ with
  | nil=>
   exact nomatch e
  | cons a as=>
   obtain ⟨H',h1,h2⟩:=ih_ as (Nat.succ.inj e) λ i o a e1 e2 e3=>hob (i + 1) o a e1 e2 e3
   cases hg : o.isGone with
   | true=>
    refine ⟨o :: H',.cons (.self (gone_gh hg)) h1,λ i p b e1 e2 e3=>?_⟩
    cases i with
    | zero=>cases e1; replace e2:=hg ▸ e2; cases e2
    | succ i=>exact h2 i p b e1 e2 e3
   | false=>
    refine yG λ G_ k_=>?_
    obtain ⟨b,hb,ho⟩:=hob 0 o a rfl hg rfl
    obtain ⟨o',h3,h4⟩:=Gh1.some ho
    refine k_ ?_
    refine ⟨o' :: H',.cons h3 h1,λ i p b' e1 e2 e3=>?_⟩
    cases i with
    | zero=>cases e1; obtain rfl:=Option.some.inj e3; exact ⟨b,hb,h4⟩
    | succ i=>exact h2 i p b' e1 e2 e3
theorem acts_gh {H H' : Hp} (h : Gh H H') : ∀ {R : List Addr},acts H' R = acts H R:=by
 induction h with
 | nil=>intro R; rfl
 | cons h1 _ ih=>
  intro R
  cases R with
  | nil=>rfl
  | cons a R=>
   dsimp only [acts]
   refine h1.gone ▸ ?_
   exact ih ▸ rfl
set_option tactic.hygienic true in
theorem Gh.inv {g : Heap} {L : Addr} {m : Str -> Option Value} {H H' : Hp} {h : Heap} (x : Gh H H') (I : Inv prog w g₀ g L m R H' h) : Inv prog w g₀ g L m R H h where
 S:=I.S
 ns:=I.ns
 K:=I.K
 lo:=I.lo
 len:=x.len ▸ I.len
 nd:=λ i j a p q=>I.nd i j a (x.act.mpr p) (x.act.mpr q)
 ob:=λ i o a e hg r=>by
  refine yG λ G_ k_=>?_
  obtain ⟨o',e',g1⟩:=x.fwd e
  obtain ⟨b,hb,ho⟩:=I.ob i o' a e' (g1.gone.symm ▸ hg) r
  refine k_ ?_
  exact ⟨b,hb,g1.back ho⟩
 out:=λ i a p=>I.out i a (x.act.mpr p)
set_option tactic.hygienic true in
theorem Prt.open_ {g : Heap} {L : Addr} {m : Str -> Option Value} {H Hs Hr : Hp} {h : Heap} {σ : List Nat} (I : Inv prog w g₀ g L m R H h) (S : Prt H Hs σ) (x : Gh Hs Hr)
    (hr : ∀ (i : Nat) (o : MO) (a : Addr),Hr[i]? = some o -> o.isGone = false -> (RS σ R)[i]? = some a -> ∃ b,h.get? a = some b ∧ OR prog w (RS σ R) o b) {m' : Str -> Option Value} {h' : Heap} (hn : h'.Ns h.objs.size m') (k : ∀ b o,h.get? b = some o -> h'.get? b = some o) :
    Inv prog w (G1 g₀ H R σ h) (hideAll h (acts Hs (RS σ R))) h.objs.size m' (RS σ R) Hr h':=
  have J:=S.enter I hn k
  { S:=J.S
    ns:=J.ns
    K:=J.K
    lo:=J.lo
    len:=x.len ▸ J.len
    nd:=λ i j a p q=>J.nd i j a (x.act.mp p) (x.act.mp q)
    ob:=λ i o a e hg r=>by
      obtain ⟨b,hb,ho⟩:=hr i o a e hg r
      exact ⟨b,k _ _ hb,ho⟩
    out:=λ i a p=>J.out i a (x.act.mp p) }
set_option tactic.hygienic true in
theorem open_call {O : Addr -> Option Spec} (hO : Hyp cx prog w K mg mb O) (B : Base K mg mb g₀) (CX : CxOk cx prog w K g₀ mg mb) {f : Addr} {fi : FnI} (hf : cx.fn f = some fi) {need : Nat} {σ : List Nat} {H Hs : Hp} {args as : List V} {k : V -> Hp -> Prop} {x : Nat -> Hp -> Prop}
  (S : Prt H Hs σ) (has : mapO (renV λ m=>idx m σ 0) args = some as) (h : ∀ Hr,Gh Hs Hr -> ∃ n,runF (RO O cx n) fi need as Hr (λ v H2=>∃ H2',Gh H2' H2 ∧ k v H2') (λ n H2=>∃ H2',Gh H2' H2 ∧ x n H2')) {A : Around} {sc : Scope} {d : Nat} {g : Heap} {L : Addr} {m : Str -> Option Value} {R : List Addr} {s : Shared} {xs : List Value} (hd : need + 1 ≤ d)
  (Z : Arnd g₀ A ⟨sc,d,none⟩ g L) (hdl : HdOk A none R) (I : Inv prog w g₀ g L m R H s.heap) (rv : VRs R args xs) {Qc : Value -> Shared -> Prop} {Ec : Value -> Shared -> Prop}
  (hQ : ∀ v H2 R2 m2 a s2,k v H2 -> Ext (RS σ R) R2 -> Inv prog w (G1 g₀ H R σ s.heap) (hideAll s.heap (acts Hs (RS σ R))) s.heap.objs.size m2 R2 H2 s2.heap -> VR R2 v a -> Same s s2 -> Qc a s2)
  (hE : ∀ n H2 R2 m2 a s2,x n H2 -> Ext (RS σ R) R2 -> Inv prog w (G1 g₀ H R σ s.heap) (hideAll s.heap (acts Hs (RS σ R))) s.heap.objs.size m2 R2 H2 s2.heap -> R2[n]? = some a -> Tb (G1 g₀ H R σ s.heap) (hideAll s.heap (acts Hs (RS σ R))) flN R2 H2 a s2.heap -> Same s s2 -> Ec (.ref a) s2) :
  codeAny (model prog w) A (.call (.ref f) ⟨xs,[]⟩) (λ r s'=>match r with | .ok (.ret v)=>Qc v s' | .ok _=>False | .error e=>Ec e s') s:=by
 have up : ∀ b o,g₀.get? b = some o -> (G1 g₀ H R σ s.heap).get? b = some o:=λ b o z=>G1_some.mpr ⟨I.S b o z,.inl ⟨o,z⟩⟩
 have B1:=B.mono up
 have CX1:=CX.mono up
 refine yG λ G_ k_=>?_
 obtain ⟨fs,z1,z2⟩:=Z.fr
 have live : ∀ {L' : Addr},(∀ i,¬ Act H R i L') -> g₀.get? L' = none -> (∃ o,s.heap.get? L' = some o ∧ ∀ vs,o.data ≠ .fields vs) -> (G1 g₀ H R σ s.heap).get? L' = none ∧ ∃ o,(hideAll s.heap (acts Hs (RS σ R))).get? L' = some o ∧ ∀ vs,o.data ≠ .fields vs:=by
  intro L' ha h0 ⟨o,ho,hv⟩
  refine ⟨?_,o,hideAll_get _ ho λ hm=>?_,hv⟩
  ·cases q : (G1 g₀ H R σ s.heap).get? L' with
   | none=>rfl
   | some y=>
    rcases (G1_some.mp q).2 with ⟨o',z⟩ | ⟨i,_,z⟩
    ·replace z:=h0.symm.trans z; exact nsm z
    ·exact absurd z (ha i)
  ·obtain ⟨j,y⟩:=mem_acts.mp hm
   obtain ⟨n,_,y⟩:=S.act I.len y
   exact ha n y
 obtain ⟨Hr,hgh,hr⟩:=Gh.pick (prog:=prog) (w:=w) (R:=RS σ R) (h:=s.heap) Hs (RS σ R) (by unfold RS; simp only [List.length_map,S.len]) λ i o a e hg r=>by
  refine yG λ G_ k_=>?_
  obtain ⟨n,e1,o1,h1,h2,h3⟩:=S.act I.len ⟨o,e,hg,r⟩
  obtain ⟨o2,o3,k1,k2,k3,k4⟩:=S.at_ i n e1
  replace k1:=h1 ▸ k1; cases k1
  replace k4:=e ▸ k4; cases k4
  obtain ⟨b,hb,ho⟩:=I.ob n o1 a h1 h2 h3
  refine k_ ?_
  exact ⟨b,hb,ren_o rn_in k3 ho⟩
 obtain ⟨n,hrun⟩:=h Hr hgh
 refine k_ ?_
 refine ok_def' (R:=RS σ R) (d:=need) (hd:=none) B1 (soundO B1 CX1 (hO _ B1 CX1) n).s (CX1.fn f fi hf) hrun (Nat.le_trans (Nat.add_le_add_left (Nat.mul_le_mul_left 3 hd) _) Z.dep) (Nat.le_trans (Nat.add_le_add_left (Nat.mul_le_mul_left 20 hd) _) Z.uni) z1 (λ e he=>?_) (show HdOk A none (RS σ R) from hdl) (B.k.keeps I.S)
  (λ h' m' hn hk=>S.open_ I hgh hr hn hk) (ren_vs rn_in has rv)
  (λ v H2 R2 m2 a s2 hk e J r sm=>?_) λ n H2 R2 m2 a s2 hx e J ha t sm=>?_
 ·refine yG λ G_ k_=>?_
  obtain ⟨q1,L',q2,q3,q4⟩:=z2 e he
  refine k_ ?_
  refine ⟨q1,L',q2,?_⟩
  have hl : (∀ i,¬ Act H R i L') ∧ ∃ o,s.heap.get? L' = some o ∧ ∀ vs,o.data ≠ .fields vs:=by
   have:=z2.enter I e he
   refine yG λ G_ k_=>?_
   obtain ⟨_,L2,p2,p3,o,p4,p5⟩:=this
   replace p2:=q2 ▸ p2
   cases p2
   refine k_ ?_
   refine ⟨λ i y=>?_,o,of_hideAll _ p4,p5⟩
   replace p4:=(hideAll_none _ (mem_acts.mpr ⟨i,y⟩)).symm.trans p4
   exact nsm p4
  exact live hl.1 q3 hl.2
 ·refine yG λ G_ k_=>?_
  obtain ⟨H2',g2,hk⟩:=hk
  refine k_ ?_
  exact hQ v H2' R2 m2 a s2 hk e (g2.inv J) r sm
 ·obtain ⟨H2',g2,hx⟩:=hx
  refine hE n H2' R2 m2 a s2 hx e (g2.inv J) ha ?_ sm
  refine yG λ G_ k_=>?_
  obtain ⟨i,C,dd,oe,vs,T,oT,ts,f,⟨x0,xn,xH⟩,x2,x3,x4,x5,x6,x7,x8,x9,x10,x11,x12,x13⟩:=t
  obtain ⟨o',e',gg⟩:=g2.at xH
  have : o' = .exc C dd x0:=by
   generalize hq : MO.exc C dd x0 = q at gg
   cases gg <;> first | rfl | cases hq | (rename_i q; cases q <;> cases hq)
  subst this
  refine k_ ?_
  exact ⟨i,C,dd,oe,vs,T,oT,ts,f,⟨x0,xn,e'⟩,x2,x3,x4,x5,x6,x7,x8,x9,x10,x11,x12,λ j y=>x13 j (g2.act.mpr y)⟩
set_option tactic.hygienic true in
theorem orcG_on {O : Addr -> Option Spec} (hO : Hyp cx prog w K mg mb O) {f : Addr} {fi : FnI} (hf : cx.fn f = some fi) {need : Nat} {F : List V -> Hp -> Option PT}
  (hF : ∀ as Hs P,F as Hs = some P -> ∀ k x,P k x -> ∀ Hr,Gh Hs Hr -> ∃ n,runF (RO O cx n) fi need as Hr (λ v H2=>∃ H2',Gh H2' H2 ∧ k v H2') (λ n H2=>∃ H2',Gh H2' H2 ∧ x n H2')) (B : Base K mg mb g₀) (CX : CxOk cx prog w K g₀ mg mb) : SpecOn prog w g₀ f (orc (need + 1) F):=by
 refine ⟨?_⟩
 intro d hd args H k X fb A sc g L m R s xs h Z hdl I rv Qc Ec hQ hE hfb
 unfold orc at h
 split at h
 ·exact hfb h
 ·split at h
  ·exact hfb h
  ·rename_i hn
   split at h
   ·exact hfb h
   ·rename_i q hg
    refine yG λ G_ k_=>?_
    obtain ⟨σ,Hs,as⟩:=q
    refine k_ ?_
    dsimp only at h
    split at h
    ·exact hfb h
    ·rename_i P hP
     obtain ⟨S,has⟩:=grab_part hg
     refine open_call hO B CX hf S has (hF _ _ _ hP _ _ h) (Nat.le_of_ble_eq_true hn) Z hdl I rv (λ v H2 R2 m2 a s2 hk e J r sm=>?_) λ n H2 R2 m2 a s2 hx e J ha t sm=>?_
     ·refine yG λ G_ k_=>?_
      obtain ⟨⟨v',H3⟩,hb,hk⟩:=optK_some hk
      obtain ⟨R3,e3,I3,hv,_⟩:=S.leave I J e hb
      refine k_ ?_
      exact hQ v' H3 R3 a s2 hk e3 I3 (hv a r) sm
     ·unfold orcX at hx
      split at hx
      ·rename_i C d' fr hex
       obtain ⟨⟨v',H3⟩,hb,hx⟩:=optK_some hx
       obtain ⟨R3,e3,I3,hv,ht⟩:=S.leave I J e hb
       obtain ⟨n',rfl,hn',t'⟩:=ht n a _ rfl ha ⟨C,d',fr,hex⟩ t
       exact hE n' H3 R3 a s2 hx e3 I3 hn' (.inr t') sm
      ·exact hx.elim
end
inductive Wk1 : MO -> MO -> Prop where
 | refl (o : MO) : Wk1 o o
 | rf (q : RF) : Wk1 (.rf q) q.mo
 | pot {c k k' : Nat} (h : k ≤ k') : Wk1 (.gpot c k') (.gpot c k)
inductive Wk : Hp -> Hp -> Prop where
 | nil : Wk [] []
 | cons {o o' : MO} {H H' : Hp} (h : Wk1 o o') (t : Wk H H') : Wk (o :: H) (o' :: H')
section
variable {prog : Program} {w : World} {cx : Cx} {K : Frag} {mg mb : Str -> Option Value} {g₀ : Heap} {R : List Addr}
theorem Wk.refl : ∀ H,Wk H H:=by
 intro l_
 induction l_ with
 | nil=>
  exact .nil
 | cons o H ih_=>
  exact .cons (.refl o) (ih_)
theorem Wk1.gone {o o' : MO} (h : Wk1 o o') : o'.isGone = o.isGone:=by
 cases h with
 | rf q=>cases q <;> rfl
 | _=>rfl
theorem Wk1.back {o o' : MO} {b : Obj} (h : Wk1 o o') (k : OR prog w R o' b) : OR prog w R o b:=by
 cases h with
 | refl=>exact k
 | rf q=>cases q <;> exact k
 | pot h=>obtain ⟨st,i,hi,k⟩:=k; exact ⟨st,i,Nat.le_trans hi h,k⟩
theorem Wk.len {H H' : Hp} (h : Wk H H') : H'.length = H.length:=by
 induction h with
 | nil=>rfl
 | cons _ _ ih=>simp only [List.length_cons,List.length_cons,ih]
theorem Wk.fwd {H H' : Hp} (h : Wk H H') {i : Nat} {o : MO} (e : H[i]? = some o) : ∃ o',H'[i]? = some o' ∧ Wk1 o o':=by
 induction h generalizing i with
 | nil=>exact nsm e
 | cons h1 _ ih=>
  cases i with
  | zero=>cases e; exact ⟨_,rfl,h1⟩
  | succ i=>exact ih (i:=i) e
theorem Wk.act {H H' : Hp} (h : Wk H H') {i : Nat} {a : Addr} : Act H R i a -> Act H' R i a:=by
 rintro ⟨o,e,hg,r⟩
 obtain ⟨o',e2,g1⟩:=h.fwd e
 exact ⟨o',e2,g1.gone.symm ▸ hg,r⟩
set_option tactic.hygienic true in
theorem Wk.inv {g : Heap} {L : Addr} {m : Str -> Option Value} {H H' : Hp} {h : Heap} (x : Wk H H') (I : Inv prog w g₀ g L m R H' h) : Inv prog w g₀ g L m R H h where
 S:=I.S
 ns:=I.ns
 K:=I.K
 lo:=I.lo
 len:=x.len ▸ I.len
 nd:=λ i j a p q=>I.nd i j a (x.act p) (x.act q)
 ob:=λ i o a e hg r=>by
  refine yG λ G_ k_=>?_
  obtain ⟨o',e',g1⟩:=x.fwd e
  obtain ⟨b,hb,ho⟩:=I.ob i o' a e' (g1.gone.symm ▸ hg) r
  refine k_ ?_
  exact ⟨b,hb,g1.back ho⟩
 out:=λ i a p=>I.out i a (x.act p)
set_option tactic.hygienic true in
theorem orcW_on {O : Addr -> Option Spec} (hO : Hyp cx prog w K mg mb O) {f : Addr} {fi : FnI} (hf : cx.fn f = some fi) {need : Nat} {F : List V -> Hp -> Option PT}
  (hF : ∀ as Hs P,F as Hs = some P -> ∀ k x,P k x -> ∃ n,runF (RO O cx n) fi need as Hs (λ v H2=>∃ H2',Wk H2' H2 ∧ k v H2') λ _ _=>False) (B : Base K mg mb g₀) (CX : CxOk cx prog w K g₀ mg mb) : SpecOn prog w g₀ f (orc (need + 1) F):=by
 refine ⟨?_⟩
 intro d hd args H k X fb A sc g L m R s xs h Z hdl I rv Qc Ec hQ hE hfb
 unfold orc at h
 split at h
 ·exact hfb h
 ·split at h
  ·exact hfb h
  ·rename_i hn
   split at h
   ·exact hfb h
   ·rename_i q hg
    refine yG λ G_ k_=>?_
    obtain ⟨σ,Hs,as⟩:=q
    refine k_ ?_
    dsimp only at h
    split at h
    ·exact hfb h
    ·rename_i P hP
     refine yG λ G_ k_=>?_
     obtain ⟨S,has⟩:=grab_part hg
     obtain ⟨n,hrun⟩:=hF _ _ _ hP _ _ h
     refine k_ ?_
     refine part_call hO B CX hf (Ch.refl _) S has hrun (Nat.le_of_ble_eq_true hn) Z hdl I rv (λ v H2 R2 m2 a s2 hk e J r sm=>?_) λ n H2 R2 m2 a s2 hx e J ha t sm=>hx.elim
     refine yG λ G_ k_=>?_
     obtain ⟨H2',hw,hk⟩:=hk
     obtain ⟨⟨v',H3⟩,hb,hk⟩:=optK_some hk
     obtain ⟨R3,e3,I3,hv,_⟩:=S.leave I (hw.inv J) e hb
     refine k_ ?_
     exact hQ v' H3 R3 a s2 hk e3 I3 (hv a r) sm
end
section
variable {prog : Program} {w : World} {cx : Cx} {K : Frag} {mg mb : Str -> Option Value} {g₀ : Heap}
theorem Inv.sub {g : Heap} {L : Addr} {m : Str -> Option Value} {R : List Addr} {H Hs : Hp} {h : Heap} {ρ : List Nat} (I : Inv prog w g₀ g L m R H h) (S : Prt H Hs ρ) : Inv prog w g₀ g L m (RS ρ R) Hs h where
 S:=I.S
 ns:=I.ns
 K:=I.K
 lo:=I.lo
 len:=by unfold RS; simp only [List.length_map,S.len]
 nd:=λ i j a x y=>by
  obtain ⟨n,e1,x⟩:=S.act I.len x
  obtain ⟨n',e2,y⟩:=S.act I.len y
  have:=I.nd _ _ a x y
  subst this
  exact (List.getElem?_inj (List.getElem?_eq_some_iff.mp e1).1 S.nd).mp (e1.trans e2.symm)
 ob:=λ j o' a e hg r=>by
  refine yG λ G_ k_=>?_
  obtain ⟨n,e1,o,h1,h2,h3⟩:=S.act I.len ⟨o',e,hg,r⟩
  obtain ⟨o2,o3,k1,k2,k3,k4⟩:=S.at_ j n e1
  replace k1:=h1 ▸ k1; cases k1
  replace k4:=e ▸ k4; cases k4
  obtain ⟨b,hb,ho⟩:=I.ob n o a h1 h2 h3
  refine k_ ?_
  exact ⟨b,hb,ren_o rn_in k3 ho⟩
 out:=λ i a x=>by
  refine yG λ G_ k_=>?_
  obtain ⟨n,_,y⟩:=S.act I.len x
  refine k_ ?_
  exact I.out n a y
noncomputable def Cut (n : Nat) (v : V) (H : Hp) (v' : V) (H' : Hp) : Prop:=∃ τ Hs,Prt H Hs (List.range n ++ τ) ∧ renV (λ m=>idx m (List.range n ++ τ) 0) v = some v' ∧ Wk H' Hs
set_option tactic.hygienic true in
theorem ext_cut {R : List Addr} {n : Nat} {τ : List Nat} {R2 : List Addr} (hn : R.length = n) (e : Ext R R2) : Ext R (RS (List.range n ++ τ) R2):=by
 obtain ⟨T,rfl⟩:=e
 refine ⟨RS τ (R ++ T),?_⟩
 refine List.map_append.trans ?_
 congr 1
 subst hn
 refine List.ext_getElem? λ i=>?_
 refine (List.getElem?_map).trans ?_
 by_cases h : i < R.length
 ·simp only [List.getElem?_range h,Option.map_some,List.getD_eq_getElem?_getD,List.getElem?_append_left h,List.getElem?_eq_getElem h]
  rfl
 ·refine Eq.trans ?_ (List.getElem?_eq_none (by simpa using h)).symm; rw [List.getElem?_eq_none (by simpa using h)]
  rfl
set_option tactic.hygienic true in
theorem orcC_on {O : Addr -> Option Spec} (hO : Hyp cx prog w K mg mb O) {f : Addr} {fi : FnI} (hf : cx.fn f = some fi) {need : Nat} {F : List V -> Hp -> Option PT}
  (hF : ∀ as Hs P,F as Hs = some P -> ∀ k x,P k x -> ∃ n k',runF (RO O cx n) fi need as Hs k' (λ _ _=>False) ∧ ∀ v H2,k' v H2 -> ∃ v' H2',Cut Hs.length v H2 v' H2' ∧ k v' H2') (B : Base K mg mb g₀) (CX : CxOk cx prog w K g₀ mg mb) : SpecOn prog w g₀ f (orc (need + 1) F):=by
 refine ⟨?_⟩
 intro d hd args H k X fb A sc g L m R s xs h Z hdl I rv Qc Ec hQ hE hfb
 unfold orc at h
 split at h
 ·exact hfb h
 ·split at h
  ·exact hfb h
  ·rename_i hn
   split at h
   ·exact hfb h
   ·rename_i q hg
    refine yG λ G_ k_=>?_
    obtain ⟨σ,Hs,as⟩:=q
    refine k_ ?_
    dsimp only at h
    split at h
    ·exact hfb h
    ·rename_i P hP
     refine yG λ G_ k_=>?_
     obtain ⟨S,has⟩:=grab_part hg
     obtain ⟨n,k',hrun,himp⟩:=hF _ _ _ hP _ _ h
     refine k_ ?_
     refine part_call hO B CX hf (Ch.refl _) S has hrun (Nat.le_of_ble_eq_true hn) Z hdl I rv (λ v H2 R2 m2 a s2 hk e J r sm=>?_) λ n H2 R2 m2 a s2 hx e J ha t sm=>hx.elim
     refine yG λ G_ k_=>?_
     obtain ⟨v',H2',⟨τ,Hc,P2,hv,hw⟩,hk⟩:=himp v H2 hk
     obtain ⟨⟨v3,H3⟩,hb,hk⟩:=optK_some hk
     obtain ⟨R3,e3,I3,hv3,_⟩:=S.leave I (hw.inv (J.sub P2)) (ext_cut (by unfold RS; simp only [List.length_map,S.len]) e) hb
     refine k_ ?_
     exact hQ v3 H3 R3 a s2 hk e3 I3 (hv3 a (ren_v rn_in hv r)) sm
end
abbrev pw : Program:=PySem.Challenge.pw_nn0177_01
noncomputable def PB : List Stmt:=pw.main.body
noncomputable def nthS : List Stmt -> Nat -> Stmt
 | [],_=>.Pass default
 | s :: r,n=>match n with
  | 0=>s
  | n + 1=>nthS r n
noncomputable def sA (k : Nat) : Stmt:=nthS PB k
set_option backward.match.sparseCases false
noncomputable def mA (k j : Nat) : Stmt:=match sA k with
 | .ClassDef _ _ _ b _ _ _ _ _ _ _=>nthS b j
 | _=>.Pass default
noncomputable def tS (k : Nat) : Str:=match sA k with
 | .Assign _ (.Constant (.str x) _ _) _=>x
 | _=>Str.empty
noncomputable def fD (st : Stmt) (q : String) (g : Addr) (d m c : Value) : Data:=match st with
 | .FunctionDef n a b _ _ _ sc _ _ _=>.func { name:=n,qualname:=Str.ofString q,params:=a,body:=.stmts b,scope:=sc,globals:=g,closure:=[],defaults:=d,kwdefaults:=.none,pyModule:=m,code:=c }
 | _=>.plain
set_option backward.match.sparseCases true
noncomputable def s_ (x : String) (t : Nat) : Value:=.str (Str.ofString x) t
noncomputable def i_ (n t : Nat) : Value:=.int (Int.ofNat n) t
noncomputable def j_ (n t : Nat) : Value:=.int (-(Int.ofNat n)) t
noncomputable def e_ (P : Params) (x : String) (t : Nat) (v : Value) : DictEntry:=⟨PyData.keyHash P (Str.ofString x),.str (Str.ofString x) t,v⟩
noncomputable def tO (l : List Value) : Obj:={ cls:=.type "tuple",data:=.seq ⟨l⟩ }
noncomputable def rO (l : List Value) : Obj:={ cls:=.none,data:=.fields ⟨l⟩ }
noncomputable def gO (l : List (Option Value)) : Obj:={ cls:=.type "frame",slots:=⟨l⟩ }
noncomputable def dO (c : Value) (l : List DictEntry) (n : Nat) : Obj:={ cls:=c,data:=.dict ⟨l⟩ n }
noncomputable def xO (c : Value) (d : Option Addr) (dt : Data) (l : List (Option Value)) : Obj:=⟨c,d,dt,⟨l⟩⟩
noncomputable def bP : Obj:=xO (.type "builtin_function_or_method") none (.fields ⟨[.builtin "type.__prepare__",.type "type"]⟩) []
noncomputable def f0 (st : Stmt) (q : String) : Obj:=xO .none none (fD st q 0 .none .none .none) []
noncomputable def f1 (st : Stmt) (q : String) (g : Addr) (d : Value) (m : String) (t : Nat) (c : Addr) : Obj:=xO (.type "function") none (fD st q g d (s_ m t) (.ref c)) []
noncomputable def cO (n : String) (t0 : Nat) (q : String) (t1 t2 a b c d e : Nat) (x8 x9 : Value) (x10 : Nat) (x11 x12 x13 x14 x15 : Value) (x16 x17 t18 : Nat) : Obj:=
 { cls:=.type "code",data:=.fields ⟨[s_ n t0,s_ q t1,s_ "/claim/cut.py" t2,i_ a 0,i_ b 0,i_ c 0,i_ d 0,i_ e 0,x8,x9,i_ x10 0,x11,x12,x13,x14,x15,i_ x16 0,i_ x17 0,s_ "/claim/cut.py" t18]⟩ }
noncomputable def bt : Nat -> List Obj -> BT
 | 0,_=>.nil
 | n + 1,l=>match l with
  | []=>.nil
  | x :: r=>.node x (bt n (odd r)) (bt n (even r))
where
 odd : List Obj -> List Obj
  | []=>[]
  | x :: r=>match r with
   | []=>[x]
   | _ :: r=>x :: odd r
 even : List Obj -> List Obj
  | []=>[]
  | _ :: r=>match r with
   | []=>[]
   | y :: r=>y :: even r
noncomputable def mkEs (P : Params) (l : List (String × Nat × Value)) : List DictEntry:=l.map λ r=>e_ P r.1 r.2.1 r.2.2
noncomputable def ocRows : List (String × Nat × Value):=[("Euro",1151,i_ 8364 1152),("quotesinglbase",1154,i_ 8218 1155),("florin",1157,i_ 402 1158),("quotedblbase",1160,i_ 8222 1161),("ellipsis",1163,i_ 8230 1164),("dagger",1166,i_ 8224 1167),("daggerdbl",1169,i_ 8225 1170),("circumflex",1172,i_ 710 1173),("perthousand",1175,i_ 8240 1176),("Scaron",1178,i_ 352 1179),("guilsinglleft",1181,i_ 8249 1182),("OE",1184,i_ 338 1185),("Zcaron",1187,i_ 381 1188),("quoteleft",1190,i_ 8216 1191),("quoteright",1193,i_ 8217 1194),("quotedblleft",1196,i_ 8220 1197),("quotedblright",1199,i_ 8221 1200),("bullet",1202,i_ 8226 1203),("endash",1205,i_ 8211 1206),("emdash",1208,i_ 8212 1209),("tilde",1211,i_ 732 1212),("trademark",1214,i_ 8482 1215),("scaron",1217,i_ 353 1218),("guilsinglright",1220,i_ 8250 1221),("oe",1223,i_ 339 1224),("zcaron",1226,i_ 382 1227),("Ydieresis",1229,i_ 376 1230),("fraction",1232,i_ 8260 1233),("fi",1235,i_ 64257 1236),("fl",1238,i_ 64258 1239),("breve",1241,i_ 728 1242),("dotaccent",1244,i_ 729 1245),("ring",1247,i_ 730 1248),("hungarumlaut",1250,i_ 733 1251),("ogonek",1253,i_ 731 1254),("caron",1255,i_ 711 1256),("Lslash",1257,i_ 321 1258),("lslash",1259,i_ 322 1260),("dotlessi",1261,i_ 305 1262)]
noncomputable def codes : List Value:=[i_ 1 0,i_ 0 0,.ref 20,i_ 5 0,i_ 0 0,.ref 27,i_ 14 0,i_ 0 0,.ref 55,i_ 16 0,i_ 0 0,.ref 67,i_ 24 0,i_ 0 0,.ref 79,i_ 71 0,i_ 0 0,.ref 177,i_ 73 0,i_ 0 0,.ref 184,i_ 79 0,i_ 0 0,.ref 191,i_ 84 0,i_ 0 0,.ref 198,i_ 108 0,i_ 0 0,.ref 205,i_ 112 0,i_ 0 0,.ref 226,i_ 117 0,i_ 0 0,.ref 248,i_ 122 0,i_ 0 0,.ref 269,i_ 130 0,i_ 0 0,.ref 297,i_ 152 0,i_ 0 0,.ref 304,i_ 154 0,i_ 0 0,.ref 311,i_ 180 0,i_ 0 0,.ref 349,i_ 182 0,i_ 0 0,.ref 356,i_ 184 0,i_ 0 0,.ref 363,i_ 186 0,i_ 0 0,.ref 370,i_ 271 0,i_ 0 0,.ref 478,i_ 279 0,i_ 0 0,.ref 485,i_ 291 0,i_ 0 0,.ref 493,i_ 307 0,i_ 0 0,.ref 500,i_ 314 0,i_ 0 0,.ref 507,i_ 323 0,i_ 0 0,.ref 514,i_ 343 0,i_ 0 0,.ref 519,i_ 358 0,i_ 0 0,.ref 526,i_ 366 0,i_ 0 0,.ref 533,i_ 384 0,i_ 0 0,.ref 540,i_ 399 0,i_ 0 0,.ref 547,i_ 407 0,i_ 0 0,.ref 571,i_ 411 0,i_ 0 0,.ref 578,i_ 425 0,i_ 0 0,.ref 585,i_ 430 0,i_ 0 0,.ref 590,i_ 432 0,i_ 0 0,.ref 597,i_ 440 0,i_ 0 0,.ref 602,i_ 449 0,i_ 0 0,.ref 609,i_ 458 0,i_ 0 0,.ref 616,i_ 462 0,i_ 0 0,.ref 623,i_ 467 0,i_ 0 0,.ref 630,i_ 473 0,i_ 0 0,.ref 637,i_ 477 0,i_ 0 0,.ref 642,i_ 486 0,i_ 0 0,.ref 649,i_ 492 0,i_ 0 0,.ref 656,i_ 499 0,i_ 0 0,.ref 661,i_ 506 0,i_ 0 0,.ref 668,i_ 524 0,i_ 0 0,.ref 675,i_ 551 0,i_ 0 0,.ref 684,i_ 555 0,i_ 0 0,.ref 689,i_ 560 0,i_ 0 0,.ref 696,i_ 570 0,i_ 0 0,.ref 701,i_ 580 0,i_ 0 0,.ref 708,i_ 596 0,i_ 0 0,.ref 713,i_ 610 0,i_ 0 0,.ref 720,i_ 617 0,i_ 0 0,.ref 727,i_ 619 0,i_ 0 0,.ref 734,i_ 629 0,i_ 0 0,.ref 739,i_ 642 0,i_ 0 0,.ref 744,i_ 648 0,i_ 0 0,.ref 753,i_ 652 0,i_ 0 0,.ref 760,i_ 656 0,i_ 0 0,.ref 765,i_ 663 0,i_ 0 0,.ref 772,i_ 668 0,i_ 0 0,.ref 779,i_ 676 0,i_ 0 0,.ref 786,i_ 679 0,i_ 0 0,.ref 793,i_ 682 0,i_ 0 0,.ref 800,i_ 689 0,i_ 0 0,.ref 807,i_ 693 0,i_ 0 0,.ref 814,i_ 700 0,i_ 0 0,.ref 821,i_ 706 0,i_ 0 0,.ref 828,i_ 733 0,i_ 0 0,.ref 869,i_ 737 0,i_ 0 0,.ref 876,i_ 740 0,i_ 0 0,.ref 883,i_ 743 0,i_ 0 0,.ref 888,i_ 749 0,i_ 0 0,.ref 895,i_ 760 0,i_ 0 0,.ref 902,i_ 763 0,i_ 0 0,.ref 907,i_ 771 0,i_ 0 0,.ref 914,i_ 773 0,i_ 0 0,.ref 919]
noncomputable def mainE (P : Params) : List DictEntry:=[
 e_ P "__doc__" 166 .none,
 e_ P "__package__" 167 .none,
 e_ P "__loader__" 168 (.builtin "__main__.__loader__#opaque"),
 e_ P "__spec__" 169 .none,
 e_ P "__annotations__" 170 (.ref 6),
 e_ P "__builtins__" 171 (.ref 4),
 e_ P "__file__" 173 (s_ "/claim/cut.py" 172),
 e_ P "__cached__" 174 .none,
 e_ P "_wall" 193 (.ref 21),
 e_ P "PaperError" 235 (.ref 46),
 e_ P "SyntaxFault" 251 (.ref 59),
 e_ P "FontFault" 267 (.ref 71),
 e_ P "MOST_FIGURES_decimals" 271 (i_ 40 270),
 e_ P "PLUS" 273 (i_ 43 272),
 e_ P "MINUS" 275 (i_ 45 274),
 e_ P "POINT" 277 (i_ 46 276),
 e_ P "ZERO" 279 (i_ 48 278),
 e_ P "Decimal" 397 (.ref 167),
 e_ P "sign_text" 404 (.ref 178),
 e_ P "decimal_of" 411 (.ref 185),
 e_ P "at_one_scale" 422 (.ref 192),
 e_ P "read_decimal" 434 (.ref 199),
 e_ P "MOST_HOPS" 438 (i_ 30 437),
 e_ P "Name" 467 (.ref 216),
 e_ P "String" 498 (.ref 238),
 e_ P "Stream" 529 (.ref 259),
 e_ P "Reference" 567 (.ref 287),
 e_ P "kind_of" 574 (.ref 298),
 e_ P "is_number" 581 (.ref 305),
 e_ P "Lookup" 633 (.ref 337),
 e_ P "WHITE" 642 (.ref 342),
 e_ P "DELIMITERS" 653 (.ref 343),
 e_ P "LINE_FEED" 655 (i_ 10 654),
 e_ P "RETURN" 657 (i_ 13 656),
 e_ P "COMMENT" 659 (i_ 37 658),
 e_ P "MOST_FIGURES_cursor" 661 (i_ 20 660),
 e_ P "is_white" 668 (.ref 350),
 e_ P "is_regular" 675 (.ref 357),
 e_ P "is_figure" 682 (.ref 364),
 e_ P "Cursor" 815 (.ref 467),
 e_ P "PAREN" 819 (i_ 40 818),
 e_ P "CLOSE_PAREN" 821 (i_ 41 820),
 e_ P "LESS" 823 (i_ 60 822),
 e_ P "GREATER" 825 (i_ 62 824),
 e_ P "SLASH" 827 (i_ 47 826),
 e_ P "BACKSLASH" 829 (i_ 92 828),
 e_ P "HASH" 831 (i_ 35 830),
 e_ P "SIGNS" 836 (.ref 472),
 e_ P "hex_worth" 843 (.ref 479),
 e_ P "plain_escape" 850 (.ref 486),
 e_ P "name_text" 865 (.ref 494),
 e_ P "octal" 875 (.ref 501),
 e_ P "escaped_codes" 883 (.ref 508),
 e_ P "literal" 894 (.ref 515),
 e_ P "hex_string" 900 (.ref 520),
 e_ P "run_token" 910 (.ref 527),
 e_ P "delimited_token" 919 (.ref 534),
 e_ P "next_token" 928 (.ref 541),
 e_ P "MOST_LENGTH" 932 (i_ 4 931),
 e_ P "HEX_SIGNS" 934 (s_ "0123456789ABCDEF" 933),
 e_ P "HIGH_FIRST" 936 (i_ 55296 935),
 e_ P "LOW_FIRST" 938 (i_ 56320 937),
 e_ P "LOW_LAST" 940 (i_ 57343 939),
 e_ P "CMap" 977 (.ref 563),
 e_ P "utf16_units" 983 (.ref 572),
 e_ P "utf16" 994 (.ref 579),
 e_ P "code_of" 1003 (.ref 586),
 e_ P "code_octets" 1009 (.ref 591),
 e_ P "fitting" 1023 (.ref 598),
 e_ P "next_length" 1029 (.ref 603),
 e_ P "split_codes" 1041 (.ref 610),
 e_ P "string_in" 1048 (.ref 617),
 e_ P "code_in" 1056 (.ref 624),
 e_ P "text_in" 1065 (.ref 631),
 e_ P "is_part_end" 1073 (.ref 638),
 e_ P "read_spaces" 1079 (.ref 643),
 e_ P "read_chars" 1089 (.ref 650),
 e_ P "texts_in_row" 1098 (.ref 657),
 e_ P "texts_that_run" 1104 (.ref 662),
 e_ P "read_ranges" 1119 (.ref 669),
 e_ P "read_cmap" 1130 (.ref 676),
 e_ P "FIGURES" 1134 (s_ "0123456789" 1133),
 e_ P "NO_GLYPH" 1136 (s_ ".notdef" 1135),
 e_ P "LOW_NAMES" 1138 (.str (tS 82) 1137),
 e_ P "MIDDLE_NAMES" 1140 (.str (tS 83) 1139),
 e_ P "HIGH_NAMES" 1142 (s_ "braceleft bar braceright asciitilde" 1141),
 e_ P "LATIN_NAMES" 1144 (.str (tS 85) 1143),
 e_ P "STANDARD_WORDS" 1146 (.str (tS 86) 1145),
 e_ P "WIN_WORDS" 1148 (.str (tS 87) 1147),
 e_ P "MAC_WORDS" 1150 (.str (tS 88) 1149),
 e_ P "OTHER_CODES" 1268 (.ref 677),
 e_ P "SURROGATES" 1271 (.ref 680),
 e_ P "MOST_CODE" 1273 (i_ 1114111 1272),
 e_ P "ascii_names" 1279 (.ref 685),
 e_ P "latin_names" 1285 (.ref 690),
 e_ P "with_words" 1296 (.ref 697),
 e_ P "base_names" 1302 (.ref 702),
 e_ P "with_differences" 1313 (.ref 709),
 e_ P "encoding_of" 1319 (.ref 714),
 e_ P "hex_number" 1328 (.ref 721),
 e_ P "is_sign_code" 1335 (.ref 728),
 e_ P "known_code" 1343 (.ref 735),
 e_ P "part_text" 1349 (.ref 740),
 e_ P "glyph_text" 1355 (.ref 745),
 e_ P "HELVETICA" 1455 (.ref 746),
 e_ P "TIMES" 1553 (.ref 747),
 e_ P "COURIER_WIDTH" 1555 (i_ 600 1554),
 e_ P "number_of" 1562 (.ref 754),
 e_ P "whole_of" 1569 (.ref 761),
 e_ P "simple_rows" 1575 (.ref 766),
 e_ P "width_in" 1587 (.ref 773),
 e_ P "standard_widths" 1594 (.ref 780),
 e_ P "standard_width" 1603 (.ref 787),
 e_ P "name_at" 1613 (.ref 794),
 e_ P "array_at" 1623 (.ref 801),
 e_ P "missing_width" 1633 (.ref 808),
 e_ P "unit_of" 1642 (.ref 815),
 e_ P "cid_of" 1655 (.ref 822),
 e_ P "Font" 1719 (.ref 858),
 e_ P "simple_font" 1730 (.ref 870),
 e_ P "unicode_at" 1740 (.ref 877),
 e_ P "read_simple" 1749 (.ref 884),
 e_ P "_law_pot" 1757 (.ref 889),
 e_ P "_law_draw" 1768 (.ref 896),
 e_ P "_law_two" 1776 (.ref 903),
 e_ P "_law_texts" 1782 (.ref 908),
 e_ P "_law_decoded" 1790 (.ref 915),
 e_ P "law" 1796 (.ref 920)]
noncomputable def mainD (P : Params) (nm : Value) (k n : Nat) : Obj:={ cls:=.type "dict",data:=.dict ⟨⟨PyData.keyHash P (Str.ofString "__name__"),.str (Str.ofString "__name__") 165,nm⟩ :: (mainE P).take k⟩ n }
noncomputable def os0 (P : Params) : List Obj:=[
 boot_o_0 P,
 boot_o_1 P,
 dO .none [e_ P "type.__subclasses__.Exception.0" 232 (i_ 46 0),e_ P "type.__subclasses__.Exception.n" 233 (i_ 1 0)] 2,
 mainD P (s_ "law_nn0177_01" 1750) 1000 129,
 boot_o_4 P,
 boot_o_5 P,
 boot_o_6 P,
 boot_o_7 P,
 boot_o_8 P,
 boot_o_9 P,
 boot_o_10 P,
 tO [],
 rO (codes.take 1000),
 cO "<module>" 182 "<module>" 183 184 1 0 0 0 0 (.ref 11) (.bool false) 181 (.ref 12) .none .none .none .none 185 1 186,
 gO [some (.ref 13),some (.ref 3),some (.ref 3),none,some (s_ "__main__" 164),none,some (.ref 0)],
 tO [],
 rO [],
 tO [s_ "k" 190],
 tO [],
 f0 (sA 0) "_wall",
 cO "_wall" 187 "_wall" 188 189 1 1 0 0 3 (.ref 15) (.bool true) 181 (.ref 16) .none (.ref 17) (.ref 18) (.ref 19) 191 1 192,
 f1 (sA 0) "_wall" 3 .none "__main__" 164 20,
 tO [.type "Exception"],
 bP,
 dO (.type "dict") [e_ P "__module__" 203 (s_ "paperhold.errors" 194),e_ P "__qualname__" 205 (s_ "PaperError" 204),e_ P "__firstlineno__" 207 (i_ 5 206),e_ P "__init__" 218 (.ref 36),e_ P "told" 225 (.ref 43),e_ P "__static_attributes__" 228 (.ref 44)] 6,
 tO [],
 rO [i_ 7 0,i_ 4 0,.ref 35,i_ 12 0,i_ 4 0,.ref 42],
 cO "PaperError" 198 "PaperError" 199 200 5 0 0 0 0 (.ref 25) (.bool false) 181 (.ref 26) .none .none .none .none 201 5 202,
 gO [some (.ref 27),some (.ref 3),some (.ref 24),none,some (s_ "paperhold.errors" 194),none,some (.ref 0)],
 tO [j_ 1 209],
 tO [],
 rO [],
 tO [s_ "self" 213,s_ "what" 214,s_ "at" 215],
 tO [],
 f0 (mA 2 0) "PaperError.__init__",
 cO "__init__" 210 "PaperError.__init__" 211 212 7 3 0 0 3 (.ref 30) (.bool true) 181 (.ref 31) .none (.ref 32) (.ref 33) (.ref 34) 216 7 217,
 f1 (mA 2 0) "PaperError.__init__" 3 (.ref 29) "paperhold.errors" 194 35,
 tO [],
 rO [],
 tO [s_ "self" 222],
 tO [],
 f0 (mA 2 1) "PaperError.told",
 cO "told" 219 "PaperError.told" 220 221 12 1 0 0 3 (.ref 37) (.bool true) 181 (.ref 38) .none (.ref 39) (.ref 40) (.ref 41) 223 12 224,
 f1 (mA 2 1) "PaperError.told" 3 .none "paperhold.errors" 194 42,
 tO [s_ "at" 226,s_ "what" 227],
 dO (.type "dict") [e_ P "__module__" 203 (s_ "paperhold.errors" 194),e_ P "__firstlineno__" 207 (i_ 5 206),e_ P "__init__" 218 (.ref 36),e_ P "told" 225 (.ref 43),e_ P "__static_attributes__" 228 (.ref 44),e_ P "__weakref__" 230 (.ref 47),e_ P "__doc__" 231 .none] 3,
 xO (.type "type") none (.cls { name:=Str.ofString "PaperError",bases:=[.type "Exception"],mro:=[.ref 46,.type "Exception",.type "BaseException",.type "object"],ns:=45,qualname:=Str.ofString "PaperError",hasDict:=true,slotNames:=[],subclasses:=[.ref 59,.ref 71],abstract:=false,hasDel:=false }) [some (.ref 22),none,some (s_ "PaperError" 196),some (s_ "PaperError" 204),some (.builtin "Exception.__new__"),some (.bool true)],
 xO (.type "getset_descriptor") none (.fields ⟨[s_ "__weakref__" 229,.ref 46,.builtin "ExceptionGroup.__weakref__",.none]⟩) [],
 xO (.type "super") none (.fields ⟨[.ref 46,.ref 46,.ref 46]⟩) [],
 xO (.type "builtin_function_or_method") none (.fields ⟨[.builtin "object.__init_subclass__",.ref 46]⟩) [],
 tO [.ref 46],
 bP,
 dO (.type "dict") [e_ P "__module__" 243 (s_ "paperhold.errors" 194),e_ P "__qualname__" 245 (s_ "SyntaxFault" 244),e_ P "__firstlineno__" 247 (i_ 14 246),e_ P "__static_attributes__" 248 (.ref 57)] 4,
 tO [],
 rO [],
 cO "SyntaxFault" 238 "SyntaxFault" 239 240 14 0 0 0 0 (.ref 53) (.bool false) 181 (.ref 54) .none .none .none .none 241 14 242,
 gO [some (.ref 55),some (.ref 3),some (.ref 52),none,some (s_ "paperhold.errors" 194),none,some (.ref 0)],
 tO [],
 dO (.type "dict") [e_ P "__module__" 243 (s_ "paperhold.errors" 194),e_ P "__firstlineno__" 247 (i_ 14 246),e_ P "__static_attributes__" 248 (.ref 57),e_ P "__doc__" 249 .none] 2,
 xO (.type "type") none (.cls { name:=Str.ofString "SyntaxFault",bases:=[.ref 46],mro:=[.ref 59,.ref 46,.type "Exception",.type "BaseException",.type "object"],ns:=58,qualname:=Str.ofString "SyntaxFault",hasDict:=true,slotNames:=[],subclasses:=[],abstract:=false,hasDel:=false }) [some (.ref 50),none,some (s_ "SyntaxFault" 236),some (s_ "SyntaxFault" 244),some (.builtin "Exception.__new__"),some (.bool true)]]
noncomputable def os1 (P : Params) : List Obj:=[
 xO (.type "super") none (.fields ⟨[.ref 59,.ref 59,.ref 59]⟩) [],
 xO (.type "builtin_function_or_method") none (.fields ⟨[.builtin "object.__init_subclass__",.ref 59]⟩) [],
 tO [.ref 46],
 bP,
 dO (.type "dict") [e_ P "__module__" 259 (s_ "paperhold.errors" 194),e_ P "__qualname__" 261 (s_ "FontFault" 260),e_ P "__firstlineno__" 263 (i_ 16 262),e_ P "__static_attributes__" 264 (.ref 69)] 4,
 tO [],
 rO [],
 cO "FontFault" 254 "FontFault" 255 256 16 0 0 0 0 (.ref 65) (.bool false) 181 (.ref 66) .none .none .none .none 257 16 258,
 gO [some (.ref 67),some (.ref 3),some (.ref 64),none,some (s_ "paperhold.errors" 194),none,some (.ref 0)],
 tO [],
 dO (.type "dict") [e_ P "__module__" 259 (s_ "paperhold.errors" 194),e_ P "__firstlineno__" 263 (i_ 16 262),e_ P "__static_attributes__" 264 (.ref 69),e_ P "__doc__" 265 .none] 2,
 xO (.type "type") none (.cls { name:=Str.ofString "FontFault",bases:=[.ref 46],mro:=[.ref 71,.ref 46,.type "Exception",.type "BaseException",.type "object"],ns:=70,qualname:=Str.ofString "FontFault",hasDict:=true,slotNames:=[],subclasses:=[],abstract:=false,hasDel:=false }) [some (.ref 62),none,some (s_ "FontFault" 252),some (s_ "FontFault" 260),some (.builtin "Exception.__new__"),some (.bool true)],
 xO (.type "super") none (.fields ⟨[.ref 71,.ref 71,.ref 71]⟩) [],
 xO (.type "builtin_function_or_method") none (.fields ⟨[.builtin "object.__init_subclass__",.ref 71]⟩) [],
 tO [],
 bP,
 dO (.type "dict") [e_ P "__module__" 287 (s_ "paperhold.decimals" 268),e_ P "__qualname__" 289 (s_ "Decimal" 288),e_ P "__firstlineno__" 291 (i_ 24 290),e_ P "__init__" 300 (.ref 87),e_ P "plus" 311 (.ref 94),e_ P "minus" 319 (.ref 101),e_ P "times" 328 (.ref 108),e_ P "negated" 335 (.ref 115),e_ P "compared" 343 (.ref 122),e_ P "is_whole" 350 (.ref 129),e_ P "floor" 357 (.ref 136),e_ P "rounded" 365 (.ref 143),e_ P "told" 372 (.ref 150),e_ P "text" 380 (.ref 157),e_ P "least_text" 387 (.ref 164),e_ P "__static_attributes__" 390 (.ref 165)] 16,
 tO [],
 rO [i_ 26 0,i_ 4 0,.ref 86,i_ 33 0,i_ 4 0,.ref 93,i_ 37 0,i_ 4 0,.ref 100,i_ 40 0,i_ 4 0,.ref 107,i_ 44 0,i_ 4 0,.ref 114,i_ 47 0,i_ 4 0,.ref 121,i_ 50 0,i_ 4 0,.ref 128,i_ 53 0,i_ 4 0,.ref 135,i_ 56 0,i_ 4 0,.ref 142,i_ 59 0,i_ 4 0,.ref 149,i_ 62 0,i_ 4 0,.ref 156,i_ 69 0,i_ 4 0,.ref 163],
 cO "Decimal" 282 "Decimal" 283 284 24 0 0 0 0 (.ref 77) (.bool false) 181 (.ref 78) .none .none .none .none 285 24 286,
 gO [some (.ref 79),some (.ref 3),some (.ref 76),none,some (s_ "paperhold.decimals" 268),none,some (.ref 0)],
 tO [],
 rO [],
 tO [s_ "self" 295,s_ "top" 296,s_ "places" 297],
 tO [],
 f0 (mA 11 0) "Decimal.__init__",
 cO "__init__" 292 "Decimal.__init__" 293 294 26 3 0 0 3 (.ref 81) (.bool true) 181 (.ref 82) .none (.ref 83) (.ref 84) (.ref 85) 298 26 299,
 f1 (mA 11 0) "Decimal.__init__" 3 .none "paperhold.decimals" 268 86,
 tO [],
 rO [],
 tO [s_ "self" 304,s_ "other" 305,s_ "one" 306,s_ "two" 307,s_ "places" 308],
 tO [],
 f0 (mA 11 1) "Decimal.plus",
 cO "plus" 301 "Decimal.plus" 302 303 33 2 0 0 3 (.ref 88) (.bool true) 181 (.ref 89) .none (.ref 90) (.ref 91) (.ref 92) 309 33 310,
 f1 (mA 11 1) "Decimal.plus" 3 .none "paperhold.decimals" 268 93,
 tO [],
 rO [],
 tO [s_ "self" 315,s_ "other" 316],
 tO [],
 f0 (mA 11 2) "Decimal.minus",
 cO "minus" 312 "Decimal.minus" 313 314 37 2 0 0 3 (.ref 95) (.bool true) 181 (.ref 96) .none (.ref 97) (.ref 98) (.ref 99) 317 37 318,
 f1 (mA 11 2) "Decimal.minus" 3 .none "paperhold.decimals" 268 100,
 tO [],
 rO [],
 tO [s_ "self" 323,s_ "other" 324,s_ "factor" 325],
 tO [],
 f0 (mA 11 3) "Decimal.times",
 cO "times" 320 "Decimal.times" 321 322 40 2 0 0 3 (.ref 102) (.bool true) 181 (.ref 103) .none (.ref 104) (.ref 105) (.ref 106) 326 40 327,
 f1 (mA 11 3) "Decimal.times" 3 .none "paperhold.decimals" 268 107,
 tO [],
 rO [],
 tO [s_ "self" 332],
 tO [],
 f0 (mA 11 4) "Decimal.negated",
 cO "negated" 329 "Decimal.negated" 330 331 44 1 0 0 3 (.ref 109) (.bool true) 181 (.ref 110) .none (.ref 111) (.ref 112) (.ref 113) 333 44 334,
 f1 (mA 11 4) "Decimal.negated" 3 .none "paperhold.decimals" 268 114,
 tO [],
 rO [],
 tO [s_ "self" 339,s_ "other" 340],
 tO []]
noncomputable def os2 (P : Params) : List Obj:=[
 f0 (mA 11 5) "Decimal.compared",
 cO "compared" 336 "Decimal.compared" 337 338 47 2 0 0 3 (.ref 116) (.bool true) 181 (.ref 117) .none (.ref 118) (.ref 119) (.ref 120) 341 47 342,
 f1 (mA 11 5) "Decimal.compared" 3 .none "paperhold.decimals" 268 121,
 tO [],
 rO [],
 tO [s_ "self" 347],
 tO [],
 f0 (mA 11 6) "Decimal.is_whole",
 cO "is_whole" 344 "Decimal.is_whole" 345 346 50 1 0 0 3 (.ref 123) (.bool true) 181 (.ref 124) .none (.ref 125) (.ref 126) (.ref 127) 348 50 349,
 f1 (mA 11 6) "Decimal.is_whole" 3 .none "paperhold.decimals" 268 128,
 tO [],
 rO [],
 tO [s_ "self" 354],
 tO [],
 f0 (mA 11 7) "Decimal.floor",
 cO "floor" 351 "Decimal.floor" 352 353 53 1 0 0 3 (.ref 130) (.bool true) 181 (.ref 131) .none (.ref 132) (.ref 133) (.ref 134) 355 53 356,
 f1 (mA 11 7) "Decimal.floor" 3 .none "paperhold.decimals" 268 135,
 tO [],
 rO [],
 tO [s_ "self" 361,s_ "places" 362],
 tO [],
 f0 (mA 11 8) "Decimal.rounded",
 cO "rounded" 358 "Decimal.rounded" 359 360 56 2 0 0 3 (.ref 137) (.bool true) 181 (.ref 138) .none (.ref 139) (.ref 140) (.ref 141) 363 56 364,
 f1 (mA 11 8) "Decimal.rounded" 3 .none "paperhold.decimals" 268 142,
 tO [],
 rO [],
 tO [s_ "self" 369],
 tO [],
 f0 (mA 11 9) "Decimal.told",
 cO "told" 366 "Decimal.told" 367 368 59 1 0 0 3 (.ref 144) (.bool true) 181 (.ref 145) .none (.ref 146) (.ref 147) (.ref 148) 370 59 371,
 f1 (mA 11 9) "Decimal.told" 3 .none "paperhold.decimals" 268 149,
 tO [],
 rO [],
 tO [s_ "self" 376,s_ "numerals" 377],
 tO [],
 f0 (mA 11 10) "Decimal.text",
 cO "text" 373 "Decimal.text" 374 375 62 1 0 0 3 (.ref 151) (.bool true) 181 (.ref 152) .none (.ref 153) (.ref 154) (.ref 155) 378 62 379,
 f1 (mA 11 10) "Decimal.text" 3 .none "paperhold.decimals" 268 156,
 tO [],
 rO [],
 tO [s_ "self" 384],
 tO [],
 f0 (mA 11 11) "Decimal.least_text",
 cO "least_text" 381 "Decimal.least_text" 382 383 69 1 0 0 3 (.ref 158) (.bool true) 181 (.ref 159) .none (.ref 160) (.ref 161) (.ref 162) 385 69 386,
 f1 (mA 11 11) "Decimal.least_text" 3 .none "paperhold.decimals" 268 163,
 tO [s_ "places" 388,s_ "top" 389],
 dO (.type "dict") [e_ P "__module__" 287 (s_ "paperhold.decimals" 268),e_ P "__firstlineno__" 291 (i_ 24 290),e_ P "__init__" 300 (.ref 87),e_ P "plus" 311 (.ref 94),e_ P "minus" 319 (.ref 101),e_ P "times" 328 (.ref 108),e_ P "negated" 335 (.ref 115),e_ P "compared" 343 (.ref 122),e_ P "is_whole" 350 (.ref 129),e_ P "floor" 357 (.ref 136),e_ P "rounded" 365 (.ref 143),e_ P "told" 372 (.ref 150),e_ P "text" 380 (.ref 157),e_ P "least_text" 387 (.ref 164),e_ P "__static_attributes__" 390 (.ref 165),e_ P "__dict__" 392 (.ref 168),e_ P "__weakref__" 394 (.ref 169),e_ P "__doc__" 395 .none] 4,
 xO (.type "type") none (.cls { name:=Str.ofString "Decimal",bases:=[.type "object"],mro:=[.ref 167,.type "object"],ns:=166,qualname:=Str.ofString "Decimal",hasDict:=true,slotNames:=[],subclasses:=[],abstract:=false,hasDel:=false }) [none,none,some (s_ "Decimal" 280),some (s_ "Decimal" 288),some (.builtin "object.__new__"),some (.bool true)],
 xO (.type "getset_descriptor") none (.fields ⟨[s_ "__dict__" 391,.ref 167,.builtin "function.__dict__",.builtin "function.__dict__#set"]⟩) [],
 xO (.type "getset_descriptor") none (.fields ⟨[s_ "__weakref__" 393,.ref 167,.builtin "ExceptionGroup.__weakref__",.none]⟩) [],
 xO (.type "super") none (.fields ⟨[.ref 167,.ref 167,.ref 167]⟩) [],
 xO (.type "builtin_function_or_method") none (.fields ⟨[.builtin "object.__init_subclass__",.ref 167]⟩) [],
 tO [],
 rO [],
 tO [s_ "number" 401],
 tO [],
 f0 (sA 12) "sign_text",
 cO "sign_text" 398 "sign_text" 399 400 71 1 0 0 3 (.ref 172) (.bool true) 181 (.ref 173) .none (.ref 174) (.ref 175) (.ref 176) 402 71 403,
 f1 (sA 12) "sign_text" 3 .none "paperhold.decimals" 268 177,
 tO []]
noncomputable def os3 (P : Params) : List Obj:=[
 rO [],
 tO [s_ "value" 408],
 tO [],
 f0 (sA 13) "decimal_of",
 cO "decimal_of" 405 "decimal_of" 406 407 73 1 0 0 3 (.ref 179) (.bool true) 181 (.ref 180) .none (.ref 181) (.ref 182) (.ref 183) 409 73 410,
 f1 (sA 13) "decimal_of" 3 .none "paperhold.decimals" 268 184,
 tO [],
 rO [],
 tO [s_ "one" 415,s_ "other" 416,s_ "first" 417,s_ "second" 418,s_ "places" 419],
 tO [],
 f0 (sA 14) "at_one_scale",
 cO "at_one_scale" 412 "at_one_scale" 413 414 79 2 0 0 3 (.ref 186) (.bool true) 181 (.ref 187) .none (.ref 188) (.ref 189) (.ref 190) 420 79 421,
 f1 (sA 14) "at_one_scale" 3 .none "paperhold.decimals" 268 191,
 tO [],
 rO [],
 tO [s_ "octets" 426,s_ "begun" 427,s_ "top" 428,s_ "numerals" 429,s_ "places" 430,s_ "code" 431],
 tO [],
 f0 (sA 15) "read_decimal",
 cO "read_decimal" 423 "read_decimal" 424 425 84 1 0 0 3 (.ref 193) (.bool true) 181 (.ref 194) .none (.ref 195) (.ref 196) (.ref 197) 432 84 433,
 f1 (sA 15) "read_decimal" 3 .none "paperhold.decimals" 268 198,
 tO [],
 bP,
 dO (.type "dict") [e_ P "__module__" 446 (s_ "paperhold.objects" 435),e_ P "__qualname__" 448 (s_ "Name" 447),e_ P "__firstlineno__" 450 (i_ 108 449),e_ P "__init__" 458 (.ref 213),e_ P "__static_attributes__" 460 (.ref 214)] 5,
 tO [],
 rO [i_ 110 0,i_ 4 0,.ref 212],
 cO "Name" 441 "Name" 442 443 108 0 0 0 0 (.ref 203) (.bool false) 181 (.ref 204) .none .none .none .none 444 108 445,
 gO [some (.ref 205),some (.ref 3),some (.ref 202),none,some (s_ "paperhold.objects" 435),none,some (.ref 0)],
 tO [],
 rO [],
 tO [s_ "self" 454,s_ "text" 455],
 tO [],
 f0 (mA 18 0) "Name.__init__",
 cO "__init__" 451 "Name.__init__" 452 453 110 2 0 0 3 (.ref 207) (.bool true) 181 (.ref 208) .none (.ref 209) (.ref 210) (.ref 211) 456 110 457,
 f1 (mA 18 0) "Name.__init__" 3 .none "paperhold.objects" 435 212,
 tO [s_ "text" 459],
 dO (.type "dict") [e_ P "__module__" 446 (s_ "paperhold.objects" 435),e_ P "__firstlineno__" 450 (i_ 108 449),e_ P "__init__" 458 (.ref 213),e_ P "__static_attributes__" 460 (.ref 214),e_ P "__dict__" 462 (.ref 217),e_ P "__weakref__" 464 (.ref 218),e_ P "__doc__" 465 .none] 4,
 xO (.type "type") none (.cls { name:=Str.ofString "Name",bases:=[.type "object"],mro:=[.ref 216,.type "object"],ns:=215,qualname:=Str.ofString "Name",hasDict:=true,slotNames:=[],subclasses:=[],abstract:=false,hasDel:=false }) [none,none,some (s_ "Name" 439),some (s_ "Name" 447),some (.builtin "object.__new__"),some (.bool true)],
 xO (.type "getset_descriptor") none (.fields ⟨[s_ "__dict__" 461,.ref 216,.builtin "function.__dict__",.builtin "function.__dict__#set"]⟩) [],
 xO (.type "getset_descriptor") none (.fields ⟨[s_ "__weakref__" 463,.ref 216,.builtin "ExceptionGroup.__weakref__",.none]⟩) [],
 xO (.type "super") none (.fields ⟨[.ref 216,.ref 216,.ref 216]⟩) [],
 xO (.type "builtin_function_or_method") none (.fields ⟨[.builtin "object.__init_subclass__",.ref 216]⟩) [],
 tO [],
 bP,
 dO (.type "dict") [e_ P "__module__" 475 (s_ "paperhold.objects" 435),e_ P "__qualname__" 477 (s_ "String" 476),e_ P "__firstlineno__" 479 (i_ 112 478),e_ P "__init__" 488 (.ref 235),e_ P "__static_attributes__" 491 (.ref 236)] 5,
 tO [],
 rO [i_ 114 0,i_ 4 0,.ref 234],
 cO "String" 470 "String" 471 472 112 0 0 0 0 (.ref 224) (.bool false) 181 (.ref 225) .none .none .none .none 473 112 474,
 gO [some (.ref 226),some (.ref 3),some (.ref 223),none,some (s_ "paperhold.objects" 435),none,some (.ref 0)],
 tO [.bool false],
 tO [],
 rO [],
 tO [s_ "self" 483,s_ "octets" 484,s_ "is_hex" 485],
 tO [],
 f0 (mA 19 0) "String.__init__",
 cO "__init__" 480 "String.__init__" 481 482 114 3 0 0 3 (.ref 229) (.bool true) 181 (.ref 230) .none (.ref 231) (.ref 232) (.ref 233) 486 114 487,
 f1 (mA 19 0) "String.__init__" 3 (.ref 228) "paperhold.objects" 435 234,
 tO [s_ "is_hex" 489,s_ "octets" 490],
 dO (.type "dict") [e_ P "__module__" 475 (s_ "paperhold.objects" 435),e_ P "__firstlineno__" 479 (i_ 112 478),e_ P "__init__" 488 (.ref 235),e_ P "__static_attributes__" 491 (.ref 236),e_ P "__dict__" 493 (.ref 239),e_ P "__weakref__" 495 (.ref 240),e_ P "__doc__" 496 .none] 4,
 xO (.type "type") none (.cls { name:=Str.ofString "String",bases:=[.type "object"],mro:=[.ref 238,.type "object"],ns:=237,qualname:=Str.ofString "String",hasDict:=true,slotNames:=[],subclasses:=[],abstract:=false,hasDel:=false }) [none,none,some (s_ "String" 468),some (s_ "String" 476),some (.builtin "object.__new__"),some (.bool true)],
 xO (.type "getset_descriptor") none (.fields ⟨[s_ "__dict__" 492,.ref 238,.builtin "function.__dict__",.builtin "function.__dict__#set"]⟩) []]
noncomputable def os4 (P : Params) : List Obj:=[
 xO (.type "getset_descriptor") none (.fields ⟨[s_ "__weakref__" 494,.ref 238,.builtin "ExceptionGroup.__weakref__",.none]⟩) [],
 xO (.type "super") none (.fields ⟨[.ref 238,.ref 238,.ref 238]⟩) [],
 xO (.type "builtin_function_or_method") none (.fields ⟨[.builtin "object.__init_subclass__",.ref 238]⟩) [],
 tO [],
 bP,
 dO (.type "dict") [e_ P "__module__" 506 (s_ "paperhold.objects" 435),e_ P "__qualname__" 508 (s_ "Stream" 507),e_ P "__firstlineno__" 510 (i_ 117 509),e_ P "__init__" 519 (.ref 256),e_ P "__static_attributes__" 522 (.ref 257)] 5,
 tO [],
 rO [i_ 119 0,i_ 4 0,.ref 255],
 cO "Stream" 501 "Stream" 502 503 117 0 0 0 0 (.ref 246) (.bool false) 181 (.ref 247) .none .none .none .none 504 117 505,
 gO [some (.ref 248),some (.ref 3),some (.ref 245),none,some (s_ "paperhold.objects" 435),none,some (.ref 0)],
 tO [],
 rO [],
 tO [s_ "self" 514,s_ "head" 515,s_ "octets" 516],
 tO [],
 f0 (mA 20 0) "Stream.__init__",
 cO "__init__" 511 "Stream.__init__" 512 513 119 3 0 0 3 (.ref 250) (.bool true) 181 (.ref 251) .none (.ref 252) (.ref 253) (.ref 254) 517 119 518,
 f1 (mA 20 0) "Stream.__init__" 3 .none "paperhold.objects" 435 255,
 tO [s_ "head" 520,s_ "octets" 521],
 dO (.type "dict") [e_ P "__module__" 506 (s_ "paperhold.objects" 435),e_ P "__firstlineno__" 510 (i_ 117 509),e_ P "__init__" 519 (.ref 256),e_ P "__static_attributes__" 522 (.ref 257),e_ P "__dict__" 524 (.ref 260),e_ P "__weakref__" 526 (.ref 261),e_ P "__doc__" 527 .none] 4,
 xO (.type "type") none (.cls { name:=Str.ofString "Stream",bases:=[.type "object"],mro:=[.ref 259,.type "object"],ns:=258,qualname:=Str.ofString "Stream",hasDict:=true,slotNames:=[],subclasses:=[],abstract:=false,hasDel:=false }) [none,none,some (s_ "Stream" 499),some (s_ "Stream" 507),some (.builtin "object.__new__"),some (.bool true)],
 xO (.type "getset_descriptor") none (.fields ⟨[s_ "__dict__" 523,.ref 259,.builtin "function.__dict__",.builtin "function.__dict__#set"]⟩) [],
 xO (.type "getset_descriptor") none (.fields ⟨[s_ "__weakref__" 525,.ref 259,.builtin "ExceptionGroup.__weakref__",.none]⟩) [],
 xO (.type "super") none (.fields ⟨[.ref 259,.ref 259,.ref 259]⟩) [],
 xO (.type "builtin_function_or_method") none (.fields ⟨[.builtin "object.__init_subclass__",.ref 259]⟩) [],
 tO [],
 bP,
 dO (.type "dict") [e_ P "__module__" 537 (s_ "paperhold.objects" 435),e_ P "__qualname__" 539 (s_ "Reference" 538),e_ P "__firstlineno__" 541 (i_ 122 540),e_ P "__init__" 550 (.ref 277),e_ P "pair" 557 (.ref 284),e_ P "__static_attributes__" 560 (.ref 285)] 6,
 tO [],
 rO [i_ 124 0,i_ 4 0,.ref 276,i_ 128 0,i_ 4 0,.ref 283],
 cO "Reference" 532 "Reference" 533 534 122 0 0 0 0 (.ref 267) (.bool false) 181 (.ref 268) .none .none .none .none 535 122 536,
 gO [some (.ref 269),some (.ref 3),some (.ref 266),none,some (s_ "paperhold.objects" 435),none,some (.ref 0)],
 tO [],
 rO [],
 tO [s_ "self" 545,s_ "number" 546,s_ "generation" 547],
 tO [],
 f0 (mA 21 0) "Reference.__init__",
 cO "__init__" 542 "Reference.__init__" 543 544 124 3 0 0 3 (.ref 271) (.bool true) 181 (.ref 272) .none (.ref 273) (.ref 274) (.ref 275) 548 124 549,
 f1 (mA 21 0) "Reference.__init__" 3 .none "paperhold.objects" 435 276,
 tO [],
 rO [],
 tO [s_ "self" 554],
 tO [],
 f0 (mA 21 1) "Reference.pair",
 cO "pair" 551 "Reference.pair" 552 553 128 1 0 0 3 (.ref 278) (.bool true) 181 (.ref 279) .none (.ref 280) (.ref 281) (.ref 282) 555 128 556,
 f1 (mA 21 1) "Reference.pair" 3 .none "paperhold.objects" 435 283,
 tO [s_ "generation" 558,s_ "number" 559],
 dO (.type "dict") [e_ P "__module__" 537 (s_ "paperhold.objects" 435),e_ P "__firstlineno__" 541 (i_ 122 540),e_ P "__init__" 550 (.ref 277),e_ P "pair" 557 (.ref 284),e_ P "__static_attributes__" 560 (.ref 285),e_ P "__dict__" 562 (.ref 288),e_ P "__weakref__" 564 (.ref 289),e_ P "__doc__" 565 .none] 4,
 xO (.type "type") none (.cls { name:=Str.ofString "Reference",bases:=[.type "object"],mro:=[.ref 287,.type "object"],ns:=286,qualname:=Str.ofString "Reference",hasDict:=true,slotNames:=[],subclasses:=[],abstract:=false,hasDel:=false }) [none,none,some (s_ "Reference" 530),some (s_ "Reference" 538),some (.builtin "object.__new__"),some (.bool true)],
 xO (.type "getset_descriptor") none (.fields ⟨[s_ "__dict__" 561,.ref 287,.builtin "function.__dict__",.builtin "function.__dict__#set"]⟩) [],
 xO (.type "getset_descriptor") none (.fields ⟨[s_ "__weakref__" 563,.ref 287,.builtin "ExceptionGroup.__weakref__",.none]⟩) [],
 xO (.type "super") none (.fields ⟨[.ref 287,.ref 287,.ref 287]⟩) [],
 xO (.type "builtin_function_or_method") none (.fields ⟨[.builtin "object.__init_subclass__",.ref 287]⟩) [],
 tO [],
 rO [],
 tO [s_ "value" 571],
 tO [],
 f0 (sA 22) "kind_of",
 cO "kind_of" 568 "kind_of" 569 570 130 1 0 0 3 (.ref 292) (.bool true) 181 (.ref 293) .none (.ref 294) (.ref 295) (.ref 296) 572 130 573,
 f1 (sA 22) "kind_of" 3 .none "paperhold.objects" 435 297,
 tO []]
noncomputable def os5 (P : Params) : List Obj:=[
 rO [],
 tO [s_ "value" 578],
 tO [],
 f0 (sA 23) "is_number",
 cO "is_number" 575 "is_number" 576 577 152 1 0 0 3 (.ref 299) (.bool true) 181 (.ref 300) .none (.ref 301) (.ref 302) (.ref 303) 579 152 580,
 f1 (sA 23) "is_number" 3 .none "paperhold.objects" 435 304,
 tO [],
 bP,
 dO (.type "dict") [e_ P "__module__" 589 (s_ "paperhold.objects" 435),e_ P "__qualname__" 591 (s_ "Lookup" 590),e_ P "__firstlineno__" 593 (i_ 154 592),e_ P "__init__" 602 (.ref 320),e_ P "fetch" 614 (.ref 327),e_ P "get" 623 (.ref 334),e_ P "__static_attributes__" 626 (.ref 335)] 7,
 tO [],
 rO [i_ 156 0,i_ 4 0,.ref 319,i_ 160 0,i_ 4 0,.ref 326,i_ 171 0,i_ 4 0,.ref 333],
 cO "Lookup" 584 "Lookup" 585 586 154 0 0 0 0 (.ref 309) (.bool false) 181 (.ref 310) .none .none .none .none 587 154 588,
 gO [some (.ref 311),some (.ref 3),some (.ref 308),none,some (s_ "paperhold.objects" 435),none,some (.ref 0)],
 tO [.none,.none],
 tO [],
 rO [],
 tO [s_ "self" 597,s_ "table" 598,s_ "trailer" 599],
 tO [],
 f0 (mA 24 0) "Lookup.__init__",
 cO "__init__" 594 "Lookup.__init__" 595 596 156 3 0 0 3 (.ref 314) (.bool true) 181 (.ref 315) .none (.ref 316) (.ref 317) (.ref 318) 600 156 601,
 f1 (mA 24 0) "Lookup.__init__" 3 (.ref 313) "paperhold.objects" 435 319,
 tO [],
 rO [],
 tO [s_ "self" 606,s_ "value" 607,s_ "here" 608,s_ "hop" 609,s_ "generation" 610,s_ "found" 611],
 tO [],
 f0 (mA 24 1) "Lookup.fetch",
 cO "fetch" 603 "Lookup.fetch" 604 605 160 2 0 0 3 (.ref 321) (.bool true) 181 (.ref 322) .none (.ref 323) (.ref 324) (.ref 325) 612 160 613,
 f1 (mA 24 1) "Lookup.fetch" 3 .none "paperhold.objects" 435 326,
 tO [],
 rO [],
 tO [s_ "self" 618,s_ "head" 619,s_ "key" 620],
 tO [],
 f0 (mA 24 2) "Lookup.get",
 cO "get" 615 "Lookup.get" 616 617 171 3 0 0 3 (.ref 328) (.bool true) 181 (.ref 329) .none (.ref 330) (.ref 331) (.ref 332) 621 171 622,
 f1 (mA 24 2) "Lookup.get" 3 .none "paperhold.objects" 435 333,
 tO [s_ "table" 624,s_ "trailer" 625],
 dO (.type "dict") [e_ P "__module__" 589 (s_ "paperhold.objects" 435),e_ P "__firstlineno__" 593 (i_ 154 592),e_ P "__init__" 602 (.ref 320),e_ P "fetch" 614 (.ref 327),e_ P "get" 623 (.ref 334),e_ P "__static_attributes__" 626 (.ref 335),e_ P "__dict__" 628 (.ref 338),e_ P "__weakref__" 630 (.ref 339),e_ P "__doc__" 631 .none] 4,
 xO (.type "type") none (.cls { name:=Str.ofString "Lookup",bases:=[.type "object"],mro:=[.ref 337,.type "object"],ns:=336,qualname:=Str.ofString "Lookup",hasDict:=true,slotNames:=[],subclasses:=[],abstract:=false,hasDel:=false }) [none,none,some (s_ "Lookup" 582),some (s_ "Lookup" 590),some (.builtin "object.__new__"),some (.bool true)],
 xO (.type "getset_descriptor") none (.fields ⟨[s_ "__dict__" 627,.ref 337,.builtin "function.__dict__",.builtin "function.__dict__#set"]⟩) [],
 xO (.type "getset_descriptor") none (.fields ⟨[s_ "__weakref__" 629,.ref 337,.builtin "ExceptionGroup.__weakref__",.none]⟩) [],
 xO (.type "super") none (.fields ⟨[.ref 337,.ref 337,.ref 337]⟩) [],
 xO (.type "builtin_function_or_method") none (.fields ⟨[.builtin "object.__init_subclass__",.ref 337]⟩) [],
 tO [i_ 0 636,i_ 9 637,i_ 10 638,i_ 12 639,i_ 13 640,i_ 32 641],
 tO [i_ 40 643,i_ 41 644,i_ 60 645,i_ 62 646,i_ 91 647,i_ 93 648,i_ 123 649,i_ 125 650,i_ 47 651,i_ 37 652],
 tO [],
 rO [],
 tO [s_ "code" 665],
 tO [],
 f0 (sA 32) "is_white",
 cO "is_white" 662 "is_white" 663 664 180 1 0 0 3 (.ref 344) (.bool true) 181 (.ref 345) .none (.ref 346) (.ref 347) (.ref 348) 666 180 667,
 f1 (sA 32) "is_white" 3 .none "paperhold.cursor" 634 349,
 tO [],
 rO [],
 tO [s_ "code" 672],
 tO [],
 f0 (sA 33) "is_regular",
 cO "is_regular" 669 "is_regular" 670 671 182 1 0 0 3 (.ref 351) (.bool true) 181 (.ref 352) .none (.ref 353) (.ref 354) (.ref 355) 673 182 674,
 f1 (sA 33) "is_regular" 3 .none "paperhold.cursor" 634 356,
 tO [],
 rO []]
noncomputable def os6 (P : Params) : List Obj:=[
 tO [s_ "code" 679],
 tO [],
 f0 (sA 34) "is_figure",
 cO "is_figure" 676 "is_figure" 677 678 184 1 0 0 3 (.ref 358) (.bool true) 181 (.ref 359) .none (.ref 360) (.ref 361) (.ref 362) 680 184 681,
 f1 (sA 34) "is_figure" 3 .none "paperhold.cursor" 634 363,
 tO [],
 bP,
 dO (.type "dict") [e_ P "__module__" 690 (s_ "paperhold.cursor" 634),e_ P "__qualname__" 692 (s_ "Cursor" 691),e_ P "__firstlineno__" 694 (i_ 186 693),e_ P "__init__" 707 (.ref 379),e_ P "is_done" 714 (.ref 386),e_ P "peek" 724 (.ref 394),e_ P "take" 732 (.ref 401),e_ P "starts" 740 (.ref 408),e_ P "skip" 748 (.ref 415),e_ P "skip_white" 756 (.ref 422),e_ P "take_regular" 764 (.ref 429),e_ P "skip_line_end" 771 (.ref 436),e_ P "take_line" 778 (.ref 443),e_ P "number" 787 (.ref 450),e_ P "find" 796 (.ref 457),e_ P "find_last" 804 (.ref 464),e_ P "__static_attributes__" 808 (.ref 465)] 17,
 tO [],
 rO [i_ 188 0,i_ 4 0,.ref 378,i_ 193 0,i_ 4 0,.ref 385,i_ 196 0,i_ 4 0,.ref 393,i_ 200 0,i_ 4 0,.ref 400,i_ 207 0,i_ 4 0,.ref 407,i_ 210 0,i_ 4 0,.ref 414,i_ 216 0,i_ 4 0,.ref 421,i_ 227 0,i_ 4 0,.ref 428,i_ 233 0,i_ 4 0,.ref 435,i_ 244 0,i_ 4 0,.ref 442,i_ 247 0,i_ 4 0,.ref 449,i_ 257 0,i_ 4 0,.ref 456,i_ 260 0,i_ 4 0,.ref 463],
 cO "Cursor" 685 "Cursor" 686 687 186 0 0 0 0 (.ref 368) (.bool false) 181 (.ref 369) .none .none .none .none 688 186 689,
 gO [some (.ref 370),some (.ref 3),some (.ref 367),none,some (s_ "paperhold.cursor" 634),none,some (.ref 0)],
 tO [i_ 0 695,j_ 1 697],
 tO [],
 rO [],
 tO [s_ "self" 701,s_ "data" 702,s_ "at" 703,s_ "end" 704],
 tO [],
 f0 (mA 35 0) "Cursor.__init__",
 cO "__init__" 698 "Cursor.__init__" 699 700 188 4 0 0 3 (.ref 373) (.bool true) 181 (.ref 374) .none (.ref 375) (.ref 376) (.ref 377) 705 188 706,
 f1 (mA 35 0) "Cursor.__init__" 3 (.ref 372) "paperhold.cursor" 634 378,
 tO [],
 rO [],
 tO [s_ "self" 711],
 tO [],
 f0 (mA 35 1) "Cursor.is_done",
 cO "is_done" 708 "Cursor.is_done" 709 710 193 1 0 0 3 (.ref 380) (.bool true) 181 (.ref 381) .none (.ref 382) (.ref 383) (.ref 384) 712 193 713,
 f1 (mA 35 1) "Cursor.is_done" 3 .none "paperhold.cursor" 634 385,
 tO [i_ 0 715],
 tO [],
 rO [],
 tO [s_ "self" 719,s_ "ahead" 720,s_ "spot" 721],
 tO [],
 f0 (mA 35 2) "Cursor.peek",
 cO "peek" 716 "Cursor.peek" 717 718 196 2 0 0 3 (.ref 388) (.bool true) 181 (.ref 389) .none (.ref 390) (.ref 391) (.ref 392) 722 196 723,
 f1 (mA 35 2) "Cursor.peek" 3 (.ref 387) "paperhold.cursor" 634 393,
 tO [],
 rO [],
 tO [s_ "self" 728,s_ "code" 729],
 tO [],
 f0 (mA 35 3) "Cursor.take",
 cO "take" 725 "Cursor.take" 726 727 200 1 0 0 3 (.ref 395) (.bool true) 181 (.ref 396) .none (.ref 397) (.ref 398) (.ref 399) 730 200 731,
 f1 (mA 35 3) "Cursor.take" 3 .none "paperhold.cursor" 634 400,
 tO [],
 rO [],
 tO [s_ "self" 736,s_ "word" 737],
 tO [],
 f0 (mA 35 4) "Cursor.starts",
 cO "starts" 733 "Cursor.starts" 734 735 207 2 0 0 3 (.ref 402) (.bool true) 181 (.ref 403) .none (.ref 404) (.ref 405) (.ref 406) 738 207 739,
 f1 (mA 35 4) "Cursor.starts" 3 .none "paperhold.cursor" 634 407,
 tO [],
 rO [],
 tO [s_ "self" 744,s_ "word" 745],
 tO [],
 f0 (mA 35 5) "Cursor.skip",
 cO "skip" 741 "Cursor.skip" 742 743 210 2 0 0 3 (.ref 409) (.bool true) 181 (.ref 410) .none (.ref 411) (.ref 412) (.ref 413) 746 210 747,
 f1 (mA 35 5) "Cursor.skip" 3 .none "paperhold.cursor" 634 414,
 tO [],
 rO [],
 tO [s_ "self" 752,s_ "code" 753],
 tO []]
noncomputable def os7 (P : Params) : List Obj:=[
 f0 (mA 35 6) "Cursor.skip_white",
 cO "skip_white" 749 "Cursor.skip_white" 750 751 216 1 0 0 3 (.ref 416) (.bool true) 181 (.ref 417) .none (.ref 418) (.ref 419) (.ref 420) 754 216 755,
 f1 (mA 35 6) "Cursor.skip_white" 3 .none "paperhold.cursor" 634 421,
 tO [],
 rO [],
 tO [s_ "self" 760,s_ "first" 761],
 tO [],
 f0 (mA 35 7) "Cursor.take_regular",
 cO "take_regular" 757 "Cursor.take_regular" 758 759 227 1 0 0 3 (.ref 423) (.bool true) 181 (.ref 424) .none (.ref 425) (.ref 426) (.ref 427) 762 227 763,
 f1 (mA 35 7) "Cursor.take_regular" 3 .none "paperhold.cursor" 634 428,
 tO [],
 rO [],
 tO [s_ "self" 768],
 tO [],
 f0 (mA 35 8) "Cursor.skip_line_end",
 cO "skip_line_end" 765 "Cursor.skip_line_end" 766 767 233 1 0 0 3 (.ref 430) (.bool true) 181 (.ref 431) .none (.ref 432) (.ref 433) (.ref 434) 769 233 770,
 f1 (mA 35 8) "Cursor.skip_line_end" 3 .none "paperhold.cursor" 634 435,
 tO [],
 rO [],
 tO [s_ "self" 775],
 tO [],
 f0 (mA 35 9) "Cursor.take_line",
 cO "take_line" 772 "Cursor.take_line" 773 774 244 1 0 0 3 (.ref 437) (.bool true) 181 (.ref 438) .none (.ref 439) (.ref 440) (.ref 441) 776 244 777,
 f1 (mA 35 9) "Cursor.take_line" 3 .none "paperhold.cursor" 634 442,
 tO [],
 rO [],
 tO [s_ "self" 782,s_ "first" 783,s_ "number" 784],
 tO [],
 f0 (mA 35 10) "Cursor.number",
 cO "number" 779 "Cursor.number" 780 781 247 1 0 0 3 (.ref 444) (.bool true) 181 (.ref 445) .none (.ref 446) (.ref 447) (.ref 448) 785 247 786,
 f1 (mA 35 10) "Cursor.number" 3 .none "paperhold.cursor" 634 449,
 tO [],
 rO [],
 tO [s_ "self" 791,s_ "word" 792,s_ "first" 793],
 tO [],
 f0 (mA 35 11) "Cursor.find",
 cO "find" 788 "Cursor.find" 789 790 257 3 0 0 3 (.ref 451) (.bool true) 181 (.ref 452) .none (.ref 453) (.ref 454) (.ref 455) 794 257 795,
 f1 (mA 35 11) "Cursor.find" 3 .none "paperhold.cursor" 634 456,
 tO [],
 rO [],
 tO [s_ "self" 800,s_ "word" 801],
 tO [],
 f0 (mA 35 12) "Cursor.find_last",
 cO "find_last" 797 "Cursor.find_last" 798 799 260 2 0 0 3 (.ref 458) (.bool true) 181 (.ref 459) .none (.ref 460) (.ref 461) (.ref 462) 802 260 803,
 f1 (mA 35 12) "Cursor.find_last" 3 .none "paperhold.cursor" 634 463,
 tO [s_ "at" 805,s_ "data" 806,s_ "end" 807],
 dO (.type "dict") [e_ P "__module__" 690 (s_ "paperhold.cursor" 634),e_ P "__firstlineno__" 694 (i_ 186 693),e_ P "__init__" 707 (.ref 379),e_ P "is_done" 714 (.ref 386),e_ P "peek" 724 (.ref 394),e_ P "take" 732 (.ref 401),e_ P "starts" 740 (.ref 408),e_ P "skip" 748 (.ref 415),e_ P "skip_white" 756 (.ref 422),e_ P "take_regular" 764 (.ref 429),e_ P "skip_line_end" 771 (.ref 436),e_ P "take_line" 778 (.ref 443),e_ P "number" 787 (.ref 450),e_ P "find" 796 (.ref 457),e_ P "find_last" 804 (.ref 464),e_ P "__static_attributes__" 808 (.ref 465),e_ P "__dict__" 810 (.ref 468),e_ P "__weakref__" 812 (.ref 469),e_ P "__doc__" 813 .none] 4,
 xO (.type "type") none (.cls { name:=Str.ofString "Cursor",bases:=[.type "object"],mro:=[.ref 467,.type "object"],ns:=466,qualname:=Str.ofString "Cursor",hasDict:=true,slotNames:=[],subclasses:=[],abstract:=false,hasDel:=false }) [none,none,some (s_ "Cursor" 683),some (s_ "Cursor" 691),some (.builtin "object.__new__"),some (.bool true)],
 xO (.type "getset_descriptor") none (.fields ⟨[s_ "__dict__" 809,.ref 467,.builtin "function.__dict__",.builtin "function.__dict__#set"]⟩) [],
 xO (.type "getset_descriptor") none (.fields ⟨[s_ "__weakref__" 811,.ref 467,.builtin "ExceptionGroup.__weakref__",.none]⟩) [],
 xO (.type "super") none (.fields ⟨[.ref 467,.ref 467,.ref 467]⟩) [],
 xO (.type "builtin_function_or_method") none (.fields ⟨[.builtin "object.__init_subclass__",.ref 467]⟩) [],
 tO [i_ 91 832,i_ 93 833,i_ 123 834,i_ 125 835],
 tO [],
 rO [],
 tO [s_ "code" 840],
 tO [],
 f0 (sA 45) "hex_worth",
 cO "hex_worth" 837 "hex_worth" 838 839 271 1 0 0 3 (.ref 473) (.bool true) 181 (.ref 474) .none (.ref 475) (.ref 476) (.ref 477) 841 271 842,
 f1 (sA 45) "hex_worth" 3 .none "paperhold.lexer" 816 478]
noncomputable def os8 (P : Params) : List Obj:=[
 tO [],
 rO [],
 tO [s_ "code" 847],
 tO [],
 f0 (sA 46) "plain_escape",
 cO "plain_escape" 844 "plain_escape" 845 846 279 1 0 0 3 (.ref 480) (.bool true) 181 (.ref 481) .none (.ref 482) (.ref 483) (.ref 484) 848 279 849,
 f1 (sA 46) "plain_escape" 3 .none "paperhold.lexer" 816 485,
 tO [j_ 1 852],
 tO [],
 rO [],
 tO [s_ "octets" 856,s_ "at" 857,s_ "signs" 858,s_ "place" 859,s_ "code" 860,s_ "high" 861,s_ "low" 862],
 tO [],
 f0 (sA 47) "name_text",
 cO "name_text" 853 "name_text" 854 855 291 2 0 0 3 (.ref 488) (.bool true) 181 (.ref 489) .none (.ref 490) (.ref 491) (.ref 492) 863 291 864,
 f1 (sA 47) "name_text" 3 (.ref 487) "paperhold.lexer" 816 493,
 tO [],
 rO [],
 tO [s_ "cursor" 869,s_ "first" 870,s_ "code" 871,s_ "taken" 872],
 tO [],
 f0 (sA 48) "octal",
 cO "octal" 866 "octal" 867 868 307 2 0 0 3 (.ref 495) (.bool true) 181 (.ref 496) .none (.ref 497) (.ref 498) (.ref 499) 873 307 874,
 f1 (sA 48) "octal" 3 .none "paperhold.lexer" 816 500,
 tO [],
 rO [],
 tO [s_ "cursor" 879,s_ "code" 880],
 tO [],
 f0 (sA 49) "escaped_codes",
 cO "escaped_codes" 876 "escaped_codes" 877 878 314 1 0 0 3 (.ref 502) (.bool true) 181 (.ref 503) .none (.ref 504) (.ref 505) (.ref 506) 881 314 882,
 f1 (sA 49) "escaped_codes" 3 .none "paperhold.lexer" 816 507,
 tO [],
 rO [],
 tO [s_ "cursor" 887,s_ "opening" 888,s_ "codes" 889,s_ "depth" 890,s_ "code" 891],
 tO [],
 f0 (sA 50) "literal",
 cO "literal" 884 "literal" 885 886 323 1 0 0 3 (.ref 509) (.bool true) 181 (.ref 510) .none (.ref 511) (.ref 512) (.ref 513) 892 323 893,
 f1 (sA 50) "literal" 3 .none "paperhold.lexer" 816 514,
 tO [],
 rO [],
 f0 (sA 51) "hex_string",
 cO "hex_string" 895 "hex_string" 896 897 343 1 0 0 3 (.ref 516) (.bool true) 181 (.ref 517) .none .none .none (.ref 518) 898 343 899,
 f1 (sA 51) "hex_string" 3 .none "paperhold.lexer" 816 519,
 tO [],
 rO [],
 tO [s_ "cursor" 904,s_ "at" 905,s_ "run" 906,s_ "number" 907],
 tO [],
 f0 (sA 52) "run_token",
 cO "run_token" 901 "run_token" 902 903 358 2 0 0 3 (.ref 521) (.bool true) 181 (.ref 522) .none (.ref 523) (.ref 524) (.ref 525) 908 358 909,
 f1 (sA 52) "run_token" 3 .none "paperhold.lexer" 816 526,
 tO [],
 rO [],
 tO [s_ "cursor" 914,s_ "code" 915,s_ "at" 916],
 tO [],
 f0 (sA 53) "delimited_token",
 cO "delimited_token" 911 "delimited_token" 912 913 366 3 0 0 3 (.ref 528) (.bool true) 181 (.ref 529) .none (.ref 530) (.ref 531) (.ref 532) 917 366 918,
 f1 (sA 53) "delimited_token" 3 .none "paperhold.lexer" 816 533,
 tO [],
 rO [],
 tO [s_ "cursor" 923,s_ "at" 924,s_ "code" 925],
 tO [],
 f0 (sA 54) "next_token"]
noncomputable def os9 (P : Params) : List Obj:=[
 cO "next_token" 920 "next_token" 921 922 384 1 0 0 3 (.ref 535) (.bool true) 181 (.ref 536) .none (.ref 537) (.ref 538) (.ref 539) 926 384 927,
 f1 (sA 54) "next_token" 3 .none "paperhold.lexer" 816 540,
 tO [],
 bP,
 dO (.type "dict") [e_ P "__module__" 948 (s_ "paperhold.cmaps" 929),e_ P "__qualname__" 950 (s_ "CMap" 949),e_ P "__firstlineno__" 952 (i_ 399 951),e_ P "__init__" 961 (.ref 555),e_ P "told" 967 (.ref 560),e_ P "__static_attributes__" 970 (.ref 561)] 6,
 tO [],
 rO [i_ 401 0,i_ 4 0,.ref 554,i_ 405 0,i_ 4 0,.ref 559],
 cO "CMap" 943 "CMap" 944 945 399 0 0 0 0 (.ref 545) (.bool false) 181 (.ref 546) .none .none .none .none 946 399 947,
 gO [some (.ref 547),some (.ref 3),some (.ref 544),none,some (s_ "paperhold.cmaps" 929),none,some (.ref 0)],
 tO [],
 rO [],
 tO [s_ "self" 956,s_ "spaces" 957,s_ "chars" 958],
 tO [],
 f0 (mA 61 0) "CMap.__init__",
 cO "__init__" 953 "CMap.__init__" 954 955 401 3 0 0 3 (.ref 549) (.bool true) 181 (.ref 550) .none (.ref 551) (.ref 552) (.ref 553) 959 401 960,
 f1 (mA 61 0) "CMap.__init__" 3 .none "paperhold.cmaps" 929 554,
 tO [],
 rO [],
 f0 (mA 61 1) "CMap.told",
 cO "told" 962 "CMap.told" 963 964 405 1 0 0 3 (.ref 556) (.bool true) 181 (.ref 557) .none .none .none (.ref 558) 965 405 966,
 f1 (mA 61 1) "CMap.told" 3 .none "paperhold.cmaps" 929 559,
 tO [s_ "chars" 968,s_ "spaces" 969],
 dO (.type "dict") [e_ P "__module__" 948 (s_ "paperhold.cmaps" 929),e_ P "__firstlineno__" 952 (i_ 399 951),e_ P "__init__" 961 (.ref 555),e_ P "told" 967 (.ref 560),e_ P "__static_attributes__" 970 (.ref 561),e_ P "__dict__" 972 (.ref 564),e_ P "__weakref__" 974 (.ref 565),e_ P "__doc__" 975 .none] 4,
 xO (.type "type") none (.cls { name:=Str.ofString "CMap",bases:=[.type "object"],mro:=[.ref 563,.type "object"],ns:=562,qualname:=Str.ofString "CMap",hasDict:=true,slotNames:=[],subclasses:=[],abstract:=false,hasDel:=false }) [none,none,some (s_ "CMap" 941),some (s_ "CMap" 949),some (.builtin "object.__new__"),some (.bool true)],
 xO (.type "getset_descriptor") none (.fields ⟨[s_ "__dict__" 971,.ref 563,.builtin "function.__dict__",.builtin "function.__dict__#set"]⟩) [],
 xO (.type "getset_descriptor") none (.fields ⟨[s_ "__weakref__" 973,.ref 563,.builtin "ExceptionGroup.__weakref__",.none]⟩) [],
 xO (.type "super") none (.fields ⟨[.ref 563,.ref 563,.ref 563]⟩) [],
 xO (.type "builtin_function_or_method") none (.fields ⟨[.builtin "object.__init_subclass__",.ref 563]⟩) [],
 tO [],
 rO [],
 f0 (sA 62) "utf16_units",
 cO "utf16_units" 978 "utf16_units" 979 980 407 1 0 0 3 (.ref 568) (.bool true) 181 (.ref 569) .none .none .none (.ref 570) 981 407 982,
 f1 (sA 62) "utf16_units" 3 .none "paperhold.cmaps" 929 571,
 tO [],
 rO [],
 tO [s_ "octets" 987,s_ "units" 988,s_ "signs" 989,s_ "place" 990,s_ "unit" 991],
 tO [],
 f0 (sA 63) "utf16",
 cO "utf16" 984 "utf16" 985 986 411 1 0 0 3 (.ref 573) (.bool true) 181 (.ref 574) .none (.ref 575) (.ref 576) (.ref 577) 992 411 993,
 f1 (sA 63) "utf16" 3 .none "paperhold.cmaps" 929 578,
 tO [],
 rO [],
 tO [s_ "octets" 998,s_ "code" 999,s_ "octet" 1000],
 tO [],
 f0 (sA 64) "code_of",
 cO "code_of" 995 "code_of" 996 997 425 1 0 0 3 (.ref 580) (.bool true) 181 (.ref 581) .none (.ref 582) (.ref 583) (.ref 584) 1001 425 1002,
 f1 (sA 64) "code_of" 3 .none "paperhold.cmaps" 929 585,
 tO [],
 rO [],
 f0 (sA 65) "code_octets",
 cO "code_octets" 1004 "code_octets" 1005 1006 430 2 0 0 3 (.ref 587) (.bool true) 181 (.ref 588) .none .none .none (.ref 589) 1007 430 1008,
 f1 (sA 65) "code_octets" 3 .none "paperhold.cmaps" 929 590,
 tO [],
 rO [],
 tO [s_ "space" 1013,s_ "octets" 1014,s_ "length" 1015,s_ "low" 1016,s_ "high" 1017,s_ "lows" 1018,s_ "highs" 1019,s_ "place" 1020],
 tO [],
 f0 (sA 66) "fitting",
 cO "fitting" 1010 "fitting" 1011 1012 432 2 0 0 3 (.ref 592) (.bool true) 181 (.ref 593) .none (.ref 594) (.ref 595) (.ref 596) 1021 432 1022,
 f1 (sA 66) "fitting" 3 .none "paperhold.cmaps" 929 597,
 tO []]
noncomputable def os10 (P : Params) : List Obj:=[
 rO [],
 f0 (sA 67) "next_length",
 cO "next_length" 1024 "next_length" 1025 1026 440 2 0 0 3 (.ref 599) (.bool true) 181 (.ref 600) .none .none .none (.ref 601) 1027 440 1028,
 f1 (sA 67) "next_length" 3 .none "paperhold.cmaps" 929 602,
 tO [],
 rO [],
 tO [s_ "cmap" 1033,s_ "octets" 1034,s_ "found" 1035,s_ "place" 1036,s_ "ahead" 1037,s_ "code" 1038],
 tO [],
 f0 (sA 68) "split_codes",
 cO "split_codes" 1030 "split_codes" 1031 1032 449 2 0 0 3 (.ref 604) (.bool true) 181 (.ref 605) .none (.ref 606) (.ref 607) (.ref 608) 1039 449 1040,
 f1 (sA 68) "split_codes" 3 .none "paperhold.cmaps" 929 609,
 tO [],
 rO [],
 tO [s_ "token" 1045],
 tO [],
 f0 (sA 69) "string_in",
 cO "string_in" 1042 "string_in" 1043 1044 458 1 0 0 3 (.ref 611) (.bool true) 181 (.ref 612) .none (.ref 613) (.ref 614) (.ref 615) 1046 458 1047,
 f1 (sA 69) "string_in" 3 .none "paperhold.cmaps" 929 616,
 tO [],
 rO [],
 tO [s_ "token" 1052,s_ "octets" 1053],
 tO [],
 f0 (sA 70) "code_in",
 cO "code_in" 1049 "code_in" 1050 1051 462 1 0 0 3 (.ref 618) (.bool true) 181 (.ref 619) .none (.ref 620) (.ref 621) (.ref 622) 1054 462 1055,
 f1 (sA 70) "code_in" 3 .none "paperhold.cmaps" 929 623,
 tO [],
 rO [],
 tO [s_ "token" 1060,s_ "octets" 1061,s_ "fault" 1062],
 tO [],
 f0 (sA 71) "text_in",
 cO "text_in" 1057 "text_in" 1058 1059 467 1 0 0 3 (.ref 625) (.bool true) 181 (.ref 626) .none (.ref 627) (.ref 628) (.ref 629) 1063 467 1064,
 f1 (sA 71) "text_in" 3 .none "paperhold.cmaps" 929 630,
 tO [],
 rO [],
 tO [s_ "token" 1069,s_ "word" 1070],
 tO [],
 f0 (sA 72) "is_part_end",
 cO "is_part_end" 1066 "is_part_end" 1067 1068 473 2 0 0 3 (.ref 632) (.bool true) 181 (.ref 633) .none (.ref 634) (.ref 635) (.ref 636) 1071 473 1072,
 f1 (sA 72) "is_part_end" 3 .none "paperhold.cmaps" 929 637,
 tO [],
 rO [],
 f0 (sA 73) "read_spaces",
 cO "read_spaces" 1074 "read_spaces" 1075 1076 477 2 0 0 3 (.ref 639) (.bool true) 181 (.ref 640) .none .none .none (.ref 641) 1077 477 1078,
 f1 (sA 73) "read_spaces" 3 .none "paperhold.cmaps" 929 642,
 tO [],
 rO [],
 tO [s_ "cursor" 1083,s_ "chars" 1084,s_ "token" 1085,s_ "code" 1086],
 tO [],
 f0 (sA 74) "read_chars",
 cO "read_chars" 1080 "read_chars" 1081 1082 486 2 0 0 3 (.ref 644) (.bool true) 181 (.ref 645) .none (.ref 646) (.ref 647) (.ref 648) 1087 486 1088,
 f1 (sA 74) "read_chars" 3 .none "paperhold.cmaps" 929 649,
 tO [],
 rO [],
 tO [s_ "cursor" 1093,s_ "texts" 1094,s_ "token" 1095],
 tO [],
 f0 (sA 75) "texts_in_row",
 cO "texts_in_row" 1090 "texts_in_row" 1091 1092 492 1 0 0 3 (.ref 651) (.bool true) 181 (.ref 652) .none (.ref 653) (.ref 654) (.ref 655) 1096 492 1097,
 f1 (sA 75) "texts_in_row" 3 .none "paperhold.cmaps" 929 656,
 tO [],
 rO []]
noncomputable def os11 (P : Params) : List Obj:=[
 f0 (sA 76) "texts_that_run",
 cO "texts_that_run" 1099 "texts_that_run" 1100 1101 499 2 0 0 3 (.ref 658) (.bool true) 181 (.ref 659) .none .none .none (.ref 660) 1102 499 1103,
 f1 (sA 76) "texts_that_run" 3 .none "paperhold.cmaps" 929 661,
 tO [],
 rO [],
 tO [s_ "cursor" 1108,s_ "chars" 1109,s_ "token" 1110,s_ "low" 1111,s_ "high" 1112,s_ "many" 1113,s_ "target" 1114,s_ "texts" 1115,s_ "step" 1116],
 tO [],
 f0 (sA 77) "read_ranges",
 cO "read_ranges" 1105 "read_ranges" 1106 1107 506 2 0 0 3 (.ref 663) (.bool true) 181 (.ref 664) .none (.ref 665) (.ref 666) (.ref 667) 1117 506 1118,
 f1 (sA 77) "read_ranges" 3 .none "paperhold.cmaps" 929 668,
 tO [],
 rO [],
 tO [s_ "data" 1123,s_ "cursor" 1124,s_ "spaces" 1125,s_ "chars" 1126,s_ "token" 1127],
 tO [],
 f0 (sA 78) "read_cmap",
 cO "read_cmap" 1120 "read_cmap" 1121 1122 524 1 0 0 3 (.ref 670) (.bool true) 181 (.ref 671) .none (.ref 672) (.ref 673) (.ref 674) 1128 524 1129,
 f1 (sA 78) "read_cmap" 3 .none "paperhold.cmaps" 929 675,
 dO (.type "dict") (mkEs P ocRows) 39,
 dO (.type "dict") [e_ P "bullet" 1202 (i_ 8226 1203),e_ P "endash" 1205 (i_ 8211 1206),e_ P "emdash" 1208 (i_ 8212 1209),e_ P "tilde" 1211 (i_ 732 1212),e_ P "trademark" 1214 (i_ 8482 1215),e_ P "scaron" 1217 (i_ 353 1218),e_ P "guilsinglright" 1220 (i_ 8250 1221),e_ P "oe" 1223 (i_ 339 1224),e_ P "zcaron" 1226 (i_ 382 1227),e_ P "Ydieresis" 1229 (i_ 376 1230),e_ P "fraction" 1232 (i_ 8260 1233),e_ P "fi" 1235 (i_ 64257 1236),e_ P "fl" 1238 (i_ 64258 1239),e_ P "breve" 1241 (i_ 728 1242),e_ P "dotaccent" 1244 (i_ 729 1245),e_ P "ring" 1247 (i_ 730 1248),e_ P "hungarumlaut" 1250 (i_ 733 1251)] 17,
 dO (.type "dict") [e_ P "ogonek" 1253 (i_ 731 1254),e_ P "caron" 1255 (i_ 711 1256),e_ P "Lslash" 1257 (i_ 321 1258),e_ P "lslash" 1259 (i_ 322 1260),e_ P "dotlessi" 1261 (i_ 305 1262)] 5,
 tO [i_ 55296 1269,i_ 57343 1270],
 tO [],
 rO [],
 f0 (sA 92) "ascii_names",
 cO "ascii_names" 1274 "ascii_names" 1275 1276 551 0 0 0 3 (.ref 681) (.bool true) 181 (.ref 682) .none .none .none (.ref 683) 1277 551 1278,
 f1 (sA 92) "ascii_names" 3 .none "paperhold.encodings" 1131 684,
 tO [],
 rO [],
 f0 (sA 93) "latin_names",
 cO "latin_names" 1280 "latin_names" 1281 1282 555 0 0 0 3 (.ref 686) (.bool true) 181 (.ref 687) .none .none .none (.ref 688) 1283 555 1284,
 f1 (sA 93) "latin_names" 3 .none "paperhold.encodings" 1131 689,
 tO [],
 rO [],
 tO [s_ "names" 1289,s_ "words" 1290,s_ "laid" 1291,s_ "code" 1292,s_ "word" 1293],
 tO [],
 f0 (sA 94) "with_words",
 cO "with_words" 1286 "with_words" 1287 1288 560 2 0 0 3 (.ref 691) (.bool true) 181 (.ref 692) .none (.ref 693) (.ref 694) (.ref 695) 1294 560 1295,
 f1 (sA 94) "with_words" 3 .none "paperhold.encodings" 1131 696,
 tO [],
 rO [],
 f0 (sA 95) "base_names",
 cO "base_names" 1297 "base_names" 1298 1299 570 1 0 0 3 (.ref 698) (.bool true) 181 (.ref 699) .none .none .none (.ref 700) 1300 570 1301,
 f1 (sA 95) "base_names" 3 .none "paperhold.encodings" 1131 701,
 tO [],
 rO [],
 tO [s_ "names" 1306,s_ "parts" 1307,s_ "laid" 1308,s_ "code" 1309,s_ "part" 1310],
 tO [],
 f0 (sA 96) "with_differences",
 cO "with_differences" 1303 "with_differences" 1304 1305 580 2 0 0 3 (.ref 703) (.bool true) 181 (.ref 704) .none (.ref 705) (.ref 706) (.ref 707) 1311 580 1312,
 f1 (sA 96) "with_differences" 3 .none "paperhold.encodings" 1131 708,
 tO [],
 rO [],
 f0 (sA 97) "encoding_of",
 cO "encoding_of" 1314 "encoding_of" 1315 1316 596 2 0 0 3 (.ref 710) (.bool true) 181 (.ref 711) .none .none .none (.ref 712) 1317 596 1318,
 f1 (sA 97) "encoding_of" 3 .none "paperhold.encodings" 1131 713,
 tO [],
 rO [],
 tO [s_ "signs" 1323,s_ "worth" 1324,s_ "sign" 1325],
 tO [],
 f0 (sA 98) "hex_number"]
noncomputable def os12 (P : Params) : List Obj:=[
 cO "hex_number" 1320 "hex_number" 1321 1322 610 1 0 0 3 (.ref 715) (.bool true) 181 (.ref 716) .none (.ref 717) (.ref 718) (.ref 719) 1326 610 1327,
 f1 (sA 98) "hex_number" 3 .none "paperhold.encodings" 1131 720,
 tO [],
 rO [],
 tO [s_ "code" 1332],
 tO [],
 f0 (sA 99) "is_sign_code",
 cO "is_sign_code" 1329 "is_sign_code" 1330 1331 617 1 0 0 3 (.ref 722) (.bool true) 181 (.ref 723) .none (.ref 724) (.ref 725) (.ref 726) 1333 617 1334,
 f1 (sA 99) "is_sign_code" 3 .none "paperhold.encodings" 1131 727,
 tO [],
 rO [],
 tO [s_ "name" 1339,s_ "names" 1340],
 tO [],
 f0 (sA 100) "known_code",
 cO "known_code" 1336 "known_code" 1337 1338 619 1 0 0 3 (.ref 729) (.bool true) 181 (.ref 730) .none (.ref 731) (.ref 732) (.ref 733) 1341 619 1342,
 f1 (sA 100) "known_code" 3 .none "paperhold.encodings" 1131 734,
 tO [],
 rO [],
 f0 (sA 101) "part_text",
 cO "part_text" 1344 "part_text" 1345 1346 629 1 0 0 3 (.ref 736) (.bool true) 181 (.ref 737) .none .none .none (.ref 738) 1347 629 1348,
 f1 (sA 101) "part_text" 3 .none "paperhold.encodings" 1131 739,
 tO [],
 rO [],
 f0 (sA 102) "glyph_text",
 cO "glyph_text" 1350 "glyph_text" 1351 1352 642 1 0 0 3 (.ref 741) (.bool true) 181 (.ref 742) .none .none .none (.ref 743) 1353 642 1354,
 f1 (sA 102) "glyph_text" 3 .none "paperhold.encodings" 1131 744,
 tO [i_ 278 1358,i_ 278 1359,i_ 355 1360,i_ 556 1361,i_ 556 1362,i_ 889 1363,i_ 667 1364,i_ 191 1365,i_ 333 1366,i_ 333 1367,i_ 389 1368,i_ 584 1369,i_ 278 1370,i_ 333 1371,i_ 278 1372,i_ 278 1373,i_ 556 1374,i_ 556 1375,i_ 556 1376,i_ 556 1377,i_ 556 1378,i_ 556 1379,i_ 556 1380,i_ 556 1381,i_ 556 1382,i_ 556 1383,i_ 278 1384,i_ 278 1385,i_ 584 1386,i_ 584 1387,i_ 584 1388,i_ 556 1389,i_ 1015 1390,i_ 667 1391,i_ 667 1392,i_ 722 1393,i_ 722 1394,i_ 667 1395,i_ 611 1396,i_ 778 1397,i_ 722 1398,i_ 278 1399,i_ 500 1400,i_ 667 1401,i_ 556 1402,i_ 833 1403,i_ 722 1404,i_ 778 1405,i_ 667 1406,i_ 778 1407,i_ 722 1408,i_ 667 1409,i_ 611 1410,i_ 722 1411,i_ 667 1412,i_ 944 1413,i_ 667 1414,i_ 667 1415,i_ 611 1416,i_ 278 1417,i_ 278 1418,i_ 278 1419,i_ 469 1420,i_ 556 1421,i_ 333 1422,i_ 556 1423,i_ 556 1424,i_ 500 1425,i_ 556 1426,i_ 556 1427,i_ 278 1428,i_ 556 1429,i_ 556 1430,i_ 222 1431,i_ 222 1432,i_ 500 1433,i_ 222 1434,i_ 833 1435,i_ 556 1436,i_ 556 1437,i_ 556 1438,i_ 556 1439,i_ 333 1440,i_ 500 1441,i_ 278 1442,i_ 556 1443,i_ 500 1444,i_ 722 1445,i_ 500 1446,i_ 500 1447,i_ 500 1448,i_ 334 1449,i_ 260 1450,i_ 334 1451,i_ 584 1452,i_ 222 1453,i_ 222 1454],
 tO [i_ 250 1456,i_ 333 1457,i_ 408 1458,i_ 500 1459,i_ 500 1460,i_ 833 1461,i_ 778 1462,i_ 180 1463,i_ 333 1464,i_ 333 1465,i_ 500 1466,i_ 564 1467,i_ 250 1468,i_ 333 1469,i_ 250 1470,i_ 278 1471,i_ 500 1472,i_ 500 1473,i_ 500 1474,i_ 500 1475,i_ 500 1476,i_ 500 1477,i_ 500 1478,i_ 500 1479,i_ 500 1480,i_ 500 1481,i_ 278 1482,i_ 278 1483,i_ 564 1484,i_ 564 1485,i_ 564 1486,i_ 444 1487,i_ 921 1488,i_ 722 1489,i_ 667 1490,i_ 667 1491,i_ 722 1492,i_ 611 1493,i_ 556 1494,i_ 722 1495,i_ 722 1496,i_ 333 1497,i_ 389 1498,i_ 722 1499,i_ 611 1500,i_ 889 1501,i_ 722 1502,i_ 722 1503,i_ 556 1504,i_ 722 1505,i_ 667 1506,i_ 556 1507,i_ 611 1508,i_ 722 1509,i_ 722 1510,i_ 944 1511,i_ 722 1512,i_ 722 1513,i_ 611 1514,i_ 333 1515,i_ 278 1516,i_ 333 1517,i_ 469 1518,i_ 500 1519,i_ 333 1520,i_ 444 1521,i_ 500 1522,i_ 444 1523,i_ 500 1524,i_ 444 1525,i_ 333 1526,i_ 500 1527,i_ 500 1528,i_ 278 1529,i_ 278 1530,i_ 500 1531,i_ 278 1532,i_ 778 1533,i_ 500 1534,i_ 500 1535,i_ 500 1536,i_ 500 1537,i_ 333 1538,i_ 389 1539,i_ 278 1540,i_ 500 1541,i_ 500 1542,i_ 722 1543,i_ 500 1544,i_ 500 1545,i_ 444 1546,i_ 480 1547,i_ 200 1548,i_ 480 1549,i_ 541 1550,i_ 333 1551,i_ 333 1552],
 tO [],
 rO [],
 tO [s_ "value" 1559],
 tO [],
 f0 (sA 107) "number_of",
 cO "number_of" 1556 "number_of" 1557 1558 648 1 0 0 3 (.ref 748) (.bool true) 181 (.ref 749) .none (.ref 750) (.ref 751) (.ref 752) 1560 648 1561,
 f1 (sA 107) "number_of" 3 .none "paperhold.fonts" 1356 753,
 tO [],
 rO [],
 tO [s_ "value" 1566],
 tO [],
 f0 (sA 108) "whole_of",
 cO "whole_of" 1563 "whole_of" 1564 1565 652 1 0 0 3 (.ref 755) (.bool true) 181 (.ref 756) .none (.ref 757) (.ref 758) (.ref 759) 1567 652 1568,
 f1 (sA 108) "whole_of" 3 .none "paperhold.fonts" 1356 760,
 tO [],
 rO [],
 f0 (sA 109) "simple_rows",
 cO "simple_rows" 1570 "simple_rows" 1571 1572 656 2 0 0 3 (.ref 762) (.bool true) 181 (.ref 763) .none .none .none (.ref 764) 1573 656 1574,
 f1 (sA 109) "simple_rows" 3 .none "paperhold.fonts" 1356 765,
 tO [],
 rO [],
 tO [s_ "rows" 1579,s_ "code" 1580,s_ "default" 1581,s_ "first" 1582,s_ "last" 1583,s_ "widths" 1584],
 tO [],
 f0 (sA 110) "width_in",
 cO "width_in" 1576 "width_in" 1577 1578 663 3 0 0 3 (.ref 767) (.bool true) 181 (.ref 768) .none (.ref 769) (.ref 770) (.ref 771) 1585 663 1586,
 f1 (sA 110) "width_in" 3 .none "paperhold.fonts" 1356 772,
 tO [],
 rO [],
 tO [s_ "base" 1591],
 tO [],
 f0 (sA 111) "standard_widths",
 cO "standard_widths" 1588 "standard_widths" 1589 1590 668 1 0 0 3 (.ref 774) (.bool true) 181 (.ref 775) .none (.ref 776) (.ref 777) (.ref 778) 1592 668 1593]
noncomputable def os13 (P : Params) : List Obj:=[
 f1 (sA 111) "standard_widths" 3 .none "paperhold.fonts" 1356 779,
 tO [],
 rO [],
 tO [s_ "widths" 1598,s_ "name" 1599,s_ "names" 1600],
 tO [],
 f0 (sA 112) "standard_width",
 cO "standard_width" 1595 "standard_width" 1596 1597 676 2 0 0 3 (.ref 781) (.bool true) 181 (.ref 782) .none (.ref 783) (.ref 784) (.ref 785) 1601 676 1602,
 f1 (sA 112) "standard_width" 3 .none "paperhold.fonts" 1356 786,
 tO [],
 rO [],
 tO [s_ "shelf" 1607,s_ "head" 1608,s_ "key" 1609,s_ "found" 1610],
 tO [],
 f0 (sA 113) "name_at",
 cO "name_at" 1604 "name_at" 1605 1606 679 3 0 0 3 (.ref 788) (.bool true) 181 (.ref 789) .none (.ref 790) (.ref 791) (.ref 792) 1611 679 1612,
 f1 (sA 113) "name_at" 3 .none "paperhold.fonts" 1356 793,
 tO [],
 rO [],
 tO [s_ "shelf" 1617,s_ "head" 1618,s_ "key" 1619,s_ "found" 1620],
 tO [],
 f0 (sA 114) "array_at",
 cO "array_at" 1614 "array_at" 1615 1616 682 3 0 0 3 (.ref 795) (.bool true) 181 (.ref 796) .none (.ref 797) (.ref 798) (.ref 799) 1621 682 1622,
 f1 (sA 114) "array_at" 3 .none "paperhold.fonts" 1356 800,
 tO [],
 rO [],
 tO [s_ "shelf" 1627,s_ "head" 1628,s_ "about" 1629,s_ "found" 1630],
 tO [],
 f0 (sA 115) "missing_width",
 cO "missing_width" 1624 "missing_width" 1625 1626 689 2 0 0 3 (.ref 802) (.bool true) 181 (.ref 803) .none (.ref 804) (.ref 805) (.ref 806) 1631 689 1632,
 f1 (sA 115) "missing_width" 3 .none "paperhold.fonts" 1356 807,
 tO [],
 rO [],
 tO [s_ "shelf" 1637,s_ "head" 1638,s_ "found" 1639],
 tO [],
 f0 (sA 116) "unit_of",
 cO "unit_of" 1634 "unit_of" 1635 1636 693 2 0 0 3 (.ref 809) (.bool true) 181 (.ref 810) .none (.ref 811) (.ref 812) (.ref 813) 1640 693 1641,
 f1 (sA 116) "unit_of" 3 .none "paperhold.fonts" 1356 814,
 tO [],
 rO [],
 tO [s_ "rows" 1646,s_ "pair" 1647,s_ "found" 1648,s_ "length" 1649,s_ "low" 1650,s_ "high" 1651,s_ "glyph" 1652],
 tO [],
 f0 (sA 117) "cid_of",
 cO "cid_of" 1643 "cid_of" 1644 1645 700 2 0 0 3 (.ref 816) (.bool true) 181 (.ref 817) .none (.ref 818) (.ref 819) (.ref 820) 1653 700 1654,
 f1 (sA 117) "cid_of" 3 .none "paperhold.fonts" 1356 821,
 tO [],
 bP,
 dO (.type "dict") [e_ P "__module__" 1663 (s_ "paperhold.fonts" 1356),e_ P "__qualname__" 1665 (s_ "Font" 1664),e_ P "__firstlineno__" 1667 (i_ 706 1666),e_ P "__init__" 1681 (.ref 836),e_ P "codes" 1687 (.ref 841),e_ P "width" 1696 (.ref 848),e_ P "text" 1704 (.ref 855),e_ P "__static_attributes__" 1712 (.ref 856)] 8,
 tO [],
 rO [i_ 708 0,i_ 4 0,.ref 835,i_ 717 0,i_ 4 0,.ref 840,i_ 722 0,i_ 4 0,.ref 847,i_ 729 0,i_ 4 0,.ref 854],
 cO "Font" 1658 "Font" 1659 1660 706 0 0 0 0 (.ref 826) (.bool false) 181 (.ref 827) .none .none .none .none 1661 706 1662,
 gO [some (.ref 828),some (.ref 3),some (.ref 825),none,some (s_ "paperhold.fonts" 1356),none,some (.ref 0)],
 tO [],
 rO [],
 tO [s_ "self" 1671,s_ "names" 1672,s_ "cutting" 1673,s_ "unicode" 1674,s_ "rows" 1675,s_ "default" 1676,s_ "unit" 1677,s_ "standard" 1678],
 tO [],
 f0 (mA 118 0) "Font.__init__",
 cO "__init__" 1668 "Font.__init__" 1669 1670 708 8 0 0 3 (.ref 830) (.bool true) 181 (.ref 831) .none (.ref 832) (.ref 833) (.ref 834) 1679 708 1680,
 f1 (mA 118 0) "Font.__init__" 3 .none "paperhold.fonts" 1356 835,
 tO [],
 rO [],
 f0 (mA 118 1) "Font.codes"]
noncomputable def os14 (P : Params) : List Obj:=[
 cO "codes" 1682 "Font.codes" 1683 1684 717 2 0 0 3 (.ref 837) (.bool true) 181 (.ref 838) .none .none .none (.ref 839) 1685 717 1686,
 f1 (mA 118 1) "Font.codes" 3 .none "paperhold.fonts" 1356 840,
 tO [],
 rO [],
 tO [s_ "self" 1691,s_ "pair" 1692,s_ "found" 1693],
 tO [],
 f0 (mA 118 2) "Font.width",
 cO "width" 1688 "Font.width" 1689 1690 722 2 0 0 3 (.ref 842) (.bool true) 181 (.ref 843) .none (.ref 844) (.ref 845) (.ref 846) 1694 722 1695,
 f1 (mA 118 2) "Font.width" 3 .none "paperhold.fonts" 1356 847,
 tO [],
 rO [],
 tO [s_ "self" 1700,s_ "pair" 1701],
 tO [],
 f0 (mA 118 3) "Font.text",
 cO "text" 1697 "Font.text" 1698 1699 729 2 0 0 3 (.ref 849) (.bool true) 181 (.ref 850) .none (.ref 851) (.ref 852) (.ref 853) 1702 729 1703,
 f1 (mA 118 3) "Font.text" 3 .none "paperhold.fonts" 1356 854,
 tO [s_ "cutting" 1705,s_ "default" 1706,s_ "names" 1707,s_ "rows" 1708,s_ "standard" 1709,s_ "unicode" 1710,s_ "unit" 1711],
 dO (.type "dict") [e_ P "__module__" 1663 (s_ "paperhold.fonts" 1356),e_ P "__firstlineno__" 1667 (i_ 706 1666),e_ P "__init__" 1681 (.ref 836),e_ P "codes" 1687 (.ref 841),e_ P "width" 1696 (.ref 848),e_ P "text" 1704 (.ref 855),e_ P "__static_attributes__" 1712 (.ref 856),e_ P "__dict__" 1714 (.ref 859),e_ P "__weakref__" 1716 (.ref 860),e_ P "__doc__" 1717 .none] 4,
 xO (.type "type") none (.cls { name:=Str.ofString "Font",bases:=[.type "object"],mro:=[.ref 858,.type "object"],ns:=857,qualname:=Str.ofString "Font",hasDict:=true,slotNames:=[],subclasses:=[],abstract:=false,hasDel:=false }) [none,none,some (s_ "Font" 1656),some (s_ "Font" 1664),some (.builtin "object.__new__"),some (.bool true)],
 xO (.type "getset_descriptor") none (.fields ⟨[s_ "__dict__" 1713,.ref 858,.builtin "function.__dict__",.builtin "function.__dict__#set"]⟩) [],
 xO (.type "getset_descriptor") none (.fields ⟨[s_ "__weakref__" 1715,.ref 858,.builtin "ExceptionGroup.__weakref__",.none]⟩) [],
 xO (.type "super") none (.fields ⟨[.ref 858,.ref 858,.ref 858]⟩) [],
 xO (.type "builtin_function_or_method") none (.fields ⟨[.builtin "object.__init_subclass__",.ref 858]⟩) [],
 tO [.none],
 tO [],
 rO [],
 tO [s_ "shelf" 1723,s_ "head" 1724,s_ "unicode" 1725,s_ "rows" 1726,s_ "standard" 1727],
 tO [],
 f0 (sA 119) "simple_font",
 cO "simple_font" 1720 "simple_font" 1721 1722 733 3 0 0 3 (.ref 864) (.bool true) 181 (.ref 865) .none (.ref 866) (.ref 867) (.ref 868) 1728 733 1729,
 f1 (sA 119) "simple_font" 3 (.ref 863) "paperhold.fonts" 1356 869,
 tO [],
 rO [],
 tO [s_ "shelf" 1734,s_ "head" 1735,s_ "undo" 1736,s_ "found" 1737],
 tO [],
 f0 (sA 120) "unicode_at",
 cO "unicode_at" 1731 "unicode_at" 1732 1733 737 3 0 0 3 (.ref 871) (.bool true) 181 (.ref 872) .none (.ref 873) (.ref 874) (.ref 875) 1738 737 1739,
 f1 (sA 120) "unicode_at" 3 .none "paperhold.fonts" 1356 876,
 tO [],
 rO [],
 tO [s_ "shelf" 1744,s_ "head" 1745,s_ "undo" 1746],
 tO [],
 f0 (sA 121) "read_simple",
 cO "read_simple" 1741 "read_simple" 1742 1743 740 3 0 0 3 (.ref 878) (.bool true) 181 (.ref 879) .none (.ref 880) (.ref 881) (.ref 882) 1747 740 1748,
 f1 (sA 121) "read_simple" 3 .none "paperhold.fonts" 1356 883,
 tO [],
 rO [],
 f0 (sA 123) "_law_pot",
 cO "_law_pot" 1752 "_law_pot" 1753 1754 743 1 0 0 3 (.ref 885) (.bool true) 181 (.ref 886) .none .none .none (.ref 887) 1755 743 1756,
 f1 (sA 123) "_law_pot" 3 .none "law_nn0177_01" 1750 888,
 tO [],
 rO [],
 tO [s_ "pot" 1761,s_ "limit" 1762,s_ "place" 1763,s_ "spot" 1764,s_ "here" 1765],
 tO [],
 f0 (sA 124) "_law_draw",
 cO "_law_draw" 1758 "_law_draw" 1759 1760 749 2 0 0 3 (.ref 890) (.bool true) 181 (.ref 891) .none (.ref 892) (.ref 893) (.ref 894) 1766 749 1767,
 f1 (sA 124) "_law_draw" 3 .none "law_nn0177_01" 1750 895,
 tO [],
 rO [],
 tO [s_ "code" 1772,s_ "signs" 1773]]
noncomputable def os15 (P : Params) : List Obj:=[
 tO [],
 f0 (sA 125) "_law_two",
 cO "_law_two" 1769 "_law_two" 1770 1771 760 1 0 0 3 (.ref 897) (.bool true) 181 (.ref 898) .none (.ref 899) (.ref 900) (.ref 901) 1774 760 1775,
 f1 (sA 125) "_law_two" 3 .none "law_nn0177_01" 1750 902,
 tO [],
 rO [],
 f0 (sA 126) "_law_texts",
 cO "_law_texts" 1777 "_law_texts" 1778 1779 763 2 0 0 3 (.ref 904) (.bool true) 181 (.ref 905) .none .none .none (.ref 906) 1780 763 1781,
 f1 (sA 126) "_law_texts" 3 .none "law_nn0177_01" 1750 907,
 tO [],
 rO [],
 tO [s_ "shelf" 1786,s_ "stream" 1787],
 tO [],
 f0 (sA 127) "_law_decoded",
 cO "_law_decoded" 1783 "_law_decoded" 1784 1785 771 2 0 0 3 (.ref 909) (.bool true) 181 (.ref 910) .none (.ref 911) (.ref 912) (.ref 913) 1788 771 1789,
 f1 (sA 127) "_law_decoded" 3 .none "law_nn0177_01" 1750 914,
 tO [],
 rO [],
 f0 (sA 128) "law",
 cO "law" 1791 "law" 1792 1793 773 1 0 0 3 (.ref 916) (.bool true) 181 (.ref 917) .none .none .none (.ref 918) 1794 773 1795,
 f1 (sA 128) "law" 3 .none "law_nn0177_01" 1750 919]
noncomputable def fin (P : Params) : List Obj:=os0 P ++ (os1 P ++ (os2 P ++ (os3 P ++ (os4 P ++ (os5 P ++ (os6 P ++ (os7 P ++ (os8 P ++ (os9 P ++ (os10 P ++ (os11 P ++ (os12 P ++ (os13 P ++ (os14 P ++ (os15 P)))))))))))))))
noncomputable def tr0 (P : Params) : BT:=bt 10 (((((fin P).take 15).set 2 (dO .none [] 0)).set 3 (mainD P (s_ "__main__" 164) 8 9)).set 12 (rO (codes.take 0)))
noncomputable def st0 (w : World) (os : OsState) : SharedT:=⟨tr0 w.params,15,{},#[],{},187,os⟩
noncomputable def tr1 (P : Params) : BT:=bt 10 (((((fin P).take 62).set 3 (mainD P (s_ "paperhold.errors" 194) 11 12)).set 12 (rO (codes.take 9))).set 46 (xO (.type "type") none (.cls { name:=Str.ofString "PaperError",bases:=[.type "Exception"],mro:=[.ref 46,.type "Exception",.type "BaseException",.type "object"],ns:=45,qualname:=Str.ofString "PaperError",hasDict:=true,slotNames:=[],subclasses:=[.ref 59],abstract:=false,hasDel:=false }) [some (.ref 22),none,some (s_ "PaperError" 196),some (s_ "PaperError" 204),some (.builtin "Exception.__new__"),some (.bool true)]))
noncomputable def st1 (w : World) (os : OsState) : SharedT:=⟨tr1 w.params,62,{},#[],{},252,os⟩
noncomputable def tr2 (P : Params) : BT:=bt 10 ((((fin P).take 74).set 3 (mainD P (s_ "paperhold.decimals" 268) 17 18)).set 12 (rO (codes.take 12)))
noncomputable def st2 (w : World) (os : OsState) : SharedT:=⟨tr2 w.params,74,{},#[],{},280,os⟩
noncomputable def tr3 (P : Params) : BT:=bt 10 ((((fin P).take 200).set 3 (mainD P (s_ "paperhold.decimals" 268) 22 23)).set 12 (rO (codes.take 27)))
noncomputable def st3 (w : World) (os : OsState) : SharedT:=⟨tr3 w.params,200,{},#[],{},435,os⟩
noncomputable def tr4 (P : Params) : BT:=bt 10 ((((fin P).take 264).set 3 (mainD P (s_ "paperhold.objects" 435) 26 27)).set 12 (rO (codes.take 36)))
noncomputable def st4 (w : World) (os : OsState) : SharedT:=⟨tr4 w.params,264,{},#[],{},530,os⟩
noncomputable def tr5 (P : Params) : BT:=bt 10 ((((fin P).take 344).set 3 (mainD P (s_ "paperhold.cursor" 634) 36 37)).set 12 (rO (codes.take 48)))
noncomputable def st5 (w : World) (os : OsState) : SharedT:=⟨tr5 w.params,344,{},#[],{},662,os⟩
noncomputable def tr6 (P : Params) : BT:=bt 10 ((((fin P).take 365).set 3 (mainD P (s_ "paperhold.cursor" 634) 39 40)).set 12 (rO (codes.take 57)))
noncomputable def st6 (w : World) (os : OsState) : SharedT:=⟨tr6 w.params,365,{},#[],{},683,os⟩
noncomputable def tr7 (P : Params) : BT:=bt 10 ((((fin P).take 472).set 3 (mainD P (s_ "paperhold.lexer" 816) 47 48)).set 12 (rO (codes.take 60)))
noncomputable def st7 (w : World) (os : OsState) : SharedT:=⟨tr7 w.params,472,{},#[],{},832,os⟩
noncomputable def tr8 (P : Params) : BT:=bt 10 ((((fin P).take 580).set 3 (mainD P (s_ "paperhold.cmaps" 929) 66 67)).set 12 (rO (codes.take 99)))
noncomputable def st8 (w : World) (os : OsState) : SharedT:=⟨tr8 w.params,580,{},#[],{},995,os⟩
noncomputable def tr9 (P : Params) : BT:=bt 10 ((((fin P).take 677).set 3 (mainD P (s_ "paperhold.encodings" 1131) 90 91)).set 12 (rO (codes.take 144)))
noncomputable def st9 (w : World) (os : OsState) : SharedT:=⟨tr9 w.params,677,{},#[],{},1151,os⟩
noncomputable def tr10 (P : Params) : BT:=bt 10 ((((fin P).take 680).set 3 (mainD P (s_ "paperhold.encodings" 1131) 91 92)).set 12 (rO (codes.take 144)))
noncomputable def st10 (w : World) (os : OsState) : SharedT:=⟨tr10 w.params,680,{},#[],{},1269,os⟩
noncomputable def tr11 (P : Params) : BT:=bt 10 ((((fin P).take 774).set 3 (mainD P (s_ "paperhold.fonts" 1356) 111 112)).set 12 (rO (codes.take 189)))
noncomputable def st11 (w : World) (os : OsState) : SharedT:=⟨tr11 w.params,774,{},#[],{},1588,os⟩
noncomputable def tr12 (P : Params) : BT:=bt 10 ((((fin P).take 890).set 3 (mainD P (s_ "law_nn0177_01" 1750) 123 124)).set 12 (rO (codes.take 225)))
noncomputable def st12 (w : World) (os : OsState) : SharedT:=⟨tr12 w.params,890,{},#[],{},1758,os⟩
noncomputable def tr13 (P : Params) : BT:=bt 10 ((fin P).take 921)
noncomputable def st13 (w : World) (os : OsState) : SharedT:=⟨tr13 w.params,921,{},#[],{},1797,os⟩
noncomputable def m0 : Nat:=11
noncomputable def ann0 : Option Value:=some (Value.ref 6)
noncomputable def env0 : Env:={ scope:=pw.main.scope,locals:=mainNs,globals:=mainNs,cells:=[],code:=Value.ref 13,frame:=some 14 }
noncomputable def bE : List Stmt:=behindTheImports pw
noncomputable def cE : Code:=.body bE env0
noncomputable def fp : Pos:=⟨0,0,0,0⟩
noncomputable def BB : List Frame:=[topFrame fp]
noncomputable def twG:=@PySem.W.Fast.tw10110043849684766642
noncomputable def twT:=PySem.W.Fast.tw14364793385576792824
noncomputable def twX:=@PySem.W.Fast.tw12563942051412417395
theorem turn_ {w : World} {n : Nat} {s : SharedT} {l : List Stmt} {p : Pos} {r : Option (Flow × SharedT × Code × Pos)} (h : twG twT pw w m0 ann0 1 n s ⟨(twX l env0).wrap doneF deadEnd id id,cE,p,BB⟩ = r) :
  segRunT treeTable pw w m0 ann0 1 n s (piecesOf l env0 cE p BB) = r:=by
 have e1 : @segRunT = twG:=PySem.W.Fast.te10110043849684766642
 have e2 : treeTable = twT:=PySem.W.Fast.te14364793385576792824
 have e3 : @execs = twX:=PySem.W.Fast.te12563942051412417395
 unfold piecesOf
 rw [e1,e2,e3]
 exact h
theorem pc1 (w : World) (os : OsState) : twG twT pw w m0 ann0 1 520 (st0 w os) ⟨(twX ((PB.drop 0).take 4) env0).wrap doneF deadEnd id id,cE,⟨0,0,0,0⟩,BB⟩ = some (.next,st1 w os,cE,⟨14,0,15,8⟩):=by kernel_rfl
theorem pc2 (w : World) (os : OsState) : twG twT pw w m0 ann0 1 268 (st1 w os) ⟨(twX ((PB.drop 4).take 7) env0).wrap doneF deadEnd id id,cE,⟨14,0,15,8⟩,BB⟩ = some (.next,st2 w os,cE,⟨23,0,23,4⟩):=by kernel_rfl
theorem pc3 (w : World) (os : OsState) : twG twT pw w m0 ann0 1 701 (st2 w os) ⟨(twX ((PB.drop 11).take 5) env0).wrap doneF deadEnd id id,cE,⟨23,0,23,4⟩,BB⟩ = some (.next,st3 w os,cE,⟨84,0,105,54⟩):=by kernel_rfl
theorem pc4 (w : World) (os : OsState) : twG twT pw w m0 ann0 1 690 (st3 w os) ⟨(twX ((PB.drop 16).take 5) env0).wrap doneF deadEnd id id,cE,⟨84,0,105,54⟩,BB⟩ = some (.next,st4 w os,cE,⟨117,0,121,28⟩):=by kernel_rfl
theorem pc5 (w : World) (os : OsState) : twG twT pw w m0 ann0 1 689 (st4 w os) ⟨(twX ((PB.drop 21).take 11) env0).wrap doneF deadEnd id id,cE,⟨117,0,121,28⟩,BB⟩ = some (.next,st5 w os,cE,⟨179,0,179,19⟩):=by kernel_rfl
theorem pc6 (w : World) (os : OsState) : twG twT pw w m0 ann0 1 88 (st5 w os) ⟨(twX ((PB.drop 32).take 3) env0).wrap doneF deadEnd id id,cE,⟨179,0,179,19⟩,BB⟩ = some (.next,st6 w os,cE,⟨184,0,185,27⟩):=by kernel_rfl
theorem pc7 (w : World) (os : OsState) : twG twT pw w m0 ann0 1 693 (st6 w os) ⟨(twX ((PB.drop 35).take 9) env0).wrap doneF deadEnd id id,cE,⟨184,0,185,27⟩,BB⟩ = some (.next,st7 w os,cE,⟨269,0,269,4⟩):=by kernel_rfl
theorem pc8 (w : World) (os : OsState) : twG twT pw w m0 ann0 1 695 (st7 w os) ⟨(twX ((PB.drop 44).take 20) env0).wrap doneF deadEnd id id,cE,⟨269,0,269,4⟩,BB⟩ = some (.next,st8 w os,cE,⟨411,0,424,25⟩):=by kernel_rfl
theorem pc9 (w : World) (os : OsState) : twG twT pw w m0 ann0 1 549 (st8 w os) ⟨(twX ((PB.drop 64).take 25) env0).wrap doneF deadEnd id id,cE,⟨411,0,424,25⟩,BB⟩ = some (.next,st9 w os,cE,⟨547,0,547,9⟩):=by kernel_rfl
theorem pc10f (w : World) (os : OsState) : twG twT pw (w.withFollow "special-get-raises" false) m0 ann0 1 742 (st9 (w.withFollow "special-get-raises" false) os) ⟨(twX ((PB.drop 89).take 1) env0).wrap doneF deadEnd id id,cE,⟨547,0,547,9⟩,BB⟩ = some (.next,st10 (w.withFollow "special-get-raises" false) os,cE,⟨548,0,548,11⟩):=by kernel_rfl
theorem pc10t (w : World) (os : OsState) : twG twT pw (w.withFollow "special-get-raises" true) m0 ann0 1 742 (st9 (w.withFollow "special-get-raises" true) os) ⟨(twX ((PB.drop 89).take 1) env0).wrap doneF deadEnd id id,cE,⟨547,0,547,9⟩,BB⟩ = some (.next,st10 (w.withFollow "special-get-raises" true) os,cE,⟨548,0,548,11⟩):=by kernel_rfl
theorem pc10 (w : World) : ∀ (os : OsState),twG twT pw w m0 ann0 1 742 (st9 w os) ⟨(twX ((PB.drop 89).take 1) env0).wrap doneF deadEnd id id,cE,⟨547,0,547,9⟩,BB⟩ = some (.next,st10 w os,cE,⟨548,0,548,11⟩):=byRow2 "special-get-raises" (P:=λ w=>∀ os : OsState,twG twT pw w m0 ann0 1 742 (st9 w os) ⟨(twX ((PB.drop 89).take 1) env0).wrap doneF deadEnd id id,cE,⟨547,0,547,9⟩,BB⟩ = some (.next,st10 w os,cE,⟨548,0,548,11⟩)) pc10f pc10t w
theorem pc11 (w : World) (os : OsState) : twG twT pw w m0 ann0 1 684 (st10 w os) ⟨(twX ((PB.drop 90).take 21) env0).wrap doneF deadEnd id id,cE,⟨548,0,548,11⟩,BB⟩ = some (.next,st11 w os,cE,⟨663,0,667,18⟩):=by kernel_rfl
theorem pc12 (w : World) (os : OsState) : twG twT pw w m0 ann0 1 682 (st11 w os) ⟨(twX ((PB.drop 111).take 13) env0).wrap doneF deadEnd id id,cE,⟨663,0,667,18⟩,BB⟩ = some (.next,st12 w os,cE,⟨743,0,748,64⟩):=by kernel_rfl
theorem pc13 (w : World) (os : OsState) : twG twT pw w m0 ann0 1 146 (st12 w os) ⟨(twX ((PB.drop 124).take 5) env0).wrap doneF deadEnd id id,cE,⟨743,0,748,64⟩,BB⟩ = some (.next,st13 w os,cE,⟨773,0,807,16⟩):=by kernel_rfl
noncomputable def twP:=@PySem.W.Fast.tw15667345088766844465
noncomputable def twS:=@PySem.W.Fast.tw14374325043358763698
noncomputable def twR:=@PySem.W.Fast.tw14082659384304107361
noncomputable def twB:=@PySem.W.Fast.tw1066825118222455980
noncomputable def twD:=@PySem.W.Fast.tw11892475500146522536
noncomputable def h0 (P : Params) : Heap:=boot_heap P
noncomputable def h1 (P : Params) : Heap:=⟨⟨fin P⟩,{}⟩
noncomputable def s0_ (w : World) (os : OsState) : Shared:=⟨h0 w.params,⟨[]⟩,boot_drawn,boot_toks,os⟩
noncomputable def s1_ (w : World) (os : OsState) : Shared:=⟨h1 w.params,⟨[]⟩,{},1797,os⟩
noncomputable def sa_ (w : World) (os : OsState) : Shared:=(st0 w os).abs
theorem pre_ (w : World) (os : OsState) : topGo treeTable pw w m0 ann0 12 (s0_ w os) (topStub pw) = some (sa_ w os,⟨denote treeTable (.body bE env0),cE,⟨0,0,0,0⟩,BB⟩):=by
 kernel_rfl
theorem block_ (w : World) (os : OsState) : segRun treeTable pw w m0 ann0 1 1 (sa_ w os) (blockOf bE env0 cE ⟨0,0,0,0⟩ BB) = some (.next,(st0 w os).abs,cE,⟨0,0,0,0⟩):=by
 kernel_rfl
theorem last_ (w : World) (os : OsState) : topRun treeTable pw w m0 ann0 2 (st13 w os).abs ⟨doneF .next,cE,⟨773,0,807,16⟩,BB⟩ = some (s1_ w os):=by
 kernel_rfl
theorem body_ : bE = ((PB.drop 0).take 4 ++ ((PB.drop 4).take 7 ++ ((PB.drop 11).take 5 ++ ((PB.drop 16).take 5 ++ ((PB.drop 21).take 11 ++ ((PB.drop 32).take 3 ++ ((PB.drop 35).take 9 ++ ((PB.drop 44).take 20 ++ ((PB.drop 64).take 25 ++ ((PB.drop 89).take 1 ++ ((PB.drop 90).take 21 ++ ((PB.drop 111).take 13 ++ ((PB.drop 124).take 5 ++ ([] : List Stmt)))))))))))))):=by kernel_rfl
theorem rest_ (w : World) (os : OsState) : topRun treeTable pw w m0 ann0 (520 + (268 + (701 + (690 + (689 + (88 + (693 + (695 + (549 + (742 + (684 + (682 + (146 + 2))))))))))))) (st0 w os).abs (restOf bE env0 cE ⟨0,0,0,0⟩ BB) = some (s1_ w os):=by
 rw [body_]
 exact (piece_app (segRun_of (turn_ (pc1 w os))) (piece_app (segRun_of (turn_ (pc2 w os))) (piece_app (segRun_of (turn_ (pc3 w os))) (piece_app (segRun_of (turn_ (pc4 w os))) (piece_app (segRun_of (turn_ (pc5 w os))) (piece_app (segRun_of (turn_ (pc6 w os))) (piece_app (segRun_of (turn_ (pc7 w os))) (piece_app (segRun_of (turn_ (pc8 w os))) (piece_app (segRun_of (turn_ (pc9 w os))) (piece_app (segRun_of (turn_ (pc10 w os))) (piece_app (segRun_of (turn_ (pc11 w os))) (piece_app (segRun_of (turn_ (pc12 w os))) (piece_app (segRun_of (turn_ (pc13 w os))) (piece_nil (last_ w os)))))))))))))))
theorem run_ (w : World) (os : OsState) : topRun treeTable pw w m0 ann0 7162 (s0_ w os) (topStub pw) = some (s1_ w os):=
 go_top (N:=7150) (pre_ w os) (piece_block (N:=7149) (block_ w os) (rest_ w os))
noncomputable def qv : Program:=view pw [128]
set_option backward.match.sparseCases false in
noncomputable def bindN (st : Stmt) : Option Str:=match st with
 | .FunctionDef n _ _ _ _ _ _ _ _ _=>some n
 | .ClassDef n _ _ _ _ _ _ _ _ _ _=>some n
 | .Assign ts _ _=>match ts with
  | [.Name n _]=>match leqN n.cps.toList [95,95,110,97,109,101,95,95] with
   | true=>none
   | false=>some n
  | _=>none
 | _=>none
where leqN : List Nat -> List Nat -> Bool
 | [],[]=>true
 | a :: x,b :: y=>match Nat.beq a b with
  | true=>leqN x y
  | false=>false
 | _,_=>false
noncomputable def lo_ : List Str:=(PB.take 128).filterMap bindN
noncomputable def Xt_ (s : Shared) : Bool:=xlAt qv [] s && recOk [] s
theorem l1 (w : World) : staticsOk (importedModules pw.main.body) (h0 w.params) (h1 w.params) = true:=by kernel_rfl
theorem l2 (w : World) : namesBound pw (h1 w.params) = true:=by kernel_rfl
theorem l3 (w : World) (os : OsState) : gensDone (s1_ w os) = true:=by kernel_rfl
theorem l4 (w : World) : laidKept (h0 w.params) (h1 w.params) = true:=by kernel_rfl
noncomputable def twO:=@PySem.W.Fast.tw4187177175401517315
theorem l5' (w : World) (os : OsState) : twO qv lo_ (importedModules pw.main.body) Xt_ true (s1_ w os) = openGood qv lo_:=by kernel_rfl
theorem l5 (w : World) (os : OsState) : openSeen qv lo_ (importedModules pw.main.body) Xt_ true (s1_ w os) = openGood qv lo_:=by
 have e : @openSeen = twO:=PySem.W.Fast.te4187177175401517315
 rw [e]; exact l5' w os
noncomputable def ksel : List Nat:=[0,1,2,3,4,6,20,21,29,35,36,42,43,45,46,47,58,59,70,71,86,87,93,94,100,101,107,108,114,115,121,122,128,129,135,136,142,143,149,150,156,157,163,164,166,167,168,169,177,178,184,185,191,192,198,199,212,213,215,216,217,218,228,234,235,237,238,239,240,255,256,258,259,260,261,276,277,283,284,286,287,288,289,297,298,304,305,313,319,320,326,327,333,334,336,337,338,339,342,343,349,350,356,357,363,364,372,378,379,385,386,387,393,394,400,401,407,408,414,415,421,422,428,429,435,436,442,443,449,450,456,457,463,464,466,467,468,469,472,478,479,485,486,487,493,494,500,501,507,508,514,515,519,520,526,527,533,534,540,541,554,555,559,560,562,563,564,565,571,572,578,579,585,586,590,591,597,598,602,603,609,610,616,617,623,624,630,631,637,638,642,643,649,650,656,657,661,662,668,669,675,676,677,680,684,685,689,690,696,697,701,702,708,709,713,714,720,721,727,728,734,735,739,740,744,745,746,747,753,754,760,761,765,766,772,773,779,780,786,787,793,794,800,801,807,808,814,815,821,822,835,836,840,841,847,848,854,855,857,858,859,860,863,869,870,876,877,883,884,888,889,895,896,902,903,907,908,914,915,919,920]
noncomputable def nthO : List Obj -> Nat -> Obj
 | [],_=>default
 | x :: r,n=>match n with
  | 0=>x
  | n + 1=>nthO r n
noncomputable def Kf (P : Params) : Frag:=ksel.map λ a=>(a,nthO (fin P) a)
noncomputable def ob_ (s : Shared) : List (Option Obj):=ksel.map s.heap.get?
noncomputable def va_ (w : World) : List (Option Obj):=(Kf w.params).map λ p=>some p.2
theorem l6 (w : World) (os : OsState) : ob_ (s1_ w os) = va_ w:=by kernel_rfl
theorem ks_ (P : Params) : ksel = (Kf P).map (·.1):=by kernel_rfl
theorem left_ : LeftO pw qv lo_ Xt_ ob_ va_ 20000:=
 LeftO.of_pieces (H₀:=h0) (H₁:=h1) (boot_open rfl (by decide +kernel) λ _=>rfl) (λ w=>by kernel_rfl) (λ w os=>run_ w os) (by decide +kernel) λ w=>funext λ os=>by
  have e1:=l1 w
  have e2:=l2 w
  have e3:=l3 w os
  have e4:=l4 w
  have e5:=l5 w os
  have e6:=l6 w os
  unfold s1_ at e3 e5 e6
  simp only [e1,e2,e3,e4,e5,e6]
  rfl
noncomputable def twN:=@PySem.W.Fast.tw8326940854005059898
noncomputable def lkO : Look:={ strict:=false,foot:=none,bare:=[] }
abbrev rw_ : OpenLaw:=PySem.Challenge.rw_nn0177_01
theorem look_app (lk : Look) : ∀ a b : List Stmt,noRoadLSs lk (a ++ b) = (noRoadLSs lk a && noRoadLSs lk b):=by
 intro l_
 induction l_ with
 | nil=>
  intro b
  exact rfl
 | cons s a ih_=>
  intro b
  show (noRoadLS lk s && noRoadLSs lk (a ++ b)) = ((noRoadLS lk s && noRoadLSs lk a) && noRoadLSs lk b)
  simp only [ih_ b,Bool.and_assoc]
noncomputable def hasN (p : Nat -> Bool) : List Nat -> Bool
 | []=>false
 | c :: r=>match p c with
  | true=>true
  | false=>hasN p r
theorem hasN_eq (p : Nat -> Bool) : ∀ l : List Nat,hasN p l = l.any p:=by
 intro l_
 induction l_ with
 | nil=>
  exact rfl
 | cons c r ih_=>
  dsimp only [hasN]
  dsimp only [List.any_cons]
  cases p c with
  | true=>rfl
  | false=>exact ih_
noncomputable def roadB (l : List Nat) : Bool:=hasN (λ c=>Nat.beq c 123 || Nat.beq c 125) l || (hasN (λ c=>Nat.beq c 46) l)
theorem road_txt {x : Str} (h : roadB x.cps.toList = false) : roadStr x = false:=by
 unfold roadB at h
 simp only [hasN_eq,hasN_eq,Array.any_toList,Array.any_toList,Bool.or_eq_false_iff] at h
 have e : ∀ k : Nat,(λ c : Nat=>c == k) = λ c=>Nat.beq c k:=λ k=>funext λ c=>by
  cases q : Nat.beq c k with
  | true=>refine (Nat.eq_of_beq_eq_true q) ▸ ?_; simp
  | false=>simp [Nat.ne_of_beq_eq_false q]
 have e2 : (λ c : Nat=>c == 123 || c == 125) = λ c=>Nat.beq c 123 || Nat.beq c 125:=funext λ c=>by
  have a:=congrFun (e 123) c
  have b:=congrFun (e 125) c
  exact congr (congrArg or a) b
 unfold roadStr
 simp only [e2,e 46,h.1,h.2]
 rfl
noncomputable def cstW (v : Expr) : Option Str:=match v with
 | .Constant c _ _=>(match c with
  | .str x=>some x
  | _=>none)
 | _=>none
noncomputable def nam1 (ts : List Expr) : Option Str:=match ts with
 | t :: r=>(match t with
  | .Name n _=>(match r with
   | []=>some n
   | _ :: _=>none)
  | _=>none)
 | []=>none
set_option backward.match.sparseCases false in
noncomputable def asgW (st : Stmt) : Option (List Expr × Expr):=match st with
 | .Assign ts v _=>some (ts,v)
 | _=>none
noncomputable def txtOf (st : Stmt) : Option (Str × Str):=(asgW st).bind λ p=>(nam1 p.1).bind λ n=>(cstW p.2).map λ x=>(n,x)
theorem cstW_eq {v : Expr} {x : Str} (e : cstW v = some x) : ∃ k p,v = .Constant (.str x) k p:=by
 cases v with
 | Constant c k p=>cases c with
  | str y=>exact Option.some.inj e ▸ ⟨k,p,rfl⟩
  | _=>exact nsm e
 | _=>exact nsm e
theorem nam1_eq {ts : List Expr} {n : Str} (e : nam1 ts = some n) : ∃ p,ts = [.Name n p]:=by
 cases ts with
 | nil=>exact nsm e
 | cons t r=>cases t with
  | Name m p=>cases r with
   | nil=>exact Option.some.inj e ▸ ⟨p,rfl⟩
   | cons _ _=>exact nsm e
  | _=>exact nsm e
theorem asgW_eq {st : Stmt} {q : List Expr × Expr} (e : asgW st = some q) : ∃ p,st = .Assign q.1 q.2 p:=by
 cases st with
 | Assign ts v p=>exact Option.some.inj e ▸ ⟨p,rfl⟩
 | _=>exact nsm e
theorem txt_look {st : Stmt} {n x : Str} (e : txtOf st = some (n,x)) (h1 : lkO.name n = true) (h2 : lkO.word x = true) (h3 : roadB x.cps.toList = false) : noRoadLS lkO st = true:=by
 have hs : lkO.str x = true:=by
  unfold Look.str
  simp only [h2,road_txt h3]
  simp
 obtain ⟨⟨q1,q2⟩,hq,e⟩:=Option.bind_eq_some_iff.mp e
 obtain ⟨m,hm,e⟩:=Option.bind_eq_some_iff.mp e
 obtain ⟨y,hy,e⟩:=Option.map_eq_some_iff.mp e
 obtain ⟨rfl,rfl⟩:=Prod.mk.inj e
 obtain ⟨p,rfl⟩:=asgW_eq hq
 obtain ⟨p1,rfl⟩:=nam1_eq hm
 obtain ⟨p2,p3,rfl⟩:=cstW_eq hy
 exact (show (true && (lkO.name m && true) && lkO.str y) = true from by simp only [h1,hs]; rfl)
noncomputable def ct82 : { cs : List Char // tS 82 = Str.ofString (String.ofList cs) }:=⟨_,rfl⟩
noncomputable def lx82 : List Nat:=ct82.val.map Char.toNat
theorem tx82 : tS 82 = ⟨⟨lx82⟩⟩:=ct82.property.trans (PySem.W.Fast.ofString_ofList _)
noncomputable def ct83 : { cs : List Char // tS 83 = Str.ofString (String.ofList cs) }:=⟨_,rfl⟩
noncomputable def lx83 : List Nat:=ct83.val.map Char.toNat
theorem tx83 : tS 83 = ⟨⟨lx83⟩⟩:=ct83.property.trans (PySem.W.Fast.ofString_ofList _)
noncomputable def ct84 : { cs : List Char // tS 84 = Str.ofString (String.ofList cs) }:=⟨_,rfl⟩
noncomputable def lx84 : List Nat:=ct84.val.map Char.toNat
theorem tx84 : tS 84 = ⟨⟨lx84⟩⟩:=ct84.property.trans (PySem.W.Fast.ofString_ofList _)
noncomputable def ct85 : { cs : List Char // tS 85 = Str.ofString (String.ofList cs) }:=⟨_,rfl⟩
noncomputable def lx85 : List Nat:=ct85.val.map Char.toNat
theorem tx85 : tS 85 = ⟨⟨lx85⟩⟩:=ct85.property.trans (PySem.W.Fast.ofString_ofList _)
noncomputable def ct86 : { cs : List Char // tS 86 = Str.ofString (String.ofList cs) }:=⟨_,rfl⟩
noncomputable def lx86 : List Nat:=ct86.val.map Char.toNat
theorem tx86 : tS 86 = ⟨⟨lx86⟩⟩:=ct86.property.trans (PySem.W.Fast.ofString_ofList _)
noncomputable def ct87 : { cs : List Char // tS 87 = Str.ofString (String.ofList cs) }:=⟨_,rfl⟩
noncomputable def lx87 : List Nat:=ct87.val.map Char.toNat
theorem tx87 : tS 87 = ⟨⟨lx87⟩⟩:=ct87.property.trans (PySem.W.Fast.ofString_ofList _)
noncomputable def ct88 : { cs : List Char // tS 88 = Str.ofString (String.ofList cs) }:=⟨_,rfl⟩
noncomputable def lx88 : List Nat:=ct88.val.map Char.toNat
theorem tx88 : tS 88 = ⟨⟨lx88⟩⟩:=ct88.property.trans (PySem.W.Fast.ofString_ofList _)
noncomputable def nmS (k : Nat) : Str:=match txtOf (sA k) with
 | some p=>p.1
 | none=>Str.empty
theorem txt_at (k : Nat) (l : List Nat) (x : tS k = ⟨⟨l⟩⟩) (e : txtOf (sA k) = some (nmS k,tS k)) (h : (lkO.name (nmS k) && (lkO.word ⟨⟨l⟩⟩ && !roadB l)) = true) : noRoadLS lkO (sA k) = true:=by
 simp only [Bool.and_eq_true,Bool.not_eq_true'] at h
 rw [x] at e
 exact txt_look e h.1 h.2.1 h.2.2
theorem a1 : twN lkO (PB.take 40) = true:=by kernel_rfl
theorem a3 : twN lkO ((PB.drop 40).take 42) = true:=by kernel_rfl
theorem c82 : noRoadLS lkO (sA 82) = true:=txt_at 82 lx82 tx82 (by kernel_rfl) (by kernel_rfl)
theorem c83 : noRoadLS lkO (sA 83) = true:=txt_at 83 lx83 tx83 (by kernel_rfl) (by kernel_rfl)
theorem c84 : noRoadLS lkO (sA 84) = true:=txt_at 84 lx84 tx84 (by kernel_rfl) (by kernel_rfl)
theorem c85 : noRoadLS lkO (sA 85) = true:=txt_at 85 lx85 tx85 (by kernel_rfl) (by kernel_rfl)
theorem c86 : noRoadLS lkO (sA 86) = true:=txt_at 86 lx86 tx86 (by kernel_rfl) (by kernel_rfl)
theorem c87 : noRoadLS lkO (sA 87) = true:=txt_at 87 lx87 tx87 (by kernel_rfl) (by kernel_rfl)
theorem c88 : noRoadLS lkO (sA 88) = true:=txt_at 88 lx88 tx88 (by kernel_rfl) (by kernel_rfl)
theorem a4 : twN lkO (PB.drop 89) = true:=by kernel_rfl
theorem look_body : noRoadLSs lkO PB = true:=by
 have e : @noRoadLSs = twN:=PySem.W.Fast.te8326940854005059898
 have b1 : noRoadLSs lkO (PB.take 40) = true:=by rw [e]; exact a1
 have b3 : noRoadLSs lkO ((PB.drop 40).take 42) = true:=by rw [e]; exact a3
 have b4 : noRoadLSs lkO (PB.drop 89) = true:=by rw [e]; exact a4
 have h : PB = PB.take 40 ++ ((PB.drop 40).take 42 ++ ([sA 82,sA 83,sA 84,sA 85,sA 86,sA 87,sA 88] ++ PB.drop 89)):=by kernel_rfl
 rw [h,look_app,look_app,look_app,b1,b3,b4]
 show (true && (true && ((noRoadLS lkO (sA 82) && (noRoadLS lkO (sA 83) && (noRoadLS lkO (sA 84) && (noRoadLS lkO (sA 85) && (noRoadLS lkO (sA 86) && (noRoadLS lkO (sA 87) && (noRoadLS lkO (sA 88) && true))))))) && true))) = true
 simp only [c82,c83,c84,c85,c86,c87,c88]
 rfl
theorem and_ {a b : Bool} (x : a = true) (y : b = true) : (a && b) = true:=by rw [x,y]; rfl
noncomputable def andL (b : Bool) : List Bool -> Bool
 | []=>b
 | x :: r=>andL (b && x) r
theorem andL_true : ∀ {l : List Bool} {b : Bool},b = true -> andL true l = true -> andL b l = true:=by
 intro _ _ rfl h
 exact h
noncomputable def spLooks (p : Program) : { q : Bool × Look × Bool // looksOpen p = (q.1 && noRoadLSs q.2.1 p.main.body && q.2.2) }:=⟨(_,_,_),rfl⟩
noncomputable def spPart (r : OpenRow) : { q : List Bool // r.partSaid = andL (looksOpen r.prog) q }:=⟨[_,_,_,_,_,_,_,_,_,_,_,_,_],rfl⟩
noncomputable def spRow (r : OpenRow) : { q : List Bool // r.wellSaid = andL r.partSaid q }:=⟨[_,_],rfl⟩
noncomputable def spLaw (l : OpenLaw) : { q : List Bool // l.wellSaid = andL l.row.wellSaid q }:=⟨[_,_,_,_,_,_,_,_,_,_,_,_,_,_,_,_,_,_],rfl⟩
theorem e1 : (spLooks pw).val.1 = true:=by kernel_rfl
theorem e2 : (spLooks pw).val.2.1 = lkO:=by kernel_rfl
theorem e3 : (spLooks pw).val.2.2 = true:=by kernel_rfl
theorem e4 : andL true (spPart rw_.row).val = true:=by kernel_rfl
theorem e5 : andL true (spRow rw_.row).val = true:=by kernel_rfl
theorem e6 : andL true (spLaw rw_).val = true:=by kernel_rfl
theorem looks_ : looksOpen pw = true:=by
 simp only [(spLooks pw).property,e1,e2,e3,show noRoadLSs lkO pw.main.body = true from look_body]
 rfl
theorem row_ : rw_.row.wellSaid = true:=by
 rw [(spRow rw_.row).property]
 refine andL_true ?_ e5
 rw [(spPart rw_.row).property]
 exact andL_true looks_ e4
theorem said : rw_.wellSaid = true:=by
 rw [(spLaw rw_).property]
 exact andL_true row_ e6
noncomputable def drOf (st : Stmt) : DefRec:=match st with
 | .FunctionDef n a b _ _ _ sc _ _ p=>⟨n,a,b,sc,p⟩
 | _=>⟨Str.empty,⟨[],[],none,[],[],none,[]⟩,[],pw.main.scope,fp⟩
noncomputable def dr_ : DefRec:=drOf (sA 128)
theorem x1 : defOf qv rw_.row.name = some (dr_,[]):=by kernel_rfl
theorem x2 : rw_.row.prog.theDef rw_.row.name = some (dr_.params,dr_.body,dr_.scope):=by kernel_rfl
theorem x3 : kwWritten? dr_.params.kwonlyargs dr_.params.kw_defaults = some []:=by kernel_rfl
theorem x4 : (chainsOk qv && opensWell rw_.row.prog && (frees rw_.row.toRowW && rw_.row.within.isEmpty)) = true:=by kernel_rfl
theorem x5 : pw.tablesWhole = true:=by kernel_rfl
theorem x6 : rw_.row.toRowW.promised:=⟨[ofPy (PyData.list [])],by kernel_rfl,by kernel_rfl⟩
theorem holds_of (call : WalkX qv lo_ (XL qv []) ob_ va_ rw_.row.toRowW dr_ [] λ f vs=>PySem.call f vs) : rw_.Holds:=by
 refine holds_law said λ sd=>holds_openX (r:=rw_.row) (q:=qv) (loose:=lo_) (Xt:=Xt_) (XP:=XL qv []) (Yf:=ob_) (Ya:=va_) (d:=dr_) (kwd:=[]) (N:=20000) ?_ (λ s e=>xl_of s (Bool.and_eq_true_iff.mp e).1) XL.keeps x1 x2 x3 (λ s e=>recFacts_of (Bool.and_eq_true_iff.mp e).2) ?_ sd x4 ⟨rfl,rfl,rfl,rfl,rfl,x5⟩ x6 call
 ·exact left_
 ·rfl
section
variable {β : Type}
noncomputable def oInst (o : MO) (C d : Nat) (x : Option β) : Option β:=match o with
 | .inst C' d'=>yN C' C (yN d' d x)
 | _=>none
theorem oInst.sp {Q : MO -> β -> Prop} {x : Option β} {o : MO} {C d : Nat} (h : Sp x (Q (.inst C d))) : Sp (oInst o C d x) (Q o):=by
 cases o with
 | inst C' d'=>exact yN.sp (C:=λ n=>Q (.inst n d')) (yN.sp (C:=λ n=>Q (.inst C n)) h)
 | _=>exact .no
set_option backward.match.sparseCases false in
noncomputable def oPot (o : MO) (c : Nat) (f : Nat -> Option β) : Option β:=match o with
 | .gpot c' k=>yN c' c (f k)
 | _=>none
theorem oPot.sp {Q : MO -> β -> Prop} {f : Nat -> Option β} {o : MO} {c : Nat} (h : ∀ k,Sp (f k) (Q (.gpot c k))) : Sp (oPot o c f) (Q o):=by
 cases o with
 | gpot c' k=>exact yN.sp (C:=λ n=>Q (.gpot n k)) (h k)
 | _=>exact .no
set_option backward.match.sparseCases false in
noncomputable def oGc (o : MO) (x : Option β) : Option β:=match o with
 | .gcel=>x
 | _=>none
theorem oGc.sp {Q : MO -> β -> Prop} {x : Option β} {o : MO} (h : Sp x (Q .gcel)) : Sp (oGc o x) (Q o):=by
 cases o with
 | gcel=>exact h
 | _=>exact .no
noncomputable def oCfl (o : MO) (k : Nat -> List It -> Option β) : Option β:=match o with
 | .cfl p i=>k p i
 | _=>none
theorem oCfl.sp {C : MO -> β -> Prop} {k : Nat -> List It -> Option β} {o : MO} (h : ∀ p i,Sp (k p i) (C (.cfl p i))) : Sp (oCfl o k) (C o):=by
 cases o with
 | cfl p i=>exact h p i
 | _=>exact .no
noncomputable def oLst (o : MO) (k : List V -> Option β) : Option β:=match o with
 | .list l=>k l
 | _=>none
theorem oLst.sp {C : MO -> β -> Prop} {k : List V -> Option β} {o : MO} (h : ∀ l,Sp (k l) (C (.list l))) : Sp (oLst o k) (C o):=by
 cases o with
 | list l=>exact h l
 | _=>exact .no
noncomputable def oTup (o : MO) (k : List V -> Option β) : Option β:=match o with
 | .tup l=>k l
 | _=>none
theorem oTup.sp {C : MO -> β -> Prop} {k : List V -> Option β} {o : MO} (h : ∀ l,Sp (k l) (C (.tup l))) : Sp (oTup o k) (C o):=by
 cases o with
 | tup l=>exact h l
 | _=>exact .no
noncomputable def oDic (o : MO) (k : List (KV × V) -> Option β) : Option β:=match o with
 | .dict l=>k l
 | _=>none
theorem oDic.sp {C : MO -> β -> Prop} {k : List (KV × V) -> Option β} {o : MO} (h : ∀ l,Sp (k l) (C (.dict l))) : Sp (oDic o k) (C o):=by
 cases o with
 | dict l=>exact h l
 | _=>exact .no
noncomputable def oFls (o : MO) (k : List (Str × V) -> Option β) : Option β:=match o with
 | .flds l=>k l
 | _=>none
theorem oFls.sp {C : MO -> β -> Prop} {k : List (Str × V) -> Option β} {o : MO} (h : ∀ l,Sp (k l) (C (.flds l))) : Sp (oFls o k) (C o):=by
 cases o with
 | flds l=>exact h l
 | _=>exact .no
noncomputable def oRf (o : MO) (k : RF -> Option β) : Option β:=match o with
 | .rf q=>k q
 | _=>none
theorem oRf.sp {C : MO -> β -> Prop} {k : RF -> Option β} {o : MO} (h : ∀ q,Sp (k q) (C (.rf q))) : Sp (oRf o k) (C o):=by
 cases o with
 | rf q=>exact h q
 | _=>exact .no
noncomputable def rStrs (q : RF) (k : List (List Nat) -> Option β) : Option β:=match q with
 | .strs l=>k l
 | _=>none
theorem rStrs.sp {C : RF -> β -> Prop} {k : List (List Nat) -> Option β} {q : RF} (h : ∀ l,Sp (k l) (C (.strs l))) : Sp (rStrs q k) (C q):=by
 cases q with
 | «strs» l=>exact h l
 | _=>exact .no
noncomputable def rInts (q : RF) (k : List Int -> Option β) : Option β:=match q with
 | .ints l=>k l
 | _=>none
theorem rInts.sp {C : RF -> β -> Prop} {k : List Int -> Option β} {q : RF} (h : ∀ l,Sp (k l) (C (.ints l))) : Sp (rInts q k) (C q):=by
 cases q with
 | «ints» l=>exact h l
 | _=>exact .no
noncomputable def rSl (q : RF) (k : List Int -> Obj -> Option β) : Option β:=match q with
 | .sl l b=>k l b
 | _=>none
theorem rSl.sp {C : RF -> β -> Prop} {k : List Int -> Obj -> Option β} {q : RF} (h : ∀ l b,Sp (k l b) (C (.sl l b))) : Sp (rSl q k) (C q):=by
 cases q with
 | sl l b=>exact h l b
 | _=>exact .no
theorem Gh.c {C : Hp -> Prop} {o : MO} {H Hr : Hp} (h : Gh (o :: H) Hr) (k : ∀ o' H',Gh1 o o' -> Gh H H' -> C (o' :: H')) : C Hr:=by
 cases h with
 | cons a b=>exact k _ _ a b
theorem Gh.e {C : Hp -> Prop} {Hr : Hp} (h : Gh [] Hr) (k : C []) : C Hr:=by
 cases h
 exact k
theorem Gh1.s {C : MO -> Prop} {o o' : MO} (g : isGh o = false) (h : Gh1 o o') (k : C o) : C o':=by
 cases h with
 | self _=>exact k
 | _=>cases g
theorem Gh1.f {C : MO -> Prop} {p : Nat} {i : List It} {o' : MO} (h : Gh1 (.cfl p i) o') (k : ∀ D,p ≤ D.length ∧ D.length ≤ 1000000 ∧ D.drop p = flatI i -> C (.flds (csrF D p))) : C o':=by
 cases h with
 | self h=>cases h
 | cfl D h=>exact k D h
theorem Gh1.p {C : MO -> Prop} {c k : Nat} {o' : MO} (h : Gh1 (.gpot c k) o') (f : ∀ (st : Int) (i : Nat),i ≤ k -> C (.list [.ref c,.int st,.int i])) : C o':=by
 cases h with
 | self h=>cases h
 | pot st h=>exact f st _ h
theorem Gh1.g {C : MO -> Prop} {o' : MO} (h : Gh1 .gcel o') (f : ∀ is : List Nat,is.length ≤ 40 -> C (.list (is.map λ i=>.int (.ofNat i)))) : C o':=by
 cases h with
 | self h=>cases h
 | cel is h=>exact f is h
theorem Gh1.r {C : MO -> Prop} {q : RF} {o' : MO} (h : Gh1 (.rf q) o') (k : C q.mo) : C o':=by
 cases h with
 | self h=>cases h
 | rf=>exact k
end
structure FE where
 f : Addr
 st : Stmt
 q : String
 d : Value
 m : Value
 c : Value
 ds : List V
noncomputable def fnI (st : Stmt) (ds : List V) : FnI:=match st with
 | .FunctionDef n a b _ _ _ sc _ _ _=>⟨n,a.args.map (·.arg),ds,sc,b⟩
 | _=>⟨Str.empty,[],[],pw.main.scope,[]⟩
noncomputable def lookA {α : Type} (a : Nat) : List (Nat × α) -> Option α
 | []=>none
 | (b,v) :: r=>match Nat.beq b a with
  | true=>some v
  | false=>lookA a r
noncomputable def lookF (a : Nat) : List FE -> Option FE
 | []=>none
 | e :: r=>match Nat.beq e.f a with
  | true=>some e
  | false=>lookF a r
noncomputable def anyA (a : Nat) : List Nat -> Bool
 | []=>false
 | b :: r=>match Nat.beq b a with
  | true=>true
  | false=>anyA a r
noncomputable def anyN (x : Str) : List Str -> Bool
 | []=>false
 | y :: r=>match seq x y with
  | true=>true
  | false=>anyN x r
noncomputable def globT : List (Str × V):=[
 (⟨⟨[95,119,97,108,108]⟩⟩,.top (.ref 21)),
 (⟨⟨[80,97,112,101,114,69,114,114,111,114]⟩⟩,.top (.ref 46)),
 (⟨⟨[83,121,110,116,97,120,70,97,117,108,116]⟩⟩,.top (.ref 59)),
 (⟨⟨[70,111,110,116,70,97,117,108,116]⟩⟩,.top (.ref 71)),
 (⟨⟨[77,79,83,84,95,70,73,71,85,82,69,83,95,100,101,99,105,109,97,108,115]⟩⟩,.int 40),
 (⟨⟨[80,76,85,83]⟩⟩,.int 43),
 (⟨⟨[77,73,78,85,83]⟩⟩,.int 45),
 (⟨⟨[80,79,73,78,84]⟩⟩,.int 46),
 (⟨⟨[90,69,82,79]⟩⟩,.int 48),
 (⟨⟨[68,101,99,105,109,97,108]⟩⟩,.top (.ref 167)),
 (⟨⟨[115,105,103,110,95,116,101,120,116]⟩⟩,.top (.ref 178)),
 (⟨⟨[100,101,99,105,109,97,108,95,111,102]⟩⟩,.top (.ref 185)),
 (⟨⟨[97,116,95,111,110,101,95,115,99,97,108,101]⟩⟩,.top (.ref 192)),
 (⟨⟨[114,101,97,100,95,100,101,99,105,109,97,108]⟩⟩,.top (.ref 199)),
 (⟨⟨[77,79,83,84,95,72,79,80,83]⟩⟩,.int 30),
 (⟨⟨[78,97,109,101]⟩⟩,.top (.ref 216)),
 (⟨⟨[83,116,114,105,110,103]⟩⟩,.top (.ref 238)),
 (⟨⟨[83,116,114,101,97,109]⟩⟩,.top (.ref 259)),
 (⟨⟨[82,101,102,101,114,101,110,99,101]⟩⟩,.top (.ref 287)),
 (⟨⟨[107,105,110,100,95,111,102]⟩⟩,.top (.ref 298)),
 (⟨⟨[105,115,95,110,117,109,98,101,114]⟩⟩,.top (.ref 305)),
 (⟨⟨[76,111,111,107,117,112]⟩⟩,.top (.ref 337)),
 (⟨⟨[87,72,73,84,69]⟩⟩,.top (.ref 342)),
 (⟨⟨[68,69,76,73,77,73,84,69,82,83]⟩⟩,.top (.ref 343)),
 (⟨⟨[76,73,78,69,95,70,69,69,68]⟩⟩,.int 10),
 (⟨⟨[82,69,84,85,82,78]⟩⟩,.int 13),
 (⟨⟨[67,79,77,77,69,78,84]⟩⟩,.int 37),
 (⟨⟨[77,79,83,84,95,70,73,71,85,82,69,83,95,99,117,114,115,111,114]⟩⟩,.int 20),
 (⟨⟨[105,115,95,119,104,105,116,101]⟩⟩,.top (.ref 350)),
 (⟨⟨[105,115,95,114,101,103,117,108,97,114]⟩⟩,.top (.ref 357)),
 (⟨⟨[105,115,95,102,105,103,117,114,101]⟩⟩,.top (.ref 364)),
 (⟨⟨[67,117,114,115,111,114]⟩⟩,.top (.ref 467)),
 (⟨⟨[80,65,82,69,78]⟩⟩,.int 40),
 (⟨⟨[67,76,79,83,69,95,80,65,82,69,78]⟩⟩,.int 41),
 (⟨⟨[76,69,83,83]⟩⟩,.int 60),
 (⟨⟨[71,82,69,65,84,69,82]⟩⟩,.int 62),
 (⟨⟨[83,76,65,83,72]⟩⟩,.int 47),
 (⟨⟨[66,65,67,75,83,76,65,83,72]⟩⟩,.int 92),
 (⟨⟨[72,65,83,72]⟩⟩,.int 35),
 (⟨⟨[83,73,71,78,83]⟩⟩,.top (.ref 472)),
 (⟨⟨[104,101,120,95,119,111,114,116,104]⟩⟩,.top (.ref 479)),
 (⟨⟨[112,108,97,105,110,95,101,115,99,97,112,101]⟩⟩,.top (.ref 486)),
 (⟨⟨[110,97,109,101,95,116,101,120,116]⟩⟩,.top (.ref 494)),
 (⟨⟨[111,99,116,97,108]⟩⟩,.top (.ref 501)),
 (⟨⟨[101,115,99,97,112,101,100,95,99,111,100,101,115]⟩⟩,.top (.ref 508)),
 (⟨⟨[108,105,116,101,114,97,108]⟩⟩,.top (.ref 515)),
 (⟨⟨[104,101,120,95,115,116,114,105,110,103]⟩⟩,.top (.ref 520)),
 (⟨⟨[114,117,110,95,116,111,107,101,110]⟩⟩,.top (.ref 527)),
 (⟨⟨[100,101,108,105,109,105,116,101,100,95,116,111,107,101,110]⟩⟩,.top (.ref 534)),
 (⟨⟨[110,101,120,116,95,116,111,107,101,110]⟩⟩,.top (.ref 541)),
 (⟨⟨[77,79,83,84,95,76,69,78,71,84,72]⟩⟩,.int 4),
 (⟨⟨[72,69,88,95,83,73,71,78,83]⟩⟩,.str [48,49,50,51,52,53,54,55,56,57,65,66,67,68,69,70]),
 (⟨⟨[72,73,71,72,95,70,73,82,83,84]⟩⟩,.int 55296),
 (⟨⟨[76,79,87,95,70,73,82,83,84]⟩⟩,.int 56320),
 (⟨⟨[76,79,87,95,76,65,83,84]⟩⟩,.int 57343),
 (⟨⟨[67,77,97,112]⟩⟩,.top (.ref 563)),
 (⟨⟨[117,116,102,49,54,95,117,110,105,116,115]⟩⟩,.top (.ref 572)),
 (⟨⟨[117,116,102,49,54]⟩⟩,.top (.ref 579)),
 (⟨⟨[99,111,100,101,95,111,102]⟩⟩,.top (.ref 586)),
 (⟨⟨[99,111,100,101,95,111,99,116,101,116,115]⟩⟩,.top (.ref 591)),
 (⟨⟨[102,105,116,116,105,110,103]⟩⟩,.top (.ref 598)),
 (⟨⟨[110,101,120,116,95,108,101,110,103,116,104]⟩⟩,.top (.ref 603)),
 (⟨⟨[115,112,108,105,116,95,99,111,100,101,115]⟩⟩,.top (.ref 610)),
 (⟨⟨[115,116,114,105,110,103,95,105,110]⟩⟩,.top (.ref 617)),
 (⟨⟨[99,111,100,101,95,105,110]⟩⟩,.top (.ref 624)),
 (⟨⟨[116,101,120,116,95,105,110]⟩⟩,.top (.ref 631)),
 (⟨⟨[105,115,95,112,97,114,116,95,101,110,100]⟩⟩,.top (.ref 638)),
 (⟨⟨[114,101,97,100,95,115,112,97,99,101,115]⟩⟩,.top (.ref 643)),
 (⟨⟨[114,101,97,100,95,99,104,97,114,115]⟩⟩,.top (.ref 650)),
 (⟨⟨[116,101,120,116,115,95,105,110,95,114,111,119]⟩⟩,.top (.ref 657)),
 (⟨⟨[116,101,120,116,115,95,116,104,97,116,95,114,117,110]⟩⟩,.top (.ref 662)),
 (⟨⟨[114,101,97,100,95,114,97,110,103,101,115]⟩⟩,.top (.ref 669)),
 (⟨⟨[114,101,97,100,95,99,109,97,112]⟩⟩,.top (.ref 676)),
 (⟨⟨[70,73,71,85,82,69,83]⟩⟩,.str [48,49,50,51,52,53,54,55,56,57]),
 (⟨⟨[78,79,95,71,76,89,80,72]⟩⟩,.str [46,110,111,116,100,101,102]),
 (⟨⟨[72,73,71,72,95,78,65,77,69,83]⟩⟩,.str [98,114,97,99,101,108,101,102,116,32,98,97,114,32,98,114,97,99,101,114,105,103,104,116,32,97,115,99,105,105,116,105,108,100,101]),
 (⟨⟨[79,84,72,69,82,95,67,79,68,69,83]⟩⟩,.top (.ref 677)),
 (⟨⟨[83,85,82,82,79,71,65,84,69,83]⟩⟩,.top (.ref 680)),
 (⟨⟨[77,79,83,84,95,67,79,68,69]⟩⟩,.int 1114111),
 (⟨⟨[97,115,99,105,105,95,110,97,109,101,115]⟩⟩,.top (.ref 685)),
 (⟨⟨[108,97,116,105,110,95,110,97,109,101,115]⟩⟩,.top (.ref 690)),
 (⟨⟨[119,105,116,104,95,119,111,114,100,115]⟩⟩,.top (.ref 697)),
 (⟨⟨[98,97,115,101,95,110,97,109,101,115]⟩⟩,.top (.ref 702)),
 (⟨⟨[119,105,116,104,95,100,105,102,102,101,114,101,110,99,101,115]⟩⟩,.top (.ref 709)),
 (⟨⟨[101,110,99,111,100,105,110,103,95,111,102]⟩⟩,.top (.ref 714)),
 (⟨⟨[104,101,120,95,110,117,109,98,101,114]⟩⟩,.top (.ref 721)),
 (⟨⟨[105,115,95,115,105,103,110,95,99,111,100,101]⟩⟩,.top (.ref 728)),
 (⟨⟨[107,110,111,119,110,95,99,111,100,101]⟩⟩,.top (.ref 735)),
 (⟨⟨[112,97,114,116,95,116,101,120,116]⟩⟩,.top (.ref 740)),
 (⟨⟨[103,108,121,112,104,95,116,101,120,116]⟩⟩,.top (.ref 745)),
 (⟨⟨[72,69,76,86,69,84,73,67,65]⟩⟩,.top (.ref 746)),
 (⟨⟨[84,73,77,69,83]⟩⟩,.top (.ref 747)),
 (⟨⟨[67,79,85,82,73,69,82,95,87,73,68,84,72]⟩⟩,.int 600),
 (⟨⟨[110,117,109,98,101,114,95,111,102]⟩⟩,.top (.ref 754)),
 (⟨⟨[119,104,111,108,101,95,111,102]⟩⟩,.top (.ref 761)),
 (⟨⟨[115,105,109,112,108,101,95,114,111,119,115]⟩⟩,.top (.ref 766)),
 (⟨⟨[119,105,100,116,104,95,105,110]⟩⟩,.top (.ref 773)),
 (⟨⟨[115,116,97,110,100,97,114,100,95,119,105,100,116,104,115]⟩⟩,.top (.ref 780)),
 (⟨⟨[115,116,97,110,100,97,114,100,95,119,105,100,116,104]⟩⟩,.top (.ref 787)),
 (⟨⟨[110,97,109,101,95,97,116]⟩⟩,.top (.ref 794)),
 (⟨⟨[97,114,114,97,121,95,97,116]⟩⟩,.top (.ref 801)),
 (⟨⟨[109,105,115,115,105,110,103,95,119,105,100,116,104]⟩⟩,.top (.ref 808)),
 (⟨⟨[117,110,105,116,95,111,102]⟩⟩,.top (.ref 815)),
 (⟨⟨[99,105,100,95,111,102]⟩⟩,.top (.ref 822)),
 (⟨⟨[70,111,110,116]⟩⟩,.top (.ref 858)),
 (⟨⟨[115,105,109,112,108,101,95,102,111,110,116]⟩⟩,.top (.ref 870)),
 (⟨⟨[117,110,105,99,111,100,101,95,97,116]⟩⟩,.top (.ref 877)),
 (⟨⟨[114,101,97,100,95,115,105,109,112,108,101]⟩⟩,.top (.ref 884)),
 (⟨⟨[95,108,97,119,95,112,111,116]⟩⟩,.top (.ref 889)),
 (⟨⟨[95,108,97,119,95,100,114,97,119]⟩⟩,.top (.ref 896)),
 (⟨⟨[95,108,97,119,95,116,119,111]⟩⟩,.top (.ref 903)),
 (⟨⟨[95,108,97,119,95,116,101,120,116,115]⟩⟩,.top (.ref 908)),
 (⟨⟨[95,108,97,119,95,100,101,99,111,100,101,100]⟩⟩,.top (.ref 915)),
 (⟨⟨[108,97,119]⟩⟩,.top (.ref 920))]
noncomputable def objT : List (Addr × MO):=[
 (342,.tup [V.int 0,V.int 9,V.int 10,V.int 12,V.int 13,V.int 32]),
 (343,.tup [V.int 40,V.int 41,V.int 60,V.int 62,V.int 91,V.int 93,V.int 123,V.int 125,V.int 47,V.int 37]),
 (472,.tup [V.int 91,V.int 93,V.int 123,V.int 125]),
 (677,.dict [(KV.str [69,117,114,111],V.int 8364),(KV.str [113,117,111,116,101,115,105,110,103,108,98,97,115,101],V.int 8218),(KV.str [102,108,111,114,105,110],V.int 402),(KV.str [113,117,111,116,101,100,98,108,98,97,115,101],V.int 8222),(KV.str [101,108,108,105,112,115,105,115],V.int 8230),(KV.str [100,97,103,103,101,114],V.int 8224),(KV.str [100,97,103,103,101,114,100,98,108],V.int 8225),(KV.str [99,105,114,99,117,109,102,108,101,120],V.int 710),(KV.str [112,101,114,116,104,111,117,115,97,110,100],V.int 8240),(KV.str [83,99,97,114,111,110],V.int 352),(KV.str [103,117,105,108,115,105,110,103,108,108,101,102,116],V.int 8249),(KV.str [79,69],V.int 338),(KV.str [90,99,97,114,111,110],V.int 381),(KV.str [113,117,111,116,101,108,101,102,116],V.int 8216),(KV.str [113,117,111,116,101,114,105,103,104,116],V.int 8217),(KV.str [113,117,111,116,101,100,98,108,108,101,102,116],V.int 8220),(KV.str [113,117,111,116,101,100,98,108,114,105,103,104,116],V.int 8221),(KV.str [98,117,108,108,101,116],V.int 8226),(KV.str [101,110,100,97,115,104],V.int 8211),(KV.str [101,109,100,97,115,104],V.int 8212),(KV.str [116,105,108,100,101],V.int 732),(KV.str [116,114,97,100,101,109,97,114,107],V.int 8482),(KV.str [115,99,97,114,111,110],V.int 353),(KV.str [103,117,105,108,115,105,110,103,108,114,105,103,104,116],V.int 8250),(KV.str [111,101],V.int 339),(KV.str [122,99,97,114,111,110],V.int 382),(KV.str [89,100,105,101,114,101,115,105,115],V.int 376),(KV.str [102,114,97,99,116,105,111,110],V.int 8260),(KV.str [102,105],V.int 64257),(KV.str [102,108],V.int 64258),(KV.str [98,114,101,118,101],V.int 728),(KV.str [100,111,116,97,99,99,101,110,116],V.int 729),(KV.str [114,105,110,103],V.int 730),(KV.str [104,117,110,103,97,114,117,109,108,97,117,116],V.int 733),(KV.str [111,103,111,110,101,107],V.int 731),(KV.str [99,97,114,111,110],V.int 711),(KV.str [76,115,108,97,115,104],V.int 321),(KV.str [108,115,108,97,115,104],V.int 322),(KV.str [100,111,116,108,101,115,115,105],V.int 305)]),
 (680,.tup [V.int 55296,V.int 57343])]
noncomputable def fnT : List FE:=[
 ⟨21,sA 0,"_wall",.none,s_ "__main__" 164,.ref 20,[]⟩,
 ⟨36,mA 2 0,"PaperError.__init__",.ref 29,s_ "paperhold.errors" 194,.ref 35,[.int (-1)]⟩,
 ⟨43,mA 2 1,"PaperError.told",.none,s_ "paperhold.errors" 194,.ref 42,[]⟩,
 ⟨87,mA 11 0,"Decimal.__init__",.none,s_ "paperhold.decimals" 268,.ref 86,[]⟩,
 ⟨94,mA 11 1,"Decimal.plus",.none,s_ "paperhold.decimals" 268,.ref 93,[]⟩,
 ⟨101,mA 11 2,"Decimal.minus",.none,s_ "paperhold.decimals" 268,.ref 100,[]⟩,
 ⟨108,mA 11 3,"Decimal.times",.none,s_ "paperhold.decimals" 268,.ref 107,[]⟩,
 ⟨115,mA 11 4,"Decimal.negated",.none,s_ "paperhold.decimals" 268,.ref 114,[]⟩,
 ⟨122,mA 11 5,"Decimal.compared",.none,s_ "paperhold.decimals" 268,.ref 121,[]⟩,
 ⟨129,mA 11 6,"Decimal.is_whole",.none,s_ "paperhold.decimals" 268,.ref 128,[]⟩,
 ⟨136,mA 11 7,"Decimal.floor",.none,s_ "paperhold.decimals" 268,.ref 135,[]⟩,
 ⟨143,mA 11 8,"Decimal.rounded",.none,s_ "paperhold.decimals" 268,.ref 142,[]⟩,
 ⟨150,mA 11 9,"Decimal.told",.none,s_ "paperhold.decimals" 268,.ref 149,[]⟩,
 ⟨157,mA 11 10,"Decimal.text",.none,s_ "paperhold.decimals" 268,.ref 156,[]⟩,
 ⟨164,mA 11 11,"Decimal.least_text",.none,s_ "paperhold.decimals" 268,.ref 163,[]⟩,
 ⟨178,sA 12,"sign_text",.none,s_ "paperhold.decimals" 268,.ref 177,[]⟩,
 ⟨185,sA 13,"decimal_of",.none,s_ "paperhold.decimals" 268,.ref 184,[]⟩,
 ⟨192,sA 14,"at_one_scale",.none,s_ "paperhold.decimals" 268,.ref 191,[]⟩,
 ⟨199,sA 15,"read_decimal",.none,s_ "paperhold.decimals" 268,.ref 198,[]⟩,
 ⟨213,mA 18 0,"Name.__init__",.none,s_ "paperhold.objects" 435,.ref 212,[]⟩,
 ⟨235,mA 19 0,"String.__init__",.ref 228,s_ "paperhold.objects" 435,.ref 234,[.bool false]⟩,
 ⟨256,mA 20 0,"Stream.__init__",.none,s_ "paperhold.objects" 435,.ref 255,[]⟩,
 ⟨277,mA 21 0,"Reference.__init__",.none,s_ "paperhold.objects" 435,.ref 276,[]⟩,
 ⟨284,mA 21 1,"Reference.pair",.none,s_ "paperhold.objects" 435,.ref 283,[]⟩,
 ⟨298,sA 22,"kind_of",.none,s_ "paperhold.objects" 435,.ref 297,[]⟩,
 ⟨305,sA 23,"is_number",.none,s_ "paperhold.objects" 435,.ref 304,[]⟩,
 ⟨320,mA 24 0,"Lookup.__init__",.ref 313,s_ "paperhold.objects" 435,.ref 319,[.none,.none]⟩,
 ⟨327,mA 24 1,"Lookup.fetch",.none,s_ "paperhold.objects" 435,.ref 326,[]⟩,
 ⟨334,mA 24 2,"Lookup.get",.none,s_ "paperhold.objects" 435,.ref 333,[]⟩,
 ⟨350,sA 32,"is_white",.none,s_ "paperhold.cursor" 634,.ref 349,[]⟩,
 ⟨357,sA 33,"is_regular",.none,s_ "paperhold.cursor" 634,.ref 356,[]⟩,
 ⟨364,sA 34,"is_figure",.none,s_ "paperhold.cursor" 634,.ref 363,[]⟩,
 ⟨379,mA 35 0,"Cursor.__init__",.ref 372,s_ "paperhold.cursor" 634,.ref 378,[.int 0,.int (-1)]⟩,
 ⟨386,mA 35 1,"Cursor.is_done",.none,s_ "paperhold.cursor" 634,.ref 385,[]⟩,
 ⟨394,mA 35 2,"Cursor.peek",.ref 387,s_ "paperhold.cursor" 634,.ref 393,[.int 0]⟩,
 ⟨401,mA 35 3,"Cursor.take",.none,s_ "paperhold.cursor" 634,.ref 400,[]⟩,
 ⟨408,mA 35 4,"Cursor.starts",.none,s_ "paperhold.cursor" 634,.ref 407,[]⟩,
 ⟨415,mA 35 5,"Cursor.skip",.none,s_ "paperhold.cursor" 634,.ref 414,[]⟩,
 ⟨422,mA 35 6,"Cursor.skip_white",.none,s_ "paperhold.cursor" 634,.ref 421,[]⟩,
 ⟨429,mA 35 7,"Cursor.take_regular",.none,s_ "paperhold.cursor" 634,.ref 428,[]⟩,
 ⟨436,mA 35 8,"Cursor.skip_line_end",.none,s_ "paperhold.cursor" 634,.ref 435,[]⟩,
 ⟨443,mA 35 9,"Cursor.take_line",.none,s_ "paperhold.cursor" 634,.ref 442,[]⟩,
 ⟨450,mA 35 10,"Cursor.number",.none,s_ "paperhold.cursor" 634,.ref 449,[]⟩,
 ⟨457,mA 35 11,"Cursor.find",.none,s_ "paperhold.cursor" 634,.ref 456,[]⟩,
 ⟨464,mA 35 12,"Cursor.find_last",.none,s_ "paperhold.cursor" 634,.ref 463,[]⟩,
 ⟨479,sA 45,"hex_worth",.none,s_ "paperhold.lexer" 816,.ref 478,[]⟩,
 ⟨486,sA 46,"plain_escape",.none,s_ "paperhold.lexer" 816,.ref 485,[]⟩,
 ⟨494,sA 47,"name_text",.ref 487,s_ "paperhold.lexer" 816,.ref 493,[.int (-1)]⟩,
 ⟨501,sA 48,"octal",.none,s_ "paperhold.lexer" 816,.ref 500,[]⟩,
 ⟨508,sA 49,"escaped_codes",.none,s_ "paperhold.lexer" 816,.ref 507,[]⟩,
 ⟨515,sA 50,"literal",.none,s_ "paperhold.lexer" 816,.ref 514,[]⟩,
 ⟨520,sA 51,"hex_string",.none,s_ "paperhold.lexer" 816,.ref 519,[]⟩,
 ⟨527,sA 52,"run_token",.none,s_ "paperhold.lexer" 816,.ref 526,[]⟩,
 ⟨534,sA 53,"delimited_token",.none,s_ "paperhold.lexer" 816,.ref 533,[]⟩,
 ⟨541,sA 54,"next_token",.none,s_ "paperhold.lexer" 816,.ref 540,[]⟩,
 ⟨555,mA 61 0,"CMap.__init__",.none,s_ "paperhold.cmaps" 929,.ref 554,[]⟩,
 ⟨560,mA 61 1,"CMap.told",.none,s_ "paperhold.cmaps" 929,.ref 559,[]⟩,
 ⟨572,sA 62,"utf16_units",.none,s_ "paperhold.cmaps" 929,.ref 571,[]⟩,
 ⟨579,sA 63,"utf16",.none,s_ "paperhold.cmaps" 929,.ref 578,[]⟩,
 ⟨586,sA 64,"code_of",.none,s_ "paperhold.cmaps" 929,.ref 585,[]⟩,
 ⟨591,sA 65,"code_octets",.none,s_ "paperhold.cmaps" 929,.ref 590,[]⟩,
 ⟨598,sA 66,"fitting",.none,s_ "paperhold.cmaps" 929,.ref 597,[]⟩,
 ⟨603,sA 67,"next_length",.none,s_ "paperhold.cmaps" 929,.ref 602,[]⟩,
 ⟨610,sA 68,"split_codes",.none,s_ "paperhold.cmaps" 929,.ref 609,[]⟩,
 ⟨617,sA 69,"string_in",.none,s_ "paperhold.cmaps" 929,.ref 616,[]⟩,
 ⟨624,sA 70,"code_in",.none,s_ "paperhold.cmaps" 929,.ref 623,[]⟩,
 ⟨631,sA 71,"text_in",.none,s_ "paperhold.cmaps" 929,.ref 630,[]⟩,
 ⟨638,sA 72,"is_part_end",.none,s_ "paperhold.cmaps" 929,.ref 637,[]⟩,
 ⟨643,sA 73,"read_spaces",.none,s_ "paperhold.cmaps" 929,.ref 642,[]⟩,
 ⟨650,sA 74,"read_chars",.none,s_ "paperhold.cmaps" 929,.ref 649,[]⟩,
 ⟨657,sA 75,"texts_in_row",.none,s_ "paperhold.cmaps" 929,.ref 656,[]⟩,
 ⟨662,sA 76,"texts_that_run",.none,s_ "paperhold.cmaps" 929,.ref 661,[]⟩,
 ⟨669,sA 77,"read_ranges",.none,s_ "paperhold.cmaps" 929,.ref 668,[]⟩,
 ⟨676,sA 78,"read_cmap",.none,s_ "paperhold.cmaps" 929,.ref 675,[]⟩,
 ⟨685,sA 92,"ascii_names",.none,s_ "paperhold.encodings" 1131,.ref 684,[]⟩,
 ⟨690,sA 93,"latin_names",.none,s_ "paperhold.encodings" 1131,.ref 689,[]⟩,
 ⟨697,sA 94,"with_words",.none,s_ "paperhold.encodings" 1131,.ref 696,[]⟩,
 ⟨702,sA 95,"base_names",.none,s_ "paperhold.encodings" 1131,.ref 701,[]⟩,
 ⟨709,sA 96,"with_differences",.none,s_ "paperhold.encodings" 1131,.ref 708,[]⟩,
 ⟨714,sA 97,"encoding_of",.none,s_ "paperhold.encodings" 1131,.ref 713,[]⟩,
 ⟨721,sA 98,"hex_number",.none,s_ "paperhold.encodings" 1131,.ref 720,[]⟩,
 ⟨728,sA 99,"is_sign_code",.none,s_ "paperhold.encodings" 1131,.ref 727,[]⟩,
 ⟨735,sA 100,"known_code",.none,s_ "paperhold.encodings" 1131,.ref 734,[]⟩,
 ⟨740,sA 101,"part_text",.none,s_ "paperhold.encodings" 1131,.ref 739,[]⟩,
 ⟨745,sA 102,"glyph_text",.none,s_ "paperhold.encodings" 1131,.ref 744,[]⟩,
 ⟨754,sA 107,"number_of",.none,s_ "paperhold.fonts" 1356,.ref 753,[]⟩,
 ⟨761,sA 108,"whole_of",.none,s_ "paperhold.fonts" 1356,.ref 760,[]⟩,
 ⟨766,sA 109,"simple_rows",.none,s_ "paperhold.fonts" 1356,.ref 765,[]⟩,
 ⟨773,sA 110,"width_in",.none,s_ "paperhold.fonts" 1356,.ref 772,[]⟩,
 ⟨780,sA 111,"standard_widths",.none,s_ "paperhold.fonts" 1356,.ref 779,[]⟩,
 ⟨787,sA 112,"standard_width",.none,s_ "paperhold.fonts" 1356,.ref 786,[]⟩,
 ⟨794,sA 113,"name_at",.none,s_ "paperhold.fonts" 1356,.ref 793,[]⟩,
 ⟨801,sA 114,"array_at",.none,s_ "paperhold.fonts" 1356,.ref 800,[]⟩,
 ⟨808,sA 115,"missing_width",.none,s_ "paperhold.fonts" 1356,.ref 807,[]⟩,
 ⟨815,sA 116,"unit_of",.none,s_ "paperhold.fonts" 1356,.ref 814,[]⟩,
 ⟨822,sA 117,"cid_of",.none,s_ "paperhold.fonts" 1356,.ref 821,[]⟩,
 ⟨836,mA 118 0,"Font.__init__",.none,s_ "paperhold.fonts" 1356,.ref 835,[]⟩,
 ⟨841,mA 118 1,"Font.codes",.none,s_ "paperhold.fonts" 1356,.ref 840,[]⟩,
 ⟨848,mA 118 2,"Font.width",.none,s_ "paperhold.fonts" 1356,.ref 847,[]⟩,
 ⟨855,mA 118 3,"Font.text",.none,s_ "paperhold.fonts" 1356,.ref 854,[]⟩,
 ⟨870,sA 119,"simple_font",.ref 863,s_ "paperhold.fonts" 1356,.ref 869,[.none]⟩,
 ⟨877,sA 120,"unicode_at",.none,s_ "paperhold.fonts" 1356,.ref 876,[]⟩,
 ⟨884,sA 121,"read_simple",.none,s_ "paperhold.fonts" 1356,.ref 883,[]⟩,
 ⟨889,sA 123,"_law_pot",.none,s_ "law_nn0177_01" 1750,.ref 888,[]⟩,
 ⟨896,sA 124,"_law_draw",.none,s_ "law_nn0177_01" 1750,.ref 895,[]⟩,
 ⟨903,sA 125,"_law_two",.none,s_ "law_nn0177_01" 1750,.ref 902,[]⟩,
 ⟨908,sA 126,"_law_texts",.none,s_ "law_nn0177_01" 1750,.ref 907,[]⟩,
 ⟨915,sA 127,"_law_decoded",.none,s_ "law_nn0177_01" 1750,.ref 914,[]⟩,
 ⟨920,sA 128,"law",.none,s_ "law_nn0177_01" 1750,.ref 919,[]⟩]
noncomputable def clsT : List (Addr × Addr):=[(167,87),(216,213),(238,235),(259,256),(287,277),(337,320),(467,379),(563,555),(858,836)]
noncomputable def excT : List (Addr × Addr):=[(46,36),(59,36),(71,36)]
noncomputable def methT : List (Addr × List (Str × Addr)):=[
 (167,[(⟨⟨[95,95,105,110,105,116,95,95]⟩⟩,87),(⟨⟨[112,108,117,115]⟩⟩,94),(⟨⟨[109,105,110,117,115]⟩⟩,101),(⟨⟨[116,105,109,101,115]⟩⟩,108),(⟨⟨[110,101,103,97,116,101,100]⟩⟩,115),(⟨⟨[99,111,109,112,97,114,101,100]⟩⟩,122),(⟨⟨[105,115,95,119,104,111,108,101]⟩⟩,129),(⟨⟨[102,108,111,111,114]⟩⟩,136),(⟨⟨[114,111,117,110,100,101,100]⟩⟩,143),(⟨⟨[116,111,108,100]⟩⟩,150),(⟨⟨[116,101,120,116]⟩⟩,157),(⟨⟨[108,101,97,115,116,95,116,101,120,116]⟩⟩,164)]),
 (216,[(⟨⟨[95,95,105,110,105,116,95,95]⟩⟩,213)]),
 (238,[(⟨⟨[95,95,105,110,105,116,95,95]⟩⟩,235)]),
 (259,[(⟨⟨[95,95,105,110,105,116,95,95]⟩⟩,256)]),
 (287,[(⟨⟨[95,95,105,110,105,116,95,95]⟩⟩,277),(⟨⟨[112,97,105,114]⟩⟩,284)]),
 (337,[(⟨⟨[95,95,105,110,105,116,95,95]⟩⟩,320),(⟨⟨[102,101,116,99,104]⟩⟩,327),(⟨⟨[103,101,116]⟩⟩,334)]),
 (467,[(⟨⟨[95,95,105,110,105,116,95,95]⟩⟩,379),(⟨⟨[105,115,95,100,111,110,101]⟩⟩,386),(⟨⟨[112,101,101,107]⟩⟩,394),(⟨⟨[116,97,107,101]⟩⟩,401),(⟨⟨[115,116,97,114,116,115]⟩⟩,408),(⟨⟨[115,107,105,112]⟩⟩,415),(⟨⟨[115,107,105,112,95,119,104,105,116,101]⟩⟩,422),(⟨⟨[116,97,107,101,95,114,101,103,117,108,97,114]⟩⟩,429),(⟨⟨[115,107,105,112,95,108,105,110,101,95,101,110,100]⟩⟩,436),(⟨⟨[116,97,107,101,95,108,105,110,101]⟩⟩,443),(⟨⟨[110,117,109,98,101,114]⟩⟩,450),(⟨⟨[102,105,110,100]⟩⟩,457),(⟨⟨[102,105,110,100,95,108,97,115,116]⟩⟩,464)]),
 (563,[(⟨⟨[95,95,105,110,105,116,95,95]⟩⟩,555),(⟨⟨[116,111,108,100]⟩⟩,560)]),
 (858,[(⟨⟨[95,95,105,110,105,116,95,95]⟩⟩,836),(⟨⟨[99,111,100,101,115]⟩⟩,841),(⟨⟨[119,105,100,116,104]⟩⟩,848),(⟨⟨[116,101,120,116]⟩⟩,855)])]
noncomputable def mroT : List (Addr × List Addr):=[(46,[46]),(59,[59,46]),(71,[71,46]),(167,[167]),(216,[216]),(238,[238]),(259,[259]),(287,[287]),(337,[337]),(467,[467]),(563,[563]),(858,[858])]
noncomputable def fldT : List (Addr × List Str):=[
 (46,[⟨⟨[119,104,97,116]⟩⟩,⟨⟨[97,116]⟩⟩]),
 (59,[⟨⟨[119,104,97,116]⟩⟩,⟨⟨[97,116]⟩⟩]),
 (71,[⟨⟨[119,104,97,116]⟩⟩,⟨⟨[97,116]⟩⟩]),
 (167,[⟨⟨[116,111,112]⟩⟩,⟨⟨[112,108,97,99,101,115]⟩⟩]),
 (216,[⟨⟨[116,101,120,116]⟩⟩]),
 (238,[⟨⟨[111,99,116,101,116,115]⟩⟩,⟨⟨[105,115,95,104,101,120]⟩⟩]),
 (259,[⟨⟨[104,101,97,100]⟩⟩,⟨⟨[111,99,116,101,116,115]⟩⟩]),
 (287,[⟨⟨[110,117,109,98,101,114]⟩⟩,⟨⟨[103,101,110,101,114,97,116,105,111,110]⟩⟩]),
 (337,[⟨⟨[116,97,98,108,101]⟩⟩,⟨⟨[116,114,97,105,108,101,114]⟩⟩]),
 (467,[⟨⟨[100,97,116,97]⟩⟩,⟨⟨[97,116]⟩⟩,⟨⟨[101,110,100]⟩⟩]),
 (563,[⟨⟨[115,112,97,99,101,115]⟩⟩,⟨⟨[99,104,97,114,115]⟩⟩]),
 (858,[⟨⟨[110,97,109,101,115]⟩⟩,⟨⟨[99,117,116,116,105,110,103]⟩⟩,⟨⟨[117,110,105,99,111,100,101]⟩⟩,⟨⟨[114,111,119,115]⟩⟩,⟨⟨[100,101,102,97,117,108,116]⟩⟩,⟨⟨[117,110,105,116]⟩⟩,⟨⟨[115,116,97,110,100,97,114,100]⟩⟩])]
noncomputable def globB : List (Str × V):=[
 (⟨⟨[108,101,110]⟩⟩,.top (.builtin "len")),
 (⟨⟨[97,98,115]⟩⟩,.top (.builtin "abs")),
 (⟨⟨[99,104,114]⟩⟩,.top (.builtin "chr")),
 (⟨⟨[111,114,100]⟩⟩,.top (.builtin "ord")),
 (⟨⟨[97,108,108]⟩⟩,.top (.builtin "all")),
 (⟨⟨[105,115,105,110,115,116,97,110,99,101]⟩⟩,.top (.builtin "isinstance")),
 (⟨⟨[105,110,116]⟩⟩,.top (.type "int")),
 (⟨⟨[114,97,110,103,101]⟩⟩,.top (.type "range")),
 (⟨⟨[108,105,115,116]⟩⟩,.top (.type "list")),
 (⟨⟨[98,121,116,101,115]⟩⟩,.top (.type "bytes")),
 (⟨⟨[100,105,99,116]⟩⟩,.top (.type "dict")),
 (⟨⟨[98,111,111,108]⟩⟩,.top (.type "bool")),
 (⟨⟨[69,120,99,101,112,116,105,111,110]⟩⟩,.top (.type "Exception"))]
noncomputable def globL : List (Str × Nat × List Nat):=[
 (⟨⟨[76,79,87,95,78,65,77,69,83]⟩⟩,82,lx82),
 (⟨⟨[77,73,68,68,76,69,95,78,65,77,69,83]⟩⟩,83,lx83),
 (⟨⟨[76,65,84,73,78,95,78,65,77,69,83]⟩⟩,85,lx85),
 (⟨⟨[87,73,78,95,87,79,82,68,83]⟩⟩,87,lx87)]
noncomputable def lookL (x : Str) : List (Str × Nat × List Nat) -> Option V
 | []=>none
 | (y,_,l) :: r=>match seq x y with
  | true=>some (.str l)
  | false=>lookL x r
set_option backward.match.sparseCases false in
noncomputable def cx : Cx where
 glob:=λ x=>match look x globT with
  | some v=>some v
  | none=>match look x globB with
   | some v=>some v
   | none=>lookL x globL
 fn:=λ a=>(lookF a fnT).map λ e=>fnI e.st e.ds
 cls:=λ a=>lookA a clsT
 meth:=λ a x=>(lookA a methT).bind (look x)
 exc:=λ a=>lookA a excT
 sub:=λ a b=>match lookA a mroT,lookA b mroT with
  | some l,some _=>some (anyA b l)
  | _,_=>none
 obj:=λ a=>lookA a objT
 attr:=λ a x=>match lookA a fldT with
  | some l=>anyN x l
  | none=>false
 sets:=λ a x=>match lookA a clsT,lookA a fldT with
  | some _,some l=>anyN x l
  | _,_=>false
 xset:=λ a x=>match lookA a excT,lookA a fldT with
  | some _,some l=>anyN x l
  | _,_=>false
 xcls:=λ a=>(lookA a excT).isSome
 isi:=λ a=>(lookA a clsT).isSome
set_option backward.match.sparseCases false in
noncomputable def vrT (v x : Value) : Bool:=match v with
 | .ref a=>(match x with
  | .ref b=>Nat.beq a b
  | _=>false)
 | .builtin a=>(match x with
  | .builtin b=>a == b
  | _=>false)
 | .type a=>(match x with
  | .type b=>a == b
  | _=>false)
 | _=>false
theorem vrT_ok {v x : Value} (h : vrT v x = true) : v = x:=by
 cases v with
 | ref a=>cases x with
  | ref b=>exact congrArg _ (Nat.eq_of_beq_eq_true h)
  | _=>exact nft h
 | builtin a=>cases x with
  | builtin b=>exact congrArg _ (beq_iff_eq.mp (show (a == b) = true from h))
  | _=>exact nft h
 | type a=>cases x with
  | type b=>exact congrArg _ (beq_iff_eq.mp (show (a == b) = true from h))
  | _=>exact nft h
 | _=>exact nft h
set_option backward.match.sparseCases false in
noncomputable def vrB : V -> Value -> Bool
 | .none,x=>match x with
  | .none=>true
  | _=>false
 | .bool a,x=>match x with
  | .bool b=>a == b
  | _=>false
 | .int i,x=>match x with
  | .int j _=>i == j
  | _=>false
 | .str l,x=>match x with
  | .str s _=>leq l s.cps.toList
  | _=>false
 | .top v,x=>vrT v x
 | _,_=>false
theorem vrB_ok {R : List Addr} {v : V} {x : Value} (h : vrB v x = true) : VR R v x:=by
 cases v with
 | none=>cases x with
  | none=>exact .none
  | _=>exact nft h
 | bool a=>cases x with
  | bool b=>refine (beq_iff_eq.mp (show (a == b) = true from h)) ▸ ?_; exact .bool _
  | _=>exact nft h
 | int i=>cases x with
  | int j t=>refine (beq_iff_eq.mp (show (i == j) = true from h)) ▸ ?_; exact .int _ _
  | _=>exact nft h
 | str l=>cases x with
  | str s t=>refine (leq_iff.mp (show leq l s.cps.toList = true from h)) ▸ ?_; exact .str s.cps.toList t
  | _=>exact nft h
 | bytes l=>exact nft h
 | ref n=>exact nft h
 | top v=>exact vrT_ok h ▸ .top v
noncomputable def vrsB : List V -> List Value -> Bool
 | [],l=>match l with
  | []=>true
  | _=>false
 | v :: vs,l=>match l with
  | x :: xs=>vrB v x && vrsB vs xs
  | []=>false
theorem vrsB_ok {R : List Addr} : ∀ {vs : List V} {xs : List Value},vrsB vs xs = true -> VRs R vs xs:=by
 intro l_
 induction l_ with
 | nil=>
  intro z1_ h
  cases z1_ with
  | nil=>
   exact .nil
  | cons _ _=>
   exact nft h
 | cons v vs ih_=>
  intro z2_ h
  cases z2_ with
  | nil=>
   exact nft h
  | cons x xs=>
   have h:=Bool.and_eq_true_iff.mp (show (vrB v x && vrsB vs xs) = true from h)
   exact .cons (vrB_ok h.1) (ih_ h.2)
theorem look_mem {α : Type} {x : Str} {v : α} : ∀ {l : List (Str × α)},look x l = some v -> (x,v) ∈ l:=by
 intro l_
 induction l_ with
 | nil=>
  intro h
  exact nsm h
 | cons z1_ r ih_=>
  intro h
  cases z1_ with
  | mk y u=>
   dsimp only [look] at h
   cases q : seq x y with
   | true=>simp only [q] at h; obtain rfl:=Option.some.inj h; rw [seq_iff.mp q]; exact .head _
   | false=>simp only [q] at h; exact .tail _ (ih_ h)
theorem lookA_mem {α : Type} {a : Nat} {v : α} : ∀ {l : List (Nat × α)},lookA a l = some v -> (a,v) ∈ l:=by
 intro l_
 induction l_ with
 | nil=>
  intro h
  exact nsm h
 | cons z1_ r ih_=>
  intro h
  cases z1_ with
  | mk b u=>
   dsimp only [lookA] at h
   cases q : Nat.beq b a with
   | true=>simp only [q] at h; obtain rfl:=Option.some.inj h; refine (Nat.eq_of_beq_eq_true q) ▸ ?_; exact .head _
   | false=>simp only [q] at h; exact .tail _ (ih_ h)
theorem lookF_mem {a : Nat} {e : FE} : ∀ {l : List FE},lookF a l = some e -> e ∈ l ∧ e.f = a:=by
 intro l_
 induction l_ with
 | nil=>
  intro h
  exact nsm h
 | cons e' r ih_=>
  intro h
  dsimp only [lookF] at h
  cases q : Nat.beq e'.f a with
  | true=>rw [q] at h; obtain rfl:=Option.some.inj h; exact ⟨.head _,Nat.eq_of_beq_eq_true q⟩
  | false=>rw [q] at h; exact ⟨.tail _ (ih_ h).1,(ih_ h).2⟩
theorem anyN_mem {x : Str} : ∀ {l : List Str},anyN x l = true -> x ∈ l:=by
 intro l_
 induction l_ with
 | nil=>
  intro h
  exact nft h
 | cons y r ih_=>
  intro h
  dsimp only [anyN] at h
  cases q : seq x y with
  | true=>simp only [seq_iff.mp q]; exact .head _
  | false=>rw [q] at h; exact .tail _ (ih_ h)
set_option backward.match.sparseCases false in
noncomputable def globOk (K : Frag) (p : Str × V) : Bool:=(match nsIn K mainGlobals p.1 with
 | some (some v)=>vrB p.2 v
 | _=>false) && !(p.1 == ("__debug__" : Str))
set_option backward.match.sparseCases false in
noncomputable def bltOk (K : Frag) (p : Str × V) : Bool:=(match nsIn K mainGlobals p.1 with
 | some none=>(match bootBuiltins p.1 with
  | some v=>vrB p.2 v
  | none=>false)
 | _=>false) && (!(p.1 == ("__debug__" : Str)) && !(p.1 == ("__name__" : Str)))
theorem gl1 (P : Params) : globT.all (globOk (Kf P)) = true:=by kernel_rfl
theorem gl2 (P : Params) : globB.all (bltOk (Kf P)) = true:=by kernel_rfl
noncomputable def isDef : Stmt -> Bool
 | .FunctionDef _ _ _ _ _ _ sc _ _ _=>!sc.isCoroutine && (!sc.isGenerator && (match sc.kind with
  | .function=>true
  | _=>false))
 | _=>false
set_option backward.match.sparseCases false in
noncomputable def fdO (e : FE) : FuncData:=match fD e.st e.q 3 e.d e.m e.c with
 | .func fd=>fd
 | _=>default
noncomputable def argN (a : Nat -> Value) (n : Nat) : List Value:=(List.range n).map a
noncomputable def nP (e : FE) : Nat:=(fnI e.st e.ds).params.length
set_option backward.match.sparseCases false in
noncomputable def dlV (K : Frag) (e : FE) : List Value:=match e.d with
 | .ref T=>(match K.lookup T with
  | some o=>(match o.data with
   | .seq xs _=>xs.toList
   | _=>[])
  | none=>[])
 | _=>[]
noncomputable def okN (K : Frag) (e : FE) (n : Nat) : Bool:=Nat.ble n (nP e) && Nat.ble (nP e - n) (dlV K e).length
noncomputable def feOk (K : Frag) (e : FE) : Bool:=isDef e.st && (codeIn K e.c (Str.ofString e.q) && (vrsB e.ds (dlV K e) && Nat.ble (nP e) 8))
theorem fe1 (P : Params) : fnT.map (λ e=>(Kf P).lookup e.f) = fnT.map λ e=>some (xO (.type "function") none (fD e.st e.q 3 e.d e.m e.c) []):=by kernel_rfl
theorem fe2 (P : Params) : fnT.all (feOk (Kf P)) = true:=by kernel_rfl
theorem fe3 (P : Params) (S : Setting) (a : Nat -> Value) : fnT.map (λ e=>(List.range 9).map λ n=>match okN (Kf P) e n with
  | true=>peek (Kf P) S (bindArgs (fdO e) ⟨argN a n,[]⟩)
  | false=>none) = fnT.map λ e=>(List.range 9).map λ n=>match okN (Kf P) e n with
  | true=>some ((fnI e.st e.ds).params.zip (argN a n ++ (dlV (Kf P) e).drop ((dlV (Kf P) e).length - (nP e - n))))
  | false=>none:=by kernel_rfl
theorem argN_eq (xs : List Value) : argN (λ j=>xs.getD j .none) xs.length = xs:=by
 refine List.ext_getElem (by simp only [argN,List.length_map,List.length_range]) λ i h1 h2=>?_
 simp only [argN,List.getElem_map,List.getElem_range,List.getD_eq_getElem?_getD,List.getElem?_eq_getElem h2,Option.getD_some]
theorem fe_bind {P : Params} {e : FE} (he : e ∈ fnT) (h8 : nP e ≤ 8) {s : Shared} {xs : List Value} (X : (Kf P).In s.heap) (l1 : xs.length ≤ nP e) (l2 : nP e - xs.length ≤ (dlV (Kf P) e).length) :
  BindsTo s (fdO e) ⟨xs,[]⟩ ((fnI e.st e.ds).params.zip (xs ++ (dlV (Kf P) e).drop ((dlV (Kf P) e).length - (nP e - xs.length)))):=kp_binds X λ S=>by
 have h:=List.map_inj_left.mp (List.map_inj_left.mp (fe3 P S λ j=>xs.getD j .none) e he) xs.length (List.mem_range.mpr (Nat.lt_succ_of_le (Nat.le_trans l1 h8)))
 rw [show okN (Kf P) e xs.length = true from by unfold okN; simp only [Nat.ble_eq_true_of_le l1,Nat.ble_eq_true_of_le l2]; rfl,argN_eq] at h
 exact h
inductive DefA : Stmt -> Prop where
 | mk {n a b x1 x2 x3 sc x4 x5 x6} (h1 : sc.isCoroutine = false) (h2 : sc.isGenerator = false) (h3 : sc.kind = .function) : DefA (.FunctionDef n a b x1 x2 x3 sc x4 x5 x6)
theorem isDef_inv {st : Stmt} (h : isDef st = true) : DefA st:=by
 cases st with
 | FunctionDef n a b x1 x2 x3 sc x4 x5 x6=>
  obtain ⟨i6,i1⟩:=Bool.and_eq_true_iff.mp (show (!sc.isCoroutine && _) = true from h)
  obtain ⟨i7,i8⟩:=Bool.and_eq_true_iff.mp i1
  refine ⟨Bool.not_eq_true' _ ▸ i6,Bool.not_eq_true' _ ▸ i7,?_⟩
  revert i8
  cases sc.kind <;> intro i8 <;> first | rfl | exact nft i8
 | _=>exact nft h
theorem fn_ok {P : Params} {e : FE} (he : e ∈ fnT) : FnOk (Kf P) e.f (fnI e.st e.ds):=by
 have h1 : (Kf P).lookup e.f = some (xO (.type "function") none (fD e.st e.q 3 e.d e.m e.c) []):=List.map_inj_left.mp (fe1 P) e he
 obtain ⟨i1,h2⟩:=Bool.and_eq_true_iff.mp (show (isDef e.st && _) = true from List.all_eq_true.mp (fe2 P) e he)
 obtain ⟨i2,h2⟩:=Bool.and_eq_true_iff.mp h2
 obtain ⟨i3,i4⟩:=Bool.and_eq_true_iff.mp h2
 have hb:=λ s xs=>fe_bind (P:=P) he (Nat.le_of_ble_eq_true i4) (s:=s) (xs:=xs)
 clear he h2 i4
 obtain ⟨f,st,q,d,m,c,ds⟩:=e
 have i1 : DefA st:=isDef_inv i1
 cases i1 with
 | mk i6 i7 i8=>exact ⟨⟨.type "function",none,#[],_,h1,i2,rfl,rfl,rfl,rfl,rfl,_,vrsB_ok i3,hb⟩,i6,i7,i8⟩
set_option backward.match.sparseCases false in
noncomputable def rowsB : List (KV × V) -> List (String × Nat × Value) -> Bool
 | [],l=>match l with
  | []=>true
  | _=>false
 | p :: es,l=>match l with
  | r :: rs=>(match p.1 with
   | .str k=>leq k (Str.ofString r.1).cps.toList
   | _=>false) && (vrB p.2 r.2.2 && rowsB es rs)
  | []=>false
noncomputable def nodupK : List (List Nat) -> Bool
 | []=>true
 | x :: r=>!(r.any (leq x)) && nodupK r
noncomputable def strK : List (KV × V) -> List (List Nat)
 | []=>[]
 | p :: r=>match p.1 with
  | .str k=>k :: strK r
  | .int _=>strK r
noncomputable def isTp (p : Nat × MO) : Bool:=match p.2 with
 | .tup _=>true
 | _=>false
noncomputable def tpV (o : MO) : List V:=match o with
 | .tup vs=>vs
 | _=>[]
noncomputable def seqV (o : Option Obj) : List Value:=match o with
 | some o=>(match o.data with
  | .seq xs _=>xs.toList
  | _=>[])
 | none=>[]
set_option backward.match.sparseCases false in
noncomputable def objOk (K : Frag) (p : Nat × MO) : Bool:=!(p.1 == sysModules) && match p.2 with
 | .tup vs=>vrsB vs (seqV (K.lookup p.1))
 | .dict es=>rowsB es ocRows && nodupK (strK es)
 | _=>false
theorem ob1 (P : Params) : objT.all (objOk (Kf P)) = true:=by kernel_rfl
theorem ob3 (P : Params) : (objT.filter isTp).map (λ p=>(Kf P).lookup p.1) = (objT.filter isTp).map λ p=>some (tO (seqV ((Kf P).lookup p.1))):=by kernel_rfl
noncomputable def isDct (p : Nat × MO) : Bool:=match p.2 with
 | .dict _=>true
 | _=>false
theorem ob2 (P : Params) : (objT.filter isDct).map (λ p=>(Kf P).lookup p.1) = [some (dO (.type "dict") (mkEs P ocRows) 39)]:=by kernel_rfl
theorem rows_ok {prog : Program} {w : World} : ∀ {es : List (KV × V)} {rs : List (String × Nat × Value)},rowsB es rs = true -> ∃ kvs,Pairs (kvKind prog w) (mkEs w.params rs) kvs ∧ KR [] es kvs ∧ kvs.map (·.1) = es.map (·.1) ∧ ∀ e ∈ mkEs w.params rs,∃ k,(kvKind prog w).is k e.key = true ∧ e.hash = (kvKind prog w).hash k
 | [],[],_=>⟨[],.nil,.nil,rfl,λ e h=>nomatch h⟩
 | [],_ :: _,h=>by exact nft h
 | _ :: _,[],h=>by exact nft h
 | (k,v) :: es,(n,t,x) :: rs,h=>by
  unfold rowsB at h
  dsimp only at h
  simp only [Bool.and_eq_true,Bool.and_eq_true] at h
  obtain ⟨h1,h2,h3⟩:=h
  cases k with
  | int _=>exact nft h1
  | str k=>
   refine yG λ G_ k_=>?_
   obtain ⟨kvs,q1,q2,q3,q4⟩:=rows_ok h3
   refine k_ ?_
   have e : Str.ofString n = ⟨⟨k⟩⟩:=by
    have:=leq_iff.mp h1
    cases hs : Str.ofString n with
    | mk c=>rw [hs] at this; exact this ▸ rfl
   refine ⟨(.str k,x) :: kvs,?_,.cons (vrB_ok h2) q2,by simp only [List.map_cons,List.map_cons,q3],λ en hen=>?_⟩
   ·refine Pairs.cons (e:=e_ w.params n t x) ?_ rfl q1
    delta e_
    dsimp only; rw [e]; exact strKind_is prog w _ t
   ·rcases List.mem_cons.mp (show en ∈ e_ w.params n t x :: mkEs w.params rs from hen) with rfl | hen
    ·refine ⟨.str k,?_,?_⟩
     ·unfold e_; rw [e]; exact strKind_is prog w _ t
     ·unfold e_; rw [e]; rfl
    ·exact q4 en hen
theorem strK_mem {k : List Nat} : ∀ {es : List (KV × V)},KV.str k ∈ es.map (·.1) -> k ∈ strK es:=by
 intro l_
 induction l_ with
 | nil=>
  intro h
  cases h
 | cons z1_ r ih_=>
  intro h
  cases z1_ with
  | mk q v=>
   rw [List.map_cons,List.mem_cons] at h
   cases q with
   | int i=>exact ih_ (h.resolve_left λ e=>by cases e)
   | str l=>
    rcases h with h | h
    ·cases h; exact .head _
    ·exact .tail _ (ih_ h)
theorem nodupK_of {rs : List (String × Nat × Value)} {es : List (KV × V)} (hs : ∀ p ∈ es,∃ k,p.1 = .str k) (h : nodupK (strK es) = true) : (es.map (·.1)).Nodup:=by
 induction es with
 | nil=>exact List.nodup_nil
 | cons p r ih=>
  obtain ⟨q,v⟩:=p
  obtain ⟨k,hk⟩:=hs (q,v) (.head _)
  dsimp only at hk
  subst hk
  have h:=Bool.and_eq_true_iff.mp (show (!((strK r).any (leq k)) && nodupK (strK r)) = true from h)
  rw [List.map_cons,List.nodup_cons]
  refine ⟨λ hm=>?_,ih (λ p hp=>hs p (.tail _ hp)) h.2⟩
  have : (strK r).any (leq k) = true:=List.any_eq_true.mpr ⟨k,strK_mem hm,leq_iff.mpr rfl⟩
  replace h:=this ▸ h
  cases h.1
theorem rows_str : ∀ {es : List (KV × V)} {rs : List (String × Nat × Value)},rowsB es rs = true -> ∀ p ∈ es,∃ k,p.1 = .str k:=by
 intro l_
 induction l_ with
 | nil=>
  intro _ _ p hp
  cases hp
 | cons z1_ es ih_=>
  intro z2_ h p hp
  cases z2_ with
  | nil=>
   exact nft h
  | cons r rs=>
   cases z1_ with
   | mk k v=>
    unfold rowsB at h
    dsimp only at h
    simp only [Bool.and_eq_true,Bool.and_eq_true] at h
    cases hp with
    | head=>
     cases k with
     | str k=>exact ⟨k,rfl⟩
     | int _=>cases h.1
    | tail _ hp=>exact ih_ h.2.2 p hp
noncomputable def attrOk (K : Frag) (p : Nat × List Str) : Bool:=p.2.all λ x=>(plainGet K p.1 x || excGet K p.1) && (hasDictIn K p.1 && (match findIn K (.ref p.1) x with
 | some none=>true
 | _=>false))
set_option backward.match.sparseCases false in
noncomputable def isBlt (n : String) : Option (Option Value) -> Bool
 | some (some (.builtin m))=>m == n
 | _=>false
set_option backward.match.sparseCases false in
noncomputable def isRef (f : Nat) : Option (Option Value) -> Bool
 | some (some (.ref m))=>Nat.beq f m
 | _=>false
theorem isBlt_ok {n : String} {o : Option (Option Value)} (h : isBlt n o = true) : o = some (some (.builtin n)):=by
 unfold isBlt at h
 split at h
 ·exact (beq_iff_eq.mp h) ▸ rfl
 ·exact nft h
theorem isRef_ok {f : Nat} {o : Option (Option Value)} (h : isRef f o = true) : o = some (some (.ref f)):=by
 unfold isRef at h
 split at h
 ·exact (Nat.eq_of_beq_eq_true h) ▸ rfl
 ·exact nft h
set_option backward.match.sparseCases false in
noncomputable def isTy (n : String) : Option Value -> Bool
 | some (.type m)=>m == n
 | _=>false
theorem isTy_ok {n : String} {o : Option Value} (h : isTy n o = true) : o = some (.type n):=by
 unfold isTy at h
 split at h
 ·exact (beq_iff_eq.mp h) ▸ rfl
 ·exact nft h
noncomputable def clsOk (K : Frag) (p : Nat × Nat) : Bool:=isBlt "object.__setattr__" (findIn K (.ref p.1) "__setattr__") && (plainOver K p.1 && (makesIn K p.1 && (keepIn K (.ref p.1) && (isRef p.2 (findIn K (.ref p.1) "__init__") && isTy "function" (typeIn K (.ref p.2))))))
noncomputable def isiOk (K : Frag) (p : Nat × Nat) : Bool:=plainGet K p.1 "__class__" && (hasDictIn K p.1 && (isBlt "object.__class__" (findIn K (.ref p.1) "__class__") && (isBlt "getset_descriptor.__get__" (specialIn K (.builtin "object.__class__") "__get__") &&
 ((takesIn K (.builtin "object.__class__") == some true) && ((mroIn K p.1 (.type "object") == some true) && ((subIn K (.ref p.1) (.type "int") == some false) && ((subIn K (.ref p.1) (.type "bool") == some false) && ((subIn K (.ref p.1) (.type "list") == some false) && (subIn K (.ref p.1) (.type "dict") == some false)))))))))
noncomputable def excOkB (K : Frag) (p : Nat × Nat) : Bool:=isBlt "object.__setattr__" (findIn K (.ref p.1) "__setattr__") && (excOver K p.1 && (excIn K p.1 && (keepIn K (.ref p.1) && (isRef p.2 (findIn K (.ref p.1) "__init__") && isTy "function" (typeIn K (.ref p.2))))))
noncomputable def subOk (K : Frag) (p : Nat × List Nat) : Bool:=instOk K p.1 && mroT.all λ q=>subIn K (.ref p.1) (.ref q.1) == some (anyA q.1 p.2)
noncomputable def methOk (K : Frag) (p : Nat × List (Str × Nat)) : Bool:=p.2.all λ q=>plainGet K p.1 q.1 && (isRef q.2 (findIn K (.ref p.1) q.1) && (isFn K (.ref q.2) && keepIn K (.ref q.2)))
theorem ck1 (P : Params) : fldT.all (attrOk (Kf P)) = true:=by kernel_rfl
theorem ck2 (P : Params) : clsT.all (clsOk (Kf P)) = true:=by kernel_rfl
theorem ck3 (P : Params) : clsT.all (isiOk (Kf P)) = true:=by kernel_rfl
theorem ck4 (P : Params) : excT.all (excOkB (Kf P)) = true:=by kernel_rfl
theorem ck5 (P : Params) : mroT.all (subOk (Kf P)) = true:=by kernel_rfl
theorem ck6 (P : Params) : methT.all (methOk (Kf P)) = true:=by kernel_rfl
theorem long1 (P : Params) : nsIn (Kf P) mainGlobals ⟨⟨[76,79,87,95,78,65,77,69,83]⟩⟩ = some (some (.str (tS 82) 1137)):=by kernel_rfl
theorem long2 (P : Params) : nsIn (Kf P) mainGlobals ⟨⟨[77,73,68,68,76,69,95,78,65,77,69,83]⟩⟩ = some (some (.str (tS 83) 1139)):=by kernel_rfl
theorem long3 (P : Params) : nsIn (Kf P) mainGlobals ⟨⟨[76,65,84,73,78,95,78,65,77,69,83]⟩⟩ = some (some (.str (tS 85) 1143)):=by kernel_rfl
theorem long4 (P : Params) : nsIn (Kf P) mainGlobals ⟨⟨[87,73,78,95,87,79,82,68,83]⟩⟩ = some (some (.str (tS 87) 1147)):=by kernel_rfl
theorem long_ok {P : Params} {x : Str} {v : V} (h : lookL x globL = some v) : (x == ("__debug__" : Str)) = false ∧ ∃ val,nsIn (Kf P) mainGlobals x = some (some val) ∧ VR [] v val:=by
 unfold globL at h
 unfold lookL at h
 split at h
 ·rename_i q
  rw [seq_iff.mp q]
  cases h
  exact ⟨by kernel_rfl,_,long1 P,by rw [tx82]; exact .str lx82 _⟩
 ·unfold lookL at h
  split at h
  ·rename_i q
   rw [seq_iff.mp q]
   cases h
   exact ⟨by kernel_rfl,_,long2 P,by rw [tx83]; exact .str lx83 _⟩
  ·unfold lookL at h
   split at h
   ·rename_i q
    rw [seq_iff.mp q]
    cases h
    exact ⟨by kernel_rfl,_,long3 P,by rw [tx85]; exact .str lx85 _⟩
   ·unfold lookL at h
    split at h
    ·rename_i q
     rw [seq_iff.mp q]
     cases h
     exact ⟨by kernel_rfl,_,long4 P,by rw [tx87]; exact .str lx87 _⟩
    ·exact nsm h
theorem all_at {α : Type} {p : α -> Bool} {l : List α} (h : l.all p = true) {x : α} (hx : x ∈ l) : p x = true:=List.all_eq_true.mp h x hx
section
variable {w : World} {g₀ : Heap} {mg mb : Str -> Option Value}
set_option tactic.hygienic true in
theorem cx_glob (kin : (Kf w.params).In g₀) (ng : g₀.Ns mainGlobals mg) (hb : ∀ x : Str,x ≠ "__name__" -> mb x = bootBuiltins x) (x : Str) (v : V) (h : cx.glob x = some v) :
  (x == ("__debug__" : Str)) = false ∧ ∃ val,(mg x = some val ∨ (mg x = none ∧ mb x = some val)) ∧ VR [] v val:=by
 have h : (match look x globT with
  | some v=>some v
  | none=>match look x globB with
   | some v=>some v
   | none=>lookL x globL) = some v:=h
 split at h
 ·rename_i u hu
  refine yG λ G_ k_=>?_
  cases h
  have:=all_at (gl1 w.params) (look_mem hu)
  dsimp only [globOk] at this
  simp only [Bool.and_eq_true,Bool.not_eq_true'] at this
  obtain ⟨h1,h2⟩:=this
  refine k_ ?_
  refine ⟨h2,?_⟩
  refine yG λ G_ k_=>?_
  split at h1
  refine k_ ?_
  ·rename_i val hv
   exact ⟨val,.inl (mg_of kin ng hv),vrB_ok h1⟩
  ·exact nft h1
 ·split at h
  ·rename_i u hu
   refine yG λ G_ k_=>?_
   cases h
   have:=all_at (gl2 w.params) (look_mem hu)
   unfold bltOk at this
   rw [Bool.and_eq_true,Bool.and_eq_true,Bool.not_eq_true',Bool.not_eq_true'] at this
   obtain ⟨h1,h2,h3⟩:=this
   refine k_ ?_
   refine ⟨h2,?_⟩
   refine yG λ G_ k_=>?_
   split at h1
   refine k_ ?_
   ·rename_i hn
    split at h1
    ·rename_i val hv
     refine ⟨val,.inr ⟨mg_none_of kin ng hn,?_⟩,vrB_ok h1⟩
     rw [hb x λ e=>?_]
     ·exact hv
     ·dsimp only at h3; replace h3:=e ▸ h3; cases h3
    ·exact nft h1
   ·exact nft h1
  ·refine yG λ G_ k_=>?_
   obtain ⟨h1,val,h2,h3⟩:=long_ok (P:=w.params) h
   refine k_ ?_
   exact ⟨h1,val,.inl (mg_of kin ng h2),h3⟩
theorem cx_obj (kin : (Kf w.params).In g₀) (a : Addr) (o : MO) (h : lookA a objT = some o) : (a == sysModules) = false ∧ o.isGone = false ∧ ∃ b,g₀.get? a = some b ∧ OR pw w [] o b:=by
 have hm:=lookA_mem h
 obtain ⟨h1,hk⟩:=Bool.and_eq_true_iff.mp (show (!(a == sysModules) && _) = true from all_at (ob1 w.params) hm)
 have h1:=Bool.not_eq_true' _ ▸ h1
 cases o with
 | tup vs=>
  have hl:=List.map_inj_left.mp (ob3 w.params) (a,.tup vs) (List.mem_filter.mpr ⟨hm,rfl⟩)
  exact ⟨h1,rfl,_,kin _ _ hl,_,0,rfl,rfl,vrsB_ok hk⟩
 | dict es=>
  refine yG λ G_ k_=>?_
  obtain ⟨h2,h3⟩:=Bool.and_eq_true_iff.mp (show (rowsB es ocRows && nodupK (strK es)) = true from hk)
  have hl:=List.mem_map_of_mem (f:=λ p : Nat × MO=>(Kf w.params).lookup p.1) (List.mem_filter.mpr ⟨hm,(rfl : isDct (a,.dict es) = true)⟩)
  dsimp only [ob2] at hl
  obtain ⟨kvs,q1,q2,q3,q4⟩:=rows_ok (prog:=pw) (w:=w) h2
  refine k_ ?_
  refine ⟨h1,rfl,_,kin _ _ (List.mem_singleton.mp hl),kvs,⟨⟨mkEs w.params ocRows⟩,39,⟨rfl,rfl,rfl⟩,rfl,λ e he=>q4 e (Array.mem_toList_iff.mpr he),q1,?_⟩,q2⟩
  simp only [q3]
  exact nodupK_of (rs:=ocRows) (rows_str h2) h3
 | _=>exact nft hk
set_option tactic.hygienic true in
theorem fld_of {a : Nat} {x : Str} (h : (match lookA a fldT with | some l=>anyN x l | none=>false) = true) : ∃ l,(a,l) ∈ fldT ∧ x ∈ l:=by
 split at h
 ·rename_i l hl
  exact ⟨l,lookA_mem hl,anyN_mem h⟩
 ·exact nft h
theorem attr_facts {P : Params} {a : Nat} {l : List Str} {x : Str} (h : (a,l) ∈ fldT) (hx : x ∈ l) : (plainGet (Kf P) a x = true ∨ excGet (Kf P) a = true) ∧ hasDictIn (Kf P) a = true ∧ findIn (Kf P) (.ref a) x = some none:=by
 have:=all_at (ck1 P) h
 have:=all_at (show l.all _ = true from this) hx
 simp only [Bool.and_eq_true,Bool.or_eq_true,Bool.and_eq_true] at this
 obtain ⟨h1,h2,h3⟩:=this
 refine ⟨h1,h2,?_⟩
 refine yG λ G_ k_=>?_
 split at h3
 refine k_ ?_
 ·assumption
 ·exact nft h3
set_option backward.match.sparseCases false in
theorem cx_ok (kin : (Kf w.params).In g₀) (ng : g₀.Ns mainGlobals mg) (hb : ∀ x : Str,x ≠ "__name__" -> mb x = bootBuiltins x) : CxOk cx pw w (Kf w.params) g₀ mg mb where
 glob:=cx_glob kin ng hb
 obj:=cx_obj kin
 attr:=λ C name h=>by
  refine yG λ G_ k_=>?_
  obtain ⟨l,h1,h2⟩:=fld_of (show (match lookA C fldT with | some l=>anyN name l | none=>false) = true from h)
  refine k_ ?_
  exact attr_facts h1 h2
 sets:=λ C name h=>by
  have h : (match lookA C clsT,lookA C fldT with
   | some _,some l=>anyN name l
   | _,_=>false) = true:=h
  split at h
  ·rename_i h1 h2
   have q:=all_at (ck2 w.params) (lookA_mem h1)
   dsimp only [clsOk] at q
   simp only [Bool.and_eq_true] at q
   obtain ⟨a1,a2,a3⟩:=attr_facts (P:=w.params) (lookA_mem h2) (anyN_mem h)
   exact ⟨isBlt_ok q.1,q.2.1,a2,a3⟩
  ·exact nft h
 xset:=λ C name h=>by
  have h : (match lookA C excT,lookA C fldT with
   | some _,some l=>anyN name l
   | _,_=>false) = true:=h
  split at h
  ·rename_i h1 h2
   have q:=all_at (ck4 w.params) (lookA_mem h1)
   dsimp only [excOkB] at q
   simp only [Bool.and_eq_true] at q
   obtain ⟨a1,a2,a3⟩:=attr_facts (P:=w.params) (lookA_mem h2) (anyN_mem h)
   exact ⟨isBlt_ok q.1,q.2.1,a2,a3⟩
  ·exact nft h
 xcls:=λ C h=>by
  obtain ⟨f,hf⟩:=Option.isSome_iff_exists.mp (show (lookA C excT).isSome = true from h)
  have q:=all_at (ck4 w.params) (lookA_mem hf)
  dsimp only [excOkB] at q
  simp only [Bool.and_eq_true] at q
  exact q.2.2.1
 isi:=λ C h=>by
  obtain ⟨f,hf⟩:=Option.isSome_iff_exists.mp (show (lookA C clsT).isSome = true from h)
  have q:=all_at (ck3 w.params) (lookA_mem hf)
  dsimp only [isiOk] at q
  simp only [Bool.and_eq_true,beq_iff_eq] at q
  exact ⟨q.1,q.2.1,isBlt_ok q.2.2.1,isBlt_ok q.2.2.2.1,q.2.2.2.2.1,q.2.2.2.2.2.1,q.2.2.2.2.2.2.1,q.2.2.2.2.2.2.2.1,q.2.2.2.2.2.2.2.2.1,q.2.2.2.2.2.2.2.2.2⟩
 sub:=λ C D b h=>by
  have h : (match lookA C mroT,lookA D mroT with
   | some l,some _=>some (anyA D l)
   | _,_=>none) = some b:=h
  split at h
  ·rename_i h1 h2
   cases h
   have q:=all_at (ck5 w.params) (lookA_mem h1)
   have q2:=all_at (ck5 w.params) (lookA_mem h2)
   dsimp only [subOk] at q q2
   simp only [Bool.and_eq_true] at q q2
   have:=all_at q.2 (lookA_mem h2)
   exact ⟨beq_iff_eq.mp this,q2.1⟩
  ·exact nsm h
 cls:=λ C f h=>by
  have q:=all_at (ck2 w.params) (lookA_mem (show lookA C clsT = some f from h))
  dsimp only [clsOk] at q
  simp only [Bool.and_eq_true] at q
  exact ⟨q.2.2.1,q.2.2.2.1,isRef_ok q.2.2.2.2.1,isTy_ok q.2.2.2.2.2⟩
 exc:=λ C f h=>by
  have q:=all_at (ck4 w.params) (lookA_mem (show lookA C excT = some f from h))
  dsimp only [excOkB] at q
  simp only [Bool.and_eq_true] at q
  exact ⟨q.2.2.1,q.2.2.2.1,isRef_ok q.2.2.2.2.1,isTy_ok q.2.2.2.2.2⟩
 meth:=λ C name f h=>by
  refine yG λ G_ k_=>?_
  obtain ⟨l,h1,h2⟩:=Option.bind_eq_some_iff.mp (show (lookA C methT).bind (look name) = some f from h)
  refine k_ ?_
  have q:=all_at (ck6 w.params) (lookA_mem h1)
  have q:=all_at (show l.all _ = true from q) (look_mem h2)
  simp only [Bool.and_eq_true] at q
  exact ⟨q.1,isRef_ok q.2.1,q.2.2.1,q.2.2.2⟩
 fn:=λ f fi h=>by
  obtain ⟨e,he,rfl⟩:=Option.map_eq_some_iff.mp (show (lookF f fnT).map (λ e=>fnI e.st e.ds) = some fi from h)
  obtain ⟨h1,rfl⟩:=lookF_mem he
  exact fn_ok h1
end
noncomputable def fiA (a : Addr) : FnI:=match cx.fn a with
 | some fi=>fi
 | none=>⟨Str.empty,[],[],pw.main.scope,[]⟩
noncomputable def tab (l : List (Addr × Spec)) : Addr -> Option Spec:=λ a=>lookA a l
section
variable {w : World} {mg mb : Str -> Option Value}
abbrev HypT (w : World) (mg mb : Str -> Option Value) (l : List (Addr × Spec)) : Prop:=Hyp cx pw w (Kf w.params) mg mb (tab l)
theorem hyp_nil : HypT w mg mb []:=λ _ _ _ a S h=>by cases h
theorem hyp_cons {l : List (Addr × Spec)} {a : Addr} {S : Spec} (h : HypT w mg mb l) (k : ∀ g₁,Base (Kf w.params) mg mb g₁ -> CxOk cx pw w (Kf w.params) g₁ mg mb -> SpecOn pw w g₁ a S) : HypT w mg mb ((a,S) :: l):=λ g₁ B C b T e=>by
 have e : (match Nat.beq a b with
  | true=>some S
  | false=>lookA b l) = some T:=e
 split at e
 ·rename_i q
  obtain rfl:=Option.some.inj e
  refine (Nat.eq_of_beq_eq_true q) ▸ ?_
  exact k g₁ B C
 ·exact h g₁ B C b T e
end
noncomputable def gc (l : List (Addr × Spec)) (f : Addr) (need n : Nat) : Spec:=orc (need + 1) λ as Hs=>some λ K X=>runF (RO (tab l) cx n) (fiA f) need as Hs K X
theorem gc_on {w : World} {mg mb : Str -> Option Value} {l : List (Addr × Spec)} {f : Addr} {need n : Nat} (h : HypT w mg mb l) (hf : cx.fn f = some (fiA f)) {g₁ : Heap} (B : Base (Kf w.params) mg mb g₁) (C : CxOk cx pw w (Kf w.params) g₁ mg mb) : SpecOn pw w g₁ f (gc l f need n):=
 orc_on h hf (λ as Hs P e k x hp=>by obtain rfl:=Option.some.inj e; exact ⟨Hs,n,Ch.refl Hs,hp⟩) B C
noncomputable def bd (a : Addr) (k : Nat) : List Stmt:=(fiA a).body.drop k
set_option backward.match.sparseCases false in
noncomputable def ifB : List Stmt -> List Stmt
 | .If _ b _ _ :: _=>b
 | _=>[]
noncomputable def endF (K : V -> Hp -> Prop) : Fl -> Nm -> Hp -> Prop:=λ fl _ H'=>match fl with
 | .ret v=>K v H'
 | .next=>K .none H'
 | _=>False
@[irreducible] noncomputable def ssO (l : List (Addr × Spec)) (n : Nat) (f : Addr) (d : Nat) (b : List Stmt) (φ : Nm) (H : Hp) (K : Fl -> Nm -> Hp -> Prop) (X : Nat -> Hp -> Prop) : Prop:=
 runSs (λ φ st H K=>(RO (tab l) cx n).s ⟨(fiA f).scope,d,none⟩ φ st H K λ n _ H=>X n H) b φ H K
@[irreducible] noncomputable def thenO (l : List (Addr × Spec)) (n : Nat) (f : Addr) (d : Nat) (b : List Stmt) (X : Nat -> Hp -> Prop) (K : Fl -> Nm -> Hp -> Prop) : Fl -> Nm -> Hp -> Prop:=λ fl φ H=>match fl with
 | .next=>ssO l n f d b φ H K X
 | .ret v=>K (.ret v) φ H
 | .brk=>K .brk φ H
 | .cont=>K .cont φ H
noncomputable def potH (st i : Int) (cs : List V) : Hp:=[.list [.ref 1,.int st,.int i],.list cs]
noncomputable def drawB (K : V -> Hp -> Prop) (i st lim : Int) (cs : List V) : Prop:=
 optK False (intM .Mult i i) λ p=>optK False (intM .Mod (Int.fdiv (Int.fmod (st * 16807 + p + 7) 2147483647) 5) lim) λ r=>K (.int r) (potH (Int.fmod (st * 16807 + p + 7) 2147483647) (i + 1) cs)
noncomputable def drawφ (i lim sp : Int) (h : V) : Nm:=[(nm "pot",.loc (.ref 0)),(nm "limit",.loc (.int lim)),(nm "place",.loc (.int i)),(nm "spot",.loc (.int sp)),(nm "here",.loc h)]
noncomputable def drawR (n : Nat) (K : V -> Hp -> Prop) (X : Nat -> Hp -> Prop) (i st lim : Int) (cs : List V) (sp : Int) (h : V) : Prop:=
 ssO [] (n + 59) 896 3 ((ifB (bd 896 2)).drop 2) (drawφ i lim sp h) (potH st (i + 1) cs) (thenO [] (n + 60) 896 3 (bd 896 3) X (endF K)) X
theorem draw1 (n : Nat) (K : V -> Hp -> Prop) (X : Nat -> Hp -> Prop) (i st lim : Int) (cs : List V) : runF (RO (tab []) cx (n + 60)) (fiA 896) 3 [.ref 0,.int lim] (potH st i cs) K X =
  optK False (truthM (potH st (i + 1) cs) (.ref 1)) λ b=>match b with
   | true=>optK False (lenM cx (.ref 1) (potH st (i + 1) cs)) λ L=>match Nat.ble L 1000000 with
    | true=>optK False (intM .Mod i L) λ sp=>optK False (getM cx (.ref 1) (.int sp) (potH st (i + 1) cs)) λ h=>drawR n K X i st lim cs sp h
    | false=>False
   | false=>drawB K i st lim cs:=by kernel_rfl
theorem draw2 (n : Nat) (K : V -> Hp -> Prop) (X : Nat -> Hp -> Prop) (i st lim : Int) (cs : List V) (sp : Int) (x : Nat) : drawR n K X i st lim cs sp (.int (.ofNat x)) =
  match decide ((Int.ofNat x) > 0) with
  | true=>optK False (intM .FloorDiv (.ofNat x) lim) λ q=>optK False (idxN cs.length sp) λ j=>optK False (intM .Mod (.ofNat x) lim) λ r=>K (.int r) (potH st (i + 1) (cs.set j (.int q)))
  | false=>drawB K i st lim cs:=by kernel_rfl
noncomputable def allN : Nat -> (Nat -> Prop) -> Prop
 | 0,_=>True
 | n + 1,P=>P n ∧ allN n P
noncomputable def fewN (n : Nat) : Bool:=Nat.ble n 9 && !(Nat.beq n 8)
noncomputable def drawP (n : Nat) (P : Nat -> Prop) : Prop:=match fewN n with
 | true=>allN n P
 | false=>∀ r : Nat,r < n -> P r
theorem allN_at {P : Nat -> Prop} : ∀ {n : Nat},allN n P -> ∀ r : Nat,r < n -> P r:=by
 intro l_
 induction l_ with
 | zero=>
  intro _ r h
  exact absurd h (Nat.not_lt_zero r)
 | succ n ih_=>
  intro h r hr
  exact (Nat.lt_succ_iff_lt_or_eq.mp hr).elim (ih_ h.2 r) λ e=>e ▸ h.1
theorem drawP_at {n : Nat} {P : Nat -> Prop} (h : drawP n P) : ∀ r : Nat,r < n -> P r:=by
 unfold drawP at h
 split at h
 ·exact allN_at h
 ·exact h
noncomputable def drawF : List V -> Hp -> Option PT:=λ as Hs=>yC as λ a as=>yRef a 0 <| yC as λ a as=>yNat a λ lim=>yE as <| yC Hs λ h Hs=>oPot h 1 λ k=>yC Hs λ h Hs=>oGc h <| yE Hs <| yB (Nat.blt 0 lim && Nat.ble lim 1000) <|
 some λ K _=>k ≤ 1000000 ∧ drawP lim λ r=>K (.int (.ofNat r)) [.gpot 1 (k + 1),.gcel]
theorem fmod_nat (a b : Nat) : Int.fmod (.ofNat a) (.ofNat b) = .ofNat (a % b):=by
 refine (Int.fmod_eq_emod_of_nonneg _ (by simp)).trans ?_; rfl
theorem fdiv_nat (a b : Nat) : Int.fdiv (.ofNat a) (.ofNat b) = .ofNat (a / b):=by
 refine (Int.fdiv_eq_ediv_of_nonneg _ (by simp)).trans ?_; rfl
theorem intM_mod {a : Int} {b : Nat} (h : 0 < b) : intM .Mod a (.ofNat b) = some (Int.fmod a (.ofNat b)):=by
 unfold intM
 have : decide ((0 : Int) < .ofNat b) = true:=decide_eq_true (by simpa using h)
 dsimp only
 refine this ▸ ?_
 rfl
theorem intM_div {a : Int} {b : Nat} (h : 0 < b) (h2 : b ≤ 1000000000) : intM .FloorDiv a (.ofNat b) = some (Int.fdiv a (.ofNat b)):=by
 unfold intM
 have : decide ((0 : Int) < .ofNat b) = true:=decide_eq_true (by simpa using h)
 dsimp only
 rw [this,show Nat.ble (Int.natAbs (.ofNat b)) 1000000000 = true from Nat.ble_eq_true_of_le h2]
 rfl
theorem intM_mul {a : Int} {b : Nat} (h : b ≤ 9223372036854775807) : intM .Mult a (.ofNat b) = some (a * .ofNat b):=by
 unfold intM
 dsimp only
 refine (show Nat.ble (Int.natAbs (.ofNat b)) 9223372036854775807 = true from Nat.ble_eq_true_of_le h) ▸ ?_
 rfl
theorem optK_val {α : Type} {a : α} {k : α -> Prop} : optK False (some a) k = k a:=rfl
theorem drawB_ok {K : V -> Hp -> Prop} {i k lim : Nat} {st : Int} {is : List Nat} (hi : i ≤ k) (hk : k ≤ 1000000) (hl : 0 < lim) (his : is.length ≤ 40) (h : ∀ r : Nat,r < lim -> K (.int (.ofNat r)) [.gpot 1 (k + 1),.gcel]) :
  drawB (λ v H2=>∃ H2',Gh H2' H2 ∧ K v H2') (.ofNat i) st (.ofNat lim) (is.map λ i=>.int (.ofNat i)):=by
 dsimp only [drawB]
 rw [intM_mul (by lia)]
 show optK False (intM _ _ _) _
 rw [intM_mod hl]
 show ∃ H2',_
 have hpos : (0 : Int) < .ofNat lim:=by simpa using hl
 have h1:=Int.fmod_nonneg_of_pos (Int.fdiv (Int.fmod (st * 16807 + .ofNat i * .ofNat i + 7) 2147483647) 5) hpos
 have h2:=Int.fmod_lt_of_pos (Int.fdiv (Int.fmod (st * 16807 + .ofNat i * .ofNat i + 7) 2147483647) 5) hpos
 obtain ⟨r,hr⟩:=Int.eq_ofNat_of_zero_le h1
 rw [hr] at h2 ⊢
 refine ⟨_,.cons (.pot _ (i:=i + 1) (by lia)) (.cons (.cel is his) .nil),h r (by simpa using h2)⟩
theorem draw_ok {K : V -> Hp -> Prop} {X : Nat -> Hp -> Prop} {i k lim : Nat} {st : Int} {is : List Nat} (hi : i ≤ k) (hk : k ≤ 1000000) (hl : 0 < lim) (hl2 : lim ≤ 1000) (his : is.length ≤ 40) (h : ∀ r : Nat,r < lim -> K (.int (.ofNat r)) [.gpot 1 (k + 1),.gcel]) :
  runF (RO (tab []) cx 60) (fiA 896) 3 [.ref 0,.int (.ofNat lim)] (potH st (.ofNat i) (is.map λ i=>.int (.ofNat i))) (λ v H2=>∃ H2',Gh H2' H2 ∧ K v H2') X:=by
 rw [draw1 0]
 have hcl : (is.map λ i=>V.int (.ofNat i)).length = is.length:=List.length_map ..
 have ht : truthM (potH st (.ofNat i + 1) (is.map λ i=>.int (.ofNat i))) (.ref 1) = some (!(is.map λ i=>V.int (.ofNat i)).isEmpty):=by
  show (match Nat.ble (is.map λ i=>V.int (.ofNat i)).length 1000000 with | true=>some (!(is.map λ i=>V.int (.ofNat i)).isEmpty) | false=>none) = _
  refine hcl ▸ ?_
  rw [Nat.ble_eq_true_of_le (by lia)]
 simp only [ht]
 cases is with
 | nil=>exact drawB_ok (is:=[]) hi hk hl his h
 | cons x is=>
  rw [optK_val,show (!(List.map (λ i=>V.int (Int.ofNat i)) (x :: is)).isEmpty) = true from rfl]
  dsimp only
  have hL : lenM cx (.ref 1) (potH st (.ofNat i + 1) ((x :: is).map λ i=>.int (.ofNat i))) = some (x :: is).length:=by
   refine hcl ▸ ?_; rfl
  simp only [hL,optK_val,Nat.ble_eq_true_of_le (show (x :: is).length ≤ 1000000 by lia)]
  simp only [<- Int.ofNat_eq_natCast]
  have pos : 0 < (x :: is).length:=by simp
  have hlt:=Nat.mod_lt i pos
  simp only [intM_mod pos,fmod_nat,optK_val]
  have hid : idxN (x :: is).length (.ofNat (i % (x :: is).length)) = some (i % (x :: is).length):=by
   unfold idxN
   dsimp only
   refine (show Nat.blt (i % (x :: is).length) (x :: is).length = true from Nat.ble_eq_true_of_le hlt) ▸ ?_
   rw [Nat.ble_eq_true_of_le (by omega)]
   rfl
  have hidS : idxS (x :: is).length (.ofNat (i % (x :: is).length)) = some (i % (x :: is).length):=by
   unfold idxS
   dsimp only
   refine (show Nat.blt (i % (x :: is).length) (x :: is).length = true from Nat.ble_eq_true_of_le hlt) ▸ ?_
   rw [Nat.ble_eq_true_of_le (by omega)]
   rfl
  have hg : getM cx (.ref 1) (.int (.ofNat (i % (x :: is).length))) (potH st (.ofNat i + 1) ((x :: is).map λ i=>.int (.ofNat i))) = some (.int (.ofNat (x :: is)[i % (x :: is).length])):=by
   have : getM cx (.ref 1) (.int (.ofNat (i % (x :: is).length))) (potH st (.ofNat i + 1) ((x :: is).map λ i=>.int (.ofNat i))) = (idxN ((x :: is).map λ i=>V.int (.ofNat i)).length (.ofNat (i % (x :: is).length))).bind (((x :: is).map λ i=>V.int (.ofNat i))[·]?):=rfl
   simp only [this,hcl,hid]
   show ((x :: is).map λ i=>V.int (.ofNat i))[i % (x :: is).length]? = _
   simp only [List.getElem?_map,List.getElem?_eq_getElem hlt]
   rfl
  simp only [hg,optK_val,draw2]
  split
  ·simp only [intM_div hl (by lia),hcl,hid,intM_mod hl,fdiv_nat,fmod_nat]
   refine ⟨_,.cons (.pot _ (i:=i + 1) (by lia)) (.cons (o':=.list _) ?_ .nil),h _ (Nat.mod_lt _ hl)⟩
   have:=Gh1.cel ((x :: is).set (i % (x :: is).length) ((x :: is)[i % (x :: is).length] / lim)) (by rw [List.length_set]; exact his)
   rw [List.map_set] at this
   exact this
  ·exact drawB_ok hi hk hl his h
section
variable {w : World} {mg mb : Str -> Option Value}
theorem draw_on {g₁ : Heap} (B : Base (Kf w.params) mg mb g₁) (C : CxOk cx pw w (Kf w.params) g₁ mg mb) : SpecOn pw w g₁ 896 (orc 4 drawF):=by
 refine orcG_on hyp_nil (show cx.fn 896 = some (fiA 896) by kernel_rfl) (λ as Hs=>Sp.of ?_) B C
 delta drawF; apply yC.sp; intro a as; apply yRef.sp; apply yC.sp; intro a as; apply yNat.sp; intro lim; apply yE.sp; apply yC.sp; intro h Hs; apply oPot.sp; intro kk; apply yC.sp; intro h Hs; apply oGc.sp; apply yE.sp; apply yB.sp; intro hb
 refine Sp.so λ k x hp Hr hg=>?_
 simp only [Bool.and_eq_true] at hb
 refine ⟨60,?_⟩
 apply hg.c; intro _ _ g1 t; apply t.c; intro _ _ g2 t; apply t.e; apply g1.p; intro st i hi; apply g2.g; intro is his
 exact draw_ok hi hp.1 (Nat.le_of_ble_eq_true hb.1) (Nat.le_of_ble_eq_true hb.2) his (drawP_at hp.2)
end
noncomputable def absI (i : Int) : Int:=if i < 0 then -i else i
noncomputable def potS (f : Nat -> Int) (m : Nat) : Int:=(List.range m).foldl (λ s j=>Int.fmod (s * 48271 + Int.fmod (f j) 2147483647 + 12345) 2147483647) 1
noncomputable def potO (f : Nat -> Int) (b : Obj) (m : Nat) : Hp:=
 [.slist ((List.range m).map λ j=>.int (f j)) b,.list ((List.range (min m 40)).map λ j=>.int (f j)),.gone,.list ((List.range (min m 40)).map λ j=>.int (f j)),.gone,.gone,
  .list ((List.range (min m 40)).map λ j=>.int (Int.fmod (absI (f j)) (.ofNat (10 ^ 400)))),.list [.ref 6,.int (potS f (min m 40)),.int 0]]
section
variable (K : V -> Hp -> Prop) (X : Nat -> Hp -> Prop) (f : Nat -> Int) (b : Obj)
noncomputable def potP (m : Nat) : Prop:=runF (RO (tab []) cx 200) (fiA 889) 3 [.ref 0] [.slist ((List.range m).map λ j=>.int (f j)) b] K X
theorem pot10 : (List.range' 0 20).map (potP K X f b) = (List.range' 0 20).map λ m=>K (.ref 7) (potO f b m):=by kernel_rfl
theorem pot11 : (List.range' 20 12).map (potP K X f b) = (List.range' 20 12).map λ m=>K (.ref 7) (potO f b m):=by kernel_rfl
theorem pot12 : (List.range' 32 12).map (potP K X f b) = (List.range' 32 12).map λ m=>K (.ref 7) (potO f b m):=by kernel_rfl
theorem pot13 : (List.range' 44 10).map (potP K X f b) = (List.range' 44 10).map λ m=>K (.ref 7) (potO f b m):=by kernel_rfl
theorem pot14 : (List.range' 54 10).map (potP K X f b) = (List.range' 54 10).map λ m=>K (.ref 7) (potO f b m):=by kernel_rfl
theorem pot1 {m : Nat} (h : m < 64) : potP K X f b m = K (.ref 7) (potO f b m):=by
 by_cases h0 : m < 20
 ·exact List.map_inj_left.mp (pot10 K X f b) m (List.mem_range'_1.mpr ⟨by omega,by omega⟩)
 by_cases h1 : m < 32
 ·exact List.map_inj_left.mp (pot11 K X f b) m (List.mem_range'_1.mpr ⟨by omega,by omega⟩)
 by_cases h2 : m < 44
 ·exact List.map_inj_left.mp (pot12 K X f b) m (List.mem_range'_1.mpr ⟨by omega,by omega⟩)
 by_cases h3 : m < 54
 ·exact List.map_inj_left.mp (pot13 K X f b) m (List.mem_range'_1.mpr ⟨by omega,by omega⟩)
 exact List.map_inj_left.mp (pot14 K X f b) m (List.mem_range'_1.mpr ⟨by omega,by omega⟩)
end
theorem range_getD {α : Type} (d : α) : ∀ l : List α,(List.range l.length).map (λ j=>l.getD j d) = l:=by
 intro l_
 induction l_ with
 | nil=>
  exact rfl
 | cons a l ih_=>
  simp only [List.length_cons,List.range_succ_eq_map,List.map_cons,List.map_map]
  have:=ih_
  show a :: (List.range l.length).map (λ j=>l.getD j d) = _
  rw [this]
noncomputable def potL (zs : List Int) : List V:=(List.range (min zs.length 40)).map λ j=>.int (zs.getD j 0)
noncomputable def potF : List V -> Hp -> Option PT:=λ as Hs=>yC as λ a as=>yRef a 0 <| yE as <| yC Hs λ h Hs=>oRf h λ q=>rSl q λ zs b=>yE Hs <| some λ K _=>zs.length ≤ 63 ∧ K (.ref 7) [.rf (.sl zs b),.list (potL zs),.gone,.list (potL zs),.gone,.gone,.gcel,.gpot 6 0]
theorem absI_nonneg (i : Int) : 0 ≤ absI i:=by unfold absI; split <;> lia
theorem pot_ok {K : V -> Hp -> Prop} {X : Nat -> Hp -> Prop} {zs : List Int} {b : Obj} (hl : zs.length ≤ 63) (h : K (.ref 7) [.rf (.sl zs b),.list (potL zs),.gone,.list (potL zs),.gone,.gone,.gcel,.gpot 6 0]) :
  runF (RO (tab []) cx 200) (fiA 889) 3 [.ref 0] [.slist (zs.map .int) b] (λ v H2=>∃ H2',Gh H2' H2 ∧ K v H2') X:=by
 have e:=pot1 (λ v H2=>∃ H2',Gh H2' H2 ∧ K v H2') X (λ j=>zs.getD j 0) b (m:=zs.length) (by omega)
 unfold potP at e
 have hz : (List.range zs.length).map (λ j=>V.int (zs.getD j 0)) = zs.map .int:=by
  conv=>rhs; rw [<- range_getD 0 zs]
  simp only [List.map_map]; rfl
 rw [hz] at e
 simp only [e]
 refine ⟨_,?_,h⟩
 have hn : ∀ j : Nat,∃ x : Nat,Int.fmod (absI (zs.getD j 0)) (.ofNat (10 ^ 400)) = .ofNat x:=λ j=>
  Int.eq_ofNat_of_zero_le (Int.fmod_nonneg_of_pos _ (Int.ofNat_lt.mpr (Nat.pow_pos (by decide : 0 < 10))))
 obtain ⟨g,hg⟩:=Classical.axiomOfChoice hn
 dsimp only [potO]
 refine .cons (by refine hz ▸ ?_; exact .rf (.sl zs b)) (.cons (.self rfl) (.cons (.self rfl) (.cons (.self rfl) (.cons (.self rfl) (.cons (.self rfl) (.cons ?_ (.cons ?_ .nil)))))))
 ·have:=Gh1.cel ((List.range (min zs.length 40)).map g) (by simp only [List.length_map,List.length_range]; omega)
  rw [List.map_map] at this
  have e2 : (List.range (min zs.length 40)).map (λ j=>V.int (Int.fmod (absI (zs.getD j 0)) (.ofNat (10 ^ 400)))) = (List.range (min zs.length 40)).map ((λ i=>V.int (.ofNat i)) ∘ g):=
   List.map_congr_left λ j _=>by rw [hg]; rfl
  rw [e2]
  exact this
 ·exact .pot _ (i:=0) (Nat.le_refl _)
section
variable {w : World} {mg mb : Str -> Option Value}
theorem pot_on {g₁ : Heap} (B : Base (Kf w.params) mg mb g₁) (C : CxOk cx pw w (Kf w.params) g₁ mg mb) : SpecOn pw w g₁ 889 (orc 4 potF):=by
 refine orcG_on hyp_nil (show cx.fn 889 = some (fiA 889) by kernel_rfl) (λ as Hs=>Sp.of ?_) B C
 delta potF; apply yC.sp; intro a as; apply yRef.sp; apply yE.sp; apply yC.sp; intro h Hs; apply oRf.sp; intro q; apply rSl.sp; intro zs b; apply yE.sp
 refine Sp.so λ k x hp Hr hg=>⟨200,?_⟩
 apply hg.c; intro _ _ g1 t; apply t.e; apply g1.r
 exact pot_ok hp.1 hp.2
end
noncomputable def cH (D : List Nat) (p : Nat) : Hp:=[.inst 467 1,.flds (csrF D p)]
theorem getB {D : List Nat} {p c : Nat} {H : Hp} (h : D[p]? = some c) (hl : D.length ≤ 1000000) : getM cx (.bytes D) (.int p) H = some (.int c):=by
 have lt:=(List.getElem?_eq_some_iff.mp h).1
 have e : idxS D.length (.ofNat p) = some p:=by
  unfold idxS
  dsimp only
  refine (show Nat.blt p D.length = true from Nat.ble_eq_true_of_le lt) ▸ ?_
  rw [Nat.ble_eq_true_of_le (by lia)]
  rfl
 show Option.map (λ n : Nat=>V.int n) ((idxS D.length (Int.ofNat p)).bind λ j=>D[j]?) = _
 rw [e]
 show Option.map _ (D[p]?) = _
 rw [h]
 rfl
noncomputable def hdI : List It -> Option Nat
 | []=>none
 | .b c :: _=>some c
 | .hex _ :: _=>some 60
 | .hx l :: _=>match l with
  | []=>some 62
  | c :: _=>some (digH (c / 16))
noncomputable def isNilI : List It -> Bool
 | []=>true
 | _=>false
theorem hd_at {D : List Nat} {p : Nat} {its : List It} (h : D.drop p = flatI its) : D[p]? = hdI its:=by
 have : D[p]? = (D.drop p)[0]?:=by simp only [List.getElem?_drop]; rfl
 refine this.trans ?_
 refine h ▸ ?_
 cases its with
 | nil=>rfl
 | cons a r=>
  cases a with
  | hx l=>cases l <;> rfl
  | _=>rfl
theorem nil_at {D : List Nat} {p : Nat} {its : List It} (h : D.drop p = flatI its) (hp : p ≤ D.length) : isNilI its = decide ((p : Int) ≥ (D.length : Int)):=by
 have hd:=hd_at h
 cases its with
 | nil=>
  have:=List.getElem?_eq_none_iff.mp hd
  exact (decide_eq_true (by lia)).symm
 | cons a r=>
  have : p < D.length:=by
   cases a with
   | b c=>exact (List.getElem?_eq_some_iff.mp (show D[p]? = some c from hd)).1
   | hex l=>exact (List.getElem?_eq_some_iff.mp (show D[p]? = some 60 from hd)).1
   | hx l=>
    cases l with
    | nil=>exact (List.getElem?_eq_some_iff.mp (show D[p]? = some 62 from hd)).1
    | cons c l=>exact (List.getElem?_eq_some_iff.mp (show D[p]? = some (digH (c / 16)) from hd)).1
  exact (decide_eq_false (by lia)).symm
theorem drop_b {D : List Nat} {p c : Nat} {its : List It} (h : D.drop p = flatI (.b c :: its)) : D.drop (p + 1) = flatI its:=by
 refine List.drop_drop ▸ ?_
 refine h ▸ ?_; rfl
noncomputable def csrS (G : Nat -> List It -> Option PT) : List V -> Hp -> Option PT:=λ as Hs=>yC as λ a as=>yRef a 0 <| yE as <| yC Hs λ h Hs=>oInst h 467 1 <| yC Hs λ h Hs=>oCfl h λ p its=>yE Hs <| G p its
section
variable {w : World} {mg mb : Str -> Option Value}
theorem csr_on {f : Addr} {G : Nat -> List It -> Option PT} (hf : cx.fn f = some (fiA f))
  (hG : ∀ p its P,G p its = some P -> ∀ (k : V -> Hp -> Prop) (x : Nat -> Hp -> Prop),P k x -> ∀ D,p ≤ D.length -> D.length ≤ 1000000 -> D.drop p = flatI its -> ∃ n,runF (RO (tab []) cx n) (fiA f) 3 [.ref 0] (cH D p) (λ v H2=>∃ H2',Gh H2' H2 ∧ k v H2') (λ n H2=>∃ H2',Gh H2' H2 ∧ x n H2'))
  {g₁ : Heap} (B : Base (Kf w.params) mg mb g₁) (C : CxOk cx pw w (Kf w.params) g₁ mg mb) : SpecOn pw w g₁ f (orc 4 (csrS G)):=by
 refine orcG_on hyp_nil hf (λ as Hs=>Sp.of ?_) B C
 delta csrS; apply yC.sp; intro a as; apply yRef.sp; apply yE.sp; apply yC.sp; intro h Hs; apply oInst.sp; apply yC.sp; intro h Hs; apply oCfl.sp; intro p its; apply yE.sp
 intro P e k x hp Hr hg
 apply hg.c; intro _ _ g1 t; apply t.c; intro _ _ g2 t; apply t.e; apply g1.s rfl; apply g2.f; intro D hD
 exact hG _ _ _ e k x hp D hD.1 hD.2.1 hD.2.2
end
theorem gh_c {D : List Nat} {p : Nat} {its : List It} (h1 : p ≤ D.length) (h2 : D.length ≤ 1000000) (h3 : D.drop p = flatI its) : Gh [.inst 467 1,.cfl p its] (cH D p):=
 .cons (.self rfl) (.cons (.cfl D ⟨h1,h2,h3⟩) .nil)
noncomputable def doneG : Nat -> List It -> Option PT:=λ p its=>some λ K _=>K (.bool (isNilI its)) [.inst 467 1,.cfl p its]
theorem done1 (K : V -> Hp -> Prop) (X : Nat -> Hp -> Prop) (D : List Nat) (p : Nat) : runF (RO (tab []) cx 40) (fiA 386) 3 [.ref 0] (cH D p) K X = K (.bool (decide ((p : Int) ≥ (D.length : Int)))) (cH D p):=by kernel_rfl
theorem done_ok : ∀ p its P,doneG p its = some P -> ∀ (k : V -> Hp -> Prop) (x : Nat -> Hp -> Prop),P k x -> ∀ D,p ≤ D.length -> D.length ≤ 1000000 -> D.drop p = flatI its -> ∃ n,runF (RO (tab []) cx n) (fiA 386) 3 [.ref 0] (cH D p) (λ v H2=>∃ H2',Gh H2' H2 ∧ k v H2') (λ n H2=>∃ H2',Gh H2' H2 ∧ x n H2'):=by
 intro p its P e k x hp D h1 h2 h3
 refine yG λ G_ k_=>?_
 obtain rfl:=Option.some.inj e
 refine k_ ?_
 refine ⟨40,?_⟩
 rw [done1,<- nil_at h3 h1]
 exact ⟨_,gh_c h1 h2 h3,hp⟩
noncomputable def peekG : Nat -> List It -> Option PT:=λ p its=>some λ K _=>K (.int (match hdI its with | some c=>.ofNat c | none=>-1)) [.inst 467 1,.cfl p its]
theorem peek1 (K : V -> Hp -> Prop) (X : Nat -> Hp -> Prop) (D : List Nat) (p : Nat) : runF (RO (tab []) cx 40) (fiA 394) 3 [.ref 0] (cH D p) K X = match decide (((p : Int) + 0) < (D.length : Int)) with
  | true=>optK False (getM cx (.bytes D) (.int ((p : Int) + 0)) (cH D p)) λ v=>K v (cH D p)
  | false=>K (.int (-1)) (cH D p):=by kernel_rfl
theorem peek_ok : ∀ p its P,peekG p its = some P -> ∀ (k : V -> Hp -> Prop) (x : Nat -> Hp -> Prop),P k x -> ∀ D,p ≤ D.length -> D.length ≤ 1000000 -> D.drop p = flatI its -> ∃ n,runF (RO (tab []) cx n) (fiA 394) 3 [.ref 0] (cH D p) (λ v H2=>∃ H2',Gh H2' H2 ∧ k v H2') (λ n H2=>∃ H2',Gh H2' H2 ∧ x n H2'):=by
 intro p its P e k x hp D h1 h2 h3
 obtain rfl:=Option.some.inj e
 refine ⟨40,?_⟩
 rw [peek1,Int.add_zero]
 have hd:=hd_at h3
 cases hh : hdI its with
 | none=>
  rw [hh] at hd hp
  have:=List.getElem?_eq_none_iff.mp hd
  rw [decide_eq_false (by lia)]
  exact ⟨_,gh_c h1 h2 h3,hp⟩
 | some c=>
  rw [hh] at hd hp
  have:=(List.getElem?_eq_some_iff.mp hd).1
  rw [decide_eq_true (by lia),getB hd h2]
  exact ⟨_,gh_c h1 h2 h3,hp⟩
noncomputable def takeG : Nat -> List It -> Option PT:=λ p its=>match its with
 | []=>some λ K _=>K (.int (-1)) [.inst 467 1,.cfl p []]
 | .b c :: r=>some λ K _=>K (.int c) [.inst 467 1,.cfl (p + 1) r]
 | .hex l :: r=>some λ K _=>K (.int 60) [.inst 467 1,.cfl (p + 1) (.hx l :: r)]
 | .hx _ :: _=>none
theorem takeE (K : V -> Hp -> Prop) (X : Nat -> Hp -> Prop) (D : List Nat) (p : Nat) : runF (RO (tab []) cx 40) (fiA 401) 3 [.ref 0] (cH D p) K X = match decide ((p : Int) ≥ (D.length : Int)) with
  | true=>K (.int (-1)) (cH D p)
  | false=>optK False (getM cx (.bytes D) (.int p) (cH D p)) λ v=>K v (cH D (p + 1)):=by kernel_rfl
theorem take_ok : ∀ p its P,takeG p its = some P -> ∀ (k : V -> Hp -> Prop) (x : Nat -> Hp -> Prop),P k x -> ∀ D,p ≤ D.length -> D.length ≤ 1000000 -> D.drop p = flatI its -> ∃ n,runF (RO (tab []) cx n) (fiA 401) 3 [.ref 0] (cH D p) (λ v H2=>∃ H2',Gh H2' H2 ∧ k v H2') (λ n H2=>∃ H2',Gh H2' H2 ∧ x n H2'):=by
 intro p its P e k x hp D h1 h2 h3
 refine ⟨40,?_⟩
 rw [takeE,<- nil_at h3 h1]
 unfold takeG at e
 split at e
 ·obtain rfl:=Option.some.inj e
  exact ⟨_,gh_c h1 h2 h3,hp⟩
 ·obtain rfl:=Option.some.inj e
  have hd:=hd_at h3
  rw [show isNilI (It.b _ :: _) = false from rfl]
  dsimp only
  rw [getB hd h2]
  have:=(List.getElem?_eq_some_iff.mp hd).1
  exact ⟨_,gh_c (by omega) h2 (drop_b h3),hp⟩
 ·obtain rfl:=Option.some.inj e
  have hd:=hd_at h3
  rw [show isNilI (It.hex _ :: _) = false from rfl]
  dsimp only
  rw [getB hd h2]
  have:=(List.getElem?_eq_some_iff.mp hd).1
  exact ⟨_,gh_c (by omega) h2 (by refine List.drop_drop ▸ ?_; refine h3 ▸ ?_; rfl),hp⟩
 ·cases e
noncomputable def notAt (a b : Nat) : List It -> Bool
 | []=>true
 | .b c :: r=>match Nat.beq c a with
  | false=>true
  | true=>match hdI r with
   | none=>true
   | some d=>!(Nat.beq d b)
 | .hex _ :: _=>match Nat.beq 60 a with
  | false=>true
  | true=>Nat.beq b 60
 | .hx _ :: _=>false
noncomputable def skipF : List V -> Hp -> Option PT:=λ as Hs=>yC as λ v as=>yRef v 0 <| yC as λ v as=>yByt v λ l=>yE as <| yC l λ a l=>yC l λ b l=>yE l <| yC Hs λ h Hs=>oInst h 467 1 <| yC Hs λ h Hs=>oCfl h λ p its=>yE Hs <| yB (notAt a b its) <|
 some λ K _=>K (.bool false) [.inst 467 1,.cfl p its]
noncomputable def skipφ (a b : Nat) : Nm:=[(nm "self",.loc (.ref 0)),(nm "word",.loc (.bytes [a,b]))]
theorem skip1 (K : V -> Hp -> Prop) (X : Nat -> Hp -> Prop) (D : List Nat) (p a b : Nat) : runF (RO (tab []) cx 40) (fiA 415) 3 [.ref 0,.bytes [a,b]] (cH D p) K X = match decide ((p : Int) + 2 ≤ (D.length : Int)) with
  | false=>match !(decide ((p : Int) + 2 ≤ (D.length : Int))) with
   | true=>K (.bool false) (cH D p)
   | false=>ssO [] 40 415 3 (bd 415 1) (skipφ a b) (cH D p) (endF K) X
  | true=>optK False (sliceM (.bytes D) (some p) (some ((p : Int) + 2)) none (cH D p)) λ q=>optK False (cmpM cx .Eq q.1 (.bytes [a,b]) q.2) λ t=>match !t with
   | true=>K (.bool false) q.2
   | false=>ssO [] 40 415 3 (bd 415 1) (skipφ a b) q.2 (endF K) X:=by kernel_rfl
theorem not_at {a b : Nat} {its : List It} (h : notAt a b its = true) : (flatI its).take 2 ≠ [a,b]:=by
 have hd60 : ∀ n,digH n ≠ 60:=λ n=>by
  unfold digH
  split
  ·rename_i q
   have:=Nat.le_of_ble_eq_true q
   lia
  ·rename_i q
   have : ¬ n < 10:=λ z=>by replace q:=(show Nat.blt n 10 = true from Nat.ble_eq_true_of_le z) ▸ q; cases q
   lia
 intro e
 cases its with
 | nil=>cases e
 | cons x r=>
  cases x with
  | b c=>
   have h : (match Nat.beq c a with
    | false=>true
    | true=>match hdI r with
     | none=>true
     | some d=>!(Nat.beq d b)) = true:=h
   split at h
   ·rename_i q
    have e : c :: (flatI r).take 1 = [a,b]:=e
    injection e with e1 e2
    exact Nat.ne_of_beq_eq_false q e1
   ·have e : c :: (flatI r).take 1 = [a,b]:=e
    injection e with e1 e2
    cases r with
    | nil=>cases e2
    | cons y r=>
     cases y with
     | b d=>
      injection e2 with e3
      have h : (!(Nat.beq d b)) = true:=h
      replace h:=e3 ▸ h
      rw [Nat.beq_refl] at h; cases h
     | hex l=>
      have e2 : [60] = [b]:=e2
      injection e2 with e3
      have h : (!(Nat.beq 60 b)) = true:=h
      rw [<- e3] at h; cases h
     | hx l=>
      cases l with
      | nil=>
       have e2 : [62] = [b]:=e2
       injection e2 with e3
       have h : (!(Nat.beq 62 b)) = true:=h
       rw [<- e3] at h; cases h
      | cons d l=>
       have e2 : [digH (d / 16)] = [b]:=e2
       injection e2 with e3
       have h : (!(Nat.beq (digH (d / 16)) b)) = true:=h
       replace h:=e3 ▸ h
       rw [Nat.beq_refl] at h; cases h
  | hx l=>cases h
  | hex l=>
   have h : (match Nat.beq 60 a with
    | false=>true
    | true=>Nat.beq b 60) = true:=h
   injection e with e1 e2
   split at h
   ·rename_i q
    exact Nat.ne_of_beq_eq_false q e1
   ·have hb:=Nat.eq_of_beq_eq_true h
    subst hb
    cases l with
    | nil=>cases e2
    | cons c l=>
     have e2 : [digH (c / 16)] = [60]:=e2
     injection e2 with e3
     exact hd60 _ e3
theorem cut_at {D : List Nat} {p q : Nat} (h : p ≤ q) (hq : q ≤ D.length) : cutL D (some (Int.ofNat p)) (some (Int.ofNat q)) = (D.drop p).take (q - p):=by
 delta cutL clampI
 dsimp only
 refine (Nat.ble_eq_true_of_le hq) ▸ ?_
 rw [Nat.ble_eq_true_of_le (Nat.le_trans h hq)]
theorem slice_at {D : List Nat} {p q : Nat} {H : Hp} (h : p ≤ q) (hq : q ≤ D.length) (hl : D.length ≤ 1000000) : sliceM (.bytes D) (some (Int.ofNat p)) (some (Int.ofNat q)) none H = some (.bytes ((D.drop p).take (q - p)),H):=by
 unfold sliceM
 dsimp only
 rw [Nat.ble_eq_true_of_le hl,cut_at h hq]
 rfl
section
variable {w : World} {mg mb : Str -> Option Value}
theorem skip_ok {a b p : Nat} {its : List It} (h : notAt a b its = true) {k : V -> Hp -> Prop} {x : Nat -> Hp -> Prop} (hp : k (.bool false) [.inst 467 1,.cfl p its]) {D : List Nat} (h1 : p ≤ D.length) (h2 : D.length ≤ 1000000) (h3 : D.drop p = flatI its) :
  runF (RO (tab []) cx 40) (fiA 415) 3 [.ref 0,.bytes [a,b]] (cH D p) (λ v H2=>∃ H2',Gh H2' H2 ∧ k v H2') x:=by
 rw [skip1]
 split
 ·rename_i q
  rw [q]
  exact ⟨_,gh_c h1 h2 h3,hp⟩
 ·rename_i q
  rw [show ((p : Int) + 2) = Int.ofNat (p + 2) from rfl,show ((p : Nat) : Int) = Int.ofNat p from rfl,slice_at (by exact Nat.le_add_right _ _) (by lia) h2,show p + 2 - p = 2 from by simp +arith,h3]
  have hne:=not_at h
  have : cmpM cx .Eq (.bytes ((flatI its).take 2)) (.bytes [a,b]) (cH D p) = some false:=by
   show some (leq ((flatI its).take 2) [a,b]) = _
   cases hq : leq ((flatI its).take 2) [a,b] with
   | false=>rfl
   | true=>exact absurd (leq_iff.mp hq) hne
  dsimp only [optK_val]
  refine this ▸ ?_
  exact ⟨_,gh_c h1 h2 h3,hp⟩
theorem skip_on {g₁ : Heap} (B : Base (Kf w.params) mg mb g₁) (C : CxOk cx pw w (Kf w.params) g₁ mg mb) : SpecOn pw w g₁ 415 (orc 4 skipF):=by
 refine orcG_on hyp_nil (show cx.fn 415 = some (fiA 415) by kernel_rfl) (λ as Hs=>Sp.of ?_) B C
 delta skipF; apply yC.sp; intro v as; apply yRef.sp; apply yC.sp; intro v as; apply yByt.sp; intro l; apply yE.sp; apply yC.sp; intro a l; apply yC.sp; intro b l; apply yE.sp; apply yC.sp; intro h Hs; apply oInst.sp; apply yC.sp; intro h Hs; apply oCfl.sp; intro p its; apply yE.sp; apply yB.sp; intro hn
 refine Sp.so λ k x hp Hr hg=>⟨40,?_⟩
 apply hg.c; intro _ _ g1 t; apply t.c; intro _ _ g2 t; apply t.e; apply g1.s rfl; apply g2.f; intro D hD
 exact skip_ok hn hp hD.1 hD.2.1 hD.2.2
end
set_option backward.match.sparseCases false in
noncomputable def whT : List Stmt -> Expr
 | .While t _ _ _ :: _=>t
 | _=>default
noncomputable def whB : List Stmt -> List Stmt
 | .While _ b _ _ :: _=>b
 | _=>[]
noncomputable def isWB (c : Nat) : Bool:=anyC c [0,9,10,12,13,32]
noncomputable def no37 : List Nat:=(List.range 256).filter λ c=>!(Nat.beq c 37)
noncomputable def skφ (o : Option Int) : Nm:=match o with
 | none=>[(nm "self",.loc (.ref 0))]
 | some x=>[(nm "self",.loc (.ref 0)),(nm "code",.loc (.int x))]
noncomputable def skW (K : V -> Hp -> Prop) (X : Nat -> Hp -> Prop) (m : Nat) (D : List Nat) (n : Nat) (φ : Nm) (H : Hp) : Prop:=
 (RO (tab []) cx n).w ⟨(fiA 422).scope,3,none⟩ φ (whT (bd 422 0)) (whB (bd 422 0)) H (thenO [] m 422 3 [] X (endF K)) (λ n _ H=>X n H)
noncomputable def skR (K : V -> Hp -> Prop) (X : Nat -> Hp -> Prop) (m : Nat) (D : List Nat) (n : Nat) (o : Option Int) (p : Nat) (v : V) : Prop:=
 runSs (λ φ st H K=>(RO (tab []) cx (n + 19)).s ⟨(fiA 422).scope,3,none⟩ φ st H K λ n _ H=>X n H) ((whB (bd 422 0)).drop 1) (setN (nm "code") (.loc v) (skφ o)) (cH D p) (λ fl φ' H2=>match fl with
  | .next=>skW K X m D (n + 19) φ' H2
  | .cont=>skW K X m D (n + 19) φ' H2
  | .brk=>thenO [] m 422 3 [] X (endF K) .next φ' H2
  | .ret v=>thenO [] m 422 3 [] X (endF K) (.ret v) φ' H2)
theorem sk0 (K : V -> Hp -> Prop) (X : Nat -> Hp -> Prop) (D : List Nat) (n p : Nat) : runF (RO (tab []) cx (n + 40)) (fiA 422) 3 [.ref 0] (cH D p) K X = skW K X (n + 40) D (n + 39) (skφ none) (cH D p):=by kernel_rfl
theorem sk1 (K : V -> Hp -> Prop) (X : Nat -> Hp -> Prop) (m n p : Nat) (D : List Nat) (o : Option Int) : skW K X m D (n + 20) (skφ o) (cH D p) = match decide ((p : Int) < (D.length : Int)) with
  | false=>K .none (cH D p)
  | true=>optK False (getM cx (.bytes D) (.int p) (cH D p)) λ v=>skR K X m D n o p v:=by cases o <;> kernel_rfl
theorem sk2 (K : V -> Hp -> Prop) (X : Nat -> Hp -> Prop) (m n p : Nat) (D : List Nat) (o : Option Int) : no37.map (λ c=>skR K X m D n o p (.int (.ofNat c))) = no37.map λ c=>match isWB c with
  | true=>skW K X m D (n + 19) (skφ (some (.ofNat c))) (cH D (p + 1))
  | false=>K .none (cH D p):=by cases o <;> kernel_rfl
noncomputable def skN : List It -> Option (Nat × List It)
 | []=>some (0,[])
 | .hex l :: r=>some (0,.hex l :: r)
 | .hx _ :: _=>none
 | .b c :: r=>match Nat.blt c 256 && !(Nat.beq c 37) with
  | false=>none
  | true=>match isWB c with
   | true=>match skN r with
    | some (k,r')=>some (k + 1,r')
    | none=>none
   | false=>some (0,.b c :: r)
noncomputable def skG : Nat -> List It -> Option PT:=λ p its=>match skN its with
 | some (k,r)=>some λ K _=>K .none [.inst 467 1,.cfl (p + k) r]
 | none=>none
theorem no37_mem {c : Nat} (h : (Nat.blt c 256 && !(Nat.beq c 37)) = true) : c ∈ no37:=by
 simp only [Bool.and_eq_true] at h
 exact List.mem_filter.mpr ⟨List.mem_range.mpr (Nat.le_of_ble_eq_true h.1),h.2⟩
set_option tactic.hygienic true in
theorem sk_loop {K : V -> Hp -> Prop} {X : Nat -> Hp -> Prop} {m : Nat} {D : List Nat} (h2 : D.length ≤ 1000000) : ∀ (its : List It) (p k : Nat) (r : List It) (n : Nat) (o : Option Int),skN its = some (k,r) -> p ≤ D.length -> D.drop p = flatI its -> its.length ≤ n ->
  (p + k ≤ D.length -> D.drop (p + k) = flatI r -> K .none (cH D (p + k))) -> skW K X m D (n + 20) (skφ o) (cH D p):=by
 intro l_
 induction l_ with
 | nil=>
  intro p k r n o e h1 h3 hn hK
  refine yG λ G_ k_=>?_
  cases e
  refine k_ ?_
  rw [sk1,decide_eq_false (by have:=List.drop_eq_nil_iff.mp h3; lia)]
  exact hK h1 h3
 | cons z1_ its ih_=>
  intro p k r n o e h1 h3 hn hK
  cases z1_ with
  | hex l=>
   cases e
   have hd:=hd_at h3
   have:=(List.getElem?_eq_some_iff.mp hd).1
   rw [sk1,decide_eq_true (by lia)]
   simp only [getB hd h2,optK_val]
   have:=List.map_inj_left.mp (sk2 K X m n p D o) 60 (no37_mem (by decide))
   simp only [<- Int.ofNat_eq_natCast,this]
   exact hK h1 h3
  | hx _=>
   cases e
  | b c=>
   have hd:=hd_at h3
   have hlt:=(List.getElem?_eq_some_iff.mp hd).1
   rw [sk1,decide_eq_true (by lia)]
   dsimp only
   rw [getB hd h2,optK_val]
   dsimp only [skN] at e
   split at e
   ·cases e
   ·rename_i hc
    have:=List.map_inj_left.mp (sk2 K X m n p D o) c (no37_mem hc)
    simp only [<- Int.ofNat_eq_natCast,this]
    split at e
    ·split at e
     ·rename_i k' r₁ hk
      refine yG λ G_ k_=>?_
      cases e
      obtain ⟨n',rfl⟩ : ∃ n',n = n' + 1:=⟨n - 1,by have : its.length + 1 ≤ n:=hn; lia⟩
      refine k_ ?_
      exact ih_ (p + 1) k' _ n' _ hk (by assumption) (drop_b h3) (Nat.le_of_succ_le_succ hn) λ q1 q2=>by
       have e : p + 1 + k' = p + (k' + 1):=by simp +arith
       rw [e] at q1 q2 ⊢
       exact hK q1 q2
     ·cases e
    ·cases e
     exact hK h1 h3
set_option tactic.hygienic true in
theorem sk_ok : ∀ p its P,skG p its = some P -> ∀ (k : V -> Hp -> Prop) (x : Nat -> Hp -> Prop),P k x -> ∀ D,p ≤ D.length -> D.length ≤ 1000000 -> D.drop p = flatI its -> ∃ n,runF (RO (tab []) cx n) (fiA 422) 3 [.ref 0] (cH D p) (λ v H2=>∃ H2',Gh H2' H2 ∧ k v H2') (λ n H2=>∃ H2',Gh H2' H2 ∧ x n H2'):=by
 intro p its P e k x hp D h1 h2 h3
 unfold skG at e
 split at e
 ·rename_i kk r hk
  refine yG λ G_ k_=>?_
  obtain rfl:=Option.some.inj e
  refine k_ ?_
  refine ⟨its.length + 40,?_⟩
  simp only [sk0]
  exact sk_loop h2 its p kk r (its.length + 19) none hk h1 h3 (by exact Nat.le_add_right _ _) λ q1 q2=>⟨_,gh_c q1 h2 q2,hp⟩
 ·cases e
noncomputable def isReg (c : Nat) : Bool:=!(anyC c [0,9,10,12,13,32]) && !(anyC c [40,41,60,62,91,93,123,125,47,37])
noncomputable def tkφ (p0 : Nat) : Nm:=[(nm "self",.loc (.ref 0)),(nm "first",.loc (.int p0))]
noncomputable def tkEnd (K : V -> Hp -> Prop) (p0 p : Nat) (D : List Nat) : Prop:=optK False (sliceM (.bytes D) (some p0) (some p) none (cH D p)) λ q=>K q.1 q.2
noncomputable def tkW (K : V -> Hp -> Prop) (X : Nat -> Hp -> Prop) (m : Nat) (n : Nat) (p0 : Nat) (H : Hp) : Prop:=
 (RO (tab []) cx n).w ⟨(fiA 429).scope,3,none⟩ (tkφ p0) (whT (bd 429 1)) (whB (bd 429 1)) H (thenO [] (m + 20) 429 3 (bd 429 2) X (endF K)) (λ n _ H=>X n H)
noncomputable def tkR (K : V -> Hp -> Prop) (X : Nat -> Hp -> Prop) (m : Nat) (n : Nat) (p0 p : Nat) (D : List Nat) (v : V) : Prop:=
 (RO (tab []) cx (n + 26)).c 3 none (.top (.ref 357)) [v] (cH D p) (λ u H=>optK False (truthM H u) λ b=>match b with
  | true=>runSs (λ φ st H K=>(RO (tab []) cx (n + 29)).s ⟨(fiA 429).scope,3,none⟩ φ st H K λ n _ H=>X n H) (whB (bd 429 1)) (tkφ p0) H λ fl φ' H2=>match fl with
   | .next=>(RO (tab []) cx (n + 29)).w ⟨(fiA 429).scope,3,none⟩ φ' (whT (bd 429 1)) (whB (bd 429 1)) H2 (thenO [] (m + 20) 429 3 (bd 429 2) X (endF K)) (λ n _ H=>X n H)
   | .cont=>(RO (tab []) cx (n + 29)).w ⟨(fiA 429).scope,3,none⟩ φ' (whT (bd 429 1)) (whB (bd 429 1)) H2 (thenO [] (m + 20) 429 3 (bd 429 2) X (endF K)) (λ n _ H=>X n H)
   | .brk=>thenO [] (m + 20) 429 3 (bd 429 2) X (endF K) .next φ' H2
   | .ret v=>thenO [] (m + 20) 429 3 (bd 429 2) X (endF K) (.ret v) φ' H2
  | false=>thenO [] (m + 20) 429 3 (bd 429 2) X (endF K) .next (tkφ p0) H) λ n H=>X n H
theorem tk0 (K : V -> Hp -> Prop) (X : Nat -> Hp -> Prop) (D : List Nat) (n p : Nat) : runF (RO (tab []) cx (n + 40)) (fiA 429) 3 [.ref 0] (cH D p) K X = tkW K X (n + 20) (n + 39) p (cH D p):=by kernel_rfl
theorem tk1 (K : V -> Hp -> Prop) (X : Nat -> Hp -> Prop) (m n p0 p : Nat) (D : List Nat) : tkW K X m (n + 30) p0 (cH D p) = match decide ((p : Int) < (D.length : Int)) with
  | false=>tkEnd K p0 p D
  | true=>optK False (getM cx (.bytes D) (.int p) (cH D p)) λ v=>tkR K X m n p0 p D v:=by kernel_rfl
theorem tk2 (K : V -> Hp -> Prop) (X : Nat -> Hp -> Prop) (m n p0 p : Nat) (D : List Nat) : (List.range 256).map (λ c=>tkR K X m n p0 p D (.int (.ofNat c))) = (List.range 256).map λ c=>match isReg c with
  | true=>tkW K X m (n + 29) p0 (cH D (p + 1))
  | false=>tkEnd K p0 p D:=by kernel_rfl
noncomputable def tkN : List It -> Option (List Nat × List It)
 | []=>some ([],[])
 | .hex l :: r=>some ([],.hex l :: r)
 | .hx _ :: _=>none
 | .b c :: r=>match Nat.blt c 256 with
  | false=>none
  | true=>match isReg c with
   | true=>match tkN r with
    | some (w,r')=>some (c :: w,r')
    | none=>none
   | false=>some ([],.b c :: r)
theorem tk_flat : ∀ {its : List It} {w : List Nat} {r : List It},tkN its = some (w,r) -> flatI its = w ++ flatI r:=by
 intro l_
 induction l_ with
 | nil=>
  intro _ _ e
  cases e; rfl
 | cons z1_ its ih_=>
  intro w r e
  cases z1_ with
  | hex l=>
   cases e; rfl
  | hx _=>
   cases e
  | b c=>
   dsimp only [tkN] at e
   split at e
   ·cases e
   ·split at e
    ·split at e
     ·rename_i hk
      cases e
      show c :: flatI its = _
      rw [ih_ hk]; rfl
     ·cases e
    ·cases e; rfl
set_option tactic.hygienic true in
theorem tk_loop {K : V -> Hp -> Prop} {X : Nat -> Hp -> Prop} {m p0 : Nat} {D : List Nat} (h2 : D.length ≤ 1000000) : ∀ (its : List It) (p : Nat) (u : List Nat) (r : List It) (n : Nat),tkN its = some (u,r) -> p ≤ D.length -> D.drop p = flatI its -> its.length ≤ n ->
  (p + u.length ≤ D.length -> D.drop (p + u.length) = flatI r -> tkEnd K p0 (p + u.length) D) -> tkW K X m (n + 30) p0 (cH D p):=by
 intro l_
 induction l_ with
 | nil=>
  intro p u r n e h1 h3 hn hK
  refine yG λ G_ k_=>?_
  cases e
  refine k_ ?_
  rw [tk1,decide_eq_false (by have:=List.drop_eq_nil_iff.mp h3; lia)]
  exact hK h1 h3
 | cons z1_ its ih_=>
  intro p u r n e h1 h3 hn hK
  cases z1_ with
  | hex l=>
   cases e
   have hd:=hd_at h3
   have:=(List.getElem?_eq_some_iff.mp hd).1
   rw [tk1,decide_eq_true (by lia)]
   dsimp only
   simp only [getB hd h2,optK_val]
   have:=List.map_inj_left.mp (tk2 K X m n p0 p D) 60 (List.mem_range.mpr (by decide))
   simp only [<- Int.ofNat_eq_natCast,this]
   exact hK h1 h3
  | hx _=>
   cases e
  | b c=>
   have hd:=hd_at h3
   have hlt:=(List.getElem?_eq_some_iff.mp hd).1
   rw [tk1,decide_eq_true (by lia)]
   dsimp only
   rw [getB hd h2,optK_val]
   dsimp only [tkN] at e
   split at e
   ·cases e
   ·rename_i hc
    have:=List.map_inj_left.mp (tk2 K X m n p0 p D) c (List.mem_range.mpr (Nat.le_of_ble_eq_true hc))
    simp only [<- Int.ofNat_eq_natCast,this]
    split at e
    ·split at e
     ·rename_i u' r₁ hk
      refine yG λ G_ k_=>?_
      cases e
      obtain ⟨n',rfl⟩ : ∃ n',n = n' + 1:=⟨n - 1,by have : its.length + 1 ≤ n:=hn; lia⟩
      refine k_ ?_
      exact ih_ (p + 1) u' _ n' hk (by assumption) (drop_b h3) (Nat.le_of_succ_le_succ hn) λ q1 q2=>by
       have e : p + 1 + u'.length = p + (u'.length + 1):=by simp +arith
       rw [e] at q1 q2 ⊢
       exact hK q1 q2
     ·cases e
    ·cases e
     exact hK h1 h3
noncomputable def tkG : Nat -> List It -> Option PT:=λ p its=>match tkN its with
 | some (u,r)=>some λ K _=>K (.bytes u) [.inst 467 1,.cfl (p + u.length) r]
 | none=>none
set_option tactic.hygienic true in
theorem tk_ok : ∀ p its P,tkG p its = some P -> ∀ (k : V -> Hp -> Prop) (x : Nat -> Hp -> Prop),P k x -> ∀ D,p ≤ D.length -> D.length ≤ 1000000 -> D.drop p = flatI its -> ∃ n,runF (RO (tab []) cx n) (fiA 429) 3 [.ref 0] (cH D p) (λ v H2=>∃ H2',Gh H2' H2 ∧ k v H2') (λ n H2=>∃ H2',Gh H2' H2 ∧ x n H2'):=by
 intro p its P e k x hp D h1 h2 h3
 unfold tkG at e
 split at e
 ·rename_i u r hk
  obtain rfl:=Option.some.inj e
  refine ⟨its.length + 40,?_⟩
  simp only [tk0]
  refine tk_loop h2 its p u r (its.length + 9) hk h1 h3 (by exact Nat.le_add_right _ _) λ q1 q2=>?_
  dsimp only [tkEnd]
  simp only [<- Int.ofNat_eq_natCast,<- Int.ofNat_eq_natCast,slice_at (by exact Nat.le_add_right _ _) q1 h2,Nat.add_sub_cancel_left,h3,tk_flat hk,List.take_left]
  exact ⟨_,gh_c q1 h2 q2,hp⟩
 ·cases e
noncomputable def csrT : List (Addr × Spec):=[(386,orc 4 (csrS doneG)),(394,orc 4 (csrS peekG)),(401,orc 4 (csrS takeG)),(415,orc 4 skipF),(422,orc 4 (csrS skG)),(429,orc 4 (csrS tkG))]
theorem csr_hyp {w : World} {mg mb : Str -> Option Value} : HypT w mg mb csrT:=
 hyp_cons (hyp_cons (hyp_cons (hyp_cons (hyp_cons (hyp_cons hyp_nil λ _ B C=>csr_on (by kernel_rfl) tk_ok B C) λ _ B C=>csr_on (by kernel_rfl) sk_ok B C) λ _ B C=>skip_on B C)
  λ _ B C=>csr_on (by kernel_rfl) take_ok B C) λ _ B C=>csr_on (by kernel_rfl) peek_ok B C) λ _ B C=>csr_on (by kernel_rfl) done_ok B C
noncomputable def halvesL : List Nat -> List V
 | []=>[]
 | c :: r=>.int (.ofNat (c / 16)) :: .int (.ofNat (c % 16)) :: halvesL r
noncomputable def hexItL : List Nat -> List It -> List It
 | [],r=>.b 62 :: r
 | c :: l,r=>.b (digH (c / 16)) :: .b (digH (c % 16)) :: hexItL l r
theorem hexIt_flat : ∀ (l : List Nat) (r : List It),flatI (hexItL l r) = flatI (.hx l :: r):=by
 intro l_
 induction l_ with
 | nil=>
  intro _
  exact rfl
 | cons c l ih_=>
  intro r
  show digH (c / 16) :: digH (c % 16) :: flatI (hexItL l r) = digH (c / 16) :: digH (c % 16) :: (hexL l ++ 62 :: flatI r)
  simp only [ih_ r]
  rfl
noncomputable def hxH (p : Nat) (its : List It) (hs : List V) : Hp:=[.inst 467 1,.cfl p its,.cell (some (.ref 3)),.list hs]
noncomputable def hxφ (q : Int) (o : Option (Int × Int)) : Nm:=match o with
 | none=>[(nm "halves",.cel 2),(nm "cursor",.loc (.ref 0)),(nm "opening",.loc (.int q))]
 | some x=>[(nm "halves",.cel 2),(nm "cursor",.loc (.ref 0)),(nm "opening",.loc (.int q)),(nm "code",.loc (.int x.1)),(nm "worth",.loc (.int x.2))]
noncomputable def hxW (K : V -> Hp -> Prop) (X : Nat -> Hp -> Prop) (m n : Nat) (q : Int) (o : Option (Int × Int)) (H : Hp) : Prop:=
 (RO (tab csrT) cx n).w ⟨(fiA 520).scope,6,none⟩ (hxφ q o) (whT (bd 520 2)) (whB (bd 520 2)) H (thenO csrT m 520 6 (bd 520 3) X (endF K)) (λ n _ H=>X n H)
theorem hx0 (K : V -> Hp -> Prop) (X : Nat -> Hp -> Prop) (n p : Nat) (its : List It) : runF (RO (tab csrT) cx (n + 60)) (fiA 520) 6 [.ref 0] [.inst 467 1,.cfl p its] K X = hxW K X (n + 60) (n + 59) ((p : Int) - 1) none (hxH p its []):=by kernel_rfl
theorem hx1 (K : V -> Hp -> Prop) (X : Nat -> Hp -> Prop) (m n p : Nat) (q : Int) (its : List It) (hs : List V) (o : Option (Int × Int)) : (List.range 16).map (λ d=>hxW K X m (n + 40) q o (hxH p (.b (digH d) :: its) hs)) =
  (List.range 16).map λ d=>match Nat.ble hs.length 1000000 with
   | true=>hxW K X m (n + 39) q (some (.ofNat (digH d),.ofNat d)) (hxH (p + 1) its (hs ++ [.int (.ofNat d)]))
   | false=>False:=by cases o <;> kernel_rfl
noncomputable def hxFin : List Nat -> (List V -> Prop) -> Prop
 | [],k=>k []
 | c :: l,k=>optK False (intM .Mult 16 (.ofNat (c / 16))) λ x=>hxFin l λ vs=>k (.int (x + .ofNat (c % 16)) :: vs)
noncomputable def hxE (p : Nat) (r : List It) (l : List Nat) (vs : List V) : Hp:=[.inst 467 1,.cfl p r,.cell (some (.ref 3)),.list (halvesL l),.rng 0 (.ofNat (2 * l.length)) 2,.gone,.list vs]
noncomputable def hxEnd (K : V -> Hp -> Prop) (p : Nat) (r : List It) (l : List Nat) : Prop:=hxFin l λ vs=>optK False (octetsOf vs) λ u=>K (.bytes u) (hxE (p + 1) r l vs)
section
variable (K : V -> Hp -> Prop) (X : Nat -> Hp -> Prop) (m n p : Nat) (q : Int) (r : List It) (o : Option (Int × Int))
theorem hx20 : hxW K X m (n + 60) q o (hxH p (.b 62 :: r) (halvesL [])) = hxEnd K p r []:=by cases o <;> kernel_rfl
theorem hx21 (a : Nat) : hxW K X m (n + 60) q o (hxH p (.b 62 :: r) (halvesL [a])) = hxEnd K p r [a]:=by cases o <;> kernel_rfl
theorem hx22 (a b : Nat) : hxW K X m (n + 60) q o (hxH p (.b 62 :: r) (halvesL [a,b])) = hxEnd K p r [a,b]:=by cases o <;> kernel_rfl
theorem hx24 (a b c d : Nat) : hxW K X m (n + 60) q o (hxH p (.b 62 :: r) (halvesL [a,b,c,d])) = hxEnd K p r [a,b,c,d]:=by cases o <;> kernel_rfl
end
noncomputable def lenHx (l : List Nat) : Bool:=Nat.ble l.length 2 || Nat.beq l.length 4
theorem hx2 {K : V -> Hp -> Prop} {X : Nat -> Hp -> Prop} {m n p : Nat} {q : Int} {r : List It} {o : Option (Int × Int)} {l : List Nat} (h : lenHx l = true) (k : hxEnd K p r l) : hxW K X m (n + 60) q o (hxH p (.b 62 :: r) (halvesL l)):=by
 rcases l with _ | ⟨a,_ | ⟨b,_ | ⟨c,_ | ⟨d,_ | ⟨e,l⟩⟩⟩⟩⟩
 ·simp only [hx20]; exact k
 ·simp only [hx21]; exact k
 ·simp only [hx22]; exact k
 ·exact nft h
 ·simp only [hx24]; exact k
 ·exact nft h
theorem octets_map : ∀ {l : List Nat},(∀ c ∈ l,c < 256) -> octetsOf (l.map λ c=>.int (.ofNat c)) = some l:=by
 intro l_
 induction l_ with
 | nil=>
  intro _
  exact rfl
 | cons c l ih_=>
  intro h
  rw [List.map_cons]
  dsimp only [octetsOf]
  simp only [show Nat.blt c 256 = true from Nat.ble_eq_true_of_le (h c (.head _)),ih_ λ x hx=>h x (.tail _ hx)]
  rfl
theorem hxFin_ok {k : List V -> Prop} {l : List Nat} (hl : ∀ c ∈ l,c < 256) (h : k (l.map λ c=>.int (.ofNat c))) : hxFin l k:=by
 induction l generalizing k with
 | nil=>exact h
 | cons c l ih=>
  dsimp only [hxFin]
  have hc:=hl c (.head _)
  rw [intM_mul (by lia),optK_val,show (16 * Int.ofNat (c / 16) + Int.ofNat (c % 16)) = Int.ofNat c from by simp only [Int.ofNat_eq_natCast]; lia]
  exact ih (λ x hx=>hl x (.tail _ hx)) h
theorem hx_loop {K : V -> Hp -> Prop} {X : Nat -> Hp -> Prop} {m n : Nat} {q : Int} {r : List It} : ∀ (l : List Nat) (p : Nat) (hs : List V) (o : Option (Int × Int)),(∀ c ∈ l,c < 256) -> hs.length + 2 * l.length ≤ 1000000 ->
  (∀ o,hxW K X m (n + 60) q o (hxH (p + 2 * l.length) (.b 62 :: r) (hs ++ halvesL l))) -> hxW K X m (n + 60 + 2 * l.length) q o (hxH p (hexItL l r) hs):=by
 intro l_
 induction l_ with
 | nil=>
  intro p hs o _ _ h
  have:=h o
  simp only [show halvesL [] = [] from rfl,List.append_nil] at this
  exact this
 | cons c l ih_=>
  intro p hs o hl hlen h
  have hc:=hl c (.head _)
  simp only [List.length_cons] at hlen h ⊢
  have e1:=List.map_inj_left.mp (hx1 K X m (n + 22 + 2 * l.length) p q (.b (digH (c % 16)) :: hexItL l r) hs o) (c / 16) (List.mem_range.mpr (by lia))
  have e2:=List.map_inj_left.mp (hx1 K X m (n + 21 + 2 * l.length) (p + 1) q (hexItL l r) (hs ++ [.int (.ofNat (c / 16))]) (some (.ofNat (digH (c / 16)),.ofNat (c / 16)))) (c % 16) (List.mem_range.mpr (by omega))
  rw [Nat.ble_eq_true_of_le (by omega)] at e1
  rw [Nat.ble_eq_true_of_le (by rw [List.length_append]; simp; omega)] at e2
  rw [show n + 60 + 2 * (l.length + 1) = n + 22 + 2 * l.length + 40 from by simp +arith]
  show hxW K X m (n + 22 + 2 * l.length + 40) q o (hxH p (.b (digH (c / 16)) :: .b (digH (c % 16)) :: hexItL l r) hs)
  simp only [e1]
  show hxW K X m (n + 22 + 2 * l.length + 39) q _ _
  rw [show n + 22 + 2 * l.length + 39 = n + 21 + 2 * l.length + 40 from by simp +arith,e2]
  show hxW K X m (n + 21 + 2 * l.length + 39) q _ _
  rw [show n + 21 + 2 * l.length + 39 = n + 60 + 2 * l.length from by simp +arith]
  refine ih_ (p + 1 + 1) (hs ++ [.int (.ofNat (c / 16))] ++ [.int (.ofNat (c % 16))]) _ (λ x hx=>hl x (.tail _ hx)) (by simp; lia) λ o=>?_
  have:=h o
  simp only [show p + 1 + 1 + 2 * l.length = p + 2 * (l.length + 1) from by simp +arith]
  rw [List.append_assoc,List.append_assoc]
  exact this
noncomputable def oHx {β : Type} (l : List It) (k : List Nat -> List It -> Option β) : Option β:=yC l λ i r=>match i with
 | .hx l=>k l r
 | _=>none
theorem oHx.sp {β : Type} {C : List It -> β -> Prop} {k : List Nat -> List It -> Option β} {l : List It} (h : ∀ l r,Sp (k l r) (C (.hx l :: r))) : Sp (oHx l k) (C l):=by
 apply yC.sp; intro i r
 cases i with
 | hx l=>exact h l r
 | _=>exact .no
noncomputable def hsF : List V -> Hp -> Option PT:=λ as Hs=>yC as λ v as=>yRef v 0 <| yE as <| yC Hs λ h Hs=>oInst h 467 1 <| yC Hs λ h Hs=>oCfl h λ p its=>yE Hs <| oHx its λ l r=>some λ K _=>(lenHx l = true ∧ ∀ c ∈ l,c < 256) ∧ K (.bytes l) (hxE (p + 2 * l.length + 1) r l (l.map λ c=>.int (.ofNat c)))
theorem lenHx_le {l : List Nat} (h : lenHx l = true) : l.length ≤ 4:=by
 rcases Bool.or_eq_true_iff.mp h with h | h
 ·exact Nat.le_trans (Nat.le_of_ble_eq_true h) (by decide)
 ·exact Nat.le_of_eq (Nat.eq_of_beq_eq_true h)
section
variable {w : World} {mg mb : Str -> Option Value}
theorem hs_on {g₁ : Heap} (B : Base (Kf w.params) mg mb g₁) (C : CxOk cx pw w (Kf w.params) g₁ mg mb) : SpecOn pw w g₁ 520 (orc 7 hsF):=by
 refine orc_on csr_hyp (show cx.fn 520 = some (fiA 520) by kernel_rfl) (λ as Hs=>Sp.of ?_) B C
 delta hsF; apply yC.sp; intro v as; apply yRef.sp; apply yE.sp; apply yC.sp; intro h Hs; apply oInst.sp; apply yC.sp; intro h Hs; apply oCfl.sp; intro p its; apply yE.sp; apply oHx.sp; intro l r
 refine Sp.so λ k x hp=>?_
 obtain ⟨⟨hl,hc⟩,hk⟩:=hp
 have hle:=lenHx_le hl
 refine ⟨[.inst 467 1,.cfl p (hexItL l r)],60 + (1 + 2 * l.length),.cons (.refl _) (.cons (.cfl (hexIt_flat l r).symm) .nil),?_⟩
 rw [show 60 + (1 + 2 * l.length) = (1 + 2 * l.length) + 60 from by simp +arith,hx0,show 1 + 2 * l.length + 59 = 0 + 60 + 2 * l.length from by simp +arith]
 refine hx_loop l p [] none hc (by simp; lia) λ o=>?_
 refine hx2 hl ?_
 refine hxFin_ok hc ?_
 refine (octets_map hc) ▸ ?_
 exact hk
end
noncomputable def lexT : List (Addr × Spec):=(520,orc 7 hsF) :: csrT
theorem lex_hyp {w : World} {mg mb : Str -> Option Value} : HypT w mg mb lexT:=hyp_cons csr_hyp λ _ B C=>hs_on B C
section
variable {l : List (Addr × Spec)} {n : Nat} {f : Addr} {d : Nat} {φ φ' : Nm} {H H' : Hp} {K : Fl -> Nm -> Hp -> Prop} {X : Nat -> Hp -> Prop}
theorem enter_eq {args : List V} {k : V -> Hp -> Prop} (h : enterM (fiA f) args H = some (φ',H')) : runF (RO (tab l) cx n) (fiA f) d args H k X = ssO l n f d (bd f 0) φ' H' (endF k) X:=by
 unfold runF
 refine h ▸ ?_
 with_unfolding_all rfl
theorem then_next (b : List Stmt) : thenO l n f d b X K .next φ H = ssO l n f d b φ H K X:=by with_unfolding_all rfl
theorem then_ret (b : List Stmt) (v : V) : thenO l n f d b X K (.ret v) φ H = K (.ret v) φ H:=by with_unfolding_all rfl
theorem ss_nil : ssO l n f d [] φ H K X = K .next φ H:=by with_unfolding_all rfl
theorem ss_app (a b : List Stmt) : ∀ (φ : Nm) (H : Hp) (K : Fl -> Nm -> Hp -> Prop),ssO l n f d (a ++ b) φ H K X = ssO l n f d a φ H (thenO l n f d b X K) X:=by
 unfold ssO thenO
 unfold ssO
 induction a with
 | nil=>intro φ H K; rfl
 | cons st a ih=>
  intro φ H K
  unfold runSs
  refine List.cons_append ▸ ?_
  dsimp only
  congr 1
  funext fl φ' H'
  cases fl with
  | next=>exact ih φ' H' K
  | _=>rfl
theorem ss_cut (k : Nat) (b : List Stmt) : ssO l n f d b φ H K X = ssO l n f d (b.take k) φ H (thenO l n f d (b.drop k) X K) X:=by
 conv=>lhs; rw [<- List.take_append_drop k b]
 exact ss_app _ _ _ _ _
@[irreducible] noncomputable def wO (l : List (Addr × Spec)) (n : Nat) (f : Addr) (d : Nat) (t : Expr) (b : List Stmt) (φ : Nm) (H : Hp) (K : Fl -> Nm -> Hp -> Prop) (X : Nat -> Hp -> Prop) : Prop:=(RO (tab l) cx n).w ⟨(fiA f).scope,d,none⟩ φ t b H K λ n _ H=>X n H
@[irreducible] noncomputable def tO' (l : List (Addr × Spec)) (n : Nat) (f : Addr) (d : Nat) (t : Expr) (φ : Nm) (H : Hp) (K : Bool -> Hp -> Prop) (X : Nat -> Hp -> Prop) : Prop:=(RO (tab l) cx n).t ⟨(fiA f).scope,d,none⟩ φ t H K X
theorem while_eq (t : Expr) (b : List Stmt) (p : Pos) (r : List Stmt) : ssO l (n + 1) f d (.While t b [] p :: r) φ H K X = wO l n f d t b φ H (thenO l (n + 1) f d r X K) X:=by
 with_unfolding_all rfl
noncomputable def wK (l : List (Addr × Spec)) (n : Nat) (f : Addr) (d : Nat) (t : Expr) (b : List Stmt) (K : Fl -> Nm -> Hp -> Prop) (X : Nat -> Hp -> Prop) : Fl -> Nm -> Hp -> Prop:=λ fl φ' H2=>match fl with
 | .next=>wO l n f d t b φ' H2 K X
 | .cont=>wO l n f d t b φ' H2 K X
 | .brk=>K .next φ' H2
 | .ret v=>K (.ret v) φ' H2
theorem while_1 {t : Expr} {b : List Stmt} : wO l (n + 1) f d t b φ H K X = tO' l n f d t φ H (λ q H1=>match q with
  | true=>ssO l n f d b φ H1 (wK l n f d t b K X) X
  | false=>K .next φ H1) X:=by with_unfolding_all rfl
theorem while_any {t : Expr} {b : List Stmt} (ht : ∀ KT,tO' l n f d t φ H KT X = KT true H') : wO l (n + 1) f d t b φ H K X = ssO l n f d b φ H' (wK l n f d t b K X) X:=by
 refine while_1.trans ?_
 rw [ht]
theorem while_on {t : Expr} {b : List Stmt} (ht : ∀ KT,tO' l n f d t φ H KT X = KT true H') {φ₁ : Nm} {H₁ : Hp} (hb : ∀ KB,ssO l n f d b φ H' KB X = KB .next φ₁ H₁) : wO l (n + 1) f d t b φ H K X = wO l n f d t b φ₁ H₁ K X:=by
 simp only [while_any ht,hb]
 rfl
theorem while_imp {t : Expr} {b : List Stmt} (ht : ∀ KT,tO' l n f d t φ H KT X = KT true H') {φ₁ : Nm} {H₁ : Hp} (hb : ∀ KB : Fl -> Nm -> Hp -> Prop,KB .next φ₁ H₁ -> ssO l n f d b φ H' KB X) (h : wO l n f d t b φ₁ H₁ K X) : wO l (n + 1) f d t b φ H K X:=by
 rw [while_any ht]
 exact hb _ h
theorem while_off {t : Expr} {b : List Stmt} (ht : ∀ KT,tO' l n f d t φ H KT X = KT false H') : wO l (n + 1) f d t b φ H K X = K .next φ H':=by
 refine while_1.trans ?_
 rw [ht]
theorem bd_d {a j k : Nat} : (bd a j).drop k = bd a (j + k):=by unfold bd; exact List.drop_drop
end
noncomputable def oct2 : List Nat -> List Nat
 | []=>[]
 | c :: t=>0 :: c :: oct2 t
noncomputable def okTx (t : List Nat) : Prop:=t.length ≤ 2 ∧ ∀ c ∈ t,97 ≤ c ∧ c < 123
noncomputable def utH (t : List Nat) (ss : List V) : Hp:=[.cell (some (.bytes (oct2 t))),.rng 0 (.ofNat (2 * t.length)) 2,.gone,.list (t.map λ c=>.int (256 * 0 + .ofNat c)),.list ss]
noncomputable def utφ (t : List Nat) (pl : Nat) (u : List V) : Nm:=(nm "octets",.loc (.bytes (oct2 t))) :: (nm "units",.loc (.ref 3)) :: (nm "signs",.loc (.ref 4)) :: (nm "place",.loc (.int pl)) :: u.map λ u=>(nm "unit",.loc u)
noncomputable def chS (c : Nat) : V:=.str [c]
noncomputable def chU (c : Nat) : V:=.int (256 * 0 + .ofNat c)
noncomputable def utT (n : Nat) (t : List Nat) (pl : Nat) (u ss : List V) (K : Bool -> Hp -> Prop) (X : Nat -> Hp -> Prop) : Prop:=tO' [] (n + 50) 579 3 (whT (bd 579 3)) (utφ t pl u) (utH t ss) K X
noncomputable def utB (n : Nat) (t : List Nat) (pl : Nat) (u ss : List V) (K : Fl -> Nm -> Hp -> Prop) (X : Nat -> Hp -> Prop) : Prop:=ssO [] (n + 50) 579 3 (whB (bd 579 3)) (utφ t pl u) (utH t ss) K X
noncomputable def utW (n : Nat) (t : List Nat) (pl : Nat) (u ss : List V) (K : Fl -> Nm -> Hp -> Prop) (X : Nat -> Hp -> Prop) : Prop:=wO [] (n + 50) 579 3 (whT (bd 579 3)) (whB (bd 579 3)) (utφ t pl u) (utH t ss) K X
noncomputable def whP : List Stmt -> Pos
 | .While _ _ _ p :: _=>p
 | _=>default
theorem ut_wh : bd 579 3 = .While (whT (bd 579 3)) (whB (bd 579 3)) [] (whP (bd 579 3)) :: bd 579 4:=by kernel_rfl
section
variable (K : Fl -> Nm -> Hp -> Prop) (KT : Bool -> Hp -> Prop) (X : Nat -> Hp -> Prop) (n : Nat)
theorem ut_en (l : List Nat) : enterM (fiA 579) [.bytes l] [] = some ([(nm "octets",.loc (.bytes l))],[]):=by kernel_rfl
theorem ut_p0 : ssO [] (n + 60) 579 3 ((bd 579 0).take 3) [(nm "octets",.loc (.bytes (oct2 [])))] [] K X = K .next (utφ [] 0 []) (utH [] []):=by kernel_rfl
theorem ut_p1 (c : Nat) : ssO [] (n + 60) 579 3 ((bd 579 0).take 3) [(nm "octets",.loc (.bytes (oct2 [c])))] [] K X = K .next (utφ [c] 0 []) (utH [c] []):=by kernel_rfl
theorem ut_p2 (c e : Nat) : ssO [] (n + 60) 579 3 ((bd 579 0).take 3) [(nm "octets",.loc (.bytes (oct2 [c,e])))] [] K X = K .next (utφ [c,e] 0 []) (utH [c,e] []):=by kernel_rfl
theorem ut_t0 : utT n [] 0 [] [] KT X = KT false (utH [] []):=by kernel_rfl
theorem ut_t1 (c : Nat) : utT n [c] 0 [] [] KT X = KT true (utH [c] []):=by kernel_rfl
theorem ut_t1' (c : Nat) : utT n [c] 1 [chU c] [chS c] KT X = KT false (utH [c] [chS c]):=by kernel_rfl
theorem ut_t2 (c e : Nat) : utT n [c,e] 0 [] [] KT X = KT true (utH [c,e] []):=by kernel_rfl
theorem ut_t2' (c e : Nat) : utT n [c,e] 1 [chU c] [chS c] KT X = KT true (utH [c,e] [chS c]):=by kernel_rfl
theorem ut_t2'' (c e : Nat) : utT n [c,e] 2 [chU e] [chS c,chS e] KT X = KT false (utH [c,e] [chS c,chS e]):=by kernel_rfl
theorem ut_b1 : (List.range 26).map (λ i=>utB n [97 + i] 0 [] [] K X) = (List.range 26).map λ i=>K .next (utφ [97 + i] 1 [chU (97 + i)]) (utH [97 + i] [chS (97 + i)]):=by kernel_rfl
theorem ut_b2 (e : Nat) : (List.range 26).map (λ i=>utB n [97 + i,e] 0 [] [] K X) = (List.range 26).map λ i=>K .next (utφ [97 + i,e] 1 [chU (97 + i)]) (utH [97 + i,e] [chS (97 + i)]):=by kernel_rfl
theorem ut_b2' (c : Nat) : (List.range 26).map (λ i=>utB n [c,97 + i] 1 [chU c] [chS c] K X) = (List.range 26).map λ i=>K .next (utφ [c,97 + i] 2 [chU (97 + i)]) (utH [c,97 + i] [chS c,chS (97 + i)]):=by kernel_rfl
theorem ut_e0 : ssO [] (n + 60) 579 3 (bd 579 4) (utφ [] 0 []) (utH [] []) K X = K (.ret (.str [])) (utφ [] 0 []) (utH [] []):=by kernel_rfl
theorem ut_e1 (c : Nat) : ssO [] (n + 60) 579 3 (bd 579 4) (utφ [c] 1 [chU c]) (utH [c] [chS c]) K X = K (.ret (.str [c])) (utφ [c] 1 [chU c]) (utH [c] [chS c]):=by kernel_rfl
theorem ut_e2 (c e : Nat) : ssO [] (n + 60) 579 3 (bd 579 4) (utφ [c,e] 2 [chU e]) (utH [c,e] [chS c,chS e]) K X = K (.ret (.str [c,e])) (utφ [c,e] 2 [chU e]) (utH [c,e] [chS c,chS e]):=by kernel_rfl
end
noncomputable def utE (t : List Nat) : Hp:=utH t (t.map chS)
theorem ut_ok {K : V -> Hp -> Prop} {X : Nat -> Hp -> Prop} {t : List Nat} (h : okTx t) (k : K (.str t) (utE t)) : runF (RO (tab []) cx 60) (fiA 579) 3 [.bytes (oct2 t)] [] K X:=by
 obtain ⟨hl,hc⟩:=h
 have key : ∀ {c},97 ≤ c ∧ c < 123 -> 97 + (c - 97) = c ∧ c - 97 ∈ List.range 26:=λ {c} h=>⟨by omega,List.mem_range.mpr (by omega)⟩
 rw [enter_eq (ut_en _),ss_cut 3]
 have cut : (bd 579 0).drop 3 = bd 579 3:=rfl
 rw [cut]
 match t,hl,hc with
 | [],_,_=>
  rw [ut_p0 _ X 0]
  simp only [then_next]
  rw [ut_wh,while_eq,while_off (λ KT=>ut_t0 KT X 8)]
  simp only [then_next]
  simp only [ut_e0 _ X 0]; exact k
 | [c],_,hc=>
  refine yG λ G_ k_=>?_
  obtain ⟨e1,m1⟩:=key (hc c (.head _))
  refine k_ ?_
  rw [ut_p1 _ X 0]
  simp only [then_next]
  rw [ut_wh,while_eq,while_on (λ KT=>ut_t1 KT X 8 c) (λ KB=>by have:=List.map_inj_left.mp (ut_b1 KB X 8) _ m1; rw [e1] at this; exact this),while_off (λ KT=>ut_t1' KT X 7 c)]
  simp only [then_next]
  rw [ut_e1 _ X 0]; exact k
 | [c,e],_,hc=>
  obtain ⟨e1,m1⟩:=key (hc c (.head _))
  obtain ⟨e2,m2⟩:=key (hc e (.tail _ (.head _)))
  rw [ut_p2 _ X 0]
  simp only [then_next]
  rw [ut_wh,while_eq,while_on (λ KT=>ut_t2 KT X 8 c e) (λ KB=>by have:=List.map_inj_left.mp (ut_b2 KB X 8 e) _ m1; rw [e1] at this; exact this),
   while_on (λ KT=>ut_t2' KT X 7 c e) (λ KB=>by have:=List.map_inj_left.mp (ut_b2' KB X 7 c) _ m2; rw [e2] at this; exact this),while_off (λ KT=>ut_t2'' KT X 6 c e)]
  simp only [then_next]
  rw [ut_e2 _ X 0]; exact k
noncomputable def utF : List V -> Hp -> Option PT:=λ as Hs=>yC as λ v as=>yByt v λ l=>yE as <| yE Hs <| some λ K _=>∃ t,(okTx t ∧ l = oct2 t) ∧ K (.str t) (utE t)
section
variable {w : World} {mg mb : Str -> Option Value}
theorem ut_on {g₁ : Heap} (B : Base (Kf w.params) mg mb g₁) (C : CxOk cx pw w (Kf w.params) g₁ mg mb) : SpecOn pw w g₁ 579 (orc 4 utF):=by
 refine orc_on hyp_nil (show cx.fn 579 = some (fiA 579) by kernel_rfl) (λ as Hs=>Sp.of ?_) B C
 delta utF; apply yC.sp; intro v as; apply yByt.sp; intro l; apply yE.sp; apply yE.sp
 refine Sp.so λ k x hp=>?_
 obtain ⟨t,⟨h1,rfl⟩,hk⟩:=hp
 exact ⟨_,60,Ch.refl _,ut_ok h1 hk⟩
end
noncomputable def rdT : List (Addr × Spec):=[(579,orc 4 utF),(541,gc lexT 541 8 200)]
theorem rd_hyp {w : World} {mg mb : Str -> Option Value} : HypT w mg mb rdT:=
 hyp_cons (hyp_cons hyp_nil λ _ B C=>gc_on lex_hyp (by kernel_rfl) B C) λ _ B C=>ut_on B C
theorem at_i {α : Type} {n : Nat} {f g : Nat -> α} (h : (List.range n).map f = (List.range n).map g) {i : Nat} (hi : i < n) : f i = g i:=List.map_inj_left.mp h i (List.mem_range.mpr hi)
noncomputable def tokH (l : List Nat) (q : Nat) : MO:=.tup [.str [104,101,120],.bytes l,.int q]
noncomputable def tokW (l : List Nat) (q : Nat) : MO:=.tup [.str [119,111,114,100],.bytes l,.int q]
noncomputable def xC (c : Nat) : Int:=256 * 0 + .ofNat c
noncomputable def keyT (c : Nat) : MO:=.tup [.int 1,.int (xC c)]
noncomputable def rcH (G : List MO) (p : Nat) (its : List It) (D tok : MO) : Hp:=.inst 467 1 :: .cfl p its :: D :: (G ++ [tok])
noncomputable def lit (g : Nat -> MO) (n : Nat) : List MO:=(List.range n).map g
noncomputable def rcφ (t : Nat) (o : Option V) : Nm:=(nm "cursor",.loc (.ref 0)) :: (nm "chars",.loc (.ref 2)) :: (nm "token",.loc (.ref (3 + 4 * t))) :: o.toList.map λ v=>(nm "code",.loc v)
noncomputable def endW : List Nat:=[101,110,100,98,102,99,104,97,114]
noncomputable def footI : List It:=(10 :: endW).map .b
noncomputable def rcB : List Stmt:=whB (bd 650 1)
theorem rc_wh : bd 650 1 = .While (whT (bd 650 1)) rcB [] (whP (bd 650 1)) :: []:=by kernel_rfl
abbrev okH (l : List Nat) : Prop:=lenHx l = true ∧ ∀ c ∈ l,c < 256
noncomputable def dOf : List (List Int × Nat × V) -> MO
 | []=>.dict []
 | e :: r=>.tdict (e :: r)
section
variable (K : Fl -> Nm -> Hp -> Prop) (KT : Bool -> Hp -> Prop) (X : Nat -> Hp -> Prop) (g : Nat -> MO) (n p c q : Nat) (D y : MO) (l : List Nat) (r : List It) (o : Option V) (v : V)
theorem rc_t : (List.range 3).map (λ i=>tO' rdT (n + 60) 650 10 (whT (bd 650 1)) (rcφ i o) (rcH (lit g (4 * i)) p r D (tokH [c] q)) KT X) = (List.range 3).map λ i=>KT true (rcH (lit g (4 * i)) p r D (tokH [c] q)):=by cases o <;> kernel_rfl
theorem rc_e : (List.range 4).map (λ i=>tO' rdT (n + 60) 650 10 (whT (bd 650 1)) (rcφ i o) (rcH (lit g (4 * i)) p r D (tokW endW q)) KT X) = (List.range 4).map λ i=>KT false (rcH (lit g (4 * i)) p r D (tokW endW q)):=by cases o <;> kernel_rfl
theorem rc_a : (List.range 3).map (λ i=>ssO rdT (n + 60) 650 10 (rcB.take 1) (rcφ i o) (rcH (lit g (4 * i)) p r D (tokH [c] q)) K X) = (List.range 3).map λ i=>K .next (rcφ i (some (.bytes [c]))) (rcH (lit g (4 * i)) p r D (tokH [c] q)):=by cases o <;> kernel_rfl
noncomputable def rcD (i : Nat) (es : List (List Int × Nat × V)) : MO:=match i with
 | 0=>.dict []
 | _ + 1=>.tdict es
theorem rc_b (es : List (List Int × Nat × V)) : (List.range 3).map (λ i=>ssO rdT (n + 60) 650 10 ((rcB.drop 1).take 1) (rcφ i (some (.bytes [c]))) (rcH (lit g (4 * i)) p (.b 32 :: .hex l :: r) (rcD i es) (tokH [c] q)) K X) =
  (List.range 3).map λ i=>(okH l ∧ ∃ t,(okTx t ∧ l = oct2 t) ∧ optK False (dsetM (rcH (lit g (4 * i) ++ [tokH [c] q,tokH l (p + 1),.gone]) (p + 1 + 1 + 2 * l.length + 1) r (rcD i es) (keyT c)) (rcD i es) (.ref (6 + 4 * i)) (.str t)) λ o=>
   K .next (rcφ i (some (.bytes [c]))) ((rcH (lit g (4 * i) ++ [tokH [c] q,tokH l (p + 1),.gone]) (p + 1 + 1 + 2 * l.length + 1) r (rcD i es) (keyT c) : Hp).set 2 o)):=by kernel_rfl
theorem rc_c : (List.range 3).map (λ i=>ssO rdT (n + 60) 650 10 (rcB.drop 2) (rcφ i (some v)) (rcH (lit g (4 * i + 3)) p (.b 10 :: .hex l :: r) D y) K X) = (List.range 3).map λ i=>(okH l ∧ K .next (rcφ (i + 1) (some v)) (rcH (lit g (4 * i + 3) ++ [y]) (p + 1 + 1 + 2 * l.length + 1) r D (tokH l (p + 1)))):=by kernel_rfl
theorem rc_d : (List.range 3).map (λ i=>ssO rdT (n + 60) 650 10 (rcB.drop 2) (rcφ i (some v)) (rcH (lit g (4 * i + 3)) p footI D y) K X) = (List.range 3).map λ i=>K .next (rcφ (i + 1) (some v)) (rcH (lit g (4 * i + 3) ++ [y]) (p + 1 + 9) [] D (tokW endW (p + 1))):=by kernel_rfl
theorem rc_en (H : Hp) : enterM (fiA 650) [.ref 0,.ref 2] H = some ([(nm "cursor",.loc (.ref 0)),(nm "chars",.loc (.ref 2))],H):=by kernel_rfl
theorem rc_p0 : ssO rdT (n + 61) 650 10 ((bd 650 0).take 1) [(nm "cursor",.loc (.ref 0)),(nm "chars",.loc (.ref 2))] [.inst 467 1,.cfl p (.b 10 :: .hex l :: r),D] K X = (okH l ∧ K .next (rcφ 0 none) (rcH [] (p + 1 + 1 + 2 * l.length + 1) r D (tokH l (p + 1)))):=by kernel_rfl
theorem rc_p1 : ssO rdT (n + 61) 650 10 ((bd 650 0).take 1) [(nm "cursor",.loc (.ref 0)),(nm "chars",.loc (.ref 2))] [.inst 467 1,.cfl p footI,D] K X = K .next (rcφ 0 none) (rcH [] (p + 1 + 9) [] D (tokW endW (p + 1))):=by kernel_rfl
end
theorem lit_of {G : List MO} {n : Nat} (h : G.length = n) : G = lit (λ j=>G.getD j .gone) n:=by
 subst h; exact (range_getD .gone G).symm
noncomputable def tputK (k : List Int) (n : Nat) (x : V) : List (List Int × Nat × V) -> (List (List Int × Nat × V) -> Prop) -> Prop
 | [],K=>K [(k,n,x)]
 | (q,n',y) :: r,K=>match ieq q k with
  | true=>K ((q,n',x) :: r)
  | false=>tputK k n x r λ r'=>K ((q,n',y) :: r')
theorem tputK_ok {k : List Int} {n : Nat} {x : V} : ∀ {es : List (List Int × Nat × V)} {K : List (List Int × Nat × V) -> Prop},tputK k n x es K -> K (tput k n x es):=by
 intro l_
 induction l_ with
 | nil=>
  intro _ h
  exact h
 | cons z1_ r ih_=>
  intro K h
  cases z1_ with
  | mk q z2_=>
   cases z2_ with
   | mk n' y=>
    dsimp only [tputK] at h
    dsimp only [tput]
    cases e : ieq q k with
    | true=>rw [e] at h; exact h
    | false=>rw [e] at h; exact ih_ h
noncomputable def tk (cl : List (Nat × List Nat)) (q : Nat) : MO:=match cl with
 | []=>tokW endW q
 | e :: _=>tokH [e.1] q
noncomputable def posN (cl : List (Nat × List Nat)) (p : Nat) : Nat:=match cl with
 | []=>p + 1 + 9
 | _ :: _=>p + 1 + 1 + 2 + 1
noncomputable def itsT : List (Nat × List Nat) -> List It
 | []=>footI
 | e :: r=>.b 10 :: .hex [e.1] :: .b 32 :: .hex e.2 :: itsT r
noncomputable def itsN : List (Nat × List Nat) -> List It
 | []=>[]
 | e :: r=>.b 32 :: .hex e.2 :: itsT r
noncomputable def rcF : List (Nat × List Nat) -> List MO -> Nat -> MO -> MO -> Hp
 | [],G,p,tok,D=>rcH G p [] D tok
 | e :: r,G,p,tok,D=>rcF r (G ++ [tok,tokH e.2 (p + 1),.gone,keyT e.1]) (posN r (p + 1 + 1 + 2 * e.2.length + 1)) (tk r (p + 1 + 1 + 2 * e.2.length + 1 + 1)) D
noncomputable def rcK : List (Nat × List Nat) -> Nat -> List (List Int × Nat × V) -> (List (List Int × Nat × V) -> Prop) -> Prop
 | [],_,es,K=>K es
 | e :: r,i,es,K=>e.1 < 256 ∧ ∃ t,(okTx t ∧ e.2 = oct2 t) ∧ tputK [1,xC e.1] (6 + 4 * i) (.str t) es λ es'=>rcK r (i + 1) es' K
noncomputable def Iv (G : List MO) (es : List (List Int × Nat × V)) : Prop:=∀ e ∈ es,∃ c j,e.1 = [1,xC c] ∧ e.2.1 = 6 + 4 * j ∧ G[4 * j + 3]? = some (keyT c)
theorem Iv.app {G G' : List MO} {es : List (List Int × Nat × V)} (h : Iv G es) : Iv (G ++ G') es:=λ e he=>by
 refine yG λ G_ k_=>?_
 obtain ⟨c,j,h1,h2,h3⟩:=h e he
 refine k_ ?_
 exact ⟨c,j,h1,h2,by refine (List.getElem?_append_left (List.getElem?_eq_some_iff.mp h3).1).trans ?_; exact h3⟩
theorem Iv.put {G : List MO} {c j : Nat} {x : V} (hg : G[4 * j + 3]? = some (keyT c)) {es : List (List Int × Nat × V)} (h : Iv G es) : Iv G (tput [1,xC c] (6 + 4 * j) x es):=by
 induction es with
 | nil=>
  intro e he
  exact (List.mem_singleton.mp he) ▸ ⟨c,j,rfl,rfl,hg⟩
 | cons a r ih=>
  obtain ⟨q,n',y⟩:=a
  dsimp only [tput]
  split
  ·intro e he
   rcases List.mem_cons.mp he with rfl | he
   ·exact h (q,n',y) (.head _)
   ·exact h e (.tail _ he)
  ·intro e he
   rcases List.mem_cons.mp he with rfl | he
   ·exact h _ (.head _)
   ·exact ih (λ e he=>h e (.tail _ he)) e he
theorem ieq_refl (l : List Int) : ieq l l = true:=by rw [ieq_eq]; exact decide_eq_true rfl
theorem Iv.tok {a b d : MO} {G T : List MO} {es : List (List Int × Nat × V)} (h : Iv G es) : Mine.Internal.tok (a :: b :: d :: (G ++ T)) es = true:=by
 induction es with
 | nil=>rfl
 | cons p r ih=>
  obtain ⟨k,n,y⟩:=p
  obtain ⟨c,j,h1,h2,h3⟩:=h _ (.head _)
  dsimp only at h1 h2
  subst h1 h2
  dsimp only [Mine.Internal.tok]
  have e : tkey (a :: b :: d :: (G ++ T)) (6 + 4 * j) = some [1,xC c]:=by
   unfold tkey
   have : (a :: b :: d :: (G ++ T))[6 + 4 * j]? = some (keyT c):=by
    rw [show 6 + 4 * j = 4 * j + 3 + 1 + 1 + 1 from by simp +arith]
    exact (List.getElem?_append_left (List.getElem?_eq_some_iff.mp h3).1).trans h3
   exact this ▸ rfl
  refine e ▸ ?_
  dsimp only
  rw [ieq_refl]
  exact ih λ e he=>h e (.tail _ he)
theorem tput_ne {k : List Int} {n : Nat} {x : V} : ∀ {es : List (List Int × Nat × V)},dOf (tput k n x es) = .tdict (tput k n x es)
 | []=>rfl
 | (q,n',y) :: r=>by
  dsimp only [tput]
  split <;> rfl
theorem tput_len {k : List Int} {n : Nat} {x : V} : ∀ {es : List (List Int × Nat × V)},(tput k n x es).length ≤ es.length + 1
 | []=>Nat.le_refl _
 | (q,n',y) :: r=>by
  dsimp only [tput]
  split
  ·exact Nat.le_succ _
  ·exact Nat.succ_le_succ tput_len
theorem rc_dset {G : List MO} {es : List (List Int × Nat × V)} {i c p : Nat} {r : List It} {x : V} {a b d : MO} (hi : i < 3) (hG : G.length = 4 * i) (hv : Iv G es) (hn : es = [] ↔ i = 0) (hl : es.length ≤ i) :
  dsetM (rcH (G ++ [a,b,d]) p r (rcD i es) (keyT c)) (rcD i es) (.ref (6 + 4 * i)) x = some (.tdict (tput [1,xC c] (6 + 4 * i) x es)):=by
 have hk : tkey (rcH (G ++ [a,b,d]) p r (rcD i es) (keyT c)) (6 + 4 * i) = some [1,xC c]:=by
  rw [show 6 + 4 * i = 4 * i + 3 + 1 + 1 + 1 from by simp +arith]
  have : ((G ++ [a,b,d]) ++ [keyT c])[4 * i + 3]? = some (keyT c):=by refine (List.getElem?_append_right (by simp [hG])).trans ?_; simp [hG]
  show (match ((G ++ [a,b,d]) ++ [keyT c])[4 * i + 3]? with
   | some (.tup vs)=>intsOf vs
   | _=>none) = _
  refine this ▸ ?_
  rfl
 cases i with
 | zero=>
  refine (hn.mpr rfl) ▸ ?_
  show Option.bind (tkey (rcH (G ++ [a,b,d]) p r (.dict []) (keyT c)) (6 + 4 * 0)) _ = _
  refine (show tkey (rcH (G ++ [a,b,d]) p r (.dict []) (keyT c)) (6 + 4 * 0) = some [1,xC c] from hk) ▸ ?_
  rfl
 | succ i=>
  show Option.bind (tkey (rcH (G ++ [a,b,d]) p r (.tdict es) (keyT c)) (6 + 4 * (i + 1))) _ = _
  rw [show tkey (rcH (G ++ [a,b,d]) p r (.tdict es) (keyT c)) (6 + 4 * (i + 1)) = some [1,xC c] from hk]
  have : Mine.Internal.tok (rcH (G ++ [a,b,d]) p r (.tdict es) (keyT c)) es = true:=by
   unfold rcH
   rw [List.append_assoc]
   exact hv.tok
  show yB (Mine.Internal.tok (rcH (G ++ [a,b,d]) p r (.tdict es) (keyT c)) es) (yB (Nat.ble es.length 1000) _) = _
  simp only [this,Nat.ble_eq_true_of_le (show es.length ≤ 1000 by lia)]
  rfl
theorem okTx_h {t : List Nat} (h : okTx t) : okH (oct2 t):=by
 obtain ⟨h1,h2⟩:=h
 match t,h1,h2 with
 | [],_,_=>exact ⟨rfl,λ c h=>nomatch h⟩
 | [a],_,h2=>exact ⟨rfl,λ c h=>by have:=h2 a (.head _); simp [oct2] at h; lia⟩
 | [a,b],_,h2=>exact ⟨rfl,λ c h=>by have:=h2 a (.head _); have:=h2 b (.tail _ (.head _)); simp [oct2] at h; lia⟩
theorem ok1 {c : Nat} (h : c < 256) : okH [c]:=⟨rfl,λ x hx=>by rw [List.mem_singleton.mp hx]; exact h⟩
noncomputable def hd256 : List (Nat × List Nat) -> Prop
 | []=>True
 | e :: _=>e.1 < 256
theorem rcK_hd {cl : List (Nat × List Nat)} {i : Nat} {es : List (List Int × Nat × V)} {K : List (List Int × Nat × V) -> Prop} (h : rcK cl i es K) : hd256 cl:=by
 cases cl with
 | nil=>trivial
 | cons e r=>exact h.1
theorem rc_next {K : Fl -> Nm -> Hp -> Prop} {X : Nat -> Hp -> Prop} {n p i : Nat} {D y : MO} {v : V} {G : List MO} (cl : List (Nat × List Nat)) (hi : i < 3) (hG : G.length = 4 * i + 3) (hc : hd256 cl) (h : K .next (rcφ (i + 1) (some v)) (rcH (G ++ [y]) (posN cl p) (itsN cl) D (tk cl (p + 1)))) :
  ssO rdT (n + 60) 650 10 (rcB.drop 2) (rcφ i (some v)) (rcH G p (itsT cl) D y) K X:=by
 have hg:=lit_of hG
 cases cl with
 | nil=>
  have:=at_i (rc_d K X (λ j=>G.getD j .gone) n p D y v) hi
  rw [<- hg] at this
  show ssO rdT (n + 60) 650 10 (rcB.drop 2) (rcφ i (some v)) (rcH G p footI D y) K X
  simp only [this]
  exact h
 | cons e r=>
  have:=at_i (rc_c K X (λ j=>G.getD j .gone) n p D y [e.1] (.b 32 :: .hex e.2 :: itsT r) v) hi
  rw [<- hg] at this
  show ssO rdT (n + 60) 650 10 (rcB.drop 2) (rcφ i (some v)) (rcH G p (.b 10 :: .hex [e.1] :: .b 32 :: .hex e.2 :: itsT r) D y) K X
  simp only [this]
  exact ⟨ok1 hc,h⟩
theorem rc_loop {K : Fl -> Nm -> Hp -> Prop} {X : Nat -> Hp -> Prop} {KE : List (List Int × Nat × V) -> Prop} : ∀ (cl : List (Nat × List Nat)) (i : Nat) (G : List MO) (es : List (List Int × Nat × V)) (o : Option V) (p q n : Nat),cl.length + i ≤ 3 -> G.length = 4 * i -> Iv G es -> (es = [] ↔ i = 0) -> es.length ≤ i ->
  rcK cl i es KE -> (∀ es φ,KE es -> K .next φ (rcF cl G p (tk cl q) (dOf es))) -> wO rdT (n + 61 + cl.length) 650 10 (whT (bd 650 1)) rcB (rcφ i o) (rcH G p (itsN cl) (dOf es) (tk cl q)) K X:=by
 intro l_
 induction l_ with
 | nil=>
  intro i G es o p q n hl hG hv hn hle hk hK
  have hg:=lit_of hG
  rw [show n + 61 + ([] : List (Nat × List Nat)).length = n + 60 + 1 from rfl,while_off (H':=rcH G p [] (dOf es) (tokW endW q)) λ KT=>?_]
  ·exact hK es _ hk
  have:=at_i (rc_e KT X (λ j=>G.getD j .gone) n p q (dOf es) [] o) (show i < 4 by simp at hl; lia)
  rw [<- hg] at this
  exact this
 | cons e r ih_=>
  intro i G es o p q n hl hG hv hn hle hk hK
  obtain ⟨hc,t,⟨ht,he⟩,hk⟩:=hk
  have hi : i < 3:=by simp at hl; omega
  have hg:=lit_of hG
  have hD : dOf es = rcD i es:=by
   cases es with
   | nil=>rw [hn.mp rfl]; rfl
   | cons a b=>
    cases i with
    | zero=>cases hn.mpr rfl
    | succ i=>rfl
  have hk:=tputK_ok hk
  rw [show n + 61 + (e :: r).length = n + r.length + 1 + 60 + 1 from by simp; simp +arith]
  refine while_imp (H':=rcH G p (itsN (e :: r)) (dOf es) (tokH [e.1] q)) (λ KT=>?_) (φ₁:=rcφ (i + 1) (some (.bytes [e.1]))) (H₁:=rcH (G ++ [tokH [e.1] q,tokH e.2 (p + 1),.gone,keyT e.1]) (posN r (p + 1 + 1 + 2 * e.2.length + 1)) (itsN r) (dOf (tput [1,xC e.1] (6 + 4 * i) (.str t) es)) (tk r (p + 1 + 1 + 2 * e.2.length + 1 + 1))) (λ KB hKB=>?_) ?_
  ·have:=at_i (rc_t KT X (λ j=>G.getD j .gone) (n + r.length + 1) p e.1 q (dOf es) (itsN (e :: r)) o) hi
   rw [<- hg] at this
   exact this
  ·rw [ss_cut 1]
   have h1:=at_i (rc_a (thenO rdT (n + r.length + 1 + 60) 650 10 (rcB.drop 1) X KB) X (λ j=>G.getD j .gone) (n + r.length + 1) p e.1 q (dOf es) (itsN (e :: r)) o) hi
   rw [<- hg] at h1
   simp only [h1]
   rw [then_next,ss_cut 1,hD]
   have h2:=at_i (rc_b (thenO rdT (n + r.length + 1 + 60) 650 10 ((rcB.drop 1).drop 1) X KB) X (λ j=>G.getD j .gone) (n + r.length + 1) p e.1 q e.2 (itsT r) es) hi
   rw [<- hg] at h2
   rw [show itsN (e :: r) = .b 32 :: .hex e.2 :: itsT r from rfl,h2]
   refine ⟨he ▸ okTx_h ht,t,⟨ht,he⟩,?_⟩
   rw [rc_dset hi hG hv hn hle,optK_val]
   rw [then_next,List.drop_drop]
   refine rc_next r hi (by simp [hG]) (rcK_hd hk) ?_
   rw [tput_ne,List.append_assoc] at *
   exact hKB
  ·rw [show n + r.length + 1 + 60 = n + 61 + r.length from by simp +arith]
   refine ih_ (i + 1) _ _ _ _ _ n (by simp at hl ⊢; lia) (by simp [hG]; rfl) (Iv.put (by rw [List.getElem?_append_right (by lia),hG]; simp) hv.app) ?_ (Nat.le_trans tput_len (Nat.succ_le_succ hle)) hk hK
   cases es with
   | nil=>exact ⟨λ h=>(nomatch h),λ h=>(nomatch h)⟩
   | cons a b=>exact ⟨λ h=>(by dsimp only [tput] at h; split at h <;> (cases h)),λ h=>(nomatch h)⟩
theorem rc_first {K : Fl -> Nm -> Hp -> Prop} {X : Nat -> Hp -> Prop} {n p : Nat} {D : MO} (cl : List (Nat × List Nat)) (hc : hd256 cl) (h : K .next (rcφ 0 none) (rcH [] (posN cl p) (itsN cl) D (tk cl (p + 1)))) :
  ssO rdT (n + 61) 650 10 ((bd 650 0).take 1) [(nm "cursor",.loc (.ref 0)),(nm "chars",.loc (.ref 2))] [.inst 467 1,.cfl p (itsT cl),D] K X:=by
 cases cl with
 | nil=>
  refine (show itsT [] = footI from rfl) ▸ ?_
  rw [rc_p1]
  exact h
 | cons e r=>
  rw [show itsT (e :: r) = .b 10 :: .hex [e.1] :: .b 32 :: .hex e.2 :: itsT r from rfl,rc_p0]
  exact ⟨ok1 hc,h⟩
theorem rc_ok {K : V -> Hp -> Prop} {X : Nat -> Hp -> Prop} {cl : List (Nat × List Nat)} {p : Nat} (hl : cl.length ≤ 3) (h : rcK cl 0 [] λ es=>K .none (rcF cl [] (posN cl p) (tk cl (p + 1)) (dOf es))) :
  runF (RO (tab rdT) cx (cl.length + 1 + 61)) (fiA 650) 10 [.ref 0,.ref 2] [.inst 467 1,.cfl p (itsT cl),.dict []] K X:=by
 rw [enter_eq (rc_en _),ss_cut 1,bd_d]
 refine rc_first cl (rcK_hd h) ?_
 rw [then_next,rc_wh,show cl.length + 1 + 61 = 0 + 61 + cl.length + 1 from by simp +arith,while_eq]
 exact rc_loop cl 0 [] [] none (posN cl p) (p + 1) 0 (by omega) rfl (λ e h=>nomatch h) ⟨λ _=>rfl,λ _=>rfl⟩ (Nat.le_refl _) h λ _ _ h=>by simp only [then_next,ss_nil]; exact h
noncomputable def rcS : List V -> Hp -> Option PT:=λ as Hs=>yC as λ v as=>yRef v 0 <| yC as λ v as=>yRef v 2 <| yE as <| yC Hs λ h Hs=>oInst h 467 1 <| yC Hs λ h Hs=>oCfl h λ p its=>yC Hs λ h Hs=>oDic h λ es=>yE es <| yE Hs <| some λ K _=>∃ cl,(cl.length ≤ 3 ∧ its = itsT cl) ∧ rcK cl 0 [] λ es=>K .none (rcF cl [] (posN cl p) (tk cl (p + 1)) (dOf es))
noncomputable def ciS : List V -> Hp -> Option PT:=λ as Hs=>yC as λ v as=>yRef v 0 <| yC as λ v as=>yByt v λ D=>yE as <| yC Hs λ h Hs=>oInst h 467 1 <| yC Hs λ h Hs=>oFls h λ es=>yE es <| yE Hs <| some λ K _=>∃ its,(flatI its = D ∧ D.length ≤ 1000000) ∧ K .none [.inst 467 1,.cfl 0 its]
theorem ci_run (K : V -> Hp -> Prop) (X : Nat -> Hp -> Prop) (D : List Nat) : runF (RO (tab []) cx 60) (fiA 379) 3 [.ref 0,.bytes D] [.inst 467 1,.flds []] K X = match Nat.ble D.length 1000000 with
  | true=>K .none (cH D 0)
  | false=>False:=by kernel_rfl
section
variable {w : World} {mg mb : Str -> Option Value}
theorem rc_on {g₁ : Heap} (B : Base (Kf w.params) mg mb g₁) (C : CxOk cx pw w (Kf w.params) g₁ mg mb) : SpecOn pw w g₁ 650 (orc 11 rcS):=by
 refine orc_on rd_hyp (show cx.fn 650 = some (fiA 650) by kernel_rfl) (λ as Hs=>Sp.of ?_) B C
 delta rcS; apply yC.sp; intro v as; apply yRef.sp; apply yC.sp; intro v as; apply yRef.sp; apply yE.sp; apply yC.sp; intro h Hs; apply oInst.sp; apply yC.sp; intro h Hs; apply oCfl.sp; intro p its; apply yC.sp; intro h Hs; apply oDic.sp; intro es; apply yE.sp; apply yE.sp
 refine Sp.so λ k x hp=>?_
 obtain ⟨cl,⟨hl,rfl⟩,hk⟩:=hp
 exact ⟨_,_,Ch.refl _,rc_ok hl hk⟩
theorem ci_on {g₁ : Heap} (B : Base (Kf w.params) mg mb g₁) (C : CxOk cx pw w (Kf w.params) g₁ mg mb) : SpecOn pw w g₁ 379 (orc 4 ciS):=by
 refine orcG_on hyp_nil (show cx.fn 379 = some (fiA 379) by kernel_rfl) (λ as Hs=>Sp.of ?_) B C
 delta ciS; apply yC.sp; intro v as; apply yRef.sp; apply yC.sp; intro v as; apply yByt.sp; intro D; apply yE.sp; apply yC.sp; intro h Hs; apply oInst.sp; apply yC.sp; intro h Hs; apply oFls.sp; intro es; apply yE.sp; apply yE.sp
 refine Sp.so λ k x hp Hr hg=>⟨60,?_⟩
 refine yG λ G_ k_=>?_
 obtain ⟨its,⟨hD,hl⟩,hk⟩:=hp
 refine k_ ?_
 apply hg.c; intro _ _ g1 t; apply t.c; intro _ _ g2 t; apply t.e; apply g1.s rfl; apply g2.s rfl
 simp only [ci_run,Nat.ble_eq_true_of_le hl]
 exact ⟨_,gh_c (Nat.zero_le _) hl (by simp only [hD]; rfl),hk⟩
end
noncomputable def bdT : List (Addr × Spec):=[(379,orc 4 ciS),(541,gc lexT 541 8 200)]
noncomputable def rmT : List (Addr × Spec):=(650,orc 11 rcS) :: bdT
theorem bd_hyp {w : World} {mg mb : Str -> Option Value} : HypT w mg mb bdT:=hyp_cons (hyp_cons hyp_nil λ _ B C=>gc_on lex_hyp (by kernel_rfl) B C) λ _ B C=>ci_on B C
theorem rm_hyp {w : World} {mg mb : Str -> Option Value} : HypT w mg mb rmT:=hyp_cons bd_hyp λ _ B C=>rc_on B C
noncomputable def cmI : List It:=([49,32,98,101,103,105,110,99,111,100,101,115,112,97,99,101,114,97,110,103,101,32] : List Nat).map .b ++ (.hex [0] :: .b 32 :: .hex [255] :: ([32,101,110,100,99,111,100,101,115,112,97,99,101,114,97,110,103,101,32,57,32,98,101,103,105,110,98,102,99,104,97,114] : List Nat).map .b)
noncomputable def cmL : List MO:=[.tup [.str [105,110,116],.int 1,.int 0],.tup [.str [119,111,114,100],.bytes [98,101,103,105,110,99,111,100,101,115,112,97,99,101,114,97,110,103,101],.int 2],.cell (some (.bytes [0])),.cell (some (.bytes [255])),.tup [.str [104,101,120],.bytes [0],.int 22],.tup [.str [104,101,120],.bytes [255],.int 27],.rng 0 1 1,.gone,.list [],.gone,.gone,.tup [.int 1,.int 0,.int 255],.tup [.str [119,111,114,100],.bytes [101,110,100,99,111,100,101,115,112,97,99,101,114,97,110,103,101],.int 32],.tup [.str [105,110,116],.int 9,.int 50],.tup [.str [119,111,114,100],.bytes [98,101,103,105,110,98,102,99,104,97,114],.int 52]]
noncomputable def cmφ (D : List Nat) (q : Nat) : Nm:=[(nm "data",.loc (.bytes D)),(nm "cursor",.loc (.ref 1)),(nm "spaces",.loc (.ref 2)),(nm "chars",.loc (.ref 3)),(nm "token",.loc (.ref q))]
noncomputable def cmS (i : Nat) : Nat × Nat × Nat:=match i with
 | 0=>(1,1,1)
 | 1=>(21,21,2)
 | 2=>(51,45,14)
 | _=>(63,57,15)
noncomputable def cmH (i : Nat) (r : List It) : Hp:=.cfl (cmS i).1 (cmI.drop (cmS i).2.1 ++ .b 10 :: r) :: .inst 467 0 :: .list (match i with | 0 | 1=>[] | _=>[.ref 15]) :: .dict [] :: cmL.take (cmS i).2.2
noncomputable def cmP (D : List Nat) (i : Nat) : Nm:=cmφ D (3 + (cmS i).2.2)
noncomputable def cmB : List Stmt:=whB (bd 676 4)
theorem cm_wh : bd 676 4 = .While (whT (bd 676 4)) cmB [] (whP (bd 676 4)) :: bd 676 5:=by kernel_rfl
section
variable (K : Fl -> Nm -> Hp -> Prop) (KT : Bool -> Hp -> Prop) (X : Nat -> Hp -> Prop) (n : Nat) (D : List Nat) (r : List It)
theorem cm_0 : ssO rmT (n + 60) 676 12 ((bd 676 0).take 1) [(nm "data",.loc (.bytes D))] [] K X = ∃ its,(flatI its = D ∧ D.length ≤ 1000000) ∧ K .next [(nm "data",.loc (.bytes D)),(nm "cursor",.loc (.ref 1))] [.cfl 0 its,.inst 467 0]:=by kernel_rfl
theorem cm_1 : ssO rmT (n + 60) 676 12 ((bd 676 1).take 3) [(nm "data",.loc (.bytes D)),(nm "cursor",.loc (.ref 1))] [.cfl 0 (cmI ++ .b 10 :: r),.inst 467 0] K X = K .next (cmP D 0) (cmH 0 r):=by kernel_rfl
theorem cm_t : (List.range 4).map (λ i=>tO' rmT (n + 60) 676 12 (whT (bd 676 4)) (cmP D i) (cmH i r) KT X) = (List.range 4).map λ i=>KT true (cmH i r):=by kernel_rfl
theorem cm_b0 : ssO rmT (n + 60) 676 12 cmB (cmP D 0) (cmH 0 r) K X = K .next (cmP D 1) (cmH 1 r):=by kernel_rfl
theorem cm_b1 : ssO rmT (n + 60) 676 12 cmB (cmP D 1) (cmH 1 r) K X = (okH [0] ∧ okH [255] ∧ K .next (cmP D 2) (cmH 2 r)):=by kernel_rfl
theorem cm_b2 : ssO rmT (n + 60) 676 12 cmB (cmP D 2) (cmH 2 r) K X = K .next (cmP D 3) (cmH 3 r):=by kernel_rfl
theorem cm_c : ssO rmT (n + 60) 676 12 (cmB.take 1) (cmP D 3) (cmH 3 r) K X = ∃ cl,(cl.length ≤ 3 ∧ .b 10 :: r = itsT cl) ∧ rcK cl 0 [] λ es=>orcK [1,0,3] (cmH 3 r) (λ _ H1=>K .next (cmP D 3) H1) .none (rcF cl [] (posN cl 63) (tk cl (63 + 1)) (dOf es)):=by kernel_rfl
theorem cm_t' {i : Nat} (hi : i < 4) : tO' rmT (n + 60) 676 12 (whT (bd 676 4)) (cmP D i) (cmH i r) KT X = KT true (cmH i r):=at_i (cm_t KT X n D r) hi
end
noncomputable def Gs (g : Nat -> MO) (c : Nat -> Nat) (m : Nat) : List MO:=(List.range m).flatMap λ i=>[g (3 * i),g (3 * i + 1),g (3 * i + 2),keyT (c i)]
noncomputable def cmE (c : Nat -> Nat) (t : Nat -> List Nat) (js : List Nat) : List (List Int × Nat × V):=js.map λ j=>([1,xC (c j)],6 + 4 * j,.str (t j))
noncomputable def entR : List (Nat × List Nat) -> Nat -> List (List Int × Nat × V)
 | [],_=>[]
 | e :: r,i=>([1,xC e.1],i,.str e.2) :: entR r (i + 1)
noncomputable def cmM (es : List (Nat × List Nat)) (p : Nat) : Hp:=.cfl p [] :: .inst 467 0 :: .list [.ref 15] :: dOf (entR es 19) :: (cmL ++ es.map λ e=>keyT e.1)
noncomputable def cmR (es : List (Nat × List Nat)) (p : Nat) : Hp:=cmM es p ++ [.tup [.str [101,110,100],.bytes [],.int p],.flds [(nm "spaces",.ref 2),(nm "chars",.ref 3)],.inst 563 (20 + es.length)]
noncomputable def shapes : List (Nat × List Nat):=[(0,[]),(1,[0]),(2,[0]),(2,[0,1]),(3,[0]),(3,[0,2]),(3,[0,1]),(3,[0,1,2])]
theorem cm_d (r : List It) (KK : Hp -> Prop) (g : Nat -> MO) (c : Nat -> Nat) (t : Nat -> List Nat) (p : Nat) (tok : MO) : shapes.map (λ s=>orcK [1,0,3] (cmH 3 r) (λ _ H1=>KK H1) .none (rcH (Gs g c s.1) p [] (dOf (cmE c t s.2)) tok)) =
  shapes.map λ s=>KK (cmM (s.2.map λ j=>(c j,t j)) p):=by kernel_rfl
section
variable (K : Fl -> Nm -> Hp -> Prop) (KT : Bool -> Hp -> Prop) (X : Nat -> Hp -> Prop) (n p : Nat) (D : List Nat) (a b d : Nat × List Nat)
theorem cm_e : [[],[a],[a,b],[a,b,d]].map (λ es=>ssO rmT (n + 60) 676 12 (cmB.drop 1) (cmP D 3) (cmM es p) K X) = [[],[a],[a,b],[a,b,d]].map λ es=>K .next (cmφ D (19 + es.length)) (cmM es p ++ [.tup [.str [101,110,100],.bytes [],.int p]]):=by kernel_rfl
theorem cm_f : [[],[a],[a,b],[a,b,d]].map (λ es=>tO' rmT (n + 60) 676 12 (whT (bd 676 4)) (cmφ D (19 + es.length)) (cmM es p ++ [.tup [.str [101,110,100],.bytes [],.int p]]) KT X) = [[],[a],[a,b],[a,b,d]].map λ es=>KT false (cmM es p ++ [.tup [.str [101,110,100],.bytes [],.int p]]):=by kernel_rfl
theorem cm_g : [[],[a],[a,b],[a,b,d]].map (λ es=>ssO rmT (n + 60) 676 12 (bd 676 5) (cmφ D (19 + es.length)) (cmM es p ++ [.tup [.str [101,110,100],.bytes [],.int p]]) K X) = [[],[a],[a,b],[a,b,d]].map λ es=>K (.ret (.ref (21 + es.length))) (cmφ D (19 + es.length)) (cmR es p):=by kernel_rfl
end
noncomputable def putN (e : Nat × List Nat) : List (Nat × List Nat) -> List (Nat × List Nat)
 | []=>[e]
 | f :: r=>match decide (f.1 = e.1) with
  | true=>(f.1,e.2) :: r
  | false=>f :: putN e r
noncomputable def ddN (ps : List (Nat × List Nat)) : List (Nat × List Nat):=ps.foldl (λ es e=>putN e es) []
noncomputable def cmQ (es : List (Nat × List Nat)) (Q : List (Nat × List Nat) -> Prop) : Prop:=match es with
 | []=>Q []
 | [a]=>Q [a]
 | [a,b]=>Q [a,b]
 | [a,b,d]=>Q [a,b,d]
 | _=>False
noncomputable def encP (ps : List (Nat × List Nat)) : List (Nat × List Nat):=ps.map λ e=>(e.1,oct2 e.2)
theorem rcF_gs (cl : List (Nat × List Nat)) (hl : cl.length ≤ 3) (p : Nat) (tok : MO) : ∃ g p' tok',∀ D,rcF cl [] p tok D = rcH (Gs g (λ j=>(cl.getD j (0,[])).1) cl.length) p' [] D tok':=by
 match cl,hl with
 | [],_=>exact ⟨λ _=>.gone,_,_,λ D=>rfl⟩
 | [a],_=>exact ⟨λ i=>[_,_,_].getD i .gone,_,_,λ D=>rfl⟩
 | [a,b],_=>exact ⟨λ i=>[_,_,_,_,_,_].getD i .gone,_,_,λ D=>rfl⟩
 | [a,b,d],_=>exact ⟨λ i=>[_,_,_,_,_,_,_,_,_].getD i .gone,_,_,λ D=>rfl⟩
theorem cm_leaf {r : List It} {KK : Hp -> Prop} {cl : List (Nat × List Nat)} {js : List Nat} {t : Nat -> List Nat} (m : Nat) (hm : cl.length = m) (hl : m ≤ 3) (hs : (m,js) ∈ shapes) {p : Nat} {tok : MO} {es : List (List Int × Nat × V)} (he : es = cmE (λ j=>(cl.getD j (0,[])).1) t js) {fs : List (Nat × List Nat)} (hf : fs = js.map λ j=>((cl.getD j (0,[])).1,t j)) (h : ∀ p,KK (cmM fs p)) :
  orcK [1,0,3] (cmH 3 r) (λ _ H1=>KK H1) .none (rcF cl [] p tok (dOf es)):=by
 refine yG λ G_ k_=>?_
 subst hm
 obtain ⟨g,p',tok',e⟩:=rcF_gs cl hl p tok
 refine k_ ?_
 have:=List.map_inj_left.mp (cm_d r KK g (λ j=>(cl.getD j (0,[])).1) t p' tok') _ hs
 simp only [e,he,this]
 replace h:=hf ▸ h
 exact h p'
theorem ieqC (a b : Nat) : ieq [1,xC a] [1,xC b] = decide (a = b):=by
 simp only [ieq_eq]
 unfold xC
 by_cases h : a = b
 ·subst h; simp
 ·have : ¬ ([1,256 * 0 + Int.ofNat a] = [1,256 * 0 + Int.ofNat b]):=by simp; lia
  simp only [decide_eq_false this,decide_eq_false h]
noncomputable def tN (a b d : List Nat) (j : Nat) : List Nat:=match j with
 | 0=>a
 | 1=>b
 | _=>d
theorem cm_rc {r : List It} {KK : Hp -> Prop} {ps : List (Nat × List Nat)} {p : Nat} {tok : MO} (hl : ps.length ≤ 3) (ho : ∀ e ∈ ps,e.1 < 256 ∧ okTx e.2) (h : cmQ (ddN ps) λ es=>∀ p,KK (cmM es p)) :
  rcK (encP ps) 0 [] λ es=>orcK [1,0,3] (cmH 3 r) (λ _ H1=>KK H1) .none (rcF (encP ps) [] p tok (dOf es)):=by
 match ps,hl,ho,h with
 | [],_,_,h=>exact cm_leaf (p:=p) (tok:=tok) (js:=[]) (t:=λ _=>[]) 0 rfl (by decide) (by decide) rfl rfl h
 | [a],_,ho,h=>
  have oa:=ho a (.head _)
  exact ⟨oa.1,a.2,⟨oa.2,rfl⟩,cm_leaf (p:=p) (tok:=tok) (cl:=encP [a]) (js:=[0]) (t:=λ _=>a.2) 1 rfl (by decide) (by decide) rfl rfl h⟩
 | [a,b],_,ho,h=>
  have oa:=ho a (.head _)
  have ob:=ho b (.tail _ (.head _))
  refine ⟨oa.1,a.2,⟨oa.2,rfl⟩,ob.1,b.2,⟨ob.2,rfl⟩,?_⟩
  dsimp only [tputK]
  refine (show ieq [1,xC (a.1,oct2 a.2).1] [1,xC (b.1,oct2 b.2).1] = decide (a.1 = b.1) from ieqC _ _) ▸ ?_
  have h : cmQ (match decide (a.1 = b.1) with
   | true=>(a.1,b.2) :: []
   | false=>a :: putN b []) λ es=>∀ p,KK (cmM es p):=h
  cases q : decide (a.1 = b.1) with
  | true=>rw [q] at h; exact cm_leaf (p:=p) (tok:=tok) (cl:=encP [a,b]) (js:=[0]) (t:=λ _=>b.2) 2 rfl (by decide) (by decide) rfl rfl h
  | false=>rw [q] at h; exact cm_leaf (p:=p) (tok:=tok) (cl:=encP [a,b]) (js:=[0,1]) (t:=tN a.2 b.2 []) 2 rfl (by decide) (by decide) rfl rfl h
 | [a,b,d],_,ho,h=>
  have oa:=ho a (.head _)
  have ob:=ho b (.tail _ (.head _))
  have od:=ho d (.tail _ (.tail _ (.head _)))
  refine ⟨oa.1,a.2,⟨oa.2,rfl⟩,ob.1,b.2,⟨ob.2,rfl⟩,?_⟩
  dsimp only [tputK]
  refine (show ieq [1,xC (a.1,oct2 a.2).1] [1,xC (b.1,oct2 b.2).1] = decide (a.1 = b.1) from ieqC _ _) ▸ ?_
  have h : cmQ (putN d (match decide (a.1 = b.1) with
   | true=>(a.1,b.2) :: []
   | false=>a :: putN b [])) λ es=>∀ p,KK (cmM es p):=h
  cases q : decide (a.1 = b.1) with
  | true=>
   rw [q] at h
   refine ⟨od.1,d.2,⟨od.2,rfl⟩,?_⟩
   dsimp only [tputK]
   refine (show ieq [1,xC (a.1,oct2 a.2).1] [1,xC (d.1,oct2 d.2).1] = decide (a.1 = d.1) from ieqC _ _) ▸ ?_
   have h : cmQ (match decide (a.1 = d.1) with
    | true=>(a.1,d.2) :: []
    | false=>(a.1,b.2) :: putN d []) λ es=>∀ p,KK (cmM es p):=h
   cases q2 : decide (a.1 = d.1) with
   | true=>rw [q2] at h; exact cm_leaf (p:=p) (tok:=tok) (cl:=encP [a,b,d]) (js:=[0]) (t:=λ _=>d.2) 3 rfl (by decide) (by decide) rfl rfl h
   | false=>rw [q2] at h; exact cm_leaf (p:=p) (tok:=tok) (cl:=encP [a,b,d]) (js:=[0,2]) (t:=tN b.2 [] d.2) 3 rfl (by decide) (by decide) rfl rfl h
  | false=>
   rw [q] at h
   refine ⟨od.1,d.2,⟨od.2,rfl⟩,?_⟩
   dsimp only [tputK]
   refine (show ieq [1,xC (a.1,oct2 a.2).1] [1,xC (d.1,oct2 d.2).1] = decide (a.1 = d.1) from ieqC _ _) ▸ ?_
   have h : cmQ (match decide (a.1 = d.1) with
    | true=>(a.1,d.2) :: [b]
    | false=>a :: putN d [b]) λ es=>∀ p,KK (cmM es p):=h
   cases q2 : decide (a.1 = d.1) with
   | true=>rw [q2] at h; exact cm_leaf (p:=p) (tok:=tok) (cl:=encP [a,b,d]) (js:=[0,1]) (t:=tN d.2 b.2 []) 3 rfl (by decide) (by decide) rfl rfl h
   | false=>
    rw [q2] at h
    dsimp only [tputK]
    refine (show ieq [1,xC (b.1,oct2 b.2).1] [1,xC (d.1,oct2 d.2).1] = decide (b.1 = d.1) from ieqC _ _) ▸ ?_
    have h : cmQ (a :: match decide (b.1 = d.1) with
     | true=>(b.1,d.2) :: []
     | false=>b :: putN d []) λ es=>∀ p,KK (cmM es p):=h
    cases q3 : decide (b.1 = d.1) with
    | true=>rw [q3] at h; exact cm_leaf (p:=p) (tok:=tok) (cl:=encP [a,b,d]) (js:=[0,1]) (t:=tN a.2 d.2 []) 3 rfl (by decide) (by decide) rfl rfl h
    | false=>rw [q3] at h; exact cm_leaf (p:=p) (tok:=tok) (cl:=encP [a,b,d]) (js:=[0,1,2]) (t:=tN a.2 b.2 d.2) 3 rfl (by decide) (by decide) rfl rfl h
theorem cm_en (D : List Nat) : enterM (fiA 676) [.bytes D] [] = some ([(nm "data",.loc (.bytes D))],[]):=by kernel_rfl
theorem itsT_hd (cl : List (Nat × List Nat)) : ∃ r,itsT cl = .b 10 :: r:=by cases cl <;> exact ⟨_,rfl⟩
theorem ddN_len {e : Nat × List Nat} : ∀ {es : List (Nat × List Nat)},(putN e es).length ≤ es.length + 1:=by
 intro l_
 induction l_ with
 | nil=>
  exact Nat.le_refl _
 | cons f r ih_=>
  dsimp only [putN]
  split
  ·exact Nat.le_succ _
  ·exact Nat.succ_le_succ ih_
theorem cmQ_imp {es : List (Nat × List Nat)} {Q Q' : List (Nat × List Nat) -> Prop} (h : cmQ es Q) (k : ∀ es,(es = [] ∨ (∃ a,es = [a]) ∨ (∃ a b,es = [a,b]) ∨ ∃ a b d,es = [a,b,d]) -> Q es -> Q' es) : cmQ es Q':=by
 match es,h with
 | [],h=>exact k _ (.inl rfl) h
 | [a],h=>exact k _ (.inr (.inl ⟨a,rfl⟩)) h
 | [a,b],h=>exact k _ (.inr (.inr (.inl ⟨a,b,rfl⟩))) h
 | [a,b,d],h=>exact k _ (.inr (.inr (.inr ⟨a,b,d,rfl⟩))) h
theorem cm_tail {K : V -> Hp -> Prop} {X : Nat -> Hp -> Prop} {p : Nat} {D : List Nat} {es : List (Nat × List Nat)} (hs : es = [] ∨ (∃ a,es = [a]) ∨ (∃ a b,es = [a,b]) ∨ ∃ a b d,es = [a,b,d]) (h : ∀ p,K (.ref (21 + es.length)) (cmR es p)) : ssO rmT (15 + 60) 676 12 (cmB.drop 1) (cmP D 3) (cmM es p) (wK rmT (15 + 60) 676 12 (whT (bd 676 4)) cmB (thenO rmT (20 + 60) 676 12 (bd 676 5) X (endF K)) X) X:=by
 obtain ⟨a,b,d,hm⟩ : ∃ a b d,es ∈ [[],[a],[a,b],[a,b,d]]:=by
  rcases hs with rfl | ⟨a,rfl⟩ | ⟨a,b,rfl⟩ | ⟨a,b,d,rfl⟩
  ·exact ⟨(0,[]),(0,[]),(0,[]),.head _⟩
  ·exact ⟨a,(0,[]),(0,[]),.tail _ (.head _)⟩
  ·exact ⟨a,b,(0,[]),.tail _ (.tail _ (.head _))⟩
  ·exact ⟨a,b,d,.tail _ (.tail _ (.tail _ (.head _)))⟩
 rw [List.map_inj_left.mp (cm_e _ X 15 p D a b d) _ hm]
 show wO rmT (14 + 60 + 1) 676 12 (whT (bd 676 4)) cmB _ _ _ X
 rw [while_off λ KT=>List.map_inj_left.mp (cm_f KT X 14 p D a b d) _ hm,then_next,List.map_inj_left.mp (cm_g (endF K) X 20 p D a b d) _ hm]
 exact h p
theorem cm_ok {K : V -> Hp -> Prop} {X : Nat -> Hp -> Prop} {ps : List (Nat × List Nat)} {D : List Nat} (hl : ps.length ≤ 3) (ho : ∀ e ∈ ps,e.1 < 256 ∧ okTx e.2) (hD : flatI (cmI ++ itsT (encP ps)) = D) (hz : D.length ≤ 1000000)
  (h : cmQ (ddN ps) λ es=>∀ p,K (.ref (21 + es.length)) (cmR es p)) : runF (RO (tab rmT) cx 80) (fiA 676) 12 [.bytes D] [] K X:=by
 obtain ⟨r,hr⟩:=itsT_hd (encP ps)
 rw [enter_eq (cm_en D),ss_cut 1,bd_d,show 80 = 20 + 60 from rfl,cm_0]
 refine ⟨cmI ++ itsT (encP ps),⟨hD,hz⟩,?_⟩
 rw [then_next,ss_cut 3,bd_d,hr,cm_1,then_next,show 0 + 1 + 3 = 4 from rfl,cm_wh,show 20 + 60 = 79 + 1 from rfl,while_eq,show 79 = 18 + 60 + 1 from rfl]
 refine while_imp (H':=cmH 0 r) (φ₁:=cmP D 1) (H₁:=cmH 1 r) (λ KT=>cm_t' KT X 18 D r (by decide)) (λ KB hKB=>by simp only [cm_b0]; exact hKB) ?_
 refine while_imp (H':=cmH 1 r) (φ₁:=cmP D 2) (H₁:=cmH 2 r) (λ KT=>cm_t' KT X 17 D r (by decide)) (λ KB hKB=>by simp only [cm_b1]; exact ⟨ok1 (by decide),ok1 (by decide),hKB⟩) ?_
 refine while_imp (H':=cmH 2 r) (φ₁:=cmP D 3) (H₁:=cmH 3 r) (λ KT=>cm_t' KT X 16 D r (by decide)) (λ KB hKB=>by simp only [cm_b2]; exact hKB) ?_
 rw [show 16 + 60 = 15 + 60 + 1 from rfl,while_any λ KT=>cm_t' KT X 15 D r (by decide),ss_cut 1,cm_c]
 refine ⟨encP ps,⟨by unfold encP; rw [List.length_map]; exact hl,hr.symm⟩,?_⟩
 refine cm_rc (KK:=λ H1=>thenO rmT (15 + 60) 676 12 (cmB.drop 1) X _ .next (cmP D 3) H1) hl ho (cmQ_imp h λ es hs hq p=>?_)
 simp only [then_next]
 exact cm_tail hs hq
noncomputable def cmS1 : List V -> Hp -> Option PT:=λ as Hs=>yC as λ v as=>yByt v λ D=>yE as <| yE Hs <| some λ K _=>∃ ps,((ps.length ≤ 3 ∧ ∀ e ∈ ps,e.1 < 256 ∧ okTx e.2) ∧ (flatI (cmI ++ itsT (encP ps)) = D ∧ D.length ≤ 1000000)) ∧ cmQ (ddN ps) λ es=>∀ p,K (.ref (21 + es.length)) (cmR es p)
section
variable {w : World} {mg mb : Str -> Option Value}
theorem cm_on {g₁ : Heap} (B : Base (Kf w.params) mg mb g₁) (C : CxOk cx pw w (Kf w.params) g₁ mg mb) : SpecOn pw w g₁ 676 (orc 13 cmS1):=by
 refine orc_on rm_hyp (show cx.fn 676 = some (fiA 676) by kernel_rfl) (λ as Hs=>Sp.of ?_) B C
 delta cmS1; apply yC.sp; intro v as; apply yByt.sp; intro D; apply yE.sp; apply yE.sp
 refine Sp.so λ k x hp=>?_
 refine yG λ G_ k_=>?_
 obtain ⟨ps,⟨⟨h1,h2⟩,h3,h4⟩,h5⟩:=hp
 refine k_ ?_
 exact ⟨[],80,Ch.refl _,cm_ok h1 h2 h3 h4 h5⟩
end
noncomputable def badI (i : Nat) : List It:=match i with
 | 0=>([49,32,98,101,103,105,110,98,102,99,104,97,114,32] : List Nat).map .b ++ [.hex [65],.b 32,.hex [0,65]]
 | 1=>([49,32,98,101,103,105,110,98,102,114,97,110,103,101,32] : List Nat).map .b ++ [.hex [65],.b 32,.hex [66]]
 | _=>([49,32,98,101,103,105,110,98,102,99,104,97,114,32] : List Nat).map .b ++ [.hex [65],.b 32,.hex [0]]
noncomputable def badL (i : Nat) : List Nat:=match i with
 | 0=>[0,65]
 | 1=>[66]
 | _=>[0]
noncomputable def excF (w : List Nat) (q : Int) : MO:=.flds [(nm "what",.str w),(nm "at",.int q)]
noncomputable def badR (i : Nat) : Nat × Hp:=match i with
 | 0=>(16,[.cfl 25 [],.inst 467 0,.list [],.tdict [([1,65],(14,.str [65]))],.tup [.str [105,110,116],.int 1,.int 0],.tup [.str [119,111,114,100],.bytes [98,101,103,105,110,98,102,99,104,97,114],.int 2],tokH [65] 14,tokH [0,65] 19,.cell (some (.bytes [0,65])),.rng 0 2 2,.gone,.list [.int 65],.list [.str [65]],.gone,.tup [.int 1,.int 65],.tup [.str [101,110,100],.bytes [],.int 25],.exc 71 (some (17)) .plain,excF [97,32,112,97,114,116,32,119,105,116,104,111,117,116,32,105,116,115,32,101,110,100] 25])
 | 1=>(11,[.cfl 24 [],.inst 467 0,.list [],.dict [],.tup [.str [105,110,116],.int 1,.int 0],.tup [.str [119,111,114,100],.bytes [98,101,103,105,110,98,102,114,97,110,103,101],.int 2],tokH [65] 15,tokH [66] 20,.tup [.str [101,110,100],.bytes [],.int 24],.cell (some (.ref 8)),.cell none,.exc 71 (some (12)) .plain,excF [97,32,115,116,114,105,110,103,32,105,115,32,109,105,115,115,105,110,103] 24])
 | _=>(11,[.cfl 23 [],.inst 467 0,.list [],.dict [],.tup [.str [105,110,116],.int 1,.int 0],.tup [.str [119,111,114,100],.bytes [98,101,103,105,110,98,102,99,104,97,114],.int 2],tokH [65] 14,tokH [0] 19,.cell (some (.bytes [0])),.exc 71 (some (10)) .plain,excF [97,32,85,84,70,45,49,54,32,116,101,120,116,32,111,102,32,97,110,32,111,100,100,32,110,117,109,98,101,114,32,111,102,32,111,99,116,101,116,115] (-1),.exc 71 (some (12)) .ctx,excF [97,32,85,84,70,45,49,54,32,116,101,120,116,32,111,102,32,97,110,32,111,100,100,32,110,117,109,98,101,114,32,111,102,32,111,99,116,101,116,115] 19])
theorem bad_0 (K : Fl -> Nm -> Hp -> Prop) (X : Nat -> Hp -> Prop) (n : Nat) (D : List Nat) : ssO bdT (n + 60) 676 12 ((bd 676 0).take 1) [(nm "data",.loc (.bytes D))] [] K X = ∃ its,(flatI its = D ∧ D.length ≤ 1000000) ∧ K .next [(nm "data",.loc (.bytes D)),(nm "cursor",.loc (.ref 1))] [.cfl 0 its,.inst 467 0]:=by kernel_rfl
theorem bad_1 (K : Fl -> Nm -> Hp -> Prop) (X : Nat -> Hp -> Prop) (n : Nat) (D : List Nat) : (List.range 3).map (λ i=>ssO bdT (n + 90) 676 12 (bd 676 1) [(nm "data",.loc (.bytes D)),(nm "cursor",.loc (.ref 1))] [.cfl 0 (badI i),.inst 467 0] K X) = (List.range 3).map λ i=>(okH [65] ∧ okH (badL i) ∧ X (badR i).1 (badR i).2):=by kernel_rfl
theorem bad_len : (List.range 3).map (λ i=>(Nat.ble (flatI (badI i)).length 1000000,(badL i).all (Nat.blt · 256),lenHx (badL i))) = (List.range 3).map λ _=>(true,true,true):=by kernel_rfl
theorem bad_ok {K : V -> Hp -> Prop} {X : Nat -> Hp -> Prop} {i : Nat} {D : List Nat} (hi : i < 3) (hD : flatI (badI i) = D) (h : X (badR i).1 (badR i).2) : runF (RO (tab bdT) cx 90) (fiA 676) 12 [.bytes D] [] K X:=by
 have hb:=at_i bad_len hi
 simp only [Prod.mk.injEq,Prod.mk.injEq] at hb
 rw [enter_eq (cm_en D),ss_cut 1,bd_d,show 90 = 30 + 60 from rfl,bad_0]
 refine ⟨badI i,⟨hD,hD ▸ Nat.le_of_ble_eq_true hb.1⟩,?_⟩
 rw [then_next,show 30 + 60 = 0 + 90 from rfl,show 0 + 1 = 1 from rfl,at_i (bad_1 (endF K) X 0 D) hi]
 exact ⟨ok1 (by decide),⟨hb.2.2,λ c hc=>Nat.le_of_ble_eq_true (List.all_eq_true.mp hb.2.1 c hc)⟩,h⟩
noncomputable def cmS2 : List V -> Hp -> Option PT:=λ as Hs=>yC as λ v as=>yByt v λ D=>yE as <| yE Hs <| some λ _ X=>(flatI (badI 0) = D ∧ X (badR 0).1 (badR 0).2) ∨ (flatI (badI 1) = D ∧ X (badR 1).1 (badR 1).2) ∨ (flatI (badI 2) = D ∧ X (badR 2).1 (badR 2).2)
noncomputable def sOr (S T : Spec) : Spec:=λ d hd args H k X fb=>S d hd args H k X fb ∨ T d hd args H k X fb
section
variable {w : World} {mg mb : Str -> Option Value}
theorem cm2_on {g₁ : Heap} (B : Base (Kf w.params) mg mb g₁) (C : CxOk cx pw w (Kf w.params) g₁ mg mb) : SpecOn pw w g₁ 676 (orc 13 cmS2):=by
 refine orc_on bd_hyp (show cx.fn 676 = some (fiA 676) by kernel_rfl) (λ as Hs=>Sp.of ?_) B C
 delta cmS2; apply yC.sp; intro v as; apply yByt.sp; intro D; apply yE.sp; apply yE.sp
 refine Sp.so λ k x hp=>?_
 rcases hp with ⟨h2,h3⟩ | ⟨h2,h3⟩ | ⟨h2,h3⟩
 ·exact ⟨[],90,Ch.refl _,bad_ok (i:=0) (by decide) h2 h3⟩
 ·exact ⟨[],90,Ch.refl _,bad_ok (i:=1) (by decide) h2 h3⟩
 ·exact ⟨[],90,Ch.refl _,bad_ok (i:=2) (by decide) h2 h3⟩
theorem sOr_on {g₁ : Heap} {f : Addr} {S T : Spec} (h : SpecOn pw w g₁ f S) (k : SpecOn pw w g₁ f T) : SpecOn pw w g₁ f (sOr S T):=
 ⟨λ p a b c d e f g i=>p.elim (λ p=>h.on p a b c d e f g i) λ p=>k.on p a b c d e f g i⟩
end
theorem two_run (K : V -> Hp -> Prop) (X : Nat -> Hp -> Prop) : (List.range 128).map (λ c=>runF (RO (tab []) cx 60) (fiA 903) 3 [.int (.ofNat c)] [] K X) = (List.range 128).map λ c=>K (.bytes [digH (c / 16),digH (c % 16)]) [.list [.int (.ofNat (digH (c / 16))),.int (.ofNat (digH (c % 16)))]]:=by kernel_rfl
noncomputable def twoF : List V -> Hp -> Option PT:=λ as Hs=>yC as λ v as=>yNat v λ c=>yE as <| yE Hs <| some λ K _=>c < 128 ∧ K (.bytes [digH (c / 16),digH (c % 16)]) [.list [.int (.ofNat (digH (c / 16))),.int (.ofNat (digH (c % 16)))]]
section
variable {w : World} {mg mb : Str -> Option Value}
theorem two_on {g₁ : Heap} (B : Base (Kf w.params) mg mb g₁) (C : CxOk cx pw w (Kf w.params) g₁ mg mb) : SpecOn pw w g₁ 903 (orc 4 twoF):=by
 refine orc_on hyp_nil (show cx.fn 903 = some (fiA 903) by kernel_rfl) (λ as Hs=>Sp.of ?_) B C
 delta twoF; apply yC.sp; intro v as; apply yNat.sp; intro c; apply yE.sp; apply yE.sp
 exact Sp.so λ k x hp=>⟨[],60,Ch.refl _,(at_i (two_run k x) hp.1).symm ▸ hp.2⟩
end
noncomputable def ltT : List (Addr × Spec):=[(896,orc 4 drawF),(903,orc 4 twoF)]
theorem lt_hyp {w : World} {mg mb : Str -> Option Value} : HypT w mg mb ltT:=hyp_cons (hyp_cons hyp_nil λ _ B C=>two_on B C) λ _ B C=>draw_on B C
@[irreducible] noncomputable def fO (l : List (Addr × Spec)) (n : Nat) (f : Addr) (d : Nat) (t : Expr) (k : Nat) (b : List Stmt) (φ : Nm) (H : Hp) (K : Fl -> Nm -> Hp -> Prop) (X : Nat -> Hp -> Prop) : Prop:=(RO (tab l) cx n).f ⟨(fiA f).scope,d,none⟩ φ t k b H K λ n _ H=>X n H
set_option backward.match.sparseCases false in
noncomputable def foT : List Stmt -> Expr
 | .For t _ _ _ _ :: _=>t
 | _=>default
noncomputable def foB : List Stmt -> List Stmt
 | .For _ _ b _ _ :: _=>b
 | _=>[]
noncomputable def sgK : Nat -> Nat -> List Nat -> (List Nat -> Nat -> Prop) -> Prop
 | 0,k,ts,P=>P ts k
 | m + 1,k,ts,P=>k ≤ 1000000 ∧ ∀ r : Nat,r < 26 -> match Nat.ble (97 + r) 1114111 with
  | true=>sgK m (k + 1) (ts ++ [97 + r]) P
  | false=>False
noncomputable def twK : List Nat -> Prop -> Prop
 | [],P=>P
 | t :: r,P=>t < 128 ∧ twK r P
noncomputable def strL (ts : List Nat) : List V:=ts.map λ t=>.str [t]
noncomputable def twoL (ts : List Nat) : List V:=ts.map λ t=>.bytes [48,48,digH (t / 16),digH (t % 16)]
noncomputable def two4 : List Nat -> List Nat
 | []=>[62]
 | t :: r=>48 :: 48 :: digH (t / 16) :: digH (t % 16) :: two4 r
noncomputable def entB (c : Nat) (ts : List Nat) : List Nat:=60 :: digH (c / 16) :: digH (c % 16) :: 62 :: 32 :: 60 :: two4 ts
noncomputable def ltH (k : Nat) (es : List (KV × V)) (vs : List V) (y it : MO) (G : List MO) : Hp:=.gpot 1 k :: .gcel :: .dict es :: .cell (some (.ref 0)) :: .list vs :: y :: it :: G
noncomputable def ltφ (o : Option (V × V × V)) : Nm:=(nm "pot",.cel 3) :: (nm "chars",.loc (.ref 2)) :: (nm "line",.loc (.ref 4)) :: match o with
 | none=>[]
 | some v=>[(nm "turn",.loc v.1),(nm "code",.loc v.2.1),(nm "text",.loc v.2.2)]
noncomputable def ltP (u : V) (o : Option (V × V)) : Nm:=(nm "pot",.cel 3) :: (nm "chars",.loc (.ref 2)) :: (nm "line",.loc (.ref 4)) :: (nm "turn",.loc u) :: match o with
 | none=>[]
 | some v=>[(nm "code",.loc v.1),(nm "text",.loc v.2)]
noncomputable def vsN (f : Nat -> V) (i : Nat) : List V:=(List.range (i + 1)).map f
noncomputable def ltB : List Stmt:=foB (bd 908 1)
section
variable (K : Fl -> Nm -> Hp -> Prop) (X : Nat -> Hp -> Prop) (n k c : Nat) (es : List (KV × V)) (vv : Nat -> V) (u : V) (y it z : MO) (g : Nat -> MO) (o : Option (V × V)) (a : Nat -> Nat)
theorem lt_a : (List.range 3).map (λ i=>ssO ltT (n + 60) 908 6 (ltB.take 2) (ltP u o) (ltH k es (vsN vv i) y it (lit g (5 * i))) K X) = (List.range 3).map λ i=>(k ≤ 1000000 ∧ ∀ r : Nat,r < 8 -> (k + 1 ≤ 1000000 ∧ allN 3 λ m=>sgK m (k + 1 + 1) [] λ ts k'=>
  K .next (ltP u (some (.int (.ofNat (64 + r)),.ref (7 + 5 * i + 2)))) (ltH k' es (vsN vv i) y it (lit g (5 * i) ++ [.rng 0 (.ofNat m) 1,.gone,.list (strL ts)])))):=by cases o <;> kernel_rfl
theorem lt_b : (List.range 9).map (λ j=>ssO ltT (n + 60) 908 6 (ltB.drop 2) (ltP u (some (.int (.ofNat c),.ref (7 + 5 * (j / 3) + 2)))) (ltH k es (vsN vv (j / 3)) y it (lit g (5 * (j / 3)) ++ [z,.gone,.list (strL ((List.range (j % 3)).map a))])) K X) =
  (List.range 9).map λ j=>optK False (dsetM [] (.dict es) (.int (.ofNat c)) (.str ((List.range (j % 3)).map a))) λ e=>c < 128 ∧ twK ((List.range (j % 3)).map a) (K .next (ltP u (some (.int (.ofNat c),.ref (7 + 5 * (j / 3) + 2)))) (.gpot 1 k :: .gcel :: e :: .cell (some (.ref 0)) :: .list (vsN vv (j / 3) ++ [.bytes (entB c ((List.range (j % 3)).map a))]) :: y :: it :: (lit g (5 * (j / 3)) ++ [z,.gone,.list (strL ((List.range (j % 3)).map a)),.gone,.list (twoL ((List.range (j % 3)).map a))]))):=by kernel_rfl
theorem lt_0 : ssO ltT (n + 60) 908 6 ((bd 908 0).take 1) [(nm "pot",.cel 3),(nm "chars",.loc (.ref 2))] [.gpot 1 k,.gcel,.dict es,.cell (some (.ref 0))] K X = K .next (ltφ none) [.gpot 1 k,.gcel,.dict es,.cell (some (.ref 0)),.list [.bytes (flatI cmI)]]:=by kernel_rfl
theorem lt_1 : ssO ltT (n + 61) 908 6 (bd 908 1) (ltφ none) [.gpot 1 k,.gcel,.dict es,.cell (some (.ref 0)),.list [.bytes (flatI cmI)]] K X = (k ≤ 1000000 ∧ allN 4 λ m=>fO ltT (n + 60) 908 6 (foT (bd 908 1)) 6 ltB (ltφ none) (ltH (k + 1) es [.bytes (flatI cmI)] (.rng 0 (.ofNat m) 1) (.ritr 0 (.ofNat m) 1) []) (thenO ltT (n + 61) 908 6 (bd 908 2) X K) X):=by kernel_rfl
noncomputable def p6 : List (Nat × Nat):=[(0,0),(0,1),(0,2),(1,0),(1,1),(2,0)]
@[irreducible] noncomputable def fK (l : List (Addr × Spec)) (n : Nat) (f : Addr) (d : Nat) (t : Expr) (k : Nat) (b : List Stmt) (K : Fl -> Nm -> Hp -> Prop) (X : Nat -> Hp -> Prop) : Fl -> Nm -> Hp -> Prop:=λ fl φ' H2=>match fl with
 | .next=>fO l n f d t k b φ' H2 K X
 | .cont=>fO l n f d t k b φ' H2 K X
 | .brk=>K .next φ' H2
 | .ret v=>K (.ret v) φ' H2
theorem fK_next {l : List (Addr × Spec)} {n f d k : Nat} {t : Expr} {b : List Stmt} {φ : Nm} {H : Hp} {K : Fl -> Nm -> Hp -> Prop} {X : Nat -> Hp -> Prop} : fK l n f d t k b K X .next φ H = fO l n f d t k b φ H K X:=by with_unfolding_all rfl
theorem lt_h (v : Option (V × V × V)) : p6.map (λ q=>fO ltT (n + 61) 908 6 (foT (bd 908 1)) 6 ltB (ltφ v) (ltH k es (vsN vv q.1) y (.ritr (.ofNat q.1) (.ofNat (q.2 + 1)) 1) (lit g (5 * q.1))) K X) =
  p6.map λ q=>ssO ltT (n + 60) 908 6 ltB (ltP (.int (.ofNat q.1)) (v.map (·.2))) (ltH k es (vsN vv q.1) y (.ritr (.ofNat (q.1 + 1)) (.ofNat q.2) 1) (lit g (5 * q.1))) (fK ltT (n + 60) 908 6 (foT (bd 908 1)) 6 ltB K X) X:=by cases v <;> kernel_rfl
theorem lt_x (v : Option (V × V × V)) : (List.range 4).map (λ i=>fO ltT (n + 61) 908 6 (foT (bd 908 1)) 6 ltB (ltφ v) (ltH k es (vsN vv i) y (.ritr (.ofNat i) 0 1) (lit g (5 * i))) K X) =
  (List.range 4).map λ i=>K .next (ltφ v) (ltH k es (vsN vv i) y .gone (lit g (5 * i))):=by cases v <;> kernel_rfl
noncomputable def bbL (bb : Nat -> List Nat) (i : Nat) : List (List Nat):=(List.range (i + 1)).map bb ++ [endW]
theorem lt_r (bb : Nat -> List Nat) (v : Option (V × V × V)) : (List.range 4).map (λ i=>ssO ltT (n + 61) 908 6 (bd 908 2) (ltφ v) (ltH k es (vsN (λ j=>.bytes (bb j)) i) y .gone (lit g (5 * i))) K X) =
  (List.range 4).map λ i=>optK False (match Nat.ble (sumL (bbL bb i) + (bbL bb i).length * 1) 1000000 with
   | true=>some (V.bytes (joinA [10] (bbL bb i)),ltH k es (vsN (λ j=>.bytes (bb j)) i) y .gone (lit g (5 * i) ++ [.list [.bytes endW],.list ((bbL bb i).map .bytes)]))
   | false=>none) λ r=>K (.ret r.1) (ltφ v) r.2:=by cases v <;> kernel_rfl
theorem lt_en : enterM (fiA 908) [.ref 0,.ref 2] [.gpot 1 k,.gcel,.dict []] = some ([(nm "pot",.cel 3),(nm "chars",.loc (.ref 2))],[.gpot 1 k,.gcel,.dict [],.cell (some (.ref 0))]):=by kernel_rfl
end
theorem allN_of {P : Nat -> Prop} : ∀ {n : Nat},(∀ r : Nat,r < n -> P r) -> allN n P:=by
 intro l_
 induction l_ with
 | zero=>
  intro _
  exact trivial
 | succ n ih_=>
  intro h
  exact ⟨h n (Nat.lt_succ_self n),ih_ λ r hr=>h r (Nat.lt_succ_of_lt hr)⟩
theorem sgK_ok {P : List Nat -> Nat -> Prop} : ∀ {m k : Nat} {ts : List Nat},k + m ≤ 1000000 -> (∀ c ∈ ts,97 ≤ c ∧ c < 123) -> (∀ ts' k',ts'.length = ts.length + m -> (∀ c ∈ ts',97 ≤ c ∧ c < 123) -> k' = k + m -> P ts' k') -> sgK m k ts P
 | 0,k,ts,_,hc,h=>h ts k rfl hc rfl
 | m + 1,k,ts,hk,hc,h=>by
  refine ⟨by lia,λ r hr=>?_⟩
  rw [Nat.ble_eq_true_of_le (by lia)]
  refine sgK_ok (m:=m) (k:=k + 1) (by lia) (λ c h=>?_) λ ts' k' h1 h2 h3=>h ts' k' (by simp only [h1,List.length_append]; simp; simp +arith) h2 (by lia)
  rcases List.mem_append.mp h with h | h
  ·exact hc c h
  ·refine (List.mem_singleton.mp h) ▸ ?_; lia
theorem twK_ok {P : Prop} (h : P) : ∀ {ts : List Nat},(∀ c ∈ ts,97 ≤ c ∧ c < 123) -> twK ts P:=by
 intro l_
 induction l_ with
 | nil=>
  intro _
  exact h
 | cons t r ih_=>
  intro hc
  exact ⟨by have:=hc t (.head _); lia,ih_ λ c k=>hc c (.tail _ k)⟩
noncomputable def kvE (e : Nat × List Nat) : KV × V:=(.int (.ofNat e.1),.str e.2)
set_option backward.match.sparseCases false in
theorem dput_putN (e : Nat × List Nat) : ∀ es : List (Nat × List Nat),dput (.int (.ofNat e.1)) (.str e.2) (es.map kvE) = (putN e es).map kvE:=by
 intro l_
 induction l_ with
 | nil=>
  exact rfl
 | cons f r ih_=>
  dsimp only [dput,putN]
  have : kvEq (kvE f).1 (.int (.ofNat e.1)) = decide (f.1 = e.1):=by
   rw [kvEq_eq]
   dsimp only [kvE]
   by_cases h : f.1 = e.1
   ·simp [h]
   ·simp [h]; exact decide_eq_false λ q=>h (by injection q; lia)
  show (match kvEq (kvE f).1 (.int (.ofNat e.1)) with
   | true=>_
   | false=>_) = _
  rw [this]
  cases decide (f.1 = e.1) with
  | true=>rfl
  | false=>simp only [ih_]; rfl
theorem ddN_snoc (ps : List (Nat × List Nat)) (e : Nat × List Nat) : ddN (ps ++ [e]) = putN e (ddN ps):=by unfold ddN; refine List.foldl_append.trans ?_; rfl
noncomputable def okPs (ps : List (Nat × List Nat)) : Prop:=∀ e ∈ ps,(64 ≤ e.1 ∧ e.1 < 72) ∧ okTx e.2
noncomputable def vsP (ps : List (Nat × List Nat)) : List (List Nat):=flatI cmI :: ps.map λ e=>entB e.1 e.2
theorem two4_eq : ∀ ts : List Nat,two4 ts = hexL (oct2 ts) ++ [62]:=by
 intro l_
 induction l_ with
 | nil=>
  exact rfl
 | cons t r ih_=>
  show 48 :: 48 :: digH (t / 16) :: digH (t % 16) :: two4 r = _
  refine ih_ ▸ ?_; rfl
theorem join_cons (a : List Nat) : ∀ l : List (List Nat),joinA [10] (a :: l) = a ++ l.flatMap (10 :: ·)
 | []=>(List.append_nil a).symm
 | b :: r=>by
  show a ++ ([10] ++ joinA [10] (b :: r)) = _
  refine (join_cons b r) ▸ ?_; rfl
theorem flatI_app : ∀ a b : List It,flatI (a ++ b) = flatI a ++ flatI b:=by
 intro l_
 induction l_ with
 | nil=>
  intro _
  exact rfl
 | cons z1_ r ih_=>
  intro b
  cases z1_ with
  | b c=>
   show c :: flatI (r ++ b) = _; rw [ih_ b]; rfl
  | hex l=>
   show 60 :: (hexL l ++ 62 :: flatI (r ++ b)) = _; rw [ih_ b]; simp [flatI]
  | hx l=>
   show hexL l ++ 62 :: flatI (r ++ b) = _; rw [ih_ b]; simp [flatI]
theorem join_its (ps : List (Nat × List Nat)) : joinA [10] (vsP ps ++ [endW]) = flatI (cmI ++ itsT (encP ps)):=by
 unfold vsP
 simp only [List.cons_append,join_cons,flatI_app]
 congr 1
 induction ps with
 | nil=>rfl
 | cons e r ih=>
  simp only [List.map_cons,List.cons_append,List.flatMap_cons,ih]
  show (10 :: 60 :: digH (e.1 / 16) :: digH (e.1 % 16) :: 62 :: 32 :: 60 :: two4 e.2) ++ _ = 10 :: 60 :: digH (e.1 / 16) :: digH (e.1 % 16) :: 62 :: 32 :: 60 :: (hexL (oct2 e.2) ++ 62 :: flatI (itsT (encP r)))
  rw [two4_eq]
  simp
theorem ddN_le (ps : List (Nat × List Nat)) : (ddN ps).length ≤ ps.length:=by
 suffices ∀ (ps es : List (Nat × List Nat)),(ps.foldl (λ es e=>putN e es) es).length ≤ es.length + ps.length from by have:=this ps []; simp only [List.length_nil] at this; unfold ddN; lia
 intro ps
 induction ps with
 | nil=>intro es; exact Nat.le_refl _
 | cons e r ih=>
  intro es
  have h1:=ih (putN e es)
  have h2:=ddN_len (e:=e) (es:=es)
  simp only [List.foldl_cons,List.length_cons]
  lia
theorem vs_of {vs : List V} {n : Nat} (h : vs.length = n + 1) : vs = vsN (λ j=>vs.getD j .none) n:=by
 unfold vsN; refine h ▸ ?_; exact (range_getD .none vs).symm
theorem ts_of {ts : List Nat} {n : Nat} (h : ts.length = n) : ts = (List.range n).map λ j=>ts.getD j 0:=by
 simp only [<- h]; exact (range_getD 0 ts).symm
noncomputable def vsV (ps : List (Nat × List Nat)) : List V:=(vsP ps).map .bytes
theorem vsV_len (ps : List (Nat × List Nat)) : (vsV ps).length = ps.length + 1:=by delta vsV vsP; simp
noncomputable def ltS (k : Nat) (ps : List (Nat × List Nat)) (y it : MO) (G : List MO) : Hp:=ltH k ((ddN ps).map kvE) (vsV ps) y it G
theorem lt_turn {K : Fl -> Nm -> Hp -> Prop} {X : Nat -> Hp -> Prop} {n k : Nat} {ps : List (Nat × List Nat)} {G : List MO} {y it : MO} {u : V} {o : Option (V × V)} (hi : ps.length < 3) (hG : G.length = 5 * ps.length) (hk : k + 4 ≤ 1000000)
  (h : ∀ e v k' x1 x2 x3 x4 x5,((64 ≤ e.1 ∧ e.1 < 72) ∧ okTx e.2) -> k' ≤ k + 4 -> K .next (ltφ (some (u,v))) (ltS k' (ps ++ [e]) y it (G ++ [x1,x2,x3,x4,x5]))) :
  ssO ltT (n + 60) 908 6 ltB (ltP u o) (ltS k ps y it G) K X:=by
 have hg:=lit_of hG
 have hv:=vs_of (vsV_len ps)
 rw [ss_cut 2]
 have ha:=at_i (lt_a (thenO ltT (n + 60) 908 6 (ltB.drop 2) X K) X n k ((ddN ps).map kvE) (λ j=>(vsV ps).getD j .none) u y it (λ j=>G.getD j .gone) o) hi
 rw [<- hg,<- hv] at ha
 unfold ltS
 simp only [ha]
 refine ⟨by lia,λ r hr=>⟨by lia,allN_of λ m hm=>sgK_ok (by lia) (λ c h=>nomatch h) λ ts k' h1 h2 h3=>?_⟩⟩
 have hm2 : ts.length = m:=by rw [h1]; simp
 have ht:=ts_of hm2
 have hb:=at_i (lt_b K X n k' (64 + r) ((ddN ps).map kvE) (λ j=>(vsV ps).getD j .none) u y it (.rng 0 (.ofNat m) 1) (λ j=>G.getD j .gone) (λ j=>ts.getD j 0)) (show 3 * ps.length + m < 9 by lia)
 rw [show (3 * ps.length + m) / 3 = ps.length from by omega,show (3 * ps.length + m) % 3 = m from by omega,<- hg,<- hv,<- ht] at hb
 simp only [then_next,hb]
 have hd : dsetM [] (.dict ((ddN ps).map kvE)) (.int (.ofNat (64 + r))) (.str ts) = some (.dict ((ddN (ps ++ [(64 + r,ts)])).map kvE)):=by
  have:=ddN_le ps
  dsimp only [dsetM]
  dsimp only [keyOf]
  rw [List.length_map,Nat.ble_eq_true_of_le (by lia),ddN_snoc,dput_putN (64 + r,ts)]
  rfl
 simp only [hd,optK_val]
 refine ⟨by omega,twK_ok ?_ h2⟩
 have hz : vsV ps ++ [.bytes (entB (64 + r) ts)] = vsV (ps ++ [(64 + r,ts)]):=by delta vsV vsP; simp
 simp only [hz]
 exact h (64 + r,ts) _ k' _ _ _ _ _ ⟨⟨Nat.le_add_right _ _,show 64 + r < 72 by omega⟩,show ts.length ≤ 2 by lia,h2⟩ (by lia)
theorem p6_all : (List.range 3).map (λ i=>(List.range 3).map λ l=>!(Nat.blt (i + l) 3) || p6.any λ p=>Nat.beq p.1 i && Nat.beq p.2 l) = (List.range 3).map λ _=>(List.range 3).map λ _=>true:=by kernel_rfl
theorem p6_mem {i l : Nat} (h : i + l < 3) : (i,l) ∈ p6:=by
 have h2:=at_i (at_i p6_all (Nat.lt_of_le_of_lt (Nat.le_add_right i l) h)) (Nat.lt_of_le_of_lt (Nat.le_add_left l i) h)
 replace h2:=(show Nat.blt (i + l) 3 = true from Nat.ble_eq_true_of_le h) ▸ h2
 obtain ⟨p,hp,hq⟩:=List.any_eq_true.mp h2
 simp only [Bool.and_eq_true] at hq
 have e1:=Nat.eq_of_beq_eq_true hq.1
 have e2:=Nat.eq_of_beq_eq_true hq.2
 subst e1 e2
 exact hp
theorem lt_loop {K : Fl -> Nm -> Hp -> Prop} {X : Nat -> Hp -> Prop} {n kk : Nat} (hK : ∀ ps k y G v,ps.length ≤ 3 -> okPs ps -> k ≤ kk -> G.length = 5 * ps.length -> K .next (ltφ v) (ltS k ps y .gone G)) : ∀ (left : Nat) (ps : List (Nat × List Nat)) (k : Nat) (G : List MO) (y : MO) (v : Option (V × V × V)),ps.length + left ≤ 3 -> G.length = 5 * ps.length -> okPs ps -> k + 4 * left ≤ kk -> kk ≤ 1000000 ->
  fO ltT (n + 61 + left) 908 6 (foT (bd 908 1)) 6 ltB (ltφ v) (ltS k ps y (.ritr (.ofNat ps.length) (.ofNat left) 1) G) K X:=by
 intro l_
 induction l_ with
 | zero=>
  intro ps k G y v h1 hG ho hk hkk
  have hg:=lit_of hG
  have hv:=vs_of (vsV_len ps)
  have:=at_i (lt_x K X n k ((ddN ps).map kvE) (λ j=>(vsV ps).getD j .none) y (λ j=>G.getD j .gone) v) (show ps.length < 4 by lia)
  rw [<- hg,<- hv] at this
  exact Eq.mpr this (hK ps k y G v (by omega) ho (by omega) hG)
 | succ left ih_=>
  intro ps k G y v h1 hG ho hk hkk
  have hg:=lit_of hG
  have hv:=vs_of (vsV_len ps)
  have hm : (ps.length,left) ∈ p6:=p6_mem (by assumption)
  have:=List.map_inj_left.mp (lt_h K X (n + left + 1) k ((ddN ps).map kvE) (λ j=>(vsV ps).getD j .none) y (λ j=>G.getD j .gone) v) _ hm
  dsimp only at this
  rw [<- hg,<- hv] at this
  rw [show n + 61 + (left + 1) = n + left + 1 + 61 from by simp +arith]
  refine Eq.mpr this (lt_turn (k:=k) (by lia) hG (by lia) λ e w k' x1 x2 x3 x4 x5 he hk'=>?_)
  rw [fK_next,show n + left + 1 + 60 = n + 61 + left from by simp +arith]
  have:=ih_ (ps ++ [e]) k' (G ++ [x1,x2,x3,x4,x5]) y (some (.int (.ofNat ps.length),w)) (by simp; lia) (by simp [hG]; rfl) (λ x hx=>(List.mem_append.mp hx).elim (ho x) λ hx=>List.mem_singleton.mp hx ▸ he) (by lia) hkk
  replace this:=(show (ps ++ [e]).length = ps.length + 1 from by simp) ▸ this
  exact this
noncomputable def ddI (ps : List (Nat × List Nat)) : List (Int × List Nat):=(ddN ps).map λ e=>(.ofNat e.1,e.2)
noncomputable def ltF : List V -> Hp -> Option PT:=λ as Hs=>yC as λ v as=>yRef v 0 <| yC as λ v as=>yRef v 2 <| yE as <| yC Hs λ h Hs=>oPot h 1 λ k=>yC Hs λ h Hs=>oGc h <| yC Hs λ h Hs=>oDic h λ es=>yE es <| yE Hs <| some λ K _=>k + 13 ≤ 1000000 ∧ ∀ ps,ps.length ≤ 3 -> okPs ps -> (flatI (cmI ++ itsT (encP ps))).length ≤ 1000000 -> ∀ T : Hp,K (.bytes (flatI (cmI ++ itsT (encP ps)))) (.gpot 1 (k + 13) :: .gcel :: .rf (.dic (ddI ps)) :: T)
theorem len_entB {e : Nat × List Nat} (h : okTx e.2) : (entB e.1 e.2).length ≤ 16:=by
 have : ∀ ts : List Nat,(two4 ts).length = 4 * ts.length + 1:=λ ts=>by
  induction ts with
  | nil=>rfl
  | cons t r ih=>show (two4 r).length + 1 + 1 + 1 + 1 = _; simp only [ih,List.length_cons]; rfl
 have h2:=h.1
 show (two4 e.2).length + 6 ≤ 16
 rw [this]
 lia
theorem sum_vsP {ps : List (Nat × List Nat)} (h : okPs ps) : sumL ((ps.map λ e=>entB e.1 e.2) ++ [endW]) ≤ 16 * ps.length + 9:=by
 induction ps with
 | nil=>exact Nat.le_refl _
 | cons e r ih=>
  have h1:=ih λ x hx=>h x (.tail _ hx)
  have h2:=len_entB (h e (.head _)).2
  show (entB e.1 e.2).length + sumL ((r.map λ e=>entB e.1 e.2) ++ [endW]) ≤ _
  simp only [List.length_cons]
  lia
theorem cmI_len : (flatI cmI).length = 63:=by kernel_rfl
theorem lt_ok {K : V -> Hp -> Prop} {X : Nat -> Hp -> Prop} {k : Nat} (hk : k + 13 ≤ 1000000) (h : ∀ ps,ps.length ≤ 3 -> okPs ps -> (flatI (cmI ++ itsT (encP ps))).length ≤ 1000000 -> ∀ T : Hp,K (.bytes (flatI (cmI ++ itsT (encP ps)))) (.gpot 1 (k + 13) :: .gcel :: .rf (.dic (ddI ps)) :: T)) :
  runF (RO (tab ltT) cx 70) (fiA 908) 6 [.ref 0,.ref 2] [.gpot 1 k,.gcel,.dict []] (λ v H2=>∃ H2',Wk H2' H2 ∧ K v H2') X:=by
 rw [enter_eq (lt_en k),ss_cut 1,bd_d,show 70 = 10 + 60 from rfl,lt_0,then_next,show 10 + 60 = 9 + 61 from rfl,show 0 + 1 = 1 from rfl,lt_1]
 refine ⟨by lia,allN_of λ m hm=>?_⟩
 have:=lt_loop (n:=8 - m) (K:=thenO ltT (9 + 61) 908 6 (bd 908 2) X (endF λ v H2=>∃ H2',Wk H2' H2 ∧ K v H2')) (X:=X) (kk:=k + 13) (λ ps k' y G v h1 h2 h3 hG=>?_) m [] (k + 1) [] (.rng 0 (.ofNat m) 1) none (by simp; exact Nat.le_of_succ_le_succ ‹_›) rfl (λ e he=>nomatch he) (by lia) hk
 ·rw [show 8 - m + 61 + m = 9 + 60 from by lia] at this
  exact this
 ·have hg:=lit_of hG
  have hb : vsV ps = vsN (λ j=>.bytes ((vsP ps).getD j [])) ps.length:=by
   have e : ps.length + 1 = (vsP ps).length:=by unfold vsP; simp
   unfold vsN
   simp only [show vsV ps = (vsP ps).map V.bytes from rfl,e]
   conv=>lhs; rw [<- range_getD [] (vsP ps)]
   rw [List.map_map]
   rfl
  have hbb : bbL (λ j=>(vsP ps).getD j []) ps.length = vsP ps ++ [endW]:=by
   unfold bbL
   have e : ps.length + 1 = (vsP ps).length:=by unfold vsP; simp
   simp only [e,range_getD]
  have:=at_i (lt_r (endF λ v H2=>∃ H2',Wk H2' H2 ∧ K v H2') X 9 k' ((ddN ps).map kvE) y (λ j=>G.getD j .gone) (λ j=>(vsP ps).getD j []) v) (show ps.length < 4 by lia)
  rw [<- hg,<- hb,hbb] at this
  simp only [then_next]
  refine Eq.mpr this ?_
  have hs : sumL (vsP ps ++ [endW]) + (vsP ps ++ [endW]).length * 1 ≤ 1000000:=by
   have:=sum_vsP h2
   have e : (vsP ps ++ [endW]).length = ps.length + 2:=by unfold vsP; simp
   have e2 : sumL (vsP ps ++ [endW]) = 63 + sumL ((ps.map λ e=>entB e.1 e.2) ++ [endW]):=by
    show (flatI cmI).length + sumL ((ps.map λ e=>entB e.1 e.2) ++ [endW]) = _
    rw [cmI_len]
   lia
  simp only [Nat.ble_eq_true_of_le hs,optK_val,join_its]
  have hlen : (flatI (cmI ++ itsT (encP ps))).length ≤ 1000000:=by
   rw [<- join_its]
   have : ∀ l : List (List Nat),(joinA [10] l).length ≤ sumL l + l.length * 1:=λ l=>by
    induction l with
    | nil=>exact Nat.le_refl _
    | cons a r ih=>
     cases r with
     | nil=>show a.length ≤ a.length + 0 + 1 * 1; exact Nat.le_add_right _ _
     | cons b r=>
      show (a ++ ([10] ++ joinA [10] (b :: r))).length ≤ a.length + sumL (b :: r) + ((b :: r).length + 1) * 1
      simp only [List.length_append,List.length_append]
      simp only [List.length_cons,List.length_nil] at ih ⊢
      lia
   exact Nat.le_trans (this _) hs
  refine ⟨_,.cons (.pot h3) (.cons (.refl _) (.cons ?_ (Wk.refl _))),h ps h1 h2 hlen _⟩
  have e : (ddN ps).map kvE = (ddI ps).map λ p=>(.int p.1,.str p.2):=by unfold ddI; simp only [List.map_map]; rfl
  rw [e]
  exact .rf (.dic (ddI ps))
section
variable {w : World} {mg mb : Str -> Option Value}
theorem lt_on {g₁ : Heap} (B : Base (Kf w.params) mg mb g₁) (C : CxOk cx pw w (Kf w.params) g₁ mg mb) : SpecOn pw w g₁ 908 (orc 7 ltF):=by
 refine orcW_on lt_hyp (show cx.fn 908 = some (fiA 908) by kernel_rfl) (λ as Hs=>Sp.of ?_) B C
 delta ltF; apply yC.sp; intro v as; apply yRef.sp; apply yC.sp; intro v as; apply yRef.sp; apply yE.sp; apply yC.sp; intro h Hs; apply oPot.sp; intro k; apply yC.sp; intro h Hs; apply oGc.sp; apply yC.sp; intro h Hs; apply oDic.sp; intro es; apply yE.sp; apply yE.sp
 exact Sp.so λ k x hp=>⟨70,lt_ok hp.1 hp.2⟩
end
noncomputable def nrm : Nat -> Nat -> Nat × Nat
 | 0,t=>(t,0)
 | p + 1,t=>match Nat.beq (t % 10) 0 with
  | true=>nrm p (t / 10)
  | false=>(t,p + 1)
noncomputable def dcφ (t p : Int) : Nm:=[(nm "self",.loc (.ref 0)),(nm "top",.loc (.int t)),(nm "places",.loc (.int p))]
noncomputable def dcH (fs : List (Str × V)) : Hp:=[.inst 167 1,.flds fs]
section
variable (K : Fl -> Nm -> Hp -> Prop) (KT : Bool -> Hp -> Prop) (X : Nat -> Hp -> Prop) (n : Nat) (t p : Int)
theorem dc_en : enterM (fiA 87) [.ref 0,.int t,.int p] (dcH []) = some (dcφ t p,dcH []):=by kernel_rfl
theorem dc_wh : bd 87 0 = .While (whT (bd 87 0)) (whB (bd 87 0)) [] (whP (bd 87 0)) :: bd 87 1:=by kernel_rfl
theorem dc_t : tO' [] (n + 40) 87 3 (whT (bd 87 0)) (dcφ t p) (dcH []) KT X = match decide (p > 0) with
 | true=>(match Int.fmod t 10 == 0 with
  | true=>KT true (dcH [])
  | false=>KT false (dcH []))
 | false=>KT false (dcH []):=by kernel_rfl
theorem dc_b : ssO [] (n + 40) 87 3 (whB (bd 87 0)) (dcφ t p) (dcH []) K X = K .next (dcφ (Int.fdiv t 10) (p - 1)) (dcH []):=by kernel_rfl
theorem dc_e : ssO [] (n + 40) 87 3 (bd 87 1) (dcφ t p) (dcH []) K X = K .next (dcφ t p) (dcH [(nm "top",.int t),(nm "places",.int p)]):=by kernel_rfl
end
theorem dc_loop {K : Fl -> Nm -> Hp -> Prop} {X : Nat -> Hp -> Prop} {n : Nat} : ∀ (p t : Nat),(∀ t' p',(t',p') = nrm p t -> K .next (dcφ (.ofNat t') (.ofNat p')) (dcH [])) -> wO [] (n + 41 + p) 87 3 (whT (bd 87 0)) (whB (bd 87 0)) (dcφ (.ofNat t) (.ofNat p)) (dcH []) K X:=by
 intro l_
 induction l_ with
 | zero=>
  intro t h
  rw [show n + 41 + 0 = n + 40 + 1 from rfl,while_off (H':=dcH []) λ KT=>?_]
  ·exact h t 0 rfl
  ·rw [dc_t]; rfl
 | succ p ih_=>
  intro t h
  have hp : decide ((Int.ofNat (p + 1)) > 0) = true:=decide_eq_true (by simp)
  have hm : (Int.fmod (.ofNat t) 10 == 0) = Nat.beq (t % 10) 0:=by
   rw [show (10 : Int) = .ofNat 10 from rfl,fmod_nat]
   cases q : Nat.beq (t % 10) 0 with
   | true=>rw [Nat.eq_of_beq_eq_true q]; rfl
   | false=>
    have:=Nat.ne_of_beq_eq_false q
    rw [beq_eq_false_iff_ne]
    intro e
    exact this (Int.ofNat.inj e)
  refine (show n + 41 + (p + 1) = n + p + 1 + 40 + 1 from by simp +arith) ▸ ?_
  dsimp only [nrm] at h
  cases q : Nat.beq (t % 10) 0 with
  | true=>
   rw [q] at h hm
   rw [while_on (H':=dcH []) (λ KT=>by simp only [dc_t,hp,hm]) (λ KB=>dc_b KB X (n + p + 1) _ _),show (10 : Int) = .ofNat 10 from rfl,fdiv_nat,show Int.ofNat (p + 1) - 1 = .ofNat p from by simp,show n + p + 1 + 40 = n + 41 + p from by simp +arith]
   exact ih_ (t / 10) h
  | false=>
   rw [q] at h hm
   rw [while_off (H':=dcH []) λ KT=>by simp only [dc_t,hp,hm]]
   exact h t (p + 1) rfl
noncomputable def dcF : List V -> Hp -> Option PT:=λ as Hs=>yC as λ v as=>yRef v 0 <| yC as λ v as=>yNat v λ t=>yC as λ v as=>yNat v λ p=>yE as <| yC Hs λ h Hs=>oInst h 167 1 <| yC Hs λ h Hs=>oFls h λ es=>yE es <| yE Hs <| some λ K _=>K .none (dcH [(nm "top",.int (.ofNat (nrm p t).1)),(nm "places",.int (.ofNat (nrm p t).2))])
section
variable {w : World} {mg mb : Str -> Option Value}
theorem dc_on {g₁ : Heap} (B : Base (Kf w.params) mg mb g₁) (C : CxOk cx pw w (Kf w.params) g₁ mg mb) : SpecOn pw w g₁ 87 (orc 4 dcF):=by
 refine orc_on hyp_nil (show cx.fn 87 = some (fiA 87) by kernel_rfl) (λ as Hs=>Sp.of ?_) B C
 delta dcF; apply yC.sp; intro v as; apply yRef.sp; apply yC.sp; intro v as; apply yNat.sp; intro t; apply yC.sp; intro v as; apply yNat.sp; intro p; apply yE.sp; apply yC.sp; intro h Hs; apply oInst.sp; apply yC.sp; intro h Hs; apply oFls.sp; intro es; apply yE.sp; apply yE.sp
 refine Sp.so λ k x hp=>⟨_,0 + 41 + p + 1,Ch.refl _,?_⟩
 rw [show ([.inst 167 1,.flds []] : Hp) = dcH [] from rfl,enter_eq (dc_en _ _),dc_wh,while_eq]
 refine dc_loop p t λ t' p' e=>?_
 rw [then_next,show 0 + 41 + p + 1 = p + 2 + 40 from by simp +arith,dc_e]
 replace hp:=e ▸ hp
 exact hp
end
theorem cut_val {v : V} {H : Hp} (h : ∀ r,renV r v = some v) : Cut 0 v H v []:=⟨[],[],⟨List.nodup_nil,rfl,λ j n h=>nomatch h⟩,h _,.nil⟩
theorem cut_list {n : Nat} {H : Hp} {l : List (List Nat)} (h : H[n]? = some (.list (l.map .str))) : Cut 0 (.ref n) H (.ref 0) [.rf (.strs l)]:=by
 refine ⟨[n],[.list (l.map .str)],⟨List.nodup_cons.mpr ⟨λ h=>(nomatch h),List.nodup_nil⟩,rfl,λ j m e=>?_⟩,?_,.cons (.rf (.strs l)) .nil⟩
 ·have : j = 0 ∧ n = m:=by
   cases j with
   | zero=>cases e; exact ⟨rfl,rfl⟩
   | succ j=>cases e
  obtain ⟨rfl,rfl⟩:=this
  refine ⟨_,.list (l.map .str),h,rfl,?_,rfl⟩
  have : ∀ r l,mapO (renV r) (List.map V.str l) = some (List.map V.str l):=λ r l=>by
   induction l with
   | nil=>rfl
   | cons a l ih=>rw [List.map_cons]; dsimp only [mapO]; refine ih ▸ ?_; rfl
  show Option.map MO.list (mapO (renV _) (l.map V.str)) = _
  rw [this]
  rfl
 ·show (match idx n ([] ++ [n]) 0 with
   | some m=>some (V.ref m)
   | none=>none) = _
  show (match (match Nat.beq n n with | true=>some 0 | false=>_) with
   | some m=>some (V.ref m)
   | none=>none) = _
  rw [Nat.beq_refl]
noncomputable def gT : List (List Nat × List Nat):=[([97,116],[64]),([65],[65]),([66],[66]),([67],[67]),([68],[68]),([69],[69]),([70],[70]),([71],[71]),([69,117,114,111],[8364]),([110,111,116,104,105,110,103],[]),([117,110,105,48,48,54,50],[98])]
theorem gl_run : gT.map (λ e=>runF (RO (tab []) cx 300) (fiA 745) 8 [.str e.1] [] (λ v _=>v = .str e.2) (λ _ _=>False)) = gT.map λ e=>(V.str e.2 = V.str e.2):=by kernel_rfl
noncomputable def glF : List V -> Hp -> Option PT:=λ as Hs=>yC as λ v as=>yStr v λ x=>yE as <| yE Hs <| some λ K _=>∃ y,(x,y) ∈ gT ∧ K (.str y) []
noncomputable def outL (v : V) (H : Hp) : Option (List (List Nat)):=match v with
 | .ref n=>match H[n]? with
  | some (.list vs)=>strsOf vs
  | _=>none
 | _=>none
noncomputable def winS : List Nat:=[87,105,110,65,110,115,105,69,110,99,111,100,105,110,103]
noncomputable def winO : Option (List (List Nat)):=(R (Ω:=Option (List (List Nat))) none cx 600).c 9 none (.top (.ref 702)) [.str winS] [] outL λ _ _=>none
noncomputable def winL : List (List Nat):=winO.getD []
theorem win_run : runF (RO (tab []) cx 600) (fiA 702) 8 [.str winS] [] (λ v H=>outL v H = winO) (λ _ _=>False) = (winO = winO):=by kernel_rfl
theorem win_at : (winO.isSome,(List.range 8).map (λ r=>winL[64 + r]?),Nat.ble 72 winL.length,Nat.ble winL.length 1000) = (true,[some [97,116],some [65],some [66],some [67],some [68],some [69],some [70],some [71]],true,true):=by kernel_rfl
theorem strsOf_map : ∀ {vs : List V} {l : List (List Nat)},strsOf vs = some l -> vs = l.map .str:=by
 intro l_
 induction l_ with
 | nil=>
  intro _ h
  obtain rfl:=Option.some.inj h; rfl
 | cons v r ih_=>
  intro l h
  cases v with
  | str x=>
   obtain ⟨l',h1,h2⟩:=Option.map_eq_some_iff.mp (show (strsOf r).map (x :: ·) = some l from h)
   simp only [ih_ h1,<- h2]
   rfl
  | _=>cases h
theorem outL_at {v : V} {H : Hp} {l : List (List Nat)} (h : outL v H = some l) : ∃ n,v = .ref n ∧ H[n]? = some (.list (l.map .str)):=by
 cases v with
 | ref n=>
  refine ⟨n,rfl,?_⟩
  have h : (match H[n]? with
   | some (.list vs)=>strsOf vs
   | _=>none) = some l:=h
  cases e : H[n]? with
  | none=>replace h:=e ▸ h; cases h
  | some o=>
   replace h:=e ▸ h
   cases o with
   | list vs=>exact (strsOf_map h) ▸ rfl
   | _=>cases h
 | _=>cases h
noncomputable def bnF : List V -> Hp -> Option PT:=λ as Hs=>yC as λ v as=>yStr v λ x=>yE as <| yE Hs <| some λ K _=>x = winS ∧ K (.ref 0) [.rf (.strs winL)]
section
variable {w : World} {mg mb : Str -> Option Value}
theorem gl_on {g₁ : Heap} (B : Base (Kf w.params) mg mb g₁) (C : CxOk cx pw w (Kf w.params) g₁ mg mb) : SpecOn pw w g₁ 745 (orc 9 glF):=by
 refine orcC_on hyp_nil (show cx.fn 745 = some (fiA 745) by kernel_rfl) (λ as Hs=>Sp.of ?_) B C
 delta glF; apply yC.sp; intro v as; apply yStr.sp; intro x; apply yE.sp; apply yE.sp
 refine Sp.so λ k _ hp=>?_
 obtain ⟨y,hy,hk⟩:=hp
 exact ⟨300,_,Eq.mpr (List.map_inj_left.mp gl_run _ hy) rfl,λ v H2 h=>⟨.str y,[],by rw [h]; exact cut_val λ _=>rfl,hk⟩⟩
theorem bn_on {g₁ : Heap} (B : Base (Kf w.params) mg mb g₁) (C : CxOk cx pw w (Kf w.params) g₁ mg mb) : SpecOn pw w g₁ 702 (orc 9 bnF):=by
 refine orcC_on hyp_nil (show cx.fn 702 = some (fiA 702) by kernel_rfl) (λ as Hs=>Sp.of ?_) B C
 delta bnF; apply yC.sp; intro v as; apply yStr.sp; intro x; apply yE.sp; apply yE.sp
 refine Sp.so λ k _ hp=>?_
 obtain ⟨rfl,hk⟩:=hp
 refine ⟨600,_,Eq.mpr win_run rfl,λ v H2 h=>⟨.ref 0,[.rf (.strs winL)],?_,hk⟩⟩
 have hs:=congrArg Prod.fst win_at
 obtain ⟨l,hl⟩:=Option.isSome_iff_exists.mp hs
 obtain ⟨n,rfl,hn⟩:=outL_at (h.trans hl)
 have : winL = l:=by unfold winL; refine hl ▸ ?_; rfl
 refine this ▸ ?_
 exact cut_list hn
end
noncomputable def ndL : List Nat:=[46,110,111,116,100,101,102]
noncomputable def wdH (us : List V) (c : Nat) (x : List Nat) (T : Hp) : Hp:=.list us :: .list [.int (.ofNat c),.ref 2] :: .inst 216 3 :: .flds [(nm "text",.str x)] :: T
noncomputable def wdφ (o : Option V) : Nm:=(nm "names",.loc (.ref 0)) :: (nm "parts",.loc (.ref 1)) :: o.toList.map λ v=>(nm "laid",.loc v)
section
variable (K : Fl -> Nm -> Hp -> Prop) (X : Nat -> Hp -> Prop) (n c : Nat) (us vs : List V) (x : List Nat)
theorem wd_en : enterM (fiA 709) [.ref 0,.ref 1] (wdH us c x []) = some (wdφ none,wdH us c x []):=by kernel_rfl
theorem wd_0 : ssO [] (n + 60) 709 3 ((bd 709 0).take 1) (wdφ none) (wdH us c x []) K X = match Nat.ble us.length 1000000 with
 | true=>K .next (wdφ (some (.ref 4))) (wdH us c x [.list us])
 | false=>False:=by kernel_rfl
theorem wd_1 : (List.range 8).map (λ r=>ssO [] (n + 60) 709 3 (bd 709 1) (wdφ (some (.ref 4))) (wdH us (64 + r) x [.list vs]) K X) = (List.range 8).map λ r=>match leq x ndL with
 | true=>optK False (idxN vs.length (.ofNat (64 + r))) λ j=>K (.ret (.ref 4)) (wdφ (some (.ref 4)) ++ [(nm "code",.loc (.int (.ofNat (64 + r + 1)))),(nm "part",.loc (.ref 2))]) (wdH us (64 + r) x [.list (vs.set j (.str [])),.gone])
 | false=>optK False (idxN vs.length (.ofNat (64 + r))) λ j=>K (.ret (.ref 4)) (wdφ (some (.ref 4)) ++ [(nm "code",.loc (.int (.ofNat (64 + r + 1)))),(nm "part",.loc (.ref 2))]) (wdH us (64 + r) x [.list (vs.set j (.str x)),.gone]):=by kernel_rfl
end
noncomputable def wdF : List V -> Hp -> Option PT:=λ as Hs=>yC as λ v as=>yRef v 0 <| yC as λ v as=>yRef v 1 <| yE as <| yC Hs λ h Hs=>oRf h λ q=>rStrs q λ l=>yC Hs λ h Hs=>oLst h λ vs=>yC vs λ v vs=>yNat v λ c=>yC vs λ v vs=>yRef v 2 <| yE vs <| yC Hs λ h Hs=>oInst h 216 3 <| yC Hs λ h Hs=>oFls h λ fs=>yC fs λ f fs=>yE fs <| yE Hs <| yFst f λ nn v=>yStr v λ x=>
 some λ K _=>(nn = nm "text" ∧ (64 ≤ c ∧ c < 72) ∧ (c < l.length ∧ l.length ≤ 1000) ∧ leq x ndL = false) ∧ K (.ref 4) [.rf (.strs l),.list [.int (.ofNat c),.ref 2],.inst 216 3,.flds [(nm "text",.str x)],.rf (.strs (l.set c x)),.gone]
theorem wd_ok {K : V -> Hp -> Prop} {X : Nat -> Hp -> Prop} {l : List (List Nat)} {c : Nat} {x : List Nat} (hc : 64 ≤ c ∧ c < 72) (hl : c < l.length ∧ l.length ≤ 1000) (hx : leq x ndL = false) (h : K (.ref 4) (wdH (l.map .str) c x [.list ((l.set c x).map .str),.gone])) :
  runF (RO (tab []) cx 60) (fiA 709) 3 [.ref 0,.ref 1] (wdH (l.map .str) c x []) K X:=by
 rw [enter_eq (wd_en c _ x),ss_cut 1,bd_d,show 60 = 0 + 60 from rfl,wd_0,List.length_map,Nat.ble_eq_true_of_le (by lia)]
 dsimp only
 rw [then_next]
 have h1:=at_i (wd_1 (endF K) X 0 (l.map .str) (l.map .str) x) (show c - 64 < 8 by omega)
 rw [show 64 + (c - 64) = c from by omega,hx] at h1
 refine Eq.mpr h1 ?_
 have hi : idxN (l.map V.str).length (.ofNat c) = some c:=by
  unfold idxN
  dsimp only
  rw [List.length_map,show Nat.blt c l.length = true from Nat.ble_eq_true_of_le hl.1,Nat.ble_eq_true_of_le (by lia)]
  rfl
 dsimp only
 rw [hi,optK_val,<- List.map_set]
 exact h
section
variable {w : World} {mg mb : Str -> Option Value}
theorem wd_on {g₁ : Heap} (B : Base (Kf w.params) mg mb g₁) (C : CxOk cx pw w (Kf w.params) g₁ mg mb) : SpecOn pw w g₁ 709 (orc 4 wdF):=by
 refine orcG_on hyp_nil (show cx.fn 709 = some (fiA 709) by kernel_rfl) (λ as Hs=>Sp.of ?_) B C
 delta wdF; apply yC.sp; intro v as; apply yRef.sp; apply yC.sp; intro v as; apply yRef.sp; apply yE.sp; apply yC.sp; intro h Hs; apply oRf.sp; intro q; apply rStrs.sp; intro l; apply yC.sp; intro h Hs; apply oLst.sp; intro vs; apply yC.sp; intro v vs; apply yNat.sp; intro c; apply yC.sp; intro v vs; apply yRef.sp; apply yE.sp; apply yC.sp; intro h Hs; apply oInst.sp; apply yC.sp; intro h Hs; apply oFls.sp; intro fs; apply yC.sp; intro f fs; apply yE.sp; apply yE.sp; apply yFst.sp; intro nn v; apply yStr.sp; intro y
 refine Sp.so λ k x hp Hr hg=>⟨60,?_⟩
 refine yG λ G_ k_=>?_
 obtain ⟨⟨rfl,hc,hl,hy⟩,hk⟩:=hp
 refine k_ ?_
 apply hg.c; intro _ _ g1 t; apply t.c; intro _ _ g2 t; apply t.c; intro _ _ g3 t; apply t.c; intro _ _ g4 t; apply t.e; apply g1.r; apply g2.s rfl; apply g3.s rfl; apply g4.s rfl
 exact wd_ok hc hl hy ⟨_,.cons (.rf (.strs l)) (.cons (.self rfl) (.cons (.self rfl) (.cons (.self rfl) (.cons (.rf (.strs (l.set c y))) (.cons (.self rfl) .nil))))),hk⟩
end
theorem execs_then {prog : Program} {w : World} {g₀ : Heap} {A : Around} {fc : Fc} {env : Env} {g : Heap} {L : Addr} {X : Nat -> Nm -> Hp -> Prop} {f : Nm -> Stmt -> Hp -> (Fl -> Nm -> Hp -> Prop) -> Prop} (S : SS prog w g₀ A fc env g L X f) {b : List Stmt} {k : Fl -> Nm -> Hp -> Prop} {Qc : Flow -> Shared -> Prop} {Ec : Value -> Shared -> Prop} :
  ∀ {l : List Stmt} {φ : Nm} {H : Hp} {R : List Addr} {m : Str -> Option Value} {s : Shared},runSs f l φ H k -> EnvOk A fc env φ L m R -> Inv prog w g₀ g L m R H s.heap -> EndNX prog w g₀ A fc env g L R s X Ec ->
   (∀ fl φ' H' R' m' x s',k fl φ' H' -> Ext R R' -> Inv prog w g₀ g L m' R' H' s'.heap -> EnvOk A fc env φ' L m' R' -> flρ R' fl x -> Same s s' -> match x with
    | .next=>wpAny (model prog w) A (execs b env) Qc Ec s'
    | x=>Qc x s') -> wpAny (model prog w) A (execs (l ++ b) env) Qc Ec s:=by
 intro l_
 induction l_ with
 | nil=>
  intro φ H R m s h E I _ hQ
  exact hQ .next φ H R m .next s h (Ext.refl R) I E rfl (Same.refl s)
 | cons st r ih_=>
  intro φ H R m s h E I hE hQ
  refine wpAny_execs_cons (S φ st H _ R m s h E I _ _ (λ fl φ' H' R' m' a s' hk e I' E' hr sm=>?_) hE)
  cases fl with
  | next=>
   subst hr
   exact ih_ hk E' I' (hE.on e sm) λ fl φ2 H2 R2 m2 x s2 k1 k2 k3 k4 k5 k6=>hQ fl φ2 H2 R2 m2 x s2 k1 (e.trans k2) k3 k4 k5 (sm.trans k6)
  | ret v=>obtain ⟨x,rfl,hx⟩:=hr; exact hQ _ _ _ _ _ _ _ hk e I' E' ⟨x,rfl,hx⟩ sm
  | brk=>cases hr; exact hQ _ _ _ _ _ _ _ hk e I' E' rfl sm
  | cont=>cases hr; exact hQ _ _ _ _ _ _ _ hk e I' E' rfl sm
noncomputable abbrev fcL : Fc:=⟨(fiA 920).scope,20,none⟩
noncomputable def Rest (w : World) (mg mb : Str -> Option Value) (zs : List Int) (b : Obj) (k : Nat) (φ : Nm) (H : Hp) : Prop:=
 ∀ g₀ g A env L m R s a,Base (Kf w.params) mg mb g₀ -> CxOk cx pw w (Kf w.params) g₀ mg mb -> ArndS g₀ A fcL env g L -> EnvOk A fcL env φ L m R -> Inv pw w g₀ g L m R H s.heap -> R[0]? = some a -> H[0]? = some (.rf (.sl zs b)) ->
  ∀ Qc Ec,(∀ s',Same s s' -> (∀ x o,g₀.get? x = some o -> s'.heap.get? x = some o) -> s'.heap.get? a = some b -> Qc (.ret (.bool true)) s') -> wpAny (model pw w) A (execs (bd 920 k) env) Qc Ec s
section
variable {w : World} {mg mb : Str -> Option Value} {zs : List Int} {b : Obj}
theorem rest_seg {l : List (Addr × Spec)} (hl : HypT w mg mb l) (n : Nat) {k : Nat} (j : Nat) {φ : Nm} {H : Hp}
  (h : ssO l n 920 20 ((bd 920 k).take j) φ H (λ fl φ' H'=>H'[0]? = some (.rf (.sl zs b)) ∧ ((fl = .next ∧ Rest w mg mb zs b (k + j) φ' H') ∨ fl = .ret (.bool true))) λ _ _=>False) : Rest w mg mb zs b k φ H:=by
 intro g₀ g A env L m R s a B C Z E I ha h0 Qc Ec hQ
 refine (show bd 920 k = (bd 920 k).take j ++ bd 920 (k + j) from by rw [<- bd_d,List.take_append_drop]) ▸ ?_
 delta ssO at h
 dsimp only at h
 refine execs_then ((soundO B C (hl g₀ B C) n).s.ss Z) h E I (λ n φ' H' R' m' a s' x=>x.elim) λ fl φ' H' R' m' x s' hk e I' E' hr sm=>?_
 obtain ⟨h0',hk⟩:=hk
 have ha':=e.get ha
 rcases hk with ⟨rfl,hk⟩ | rfl
 ·subst hr
  exact hk g₀ g A env L m' R' s' a B C Z E' I' ha' h0' Qc Ec λ s2 sm2=>hQ s2 (sm.trans sm2)
 ·obtain ⟨y,rfl,hy⟩:=hr
  rw [hy.invBool]
  refine yG λ G_ k_=>?_
  obtain ⟨o,h1,h2⟩:=I'.ob 0 _ a h0' rfl ha'
  refine k_ ?_
  exact hQ s' sm I'.S (by refine h1 ▸ ?_; exact congrArg some h2.1)
theorem rest_wk {k : Nat} {φ : Nm} {H H' : Hp} (hw : Wk H' H) (h0 : H'[0]? = some (.rf (.sl zs b))) (h : Rest w mg mb zs b k φ H') : Rest w mg mb zs b k φ H:=λ g₀ g A env L m R s a B C Z E I ha _ Qc Ec hQ=>
 h g₀ g A env L m R s a B C Z E (hw.inv I) ha h0 Qc Ec hQ
theorem rest_pad {k n : Nat} {φ : Nm} {H : Hp} (h : Rest w mg mb zs b k φ (H ++ List.replicate n .gone)) : Rest w mg mb zs b k φ H:=by
 intro g₀ g A env L m R s a B C Z E I ha h0 Qc Ec hQ
 have e : Ext R (R ++ List.replicate n 0):=⟨_,rfl⟩
 have act : ∀ {i x},Act (H ++ List.replicate n .gone) (R ++ List.replicate n 0) i x -> Act H R i x:=by
  rintro i x ⟨o,h1,h2,h3⟩
  by_cases lt : i < H.length
  ·rw [List.getElem?_append_left lt] at h1
   rw [List.getElem?_append_left (I.len ▸ lt)] at h3
   exact ⟨o,h1,h2,h3⟩
  ·replace h1:=(List.getElem?_append_right (Nat.le_of_not_lt lt)) ▸ h1; replace h1:=(List.getElem?_replicate) ▸ h1
   refine yG λ G_ k_=>?_
   split at h1
   refine k_ ?_
   ·obtain rfl:=Option.some.inj h1; cases h2
   ·cases h1
 refine h g₀ g A env L m (R ++ List.replicate n 0) s a B C Z (E.ext e) ?_ (e.get ha) (by refine (List.getElem?_append_left (List.getElem?_eq_some_iff.mp h0).1).trans ?_; exact h0) Qc Ec hQ
 exact {
  S:=I.S
  ns:=I.ns
  K:=I.K
  lo:=I.lo
  len:=by simp only [List.length_append,List.length_append,List.length_replicate,List.length_replicate,I.len]
  nd:=λ i j x p q=>I.nd i j x (act p) (act q)
  ob:=λ i o x h1 h2 h3=>by
   refine yG λ G_ k_=>?_
   obtain ⟨o',k1,k2,k3⟩:=act ⟨o,h1,h2,h3⟩
   replace h1:=(List.getElem?_append_left (List.getElem?_eq_some_iff.mp k1).1) ▸ h1
   replace h1:=k1 ▸ h1
   cases h1
   obtain ⟨y,hy,ho⟩:=I.ob i o x k1 h2 k3
   refine k_ ?_
   exact ⟨y,hy,ho.ext e⟩
  out:=λ i x p=>I.out i x (act p) }
noncomputable def renB (r : Nat -> Option Nat) : Bd -> Option Bd
 | .loc v=>(renV r v).map .loc
 | .cel n=>(r n).map .cel
noncomputable def refB : Bd -> List Nat
 | .loc v=>refV v
 | .cel n=>[n]
set_option backward.match.sparseCases false in
noncomputable def cutN (r : Nat -> Option Nat) (φ : Nm) : List Str -> Option Nm
 | []=>some []
 | x :: xs=>match look x φ with
  | some q=>match renB r q,cutN r φ xs with
   | some q',some φ'=>some ((x,q') :: φ')
   | _,_=>none
  | none=>none
noncomputable def refsN (φ : Nm) : List Str -> List Nat
 | []=>[]
 | x :: xs=>match look x φ with
  | some q=>refB q ++ refsN φ xs
  | none=>refsN φ xs
set_option backward.match.sparseCases false in
noncomputable def gcN (xs : List Str) (φ : Nm) (H : Hp) : Option (Nm × Hp):=match reach H 400 (0 :: refsN φ xs) [] with
 | some σ=>match σ with
  | 0 :: _=>match mapO (λ n=>match H[n]? with
    | some o=>renO (λ m=>idx m σ 0) o
    | none=>none) σ,cutN (λ m=>idx m σ 0) φ xs with
   | some Hs,some φ'=>some (φ',Hs)
   | _,_=>none
  | _=>none
 | none=>none
set_option tactic.hygienic true in
theorem cutN_ok {r : Nat -> Option Nat} {φ : Nm} : ∀ {xs : List Str} {φ' : Nm},cutN r φ xs = some φ' -> ∀ x q',look x φ' = some q' -> ∃ q,look x φ = some q ∧ renB r q = some q':=by
 intro l_
 induction l_ with
 | nil=>
  intro φ' h x q' e
  obtain rfl:=Option.some.inj h; cases e
 | cons y ys ih_=>
  intro φ' h x q' e
  dsimp only [cutN] at h
  cases h1 : look y φ with
  | none=>replace h:=h1 ▸ h; cases h
  | some q=>
   replace h:=h1 ▸ h
   dsimp only at h
   cases h2 : renB r q with
   | none=>replace h:=h2 ▸ h; cases h
   | some q2=>
    cases h3 : cutN r φ ys with
    | none=>rw [h2,h3] at h; cases h
    | some φ2=>
     rw [h2,h3] at h
     obtain rfl:=Option.some.inj h
     have e : (match seq x y with
      | true=>some q2
      | false=>look x φ2) = some q':=e
     cases h4 : seq x y with
     | true=>rw [h4] at e; obtain rfl:=Option.some.inj e; refine (seq_iff.mp h4) ▸ ?_; exact ⟨q,h1,h2⟩
     | false=>rw [h4] at e; exact ih_ h3 x q' e
set_option tactic.hygienic true in
theorem rest_gc {k : Nat} {φ φ' : Nm} {H Hs H' : Hp} (xs : List Str) (hg : gcN xs φ H = some (φ',Hs)) (hw : Wk H' Hs) (h0 : H'[0]? = some (.rf (.sl zs b))) (h : Rest w mg mb zs b k φ' H') : Rest w mg mb zs b k φ H:=by
 intro g₀ g A env L m R s a B C Z E I ha hz Qc Ec hQ
 unfold gcN at hg
 refine yG λ G_ k_=>?_
 split at hg
 refine k_ ?_
 ·rename_i σ hr
  refine yG λ G_ k_=>?_
  split at hg
  refine k_ ?_
  ·rename_i σ'
   split at hg
   ·rename_i Hs' φ2 h1 h2
    refine yG λ G_ k_=>?_
    cases hg
    obtain ⟨τ,e1,hnd,hτ⟩:=reach_ok hr
    refine k_ ?_
    simp only [List.nil_append] at e1
    have len:=mapO_len h1
    have S : Prt H Hs (0 :: σ'):=⟨hnd List.nodup_nil,len,λ j n hj=>by
     have lt : j < Hs.length:=len ▸ (List.getElem?_eq_some_iff.mp hj).1
     refine yG λ G_ k_=>?_
     obtain ⟨n',k1,k2⟩:=mapO_get h1 (List.getElem?_eq_getElem lt)
     replace k1:=hj.symm.trans k1
     obtain rfl:=Option.some.inj k1
     obtain ⟨o,ho,hg⟩:=hτ n (e1 ▸ List.mem_of_getElem? hj)
     refine k_ ?_
     simp only [ho] at k2
     exact ⟨o,_,ho,hg,k2,List.getElem?_eq_getElem lt⟩⟩
    refine h g₀ g A env L m (RS (0 :: σ') R) s a B C Z ⟨E.loc,E.glo,E.blt,E.fn,E.kind,λ x q' e=>?_,E.hdl⟩ (hw.inv (I.sub S)) ?_ h0 Qc Ec hQ
    ·obtain ⟨q,e2,e3⟩:=cutN_ok h2 x q' e
     have hb:=E.nm x q e2
     cases q with
     | loc v=>
      obtain ⟨v',k1,rfl⟩:=Option.map_eq_some_iff.mp e3
      obtain ⟨val,k2,k3⟩:=hb
      exact ⟨val,k2,ren_v rn_in k1 k3⟩
     | cel n=>
      obtain ⟨n',k1,rfl⟩:=Option.map_eq_some_iff.mp e3
      obtain ⟨c,k2,k3⟩:=hb
      exact ⟨c,k2,rn_in n n' k1 c k3⟩
    ·show some (R.getD 0 0) = _
     rw [List.getD_eq_getElem?_getD,ha]
     rfl
   ·cases hg
  ·cases hg
 ·cases hg
end
noncomputable def cmT : List (Addr × Spec):=[(676,sOr (orc 13 cmS1) (orc 13 cmS2)),(702,orc 9 bnF),(709,orc 4 wdF),(87,orc 4 dcF),(745,orc 9 glF)]
noncomputable def lawT : List (Addr × Spec):=(889,orc 4 potF) :: (896,orc 4 drawF) :: (908,orc 7 ltF) :: cmT
theorem law_hyp {w : World} {mg mb : Str -> Option Value} : HypT w mg mb lawT:=
 hyp_cons (hyp_cons (hyp_cons (hyp_cons (hyp_cons (hyp_cons (hyp_cons (hyp_cons hyp_nil λ _ B C=>gl_on B C) λ _ B C=>dc_on B C) λ _ B C=>wd_on B C) λ _ B C=>bn_on B C) λ _ B C=>sOr_on (cm_on B C) (cm2_on B C))
  λ _ B C=>lt_on B C) λ _ B C=>draw_on B C) λ _ B C=>pot_on B C
noncomputable def drK (lim base : Nat) : Nat -> Nat -> List Nat -> (List Nat -> Nat -> Prop) -> Prop
 | 0,k,ts,P=>P ts k
 | m + 1,k,ts,P=>k ≤ 1000000 ∧ ∀ r : Nat,r < lim -> drK lim base m (k + 1) (ts ++ [base + r]) P
noncomputable def laH (zs : List Int) (b : Obj) (k : Nat) (T : Hp) (tb : List (KV × V):=[]) : Hp:=.rf (.sl zs b) :: .cell (some (.ref 2)) :: .gpot 3 k :: .gcel :: .dict tb :: .dict [] :: .flds [(nm "table",.ref 4),(nm "trailer",.ref 5)] :: .inst 337 6 :: T
noncomputable def laφ (l : Nm) : Nm:=(nm "pot",.cel 1) :: (nm "script",.loc (.ref 0)) :: (nm "shelf",.loc (.ref 7)) :: l
noncomputable def intL (ws : List Nat) : MO:=.list (ws.map λ x=>.int (.ofNat x))
noncomputable def nmF (x : List Nat) : MO:=.flds [(nm "text",.str x)]
noncomputable def tT : List Nat:=[84,114,117,101,84,121,112,101]
noncomputable def sST : List Nat:=[83,117,98,116,121,112,101]
noncomputable def sFC : List Nat:=[70,105,114,115,116,67,104,97,114]
noncomputable def sWi : List Nat:=[87,105,100,116,104,115]
noncomputable def sEn : List Nat:=[69,110,99,111,100,105,110,103]
noncomputable def sBE : List Nat:=[66,97,115,101,69,110,99,111,100,105,110,103]
noncomputable def sDi : List Nat:=[68,105,102,102,101,114,101,110,99,101,115]
noncomputable def sTU : List Nat:=[84,111,85,110,105,99,111,100,101]
noncomputable def glE : List (Int × List Nat):=(List.range 8).map λ r=>(.ofNat (64 + r),[64 + r])
section
variable (K : Fl -> Nm -> Hp -> Prop) (X : Nat -> Hp -> Prop) (n k f : Nat) (zs : List Int) (b : Obj) (y z : MO)
theorem la_en : enterM (fiA 920) [.ref 0] [.rf (.sl zs b)] = some ([(nm "pot",.cel 1),(nm "script",.loc (.ref 0))],[.rf (.sl zs b),.cell none]):=by kernel_rfl
theorem la_0 : ssO lawT (n + 60) 920 20 ((bd 920 0).take 2) [(nm "pot",.cel 1),(nm "script",.loc (.ref 0))] [.rf (.sl zs b),.cell none] K X = (zs.length ≤ 63 ∧ K .next (laφ []) (laH zs b 0 [])):=by kernel_rfl
theorem la_2 : ssO lawT (n + 60) 920 20 ((bd 920 2).take 1) (laφ []) (laH zs b k []) K X = (k ≤ 1000000 ∧ allN 6 λ m=>drK 900 100 (m + 1) (k + 1) [] λ ws k'=>K .next (laφ [(nm "widths",.loc (.ref 10))]) (laH zs b k' [.rng 0 (.ofNat (m + 1)) 1,.gone,intL ws])):=by kernel_rfl
theorem la_3 : ssO lawT (n + 60) 920 20 ((bd 920 3).take 1) (laφ [(nm "widths",.loc (.ref 10))]) (laH zs b k [y,.gone,z]) K X = (k ≤ 1000000 ∧ allN 6 λ r=>K .next (laφ [(nm "widths",.loc (.ref 10)),(nm "first",.loc (.int (.ofNat (62 + r))))]) (laH zs b (k + 1) [y,.gone,z])):=by kernel_rfl
noncomputable def laT (f en : Nat) (y wo gl : MO) : Hp:=[y,.gone,wo,.dict [(.str sST,.ref 13),(.str sFC,.int (.ofNat f)),(.str sWi,.ref 10),(.str sEn,.ref en)],nmF tT,.inst 216 12,nmF winS,.inst 216 14,.rng 64 72 1,.gone,.list ((List.range 8).map λ r=>.ref (19 + r))] ++
 ((List.range 8).map λ r=>.tup [.int (.ofNat (64 + r)),.str [64 + r]]) ++ [gl]
noncomputable def laψ (f : Nat) (l : Nm) : Nm:=laφ ((nm "widths",.loc (.ref 10)) :: (nm "first",.loc (.int (.ofNat f))) :: (nm "head",.loc (.ref 11)) :: (nm "glyph_texts",.loc (.ref 27)) :: l)
theorem la_4 : ssO lawT (n + 60) 920 20 ((bd 920 4).take 2) (laφ [(nm "widths",.loc (.ref 10)),(nm "first",.loc (.int (.ofNat f)))]) (laH zs b k [y,.gone,z]) K X = K .next (laψ f []) (laH zs b k (laT f 15 y z (RF.dic glE).mo)):=by kernel_rfl
noncomputable def nm3 (i : Nat) : List Nat × List Nat:=match i with
 | 0=>([69,117,114,111],[8364])
 | 1=>([110,111,116,104,105,110,103],[])
 | _=>([117,110,105,48,48,54,50],[98])
noncomputable def tup3 (i : Nat) : MO:=.tup [.str (nm3 i).1,.str (nm3 i).2]
noncomputable def glP (c i : Nat) : List (KV × V):=dput (.int (.ofNat c)) (.str (nm3 i).2) (glE.map λ p=>(.int p.1,.str p.2))
noncomputable def la6T (f c i : Nat) (y wo : MO) : Hp:=laT f 36 y wo (.dict (glP c i)) ++ [tup3 0,tup3 1,tup3 2,.list [.ref 28,.ref 29,.ref 30],nmF (nm3 i).1,.inst 216 32,.list [.int (.ofNat c),.ref 33],.tup [.int 0,.ref 34],.dict [(.str sBE,.ref 38),(.str sDi,.ref 40)],nmF winS,.inst 216 37,.flds [(nm "number",.int 1),(nm "generation",.int 0)],.inst 287 39]
theorem la_6 : ssO lawT (n + 61) 920 20 ((bd 920 6).take 1) (laψ f []) (laH zs b k (laT f 15 y z (RF.dic glE).mo)) K X = (k ≤ 1000000 ∧ allN 2 λ r=>match r with
 | 0=>K .next (laψ f []) (laH zs b (k + 1) (laT f 15 y z (RF.dic glE).mo))
 | _=>k + 1 ≤ 1000000 ∧ ∀ c : Nat,c < 8 -> (k + 1 + 1 ≤ 1000000 ∧ allN 3 λ i=>K .next (laψ f [(nm "code",.loc (.int (.ofNat (64 + c)))),(nm "name",.loc (.str (nm3 i).1))]) (laH zs b (k + 1 + 1 + 1) (la6T f (64 + c) i y z) [(.int 1,.ref 35)]))):=by kernel_rfl
noncomputable def lcH (zs : List Int) (b : Obj) (k : Nat) (wo gl : MO) (T : Hp) : Hp:=.rf (.sl zs b) :: .cell (some (.ref 2)) :: .gpot 3 k :: .gcel :: wo :: gl :: T
noncomputable def hdE (f st en : Nat) (l : List (KV × V)) : MO:=.dict ((.str sST,.ref st) :: (.str sFC,.int (.ofNat f)) :: (.str sWi,.ref 4) :: (.str sEn,.ref en) :: l)
noncomputable def hdX (e : Option (Nat × List Nat)) : Nat:=match e with
 | none=>10
 | some _=>14
noncomputable def lcT (f : Nat) (e : Option (Nat × List Nat)) (tb l : List (KV × V)) : Hp:=match e with
 | none=>[.inst 337 7,.flds [(nm "table",.ref 8),(nm "trailer",.ref 9)],.dict tb,.dict [],hdE f 11 13 l,.inst 216 12,nmF tT,.inst 216 14,nmF winS]
 | some q=>[.inst 337 7,.flds [(nm "table",.ref 8),(nm "trailer",.ref 13)],.dict ((.int 1,.ref 9) :: tb),.tup [.int 0,.ref 10],.list [.int (.ofNat q.1),.ref 11],.inst 216 12,nmF q.2,.dict [],hdE f 15 17 l,.inst 216 16,nmF tT,.dict [(.str sBE,.ref 18),(.str sDi,.ref 20)],.inst 216 19,nmF winS,.inst 287 21,.flds [(nm "number",.int 1),(nm "generation",.int 0)]]
noncomputable def lcφ (f : Nat) (e : Option (Nat × List Nat)) (l : Nm) : Nm:=(nm "pot",.cel 1) :: (nm "widths",.loc (.ref 4)) :: (nm "glyph_texts",.loc (.ref 5)) :: (nm "first",.loc (.int (.ofNat f))) :: (nm "shelf",.loc (.ref 6)) :: (nm "head",.loc (.ref (hdX e))) :: l
noncomputable def xs6 : List Str:=[nm "pot",nm "widths",nm "glyph_texts",nm "first",nm "shelf",nm "head"]
theorem lc_gc0 (gl : List (Int × List Nat)) (w : Nat -> Nat) : (List.range 7).map (λ m=>gcN xs6 (laψ f []) (laH zs b k (laT f 15 y (intL ((List.range m).map w)) (.rf (.dic gl))))) = (List.range 7).map λ m=>some (lcφ f none [],lcH zs b k (intL ((List.range m).map w)) (.rf (.dic gl)) (lcT f none [] [])):=by kernel_rfl
theorem lc_gc1 (c i : Nat) (u v : V) (gl : List (Int × List Nat)) (w : Nat -> Nat) : (List.range 7).map (λ m=>gcN xs6 (laψ f [(nm "code",.loc u),(nm "name",.loc v)]) (laH zs b k (laT f 36 y (intL ((List.range m).map w)) (.rf (.dic gl)) ++ (la6T f c i y z).drop 20) [(.int 1,.ref 35)])) = (List.range 7).map λ m=>some (lcφ f (some (c,(nm3 i).1)) [],lcH zs b k (intL ((List.range m).map w)) (.rf (.dic gl)) (lcT f (some (c,(nm3 i).1)) [] [])):=by kernel_rfl
end
noncomputable def wAt (ws : List Nat) (f o : Nat) : Nat:=match Nat.ble f o with
 | true=>ws.getD (o - f) 0
 | false=>0
noncomputable def wiT (f o m : Nat) : MO:=match Nat.ble f o && Nat.blt o (f + m) with
 | true=>.litr 0 1
 | false=>.gone
noncomputable def wiH (f : Nat) (l : Int) (ws : List Int) (T : Hp) : Hp:=.list [.ref 1] :: .tup [.int (.ofNat f),.int l,.ref 2] :: .rf (.ints ws) :: T
noncomputable def natI (ws : List Nat) : List Int:=ws.map .ofNat
theorem wi_run (K : V -> Hp -> Prop) (X : Nat -> Hp -> Prop) (w : Nat -> Nat) : (List.range 6).map (λ a=>(List.range 6).map λ b=>(List.range 8).map λ c=>runF (RO (tab []) cx 60) (fiA 773) 3 [.ref 0,.int (.ofNat (64 + c)),.int 0] (wiH (62 + a) (.ofNat (62 + a + (b + 1) - 1)) (natI ((List.range (b + 1)).map w)) []) K X) =
  (List.range 6).map λ a=>(List.range 6).map λ b=>(List.range 8).map λ c=>K (.int (.ofNat (wAt ((List.range (b + 1)).map w) (62 + a) (64 + c)))) (wiH (62 + a) (.ofNat (62 + a + (b + 1) - 1)) (natI ((List.range (b + 1)).map w)) [wiT (62 + a) (64 + c) (b + 1)]):=by kernel_rfl
noncomputable def wiF : List V -> Hp -> Option PT:=λ as Hs=>yC as λ v as=>yRef v 0 <| yC as λ v as=>yNat v λ o=>yC as λ v as=>yNat v λ z=>yN z 0 <| yE as <| yC Hs λ h Hs=>oLst h λ vs=>yC vs λ v vs=>yRef v 1 <| yE vs <| yC Hs λ h Hs=>oTup h λ vs=>yC vs λ v vs=>yNat v λ f=>yC vs λ v vs=>yInt v λ l=>yC vs λ v vs=>yRef v 2 <| yE vs <| yC Hs λ h Hs=>oRf h λ q=>rInts q λ ws=>yE Hs <|
 some λ K _=>∃ wn : List Nat,(ws = natI wn ∧ ((62 ≤ f ∧ f < 68) ∧ (64 ≤ o ∧ o < 72)) ∧ (1 ≤ wn.length ∧ wn.length ≤ 6) ∧ l = .ofNat (f + wn.length - 1)) ∧ K (.int (.ofNat (wAt wn f o))) (wiH f l ws [wiT f o wn.length])
section
variable {w : World} {mg mb : Str -> Option Value}
theorem wi_on {g₁ : Heap} (B : Base (Kf w.params) mg mb g₁) (C : CxOk cx pw w (Kf w.params) g₁ mg mb) : SpecOn pw w g₁ 773 (orc 4 wiF):=by
 refine orc_on hyp_nil (show cx.fn 773 = some (fiA 773) by kernel_rfl) (λ as Hs=>Sp.of ?_) B C
 delta wiF; apply yC.sp; intro v as; apply yRef.sp; apply yC.sp; intro v as; apply yNat.sp; intro o; apply yC.sp; intro v as; apply yNat.sp; intro z; apply yN.sp; apply yE.sp; apply yC.sp; intro h Hs; apply oLst.sp; intro vs; apply yC.sp; intro v vs; apply yRef.sp; apply yE.sp; apply yC.sp; intro h Hs; apply oTup.sp; intro vs; apply yC.sp; intro v vs; apply yNat.sp; intro f; apply yC.sp; intro v vs; apply yInt.sp; intro l; apply yC.sp; intro v vs; apply yRef.sp; apply yE.sp; apply yC.sp; intro h Hs; apply oRf.sp; intro q; apply rInts.sp; intro ws; apply yE.sp
 refine Sp.so λ k x hp=>?_
 refine yG λ G_ k_=>?_
 obtain ⟨wn,⟨rfl,⟨hf,ho⟩,hm,rfl⟩,hk⟩:=hp
 refine k_ ?_
 refine ⟨_,60,Ch.refl _,?_⟩
 have h:=at_i (at_i (at_i (wi_run k x λ j=>wn.getD j 0) (Nat.sub_lt_left_of_lt_add hf.1 hf.2)) (Nat.lt_of_lt_of_le (Nat.sub_lt hm.1 Nat.one_pos) hm.2)) (Nat.sub_lt_left_of_lt_add ho.1 ho.2)
 rw [Nat.add_sub_of_le hf.1,Nat.sub_add_cancel hm.1,Nat.add_sub_of_le ho.1,range_getD] at h
 exact Eq.mpr h hk
end
noncomputable def idH : List Nat:=[73,100,101,110,116,105,116,121,45,72]
abbrev Enc:=Option (Nat × List Nat)
noncomputable def nI (e : Enc) : Nat:=match e with
 | none=>15
 | some _=>22
noncomputable def ldT (f : Nat) (e : Enc) (way : Nat) (ch : MO) (Z : List Nat) : Hp:=match way with
 | 0=>lcT f e [] [] ++ [ch]
 | 1=>lcT f e [] [(.str sTU,.ref (nI e + 2))] ++ [ch,nmF idH,.inst 216 (nI e + 1)]
 | _=>lcT f e [(.int 2,.ref (nI e + 4))] [(.str sTU,.ref (nI e + 6))] ++ [ch,.dict [],.flds [(nm "head",.ref (nI e + 1)),(nm "octets",.bytes Z)],.inst 259 (nI e + 2),.tup [.int 0,.ref (nI e + 3)],.flds [(nm "number",.int 2),(nm "generation",.int 0)],.inst 287 (nI e + 5)]
noncomputable def ldφ (f : Nat) (e : Enc) (way : Nat) : Nm:=lcφ f e [(nm "chars",.loc (.ref (nI e))),(nm "way",.loc (.int (.ofNat way)))]
noncomputable def encs (q : Nat × List Nat) : List Enc:=[none,some q]
noncomputable def txB (ps : List (Nat × List Nat)) : List Nat:=flatI (cmI ++ itsT (encP ps))
section
variable (K : Fl -> Nm -> Hp -> Prop) (X : Nat -> Hp -> Prop) (n k f : Nat) (q : Nat × List Nat) (zs : List Int) (b : Obj) (wo gl : MO)
theorem ld_7 : (encs q).map (λ e=>ssO lawT (n + 60) 920 20 ((bd 920 7).take 2) (lcφ f e []) (lcH zs b k wo gl (lcT f e [] [])) K X) = (encs q).map λ e=>(k ≤ 1000000 ∧ allN 4 λ way=>K .next (ldφ f e way) (lcH zs b (k + 1) wo gl (ldT f e 0 (.dict []) []))):=by kernel_rfl
theorem ld_9 : (encs q).map (λ e=>(List.range 4).map λ way=>ssO lawT (n + 60) 920 20 ((bd 920 9).take 1) (ldφ f e way) (lcH zs b k wo gl (ldT f e 0 (.dict []) [])) K X) = (encs q).map λ e=>(List.range 4).map λ way=>match way with
 | 0=>K .next (ldφ f e 0) (lcH zs b k wo gl (ldT f e 0 (.dict []) []))
 | 1=>K .next (ldφ f e 1) (lcH zs b k wo gl (ldT f e 1 (.dict []) []))
 | way=>k + 13 ≤ 1000000 ∧ ∀ ps : List (Nat × List Nat),ps.length ≤ 3 -> okPs ps -> (txB ps).length ≤ 1000000 -> ∀ _ : Hp,match Nat.ble (txB ps).length 1000000 with
  | true=>K .next (ldφ f e way) (lcH zs b (k + 13) wo gl (ldT f e 2 (.rf (.dic (ddI ps))) (txB ps).reverse))
  | false=>False:=by kernel_rfl
end
noncomputable def xs10 : List Str:=[nm "pot",nm "widths",nm "glyph_texts",nm "chars",nm "first",nm "font",nm "shelf",nm "head"]
abbrev Uni:=Option (List (Nat × List Nat))
noncomputable def fonB (u : Uni) : Nat:=match u with
 | none=>16
 | some es=>21 + es.length
noncomputable def fonU (u : Uni) : Hp:=match u with
 | none=>[]
 | some es=>.inst 563 11 :: .flds [(nm "spaces",.ref 12),(nm "chars",.ref 14)] :: .list [.ref 13] :: .tup [.int 1,.int 0,.int 255] :: dOf (entR es 15) :: es.map λ e=>keyT e.1
noncomputable def fonT (f : Nat) (lst : Int) (nl : RF) (wr : MO) (u : Uni) : Hp:=.inst 858 8 :: .flds [(nm "names",.ref 9),(nm "cutting",.none),(nm "unicode",match u with | none=>.none | some _=>.ref 10),(nm "rows",.ref (fonB u - 6)),(nm "default",.int 0),(nm "unit",.ref (fonB u - 3)),(nm "standard",.ref (fonB u - 1))] :: .rf nl ::
 (fonU u ++ [.list [.ref (fonB u - 5)],.tup [.int (.ofNat f),.int lst,.ref (fonB u - 4)],wr,.inst 167 (fonB u - 2),.flds [(nm "top",.int 1),(nm "places",.int 3)],.tup []])
noncomputable def aE4 (e : Enc) : Nat:=match e with
 | none=>0
 | some _=>4
noncomputable def wW4 (way : Nat) : Nat:=match way with
 | 0=>0
 | 1=>0
 | _=>4
noncomputable def hdQ (B : Nat) (e : Enc) (way : Nat) : Nat:=B + 4 + aE4 e + wW4 way
noncomputable def talT (B f : Nat) (e : Enc) (way : Nat) (Z : List Nat) : Hp:=
 [.inst 337 (B + 1),.flds [(nm "table",.ref (B + 2)),(nm "trailer",.ref (B + 3 + aE4 e + wW4 way))],
  .dict ((match e with | none=>[] | some _=>[(.int 1,.ref (B + 3))]) ++ match way with | 0=>[] | 1=>[] | _=>[(.int 2,.ref (B + 3 + aE4 e))])] ++
 ((match e with | none=>[] | some q=>[.tup [.int 0,.ref (B + 4)],.list [.int (.ofNat q.1),.ref (B + 5)],.inst 216 (B + 6),nmF q.2]) ++
 ((match way with | 0=>[] | 1=>[] | _=>[.tup [.int 0,.ref (B + 4 + aE4 e)],.inst 259 (B + 5 + aE4 e),.flds [(nm "head",.ref (B + 6 + aE4 e)),(nm "octets",.bytes Z)],.dict []]) ++
 ([.dict [],hdE f (hdQ B e way + 1) (hdQ B e way + 3) (match way with | 0=>[] | _=>[(.str sTU,.ref (hdQ B e way + 5 + match e with | none=>0 | some _=>3))]),.inst 216 (hdQ B e way + 2),nmF tT] ++
 ((match e with | none=>[.inst 216 (hdQ B e way + 4),nmF winS] | some _=>[.dict [(.str sBE,.ref (hdQ B e way + 4)),(.str sDi,.ref (hdQ B e way + 6))],.inst 216 (hdQ B e way + 5),nmF winS,.inst 287 (hdQ B e way + 7),.flds [(nm "number",.int 1),(nm "generation",.int 0)]]) ++
 (match way with | 0=>[] | 1=>[.inst 216 (hdQ B e way + 6 + match e with | none=>0 | some _=>3),nmF idH] | _=>[.inst 287 (hdQ B e way + 6 + match e with | none=>0 | some _=>3),.flds [(nm "number",.int 2),(nm "generation",.int 0)]])))))
noncomputable def leφ (f B hd : Nat) : Nm:=(nm "pot",.cel 1) :: (nm "widths",.loc (.ref 4)) :: (nm "glyph_texts",.loc (.ref 5)) :: (nm "chars",.loc (.ref 6)) :: (nm "first",.loc (.int (.ofNat f))) :: (nm "font",.loc (.ref 7)) :: (nm "shelf",.loc (.ref B)) :: (nm "head",.loc (.ref hd)) :: []
noncomputable def leH (zs : List Int) (b : Obj) (k : Nat) (wo gl ch : MO) (T : Hp) : Hp:=.rf (.sl zs b) :: .cell (some (.ref 2)) :: .gpot 3 k :: .gcel :: wo :: gl :: ch :: T
noncomputable def nlE (e : Enc) : RF:=match e with
 | none=>.strs winL
 | some q=>.strs (winL.set q.1 q.2)
noncomputable def okEn (e : Enc) (P : Prop) : Prop:=match e with
 | none=>winS = winS ∧ P
 | some q=>winS = winS ∧ ((nm "text" = nm "text" ∧ (64 ≤ q.1 ∧ q.1 < 72) ∧ (q.1 < winL.length ∧ winL.length ≤ 1000) ∧ leq q.2 ndL = false) ∧ P)
noncomputable def leS (zs : List Int) (b : Obj) (k f i : Nat) (ws : MO) (gl ch : MO) (e : Enc) (way : Nat) (Z : List Nat) (u : Uni) : Nm × Hp:=(leφ f (fonB u) (hdQ (fonB u) e way),leH zs b k ws gl ch (fonT f ((.ofNat f + .ofNat (i + 1)) - 1) (nlE e) ws u ++ talT (fonB u) f e way Z))
section
variable (KK : Fl -> Option (Nm × Hp) -> Prop) (n k f : Nat) (q : Nat × List Nat) (zs : List Int) (b : Obj) (gl ch : RF) (w : Nat -> Nat) (Z : List Nat) (wn : Nat)
noncomputable def leP (e : Enc) (i way : Nat) (ch : MO) : Prop:=ssO lawT (n + 90) 920 20 ((bd 920 10).take 1) (ldφ f e wn) (lcH zs b k (intL ((List.range (i + 1)).map w)) (.rf gl) (ldT f e way ch Z)) (λ fl φ H=>KK fl (gcN xs10 φ H)) λ _ _=>False
noncomputable def leQ (e : Enc) (i way : Nat) : Prop:=okEn e (KK .next (some (leS zs b k f i (intL ((List.range (i + 1)).map w)) (.rf gl) (.dict []) e way Z none)))
noncomputable def leR (e : Enc) (i : Nat) : Prop:=match Nat.ble Z.length 1000000 with
 | true=>(∃ ps : List (Nat × List Nat),((ps.length ≤ 3 ∧ ∀ e ∈ ps,e.1 < 256 ∧ okTx e.2) ∧ (flatI (cmI ++ itsT (encP ps)) = Z.reverse ∧ Z.reverse.length ≤ 1000000)) ∧ cmQ (ddN ps) λ es=>∀ _ : Nat,okEn e (KK .next (some (leS zs b k f i (intL ((List.range (i + 1)).map w)) (.rf gl) (.rf ch) e 2 Z (some es))))) ∨
  (flatI (badI 0) = Z.reverse ∧ False) ∨ (flatI (badI 1) = Z.reverse ∧ False) ∨ (flatI (badI 2) = Z.reverse ∧ False)
 | false=>False
theorem le_00 : (encs q).map (λ e=>(List.range 2).map λ way=>leP KK n k f zs b gl w Z wn e 0 way (.dict [])) = (encs q).map λ e=>(List.range 2).map λ way=>leQ KK k f zs b gl w Z e 0 way:=by kernel_rfl
theorem le_01 : (encs q).map (λ e=>(List.range 2).map λ way=>leP KK n k f zs b gl w Z wn e 1 way (.dict [])) = (encs q).map λ e=>(List.range 2).map λ way=>leQ KK k f zs b gl w Z e 1 way:=by kernel_rfl
theorem le_02 : (encs q).map (λ e=>(List.range 2).map λ way=>leP KK n k f zs b gl w Z wn e 2 way (.dict [])) = (encs q).map λ e=>(List.range 2).map λ way=>leQ KK k f zs b gl w Z e 2 way:=by kernel_rfl
theorem le_03 : (encs q).map (λ e=>(List.range 2).map λ way=>leP KK n k f zs b gl w Z wn e 3 way (.dict [])) = (encs q).map λ e=>(List.range 2).map λ way=>leQ KK k f zs b gl w Z e 3 way:=by kernel_rfl
theorem le_04 : (encs q).map (λ e=>(List.range 2).map λ way=>leP KK n k f zs b gl w Z wn e 4 way (.dict [])) = (encs q).map λ e=>(List.range 2).map λ way=>leQ KK k f zs b gl w Z e 4 way:=by kernel_rfl
theorem le_05 : (encs q).map (λ e=>(List.range 2).map λ way=>leP KK n k f zs b gl w Z wn e 5 way (.dict [])) = (encs q).map λ e=>(List.range 2).map λ way=>leQ KK k f zs b gl w Z e 5 way:=by kernel_rfl
theorem le_20 : (encs q).map (λ e=>leP KK n k f zs b gl w Z wn e 0 2 (.rf ch)) = (encs q).map λ e=>leR KK k f zs b gl ch w Z e 0:=by kernel_rfl
theorem le_21 : (encs q).map (λ e=>leP KK n k f zs b gl w Z wn e 1 2 (.rf ch)) = (encs q).map λ e=>leR KK k f zs b gl ch w Z e 1:=by kernel_rfl
theorem le_22 : (encs q).map (λ e=>leP KK n k f zs b gl w Z wn e 2 2 (.rf ch)) = (encs q).map λ e=>leR KK k f zs b gl ch w Z e 2:=by kernel_rfl
theorem le_23 : (encs q).map (λ e=>leP KK n k f zs b gl w Z wn e 3 2 (.rf ch)) = (encs q).map λ e=>leR KK k f zs b gl ch w Z e 3:=by kernel_rfl
theorem le_24 : (encs q).map (λ e=>leP KK n k f zs b gl w Z wn e 4 2 (.rf ch)) = (encs q).map λ e=>leR KK k f zs b gl ch w Z e 4:=by kernel_rfl
theorem le_25 : (encs q).map (λ e=>leP KK n k f zs b gl w Z wn e 5 2 (.rf ch)) = (encs q).map λ e=>leR KK k f zs b gl ch w Z e 5:=by kernel_rfl
theorem six {P : Nat -> Prop} (h0 : P 0) (h1 : P 1) (h2 : P 2) (h3 : P 3) (h4 : P 4) (h5 : P 5) : ∀ {i},i < 6 -> P i
 | 0,_=>h0
 | 1,_=>h1
 | 2,_=>h2
 | 3,_=>h3
 | 4,_=>h4
 | 5,_=>h5
theorem le_0 {e : Enc} (he : e ∈ encs q) {i way : Nat} (hi : i < 6) (hw : way < 2) : leP KK n k f zs b gl w Z wn e i way (.dict []) = leQ KK k f zs b gl w Z e i way:=
 six (P:=λ i=>leP KK n k f zs b gl w Z wn e i way (.dict []) = leQ KK k f zs b gl w Z e i way) (at_i (List.map_inj_left.mp (le_00 KK n k f q zs b gl w Z wn) e he) hw) (at_i (List.map_inj_left.mp (le_01 KK n k f q zs b gl w Z wn) e he) hw) (at_i (List.map_inj_left.mp (le_02 KK n k f q zs b gl w Z wn) e he) hw) (at_i (List.map_inj_left.mp (le_03 KK n k f q zs b gl w Z wn) e he) hw) (at_i (List.map_inj_left.mp (le_04 KK n k f q zs b gl w Z wn) e he) hw) (at_i (List.map_inj_left.mp (le_05 KK n k f q zs b gl w Z wn) e he) hw) hi
theorem le_2 {e : Enc} (he : e ∈ encs q) {i : Nat} (hi : i < 6) : leP KK n k f zs b gl w Z wn e i 2 (.rf ch) = leR KK k f zs b gl ch w Z e i:=
 six (P:=λ i=>leP KK n k f zs b gl w Z wn e i 2 (.rf ch) = leR KK k f zs b gl ch w Z e i) (List.map_inj_left.mp (le_20 KK n k f q zs b gl ch w Z wn) e he) (List.map_inj_left.mp (le_21 KK n k f q zs b gl ch w Z wn) e he) (List.map_inj_left.mp (le_22 KK n k f q zs b gl ch w Z wn) e he) (List.map_inj_left.mp (le_23 KK n k f q zs b gl ch w Z wn) e he) (List.map_inj_left.mp (le_24 KK n k f q zs b gl ch w Z wn) e he) (List.map_inj_left.mp (le_25 KK n k f q zs b gl ch w Z wn) e he) hi
end
section
variable {w : World} {mg mb : Str -> Option Value} {zs : List Int} {b : Obj}
theorem rest_segK {l : List (Addr × Spec)} (hl : HypT w mg mb l) (n : Nat) {k : Nat} (j : Nat) {φ : Nm} {H : Hp} {K : Fl -> Nm -> Hp -> Prop} (h : ssO l n 920 20 ((bd 920 k).take j) φ H K λ _ _=>False)
  (hK : ∀ fl φ' H',K fl φ' H' -> H'[0]? = some (.rf (.sl zs b)) ∧ ((fl = .next ∧ Rest w mg mb zs b (k + j) φ' H') ∨ fl = .ret (.bool true))) : Rest w mg mb zs b k φ H:=by
 intro g₀ g A env L m R s a B C Z E I ha h0 Qc Ec hQ
 refine (show bd 920 k = (bd 920 k).take j ++ bd 920 (k + j) from by rw [<- bd_d,List.take_append_drop]) ▸ ?_
 delta ssO at h
 dsimp only at h
 refine execs_then ((soundO B C (hl g₀ B C) n).s.ss Z) h E I (λ n φ' H' R' m' a s' x=>x.elim) λ fl φ' H' R' m' x s' hk e I' E' hr sm=>?_
 obtain ⟨h0',hz⟩:=hK _ _ _ hk
 clear hk
 have ha':=e.get ha
 rcases hz with ⟨rfl,hz⟩ | rfl
 ·subst hr
  exact hz g₀ g A env L m' R' s' a B C Z E' I' ha' h0' Qc Ec λ s2 sm2=>hQ s2 (sm.trans sm2)
 ·obtain ⟨y,rfl,hy⟩:=hr
  rw [hy.invBool]
  refine yG λ G_ k_=>?_
  obtain ⟨o,h1,h2⟩:=I'.ob 0 _ a h0' rfl ha'
  refine k_ ?_
  exact hQ s' sm I'.S (by refine h1 ▸ ?_; exact congrArg some h2.1)
noncomputable def cloR (n : Nat) : Nat -> Option Nat:=λ m=>match Nat.blt m n with
 | true=>some m
 | false=>none
noncomputable def cloH (n : Nat) (H : Hp) : Prop:=∀ o ∈ H,renO (cloR n) o = some o
noncomputable def cloN (n : Nat) (φ : Nm) : Prop:=∀ x q,look x φ = some q -> renB (cloR n) q = some q
theorem rn_take {n : Nat} {R : List Addr} : Rn (cloR n) R (R.take n):=λ m m' e a ha=>by
 unfold cloR at e
 cases q : Nat.blt m n with
 | false=>replace e:=q ▸ e; cases e
 | true=>
  replace e:=q ▸ e
  obtain rfl:=Option.some.inj e
  refine (List.getElem?_take_of_lt (Nat.le_of_ble_eq_true q)).trans ?_
  exact ha
theorem rest_take {k n : Nat} {φ : Nm} {H : Hp} (hH : cloH n (H.take n)) (hφ : cloN n φ) (hn : 0 < n) (h : Rest w mg mb zs b k φ (H.take n)) : Rest w mg mb zs b k φ H:=by
 intro g₀ g A env L m R s a B C Z E I ha h0 Qc Ec hQ
 have act : ∀ {i x},Act (H.take n) (R.take n) i x -> Act H R i x ∧ i < n:=by
  rintro i x ⟨o,h1,h2,h3⟩
  have lt : i < n:=by have:=(List.getElem?_eq_some_iff.mp h1).1; simp only [List.length_take] at this; lia
  rw [List.getElem?_take_of_lt lt] at h1 h3
  exact ⟨⟨o,h1,h2,h3⟩,lt⟩
 refine h g₀ g A env L m (R.take n) s a B C Z ⟨E.loc,E.glo,E.blt,E.fn,E.kind,λ x q e=>?_,E.hdl⟩ {
  S:=I.S
  ns:=I.ns
  K:=I.K
  lo:=I.lo
  len:=by simp only [List.length_take,List.length_take,I.len]
  nd:=λ i j x p q=>I.nd i j x (act p).1 (act q).1
  ob:=λ i o x h1 h2 h3=>by
   obtain ⟨p,lt⟩:=act ⟨o,h1,h2,h3⟩
   have hm:=List.mem_of_getElem? h1
   rw [List.getElem?_take_of_lt lt] at h1 h3
   obtain ⟨y,hy,ho⟩:=I.ob i o x h1 h2 h3
   exact ⟨y,hy,ren_o rn_take (hH o hm) ho⟩
  out:=λ i x p=>I.out i x (act p).1 } (by refine (List.getElem?_take_of_lt hn).trans ?_; exact ha) (by refine (List.getElem?_take_of_lt hn).trans ?_; exact h0) Qc Ec hQ
 have e2:=hφ x q e
 have hb:=E.nm x q e
 cases q with
 | loc v=>
  obtain ⟨v',k1,k2⟩:=Option.map_eq_some_iff.mp e2
  cases k2
  obtain ⟨val,q1,q2⟩:=hb
  exact ⟨val,q1,ren_v rn_take k1 q2⟩
 | cel c=>
  obtain ⟨v',k1,k2⟩:=Option.map_eq_some_iff.mp e2
  cases k2
  obtain ⟨y,q1,q2⟩:=hb
  exact ⟨y,q1,rn_take c c k1 y q2⟩
end
noncomputable def leE (zs : List Int) (b : Obj) (k f : Nat) (lst : Int) (ws : List Int) (gl ch : List (Int × List Nat)) (l : List (List Nat)) (u : Uni) (g : Nat -> MO) (T : Hp) : Hp:=leH zs b k (.rf (.ints ws)) (.rf (.dic gl)) (.rf (.dic ch)) (fonT f lst (.strs l) (.rf (.ints ws)) u ++ (lit g 22 ++ T))
noncomputable def leψ (f B hd : Nat) (l : Nm) : Nm:=leφ f B hd ++ l
noncomputable def unis (a b d : Nat × List Nat) : List Uni:=[none,some [],some [a],some [a,b],some [a,b,d]]
noncomputable def rowN (m : Nat) (o : Nat -> Nat) : List (List Int):=(List.range m).map λ j=>[1,((o j : Nat) : Int)]
section
variable (K : Fl -> Nm -> Hp -> Prop) (X : Nat -> Hp -> Prop) (n k f hd B : Nat) (lst : Int) (ws : List Int) (gl ch : List (Int × List Nat)) (l : List (List Nat)) (g : Nat -> MO) (zs : List Int) (b : Obj) (a1 a2 a3 : Nat × List Nat) (o : Nat -> Nat) (y z : MO)
theorem lf_11 : (unis a1 a2 a3).map (λ u=>ssO lawT (n + 60) 920 20 ((bd 920 11).take 1) (leψ f B hd []) (leE zs b k f lst ws gl ch l u g []) K X) = (unis a1 a2 a3).map λ u=>(k ≤ 1000000 ∧ allN 9 λ m=>drK 8 64 m (k + 1) [] λ os k'=>optK False (octetsOf (os.map λ x=>.int (.ofNat x))) λ o=>K .next (leψ f B hd [(nm "octets",.loc (.bytes o))]) (leE zs b k' f lst ws gl ch l u g [.rng 0 (.ofNat m) 1,.gone,.list (os.map λ x=>.int (.ofNat x))])):=by kernel_rfl
theorem lf_12 : (unis a1 a2 a3).map (λ u=>(List.range 9).map λ m=>ssO lawT (n + 60) 920 20 ((bd 920 12).take 1) (leψ f B hd [(nm "octets",.loc (.bytes ((List.range m).map o)))]) (leE zs b k f lst ws gl ch l u g [y,.gone,z]) (λ fl φ H=>K fl φ (H.take (fonB u + 22))) X) =
  (unis a1 a2 a3).map λ u=>(List.range 9).map λ m=>match !(rowsEq (rowN m o) (rowN m o)) with
   | true=>K (.ret (.bool false)) (leψ f B hd [(nm "octets",.loc (.bytes ((List.range m).map o)))]) (leE zs b k f lst ws gl ch l u g [])
   | false=>K .next (leψ f B hd [(nm "octets",.loc (.bytes ((List.range m).map o)))]) (leE zs b k f lst ws gl ch l u g []):=by kernel_rfl
end
noncomputable def lgT : List (Addr × Spec):=(773,orc 4 wiF) :: lawT
theorem lg_hyp {w : World} {mg mb : Str -> Option Value} : HypT w mg mb lgT:=hyp_cons law_hyp λ _ B C=>wi_on B C
noncomputable def lgB : List Stmt:=foB (bd 920 13)
noncomputable def nxK (KN : Nm -> Hp -> Prop) : Fl -> Nm -> Hp -> Prop:=λ fl φ H=>match fl with
 | .next=>KN φ H
 | _=>False
noncomputable def lgφ (f B hd : Nat) (os : List Nat) (v : Option (V × V × V × V)) : Nm:=leψ f B hd ((nm "octets",.loc (.bytes os)) :: match v with
 | none=>[]
 | some v=>[(nm "octet",.loc v.1),(nm "spot",.loc v.2.1),(nm "width",.loc v.2.2.1),(nm "text",.loc v.2.2.2)])
noncomputable def dA (f o : Nat) (wn : List Nat) : Nat × Nat:=nrm 3 (wAt wn f o * 1)
noncomputable def dB (f o : Nat) (wn : List Nat) : Nat × Nat:=nrm ((dA f o wn).2 + 0) ((dA f o wn).1 * 1000)
noncomputable def dcO (t p : Nat) : MO:=.flds [(nm "top",.int (.ofNat t)),(nm "places",.int (.ofNat p))]
noncomputable def pairO (o : Nat) : MO:=.tup [.int 1,.int (.ofNat o)]
noncomputable def lgG (p f o : Nat) (wn : List Nat) (x : Int) : Hp:=[pairO o,dcO (wAt wn f o) 0,.inst 167 (p + 1),dcO (dA f o wn).1 (dA f o wn).2,.inst 167 (p + 3),dcO 1000 0,.inst 167 (p + 5),dcO (dB f o wn).1 (dB f o wn).2,.inst 167 (p + 7),.tup [.int (.ofNat (dB f o wn).1),.int (.ofNat (dB f o wn).2)],.tup [.int x,.int 0],pairO o]
noncomputable def glyP (l : List (List Nat)) (o : Nat) (tx : List Nat) (P : Prop) : Prop:=optK False (idxN l.length (.ofNat o)) λ j=>optK False (l[j]?) λ nmv=>∃ y,(nmv,y) ∈ gT ∧ match !(leq y tx) with
 | true=>False
 | false=>P
noncomputable def huU (es : List (Nat × List Nat)) (o : Nat) : Hp:=lit (λ _=>.gone) 15 ++ (es.map λ e=>keyT e.1) ++ [pairO o]
noncomputable def txtP (u : Uni) (l : List (List Nat)) (o : Nat) (tx : List Nat) (P : Prop) : Prop:=match u with
 | none=>glyP l o tx P
 | some es=>match es with
  | []=>glyP l o tx P
  | e :: r=>optK False ((dgetM (huU (e :: r) o) (.tdict (entR (e :: r) 15)) (.ref (15 + (e :: r).length))).map (·.isSome)) λ b=>match b with
   | true=>optK False ((dgetM (huU (e :: r) o) (.tdict (entR (e :: r) 15)) (.ref (15 + (e :: r).length))).join) λ v=>optK False ((eqM [] v (.str tx)).map (!·)) λ b=>match b with
    | true=>False
    | false=>P
   | false=>glyP l o tx P
noncomputable def widP (ws : List Int) (s : Int) (P : Int -> Prop) : Prop:=match decide (0 ≤ s) with
 | true=>match Nat.ble (ws.map V.int).length 1000000 with
  | true=>match decide (s < ((ws.map V.int).length : Int)) with
   | true=>optK False (idxN ws.length s) λ j=>optK False (ws[j]?) λ x=>P x
   | false=>P 0
  | false=>False
 | false=>P 0
noncomputable def chaP (ch gl : List (Int × List Nat)) (o : Nat) (P : List Nat -> Prop) : Prop:=match (dfind (.int (.ofNat o)) (ch.map λ p=>(KV.int p.1,V.str p.2))).isSome with
 | true=>optK False (dicF (.ofNat o) ch) P
 | false=>optK False (dicF (.ofNat o) gl) P
section
variable (KN : Nm -> Hp -> Prop) (n k f hd B : Nat) (lst : Int) (ws : List Int) (gl ch : List (Int × List Nat)) (l : List (List Nat)) (g g' : Nat -> MO) (zs : List Int) (b : Obj) (a1 a2 a3 : Nat × List Nat) (o : Nat -> Nat) (r : List Nat) (v : Option (V × V × V × V)) (os : List Nat)
noncomputable def lgL (u : Uni) (i : Nat) (v : Option (V × V × V × V)) : Prop:=fO lgT (n + 91) 920 20 (foT (bd 920 13)) (fonB u + 22) lgB (lgφ f B hd os v) (leE zs b k f lst ws gl ch l u g (.bitr ((List.range (i + 1)).map o ++ r) i :: lit g' (12 * i))) (nxK KN) λ _ _=>False
noncomputable def lgR (u : Uni) (i : Nat) : Prop:=widP ws (.ofNat (o i) - .ofNat f) λ x=>chaP ch gl (o i) λ tx=>∃ wn : List Nat,(ws = natI wn ∧ ((62 ≤ f ∧ f < 68) ∧ (64 ≤ o i ∧ o i < 72)) ∧ (1 ≤ wn.length ∧ wn.length ≤ 6) ∧ lst = .ofNat (f + wn.length - 1)) ∧
 match !(ieq [.ofNat (dB f (o i) wn).1,.ofNat (dB f (o i) wn).2] [x,0]) with
 | true=>False
 | false=>txtP u l (o i) tx (fO lgT (n + 90) 920 20 (foT (bd 920 13)) (fonB u + 22) lgB (lgφ f B hd os (some (.int (.ofNat (o i)),.int (.ofNat (o i) - .ofNat f),.int x,.str tx)))
  (leE zs b k f lst ws gl ch l u g (.bitr ((List.range (i + 1)).map o ++ r) (i + 1) :: (lit g' (12 * i) ++ lgG (fonB u + 23 + 12 * i) f (o i) wn x))) (nxK KN) λ _ _=>False)
theorem lg_0 : (unis a1 a2 a3).map (λ u=>lgL KN n k f hd B lst ws gl ch l g g' zs b o r os u 0 none) = (unis a1 a2 a3).map λ u=>lgR KN n k f hd B lst ws gl ch l g g' zs b o r os u 0:=by kernel_rfl
theorem lg_n (v : V × V × V × V) : (List.range 7).map (λ i=>lgL KN n k f hd B lst ws gl ch l g g' zs b o r os (none) (i + 1) (some v)) = (List.range 7).map λ i=>lgR KN n k f hd B lst ws gl ch l g g' zs b o r os (none) (i + 1):=by kernel_rfl
theorem lg_e0 (v : V × V × V × V) : (List.range 7).map (λ i=>lgL KN n k f hd B lst ws gl ch l g g' zs b o r os (some []) (i + 1) (some v)) = (List.range 7).map λ i=>lgR KN n k f hd B lst ws gl ch l g g' zs b o r os (some []) (i + 1):=by kernel_rfl
theorem lg_e1 (v : V × V × V × V) : (List.range 7).map (λ i=>lgL KN n k f hd B lst ws gl ch l g g' zs b o r os (some [a1]) (i + 1) (some v)) = (List.range 7).map λ i=>lgR KN n k f hd B lst ws gl ch l g g' zs b o r os (some [a1]) (i + 1):=by kernel_rfl
theorem lg_e2 (v : V × V × V × V) : (List.range 7).map (λ i=>lgL KN n k f hd B lst ws gl ch l g g' zs b o r os (some [a1,a2]) (i + 1) (some v)) = (List.range 7).map λ i=>lgR KN n k f hd B lst ws gl ch l g g' zs b o r os (some [a1,a2]) (i + 1):=by kernel_rfl
theorem lg_e3 (v : V × V × V × V) : (List.range 7).map (λ i=>lgL KN n k f hd B lst ws gl ch l g g' zs b o r os (some [a1,a2,a3]) (i + 1) (some v)) = (List.range 7).map λ i=>lgR KN n k f hd B lst ws gl ch l g g' zs b o r os (some [a1,a2,a3]) (i + 1):=by kernel_rfl
end
section
variable (KN : Nm -> Hp -> Prop) (K : Fl -> Nm -> Hp -> Prop) (X : Nat -> Hp -> Prop) (KR : Fl -> Option MO -> Prop) (n k f hd B : Nat) (lst : Int) (ws : List Int) (gl ch : List (Int × List Nat)) (l : List (List Nat)) (g g' : Nat -> MO) (zs : List Int) (b : Obj) (a1 a2 a3 : Nat × List Nat) (o : Nat -> Nat) (v : Option (V × V × V × V)) (os Z : List Nat) (q : Nat × List Nat)
theorem lg_x : (unis a1 a2 a3).map (λ u=>(List.range 9).map λ i=>fO lgT (n + 91) 920 20 (foT (bd 920 13)) (fonB u + 22) lgB (lgφ f B hd os v) (leE zs b k f lst ws gl ch l u g (.bitr ((List.range i).map o) i :: lit g' (12 * i))) (nxK KN) λ _ _=>False) =
 (unis a1 a2 a3).map λ u=>(List.range 9).map λ i=>KN (lgφ f B hd os v) (leE zs b k f lst ws gl ch l u g (.gone :: lit g' (12 * i))):=by kernel_rfl
theorem lg_in : (unis a1 a2 a3).map (λ u=>ssO lgT (n + 100) 920 20 ((bd 920 13).take 1) (lgφ f B hd os none) (leE zs b k f lst ws gl ch l u g []) K X) =
 (unis a1 a2 a3).map λ u=>fO lgT (n + 99) 920 20 (foT (bd 920 13)) (fonB u + 22) lgB (lgφ f B hd os none) (leE zs b k f lst ws gl ch l u g [.bitr os 0]) (thenO lgT (n + 100) 920 20 [] X K) X:=by kernel_rfl
theorem nx_then : thenO lgT n 920 20 [] X (nxK KN) = nxK KN:=by
 funext fl φ H
 unfold thenO
 cases fl with
 | next=>simp only [ss_nil]
 | _=>rfl
noncomputable def padH (T : Hp) : Hp:=T ++ List.replicate (22 - T.length) .gone
noncomputable def xsz : List Str:=[nm "pot",nm "widths",nm "shelf",nm "head"]
noncomputable def lzφ (B hd : Nat) : Nm:=[(nm "pot",.cel 1),(nm "widths",.loc (.ref 4)),(nm "shelf",.loc (.ref B)),(nm "head",.loc (.ref hd))]
noncomputable def lzH (zs : List Int) (b : Obj) (k f : Nat) (ws : List Int) (e : Enc) (way : Nat) (Z : List Nat) : Hp:=.rf (.sl zs b) :: .cell (some (.ref 2)) :: .gpot 3 k :: .gcel :: .rf (.ints ws) :: talT 5 f e way Z
theorem lz_gc : (unis a1 a2 a3).map (λ u=>(encs q).map λ e=>(List.range 3).map λ way=>(List.range 9).map λ i=>gcN xsz (lgφ f (fonB u) (hdQ (fonB u) e way) os v) (leH zs b k (.rf (.ints ws)) (.rf (.dic gl)) (.rf (.dic ch)) (fonT f lst (.strs l) (.rf (.ints ws)) u ++ (padH (talT (fonB u) f e way Z) ++ (.gone :: lit g' (12 * i)))))) =
 (unis a1 a2 a3).map λ u=>(encs q).map λ e=>(List.range 3).map λ way=>(List.range 9).map λ i=>some (lzφ 5 (hdQ 5 e way),lzH zs b k f ws e way Z):=by kernel_rfl
theorem lz_run : (encs q).map (λ e=>(List.range 3).map λ way=>ssO lawT (n + 100) 920 20 ((bd 920 14).take 3) (lzφ 5 (hdQ 5 e way)) (lzH zs b k f ws e way Z) (λ fl _ H=>KR fl (H[0]?)) λ _ _=>False) =
 (encs q).map λ e=>(List.range 3).map λ way=>(k ≤ 1000000 ∧ allN 3 λ j=>(∃ ps : List (Nat × List Nat),((ps.length ≤ 3 ∧ ∀ e ∈ ps,e.1 < 256 ∧ okTx e.2) ∧ (flatI (cmI ++ itsT (encP ps)) = flatI (badI j) ∧ (flatI (badI j)).length ≤ 1000000)) ∧ cmQ (ddN ps) λ _=>∀ _ : Nat,False) ∨
  (flatI (badI 0) = flatI (badI j) ∧ KR (.ret (.bool true)) (some (.rf (.sl zs b)))) ∨ (flatI (badI 1) = flatI (badI j) ∧ KR (.ret (.bool true)) (some (.rf (.sl zs b)))) ∨ (flatI (badI 2) = flatI (badI j) ∧ KR (.ret (.bool true)) (some (.rf (.sl zs b))))):=by kernel_rfl
end
theorem nrm_all : (List.range 1000).map (λ W=>nrm ((nrm 3 (W * 1)).2 + 0) ((nrm 3 (W * 1)).1 * 1000)) = (List.range 1000).map λ W=>(W,0):=by kernel_rfl
theorem dB_eq {f o : Nat} {wn : List Nat} (h : wAt wn f o < 1000) : dB f o wn = (wAt wn f o,0):=at_i nrm_all h
theorem wid_ok {wn : List Nat} {f o : Nat} {P : Int -> Prop} (hl : wn.length ≤ 6) (h : P (.ofNat (wAt wn f o))) : widP (natI wn) (.ofNat o - .ofNat f) P:=by
 have e : ((natI wn).map V.int).length = wn.length:=by unfold natI; rw [List.length_map,List.length_map]
 unfold widP
 refine e ▸ ?_
 refine (Nat.ble_eq_true_of_le (show wn.length ≤ 1000000 by lia)) ▸ ?_
 unfold wAt at h
 by_cases hf : f ≤ o
 ·have hs : (Int.ofNat o - Int.ofNat f) = Int.ofNat (o - f):=by simp only [Int.ofNat_eq_natCast]; omega
  rw [Nat.ble_eq_true_of_le hf] at h
  rw [hs,decide_eq_true (show (0 : Int) ≤ Int.ofNat (o - f) from Int.natCast_nonneg _)]
  dsimp only at h ⊢
  by_cases hlt : o - f < wn.length
  ·rw [decide_eq_true (show (Int.ofNat (o - f)) < ((wn.length : Nat) : Int) by simp only [Int.ofNat_eq_natCast]; omega)]
   have hi : idxN (natI wn).length (.ofNat (o - f)) = some (o - f):=by
    delta idxN natI
    dsimp only
    rw [List.length_map,show Nat.blt (o - f) wn.length = true from Nat.ble_eq_true_of_le hlt,Nat.ble_eq_true_of_le (by lia)]
    rfl
   simp only [hi,optK_val]
   unfold natI
   simp only [List.getElem?_map,List.getElem?_eq_getElem hlt,Option.map_some,optK_val]
   rw [List.getD_eq_getElem?_getD,List.getElem?_eq_getElem hlt] at h
   exact h
  ·rw [decide_eq_false (show ¬ (Int.ofNat (o - f)) < ((wn.length : Nat) : Int) by simp only [Int.ofNat_eq_natCast]; omega)]
   replace h:=(List.getD_eq_getElem?_getD) ▸ h
   rw [List.getElem?_eq_none (by exact Nat.le_of_not_lt ‹_›)] at h
   exact h
 ·simp only [decide_eq_false (show ¬ (0 : Int) ≤ Int.ofNat o - Int.ofNat f by simp only [Int.ofNat_eq_natCast]; omega)]
  have : Nat.ble f o = false:=by cases q : Nat.ble f o with | false=>rfl | true=>exact absurd (Nat.le_of_ble_eq_true q) hf
  replace h:=this ▸ h
  exact h
theorem cha_ok {ch gl : List (Int × List Nat)} {o : Nat} {P : List Nat -> Prop} {t : List Nat} (ht : (match dicF (.ofNat o) ch with | some t=>some t | none=>dicF (.ofNat o) gl) = some t) (h : P t) : chaP ch gl o P:=by
 unfold chaP
 rw [dfind_dic]
 cases q : dicF (.ofNat o) ch with
 | some x=>
  simp only [q] at ht
  obtain rfl:=Option.some.inj ht
  exact h
 | none=>
  rw [q] at ht
  show optK False (dicF (.ofNat o) gl) P
  rw [show dicF (.ofNat o) gl = some t from ht]
  exact h
theorem gly_ok {l : List (List Nat)} {o : Nat} {x tx : List Nat} {P : Prop} (hl : l[o]? = some x) (ho : o < 1000) (hx : (x,tx) ∈ gT) (h : P) : glyP l o tx P:=by
 have lt:=(List.getElem?_eq_some_iff.mp hl).1
 have hi : idxN l.length (.ofNat o) = some o:=by
  unfold idxN
  dsimp only
  refine (show Nat.blt o l.length = true from Nat.ble_eq_true_of_le lt) ▸ ?_
  rw [Nat.ble_eq_true_of_le (by lia)]
  rfl
 unfold glyP
 rw [hi,optK_val,hl,optK_val]
 refine ⟨tx,hx,?_⟩
 refine (leq_iff.mpr rfl) ▸ ?_
 exact h
theorem ieqO (c o : Nat) : ieq [1,xC c] [1,Int.ofNat o] = (Int.ofNat c == Int.ofNat o):=by
 rw [ieq_eq]
 unfold xC
 by_cases h : c = o
 ·subst h; simp
 ·have h1 : ¬ ([1,256 * 0 + Int.ofNat c] = [1,Int.ofNat o]):=by simp; omega
  have h2 : (Int.ofNat c == Int.ofNat o) = false:=by rw [beq_eq_false_iff_ne]; simp; omega
  simp only [decide_eq_false h1,h2]
noncomputable def chE (es : List (Nat × List Nat)) : List (Int × List Nat):=es.map λ e=>(.ofNat e.1,e.2)
theorem tf_dic (o : Nat) : ∀ (es : List (Nat × List Nat)) (i : Nat),tfind [1,.ofNat o] (entR es i) = (dicF (.ofNat o) (chE es)).map .str:=by
 intro l_
 induction l_ with
 | nil=>
  intro _
  exact rfl
 | cons e r ih_=>
  intro i
  show (match ieq [1,xC e.1] [1,.ofNat o] with
   | true=>some (V.str e.2)
   | false=>tfind [1,.ofNat o] (entR r (i + 1))) = Option.map V.str (match Int.ofNat e.1 == Int.ofNat o with
   | true=>some e.2
   | false=>dicF (.ofNat o) (chE r))
  rw [ieqO]
  cases Int.ofNat e.1 == Int.ofNat o with
  | true=>rfl
  | false=>exact ih_ (i + 1)
theorem tok_entR {H : Hp} : ∀ (es : List (Nat × List Nat)) (i : Nat),(∀ j e,es[j]? = some e -> H[i + j]? = some (keyT e.1)) -> tok H (entR es i) = true:=by
 intro l_
 induction l_ with
 | nil=>
  intro _ _
  exact rfl
 | cons e r ih_=>
  intro i h
  have h0:=h 0 e rfl
  dsimp only [entR,tok]
  have : tkey H i = some [1,xC e.1]:=by
   unfold tkey
   refine (show H[i]? = some (keyT e.1) from h0) ▸ ?_
   rfl
  refine this ▸ ?_
  dsimp only
  rw [ieq_refl]
  exact ih_ (i + 1) λ j x hx=>by refine (show i + 1 + j = i + (j + 1) from by simp +arith) ▸ ?_; exact h (j + 1) x hx
theorem lit_len (g : Nat -> MO) (n : Nat) : (lit g n).length = n:=by unfold lit; simp only [List.length_map,List.length_range]
theorem hu_get (es : List (Nat × List Nat)) (o : Nat) : dgetM (huU es o) (.tdict (entR es 15)) (.ref (15 + es.length)) = some ((dicF (.ofNat o) (chE es)).map .str):=by
 have h1 : tkey (huU es o) (15 + es.length) = some [1,.ofNat o]:=by
  delta tkey huU
  have : ((lit (λ _=>MO.gone) 15 ++ es.map λ e=>keyT e.1) ++ [pairO o])[15 + es.length]? = some (pairO o):=by
   refine (List.getElem?_append_right (by simp only [List.length_append,lit_len,List.length_map]; exact Nat.le_refl _)).trans ?_
   rw [List.length_append,lit_len,List.length_map,Nat.sub_self]
   rfl
  refine this ▸ ?_
  rfl
 have h2 : tok (huU es o) (entR es 15) = true:=tok_entR es 15 λ j e he=>by
  have lt:=(List.getElem?_eq_some_iff.mp he).1
  refine (List.getElem?_append_left (by simp only [List.length_append,lit_len,List.length_map]; lia)).trans ?_
  refine (List.getElem?_append_right (by rw [lit_len]; exact Nat.le_add_right _ _)).trans ?_
  rw [lit_len,Nat.add_sub_cancel_left,List.getElem?_map,he]
  rfl
 show (tkey (huU es o) (15 + es.length)).bind (λ q=>yB (tok (huU es o) (entR es 15)) (some (tfind q (entR es 15)))) = _
 refine h1 ▸ ?_
 refine h2 ▸ ?_
 exact congrArg some (tf_dic o es 15)
theorem txt_ok {u : Uni} {l : List (List Nat)} {o : Nat} {tx : List Nat} {P : Prop} (ho : o < 1000) (hP : P) (h : (∃ es,u = some es ∧ dicF (.ofNat o) (chE es) = some tx) ∨ ((∀ es,u = some es -> dicF (.ofNat o) (chE es) = none) ∧ ∃ x,l[o]? = some x ∧ (x,tx) ∈ gT)) : txtP u l o tx P:=by
 match u with
 | none=>
  rcases h with ⟨es,h,_⟩ | ⟨_,x,h1,h2⟩
  ·cases h
  ·exact gly_ok h1 ho h2 hP
 | some []=>
  rcases h with ⟨es,h,k⟩ | ⟨_,x,h1,h2⟩
  ·obtain rfl:=Option.some.inj h; cases k
  ·exact gly_ok h1 ho h2 hP
 | some (e :: r)=>
  show optK False ((dgetM (huU (e :: r) o) (.tdict (entR (e :: r) 15)) (.ref (15 + (e :: r).length))).map (·.isSome)) λ b=>match b with
   | true=>optK False ((dgetM (huU (e :: r) o) (.tdict (entR (e :: r) 15)) (.ref (15 + (e :: r).length))).join) λ v=>optK False ((eqM [] v (.str tx)).map (!·)) λ b=>match b with
    | true=>False
    | false=>P
   | false=>glyP l o tx P
  rw [hu_get]
  rcases h with ⟨es,h,k⟩ | ⟨k,x,h1,h2⟩
  ·obtain rfl:=Option.some.inj h
   rw [k]
   show match !(leq tx tx) with
    | true=>False
    | false=>P
   refine (leq_iff.mpr rfl) ▸ ?_
   exact hP
  ·rw [k _ rfl]
   exact gly_ok h1 ho h2 hP
section
variable {w : World} {mg mb : Str -> Option Value} {zs : List Int} {b : Obj}
theorem map_at {α β : Type} {f g : α -> β} {l : List α} (h : l.map f = l.map g) {x : α} (hx : x ∈ l) : f x = g x:=List.map_inj_left.mp h x hx
theorem rest14 {k f way : Nat} {ws : List Int} {q : Nat × List Nat} {e : Enc} {Z : List Nat} (hk : k ≤ 1000000) (he : e ∈ encs q) (hw : way < 3) : Rest w mg mb zs b 14 (lzφ 5 (hdQ 5 e way)) (lzH zs b k f ws e way Z):=by
 refine rest_segK law_hyp 100 3 (K:=λ fl _ H=>fl = .ret (.bool true) ∧ H[0]? = some (.rf (.sl zs b))) ?_ λ fl φ' H' h=>⟨h.2,.inr h.1⟩
 have:=at_i (map_at (lz_run (λ fl o=>fl = .ret (.bool true) ∧ o = some (.rf (.sl zs b))) 0 k f ws zs b Z q) he) hw
 refine Eq.mpr this ⟨hk,allN_of λ j hj=>.inr ?_⟩
 match j,hj with
 | 0,_=>exact .inl ⟨rfl,rfl,rfl⟩
 | 1,_=>exact .inr (.inl ⟨rfl,rfl,rfl⟩)
 | 2,_=>exact .inr (.inr ⟨rfl,rfl,rfl⟩)
theorem uni_mem (u : Uni) (h : ∀ es,u = some es -> es.length ≤ 3) : ∃ a1 a2 a3,u ∈ unis a1 a2 a3:=by
 match u,h with
 | none,_=>exact ⟨(0,[]),(0,[]),(0,[]),.head _⟩
 | some [],_=>exact ⟨(0,[]),(0,[]),(0,[]),.tail _ (.head _)⟩
 | some [a],_=>exact ⟨a,(0,[]),(0,[]),.tail _ (.tail _ (.head _))⟩
 | some [a,b],_=>exact ⟨a,b,(0,[]),.tail _ (.tail _ (.tail _ (.head _)))⟩
 | some [a,b,d],_=>exact ⟨a,b,d,.tail _ (.tail _ (.tail _ (.tail _ (.head _))))⟩
 | some (a :: b :: c :: d :: r),h=>exact absurd (h _ rfl) (by simp)
end
section
variable {KN : Nm -> Hp -> Prop} {n k f hd B : Nat} {lst : Int} {ws : List Int} {gl ch : List (Int × List Nat)} {l : List (List Nat)} {g g' : Nat -> MO} {zs : List Int} {b : Obj} {a1 a2 a3 : Nat × List Nat} {o : Nat -> Nat} {r : List Nat} {os : List Nat}
theorem lg_any {u : Uni} (hu : u ∈ unis a1 a2 a3) {i : Nat} (hi : i < 8) {v : Option (V × V × V × V)} (hv : (i = 0 ∧ v = none) ∨ ∃ j v',i = j + 1 ∧ v = some v') : lgL KN n k f hd B lst ws gl ch l g g' zs b o r os u i v = lgR KN n k f hd B lst ws gl ch l g g' zs b o r os u i:=by
 rcases hv with ⟨rfl,rfl⟩ | ⟨j,v',rfl,rfl⟩
 ·exact map_at (lg_0 KN n k f hd B lst ws gl ch l g g' zs b a1 a2 a3 o r os) hu
 ·have hj : j < 7:=by exact Nat.lt_of_succ_lt_succ ‹_›
  unfold unis at hu
  simp only [List.mem_cons,List.not_mem_nil,or_false] at hu
  rcases hu with rfl | rfl | rfl | rfl | rfl
  ·exact at_i (lg_n KN n k f hd B lst ws gl ch l g g' zs b o r os v') hj
  ·exact at_i (lg_e0 KN n k f hd B lst ws gl ch l g g' zs b o r os v') hj
  ·exact at_i (lg_e1 KN n k f hd B lst ws gl ch l g g' zs b a1 o r os v') hj
  ·exact at_i (lg_e2 KN n k f hd B lst ws gl ch l g g' zs b a1 a2 o r os v') hj
  ·exact at_i (lg_e3 KN n k f hd B lst ws gl ch l g g' zs b a1 a2 a3 o r os v') hj
noncomputable def TxOk (u : Uni) (ch gl : List (Int × List Nat)) (l : List (List Nat)) (o : Nat) : Prop:=∃ tx,(match dicF (.ofNat o) ch with | some t=>some t | none=>dicF (.ofNat o) gl) = some tx ∧
 ((∃ es,u = some es ∧ dicF (.ofNat o) (chE es) = some tx) ∨ ((∀ es,u = some es -> dicF (.ofNat o) (chE es) = none) ∧ ∃ x,l[o]? = some x ∧ (x,tx) ∈ gT))
theorem lg_loop {u : Uni} (hu : u ∈ unis a1 a2 a3) {wn : List Nat} (hf : 62 ≤ f ∧ f < 68) (hw : 1 ≤ wn.length ∧ wn.length ≤ 6) (hwv : ∀ o,wAt wn f o < 1000) (ho : ∀ o ∈ os,(64 ≤ o ∧ o < 72) ∧ TxOk u ch gl l o) (h8 : os.length ≤ 8)
  (hKN : ∀ v G,G.length = 12 * os.length -> KN (lgφ f B hd os v) (leE zs b k f (.ofNat (f + wn.length - 1)) (natI wn) gl ch l u g (.gone :: G))) :
  ∀ (r done : List Nat) (v : Option (V × V × V × V)) (G : List MO),os = done ++ r -> G.length = 12 * done.length -> ((done = [] ∧ v = none) ∨ (done ≠ [] ∧ ∃ v',v = some v')) ->
   fO lgT (n + 91 + r.length) 920 20 (foT (bd 920 13)) (fonB u + 22) lgB (lgφ f B hd os v) (leE zs b k f (.ofNat (f + wn.length - 1)) (natI wn) gl ch l u g (.bitr os done.length :: G)) (nxK KN) λ _ _=>False:=by
 intro l_
 induction l_ with
 | nil=>
  intro done v G hos hG hv
  simp only [List.append_nil] at hos
  subst hos
  have hg:=lit_of hG
  have:=at_i (map_at (lg_x KN n k f hd B (.ofNat (f + wn.length - 1)) (natI wn) gl ch l g (λ j=>G.getD j .gone) zs b a1 a2 a3 (λ j=>os.getD j 0) v os) hu) (show os.length < 9 by lia)
  rw [<- hg,<- ts_of rfl] at this
  exact Eq.mpr this (hKN v G hG)
 | cons x r ih_=>
  intro done v G hos hG hv
  have hg:=lit_of hG
  have hlen : os.length = done.length + r.length + 1:=by rw [hos]; simp; rfl
  obtain ⟨o,hO,hx⟩ : ∃ o : Nat -> Nat,(List.range (done.length + 1)).map o = done ++ [x] ∧ o done.length = x:=
   ⟨λ j=>(done ++ [x]).getD j 0,(ts_of (by simp)).symm,by show (done ++ [x]).getD done.length 0 = x; refine (List.getD_eq_getElem?_getD).trans ?_; rw [List.getElem?_append_right (Nat.le_refl _)]; simp⟩
  have hlist : os = (List.range (done.length + 1)).map o ++ r:=by simp only [hO,hos]; simp
  have hvi : (done.length = 0 ∧ v = none) ∨ ∃ j v',done.length = j + 1 ∧ v = some v':=by
   rcases hv with ⟨rfl,rfl⟩ | ⟨h1,v',rfl⟩
   ·exact .inl ⟨rfl,rfl⟩
   ·cases done with
    | nil=>exact absurd rfl h1
    | cons a d=>exact .inr ⟨d.length,v',rfl,rfl⟩
  have e:=lg_any (KN:=KN) (n:=n + r.length + 1) (k:=k) (f:=f) (hd:=hd) (B:=B) (lst:=.ofNat (f + wn.length - 1)) (ws:=natI wn) (gl:=gl) (ch:=ch) (l:=l) (g:=g) (g':=λ j=>G.getD j .gone) (zs:=zs) (b:=b) (o:=o) (r:=r) (os:=os) hu (show done.length < 8 by lia) hvi
  unfold lgL lgR at e
  rw [<- hg,<- hlist,hx] at e
  rw [show n + 91 + (x :: r).length = n + r.length + 1 + 91 from by simp; simp +arith]
  refine yG λ G_ k_=>?_
  obtain ⟨⟨h1,h2⟩,tx,h3,h4⟩:=ho x (by rw [hos]; simp)
  refine k_ ?_
  refine Eq.mpr e (wid_ok hw.2 (cha_ok h3 ⟨wn,⟨rfl,⟨hf,h1,h2⟩,hw,rfl⟩,?_⟩))
  refine (dB_eq (hwv x)) ▸ ?_
  have hi : ieq [Int.ofNat (wAt wn f x,0).1,Int.ofNat (wAt wn f x,0).2] [Int.ofNat (wAt wn f x),0] = true:=ieq_refl _
  rw [hi]
  refine txt_ok (by omega) ?_ h4
  rw [show n + r.length + 1 + 90 = n + 91 + r.length from by simp +arith]
  have:=ih_ (done ++ [x]) (some (.int (.ofNat x),.int (.ofNat x - .ofNat f),.int (.ofNat (wAt wn f x)),.str tx)) (G ++ lgG (fonB u + 23 + 12 * done.length) f x wn (.ofNat (wAt wn f x))) (by refine hos.trans ?_; simp) (by simp only [List.length_append,hG,List.length_append]; show 12 * done.length + 12 = _; simp; rfl) (.inr ⟨by simp,_,rfl⟩)
  rw [show (done ++ [x]).length = done.length + 1 from by simp] at this
  exact this
end
section
variable {w : World} {mg mb : Str -> Option Value} {zs : List Int} {b : Obj}
theorem rest13 {k f way : Nat} {gl ch : List (Int × List Nat)} {l : List (List Nat)} {g : Nat -> MO} {a1 a2 a3 : Nat × List Nat} {os Z wn : List Nat} {u : Uni} {q : Nat × List Nat} {e : Enc} (hk : k ≤ 1000000) (he : e ∈ encs q) (hway : way < 3) (hu : u ∈ unis a1 a2 a3)
  (hf : 62 ≤ f ∧ f < 68) (hw : 1 ≤ wn.length ∧ wn.length ≤ 6) (hwv : ∀ o,wAt wn f o < 1000) (ho : ∀ o ∈ os,(64 ≤ o ∧ o < 72) ∧ TxOk u ch gl l o) (h8 : os.length ≤ 8) (hg : lit g 22 = padH (talT (fonB u) f e way Z)) :
  Rest w mg mb zs b 13 (lgφ f (fonB u) (hdQ (fonB u) e way) os none) (leE zs b k f (.ofNat (f + wn.length - 1)) (natI wn) gl ch l u g []):=by
 refine rest_segK lg_hyp 100 1 (K:=nxK λ φ H=>H[0]? = some (.rf (.sl zs b)) ∧ Rest w mg mb zs b 14 φ H) ?_ λ fl φ' H' h=>?_
 ·rw [show 100 = 0 + 100 from rfl,map_at (lg_in _ _ 0 k f (hdQ (fonB u) e way) (fonB u) (.ofNat (f + wn.length - 1)) (natI wn) gl ch l g zs b a1 a2 a3 os) hu,nx_then,show 0 + 99 = 8 - os.length + 91 + os.length from by grind]
  refine lg_loop hu hf hw hwv ho h8 (λ v G hG=>⟨rfl,?_⟩) os [] none [] rfl rfl (.inl ⟨rfl,rfl⟩)
  have hG':=lit_of hG
  have hgc:=at_i (at_i (map_at (map_at (lz_gc k f (.ofNat (f + wn.length - 1)) (natI wn) gl ch l (λ j=>G.getD j .gone) zs b a1 a2 a3 v os Z q) hu) he) hway) (show os.length < 9 by lia)
  simp only [<- hG',<- hg] at hgc
  exact rest_gc xsz hgc (Wk.refl _) rfl (rest14 hk he hway)
 ·cases fl with
  | next=>exact ⟨h.1,.inl ⟨rfl,h.2⟩⟩
  | _=>exact h.elim
end
section
variable (k f : Nat) (lst : Int) (ws : List Int) (gl ch : List (Int × List Nat)) (l : List (List Nat)) (zs : List Int) (b : Obj) (a1 a2 a3 : Nat × List Nat) (os Z : List Nat) (q : Nat × List Nat)
theorem lf_clo : (unis a1 a2 a3).map (λ u=>(encs q).map λ e=>(List.range 3).map λ way=>((leH zs b k (.rf (.ints ws)) (.rf (.dic gl)) (.rf (.dic ch)) (fonT f lst (.strs l) (.rf (.ints ws)) u ++ padH (talT (fonB u) f e way Z))).map (renO (cloR (fonB u + 22))),(lgφ f (fonB u) (hdQ (fonB u) e way) os none).map λ p=>renB (cloR (fonB u + 22)) p.2)) =
 (unis a1 a2 a3).map λ u=>(encs q).map λ e=>(List.range 3).map λ way=>((leH zs b k (.rf (.ints ws)) (.rf (.dic gl)) (.rf (.dic ch)) (fonT f lst (.strs l) (.rf (.ints ws)) u ++ padH (talT (fonB u) f e way Z))).map some,(lgφ f (fonB u) (hdQ (fonB u) e way) os none).map λ p=>some p.2):=by kernel_rfl
end
theorem ieqs_refl : ∀ p : List (List Int),rowsEq p p = true:=by
 intro l_
 induction l_ with
 | nil=>
  exact rfl
 | cons a r ih_=>
  unfold rowsEq
  dsimp only
  rw [ieq_refl]
  exact ih_
section
variable {w : World} {mg mb : Str -> Option Value} {zs : List Int} {b : Obj}
theorem rest12 {k f way : Nat} {gl ch : List (Int × List Nat)} {l : List (List Nat)} {g : Nat -> MO} {a1 a2 a3 : Nat × List Nat} {os Z wn : List Nat} {u : Uni} {q : Nat × List Nat} {e : Enc} {y z : MO} (hk : k ≤ 1000000) (he : e ∈ encs q) (hway : way < 3) (hu : u ∈ unis a1 a2 a3)
  (hf : 62 ≤ f ∧ f < 68) (hw : 1 ≤ wn.length ∧ wn.length ≤ 6) (hwv : ∀ o,wAt wn f o < 1000) (ho : ∀ o ∈ os,(64 ≤ o ∧ o < 72) ∧ TxOk u ch gl l o) (h8 : os.length ≤ 8) (hg : lit g 22 = padH (talT (fonB u) f e way Z)) :
  Rest w mg mb zs b 12 (lgφ f (fonB u) (hdQ (fonB u) e way) os none) (leE zs b k f (.ofNat (f + wn.length - 1)) (natI wn) gl ch l u g [y,.gone,z]):=by
 have hc:=at_i (map_at (map_at (lf_clo k f (.ofNat (f + wn.length - 1)) (natI wn) gl ch l zs b a1 a2 a3 os Z q) hu) he) hway
 rw [Prod.mk.injEq,<- hg] at hc
 have h13:=rest13 (w:=w) (mg:=mg) (mb:=mb) (zs:=zs) (b:=b) hk he hway hu hf hw hwv ho h8 hg
 refine rest_segK law_hyp 60 1 (K:=λ fl φ H=>fl = .next ∧ (φ = lgφ f (fonB u) (hdQ (fonB u) e way) os none ∧ H.take (fonB u + 22) = leE zs b k f (.ofNat (f + wn.length - 1)) (natI wn) gl ch l u g [])) ?_ λ fl φ' H' h=>?_
 ·have:=at_i (map_at (lf_12 (λ fl φ H=>fl = .next ∧ (φ = lgφ f (fonB u) (hdQ (fonB u) e way) os none ∧ H = leE zs b k f (.ofNat (f + wn.length - 1)) (natI wn) gl ch l u g [])) (λ _ _=>False) 0 k f (hdQ (fonB u) e way) (fonB u) (.ofNat (f + wn.length - 1)) (natI wn) gl ch l g zs b a1 a2 a3 (λ j=>os.getD j 0) y z) hu) (show os.length < 9 by lia)
  rw [<- ts_of rfl,ieqs_refl] at this
  exact Eq.mpr this ⟨rfl,rfl,rfl⟩
 ·obtain ⟨rfl,rfl,h3⟩:=h
  have hE : leE zs b k f (.ofNat (f + wn.length - 1)) (natI wn) gl ch l u g [] = leH zs b k (.rf (.ints (natI wn))) (.rf (.dic gl)) (.rf (.dic ch)) (fonT f (.ofNat (f + wn.length - 1)) (.strs l) (.rf (.ints (natI wn))) u ++ lit g 22):=by unfold leE; simp only [List.append_nil]
  have h0 : (H'.take (fonB u + 22))[0]? = some (.rf (.sl zs b)):=by rw [h3]; rfl
  rw [List.getElem?_take_of_lt (by omega)] at h0
  refine ⟨h0,.inl ⟨rfl,rest_take (n:=fonB u + 22) ?_ ?_ (by omega) (by simp only [h3]; exact h13)⟩⟩
  ·simp only [h3,hE]
   intro o hm
   exact map_at hc.1 hm
  ·intro x p hx
   exact map_at hc.2 (look_mem hx)
end
theorem drK_ok {lim base : Nat} {P : List Nat -> Nat -> Prop} : ∀ {m k : Nat} {ts : List Nat},k + m ≤ 1000000 -> (∀ c ∈ ts,base ≤ c ∧ c < base + lim) -> (∀ ts',ts'.length = ts.length + m -> (∀ c ∈ ts',base ≤ c ∧ c < base + lim) -> P ts' (k + m)) -> drK lim base m k ts P:=by
 intro l_
 induction l_ with
 | zero=>
  intro k ts _ hc h
  exact h ts rfl hc
 | succ m ih_=>
  intro k ts hk hc h
  refine ⟨by lia,λ r hr=>ih_ (by lia) (λ c h=>?_) λ ts' h1 h2=>?_⟩
  ·rcases List.mem_append.mp h with h | h
   ·exact hc c h
   ·rw [List.mem_singleton.mp h]; lia
  ·have:=h ts' (by simp only [h1,List.length_append]; simp; simp +arith) h2
   simp only [show k + (m + 1) = k + 1 + m from by simp +arith] at this
   exact this
section
variable {w : World} {mg mb : Str -> Option Value} {zs : List Int} {b : Obj}
theorem rest11 {k f way : Nat} {gl ch : List (Int × List Nat)} {l : List (List Nat)} {g : Nat -> MO} {a1 a2 a3 : Nat × List Nat} {Z wn : List Nat} {u : Uni} {q : Nat × List Nat} {e : Enc} (hk : k + 9 ≤ 1000000) (he : e ∈ encs q) (hway : way < 3) (hu : u ∈ unis a1 a2 a3)
  (hf : 62 ≤ f ∧ f < 68) (hw : 1 ≤ wn.length ∧ wn.length ≤ 6) (hwv : ∀ o,wAt wn f o < 1000) (ho : ∀ o,64 ≤ o -> o < 72 -> TxOk u ch gl l o) (hg : lit g 22 = padH (talT (fonB u) f e way Z)) :
  Rest w mg mb zs b 11 (leψ f (fonB u) (hdQ (fonB u) e way) []) (leE zs b k f (.ofNat (f + wn.length - 1)) (natI wn) gl ch l u g []):=by
 refine rest_segK law_hyp 60 1 (K:=λ fl φ H=>H[0]? = some (.rf (.sl zs b)) ∧ (fl = .next ∧ Rest w mg mb zs b 12 φ H)) ?_ λ fl φ' H' h=>⟨h.1,.inl h.2⟩
 refine Eq.mpr (map_at (lf_11 _ _ 0 k f (hdQ (fonB u) e way) (fonB u) (.ofNat (f + wn.length - 1)) (natI wn) gl ch l g zs b a1 a2 a3) hu) ⟨by lia,allN_of λ m hm=>drK_ok (by lia) (λ c h=>nomatch h) λ os h1 h2=>?_⟩
 rw [octets_map λ c hc=>by have:=h2 c hc; lia,optK_val]
 exact ⟨rfl,rfl,rest12 (by lia) he hway hu hf hw hwv (λ o h=>⟨h2 o h,ho o (h2 o h).1 (h2 o h).2⟩) (by rw [h1]; simp; exact Nat.le_of_succ_le_succ ‹_›) hg⟩
end
theorem Wk.app {a a' b b' : Hp} (h : Wk a a') (k : Wk b b') : Wk (a ++ b) (a' ++ b'):=by
 induction h with
 | nil=>exact k
 | cons h1 _ ih=>exact .cons h1 ih
theorem intL_eq (wn : List Nat) : intL wn = (RF.ints (natI wn)).mo:=by
 show MO.list (wn.map λ x=>.int (.ofNat x)) = .list ((wn.map Int.ofNat).map V.int)
 refine List.map_map ▸ ?_
 rfl
theorem tal_len (B f : Nat) (q : Nat × List Nat) (Z : List Nat) : (encs q).map (λ e=>(List.range 3).map λ way=>Nat.ble (talT B f e way Z).length 22) = (encs q).map λ _=>(List.range 3).map λ _=>true:=by kernel_rfl
section
variable {w : World} {mg mb : Str -> Option Value} {zs : List Int} {b : Obj}
theorem rest10c {k f way : Nat} {gl ch : List (Int × List Nat)} {l : List (List Nat)} {a1 a2 a3 : Nat × List Nat} {Z wn : List Nat} {u : Uni} {q : Nat × List Nat} {e : Enc} (hk : k + 9 ≤ 1000000) (he : e ∈ encs q) (hway : way < 3) (hu : u ∈ unis a1 a2 a3)
  (hf : 62 ≤ f ∧ f < 68) (hw : 1 ≤ wn.length ∧ wn.length ≤ 6) (hwv : ∀ o,wAt wn f o < 1000) (ho : ∀ o,64 ≤ o -> o < 72 -> TxOk u ch gl l o) {cho : MO} (hch : Wk1 (.rf (.dic ch)) cho) :
  Rest w mg mb zs b 11 (leφ f (fonB u) (hdQ (fonB u) e way)) (leH zs b k (intL wn) (.rf (.dic gl)) cho (fonT f (.ofNat (f + wn.length - 1)) (.strs l) (intL wn) u ++ talT (fonB u) f e way Z)):=by
 have hlen:=Nat.le_of_ble_eq_true (at_i (map_at (tal_len (fonB u) f q Z) he) hway)
 have hwi : Wk1 (.rf (.ints (natI wn))) (intL wn):=intL_eq wn ▸ .rf _
 have hg : lit (λ j=>(padH (talT (fonB u) f e way Z)).getD j .gone) 22 = padH (talT (fonB u) f e way Z):=(lit_of (by unfold padH; simp only [List.length_append,List.length_replicate]; grind)).symm
 have h11:=rest11 (w:=w) (mg:=mg) (mb:=mb) (zs:=zs) (b:=b) hk he hway hu hf hw hwv ho hg
 refine rest_wk (H':=leH zs b k (.rf (.ints (natI wn))) (.rf (.dic gl)) (.rf (.dic ch)) (fonT f (.ofNat (f + wn.length - 1)) (.strs l) (.rf (.ints (natI wn))) u ++ talT (fonB u) f e way Z)) ?_ rfl (rest_pad (n:=22 - (talT (fonB u) f e way Z).length) ?_)
 ·unfold leH
  refine .cons (.refl _) (.cons (.refl _) (.cons (.refl _) (.cons (.refl _) (.cons hwi (.cons (.refl _) (.cons hch (Wk.app ?_ (Wk.refl _))))))))
  exact .cons (.refl _) (.cons (.refl _) (.cons (.refl _) (Wk.app (Wk.refl _) (.cons (.refl _) (.cons (.refl _) (.cons hwi (Wk.refl _)))))))
 ·unfold leE leψ at h11
  simp only [List.append_nil,List.append_nil,hg] at h11
  unfold padH at h11
  rw [<- List.append_assoc] at h11
  exact h11
end
noncomputable def GlOk (gl : List (Int × List Nat)) (l : List (List Nat)) : Prop:=∀ o,64 ≤ o -> o < 72 -> ∃ tx x,dicF (.ofNat o) gl = some tx ∧ l[o]? = some x ∧ (x,tx) ∈ gT
noncomputable def uniC (u : Uni) : List (Int × List Nat):=match u with
 | none=>[]
 | some es=>chE es
theorem tx_ok {u : Uni} {gl : List (Int × List Nat)} {l : List (List Nat)} (h : GlOk gl l) {o : Nat} (h1 : 64 ≤ o) (h2 : o < 72) : TxOk u (uniC u) gl l o:=by
 obtain ⟨tx,x,k1,k2,k3⟩:=h o h1 h2
 cases u with
 | none=>exact ⟨tx,k1,.inr ⟨λ es e=>(nomatch e),x,k2,k3⟩⟩
 | some es=>
  cases q : dicF (.ofNat o) (chE es) with
  | some t=>exact ⟨t,by show (match dicF (.ofNat o) (chE es) with | some t=>some t | none=>dicF (.ofNat o) gl) = _; rw [q],.inl ⟨es,rfl,q⟩⟩
  | none=>exact ⟨tx,by show (match dicF (.ofNat o) (chE es) with | some t=>some t | none=>dicF (.ofNat o) gl) = _; refine q ▸ ?_; exact k1,.inr ⟨λ es' e=>by obtain rfl:=Option.some.inj e; exact q,x,k2,k3⟩⟩
noncomputable def gN (r : Nat) : List Nat × List Nat:=gT.getD r ([],[])
theorem gN_mem {r : Nat} (h : r < 11) : gN r ∈ gT:=by
 unfold gN
 rw [List.getD_eq_getElem?_getD,List.getElem?_eq_getElem (show r < gT.length from h)]
 exact List.getElem_mem _
theorem glE_at : (List.range 8).map (λ r=>dicF (.ofNat (64 + r)) glE) = (List.range 8).map λ r=>some (gN r).2:=by kernel_rfl
theorem win_eq : (List.range 8).map (λ r=>winL[64 + r]?) = (List.range 8).map λ r=>some (gN r).1:=(congrArg (·.2.1) win_at).trans (by kernel_rfl)
theorem gl_win : GlOk glE winL:=by
 intro o h1 h2
 have h : o - 64 < 8:=by omega
 have e1:=at_i glE_at h
 have e2:=at_i win_eq h
 rw [show 64 + (o - 64) = o from by omega] at e1 e2
 exact ⟨_,_,e1,e2,gN_mem (by omega)⟩
noncomputable def putI (c : Nat) (t : List Nat) : List (Int × List Nat) -> List (Int × List Nat)
 | []=>[(.ofNat c,t)]
 | e :: r=>match e.1 == Int.ofNat c with
  | true=>(e.1,t) :: r
  | false=>e :: putI c t r
theorem dput_putI (c : Nat) (t : List Nat) : ∀ es : List (Int × List Nat),dput (.int (.ofNat c)) (.str t) (es.map λ p=>(KV.int p.1,V.str p.2)) = (putI c t es).map λ p=>(KV.int p.1,V.str p.2):=by
 intro l_
 induction l_ with
 | nil=>
  exact rfl
 | cons e r ih_=>
  show (match e.1 == Int.ofNat c with
   | true=>(KV.int e.1,V.str t) :: r.map λ p=>(KV.int p.1,V.str p.2)
   | false=>(KV.int e.1,V.str e.2) :: dput (.int (.ofNat c)) (.str t) (r.map λ p=>(KV.int p.1,V.str p.2))) = List.map (λ p=>(KV.int p.1,V.str p.2)) (match e.1 == Int.ofNat c with
   | true=>(e.1,t) :: r
   | false=>e :: putI c t r)
  cases e.1 == Int.ofNat c with
  | true=>rfl
  | false=>rw [ih_]; rfl
theorem dicF_putI (c o : Nat) (t : List Nat) : ∀ es : List (Int × List Nat),dicF (.ofNat o) (putI c t es) = if o = c then some t else dicF (.ofNat o) es:=by
 intro l_
 induction l_ with
 | nil=>
  show (match Int.ofNat c == Int.ofNat o with
   | true=>some t
   | false=>none) = _
  by_cases h : o = c
  ·rw [if_pos h,h,beq_self_eq_true]
  ·rw [if_neg h,show (Int.ofNat c == Int.ofNat o) = false from beq_eq_false_iff_ne.mpr λ e=>h (Int.ofNat.inj e).symm]; rfl
 | cons e r ih_=>
  dsimp only [putI]
  cases q : e.1 == Int.ofNat c with
  | true=>
   have he:=beq_iff_eq.mp q
   show (match e.1 == Int.ofNat o with
    | true=>some t
    | false=>dicF (.ofNat o) r) = if o = c then some t else (match e.1 == Int.ofNat o with
    | true=>some e.2
    | false=>dicF (.ofNat o) r)
   by_cases h : o = c
   ·rw [if_pos h,he,h,beq_self_eq_true]
   ·rw [if_neg h,he,show (Int.ofNat c == Int.ofNat o) = false from beq_eq_false_iff_ne.mpr λ e=>h (Int.ofNat.inj e).symm]
  | false=>
   show (match e.1 == Int.ofNat o with
    | true=>some e.2
    | false=>dicF (.ofNat o) (putI c t r)) = if o = c then some t else (match e.1 == Int.ofNat o with
    | true=>some e.2
    | false=>dicF (.ofNat o) r)
   refine ih_ ▸ ?_
   by_cases h : o = c
   ·subst h; rw [q,if_pos rfl]
   ·refine Eq.trans ?_ (if_neg h).symm; exact (if_neg h) ▸ rfl
theorem nm3_gT {i : Nat} (h : i < 3) : nm3 i ∈ gT:=by
 match i,h with
 | 0,_=>exact gN_mem (r:=8) (by decide)
 | 1,_=>exact gN_mem (r:=9) (by decide)
 | 2,_=>exact gN_mem (r:=10) (by decide)
theorem gl_dif {c i : Nat} (hc : 64 ≤ c ∧ c < 72) (hi : i < 3) : GlOk (putI c (nm3 i).2 glE) (winL.set c (nm3 i).1):=by
 intro o h1 h2
 obtain ⟨tx,x,k1,k2,k3⟩:=gl_win o h1 h2
 rw [dicF_putI]
 by_cases h : o = c
 ·subst h
  refine (if_pos rfl) ▸ ?_
  refine ⟨_,(nm3 i).1,rfl,?_,nm3_gT hi⟩
  exact (List.getElem?_set_self (List.getElem?_eq_some_iff.mp k2).1) ▸ rfl
 ·refine (if_neg h) ▸ ?_
  exact ⟨tx,x,k1,by refine (List.getElem?_set_ne λ e=>h e.symm).trans ?_; exact k2,k3⟩
noncomputable def isRf : MO -> Bool
 | .rf _=>true
 | _=>false
theorem mapF {α β : Type} {o : Option α} {f : α -> β} {p : β -> Bool} (hf : ∀ a,p (f a) = false) {b : β} (hb : p b = true) (h : o.map f = some b) : False:=by
 cases o with
 | none=>cases h
 | some a=>have:=hf a; replace this:=(Option.some.inj h) ▸ this; replace this:=hb ▸ this; cases this
theorem renO_rf {r : Nat -> Option Nat} {o : MO} {q : RF} (h : renO r o = some (.rf q)) : o = .rf q:=by
 cases o with
 | rf x=>cases h; rfl
 | list _=>exact (mapF (p:=isRf) (λ _=>rfl) rfl h).elim
 | slist _ _=>exact (mapF (p:=isRf) (λ _=>rfl) rfl h).elim
 | tup _=>exact (mapF (p:=isRf) (λ _=>rfl) rfl h).elim
 | dict _=>exact (mapF (p:=isRf) (λ _=>rfl) rfl h).elim
 | tdict _=>exact (mapF (p:=isRf) (λ _=>rfl) rfl h).elim
 | inst _ _=>exact (mapF (p:=isRf) (λ _=>rfl) rfl h).elim
 | flds _=>exact (mapF (p:=isRf) (λ _=>rfl) rfl h).elim
 | cell v=>cases v with
  | none=>cases h
  | some v=>exact (mapF (p:=isRf) (λ _=>rfl) rfl h).elim
 | litr _ _=>exact (mapF (p:=isRf) (λ _=>rfl) rfl h).elim
 | titr _ _=>exact (mapF (p:=isRf) (λ _=>rfl) rfl h).elim
 | exc _ d _=>cases d with
  | none=>cases h
  | some d=>exact (mapF (p:=isRf) (λ _=>rfl) rfl h).elim
 | gpot _ _=>exact (mapF (p:=isRf) (λ _=>rfl) rfl h).elim
 | _=>cases h
set_option tactic.hygienic true in
theorem gc_head {xs : List Str} {φ φ' : Nm} {H Hs : Hp} {q : RF} (h : gcN xs φ H = some (φ',Hs)) (h0 : Hs[0]? = some (.rf q)) : H[0]? = some (.rf q):=by
 unfold gcN at h
 split at h
 ·split at h
  ·rename_i σ' _
   split at h
   ·rename_i h1 h2
    refine yG λ G_ k_=>?_
    cases h
    have lt:=(List.getElem?_eq_some_iff.mp h0).1
    obtain ⟨n',k1,k2⟩:=mapO_get h1 (List.getElem?_eq_getElem lt)
    obtain rfl:=Option.some.inj k1
    refine k_ ?_
    rw [List.getElem?_eq_getElem lt] at h0
    cases q0 : H[0]? with
    | none=>replace k2:=q0 ▸ k2; cases k2
    | some o=>
     rw [q0] at k2
     dsimp only at k2
     rw [Option.some.inj h0] at k2
     exact congrArg some (renO_rf k2)
   ·cases h
  ·cases h
 ·cases h
theorem win_len : (Nat.ble 72 winL.length,Nat.ble winL.length 1000) = (true,true):=congrArg (·.2.2) win_at
theorem okEn_i {e : Enc} {P : Prop} (h : ∀ q,e = some q -> (64 ≤ q.1 ∧ q.1 < 72) ∧ leq q.2 ndL = false) (p : P) : okEn e P:=by
 cases e with
 | none=>exact ⟨rfl,p⟩
 | some q=>
  have h1:=Nat.le_of_ble_eq_true (Prod.mk.inj win_len).1
  have h2:=Nat.le_of_ble_eq_true (Prod.mk.inj win_len).2
  obtain ⟨h3,h4⟩:=h q rfl
  exact ⟨rfl,⟨rfl,h3,⟨by lia,h2⟩,h4⟩,p⟩
noncomputable def nlS (e : Enc) : List (List Nat):=match e with
 | none=>winL
 | some q=>winL.set q.1 q.2
theorem nlE_eq (e : Enc) : nlE e = .strs (nlS e):=by cases e <;> rfl
section
variable {w : World} {mg mb : Str -> Option Value} {zs : List Int} {b : Obj}
noncomputable def kG (w : World) (mg mb : Str -> Option Value) (zs : List Int) (b : Obj) (k : Nat) (xs : List Str) (o : Option (Nm × Hp)) : Prop:=∃ φ' Hs,o = some (φ',Hs) ∧ Hs[0]? = some (.rf (.sl zs b)) ∧ Rest w mg mb zs b k φ' Hs
theorem kG_seg {fl : Fl} {k : Nat} {xs : List Str} {φ : Nm} {H : Hp} (h : fl = .next ∧ kG w mg mb zs b k xs (gcN xs φ H)) : H[0]? = some (.rf (.sl zs b)) ∧ ((fl = .next ∧ Rest w mg mb zs b k φ H) ∨ fl = .ret (.bool true)):=by
 refine yG λ G_ k_=>?_
 obtain ⟨h1,φ',Hs,h2,h3,h4⟩:=h
 refine k_ ?_
 exact ⟨gc_head h2 h3,.inl ⟨h1,rest_gc xs h2 (Wk.refl _) h3 h4⟩⟩
theorem encs_of {q : Nat × List Nat} {e : Enc} (he : e ∈ encs q) (hq : (64 ≤ q.1 ∧ q.1 < 72) ∧ leq q.2 ndL = false) : ∀ q',e = some q' -> (64 ≤ q'.1 ∧ q'.1 < 72) ∧ leq q'.2 ndL = false:=by
 rintro q' rfl
 rcases List.mem_cons.mp he with h | h
 ·cases h
 ·cases List.mem_singleton.mp h; exact hq
theorem wAt_lt {w' : Nat -> Nat} (h : ∀ j,w' j < 1000) {f o i : Nat} : wAt ((List.range i).map w') f o < 1000:=by
 unfold wAt
 split
 ·rw [List.getD_eq_getElem?_getD,List.getElem?_map]
  cases (List.range i)[o - f]? with
  | none=>exact Nat.zero_lt_succ _
  | some j=>exact h j
 ·exact Nat.zero_lt_succ _
theorem kG_q {k f i way : Nat} {gl : List (Int × List Nat)} {a1 a2 a3 : Nat × List Nat} {q : Nat × List Nat} {e : Enc} {w' : Nat -> Nat} {Z : List Nat} {u : Uni} {cho : MO} (hk : k + 9 ≤ 1000000) (he : e ∈ encs q) (hi : i < 6) (hway : way < 3) (hu : u ∈ unis a1 a2 a3) (hf : 62 ≤ f ∧ f < 68) (hw : ∀ j,w' j < 1000) (hgl : GlOk gl (nlS e))
  (hch : Wk1 (.rf (.dic (uniC u))) cho) : kG w mg mb zs b 11 xs10 (some (leS zs b k f i (intL ((List.range (i + 1)).map w')) (.rf (.dic gl)) cho e way Z u)):=by
 refine ⟨_,_,rfl,rfl,?_⟩
 have hl : ((List.range (i + 1)).map w').length = i + 1:=by simp only [List.length_map,List.length_range]
 have h:=rest10c (w:=w) (mg:=mg) (mb:=mb) (zs:=zs) (b:=b) (Z:=Z) (wn:=(List.range (i + 1)).map w') hk he hway hu hf (by rw [hl]; lia) (λ o=>wAt_lt hw) (λ o h1 h2=>tx_ok hgl h1 h2) hch
 rw [hl] at h
 rw [nlE_eq,show (Int.ofNat f + Int.ofNat (i + 1)) - 1 = Int.ofNat (f + (i + 1) - 1) from by simp only [Int.ofNat_eq_natCast]; simp +arith]
 exact h
theorem rest10a {k f i way wn : Nat} {gl : List (Int × List Nat)} {q : Nat × List Nat} {e : Enc} {w' : Nat -> Nat} {Z : List Nat} (hk : k + 9 ≤ 1000000) (he : e ∈ encs q) (hq : (64 ≤ q.1 ∧ q.1 < 72) ∧ leq q.2 ndL = false) (hi : i < 6) (hway : way < 2) (hf : 62 ≤ f ∧ f < 68) (hw : ∀ j,w' j < 1000) (hgl : GlOk gl (nlS e)) :
  Rest w mg mb zs b 10 (ldφ f e wn) (lcH zs b k (intL ((List.range (i + 1)).map w')) (.rf (.dic gl)) (ldT f e way (.dict []) Z)):=by
 refine rest_segK law_hyp 90 1 (K:=λ fl φ H=>fl = .next ∧ kG w mg mb zs b 11 xs10 (gcN xs10 φ H)) ?_ λ _ _ _ h=>kG_seg h
 exact Eq.mpr (le_0 (λ fl o=>fl = .next ∧ kG w mg mb zs b 11 xs10 o) 0 k f q zs b (.dic gl) w' Z wn he hi hway) (okEn_i (encs_of he hq) ⟨rfl,kG_q (a1:=q) (a2:=q) (a3:=q) hk he hi (by exact Nat.lt_succ_of_lt ‹_›) (.head _) hf hw hgl (.rf _)⟩)
theorem ddN_len2 {ps : List (Nat × List Nat)} : ∀ {es : List (Nat × List Nat)},(ps.foldl (λ es e=>putN e es) es).length ≤ es.length + ps.length:=by
 induction ps with
 | nil=>exact Nat.le_refl _
 | cons e ps ih=>
  intro es
  have h1:=ih (es:=putN e es)
  have h2:=ddN_len (e:=e) (es:=es)
  simp only [List.foldl_cons,List.length_cons]
  lia
theorem cmQ_of {es : List (Nat × List Nat)} {Q : List (Nat × List Nat) -> Prop} (hl : es.length ≤ 3) (h : ∀ a1 a2 a3,some es ∈ unis a1 a2 a3 -> Q es) : cmQ es Q:=by
 match es,hl with
 | [],_=>exact h (0,[]) (0,[]) (0,[]) (.tail _ (.head _))
 | [a],_=>exact h a a a (.tail _ (.tail _ (.head _)))
 | [a,b],_=>exact h a b b (.tail _ (.tail _ (.tail _ (.head _))))
 | [a,b,d],_=>exact h a b d (.tail _ (.tail _ (.tail _ (.tail _ (.head _)))))
set_option backward.match.sparseCases false in
theorem rest10b {k f i wn : Nat} {gl : List (Int × List Nat)} {q : Nat × List Nat} {e : Enc} {w' : Nat -> Nat} {ps : List (Nat × List Nat)} (hk : k + 9 ≤ 1000000) (he : e ∈ encs q) (hq : (64 ≤ q.1 ∧ q.1 < 72) ∧ leq q.2 ndL = false) (hi : i < 6) (hf : 62 ≤ f ∧ f < 68) (hw : ∀ j,w' j < 1000) (hgl : GlOk gl (nlS e))
  (hps : ps.length ≤ 3) (hok : okPs ps) (hln : (txB ps).length ≤ 1000000) : Rest w mg mb zs b 10 (ldφ f e wn) (lcH zs b k (intL ((List.range (i + 1)).map w')) (.rf (.dic gl)) (ldT f e 2 (.rf (.dic (ddI ps))) (txB ps).reverse)):=by
 refine rest_segK law_hyp 90 1 (K:=λ fl φ H=>fl = .next ∧ kG w mg mb zs b 11 xs10 (gcN xs10 φ H)) ?_ λ _ _ _ h=>kG_seg h
 have h:=le_2 (λ fl o=>fl = .next ∧ kG w mg mb zs b 11 xs10 o) 0 k f q zs b (.dic gl) (.dic (ddI ps)) w' (txB ps).reverse wn he hi
 unfold leR at h
 rw [List.length_reverse,Nat.ble_eq_true_of_le hln,List.reverse_reverse] at h
 refine Eq.mpr h (.inl ⟨ps,⟨⟨hps,λ x hx=>⟨by have:=(hok x hx).1.2; lia,(hok x hx).2⟩⟩,rfl,hln⟩,cmQ_of (Nat.le_trans ddN_len2 (by simp only [List.length_nil]; lia)) λ a1 a2 a3 hu _=>okEn_i (encs_of he hq) ⟨rfl,kG_q hk he hi (by exact Nat.le_refl _) hu hf hw hgl (.refl _)⟩⟩)
end
section
variable {w : World} {mg mb : Str -> Option Value} {zs : List Int} {b : Obj}
theorem rest9 {k f i way : Nat} {gl : List (Int × List Nat)} {q : Nat × List Nat} {e : Enc} {w' : Nat -> Nat} (hk : k + 22 ≤ 1000000) (he : e ∈ encs q) (hq : (64 ≤ q.1 ∧ q.1 < 72) ∧ leq q.2 ndL = false) (hi : i < 6) (hway : way < 4) (hf : 62 ≤ f ∧ f < 68) (hw : ∀ j,w' j < 1000) (hgl : GlOk gl (nlS e)) :
  Rest w mg mb zs b 9 (ldφ f e way) (lcH zs b k (intL ((List.range (i + 1)).map w')) (.rf (.dic gl)) (ldT f e 0 (.dict []) [])):=by
 refine rest_segK law_hyp 60 1 (K:=λ fl φ H=>H[0]? = some (.rf (.sl zs b)) ∧ (fl = .next ∧ Rest w mg mb zs b 10 φ H)) ?_ λ fl φ' H' h=>⟨h.1,.inl h.2⟩
 have h:=at_i (map_at (ld_9 (λ fl φ H=>H[0]? = some (.rf (.sl zs b)) ∧ (fl = .next ∧ Rest w mg mb zs b 10 φ H)) (λ _ _=>False) 0 k f q zs b (intL ((List.range (i + 1)).map w')) (.rf (.dic gl))) he) hway
 match way,h with
 | 0,h=>exact Eq.mpr h ⟨rfl,rfl,rest10a (by omega) he hq hi (by exact Nat.le_add_left _ _) hf hw hgl⟩
 | 1,h=>exact Eq.mpr h ⟨rfl,rfl,rest10a (by omega) he hq hi (by omega) hf hw hgl⟩
 | way + 2,h=>
  refine Eq.mpr h ⟨by omega,λ ps h1 h2 h3 _=>?_⟩
  rw [Nat.ble_eq_true_of_le h3]
  exact ⟨rfl,rfl,rest10b (by omega) he hq hi hf hw hgl h1 h2 h3⟩
theorem rest7 {k f i : Nat} {gl : List (Int × List Nat)} {q : Nat × List Nat} {e : Enc} {w' : Nat -> Nat} (hk : k + 23 ≤ 1000000) (he : e ∈ encs q) (hq : (64 ≤ q.1 ∧ q.1 < 72) ∧ leq q.2 ndL = false) (hi : i < 6) (hf : 62 ≤ f ∧ f < 68) (hw : ∀ j,w' j < 1000) (hgl : GlOk gl (nlS e)) :
  Rest w mg mb zs b 7 (lcφ f e []) (lcH zs b k (intL ((List.range (i + 1)).map w')) (.rf (.dic gl)) (lcT f e [] [])):=by
 refine rest_segK law_hyp 60 2 (K:=λ fl φ H=>H[0]? = some (.rf (.sl zs b)) ∧ (fl = .next ∧ Rest w mg mb zs b 9 φ H)) ?_ λ fl φ' H' h=>⟨h.1,.inl h.2⟩
 exact Eq.mpr (map_at (ld_7 (λ fl φ H=>H[0]? = some (.rf (.sl zs b)) ∧ (fl = .next ∧ Rest w mg mb zs b 9 φ H)) (λ _ _=>False) 0 k f q zs b (intL ((List.range (i + 1)).map w')) (.rf (.dic gl))) he) ⟨by lia,allN_of λ way hw'=>⟨rfl,rfl,rest9 (by omega) he hq hi hw' hf hw hgl⟩⟩
theorem laT_wk {f en : Nat} {y wo a a' : MO} (h : Wk1 a a') : Wk (laT f en y wo a) (laT f en y wo a'):=by
 exact Wk.app (Wk.refl _) (.cons h .nil)
theorem laH_wk {zs : List Int} {b : Obj} {k : Nat} {T T' : Hp} {tb : List (KV × V)} (h : Wk T T') : Wk (laH zs b k T tb) (laH zs b k T' tb):=
 .cons (.refl _) (.cons (.refl _) (.cons (.refl _) (.cons (.refl _) (.cons (.refl _) (.cons (.refl _) (.cons (.refl _) (.cons (.refl _) h)))))))
theorem nm3_nd : (List.range 3).map (λ i=>leq (nm3 i).1 ndL) = (List.range 3).map λ _=>false:=by kernel_rfl
theorem glP_eq (c i : Nat) : MO.dict (glP c i) = (RF.dic (putI c (nm3 i).2 glE)).mo:=by
 unfold glP
 exact congrArg MO.dict (dput_putI c (nm3 i).2 glE)
theorem la6_eq (f c i : Nat) (y wo : MO) : la6T f c i y wo = laT f 36 y wo (.dict (glP c i)) ++ (la6T f c i y wo).drop 20:=rfl
theorem rest6 {k f i : Nat} {y : MO} {w' : Nat -> Nat} (hk : k + 26 ≤ 1000000) (hi : i < 6) (hf : 62 ≤ f ∧ f < 68) (hw : ∀ j,w' j < 1000) :
  Rest w mg mb zs b 6 (laψ f []) (laH zs b k (laT f 15 y (intL ((List.range (i + 1)).map w')) (RF.dic glE).mo)):=by
 refine rest_segK law_hyp 61 1 (K:=λ fl φ H=>H[0]? = some (.rf (.sl zs b)) ∧ (fl = .next ∧ Rest w mg mb zs b 7 φ H)) ?_ λ fl φ' H' h=>⟨h.1,.inl h.2⟩
 refine Eq.mpr (la_6 (λ fl φ H=>H[0]? = some (.rf (.sl zs b)) ∧ (fl = .next ∧ Rest w mg mb zs b 7 φ H)) (λ _ _=>False) 0 k f zs b y (intL ((List.range (i + 1)).map w'))) ⟨by lia,allN_of λ r hr=>?_⟩
 match r,hr with
 | 0,_=>
  exact ⟨rfl,rfl,rest_wk (laH_wk (laT_wk (.rf _))) rfl (rest_gc xs6 (at_i (lc_gc0 (k + 1) f zs b y glE w') (show i + 1 < 7 by exact Nat.succ_lt_succ ‹_›)) (Wk.refl _) rfl
   (rest7 (q:=(64,nm3 0 |>.1)) (by lia) (.head _) ⟨⟨by decide,by decide⟩,at_i nm3_nd (i:=0) (by decide)⟩ hi hf hw gl_win))⟩
 | 1,_=>
  refine ⟨by omega,λ c hc=>⟨by omega,allN_of λ j hj=>⟨rfl,rfl,?_⟩⟩⟩
  rw [la6_eq,glP_eq]
  refine rest_wk (laH_wk (Wk.app (laT_wk (.rf _)) (Wk.refl _))) rfl (rest_gc xs6 (at_i (lc_gc1 (k + 1 + 1 + 1) f zs b y (intL ((List.range (i + 1)).map w')) (64 + c) j (.int (.ofNat (64 + c))) (.str (nm3 j).1) (putI (64 + c) (nm3 j).2 glE) w') (show i + 1 < 7 by omega)) (Wk.refl _) rfl ?_)
  exact rest7 (by omega) (.tail _ (.head _)) ⟨⟨by omega,by omega⟩,at_i nm3_nd hj⟩ hi hf hw (gl_dif (by omega) hj)
theorem rest4 {k f i : Nat} {y : MO} {w' : Nat -> Nat} (hk : k + 26 ≤ 1000000) (hi : i < 6) (hf : 62 ≤ f ∧ f < 68) (hw : ∀ j,w' j < 1000) :
  Rest w mg mb zs b 4 (laφ [(nm "widths",.loc (.ref 10)),(nm "first",.loc (.int (.ofNat f)))]) (laH zs b k [y,.gone,intL ((List.range (i + 1)).map w')]):=by
 refine rest_segK law_hyp 60 2 (K:=λ fl φ H=>H[0]? = some (.rf (.sl zs b)) ∧ (fl = .next ∧ Rest w mg mb zs b 6 φ H)) ?_ λ fl φ' H' h=>⟨h.1,.inl h.2⟩
 exact Eq.mpr (la_4 (λ fl φ H=>H[0]? = some (.rf (.sl zs b)) ∧ (fl = .next ∧ Rest w mg mb zs b 6 φ H)) (λ _ _=>False) 0 k f zs b y (intL ((List.range (i + 1)).map w'))) ⟨rfl,rfl,rest6 hk hi hf hw⟩
theorem rest3 {k i : Nat} {y : MO} {w' : Nat -> Nat} (hk : k + 27 ≤ 1000000) (hi : i < 6) (hw : ∀ j,w' j < 1000) :
  Rest w mg mb zs b 3 (laφ [(nm "widths",.loc (.ref 10))]) (laH zs b k [y,.gone,intL ((List.range (i + 1)).map w')]):=by
 refine rest_segK law_hyp 60 1 (K:=λ fl φ H=>H[0]? = some (.rf (.sl zs b)) ∧ (fl = .next ∧ Rest w mg mb zs b 4 φ H)) ?_ λ fl φ' H' h=>⟨h.1,.inl h.2⟩
 exact Eq.mpr (la_3 (λ fl φ H=>H[0]? = some (.rf (.sl zs b)) ∧ (fl = .next ∧ Rest w mg mb zs b 4 φ H)) (λ _ _=>False) 0 k zs b y (intL ((List.range (i + 1)).map w'))) ⟨by omega,allN_of λ r hr=>⟨rfl,rfl,rest4 (by omega) hi (by omega) hw⟩⟩
theorem rest2 {k : Nat} (hk : k + 40 ≤ 1000000) : Rest w mg mb zs b 2 (laφ []) (laH zs b k []):=by
 refine rest_segK law_hyp 60 1 (K:=λ fl φ H=>H[0]? = some (.rf (.sl zs b)) ∧ (fl = .next ∧ Rest w mg mb zs b 3 φ H)) ?_ λ fl φ' H' h=>⟨h.1,.inl h.2⟩
 refine Eq.mpr (la_2 (λ fl φ H=>H[0]? = some (.rf (.sl zs b)) ∧ (fl = .next ∧ Rest w mg mb zs b 3 φ H)) (λ _ _=>False) 0 k zs b) ⟨by lia,allN_of λ m hm=>drK_ok (by lia) (λ c h=>nomatch h) λ ws h1 h2=>⟨rfl,rfl,?_⟩⟩
 have h1 : ws.length = m + 1:=h1.trans (Nat.zero_add _)
 have:=rest3 (w:=w) (mg:=mg) (mb:=mb) (zs:=zs) (b:=b) (k:=k + 1 + (m + 1)) (y:=.rng 0 (.ofNat (m + 1)) 1) (w':=λ j=>ws.getD j 0) (by lia) hm (λ j=>by
  show ws.getD j 0 < 1000
  rw [List.getD_eq_getElem?_getD]
  cases hq : ws[j]? with
  | none=>exact Nat.zero_lt_succ _
  | some c=>have:=h2 c (List.mem_of_getElem? hq); show c < 1000; lia)
 rw [<- ts_of h1] at this
 exact this
theorem rest0 (h : zs.length ≤ 63) : Rest w mg mb zs b 0 [(nm "pot",.cel 1),(nm "script",.loc (.ref 0))] [.rf (.sl zs b),.cell none]:=by
 refine rest_segK law_hyp 60 2 (K:=λ fl φ H=>H[0]? = some (.rf (.sl zs b)) ∧ (fl = .next ∧ Rest w mg mb zs b 2 φ H)) ?_ λ fl φ' H' h=>⟨h.1,.inl h.2⟩
 exact Eq.mpr (la_0 (λ fl φ H=>H[0]? = some (.rf (.sl zs b)) ∧ (fl = .next ∧ Rest w mg mb zs b 2 φ H)) (λ _ _=>False) 0 zs b) ⟨h,rfl,rfl,rest2 (by exact Nat.le_add_left _ _)⟩
end
theorem lk {w : World} {s₀ : Shared} (Y : ob_ s₀ = va_ w) : (Kf w.params).In s₀.heap:=by
 have e : ksel.map s₀.heap.get? = (Kf w.params).map λ p=>some p.2:=Y
 simp only [ks_ w.params,List.map_map] at e
 intro a o h
 have h2 : (a,o) ∈ Kf w.params:=by
  clear e
  revert h
  generalize Kf w.params = l
  intro h
  induction l with
  | nil=>cases h
  | cons p r ih=>
   rw [List.lookup_cons] at h
   split at h
   ·rename_i q
    obtain rfl:=Option.some.inj h
    refine (beq_iff_eq.mp q) ▸ ?_
    exact .head _
   ·exact .tail _ (ih h)
 exact List.map_inj_left.mp e _ h2
theorem lw1 (P : Params) : globOk (Kf P) (nm "law",.top (.ref 920)) = true:=by kernel_rfl
theorem lw2 (P : Params) : ((Kf P).lookup 1).isSome = true:=by kernel_rfl
theorem ints_of {P : Params} {h : Heap} : ∀ {zs : List Int} {vs : List Value},WellAll P h vs (zs.map .int) -> VRs [] (zs.map .int) vs:=by
 intro l_
 induction l_ with
 | nil=>
  intro _ h
  cases h; exact .nil
 | cons _ _ ih_=>
  intro _ h
  cases h with
  | cons h1 h2=>cases h1; exact .cons (.int _ _) (ih_ h2)
theorem pre_of {args : List WData} (h : rw_.row.toRowW.claim.pre args = true) : ∃ zs : List Int,args = [.list (zs.map .int)] ∧ zs.length ≤ 63:=by
 obtain ⟨h1,h2⟩:=pre_splitW h
 obtain ⟨d,r,rfl,h3,h4⟩:=hasAllW_cons h1
 obtain rfl:=hasAllW_nil h4
 obtain ⟨xs,rfl,h5⟩:=hasW_list h3
 obtain ⟨zs,rfl⟩:=items_int h5
 refine ⟨zs,rfl,?_⟩
 have h2 : (WTm.and (.not (.lt (.lit (.int 63)) (.len (.arg 0)))) (.lit (.bool true))).holds [] { args:=[.list (zs.map .int)] } = true:=h2
 refine (List.length_map (as:=zs) (f:=WData.int)) ▸ ?_
 by_cases q : (63 : Int) < ((zs.map WData.int).length : Int)
 ·simp only [show (WTm.and (.not (.lt (.lit (.int 63)) (.len (.arg 0)))) (.lit (.bool true))).holds [] { args:=[.list (zs.map .int)] } = false from by
   simp only [WTm.holds,WTm.value,less?,Num.less?,List.getElem?_cons_zero,decide_eq_true q,Option.map_some,Bool.not_true]] at h2
  cases h2
 ·lia
theorem hide_ns {h : Heap} {p a : Addr} {m : Str -> Option Value} {o : Obj} {vs : Array Value} {n : Nat} (hp : h.get? p = some o) (hd : o.data = .seq vs n) (N : h.Ns a m) : (h.hide p).Ns a m:=by
 obtain ⟨x,es,ep,h1,h2,h3⟩:=N
 refine ⟨x,es,ep,?_,h2,h3⟩
 by_cases e : a = p
 ·subst e
  rw [hp] at h1
  obtain rfl:=Option.some.inj h1
  replace h2:=hd ▸ h2
  cases h2
 ·refine (Heap.hide_ne _ e).trans ?_; exact h1
theorem well_list {P : Params} {h : Heap} {v : Value} {xs : List WData} (x : Well P h v (.list xs)) : ∃ p vs,v = .ref p ∧ h.get? p = some { cls:=.type "list",data:=.seq (List.toArray vs) } ∧ WellAll P h vs xs:=by
 cases x with
 | list h1 h2=>exact ⟨_,_,rfl,h1,h2⟩
theorem well_one {P : Params} {h : Heap} {vs : List Value} {d : WData} (x : WellAll P h vs [d]) : ∃ v,vs = [v] ∧ Well P h v d:=by
 cases x with
 | cons x y=>cases y with
  | nil=>exact ⟨_,rfl,x⟩
theorem reads_one {R : WRecords} {cl : Str -> Option Addr} {h : Heap} {v : Value} {d : WData} {as : List Addr} (x : ReadsAllW R cl h [v] [d] as) : ∃ bs cs,ReadsW R cl h v d bs ∧ as = bs ++ cs:=by
 cases x with
 | cons x y=>exact ⟨_,_,x,rfl⟩
theorem reads_list {R : WRecords} {cl : Str -> Option Addr} {h : Heap} {p : Addr} {xs : List WData} {as : List Addr} (x : ReadsW R cl h (.ref p) (.list xs) as) : p ∈ as:=by
 cases x with
 | list _ _ _ _=>exact .head _
theorem arg_of {cl : Str -> Option Addr} {P : Params} {h : Heap} {zs : List Int} {vals : List Value} {as : List Addr} (r : ReadsAllW [] cl h vals [.list (zs.map .int)] as) (y : WellAll P h vals [.list (zs.map .int)]) :
  ∃ p vs,vals = [.ref p] ∧ h.get? p = some { cls:=.type "list",data:=.seq (List.toArray vs) } ∧ VRs [] (zs.map .int) vs ∧ p ∈ as:=by
 refine yG λ G_ k_=>?_
 obtain ⟨v,rfl,yv⟩:=well_one y
 obtain ⟨p,vs,rfl,h1,h2⟩:=well_list yv
 obtain ⟨bs,cs,rr,rfl⟩:=reads_one r
 refine k_ ?_
 exact ⟨p,vs,rfl,h1,ints_of h2,List.mem_append_left _ (reads_list rr)⟩
theorem inv_of {w : World} {h h' : Heap} {m' : Str -> Option Value} {p : Addr} {zs : List Int} {vs : List Value} (hp : h.get? p = some { cls:=.type "list",data:=.seq (List.toArray vs) }) (hvs : VRs [] (zs.map .int) vs) (hn : h'.Ns h.objs.size m') (hk : ∀ b o,h.get? b = some o -> h'.get? b = some o) :
  Inv pw w (h.hide p) (h.hide p) h.objs.size m' [p] [.rf (.sl zs { cls:=.type "list",data:=.seq (List.toArray vs) })] h':=by
 have i0 : ∀ {i : Nat} {x : Addr},[p][i]? = some x -> i = 0:=λ {i x} q=>Nat.lt_one_iff.mp (List.getElem?_eq_some_iff.mp q).1
 have no : (h.hide p).get? h.objs.size = none:=Heap.get?_none_of_le (Nat.le_of_eq (Heap.hide_size h p))
 exact {
  S:=λ b o e=>hk b o (Heap.of_hide e)
  ns:=hn
  K:=λ b o e=>⟨o.slots,hk b o (Heap.of_hide e)⟩
  lo:=⟨no,no,Nat.le_of_eq (Heap.hide_size h p)⟩
  len:=rfl
  nd:=λ i j x ⟨_,_,_,q⟩ ⟨_,_,_,q'⟩=>(i0 q).trans (i0 q').symm
  ob:=λ i o x q1 q2 q3=>by
   obtain rfl:=i0 q3
   obtain rfl:=Option.some.inj q1
   obtain rfl:=Option.some.inj q3
   exact ⟨_,hk _ _ hp,rfl,vs,0,rfl,hvs.ext (Ext.nil _)⟩
  out:=λ i x ⟨_,_,_,q⟩=>by
   obtain rfl:=i0 q
   obtain rfl:=Option.some.inj q
   exact ⟨Nat.ne_of_lt (Heap.lt_size hp),Heap.hide_self _ _,Heap.hide_self _ _⟩ }
set_option tactic.hygienic true in
theorem law_at {w : World} {mg : Str -> Option Value} {h : Heap} {a : Addr} (kin : (Kf w.params).In h) (ng : h.Ns mainGlobals mg) (h5 : mg (nm "law") = some (.ref a)) : a = 920:=by
 have q:=lw1 w.params
 dsimp only [globOk] at q
 simp only [Bool.and_eq_true] at q
 obtain ⟨q,_⟩:=q
 split at q
 ·rename_i val hv
  have k1:=mg_of kin ng hv
  simp only [h5,(vrB_ok (R:=[]) q).invTop] at k1
  cases k1
  rfl
 ·cases q
theorem walk_ : WalkX qv lo_ (XL qv []) ob_ va_ rw_.row.toRowW dr_ [] λ f vs=>PySem.call f vs:=by
 intro w s₀ s₁ mg mb G Y a o pm cd doc dV kV _ _ _ _ h5 hg args vals as L hpre _ hr hwell _
 refine yG λ G_ k_=>?_
 obtain ⟨zs,rfl,hz⟩:=pre_of hpre
 obtain ⟨p,vs,rfl,hp,hvs,hm⟩:=arg_of hr hwell
 have hin:=(L.within.2.2 p hm).1
 clear hpre hr hwell hm
 have K0:=lk Y
 have kin : (Kf w.params).In s₁.heap:=λ x y e=>L.keeps x y (K0 x y e)
 have kin0 : (Kf w.params).In (s₁.heap.hide p):=λ x y e=>(Heap.hide_ne _ (Nat.ne_of_lt (Nat.lt_of_lt_of_le (Heap.lt_size (K0 x y e)) hin))).trans (kin x y e)
 have ng:=hide_ns hp rfl G.T.g
 have C : CxOk cx pw w (Kf w.params) (s₁.heap.hide p) mg mb:=cx_ok kin0 ng G.T.builtins
 have B : Base (Kf w.params) mg mb (s₁.heap.hide p):=⟨kin0,ng,hide_ns hp rfl G.T.b,let ⟨mc,q1,q2⟩:=G.T.nolimit; ⟨mc,hide_ns hp rfl q1,q2⟩,(Option.isSome_iff_exists.mp (lw2 w.params)).elim λ y q=>⟨y,kin0 _ _ q⟩⟩
 cases law_at kin0 ng h5
 refine k_ ?_
 clear G Y L K0 h5
 refine enter_call (ok_func (K:=Kf w.params) (d:=20) (hd:=none) (fi:=fiA 920) B.lim (C.fn 920 (fiA 920) rfl) (la_en zs _) (by decide) (by decide) (fs:=[]) rfl (λ e h=>nomatch h) (show callerA.handled = none from rfl) kin (λ h' m'=>inv_of hp hvs) (.cons (.ref rfl) .nil) λ env' R1 m1 s1 Z E I e sm=>?_)
 refine rest0 hz _ _ _ env' _ m1 R1 s1 p B C Z E I (e.get rfl) rfl _ _ λ s' sm' hS hq=>⟨.inl ⟨.bool true,.bool true,[],rfl,λ cls=>rfl,.bool true,by kernel_rfl,λ _=>⟨.nil,λ x h=>nomatch h⟩⟩,.of_keep λ b o hb=>?_,(sm.trans sm').2.2,.of_eq ((sm.trans sm').1.trans hg)⟩
 by_cases e : b = p
 ·rw [e] at hb ⊢
  rw [hp] at hb
  obtain rfl:=Option.some.inj hb
  exact hq
 ·exact hS b o ((Heap.hide_ne _ e).trans hb)
theorem holds_ : rw_.Holds:=holds_of walk_
end Mine.Internal
theorem PySem.Challenge.cw_nn0177_01_holds : PySem.Challenge.rw_nn0177_01.Holds := by
  exact Mine.Internal.holds_
