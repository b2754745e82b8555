import PyProof.Rows.All
import Wide.All
import OpenK.AllK
import Wide.FinOn
import HandS.ForMost
import HandS.Exc
import HandS.TryOnly
import HandS.TryMany
import HandS.ExcOwn
import HandS.ExcInit
import HandS.WordsExc
import HandS.CallSlots
import HandS.Lambda
import HandS.Flow
import HandS.Wide
import HandS.WideBits
import HandS.IsInst
import HandS.Defaults
import HandS.Star
import HandS.MakeKw
import HandS.MakeKwOnly
import HandS.Deep
import HandS.TupAny
import HandS.OwnEq
import HandS.ClsMeth
import HandS.FStr
import HandS.Iter
import KE.KDictKeyed
import KE.KStateDown
import HandS.Ends
import HandS.Head0
import HandS.Head1
import HandS.Head2
import HandS.HeadEnd
import HandS.HeadHook1
import HandS.HeadHook2
import HandS.EndBits
import KE.DataEq
import HandS.ExcField
import HandS.ExcIs
import KE.KTryMore
import KE.KExcIs
import KE.KMatchCls
import HandS.More
import HandS.Style
import KE.KFmtOwn
import HandS.SlotsOwn
import PyProof.EqAt
import PyProof.Rows.StrJoin2
import HandS.RaiseMore
import KE.KDictDisplayH
import HandS.Strs
import HandS.SetBool
import HandS.SetFor
import HandS.TupSets
import KE.KUnpack
import PyProof.CollectIter
import HandS.StrMore
import PyProof.CompFree
import HandS.Text
import HandS.NamedTupGet
import HandS.Property
import HandS.Zip
import PyProof.Rows.StrCut
import PyProof.StrLawsIn
import PySem.Challenge.RW_latewords_k72_texts_refused
noncomputable section
noncomputable section
set_option Elab.async false
set_option linter.all false
set_option maxRecDepth 100000
set_option maxHeartbeats 8000000
namespace Ev
open PySem L2
inductive D where
  | non | bl (b : Bool) | int (i : Int) | str (s : Str)
  | tup (xs : List D) | lst (xs : List D) | rol (xs : List D) | obj (c : Nat) (fs : List D)
  | ref (n : Nat) | dct (ks : List Key) (ds : List D) | dnt (ks ds : List D)
inductive O where
  | lst (xs : List D) | ins (c : Nat) (fs : List D) | dct (ks : List Key) (ds : List D) | dn (ks ds : List D) | lk (od : Obj) (u : HO) (o : O) | tb (x : Str)
abbrev NK:=NestedKey
mutual
def zkd : NK -> Bool
  | .none=>true
  | .num _=>true
  | .text _=>false
  | .tup ks=>zhG ks
def zhG : List NK -> Bool
  | []=>true
  | k :: ks=>zkd k && zhG ks
end
mutual
def zkU : NK -> Int
  | .none=>reduceHash 0xFCA86420
  | .num i=>hashInt i
  | .text _=>0
  | .tup ks=>reduceHash (Builtin.Tuple.tupleHashOf (zi4 ks))
def zi4 : List NK -> List Int
  | []=>[]
  | k :: ks=>zkU k :: zi4 ks
end
mutual
theorem zlI (w : World) : ∀ {k : NK},zkd k = true -> k.hash w = zkU k
  | .none,_=>rfl
  | .num _,_=>rfl
  | .text _,h=>by simp [zkd] at h
  | .tup ks,h=>by
    rw [zkd] at h
    rw [NestedKey.hash,zkU,zhY w h]
theorem zhY (w : World) : ∀ {ks : List NK},zhG ks = true -> NestedKey.hashes w ks = zi4 ks
  | [],_=>rfl
  | k :: ks,h=>by
    rw [zhG,Bool.and_eq_true] at h
    rw [NestedKey.hashes,zi4,zlI w h.1,zhY w h.2]
end
mutual
def znL : D -> Option NK
  | .non=>some .none
  | .bl b=>some (.num (if b = true then 1 else 0))
  | .int i=>some (.num i)
  | .tup xs=>(zfJ xs).map .tup
  | .str _=>none
  | .lst _=>none
  | .rol _=>none
  | .obj _ _=>none
  | .ref _=>none
  | .dct _ _=>none
  | .dnt _ _=>none
def zfJ : List D -> Option (List NK)
  | []=>some []
  | x :: xs=>match znL x,zfJ xs with
    | some y,some ys=>some (y :: ys)
    | _,_=>none
end
abbrev Ent:=NK × Addr × V
abbrev zny : List Ent -> List DictEntry -> Prop:=Paired fun e q=>q.hash = zkU e.1 /\ q.key = .ref e.2.1 /\ RelV e.2.2 q.val
def zsY (a : Addr) (es : List Ent) (h : Heap) : Prop:=es.length <= sizeLine /\ (a == sysModules) = false /\ (∀ e ∈ es,zkd e.1 = true /\ e.1.depth <= 8) /\ (es.map (·.1)).Nodup /\ ∃ o xs ep,h.get? a = some o /\ o.ExactDict /\ o.data = .dict xs ep /\ zny es xs.toList
def dnH (a : Addr) (es : List Ent) : HO:=.ext (zsY a es)
abbrev Hs:=List O
abbrev En:=List (Option D)
inductive R (α : Type) where
  | ok (a : α) (h : Hs) | err (c : Nat) (fs : List D) (h : Hs) | bad
def R.bind {α β : Type} (r : R α) (k : α -> Hs -> R β) : R β:=match r with
  | .ok a h=>k a h
  | .err c fs h=>.err c fs h
  | .bad=>.bad
@[simp] theorem R.bind_ok {α β : Type} (a : α) (h : Hs) (k : α -> Hs -> R β) : (R.ok a h).bind k = k a h:=rfl
@[simp] theorem R.bind_err {α β : Type} (c : Nat) (fs : List D) (h : Hs) (k : α -> Hs -> R β) : (R.err c fs h : R α).bind k = .err c fs h:=rfl
@[simp] theorem R.bind_bad {α β : Type} (k : α -> Hs -> R β) : (R.bad : R α).bind k = .bad:=rfl
structure G where
  K : PySem.W.Frag
  mg : Str -> Option Value
  ci : Nat -> String × List String
def zsK (K : PySem.W.Frag) (a : Addr) (xs : List V) : Prop:=
  ∃ (o : Obj) (its : Array Value) (n : Nat),K.lookup a = some o /\ o.cls = .type "tuple" /\ o.data = .seq its n /\ its.size <= sizeLine /\ Vals xs its.toList
def zsP (K : PySem.W.Frag) (a : Addr) (xs : List V) : Prop:=
  ∃ (o : Obj) (its : Array Value) (n : Nat),K.lookup a = some o /\ o.cls = .type "list" /\ o.dict = none /\ o.data = .seq its n /\ its.size <= sizeLine /\ Vals xs its.toList
def TupAt (g : G) (bs : List Addr) (H : Hp) (a : Addr) (vs : List V) : Prop:=(a ∉ bs /\ Rd H a (.tup vs)) \/ zsK g.K a vs
def zgk (g : G) (bs : List Addr) (H : Hp) (a : Addr) (vs : List V) : Prop:=(a ∉ bs /\ Rd H a (.lst vs)) \/ zsP g.K a vs
def zhc (g : G) (c : Nat) (C : Addr) : Prop:=g.mg (Str.ofString (g.ci c).1) = some (.ref C)
def zlO (g : G) (c n : Nat) : List Str:=((g.ci c).2.take n).map Str.ofString
mutual
inductive Rep (g : G) (bs : List Addr) (H : Hp) : D -> V -> Prop
  | non : Rep g bs H .non .non
  | bl (b : Bool) : Rep g bs H (.bl b) (.bl b)
  | int (i : Int) : Rep g bs H (.int i) (.int i)
  | str {s : Str} : PySem.PyData.strOk s = true -> Rep g bs H (.str s) (.str s)
  | tup {a : Addr} {vs : List V} {ds : List D} : TupAt g bs H a vs -> Reps g bs H ds vs -> Rep g bs H (.tup ds) (.ref a)
  | lst {a : Addr} {vs : List V} {ds : List D} : a ∉ bs -> H a = some (.lst vs) -> Reps g bs H ds vs -> Rep g bs H (.lst ds) (.ref a)
  | rol {a : Addr} {vs : List V} {ds : List D} : zgk g bs H a vs -> Reps g bs H ds vs -> Rep g bs H (.rol ds) (.ref a)
  | obj {c : Nat} {C a dx : Addr} {fvs : List (Str × V)} {ds : List D} : a ∉ bs -> zhc g c C -> H a = some (.ins C dx fvs) -> fvs.map (·.1) = zlO g c ds.length -> Reps g bs H ds (fvs.map (·.2)) -> Rep g bs H (.obj c ds) (.ref a)
  | ref {n : Nat} {a : Addr} : bs[n]? = some a -> Rep g bs H (.ref n) (.ref a)
  | dct {a : Addr} {kvs : List (Key × V)} {ks : List Key} {ds : List D} : a ∉ bs -> H a = some (.dK kvs) -> kvs.map (·.1) = ks -> Reps g bs H ds (kvs.map (·.2)) -> Rep g bs H (.dct ks ds) (.ref a)
  | dnt {a : Addr} {od : Obj} {es : List Ent} {ks ds : List D} : a ∉ bs -> H a = some (.frz od (dnH a es)) -> zfJ ks = some (es.map (·.1)) -> Reps g bs H ks (es.map fun e=>V.ref e.2.1) -> Reps g bs H ds (es.map (·.2.2)) -> Rep g bs H (.dnt ks ds) (.ref a)
inductive Reps (g : G) (bs : List Addr) (H : Hp) : List D -> List V -> Prop
  | nil : Reps g bs H [] []
  | cons {d : D} {v : V} {ds : List D} {vs : List V} : Rep g bs H d v -> Reps g bs H ds vs -> Reps g bs H (d :: ds) (v :: vs)
end
def TabOf (g : G) (x : Str) (P : Addr) : Prop:=
  ∃ (f c : Addr) (o q : Obj) (fd : FuncData) (us : Array Value),g.mg x = some (.ref f) /\ g.K.lookup f = some o /\ o.data = .func fd /\ fd.code = .ref c /\ g.K.lookup c = some q /\ q.data = .fields us /\ us[11]? = some (.ref P)
def zso (x : Str) : Str:=x ++ ".<locals>." ++ "<lambda>"
def zg2 (bs : List Addr) (H : Hp) (x : Str) (ps : Array Value) : Prop:=
  ∀ (pos : Pos) (cv : Value),codeAmong pos ps.toList = some cv -> ∃ (c : Addr) (oc : Obj),cv = .ref c /\ c ∉ bs /\ H c = some (.frz oc (LamX.CodeO c (zso x)))
def zmf (g : G) (bs : List Addr) (H : Hp) (a : Addr) (u : HO) : O -> Prop
  | .dct ks ds=>∃ kvs : List (Key × V),u = .dK kvs /\ kvs.map (·.1) = ks /\ Reps g bs H ds (kvs.map (·.2))
  | .dn ks ds=>∃ es : List Ent,u = dnH a es /\ zfJ ks = some (es.map (·.1)) /\ Reps g bs H ks (es.map fun e=>V.ref e.2.1) /\ Reps g bs H ds (es.map (·.2.2))
  | _=>False
def zkG (g : G) (bs : List Addr) (H : Hp) (a : Addr) : O -> Prop
  | .lst ds=>∃ vs,H a = some (.lst vs) /\ Reps g bs H ds vs
  | .ins c ds=>∃ C dx fvs,zhc g c C /\ H a = some (.ins C dx fvs) /\ fvs.map (·.1) = zlO g c ds.length /\ Reps g bs H ds (fvs.map (·.2))
  | .dct ks ds=>∃ kvs : List (Key × V),H a = some (.dK kvs) /\ kvs.map (·.1) = ks /\ Reps g bs H ds (kvs.map (·.2))
  | .dn ks ds=>∃ es : List Ent,H a = some (dnH a es) /\ zfJ ks = some (es.map (·.1)) /\ Reps g bs H ks (es.map fun e=>V.ref e.2.1) /\ Reps g bs H ds (es.map (·.2.2))
  | .lk od u o=>H a = some (.frz od u) /\ zmf g bs H a u o
  | .tb x=>TabOf g x a /\ ∃ ps : Array Value,H a = some (.tbl ps) /\ TriplesOk ps.toList /\ zg2 bs H x ps
structure HRel (g : G) (bs : List Addr) (h : Hs) (H : Hp) : Prop where
  len : bs.length = h.length
  nd : bs.Nodup
  at_ : ∀ (i : Nat) (o : O),h[i]? = some o -> ∃ a,bs[i]? = some a /\ zkG g bs H a o
structure ERel (g : G) (bs : List Addr) (H : Hp) (env : En) (σ : St) : Prop where
  len : env.length = σ.length
  at_ : ∀ (i : Nat) (d : D),env[i]? = some (some d) -> ∃ v,σ[i]? = some (some v) /\ Rep g bs H d v
structure Ext (bs : List Addr) (H : Hp) (bs' : List Addr) (H' : Hp) : Prop where
  pre : ∃ more,bs' = bs ++ more /\ ∀ b ∈ more,H b = none
  keep : ∀ b o,H b = some o -> b ∉ bs -> H' b = some o
  cel : ∀ b o,H b = some o -> ∃ o',H' b = some o'
section
variable {g : G} {bs bs1 bs2 : List Addr} {H H1 H2 : Hp}
theorem Ext.refl : Ext bs H bs H:=⟨⟨[],by simp,fun _ h=>nomatch h⟩,fun _ _ h _=>h,fun _ o h=>⟨o,h⟩⟩
theorem Ext.out (e : Ext bs H bs1 H1) {b : Addr} {o : HO} (h : H b = some o) (hb : b ∉ bs) : b ∉ bs1:=by
  obtain ⟨⟨more,rfl,hm⟩,_,_⟩:=e
  intro z
  rcases List.mem_append.mp z with z | z
  · exact hb z
  · rw [hm b z] at h; cases h
theorem Ext.trans (e : Ext bs H bs1 H1) (f : Ext bs1 H1 bs2 H2) : Ext bs H bs2 H2:=by
  refine ⟨?_,fun b o h hb=>f.keep b o (e.keep b o h hb) (e.out h hb),fun b o h=>?_⟩
  · obtain ⟨⟨m1,rfl,h1⟩,k1,c1⟩:=e
    obtain ⟨⟨m2,rfl,h2⟩,k2,c2⟩:=f
    refine ⟨m1 ++ m2,by simp,fun b hb=>?_⟩
    rcases List.mem_append.mp hb with z | z
    · exact h1 b z
    · cases q : H b with
      | none=>rfl
      | some o =>
        obtain ⟨o',q'⟩:=c1 b o q
        rw [h2 b z] at q'; cases q'
  · obtain ⟨o',h'⟩:=e.cel b o h
    exact f.cel b o' h'
theorem Ext.rd (e : Ext bs H bs1 H1) {a : Addr} {u : HO} (hb : a ∉ bs) (h : Rd H a u) : a ∉ bs1 /\ Rd H1 a u:=by
  rcases h with h | ⟨o,h⟩
  · exact ⟨e.out h hb,.inl (e.keep _ _ h hb)⟩
  · exact ⟨e.out h hb,.inr ⟨o,e.keep _ _ h hb⟩⟩
theorem TupAt.mono (e : Ext bs H bs1 H1) {a : Addr} {vs : List V} (h : TupAt g bs H a vs) : TupAt g bs1 H1 a vs:=by
  rcases h with ⟨h1,h2⟩ | h
  · exact .inl (e.rd h1 h2)
  · exact .inr h
theorem zgk.mono (e : Ext bs H bs1 H1) {a : Addr} {vs : List V} (h : zgk g bs H a vs) : zgk g bs1 H1 a vs:=by
  rcases h with ⟨h1,h2⟩ | h
  · exact .inl (e.rd h1 h2)
  · exact .inr h
theorem TupAt.sq {a : Addr} {vs : List V} (h : TupAt g bs H a vs) : SqT g.K H a vs:=by
  rcases h with ⟨_,h⟩ | h
  · exact .inl h
  · exact .inr h
theorem zgk.sq {a : Addr} {vs : List V} (h : zgk g bs H a vs) : SqL g.K H a vs:=by
  rcases h with ⟨_,h⟩ | h
  · exact .inl h
  · exact .inr h
theorem Ext.get (e : Ext bs H bs1 H1) {n : Nat} {a : Addr} (h : bs[n]? = some a) : bs1[n]? = some a:=by
  obtain ⟨⟨more,rfl,_⟩,_,_⟩:=e
  rw [List.getElem?_append_left (List.getElem?_eq_some_iff.mp h).1]; exact h
theorem zg2.mono (e : Ext bs H bs1 H1) {x : Str} {ps : Array Value} (h : zg2 bs H x ps) : zg2 bs1 H1 x ps:=fun pos cv z=>by
  obtain ⟨c,oc,h1,h2,h3⟩:=h pos cv z
  exact ⟨c,oc,h1,e.out h3 h2,e.keep _ _ h3 h2⟩
mutual
theorem Rep.mono (e : Ext bs H bs1 H1) : ∀ {d : D} {v : V},Rep g bs H d v -> Rep g bs1 H1 d v
  | _,_,.non=>.non
  | _,_,.bl b=>.bl b
  | _,_,.int i=>.int i
  | _,_,.str h=>.str h
  | _,_,.tup h r=>.tup (h.mono e) (Reps.mono e r)
  | _,_,.lst n h r=>.lst (e.out h n) (e.keep _ _ h n) (Reps.mono e r)
  | _,_,.rol h r=>.rol (h.mono e) (Reps.mono e r)
  | _,_,.obj n c h f r=>.obj (e.out h n) c (e.keep _ _ h n) f (Reps.mono e r)
  | _,_,.ref h=>.ref (e.get h)
  | _,_,.dct n h f r=>.dct (e.out h n) (e.keep _ _ h n) f (Reps.mono e r)
  | _,_,.dnt n h f r r2=>.dnt (e.out h n) (e.keep _ _ h n) f (Reps.mono e r) (Reps.mono e r2)
theorem Reps.mono (e : Ext bs H bs1 H1) : ∀ {ds : List D} {vs : List V},Reps g bs H ds vs -> Reps g bs1 H1 ds vs
  | _,_,.nil=>.nil
  | _,_,.cons r t=>.cons (Rep.mono e r) (Reps.mono e t)
end
theorem ERel.mono (e : Ext bs H bs1 H1) {env : En} {σ : St} (h : ERel g bs H env σ) : ERel g bs1 H1 env σ:=
  ⟨h.len,fun i d q=>let ⟨v,q1,r⟩:=h.at_ i d q; ⟨v,q1,r.mono e⟩⟩
theorem Reps.length : ∀ {ds : List D} {vs : List V},Reps g bs H ds vs -> ds.length = vs.length
  | _,_,.nil=>rfl
  | _,_,.cons _ t=>by rw [List.length_cons,List.length_cons,Reps.length t]
theorem Reps.get : ∀ {ds : List D} {vs : List V} {i : Nat} {d : D},Reps g bs H ds vs -> ds[i]? = some d -> ∃ v,vs[i]? = some v /\ Rep g bs H d v
  | _,_,_,_,.nil,h=>by simp at h
  | _,_,0,_,.cons r _,h=>by simp at h; subst h; exact ⟨_,rfl,r⟩
  | _,_,i + 1,_,.cons _ t,h=>by
    obtain ⟨v,h1,h2⟩:=Reps.get (i:=i) t (by simpa using h)
    exact ⟨v,by simpa using h1,h2⟩
theorem Reps.append : ∀ {ds es : List D} {vs us : List V},Reps g bs H ds vs -> Reps g bs H es us -> Reps g bs H (ds ++ es) (vs ++ us)
  | _,_,_,_,.nil,s=>s
  | _,_,_,_,.cons r t,s=>.cons r (Reps.append t s)
theorem Reps.set {d : D} {v : V} (r : Rep g bs H d v) : ∀ {ds : List D} {vs : List V} (i : Nat),Reps g bs H ds vs -> Reps g bs H (ds.set i d) (vs.set i v)
  | _,_,_,.nil=>.nil
  | _,_,0,.cons _ t=>.cons r t
  | _,_,i + 1,.cons q t=>.cons q (Reps.set r i t)
theorem Reps.take : ∀ {ds : List D} {vs : List V} (n : Nat),Reps g bs H ds vs -> Reps g bs H (ds.take n) (vs.take n)
  | _,_,0,_=>.nil
  | _,_,_ + 1,.nil=>.nil
  | _,_,n + 1,.cons r t=>.cons r (Reps.take n t)
theorem Reps.drop : ∀ {ds : List D} {vs : List V} (n : Nat),Reps g bs H ds vs -> Reps g bs H (ds.drop n) (vs.drop n)
  | _,_,0,r=>r
  | _,_,_ + 1,.nil=>.nil
  | _,_,n + 1,.cons _ t=>Reps.drop n t
end
def zhb (g : G) (bs : List Addr) (H : Hp) (c : Nat) (ds : List D) (C : Value) (dd : Option Addr) : Prop:=
  ∃ (Ca d : Addr) (fvs : List (Str × V)),zhc g c Ca /\ C = .ref Ca /\ dd = some d /\ d ∉ bs /\ H d = some (.xd fvs) /\ fvs.map (·.1) = zlO g c ds.length /\ Reps g bs H ds (fvs.map (·.2))
theorem zhb.mono {g : G} {bs bs1 : List Addr} {H H1 : Hp} {c : Nat} {ds : List D} {C : Value} {dd : Option Addr} (e : Ext bs H bs1 H1) (h : zhb g bs H c ds C dd) : zhb g bs1 H1 c ds C dd:=by
  obtain ⟨Ca,d,fvs,h1,h2,h3,h4,h5,h6,h7⟩:=h
  exact ⟨Ca,d,fvs,h1,h2,h3,e.out h5 h4,e.keep _ _ h5 h4,h6,h7.mono e⟩
def zaU {α β : Type} (rel : List Addr -> Hp -> α -> β -> Prop) (g : G) (W : Value -> Option Addr -> Hp -> Prop) (bs : List Addr) (H : Hp) (r : R α) (Q : β -> Hp -> Prop) : Prop:=match r with
  | .ok a h'=>∀ bs' H' v,Ext bs H bs' H' -> HRel g bs' h' H' -> rel bs' H' a v -> Q v H'
  | .err c fs h'=>∀ C dd bs' H',Ext bs H bs' H' -> HRel g bs' h' H' -> zhb g bs' H' c fs C dd -> W C dd H'
  | .bad=>False
theorem zaU.mono {α β : Type} {rel : List Addr -> Hp -> α -> β -> Prop} {g : G} {W : Value -> Option Addr -> Hp -> Prop} {bs bs1 : List Addr} {H H1 : Hp} {r : R α} {Q : β -> Hp -> Prop} (e : Ext bs H bs1 H1) (h : zaU rel g W bs H r Q) : zaU rel g W bs1 H1 r Q:=by
  cases r with
  | ok a h'=>exact fun bs' H' v x y z=>h bs' H' v (e.trans x) y z
  | err c fs h'=>exact fun C dd bs' H' x y z=>h C dd bs' H' (e.trans x) y z
  | bad=>exact h
theorem zaU.ok_ {α β : Type} {rel : List Addr -> Hp -> α -> β -> Prop} {g : G} {W : Value -> Option Addr -> Hp -> Prop} {bs : List Addr} {H : Hp} {a : α} {v : β} {h : Hs} {Q : β -> Hp -> Prop} (p : zaU rel g W bs H (.ok a h) Q) (hr : HRel g bs h H) (r : rel bs H a v) : Q v H:=
  p bs H v .refl hr r
end Ev
namespace Ev
open PySem L2
abbrev _root_.L2.Cx.g (X : Cx) (ci : Nat -> String × List String) : G:=⟨X.K,X.mg,ci⟩
abbrev zc5 (g : G) : List Addr -> Hp -> D -> V -> Prop:=fun bs H d v=>Rep g bs H d v
abbrev zk6 (g : G) : List Addr -> Hp -> List D -> List V -> Prop:=fun bs H d v=>Reps g bs H d v
abbrev relB : List Addr -> Hp -> Bool -> Bool -> Prop:=fun _ _ a b=>b = a
def Sim {α β : Type} (rel : List Addr -> Hp -> α -> β -> Prop) (g : G) (W : WX) (t : St -> Hp -> (β -> Hp -> Prop) -> Prop) (f : En -> Hs -> R α) : Prop:=
  ∀ (σ : St) (H : Hp) (env : En) (h : Hs) (bs : List Addr) (Q : β -> Hp -> Prop),ERel g bs H env σ -> HRel g bs h H -> zaU rel g (fun C d H'=>W C d σ H') bs H (f env h) Q -> t σ H Q
structure EJ (ci : Nat -> String × List String) (X : Cx) (W : WX) (e : Expr) (t : TE) (f : En -> Hs -> R D) : Prop where
  pe : PE X e t
  sim : Sim (zc5 (X.g ci)) (X.g ci) W t f
structure TJ (ci : Nat -> String × List String) (X : Cx) (W : WX) (e : Expr) (t : TT) (f : En -> Hs -> R Bool) : Prop where
  pt : PT X e t
  sim : Sim relB (X.g ci) W t f
structure TWJ (ci : Nat -> String × List String) (X : Cx) (W : WX) (e : Expr) (t : TT) (f : En -> Hs -> R Bool) : Prop where
  pw : PW X e t
  sim : Sim relB (X.g ci) W t f
structure AJ (ci : Nat -> String × List String) (X : Cx) (W : WX) (es : List Expr) (t : TA) (f : En -> Hs -> R (List D)) : Prop where
  pa : PA X es t
  sim : Sim (zk6 (X.g ci)) (X.g ci) W t f
theorem zaU.step {α β γ δ : Type} {relA : List Addr -> Hp -> α -> β -> Prop} {zho : List Addr -> Hp -> γ -> δ -> Prop} {g : G} {W : Value -> Option Addr -> Hp -> Prop} {bs : List Addr} {H : Hp} {r : R α} {k : α -> Hs -> R γ} {Q : δ -> Hp -> Prop} {Q' : β -> Hp -> Prop}
    {M : (β -> Hp -> Prop) -> Prop} (hM : ∀ Q', zaU relA g W bs H r Q' -> M Q') (p : zaU zho g W bs H (r.bind k) Q)
    (hk : ∀ a b bs1 H1 h1, Ext bs H bs1 H1 -> HRel g bs1 h1 H1 -> relA bs1 H1 a b -> zaU zho g W bs1 H1 (k a h1) Q -> Q' b H1) : M Q' := by
  refine hM _ ?_
  cases r with
  | bad => exact p
  | err c fs h' => exact p
  | ok a h1 => exact fun bs1 H1 b e hr1 ra => hk a b bs1 H1 h1 e hr1 ra (zaU.mono e p)
theorem Sim.step {α β γ δ : Type} {relA : List Addr -> Hp -> α -> β -> Prop} {zho : List Addr -> Hp -> γ -> δ -> Prop} {g : G} {W : WX} {t : St -> Hp -> (β -> Hp -> Prop) -> Prop} {f : En -> Hs -> R α} {σ : St} {H : Hp} {env : En} {h : Hs} {bs : List Addr} {k : α -> Hs -> R γ} {Q : δ -> Hp -> Prop} {Q' : β -> Hp -> Prop}
    (ht : Sim relA g W t f) (er : ERel g bs H env σ) (hr : HRel g bs h H) (p : zaU zho g (fun C d H' => W C d σ H') bs H ((f env h).bind k) Q)
    (hk : ∀ a b bs1 H1 h1, Ext bs H bs1 H1 -> HRel g bs1 h1 H1 -> ERel g bs1 H1 env σ -> relA bs1 H1 a b -> zaU zho g (fun C d H' => W C d σ H') bs1 H1 (k a h1) Q -> Q' b H1) : t σ H Q' :=
  zaU.step (M := fun Q' => t σ H Q') (fun Q' p => ht σ H env h bs Q' er hr p) p fun a b bs1 H1 h1 e hr1 ra p1 => hk a b bs1 H1 h1 e hr1 (er.mono e) ra p1
theorem Sim.bind {α β γ δ : Type} {relA : List Addr -> Hp -> α -> β -> Prop} {zho : List Addr -> Hp -> γ -> δ -> Prop} {g : G} {W : WX} {t : St -> Hp -> (β -> Hp -> Prop) -> Prop} {f : En -> Hs -> R α}
    {u : β -> St -> Hp -> (δ -> Hp -> Prop) -> Prop} {k : α -> En -> Hs -> R γ} (ht : Sim relA g W t f)
    (hk : ∀ a b σ H env h bs (Q : δ -> Hp -> Prop), ERel g bs H env σ -> HRel g bs h H -> relA bs H a b -> zaU zho g (fun C d H' => W C d σ H') bs H (k a env h) Q -> u b σ H Q) :
    Sim zho g W (fun σ H Q => t σ H fun b H1 => u b σ H1 Q) (fun env h => (f env h).bind fun a h1 => k a env h1) :=
  fun σ H env h bs Q er hr p => ht.step er hr p fun a b bs1 H1 h1 e hr1 er1 ra p1 => hk a b σ H1 env h1 bs1 Q er1 hr1 ra p1
theorem Sim.pure_ {α β : Type} {rel : List Addr -> Hp -> α -> β -> Prop} {g : G} {W : WX} {a : α} {b : β} (h : ∀ bs H,rel bs H a b) : Sim rel g W (fun _ H Q=>Q b H) (fun _ h=>.ok a h):=
  fun σ H env h' bs Q er hr p=>zaU.ok_ p hr (h bs H)
def zag (i : Nat) : En -> Hs -> R D:=fun env h=>match env[i]? with
  | some (some d)=>.ok d h
  | _=>.bad
def eC (d : D) : En -> Hs -> R D:=fun _ h=>.ok d h
section
variable {ci : Nat -> String × List String} {X : Cx} {W : WX} {pos : Pos}
theorem zab (i : Nat) {x : Str} (hN : X.N[i]? = some x := by rfl) (hv : Vis X.env.scope x := by first | exact Or.inl rfl | exact Or.inr (Or.inl rfl) | exact Or.inr (Or.inr rfl)) (hd : (x == ("__debug__" : Str)) = false := by decide)
    (hcd : (x == ("__classdict__" : Str)) = false := by decide) : EJ ci X W (.Name x pos) (tVar i) (zag i) := by
  refine ⟨pe_var hN hv hd hcd, fun σ H env h bs Q er hr p => ?_⟩
  unfold zag at p
  split at p
  · rename_i d hd
    obtain ⟨v, hv, r⟩ := er.at_ i d hd
    exact ⟨v, hv, zaU.ok_ p hr r⟩
  · exact p.elim
theorem zae {i : Int} {j} : EJ ci X W (.Constant (.int i) j pos) (tC (.int i)) (eC (.int i)):=⟨pe_int,Sim.pure_ fun _ _=>.int i⟩
theorem zfh {b : Bool} {j} : EJ ci X W (.Constant (.bool b) j pos) (tC (.bl b)) (eC (.bl b)):=⟨pe_bl,Sim.pure_ fun _ _=>.bl b⟩
theorem zcy {j} : EJ ci X W (.Constant .none j pos) (tC .non) (eC .non):=⟨pe_non,Sim.pure_ fun _ _=>.non⟩
theorem zak {s : Str} {j} (h : PyData.strOk s = true:=by decide +kernel) : EJ ci X W (.Constant (.str s) j pos) (tC (.str s)) (eC (.str s)):=⟨pe_str,Sim.pure_ fun _ _=>.str h⟩
end
structure OpJ (g : G) (r : R2) (f : D -> D -> Hs -> R D) : Prop where
  run : ∀ (W : Value -> Option Addr -> Hp -> Prop) (bs : List Addr) (h : Hs) (H : Hp) (x y : D) (vx vy : V) (Q : VK),HRel g bs h H -> Rep g bs H x vx -> Rep g bs H y vy -> zaU (zc5 g) g W bs H (f x y h) Q -> r vx vy H Q
def zas (op : D -> D -> Hs -> R D) (fa fb : En -> Hs -> R D) : En -> Hs -> R D:=fun env h=>(fa env h).bind fun x h1=>(fb env h1).bind fun y h2=>op x y h2
theorem zgL {g : G} {W : WX} {r : R2} {op : D -> D -> Hs -> R D} {ta tb : TE} {fa fb : En -> Hs -> R D} (ho : OpJ g r op) (ha : Sim (zc5 g) g W ta fa) (hb : Sim (zc5 g) g W tb fb) : Sim (zc5 g) g W (tOp r ta tb) (zas op fa fb):=
  fun σ H env h bs Q er hr p=>ha.step er hr p fun x vx bs1 H1 h1 e1 hr1 er1 rx p1=>hb.step er1 hr1 p1 fun y vy bs2 H2 h2 e2 hr2 er2 ry p2 =>
    ho.run _ bs2 h2 H2 x y vx vy Q hr2 (rx.mono e2) ry p2
section
variable {ci : Nat -> String × List String} {X : Cx} {W : WX} {pos : Pos} {a b c : Expr} {ta tb tc : TE} {fa fb fc : En -> Hs -> R D}
theorem zaz {op : Operator} {r : R2} {f : D -> D -> Hs -> R D} (ho : OpR X (binaryOp op) r) (hj : OpJ (X.g ci) r f) (ha : EJ ci X W a ta fa) (hb : EJ ci X W b tb fb) : EJ ci X W (.BinOp a op b pos) (tOp r ta tb) (zas f fa fb):=
  ⟨pe_op ho ha.pe hb.pe,zgL hj ha.sim hb.sim⟩
theorem zew {op : CmpOp} {r : R2} {f : D -> D -> Hs -> R D} (ho : OpR X (compareOp op) r) (hj : OpJ (X.g ci) r f) (ha : EJ ci X W a ta fa) (hb : EJ ci X W b tb fb) (hm : behindInMarks op b = false) : EJ ci X W (.Compare a [op] [b] pos) (tOp r ta tb) (zas f fa fb):=
  ⟨pe_cmpR ho ha.pe hb.pe hm,zgL hj ha.sim hb.sim⟩
def toB (d : D) (h : Hs) : R Bool:=match d with
  | .bl b=>.ok b h
  | _=>.bad
def za3 (f : En -> Hs -> R D) : En -> Hs -> R Bool:=fun env h=>(f env h).bind toB
theorem zi1 {g : G} {t : TE} {f : En -> Hs -> R D} (ht : Sim (zc5 g) g W t f) : Sim relB g W (tTest t) (za3 f):=by
  refine Sim.bind (u:=fun x σ H1 Q=>∃ k,x = .bl k /\ Q k H1) (k:=fun x _ h1=>toB x h1) ht ?_
  intro a b σ H env h bs Q er hr ra p
  cases ra <;> first | exact p.elim | exact ⟨_,rfl,zaU.ok_ p hr rfl⟩
theorem zaL {op : CmpOp} {r : R2} {f : D -> D -> Hs -> R D} (ho : OpR X (compareOp op) r) (hj : OpJ (X.g ci) r f) (ha : EJ ci X W a ta fa) (hb : EJ ci X W b tb fb) (hm : behindInMarks op b = false) : TJ ci X W (.Compare a [op] [b] pos) (tTest (tOp r ta tb)) (za3 (zas f fa fb)):=
  ⟨pt_cmpR ho ha.pe hb.pe hm,zi1 (zgL hj ha.sim hb.sim)⟩
def zfe (o o' : D -> D -> Hs -> R D) (fa fb fc : En -> Hs -> R D) : En -> Hs -> R D:=fun env h=>(fa env h).bind fun x h1=>(fb env h1).bind fun y h2=>(o x y h2).bind fun z h3 =>
  (toB z h3).bind fun k h4=>if k = true then (fc env h4).bind fun w h5=>o' y w h5 else .ok (.bl false) h4
theorem zhy {g : G} {r r' : R2} {o o' : D -> D -> Hs -> R D} (ho : OpJ g r o) (ho' : OpJ g r' o') (ha : Sim (zc5 g) g W ta fa) (hb : Sim (zc5 g) g W tb fb) (hc : Sim (zc5 g) g W tc fc) : Sim (zc5 g) g W (tChain r r' ta tb tc) (zfe o o' fa fb fc):=
  fun σ H env h bs Q er hr p=>ha.step er hr p fun x vx bs1 H1 h1 e1 hr1 er1 rx p1=>hb.step er1 hr1 p1 fun y vy bs2 H2 h2 e2 hr2 er2 ry p2 =>
    zaU.step (M:=fun Q'=>r vx vy H2 Q') (fun Q' q=>ho.run _ bs2 h2 H2 x y vx vy Q' hr2 (rx.mono e2) ry q) p2 fun z vz bs3 H3 h3 e3 hr3 rz p3=>by
      cases rz with
      | bl k =>
        refine ⟨k,rfl,?_⟩
        cases k with
        | false =>
          rw [if_neg Bool.false_ne_true]
          exact zaU.ok_ p3 hr3 (.bl false)
        | true =>
          rw [if_pos rfl]
          exact hc.step (er2.mono e3) hr3 p3 fun w vw bs4 H4 h4 e4 hr4 er4 rw_ p4=>ho'.run _ bs4 h4 H4 y w vy vw Q hr4 ((ry.mono e3).mono e4) rw_ p4
      | _=>exact p3.elim
theorem zjd {op op' : CmpOp} {r r' : R2} {f f' : D -> D -> Hs -> R D} (ho : OpR X (compareOp op) r) (ho' : OpR X (compareOp op') r') (hj : OpJ (X.g ci) r f) (hj' : OpJ (X.g ci) r' f') (ha : EJ ci X W a ta fa) (hb : EJ ci X W b tb fb) (hc : EJ ci X W c tc fc)
    (hm : lastMarks [op, op'] [b, c] = false := by with_unfolding_all rfl) : EJ ci X W (.Compare a [op, op'] [b, c] pos) (tChain r r' ta tb tc) (zfe f f' fa fb fc) :=
  ⟨pe_chain ho ho' ha.pe hb.pe hc.pe hm, zhy hj hj' ha.sim hb.sim hc.sim⟩
theorem zi5 {op op' : CmpOp} {r r' : R2} {f f' : D -> D -> Hs -> R D} (ho : OpR X (compareOp op) r) (ho' : OpR X (compareOp op') r') (hj : OpJ (X.g ci) r f) (hj' : OpJ (X.g ci) r' f') (ha : EJ ci X W a ta fa) (hb : EJ ci X W b tb fb) (hc : EJ ci X W c tc fc)
    (hm : lastMarks [op, op'] [b, c] = false := by with_unfolding_all rfl) : TJ ci X W (.Compare a [op, op'] [b, c] pos) (tTest (tChain r r' ta tb tc)) (za3 (zfe f f' fa fb fc)) :=
  ⟨pt_chain ho ho' ha.pe hb.pe hc.pe hm, zi1 (zhy hj hj' ha.sim hb.sim hc.sim)⟩
end
def zaS (h : Hs) (n : Nat) : Option (List D):=match h[n]? with
  | some (.lst xs)=>some xs
  | _=>none
theorem zln {h : Hs} {n : Nat} {xs : List D} (e : zaS h n = some xs) : h[n]? = some (.lst xs):=by
  unfold zaS at e
  split at e
  · rename_i ys hy
    cases e
    exact hy
  · cases e
def rdL (h : Hs) : D -> Option (List D)
  | .lst xs=>some xs
  | .rol xs=>some xs
  | .ref n=>zaS h n
  | _=>none
def znD (h : Hs) : D -> Option (List D)
  | .lst xs=>some xs
  | .ref n=>zaS h n
  | _=>none
section
variable {g : G} {bs : List Addr} {h : Hs} {H : Hp} {d : D} {v : V} {xs : List D}
theorem zbT (hr : HRel g bs h H) {n : Nat} {a : Addr} (hb : bs[n]? = some a) (e : zaS h n = some xs) : ∃ vs,H a = some (.lst vs) /\ Reps g bs H xs vs:=by
  obtain ⟨a',h1,vs,h2,h3⟩:=hr.at_ _ _ (zln e)
  rw [hb] at h1
  cases h1
  exact ⟨vs,h2,h3⟩
theorem ziw (hr : HRel g bs h H) (r : Rep g bs H d v) (e : znD h d = some xs) : ∃ a vs,v = .ref a /\ H a = some (.lst vs) /\ Reps g bs H xs vs:=by
  cases r with
  | lst n hl rs=>cases e; exact ⟨_,_,rfl,hl,rs⟩
  | ref hb=>obtain ⟨vs,h1,h2⟩:=zbT hr hb (show zaS h _ = some xs from e); exact ⟨_,vs,rfl,h1,h2⟩
  | _=>cases e
theorem zfb (hr : HRel g bs h H) (r : Rep g bs H d v) (e : rdL h d = some xs) : ∃ a vs,v = .ref a /\ SqL g.K H a vs /\ Reps g bs H xs vs:=by
  cases r with
  | lst n hl rs=>cases e; exact ⟨_,_,rfl,.of hl,rs⟩
  | rol hl rs=>cases e; exact ⟨_,_,rfl,hl.sq,rs⟩
  | ref hb=>obtain ⟨vs,h1,h2⟩:=zbT hr hb (show zaS h _ = some xs from e); exact ⟨_,vs,rfl,.of h1,h2⟩
  | _=>cases e
end
section
variable {g : G} {bs : List Addr} {h : Hs} {H : Hp} {d : D} {v : V} {xs : List D}
theorem zkG.mono {bs1 : List Addr} {H1 : Hp} {a : Addr} {o : O} (e : Ext bs H bs1 H1) (ha : H1 a = H a) (h2 : zkG g bs H a o) : zkG g bs1 H1 a o:=by
  cases o with
  | lst ds=>obtain ⟨vs,q,r⟩:=h2; exact ⟨vs,ha.trans q,r.mono e⟩
  | ins c ds=>obtain ⟨C,dx,fvs,q1,q2,q3,q4⟩:=h2; exact ⟨C,dx,fvs,q1,ha.trans q2,q3,q4.mono e⟩
  | dct ks ds=>obtain ⟨kvs,q1,q2,q3⟩:=h2; exact ⟨kvs,ha.trans q1,q2,q3.mono e⟩
  | dn ks ds=>obtain ⟨es,q1,q2,q3,q4⟩:=h2; exact ⟨es,ha.trans q1,q2,q3.mono e,q4.mono e⟩
  | lk od u o =>
    obtain ⟨q,r⟩:=h2
    refine ⟨ha.trans q,?_⟩
    cases o with
    | dct ks ds=>obtain ⟨kvs,q1,q2,q3⟩:=r; exact ⟨kvs,q1,q2,q3.mono e⟩
    | dn ks ds=>obtain ⟨es,q1,q2,q3,q4⟩:=r; exact ⟨es,q1,q2,q3.mono e,q4.mono e⟩
    | _=>exact r.elim
  | tb x=>obtain ⟨q,ps,q1,q2,q3⟩:=h2; exact ⟨q,ps,ha.trans q1,q2,q3.mono e⟩
theorem HRel.mono {H1 : Hp} (hr : HRel g bs h H) (e : Ext bs H bs H1) (k : ∀ b ∈ bs,H1 b = H b) : HRel g bs h H1:=by
  refine ⟨hr.len,hr.nd,fun i o hi=>?_⟩
  obtain ⟨a,h1,h2⟩:=hr.at_ i o hi
  exact ⟨a,h1,h2.mono e (k a (List.mem_of_getElem? h1))⟩
theorem HRel.some_ (hr : HRel g bs h H) {b : Addr} (hb : b ∈ bs) : ∃ o,H b = some o:=by
  obtain ⟨i,hi⟩:=List.getElem?_of_mem hb
  have hl : i < h.length:=by rw [<- hr.len]; exact (List.getElem?_eq_some_iff.mp hi).1
  obtain ⟨a,h1,h2⟩:=hr.at_ i h[i] (List.getElem?_eq_getElem hl)
  rw [hi] at h1
  cases h1
  cases ho : h[i] with
  | lst ds=>rw [ho] at h2; obtain ⟨vs,q,_⟩:=h2; exact ⟨_,q⟩
  | ins c ds=>rw [ho] at h2; obtain ⟨C,dx,fvs,q1,q2,q3,q4⟩:=h2; exact ⟨_,q2⟩
  | dct ks ds=>rw [ho] at h2; obtain ⟨kvs,q1,q2,q3⟩:=h2; exact ⟨_,q1⟩
  | dn ks ds=>rw [ho] at h2; obtain ⟨es,q1,_⟩:=h2; exact ⟨_,q1⟩
  | lk od u o=>rw [ho] at h2; exact ⟨_,h2.1⟩
  | tb x=>rw [ho] at h2; obtain ⟨_,ps,q,_⟩:=h2; exact ⟨_,q⟩
theorem Ext.new {p : Addr} {o : HO} (hp : H p = none) : Ext bs H bs (upd H p o):=
  ⟨⟨[],by simp,fun _ z=>nomatch z⟩,fun b u hu _=>by rw [upd_ne (ne_of_none hu hp)]; exact hu,fun b u hu=>⟨u,by rw [upd_ne (ne_of_none hu hp)]; exact hu⟩⟩
theorem HRel.new (hr : HRel g bs h H) {p : Addr} {o : HO} (hp : H p = none) : HRel g bs h (upd H p o):=
  HRel.mono hr (.new hp) fun b hb=>by
    obtain ⟨u,hu⟩:=hr.some_ hb
    rw [upd_ne (ne_of_none hu hp)]
theorem HRel.out (hr : HRel g bs h H) {p : Addr} (hp : H p = none) : p ∉ bs:=fun z=>by
  obtain ⟨u,hu⟩:=hr.some_ z
  rw [hp] at hu; cases hu
theorem zgN {W : Value -> Option Addr -> Hp -> Prop} {Q : VK} {ds : List D} {vs : List V} (hr : HRel g bs h H) (rs : Reps g bs H ds vs) (p : zaU (zc5 g) g W bs H (.ok (.tup ds) h) Q) : ∀ q,H q = none -> Q (.ref q) (upd H q (.tup vs)):=fun q hq=>by
  refine p bs _ _ (.new hq) (hr.new hq) (.tup (.inl ⟨hr.out hq,.inl upd_same⟩) (rs.mono (.new hq)))
theorem zey {W : Value -> Option Addr -> Hp -> Prop} {Q : VK} {ds : List D} {vs : List V} (hr : HRel g bs h H) (rs : Reps g bs H ds vs) (p : zaU (zc5 g) g W bs H (.ok (.lst ds) h) Q) : ∀ q,H q = none -> Q (.ref q) (upd H q (.lst vs)):=fun q hq=>by
  refine p bs _ _ (.new hq) (hr.new hq) (.lst (hr.out hq) upd_same (rs.mono (.new hq)))
theorem Ext.newM {p : Addr} {o : HO} (hp : H p = none) : Ext bs H (bs ++ [p]) (upd H p o) :=
  ⟨⟨[p], rfl, fun b hb => by have e : b = p := by simpa using hb
                             rw [e]; exact hp⟩, fun b u hu _ => by rw [upd_ne (ne_of_none hu hp)]; exact hu, fun b u hu => ⟨u, by rw [upd_ne (ne_of_none hu hp)]; exact hu⟩⟩
theorem HRel.newM (hr : HRel g bs h H) {p : Addr} {ho : HO} {o : O} (hp : H p = none) (ro : zkG g (bs ++ [p]) (upd H p ho) p o) : HRel g (bs ++ [p]) (h ++ [o]) (upd H p ho):=by
  have np:=hr.out hp
  refine ⟨by simp [hr.len],?_,fun i o' hi=>?_⟩
  · rw [List.nodup_append]
    refine ⟨hr.nd,by simp,fun a ha b hb=>?_⟩
    have e : b = p:=by simpa using hb
    subst e
    rintro rfl
    exact np ha
  · by_cases hlt : i < h.length
    · rw [List.getElem?_append_left hlt] at hi
      obtain ⟨a,h1,h2⟩:=hr.at_ i o' hi
      have hb:=List.mem_of_getElem? h1
      obtain ⟨u,hu⟩:=hr.some_ hb
      exact ⟨a,by rw [List.getElem?_append_left (by rw [hr.len]; exact hlt)]; exact h1,h2.mono (.newM hp) (upd_ne (ne_of_none hu hp))⟩
    · rw [List.getElem?_append_right (by omega)] at hi
      have hi0 : i - h.length = 0:=by
        have:=(List.getElem?_eq_some_iff.mp hi).1
        simp at this
        omega
      rw [hi0] at hi
      cases hi
      exact ⟨p,by rw [List.getElem?_append_right (by rw [hr.len]; omega),hr.len,hi0]; rfl,ro⟩
theorem zh0 {W : Value -> Option Addr -> Hp -> Prop} {Q : VK} {ds : List D} {vs : List V} (hr : HRel g bs h H) (rs : Reps g bs H ds vs) (p : zaU (zc5 g) g W bs H (.ok (.ref h.length) (h ++ [.lst ds])) Q) : ∀ q,H q = none -> Q (.ref q) (upd H q (.lst vs)):=fun q hq=>by
  refine p (bs ++ [q]) _ _ (.newM hq) (hr.newM hq ⟨vs,upd_same,rs.mono (.newM hq)⟩) (.ref ?_)
  rw [List.getElem?_append_right (by rw [hr.len]; exact Nat.le_refl _),hr.len,Nat.sub_self]; rfl
end
end Ev
namespace Ev
open PySem L2
abbrev big : Nat:=16777216
theorem zcw : sizeLine = big:=sizeLine_eq
def zc2 (x y : D) (h : Hs) : R D:=match x,y with
  | .int i,.int j=>.ok (.int (i + j)) h
  | .str a,.str b=>if a.length + b.length <= big then .ok (.str (a ++ b)) h else .bad
  | .tup a,.tup b=>if a.length + b.length <= big then .ok (.tup (a ++ b)) h else .bad
  | x,y=>match znD h x,znD h y with
    | some a,some b=>if a.length + b.length <= big then .ok (.lst (a ++ b)) h else .bad
    | _,_=>.bad
def zmn (K : PySem.W.Frag) : R2:=fun x y H Q=>rI0 (fun i j=>V.int (i + j)) x y H Q \/ (∃ i j,x = .str i /\ y = .str j /\ i.length + j.length <= sizeLine /\ Q (.str (i ++ j)) H) \/ rCatA K x y H Q \/ rCat x y H Q
theorem zaQ {X : Cx} : OpR X (binaryOp .Add) (zmn X.K):=op_add.or (op_add_str.or (op_catA.or op_cat))
theorem zfg {a b : Str} (ha : PyData.strOk a = true) (hb : PyData.strOk b = true) : PyData.strOk (a ++ b) = true:=by
  unfold PyData.strOk at *
  show (a.cps ++ b.cps).all _ = true
  rw [Array.all_append,ha,hb]; rfl
theorem zaP {g : G} : OpJ g (zmn g.K) zc2:=by
  refine ⟨fun W bs h H x y vx vy Q hr rx ry p=>?_⟩
  have lists : ∀ {a b : List D},znD h x = some a -> znD h y = some b -> a.length + b.length <= big -> zaU (zc5 g) g W bs H (.ok (.lst (a ++ b)) h) Q -> zmn g.K vx vy H Q:=fun {a b} h1 h2 hl p=>by
    obtain ⟨p1,v1,rfl,e1,r1⟩:=ziw hr rx h1
    obtain ⟨p2,v2,rfl,e2,r2⟩:=ziw hr ry h2
    exact .inr (.inr (.inr ⟨p1,p2,v1,v2,rfl,rfl,e1,e2,by rw [<- r1.length,<- r2.length,zcw]; exact hl,zey hr (r1.append r2) p⟩))
  unfold zc2 at p
  split at p
  · cases rx; cases ry
    exact .inl ⟨_,_,rfl,rfl,zaU.ok_ p hr (.int _)⟩
  · split at p
    · rename_i hl
      cases rx with | str h1=>cases ry with | str h2=>exact .inr (.inl ⟨_,_,rfl,rfl,by rw [zcw]; exact hl,zaU.ok_ p hr (.str (zfg h1 h2))⟩)
    · exact p.elim
  · rename_i a b
    split at p
    · rename_i hl
      cases rx with
      | @tup p1 v1 _ t1 r1 =>
        cases ry with
        | @tup p2 v2 _ t2 r2 =>
          refine .inr (.inr (.inl ⟨p1,p2,v1,v2,rfl,rfl,t1.sq,t2.sq,by rw [<- r1.length,<- r2.length,zcw]; exact hl,fun e=>?_,fun e1 e2=>?_,fun e1 e2=>zgN hr (r1.append r2) p⟩))
          · subst e
            have e' : a = []:=List.eq_nil_of_length_eq_zero r1.length
            subst e'
            exact zaU.ok_ p hr (.tup t2 r2)
          · subst e2
            have e' : b = []:=List.eq_nil_of_length_eq_zero r2.length
            subst e'
            rw [List.append_nil] at p
            exact zaU.ok_ p hr (.tup t1 r1)
    · exact p.elim
  · split at p
    · rename_i h1 h2
      split at p
      · rename_i hl
        exact lists h1 h2 hl p
      · exact p.elim
    · exact p.elim
def intD (f : Int -> Int -> Option D) (x y : D) (h : Hs) : R D:=match x,y with
  | .int i,.int j=>match f i j with
    | some d=>.ok d h
    | none=>.bad
  | _,_=>.bad
theorem ziu {g : G} {C : Int -> Int -> Prop} {k : Int -> Int -> V} {f : Int -> Int -> Option D} (hf : ∀ i j d,f i j = some d -> C i j /\ ∀ bs H,Rep g bs H d (k i j)) : OpJ g (rI C k) (intD f):=by
  refine ⟨fun W bs h H x y vx vy Q hr rx ry p=>?_⟩
  unfold intD at p
  split at p
  · split at p
    · rename_i hd
      cases rx; cases ry
      obtain ⟨c,r⟩:=hf _ _ _ hd
      exact ⟨_,_,rfl,rfl,c,zaU.ok_ p hr (r bs H)⟩
    · exact p.elim
  · exact p.elim
theorem zfp {g : G} {k : Int -> Int -> V} {f : Int -> Int -> Option D} (hf : ∀ i j d,f i j = some d -> ∀ bs H,Rep g bs H d (k i j)) : OpJ g (rI0 k) (intD f):=by
  refine ⟨fun W bs h H x y vx vy Q hr rx ry p=>?_⟩
  unfold intD at p
  split at p
  · split at p
    · rename_i hd
      cases rx; cases ry
      exact ⟨_,_,rfl,rfl,zaU.ok_ p hr (hf _ _ _ hd bs H)⟩
    · exact p.elim
  · exact p.elim
def zs1 : D -> D -> Hs -> R D:=intD fun i j=>some (.int (i - j))
theorem zih {i : Int} {z : Nat} (h : Nat.ble i.natAbs z = true) : -(z : Int) <= i /\ i <= z:=by
  have:=Nat.le_of_ble_eq_true h
  omega
def zgx (i : Int) : Bool:=Nat.ble i.natAbs 18446744073709551615
def znH (i : Int) : Bool:=decide (i.natAbs < 2 ^ 400)
def znY (i j : Int) : Option D:=if (zgx i || zgx j || (znH i && znH j)) = true then some (.int (i * j)) else none
def zqU (i j : Int) : Prop:=CMul i j \/ CMulW i j
def zd7 (x y : D) (h : Hs) : R D:=match x,y with
  | .int i,.int j=>match znY i j with
    | some d=>.ok d h
    | none=>.bad
  | x,.int k=>match znD h x with
    | some a=>if Nat.ble k.natAbs big = true /\ a.length * k.toNat <= big then .ok (.lst (List.replicate k.toNat a).flatten) h else .bad
    | _=>.bad
  | _,_=>.bad
theorem zlx {X : Cx} : OpR X (binaryOp .Mult) (rI zqU fun i j=>V.int (i * j)):=by
  intro pins s σ H x y v u Q I rx ry h
  obtain ⟨i,j,e1,e2,c,q⟩:=h
  rcases c with c | c
  · exact op_mul pins s σ H x y v u Q I rx ry ⟨i,j,e1,e2,c,q⟩
  · exact op_mulW pins s σ H x y v u Q I rx ry ⟨i,j,e1,e2,c,q⟩
def zox : R2:=fun x y H Q=>rI zqU (fun i j=>V.int (i * j)) x y H Q \/ rRep x y H Q
theorem zdv {X : Cx} : OpR X (binaryOp .Mult) zox:=zlx.or op_rep
theorem zhr {i : Int} (h : zgx i = true) : -(2 ^ 64) < i /\ i < 2 ^ 64:=by
  obtain ⟨h1,h2⟩:=zih (show Nat.ble i.natAbs 18446744073709551615 = true from h)
  have e : (2 : Int) ^ 64 = 18446744073709551616:=by simp
  rw [e]
  exact ⟨by omega,by omega⟩
theorem zj1 {i : Int} (h : znH i = true) : i.natAbs < 2 ^ 400:=by
  unfold znH at h
  exact of_decide_eq_true h
theorem zmT {i j : Int} {d : D} (h : znY i j = some d) : zqU i j /\ d = .int (i * j):=by
  unfold znY at h
  split at h
  · rename_i hc
    cases h
    refine ⟨?_,rfl⟩
    simp only [Bool.or_eq_true,Bool.and_eq_true] at hc
    rcases hc with (hc | hc) | ⟨h1,h2⟩
    · exact .inl (.inl (zhr hc))
    · exact .inl (.inr (zhr hc))
    · exact .inr (wide_mul (a:=400) (b:=400) (zj1 h1) (zj1 h2) (by decide) (by decide) (by decide))
  · cases h
theorem Reps.flatten_replicate {g : G} {bs : List Addr} {H : Hp} {ds : List D} {vs : List V} (r : Reps g bs H ds vs) : ∀ n : Nat,Reps g bs H (List.replicate n ds).flatten (List.replicate n vs).flatten
  | 0=>.nil
  | n + 1=>by
    rw [List.replicate_succ,List.replicate_succ,List.flatten_cons,List.flatten_cons]
    exact r.append (Reps.flatten_replicate r n)
theorem zde {g : G} : OpJ g zox zd7:=by
  refine ⟨fun W bs h H x y vx vy Q hr rx ry p=>?_⟩
  unfold zd7 at p
  split at p
  · split at p
    · rename_i hd
      obtain ⟨c,rfl⟩:=zmT hd
      cases rx; cases ry
      exact .inl ⟨_,_,rfl,rfl,c,zaU.ok_ p hr (.int _)⟩
    · exact p.elim
  · split at p
    · rename_i h1
      split at p
      · rename_i hc
        obtain ⟨p1,v1,rfl,e1,r1⟩:=ziw hr rx h1
        cases ry
        have z:=zih hc.1
        have e63 : (9223372036854775808 : Int) = 2 ^ 63:=by simp
        have zb : (big : Int) = 16777216:=rfl
        rw [zb] at z
        exact .inr ⟨p1,_,v1,rfl,rfl,e1,by rw [<- e63]; omega,by rw [<- e63]; omega,by rw [<- r1.length,zcw]; exact hc.2,zey hr (r1.flatten_replicate _) p⟩
      · exact p.elim
    · exact p.elim
  · exact p.elim
def zqd : R2:=rI CDivW fun i j=>V.int (i / j)
def zeH : D -> D -> Hs -> R D:=intD fun i j=>if 0 < j /\ j.natAbs < 2 ^ 400 then some (.int (i / j)) else none
theorem zfs {g : G} : OpJ g zqd zeH:=ziu fun i j d e=>by
  split at e
  · rename_i hc
    cases e
    exact ⟨wide_div hc.1 hc.2 (by decide) (by decide),fun _ _=>.int _⟩
  · cases e
def zsv : R2:=rI (fun _ j=>0 < j) fun i j=>V.int (i % j)
def zh4 : D -> D -> Hs -> R D:=intD fun i j=>if 0 < j then some (.int (i % j)) else none
theorem zeU {g : G} : OpJ g zsv zh4:=ziu fun i j d e=>by
  split at e
  · rename_i hc
    cases e
    exact ⟨hc,fun _ _=>.int _⟩
  · cases e
def zse : R2:=rI CPow fun i j=>V.int (i ^ j.toNat)
def znr : D -> D -> Hs -> R D:=intD fun i j=>if 0 <= j /\ j <= 1000000 /\ i.natAbs < 2 ^ 64 then some (.int (i ^ j.toNat)) else none
theorem zgD {g : G} : OpJ g zse znr:=ziu fun i j d e=>by
  split at e
  · rename_i hc
    cases e
    exact ⟨hc,fun _ _=>.int _⟩
  · cases e
def ltD : D -> D -> Hs -> R D:=intD fun i j=>some (.bl (decide (i < j)))
def leD : D -> D -> Hs -> R D:=intD fun i j=>some (.bl (decide (i <= j)))
def gtD : D -> D -> Hs -> R D:=intD fun i j=>some (.bl (decide (j < i)))
def geD : D -> D -> Hs -> R D:=intD fun i j=>some (.bl (decide (j <= i)))
theorem zl5 {g : G} : OpJ g (rI0 fun i j=>V.bl (decide (i < j))) ltD:=zfp fun i j d e bs H=>by cases e; exact .bl _
theorem zer {g : G} : OpJ g (rI0 fun i j=>V.bl (decide (i <= j))) leD:=zfp fun i j d e bs H=>by cases e; exact .bl _
theorem zgq {g : G} : OpJ g (rI0 fun i j=>V.bl (decide (j < i))) gtD:=zfp fun i j d e bs H=>by cases e; exact .bl _
theorem zoJ {g : G} : OpJ g (rI0 fun i j=>V.bl (decide (j <= i))) geD:=zfp fun i j d e bs H=>by cases e; exact .bl _
def zcb (f : D -> Option PyData) : List D -> Option (List PyData)
  | []=>some []
  | x :: xs=>match f x,zcb f xs with
    | some y,some ys=>some (y :: ys)
    | _,_=>none
def dat : Nat -> Hs -> D -> Option PyData
  | 0,_,_=>none
  | k + 1,h,d=>match d with
    | .non=>some .none
    | .bl b=>some (.bool b)
    | .int i=>some (.int i)
    | .str s=>some (.str s)
    | .tup xs=>(zcb (dat k h) xs).map .tuple
    | .lst xs=>(zcb (dat k h) xs).map .list
    | .rol xs=>(zcb (dat k h) xs).map .list
    | .ref n=>match zaS h n with
      | some xs=>(zcb (dat k h) xs).map .list
      | none=>none
    | .obj _ _=>none
    | .dct _ _=>none
    | .dnt _ _=>none
theorem zfM {g : G} {bs : List Addr} {h : Hs} {H : Hp} (hr : HRel g bs h H) : ∀ (k : Nat) {d : D} {v : V} {p : PyData},dat k h d = some p -> Rep g bs H d v -> Dp g.K H v p /\ p.canLay0 = true /\ p.depth <= k
  | 0,_,_,_,e,_=>by cases e
  | k + 1,d,v,p,e,r=>by
    have all : ∀ {ds : List D} {vs : List V} {ps : List PyData},zcb (dat k h) ds = some ps -> Reps g bs H ds vs -> DpAll g.K H vs ps /\ PyData.canLayAll0 ps = true /\ PyData.depthAll ps <= k:=by
      intro ds
      induction ds with
      | nil =>
        intro vs ps e r
        cases e
        cases r
        exact ⟨.nil,rfl,Nat.zero_le _⟩
      | cons x xs ih =>
        intro vs ps e r
        cases r with
        | cons r1 r2 =>
          unfold zcb at e
          split at e
          · rename_i y ys h1 h2
            cases e
            obtain ⟨a1,a2,a3⟩:=zfM hr k h1 r1
            obtain ⟨b1,b2,b3⟩:=ih h2 r2
            refine ⟨.cons a1 b1,by show (_ && _) = true; rw [a2,b2]; rfl,?_⟩
            show max (PyData.depth y) (PyData.depthAll ys) <= k
            omega
          · cases e
    have lists : ∀ {ds : List D} {vs : List V} {a : Addr},SqL g.K H a vs -> Reps g bs H ds vs -> (zcb (dat k h) ds).map PyData.list = some p -> v = .ref a -> Dp g.K H v p /\ p.canLay0 = true /\ p.depth <= k + 1:=by
      intro ds vs a hs r e hv
      cases hd : zcb (dat k h) ds with
      | none=>rw [hd] at e; cases e
      | some ps =>
        rw [hd] at e
        cases e
        obtain ⟨a1,a2,a3⟩:=all hd r
        subst hv
        exact ⟨.lst hs a1,a2,Nat.succ_le_succ a3⟩
    cases r with
    | non=>cases e; exact ⟨.non,rfl,Nat.zero_le _⟩
    | bl b=>cases e; exact ⟨.bl b,rfl,Nat.zero_le _⟩
    | int i=>cases e; exact ⟨.int i,rfl,Nat.zero_le _⟩
    | str hs=>cases e; exact ⟨.str _,hs,Nat.zero_le _⟩
    | @tup a vs ds t rs =>
      have e' : (zcb (dat k h) ds).map PyData.tuple = some p:=e
      cases hd : zcb (dat k h) ds with
      | none=>rw [hd] at e'; cases e'
      | some ps =>
        rw [hd] at e'
        cases e'
        obtain ⟨a1,a2,a3⟩:=all hd rs
        exact ⟨.tup t.sq a1,a2,Nat.succ_le_succ a3⟩
    | lst n hl rs=>exact lists (.of hl) rs e rfl
    | rol hl rs=>exact lists hl.sq rs e rfl
    | obj=>cases e
    | dct=>cases e
    | dnt=>cases e
    | @ref n a hb =>
      have e' : (match zaS h n with
        | some xs=>(zcb (dat k h) xs).map PyData.list
        | none=>none) = some p:=e
      cases hc : zaS h n with
      | none=>rw [hc] at e'; cases e'
      | some xs =>
        rw [hc] at e'
        obtain ⟨vs,h1,h2⟩:=zbT hr hb hc
        exact lists (.of h1) h2 e' rfl
theorem zcD {k : Nat} {p : PyData} (h1 : p.canLay0 = true) (h2 : p.depth <= k) (hk : k <= 60) : SeqAt.shaped p = true:=by
  unfold SeqAt.shaped
  rw [h1,Bool.true_and]
  exact decide_eq_true (by omega)
def eqD (x y : D) (h : Hs) : R D:=match dat 20 h x,dat 20 h y with
  | some a,some b=>.ok (.bl (PyData.eqv a b)) h
  | _,_=>.bad
def neD (x y : D) (h : Hs) : R D:=match dat 20 h x,dat 20 h y with
  | some a,some b=>.ok (.bl (!PyData.eqv a b)) h
  | _,_=>.bad
theorem zcc {g : G} : OpJ g (rEqD g.K) eqD:=by
  refine ⟨fun W bs h H x y vx vy Q hr rx ry p=>?_⟩
  unfold eqD at p
  split at p
  · rename_i h1 h2
    obtain ⟨a1,a2,a3⟩:=zfM hr 20 h1 rx
    obtain ⟨b1,b2,b3⟩:=zfM hr 20 h2 ry
    exact ⟨_,_,a1,b1,zcD a2 a3 (by decide),zcD b2 b3 (by decide),zaU.ok_ p hr (.bl _)⟩
  · exact p.elim
theorem zeF {g : G} : OpJ g (rNeD g.K) neD:=by
  refine ⟨fun W bs h H x y vx vy Q hr rx ry p=>?_⟩
  unfold neD at p
  split at p
  · rename_i h1 h2
    obtain ⟨a1,a2,a3⟩:=zfM hr 20 h1 rx
    obtain ⟨b1,b2,b3⟩:=zfM hr 20 h2 ry
    exact ⟨_,_,a1,b1,zcD a2 a3 (by decide),zcD b2 b3 (by decide),zaU.ok_ p hr (.bl _)⟩
  · exact p.elim
def isN : D -> Bool
  | .non=>true
  | _=>false
def zf7 (x y : D) (h : Hs) : R D:=match y with
  | .non=>.ok (.bl (isN x)) h
  | _=>.bad
def zqF (x y : D) (h : Hs) : R D:=match y with
  | .non=>.ok (.bl (!isN x)) h
  | _=>.bad
theorem zod {g : G} {bs : List Addr} {H : Hp} {x : D} {v : V} (r : Rep g bs H x v) : decide (v = .non) = isN x:=by
  cases r <;> rfl
abbrev zsw : R2:=fun x y H Q=>y = .non /\ Q (.bl (decide (x = .non))) H
theorem zeY {g : G} : OpJ g zsw zf7:=by
  refine ⟨fun W bs h H x y vx vy Q hr rx ry p=>?_⟩
  unfold zf7 at p
  split at p
  · cases ry
    exact ⟨rfl,by rw [zod rx]; exact zaU.ok_ p hr (.bl _)⟩
  · exact p.elim
def ziB : D -> Bool
  | .non=>true
  | .bl _=>true
  | .int _=>true
  | .str _=>true
  | _=>false
def eqF : D -> D -> Bool
  | .non,.non=>true
  | .bl a,.bl b=>a == b
  | .bl a,.int b=>(if a then 1 else 0) == b
  | .int a,.bl b=>a == (if b then 1 else 0)
  | .int a,.int b=>a == b
  | .str a,.str b=>a == b
  | _,_=>false
def inB (x y : D) (h : Hs) : Option Bool:=match y with
  | .tup ys=>if (ziB x && ys.all ziB) = true then some (ys.any fun z=>eqF z x) else none
  | y=>match rdL h y with
    | some ys=>match dat 20 h x,zcb (dat 19 h) ys with
      | some p,some ps=>some (ps.any fun z=>PyData.eqv z p)
      | _,_=>none
    | none=>none
def inD (x y : D) (h : Hs) : R D:=match inB x y h with
  | some b=>.ok (.bl b) h
  | none=>.bad
def zbQ (x y : D) (h : Hs) : R D:=match inB x y h with
  | some b=>.ok (.bl (!b)) h
  | none=>.bad
def zrR (K : PySem.W.Frag) : R2:=fun x y H Q=>rIn K false x y H Q \/ rInD K x y H Q
def zjO (K : PySem.W.Frag) : R2:=fun x y H Q=>rIn K true x y H Q \/ rNotInD K x y H Q
theorem zjN {g : G} {bs : List Addr} {H : Hp} {x : D} {v : V} (r : Rep g bs H x v) (h : ziB x = true) : flatV v = true:=by
  cases r <;> first | rfl | cases h
theorem zn9 {g : G} {bs : List Addr} {H : Hp} {x y : D} {v u : V} (r : Rep g bs H x v) (q : Rep g bs H y u) (h : ziB x = true) (h2 : ziB y = true) : eqV v u = eqF x y:=by
  cases r <;> cases q <;> first | rfl | cases h | cases h2
theorem zjc {g : G} {bs : List Addr} {H : Hp} {x : D} {v : V} (rx : Rep g bs H x v) (hx : ziB x = true) : ∀ {ds : List D} {vs : List V},Reps g bs H ds vs -> ds.all ziB = true -> vs.all flatV = true /\ inV v vs = ds.any (fun z=>eqF z x)
  | _,_,.nil,_=>⟨rfl,rfl⟩
  | _,_,.cons r t,h=>by
    rw [List.all_cons,Bool.and_eq_true] at h
    obtain ⟨a,b⟩:=zjc rx hx t h.2
    unfold inV at b ⊢
    refine ⟨by rw [List.all_cons,zjN r h.1,a]; rfl,by rw [List.any_cons,List.any_cons,b,zn9 r rx h.1 hx]⟩
theorem zkN {g : G} {bs : List Addr} {h : Hs} {H : Hp} {x y : D} {vx vy : V} {b : Bool} (hr : HRel g bs h H) (rx : Rep g bs H x vx) (ry : Rep g bs H y vy) (e : inB x y h = some b) :
    (∃ p xs, vy = .ref p /\ (SqL g.K H p xs \/ SqT g.K H p xs) /\ flatV vx = true /\ xs.all flatV = true /\ inV vx xs = b) \/
    ∃ d ds, Dp g.K H vx d /\ Dp g.K H vy (.list ds) /\ SeqAt.shaped d = true /\ SeqAt.shaped (.list ds) = true /\ ds.any (fun z => PyData.eqv z d) = b := by
  unfold inB at e
  split at e
  · split at e
    · rename_i hc
      rw [Bool.and_eq_true] at hc
      cases e
      cases ry with
      | @tup a vs _ t rs =>
        obtain ⟨h1, h2⟩ := zjc rx hc.1 rs hc.2
        exact .inl ⟨a, vs, rfl, .inr t.sq, zjN rx hc.1, h1, h2⟩
    · cases e
  · split at e
    · rename_i ys hy
      split at e
      · rename_i p ps h1 h2
        cases e
        obtain ⟨a1, a2, a3⟩ := zfM hr 20 h1 rx
        have hl : dat 20 h y = some (.list ps) := by
          have hh : (zcb (dat 19 h) ys).map PyData.list = some (.list ps) := by rw [h2]; rfl
          cases y with
          | lst zs => cases hy; exact hh
          | rol zs => cases hy; exact hh
          | ref n =>
            have hy' : zaS h n = some ys := hy
            show (match zaS h n with
              | some xs => (zcb (dat 19 h) xs).map PyData.list
              | none => none) = _
            rw [hy']
            exact hh
          | _ => cases hy
        obtain ⟨b1, b2, b3⟩ := zfM hr 20 hl ry
        exact .inr ⟨p, ps, a1, b1, zcD a2 a3 (by decide), zcD b2 b3 (by decide), rfl⟩
      · cases e
    · cases e
theorem zo4 {g : G} : OpJ g (zrR g.K) inD:=by
  refine ⟨fun W bs h H x y vx vy Q hr rx ry p=>?_⟩
  unfold inD at p
  split at p
  · rename_i b hb
    have q:=zaU.ok_ p hr (.bl _)
    rcases zkN hr rx ry hb with ⟨a,xs,e1,e2,e3,e4,e5⟩ | ⟨d,ds,e1,e2,e3,e4,e5⟩
    · exact .inl ⟨a,xs,e1,e2,e3,e4,by rw [if_neg Bool.false_ne_true,e5]; exact q⟩
    · exact .inr ⟨d,ds,e1,e2,e3,e4,by rw [e5]; exact q⟩
  · exact p.elim
theorem zc4 {g : G} : OpJ g (zjO g.K) zbQ:=by
  refine ⟨fun W bs h H x y vx vy Q hr rx ry p=>?_⟩
  unfold zbQ at p
  split at p
  · rename_i b hb
    have q:=zaU.ok_ p hr (.bl _)
    rcases zkN hr rx ry hb with ⟨a,xs,e1,e2,e3,e4,e5⟩ | ⟨d,ds,e1,e2,e3,e4,e5⟩
    · exact .inl ⟨a,xs,e1,e2,e3,e4,by rw [if_pos rfl,e5]; exact q⟩
    · exact .inr ⟨d,ds,e1,e2,e3,e4,by rw [e5]; exact q⟩
  · exact p.elim
theorem znQ {X : Cx} (hu : X.A.units + 65 < cLine) : OpR X (compareOp .In) (zrR X.K):=op_in_seq.or (op_inD hu)
theorem zda {X : Cx} (hu : X.A.units + 65 < cLine) : OpR X (compareOp .NotIn) (zjO X.K):=op_notIn_seq.or (op_notInD hu)
end Ev
namespace Ev
open PySem L2
def ztd (x : D) (h : Hs) : R D:=match x with
  | .int i=>.ok (.int (-i)) h
  | _=>.bad
def zqW (x : D) (h : Hs) : Option Bool:=match x with
  | .non=>some false
  | .bl b=>some b
  | .int i=>some (i != 0)
  | .str s=>if s.length <= big then some ((s.length : Int) != 0) else none
  | .tup xs=>some (!xs.isEmpty)
  | x=>match rdL h x with
    | some xs=>some (!xs.isEmpty)
    | none=>none
def zh5 (x : D) (h : Hs) : R Bool:=match zqW x h with
  | some b=>.ok b h
  | none=>.bad
theorem zg9 {g : G} {bs : List Addr} {h : Hs} {H : Hp} {x : D} {v : V} {b : Bool} (hr : HRel g bs h H) (r : Rep g bs H x v) (e : zqW x h = some b) : TruV g.K v H b:=by
  have emp : ∀ {ds : List D} {vs : List V},Reps g bs H ds vs -> (!ds.isEmpty) = !vs.isEmpty:=fun {ds vs} r=>by cases r <;> rfl
  have lists : ∀ {xs : List D},rdL h x = some xs -> TruV g.K v H (!xs.isEmpty):=fun {xs} e=>by
    obtain ⟨a,vs,rfl,hs,rs⟩:=zfb hr r e
    exact .inl ⟨vs,hs,emp rs⟩
  cases r with
  | non=>cases e; exact rfl
  | bl b=>cases e; exact rfl
  | int i=>cases e; exact rfl
  | str hs =>
    have e' : (if _ then some _ else none) = some b:=e
    split at e'
    · rename_i hl
      cases e'
      exact ⟨by rw [zcw]; exact hl,rfl⟩
    · cases e'
  | tup t rs=>cases e; exact .inr (.inl ⟨_,t.sq,emp rs⟩)
  | lst n hl rs=>cases e; exact lists rfl
  | rol hl rs=>cases e; exact lists rfl
  | obj=>cases e
  | dct=>cases e
  | dnt=>cases e
  | @ref n a hb =>
    have e' : (match zaS h n with
      | some xs=>some (!xs.isEmpty)
      | none=>none) = some b:=e
    cases hc : zaS h n with
    | none=>rw [hc] at e'; cases e'
    | some xs =>
      rw [hc] at e'
      cases e'
      exact lists hc
section
variable {ci : Nat -> String × List String} {X : Cx} {W : WX} {pos : Pos} {a b c : Expr} {ta tb tc : TE} {fa fb fc : En -> Hs -> R D} {tA tB' : TT} {gA gB : En -> Hs -> R Bool} {rest : List Expr}
def eUn (op : D -> Hs -> R D) (fa : En -> Hs -> R D) : En -> Hs -> R D:=fun env h=>(fa env h).bind op
def zgO (fa : En -> Hs -> R D) : En -> Hs -> R Bool:=fun env h=>(fa env h).bind zh5
theorem zmO (ha : Sim (zc5 (X.g ci)) (X.g ci) W ta fa) : Sim relB (X.g ci) W (fun σ H Q=>ta σ H fun x H'=>∃ k,TruV X.K x H' k /\ Q k H') (zgO fa):=
  fun σ H env h bs Q er hr p=>ha.step er hr p fun x vx bs1 H1 h1 e1 hr1 er1 rx p1=>by
    unfold zh5 at p1
    split at p1
    · rename_i b hb
      exact ⟨b,zg9 hr1 rx hb,zaU.ok_ p1 hr1 rfl⟩
    · exact p1.elim
theorem zcq (ha : EJ ci X W a ta fa) (he : ∀ whole,isTrue a X.env whole = (do let v <- whole; standAt a.pos; holding [v] (truthy v)):=by intro _; rfl) : TJ ci X W a (fun σ H Q=>ta σ H fun x H'=>∃ k,TruV X.K x H' k /\ Q k H') (zgO fa):=
  ⟨pt_truth ha.pe he,zmO ha.sim⟩
def zdy (f : En -> Hs -> R Bool) : En -> Hs -> R Bool:=fun env h=>(f env h).bind fun b h1=>.ok (!b) h1
theorem zcp (ha : TJ ci X W a tA gA) : TJ ci X W (.UnaryOp .Not a pos) (tNot tA) (zdy gA):=
  ⟨pt_not ha.pt,fun σ H env h bs Q er hr p=>ha.sim.step er hr p fun x vx bs1 H1 h1 e1 hr1 er1 rx p1=>zaU.ok_ p1 hr1 (by rw [show vx = x from rx])⟩
def zk2 (f k : En -> Hs -> R Bool) : En -> Hs -> R Bool:=fun env h=>(f env h).bind fun b h1=>if b = true then k env h1 else .ok false h1
def zgf (f k : En -> Hs -> R Bool) : En -> Hs -> R Bool:=fun env h=>(f env h).bind fun b h1=>if b = true then .ok true h1 else k env h1
theorem ziR (ha : TJ ci X W a tA gA) : TWJ ci X W (.BoolOp .And [a] pos) tA gA:=⟨pw_and1 ha.pt,ha.sim⟩
theorem zb6 (ha : TJ ci X W a tA gA) : TWJ ci X W (.BoolOp .Or [a] pos) tA gA:=⟨pw_or1 ha.pt,ha.sim⟩
theorem zjJ (ha : TJ ci X W a tA gA) (hb : TWJ ci X W (.BoolOp .And (b :: rest) pos) tB' gB) : TWJ ci X W (.BoolOp .And (a :: b :: rest) pos) (tAnd tA tB') (zk2 gA gB):=
  ⟨pw_and ha.pt hb.pw,fun σ H env h bs Q er hr p=>ha.sim.step er hr p fun x vx bs1 H1 h1 e1 hr1 er1 rx p1=>by
    cases (show vx = x from rx)
    cases x with
    | true=>rw [if_pos rfl] at p1 ⊢; exact hb.sim _ _ _ _ _ _ er1 hr1 p1
    | false=>rw [if_neg Bool.false_ne_true] at p1 ⊢; exact zaU.ok_ p1 hr1 rfl⟩
theorem zca (ha : TJ ci X W a tA gA) (hb : TWJ ci X W (.BoolOp .Or (b :: rest) pos) tB' gB) : TWJ ci X W (.BoolOp .Or (a :: b :: rest) pos) (tOr tA tB') (zgf gA gB):=
  ⟨pw_or ha.pt hb.pw,fun σ H env h bs Q er hr p=>ha.sim.step er hr p fun x vx bs1 H1 h1 e1 hr1 er1 rx p1=>by
    cases (show vx = x from rx)
    cases x with
    | true=>rw [if_pos rfl] at p1 ⊢; exact zaU.ok_ p1 hr1 rfl
    | false=>rw [if_neg Bool.false_ne_true] at p1 ⊢; exact hb.sim _ _ _ _ _ _ er1 hr1 p1⟩
theorem zh6 (h : TWJ ci X W a tA gA) : TJ ci X W a tA gA:=⟨h.pw.pt,h.sim⟩
def zkQ (fa fb : En -> Hs -> R D) : En -> Hs -> R D:=fun env h=>(fa env h).bind fun x h1=>(zh5 x h1).bind fun b h2=>if b = true then fb env h2 else .ok x h2
def eOr (fa fb : En -> Hs -> R D) : En -> Hs -> R D:=fun env h=>(fa env h).bind fun x h1=>(zh5 x h1).bind fun b h2=>if b = true then .ok x h2 else fb env h2
def zqK (fa : En -> Hs -> R D) : En -> Hs -> R D:=fun env h=>(fa env h).bind fun x h1=>(zh5 x h1).bind fun b h2=>.ok (.bl (!b)) h2
theorem zec {op} (ha : EJ ci X W a ta fa) : EJ ci X W (.BoolOp op [a] pos) ta fa:=⟨pe_one ha.pe,ha.sim⟩
theorem zfv {γ δ : Type} {zho : List Addr -> Hp -> γ -> δ -> Prop} {g : G} {W : Value -> Option Addr -> Hp -> Prop} {bs : List Addr} {h : Hs} {H : Hp} {x : D} {k : Bool -> Hs -> R γ} {Q : δ -> Hp -> Prop} (p : zaU zho g W bs H ((zh5 x h).bind k) Q) : ∃ b,zqW x h = some b /\ zaU zho g W bs H (k b h) Q:=by
  unfold zh5 at p
  split at p
  · rename_i b hb
    exact ⟨b,hb,p⟩
  · exact p.elim
theorem zfa (ha : EJ ci X W a ta fa) (hb : EJ ci X W (.BoolOp .And (b :: rest) pos) tb fb) : EJ ci X W (.BoolOp .And (a :: b :: rest) pos) (tAndT X.K ta tb) (zkQ fa fb):=
  ⟨pe_andT ha.pe hb.pe,fun σ H env h bs Q er hr p=>ha.sim.step er hr p fun x vx bs1 H1 h1 e1 hr1 er1 rx p1=>by
    obtain ⟨b,hb1,p2⟩:=zfv p1
    refine ⟨b,zg9 hr1 rx hb1,?_⟩
    cases b with
    | true=>rw [if_pos rfl] at p2 ⊢; exact hb.sim _ _ _ _ _ _ er1 hr1 p2
    | false=>rw [if_neg Bool.false_ne_true] at p2 ⊢; exact zaU.ok_ p2 hr1 rx⟩
theorem zmN (ha : EJ ci X W a ta fa) (hb : EJ ci X W (.BoolOp .Or (b :: rest) pos) tb fb) : EJ ci X W (.BoolOp .Or (a :: b :: rest) pos) (tOrT X.K ta tb) (eOr fa fb):=
  ⟨pe_orT ha.pe hb.pe,fun σ H env h bs Q er hr p=>ha.sim.step er hr p fun x vx bs1 H1 h1 e1 hr1 er1 rx p1=>by
    obtain ⟨b,hb1,p2⟩:=zfv p1
    refine ⟨b,zg9 hr1 rx hb1,?_⟩
    cases b with
    | true=>rw [if_pos rfl] at p2 ⊢; exact zaU.ok_ p2 hr1 rx
    | false=>rw [if_neg Bool.false_ne_true] at p2 ⊢; exact hb.sim _ _ _ _ _ _ er1 hr1 p2⟩
theorem zn6 (ha : EJ ci X W a ta fa) : EJ ci X W (.UnaryOp .Not a pos) (tNotT X.K ta) (zqK fa):=
  ⟨pe_notT ha.pe,fun σ H env h bs Q er hr p=>ha.sim.step er hr p fun x vx bs1 H1 h1 e1 hr1 er1 rx p1=>by
    obtain ⟨b,hb1,p2⟩:=zfv p1
    exact ⟨b,zg9 hr1 rx hb1,zaU.ok_ p2 hr1 (.bl _)⟩⟩
def eIf (c : En -> Hs -> R Bool) (fa fb : En -> Hs -> R D) : En -> Hs -> R D:=fun env h=>(c env h).bind fun b h1=>if b = true then fa env h1 else fb env h1
theorem zkW (hc : TJ ci X W c tA gA) (ha : EJ ci X W a ta fa) (hb : EJ ci X W b tb fb) : EJ ci X W (.IfExp c a b pos) (tIf tA ta tb) (eIf gA fa fb):=
  ⟨pe_ifExp hc.pt ha.pe hb.pe,fun σ H env h bs Q er hr p=>hc.sim.step er hr p fun x vx bs1 H1 h1 e1 hr1 er1 rx p1=>by
    cases (show vx = x from rx)
    cases x with
    | true=>rw [if_pos rfl] at p1 ⊢; exact ha.sim _ _ _ _ _ _ er1 hr1 p1
    | false=>rw [if_neg Bool.false_ne_true] at p1 ⊢; exact hb.sim _ _ _ _ _ _ er1 hr1 p1⟩
def zaw : En -> Hs -> R (List D):=fun _ h=>.ok [] h
def zac (f : En -> Hs -> R D) (fr : En -> Hs -> R (List D)) : En -> Hs -> R (List D):=fun env h=>(f env h).bind fun x h1=>(fr env h1).bind fun xs h2=>.ok (x :: xs) h2
variable {e : Expr} {es : List Expr} {te : TE} {t : TA} {fe : En -> Hs -> R D} {fr : En -> Hs -> R (List D)}
theorem zad : AJ ci X W [] tNil zaw:=⟨pa_nil,fun σ H env h bs Q er hr p=>zaU.ok_ p hr .nil⟩
theorem zaa (ha : EJ ci X W e te fe) (hr : AJ ci X W es t fr) (hs : starEach (e :: es) X.env = (false,eval e X.env) :: starEach es X.env:=by rfl) : AJ ci X W (e :: es) (tCons te t) (zac fe fr):=
  ⟨pa_cons ha.pe hr.pa hs,fun σ H env h bs Q er hr' p=>ha.sim.step er hr' p fun x vx bs1 H1 h1 e1 hr1 er1 rx p1=>hr.sim.step er1 hr1 p1 fun xs vs bs2 H2 h2 e2 hr2 er2 rs p2=>zaU.ok_ p2 hr2 (.cons (rx.mono e2) rs)⟩
def zj5 (f : En -> Hs -> R (List D)) : En -> Hs -> R D:=fun env h=>(f env h).bind fun xs h1=>if xs.length <= big then .ok (.tup xs) h1 else .bad
def zgu (f : En -> Hs -> R (List D)) : En -> Hs -> R D:=fun env h=>(f env h).bind fun xs h1=>if xs.length <= big then .ok (.lst xs) h1 else .bad
def zh8 (f : En -> Hs -> R (List D)) : En -> Hs -> R D:=fun env h=>(f env h).bind fun xs h1=>if xs.length <= big then .ok (.ref h1.length) (h1 ++ [.lst xs]) else .bad
theorem ze8 {x1} (ha : AJ ci X W es t fr) : EJ ci X W (.Tuple es x1 pos) (tTup t) (zj5 fr):=
  ⟨pe_tup ha.pa,fun σ H env h bs Q er hr p=>ha.sim.step er hr p fun xs vs bs1 H1 h1 e1 hr1 er1 rs p1=>by
    split at p1
    · rename_i hl
      exact ⟨by rw [<- rs.length,zcw]; exact hl,zgN hr1 rs p1⟩
    · exact p1.elim⟩
theorem zcM (ha : AJ ci X W es t fr) : EJ ci X W (.List es pos) (tLst t) (zgu fr):=
  ⟨pe_lst ha.pa,fun σ H env h bs Q er hr p=>ha.sim.step er hr p fun xs vs bs1 H1 h1 e1 hr1 er1 rs p1=>by
    split at p1
    · rename_i hl
      exact ⟨by rw [<- rs.length,zcw]; exact hl,zey hr1 rs p1⟩
    · exact p1.elim⟩
theorem zg4 (ha : AJ ci X W es t fr) : EJ ci X W (.List es pos) (tLst t) (zh8 fr):=
  ⟨pe_lst ha.pa,fun σ H env h bs Q er hr p=>ha.sim.step er hr p fun xs vs bs1 H1 h1 e1 hr1 er1 rs p1=>by
    split at p1
    · rename_i hl
      exact ⟨by rw [<- rs.length,zcw]; exact hl,zh0 hr1 rs p1⟩
    · exact p1.elim⟩
def ixD (x y : D) (h : Hs) : R D:=match y with
  | .int i=>match x with
    | .tup xs=>match atI xs i with
      | some d=>.ok d h
      | none=>.bad
    | .str s=>if s.length <= big then match atI s.cps.toList i with
      | some c=>.ok (.str ⟨#[c]⟩) h
      | none=>.bad
      else .bad
    | x=>match rdL h x with
      | some xs=>match atI xs i with
        | some d=>.ok d h
        | none=>.bad
      | none=>.bad
  | _=>.bad
theorem zjD {g : G} {bs : List Addr} {H : Hp} {ds : List D} {vs : List V} {i : Int} {d : D} (r : Reps g bs H ds vs) (h : atI ds i = some d) : ∃ v,atI vs i = some v /\ Rep g bs H d v:=by
  unfold atI at h ⊢
  rw [<- r.length]
  cases e : ixN ds.length i with
  | none=>rw [e] at h; cases h
  | some j =>
    rw [e] at h
    exact r.get h
theorem zlo {s : Str} {i : Int} {c : Nat} (hs : PyData.strOk s = true) (h : atI s.cps.toList i = some c) : PyData.strOk (⟨#[c]⟩ : Str) = true:=by
  obtain ⟨j,_,h1,_⟩:=atI_get h
  unfold PyData.strOk at hs ⊢
  have hm : c ∈ s.cps:=by
    have:=List.mem_of_getElem? h1
    simpa using this
  have:=Array.all_eq_true'.mp hs c hm
  simpa using this
theorem zoq {g : G} : OpJ g (rIx g.K) ixD:=by
  refine ⟨fun W bs h H x y vx vy Q hr rx ry p=>?_⟩
  unfold ixD at p
  split at p
  · cases ry
    split at p
    · split at p
      · rename_i hd
        cases rx with
        | @tup a vs ds t rs =>
          obtain ⟨v,h1,h2⟩:=zjD rs hd
          exact .inr (.inl ⟨a,vs,_,v,rfl,rfl,t.sq,h1,zaU.ok_ p hr h2⟩)
      · exact p.elim
    · split at p
      · rename_i hl
        split at p
        · rename_i c hc
          cases rx with
          | str hs=>exact .inr (.inr ⟨_,_,c,rfl,rfl,by rw [zcw]; exact hl,hc,zaU.ok_ p hr (.str (zlo hs hc))⟩)
        · exact p.elim
      · exact p.elim
    · split at p
      · rename_i xs hx
        split at p
        · rename_i d hd
          obtain ⟨a,vs,rfl,hs,rs⟩:=zfb hr rx hx
          obtain ⟨v,h1,h2⟩:=zjD rs hd
          exact .inl ⟨a,vs,_,v,rfl,rfl,hs,h1,zaU.ok_ p hr h2⟩
        · exact p.elim
      · exact p.elim
  · exact p.elim
theorem zbC (ha : EJ ci X W a ta fa) (hb : EJ ci X W b tb fb) (hs : PlainIx b:=by exact fun _ _=>rfl) : EJ ci X W (.Subscript a b pos) (tOp (rIx X.K) ta tb) (zas ixD fa fb):=
  ⟨pe_ix ix_seq ha.pe hb.pe hs,zgL zoq ha.sim hb.sim⟩
end
abbrev zta : List Addr -> Hp -> Option Int -> Option Int -> Prop:=fun _ _ a b=>b = a
structure OJ (ci : Nat -> String × List String) (X : Cx) (W : WX) (o : Option Expr) (t : TO) (f : En -> Hs -> R (Option Int)) : Prop where
  po : PO X o t
  sim : Sim zta (X.g ci) W t f
def oNo : En -> Hs -> R (Option Int):=fun _ h=>.ok none h
def zeK (f : En -> Hs -> R D) : En -> Hs -> R (Option Int):=fun env h=>(f env h).bind fun x h1=>match x with
  | .int i=>.ok (some i) h1
  | _=>.bad
def cutD (xs : List D) (lo hi : Option Int) : List D:=(xs.drop (HT.sIx xs.length 0 lo)).take (HT.sIx xs.length xs.length hi - HT.sIx xs.length 0 lo)
theorem Reps.cut {g : G} {bs : List Addr} {H : Hp} {ds : List D} {vs : List V} (r : Reps g bs H ds vs) (lo hi : Option Int) : Reps g bs H (cutD ds lo hi) (cutV vs lo hi):=by
  unfold cutD cutV
  rw [<- r.length]
  exact (r.drop _).take _
def slD (x : D) (lo hi : Option Int) (h : Hs) : R D:=match x with
  | .tup xs=>.ok (.tup (cutD xs lo hi)) h
  | x=>match rdL h x with
    | some xs=>.ok (.lst (cutD xs lo hi)) h
    | none=>.bad
def zpf (K : PySem.W.Frag) : V -> Option Int -> Option Int -> Hp -> VK -> Prop:=fun x lo hi H Q=>rSlL K x lo hi H Q \/ rSlA K x lo hi H Q
theorem zrf {X : Cx} : SlR X (zpf X.K):=sl_list.or sl_tupA
def eSl (op : D -> Option Int -> Option Int -> Hs -> R D) (fa : En -> Hs -> R D) (fl fh : En -> Hs -> R (Option Int)) : En -> Hs -> R D:=fun env h=>(fa env h).bind fun x h1=>(fl env h1).bind fun lo h2=>(fh env h2).bind fun hi h3=>op x lo hi h3
theorem znn {ds : List D} {lo hi : Option Int} (h : HT.sIx ds.length 0 lo = 0 /\ HT.sIx ds.length ds.length hi = ds.length) : cutD ds lo hi = ds:=by
  unfold cutD
  rw [h.1,h.2]
  simp
section
variable {ci : Nat -> String × List String} {X : Cx} {W : WX} {pos p2 : Pos} {a e : Expr} {lo hi : Option Expr} {ta te : TE} {fa fe : En -> Hs -> R D} {tl th : TO} {fl fh : En -> Hs -> R (Option Int)}
theorem zgb : OJ ci X W none tNoPart oNo:=⟨po_none,fun σ H env h bs Q er hr p=>zaU.ok_ p hr rfl⟩
theorem zcW (he : EJ ci X W e te fe) : OJ ci X W (some e) (tPart te) (zeK fe):=
  ⟨po_some he.pe,fun σ H env h bs Q er hr p=>he.sim.step er hr p fun x vx bs1 H1 h1 e1 hr1 er1 rx p1=>by
    split at p1
    · cases rx; exact ⟨_,rfl,zaU.ok_ p1 hr1 rfl⟩
    · exact p1.elim⟩
theorem zm7 (ha : EJ ci X W a ta fa) (hl : OJ ci X W lo tl fl) (hh : OJ ci X W hi th fh) : EJ ci X W (.Subscript a (.Slice lo hi none p2) pos) (tSl (zpf X.K) ta tl th) (eSl slD fa fl fh):=
  ⟨pe_slice zrf ha.pe hl.po hh.po,fun σ H env h bs Q er hr p=>ha.sim.step er hr p fun x vx bs1 H1 h1 e1 hr1 er1 rx p1=>hl.sim.step er1 hr1 p1 fun l l' bs2 H2 h2 e2 hr2 er2 rl p2=>hh.sim.step er2 hr2 p2 fun u u' bs3 H3 h3 e3 hr3 er3 ru p3=>by
    obtain rfl : l' = l:=rl
    obtain rfl : u' = u:=ru
    have rx3:=(rx.mono e2).mono e3
    unfold slD at p3
    split at p3
    · cases rx3 with
      | @tup a vs ds t rs =>
        refine .inr ⟨a,vs,rfl,t.sq,fun hw=>?_,fun _=>zgN hr3 (rs.cut _ _) p3⟩
        rw [<- rs.length] at hw
        rw [znn hw] at p3
        exact zaU.ok_ p3 hr3 (.tup t rs)
    · split at p3
      · rename_i xs hx
        obtain ⟨a,vs,rfl,hs,rs⟩:=zfb hr3 rx3 hx
        exact .inl ⟨a,vs,rfl,hs,zey hr3 (rs.cut _ _) p3⟩
      · exact p3.elim⟩
end
structure CaJ (g : G) (r : List V -> Hp -> VK -> Prop) (f : List D -> Hs -> R D) : Prop where
  run : ∀ (W : Value -> Option Addr -> Hp -> Prop) (bs : List Addr) (h : Hs) (H : Hp) (xs : List D) (vs : List V) (Q : VK),HRel g bs h H -> Reps g bs H xs vs -> zaU (zc5 g) g W bs H (f xs h) Q -> r vs H Q
def za7 (f : List D -> Hs -> R D) (fa : En -> Hs -> R (List D)) : En -> Hs -> R D:=fun env h=>(fa env h).bind f
section
variable {ci : Nat -> String × List String} {X : Cx} {W : WX} {x : Str} {p pos : Pos} {e : Expr} {es : List Expr} {t : TA} {id T : String} {r : List V -> Hp -> VK -> Prop} {f : List D -> Hs -> R D} {fa : En -> Hs -> R (List D)}
theorem zl6 {g : G} (hj : CaJ g r f) (ha : Sim (zk6 g) g W t fa) : Sim (zc5 g) g W (tCB r t) (za7 f fa):=
  fun σ H env h bs Q er hr p=>ha.step er hr p fun xs vs bs1 H1 h1 e1 hr1 er1 rs p1=>hj.run _ bs1 h1 H1 xs vs Q hr1 rs p1
theorem zaF (hc : CallR X (.builtin id) r) (hj : CaJ (X.g ci) r f) (hg : Gl X x) (hm : X.mg x = none) (hv : bootBuiltins x = some (.builtin id)) (ha : AJ ci X W (e :: es) t fa) (hn : x ≠ "__name__" := by decide) (hdb : (x == ("__debug__" : Str)) = false := by decide)
    (he : starEach (e :: es) X.env = (false, eval e X.env) :: starEach es X.env := by rfl) (hpl : (backTo pos (starEach es X.env)).any (·.1) = false := by rfl) : EJ ci X W (.Call (.Name x p) (e :: es) [] pos) (tCB r t) (za7 f fa) :=
  ⟨pe_callB hc hg hm hv ha.pa hn hdb he hpl, zl6 hj ha.sim⟩
theorem zbt (hc : CallR X (.type T) r) (hj : CaJ (X.g ci) r f) (hg : Gl X x) (hm : X.mg x = none) (hv : bootBuiltins x = some (.type T)) (ha : AJ ci X W (e :: es) t fa) (hn : x ≠ "__name__" := by decide) (hdb : (x == ("__debug__" : Str)) = false := by decide)
    (he : starEach (e :: es) X.env = (false, eval e X.env) :: starEach es X.env := by rfl) (hpl : (backTo pos (starEach es X.env)).any (·.1) = false := by rfl) : EJ ci X W (.Call (.Name x p) (e :: es) [] pos) (tCB r t) (za7 f fa) :=
  ⟨pe_callTy hc hg hm hv ha.pa hn hdb he hpl, zl6 hj ha.sim⟩
end
def zd5 (xs : List D) (h : Hs) : R D:=match xs with
  | [.str s]=>if s.length <= big then .ok (.int s.length) h else .bad
  | [.tup ys]=>.ok (.int ys.length) h
  | [x]=>match rdL h x with
    | some ys=>.ok (.int ys.length) h
    | none=>.bad
  | _=>.bad
abbrev zqt (K : PySem.W.Frag) : List V -> Hp -> VK -> Prop:=fun xs H Q=>∃ x n,xs = [x] /\ LenV K x H n /\ Q (.int n) H
theorem zbu {g : G} : CaJ g (zqt g.K) zd5:=by
  refine ⟨fun W bs h H xs vs Q hr rs p=>?_⟩
  unfold zd5 at p
  split at p
  · split at p
    · rename_i hl
      cases rs with | cons r t=>cases t; cases r; exact ⟨_,_,rfl,⟨by rw [zcw]; exact hl,rfl⟩,zaU.ok_ p hr (.int _)⟩
    · exact p.elim
  · cases rs with | cons r t=>cases t; cases r with | tup t rs=>exact ⟨_,_,rfl,.inr ⟨_,t.sq,rfl⟩,by rw [<- rs.length]; exact zaU.ok_ p hr (.int _)⟩
  · split at p
    · rename_i ys hy
      cases rs with
      | cons r t =>
        cases t
        obtain ⟨a,vs,rfl,hs,rs⟩:=zfb hr r hy
        exact ⟨_,_,rfl,.inl ⟨_,hs,rfl⟩,by rw [<- rs.length]; exact zaU.ok_ p hr (.int _)⟩
    · exact p.elim
  · exact p.elim
def znZ (xs : List D) (h : Hs) : R D:=match xs with
  | [.int i]=>.ok (.int (if i < 0 then -i else i)) h
  | _=>.bad
theorem zkO {g : G} : CaJ g (fun xs H Q=>∃ i,xs = [.int i] /\ Q (.int (if i < 0 then -i else i)) H) znZ:=by
  refine ⟨fun W bs h H xs vs Q hr rs p=>?_⟩
  unfold znZ at p
  split at p
  · cases rs with | cons r t=>cases t; cases r; exact ⟨_,rfl,zaU.ok_ p hr (.int _)⟩
  · exact p.elim
def maxD (xs : List D) (h : Hs) : R D:=match xs with
  | [.int i,.int j]=>.ok (.int (if j > i then j else i)) h
  | _=>.bad
def minD (xs : List D) (h : Hs) : R D:=match xs with
  | [.int i,.int j]=>.ok (.int (if j < i then j else i)) h
  | _=>.bad
theorem zmm {g : G} : CaJ g (fun xs H Q=>∃ i j,xs = [.int i,.int j] /\ Q (.int (if j > i then j else i)) H) maxD:=by
  refine ⟨fun W bs h H xs vs Q hr rs p=>?_⟩
  unfold maxD at p
  split at p
  · cases rs with | cons r t=>cases t with | cons r2 t=>cases t; cases r; cases r2; exact ⟨_,_,rfl,zaU.ok_ p hr (.int _)⟩
  · exact p.elim
theorem zmU {g : G} : CaJ g (fun xs H Q=>∃ i j,xs = [.int i,.int j] /\ Q (.int (if j < i then j else i)) H) minD:=by
  refine ⟨fun W bs h H xs vs Q hr rs p=>?_⟩
  unfold minD at p
  split at p
  · cases rs with | cons r t=>cases t with | cons r2 t=>cases t; cases r; cases r2; exact ⟨_,_,rfl,zaU.ok_ p hr (.int _)⟩
  · exact p.elim
def zeo (xs : List D) (h : Hs) : R D:=match xs with
  | [.int i]=>.ok (.int i) h
  | [.bl b]=>.ok (.int (if b = true then 1 else 0)) h
  | _=>.bad
theorem zel {g : G} : CaJ g (fun xs H Q=>(∃ i,xs = [.int i] /\ Q (.int i) H) \/ ∃ k,xs = [.bl k] /\ Q (.int (if k then 1 else 0)) H) zeo:=by
  refine ⟨fun W bs h H xs vs Q hr rs p=>?_⟩
  unfold zeo at p
  split at p
  · cases rs with | cons r t=>cases t; cases r; exact .inl ⟨_,rfl,zaU.ok_ p hr (.int _)⟩
  · cases rs with | cons r t=>cases t; cases r; exact .inr ⟨_,rfl,zaU.ok_ p hr (.int _)⟩
  · exact p.elim
def zl3 (xs : List D) (h : Hs) : R D:=match xs with
  | [.int i]=>.ok (.bl (i != 0)) h
  | [.bl b]=>.ok (.bl b) h
  | _=>.bad
def zhj (h : Hs) : D -> Option (List D)
  | .tup xs=>some xs
  | x=>rdL h x
theorem zk4 {g : G} {bs : List Addr} {h : Hs} {H : Hp} {d : D} {v : V} {xs : List D} (hr : HRel g bs h H) (r : Rep g bs H d v) (e : zhj h d = some xs) : ∃ a vs,v = .ref a /\ (SqL g.K H a vs \/ SqT g.K H a vs) /\ Reps g bs H xs vs:=by
  have lists : rdL h d = some xs -> ∃ a vs,v = .ref a /\ (SqL g.K H a vs \/ SqT g.K H a vs) /\ Reps g bs H xs vs:=fun e=>by
    obtain ⟨a,vs,h1,h2,h3⟩:=zfb hr r e
    exact ⟨a,vs,h1,.inl h2,h3⟩
  cases r with
  | tup t rs=>cases e; exact ⟨_,_,rfl,.inr t.sq,rs⟩
  | _=>exact lists e
end Ev
namespace Ev
open PySem L2
inductive S where
  | nx (env : En) (h : Hs) | ret (d : D) (h : Hs) | brk (env : En) (h : Hs) | ct (env : En) (h : Hs) | err (c : Nat) (fs : List D) (env : En) (h : Hs) | bad
def R.toS {α : Type} (r : R α) (env : En) (k : α -> Hs -> S) : S:=match r with
  | .ok a h=>k a h
  | .err c fs h=>.err c fs env h
  | .bad=>.bad
@[simp] theorem R.toS_ok {α : Type} (a : α) (h : Hs) (env : En) (k : α -> Hs -> S) : (R.ok a h).toS env k = k a h:=rfl
@[simp] theorem R.toS_err {α : Type} (c : Nat) (fs : List D) (h : Hs) (env : En) (k : α -> Hs -> S) : (R.err c fs h : R α).toS env k = .err c fs env h:=rfl
@[simp] theorem R.toS_bad {α : Type} (env : En) (k : α -> Hs -> S) : (R.bad : R α).toS env k = .bad:=rfl
def zcA (g : G) (W : WX) (bs : List Addr) (H : Hp) (r : S) (E : Ends) : Prop:=match r with
  | .nx env h=>∀ bs' H' σ',Ext bs H bs' H' -> HRel g bs' h H' -> ERel g bs' H' env σ' -> E.nx σ' H'
  | .ret d h=>∀ bs' H' v,Ext bs H bs' H' -> HRel g bs' h H' -> Rep g bs' H' d v -> E.rt v H'
  | .brk env h=>∀ bs' H' σ',Ext bs H bs' H' -> HRel g bs' h H' -> ERel g bs' H' env σ' -> E.bk σ' H'
  | .ct env h=>∀ bs' H' σ',Ext bs H bs' H' -> HRel g bs' h H' -> ERel g bs' H' env σ' -> E.ct σ' H'
  | .err c fs env h=>∀ C dd bs' H' σ',Ext bs H bs' H' -> HRel g bs' h H' -> ERel g bs' H' env σ' -> zhb g bs' H' c fs C dd -> W C dd σ' H'
  | .bad=>False
theorem zcA.mono {g : G} {W : WX} {bs bs1 : List Addr} {H H1 : Hp} {r : S} {E : Ends} (e : Ext bs H bs1 H1) (h : zcA g W bs H r E) : zcA g W bs1 H1 r E:=by
  cases r with
  | nx env h'=>exact fun bs' H' σ' x y z=>h bs' H' σ' (e.trans x) y z
  | ret d h'=>exact fun bs' H' σ' x y z=>h bs' H' σ' (e.trans x) y z
  | brk env h'=>exact fun bs' H' σ' x y z=>h bs' H' σ' (e.trans x) y z
  | ct env h'=>exact fun bs' H' σ' x y z=>h bs' H' σ' (e.trans x) y z
  | err c fs env h'=>exact fun C dd bs' H' σ' x y z=>h C dd bs' H' σ' (e.trans x) y z
  | bad=>exact h
def zjr (g : G) (W : WX) (t : TS) (f : En -> Hs -> S) : Prop:=
  ∀ (σ : St) (H : Hp) (env : En) (h : Hs) (bs : List Addr) (E : Ends),ERel g bs H env σ -> HRel g bs h H -> zcA g W bs H (f env h) E -> t E σ H
structure SJ (ci : Nat -> String × List String) (X : Cx) (W : WX) (st : Stmt) (t : TS) (f : En -> Hs -> S) : Prop where
  ps : PS X st t
  sim : zjr (X.g ci) W t f
structure SsJ (ci : Nat -> String × List String) (X : Cx) (W : WX) (st : List Stmt) (t : TS) (f : En -> Hs -> S) : Prop where
  pss : PSs X st t
  sim : zjr (X.g ci) W t f
theorem Sim.stepS {α β : Type} {rel : List Addr -> Hp -> α -> β -> Prop} {g : G} {W : WX} {t : St -> Hp -> (β -> Hp -> Prop) -> Prop} {f : En -> Hs -> R α} {σ : St} {H : Hp} {env : En} {h : Hs} {bs : List Addr} {k : α -> Hs -> S} {E : Ends} {Q' : β -> Hp -> Prop}
    (ht : Sim rel g W t f) (er : ERel g bs H env σ) (hr : HRel g bs h H) (p : zcA g W bs H ((f env h).toS env k) E)
    (hk : ∀ a b bs1 H1 h1, Ext bs H bs1 H1 -> HRel g bs1 h1 H1 -> ERel g bs1 H1 env σ -> rel bs1 H1 a b -> zcA g W bs1 H1 (k a h1) E -> Q' b H1) : t σ H Q' := by
  refine ht σ H env h bs Q' er hr ?_
  cases hf : f env h with
  | bad => rw [hf] at p; exact p
  | err c fs h' => rw [hf] at p; exact fun C dd bs' H' e r z => p C dd bs' H' σ e r (er.mono e) z
  | ok a h1 => rw [hf] at p; exact fun bs1 H1 b e hr1 ra => hk a b bs1 H1 h1 e hr1 (er.mono e) ra (zcA.mono e p)
def zd2 : En -> Hs -> S:=fun env h=>.nx env h
def S.seq (r : S) (k : En -> Hs -> S) : S:=match r with
  | .nx env h=>k env h
  | r=>r
@[simp] theorem S.seq_nx (env : En) (h : Hs) (k : En -> Hs -> S) : (S.nx env h).seq k = k env h:=rfl
@[simp] theorem S.seq_ret (d : D) (h : Hs) (k : En -> Hs -> S) : (S.ret d h).seq k = .ret d h:=rfl
@[simp] theorem S.seq_brk (env : En) (h : Hs) (k : En -> Hs -> S) : (S.brk env h).seq k = .brk env h:=rfl
@[simp] theorem S.seq_ct (env : En) (h : Hs) (k : En -> Hs -> S) : (S.ct env h).seq k = .ct env h:=rfl
@[simp] theorem S.seq_err (c : Nat) (fs : List D) (env : En) (h : Hs) (k : En -> Hs -> S) : (S.err c fs env h).seq k = .err c fs env h:=rfl
@[simp] theorem S.seq_bad (k : En -> Hs -> S) : S.bad.seq k = .bad:=rfl
def zat (f k : En -> Hs -> S) : En -> Hs -> S:=fun env h=>(f env h).seq k
section
variable {ci : Nat -> String × List String} {X : Cx} {W : WX} {pos : Pos} {st : Stmt} {rest sa sb : List Stmt} {t u : TS} {f k : En -> Hs -> S} {e c : Expr} {te : TE} {fe : En -> Hs -> R D} {tc : TT} {fc : En -> Hs -> R Bool}
theorem zaM : SsJ ci X W [] tNext zd2:=⟨pss_nil,fun σ H env h bs E er hr p=>p bs H σ .refl hr er⟩
theorem zmI {g : G} (hf : zjr g W t f) (hk : zjr g W u k) : zjr g W (tSeq t u) (zat f k):=by
  intro σ H env h bs E er hr p
  refine hf σ H env h bs _ er hr ?_
  have p' : zcA g W bs H ((f env h).seq k) E:=p
  cases hfe : f env h with
  | nx env1 h1 =>
    rw [hfe] at p'
    exact fun bs' H' σ' e hr1 er1=>hk σ' H' env1 h1 bs' E er1 hr1 (zcA.mono e p')
  | ret d h1=>rw [hfe] at p'; exact p'
  | brk env1 h1=>rw [hfe] at p'; exact p'
  | ct env1 h1=>rw [hfe] at p'; exact p'
  | err c fs env1 h1=>rw [hfe] at p'; exact p'
  | bad=>rw [hfe] at p'; exact p'
theorem zaf (h1 : SJ ci X W st t f) (h2 : SsJ ci X W rest u k) : SsJ ci X W (st :: rest) (tSeq t u) (zat f k):=⟨pss_cons h1.ps h2.pss,zmI h1.sim h2.sim⟩
theorem zah (h1 : SJ ci X W st t f) : SsJ ci X W [st] t f:=⟨pss_one h1.ps,h1.sim⟩
def zsu : En -> Hs -> S:=fun env h=>.brk env h
def sCt : En -> Hs -> S:=fun env h=>.ct env h
def zh2 (f : En -> Hs -> R D) : En -> Hs -> S:=fun env h=>(f env h).toS env fun _ h1=>.nx env h1
theorem zeX (he : EJ ci X W e te fe) (hs : swapsWith e none pos.line X.env = pure false:=by rfl) : SJ ci X W (.Expr e pos) (tDrop te) (zh2 fe):=
  ⟨ps_expr he.pe hs,fun σ H env h bs E er hr p=>he.sim.stepS er hr p fun a b bs1 H1 h1 e1 hr1 er1 ra p1=>p1 bs1 H1 σ .refl hr1 er1⟩
def zc0 (f : En -> Hs -> R D) : En -> Hs -> S:=fun env h=>(f env h).toS env fun d h1=>.ret d h1
theorem zaT (he : EJ ci X W e te fe) : SJ ci X W (.Return (some e) pos) (tRet te) (zc0 fe):=
  ⟨ps_ret he.pe,fun σ H env h bs E er hr p=>he.sim.stepS er hr p fun a b bs1 H1 h1 e1 hr1 er1 ra p1=>p1 bs1 H1 b .refl hr1 ra⟩
def zqe : En -> Hs -> S:=fun _ h=>.ret .non h
def sIf (c : En -> Hs -> R Bool) (f k : En -> Hs -> S) : En -> Hs -> S:=fun env h=>(c env h).toS env fun b h1=>if b = true then f env h1 else k env h1
theorem zbL (hc : TJ ci X W c tc fc) (ha : SsJ ci X W sa t f) (hb : SsJ ci X W sb u k) : SJ ci X W (.If c sa sb pos) (tIfS tc t u) (sIf fc f k):=
  ⟨ps_if hc.pt ha.pss hb.pss,fun σ H env h bs E er hr p=>hc.sim.stepS er hr p fun x vx bs1 H1 h1 e1 hr1 er1 rx p1=>by
    cases (show vx = x from rx)
    cases x with
    | true=>rw [if_pos rfl] at p1 ⊢; exact ha.sim _ _ _ _ _ _ er1 hr1 p1
    | false=>rw [if_neg Bool.false_ne_true] at p1 ⊢; exact hb.sim _ _ _ _ _ _ er1 hr1 p1⟩
end
def zl8 (g : G) (t : TG) (f : D -> En -> Option En) (js : List Nat) : Prop:=
  ∀ (v : V) (d : D) (σ : St) (H : Hp) (env env' : En) (h : Hs) (bs : List Addr) (Q : St -> Hp -> Prop),Rep g bs H d v -> ERel g bs H env σ -> HRel g bs h H -> f d env = some env' ->
    (∀ σ',ERel g bs H env' σ' -> (∀ vs,(∀ j ∈ js,j ∈ vs) -> wipe σ' vs = wipe σ vs) -> Q σ' H) -> t v σ H Q
def zqj (g : G) (t : TGs) (f : List D -> En -> Option En) (js : List Nat) : Prop:=
  ∀ (vs : List V) (ds : List D) (σ : St) (H : Hp) (env env' : En) (h : Hs) (bs : List Addr) (Q : St -> Hp -> Prop),Reps g bs H ds vs -> ERel g bs H env σ -> HRel g bs h H -> f ds env = some env' ->
    (∀ σ',ERel g bs H env' σ' -> (∀ vs,(∀ j ∈ js,j ∈ vs) -> wipe σ' vs = wipe σ vs) -> Q σ' H) -> t vs σ H Q
structure GJ (ci : Nat -> String × List String) (X : Cx) (e : Expr) (t : TG) (f : D -> En -> Option En) (js : List Nat) : Prop where
  pg : PG X e t
  sim : zl8 (X.g ci) t f js
structure GsJ (ci : Nat -> String × List String) (X : Cx) (es : List Expr) (t : TGs) (f : List D -> En -> Option En) (js : List Nat) : Prop where
  pgs : PGs X es t
  sim : zqj (X.g ci) t f js
def zaB (i : Nat) : D -> En -> Option En:=fun d env=>some (env.set i (some d))
def zkc : List D -> En -> Option En:=fun ds env=>match ds with
  | []=>some env
  | _=>none
def zeL (f : D -> En -> Option En) (k : List D -> En -> Option En) : List D -> En -> Option En:=fun ds env=>match ds with
  | d :: ds=>match f d env with
    | some env1=>k ds env1
    | none=>none
  | []=>none
def zo9 (n : Nat) (k : List D -> En -> Option En) : D -> En -> Option En:=fun d env=>match d with
  | .tup ds=>if ds.length = n then k ds env else none
  | _=>none
theorem ERel.set {g : G} {bs : List Addr} {H : Hp} {env : En} {σ : St} {d : D} {v : V} (er : ERel g bs H env σ) (r : Rep g bs H d v) (i : Nat) : ERel g bs H (env.set i (some d)) (σ.set i (some v)):=by
  refine ⟨by rw [List.length_set,List.length_set]; exact er.len,fun j d' e=>?_⟩
  by_cases hj : i = j
  · subst hj
    by_cases hi : i < env.length
    · rw [List.getElem?_set_self hi] at e
      cases e
      exact ⟨v,by rw [List.getElem?_set_self (by rw [<- er.len]; exact hi)],r⟩
    · rw [List.getElem?_eq_none (by rw [List.length_set]; omega)] at e; cases e
  · rw [List.getElem?_set_ne hj] at e ⊢
    exact er.at_ j d' e
theorem zft {σ : St} {i : Nat} {v : Option V} : ∀ {vs : List Nat}, i ∈ vs -> wipe (σ.set i v) vs = wipe σ vs
  | w :: vs, h => by
    unfold wipe
    by_cases hi : i ∈ vs
    · rw [zft hi]
    · have e : i = w := by
        rcases List.mem_cons.mp h with z | z
        · exact z
        · exact absurd z hi
      subst e
      have key : ∀ (us : List Nat), i ∉ us -> wipe (σ.set i v) us = (wipe σ us).set i v := by
        intro us
        induction us with
        | nil => intro _; rfl
        | cons u us ih =>
          intro hu
          have h1 : i ≠ u := fun z => hu (by rw [z]; exact List.mem_cons_self)
          unfold wipe
          rw [ih (fun z => hu (List.mem_cons_of_mem _ z)), List.set_comm _ _ h1]
      rw [key vs hi, List.set_set]
section
variable {ci : Nat -> String × List String} {X : Cx} {W : WX} {pos : Pos}
theorem zbk (i : Nat) {x : Str} (hN : X.N.Nodup) (hi : X.N[i]? = some x:=by rfl) (hx : Loc X.env.scope x:=by first | exact Or.inl rfl | exact Or.inr rfl) (hf : X.fn x = true \/ X.env.scope.names.lookup x = some .local:=by first | exact .inl rfl | exact .inr rfl | assumption) : GJ ci X (.Name x pos) (gName i) (zaB i) [i]:=
  ⟨pg_name hN hi hx hf,fun v d σ H env env' h bs Q r er hr e k=>by
    cases e
    exact k _ (er.set r i) fun vs hv=>zft (hv i (by simp))⟩
theorem ziz : GsJ ci X [] gNil zkc []:=
  ⟨pgs_nil,fun vs ds σ H env env' h bs Q r er hr e k=>by
    cases r with
    | nil=>cases e; exact ⟨rfl,k _ er fun _ _=>rfl⟩
    | cons=>cases e⟩
theorem zdZ {e : Expr} {es : List Expr} {t : TG} {u : TGs} {f : D -> En -> Option En} {k : List D -> En -> Option En} {js ks : List Nat} (h1 : GJ ci X e t f js) (h2 : GsJ ci X es u k ks)
    (hs : (assignEach (e :: es) X.env).map (·.2) = assign e X.env :: (assignEach es X.env).map (·.2) := by rfl) : GsJ ci X (e :: es) (gCons t u) (zeL f k) (js ++ ks) :=
  ⟨pgs_cons h1.pg h2.pgs hs, fun vs ds σ H env env' h bs Q r er hr e kk => by
    cases r with
    | nil => cases e
    | cons r1 r2 =>
      unfold zeL at e
      dsimp only at e
      split at e
      · rename_i env1 he1
        refine ⟨_, _, rfl, h1.sim _ _ σ H env env1 h bs _ r1 er hr he1 fun σ1 er1 hw1 => ?_⟩
        exact h2.sim _ _ σ1 H env1 env' h bs _ r2 er1 hr e fun σ2 er2 hw2 => kk σ2 er2 fun vs hv => (hw2 vs fun j hj => hv j (List.mem_append_right _ hj)).trans (hw1 vs fun j hj => hv j (List.mem_append_left _ hj))
      · cases e⟩
theorem zma {es : List Expr} {k : Nat} {t : TGs} {n : Nat} {f : List D -> En -> Option En} {js : List Nat} (hc : X.calm = true) (h : GsJ ci X es t f js)
    (hn : (assignEach es X.env).length = n := by rfl) (hst : (assignEach es X.env).findIdx? (·.1) = none := by rfl) : GJ ci X (.Tuple es k pos) (gTup X.K n t) (zo9 n f) js :=
  ⟨pg_tup hc h.pgs hn hst, fun v d σ H env env' hh bs Q r er hr e kk => by
    unfold zo9 at e
    split at e
    · split at e
      · rename_i hl
        cases r with
        | @tup a vs ds t rs => exact ⟨a, vs, rfl, t.sq, by rw [<- rs.length]; exact hl, h.sim _ _ σ H env env' hh bs _ rs er hr e kk⟩
      · cases e
    · cases e⟩
def zcR (fe : En -> Hs -> R D) (k : D -> En -> Option En) : En -> Hs -> S:=fun env h=>(fe env h).toS env fun d h1=>match k d env with
  | some env1=>.nx env1 h1
  | none=>.bad
variable {e tg : Expr} {te : TE} {fe : En -> Hs -> R D} {t : TG} {k : D -> En -> Option En} {js : List Nat}
theorem zgK {g : G} (he : Sim (zc5 g) g W te fe) (hg : zl8 g t k js) : zjr g W (tAsg te t) (zcR fe k):=
  fun σ H env h bs E er hr p=>he.stepS er hr p fun a b bs1 H1 h1 e1 hr1 er1 ra p1=>by
    split at p1
    · rename_i env1 hk
      exact hg b a σ H1 env env1 h1 bs1 _ ra er1 hr1 hk fun σ' er' _=>p1 bs1 H1 σ' .refl hr1 er'
    · exact p1.elim
theorem zmc (he : EJ ci X W e te fe) (hg : GJ ci X tg t k js) (hs : swapsWithSole [tg] e pos.line X.env = pure false := by rfl) (hw : swappedStores [tg] e X.env = pure none := by rfl)
    (h1 : (assignEach [tg] X.env).map (·.2) = [assign tg X.env] := by rfl) : SJ ci X W (.Assign [tg] e pos) (tAsg te t) (zcR fe k) := ⟨ps_asg he.pe hg.pg hs hw h1, zgK he.sim hg.sim⟩
theorem zbr (i : Nat) {x : Str} {pos' : Pos} (hN : X.N.Nodup) (he : EJ ci X W e te fe) (hi : X.N[i]? = some x := by rfl) (hx : Loc X.env.scope x := by first | exact Or.inl rfl | exact Or.inr rfl) (hs : swapsWith e (some (.Name x pos')) pos.line X.env = pure false := by rfl)
    (hf : X.fn x = true \/ X.env.scope.names.lookup x = some .local := by first | exact .inl rfl | exact .inr rfl | assumption) : SJ ci X W (.Assign [.Name x pos'] e pos) (tAsg te (gName i)) (zcR fe (zaB i)) :=
  ⟨ps_set hN hi hx he.pe hs hf, zgK he.sim (zbk (X := X) (pos := pos') i hN hi hx hf).sim⟩
def zqA (i j : Nat) (fa : En -> Hs -> R (List D)) : En -> Hs -> S:=fun env h=>(fa env h).toS env fun xs h1=>match xs with
  | [x,y]=>.nx ((env.set i (some x)).set j (some y)) h1
  | _=>.bad
theorem zpi {i j : Nat} {x y : Str} {a b : Expr} {ta : TA} {fa : En -> Hs -> R (List D)} {px py pt : Pos} {kt k2 pt2} (hc : X.calm = true) (hN : X.N.Nodup) (ha : AJ ci X W [a, b] ta fa)
    (hi : X.N[i]? = some x := by rfl) (hj : X.N[j]? = some y := by rfl) (hij : i ≠ j := by decide)
    (hx : X.env.scope.names.lookup x = some .local := by rfl) (hy : X.env.scope.names.lookup y = some .local := by rfl)
    (hw : swappedStores [.Tuple [.Name x px, .Name y py] kt pt] (.Tuple [a, b] k2 pt2) X.env = pure (some [x, y]) := by rfl)
    (hs : swapsWithSole [.Tuple [.Name x px, .Name y py] kt pt] (.Tuple [a, b] k2 pt2) pos.line X.env = pure false := by rfl) :
    SJ ci X W (.Assign [.Tuple [.Name x px, .Name y py] kt pt] (.Tuple [a, b] k2 pt2) pos) (tPar i j ta) (zqA i j fa) :=
  ⟨ps_par hc hN hi hj hij hx hy ha.pa hw hs, fun σ H env h bs E er hr p => ha.sim.stepS er hr p fun xs vs bs1 H1 h1 e1 hr1 er1 rs p1 => by
    split at p1
    · cases rs with
      | cons r1 t =>
        cases t with
        | cons r2 t =>
          cases t
          exact ⟨_, _, rfl, p1 bs1 H1 _ .refl hr1 ((er1.set r1 i).set r2 j)⟩
    · exact p1.elim⟩
def zqQ (i : Nat) (op : Int -> Int -> Int) (fe : En -> Hs -> R D) : En -> Hs -> S:=fun env h=>match env[i]? with
  | some (some (.int a))=>(fe env h).toS env fun y h1=>match y with
    | .int b=>.nx (env.set i (some (.int (op a b)))) h1
    | _=>.bad
  | _=>.bad
end
theorem Ext.cell {g : G} {bs : List Addr} {h : Hs} {H : Hp} {n : Nat} {a : Addr} {o : HO} (hr : HRel g bs h H) (hb : bs[n]? = some a) : Ext bs H bs (upd H a o):=
  ⟨⟨[],by simp,fun _ z=>nomatch z⟩,fun b u hu hn=>by rw [upd_ne (fun z=>hn (by rw [z]; exact List.mem_of_getElem? hb))]; exact hu,fun b u hu=>by
    by_cases hz : b = a
    · exact ⟨o,by rw [hz,upd_same]⟩
    · exact ⟨u,by rw [upd_ne hz]; exact hu⟩⟩
theorem HRel.cell {g : G} {bs : List Addr} {h : Hs} {H : Hp} {n : Nat} {a : Addr} {ho : HO} {o : O} (hr : HRel g bs h H) (hb : bs[n]? = some a) (ro : zkG g bs (upd H a ho) a o) : HRel g bs (h.set n o) (upd H a ho):=by
  refine ⟨by rw [List.length_set]; exact hr.len,hr.nd,fun i o' hi=>?_⟩
  by_cases hj : n = i
  · subst hj
    have hl : n < h.length:=by rw [<- hr.len]; exact (List.getElem?_eq_some_iff.mp hb).1
    rw [List.getElem?_set_self hl] at hi
    cases hi
    exact ⟨a,hb,ro⟩
  · rw [List.getElem?_set_ne hj] at hi
    obtain ⟨b,h1,h2⟩:=hr.at_ i o' hi
    have hne : b ≠ a:=by
      intro z
      subst z
      obtain ⟨l1,e1⟩:=List.getElem?_eq_some_iff.mp h1
      obtain ⟨l2,e2⟩:=List.getElem?_eq_some_iff.mp hb
      exact hj ((List.getElem_inj hr.nd).mp (e2.trans e1.symm))
    exact ⟨b,h1,h2.mono (.cell hr hb) (upd_ne hne)⟩
section
variable {ci : Nat -> String × List String} {X : Cx} {W : WX} {pos : Pos} {o i v : Expr} {to ti tv : TE} {fo fi fv : En -> Hs -> R D}
def zgC (x y z : D) (h : Hs) : Option Hs:=match x,y with
  | .ref n,.int k=>match zaS h n with
    | some xs=>match ixN xs.length k with
      | some j=>some (h.set n (.lst (xs.set j z)))
      | none=>none
    | none=>none
  | _,_=>none
def zfH (fo fi fv : En -> Hs -> R D) : En -> Hs -> S:=fun env h=>(fv env h).toS env fun z h1=>(fo env h1).toS env fun x h2=>(fi env h2).toS env fun y h3=>match zgC x y z h3 with
  | some h4=>.nx env h4
  | none=>.bad
theorem zlA {g : G} {bs : List Addr} {h h4 : Hs} {H : Hp} {x y z : D} {vx vy vz : V} {Q : Hp -> Prop} (hr : HRel g bs h H) (rx : Rep g bs H x vx) (ry : Rep g bs H y vy) (rz : Rep g bs H z vz) (e : zgC x y z h = some h4)
    (k : ∀ H', Ext bs H bs H' -> HRel g bs h4 H' -> Q H') : rSetL vx vy vz H Q := by
  unfold zgC at e
  split at e
  · rename_i n i
    split at e
    · rename_i xs hx
      split at e
      · rename_i j hj
        cases e
        cases rx with
        | @ref _ a hb =>
          cases ry
          obtain ⟨vs, h1, h2⟩ := zbT hr hb hx
          refine ⟨a, vs, i, j, rfl, rfl, h1, by rw [<- h2.length]; exact hj, k _ (.cell hr hb) (hr.cell hb ⟨_, upd_same, ?_⟩)⟩
          exact (h2.set rz j).mono (.cell hr hb)
      · cases e
    · cases e
  · cases e
theorem zhe {spos : Pos} (hv : EJ ci X W v tv fv) (ho : EJ ci X W o to fo) (hi : EJ ci X W i ti fi)
    (ha : ∀ v, assign (.Subscript o i spos) X.env v = (do
      let ov <- holding [v] (eval o X.env)
      let iv <- holding [v, ov] (eval i X.env)
      standAt spos
      holding [v, ov, iv] (setItem ov iv v)
      release [v, ov, iv] []) := by intro _; rfl)
    (hs : swapsWithSole [.Subscript o i spos] v pos.line X.env = pure false := by rfl) (hw : swappedStores [.Subscript o i spos] v X.env = pure none := by rfl)
    (h1 : (assignEach [.Subscript o i spos] X.env).map (·.2) = [assign (.Subscript o i spos) X.env] := by rfl) :
    SJ ci X W (.Assign [.Subscript o i spos] v pos) (tAsg tv (gSub to ti rSetL)) (zfH fo fi fv) :=
  ⟨ps_asg hv.pe (pg_sub ho.pe hi.pe set_list ha) hs hw h1, fun σ H env h bs E er hr p => hv.sim.stepS er hr p fun z vz bs1 H1 h1 e1 hr1 er1 rz p1 => ho.sim.stepS er1 hr1 p1 fun x vx bs2 H2 h2 e2 hr2 er2 rx p2 => hi.sim.stepS er2 hr2 p2 fun y vy bs3 H3 h3 e3 hr3 er3 ry p3 => by
    split at p3
    · rename_i h4 hh
      exact zlA hr3 (rx.mono e3) ry ((rz.mono e2).mono e3) hh fun H' e hr' => p3 bs3 H' σ e hr' (er3.mono e)
    · exact p3.elim⟩
end
inductive TyK where
  | list | str
def TyK.name : TyK -> String
  | .list=>"list"
  | .str=>"str"
def zc7 (T : TyK) (x : D) (h : Hs) : Bool:=match T with
  | .list=>(rdL h x).isSome
  | .str=>match x with
    | .str _=>true
    | _=>false
theorem zmu {g : G} {bs : List Addr} {h : Hs} {H : Hp} {T : TyK} {x : D} {v : V} (hr : HRel g bs h H) (r : Rep g bs H x v) (e : zc7 T x h = true) : tyV g.K T.name v H:=by
  cases T with
  | list =>
    obtain ⟨xs,hx⟩:=Option.isSome_iff_exists.mp (show (rdL h x).isSome = true from e)
    obtain ⟨a,vs,rfl,hs,_⟩:=zfb hr r hx
    exact .inl ⟨rfl,vs,hs⟩
  | str=>cases r <;> first | rfl | cases e
structure MJ (g : G) (r : V -> List V -> Hp -> VK -> Prop) (f : D -> List D -> Hs -> R D) : Prop where
  run : ∀ (W : Value -> Option Addr -> Hp -> Prop) (bs : List Addr) (h : Hs) (H : Hp) (x : D) (vx : V) (xs : List D) (vs : List V) (Q : VK),HRel g bs h H -> Rep g bs H x vx -> Reps g bs H xs vs -> zaU (zc5 g) g W bs H (f x xs h) Q -> r vx vs H Q
def eBM (T : TyK) (op : D -> List D -> Hs -> R D) (fo : En -> Hs -> R D) (fa : En -> Hs -> R (List D)) : En -> Hs -> R D:=fun env h=>(fo env h).bind fun x h1=>if zc7 T x h1 = true then (fa env h1).bind fun xs h2=>op x xs h2 else .bad
def zsR (T : TyK) (op : D -> List D -> Hs -> R D) (fo : En -> Hs -> R D) : En -> Hs -> R D:=fun env h=>(fo env h).bind fun x h1=>if zc7 T x h1 = true then op x [] h1 else .bad
section
variable {ci : Nat -> String × List String} {X : Cx} {W : WX} {o e : Expr} {es : List Expr} {to : TE} {t : TA} {fo : En -> Hs -> R D} {fa : En -> Hs -> R (List D)} {name : Str} {apos cpos : Pos} {id : String} {r : V -> List V -> Hp -> VK -> Prop} {f : D -> List D -> Hs -> R D}
theorem zdM (T : TyK) (pa : PlainAttrs T.name) (slot : PySem.Slot T.name name id) (hty : typeOf (.builtin id) = pure (.type "method_descriptor")) (hm : MtR X id r) (hj : MJ (X.g ci) r f) (ho : EJ ci X W o to fo) (ha : AJ ci X W (e :: es) t fa)
    (hbase : attributeBase o name X.env (eval o X.env) = eval o X.env := by rfl)
    (hfew : ((backTo cpos (starEach (e :: es) X.env)).all (fun x => !x.1) && (backToKw cpos (keywordEach [] X.env)).all (fun x => x.1.isSome)
      && decide ((e :: es).length + ([] : List Keyword).length + (if ([] : List Keyword).isEmpty then 0 else 1) < 30)) = true := by rfl)
    (hline : (apos.endLine == cpos.line) = true := by rfl) (hs : starEach (e :: es) X.env = (false, eval e X.env) :: starEach es X.env := by rfl) (hplain : (backTo cpos (starEach es X.env)).any (·.1) = false := by rfl) :
    EJ ci X W (.Call (.Attribute o name apos) (e :: es) [] cpos) (tBM X.K T.name r to t) (eBM T f fo fa) :=
  ⟨pe_bm pa slot hty hm ho.pe ha.pa hbase hfew hline hs hplain, fun σ H env h bs Q er hr p => ho.sim.step er hr p fun x vx bs1 H1 h1 e1 hr1 er1 rx p1 => by
    split at p1
    · rename_i hty'
      exact ⟨zmu hr1 rx hty', ha.sim.step er1 hr1 p1 fun xs vs bs2 H2 h2 e2 hr2 er2 rs p2 => hj.run _ bs2 h2 H2 x vx xs vs Q hr2 (rx.mono e2) rs p2⟩
    · exact p1.elim⟩
end
def zfP (x : D) (xs : List D) (h : Hs) : R D:=match x,xs with
  | .ref n,[y]=>match zaS h n with
    | some ys=>if ys.length < big then .ok .non (h.set n (.lst (ys ++ [y]))) else .bad
    | none=>.bad
  | _,_=>.bad
theorem zhk {g : G} {bs : List Addr} {h : Hs} {H : Hp} {n : Nat} {a : Addr} {ds : List D} {vs : List V} {d : D} {v : V} {W : Value -> Option Addr -> Hp -> Prop} {Q : VK} (hr : HRel g bs h H) (hb : bs[n]? = some a) (rs : Reps g bs H ds vs) (r : Rep g bs H d v)
    (p : zaU (zc5 g) g W bs H (.ok d (h.set n (.lst ds))) Q) : Q v (upd H a (.lst vs)) :=
  p bs _ v (.cell hr hb) (hr.cell hb ⟨vs, upd_same, rs.mono (.cell hr hb)⟩) (r.mono (.cell hr hb))
theorem zhx {g : G} : MJ g rAppend zfP:=by
  refine ⟨fun W bs h H x vx xs vs Q hr rx rs p=>?_⟩
  unfold zfP at p
  split at p
  · split at p
    · rename_i ys hy
      split at p
      · rename_i hl
        cases rx with
        | @ref _ a hb =>
          cases rs with
          | cons r t =>
            cases t
            obtain ⟨us,h1,h2⟩:=zbT hr hb hy
            exact ⟨a,us,_,rfl,rfl,h1,by rw [<- h2.length,zcw]; exact hl,zhk hr hb (h2.append (.cons r .nil)) .non p⟩
      · exact p.elim
    · exact p.elim
  · exact p.elim
def zbm (c : En -> Hs -> R Bool) (f : En -> Hs -> S) : Nat -> En -> Hs -> S
  | 0,_,_=>.bad
  | n + 1,env,h=>(c env h).toS env fun b h1=>if b = true then (match f env h1 with
    | .nx env2 h2=>zbm c f n env2 h2
    | .ct env2 h2=>zbm c f n env2 h2
    | .brk env2 h2=>.nx env2 h2
    | .ret d h2=>.ret d h2
    | .err k fs env2 h2=>.err k fs env2 h2
    | .bad=>.bad) else .nx env h1
theorem zep (c : En -> Hs -> R Bool) (f : En -> Hs -> S) : ∀ (n : Nat) (env : En) (h : Hs),zbm c f n env h ≠ .bad -> zbm c f (n + 1) env h = zbm c f n env h
  | 0,env,h,hn=>absurd rfl hn
  | n + 1,env,h,hn=>by
    rw [zbm]
    conv=>rhs; rw [zbm]
    rw [zbm] at hn
    cases hc : c env h with
    | bad=>rfl
    | err k fs h1=>rfl
    | ok b h1 =>
      rw [hc] at hn
      simp only [R.toS_ok] at hn ⊢
      cases b with
      | false=>rfl
      | true =>
        simp only [if_true] at hn ⊢
        cases hf : f env h1 with
        | nx env2 h2=>rw [hf] at hn; exact zep c f n env2 h2 hn
        | ct env2 h2=>rw [hf] at hn; exact zep c f n env2 h2 hn
        | _=>rfl
theorem zhI (c : En -> Hs -> R Bool) (f : En -> Hs -> S) {m n : Nat} (hmn : m <= n) {env : En} {h : Hs} (hn : zbm c f m env h ≠ .bad) : zbm c f n env h = zbm c f m env h:=by
  induction hmn with
  | refl=>rfl
  | step _ ih=>rw [zep c f _ env h (by rw [ih]; exact hn),ih]
open Classical in
def zcx (c : En -> Hs -> R Bool) (f : En -> Hs -> S) : En -> Hs -> S:=fun env h=>if e : ∃ n,zbm c f n env h ≠ .bad then zbm c f e.choose env h else .bad
theorem zf0 {c : En -> Hs -> R Bool} {f : En -> Hs -> S} {n : Nat} {env : En} {h : Hs} {r : S} (e : zbm c f n env h = r) (hr : r ≠ .bad) : zcx c f env h = r:=by
  have ex : ∃ n,zbm c f n env h ≠ .bad:=⟨n,by rw [e]; exact hr⟩
  unfold zcx
  rw [dif_pos ex]
  rcases Nat.le_total ex.choose n with hl | hl
  · rw [<- zhI c f hl ex.choose_spec]; exact e
  · rw [zhI c f hl (by rw [e]; exact hr)]; exact e
theorem zdk (c : En -> Hs -> R Bool) (f : En -> Hs -> S) (env : En) (h : Hs) : zcx c f env h = (c env h).toS env fun b h1 => if b = true then (match f env h1 with
    | .nx env2 h2 => zcx c f env2 h2
    | .ct env2 h2 => zcx c f env2 h2
    | .brk env2 h2 => .nx env2 h2
    | .ret d h2 => .ret d h2
    | .err k fs env2 h2 => .err k fs env2 h2
    | .bad => .bad) else .nx env h1 := by
  have again : ∀ (env2 : En) (h2 : Hs), (∀ n, zbm c f (n + 1) env h = zbm c f n env2 h2) -> zcx c f env h = zcx c f env2 h2 := fun env2 h2 k => by
    by_cases e : ∃ n, zbm c f n env2 h2 ≠ .bad
    · obtain ⟨n, hn⟩ := e
      rw [zf0 (n := n) rfl hn, zf0 (n := n + 1) (k n) hn]
    · have e1 : ¬ ∃ n, zbm c f n env h ≠ .bad := fun ⟨n, hn⟩ => e (by
        cases n with
        | zero => exact absurd rfl hn
        | succ n => exact ⟨n, by rw [<- k n]; exact hn⟩)
      unfold zcx
      rw [dif_neg e, dif_neg e1]
  have at1 : ∀ (r : S), (∀ n, zbm c f (n + 1) env h = r) -> zcx c f env h = r := fun r k => by
    by_cases hr : r = .bad
    · subst hr
      unfold zcx
      rw [dif_neg]
      rintro ⟨n, hn⟩
      cases n with
      | zero => exact hn rfl
      | succ n => exact hn (k n)
    · exact zf0 (n := 1) (k 0) hr
  cases hc : c env h with
  | bad => exact at1 _ fun n => by rw [zbm, hc]; rfl
  | err k fs h1 => exact at1 _ fun n => by rw [zbm, hc]; rfl
  | ok b h1 =>
    simp only [R.toS_ok]
    cases b with
    | false => exact at1 _ fun n => by rw [zbm, hc]; rfl
    | true =>
      simp only [if_true]
      cases hf : f env h1 with
      | nx env2 h2 => exact again env2 h2 fun n => by rw [zbm, hc]; simp only [R.toS_ok, if_true, hf]
      | ct env2 h2 => exact again env2 h2 fun n => by rw [zbm, hc]; simp only [R.toS_ok, if_true, hf]
      | _ => exact at1 _ fun n => by rw [zbm, hc]; simp only [R.toS_ok, if_true, hf]
section
variable {ci : Nat -> String × List String} {X : Cx} {W : WX} {pos : Pos} {c : Expr} {body : List Stmt} {tc : TT} {tb : TS} {fc : En -> Hs -> R Bool} {fb : En -> Hs -> S}
theorem zkf {g : G} (hc : Sim relB g W tc fc) (hb : zjr g W tb fb) : zjr g W (tWhile tc tb) (zcx fc fb):=by
  intro σ H env h bs E er hr p
  unfold zcx at p
  split at p
  · rename_i ex
    refine ⟨fun m σ H=>∃ bs env h,ERel g bs H env σ /\ HRel g bs h H /\ zcA g W bs H (zbm fc fb m env h) E,⟨_,bs,env,h,er,hr,p⟩,?_⟩
    rintro m σ H ⟨bs,env,h,er,hr,p⟩
    cases m with
    | zero=>exact p.elim
    | succ m =>
      rw [zbm] at p
      refine hc.stepS er hr p fun x vx bs1 H1 h1 e1 hr1 er1 rx p1=>?_
      cases (show vx = x from rx)
      cases x with
      | false =>
        rw [if_neg Bool.false_ne_true] at p1 ⊢
        exact p1 bs1 H1 σ .refl hr1 er1
      | true =>
        rw [if_pos rfl] at p1 ⊢
        refine ⟨fun σ' H'=>∃ bs env h,ERel g bs H' env σ' /\ HRel g bs h H' /\ zcA g W bs H' (zbm fc fb m env h) E,fun σ' H' z=>⟨m,Nat.lt_succ_self _,z⟩,?_⟩
        refine hb σ H1 env h1 bs1 _ er1 hr1 ?_
        cases hf : fb env h1 with
        | nx env2 h2=>rw [hf] at p1; exact fun bs' H' σ' e r er'=>⟨bs',env2,h2,er',r,zcA.mono e p1⟩
        | ct env2 h2=>rw [hf] at p1; exact fun bs' H' σ' e r er'=>⟨bs',env2,h2,er',r,zcA.mono e p1⟩
        | brk env2 h2=>rw [hf] at p1; exact p1
        | ret d h2=>rw [hf] at p1; exact p1
        | err k fs env2 h2=>rw [hf] at p1; exact p1
        | bad=>rw [hf] at p1; exact p1
  · exact p.elim
theorem zle (hp : PassesOwn (model X.prog X.w) X.A X.env X.xe) (hc : TJ ci X W c tc fc) (hb : SsJ ci X W body tb fb) : SJ ci X W (.While c body [] pos) (tWhile tc tb) (zcx fc fb):=
  ⟨ps_while hp hc.pt hb.pss,zkf hc.sim hb.sim⟩
end
end Ev
namespace Ev
open PySem L2
def Kept : List (Nat × O) -> Hs -> Prop
  | [],_=>True
  | p :: ps,h=>(match p.2 with
    | .lst xs=>zaS h p.1 = some xs
    | o=>h[p.1]? = some o) /\ Kept ps h
@[simp] theorem zdg (h : Hs) : Kept [] h = True:=rfl
@[simp] theorem zoO (n : Nat) (xs : List D) (ps : List (Nat × O)) (h : Hs) : Kept ((n,.lst xs) :: ps) h = (zaS h n = some xs /\ Kept ps h):=rfl
@[simp] theorem zrk (n : Nat) (od : Obj) (u : HO) (o : O) (ps : List (Nat × O)) (h : Hs) : Kept ((n,.lk od u o) :: ps) h = (h[n]? = some (.lk od u o) /\ Kept ps h):=rfl
def zh3 (g : G) (bs0 : List Addr) (H0 : Hp) (J : It) (items : List D) (src : List (Nat × O)) : Prop:=
  ∀ bs h H,Ext bs0 H0 bs H -> HRel g bs h H -> Kept src h ->
    (∀ i d,items[i]? = some d -> J.go i H /\ ∀ x H',J.yld i H x H' -> Ext bs H bs H' /\ HRel g bs h H' /\ Rep g bs H' d x) /\ J.stop items.length H
abbrev Src:=List D × List (Nat × O)
def zmD (g : G) : List Addr -> Hp -> Src -> It -> Prop:=fun bs H s J=>zh3 g bs H J s.1 s.2
structure IJ (ci : Nat -> String × List String) (X : Cx) (W : WX) (tg iter : Expr) (wi : TI) (f : En -> Hs -> R Src) : Prop where
  pi : PI X tg iter wi
  sim : Sim (zmD (X.g ci)) (X.g ci) W wi f
def zm5 (x : D) (h : Hs) : R Src:=match x with
  | .tup xs=>.ok (xs,[]) h
  | .lst xs=>.ok (xs,[]) h
  | .rol xs=>.ok (xs,[]) h
  | .ref n=>match zaS h n with
    | some xs=>.ok (xs,[(n,.lst xs)]) h
    | none=>.bad
  | _=>.bad
def zf6 (fa : En -> Hs -> R D) : En -> Hs -> R Src:=fun env h=>(fa env h).bind zm5
def zoM (K : PySem.W.Frag) (te : TE) : TI:=fun σ H R=>te σ H fun x H1=>∃ a,x = .ref a /\ (((∃ xs,SqL K H1 a xs) /\ R (Itl K a) H1) \/ ((∃ xs,SqT K H1 a xs) /\ R (Itt K a) H1))
theorem zn1 {X : Cx} {tg l : Expr} {tl : TE} (hl : PE X l tl) : PI X tg l (zoM X.K tl):=by
  refine ⟨fun pins s σ H R I h=>?_⟩
  refine thn (hl.run pins s σ H _ I h) fun v s1 ⟨x,H1,I1,r1,q1⟩=>?_
  obtain ⟨a,e,⟨⟨xs,hq⟩,q⟩ | ⟨⟨xs,hq⟩,q⟩⟩:=q1
  · subst e
    cases r1
    obtain ⟨its,rv,p,hz⟩:=I1.list hq
    refine wpAny_pyIter_list p.isList ?_
    refine ⟨s1.heap.objs.size,[s1.heap.objs.size],_,_,H1,rfl,I1.kept (t':=s1.toks) fun b o e=>Heap.get?_push_of_some _ e,turn_list a _,⟨_,Heap.get?_push_size _ rfl,rfl,rfl⟩,fun b hb=>?_,q⟩
    have e : b = s1.heap.objs.size:=by simpa using hb
    subst e
    exact I1.fpOk (Nat.le_refl _) (I1.hok.fresh (Nat.le_refl _))
  · subst e
    cases r1
    obtain ⟨its,rv,p,hz⟩:=I1.tuple hq
    refine wpAny_pyIter_tuple (show s1.heap.IsTuple a its.toArray from p) ?_
    refine ⟨s1.heap.objs.size,[s1.heap.objs.size],_,_,H1,rfl,I1.kept (t':=s1.toks) fun b o e=>Heap.get?_push_of_some _ e,turn_tuple a _,⟨_,Heap.get?_push_size _ rfl,rfl,rfl⟩,fun b hb=>?_,q⟩
    have e : b = s1.heap.objs.size:=by simpa using hb
    subst e
    exact I1.fpOk (Nat.le_refl _) (I1.hok.fresh (Nat.le_refl _))
section
variable {g : G} {bs0 : List Addr} {H0 : Hp} {h : Hs}
theorem zij {a : Addr} {xs : List D} {src : List (Nat × O)} (k : ∀ bs h H,Ext bs0 H0 bs H -> HRel g bs h H -> Kept src h -> ∃ vs,SqL g.K H a vs /\ Reps g bs H xs vs) : zh3 g bs0 H0 (Itl g.K a) xs src:=by
  intro bs h H e hr kp
  obtain ⟨vs,hs,rs⟩:=k bs h H e hr kp
  refine ⟨fun i d hi=>?_,⟨vs,hs,Nat.le_of_eq rs.length.symm⟩⟩
  obtain ⟨v,h1,h2⟩:=rs.get hi
  refine ⟨⟨vs,v,hs,h1⟩,fun x H' y=>?_⟩
  obtain ⟨e1,y⟩:=y
  subst e1
  have e2:=y vs hs
  rw [h1] at e2
  cases e2
  exact ⟨.refl,hr,h2⟩
theorem znc {a : Addr} {xs : List D} {src : List (Nat × O)} (k : ∀ bs h H,Ext bs0 H0 bs H -> HRel g bs h H -> Kept src h -> ∃ vs,SqT g.K H a vs /\ Reps g bs H xs vs) : zh3 g bs0 H0 (Itt g.K a) xs src:=by
  intro bs h H e hr kp
  obtain ⟨vs,hs,rs⟩:=k bs h H e hr kp
  refine ⟨fun i d hi=>?_,⟨vs,hs,Nat.le_of_eq rs.length.symm⟩⟩
  obtain ⟨v,h1,h2⟩:=rs.get hi
  refine ⟨⟨vs,v,hs,h1⟩,fun x H' y=>?_⟩
  obtain ⟨e1,y⟩:=y
  subst e1
  have e2:=y vs hs
  rw [h1] at e2
  cases e2
  exact ⟨.refl,hr,h2⟩
theorem later {bs : List Addr} {H : Hp} {h : Hs} {x : D} {v : V} {W : Value -> Option Addr -> Hp -> Prop} {Q : It -> Hp -> Prop} (hr : HRel g bs h H) (rx : Rep g bs H x v) (p : zaU (zmD g) g W bs H (zm5 x h) Q) :
    ∃ a, v = .ref a /\ (((∃ xs, SqL g.K H a xs) /\ Q (Itl g.K a) H) \/ ((∃ xs, SqT g.K H a xs) /\ Q (Itt g.K a) H)) := by
  cases rx with
  | lst n hl rs => exact ⟨_, rfl, .inl ⟨⟨_, .of hl⟩, zaU.ok_ p hr (zij fun bs' h' H' e hr' _ => ⟨_, .of (e.keep _ _ hl n), rs.mono e⟩)⟩⟩
  | rol hl rs => exact ⟨_, rfl, .inl ⟨⟨_, hl.sq⟩, zaU.ok_ p hr (zij fun bs' h' H' e hr' _ => ⟨_, (hl.mono e).sq, rs.mono e⟩)⟩⟩
  | tup t rs => exact ⟨_, rfl, .inr ⟨⟨_, t.sq⟩, zaU.ok_ p hr (znc fun bs' h' H' e hr' _ => ⟨_, (t.mono e).sq, rs.mono e⟩)⟩⟩
  | @ref n a hb =>
    have p' : zaU (zmD g) g W bs H (match zaS h n with
      | some xs => R.ok (xs, [(n, .lst xs)]) h
      | none => R.bad) Q := p
    cases hc : zaS h n with
    | none => rw [hc] at p'; exact p'.elim
    | some ys =>
      rw [hc] at p'
      obtain ⟨vs, h1, h2⟩ := zbT hr hb hc
      refine ⟨a, rfl, .inl ⟨⟨vs, .of h1⟩, zaU.ok_ p' hr (zij fun bs' h' H' e hr' kp => ?_)⟩⟩
      obtain ⟨us, h3, h4⟩ := zbT hr' (e.get hb) kp.1
      exact ⟨us, .of h3, h4⟩
  | _ => exact p.elim
end
section
variable {ci : Nat -> String × List String} {X : Cx} {W : WX} {tg e e2 : Expr} {te : TE} {fe : En -> Hs -> R D} {ta : TA} {fa : En -> Hs -> R (List D)} {p pos tpos : Pos} {elts : List Expr} {kk : Nat}
theorem zfd (he : EJ ci X W e te fe) : IJ ci X W tg e (zoM X.K te) (zf6 fe):=
  ⟨zn1 he.pe,fun σ H env h bs Q er hr p=>he.sim.step er hr p fun x vx bs1 H1 h1 e1 hr1 er1 rx p1=>later hr1 rx p1⟩
theorem zlP {i : Int} (h : Nat.ble i.natAbs 4000000000000000000 = true) : -(2 ^ 62) <= i /\ i < 2 ^ 62:=by
  obtain ⟨h1,h2⟩:=zih h
  have e : (2 : Int) ^ 62 = 4611686018427387904:=by simp
  rw [e]
  exact ⟨by omega,by omega⟩
def zdI (fa : En -> Hs -> R (List D)) : En -> Hs -> R Src:=fun env h=>(fa env h).bind fun xs h1=>match xs with
  | [.int j]=>if Nat.ble j.natAbs 4000000000000000000 = true then .ok ((List.range j.toNat).map fun (i : Nat)=>D.int (i : Int),[]) h1 else .bad
  | _=>.bad
theorem znB {g : G} {bs0 : List Addr} {H0 : Hp} {lo : Int} {n : Nat} : zh3 g bs0 H0 (Itr lo n) ((List.range n).map fun (k : Nat)=>D.int (lo + (k : Int))) []:=by
  intro bs h H e hr kp
  refine ⟨fun i d hi=>?_,by show n <= _; simp⟩
  rw [List.getElem?_map] at hi
  by_cases hlt : i < n
  · rw [List.getElem?_range hlt] at hi
    cases hi
    refine ⟨hlt,fun x H' y=>?_⟩
    obtain ⟨e1,e2⟩:=y
    subst e1 e2
    exact ⟨.refl,hr,.int _⟩
  · rw [List.getElem?_eq_none (by simpa using hlt)] at hi; cases hi
theorem zeB (hg : Gl X "range") (hm : X.mg "range" = none) (ha : AJ ci X W [e] ta fa) (hs : starEach [e] X.env = [(false,eval e X.env)]:=by rfl) : IJ ci X W tg (.Call (.Name "range" p) [e] [] pos) (iRng1 ta) (zdI fa):=
  ⟨pi_range1 hg hm ha.pa hs,fun σ H env h bs Q er hr p=>ha.sim.step er hr p fun xs vs bs1 H1 h1 e1 hr1 er1 rs p1=>by
    split at p1
    · split at p1
      · rename_i hc
        cases rs with
        | cons r t =>
          cases t
          cases r
          refine ⟨_,rfl,(zlP hc).1,(zlP hc).2,zaU.ok_ p1 hr1 ?_⟩
          have z:=fun n=>znB (g:=X.g ci) (bs0:=bs1) (H0:=H1) (lo:=0) (n:=n)
          simp only [Int.zero_add] at z
          exact z _
      · exact p1.elim
    · exact p1.elim⟩
end
def gOf (x : D) (xs : List D) : List (Nat × O):=match x with
  | .ref n=>[(n,.lst xs)]
  | _=>[]
theorem znt {g : G} {bs : List Addr} {H : Hp} {h : Hs} {x : D} {v : V} {xs : List D} (hr : HRel g bs h H) (rx : Rep g bs H x v) (e : rdL h x = some xs) :
    ∃ a, v = .ref a /\ (∃ vs, SqL g.K H a vs /\ xs.length = vs.length) /\ ∀ bs' h' H', Ext bs H bs' H' -> HRel g bs' h' H' -> Kept (gOf x xs) h' -> ∃ vs, SqL g.K H' a vs /\ Reps g bs' H' xs vs := by
  cases rx with
  | lst n hl rs => cases e; exact ⟨_, rfl, ⟨_, .of hl, rs.length⟩, fun bs' h' H' e hr' _ => ⟨_, .of (e.keep _ _ hl n), rs.mono e⟩⟩
  | rol hl rs => cases e; exact ⟨_, rfl, ⟨_, hl.sq, rs.length⟩, fun bs' h' H' e hr' _ => ⟨_, (hl.mono e).sq, rs.mono e⟩⟩
  | @ref n a hb =>
    obtain ⟨vs, h1, h2⟩ := zbT hr hb (show zaS h n = some xs from e)
    refine ⟨a, rfl, ⟨vs, .of h1, h2.length⟩, fun bs' h' H' e hr' kp => ?_⟩
    obtain ⟨us, h3, h4⟩ := zbT hr' (e.get hb) kp.1
    exact ⟨us, .of h3, h4⟩
  | _ => cases e
def zf8 (i : Nat) : List D -> List D
  | []=>[]
  | d :: ds=>.tup [.int (i : Int),d] :: zf8 (i + 1) ds
theorem ze7 : ∀ (i : Nat) (ds : List D),(zf8 i ds).length = ds.length
  | _,[]=>rfl
  | i,_ :: ds=>congrArg Nat.succ (ze7 (i + 1) ds)
theorem zfU : ∀ (k : Nat) (ds : List D) (i : Nat) (d : D),(zf8 k ds)[i]? = some d -> ∃ e,ds[i]? = some e /\ d = .tup [.int ((k + i : Nat) : Int),e]
  | _,[],_,_,h=>by simp [zf8] at h
  | k,e :: ds,0,d,h=>by
    simp [zf8] at h
    exact ⟨e,rfl,by rw [<- h]; rfl⟩
  | k,e :: ds,i + 1,d,h=>by
    obtain ⟨e',h1,h2⟩:=zfU (k + 1) ds i d (by simpa [zf8] using h)
    exact ⟨e',by simpa using h1,by rw [h2,show k + 1 + i = k + (i + 1) by omega]⟩
def zja (fa : En -> Hs -> R (List D)) : En -> Hs -> R Src:=fun env h=>(fa env h).bind fun xs h1=>match xs with
  | [x]=>match rdL h1 x with
    | some ys=>.ok (zf8 0 ys,gOf x ys) h1
    | none=>.bad
  | _=>.bad
theorem znd {g : G} {bs0 : List Addr} {H0 : Hp} {a : Addr} {xs : List D} {src : List (Nat × O)} (k : ∀ bs h H,Ext bs0 H0 bs H -> HRel g bs h H -> Kept src h -> ∃ vs,SqL g.K H a vs /\ Reps g bs H xs vs) : zh3 g bs0 H0 (Ite g.K a) (zf8 0 xs) src:=by
  intro bs h H e hr kp
  obtain ⟨vs,hs,rs⟩:=k bs h H e hr kp
  refine ⟨fun i d hi=>?_,⟨vs,hs,by rw [ze7,rs.length]; exact Nat.le_refl _⟩⟩
  obtain ⟨d',h0,rfl⟩:=zfU 0 xs i d hi
  obtain ⟨v,h1,h2⟩:=rs.get h0
  refine ⟨⟨vs,v,hs,h1⟩,fun x H' y=>?_⟩
  obtain ⟨T,z,rfl,hT,rfl,y⟩:=y
  have e2:=y vs hs
  rw [h1] at e2
  cases e2
  refine ⟨.new hT,hr.new hT,.tup (.inl ⟨hr.out hT,.inl upd_same⟩) (.cons ?_ (.cons (h2.mono (.new hT)) .nil))⟩
  rw [Nat.zero_add]
  exact .int _
section
variable {ci : Nat -> String × List String} {X : Cx} {W : WX} {tg e e2 : Expr} {ta : TA} {fa : En -> Hs -> R (List D)} {p pos tpos : Pos} {elts : List Expr} {kk : Nat}
theorem zmw (hg : Gl X "enumerate") (hm : X.mg "enumerate" = none) (ha : AJ ci X W [e] ta fa) (hs : starEach [e] X.env = [(false,eval e X.env)]:=by rfl) : IJ ci X W (.Tuple elts kk tpos) (.Call (.Name "enumerate" p) [e] [] pos) (iEnum X.K ta) (zja fa):=
  ⟨pi_enum hg hm ha.pa hs,fun σ H env h bs Q er hr p=>ha.sim.step er hr p fun xs vs bs1 H1 h1 e1 hr1 er1 rs p1=>by
    split at p1
    · split at p1
      · rename_i ys hy
        cases rs with
        | cons r t =>
          cases t
          obtain ⟨a,rfl,⟨vs,h1,_⟩,h2⟩:=znt hr1 r hy
          exact ⟨a,vs,rfl,h1,zaU.ok_ p1 hr1 (znd h2)⟩
      · exact p1.elim
    · exact p1.elim⟩
end
def zro : List D -> List D -> List D
  | d :: ds,e :: es=>.tup [d,e] :: zro ds es
  | _,_=>[]
open Classical in
def forL (gs : List (Nat × O)) (k : D -> En -> Option En) (f : En -> Hs -> S) : List D -> En -> Hs -> S
  | [],env,h=>if Kept gs h then .nx env h else .bad
  | x :: xs,env,h=>if Kept gs h then (match k x env with
    | none=>.bad
    | some e1=>match f e1 h with
      | .nx e2 h2=>forL gs k f xs e2 h2
      | .ct e2 h2=>forL gs k f xs e2 h2
      | .brk e2 h2=>.nx e2 h2
      | .ret d h2=>.ret d h2
      | .err c fs e2 h2=>.err c fs e2 h2
      | .bad=>.bad) else .bad
def zhH (fi : En -> Hs -> R Src) (k : D -> En -> Option En) (f : En -> Hs -> S) : En -> Hs -> S:=fun env h=>(fi env h).toS env fun s h1=>forL s.2 k f s.1 env h1
section
variable {ci : Nat -> String × List String} {X : Cx} {W : WX} {pos : Pos} {tg iter : Expr} {body : List Stmt} {wi : TI} {t : TG} {tb : TS} {fi : En -> Hs -> R Src} {k : D -> En -> Option En} {js : List Nat} {f : En -> Hs -> S}
theorem zmM {g : G} (hi : Sim (zmD g) g W wi fi) (hg : zl8 g t k js) (hb : zjr g W tb f) : zjr g W (tFor wi t tb) (zhH fi k f):=by
  intro σ H env h bs E er hr p
  refine hi.stepS er hr p fun s J bs1 H1 h1 e1 hr1 er1 fd p1=>?_
  refine ⟨fun i m σ H=>m = s.1.length - i /\ i <= s.1.length /\ ∃ bs env h,Ext bs1 H1 bs H /\ ERel g bs H env σ /\ HRel g bs h H /\ zcA g W bs H (forL s.2 k f (s.1.drop i) env h) E,⟨_,rfl,Nat.zero_le _,bs1,env,h1,.refl,er1,hr1,p1⟩,?_⟩
  rintro i m σ H ⟨rfl,hil,bs,env,h,e,er,hr,p⟩
  by_cases hlt : i < s.1.length
  · refine .inr ?_
    rw [List.drop_eq_getElem_cons hlt,forL] at p
    split at p
    · rename_i kp
      obtain ⟨go,yl⟩:=(fd bs h H e hr kp).1 i _ (List.getElem?_eq_getElem hlt)
      refine ⟨go,fun σ' H'=>∃ bs env h,Ext bs1 H1 bs H' /\ ERel g bs H' env σ' /\ HRel g bs h H' /\ zcA g W bs H' (forL s.2 k f (s.1.drop (i + 1)) env h) E,fun σ' H' z=>⟨_,by omega,rfl,hlt,z⟩,fun x H' y=>?_⟩
      obtain ⟨e2,hr2,rx⟩:=yl x H' y
      split at p
      · exact p.elim
      · rename_i env1 hk
        refine hg x _ σ H' env env1 h bs _ rx (er.mono e2) hr2 hk fun σ' er' _=>?_
        have p2:=zcA.mono e2 p
        refine hb σ' H' env1 h bs _ er' hr2 ?_
        cases hf : f env1 h with
        | nx env2 h2=>rw [hf] at p2; exact fun bs' H2 σ2 e3 r3 er3=>⟨bs',env2,h2,(e.trans e2).trans e3,er3,r3,zcA.mono e3 p2⟩
        | ct env2 h2=>rw [hf] at p2; exact fun bs' H2 σ2 e3 r3 er3=>⟨bs',env2,h2,(e.trans e2).trans e3,er3,r3,zcA.mono e3 p2⟩
        | brk env2 h2=>rw [hf] at p2; exact p2
        | ret d h2=>rw [hf] at p2; exact p2
        | err c fs env2 h2=>rw [hf] at p2; exact p2
        | bad=>rw [hf] at p2; exact p2
    · exact p.elim
  · have hi : i = s.1.length:=by omega
    subst hi
    rw [List.drop_length,forL] at p
    split at p
    · rename_i kp
      exact .inl ⟨(fd bs h H e hr kp).2,p bs H σ .refl hr er⟩
    · exact p.elim
theorem zfD (hp : PassesOwn (model X.prog X.w) X.A X.env X.xe) (hc : X.calm = true) (hi : IJ ci X W tg iter wi fi) (hg : GJ ci X tg t k js) (hb : SsJ ci X W body tb f)
    (hs : ∀ x, foldedSetIterable iter X.env x = pure x := by intro _; rfl) : SJ ci X W (.For tg iter body [] pos) (tFor wi t tb) (zhH fi k f) :=
  ⟨ps_for hp hc hi.pi hg.pg hb.pss hs, zmM hi.sim hg.sim hb.sim⟩
end
mutual
def D.nr (n : Nat) : D -> Bool
  | .tup xs=>D.nrs n xs
  | .lst xs=>D.nrs n xs
  | .rol xs=>D.nrs n xs
  | .obj _ xs=>D.nrs n xs
  | .dct _ xs=>D.nrs n xs
  | .dnt ks xs=>D.nrs n ks && D.nrs n xs
  | .ref k=>decide (k < n)
  | .non=>true
  | .bl _=>true
  | .int _=>true
  | .str _=>true
def D.nrs (n : Nat) : List D -> Bool
  | []=>true
  | x :: xs=>D.nr n x && D.nrs n xs
end
section
variable {g : G} {bs : List Addr} {H : Hp}
mutual
theorem Rep.nr : ∀ {d : D} {v : V},Rep g bs H d v -> D.nr bs.length d = true
  | _,_,.non=>by rw [D.nr]
  | _,_,.bl b=>by rw [D.nr]
  | _,_,.int i=>by rw [D.nr]
  | _,_,.str h=>by rw [D.nr]
  | _,_,.tup h r=>by rw [D.nr]; exact Reps.nrs r
  | _,_,.lst n h r=>by rw [D.nr]; exact Reps.nrs r
  | _,_,.rol h r=>by rw [D.nr]; exact Reps.nrs r
  | _,_,.obj n c h f r=>by rw [D.nr]; exact Reps.nrs r
  | _,_,.dct n h f r=>by rw [D.nr]; exact Reps.nrs r
  | _,_,.dnt n h f r r2=>by rw [D.nr,Reps.nrs r,Reps.nrs r2]; rfl
  | _,_,.ref h=>by rw [D.nr]; exact decide_eq_true (List.getElem?_eq_some_iff.mp h).1
theorem Reps.nrs : ∀ {ds : List D} {vs : List V},Reps g bs H ds vs -> D.nrs bs.length ds = true
  | _,_,.nil=>by rw [D.nrs]
  | _,_,.cons r t=>by rw [D.nrs,Rep.nr r,Reps.nrs t]; rfl
end
mutual
theorem Rep.shrink {more : List Addr} : ∀ {d : D} {v : V},Rep g (bs ++ more) H d v -> D.nr bs.length d = true -> Rep g bs H d v
  | _,_,.non,_=>.non
  | _,_,.bl b,_=>.bl b
  | _,_,.int i,_=>.int i
  | _,_,.str h,_=>.str h
  | _,_,.tup h r,n=>.tup (h.elim (fun z=>.inl ⟨fun y=>z.1 (List.mem_append_left _ y),z.2⟩) .inr) (Reps.shrink r (by rw [D.nr] at n; exact n))
  | _,_,.lst n h r,q=>.lst (fun y=>n (List.mem_append_left _ y)) h (Reps.shrink r (by rw [D.nr] at q; exact q))
  | _,_,.rol h r,n=>.rol (h.elim (fun z=>.inl ⟨fun y=>z.1 (List.mem_append_left _ y),z.2⟩) .inr) (Reps.shrink r (by rw [D.nr] at n; exact n))
  | _,_,.obj n c h f r,q=>.obj (fun y=>n (List.mem_append_left _ y)) c h f (Reps.shrink r (by rw [D.nr] at q; exact q))
  | _,_,.dct n h f r,q=>.dct (fun y=>n (List.mem_append_left _ y)) h f (Reps.shrink r (by rw [D.nr] at q; exact q))
  | _,_,.dnt n h f r r2,q=>.dnt (fun y=>n (List.mem_append_left _ y)) h f (Reps.shrink r (by rw [D.nr,Bool.and_eq_true] at q; exact q.1)) (Reps.shrink r2 (by rw [D.nr,Bool.and_eq_true] at q; exact q.2))
  | _,_,.ref h,q=>.ref (by rw [D.nr] at q; rw [List.getElem?_append_left (of_decide_eq_true q)] at h; exact h)
theorem Reps.shrink {more : List Addr} : ∀ {ds : List D} {vs : List V},Reps g (bs ++ more) H ds vs -> D.nrs bs.length ds = true -> Reps g bs H ds vs
  | _,_,.nil,_=>.nil
  | _,_,.cons r t,n=>by
    rw [D.nrs,Bool.and_eq_true] at n
    exact .cons (Rep.shrink r n.1) (Reps.shrink t n.2)
end
def O.nr (n : Nat) : O -> Bool
  | .lst xs=>D.nrs n xs
  | .ins _ xs=>D.nrs n xs
  | .dct _ xs=>D.nrs n xs
  | .dn ks xs=>D.nrs n ks && D.nrs n xs
  | .lk _ _ o=>O.nr n o
  | .tb _=>true
theorem zmf.nr {a : Addr} {u : HO} {o : O} (r : zmf g bs H a u o) : O.nr bs.length o = true:=by
  cases o with
  | dct ks ds=>obtain ⟨_,_,_,r⟩:=r; exact r.nrs
  | dn ks ds=>obtain ⟨_,_,_,r1,r2⟩:=r; rw [O.nr,r1.nrs,r2.nrs]; rfl
  | _=>exact r.elim
theorem zmf.shrink {a : Addr} {u : HO} {o : O} {more : List Addr} (r : zmf g (bs ++ more) H a u o) (h : O.nr bs.length o = true) : zmf g bs H a u o:=by
  cases o with
  | dct ks ds=>obtain ⟨kvs,q1,q2,r⟩:=r; exact ⟨kvs,q1,q2,r.shrink h⟩
  | dn ks ds =>
    obtain ⟨es,q1,q2,r1,r2⟩:=r
    rw [O.nr,Bool.and_eq_true] at h
    exact ⟨es,q1,q2,r1.shrink h.1,r2.shrink h.2⟩
  | _=>exact r.elim
theorem zkG.nr {a : Addr} {o : O} (r : zkG g bs H a o) : O.nr bs.length o = true:=by
  cases o with
  | lst ds=>obtain ⟨_,_,r⟩:=r; exact r.nrs
  | ins c ds=>obtain ⟨_,_,_,_,_,_,r⟩:=r; exact r.nrs
  | dct ks ds=>obtain ⟨_,_,_,r⟩:=r; exact r.nrs
  | dn ks ds=>obtain ⟨_,_,_,r1,r2⟩:=r; rw [O.nr,r1.nrs,r2.nrs]; rfl
  | lk od u o=>rw [O.nr]; exact zmf.nr r.2
  | tb x=>rfl
theorem zkG.shrink {a : Addr} {o : O} {more : List Addr} (r : zkG g (bs ++ more) H a o) (h : O.nr bs.length o = true) : zkG g bs H a o:=by
  cases o with
  | lst ds=>obtain ⟨vs,q,r⟩:=r; exact ⟨vs,q,r.shrink h⟩
  | ins c ds=>obtain ⟨C,dx,fvs,q1,q2,q3,r⟩:=r; exact ⟨C,dx,fvs,q1,q2,q3,r.shrink h⟩
  | dct ks ds=>obtain ⟨kvs,q1,q2,r⟩:=r; exact ⟨kvs,q1,q2,r.shrink h⟩
  | dn ks ds =>
    obtain ⟨es,q1,q2,r1,r2⟩:=r
    rw [O.nr,Bool.and_eq_true] at h
    exact ⟨es,q1,q2,r1.shrink h.1,r2.shrink h.2⟩
  | lk od u o=>rw [O.nr] at h; exact ⟨r.1,zmf.shrink r.2 h⟩
  | tb x =>
    obtain ⟨q,ps,q1,q2,q3⟩:=r
    refine ⟨q,ps,q1,q2,fun pos cv z=>?_⟩
    obtain ⟨c,oc,h1,h2,h3⟩:=q3 pos cv z
    exact ⟨c,oc,h1,fun m=>h2 (List.mem_append_left _ m),h3⟩
theorem HRel.pop {h0 more : Hs} {m : List Addr} {bs0 : List Addr} {H0 : Hp} (hr0 : HRel g bs0 h0 H0) (hr : HRel g (bs0 ++ m) (h0 ++ more) H) : HRel g bs0 h0 H:=by
  refine ⟨hr0.len,hr0.nd,fun i o hi=>?_⟩
  have hl : i < h0.length:=(List.getElem?_eq_some_iff.mp hi).1
  obtain ⟨a,h1,h2⟩:=hr.at_ i o (by rw [List.getElem?_append_left hl]; exact hi)
  rw [List.getElem?_append_left (by rw [hr0.len]; exact hl)] at h1
  obtain ⟨_,_,h3⟩:=hr0.at_ i o hi
  exact ⟨a,h1,h2.shrink h3.nr⟩
end
def zjk {α : Type} (r : R α) : R α:=match r with
  | .err _ _ _=>.bad
  | r=>r
@[simp] theorem zci {α : Type} (a : α) (h : Hs) : zjk (R.ok a h) = .ok a h:=rfl
def zbD (env : En) : List Nat -> En
  | []=>env
  | v :: vs=>(zbD env vs).set v none
theorem ERel.wipe {g : G} {bs : List Addr} {H : Hp} {env : En} {σ : St} (er : ERel g bs H env σ) : ∀ vs : List Nat,ERel g bs H (zbD env vs) (L2.wipe σ vs)
  | []=>er
  | v :: vs=>by
    have ih:=ERel.wipe er vs
    unfold zbD L2.wipe
    refine ⟨by rw [List.length_set,List.length_set]; exact ih.len,fun i d hi=>?_⟩
    by_cases hv : v = i
    · subst hv
      by_cases hl : v < (zbD env vs).length
      · rw [List.getElem?_set_self hl] at hi; cases hi
      · rw [List.getElem?_eq_none (by rw [List.length_set]; omega)] at hi; cases hi
    · rw [List.getElem?_set_ne hv] at hi ⊢
      exact ih.at_ i d hi
open Classical in
def zcE (hb : Hs) (gs : List (Nat × O)) (k : D -> En -> Option En) (tt : En -> Hs -> R Bool) (fe : En -> Hs -> R D) (env : En) : List D -> List D -> R (List D)
  | [],acc=>if Kept gs (hb ++ [.lst acc]) then .ok acc hb else .bad
  | x :: xs,acc=>if Kept gs (hb ++ [.lst acc]) then (match k x env with
    | none=>.bad
    | some e1=>(zjk (tt e1 (hb ++ [.lst acc]))).bind fun b h1=>if b = true then (zjk (fe e1 h1)).bind fun y h2=>if h2 = hb ++ [.lst acc] /\ acc.length < big then zcE hb gs k tt fe env xs (acc ++ [y]) else .bad
      else if h1 = hb ++ [.lst acc] then zcE hb gs k tt fe env xs acc else .bad) else .bad
def zcU (fi : En -> Hs -> R Src) (k : D -> En -> Option En) (tt : En -> Hs -> R Bool) (fe : En -> Hs -> R D) (own : List Nat) : En -> Hs -> R D:=fun env h=>(fi env h).bind fun s h1=>(zcE h1 s.2 k tt fe (zbD env own) s.1 []).bind fun ys _=>if D.nrs h1.length ys = true then .ok (.lst ys) h1 else .bad
def zfL (fi : En -> Hs -> R Src) (k : D -> En -> Option En) (tt : En -> Hs -> R Bool) (fe : En -> Hs -> R D) (own : List Nat) : En -> Hs -> R D:=fun env h=>(fi env h).bind fun s h1=>(zcE h1 s.2 k tt fe (zbD env own) s.1 []).bind fun ys _=>.ok (.ref h1.length) (h1 ++ [.lst ys])
theorem zd1 {hb : Hs} {gs : List (Nat × O)} {k : D -> En -> Option En} {tt : En -> Hs -> R Bool} {fe : En -> Hs -> R D} {env : En} : ∀ {xs acc : List D},(∃ ys,zcE hb gs k tt fe env xs acc = .ok ys hb) \/ zcE hb gs k tt fe env xs acc = .bad
  | [],acc=>by
    rw [zcE]
    split
    · exact .inl ⟨_,rfl⟩
    · exact .inr rfl
  | x :: xs,acc=>by
    rw [zcE]
    split
    · split
      · exact .inr rfl
      · rename_i e1 _
        cases ht : zjk (tt e1 (hb ++ [.lst acc])) with
        | bad=>exact .inr rfl
        | err c fs h=>exact (by cases hz : tt e1 (hb ++ [.lst acc]) <;> rw [hz] at ht <;> cases ht)
        | ok b h1 =>
          simp only [R.bind_ok]
          split
          · cases hf : zjk (fe e1 h1) with
            | bad=>exact .inr rfl
            | err c fs h=>exact (by cases hz : fe e1 h1 <;> rw [hz] at hf <;> cases hf)
            | ok y h2 =>
              simp only [R.bind_ok]
              split
              · exact zd1
              · exact .inr rfl
          · split
            · exact zd1
            · exact .inr rfl
    · exact .inr rfl
section
variable {ci : Nat -> String × List String} {X : Cx} {W : WX} {elt tg iter : Expr} {ifs : List Expr} {scope : Scope} {own : List (Str × Nat)} {pos : Pos} {wi : TI} {t : TG} {tt : TT} {te : TE} {fi : En -> Hs -> R Src} {k : D -> En -> Option En} {js : List Nat} {ft : En -> Hs -> R Bool} {fe : En -> Hs -> R D}
abbrev W0 : WX:=fun _ _ _ _=>False
theorem zeE {g : G} {vs : List Nat} {σ : St} {H1 : Hp} {env : En} {h1 : Hs} {bs1 : List Addr} {s : Src} {J : It} {Q : VK} {ys : List Ev.D} (hg : zl8 g t k js) (ht : Sim relB g W0 tt ft) (he : Sim (zc5 g) g W0 te fe) (hjs : ∀ j ∈ js, j ∈ vs)
    (er1 : ERel g bs1 H1 env σ) (hr1 : HRel g bs1 h1 H1) (fd : zh3 g bs1 H1 J s.1 s.2) (hc : zcE h1 s.2 k ft fe (zbD env vs) s.1 [] = .ok ys h1)
    (hQ : ∀ (Da : Addr) (H : Hp), H1 Da = none -> Ext bs1 H1 (bs1 ++ [Da]) H -> HRel g (bs1 ++ [Da]) (h1 ++ [.lst ys]) H -> Q (.ref Da) H) :
    ∀ Da, H1 Da = none -> ∃ W : Nat -> Nat -> Hp -> Prop, (∃ m, W 0 m (upd H1 Da (.lst []))) /\ ∀ i m H, W i m H ->
      (J.stop i H /\ Q (.ref Da) H) \/ (J.go i H /\ ∃ Nx : Hp -> Prop, (∀ H', Nx H' -> ∃ m', m' < m /\ W (i + 1) m' H') /\ ∀ x H', J.yld i H x H' -> t x (wipe σ vs) H' fun σ2 H2 => wipe σ2 vs = wipe σ vs /\ tt σ2 H2 fun b H3 =>
        if b = true then te σ2 H3 fun y H4 => ∃ acc, H4 Da = some (.lst acc) /\ acc.length < sizeLine /\ Nx (upd H4 Da (.lst (acc ++ [y]))) else Nx H3) := by
  intro Da hD
  refine ⟨fun i m H => m = s.1.length - i /\ i <= s.1.length /\ ∃ acc, Ext bs1 H1 (bs1 ++ [Da]) H /\ HRel g (bs1 ++ [Da]) (h1 ++ [.lst acc]) H /\ zcE h1 s.2 k ft fe (zbD env vs) (s.1.drop i) acc = .ok ys h1,
    ⟨_, rfl, Nat.zero_le _, [], .newM hD, hr1.newM (o := .lst []) hD ⟨[], upd_same, .nil⟩, hc⟩, ?_⟩
  rintro i m H ⟨rfl, hil, acc, e, hr, hc⟩
  have eW : ∀ {bs H}, Ext bs1 H1 bs H -> ERel g bs H (zbD env vs) (wipe σ vs) := fun e => (er1.mono e).wipe vs
  -- back to the one cell
  have one : ∀ {bs : List Addr} {H' : Hp} {acc' : List Ev.D}, Ext (bs1 ++ [Da]) H bs H' -> HRel g bs (h1 ++ [.lst acc']) H' -> bs = bs1 ++ [Da] := fun {bs H' acc'} e r => by
    obtain ⟨⟨more, rfl, _⟩, _, _⟩ := e
    have := r.len
    simp only [List.length_append, List.length_cons, List.length_nil] at this
    have l1 := hr1.len
    have : more = [] := List.eq_nil_of_length_eq_zero (by omega)
    rw [this, List.append_nil]
  have atD : (bs1 ++ [Da])[h1.length]? = some Da := by rw [<- hr1.len, List.getElem?_append_right (Nat.le_refl _), Nat.sub_self]; rfl
  by_cases hlt : i < s.1.length
  · refine .inr ?_
    rw [List.drop_eq_getElem_cons hlt, zcE] at hc
    split at hc
    · rename_i kp
      obtain ⟨go, yl⟩ := (fd _ _ H e hr kp).1 i _ (List.getElem?_eq_getElem hlt)
      refine ⟨go, fun H' => ∃ acc, Ext bs1 H1 (bs1 ++ [Da]) H' /\ HRel g (bs1 ++ [Da]) (h1 ++ [.lst acc]) H' /\ zcE h1 s.2 k ft fe (zbD env vs) (s.1.drop (i + 1)) acc = .ok ys h1, fun H' z => ⟨_, by omega, rfl, hlt, z⟩, fun x H' y => ?_⟩
      obtain ⟨e2, hr2, rx⟩ := yl x H' y
      split at hc
      · cases hc
      · rename_i env1 hk
        refine hg x _ _ H' _ env1 _ _ _ rx (eW (e.trans e2)) hr2 hk fun σ' er' hw => ⟨by
          have z := hw vs hjs
          rw [z]
          have idem : ∀ us : List Nat, (∀ u ∈ us, u ∈ vs) -> wipe (wipe σ us) vs = wipe σ vs := by
            intro us
            induction us with
            | nil => intro _; rfl
            | cons u us ih =>
              intro hu
              show wipe ((wipe σ us).set u none) vs = _
              rw [zft (hu u List.mem_cons_self)]
              exact ih fun w hw => hu w (List.mem_cons_of_mem _ hw)
          exact idem vs fun _ z => z, ?_⟩
        refine ht σ' H' env1 _ _ _ er' hr2 ?_
        cases hft : ft env1 (h1 ++ [.lst acc]) with
        | bad => rw [hft] at hc; cases hc
        | err c fs h' => rw [hft] at hc; cases hc
        | ok b h2 =>
          rw [hft] at hc
          simp only [zci, R.bind_ok] at hc
          intro bs3 H3 b' e3 hr3 eb
          cases (show b' = b from eb)
          cases b with
          | true =>
            rw [if_pos rfl] at hc ⊢
            refine he σ' H3 env1 h2 bs3 _ (er'.mono e3) hr3 ?_
            cases hfe : fe env1 h2 with
            | bad => rw [hfe] at hc; cases hc
            | err c fs h' => rw [hfe] at hc; cases hc
            | ok y h3 =>
              rw [hfe] at hc
              simp only [zci, R.bind_ok] at hc
              split at hc
              · rename_i hh
                obtain ⟨rfl, hl⟩ := hh
                intro bs4 H4 vy e4 hr4 ry
                have eAll : Ext (bs1 ++ [Da]) H bs4 H4 := (e2.trans e3).trans e4
                have hb4 := one eAll hr4
                subst hb4
                have hcell : zaS (h1 ++ [.lst acc]) h1.length = some acc := by
                  unfold zaS
                  rw [List.getElem?_append_right (Nat.le_refl _), Nat.sub_self]
                  rfl
                obtain ⟨us, g1, g2⟩ := zbT hr4 atD hcell
                refine ⟨us, g1, by rw [<- g2.length, zcw]; exact hl, acc ++ [y], (e.trans eAll).trans (.cell hr4 atD), ?_, hc⟩
                have := hr4.cell (ho := .lst (us ++ [vy])) (o := .lst (acc ++ [y])) atD ⟨_, upd_same, (g2.append (.cons ry .nil)).mono (.cell hr4 atD)⟩
                rw [List.set_append_right _ _ (Nat.le_refl _), Nat.sub_self] at this
                exact this
              · cases hc
          | false =>
            rw [if_neg Bool.false_ne_true] at hc ⊢
            split at hc
            · rename_i hh
              subst hh
              have eAll := e2.trans e3
              have hb3 := one eAll hr3
              subst hb3
              exact ⟨acc, e.trans eAll, hr3, hc⟩
            · cases hc
    · cases hc
  · have hi : i = s.1.length := by omega
    subst hi
    rw [List.drop_length, zcE] at hc
    split at hc
    · rename_i kp
      cases hc
      exact .inl ⟨(fd _ _ H e hr kp).2, hQ Da H hD e hr⟩
    · cases hc
theorem zkX {g : G} {vs : List Nat} (hi : Sim (zmD g) g W wi fi) (hg : zl8 g t k js) (ht : Sim relB g W0 tt ft) (he : Sim (zc5 g) g W0 te fe) (hjs : ∀ j ∈ js,j ∈ vs) : Sim (zc5 g) g W (tLc wi t tt te vs) (zcU fi k ft fe vs):=
  fun σ H env h bs Q er hr p=>hi.step er hr p fun s J bs1 H1 h1 e1 hr1 er1 fd p1=>by
    rcases zd1 (hb:=h1) (gs:=s.2) (k:=k) (tt:=ft) (fe:=fe) (env:=zbD env vs) (xs:=s.1) (acc:=[]) with ⟨ys,hc⟩ | hc
    · rw [hc] at p1
      simp only [R.bind_ok] at p1
      split at p1
      · rename_i hn
        refine zeE hg ht he hjs er1 hr1 fd hc fun Da H2 hD e hr2=>?_
        have np:=hr1.out hD
        have hcell : zaS (h1 ++ [.lst ys]) h1.length = some ys:=by
          unfold zaS
          rw [List.getElem?_append_right (Nat.le_refl _),Nat.sub_self]
          rfl
        obtain ⟨us,g1,g2⟩:=zbT hr2 (n:=h1.length) (a:=Da) (by rw [<- hr1.len,List.getElem?_append_right (Nat.le_refl _),Nat.sub_self]; rfl) hcell
        exact p1 bs1 H2 _ ⟨⟨[],by simp,fun _ z=>nomatch z⟩,e.keep,e.cel⟩ (hr1.pop hr2) (.lst np g1 (g2.shrink (by rw [hr1.len]; exact hn)))
      · exact p1.elim
    · rw [hc] at p1
      exact p1.elim
theorem zjK {g : G} {vs : List Nat} (hi : Sim (zmD g) g W wi fi) (hg : zl8 g t k js) (ht : Sim relB g W0 tt ft) (he : Sim (zc5 g) g W0 te fe) (hjs : ∀ j ∈ js,j ∈ vs) : Sim (zc5 g) g W (tLc wi t tt te vs) (zfL fi k ft fe vs):=
  fun σ H env h bs Q er hr p=>hi.step er hr p fun s J bs1 H1 h1 e1 hr1 er1 fd p1=>by
    rcases zd1 (hb:=h1) (gs:=s.2) (k:=k) (tt:=ft) (fe:=fe) (env:=zbD env vs) (xs:=s.1) (acc:=[]) with ⟨ys,hc⟩ | hc
    · rw [hc] at p1
      simp only [R.bind_ok] at p1
      exact zeE hg ht he hjs er1 hr1 fd hc fun Da H2 hD e hr2=>p1 _ H2 _ e hr2 (.ref (by rw [<- hr1.len,List.getElem?_append_right (Nat.le_refl _),Nat.sub_self]; rfl))
    · rw [hc] at p1
      exact p1.elim
structure TsJ (ci : Nat -> String × List String) (X : Cx) (ifs : List Expr) (t : TT) (f : En -> Hs -> R Bool) : Prop where
  pts : PTs X ifs t
  sim : Sim relB (X.g ci) W0 t f
def zfO : En -> Hs -> R Bool:=fun _ h=>.ok true h
theorem ze4 {ci} {X : Cx} : TsJ ci X [] tYes zfO:=⟨pts_nil,fun σ H env h bs Q er hr p=>zaU.ok_ p hr rfl⟩
theorem zna {ci} {X : Cx} {c : Expr} {t : TT} {f : En -> Hs -> R Bool} (h : TJ ci X W0 c t f) : TsJ ci X [c] t f:=⟨pts_one h.pt,h.sim⟩
theorem zrb (hc : X.calm = true) (hN : X.N.Nodup) (hi : IJ ci X W tg iter wi fi) (ok : BlkOk X.N X.env.scope scope own) (hjs : ∀ j ∈ js, j ∈ own.map (·.2))
    (hg : ∀ (s : Shared) (H : Hp) (C : Addr) (cl : List (Str × Addr)) (fp : List Addr), GJ ci (X.blk s H scope (compEnvC scope cl C X.env) fp) tg t k js) (ht : ∀ (s : Shared) (H : Hp) (C : Addr) (cl : List (Str × Addr)) (fp : List Addr), TsJ ci (X.blk s H scope (compEnvC scope cl C X.env) fp) ifs tt ft)
    (he : ∀ (s : Shared) (H : Hp) (C : Addr) (cl : List (Str × Addr)) (fp : List Addr), EJ ci (X.blk s H scope (compEnvC scope cl C X.env) fp) W0 elt te fe) (hs : ∀ x, foldedSetIterable iter X.env x = pure x := by intro _; rfl) :
    EJ ci X W (.ListComp elt [⟨tg, iter, ifs, 0⟩] scope pos) (tLc wi t tt te (own.map (·.2))) (zcU fi k ft fe (own.map (·.2))) :=
  ⟨pe_lc hc hN hi.pi ok (fun s H C cl fp => (hg s H C cl fp).pg) (fun s H C cl fp => (ht s H C cl fp).pts) (fun s H C cl fp => (he s H C cl fp).pe) hs,
    zkX hi.sim (hg X.s_0 (fun _ => none) 0 [] []).sim (ht X.s_0 (fun _ => none) 0 [] []).sim (he X.s_0 (fun _ => none) 0 [] []).sim hjs⟩
end
end Ev
namespace Ev
open PySem PySem.Spec PyProof.Rows L2
structure Room (k : Nat) (A : Around) : Prop where
  r : L2.Room k A
  gd : A.guards = some []
section
variable {k j : Nat} {A : Around}
theorem Room.mono {i : Nat} (h : Room j A) (l : i <= j) : Room i A:=⟨h.r.mono l,h.gd⟩
theorem Room.un (h : Room k A) : A.units + 16 * k + 200 < cLine:=h.r.un
theorem Room.units (h : Room k A) : A.units + 64 < cLine:=h.r.units
theorem zjg {C : Addr} {us : List Value} {kw : List (Str × Value)} (e : A.guards = some []) : (A.under (.builtin "type.__call__" ⟨.ref C :: us,kw⟩)).guards = some []:=by
  obtain ⟨a,b,c,g,u⟩:=A
  cases e
  first
    | rfl
    | simp [Around.under,pushGuards,Code.guards,Code.isGuard,guardIds]
theorem Room.make (h : Room (k + 1) A) (C : Addr) (us : List Value) (kw : List (Str × Value)) : Room k (A.under (.builtin "type.__call__" ⟨.ref C :: us,kw⟩)):=⟨h.r.make C us kw,zjg h.gd⟩
end
structure FnOk (P : Program) (w : World) (K : PySem.W.Frag) (mg : Str -> Option Value) (base : Heap) (CX : CXT) (k : Nat) (f : Addr) (fd : FuncData) (ps : List Str) (sp : Sp) : Prop where
  len : ∀ vs H Q E,sp vs H Q E -> vs.length = ps.length
  run : ∀ {A : Around} {outer : List Env} {s : Shared} {H : Hp} {args : Args} {us : List Value} {vs : List V} {Q : VK} {E : XK},Room k A -> Env0 P w K mg base A outer s H -> BindsTo s fd args (ps.zip us) -> Vals vs us -> sp vs H Q E -> codeAny (model P w) A (.call (.ref f) args) (CR CX outer P w H s Q E) s
section
variable {P : Program} {w : World} {K : PySem.W.Frag} {mg : Str -> Option Value} {base : Heap} {CX : CXT} {k : Nat} {f : Addr} {fd : FuncData} {ps : List Str} {sp sp' : Sp}
theorem FnOk.imp (F : FnOk P w K mg base CX k f fd ps sp) (h : ∀ vs H Q E,sp' vs H Q E -> sp vs H Q E) : FnOk P w K mg base CX k f fd ps sp':=
  ⟨fun vs H Q E q=>F.len vs H Q E (h _ _ _ _ q),fun hr he hb hv hs=>F.run hr he hb hv (h _ _ _ _ hs)⟩
theorem zm6 {x qual : Str} {params : Arguments} {body : List Stmt} {scope : Scope} {dvs : List V} {kws : List (Str × V)} {N : List Str} (F : FunD K x qual params body scope dvs kws f fd) (S : FnScope N ps scope) (len : ∀ vs H Q E, sp vs H Q E -> vs.length = ps.length)
    (hbody : ∀ (cdv : Value) (A : Around) (outer : List Env) (s : Shared) (H : Hp) (vs : List V) (Q : VK) (E : XK), Room k (A.deeper (PyProof.Rows.envOfC qual scope s.heap.objs.size f cdv)) -> sp vs H Q E ->
      ∃ t, PSs (cxOf CX P w K mg base N qual scope f cdv A outer s H E) body t /\ t { nx := fun _ H' => Q .non H', rt := Q } (start N vs) H) : FnOk P w K mg base CX (k + 1) f fd ps sp := by
  obtain ⟨oc, od, dV, kV, doc, pm, an, cdv, ct, osl, rfl, lk, hcd, -, -⟩ := F.ex
  refine ⟨len, fun {A outer s H args us vs Q E} hr e0 hb hv hsp => StX.run_bnd (G := fun xs H2 => xs = vs /\ H2 = H) lk hcd S hr.r e0 (fun A' Ex Q' q => ?_) fun s2 H2 xs hx r2 => ?_⟩
  · exact hb _ _ _ _ (q s H vs us e0 .refl rfl (fun _ _ z => z) hv (len _ _ _ _ hsp) ⟨rfl, rfl⟩)
  · obtain ⟨rfl, rfl⟩ := hx
    exact hbody cdv A outer s2 H2 xs Q E ⟨r2, hr.gd⟩ hsp
end
section
variable {P : Program} {w : World} {K : PySem.W.Frag} {mg mb : Str -> Option Value} {s : Shared} {a : Addr} {vs : List Value}
theorem zls {H : Hp} (ha : s.heap.get? a = some { cls:=.type "list",data:=.seq vs.toArray }) (hA : ∀ b,H b ≠ none -> b = a) {b : Addr} {o : Obj} (e : s.heap.get? b = some o) (d : ∀ xs n,o.data ≠ .seq xs n) : (hidT s.heap H).get? b = some o:=by
  refine hidT_get e ?_
  by_cases z : H b = none
  · exact z
  · have q:=hA b z
    rw [q,ha] at e
    exact absurd (congrArg Obj.data (Option.some.inj e)).symm (d _ _)
theorem zgI {H : Hp} (ha : s.heap.get? a = some { cls:=.type "list",data:=.seq vs.toArray }) (hA : ∀ b,H b ≠ none -> b = a) {b : Addr} {m : Str -> Option Value} (n : s.heap.Ns b m) : (hidT s.heap H).Ns b m:=by
  obtain ⟨o,es,ep,e,d,r⟩:=n
  exact ⟨o,es,ep,zls ha hA e (fun _ _ z=>by rw [d] at z; cases z),d,r⟩
theorem law_run {k : Nat} {fa : Addr} {fd : FuncData} {x : Str} {sp : Sp} {ns : List Int} {H : Hp} (KX : K.In s.heap) (hns : s.heap.Ns mainGlobals mg) (hb : s.heap.Ns builtinsNs mb) (hbb : ∀ x : Str, x ≠ "__name__" -> mb x = bootBuiltins x) (hlim : s.heap.NoLimit) (hg : s.gens = #[])
    (ha : s.heap.get? a = some { cls := .type "list", data := .seq vs.toArray }) (hr : Room k callerA) (F : ∀ base : Heap, K.In base -> base.Ns mainGlobals mg -> FnOk P w K mg base (L2.CX P w) k fa fd [x] sp) (hbind : ∀ (s : Shared) (u : Value), BindsTo s fd ⟨[u], []⟩ [(x, u)])
    (hO : Only H) (hsp : sp [.ref a] H (fun v _ => v = .bl true) fun _ _ _ => False) (hok : HOk P w H s.heap) (hA : ∀ b, H b ≠ none -> b = a) (hK : H a ≠ none -> K.lookup a = none) :
    codeAny (model P w) callerA (.call (.ref fa) ⟨[.ref a], []⟩) (fun r s' => r = .ok (.ret (.bool true)) /\ OldK s.heap s'.heap /\ s'.os = s.os /\ AllBare s'.gens) s := by
  have kb : K.In (hidT s.heap H) := fun b o e => hidT_get (KX b o e) (by
    by_cases z : H b = none
    · exact z
    · have q := hA b z
      subst q
      rw [hK z] at e
      cases e)
  obtain ⟨mc, l1, l2⟩ := hlim
  have md : Mod K mg (hidT s.heap H) := ⟨kb, zgI ha hA hns, ⟨mb, zgI ha hA hb, hbb⟩, ⟨mc, zgI ha hA l1, l2⟩⟩
  have nil : ∀ {b : Addr}, b ∉ frs ([] : List Env) := fun {b} z => by cases z
  have e0 : Env0 P w K mg (hidT s.heap H) callerA [] s H := { frames := rfl, mod := md, bs := fun b o e => of_hidT e, bsz := Nat.le_of_eq (hidT_size _ _), funs := trivial, frf := fun b z => absurd z nil, hok := hok, bare := .of_eq hg }
  refine codeAny_mono ((F _ kb (zgI ha hA hns)).run (us := [.ref a]) (vs := [.ref a]) hr e0 (hbind s (.ref a)) (.cons rfl .nil) hsp) fun r s' z => ?_
  match r, z with
  | .error e, z => obtain ⟨_, _, _, _, _, _, _, _, _, _, _, _, z⟩ := z; exact z.elim
  | .ok .next, z => exact z.elim
  | .ok .brk, z => exact z.elim
  | .ok .cont, z => exact z.elim
  | .ok (.ret u), ⟨v, H', o1, o2, un, ok', rv, q⟩ =>
    obtain rfl : v = .bl true := q
    obtain rfl : u = Value.bool true := rv
    refine ⟨rfl, OldK.of_keep fun b o e => ?_, o1, o2⟩
    by_cases z : H b = none
    · exact un.keep b o e z nil (by simp)
    · rcases hO b with z' | ⟨ob, xs, z'⟩
      · exact absurd z' z
      · have g1 := (hok b _ z').1
        have g2 := (ok' b _ (un.frzs b ob _ z')).1
        rw [e] at g1
        cases g1
        exact g2
theorem law_callG {k : Nat} {fa : Addr} {fd : FuncData} {x : Str} {sp : Sp} {ns : List Int} (KX : K.In s.heap) (hns : s.heap.Ns mainGlobals mg) (hb : s.heap.Ns builtinsNs mb) (hbb : ∀ x : Str, x ≠ "__name__" -> mb x = bootBuiltins x) (hlim : s.heap.NoLimit) (hg : s.gens = #[])
    (ha : s.heap.get? a = some { cls := .type "list", data := .seq vs.toArray }) (hi : IntsAre vs ns) (hl : ns.length <= sizeLine) (hr : Room k callerA) (F : ∀ base : Heap, K.In base -> base.Ns mainGlobals mg -> FnOk P w K mg base (L2.CX P w) k fa fd [x] sp) (hbind : ∀ (s : Shared) (u : Value), BindsTo s fd ⟨[u], []⟩ [(x, u)])
    (hsp : ∀ H : Hp, Only H -> SqL K H a (ns.map V.int) -> sp [.ref a] H (fun v _ => v = .bl true) fun _ _ _ => False) :
    codeAny (model P w) callerA (.call (.ref fa) ⟨[.ref a], []⟩) (fun r s' => r = .ok (.ret (.bool true)) /\ OldK s.heap s'.heap /\ s'.os = s.os /\ AllBare s'.gens) s := by
  have rv := vals_ints hi
  have lv := hi.length
  by_cases hk : K.lookup a = none
  · let H : Hp := upd (fun _ => none) a (.frz { cls := .type "list", data := .seq vs.toArray } (.lst (ns.map V.int)))
    have hn : ∀ b, b ≠ a -> H b = none := fun b z => upd_ne z
    have hO : Only H := fun b => by
      by_cases z : b = a
      · rw [z]; exact .inr ⟨_, _, upd_same⟩
      · exact .inl (hn b z)
    refine law_run (H := H) (ns := ns) KX hns hb hbb hlim hg ha hr F hbind hO (hsp H hO (.inl (.inr ⟨_, upd_same⟩))) (fun b u z => ?_) (fun b z => ?_) fun _ => hk
    · by_cases q : b = a
      · subst q
        have e := z.symm.trans upd_same
        cases e
        exact ⟨ha, by rw [List.length_map]; exact hl, vs, _, rv, ha⟩
      · rw [hn b q] at z
        cases z
    · by_cases q : b = a
      · exact q
      · exact absurd (hn b q) z
  · obtain ⟨o, ho⟩ := Option.ne_none_iff_exists'.mp hk
    have e := (KX a o ho).symm.trans ha
    cases e
    have hO : Only (fun _ => none : Hp) := fun _ => .inl rfl
    exact law_run (H := fun _ => none) (ns := ns) KX hns hb hbb hlim hg ha hr F hbind hO (hsp _ hO (.inr ⟨_, vs.toArray, _, ho, rfl, rfl, rfl, by rw [List.size_toArray, lv]; exact hl, by simpa using rv⟩)) (fun b u z => nomatch z) (fun b z => absurd rfl z) fun z => absurd rfl z
end
end Ev
namespace Ev
open PySem L2
abbrev VV2:=List V × List V
abbrev TC:=St -> Hp -> (VV2 -> Hp -> Prop) -> Prop
abbrev DD2:=List D × List D
abbrev zho (g : G) : List Addr -> Hp -> DD2 -> VV2 -> Prop:=fun bs H d v=>Reps g bs H d.1 v.1 /\ Reps g bs H d.2 v.2
def zoK (X : Cx) (es : List Expr) (kws : List Keyword) (ks : List Str) (t : TC) : Prop:=
  ∀ (pos : Pos) (fv : Value) (first : List Value) (pins : List (Addr × Obj)) (s : Shared) (σ : St) (H : Hp) (P : VV2 -> Hp -> Prop) (Qv : Value -> Shared -> Prop),PySem.W.keepIn X.K fv = true -> Inv X pins σ H s -> t σ H P ->
    (∀ us ws vs zs s1 H1,Inv X pins σ H1 s1 -> Vals vs us -> Vals zs ws -> zs.length = ks.length -> P (vs,zs) H1 -> wpAny (model X.prog X.w) X.A (call fv (first ++ us) (ks.zip ws)) Qv X.xe s1) ->
    wpAny (model X.prog X.w) X.A (callWith pos fv first (backTo pos (starEach es X.env)) (backToKw pos (keywordEach kws X.env))) Qv X.xe s
structure CAJ (ci : Nat -> String × List String) (X : Cx) (W : WX) (es : List Expr) (kws : List Keyword) (ks : List Str) (t : TC) (f : En -> Hs -> R DD2) : Prop where
  p : zoK X es kws ks t
  sim : Sim (zho (X.g ci)) (X.g ci) W t f
def zov : En -> Hs -> R DD2:=fun _ h=>.ok ([],[]) h
def zbM (fa : En -> Hs -> R (List D)) : En -> Hs -> R DD2:=fun env h=>(fa env h).bind fun xs h1=>.ok (xs,[]) h1
def cKw (n : Nat) (fa fk : En -> Hs -> R (List D)) : En -> Hs -> R DD2:=fun env h=>(fa env h).bind fun xs h1=>(fk env h1).bind fun ys h2=>if ys.length = n then .ok (xs,ys) h2 else .bad
def zq4 (fe : En -> Hs -> R D) : En -> Hs -> R DD2:=fun env h=>(fe env h).bind fun x h1=>match zhj h1 x with
  | some xs=>.ok (xs,[]) h1
  | none=>.bad
structure KwJ (ci : Nat -> String × List String) (X : Cx) (W : WX) (kws : List Keyword) (t : TA) (f : En -> Hs -> R (List D)) : Prop where
  pk : PK X kws t
  sim : Sim (zk6 (X.g ci)) (X.g ci) W t f
section
variable {ci : Nat -> String × List String} {X : Cx} {W : WX} {e : Expr} {es : List Expr} {kws : List Keyword} {t tk : TA} {te : TE} {fe : En -> Hs -> R D} {fa fk : En -> Hs -> R (List D)} {kpos p : Pos} {nm : Option Str} {ks : List Str}
theorem znq : KwJ ci X W [] tNil zaw:=⟨pk_nil,fun σ H env h bs Q er hr p=>zaU.ok_ p hr .nil⟩
theorem zi2 (ha : EJ ci X W e te fe) (hr : KwJ ci X W kws t fa) : KwJ ci X W (⟨nm,e,kpos⟩ :: kws) (tCons te t) (zac fe fa):=
  ⟨pk_cons ha.pe hr.pk,fun σ H env h bs Q er hr' p=>ha.sim.step er hr' p fun x vx bs1 H1 h1 e1 hr1 er1 rx p1=>hr.sim.step er1 hr1 p1 fun xs vs bs2 H2 h2 e2 hr2 er2 rs p2=>zaU.ok_ p2 hr2 (.cons (rx.mono e2) rs)⟩
theorem zkK : CAJ ci X W [] [] [] (fun _ H Q=>Q ([],[]) H) zov:=
  ⟨fun pos fv first pins s σ H P Qv hk I h k=>PySem.W.callWith_K0 I.kIn hk (k [] [] [] [] s H I .nil .nil rfl h),fun σ H env h bs Q er hr p=>zaU.ok_ p hr ⟨.nil,.nil⟩⟩
theorem zam (ha : AJ ci X W (e :: es) t fa) (he : starEach (e :: es) X.env = (false, eval e X.env) :: starEach es X.env := by rfl) (hpl : ∀ pos, (backTo pos (starEach es X.env)).any (·.1) = false := by intro _; rfl) :
    CAJ ci X W (e :: es) [] [] (fun σ H Q => t σ H fun vs H1 => Q (vs, []) H1) (zbM fa) :=
  ⟨fun pos fv first pins s σ H P Qv hk I h k => PySem.W.callWith_K (h₀ := X.base) I.ok.mod.kin hk (thn (ha.pa.run pos pins s σ H _ I h) fun us s1 ⟨vs, H1, I1, r, q⟩ => ⟨I1.kIn, k us [] vs [] s1 H1 I1 r .nil rfl q⟩) he (hpl pos),
    fun σ H env h bs Q er hr p => ha.sim.step er hr p fun xs vs bs1 H1 h1 e1 hr1 er1 rs p1 => zaU.ok_ p1 hr1 ⟨rs, .nil⟩⟩
theorem zlF (ha : AJ ci X W (e :: es) t fa) (he : starEach (e :: es) X.env = (false, eval e X.env) :: starEach es X.env := by rfl) (hst : ∀ pos, (backTo pos (starEach es X.env)).any (·.1) = true := by intro _; rfl) :
    CAJ ci X W (e :: es) [] [] (fun σ H Q => t σ H fun vs H1 => Q (vs, []) H1) (zbM fa) :=
  ⟨fun pos fv first pins s σ H P Qv hk I h k => PySem.W.callWith_S2 (h₀ := X.base) I.ok.mod.kin hk (thn (ha.pa.run pos pins s σ H _ I h) fun us s1 ⟨vs, H1, I1, r, q⟩ => ⟨I1.kIn, k us [] vs [] s1 H1 I1 r .nil rfl q⟩) he (hst pos),
    fun σ H env h bs Q er hr p => ha.sim.step er hr p fun xs vs bs1 H1 h1 e1 hr1 er1 rs p1 => zaU.ok_ p1 hr1 ⟨rs, .nil⟩⟩
theorem zoj (ha : AJ ci X W (e :: es) t fa) (hkw : KwJ ci X W kws tk fk) (hall : ∀ pos, (backToKw pos (keywordEach kws X.env)).all (·.1.isSome) = true := by intro _; rfl) (hks : ∀ pos, (backToKw pos (keywordEach kws X.env)).filterMap (·.1) = ks := by intro _; rfl)
    (he : starEach (e :: es) X.env = (false, eval e X.env) :: starEach es X.env := by rfl) (hpl : ∀ pos, ((backTo pos (starEach (e :: es) X.env)).any (·.1) || (backToKw pos (keywordEach kws X.env)).any (·.1.isNone)) = false := by intro _; rfl) :
    CAJ ci X W (e :: es) kws ks (fun σ H Q => t σ H fun vs H1 => tk σ H1 fun zs H2 => zs.length = ks.length /\ Q (vs, zs) H2) (cKw ks.length fa fk) :=
  ⟨fun pos fv first pins s σ H P Qv hk I h k => PySem.W.callWith_KW (h₀ := X.base) I.ok.mod.kin hk (hall pos) (thn (ha.pa.run pos pins s σ H _ I h) fun us s1 ⟨vs, H1, I1, r, q⟩ => thn (hkw.pk.run pos pins s1 σ H1 _ I1 q) fun ws s2 ⟨zs, H2, I2, rz, l2, q2⟩ => ⟨I2.kIn, by
      rw [hks pos]
      exact k us ws vs zs s2 H2 I2 r rz l2 q2⟩) (hpl pos) he,
    fun σ H env h bs Q er hr p => ha.sim.step er hr p fun xs vs bs1 H1 h1 e1 hr1 er1 rs p1 => hkw.sim.step er1 hr1 p1 fun ys zs bs2 H2 h2 e2 hr2 er2 rz p2 => by
      split at p2
      · rename_i hl
        exact ⟨by rw [<- rz.length]; exact hl, zaU.ok_ p2 hr2 ⟨rs.mono e2, rz⟩⟩
      · exact p2.elim⟩
end
def spG (g : G) (n : Nat) (f : List D -> Hs -> R D) : Sp:=fun vs H Q E=>∃ bs h ds,ds.length = n /\ HRel g bs h H /\ Reps g bs H ds vs /\ zaU (zc5 g) g (fun C d H'=>E C d H') bs H (f ds h) Q
def zbK (m : Nat) (fb : En -> Hs -> S) : List D -> Hs -> R D:=fun ds h=>match fb (ds.map some ++ List.replicate (m - ds.length) none) h with
  | .nx _ h'=>.ok .non h'
  | .ret d h'=>.ok d h'
  | .err c fs _ h'=>.err c fs h'
  | _=>.bad
theorem ERel.start {g : G} {bs : List Addr} {H : Hp} {N : List Str} {ds : List D} {vs : List V} (r : Reps g bs H ds vs) : ERel g bs H (ds.map some ++ List.replicate (N.length - ds.length) none) (start N vs):=by
  have hl:=r.length
  refine ⟨by unfold L2.start; simp [hl],fun i d hi=>?_⟩
  by_cases hlt : i < ds.length
  · rw [List.getElem?_append_left (by simpa using hlt),List.getElem?_map] at hi
    cases hd : ds[i]? with
    | none=>rw [hd] at hi; cases hi
    | some d' =>
      rw [hd] at hi
      cases hi
      obtain ⟨v,h1,h2⟩:=r.get hd
      refine ⟨v,?_,h2⟩
      unfold L2.start
      rw [List.getElem?_append_left (by rw [List.length_map,<- hl]; exact hlt),List.getElem?_map,h1]
      rfl
  · rw [List.getElem?_append_right (by simpa using hlt),List.getElem?_replicate] at hi
    split at hi <;> cases hi
section
variable {ci : Nat -> String × List String} {P : Program} {w : World} {K : PySem.W.Frag} {mg : Str -> Option Value} {base : Heap} {x qual : Str} {st : Stmt} {f : Addr} {fd : FuncData} {N ps : List Str} {k : Nat} {fb : En -> Hs -> S} {dvs : List V} {kws : List (Str × V)}
abbrev zbJ (P : Program) (w : World) (K : PySem.W.Frag) (mg : Str -> Option Value) (base : Heap) (N : List Str) (qual : Str) (st : Stmt) (f : Addr) (cdv : Value) (A : Around) (outer : List Env) (s : Shared) (H : Hp) (E : XK) : Cx:=cxOf (L2.CX P w) P w K mg base N qual (defScope st) f cdv A outer s H E
abbrev zdz (E : XK) : WX:=fun C d _ H=>E C d H
theorem zhC {g : G} {E : XK} {bs : List Addr} {h : Hs} {H : Hp} {ds : List D} {vs : List V} {Q : VK} {t : TS} {N : List Str} (hs : zjr g (zdz E) t fb) (hr : HRel g bs h H) (r : Reps g bs H ds vs) (p : zaU (zc5 g) g (fun C d H' => E C d H') bs H (zbK N.length fb ds h) Q) :
    t { nx := fun _ H' => Q .non H', rt := Q } (start N vs) H := by
  refine hs _ H _ h bs _ (ERel.start r) hr ?_
  unfold zbK at p
  cases hf : fb (ds.map some ++ List.replicate (N.length - ds.length) none) h with
  | nx env h' => rw [hf] at p; exact fun bs' H' σ' e r _ => p bs' H' .non e r .non
  | ret d h' => rw [hf] at p; exact p
  | brk env h' => rw [hf] at p; exact p.elim
  | ct env h' => rw [hf] at p; exact p.elim
  | err c fs env h' => rw [hf] at p; exact fun C dd bs' H' σ' e r _ z => p C dd bs' H' e r z
  | bad => rw [hf] at p; exact p
theorem za5 (F : FunD K x qual (defArgs st) (defBody st) (defScope st) dvs kws f fd) (S : FnScope N ps (defScope st))
    (hb : ∀ (cdv : Value) (A : Around) (outer : List Env) (s : Shared) (H : Hp) (E : XK), Room k (A.deeper (PyProof.Rows.envOfC qual (defScope st) s.heap.objs.size f cdv)) -> ∃ t, SsJ ci (zbJ P w K mg base N qual st f cdv A outer s H E) (zdz E) (defBody st) t fb) :
    FnOk P w K mg base (L2.CX P w) (k + 1) f fd ps (spG ⟨K, mg, ci⟩ ps.length (zbK N.length fb)) := by
  refine zm6 F S (fun vs H Q E h => ?_) (fun cdv A outer s H vs Q E hr h => ?_)
  · obtain ⟨bs, h, ds, hl, _, r, _⟩ := h
    rw [<- r.length, hl]
  · obtain ⟨bs, hh, ds, hl, hrl, r, p⟩ := h
    obtain ⟨t, hj⟩ := hb cdv A outer s H E hr
    exact ⟨t, hj.pss, zhC hj.sim hrl r p⟩
end
structure FnC (ci : Nat -> String × List String) (P : Program) (w : World) (K : PySem.W.Frag) (mg : Str -> Option Value) (base : Heap) (k : Nat) (f : Addr) (ks : List Str) (F : List D -> List D -> Hs -> R D) : Prop where
  run : ∀ (A : Around) (outer : List Env) (s : Shared) (H : Hp) (us ws : List Value) (vs zs : List V) (Q : VK) (E : XK),Room k A -> Env0 P w K mg base A outer s H -> Vals vs us -> Vals zs ws -> zs.length = ks.length ->
    (∃ bs h ds es,HRel ⟨K,mg,ci⟩ bs h H /\ Reps ⟨K,mg,ci⟩ bs H ds vs /\ Reps ⟨K,mg,ci⟩ bs H es zs /\ zaU (zc5 ⟨K,mg,ci⟩) ⟨K,mg,ci⟩ (fun C d H'=>E C d H') bs H (F ds es h) Q) ->
    codeAny (model P w) A (.call (.ref f) ⟨us,ks.zip ws⟩) (CR (L2.CX P w) outer P w H s Q E) s
section
variable {ci : Nat -> String × List String} {P : Program} {w : World} {K : PySem.W.Frag} {mg : Str -> Option Value} {base : Heap} {f : Addr} {fd : FuncData} {ps ks : List Str} {j k n : Nat} {F F' : List D -> List D -> Hs -> R D} {G : List D -> Hs -> R D}
def za2 (n : Nat) (G : List D -> Hs -> R D) : List D -> List D -> Hs -> R D:=fun ds _ h=>if ds.length = n then G ds h else .bad
theorem FnC.pos (h : FnOk P w K mg base (L2.CX P w) k f fd ps (spG ⟨K,mg,ci⟩ n G)) (hb : Binds K fd ps []) : FnC ci P w K mg base k f [] (za2 n G):=by
  refine ⟨fun A outer s H us ws vs zs Q E hr e0 r rz hz ⟨bs,hh,ds,es,h1,h2,h3,p⟩=>?_⟩
  unfold za2 at p
  split at p
  · rename_i hl
    have sp : spG ⟨K,mg,ci⟩ n G vs H Q E:=⟨bs,hh,ds,hl,h1,h2,p⟩
    have hlen:=h.len _ _ _ _ sp
    have KX : K.In s.heap:=e0.mod.kin.keeps fun b o e=>(e0.bs b o e).1
    have b:=hb s us KX (by rw [List.append_nil,<- r.length]; exact hlen)
    rw [List.append_nil] at b
    exact h.run hr e0 b r sp
  · exact p.elim
def kwF (n m : Nat) (gD : List D -> List D -> List D) (G : List D -> Hs -> R D) : List D -> List D -> Hs -> R D:=fun ds es h=>if ds.length = n /\ es.length = m then G (gD ds es) h else .bad
theorem FnC.kw {gv : List Value -> List Value -> List Value} {gV : List V -> List V -> List V} {gD : List D -> List D -> List D} (np : Nat) (h : FnOk P w K mg base (L2.CX P w) k f fd ps (spG ⟨K, mg, ci⟩ n G)) (hb : KBn K fd ps np ks gv gV)
    (hg : ∀ {bs : List Addr} {H : Hp} {ds es : List D} {vs zs : List V}, Reps ⟨K, mg, ci⟩ bs H ds vs -> Reps ⟨K, mg, ci⟩ bs H es zs -> ds.length = np -> es.length = ks.length -> Reps ⟨K, mg, ci⟩ bs H (gD ds es) (gV vs zs) /\ (gD ds es).length = n) : FnC ci P w K mg base k f ks (kwF np ks.length gD G) := by
  refine ⟨fun A outer s H us ws vs zs Q E hr e0 r rz hz ⟨bs, hh, ds, es, h1, h2, h3, p⟩ => ?_⟩
  unfold kwF at p
  split at p
  · rename_i hl
    obtain ⟨g1, g2⟩ := hg h2 h3 hl.1 hl.2
    have KX : K.In s.heap := e0.mod.kin.keeps fun b o e => (e0.bs b o e).1
    exact h.run hr e0 (hb.to s us ws KX (by rw [<- r.length, <- h2.length]; exact hl.1) (by rw [<- rz.length]; exact hz)) (hb.rel r rz) ⟨bs, hh, _, g2, h1, g1, p⟩
  · exact p.elim
def zgg (n : Nat) (G : List D -> Hs -> R D) : List D -> List D -> Hs -> R D:=fun ds _ h=>if n <= ds.length /\ (ds.drop n).length <= big then G (ds.take n ++ [.tup (ds.drop n)]) h else .bad
end
section
variable {ci : Nat -> String × List String} {X : Cx} {W : WX} {k : Nat} {f C : Addr} {x m : Str} {p pos apos : Pos} {e o : Expr} {es : List Expr} {kws : List Keyword} {ks : List Str} {t : TC} {to : TE} {fc : En -> Hs -> R DD2} {fo : En -> Hs -> R D} {F : List D -> List D -> Hs -> R D}
def zpL (g : G) (E : XK) (F : List D -> List D -> Hs -> R D) (vs zs : List V) (H : Hp) (Q : VK) : Prop:=∃ bs h ds es,HRel g bs h H /\ Reps g bs H ds vs /\ Reps g bs H es zs /\ zaU (zc5 g) g (fun C d H'=>E C d H') bs H (F ds es h) Q
theorem zqB (hF : FnC ci X.prog X.w X.K X.mg X.base k f ks F) (hr : Room k X.A) (tk : Takes X W) {pins : List (Addr × Obj)} {σ : St} {H : Hp} {s : Shared} {Q : VK} {us ws : List Value} {vs zs : List V} (I : Inv X pins σ H s) (r : Vals vs us) (rz : Vals zs ws) (hz : zs.length = ks.length)
    (h : zpL (X.g ci) (WE W σ) F vs zs H Q) : wpAny (model X.prog X.w) X.A (call (.ref f) us (ks.zip ws)) (EP X pins σ Q) X.xe s := by
  refine wpAny_call (codeAny_mono (hF.run X.A X.stack s H us ws vs zs Q (WE W σ) hr I.env0 r rz hz h) fun r s' hq => ?_)
  cases r with
  | error e => exact passAt tk σ pins H s e s' I hq
  | ok fl =>
    cases fl with
    | ret u => exact I.after hq
    | next => exact False.elim hq
    | brk => exact False.elim hq
    | cont => exact False.elim hq
def zl4 (g : G) (W : WX) (F : List D -> List D -> Hs -> R D) (t : TC) : TE:=fun σ H Q=>t σ H fun v H1=>zpL g (WE W σ) F v.1 v.2 H1 Q
def zaq (F : List D -> List D -> Hs -> R D) (fc : En -> Hs -> R DD2) : En -> Hs -> R D:=fun env h=>(fc env h).bind fun d h1=>F d.1 d.2 h1
theorem zm9 (hF : FnC ci X.prog X.w X.K X.mg X.base k f ks F) (hr : Room k X.A) (tk : Takes X W) (hg : Gl X x) (hm : X.mg x = some (.ref f)) (hk : PySem.W.keepIn X.K (.ref f) = true) (ha : CAJ ci X W es kws ks t fc) (hdb : (x == ("__debug__" : Str)) = false := by decide) :
    EJ ci X W (.Call (.Name x p) es kws pos) (zl4 (X.g ci) W F t) (zaq F fc) :=
  ⟨⟨fun pins s σ H Q I h => wpAny_Call_Name_kw (ld_glob I hg hm (ha.p pos (.ref f) [] pins s σ H _ _ hk I h fun us ws vs zs s1 H1 I1 r rz hz q => zqB hF hr tk I1 r rz hz q) hdb)⟩,
    fun σ H env h bs Q er hr' p => ha.sim.step er hr' p fun d v bs1 H1 h1 e1 hr1 er1 rd p1 => ⟨bs1, h1, d.1, d.2, hr1, rd.1, rd.2, p1⟩⟩
theorem run_mk (M : Mk X.K C f) (hF : FnC ci X.prog X.w X.K X.mg X.base k f ks F) (hr : Room (k + 1) X.A) (tk : Takes X W) {pins : List (Addr × Obj)} {σ : St} {H : Hp} {s : Shared} {Q : VK} {us ws : List Value} {vs zs : List V} (I : Inv X pins σ H s) (r : Vals vs us) (rz : Vals zs ws) (hz : zs.length = ks.length)
    (h : ∀ x dx, H x = none -> H dx = none -> dx ≠ x -> zpL (X.g ci) (WE W σ) F (.ref x :: vs) zs (upd (upd H dx (.own x)) x (.ins C dx [])) (fun v H2 => v = .non /\ Q (.ref x) H2)) :
    wpAny (model X.prog X.w) X.A (call (.ref C) us (ks.zip ws)) (EP X pins σ Q) X.xe s := by
  have hq := h (s.heap.objs.size + 1) s.heap.objs.size (I.hok.fresh (Nat.le_succ _)) (I.hok.fresh (Nat.le_refl _)) (Nat.ne_of_lt (Nat.lt_succ_self _))
  have I2 := Inv.made (C := C) I
  have r1 : Vals (V.ref (s.heap.objs.size + 1) :: vs) (Value.ref (s.heap.objs.size + 1) :: us) := .cons rfl r
  refine wpAny_call (make_map (f := f) I.kIn M.makes M.init (beq_iff_eq.mp M.fn) (codeAny_mono (hF.run _ X.stack _ _ (Value.ref (s.heap.objs.size + 1) :: us) ws _ zs _ (WE W σ) (hr.make C us (ks.zip ws))
    (I2.env0.make C us (ks.zip ws)) r1 rz hz hq) fun r s' hq' => ?_))
  cases r with
  | error e => exact passAt tk σ pins _ _ e s' I2 hq'
  | ok fl =>
    cases fl with
    | ret u =>
      obtain ⟨v, H', I3, rv, ev, q3⟩ := I2.after hq'
      subst ev
      exact ⟨rv, ⟨V.ref (s.heap.objs.size + 1), H', I3, rfl, q3⟩⟩
    | next => exact False.elim hq'
    | brk => exact False.elim hq'
    | cont => exact False.elim hq'
def zkg (g : G) (W : WX) (c : Nat) (F : List D -> List D -> Hs -> R D) (t : TC) : TE:=fun σ H Q=>t σ H fun v H1=>∃ C,zhc g c C /\ ∀ x dx,H1 x = none -> H1 dx = none -> dx ≠ x ->
  zpL g (WE W σ) F (.ref x :: v.1) v.2 (upd (upd H1 dx (.own x)) x (.ins C dx [])) (fun y H2=>y = .non /\ Q (.ref x) H2)
theorem zlM {c : Nat} (M : Mk X.K C f) (hF : FnC ci X.prog X.w X.K X.mg X.base k f ks F) (hr : Room (k + 1) X.A) (tk : Takes X W) (hg : Gl X x) (hm : X.mg x = some (.ref C)) (hx : x = Str.ofString (ci c).1) (ha : zoK X es kws ks t) (hdb : (x == ("__debug__" : Str)) = false := by decide) :
    PE X (.Call (.Name x p) es kws pos) (zkg (X.g ci) W c F t) :=
  ⟨fun pins s σ H Q I h => wpAny_Call_Name_kw (ld_glob I hg hm (ha pos (.ref C) [] pins s σ H _ _ M.kp I h fun us ws vs zs s1 H1 I1 r rz hz ⟨C', hC, q⟩ => by
    have hC' : X.mg (Str.ofString (ci c).1) = some (.ref C') := hC
    rw [<- hx, hm] at hC'
    cases hC'
    exact run_mk M hF hr tk I1 r rz hz q) hdb)⟩
def zn0 (c : Nat) (F : List D -> List D -> Hs -> R D) (fc : En -> Hs -> R DD2) : En -> Hs -> R D:=fun env h=>(fc env h).bind fun d h1=>(F (.ref h1.length :: d.1) d.2 (h1 ++ [.ins c []])).bind fun v h2=>match v with
  | .non=>.ok (.ref h1.length) h2
  | _=>.bad
open Classical in
def zeW (c : Nat) (F : List D -> List D -> Hs -> R D) (fc : En -> Hs -> R DD2) : En -> Hs -> R D:=fun env h=>(fc env h).bind fun d h1=>(F (.ref h1.length :: d.1) d.2 (h1 ++ [.ins c []])).bind fun v h2=>match v with
  | .non=>match h2[h1.length]? with
    | some (.ins c' fs)=>if h2 = h1 ++ [.ins c' fs] /\ D.nrs h1.length fs = true then .ok (.obj c' fs) h1 else .bad
    | _=>.bad
  | _=>.bad
theorem zmZ {g : G} {bs : List Addr} {h : Hs} {H : Hp} {x dx : Addr} {C : Addr} {c : Nat} (hr : HRel g bs h H) (hx : H x = none) (hd : H dx = none) (ne : dx ≠ x) (hc : zhc g c C) :
    Ext bs H (bs ++ [x]) (upd (upd H dx (.own x)) x (.ins C dx [])) /\ HRel g (bs ++ [x]) (h ++ [.ins c []]) (upd (upd H dx (.own x)) x (.ins C dx [])) := by
  have hx' : upd H dx (.own x) x = none := by rw [upd_ne (Ne.symm ne)]; exact hx
  exact ⟨(Ext.new hd).trans (.newM hx'), (hr.new hd).newM hx' ⟨C, dx, [], hc, upd_same, rfl, .nil⟩⟩
theorem zlm {g : G} {c : Nat} (hc : zhc g c C) (ha : Sim (zho g) g W t fc) : Sim (zc5 g) g W (zkg g W c F t) (zeW c F fc):=
  fun σ H env h bs Q er hr' p=>ha.step er hr' p fun d v bs1 H1 h1 e1 hr1 er1 rd p1=>⟨C,hc,fun x dx hx hd ne=>by
    obtain ⟨e2,hr2⟩:=zmZ hr1 hx hd ne hc
    have atx : (bs1 ++ [x])[h1.length]? = some x:=by rw [<- hr1.len,List.getElem?_append_right (Nat.le_refl _),Nat.sub_self]; rfl
    refine ⟨bs1 ++ [x],h1 ++ [.ins c []],.ref h1.length :: d.1,d.2,hr2,.cons (.ref atx) (rd.1.mono e2),rd.2.mono e2,?_⟩
    have p1' : zaU (zc5 g) g (fun C d H'=>W C d σ H') bs1 H1 ((F (.ref h1.length :: d.1) d.2 (h1 ++ [.ins c []])).bind _) Q:=p1
    cases hf : F (.ref h1.length :: d.1) d.2 (h1 ++ [.ins c []]) with
    | bad=>rw [hf] at p1'; exact p1'
    | err c fs h'=>rw [hf] at p1'; exact fun C dd bs' H' e=>p1' C dd bs' H' (e2.trans e)
    | ok y h2 =>
      rw [hf] at p1'
      simp only [R.bind_ok] at p1'
      intro bs3 H3 vy e3 hr3 ry
      cases ry with
      | non =>
        refine ⟨rfl,?_⟩
        dsimp only at p1'
        split at p1'
        · rename_i c' fs hi
          split at p1'
          · rename_i hh
            obtain ⟨rfl,hn⟩:=hh
            obtain ⟨⟨more,rfl,_⟩,_,_⟩:=id e3
            have hl:=hr3.len
            simp only [List.length_append,List.length_cons,List.length_nil,hr1.len] at hl
            obtain rfl : more = []:=List.eq_nil_of_length_eq_zero (by omega)
            rw [List.append_nil] at hr3 e3
            obtain ⟨a',g1,C',dx',fvs,g2,g3,g4,g5⟩:=hr3.at_ _ _ hi
            rw [atx] at g1
            cases g1
            have eAll:=e2.trans e3
            exact p1' bs1 H3 _ ⟨⟨[],by simp,fun _ z=>nomatch z⟩,eAll.keep,eAll.cel⟩ (hr1.pop hr3) (.obj (hr1.out hx) g2 g3 g4 (g5.shrink (by rw [hr1.len]; exact hn)))
          · exact p1'.elim
        · exact p1'.elim
      | _=>exact p1'.elim⟩
def zhw (ci : Nat -> String × List String) (P : Program) (w : World) (K : PySem.W.Frag) (mg : Str -> Option Value) (base : Heap) (c k : Nat) (ks : List Str) (F : List D -> List D -> Hs -> R D) : Prop:=
  ∃ C f,mg (Str.ofString (ci c).1) = some (.ref C) /\ Mk K C f /\ FnC ci P w K mg base k f ks F
theorem zgH (c : Nat) (h : zhw ci X.prog X.w X.K X.mg X.base c k ks F) (hr : Room (k + 1) X.A) (tk : Takes X W) (ha : CAJ ci X W es kws ks t fc) (hx : x = Str.ofString (ci c).1 := by rfl) (hg : Gl X x := by rfl) (hdb : (x == ("__debug__" : Str)) = false := by decide) :
    EJ ci X W (.Call (.Name x p) es kws pos) (zkg (X.g ci) W c F t) (zeW c F fc) := by
  obtain ⟨C, f, h1, h2, h3⟩ := h
  exact ⟨zlM h2 h3 hr tk hg (by rw [hx]; exact h1) hx ha.p hdb, zlm h1 ha.sim⟩
def zbh (ci : Nat -> String × List String) (P : Program) (w : World) (K : PySem.W.Frag) (mg : Str -> Option Value) (base : Heap) (x : Str) (k : Nat) (ks : List Str) (F : List D -> List D -> Hs -> R D) : Prop:=
  ∃ f,mg x = some (.ref f) /\ PySem.W.keepIn K (.ref f) = true /\ FnC ci P w K mg base k f ks F
theorem za6 (h : zbh ci X.prog X.w X.K X.mg X.base x k ks F) (hr : Room k X.A) (tk : Takes X W) (ha : CAJ ci X W es kws ks t fc) (hg : Gl X x := by rfl) (hdb : (x == ("__debug__" : Str)) = false := by decide) :
    EJ ci X W (.Call (.Name x p) es kws pos) (zl4 (X.g ci) W F t) (zaq F fc) := by
  obtain ⟨f, h1, h2, h3⟩ := h
  exact zm9 h3 hr tk hg h1 h2 ha hdb
def zks (c : Nat) (x : D) (h : Hs) : Bool:=match x with
  | .obj c' _=>decide (c' = c)
  | .ref n=>match h[n]? with
    | some (.ins c' _)=>decide (c' = c)
    | _=>false
  | _=>false
def zru (c : Nat) (F : List D -> List D -> Hs -> R D) (fo : En -> Hs -> R D) (fc : En -> Hs -> R DD2) : En -> Hs -> R D:=fun env h=>(fo env h).bind fun x h1=>if zks c x h1 = true then (fc env h1).bind fun d h2=>F (x :: d.1) d.2 h2 else .bad
end
end Ev
namespace Ev
open PySem L2
structure FldAt (ci : Nat -> String × List String) (K : PySem.W.Frag) (mg : Str -> Option Value) (f : Str) (c i : Nat) : Prop where
  at_ : ((ci c).2.map Str.ofString)[i]? = some f
  first : ∀ j,j < i -> ((ci c).2.map Str.ofString)[j]? ≠ some f
  cl : ∀ C,mg (Str.ofString (ci c).1) = some (.ref C) -> Cls K C /\ NoAttr K C f
def zdK : List (Nat × Nat) -> Nat -> Option Nat
  | [],_=>none
  | (c,i) :: r,k=>if c = k then some i else zdK r k
theorem zhJ : ∀ {tab : List (Nat × Nat)} {c i : Nat},zdK tab c = some i -> (c,i) ∈ tab
  | (c',i') :: r,c,i,h=>by
    unfold zdK at h
    split at h
    · rename_i e
      cases h
      rw [<- e]
      exact List.mem_cons_self
    · exact List.mem_cons_of_mem _ (zhJ h)
def zj7 (h : Hs) : D -> Option (Nat × List D)
  | .obj c fs=>some (c,fs)
  | .ref n=>match h[n]? with
    | some (.ins c fs)=>some (c,fs)
    | _=>none
  | _=>none
theorem zk7 {g : G} {bs : List Addr} {h : Hs} {H : Hp} {x : D} {v : V} {c : Nat} {ds : List D} (hr : HRel g bs h H) (r : Rep g bs H x v) (e : zj7 h x = some (c, ds)) :
    ∃ a C dx fs, v = .ref a /\ zhc g c C /\ H a = some (.ins C dx fs) /\ fs.map (·.1) = zlO g c ds.length /\ Reps g bs H ds (fs.map (·.2)) := by
  cases r with
  | obj n hc ho hf rs => cases e; exact ⟨_, _, _, _, rfl, hc, ho, hf, rs⟩
  | @ref n a hb =>
    unfold zj7 at e
    dsimp only at e
    split at e
    · rename_i c' fs hi
      cases e
      obtain ⟨a', g1, C', dx', fvs, g2, g3, g4, g5⟩ := hr.at_ _ _ hi
      rw [hb] at g1
      cases g1
      exact ⟨_, _, _, _, rfl, g2, g3, g4, g5⟩
    · cases e
  | _ => cases e
def zmG (tab : List (Nat × Nat)) (x : D) (h : Hs) : R D:=match zj7 h x with
  | some (c,ds)=>match zdK tab c with
    | some i=>match ds[i]? with
      | some d=>.ok d h
      | none=>.bad
    | none=>.bad
  | none=>.bad
section
variable {ci : Nat -> String × List String} {X : Cx} {W : WX} {o e : Expr} {f : Str} {pos pos' : Pos} {to te : TE} {fo fe : En -> Hs -> R D}
def zqh (tab : List (Nat × Nat)) (fo : En -> Hs -> R D) : En -> Hs -> R D:=fun env h=>(fo env h).bind (zmG tab)
def zlR (ds : List D) (i : Nat) (d : D) : Option (List D):=if i < ds.length then some (ds.set i d) else if i = ds.length then some (ds ++ [d]) else none
def zdX (tab : List (Nat × Nat)) (x : D) (y : D) (h : Hs) : Option Hs:=match x with
  | .ref n=>match h[n]? with
    | some (.ins c ds)=>match zdK tab c with
      | some i=>if ds.length < 900 then (match zlR ds i y with
        | some ds'=>some (h.set n (.ins c ds'))
        | none=>none) else none
      | none=>none
    | _=>none
  | _=>none
def zif (tab : List (Nat × Nat)) (fo fe : En -> Hs -> R D) : En -> Hs -> S:=fun env h=>(fe env h).toS env fun y h1=>(fo env h1).toS env fun x h2=>match zdX tab x y h2 with
  | some h3=>.nx env h3
  | none=>.bad
theorem zjl {ns : List Str} {f : Str} {v : V} : ∀ {fs : List (Str × V)} {i n : Nat}, fs.map (·.1) = ns.take n -> fs.length = n -> ns[i]? = some f -> (∀ j, j < i -> ns[j]? ≠ some f) -> i <= n ->
    (putF f v fs).map (·.1) = ns.take (if i < n then n else n + 1) /\ (putF f v fs).map (·.2) = if i < n then (fs.map (·.2)).set i v else fs.map (·.2) ++ [v] := by
  induction ns with
  | nil => intro fs i n _ _ h; simp at h
  | cons a ns ih =>
    intro fs i n h1 hl h2 h3 hi
    cases fs with
    | nil =>
      simp at hl
      subst hl
      have : i = 0 := by omega
      subst this
      simp at h2
      subst h2
      simp [putF]
    | cons p r =>
      obtain ⟨k, x⟩ := p
      cases n with
      | zero => simp at hl
      | succ n =>
        simp only [List.map_cons, List.take_succ_cons, List.cons.injEq] at h1
        obtain ⟨rfl, h1⟩ := h1
        simp only [List.length_cons, Nat.add_right_cancel_iff] at hl
        cases i with
        | zero =>
          simp at h2
          subst h2
          simp [putF, h1]
        | succ i =>
          have hne : ¬ k = f := fun e => h3 0 (Nat.succ_pos _) (by simp [e])
          obtain ⟨q1, q2⟩ := ih (i := i) (n := n) h1 hl (by simpa using h2) (fun j hj => by have := h3 (j + 1) (by omega); simpa using this) (by omega)
          unfold putF
          rw [if_neg hne]
          by_cases hlt : i < n
          · rw [if_pos hlt] at q1 q2
            rw [if_pos (by omega), if_pos (by omega)]
            simp [q1, q2]
          · rw [if_neg hlt] at q1 q2
            rw [if_neg (by omega), if_neg (by omega)]
            simp [q1, q2]
theorem zjj {g : G} {tab : List (Nat × Nat)} {bs : List Addr} {h h3 : Hs} {H : Hp} {x y : D} {vx vy : V} (ht : ∀ p ∈ tab, FldAt g.ci g.K g.mg f p.1 p.2) (hr : HRel g bs h H) (rx : Rep g bs H x vx) (ry : Rep g bs H y vy) (e : zdX tab x y h = some h3) :
    ∃ a C dx fs, vx = .ref a /\ H a = some (.ins C dx fs) /\ Cls g.K C /\ NoAttr g.K C f /\ fs.length < 1000 /\ Ext bs H bs (upd H a (.ins C dx (putF f vy fs))) /\ HRel g bs h3 (upd H a (.ins C dx (putF f vy fs))) := by
  unfold zdX at e
  split at e
  · rename_i n
    split at e
    · rename_i c ds hi
      split at e
      · rename_i i hf
        split at e
        · rename_i hl
          split at e
          · rename_i ds' hp
            cases e
            cases rx with
            | @ref _ a hb =>
              obtain ⟨a', g1, C, dx, fs, g2, g3, g4, g5⟩ := hr.at_ _ _ hi
              rw [hb] at g1
              cases g1
              have F := ht _ (zhJ hf)
              obtain ⟨cl, na⟩ := F.cl C g2
              have hlen : fs.length = ds.length := by
                have := g5.length
                rw [List.length_map] at this
                exact this.symm
              have hle : i <= ds.length := by
                unfold zlR at hp
                split at hp
                · omega
                · split at hp
                  · omega
                  · cases hp
              have g4' : fs.map (·.1) = ((g.ci c).2.map Str.ofString).take ds.length := by
                rw [g4]; unfold zlO; rw [List.map_take]
              obtain ⟨q1, q2⟩ := zjl (v := vy) g4' hlen F.at_ F.first hle
              refine ⟨a, C, dx, fs, rfl, g3, cl, na, by rw [hlen]; omega, .cell hr hb, hr.cell hb ⟨C, dx, _, g2, upd_same, ?_, ?_⟩⟩
              · rw [q1]
                unfold zlR at hp
                unfold zlO
                rw [List.map_take]
                split at hp
                · rename_i hlt
                  cases hp
                  rw [if_pos hlt, List.length_set]
                · rename_i hlt
                  split at hp
                  · cases hp
                    rw [if_neg hlt, List.length_append]
                    rfl
                  · cases hp
              · rw [q2]
                unfold zlR at hp
                split at hp
                · rename_i hlt
                  cases hp
                  rw [if_pos hlt]
                  exact (g5.set ry i).mono (.cell hr hb)
                · rename_i hlt
                  split at hp
                  · cases hp
                    rw [if_neg hlt]
                    exact (g5.append (.cons ry .nil)).mono (.cell hr hb)
                  · cases hp
          · cases e
        · cases e
      · cases e
    · cases e
  · cases e
theorem zfN (tab : List (Nat × Nat)) (ho : EJ ci X W o to fo) (he : EJ ci X W e te fe) (ht : ∀ p ∈ tab, FldAt ci X.K X.mg f p.1 p.2) (hs : swapsWith e (some (.Attribute o f pos')) pos.line X.env = pure false := by rfl) :
    SJ ci X W (.Assign [.Attribute o f pos'] e pos) (sFld X.K to te f) (zif tab fo fe) :=
  ⟨ps_fld ho.pe he.pe hs, fun σ H env h bs E er hr p => he.sim.stepS er hr p fun y vy bs1 H1 h1 e1 hr1 er1 ry p1 => ho.sim.stepS er1 hr1 p1 fun x vx bs2 H2 h2 e2 hr2 er2 rx p2 => by
    split at p2
    · rename_i h3 hh
      obtain ⟨a, C, dx, fs, rfl, q1, q2, q3, q4, q5, q6⟩ := zjj (g := X.g ci) ht hr2 rx (ry.mono e2) hh
      exact ⟨a, C, dx, fs, rfl, q1, q2, q3, q4, p2 bs2 _ σ q5 q6 (er2.mono q5)⟩
    · exact p2.elim⟩
end
inductive Ty where
  | int | str | bool | list | tuple | cls (c : Nat)
def zl1 (x : D) (h : Hs) : Option String:=match x with
  | .non=>some "NoneType"
  | .bl _=>some "bool"
  | .int _=>some "int"
  | .str _=>some "str"
  | .tup _=>some "tuple"
  | .lst _=>some "list"
  | .rol _=>some "list"
  | .ref n=>match zaS h n with
    | some _=>some "list"
    | none=>none
  | .obj _ _=>none
  | .dct _ _=>none
  | .dnt _ _=>none
def zj3 : Ty -> String -> Bool
  | .int,n=>n == "int" || n == "bool"
  | .str,n=>n == "str"
  | .bool,n=>n == "bool"
  | .list,n=>n == "list"
  | .tuple,n=>n == "tuple"
  | .cls _,_=>false
def znC : Ty -> Nat -> Bool
  | .cls c,k=>decide (k = c)
  | _,_=>false
structure ClsT (K : PySem.W.Frag) (C : Addr) : Prop where
  cl : Cls K C
  ha : PySem.W.findIn K (.ref C) "__class__" = some (some (.builtin "object.__class__"))
  hn : PySem.W.specialIn K (.builtin "object.__class__") "__get__" = some (some (.builtin "getset_descriptor.__get__"))
  htk : PySem.W.takesIn K (.builtin "object.__class__") = some true
  hm : PySem.W.mroIn K C (.type "object") = some true
structure IsiF (ci : Nat -> String × List String) (K : PySem.W.Frag) (mg : Str -> Option Value) (ty : Ty) (cs : List Nat) (u : Value) : Prop where
  prim : ∀ n ∈ ["NoneType","bool","int","str","list","tuple"],PySem.W.kitOne K (.type n) u = some (zj3 ty n)
  own : ∀ c ∈ cs,∀ C,mg (Str.ofString (ci c).1) = some (.ref C) -> ClsT K C /\ PySem.W.kitOne K (.ref C) u = some (znC ty c)
def zhg (ty : Ty) (cs : List Nat) (x : D) (h : Hs) : R D:=match zl1 x h with
  | some n=>.ok (.bl (zj3 ty n)) h
  | none=>match zj7 h x with
    | some (c,_)=>if c ∈ cs then .ok (.bl (znC ty c)) h else .bad
    | none=>.bad
theorem zmV {g : G} {bs : List Addr} {h : Hs} {H : Hp} {x : D} {v : V} {n : String} (hr : HRel g bs h H) (r : Rep g bs H x v) (e : zl1 x h = some n) : TyX g.K H v (.type n) /\ n ∈ ["NoneType","bool","int","str","list","tuple"]:=by
  cases r with
  | non=>cases e; exact ⟨.base .non,by simp⟩
  | bl b=>cases e; exact ⟨.base (.bl _),by simp⟩
  | int i=>cases e; exact ⟨.base (.int _),by simp⟩
  | str hs=>cases e; exact ⟨.base (.str _),by simp⟩
  | tup t rs =>
    cases e
    refine ⟨?_,by simp⟩
    rcases t with ⟨_,t | ⟨o,t⟩⟩ | ⟨o,its,n,h1,h2,_⟩
    · exact .base (.tup t)
    · exact .fTuple t
    · exact .kTuple h1 h2
  | lst n hl rs=>cases e; exact ⟨.base (.lst hl),by simp⟩
  | rol hl rs =>
    cases e
    refine ⟨?_,by simp⟩
    rcases hl with ⟨_,t | ⟨o,t⟩⟩ | ⟨o,its,n,h1,h2,_⟩
    · exact .base (.lst t)
    · exact .base (.frz t)
    · exact .kList h1 h2
  | @ref n a hb =>
    have e' : (match zaS h n with
      | some _=>some "list"
      | none=>none) = some _:=e
    cases hc : zaS h n with
    | none=>rw [hc] at e'; cases e'
    | some ys =>
      rw [hc] at e'
      cases e'
      obtain ⟨vs,h1,_⟩:=zbT hr hb hc
      exact ⟨.base (.lst h1),by simp⟩
  | obj=>cases e
  | dct=>cases e
  | dnt=>cases e
section
variable {ci : Nat -> String × List String} {X : Cx} {W : WX} {o : Expr} {x : Str} {p pos np : Pos} {to : TE} {fo : En -> Hs -> R D}
def zjq (ty : Ty) (cs : List Nat) (fo : En -> Hs -> R D) : En -> Hs -> R D:=fun env h=>(fo env h).bind (zhg ty cs)
theorem zjZ {g : G} {ty : Ty} {cs : List Nat} {c : V} {u : Value} (hv : ClsV c u) (F : IsiF g.ci g.K g.mg ty cs u) (ho : Sim (zc5 g) g W to fo) : Sim (zc5 g) g W (tCB (rIsi g.K) (tCons to (tCons (tC c) tNil))) (zjq ty cs fo):=
  fun σ H env h bs Q er hr p=>ho.step er hr p fun d vd bs1 H1 h1 e1 hr1 er1 rx p1=>by
    show rIsi g.K [vd,c] H1 Q
    unfold zhg at p1
    split at p1
    · rename_i n hn
      obtain ⟨t1,t2⟩:=zmV hr1 rx hn
      exact ⟨vd,c,_,u,_,rfl,hv,t1,F.prim n t2,zaU.ok_ p1 hr1 (.bl _)⟩
    · split at p1
      · rename_i k fs hi
        split at p1
        · rename_i hk
          obtain ⟨a,C,dx,fvs,rfl,g2,g3,g4,g5⟩:=zk7 hr1 rx hi
          obtain ⟨ct,kt⟩:=F.own k hk C g2
          exact ⟨_,c,_,u,_,rfl,hv,.base (.ins g3 ct.cl ct.ha ct.hn ct.htk ct.hm),kt,zaU.ok_ p1 hr1 (.bl _)⟩
        · exact p1.elim
      · exact p1.elim
theorem zeZ (ty : Ty) (cs : List Nat) (n : String) (hm : X.mg "isinstance" = none) (hmx : X.mg x = none) (ho : EJ ci X W o to fo) (F : IsiF ci X.K X.mg ty cs (.type n)) (hb : bootBuiltins x = some (.type n) := by decide +kernel) (hg : Gl X "isinstance" := by rfl) (hgx : Gl X x := by rfl) (hxn : x ≠ "__name__" := by decide) (hxd : (x == ("__debug__" : Str)) = false := by decide)
    (he : starEach [o, .Name x np] X.env = (false, eval o X.env) :: starEach [.Name x np] X.env := by rfl) (hpl : (backTo pos (starEach [.Name x np] X.env)).any (·.1) = false := by rfl) :
    EJ ci X W (.Call (.Name "isinstance" p) [o, .Name x np] [] pos) (tCB (rIsi X.K) (tCons to (tCons (tC (.ty n)) tNil))) (zjq ty cs fo) :=
  ⟨pe_callB call_isi hg hm (by decide +kernel) (pa_cons ho.pe (pa_cons (pe_bltn hgx hmx hb rfl hxn hxd) pa_nil) he) (by decide) (by decide) he hpl, zjZ (g := X.g ci) (.ty n) F ho.sim⟩
def zqy (g : G) (c : Nat) (to : TE) : TE:=fun σ H Q=>∃ C,zhc g c C /\ tCB (rIsi g.K) (tCons to (tCons (tC (.ref C)) tNil)) σ H Q
def zp3 (ci : Nat -> String × List String) (K : PySem.W.Frag) (mg : Str -> Option Value) (c : Nat) (cs : List Nat) : Prop:=∃ C,mg (Str.ofString (ci c).1) = some (.ref C) /\ IsiF ci K mg (.cls c) cs (.ref C)
theorem zm2 (c : Nat) (cs : List Nat) (hm : X.mg "isinstance" = none) (ho : EJ ci X W o to fo) (F : zp3 ci X.K X.mg c cs) (hx : x = Str.ofString (ci c).1 := by rfl) (hg : Gl X "isinstance" := by rfl) (hgx : Gl X x := by rfl) (hxd : (x == ("__debug__" : Str)) = false := by decide)
    (he : starEach [o, .Name x np] X.env = (false, eval o X.env) :: starEach [.Name x np] X.env := by rfl) (hpl : (backTo pos (starEach [.Name x np] X.env)).any (·.1) = false := by rfl) :
    EJ ci X W (.Call (.Name "isinstance" p) [o, .Name x np] [] pos) (zqy (X.g ci) c to) (zjq (.cls c) cs fo) := by
  obtain ⟨C, hC, F⟩ := F
  refine ⟨⟨fun pins s σ H Q I ⟨C', hC', h⟩ => ?_⟩, fun σ H env h bs Q er hr p => ⟨C, hC, zjZ (g := X.g ci) (.own C) F ho.sim σ H env h bs Q er hr p⟩⟩
  have hC2 : X.mg (Str.ofString (ci c).1) = some (.ref C') := hC'
  rw [hC] at hC2
  cases hC2
  exact (pe_callB call_isi hg hm (by decide +kernel) (pa_cons ho.pe (pa_cons (pe_glob (v := .ref C) (u := .ref C) hgx (by rw [hx]; exact hC) rfl hxd) pa_nil) he) (by decide) (by decide) he hpl).run pins s σ H Q I h
end
def spExc (K : PySem.W.Frag) (C : Addr) (f : Str) : Sp:=fun vs H Q _=>∃ a y,vs = [.ref a,y] /\ H a = some (exo a C none) /\ ∀ dx,H dx = none -> dx ≠ a -> Q .non (upd (upd H dx (exd dx [(f,y)])) a (exo a C (some dx)))
structure ExcF (ci : Nat -> String × List String) (P : Program) (w : World) (K : PySem.W.Frag) (mg : Str -> Option Value) (base : Heap) (c : Nat) (f : Str) (C : Addr) : Prop where
  oex : OexC K C
  is : mg (Str.ofString (ci c).1) = some (.ref C)
  fl : (ci c).2.map Str.ofString = [f]
  init : ∃ (fI : Addr) (fd : FuncData) (ps : List Str),PySem.W.findIn K (.ref C) "__init__" = some (some (.ref fI)) /\ PySem.W.typeIn K (.ref fI) = some (.type "function") /\ L2.FnOk P w K mg base (L2.CX P w) 3 fI fd ps (spExc K C f) /\ Binds K fd ps []
def ExcC (ci : Nat -> String × List String) (P : Program) (w : World) (K : PySem.W.Frag) (mg : Str -> Option Value) (base : Heap) (c : Nat) (f : Str) : Prop:=∃ C,ExcF ci P w K mg base c f C
section
variable {ci : Nat -> String × List String} {X : Cx} {W : WX} {e : Expr} {x f : Str} {c : Nat} {C : Addr} {p pos cpos : Pos} {te : TE} {fe : En -> Hs -> R D} {k : Nat}
def zcr (c : Nat) (fe : En -> Hs -> R D) : En -> Hs -> S:=fun env h=>(fe env h).toS env fun d h1=>.err c [d] env h1
def znb (g : G) (W : WX) (c : Nat) (f : Str) (te : TE) : TS:=fun _ σ H=>∃ C,zhc g c C /\ tMkO C (spExc g.K C f) [] (tCons te tNil) σ H fun cls d H'=>W cls d σ H'
theorem zbI (c : Nat) (hc : X.calm = true) (F : ExcC ci X.prog X.w X.K X.mg X.base c f) (hr : Room 4 X.A) (tk : Takes X W) (he : EJ ci X W e te fe) (hx : x = Str.ofString (ci c).1 := by rfl) (hg : Gl X x := by rfl) (hdb : (x == ("__debug__" : Str)) = false := by decide)
    (hst : starEach [e] X.env = (false, eval e X.env) :: starEach [] X.env := by rfl) (hpl : (backTo cpos (starEach [] X.env)).any (·.1) = false := by rfl) :
    SJ ci X W (.Raise (some (.Call (.Name x p) [e] [] cpos)) none pos) (znb (X.g ci) W c f te) (zcr c fe) := by
  obtain ⟨C, F⟩ := F
  obtain ⟨fI, fd, ps, i1, i2, i3, i4⟩ := F.init
  refine ⟨⟨fun pins s σ H D I ⟨C', hC', h⟩ => ?_⟩, fun σ H env h bs E er hr' p => ⟨C, F.is, he.sim.stepS er hr' p fun d v bs1 H1 h1 e1 hr1 er1 rd p1 => ?_⟩⟩
  · have hC2 : X.mg (Str.ofString (ci c).1) = some (.ref C') := hC'
    rw [F.is] at hC2
    cases hC2
    exact (ps_raise hc tk (pmk_oex F.oex i1 i2 i3 hr.r i4 .nil passL hg (by rw [hx]; exact F.is) (pa_cons he.pe pa_nil hst) hdb hst hpl)).run pins s σ H D I h
  · refine ⟨by show 1 <= 1000; decide, fun a ha => ⟨a, v, rfl, upd_same, fun dx hdx hne => ⟨rfl, dx, [(f, v)], upd_same, ?_, ?_, ?_⟩⟩⟩
    · rw [upd_ne hne, upd_same]
    · rw [upd_ne hne] at hdx; exact hdx
    · have hdx' : H1 dx = none := by rw [upd_ne hne] at hdx; exact hdx
      have eH : upd (del (upd (upd (upd H1 a (exo a C none)) dx (exd dx [(f, v)])) a (exo a C (some dx))) a) dx (.xd [(f, v)]) = upd H1 dx (.xd [(f, v)]) := by
        funext b
        by_cases hb : b = dx
        · rw [hb, upd_same, upd_same]
        · rw [upd_ne hb, upd_ne hb]
          by_cases hba : b = a
          · rw [hba, del_same, ha]
          · rw [del_ne hba, upd_ne hba, upd_ne hb, upd_ne hba]
      rw [eH]
      refine p1 _ _ bs1 _ σ (.new hdx') (hr1.new hdx') (er1.mono (.new hdx')) ⟨C, dx, [(f, v)], F.is, rfl, rfl, hr1.out hdx', upd_same, ?_, .cons (rd.mono (.new hdx')) .nil⟩
      unfold zlO
      rw [List.map_take, show ((X.g ci).ci c).2.map Str.ofString = [f] from F.fl]
      rfl
end
end Ev
namespace Ev
open PySem L2
def zhf : List D -> Option (List Bool)
  | []=>some []
  | .bl b :: r=>(zhf r).map (b :: ·)
  | _=>none
theorem zlQ {g : G} {bs : List Addr} {H : Hp} : ∀ {ds : List D} {vs : List V} {xs : List Bool},Reps g bs H ds vs -> zhf ds = some xs -> vs = xs.map V.bl
  | _,_,_,.nil,e=>by cases e; rfl
  | d :: ds,v :: vs,xs,.cons r t,e=>by
    cases r with
    | bl b =>
      have e' : (zhf ds).map (b :: ·) = some xs:=e
      cases h : zhf ds with
      | none=>rw [h] at e'; cases e'
      | some ys=>rw [h] at e'; cases e'; rw [zlQ t h]; rfl
    | _=>cases e
def zmR (xs : List D) (h : Hs) : R D:=match xs with
  | [x]=>match rdL h x with
    | some ys=>match zhf ys with
      | some bs=>.ok (.bl (bs.all id)) h
      | none=>.bad
    | none=>.bad
  | _=>.bad
theorem zig {g : G} : CaJ g (rAll g.K) zmR:=by
  refine ⟨fun W bs h H xs vs Q hr rs p=>?_⟩
  unfold zmR at p
  split at p
  · split at p
    · rename_i ys hy
      split at p
      · rename_i b hb
        cases rs with
        | cons r t =>
          cases t
          obtain ⟨a,us,rfl,hs,rs⟩:=zfb hr r hy
          exact ⟨a,b,rfl,by rw [<- zlQ rs hb]; exact hs,zaU.ok_ p hr (.bl _)⟩
      · exact p.elim
    · exact p.elim
  · exact p.elim
def zii (f : En -> Hs -> R D) (fr : En -> Hs -> R (List D)) : En -> Hs -> R (List D):=fun env h=>(f env h).bind fun x h1=>match zhj h1 x with
  | some xs=>(fr env h1).bind fun ys h2=>.ok (xs ++ ys) h2
  | none=>.bad
section
variable {ci : Nat -> String × List String} {X : Cx} {W : WX} {pos p : Pos} {e o : Expr} {es : List Expr} {te : TE} {t : TA} {fe : En -> Hs -> R D} {fr : En -> Hs -> R (List D)} {f x : Str}
theorem ziI (he : EJ ci X W e te fe) (hr : AJ ci X W es t fr) (hs : starEach (.Starred e p :: es) X.env = (true,eval e X.env) :: starEach es X.env:=by rfl) : AJ ci X W (.Starred e p :: es) (StX.tStar X.K te t) (zii fe fr):=
  ⟨StX.pa_star he.pe hr.pa hs,fun σ H env h bs Q er hr' p=>he.sim.step er hr' p fun x vx bs1 H1 h1 e1 hr1 er1 rx p1=>by
    split at p1
    · rename_i xs hx
      obtain ⟨a,vs,rfl,hs,rs⟩:=zk4 hr1 rx hx
      exact ⟨a,vs,rfl,hs.symm,hr.sim.step er1 hr1 p1 fun ys ws bs2 H2 h2 e2 hr2 er2 rs2 p2=>zaU.ok_ p2 hr2 ((rs.mono e2).append rs2)⟩
    · exact p1.elim⟩
def zrx (ci : Nat -> String × List String) (K : PySem.W.Frag) (mg : Str -> Option Value) (d : D) (v : V) : Prop:=∀ bs H,Rep ⟨K,mg,ci⟩ bs H d v
def zok (ci : Nat -> String × List String) (K : PySem.W.Frag) (mg : Str -> Option Value) (x f : Str) (d : D) : Prop:=∃ (C : Addr) (mc : Value) (v : V) (u : Value),mg x = some (.ref C) /\ ClX.CRead K C mc /\ ClX.CVal K C mc f v u /\ zrx ci K mg d v
def zri (K : PySem.W.Frag) (mg : Str -> Option Value) (x f : Str) : TE:=fun σ H Q=>∃ C,mg x = some (.ref C) /\ ClX.tCVal K (tC (.ref C)) f σ H Q
theorem zlX {xp : Pos} {d : D} (h : zok ci X.K X.mg x f d) (hg : Gl X x := by rfl) (hxd : (x == ("__debug__" : Str)) = false := by decide) (hb : attributeBase (.Name x xp) f X.env (eval (.Name x xp) X.env) = eval (.Name x xp) X.env := by rfl) :
    EJ ci X W (.Attribute (.Name x xp) f pos) (zri X.K X.mg x f) (eC d) := by
  obtain ⟨C, mc, v, u, h1, h2, h3, h4⟩ := h
  refine ⟨⟨fun pins s σ H Q I ⟨C', e, q⟩ => ?_⟩, fun σ H env h bs Q er hr p => ⟨C, h1, C, mc, v, u, rfl, h2, h3, zaU.ok_ p hr (h4 bs H)⟩⟩
  rw [h1] at e
  cases e
  exact (ClX.pe_cval (pe_glob (v := .ref C) (u := .ref C) hg h1 rfl hxd) hb).run pins s σ H Q I q
def GlC (ci : Nat -> String × List String) (K : PySem.W.Frag) (mg : Str -> Option Value) (x : Str) (d : D) : Prop:=∃ (v : V) (u : Value),mg x = some u /\ RelV v u /\ zrx ci K mg d v
def zrY (mg : Str -> Option Value) (x : Str) : TE:=fun σ H Q=>∃ v u,mg x = some u /\ RelV v u /\ Q v H
theorem zfE {d : D} (h : GlC ci X.K X.mg x d) (hg : Gl X x:=by rfl) (hxd : (x == ("__debug__" : Str)) = false:=by decide) : EJ ci X W (.Name x pos) (zrY X.mg x) (eC d):=by
  obtain ⟨v,u,h1,h2,h3⟩:=h
  refine ⟨⟨fun pins s σ H Q I ⟨v',u',e1,e2,q⟩=>?_⟩,fun σ H env h bs Q er hr p=>⟨v,u,h1,h2,zaU.ok_ p hr (h3 bs H)⟩⟩
  exact (pe_glob hg e1 e2 hxd).run pins s σ H Q I q
end
section
variable {ci : Nat -> String × List String} {X : Cx} {W : WX} {elt tg iter : Expr} {ifs : List Expr} {scope : Scope} {own : List (Str × Nat)} {pos spos py : Pos} {y : Str} {wi : TI} {t : TG} {tt : TT} {te : TE} {fi : En -> Hs -> R Src} {k : D -> En -> Option En} {js : List Nat} {ft : En -> Hs -> R Bool} {fe : En -> Hs -> R D}
theorem zkt (i : Nat) (hc : X.calm = true) (hN : X.N.Nodup) (hi : IJ ci X W tg iter wi fi) (ok : BlkOk X.N X.env.scope scope own) (hjs : ∀ j ∈ js, j ∈ own.map (·.2))
    (hg : ∀ (s : Shared) (H : Hp) (C : Addr) (cl : List (Str × Addr)) (fp : List Addr), GJ ci (X.blk s H scope (compEnvC scope cl C X.env) fp) tg t k js) (ht : ∀ (s : Shared) (H : Hp) (C : Addr) (cl : List (Str × Addr)) (fp : List Addr), TsJ ci (X.blk s H scope (compEnvC scope cl C X.env) fp) ifs tt ft)
    (he : ∀ (s : Shared) (H : Hp) (C : Addr) (cl : List (Str × Addr)) (fp : List Addr), EJ ci (X.blk s H scope (compEnvC scope cl C X.env) fp) W0 elt te fe) (hs : ∀ x, foldedSetIterable iter X.env x = pure x := by intro _; rfl)
    (hy : X.N[i]? = some y := by rfl) (hyl : X.env.scope.names.lookup y = some .local := by rfl) (hsw : swapsWith (.ListComp elt [⟨tg, iter, ifs, 0⟩] scope pos) (some (.Name y py)) spos.line X.env = pure true := by exact sw_true rfl rfl rfl (by decide +kernel)) :
    SJ ci X W (.Assign [.Name y py] (.ListComp elt [⟨tg, iter, ifs, 0⟩] scope pos) spos) (tAsg (tLc wi t tt te (own.map (·.2))) (gName i)) (zcR (zfL fi k ft fe (own.map (·.2))) (zaB i)) :=
  ⟨ps_setLc hc hN hy hyl hsw hi.pi ok (fun s H C cl fp => (hg s H C cl fp).pg) (fun s H C cl fp => (ht s H C cl fp).pts) (fun s H C cl fp => (he s H C cl fp).pe) hs,
    zgK (zjK hi.sim (hg X.s_0 (fun _ => none) 0 [] []).sim (ht X.s_0 (fun _ => none) 0 [] []).sim (he X.s_0 (fun _ => none) 0 [] []).sim hjs) (zbk (X := X) (pos := py) (ci := ci) i hN hy (.inl hyl) (.inr hyl)).sim⟩
end
def zbX (f : D -> Option D) : List D -> Option (List D)
  | []=>some []
  | x :: xs=>match f x,zbX f xs with
    | some y,some ys=>some (y :: ys)
    | _,_=>none
def zqx (h : Hs) (n : Nat) (f : D -> Option D) (d : D) : Option D:=match d with
  | .ref m=>if m < n then none else match h[m]? with
    | some (.lst xs)=>(zbX f xs).map .lst
    | some (.ins c fs)=>(zbX f fs).map (.obj c)
    | some (.dct ks ds)=>(zbX f ds).map (.dct ks)
    | _=>none
  | .tup xs=>(zbX f xs).map .tup
  | _=>none
def frz (h : Hs) (n : Nat) : Nat -> D -> Option D
  | 0,_=>none
  | k + 1,d=>if D.nr n d = true then some d else zqx h n (frz h n k) d
theorem zkh {h : Hs} {n k : Nat} {d : D} (e : D.nr n d = true) : frz h n (k + 1) d = some d:=by rw [frz,if_pos e]
theorem zhW {h : Hs} {n k : Nat} : ∀ {xs : List D},D.nrs n xs = true -> zbX (frz h n (k + 1)) xs = some xs
  | [],_=>rfl
  | x :: xs,e=>by
    have e' : (D.nr n x && D.nrs n xs) = true:=e
    obtain ⟨e1,e2⟩:=Bool.and_eq_true_iff.mp e'
    rw [zbX,zkh e1,zhW e2]
theorem zng {h : Hs} {n k m : Nat} {xs ys : List D} (hm : n <= m) (e : h[m]? = some (.lst xs)) (f : zbX (frz h n k) xs = some ys) : frz h n (k + 1) (.ref m) = some (.lst ys):=by
  rw [frz,if_neg (by rw [D.nr,decide_eq_true_eq]; omega)]
  unfold zqx
  dsimp only
  rw [if_neg (by omega),e]
  dsimp only
  rw [f]
  rfl
section
variable {g : G} {bs m : List Addr} {h h' : Hs} {H : Hp}
theorem zdG {f : D -> Option D} (hf : ∀ d d' v,f d = some d' -> Rep g (bs ++ m) H d v -> Rep g bs H d' v) : ∀ {ds ds' : List D} {vs : List V},zbX f ds = some ds' -> Reps g (bs ++ m) H ds vs -> Reps g bs H ds' vs
  | [],_,_,e,r=>by
    rw [zbX] at e
    cases e
    cases r
    exact .nil
  | x :: xs,_,_,e,r=>by
    rw [zbX] at e
    cases r with
    | cons r1 r2 =>
      split at e
      · rename_i y ys h1 h2
        cases e
        exact .cons (hf _ _ _ h1 r1) (zdG hf h2 r2)
      · cases e
theorem zgo {f : D -> Option D} : ∀ {ds ds' : List D},zbX f ds = some ds' -> ds'.length = ds.length
  | [],_,e=>by rw [zbX] at e; cases e; rfl
  | x :: xs,_,e=>by
    rw [zbX] at e
    split at e
    · rename_i y ys h1 h2
      cases e
      rw [List.length_cons,List.length_cons,zgo h2]
    · cases e
theorem zlN (hr : HRel g (bs ++ m) h' H) : ∀ (k : Nat) {d d' : D} {v : V},frz h' bs.length k d = some d' -> Rep g (bs ++ m) H d v -> Rep g bs H d' v
  | 0,_,_,_,e,_=>by rw [frz] at e; cases e
  | k + 1,d,d',v,e,r=>by
    have ih : ∀ d d' v,frz h' bs.length k d = some d' -> Rep g (bs ++ m) H d v -> Rep g bs H d' v:=fun d d' v e r=>zlN hr k e r
    rw [frz] at e
    split at e
    · rename_i hn
      cases e
      exact r.shrink hn
    · unfold zqx at e
      split at e
      · rename_i j
        split at e
        · cases e
        · rename_i hj
          cases r with
          | @ref _ a hb =>
            have na : a ∉ bs:=by
              intro z
              obtain ⟨i,hi⟩:=List.getElem?_of_mem z
              have hlt : i < bs.length:=(List.getElem?_eq_some_iff.mp hi).1
              have hi' : (bs ++ m)[i]? = some a:=by rw [List.getElem?_append_left hlt]; exact hi
              obtain ⟨l1,e1⟩:=List.getElem?_eq_some_iff.mp hi'
              obtain ⟨l2,e2⟩:=List.getElem?_eq_some_iff.mp hb
              have:=(List.getElem_inj hr.nd).mp (e1.trans e2.symm)
              omega
            split at e
            · rename_i xs hx
              obtain ⟨a',g1,vs,g2,g3⟩:=hr.at_ _ _ hx
              rw [hb] at g1
              cases g1
              cases hz : zbX (frz h' bs.length k) xs with
              | none=>rw [hz] at e; cases e
              | some ys=>rw [hz] at e; cases e; exact .lst na g2 (zdG ih hz g3)
            · rename_i c xs hx
              obtain ⟨a',g1,C,dx,fvs,g2,g3,g4,g5⟩:=hr.at_ _ _ hx
              rw [hb] at g1
              cases g1
              cases hz : zbX (frz h' bs.length k) xs with
              | none=>rw [hz] at e; cases e
              | some ys =>
                rw [hz] at e
                cases e
                exact .obj na g2 g3 (by rw [g4,zgo hz]) (zdG ih hz g5)
            · rename_i ks xs hx
              obtain ⟨a',g1,kvs,g2,g3,g4⟩:=hr.at_ _ _ hx
              rw [hb] at g1
              cases g1
              cases hz : zbX (frz h' bs.length k) xs with
              | none=>rw [hz] at e; cases e
              | some ys =>
                rw [hz] at e
                cases e
                exact .dct na g2 g3 (zdG ih hz g4)
            · cases e
      · rename_i xs _
        cases r with
        | tup t rs =>
          cases hz : zbX (frz h' bs.length k) xs with
          | none=>rw [hz] at e; cases e
          | some ys =>
            rw [hz] at e
            cases e
            exact .tup (t.elim (fun z=>.inl ⟨fun y=>z.1 (List.mem_append_left _ y),z.2⟩) .inr) (zdG ih hz rs)
      · cases e
end
def zow (h h' : Hs) : Prop:=∃ more,h' = h ++ more
open Classical in
def zqP (h : Hs) (r : R D) : R D:=match r with
  | .ok d h'=>if zow h h' then (match frz h' h.length 12 d with
    | some d'=>.ok d' h
    | none=>.bad) else .bad
  | .err c fs h'=>if zow h h' /\ D.nrs h.length fs = true then .err c fs h else .bad
  | .bad=>.bad
@[simp] theorem zoB (h : Hs) : zqP h .bad = .bad:=rfl
end Ev
namespace Ev
open PySem L2
def zs7 : List (String × List String):=
  [("Policy",["hold","every","quick"]),("Setting",["size","policies"]),("TurnState",["rest","kept","blocked","stuck","pending","quick"]),("Outcome",["stalls","segments","acknowledgments","stalled"]),
   ("Side",["waiting","corked","out","covered","heard","fulls","arrived","mark"]),("Draft",["setting","made","stalls","sides","ways"]),("Rules",["setting","writes","given"]),("Road",["rules","scenes","deeds","floor"]),("Trial",["road","scenes","deeds","floor"]),("Searched",["rules","known"]),("Talk",["many_nodes","begin","goals","rows","used"]),("TurnGraph",["places","shortest"]),("Comparison",["talk","settings","many"]),("Desk",["things","past"]),("",[]),("",[]),("",[]),("",[]),("",[]),("",[]),
   ("LatewordsError",[]),("BadSetting",["name"]),("BadWrite",["index"]),("BadOrder",["index"]),("NotPossible",["event"]),("TooLong",["many"]),("BadTalk",["index"]),("EndlessTurn",["endpoint"]),("BadPath",["index"]),("BadText",["line"]),("BadRow",["column"]),("NoTurn",["turn"]),("NoArc",["arc"]),("NoName",["name"]),("NothingDone",[])]
def ci0 (n : Nat) : String × List String:=zs7.getD n ("",[])
def BodyOk (P : Program) (w : World) (K : PySem.W.Frag) (mg : Str -> Option Value) (base : Heap) (f : Addr) (qual : Str) (st : Stmt) (N : List Str) (k : Nat) (fb : En -> Hs -> S) : Prop:=
  ∀ (cdv : Value) (A : Around) (outer : List Env) (s : Shared) (H : Hp) (E : XK),Room k (A.deeper (PyProof.Rows.envOfC qual (defScope st) s.heap.objs.size f cdv)) -> ∃ t,SsJ ci0 (zbJ P w K mg base N qual st f cdv A outer s H E) (zdz E) (defBody st) t fb
theorem Room.units65 {k : Nat} {A : Around} (hr : Room k A) : A.units + 65 < cLine:=by have:=hr.un; omega
section
variable {ci : Nat -> String × List String} {K : PySem.W.Frag} {mg : Str -> Option Value} {f : Str} {a b c d e i j k l m : Nat}
abbrev FT (ci : Nat -> String × List String) (K : PySem.W.Frag) (mg : Str -> Option Value) (f : Str) (tab : List (Nat × Nat)) : Prop:=∀ p ∈ tab,FldAt ci K mg f p.1 p.2
theorem zn5 (h : FldAt ci K mg f a i) : FT ci K mg f [(a,i)]:=fun p z=>by
  obtain rfl:=List.mem_singleton.mp z
  exact h
theorem tabS {t : List (Nat × Nat)} (h : FldAt ci K mg f a i) (r : FT ci K mg f t) : FT ci K mg f ((a,i) :: t):=fun p z=>by
  rcases List.mem_cons.mp z with rfl | z
  · exact h
  · exact r p z
theorem zsN (h1 : FldAt ci K mg f a i) (h2 : FldAt ci K mg f b j) : FT ci K mg f [(a,i),(b,j)]:=tabS h1 (zn5 h2)
end
end Ev
namespace Ev
open PySem L2
structure EqC (ci : Nat -> String × List String) (P : Program) (w : World) (K : PySem.W.Frag) (mg : Str -> Option Value) (base : Heap) (c k : Nat) (F : List D -> List D -> Hs -> R D) : Prop where
  ex : ∃ C f,mg (Str.ofString (ci c).1) = some (.ref C) /\ PySem.W.findIn K (.ref C) "__eq__" = some (some (.ref f)) /\ PySem.W.isFn K (.ref f) = true /\ PySem.W.findIn K (.ref C) "__ne__" = some (some (.builtin "object.__ne__")) /\ PySem.W.mroIn K C (.type "object") = some true /\ FnC ci P w K mg base k f [] F
def R.nerr {α : Type} : R α -> R α
  | .err _ _ _=>.bad
  | r=>r
@[simp] theorem R.nerr_ok {α : Type} (a : α) (h : Hs) : (R.ok a h).nerr = .ok a h:=rfl
@[simp] theorem R.nerr_bad {α : Type} : (R.bad : R α).nerr = .bad:=rfl
end Ev
namespace Ev
open PySem L2
abbrev zrD:=Shared -> Hp -> Addr -> List (Str × Addr) -> List Addr -> TE
abbrev zrp:=Shared -> Hp -> Addr -> List (Str × Addr) -> List Addr -> TT
abbrev zra:=Shared -> Hp -> Addr -> List (Str × Addr) -> List Addr -> TG
def zry (te : zrD) : TE:=fun σ H' Q=>∀ s H C cl fp,te s H C cl fp σ H' Q
def zpv (te : zrp) : TT:=fun σ H' Q=>∀ s H C cl fp,te s H C cl fp σ H' Q
def zpQ (te : zra) : TG:=fun v σ H' Q=>∀ s H C cl fp,te s H C cl fp v σ H' Q
section
variable {ci : Nat -> String × List String} {X : Cx} {W : WX} {elt tg iter : Expr} {ifs : List Expr} {scope : Scope} {own : List (Str × Nat)} {pos spos py : Pos} {y : Str} {wi : TI} {t : zra} {tt : zrp} {te : zrD} {fi : En -> Hs -> R Src} {k : D -> En -> Option En} {js jo : List Nat} {ft : En -> Hs -> R Bool} {fe : En -> Hs -> R D}
theorem zrQ (he : ∀ (s : Shared) (H : Hp) (C : Addr) (cl : List (Str × Addr)) (fp : List Addr),EJ ci (X.blk s H scope (compEnvC scope cl C X.env) fp) W0 elt (te s H C cl fp) fe) : ∀ (s : Shared) (H : Hp) (C : Addr) (cl : List (Str × Addr)) (fp : List Addr),EJ ci (X.blk s H scope (compEnvC scope cl C X.env) fp) W0 elt (zry te) fe:=
  fun s H C cl fp=>⟨⟨fun pins s' σ H' Q I h=>(he s H C cl fp).pe.run pins s' σ H' Q I (h s H C cl fp)⟩,fun σ H' env h bs Q er hr p=>fun s2 H2 C2 cl2 fp2=>(he s2 H2 C2 cl2 fp2).sim σ H' env h bs Q er hr p⟩
theorem zqT (he : ∀ (s : Shared) (H : Hp) (C : Addr) (cl : List (Str × Addr)) (fp : List Addr),TsJ ci (X.blk s H scope (compEnvC scope cl C X.env) fp) ifs (tt s H C cl fp) ft) : ∀ (s : Shared) (H : Hp) (C : Addr) (cl : List (Str × Addr)) (fp : List Addr),TsJ ci (X.blk s H scope (compEnvC scope cl C X.env) fp) ifs (zpv tt) ft:=
  fun s H C cl fp=>⟨⟨fun pins s' σ H' Q I h=>(he s H C cl fp).pts.run pins s' σ H' Q I (h s H C cl fp)⟩,fun σ H' env h bs Q er hr p=>fun s2 H2 C2 cl2 fp2=>(he s2 H2 C2 cl2 fp2).sim σ H' env h bs Q er hr p⟩
theorem zqZ (he : ∀ (s : Shared) (H : Hp) (C : Addr) (cl : List (Str × Addr)) (fp : List Addr),GJ ci (X.blk s H scope (compEnvC scope cl C X.env) fp) tg (t s H C cl fp) k js) : ∀ (s : Shared) (H : Hp) (C : Addr) (cl : List (Str × Addr)) (fp : List Addr),GJ ci (X.blk s H scope (compEnvC scope cl C X.env) fp) tg (zpQ t) k js:=
  fun s H C cl fp=>⟨⟨fun pins s' σ H' v u Q I r h=>(he s H C cl fp).pg.run pins s' σ H' v u Q I r (h s H C cl fp)⟩,fun v d σ H' env env' h bs Q r er hr e q=>fun s2 H2 C2 cl2 fp2=>(he s2 H2 C2 cl2 fp2).sim v d σ H' env env' h bs Q r er hr e q⟩
theorem zh1 (hc : X.calm = true) (hN : X.N.Nodup) (hi : IJ ci X W tg iter wi fi) (ok : BlkOk X.N X.env.scope scope own) (ho : own.map (·.2) = jo) (hjs : ∀ j ∈ js, j ∈ own.map (·.2))
    (hg : ∀ (s : Shared) (H : Hp) (C : Addr) (cl : List (Str × Addr)) (fp : List Addr), GJ ci (X.blk s H scope (compEnvC scope cl C X.env) fp) tg (t s H C cl fp) k js) (ht : ∀ (s : Shared) (H : Hp) (C : Addr) (cl : List (Str × Addr)) (fp : List Addr), TsJ ci (X.blk s H scope (compEnvC scope cl C X.env) fp) ifs (tt s H C cl fp) ft)
    (he : ∀ (s : Shared) (H : Hp) (C : Addr) (cl : List (Str × Addr)) (fp : List Addr), EJ ci (X.blk s H scope (compEnvC scope cl C X.env) fp) W0 elt (te s H C cl fp) fe) (hs : ∀ x, foldedSetIterable iter X.env x = pure x := by intro _; rfl) :
    EJ ci X W (.ListComp elt [⟨tg, iter, ifs, 0⟩] scope pos) (tLc wi (zpQ t) (zpv tt) (zry te) jo) (zcU fi k ft fe jo) := by
  subst ho
  exact zrb hc hN hi ok hjs (zqZ hg) (zqT ht) (zrQ he) hs
theorem zjh (i : Nat) (hc : X.calm = true) (hN : X.N.Nodup) (hi : IJ ci X W tg iter wi fi) (ok : BlkOk X.N X.env.scope scope own) (ho : own.map (·.2) = jo) (hjs : ∀ j ∈ js, j ∈ own.map (·.2))
    (hg : ∀ (s : Shared) (H : Hp) (C : Addr) (cl : List (Str × Addr)) (fp : List Addr), GJ ci (X.blk s H scope (compEnvC scope cl C X.env) fp) tg (t s H C cl fp) k js) (ht : ∀ (s : Shared) (H : Hp) (C : Addr) (cl : List (Str × Addr)) (fp : List Addr), TsJ ci (X.blk s H scope (compEnvC scope cl C X.env) fp) ifs (tt s H C cl fp) ft)
    (he : ∀ (s : Shared) (H : Hp) (C : Addr) (cl : List (Str × Addr)) (fp : List Addr), EJ ci (X.blk s H scope (compEnvC scope cl C X.env) fp) W0 elt (te s H C cl fp) fe) (hs : ∀ x, foldedSetIterable iter X.env x = pure x := by intro _; rfl)
    (hy : X.N[i]? = some y := by rfl) (hyl : X.env.scope.names.lookup y = some .local := by rfl) (hsw : swapsWith (.ListComp elt [⟨tg, iter, ifs, 0⟩] scope pos) (some (.Name y py)) spos.line X.env = pure true := by exact sw_true rfl rfl rfl (by decide +kernel)) :
    SJ ci X W (.Assign [.Name y py] (.ListComp elt [⟨tg, iter, ifs, 0⟩] scope pos) spos) (tAsg (tLc wi (zpQ t) (zpv tt) (zry te) jo) (gName i)) (zcR (zfL fi k ft fe jo) (zaB i)) := by
  subst ho
  exact zkt i hc hN hi ok hjs (zqZ hg) (zqT ht) (zrQ he) hs hy hyl hsw
end
inductive Seg where
  | d (i : Nat) | m (i : Nat) | k (i : Nat)
def zgr {α : Type} (us its mv ws : List α) : List Seg -> List α
  | []=>us
  | .d i :: r=>zgr (us ++ (its.drop i).take 1) its mv ws r
  | .m i :: r=>zgr (us ++ (mv.drop i).take 1) its mv ws r
  | .k i :: r=>zgr (us ++ (ws.drop i).take 1) its mv ws r
theorem zeN {its mv ws : List Value} {dvs mvs zs : List V} (r1 : Vals dvs its) (r2 : Vals mvs mv) (r3 : Vals zs ws) : ∀ (sg : List Seg) {us : List Value} {vs : List V},Vals vs us -> Vals (zgr vs dvs mvs zs sg) (zgr us its mv ws sg)
  | [],_,_,r=>r
  | .d i :: sg,_,_,r=>zeN r1 r2 r3 sg (r.append ((r1.drop i).take 1))
  | .m i :: sg,_,_,r=>zeN r1 r2 r3 sg (r.append ((r2.drop i).take 1))
  | .k i :: sg,_,_,r=>zeN r1 r2 r3 sg (r.append ((r3.drop i).take 1))
theorem zeG {g : G} {bs : List Addr} {H : Hp} {dds mds es : List D} {dvs mvs zs : List V} (r1 : Reps g bs H dds dvs) (r2 : Reps g bs H mds mvs) (r3 : Reps g bs H es zs) : ∀ (sg : List Seg) {ds : List D} {vs : List V},Reps g bs H ds vs -> Reps g bs H (zgr ds dds mds es sg) (zgr vs dvs mvs zs sg)
  | [],_,_,r=>r
  | .d i :: sg,_,_,r=>zeG r1 r2 r3 sg (r.append ((r1.drop i).take 1))
  | .m i :: sg,_,_,r=>zeG r1 r2 r3 sg (r.append ((r2.drop i).take 1))
  | .k i :: sg,_,_,r=>zeG r1 r2 r3 sg (r.append ((r3.drop i).take 1))
def dS (sg : List Seg) (dds mds : List D) : List D -> List D -> List D:=fun ds es=>zgr ds dds mds es sg
def zo0 (a b c : Nat) : Seg -> Bool
  | .d i=>decide (i < a)
  | .m i=>decide (i < b)
  | .k i=>decide (i < c)
theorem zfm {α : Type} {its mv ws : List α} : ∀ (sg : List Seg) {us : List α},sg.all (zo0 its.length mv.length ws.length) = true -> (zgr us its mv ws sg).length = us.length + sg.length
  | [],us,_=>rfl
  | .d i :: sg,us,h=>by
    obtain ⟨h1,h2⟩:=Bool.and_eq_true_iff.mp (show (decide (i < its.length) && sg.all _) = true from h)
    have:=of_decide_eq_true h1
    rw [zgr,zfm sg h2,List.length_append,List.length_take,List.length_drop,List.length_cons]; omega
  | .m i :: sg,us,h=>by
    obtain ⟨h1,h2⟩:=Bool.and_eq_true_iff.mp (show (decide (i < mv.length) && sg.all _) = true from h)
    have:=of_decide_eq_true h1
    rw [zgr,zfm sg h2,List.length_append,List.length_take,List.length_drop,List.length_cons]; omega
  | .k i :: sg,us,h=>by
    obtain ⟨h1,h2⟩:=Bool.and_eq_true_iff.mp (show (decide (i < ws.length) && sg.all _) = true from h)
    have:=of_decide_eq_true h1
    rw [zgr,zfm sg h2,List.length_append,List.length_take,List.length_drop,List.length_cons]; omega
section
variable {ci : Nat -> String × List String} {P : Program} {w : World} {K : PySem.W.Frag} {mg : Str -> Option Value} {base : Heap} {f : Addr} {fd : FuncData} {ps ks : List Str} {k n : Nat} {G : List D -> Hs -> R D} {x qual : Str} {params : Arguments} {body : List Stmt} {scope : Scope} {dvs : List V} {kws : List (Str × V)}
theorem FnC.kwS {its mv : List Value} {mvs : List V} {sg : List Seg} {dds mds : List D} (np : Nat) (h : FnOk P w K mg base (L2.CX P w) k f fd ps (spG ⟨K, mg, ci⟩ n G)) (hb : KBn K fd ps np ks (fun us ws => zgr us its mv ws sg) (fun vs zs => zgr vs dvs mvs zs sg))
    (hd : ∀ bs H, Reps ⟨K, mg, ci⟩ bs H dds dvs) (hm : ∀ bs H, Reps ⟨K, mg, ci⟩ bs H mds mvs) (hs : sg.all (zo0 dds.length mds.length ks.length) = true) (hn : np + sg.length = n) : FnC ci P w K mg base k f ks (kwF np ks.length (dS sg dds mds) G) :=
  FnC.kw np h hb fun {bs H ds es vs zs} r1 r2 l1 l2 => ⟨zeG (hd bs H) (hm bs H) r2 sg r1, by unfold dS; rw [zfm sg (by rw [l2]; exact hs), l1]; exact hn⟩
theorem zoS (F : FunD K x qual params body scope dvs kws f fd) (np : Nat) (ks : List Str) (ms : List (Str × V)) (sg : List Seg) (hd : dvs ≠ []) (hk : kws ≠ []) (hms : ∀ q ∈ ms, q ∈ kws)
    (h : ∀ (T D : Addr) (doc pm : Value) (an : Option Addr) (cdv ct : Value) (us its mv ws : List Value), us.length = np -> its.length = dvs.length -> mv.length = ms.length -> ws.length = ks.length ->
      ∃ k, bindArgs (PySem.W.fnOf x qual params body scope (.ref T) (.ref D) doc pm an cdv ct) ⟨us, ks.zip ws⟩ = seqItems? (.ref T) >>= k /\ KwChain D ((ms.map (·.1)).zip mv) (k (some its.toArray)) (ps.zip (zgr us its mv ws sg))) :
    ∃ its mv : List Value, KBn K fd ps np ks (fun us ws => zgr us its mv ws sg) (fun vs zs => zgr vs dvs (ms.map (·.2)) zs sg) :=
  FunD.kbinds (ps := ps) F np ks ms (fun us its mv ws => zgr us its mv ws sg) hd hk hms (fun {vs ds mz zs us its mv ws} r1 r2 r3 r4 => zeN r2 r3 r4 sg r1) h
end
theorem zlK {ci : Nat -> String × List String} {P : Program} {w : World} {K : PySem.W.Frag} {mg : Str -> Option Value} {base : Heap} {x qual pv : Str} {st : Stmt} {f : Addr} {fd : FuncData} {N ps : List Str} {k np : Nat} {fb : En -> Hs -> S} {kws : List (Str × V)} (hps : ps.length = np)
    (F : FunD K x qual (defArgs st) (defBody st) (defScope st) [] kws f fd) (S : FnScope N (ps ++ [pv]) (defScope st))
    (hbind : ∀ (kV doc pm : Value) (an : Option Addr) (cdv ct : Value) (us rest : List Value), us.length = ps.length -> bindArgs (PySem.W.fnOf x qual (defArgs st) (defBody st) (defScope st) .none kV doc pm an cdv ct) ⟨us ++ rest, []⟩ = (newTuple rest >>= fun t => pure (ps.zip us ++ [(pv, t)])))
    (hb : ∀ (cdv : Value) (A : Around) (outer : List Env) (s : Shared) (H : Hp) (E : XK), Room k (A.deeper (PyProof.Rows.envOfC qual (defScope st) s.heap.objs.size f cdv)) -> ∃ t, SsJ ci (zbJ P w K mg base N qual st f cdv A outer s H E) (zdz E) (defBody st) t fb) :
    FnC ci P w K mg base (k + 1) f [] (zgg np (zbK N.length fb)) := by
  obtain ⟨oc, od, dV, kV, doc, pm, an, cdv, ct, osl, rfl, lk, hcd, hD, hK⟩ := F.ex
  have eD : dV = .none := by
    rcases hD with ⟨_, e⟩ | ⟨e, _⟩
    · exact e
    · exact absurd rfl e
  subst eD
  refine ⟨fun A outer s H us ws vs zs Q E hr e0 r rz hz ⟨bs, hh, ds, es, h1, h2, h3, p⟩ => ?_⟩
  unfold zgg at p
  split at p
  case isFalse => exact p.elim
  rename_i hl
  have hvl : vs.length = us.length := r.length
  have hdl : ds.length = vs.length := h2.length
  have nz : H s.heap.objs.size = none := e0.hok.fresh (Nat.le_refl _)
  obtain ⟨u1, u2, rfl, r1, r2⟩ : ∃ u1 u2, us = u1 ++ u2 /\ Vals (vs.take np) u1 /\ Vals (vs.drop np) u2 := StX.vals_split (by rw [List.take_append_drop]; exact r)
  have l1 : u1.length = ps.length := by rw [<- r1.length, List.length_take, hps]; omega
  have l2 : (vs.drop np).length <= sizeLine := by rw [<- (h2.drop np).length, zcw]; exact hl.2
  rw [show ([] : List Str).zip ws = [] from rfl]
  refine StX.run_bnd lk hcd S hr.r e0 (G := fun xs H2 => ∃ q, H q = none /\ xs = vs.take np ++ [V.ref q] /\ H2 = upd H q (.tup (vs.drop np))) (fun A' Ex Q' q => ?_) fun s2 H2 xs hx hr2 => ?_
  · rw [hbind _ _ _ _ _ _ u1 u2 l1]
    refine wpAny_bind (wpAny_newTuple (wpAny_pure ?_) (by rw [<- r2.length]; exact l2))
    have lay := StX.un_laid (fs := frs outer) (s := s) (o := ({ cls := .type "tuple", data := .seq u2.toArray } : Obj)) (u := .tup (vs.drop np)) nz
    have z := q _ _ (vs.take np ++ [V.ref s.heap.objs.size]) (u1 ++ [Value.ref s.heap.objs.size]) (StX.env0_laid e0 (show ObjOk P w (upd H s.heap.objs.size (.tup (vs.drop np))) (s.heap.push ({ cls := .type "tuple", data := .seq u2.toArray } : Obj)) s.heap.objs.size (.tup (vs.drop np)) from ⟨l2, u2, r2, ⟨_, Heap.get?_push_size _ rfl, rfl, _, rfl⟩⟩)) lay rfl (fun e s' => StX.cxUp outer s H _ _ E e s' lay (fun b o q => Heap.get?_push_of_some _ q) rfl) (r1.append (.cons rfl .nil))
      (by rw [List.length_append, List.length_append, r1.length, l1]; rfl) ⟨_, nz, rfl, rfl⟩
    rw [List.zip_append l1.symm] at z
    exact z
  · obtain ⟨q, hq, rfl, rfl⟩ := hx
    obtain ⟨t, hj⟩ := hb cdv A outer s2 _ E ⟨hr2, hr.gd⟩
    exact ⟨t, hj.pss, zhC hj.sim (h1.new hq) (ds := ds.take np ++ [Ev.D.tup (ds.drop np)]) (((h2.take np).mono (.new hq)).append (.cons (.tup (.inl ⟨h1.out hq, .inl upd_same⟩) ((h2.drop np).mono (.new hq))) .nil)) (zaU.mono (.new hq) p)⟩
namespace Fx
open He
abbrev Fr:=PySem.W.Frag
def allB (fs : List (Fr -> Bool)) (K : Fr) : Bool:=fs.all fun f=>f K
theorem at_ {fs : List (Fr -> Bool)} {K : Fr} (h : allB fs K = true) (i : Nat) {f : Fr -> Bool} (e : fs[i]? = some f) : f K = true:=List.all_eq_true.mp h f (List.mem_of_getElem? e)
def asZ (g : Addr -> Option Obj) (n : Nat) : List Addr:=asD g n ++ [cStatics]
abbrev AlZ : Type:=AlD × Bool
def obsZ (n : Nat) (fn : List DefD) (fs : List (Fr -> Bool)) (g : Addr -> Option Obj) : AlZ:=(obsD [] fn (frG g (asZ g n)),allB fs (frG g (asZ g n)))
def hookZ (n : Nat) (fn : List DefD) (fs : List (Fr -> Bool)) : PySem.W.Hook where
  α:=AlZ
  obs:=fun s=>obsZ n fn fs s.heap.get?
  val:=fun _=>(valD fn,true)
  says:=fun _ h=>∃ K : Fr,K.In h /\ SaysD [] fn K /\ allB fs K = true
  of:=fun _ _ e=>⟨_,frG_in,congrArg (fun z : AlZ=>z.1) e,congrArg (fun z : AlZ=>z.2) e⟩
  keeps:=fun _ _ _ ⟨K,hK,c⟩ k=>⟨K,PySem.W.Frag.In.keeps hK k,c⟩
mutual
def zga (K : Fr) : Nat -> D -> Value -> Bool
  | 0,_,_=>false
  | _ + 1,.non,.none=>true
  | _ + 1,.bl b,.bool c=>b == c
  | _ + 1,.int i,.int j _=>decide (i = j)
  | _ + 1,.str s,.str t _=>decide (s = t) && PyData.strOk s
  | n + 1,.tup ds,.ref a=>(match K.lookup a with
    | some ⟨.type c,_,.seq its _,_⟩=>decide (c = "tuple") && (decide (its.size <= sizeLine) && zhn K n ds its.toList)
    | _=>false)
  | n + 1,.rol ds,.ref a=>(match K.lookup a with
    | some ⟨.type c,none,.seq its _,_⟩=>decide (c = "list") && (decide (its.size <= sizeLine) && zhn K n ds its.toList)
    | _=>false)
  | _,_,_=>false
def zhn (K : Fr) : Nat -> List D -> List Value -> Bool
  | 0,_,_=>false
  | _ + 1,[],[]=>true
  | n + 1,d :: ds,v :: vs=>zga K n d v && zhn K n ds vs
  | _,_,_=>false
end
section
variable {ci : Nat -> String × List String} {K : Fr} {mg : Str -> Option Value} {h : Heap}
mutual
theorem zil : ∀ (n : Nat) {d : D} {u : Value},zga K n d u = true -> ∃ v,RelV v u /\ zrx ci K mg d v
  | 0,_,_,h=>by rw [zga] at h; cases h
  | n + 1,d,u,h=>by
    cases d with
    | non=>cases u <;> first | exact ⟨.non,rfl,fun _ _=>.non⟩ | (simp [zga] at h)
    | bl b =>
      cases u with
      | bool c =>
        rw [zga] at h
        obtain rfl:=eq_of_beq h
        exact ⟨.bl b,rfl,fun _ _=>.bl b⟩
      | _=>simp [zga] at h
    | int i =>
      cases u with
      | int j t =>
        rw [zga] at h
        obtain rfl:=of_decide_eq_true h
        exact ⟨.int i,⟨t,rfl⟩,fun _ _=>.int i⟩
      | _=>simp [zga] at h
    | str s =>
      cases u with
      | str z t =>
        rw [zga] at h
        obtain ⟨h1,h2⟩:=ba h
        obtain rfl:=of_decide_eq_true h1
        exact ⟨.str s,⟨t,rfl⟩,fun _ _=>.str h2⟩
      | _=>simp [zga] at h
    | tup ds =>
      cases u with
      | ref a =>
        rw [zga] at h
        split at h
        · rename_i c od its m sl q
          obtain ⟨h1,h2⟩:=ba h
          obtain ⟨h3,h4⟩:=ba h2
          obtain rfl:=of_decide_eq_true h1
          obtain ⟨vs,r1,r2⟩:=zgX n h4
          exact ⟨.ref a,rfl,fun bs H=>.tup (.inr ⟨_,its,m,q,rfl,rfl,of_decide_eq_true h3,r1⟩) (r2 bs H)⟩
        · cases h
      | _=>simp [zga] at h
    | rol ds =>
      cases u with
      | ref a =>
        rw [zga] at h
        split at h
        · rename_i c its m sl q
          obtain ⟨h1,h2⟩:=ba h
          obtain ⟨h3,h4⟩:=ba h2
          obtain rfl:=of_decide_eq_true h1
          obtain ⟨vs,r1,r2⟩:=zgX n h4
          exact ⟨.ref a,rfl,fun bs H=>.rol (.inr ⟨_,its,m,q,rfl,rfl,rfl,of_decide_eq_true h3,r1⟩) (r2 bs H)⟩
        · cases h
      | _=>simp [zga] at h
    | lst ds=>simp [zga] at h
    | obj c ds=>simp [zga] at h
    | ref m=>simp [zga] at h
    | dct ks ds=>simp [zga] at h
    | dnt ks ds=>simp [zga] at h
theorem zgX : ∀ (n : Nat) {ds : List D} {us : List Value},zhn K n ds us = true -> ∃ vs,Vals vs us /\ ∀ bs H,Reps ⟨K,mg,ci⟩ bs H ds vs
  | 0,_,_,h=>by rw [zhn] at h; cases h
  | n + 1,[],[],_=>⟨[],.nil,fun _ _=>.nil⟩
  | n + 1,[],_ :: _,h=>by simp [zhn] at h
  | n + 1,_ :: _,[],h=>by simp [zhn] at h
  | n + 1,d :: ds,u :: us,h=>by
    rw [zhn] at h
    obtain ⟨h1,h2⟩:=ba h
    obtain ⟨v,r1,r2⟩:=zil n h1
    obtain ⟨vs,r3,r4⟩:=zgX n h2
    exact ⟨v :: vs,.cons r1 r3,fun bs H=>.cons (r2 bs H) (r4 bs H)⟩
end
def glB (x : Str) (d : D) (K : Fr) : Bool:=match PySem.W.nsIn K mainGlobals x with
  | some (some u)=>zga K 40 d u
  | _=>false
theorem gl_ok (X : K.In h) (G : h.Ns mainGlobals mg) {x : Str} {d : D} (c : glB x d K = true) : GlC ci K mg x d:=by
  unfold glB at c
  split at c
  · rename_i u q
    obtain ⟨v,r1,r2⟩:=zil (ci:=ci) (mg:=mg) 40 c
    exact ⟨v,u,PySem.W.mg_of X G q,r1,r2⟩
  · cases c
def conB (x f : Str) (d : D) (K : Fr) : Bool:=(Fa.glo x).ok K && (PySem.W.readsIn K (ga K x) (.type "type") && (decide (PySem.W.specialIn K (.ref (ga K x)) "__getattribute__" = some (some (.builtin "type.__getattribute__"))) && (match PySem.W.findCls K (.ref (ga K x)) (.type "type") f with
  | some (.val u)=>zga K 40 d u
  | _=>false)))
theorem con_ok (X : K.In h) (G : h.Ns mainGlobals mg) {x f : Str} {d : D} (c : conB x f d K = true) : zok ci K mg x f d:=by
  obtain ⟨c1,c⟩:=ba c
  obtain ⟨c2,c⟩:=ba c
  obtain ⟨c3,c⟩:=ba c
  split at c
  · rename_i u q
    obtain ⟨v,r1,r2⟩:=zil (ci:=ci) (mg:=mg) 40 c
    exact ⟨ga K x,.type "type",v,u,glo_ok X G c1,⟨c2,of_decide_eq_true c3⟩,⟨q,r1⟩,r2⟩
  · cases c
def fldB (x f : Str) (K : Fr) : Bool:=(Fa.glo x).ok K && ((Fa.cls x).ok K && (Fa.noat x f).ok K)
theorem fld_ok (X : K.In h) (G : h.Ns mainGlobals mg) {x f : Str} {c i : Nat} (b : fldB x f K = true) (hx : Str.ofString (ci c).1 = x) (h1 : ((ci c).2.map Str.ofString)[i]? = some f) (h2 : ∀ j,j < i -> ((ci c).2.map Str.ofString)[j]? ≠ some f) : FldAt ci K mg f c i:=by
  obtain ⟨b1,b⟩:=ba b
  obtain ⟨b2,b3⟩:=ba b
  refine ⟨h1,h2,fun C hC=>?_⟩
  rw [hx,glo_ok X G b1] at hC
  cases hC
  exact ⟨cls_ok b2,noat_ok b3⟩
theorem fld_no {x f : Str} {c i : Nat} (b : mg x = none) (hx : Str.ofString (ci c).1 = x) (h1 : ((ci c).2.map Str.ofString)[i]? = some f) (h2 : ∀ j,j < i -> ((ci c).2.map Str.ofString)[j]? ≠ some f) : FldAt ci K mg f c i:=
  ⟨h1,h2,fun C hC=>by rw [hx,b] at hC; cases hC⟩
def zqu (C : Addr) (K : Fr) : Bool:=decide (PySem.W.findIn K (.ref C) "__class__" = some (some (.builtin "object.__class__"))) && (decide (PySem.W.specialIn K (.builtin "object.__class__") "__get__" = some (some (.builtin "getset_descriptor.__get__"))) &&
  (decide (PySem.W.takesIn K (.builtin "object.__class__") = some true) && decide (PySem.W.mroIn K C (.type "object") = some true)))
def zqR : List String:=["NoneType","bool","int","str","list","tuple"]
def isiB (ci : Nat -> String × List String) (ty : Ty) (cs : List Nat) (u : Fr -> Value) (K : Fr) : Bool:=(zqR.all fun n=>decide (PySem.W.kitOne K (.type n) (u K) = some (zj3 ty n))) &&
  (cs.all fun c=>(Fa.glo (Str.ofString (ci c).1)).ok K && ((Fa.cls (Str.ofString (ci c).1)).ok K && (zqu (ga K (Str.ofString (ci c).1)) K && decide (PySem.W.kitOne K (.ref (ga K (Str.ofString (ci c).1))) (u K) = some (znC ty c)))))
theorem isi_ok (X : K.In h) (G : h.Ns mainGlobals mg) {ty : Ty} {cs : List Nat} {u : Fr -> Value} (b : isiB ci ty cs u K = true) : IsiF ci K mg ty cs (u K):=by
  obtain ⟨b1,b2⟩:=ba b
  refine ⟨fun n hn=>of_decide_eq_true (List.all_eq_true.mp b1 n hn),fun c hc C hC=>?_⟩
  have b3:=List.all_eq_true.mp b2 c hc
  obtain ⟨b4,b3⟩:=ba b3
  obtain ⟨b5,b3⟩:=ba b3
  obtain ⟨b6,b7⟩:=ba b3
  rw [glo_ok X G b4] at hC
  cases hC
  obtain ⟨d1,d⟩:=ba b6
  obtain ⟨d2,d⟩:=ba d
  obtain ⟨d3,d4⟩:=ba d
  exact ⟨⟨cls_ok b5,of_decide_eq_true d1,of_decide_eq_true d2,of_decide_eq_true d3,of_decide_eq_true d4⟩,of_decide_eq_true b7⟩
theorem isiC_ok (X : K.In h) (G : h.Ns mainGlobals mg) {x : Str} {c : Nat} {cs : List Nat} (b0 : (Fa.glo x).ok K = true) (hx : Str.ofString (ci c).1 = x) (b : isiB ci (.cls c) cs (fun K=>.ref (ga K x)) K = true) : zp3 ci K mg c cs:=
  ⟨ga K x,by rw [hx]; exact glo_ok X G b0,isi_ok X G b⟩
section
variable {P : Program} {w : World} {base : Heap} {c k : Nat} {x m : Str} {ks : List Str} {F : List D -> List D -> Hs -> R D}
theorem make_ok (X : K.In h) (G : h.Ns mainGlobals mg) (b0 : (Fa.glo x).ok K = true) (b1 : (Fa.mkr x).ok K = true) (hx : Str.ofString (ci c).1 = x) (hF : FnC ci P w K mg base k (fAd K (x,some "__init__")) ks F) : zhw ci P w K mg base c k ks F:=
  ⟨ga K x,_,by rw [hx]; exact glo_ok X G b0,mkr_ok b1,hF⟩
theorem name_ok (X : K.In h) (G : h.Ns mainGlobals mg) (b0 : (Fa.glo x).ok K = true) (b1 : PySem.W.keepIn K (.ref (fAd K (x,none))) = true) (hF : FnC ci P w K mg base k (fAd K (x,none)) ks F) : zbh ci P w K mg base x k ks F:=
  ⟨ga K x,glo_ok X G b0,b1,hF⟩
end
end
end Fx
theorem zhA {g : G} {bs : List Addr} {H : Hp} : ∀ ns : List Int,Reps g bs H (ns.map D.int) (ns.map V.int)
  | []=>.nil
  | i :: r=>.cons (.int i) (zhA r)
theorem law_sp {K : PySem.W.Frag} {mg : Str -> Option Value} {ci : Nat -> String × List String} {H : Hp} {a : Addr} {ns : List Int} {G : List D -> Hs -> R D} (hS : SqL K H a (ns.map V.int)) (hG : ∃ h', G [.rol (ns.map D.int)] [] = .ok (.bl true) h') :
    spG ⟨K, mg, ci⟩ 1 G [.ref a] H (fun v _ => v = .bl true) fun _ _ _ => False := by
  obtain ⟨h', e⟩ := hG
  refine ⟨[], [], [.rol (ns.map D.int)], rfl, ⟨rfl, List.nodup_nil, fun i o z => by simp at z⟩, .cons (.rol ?_ (zhA ns)) .nil, ?_⟩
  · rcases hS with h | h
    · exact .inl ⟨by simp, h⟩
    · exact .inr h
  · rw [e]
    intro bs' H' v _ _ r
    cases r
    rfl
theorem walk_Z {l : PySem.W.OpenLaw} {n k : Nat} {q : Program} {loose : List Str} {XP : (Str -> Option Value) -> Heap -> Prop} {nn : Nat} {fn : List He.DefD} {fs : List (Fx.Fr -> Bool)} {d : DefRec} {ci : Nat -> String × List String} {G : List D -> Hs -> R D} {x nm : Str}
    (hn : l.most = some n) (hn2 : n <= sizeLine) (hdf : d.params.defaults = []) (hnm : d.name = nm) (hr : Room k callerA)
    (hG : ∀ ns : List Int, ns.length <= n -> (∀ z ∈ ns, Builtin.Int.intBits z <= 1048576) -> ∃ h', G [.rol (ns.map D.int)] [] = .ok (.bl true) h')
    (F : ∀ (w : World) (K : PySem.W.Frag) (mg : Str -> Option Value) (fa : Addr) (h : Heap), K.In h -> He.SaysD [] fn K -> Fx.allB fs K = true -> h.Ns mainGlobals mg -> mg nm = some (.ref fa) ->
      ∃ fd : FuncData, (∀ (s : Shared) (u : Value), BindsTo s fd ⟨[u], []⟩ [(x, u)]) /\ ∀ base : Heap, K.In base -> base.Ns mainGlobals mg -> FnOk l.prog w K mg base (L2.CX l.prog w) k fa fd [x] (spG ⟨K, mg, ci⟩ 1 G)) :
    PySem.W.WalkO q loose XP (Fx.hookZ nn fn fs).says l.row.toRowW d [] (fun f vs => PySem.call f vs) := by
  refine Att.attach_callB hn hdf fun w s₀ s₁ mg mb fa o pm cd doc a vs ns Gr Y ho hd hcd hmg hobj hints hlen hbits hg => ?_
  obtain ⟨K, KX, c1, c2⟩ := Y
  obtain ⟨fd, hb, hF⟩ := F w K mg fa _ KX c1 c2 Gr.T.g (by rw [<- hnm]; exact hmg)
  exact law_callG KX Gr.T.g Gr.T.b Gr.T.builtins Gr.T.nolimit hg hobj hints (Nat.le_trans hlen hn2) hr hF hb fun H hO hS => law_sp hS (hG ns hlen hbits)
end Ev
namespace Ev
open PySem L2
section
variable {env : En} {h h1 : Hs} {i j : Nat} {d : D} {f fa fb fc k : En -> Hs -> R D} {fl : En -> Hs -> R (List D)} {c c2 : En -> Hs -> R Bool} {s s2 : En -> Hs -> S} {op op2 : D -> D -> Hs -> R D} {kd : D -> En -> Option En}
@[simp] theorem zkD : zag i env h = match env[i]? with
  | some (some d)=>.ok d h
  | _=>.bad:=rfl
@[simp] theorem zos : eC d env h = .ok d h:=rfl
@[simp] theorem zkF : zas op fa fb env h = (fa env h).bind fun x h1=>(fb env h1).bind fun y h2=>op x y h2:=rfl
@[simp] theorem zrG {b : Bool} : toB (.bl b) h = .ok b h:=rfl
@[simp] theorem zpu : za3 f env h = (f env h).bind toB:=rfl
@[simp] theorem zn4 : zfe op op2 fa fb fc env h = (fa env h).bind fun x h1=>(fb env h1).bind fun y h2=>(op x y h2).bind fun z h3=>(toB z h3).bind fun k h4=>if k = true then (fc env h4).bind fun w h5=>op2 y w h5 else .ok (.bl false) h4:=rfl
@[simp] theorem zrU {o : D -> Hs -> R D} : eUn o fa env h = (fa env h).bind o:=rfl
@[simp] theorem zqq : zgO fa env h = (fa env h).bind zh5:=rfl
@[simp] theorem zpW : zdy c env h = (c env h).bind fun b h1=>.ok (!b) h1:=rfl
@[simp] theorem zpO : zk2 c c2 env h = (c env h).bind fun b h1=>if b = true then c2 env h1 else .ok false h1:=rfl
@[simp] theorem zrc : zgf c c2 env h = (c env h).bind fun b h1=>if b = true then .ok true h1 else c2 env h1:=rfl
@[simp] theorem zqp : zkQ fa fb env h = (fa env h).bind fun x h1=>(zh5 x h1).bind fun b h2=>if b = true then fb env h2 else .ok x h2:=rfl
@[simp] theorem zrA : eOr fa fb env h = (fa env h).bind fun x h1=>(zh5 x h1).bind fun b h2=>if b = true then .ok x h2 else fb env h2:=rfl
@[simp] theorem zqo : zqK fa env h = (fa env h).bind fun x h1=>(zh5 x h1).bind fun b h2=>.ok (.bl (!b)) h2:=rfl
@[simp] theorem zrL : eIf c fa fb env h = (c env h).bind fun b h1=>if b = true then fa env h1 else fb env h1:=rfl
@[simp] theorem zkp : zaw env h = .ok [] h:=rfl
@[simp] theorem ziP : zac f fl env h = (f env h).bind fun x h1=>(fl env h1).bind fun xs h2=>.ok (x :: xs) h2:=rfl
@[simp] theorem zpm : zii f fl env h = (f env h).bind fun x h1=>match zhj h1 x with
  | some xs=>(fl env h1).bind fun ys h2=>.ok (xs ++ ys) h2
  | none=>.bad:=rfl
@[simp] theorem zre : zj5 fl env h = (fl env h).bind fun xs h1=>if xs.length <= big then .ok (.tup xs) h1 else .bad:=rfl
@[simp] theorem zrg : zgu fl env h = (fl env h).bind fun xs h1=>if xs.length <= big then .ok (.lst xs) h1 else .bad:=rfl
@[simp] theorem zk3 : zh8 fl env h = (fl env h).bind fun xs h1=>if xs.length <= big then .ok (.ref h1.length) (h1 ++ [.lst xs]) else .bad:=rfl
@[simp] theorem zrH : oNo env h = .ok none h:=rfl
@[simp] theorem zpE : zeK f env h = (f env h).bind fun x h1=>match x with
  | .int i=>.ok (some i) h1
  | _=>.bad:=rfl
@[simp] theorem zrE {o : D -> Option Int -> Option Int -> Hs -> R D} {lo hi : En -> Hs -> R (Option Int)} : eSl o fa lo hi env h = (fa env h).bind fun x h1=>(lo env h1).bind fun l h2=>(hi env h2).bind fun u h3=>o x l u h3:=rfl
@[simp] theorem ziY {o : List D -> Hs -> R D} : za7 o fl env h = (fl env h).bind o:=rfl
@[simp] theorem zp6 {tab : List (Nat × Nat)} : zqh tab f env h = (f env h).bind (zmG tab):=rfl
@[simp] theorem zqL {ty : Ty} {cs : List Nat} : zjq ty cs f env h = (f env h).bind (zhg ty cs):=rfl
@[simp] theorem znx : zov env h = .ok ([],[]) h:=rfl
@[simp] theorem zqV : zbM fl env h = (fl env h).bind fun xs h1=>.ok (xs,[]) h1:=rfl
@[simp] theorem zrV {n : Nat} {fk : En -> Hs -> R (List D)} : cKw n fl fk env h = (fl env h).bind fun xs h1=>(fk env h1).bind fun ys h2=>if ys.length = n then .ok (xs,ys) h2 else .bad:=rfl
@[simp] theorem zpX : zq4 f env h = (f env h).bind fun x h1=>match zhj h1 x with
  | some xs=>.ok (xs,[]) h1
  | none=>.bad:=rfl
@[simp] theorem zob {F : List D -> List D -> Hs -> R D} {fd : En -> Hs -> R DD2} : zaq F fd env h = (fd env h).bind fun d h1=>F d.1 d.2 h1:=rfl
@[simp] theorem zpy {n : Nat} {F : List D -> List D -> Hs -> R D} {fd : En -> Hs -> R DD2} : zru n F f fd env h = (f env h).bind fun x h1=>if zks n x h1 = true then (fd env h1).bind fun d h2=>F (x :: d.1) d.2 h2 else .bad:=rfl
@[simp] theorem znV {n : Nat} {F : List D -> List D -> Hs -> R D} {fd : En -> Hs -> R DD2} : zn0 n F fd env h = (fd env h).bind fun d h1=>(F (.ref h1.length :: d.1) d.2 (h1 ++ [.ins n []])).bind fun v h2=>match v with
  | .non=>.ok (.ref h1.length) h2
  | _=>.bad:=rfl
theorem zgP {n n' : Nat} {F : List D -> List D -> Hs -> R D} {fd : En -> Hs -> R DD2} {xs ys fs : List D} (e1 : fd env h = .ok (xs,ys) h1) (e2 : F (.ref h1.length :: xs) ys (h1 ++ [.ins n []]) = .ok .non (h1 ++ [.ins n' fs])) (e3 : D.nrs h1.length fs = true) : zeW n F fd env h = .ok (.obj n' fs) h1:=by
  unfold zeW
  rw [e1]
  simp only [R.bind_ok]
  rw [e2]
  simp only [R.bind_ok]
  rw [List.getElem?_append_right (Nat.le_refl _),Nat.sub_self]
  simp [e3]
@[simp] theorem zqN : zd2 env h = .nx env h:=rfl
@[simp] theorem zfr : zat s s2 env h = (s env h).seq s2:=rfl
@[simp] theorem zql : zsu env h = .brk env h:=rfl
@[simp] theorem zrS : sCt env h = .ct env h:=rfl
@[simp] theorem zpk : zh2 f env h = (f env h).toS env fun _ h1=>.nx env h1:=rfl
@[simp] theorem zrj : zc0 f env h = (f env h).toS env fun d h1=>.ret d h1:=rfl
@[simp] theorem zp4 : zqe env h = .ret .non h:=rfl
@[simp] theorem zrC : sIf c s s2 env h = (c env h).toS env fun b h1=>if b = true then s env h1 else s2 env h1:=rfl
@[simp] theorem zdY : zaB i d env = some (env.set i (some d)):=rfl
@[simp] theorem zp0 : zkc [] env = some env:=rfl
@[simp] theorem zoX {g : D -> En -> Option En} {ks : List D -> En -> Option En} {ds : List D} : zeL g ks (d :: ds) env = match g d env with
  | some env1=>ks ds env1
  | none=>none:=rfl
@[simp] theorem zqi {n : Nat} {ks : List D -> En -> Option En} {ds : List D} : zo9 n ks (.tup ds) env = if ds.length = n then ks ds env else none:=rfl
@[simp] theorem zjL : zcR f kd env h = (f env h).toS env fun d h1=>match kd d env with
  | some env1=>.nx env1 h1
  | none=>.bad:=rfl
@[simp] theorem zqI : zqA i j fl env h = (fl env h).toS env fun xs h1=>match xs with
  | [x,y]=>.nx ((env.set i (some x)).set j (some y)) h1
  | _=>.bad:=rfl
@[simp] theorem zp1 {o : Int -> Int -> Int} : zqQ i o f env h = match env[i]? with
  | some (some (.int a))=>(f env h).toS env fun y h1=>match y with
    | .int b=>.nx (env.set i (some (.int (o a b)))) h1
    | _=>.bad
  | _=>.bad:=rfl
@[simp] theorem zjw : zfH fa fb fc env h = (fc env h).toS env fun z h1=>(fa env h1).toS env fun x h2=>(fb env h2).toS env fun y h3=>match zgC x y z h3 with
  | some h4=>.nx env h4
  | none=>.bad:=rfl
@[simp] theorem zpo {tab : List (Nat × Nat)} : zif tab fa fb env h = (fb env h).toS env fun y h1=>(fa env h1).toS env fun x h2=>match zdX tab x y h2 with
  | some h3=>.nx env h3
  | none=>.bad:=rfl
@[simp] theorem zoh {n : Nat} : zcr n f env h = (f env h).toS env fun d h1=>.err n [d] env h1:=rfl
@[simp] theorem zrK {T : TyK} {o : D -> List D -> Hs -> R D} : eBM T o f fl env h = (f env h).bind fun x h1=>if zc7 T x h1 = true then (fl env h1).bind fun xs h2=>o x xs h2 else .bad:=rfl
@[simp] theorem zqw {T : TyK} {o : D -> List D -> Hs -> R D} : zsR T o f env h = (f env h).bind fun x h1=>if zc7 T x h1 = true then o x [] h1 else .bad:=rfl
@[simp] theorem zm1 : zfO env h = .ok true h:=rfl
@[simp] theorem zrv : zf6 f env h = (f env h).bind zm5:=rfl
@[simp] theorem ziM {a b : Int} : zc2 (.int a) (.int b) h = .ok (.int (a + b)) h:=rfl
@[simp] theorem zpr {a b : List D} : zc2 (.tup a) (.tup b) h = if a.length + b.length <= big then .ok (.tup (a ++ b)) h else .bad:=rfl
@[simp] theorem zpH {a b : List D} : zc2 (.lst a) (.lst b) h = if a.length + b.length <= big then .ok (.lst (a ++ b)) h else .bad:=rfl
@[simp] theorem zpV {a b : Int} : zs1 (.int a) (.int b) h = .ok (.int (a - b)) h:=rfl
theorem ziK {a b : Int} (e : (zgx a || zgx b || (znH a && znH b)) = true) : zd7 (.int a) (.int b) h = .ok (.int (a * b)) h:=by
  show (match znY a b with
    | some d=>R.ok d h
    | none=>.bad) = _
  unfold znY
  rw [if_pos e]
theorem zkn {i : Int} {z : Nat} (h1 : -(z : Int) <= i) (h2 : i <= z) : Nat.ble i.natAbs z = true:=Nat.ble_eq_true_of_le (by omega)
theorem zhh {a : Int} (h1 : -18446744073709551616 < a) (h2 : a < 18446744073709551616) : zgx a = true:=by
  show Nat.ble a.natAbs 18446744073709551615 = true
  exact zkn (by omega) (by omega)
theorem zaN {a b : Int} (h1 : -18446744073709551616 < a) (h2 : a < 18446744073709551616) : zd7 (.int a) (.int b) h = .ok (.int (a * b)) h:=ziK (by rw [zhh h1 h2]; rfl)
theorem mul_r {a b : Int} (h1 : -18446744073709551616 < b) (h2 : b < 18446744073709551616) : zd7 (.int a) (.int b) h = .ok (.int (a * b)) h:=ziK (by rw [zhh (a:=b) h1 h2]; simp)
theorem zkk {a b : Int} (h1 : 0 < b) (h2 : b < 2 ^ 400) : zeH (.int a) (.int b) h = .ok (.int (a / b)) h:=by
  show (match (if 0 < b /\ b.natAbs < 2 ^ 400 then some (D.int (a / b)) else none) with
    | some d=>R.ok d h
    | none=>.bad) = _
  rw [if_pos ⟨h1,by omega⟩]
theorem zaj {a b : Int} (h1 : 0 < b) (h2 : b < 18446744073709551616) : zeH (.int a) (.int b) h = .ok (.int (a / b)) h:=zkk h1 (Int.lt_trans h2 (by decide))
theorem zap {a b : Int} (h1 : 0 < b) : zh4 (.int a) (.int b) h = .ok (.int (a % b)) h:=by
  show (match (if 0 < b then some (D.int (a % b)) else none) with
    | some d=>R.ok d h
    | none=>.bad) = _
  rw [if_pos h1]
@[simp] theorem zqk {a b : Int} : ltD (.int a) (.int b) h = .ok (.bl (decide (a < b))) h:=rfl
@[simp] theorem zqD {a b : Int} : leD (.int a) (.int b) h = .ok (.bl (decide (a <= b))) h:=rfl
@[simp] theorem zrm {a b : Int} : gtD (.int a) (.int b) h = .ok (.bl (decide (b < a))) h:=rfl
@[simp] theorem zq3 {a b : Int} : geD (.int a) (.int b) h = .ok (.bl (decide (b <= a))) h:=rfl
@[simp] theorem zp8 {a : Int} : ztd (.int a) h = .ok (.int (-a)) h:=rfl
@[simp] theorem zqS {b : Bool} : zh5 (.bl b) h = .ok b h:=rfl
@[simp] theorem zpG {a : Int} : zh5 (.int a) h = .ok (a != 0) h:=rfl
@[simp] theorem zpq : zh5 .non h = .ok false h:=rfl
@[simp] theorem zpK {a : List D} : zh5 (.tup a) h = .ok (!a.isEmpty) h:=rfl
@[simp] theorem zpN {a : List D} : zh5 (.lst a) h = .ok (!a.isEmpty) h:=rfl
@[simp] theorem zpM : zf7 d .non h = .ok (.bl (isN d)) h:=rfl
@[simp] theorem zoA : zqF d .non h = .ok (.bl (!isN d)) h:=rfl
@[simp] theorem zpx {a : Int} : znZ [.int a] h = .ok (.int (if a < 0 then -a else a)) h:=rfl
@[simp] theorem zpz {a b : Int} : maxD [.int a,.int b] h = .ok (.int (if b > a then b else a)) h:=rfl
@[simp] theorem zpY {a b : Int} : minD [.int a,.int b] h = .ok (.int (if b < a then b else a)) h:=rfl
@[simp] theorem zhz {a : Int} : zeo [.int a] h = .ok (.int a) h:=rfl
@[simp] theorem zps {b : Bool} : zeo [.bl b] h = .ok (.int (if b = true then 1 else 0)) h:=rfl
@[simp] theorem znM {a : Int} : zl3 [.int a] h = .ok (.bl (a != 0)) h:=rfl
@[simp] theorem zoT {b : Bool} : zl3 [.bl b] h = .ok (.bl b) h:=rfl
@[simp] theorem zp2 {a : List D} : zd5 [.tup a] h = .ok (.int a.length) h:=rfl
@[simp] theorem zp7 {a : List D} : zd5 [.lst a] h = .ok (.int a.length) h:=rfl
@[simp] theorem zpZ {a : List D} : zd5 [.rol a] h = .ok (.int a.length) h:=rfl
@[simp] theorem zqf {a : List D} {n : Int} : ixD (.tup a) (.int n) h = match atI a n with
  | some d=>.ok d h
  | none=>.bad:=rfl
@[simp] theorem znz {a : List D} {n : Int} : ixD (.lst a) (.int n) h = match atI a n with
  | some d=>.ok d h
  | none=>.bad:=rfl
@[simp] theorem zrn {a : List D} {n : Int} : ixD (.rol a) (.int n) h = match atI a n with
  | some d=>.ok d h
  | none=>.bad:=rfl
@[simp] theorem zrs {a : List D} {l u : Option Int} : slD (.tup a) l u h = .ok (.tup (cutD a l u)) h:=rfl
@[simp] theorem zq6 {a : List D} {l u : Option Int} : slD (.lst a) l u h = .ok (.lst (cutD a l u)) h:=rfl
@[simp] theorem zpc {a : List D} : zhj h (.tup a) = some a:=rfl
@[simp] theorem zoQ {a : List D} : zhj h (.lst a) = some a:=rfl
@[simp] theorem zoV {a : List D} : zhj h (.rol a) = some a:=rfl
@[simp] theorem zgz {a : List D} : rdL h (.lst a) = some a:=rfl
@[simp] theorem zqE {a : List D} : rdL h (.rol a) = some a:=rfl
@[simp] theorem zpJ {a : List D} : zm5 (.tup a) h = .ok (a,[]) h:=rfl
@[simp] theorem zp5 {a : List D} : zm5 (.lst a) h = .ok (a,[]) h:=rfl
@[simp] theorem zpt {a : List D} : zm5 (.rol a) h = .ok (a,[]) h:=rfl
@[simp] theorem zrw {a b : Int} : eqD (.int a) (.int b) h = .ok (.bl (decide (a = b))) h:=by
  show R.ok (D.bl (PyData.eqv (.int a) (.int b))) h = _
  congr 2
@[simp] theorem zrd {a b : Int} : neD (.int a) (.int b) h = .ok (.bl (!decide (a = b))) h:=by
  show R.ok (D.bl (!PyData.eqv (.int a) (.int b))) h = _
  congr 2
@[simp] theorem zqm {a b : Str} : eqD (.str a) (.str b) h = .ok (.bl (decide (a = b))) h:=by
  show R.ok (D.bl (PyData.eqv (.str a) (.str b))) h = _
  congr 2
@[simp] theorem zrh {a b : Str} : neD (.str a) (.str b) h = .ok (.bl (!decide (a = b))) h:=by
  show R.ok (D.bl (!PyData.eqv (.str a) (.str b))) h = _
  congr 2
end
theorem zmP (m n : Nat) (h : n < m) : ixN m (n : Int) = some n:=by
  unfold ixN
  first
    | (rw [if_neg (by omega)]; simp; omega)
    | (simp; omega)
theorem atI_nat {xs : List D} {n : Nat} : atI xs (n : Int) = xs[n]?:=by
  unfold atI
  by_cases h : n < xs.length
  · rw [zmP _ _ h]; rfl
  · rw [List.getElem?_eq_none (by omega)]
    unfold ixN
    first
      | (rw [if_neg (by omega)]; simp; omega)
      | (simp; omega)
@[simp] theorem zsI {xs : List D} : atI xs 0 = xs[0]?:=atI_nat (n:=0)
@[simp] theorem zof {xs : List D} : atI xs 1 = xs[1]?:=atI_nat (n:=1)
@[simp] theorem zoL {xs : List D} : atI xs 2 = xs[2]?:=atI_nat (n:=2)
@[simp] theorem zrN {α : Type} {c : Prop} [Decidable c] {a b : α} {h : Hs} : (if c then R.ok a h else R.ok b h) = R.ok (if c then a else b) h:=by split <;> rfl
@[simp] theorem ite_int {c : Prop} [Decidable c] {a b : Int} : (if c then D.int a else D.int b) = D.int (if c then a else b):=by split <;> rfl
@[simp] theorem zrO {c : Prop} [Decidable c] {a b : Bool} : (if c then D.bl a else D.bl b) = D.bl (if c then a else b):=by split <;> rfl
@[simp] theorem ite_str {c : Prop} [Decidable c] {a b : Str} : (if c then D.str a else D.str b) = D.str (if c then a else b):=by split <;> rfl
@[simp] theorem zqO {n : Nat} {G : List D -> Hs -> R D} {ds es : List D} {h : Hs} : za2 n G ds es h = if ds.length = n then G ds h else .bad:=rfl
@[simp] theorem zpC {n : Nat} {G : List D -> Hs -> R D} {ds es : List D} {h : Hs} : zgg n G ds es h = if n <= ds.length /\ (ds.drop n).length <= big then G (ds.take n ++ [.tup (ds.drop n)]) h else .bad:=rfl
@[simp] theorem zrB {n m : Nat} {g : List D -> List D -> List D} {G : List D -> Hs -> R D} {ds es : List D} {h : Hs} : kwF n m g G ds es h = if ds.length = n /\ es.length = m then G (g ds es) h else .bad:=rfl
end Ev
namespace Ev
open PySem L2
section
variable {h : Hs} {c i : Nat} {fs : List D} {tab : List (Nat × Nat)}
@[simp] theorem zou : zj7 h (.obj c fs) = some (c,fs):=rfl
@[simp] theorem zoZ : zmG tab (.obj c fs) h = match zdK tab c with
  | some i=>match fs[i]? with
    | some d=>.ok d h
    | none=>.bad
  | none=>.bad:=rfl
@[simp] theorem zm4 {a b k : Nat} {r : List (Nat × Nat)} : zdK ((a,b) :: r) k = if a = k then some b else zdK r k:=rfl
@[simp] theorem znE {k : Nat} : zdK [] k = none:=rfl
@[simp] theorem zlW {y : D} : zdX tab (.ref h.length) y (h ++ [.ins c fs]) = match zdK tab c with
  | some i=>if fs.length < 900 then (match zlR fs i y with
    | some ds'=>some (h ++ [.ins c ds'])
    | none=>none) else none
  | none=>none:=by
  have e1 : (h ++ [O.ins c fs])[h.length]? = some (.ins c fs):=by simp
  have e2 : ∀ o,(h ++ [O.ins c fs]).set h.length o = h ++ [o]:=fun o=>by simp
  unfold zdX
  simp only [e1,e2]
  all_goals (cases zdK tab c <;> first | rfl | (dsimp only; split <;> first | rfl | (cases zlR fs _ y <;> rfl)))
@[simp] theorem znX {k : Nat} : zks k (.obj c fs) h = decide (c = k):=rfl
@[simp] theorem zno {cs : List Nat} {v : Int} : zhg .int cs (.int v) h = .ok (.bl true) h:=rfl
@[simp] theorem zl9 {cs : List Nat} {v : Int} : zhg .bool cs (.int v) h = .ok (.bl false) h:=rfl
@[simp] theorem znI {cs : List Nat} {v : Bool} : zhg .int cs (.bl v) h = .ok (.bl true) h:=rfl
@[simp] theorem zmx {cs : List Nat} {v : Bool} : zhg .bool cs (.bl v) h = .ok (.bl true) h:=rfl
@[simp] theorem zmz {cs : List Nat} {v : Str} : zhg .str cs (.str v) h = .ok (.bl true) h:=rfl
@[simp] theorem znw {cs : List Nat} {k : Nat} : zhg (.cls k) cs (.obj c fs) h = if c ∈ cs then .ok (.bl (decide (c = k))) h else .bad:=rfl
end
theorem zhO {hb : Hs} {k : D -> En -> Option En} {tt : En -> Hs -> R Bool} {fe : En -> Hs -> R D} {env : En} {g : D -> D} : ∀ {xs acc : List D}, (∀ x ∈ xs, ∃ e1, k x env = some e1 /\ (∀ h, tt e1 h = .ok true h) /\ ∀ h, fe e1 h = .ok (g x) h) -> acc.length + xs.length <= big ->
    zcE hb [] k tt fe env xs acc = .ok (acc ++ xs.map g) hb
  | [], acc, _, _ => by simp [zcE]
  | x :: xs, acc, hx, hl => by
    obtain ⟨e1, h1, h2, h3⟩ := hx x List.mem_cons_self
    rw [zcE, if_pos (zdg _ ▸ trivial), h1]
    dsimp only
    rw [h2]
    simp only [zci, R.bind_ok, if_true]
    rw [h3]
    simp only [zci, R.bind_ok]
    rw [if_pos ⟨trivial, by simp at hl; omega⟩]
    rw [zhO (fun y hy => hx y (List.mem_cons_of_mem _ hy)) (by simp at hl ⊢; omega)]
    simp
theorem zjF {env : En} {h h1 : Hs} {fi : En -> Hs -> R Src} {k : D -> En -> Option En} {tt : En -> Hs -> R Bool} {fe : En -> Hs -> R D} {own : List Nat} {g : D -> D} {xs : List D} (e : fi env h = .ok (xs, []) h1)
    (hx : ∀ x ∈ xs, ∃ e1, k x (zbD env own) = some e1 /\ (∀ h, tt e1 h = .ok true h) /\ ∀ h, fe e1 h = .ok (g x) h) (hl : xs.length <= big) (hn : D.nrs h1.length (xs.map g) = true) : zcU fi k tt fe own env h = .ok (.lst (xs.map g)) h1 := by
  unfold zcU
  rw [e]
  simp only [R.bind_ok]
  rw [zhO hx (by simpa using hl)]
  simp [hn]
theorem zar {m : Nat} {fb : En -> Hs -> S} {ds : List D} {h h' : Hs} {d : D} (e : fb (ds.map some ++ List.replicate (m - ds.length) none) h = .ret d h') : zbK m fb ds h = .ok d h':=by
  unfold zbK
  rw [e]
theorem zkx {m : Nat} {fb : En -> Hs -> S} {ds : List D} {h h' : Hs} {env : En} (e : fb (ds.map some ++ List.replicate (m - ds.length) none) h = .nx env h') : zbK m fb ds h = .ok .non h':=by
  unfold zbK
  rw [e]
theorem zgp {s k : En -> Hs -> S} {env env1 : En} {h h1 : Hs} (e : s env h = .nx env1 h1) : zat s k env h = k env1 h1:=by
  rw [zfr,e]
  rfl
theorem zom {m : Nat} (hm : m < 1000000) : Nat.ble (m : Int).natAbs 4000000000000000000 = true:=zkn (by omega) (by omega)
theorem zd0 {fa : En -> Hs -> R (List D)} {env : En} {h h1 : Hs} {m : Nat} (e : fa env h = .ok [.int (m : Int)] h1) (hm : m < 1000000) : zdI fa env h = .ok ((List.range m).map fun (i : Nat)=>D.int (i : Int),[]) h1:=by
  have k:=zom hm
  show (fa env h).bind _ = _
  rw [e,R.bind_ok]
  dsimp only
  rw [if_pos k,Int.toNat_natCast]
end Ev
namespace Ev
open PySem L2
end Ev
namespace BoX
open PySem PySem.Spec PyProof.Rows
end BoX
namespace Ev
open PySem L2
namespace Fx
open He
end Fx
end Ev
namespace Ev
open PySem L2
inductive R.Sat {α : Type} : R α -> (α -> Hs -> Prop) -> (Nat -> List D -> Hs -> Prop) -> Prop
  | ok {a : α} {h : Hs} {Q : α -> Hs -> Prop} {E : Nat -> List D -> Hs -> Prop} : Q a h -> R.Sat (.ok a h) Q E
  | err {c : Nat} {fs : List D} {h : Hs} {Q : α -> Hs -> Prop} {E : Nat -> List D -> Hs -> Prop} : E c fs h -> R.Sat (.err c fs h) Q E
abbrev noE : Nat -> List D -> Hs -> Prop:=fun _ _ _=>False
structure Pq where
  nx : En -> Hs -> Prop
  rt : D -> Hs -> Prop
  bk : En -> Hs -> Prop
  ct : En -> Hs -> Prop
  er : Nat -> List D -> En -> Hs -> Prop
inductive S.Sat : S -> Pq -> Prop
  | nx {e : En} {h : Hs} {P : Pq} : P.nx e h -> S.Sat (.nx e h) P
  | ret {d : D} {h : Hs} {P : Pq} : P.rt d h -> S.Sat (.ret d h) P
  | brk {e : En} {h : Hs} {P : Pq} : P.bk e h -> S.Sat (.brk e h) P
  | ct {e : En} {h : Hs} {P : Pq} : P.ct e h -> S.Sat (.ct e h) P
  | err {c : Nat} {fs : List D} {e : En} {h : Hs} {P : Pq} : P.er c fs e h -> S.Sat (.err c fs e h) P
section
variable {α β : Type} {a : α} {h : Hs} {c : Nat} {fs : List D} {env : En} {d : D} {Q : α -> Hs -> Prop} {E : Nat -> List D -> Hs -> Prop} {P : Pq}
@[simp] theorem R.sat_ok : R.Sat (.ok a h) Q E = Q a h:=propext ⟨fun | .ok q=>q,.ok⟩
@[simp] theorem R.sat_err : R.Sat (.err c fs h : R α) Q E = E c fs h:=propext ⟨fun | .err q=>q,.err⟩
@[simp] theorem R.sat_bad : R.Sat (.bad : R α) Q E = False:=propext ⟨(fun z=>nomatch z),fun z=>z.elim⟩
@[simp] theorem S.sat_nx : S.Sat (.nx env h) P = P.nx env h:=propext ⟨fun | .nx q=>q,.nx⟩
@[simp] theorem S.sat_ret : S.Sat (.ret d h) P = P.rt d h:=propext ⟨fun | .ret q=>q,.ret⟩
@[simp] theorem S.sat_brk : S.Sat (.brk env h) P = P.bk env h:=propext ⟨fun | .brk q=>q,.brk⟩
@[simp] theorem S.sat_ct : S.Sat (.ct env h) P = P.ct env h:=propext ⟨fun | .ct q=>q,.ct⟩
@[simp] theorem S.sat_err : S.Sat (.err c fs env h) P = P.er c fs env h:=propext ⟨fun | .err q=>q,.err⟩
@[simp] theorem S.sat_bad : S.Sat .bad P = False:=propext ⟨(fun z=>nomatch z),fun z=>z.elim⟩
theorem R.sat_bind {r : R α} {k : α -> Hs -> R β} {Q : β -> Hs -> Prop} : R.Sat (r.bind k) Q E = R.Sat r (fun a h=>R.Sat (k a h) Q E) E:=by cases r <;> simp
theorem S.sat_toS {r : R α} {k : α -> Hs -> S} : S.Sat (r.toS env k) P = R.Sat r (fun a h=>S.Sat (k a h) P) (fun c fs h=>P.er c fs env h):=by cases r <;> simp
theorem S.sat_seq {r : S} {k : En -> Hs -> S} : S.Sat (r.seq k) P = S.Sat r { P with nx:=fun e h=>S.Sat (k e h) P }:=by cases r <;> simp
theorem R.Sat.get {r : R α} (s : R.Sat r Q noE) : ∃ a h,r = .ok a h /\ Q a h:=by
  cases s with
  | ok z=>exact ⟨_,_,rfl,z⟩
  | err z=>exact z.elim
theorem R.sat_of {r : R α} {h' : Hs} (e : r = .ok a h') (q : Q a h') : R.Sat r Q E:=by rw [e]; exact .ok q
theorem S.Sat.mono {r : S} {P' : Pq} (s : S.Sat r P) (n : ∀ e h,P.nx e h -> P'.nx e h) (t : ∀ d h,P.rt d h -> P'.rt d h) (b : ∀ e h,P.bk e h -> P'.bk e h) (c : ∀ e h,P.ct e h -> P'.ct e h) (x : ∀ c fs e h,P.er c fs e h -> P'.er c fs e h) : S.Sat r P':=by
  cases s with
  | nx z=>exact .nx (n _ _ z)
  | ret z=>exact .ret (t _ _ z)
  | brk z=>exact .brk (b _ _ z)
  | ct z=>exact .ct (c _ _ z)
  | err z=>exact .err (x _ _ _ _ z)
theorem zao {s1 s2 : En -> Hs -> S} (k : ∀ K : En -> Hs -> Prop,(∀ e h,S.Sat (s2 e h) P -> K e h) -> S.Sat (s1 env h) ⟨K,P.rt,P.bk,P.ct,P.er⟩) : S.Sat (zat s1 s2 env h) P:=by
  rw [zfr,S.sat_seq]
  exact k _ fun _ _ z=>z
theorem zg0 {m : Nat} {fb : En -> Hs -> S} {ds : List D} {Q : D -> Hs -> Prop} (s : S.Sat (fb (ds.map some ++ List.replicate (m - ds.length) none) h) ⟨fun _ h=>Q .non h,Q,fun _ _=>False,fun _ _=>False,fun c fs _ h=>E c fs h⟩) : R.Sat (zbK m fb ds h) Q E:=by
  unfold zbK
  revert s
  cases fb (ds.map some ++ List.replicate (m - ds.length) none) h <;> simp
theorem sat_toS {r : R α} {k : α -> Hs -> S} (s : R.Sat r (fun a h=>S.Sat (k a h) P) (fun c fs h=>P.er c fs env h)) : S.Sat (r.toS env k) P:=by rw [S.sat_toS]; exact s
end
theorem ziO {gs : List (Nat × O)} {k : D -> En -> Option En} {f : En -> Hs -> S} {P : Pq} (I : Nat -> En -> Hs -> Prop) : ∀ {xs : List D} {n : Nat},
    (∀ i x env h, xs[i]? = some x -> I (n + i) env h -> Kept gs h /\ ∃ e1, k x env = some e1 /\ S.Sat (f e1 h) ⟨I (n + i + 1), P.rt, P.nx, I (n + i + 1), P.er⟩) ->
    (∀ env h, I (n + xs.length) env h -> Kept gs h /\ P.nx env h) -> ∀ {env : En} {h : Hs}, I n env h -> S.Sat (forL gs k f xs env h) P
  | [], n, _, hE, env, h, hi => by
    obtain ⟨h1, h2⟩ := hE env h hi
    rw [forL, if_pos h1]
    exact .nx h2
  | x :: xs, n, hx, hE, env, h, hi => by
    obtain ⟨h1, e1, h2, h3⟩ := hx 0 x env h rfl hi
    rw [forL, if_pos h1, h2]
    dsimp only
    have again : ∀ e2 h2, I (n + 1) e2 h2 -> S.Sat (forL gs k f xs e2 h2) P := fun e2 h2 hi2 =>
      ziO (xs := xs) (n := n + 1) I (fun i y e hh hy hi => by
        have := hx (i + 1) y e hh (by simpa using hy) (by rw [show n + (i + 1) = n + 1 + i by omega]; exact hi)
        rw [show n + (i + 1) + 1 = n + 1 + i + 1 by omega] at this
        exact this) (fun e hh hi => hE e hh (by rw [List.length_cons, show n + (xs.length + 1) = n + 1 + xs.length by omega]; exact hi)) hi2
    revert h3
    cases f e1 h with
    | nx e2 h2 => exact fun z => again e2 h2 (by simpa using z)
    | ct e2 h2 => exact fun z => again e2 h2 (by simpa using z)
    | _ => simp
theorem zeQ {fi : En -> Hs -> R Src} {k : D -> En -> Option En} {f : En -> Hs -> S} {P : Pq} {env : En} {h h1 : Hs} {xs : List D} (I : Nat -> En -> Hs -> Prop) (e : fi env h = .ok (xs, []) h1)
    (hx : ∀ i x env h, xs[i]? = some x -> I i env h -> ∃ e1, k x env = some e1 /\ S.Sat (f e1 h) ⟨I (i + 1), P.rt, P.nx, I (i + 1), P.er⟩) (hE : ∀ env h, I xs.length env h -> P.nx env h) (hi : I 0 env h1) : S.Sat (zhH fi k f env h) P := by
  unfold zhH
  rw [e, R.toS_ok]
  refine ziO (gs := []) I (n := 0) (fun i x e hh hy hi => ⟨zdg _ ▸ trivial, ?_⟩) (fun e hh hi => ⟨zdg _ ▸ trivial, hE e hh (by simpa using hi)⟩) hi
  have := hx i x e hh hy (by simpa using hi)
  simpa using this
theorem zgJ {hb : Hs} {k : D -> En -> Option En} {fe : En -> Hs -> R D} {env : En} : ∀ {xs ys acc : List D}, xs.length = ys.length -> (∀ (i : Nat) (x y : D), xs[i]? = some x -> ys[i]? = some y -> ∃ e1, k x env = some e1 /\ ∀ h, fe e1 h = .ok y h) -> acc.length + xs.length <= big ->
    zcE hb [] k zfO fe env xs acc = .ok (acc ++ ys) hb
  | [], [], acc, _, _, _ => by simp [zcE]
  | x :: xs, y :: ys, acc, hlen, hx, hl => by
    obtain ⟨e1, h1, h3⟩ := hx 0 x y rfl rfl
    rw [zcE, if_pos (zdg _ ▸ trivial), h1]
    dsimp only
    rw [zm1]
    simp only [zci, R.bind_ok, if_true]
    rw [h3]
    simp only [zci, R.bind_ok]
    rw [if_pos ⟨trivial, by simp at hl; omega⟩]
    rw [zgJ (xs := xs) (ys := ys) (by simpa using hlen) (fun i x y hx' hy' => hx (i + 1) x y (by simpa using hx') (by simpa using hy')) (by simp at hl ⊢; omega)]
    simp
  | [], y :: ys, _, hlen, _, _ => by simp at hlen
  | x :: xs, [], _, hlen, _, _ => by simp at hlen
theorem zk9 {env : En} {h h1 : Hs} {fi : En -> Hs -> R Src} {k : D -> En -> Option En} {fe : En -> Hs -> R D} {own : List Nat} {xs ys : List D} (e : fi env h = .ok (xs, []) h1) (hlen : xs.length = ys.length)
    (hx : ∀ (i : Nat) (x y : D), xs[i]? = some x -> ys[i]? = some y -> ∃ e1, k x (zbD env own) = some e1 /\ ∀ h, fe e1 h = .ok y h) (hl : xs.length <= big) (hn : D.nrs h1.length ys = true) : zcU fi k zfO fe own env h = .ok (.lst ys) h1 := by
  unfold zcU
  rw [e]
  simp only [R.bind_ok]
  rw [zgJ hlen hx (by simpa using hl)]
  simp [hn]
def ze3 (h h' : Hs) : Prop:=h.length <= h'.length /\ ∀ (i : Nat) (o : O),i < h.length -> h'[i]? = some o -> h[i]? = some o \/ O.nr h.length o = true
theorem HRel.popS {g : G} {h h2 : Hs} {bs m : List Addr} {H H2 : Hp} (hr : HRel g bs h H) (hr2 : HRel g (bs ++ m) h2 H2) (hc : ze3 h h2) : HRel g bs (h2.take h.length) H2:=by
  obtain ⟨hl,hc⟩:=hc
  refine ⟨by rw [List.length_take,hr.len]; omega,hr.nd,fun i o hi=>?_⟩
  have hi1 : i < h.length:=by
    have:=(List.getElem?_eq_some_iff.mp hi).1
    rw [List.length_take] at this
    omega
  have hi2 : h2[i]? = some o:=by rw [List.getElem?_take] at hi; simpa [hi1] using hi
  obtain ⟨a,g1,g2⟩:=hr2.at_ i o hi2
  rw [List.getElem?_append_left (by rw [hr.len]; exact hi1)] at g1
  rcases hc i o hi1 hi2 with hh | hh
  · obtain ⟨_,_,g3⟩:=hr.at_ i o hh
    exact ⟨a,g1,g2.shrink g3.nr⟩
  · exact ⟨a,g1,g2.shrink (by rw [hr.len]; exact hh)⟩
open Classical in
def zcC (h : Hs) (r : R D) : R D:=match r with
  | .ok d h'=>if ze3 h h' then (match frz h' h.length 12 d with
    | some d'=>.ok d' (h'.take h.length)
    | none=>.bad) else .bad
  | .err c fs h'=>if ze3 h h' /\ D.nrs h.length fs = true then .err c fs (h'.take h.length) else .bad
  | .bad=>.bad
def zjY (G : List D -> Hs -> R D) : List D -> Hs -> R D:=fun ds h=>zcC h (G ds h)
theorem zhD {g : G} {W : Value -> Option Addr -> Hp -> Prop} {bs : List Addr} {h : Hs} {H : Hp} {r : R D} {Q : VK} (hr : HRel g bs h H) (p : zaU (zc5 g) g W bs H (zcC h r) Q) : zaU (zc5 g) g W bs H r Q:=by
  cases r with
  | bad=>exact p
  | ok d h' =>
    unfold zcC at p
    dsimp only at p
    split at p
    · rename_i hg
      split at p
      · rename_i d' hf
        intro bs' H' v e hr' rv
        obtain ⟨⟨m,rfl,hm⟩,k,c⟩:=id e
        exact p bs H' v ⟨⟨[],by simp,fun _ z=>nomatch z⟩,k,c⟩ (hr.popS hr' hg) (zlN hr' 12 (by rw [hr.len]; exact hf) rv)
      · exact p.elim
    · exact p.elim
  | err c fs h' =>
    unfold zcC at p
    dsimp only at p
    split at p
    · rename_i hg
      obtain ⟨hg,hn⟩:=hg
      intro C dd bs' H' e hr' z
      obtain ⟨⟨m,rfl,hm⟩,k,cc⟩:=id e
      obtain ⟨Ca,d,fvs,z1,z2,z3,z4,z5,z6,z7⟩:=z
      exact p C dd bs H' ⟨⟨[],by simp,fun _ z=>nomatch z⟩,k,cc⟩ (hr.popS hr' hg) ⟨Ca,d,fvs,z1,z2,z3,fun y=>z4 (List.mem_append_left _ y),z5,z6,z7.shrink (by rw [hr.len]; exact hn)⟩
    · exact p.elim
theorem ziE {ci : Nat -> String × List String} {P : Program} {w : World} {K : PySem.W.Frag} {mg : Str -> Option Value} {base : Heap} {f : Addr} {fd : FuncData} {ps : List Str} {k n : Nat} {G : List D -> Hs -> R D} (h : FnOk P w K mg base (L2.CX P w) k f fd ps (spG ⟨K, mg, ci⟩ n G)) :
    FnOk P w K mg base (L2.CX P w) k f fd ps (spG ⟨K, mg, ci⟩ n (zjY G)) :=
  h.imp fun vs H Q E ⟨bs, hh, ds, h1, h2, h3, p⟩ => ⟨bs, hh, ds, h1, h2, h3, zhD h2 p⟩
theorem zly {h : Hs} {r : R D} {Q : D -> Hs -> Prop} {E : Nat -> List D -> Hs -> Prop} (s : R.Sat r (fun d h'=>ze3 h h' /\ ∃ d',frz h' h.length 12 d = some d' /\ Q d' (h'.take h.length)) (fun c fs h'=>ze3 h h' /\ D.nrs h.length fs = true /\ E c fs (h'.take h.length))) : R.Sat (zcC h r) Q E:=by
  cases s with
  | ok s =>
    obtain ⟨h1,d',h2,h3⟩:=s
    unfold zcC
    dsimp only
    rw [if_pos h1,h2]
    exact .ok h3
  | err s =>
    obtain ⟨h1,h2,h3⟩:=s
    unfold zcC
    dsimp only
    rw [if_pos ⟨h1,h2⟩]
    exact .err h3
theorem zf1 {h m : Hs} : ze3 h (h ++ m):=⟨by simp,fun i o hi e=>.inl (by rwa [List.getElem?_append_left hi] at e)⟩
theorem zke {h m : Hs} {n : Nat} {o : O} (hn : O.nr h.length o = true) : ze3 h (h.set n o ++ m):=⟨by simp,fun i o' hi e=>by
  rw [List.getElem?_append_left (by simpa using hi)] at e
  by_cases z : n = i
  · subst z
    rw [List.getElem?_set_self hi] at e
    cases e
    exact .inr hn
  · rw [List.getElem?_set_ne z] at e
    exact .inl e⟩
theorem zhS {G : List D -> Hs -> R D} {ds : List D} {h : Hs} {Q : D -> Hs -> Prop} {E : Nat -> List D -> Hs -> Prop} (s : R.Sat (G ds h) (fun d h'=>ze3 h h' /\ ∃ d',frz h' h.length 12 d = some d' /\ Q d' (h'.take h.length)) (fun c fs h'=>ze3 h h' /\ D.nrs h.length fs = true /\ E c fs (h'.take h.length))) : R.Sat (zjY G ds h) Q E:=zly s
theorem ziL {h : Hs} {n : Nat} {k : Int} : ixD (.ref n) (.int k) h = match zaS h n with
  | some xs=>(match atI xs k with
    | some d=>.ok d h
    | none=>.bad)
  | none=>.bad:=rfl
theorem ziW {h : Hs} {n m : Nat} {o : O} (e : n ≠ m) : zaS (h.set n o) m = zaS h m:=by
  unfold zaS
  rw [List.getElem?_set_ne e]
theorem ze1 {h : Hs} {xs : List D} : zaS (h ++ [.lst xs]) h.length = some xs:=by
  unfold zaS
  simp
theorem zgZ {h m : Hs} {n : Nat} {o : O} (hn : n < h.length) : h.set n o ++ m = (h ++ m).set n o:=by rw [List.set_append_left _ _ hn]
theorem zoz {xs : List D} {r : Int} (h0 : 0 <= r) (h1 : r < xs.length) : ∃ d,atI xs r = some d /\ d ∈ xs:=by
  obtain ⟨n,rfl⟩:=Int.eq_ofNat_of_zero_le h0
  have hn : n < xs.length:=by omega
  exact ⟨xs[n],by rw [atI_nat,List.getElem?_eq_getElem hn],List.getElem_mem hn⟩
theorem zfu (P : D -> Prop) {xs : List D} {r : Int} {h : Hs} {Q : D -> Hs -> Prop} {E : Nat -> List D -> Hs -> Prop} (h0 : 0 <= r) (h1 : r < xs.length) (hp : ∀ d ∈ xs,P d) (q : ∀ d,P d -> Q d h) : R.Sat (ixD (.lst xs) (.int r) h) Q E:=by
  obtain ⟨d,e,hd⟩:=zoz h0 h1
  rw [znz,e]
  exact .ok (q d (hp d hd))
theorem zme {n : Nat} : ∀ {ds : List D},(∀ d ∈ ds,D.nr n d = true) -> D.nrs n ds = true
  | [],_=>by rw [D.nrs]
  | d :: ds,h=>by rw [D.nrs,h d List.mem_cons_self,zme fun x hx=>h x (List.mem_cons_of_mem _ hx)]; rfl
theorem zgS {α : Type} {n : Nat} {g : α -> D} {ls : List α} (h : ∀ a ∈ ls,D.nr n (g a) = true) : D.nrs n (ls.map g) = true:=zme fun d hd=>by
  obtain ⟨a,ha,rfl⟩:=List.mem_map.mp hd
  exact h a ha
theorem zgF {α : Type} {env : En} {h h1 : Hs} {fi : En -> Hs -> R Src} {k : D -> En -> Option En} {fe : En -> Hs -> R D} {own : List Nat} {ls : List α} {f g : α -> D} (e : fi env h = .ok (ls.map f, []) h1)
    (hx : ∀ a ∈ ls, ∃ e1, k (f a) (zbD env own) = some e1 /\ ∀ h, fe e1 h = .ok (g a) h) (hl : ls.length <= big) (hn : ∀ a ∈ ls, D.nr h1.length (g a) = true) : zcU fi k zfO fe own env h = .ok (.lst (ls.map g)) h1 := by
  refine zk9 e (by simp) ?_ (by simpa using hl) (zgS hn)
  intro i x y h1 h2
  rw [List.getElem?_map] at h1 h2
  cases ha : ls[i]? with
  | none => rw [ha] at h1; cases h1
  | some a =>
    rw [ha] at h1 h2
    cases h1
    cases h2
    exact hx a (List.mem_of_getElem? ha)
theorem zjI {α : Type} {env : En} {h h1 : Hs} {fi : En -> Hs -> R Src} {k : D -> En -> Option En} {tt : En -> Hs -> R Bool} {fe : En -> Hs -> R D} {own : List Nat} {ls : List α} {f g : α -> D} {p : α -> Bool} (e : fi env h = .ok (ls.map f, []) h1)
    (hx : ∀ a ∈ ls, ∃ e1, k (f a) (zbD env own) = some e1 /\ (∀ h, tt e1 h = .ok (p a) h) /\ (p a = true -> ∀ h, fe e1 h = .ok (g a) h)) (hl : ls.length <= big) (hn : ∀ a ∈ ls, D.nr h1.length (g a) = true) : zcU fi k tt fe own env h = .ok (.lst ((ls.filter p).map g)) h1 := by
  have core : ∀ (ls : List α) (acc : List D), (∀ a ∈ ls, ∃ e1, k (f a) (zbD env own) = some e1 /\ (∀ h, tt e1 h = .ok (p a) h) /\ (p a = true -> ∀ h, fe e1 h = .ok (g a) h)) -> acc.length + ls.length <= big ->
      zcE h1 [] k tt fe (zbD env own) (ls.map f) acc = .ok (acc ++ (ls.filter p).map g) h1 := by
    intro ls
    induction ls with
    | nil => intro acc _ _; simp [zcE]
    | cons a ls ih =>
      intro acc hx hl
      obtain ⟨e1, g1, g2, g3⟩ := hx a List.mem_cons_self
      rw [List.map_cons, zcE, if_pos (zdg _ ▸ trivial), g1]
      dsimp only
      rw [g2]
      simp only [zci, R.bind_ok]
      cases hp : p a with
      | true =>
        rw [if_pos rfl, g3 hp]
        simp only [zci, R.bind_ok]
        rw [if_pos ⟨trivial, by simp at hl; omega⟩, ih _ (fun y hy => hx y (List.mem_cons_of_mem _ hy)) (by simp at hl ⊢; omega)]
        simp [hp]
      | false =>
        rw [if_neg Bool.false_ne_true, if_pos trivial, ih _ (fun y hy => hx y (List.mem_cons_of_mem _ hy)) (by simp at hl ⊢; omega)]
        simp [hp]
  unfold zcU
  rw [e]
  simp only [R.bind_ok]
  rw [core ls [] hx (by simpa using hl)]
  have : D.nrs h1.length ((ls.filter p).map g) = true := zgS fun a ha => hn a (List.mem_filter.mp ha).1
  simp [this]
end Ev
namespace Ev
open PySem L2
def Lit (g : G) (t : TE) (d : D) : Prop:=∀ (σ : St) (H : Hp) (Q : VK),
  (∀ (v : V) (H' : Hp) (fr : List Addr),(∀ b ∈ fr,H b = none /\ ∃ o,H' b = some o) -> (∀ b,b ∉ fr -> H' b = H b) -> (∀ (H2 : Hp) (bs : List Addr),(∀ b ∈ fr,H2 b = H' b /\ b ∉ bs) -> Rep g bs H2 d v) -> Q v H') -> t σ H Q
structure LJ (ci : Nat -> String × List String) (X : Cx) (e : Expr) (t : TE) (d : D) : Prop where
  pe : PE X e t
  lit : Lit (X.g ci) t d
def zr8 (g : G) (trs : List (TE × TE)) (ks : List Key) (ds : List D) : Prop:=∀ (σ : St) (H : Hp) (Q : List (V × V) -> Hp -> Prop),
  (∀ (kvs : List (Key × V)) (H' : Hp) (fr : List Addr),kvs.map (·.1) = ks -> (∀ b ∈ fr,H b = none /\ ∃ o,H' b = some o) -> (∀ b,b ∉ fr -> H' b = H b) -> (∀ (H2 : Hp) (bs : List Addr),(∀ b ∈ fr,H2 b = H' b /\ b ∉ bs) -> Reps g bs H2 ds (kvs.map (·.2))) -> Q (kvs.map fun kv=>(kV kv.1,kv.2)) H') -> tPairs trs σ H Q
structure LsJ (ci : Nat -> String × List String) (X : Cx) (pos : Pos) (keys : List (Option Expr)) (vals : List Expr) (trs : List (TE × TE)) (ks : List Key) (ds : List D) : Prop where
  pps : PPs X pos keys vals trs
  lit : zr8 (X.g ci) trs ks ds
end Ev
namespace L2
open PySem PySem.Spec PyProof.Rows
structure HTest (X : Cx) (te : Expr) (m : Value -> Option Bool) : Prop where
  run : ∀ {a : Addr} {oe : Obj} {pn pins : List (Addr × Obj)} {σ : St} {H : Hp} {s : Shared} {cls : Value} {b : Bool} {Q : Bool -> Shared -> Prop} {E : Value -> Shared -> Prop},Inv (X.suite a ((a,oe) :: pn)) pins σ H s -> oe.cls = cls -> m cls = some b ->
    (∀ h',(∀ q o,s.heap.get? q = some o -> h'.get? q = some o) -> Q b { s with heap:=h' }) ->
    wpAny (model X.prog X.w) (X.A.mark (some (.ref a))) (eval te X.env) (fun c s₁=>wpAny (model X.prog X.w) (X.A.mark (some (.ref a))) (excMatches (.ref a) c) Q E s₁) E s
section
variable {X : Cx} {a : Addr} {oe : Obj} {pn pins : List (Addr × Obj)} {σ : St} {H : Hp} {s : Shared} {E : Value -> Shared -> Prop}
theorem zlk {x : Str} {c : Value} {np : Pos} (hc : Names X x c) {Q : Value -> Shared -> Prop} (I : Inv (X.suite a ((a, oe) :: pn)) pins σ H s) (q : Q c s) :
    wpAny (model X.prog X.w) (X.A.mark (some (.ref a))) (eval (.Name x np) X.env) Q E s :=
  hc.2.2.elim (fun m => ld_glob (X := X.suite a ((a, oe) :: pn)) I hc.1 m q hc.2.1) fun m => ld_blt (X := X.suite a ((a, oe) :: pn)) I hc.1 m.1 m.2.1 q m.2.2 hc.2.1
theorem zj2 {cls : Value} (I : Inv (X.suite a ((a,oe) :: pn)) pins σ H s) (e : oe.cls = cls) : PySem.W.Looks (model X.prog X.w) s.heap (typeOf (.ref a)) cls:=
  fun A Q E s k q=>wpAny_typeOf_ref (k _ _ (I.pin (a,oe) (by simp)).1) (e ▸ q)
theorem zl0 {x : Str} {c : Value} {np : Pos} (hc : Names X x c) : HTest X (.Name x np) (fun cls=>PySem.W.exmOne X.K cls c):=
  ⟨fun I e hm q=>zlk hc I ((PySem.W.exm_one I.kIn (zj2 I e) hm).here (q _ fun _ _ z=>z))⟩
end
abbrev Clause:=(Value -> Option Bool) × Option Nat × (Addr -> Value -> Option Addr -> TS)
def zkr (Wout : WX) (D : Ends) : List Clause -> WX
  | []=>Wout
  | (m,none,ts) :: r=>fun cls d σ H=>∃ b,m cls = some b /\ (b = true -> ∀ a,H a = none -> ts a cls d D σ H) /\ (b = false -> zkr Wout D r cls d σ H)
  | (m,some i,ts) :: r=>fun cls d σ H=>∃ b,m cls = some b /\ (b = true -> ∀ a,H a = none -> ts a cls d { nx:=fun σ' H'=>D.nx (σ'.set i none) H',rt:=D.rt,bk:=fun σ' H'=>D.bk (σ'.set i none) H',ct:=fun σ' H'=>D.ct (σ'.set i none) H' } (σ.set i (some (.ref a))) H) /\ (b = false -> zkr Wout D r cls d σ H)
inductive HdsG (X : Cx) : List ExceptHandler -> List Clause -> Prop
  | nil : HdsG X [] []
  | only {te : Expr} {m : Value -> Option Bool} {ts : Addr -> Value -> Option Addr -> TS} {b₀ : Stmt} {suite : List Stmt} {pos' : Pos} {hds : List ExceptHandler} {l : List Clause} (ht : HTest X te m)
      (hsu : ∀ (a : Addr) (oe : Obj) (cls : Value) (d : Option Addr) (pn : List (Addr × Obj)), Zc cls d oe -> (∃ vs, oe.data = .fields vs) -> PSs (X.suite a ((a, oe) :: pn)) (b₀ :: suite) (ts a cls d)) (r : HdsG X hds l) :
      HdsG X (.ExceptHandler (some te) none (b₀ :: suite) pos' :: hds) ((m, none, ts) :: l)
  | as {te : Expr} {m : Value -> Option Bool} {ts : Addr -> Value -> Option Addr -> TS} {n : Str} {i : Nat} {b₀ : Stmt} {suite : List Stmt} {pos' : Pos} {hds : List ExceptHandler} {l : List Clause} (ht : HTest X te m) (hN : X.N.Nodup) (hi : X.N[i]? = some n) (hln : X.env.kindOf n = some .local)
      (hsu : ∀ (a : Addr) (oe : Obj) (cls : Value) (d : Option Addr) (pn : List (Addr × Obj)), Zc cls d oe -> (∃ vs, oe.data = .fields vs) -> PSs (X.suite a ((a, oe) :: pn)) (b₀ :: suite) (ts a cls d)) (r : HdsG X hds l) :
      HdsG X (.ExceptHandler (some te) (some n) (b₀ :: suite) pos' :: hds) ((m, some i, ts) :: l)
section
variable {X : Cx} {pins : List (Addr × Obj)} {B : Heap} {sI s : Shared} {σ : St} {H : Hp} {a : Addr} {cls : Value} {d : Option Addr} {h' : Heap}
structure Hung (X : Cx) (pins : List (Addr × Obj)) (B : Heap) (sI : Shared) (σ : St) (H : Hp) (a : Addr) (cls : Value) (d : Option Addr) (s : Shared) : Prop where
  without : Inv X pins σ H sI
  ground : ∀ b o,sI.heap.get? b = some o -> b ∉ frs X.stack -> B.get? b = some o
  flies : HandSPX.FlyingZ B (X.env :: X.outer) a (Zc cls d) s.heap
  slots : sI.heap.UpToSlots s.heap
  sys : s.os = sI.os
  bare : AllBare s.gens
  new : H a = none
theorem Hung.to (y : Hung X pins B sI σ H a cls d s) (fl : HandSPX.FlyingZ B (X.env :: X.outer) a (Zc cls d) h') (up : s.heap.UpToSlots h') : Hung X pins B sI σ H a cls d { s with heap:=h' }:=
  ⟨y.without,y.ground,fl,y.slots.trans up,y.sys,y.bare,y.new⟩
theorem Hung.stays (y : Hung X pins B sI σ H a cls d s) (k : ∀ b o,s.heap.get? b = some o -> h'.get? b = some o) : Hung X pins B sI σ H a cls d { s with heap:=h' }:=by
  refine y.to ⟨fun b o q=>k b o (y.flies.1 b o q),y.flies.2.1,y.flies.2.2.1.of_keeps (fun b o q _=>⟨o,k b o q,rfl⟩),?_⟩ (Heap.UpToSlots.of_keeps k)
  have ⟨oe,ws,T,oT,ts,at_a,z,da,w1,nT,ne,at_T,r⟩:=y.flies.2.2.2
  exact ⟨oe,ws,T,oT,ts,k _ _ at_a,z,da,w1,nT,ne,k _ _ at_T,r⟩
theorem Hung.held (y : Hung X pins B sI σ H a cls d s) (hf : X.env.frame = some X.env.locals) : ∃ oe ws,Zc cls d oe /\ oe.data = .fields ws /\ Inv (X.suite a ((a,oe) :: (X.pn ++ pins))) [] σ H s:=by
  obtain ⟨oe,ws,at_a,z,da⟩:=y.flies.there
  have apart : a ∉ frs (X.env :: X.outer):=fun m =>
    have ⟨_,_,e2,n2⟩:=y.flies.2.2.1.mem m
    n2 ws (by cases at_a.symm.trans e2; exact da)
  have J:=y.without.landed y.ground y.flies.1 y.slots y.sys y.bare
  refine ⟨oe,ws,z,da,J.suite at_a da y.new (fun q=>apart ?_) fun m=>apart ?_⟩
  · exact List.mem_filterMap.mpr ⟨X.env,.head _,hf.trans (congrArg some q.symm)⟩
  · have ⟨v,m1,m2⟩:=List.mem_filterMap.mp m
    exact List.mem_filterMap.mpr ⟨v,.tail _ m1,m2⟩
theorem zjG {Y : Cx} {p q : List (Addr × Obj)} {D : Ends} {f : Flow} (hI : ∀ σ H,Inv Y p σ H s -> Inv X q σ H s) (z : SP Y p D f s) : SP X q D f s:=
  match f,z with
  | .next,⟨σ,H,I,z⟩=>⟨σ,H,hI σ H I,z⟩
  | .brk,⟨σ,H,I,z⟩=>⟨σ,H,hI σ H I,z⟩
  | .cont,⟨σ,H,I,z⟩=>⟨σ,H,hI σ H I,z⟩
  | .ret _,⟨v,σ,H,I,r,z⟩=>⟨v,σ,H,hI σ H I,r,z⟩
abbrev Ends.gone (D : Ends) (i : Nat) : Ends:={ nx:=fun σ' H'=>D.nx (σ'.set i none) H',rt:=D.rt,bk:=fun σ' H'=>D.bk (σ'.set i none) H',ct:=fun σ' H'=>D.ct (σ'.set i none) H' }
theorem zm0 {M : Model} {A : Around} {E : Value -> Shared -> Prop} {i : Nat} {n : Str} {pos : Pos} {D : Ends} {f : Flow} (hN : X.N.Nodup) (hi : X.N[i]? = some n) (hl : X.env.kindOf n = some .local) (z : SP X pins (Ends.gone D i) f s) :
    wpAny M A (do bindName X.env n .none; unbindBehindTheSuite X.env n pos) (fun _ s' => SP X pins D f s') E s :=
  match f, z with
  | .next, ⟨_, _, I, z⟩ => gone_ok I hN hi hl fun _ J => ⟨_, _, J, z⟩
  | .brk, ⟨_, _, I, z⟩ => gone_ok I hN hi hl fun _ J => ⟨_, _, J, z⟩
  | .cont, ⟨_, _, I, z⟩ => gone_ok I hN hi hl fun _ J => ⟨_, _, J, z⟩
  | .ret _, ⟨v, _, _, I, r, z⟩ => gone_ok I hN hi hl fun _ J => ⟨v, _, _, J, r, z⟩
variable {Wout : WX} {D : Ends}
theorem zlC (hs : X.stack = X.env :: X.outer) (hf : X.env.frame = some X.env.locals) (tk : Takes X Wout) (y : Hung X pins B sI σ H a cls d s) (w : Wout cls d σ H) :
    wpAny (model X.prog X.w) X.A (handleBy (.ref a) X.env []) (SP X pins D) X.xe s := by
  have up : wpAny (model X.prog X.w) X.A (setFlight (.ref a) X.env.frame) (fun _ s₂ => wpAny (model X.prog X.w) X.A (throw (.ref a) : Sem Flow) (SP X pins D) X.xe s₂) X.xe s := by
    rw [hf]
    exact HandSPX.setFlight_upZ y.flies fun h2 on up => wpAny_throw (tk _ _ ⟨a, B, sI, pins, σ, H, cls, d, rfl, y.without, y.ground, y.slots.trans up, .inr (.inr (hs.symm ▸ on)), y.new, y.sys, y.bare, w⟩)
  have ⟨_, _, T, _, _, at_a, _, da, w1, _⟩ := y.flies.2.2.2
  refine wpAny_handleBy_nil ?_
  unfold PySem.passOn
  refine wpAny_bind (wpAny_field at_a da w1 ?_)
  rw [if_neg (by simp)]
  first
    | exact wpAny_bind up
    | exact wpAny_bind (wpAny_pure (wpAny_bind up))
theorem zhN (hs : X.stack = X.env :: X.outer) (hf : X.env.frame = some X.env.locals) (tk : Takes X Wout) {hds : List ExceptHandler} {l : List Clause} (hh : HdsG X hds l) :
    ∀ s, Hung X pins B sI σ H a cls d s -> zkr Wout D l cls d σ H -> wpAny (model X.prog X.w) X.A (handleBy (.ref a) X.env hds) (SP X pins D) X.xe s := by
  induction hh with
  | nil => exact fun s y w => zlC hs hf tk y w
  | only ht hsu r next =>
    intro s y ⟨b, mb, yes, no⟩
    have ⟨_, _, z, _, S⟩ := y.held hf
    refine wpAny_handleBy_cons (codeAny_handlers_test (ht.run S z.1 mb fun h1 k => ?_)) nofun
    cases b with
    | false => exact next _ (y.stays k) (no rfl)
    | true =>
      refine codeAny_handlers_suite (HandSPX.lands_againZ (s := { s with heap := h1 }) (y.stays k).flies fun h2 fl up => ?_)
      have ⟨oe, ws, z, da, S⟩ := ((y.stays k).to fl up).held hf
      exact wpAny_mono ((hsu a oe cls d (X.pn ++ pins) z ⟨ws, da⟩).run [] _ _ _ _ S (yes rfl a y.new)) (fun f s2 e => zjG (fun _ _ I => I.unsuite y.without.ok) e) fun _ _ => False.elim
  | as ht hN hi hln hsu r next =>
    intro s y ⟨b, mb, yes, no⟩
    have ⟨_, _, z, _, S⟩ := y.held hf
    refine wpAny_handleBy_cons (codeAny_handlers_test (ht.run S z.1 mb fun h1 k => ?_)) nofun
    cases b with
    | false => exact next _ (y.stays k) (no rfl)
    | true =>
      refine codeAny_handlers_suite_as (HandSPX.lands_againZ (s := { s with heap := h1 }) (y.stays k).flies fun h2 fl up => ?_)
      have ⟨oe, ws, z, da, S⟩ := ((y.stays k).to fl up).held hf
      refine store_ok (X := X.suite a ((a, oe) :: (X.pn ++ pins))) (v := .ref a) S hN hi (.inl hln) rfl (fun s2 S2 => ?_) (.inr hln)
      refine wpAny_mono ((hsu a oe cls d (X.pn ++ pins) z ⟨ws, da⟩).run [] s2 _ _ _ S2 (yes rfl a y.new)) (fun f s3 e => ?_) fun _ _ => False.elim
      have e1 := zjG (X := X) (q := pins) (fun _ _ I => I.unsuite y.without.ok) e
      cases f <;> exact zm0 hN hi hln e1
end
section
variable {X : Cx} {body : List Stmt} {h₀ : ExceptHandler} {hds : List ExceptHandler} {l : List Clause} {pos : Pos} {tb : WX -> List (Addr × Obj) -> (Value -> Shared -> Prop) -> TS} {Wout : WX}
theorem zje (hs : X.stack = X.env :: X.outer) (hf : X.env.frame = some X.env.locals) (tk : Takes X Wout)
    (hb : ∀ (W' : WX) (pn' : List (Addr × Obj)) (xe' : Value -> Shared -> Prop), Takes (X.tr pn' xe') W' -> PassesOwn (model X.prog X.w) X.A X.env xe' -> PSs (X.tr pn' xe') body (tb W' pn' xe'))
    (hh : HdsG X (h₀ :: hds) l) : PS X (.Try body (h₀ :: hds) [] [] pos) (fun D σ H => ∀ (pn' : List (Addr × Obj)) (xe' : Value -> Shared -> Prop), Takes (X.tr pn' xe') (zkr Wout D l) -> PassesOwn (model X.prog X.w) X.A X.env xe' -> tb (zkr Wout D l) pn' xe' D σ H) := by
  refine ⟨fun pins s σ H D I want => wpAny_Try_except ?_⟩
  have taken : Takes (X.tr (X.pn ++ pins) (fun e s₁ => wpAny (model X.prog X.w) X.A (noteFrame e X.env) (fun _ s₂ => wpAny (model X.prog X.w) X.A (setFlight e none) (fun _ s₃ =>
    wpAny (model X.prog X.w) X.A (handleBy e X.env (h₀ :: hds)) (SP X pins D) X.xe s₃) X.xe s₂) X.xe s₁)) (zkr Wout D l) := by
    intro u s1 ⟨a, B, sI, ps1, σ1, H1, cls, d, eu, J, gr, sl, sky, new, sys, bare, w⟩
    subst eu
    exact Sky.land Zc.steady (I.ok.frames.trans (congrArg some hs)) hf (show Sky B (X.env :: X.outer) a (Zc cls d) X.env.locals s1.heap from hs ▸ sky) fun h2 fl up =>
      zhN hs hf tk hh _ ⟨J.ofTry I.ok, gr, fl, sl.trans up, sys, bare, new⟩ w
  refine wpAny_mono ((hb (zkr Wout D l) (X.pn ++ pins) _ taken PassesOwn.looking).run [] s σ H D (I.toTry _) (want _ _ taken PassesOwn.looking)) (fun f s1 e => ?_) fun _ _ e => e
  have e1 := zjG (X := X) (q := pins) (fun _ _ J => J.ofTry I.ok) e
  cases f with
  | next => exact wpAny_execs_nil e1
  | _ => exact e1
end
end L2
namespace Ev
open PySem L2
structure XC where
  a : Addr
  cls : Value
  d : Option Addr
  c : Nat
  fs : List D
structure GaOk (g : G) (i : Option Nat) (x : XC) (bs : List Addr) (H : Hp) (σ : St) : Prop where
  at_ : ∀ j,i = some j -> σ[j]? = some (some (.ref x.a))
  er : zhb g bs H x.c x.fs x.cls x.d
theorem GaOk.mono {g : G} {i : Option Nat} {x : XC} {bs bs1 : List Addr} {H H1 : Hp} {σ : St} (e : Ext bs H bs1 H1) (k : GaOk g i x bs H σ) : GaOk g i x bs1 H1 σ:=⟨k.at_,k.er.mono e⟩
abbrev TEx:=Addr -> Value -> Option Addr -> TE
abbrev TTx:=Addr -> Value -> Option Addr -> TT
abbrev TAx:=Addr -> Value -> Option Addr -> TA
abbrev TSx:=Addr -> Value -> Option Addr -> TS
def zlZ {α β : Type} (rel : List Addr -> Hp -> α -> β -> Prop) (g : G) (i : Option Nat) (t : Addr -> Value -> Option Addr -> St -> Hp -> (β -> Hp -> Prop) -> Prop) (f : Nat -> List D -> En -> Hs -> R α) : Prop:=
  ∀ (x : XC) (σ : St) (H : Hp) (env : En) (h : Hs) (bs : List Addr) (Q : β -> Hp -> Prop),GaOk g i x bs H σ -> ERel g bs H env σ -> HRel g bs h H -> zaU rel g (fun _ _ _=>False) bs H (f x.c x.fs env h) Q -> t x.a x.cls x.d σ H Q
def zeT (X : Cx) (p : Cx -> Addr -> Value -> Option Addr -> Prop) : Prop:=∀ (a : Addr) (oe : Obj) (cls : Value) (d : Option Addr) (pn : List (Addr × Obj)),Zc cls d oe -> (∃ vs,oe.data = .fields vs) -> p (X.suite a ((a,oe) :: pn)) a cls d
structure XEJ (ci : Nat -> String × List String) (X : Cx) (i : Option Nat) (e : Expr) (t : TEx) (f : Nat -> List D -> En -> Hs -> R D) : Prop where
  pe : zeT X fun X a cls d=>PE X e (t a cls d)
  sim : zlZ (zc5 (X.g ci)) (X.g ci) i t f
structure XTJ (ci : Nat -> String × List String) (X : Cx) (i : Option Nat) (e : Expr) (t : TTx) (f : Nat -> List D -> En -> Hs -> R Bool) : Prop where
  pt : zeT X fun X a cls d=>PT X e (t a cls d)
  sim : zlZ relB (X.g ci) i t f
structure XTWJ (ci : Nat -> String × List String) (X : Cx) (i : Option Nat) (e : Expr) (t : TTx) (f : Nat -> List D -> En -> Hs -> R Bool) : Prop where
  pw : zeT X fun X a cls d=>PW X e (t a cls d)
  sim : zlZ relB (X.g ci) i t f
structure XAJ (ci : Nat -> String × List String) (X : Cx) (i : Option Nat) (es : List Expr) (t : TAx) (f : Nat -> List D -> En -> Hs -> R (List D)) : Prop where
  pa : zeT X fun X a cls d=>PA X es (t a cls d)
  sim : zlZ (zk6 (X.g ci)) (X.g ci) i t f
def zpg (g : G) (i : Option Nat) (t : TSx) (f : Nat -> List D -> En -> Hs -> S) : Prop:=
  ∀ (x : XC) (σ : St) (H : Hp) (env : En) (h : Hs) (bs : List Addr) (E : Ends),GaOk g i x bs H σ -> ERel g bs H env σ -> HRel g bs h H -> zcA g (fun _ _ _ _=>False) bs H (f x.c x.fs env h) E -> t x.a x.cls x.d E σ H
structure XSJ (ci : Nat -> String × List String) (X : Cx) (i : Option Nat) (st : Stmt) (t : TSx) (f : Nat -> List D -> En -> Hs -> S) : Prop where
  ps : zeT X fun X a cls d=>PS X st (t a cls d)
  sim : zpg (X.g ci) i t f
structure XSsJ (ci : Nat -> String × List String) (X : Cx) (i : Option Nat) (st : List Stmt) (t : TSx) (f : Nat -> List D -> En -> Hs -> S) : Prop where
  pss : zeT X fun X a cls d=>PSs X st (t a cls d)
  sim : zpg (X.g ci) i t f
theorem zlZ.step {α β γ δ : Type} {relA : List Addr -> Hp -> α -> β -> Prop} {zho : List Addr -> Hp -> γ -> δ -> Prop} {g : G} {i : Option Nat} {t : Addr -> Value -> Option Addr -> St -> Hp -> (β -> Hp -> Prop) -> Prop} {f : Nat -> List D -> En -> Hs -> R α} {x : XC} {σ : St} {H : Hp} {env : En} {h : Hs} {bs : List Addr} {k : α -> Hs -> R γ} {Q : δ -> Hp -> Prop} {Q' : β -> Hp -> Prop}
    (ht : zlZ relA g i t f) (ga : GaOk g i x bs H σ) (er : ERel g bs H env σ) (hr : HRel g bs h H) (p : zaU zho g (fun _ _ _ => False) bs H ((f x.c x.fs env h).bind k) Q)
    (hk : ∀ a b bs1 H1 h1, Ext bs H bs1 H1 -> HRel g bs1 h1 H1 -> ERel g bs1 H1 env σ -> GaOk g i x bs1 H1 σ -> relA bs1 H1 a b -> zaU zho g (fun _ _ _ => False) bs1 H1 (k a h1) Q -> Q' b H1) : t x.a x.cls x.d σ H Q' :=
  zaU.step (M := fun Q' => t x.a x.cls x.d σ H Q') (fun Q' p => ht x σ H env h bs Q' ga er hr p) p fun a b bs1 H1 h1 e hr1 ra p1 => hk a b bs1 H1 h1 e hr1 (er.mono e) (ga.mono e) ra p1
theorem zlZ.stepS {α β : Type} {rel : List Addr -> Hp -> α -> β -> Prop} {g : G} {i : Option Nat} {t : Addr -> Value -> Option Addr -> St -> Hp -> (β -> Hp -> Prop) -> Prop} {f : Nat -> List D -> En -> Hs -> R α} {x : XC} {σ : St} {H : Hp} {env : En} {h : Hs} {bs : List Addr} {k : α -> Hs -> S} {E : Ends} {Q' : β -> Hp -> Prop}
    (ht : zlZ rel g i t f) (ga : GaOk g i x bs H σ) (er : ERel g bs H env σ) (hr : HRel g bs h H) (p : zcA g (fun _ _ _ _ => False) bs H ((f x.c x.fs env h).toS env k) E)
    (hk : ∀ a b bs1 H1 h1, Ext bs H bs1 H1 -> HRel g bs1 h1 H1 -> ERel g bs1 H1 env σ -> GaOk g i x bs1 H1 σ -> rel bs1 H1 a b -> zcA g (fun _ _ _ _ => False) bs1 H1 (k a h1) E -> Q' b H1) : t x.a x.cls x.d σ H Q' := by
  refine ht x σ H env h bs Q' ga er hr ?_
  cases hf : f x.c x.fs env h with
  | bad => rw [hf] at p; exact p
  | err c fs h' => rw [hf] at p; exact fun C dd bs' H' e r z => p C dd bs' H' σ e r (er.mono e) z
  | ok a h1 => rw [hf] at p; exact fun bs1 H1 b e hr1 ra => hk a b bs1 H1 h1 e hr1 (er.mono e) (ga.mono e) ra (zcA.mono e p)
section
variable {ci : Nat -> String × List String} {X : Cx} {i : Option Nat} {pos : Pos} {a b e c : Expr} {es : List Expr} {rest : List Expr} {ta tb tc te : TEx} {t : TAx} {fa fb fe : Nat -> List D -> En -> Hs -> R D} {fr : Nat -> List D -> En -> Hs -> R (List D)} {tA tB' : TTx} {gA gB : Nat -> List D -> En -> Hs -> R Bool}
theorem zoe {t0 : TE} {f : En -> Hs -> R D} (h : ∀ (a : Addr) (pn : List (Addr × Obj)),EJ ci (X.suite a pn) W0 e t0 f) : XEJ ci X i e (fun _ _ _=>t0) (fun _ _=>f):=
  ⟨fun a oe cls d pn _ _=>(h a _).pe,fun x σ H env h' bs Q _ er hr p=>(h x.a []).sim σ H env h' bs Q er hr p⟩
def zmh : Nat -> List D -> En -> Hs -> R (List D):=fun _ _=>zaw
def zgj (f : Nat -> List D -> En -> Hs -> R D) (fr : Nat -> List D -> En -> Hs -> R (List D)) : Nat -> List D -> En -> Hs -> R (List D):=fun c fs=>zac (f c fs) (fr c fs)
theorem zmS : XAJ ci X i [] (fun _ _ _=>tNil) zmh:=⟨fun _ _ _ _ _ _ _=>pa_nil,fun x σ H env h bs Q ga er hr p=>zaU.ok_ p hr .nil⟩
theorem zg8 (ha : XEJ ci X i e te fe) (hr : XAJ ci X i es t fr) (hs : ∀ env,starEach (e :: es) env = (false,eval e env) :: starEach es env:=by exact fun _=>rfl) : XAJ ci X i (e :: es) (fun a cls d=>tCons (te a cls d) (t a cls d)) (zgj fe fr):=
  ⟨fun a oe cls d pn hz hf=>pa_cons (ha.pe a oe cls d pn hz hf) (hr.pa a oe cls d pn hz hf) (hs _),fun x σ H env h bs Q ga er hr' p=>ha.sim.step ga er hr' p fun y vx bs1 H1 h1 e1 hr1 er1 ga1 rx p1=>hr.sim.step ga1 er1 hr1 p1 fun xs vs bs2 H2 h2 e2 hr2 er2 ga2 rs p2=>zaU.ok_ p2 hr2 (.cons (rx.mono e2) rs)⟩
def zl7 (f : Nat -> List D -> En -> Hs -> R (List D)) : Nat -> List D -> En -> Hs -> R D:=fun c fs=>zgu (f c fs)
theorem zmF (ha : XAJ ci X i es t fr) : XEJ ci X i (.List es pos) (fun a cls d=>tLst (t a cls d)) (zl7 fr):=
  ⟨fun a oe cls d pn hz hf=>pe_lst (ha.pa a oe cls d pn hz hf),fun x σ H env h bs Q ga er hr p=>ha.sim.step ga er hr p fun xs vs bs1 H1 h1 e1 hr1 er1 ga1 rs p1=>by
    split at p1
    · rename_i hl
      exact ⟨by rw [<- rs.length,zcw]; exact hl,zey hr1 rs p1⟩
    · exact p1.elim⟩
end
def ad (mg : Str -> Option Value) (x : Str) : Addr:=match mg x with
  | some (.ref C)=>C
  | _=>0
structure ErC (ci : Nat -> String × List String) (K : PySem.W.Frag) (mg : Str -> Option Value) (c : Nat) : Prop where
  mg_ : mg (Str.ofString (ci c).1) = some (.ref (ad mg (Str.ofString (ci c).1)))
  xf : XfC K (ad mg (Str.ofString (ci c).1))
structure ErF (ci : Nat -> String × List String) (K : PySem.W.Frag) (mg : Str -> Option Value) (c : Nat) (f : Str) (k : Nat) : Prop where
  no : PySem.W.findIn K (.ref (ad mg (Str.ofString (ci c).1))) f = some none
  h1 : ((ci c).2.map Str.ofString)[k]? = some f
  h2 : ∀ j,j < k -> ((ci c).2.map Str.ofString)[j]? ≠ some f
def zlB (c k : Nat) : Nat -> List D -> En -> Hs -> R D:=fun c' fs _ h=>if c' = c then (match fs[k]? with
  | some d=>.ok d h
  | none=>.bad) else .bad
theorem zkv {ks : List Str} {f : Str} : ∀ {fvs : List (Str × V)} {k : Nat},(fvs.map (·.1))[k]? = some f -> (∀ j,j < k -> (fvs.map (·.1))[j]? ≠ some f) -> ∃ v,fvs.lookup f = some v /\ (fvs.map (·.2))[k]? = some v
  | [],k,h1,_=>by simp at h1
  | (y,v) :: fvs,0,h1,_=>by
    simp at h1
    subst h1
    exact ⟨v,by simp,by simp⟩
  | (y,v) :: fvs,k + 1,h1,h2=>by
    have hy : y ≠ f:=fun e=>h2 0 (Nat.succ_pos _) (by simp [e])
    obtain ⟨u,g1,g2⟩:=zkv (ks:=ks) (fvs:=fvs) (k:=k) (by simpa using h1) (fun j hj=>by
      have:=h2 (j + 1) (by omega)
      simpa using this)
    refine ⟨u,?_,by simpa using g2⟩
    rw [List.lookup_cons]
    rw [show (f == y) = false from by simp; exact fun e=>hy e.symm]
    exact g1
section
variable {ci : Nat -> String × List String} {X : Cx} {pos p1 p2 p3 : Pos}
theorem zjT {g : G} {bs : List Addr} {H : Hp} {c : Nat} {fs : List D} {C : Value} {dd : Option Addr} (r : ErC g.ci g.K g.mg c) (e : zhb g bs H c fs C dd) : C = .ref (ad g.mg (Str.ofString (g.ci c).1)) /\ ∃ (d : Addr) (fvs : List (Str × V)),dd = some d /\ H d = some (.xd fvs) /\ fvs.map (·.1) = zlO g c fs.length /\ Reps g bs H fs (fvs.map (·.2)):=by
  obtain ⟨Ca,d,fvs,h1,h2,h3,h4,h5,h6,h7⟩:=e
  have h1' : g.mg (Str.ofString (g.ci c).1) = some (.ref Ca):=h1
  rw [r.mg_] at h1'
  cases h1'
  exact ⟨h2,d,fvs,h3,h5,h6,h7⟩
theorem znh (j : Nat) {n f : Str} (c k : Nat) (r : ErC ci X.K X.mg c) (q : ErF ci X.K X.mg c f k) (hN : X.N[j]? = some n := by rfl) (hv : Vis X.env.scope n := by first | exact Or.inl rfl | exact Or.inr (Or.inl rfl) | exact Or.inr (Or.inr rfl)) (hd : (n == ("__debug__" : Str)) = false := by decide)
    (hcd : (n == ("__classdict__" : Str)) = false := by decide) (hb : attributeBase (.Name n p1) f X.env (eval (.Name n p1) X.env) = eval (.Name n p1) X.env := by rfl) :
    XEJ ci X (some j) (.Attribute (.Name n p1) f pos) (fun a cls d => tXf a cls d (ad X.mg (Str.ofString (ci c).1)) f (tVar j)) (zlB c k) := by
  refine ⟨fun a oe cls d pn hz hf => pe_xf (X := X) r.xf q.no hz hf (pe_var (X := X.suite a ((a, oe) :: pn)) hN hv hd hcd) hb, fun x σ H env h bs Q ga er hr p => ?_⟩
  unfold zlB at p
  split at p
  · rename_i e
    split at p
    · rename_i dv hd
      obtain ⟨xa, xcls, xd, xc, xfs⟩ := x
      dsimp only at *
      subst e
      obtain ⟨e1, dd, fvs, e2, e3, e4, e5⟩ := zjT (g := X.g ci) r ga.er
      have hlt : k < xfs.length := (List.getElem?_eq_some_iff.mp hd).1
      have hfl : ∀ j, j <= k -> (fvs.map (·.1))[j]? = ((ci xc).2.map Str.ofString)[j]? := fun j hj => by
        rw [e4]
        show (((ci xc).2.take xfs.length).map Str.ofString)[j]? = _
        rw [List.map_take, List.getElem?_take, if_pos (by omega)]
      obtain ⟨v, g1, g2⟩ := zkv (ks := []) (fvs := fvs) (f := f) (k := k) (by rw [hfl k (Nat.le_refl _)]; exact q.h1) (fun j hj => by rw [hfl j (Nat.le_of_lt hj)]; exact q.h2 j hj)
      obtain ⟨v', g3, g4⟩ := e5.get hd
      rw [g2] at g3
      cases g3
      exact ⟨.ref xa, ga.at_ j rfl, rfl, e1, dd, fvs, v, e2, e3, g1, zaU.ok_ p hr g4⟩
    · exact p.elim
  · exact p.elim
end
section
variable {ci : Nat -> String × List String} {X : Cx} {i : Option Nat} {pos : Pos} {e c : Expr} {te : TEx} {fe : Nat -> List D -> En -> Hs -> R D} {tA : TTx} {gA : Nat -> List D -> En -> Hs -> R Bool} {st : Stmt} {sa sb rest : List Stmt} {t u : TSx} {f k : Nat -> List D -> En -> Hs -> S}
def zlf (f : Nat -> List D -> En -> Hs -> R D) : Nat -> List D -> En -> Hs -> S:=fun c fs=>zc0 (f c fs)
theorem zj6 (he : XEJ ci X i e te fe) : XSJ ci X i (.Return (some e) pos) (fun a cls d=>tRet (te a cls d)) (zlf fe):=
  ⟨fun a oe cls d pn hz hf=>ps_ret (he.pe a oe cls d pn hz hf),fun x σ H env h bs E ga er hr p=>he.sim.stepS ga er hr p fun a b bs1 H1 h1 e1 hr1 er1 ga1 ra p1=>p1 bs1 H1 b .refl hr1 ra⟩
theorem zi0 (h1 : XSJ ci X i st t f) : XSsJ ci X i [st] t f:=⟨fun a oe cls d pn hz hf=>pss_one (h1.ps a oe cls d pn hz hf),h1.sim⟩
end
def zjs (fb : En -> Hs -> S) (hd : Nat -> List D -> En -> Hs -> S) : En -> Hs -> S:=fun env h=>match fb env h with
  | .err c fs env' h'=>hd c fs env' h'
  | r=>r
def hNo : Nat -> List D -> En -> Hs -> S:=fun c fs env h=>.err c fs env h
def S.gone (i : Nat) : S -> S
  | .nx env h=>.nx (env.set i none) h
  | .brk env h=>.brk (env.set i none) h
  | .ct env h=>.ct (env.set i none) h
  | .ret d h=>.ret d h
  | .err _ _ _ _=>.bad
  | .bad=>.bad
def S.noer : S -> S
  | .err _ _ _ _=>.bad
  | r=>r
def hOn (U cs : List Nat) (i : Option Nat) (suite rest : Nat -> List D -> En -> Hs -> S) : Nat -> List D -> En -> Hs -> S:=fun c fs env h=>if c ∈ U then (if c ∈ cs then (match i with
  | none=>(suite c fs env h).noer
  | some i=>if i < env.length then (suite c fs (env.set i none) h).gone i else .bad) else rest c fs env h) else .bad
def zfX (ci : Nat -> String × List String) (mg : Str -> Option Value) (m : Value -> Option Bool) (U cs : List Nat) : Prop:=∀ c ∈ U,∀ C,mg (Str.ofString (ci c).1) = some (.ref C) -> m (.ref C) = some (decide (c ∈ cs))
inductive XHds (ci : Nat -> String × List String) (X : Cx) : List ExceptHandler -> List Clause -> (Nat -> List D -> En -> Hs -> S) -> Prop
  | nil : XHds ci X [] [] hNo
  | only {te : Expr} {m : Value -> Option Bool} {ts : TSx} {b₀ : Stmt} {suite : List Stmt} {pos' : Pos} {hds : List ExceptHandler} {l : List Clause} {U cs : List Nat} {sf hd : Nat -> List D -> En -> Hs -> S} (ht : HTest X te m) (hm : zfX ci X.mg m U cs)
      (hsu : XSsJ ci X none (b₀ :: suite) ts sf) (r : XHds ci X hds l hd) : XHds ci X (.ExceptHandler (some te) none (b₀ :: suite) pos' :: hds) ((m, none, ts) :: l) (hOn U cs none sf hd)
  | as {te : Expr} {m : Value -> Option Bool} {ts : TSx} {n : Str} {i : Nat} {b₀ : Stmt} {suite : List Stmt} {pos' : Pos} {hds : List ExceptHandler} {l : List Clause} {U cs : List Nat} {sf hd : Nat -> List D -> En -> Hs -> S} (ht : HTest X te m) (hm : zfX ci X.mg m U cs) (hN : X.N.Nodup) (hi : X.N[i]? = some n) (hln : X.env.kindOf n = some .local)
      (hsu : XSsJ ci X (some i) (b₀ :: suite) ts sf) (r : XHds ci X hds l hd) : XHds ci X (.ExceptHandler (some te) (some n) (b₀ :: suite) pos' :: hds) ((m, some i, ts) :: l) (hOn U cs (some i) sf hd)
theorem XHds.ok {ci : Nat -> String × List String} {X : Cx} {hds : List ExceptHandler} {l : List Clause} {hd : Nat -> List D -> En -> Hs -> S} (h : XHds ci X hds l hd) : HdsG X hds l:=by
  induction h with
  | nil=>exact .nil
  | only ht hm hsu r ih=>exact .only ht (fun a oe cls d pn hz hf=>hsu.pss a oe cls d pn hz hf) ih
  | as ht hm hN hi hln hsu r ih=>exact .as ht hN hi hln (fun a oe cls d pn hz hf=>hsu.pss a oe cls d pn hz hf) ih
theorem ERel.unset {g : G} {bs : List Addr} {H : Hp} {env : En} {σ : St} {v : Option V} (er : ERel g bs H env σ) (i : Nat) : ERel g bs H (env.set i none) (σ.set i v):=by
  refine ⟨by rw [List.length_set,List.length_set]; exact er.len,fun j d' e=>?_⟩
  by_cases hj : i = j
  · subst hj
    by_cases hi : i < env.length
    · rw [List.getElem?_set_self hi] at e
      cases e
    · rw [List.getElem?_eq_none (by rw [List.length_set]; omega)] at e; cases e
  · rw [List.getElem?_set_ne hj] at e ⊢
    exact er.at_ j d' e
theorem XHds.wish {ci : Nat -> String × List String} {X : Cx} {W : WX} {E : Ends} {hds : List ExceptHandler} {l : List Clause} {hd : Nat -> List D -> En -> Hs -> S} (h : XHds ci X hds l hd) : ∀ (c : Nat) (fs : List D) (env : En) (hh : Hs) (bs : List Addr) (H : Hp) (σ : St) (C : Value) (dd : Option Addr), HRel (X.g ci) bs hh H -> ERel (X.g ci) bs H env σ -> zhb (X.g ci) bs H c fs C dd ->
    zcA (X.g ci) W bs H (hd c fs env hh) E -> zkr W E l C dd σ H := by
  induction h with
  | nil => exact fun c fs env hh bs H σ C dd hr er ee p => p C dd bs H σ .refl hr er ee
  | @only te m ts b₀ suite pos' hds l U cs sf hd ht hm hsu r ih =>
    intro c fs env hh bs H σ C dd hr er ee p
    unfold hOn at p
    split at p
    · rename_i hU
      obtain ⟨Ca, d, fvs, g1, g2, g3⟩ := id ee
      refine ⟨decide (c ∈ cs), by rw [g2]; exact hm c hU Ca g1, fun hb a na => ?_, fun hb => ?_⟩
      · rw [if_pos (of_decide_eq_true hb)] at p
        refine hsu.sim ⟨a, C, dd, c, fs⟩ σ H env hh bs E ⟨fun j e => (by cases e), ee⟩ er hr ?_
        revert p
        dsimp only
        cases sf c fs env hh with
        | err _ _ _ _ => exact fun z => z.elim
        | _ => exact fun z => z
      · rw [if_neg (of_decide_eq_false hb)] at p
        exact ih c fs env hh bs H σ C dd hr er ee p
    · exact p.elim
  | @as te m ts n i b₀ suite pos' hds l U cs sf hd ht hm hN hi hln hsu r ih =>
    intro c fs env hh bs H σ C dd hr er ee p
    unfold hOn at p
    split at p
    · rename_i hU
      obtain ⟨Ca, d, fvs, g1, g2, g3⟩ := id ee
      refine ⟨decide (c ∈ cs), by rw [g2]; exact hm c hU Ca g1, fun hb a na => ?_, fun hb => ?_⟩
      · rw [if_pos (of_decide_eq_true hb)] at p
        dsimp only at p
        split at p
        rotate_left
        · exact p.elim
        rename_i hil
        rw [er.len] at hil
        refine hsu.sim ⟨a, C, dd, c, fs⟩ (σ.set i (some (.ref a))) H (env.set i none) hh bs _ ⟨fun j e => by cases e; rw [List.getElem?_set_self hil], ee⟩ (er.unset i) hr ?_
        revert p
        dsimp only
        cases sf c fs (env.set i none) hh with
        | err _ _ _ _ => exact fun z => z.elim
        | bad => exact fun z => z.elim
        | ret v h2 => exact fun z => z
        | nx e2 h2 => exact fun z bs' H' σ' x y w => z bs' H' _ x y (w.unset i)
        | brk e2 h2 => exact fun z bs' H' σ' x y w => z bs' H' _ x y (w.unset i)
        | ct e2 h2 => exact fun z bs' H' σ' x y w => z bs' H' _ x y (w.unset i)
      · rw [if_neg (of_decide_eq_false hb)] at p
        exact ih c fs env hh bs H σ C dd hr er ee p
    · exact p.elim
section
variable {ci : Nat -> String × List String} {X : Cx} {W : WX} {pos : Pos} {body : List Stmt} {h₀ : ExceptHandler} {hds : List ExceptHandler} {l : List Clause} {tb : WX -> List (Addr × Obj) -> (Value -> Shared -> Prop) -> TS} {fb : En -> Hs -> S} {hd : Nat -> List D -> En -> Hs -> S}
theorem zpa (hs : X.stack = X.env :: X.outer) (hf : X.env.frame = some X.env.locals) (tk : Takes X W) (hb : ∀ (W' : WX) (pn : List (Addr × Obj)) (xe : Value -> Shared -> Prop), Takes (X.tr pn xe) W' -> PassesOwn (model X.prog X.w) X.A X.env xe -> SsJ ci (X.tr pn xe) W' body (tb W' pn xe) fb)
    (hh : XHds ci X (h₀ :: hds) l hd) : SJ ci X W (.Try body (h₀ :: hds) [] [] pos) (fun D σ H => ∀ (pn : List (Addr × Obj)) (xe : Value -> Shared -> Prop), Takes (X.tr pn xe) (zkr W D l) -> PassesOwn (model X.prog X.w) X.A X.env xe -> tb (zkr W D l) pn xe D σ H) (zjs fb hd) := by
  refine ⟨zje hs hf tk (fun W' pn xe t1 t2 => (hb W' pn xe t1 t2).pss) hh.ok, fun σ H env h bs E er hr p => ?_⟩
  intro pn xe t1 t2
  have J := hb (zkr W E l) pn xe t1 t2
  refine J.sim σ H env h bs E er hr ?_
  unfold zjs at p
  cases hf : fb env h with
  | err c fs env' h' =>
    rw [hf] at p
    exact fun C dd bs' H' σ' e r er' ee => hh.wish c fs env' h' bs' H' σ' C dd r er' ee (zcA.mono e p)
  | bad => rw [hf] at p; exact p
  | nx e2 h2 => rw [hf] at p; exact p
  | ret v h2 => rw [hf] at p; exact p
  | brk e2 h2 => rw [hf] at p; exact p
  | ct e2 h2 => rw [hf] at p; exact p
end
end Ev
namespace L2
open PySem PySem.Spec PyProof.Rows
section
variable {X : Cx} {CX : CXT} {x m : Str} {C f : Addr} {mc : Value} {k : Nat} {fd : FuncData} {ps : List Str} {sp : Sp} {ds : List Value} {dvs : List V} {E : XK} {e : Expr} {es : List Expr} {t : TA} {p1 p2 pos : Pos}
theorem zj8 {pl : Sem Bool} (hg : Gl X x) (hm : X.mg x = some (.ref C)) (r : ClX.CRead X.K C mc) (c : ClX.CVal X.K C mc m (.ref f) (.ref f)) (F : FnOk X.prog X.w X.K X.mg X.base CX k f fd ps sp) (hk : PySem.W.keepIn X.K (.ref f) = true) (hr : Room k X.A) (hb : Binds X.K fd ps ds) (hd : Vals dvs ds) (hx : Passes CX X E) (ha : PA X (e :: es) t)
    (hdb : (x == ("__debug__" : Str)) = false := by decide)
    (hst : starEach (e :: es) X.env = (false, eval e X.env) :: starEach es X.env := by rfl) (hpl : (backTo pos (starEach es X.env)).any (·.1) = false := by rfl)
    (ht : eval (.Call (.Attribute (.Name x p1) m p2) (e :: es) [] pos) X.env = (do
      let ov <- eval (.Name x p1) X.env
      standAt p2.atName
      let (f, first) <- holding [ov] (getMethod ov m pl)
      callWith pos f first (backTo pos (starEach (e :: es) X.env)) (backToKw pos (keywordEach [] X.env))) := by rfl) :
    PE X (.Call (.Attribute (.Name x p1) m p2) (e :: es) [] pos) (tCall sp dvs E t) := by
  refine ⟨fun pins s σ H Q I h => ?_⟩
  refine PySem.W.methodCall_KW (pl := pl) (ld_glob I hg hm ?_ hdb) ht
  refine PySem.W.method_cls I.kIn r.ga (ClX.getcval_ok I r c fun s1 I1 => ?_)
  refine PySem.W.callWith_K (first := []) (h₀ := X.base) I.ok.mod.kin hk (thn (ha.run pos pins s1 σ H _ I1 h) fun us s2 ⟨vs, H2, I2, r2, q2⟩ => ⟨I2.kIn, ?_⟩) hst hpl
  exact run_fn (us := us) (vs := vs) F hr hb hd hx I2 r2 q2
end
def zrM (K : PySem.W.Frag) : Sp:=fun vs H Q _=>∃ a C y,vs = [.ref a,y] /\ OexC K C /\ H a = some (exo a C none) /\ Q .non H
section
variable {P : Program} {w : World} {K : PySem.W.Frag} {mg : Str -> Option Value} {base : Heap} {x qual : Str} {st : Stmt} {f fB : Addr} {fd fdB : FuncData} {p1 p2 p3 p4 p5 p6 q1 q2 q3 q4 : Pos}
theorem zni {y0 y1 : Str} (F : FunD K x qual (defArgs st) (defBody st) (defScope st) [] [] f fd) (hbd : defBody st = [.Expr (.Call (.Attribute (.Name "ValueError" p1) "__init__" p2) [.Name y0 p3, .Name y1 p4] [] p5) p6]) (S : FnScope [y0, y1] [y0, y1] (defScope st))
    (hpe : ∀ (cdv : Value) (A : Around) (outer : List Env) (s : Shared) (H : Hp) (E : XK), PE (cxOf (L2.CX P w) P w K mg base [y0, y1] qual (defScope st) f cdv A outer s H E) (.Call (.Attribute (.Name "ValueError" p1) "__init__" p2) [.Name y0 p3, .Name y1 p4] [] p5) (tVeI K (tCons (tVar 0) (tCons (tVar 1) tNil))))
    (hs : ∀ (cdv : Value) (A : Around) (outer : List Env) (s : Shared) (H : Hp) (E : XK), swapsWith (.Call (.Attribute (.Name "ValueError" p1) "__init__" p2) [.Name y0 p3, .Name y1 p4] [] p5) none p6.line (cxOf (L2.CX P w) P w K mg base [y0, y1] qual (defScope st) f cdv A outer s H E).env = pure false := by exact fun _ _ _ _ _ _ => rfl) :
    FnOk P w K mg base (L2.CX P w) 1 f fd [y0, y1] (zrM K) := by
  refine F.ok (k := 0) S (fun vs H Q E h => ?_) (fun cdv A outer s H vs Q E hr h => ?_)
  · obtain ⟨a, C, y, e, _⟩ := h
    rw [e]
    rfl
  · obtain ⟨a, C, y, rfl, h2, h3, h4⟩ := h
    rw [hbd]
    exact ⟨_, pss_one (ps_expr (hpe cdv A outer s H E) (hs cdv A outer s H E)), .ref a, rfl, y, rfl, a, C, [y], rfl, by show 1 <= 1000; decide, h2, h3, h4⟩
theorem zjQ {y0 y1 fl : Str} {eX : Expr} {k : Nat} {C : Addr} (F : FunD K x qual (defArgs st) (defBody st) (defScope st) [] [] f fd) (hbd : defBody st = [.Expr eX p6, .Assign [.Attribute (.Name y0 q1) fl q2] (.Name y1 q3) q4]) (S : FnScope [y0, y1] [y0, y1] (defScope st)) {te : TE} (hC : OexC K C) (hno : PySem.W.findIn K (.ref C) fl = some none)
    (hpe : ∀ (cdv : Value) (A : Around) (outer : List Env) (s : Shared) (H : Hp) (E : XK), Room k (A.deeper (envOfC qual (defScope st) s.heap.objs.size f cdv)) -> PE (cxOf (L2.CX P w) P w K mg base [y0, y1] qual (defScope st) f cdv A outer s H E) eX te)
    (hte : ∀ (a : Addr) (y : V) (H : Hp) (Q : VK), H a = some (exo a C none) -> Q .non H -> te [some (.ref a), some y] H Q)
    (hs : ∀ (cdv : Value) (A : Around) (outer : List Env) (s : Shared) (H : Hp) (E : XK), swapsWith eX none p6.line (cxOf (L2.CX P w) P w K mg base [y0, y1] qual (defScope st) f cdv A outer s H E).env = pure false /\ PS (cxOf (L2.CX P w) P w K mg base [y0, y1] qual (defScope st) f cdv A outer s H E) (.Assign [.Attribute (.Name y0 q1) fl q2] (.Name y1 q3) q4) (tOst K fl (tVar 0) (tVar 1))) :
    FnOk P w K mg base (L2.CX P w) (k + 1) f fd [y0, y1] (Ev.spExc K C fl) := by
  refine F.ok (k := k) S (fun vs H Q E h => ?_) (fun cdv A outer s H vs Q E hr h => ?_)
  · obtain ⟨a, y, e, _⟩ := h
    rw [e]
    rfl
  · obtain ⟨a, y, rfl, h2, h3⟩ := h
    rw [hbd]
    refine ⟨_, pss_cons (ps_expr (hpe cdv A outer s H E hr) (hs cdv A outer s H E).1) (pss_one (hs cdv A outer s H E).2), ?_⟩
    show te _ H _
    exact hte a y H _ h2 ⟨y, rfl, .ref a, rfl, a, C, rfl, hC, hno, .inl ⟨h2, fun dx n ne => h3 dx n ne⟩⟩
end
end L2
namespace Ev
open PySem L2
namespace Fx
open He
def zrJ (C : Addr) (K : Fr) : Bool:=(match K.lookup C with
  | some ⟨.type "type",_,.cls cd,sl⟩=>(match cd.mro,sl.toList with
    | .ref C' :: bm,[_,_,_,_,some (.builtin n),_]=>C' == C && (n == "ValueError.__new__" && (!cd.hasDel && (cd.hasDict && PySem.HandSPX.refsVE bm)))
    | _,_=>false)
  | _=>false) && (decide (PySem.W.findIn K (.ref C) "__setattr__" = some (some (.builtin "object.__setattr__"))) && (decide (PySem.W.subIn K (.ref C) (.type "BaseException") = some true) && (decide (PySem.W.typeIn K (.ref C) = some (.type "type")) && PySem.W.keepIn K (.ref C))))
theorem zo1 {C : Addr} {K : Fr} (h : zrJ C K = true) : OexC K C:=by
  obtain ⟨h0,h⟩:=ba h
  obtain ⟨h1,h⟩:=ba h
  obtain ⟨h2,h⟩:=ba h
  obtain ⟨h3,h4⟩:=ba h
  refine ⟨?_,of_decide_eq_true h1,of_decide_eq_true h2,of_decide_eq_true h3,h4⟩
  split at h0
  · rename_i dd cd sl ho
    split at h0
    · rename_i C' bm k0 k1 k2 k3 n k5 hm hs
      simp only [Bool.and_eq_true,beq_iff_eq,Bool.not_eq_true'] at h0
      obtain ⟨rfl,rfl,hdel,hd,ht⟩:=h0
      obtain ⟨nm,bs,mro,ns,qn,hdct,sn,sub,ab,col,del⟩:=cd
      dsimp only at hm hdel hd
      subst hm hdel hd
      have hsl : sl = #[k0,k1,k2,k3,some (.builtin "ValueError.__new__"),k5]:=by
        obtain ⟨l⟩:=sl
        simp only at hs
        rw [hs]
      subst hsl
      exact ⟨nm,qn,ns,bs,bm,sn,sub,ab,col,dd,k0,k1,k2,k3,k5,ho,ht⟩
    · cases h0
  · cases h0
def clfnB (x m : Str) (K : Fr) : Bool:=(Fa.glo x).ok K && (PySem.W.readsIn K (ga K x) (.type "type") && (decide (PySem.W.specialIn K (.ref (ga K x)) "__getattribute__" = some (some (.builtin "type.__getattribute__"))) && ((match PySem.W.findCls K (.ref (ga K x)) (.type "type") m with
  | some (.val u)=>decide (u = .ref (fAd K (x,some m)))
  | _=>false) && PySem.W.keepIn K (.ref (fAd K (x,some m))))))
structure ClFn (K : Fr) (mg : Str -> Option Value) (x m : Str) : Prop where
  mg_ : mg x = some (.ref (ga K x))
  rd : ClX.CRead K (ga K x) (.type "type")
  cv : ClX.CVal K (ga K x) (.type "type") m (.ref (fAd K (x,some m))) (.ref (fAd K (x,some m)))
  kp : PySem.W.keepIn K (.ref (fAd K (x,some m))) = true
theorem clfn_ok {K : Fr} {h : Heap} {mg : Str -> Option Value} (X : K.In h) (G : h.Ns mainGlobals mg) {x m : Str} (b : clfnB x m K = true) : ClFn K mg x m:=by
  obtain ⟨b1,b⟩:=ba b
  obtain ⟨b2,b⟩:=ba b
  obtain ⟨b3,b⟩:=ba b
  obtain ⟨b4,b5⟩:=ba b
  refine ⟨glo_ok X G b1,⟨b2,of_decide_eq_true b3⟩,⟨?_,rfl⟩,b5⟩
  split at b4
  · rename_i u e
    rw [e,of_decide_eq_true b4]
  · cases b4
def exB (x f : Str) (K : Fr) : Bool:=(Fa.glo x).ok K && (zrJ (ga K x) K && (decide (PySem.W.findIn K (.ref (ga K x)) "__init__" = some (some (.ref (fAd K (x,some "__init__"))))) && (decide (PySem.W.typeIn K (.ref (fAd K (x,some "__init__"))) = some (.type "function")) && decide (PySem.W.findIn K (.ref (ga K x)) f = some none))))
structure ExA (K : Fr) (mg : Str -> Option Value) (x f : Str) : Prop where
  mg_ : mg x = some (.ref (ga K x))
  ox : OexC K (ga K x)
  i1 : PySem.W.findIn K (.ref (ga K x)) "__init__" = some (some (.ref (fAd K (x,some "__init__"))))
  i2 : PySem.W.typeIn K (.ref (fAd K (x,some "__init__"))) = some (.type "function")
  no : PySem.W.findIn K (.ref (ga K x)) f = some none
theorem ex_ok {K : Fr} {h : Heap} {mg : Str -> Option Value} (X : K.In h) (G : h.Ns mainGlobals mg) {x f : Str} (b : exB x f K = true) : ExA K mg x f:=by
  obtain ⟨b1,b⟩:=ba b
  obtain ⟨b2,b⟩:=ba b
  obtain ⟨b3,b⟩:=ba b
  obtain ⟨b4,b5⟩:=ba b
  exact ⟨glo_ok X G b1,zo1 b2,of_decide_eq_true b3,of_decide_eq_true b4,of_decide_eq_true b5⟩
theorem exc_ok {ci : Nat -> String × List String} {P : Program} {w : World} {K : Fr} {mg : Str -> Option Value} {base : Heap} {x f : Str} {c : Nat} {fd : FuncData} {ps : List Str} (a : ExA K mg x f) (hx : Str.ofString (ci c).1 = x) (hf : (ci c).2.map Str.ofString = [f]) (F : L2.FnOk P w K mg base (L2.CX P w) 3 (fAd K (x,some "__init__")) fd ps (spExc K (ga K x) f)) (hb : Binds K fd ps []) : ExcC ci P w K mg base c f:=
  ⟨ga K x,a.ox,by rw [hx]; exact a.mg_,hf,_,fd,ps,a.i1,a.i2,F,hb⟩
theorem zib {mg : Str -> Option Value} {x : Str} {C : Addr} (e : mg x = some (.ref C)) : ad mg x = C:=by
  unfold ad
  rw [e]
def erB (x : Str) (K : Fr) : Bool:=(Fa.glo x).ok K && xfB K (ga K x)
theorem er_ok {ci : Nat -> String × List String} {K : Fr} {h : Heap} {mg : Str -> Option Value} (X : K.In h) (G : h.Ns mainGlobals mg) {x : Str} {c : Nat} (b : erB x K = true) (hx : Str.ofString (ci c).1 = x) : ErC ci K mg c:=by
  obtain ⟨b1,b2⟩:=ba b
  have g:=glo_ok X G b1
  have e:=zib g
  exact ⟨by rw [hx,e]; exact g,by rw [hx,e]; exact xfB_ok b2⟩
theorem erf_ok {ci : Nat -> String × List String} {K : Fr} {h : Heap} {mg : Str -> Option Value} (X : K.In h) (G : h.Ns mainGlobals mg) {x f : Str} {c k : Nat} (b0 : (Fa.glo x).ok K = true) (b : (Fa.noat x f).ok K = true) (hx : Str.ofString (ci c).1 = x) (h1 : ((ci c).2.map Str.ofString)[k]? = some f) (h2 : ∀ j,j < k -> ((ci c).2.map Str.ofString)[j]? ≠ some f) : ErF ci K mg c f k:=
  ⟨by rw [hx,zib (glo_ok X G b0)]; exact eqO_ok b,h1,h2⟩
theorem gad_ok {K : Fr} {h : Heap} {mg : Str -> Option Value} (X : K.In h) (G : h.Ns mainGlobals mg) {x : Str} (b0 : (Fa.glo x).ok K = true) : mg x = some (.ref (ad mg x)):=by
  have g:=glo_ok X G b0
  rw [zib g]
  exact g
def exmB (ci : Nat -> String × List String) (xs : List Str) (U cs : List Nat) (K : Fr) : Bool:=(xs.all fun x=>(Fa.glo x).ok K) && U.all fun c=>(Fa.glo (Str.ofString (ci c).1)).ok K && (match xs with
  | [x]=>decide (PySem.W.exmOne K (.ref (ga K (Str.ofString (ci c).1))) (.ref (ga K x)) = some (decide (c ∈ cs)))
  | xs=>decide (PySem.W.exmAny K (.ref (ga K (Str.ofString (ci c).1))) (xs.map fun x=>.ref (ga K x)) = some (decide (c ∈ cs))))
section
variable {ci : Nat -> String × List String} {K : Fr} {h : Heap} {mg : Str -> Option Value} {x x2 x3 : Str} {U cs : List Nat}
theorem exm1_ok (X : K.In h) (G : h.Ns mainGlobals mg) (b : exmB ci [x] U cs K = true) : zfX ci mg (fun cls=>PySem.W.exmOne K cls (.ref (ad mg x))) U cs:=by
  obtain ⟨b1,b⟩:=ba b
  have g:=glo_ok X G (List.all_eq_true.mp b1 x (by simp))
  intro c hc C e
  obtain ⟨b3,b4⟩:=ba (List.all_eq_true.mp b c hc)
  have g3:=glo_ok X G b3
  rw [e] at g3
  cases g3
  dsimp only
  rw [zib g]
  exact of_decide_eq_true b4
end
end Fx
end Ev
namespace L2
open PySem PySem.Spec PyProof.Rows
end L2
namespace Ev
open PySem PySem.Spec PyProof.Rows L2
end Ev
namespace Ev
open PySem L2
namespace Fx
open He
def veB (K : Fr) : Bool:=match PySem.W.findCls K (.type "ValueError") (.type "type") "__init__" with
  | some (.val (.builtin n))=>decide (n = "ValueError.__init__")
  | _=>false
theorem ve_ok {K : Fr} (h : veB K = true) : PySem.W.findCls K (.type "ValueError") (.type "type") "__init__" = some (.val (.builtin "ValueError.__init__")):=by
  unfold veB at h
  split at h
  · rename_i n e
    rw [e,of_decide_eq_true h]
  · cases h
end Fx
end Ev
namespace Ev
open PySem L2
theorem zfk (s : String) : PyData.strOk (Str.ofString s) = true:=by
  unfold PyData.strOk
  rw [Str.ofString_eq_toList]
  simp only [List.all_toArray,List.all_map,List.all_eq_true,Function.comp,decide_eq_true_eq]
  intro c _
  have:=c.valid
  unfold UInt32.isValidChar Nat.isValidChar at this
  show c.val.toNat < 0x110000
  omega
structure Rp (p : PyData) (n : Nat) : Prop where
  sh : p.showable = true
  len : p.shown.length <= n
  ok : PyData.strOk p.shown = true
theorem znR {i : Int} (h : i.natAbs < 1180591620717411303424) : Rp (.int i) 71:=by
  have hl : i.natAbs.log2 < 70:=by
    by_cases h0 : i.natAbs = 0
    · rw [h0]; decide
    · exact (Nat.log2_lt h0).mpr (Nat.lt_of_lt_of_le h (by decide))
  refine ⟨?_,?_,zfk _⟩
  · show decide (i.natAbs.log2 < 1920) = true
    exact decide_eq_true (by omega)
  · show (Str.ofString (toString i)).length <= 71
    rw [ofString_length]
    exact int_text_length_le (by decide) hl
inductive RpAll (n : Nat) : List PyData -> Prop
  | nil : RpAll n []
  | cons {p : PyData} {ps : List PyData} : Rp p n -> RpAll n ps -> RpAll n (p :: ps)
theorem znA {h : Hs} {k : Nat} {xs : List D} {ps : List PyData} (e2 : zcb (dat k h) xs = some ps) : dat (k + 1) h (.lst xs) = some (.list ps):=by
  show (zcb (dat k h) xs).map PyData.list = _
  rw [e2]
  rfl
theorem zgs {α : Type} {f : D -> Option PyData} {g : α -> D} {q : α -> PyData} : ∀ {ls : List α},(∀ a ∈ ls,f (g a) = some (q a)) -> zcb f (ls.map g) = some (ls.map q)
  | [],_=>rfl
  | a :: ls,h=>by
    rw [List.map_cons,zcb,h a List.mem_cons_self,zgs fun b hb=>h b (List.mem_cons_of_mem _ hb)]
    rfl
end Ev
namespace L2
open PySem PySem.Spec PyProof.Rows
theorem zlE {K : PySem.W.Frag} {x D : Addr} {ox : Obj} (C : ExcC K D) : PySem.W.KitX K (.ref x) (.ref D) (fun h=>∃ od,PySem.W.InstAt h x ox D od) where
  ty:=fun _ _ _ ⟨_,I⟩=>I.type
  it:=fun M h X _ A Q E s k q=>PySem.W.mc_isType (s:=s) (X.keeps k) C.hd A Q E s (fun _ _ z=>z) q
  ne:=fun h tp dd its n sl X htp=>beq_eq_false_iff_ne.mpr fun e=>by
    cases e
    obtain ⟨cd,hc,_⟩:=PySem.W.any_some C.hd
    revert hc
    unfold PySem.W.clsIn
    split
    · rename_i ho
      intro _
      exact absurd ((X _ _ ho).symm.trans htp) nofun
    · nofun
  ca:=fun X ⟨od,I⟩ k=>PySem.W.kx_classE X I C.hg C.hk C.hs (PySem.W.findObj_dataE (by
    obtain ⟨cd,hc,_⟩:=PySem.W.any_some C.hd
    rw [hc]
    rfl) C.ha C.hn C.ht) C.hm k
def zqa (K : PySem.W.Frag) (D a : Addr) (cls : Value) (d : Option Addr) : List V -> Hp -> VK -> Prop:=fun xs H Q=>∃ (c : V) (cv : Value) (b : Bool) (dd : Addr) (fs : List (Str × V)),xs = [.ref a,c] /\ cls = .ref D /\ d = some dd /\ H dd = some (.xd fs) /\ (∀ u,RelV c u -> u = cv) /\ PySem.W.kitOne K (.ref D) cv = some b /\ Q (.bl b) H
theorem ziX {X : Cx} {a D : Addr} {oe : Obj} {cls : Value} {d : Option Addr} {pn : List (Addr × Obj)} (C : ExcC X.K D) (hz : Zc cls d oe) (hf : ∃ vs,oe.data = .fields vs) : CallR (X.suite a ((a,oe) :: pn)) (.builtin "isinstance") (zqa X.K D a cls d):=by
  rintro pins s σ H xs us Q I r ⟨c,cv,b,dd,fs,rfl,rfl,rfl,ea,hcv,e,q⟩
  obtain ⟨u1,u2,rfl,r1,r2⟩:=vals2 r
  cases (show u1 = Value.ref a from r1)
  cases hcv _ r2
  have ⟨vs,hv⟩:=hf
  have ⟨_,hns,_⟩:=(show ObjOk X.prog X.w H s.heap dd (.xd fs) from I.hok dd _ ea)
  have ⟨od,ho,_⟩:=lookIn_ns hns
  exact PySem.W.kia_one (zlE C) I.kIn ⟨some od,(I.pin (a,oe) (by simp)).1,hz.1,by unfold PySem.W.notCls; rw [hv] <;> rfl,by rw [hz.2]; exact ho⟩ e (fun z=>nomatch z) fun tk=>⟨.bl b,H,I.kept (t':=tk) fun _ _ z=>z,rfl,q⟩
end L2
namespace Ev
open PySem L2
structure ErI (ci : Nat -> String × List String) (K : PySem.W.Frag) (mg : Str -> Option Value) (c : Nat) : Prop where
  er : ErC ci K mg c
  ex : L2.ExcC K (ad mg (Str.ofString (ci c).1))
section
variable {ci : Nat -> String × List String} {X : Cx} {pos p1 p2 p3 : Pos}
def zjt (c : Nat) (b : Bool) : Nat -> List D -> En -> Hs -> R D:=fun c' _ _ h=>if c' = c then .ok (.bl b) h else .bad
theorem zkT (j : Nat) {n y : Str} (c c2 : Nat) (b : Bool) (hm : X.mg "isinstance" = none) (r : ErI ci X.K X.mg c) (r2 : X.mg (Str.ofString (ci c2).1) = some (.ref (ad X.mg (Str.ofString (ci c2).1)))) (hk : PySem.W.kitOne X.K (.ref (ad X.mg (Str.ofString (ci c).1))) (.ref (ad X.mg (Str.ofString (ci c2).1))) = some b) (hy : y = Str.ofString (ci c2).1 := by rfl)
    (hN : X.N[j]? = some n := by rfl) (hv : Vis X.env.scope n := by first | exact Or.inl rfl | exact Or.inr (Or.inl rfl) | exact Or.inr (Or.inr rfl)) (hd : (n == ("__debug__" : Str)) = false := by decide) (hcd : (n == ("__classdict__" : Str)) = false := by decide)
    (hg : Gl X "isinstance" := by rfl) (hgx : Gl X y := by rfl) (hxd : (y == ("__debug__" : Str)) = false := by decide)
    (he : ∀ env, starEach [.Name n p2, .Name y p3] env = (false, eval (.Name n p2) env) :: starEach [.Name y p3] env := by exact fun _ => rfl) (hpl : ∀ env, (backTo pos (starEach [.Name y p3] env)).any (·.1) = false := by exact fun _ => rfl) :
    XEJ ci X (some j) (.Call (.Name "isinstance" p1) [.Name n p2, .Name y p3] [] pos) (fun a cls d => tCB (zqa X.K (ad X.mg (Str.ofString (ci c).1)) a cls d) (tCons (tVar j) (tCons (tC (.ref (ad X.mg (Str.ofString (ci c2).1)))) tNil))) (zjt c b) := by
  refine ⟨fun a oe cls d pn hz hf => pe_callB (X := X.suite a ((a, oe) :: pn)) (ziX r.ex hz hf) hg hm (by decide +kernel) (pa_cons (pe_var (X := X.suite a ((a, oe) :: pn)) hN hv hd hcd) (pa_cons (pe_glob (X := X.suite a ((a, oe) :: pn)) (v := .ref (ad X.mg (Str.ofString (ci c2).1))) (u := .ref (ad X.mg (Str.ofString (ci c2).1))) hgx (by rw [hy]; exact r2) rfl hxd) pa_nil) (he _)) (by decide) (by decide) (he _) (hpl _), fun x σ H env h bs Q ga er hr p => ?_⟩
  unfold zjt at p
  split at p
  · rename_i e
    obtain ⟨xa, xcls, xd, xc, xfs⟩ := x
    dsimp only at *
    subst e
    obtain ⟨e1, dd, fvs, e2, e3, e4, e5⟩ := zjT (g := X.g ci) r.er ga.er
    exact ⟨.ref xa, ga.at_ j rfl, .ref (ad X.mg (Str.ofString (ci c2).1)), .ref (ad X.mg (Str.ofString (ci c2).1)), b, dd, fvs, rfl, e1, e2, e3, fun u ru => ru, hk, zaU.ok_ p hr (.bl b)⟩
  · exact p.elim
theorem zk8 (j : Nat) {n y : Str} (c : Nat) (b : Bool) (T : String) (hm : X.mg "isinstance" = none) (hmx : X.mg y = none) (r : ErI ci X.K X.mg c) (hk : PySem.W.kitOne X.K (.ref (ad X.mg (Str.ofString (ci c).1))) (.type T) = some b) (hb : bootBuiltins y = some (.type T) := by decide +kernel)
    (hN : X.N[j]? = some n := by rfl) (hv : Vis X.env.scope n := by first | exact Or.inl rfl | exact Or.inr (Or.inl rfl) | exact Or.inr (Or.inr rfl)) (hd : (n == ("__debug__" : Str)) = false := by decide) (hcd : (n == ("__classdict__" : Str)) = false := by decide)
    (hg : Gl X "isinstance" := by rfl) (hgx : Gl X y := by rfl) (hxn : y ≠ "__name__" := by decide) (hxd : (y == ("__debug__" : Str)) = false := by decide)
    (he : ∀ env, starEach [.Name n p2, .Name y p3] env = (false, eval (.Name n p2) env) :: starEach [.Name y p3] env := by exact fun _ => rfl) (hpl : ∀ env, (backTo pos (starEach [.Name y p3] env)).any (·.1) = false := by exact fun _ => rfl) :
    XEJ ci X (some j) (.Call (.Name "isinstance" p1) [.Name n p2, .Name y p3] [] pos) (fun a cls d => tCB (zqa X.K (ad X.mg (Str.ofString (ci c).1)) a cls d) (tCons (tVar j) (tCons (tC (.ty T)) tNil))) (zjt c b) := by
  refine ⟨fun a oe cls d pn hz hf => pe_callB (X := X.suite a ((a, oe) :: pn)) (ziX r.ex hz hf) hg hm (by decide +kernel) (pa_cons (pe_var (X := X.suite a ((a, oe) :: pn)) hN hv hd hcd) (pa_cons (pe_bltn (X := X.suite a ((a, oe) :: pn)) hgx hmx hb rfl hxn hxd) pa_nil) (he _)) (by decide) (by decide) (he _) (hpl _), fun x σ H env h bs Q ga er hr p => ?_⟩
  unfold zjt at p
  split at p
  · rename_i e
    obtain ⟨xa, xcls, xd, xc, xfs⟩ := x
    dsimp only at *
    subst e
    obtain ⟨e1, dd, fvs, e2, e3, e4, e5⟩ := zjT (g := X.g ci) r.er ga.er
    exact ⟨.ref xa, ga.at_ j rfl, .ty T, .type T, b, dd, fvs, rfl, e1, e2, e3, fun u ru => ru, hk, zaU.ok_ p hr (.bl b)⟩
  · exact p.elim
end
namespace Fx
open He
def erIB (x : Str) (K : Fr) : Bool:=(Fa.glo x).ok K && (xfB K (ga K x) && (decide (PySem.W.findIn K (.ref (ga K x)) "__class__" = some (some (.builtin "object.__class__"))) && (decide (PySem.W.specialIn K (.builtin "object.__class__") "__get__" = some (some (.builtin "getset_descriptor.__get__"))) &&
  (decide (PySem.W.takesIn K (.builtin "object.__class__") = some true) && decide (PySem.W.mroIn K (ga K x) (.type "object") = some true)))))
theorem eri_ok {ci : Nat -> String × List String} {K : Fr} {h : Heap} {mg : Str -> Option Value} (X : K.In h) (G : h.Ns mainGlobals mg) {x : Str} {c : Nat} (b : erIB x K = true) (hx : Str.ofString (ci c).1 = x) : ErI ci K mg c:=by
  obtain ⟨b1,b⟩:=ba b
  obtain ⟨b2,b⟩:=ba b
  obtain ⟨b3,b⟩:=ba b
  obtain ⟨b4,b⟩:=ba b
  obtain ⟨b5,b6⟩:=ba b
  have g:=glo_ok X G b1
  have e:=zib g
  have xf:=xfB_ok b2
  refine ⟨⟨by rw [hx,e]; exact g,by rw [hx,e]; exact xf⟩,by rw [hx,e]; exact ⟨xf.ga,xf.gg,xf.exC,xf.hdC,of_decide_eq_true b3,of_decide_eq_true b4,of_decide_eq_true b5,of_decide_eq_true b6⟩⟩
def kitB (x : Str) (u : Fr -> Value) (b : Bool) (K : Fr) : Bool:=(Fa.glo x).ok K && decide (PySem.W.kitOne K (.ref (ga K x)) (u K) = some b)
theorem kit_ok {K : Fr} {h : Heap} {mg : Str -> Option Value} (X : K.In h) (G : h.Ns mainGlobals mg) {x : Str} {u : Fr -> Value} {b : Bool} (c : kitB x u b K = true) : PySem.W.kitOne K (.ref (ad mg x)) (u K) = some b:=by
  obtain ⟨c1,c2⟩:=ba c
  rw [zib (glo_ok X G c1)]
  exact of_decide_eq_true c2
theorem kitC_ok {K : Fr} {h : Heap} {mg : Str -> Option Value} (X : K.In h) (G : h.Ns mainGlobals mg) {x y : Str} {b : Bool} (b0 : (Fa.glo y).ok K = true) (c : kitB x (fun K=>.ref (ga K y)) b K = true) : PySem.W.kitOne K (.ref (ad mg x)) (.ref (ad mg y)) = some b:=by
  have:=kit_ok X G c
  rw [zib (glo_ok X G b0)]
  exact this
end Fx
end Ev
namespace Ev
open PySem L2
def zfW (xs : List D) (h : Hs) : R D:=match xs with
  | [.int i]=>if Nat.ble i.natAbs 1180591620717411303423 = true then .ok (.str (Str.ofString (toString i))) h else .bad
  | _=>.bad
theorem zet {g : G} : CaJ g (fun xs H Q=>∃ i,xs = [.int i] /\ i.natAbs.log2 < 1920 /\ Q (.str (toString i)) H) zfW:=by
  refine ⟨fun W bs h H xs vs Q hr rs p=>?_⟩
  unfold zfW at p
  split at p
  · rename_i i
    split at p
    · rename_i hi
      have hi:=Nat.le_of_ble_eq_true hi
      cases rs with
      | cons r t =>
        cases t
        cases r
        refine ⟨i,rfl,?_,zaU.ok_ p hr (.str (zfk _))⟩
        by_cases h0 : i.natAbs = 0
        · rw [h0]; decide
        · have : i.natAbs.log2 < 70:=(Nat.log2_lt h0).mpr (Nat.lt_of_le_of_lt hi (by decide))
          omega
    · exact p.elim
  · exact p.elim
theorem zkY {i : Int} {h : Hs} (hi : i.natAbs < 1180591620717411303424) : zfW [.int i] h = .ok (.str (Str.ofString (toString i))) h:=by
  show (if Nat.ble i.natAbs 1180591620717411303423 = true then R.ok (D.str (Str.ofString (toString i))) h else .bad) = _
  rw [if_pos (Nat.ble_eq_true_of_le (by omega))]
def zgU (x : D) (xs : List D) (h : Hs) : R D:=match x,xs with
  | .ref n,[.int i,y]=>match zaS h n with
    | some ys=>if ys.length < big /\ 0 <= i /\ Nat.ble i.natAbs 1000000000 = true then .ok .non (h.set n (.lst (ys.take i.toNat ++ [y] ++ ys.drop i.toNat))) else .bad
    | none=>.bad
  | _,_=>.bad
def zli : V -> List V -> Hp -> VK -> Prop:=fun x vs H Q=>∃ (l : Addr) (xs : List V) (i : Int) (y : V),x = .ref l /\ vs = [.int i,y] /\ H l = some (.lst xs) /\ xs.length < sizeLine /\ 0 <= i /\ i < 2 ^ 63 /\ Q .non (upd H l (.lst (xs.take i.toNat ++ [y] ++ xs.drop i.toNat)))
theorem zjv {g : G} : MJ g zli zgU:=by
  refine ⟨fun W bs h H x vx xs vs Q hr rx rs p=>?_⟩
  unfold zgU at p
  split at p
  · split at p
    · rename_i ys hy
      split at p
      · rename_i hc
        obtain ⟨hl,h0,h1⟩:=hc
        have h1:=Nat.le_of_ble_eq_true h1
        cases rx with
        | @ref _ a hb =>
          cases rs with
          | cons r1 t =>
            cases t with
            | cons r2 t =>
              cases t
              cases r1
              obtain ⟨us,g1,g2⟩:=zbT hr hb hy
              exact ⟨a,us,_,_,rfl,rfl,g1,by rw [<- g2.length,zcw]; exact hl,h0,by omega,zhk hr hb (((g2.take _).append (.cons r2 .nil)).append (g2.drop _)) .non p⟩
      · exact p.elim
    · exact p.elim
  · exact p.elim
end Ev
namespace Ev
namespace Fx
open PySem PySem.W L2 He
def frK {β : Type} (g : Addr -> Option Obj) : List Addr -> (Fr -> β) -> β
  | [],k=>k []
  | a :: r,k=>match g a with
    | some ⟨c,d,t,l⟩=>frK g r fun K=>k ((a,⟨c,d,t,l⟩) :: K)
    | none=>frK g r k
theorem zkL {β : Type} {g : Addr -> Option Obj} : ∀ {as : List Addr} {k : Fr -> β},frK g as k = k (frG g as)
  | [],k=>rfl
  | a :: r,k=>by
    unfold frK frG
    rw [List.filterMap_cons]
    cases e : g a with
    | none =>
      simp only [Option.map_none]
      exact zkL
    | some o =>
      obtain ⟨c,d,t,l⟩:=o
      simp only [Option.map_some]
      exact zkL
def obsL (as : List Addr) (fn : List DefD) (fs : List (Fr -> Bool)) (g : Addr -> Option Obj) : AlZ:=frK g as fun K=>(obsD [] fn K,allB fs K)
def hookL (as : List Addr) (fn : List DefD) (fs : List (Fr -> Bool)) : PySem.W.Hook where
  α:=AlZ
  obs:=fun s=>obsL as fn fs s.heap.get?
  val:=fun _=>(valD fn,true)
  says:=fun _ h=>∃ K : Fr,K.In h /\ SaysD [] fn K /\ allB fs K = true
  of:=fun _ s e=>by
    have e' : obsL as fn fs s.heap.get? = (valD fn,true):=e
    unfold obsL at e'
    rw [zkL] at e'
    exact ⟨_,frG_in,congrArg (fun z : AlZ=>z.1) e',congrArg (fun z : AlZ=>z.2) e'⟩
  keeps:=fun _ _ _ ⟨K,hK,c⟩ k=>⟨K,PySem.W.Frag.In.keeps hK k,c⟩
theorem obsL_eq {as : List Addr} {fn : List DefD} {fs : List (Fr -> Bool)} {g : Addr -> Option Obj} {s : Shared} (h : ∀ a,g a = s.heap.get? a) : obsL as fn fs g = (hookL as fn fs).obs s:=by
  have e : g = s.heap.get?:=funext h
  rw [e] <;> rfl
theorem run_two {r : PySem.W.OpenRow} {q : Program} {H : PySem.W.Hook} {ob : PySem.W.SharedT -> H.α} {M : Nat} {loose : List PySem.Str} {w : World}
    (h1 : ∀ os : OsState, (HandSHeadRun.endF (HandSHeadRun.stepQ (HandSHeadRun.denQ HandSHeadRun.tabQ) r.prog w) M r.prog w os).map (fun s => (HandSHeadRun.looksF r.prog (boot_heap w.params) s.abs, HandSHeadRun.seenQ q loose (importedModules r.prog.main.body) (fun s => PySem.W.xlAt q [] s && PySem.W.recOk r.toRowW.records s) s.abs)) = some (true, PySem.W.openGood q loose))
    (h2 : ∀ os : OsState, (HandSHeadRun.endF (HandSHeadRun.stepQ (HandSHeadRun.denQ HandSHeadRun.tabQ) r.prog w) M r.prog w os).map ob = some (H.val w)) : HandSHeadRun.RunEq r q H ob M loose w := fun os => by
  obtain ⟨s, e, a⟩ := Option.map_eq_some_iff.mp (h1 os)
  obtain ⟨s', e', b⟩ := Option.map_eq_some_iff.mp (h2 os)
  rw [e] at e'
  cases e'
  rw [e, Option.map_some]
  have a1 := congrArg Prod.fst a
  have a2 := congrArg Prod.snd a
  dsimp only at a1 a2
  rw [a1, a2, b]
end Fx
end Ev
namespace Ev
open PySem L2
def S.setH (r : S) (n : Nat) (o : O) : S:=match r with
  | .nx e h=>.nx e (h.set n o)
  | .ret d h=>.ret d (h.set n o)
  | .brk e h=>.brk e (h.set n o)
  | .ct e h=>.ct e (h.set n o)
  | _=>.bad
def R.setH (r : R D) (n : Nat) (o : O) : R D:=match r with
  | .ok d h=>.ok d (h.set n o)
  | _=>.bad
@[simp] theorem S.setH_nx {e : En} {h : Hs} {n : Nat} {o : O} : (S.nx e h).setH n o = .nx e (h.set n o):=rfl
@[simp] theorem S.setH_ret {d : D} {h : Hs} {n : Nat} {o : O} : (S.ret d h).setH n o = .ret d (h.set n o):=rfl
@[simp] theorem R.setH_ok {d : D} {h : Hs} {n : Nat} {o : O} : (R.ok d h).setH n o = .ok d (h.set n o):=rfl
end Ev
namespace Ev
open PySem L2
def zq5 (i j l : Nat) (fa : En -> Hs -> R (List D)) : En -> Hs -> S:=fun env h=>(fa env h).toS env fun xs h1=>match xs with
  | [x,y,z]=>.nx (((env.set i (some x)).set j (some y)).set l (some z)) h1
  | _=>.bad
@[simp] theorem zpl {i j l : Nat} {fa : En -> Hs -> R (List D)} {env : En} {h : Hs} : zq5 i j l fa env h = (fa env h).toS env fun xs h1=>match xs with
  | [x,y,z]=>.nx (((env.set i (some x)).set j (some y)).set l (some z)) h1
  | _=>.bad:=rfl
end Ev
namespace Ev
open PySem L2
theorem zlL {fa : En -> Hs -> R (List D)} {k : D -> En -> Option En} {f : En -> Hs -> S} {P : Pq} {env : En} {h : Hs}
    (s : R.Sat (fa env h) (fun xs h1 => ∃ m : Nat, m < 1000000 /\ xs = [.int (m : Int)] /\ ∃ I : Nat -> En -> Hs -> Prop, I 0 env h1 /\ (∀ i e h', i < m -> I i e h' -> ∃ e1, k (.int (i : Int)) e = some e1 /\ S.Sat (f e1 h') ⟨I (i + 1), P.rt, P.nx, I (i + 1), P.er⟩) /\ ∀ e h', I m e h' -> P.nx e h') (fun c fs h => P.er c fs env h)) : S.Sat (zhH (zdI fa) k f env h) P := by
  revert s
  cases e : fa env h with
  | bad => simp
  | err c fs h1 =>
    intro z
    rw [R.sat_err] at z
    unfold zhH zdI
    rw [e]
    simpa using z
  | ok xs h1 =>
    rw [R.sat_ok]
    rintro ⟨m, hm, rfl, I, i0, hx, hE⟩
    refine zeQ I (zd0 e hm) (fun i x e hh hy hi => ?_) (fun e hh hi => hE e hh (by simpa using hi)) i0
    have hi4 : i < m := by
      have := (List.getElem?_eq_some_iff.mp hy).1
      simpa using this
    have hx' : x = .int (i : Int) := by
      rw [List.getElem?_map, List.getElem?_range hi4] at hy
      exact (Option.some.inj hy).symm
    subst hx'
    exact hx i e hh hi4 hi
end Ev
namespace TxX
open PySem PySem.Spec PyProof.Rows
end TxX
namespace Ev
open PySem PySem.Spec PyProof.Rows L2
end Ev
namespace L2
open PySem PySem.Spec PyProof.Rows
end L2
namespace Ev
open PySem PySem.Spec PyProof.Rows L2
def zsE (f : D -> Hs -> R D) (fe : En -> Hs -> R D) : En -> Hs -> R D:=fun env h=>(fe env h).bind f
@[simp] theorem zqc {f : D -> Hs -> R D} {fe : En -> Hs -> R D} {env : En} {h : Hs} : zsE f fe env h = (fe env h).bind f:=rfl
section
variable {ci : Nat -> String × List String} {X : Cx} {W : WX} {e : Expr} {te : TE} {fe : En -> Hs -> R D} {pos : Pos} {c k : Nat} {F : List D -> List D -> Hs -> R D}
structure JJ (ci : Nat -> String × List String) (X : Cx) (W : WX) (es : List Expr) (ts : List TE) (f : Str -> En -> Hs -> R D) : Prop where
  pj : PJ X es ts
  sim : ∀ (acc : Str) (σ : L2.St) (H : Hp) (env : En) (h : Hs) (bs : List Addr) (Q : Str -> Hp -> Prop),PyData.strOk acc = true -> ERel (X.g ci) bs H env σ -> HRel (X.g ci) bs h H -> zaU (zc5 (X.g ci)) (X.g ci) (fun C d H'=>W C d σ H') bs H (f acc env h) (fun v H'=>∃ out,v = .str out /\ Q out H') -> tJs ts acc σ H Q
def zss : Str -> En -> Hs -> R D:=fun acc _ h=>.ok (.str acc) h
def zqM (fe : En -> Hs -> R D) (f : Str -> En -> Hs -> R D) : Str -> En -> Hs -> R D:=fun acc env h=>(fe env h).bind fun d h1=>match d with
  | .str y=>if Nat.ble (acc ++ y).length 16777216 = true then f (acc ++ y) env h1 else .bad
  | _=>.bad
@[simp] theorem zq0 {acc : Str} {env : En} {h : Hs} : zss acc env h = .ok (.str acc) h:=rfl
@[simp] theorem zpU {fe : En -> Hs -> R D} {f : Str -> En -> Hs -> R D} {acc : Str} {env : En} {h : Hs} : zqM fe f acc env h = (fe env h).bind fun d h1=>match d with
  | .str y=>if Nat.ble (acc ++ y).length 16777216 = true then f (acc ++ y) env h1 else .bad
  | _=>.bad:=rfl
def zp9 (f : Str -> En -> Hs -> R D) : En -> Hs -> R D:=fun env h=>(f Str.empty env h).bind fun d h1=>match d with
  | .str y=>.ok (.str y) h1
  | _=>.bad
@[simp] theorem zpP {f : Str -> En -> Hs -> R D} {env : En} {h : Hs} : zp9 f env h = (f Str.empty env h).bind fun d h1=>match d with
  | .str y=>.ok (.str y) h1
  | _=>.bad:=rfl
end
namespace Fx
open He
end Fx
end Ev
namespace TeX
open PySem PySem.Spec PyProof.Rows PySem.SeqAt
open Sem (wp)
end TeX
namespace Ev
open PySem PySem.Spec PyProof.Rows L2
end Ev
namespace Ev
open PySem PySem.Spec PyProof.Rows L2
end Ev
namespace Ev
open PySem PySem.Spec PyProof.Rows L2
def rJn (K : PySem.W.Frag) : V -> List V -> Hp -> VK -> Prop:=fun x xs H Q=>∃ a p,∃ ys : List Str,x = .str a /\ xs = [.ref p] /\ (SqL K H p (ys.map V.str) \/ SqT K H p (ys.map V.str)) /\ (ys.map (·.length)).sum + ys.length * a.length <= 16777216 /\ Q (.str (Txt.join a ys)) H
theorem zk1 {X : Cx} : MtR X "str.join" (rJn X.K):=mt_join
def strsOf : List D -> Option (List Str)
  | []=>some []
  | .str b :: r=>(strsOf r).map (b :: ·)
  | _=>none
def zd3 (x : D) (xs : List D) (h : Hs) : R D:=match x,xs with
  | .str sep,[y]=>match rdL h y with
    | some ds=>match strsOf ds with
      | some ys=>if (Nat.ble ((ys.map (·.length)).sum + ys.length * sep.length) 16777216 && PyData.strOk (Txt.join sep ys)) = true then .ok (.str (Txt.join sep ys)) h else .bad
      | none=>.bad
    | none=>.bad
  | _,_=>.bad
theorem zkJ {g : G} {bs : List Addr} {H : Hp} : ∀ {ds : List D} {vs : List V} {ys : List Str},Reps g bs H ds vs -> strsOf ds = some ys -> vs = ys.map V.str
  | _,_,_,.nil,e=>by cases e; rfl
  | _,_,_,.cons r t,e=>by
    cases r with
    | @str y hy =>
      rw [strsOf] at e
      obtain ⟨zs,e1,e2⟩:=Option.map_eq_some_iff.mp e
      subst e2
      rw [zkJ t e1]
      rfl
    | _=>cases e
theorem zgQ {g : G} : MJ g (rJn g.K) zd3:=by
  refine ⟨fun W bs h H x vx xs vs Q hr rx rs p=>?_⟩
  unfold zd3 at p
  split at p
  · split at p
    · rename_i ds hd
      split at p
      · rename_i ys hy
        split at p
        · rename_i hl
          rw [Bool.and_eq_true] at hl
          cases rx with
          | str hs =>
            cases rs with
            | cons r t =>
              cases t
              obtain ⟨a,us,rfl,hq,rs⟩:=zfb hr r hd
              exact ⟨_,a,ys,rfl,rfl,.inl (by rw [<- zkJ rs hy]; exact hq),Nat.le_of_ble_eq_true hl.1,zaU.ok_ p hr (.str hl.2)⟩
        · exact p.elim
      · exact p.elim
    · exact p.elim
  · exact p.elim
def zoi (xs : List D) (h : Hs) : R D:=match xs with
  | [.str b]=>.ok (.str b) h
  | xs=>zfW xs h
@[simp] theorem zog {b : Str} {h : Hs} : zoi [.str b] h = .ok (.str b) h:=rfl
@[simp] theorem zo2 {i : Int} {h : Hs} : zoi [.int i] h = zfW [.int i] h:=rfl
def zpI (n : Nat) (k : List D -> En -> Option En) : D -> En -> Option En:=fun d env=>match d with
  | .lst ds=>if ds.length = n then k ds env else none
  | _=>none
@[simp] theorem zqH {n : Nat} {k : List D -> En -> Option En} {ds : List D} {env : En} : zpI n k (.lst ds) env = if ds.length = n then k ds env else none:=rfl
section
variable {ci : Nat -> String × List String} {X : Cx}
theorem zo5 {pos : Pos} {es : List Expr} {k : Nat} {t : TGs} {n : Nat} {f : List D -> En -> Option En} {js : List Nat} (hc : X.calm = true) (h : GsJ ci X es t f js)
    (hn : (assignEach es X.env).length = n := by rfl) (hst : (assignEach es X.env).findIdx? (·.1) = none := by rfl) : GJ ci X (.Tuple es k pos) (gLst X.K n t) (zpI n f) js :=
  ⟨pg_lst hc h.pgs hn hst, fun v d σ H env env' hh bs Q r er hr e kk => by
    unfold zpI at e
    split at e
    · split at e
      · rename_i hl
        cases r with
        | @lst a vs ds h0 ha rs => exact ⟨a, vs, rfl, .of ha, by rw [<- rs.length]; exact hl, h.sim _ _ σ H env env' hh bs _ rs er hr e kk⟩
      · cases e
    · cases e⟩
end
end Ev
namespace Ev
open PySem PySem.Spec PyProof.Rows L2
mutual
inductive KeyV (K : PySem.W.Frag) (H : Hp) : NK -> V -> Prop
  | none : KeyV K H .none .non
  | bool (b : Bool) : KeyV K H (.num (if b = true then 1 else 0)) (.bl b)
  | int (i : Int) : KeyV K H (.num i) (.int i)
  | tup {a : Addr} {vs : List V} {ks : List NK} : SqT K H a vs -> KeyVs K H ks vs -> KeyV K H (.tup ks) (.ref a)
inductive KeyVs (K : PySem.W.Frag) (H : Hp) : List NK -> List V -> Prop
  | nil : KeyVs K H [] []
  | cons {k : NK} {v : V} {ks : List NK} {vs : List V} : KeyV K H k v -> KeyVs K H ks vs -> KeyVs K H (k :: ks) (v :: vs)
end
section
variable {g : G} {bs : List Addr} {H : Hp}
mutual
theorem zmH : ∀ (x : D) {v : V} {k : NK},Rep g bs H x v -> znL x = some k -> KeyV g.K H k v
  | .non,v,k,r,e=>by cases r; cases e; exact .none
  | .bl b,v,k,r,e=>by cases r; cases e; exact .bool b
  | .int i,v,k,r,e=>by cases r; cases e; exact .int i
  | .tup xs,v,k,r,e=>by
    cases r with
    | @tup a vs _ t rs =>
      rw [znL] at e
      obtain ⟨ks,ek,rfl⟩:=Option.map_eq_some_iff.mp e
      exact .tup t.sq (zi3 xs rs ek)
  | .str _,v,k,r,e=>by cases e
  | .lst _,v,k,r,e=>by cases e
  | .rol _,v,k,r,e=>by cases e
  | .obj _ _,v,k,r,e=>by cases e
  | .ref _,v,k,r,e=>by cases e
  | .dct _ _,v,k,r,e=>by cases e
theorem zi3 : ∀ (xs : List D) {vs : List V} {ks : List NK},Reps g bs H xs vs -> zfJ xs = some ks -> KeyVs g.K H ks vs
  | [],vs,ks,r,e=>by cases r; cases e; exact .nil
  | x :: xs,vs,ks,r,e=>by
    cases r with
    | cons r1 r2 =>
      rw [zfJ] at e
      cases e1 : znL x with
      | none=>rw [e1] at e; cases e
      | some y =>
        cases e2 : zfJ xs with
        | none=>rw [e1,e2] at e; cases e
        | some ys =>
          rw [e1,e2] at e
          cases e
          exact .cons (zmH x r1 e1) (zi3 xs r2 e2)
end
end
section
variable {X : Cx} {pins : List (Addr × Obj)} {σ : L2.St} {H : Hp} {s : Shared}
mutual
theorem KeyV.nested (I : Inv X pins σ H s) : ∀ (k : NK) {v : V} {u : Value},KeyV X.K H k v -> RelV v u -> NestedIs s.heap k u
  | .none,v,u,r,ru=>by
    cases r
    cases (show u = Value.none from ru)
    exact .none
  | .num i,v,u,r,ru=>by
    cases r with
    | bool b=>cases (show u = Value.bool b from ru); exact .bool rfl
    | int i=>obtain ⟨t,rfl⟩:=(show ∃ t,u = Value.int i t from ru); exact .int i t
  | .text _,v,u,r,ru=>by cases r
  | .tup ks,v,u,r,ru=>by
    cases r with
    | @tup a vs _ t rs =>
      cases (show u = Value.ref a from ru)
      obtain ⟨its,rv,⟨o,h1,h2,n,h3⟩,_⟩:=I.tuple t
      exact .tup h1 h2 h3 (by simpa using KeyVs.nested I ks rs rv)
theorem KeyVs.nested (I : Inv X pins σ H s) : ∀ (ks : List NK) {vs : List V} {us : List Value},KeyVs X.K H ks vs -> Vals vs us -> NestedAll s.heap ks us
  | [],vs,us,r,ru=>by cases r; cases ru; exact .nil
  | k :: ks,vs,us,r,ru=>by
    cases r with
    | cons r1 r2=>cases ru with
      | cons u1 u2=>exact .cons (KeyV.nested I k r1 u1) (KeyVs.nested I ks r2 u2)
end
end
def zor : List D -> List D -> NK -> Option D
  | x :: ks,d :: ds,j=>if znL x = some j then some d else zor ks ds j
  | _,_,_=>none
end Ev
namespace Ev
open PySem PySem.Spec PyProof.Rows L2
end Ev
namespace Ev
open PySem PySem.Spec PyProof.Rows L2
def znF : D -> Option NK
  | .tup xs=>match zfJ xs with
    | some ks=>if (zhG ks && Nat.ble (NestedKey.depth (.tup ks)) 8) = true then some (.tup ks) else none
    | none=>none
  | _=>none
def zjH (ks ds : List D) (y : D) (k : NK) (z : D) : List D × List D:=if (zor ks ds k).isSome = true then (ks,List.zipWith (fun x e=>if znL x = some k then z else e) ks ds) else (ks ++ [y],ds ++ [z])
def zmb (x y z : D) (h : Hs) : Option Hs:=match x with
  | .ref n=>match h[n]?,znF y with
    | some (.dn ks ds),some k=>if ks.length < big then some (h.set n (.dn (zjH ks ds y k z).1 (zjH ks ds y k z).2)) else none
    | _,_=>none
  | _=>none
def zrt (fo fi fv : En -> Hs -> R D) : En -> Hs -> S:=fun env h=>(fv env h).toS env fun z h1=>(fo env h1).toS env fun x h2=>(fi env h2).toS env fun y h3=>match zmb x y z h3 with
  | some h4=>.nx env h4
  | none=>.bad
@[simp] theorem zpA {fo fi fv : En -> Hs -> R D} {env : En} {h : Hs} : zrt fo fi fv env h = (fv env h).toS env fun z h1=>(fo env h1).toS env fun x h2=>(fi env h2).toS env fun y h3=>match zmb x y z h3 with
  | some h4=>.nx env h4
  | none=>.bad:=rfl
def zqb : En -> Hs -> R D:=fun _ h=>.ok (.ref h.length) (h ++ [.dn [] []])
@[simp] theorem zpR {env : En} {h : Hs} : zqb env h = .ok (.ref h.length) (h ++ [.dn [] []]):=rfl
end Ev
namespace Ev
open PySem PySem.Spec PyProof.Rows L2
section
variable {ci : Nat -> String × List String} {X : Cx} {W : WX} {pos : Pos} {k v : Expr} {tk tv : TE} {fk fv : En -> Hs -> R D}
def zqz (fk fv : En -> Hs -> R D) : En -> Hs -> R D:=fun env h=>(fk env (h ++ [.dn [] []])).bind fun y h1=>(fv env h1).bind fun z h2=>match h2[h.length]?,znF y with
  | some (.dn [] []),some _=>.ok (.ref h.length) (h2.set h.length (.dn [y] [z]))
  | _,_=>.bad
@[simp] theorem zpD {env : En} {h : Hs} : zqz fk fv env h = (fk env (h ++ [.dn [] []])).bind fun y h1=>(fv env h1).bind fun z h2=>match h2[h.length]?,znF y with
  | some (.dn [] []),some _=>.ok (.ref h.length) (h2.set h.length (.dn [y] [z]))
  | _,_=>.bad:=rfl
end
end Ev
namespace Ev
open PySem PySem.Spec PyProof.Rows L2
def zmj (x : D) (h : Hs) : R Src:=match x with
  | .dnt ks _=>.ok (ks,[]) h
  | .ref n=>match h[n]? with
    | some (.lk od u (.dn ks ds))=>.ok (ks,[(n,.lk od u (.dn ks ds))]) h
    | _=>.bad
  | _=>.bad
def zns (fd : En -> Hs -> R D) : En -> Hs -> R Src:=fun env h=>(fd env h).bind zmj
@[simp] theorem znJ {fd : En -> Hs -> R D} {env : En} {h : Hs} : zns fd env h = (fd env h).bind zmj:=rfl
end Ev
namespace Ev
open PySem PySem.Spec PyProof.Rows L2
section
variable {g : G} {bs : List Addr} {H : Hp} {a : Addr} {es : List Ent} {od : Obj}
theorem zqs {b : Addr} {u : HO} (ha : H a = some (dnH a es)) (hb : H b = some u) (hu : ∀ φ,u ≠ .ext φ) : b ≠ a:=fun z=>by
  rw [z,ha] at hb
  exact hu _ (Option.some.inj hb).symm
theorem ze2 {b : Addr} {u : HO} (ha : H a = some (dnH a es)) (hb : H b = some u) (hu : ∀ φ,u ≠ .ext φ) : upd H a (.frz od (dnH a es)) b = some u:=by
  rw [upd_ne (zqs ha hb hu)]
  exact hb
theorem zjx {b : Addr} {u : HO} (ha : H a = some (dnH a es)) (hb : Rd H b u) (hu : ∀ φ,u ≠ .ext φ) : Rd (upd H a (.frz od (dnH a es))) b u:=by
  rcases hb with h | ⟨o,h⟩
  · exact .inl (ze2 ha h hu)
  · exact .inr ⟨o,ze2 ha h fun φ z=>nomatch z⟩
mutual
theorem Rep.lock (ha : H a = some (dnH a es)) : ∀ {d : D} {v : V},Rep g bs H d v -> Rep g bs (upd H a (.frz od (dnH a es))) d v
  | _,_,.non=>.non
  | _,_,.bl b=>.bl b
  | _,_,.int i=>.int i
  | _,_,.str h=>.str h
  | _,_,.tup h r=>.tup (h.elim (fun z=>.inl ⟨z.1,zjx ha z.2 fun φ z=>nomatch z⟩) .inr) (Reps.lock ha r)
  | _,_,.lst n h r=>.lst n (ze2 ha h fun φ z=>nomatch z) (Reps.lock ha r)
  | _,_,.rol h r=>.rol (h.elim (fun z=>.inl ⟨z.1,zjx ha z.2 fun φ z=>nomatch z⟩) .inr) (Reps.lock ha r)
  | _,_,.obj n c h f r=>.obj n c (ze2 ha h fun φ z=>nomatch z) f (Reps.lock ha r)
  | _,_,.ref h=>.ref h
  | _,_,.dct n h f r=>.dct n (ze2 ha h fun φ z=>nomatch z) f (Reps.lock ha r)
  | _,_,.dnt n h f r r2=>.dnt n (ze2 ha h fun φ z=>nomatch z) f (Reps.lock ha r) (Reps.lock ha r2)
theorem Reps.lock (ha : H a = some (dnH a es)) : ∀ {ds : List D} {vs : List V},Reps g bs H ds vs -> Reps g bs (upd H a (.frz od (dnH a es))) ds vs
  | _,_,.nil=>.nil
  | _,_,.cons r t=>.cons (Rep.lock ha r) (Reps.lock ha t)
end
end
open Classical in
def zoF (h : Hs) (r : R D) : R D:=match r with
  | .ok (.ref n) h'=>if ze3 h h' /\ h.length <= n then (match h'[n]? with
    | some (.dn ks ds)=>(match zbX (frz h' h.length 12) ks,zbX (frz h' h.length 12) ds with
      | some ks',some ds'=>if zfJ ks' = zfJ ks then .ok (.dnt ks' ds') (h'.take h.length) else .bad
      | _,_=>.bad)
    | _=>.bad) else .bad
  | .err c fs h'=>if ze3 h h' /\ D.nrs h.length fs = true then .err c fs (h'.take h.length) else .bad
  | _=>.bad
def znU (fe : En -> Hs -> R D) : En -> Hs -> R D:=fun env h=>zoF h (fe env h)
@[simp] theorem zn8 {fe : En -> Hs -> R D} {env : En} {h : Hs} : znU fe env h = zoF h (fe env h):=rfl
end Ev
namespace Ev
open PySem L2 PyProof.Rows
def zsC (o o' o'' : D -> D -> Hs -> R D) (fa fb fc fd : En -> Hs -> R D) : En -> Hs -> R D:=fun env h=>(fa env h).bind fun x h1=>(fb env h1).bind fun y h2=>(o x y h2).bind fun z h3 =>
  (toB z h3).bind fun k h4=>if k = true then ((fc env h4).bind fun u h5=>(o' y u h5).bind fun z' h6=>(toB z' h6).bind fun k' h7=>if k' = true then (fd env h7).bind fun u' h8=>o'' u u' h8 else .ok (.bl false) h7) else .ok (.bl false) h4
section
variable {ci : Nat -> String × List String} {X : Cx} {W : WX} {pos : Pos} {a b c d : Expr} {ta tb tc td : TE} {fa fb fc fd : En -> Hs -> R D}
@[simp] theorem zq1 {o o' o'' : D -> D -> Hs -> R D} {env : En} {h : Hs} : zsC o o' o'' fa fb fc fd env h = (fa env h).bind fun x h1=>(fb env h1).bind fun y h2=>(o x y h2).bind fun z h3 =>
  (toB z h3).bind fun k h4=>if k = true then ((fc env h4).bind fun u h5=>(o' y u h5).bind fun z' h6=>(toB z' h6).bind fun k' h7=>if k' = true then (fd env h7).bind fun u' h8=>o'' u u' h8 else .ok (.bl false) h7) else .ok (.bl false) h4:=rfl
end
end Ev
namespace Ev
open PySem L2 PyProof.Rows
abbrev SI (w : World) (d : Addr) (ns : List Int) : HO:=SetO w d (fun j=>decide (j ∈ ns)) ns.length
def zsA (ns : List Int) (k : Int) : List Int:=if k ∈ ns then ns else ns ++ [k]
end Ev
namespace Ev
open PySem PySem.Spec PyProof.Rows L2
def zr1 (ns : List Int) : List Int:=ns.foldl zsA []
section
variable {X : Cx}
def rSetL (K : PySem.W.Frag) (w : World) : List V -> Hp -> VK -> Prop:=fun xs G Q=>∃ (l : Addr) (ns : List Int),xs = [.ref l] /\ SqL K G l (ns.map V.int) /\ ns.length + 1 < scanBound /\ ∀ d,G d = none -> Q (.ref d) (upd G d (SI w d (zr1 ns)))
end
end Ev
namespace Ev
open PySem L2
def insI (k : Int) : List Int -> List Int
  | []=>[k]
  | a :: l=>if k < a then k :: a :: l else if k = a then a :: l else a :: insI k l
def sortI (ns : List Int) : List Int:=ns.foldr insI []
def zr9 (w : World) : List Addr -> Hp -> List Int -> V -> Prop:=fun bs G ns v=>∃ d,v = .ref d /\ d ∉ bs /\ G d = some (SI w d ns)
structure ZJ (ci : Nat -> String × List String) (X : Cx) (W : WX) (e : Expr) (t : TE) (f : En -> Hs -> R (List Int)) : Prop where
  pe : PE X e t
  sim : Sim (zr9 X.w) (X.g ci) W t f
def eZ (f : List D -> Hs -> R (List Int)) (fa : En -> Hs -> R (List D)) : En -> Hs -> R (List Int):=fun env h=>(fa env h).bind f
@[simp] theorem zsg {f : List D -> Hs -> R (List Int)} {fa : En -> Hs -> R (List D)} {env : En} {h : Hs} : eZ f fa env h = (fa env h).bind f:=rfl
def zoN (ns : List Int) (h : Hs) : R D:=if ns.length < 64 then .ok (.lst ((sortI ns).map D.int)) h else .bad
def zo3 (f : En -> Hs -> R (List Int)) : En -> Hs -> R D:=fun env h=>(f env h).bind zoN
@[simp] theorem znO {f : En -> Hs -> R (List Int)} {env : En} {h : Hs} : zo3 f env h = (f env h).bind zoN:=rfl
section
variable {g : G} {bs : List Addr} {h : Hs} {G0 : Hp}
structure PrAt (g : G) (bs : List Addr) (G0 : Hp) (k : Addr × List Int) : Prop where
  at_ : TupAt g bs G0 k.1 (k.2.map V.int)
end
end Ev
namespace Ev
open PySem L2
section
variable {g : G} {bs : List Addr} {H H1 : Hp} {d : Addr}
theorem zo8 (e : ∀ b,b ≠ d -> H1 b = H b) (hd : ∃ P,H d = some (.ext P)) {a : Addr} {u : HO} (hu : ∀ P,u ≠ .ext P) (h : Rd H a u) : Rd H1 a u:=by
  obtain ⟨P,hd⟩:=hd
  rcases h with h | ⟨o,h⟩
  · exact .inl ((e a fun c=>hu P (by subst c; rw [hd] at h; cases h; rfl)).trans h)
  · exact .inr ⟨o,(e a fun c=>by subst c; rw [hd] at h; cases h).trans h⟩
theorem zg1 (e : ∀ b,b ≠ d -> H1 b = H b) (hd : ∃ P,H d = some (.ext P)) {a : Addr} {u : HO} (hu : ∀ P,u ≠ .ext P) (h : H a = some u) : H1 a = some u:=by
  obtain ⟨P,hd⟩:=hd
  exact (e a fun c=>hu P (by subst c; rw [hd] at h; cases h; rfl)).trans h
theorem TupAt.sw (e : ∀ b,b ≠ d -> H1 b = H b) (hd : ∃ P,H d = some (.ext P)) {a : Addr} {vs : List V} (h : TupAt g bs H a vs) : TupAt g bs H1 a vs:=
  h.imp (fun z=>⟨z.1,zo8 e hd (fun _=>nofun) z.2⟩) id
theorem zgk.sw (e : ∀ b,b ≠ d -> H1 b = H b) (hd : ∃ P,H d = some (.ext P)) {a : Addr} {vs : List V} (h : zgk g bs H a vs) : zgk g bs H1 a vs:=
  h.imp (fun z=>⟨z.1,zo8 e hd (fun _=>nofun) z.2⟩) id
theorem znT (e : ∀ b,b ≠ d -> H1 b = H b) (hd : ∃ P,H d = some (.ext P)) {a : Addr} {vs : List V} (h : H a = some (.lst vs)) : H1 a = some (.lst vs):=zg1 e hd (fun _=>nofun) h
theorem zoP (e : ∀ b,b ≠ d -> H1 b = H b) (hd : ∃ P,H d = some (.ext P)) {a C dx : Addr} {fvs : List (Str × V)} (h : H a = some (.ins C dx fvs)) : H1 a = some (.ins C dx fvs):=zg1 e hd (fun _=>nofun) h
theorem zq8 (e : ∀ b,b ≠ d -> H1 b = H b) (hd : ∃ P,H d = some (.ext P)) {a : Addr} {kvs : List (Key × V)} (h : H a = some (.dK kvs)) : H1 a = some (.dK kvs):=zg1 e hd (fun _=>nofun) h
theorem znW (e : ∀ b,b ≠ d -> H1 b = H b) (hd : ∃ P,H d = some (.ext P)) {a : Addr} {od : Obj} {u : HO} (h : H a = some (.frz od u)) : H1 a = some (.frz od u):=zg1 e hd (fun _=>nofun) h
mutual
theorem Rep.sw (e : ∀ b,b ≠ d -> H1 b = H b) (hd : ∃ P,H d = some (.ext P)) : ∀ {x : D} {v : V},Rep g bs H x v -> Rep g bs H1 x v
  | _,_,.non=>.non
  | _,_,.bl b=>.bl b
  | _,_,.int i=>.int i
  | _,_,.str h=>.str h
  | _,_,.tup h r=>.tup (TupAt.sw e hd h) (Reps.sw e hd r)
  | _,_,.lst n h r=>.lst n (znT e hd h) (Reps.sw e hd r)
  | _,_,.rol h r=>.rol (zgk.sw e hd h) (Reps.sw e hd r)
  | _,_,.obj n c h f r=>.obj n c (zoP e hd h) f (Reps.sw e hd r)
  | _,_,.ref h=>.ref h
  | _,_,.dct n h f r=>.dct n (zq8 e hd h) f (Reps.sw e hd r)
  | _,_,.dnt n h f r r2=>.dnt n (znW e hd h) f (Reps.sw e hd r) (Reps.sw e hd r2)
theorem Reps.sw (e : ∀ b,b ≠ d -> H1 b = H b) (hd : ∃ P,H d = some (.ext P)) : ∀ {ds : List D} {vs : List V},Reps g bs H ds vs -> Reps g bs H1 ds vs
  | _,_,.nil=>.nil
  | _,_,.cons r t=>.cons (Rep.sw e hd r) (Reps.sw e hd t)
end
end
end Ev
namespace Ev
open PySem PySem.Spec PyProof.Rows L2
section
variable {ci : Nat -> String × List String} {X : Cx} {W : WX} {pos : Pos} {k1 v1 k2 v2 k3 v3 : Expr} {t1 u1 t2 u2 t3 u3 : TE} {f1 g1 f2 g2 f3 g3 : En -> Hs -> R D}
def put3 (y1 z1 y2 z2 y3 z3 : D) (k1 k2 k3 : NK) : List D × List D:=
  let a:=zjH [] [] y1 k1 z1
  let b:=zjH a.1 a.2 y2 k2 z2
  zjH b.1 b.2 y3 k3 z3
def three (n : Nat) (y1 z1 y2 z2 y3 z3 : D) (h : Hs) : R D:=match h[n]? with
  | some (.dn [] [])=>match znF y1,znF y2,znF y3 with
    | some k1,some k2,some k3=>.ok (.ref n) (h.set n (.dn (put3 y1 z1 y2 z2 y3 z3 k1 k2 k3).1 (put3 y1 z1 y2 z2 y3 z3 k1 k2 k3).2))
    | _,_,_=>.bad
  | _=>.bad
def zmX (f1 g1 f2 g2 f3 g3 : En -> Hs -> R D) : En -> Hs -> R D:=fun env h=>(f1 env (h ++ [.dn [] []])).bind fun y1 h1=>(g1 env h1).bind fun z1 h2=>(f2 env h2).bind fun y2 h3=>(g2 env h3).bind fun z2 h4=>(f3 env h4).bind fun y3 h5=>(g3 env h5).bind fun z3 h6=>three h.length y1 z1 y2 z2 y3 z3 h6
@[simp] theorem znK {env : En} {h : Hs} : zmX f1 g1 f2 g2 f3 g3 env h = (f1 env (h ++ [.dn [] []])).bind fun y1 h1=>(g1 env h1).bind fun z1 h2=>(f2 env h2).bind fun y2 h3=>(g2 env h3).bind fun z2 h4=>(f3 env h4).bind fun y3 h5=>(g3 env h5).bind fun z3 h6=>three h.length y1 z1 y2 z2 y3 z3 h6:=rfl
def zmK (f : En -> Hs -> R D) : En -> Hs -> R D:=fun env h=>zcC h (f env h)
@[simp] theorem zpw {f : En -> Hs -> R D} {env : En} {h : Hs} : zmK f env h = zcC h (f env h):=rfl
theorem zmC {e : Expr} {t : TE} {f : En -> Hs -> R D} (a : EJ ci X W e t f) : EJ ci X W e t (zmK f):=
  ⟨a.pe,fun σ H env h bs Q er hr p=>a.sim σ H env h bs Q er hr (zhD hr p)⟩
end
end Ev
namespace Ev
open PySem PySem.Spec PyProof.Rows L2
end Ev
namespace StarT
open PySem PySem.Spec PyProof.Rows PySem.W
section
variable {prog : Program} {w : World} {A : Around} {E : Value -> Shared -> Prop} {s : Shared}
theorem zjn {it l : Addr} {items : Array Value} {n : Nat} (hh : A.handled = none) (hne : l ≠ it) (hn : items.size = n + 1) :
    WalksS prog w A it [it, l] [it] (fun a b => a = b) n (fun i v => items[i + 1]? = some v) (fun i s => s.heap.IsListIter it l (i + 1) /\ s.heap.IsList l items) where
  sub := fun b hb => by simp at hb; simp [hb]
  grefl := fun _ => rfl
  gtrans := fun _ _ _ h1 h2 => h1.trans h2
  frame := fun _ _ _ _ st _ hk => ⟨st.1.at fun o e => hk it (by simp) o e, st.2.at fun o e => hk l (by simp) o e⟩
  item := fun i s Q E hi st hQ => by
    refine wpAny_pyNext_list_item st.1 st.2 (x := items[i + 1]) (by rw [Array.getElem?_eq_getElem]) fun h' hit' hs' => ?_
    exact hQ _ _ (by rw [Array.getElem?_eq_getElem]) ⟨hit', st.2.extBut hs'.extBut hne⟩ ⟨fun b o hb e => hs'.extBut b o (fun h => hb (by simp [h])) e, rfl, rfl, rfl, Nat.le_refl _⟩
  done := fun s Q E st hQ => wpAny_pyNext_list_end hh st.1 st.2 (Array.getElem?_eq_none (by omega)) fun h' he' => hQ _ ⟨fun b o hb e => he' b o (fun h => hb (by simp [h])) e, rfl, rfl, rfl, Nat.le_refl _⟩
  self := fun _ _ _ _ st hQ => wpAny_pyIter_listiter st.1 hQ
theorem un_star {l : Addr} {x : Value} {xs : List Value} {Q : List Value -> Shared -> Prop} (hh : A.handled = none) (hh2 : A.in1.handled = none) (hl : s.heap.IsList l (x :: xs).toArray) (hz : xs.length <= sizeLine)
    (hQ : ∀ (h' : Heap) (tk : Nat), (∀ b o, s.heap.get? b = some o -> h'.get? b = some o) -> Q [x, .ref h'.objs.size] { s with heap := h'.push { cls := .type "list", data := .seq xs.toArray }, toks := tk }) : wpAny (model prog w) A (unpackItems (.ref l) 2 (some 1)) Q E s := by
  have hlt : l ≠ s.heap.objs.size := by obtain ⟨o, ho, _⟩ := hl; exact Nat.ne_of_lt (Heap.lt_size ho)
  unfold unpackItems
  refine wpAny_bind ?_
  unfold notIterableAtAll
  refine wpAny_bind (wpAny_specialOf hl.typeIs slot_list_iter.lookup ?_)
  refine wpAny_pure ?_
  simp only [Bool.false_eq_true, if_false]
  refine wpAny_bind (wpAny_holding (wpAny_pyIter_list hl ?_))
  refine wpAny_bind (wpAny_holding (kun_draw hlt 1 0 _ _ ⟨_, Heap.get?_push_size _ rfl, rfl, rfl⟩ (hl.push _) (by simp) fun h₁ hit₁ hs₁ => ?_))
  have h1 : List.take 1 (List.drop 0 (x :: xs).toArray.toList) = [x] := rfl
  rw [h1, if_neg (by simp)]
  have hl₁ : h₁.IsList l (x :: xs).toArray := (hl.push _).extBut hs₁.extBut hlt
  have ex₁ : ∀ b o, s.heap.get? b = some o -> h₁.get? b = some o := fun b o e => hs₁.extBut b o (Nat.ne_of_lt (Heap.lt_size e)) (Heap.get?_push_of_some _ e)
  have W := zjn (prog := prog) (w := w) (A := A.in1) (items := (x :: xs).toArray) (n := xs.length) hh2 hlt (by simp)
  have isz : s.heap.objs.size < h₁.objs.size := by obtain ⟨o, ho, _⟩ := hit₁; exact Heap.lt_size ho
  refine wpAny_bind (wpAny_holding (wpAny_collect_iter (T := "list_iterator") (.inr (.inr (.inl rfl))) W (fun i s st => st.1.typeIs) ⟨hit₁, hl₁⟩ (fun b hb => ?_) (by simp) (fun s' acc mv it => ?_) hz))
  · simp at hb
    rcases hb with rfl | rfl
    · exact isz
    · obtain ⟨o, ho, _⟩ := hl₁; exact Heap.lt_size ho
  · have e : acc.toList = xs := by
      obtain ⟨e1, e2⟩ := it
      refine List.ext_getElem? fun j => ?_
      by_cases hj : j < xs.length
      · have g : acc[j]? = some acc[j] := Array.getElem?_eq_getElem (by omega)
        have := e2 j _ g
        rw [Array.getElem?_toList, g]
        simpa using this.symm
      · rw [List.getElem?_eq_none (by simp; omega), List.getElem?_eq_none (by omega)]
    obtain ⟨mh, mg, md, mo, mt⟩ := mv
    obtain ⟨h2, g2, d2, t2, o2⟩ := s'
    dsimp only at mh mg md mo mt
    subst mg md mo
    rw [e]
    simp only [Nat.sub_self, Nat.reduceSub, Nat.not_lt_zero, if_false, Nat.sub_zero, List.take_length, List.drop_length]
    refine wpAny_bind (wpAny_newList ?_ hz)
    refine wpAny_pure ?_
    exact hQ h2 t2 fun b o e => mh b o (by
      intro z
      simp at z
      subst z
      exact absurd (Heap.lt_size e) (Nat.lt_irrefl _)) (ex₁ b o e)
end
end StarT
namespace L2
open PySem PySem.Spec PyProof.Rows
def zmt (K : PySem.W.Frag) (i j : Nat) : TG:=fun v σ H Q=>∃ a x xs,v = .ref a /\ SqL K H a (x :: xs) /\ ∀ p,H p = none -> Q ((σ.set i (some x)).set j (some (.ref p))) (upd H p (.lst xs))
section
variable {X : Cx} {pos : Pos}
theorem znp {es : List Expr} {k i j : Nat} {x y : Str} {p1 p2 p3 : Pos} (hc : X.calm = true) (hN : X.N.Nodup) (hi : X.N[i]? = some x) (hj : X.N[j]? = some y) (hx : Loc X.env.scope x) (hy : Loc X.env.scope y)
    (hf : X.fn x = true \/ X.env.scope.names.lookup x = some .local) (hf2 : X.fn y = true \/ X.env.scope.names.lookup y = some .local) : PG X (.Tuple [.Name x p1, .Starred (.Name y p2) p3] k pos) (zmt X.K i j) := by
  refine ⟨fun pins s σ H v u Q I r hw => ?_⟩
  obtain ⟨a, z, zs, e1, hq, hw⟩ := hw
  subst e1
  cases r
  obtain ⟨its, rv, pl, hz⟩ := I.list hq
  cases rv with
  | cons r1 rs =>
    rename_i u1 us
    rw [PyProof.Rows.assign_Tuple]
    refine wpAny_bind (wpAny_standAt ?_)
    unfold unpack
    have hs1 : (assignEach [.Name x p1, .Starred (.Name y p2) p3] X.env).length = 2 := rfl
    have hs2 : (assignEach [.Name x p1, .Starred (.Name y p2) p3] X.env).findIdx? (·.1) = some 1 := rfl
    rw [hs1, hs2]
    have hl : us.length <= sizeLine := by
      have := hz
      simp at this
      have e2 := rs.length
      omega
    refine wpAny_bind (wpAny_holding (StarT.un_star (I.ok.hd hc) (I.ok.hd hc) pl.isList hl fun h' tk hx' => ?_))
    have I1 : Inv X pins σ H { s with heap := h', toks := tk } := I.kept (t' := tk) hx'
    have hn : H h'.objs.size = none := I1.hok.fresh (Nat.le_refl _)
    have I2 : Inv X pins σ (upd H h'.objs.size (.lst zs)) { s with heap := h'.push { cls := .type "list", data := .seq us.toArray }, toks := tk } :=
      I1.laid (t' := tk) (fun b u q => Heap.get?_push_of_some _ q) (Nat.le_refl _) ⟨by have := rs.length; omega, us, _, rs, Heap.get?_push_size _ rfl⟩
    have h1 := pg_name (X := X) (pos := p1) hN hi hx hf
    have h2 := pg_name (X := X) (pos := p2) hN hj hy hf2
    have hs : (assignEach [.Name x p1, .Starred (.Name y p2) p3] X.env).map (·.2) = [assign (.Name x p1) X.env, assign (.Name y p2) X.env] := rfl
    rw [hs]
    refine assignInOrder_cons (thn (h1.run pins _ σ _ z u1 (fun σ' H' => σ' = σ.set i (some z) /\ H' = upd H h'.objs.size (.lst zs)) I2 r1 ⟨rfl, rfl⟩) fun _ s1 ⟨σ1, H1, I3, q1⟩ => ?_)
    obtain ⟨rfl, rfl⟩ := q1
    refine assignInOrder_cons (thn (h2.run pins s1 _ _ (.ref h'.objs.size) (.ref h'.objs.size) Q I3 rfl (hw _ hn)) fun _ s2 q2 => ?_)
    exact wpAny_pure q2
end
end L2
namespace Ev
open PySem PySem.Spec PyProof.Rows L2
def zlH (i j : Nat) (fe : En -> Hs -> R D) : En -> Hs -> S:=fun env h=>(fe env h).toS env fun d h1=>match d with
  | .lst (x :: xs)=>.nx ((env.set i (some x)).set j (some (.lst xs))) h1
  | _=>.bad
@[simp] theorem zpp {i j : Nat} {fe : En -> Hs -> R D} {env : En} {h : Hs} : zlH i j fe env h = (fe env h).toS env fun d h1=>match d with
  | .lst (x :: xs)=>.nx ((env.set i (some x)).set j (some (.lst xs))) h1
  | _=>.bad:=rfl
section
variable {ci : Nat -> String × List String} {X : Cx} {W : WX} {e : Expr} {te : TE} {fe : En -> Hs -> R D}
theorem zlq {g : G} {i j : Nat} (he : Sim (zc5 g) g W te fe) : zjr g W (tAsg te (zmt g.K i j)) (zlH i j fe):=
  fun σ H env h bs E er hr p=>he.stepS er hr p fun a b bs1 H1 h1 e1 hr1 er1 ra p1=>by
    split at p1
    · rename_i d ds
      cases ra with
      | @lst ad vs _ n0 h0 rs =>
        cases rs with
        | cons r1 rs =>
          rename_i v vs
          refine ⟨ad,v,vs,rfl,.of h0,fun q hq=>?_⟩
          refine p1 bs1 _ _ (.new hq) (hr1.new hq) ?_
          have er2:=ERel.mono (.new hq (o:=.lst vs)) er1
          exact (er2.set (r1.mono (.new hq)) i).set (.lst (hr1.out hq) upd_same (rs.mono (.new hq))) j
    · exact p1.elim
theorem zmE {i j k : Nat} {x y : Str} {p1 p2 p3 pos pt : Pos} (hc : X.calm = true) (hN : X.N.Nodup) (he : EJ ci X W e te fe) (hi : X.N[i]? = some x := by rfl) (hj : X.N[j]? = some y := by rfl) (hx : Loc X.env.scope x := by first | exact Or.inl rfl | exact Or.inr rfl) (hy : Loc X.env.scope y := by first | exact Or.inl rfl | exact Or.inr rfl)
    (hf : X.fn x = true \/ X.env.scope.names.lookup x = some .local := by first | exact .inl rfl | exact .inr rfl | assumption) (hf2 : X.fn y = true \/ X.env.scope.names.lookup y = some .local := by first | exact .inl rfl | exact .inr rfl | assumption)
    (hs : swapsWithSole [.Tuple [.Name x p1, .Starred (.Name y p2) p3] k pt] e pos.line X.env = pure false := by rfl) (hw : swappedStores [.Tuple [.Name x p1, .Starred (.Name y p2) p3] k pt] e X.env = pure none := by rfl)
    (h1 : (assignEach [.Tuple [.Name x p1, .Starred (.Name y p2) p3] k pt] X.env).map (·.2) = [assign (.Tuple [.Name x p1, .Starred (.Name y p2) p3] k pt) X.env] := by rfl) : SJ ci X W (.Assign [.Tuple [.Name x p1, .Starred (.Name y p2) p3] k pt] e pos) (tAsg te (zmt X.K i j)) (zlH i j fe) :=
  ⟨ps_asg he.pe (znp (es := []) hc hN hi hj hx hy hf hf2) hs hw h1, zlq (g := X.g ci) he.sim⟩
end
def zqr : V -> List V -> Hp -> VK -> Prop:=fun x xs H Q=>∃ a b,x = .str a /\ xs = [.str b] /\ (b.length == 0) = false /\ a.length + 2 <= sizeLine /\ rNewStrs (Txt.split a b) H Q
theorem zeI {X : Cx} : MtR X "str.split" zqr:=mt_split
def zcs (x : D) (xs : List D) (h : Hs) : R D:=match x,xs with
  | .str a,[.str b]=>if (!(b.length == 0) && Nat.ble (a.length + 2) 16777216 && (Txt.split a b).all PyData.strOk) = true then .ok (.lst ((Txt.split a b).map D.str)) h else .bad
  | _,_=>.bad
theorem zfx {g : G} {bs : List Addr} {H : Hp} : ∀ {ys : List Str},ys.all PyData.strOk = true -> Reps g bs H (ys.map D.str) (ys.map V.str)
  | [],_=>.nil
  | y :: ys,h=>by
    rw [List.all_cons,Bool.and_eq_true] at h
    exact .cons (.str h.1) (zfx h.2)
theorem zcN {g : G} : MJ g zqr zcs:=by
  refine ⟨fun W bs h H x vx xs vs Q hr rx rs p=>?_⟩
  unfold zcs at p
  split at p
  · rename_i a b
    split at p
    · rename_i hl
      rw [Bool.and_eq_true,Bool.and_eq_true] at hl
      cases rx with
      | str hs =>
        cases rs with
        | cons r t =>
          cases t
          cases r with
          | str hb =>
            refine ⟨a,b,rfl,rfl,by simpa using hl.1.1,Nat.le_of_ble_eq_true hl.1.2,fun q hq=>?_⟩
            exact p bs _ _ (.new hq) (hr.new hq) (.lst (hr.out hq) upd_same (zfx hl.2))
    · exact p.elim
  · exact p.elim
def zrz : V -> List V -> Hp -> VK -> Prop:=fun x xs H Q=>∃ a b,x = .str a /\ xs = [.str b] /\ a.length <= sizeLine /\ Q (.str (Txt.stripChars a b)) H
theorem zpj {X : Cx} : MtR X "str.strip" zrz:=mt_stripChars
def zf4 (x : D) (xs : List D) (h : Hs) : R D:=match x,xs with
  | .str a,[.str b]=>if (Nat.ble a.length 16777216 && PyData.strOk (Txt.stripChars a b)) = true then .ok (.str (Txt.stripChars a b)) h else .bad
  | _,_=>.bad
theorem zkV {g : G} : MJ g zrz zf4:=by
  refine ⟨fun W bs h H x vx xs vs Q hr rx rs p=>?_⟩
  unfold zf4 at p
  split at p
  · rename_i a b
    split at p
    · rename_i hl
      rw [Bool.and_eq_true] at hl
      cases rx with
      | str hs =>
        cases rs with
        | cons r t =>
          cases t
          cases r with
          | str hb=>exact ⟨a,b,rfl,rfl,Nat.le_of_ble_eq_true hl.1,zaU.ok_ p hr (.str hl.2)⟩
    · exact p.elim
  · exact p.elim
def zin (xs : List D) (h : Hs) : R D:=match xs with
  | [.str a]=>match PySem.intText? a with
    | some n=>if Nat.ble a.length 640 = true then .ok (.int n) h else .bad
    | none=>.bad
  | xs=>zeo xs h
def zoW : List V -> Hp -> VK -> Prop:=fun xs H Q=>((∃ i,xs = [.int i] /\ Q (.int i) H) \/ ∃ k,xs = [.bl k] /\ Q (.int (if k then 1 else 0)) H) \/ ∃ a n,xs = [.str a] /\ PySem.intText? a = some n /\ a.length <= 640 /\ Q (.int n) H
theorem zku {X : Cx} : CallR X (.type "int") zoW:=by
  intro pins s σ H xs us Q I r q
  rcases q with q | q
  · exact call_int1 pins s σ H xs us Q I r q
  · exact call_int_str pins s σ H xs us Q I r q
theorem ziQ {g : G} : CaJ g zoW zin:=by
  refine ⟨fun W bs h H xs vs Q hr rs p=>?_⟩
  unfold zin at p
  split at p
  · rename_i a
    split at p
    · rename_i n hn
      split at p
      · rename_i hl
        cases rs with
        | cons r t =>
          cases t
          cases r with
          | str hs=>exact .inr ⟨a,n,rfl,hn,Nat.le_of_ble_eq_true hl,zaU.ok_ p hr (.int _)⟩
      · exact p.elim
    · exact p.elim
  · exact .inl (zel.run W bs h H _ vs Q hr rs p)
end Ev
namespace NeX
open PySem PySem.Spec PyProof.Rows PySem.SeqAt
end NeX
namespace Ev
open PySem L2
end Ev
namespace L2
open PySem PySem.Spec PyProof.Rows
def zg3 (M : Model) (A : Around) (E : Value -> Shared -> Prop) (use : Option (Value -> Sem Unit)) (Q : Value -> Shared -> Prop) (acc : Value) (ce : Env) : Result -> Shared -> Prop
  | .ok _,t=>match use with
    | none=>∃ m,t.heap.Ns ce.locals m /\ ∀ h,Heap.SameBut ce.locals t.heap h -> Q acc { t with heap:=h }
    | some u=>wpAny M A (u acc) (fun _ t'=>∃ m,t'.heap.Ns ce.locals m /\ ∀ h,Heap.SameBut ce.locals t'.heap h -> Q .none { t' with heap:=h }) E t
  | .error x,t=>∃ m,t.heap.Ns ce.locals m /\ ∀ h,Heap.SameBut ce.locals t.heap h -> wpAny M A (passOn "comprehension.variables-let-go" x ce : Sem Value) (fun _ _=>False) E { t with heap:=h }
section
variable {M : Model} {A : Around} {E : Value -> Shared -> Prop} {env : Env} {s : Shared}
theorem zko {e : Expr} {scope : Scope} {pos : Pos} {newAcc first : Sem Value} {g : Comprehension} {gs : List Comprehension} {cl : List (Str × Addr)} {use : Option (Value -> Sem Unit)} {Q : Value -> Shared -> Prop}
    (c1 : clausesOf e = g :: gs) (c2 : ∀ x, foldedSetIterable g.iter env x = pure x) (c3 : closureFor scope env = pure cl)
    (c4 : scope.kind = .function) (c5 : ∀ x ∈ scope.names, x.2 = .local -> scope.names.lookup x.1 = some .local)
    (h : wpAny M A first (fun x s₁ => wpAny M A (pyIter x) (fun it s₂ => wpAny M A newAcc (fun acc s₃ =>
      wpAny M A (newFunctionEnv scope env.globals cl [] env.qual none .none (some env)) (fun ce s₄ =>
        codeAny M A (.compStart e 0 it acc { ce with scope := relabel scope env }) (zg3 M A E use Q acc { ce with scope := relabel scope env }) s₄) E s₃) E s₂) E s₁) E s) :
    wpAny M A (comprehension e scope env pos newAcc false first use) Q E s := by
  unfold comprehension
  rw [c3, c1]
  refine wpAny_bind (wpAny_mono h ?_ fun _ _ y => y)
  intro x s₁ h₁
  refine wpAny_bind (wpAny_standAt (wpAny_bind (wpAny_of_eq (c2 x) (wpAny_bind (wpAny_holding (wpAny_mono h₁ ?_ fun _ _ y => y))))))
  intro it s₂ h₂
  refine wpAny_standIf (wpAny_bind (wpAny_mono h₂ ?_ fun _ _ y => y))
  intro acc s₃ h₃
  refine wpAny_bind (wpAny_pure (wpAny_bind (wpAny_mono h₃ ?_ fun _ _ y => y)))
  intro ce s₄ h₄
  dsimp only
  have go : ∀ x ∈ (scope.names.filter fun x => (x.2 == .local || x.2 == .cell) && x.1 != (".0" : Str)).reverse, x.2 = .local ->
      Env.kindOf { ce with scope := relabel scope env } x.1 = some .local := fun x hx hl =>
    lookup_relabel_local (c5 x (List.mem_filter.mp (List.mem_reverse.mp hx)).1 hl)
  have go2 : ∀ x ∈ (scope.names.filter fun x => (x.2 == .local || x.2 == .cell) && x.1 != (".0" : Str)).reverse.drop 1 ++ (scope.names.filter fun x => (x.2 == .local || x.2 == .cell) && x.1 != (".0" : Str)).reverse.take 1, x.2 = .local ->
      Env.kindOf { ce with scope := relabel scope env } x.1 = some .local := fun x hx hl => go x ((List.mem_append.mp hx).elim List.mem_of_mem_drop List.mem_of_mem_take) hl
  refine wpAny_holding (wpAny_bind (wpAny_attempt (wpAny_holding (wpAny_run (codeAny_mono h₄ ?_)))))
  intro r t hr
  cases r with
  | ok f =>
    cases use with
    | none =>
      obtain ⟨m, hn, q⟩ := hr
      exact wpAny_bind (wpAny_holding (wpAny_comp_letGo (cenv := { ce with scope := relabel scope env }) c4 _ t m go hn fun h' _ _ sb => wpAny_pure (q h' sb)))
    | some u =>
      refine wpAny_bind (wpAny_rule (wpAny_bind (wpAny_holding (wpAny_mono hr (fun _ t' hr' => ?_) fun _ _ y => y))))
      obtain ⟨m, hn, q⟩ := hr'
      exact wpAny_bind (wpAny_comp_letGo (cenv := { ce with scope := relabel scope env }) c4 _ t' m go2 hn fun h' _ _ sb => wpAny_pure (q h' sb))
  | error x =>
    obtain ⟨m, hn, q⟩ := hr
    exact wpAny_bind (wpAny_holding (wpAny_comp_letGo (cenv := { ce with scope := relabel scope env }) c4 _ t m go hn fun h' _ _ sb => wpAny_mono (q h' sb) (fun _ _ z => z.elim) fun _ _ y => y))
theorem zjW {x : Value} {a b : Env} (h : a.frame = b.frame) : noteFrame x a = noteFrame x b:=by
  unfold noteFrame PySem.frameOf
  rw [h]
theorem ziF {α : Type} {x : Value} {what : String} {a b : Env} (h : a.frame = b.frame) : (PySem.passOn what x a : Sem α) = PySem.passOn what x b:=by
  unfold PySem.passOn
  rw [h]
end
end L2
namespace L2
open PySem PySem.Spec PyProof.Rows HandSPX
theorem note_held {prog : Program} {w : World} {A : Around} {E : Value -> Shared -> Prop} {s : Shared} {base : Heap} {env : Env} {outer : List Env} {a L : Addr} {Z : Obj -> Prop} {fl : Value} {Q : Unit -> Shared -> Prop}
    (hZ : Steady Z) (hfr : A.frames = some (env :: outer)) (hf : env.frame = some L) (kb : base.StaysIn s.heap) (nb : base.get? a = none) (ff : s.heap.FunFrames base (env :: outer)) (tr : TracedZ s.heap base a Z fl) (ne : (fl == rawInt L) = false)
    (hQ : ∀ h', HeldZ base (env :: outer) a Z L h' -> s.heap.UpToSlots h' -> Q () { s with heap := h' }) : wpAny (model prog w) A (noteFrame (.ref a) env) Q E s := by
  have ⟨oe, vs, T, oT, ts, g1, g2, g3, g4, g5, g6, g7, g8, g9⟩ := tr
  have off : ∀ b, b ≠ T -> (s.heap.update T (Obj.mapFields (·.setIfInBounds 3 Value.none))).get? b = s.heap.get? b := fun b hb => Heap.get?_update_other _ _ (Ne.symm hb)
  have nrec : ∀ b o, s.heap.get? b = some o -> (∀ vs, o.data ≠ .fields vs) -> b ≠ T := fun b o q n z => by
    subst z
    rw [g7] at q
    cases q
    exact n ts g8
  unfold noteFrame
  rw [hf]
  refine wpAny_bind (wpAny_field g1 g3 g4 ?_)
  rw [if_pos (by simp : (Value.ref T != Value.none) = true)]
  refine wpAny_bind (wpAny_field g7 g8 g9 ?_)
  rw [ne, if_neg Bool.false_ne_true]
  refine wpAny_bind (wpAny_setField g7 g8 (Array.getElem?_eq_some_iff.mp g9).1 ?_)
  exact wpAny_entryZ hZ hfr (ff.of_keeps fun b o q n => ⟨o, (off b (nrec b o q n)).trans q, rfl⟩) hf ((off a (Ne.symm g6)).trans g1)
    (fun b o q => (off b fun z => by rw [z, g5] at q; cases q).trans (kb b o q)) nb g3 (Array.getElem?_eq_some_iff.mp g4).1 g2
    fun h' ⟨x1, x2, x3, x4⟩ => hQ h' ⟨x1, nb, x2, x3⟩ fun b o q n => x4 b o ((off b (nrec b o q n)).trans q) n
end L2
namespace L2
open PySem PySem.Spec PyProof.Rows HandSPX
theorem zml {base B : Heap} {h h' : Heap} : ∀ {l : List Env},h.FunFrames base l -> (∀ L ∈ frs l,B.get? L = none /\ h'.get? L = h.get? L) -> h'.FunFrames B l
  | [],_,_=>trivial
  | env :: l,⟨hk,⟨L,o,hf,_,ho,hd⟩,hr⟩,hn=>by
    obtain ⟨n1,n2⟩:=hn L (List.mem_filterMap.mpr ⟨env,List.mem_cons_self,hf⟩)
    exact ⟨hk,⟨L,o,hf,n1,n2.trans ho,hd⟩,zml hr fun b hb=>by
      obtain ⟨e,he,q⟩:=List.mem_filterMap.mp hb
      exact hn b (List.mem_filterMap.mpr ⟨e,List.mem_cons_of_mem _ he,q⟩)⟩
abbrev zqX (X : Cx) (ce : Env) (use : Option (Value -> Sem Unit)) (Q : Value -> Shared -> Prop) (acc : Value) : Value -> Shared -> Prop:=
  notedBy (model X.prog X.w) X.A ce fun e t=>zg3 (model X.prog X.w) X.A X.xe use Q acc ce (.error e) t
theorem ziq {X : Cx} {pins : List (Addr × Obj)} {σ : St} {H3 : Hp} {s3 : Shared} {scope : Scope} {fp : List Addr} {W : WX} {use : Option (Value -> Sem Unit)} {Q : Value -> Shared -> Prop} {acc : Value} {ce : Env}
    (I3 : Inv X pins σ H3 s3) (tk : Takes X W) (hs : X.stack = X.env :: X.outer) (hf : X.env.frame = some X.env.locals) (hce : ce.frame = X.env.frame) (cL : s3.heap.objs.size <= ce.locals)
    (f3 : ∀ b ∈ fp, FpOk X pins H3 b) :
    Takes ((X.blk s3 H3 scope ce fp).wish (zqX X ce use Q acc)) (fun c d _ H => W c d σ H) := by
  rintro u s' ⟨a, B, sI, pins', σB, H, cls, d, rfl, I, nb, up, sky, na, os, ag, w⟩
  have nC : H ce.locals = none := I.free
  have fC := I3.fpOk (H' := H) cL nC
  have nS : ce.locals ∉ frs X.stack := fun hm => by
    rcases List.mem_cons.mp (I3.stkSub _ hm) with e | e
    · exact fC.2.1 e
    · exact fC.2.2.1 e
  have hfr : X.A.frames = some (X.env :: X.outer) := by rw [<- hs]; exact I3.ok.frames
  obtain ⟨m0, ⟨oC, es, ep, gC, _⟩, _⟩ := I.loc
  have gC : sI.heap.get? ce.locals = some oC := gC
  have BC : B.get? ce.locals = some oC := nb _ _ gC nS
  have fin : ∀ h1, HeldZ B X.stack a (Zc cls d) X.env.locals h1 -> s'.heap.UpToSlots h1 -> zg3 (model X.prog X.w) X.A X.xe use Q acc ce (.error (.ref a)) { s' with heap := h1 } := by
    rintro h1 ⟨st1, na1, ff1, oe, vs, T, oT, ts, g1, g2, g3, g4, g5, g6, g7, g8, g9⟩ up1
    have J1 := Inv.landed (s' := { s' with heap := h1 }) I nb st1 (up.trans up1) os ag
    obtain ⟨m, hn, _⟩ := J1.loc
    refine ⟨m, hn, fun h' sb => ?_⟩
    have aC : a ≠ ce.locals := fun z => by rw [z, BC] at na1; cases na1
    have TC : T ≠ ce.locals := fun z => by rw [z, BC] at g5; cases g5
    obtain ⟨B', b1, b2⟩ := restrict h' fun b => (B.get? b).isSome
    obtain ⟨G, c1, c2⟩ := restrict h' fun b => (sI.heap.get? b).isSome
    have Bn : ∀ b, B.get? b = none -> B'.get? b = none := fun b e => b2 b (by simp [e])
    have Bs : B'.StaysIn h' := fun b o e => by
      cases q : (B.get? b).isSome with
      | false => rw [b2 b q] at e; cases e
      | true => rw [b1 b q] at e; exact e
    have ff : h'.FunFrames B' X.stack := zml ff1 fun L hL => by
      obtain ⟨n1, _⟩ := ff1.mem hL
      exact ⟨Bn L n1, sb.2 L fun z => nS (z ▸ hL)⟩
    have tr : TracedZ h' B' a (Zc cls d) (rawInt X.env.locals) := ⟨oe, vs, T, oT, ts, (sb.2 a aC).trans g1, g2, g3, g4, Bn T g5, g6, (sb.2 T TC).trans g7, g8, g9⟩
    -- the state without it
    have keep : ∀ b o, sI.heap.get? b = some o -> b ∉ frs X.stack -> b ≠ ce.locals -> G.get? b = some o := fun b o e hb hc => by
      rw [c1 b (by simp [e]), sb.2 b hc]
      exact st1 b o (nb b o e hb)
    have JX : Inv X pins σ H sI := I3.call' (ch := fp) I.os I.base I.hok I.bare fun b hb => ⟨(f3 b hb).2.2.2.1, (f3 b hb).2.1, (f3 b hb).2.2.2.2.1, (f3 b hb).2.2.2.2.2⟩
    have sf : ∀ b ∈ frs X.stack, ∀ o, sI.heap.get? b = some o -> ∃ sl, G.get? b = some { o with slots := sl } := fun b hb o e => by
      obtain ⟨_, o', e', hd⟩ := JX.stack.mem hb
      rw [e] at e'; cases e'
      obtain ⟨sl, q⟩ := (up.trans up1) b o e hd
      exact ⟨sl, by rw [c1 b (by simp [e]), sb.2 b fun z => nS (z ▸ hb)]; exact q⟩
    have JG : Inv X pins σ H { sI with heap := G } := JX.call' (s' := { sI with heap := G }) (ch := [ce.locals]) rfl
      ⟨fun b o e _ hb hc => keep b o e hb (by simpa using hc), fun b o e _ hb _ => sf b hb o e, fun _ _ _ n _ => n, fun b o e hc => by
        by_cases hb : b ∈ frs X.stack
        · obtain ⟨sl, q⟩ := sf b hb o e
          exact ⟨_, q⟩
        · exact ⟨o, keep b o e hb (by simpa using hc)⟩, fun _ _ e => e, fun _ _ _ e => e, fun b ps e => ⟨#[], by rw [e]; simp⟩⟩
      (fun b o q => (I.hok b o q).stay (fun c u hc r => by
        have hx : H c ≠ none := by
          rcases hc with hc | hc
          · rw [hc, q]; simp
          · rw [hc]; simp
        exact keep c u r (fun hm => hx (JX.stkFree c hm)) fun z => hx (z ▸ nC)) (fun _ r => r) fun _ _ r => r)
      JX.bare (fun b hb => by
        obtain rfl : b = ce.locals := by simpa using hb
        exact ⟨fC.2.2.2.1, fC.2.1, fC.2.2.2.2.1, fC.2.2.2.2.2⟩)
    rw [ziF hce]
    have fly : wpAny (model X.prog X.w) X.A (setFlight (.ref a) X.env.frame) (fun _ t => wpAny (model X.prog X.w) X.A (throw (.ref a) : Sem Value) (fun _ _ => False) X.xe t) X.xe { s' with heap := h' } := by
      rw [hf]
      refine setFlight_anyZ Bs ff tr fun hF k1 k2 k3 k4 => wpAny_throw (tk _ _ ?_)
      refine ⟨a, B', { sI with heap := G }, pins, σ, H, cls, d, rfl, JG, fun b o e hb => ?_, ?_, .inr (.inr ⟨k1, Bn a na1, k2, k3⟩), na, os, ag, w⟩
      · cases q : (sI.heap.get? b).isSome with
        | false => rw [c2 b q] at e; cases e
        | true =>
          obtain ⟨o0, e0⟩ := Option.isSome_iff_exists.mp q
          rw [c1 b q] at e
          rw [b1 b (by simp [nb b o0 e0 hb])]
          exact e
      · refine (Heap.UpToSlots.of_keeps fun b o e => ?_).trans k4
        cases q : (sI.heap.get? b).isSome with
        | false => rw [c2 b q] at e; cases e
        | true => rw [c1 b q] at e; exact e
    unfold PySem.passOn
    refine wpAny_bind (wpAny_field ((sb.2 a aC).trans g1) g3 g4 ?_)
    rw [if_neg (by simp)]
    first
      | exact wpAny_bind fly
      | exact wpAny_bind (wpAny_pure (wpAny_bind fly))
  show wpAny (model X.prog X.w) X.A (noteFrame (.ref a) ce) (fun _ t => zg3 (model X.prog X.w) X.A X.xe use Q acc ce (.error (.ref a)) t) (fun e t => zg3 (model X.prog X.w) X.A X.xe use Q acc ce (.error e) t) s'
  rw [zjW hce]
  have sky : Sky B (X.env :: X.outer) a (Zc cls d) ce.locals s'.heap := by rw [<- hs]; exact sky
  have fin : ∀ h1, HeldZ B (X.env :: X.outer) a (Zc cls d) X.env.locals h1 -> s'.heap.UpToSlots h1 -> zg3 (model X.prog X.w) X.A X.xe use Q acc ce (.error (.ref a)) { s' with heap := h1 } := by rw [<- hs]; exact fin
  rcases sky with ⟨kB, kn, kf, oe, vs, he, hz, hd, h1⟩ | fl | ⟨k1, k2, k3, k4⟩
  · exact look_newZ Zc.steady hfr kf hf he kB kn hd h1 hz fin
  · exact looks_onZ Zc.steady hfr hf fl fin
  · exact note_held Zc.steady hfr hf k1 k2 k3 k4 (by
      refine beq_eq_false_iff_ne.mpr fun z => fC.2.1 ?_
      unfold rawInt at z
      injection z with z
      exact Int.ofNat.inj z) fin
end L2
namespace L2
open PySem PySem.Spec PyProof.Rows
section
variable {X : Cx}
abbrev WX.at (W : WX) (σ : St) : WX:=fun c d _ H=>W c d σ H
theorem zlw {pins : List (Addr × Obj)} {s : Shared} {σ : St} {H : Hp} {Q : VK} {elt tg iter : Expr} {ifs : List Expr} {scope : Scope} {own : List (Str × Nat)} {pos pos' : Pos} {wi : TI} {g : TG} {tt : TT} {te : WX -> TE} {W : WX} {use : Option (Value -> Sem Unit)} {Qf : Value -> Shared -> Prop}
    (hc : X.calm = true) (hN : X.N.Nodup) (tk : Takes X W) (hs : X.stack = X.env :: X.outer) (hf : X.env.frame = some X.env.locals) (I : Inv X pins σ H s) (hi : PI X tg iter wi) (ok : BlkOk X.N X.env.scope scope own)
    (hg : ∀ (s : Shared) (H : Hp) (C : Addr) (cl : List (Str × Addr)) (fp : List Addr), PG (X.blk s H scope (compEnvC scope cl C X.env) fp) tg g) (ht : ∀ (s : Shared) (H : Hp) (C : Addr) (cl : List (Str × Addr)) (fp : List Addr), PTs (X.blk s H scope (compEnvC scope cl C X.env) fp) ifs tt)
    (he : ∀ (s : Shared) (H : Hp) (C : Addr) (cl : List (Str × Addr)) (fp : List Addr) (xe : Value -> Shared -> Prop) (W' : WX), Takes ((X.blk s H scope (compEnvC scope cl C X.env) fp).wish xe) W' -> PE ((X.blk s H scope (compEnvC scope cl C X.env) fp).wish xe) elt (te W'))
    (hfi : ∀ x, foldedSetIterable iter X.env x = pure x)
    (h : tLc wi g tt (te (W.at σ)) (own.map (·.2)) σ H Q)
    (hR : ∀ D C s' m H', Inv X pins σ H' s' -> Q (.ref D) H' -> s'.heap.Ns C m -> FpOk X pins H' C -> ∀ ce : Env, ce.locals = C -> zg3 (model X.prog X.w) X.A X.xe use Qf (.ref D) ce (.ok .next) s') :
    wpAny (model X.prog X.w) X.A (comprehension (.ListComp elt [⟨tg, iter, ifs, 0⟩] scope pos) scope X.env pos' (newList []) false (eval iter X.env) use) Qf X.xe s := by
  have hfree : ∀ y ∈ scope.names, y.2 = .free -> ∃ c, X.env.cells.lookup y.1 = some c := fun y hy e => by
    rcases ok.free y hy e with k | k
    · exact I.ok.has _ (.inl k)
    · exact I.ok.has _ (.inr k)
  refine zko rfl hfi (closure_ok hfree) ok.kind (fun y hy e => by rw [ok.uniq y hy, e]) ?_
  refine thn (hi.run pins s σ H _ I h) fun xv s1 hx => thn hx fun itv s2 h2 => ?_
  obtain ⟨it, fp, tn, J, H2, e, I2, T, st2, f2, q⟩ := h2
  subst e
  refine wpAny_newObj_type (newEnv_comp ?_) (by show 0 <= sizeLine; decide)
  generalize hD : s2.heap.objs.size = D
  have hDn : H2 D = none := I2.hok.fresh (Nat.le_of_eq hD)
  obtain ⟨Wt, ⟨m0, w0⟩, turn⟩ := q D hDn
  generalize hs3 : ({ s2 with heap := s2.heap.push { cls := .type "list", data := .seq ([] : List Value).toArray } } : Shared) = s3
  have I3 : Inv X pins σ (upd H2 D (.lst [])) s3 := by
    rw [<- hs3]
    refine I2.laid (t' := s2.toks) (fun b o e => Heap.get?_push_of_some _ e) (Nat.le_of_eq hD) ⟨Nat.zero_le _, [], 0, .nil, ?_⟩
    rw [<- hD]
    exact Heap.get?_push_size _ rfl
  have h3 : s3.heap = s2.heap.push { cls := .type "list", data := .seq ([] : List Value).toArray } := by rw [<- hs3]
  have sz : ∀ b ∈ fp, b < s2.heap.objs.size := fun b hb => by
    obtain ⟨o, e, _⟩ := T.obj _ _ st2 b hb
    exact Heap.lt_size e
  have f3 : ∀ b ∈ fp, FpOk X pins (upd H2 D (.lst [])) b /\ b < s3.heap.objs.size := fun b hb => by
    have hlt := sz b hb
    refine ⟨⟨?_, (f2 b hb).2⟩, by rw [h3, Heap.size_push]; exact Nat.lt_succ_of_lt hlt⟩
    rw [upd_ne (by rw [<- hD]; exact Nat.ne_of_lt hlt)]
    exact (f2 b hb).1
  have st3 : tn 0 s3.heap := T.keep _ _ _ st2 fun b _ o e => by rw [h3]; exact Heap.get?_push_of_some _ e
  have I4 := block_start I3 ok hN f3
  have pg := hg s3 (upd H2 D (.lst [])) s3.heap.objs.size (cellsFrom (s3.heap.objs.size + 1) scope.names (cloFrom X.env.cells scope.names [])) fp
  have pt := ht s3 (upd H2 D (.lst [])) s3.heap.objs.size (cellsFrom (s3.heap.objs.size + 1) scope.names (cloFrom X.env.cells scope.names [])) fp
  have pe := he s3 (upd H2 D (.lst [])) s3.heap.objs.size (cellsFrom (s3.heap.objs.size + 1) scope.names (cloFrom X.env.cells scope.names [])) fp
  show codeAny _ _ (.compStart (.ListComp elt [⟨tg, iter, ifs, 0⟩] scope pos) 0 (.ref it) (.ref D) (compEnvC scope (cellsFrom (s3.heap.objs.size + 1) scope.names (cloFrom X.env.cells scope.names [])) s3.heap.objs.size X.env)) (zg3 (model X.prog X.w) X.A X.xe use Qf (.ref D) (compEnvC scope (cellsFrom (s3.heap.objs.size + 1) scope.names (cloFrom X.env.cells scope.names [])) s3.heap.objs.size X.env)) { s3 with heap := pushCells (s3.heap.push { cls := .type "dict", data := .dict #[] }) scope.names }
  have nfp : ∀ b ∈ fp, (upd H2 D (.lst [])) b = none := fun b hb => (f3 b hb).1.1
  generalize hce : compEnvC scope (cellsFrom (s3.heap.objs.size + 1) scope.names (cloFrom X.env.cells scope.names [])) s3.heap.objs.size X.env = ce at I4 pg pt pe ⊢
  have cL : ce.locals = s3.heap.objs.size := by subst hce; rfl
  have cF : ce.frame = X.env.frame := by subst hce; rfl
  generalize hH3 : upd H2 D (.lst []) = H3 at I3 I4 pg pt pe w0 nfp f3
  have tkB := ziq (scope := scope) (fp := fp) (use := use) (Q := Qf) (acc := .ref D) (ce := ce) I3 tk hs hf cF (Nat.le_of_eq cL.symm) fun b hb => (f3 b hb).1
  have pe := pe _ _ tkB
  generalize hs4 : ({ s3 with heap := pushCells (s3.heap.push { cls := .type "dict", data := .dict #[] }) scope.names } : Shared) = s4 at I4 ⊢
  have st4 : tn 0 s4.heap := T.keep _ _ _ st3 fun b _ o e => by rw [<- hs4]; exact pushCells_keeps _ _ _ _ (Heap.get?_push_of_some _ e)
  have stat : ∀ {σ' : St} {H' : Hp} {s' : Shared}, Inv (X.blk s3 H3 scope ce fp) [] σ' H' s' -> (∀ b ∈ fp, H' b = none) -> ∀ b ∈ fp, FpOk (X.blk s3 H3 scope ce fp) [] H' b := fun {σ' H' s'} I' hn b hb =>
    ⟨hn b hb, (I'.ok.exf b hb).1, I'.ok.exfs b hb, .inl hb, fun x c e => (I'.ok.exf b hb).2 x c e, fun p hp => absurd (show p ∈ ([] : List (Addr × Obj)) ++ [] from hp) (by simp)⟩
  have loop : codeAny (model X.prog X.w) X.A (.compLoop (.ListComp elt [⟨tg, iter, ifs, 0⟩] scope pos) 0 (.ref it) (.ref D) ce) (zg3 (model X.prog X.w) X.A X.xe use Qf (.ref D) ce) s4 := by
    refine compLoop_any (fun n s' => ∃ i H', Inv (X.blk s3 H3 scope ce fp) [] (wipe σ (own.map (·.2))) H' s' /\ tn i s'.heap /\ (∀ b ∈ fp, H' b = none) /\ Wt i n H') ?_ m0 ⟨0, H3, I4, st4, nfp, w0⟩
    rintro n s5 ⟨i, H5, I5, st5, n5, w5⟩
    rcases turn i n H5 w5 with ⟨stop, qq⟩ | ⟨go, Nx, hNx, step⟩
    · have td := T.done (X.blk s3 H3 scope ce fp) rfl rfl rfl hc i [] s5 _ H5 (fun _ _ => False) I5 (stat I5 n5) st5 stop
      refine thnF td fun r s6 ⟨hr, I6⟩ => ?_
      subst hr
      have I7 : Inv X pins σ H5 s6 := I3.call' (ch := fp) I6.os I6.base I6.hok I6.bare fun b hb => ⟨(f3 b hb).1.2.2.2.1, (f3 b hb).1.2.1, (f3 b hb).1.2.2.2.2.1, (f3 b hb).1.2.2.2.2.2⟩
      have nC : H5 ce.locals = none := I6.free
      obtain ⟨m, hn, _⟩ := I6.loc
      exact hR D ce.locals s6 m H5 I7 qq hn (I3.fpOk (Nat.le_of_eq cL.symm) nC) ce rfl
    · have ti := T.item (X.blk s3 H3 scope ce fp) rfl rfl rfl hc i [] s5 _ H5 (fun _ _ => False) I5 (stat I5 n5) st5 go
      refine thnF ti fun r s6 ⟨u, hr, h6⟩ => ?_
      subst hr
      refine thnF h6 fun _ s7 ⟨x, H7, I7, r7, y7, st7, n7⟩ => ?_
      have I7' := I7.pinned (stat I7 n7) (T.obj _ _ st7)
      refine thnF (pg.run _ s7 _ H7 x u _ I7' r7 (step x H7 y7)) fun _ s8 ⟨σ8, H8, I8, hw8, q8⟩ => ?_
      refine thnF (pt.run _ s8 σ8 H8 _ I8 q8) fun b s9 ⟨H9, I9, q9⟩ => ?_
      have fin : ∀ {s' : Shared} {H' : Hp}, Inv (X.blk s3 H3 scope ce fp) ([] ++ pinsAt fp s7.heap) σ8 H' s' -> Nx H' -> ∃ m, m < n /\ ∃ i H', Inv (X.blk s3 H3 scope ce fp) [] (wipe σ (own.map (·.2))) H' s' /\ tn i s'.heap /\ (∀ b ∈ fp, H' b = none) /\ Wt i m H' := fun {s' H'} I' nx => by
        obtain ⟨m', hm, w'⟩ := hNx H' nx
        have pin' : ∀ b ∈ fp, ∀ o, s7.heap.get? b = some o -> s'.heap.get? b = some o /\ H' b = none := fun b hb o e =>
          let z := I'.pin (b, o) (List.mem_append_right _ (List.mem_append_right _ (mem_pinsAt hb e)))
          ⟨z.1, z.2.1⟩
        have hl : (wipe σ (own.map (·.2))).length = σ8.length := by rw [<- hw8, wipe_length]
        refine ⟨m', hm, i + 1, H', (I'.unpinned (pins := [])).weak hl (fun j v e => ?_), T.keep _ _ _ st7 fun b hb o e => (pin' b hb o e).1, fun b hb => ?_, w'⟩
        · rw [<- hw8] at e
          exact (wipe_some e).1
        · obtain ⟨o, e, _⟩ := T.obj _ _ st7 b hb
          exact (pin' b hb o e).2
      cases b with
      | false =>
        simp only [Bool.false_eq_true, if_false] at q9 ⊢
        exact fin I9 q9
      | true =>
        simp only [if_true] at q9 ⊢
        refine wpAny_mono (pe.run _ s9 σ8 H9 _ (I9.wish _) q9) (fun z s10 ⟨yv, H10, I10, r10, acc, hD10, hz10, nx⟩ => ?_) fun _ _ y => y
        exact app_ok (X := X.blk s3 H3 scope ce fp) I10.unwish hD10 hz10 r10 fun s11 I11 => fin I11 nx
  exact codeAny_compStart_list loop (T.self X.A 0 _ _ _ st4 loop)
theorem zkC {i : Nat} {y : Str} {py : Pos} {elt tg iter : Expr} {ifs : List Expr} {scope : Scope} {own : List (Str × Nat)} {pos spos : Pos} {wi : TI} {g : TG} {tt : TT} {te : WX -> TE} {W : WX} (hc : X.calm = true) (hN : X.N.Nodup) (tk : Takes X W) (hst : X.stack = X.env :: X.outer) (hf : X.env.frame = some X.env.locals)
    (hy : X.N[i]? = some y) (hyl : X.env.scope.names.lookup y = some .local)
    (hsw : swapsWith (.ListComp elt [⟨tg, iter, ifs, 0⟩] scope pos) (some (.Name y py)) spos.line X.env = pure true) (hi : PI X tg iter wi) (ok : BlkOk X.N X.env.scope scope own)
    (hg : ∀ (s : Shared) (H : Hp) (C : Addr) (cl : List (Str × Addr)) (fp : List Addr), PG (X.blk s H scope (compEnvC scope cl C X.env) fp) tg g) (ht : ∀ (s : Shared) (H : Hp) (C : Addr) (cl : List (Str × Addr)) (fp : List Addr), PTs (X.blk s H scope (compEnvC scope cl C X.env) fp) ifs tt)
    (he : ∀ (s : Shared) (H : Hp) (C : Addr) (cl : List (Str × Addr)) (fp : List Addr) (xe : Value -> Shared -> Prop) (W' : WX), Takes ((X.blk s H scope (compEnvC scope cl C X.env) fp).wish xe) W' -> PE ((X.blk s H scope (compEnvC scope cl C X.env) fp).wish xe) elt (te W'))
    (hfi : ∀ x, foldedSetIterable iter X.env x = pure x := by intro _; rfl) :
    PS X (.Assign [.Name y py] (.ListComp elt [⟨tg, iter, ifs, 0⟩] scope pos) spos) (tAsg (fun σ H Q => tLc wi g tt (te (W.at σ)) (own.map (·.2)) σ H Q) (gName i)) := by
  refine ⟨fun pins s σ H D I h => ?_⟩
  rw [exec_Assign_Name_used _ _ _ _ hsw]
  refine wpAny_bind (wpAny_standAt (wpAny_bind ?_))
  show wpAny _ X.A (do let _ <- comprehension (.ListComp elt [⟨tg, iter, ifs, 0⟩] scope pos) scope X.env (firstIterPos [⟨tg, iter, ifs, 0⟩] pos) (newList []) false (eval iter X.env) (some (assign (.Name y py) X.env))) _ _ s
  have h : tLc wi g tt (te (W.at σ)) (own.map (·.2)) σ H (fun x H1 => gName i x σ H1 D.nx) := h
  refine wpAny_bind (thn (zlw (use := some (assign (.Name y py) X.env)) (Qf := fun _ t => SP X pins D .next t) hc hN tk hst hf I hi ok hg ht he hfi h fun L C s' m H' I' q hn f ce hC => ?_) fun _ t hq => wpAny_pure (wpAny_pure hq))
  subst hC
  show wpAny _ _ (assign (.Name y py) X.env (.ref L)) _ _ _
  refine wpAny_assign_Name (store_ok2 (v := V.ref L) I' hN hy (.inl hyl) rfl (fun s2 I2 ⟨a, sb, ha⟩ => ?_) (.inr hyl))
  obtain ⟨f0, f1, f2, f3, f4, f5⟩ := f
  have haC : ce.locals ≠ a := by
    rcases ha with z | z
    · rw [z]; exact f1
    · exact fun e => f4 y a z e.symm
  exact ⟨m, hn.sameBut sb haC, fun h3 sb3 => ⟨_, H', I2.turned (t' := s2.toks) (fun b o hb e => (sb3.2 b hb).trans e) f0 f1 f3 f4 f5, q⟩⟩
end
end L2
namespace Ev
open PySem L2
open Classical in
def zc9 (hb : Hs) (gs : List (Nat × O)) (k : D -> En -> Option En) (tt : En -> Hs -> R Bool) (fe : En -> Hs -> R D) (env : En) : List D -> List D -> R (List D)
  | [],acc=>if Kept gs (hb ++ [.lst acc]) then .ok acc hb else .bad
  | x :: xs,acc=>if Kept gs (hb ++ [.lst acc]) then (match k x env with
    | none=>.bad
    | some e1=>(zjk (tt e1 (hb ++ [.lst acc]))).bind fun b h1=>if b = true then (fe e1 h1).bind fun y h2=>if h2 = hb ++ [.lst acc] /\ acc.length < big then zc9 hb gs k tt fe env xs (acc ++ [y]) else .bad
      else if h1 = hb ++ [.lst acc] then zc9 hb gs k tt fe env xs acc else .bad) else .bad
def zfY (fi : En -> Hs -> R Src) (k : D -> En -> Option En) (tt : En -> Hs -> R Bool) (fe : En -> Hs -> R D) (own : List Nat) : En -> Hs -> R D:=fun env h=>(fi env h).bind fun s h1=>(zc9 h1 s.2 k tt fe (zbD env own) s.1 []).bind fun ys _=>if D.nrs h1.length ys = true then .ok (.lst ys) h1 else .bad
section
variable {ci : Nat -> String × List String} {X : Cx} {W : WX} {elt tg iter : Expr} {ifs : List Expr} {scope : Scope} {own : List (Str × Nat)} {pos : Pos} {wi : TI} {t : TG} {tt : TT} {te : WX -> TE} {fi : En -> Hs -> R Src} {k : D -> En -> Option En} {js : List Nat} {ft : En -> Hs -> R Bool} {fe : En -> Hs -> R D}
theorem zgh {g : G} {vs : List Nat} {σ : St} {H1 : Hp} {env : En} {h1 : Hs} {bs1 : List Addr} {s : Src} {J : It} {Q : VK} {r0 : Ev.R (List Ev.D)} (hg : zl8 g t k js) (ht : Sim relB g W0 tt ft) (he : ∀ W' : WX, Sim (zc5 g) g W' (te W') fe) (hjs : ∀ j ∈ js, j ∈ vs)
    (er1 : ERel g bs1 H1 env σ) (hr1 : HRel g bs1 h1 H1) (fd : zh3 g bs1 H1 J s.1 s.2) (hc : zc9 h1 s.2 k ft fe (zbD env vs) s.1 [] = r0) (hB : r0 ≠ .bad)
    (hQ : ∀ ys, r0 = .ok ys h1 -> ∀ (Da : Addr) (H : Hp), H1 Da = none -> Ext bs1 H1 (bs1 ++ [Da]) H -> HRel g (bs1 ++ [Da]) (h1 ++ [.lst ys]) H -> Q (.ref Da) H)
    (hE : ∀ c fs h', r0 = .err c fs h' -> ∀ C dd bs' H', Ext bs1 H1 bs' H' -> HRel g bs' h' H' -> zhb g bs' H' c fs C dd -> W C dd σ H') :
    ∀ Da, H1 Da = none -> ∃ Wt : Nat -> Nat -> Hp -> Prop, (∃ m, Wt 0 m (upd H1 Da (.lst []))) /\ ∀ i m H, Wt i m H ->
      (J.stop i H /\ Q (.ref Da) H) \/ (J.go i H /\ ∃ Nx : Hp -> Prop, (∀ H', Nx H' -> ∃ m', m' < m /\ Wt (i + 1) m' H') /\ ∀ x H', J.yld i H x H' -> t x (wipe σ vs) H' fun σ2 H2 => wipe σ2 vs = wipe σ vs /\ tt σ2 H2 fun b H3 =>
        if b = true then te (W.at σ) σ2 H3 fun y H4 => ∃ acc, H4 Da = some (.lst acc) /\ acc.length < sizeLine /\ Nx (upd H4 Da (.lst (acc ++ [y]))) else Nx H3) := by
  intro Da hD
  refine ⟨fun i m H => m = s.1.length - i /\ i <= s.1.length /\ ∃ acc, Ext bs1 H1 (bs1 ++ [Da]) H /\ HRel g (bs1 ++ [Da]) (h1 ++ [.lst acc]) H /\ zc9 h1 s.2 k ft fe (zbD env vs) (s.1.drop i) acc = r0,
    ⟨_, rfl, Nat.zero_le _, [], .newM hD, hr1.newM (o := .lst []) hD ⟨[], upd_same, .nil⟩, hc⟩, ?_⟩
  rintro i m H ⟨rfl, hil, acc, e, hr, hc⟩
  have eW : ∀ {bs H}, Ext bs1 H1 bs H -> ERel g bs H (zbD env vs) (wipe σ vs) := fun e => (er1.mono e).wipe vs
  -- back to the one cell
  have one : ∀ {bs : List Addr} {H' : Hp} {acc' : List Ev.D}, Ext (bs1 ++ [Da]) H bs H' -> HRel g bs (h1 ++ [.lst acc']) H' -> bs = bs1 ++ [Da] := fun {bs H' acc'} e r => by
    obtain ⟨⟨more, rfl, _⟩, _, _⟩ := e
    have := r.len
    simp only [List.length_append, List.length_cons, List.length_nil] at this
    have l1 := hr1.len
    have : more = [] := List.eq_nil_of_length_eq_zero (by omega)
    rw [this, List.append_nil]
  have atD : (bs1 ++ [Da])[h1.length]? = some Da := by rw [<- hr1.len, List.getElem?_append_right (Nat.le_refl _), Nat.sub_self]; rfl
  by_cases hlt : i < s.1.length
  · refine .inr ?_
    rw [List.drop_eq_getElem_cons hlt, zc9] at hc
    split at hc
    · rename_i kp
      obtain ⟨go, yl⟩ := (fd _ _ H e hr kp).1 i _ (List.getElem?_eq_getElem hlt)
      refine ⟨go, fun H' => ∃ acc, Ext bs1 H1 (bs1 ++ [Da]) H' /\ HRel g (bs1 ++ [Da]) (h1 ++ [.lst acc]) H' /\ zc9 h1 s.2 k ft fe (zbD env vs) (s.1.drop (i + 1)) acc = r0, fun H' z => ⟨_, by omega, rfl, hlt, z⟩, fun x H' y => ?_⟩
      obtain ⟨e2, hr2, rx⟩ := yl x H' y
      split at hc
      · exact absurd hc.symm hB
      · rename_i env1 hk
        refine hg x _ _ H' _ env1 _ _ _ rx (eW (e.trans e2)) hr2 hk fun σ' er' hw => ⟨by
          have z := hw vs hjs
          rw [z]
          have idem : ∀ us : List Nat, (∀ u ∈ us, u ∈ vs) -> wipe (wipe σ us) vs = wipe σ vs := by
            intro us
            induction us with
            | nil => intro _; rfl
            | cons u us ih =>
              intro hu
              show wipe ((wipe σ us).set u none) vs = _
              rw [zft (hu u List.mem_cons_self)]
              exact ih fun w hw => hu w (List.mem_cons_of_mem _ hw)
          exact idem vs fun _ z => z, ?_⟩
        refine ht σ' H' env1 _ _ _ er' hr2 ?_
        cases hft : ft env1 (h1 ++ [.lst acc]) with
        | bad => rw [hft] at hc; exact absurd hc.symm hB
        | err c fs h' => rw [hft] at hc; exact absurd hc.symm hB
        | ok b h2 =>
          rw [hft] at hc
          simp only [zci, R.bind_ok] at hc
          intro bs3 H3 b' e3 hr3 eb
          cases (show b' = b from eb)
          cases b with
          | true =>
            rw [if_pos rfl] at hc ⊢
            refine he _ σ' H3 env1 h2 bs3 _ (er'.mono e3) hr3 ?_
            cases hfe : fe env1 h2 with
            | bad => rw [hfe] at hc; exact absurd hc.symm hB
            | err c fs h' =>
              rw [hfe] at hc
              exact fun C dd bs' H' x y z => hE c fs h' hc.symm C dd bs' H' (((e.trans e2).trans e3).trans x) y z
            | ok y h3 =>
              rw [hfe] at hc
              simp only [R.bind_ok] at hc
              split at hc
              · rename_i hh
                obtain ⟨rfl, hl⟩ := hh
                intro bs4 H4 vy e4 hr4 ry
                have eAll : Ext (bs1 ++ [Da]) H bs4 H4 := (e2.trans e3).trans e4
                have hb4 := one eAll hr4
                subst hb4
                have hcell : zaS (h1 ++ [.lst acc]) h1.length = some acc := by
                  unfold zaS
                  rw [List.getElem?_append_right (Nat.le_refl _), Nat.sub_self]
                  rfl
                obtain ⟨us, g1, g2⟩ := zbT hr4 atD hcell
                refine ⟨us, g1, by rw [<- g2.length, zcw]; exact hl, acc ++ [y], (e.trans eAll).trans (.cell hr4 atD), ?_, hc⟩
                have := hr4.cell (ho := .lst (us ++ [vy])) (o := .lst (acc ++ [y])) atD ⟨_, upd_same, (g2.append (.cons ry .nil)).mono (.cell hr4 atD)⟩
                rw [List.set_append_right _ _ (Nat.le_refl _), Nat.sub_self] at this
                exact this
              · exact absurd hc.symm hB
          | false =>
            rw [if_neg Bool.false_ne_true] at hc ⊢
            split at hc
            · rename_i hh
              subst hh
              have eAll := e2.trans e3
              have hb3 := one eAll hr3
              subst hb3
              exact ⟨acc, e.trans eAll, hr3, hc⟩
            · exact absurd hc.symm hB
    · exact absurd hc.symm hB
  · have hi : i = s.1.length := by omega
    subst hi
    rw [List.drop_length, zc9] at hc
    split at hc
    · rename_i kp
      exact .inl ⟨(fd _ _ H e hr kp).2, hQ acc hc.symm Da H hD e hr⟩
    · exact absurd hc.symm hB
theorem zkm {g : G} {vs : List Nat} (hi : Sim (zmD g) g W wi fi) (hg : zl8 g t k js) (ht : Sim relB g W0 tt ft) (he : ∀ W' : WX,Sim (zc5 g) g W' (te W') fe) (hjs : ∀ j ∈ js,j ∈ vs) : Sim (zc5 g) g W (fun σ H Q=>tLc wi t tt (te (W.at σ)) vs σ H Q) (zfY fi k ft fe vs):=
  fun σ H env h bs Q er hr p=>hi.step er hr p fun s J bs1 H1 h1 e1 hr1 er1 fd p1=>by
    refine zgh (r0:=zc9 h1 s.2 k ft fe (zbD env vs) s.1 []) hg ht he hjs er1 hr1 fd rfl (fun z=>by rw [z] at p1; exact p1) (fun ys hc Da H2 hD e hr2=>?_) fun c fs h' hc=>?_
    · rw [hc] at p1
      simp only [R.bind_ok] at p1
      split at p1
      · rename_i hn
        have np:=hr1.out hD
        have hcell : zaS (h1 ++ [.lst ys]) h1.length = some ys:=by
          unfold zaS
          rw [List.getElem?_append_right (Nat.le_refl _),Nat.sub_self]
          rfl
        obtain ⟨us,g1,g2⟩:=zbT hr2 (n:=h1.length) (a:=Da) (by rw [<- hr1.len,List.getElem?_append_right (Nat.le_refl _),Nat.sub_self]; rfl) hcell
        exact p1 bs1 H2 _ ⟨⟨[],by simp,fun _ z=>nomatch z⟩,e.keep,e.cel⟩ (hr1.pop hr2) (.lst np g1 (g2.shrink (by rw [hr1.len]; exact hn)))
      · exact p1.elim
    · rw [hc] at p1
      exact p1
end
end Ev
namespace Ev
open PySem L2
abbrev zoa:=Shared -> Hp -> Addr -> List (Str × Addr) -> List Addr -> (Value -> Shared -> Prop) -> WX -> TE
def zop (X : Cx) (scope : Scope) (te : zoa) : WX -> TE:=fun W' σ H' Q=>∀ s H C cl fp xe,Takes ((X.blk s H scope (compEnvC scope cl C X.env) fp).wish xe) W' -> te s H C cl fp xe W' σ H' Q
section
variable {ci : Nat -> String × List String} {X : Cx} {W : WX} {elt tg iter : Expr} {ifs : List Expr} {scope : Scope} {own : List (Str × Nat)} {pos spos py : Pos} {y : Str} {wi : TI} {t : zra} {tt : zrp} {te : zoa} {fi : En -> Hs -> R Src} {k : D -> En -> Option En} {js jo : List Nat} {ft : En -> Hs -> R Bool} {fe : En -> Hs -> R D}
theorem zqJ (he : ∀ (s : Shared) (H : Hp) (C : Addr) (cl : List (Str × Addr)) (fp : List Addr) (xe : Value -> Shared -> Prop) (W' : WX), Takes ((X.blk s H scope (compEnvC scope cl C X.env) fp).wish xe) W' -> EJ ci ((X.blk s H scope (compEnvC scope cl C X.env) fp).wish xe) W' elt (te s H C cl fp xe W') fe) :
    ∀ (s : Shared) (H : Hp) (C : Addr) (cl : List (Str × Addr)) (fp : List Addr) (xe : Value -> Shared -> Prop) (W' : WX), Takes ((X.blk s H scope (compEnvC scope cl C X.env) fp).wish xe) W' -> EJ ci ((X.blk s H scope (compEnvC scope cl C X.env) fp).wish xe) W' elt (zop X scope te W') fe :=
  fun s H C cl fp xe W' tk => ⟨⟨fun pins s' σ H' Q I h => (he s H C cl fp xe W' tk).pe.run pins s' σ H' Q I (h s H C cl fp xe tk)⟩, fun σ H' env h bs Q er hr p => fun s2 H2 C2 cl2 fp2 xe2 tk2 => (he s2 H2 C2 cl2 fp2 xe2 W' tk2).sim σ H' env h bs Q er hr p⟩
theorem zjo (i : Nat) (hc : X.calm = true) (hN : X.N.Nodup) (tk : Takes X W) (hst : X.stack = X.env :: X.outer) (hf : X.env.frame = some X.env.locals) (hi : IJ ci X W tg iter wi fi) (ok : BlkOk X.N X.env.scope scope own) (ho : own.map (·.2) = jo) (hjs : ∀ j ∈ js, j ∈ own.map (·.2))
    (hg : ∀ (s : Shared) (H : Hp) (C : Addr) (cl : List (Str × Addr)) (fp : List Addr), GJ ci (X.blk s H scope (compEnvC scope cl C X.env) fp) tg (t s H C cl fp) k js) (ht : ∀ (s : Shared) (H : Hp) (C : Addr) (cl : List (Str × Addr)) (fp : List Addr), TsJ ci (X.blk s H scope (compEnvC scope cl C X.env) fp) ifs (tt s H C cl fp) ft)
    (he : ∀ (s : Shared) (H : Hp) (C : Addr) (cl : List (Str × Addr)) (fp : List Addr) (xe : Value -> Shared -> Prop) (W' : WX), Takes ((X.blk s H scope (compEnvC scope cl C X.env) fp).wish xe) W' -> EJ ci ((X.blk s H scope (compEnvC scope cl C X.env) fp).wish xe) W' elt (te s H C cl fp xe W') fe)
    (hs : ∀ x, foldedSetIterable iter X.env x = pure x := by intro _; rfl)
    (hy : X.N[i]? = some y := by rfl) (hyl : X.env.scope.names.lookup y = some .local := by rfl) (hsw : swapsWith (.ListComp elt [⟨tg, iter, ifs, 0⟩] scope pos) (some (.Name y py)) spos.line X.env = pure true := by exact sw_true rfl rfl rfl (by decide +kernel)) :
    SJ ci X W (.Assign [.Name y py] (.ListComp elt [⟨tg, iter, ifs, 0⟩] scope pos) spos) (tAsg (fun σ H Q => tLc wi (zpQ t) (zpv tt) (zop X scope te (W.at σ)) jo σ H Q) (gName i)) (zcR (zfY fi k ft fe jo) (zaB i)) := by
  subst ho
  have hg' := zqZ hg
  have ht' := zqT ht
  have he' := zqJ he
  exact ⟨zkC hc hN tk hst hf hy hyl hsw hi.pi ok (fun s H C cl fp => (hg' s H C cl fp).pg) (fun s H C cl fp => (ht' s H C cl fp).pts) (fun s H C cl fp xe W' t' => (he' s H C cl fp xe W' t').pe) hs,
    zgK (zkm hi.sim (hg' X.s_0 (fun _ => none) 0 [] []).sim (ht' X.s_0 (fun _ => none) 0 [] []).sim (fun W' => (he' X.s_0 (fun _ => none) 0 [] [] (fun _ _ => True) W' fun _ _ _ => trivial).sim) hjs) (zbk (X := X) (pos := py) (ci := ci) i hN hy (.inl hyl) (.inr hyl)).sim⟩
end
end Ev
namespace Ev
open PySem PySem.Spec PyProof.Rows L2
def znl (s : Str) : List D:=s.cps.toList.map fun c=>D.str ⟨#[c]⟩
theorem zc3 {s : Str} : PyData.strOk s = true ↔ ∀ c ∈ s.cps.toList,c < 0x110000:=by
  unfold PyData.strOk
  rw [<- Array.all_toList,List.all_eq_true]
  exact ⟨fun h c hc=>of_decide_eq_true (h c hc),fun h c hc=>decide_eq_true (h c hc)⟩
theorem zm8 {g : G} {bs0 : List Addr} {H0 : Hp} {s : Str} (hs : PyData.strOk s = true) : zh3 g bs0 H0 (Its s) (znl s) []:=by
  intro bs h H e hr kp
  refine ⟨fun i d hi=>?_,by show s.cps.size <= (znl s).length; simp [znl]⟩
  unfold znl at hi
  rw [List.getElem?_map] at hi
  cases hc : s.cps.toList[i]? with
  | none=>rw [hc] at hi; cases hi
  | some c =>
    rw [hc] at hi
    cases hi
    have hc2 : s.cps[i]? = some c:=by rw [<- Array.getElem?_toList]; exact hc
    have il : i < s.cps.size:=(Array.getElem?_eq_some_iff.mp hc2).1
    refine ⟨il,fun x H' y=>?_⟩
    obtain ⟨e1,c',h1,h2⟩:=y
    subst e1 h2
    rw [hc2] at h1
    cases h1
    exact ⟨.refl,hr,.str (zc3.mpr fun z hz=>by
      have hz : z = c:=by simpa using hz
      rw [hz]
      exact zc3.mp hs c (List.mem_of_getElem? hc))⟩
def zpn (x : D) (h : Hs) : R Src:=match x with
  | .str s=>.ok (znl s,[]) h
  | _=>.bad
def znG (fa : En -> Hs -> R D) : En -> Hs -> R Src:=fun env h=>(fa env h).bind zpn
@[simp] theorem zrr {fa : En -> Hs -> R D} {env : En} {h : Hs} : znG fa env h = (fa env h).bind zpn:=rfl
@[simp] theorem zpF {s : Str} {h : Hs} : zpn (.str s) h = .ok (znl s,[]) h:=rfl
section
variable {ci : Nat -> String × List String} {X : Cx} {W : WX} {tg e : Expr} {te : TE} {fe : En -> Hs -> R D}
theorem zol (he : EJ ci X W e te fe) : IJ ci X W tg e (iStr te) (znG fe):=
  ⟨pi_str he.pe,fun σ H env h bs Q er hr p=>he.sim.step er hr p fun x vx bs1 H1 h1 e1 hr1 er1 rx p1=>by
    unfold zpn at p1
    split at p1
    · cases rx with
      | str hs=>exact ⟨_,rfl,zaU.ok_ p1 hr1 (zm8 hs)⟩
    · exact p1.elim⟩
end
def ztj (x y : D) (h : Hs) : R D:=match x,y with
  | .str i,.str j=>.ok (.bl (!(Builtin.Str.occurrences j i 0 j.length 1).isEmpty)) h
  | _,_=>.bad
def zhq (x y : D) (h : Hs) : R D:=match x,y with
  | .str i,.str j=>.ok (.bl (!(!(Builtin.Str.occurrences j i 0 j.length 1).isEmpty))) h
  | _,_=>.bad
theorem zlj {g : G} : OpJ g (fun x y H Q=>∃ i j,x = .str i /\ y = .str j /\ Q (.bl (!(!(Builtin.Str.occurrences j i 0 j.length 1).isEmpty))) H) zhq:=by
  refine ⟨fun W bs h H x y vx vy Q hr rx ry p=>?_⟩
  unfold zhq at p
  split at p
  · cases rx; cases ry
    exact ⟨_,_,rfl,rfl,zaU.ok_ p hr (.bl _)⟩
  · exact p.elim
end Ev
namespace Ev
open PySem PySem.Spec PyProof.Rows L2
def zfG (x : D) (xs : List D) (h : Hs) : R D:=match x,xs with
  | .str a,[.str b]=>if (!(b.length == 0) && Nat.ble (a.length + 2) 16777216 && (Txt.split a b).all PyData.strOk) = true then .ok (.ref h.length) (h ++ [.lst ((Txt.split a b).map D.str)]) else .bad
  | _,_=>.bad
theorem zjP {g : G} : MJ g zqr zfG:=by
  refine ⟨fun W bs h H x vx xs vs Q hr rx rs p=>?_⟩
  unfold zfG at p
  split at p
  · rename_i a b
    split at p
    · rename_i hl
      rw [Bool.and_eq_true,Bool.and_eq_true] at hl
      cases rx with
      | str hs =>
        cases rs with
        | cons r t =>
          cases t
          cases r with
          | str hb =>
            refine ⟨a,b,rfl,rfl,by simpa using hl.1.1,Nat.le_of_ble_eq_true hl.1.2,fun q hq=>?_⟩
            exact zh0 hr (zfx hl.2) p q hq
    · exact p.elim
  · exact p.elim
end Ev
namespace Ev
open PySem PySem.Spec PyProof.Rows L2
section
variable {ci : Nat -> String × List String} {X : Cx} {W : WX} {pos tpos : Pos} {o i e : Expr} {f : Str} {to ti te : TE} {fo fi fe : En -> Hs -> R D} {op : Operator} {fn : Int -> Int -> Int} {rd : V -> V -> Hp -> VK -> Prop}
structure Aug (X : Cx) (op : Operator) (fn : Int -> Int -> Int) (rd : V -> V -> Hp -> VK -> Prop) : Prop where
  in_ : InOp X op rd
  to_ : ∀ (a b : Int) (H : Hp) (Q : VK),Q (.int (fn a b)) H -> rd (.int a) (.int b) H Q
end
end Ev
namespace Ev
open PySem PySem.Spec PyProof.Rows L2
def zqv (g : G) (t : TG) (k : D -> En -> Hs -> Option Hs) : Prop:=
  ∀ (v : V) (d : D) (σ : L2.St) (H : Hp) (env : En) (h h' : Hs) (bs : List Addr) (Q : L2.St -> Hp -> Prop),Rep g bs H d v -> ERel g bs H env σ -> HRel g bs h H -> k d env h = some h' ->
    (∀ bs' H',Ext bs H bs' H' -> HRel g bs' h' H' -> ERel g bs' H' env σ -> Q σ H') -> t v σ H Q
def zn3 (g : G) (t : TGs) (k : List D -> En -> Hs -> Option Hs) : Prop:=
  ∀ (vs : List V) (ds : List D) (σ : L2.St) (H : Hp) (env : En) (h h' : Hs) (bs : List Addr) (Q : L2.St -> Hp -> Prop),Reps g bs H ds vs -> ERel g bs H env σ -> HRel g bs h H -> k ds env h = some h' ->
    (∀ bs' H',Ext bs H bs' H' -> HRel g bs' h' H' -> ERel g bs' H' env σ -> Q σ H') -> t vs σ H Q
structure GJH (ci : Nat -> String × List String) (X : Cx) (e : Expr) (t : TG) (k : D -> En -> Hs -> Option Hs) : Prop where
  pg : PG X e t
  sim : zqv (X.g ci) t k
structure GsJH (ci : Nat -> String × List String) (X : Cx) (es : List Expr) (t : TGs) (k : List D -> En -> Hs -> Option Hs) : Prop where
  pgs : PGs X es t
  sim : zn3 (X.g ci) t k
end Ev
namespace Ev
open PySem PySem.Spec PyProof.Rows L2
def evV : List (En -> Hs -> R D) -> En -> Hs -> R (List D)
  | [],_,h=>.ok [] h
  | f :: fs,env,h=>(f env h).bind fun d h1=>(evV fs env h1).bind fun ds h2=>.ok (d :: ds) h2
def zsj (g : G) (ks : List Key) : List Addr -> Hp -> List D -> List (V × V) -> Prop:=fun bs H ds ps=>∃ kvs : List (Key × V),ps = kvs.map (fun kv=>(kV kv.1,kv.2)) /\ kvs.map (·.1) = ks /\ Reps g bs H ds (kvs.map (·.2))
structure DvJ (ci : Nat -> String × List String) (X : Cx) (W : WX) (pos : Pos) (keys : List (Option Expr)) (vals : List Expr) (trs : List (TE × TE)) (ks : List Key) (fs : List (En -> Hs -> R D)) : Prop where
  pps : PPs X pos keys vals trs
  sim : Sim (zsj (X.g ci) ks) (X.g ci) W (fun σ H Q=>tPairs trs σ H Q) (evV fs)
def zpb (ks : List Key) (fs : List (En -> Hs -> R D)) : En -> Hs -> R D:=fun env h=>(evV fs env (h ++ [.dct [] []])).bind fun ds h2=>match h2[h.length]? with
  | some (.dct [] [])=>.ok (.ref h.length) (h2.set h.length (.dct ks ds))
  | _=>.bad
@[simp] theorem zq9 {env : En} {h : Hs} : evV [] env h = .ok [] h:=rfl
@[simp] theorem zpS {f : En -> Hs -> R D} {fs : List (En -> Hs -> R D)} {env : En} {h : Hs} : evV (f :: fs) env h = (f env h).bind fun d h1=>(evV fs env h1).bind fun ds h2=>.ok (d :: ds) h2:=rfl
@[simp] theorem znS {ks : List Key} {fs : List (En -> Hs -> R D)} {env : En} {h : Hs} : zpb ks fs env h = (evV fs env (h ++ [.dct [] []])).bind fun ds h2=>match h2[h.length]? with
  | some (.dct [] [])=>.ok (.ref h.length) (h2.set h.length (.dct ks ds))
  | _=>.bad:=rfl
end Ev
namespace Ev
open PySem PySem.Spec PyProof.Rows L2
def ztc (x y : D) (h : Hs) : R D:=match x,y with
  | .bl a,.bl b=>.ok (.bl (decide (a = b))) h
  | _,_=>.bad
@[simp] theorem zqC {a b : Bool} {h : Hs} : ztc (.bl a) (.bl b) h = .ok (.bl (decide (a = b))) h:=rfl
end Ev
namespace LeX
open PySem PySem.Spec PyProof.Rows
end LeX
namespace Ev
open PySem PySem.Spec PyProof.Rows L2
namespace Fx
open He
end Fx
def zq7 (z : Str) : List Str -> Option Nat
  | []=>none
  | y :: ys=>if y = z then some 0 else (zq7 z ys).map (· + 1)
def zrl (ys : List Str) (fa : En -> Hs -> R (List D)) : En -> Hs -> R D:=fun env h=>(fa env h).bind fun xs h1=>match xs with
  | [.str z]=>(match zq7 z ys with
    | some j=>.ok (.int (j : Int)) h1
    | none=>.bad)
  | _=>.bad
@[simp] theorem zpT {ys : List Str} {fa : En -> Hs -> R (List D)} {env : En} {h : Hs} : zrl ys fa env h = (fa env h).bind fun xs h1=>match xs with
  | [.str z]=>(match zq7 z ys with
    | some j=>.ok (.int (j : Int)) h1
    | none=>.bad)
  | _=>.bad:=rfl
namespace Fx
open He
end Fx
end Ev
namespace Ev
open PySem PySem.Spec PyProof.Rows L2
def zqY (c : Nat) (F : List D -> List D -> Hs -> R D) (fo : En -> Hs -> R D) : En -> Hs -> R D:=fun env h=>(fo env h).bind fun x h1=>if zks c x h1 = true then (F [x] [] h1).nerr else .bad
@[simp] theorem zpB {c : Nat} {F : List D -> List D -> Hs -> R D} {fo : En -> Hs -> R D} {env : En} {h : Hs} : zqY c F fo env h = (fo env h).bind fun x h1=>if zks c x h1 = true then (F [x] [] h1).nerr else .bad:=rfl
namespace Fx
open He
def zrP (K : Fr) (p : Str × Str) : Addr:=match PySem.W.recIn K (ma K (ga K p.1) p.2) "property" with
  | some (.ref g :: _)=>g
  | _=>0
abbrev zrZ:=(Str × Str) × DefD
def okP (K : Fr) (d : zrZ) : Bool:=PySem.W.keepIn K (.ref (zrP K d.1)) && (match K.lookup (zrP K d.1) with
  | some ⟨_,_,.func fd,_⟩=>PySem.W.codeIn K fd.code d.2.qual && (dflB K fd.defaults (d.2.dvs K) && kwdB K fd.kwdefaults (d.2.kws K))
  | _=>false)
end Fx
end Ev
namespace Ev
open PySem PySem.Spec PyProof.Rows L2 RZ
def zoD (fa : En -> Hs -> R (List D)) : En -> Hs -> R Src:=fun env h=>(fa env h).bind fun xs h1=>match xs with
  | [.tup xs,.tup ys]=>.ok (zro xs ys,[]) h1
  | _=>.bad
@[simp] theorem zoH {fa : En -> Hs -> R (List D)} {env : En} {h : Hs} : zoD fa env h = (fa env h).bind fun xs h1=>match xs with
  | [.tup xs,.tup ys]=>.ok (zro xs ys,[]) h1
  | _=>.bad:=rfl
end Ev
namespace Ev
open PySem L2
def zkM (x : D) (lo hi : Option Int) (h : Hs) : R D:=match x with
  | .str z=>if z.length <= big then .ok (.str (cutS z lo hi)) h else .bad
  | _=>.bad
theorem zjy {z : Str} {lo hi : Option Int} (h : PyData.strOk z = true) : PyData.strOk (cutS z lo hi) = true:=by
  unfold PyData.strOk at *
  unfold cutS
  simp only [List.all_toArray,List.all_eq_true,Array.all_eq_true'] at *
  intro x hx
  exact h x (by
    have:=List.mem_of_mem_drop (List.mem_of_mem_take hx)
    simpa using this)
section
variable {ci : Nat -> String × List String} {X : Cx} {W : WX} {pos p2 : Pos} {a : Expr} {ta : TE} {fa : En -> Hs -> R D} {lo hi : Option Expr} {tl th : L2.St -> Hp -> (Option Int -> Hp -> Prop) -> Prop} {fl fh : En -> Hs -> R (Option Int)}
theorem zfz (ha : EJ ci X W a ta fa) (hl : OJ ci X W lo tl fl) (hh : OJ ci X W hi th fh) : EJ ci X W (.Subscript a (.Slice lo hi none p2) pos) (tSl rSlS ta tl th) (eSl zkM fa fl fh):=
  ⟨pe_slice sl_str ha.pe hl.po hh.po,fun σ H env h bs Q er hr p=>ha.sim.step er hr p fun x vx bs1 H1 h1 e1 hr1 er1 rx p1=>hl.sim.step er1 hr1 p1 fun l l' bs2 H2 h2 e2 hr2 er2 rl p2=>hh.sim.step er2 hr2 p2 fun u u' bs3 H3 h3 e3 hr3 er3 ru p3=>by
    obtain rfl : l' = l:=rl
    obtain rfl : u' = u:=ru
    unfold zkM at p3
    split at p3
    · rename_i z
      split at p3
      · rename_i hz
        cases rx with
        | str ok=>exact ⟨z,rfl,hz,zaU.ok_ p3 hr3 (.str (zjy ok))⟩
      · exact p3.elim
    · exact p3.elim⟩
end
theorem zkz {z : Str} {lo hi : Option Int} {h : Hs} (hz : z.length <= 1000000) : zkM (.str z) lo hi h = .ok (.str (cutS z lo hi)) h:=by
  unfold zkM
  dsimp only
  rw [if_pos (Nat.le_trans hz (by decide))]
end Ev
namespace Ev
open PySem L2
theorem zhU {α : Type} {hb : Hs} {k : D -> En -> Option En} {fe : En -> Hs -> R D} {env : En} {f g : α -> D} {p : α -> Bool} {c : Nat} {fs : List D} : ∀ {ls : List α} {acc : List D},
    (∀ a ∈ ls, ∃ e1, k (f a) env = some e1 /\ ∀ h, fe e1 h = if p a = true then .ok (g a) h else .err c fs h) -> acc.length + ls.length <= big ->
    (ls.all p = true -> zc9 hb [] k zfO fe env (ls.map f) acc = .ok (acc ++ ls.map g) hb) /\ (ls.all p = false -> ∃ m, zc9 hb [] k zfO fe env (ls.map f) acc = .err c fs (hb ++ m))
  | [], acc, _, _ => ⟨fun _ => by rw [List.map_nil, zc9, if_pos (zdg _ ▸ trivial), List.map_nil, List.append_nil], fun z => by cases z⟩
  | a :: ls, acc, hx, hl => by
    obtain ⟨e1, h1, h2⟩ := hx a List.mem_cons_self
    rw [List.length_cons] at hl
    have ih := fun acc' hl' => zhU (hb := hb) (ls := ls) (acc := acc') (fun b hb => hx b (List.mem_cons_of_mem _ hb)) hl'
    rw [List.map_cons, zc9, if_pos (zdg _ ▸ trivial), h1]
    dsimp only
    rw [show zfO e1 (hb ++ [.lst acc]) = .ok true (hb ++ [.lst acc]) from rfl, zci, R.bind_ok, if_pos rfl, h2]
    cases hp : p a with
    | false =>
      rw [if_neg (by simp)]
      exact ⟨fun z => (by rw [List.all_cons, hp] at z; cases z), fun _ => ⟨[.lst acc], rfl⟩⟩
    | true =>
      rw [if_pos rfl, R.bind_ok, if_pos ⟨rfl, by omega⟩, List.all_cons, hp, Bool.true_and]
      have := ih (acc ++ [g a]) (by rw [List.length_append, List.length_singleton]; omega)
      rw [List.append_assoc] at this
      exact this
theorem zjX {α : Type} {env : En} {h h1 : Hs} {fi : En -> Hs -> R Src} {k : D -> En -> Option En} {fe : En -> Hs -> R D} {own : List Nat} {ls : List α} {f g : α -> D} {p : α -> Bool} {c : Nat} {fs : List D} (e : fi env h = .ok (ls.map f, []) h1)
    (hx : ∀ a ∈ ls, ∃ e1, k (f a) (zbD env own) = some e1 /\ ∀ h, fe e1 h = if p a = true then .ok (g a) h else .err c fs h) (hl : ls.length <= big) (hn : ∀ a ∈ ls, D.nr h1.length (g a) = true) :
    (ls.all p = true -> zfY fi k zfO fe own env h = .ok (.lst (ls.map g)) h1) /\ (ls.all p = false -> ∃ m, zfY fi k zfO fe own env h = .err c fs (h1 ++ m)) := by
  obtain ⟨a, b⟩ := zhU (hb := h1) (acc := []) hx (by simpa using hl)
  unfold zfY
  rw [e, R.bind_ok]
  refine ⟨fun z => ?_, fun z => ?_⟩
  · dsimp only
    rw [a z, R.bind_ok, List.nil_append, if_pos (zgS hn)]
  · obtain ⟨m, q⟩ := b z
    exact ⟨m, by dsimp only; rw [q]; rfl⟩
end Ev
namespace Ev
open PySem PySem.Spec PyProof.Rows L2
def zfq (i : Nat) : Stmt:=PySem.Challenge.pw_latewords_k72_texts_refused.main.body.getD i (.Pass ⟨0,0,0,0⟩)
abbrev zcI : Stmt:=zfq 26
abbrev zb8 : Stmt:=zfq 27
abbrev zbz : Stmt:=zfq 35
abbrev zbx : Stmt:=zfq 28
abbrev zaW : Stmt:=zfq 31
abbrev zaH : Stmt:=zfq 32
abbrev za9 : Stmt:=zfq 29
abbrev zax : Stmt:=zfq 30
abbrev zbc : Stmt:=zfq 20
abbrev za8 : Stmt:=zfq 21
abbrev zan : Stmt:=zfq 22
abbrev zbo : Stmt:=zfq 10
abbrev zbv : Stmt:=zfq 11
abbrev zaX : Stmt:=inClass (zfq 12) 1
abbrev zaY : Stmt:=zfq 23
abbrev zaG : Stmt:=inClass (zfq 13) 0
abbrev zaI : Stmt:=zfq 24
abbrev zbP : Stmt:=zfq 33
abbrev zbH : Stmt:=zfq 36
abbrev zb4 : Stmt:=zfq 34
abbrev zef : Stmt:=zfq 37
abbrev zaC : Stmt:=inClass (zfq 2) 0
abbrev zbg : Stmt:=inClass (zfq 5) 0
abbrev zaO : Stmt:=inClass (zfq 3) 0
abbrev ziZ : He.DefD:=⟨("_law_bag",none),"_law_bag","_law_bag",defArgs zcI,defBody zcI,defScope zcI,[],[]⟩
abbrev zhl : He.DefD:=⟨("_law_take",none),"_law_take","_law_take",defArgs zb8,defBody zb8,defScope zb8,[],[]⟩
abbrev zgy : He.DefD:=⟨("_law_drawn",none),"_law_drawn","_law_drawn",defArgs zbz,defBody zbz,defScope zbz,[],[]⟩
abbrev zfV : He.DefD:=⟨("_law_number",none),"_law_number","_law_number",defArgs zbx,defBody zbx,defScope zbx,[],[]⟩
abbrev zd8 : He.DefD:=⟨("_law_is_policy",none),"_law_is_policy","_law_is_policy",defArgs zaW,defBody zaW,defScope zaW,[],[]⟩
abbrev zdJ : He.DefD:=⟨("_law_is_setting",none),"_law_is_setting","_law_is_setting",defArgs zaH,defBody zaH,defScope zaH,[],[]⟩
abbrev zeu : He.DefD:=⟨("_law_is_write",none),"_law_is_write","_law_is_write",defArgs za9,defBody za9,defScope za9,[],[]⟩
abbrev zcz : He.DefD:=⟨("_law_is_conversation",none),"_law_is_conversation","_law_is_conversation",defArgs zax,defBody zax,defScope zax,[],[]⟩
abbrev zed : He.DefD:=⟨("read_number",none),"read_number","read_number",defArgs zbc,defBody zbc,defScope zbc,[],[]⟩
abbrev zes : He.DefD:=⟨("read_write",none),"read_write","read_write",defArgs za8,defBody za8,defScope za8,[],[]⟩
abbrev zcu : He.DefD:=⟨("read_conversation",none),"read_conversation","read_conversation",defArgs zan,defBody zan,defScope zan,[],[]⟩
abbrev zeD : He.DefD:=⟨("is_integer",none),"is_integer","is_integer",defArgs zbo,defBody zbo,defScope zbo,[],[]⟩
abbrev zfZ : He.DefD:=⟨("in_range",none),"in_range","in_range",defArgs zbv,defBody zbv,defScope zbv,[],[]⟩
abbrev zeh : He.DefD:=⟨("Policy",some "__init__"),"__init__","Policy.__init__",defArgs zaX,defBody zaX,defScope zaX,[(.str "all")],[("every",(.int 2)),("quick",(.int 0))]⟩
abbrev zeg : He.DefD:=⟨("read_policy",none),"read_policy","read_policy",defArgs zaY,defBody zaY,defScope zaY,[],[]⟩
abbrev zdR : He.DefD:=⟨("Setting",some "__init__"),"__init__","Setting.__init__",defArgs zaG,defBody zaG,defScope zaG,[],[]⟩
abbrev zdT : He.DefD:=⟨("read_setting",none),"read_setting","read_setting",defArgs zaI,defBody zaI,defScope zaI,[],[]⟩
abbrev zhT : He.DefD:=⟨("_law_told",none),"_law_told","_law_told",defArgs zbP,defBody zbP,defScope zbP,[],[]⟩
abbrev zgt : He.DefD:=⟨("_law_right",none),"_law_right","_law_right",defArgs zbH,defBody zbH,defScope zbH,[],[]⟩
abbrev zhB : He.DefD:=⟨("_law_bent",none),"_law_bent","_law_bent",defArgs zb4,defBody zb4,defScope zb4,[],[]⟩
abbrev zlV : He.DefD:=⟨("law",none),"law","law",defArgs zef,defBody zef,defScope zef,[],[]⟩
abbrev zcd : He.DefD:=⟨("LatewordsError",some "__init__"),"__init__","LatewordsError.__init__",defArgs zaC,defBody zaC,defScope zaC,[],[]⟩
abbrev zdW : He.DefD:=⟨("BadText",some "__init__"),"__init__","BadText.__init__",defArgs zbg,defBody zbg,defScope zbg,[],[]⟩
abbrev zcL : He.DefD:=⟨("BadSetting",some "__init__"),"__init__","BadSetting.__init__",defArgs zaO,defBody zaO,defScope zaO,[],[]⟩
def fn : List He.DefD:=[ziZ,zhl,zgy,zfV,zd8,zdJ,zeu,zcz,zed,zes,zcu,zeD,zfZ,zeh,zeg,zdR,zdT,zhT,zgt,zhB,zlV,zcd,zdW,zcL]
def fs : List (Fx.Fr -> Bool):=[(He.Fa.free "len").ok,
 (He.Fa.free "abs").ok,
 (He.Fa.free "int").ok,
 (He.Fa.glo "_law_take").ok,
 (He.Fa.free "range").ok,
 (He.Fa.free "str").ok,
 (He.Fa.glo "_law_number").ok,
 (He.Fa.glo "_law_is_policy").ok,
 (He.Fa.free "all").ok,
 (He.Fa.glo "_law_is_write").ok,
 Fx.glB "MOST_DIGITS" (.int 40),
 Fx.glB "MOST_NUMBER" (.int 10000000000000000000000000000000000000000),
 (He.Fa.glo "read_number").ok,
 Fx.glB "MODES" (.tup [(.str "plain"),(.str "push"),(.str "more")]),
 (He.Fa.free "isinstance").ok,
 Fx.isiB ci0 .str [0,1] (fun _=>.type "str"),
 (He.Fa.free "ValueError").ok,
 Fx.veB,
 Fx.clfnB "LatewordsError" "__init__",
 Fx.exB "BadText" "line",
 (He.Fa.glo "read_write").ok,
 Fx.glB "MOST_WRITES" (.int 200),
 Fx.glB "MOST_LENGTH" (.int 1000000000000000000),
 Fx.isiB ci0 .int [0,1] (fun _=>.type "int"),
 Fx.isiB ci0 .bool [0,1] (fun _=>.type "bool"),
 (He.Fa.free "bool").ok,
 (He.Fa.glo "is_integer").ok,
 Fx.conB "Policy" "HOLDS" (.tup [(.str "off"),(.str "partial"),(.str "all")]),
 Fx.exB "BadSetting" "name",
 Fx.glB "MOST_EVERY" (.int 9),
 (He.Fa.glo "in_range").ok,
 Fx.glB "MOST_QUICK" (.int 4),
 Fx.fldB "Policy" "hold",
 Fx.fldB "Policy" "every",
 Fx.fldB "Policy" "quick",
 (He.Fa.free "TurnState").ok,
 (He.Fa.glo "Policy").ok,
 (He.Fa.mkr "Policy").ok,
 Fx.glB "MOST_SIZE" (.int 1000000000000000000),
 Fx.isiB ci0 (.cls 0) [0,1] (fun K=>.ref (He.ga K "Policy")),
 Fx.fldB "Setting" "size",
 Fx.fldB "Setting" "policies",
 (He.Fa.glo "read_policy").ok,
 (He.Fa.glo "Setting").ok,
 (He.Fa.mkr "Setting").ok,
 (He.Fa.glo "read_conversation").ok,
 (He.Fa.glo "read_setting").ok,
 (He.Fa.glo "BadText").ok,
 Fx.exmB ci0 ["BadText"] [20,21,22,29] [29],
 (He.Fa.glo "LatewordsError").ok,
 Fx.kitB "BadText" (fun K=>.ref (He.ga K "LatewordsError")) true,
 Fx.erIB "BadText",
 Fx.kitB "BadText" (fun _=>.type "ValueError") true,
 (He.Fa.noat "BadText" "line").ok,
 Fx.erB "BadText",
 (He.Fa.glo "BadWrite").ok,
 Fx.exmB ci0 ["BadWrite"] [20,21,22,29] [22],
 (He.Fa.glo "_law_is_setting").ok,
 (He.Fa.glo "_law_is_conversation").ok,
 (He.Fa.glo "_law_told").ok,
 (He.Fa.free "min").ok,
 (He.Fa.free "max").ok,
 (He.Fa.glo "_law_bag").ok,
 (He.Fa.glo "_law_drawn").ok,
 (He.Fa.free "enumerate").ok,
 (He.Fa.glo "_law_right").ok,
 (He.Fa.glo "_law_bent").ok,
 (He.Fa.glo "law").ok]
def zoR : List PySem.Str:=["_wall","LatewordsError","BadSetting","BadWrite","BadText","MOST_EVERY","MOST_QUICK","MOST_SIZE","is_integer","in_range","Policy","Setting","MODES","MOST_WRITES","MOST_LENGTH","MOST_DIGITS","MOST_NUMBER","read_number","read_write","read_conversation","read_policy","read_setting","_law_bag","_law_take","_law_number","_law_is_write","_law_is_conversation","_law_is_policy","_law_is_setting","_law_told"]
def zo7 : List PySem.Str:=["_law_bent","_law_drawn","_law_right"]
def loose : List PySem.Str:=zoR ++ zo7
abbrev RR : PySem.W.OpenRow:=PySem.W.OpenLaw.row PySem.Challenge.rw_latewords_k72_texts_refused
def ads : List Addr:=[3,6,4,21,38,58,77,96,105,112,153,201,206,213,218,223,230,235,242,249,254,261,266,273,278,285,292,299,306,313,0,20,37,57,76,95,104,111,152,200,212,217,222,229,234,241,248,253,260,265,272,277,284,291,298,305,312,15,16,17,18,19,35,36,39,55,56,74,75,93,94,99,100,101,102,103,106,107,108,109,110,120,129,136,143,150,151,154,155,169,177,184,191,198,199,202,203,207,208,209,210,211,214,215,216,219,220,221,224,225,226,227,228,231,232,233,236,237,238,239,240,243,244,245,246,247,250,251,252,255,256,257,258,259,262,263,264,267,268,269,270,271,274,275,276,279,280,281,282,283,286,287,288,289,290,293,294,295,296,297,300,301,302,303,304,307,308,309,310,311,34,54,73,92,128,121,122,135,142,149,168,176,170,183,190,197,29,30,31,32,33,49,50,51,52,53,68,69,70,71,72,87,88,89,90,91,123,124,125,126,127,130,131,132,133,134,137,138,139,140,141,144,145,146,147,148,165,166,167,171,172,173,174,175,178,179,180,181,182,185,186,187,188,189,192,193,194,195,196,2]
abbrev hk : PySem.W.Hook:=Fx.hookL ads fn fs
def ob (s : PySem.W.SharedT) : Fx.AlZ:=Fx.obsL ads fn fs (HandSHeadRun.getT s)
theorem ob_eq (s : PySem.W.SharedT) : ob s = hk.obs s.abs:=Fx.obsL_eq (HandSHeadRun.getT_eq s)
set_option maxHeartbeats 0 in
theorem zr5 (w : World) (os : OsState) : (HandSHeadRun.endF (HandSHeadRun.stepQ (HandSHeadRun.denQ HandSHeadRun.tabQ) RR.prog w) 4000 RR.prog w os).map (fun s=>(HandSHeadRun.looksF RR.prog (PySem.W.boot_heap w.params) s.abs,HandSHeadRun.seenQ (PySem.W.view RR.prog [37]) loose (PySem.importedModules RR.prog.main.body) (fun s=>PySem.W.xlAt (PySem.W.view RR.prog [37]) [] s && PySem.W.recOk RR.toRowW.records s) s.abs)) = some (true,PySem.W.openGood (PySem.W.view RR.prog [37]) loose):=by
  kernel_rfl
set_option maxHeartbeats 0 in
theorem zsy (w : World) (os : OsState) : (HandSHeadRun.endF (HandSHeadRun.stepQ (HandSHeadRun.denQ HandSHeadRun.tabQ) RR.prog w) 4000 RR.prog w os).map ob = some (hk.val w):=by
  kernel_rfl
theorem run (w : World) : HandSHeadRun.RunEq RR (PySem.W.view RR.prog [37]) hk ob 4000 loose w:=Fx.run_two (zr5 w) (zsy w)
end Ev
namespace Ev
open PySem L2
def zgB : En -> Hs -> S:=
 (zat (zcR (eIf (za3 (zas ltD (zag 1) (za7 zd5 (zac (zag 0) zaw)))) (zas ixD (zag 0) (zag 1)) (eC (.int 0))) (zaB 2))
 (zat (zcR (zas zd7 (za7 znZ (zac (zag 2) zaw)) (za7 zeo (zac (zas geD (za7 znZ (zac (zag 2) zaw)) (zas znr (eC (.int 10)) (eC (.int 18)))) zaw))) (zaB 3))
 (zc0 (zh8 (zac (zag 3) (zac (zas zc2 (zas zc2 (zas zh4 (za7 zeo (zac (zag 2) zaw)) (eC (.int 2147483563))) (zas zd7 (eC (.int 40009)) (zag 1))) (eC (.int 61))) (zac (eC (.int 0)) zaw)))))))
def zeV : List D -> Hs -> R D:=zbK 4 zgB
def zfn : En -> Hs -> S:=
 (zat (sIf (za3 (zas gtD (zas ixD (zag 0) (eC (.int 0))) (eC (.int 0)))) (zat (zcR (zas zh4 (za7 zeo (zac (zas ixD (zag 0) (eC (.int 0))) zaw)) (zag 1)) (zaB 2))
 (zat (zfH (zag 0) (eC (.int 0)) (zas zeH (zas ixD (zag 0) (eC (.int 0))) (zag 1)))
 (zc0 (zag 2)))) zd2)
 (zat (zcR (zj5 (zac (eC (.int 0)) (zac (eC (.int 1)) zaw))) (zo9 2 (zeL (zaB 3) (zeL (zaB 4) zkc))))
 (zat (zcx (za3 (zas ltD (zag 4) (zag 1))) (zat (zfH (zag 0) (eC (.int 2)) (zas zc2 (zas ixD (zag 0) (eC (.int 2))) (eC (.int 1))))
 (zat (zfH (zag 0) (eC (.int 1)) (zas zh4 (za7 zeo (zac (zas zc2 (zas zc2 (zas zd7 (zas ixD (zag 0) (eC (.int 1))) (eC (.int 40014))) (zas zd7 (zas zd7 (eC (.int 7919)) (zas ixD (zag 0) (eC (.int 2)))) (zas ixD (zag 0) (eC (.int 2))))) (eC (.int 83))) zaw)) (eC (.int 2147483563))))
 (zat (zcR (zas zh4 (za7 zeo (zac (zas zd7 (zas zeH (zas ixD (zag 0) (eC (.int 1))) (eC (.int 7))) (zas zc2 (zas zeH (zas ixD (zag 0) (eC (.int 1))) (eC (.int 131))) (zas ixD (zag 0) (eC (.int 2))))) zaw)) (eC (.int 2147483399))) (zaB 5))
 (zat (zcR (zas zc2 (zas zd7 (zag 3) (eC (.int 33554432))) (zas zh4 (za7 zeo (zac (zas zeH (zag 5) (eC (.int 64))) zaw)) (eC (.int 33554432)))) (zaB 3))
 (zcR (zas zd7 (zag 4) (eC (.int 33554432))) (zaB 4)))))))
 (zc0 (zas zh4 (zag 3) (zag 1))))))
def za0 : List D -> Hs -> R D:=zbK 6 zfn
def zen : En -> Hs -> S:=
 (zat (zcR (zas ixD (zgu (zac (eC (.str "")) (zac (eC (.str "")) (zac (eC (.str " push")) (zac (eC (.str " more")) zaw))))) (zaq (za2 2 za0) (zbM (zac (zag 0) (zac (eC (.int 4)) zaw))))) (zaB 3))
 (zh2 (eBM .list zfP (zag 1) (zac (zas zc2 (zas zc2 (zas zc2 (za7 zfW (zac (zaq (za2 2 za0) (zbM (zac (zag 0) (zac (eC (.int 2)) zaw)))) zaw)) (eC (.str " "))) (za7 zfW (zac (zas zc2 (eC (.int 1)) (zaq (za2 2 za0) (zbM (zac (zag 0) (zac (zas ixD (zgu (zac (eC (.int 20)) (zac (zas znr (eC (.int 10)) (eC (.int 18))) zaw))) (zaq (za2 2 za0) (zbM (zac (zag 0) (zac (eC (.int 2)) zaw))))) zaw))))) zaw))) (zag 3)) zaw))))
def zej : En -> Hs -> S:=
 (zat (zcR (zas ixD (zgu (zac (eC (.str "off")) (zac (eC (.str "partial")) (zac (eC (.str "all")) zaw)))) (zaq (za2 2 za0) (zbM (zac (zag 0) (zac (eC (.int 3)) zaw))))) (zaB 5))
 (zh2 (eBM .list zfP (zag 4) (zac (zas zc2 (zas zc2 (zas zc2 (zas zc2 (zag 5) (eC (.str " "))) (za7 zfW (zac (zaq (za2 2 za0) (zbM (zac (zag 0) (zac (eC (.int 10)) zaw)))) zaw))) (eC (.str " "))) (za7 zfW (zac (zaq (za2 2 za0) (zbM (zac (zag 0) (zac (eC (.int 5)) zaw)))) zaw))) zaw))))
def zfQ : En -> Hs -> S:=
 (zat (zcR (zh8 zaw) (zaB 1))
 (zat (zhH (zdI (zac (zaq (za2 2 za0) (zbM (zac (zag 0) (zac (eC (.int 5)) zaw)))) zaw)) (zaB 2) zen)
 (zat (zcR (zh8 zaw) (zaB 4))
 (zat (zhH (zdI (zac (eC (.int 2)) zaw)) (zaB 2) zej)
 (zc0 (zgu (zac (eBM .str zd3 (eC (.str "; ")) (zac (zag 1) zaw)) (zac (zas ixD (zag 4) (eC (.int 0))) (zac (zas zc2 (zas zc2 (za7 zfW (zac (zas zc2 (eC (.int 1)) (zaq (za2 2 za0) (zbM (zac (zag 0) (zac (eC (.int 30)) zaw))))) zaw)) (eC (.str "; "))) (eBM .str zd3 (eC (.str "; ")) (zac (zag 4) zaw))) zaw)))))))))
def zdb : List D -> Hs -> R D:=zjY (zbK 6 zfQ)
def zbA : En -> Hs -> S:=
 (zat (sIf (zgf (za3 (zas eqD (zag 0) (eC (.str "")))) (zgf (za3 (zas gtD (za7 zd5 (zac (zag 0) zaw)) (eC (.int 40)))) (za3 (zas neD (zcU (znG (zag 0)) (zaB 3) (za3 (zas zhq (zag 3) (eC (.str "0123456789")))) (zag 3) [3]) (zgu zaw))))) (zc0 (eC (.bl false))) zd2)
 (zc0 (zkQ (eOr (zas neD (zas ixD (zag 0) (eC (.int 0))) (eC (.str "0"))) (zas eqD (zag 0) (eC (.str "0")))) (zfe leD leD (zag 1) (za7 zin (zac (zag 0) zaw)) (zag 2)))))
def za4 : List D -> Hs -> R D:=zbK 4 zbA
def zb9 : En -> Hs -> S:=
 (zat (zcR (eBM .str zcs (zag 0) (zac (eC (.str " ")) zaw)) (zaB 1))
 (zat (sIf (zgf (za3 (zas neD (za7 zd5 (zac (zag 1) zaw)) (eC (.int 3)))) (za3 (zas zbQ (zas ixD (zag 1) (eC (.int 0))) (zj5 (zac (eC (.str "off")) (zac (eC (.str "partial")) (zac (eC (.str "all")) zaw))))))) (zc0 (eC (.bl false))) zd2)
 (zc0 (zkQ (zaq (za2 3 za4) (zbM (zac (zas ixD (zag 1) (eC (.int 1))) (zac (eC (.int 0)) (zac (eC (.int 9)) zaw))))) (zaq (za2 3 za4) (zbM (zac (zas ixD (zag 1) (eC (.int 2))) (zac (eC (.int 0)) (zac (eC (.int 4)) zaw)))))))))
def zbn : List D -> Hs -> R D:=zbK 2 zb9
def zbO : En -> Hs -> S:=
 (zat (zcR (eBM .str zcs (zag 0) (zac (eC (.str "; ")) zaw)) (zaB 1))
 (zc0 (zkQ (zas eqD (za7 zd5 (zac (zag 1) zaw)) (eC (.int 3))) (zkQ (zaq (za2 3 za4) (zbM (zac (zas ixD (zag 1) (eC (.int 0))) (zac (eC (.int 1)) (zac (zas znr (eC (.int 10)) (eC (.int 18))) zaw))))) (za7 zmR (zac (zcU (zf6 (eSl slD (zag 1) (zeK (eC (.int 1))) oNo)) (zaB 2) zfO (zaq (za2 1 zbn) (zbM (zac (zag 2) zaw))) [2]) zaw))))))
def zbN : List D -> Hs -> R D:=zbK 3 zbO
def zbW : En -> Hs -> S:=
 (zat (zcR (eBM .str zcs (zag 0) (zac (eC (.str " ")) zaw)) (zaB 1))
 (zat (sIf (zgf (za3 (zas zbQ (za7 zd5 (zac (zag 1) zaw)) (zj5 (zac (eC (.int 2)) (zac (eC (.int 3)) zaw))))) (zgf (zdy (zgO (zaq (za2 3 za4) (zbM (zac (zas ixD (zag 1) (eC (.int 0))) (zac (eC (.int 0)) (zac (eC (.int 1)) zaw))))))) (zdy (zgO (zaq (za2 3 za4) (zbM (zac (zas ixD (zag 1) (eC (.int 1))) (zac (eC (.int 1)) (zac (zas znr (eC (.int 10)) (eC (.int 18))) zaw))))))))) (zc0 (eC (.bl false))) zd2)
 (zc0 (eOr (zas eqD (za7 zd5 (zac (zag 1) zaw)) (eC (.int 2))) (zas inD (zas ixD (zag 1) (eC (.int 2))) (zj5 (zac (eC (.str "push")) (zac (eC (.str "more")) zaw))))))))
def zbV : List D -> Hs -> R D:=zbK 2 zbW
def zaV : En -> Hs -> S:=
 (zat (zcR (eBM .str zcs (zag 0) (zac (eC (.str "; ")) zaw)) (zaB 1))
 (zc0 (eOr (zas eqD (zag 0) (eC (.str ""))) (zkQ (zas leD (za7 zd5 (zac (zag 1) zaw)) (eC (.int 200))) (za7 zmR (zac (zcU (zf6 (zag 1)) (zaB 2) zfO (zaq (za2 1 zbV) (zbM (zac (zag 2) zaw))) [2]) zaw))))))
def zbf : List D -> Hs -> R D:=zbK 3 zaV
def zaJ : En -> Hs -> S:=
 (zat (sIf (zgf (za3 (zas eqD (zag 0) (eC (.str "")))) (zgf (za3 (zas gtD (za7 zd5 (zac (zag 0) zaw)) (eC (.int 40)))) (za3 (zas neD (eBM .str zf4 (zag 0) (zac (eC (.str "0123456789")) zaw)) (eC (.str "")))))) (zc0 (eC .non)) zd2)
 (zat (sIf (zk2 (za3 (zas eqD (zas ixD (zag 0) (eC (.int 0))) (eC (.str "0")))) (za3 (zas neD (zag 0) (eC (.str "0"))))) (zc0 (eC .non)) zd2)
 (zat (zcR (za7 zin (zac (zag 0) zaw)) (zaB 3))
 (zc0 (eIf (za3 (zfe leD leD (zag 1) (zag 3) (zag 2))) (zag 3) (eC .non))))))
def zay : List D -> Hs -> R D:=zbK 4 zaJ
def zbb : En -> Hs -> S:=
 (zat (sIf (za3 (zas zbQ (za7 zd5 (zac (zag 0) zaw)) (zj5 (zac (eC (.int 2)) (zac (eC (.int 3)) zaw))))) (zc0 (eC .non)) zd2)
 (zat (zcR (zcU (zf6 (eSl slD (zag 0) oNo (zeK (eC (.int 2))))) (zaB 4) zfO (zaq (za2 3 zay) (zbM (zac (zag 4) (zac (eC (.int 0)) (zac (eC (.int 10000000000000000000000000000000000000000)) zaw))))) [4]) (zpI 2 (zeL (zaB 1) (zeL (zaB 2) zkc))))
 (zat (zcR (eIf (za3 (zas eqD (za7 zd5 (zac (zag 0) zaw)) (eC (.int 2)))) (eC (.str "plain")) (zas ixD (zag 0) (eC (.int 2)))) (zaB 3))
 (zat (sIf (zgf (za3 (zas zf7 (zag 1) (eC .non))) (zgf (za3 (zas zf7 (zag 2) (eC .non))) (zk2 (za3 (zas eqD (za7 zd5 (zac (zag 0) zaw)) (eC (.int 3)))) (za3 (zas zbQ (zag 3) (eSl slD (eC (.tup [(.str "plain"),(.str "push"),(.str "more")])) (zeK (eC (.int 1))) oNo)))))) (zc0 (eC .non)) zd2)
 (zc0 (zj5 (zac (zag 1) (zac (zag 2) (zac (zag 3) zaw)))))))))
def zbE : List D -> Hs -> R D:=zbK 5 zbb
def zai : En -> Hs -> S:=
 (sIf (zgf (za3 (zas zf7 (zag 2) (eC .non))) (zgf (za3 (zas gtD (zas ixD (zag 2) (eC (.int 0))) (eC (.int 1)))) (zdy (za3 (zfe leD leD (eC (.int 1)) (zas ixD (zag 2) (eC (.int 1))) (eC (.int 1000000000000000000))))))) (zcr 29 (eC (.int 1))) zd2)
def zau : En -> Hs -> S:=
 (zat (sIf (zdy (zgO (zjq .str [0,1] (zag 0)))) (zcr 29 (eC .non)) zd2)
 (zat (sIf (za3 (zas eqD (zag 0) (eC (.str "")))) (zc0 (zh8 zaw)) zd2)
 (zat (zcR (zfL (zf6 (eBM .str zcs (zag 0) (zac (eC (.str "; ")) zaw))) (zaB 3) zfO (zaq (za2 1 zbE) (zbM (zac (eBM .str zcs (zag 3) (zac (eC (.str " ")) zaw)) zaw))) [3]) (zaB 1))
 (zat (sIf (za3 (zas gtD (za7 zd5 (zac (zag 1) zaw)) (eC (.int 200)))) (zcr 29 (eC (.int 1))) zd2)
 (zat (zhH (zf6 (zag 1)) (zaB 2) zai)
 (zc0 (zag 1)))))))
def zav : List D -> Hs -> R D:=zbK 4 zau
def zdN : En -> Hs -> S:=
 (zc0 (zkQ (zjq .int [0,1] (zag 0)) (zqK (zjq .bool [0,1] (zag 0)))))
def zcn : List D -> Hs -> R D:=zbK 1 zdN
def ze6 : En -> Hs -> S:=
 (zc0 (zkQ (zaq (za2 1 zcn) (zbM (zac (zag 0) zaw))) (zfe leD leD (zag 1) (zag 0) (zag 2))))
def zbY : List D -> Hs -> R D:=zbK 3 ze6
def zdp : En -> Hs -> S:=
 (zat (sIf (zgf (zdy (zgO (zjq .str [0,1] (zag 1)))) (za3 (zas zbQ (zag 1) (eC (.tup [(.str "off"),(.str "partial"),(.str "all")]))))) (zcr 21 (eC (.str "hold"))) zd2)
 (zat (sIf (zdy (zgO (zaq (za2 3 zbY) (zbM (zac (zag 2) (zac (eC (.int 0)) (zac (eC (.int 9)) zaw))))))) (zcr 21 (eC (.str "every"))) zd2)
 (zat (sIf (zdy (zgO (zaq (za2 3 zbY) (zbM (zac (zag 3) (zac (eC (.int 0)) (zac (eC (.int 4)) zaw))))))) (zcr 21 (eC (.str "quick"))) zd2)
 (zat (zif [(0,0)] (zag 0) (zag 1))
 (zat (zif [(0,1)] (zag 0) (zag 2))
 (zif [(0,2),(2,5)] (zag 0) (zag 3)))))))
def zaR : List D -> Hs -> R D:=zbK 4 zdp
abbrev zbl : List D -> List D -> List D:=dS [.d 0,.m 0,.m 1] [(.str "all")] [(.int 2),(.int 0)]
@[simp] theorem zim {x0 : D} : zbl [x0] [] = [x0,(.str "all"),(.int 2),(.int 0)]:=rfl
abbrev zaD : List D -> List D -> List D:=dS [.k 0,.k 1] [(.str "all")] []
@[simp] theorem zeS {x0 x1 y0 y1 : D} : zaD [x0,x1] [y0,y1] = [x0,x1,y0,y1]:=rfl
def zaE : En -> Hs -> S:=
 (zat (sIf (zdy (zgO (zjq .str [0,1] (zag 0)))) (zcr 29 (eC .non)) zd2)
 (zat (zcR (eBM .str zcs (zag 0) (zac (eC (.str " ")) zaw)) (zaB 1))
 (zat (sIf (zgf (za3 (zas neD (za7 zd5 (zac (zag 1) zaw)) (eC (.int 3)))) (za3 (zas zbQ (zas ixD (zag 1) (eC (.int 0))) (eC (.tup [(.str "off"),(.str "partial"),(.str "all")]))))) (zcr 29 (eC (.int 1))) zd2)
 (zat (zcR (zaq (za2 3 zay) (zbM (zac (zas ixD (zag 1) (eC (.int 1))) (zac (eC (.int 0)) (zac (eC (.int 9)) zaw))))) (zaB 2))
 (zat (zcR (zaq (za2 3 zay) (zbM (zac (zas ixD (zag 1) (eC (.int 2))) (zac (eC (.int 0)) (zac (eC (.int 4)) zaw))))) (zaB 3))
 (zat (sIf (zgf (za3 (zas zf7 (zag 2) (eC .non))) (za3 (zas zf7 (zag 3) (eC .non)))) (zcr 29 (eC (.int 1))) zd2)
 (zc0 (zeW 0 (kwF 2 2 zaD zaR) (cKw 2 (zac (zas ixD (zag 1) (eC (.int 0))) zaw) (zac (zag 2) (zac (zag 3) zaw)))))))))))
def za1 : List D -> Hs -> R D:=zbK 4 zaE
def zcO : En -> Hs -> S:=
 (zat (sIf (zdy (zgO (zaq (za2 3 zbY) (zbM (zac (zag 1) (zac (eC (.int 1)) (zac (eC (.int 1000000000000000000)) zaw))))))) (zcr 21 (eC (.str "size"))) zd2)
 (zat (sIf (zgf (za3 (zas gtD (za7 zd5 (zac (zag 2) zaw)) (eC (.int 2)))) (zdy (zgO (za7 zmR (zac (zcU (zf6 (zag 2)) (zaB 4) zfO (zjq (.cls 0) [0,1] (zag 4)) [4]) zaw))))) (zcr 21 (eC (.str "policies"))) zd2)
 (zat (zcR (zgu (zii (zag 2) (zii (zag 2) (zac (zeW 0 (kwF 1 0 zbl zaR) zov) (zac (zeW 0 (kwF 1 0 zbl zaR) zov) zaw))))) (zaB 3))
 (zat (zif [(1,0)] (zag 0) (zag 1))
 (zif [(1,1)] (zag 0) (zj5 (zac (zas ixD (zag 3) (eC (.int 0))) (zac (zas ixD (zag 3) (eC (.int 1))) zaw))))))))
def zba : List D -> Hs -> R D:=zbK 5 zcO
def zaA : En -> Hs -> S:=
 (zat (sIf (zdy (zgO (zjq .str [0,1] (zag 0)))) (zcr 29 (eC .non)) zd2)
 (zat (zlH 1 2 (eBM .str zcs (zag 0) (zac (eC (.str "; ")) zaw)))
 (zat (zcR (zaq (za2 3 zay) (zbM (zac (zag 1) (zac (eC (.int 1)) (zac (eC (.int 1000000000000000000)) zaw))))) (zaB 3))
 (zat (sIf (zgf (za3 (zas zf7 (zag 3) (eC .non))) (za3 (zas neD (za7 zd5 (zac (zag 2) zaw)) (eC (.int 2))))) (zcr 29 (eC (.int 1))) zd2)
 (zat (zcR (zfY (zf6 (zag 2)) (zaB 5) zfO (zaq (za2 1 za1) (zbM (zac (zag 5) zaw))) [5]) (zaB 4))
 (zc0 (zeW 1 (zgg 2 zba) (zbM (zac (zag 3) (zii (zag 4) zaw))))))))))
def zbp : List D -> Hs -> R D:=zbK 6 zaA
def zaK : En -> Hs -> S:=
 (zat (zjs (sIf (za3 (zas eqD (zag 0) (eC (.int 0)))) (zh2 (zmK (zaq (za2 1 zav) (zbM (zac (zag 1) zaw))))) (sIf (za3 (zas eqD (zag 0) (eC (.int 1)))) (zh2 (zaq (za2 1 za1) (zbM (zac (zag 1) zaw)))) (zh2 (zaq (za2 1 zbp) (zbM (zac (zag 1) zaw)))))) (hOn [20,21,22,29] [22] none (zlf (fun _ _=>(eC (.str "another")))) (hOn [20,21,22,29] [29] (some 2) (zlf (zl7 (zgj (zlB 29 0) (zgj (zjt 29 true) (zgj (zjt 29 true) zmh))))) hNo)))
 (zc0 (eC (.str "read"))))
def zcj : List D -> Hs -> R D:=zjY (zbK 3 zaK)
def zdL : En -> Hs -> S:=
 (zat (zcR (zas ixD (zgu (zac (zaq (za2 1 zbf) (zbM (zac (zag 1) zaw))) (zac (zaq (za2 1 zbn) (zbM (zac (zag 1) zaw))) (zac (zaq (za2 1 zbN) (zbM (zac (zag 1) zaw))) zaw)))) (zag 0)) (zaB 2))
 (zc0 (zas eqD (zaq (za2 2 zcj) (zbM (zac (zag 0) (zac (zag 1) zaw)))) (eIf (zgO (zag 2)) (eC (.str "read")) (zgu (zac (eC (.int 1)) (zac (eC (.bl true)) (zac (eC (.bl true)) zaw))))))))
def zbe : List D -> Hs -> R D:=zbK 3 zdL
def zgV : En -> Hs -> S:=
 (zat (zqA 2 3 (zac (zaq (za2 2 za0) (zbM (zac (zag 0) (zac (zas zc2 (za7 zd5 (zac (zag 1) zaw)) (eC (.int 1))) zaw)))) (zac (zaq (za2 2 za0) (zbM (zac (zag 0) (zac (eC (.int 6)) zaw)))) zaw)))
 (zat (zcR (zgu (zac (eC (.str " ")) (zac (eC (.str ";")) (zac (eC (.str "0")) (zac (eC (.str "1")) (zac (eC (.str "5")) (zac (eC (.str "-")) (zac (eC (.str "+")) (zac (eC (.str "x")) (zac (eC (.str "A")) (zac (eC (.str ".")) (zac (eC (.str "; ")) (zac (eC (.str "  ")) (zac (eC (.str "\n")) (zac (eC (.str "_")) (zac (eC (.str " push")) (zac (eC (.str " more")) (zac (eC (.str " plain")) zaw)))))))))))))))))) (zaB 4))
 (zat (zcR (zas ixD (zag 4) (zaq (za2 2 za0) (zbM (zac (zag 0) (zac (za7 zd5 (zac (zag 4) zaw)) zaw))))) (zaB 5))
 (zat (sIf (za3 (zas eqD (zag 3) (eC (.int 0)))) (zc0 (zas zc2 (zas zc2 (eSl zkM (zag 1) oNo (zeK (zag 2))) (zag 5)) (eSl zkM (zag 1) (zeK (zag 2)) oNo))) zd2)
 (zat (sIf (za3 (zas eqD (zag 3) (eC (.int 1)))) (zc0 (zas zc2 (eSl zkM (zag 1) oNo (zeK (zag 2))) (eSl zkM (zag 1) (zeK (zas zc2 (zag 2) (eC (.int 1)))) oNo))) zd2)
 (zat (sIf (za3 (zas eqD (zag 3) (eC (.int 2)))) (zc0 (zas zc2 (zas zc2 (eSl zkM (zag 1) oNo (zeK (zag 2))) (zag 5)) (eSl zkM (zag 1) (zeK (zas zc2 (zag 2) (eC (.int 1)))) oNo))) zd2)
 (zat (sIf (za3 (zas eqD (zag 3) (eC (.int 3)))) (zc0 (zas zc2 (zag 1) (zag 5))) zd2)
 (zat (sIf (za3 (zas eqD (zag 3) (eC (.int 4)))) (zc0 (zas zc2 (zag 5) (zag 1))) zd2)
 (zat (zcR (eBM .str zfG (zag 1) (zac (eC (.str " ")) zaw)) (zaB 6))
 (zat (zh2 (eBM .list zgU (zag 6) (zac (zaq (za2 2 za0) (zbM (zac (zag 0) (zac (zas zc2 (za7 zd5 (zac (zag 6) zaw)) (eC (.int 1))) zaw)))) (zac (zas ixD (zag 6) (zaq (za2 2 za0) (zbM (zac (zag 0) (zac (za7 zd5 (zac (zag 6) zaw)) zaw))))) zaw))))
 (zc0 (eBM .str zd3 (eC (.str " ")) (zac (zag 6) zaw)))))))))))))
def zdj : List D -> Hs -> R D:=zjY (zbK 7 zgV)
def zid : En -> Hs -> S:=
 (zat (zcR (zaq (za2 2 zdj) (zbM (zac (zag 2) (zac (zag 4) zaw)))) (zaB 6))
 (sIf (zgf (zdy (zgO (zaq (za2 2 zbe) (zbM (zac (zag 3) (zac (zag 6) zaw)))))) (zdy (zgO (zaq (za2 2 zbe) (zbM (zac (zag 3) (zac (zaq (za2 2 zdj) (zbM (zac (zag 2) (zac (zag 6) zaw)))) zaw))))))) (zc0 (eC (.bl false))) zd2))
def ziD : En -> Hs -> S:=
 (sIf (za3 (zas neD (zaq (za2 2 zcj) (zbM (zac (zag 3) (zac (zag 7) zaw)))) (zgu (zac (eC .non) (zac (eC (.bl true)) (zac (eC (.bl true)) zaw)))))) (zc0 (eC (.bl false))) zd2)
def zia : En -> Hs -> S:=
 (zat (sIf (zgf (zdy (zgO (zaq (za2 2 zbe) (zbM (zac (zag 3) (zac (zag 4) zaw)))))) (za3 (zas neD (zaq (za2 2 zcj) (zbM (zac (zag 3) (zac (zag 4) zaw)))) (eC (.str "read"))))) (zc0 (eC (.bl false))) zd2)
 (zat (zhH (zdI (zac (eC (.int 6)) zaw)) (zaB 5) zid)
 (zhH (zf6 (zgu (zac (eC .non) (zac (eC (.bl true)) (zac (eC (.int 5)) (zac (zgu zaw) (zac (zgu (zac (zag 4) zaw)) (zac (zj5 (zac (zag 4) zaw)) zaw)))))))) (zaB 7) ziD)))
def ziG : En -> Hs -> S:=
 (zat (zcR (zaq (za2 2 zeV) (zbM (zac (zag 0) (zac (zag 1) zaw)))) (zaB 2))
 (zhH (zja (zac (zaq (za2 1 zdb) (zbM (zac (zag 2) zaw))) zaw)) (zo9 2 (zeL (zaB 3) (zeL (zaB 4) zkc))) zia))
def zms : En -> Hs -> S:=
 (zat (zhH (zdI (zac (za7 maxD (zac (eC (.int 2)) (zac (za7 minD (zac (eC (.int 6)) (zac (za7 zd5 (zac (zag 0) zaw)) zaw))) zaw))) zaw)) (zaB 1) ziG)
 (zat (zcR (eBM .str zd3 (eC (.str "; ")) (zac (zas zd7 (zgu (zac (eC (.str "0 1")) zaw)) (eC (.int 201))) zaw)) (zaB 8))
 (zat (sIf (zgf (zdy (zgO (zaq (za2 2 zbe) (zbM (zac (eC (.int 0)) (zac (zag 8) zaw)))))) (zdy (zgO (zaq (za2 2 zbe) (zbM (zac (eC (.int 0)) (zac (eSl zkM (zag 8) (zeK (eC (.int 5))) oNo) zaw))))))) (zc0 (eC (.bl false))) zd2)
 (zc0 (zkQ (zaq (za2 2 zbe) (zbM (zac (eC (.int 2)) (zac (eC (.str "0; all 2 0; all 2 0")) zaw)))) (zaq (za2 2 zbe) (zbM (zac (eC (.int 0)) (zac (eC (.str "0 0")) zaw)))))))))
def G_law : List D -> Hs -> R D:=zbK 9 zms
end Ev
namespace Ev
open PySem L2
theorem zfC {h : Hs} {n : Nat} {xs : List D} {k : Int} (e : zaS h n = some xs) : ixD (.ref n) (.int k) h = match atI xs k with
  | some d=>.ok d h
  | none=>.bad:=by
  show (match rdL h (.ref n) with
    | some xs=>(match atI xs k with
      | some d=>R.ok d h
      | none=>.bad)
    | none=>.bad) = _
  rw [show rdL h (.ref n) = zaS h n from rfl,e]
theorem zfI {h : Hs} {n : Nat} {xs : List D} {k : Int} {j : Nat} {z : D} (e : zaS h n = some xs) (e2 : ixN xs.length k = some j) : zgC (.ref n) (.int k) z h = some (h.set n (.lst (xs.set j z))):=by
  unfold zgC
  simp [e,e2]
structure BagS where
  a : Int
  b : Int
  c : Int
def BagS.o (s : BagS) : O:=.lst [.int s.a,.int s.b,.int s.c]
structure BagS.Ok (s : BagS) (k : Int) : Prop where
  a0 : 0 <= s.a
  b0 : 0 <= s.b
  b1 : s.b < 4611686018427387904
  c0 : 0 <= s.c
  c1 : s.c <= k
def Bag (k : Int) (h : Hs) (n : Nat) : Prop:=∃ s : BagS,h[n]? = some s.o /\ s.Ok k
theorem zfo {h : Hs} {n : Nat} {s : BagS} (e : h[n]? = some s.o) : zaS h n = some [.int s.a,.int s.b,.int s.c]:=by
  unfold zaS
  rw [e]
  rfl
theorem zic {h : Hs} {n : Nat} {s t : BagS} (e : h[n]? = some s.o) : (h.set n t.o)[n]? = some t.o:=by
  have:=(List.getElem?_eq_some_iff.mp e).1
  simp [this]
def zik : En -> Hs -> R Bool:=za3 (zas ltD (zag 4) (zag 1))
def zjU : En -> Hs -> S:=(zat (zfH (zag 0) (eC (.int 2)) (zas zc2 (zas ixD (zag 0) (eC (.int 2))) (eC (.int 1))))
 (zat (zfH (zag 0) (eC (.int 1)) (zas zh4 (za7 zeo (zac (zas zc2 (zas zc2 (zas zd7 (zas ixD (zag 0) (eC (.int 1))) (eC (.int 40014))) (zas zd7 (zas zd7 (eC (.int 7919)) (zas ixD (zag 0) (eC (.int 2)))) (zas ixD (zag 0) (eC (.int 2))))) (eC (.int 83))) zaw)) (eC (.int 2147483563))))
 (zat (zcR (zas zh4 (za7 zeo (zac (zas zd7 (zas zeH (zas ixD (zag 0) (eC (.int 1))) (eC (.int 7))) (zas zc2 (zas zeH (zas ixD (zag 0) (eC (.int 1))) (eC (.int 131))) (zas ixD (zag 0) (eC (.int 2))))) zaw)) (eC (.int 2147483399))) (zaB 5))
 (zat (zcR (zas zc2 (zas zd7 (zag 3) (eC (.int 33554432))) (zas zh4 (za7 zeo (zac (zas zeH (zag 5) (eC (.int 64))) zaw)) (eC (.int 33554432)))) (zaB 3))
 (zcR (zas zd7 (zag 4) (eC (.int 33554432))) (zaB 4))))))
theorem zkw {h : Hs} {n : Nat} {s : BagS} {k many found reach : Int} {x2 x5 : Option D} (e : h[n]? = some s.o) (ok : s.Ok k) (hk : k < 1152921504606846976) (hf : 0 <= found) :
    ∃ (t : BagS) (found' : Int) (y : Int), zjU [some (.ref n), some (.int many), x2, some (.int found), some (.int reach), x5] h = .nx [some (.ref n), some (.int many), x2, some (.int found'), some (.int (reach * 33554432)), some (.int y)] (h.set n t.o) /\ t.Ok (k + 1) /\ 0 <= found' := by
  obtain ⟨a0, b0, b1, c0, c1⟩ := ok
  have hl : n < h.length := (List.getElem?_eq_some_iff.mp e).1
  have e1 := zfo e
  let b' : Int := (s.b * 40014 + 7919 * (s.c + 1) * (s.c + 1) + 83) % 2147483563
  let y : Int := (b' / 7 * (b' / 131 + (s.c + 1))) % 2147483399
  have hb0 : 0 <= b' := Int.emod_nonneg _ (by decide)
  have hb1 : b' < 2147483563 := Int.emod_lt_of_pos _ (by decide)
  have st1 : (h.set n (.lst [.int s.a, .int s.b, .int (s.c + 1)]))[n]? = some (BagS.mk s.a s.b (s.c + 1)).o := by simp [hl, BagS.o]
  have e2 := zfo st1
  have st2 : (h.set n (.lst [.int s.a, .int b', .int (s.c + 1)]))[n]? = some (BagS.mk s.a b' (s.c + 1)).o := by simp [hl, BagS.o]
  have e3 := zfo st2
  refine ⟨⟨s.a, b', s.c + 1⟩, found * 33554432 + y / 64 % 33554432, y, ?_, ⟨a0, hb0, by show b' < _; omega, by show 0 <= s.c + 1; omega, by show s.c + 1 <= k + 1; omega⟩, ?_⟩
  · have m1 : zd7 (.int s.b) (.int 40014) (h.set n (.lst [.int s.a, .int s.b, .int (s.c + 1)])) = .ok (.int (s.b * 40014)) _ := mul_r (by decide) (by decide)
    have m2 : zd7 (.int 7919) (.int (s.c + 1)) (h.set n (.lst [.int s.a, .int s.b, .int (s.c + 1)])) = .ok (.int (7919 * (s.c + 1))) _ := zaN (by decide) (by decide)
    have m3 : zd7 (.int (7919 * (s.c + 1))) (.int (s.c + 1)) (h.set n (.lst [.int s.a, .int s.b, .int (s.c + 1)])) = .ok (.int (7919 * (s.c + 1) * (s.c + 1))) _ := mul_r (by omega) (by omega)
    have m4 : zd7 (.int (b' / 7)) (.int (b' / 131 + (s.c + 1))) (h.set n (.lst [.int s.a, .int b', .int (s.c + 1)])) = .ok (.int (b' / 7 * (b' / 131 + (s.c + 1)))) _ := zaN (by omega) (by omega)
    have m5 : ∀ h', zd7 (.int found) (.int 33554432) h' = .ok (.int (found * 33554432)) h' := fun h' => mul_r (by decide) (by decide)
    have m6 : ∀ h', zd7 (.int reach) (.int 33554432) h' = .ok (.int (reach * 33554432)) h' := fun h' => mul_r (by decide) (by decide)
    have d1 : ∀ (x : Int) h', zeH (.int x) (.int 7) h' = .ok (.int (x / 7)) h' := fun x h' => zaj (by decide) (by decide)
    have d2 : ∀ (x : Int) h', zeH (.int x) (.int 131) h' = .ok (.int (x / 131)) h' := fun x h' => zaj (by decide) (by decide)
    have d3 : ∀ (x : Int) h', zeH (.int x) (.int 64) h' = .ok (.int (x / 64)) h' := fun x h' => zaj (by decide) (by decide)
    have q1 : ∀ (x : Int) h', zh4 (.int x) (.int 2147483563) h' = .ok (.int (x % 2147483563)) h' := fun x h' => zap (by decide)
    have q2 : ∀ (x : Int) h', zh4 (.int x) (.int 2147483399) h' = .ok (.int (x % 2147483399)) h' := fun x h' => zap (by decide)
    have q3 : ∀ (x : Int) h', zh4 (.int x) (.int 33554432) h' = .ok (.int (x % 33554432)) h' := fun x h' => zap (by decide)
    have w1 : zgC (.ref n) (.int 2) (.int (s.c + 1)) h = some (h.set n (.lst [.int s.a, .int s.b, .int (s.c + 1)])) := zfI e1 (j := 2) rfl
    have w2 : zgC (.ref n) (.int 1) (.int b') (h.set n (.lst [.int s.a, .int s.b, .int (s.c + 1)])) = some (h.set n (.lst [.int s.a, .int b', .int (s.c + 1)])) := by
      rw [zfI e2 (j := 1) rfl]
      simp
    have w1' := w1
    have w2' := w2
    unfold zjU
    simp only [zfr, zjw, zkF, zkD, zos, List.getElem?_cons_zero, List.getElem?_cons_succ, R.bind_ok, zfC e1, zoL, ziM, R.toS_ok, w1, S.seq_nx, zfC e2, zof, m1, m2, m3, ziY, ziP, zkp, zhz, q1,
      zjL, zdY]
    rw [show (s.b * 40014 + 7919 * (s.c + 1) * (s.c + 1) + 83) % 2147483563 = b' from rfl, w2]
    simp only [S.seq_nx, zfr, zjL, zkF, zkD, zos, List.getElem?_cons_zero, List.getElem?_cons_succ, R.bind_ok, zfC e3, zof, zoL, d1, d2, d3, ziM, m4, ziY, ziP, zkp, zhz, q2, R.toS_ok, zdY, List.set_cons_zero, List.set_cons_succ, m5, q3, m6]
    rfl
  · have := Int.emod_nonneg (y / 64) (show (33554432 : Int) ≠ 0 by decide)
    omega
theorem zhX {n : Nat} {many : Int} {x2 : Option D} : ∀ (j : Nat) {h : Hs} {s : BagS} {k found reach : Int} {x5 : Option D}, h[n]? = some s.o -> s.Ok k -> k + j < 1152921504606846976 -> 0 <= found -> 0 < reach -> many <= reach * 33554432 ^ j ->
    ∃ (t : BagS) (found' reach' : Int) (y : Option D), zcx zik zjU [some (.ref n), some (.int many), x2, some (.int found), some (.int reach), x5] h = .nx [some (.ref n), some (.int many), x2, some (.int found'), some (.int reach'), y] (h.set n t.o) /\ t.Ok (k + j) /\ 0 <= found'
  | 0, h, s, k, found, reach, x5, e, ok, hk, hf, hr, hm => by
    refine ⟨s, found, reach, x5, ?_, by simpa using ok, hf⟩
    rw [zdk]
    have hlt : ¬ reach < many := by simp at hm; omega
    have hs : h.set n s.o = h := by
      obtain ⟨hl, e'⟩ := List.getElem?_eq_some_iff.mp e
      rw [<- e']; simp
    rw [hs]
    simp [zik, hlt]
  | j + 1, h, s, k, found, reach, x5, e, ok, hk, hf, hr, hm => by
    by_cases hlt : reach < many
    · obtain ⟨t, f1, y1, h1, h2, h3⟩ := zkw (x2 := x2) (x5 := x5) (many := many) (reach := reach) e ok (by push_cast at hk; omega) hf
      obtain ⟨t2, f2, r2, y2, h4, h5, h6⟩ := zhX j (h := h.set n t.o) (s := t) (k := k + 1) (found := f1) (reach := reach * 33554432) (x5 := some (.int y1)) (x2 := x2) (many := many) (zic e) h2 (by push_cast at hk; omega) h3 (by omega) (by
        rw [Int.pow_succ, Int.mul_comm (33554432 ^ j) 33554432, <- Int.mul_assoc] at hm; exact hm)
      refine ⟨t2, f2, r2, y2, ?_, by push_cast; rw [show k + ((j : Int) + 1) = k + 1 + j by omega]; exact h5, h6⟩
      rw [zdk]
      have hc : zik [some (.ref n), some (.int many), x2, some (.int found), some (.int reach), x5] h = .ok true h := by simp [zik, hlt]
      rw [hc, R.toS_ok, if_pos rfl, h1]
      dsimp only
      rw [h4, List.set_set]
    · refine ⟨s, found, reach, x5, ?_, ⟨ok.a0, ok.b0, ok.b1, ok.c0, by have := ok.c1; push_cast; omega⟩, hf⟩
      have hs : h.set n s.o = h := by
        obtain ⟨hl, e'⟩ := List.getElem?_eq_some_iff.mp e
        rw [<- e']; simp
      rw [zdk, hs]
      simp [zik, hlt]
theorem zm3 {n : Nat} {many k : Int} {h : Hs} (hb : Bag k h n) (hk : k < 1152921504606846970) (h0 : 0 < many) (h1 : many <= 37778931862957161709568) :
    ∃ (r : Int) (t : BagS), za0 [.ref n, .int many] h = .ok (.int r) (h.set n t.o) /\ 0 <= r /\ r < many /\ Bag (k + 3) (h.set n t.o) n := by
  obtain ⟨s, e, ok⟩ := hb
  have e1 := zfo e
  have hl : n < h.length := (List.getElem?_eq_some_iff.mp e).1
  by_cases ha : 0 < s.a
  · refine ⟨s.a % many, ⟨s.a / many, s.b, s.c⟩, ?_, Int.emod_nonneg _ (by omega), Int.emod_lt_of_pos _ h0, ⟨_, zic e, ⟨Int.ediv_nonneg ok.a0 (by omega), ok.b0, ok.b1, ok.c0, by show s.c <= k + 3; have := ok.c1; omega⟩⟩⟩
    refine zar ?_
    have w1 : zgC (.ref n) (.int 0) (.int (s.a / many)) h = some (h.set n (BagS.mk (s.a / many) s.b s.c).o) := zfI e1 (j := 0) rfl
    have f1 : zeH (.int s.a) (.int many) h = .ok (.int (s.a / many)) h := zkk h0 (Int.lt_of_le_of_lt h1 (by decide +kernel))
    simp [zfn, zfC e1, ha, zap h0, f1, w1]
  · obtain ⟨t, f', r', y, g1, g2, g3⟩ := zhX (n := n) (many := many) (x2 := none) 3 (h := h) (s := s) (k := k) (found := 0) (reach := 1) (x5 := none) e ok (by push_cast; omega) (Int.le_refl _) (by decide) (by omega)
    refine ⟨f' % many, t, ?_, Int.emod_nonneg _ (by omega), Int.emod_lt_of_pos _ h0, ⟨t, zic e, g2⟩⟩
    refine zar ?_
    have g1' : zcx zik zjU [some (.ref n), some (.int many), none, some (.int 0), some (.int 1), none] h = _ := g1
    unfold zik zjU at g1'
    simp [zfn, zfC e1, ha, big, g1', zap h0]
end Ev
namespace Ev
open PySem L2
theorem BagS.Ok.mono {s : BagS} {k k' : Int} (h : s.Ok k) (l : k <= k') : s.Ok k':=⟨h.a0,h.b0,h.b1,h.c0,by have:=h.c1; omega⟩
theorem znN {n : Nat} {k : Int} {h : Hs} {t : BagS} (hn : n < h.length) (c : Bag k (h.set n t.o) n) : t.Ok k:=by
  obtain ⟨t',g1,g2⟩:=c
  have : t' = t:=by
    rw [List.getElem?_set_self hn] at g1
    have z:=Option.some.inj g1
    unfold BagS.o at z
    injection z with z
    obtain ⟨x1,x2,x3⟩:=t
    obtain ⟨y1,y2,y3⟩:=t'
    simp at z
    obtain ⟨rfl,rfl,rfl⟩:=z
    rfl
  rw [<- this]
  exact g2
theorem zkZ {n : Nat} {many k : Int} {h : Hs} {s : BagS} (hn : n < h.length) (ok : s.Ok k) (hk : k < 1152921504606846970) (h0 : 0 < many) (h1 : many <= 37778931862957161709568) :
    ∃ (r : Int) (t : BagS), za0 [.ref n, .int many] (h.set n s.o) = .ok (.int r) (h.set n t.o) /\ 0 <= r /\ r < many /\ t.Ok (k + 3) := by
  have hb : Bag k (h.set n s.o) n := ⟨s, by simp [hn], ok⟩
  obtain ⟨r, t, e, a, b, c⟩ := zm3 hb hk h0 h1
  rw [List.set_set] at e c
  exact ⟨r, t, e, a, b, znN hn c⟩
theorem zbB {n : Nat} {many k : Int} {h : Hs} {s : BagS} {Q : D -> Hs -> Prop} {E : Nat -> List D -> Hs -> Prop} (hn : n < h.length) (ok : s.Ok k) (hk : k < 1152921504606846970) (h0 : 0 < many) (h1 : many <= 37778931862957161709568)
    (q : ∀ (r : Int) (t : BagS), 0 <= r -> r < many -> t.Ok (k + 3) -> Q (.int r) (h.set n t.o)) : R.Sat (za0 [.ref n, .int many] (h.set n s.o)) Q E := by
  obtain ⟨r, t, e, a, b, c⟩ := zkZ hn ok hk h0 h1
  exact R.sat_of e (q r t a b c)
theorem zpd {s : BagS} {n : Nat} : O.nr n s.o = true:=by simp [O.nr,BagS.o,D.nrs,D.nr]
end Ev
namespace Ev
open PySem L2
theorem zoG {a b : Int} {h : Hs} (h1 : 0 <= b) (h2 : b <= 1000000) (h3 : a.natAbs < 18446744073709551616) : znr (.int a) (.int b) h = .ok (.int (a ^ b.toNat)) h:=by
  show (match (if 0 <= b /\ b <= 1000000 /\ a.natAbs < 2 ^ 64 then some (D.int (a ^ b.toNat)) else none) with
    | some d=>R.ok d h
    | none=>.bad) = _
  rw [if_pos ⟨h1,h2,h3⟩]
@[simp] theorem zth {h : Hs} : znr (.int 10) (.int 18) h = .ok (.int 1000000000000000000) h:=by rw [zoG (by decide) (by decide) (by decide)]; rfl
theorem zn7 {ns : List Int} {at_ : Nat} {h : Hs} (ha : at_ < 64) : ∃ o : BagS, zeV [.rol (ns.map D.int), .int at_] h = .ok (.ref h.length) (h ++ [o.o]) /\ o.Ok 0 := by
  have fin : ∀ cell : Int, ∃ o : BagS, zh8 (zac (zag 3) (zac (zas zc2 (zas zc2 (zas zh4 (za7 zeo (zac (zag 2) zaw)) (eC (.int 2147483563))) (zas zd7 (eC (.int 40009)) (zag 1))) (eC (.int 61))) (zac (eC (.int 0)) zaw)))
      [some (.rol (ns.map D.int)), some (.int at_), some (.int cell), some (.int ((if cell < 0 then -cell else cell) * (if 1000000000000000000 <= (if cell < 0 then -cell else cell) then 1 else 0)))] h = .ok (.ref h.length) (h ++ [o.o]) /\ o.Ok 0 := fun cell => by
    have m : zd7 (.int 40009) (.int at_) h = .ok (.int (40009 * at_)) h := zaN (by decide) (by decide)
    have q : zh4 (.int cell) (.int 2147483563) h = .ok (.int (cell % 2147483563)) h := zap (by decide)
    refine ⟨⟨(if cell < 0 then -cell else cell) * (if 1000000000000000000 <= (if cell < 0 then -cell else cell) then 1 else 0), cell % 2147483563 + 40009 * at_ + 61, 0⟩, by simp [m, q, BagS.o, big], ⟨?_, ?_, ?_, Int.le_refl _, Int.le_refl _⟩⟩
    · show 0 <= (if cell < 0 then -cell else cell) * (if 1000000000000000000 <= (if cell < 0 then -cell else cell) then 1 else 0)
      exact Int.mul_nonneg (by split <;> omega) (by split <;> omega)
    · have := Int.emod_nonneg cell (show (2147483563 : Int) ≠ 0 by decide)
      show 0 <= cell % 2147483563 + 40009 * at_ + 61
      omega
    · have := Int.emod_lt_of_pos cell (show (0 : Int) < 2147483563 by decide)
      show cell % 2147483563 + 40009 * at_ + 61 < _
      omega
  have m2 : ∀ (x : Int) (c : Prop) [Decidable c] h', zd7 (.int x) (.int (if c then 1 else 0)) h' = .ok (.int (x * (if c then 1 else 0))) h' := fun x c _ h' => mul_r (by split <;> decide) (by split <;> decide)
  by_cases hl : at_ < ns.length
  · obtain ⟨o, e, ok⟩ := fin ns[at_]
    refine ⟨o, zar ?_, ok⟩
    have hl' : (at_ : Int) < ns.length := by omega
    have hc : atI (ns.map D.int) (at_ : Int) = some (.int ns[at_]) := by rw [atI_nat]; simp [hl]
    simp only [zk3] at e
    simp [zgB, hl', hc, m2] at e ⊢
    simp [e]
  · obtain ⟨o, e, ok⟩ := fin 0
    refine ⟨o, zar ?_, ok⟩
    have hl' : ¬ (at_ : Int) < ns.length := by omega
    have m0 : ∀ h', zd7 (.int 0) (.int 0) h' = .ok (.int 0) h' := fun h' => mul_r (by decide) (by decide)
    simp [m0] at e
    simp [zgB, hl', m2, m0]
    simp [e]
theorem zmW {ns : List Int} {at_ : Nat} {h : Hs} {Q : D -> Hs -> Prop} {E : Nat -> List D -> Hs -> Prop} (ha : at_ < 64) (q : ∀ (h1 : Hs) (n : Nat) (s : BagS),n < h1.length -> s.Ok 0 -> Q (.ref n) (h1.set n s.o)) : R.Sat (zeV [.rol (ns.map D.int),.int at_] h) Q E:=by
  obtain ⟨o,e,ok⟩:=zn7 (ns:=ns) (at_:=at_) (h:=h) ha
  rw [e]
  have:=q (h ++ [o.o]) h.length o (by simp) ok
  exact .ok (by simpa using this)
end Ev
namespace Ev
open PySem L2
inductive Hold where
  | off | part | all
deriving DecidableEq
def Hold.s : Hold -> Str
  | .off=>"off"
  | .part=>"partial"
  | .all=>"all"
structure Pt where
  rest : Int
  kept : Bool
  blocked : Bool
  stuck : Bool
  pending : Int
  quick : Int
def Pt.l (p : Pt) : List D:=[.int p.rest,.bl p.kept,.bl p.blocked,.bl p.stuck,.int p.pending,.int p.quick]
abbrev Pt.d (p : Pt) : D:=.tup p.l
abbrev Pt.o (p : Pt) : D:=.obj 2 p.l
structure Rl where
  size : Int
  hold : Hold
  every : Int
def Rl.d (r : Rl) : D:=.tup [.int r.size,.str r.hold.s,.int r.every]
end Ev
namespace Ev
open PySem L2
inductive Mode where
  | plain | more | push
deriving DecidableEq
def Mode.s : Mode -> Str
  | .plain=>"plain"
  | .more=>"more"
  | .push=>"push"
@[simp] theorem zrq (x : Mode) : (x.s = Str.ofString "more") = (x = .more):=by cases x <;> decide +kernel
@[simp] theorem zqn (x : Mode) : (x.s = Str.ofString "push") = (x = .push):=by cases x <;> decide +kernel
end Ev
namespace Ev
open PySem L2
end Ev
namespace Ev
open PySem L2
@[simp] theorem zk5 {v : Int} {h : Hs} : zcn [.int v] h = .ok (.bl true) h:=by
  refine zar ?_
  simp [zdN]
theorem zfR {v a b : Int} {h : Hs} : zbY [.int v,.int a,.int b] h = .ok (.bl (decide (a <= v) && decide (v <= b))) h:=by
  refine zar ?_
  by_cases h1 : a <= v <;> simp [ze6,h1]
theorem zf5 {h : Hs} {x : Hold} {i j : Int} (h1 : 0 <= i) (h2 : i <= 9) (h3 : 0 <= j) (h4 : j <= 4) : zaR [.ref h.length,.str x.s,.int i,.int j] (h ++ [.ins 0 []]) = .ok .non (h ++ [.ins 0 [.str x.s,.int i,.int j]]):=by
  refine zkx (env:=[some (.ref h.length),some (.str x.s),some (.int i),some (.int j)]) ?_
  have e : ∀ h',zbQ (.str x.s) (.tup [.str "off",.str "partial",.str "all"]) h' = .ok (.bl false) h':=fun h'=>by
    cases x <;> rfl
  simp [zdp,zlR,e,zfR,h1,h2,h3,h4]
theorem zhP {env : En} {h : Hs} : zeW 0 (kwF 1 0 zbl zaR) zov env h = .ok (.obj 0 [.str "all",.int 2,.int 0]) h:=by
  refine zgP (n':=0) (fs:=[.str "all",.int 2,.int 0]) (znx) ?_ (by simp [D.nrs,D.nr])
  have:=zf5 (h:=h) (x:=.all) (i:=2) (j:=0) (by decide) (by decide) (by decide) (by decide)
  simp [Hold.s] at this
  simp [dS,zgr,this]
theorem zhi {h : Hs} {size : Int} {fs gs : List D} (h1 : 1 <= size) (h2 : size <= 1000000000000000000) : zba [.ref h.length, .int size, .tup [.obj 0 fs, .obj 0 gs]] (h ++ [.ins 1 []]) = .ok .non (h ++ [.ins 1 [.int size, .tup [.obj 0 fs, .obj 0 gs]]]) := by
  refine zkx (env := [some (.ref h.length), some (.int size), some (.tup [.obj 0 fs, .obj 0 gs]), some (.lst [.obj 0 fs, .obj 0 gs, .obj 0 fs, .obj 0 gs, .obj 0 [.str "all", .int 2, .int 0], .obj 0 [.str "all", .int 2, .int 0]]), none]) ?_
  · have e1 : ∀ h', zcU (zf6 (zag 2)) (zaB 4) zfO (zjq (.cls 0) [0, 1] (zag 4)) [4] [some (.ref h.length), some (.int size), some (.tup [.obj 0 fs, .obj 0 gs]), none, none] h' = .ok (.lst [.bl true, .bl true]) h' := fun h' =>
      zjF (g := fun _ => .bl true) (xs := [.obj 0 fs, .obj 0 gs]) (by simp) (by
        intro x hx
        refine ⟨_, rfl, fun _ => rfl, fun h' => ?_⟩
        simp at hx
        rcases hx with rfl | rfl <;> simp [zbD]) (by simp [big]) (by simp [D.nrs, D.nr])
    simp [zcO, zfR, h1, h2, e1, zmR, zhf, zhP, big, zlR]
theorem zhp {env : En} {h : Hs} {size : Int} {fs gs : List D} {fd : En -> Hs -> R DD2} (h1 : 1 <= size) (h2 : size <= 1000000000000000000) (hn : D.nrs h.length fs = true) (hn2 : D.nrs h.length gs = true) (e : fd env h = .ok ([.int size, .obj 0 fs, .obj 0 gs], []) h) :
    zeW 1 (zgg 2 zba) fd env h = .ok (.obj 1 [.int size, .tup [.obj 0 fs, .obj 0 gs]]) h := by
  refine zgP (n' := 1) (fs := [.int size, .tup [.obj 0 fs, .obj 0 gs]]) e ?_ (by simp [D.nrs, D.nr, hn, hn2])
  simp [big, zhi h1 h2]
end Ev
namespace Ev
open PySem L2
structure Po where
  hold : Hold
  every : Int
  quick : Int
def Po.o (p : Po) : D:=.obj 0 [.str p.hold.s,.int p.every,.int p.quick]
structure Se where
  size : Int
  p0 : Po
  p1 : Po
def Se.o (s : Se) : D:=.obj 1 [.int s.size,.tup [s.p0.o,s.p1.o]]
end Ev
namespace Ev
open PySem L2
section
variable {h : Hs} {n : Nat} {xs : List D} {y : D} {o : O}
theorem zdu (hn : n < h.length) : zaS ((h ++ [O.lst xs]).set n o) h.length = some xs:=by
  rw [ziW (by omega)]
  exact ze1
theorem zj0 (hn : n < h.length) (hy : xs.length < big) : zfP (.ref h.length) [y] ((h ++ [O.lst xs]).set n o) = .ok .non ((h ++ [O.lst (xs ++ [y])]).set n o):=by
  show (match zaS ((h ++ [O.lst xs]).set n o) h.length with
    | some ys=>if ys.length < big then R.ok D.non (((h ++ [O.lst xs]).set n o).set h.length (O.lst (ys ++ [y]))) else .bad
    | none=>.bad) = _
  rw [zdu hn]
  dsimp only
  rw [if_pos hy,List.set_comm _ _ (by omega)]
  congr 2
  simp
theorem zh7 (hn : n < h.length) : zc7 .list (.ref h.length) ((h ++ [O.lst xs]).set n o) = true:=by
  show (zaS ((h ++ [O.lst xs]).set n o) h.length).isSome = true
  rw [zdu hn]; rfl
end
structure Po.Ok (p : Po) : Prop where
  e0 : 0 <= p.every
  e9 : p.every <= 9
  q0 : 0 <= p.quick
  q4 : p.quick <= 4
def Po.t (p : Po) : D:=.tup [.str p.hold.s,.int p.every,.int p.quick]
end Ev
namespace Ev
open PySem L2
end Ev
namespace Ev
open PySem L2
structure Wr where
  who : Int
  len : Int
  mode : Mode
def Wr.d (w : Wr) : D:=.tup [.int w.who,.int w.len,.str w.mode.s]
structure Wr.Ok (w : Wr) : Prop where
  who : w.who = 0 \/ w.who = 1
  l1 : 1 <= w.len
  l2 : w.len <= 1000000000000000000
@[simp] theorem zla {cs : List Nat} {v : List D} {h : Hs} : zhg .tuple cs (.tup v) h = .ok (.bl true) h:=rfl
@[simp] theorem zlU {cs : List Nat} {v : List D} {h : Hs} : zhg .list cs (.lst v) h = .ok (.bl true) h:=rfl
@[simp] theorem znm {cs : List Nat} {v : List D} {h : Hs} : zhg .str cs (.lst v) h = .ok (.bl false) h:=rfl
@[simp] theorem zmk {cs : List Nat} {v : Str} {h : Hs} : zhg .list cs (.str v) h = .ok (.bl false) h:=rfl
structure Tn where
  who : Int
  start : Nat
  stop : Nat
def Tn.d (t : Tn) : D:=.tup [.int t.who,.int (t.start : Int),.int (t.stop : Int)]
def zoU (acc : List Tn) (i : Nat) (w : Wr) : List Tn:=match acc.getLast? with
  | some t=>if t.who = w.who then acc.dropLast ++ [⟨w.who,t.start,i + 1⟩] else acc ++ [⟨w.who,i,i + 1⟩]
  | none=>[⟨w.who,i,i + 1⟩]
def zlT : List Tn -> Nat -> List Wr -> List Tn
  | acc,_,[]=>acc
  | acc,i,w :: ws=>zlT (zoU acc i w) (i + 1) ws
end Ev
namespace Ev
open PySem L2
def znv (ws : List Wr) : List Int:=(zlT [] 0 ws).map fun t=>(t.start : Int)
def zqG (ws : List Wr) (i : Int) : Int:=if i ∈ znv ws then 0 else 2
inductive Ord where
  | slow | quick | steps (l : List Int)
def Ord.d : Ord -> D
  | .slow=>.str "slow"
  | .quick=>.str "quick"
  | .steps l=>.lst (l.map D.int)
def Ord.Ok (ws : List Wr) : Ord -> Prop
  | .steps l=>l.length = ws.length /\ ∀ (i : Nat) (x : Int),l[i]? = some x -> 0 <= x /\ x <= zqG ws (i : Int)
  | _=>True
structure Acc where
  parts : Pt
  segs : Int
  acks : Int
structure OA where
  q : Int × Int
  segs : Int
  acks : Int
  stalled : List Int
def qd (q : Int × Int) : D:=.tup [.int q.1,.int q.2]
structure SeOk (s : Se) : Prop where
  s0 : 1 <= s.size
  s1 : s.size <= 1000000000000000000
  a : 0 <= s.p0.every /\ s.p0.every <= 9
  b : 0 <= s.p1.every /\ s.p1.every <= 9
structure TnOk (n : Nat) (t : Tn) : Prop where
  who : t.who = 0 \/ t.who = 1
  le : t.start <= t.stop
  top : t.stop <= n
def OA.l (o : OA) : List D:=[.int (o.stalled.length : Int),.int o.segs,.int o.acks,.lst (o.stalled.map D.int)]
abbrev OA.o (o : OA) : D:=.obj 3 o.l
def Tn.part {α : Type} (xs : List α) (t : Tn) : List α:=(xs.drop t.start).take (t.stop - t.start)
end Ev
namespace Ev
open PySem L2
end Ev
namespace Ev
open PySem L2
structure Sh (a : Str) (n : Nat) : Prop where
  len : a.length <= n
  ok : PyData.strOk a = true
theorem Sh.app {a b : Str} {n m : Nat} (x : Sh a n) (y : Sh b m) : Sh (a ++ b) (n + m):=⟨by rw [strLen_append]; have:=x.len; have:=y.len; omega,zfg x.ok y.ok⟩
theorem Sh.mono {a : Str} {n m : Nat} (x : Sh a n) (h : n <= m) : Sh a m:=⟨Nat.le_trans x.len h,x.ok⟩
theorem Sh.lit (s : String) (n : Nat) (h : (Str.ofString s).length <= n:=by decide +kernel) : Sh (Str.ofString s) n:=⟨h,zfk s⟩
def zcf (i : Int) : Str:=Str.ofString (toString i)
theorem zd9 {i : Int} (h : i.natAbs < 1180591620717411303424) : Sh (zcf i) 71:=⟨(znR h).len,zfk _⟩
theorem zkl (x : Hold) : Sh x.s 7:=by cases x <;> exact ⟨by decide +kernel,by decide +kernel⟩
theorem zcJ {a b : Str} {n m : Nat} {h : Hs} (x : Sh a n) (y : Sh b m) (hl : n + m <= 16777216) : zc2 (.str a) (.str b) h = .ok (.str (a ++ b)) h:=by
  show (if a.length + b.length <= big then R.ok (D.str (a ++ b)) h else .bad) = _
  rw [if_pos (Nat.le_trans (by have:=x.len; have:=y.len; omega : a.length + b.length <= 16777216) (by decide))]
theorem str_int {i : Int} {h : Hs} (hi : i.natAbs < 1180591620717411303424) : zfW [.int i] h = .ok (.str (zcf i)) h:=zkY hi
theorem zjR {sep : Str} {ys : List Str} {ds : List D} {h : Hs} (hl : (ys.map fun y : Str=>y.length).sum + ys.length * sep.length <= 16777216) (ho : PyData.strOk (Str.join sep ys) = true) (hy : strsOf ds = some ys) : zd3 (.str sep) [.lst ds] h = .ok (.str (Str.join sep ys)) h:=by
  show (match strsOf ds with
    | some ys=>if (Nat.ble ((ys.map fun y : Str=>y.length).sum + ys.length * sep.length) 16777216 && PyData.strOk (Txt.join sep ys)) = true then R.ok (D.str (Txt.join sep ys)) h else .bad
    | none=>.bad) = _
  rw [hy]
  have e : Txt.join sep ys = Str.join sep ys:=StrLaws.glued_eq_join sep ys
  dsimp only
  rw [e,ho,Nat.ble_eq_true_of_le hl]
  rfl
def zc1 (p : Po) : Str:=p.hold.s ++ Str.ofString " " ++ (zcf p.every ++ Str.ofString " " ++ zcf p.quick)
section
variable {p r : Po} {h : Hs}
theorem Po.Ok.be (o : p.Ok) : p.every.natAbs < 1180591620717411303424:=by have:=o.e0; have:=o.e9; omega
theorem Po.Ok.bq (o : p.Ok) : p.quick.natAbs < 1180591620717411303424:=by have:=o.q0; have:=o.q4; omega
theorem zeq (o : p.Ok) : Sh (zc1 p) 200:=(((zkl _).app (.lit " " 1)).app (((zd9 o.be).app (.lit " " 1)).app (zd9 o.bq))).mono (by decide)
end
end Ev
namespace Ev
open PySem L2
structure Se.Ok (s : Se) : Prop where
  z1 : 1 <= s.size
  z2 : s.size <= 1000000000000000000
  o0 : s.p0.Ok
  o1 : s.p1.Ok
def zjE (s : Se) : Str:=zcf s.size ++ Str.ofString "; " ++ zc1 s.p0 ++ Str.ofString "; " ++ zc1 s.p1
section
variable {s r : Se} {h : Hs}
theorem Se.Ok.bz (o : s.Ok) : s.size.natAbs < 1180591620717411303424:=by have:=o.z1; have:=o.z2; omega
theorem zmy (o : s.Ok) : Sh (zjE s) 1000:=Sh.mono (Sh.app (Sh.app (Sh.app (Sh.app (zd9 o.bz) (Sh.lit "; " 2)) (zeq o.o0)) (Sh.lit "; " 2)) (zeq o.o1)) (by decide)
end
theorem zlG {env : En} {h : Hs} {w : Int} {p0 p1 : Po} {fd : En -> Hs -> R DD2} (h1 : 1 <= w) (h2 : w <= 1000000000000000000) (e : fd env h = .ok ([.int w,p0.o,p1.o],[]) h) : zeW 1 (zgg 2 zba) fd env h = .ok (Se.o ⟨w,p0,p1⟩) h:=
  zhp h1 h2 (by simp [D.nrs,D.nr]) (by simp [D.nrs,D.nr]) e
end Ev
namespace Ev
open PySem L2
open TL (tl numL)
theorem zcT (n : Nat) : tl (zcf n) = numL n:=TL.tl_num n
theorem zhm {n : Nat} : ∀ {c : Nat} {r : List Nat},numL n = c :: r -> c = 48 -> n = 0:=by
  induction n using Nat.strongRecOn with
  | _ n ih =>
    intro c r e hc
    by_cases h : n < 10
    · rw [TL.numL_lt h] at e
      injection e with e1 e2
      omega
    · rw [TL.numL_step (by omega)] at e
      cases e2 : numL (n / 10) with
      | nil=>exact absurd e2 (TL.numL_ne _)
      | cons d t =>
        rw [e2,List.cons_append] at e
        injection e with e3 e4
        have:=ih (n / 10) (by omega) e2 (by omega)
        omega
theorem zi6 {c : Nat} (h : 48 <= c /\ c <= 57) : (Str.ofString "0123456789").cps.contains c = true:=by
  obtain ⟨h1,h2⟩:=h
  have : c = 48 \/ c = 49 \/ c = 50 \/ c = 51 \/ c = 52 \/ c = 53 \/ c = 54 \/ c = 55 \/ c = 56 \/ c = 57:=by omega
  rcases this with rfl | rfl | rfl | rfl | rfl | rfl | rfl | rfl | rfl | rfl <;> decide +kernel
theorem zhM {p : Nat -> Bool} : ∀ {l : List Nat},(∀ c ∈ l,p c = true) -> l.takeWhile p = l
  | [],_=>rfl
  | c :: l,h=>by rw [List.takeWhile_cons,if_pos (h c (List.mem_cons_self ..)),zhM fun d hd=>h d (List.mem_cons_of_mem _ hd)]
theorem zit (n : Nat) : zcf n ≠ Str.ofString "":=fun e=>by
  have:=zcT n
  rw [e] at this
  exact TL.numL_ne n this.symm
theorem zlz {n m : Nat} (e : zcf n = zcf m) : n = m:=by
  have h:=congrArg tl e
  rw [zcT,zcT] at h
  exact TL.numL_inj h
theorem zlc {n : Nat} (h : n < 10 ^ 40) : (zcf n).length <= 40:=by
  rw [TL.len_tl,zcT]
  exact TL.numL_len (by decide) h
theorem len_str {a : Str} {h : Hs} (e : a.length <= 1000000) : zd5 [.str a] h = .ok (.int a.length) h:=by
  show (if a.length <= big then R.ok (D.int a.length) h else .bad) = _
  rw [if_pos (Nat.le_trans e (by decide))]
theorem int_ok {n : Nat} {h : Hs} (e : (zcf n).length <= 40) : zin [.str (zcf n)] h = .ok (.int n) h:=by
  have e2 : intText? (zcf n) = some (n : Int):=TL.int_num (by
    have:=e
    rw [TL.len_tl,zcT] at this
    omega)
  show (match intText? (zcf n) with
    | some n'=>if Nat.ble (zcf n).length 640 = true then R.ok (D.int n') h else .bad
    | none=>.bad) = _
  rw [e2]
  dsimp only
  rw [if_pos (Nat.ble_eq_true_of_le (Nat.le_trans e (by decide)))]
theorem zgW {a : Str} {c : Nat} {r : List Nat} {h : Hs} (e : tl a = c :: r) (hl : a.length <= 1000000) : ixD (.str a) (.int 0) h = .ok (.str ⟨#[c]⟩) h := by
  show (if a.length <= big then match atI a.cps.toList 0 with
      | some c => R.ok (D.str ⟨#[c]⟩) h
      | none => .bad
      else .bad) = _
  rw [if_pos (Nat.le_trans hl (by decide)), show a.cps.toList = c :: r from e]
  have : atI (c :: r) 0 = some c := by
    unfold atI ixN
    simp
  rw [this]
end Ev
namespace Ev
open PySem L2
open TL (tl numL)
theorem zi8 (s : String) (l : List Nat) (h : (Str.ofString s).cps.toList = l:=by decide +kernel) : tl (Str.ofString s) = l:=h
theorem zmg {n : Nat} : ∀ {ps : List Str},(∀ p ∈ ps,Sh p n) -> (ps.map fun y : Str=>y.length).sum <= ps.length * n
  | [],_=>by simp
  | p :: ps,h=>by
    have h1:=(h p (List.mem_cons_self ..)).len
    have h2:=zmg fun q hq=>h q (List.mem_cons_of_mem _ hq)
    rw [List.map_cons,List.sum_cons,List.length_cons,Nat.succ_mul]
    omega
theorem zek {y : Str} {n m : Nat} (hy : Sh y m) : ∀ {ps : List Str},(∀ p ∈ ps,Sh p n) -> Sh (Str.join y ps) (ps.length * (n + m))
  | [],_=>⟨by show (0 : Nat) <= _; omega,by show PyData.strOk Str.empty = true; decide +kernel⟩
  | [p],h=>(h p (List.mem_cons_self ..)).mono (by rw [List.length_cons,List.length_nil]; omega)
  | p :: q :: r,h=>by
    have h1:=h p (List.mem_cons_self ..)
    have h2:=zek hy (ps:=q :: r) fun x hx=>h x (List.mem_cons_of_mem _ hx)
    exact Sh.mono (Sh.app (Sh.app h1 hy) h2) (by
      rw [List.length_cons (as:=q :: r),Nat.succ_mul]
      omega)
theorem zlh (y : Str) (ps : List Str) : Txt.join y ps = Str.join y ps:=StrLaws.glued_eq_join y ps
theorem ze0 : ∀ ys : List Str,strsOf (ys.map D.str) = some ys
  | []=>rfl
  | y :: ys=>by rw [List.map_cons,strsOf,ze0 ys]; rfl
theorem ziJ {y : Str} {n m : Nat} {ps : List Str} {h : Hs} (hy : Sh y m) (hp : ∀ p ∈ ps,Sh p n) (hl : ps.length * (n + m) <= 16777216) : zd3 (.str y) [.lst (ps.map D.str)] h = .ok (.str (Str.join y ps)) h:=by
  refine zjR ?_ (zek hy hp).ok (ze0 ps)
  have h1:=zmg hp
  have h2:=Nat.mul_le_mul_left ps.length hy.len
  rw [Nat.mul_add] at hl
  omega
def Wr.ps (w : Wr) : List Str:=zcf w.who :: zcf w.len :: if w.mode = .plain then [] else [w.mode.s]
def Wr.t (w : Wr) : Str:=Str.join (Str.ofString " ") w.ps
def cvT (ws : List Wr) : Str:=Str.join (Str.ofString "; ") (ws.map Wr.t)
theorem zmY (x : Mode) : Sh x.s 5:=by cases x <;> exact ⟨by decide +kernel,by decide +kernel⟩
section
variable {w : Wr} {h : Hs}
theorem Wr.Ok.bw (o : w.Ok) : w.who.natAbs < 1180591620717411303424:=by have:=o.who; omega
theorem Wr.Ok.bl (o : w.Ok) : w.len.natAbs < 1180591620717411303424:=by have:=o.l1; have:=o.l2; omega
theorem Wr.Ok.nw (o : w.Ok) : ∃ n : Nat,w.who = n /\ n <= 1:=⟨w.who.toNat,by have:=o.who; omega,by have:=o.who; omega⟩
theorem Wr.Ok.nl (o : w.Ok) : ∃ n : Nat,w.len = n /\ n <= 1000000000000000000:=⟨w.len.toNat,by have:=o.l1; omega,by have:=o.l2; omega⟩
theorem zcB {n s : Nat} (hs : s < 48 \/ 57 < s) : s ∉ tl (zcf n):=by rw [zcT]; exact TL.numL_free hs
theorem zhu {x : Mode} : 32 ∉ tl x.s /\ 59 ∉ tl x.s:=by cases x <;> decide +kernel
theorem Wr.Ok.sh_ps (o : w.Ok) : ∀ p ∈ w.ps,Sh p 71 /\ 32 ∉ tl p:=by
  obtain ⟨n,e1,_⟩:=o.nw
  obtain ⟨m,e2,_⟩:=o.nl
  intro p hp
  unfold Wr.ps at hp
  rcases List.mem_cons.mp hp with rfl | hp
  · exact ⟨zd9 o.bw,by rw [e1]; exact zcB (by omega)⟩
  rcases List.mem_cons.mp hp with rfl | hp
  · exact ⟨zd9 o.bl,by rw [e2]; exact zcB (by omega)⟩
  split at hp
  · exact absurd hp (by simp)
  · rcases List.mem_singleton.mp hp with rfl
    exact ⟨(zmY _).mono (by decide),zhu.1⟩
theorem Wr.ps_len : w.ps.length <= 3:=by
  unfold Wr.ps
  split <;> simp
theorem Wr.Ok.sh_t (o : w.Ok) : Sh w.t 216:=Sh.mono (zek (Sh.lit " " 1) fun p hp=>(o.sh_ps p hp).1) (by have:=Wr.ps_len (w:=w); omega)
theorem Wr.t_eq : w.t = zcf w.who ++ Str.ofString " " ++ zcf w.len ++ (if w.mode = .plain then Str.ofString "" else Str.ofString " " ++ w.mode.s):=by
  unfold Wr.t Wr.ps
  split
  · show zcf w.who ++ Str.ofString " " ++ zcf w.len = _
    rw [show Str.ofString "" = Str.empty by decide +kernel,Str.append_empty]
  · show zcf w.who ++ Str.ofString " " ++ (zcf w.len ++ Str.ofString " " ++ w.mode.s) = _
    simp only [Str.append_assoc]
theorem Wr.Ok.free59 (o : w.Ok) : 59 ∉ tl w.t:=by
  obtain ⟨n,e1,_⟩:=o.nw
  obtain ⟨m,e2,_⟩:=o.nl
  have f1 : 59 ∉ tl (zcf n):=zcB (by omega)
  have f2 : 59 ∉ tl (zcf m):=zcB (by omega)
  have f3 : 59 ∉ tl (Str.ofString " "):=by decide +kernel
  have f4:=(zhu (x:=w.mode)).2
  have f5 : 59 ∉ tl (Str.ofString ""):=by decide +kernel
  rw [Wr.t_eq,e1,e2]
  simp only [TL.tl_append,List.mem_append,not_or]
  refine ⟨⟨⟨f1,f3⟩,f2⟩,?_⟩
  split
  · exact f5
  · rw [TL.tl_append,List.mem_append,not_or]
    exact ⟨f3,f4⟩
end
end Ev
namespace Ev
open PySem L2
open TL (tl numL)
theorem zis {s : Str} {x y : D} {h : Hs} (e : rdL h x = rdL h y) : zd3 (.str s) [x] h = zd3 (.str s) [y] h:=by
  unfold zd3
  dsimp only
  rw [e]
theorem zjA {α : Type} {env : En} {h h1 : Hs} {fi : En -> Hs -> R Src} {k : D -> En -> Option En} {fe : En -> Hs -> R D} {own : List Nat} {ls : List α} {f g : α -> D} (e : fi env h = .ok (ls.map f, []) h1)
    (hx : ∀ a ∈ ls, ∃ e1, k (f a) (zbD env own) = some e1 /\ ∀ h, fe e1 h = .ok (g a) h) (hl : ls.length <= big) : zfL fi k zfO fe own env h = .ok (.ref h1.length) (h1 ++ [.lst (ls.map g)]) := by
  unfold zfL
  rw [e]
  simp only [R.bind_ok]
  rw [zgJ (ys := ls.map g) (by simp) (fun i x y h1 h2 => by
    rw [List.getElem?_map] at h1 h2
    cases ha : ls[i]? with
    | none => rw [ha] at h1; cases h1
    | some a =>
      rw [ha] at h1 h2
      cases h1
      cases h2
      exact hx a (List.mem_of_getElem? ha)) (by simpa using hl)]
  simp
section
variable {ws : List Wr} {h : Hs}
theorem zmL (ok : ∀ w ∈ ws,w.Ok) : ∀ p ∈ ws.map Wr.t,Sh p 216 /\ 59 ∉ tl p:=fun p hp=>by
  obtain ⟨w,hw,rfl⟩:=List.mem_map.mp hp
  exact ⟨(ok w hw).sh_t,(ok w hw).free59⟩
end
end Ev
namespace Ev
open PySem L2
open TL (tl numL)
section
variable {p : Po} {s : Se} {h : Hs}
theorem zkS {env : En} {h h0 : Hs} {x : Hold} {i j : Int} {fd : En -> Hs -> R DD2} (h1 : 0 <= i) (h2 : i <= 9) (h3 : 0 <= j) (h4 : j <= 4) (e : fd env h0 = .ok ([.str x.s],[.int i,.int j]) h) : zeW 0 (kwF 2 2 zaD zaR) fd env h0 = .ok (Po.o ⟨x,i,j⟩) h:=by
  refine zgP (n':=0) (fs:=[.str x.s,.int i,.int j]) e ?_ (by simp [D.nrs,D.nr])
  simp [dS,zgr,zf5 h1 h2 h3 h4]
theorem Po.Ok.ne (o : p.Ok) : ∃ n : Nat,p.every = n /\ n <= 9:=⟨p.every.toNat,by have:=o.e0; omega,by have:=o.e0; have:=o.e9; omega⟩
theorem Po.Ok.nq (o : p.Ok) : ∃ n : Nat,p.quick = n /\ n <= 4:=⟨p.quick.toNat,by have:=o.q0; omega,by have:=o.q0; have:=o.q4; omega⟩
theorem Se.Ok.ns (o : s.Ok) : ∃ n : Nat,s.size = n /\ 1 <= n /\ n <= 1000000000000000000:=⟨s.size.toNat,by have:=o.z1; omega,by have:=o.z1; omega,by have:=o.z1; have:=o.z2; omega⟩
theorem zhs {x : Hold} : 32 ∉ tl x.s /\ 59 ∉ tl x.s:=by cases x <;> decide +kernel
theorem zhE : zc1 p = Str.join (Str.ofString " ") [p.hold.s,zcf p.every,zcf p.quick]:=rfl
theorem zkB : zjE s = Str.join (Str.ofString "; ") [zcf s.size,zc1 s.p0,zc1 s.p1]:=by
  show _ = zcf s.size ++ Str.ofString "; " ++ (zc1 s.p0 ++ Str.ofString "; " ++ zc1 s.p1)
  simp only [zjE,Str.append_assoc]
theorem ziV (o : p.Ok) : 59 ∉ tl (zc1 p):=by
  obtain ⟨n,e1,_⟩:=o.ne
  obtain ⟨m,e2,_⟩:=o.nq
  have f1 : 59 ∉ tl (zcf n):=zcB (by omega)
  have f2 : 59 ∉ tl (zcf m):=zcB (by omega)
  have f3 : 59 ∉ tl (Str.ofString " "):=by decide +kernel
  have f4:=(zhs (x:=p.hold)).2
  unfold zc1
  rw [e1,e2]
  simp only [TL.tl_append,List.mem_append,not_or]
  exact ⟨⟨f4,f3⟩,⟨f1,f3⟩,f2⟩
end
end Ev
namespace Ev
open PySem L2
open TL (tl numL)
theorem zoC : numL 0 = [48]:=TL.numL_lt (by decide)
theorem zky : ∀ (k : Nat) (l : List Nat), l.length <= k -> l ≠ [] -> (∀ c ∈ l, 48 <= c /\ c <= 57) -> (l.head? ≠ some 48 \/ l = [48]) -> ∃ n, l = numL n
  | 0, l, hk, hne, _, _ => absurd (List.length_eq_zero_iff.mp (by omega)) hne
  | k + 1, l, hk, hne, hd, hh => by
    obtain ⟨l', c, rfl⟩ : ∃ l' c, l = l' ++ [c] := ⟨l.dropLast, l.getLast hne, (List.dropLast_concat_getLast hne).symm⟩
    have hc := hd c (by simp)
    by_cases e : l' = []
    · subst e
      exact ⟨c - 48, by rw [TL.numL_lt (by omega), show 48 + (c - 48) = c by omega]; rfl⟩
    · have hh' : l'.head? ≠ some 48 := by
        cases l' with
        | nil => exact absurd rfl e
        | cons a t =>
          rcases hh with h | h
          · simpa using h
          · simp at h
      obtain ⟨m, em⟩ := zky k l' (by rw [List.length_append, List.length_singleton] at hk; omega) e (fun d hd' => hd d (by simp [hd'])) (.inl hh')
      have hm : m ≠ 0 := fun z => hh' (by rw [em, z, zoC]; rfl)
      refine ⟨10 * m + (c - 48), ?_⟩
      rw [TL.numL_step (by omega), show (10 * m + (c - 48)) / 10 = m by omega, show 48 + (10 * m + (c - 48)) % 10 = c by omega, em]
theorem zfT : ∀ (k : Nat) {n : Nat},(numL n).length <= k -> n < 10 ^ k
  | 0,n,h=>absurd (List.length_eq_zero_iff.mp (by omega)) (TL.numL_ne n)
  | k + 1,n,h=>by
    have hp : 0 < 10 ^ k:=Nat.pow_pos (by decide)
    rw [Nat.pow_succ]
    by_cases z : n < 10
    · omega
    · rw [TL.numL_step (by omega),List.length_append,List.length_singleton] at h
      have:=zfT k (n:=n / 10) (by omega)
      omega
structure Lo (n : Nat) : Prop where
  lt : n < 10 ^ 40
open Classical in
def numOf (w : Str) : Option Nat:=if h : ∃ n : Nat,Lo n /\ w = zcf n then some h.choose else none
theorem zjm {n : Nat} (h : Lo n) : numOf (zcf n) = some n:=by
  have q : ∃ m : Nat,Lo m /\ zcf n = zcf m:=⟨n,h,rfl⟩
  unfold numOf
  rw [dif_pos q]
  exact congrArg some (zlz q.choose_spec.2).symm
theorem zc6 {w : Str} {n : Nat} (h : numOf w = some n) : Lo n /\ w = zcf n:=by
  unfold numOf at h
  split at h
  · rename_i q
    cases h
    exact q.choose_spec
  · cases h
theorem zgw {w : Str} (h : numOf w = none) (h1 : w ≠ Str.ofString "") (h2 : w.length <= 40) (h3 : ∀ c ∈ tl w,48 <= c /\ c <= 57) : ∃ r,tl w = 48 :: r /\ r ≠ []:=by
  have hn : ¬ ∃ n : Nat,Lo n /\ w = zcf n:=by
    intro q
    unfold numOf at h
    rw [dif_pos q] at h
    cases h
  have hne : tl w ≠ []:=fun e=>h1 (TL.ext_tl (e.trans (by decide +kernel)))
  refine Classical.byContradiction fun hr=>hn ?_
  obtain ⟨n,en⟩:=zky (tl w).length (tl w) (Nat.le_refl _) hne h3 (by
    cases e : tl w with
    | nil=>exact absurd e hne
    | cons a t =>
      by_cases ha : a = 48
      · subst ha
        by_cases ht : t = []
        · subst ht; exact .inr rfl
        · exact absurd ⟨t,e,ht⟩ hr
      · exact .inl (by simpa using ha))
  rw [TL.len_tl,en] at h2
  exact ⟨n,⟨zfT 40 h2⟩,TL.ext_tl (by rw [en,zcT])⟩
def inN (w : Str) (lo hi : Int) : Bool:=match numOf w with
  | some n=>decide (lo <= (n : Int) /\ (n : Int) <= hi)
  | none=>false
def rdN (w : Str) (lo hi : Int) : D:=match numOf w with
  | some n=>if lo <= (n : Int) /\ (n : Int) <= hi then .int n else .non
  | none=>.non
theorem zg5 {p : Nat -> Bool} : ∀ {l : List Nat},(∃ c ∈ l,p c = false) -> (l.takeWhile p).length < l.length
  | [],h=>by obtain ⟨c,hc,_⟩:=h; cases hc
  | a :: l,h=>by
    rw [List.takeWhile_cons]
    split
    · rename_i ha
      obtain ⟨c,hc,e⟩:=h
      rcases List.mem_cons.mp hc with rfl | hc
      · rw [ha] at e; cases e
      · have:=zg5 ⟨c,hc,e⟩
        rw [List.length_cons,List.length_cons]
        omega
    · rw [List.length_cons,List.length_nil]; omega
theorem zhv {p : Nat -> Bool} {c : Nat} : ∀ {l : List Nat},c ∈ l.takeWhile p -> p c = true
  | [],h=>by cases h
  | a :: l,h=>by
    rw [List.takeWhile_cons] at h
    split at h
    · rcases List.mem_cons.mp h with rfl | h
      · assumption
      · exact zhv h
    · cases h
theorem zju {c : Nat} : (Str.ofString "0123456789").cps.contains c = true ↔ 48 <= c /\ c <= 57:=by
  refine ⟨fun h=>?_,zi6⟩
  have e : (Str.ofString "0123456789").cps = #[48,49,50,51,52,53,54,55,56,57]:=by decide +kernel
  rw [e] at h
  simp at h
  omega
theorem strip_eq (w y : Str) : tl (Txt.stripChars w y) = ((tl w).drop (stripLo y.cps.contains true w)).take (stripHi y.cps.contains true w (stripLo y.cps.contains true w) - stripLo y.cps.contains true w):=by
  unfold Txt.stripChars
  rw [PyProof.Rows.stripBy_eq,TL.tl_strSub]
theorem zhL {w : Str} (h : ∀ c ∈ tl w,48 <= c /\ c <= 57) : Txt.stripChars w (Str.ofString "0123456789") = Str.ofString "":=by
  refine TL.ext_tl ?_
  rw [strip_eq]
  have e1 : stripLo (Str.ofString "0123456789").cps.contains true w = (tl w).length:=by
    unfold stripLo
    rw [if_pos rfl,show w.cps.toList = tl w from rfl,zhM fun c hc=>zi6 (h c hc)]
  rw [e1,List.drop_length,List.take_nil]
  decide +kernel
theorem zjC {w : Str} (h : ∃ c ∈ tl w,¬ (48 <= c /\ c <= 57)) : Txt.stripChars w (Str.ofString "0123456789") ≠ Str.ofString "":=by
  obtain ⟨c,hc,hn⟩:=h
  have hp : (Str.ofString "0123456789").cps.contains c = false:=by
    cases e : (Str.ofString "0123456789").cps.contains c with
    | false=>rfl
    | true=>exact absurd (zju.mp e) hn
  intro e
  have e:=congrArg tl e
  rw [strip_eq] at e
  generalize (Str.ofString "0123456789").cps.contains = p at hp e
  have e1 : stripLo p true w = ((tl w).takeWhile p).length:=by unfold stripLo; rw [if_pos rfl]
  have l1:=zg5 ⟨c,hc,hp⟩
  have hd : (tl w).drop ((tl w).takeWhile p).length = (tl w).dropWhile p:=by
    have:=List.takeWhile_append_dropWhile (p:=p) (l:=tl w)
    conv=>lhs; rw [<- this]
    rw [this]
    conv=>lhs; arg 2; rw [<- this]
    rw [List.drop_left]
  have hm : c ∈ (tl w).dropWhile p:=by
    have:=List.takeWhile_append_dropWhile (p:=p) (l:=tl w)
    rw [<- this] at hc
    rcases List.mem_append.mp hc with z | z
    · have:=zhv z
      rw [hp] at this; cases this
    · exact z
  rw [e1,hd] at e
  have e2 : stripHi p true w ((tl w).takeWhile p).length = (tl w).length - (((tl w).dropWhile p).reverse.takeWhile p).length:=by
    unfold stripHi
    rw [if_pos rfl,show w.cps.toList = tl w from rfl,hd,TL.len_tl]
  rw [e2] at e
  have l2:=zg5 (p:=p) (l:=((tl w).dropWhile p).reverse) ⟨c,List.mem_reverse.mpr hm,hp⟩
  rw [List.length_reverse] at l2
  have l3 : ((tl w).dropWhile p).length = (tl w).length - ((tl w).takeWhile p).length:=by rw [<- hd,List.length_drop]
  have l4:=congrArg List.length e
  rw [List.length_take,show tl (Str.ofString "") = [] by decide +kernel,List.length_nil] at l4
  omega
theorem zh9 {w y : Str} (h : PyData.strOk w = true) : PyData.strOk (Txt.stripChars w y) = true:=zc3.mpr fun c hc=>by
  have hc : c ∈ tl (Txt.stripChars w y):=hc
  rw [strip_eq] at hc
  exact zc3.mp h c (List.mem_of_mem_drop (List.mem_of_mem_take hc))
theorem zf3 {w : Str} {k : Nat} {h : Hs} (hw : Sh w k) (hk : k <= 1000000) : zf4 (.str w) [.str (Str.ofString "0123456789")] h = .ok (.str (Txt.stripChars w (Str.ofString "0123456789"))) h:=by
  show (if (Nat.ble w.length 16777216 && PyData.strOk (Txt.stripChars w (Str.ofString "0123456789"))) = true then R.ok (D.str (Txt.stripChars w (Str.ofString "0123456789"))) h else .bad) = _
  have:=hw.len
  rw [zh9 hw.ok,Nat.ble_eq_true_of_le (by omega)]
  rfl
theorem zex {c : Nat} : (⟨#[c]⟩ : Str) = Str.ofString "0" ↔ c = 48:=by
  have h0 : (Str.ofString "0").cps.toList = [48]:=by decide +kernel
  refine ⟨fun e=>?_,fun e=>by subst e; decide +kernel⟩
  have:=congrArg (fun s : Str=>s.cps.toList) e
  rw [h0] at this
  simpa using this
theorem ze5 {w : Str} {lo hi : Int} (h : ∀ n : Nat,Lo n -> w ≠ zcf n) : rdN w lo hi = .non /\ inN w lo hi = false:=by
  have : numOf w = none:=by
    cases e : numOf w with
    | none=>rfl
    | some n=>exact absurd (zc6 e).2 (h n (zc6 e).1)
  unfold rdN inN
  rw [this]
  exact ⟨rfl,rfl⟩
theorem zhV : ∀ n : Nat,Lo n -> Str.ofString "" ≠ zcf n:=fun n _ e=>zit n e.symm
theorem zi7 {w : Str} (h : 40 < w.length) : ∀ n : Nat,Lo n -> w ≠ zcf n:=fun n b e=>by
  have:=zlc b.lt
  rw [<- e] at this
  clear b
  omega
theorem zkE {w : Str} (h : ∃ c ∈ tl w,¬ (48 <= c /\ c <= 57)) : ∀ n : Nat,Lo n -> w ≠ zcf n:=fun n _ e=>by
  obtain ⟨c,hc,hn⟩:=h
  rw [e,zcT] at hc
  exact absurd (TL.numL_digits n c hc) hn
theorem zff {w : Str} {k : Nat} {h : Hs} (hw : Sh w k) (hk : k <= 1000000) : zd5 [.str w] h = .ok (.int w.length) h:=len_str (Nat.le_trans hw.len hk)
theorem zlD {lo hi : Int} {h : Hs} : zay [.str (Str.ofString ""),.int lo,.int hi] h = .ok .non h:=by
  refine zar ?_
  simp [zaJ]
theorem zne {w : Str} {k : Nat} {lo hi : Int} {h : Hs} (hw : Sh w k) (hk : k <= 1000000) (c1 : w ≠ Str.ofString "") (c2 : 40 < w.length) : zay [.str w,.int lo,.int hi] h = .ok .non h:=by
  refine zar ?_
  have e2:=fun h=>zff (h:=h) hw hk
  have c2' : (40 : Int) < (w.length : Int):=by omega
  simp [zaJ,c1,e2,c2']
theorem zoY {w : Str} {k : Nat} {lo hi : Int} {h : Hs} (hw : Sh w k) (hk : k <= 1000000) (c1 : w ≠ Str.ofString "") (c2 : w.length <= 40) (c3 : ∃ c ∈ tl w,¬ (48 <= c /\ c <= 57)) : zay [.str w,.int lo,.int hi] h = .ok .non h:=by
  refine zar ?_
  have e2:=fun h=>zff (h:=h) hw hk
  have c2' : ¬ (40 : Int) < (w.length : Int):=by omega
  have e3 : ∀ h,zf4 (.str w) [.str (Str.ofString "0123456789")] h = .ok (.str (Txt.stripChars w (Str.ofString "0123456789"))) h:=fun h=>zf3 hw hk
  have c3':=zjC c3
  generalize Txt.stripChars w (Str.ofString "0123456789") = z at e3 c3'
  simp [zaJ,c1,e2,e3,c2',c3',zc7]
theorem zmp {w : Str} {k : Nat} {lo hi : Int} {h : Hs} (hw : Sh w k) (hk : k <= 1000000) (c1 : w ≠ Str.ofString "") (c2 : w.length <= 40) (c3 : ∀ c ∈ tl w,48 <= c /\ c <= 57) {r : List Nat} (er : tl w = 48 :: r) (hr : r ≠ []) : zay [.str w,.int lo,.int hi] h = .ok .non h:=by
  refine zar ?_
  have e2:=fun h=>zff (h:=h) hw hk
  have c2' : ¬ (40 : Int) < (w.length : Int):=by omega
  have e3 : ∀ h,zf4 (.str w) [.str (Str.ofString "0123456789")] h = .ok (.str (Str.ofString "")) h:=fun h=>by rw [zf3 hw hk,zhL c3]
  have e5 : ∀ h,ixD (.str w) (.int 0) h = .ok (.str ⟨#[48]⟩) h:=fun h=>zgW er (Nat.le_trans hw.len hk)
  have q5 : (⟨#[48]⟩ : Str) = Str.ofString "0":=zex.mpr rfl
  have q6 : ¬ w = Str.ofString "0":=fun z=>hr (by
    have z:=congrArg tl z
    rw [er,show tl (Str.ofString "0") = [48] by decide +kernel] at z
    exact (List.cons.inj z).2)
  rw [q5] at e5
  simp [zaJ,c1,e2,e3,e5,c2',q6,zc7]
theorem zpe {n : Nat} {w : Str} {k : Nat} {lo hi : Int} {h : Hs} (hw : Sh w k) (hk : k <= 1000000) (ew : w = zcf n) (c2 : w.length <= 40) (c3 : ∀ c ∈ tl w,48 <= c /\ c <= 57) : zay [.str w,.int lo,.int hi] h = .ok (if lo <= (n : Int) /\ (n : Int) <= hi then .int n else .non) h:=by
  refine zar ?_
  have c1 : w ≠ Str.ofString "":=fun z=>zit n (ew.symm.trans z)
  have e2:=fun h=>zff (h:=h) hw hk
  have c2' : ¬ (40 : Int) < (w.length : Int):=by omega
  have e3 : ∀ h,zf4 (.str w) [.str (Str.ofString "0123456789")] h = .ok (.str (Str.ofString "")) h:=fun h=>by rw [zf3 hw hk,zhL c3]
  have e4 : ∀ h,zin [.str w] h = .ok (.int n) h:=fun h=>by rw [ew]; exact int_ok (by rw [<- ew]; exact c2)
  have hne : tl w ≠ []:=fun e=>c1 (TL.ext_tl (e.trans (by decide +kernel)))
  obtain ⟨c,r,ec⟩ : ∃ c r,tl w = c :: r:=by
    cases e : tl w with
    | nil=>exact absurd e hne
    | cons c r=>exact ⟨c,r,rfl⟩
  have e5 : ∀ h,ixD (.str w) (.int 0) h = .ok (.str ⟨#[c]⟩) h:=fun h=>zgW ec (Nat.le_trans hw.len hk)
  have e7 : (⟨#[c]⟩ : Str) = Str.ofString "0" -> w = Str.ofString "0":=fun z=>by
    have hc:=zex.mp z
    rw [ew,zcT] at ec
    have:=zhm ec hc
    subst this
    rw [ew]
    decide +kernel
  clear ew hw c3 c2 hne ec
  have hb : (decide ((⟨#[c]⟩ : Str) = Str.ofString "0") && !decide (w = Str.ofString "0")) = false:=by
    by_cases hz : (⟨#[c]⟩ : Str) = Str.ofString "0"
    · simp [hz,e7 hz]
    · simp [hz]
  generalize (⟨#[c]⟩ : Str) = z at e5 e7 hb
  by_cases hz : z = Str.ofString "0"
  · have hn:=e7 hz
    by_cases r1 : lo <= (n : Int)
    · by_cases r2 : (n : Int) <= hi
      · simp only [zaJ]
        rw [if_pos ⟨r1,r2⟩]
        rw [hn] at c1 c2' e2 e3 e4 e5 ⊢
        simp [c1,e2,e3,e4,e5,c2',hz,r1,r2,zc7]
      · simp only [zaJ]
        rw [if_neg (fun q=>r2 q.2)]
        rw [hn] at c1 c2' e2 e3 e4 e5 ⊢
        simp [c1,e2,e3,e4,e5,c2',hz,r1,r2,zc7]
    · simp only [zaJ]
      rw [if_neg (fun q=>r1 q.1)]
      rw [hn] at c1 c2' e2 e3 e4 e5 ⊢
      simp [c1,e2,e3,e4,e5,c2',hz,r1,zc7]
  · by_cases r1 : lo <= (n : Int)
    · by_cases r2 : (n : Int) <= hi
      · simp [zaJ,c1,e2,e3,e4,e5,c2',hz,r1,r2,zc7]
      · simp [zaJ,c1,e2,e3,e4,e5,c2',hz,r1,r2,zc7]
    · simp [zaJ,c1,e2,e3,e4,e5,c2',hz,r1,zc7]
theorem zb5 {w : Str} {k : Nat} {lo hi : Int} {h : Hs} (hw : Sh w k) (hk : k <= 1000000) : zay [.str w,.int lo,.int hi] h = .ok (rdN w lo hi) h:=by
  by_cases c1 : w = Str.ofString ""
  · subst c1
    rw [(ze5 zhV).1]
    exact zlD
  by_cases c2 : 40 < w.length
  · rw [(ze5 (zi7 c2)).1]
    exact zne hw hk c1 c2
  have c2:=Nat.le_of_not_lt c2
  by_cases c3 : ∀ c ∈ tl w,48 <= c /\ c <= 57
  · cases e : numOf w with
    | none =>
      obtain ⟨r,q1,q2⟩:=zgw e c1 c2 c3
      have : rdN w lo hi = .non:=by unfold rdN; rw [e]
      rw [this]
      exact zmp hw hk c1 c2 c3 q1 q2
    | some n =>
      have : rdN w lo hi = if lo <= (n : Int) /\ (n : Int) <= hi then .int n else .non:=by unfold rdN; rw [e]
      rw [this]
      exact zpe hw hk (zc6 e).2 c2 c3
  · have c3 : ∃ c ∈ tl w,¬ (48 <= c /\ c <= 57):=Classical.byContradiction fun z=>c3 fun c hc=>Classical.byContradiction fun y=>z ⟨c,hc,y⟩
    rw [(ze5 (zkE c3)).1]
    exact zoY hw hk c1 c2 c3
theorem ziv {l : List Str} {h : Hs} : neD (.lst (l.map D.str)) (.lst []) h = .ok (.bl (!l.isEmpty)) h:=by
  have h1 : dat 20 h (.lst (l.map D.str)) = some (.list (l.map PyData.str)):=znA (zgs fun w _=>rfl)
  unfold neD
  rw [h1]
  cases l <;> rfl
theorem zlv {c : Nat} : decide (c ∈ (Str.ofString "0123456789").cps.toList) = decide (48 <= c /\ c <= 57):=by
  have:=@zju c
  rw [Array.contains_iff,<- Array.mem_toList_iff] at this
  simp only [this]
theorem zjV {w : Str} {k : Nat} {lo hi : Int} {h : Hs} (hw : Sh w k) (hk : k <= 1000000) : zcU (znG (zag 0)) (zaB 3) (za3 (zas zhq (zag 3) (eC (.str "0123456789")))) (zag 3) [3] [some (.str w),some (.int lo),some (.int hi),none] h = .ok (.lst ((((tl w).filter fun c=>!decide (48 <= c /\ c <= 57)).map fun c=>(⟨#[c]⟩ : Str)).map D.str)) h:=by
  have:=zjI (env:=[some (.str w),some (.int lo),some (.int hi),none]) (h:=h) (h1:=h) (fi:=znG (zag 0)) (k:=zaB 3) (tt:=za3 (zas zhq (zag 3) (eC (.str "0123456789")))) (fe:=zag 3) (own:=[3]) (ls:=tl w) (f:=fun c=>.str ⟨#[c]⟩) (g:=fun c=>.str ⟨#[c]⟩) (p:=fun c=>!decide (48 <= c /\ c <= 57)) (by simp [znl,tl]) (by
    intro c hc
    refine ⟨_,rfl,fun h=>?_,fun _ h=>by simp [zbD]⟩
    have : zhq (.str ⟨#[c]⟩) (.str (Str.ofString "0123456789")) h = .ok (.bl (!decide (48 <= c /\ c <= 57))) h:=by
      unfold zhq
      dsimp only
      rw [PySem.StrLaws.found_one,zlv]
    generalize decide (48 <= c /\ c <= 57) = b at this ⊢
    simp [zbD,this]) (by rw [<- TL.len_tl]; exact Nat.le_trans hw.len (Nat.le_trans hk (by decide))) (by intro a _; rw [D.nr])
  rw [this,List.map_map]
  rfl
theorem zoc {w : Str} {k : Nat} {lo hi : Int} {h : Hs} (hw : Sh w k) (hk : k <= 1000000) (c1 : w ≠ Str.ofString "") (c2 : w.length <= 40) (c3 : ∃ c ∈ tl w,¬ (48 <= c /\ c <= 57)) : za4 [.str w,.int lo,.int hi] h = .ok (.bl false) h:=by
  refine zar ?_
  have e2:=fun h=>zff (h:=h) hw hk
  have c2' : ¬ (40 : Int) < (w.length : Int):=by omega
  have cc:=fun h=>zjV (lo:=lo) (hi:=hi) (h:=h) hw hk
  have n1:=fun h=>ziv (h:=h) (l:=((tl w).filter fun c=>!decide (48 <= c /\ c <= 57)).map fun c=>(⟨#[c]⟩ : Str))
  have n2 : (((tl w).filter fun c=>!decide (48 <= c /\ c <= 57)).map fun c=>(⟨#[c]⟩ : Str)).isEmpty = false:=by
    obtain ⟨c,hc,hn⟩:=c3
    cases e : ((tl w).filter fun c=>!decide (48 <= c /\ c <= 57)) with
    | nil =>
      have:=List.filter_eq_nil_iff.mp e c hc
      simp [hn] at this
    | cons a t=>rfl
  rw [n2] at n1
  generalize (((tl w).filter fun c=>!decide (48 <= c /\ c <= 57)).map fun c=>(⟨#[c]⟩ : Str)).map D.str = xs at cc n1
  simp [zbA,c1,e2,cc,n1,c2']
theorem zl2 {w : Str} {k : Nat} {lo hi : Int} {h : Hs} (hw : Sh w k) (hk : k <= 1000000) (c3 : ∀ c ∈ tl w,48 <= c /\ c <= 57) : zcU (znG (zag 0)) (zaB 3) (za3 (zas zhq (zag 3) (eC (.str "0123456789")))) (zag 3) [3] [some (.str w),some (.int lo),some (.int hi),none] h = .ok (.lst []) h:=by
  rw [zjV hw hk,show ((tl w).filter fun c=>!decide (48 <= c /\ c <= 57)) = [] from List.filter_eq_nil_iff.mpr fun c hc=>by simp [c3 c hc]]
  rfl
theorem zmv {w : Str} {k : Nat} {lo hi : Int} {h : Hs} (hw : Sh w k) (hk : k <= 1000000) (c1 : w ≠ Str.ofString "") (c2 : w.length <= 40) (c3 : ∀ c ∈ tl w,48 <= c /\ c <= 57) {r : List Nat} (er : tl w = 48 :: r) (hr : r ≠ []) : za4 [.str w,.int lo,.int hi] h = .ok (.bl false) h:=by
  refine zar ?_
  have e2:=fun h=>zff (h:=h) hw hk
  have c2' : ¬ (40 : Int) < (w.length : Int):=by omega
  have cc:=fun h=>zl2 (lo:=lo) (hi:=hi) (h:=h) hw hk c3
  have n0 : ∀ h,neD (.lst []) (.lst []) h = .ok (.bl false) h:=fun _=>rfl
  have e5 : ∀ h,ixD (.str w) (.int 0) h = .ok (.str ⟨#[48]⟩) h:=fun h=>zgW er (Nat.le_trans hw.len hk)
  have q5 : (⟨#[48]⟩ : Str) = Str.ofString "0":=zex.mpr rfl
  have q6 : ¬ w = Str.ofString "0":=fun z=>hr (by
    have z:=congrArg tl z
    rw [er,show tl (Str.ofString "0") = [48] by decide +kernel] at z
    exact (List.cons.inj z).2)
  rw [q5] at e5
  simp [zbA,c1,e2,cc,n0,e5,c2',q6]
theorem zph {n : Nat} {w : Str} {k : Nat} {lo hi : Int} {h : Hs} (hw : Sh w k) (hk : k <= 1000000) (ew : w = zcf n) (c2 : w.length <= 40) (c3 : ∀ c ∈ tl w,48 <= c /\ c <= 57) : za4 [.str w,.int lo,.int hi] h = .ok (.bl (decide (lo <= (n : Int) /\ (n : Int) <= hi))) h:=by
  refine zar ?_
  have c1 : w ≠ Str.ofString "":=fun z=>zit n (ew.symm.trans z)
  have e2:=fun h=>zff (h:=h) hw hk
  have c2' : ¬ (40 : Int) < (w.length : Int):=by omega
  have cc:=fun h=>zl2 (lo:=lo) (hi:=hi) (h:=h) hw hk c3
  have n0 : ∀ h,neD (.lst []) (.lst []) h = .ok (.bl false) h:=fun _=>rfl
  have e4 : ∀ h,zin [.str w] h = .ok (.int n) h:=fun h=>by rw [ew]; exact int_ok (by rw [<- ew]; exact c2)
  have hne : tl w ≠ []:=fun e=>c1 (TL.ext_tl (e.trans (by decide +kernel)))
  obtain ⟨c,r,ec⟩ : ∃ c r,tl w = c :: r:=by
    cases e : tl w with
    | nil=>exact absurd e hne
    | cons c r=>exact ⟨c,r,rfl⟩
  have e5 : ∀ h,ixD (.str w) (.int 0) h = .ok (.str ⟨#[c]⟩) h:=fun h=>zgW ec (Nat.le_trans hw.len hk)
  have e7 : (⟨#[c]⟩ : Str) = Str.ofString "0" -> w = Str.ofString "0":=fun z=>by
    have hc:=zex.mp z
    rw [ew,zcT] at ec
    have:=zhm ec hc
    subst this
    rw [ew]
    decide +kernel
  clear ew hw c3 c2 hne ec
  generalize (⟨#[c]⟩ : Str) = z at e5 e7
  rw [Bool.decide_and]
  by_cases hz : z = Str.ofString "0"
  · have hn:=e7 hz
    by_cases r1 : lo <= (n : Int)
    · simp only [zbA]
      rw [hn] at c1 c2' e2 e4 e5 cc ⊢
      simp [c1,e2,cc,n0,e4,e5,c2',hz,r1]
    · simp only [zbA]
      rw [hn] at c1 c2' e2 e4 e5 cc ⊢
      simp [c1,e2,cc,n0,e4,e5,c2',hz,r1]
  · by_cases r1 : lo <= (n : Int)
    · simp [zbA,c1,e2,cc,n0,e4,e5,c2',hz,r1]
    · simp [zbA,c1,e2,cc,n0,e4,e5,c2',hz,r1]
theorem law_number_any {w : Str} {k : Nat} {lo hi : Int} {h : Hs} (hw : Sh w k) (hk : k <= 1000000) : za4 [.str w,.int lo,.int hi] h = .ok (.bl (inN w lo hi)) h:=by
  by_cases c1 : w = Str.ofString ""
  · subst c1
    rw [(ze5 zhV).2]
    refine zar ?_
    simp [zbA]
  by_cases c2 : 40 < w.length
  · rw [(ze5 (zi7 c2)).2]
    refine zar ?_
    have e2:=fun h=>zff (h:=h) hw hk
    have c2' : (40 : Int) < (w.length : Int):=by omega
    simp [zbA,c1,e2,c2']
  have c2:=Nat.le_of_not_lt c2
  by_cases c3 : ∀ c ∈ tl w,48 <= c /\ c <= 57
  · cases e : numOf w with
    | none =>
      obtain ⟨r,q1,q2⟩:=zgw e c1 c2 c3
      have : inN w lo hi = false:=by unfold inN; rw [e]
      rw [this]
      exact zmv hw hk c1 c2 c3 q1 q2
    | some n =>
      have : inN w lo hi = decide (lo <= (n : Int) /\ (n : Int) <= hi):=by unfold inN; rw [e]
      rw [this]
      exact zph hw hk (zc6 e).2 c2 c3
  · have c3 : ∃ c ∈ tl w,¬ (48 <= c /\ c <= 57):=Classical.byContradiction fun z=>c3 fun c hc=>Classical.byContradiction fun y=>z ⟨c,hc,y⟩
    rw [(ze5 (zkE c3)).2]
    exact zoc hw hk c1 c2 c3
end Ev
namespace Ev
open PySem L2
open TL (tl numL)
theorem ziN (S : List Nat) : ∀ (l : List Nat) (k : Nat) (acc : List Nat),(∀ p ∈ TL.spl S k acc l,(∀ c ∈ p,c ∈ acc ++ l) /\ p.length <= acc.length + l.length) /\ (TL.spl S k acc l).length <= l.length + 1 /\ TL.spl S k acc l ≠ []
  | [],k,acc=>by
    rw [TL.spl_nil]
    refine ⟨fun p hp=>?_,by simp,by simp⟩
    rcases List.mem_singleton.mp hp with rfl
    simp
  | c :: r,0,acc=>by
    cases hp : TL.pre S (c :: r) with
    | true =>
      rw [TL.spl_hit hp]
      obtain ⟨a,b,d⟩:=ziN S r (S.length - 1) []
      refine ⟨fun p hp=>?_,by simp; omega,by simp⟩
      rcases List.mem_cons.mp hp with rfl | hp
      · exact ⟨fun c hc=>List.mem_append_left _ hc,by omega⟩
      · obtain ⟨x,y⟩:=a p hp
        refine ⟨fun d hd=>?_,by simp at y ⊢; omega⟩
        have:=x d hd
        simp at this ⊢
        exact .inr (.inr this)
    | false =>
      rw [TL.spl_miss hp]
      obtain ⟨a,b,d⟩:=ziN S r 0 (acc ++ [c])
      refine ⟨fun p hp=>?_,by simp; omega,d⟩
      obtain ⟨x,y⟩:=a p hp
      refine ⟨fun d hd=>?_,by simp at y ⊢; omega⟩
      have:=x d hd
      simp at this ⊢
      exact this
  | c :: r,k + 1,acc=>by
    show (∀ p ∈ TL.spl S k acc r,_) /\ (TL.spl S k acc r).length <= _ /\ TL.spl S k acc r ≠ []
    obtain ⟨a,b,d⟩:=ziN S r k acc
    refine ⟨fun p hp=>?_,by simp; omega,d⟩
    obtain ⟨x,y⟩:=a p hp
    refine ⟨fun d hd=>?_,by simp at y ⊢; omega⟩
    have:=x d hd
    simp at this ⊢
    rcases this with h | h
    · exact .inl h
    · exact .inr (.inr h)
structure Sep (y : Str) : Prop where
  ne : tl y ≠ []
  low : y.cps.all (· < 256) = true
theorem zc8 : Sep (Str.ofString " "):=⟨by decide +kernel,by decide +kernel⟩
theorem zcG : Sep (Str.ofString "; "):=⟨by decide +kernel,by decide +kernel⟩
theorem zbq {x y : Str} {k : Nat} (s : Sep y) (hx : Sh x k) : (∀ p ∈ Txt.split x y,Sh p k) /\ (Txt.split x y).length <= k + 1 /\ Txt.split x y ≠ []:=by
  have e:=TL.split_spl x y s.ne (TL.kind_ok s.low)
  obtain ⟨a,b,c⟩:=ziN (tl y) (tl x) 0 []
  rw [<- e] at a b c
  have hl:=hx.len
  rw [TL.len_tl] at hl
  refine ⟨fun p hp=>?_,by rw [List.length_map] at b; omega,fun z=>c (by rw [z]; rfl)⟩
  obtain ⟨q1,q2⟩:=a (tl p) (List.mem_map_of_mem hp)
  rw [List.length_nil,Nat.zero_add] at q2
  refine ⟨by rw [TL.len_tl]; omega,zc3.mpr fun c hc=>?_⟩
  have:=q1 c hc
  rw [List.nil_append] at this
  exact zc3.mp hx.ok c this
theorem zb7 {x y : Str} {k : Nat} {h : Hs} (s : Sep y) (hx : Sh x k) (hk : k <= 1000000) : zcs (.str x) [.str y] h = .ok (.lst ((Txt.split x y).map D.str)) h:=by
  show (if (!(y.length == 0) && Nat.ble (x.length + 2) 16777216 && (Txt.split x y).all PyData.strOk) = true then R.ok (D.lst ((Txt.split x y).map D.str)) h else .bad) = _
  have hy : (y.length == 0) = false:=by
    have h1:=s.ne
    rw [TL.len_tl]
    cases e : tl y with
    | nil=>exact absurd e h1
    | cons a t=>rfl
  have hl:=hx.len
  rw [hy,Nat.ble_eq_true_of_le (by omega),List.all_eq_true.mpr fun p hp=>((zbq s hx).1 p hp).ok]
  rfl
def zjB (c : Str) : Bool:=decide (c = Str.ofString "push" \/ c = Str.ofString "more")
def zcF : List Str -> Bool
  | [a,b]=>inN a 0 1 && inN b 1 1000000000000000000
  | [a,b,c]=>inN a 0 1 && inN b 1 1000000000000000000 && zjB c
  | _=>false
def zkP (x : Str) : Bool:=zcF (Txt.split x (Str.ofString " "))
def zb2 : List Str -> D
  | [a,b]=>match numOf a,numOf b with
    | some n,some m=>.tup [.int n,.int m,.str "plain"]
    | _,_=>.non
  | [a,b,c]=>match numOf a,numOf b with
    | some n,some m=>if zjB c = true then .tup [.int n,.int m,.str c] else .non
    | _,_=>.non
  | _=>.non
theorem zhF {n : Nat} {h : Hs} : zbQ (.int (n : Int)) (.tup [.int 2,.int 3]) h = .ok (.bl (!(decide (n = 2) || decide (n = 3)))) h:=by
  have e : zbQ (.int (n : Int)) (.tup [.int 2,.int 3]) h = .ok (.bl (!(decide ((2 : Int) = (n : Int)) || (decide ((3 : Int) = (n : Int)) || false)))) h:=rfl
  rw [e]
  have h1 : decide ((2 : Int) = (n : Int)) = decide (n = 2):=decide_eq_decide.mpr (by omega)
  have h2 : decide ((3 : Int) = (n : Int)) = decide (n = 3):=decide_eq_decide.mpr (by omega)
  rw [h1,h2,Bool.or_false]
theorem zki {c : Str} {h : Hs} : zbQ (.str c) (.tup [.str "push",.str "more"]) h = .ok (.bl (!zjB c)) h:=by
  have e : zbQ (.str c) (.tup [.str "push",.str "more"]) h = .ok (.bl (!(decide (Str.ofString "push" = c) || (decide (Str.ofString "more" = c) || false)))) h:=rfl
  rw [e]
  unfold zjB
  have h1 : decide (Str.ofString "push" = c) = decide (c = Str.ofString "push"):=decide_eq_decide.mpr eq_comm
  have h2 : decide (Str.ofString "more" = c) = decide (c = Str.ofString "more"):=decide_eq_decide.mpr eq_comm
  rw [h1,h2,Bool.or_false,Bool.decide_or]
theorem zjp {c : Str} {h : Hs} : inD (.str c) (.tup [.str "push",.str "more"]) h = .ok (.bl (zjB c)) h:=by
  have e : inD (.str c) (.tup [.str "push",.str "more"]) h = .ok (.bl (decide (Str.ofString "push" = c) || (decide (Str.ofString "more" = c) || false))) h:=rfl
  rw [e]
  unfold zjB
  have h1 : decide (Str.ofString "push" = c) = decide (c = Str.ofString "push"):=decide_eq_decide.mpr eq_comm
  have h2 : decide (Str.ofString "more" = c) = decide (c = Str.ofString "more"):=decide_eq_decide.mpr eq_comm
  rw [h1,h2,Bool.or_false,Bool.decide_or]
theorem zka {a : Str} : rdN a 0 10000000000000000000000000000000000000000 = match numOf a with
    | some n => .int n
    | none => .non := by
  unfold rdN
  cases e : numOf a with
  | none => rfl
  | some n =>
    dsimp only
    have hb : (n : Int) <= ((10000000000000000000000000000000000000000 : Nat) : Int) := Int.ofNat_le.mpr (Nat.le_of_lt (zc6 e).1.lt)
    rw [if_pos ⟨Int.natCast_nonneg n, hb⟩]
theorem zgl {ps : List Str} {k : Nat} {h : Hs} (hp : ∀ p ∈ ps, Sh p k) (hk : k <= 1000000) (hl : ps.length <= 1000000) : zbE [.lst (ps.map D.str)] h = .ok (zb2 ps) h := by
  refine zar ?_
  have c5 : cutD [D.str "plain", .str "push", .str "more"] (some 1) none = [.str "push", .str "more"] := rfl
  have c6 : ∀ i : Int, isN (.int i) = false := fun _ => rfl
  have c7 : isN .non = true := rfl
  have k2 : ∀ h', zbQ (.int 2) (.tup [.int 2, .int 3]) h' = .ok (.bl false) h' := fun _ => rfl
  have k3 : ∀ h', zbQ (.int 3) (.tup [.int 2, .int 3]) h' = .ok (.bl false) h' := fun _ => rfl
  have c8 := fun n h => zhF (n := n) (h := h)
  have c9 := fun c h => zki (c := c) (h := h)
  have cc : ∀ (a b : Str) (ys : List Str) (h' : Hs), ps = a :: b :: ys -> zcU (zf6 (eSl slD (zag 0) oNo (zeK (eC (.int 2))))) (zaB 4) zfO (zaq (za2 3 zay) (zbM (zac (zag 4) (zac (eC (.int 0)) (zac (eC (.int 10000000000000000000000000000000000000000)) zaw))))) [4] [some (.lst (ps.map D.str)), none, none, none, none] h' = .ok (.lst [rdN a 0 10000000000000000000000000000000000000000, rdN b 0 10000000000000000000000000000000000000000]) h' := fun a b ys h' e =>
    zgF (ls := [a, b]) (f := D.str) (g := fun w => rdN w 0 10000000000000000000000000000000000000000) (by
      have : cutD (ps.map D.str) none (some 2) = [.str a, .str b] := by
        rw [e]
        rfl
      simp [slD, this]) (by
      intro w hw
      refine ⟨_, rfl, fun h' => ?_⟩
      have hw : Sh w k := hp w (by
        rw [e]
        simp at hw
        rcases hw with rfl | rfl <;> simp)
      have r1 := fun h => zb5 (h := h) (lo := 0) (hi := 10000000000000000000000000000000000000000) hw hk
      simp [zbD, r1]) (by simp [big]) (by
      intro a _
      unfold rdN
      cases numOf a with
      | none => rfl
      | some n =>
        dsimp only
        split <;> rfl)
  have hlen : ∀ h', zd5 [.lst (ps.map D.str)] h' = .ok (.int ps.length) h' := fun h' => by simp
  by_cases z : ps.length = 2 \/ ps.length = 3
  · match ps, z with
    | [a, b], _ =>
      have cc := fun h' => cc a b [] h' rfl
      simp only [zka] at cc
      cases e1 : numOf a with
      | none =>
        rw [e1] at cc
        cases e2 : numOf b <;> rw [e2] at cc <;> simp at cc <;> simp [zbb, cc, c6, c7, zb2, e1, e2, k2, k3, big]
      | some n =>
        rw [e1] at cc
        cases e2 : numOf b <;> rw [e2] at cc <;> simp at cc <;> simp [zbb, cc, c6, c7, zb2, e1, e2, k2, k3, big]
    | [a, b, c], _ =>
      have cc := fun h' => cc a b [c] h' rfl
      simp only [zka] at cc
      cases e1 : numOf a with
      | none =>
        rw [e1] at cc
        cases e2 : numOf b <;> rw [e2] at cc <;> simp at cc <;> simp [zbb, cc, c6, c7, zb2, e1, e2, k2, k3, big]
      | some n =>
        rw [e1] at cc
        cases e2 : numOf b with
        | none => rw [e2] at cc; simp at cc; simp [zbb, cc, c6, c7, zb2, e1, e2, k2, k3, big]
        | some m =>
          rw [e2] at cc
          simp at cc
          by_cases hm : zjB c = true
          · simp [zbb, cc, c5, c6, c7, c9, slD, zb2, e1, e2, hm, k2, k3, big]
          · simp [zbb, cc, c5, c6, c7, c9, slD, zb2, e1, e2, hm, k2, k3, big]
  · have c10 : ∀ h', zbQ (.int (ps.length : Int)) (.tup [.int 2, .int 3]) h' = .ok (.bl true) h' := fun h' => by
      rw [c8]
      simp at z
      simp [z.1, z.2]
    have : zb2 ps = .non := by
      match ps, z with
      | [], _ => rfl
      | [_], _ => rfl
      | [_, _], z => exact absurd (.inl rfl) z
      | [_, _, _], z => exact absurd (.inr rfl) z
      | _ :: _ :: _ :: _ :: _, _ => rfl
    rw [this]
    show zbb [some (.lst (ps.map D.str)), none, none, none, none] h = _
    unfold zbb
    simp [hlen, c10, big]
end Ev
namespace Ev
open PySem L2
open TL (tl numL)
theorem zhR {α : Type} {f : α -> Bool} : ∀ ls : List α,zhf (ls.map fun x=>D.bl (f x)) = some (ls.map f)
  | []=>rfl
  | a :: ls=>by
    rw [List.map_cons,zhf,zhR ls]
    rfl
theorem all_map {α : Type} {f : α -> Bool} {ls : List α} {h : Hs} : zmR [.lst (ls.map fun x=>D.bl (f x))] h = .ok (.bl (ls.all f)) h:=by
  show (match rdL h (.lst (ls.map fun x=>D.bl (f x))) with
    | some ys=>match zhf ys with
      | some bs=>R.ok (D.bl (bs.all id)) h
      | none=>.bad
    | none=>.bad) = _
  rw [zgz]
  dsimp only
  rw [zhR]
  dsimp only
  rw [List.all_map]
  rfl
theorem law_write_any {x : Str} {k : Nat} {h : Hs} (hx : Sh x k) (hk : k <= 900000) : zbV [.str x] h = .ok (.bl (zkP x)) h := by
  obtain ⟨p1, p2, p3⟩ := zbq zc8 hx
  have sp := fun h' => zb7 (h := h') zc8 hx (by omega)
  unfold zkP
  generalize Txt.split x (Str.ofString " ") = ps at *
  refine zar ?_
  have c8 := fun n h => zhF (n := n) (h := h)
  have c9 := fun c h => zjp (c := c) (h := h)
  have hlen : ∀ h', zd5 [.lst (ps.map D.str)] h' = .ok (.int ps.length) h' := fun h' => by simp
  by_cases z : ps.length = 2 \/ ps.length = 3
  · match ps, z with
    | [a, b], _ =>
      have r1 := fun h => law_number_any (h := h) (lo := 0) (hi := 1) (p1 a (by simp)) (by omega)
      have r2 := fun h => law_number_any (h := h) (lo := 1) (hi := 1000000000000000000) (p1 b (by simp)) (by omega)
      have e2 : ∀ h', zbQ (.int 2) (.tup [.int 2, .int 3]) h' = .ok (.bl false) h' := fun _ => rfl
      simp at sp
      cases q1 : inN a 0 1 <;> rw [q1] at r1 <;> cases q2 : inN b 1 1000000000000000000 <;> rw [q2] at r2 <;> simp [zbW, sp, r1, r2, e2, zcF, q1, q2, zc7, big]
    | [a, b, c], _ =>
      have r1 := fun h => law_number_any (h := h) (lo := 0) (hi := 1) (p1 a (by simp)) (by omega)
      have r2 := fun h => law_number_any (h := h) (lo := 1) (hi := 1000000000000000000) (p1 b (by simp)) (by omega)
      have e2 : ∀ h', zbQ (.int 3) (.tup [.int 2, .int 3]) h' = .ok (.bl false) h' := fun _ => rfl
      simp at sp
      cases q1 : inN a 0 1 <;> rw [q1] at r1 <;> cases q2 : inN b 1 1000000000000000000 <;> rw [q2] at r2 <;> simp [zbW, sp, r1, r2, e2, c9, zcF, q1, q2, zc7, big]
  · have c10 : ∀ h', zbQ (.int (ps.length : Int)) (.tup [.int 2, .int 3]) h' = .ok (.bl true) h' := fun h' => by
      rw [c8]
      simp at z
      simp [z.1, z.2]
    have : zcF ps = false := by
      match ps, z with
      | [], _ => rfl
      | [_], _ => rfl
      | [_, _], z => exact absurd (.inl rfl) z
      | [_, _, _], z => exact absurd (.inr rfl) z
      | _ :: _ :: _ :: _ :: _, _ => rfl
    rw [this]
    show zbW [some (.str x), none] h = _
    unfold zbW
    simp [sp, hlen, c10, zc7, big]
def zdQ (x : Str) : Bool:=decide (x = Str.ofString "") || (decide ((Txt.split x (Str.ofString "; ")).length <= 200) && (Txt.split x (Str.ofString "; ")).all zkP)
theorem law_conv_any {x : Str} {k : Nat} {h : Hs} (hx : Sh x k) (hk : k <= 900000) : zbf [.str x] h = .ok (.bl (zdQ x)) h:=by
  obtain ⟨p1,p2,p3⟩:=zbq zcG hx
  have sp:=fun h'=>zb7 (h:=h') zcG hx (by omega)
  unfold zdQ
  generalize Txt.split x (Str.ofString "; ") = ps at *
  refine zar ?_
  show zaV [some (.str x),none,none] h = _
  have cc : ∀ h',zcU (zf6 (zag 1)) (zaB 2) zfO (zaq (za2 1 zbV) (zbM (zac (zag 2) zaw))) [2] [some (.str x),some (.lst (ps.map D.str)),none] h' = .ok (.lst (ps.map fun p=>D.bl (zkP p))) h':=fun h' =>
    zgF (ls:=ps) (f:=D.str) (g:=fun p=>D.bl (zkP p)) (by simp) (by
      intro p hp
      refine ⟨_,rfl,fun h'=>?_⟩
      have r1:=fun h=>law_write_any (h:=h) (p1 p hp) hk
      simp [zbD,r1]) (by have : big = 16777216:=rfl; omega) (by intro a _; rw [D.nr])
  have ca:=fun h'=>all_map (f:=zkP) (ls:=ps) (h:=h')
  by_cases c1 : x = Str.ofString ""
  · rw [c1] at sp ⊢
    simp [zaV,sp,zc7]
  · by_cases c2 : ps.length <= 200
    · have c2' : (ps.length : Int) <= 200:=by omega
      simp [zaV,sp,c1,c2,c2',cc,ca,zc7]
    · have c2' : ¬ (ps.length : Int) <= 200:=by omega
      simp [zaV,sp,c1,c2,c2',zc7]
theorem znu {v : List Str} {a b z : Option D} {h : Hs} : zai [a,b,some (zb2 v),z] h = if zcF v = true then .nx [a,b,some (zb2 v),z] h else .err 29 [.int 1] [a,b,some (zb2 v),z] h:=by
  have c6 : ∀ xs : List D,isN (.tup xs) = false:=fun _=>rfl
  have c7 : isN .non = true:=rfl
  have key : ∀ (n m : Nat) (c : Str),zai [a,b,some (.tup [.int n,.int m,.str c]),z] h = if (decide (n <= 1) && (decide (1 <= m) && decide (m <= 1000000000000000000))) = true then .nx [a,b,some (.tup [.int n,.int m,.str c]),z] h else .err 29 [.int 1] [a,b,some (.tup [.int n,.int m,.str c]),z] h:=by
    intro n m c
    by_cases q1 : n <= 1
    · have q1' : ¬ (1 : Int) < (n : Int):=by omega
      by_cases q2 : 1 <= m
      · have q2' : (1 : Int) <= (m : Int):=by omega
        by_cases q3 : m <= 1000000000000000000
        · have q3' : (m : Int) <= 1000000000000000000:=by omega
          simp [zai,zf7,c6,q1,q1',q2,q2',q3,q3']
        · have q3' : ¬ (m : Int) <= 1000000000000000000:=by omega
          simp [zai,zf7,c6,q1,q1',q2,q2',q3,q3']
      · have q2' : ¬ (1 : Int) <= (m : Int):=by omega
        simp [zai,zf7,c6,q1,q1',q2,q2']
    · have q1' : (1 : Int) < (n : Int):=by omega
      simp [zai,zf7,c6,q1,q1']
  have bad : zai [a,b,some .non,z] h = .err 29 [.int 1] [a,b,some .non,z] h:=by
    simp [zai,zf7,c7]
  have inE : ∀ {w : Str} {n : Nat} {lo hi : Int},numOf w = some n -> inN w lo hi = decide (lo <= (n : Int) /\ (n : Int) <= hi):=fun e=>by unfold inN; rw [e]
  have inZ : ∀ {w : Str} {lo hi : Int},numOf w = none -> inN w lo hi = false:=fun e=>by unfold inN; rw [e]
  have two : ∀ (p q : Str) (n m : Nat),numOf p = some n -> numOf q = some m -> (inN p 0 1 && inN q 1 1000000000000000000) = (decide (n <= 1) && (decide (1 <= m) && decide (m <= 1000000000000000000))):=fun p q n m e1 e2=>by
    rw [inE e1,inE e2,<- Bool.decide_and,<- Bool.decide_and,<- Bool.decide_and]
    exact decide_eq_decide.mpr (by omega)
  match v with
  | []=>exact bad
  | [_]=>exact bad
  | [p,q] =>
    cases e1 : numOf p with
    | none =>
      have : zb2 [p,q] = .non:=by simp only [zb2,e1]
      rw [this,bad,zcF,inZ e1]
      rfl
    | some n =>
      cases e2 : numOf q with
      | none =>
        have : zb2 [p,q] = .non:=by simp only [zb2,e1,e2]
        rw [this,bad,zcF,inZ e2,Bool.and_false]
        rfl
      | some m =>
        have : zb2 [p,q] = .tup [.int n,.int m,.str "plain"]:=by simp only [zb2,e1,e2]
        rw [this,key,zcF,two p q n m e1 e2]
  | [p,q,c] =>
    cases e1 : numOf p with
    | none =>
      have : zb2 [p,q,c] = .non:=by simp only [zb2,e1]
      rw [this,bad,zcF,inZ e1]
      rfl
    | some n =>
      cases e2 : numOf q with
      | none =>
        have : zb2 [p,q,c] = .non:=by simp only [zb2,e1,e2]
        rw [this,bad,zcF,inZ e2,Bool.and_false]
        rfl
      | some m =>
        by_cases hm : zjB c = true
        · have : zb2 [p,q,c] = .tup [.int n,.int m,.str c]:=by simp only [zb2,e1,e2,hm,if_true]
          rw [this,key,zcF,two p q n m e1 e2,hm,Bool.and_true]
        · have : zb2 [p,q,c] = .non:=by simp only [zb2,e1,e2,if_neg hm]
          rw [this,bad,zcF,show zjB c = false by simpa using hm,Bool.and_false]
          rfl
  | _ :: _ :: _ :: _ :: _=>exact bad
theorem zkb {gs : List (Nat × O)} {h : Hs} (hk : Kept gs h) : ∀ (vs : List (List Str)) (a b y z : Option D),
    (vs.all zcF = true -> ∃ y', forL gs (zaB 2) zai (vs.map zb2) [a, b, y, z] h = .nx [a, b, y', z] h) /\
    (vs.all zcF = false -> ∃ e, forL gs (zaB 2) zai (vs.map zb2) [a, b, y, z] h = .err 29 [.int 1] e h)
  | [], a, b, y, z => ⟨fun _ => ⟨y, by rw [List.map_nil, forL, if_pos hk]⟩, fun e => (by cases e)⟩
  | v :: vs, a, b, y, z => by
    obtain ⟨i1, i2⟩ := zkb hk vs a b (some (zb2 v)) z
    rw [List.map_cons, forL, if_pos hk, show zaB 2 (zb2 v) [a, b, y, z] = some [a, b, some (zb2 v), z] from rfl]
    dsimp only
    rw [znu, List.all_cons]
    cases hv : zcF v with
    | true =>
      rw [if_pos rfl, Bool.true_and]
      exact ⟨i1, i2⟩
    | false =>
      rw [if_neg (by simp)]
      exact ⟨fun e => by simp at e, fun _ => ⟨_, rfl⟩⟩
theorem zgA {m : Nat} {fb : En -> Hs -> S} {ds : List D} {h h' : Hs} {c : Nat} {fs : List D} {env : En} (e : fb (ds.map some ++ List.replicate (m - ds.length) none) h = .err c fs env h') : zbK m fb ds h = .err c fs h':=by
  unfold zbK
  rw [e]
theorem znj {n : Nat} {v : List Str} : D.nr n (zb2 v) = true:=by
  unfold zb2
  split <;> (try split) <;> (try split) <;> simp [D.nr,D.nrs]
theorem zgE {x : Str} {k : Nat} {h : Hs} (hx : Sh x k) (hk : k <= 900000) :
    (zdQ x = true -> ∃ ds, zav [.str x] h = .ok (.ref h.length) (h ++ [.lst ds]) /\ D.nrs h.length ds = true) /\
    (zdQ x = false -> ∃ m, zav [.str x] h = .err 29 [.int 1] (h ++ m)) := by
  obtain ⟨p1, p2, p3⟩ := zbq zcG hx
  have sp := fun h' => zb7 (h := h') zcG hx (by omega)
  have hi : ∀ h', zhg .str [0, 1] (.str x) h' = .ok (.bl true) h' := fun _ => rfl
  unfold zdQ
  generalize hps : Txt.split x (Str.ofString "; ") = ps at *
  by_cases c1 : x = Str.ofString ""
  · refine ⟨fun _ => ⟨[], ?_, rfl⟩, fun e => by simp [c1] at e⟩
    refine zar ?_
    subst c1
    simp [zau, hi]
  have cc : zfL (zf6 (eBM .str zcs (zag 0) (zac (eC (.str "; ")) zaw))) (zaB 3) zfO (zaq (za2 1 zbE) (zbM (zac (eBM .str zcs (zag 3) (zac (eC (.str " ")) zaw)) zaw))) [3] [some (.str x), none, none, none] h = .ok (.ref h.length) (h ++ [.lst ((ps.map fun p => Txt.split p (Str.ofString " ")).map zb2)]) := by
    have := zjA (env := [some (.str x), none, none, none]) (h := h) (h1 := h) (fi := zf6 (eBM .str zcs (zag 0) (zac (eC (.str "; ")) zaw))) (k := zaB 3) (fe := zaq (za2 1 zbE) (zbM (zac (eBM .str zcs (zag 3) (zac (eC (.str " ")) zaw)) zaw))) (own := [3]) (ls := ps) (f := D.str) (g := fun p => zb2 (Txt.split p (Str.ofString " "))) (by simp [sp, zc7]) (by
      intro p hp
      refine ⟨_, rfl, fun h' => ?_⟩
      have hp := p1 p hp
      obtain ⟨t1, t2, t3⟩ := zbq zc8 hp
      have r1 := fun h => zgl (h := h) t1 (by omega) (by omega)
      have r2 := fun h => zb7 (h := h) zc8 hp (by omega)
      simp [zbD, r1, r2, zc7]) (by have : big = 16777216 := rfl; omega)
    rw [this, List.map_map]
    rfl
  have hall : ps.all zkP = (ps.map fun p => Txt.split p (Str.ofString " ")).all zcF := by rw [List.all_map]; rfl
  have hlen : ps.length = (ps.map fun p => Txt.split p (Str.ofString " ")).length := by rw [List.length_map]
  rw [hall]
  rw [hlen] at p2 ⊢
  generalize (ps.map fun p => Txt.split p (Str.ofString " ")) = vs at *
  have c2 : zaS (h ++ [.lst (vs.map zb2)]) h.length = some (vs.map zb2) := ze1
  have c3 : zd5 [.ref h.length] (h ++ [.lst (vs.map zb2)]) = .ok (.int vs.length) (h ++ [.lst (vs.map zb2)]) := by
    show (match rdL (h ++ [.lst (vs.map zb2)]) (.ref h.length) with
      | some ys => R.ok (D.int ys.length) _
      | none => .bad) = _
    rw [show rdL (h ++ [.lst (vs.map zb2)]) (.ref h.length) = zaS (h ++ [.lst (vs.map zb2)]) h.length from rfl, c2]
    simp
  have hk2 : Kept [(h.length, .lst (vs.map zb2))] (h ++ [.lst (vs.map zb2)]) := ⟨c2, trivial⟩
  obtain ⟨l1, l2⟩ := zkb hk2 vs (some (.str x)) (some (.ref h.length)) none none
  have hs : zf6 (zag 1) [some (.str x), some (.ref h.length), none, none] (h ++ [.lst (vs.map zb2)]) = .ok (vs.map zb2, [(h.length, .lst (vs.map zb2))]) (h ++ [.lst (vs.map zb2)]) := by
    simp [zm5, c2]
  have start : zau [some (.str x), none, none, none] h = (zat (sIf (za3 (zas gtD (za7 zd5 (zac (zag 1) zaw)) (eC (.int 200)))) (zcr 29 (eC (.int 1))) zd2)
 (zat (zhH (zf6 (zag 1)) (zaB 2) zai)
 (zc0 (zag 1)))) [some (.str x), some (.ref h.length), none, none] (h ++ [.lst (vs.map zb2)]) := by
    unfold zau
    rw [zgp (env1 := [some (.str x), none, none, none]) (h1 := h) (by simp [hi])]
    rw [zgp (env1 := [some (.str x), none, none, none]) (h1 := h) (by simp [c1])]
    rw [zgp (env1 := [some (.str x), some (.ref h.length), none, none]) (h1 := h ++ [.lst (vs.map zb2)]) (by simp [cc])]
  by_cases c4 : vs.length <= 200
  · have c4' : ¬ (200 : Int) < (vs.length : Int) := by omega
    refine ⟨fun e => ⟨vs.map zb2, ?_, zgS fun _ _ => znj⟩, fun e => ⟨[.lst (vs.map zb2)], ?_⟩⟩
    · have e : vs.all zcF = true := by simpa [c1, c4] using e
      obtain ⟨y', q⟩ := l1 e
      refine zar ?_
      show zau [some (.str x), none, none, none] h = _
      rw [start, zgp (env1 := [some (.str x), some (.ref h.length), none, none]) (h1 := h ++ [.lst (vs.map zb2)]) (by simp [c3, c4'])]
      rw [zgp (env1 := [some (.str x), some (.ref h.length), y', none]) (h1 := h ++ [.lst (vs.map zb2)]) (by
        unfold zhH
        rw [hs]
        exact q)]
      simp
    · have e : vs.all zcF = false := by
        cases q : vs.all zcF with
        | false => rfl
        | true => rw [q] at e; simp [c4] at e
      obtain ⟨e', q⟩ := l2 e
      refine zgA (env := e') ?_
      have : zau [some (.str x), none, none, none] h = .err 29 [.int 1] e' (h ++ [.lst (vs.map zb2)]) := by
        rw [start, zgp (env1 := [some (.str x), some (.ref h.length), none, none]) (h1 := h ++ [.lst (vs.map zb2)]) (by simp [c3, c4'])]
        unfold zat
        have : zhH (zf6 (zag 1)) (zaB 2) zai [some (.str x), some (.ref h.length), none, none] (h ++ [.lst (vs.map zb2)]) = .err 29 [.int 1] e' (h ++ [.lst (vs.map zb2)]) := by
          unfold zhH
          rw [hs]
          exact q
        rw [this]
        rfl
      exact this
  · have c4' : (200 : Int) < (vs.length : Int) := by omega
    refine ⟨fun e => by simp [c1, c4] at e, fun _ => ⟨[.lst (vs.map zb2)], ?_⟩⟩
    have : ∃ e', zau [some (.str x), none, none, none] h = .err 29 [.int 1] e' (h ++ [.lst (vs.map zb2)]) := ⟨[some (.str x), some (.ref h.length), none, none], by
      rw [start]
      simp [c3, c4']⟩
    obtain ⟨e', q⟩ := this
    exact zgA q
end Ev
namespace Ev
open PySem L2
open TL (tl numL)
def zmi (c : Str) : Bool:=decide (c = Hold.s .off \/ c = Hold.s .part \/ c = Hold.s .all)
theorem zmr {c : Str} (h : zmi c = true) : ∃ x : Hold,c = x.s:=by
  unfold zmi at h
  rcases of_decide_eq_true h with h | h | h
  · exact ⟨_,h⟩
  · exact ⟨_,h⟩
  · exact ⟨_,h⟩
theorem zlY {c : Str} {h : Hs} : zbQ (.str c) (.tup [.str "off",.str "partial",.str "all"]) h = .ok (.bl (!zmi c)) h:=by
  have e : zbQ (.str c) (.tup [.str "off",.str "partial",.str "all"]) h = .ok (.bl (!(decide (Str.ofString "off" = c) || (decide (Str.ofString "partial" = c) || (decide (Str.ofString "all" = c) || false))))) h:=rfl
  rw [e]
  unfold zmi
  have h1 : decide (Str.ofString "off" = c) = decide (c = Hold.s .off):=decide_eq_decide.mpr eq_comm
  have h2 : decide (Str.ofString "partial" = c) = decide (c = Hold.s .part):=decide_eq_decide.mpr eq_comm
  have h3 : decide (Str.ofString "all" = c) = decide (c = Hold.s .all):=decide_eq_decide.mpr eq_comm
  rw [h1,h2,h3,Bool.or_false,Bool.decide_or,Bool.decide_or]
def zcK : List Str -> Bool
  | [a,b,c]=>zmi a && (inN b 0 9 && inN c 0 4)
  | _=>false
def zcV (x : Str) : Bool:=zcK (Txt.split x (Str.ofString " "))
theorem zei {w : Str} {lo hi : Int} : (inN w lo hi = true -> ∃ n : Nat,rdN w lo hi = .int n /\ lo <= (n : Int) /\ (n : Int) <= hi) /\ (inN w lo hi = false -> rdN w lo hi = .non):=by
  unfold inN rdN
  cases numOf w with
  | none=>exact ⟨fun e=>(by cases e),fun _=>rfl⟩
  | some n =>
    dsimp only
    refine ⟨fun e=>⟨n,?_,(of_decide_eq_true e).1,(of_decide_eq_true e).2⟩,fun e=>?_⟩
    · rw [if_pos (of_decide_eq_true e)]
    · rw [if_neg (of_decide_eq_false e)]
theorem law_pol_any {x : Str} {k : Nat} {h : Hs} (hx : Sh x k) (hk : k <= 900000) : zbn [.str x] h = .ok (.bl (zcV x)) h:=by
  obtain ⟨p1,p2,p3⟩:=zbq zc8 hx
  have sp:=fun h'=>zb7 (h:=h') zc8 hx (by omega)
  unfold zcV
  generalize Txt.split x (Str.ofString " ") = ps at *
  refine zar ?_
  have c9:=fun c h=>zlY (c:=c) (h:=h)
  by_cases z : ps.length = 3
  · match ps,z with
    | [a,b,c],_ =>
      have r1:=fun h=>law_number_any (h:=h) (lo:=0) (hi:=9) (p1 b (by simp)) (by omega)
      have r2:=fun h=>law_number_any (h:=h) (lo:=0) (hi:=4) (p1 c (by simp)) (by omega)
      simp at sp
      cases q0 : zmi a <;> cases q1 : inN b 0 9 <;> rw [q1] at r1 <;> cases q2 : inN c 0 4 <;> rw [q2] at r2 <;> simp [zb9,sp,r1,r2,c9,zcK,q0,q1,q2,zc7,big]
  · have z' : ¬ (ps.length : Int) = 3:=by omega
    have : zcK ps = false:=by
      match ps,z with
      | [],_=>rfl
      | [_],_=>rfl
      | [_,_],_=>rfl
      | [_,_,_],z=>exact absurd rfl z
      | _ :: _ :: _ :: _ :: _,_=>rfl
    rw [this]
    show zb9 [some (.str x),none] h = _
    simp [zb9,sp,z',zc7,big]
theorem zdE {x : Str} {k : Nat} (hx : Sh x k) (hk : k <= 900000) : ∃ P : Po,(zcV x = true -> P.Ok) /\ ∀ h,za1 [.str x] h = if zcV x = true then .ok P.o h else .err 29 [.int 1] h:=by
  obtain ⟨p1,p2,p3⟩:=zbq zc8 hx
  have sp:=fun h'=>zb7 (h:=h') zc8 hx (by omega)
  have hi : ∀ h',zhg .str [0,1] (.str x) h' = .ok (.bl true) h':=fun _=>rfl
  unfold zcV
  generalize Txt.split x (Str.ofString " ") = ps at *
  have c9:=fun c h=>zlY (c:=c) (h:=h)
  have c6 : ∀ i : Int,isN (.int i) = false:=fun _=>rfl
  have c7 : isN .non = true:=rfl
  by_cases z : ps.length = 3
  · match ps,z with
    | [a,b,c],_ =>
      have r1:=fun h=>zb5 (h:=h) (lo:=0) (hi:=9) (p1 b (by simp)) (by omega)
      have r2:=fun h=>zb5 (h:=h) (lo:=0) (hi:=4) (p1 c (by simp)) (by omega)
      simp at sp
      cases q0 : zmi a with
      | false =>
        refine ⟨⟨.all,2,0⟩,fun e=>by simp [zcK,q0] at e,fun h=>?_⟩
        show zbK 4 zaE [.str x] h = _
        simp [zbK,zaE,sp,hi,c9,zcK,q0,zc7]
      | true =>
        obtain ⟨X,rfl⟩:=zmr q0
        cases q1 : inN b 0 9 with
        | false =>
          rw [zei.2 q1] at r1
          refine ⟨⟨.all,2,0⟩,fun e=>by simp [zcK,q0,q1] at e,fun h=>?_⟩
          show zbK 4 zaE [.str x] h = _
          cases q2 : inN c 0 4 with
          | false=>rw [zei.2 q2] at r2; simp [zbK,zaE,sp,hi,c7,c9,r1,r2,zf7,zcK,q0,q1,q2,zc7,big]
          | true=>obtain ⟨m,e2,_⟩:=zei.1 q2; rw [e2] at r2; simp [zbK,zaE,sp,hi,c6,c7,c9,r1,r2,zf7,zcK,q0,q1,q2,zc7,big]
        | true =>
          obtain ⟨n,e1,b1,b2⟩:=zei.1 q1
          rw [e1] at r1
          cases q2 : inN c 0 4 with
          | false =>
            rw [zei.2 q2] at r2
            refine ⟨⟨.all,2,0⟩,fun e=>by simp [zcK,q0,q1,q2] at e,fun h=>?_⟩
            show zbK 4 zaE [.str x] h = _
            simp [zbK,zaE,sp,hi,c6,c7,c9,r1,r2,zf7,zcK,q0,q1,q2,zc7,big]
          | true =>
            obtain ⟨m,e2,d1,d2⟩:=zei.1 q2
            rw [e2] at r2
            refine ⟨⟨X,n,m⟩,fun _=>⟨b1,b2,d1,d2⟩,fun h=>?_⟩
            rw [show zcK [X.s,b,c] = true by simp [zcK,q0,q1,q2],if_pos rfl]
            refine zar ?_
            have mk:=fun env h0 e=>zkS (env:=env) (h:=h) (h0:=h0) (x:=X) (i:=n) (j:=m) (fd:=cKw 2 (zac (zas ixD (zag 1) (eC (.int 0))) zaw) (zac (zag 2) (zac (zag 3) zaw))) b1 b2 d1 d2 e
            have mk:=mk [some (.str x),some (.lst [.str X.s,.str b,.str c]),some (.int n),some (.int m)] h (by simp)
            simp [zaE,sp,hi,r1,r2,c6,c9,q0,zf7,zc7,mk]
  · have z' : ¬ (ps.length : Int) = 3:=by omega
    have : zcK ps = false:=by
      match ps,z with
      | [],_=>rfl
      | [_],_=>rfl
      | [_,_],_=>rfl
      | [_,_,_],z=>exact absurd rfl z
      | _ :: _ :: _ :: _ :: _,_=>rfl
    rw [this]
    refine ⟨⟨.all,2,0⟩,fun e=>(by cases e),fun h=>?_⟩
    show zbK 4 zaE [.str x] h = _
    simp [zbK,zaE,sp,hi,z',zc7,big]
def zfc : List Str -> Bool
  | [a,b,c]=>inN a 1 1000000000000000000 && (zcV b && zcV c)
  | _=>false
def isSet (x : Str) : Bool:=zfc (Txt.split x (Str.ofString "; "))
theorem law_set_any {x : Str} {k : Nat} {h : Hs} (hx : Sh x k) (hk : k <= 900000) : zbN [.str x] h = .ok (.bl (isSet x)) h:=by
  obtain ⟨p1,p2,p3⟩:=zbq zcG hx
  have sp:=fun h'=>zb7 (h:=h') zcG hx (by omega)
  unfold isSet
  generalize Txt.split x (Str.ofString "; ") = ps at *
  refine zar ?_
  by_cases z : ps.length = 3
  · match ps,z with
    | [a,b,c],_ =>
      have r1:=fun h=>law_number_any (h:=h) (lo:=1) (hi:=1000000000000000000) (p1 a (by simp)) (by omega)
      simp at sp
      have cc : ∀ h',zcU (zf6 (eSl slD (zag 1) (zeK (eC (.int 1))) oNo)) (zaB 2) zfO (zaq (za2 1 zbn) (zbM (zac (zag 2) zaw))) [2] [some (.str x),some (.lst [.str a,.str b,.str c]),none] h' = .ok (.lst ([b,c].map fun p=>D.bl (zcV p))) h':=fun h' =>
        zgF (ls:=[b,c]) (f:=D.str) (g:=fun p=>D.bl (zcV p)) (by
          have : cutD [D.str a,.str b,.str c] (some 1) none = [.str b,.str c]:=rfl
          simp [slD,this]) (by
          intro p hp
          refine ⟨_,rfl,fun h'=>?_⟩
          have r1:=fun h=>law_pol_any (h:=h) (p1 p (by simp at hp ⊢; exact .inr hp)) hk
          simp [zbD,r1]) (by simp [big]) (by intro a _; rw [D.nr])
      have ca:=fun h'=>all_map (f:=zcV) (ls:=[b,c]) (h:=h')
      simp at cc ca
      cases q1 : inN a 1 1000000000000000000 <;> rw [q1] at r1 <;> simp [zbO,sp,r1,cc,ca,zfc,q1,zc7]
  · have z' : ¬ (ps.length : Int) = 3:=by omega
    have : zfc ps = false:=by
      match ps,z with
      | [],_=>rfl
      | [_],_=>rfl
      | [_,_],_=>rfl
      | [_,_,_],z=>exact absurd rfl z
      | _ :: _ :: _ :: _ :: _,_=>rfl
    rw [this]
    show zbO [some (.str x),none,none] h = _
    simp [zbO,sp,z',zc7,big]
theorem zhZ {x : Str} {k : Nat} {h : Hs} (hx : Sh x k) (hk : k <= 900000) : (isSet x = true -> ∃ d, zbp [.str x] h = .ok d h) /\ (isSet x = false -> ∃ m, zbp [.str x] h = .err 29 [.int 1] (h ++ m)) := by
  obtain ⟨p1, p2, p3⟩ := zbq zcG hx
  have sp := fun h' => zb7 (h := h') zcG hx (by omega)
  have hi : ∀ h', zhg .str [0, 1] (.str x) h' = .ok (.bl true) h' := fun _ => rfl
  unfold isSet
  generalize Txt.split x (Str.ofString "; ") = ps at *
  have c6 : ∀ i : Int, isN (.int i) = false := fun _ => rfl
  have c7 : isN .non = true := rfl
  match ps, p3 with
  | a :: rest, _ =>
    have r1 := fun h => zb5 (h := h) (lo := 1) (hi := 1000000000000000000) (p1 a (by simp)) (by omega)
    simp at sp
    by_cases z : rest.length = 2
    · match rest, z with
      | [b, c], _ =>
        cases q1 : inN a 1 1000000000000000000 with
        | false =>
          rw [zei.2 q1] at r1
          refine ⟨fun e => by simp [zfc, q1] at e, fun _ => ⟨[], ?_⟩⟩
          show zbK 6 zaA [.str x] h = _
          simp at sp
          simp [zbK, zaA, sp, hi, c7, r1, zf7, zc7]
        | true =>
          obtain ⟨n, e1, b1, b2⟩ := zei.1 q1
          rw [e1] at r1
          obtain ⟨P, okP, eP⟩ := zdE (p1 b (by simp)) hk
          obtain ⟨Q, okQ, eQ⟩ := zdE (p1 c (by simp)) hk
          obtain ⟨g1, g2⟩ := zjX (env := [some (.str x), some (.str a), some (.lst [.str b, .str c]), some (.int n), none, none]) (h := h) (h1 := h) (fi := zf6 (zag 2)) (k := zaB 5) (fe := zaq (za2 1 za1) (zbM (zac (zag 5) zaw))) (own := [5]) (ls := [(b, P), (c, Q)]) (f := fun a => D.str a.1) (g := fun a => a.2.o) (p := fun a => zcV a.1) (c := 29) (fs := [.int 1]) (by simp) (by
            intro y hy
            refine ⟨_, rfl, fun h' => ?_⟩
            simp at hy
            rcases hy with rfl | rfl
            · simp [zbD, eP]
            · simp [zbD, eQ]) (by simp [big]) (by intro a _; simp [Po.o, D.nr, D.nrs])
          simp at sp
          have start : ∀ K, zaA [some (.str x), none, none, none, none, none] h = K -> (zat (zcR (zfY (zf6 (zag 2)) (zaB 5) zfO (zaq (za2 1 za1) (zbM (zac (zag 5) zaw))) [5]) (zaB 4))
 (zc0 (zeW 1 (zgg 2 zba) (zbM (zac (zag 3) (zii (zag 4) zaw)))))) [some (.str x), some (.str a), some (.lst [.str b, .str c]), some (.int n), none, none] h = K := by
            intro K hK
            rw [<- hK]
            simp [zaA, sp, hi, c6, r1, zf7, zc7]
          have start := (start _ rfl).symm
          refine ⟨fun e => ?_, fun e => ?_⟩
          · have e : zcV b = true /\ zcV c = true := by simpa [zfc, q1] using e
            have g1 := g1 (by simp [e.1, e.2])
            refine ⟨Se.o ⟨n, P, Q⟩, zar ?_⟩
            have mk := zlG (env := [some (.str x), some (.str a), some (.lst [.str b, .str c]), some (.int n), some (.lst [P.o, Q.o]), none]) (h := h) (w := n) (p0 := P) (p1 := Q) (fd := zbM (zac (zag 3) (zii (zag 4) zaw))) b1 b2 (by simp)
            show zaA [some (.str x), none, none, none, none, none] h = _
            rw [start]
            simp at g1
            simp [g1, mk]
          · have e : (zcV b && zcV c) = false := by simpa [zfc, q1] using e
            obtain ⟨m, g2⟩ := g2 (by simpa using e)
            refine ⟨m, zgA (env := [some (.str x), some (.str a), some (.lst [.str b, .str c]), some (.int n), none, none]) ?_⟩
            show zaA [some (.str x), none, none, none, none, none] h = _
            rw [start]
            simp [g2]
    · have z' : ¬ (rest.length : Int) = 2 := by omega
      have : zfc (a :: rest) = false := by
        match rest, z with
        | [], _ => rfl
        | [_], _ => rfl
        | [_, _], z => exact absurd rfl z
        | _ :: _ :: _ :: _, _ => rfl
      rw [this]
      refine ⟨fun e => (by cases e), fun _ => ⟨[], ?_⟩⟩
      show zbK 6 zaA [.str x] h = _
      cases q1 : inN a 1 1000000000000000000 with
      | false => rw [zei.2 q1] at r1; simp [zbK, zaA, sp, hi, c7, r1, zf7, zc7]
      | true => obtain ⟨n, e1, _⟩ := zei.1 q1; rw [e1] at r1; simp [zbK, zaA, sp, hi, c6, r1, z', zf7, zc7]
end Ev
namespace Ev
open PySem L2
open TL (tl numL)
def okT (i : Nat) (x : Str) : Bool:=match i with
  | 0=>zdQ x
  | 1=>zcV x
  | _=>isSet x
def zkR : D:=.lst [.int 1,.bl true,.bl true]
def zio (b : Bool) : D:=if b = true then .str "read" else zkR
theorem zi9 {h m : Hs} {d : D} (e : D.nr h.length d = true) : zcC h (.ok d (h ++ m)) = .ok d h:=by
  unfold zcC
  dsimp only
  rw [if_pos zf1,zkh (k:=11) e]
  dsimp only
  rw [List.take_append_of_le_length (Nat.le_refl _),List.take_length]
theorem zco {h : Hs} {d : D} (e : D.nr h.length d = true) : zcC h (.ok d h) = .ok d h:=by
  have:=zi9 (h:=h) (m:=[]) e
  rwa [List.append_nil] at this
theorem ziS {h m : Hs} {c : Nat} {fs : List D} (e : D.nrs h.length fs = true) : zcC h (.err c fs (h ++ m)) = .err c fs h:=by
  unfold zcC
  dsimp only
  rw [if_pos ⟨zf1,e⟩,List.take_append_of_le_length (Nat.le_refl _),List.take_length]
theorem zlr {h : Hs} {ds : List D} (e : D.nrs h.length ds = true) : zcC h (.ok (.ref h.length) (h ++ [.lst ds])) = .ok (.lst ds) h:=by
  unfold zcC
  dsimp only
  rw [if_pos zf1,zng (k:=11) (xs:=ds) (ys:=ds) (Nat.le_refl _) (by simp) (zhW (k:=10) e)]
  dsimp only
  rw [List.take_append_of_le_length (Nat.le_refl _),List.take_length]
theorem zjz {i : Nat} {x : Str} {k : Nat} {h : Hs} (hi : i < 3) (hx : Sh x k) (hk : k <= 900000) : zcj [.int i,.str x] h = .ok (zio (okT i x)) h:=by
  show zcC h (zbK 3 zaK [.int i,.str x] h) = _
  obtain ⟨c1,c2⟩:=zgE (h:=h) hx hk
  obtain ⟨P,_,q⟩:=zdE hx hk
  obtain ⟨s1,s2⟩:=zhZ (h:=h) hx hk
  have q:=q h
  rcases (show i = 0 \/ i = 1 \/ i = 2 by omega) with rfl | rfl | rfl
  · show zcC h (zbK 3 zaK [.int 0,.str x] h) = .ok (zio (zdQ x)) h
    cases e : zdQ x with
    | true =>
      obtain ⟨ds,r,n⟩:=c1 e
      have r1 : zcC h (zav [.str x] h) = .ok (.lst ds) h:=by rw [r]; exact zlr n
      rw [show zbK 3 zaK [.int 0,.str x] h = .ok (.str "read") h by
        refine zar ?_
        simp [zaK,zjs,r1]]
      exact zco rfl
    | false =>
      obtain ⟨m,r⟩:=c2 e
      have r1 : zcC h (zav [.str x] h) = .err 29 [.int 1] h:=by rw [r]; exact ziS rfl
      rw [show zbK 3 zaK [.int 0,.str x] h = .ok zkR h by
        refine zar ?_
        simp [zaK,zjs,r1,hOn,zlf,zl7,zgj,zmh,zlB,zjt,S.gone,zkR,big]]
      exact zco rfl
  · show zcC h (zbK 3 zaK [.int 1,.str x] h) = .ok (zio (zcV x)) h
    cases e : zcV x with
    | true =>
      rw [e,if_pos rfl] at q
      rw [show zbK 3 zaK [.int 1,.str x] h = .ok (.str "read") h by
        refine zar ?_
        simp [zaK,zjs,q]]
      exact zco rfl
    | false =>
      rw [e,if_neg (by simp)] at q
      rw [show zbK 3 zaK [.int 1,.str x] h = .ok zkR h by
        refine zar ?_
        simp [zaK,zjs,q,hOn,zlf,zl7,zgj,zmh,zlB,zjt,S.gone,zkR,big]]
      exact zco rfl
  · show zcC h (zbK 3 zaK [.int 2,.str x] h) = .ok (zio (isSet x)) h
    cases e : isSet x with
    | true =>
      obtain ⟨d,r⟩:=s1 e
      rw [show zbK 3 zaK [.int 2,.str x] h = .ok (.str "read") h by
        refine zar ?_
        simp [zaK,zjs,r]]
      exact zco rfl
    | false =>
      obtain ⟨m,r⟩:=s2 e
      rw [show zbK 3 zaK [.int 2,.str x] h = .ok zkR (h ++ m) by
        refine zar ?_
        simp [zaK,zjs,r,hOn,zlf,zl7,zgj,zmh,zlB,zjt,S.gone,zkR,big]]
      exact zi9 rfl
theorem zk0 {i : Nat} {d : D} {h : Hs} (hi : i < 3) (hd : ∀ h', zhg .str [0, 1] d h' = .ok (.bl false) h') : zcj [.int i, d] h = .ok (.lst [.non, .bl true, .bl true]) h := by
  show zcC h (zbK 3 zaK [.int i, d] h) = _
  have c : ∀ h, zav [d] h = .err 29 [.non] h := fun h => by
    show zbK 4 zau [d] h = _
    simp [zbK, zau, hd]
  have p : ∀ h, za1 [d] h = .err 29 [.non] h := fun h => by
    show zbK 4 zaE [d] h = _
    simp [zbK, zaE, hd]
  have s : ∀ h, zbp [d] h = .err 29 [.non] h := fun h => by
    show zbK 6 zaA [d] h = _
    simp [zbK, zaA, hd]
  have c' : zcC h (zav [d] h) = .err 29 [.non] h := by
    rw [c]
    have := ziS (h := h) (m := []) (c := 29) (fs := [.non]) rfl
    rwa [List.append_nil] at this
  rcases (show i = 0 \/ i = 1 \/ i = 2 by omega) with rfl | rfl | rfl
  · rw [show zbK 3 zaK [.int (0 : Nat), d] h = .ok (.lst [.non, .bl true, .bl true]) h by
      refine zar ?_
      simp [zaK, zjs, c', hOn, zlf, zl7, zgj, zmh, zlB, zjt, S.gone, big]]
    exact zco rfl
  · rw [show zbK 3 zaK [.int (1 : Nat), d] h = .ok (.lst [.non, .bl true, .bl true]) h by
      refine zar ?_
      simp [zaK, zjs, p, hOn, zlf, zl7, zgj, zmh, zlB, zjt, S.gone, big]]
    exact zco rfl
  · rw [show zbK 3 zaK [.int (2 : Nat), d] h = .ok (.lst [.non, .bl true, .bl true]) h by
      refine zar ?_
      simp [zaK, zjs, s, hOn, zlf, zl7, zgj, zmh, zlB, zjt, S.gone, big]]
    exact zco rfl
theorem zdh {i : Nat} {x : Str} {k : Nat} {h : Hs} (hi : i < 3) (hx : Sh x k) (hk : k <= 900000) : zbe [.int i,.str x] h = .ok (.bl true) h:=by
  have r0:=fun h=>law_conv_any (h:=h) hx hk
  have r1:=fun h=>law_pol_any (h:=h) hx hk
  have r2:=fun h=>law_set_any (h:=h) hx hk
  have t:=fun h=>zjz (h:=h) hi hx hk
  refine zar ?_
  have e1 : ∀ h',eqD (.str "read") (.str "read") h' = .ok (.bl true) h':=fun _=>rfl
  have e2 : ∀ h',eqD (.lst [.int 1,.bl true,.bl true]) (.lst [.int 1,.bl true,.bl true]) h' = .ok (.bl true) h':=fun _=>rfl
  rcases (show i = 0 \/ i = 1 \/ i = 2 by omega) with rfl | rfl | rfl
  · cases e : zdQ x <;> simp [okT,e,zio,zkR] at t <;> simp [zdL,r0,r1,r2,e,t,e1,e2,big]
  · cases e : zcV x <;> simp [okT,e,zio,zkR] at t <;> simp [zdL,r0,r1,r2,e,t,e1,e2,big]
  · cases e : isSet x <;> simp [okT,e,zio,zkR] at t <;> simp [zdL,r0,r1,r2,e,t,e1,e2,big]
end Ev
namespace Ev
open PySem L2
open TL (tl numL)
theorem en6 {env : En} (h : env.length = 6) : ∃ a0 a1 a2 a3 a4 a5,env = [a0,a1,a2,a3,a4,a5]:=by
  match env,h with
  | [a0,a1,a2,a3,a4,a5],_=>exact ⟨a0,a1,a2,a3,a4,a5,rfl⟩
def zmo (m : Mode) : Str:=if m = .plain then Str.ofString "" else Str.ofString " " ++ m.s
theorem zmA (m : Mode) : Sh (zmo m) 6:=by cases m <;> exact ⟨by decide +kernel,by decide +kernel⟩
theorem ziy {n : Nat} {h m : Hs} {s t : BagS} {d : D} {Q : D -> Hs -> Prop} (hn : n < h.length) (hd : D.nr h.length d = true) (q : Q d (h.set n t.o)) :
    ze3 (h.set n s.o) ((h ++ m).set n t.o) /\ ∃ d', frz ((h ++ m).set n t.o) h.length 12 d = some d' /\ Q d' (((h ++ m).set n t.o).take h.length) := by
  have e : (h ++ m).set n t.o = (h.set n s.o).set n t.o ++ m := by rw [List.set_set, List.set_append_left _ _ hn]
  refine ⟨by rw [e]; exact zke zpd, d, zkh (k := 11) hd, ?_⟩
  rw [List.set_append_left _ _ hn, List.take_append_of_le_length (by simp), List.take_of_length_le (by simp)]
  exact q
def zoE (h : Hs) (n : Nat) (k : Int) (i : Nat) (e : En) (h' : Hs) : Prop:=∃ (ws : List Wr) (t : BagS),ws.length = i /\ (∀ w ∈ ws,w.Ok) /\ t.Ok (k + 30 * i) /\ h' = (h ++ [O.lst (ws.map fun w=>D.str w.t)]).set n t.o /\ e.length = 6 /\ e[0]? = some (some (.ref n)) /\ e[1]? = some (some (.ref h.length))
def zot (h : Hs) (n : Nat) (l : D) (k : Int) (i : Nat) (e : En) (h' : Hs) : Prop:=∃ (ps : List Po) (t : BagS),ps.length = i /\ (∀ p ∈ ps,p.Ok) /\ t.Ok (k + 30 * i) /\ h' = (h ++ [O.lst (ps.map fun p=>D.str (zc1 p))]).set n t.o /\ e.length = 6 /\ e[0]? = some (some (.ref n)) /\ e[1]? = some (some l) /\ e[4]? = some (some (.ref h.length))
theorem zlb {n : Nat} {k : Int} {h : Hs} (hn : n < h.length) (hk : k < 1000000000) {i : Nat} (hi : i < 5) {e : En} {h' : Hs} {rt : D -> Hs -> Prop} {bk : En -> Hs -> Prop} {er : Nat -> List D -> En -> Hs -> Prop} (hI : zoE h n k i e h') :
    S.Sat (zen (e.set 2 (some (.int (i : Int)))) h') ⟨zoE h n k (i + 1), rt, bk, zoE h n k (i + 1), er⟩ := by
  obtain ⟨ws, t, hl, hp, okt, rfl, he, e0, e1⟩ := hI
  obtain ⟨a0, a1, a2, a3, a4, a5, rfl⟩ := en6 he
  simp at e0 e1
  subst e0 e1
  have hn2 : n < (h ++ [O.lst (ws.map fun w => D.str w.t)]).length := by simp; omega
  unfold zen
  refine zao fun K hK => ?_
  repeat (first | simp [S.sat_toS, R.sat_bind, big] | simp (disch := omega) only [zaN, mul_r, zaj, zap])
  refine zbB (by first | assumption | omega) (by assumption) (by omega) (by omega) (by omega) fun r1 s1 _ _ _ => ?_; try dsimp only
  refine zfu (fun d => ∃ m : Mode, d = .str (zmo m)) (by omega) (by simp; omega) (by
    intro d hd
    simp at hd
    rcases hd with rfl | rfl | rfl
    · exact ⟨.plain, rfl⟩
    · exact ⟨.push, congrArg D.str (by decide +kernel)⟩
    · exact ⟨.more, congrArg D.str (by decide +kernel)⟩) ?_
  rintro _ ⟨m, rfl⟩
  refine hK _ _ ?_; clear hK K
  repeat (first | simp [S.sat_toS, R.sat_bind, big] | simp (disch := omega) only [zaN, mul_r, zaj, zap])
  rw [if_pos (zh7 hn)]
  repeat (first | simp [S.sat_toS, R.sat_bind, big] | simp (disch := omega) only [zaN, mul_r, zaj, zap])
  refine zbB (by first | assumption | omega) (by assumption) (by omega) (by omega) (by omega) fun r2 s2 _ _ _ => ?_; try dsimp only
  have x1 := zd9 (i := r2) (by omega)
  have f1 := fun h' => str_int (h := h') (i := r2) (by omega)
  have g1 := fun h' => zcJ (h := h') x1 (Sh.lit " " 1) (by decide)
  repeat (first | simp [S.sat_toS, R.sat_bind, big, f1, g1] | simp (disch := omega) only [zaN, mul_r, zaj, zap])
  refine zbB (by first | assumption | omega) (by assumption) (by omega) (by omega) (by omega) fun r3 s3 _ _ _ => ?_; try dsimp only
  refine zfu (fun d => ∃ v : Int, d = .int v /\ 1 <= v /\ v <= 1000000000000000000) (by omega) (by simp; omega) (by
    intro d hd
    simp at hd
    rcases hd with rfl | rfl
    · exact ⟨_, rfl, by omega, by omega⟩
    · exact ⟨_, rfl, by omega, by omega⟩) ?_
  rintro _ ⟨v, rfl, v1, v2⟩
  repeat (first | simp [S.sat_toS, R.sat_bind, big] | simp (disch := omega) only [zaN, mul_r, zaj, zap])
  refine zbB (by first | assumption | omega) (by assumption) (by omega) (by omega) (by omega) fun r4 s4 _ _ _ => ?_; try dsimp only
  have x2 := zd9 (i := 1 + r4) (by omega)
  have f2 := fun h' => str_int (h := h') (i := 1 + r4) (by omega)
  have g2 := fun h' => zcJ (h := h') (x1.app (Sh.lit " " 1)) x2 (by decide)
  have g3 := fun h' => zcJ (h := h') ((x1.app (Sh.lit " " 1)).app x2) (zmA m) (by decide)
  repeat (first | simp [S.sat_toS, R.sat_bind, big, f2, g2, g3] | simp (disch := omega) only [zaN, mul_r, zaj, zap])
  rw [zj0 hn (by rw [List.length_map]; exact Nat.lt_trans (by omega : ws.length < 5) (by decide))]
  repeat (first | simp [S.sat_toS, R.sat_bind, big] | simp (disch := omega) only [zaN, mul_r, zaj, zap])
  unfold zoE
  refine ⟨ws ++ [⟨r2, 1 + r4, m⟩], s4, by simp [hl], ?_, (show s4.Ok (k + 30 * i + 3 + 3 + 3 + 3) by assumption).mono (by push_cast; omega), ?_⟩
  · intro p hp'
    rcases List.mem_append.mp hp' with z | z
    · exact hp p z
    · obtain rfl := List.mem_singleton.mp z
      exact ⟨by show r2 = 0 \/ r2 = 1; omega, by show (1 : Int) <= 1 + r4; omega, by show 1 + r4 <= 1000000000000000000; omega⟩
  · have : Wr.t ⟨r2, 1 + r4, m⟩ = zcf r2 ++ Str.ofString " " ++ zcf (1 + r4) ++ zmo m := Wr.t_eq
    simp [this]
theorem zlp {n : Nat} {k : Int} {l : D} {h : Hs} (hn : n < h.length) (hk : k < 1000000000) {i : Nat} (hi : i < 2) {e : En} {h' : Hs} {rt : D -> Hs -> Prop} {bk : En -> Hs -> Prop} {er : Nat -> List D -> En -> Hs -> Prop} (hI : zot h n l k i e h') :
    S.Sat (zej (e.set 2 (some (.int (i : Int)))) h') ⟨zot h n l k (i + 1), rt, bk, zot h n l k (i + 1), er⟩ := by
  obtain ⟨ps, t, hl, hp, okt, rfl, he, e0, e1, e4⟩ := hI
  obtain ⟨a0, a1, a2, a3, a4, a5, rfl⟩ := en6 he
  simp at e0 e1 e4
  subst e0 e1 e4
  have hn2 : n < (h ++ [O.lst (ps.map fun p => D.str (zc1 p))]).length := by simp; omega
  unfold zej
  refine zao fun K hK => ?_
  repeat (first | simp [S.sat_toS, R.sat_bind, big] | simp (disch := omega) only [zaN, mul_r, zaj, zap])
  refine zbB (by first | assumption | omega) (by assumption) (by omega) (by omega) (by omega) fun r1 s1 _ _ _ => ?_; try dsimp only
  refine zfu (fun d => ∃ x : Hold, d = .str x.s) (by omega) (by simp; omega) (by
    intro d hd
    simp at hd
    rcases hd with rfl | rfl | rfl
    · exact ⟨.off, rfl⟩
    · exact ⟨.part, rfl⟩
    · exact ⟨.all, rfl⟩) ?_
  rintro _ ⟨x, rfl⟩
  have x1 := zkl x
  have g1 := fun h' => zcJ (h := h') x1 (Sh.lit " " 1) (by decide)
  refine hK _ _ ?_; clear hK K
  repeat (first | simp [S.sat_toS, R.sat_bind, big] | simp (disch := omega) only [zaN, mul_r, zaj, zap])
  rw [if_pos (zh7 hn)]
  repeat (first | simp [S.sat_toS, R.sat_bind, big, g1] | simp (disch := omega) only [zaN, mul_r, zaj, zap])
  refine zbB (by first | assumption | omega) (by assumption) (by omega) (by omega) (by omega) fun r2 s2 _ _ _ => ?_; try dsimp only
  have x2 := zd9 (i := r2) (by omega)
  have f1 := fun h' => str_int (h := h') (i := r2) (by omega)
  have g2 := fun h' => zcJ (h := h') (x1.app (Sh.lit " " 1)) x2 (by decide)
  have g3 := fun h' => zcJ (h := h') ((x1.app (Sh.lit " " 1)).app x2) (Sh.lit " " 1) (by decide)
  repeat (first | simp [S.sat_toS, R.sat_bind, big, f1, g2, g3] | simp (disch := omega) only [zaN, mul_r, zaj, zap])
  refine zbB (by first | assumption | omega) (by assumption) (by omega) (by omega) (by omega) fun r3 s3 _ _ _ => ?_; try dsimp only
  have x3 := zd9 (i := r3) (by omega)
  have f2 := fun h' => str_int (h := h') (i := r3) (by omega)
  have g4 := fun h' => zcJ (h := h') (((x1.app (Sh.lit " " 1)).app x2).app (Sh.lit " " 1)) x3 (by decide)
  repeat (first | simp [S.sat_toS, R.sat_bind, big, f2, g4] | simp (disch := omega) only [zaN, mul_r, zaj, zap])
  rw [zj0 hn (by rw [List.length_map]; exact Nat.lt_trans (by omega : ps.length < 2) (by decide))]
  repeat (first | simp [S.sat_toS, R.sat_bind, big] | simp (disch := omega) only [zaN, mul_r, zaj, zap])
  unfold zot
  refine ⟨ps ++ [⟨x, r2, r3⟩], s3, by simp [hl], ?_, (show s3.Ok (k + 30 * i + 3 + 3 + 3) by assumption).mono (by push_cast; omega), ?_⟩
  · intro p hp'
    rcases List.mem_append.mp hp' with z | z
    · exact hp p z
    · obtain rfl := List.mem_singleton.mp z
      exact ⟨by assumption, by show r2 <= 9; omega, by assumption, by show r3 <= 4; omega⟩
  · have : zc1 ⟨x, r2, r3⟩ = x.s ++ Str.ofString " " ++ zcf r2 ++ Str.ofString " " ++ zcf r3 := by
      rw [zhE]
      show x.s ++ Str.ofString " " ++ (zcf r2 ++ Str.ofString " " ++ zcf r3) = _
      simp only [Str.append_assoc]
    simp [this]
theorem zkI {n : Nat} {k : Int} {h : Hs} {s : BagS} {Q : D -> Hs -> Prop} {E : Nat -> List D -> Hs -> Prop} (hn : n < h.length) (ok : s.Ok k) (hk : k < 900000000)
    (q : ∀ (ws : List Wr) (S : Se) (t : BagS), ws.length <= 4 -> (∀ w ∈ ws, w.Ok) -> S.Ok -> t.Ok (k + 300) -> Q (.lst [.str (cvT ws), .str (zc1 S.p0), .str (zjE S)]) (h.set n t.o)) : R.Sat (zdb [.ref n] (h.set n s.o)) Q E := by
  refine zhS ?_
  refine zg0 ?_
  unfold zfQ
  refine zao fun K hK => ?_
  repeat (first | simp [S.sat_toS, R.sat_bind, big] | simp (disch := omega) only [zaN, mul_r, zaj, zap])
  rw [zgZ hn]
  refine hK _ _ ?_; clear hK K
  refine zao fun K hK => ?_
  refine zlL ?_
  have hn1 : n < (h ++ [O.lst []]).length := by simp; omega
  repeat (first | simp [S.sat_toS, R.sat_bind, big] | simp (disch := omega) only [zaN, mul_r, zaj, zap])
  refine zbB (by first | assumption | omega) (by assumption) (by omega) (by omega) (by omega) fun r1 s1 _ _ _ => ?_; try dsimp only
  obtain ⟨m, rfl⟩ := Int.eq_ofNat_of_zero_le (show 0 <= r1 by assumption)
  refine ⟨m, by omega, rfl, zoE h n (k + 3), ⟨[], s1, rfl, by simp, (show s1.Ok (k + 3) by assumption).mono (by omega), rfl, rfl, rfl, rfl⟩, fun i e h' hi hI => zlb hn (by omega) (by omega) hI, ?_⟩
  rintro e h' ⟨ws, t, hl, hp, okt, rfl, he, e0, e1⟩
  refine hK _ _ ?_; clear hK K
  obtain ⟨a0, a1, a2, a3, a4, a5, rfl⟩ := en6 he
  simp at e0 e1
  subst e0 e1
  have hr : zaS (h ++ [O.lst (ws.map fun w => D.str w.t)]) h.length = some (ws.map fun w => D.str w.t) := ze1
  generalize hB : h ++ [O.lst (ws.map fun w => D.str w.t)] = B at *
  have hB2 : B.length = h.length + 1 := by rw [<- hB]; simp
  have hnB : n < B.length := by omega
  refine zao fun K hK => ?_
  repeat (first | simp [S.sat_toS, R.sat_bind, big] | simp (disch := omega) only [zaN, mul_r, zaj, zap])
  rw [zgZ hnB]
  refine hK _ _ ?_; clear hK K
  refine zao fun K hK => ?_
  refine zeQ (zot B n (.ref h.length) (k + 200)) (xs := (List.range 2).map fun (i : Nat) => D.int (i : Int)) (h1 := (B ++ [O.lst []]).set n t.o) (zd0 (m := 2) (by simp) (by decide)) ?_ ?_ ⟨[], t, rfl, by simp, okt.mono (by omega), rfl, rfl, rfl, rfl, rfl⟩
  · intro i x e h' hx hI
    have hi : i < 2 := by
      have := (List.getElem?_eq_some_iff.mp hx).1
      simpa using this
    have hx' : x = .int (i : Int) := by
      rw [List.getElem?_map, List.getElem?_range hi] at hx
      exact (Option.some.inj hx).symm
    subst hx'
    exact ⟨_, zdY, zlp hnB (by omega) hi hI⟩
  rintro e h' ⟨ps, u, hl2, hp2, oku, rfl, he2, e0, e1, e4⟩
  refine hK _ _ ?_; clear hK K
  obtain ⟨b0, b1, b2, b3, b4, b5, rfl⟩ := en6 he2
  simp at e0 e1 e4
  subst e0 e1 e4
  simp at hl2
  match ps, hl2 with
  | [p0, p1], _ =>
    have hnB2 : n < (B ++ [O.lst ([p0, p1].map fun p => D.str (zc1 p))]).length := by simp; omega
    have c0 : ∀ o, zaS ((B ++ [O.lst ([p0, p1].map fun p => D.str (zc1 p))]).set n o) h.length = some (ws.map fun w => D.str w.t) := fun o => by
      rw [ziW (by omega)]
      unfold zaS at hr ⊢
      rw [List.getElem?_append_left (by omega)]
      exact hr
    have c1 : ∀ o, zaS ((B ++ [O.lst ([p0, p1].map fun p => D.str (zc1 p))]).set n o) B.length = some ([p0, p1].map fun p => D.str (zc1 p)) := fun o => zdu hnB
    have oku : u.Ok (k + 260) := oku.mono (by simp; omega)
    have o0 := hp2 p0 (by simp)
    have o1 := hp2 p1 (by simp)
    have j0 : ∀ o, zd3 (.str (Str.ofString "; ")) [.ref h.length] ((B ++ [O.lst ([p0, p1].map fun p => D.str (zc1 p))]).set n o) = .ok (.str (cvT ws)) ((B ++ [O.lst ([p0, p1].map fun p => D.str (zc1 p))]).set n o) := fun o => by
      rw [zis (y := .lst (ws.map fun w => D.str w.t)) (by rw [zgz]; exact c0 o)]
      have := ziJ (h := (B ++ [O.lst ([p0, p1].map fun p => D.str (zc1 p))]).set n o) (Sh.lit "; " 2) (fun p hp' => (zmL hp p hp').1) (by rw [List.length_map]; omega)
      rw [List.map_map] at this
      exact this
    have j1 : ∀ o, zd3 (.str (Str.ofString "; ")) [.ref B.length] ((B ++ [O.lst ([p0, p1].map fun p => D.str (zc1 p))]).set n o) = .ok (.str (zc1 p0 ++ Str.ofString "; " ++ zc1 p1)) ((B ++ [O.lst ([p0, p1].map fun p => D.str (zc1 p))]).set n o) := fun o => by
      rw [zis (y := .lst ([p0, p1].map fun p => D.str (zc1 p))) (by rw [zgz]; exact c1 o)]
      exact ziJ (n := 200) (ps := [zc1 p0, zc1 p1]) (Sh.lit "; " 2) (fun p hp' => by
        simp at hp'
        rcases hp' with rfl | rfl
        · exact zeq o0
        · exact zeq o1) (by simp)
    have i0 : ∀ o, ixD (.ref B.length) (.int 0) ((B ++ [O.lst ([p0, p1].map fun p => D.str (zc1 p))]).set n o) = .ok (.str (zc1 p0)) ((B ++ [O.lst ([p0, p1].map fun p => D.str (zc1 p))]).set n o) := fun o => by
      rw [ziL, c1 o]
      rfl
    have j0' := j0 u.o
    have i0' := i0 u.o
    generalize hC : B ++ [O.lst ([p0, p1].map fun p => D.str (zc1 p))] = C at *
    repeat (first | simp [S.sat_toS, R.sat_bind, big, j0', i0', zc7] | simp (disch := omega) only [zaN, mul_r, zaj, zap])
    refine zbB (by first | assumption | omega) (by assumption) (by omega) (by omega) (by omega) fun r2 s2 _ _ _ => ?_; try dsimp only
    have x1 := zd9 (i := 1 + r2) (by omega)
    have f1 := fun h' => str_int (h := h') (i := 1 + r2) (by omega)
    have g1 := fun h' => zcJ (h := h') x1 (Sh.lit "; " 2) (by decide)
    have g2 := fun h' => zcJ (h := h') (x1.app (Sh.lit "; " 2)) (((zeq o0).app (Sh.lit "; " 2)).app (zeq o1)) (by decide)
    have j1' := j1 s2.o
    repeat (first | simp [S.sat_toS, R.sat_bind, big, f1, g1, g2, j1', zc7] | simp (disch := omega) only [zaN, mul_r, zaj, zap])
    have eC : C = h ++ ([O.lst (ws.map fun w => D.str w.t)] ++ [O.lst ([p0, p1].map fun p => D.str (zc1 p))]) := by rw [<- hC, <- hB, List.append_assoc]
    rw [eC]
    refine ziy hn (by simp [D.nr, D.nrs]) ?_
    have := q ws ⟨1 + r2, p0, p1⟩ s2 (by omega) hp ⟨by show (1 : Int) <= 1 + r2; omega, by show 1 + r2 <= _; omega, o0, o1⟩ ((show s2.Ok (k + 260 + 3) by assumption).mono (by omega))
    have e : zjE ⟨1 + r2, p0, p1⟩ = zcf (1 + r2) ++ Str.ofString "; " ++ (zc1 p0 ++ Str.ofString "; " ++ zc1 p1) := by
      simp only [zjE, Str.append_assoc]
    rw [e] at this
    exact this
end Ev
namespace Ev
open PySem L2
open TL (tl numL)
def tot (ps : List Str) : Nat:=(ps.map fun y : Str=>y.length).sum
theorem zhd {S : List Nat} (hS : S ≠ []) : ∀ (l : List Nat) (k : Nat) (acc : List Nat),k <= l.length -> ((TL.spl S k acc l).map List.length).sum + (TL.spl S k acc l).length * S.length + k <= acc.length + l.length + S.length
  | [],k,acc,hk=>by
    rw [TL.spl_nil]
    have : k = 0:=by simpa using hk
    subst this
    simp
  | c :: r,0,acc,hk=>by
    cases hp : TL.pre S (c :: r) with
    | true =>
      rw [TL.spl_hit hp]
      have h1 : S.length <= (c :: r).length:=by
        have:=congrArg List.length (eq_of_beq hp)
        rw [List.length_take] at this
        omega
      have h0 : S.length ≠ 0:=fun e=>hS (List.length_eq_zero_iff.mp e)
      rw [List.length_cons] at h1
      have:=zhd hS r (S.length - 1) [] (by omega)
      rw [List.map_cons,List.sum_cons,List.length_cons,List.length_cons,Nat.succ_mul]
      rw [List.length_nil] at this
      omega
    | false =>
      rw [TL.spl_miss hp]
      have:=zhd hS r 0 (acc ++ [c]) (by omega)
      rw [List.length_append,List.length_singleton] at this
      rw [List.length_cons]
      omega
  | c :: r,k + 1,acc,hk=>by
    show ((TL.spl S k acc r).map List.length).sum + (TL.spl S k acc r).length * S.length + (k + 1) <= _
    rw [List.length_cons] at hk ⊢
    have:=zhd hS r k acc (by omega)
    omega
theorem zjM {x : Str} : tot (Txt.split x (Str.ofString " ")) + (Txt.split x (Str.ofString " ")).length <= x.length + 1:=by
  have e:=TL.split_spl x (Str.ofString " ") zc8.ne (TL.kind_ok zc8.low)
  have:=zhd zc8.ne (tl x) 0 [] (Nat.zero_le _)
  rw [<- e,List.map_map,List.length_map,show (tl (Str.ofString " ")).length = 1 by decide +kernel,List.length_nil,<- TL.len_tl] at this
  have h2 : tot (Txt.split x (Str.ofString " ")) = ((Txt.split x (Str.ofString " ")).map (List.length ∘ tl)).sum:=by
    unfold tot
    congr 1
  rw [h2]
  omega
theorem ziU {y : Str} : ∀ {ps : List Str},(Str.join y ps).length <= tot ps + ps.length * y.length
  | []=>by show (0 : Nat) <= _; omega
  | [p]=>by show p.length <= _; simp [tot]
  | p :: q :: r=>by
    have:=ziU (y:=y) (ps:=q :: r)
    show (p ++ y ++ Str.join y (q :: r)).length <= _
    rw [strLen_append,strLen_append,List.length_cons,Nat.succ_mul]
    have e : tot (p :: q :: r) = p.length + tot (q :: r):=by unfold tot; rw [List.map_cons,List.sum_cons]
    rw [e]
    omega
theorem zmQ {ps : List Str} {q : Str} {i : Nat} : tot (ps.take i ++ [q] ++ ps.drop i) = tot ps + q.length:=by
  unfold tot
  rw [List.map_append,List.map_append,List.sum_append,List.sum_append,List.map_take,List.map_drop]
  have : ((ps.map fun y : Str=>y.length).take i).sum + ((ps.map fun y : Str=>y.length).drop i).sum = (ps.map fun y : Str=>y.length).sum:=by
    rw [<- List.sum_append,List.take_append_drop]
  simp only [List.map_cons,List.map_nil,List.sum_cons,List.sum_nil]
  omega
theorem zdx {x : Str} {k : Nat} {lo hi : Option Int} (hx : Sh x k) : Sh (cutS x lo hi) k:=by
  refine ⟨?_,zjy hx.ok⟩
  have hl:=hx.len
  have : (cutS x lo hi).length <= x.length:=by
    unfold cutS Str.length
    rw [List.size_toArray,List.length_take,List.length_drop,Array.length_toList]
    omega
  omega
def zlg (h : Hs) (n k : Nat) (kk : Int) (d : D) (h' : Hs) : Prop:=∃ (y : Str) (t : BagS),d = .str y /\ h' = h.set n t.o /\ Sh y (2 * k + 8) /\ t.Ok (kk + 20)
theorem zjb {n : Nat} {x : Str} {k : Nat} {kk : Int} {h : Hs} {s : BagS} (hn : n < h.length) (ok : s.Ok kk) (hk : kk < 900000000) (hx : Sh x k) (hk2 : k <= 200000) :
    ∃ (y : Str) (t : BagS), zdj [.ref n, .str x] (h.set n s.o) = .ok (.str y) (h.set n t.o) /\ Sh y (2 * k + 8) /\ t.Ok (kk + 20) := by
  have key : R.Sat (zdj [.ref n, .str x] (h.set n s.o)) (zlg h n k kk) noE := by
    have hl := hx.len
    have e2 : ∀ h, zd5 [.str x] h = .ok (.int x.length) h := fun h => len_str (by omega)
    refine zhS ?_
    refine zg0 ?_
    unfold zgV
    refine zao fun K hK => ?_
    repeat (first | simp [S.sat_toS, R.sat_bind, big, e2] | simp (disch := omega) only [zaN, mul_r, zaj, zap])
    refine zbB (by first | assumption | omega) (by assumption) (by omega) (by omega) (by omega) fun r1 s1 _ _ _ => ?_; try dsimp only
    repeat (first | simp [S.sat_toS, R.sat_bind, big] | simp (disch := omega) only [zaN, mul_r, zaj, zap])
    refine zbB (by first | assumption | omega) (by assumption) (by omega) (by omega) (by omega) fun r2 s2 _ _ _ => ?_; try dsimp only
    repeat (first | simp [S.sat_toS, R.sat_bind, big] | simp (disch := omega) only [zaN, mul_r, zaj, zap])
    refine hK _ _ ?_; clear hK K
    refine zao fun K hK => ?_
    repeat (first | simp [S.sat_toS, R.sat_bind, big] | simp (disch := omega) only [zaN, mul_r, zaj, zap])
    refine hK _ _ ?_; clear hK K
    refine zao fun K hK => ?_
    repeat (first | simp [S.sat_toS, R.sat_bind, big] | simp (disch := omega) only [zaN, mul_r, zaj, zap])
    refine zbB (by first | assumption | omega) (by assumption) (by omega) (by omega) (by omega) fun r3 s3 _ _ _ => ?_; try dsimp only
    refine zfu (fun d => ∃ c : Str, d = .str c /\ Sh c 6) (by omega) (by simp; omega) (by
      intro d hd
      simp at hd
      rcases hd with rfl | rfl | rfl | rfl | rfl | rfl | rfl | rfl | rfl | rfl | rfl | rfl | rfl | rfl | rfl | rfl | rfl <;> exact ⟨_, rfl, ⟨by decide +kernel, by decide +kernel⟩⟩) ?_
    rintro _ ⟨c, rfl, hc⟩
    repeat (first | simp [S.sat_toS, R.sat_bind, big] | simp (disch := omega) only [zaN, mul_r, zaj, zap])
    refine hK _ _ ?_; clear hK K
    have fin : ∀ (y : Str) (t : BagS), Sh y (2 * k + 8) -> t.Ok (kk + 20) -> ze3 (h.set n s.o) (h.set n t.o) /\ ∃ d', frz (h.set n t.o) h.length 12 (.str y) = some d' /\ zlg h n k kk d' ((h.set n t.o).take h.length) := fun y t hy ht => by
      have := ziy (m := []) (s := s) (t := t) (d := .str y) (Q := zlg h n k kk) hn (by simp [D.nr]) ⟨y, t, rfl, rfl, hy, ht⟩
      rwa [List.append_nil] at this
    have ok3 : s3.Ok (kk + 9) := (show s3.Ok (kk + 3 + 3 + 3) by assumption).mono (by omega)
    have sl := fun lo hi h => zkz (z := x) (lo := lo) (hi := hi) (h := h) (by omega)
    have a1 := fun lo hi h => zcJ (h := h) (zdx (lo := lo) (hi := hi) hx) hc (by omega)
    have a2 := fun lo hi lo2 hi2 h => zcJ (h := h) ((zdx (lo := lo) (hi := hi) hx).app hc) (zdx (lo := lo2) (hi := hi2) hx) (by omega)
    have a3 := fun lo hi lo2 hi2 h => zcJ (h := h) (zdx (lo := lo) (hi := hi) hx) (zdx (lo := lo2) (hi := hi2) hx) (by omega)
    have a4 := fun h => zcJ (h := h) hx hc (by omega)
    have a5 := fun h => zcJ (h := h) hc hx (by omega)
    by_cases w0 : r2 = 0
    · refine zao fun K hK => ?_
      repeat (first | simp [S.sat_toS, R.sat_bind, big, w0, sl, a1, a2] | simp (disch := omega) only [zaN, mul_r, zaj, zap])
      exact fin _ s3 (((((zdx hx).app hc).app (zdx hx))).mono (by omega)) (ok3.mono (by omega))
    by_cases w1 : r2 = 1
    · refine zao fun K hK => ?_
      repeat (first | simp [S.sat_toS, R.sat_bind, big, w1] | simp (disch := omega) only [zaN, mul_r, zaj, zap])
      refine hK _ _ ?_; clear hK K
      refine zao fun K hK => ?_
      repeat (first | simp [S.sat_toS, R.sat_bind, big, sl, a3] | simp (disch := omega) only [zaN, mul_r, zaj, zap])
      exact fin _ s3 (((zdx hx).app (zdx hx)).mono (by omega)) (ok3.mono (by omega))
    by_cases w2 : r2 = 2
    · refine zao fun K hK => ?_
      repeat (first | simp [S.sat_toS, R.sat_bind, big, w2] | simp (disch := omega) only [zaN, mul_r, zaj, zap])
      refine hK _ _ ?_; clear hK K
      refine zao fun K hK => ?_
      repeat (first | simp [S.sat_toS, R.sat_bind, big] | simp (disch := omega) only [zaN, mul_r, zaj, zap])
      refine hK _ _ ?_; clear hK K
      refine zao fun K hK => ?_
      repeat (first | simp [S.sat_toS, R.sat_bind, big, sl, a1, a2] | simp (disch := omega) only [zaN, mul_r, zaj, zap])
      exact fin _ s3 (((((zdx hx).app hc).app (zdx hx))).mono (by omega)) (ok3.mono (by omega))
    by_cases w3 : r2 = 3
    · refine zao fun K hK => ?_
      repeat (first | simp [S.sat_toS, R.sat_bind, big, w3] | simp (disch := omega) only [zaN, mul_r, zaj, zap])
      refine hK _ _ ?_; clear hK K
      refine zao fun K hK => ?_
      repeat (first | simp [S.sat_toS, R.sat_bind, big] | simp (disch := omega) only [zaN, mul_r, zaj, zap])
      refine hK _ _ ?_; clear hK K
      refine zao fun K hK => ?_
      repeat (first | simp [S.sat_toS, R.sat_bind, big] | simp (disch := omega) only [zaN, mul_r, zaj, zap])
      refine hK _ _ ?_; clear hK K
      refine zao fun K hK => ?_
      repeat (first | simp [S.sat_toS, R.sat_bind, big, a4] | simp (disch := omega) only [zaN, mul_r, zaj, zap])
      exact fin _ s3 ((hx.app hc).mono (by omega)) (ok3.mono (by omega))
    by_cases w4 : r2 = 4
    · refine zao fun K hK => ?_
      repeat (first | simp [S.sat_toS, R.sat_bind, big, w4] | simp (disch := omega) only [zaN, mul_r, zaj, zap])
      refine hK _ _ ?_; clear hK K
      refine zao fun K hK => ?_
      repeat (first | simp [S.sat_toS, R.sat_bind, big] | simp (disch := omega) only [zaN, mul_r, zaj, zap])
      refine hK _ _ ?_; clear hK K
      refine zao fun K hK => ?_
      repeat (first | simp [S.sat_toS, R.sat_bind, big] | simp (disch := omega) only [zaN, mul_r, zaj, zap])
      refine hK _ _ ?_; clear hK K
      refine zao fun K hK => ?_
      repeat (first | simp [S.sat_toS, R.sat_bind, big] | simp (disch := omega) only [zaN, mul_r, zaj, zap])
      refine hK _ _ ?_; clear hK K
      refine zao fun K hK => ?_
      repeat (first | simp [S.sat_toS, R.sat_bind, big, a5] | simp (disch := omega) only [zaN, mul_r, zaj, zap])
      exact fin _ s3 ((hc.app hx).mono (by omega)) (ok3.mono (by omega))
    · obtain ⟨p1, p2, p3⟩ := zbq zc8 hx
      have ht := zjM (x := x)
      have sp : ∀ h', zfG (.str x) [.str (Str.ofString " ")] h' = .ok (.ref h'.length) (h' ++ [.lst ((Txt.split x (Str.ofString " ")).map D.str)]) := fun h' => by
        have q := zb7 (h := h') zc8 hx (by omega)
        unfold zcs at q
        unfold zfG
        dsimp only at q ⊢
        split at q
        · rename_i g
          rw [if_pos g]
        · cases q
      generalize Txt.split x (Str.ofString " ") = ps at *
      refine zao fun K hK => ?_
      repeat (first | simp [S.sat_toS, R.sat_bind, big, w0] | simp (disch := omega) only [zaN, mul_r, zaj, zap])
      refine hK _ _ ?_; clear hK K
      refine zao fun K hK => ?_
      repeat (first | simp [S.sat_toS, R.sat_bind, big, w1] | simp (disch := omega) only [zaN, mul_r, zaj, zap])
      refine hK _ _ ?_; clear hK K
      refine zao fun K hK => ?_
      repeat (first | simp [S.sat_toS, R.sat_bind, big, w2] | simp (disch := omega) only [zaN, mul_r, zaj, zap])
      refine hK _ _ ?_; clear hK K
      refine zao fun K hK => ?_
      repeat (first | simp [S.sat_toS, R.sat_bind, big, w3] | simp (disch := omega) only [zaN, mul_r, zaj, zap])
      refine hK _ _ ?_; clear hK K
      refine zao fun K hK => ?_
      repeat (first | simp [S.sat_toS, R.sat_bind, big, w4] | simp (disch := omega) only [zaN, mul_r, zaj, zap])
      refine hK _ _ ?_; clear hK K
      refine zao fun K hK => ?_
      repeat (first | simp [S.sat_toS, R.sat_bind, big, sp, zc7] | simp (disch := omega) only [zaN, mul_r, zaj, zap])
      rw [zgZ hn]
      refine hK _ _ ?_; clear hK K
      have hn2 : n < (h ++ [O.lst (ps.map D.str)]).length := by simp; omega
      have cl : ∀ o, zd5 [.ref h.length] ((h ++ [O.lst (ps.map D.str)]).set n o) = .ok (.int ps.length) ((h ++ [O.lst (ps.map D.str)]).set n o) := fun o => by
        show (match rdL ((h ++ [O.lst (ps.map D.str)]).set n o) (.ref h.length) with
          | some ys => R.ok (D.int ys.length) _
          | none => .bad) = _
        rw [show rdL ((h ++ [O.lst (ps.map D.str)]).set n o) (.ref h.length) = zaS ((h ++ [O.lst (ps.map D.str)]).set n o) h.length from rfl, zdu hn]
        simp
      have ty := fun o => zh7 (h := h) (n := n) (xs := ps.map D.str) (o := o) hn
      have hp0 : 0 < ps.length := List.length_pos_iff.mpr p3
      refine zao fun K hK => ?_
      repeat (first | simp [S.sat_toS, R.sat_bind, big, ty, cl] | simp (disch := omega) only [zaN, mul_r, zaj, zap])
      refine zbB (by first | assumption | omega) (by assumption) (by omega) (by omega) (by omega) fun r4 s4 _ _ _ => ?_; try dsimp only
      repeat (first | simp [S.sat_toS, R.sat_bind, big, cl] | simp (disch := omega) only [zaN, mul_r, zaj, zap])
      refine zbB (by first | assumption | omega) (by assumption) (by omega) (by omega) (by omega) fun r5 s5 _ _ _ => ?_; try dsimp only
      have ix : ∃ q ∈ ps, ∀ o, ixD (.ref h.length) (.int r5) ((h ++ [O.lst (ps.map D.str)]).set n o) = .ok (.str q) ((h ++ [O.lst (ps.map D.str)]).set n o) := by
        obtain ⟨m, rfl⟩ := Int.eq_ofNat_of_zero_le (show 0 <= r5 by assumption)
        have hm : m < ps.length := by omega
        refine ⟨ps[m], List.getElem_mem hm, fun o => ?_⟩
        rw [ziL, zdu hn]
        have : atI (ps.map D.str) (m : Int) = some (.str ps[m]) := by
          unfold atI ixN
          simp [hm]
        dsimp only
        rw [this]
      obtain ⟨q, hq, ix⟩ := ix
      have ins : zgU (.ref h.length) [.int r4, .str q] ((h ++ [O.lst (ps.map D.str)]).set n s5.o) = .ok .non ((h ++ [O.lst ((ps.take r4.toNat ++ [q] ++ ps.drop r4.toNat).map D.str)]).set n s5.o) := by
        show (match zaS ((h ++ [O.lst (ps.map D.str)]).set n s5.o) h.length with
          | some ys => if ys.length < big /\ 0 <= r4 /\ Nat.ble r4.natAbs 1000000000 = true then R.ok D.non (((h ++ [O.lst (ps.map D.str)]).set n s5.o).set h.length (O.lst (ys.take r4.toNat ++ [D.str q] ++ ys.drop r4.toNat))) else .bad
          | none => .bad) = _
        rw [zdu hn]
        dsimp only
        rw [if_pos ⟨by rw [List.length_map]; exact Nat.lt_trans (by omega : ps.length < 300000) (by decide), by omega, Nat.ble_eq_true_of_le (by omega)⟩, List.set_comm _ _ (by omega)]
        congr 2
        rw [List.set_append_right _ _ (Nat.le_refl _), Nat.sub_self, List.map_append, List.map_append, List.map_take, List.map_drop]
        rfl
      generalize hqs : ps.take r4.toNat ++ [q] ++ ps.drop r4.toNat = qs at *
      have hpq : ∀ p ∈ qs, Sh p k := fun p hp => by
        rw [<- hqs] at hp
        rcases List.mem_append.mp hp with hp | hp
        · rcases List.mem_append.mp hp with hp | hp
          · exact p1 p (List.mem_of_mem_take hp)
          · rcases List.mem_singleton.mp hp with rfl
            exact p1 p hq
        · exact p1 p (List.mem_of_mem_drop hp)
      have htq : tot qs = tot ps + q.length := by rw [<- hqs]; exact zmQ
      have hlq : qs.length = ps.length + 1 := by
        rw [<- hqs, List.length_append, List.length_append, List.length_take, List.length_drop, List.length_singleton]
        omega
      have l1 := (p1 q hq).len
      have lsp : (Str.ofString " ").length = 1 := by decide +kernel
      have jn : zd3 (.str (Str.ofString " ")) [.ref h.length] ((h ++ [O.lst (qs.map D.str)]).set n s5.o) = .ok (.str (Str.join (Str.ofString " ") qs)) ((h ++ [O.lst (qs.map D.str)]).set n s5.o) := by
        rw [zis (y := .lst (qs.map D.str)) (by rw [zgz]; exact zdu hn)]
        refine zjR ?_ (zek (Sh.lit " " 1) hpq).ok (ze0 qs)
        have : (qs.map fun y : Str => y.length).sum = tot qs := rfl
        rw [this, lsp]
        omega
      have jl := ziU (y := Str.ofString " ") (ps := qs)
      rw [lsp] at jl
      repeat (first | simp [S.sat_toS, R.sat_bind, big, ix, ins] | simp (disch := omega) only [zaN, mul_r, zaj, zap])
      refine hK _ _ ?_; clear hK K
      repeat (first | simp [S.sat_toS, R.sat_bind, big, jn, zc7] | simp (disch := omega) only [zaN, mul_r, zaj, zap])
      refine ziy (m := [O.lst (qs.map D.str)]) (s := s) (t := s5) (d := .str (Str.join (Str.ofString " ") qs)) (Q := zlg h n k kk) hn (by simp [D.nr]) ⟨_, s5, rfl, rfl, ⟨by omega, (zek (Sh.lit " " 1) hpq).ok⟩, ?_⟩
      exact (show s5.Ok (kk + 9 + 3 + 3) by assumption).mono (by omega)
  obtain ⟨d, h', e, y, t, rfl, rfl, hy, ht⟩ := key.get
  exact ⟨y, t, e, hy, ht⟩
end Ev
namespace Ev
open PySem L2
open TL (tl numL)
theorem zfA {i lo hi : Int} (h0 : 0 <= i) (h1 : i <= 1000000000000000000) (h2 : lo <= i) (h3 : i <= hi) : inN (zcf i) lo hi = true:=by
  obtain ⟨n,rfl⟩:=Int.eq_ofNat_of_zero_le h0
  unfold inN
  rw [zjm ⟨Nat.lt_of_le_of_lt (by omega : n <= 1000000000000000000) (by decide)⟩]
  exact decide_eq_true ⟨h2,h3⟩
theorem zdc {y : Str} {s : Nat} {S : List Nat} {ps : List Str} (ey : tl y = s :: S) (hk : y.cps.all (· < 256) = true) (hp : ∀ p ∈ ps,s ∉ tl p) (hne : ps ≠ []) : Txt.split (Str.join y ps) y = ps:=by
  have e:=TL.split_join ey hk hne hp
  rwa [zlh] at e
theorem zq2 {w : Wr} (o : w.Ok) : zkP w.t = true:=by
  unfold zkP Wr.t
  rw [zdc (s:=32) (S:=[]) (zi8 " " [32]) (by decide +kernel) (fun p hp=>(o.sh_ps p hp).2) (by unfold Wr.ps; simp)]
  have a:=zfA (i:=w.who) (lo:=0) (hi:=1) (by have:=o.who; omega) (by have:=o.who; omega) (by have:=o.who; omega) (by have:=o.who; omega)
  have b:=zfA (i:=w.len) (lo:=1) (hi:=1000000000000000000) (by have:=o.l1; omega) o.l2 o.l1 o.l2
  unfold Wr.ps
  cases e : w.mode with
  | plain=>simp [zcF,a,b]
  | push=>simp [zcF,a,b,zjB]
  | more=>simp [zcF,a,b,zjB]
theorem zmB {ws : List Wr} (hl : ws.length <= 200) (ok : ∀ w ∈ ws,w.Ok) : zdQ (cvT ws) = true:=by
  unfold zdQ
  cases ws with
  | nil=>simp [cvT,show Str.join (Str.ofString "; ") [] = Str.ofString "" by decide +kernel]
  | cons w ws =>
    have e : Txt.split (cvT (w :: ws)) (Str.ofString "; ") = (w :: ws).map Wr.t:=zdc (s:=59) (S:=[32]) (zi8 "; " [59,32]) (by decide +kernel) (fun p hp=>(zmL ok p hp).2) (by simp)
    rw [e,List.length_map,decide_eq_true hl,List.all_map,show (w :: ws).all (zkP ∘ Wr.t) = true from List.all_eq_true.mpr (fun v hv=>zq2 (ok v hv)),Bool.and_self,Bool.or_true]
theorem zkH {p : Po} (o : p.Ok) : zcV (zc1 p) = true:=by
  obtain ⟨n,e1,_⟩:=o.ne
  obtain ⟨m,e2,_⟩:=o.nq
  unfold zcV
  have e : Txt.split (zc1 p) (Str.ofString " ") = [p.hold.s,zcf p.every,zcf p.quick]:=by
    rw [zhE]
    refine zdc (s:=32) (S:=[]) (zi8 " " [32]) (by decide +kernel) ?_ (by simp)
    intro x hx
    simp at hx
    rcases hx with rfl | rfl | rfl
    · exact zhs.1
    · rw [e1]; exact zcB (by omega)
    · rw [e2]; exact zcB (by omega)
  have h1 : zmi p.hold.s = true:=by cases p.hold <;> decide +kernel
  have h2:=zfA (i:=p.every) (lo:=0) (hi:=9) o.e0 (by have:=o.e9; omega) o.e0 o.e9
  have h3:=zfA (i:=p.quick) (lo:=0) (hi:=4) o.q0 (by have:=o.q4; omega) o.q0 o.q4
  rw [e,zcK,h1,h2,h3]
  rfl
theorem zoy {s : Se} (o : s.Ok) : isSet (zjE s) = true:=by
  obtain ⟨n,e1,_⟩:=o.ns
  unfold isSet
  have e : Txt.split (zjE s) (Str.ofString "; ") = [zcf s.size,zc1 s.p0,zc1 s.p1]:=by
    rw [zkB]
    refine zdc (s:=59) (S:=[32]) (zi8 "; " [59,32]) (by decide +kernel) ?_ (by simp)
    intro x hx
    simp at hx
    rcases hx with rfl | rfl | rfl
    · rw [e1]; exact zcB (by omega)
    · exact ziV o.o0
    · exact ziV o.o1
  have h1:=zfA (i:=s.size) (lo:=1) (hi:=1000000000000000000) (by have:=o.z1; omega) o.z2 o.z1 o.z2
  rw [e,zfc,h1,zkH o.o0,zkH o.o1]
  rfl
theorem en9 {env : En} (h : env.length = 9) : ∃ a0 a1 a2 a3 a4 a5 a6 a7 a8,env = [a0,a1,a2,a3,a4,a5,a6,a7,a8]:=by
  match env,h with
  | [a0,a1,a2,a3,a4,a5,a6,a7,a8],_=>exact ⟨a0,a1,a2,a3,a4,a5,a6,a7,a8,rfl⟩
structure Dr (i : Nat) (x : Str) : Prop where
  lt : i < 3
  sh : Sh x 1000
  ok : okT i x = true
theorem znP {ws : List Wr} {S : Se} (hl : ws.length <= 4) (ok : ∀ w ∈ ws,w.Ok) (o : S.Ok) {i : Nat} {x : Str} (e : ([cvT ws,zc1 S.p0,zjE S])[i]? = some x) : Dr i x:=by
  match i,e with
  | 0,e =>
    cases e
    refine ⟨by omega,Sh.mono (zek (n:=216) (m:=2) (Sh.lit "; " 2) fun p hp=>(zmL ok p hp).1) (by rw [List.length_map]; omega),zmB (by omega) ok⟩
  | 1,e=>cases e; exact ⟨by omega,(zeq o.o0).mono (by omega),zkH o.o0⟩
  | 2,e=>cases e; exact ⟨by omega,zmy o,zoy o⟩
def LI (ns : List Int) (h : Hs) (n : Nat) (e : En) : Prop:=e.length = 9 /\ e[0]? = some (some (.rol (ns.map D.int))) /\ e[2]? = some (some (.ref n))
def BI (ns : List Int) (h : Hs) (n i : Nat) (x : Str) (k : Int) (j : Nat) (e : En) (h' : Hs) : Prop:=∃ t : BagS,t.Ok (k + 50 * j) /\ h' = h.set n t.o /\ LI ns h n e /\ e[3]? = some (some (.int (i : Int))) /\ e[4]? = some (some (.str x))
theorem law72_1 {ns : List Int} {h : Hs} {n i j : Nat} {x : Str} {k : Int} {e : En} {h' : Hs} {rt : D -> Hs -> Prop} {bk : En -> Hs -> Prop} {er : Nat -> List D -> En -> Hs -> Prop} (hn : n < h.length) (hk : k < 100000000) (hj : j < 6) (d : Dr i x) (I : BI ns h n i x k j e h') :
    S.Sat (zid (e.set 5 (some (.int (j : Int)))) h') ⟨BI ns h n i x k (j + 1), rt, bk, BI ns h n i x k (j + 1), er⟩ := by
  obtain ⟨t, ok, rfl, ⟨he, e0, e2⟩, e3, e4⟩ := I
  obtain ⟨a0, a1, a2, a3, a4, a5, a6, a7, a8, rfl⟩ := en9 he
  simp at e0 e2 e3 e4
  subst e0 e2 e3 e4
  obtain ⟨y, u, b1, hy, oku⟩ := zjb hn ok (by omega) d.sh (by omega)
  obtain ⟨z, v, b2, hz, okv⟩ := zjb hn oku (by omega) hy (by omega)
  have r1 := fun h => zdh (h := h) d.lt hy (by omega)
  have r2 := fun h => zdh (h := h) d.lt hz (by omega)
  unfold zid
  refine zao fun K hK => ?_
  repeat (first | simp [S.sat_toS, R.sat_bind, big, b1] | simp (disch := omega) only [zaN, mul_r, zaj, zap])
  refine hK _ _ ?_; clear hK K
  repeat (first | simp [S.sat_toS, R.sat_bind, big, r1, b2, r2] | simp (disch := omega) only [zaN, mul_r, zaj, zap])
  exact ⟨v, okv.mono (by push_cast; omega), rfl, ⟨rfl, rfl, rfl⟩, rfl, rfl⟩
def zoo (x : Str) : List D:=[.non,.bl true,.int 5,.lst [],.lst [.str x],.tup [.str x]]
theorem zoI {x : Str} {d : D} (hd : d ∈ zoo x) {h : Hs} : zhg .str [0,1] d h = .ok (.bl false) h:=by
  simp [zoo] at hd
  rcases hd with rfl | rfl | rfl | rfl | rfl | rfl <;> rfl
theorem law72_2 {ns : List Int} {h : Hs} {n i j : Nat} {x : Str} {k : Int} {d : D} {m : Nat} {e : En} {h' : Hs} {rt : D -> Hs -> Prop} {bk : En -> Hs -> Prop} {er : Nat -> List D -> En -> Hs -> Prop} (dr : Dr i x) (hd : d ∈ zoo x) (I : BI ns h n i x k m e h') :
    S.Sat (ziD (e.set 7 (some d)) h') ⟨BI ns h n i x k m, rt, bk, BI ns h n i x k m, er⟩ := by
  obtain ⟨t, ok, rfl, ⟨he, e0, e2⟩, e3, e4⟩ := I
  obtain ⟨a0, a1, a2, a3, a4, a5, a6, a7, a8, rfl⟩ := en9 he
  simp at e0 e2 e3 e4
  subst e0 e2 e3 e4
  have r1 := fun h => zk0 (h := h) dr.lt fun h' => zoI (h := h') hd
  have r2 : ∀ h, neD (.lst [.non, .bl true, .bl true]) (.lst [.non, .bl true, .bl true]) h = .ok (.bl false) h := fun _ => rfl
  unfold ziD
  repeat (first | simp [S.sat_toS, R.sat_bind, big, r1, r2] | simp (disch := omega) only [zaN, mul_r, zaj, zap])
  exact ⟨t, ok, rfl, ⟨rfl, rfl, rfl⟩, rfl, rfl⟩
def CI (ns : List Int) (h : Hs) (n : Nat) (k : Int) (i : Nat) (e : En) (h' : Hs) : Prop:=∃ t : BagS,t.Ok (k + 400 * i) /\ h' = h.set n t.o /\ LI ns h n e
theorem law72_3 {ns : List Int} {h : Hs} {n i : Nat} {x : Str} {k : Int} {e : En} {h' : Hs} {rt : D -> Hs -> Prop} {bk : En -> Hs -> Prop} {er : Nat -> List D -> En -> Hs -> Prop} (hn : n < h.length) (hk : k < 10000000) (dr : Dr i x) (I : CI ns h n k i e h') :
    S.Sat (zia ((e.set 3 (some (.int (i : Int)))).set 4 (some (.str x))) h') ⟨CI ns h n k (i + 1), rt, bk, CI ns h n k (i + 1), er⟩ := by
  obtain ⟨t, ok, rfl, he, e0, e2⟩ := I
  obtain ⟨a0, a1, a2, a3, a4, a5, a6, a7, a8, rfl⟩ := en9 he
  simp at e0 e2
  subst e0 e2
  have hi := dr.lt
  have r1 := fun h => zdh (h := h) dr.lt dr.sh (by omega)
  have r2 : ∀ h, zcj [.int i, .str x] h = .ok (.str "read") h := fun h => by
    rw [zjz dr.lt dr.sh (by omega), dr.ok]
    rfl
  have r3 : ∀ h, neD (.str "read") (.str "read") h = .ok (.bl false) h := fun _ => rfl
  unfold zia
  refine zao fun K hK => ?_
  repeat (first | simp [S.sat_toS, R.sat_bind, big, r1, r2, r3] | simp (disch := omega) only [zaN, mul_r, zaj, zap])
  refine hK _ _ ?_; clear hK K
  refine zao fun K hK => ?_
  refine zeQ (BI ns h n i x (k + 400 * i)) (xs := (List.range 6).map fun (i : Nat) => D.int (i : Int)) (h1 := h.set n t.o) (zd0 (m := 6) (by simp) (by decide)) ?_ ?_ ⟨t, ok.mono (by omega), rfl, ⟨rfl, rfl, rfl⟩, rfl, rfl⟩
  · intro j y e h' hx hI
    have hj : j < 6 := by
      have := (List.getElem?_eq_some_iff.mp hx).1
      simpa using this
    have hx' : y = .int (j : Int) := by
      rw [List.getElem?_map, List.getElem?_range hj] at hx
      exact (Option.some.inj hx).symm
    subst hx'
    exact ⟨_, zdY, law72_1 hn (by omega) hj dr hI⟩
  rintro e h' hI
  have hI : BI ns h n i x (k + 400 * i) 6 e h' := by simpa using hI
  refine hK _ _ ?_; clear hK K
  have src : zf6 (zgu (zac (eC .non) (zac (eC (.bl true)) (zac (eC (.int 5)) (zac (zgu zaw) (zac (zgu (zac (zag 4) zaw)) (zac (zj5 (zac (zag 4) zaw)) zaw))))))) e h' = .ok (zoo x, []) h' := by
    obtain ⟨t, ok, rfl, ⟨he, e0, e2⟩, e3, e4⟩ := hI
    simp [e4, zoo, big]
  refine zeQ (fun _ => BI ns h n i x (k + 400 * i) 6) src ?_ ?_ hI
  · intro j y e h' hx hI
    exact ⟨_, zdY, law72_2 (j := 0) dr (List.mem_of_getElem? hx) hI⟩
  · rintro e h' ⟨t, ok, rfl, hl, _, _⟩
    exact ⟨t, ok.mono (by push_cast; omega), rfl, hl⟩
theorem zlu {α : Type} {f : α -> D} : ∀ {xs : List α} {k i : Nat} {x : D},(zf8 k (xs.map f))[i]? = some x -> ∃ a,xs[i]? = some a /\ x = .tup [.int ((k + i : Nat) : Int),f a]:=by
  intro xs k i x hx
  obtain ⟨d',h0,rfl⟩:=zfU k (xs.map f) i x hx
  rw [List.getElem?_map] at h0
  cases e : xs[i]? with
  | none=>rw [e] at h0; cases h0
  | some a=>rw [e] at h0; cases h0; exact ⟨a,rfl,rfl⟩
theorem law72_4 {ns : List Int} {i : Nat} {e : En} {h : Hs} (hi : i < 6) (hl : e.length = 9) (h0 : e[0]? = some (some (.rol (ns.map D.int)))) (h1 : e[1]? = some (some (.int i))) :
    S.Sat (ziG e h) ⟨fun e _ => e.length = 9 /\ e[0]? = some (some (.rol (ns.map D.int))), fun _ _ => False, fun _ _ => False, fun _ _ => False, fun _ _ _ _ => False⟩ := by
  obtain ⟨a0, a1, a2, a3, a4, a5, a6, a7, a8, rfl⟩ := en9 hl
  simp at h0 h1
  subst h0 h1
  unfold ziG
  refine zao fun K hK => ?_
  repeat (first | simp [S.sat_toS, R.sat_bind, big] | simp (disch := omega) only [zaN, mul_r, zaj, zap])
  refine zmW (by omega) fun h1 n s hn ok => ?_
  refine hK _ _ ?_; clear hK K
  obtain ⟨d, h', e, ws, S, t, q1, q2, q3, q4, rfl, rfl⟩ := (zkI (Q := fun d h' => ∃ (ws : List Wr) (S : Se) (t : BagS), ws.length <= 4 /\ (∀ w ∈ ws, w.Ok) /\ S.Ok /\ t.Ok (0 + 300) /\ d = .lst [.str (cvT ws), .str (zc1 S.p0), .str (zjE S)] /\ h' = h1.set n t.o) (E := noE) hn ok (by omega) fun ws S t x1 x2 x3 x4 => ⟨ws, S, t, x1, x2, x3, x4, rfl, rfl⟩).get
  have src : zja (zac (zaq (za2 1 zdb) (zbM (zac (zag 2) zaw))) zaw) [some (.rol (ns.map D.int)), some (.int i), some (.ref n), a3, a4, a5, a6, a7, a8] (h1.set n s.o) = .ok (zf8 0 ([cvT ws, zc1 S.p0, zjE S].map D.str), []) (h1.set n t.o) := by
    unfold zja
    simp [e, gOf]
  refine zeQ (CI ns h1 n 300) src ?_ ?_ ⟨t, q4.mono (by omega), rfl, rfl, rfl, rfl⟩
  · intro j y e h' hx hI
    obtain ⟨x, hx2, rfl⟩ := zlu hx
    have dr := znP q1 q2 q3 hx2
    rw [Nat.zero_add]
    exact ⟨_, rfl, law72_3 hn (by omega) dr hI⟩
  · rintro e h' ⟨t, _, _, he, e0, _⟩
    exact ⟨he, e0⟩
theorem zlJ {h : Hs} : zd7 (.lst [.str "0 1"]) (.int 201) h = .ok (.lst ((List.replicate 201 (Str.ofString "0 1")).map D.str)) h:=by
  show (if Nat.ble (201 : Int).natAbs big = true /\ [D.str "0 1"].length * (201 : Int).toNat <= big then R.ok (D.lst (List.replicate (201 : Int).toNat [D.str "0 1"]).flatten) h else .bad) = _
  rw [if_pos (by decide),show (201 : Int).toNat = 201 from rfl,List.flatten_replicate_singleton,List.map_replicate]
theorem zrF {n : Nat} : ∀ p ∈ List.replicate n (Str.ofString "0 1"),Sh p 3:=fun p hp=>by
  rw [List.eq_of_mem_replicate hp]
  exact ⟨by decide +kernel,by decide +kernel⟩
theorem zn2 {n : Nat} (hn : n <= 300) : Sh (Str.join (Str.ofString "; ") (List.replicate n (Str.ofString "0 1"))) 2000:=(zek (Sh.lit "; " 2) zrF).mono (by rw [List.length_replicate]; omega)
theorem zo6 {n : Nat} (hn : n <= 300) {h : Hs} : zd3 (.str (Str.ofString "; ")) [.lst ((List.replicate n (Str.ofString "0 1")).map D.str)] h = .ok (.str (Str.join (Str.ofString "; ") (List.replicate n (Str.ofString "0 1")))) h:=ziJ (Sh.lit "; " 2) zrF (by rw [List.length_replicate]; omega)
theorem znf : ∃ (LL : List D) (L : Str),Sh L 2000 /\ (∀ h,zd7 (.lst [.str "0 1"]) (.int 201) h = .ok (.lst LL) h) /\ (∀ h,zd3 (.str (Str.ofString "; ")) [.lst LL] h = .ok (.str L) h):=
  ⟨_,_,zn2 (n:=201) (by decide),fun _=>zlJ,fun _=>zo6 (by decide)⟩
theorem law_true : ∀ ns : List Int,ns.length <= 63 -> (∀ z ∈ ns,Builtin.Int.intBits z <= 1048576) -> ∃ h',G_law [.rol (ns.map D.int)] [] = .ok (.bl true) h':=by
  intro ns hl hb
  have hN : ∃ m : Nat,m <= 6 /\ (if (2:Int) < (if (ns.length : Int) < 6 then (ns.length : Int) else 6) then (if (ns.length : Int) < 6 then (ns.length : Int) else 6) else 2) = (m : Int):=by
    by_cases h1 : (ns.length : Int) < 6
    · by_cases h2 : (2:Int) < ns.length
      · exact ⟨ns.length,by omega,by simp [h1,h2]⟩
      · exact ⟨2,by omega,by simp [h1,h2]⟩
    · exact ⟨6,by omega,by simp [h1]⟩
  obtain ⟨m,hm,em⟩:=hN
  obtain ⟨LL,L,shL,mu,jn⟩:=znf
  have r1 : ∀ h,zbe [.int 0,.str L] h = .ok (.bl true) h:=fun h=>zdh (i:=0) (by omega) shL (by omega)
  have sl:=fun h=>zkz (z:=L) (lo:=some 5) (hi:=none) (h:=h) (Nat.le_trans shL.len (by omega))
  have r2 : ∀ h,zbe [.int 0,.str (cutS L (some 5) none)] h = .ok (.bl true) h:=fun h=>zdh (i:=0) (by omega) (zdx shL) (by omega)
  have r3 : ∀ h,zbe [.int 2,.str "0; all 2 0; all 2 0"] h = .ok (.bl true) h:=fun h=>zdh (i:=2) (k:=100) (by omega) ⟨by decide +kernel,by decide +kernel⟩ (by omega)
  have r4 : ∀ h,zbe [.int 0,.str "0 0"] h = .ok (.bl true) h:=fun h=>zdh (i:=0) (k:=100) (by omega) ⟨by decide +kernel,by decide +kernel⟩ (by omega)
  have key : R.Sat (G_law [.rol (ns.map D.int)] []) (fun d _=>d = .bl true) noE:=by
    refine zg0 ?_
    unfold zms
    refine zao fun K hK=>?_
    refine zeQ (fun _ e _=>e.length = 9 /\ e[0]? = some (some (.rol (ns.map D.int)))) (xs:=(List.range m).map fun (i : Nat)=>D.int (i : Int)) (h1:=[]) (zd0 (m:=m) (by simp [em]) (by omega)) ?_ ?_ ⟨rfl,rfl⟩
    · rintro i x e h' hx ⟨hi,h0⟩
      have hi4 : i < m:=by
        have:=(List.getElem?_eq_some_iff.mp hx).1
        simpa using this
      have hx' : x = .int (i : Int):=by
        rw [List.getElem?_map,List.getElem?_range hi4] at hx
        exact (Option.some.inj hx).symm
      subst hx'
      refine ⟨_,zdY,?_⟩
      refine (law72_4 (ns:=ns) (i:=i) (by omega) (by simpa using hi) (by simpa using h0) (by simp [hi])).mono (fun _ _ z=>z) (fun _ _ z=>z.elim) (fun _ _ z=>z.elim) (fun _ _ z=>z.elim) (fun _ _ _ _ z=>z)
    · rintro e h' ⟨hi,h0⟩
      refine hK _ _ ?_
      clear hK K
      obtain ⟨a0,a1,a2,a3,a4,a5,a6,a7,a8,rfl⟩:=en9 hi
      refine zao fun K hK=>?_
      repeat (first | simp [S.sat_toS,R.sat_bind,big,mu,jn,zc7] | simp (disch:=omega) only [zaN,mul_r,zaj,zap])
      refine hK _ _ ?_; clear hK K
      refine zao fun K hK=>?_
      repeat (first | simp [S.sat_toS,R.sat_bind,big,r1,r2,sl] | simp (disch:=omega) only [zaN,mul_r,zaj,zap])
      refine hK _ _ ?_; clear hK K
      repeat (first | simp [S.sat_toS,R.sat_bind,big,r3,r4] | simp (disch:=omega) only [zaN,mul_r,zaj,zap])
  obtain ⟨d,h',e,rfl⟩:=key.get
  exact ⟨h',e⟩
end Ev
namespace Ev
open PySem L2
variable {P : Program} {w : World} {K : PySem.W.Frag} {mg : Str -> Option Value} {base : Heap}
abbrev zj4 : List Str:=["_law_script","_law_at","_law_cell","_law_digits"]
theorem ziT : FnScope zj4 ["_law_script","_law_at"] (defScope zcI):=⟨rfl,rfl,rfl,by decide +kernel,rfl,by decide +kernel,by decide +kernel⟩
theorem zld {f : Addr} (zbd : mg "len" = none) (zll : mg "abs" = none) (zdo : mg "int" = none) : BodyOk P w K mg base f "_law_bag" zcI zj4 0 zgB:=by
  intro cdv A outer s H E hr
  have nd:=ziT.nd
  exact ⟨_,(zaf (zbr 2 nd (zkW (zaL op_lt zl5 (zab 1) (zaF call_len zbu rfl zbd (by decide +kernel) (zaa (zab 0) zad)) (nomark _)) (zbC (zab 0) (zab 1)) zae))
 (zaf (zbr 3 nd (zaz zdv zde (zaF call_abs zkO rfl zll (by decide +kernel) (zaa (zab 2) zad)) (zbt call_int1 zel rfl zdo (by decide +kernel) (zaa (zew op_ge zoJ (zaF call_abs zkO rfl zll (by decide +kernel) (zaa (zab 2) zad)) (zaz op_pow zgD zae zae) (nomark _)) zad))))
 (zah (zaT (zg4 (zaa (zab 3) (zaa (zaz zaQ zaP (zaz zaQ zaP (zaz op_mod zeU (zbt call_int1 zel rfl zdo (by decide +kernel) (zaa (zab 2) zad)) zae) (zaz zdv zde zae (zab 1))) zae) (zaa zae zad))))))))⟩
abbrev zgG : List Str:=["_law_bag_here","_law_many","_law_digit","_law_found","_law_reach","_law_more"]
theorem zhK : FnScope zgG ["_law_bag_here","_law_many"] (defScope zb8):=⟨rfl,rfl,rfl,by decide +kernel,rfl,by decide +kernel,by decide +kernel⟩
theorem zkj {f : Addr} (zdo : mg "int" = none) : BodyOk P w K mg base f "_law_take" zb8 zgG 0 zfn:=by
  intro cdv A outer s H E hr
  have nd:=zhK.nd
  have pp:=passes_of (X:=zbJ P w K mg base zgG "_law_take" zb8 f cdv A outer s H E) rfl
  exact ⟨_,(zaf (zbL (zaL op_gt zgq (zbC (zab 0) zae) zae (nomark _)) (zaf (zbr 2 nd (zaz op_mod zeU (zbt call_int1 zel rfl zdo (by decide +kernel) (zaa (zbC (zab 0) zae) zad)) (zab 1)))
 (zaf (zhe (zaz op_fdivW zfs (zbC (zab 0) zae) (zab 1)) (zab 0) zae)
 (zah (zaT (zab 2))))) zaM)
 (zaf (zmc (ze8 (zaa zae (zaa zae zad))) (zma rfl (zdZ (zbk 3 nd) (zdZ (zbk 4 nd) ziz))))
 (zaf (zle pp (zaL op_lt zl5 (zab 4) (zab 1) (nomark _)) (zaf (zhe (zaz zaQ zaP (zbC (zab 0) zae) zae) (zab 0) zae)
 (zaf (zhe (zaz op_mod zeU (zbt call_int1 zel rfl zdo (by decide +kernel) (zaa (zaz zaQ zaP (zaz zaQ zaP (zaz zdv zde (zbC (zab 0) zae) zae) (zaz zdv zde (zaz zdv zde zae (zbC (zab 0) zae)) (zbC (zab 0) zae))) zae) zad)) zae) (zab 0) zae)
 (zaf (zbr 5 nd (zaz op_mod zeU (zbt call_int1 zel rfl zdo (by decide +kernel) (zaa (zaz zdv zde (zaz op_fdivW zfs (zbC (zab 0) zae) zae) (zaz zaQ zaP (zaz op_fdivW zfs (zbC (zab 0) zae) zae) (zbC (zab 0) zae))) zad)) zae))
 (zaf (zbr 3 nd (zaz zaQ zaP (zaz zdv zde (zab 3) zae) (zaz op_mod zeU (zbt call_int1 zel rfl zdo (by decide +kernel) (zaa (zaz op_fdivW zfs (zab 5) zae) zad)) zae)))
 (zah (zbr 4 nd (zaz zdv zde (zab 4) zae))))))))
 (zah (zaT (zaz op_mod zeU (zab 3) (zab 1)))))))⟩
abbrev zez : List Str:=["_law_bag_here","_law_rows","_law_at","_law_word","_law_policies","_law_hold_word"]
theorem zgn : FnScope zez ["_law_bag_here"] (defScope zbz):=⟨rfl,rfl,rfl,by decide +kernel,rfl,by decide +kernel,by decide +kernel⟩
theorem zji {f : Addr} (zbj : zbh ci0 P w K mg base "_law_take" 1 [] (za2 2 za0)) (zdC : mg "range" = none) (zdi : mg "str" = none) : BodyOk P w K mg base f "_law_drawn" zbz zez 1 zfQ:=by
  intro cdv A outer s H E hr
  have nd:=zgn.nd
  have tk : Takes (zbJ P w K mg base zez "_law_drawn" zbz f cdv A outer s H E) (zdz E):=takes_of rfl rfl rfl rfl
  have pp:=passes_of (X:=zbJ P w K mg base zez "_law_drawn" zbz f cdv A outer s H E) rfl
  exact ⟨_,(zaf (zbr 1 nd (zg4 zad))
 (zaf (zfD pp rfl (zeB rfl zdC (zaa (za6 zbj (hr.mono (by decide)) tk (zam (zaa (zab 0) (zaa zae zad)))) zad)) (zbk 2 nd) (zaf (zbr 3 nd (zbC (zcM (zaa (zak) (zaa (zak) (zaa (zak) (zaa (zak) zad))))) (za6 zbj (hr.mono (by decide)) tk (zam (zaa (zab 0) (zaa zae zad))))))
 (zah (zeX (zdM .list PySem.F.plainAttrs_list PySem.F.slot_list_append PySem.F.type_list_append mt_append zhx (zab 1) (zaa (zaz zaQ zaP (zaz zaQ zaP (zaz zaQ zaP (zbt call_str_int zet rfl zdi (by decide +kernel) (zaa (za6 zbj (hr.mono (by decide)) tk (zam (zaa (zab 0) (zaa zae zad)))) zad)) (zak)) (zbt call_str_int zet rfl zdi (by decide +kernel) (zaa (zaz zaQ zaP zae (za6 zbj (hr.mono (by decide)) tk (zam (zaa (zab 0) (zaa (zbC (zcM (zaa zae (zaa (zaz op_pow zgD zae zae) zad))) (za6 zbj (hr.mono (by decide)) tk (zam (zaa (zab 0) (zaa zae zad))))) zad))))) zad))) (zab 3)) zad))))))
 (zaf (zbr 4 nd (zg4 zad))
 (zaf (zfD pp rfl (zeB rfl zdC (zaa zae zad)) (zbk 2 nd) (zaf (zbr 5 nd (zbC (zcM (zaa (zak) (zaa (zak) (zaa (zak) zad)))) (za6 zbj (hr.mono (by decide)) tk (zam (zaa (zab 0) (zaa zae zad))))))
 (zah (zeX (zdM .list PySem.F.plainAttrs_list PySem.F.slot_list_append PySem.F.type_list_append mt_append zhx (zab 4) (zaa (zaz zaQ zaP (zaz zaQ zaP (zaz zaQ zaP (zaz zaQ zaP (zab 5) (zak)) (zbt call_str_int zet rfl zdi (by decide +kernel) (zaa (za6 zbj (hr.mono (by decide)) tk (zam (zaa (zab 0) (zaa zae zad)))) zad))) (zak)) (zbt call_str_int zet rfl zdi (by decide +kernel) (zaa (za6 zbj (hr.mono (by decide)) tk (zam (zaa (zab 0) (zaa zae zad)))) zad))) zad))))))
 (zah (zaT (zcM (zaa (zdM .str PySem.F.plainAttrs_str PySem.F.slot_str_join PySem.F.type_str_join zk1 zgQ (zak) (zaa (zab 1) zad)) (zaa (zbC (zab 4) zae) (zaa (zaz zaQ zaP (zaz zaQ zaP (zbt call_str_int zet rfl zdi (by decide +kernel) (zaa (zaz zaQ zaP zae (za6 zbj (hr.mono (by decide)) tk (zam (zaa (zab 0) (zaa zae zad))))) zad)) (zak)) (zdM .str PySem.F.plainAttrs_str PySem.F.slot_str_join PySem.F.type_str_join zk1 zgQ (zak) (zaa (zab 4) zad))) zad))))))))))⟩
abbrev zeP : List Str:=["_law_word","_law_low","_law_high","_law_sign"]
theorem zfy : FnScope zeP ["_law_word","_law_low","_law_high"] (defScope zbx):=⟨rfl,rfl,rfl,by decide +kernel,rfl,by decide +kernel,by decide +kernel⟩
theorem zie {f : Addr} (zbd : mg "len" = none) (zdo : mg "int" = none) : BodyOk P w K mg base f "_law_number" zbx zeP 0 zbA:=by
  intro cdv A outer s H E hr
  have nd:=zfy.nd
  exact ⟨_,(zaf (zbL (zh6 (zca (zaL (op_eqD hr.units) zcc (zab 0) (zak) (nomark _)) (zca (zaL op_gt zgq (zaF call_len zbu rfl zbd (by decide +kernel) (zaa (zab 0) zad)) zae (nomark _)) (zb6 (zaL (op_neD hr.units) zeF (zh1 rfl nd (zol (zab 0)) (blkOk_by (own:=[("_law_sign",3)]) (N:=zeP) (sc:=defScope zbx) (by decide +kernel)) rfl (by decide) (fun _ _ _ _ _=>(zbk 3 nd)) (fun _ _ _ _ _=>(zna (zaL op_notIn_str zlj (zab 3) (zak) (by rfl)))) (fun _ _ _ _ _=>(zab 3))) (zcM zad) (nomark _)))))) (zah (zaT zfh)) zaM)
 (zah (zaT (zfa (zmN (zew (op_neD hr.units) zeF (zbC (zab 0) zae) (zak) (nomark _)) (zec (zew (op_eqD hr.units) zcc (zab 0) (zak) (nomark _)))) (zec (zjd op_le op_le zer zer (zab 1) (zbt zku ziQ rfl zdo (by decide +kernel) (zaa (zab 0) zad)) (zab 2)))))))⟩
abbrev zdm : List Str:=["_law_text","_law_words"]
theorem zee : FnScope zdm ["_law_text"] (defScope zaW):=⟨rfl,rfl,rfl,by decide +kernel,rfl,by decide +kernel,by decide +kernel⟩
theorem zgd {f : Addr} (zbd : mg "len" = none) (zbs : zbh ci0 P w K mg base "_law_number" 1 [] (za2 3 za4)) : BodyOk P w K mg base f "_law_is_policy" zaW zdm 1 zb9:=by
  intro cdv A outer s H E hr
  have nd:=zee.nd
  have tk : Takes (zbJ P w K mg base zdm "_law_is_policy" zaW f cdv A outer s H E) (zdz E):=takes_of rfl rfl rfl rfl
  exact ⟨_,(zaf (zbr 1 nd (zdM .str PySem.F.plainAttrs_str PySem.F.slot_str_split PySem.F.type_str_split zeI zcN (zab 0) (zaa (zak) zad)))
 (zaf (zbL (zh6 (zca (zaL (op_neD hr.units) zeF (zaF call_len zbu rfl zbd (by decide +kernel) (zaa (zab 1) zad)) zae (nomark _)) (zb6 (zaL (zda (Room.units65 hr)) zc4 (zbC (zab 1) zae) (ze8 (zaa (zak) (zaa (zak) (zaa (zak) zad)))) (by rfl))))) (zah (zaT zfh)) zaM)
 (zah (zaT (zfa (za6 zbs (hr.mono (by decide)) tk (zam (zaa (zbC (zab 1) zae) (zaa zae (zaa zae zad))))) (zec (za6 zbs (hr.mono (by decide)) tk (zam (zaa (zbC (zab 1) zae) (zaa zae (zaa zae zad)))))))))))⟩
abbrev zcl : List Str:=["_law_text","_law_parts","_law_part"]
theorem zdP : FnScope zcl ["_law_text"] (defScope zaH):=⟨rfl,rfl,rfl,by decide +kernel,rfl,by decide +kernel,by decide +kernel⟩
theorem zfK {f : Addr} (zbd : mg "len" = none) (zbs : zbh ci0 P w K mg base "_law_number" 1 [] (za2 3 za4)) (zbG : zbh ci0 P w K mg base "_law_is_policy" 2 [] (za2 1 zbn)) (zgY : mg "all" = none) : BodyOk P w K mg base f "_law_is_setting" zaH zcl 2 zbO:=by
  intro cdv A outer s H E hr
  have nd:=zdP.nd
  have tk : Takes (zbJ P w K mg base zcl "_law_is_setting" zaH f cdv A outer s H E) (zdz E):=takes_of rfl rfl rfl rfl
  exact ⟨_,(zaf (zbr 1 nd (zdM .str PySem.F.plainAttrs_str PySem.F.slot_str_split PySem.F.type_str_split zeI zcN (zab 0) (zaa (zak) zad)))
 (zah (zaT (zfa (zew (op_eqD hr.units) zcc (zaF call_len zbu rfl zbd (by decide +kernel) (zaa (zab 1) zad)) zae (nomark _)) (zfa (za6 zbs (hr.mono (by decide)) tk (zam (zaa (zbC (zab 1) zae) (zaa zae (zaa (zaz op_pow zgD zae zae) zad))))) (zec (zaF (cr_all rfl) zig rfl zgY (by decide +kernel) (zaa (zh1 rfl nd (zfd (zm7 (zab 1) (zcW zae) zgb)) (blkOk_by (own:=[("_law_part",2)]) (N:=zcl) (sc:=defScope zaH) (by decide +kernel)) rfl (by decide) (fun _ _ _ _ _=>(zbk 2 nd)) (fun _ _ _ _ _=>ze4) (fun _ _ _ _ _=>(za6 zbG (hr.mono (by decide)) takes0 (zam (zaa (zab 2) zad))))) zad))))))))⟩
abbrev zdH : List Str:=["_law_text","_law_words"]
theorem zeM : FnScope zdH ["_law_text"] (defScope za9):=⟨rfl,rfl,rfl,by decide +kernel,rfl,by decide +kernel,by decide +kernel⟩
theorem zha {f : Addr} (zbd : mg "len" = none) (zbs : zbh ci0 P w K mg base "_law_number" 1 [] (za2 3 za4)) : BodyOk P w K mg base f "_law_is_write" za9 zdH 1 zbW:=by
  intro cdv A outer s H E hr
  have nd:=zeM.nd
  have tk : Takes (zbJ P w K mg base zdH "_law_is_write" za9 f cdv A outer s H E) (zdz E):=takes_of rfl rfl rfl rfl
  exact ⟨_,(zaf (zbr 1 nd (zdM .str PySem.F.plainAttrs_str PySem.F.slot_str_split PySem.F.type_str_split zeI zcN (zab 0) (zaa (zak) zad)))
 (zaf (zbL (zh6 (zca (zaL (zda (Room.units65 hr)) zc4 (zaF call_len zbu rfl zbd (by decide +kernel) (zaa (zab 1) zad)) (ze8 (zaa zae (zaa zae zad))) (by rfl)) (zca (zcp (zcq (za6 zbs (hr.mono (by decide)) tk (zam (zaa (zbC (zab 1) zae) (zaa zae (zaa zae zad))))))) (zb6 (zcp (zcq (za6 zbs (hr.mono (by decide)) tk (zam (zaa (zbC (zab 1) zae) (zaa zae (zaa (zaz op_pow zgD zae zae) zad))))))))))) (zah (zaT zfh)) zaM)
 (zah (zaT (zmN (zew (op_eqD hr.units) zcc (zaF call_len zbu rfl zbd (by decide +kernel) (zaa (zab 1) zad)) zae (nomark _)) (zec (zew (znQ (Room.units65 hr)) zo4 (zbC (zab 1) zae) (ze8 (zaa (zak) (zaa (zak) zad))) (by rfl))))))))⟩
abbrev zbS : List Str:=["_law_text","_law_parts","_law_part"]
theorem zct : FnScope zbS ["_law_text"] (defScope zax):=⟨rfl,rfl,rfl,by decide +kernel,rfl,by decide +kernel,by decide +kernel⟩
theorem zd6 {f : Addr} (zbd : mg "len" = none) (zdD : zbh ci0 P w K mg base "_law_is_write" 2 [] (za2 1 zbV)) (zgY : mg "all" = none) : BodyOk P w K mg base f "_law_is_conversation" zax zbS 2 zaV:=by
  intro cdv A outer s H E hr
  have nd:=zct.nd
  exact ⟨_,(zaf (zbr 1 nd (zdM .str PySem.F.plainAttrs_str PySem.F.slot_str_split PySem.F.type_str_split zeI zcN (zab 0) (zaa (zak) zad)))
 (zah (zaT (zmN (zew (op_eqD hr.units) zcc (zab 0) (zak) (nomark _)) (zec (zfa (zew op_le zer (zaF call_len zbu rfl zbd (by decide +kernel) (zaa (zab 1) zad)) zae (nomark _)) (zec (zaF (cr_all rfl) zig rfl zgY (by decide +kernel) (zaa (zh1 rfl nd (zfd (zab 1)) (blkOk_by (own:=[("_law_part",2)]) (N:=zbS) (sc:=defScope zax) (by decide +kernel)) rfl (by decide) (fun _ _ _ _ _=>(zbk 2 nd)) (fun _ _ _ _ _=>ze4) (fun _ _ _ _ _=>(za6 zdD (hr.mono (by decide)) takes0 (zam (zaa (zab 2) zad))))) zad)))))))))⟩
abbrev zeA : List Str:=["word","least","most","number"]
theorem zea : FnScope zeA ["word","least","most"] (defScope zbc):=⟨rfl,rfl,rfl,by decide +kernel,rfl,by decide +kernel,by decide +kernel⟩
theorem zgc {f : Addr} (zbd : mg "len" = none) (zdq : GlC ci0 K mg "MOST_DIGITS" (.int 40)) (zdo : mg "int" = none) : BodyOk P w K mg base f "read_number" zbc zeA 0 zaJ:=by
  intro cdv A outer s H E hr
  have nd:=zea.nd
  exact ⟨_,(zaf (zbL (zh6 (zca (zaL (op_eqD hr.units) zcc (zab 0) (zak) (nomark _)) (zca (zaL op_gt zgq (zaF call_len zbu rfl zbd (by decide +kernel) (zaa (zab 0) zad)) (zfE zdq) (nomark _)) (zb6 (zaL (op_neD hr.units) zeF (zdM .str PySem.F.plainAttrs_str PySem.F.slot_str_strip PySem.F.type_str_strip zpj zkV (zab 0) (zaa (zak) zad)) (zak) (nomark _)))))) (zah (zaT zcy)) zaM)
 (zaf (zbL (zh6 (zjJ (zaL (op_eqD hr.units) zcc (zbC (zab 0) zae) (zak) (nomark _)) (ziR (zaL (op_neD hr.units) zeF (zab 0) (zak) (nomark _))))) (zah (zaT zcy)) zaM)
 (zaf (zbr 3 nd (zbt zku ziQ rfl zdo (by decide +kernel) (zaa (zab 0) zad)))
 (zah (zaT (zkW (zi5 op_le op_le zer zer (zab 1) (zab 3) (zab 2)) (zab 3) zcy))))))⟩
abbrev zdB : List Str:=["words","endpoint","length","mode","word"]
theorem zeC : FnScope zdB ["words"] (defScope za8):=⟨rfl,rfl,rfl,by decide +kernel,rfl,by decide +kernel,by decide +kernel⟩
theorem zg6 {f : Addr} (zbd : mg "len" = none) (zdw : GlC ci0 K mg "MOST_NUMBER" (.int 10000000000000000000000000000000000000000)) (zaZ : zbh ci0 P w K mg base "read_number" 1 [] (za2 3 zay)) (zir : GlC ci0 K mg "MODES" (.tup [(.str "plain"),(.str "push"),(.str "more")])) : BodyOk P w K mg base f "read_write" za8 zdB 1 zbb:=by
  intro cdv A outer s H E hr
  have nd:=zeC.nd
  exact ⟨_,(zaf (zbL (zaL (zda (Room.units65 hr)) zc4 (zaF call_len zbu rfl zbd (by decide +kernel) (zaa (zab 0) zad)) (ze8 (zaa zae (zaa zae zad))) (by rfl)) (zah (zaT zcy)) zaM)
 (zaf (zmc (zh1 rfl nd (zfd (zm7 (zab 0) zgb (zcW zae))) (blkOk_by (own:=[("word",4)]) (N:=zdB) (sc:=defScope za8) (by decide +kernel)) rfl (by decide) (fun _ _ _ _ _=>(zbk 4 nd)) (fun _ _ _ _ _=>ze4) (fun _ _ _ _ _=>(za6 zaZ (hr.mono (by decide)) takes0 (zam (zaa (zab 4) (zaa zae (zaa (zfE zdw) zad))))))) (zo5 rfl (zdZ (zbk 1 nd) (zdZ (zbk 2 nd) ziz))))
 (zaf (zbr 3 nd (zkW (zaL (op_eqD hr.units) zcc (zaF call_len zbu rfl zbd (by decide +kernel) (zaa (zab 0) zad)) zae (nomark _)) (zak) (zbC (zab 0) zae)))
 (zaf (zbL (zh6 (zca (zaL op_isN zeY (zab 1) zcy (nomark _)) (zca (zaL op_isN zeY (zab 2) zcy (nomark _)) (zb6 (zh6 (zjJ (zaL (op_eqD hr.units) zcc (zaF call_len zbu rfl zbd (by decide +kernel) (zaa (zab 0) zad)) zae (nomark _)) (ziR (zaL (zda (Room.units65 hr)) zc4 (zab 3) (zm7 (zfE zir) (zcW zae) zgb) (by rfl))))))))) (zah (zaT zcy)) zaM)
 (zah (zaT (ze8 (zaa (zab 1) (zaa (zab 2) (zaa (zab 3) zad))))))))))⟩
abbrev zbi : List Str:=["text","writes","write","part"]
theorem zcv : FnScope zbi ["text"] (defScope zan):=⟨rfl,rfl,rfl,by decide +kernel,rfl,by decide +kernel,by decide +kernel⟩
theorem zd4 {f : Addr} (zal : mg "isinstance" = none) (zfi : IsiF ci0 K mg .str [0,1] (.type "str")) (zdi : mg "str" = none) (e_BadText : ExcC ci0 P w K mg base 29 "line") (zdV : zbh ci0 P w K mg base "read_write" 2 [] (za2 1 zbE)) (zbd : mg "len" = none) (zdd : GlC ci0 K mg "MOST_WRITES" (.int 200)) (zds : GlC ci0 K mg "MOST_LENGTH" (.int 1000000000000000000)) : BodyOk P w K mg base f "read_conversation" zan zbi 4 zau:=by
  intro cdv A outer s H E hr
  have nd:=zcv.nd
  have tk : Takes (zbJ P w K mg base zbi "read_conversation" zan f cdv A outer s H E) (zdz E):=takes_of rfl rfl rfl rfl
  have pp:=passes_of (X:=zbJ P w K mg base zbi "read_conversation" zan f cdv A outer s H E) rfl
  exact ⟨_,(zaf (zbL (zcp (zcq (zeZ .str [0,1] "str" zal zdi (zab 0) zfi))) (zah (zbI 29 rfl e_BadText (hr.mono (by decide)) tk zcy)) zaM)
 (zaf (zbL (zaL (op_eqD hr.units) zcc (zab 0) (zak) (nomark _)) (zah (zaT (zg4 zad))) zaM)
 (zaf (zjh 1 rfl nd (zfd (zdM .str PySem.F.plainAttrs_str PySem.F.slot_str_split PySem.F.type_str_split zeI zcN (zab 0) (zaa (zak) zad))) (blkOk_by (own:=[("part",3)]) (N:=zbi) (sc:=defScope zan) (by decide +kernel)) rfl (by decide) (fun _ _ _ _ _=>(zbk 3 nd)) (fun _ _ _ _ _=>ze4) (fun _ _ _ _ _=>(za6 zdV (hr.mono (by decide)) takes0 (zam (zaa (zdM .str PySem.F.plainAttrs_str PySem.F.slot_str_split PySem.F.type_str_split zeI zcN (zab 3) (zaa (zak) zad)) zad)))))
 (zaf (zbL (zaL op_gt zgq (zaF call_len zbu rfl zbd (by decide +kernel) (zaa (zab 1) zad)) (zfE zdd) (nomark _)) (zah (zbI 29 rfl e_BadText (hr.mono (by decide)) tk zae)) zaM)
 (zaf (zfD pp rfl (zfd (zab 1)) (zbk 2 nd) (zah (zbL (zh6 (zca (zaL op_isN zeY (zab 2) zcy (nomark _)) (zca (zaL op_gt zgq (zbC (zab 2) zae) zae (nomark _)) (zb6 (zcp (zi5 op_le op_le zer zer zae (zbC (zab 2) zae) (zfE zds))))))) (zah (zbI 29 rfl e_BadText (hr.mono (by decide)) tk zae)) zaM)))
 (zah (zaT (zab 1))))))))⟩
abbrev ze9 : List Str:=["value"]
theorem zg7 : FnScope ze9 ["value"] (defScope zbo):=⟨rfl,rfl,rfl,by decide +kernel,rfl,by decide +kernel,by decide +kernel⟩
theorem zgT {f : Addr} (zal : mg "isinstance" = none) (znk : IsiF ci0 K mg .int [0,1] (.type "int")) (zdo : mg "int" = none) (zj9 : IsiF ci0 K mg .bool [0,1] (.type "bool")) (zkq : mg "bool" = none) : BodyOk P w K mg base f "is_integer" zbo ze9 0 zdN:=by
  intro cdv A outer s H E hr
  exact ⟨_,(zah (zaT (zfa (zeZ .int [0,1] "int" zal zdo (zab 0) znk) (zec (zn6 (zeZ .bool [0,1] "bool" zal zkq (zab 0) zj9))))))⟩
abbrev zeO : List Str:=["value","least","most"]
theorem ziA : FnScope zeO ["value","least","most"] (defScope zbv):=⟨rfl,rfl,rfl,by decide +kernel,rfl,by decide +kernel,by decide +kernel⟩
theorem zix {f : Addr} (zdS : zbh ci0 P w K mg base "is_integer" 1 [] (za2 1 zcn)) : BodyOk P w K mg base f "in_range" zbv zeO 1 ze6:=by
  intro cdv A outer s H E hr
  have tk : Takes (zbJ P w K mg base zeO "in_range" zbv f cdv A outer s H E) (zdz E):=takes_of rfl rfl rfl rfl
  exact ⟨_,(zah (zaT (zfa (za6 zdS (hr.mono (by decide)) tk (zam (zaa (zab 0) zad))) (zec (zjd op_le op_le zer zer (zab 1) (zab 0) (zab 2))))))⟩
abbrev zdl : List Str:=["self","hold","every","quick"]
theorem zgi : FnScope zdl ["self","hold","every","quick"] (defScope zaX):=⟨rfl,rfl,rfl,by decide +kernel,rfl,by decide +kernel,by decide +kernel⟩
theorem zge {f : Addr} (zal : mg "isinstance" = none) (zfi : IsiF ci0 K mg .str [0,1] (.type "str")) (zdi : mg "str" = none) (zby : zok ci0 K mg "Policy" "HOLDS" (.tup [(.str "off"),(.str "partial"),(.str "all")])) (e_BadSetting : ExcC ci0 P w K mg base 21 "name") (zb0 : GlC ci0 K mg "MOST_EVERY" (.int 9)) (zce : zbh ci0 P w K mg base "in_range" 2 [] (za2 3 zbY)) (zbZ : GlC ci0 K mg "MOST_QUICK" (.int 4)) (zdr : FldAt ci0 K mg "hold" 0 0) (zcX : FldAt ci0 K mg "every" 0 1) (zcZ : FldAt ci0 K mg "quick" 0 2) (zcg : FldAt ci0 K mg "quick" 2 5) : BodyOk P w K mg base f "Policy.__init__" zaX zdl 4 zdp:=by
  intro cdv A outer s H E hr
  have tk : Takes (zbJ P w K mg base zdl "Policy.__init__" zaX f cdv A outer s H E) (zdz E):=takes_of rfl rfl rfl rfl
  exact ⟨_,(zaf (zbL (zh6 (zca (zcp (zcq (zeZ .str [0,1] "str" zal zdi (zab 1) zfi))) (zb6 (zaL (zda (Room.units65 hr)) zc4 (zab 1) (zlX zby) (by rfl))))) (zah (zbI 21 rfl e_BadSetting (hr.mono (by decide)) tk (zak))) zaM)
 (zaf (zbL (zcp (zcq (za6 zce (hr.mono (by decide)) tk (zam (zaa (zab 2) (zaa zae (zaa (zfE zb0) zad))))))) (zah (zbI 21 rfl e_BadSetting (hr.mono (by decide)) tk (zak))) zaM)
 (zaf (zbL (zcp (zcq (za6 zce (hr.mono (by decide)) tk (zam (zaa (zab 3) (zaa zae (zaa (zfE zbZ) zad))))))) (zah (zbI 21 rfl e_BadSetting (hr.mono (by decide)) tk (zak))) zaM)
 (zaf (zfN [(0,0)] (zab 0) (zab 1) (zn5 zdr))
 (zaf (zfN [(0,1)] (zab 0) (zab 2) (zn5 zcX))
 (zah (zfN [(0,2),(2,5)] (zab 0) (zab 3) (zsN zcZ zcg))))))))⟩
abbrev zdn : List Str:=["text","words","every","quick"]
theorem zeb : FnScope zdn ["text"] (defScope zaY):=⟨rfl,rfl,rfl,by decide +kernel,rfl,by decide +kernel,by decide +kernel⟩
theorem zgm {f : Addr} (zal : mg "isinstance" = none) (zfi : IsiF ci0 K mg .str [0,1] (.type "str")) (zdi : mg "str" = none) (e_BadText : ExcC ci0 P w K mg base 29 "line") (zbd : mg "len" = none) (zby : zok ci0 K mg "Policy" "HOLDS" (.tup [(.str "off"),(.str "partial"),(.str "all")])) (zb0 : GlC ci0 K mg "MOST_EVERY" (.int 9)) (zaZ : zbh ci0 P w K mg base "read_number" 1 [] (za2 3 zay)) (zbZ : GlC ci0 K mg "MOST_QUICK" (.int 4)) (zbw : zhw ci0 P w K mg base 0 5 ["every","quick"] (kwF 2 2 zaD zaR)) : BodyOk P w K mg base f "read_policy" zaY zdn 6 zaE:=by
  intro cdv A outer s H E hr
  have nd:=zeb.nd
  have tk : Takes (zbJ P w K mg base zdn "read_policy" zaY f cdv A outer s H E) (zdz E):=takes_of rfl rfl rfl rfl
  exact ⟨_,(zaf (zbL (zcp (zcq (zeZ .str [0,1] "str" zal zdi (zab 0) zfi))) (zah (zbI 29 rfl e_BadText (hr.mono (by decide)) tk zcy)) zaM)
 (zaf (zbr 1 nd (zdM .str PySem.F.plainAttrs_str PySem.F.slot_str_split PySem.F.type_str_split zeI zcN (zab 0) (zaa (zak) zad)))
 (zaf (zbL (zh6 (zca (zaL (op_neD hr.units) zeF (zaF call_len zbu rfl zbd (by decide +kernel) (zaa (zab 1) zad)) zae (nomark _)) (zb6 (zaL (zda (Room.units65 hr)) zc4 (zbC (zab 1) zae) (zlX zby) (by rfl))))) (zah (zbI 29 rfl e_BadText (hr.mono (by decide)) tk zae)) zaM)
 (zaf (zbr 2 nd (za6 zaZ (hr.mono (by decide)) tk (zam (zaa (zbC (zab 1) zae) (zaa zae (zaa (zfE zb0) zad))))))
 (zaf (zbr 3 nd (za6 zaZ (hr.mono (by decide)) tk (zam (zaa (zbC (zab 1) zae) (zaa zae (zaa (zfE zbZ) zad))))))
 (zaf (zbL (zh6 (zca (zaL op_isN zeY (zab 2) zcy (nomark _)) (zb6 (zaL op_isN zeY (zab 3) zcy (nomark _))))) (zah (zbI 29 rfl e_BadText (hr.mono (by decide)) tk zae)) zaM)
 (zah (zaT (zgH 0 zbw (hr.mono (by decide)) tk (zoj (zaa (zbC (zab 1) zae) zad) (zi2 (zab 2) (zi2 (zab 3) znq))))))))))))⟩
abbrev zcm : List Str:=["self","size","policies","both","policy"]
theorem zdF : FnScope zcm ["self","size","policies"] (defScope zaG):=⟨rfl,rfl,rfl,by decide +kernel,rfl,by decide +kernel,by decide +kernel⟩
theorem zfF {f : Addr} (zch : GlC ci0 K mg "MOST_SIZE" (.int 1000000000000000000)) (zce : zbh ci0 P w K mg base "in_range" 2 [] (za2 3 zbY)) (e_BadSetting : ExcC ci0 P w K mg base 21 "name") (zbd : mg "len" = none) (zal : mg "isinstance" = none) (zgM : zp3 ci0 K mg 0 [0,1]) (zgY : mg "all" = none) (zdt : zhw ci0 P w K mg base 0 5 [] (kwF 1 0 zbl zaR)) (zcS : FldAt ci0 K mg "size" 1 0) (zb3 : FldAt ci0 K mg "policies" 1 1) : BodyOk P w K mg base f "Setting.__init__" zaG zcm 6 zcO:=by
  intro cdv A outer s H E hr
  have nd:=zdF.nd
  have tk : Takes (zbJ P w K mg base zcm "Setting.__init__" zaG f cdv A outer s H E) (zdz E):=takes_of rfl rfl rfl rfl
  exact ⟨_,(zaf (zbL (zcp (zcq (za6 zce (hr.mono (by decide)) tk (zam (zaa (zab 1) (zaa zae (zaa (zfE zch) zad))))))) (zah (zbI 21 rfl e_BadSetting (hr.mono (by decide)) tk (zak))) zaM)
 (zaf (zbL (zh6 (zca (zaL op_gt zgq (zaF call_len zbu rfl zbd (by decide +kernel) (zaa (zab 2) zad)) zae (nomark _)) (zb6 (zcp (zcq (zaF (cr_all rfl) zig rfl zgY (by decide +kernel) (zaa (zh1 rfl nd (zfd (zab 2)) (blkOk_by (own:=[("policy",4)]) (N:=zcm) (sc:=defScope zaG) (by decide +kernel)) rfl (by decide) (fun _ _ _ _ _=>(zbk 4 nd)) (fun _ _ _ _ _=>ze4) (fun _ _ _ _ _=>(zm2 0 [0,1] zal (zab 4) zgM))) zad))))))) (zah (zbI 21 rfl e_BadSetting (hr.mono (by decide)) tk (zak))) zaM)
 (zaf (zbr 3 nd (zcM (ziI (zab 2) (ziI (zab 2) (zaa (zgH 0 zdt (hr.mono (by decide)) tk zkK) (zaa (zgH 0 zdt (hr.mono (by decide)) tk zkK) zad))))))
 (zaf (zfN [(1,0)] (zab 0) (zab 1) (zn5 zcS))
 (zah (zfN [(1,1)] (zab 0) (ze8 (zaa (zbC (zab 3) zae) (zaa (zbC (zab 3) zae) zad))) (zn5 zb3)))))))⟩
abbrev zck : List Str:=["text","first","others","size","policies","part"]
theorem zdU : FnScope zck ["text"] (defScope zaI):=⟨rfl,rfl,rfl,by decide +kernel,rfl,by decide +kernel,by decide +kernel⟩
theorem zfw {f : Addr} (zal : mg "isinstance" = none) (zfi : IsiF ci0 K mg .str [0,1] (.type "str")) (zdi : mg "str" = none) (e_BadText : ExcC ci0 P w K mg base 29 "line") (zch : GlC ci0 K mg "MOST_SIZE" (.int 1000000000000000000)) (zaZ : zbh ci0 P w K mg base "read_number" 1 [] (za2 3 zay)) (zbd : mg "len" = none) (zbF : zbh ci0 P w K mg base "read_policy" 7 [] (za2 1 za1)) (zcY : zhw ci0 P w K mg base 1 7 [] (zgg 2 zba)) : BodyOk P w K mg base f "read_setting" zaI zck 8 zaA:=by
  intro cdv A outer s H E hr
  have nd:=zdU.nd
  have tk : Takes (zbJ P w K mg base zck "read_setting" zaI f cdv A outer s H E) (zdz E):=takes_of rfl rfl rfl rfl
  exact ⟨_,(zaf (zbL (zcp (zcq (zeZ .str [0,1] "str" zal zdi (zab 0) zfi))) (zah (zbI 29 rfl e_BadText (hr.mono (by decide)) tk zcy)) zaM)
 (zaf (zmE (i:=1) (j:=2) rfl nd (zdM .str PySem.F.plainAttrs_str PySem.F.slot_str_split PySem.F.type_str_split zeI zcN (zab 0) (zaa (zak) zad)))
 (zaf (zbr 3 nd (za6 zaZ (hr.mono (by decide)) tk (zam (zaa (zab 1) (zaa zae (zaa (zfE zch) zad))))))
 (zaf (zbL (zh6 (zca (zaL op_isN zeY (zab 3) zcy (nomark _)) (zb6 (zaL (op_neD hr.units) zeF (zaF call_len zbu rfl zbd (by decide +kernel) (zaa (zab 2) zad)) zae (nomark _))))) (zah (zbI 29 rfl e_BadText (hr.mono (by decide)) tk zae)) zaM)
 (zaf (zjo 4 rfl nd tk rfl rfl (zfd (zab 2)) (blkOk_by (own:=[("part",5)]) (N:=zck) (sc:=defScope zaI) (by decide +kernel)) rfl (by decide) (fun _ _ _ _ _=>(zbk 5 nd)) (fun _ _ _ _ _=>ze4) (fun _ _ _ _ _ _ _ tkE=>(za6 zbF (hr.mono (by decide)) tkE (zam (zaa (zab 5) zad)))))
 (zah (zaT (zgH 1 zcY (hr.mono (by decide)) tk (zlF (zaa (zab 3) (ziI (zab 4) zad)))))))))))⟩
abbrev zfj : List Str:=["_law_which","_law_text","e"]
theorem zht : FnScope zfj ["_law_which","_law_text"] (defScope zbP):=⟨rfl,rfl,rfl,by decide +kernel,rfl,by decide +kernel,by decide +kernel⟩
theorem zjS {f : Addr} (zbU : zbh ci0 P w K mg base "read_conversation" 5 [] (za2 1 zav)) (zbF : zbh ci0 P w K mg base "read_policy" 7 [] (za2 1 za1)) (zcP : zbh ci0 P w K mg base "read_setting" 9 [] (za2 1 zbp)) (n_BadText : mg "BadText" = some (.ref (ad mg "BadText"))) (h_BadText : zfX ci0 mg (fun cls=>PySem.W.exmOne K cls (.ref (ad mg "BadText"))) [20,21,22,29] [29]) (zal : mg "isinstance" = none) (n_LatewordsError : mg "LatewordsError" = some (.ref (ad mg "LatewordsError"))) (ki_BadText_LatewordsError : PySem.W.kitOne K (.ref (ad mg "BadText")) (.ref (ad mg "LatewordsError")) = some true) (eri_BadText : ErI ci0 K mg 29) (ki_BadText_ValueError : PySem.W.kitOne K (.ref (ad mg "BadText")) (.type "ValueError") = some true) (zcH : mg "ValueError" = none) (ef_BadText_line : ErF ci0 K mg 29 "line" 0) (er_BadText : ErC ci0 K mg 29) (n_BadWrite : mg "BadWrite" = some (.ref (ad mg "BadWrite"))) (h_BadWrite : zfX ci0 mg (fun cls=>PySem.W.exmOne K cls (.ref (ad mg "BadWrite"))) [20,21,22,29] [22]) : BodyOk P w K mg base f "_law_told" zbP zfj 9 zaK:=by
  intro cdv A outer s H E hr
  have nd:=zht.nd
  have tk : Takes (zbJ P w K mg base zfj "_law_told" zbP f cdv A outer s H E) (zdz E):=takes_of rfl rfl rfl rfl
  have pp:=passes_of (X:=zbJ P w K mg base zfj "_law_told" zbP f cdv A outer s H E) rfl
  exact ⟨_,(zaf (zpa rfl rfl tk (fun W_ pn_ xe_ tk pp=>(zah (zbL (zaL (op_eqD hr.units) zcc (zab 0) zae (nomark _)) (zah (zeX (zmC (za6 zbU (hr.mono (by decide)) tk (zam (zaa (zab 1) zad)))))) (zah (zbL (zaL (op_eqD hr.units) zcc (zab 0) zae (nomark _)) (zah (zeX (za6 zbF (hr.mono (by decide)) tk (zam (zaa (zab 1) zad))))) (zah (zeX (za6 zcP (hr.mono (by decide)) tk (zam (zaa (zab 1) zad)))))))))) (.only (zl0 ⟨rfl,by decide,.inl n_BadWrite⟩) h_BadWrite (zi0 (zj6 (zoe fun a_ pn_=>(zak)))) (.as (zl0 ⟨rfl,by decide,.inl n_BadText⟩) h_BadText nd rfl rfl (zi0 (zj6 (zmF (zg8 (znh 2 29 0 er_BadText ef_BadText_line) (zg8 (zk8 2 29 true "ValueError" zal zcH eri_BadText ki_BadText_ValueError) (zg8 (zkT 2 29 20 true zal eri_BadText n_LatewordsError ki_BadText_LatewordsError) zmS)))))) .nil)))
 (zah (zaT (zak))))⟩
abbrev zfS : List Str:=["_law_which","_law_text","_law_asked"]
theorem zgv : FnScope zfS ["_law_which","_law_text"] (defScope zbH):=⟨rfl,rfl,rfl,by decide +kernel,rfl,by decide +kernel,by decide +kernel⟩
theorem zjf {f : Addr} (zcQ : zbh ci0 P w K mg base "_law_is_setting" 3 [] (za2 1 zbN)) (zbG : zbh ci0 P w K mg base "_law_is_policy" 2 [] (za2 1 zbn)) (zbR : zbh ci0 P w K mg base "_law_is_conversation" 3 [] (za2 1 zbf)) (zdf : zbh ci0 P w K mg base "_law_told" 10 [] (za2 2 zcj)) : BodyOk P w K mg base f "_law_right" zbH zfS 10 zdL:=by
  intro cdv A outer s H E hr
  have nd:=zgv.nd
  have tk : Takes (zbJ P w K mg base zfS "_law_right" zbH f cdv A outer s H E) (zdz E):=takes_of rfl rfl rfl rfl
  exact ⟨_,(zaf (zbr 2 nd (zbC (zcM (zaa (za6 zbR (hr.mono (by decide)) tk (zam (zaa (zab 1) zad))) (zaa (za6 zbG (hr.mono (by decide)) tk (zam (zaa (zab 1) zad))) (zaa (za6 zcQ (hr.mono (by decide)) tk (zam (zaa (zab 1) zad))) zad)))) (zab 0)))
 (zah (zaT (zew (op_eqD hr.units) zcc (za6 zdf (hr.mono (by decide)) tk (zam (zaa (zab 0) (zaa (zab 1) zad)))) (zkW (zcq (zab 2)) (zak) (zcM (zaa zae (zaa zfh (zaa zfh zad))))) (nomark _)))))⟩
abbrev zgR : List Str:=["_law_bag_here","_law_text","_law_spot","_law_way","_law_some","_law_sign","_law_words"]
theorem zhQ : FnScope zgR ["_law_bag_here","_law_text"] (defScope zb4):=⟨rfl,rfl,rfl,by decide +kernel,rfl,by decide +kernel,by decide +kernel⟩
theorem zkA {f : Addr} (zbd : mg "len" = none) (zbj : zbh ci0 P w K mg base "_law_take" 1 [] (za2 2 za0)) : BodyOk P w K mg base f "_law_bent" zb4 zgR 1 zgV:=by
  intro cdv A outer s H E hr
  have nd:=zhQ.nd
  have tk : Takes (zbJ P w K mg base zgR "_law_bent" zb4 f cdv A outer s H E) (zdz E):=takes_of rfl rfl rfl rfl
  exact ⟨_,(zaf (zpi (i:=2) (j:=3) rfl nd (zaa (za6 zbj (hr.mono (by decide)) tk (zam (zaa (zab 0) (zaa (zaz zaQ zaP (zaF call_len zbu rfl zbd (by decide +kernel) (zaa (zab 1) zad)) zae) zad)))) (zaa (za6 zbj (hr.mono (by decide)) tk (zam (zaa (zab 0) (zaa zae zad)))) zad)))
 (zaf (zbr 4 nd (zcM (zaa (zak) (zaa (zak) (zaa (zak) (zaa (zak) (zaa (zak) (zaa (zak) (zaa (zak) (zaa (zak) (zaa (zak) (zaa (zak) (zaa (zak) (zaa (zak) (zaa (zak) (zaa (zak) (zaa (zak) (zaa (zak) (zaa (zak) zad)))))))))))))))))))
 (zaf (zbr 5 nd (zbC (zab 4) (za6 zbj (hr.mono (by decide)) tk (zam (zaa (zab 0) (zaa (zaF call_len zbu rfl zbd (by decide +kernel) (zaa (zab 4) zad)) zad))))))
 (zaf (zbL (zaL (op_eqD hr.units) zcc (zab 3) zae (nomark _)) (zah (zaT (zaz zaQ zaP (zaz zaQ zaP (zfz (zab 1) zgb (zcW (zab 2))) (zab 5)) (zfz (zab 1) (zcW (zab 2)) zgb)))) zaM)
 (zaf (zbL (zaL (op_eqD hr.units) zcc (zab 3) zae (nomark _)) (zah (zaT (zaz zaQ zaP (zfz (zab 1) zgb (zcW (zab 2))) (zfz (zab 1) (zcW (zaz zaQ zaP (zab 2) zae)) zgb)))) zaM)
 (zaf (zbL (zaL (op_eqD hr.units) zcc (zab 3) zae (nomark _)) (zah (zaT (zaz zaQ zaP (zaz zaQ zaP (zfz (zab 1) zgb (zcW (zab 2))) (zab 5)) (zfz (zab 1) (zcW (zaz zaQ zaP (zab 2) zae)) zgb)))) zaM)
 (zaf (zbL (zaL (op_eqD hr.units) zcc (zab 3) zae (nomark _)) (zah (zaT (zaz zaQ zaP (zab 1) (zab 5)))) zaM)
 (zaf (zbL (zaL (op_eqD hr.units) zcc (zab 3) zae (nomark _)) (zah (zaT (zaz zaQ zaP (zab 5) (zab 1)))) zaM)
 (zaf (zbr 6 nd (zdM .str PySem.F.plainAttrs_str PySem.F.slot_str_split PySem.F.type_str_split zeI zjP (zab 1) (zaa (zak) zad)))
 (zaf (zeX (zdM .list PySem.F.plainAttrs_list PySem.F.slot_list_insert PySem.F.type_list_insert mt_insert zjv (zab 6) (zaa (za6 zbj (hr.mono (by decide)) tk (zam (zaa (zab 0) (zaa (zaz zaQ zaP (zaF call_len zbu rfl zbd (by decide +kernel) (zaa (zab 6) zad)) zae) zad)))) (zaa (zbC (zab 6) (za6 zbj (hr.mono (by decide)) tk (zam (zaa (zab 0) (zaa (zaF call_len zbu rfl zbd (by decide +kernel) (zaa (zab 6) zad)) zad))))) zad))))
 (zah (zaT (zdM .str PySem.F.plainAttrs_str PySem.F.slot_str_join PySem.F.type_str_join zk1 zgQ (zak) (zaa (zab 6) zad))))))))))))))⟩
abbrev zlt : List Str:=["_law_script","_law_at","_law_bag_here","_law_which","_law_text","_law_step","_law_bent_here","_law_odd","_law_long"]
theorem zmd : FnScope zlt ["_law_script"] (defScope zef):=⟨rfl,rfl,rfl,by decide +kernel,rfl,by decide +kernel,by decide +kernel⟩
theorem zon {f : Addr} (zbd : mg "len" = none) (zmq : mg "min" = none) (zmJ : mg "max" = none) (zdC : mg "range" = none) (ziC : zbh ci0 P w K mg base "_law_bag" 1 [] (za2 2 zeV)) (zf2 : zbh ci0 P w K mg base "_law_drawn" 2 [] (za2 1 zdb)) (zem : mg "enumerate" = none) (zb1 : zbh ci0 P w K mg base "_law_right" 11 [] (za2 2 zbe)) (zdf : zbh ci0 P w K mg base "_law_told" 10 [] (za2 2 zcj)) (zfl : zbh ci0 P w K mg base "_law_bent" 2 [] (za2 2 zdj)) : BodyOk P w K mg base f "law" zef zlt 11 zms:=by
  intro cdv A outer s H E hr
  have nd:=zmd.nd
  have tk : Takes (zbJ P w K mg base zlt "law" zef f cdv A outer s H E) (zdz E):=takes_of rfl rfl rfl rfl
  have pp:=passes_of (X:=zbJ P w K mg base zlt "law" zef f cdv A outer s H E) rfl
  exact ⟨_,(zaf (zfD pp rfl (zeB rfl zdC (zaa (zaF (call_max2 rfl) zmm rfl zmJ (by decide +kernel) (zaa zae (zaa (zaF (call_min2 rfl) zmU rfl zmq (by decide +kernel) (zaa zae (zaa (zaF call_len zbu rfl zbd (by decide +kernel) (zaa (zab 0) zad)) zad))) zad))) zad)) (zbk 1 nd) (zaf (zbr 2 nd (za6 ziC (hr.mono (by decide)) tk (zam (zaa (zab 0) (zaa (zab 1) zad)))))
 (zah (zfD pp rfl (zmw rfl zem (zaa (za6 zf2 (hr.mono (by decide)) tk (zam (zaa (zab 2) zad))) zad)) (zma rfl (zdZ (zbk 3 nd) (zdZ (zbk 4 nd) ziz))) (zaf (zbL (zh6 (zca (zcp (zcq (za6 zb1 (hr.mono (by decide)) tk (zam (zaa (zab 3) (zaa (zab 4) zad)))))) (zb6 (zaL (op_neD hr.units) zeF (za6 zdf (hr.mono (by decide)) tk (zam (zaa (zab 3) (zaa (zab 4) zad)))) (zak) (nomark _))))) (zah (zaT zfh)) zaM)
 (zaf (zfD pp rfl (zeB rfl zdC (zaa zae zad)) (zbk 5 nd) (zaf (zbr 6 nd (za6 zfl (hr.mono (by decide)) tk (zam (zaa (zab 2) (zaa (zab 4) zad)))))
 (zah (zbL (zh6 (zca (zcp (zcq (za6 zb1 (hr.mono (by decide)) tk (zam (zaa (zab 3) (zaa (zab 6) zad)))))) (zb6 (zcp (zcq (za6 zb1 (hr.mono (by decide)) tk (zam (zaa (zab 3) (zaa (za6 zfl (hr.mono (by decide)) tk (zam (zaa (zab 2) (zaa (zab 6) zad)))) zad))))))))) (zah (zaT zfh)) zaM))))
 (zah (zfD pp rfl (zfd (zcM (zaa zcy (zaa zfh (zaa zae (zaa (zcM zad) (zaa (zcM (zaa (zab 4) zad)) (zaa (ze8 (zaa (zab 4) zad)) zad)))))))) (zbk 7 nd) (zah (zbL (zaL (op_neD hr.units) zeF (za6 zdf (hr.mono (by decide)) tk (zam (zaa (zab 3) (zaa (zab 7) zad)))) (zcM (zaa zcy (zaa zfh (zaa zfh zad)))) (nomark _)) (zah (zaT zfh)) zaM))))))))))
 (zaf (zbr 8 nd (zdM .str PySem.F.plainAttrs_str PySem.F.slot_str_join PySem.F.type_str_join zk1 zgQ (zak) (zaa (zaz zdv zde (zcM (zaa (zak) zad)) zae) zad)))
 (zaf (zbL (zh6 (zca (zcp (zcq (za6 zb1 (hr.mono (by decide)) tk (zam (zaa zae (zaa (zab 8) zad)))))) (zb6 (zcp (zcq (za6 zb1 (hr.mono (by decide)) tk (zam (zaa zae (zaa (zfz (zab 8) (zcW zae) zgb) zad))))))))) (zah (zaT zfh)) zaM)
 (zah (zaT (zfa (za6 zb1 (hr.mono (by decide)) tk (zam (zaa zae (zaa (zak) zad)))) (zec (za6 zb1 (hr.mono (by decide)) tk (zam (zaa zae (zaa (zak) zad)))))))))))⟩
abbrev zdO : List Str:=["self","told"]
theorem zdA : FnScope zdO ["self","told"] (defScope zaC):=⟨rfl,rfl,rfl,by decide +kernel,rfl,by decide +kernel,by decide +kernel⟩
abbrev zf9 : List Str:=["self","line"]
theorem zfB : FnScope zf9 ["self","line"] (defScope zbg):=⟨rfl,rfl,rfl,by decide +kernel,rfl,by decide +kernel,by decide +kernel⟩
abbrev zeR : List Str:=["self","name"]
theorem zeJ : FnScope zeR ["self","name"] (defScope zaO):=⟨rfl,rfl,rfl,by decide +kernel,rfl,by decide +kernel,by decide +kernel⟩
end Ev
namespace Ev
open PySem L2
theorem facts {P : Program} {w : World} {K : PySem.W.Frag} {mg : Str -> Option Value} {h : Heap} {fa : Addr} (X : K.In h) (Gm : h.Ns mainGlobals mg) (hfa : mg "law" = some (.ref fa)) (c : He.SaysD [] fn K) (cx : Fx.allB fs K = true) :
    ∃ fd : FuncData, (∀ (s : Shared) (u : Value), BindsTo s fd ⟨[u], []⟩ [("_law_script", u)]) /\ ∀ base : Heap, K.In base -> base.Ns mainGlobals mg -> FnOk P w K mg base (L2.CX P w) 12 fa fd ["_law_script"] (spG ⟨K, mg, ci0⟩ 1 G_law) := by
  have b_0 := Fx.at_ cx 0 (f := (He.Fa.free "len").ok) rfl
  have b_1 := Fx.at_ cx 1 (f := (He.Fa.free "abs").ok) rfl
  have b_2 := Fx.at_ cx 2 (f := (He.Fa.free "int").ok) rfl
  have b_3 := Fx.at_ cx 3 (f := (He.Fa.glo "_law_take").ok) rfl
  have b_4 := Fx.at_ cx 4 (f := (He.Fa.free "range").ok) rfl
  have b_5 := Fx.at_ cx 5 (f := (He.Fa.free "str").ok) rfl
  have b_6 := Fx.at_ cx 6 (f := (He.Fa.glo "_law_number").ok) rfl
  have b_7 := Fx.at_ cx 7 (f := (He.Fa.glo "_law_is_policy").ok) rfl
  have b_8 := Fx.at_ cx 8 (f := (He.Fa.free "all").ok) rfl
  have b_9 := Fx.at_ cx 9 (f := (He.Fa.glo "_law_is_write").ok) rfl
  have zsB := Fx.at_ cx 10 (f := Fx.glB "MOST_DIGITS" (.int 40)) rfl
  have zs3 := Fx.at_ cx 11 (f := Fx.glB "MOST_NUMBER" (.int 10000000000000000000000000000000000000000)) rfl
  have zsD := Fx.at_ cx 12 (f := (He.Fa.glo "read_number").ok) rfl
  have zti := Fx.at_ cx 13 (f := Fx.glB "MODES" (.tup [(.str "plain"), (.str "push"), (.str "more")])) rfl
  have zsV := Fx.at_ cx 14 (f := (He.Fa.free "isinstance").ok) rfl
  have zst := Fx.at_ cx 15 (f := Fx.isiB ci0 .str [0, 1] (fun _ => .type "str")) rfl
  have zsF := Fx.at_ cx 16 (f := (He.Fa.free "ValueError").ok) rfl
  have zsl := Fx.at_ cx 17 (f := Fx.veB) rfl
  have ztf := Fx.at_ cx 18 (f := Fx.clfnB "LatewordsError" "__init__") rfl
  have zsW := Fx.at_ cx 19 (f := Fx.exB "BadText" "line") rfl
  have zsr := Fx.at_ cx 20 (f := (He.Fa.glo "read_write").ok) rfl
  have zsx := Fx.at_ cx 21 (f := Fx.glB "MOST_WRITES" (.int 200)) rfl
  have zsc := Fx.at_ cx 22 (f := Fx.glB "MOST_LENGTH" (.int 1000000000000000000)) rfl
  have zs4 := Fx.at_ cx 23 (f := Fx.isiB ci0 .int [0, 1] (fun _ => .type "int")) rfl
  have zsm := Fx.at_ cx 24 (f := Fx.isiB ci0 .bool [0, 1] (fun _ => .type "bool")) rfl
  have zsT := Fx.at_ cx 25 (f := (He.Fa.free "bool").ok) rfl
  have zsH := Fx.at_ cx 26 (f := (He.Fa.glo "is_integer").ok) rfl
  have zr6 := Fx.at_ cx 27 (f := Fx.conB "Policy" "HOLDS" (.tup [(.str "off"), (.str "partial"), (.str "all")])) rfl
  have zsO := Fx.at_ cx 28 (f := Fx.exB "BadSetting" "name") rfl
  have zsf := Fx.at_ cx 29 (f := Fx.glB "MOST_EVERY" (.int 9)) rfl
  have zsX := Fx.at_ cx 30 (f := (He.Fa.glo "in_range").ok) rfl
  have zsn := Fx.at_ cx 31 (f := Fx.glB "MOST_QUICK" (.int 4)) rfl
  have zr2 := Fx.at_ cx 32 (f := Fx.fldB "Policy" "hold") rfl
  have zsM := Fx.at_ cx 33 (f := Fx.fldB "Policy" "every") rfl
  have zsL := Fx.at_ cx 34 (f := Fx.fldB "Policy" "quick") rfl
  have zsU := Fx.at_ cx 35 (f := (He.Fa.free "TurnState").ok) rfl
  have zqg := Fx.at_ cx 36 (f := (He.Fa.glo "Policy").ok) rfl
  have zrI := Fx.at_ cx 37 (f := (He.Fa.mkr "Policy").ok) rfl
  have zr4 := Fx.at_ cx 38 (f := Fx.glB "MOST_SIZE" (.int 1000000000000000000)) rfl
  have zs8 := Fx.at_ cx 39 (f := Fx.isiB ci0 (.cls 0) [0, 1] (fun K => .ref (He.ga K "Policy"))) rfl
  have zsz := Fx.at_ cx 40 (f := Fx.fldB "Setting" "size") rfl
  have ztg := Fx.at_ cx 41 (f := Fx.fldB "Setting" "policies") rfl
  have zsi := Fx.at_ cx 42 (f := (He.Fa.glo "read_policy").ok) rfl
  have zs0 := Fx.at_ cx 43 (f := (He.Fa.glo "Setting").ok) rfl
  have zsb := Fx.at_ cx 44 (f := (He.Fa.mkr "Setting").ok) rfl
  have zr3 := Fx.at_ cx 45 (f := (He.Fa.glo "read_conversation").ok) rfl
  have zr7 := Fx.at_ cx 46 (f := (He.Fa.glo "read_setting").ok) rfl
  have zrT := Fx.at_ cx 47 (f := (He.Fa.glo "BadText").ok) rfl
  have zsd := Fx.at_ cx 48 (f := Fx.exmB ci0 ["BadText"] [20, 21, 22, 29] [29]) rfl
  have zrW := Fx.at_ cx 49 (f := (He.Fa.glo "LatewordsError").ok) rfl
  have zrX := Fx.at_ cx 50 (f := Fx.kitB "BadText" (fun K => .ref (He.ga K "LatewordsError")) true) rfl
  have zr0 := Fx.at_ cx 51 (f := Fx.erIB "BadText") rfl
  have zsa := Fx.at_ cx 52 (f := Fx.kitB "BadText" (fun _ => .type "ValueError") true) rfl
  have zte := Fx.at_ cx 53 (f := (He.Fa.noat "BadText" "line").ok) rfl
  have zsJ := Fx.at_ cx 54 (f := Fx.erB "BadText") rfl
  have zsG := Fx.at_ cx 55 (f := (He.Fa.glo "BadWrite").ok) rfl
  have zs5 := Fx.at_ cx 56 (f := Fx.exmB ci0 ["BadWrite"] [20, 21, 22, 29] [22]) rfl
  have zsZ := Fx.at_ cx 57 (f := (He.Fa.glo "_law_is_setting").ok) rfl
  have zs2 := Fx.at_ cx 58 (f := (He.Fa.glo "_law_is_conversation").ok) rfl
  have zsQ := Fx.at_ cx 59 (f := (He.Fa.glo "_law_told").ok) rfl
  have zsS := Fx.at_ cx 60 (f := (He.Fa.free "min").ok) rfl
  have zsq := Fx.at_ cx 61 (f := (He.Fa.free "max").ok) rfl
  have zs6 := Fx.at_ cx 62 (f := (He.Fa.glo "_law_bag").ok) rfl
  have zs9 := Fx.at_ cx 63 (f := (He.Fa.glo "_law_drawn").ok) rfl
  have zsh := Fx.at_ cx 64 (f := (He.Fa.free "enumerate").ok) rfl
  have zsp := Fx.at_ cx 65 (f := (He.Fa.glo "_law_right").ok) rfl
  have ztb := Fx.at_ cx 66 (f := (He.Fa.glo "_law_bent").ok) rfl
  have zsk := Fx.at_ cx 67 (f := (He.Fa.glo "law").ok) rfl
  obtain ⟨fd_l_bag, F_l_bag⟩ := c.def_ 0 (d := ziZ) rfl
  have F_l_bag : FunD K "_law_bag" "_law_bag" (defArgs zcI) (defBody zcI) (defScope zcI) [] [] (He.fAd K ("_law_bag", none)) fd_l_bag := F_l_bag
  obtain ⟨fd_l_take, F_l_take⟩ := c.def_ 1 (d := zhl) rfl
  have F_l_take : FunD K "_law_take" "_law_take" (defArgs zb8) (defBody zb8) (defScope zb8) [] [] (He.fAd K ("_law_take", none)) fd_l_take := F_l_take
  obtain ⟨fd_l_drawn, F_l_drawn⟩ := c.def_ 2 (d := zgy) rfl
  have F_l_drawn : FunD K "_law_drawn" "_law_drawn" (defArgs zbz) (defBody zbz) (defScope zbz) [] [] (He.fAd K ("_law_drawn", none)) fd_l_drawn := F_l_drawn
  obtain ⟨fd_l_number, F_l_number⟩ := c.def_ 3 (d := zfV) rfl
  have F_l_number : FunD K "_law_number" "_law_number" (defArgs zbx) (defBody zbx) (defScope zbx) [] [] (He.fAd K ("_law_number", none)) fd_l_number := F_l_number
  obtain ⟨fd_l_is_policy, F_l_is_policy⟩ := c.def_ 4 (d := zd8) rfl
  have F_l_is_policy : FunD K "_law_is_policy" "_law_is_policy" (defArgs zaW) (defBody zaW) (defScope zaW) [] [] (He.fAd K ("_law_is_policy", none)) fd_l_is_policy := F_l_is_policy
  obtain ⟨fd_l_is_setting, F_l_is_setting⟩ := c.def_ 5 (d := zdJ) rfl
  have F_l_is_setting : FunD K "_law_is_setting" "_law_is_setting" (defArgs zaH) (defBody zaH) (defScope zaH) [] [] (He.fAd K ("_law_is_setting", none)) fd_l_is_setting := F_l_is_setting
  obtain ⟨fd_l_is_write, F_l_is_write⟩ := c.def_ 6 (d := zeu) rfl
  have F_l_is_write : FunD K "_law_is_write" "_law_is_write" (defArgs za9) (defBody za9) (defScope za9) [] [] (He.fAd K ("_law_is_write", none)) fd_l_is_write := F_l_is_write
  obtain ⟨fd_l_is_conversation, F_l_is_conversation⟩ := c.def_ 7 (d := zcz) rfl
  have F_l_is_conversation : FunD K "_law_is_conversation" "_law_is_conversation" (defArgs zax) (defBody zax) (defScope zax) [] [] (He.fAd K ("_law_is_conversation", none)) fd_l_is_conversation := F_l_is_conversation
  obtain ⟨fd_read_number, F_read_number⟩ := c.def_ 8 (d := zed) rfl
  have F_read_number : FunD K "read_number" "read_number" (defArgs zbc) (defBody zbc) (defScope zbc) [] [] (He.fAd K ("read_number", none)) fd_read_number := F_read_number
  obtain ⟨fd_read_write, F_read_write⟩ := c.def_ 9 (d := zes) rfl
  have F_read_write : FunD K "read_write" "read_write" (defArgs za8) (defBody za8) (defScope za8) [] [] (He.fAd K ("read_write", none)) fd_read_write := F_read_write
  obtain ⟨fd_read_conversation, F_read_conversation⟩ := c.def_ 10 (d := zcu) rfl
  have F_read_conversation : FunD K "read_conversation" "read_conversation" (defArgs zan) (defBody zan) (defScope zan) [] [] (He.fAd K ("read_conversation", none)) fd_read_conversation := F_read_conversation
  obtain ⟨fd_is_integer, F_is_integer⟩ := c.def_ 11 (d := zeD) rfl
  have F_is_integer : FunD K "is_integer" "is_integer" (defArgs zbo) (defBody zbo) (defScope zbo) [] [] (He.fAd K ("is_integer", none)) fd_is_integer := F_is_integer
  obtain ⟨fd_in_range, F_in_range⟩ := c.def_ 12 (d := zfZ) rfl
  have F_in_range : FunD K "in_range" "in_range" (defArgs zbv) (defBody zbv) (defScope zbv) [] [] (He.fAd K ("in_range", none)) fd_in_range := F_in_range
  obtain ⟨fd_Policy_init, F_Policy_init⟩ := c.def_ 13 (d := zeh) rfl
  have F_Policy_init : FunD K "__init__" "Policy.__init__" (defArgs zaX) (defBody zaX) (defScope zaX) [(.str "all")] [("every", (.int 2)), ("quick", (.int 0))] (He.fAd K ("Policy", some "__init__")) fd_Policy_init := F_Policy_init
  obtain ⟨fd_read_policy, F_read_policy⟩ := c.def_ 14 (d := zeg) rfl
  have F_read_policy : FunD K "read_policy" "read_policy" (defArgs zaY) (defBody zaY) (defScope zaY) [] [] (He.fAd K ("read_policy", none)) fd_read_policy := F_read_policy
  obtain ⟨fd_Setting_init, F_Setting_init⟩ := c.def_ 15 (d := zdR) rfl
  have F_Setting_init : FunD K "__init__" "Setting.__init__" (defArgs zaG) (defBody zaG) (defScope zaG) [] [] (He.fAd K ("Setting", some "__init__")) fd_Setting_init := F_Setting_init
  obtain ⟨fd_read_setting, F_read_setting⟩ := c.def_ 16 (d := zdT) rfl
  have F_read_setting : FunD K "read_setting" "read_setting" (defArgs zaI) (defBody zaI) (defScope zaI) [] [] (He.fAd K ("read_setting", none)) fd_read_setting := F_read_setting
  obtain ⟨fd_l_told, F_l_told⟩ := c.def_ 17 (d := zhT) rfl
  have F_l_told : FunD K "_law_told" "_law_told" (defArgs zbP) (defBody zbP) (defScope zbP) [] [] (He.fAd K ("_law_told", none)) fd_l_told := F_l_told
  obtain ⟨fd_l_right, F_l_right⟩ := c.def_ 18 (d := zgt) rfl
  have F_l_right : FunD K "_law_right" "_law_right" (defArgs zbH) (defBody zbH) (defScope zbH) [] [] (He.fAd K ("_law_right", none)) fd_l_right := F_l_right
  obtain ⟨fd_l_bent, F_l_bent⟩ := c.def_ 19 (d := zhB) rfl
  have F_l_bent : FunD K "_law_bent" "_law_bent" (defArgs zb4) (defBody zb4) (defScope zb4) [] [] (He.fAd K ("_law_bent", none)) fd_l_bent := F_l_bent
  obtain ⟨fd_law, F_law⟩ := c.def_ 20 (d := zlV) rfl
  have F_law : FunD K "law" "law" (defArgs zef) (defBody zef) (defScope zef) [] [] (He.fAd K ("law", none)) fd_law := F_law
  obtain ⟨fd_LatewordsError_init, F_LatewordsError_init⟩ := c.def_ 21 (d := zcd) rfl
  have F_LatewordsError_init : FunD K "__init__" "LatewordsError.__init__" (defArgs zaC) (defBody zaC) (defScope zaC) [] [] (He.fAd K ("LatewordsError", some "__init__")) fd_LatewordsError_init := F_LatewordsError_init
  obtain ⟨fd_BadText_init, F_BadText_init⟩ := c.def_ 22 (d := zdW) rfl
  have F_BadText_init : FunD K "__init__" "BadText.__init__" (defArgs zbg) (defBody zbg) (defScope zbg) [] [] (He.fAd K ("BadText", some "__init__")) fd_BadText_init := F_BadText_init
  obtain ⟨fd_BadSetting_init, F_BadSetting_init⟩ := c.def_ 23 (d := zcL) rfl
  have F_BadSetting_init : FunD K "__init__" "BadSetting.__init__" (defArgs zaO) (defBody zaO) (defScope zaO) [] [] (He.fAd K ("BadSetting", some "__init__")) fd_BadSetting_init := F_BadSetting_init
  have e := hfa.symm.trans (He.glo_ok X Gm zsk)
  cases e
  refine ⟨fd_law, fun s u => FunD.bindsA (ps := ["_law_script"]) F_law (fun _ _ _ _ _ _ us hl => match us, hl with | [_], _ => rfl) s [u] rfl, fun base _ _ => ?_⟩
  have zbd : mg "len" = none := He.free_ok X Gm b_0
  have zll : mg "abs" = none := He.free_ok X Gm b_1
  have zdo : mg "int" = none := He.free_ok X Gm b_2
  have O_l_bag : FnOk P w K mg base (L2.CX P w) 1 (He.fAd K ("_law_bag", none)) fd_l_bag ["_law_script", "_law_at"] (spG ⟨K, mg, ci0⟩ 2 zeV) := za5 F_l_bag ziT (zld zbd zll zdo)
  have O_l_take : FnOk P w K mg base (L2.CX P w) 1 (He.fAd K ("_law_take", none)) fd_l_take ["_law_bag_here", "_law_many"] (spG ⟨K, mg, ci0⟩ 2 za0) := za5 F_l_take zhK (zkj zdo)
  have zbj : zbh ci0 P w K mg base "_law_take" 1 [] (za2 2 za0) := Fx.name_ok X Gm b_3 F_l_take.kp (FnC.pos O_l_take (FunD.bindsN F_l_take fun _ _ _ _ _ _ us hl => match us, hl with | [_, _], _ => rfl))
  have zdC : mg "range" = none := He.free_ok X Gm b_4
  have zdi : mg "str" = none := He.free_ok X Gm b_5
  have O_l_drawn : FnOk P w K mg base (L2.CX P w) 2 (He.fAd K ("_law_drawn", none)) fd_l_drawn ["_law_bag_here"] (spG ⟨K, mg, ci0⟩ 1 zdb) := ziE (za5 F_l_drawn zgn (zji zbj zdC zdi))
  have O_l_number : FnOk P w K mg base (L2.CX P w) 1 (He.fAd K ("_law_number", none)) fd_l_number ["_law_word", "_law_low", "_law_high"] (spG ⟨K, mg, ci0⟩ 3 za4) := za5 F_l_number zfy (zie zbd zdo)
  have zbs : zbh ci0 P w K mg base "_law_number" 1 [] (za2 3 za4) := Fx.name_ok X Gm b_6 F_l_number.kp (FnC.pos O_l_number (FunD.bindsN F_l_number fun _ _ _ _ _ _ us hl => match us, hl with | [_, _, _], _ => rfl))
  have O_l_is_policy : FnOk P w K mg base (L2.CX P w) 2 (He.fAd K ("_law_is_policy", none)) fd_l_is_policy ["_law_text"] (spG ⟨K, mg, ci0⟩ 1 zbn) := za5 F_l_is_policy zee (zgd zbd zbs)
  have zbG : zbh ci0 P w K mg base "_law_is_policy" 2 [] (za2 1 zbn) := Fx.name_ok X Gm b_7 F_l_is_policy.kp (FnC.pos O_l_is_policy (FunD.bindsN F_l_is_policy fun _ _ _ _ _ _ us hl => match us, hl with | [_], _ => rfl))
  have zgY : mg "all" = none := He.free_ok X Gm b_8
  have O_l_is_setting : FnOk P w K mg base (L2.CX P w) 3 (He.fAd K ("_law_is_setting", none)) fd_l_is_setting ["_law_text"] (spG ⟨K, mg, ci0⟩ 1 zbN) := za5 F_l_is_setting zdP (zfK zbd zbs zbG zgY)
  have O_l_is_write : FnOk P w K mg base (L2.CX P w) 2 (He.fAd K ("_law_is_write", none)) fd_l_is_write ["_law_text"] (spG ⟨K, mg, ci0⟩ 1 zbV) := za5 F_l_is_write zeM (zha zbd zbs)
  have zdD : zbh ci0 P w K mg base "_law_is_write" 2 [] (za2 1 zbV) := Fx.name_ok X Gm b_9 F_l_is_write.kp (FnC.pos O_l_is_write (FunD.bindsN F_l_is_write fun _ _ _ _ _ _ us hl => match us, hl with | [_], _ => rfl))
  have O_l_is_conversation : FnOk P w K mg base (L2.CX P w) 3 (He.fAd K ("_law_is_conversation", none)) fd_l_is_conversation ["_law_text"] (spG ⟨K, mg, ci0⟩ 1 zbf) := za5 F_l_is_conversation zct (zd6 zbd zdD zgY)
  have zdq : GlC ci0 K mg "MOST_DIGITS" (.int 40) := Fx.gl_ok X Gm zsB
  have O_read_number : FnOk P w K mg base (L2.CX P w) 1 (He.fAd K ("read_number", none)) fd_read_number ["word", "least", "most"] (spG ⟨K, mg, ci0⟩ 3 zay) := za5 F_read_number zea (zgc zbd zdq zdo)
  have zdw : GlC ci0 K mg "MOST_NUMBER" (.int 10000000000000000000000000000000000000000) := Fx.gl_ok X Gm zs3
  have zaZ : zbh ci0 P w K mg base "read_number" 1 [] (za2 3 zay) := Fx.name_ok X Gm zsD F_read_number.kp (FnC.pos O_read_number (FunD.bindsN F_read_number fun _ _ _ _ _ _ us hl => match us, hl with | [_, _, _], _ => rfl))
  have zir : GlC ci0 K mg "MODES" (.tup [(.str "plain"), (.str "push"), (.str "more")]) := Fx.gl_ok X Gm zti
  have O_read_write : FnOk P w K mg base (L2.CX P w) 2 (He.fAd K ("read_write", none)) fd_read_write ["words"] (spG ⟨K, mg, ci0⟩ 1 zbE) := za5 F_read_write zeC (zg6 zbd zdw zaZ zir)
  have zal : mg "isinstance" = none := He.free_ok X Gm zsV
  have zfi : IsiF ci0 K mg .str [0, 1] (.type "str") := Fx.isi_ok (u := fun _ => .type "str") X Gm zst
  have zcH : mg "ValueError" = none := He.free_ok X Gm zsF
  have O_LE : L2.FnOk P w K mg base (L2.CX P w) 1 (He.fAd K ("LatewordsError", some "__init__")) fd_LatewordsError_init ["self", "told"] (zrM K) := zni F_LatewordsError_init rfl zdA (fun _ _ _ _ _ _ => pe_veinit rfl zcH (Fx.ve_ok zsl) (zaa (ci := ci0) (W := W0) (zab 0) (zaa (zab 1) zad)).pa)
  have zlS := Fx.clfn_ok X Gm (x := "LatewordsError") (m := "__init__") ztf
  have B_LE : Binds K fd_LatewordsError_init ["self", "told"] [] := FunD.bindsN F_LatewordsError_init fun _ _ _ _ _ _ us hl => match us, hl with | [_, _], _ => rfl
  have A_BadText := Fx.ex_ok X Gm (x := "BadText") (f := "line") zsW
  have I_BadText : L2.FnOk P w K mg base (L2.CX P w) 2 (He.fAd K ("BadText", some "__init__")) fd_BadText_init ["self", "line"] (spExc K (He.ga K "BadText") "line") := zjQ F_BadText_init rfl zfB A_BadText.ox A_BadText.no (fun _ _ _ _ _ _ hr => zj8 rfl zlS.mg_ zlS.rd zlS.cv O_LE zlS.kp hr B_LE .nil passL (zaa (ci := ci0) (W := W0) (zab 0) (zaa (zak) zad)).pa) (fun a y H Q h q => ⟨.ref a, rfl, a, _, _, rfl, A_BadText.ox, h, q⟩) (fun _ _ _ _ _ _ => ⟨rfl, ps_ost (zab (ci := ci0) (W := W0) 0).pe (zab (ci := ci0) (W := W0) 1).pe⟩)
  have e_BadText : ExcC ci0 P w K mg base 29 "line" := Fx.exc_ok A_BadText rfl rfl (I_BadText.mono (by decide)) (FunD.bindsN F_BadText_init fun _ _ _ _ _ _ us hl => match us, hl with | [_, _], _ => rfl)
  have zdV : zbh ci0 P w K mg base "read_write" 2 [] (za2 1 zbE) := Fx.name_ok X Gm zsr F_read_write.kp (FnC.pos O_read_write (FunD.bindsN F_read_write fun _ _ _ _ _ _ us hl => match us, hl with | [_], _ => rfl))
  have zdd : GlC ci0 K mg "MOST_WRITES" (.int 200) := Fx.gl_ok X Gm zsx
  have zds : GlC ci0 K mg "MOST_LENGTH" (.int 1000000000000000000) := Fx.gl_ok X Gm zsc
  have O_read_conversation : FnOk P w K mg base (L2.CX P w) 5 (He.fAd K ("read_conversation", none)) fd_read_conversation ["text"] (spG ⟨K, mg, ci0⟩ 1 zav) := za5 F_read_conversation zcv (zd4 zal zfi zdi e_BadText zdV zbd zdd zds)
  have znk : IsiF ci0 K mg .int [0, 1] (.type "int") := Fx.isi_ok (u := fun _ => .type "int") X Gm zs4
  have zj9 : IsiF ci0 K mg .bool [0, 1] (.type "bool") := Fx.isi_ok (u := fun _ => .type "bool") X Gm zsm
  have zkq : mg "bool" = none := He.free_ok X Gm zsT
  have O_is_integer : FnOk P w K mg base (L2.CX P w) 1 (He.fAd K ("is_integer", none)) fd_is_integer ["value"] (spG ⟨K, mg, ci0⟩ 1 zcn) := za5 F_is_integer zg7 (zgT zal znk zdo zj9 zkq)
  have zdS : zbh ci0 P w K mg base "is_integer" 1 [] (za2 1 zcn) := Fx.name_ok X Gm zsH F_is_integer.kp (FnC.pos O_is_integer (FunD.bindsN F_is_integer fun _ _ _ _ _ _ us hl => match us, hl with | [_], _ => rfl))
  have O_in_range : FnOk P w K mg base (L2.CX P w) 2 (He.fAd K ("in_range", none)) fd_in_range ["value", "least", "most"] (spG ⟨K, mg, ci0⟩ 3 zbY) := za5 F_in_range ziA (zix zdS)
  have zby : zok ci0 K mg "Policy" "HOLDS" (.tup [(.str "off"), (.str "partial"), (.str "all")]) := Fx.con_ok X Gm zr6
  have A_BadSetting := Fx.ex_ok X Gm (x := "BadSetting") (f := "name") zsO
  have I_BadSetting : L2.FnOk P w K mg base (L2.CX P w) 2 (He.fAd K ("BadSetting", some "__init__")) fd_BadSetting_init ["self", "name"] (spExc K (He.ga K "BadSetting") "name") := zjQ F_BadSetting_init rfl zeJ A_BadSetting.ox A_BadSetting.no (fun _ _ _ _ _ _ hr => zj8 rfl zlS.mg_ zlS.rd zlS.cv O_LE zlS.kp hr B_LE .nil passL (zaa (ci := ci0) (W := W0) (zab 0) (zaa (zak) zad)).pa) (fun a y H Q h q => ⟨.ref a, rfl, a, _, _, rfl, A_BadSetting.ox, h, q⟩) (fun _ _ _ _ _ _ => ⟨rfl, ps_ost (zab (ci := ci0) (W := W0) 0).pe (zab (ci := ci0) (W := W0) 1).pe⟩)
  have e_BadSetting : ExcC ci0 P w K mg base 21 "name" := Fx.exc_ok A_BadSetting rfl rfl (I_BadSetting.mono (by decide)) (FunD.bindsN F_BadSetting_init fun _ _ _ _ _ _ us hl => match us, hl with | [_, _], _ => rfl)
  have zb0 : GlC ci0 K mg "MOST_EVERY" (.int 9) := Fx.gl_ok X Gm zsf
  have zce : zbh ci0 P w K mg base "in_range" 2 [] (za2 3 zbY) := Fx.name_ok X Gm zsX F_in_range.kp (FnC.pos O_in_range (FunD.bindsN F_in_range fun _ _ _ _ _ _ us hl => match us, hl with | [_, _, _], _ => rfl))
  have zbZ : GlC ci0 K mg "MOST_QUICK" (.int 4) := Fx.gl_ok X Gm zsn
  have zdr : FldAt ci0 K mg "hold" 0 0 := Fx.fld_ok X Gm (x := "Policy") zr2 rfl rfl (by decide +kernel)
  have zcX : FldAt ci0 K mg "every" 0 1 := Fx.fld_ok X Gm (x := "Policy") zsM rfl rfl (by decide +kernel)
  have zcZ : FldAt ci0 K mg "quick" 0 2 := Fx.fld_ok X Gm (x := "Policy") zsL rfl rfl (by decide +kernel)
  have ziH : mg "TurnState" = none := He.free_ok X Gm zsU
  have zcg : FldAt ci0 K mg "quick" 2 5 := Fx.fld_no (x := "TurnState") ziH rfl rfl (by decide +kernel)
  have O_Policy_init : FnOk P w K mg base (L2.CX P w) 5 (He.fAd K ("Policy", some "__init__")) fd_Policy_init ["self", "hold", "every", "quick"] (spG ⟨K, mg, ci0⟩ 4 zaR) := za5 F_Policy_init zgi (zge zal zfi zdi zby e_BadSetting zb0 zce zbZ zdr zcX zcZ zcg)
  obtain ⟨its_Policy_init_s2_every_quick, mv_Policy_init_s2_every_quick, kb_Policy_init_s2_every_quick⟩ := zoS (ps := ["self", "hold", "every", "quick"]) F_Policy_init 2 ["every", "quick"] [] [.k 0, .k 1] (by simp) (by simp) (by simp) fun T D doc pm an cdv ct us its mv ws h1 h2 h3 h4 => match us, h1, its, h2, mv, h3, ws, h4 with | [_, _], _, [_], _, [], _, [_, _], _ => ⟨_, rfl, rfl⟩
  have zbw : zhw ci0 P w K mg base 0 5 ["every", "quick"] (kwF 2 2 zaD zaR) := Fx.make_ok X Gm (x := "Policy") zqg zrI rfl (FnC.kwS 2 O_Policy_init kb_Policy_init_s2_every_quick (fun bs H => .cons (.str (by decide +kernel)) (.nil)) (fun bs H => .nil) (by decide +kernel) rfl)
  have O_read_policy : FnOk P w K mg base (L2.CX P w) 7 (He.fAd K ("read_policy", none)) fd_read_policy ["text"] (spG ⟨K, mg, ci0⟩ 1 za1) := za5 F_read_policy zeb (zgm zal zfi zdi e_BadText zbd zby zb0 zaZ zbZ zbw)
  have zch : GlC ci0 K mg "MOST_SIZE" (.int 1000000000000000000) := Fx.gl_ok X Gm zr4
  have zgM : zp3 ci0 K mg 0 [0, 1] := Fx.isiC_ok X Gm (x := "Policy") zqg rfl zs8
  obtain ⟨its_Policy_init_s1, mv_Policy_init_s1, kb_Policy_init_s1⟩ := zoS (ps := ["self", "hold", "every", "quick"]) F_Policy_init 1 [] [("every", (.int 2)), ("quick", (.int 0))] [.d 0, .m 0, .m 1] (by simp) (by simp) (by simp) fun T D doc pm an cdv ct us its mv ws h1 h2 h3 h4 => match us, h1, its, h2, mv, h3, ws, h4 with | [_], _, [_], _, [_, _], _, [], _ => ⟨_, rfl, ⟨_, _, _, _, _, _, rfl, rfl, ⟨_, _, _, _, _, _, rfl, rfl, rfl⟩⟩⟩
  have zdt : zhw ci0 P w K mg base 0 5 [] (kwF 1 0 zbl zaR) := Fx.make_ok X Gm (x := "Policy") zqg zrI rfl (FnC.kwS 1 O_Policy_init kb_Policy_init_s1 (fun bs H => .cons (.str (by decide +kernel)) (.nil)) (fun bs H => .cons (.int 2) (.cons (.int 0) (.nil))) (by decide +kernel) rfl)
  have zcS : FldAt ci0 K mg "size" 1 0 := Fx.fld_ok X Gm (x := "Setting") zsz rfl rfl (by decide +kernel)
  have zb3 : FldAt ci0 K mg "policies" 1 1 := Fx.fld_ok X Gm (x := "Setting") ztg rfl rfl (by decide +kernel)
  have O_Setting_init : FnC ci0 P w K mg base 7 (He.fAd K ("Setting", some "__init__")) [] (zgg 2 zba) := zlK (ps := ["self", "size"]) (pv := "policies") rfl F_Setting_init zdF (fun _ _ _ _ _ _ us rest hl => match us, rest, hl with | [_, _], [], _ => rfl | [_, _], _ :: _, _ => rfl) (zfF zch zce e_BadSetting zbd zal zgM zgY zdt zcS zb3)
  have zbF : zbh ci0 P w K mg base "read_policy" 7 [] (za2 1 za1) := Fx.name_ok X Gm zsi F_read_policy.kp (FnC.pos O_read_policy (FunD.bindsN F_read_policy fun _ _ _ _ _ _ us hl => match us, hl with | [_], _ => rfl))
  have zcY : zhw ci0 P w K mg base 1 7 [] (zgg 2 zba) := Fx.make_ok X Gm (x := "Setting") zs0 zsb rfl O_Setting_init
  have O_read_setting : FnOk P w K mg base (L2.CX P w) 9 (He.fAd K ("read_setting", none)) fd_read_setting ["text"] (spG ⟨K, mg, ci0⟩ 1 zbp) := za5 F_read_setting zdU (zfw zal zfi zdi e_BadText zch zaZ zbd zbF zcY)
  have zbU : zbh ci0 P w K mg base "read_conversation" 5 [] (za2 1 zav) := Fx.name_ok X Gm zr3 F_read_conversation.kp (FnC.pos O_read_conversation (FunD.bindsN F_read_conversation fun _ _ _ _ _ _ us hl => match us, hl with | [_], _ => rfl))
  have zcP : zbh ci0 P w K mg base "read_setting" 9 [] (za2 1 zbp) := Fx.name_ok X Gm zr7 F_read_setting.kp (FnC.pos O_read_setting (FunD.bindsN F_read_setting fun _ _ _ _ _ _ us hl => match us, hl with | [_], _ => rfl))
  have n_BadText : mg "BadText" = some (.ref (ad mg "BadText")) := Fx.gad_ok X Gm (x := "BadText") zrT
  have h_BadText : zfX ci0 mg (fun cls => PySem.W.exmOne K cls (.ref (ad mg "BadText"))) [20, 21, 22, 29] [29] := Fx.exm1_ok X Gm zsd
  have n_LatewordsError : mg "LatewordsError" = some (.ref (ad mg "LatewordsError")) := Fx.gad_ok X Gm (x := "LatewordsError") zrW
  have ki_BadText_LatewordsError : PySem.W.kitOne K (.ref (ad mg "BadText")) (.ref (ad mg "LatewordsError")) = some true := Fx.kitC_ok X Gm zrW zrX
  have eri_BadText : ErI ci0 K mg 29 := Fx.eri_ok X Gm (x := "BadText") zr0 rfl
  have ki_BadText_ValueError : PySem.W.kitOne K (.ref (ad mg "BadText")) (.type "ValueError") = some true := Fx.kit_ok X Gm (u := fun _ => .type "ValueError") zsa
  have ef_BadText_line : ErF ci0 K mg 29 "line" 0 := Fx.erf_ok X Gm (x := "BadText") zrT zte rfl rfl (by decide +kernel)
  have er_BadText : ErC ci0 K mg 29 := Fx.er_ok X Gm (x := "BadText") zsJ rfl
  have n_BadWrite : mg "BadWrite" = some (.ref (ad mg "BadWrite")) := Fx.gad_ok X Gm (x := "BadWrite") zsG
  have h_BadWrite : zfX ci0 mg (fun cls => PySem.W.exmOne K cls (.ref (ad mg "BadWrite"))) [20, 21, 22, 29] [22] := Fx.exm1_ok X Gm zs5
  have O_l_told : FnOk P w K mg base (L2.CX P w) 10 (He.fAd K ("_law_told", none)) fd_l_told ["_law_which", "_law_text"] (spG ⟨K, mg, ci0⟩ 2 zcj) := ziE (za5 F_l_told zht (zjS zbU zbF zcP n_BadText h_BadText zal n_LatewordsError ki_BadText_LatewordsError eri_BadText ki_BadText_ValueError zcH ef_BadText_line er_BadText n_BadWrite h_BadWrite))
  have zcQ : zbh ci0 P w K mg base "_law_is_setting" 3 [] (za2 1 zbN) := Fx.name_ok X Gm zsZ F_l_is_setting.kp (FnC.pos O_l_is_setting (FunD.bindsN F_l_is_setting fun _ _ _ _ _ _ us hl => match us, hl with | [_], _ => rfl))
  have zbR : zbh ci0 P w K mg base "_law_is_conversation" 3 [] (za2 1 zbf) := Fx.name_ok X Gm zs2 F_l_is_conversation.kp (FnC.pos O_l_is_conversation (FunD.bindsN F_l_is_conversation fun _ _ _ _ _ _ us hl => match us, hl with | [_], _ => rfl))
  have zdf : zbh ci0 P w K mg base "_law_told" 10 [] (za2 2 zcj) := Fx.name_ok X Gm zsQ F_l_told.kp (FnC.pos O_l_told (FunD.bindsN F_l_told fun _ _ _ _ _ _ us hl => match us, hl with | [_, _], _ => rfl))
  have O_l_right : FnOk P w K mg base (L2.CX P w) 11 (He.fAd K ("_law_right", none)) fd_l_right ["_law_which", "_law_text"] (spG ⟨K, mg, ci0⟩ 2 zbe) := za5 F_l_right zgv (zjf zcQ zbG zbR zdf)
  have O_l_bent : FnOk P w K mg base (L2.CX P w) 2 (He.fAd K ("_law_bent", none)) fd_l_bent ["_law_bag_here", "_law_text"] (spG ⟨K, mg, ci0⟩ 2 zdj) := ziE (za5 F_l_bent zhQ (zkA zbd zbj))
  have zmq : mg "min" = none := He.free_ok X Gm zsS
  have zmJ : mg "max" = none := He.free_ok X Gm zsq
  have ziC : zbh ci0 P w K mg base "_law_bag" 1 [] (za2 2 zeV) := Fx.name_ok X Gm zs6 F_l_bag.kp (FnC.pos O_l_bag (FunD.bindsN F_l_bag fun _ _ _ _ _ _ us hl => match us, hl with | [_, _], _ => rfl))
  have zf2 : zbh ci0 P w K mg base "_law_drawn" 2 [] (za2 1 zdb) := Fx.name_ok X Gm zs9 F_l_drawn.kp (FnC.pos O_l_drawn (FunD.bindsN F_l_drawn fun _ _ _ _ _ _ us hl => match us, hl with | [_], _ => rfl))
  have zem : mg "enumerate" = none := He.free_ok X Gm zsh
  have zb1 : zbh ci0 P w K mg base "_law_right" 11 [] (za2 2 zbe) := Fx.name_ok X Gm zsp F_l_right.kp (FnC.pos O_l_right (FunD.bindsN F_l_right fun _ _ _ _ _ _ us hl => match us, hl with | [_, _], _ => rfl))
  have zfl : zbh ci0 P w K mg base "_law_bent" 2 [] (za2 2 zdj) := Fx.name_ok X Gm ztb F_l_bent.kp (FnC.pos O_l_bent (FunD.bindsN F_l_bent fun _ _ _ _ _ _ us hl => match us, hl with | [_, _], _ => rfl))
  have O_law : FnOk P w K mg base (L2.CX P w) 12 (He.fAd K ("law", none)) fd_law ["_law_script"] (spG ⟨K, mg, ci0⟩ 1 G_law) := za5 F_law zmd (zon zbd zmq zmJ zdC ziC zf2 zem zb1 zdf zfl)
  exact O_law
end Ev
open PySem PySem.W PySem.Calls PyProof.Rows
set_option maxHeartbeats 0 in
theorem PySem.Challenge.cw_latewords_k72_texts_refused_holds : PySem.Challenge.rw_latewords_k72_texts_refused.Holds := by
  w_on; o_law
  refine HandSHeadRun.head_any (r:=OpenLaw.row PySem.Challenge.rw_latewords_k72_texts_refused) (q:=view (OpenLaw.row PySem.Challenge.rw_latewords_k72_texts_refused).prog [37]) (H:=Ev.hk) (ob:=Ev.ob) (M:=4000) (loose:=Ev.loose) (d:=HandSHeadRun.topDef (OpenLaw.row PySem.Challenge.rw_latewords_k72_texts_refused).prog 37) (kwd:=[]) Ev.ob_eq
    (by kernel_rfl) (fun s=>by kernel_rfl) Ev.run (by kernel_rfl) (by kernel_rfl) (by kernel_rfl) (by rfl) (by first | assumption | decide +kernel) (by decide +kernel) ⟨rfl,rfl,rfl,rfl,rfl,by decide +kernel⟩ ?hw ?hc
  case hw=>w_witness2
  case hc =>
    exact Ev.walk_Z (nn:=0) (l:=PySem.Challenge.rw_latewords_k72_texts_refused) (n:=63) (k:=12) (x:="_law_script") (nm:="law") (G:=Ev.G_law) (ci:=Ev.ci0) rfl (by decide) (by kernel_rfl) (by kernel_rfl) ⟨⟨rfl,by decide,by decide⟩,rfl⟩ Ev.law_true
      fun w K mg fa h KX c cx G hmg=>Ev.facts KX G hmg c cx
end
end
