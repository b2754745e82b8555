import PyProof.Rows.All
import Wide.All
import OpenK.AllK
import Wide.FinOn
import HandS.ForMost
import HandS.Exc
import HandS.TryOnly
import HandS.TryMany
import HandS.ExcOwn
import HandS.ExcInit
import HandS.WordsExc
import HandS.CallSlots
import HandS.Flow
import HandS.Wide
import HandS.WideBits
import HandS.IsInst
import HandS.Defaults
import HandS.Star
import HandS.MakeKw
import HandS.MakeKwOnly
import HandS.Deep
import HandS.TupAny
import HandS.OwnEq
import HandS.ClsMeth
import HandS.FStr
import HandS.Iter
import KE.KDictKeyed
import KE.KStateDown
import HandS.Ends
import HandS.Head0
import HandS.Head1
import HandS.Head2
import HandS.HeadEnd
import HandS.HeadHook1
import HandS.HeadHook2
import HandS.EndBits
import KE.DataEq
import HandS.ExcField
import HandS.ExcIs
import KE.KTryMore
import KE.KExcIs
import KE.KMatchCls
import HandS.More
import HandS.Style
import KE.KFmtOwn
import HandS.SlotsOwn
import PyProof.EqAt
import PyProof.Rows.StrJoin2
import HandS.RaiseMore
import KE.KDictDisplayH
import HandS.Strs
import HandS.SetBool
import HandS.SetFor
import HandS.TupSets
import KE.KUnpack
import PyProof.CollectIter
import HandS.StrMore
import HandS.Text
import PySem.Challenge.RW_latewords_k71_texts_of_conversations_and
set_option Elab.async false
set_option linter.all false
set_option maxRecDepth 100000
set_option maxHeartbeats 4000000
/-! Certified combinators over the hand layer: what a construct does is told as a plain function on trees. -/
namespace Ev
open PySem L2

inductive D where
  | non | bl (b : Bool) | int (i : Int) | str (s : Str)
  | tup (xs : List D) | lst (xs : List D) | rol (xs : List D) | obj (c : Nat) (fs : List D)
  | ref (n : Nat) | dct (ks : List Key) (ds : List D) | dnt (ks ds : List D)
inductive O where
  | lst (xs : List D) | ins (c : Nat) (fs : List D) | dct (ks : List Key) (ds : List D) | dn (ks ds : List D) | lk (od : Obj) (u : HO) (o : O)
/-! ### dicts whose keys are tuples of numbers, truth values, None -/
abbrev NK := NestedKey
mutual
def tfree : NK → Bool
  | .none => true
  | .num _ => true
  | .text _ => false
  | .tup ks => tfrees ks
def tfrees : List NK → Bool
  | [] => true
  | k :: ks => tfree k && tfrees ks
end
mutual
def hash0 : NK → Int
  | .none => reduceHash 0xFCA86420
  | .num i => hashInt i
  | .text _ => 0
  | .tup ks => reduceHash (Builtin.Tuple.tupleHashOf (hash0s ks))
def hash0s : List NK → List Int
  | [] => []
  | k :: ks => hash0 k :: hash0s ks
end
mutual
theorem hash0_eq (w : World) : ∀ {k : NK}, tfree k = true → k.hash w = hash0 k
  | .none, _ => rfl
  | .num _, _ => rfl
  | .text _, h => by simp [tfree] at h
  | .tup ks, h => by
    rw [tfree] at h
    rw [NestedKey.hash, hash0, hash0s_eq w h]
theorem hash0s_eq (w : World) : ∀ {ks : List NK}, tfrees ks = true → NestedKey.hashes w ks = hash0s ks
  | [], _ => rfl
  | k :: ks, h => by
    rw [tfrees, Bool.and_eq_true] at h
    rw [NestedKey.hashes, hash0s, hash0_eq w h.1, hash0s_eq w h.2]
end
mutual
def keyN : D → Option NK
  | .non => some .none
  | .bl b => some (.num (if b = true then 1 else 0))
  | .int i => some (.num i)
  | .tup xs => (keyNs xs).map .tup
  | .str _ => none
  | .lst _ => none
  | .rol _ => none
  | .obj _ _ => none
  | .ref _ => none
  | .dct _ _ => none
  | .dnt _ _ => none
def keyNs : List D → Option (List NK)
  | [] => some []
  | x :: xs => match keyN x, keyNs xs with
    | some y, some ys => some (y :: ys)
    | _, _ => none
end
/-- an entry: its key, where the key's tuple stands, the value -/
abbrev Ent := NK × Addr × V
abbrev Entries : List Ent → List DictEntry → Prop := Paired fun e q => q.hash = hash0 e.1 ∧ q.key = .ref e.2.1 ∧ RelV e.2.2 q.val
def DnAt (a : Addr) (es : List Ent) (h : Heap) : Prop := es.length ≤ sizeLine ∧ (a == sysModules) = false ∧ (∀ e ∈ es, tfree e.1 = true ∧ e.1.depth ≤ 8) ∧ (es.map (·.1)).Nodup ∧ ∃ o xs ep, h.get? a = some o ∧ o.ExactDict ∧ o.data = .dict xs ep ∧ Entries es xs.toList
def dnH (a : Addr) (es : List Ent) : HO := .ext (DnAt a es)
abbrev Hs := List O
abbrev En := List (Option D)
inductive R (α : Type) where
  | ok (a : α) (h : Hs) | err (c : Nat) (fs : List D) (h : Hs) | bad
def R.bind {α β : Type} (r : R α) (k : α → Hs → R β) : R β := match r with
  | .ok a h => k a h
  | .err c fs h => .err c fs h
  | .bad => .bad
@[simp] theorem R.bind_ok {α β : Type} (a : α) (h : Hs) (k : α → Hs → R β) : (R.ok a h).bind k = k a h := rfl
@[simp] theorem R.bind_err {α β : Type} (c : Nat) (fs : List D) (h : Hs) (k : α → Hs → R β) : (R.err c fs h : R α).bind k = .err c fs h := rfl
@[simp] theorem R.bind_bad {α β : Type} (k : α → Hs → R β) : (R.bad : R α).bind k = .bad := rfl
theorem R.bind_assoc {α β γ : Type} (r : R α) (k : α → Hs → R β) (l : β → Hs → R γ) : (r.bind k).bind l = r.bind fun a h => (k a h).bind l := by
  cases r <;> rfl

structure G where
  K : PySem.W.Frag
  mg : Str → Option Value
  ci : Nat → String × List String

def KTup (K : PySem.W.Frag) (a : Addr) (xs : List V) : Prop :=
  ∃ (o : Obj) (its : Array Value) (n : Nat), K.lookup a = some o ∧ o.cls = .type "tuple" ∧ o.data = .seq its n ∧ its.size ≤ sizeLine ∧ Vals xs its.toList
def KLst (K : PySem.W.Frag) (a : Addr) (xs : List V) : Prop :=
  ∃ (o : Obj) (its : Array Value) (n : Nat), K.lookup a = some o ∧ o.cls = .type "list" ∧ o.dict = none ∧ o.data = .seq its n ∧ its.size ≤ sizeLine ∧ Vals xs its.toList
def TupAt (g : G) (bs : List Addr) (H : Hp) (a : Addr) (vs : List V) : Prop := (a ∉ bs ∧ Rd H a (.tup vs)) ∨ KTup g.K a vs
def RolAt (g : G) (bs : List Addr) (H : Hp) (a : Addr) (vs : List V) : Prop := (a ∉ bs ∧ Rd H a (.lst vs)) ∨ KLst g.K a vs
def IsCls (g : G) (c : Nat) (C : Addr) : Prop := g.mg (Str.ofString (g.ci c).1) = some (.ref C)
def flds (g : G) (c n : Nat) : List Str := ((g.ci c).2.take n).map Str.ofString

mutual
inductive Rep (g : G) (bs : List Addr) (H : Hp) : D → V → Prop
  | non : Rep g bs H .non .non
  | bl (b : Bool) : Rep g bs H (.bl b) (.bl b)
  | int (i : Int) : Rep g bs H (.int i) (.int i)
  | str {s : Str} : PySem.PyData.strOk s = true → Rep g bs H (.str s) (.str s)
  | tup {a : Addr} {vs : List V} {ds : List D} : TupAt g bs H a vs → Reps g bs H ds vs → Rep g bs H (.tup ds) (.ref a)
  | lst {a : Addr} {vs : List V} {ds : List D} : a ∉ bs → H a = some (.lst vs) → Reps g bs H ds vs → Rep g bs H (.lst ds) (.ref a)
  | rol {a : Addr} {vs : List V} {ds : List D} : RolAt g bs H a vs → Reps g bs H ds vs → Rep g bs H (.rol ds) (.ref a)
  | obj {c : Nat} {C a dx : Addr} {fvs : List (Str × V)} {ds : List D} : a ∉ bs → IsCls g c C → H a = some (.ins C dx fvs) → fvs.map (·.1) = flds g c ds.length → Reps g bs H ds (fvs.map (·.2)) → Rep g bs H (.obj c ds) (.ref a)
  | ref {n : Nat} {a : Addr} : bs[n]? = some a → Rep g bs H (.ref n) (.ref a)
  | dct {a : Addr} {kvs : List (Key × V)} {ks : List Key} {ds : List D} : a ∉ bs → H a = some (.dK kvs) → kvs.map (·.1) = ks → Reps g bs H ds (kvs.map (·.2)) → Rep g bs H (.dct ks ds) (.ref a)
  | dnt {a : Addr} {od : Obj} {es : List Ent} {ks ds : List D} : a ∉ bs → H a = some (.frz od (dnH a es)) → keyNs ks = some (es.map (·.1)) → Reps g bs H ks (es.map fun e => V.ref e.2.1) → Reps g bs H ds (es.map (·.2.2)) → Rep g bs H (.dnt ks ds) (.ref a)
inductive Reps (g : G) (bs : List Addr) (H : Hp) : List D → List V → Prop
  | nil : Reps g bs H [] []
  | cons {d : D} {v : V} {ds : List D} {vs : List V} : Rep g bs H d v → Reps g bs H ds vs → Reps g bs H (d :: ds) (v :: vs)
end

/-- what stands locked -/
def RepU (g : G) (bs : List Addr) (H : Hp) (a : Addr) (u : HO) : O → Prop
  | .dct ks ds => ∃ kvs : List (Key × V), u = .dK kvs ∧ kvs.map (·.1) = ks ∧ Reps g bs H ds (kvs.map (·.2))
  | .dn ks ds => ∃ es : List Ent, u = dnH a es ∧ keyNs ks = some (es.map (·.1)) ∧ Reps g bs H ks (es.map fun e => V.ref e.2.1) ∧ Reps g bs H ds (es.map (·.2.2))
  | _ => False
def RepO (g : G) (bs : List Addr) (H : Hp) (a : Addr) : O → Prop
  | .lst ds => ∃ vs, H a = some (.lst vs) ∧ Reps g bs H ds vs
  | .ins c ds => ∃ C dx fvs, IsCls g c C ∧ H a = some (.ins C dx fvs) ∧ fvs.map (·.1) = flds g c ds.length ∧ Reps g bs H ds (fvs.map (·.2))
  | .dct ks ds => ∃ kvs : List (Key × V), H a = some (.dK kvs) ∧ kvs.map (·.1) = ks ∧ Reps g bs H ds (kvs.map (·.2))
  | .dn ks ds => ∃ es : List Ent, H a = some (dnH a es) ∧ keyNs ks = some (es.map (·.1)) ∧ Reps g bs H ks (es.map fun e => V.ref e.2.1) ∧ Reps g bs H ds (es.map (·.2.2))
  | .lk od u o => H a = some (.frz od u) ∧ RepU g bs H a u o
structure HRel (g : G) (bs : List Addr) (h : Hs) (H : Hp) : Prop where
  len : bs.length = h.length
  nd : bs.Nodup
  at_ : ∀ (i : Nat) (o : O), h[i]? = some o → ∃ a, bs[i]? = some a ∧ RepO g bs H a o
structure ERel (g : G) (bs : List Addr) (H : Hp) (env : En) (σ : St) : Prop where
  len : env.length = σ.length
  at_ : ∀ (i : Nat) (d : D), env[i]? = some (some d) → ∃ v, σ[i]? = some (some v) ∧ Rep g bs H d v
/-- what is kept: all but the cells at bs; new cells are new -/
structure Ext (bs : List Addr) (H : Hp) (bs' : List Addr) (H' : Hp) : Prop where
  pre : ∃ more, bs' = bs ++ more ∧ ∀ b ∈ more, H b = none
  keep : ∀ b o, H b = some o → b ∉ bs → H' b = some o
  cel : ∀ b o, H b = some o → ∃ o', H' b = some o'

section
variable {g : G} {bs bs1 bs2 : List Addr} {H H1 H2 : Hp}
theorem Ext.refl : Ext bs H bs H := ⟨⟨[], by simp, fun _ h => nomatch h⟩, fun _ _ h _ => h, fun _ o h => ⟨o, h⟩⟩
theorem Ext.out (e : Ext bs H bs1 H1) {b : Addr} {o : HO} (h : H b = some o) (hb : b ∉ bs) : b ∉ bs1 := by
  obtain ⟨⟨more, rfl, hm⟩, _, _⟩ := e
  intro z
  rcases List.mem_append.mp z with z | z
  · exact hb z
  · rw [hm b z] at h; cases h
theorem Ext.trans (e : Ext bs H bs1 H1) (f : Ext bs1 H1 bs2 H2) : Ext bs H bs2 H2 := by
  refine ⟨?_, fun b o h hb => f.keep b o (e.keep b o h hb) (e.out h hb), fun b o h => ?_⟩
  · obtain ⟨⟨m1, rfl, h1⟩, k1, c1⟩ := e
    obtain ⟨⟨m2, rfl, h2⟩, k2, c2⟩ := f
    refine ⟨m1 ++ m2, by simp, fun b hb => ?_⟩
    rcases List.mem_append.mp hb with z | z
    · exact h1 b z
    · cases q : H b with
      | none => rfl
      | some o =>
        obtain ⟨o', q'⟩ := c1 b o q
        rw [h2 b z] at q'; cases q'
  · obtain ⟨o', h'⟩ := e.cel b o h
    exact f.cel b o' h'
theorem Ext.rd (e : Ext bs H bs1 H1) {a : Addr} {u : HO} (hb : a ∉ bs) (h : Rd H a u) : a ∉ bs1 ∧ Rd H1 a u := by
  rcases h with h | ⟨o, h⟩
  · exact ⟨e.out h hb, .inl (e.keep _ _ h hb)⟩
  · exact ⟨e.out h hb, .inr ⟨o, e.keep _ _ h hb⟩⟩
theorem TupAt.mono (e : Ext bs H bs1 H1) {a : Addr} {vs : List V} (h : TupAt g bs H a vs) : TupAt g bs1 H1 a vs := by
  rcases h with ⟨h1, h2⟩ | h
  · exact .inl (e.rd h1 h2)
  · exact .inr h
theorem RolAt.mono (e : Ext bs H bs1 H1) {a : Addr} {vs : List V} (h : RolAt g bs H a vs) : RolAt g bs1 H1 a vs := by
  rcases h with ⟨h1, h2⟩ | h
  · exact .inl (e.rd h1 h2)
  · exact .inr h
theorem TupAt.sq {a : Addr} {vs : List V} (h : TupAt g bs H a vs) : SqT g.K H a vs := by
  rcases h with ⟨_, h⟩ | h
  · exact .inl h
  · exact .inr h
theorem RolAt.sq {a : Addr} {vs : List V} (h : RolAt g bs H a vs) : SqL g.K H a vs := by
  rcases h with ⟨_, h⟩ | h
  · exact .inl h
  · exact .inr h
theorem Ext.get (e : Ext bs H bs1 H1) {n : Nat} {a : Addr} (h : bs[n]? = some a) : bs1[n]? = some a := by
  obtain ⟨⟨more, rfl, _⟩, _, _⟩ := e
  rw [List.getElem?_append_left (List.getElem?_eq_some_iff.mp h).1]; exact h
mutual
theorem Rep.mono (e : Ext bs H bs1 H1) : ∀ {d : D} {v : V}, Rep g bs H d v → Rep g bs1 H1 d v
  | _, _, .non => .non
  | _, _, .bl b => .bl b
  | _, _, .int i => .int i
  | _, _, .str h => .str h
  | _, _, .tup h r => .tup (h.mono e) (Reps.mono e r)
  | _, _, .lst n h r => .lst (e.out h n) (e.keep _ _ h n) (Reps.mono e r)
  | _, _, .rol h r => .rol (h.mono e) (Reps.mono e r)
  | _, _, .obj n c h f r => .obj (e.out h n) c (e.keep _ _ h n) f (Reps.mono e r)
  | _, _, .ref h => .ref (e.get h)
  | _, _, .dct n h f r => .dct (e.out h n) (e.keep _ _ h n) f (Reps.mono e r)
  | _, _, .dnt n h f r r2 => .dnt (e.out h n) (e.keep _ _ h n) f (Reps.mono e r) (Reps.mono e r2)
theorem Reps.mono (e : Ext bs H bs1 H1) : ∀ {ds : List D} {vs : List V}, Reps g bs H ds vs → Reps g bs1 H1 ds vs
  | _, _, .nil => .nil
  | _, _, .cons r t => .cons (Rep.mono e r) (Reps.mono e t)
end
theorem ERel.mono (e : Ext bs H bs1 H1) {env : En} {σ : St} (h : ERel g bs H env σ) : ERel g bs1 H1 env σ :=
  ⟨h.len, fun i d q => let ⟨v, q1, r⟩ := h.at_ i d q; ⟨v, q1, r.mono e⟩⟩
theorem Reps.length : ∀ {ds : List D} {vs : List V}, Reps g bs H ds vs → ds.length = vs.length
  | _, _, .nil => rfl
  | _, _, .cons _ t => by rw [List.length_cons, List.length_cons, Reps.length t]
theorem Reps.get : ∀ {ds : List D} {vs : List V} {i : Nat} {d : D}, Reps g bs H ds vs → ds[i]? = some d → ∃ v, vs[i]? = some v ∧ Rep g bs H d v
  | _, _, _, _, .nil, h => by simp at h
  | _, _, 0, _, .cons r _, h => by simp at h; subst h; exact ⟨_, rfl, r⟩
  | _, _, i + 1, _, .cons _ t, h => by
    obtain ⟨v, h1, h2⟩ := Reps.get (i := i) t (by simpa using h)
    exact ⟨v, by simpa using h1, h2⟩
theorem Reps.append : ∀ {ds es : List D} {vs us : List V}, Reps g bs H ds vs → Reps g bs H es us → Reps g bs H (ds ++ es) (vs ++ us)
  | _, _, _, _, .nil, s => s
  | _, _, _, _, .cons r t, s => .cons r (Reps.append t s)
theorem Reps.set {d : D} {v : V} (r : Rep g bs H d v) : ∀ {ds : List D} {vs : List V} (i : Nat), Reps g bs H ds vs → Reps g bs H (ds.set i d) (vs.set i v)
  | _, _, _, .nil => .nil
  | _, _, 0, .cons _ t => .cons r t
  | _, _, i + 1, .cons q t => .cons q (Reps.set r i t)
theorem Reps.take : ∀ {ds : List D} {vs : List V} (n : Nat), Reps g bs H ds vs → Reps g bs H (ds.take n) (vs.take n)
  | _, _, 0, _ => .nil
  | _, _, _ + 1, .nil => .nil
  | _, _, n + 1, .cons r t => .cons r (Reps.take n t)
theorem Reps.drop : ∀ {ds : List D} {vs : List V} (n : Nat), Reps g bs H ds vs → Reps g bs H (ds.drop n) (vs.drop n)
  | _, _, 0, r => r
  | _, _, _ + 1, .nil => .nil
  | _, _, n + 1, .cons _ t => Reps.drop n t
end

/-! ### what is wanted behind -/
/-- an exception of an own class: its class, its fields -/
def ErrAt (g : G) (bs : List Addr) (H : Hp) (c : Nat) (ds : List D) (C : Value) (dd : Option Addr) : Prop :=
  ∃ (Ca d : Addr) (fvs : List (Str × V)), IsCls g c Ca ∧ C = .ref Ca ∧ dd = some d ∧ d ∉ bs ∧ H d = some (.xd fvs) ∧ fvs.map (·.1) = flds g c ds.length ∧ Reps g bs H ds (fvs.map (·.2))
theorem ErrAt.mono {g : G} {bs bs1 : List Addr} {H H1 : Hp} {c : Nat} {ds : List D} {C : Value} {dd : Option Addr} (e : Ext bs H bs1 H1) (h : ErrAt g bs H c ds C dd) : ErrAt g bs1 H1 c ds C dd := by
  obtain ⟨Ca, d, fvs, h1, h2, h3, h4, h5, h6, h7⟩ := h
  exact ⟨Ca, d, fvs, h1, h2, h3, e.out h5 h4, e.keep _ _ h5 h4, h6, h7.mono e⟩
def Post {α β : Type} (rel : List Addr → Hp → α → β → Prop) (g : G) (W : Value → Option Addr → Hp → Prop) (bs : List Addr) (H : Hp) (r : R α) (Q : β → Hp → Prop) : Prop := match r with
  | .ok a h' => ∀ bs' H' v, Ext bs H bs' H' → HRel g bs' h' H' → rel bs' H' a v → Q v H'
  | .err c fs h' => ∀ C dd bs' H', Ext bs H bs' H' → HRel g bs' h' H' → ErrAt g bs' H' c fs C dd → W C dd H'
  | .bad => False
theorem Post.mono {α β : Type} {rel : List Addr → Hp → α → β → Prop} {g : G} {W : Value → Option Addr → Hp → Prop} {bs bs1 : List Addr} {H H1 : Hp} {r : R α} {Q : β → Hp → Prop} (e : Ext bs H bs1 H1) (h : Post rel g W bs H r Q) : Post rel g W bs1 H1 r Q := by
  cases r with
  | ok a h' => exact fun bs' H' v x y z => h bs' H' v (e.trans x) y z
  | err c fs h' => exact fun C dd bs' H' x y z => h C dd bs' H' (e.trans x) y z
  | bad => exact h
theorem Post.ok_ {α β : Type} {rel : List Addr → Hp → α → β → Prop} {g : G} {W : Value → Option Addr → Hp → Prop} {bs : List Addr} {H : Hp} {a : α} {v : β} {h : Hs} {Q : β → Hp → Prop} (p : Post rel g W bs H (.ok a h) Q) (hr : HRel g bs h H) (r : rel bs H a v) : Q v H :=
  p bs H v .refl hr r
end Ev
set_option Elab.async false
set_option linter.all false
set_option maxRecDepth 100000
set_option maxHeartbeats 4000000
namespace Ev
open PySem L2

abbrev _root_.L2.Cx.g (X : Cx) (ci : Nat → String × List String) : G := ⟨X.K, X.mg, ci⟩
abbrev relV (g : G) : List Addr → Hp → D → V → Prop := fun bs H d v => Rep g bs H d v
abbrev relVs (g : G) : List Addr → Hp → List D → List V → Prop := fun bs H d v => Reps g bs H d v
abbrev relB : List Addr → Hp → Bool → Bool → Prop := fun _ _ a b => b = a
def Sim {α β : Type} (rel : List Addr → Hp → α → β → Prop) (g : G) (W : WX) (t : St → Hp → (β → Hp → Prop) → Prop) (f : En → Hs → R α) : Prop :=
  ∀ (σ : St) (H : Hp) (env : En) (h : Hs) (bs : List Addr) (Q : β → Hp → Prop), ERel g bs H env σ → HRel g bs h H → Post rel g (fun C d H' => W C d σ H') bs H (f env h) Q → t σ H Q
structure EJ (ci : Nat → String × List String) (X : Cx) (W : WX) (e : Expr) (t : TE) (f : En → Hs → R D) : Prop where
  pe : PE X e t
  sim : Sim (relV (X.g ci)) (X.g ci) W t f
structure TJ (ci : Nat → String × List String) (X : Cx) (W : WX) (e : Expr) (t : TT) (f : En → Hs → R Bool) : Prop where
  pt : PT X e t
  sim : Sim relB (X.g ci) W t f
structure TWJ (ci : Nat → String × List String) (X : Cx) (W : WX) (e : Expr) (t : TT) (f : En → Hs → R Bool) : Prop where
  pw : PW X e t
  sim : Sim relB (X.g ci) W t f
structure AJ (ci : Nat → String × List String) (X : Cx) (W : WX) (es : List Expr) (t : TA) (f : En → Hs → R (List D)) : Prop where
  pa : PA X es t
  sim : Sim (relVs (X.g ci)) (X.g ci) W t f

theorem Post.step {α β γ δ : Type} {relA : List Addr → Hp → α → β → Prop} {relC : List Addr → Hp → γ → δ → Prop} {g : G} {W : Value → Option Addr → Hp → Prop} {bs : List Addr} {H : Hp} {r : R α} {k : α → Hs → R γ} {Q : δ → Hp → Prop} {Q' : β → Hp → Prop}
    {M : (β → Hp → Prop) → Prop} (hM : ∀ Q', Post relA g W bs H r Q' → M Q') (p : Post relC g W bs H (r.bind k) Q)
    (hk : ∀ a b bs1 H1 h1, Ext bs H bs1 H1 → HRel g bs1 h1 H1 → relA bs1 H1 a b → Post relC g W bs1 H1 (k a h1) Q → Q' b H1) : M Q' := by
  refine hM _ ?_
  cases r with
  | bad => exact p
  | err c fs h' => exact p
  | ok a h1 => exact fun bs1 H1 b e hr1 ra => hk a b bs1 H1 h1 e hr1 ra (Post.mono e p)
theorem Sim.step {α β γ δ : Type} {relA : List Addr → Hp → α → β → Prop} {relC : List Addr → Hp → γ → δ → Prop} {g : G} {W : WX} {t : St → Hp → (β → Hp → Prop) → Prop} {f : En → Hs → R α} {σ : St} {H : Hp} {env : En} {h : Hs} {bs : List Addr} {k : α → Hs → R γ} {Q : δ → Hp → Prop} {Q' : β → Hp → Prop}
    (ht : Sim relA g W t f) (er : ERel g bs H env σ) (hr : HRel g bs h H) (p : Post relC g (fun C d H' => W C d σ H') bs H ((f env h).bind k) Q)
    (hk : ∀ a b bs1 H1 h1, Ext bs H bs1 H1 → HRel g bs1 h1 H1 → ERel g bs1 H1 env σ → relA bs1 H1 a b → Post relC g (fun C d H' => W C d σ H') bs1 H1 (k a h1) Q → Q' b H1) : t σ H Q' :=
  Post.step (M := fun Q' => t σ H Q') (fun Q' p => ht σ H env h bs Q' er hr p) p fun a b bs1 H1 h1 e hr1 ra p1 => hk a b bs1 H1 h1 e hr1 (er.mono e) ra p1
theorem Sim.bind {α β γ δ : Type} {relA : List Addr → Hp → α → β → Prop} {relC : List Addr → Hp → γ → δ → Prop} {g : G} {W : WX} {t : St → Hp → (β → Hp → Prop) → Prop} {f : En → Hs → R α}
    {u : β → St → Hp → (δ → Hp → Prop) → Prop} {k : α → En → Hs → R γ} (ht : Sim relA g W t f)
    (hk : ∀ a b σ H env h bs (Q : δ → Hp → Prop), ERel g bs H env σ → HRel g bs h H → relA bs H a b → Post relC g (fun C d H' => W C d σ H') bs H (k a env h) Q → u b σ H Q) :
    Sim relC g W (fun σ H Q => t σ H fun b H1 => u b σ H1 Q) (fun env h => (f env h).bind fun a h1 => k a env h1) :=
  fun σ H env h bs Q er hr p => ht.step er hr p fun a b bs1 H1 h1 e hr1 er1 ra p1 => hk a b σ H1 env h1 bs1 Q er1 hr1 ra p1
theorem Sim.pure_ {α β : Type} {rel : List Addr → Hp → α → β → Prop} {g : G} {W : WX} {a : α} {b : β} (h : ∀ bs H, rel bs H a b) : Sim rel g W (fun _ H Q => Q b H) (fun _ h => .ok a h) :=
  fun σ H env h' bs Q er hr p => Post.ok_ p hr (h bs H)

/-! ### names, constants -/
def eVar (i : Nat) : En → Hs → R D := fun env h => match env[i]? with
  | some (some d) => .ok d h
  | _ => .bad
def eC (d : D) : En → Hs → R D := fun _ h => .ok d h
section
variable {ci : Nat → String × List String} {X : Cx} {W : WX} {pos : Pos}
theorem ej_var (i : Nat) {x : Str} (hN : X.N[i]? = some x := by rfl) (hv : Vis X.env.scope x := by first | exact Or.inl rfl | exact Or.inr (Or.inl rfl) | exact Or.inr (Or.inr rfl)) (hd : (x == ("__debug__" : Str)) = false := by decide)
    (hcd : (x == ("__classdict__" : Str)) = false := by decide) : EJ ci X W (.Name x pos) (tVar i) (eVar i) := by
  refine ⟨pe_var hN hv hd hcd, fun σ H env h bs Q er hr p => ?_⟩
  unfold eVar at p
  split at p
  · rename_i d hd
    obtain ⟨v, hv, r⟩ := er.at_ i d hd
    exact ⟨v, hv, Post.ok_ p hr r⟩
  · exact p.elim
theorem ej_int {i : Int} {j} : EJ ci X W (.Constant (.int i) j pos) (tC (.int i)) (eC (.int i)) := ⟨pe_int, Sim.pure_ fun _ _ => .int i⟩
theorem ej_bl {b : Bool} {j} : EJ ci X W (.Constant (.bool b) j pos) (tC (.bl b)) (eC (.bl b)) := ⟨pe_bl, Sim.pure_ fun _ _ => .bl b⟩
theorem ej_non {j} : EJ ci X W (.Constant .none j pos) (tC .non) (eC .non) := ⟨pe_non, Sim.pure_ fun _ _ => .non⟩
theorem ej_str {s : Str} {j} (h : PyData.strOk s = true := by decide +kernel) : EJ ci X W (.Constant (.str s) j pos) (tC (.str s)) (eC (.str s)) := ⟨pe_str, Sim.pure_ fun _ _ => .str h⟩
/-- a module's constant -/
theorem ej_glob {x : Str} {v : V} {u : Value} {d : D} (hg : Gl X x) (hm : X.mg x = some u) (r : RelV v u) (hr : ∀ bs H, Rep (X.g ci) bs H d v) (hd : (x == ("__debug__" : Str)) = false := by decide) : EJ ci X W (.Name x pos) (tC v) (eC d) :=
  ⟨pe_glob hg hm r hd, Sim.pure_ hr⟩
end

/-! ### two-place operations -/
structure OpJ (g : G) (r : R2) (f : D → D → Hs → R D) : Prop where
  run : ∀ (W : Value → Option Addr → Hp → Prop) (bs : List Addr) (h : Hs) (H : Hp) (x y : D) (vx vy : V) (Q : VK), HRel g bs h H → Rep g bs H x vx → Rep g bs H y vy → Post (relV g) g W bs H (f x y h) Q → r vx vy H Q
def eBin (op : D → D → Hs → R D) (fa fb : En → Hs → R D) : En → Hs → R D := fun env h => (fa env h).bind fun x h1 => (fb env h1).bind fun y h2 => op x y h2
theorem sim_bin {g : G} {W : WX} {r : R2} {op : D → D → Hs → R D} {ta tb : TE} {fa fb : En → Hs → R D} (ho : OpJ g r op) (ha : Sim (relV g) g W ta fa) (hb : Sim (relV g) g W tb fb) : Sim (relV g) g W (tOp r ta tb) (eBin op fa fb) :=
  fun σ H env h bs Q er hr p => ha.step er hr p fun x vx bs1 H1 h1 e1 hr1 er1 rx p1 => hb.step er1 hr1 p1 fun y vy bs2 H2 h2 e2 hr2 er2 ry p2 =>
    ho.run _ bs2 h2 H2 x y vx vy Q hr2 (rx.mono e2) ry p2
section
variable {ci : Nat → String × List String} {X : Cx} {W : WX} {pos : Pos} {a b c : Expr} {ta tb tc : TE} {fa fb fc : En → Hs → R D}
theorem ej_bin {op : Operator} {r : R2} {f : D → D → Hs → R D} (ho : OpR X (binaryOp op) r) (hj : OpJ (X.g ci) r f) (ha : EJ ci X W a ta fa) (hb : EJ ci X W b tb fb) : EJ ci X W (.BinOp a op b pos) (tOp r ta tb) (eBin f fa fb) :=
  ⟨pe_op ho ha.pe hb.pe, sim_bin hj ha.sim hb.sim⟩
/-- a comparison as a value -/
theorem ej_cmp {op : CmpOp} {r : R2} {f : D → D → Hs → R D} (ho : OpR X (compareOp op) r) (hj : OpJ (X.g ci) r f) (ha : EJ ci X W a ta fa) (hb : EJ ci X W b tb fb) (hm : behindInMarks op b = false) : EJ ci X W (.Compare a [op] [b] pos) (tOp r ta tb) (eBin f fa fb) :=
  ⟨pe_cmpR ho ha.pe hb.pe hm, sim_bin hj ha.sim hb.sim⟩
/-- a bool's value as a test -/
def toB (d : D) (h : Hs) : R Bool := match d with
  | .bl b => .ok b h
  | _ => .bad
def eTest (f : En → Hs → R D) : En → Hs → R Bool := fun env h => (f env h).bind toB
theorem sim_test {g : G} {t : TE} {f : En → Hs → R D} (ht : Sim (relV g) g W t f) : Sim relB g W (tTest t) (eTest f) := by
  refine Sim.bind (u := fun x σ H1 Q => ∃ k, x = .bl k ∧ Q k H1) (k := fun x _ h1 => toB x h1) ht ?_
  intro a b σ H env h bs Q er hr ra p
  cases ra <;> first | exact p.elim | exact ⟨_, rfl, Post.ok_ p hr rfl⟩
theorem tj_cmp {op : CmpOp} {r : R2} {f : D → D → Hs → R D} (ho : OpR X (compareOp op) r) (hj : OpJ (X.g ci) r f) (ha : EJ ci X W a ta fa) (hb : EJ ci X W b tb fb) (hm : behindInMarks op b = false) : TJ ci X W (.Compare a [op] [b] pos) (tTest (tOp r ta tb)) (eTest (eBin f fa fb)) :=
  ⟨pt_cmpR ho ha.pe hb.pe hm, sim_test (sim_bin hj ha.sim hb.sim)⟩
/-- a op1 b op2 c -/
def eChain (o o' : D → D → Hs → R D) (fa fb fc : En → Hs → R D) : En → Hs → R D := fun env h => (fa env h).bind fun x h1 => (fb env h1).bind fun y h2 => (o x y h2).bind fun z h3 =>
  (toB z h3).bind fun k h4 => if k = true then (fc env h4).bind fun w h5 => o' y w h5 else .ok (.bl false) h4
theorem sim_chain {g : G} {r r' : R2} {o o' : D → D → Hs → R D} (ho : OpJ g r o) (ho' : OpJ g r' o') (ha : Sim (relV g) g W ta fa) (hb : Sim (relV g) g W tb fb) (hc : Sim (relV g) g W tc fc) : Sim (relV g) g W (tChain r r' ta tb tc) (eChain o o' fa fb fc) :=
  fun σ H env h bs Q er hr p => ha.step er hr p fun x vx bs1 H1 h1 e1 hr1 er1 rx p1 => hb.step er1 hr1 p1 fun y vy bs2 H2 h2 e2 hr2 er2 ry p2 =>
    Post.step (M := fun Q' => r vx vy H2 Q') (fun Q' q => ho.run _ bs2 h2 H2 x y vx vy Q' hr2 (rx.mono e2) ry q) p2 fun z vz bs3 H3 h3 e3 hr3 rz p3 => by
      cases rz with
      | bl k =>
        refine ⟨k, rfl, ?_⟩
        cases k with
        | false =>
          rw [if_neg Bool.false_ne_true]
          exact Post.ok_ p3 hr3 (.bl false)
        | true =>
          rw [if_pos rfl]
          exact hc.step (er2.mono e3) hr3 p3 fun w vw bs4 H4 h4 e4 hr4 er4 rw_ p4 => ho'.run _ bs4 h4 H4 y w vy vw Q hr4 ((ry.mono e3).mono e4) rw_ p4
      | _ => exact p3.elim
theorem ej_chain {op op' : CmpOp} {r r' : R2} {f f' : D → D → Hs → R D} (ho : OpR X (compareOp op) r) (ho' : OpR X (compareOp op') r') (hj : OpJ (X.g ci) r f) (hj' : OpJ (X.g ci) r' f') (ha : EJ ci X W a ta fa) (hb : EJ ci X W b tb fb) (hc : EJ ci X W c tc fc)
    (hm : lastMarks [op, op'] [b, c] = false := by with_unfolding_all rfl) : EJ ci X W (.Compare a [op, op'] [b, c] pos) (tChain r r' ta tb tc) (eChain f f' fa fb fc) :=
  ⟨pe_chain ho ho' ha.pe hb.pe hc.pe hm, sim_chain hj hj' ha.sim hb.sim hc.sim⟩
theorem tj_chain {op op' : CmpOp} {r r' : R2} {f f' : D → D → Hs → R D} (ho : OpR X (compareOp op) r) (ho' : OpR X (compareOp op') r') (hj : OpJ (X.g ci) r f) (hj' : OpJ (X.g ci) r' f') (ha : EJ ci X W a ta fa) (hb : EJ ci X W b tb fb) (hc : EJ ci X W c tc fc)
    (hm : lastMarks [op, op'] [b, c] = false := by with_unfolding_all rfl) : TJ ci X W (.Compare a [op, op'] [b, c] pos) (tTest (tChain r r' ta tb tc)) (eTest (eChain f f' fa fb fc)) :=
  ⟨pt_chain ho ho' ha.pe hb.pe hc.pe hm, sim_test (sim_chain hj hj' ha.sim hb.sim hc.sim)⟩
end

/-! ### lists that are read -/
def cellL (h : Hs) (n : Nat) : Option (List D) := match h[n]? with
  | some (.lst xs) => some xs
  | _ => none
theorem cellL_ok {h : Hs} {n : Nat} {xs : List D} (e : cellL h n = some xs) : h[n]? = some (.lst xs) := by
  unfold cellL at e
  split at e
  · rename_i ys hy
    cases e
    exact hy
  · cases e
def rdL (h : Hs) : D → Option (List D)
  | .lst xs => some xs
  | .rol xs => some xs
  | .ref n => cellL h n
  | _ => none
/-- .. that stand by themselves -/
def ownL (h : Hs) : D → Option (List D)
  | .lst xs => some xs
  | .ref n => cellL h n
  | _ => none
section
variable {g : G} {bs : List Addr} {h : Hs} {H : Hp} {d : D} {v : V} {xs : List D}
theorem cell_ok (hr : HRel g bs h H) {n : Nat} {a : Addr} (hb : bs[n]? = some a) (e : cellL h n = some xs) : ∃ vs, H a = some (.lst vs) ∧ Reps g bs H xs vs := by
  obtain ⟨a', h1, vs, h2, h3⟩ := hr.at_ _ _ (cellL_ok e)
  rw [hb] at h1
  cases h1
  exact ⟨vs, h2, h3⟩
theorem ownL_ok (hr : HRel g bs h H) (r : Rep g bs H d v) (e : ownL h d = some xs) : ∃ a vs, v = .ref a ∧ H a = some (.lst vs) ∧ Reps g bs H xs vs := by
  cases r with
  | lst n hl rs => cases e; exact ⟨_, _, rfl, hl, rs⟩
  | ref hb => obtain ⟨vs, h1, h2⟩ := cell_ok hr hb (show cellL h _ = some xs from e); exact ⟨_, vs, rfl, h1, h2⟩
  | _ => cases e
theorem rdL_ok (hr : HRel g bs h H) (r : Rep g bs H d v) (e : rdL h d = some xs) : ∃ a vs, v = .ref a ∧ SqL g.K H a vs ∧ Reps g bs H xs vs := by
  cases r with
  | lst n hl rs => cases e; exact ⟨_, _, rfl, .of hl, rs⟩
  | rol hl rs => cases e; exact ⟨_, _, rfl, hl.sq, rs⟩
  | ref hb => obtain ⟨vs, h1, h2⟩ := cell_ok hr hb (show cellL h _ = some xs from e); exact ⟨_, vs, rfl, .of h1, h2⟩
  | _ => cases e
end
section
variable {g : G} {bs : List Addr} {h : Hs} {H : Hp} {d : D} {v : V} {xs : List D}
/-- a new frozen list (tuple) -/
theorem RepO.mono {bs1 : List Addr} {H1 : Hp} {a : Addr} {o : O} (e : Ext bs H bs1 H1) (ha : H1 a = H a) (h2 : RepO g bs H a o) : RepO g bs1 H1 a o := by
  cases o with
  | lst ds => obtain ⟨vs, q, r⟩ := h2; exact ⟨vs, ha.trans q, r.mono e⟩
  | ins c ds => obtain ⟨C, dx, fvs, q1, q2, q3, q4⟩ := h2; exact ⟨C, dx, fvs, q1, ha.trans q2, q3, q4.mono e⟩
  | dct ks ds => obtain ⟨kvs, q1, q2, q3⟩ := h2; exact ⟨kvs, ha.trans q1, q2, q3.mono e⟩
  | dn ks ds => obtain ⟨es, q1, q2, q3, q4⟩ := h2; exact ⟨es, ha.trans q1, q2, q3.mono e, q4.mono e⟩
  | lk od u o =>
    obtain ⟨q, r⟩ := h2
    refine ⟨ha.trans q, ?_⟩
    cases o with
    | dct ks ds => obtain ⟨kvs, q1, q2, q3⟩ := r; exact ⟨kvs, q1, q2, q3.mono e⟩
    | dn ks ds => obtain ⟨es, q1, q2, q3, q4⟩ := r; exact ⟨es, q1, q2, q3.mono e, q4.mono e⟩
    | _ => exact r.elim
theorem HRel.mono {H1 : Hp} (hr : HRel g bs h H) (e : Ext bs H bs H1) (k : ∀ b ∈ bs, H1 b = H b) : HRel g bs h H1 := by
  refine ⟨hr.len, hr.nd, fun i o hi => ?_⟩
  obtain ⟨a, h1, h2⟩ := hr.at_ i o hi
  exact ⟨a, h1, h2.mono e (k a (List.mem_of_getElem? h1))⟩
theorem HRel.some_ (hr : HRel g bs h H) {b : Addr} (hb : b ∈ bs) : ∃ o, H b = some o := by
  obtain ⟨i, hi⟩ := List.getElem?_of_mem hb
  have hl : i < h.length := by rw [← hr.len]; exact (List.getElem?_eq_some_iff.mp hi).1
  obtain ⟨a, h1, h2⟩ := hr.at_ i h[i] (List.getElem?_eq_getElem hl)
  rw [hi] at h1
  cases h1
  cases ho : h[i] with
  | lst ds => rw [ho] at h2; obtain ⟨vs, q, _⟩ := h2; exact ⟨_, q⟩
  | ins c ds => rw [ho] at h2; obtain ⟨C, dx, fvs, q1, q2, q3, q4⟩ := h2; exact ⟨_, q2⟩
  | dct ks ds => rw [ho] at h2; obtain ⟨kvs, q1, q2, q3⟩ := h2; exact ⟨_, q1⟩
  | dn ks ds => rw [ho] at h2; obtain ⟨es, q1, _⟩ := h2; exact ⟨_, q1⟩
  | lk od u o => rw [ho] at h2; exact ⟨_, h2.1⟩
theorem Ext.new {p : Addr} {o : HO} (hp : H p = none) : Ext bs H bs (upd H p o) :=
  ⟨⟨[], by simp, fun _ z => nomatch z⟩, fun b u hu _ => by rw [upd_ne (ne_of_none hu hp)]; exact hu, fun b u hu => ⟨u, by rw [upd_ne (ne_of_none hu hp)]; exact hu⟩⟩
theorem HRel.new (hr : HRel g bs h H) {p : Addr} {o : HO} (hp : H p = none) : HRel g bs h (upd H p o) :=
  HRel.mono hr (.new hp) fun b hb => by
    obtain ⟨u, hu⟩ := hr.some_ hb
    rw [upd_ne (ne_of_none hu hp)]
theorem HRel.out (hr : HRel g bs h H) {p : Addr} (hp : H p = none) : p ∉ bs := fun z => by
  obtain ⟨u, hu⟩ := hr.some_ z
  rw [hp] at hu; cases hu
/-- behind a new tuple -/
theorem post_tup {W : Value → Option Addr → Hp → Prop} {Q : VK} {ds : List D} {vs : List V} (hr : HRel g bs h H) (rs : Reps g bs H ds vs) (p : Post (relV g) g W bs H (.ok (.tup ds) h) Q) : ∀ q, H q = none → Q (.ref q) (upd H q (.tup vs)) := fun q hq => by
  refine p bs _ _ (.new hq) (hr.new hq) (.tup (.inl ⟨hr.out hq, .inl upd_same⟩) (rs.mono (.new hq)))
theorem post_lst {W : Value → Option Addr → Hp → Prop} {Q : VK} {ds : List D} {vs : List V} (hr : HRel g bs h H) (rs : Reps g bs H ds vs) (p : Post (relV g) g W bs H (.ok (.lst ds) h) Q) : ∀ q, H q = none → Q (.ref q) (upd H q (.lst vs)) := fun q hq => by
  refine p bs _ _ (.new hq) (hr.new hq) (.lst (hr.out hq) upd_same (rs.mono (.new hq)))
/-- behind a new list that may be changed -/
theorem Ext.newM {p : Addr} {o : HO} (hp : H p = none) : Ext bs H (bs ++ [p]) (upd H p o) :=
  ⟨⟨[p], rfl, fun b hb => by have e : b = p := by simpa using hb
                             rw [e]; exact hp⟩, fun b u hu _ => by rw [upd_ne (ne_of_none hu hp)]; exact hu, fun b u hu => ⟨u, by rw [upd_ne (ne_of_none hu hp)]; exact hu⟩⟩
theorem HRel.newM (hr : HRel g bs h H) {p : Addr} {ho : HO} {o : O} (hp : H p = none) (ro : RepO g (bs ++ [p]) (upd H p ho) p o) : HRel g (bs ++ [p]) (h ++ [o]) (upd H p ho) := by
  have np := hr.out hp
  refine ⟨by simp [hr.len], ?_, fun i o' hi => ?_⟩
  · rw [List.nodup_append]
    refine ⟨hr.nd, by simp, fun a ha b hb => ?_⟩
    have e : b = p := by simpa using hb
    subst e
    rintro rfl
    exact np ha
  · by_cases hlt : i < h.length
    · rw [List.getElem?_append_left hlt] at hi
      obtain ⟨a, h1, h2⟩ := hr.at_ i o' hi
      have hb := List.mem_of_getElem? h1
      obtain ⟨u, hu⟩ := hr.some_ hb
      exact ⟨a, by rw [List.getElem?_append_left (by rw [hr.len]; exact hlt)]; exact h1, h2.mono (.newM hp) (upd_ne (ne_of_none hu hp))⟩
    · rw [List.getElem?_append_right (by omega)] at hi
      have hi0 : i - h.length = 0 := by
        have := (List.getElem?_eq_some_iff.mp hi).1
        simp at this
        omega
      rw [hi0] at hi
      cases hi
      exact ⟨p, by rw [List.getElem?_append_right (by rw [hr.len]; omega), hr.len, hi0]; rfl, ro⟩
theorem post_lstM {W : Value → Option Addr → Hp → Prop} {Q : VK} {ds : List D} {vs : List V} (hr : HRel g bs h H) (rs : Reps g bs H ds vs) (p : Post (relV g) g W bs H (.ok (.ref h.length) (h ++ [.lst ds])) Q) : ∀ q, H q = none → Q (.ref q) (upd H q (.lst vs)) := fun q hq => by
  refine p (bs ++ [q]) _ _ (.newM hq) (hr.newM hq ⟨vs, upd_same, rs.mono (.newM hq)⟩) (.ref ?_)
  rw [List.getElem?_append_right (by rw [hr.len]; exact Nat.le_refl _), hr.len, Nat.sub_self]; rfl
end
end Ev
set_option Elab.async false
set_option linter.all false
set_option maxRecDepth 100000
set_option maxHeartbeats 4000000
namespace Ev
open PySem L2

/-! ### arithmetic -/
abbrev big : Nat := 16777216
theorem big_eq : sizeLine = big := sizeLine_eq
def addD (x y : D) (h : Hs) : R D := match x, y with
  | .int i, .int j => .ok (.int (i + j)) h
  | .str a, .str b => if a.length + b.length ≤ big then .ok (.str (a ++ b)) h else .bad
  | .tup a, .tup b => if a.length + b.length ≤ big then .ok (.tup (a ++ b)) h else .bad
  | x, y => match ownL h x, ownL h y with
    | some a, some b => if a.length + b.length ≤ big then .ok (.lst (a ++ b)) h else .bad
    | _, _ => .bad
def rAddX (K : PySem.W.Frag) : R2 := fun x y H Q => rI0 (fun i j => V.int (i + j)) x y H Q ∨ (∃ i j, x = .str i ∧ y = .str j ∧ i.length + j.length ≤ sizeLine ∧ Q (.str (i ++ j)) H) ∨ rCatA K x y H Q ∨ rCat x y H Q
theorem opr_add {X : Cx} : OpR X (binaryOp .Add) (rAddX X.K) := op_add.or (op_add_str.or (op_catA.or op_cat))
theorem strOk_append {a b : Str} (ha : PyData.strOk a = true) (hb : PyData.strOk b = true) : PyData.strOk (a ++ b) = true := by
  unfold PyData.strOk at *
  show (a.cps ++ b.cps).all _ = true
  rw [Array.all_append, ha, hb]; rfl
theorem opj_add {g : G} : OpJ g (rAddX g.K) addD := by
  refine ⟨fun W bs h H x y vx vy Q hr rx ry p => ?_⟩
  have lists : ∀ {a b : List D}, ownL h x = some a → ownL h y = some b → a.length + b.length ≤ big → Post (relV g) g W bs H (.ok (.lst (a ++ b)) h) Q → rAddX g.K vx vy H Q := fun {a b} h1 h2 hl p => by
    obtain ⟨p1, v1, rfl, e1, r1⟩ := ownL_ok hr rx h1
    obtain ⟨p2, v2, rfl, e2, r2⟩ := ownL_ok hr ry h2
    exact .inr (.inr (.inr ⟨p1, p2, v1, v2, rfl, rfl, e1, e2, by rw [← r1.length, ← r2.length, big_eq]; exact hl, post_lst hr (r1.append r2) p⟩))
  unfold addD at p
  split at p
  · cases rx; cases ry
    exact .inl ⟨_, _, rfl, rfl, Post.ok_ p hr (.int _)⟩
  · split at p
    · rename_i hl
      cases rx with | str h1 => cases ry with | str h2 => exact .inr (.inl ⟨_, _, rfl, rfl, by rw [big_eq]; exact hl, Post.ok_ p hr (.str (strOk_append h1 h2))⟩)
    · exact p.elim
  · rename_i a b
    split at p
    · rename_i hl
      cases rx with
      | @tup p1 v1 _ t1 r1 =>
        cases ry with
        | @tup p2 v2 _ t2 r2 =>
          refine .inr (.inr (.inl ⟨p1, p2, v1, v2, rfl, rfl, t1.sq, t2.sq, by rw [← r1.length, ← r2.length, big_eq]; exact hl, fun e => ?_, fun e1 e2 => ?_, fun e1 e2 => post_tup hr (r1.append r2) p⟩))
          · subst e
            have e' : a = [] := List.eq_nil_of_length_eq_zero r1.length
            subst e'
            exact Post.ok_ p hr (.tup t2 r2)
          · subst e2
            have e' : b = [] := List.eq_nil_of_length_eq_zero r2.length
            subst e'
            rw [List.append_nil] at p
            exact Post.ok_ p hr (.tup t1 r1)
    · exact p.elim
  · split at p
    · rename_i h1 h2
      split at p
      · rename_i hl
        exact lists h1 h2 hl p
      · exact p.elim
    · exact p.elim
/-- two ints -/
def intD (f : Int → Int → Option D) (x y : D) (h : Hs) : R D := match x, y with
  | .int i, .int j => match f i j with
    | some d => .ok d h
    | none => .bad
  | _, _ => .bad
theorem opj_int {g : G} {C : Int → Int → Prop} {k : Int → Int → V} {f : Int → Int → Option D} (hf : ∀ i j d, f i j = some d → C i j ∧ ∀ bs H, Rep g bs H d (k i j)) : OpJ g (rI C k) (intD f) := by
  refine ⟨fun W bs h H x y vx vy Q hr rx ry p => ?_⟩
  unfold intD at p
  split at p
  · split at p
    · rename_i hd
      cases rx; cases ry
      obtain ⟨c, r⟩ := hf _ _ _ hd
      exact ⟨_, _, rfl, rfl, c, Post.ok_ p hr (r bs H)⟩
    · exact p.elim
  · exact p.elim
theorem opj_int0 {g : G} {k : Int → Int → V} {f : Int → Int → Option D} (hf : ∀ i j d, f i j = some d → ∀ bs H, Rep g bs H d (k i j)) : OpJ g (rI0 k) (intD f) := by
  refine ⟨fun W bs h H x y vx vy Q hr rx ry p => ?_⟩
  unfold intD at p
  split at p
  · split at p
    · rename_i hd
      cases rx; cases ry
      exact ⟨_, _, rfl, rfl, Post.ok_ p hr (hf _ _ _ hd bs H)⟩
    · exact p.elim
  · exact p.elim
def subD : D → D → Hs → R D := intD fun i j => some (.int (i - j))
theorem opj_sub {g : G} : OpJ g (rI0 fun i j => V.int (i - j)) subD := opj_int0 fun i j d e bs H => by cases e; exact .int _
/-- a factor below 2 ^ 64, or both below 2 ^ 400 -/
theorem nat_ble {i : Int} {z : Nat} (h : Nat.ble i.natAbs z = true) : -(z : Int) ≤ i ∧ i ≤ z := by
  have := Nat.le_of_ble_eq_true h
  omega
def smallI (i : Int) : Bool := Nat.ble i.natAbs 18446744073709551615
def midI (i : Int) : Bool := decide (i.natAbs < 2 ^ 400)
def mulI (i j : Int) : Option D := if (smallI i || smallI j || (midI i && midI j)) = true then some (.int (i * j)) else none
def repI (i j : Int) : Prop := CMul i j ∨ CMulW i j
def mulD (x y : D) (h : Hs) : R D := match x, y with
  | .int i, .int j => match mulI i j with
    | some d => .ok d h
    | none => .bad
  | x, .int k => match ownL h x with
    | some a => if Nat.ble k.natAbs big = true ∧ a.length * k.toNat ≤ big then .ok (.lst (List.replicate k.toNat a).flatten) h else .bad
    | _ => .bad
  | _, _ => .bad
theorem opr_mulI {X : Cx} : OpR X (binaryOp .Mult) (rI repI fun i j => V.int (i * j)) := by
  intro pins s σ H x y v u Q I rx ry h
  obtain ⟨i, j, e1, e2, c, q⟩ := h
  rcases c with c | c
  · exact op_mul pins s σ H x y v u Q I rx ry ⟨i, j, e1, e2, c, q⟩
  · exact op_mulW pins s σ H x y v u Q I rx ry ⟨i, j, e1, e2, c, q⟩

def rMulX : R2 := fun x y H Q => rI repI (fun i j => V.int (i * j)) x y H Q ∨ rRep x y H Q
theorem opr_mul {X : Cx} : OpR X (binaryOp .Mult) rMulX := opr_mulI.or op_rep
theorem smallI_ok {i : Int} (h : smallI i = true) : -(2 ^ 64) < i ∧ i < 2 ^ 64 := by
  obtain ⟨h1, h2⟩ := nat_ble (show Nat.ble i.natAbs 18446744073709551615 = true from h)
  have e : (2 : Int) ^ 64 = 18446744073709551616 := by simp
  rw [e]
  exact ⟨by omega, by omega⟩
theorem midI_ok {i : Int} (h : midI i = true) : i.natAbs < 2 ^ 400 := by
  unfold midI at h
  exact of_decide_eq_true h
theorem mulI_ok {i j : Int} {d : D} (h : mulI i j = some d) : repI i j ∧ d = .int (i * j) := by
  unfold mulI at h
  split at h
  · rename_i hc
    cases h
    refine ⟨?_, rfl⟩
    simp only [Bool.or_eq_true, Bool.and_eq_true] at hc
    rcases hc with (hc | hc) | ⟨h1, h2⟩
    · exact .inl (.inl (smallI_ok hc))
    · exact .inl (.inr (smallI_ok hc))
    · exact .inr (wide_mul (a := 400) (b := 400) (midI_ok h1) (midI_ok h2) (by decide) (by decide) (by decide))
  · cases h
theorem Reps.flatten_replicate {g : G} {bs : List Addr} {H : Hp} {ds : List D} {vs : List V} (r : Reps g bs H ds vs) : ∀ n : Nat, Reps g bs H (List.replicate n ds).flatten (List.replicate n vs).flatten
  | 0 => .nil
  | n + 1 => by
    rw [List.replicate_succ, List.replicate_succ, List.flatten_cons, List.flatten_cons]
    exact r.append (Reps.flatten_replicate r n)
theorem opj_mul {g : G} : OpJ g rMulX mulD := by
  refine ⟨fun W bs h H x y vx vy Q hr rx ry p => ?_⟩
  unfold mulD at p
  split at p
  · split at p
    · rename_i hd
      obtain ⟨c, rfl⟩ := mulI_ok hd
      cases rx; cases ry
      exact .inl ⟨_, _, rfl, rfl, c, Post.ok_ p hr (.int _)⟩
    · exact p.elim
  · split at p
    · rename_i h1
      split at p
      · rename_i hc
        obtain ⟨p1, v1, rfl, e1, r1⟩ := ownL_ok hr rx h1
        cases ry
        have z := nat_ble hc.1
        have e63 : (9223372036854775808 : Int) = 2 ^ 63 := by simp
        have zb : (big : Int) = 16777216 := rfl
        rw [zb] at z
        exact .inr ⟨p1, _, v1, rfl, rfl, e1, by rw [← e63]; omega, by rw [← e63]; omega, by rw [← r1.length, big_eq]; exact hc.2, post_lst hr (r1.flatten_replicate _) p⟩
      · exact p.elim
    · exact p.elim
  · exact p.elim
def rFdiv : R2 := rI CDivW fun i j => V.int (i / j)
def fdivD : D → D → Hs → R D := intD fun i j => if 0 < j ∧ j.natAbs < 2 ^ 400 then some (.int (i / j)) else none
theorem opj_fdiv {g : G} : OpJ g rFdiv fdivD := opj_int fun i j d e => by
  split at e
  · rename_i hc
    cases e
    exact ⟨wide_div hc.1 hc.2 (by decide) (by decide), fun _ _ => .int _⟩
  · cases e
def rMod : R2 := rI (fun _ j => 0 < j) fun i j => V.int (i % j)
def modD : D → D → Hs → R D := intD fun i j => if 0 < j then some (.int (i % j)) else none
theorem opj_mod {g : G} : OpJ g rMod modD := opj_int fun i j d e => by
  split at e
  · rename_i hc
    cases e
    exact ⟨hc, fun _ _ => .int _⟩
  · cases e
def rPow : R2 := rI CPow fun i j => V.int (i ^ j.toNat)
def powD : D → D → Hs → R D := intD fun i j => if 0 ≤ j ∧ j ≤ 1000000 ∧ i.natAbs < 2 ^ 64 then some (.int (i ^ j.toNat)) else none
theorem opj_pow {g : G} : OpJ g rPow powD := opj_int fun i j d e => by
  split at e
  · rename_i hc
    cases e
    exact ⟨hc, fun _ _ => .int _⟩
  · cases e

/-! ### comparisons -/
def ltD : D → D → Hs → R D := intD fun i j => some (.bl (decide (i < j)))
def leD : D → D → Hs → R D := intD fun i j => some (.bl (decide (i ≤ j)))
def gtD : D → D → Hs → R D := intD fun i j => some (.bl (decide (j < i)))
def geD : D → D → Hs → R D := intD fun i j => some (.bl (decide (j ≤ i)))
theorem opj_lt {g : G} : OpJ g (rI0 fun i j => V.bl (decide (i < j))) ltD := opj_int0 fun i j d e bs H => by cases e; exact .bl _
theorem opj_le {g : G} : OpJ g (rI0 fun i j => V.bl (decide (i ≤ j))) leD := opj_int0 fun i j d e bs H => by cases e; exact .bl _
theorem opj_gt {g : G} : OpJ g (rI0 fun i j => V.bl (decide (j < i))) gtD := opj_int0 fun i j d e bs H => by cases e; exact .bl _
theorem opj_ge {g : G} : OpJ g (rI0 fun i j => V.bl (decide (j ≤ i))) geD := opj_int0 fun i j d e bs H => by cases e; exact .bl _
/-- data: no objects, at most so deep -/
def datAll (f : D → Option PyData) : List D → Option (List PyData)
  | [] => some []
  | x :: xs => match f x, datAll f xs with
    | some y, some ys => some (y :: ys)
    | _, _ => none
def dat : Nat → Hs → D → Option PyData
  | 0, _, _ => none
  | k + 1, h, d => match d with
    | .non => some .none
    | .bl b => some (.bool b)
    | .int i => some (.int i)
    | .str s => some (.str s)
    | .tup xs => (datAll (dat k h) xs).map .tuple
    | .lst xs => (datAll (dat k h) xs).map .list
    | .rol xs => (datAll (dat k h) xs).map .list
    | .ref n => match cellL h n with
      | some xs => (datAll (dat k h) xs).map .list
      | none => none
    | .obj _ _ => none
    | .dct _ _ => none
    | .dnt _ _ => none
theorem dat_ok {g : G} {bs : List Addr} {h : Hs} {H : Hp} (hr : HRel g bs h H) : ∀ (k : Nat) {d : D} {v : V} {p : PyData}, dat k h d = some p → Rep g bs H d v → Dp g.K H v p ∧ p.canLay0 = true ∧ p.depth ≤ k
  | 0, _, _, _, e, _ => by cases e
  | k + 1, d, v, p, e, r => by
    have all : ∀ {ds : List D} {vs : List V} {ps : List PyData}, datAll (dat k h) ds = some ps → Reps g bs H ds vs → DpAll g.K H vs ps ∧ PyData.canLayAll0 ps = true ∧ PyData.depthAll ps ≤ k := by
      intro ds
      induction ds with
      | nil =>
        intro vs ps e r
        cases e
        cases r
        exact ⟨.nil, rfl, Nat.zero_le _⟩
      | cons x xs ih =>
        intro vs ps e r
        cases r with
        | cons r1 r2 =>
          unfold datAll at e
          split at e
          · rename_i y ys h1 h2
            cases e
            obtain ⟨a1, a2, a3⟩ := dat_ok hr k h1 r1
            obtain ⟨b1, b2, b3⟩ := ih h2 r2
            refine ⟨.cons a1 b1, by show (_ && _) = true; rw [a2, b2]; rfl, ?_⟩
            show max (PyData.depth y) (PyData.depthAll ys) ≤ k
            omega
          · cases e
    have lists : ∀ {ds : List D} {vs : List V} {a : Addr}, SqL g.K H a vs → Reps g bs H ds vs → (datAll (dat k h) ds).map PyData.list = some p → v = .ref a → Dp g.K H v p ∧ p.canLay0 = true ∧ p.depth ≤ k + 1 := by
      intro ds vs a hs r e hv
      cases hd : datAll (dat k h) ds with
      | none => rw [hd] at e; cases e
      | some ps =>
        rw [hd] at e
        cases e
        obtain ⟨a1, a2, a3⟩ := all hd r
        subst hv
        exact ⟨.lst hs a1, a2, Nat.succ_le_succ a3⟩
    cases r with
    | non => cases e; exact ⟨.non, rfl, Nat.zero_le _⟩
    | bl b => cases e; exact ⟨.bl b, rfl, Nat.zero_le _⟩
    | int i => cases e; exact ⟨.int i, rfl, Nat.zero_le _⟩
    | str hs => cases e; exact ⟨.str _, hs, Nat.zero_le _⟩
    | @tup a vs ds t rs =>
      have e' : (datAll (dat k h) ds).map PyData.tuple = some p := e
      cases hd : datAll (dat k h) ds with
      | none => rw [hd] at e'; cases e'
      | some ps =>
        rw [hd] at e'
        cases e'
        obtain ⟨a1, a2, a3⟩ := all hd rs
        exact ⟨.tup t.sq a1, a2, Nat.succ_le_succ a3⟩
    | lst n hl rs => exact lists (.of hl) rs e rfl
    | rol hl rs => exact lists hl.sq rs e rfl
    | obj => cases e
    | dct => cases e
    | dnt => cases e
    | @ref n a hb =>
      have e' : (match cellL h n with
        | some xs => (datAll (dat k h) xs).map PyData.list
        | none => none) = some p := e
      cases hc : cellL h n with
      | none => rw [hc] at e'; cases e'
      | some xs =>
        rw [hc] at e'
        obtain ⟨vs, h1, h2⟩ := cell_ok hr hb hc
        exact lists (.of h1) h2 e' rfl
theorem dat_shaped {k : Nat} {p : PyData} (h1 : p.canLay0 = true) (h2 : p.depth ≤ k) (hk : k ≤ 60) : SeqAt.shaped p = true := by
  unfold SeqAt.shaped
  rw [h1, Bool.true_and]
  exact decide_eq_true (by omega)
def eqD (x y : D) (h : Hs) : R D := match dat 20 h x, dat 20 h y with
  | some a, some b => .ok (.bl (PyData.eqv a b)) h
  | _, _ => .bad
def neD (x y : D) (h : Hs) : R D := match dat 20 h x, dat 20 h y with
  | some a, some b => .ok (.bl (!PyData.eqv a b)) h
  | _, _ => .bad
theorem opj_eq {g : G} : OpJ g (rEqD g.K) eqD := by
  refine ⟨fun W bs h H x y vx vy Q hr rx ry p => ?_⟩
  unfold eqD at p
  split at p
  · rename_i h1 h2
    obtain ⟨a1, a2, a3⟩ := dat_ok hr 20 h1 rx
    obtain ⟨b1, b2, b3⟩ := dat_ok hr 20 h2 ry
    exact ⟨_, _, a1, b1, dat_shaped a2 a3 (by decide), dat_shaped b2 b3 (by decide), Post.ok_ p hr (.bl _)⟩
  · exact p.elim
theorem opj_ne {g : G} : OpJ g (rNeD g.K) neD := by
  refine ⟨fun W bs h H x y vx vy Q hr rx ry p => ?_⟩
  unfold neD at p
  split at p
  · rename_i h1 h2
    obtain ⟨a1, a2, a3⟩ := dat_ok hr 20 h1 rx
    obtain ⟨b1, b2, b3⟩ := dat_ok hr 20 h2 ry
    exact ⟨_, _, a1, b1, dat_shaped a2 a3 (by decide), dat_shaped b2 b3 (by decide), Post.ok_ p hr (.bl _)⟩
  · exact p.elim
/-- x is None -/
def isN : D → Bool
  | .non => true
  | _ => false
def isND (x y : D) (h : Hs) : R D := match y with
  | .non => .ok (.bl (isN x)) h
  | _ => .bad
def notND (x y : D) (h : Hs) : R D := match y with
  | .non => .ok (.bl (!isN x)) h
  | _ => .bad
theorem isN_ok {g : G} {bs : List Addr} {H : Hp} {x : D} {v : V} (r : Rep g bs H x v) : decide (v = .non) = isN x := by
  cases r <;> rfl
abbrev rIsN : R2 := fun x y H Q => y = .non ∧ Q (.bl (decide (x = .non))) H
abbrev rNotN : R2 := fun x y H Q => y = .non ∧ Q (.bl (!decide (x = .non))) H
theorem opj_isN {g : G} : OpJ g rIsN isND := by
  refine ⟨fun W bs h H x y vx vy Q hr rx ry p => ?_⟩
  unfold isND at p
  split at p
  · cases ry
    exact ⟨rfl, by rw [isN_ok rx]; exact Post.ok_ p hr (.bl _)⟩
  · exact p.elim
theorem opj_notN {g : G} : OpJ g rNotN notND := by
  refine ⟨fun W bs h H x y vx vy Q hr rx ry p => ?_⟩
  unfold notND at p
  split at p
  · cases ry
    exact ⟨rfl, by rw [isN_ok rx]; exact Post.ok_ p hr (.bl _)⟩
  · exact p.elim
/-- x in a list of data, in a tuple of flat things -/
def flatD : D → Bool
  | .non => true
  | .bl _ => true
  | .int _ => true
  | .str _ => true
  | _ => false
def eqF : D → D → Bool
  | .non, .non => true
  | .bl a, .bl b => a == b
  | .bl a, .int b => (if a then 1 else 0) == b
  | .int a, .bl b => a == (if b then 1 else 0)
  | .int a, .int b => a == b
  | .str a, .str b => a == b
  | _, _ => false
def inB (x y : D) (h : Hs) : Option Bool := match y with
  | .tup ys => if (flatD x && ys.all flatD) = true then some (ys.any fun z => eqF z x) else none
  | y => match rdL h y with
    | some ys => match dat 20 h x, datAll (dat 19 h) ys with
      | some p, some ps => some (ps.any fun z => PyData.eqv z p)
      | _, _ => none
    | none => none
def inD (x y : D) (h : Hs) : R D := match inB x y h with
  | some b => .ok (.bl b) h
  | none => .bad
def notInD (x y : D) (h : Hs) : R D := match inB x y h with
  | some b => .ok (.bl (!b)) h
  | none => .bad
def rInX (K : PySem.W.Frag) : R2 := fun x y H Q => rIn K false x y H Q ∨ rInD K x y H Q
def rNotInX (K : PySem.W.Frag) : R2 := fun x y H Q => rIn K true x y H Q ∨ rNotInD K x y H Q
theorem flat_ok {g : G} {bs : List Addr} {H : Hp} {x : D} {v : V} (r : Rep g bs H x v) (h : flatD x = true) : flatV v = true := by
  cases r <;> first | rfl | cases h
theorem eqF_ok {g : G} {bs : List Addr} {H : Hp} {x y : D} {v u : V} (r : Rep g bs H x v) (q : Rep g bs H y u) (h : flatD x = true) (h2 : flatD y = true) : eqV v u = eqF x y := by
  cases r <;> cases q <;> first | rfl | cases h | cases h2
theorem flats_ok {g : G} {bs : List Addr} {H : Hp} {x : D} {v : V} (rx : Rep g bs H x v) (hx : flatD x = true) : ∀ {ds : List D} {vs : List V}, Reps g bs H ds vs → ds.all flatD = true → vs.all flatV = true ∧ inV v vs = ds.any (fun z => eqF z x)
  | _, _, .nil, _ => ⟨rfl, rfl⟩
  | _, _, .cons r t, h => by
    rw [List.all_cons, Bool.and_eq_true] at h
    obtain ⟨a, b⟩ := flats_ok rx hx t h.2
    unfold inV at b ⊢
    refine ⟨by rw [List.all_cons, flat_ok r h.1, a]; rfl, by rw [List.any_cons, List.any_cons, b, eqF_ok r rx h.1 hx]⟩
theorem in_core {g : G} {bs : List Addr} {h : Hs} {H : Hp} {x y : D} {vx vy : V} {b : Bool} (hr : HRel g bs h H) (rx : Rep g bs H x vx) (ry : Rep g bs H y vy) (e : inB x y h = some b) :
    (∃ p xs, vy = .ref p ∧ (SqL g.K H p xs ∨ SqT g.K H p xs) ∧ flatV vx = true ∧ xs.all flatV = true ∧ inV vx xs = b) ∨
    ∃ d ds, Dp g.K H vx d ∧ Dp g.K H vy (.list ds) ∧ SeqAt.shaped d = true ∧ SeqAt.shaped (.list ds) = true ∧ ds.any (fun z => PyData.eqv z d) = b := by
  unfold inB at e
  split at e
  · split at e
    · rename_i hc
      rw [Bool.and_eq_true] at hc
      cases e
      cases ry with
      | @tup a vs _ t rs =>
        obtain ⟨h1, h2⟩ := flats_ok rx hc.1 rs hc.2
        exact .inl ⟨a, vs, rfl, .inr t.sq, flat_ok rx hc.1, h1, h2⟩
    · cases e
  · split at e
    · rename_i ys hy
      split at e
      · rename_i p ps h1 h2
        cases e
        obtain ⟨a1, a2, a3⟩ := dat_ok hr 20 h1 rx
        have hl : dat 20 h y = some (.list ps) := by
          have hh : (datAll (dat 19 h) ys).map PyData.list = some (.list ps) := by rw [h2]; rfl
          cases y with
          | lst zs => cases hy; exact hh
          | rol zs => cases hy; exact hh
          | ref n =>
            have hy' : cellL h n = some ys := hy
            show (match cellL h n with
              | some xs => (datAll (dat 19 h) xs).map PyData.list
              | none => none) = _
            rw [hy']
            exact hh
          | _ => cases hy
        obtain ⟨b1, b2, b3⟩ := dat_ok hr 20 hl ry
        exact .inr ⟨p, ps, a1, b1, dat_shaped a2 a3 (by decide), dat_shaped b2 b3 (by decide), rfl⟩
      · cases e
    · cases e
theorem opj_in {g : G} : OpJ g (rInX g.K) inD := by
  refine ⟨fun W bs h H x y vx vy Q hr rx ry p => ?_⟩
  unfold inD at p
  split at p
  · rename_i b hb
    have q := Post.ok_ p hr (.bl _)
    rcases in_core hr rx ry hb with ⟨a, xs, e1, e2, e3, e4, e5⟩ | ⟨d, ds, e1, e2, e3, e4, e5⟩
    · exact .inl ⟨a, xs, e1, e2, e3, e4, by rw [if_neg Bool.false_ne_true, e5]; exact q⟩
    · exact .inr ⟨d, ds, e1, e2, e3, e4, by rw [e5]; exact q⟩
  · exact p.elim
theorem opj_notIn {g : G} : OpJ g (rNotInX g.K) notInD := by
  refine ⟨fun W bs h H x y vx vy Q hr rx ry p => ?_⟩
  unfold notInD at p
  split at p
  · rename_i b hb
    have q := Post.ok_ p hr (.bl _)
    rcases in_core hr rx ry hb with ⟨a, xs, e1, e2, e3, e4, e5⟩ | ⟨d, ds, e1, e2, e3, e4, e5⟩
    · exact .inl ⟨a, xs, e1, e2, e3, e4, by rw [if_pos rfl, e5]; exact q⟩
    · exact .inr ⟨d, ds, e1, e2, e3, e4, by rw [e5]; exact q⟩
  · exact p.elim
theorem opr_in {X : Cx} (hu : X.A.units + 65 < cLine) : OpR X (compareOp .In) (rInX X.K) := op_in_seq.or (op_inD hu)
theorem opr_notIn {X : Cx} (hu : X.A.units + 65 < cLine) : OpR X (compareOp .NotIn) (rNotInX X.K) := op_notIn_seq.or (op_notInD hu)
end Ev
set_option Elab.async false
set_option linter.all false
set_option maxRecDepth 100000
set_option maxHeartbeats 4000000
namespace Ev
open PySem L2

/-! ### one-place operations, truth -/
def negD (x : D) (h : Hs) : R D := match x with
  | .int i => .ok (.int (-i)) h
  | _ => .bad
def truD (x : D) (h : Hs) : Option Bool := match x with
  | .non => some false
  | .bl b => some b
  | .int i => some (i != 0)
  | .str s => if s.length ≤ big then some ((s.length : Int) != 0) else none
  | .tup xs => some (!xs.isEmpty)
  | x => match rdL h x with
    | some xs => some (!xs.isEmpty)
    | none => none
def truR (x : D) (h : Hs) : R Bool := match truD x h with
  | some b => .ok b h
  | none => .bad
theorem tru_ok' {g : G} {bs : List Addr} {h : Hs} {H : Hp} {x : D} {v : V} {b : Bool} (hr : HRel g bs h H) (r : Rep g bs H x v) (e : truD x h = some b) : TruV g.K v H b := by
  have emp : ∀ {ds : List D} {vs : List V}, Reps g bs H ds vs → (!ds.isEmpty) = !vs.isEmpty := fun {ds vs} r => by cases r <;> rfl
  have lists : ∀ {xs : List D}, rdL h x = some xs → TruV g.K v H (!xs.isEmpty) := fun {xs} e => by
    obtain ⟨a, vs, rfl, hs, rs⟩ := rdL_ok hr r e
    exact .inl ⟨vs, hs, emp rs⟩
  cases r with
  | non => cases e; exact rfl
  | bl b => cases e; exact rfl
  | int i => cases e; exact rfl
  | str hs =>
    have e' : (if _ then some _ else none) = some b := e
    split at e'
    · rename_i hl
      cases e'
      exact ⟨by rw [big_eq]; exact hl, rfl⟩
    · cases e'
  | tup t rs => cases e; exact .inr (.inl ⟨_, t.sq, emp rs⟩)
  | lst n hl rs => cases e; exact lists rfl
  | rol hl rs => cases e; exact lists rfl
  | obj => cases e
  | dct => cases e
  | dnt => cases e
  | @ref n a hb =>
    have e' : (match cellL h n with
      | some xs => some (!xs.isEmpty)
      | none => none) = some b := e
    cases hc : cellL h n with
    | none => rw [hc] at e'; cases e'
    | some xs =>
      rw [hc] at e'
      cases e'
      exact lists hc
section
variable {ci : Nat → String × List String} {X : Cx} {W : WX} {pos : Pos} {a b c : Expr} {ta tb tc : TE} {fa fb fc : En → Hs → R D} {tA tB' : TT} {gA gB : En → Hs → R Bool} {rest : List Expr}
def eUn (op : D → Hs → R D) (fa : En → Hs → R D) : En → Hs → R D := fun env h => (fa env h).bind op
theorem ej_neg (ha : EJ ci X W a ta fa) : EJ ci X W (.UnaryOp .USub a pos) (tUn (rU fun i => .int (-i)) ta) (eUn negD fa) :=
  ⟨pe_un un_neg ha.pe, fun σ H env h bs Q er hr p => ha.sim.step er hr p fun x vx bs1 H1 h1 e1 hr1 er1 rx p1 => by
    unfold negD at p1
    split at p1
    · cases rx; exact ⟨_, rfl, Post.ok_ p1 hr1 (.int _)⟩
    · exact p1.elim⟩
def eTru (fa : En → Hs → R D) : En → Hs → R Bool := fun env h => (fa env h).bind truR
theorem sim_tru (ha : Sim (relV (X.g ci)) (X.g ci) W ta fa) : Sim relB (X.g ci) W (fun σ H Q => ta σ H fun x H' => ∃ k, TruV X.K x H' k ∧ Q k H') (eTru fa) :=
  fun σ H env h bs Q er hr p => ha.step er hr p fun x vx bs1 H1 h1 e1 hr1 er1 rx p1 => by
    unfold truR at p1
    split at p1
    · rename_i b hb
      exact ⟨b, tru_ok' hr1 rx hb, Post.ok_ p1 hr1 rfl⟩
    · exact p1.elim
/-- any expression as a test -/
theorem tj_tru (ha : EJ ci X W a ta fa) (he : ∀ whole, isTrue a X.env whole = (do let v ← whole; standAt a.pos; holding [v] (truthy v)) := by intro _; rfl) : TJ ci X W a (fun σ H Q => ta σ H fun x H' => ∃ k, TruV X.K x H' k ∧ Q k H') (eTru fa) :=
  ⟨pt_truth ha.pe he, sim_tru ha.sim⟩
def eNotB (f : En → Hs → R Bool) : En → Hs → R Bool := fun env h => (f env h).bind fun b h1 => .ok (!b) h1
theorem tj_not (ha : TJ ci X W a tA gA) : TJ ci X W (.UnaryOp .Not a pos) (tNot tA) (eNotB gA) :=
  ⟨pt_not ha.pt, fun σ H env h bs Q er hr p => ha.sim.step er hr p fun x vx bs1 H1 h1 e1 hr1 er1 rx p1 => Post.ok_ p1 hr1 (by rw [show vx = x from rx])⟩
def eAndB (f k : En → Hs → R Bool) : En → Hs → R Bool := fun env h => (f env h).bind fun b h1 => if b = true then k env h1 else .ok false h1
def eOrB (f k : En → Hs → R Bool) : En → Hs → R Bool := fun env h => (f env h).bind fun b h1 => if b = true then .ok true h1 else k env h1
theorem twj_and1 (ha : TJ ci X W a tA gA) : TWJ ci X W (.BoolOp .And [a] pos) tA gA := ⟨pw_and1 ha.pt, ha.sim⟩
theorem twj_or1 (ha : TJ ci X W a tA gA) : TWJ ci X W (.BoolOp .Or [a] pos) tA gA := ⟨pw_or1 ha.pt, ha.sim⟩
theorem twj_and (ha : TJ ci X W a tA gA) (hb : TWJ ci X W (.BoolOp .And (b :: rest) pos) tB' gB) : TWJ ci X W (.BoolOp .And (a :: b :: rest) pos) (tAnd tA tB') (eAndB gA gB) :=
  ⟨pw_and ha.pt hb.pw, fun σ H env h bs Q er hr p => ha.sim.step er hr p fun x vx bs1 H1 h1 e1 hr1 er1 rx p1 => by
    cases (show vx = x from rx)
    cases x with
    | true => rw [if_pos rfl] at p1 ⊢; exact hb.sim _ _ _ _ _ _ er1 hr1 p1
    | false => rw [if_neg Bool.false_ne_true] at p1 ⊢; exact Post.ok_ p1 hr1 rfl⟩
theorem twj_or (ha : TJ ci X W a tA gA) (hb : TWJ ci X W (.BoolOp .Or (b :: rest) pos) tB' gB) : TWJ ci X W (.BoolOp .Or (a :: b :: rest) pos) (tOr tA tB') (eOrB gA gB) :=
  ⟨pw_or ha.pt hb.pw, fun σ H env h bs Q er hr p => ha.sim.step er hr p fun x vx bs1 H1 h1 e1 hr1 er1 rx p1 => by
    cases (show vx = x from rx)
    cases x with
    | true => rw [if_pos rfl] at p1 ⊢; exact Post.ok_ p1 hr1 rfl
    | false => rw [if_neg Bool.false_ne_true] at p1 ⊢; exact hb.sim _ _ _ _ _ _ er1 hr1 p1⟩
theorem tj_w (h : TWJ ci X W a tA gA) : TJ ci X W a tA gA := ⟨h.pw.pt, h.sim⟩
/-- and, or, not as values -/
def eAnd (fa fb : En → Hs → R D) : En → Hs → R D := fun env h => (fa env h).bind fun x h1 => (truR x h1).bind fun b h2 => if b = true then fb env h2 else .ok x h2
def eOr (fa fb : En → Hs → R D) : En → Hs → R D := fun env h => (fa env h).bind fun x h1 => (truR x h1).bind fun b h2 => if b = true then .ok x h2 else fb env h2
def eNot (fa : En → Hs → R D) : En → Hs → R D := fun env h => (fa env h).bind fun x h1 => (truR x h1).bind fun b h2 => .ok (.bl (!b)) h2
theorem ej_one {op} (ha : EJ ci X W a ta fa) : EJ ci X W (.BoolOp op [a] pos) ta fa := ⟨pe_one ha.pe, ha.sim⟩
theorem truR_post {γ δ : Type} {relC : List Addr → Hp → γ → δ → Prop} {g : G} {W : Value → Option Addr → Hp → Prop} {bs : List Addr} {h : Hs} {H : Hp} {x : D} {k : Bool → Hs → R γ} {Q : δ → Hp → Prop} (p : Post relC g W bs H ((truR x h).bind k) Q) : ∃ b, truD x h = some b ∧ Post relC g W bs H (k b h) Q := by
  unfold truR at p
  split at p
  · rename_i b hb
    exact ⟨b, hb, p⟩
  · exact p.elim
theorem ej_and (ha : EJ ci X W a ta fa) (hb : EJ ci X W (.BoolOp .And (b :: rest) pos) tb fb) : EJ ci X W (.BoolOp .And (a :: b :: rest) pos) (tAndT X.K ta tb) (eAnd fa fb) :=
  ⟨pe_andT ha.pe hb.pe, fun σ H env h bs Q er hr p => ha.sim.step er hr p fun x vx bs1 H1 h1 e1 hr1 er1 rx p1 => by
    obtain ⟨b, hb1, p2⟩ := truR_post p1
    refine ⟨b, tru_ok' hr1 rx hb1, ?_⟩
    cases b with
    | true => rw [if_pos rfl] at p2 ⊢; exact hb.sim _ _ _ _ _ _ er1 hr1 p2
    | false => rw [if_neg Bool.false_ne_true] at p2 ⊢; exact Post.ok_ p2 hr1 rx⟩
theorem ej_or (ha : EJ ci X W a ta fa) (hb : EJ ci X W (.BoolOp .Or (b :: rest) pos) tb fb) : EJ ci X W (.BoolOp .Or (a :: b :: rest) pos) (tOrT X.K ta tb) (eOr fa fb) :=
  ⟨pe_orT ha.pe hb.pe, fun σ H env h bs Q er hr p => ha.sim.step er hr p fun x vx bs1 H1 h1 e1 hr1 er1 rx p1 => by
    obtain ⟨b, hb1, p2⟩ := truR_post p1
    refine ⟨b, tru_ok' hr1 rx hb1, ?_⟩
    cases b with
    | true => rw [if_pos rfl] at p2 ⊢; exact Post.ok_ p2 hr1 rx
    | false => rw [if_neg Bool.false_ne_true] at p2 ⊢; exact hb.sim _ _ _ _ _ _ er1 hr1 p2⟩
theorem ej_not (ha : EJ ci X W a ta fa) : EJ ci X W (.UnaryOp .Not a pos) (tNotT X.K ta) (eNot fa) :=
  ⟨pe_notT ha.pe, fun σ H env h bs Q er hr p => ha.sim.step er hr p fun x vx bs1 H1 h1 e1 hr1 er1 rx p1 => by
    obtain ⟨b, hb1, p2⟩ := truR_post p1
    exact ⟨b, tru_ok' hr1 rx hb1, Post.ok_ p2 hr1 (.bl _)⟩⟩
def eIf (c : En → Hs → R Bool) (fa fb : En → Hs → R D) : En → Hs → R D := fun env h => (c env h).bind fun b h1 => if b = true then fa env h1 else fb env h1
theorem ej_if (hc : TJ ci X W c tA gA) (ha : EJ ci X W a ta fa) (hb : EJ ci X W b tb fb) : EJ ci X W (.IfExp c a b pos) (tIf tA ta tb) (eIf gA fa fb) :=
  ⟨pe_ifExp hc.pt ha.pe hb.pe, fun σ H env h bs Q er hr p => hc.sim.step er hr p fun x vx bs1 H1 h1 e1 hr1 er1 rx p1 => by
    cases (show vx = x from rx)
    cases x with
    | true => rw [if_pos rfl] at p1 ⊢; exact ha.sim _ _ _ _ _ _ er1 hr1 p1
    | false => rw [if_neg Bool.false_ne_true] at p1 ⊢; exact hb.sim _ _ _ _ _ _ er1 hr1 p1⟩
/-! ### argument lists, displays -/
def aNil : En → Hs → R (List D) := fun _ h => .ok [] h
def aCons (f : En → Hs → R D) (fr : En → Hs → R (List D)) : En → Hs → R (List D) := fun env h => (f env h).bind fun x h1 => (fr env h1).bind fun xs h2 => .ok (x :: xs) h2
variable {e : Expr} {es : List Expr} {te : TE} {t : TA} {fe : En → Hs → R D} {fr : En → Hs → R (List D)}
theorem aj_nil : AJ ci X W [] tNil aNil := ⟨pa_nil, fun σ H env h bs Q er hr p => Post.ok_ p hr .nil⟩
theorem aj_cons (ha : EJ ci X W e te fe) (hr : AJ ci X W es t fr) (hs : starEach (e :: es) X.env = (false, eval e X.env) :: starEach es X.env := by rfl) : AJ ci X W (e :: es) (tCons te t) (aCons fe fr) :=
  ⟨pa_cons ha.pe hr.pa hs, fun σ H env h bs Q er hr' p => ha.sim.step er hr' p fun x vx bs1 H1 h1 e1 hr1 er1 rx p1 => hr.sim.step er1 hr1 p1 fun xs vs bs2 H2 h2 e2 hr2 er2 rs p2 => Post.ok_ p2 hr2 (.cons (rx.mono e2) rs)⟩
def eTup (f : En → Hs → R (List D)) : En → Hs → R D := fun env h => (f env h).bind fun xs h1 => if xs.length ≤ big then .ok (.tup xs) h1 else .bad
/-- a list that is never changed; one that may be -/
def eLst (f : En → Hs → R (List D)) : En → Hs → R D := fun env h => (f env h).bind fun xs h1 => if xs.length ≤ big then .ok (.lst xs) h1 else .bad
def eLstM (f : En → Hs → R (List D)) : En → Hs → R D := fun env h => (f env h).bind fun xs h1 => if xs.length ≤ big then .ok (.ref h1.length) (h1 ++ [.lst xs]) else .bad
theorem ej_tup {x1} (ha : AJ ci X W es t fr) : EJ ci X W (.Tuple es x1 pos) (tTup t) (eTup fr) :=
  ⟨pe_tup ha.pa, fun σ H env h bs Q er hr p => ha.sim.step er hr p fun xs vs bs1 H1 h1 e1 hr1 er1 rs p1 => by
    split at p1
    · rename_i hl
      exact ⟨by rw [← rs.length, big_eq]; exact hl, post_tup hr1 rs p1⟩
    · exact p1.elim⟩
theorem ej_lst (ha : AJ ci X W es t fr) : EJ ci X W (.List es pos) (tLst t) (eLst fr) :=
  ⟨pe_lst ha.pa, fun σ H env h bs Q er hr p => ha.sim.step er hr p fun xs vs bs1 H1 h1 e1 hr1 er1 rs p1 => by
    split at p1
    · rename_i hl
      exact ⟨by rw [← rs.length, big_eq]; exact hl, post_lst hr1 rs p1⟩
    · exact p1.elim⟩
theorem ej_lstM (ha : AJ ci X W es t fr) : EJ ci X W (.List es pos) (tLst t) (eLstM fr) :=
  ⟨pe_lst ha.pa, fun σ H env h bs Q er hr p => ha.sim.step er hr p fun xs vs bs1 H1 h1 e1 hr1 er1 rs p1 => by
    split at p1
    · rename_i hl
      exact ⟨by rw [← rs.length, big_eq]; exact hl, post_lstM hr1 rs p1⟩
    · exact p1.elim⟩
/-! ### subscripts -/
def ixD (x y : D) (h : Hs) : R D := match y with
  | .int i => match x with
    | .tup xs => match atI xs i with
      | some d => .ok d h
      | none => .bad
    | .str s => if s.length ≤ big then match atI s.cps.toList i with
      | some c => .ok (.str ⟨#[c]⟩) h
      | none => .bad
      else .bad
    | x => match rdL h x with
      | some xs => match atI xs i with
        | some d => .ok d h
        | none => .bad
      | none => .bad
  | _ => .bad
theorem atI_rep {g : G} {bs : List Addr} {H : Hp} {ds : List D} {vs : List V} {i : Int} {d : D} (r : Reps g bs H ds vs) (h : atI ds i = some d) : ∃ v, atI vs i = some v ∧ Rep g bs H d v := by
  unfold atI at h ⊢
  rw [← r.length]
  cases e : ixN ds.length i with
  | none => rw [e] at h; cases h
  | some j =>
    rw [e] at h
    exact r.get h
theorem strOk_at {s : Str} {i : Int} {c : Nat} (hs : PyData.strOk s = true) (h : atI s.cps.toList i = some c) : PyData.strOk (⟨#[c]⟩ : Str) = true := by
  obtain ⟨j, _, h1, _⟩ := atI_get h
  unfold PyData.strOk at hs ⊢
  have hm : c ∈ s.cps := by
    have := List.mem_of_getElem? h1
    simpa using this
  have := Array.all_eq_true'.mp hs c hm
  simpa using this
theorem opj_ix {g : G} : OpJ g (rIx g.K) ixD := by
  refine ⟨fun W bs h H x y vx vy Q hr rx ry p => ?_⟩
  unfold ixD at p
  split at p
  · cases ry
    split at p
    · split at p
      · rename_i hd
        cases rx with
        | @tup a vs ds t rs =>
          obtain ⟨v, h1, h2⟩ := atI_rep rs hd
          exact .inr (.inl ⟨a, vs, _, v, rfl, rfl, t.sq, h1, Post.ok_ p hr h2⟩)
      · exact p.elim
    · split at p
      · rename_i hl
        split at p
        · rename_i c hc
          cases rx with
          | str hs => exact .inr (.inr ⟨_, _, c, rfl, rfl, by rw [big_eq]; exact hl, hc, Post.ok_ p hr (.str (strOk_at hs hc))⟩)
        · exact p.elim
      · exact p.elim
    · split at p
      · rename_i xs hx
        split at p
        · rename_i d hd
          obtain ⟨a, vs, rfl, hs, rs⟩ := rdL_ok hr rx hx
          obtain ⟨v, h1, h2⟩ := atI_rep rs hd
          exact .inl ⟨a, vs, _, v, rfl, rfl, hs, h1, Post.ok_ p hr h2⟩
        · exact p.elim
      · exact p.elim
  · exact p.elim
theorem ej_ix (ha : EJ ci X W a ta fa) (hb : EJ ci X W b tb fb) (hs : PlainIx b := by exact fun _ _ => rfl) : EJ ci X W (.Subscript a b pos) (tOp (rIx X.K) ta tb) (eBin ixD fa fb) :=
  ⟨pe_ix ix_seq ha.pe hb.pe hs, sim_bin opj_ix ha.sim hb.sim⟩
end
/-! ### slices -/
abbrev relO : List Addr → Hp → Option Int → Option Int → Prop := fun _ _ a b => b = a
structure OJ (ci : Nat → String × List String) (X : Cx) (W : WX) (o : Option Expr) (t : TO) (f : En → Hs → R (Option Int)) : Prop where
  po : PO X o t
  sim : Sim relO (X.g ci) W t f
def oNo : En → Hs → R (Option Int) := fun _ h => .ok none h
def oSome (f : En → Hs → R D) : En → Hs → R (Option Int) := fun env h => (f env h).bind fun x h1 => match x with
  | .int i => .ok (some i) h1
  | _ => .bad
def cutD (xs : List D) (lo hi : Option Int) : List D := (xs.drop (HT.sIx xs.length 0 lo)).take (HT.sIx xs.length xs.length hi - HT.sIx xs.length 0 lo)
theorem Reps.cut {g : G} {bs : List Addr} {H : Hp} {ds : List D} {vs : List V} (r : Reps g bs H ds vs) (lo hi : Option Int) : Reps g bs H (cutD ds lo hi) (cutV vs lo hi) := by
  unfold cutD cutV
  rw [← r.length]
  exact (r.drop _).take _
def slD (x : D) (lo hi : Option Int) (h : Hs) : R D := match x with
  | .tup xs => .ok (.tup (cutD xs lo hi)) h
  | x => match rdL h x with
    | some xs => .ok (.lst (cutD xs lo hi)) h
    | none => .bad
def slDM (x : D) (lo hi : Option Int) (h : Hs) : R D := match rdL h x with
    | some xs => .ok (.ref h.length) (h ++ [.lst (cutD xs lo hi)])
    | none => .bad
def rSlX' (K : PySem.W.Frag) : V → Option Int → Option Int → Hp → VK → Prop := fun x lo hi H Q => rSlL K x lo hi H Q ∨ rSlA K x lo hi H Q
theorem slr_x {X : Cx} : SlR X (rSlX' X.K) := sl_list.or sl_tupA
def eSl (op : D → Option Int → Option Int → Hs → R D) (fa : En → Hs → R D) (fl fh : En → Hs → R (Option Int)) : En → Hs → R D := fun env h => (fa env h).bind fun x h1 => (fl env h1).bind fun lo h2 => (fh env h2).bind fun hi h3 => op x lo hi h3
theorem cut_all {ds : List D} {lo hi : Option Int} (h : HT.sIx ds.length 0 lo = 0 ∧ HT.sIx ds.length ds.length hi = ds.length) : cutD ds lo hi = ds := by
  unfold cutD
  rw [h.1, h.2]
  simp
section
variable {ci : Nat → String × List String} {X : Cx} {W : WX} {pos p2 : Pos} {a e : Expr} {lo hi : Option Expr} {ta te : TE} {fa fe : En → Hs → R D} {tl th : TO} {fl fh : En → Hs → R (Option Int)}
theorem oj_no : OJ ci X W none tNoPart oNo := ⟨po_none, fun σ H env h bs Q er hr p => Post.ok_ p hr rfl⟩
theorem oj_some (he : EJ ci X W e te fe) : OJ ci X W (some e) (tPart te) (oSome fe) :=
  ⟨po_some he.pe, fun σ H env h bs Q er hr p => he.sim.step er hr p fun x vx bs1 H1 h1 e1 hr1 er1 rx p1 => by
    split at p1
    · cases rx; exact ⟨_, rfl, Post.ok_ p1 hr1 rfl⟩
    · exact p1.elim⟩
theorem ej_sl (ha : EJ ci X W a ta fa) (hl : OJ ci X W lo tl fl) (hh : OJ ci X W hi th fh) : EJ ci X W (.Subscript a (.Slice lo hi none p2) pos) (tSl (rSlX' X.K) ta tl th) (eSl slD fa fl fh) :=
  ⟨pe_slice slr_x ha.pe hl.po hh.po, fun σ H env h bs Q er hr p => ha.sim.step er hr p fun x vx bs1 H1 h1 e1 hr1 er1 rx p1 => hl.sim.step er1 hr1 p1 fun l l' bs2 H2 h2 e2 hr2 er2 rl p2 => hh.sim.step er2 hr2 p2 fun u u' bs3 H3 h3 e3 hr3 er3 ru p3 => by
    obtain rfl : l' = l := rl
    obtain rfl : u' = u := ru
    have rx3 := (rx.mono e2).mono e3
    unfold slD at p3
    split at p3
    · cases rx3 with
      | @tup a vs ds t rs =>
        refine .inr ⟨a, vs, rfl, t.sq, fun hw => ?_, fun _ => post_tup hr3 (rs.cut _ _) p3⟩
        rw [← rs.length] at hw
        rw [cut_all hw] at p3
        exact Post.ok_ p3 hr3 (.tup t rs)
    · split at p3
      · rename_i xs hx
        obtain ⟨a, vs, rfl, hs, rs⟩ := rdL_ok hr3 rx3 hx
        exact .inl ⟨a, vs, rfl, hs, post_lst hr3 (rs.cut _ _) p3⟩
      · exact p3.elim⟩
theorem ej_slM (ha : EJ ci X W a ta fa) (hl : OJ ci X W lo tl fl) (hh : OJ ci X W hi th fh) : EJ ci X W (.Subscript a (.Slice lo hi none p2) pos) (tSl (rSlL X.K) ta tl th) (eSl slDM fa fl fh) :=
  ⟨pe_slice sl_list ha.pe hl.po hh.po, fun σ H env h bs Q er hr p => ha.sim.step er hr p fun x vx bs1 H1 h1 e1 hr1 er1 rx p1 => hl.sim.step er1 hr1 p1 fun l l' bs2 H2 h2 e2 hr2 er2 rl p2 => hh.sim.step er2 hr2 p2 fun u u' bs3 H3 h3 e3 hr3 er3 ru p3 => by
    obtain rfl : l' = l := rl
    obtain rfl : u' = u := ru
    have rx3 := (rx.mono e2).mono e3
    unfold slDM at p3
    split at p3
    · rename_i xs hx
      obtain ⟨a, vs, rfl, hs, rs⟩ := rdL_ok hr3 rx3 hx
      exact ⟨a, vs, rfl, hs, post_lstM hr3 (rs.cut _ _) p3⟩
    · exact p3.elim⟩
end
/-! ### calls of built-ins -/
structure CaJ (g : G) (r : List V → Hp → VK → Prop) (f : List D → Hs → R D) : Prop where
  run : ∀ (W : Value → Option Addr → Hp → Prop) (bs : List Addr) (h : Hs) (H : Hp) (xs : List D) (vs : List V) (Q : VK), HRel g bs h H → Reps g bs H xs vs → Post (relV g) g W bs H (f xs h) Q → r vs H Q
def eCall (f : List D → Hs → R D) (fa : En → Hs → R (List D)) : En → Hs → R D := fun env h => (fa env h).bind f
section
variable {ci : Nat → String × List String} {X : Cx} {W : WX} {x : Str} {p pos : Pos} {e : Expr} {es : List Expr} {t : TA} {id T : String} {r : List V → Hp → VK → Prop} {f : List D → Hs → R D} {fa : En → Hs → R (List D)}
theorem sim_cb {g : G} (hj : CaJ g r f) (ha : Sim (relVs g) g W t fa) : Sim (relV g) g W (tCB r t) (eCall f fa) :=
  fun σ H env h bs Q er hr p => ha.step er hr p fun xs vs bs1 H1 h1 e1 hr1 er1 rs p1 => hj.run _ bs1 h1 H1 xs vs Q hr1 rs p1
theorem ej_callB (hc : CallR X (.builtin id) r) (hj : CaJ (X.g ci) r f) (hg : Gl X x) (hm : X.mg x = none) (hv : bootBuiltins x = some (.builtin id)) (ha : AJ ci X W (e :: es) t fa) (hn : x ≠ "__name__" := by decide) (hdb : (x == ("__debug__" : Str)) = false := by decide)
    (he : starEach (e :: es) X.env = (false, eval e X.env) :: starEach es X.env := by rfl) (hpl : (backTo pos (starEach es X.env)).any (·.1) = false := by rfl) : EJ ci X W (.Call (.Name x p) (e :: es) [] pos) (tCB r t) (eCall f fa) :=
  ⟨pe_callB hc hg hm hv ha.pa hn hdb he hpl, sim_cb hj ha.sim⟩
theorem ej_callTy (hc : CallR X (.type T) r) (hj : CaJ (X.g ci) r f) (hg : Gl X x) (hm : X.mg x = none) (hv : bootBuiltins x = some (.type T)) (ha : AJ ci X W (e :: es) t fa) (hn : x ≠ "__name__" := by decide) (hdb : (x == ("__debug__" : Str)) = false := by decide)
    (he : starEach (e :: es) X.env = (false, eval e X.env) :: starEach es X.env := by rfl) (hpl : (backTo pos (starEach es X.env)).any (·.1) = false := by rfl) : EJ ci X W (.Call (.Name x p) (e :: es) [] pos) (tCB r t) (eCall f fa) :=
  ⟨pe_callTy hc hg hm hv ha.pa hn hdb he hpl, sim_cb hj ha.sim⟩
end
def lenD (xs : List D) (h : Hs) : R D := match xs with
  | [.str s] => if s.length ≤ big then .ok (.int s.length) h else .bad
  | [.tup ys] => .ok (.int ys.length) h
  | [x] => match rdL h x with
    | some ys => .ok (.int ys.length) h
    | none => .bad
  | _ => .bad
abbrev rLenX (K : PySem.W.Frag) : List V → Hp → VK → Prop := fun xs H Q => ∃ x n, xs = [x] ∧ LenV K x H n ∧ Q (.int n) H
theorem caj_len {g : G} : CaJ g (rLenX g.K) lenD := by
  refine ⟨fun W bs h H xs vs Q hr rs p => ?_⟩
  unfold lenD at p
  split at p
  · split at p
    · rename_i hl
      cases rs with | cons r t => cases t; cases r; exact ⟨_, _, rfl, ⟨by rw [big_eq]; exact hl, rfl⟩, Post.ok_ p hr (.int _)⟩
    · exact p.elim
  · cases rs with | cons r t => cases t; cases r with | tup t rs => exact ⟨_, _, rfl, .inr ⟨_, t.sq, rfl⟩, by rw [← rs.length]; exact Post.ok_ p hr (.int _)⟩
  · split at p
    · rename_i ys hy
      cases rs with
      | cons r t =>
        cases t
        obtain ⟨a, vs, rfl, hs, rs⟩ := rdL_ok hr r hy
        exact ⟨_, _, rfl, .inl ⟨_, hs, rfl⟩, by rw [← rs.length]; exact Post.ok_ p hr (.int _)⟩
    · exact p.elim
  · exact p.elim
def absD (xs : List D) (h : Hs) : R D := match xs with
  | [.int i] => .ok (.int (if i < 0 then -i else i)) h
  | _ => .bad
theorem caj_abs {g : G} : CaJ g (fun xs H Q => ∃ i, xs = [.int i] ∧ Q (.int (if i < 0 then -i else i)) H) absD := by
  refine ⟨fun W bs h H xs vs Q hr rs p => ?_⟩
  unfold absD at p
  split at p
  · cases rs with | cons r t => cases t; cases r; exact ⟨_, rfl, Post.ok_ p hr (.int _)⟩
  · exact p.elim
def maxD (xs : List D) (h : Hs) : R D := match xs with
  | [.int i, .int j] => .ok (.int (if j > i then j else i)) h
  | _ => .bad
def minD (xs : List D) (h : Hs) : R D := match xs with
  | [.int i, .int j] => .ok (.int (if j < i then j else i)) h
  | _ => .bad
theorem caj_max {g : G} : CaJ g (fun xs H Q => ∃ i j, xs = [.int i, .int j] ∧ Q (.int (if j > i then j else i)) H) maxD := by
  refine ⟨fun W bs h H xs vs Q hr rs p => ?_⟩
  unfold maxD at p
  split at p
  · cases rs with | cons r t => cases t with | cons r2 t => cases t; cases r; cases r2; exact ⟨_, _, rfl, Post.ok_ p hr (.int _)⟩
  · exact p.elim
theorem caj_min {g : G} : CaJ g (fun xs H Q => ∃ i j, xs = [.int i, .int j] ∧ Q (.int (if j < i then j else i)) H) minD := by
  refine ⟨fun W bs h H xs vs Q hr rs p => ?_⟩
  unfold minD at p
  split at p
  · cases rs with | cons r t => cases t with | cons r2 t => cases t; cases r; cases r2; exact ⟨_, _, rfl, Post.ok_ p hr (.int _)⟩
  · exact p.elim
def intTD (xs : List D) (h : Hs) : R D := match xs with
  | [.int i] => .ok (.int i) h
  | [.bl b] => .ok (.int (if b = true then 1 else 0)) h
  | _ => .bad
theorem caj_int {g : G} : CaJ g (fun xs H Q => (∃ i, xs = [.int i] ∧ Q (.int i) H) ∨ ∃ k, xs = [.bl k] ∧ Q (.int (if k then 1 else 0)) H) intTD := by
  refine ⟨fun W bs h H xs vs Q hr rs p => ?_⟩
  unfold intTD at p
  split at p
  · cases rs with | cons r t => cases t; cases r; exact .inl ⟨_, rfl, Post.ok_ p hr (.int _)⟩
  · cases rs with | cons r t => cases t; cases r; exact .inr ⟨_, rfl, Post.ok_ p hr (.int _)⟩
  · exact p.elim
def boolTD (xs : List D) (h : Hs) : R D := match xs with
  | [.int i] => .ok (.bl (i != 0)) h
  | [.bl b] => .ok (.bl b) h
  | _ => .bad
theorem caj_bool {g : G} : CaJ g (fun xs H Q => (∃ i, xs = [.int i] ∧ Q (.bl (i != 0)) H) ∨ ∃ k, xs = [.bl k] ∧ Q (.bl k) H) boolTD := by
  refine ⟨fun W bs h H xs vs Q hr rs p => ?_⟩
  unfold boolTD at p
  split at p
  · cases rs with | cons r t => cases t; cases r; exact .inl ⟨_, rfl, Post.ok_ p hr (.bl _)⟩
  · cases rs with | cons r t => cases t; cases r; exact .inr ⟨_, rfl, Post.ok_ p hr (.bl _)⟩
  · exact p.elim
/-- list(x): never changed; may be changed. tuple(x) -/
def seqOf (h : Hs) : D → Option (List D)
  | .tup xs => some xs
  | x => rdL h x
theorem seqOf_ok {g : G} {bs : List Addr} {h : Hs} {H : Hp} {d : D} {v : V} {xs : List D} (hr : HRel g bs h H) (r : Rep g bs H d v) (e : seqOf h d = some xs) : ∃ a vs, v = .ref a ∧ (SqL g.K H a vs ∨ SqT g.K H a vs) ∧ Reps g bs H xs vs := by
  have lists : rdL h d = some xs → ∃ a vs, v = .ref a ∧ (SqL g.K H a vs ∨ SqT g.K H a vs) ∧ Reps g bs H xs vs := fun e => by
    obtain ⟨a, vs, h1, h2, h3⟩ := rdL_ok hr r e
    exact ⟨a, vs, h1, .inl h2, h3⟩
  cases r with
  | tup t rs => cases e; exact ⟨_, _, rfl, .inr t.sq, rs⟩
  | _ => exact lists e
def listTD (xs : List D) (h : Hs) : R D := match xs with
  | [x] => match seqOf h x with
    | some ys => .ok (.lst ys) h
    | none => .bad
  | _ => .bad
def listTDM (xs : List D) (h : Hs) : R D := match xs with
  | [x] => match seqOf h x with
    | some ys => .ok (.ref h.length) (h ++ [.lst ys])
    | none => .bad
  | _ => .bad
abbrev rListOf (K : PySem.W.Frag) : List V → Hp → VK → Prop := fun xs H Q => ∃ p ys, xs = [.ref p] ∧ (SqL K H p ys ∨ SqT K H p ys) ∧ ∀ l, H l = none → Q (.ref l) (upd H l (.lst ys))
theorem caj_list {g : G} : CaJ g (rListOf g.K) listTD := by
  refine ⟨fun W bs h H xs vs Q hr rs p => ?_⟩
  unfold listTD at p
  split at p
  · split at p
    · rename_i ys hy
      cases rs with
      | cons r t =>
        cases t
        obtain ⟨a, vs, rfl, hs, rs⟩ := seqOf_ok hr r hy
        exact ⟨a, vs, rfl, hs, post_lst hr rs p⟩
    · exact p.elim
  · exact p.elim
theorem caj_listM {g : G} : CaJ g (rListOf g.K) listTDM := by
  refine ⟨fun W bs h H xs vs Q hr rs p => ?_⟩
  unfold listTDM at p
  split at p
  · split at p
    · rename_i ys hy
      cases rs with
      | cons r t =>
        cases t
        obtain ⟨a, vs, rfl, hs, rs⟩ := seqOf_ok hr r hy
        exact ⟨a, vs, rfl, hs, post_lstM hr rs p⟩
    · exact p.elim
  · exact p.elim
def tupTD (xs : List D) (h : Hs) : R D := match xs with
  | [.tup ys] => .ok (.tup ys) h
  | [x] => match rdL h x with
    | some ys => .ok (.tup ys) h
    | none => .bad
  | _ => .bad
abbrev rTupOf (K : PySem.W.Frag) : List V → Hp → VK → Prop := fun xs H Q => ∃ p ys, xs = [.ref p] ∧ ((SqL K H p ys ∧ ∀ l, H l = none → Q (.ref l) (upd H l (.tup ys))) ∨ (SqT K H p ys ∧ Q (.ref p) H))
theorem caj_tuple {g : G} : CaJ g (rTupOf g.K) tupTD := by
  refine ⟨fun W bs h H xs vs Q hr rs p => ?_⟩
  unfold tupTD at p
  split at p
  · cases rs with | cons r t => cases t; cases r with | tup t rs => exact ⟨_, _, rfl, .inr ⟨t.sq, Post.ok_ p hr (.tup t rs)⟩⟩
  · split at p
    · rename_i ys hy
      cases rs with
      | cons r t =>
        cases t
        obtain ⟨a, vs, rfl, hs, rs⟩ := rdL_ok hr r hy
        exact ⟨a, vs, rfl, .inl ⟨hs, post_tup hr rs p⟩⟩
    · exact p.elim
  · exact p.elim
def divmodD (xs : List D) (h : Hs) : R D := match xs with
  | [.int i, .int j] => if 0 < j ∧ j.natAbs < 2 ^ 400 then .ok (.tup [.int (i / j), .int (i % j)]) h else .bad
  | _ => .bad
abbrev rDivmod : List V → Hp → VK → Prop := fun xs H Q => ∃ i j, xs = [.int i, .int j] ∧ CDivP i j ∧ ∀ p, H p = none → Q (.ref p) (upd H p (.tup [.int (i / j), .int (i % j)]))
theorem caj_divmod {g : G} : CaJ g rDivmod divmodD := by
  refine ⟨fun W bs h H xs vs Q hr rs p => ?_⟩
  unfold divmodD at p
  split at p
  · split at p
    · rename_i hc
      cases rs with
      | cons r t =>
        cases t with
        | cons r2 t =>
          cases t; cases r; cases r2
          exact ⟨_, _, rfl, ⟨hc.1, PyProof.noPylong_of_log2 (wide_div (i := 0) hc.1 hc.2 (by decide) (by decide)).2⟩, post_tup hr (.cons (.int _) (.cons (.int _) .nil)) p⟩
    · exact p.elim
  · exact p.elim
end Ev
set_option Elab.async false
set_option linter.all false
set_option maxRecDepth 100000
set_option maxHeartbeats 4000000
namespace Ev
open PySem L2

/-! ### statements -/
inductive S where
  | nx (env : En) (h : Hs) | ret (d : D) (h : Hs) | brk (env : En) (h : Hs) | ct (env : En) (h : Hs) | err (c : Nat) (fs : List D) (env : En) (h : Hs) | bad
def R.toS {α : Type} (r : R α) (env : En) (k : α → Hs → S) : S := match r with
  | .ok a h => k a h
  | .err c fs h => .err c fs env h
  | .bad => .bad
@[simp] theorem R.toS_ok {α : Type} (a : α) (h : Hs) (env : En) (k : α → Hs → S) : (R.ok a h).toS env k = k a h := rfl
@[simp] theorem R.toS_err {α : Type} (c : Nat) (fs : List D) (h : Hs) (env : En) (k : α → Hs → S) : (R.err c fs h : R α).toS env k = .err c fs env h := rfl
@[simp] theorem R.toS_bad {α : Type} (env : En) (k : α → Hs → S) : (R.bad : R α).toS env k = .bad := rfl
def PostS (g : G) (W : WX) (bs : List Addr) (H : Hp) (r : S) (E : Ends) : Prop := match r with
  | .nx env h => ∀ bs' H' σ', Ext bs H bs' H' → HRel g bs' h H' → ERel g bs' H' env σ' → E.nx σ' H'
  | .ret d h => ∀ bs' H' v, Ext bs H bs' H' → HRel g bs' h H' → Rep g bs' H' d v → E.rt v H'
  | .brk env h => ∀ bs' H' σ', Ext bs H bs' H' → HRel g bs' h H' → ERel g bs' H' env σ' → E.bk σ' H'
  | .ct env h => ∀ bs' H' σ', Ext bs H bs' H' → HRel g bs' h H' → ERel g bs' H' env σ' → E.ct σ' H'
  | .err c fs env h => ∀ C dd bs' H' σ', Ext bs H bs' H' → HRel g bs' h H' → ERel g bs' H' env σ' → ErrAt g bs' H' c fs C dd → W C dd σ' H'
  | .bad => False
theorem PostS.mono {g : G} {W : WX} {bs bs1 : List Addr} {H H1 : Hp} {r : S} {E : Ends} (e : Ext bs H bs1 H1) (h : PostS g W bs H r E) : PostS g W bs1 H1 r E := by
  cases r with
  | nx env h' => exact fun bs' H' σ' x y z => h bs' H' σ' (e.trans x) y z
  | ret d h' => exact fun bs' H' σ' x y z => h bs' H' σ' (e.trans x) y z
  | brk env h' => exact fun bs' H' σ' x y z => h bs' H' σ' (e.trans x) y z
  | ct env h' => exact fun bs' H' σ' x y z => h bs' H' σ' (e.trans x) y z
  | err c fs env h' => exact fun C dd bs' H' σ' x y z => h C dd bs' H' σ' (e.trans x) y z
  | bad => exact h
def SimS (g : G) (W : WX) (t : TS) (f : En → Hs → S) : Prop :=
  ∀ (σ : St) (H : Hp) (env : En) (h : Hs) (bs : List Addr) (E : Ends), ERel g bs H env σ → HRel g bs h H → PostS g W bs H (f env h) E → t E σ H
structure SJ (ci : Nat → String × List String) (X : Cx) (W : WX) (st : Stmt) (t : TS) (f : En → Hs → S) : Prop where
  ps : PS X st t
  sim : SimS (X.g ci) W t f
structure SsJ (ci : Nat → String × List String) (X : Cx) (W : WX) (st : List Stmt) (t : TS) (f : En → Hs → S) : Prop where
  pss : PSs X st t
  sim : SimS (X.g ci) W t f
/-- an expression ahead in a statement -/
theorem Sim.stepS {α β : Type} {rel : List Addr → Hp → α → β → Prop} {g : G} {W : WX} {t : St → Hp → (β → Hp → Prop) → Prop} {f : En → Hs → R α} {σ : St} {H : Hp} {env : En} {h : Hs} {bs : List Addr} {k : α → Hs → S} {E : Ends} {Q' : β → Hp → Prop}
    (ht : Sim rel g W t f) (er : ERel g bs H env σ) (hr : HRel g bs h H) (p : PostS g W bs H ((f env h).toS env k) E)
    (hk : ∀ a b bs1 H1 h1, Ext bs H bs1 H1 → HRel g bs1 h1 H1 → ERel g bs1 H1 env σ → rel bs1 H1 a b → PostS g W bs1 H1 (k a h1) E → Q' b H1) : t σ H Q' := by
  refine ht σ H env h bs Q' er hr ?_
  cases hf : f env h with
  | bad => rw [hf] at p; exact p
  | err c fs h' => rw [hf] at p; exact fun C dd bs' H' e r z => p C dd bs' H' σ e r (er.mono e) z
  | ok a h1 => rw [hf] at p; exact fun bs1 H1 b e hr1 ra => hk a b bs1 H1 h1 e hr1 (er.mono e) ra (PostS.mono e p)
def sNil : En → Hs → S := fun env h => .nx env h
def S.seq (r : S) (k : En → Hs → S) : S := match r with
  | .nx env h => k env h
  | r => r
@[simp] theorem S.seq_nx (env : En) (h : Hs) (k : En → Hs → S) : (S.nx env h).seq k = k env h := rfl
@[simp] theorem S.seq_ret (d : D) (h : Hs) (k : En → Hs → S) : (S.ret d h).seq k = .ret d h := rfl
@[simp] theorem S.seq_brk (env : En) (h : Hs) (k : En → Hs → S) : (S.brk env h).seq k = .brk env h := rfl
@[simp] theorem S.seq_ct (env : En) (h : Hs) (k : En → Hs → S) : (S.ct env h).seq k = .ct env h := rfl
@[simp] theorem S.seq_err (c : Nat) (fs : List D) (env : En) (h : Hs) (k : En → Hs → S) : (S.err c fs env h).seq k = .err c fs env h := rfl
@[simp] theorem S.seq_bad (k : En → Hs → S) : S.bad.seq k = .bad := rfl
def sCons (f k : En → Hs → S) : En → Hs → S := fun env h => (f env h).seq k
section
variable {ci : Nat → String × List String} {X : Cx} {W : WX} {pos : Pos} {st : Stmt} {rest sa sb : List Stmt} {t u : TS} {f k : En → Hs → S} {e c : Expr} {te : TE} {fe : En → Hs → R D} {tc : TT} {fc : En → Hs → R Bool}
theorem ssj_nil : SsJ ci X W [] tNext sNil := ⟨pss_nil, fun σ H env h bs E er hr p => p bs H σ .refl hr er⟩
theorem sim_seq {g : G} (hf : SimS g W t f) (hk : SimS g W u k) : SimS g W (tSeq t u) (sCons f k) := by
  intro σ H env h bs E er hr p
  refine hf σ H env h bs _ er hr ?_
  have p' : PostS g W bs H ((f env h).seq k) E := p
  cases hfe : f env h with
  | nx env1 h1 =>
    rw [hfe] at p'
    exact fun bs' H' σ' e hr1 er1 => hk σ' H' env1 h1 bs' E er1 hr1 (PostS.mono e p')
  | ret d h1 => rw [hfe] at p'; exact p'
  | brk env1 h1 => rw [hfe] at p'; exact p'
  | ct env1 h1 => rw [hfe] at p'; exact p'
  | err c fs env1 h1 => rw [hfe] at p'; exact p'
  | bad => rw [hfe] at p'; exact p'
theorem ssj_cons (h1 : SJ ci X W st t f) (h2 : SsJ ci X W rest u k) : SsJ ci X W (st :: rest) (tSeq t u) (sCons f k) := ⟨pss_cons h1.ps h2.pss, sim_seq h1.sim h2.sim⟩
theorem ssj_one (h1 : SJ ci X W st t f) : SsJ ci X W [st] t f := ⟨pss_one h1.ps, h1.sim⟩
theorem sj_pass : SJ ci X W (.Pass pos) tNext sNil := ⟨ps_pass, fun σ H env h bs E er hr p => p bs H σ .refl hr er⟩
def sBrk : En → Hs → S := fun env h => .brk env h
def sCt : En → Hs → S := fun env h => .ct env h
theorem sj_break : SJ ci X W (.Break pos) tBreak sBrk := ⟨ps_break, fun σ H env h bs E er hr p => p bs H σ .refl hr er⟩
theorem sj_continue : SJ ci X W (.Continue pos) tCont sCt := ⟨ps_continue, fun σ H env h bs E er hr p => p bs H σ .refl hr er⟩
def sExpr (f : En → Hs → R D) : En → Hs → S := fun env h => (f env h).toS env fun _ h1 => .nx env h1
theorem sj_expr (he : EJ ci X W e te fe) (hs : swapsWith e none pos.line X.env = pure false := by rfl) : SJ ci X W (.Expr e pos) (tDrop te) (sExpr fe) :=
  ⟨ps_expr he.pe hs, fun σ H env h bs E er hr p => he.sim.stepS er hr p fun a b bs1 H1 h1 e1 hr1 er1 ra p1 => p1 bs1 H1 σ .refl hr1 er1⟩
def sRet (f : En → Hs → R D) : En → Hs → S := fun env h => (f env h).toS env fun d h1 => .ret d h1
theorem sj_ret (he : EJ ci X W e te fe) : SJ ci X W (.Return (some e) pos) (tRet te) (sRet fe) :=
  ⟨ps_ret he.pe, fun σ H env h bs E er hr p => he.sim.stepS er hr p fun a b bs1 H1 h1 e1 hr1 er1 ra p1 => p1 bs1 H1 b .refl hr1 ra⟩
def sRetN : En → Hs → S := fun _ h => .ret .non h
theorem sj_retN : SJ ci X W (.Return none pos) tRetN sRetN := ⟨ps_retN, fun σ H env h bs E er hr p => p bs H .non .refl hr .non⟩
def sIf (c : En → Hs → R Bool) (f k : En → Hs → S) : En → Hs → S := fun env h => (c env h).toS env fun b h1 => if b = true then f env h1 else k env h1
theorem sj_if (hc : TJ ci X W c tc fc) (ha : SsJ ci X W sa t f) (hb : SsJ ci X W sb u k) : SJ ci X W (.If c sa sb pos) (tIfS tc t u) (sIf fc f k) :=
  ⟨ps_if hc.pt ha.pss hb.pss, fun σ H env h bs E er hr p => hc.sim.stepS er hr p fun x vx bs1 H1 h1 e1 hr1 er1 rx p1 => by
    cases (show vx = x from rx)
    cases x with
    | true => rw [if_pos rfl] at p1 ⊢; exact ha.sim _ _ _ _ _ _ er1 hr1 p1
    | false => rw [if_neg Bool.false_ne_true] at p1 ⊢; exact hb.sim _ _ _ _ _ _ er1 hr1 p1⟩
end
/-! ### targets -/
def SimG (g : G) (t : TG) (f : D → En → Option En) (js : List Nat) : Prop :=
  ∀ (v : V) (d : D) (σ : St) (H : Hp) (env env' : En) (h : Hs) (bs : List Addr) (Q : St → Hp → Prop), Rep g bs H d v → ERel g bs H env σ → HRel g bs h H → f d env = some env' →
    (∀ σ', ERel g bs H env' σ' → (∀ vs, (∀ j ∈ js, j ∈ vs) → wipe σ' vs = wipe σ vs) → Q σ' H) → t v σ H Q
def SimGs (g : G) (t : TGs) (f : List D → En → Option En) (js : List Nat) : Prop :=
  ∀ (vs : List V) (ds : List D) (σ : St) (H : Hp) (env env' : En) (h : Hs) (bs : List Addr) (Q : St → Hp → Prop), Reps g bs H ds vs → ERel g bs H env σ → HRel g bs h H → f ds env = some env' →
    (∀ σ', ERel g bs H env' σ' → (∀ vs, (∀ j ∈ js, j ∈ vs) → wipe σ' vs = wipe σ vs) → Q σ' H) → t vs σ H Q
structure GJ (ci : Nat → String × List String) (X : Cx) (e : Expr) (t : TG) (f : D → En → Option En) (js : List Nat) : Prop where
  pg : PG X e t
  sim : SimG (X.g ci) t f js
structure GsJ (ci : Nat → String × List String) (X : Cx) (es : List Expr) (t : TGs) (f : List D → En → Option En) (js : List Nat) : Prop where
  pgs : PGs X es t
  sim : SimGs (X.g ci) t f js
def kName (i : Nat) : D → En → Option En := fun d env => some (env.set i (some d))
def ksNil : List D → En → Option En := fun ds env => match ds with
  | [] => some env
  | _ => none
def ksCons (f : D → En → Option En) (k : List D → En → Option En) : List D → En → Option En := fun ds env => match ds with
  | d :: ds => match f d env with
    | some env1 => k ds env1
    | none => none
  | [] => none
def kTup (n : Nat) (k : List D → En → Option En) : D → En → Option En := fun d env => match d with
  | .tup ds => if ds.length = n then k ds env else none
  | _ => none
theorem ERel.set {g : G} {bs : List Addr} {H : Hp} {env : En} {σ : St} {d : D} {v : V} (er : ERel g bs H env σ) (r : Rep g bs H d v) (i : Nat) : ERel g bs H (env.set i (some d)) (σ.set i (some v)) := by
  refine ⟨by rw [List.length_set, List.length_set]; exact er.len, fun j d' e => ?_⟩
  by_cases hj : i = j
  · subst hj
    by_cases hi : i < env.length
    · rw [List.getElem?_set_self hi] at e
      cases e
      exact ⟨v, by rw [List.getElem?_set_self (by rw [← er.len]; exact hi)], r⟩
    · rw [List.getElem?_eq_none (by rw [List.length_set]; omega)] at e; cases e
  · rw [List.getElem?_set_ne hj] at e ⊢
    exact er.at_ j d' e
theorem wipe_set {σ : St} {i : Nat} {v : Option V} : ∀ {vs : List Nat}, i ∈ vs → wipe (σ.set i v) vs = wipe σ vs
  | w :: vs, h => by
    unfold wipe
    by_cases hi : i ∈ vs
    · rw [wipe_set hi]
    · have e : i = w := by
        rcases List.mem_cons.mp h with z | z
        · exact z
        · exact absurd z hi
      subst e
      have key : ∀ (us : List Nat), i ∉ us → wipe (σ.set i v) us = (wipe σ us).set i v := by
        intro us
        induction us with
        | nil => intro _; rfl
        | cons u us ih =>
          intro hu
          have h1 : i ≠ u := fun z => hu (by rw [z]; exact List.mem_cons_self)
          unfold wipe
          rw [ih (fun z => hu (List.mem_cons_of_mem _ z)), List.set_comm _ _ h1]
      rw [key vs hi, List.set_set]
section
variable {ci : Nat → String × List String} {X : Cx} {W : WX} {pos : Pos}
theorem gj_name (i : Nat) {x : Str} (hN : X.N.Nodup) (hi : X.N[i]? = some x := by rfl) (hx : Loc X.env.scope x := by first | exact Or.inl rfl | exact Or.inr rfl) (hf : X.fn x = true ∨ X.env.scope.names.lookup x = some .local := by first | exact .inl rfl | exact .inr rfl | assumption) : GJ ci X (.Name x pos) (gName i) (kName i) [i] :=
  ⟨pg_name hN hi hx hf, fun v d σ H env env' h bs Q r er hr e k => by
    cases e
    exact k _ (er.set r i) fun vs hv => wipe_set (hv i (by simp))⟩
theorem gsj_nil : GsJ ci X [] gNil ksNil [] :=
  ⟨pgs_nil, fun vs ds σ H env env' h bs Q r er hr e k => by
    cases r with
    | nil => cases e; exact ⟨rfl, k _ er fun _ _ => rfl⟩
    | cons => cases e⟩
theorem gsj_cons {e : Expr} {es : List Expr} {t : TG} {u : TGs} {f : D → En → Option En} {k : List D → En → Option En} {js ks : List Nat} (h1 : GJ ci X e t f js) (h2 : GsJ ci X es u k ks)
    (hs : (assignEach (e :: es) X.env).map (·.2) = assign e X.env :: (assignEach es X.env).map (·.2) := by rfl) : GsJ ci X (e :: es) (gCons t u) (ksCons f k) (js ++ ks) :=
  ⟨pgs_cons h1.pg h2.pgs hs, fun vs ds σ H env env' h bs Q r er hr e kk => by
    cases r with
    | nil => cases e
    | cons r1 r2 =>
      unfold ksCons at e
      dsimp only at e
      split at e
      · rename_i env1 he1
        refine ⟨_, _, rfl, h1.sim _ _ σ H env env1 h bs _ r1 er hr he1 fun σ1 er1 hw1 => ?_⟩
        exact h2.sim _ _ σ1 H env1 env' h bs _ r2 er1 hr e fun σ2 er2 hw2 => kk σ2 er2 fun vs hv => (hw2 vs fun j hj => hv j (List.mem_append_right _ hj)).trans (hw1 vs fun j hj => hv j (List.mem_append_left _ hj))
      · cases e⟩
theorem gj_tup {es : List Expr} {k : Nat} {t : TGs} {n : Nat} {f : List D → En → Option En} {js : List Nat} (hc : X.calm = true) (h : GsJ ci X es t f js)
    (hn : (assignEach es X.env).length = n := by rfl) (hst : (assignEach es X.env).findIdx? (·.1) = none := by rfl) : GJ ci X (.Tuple es k pos) (gTup X.K n t) (kTup n f) js :=
  ⟨pg_tup hc h.pgs hn hst, fun v d σ H env env' hh bs Q r er hr e kk => by
    unfold kTup at e
    split at e
    · split at e
      · rename_i hl
        cases r with
        | @tup a vs ds t rs => exact ⟨a, vs, rfl, t.sq, by rw [← rs.length]; exact hl, h.sim _ _ σ H env env' hh bs _ rs er hr e kk⟩
      · cases e
    · cases e⟩
/-- target = e -/
def sAsg (fe : En → Hs → R D) (k : D → En → Option En) : En → Hs → S := fun env h => (fe env h).toS env fun d h1 => match k d env with
  | some env1 => .nx env1 h1
  | none => .bad
variable {e tg : Expr} {te : TE} {fe : En → Hs → R D} {t : TG} {k : D → En → Option En} {js : List Nat}
theorem sim_asg {g : G} (he : Sim (relV g) g W te fe) (hg : SimG g t k js) : SimS g W (tAsg te t) (sAsg fe k) :=
  fun σ H env h bs E er hr p => he.stepS er hr p fun a b bs1 H1 h1 e1 hr1 er1 ra p1 => by
    split at p1
    · rename_i env1 hk
      exact hg b a σ H1 env env1 h1 bs1 _ ra er1 hr1 hk fun σ' er' _ => p1 bs1 H1 σ' .refl hr1 er'
    · exact p1.elim
theorem sj_asg (he : EJ ci X W e te fe) (hg : GJ ci X tg t k js) (hs : swapsWithSole [tg] e pos.line X.env = pure false := by rfl) (hw : swappedStores [tg] e X.env = pure none := by rfl)
    (h1 : (assignEach [tg] X.env).map (·.2) = [assign tg X.env] := by rfl) : SJ ci X W (.Assign [tg] e pos) (tAsg te t) (sAsg fe k) := ⟨ps_asg he.pe hg.pg hs hw h1, sim_asg he.sim hg.sim⟩
/-- name = e -/
theorem sj_set (i : Nat) {x : Str} {pos' : Pos} (hN : X.N.Nodup) (he : EJ ci X W e te fe) (hi : X.N[i]? = some x := by rfl) (hx : Loc X.env.scope x := by first | exact Or.inl rfl | exact Or.inr rfl) (hs : swapsWith e (some (.Name x pos')) pos.line X.env = pure false := by rfl)
    (hf : X.fn x = true ∨ X.env.scope.names.lookup x = some .local := by first | exact .inl rfl | exact .inr rfl | assumption) : SJ ci X W (.Assign [.Name x pos'] e pos) (tAsg te (gName i)) (sAsg fe (kName i)) :=
  ⟨ps_set hN hi hx he.pe hs hf, sim_asg he.sim (gj_name (X := X) (pos := pos') i hN hi hx hf).sim⟩
/-- a, b = e1, e2 -/
def sPar (i j : Nat) (fa : En → Hs → R (List D)) : En → Hs → S := fun env h => (fa env h).toS env fun xs h1 => match xs with
  | [x, y] => .nx ((env.set i (some x)).set j (some y)) h1
  | _ => .bad
theorem sj_par {i j : Nat} {x y : Str} {a b : Expr} {ta : TA} {fa : En → Hs → R (List D)} {px py pt : Pos} {kt k2 pt2} (hc : X.calm = true) (hN : X.N.Nodup) (ha : AJ ci X W [a, b] ta fa)
    (hi : X.N[i]? = some x := by rfl) (hj : X.N[j]? = some y := by rfl) (hij : i ≠ j := by decide)
    (hx : X.env.scope.names.lookup x = some .local := by rfl) (hy : X.env.scope.names.lookup y = some .local := by rfl)
    (hw : swappedStores [.Tuple [.Name x px, .Name y py] kt pt] (.Tuple [a, b] k2 pt2) X.env = pure (some [x, y]) := by rfl)
    (hs : swapsWithSole [.Tuple [.Name x px, .Name y py] kt pt] (.Tuple [a, b] k2 pt2) pos.line X.env = pure false := by rfl) :
    SJ ci X W (.Assign [.Tuple [.Name x px, .Name y py] kt pt] (.Tuple [a, b] k2 pt2) pos) (tPar i j ta) (sPar i j fa) :=
  ⟨ps_par hc hN hi hj hij hx hy ha.pa hw hs, fun σ H env h bs E er hr p => ha.sim.stepS er hr p fun xs vs bs1 H1 h1 e1 hr1 er1 rs p1 => by
    split at p1
    · cases rs with
      | cons r1 t =>
        cases t with
        | cons r2 t =>
          cases t
          exact ⟨_, _, rfl, p1 bs1 H1 _ .refl hr1 ((er1.set r1 i).set r2 j)⟩
    · exact p1.elim⟩
/-- x op= e of whole numbers -/
def sAugI (i : Nat) (op : Int → Int → Int) (fe : En → Hs → R D) : En → Hs → S := fun env h => match env[i]? with
  | some (some (.int a)) => (fe env h).toS env fun y h1 => match y with
    | .int b => .nx (env.set i (some (.int (op a b)))) h1
    | _ => .bad
  | _ => .bad
theorem sj_aug (i : Nat) {x : Str} {op : Operator} {f : Int → Int → Int} {pos' : Pos} (hN : X.N.Nodup) (ho : PIp X op (ipI f)) (he : EJ ci X W e te fe) (hi : X.N[i]? = some x := by rfl) (hx : Loc X.env.scope x := by first | exact Or.inl rfl | exact Or.inr rfl)
    (hf : X.fn x = true ∨ X.env.scope.names.lookup x = some .local := by first | exact .inl rfl | exact .inr rfl | assumption) : SJ ci X W (.AugAssign (.Name x pos') op e pos) (tAug i te (ipI f)) (sAugI i f fe) :=
  ⟨ps_aug hN hi hx he.pe ho hf, fun σ H env h bs E er hr p => by
    unfold sAugI at p
    split at p
    · rename_i a ha
      obtain ⟨v, hv, r⟩ := er.at_ i _ ha
      cases r
      refine ⟨_, hv, he.sim.stepS er hr p fun y vy bs1 H1 h1 e1 hr1 er1 ry p1 => ?_⟩
      split at p1
      · cases ry
        exact ⟨_, _, rfl, rfl, p1 bs1 H1 _ .refl hr1 (er1.set (.int _) i)⟩
      · exact p1.elim
    · exact p.elim⟩
end
/-! ### cells written -/
theorem Ext.cell {g : G} {bs : List Addr} {h : Hs} {H : Hp} {n : Nat} {a : Addr} {o : HO} (hr : HRel g bs h H) (hb : bs[n]? = some a) : Ext bs H bs (upd H a o) :=
  ⟨⟨[], by simp, fun _ z => nomatch z⟩, fun b u hu hn => by rw [upd_ne (fun z => hn (by rw [z]; exact List.mem_of_getElem? hb))]; exact hu, fun b u hu => by
    by_cases hz : b = a
    · exact ⟨o, by rw [hz, upd_same]⟩
    · exact ⟨u, by rw [upd_ne hz]; exact hu⟩⟩
theorem HRel.cell {g : G} {bs : List Addr} {h : Hs} {H : Hp} {n : Nat} {a : Addr} {ho : HO} {o : O} (hr : HRel g bs h H) (hb : bs[n]? = some a) (ro : RepO g bs (upd H a ho) a o) : HRel g bs (h.set n o) (upd H a ho) := by
  refine ⟨by rw [List.length_set]; exact hr.len, hr.nd, fun i o' hi => ?_⟩
  by_cases hj : n = i
  · subst hj
    have hl : n < h.length := by rw [← hr.len]; exact (List.getElem?_eq_some_iff.mp hb).1
    rw [List.getElem?_set_self hl] at hi
    cases hi
    exact ⟨a, hb, ro⟩
  · rw [List.getElem?_set_ne hj] at hi
    obtain ⟨b, h1, h2⟩ := hr.at_ i o' hi
    have hne : b ≠ a := by
      intro z
      subst z
      obtain ⟨l1, e1⟩ := List.getElem?_eq_some_iff.mp h1
      obtain ⟨l2, e2⟩ := List.getElem?_eq_some_iff.mp hb
      exact hj ((List.getElem_inj hr.nd).mp (e2.trans e1.symm))
    exact ⟨b, h1, h2.mono (.cell hr hb) (upd_ne hne)⟩
section
variable {ci : Nat → String × List String} {X : Cx} {W : WX} {pos : Pos} {o i v : Expr} {to ti tv : TE} {fo fi fv : En → Hs → R D}
/-- o[i] = v, o a list that may be changed -/
def setIx (x y z : D) (h : Hs) : Option Hs := match x, y with
  | .ref n, .int k => match cellL h n with
    | some xs => match ixN xs.length k with
      | some j => some (h.set n (.lst (xs.set j z)))
      | none => none
    | none => none
  | _, _ => none
def sSetIx (fo fi fv : En → Hs → R D) : En → Hs → S := fun env h => (fv env h).toS env fun z h1 => (fo env h1).toS env fun x h2 => (fi env h2).toS env fun y h3 => match setIx x y z h3 with
  | some h4 => .nx env h4
  | none => .bad
theorem setIx_ok {g : G} {bs : List Addr} {h h4 : Hs} {H : Hp} {x y z : D} {vx vy vz : V} {Q : Hp → Prop} (hr : HRel g bs h H) (rx : Rep g bs H x vx) (ry : Rep g bs H y vy) (rz : Rep g bs H z vz) (e : setIx x y z h = some h4)
    (k : ∀ H', Ext bs H bs H' → HRel g bs h4 H' → Q H') : rSetL vx vy vz H Q := by
  unfold setIx at e
  split at e
  · rename_i n i
    split at e
    · rename_i xs hx
      split at e
      · rename_i j hj
        cases e
        cases rx with
        | @ref _ a hb =>
          cases ry
          obtain ⟨vs, h1, h2⟩ := cell_ok hr hb hx
          refine ⟨a, vs, i, j, rfl, rfl, h1, by rw [← h2.length]; exact hj, k _ (.cell hr hb) (hr.cell hb ⟨_, upd_same, ?_⟩)⟩
          exact (h2.set rz j).mono (.cell hr hb)
      · cases e
    · cases e
  · cases e
theorem sj_setIx {spos : Pos} (hv : EJ ci X W v tv fv) (ho : EJ ci X W o to fo) (hi : EJ ci X W i ti fi)
    (ha : ∀ v, assign (.Subscript o i spos) X.env v = (do
      let ov ← holding [v] (eval o X.env)
      let iv ← holding [v, ov] (eval i X.env)
      standAt spos
      holding [v, ov, iv] (setItem ov iv v)
      release [v, ov, iv] []) := by intro _; rfl)
    (hs : swapsWithSole [.Subscript o i spos] v pos.line X.env = pure false := by rfl) (hw : swappedStores [.Subscript o i spos] v X.env = pure none := by rfl)
    (h1 : (assignEach [.Subscript o i spos] X.env).map (·.2) = [assign (.Subscript o i spos) X.env] := by rfl) :
    SJ ci X W (.Assign [.Subscript o i spos] v pos) (tAsg tv (gSub to ti rSetL)) (sSetIx fo fi fv) :=
  ⟨ps_asg hv.pe (pg_sub ho.pe hi.pe set_list ha) hs hw h1, fun σ H env h bs E er hr p => hv.sim.stepS er hr p fun z vz bs1 H1 h1 e1 hr1 er1 rz p1 => ho.sim.stepS er1 hr1 p1 fun x vx bs2 H2 h2 e2 hr2 er2 rx p2 => hi.sim.stepS er2 hr2 p2 fun y vy bs3 H3 h3 e3 hr3 er3 ry p3 => by
    split at p3
    · rename_i h4 hh
      exact setIx_ok hr3 (rx.mono e3) ry ((rz.mono e2).mono e3) hh fun H' e hr' => p3 bs3 H' σ e hr' (er3.mono e)
    · exact p3.elim⟩
end
/-! ### methods of built-in types -/
inductive TyK where
  | list | str
def TyK.name : TyK → String
  | .list => "list"
  | .str => "str"
def tyOk (T : TyK) (x : D) (h : Hs) : Bool := match T with
  | .list => (rdL h x).isSome
  | .str => match x with
    | .str _ => true
    | _ => false
theorem tyOk_ok {g : G} {bs : List Addr} {h : Hs} {H : Hp} {T : TyK} {x : D} {v : V} (hr : HRel g bs h H) (r : Rep g bs H x v) (e : tyOk T x h = true) : tyV g.K T.name v H := by
  cases T with
  | list =>
    obtain ⟨xs, hx⟩ := Option.isSome_iff_exists.mp (show (rdL h x).isSome = true from e)
    obtain ⟨a, vs, rfl, hs, _⟩ := rdL_ok hr r hx
    exact .inl ⟨rfl, vs, hs⟩
  | str => cases r <;> first | rfl | cases e
structure MJ (g : G) (r : V → List V → Hp → VK → Prop) (f : D → List D → Hs → R D) : Prop where
  run : ∀ (W : Value → Option Addr → Hp → Prop) (bs : List Addr) (h : Hs) (H : Hp) (x : D) (vx : V) (xs : List D) (vs : List V) (Q : VK), HRel g bs h H → Rep g bs H x vx → Reps g bs H xs vs → Post (relV g) g W bs H (f x xs h) Q → r vx vs H Q
def eBM (T : TyK) (op : D → List D → Hs → R D) (fo : En → Hs → R D) (fa : En → Hs → R (List D)) : En → Hs → R D := fun env h => (fo env h).bind fun x h1 => if tyOk T x h1 = true then (fa env h1).bind fun xs h2 => op x xs h2 else .bad
def eBM0 (T : TyK) (op : D → List D → Hs → R D) (fo : En → Hs → R D) : En → Hs → R D := fun env h => (fo env h).bind fun x h1 => if tyOk T x h1 = true then op x [] h1 else .bad
section
variable {ci : Nat → String × List String} {X : Cx} {W : WX} {o e : Expr} {es : List Expr} {to : TE} {t : TA} {fo : En → Hs → R D} {fa : En → Hs → R (List D)} {name : Str} {apos cpos : Pos} {id : String} {r : V → List V → Hp → VK → Prop} {f : D → List D → Hs → R D}
theorem ej_bm (T : TyK) (pa : PlainAttrs T.name) (slot : PySem.Slot T.name name id) (hty : typeOf (.builtin id) = pure (.type "method_descriptor")) (hm : MtR X id r) (hj : MJ (X.g ci) r f) (ho : EJ ci X W o to fo) (ha : AJ ci X W (e :: es) t fa)
    (hbase : attributeBase o name X.env (eval o X.env) = eval o X.env := by rfl)
    (hfew : ((backTo cpos (starEach (e :: es) X.env)).all (fun x => !x.1) && (backToKw cpos (keywordEach [] X.env)).all (fun x => x.1.isSome)
      && decide ((e :: es).length + ([] : List Keyword).length + (if ([] : List Keyword).isEmpty then 0 else 1) < 30)) = true := by rfl)
    (hline : (apos.endLine == cpos.line) = true := by rfl) (hs : starEach (e :: es) X.env = (false, eval e X.env) :: starEach es X.env := by rfl) (hplain : (backTo cpos (starEach es X.env)).any (·.1) = false := by rfl) :
    EJ ci X W (.Call (.Attribute o name apos) (e :: es) [] cpos) (tBM X.K T.name r to t) (eBM T f fo fa) :=
  ⟨pe_bm pa slot hty hm ho.pe ha.pa hbase hfew hline hs hplain, fun σ H env h bs Q er hr p => ho.sim.step er hr p fun x vx bs1 H1 h1 e1 hr1 er1 rx p1 => by
    split at p1
    · rename_i hty'
      exact ⟨tyOk_ok hr1 rx hty', ha.sim.step er1 hr1 p1 fun xs vs bs2 H2 h2 e2 hr2 er2 rs p2 => hj.run _ bs2 h2 H2 x vx xs vs Q hr2 (rx.mono e2) rs p2⟩
    · exact p1.elim⟩
theorem ej_bm0 (T : TyK) (pa : PlainAttrs T.name) (slot : PySem.Slot T.name name id) (hty : typeOf (.builtin id) = pure (.type "method_descriptor")) (hm : MtR X id r) (hj : MJ (X.g ci) r f) (ho : EJ ci X W o to fo)
    (hbase : attributeBase o name X.env (eval o X.env) = eval o X.env := by rfl) (hline : (apos.endLine == cpos.line) = true := by rfl) :
    EJ ci X W (.Call (.Attribute o name apos) [] [] cpos) (tBM0 X.K T.name r to) (eBM0 T f fo) :=
  ⟨pe_bm0 pa slot hty hm ho.pe hbase hline, fun σ H env h bs Q er hr p => ho.sim.step er hr p fun x vx bs1 H1 h1 e1 hr1 er1 rx p1 => by
    split at p1
    · rename_i hty'
      exact ⟨tyOk_ok hr1 rx hty', hj.run _ bs1 h1 H1 x vx [] [] Q hr1 rx .nil p1⟩
    · exact p1.elim⟩
end
def appendD (x : D) (xs : List D) (h : Hs) : R D := match x, xs with
  | .ref n, [y] => match cellL h n with
    | some ys => if ys.length < big then .ok .non (h.set n (.lst (ys ++ [y]))) else .bad
    | none => .bad
  | _, _ => .bad
theorem post_cell {g : G} {bs : List Addr} {h : Hs} {H : Hp} {n : Nat} {a : Addr} {ds : List D} {vs : List V} {d : D} {v : V} {W : Value → Option Addr → Hp → Prop} {Q : VK} (hr : HRel g bs h H) (hb : bs[n]? = some a) (rs : Reps g bs H ds vs) (r : Rep g bs H d v)
    (p : Post (relV g) g W bs H (.ok d (h.set n (.lst ds))) Q) : Q v (upd H a (.lst vs)) :=
  p bs _ v (.cell hr hb) (hr.cell hb ⟨vs, upd_same, rs.mono (.cell hr hb)⟩) (r.mono (.cell hr hb))
theorem mj_append {g : G} : MJ g rAppend appendD := by
  refine ⟨fun W bs h H x vx xs vs Q hr rx rs p => ?_⟩
  unfold appendD at p
  split at p
  · split at p
    · rename_i ys hy
      split at p
      · rename_i hl
        cases rx with
        | @ref _ a hb =>
          cases rs with
          | cons r t =>
            cases t
            obtain ⟨us, h1, h2⟩ := cell_ok hr hb hy
            exact ⟨a, us, _, rfl, rfl, h1, by rw [← h2.length, big_eq]; exact hl, post_cell hr hb (h2.append (.cons r .nil)) .non p⟩
      · exact p.elim
    · exact p.elim
  · exact p.elim
def extendD (x : D) (xs : List D) (h : Hs) : R D := match x, xs with
  | .ref n, [y] => match cellL h n, ownL h y with
    | some ys, some zs => if ys.length + zs.length ≤ big then .ok .non (h.set n (.lst (ys ++ zs))) else .bad
    | _, _ => .bad
  | _, _ => .bad
theorem mj_extend {g : G} : MJ g rExtend extendD := by
  refine ⟨fun W bs h H x vx xs vs Q hr rx rs p => ?_⟩
  unfold extendD at p
  split at p
  · split at p
    · rename_i ys zs hy hz
      split at p
      · rename_i hl
        cases rx with
        | @ref _ a hb =>
          cases rs with
          | cons r t =>
            cases t
            obtain ⟨us, h1, h2⟩ := cell_ok hr hb hy
            obtain ⟨b, ws, rfl, h3, h4⟩ := ownL_ok hr r hz
            exact ⟨a, b, us, ws, rfl, rfl, h1, h3, by rw [← h2.length, ← h4.length, big_eq]; exact hl, post_cell hr hb (h2.append h4) .non p⟩
      · exact p.elim
    · exact p.elim
  · exact p.elim
def popD (x : D) (xs : List D) (h : Hs) : R D := match x, xs with
  | .ref n, [] => match cellL h n with
    | some ys => match ys[ys.length - 1]? with
      | some y => .ok y (h.set n (.lst ys.dropLast))
      | none => .bad
    | none => .bad
  | _, _ => .bad
theorem Reps.dropLast {g : G} {bs : List Addr} {H : Hp} {ds : List D} {vs : List V} (r : Reps g bs H ds vs) : Reps g bs H ds.dropLast vs.dropLast := by
  rw [List.dropLast_eq_take, List.dropLast_eq_take, ← r.length]
  exact r.take _
theorem mj_pop {g : G} : MJ g rPop popD := by
  refine ⟨fun W bs h H x vx xs vs Q hr rx rs p => ?_⟩
  unfold popD at p
  split at p
  · split at p
    · rename_i ys hy
      split at p
      · rename_i y hl
        cases rx with
        | @ref _ a hb =>
          cases rs
          obtain ⟨us, h1, h2⟩ := cell_ok hr hb hy
          obtain ⟨v, h3, h4⟩ := h2.get hl
          exact ⟨a, us, v, rfl, rfl, h1, by rw [← h2.length]; exact h3, post_cell hr hb h2.dropLast h4 p⟩
      · exact p.elim
    · exact p.elim
  · exact p.elim

/-! ### while -/
def whileN (c : En → Hs → R Bool) (f : En → Hs → S) : Nat → En → Hs → S
  | 0, _, _ => .bad
  | n + 1, env, h => (c env h).toS env fun b h1 => if b = true then (match f env h1 with
    | .nx env2 h2 => whileN c f n env2 h2
    | .ct env2 h2 => whileN c f n env2 h2
    | .brk env2 h2 => .nx env2 h2
    | .ret d h2 => .ret d h2
    | .err k fs env2 h2 => .err k fs env2 h2
    | .bad => .bad) else .nx env h1
theorem whileN_succ (c : En → Hs → R Bool) (f : En → Hs → S) : ∀ (n : Nat) (env : En) (h : Hs), whileN c f n env h ≠ .bad → whileN c f (n + 1) env h = whileN c f n env h
  | 0, env, h, hn => absurd rfl hn
  | n + 1, env, h, hn => by
    rw [whileN]
    conv => rhs; rw [whileN]
    rw [whileN] at hn
    cases hc : c env h with
    | bad => rfl
    | err k fs h1 => rfl
    | ok b h1 =>
      rw [hc] at hn
      simp only [R.toS_ok] at hn ⊢
      cases b with
      | false => rfl
      | true =>
        simp only [if_true] at hn ⊢
        cases hf : f env h1 with
        | nx env2 h2 => rw [hf] at hn; exact whileN_succ c f n env2 h2 hn
        | ct env2 h2 => rw [hf] at hn; exact whileN_succ c f n env2 h2 hn
        | _ => rfl
theorem whileN_le (c : En → Hs → R Bool) (f : En → Hs → S) {m n : Nat} (hmn : m ≤ n) {env : En} {h : Hs} (hn : whileN c f m env h ≠ .bad) : whileN c f n env h = whileN c f m env h := by
  induction hmn with
  | refl => rfl
  | step _ ih => rw [whileN_succ c f _ env h (by rw [ih]; exact hn), ih]
open Classical in
noncomputable def sWhile (c : En → Hs → R Bool) (f : En → Hs → S) : En → Hs → S := fun env h => if e : ∃ n, whileN c f n env h ≠ .bad then whileN c f e.choose env h else .bad
theorem sWhile_of {c : En → Hs → R Bool} {f : En → Hs → S} {n : Nat} {env : En} {h : Hs} {r : S} (e : whileN c f n env h = r) (hr : r ≠ .bad) : sWhile c f env h = r := by
  have ex : ∃ n, whileN c f n env h ≠ .bad := ⟨n, by rw [e]; exact hr⟩
  unfold sWhile
  rw [dif_pos ex]
  rcases Nat.le_total ex.choose n with hl | hl
  · rw [← whileN_le c f hl ex.choose_spec]; exact e
  · rw [whileN_le c f hl (by rw [e]; exact hr)]; exact e
/-- one turn -/
theorem sWhile_unroll (c : En → Hs → R Bool) (f : En → Hs → S) (env : En) (h : Hs) : sWhile c f env h = (c env h).toS env fun b h1 => if b = true then (match f env h1 with
    | .nx env2 h2 => sWhile c f env2 h2
    | .ct env2 h2 => sWhile c f env2 h2
    | .brk env2 h2 => .nx env2 h2
    | .ret d h2 => .ret d h2
    | .err k fs env2 h2 => .err k fs env2 h2
    | .bad => .bad) else .nx env h1 := by
  have again : ∀ (env2 : En) (h2 : Hs), (∀ n, whileN c f (n + 1) env h = whileN c f n env2 h2) → sWhile c f env h = sWhile c f env2 h2 := fun env2 h2 k => by
    by_cases e : ∃ n, whileN c f n env2 h2 ≠ .bad
    · obtain ⟨n, hn⟩ := e
      rw [sWhile_of (n := n) rfl hn, sWhile_of (n := n + 1) (k n) hn]
    · have e1 : ¬ ∃ n, whileN c f n env h ≠ .bad := fun ⟨n, hn⟩ => e (by
        cases n with
        | zero => exact absurd rfl hn
        | succ n => exact ⟨n, by rw [← k n]; exact hn⟩)
      unfold sWhile
      rw [dif_neg e, dif_neg e1]
  have at1 : ∀ (r : S), (∀ n, whileN c f (n + 1) env h = r) → sWhile c f env h = r := fun r k => by
    by_cases hr : r = .bad
    · subst hr
      unfold sWhile
      rw [dif_neg]
      rintro ⟨n, hn⟩
      cases n with
      | zero => exact hn rfl
      | succ n => exact hn (k n)
    · exact sWhile_of (n := 1) (k 0) hr
  cases hc : c env h with
  | bad => exact at1 _ fun n => by rw [whileN, hc]; rfl
  | err k fs h1 => exact at1 _ fun n => by rw [whileN, hc]; rfl
  | ok b h1 =>
    simp only [R.toS_ok]
    cases b with
    | false => exact at1 _ fun n => by rw [whileN, hc]; rfl
    | true =>
      simp only [if_true]
      cases hf : f env h1 with
      | nx env2 h2 => exact again env2 h2 fun n => by rw [whileN, hc]; simp only [R.toS_ok, if_true, hf]
      | ct env2 h2 => exact again env2 h2 fun n => by rw [whileN, hc]; simp only [R.toS_ok, if_true, hf]
      | _ => exact at1 _ fun n => by rw [whileN, hc]; simp only [R.toS_ok, if_true, hf]
section
variable {ci : Nat → String × List String} {X : Cx} {W : WX} {pos : Pos} {c : Expr} {body : List Stmt} {tc : TT} {tb : TS} {fc : En → Hs → R Bool} {fb : En → Hs → S}
theorem sim_while {g : G} (hc : Sim relB g W tc fc) (hb : SimS g W tb fb) : SimS g W (tWhile tc tb) (sWhile fc fb) := by
  intro σ H env h bs E er hr p
  unfold sWhile at p
  split at p
  · rename_i ex
    refine ⟨fun m σ H => ∃ bs env h, ERel g bs H env σ ∧ HRel g bs h H ∧ PostS g W bs H (whileN fc fb m env h) E, ⟨_, bs, env, h, er, hr, p⟩, ?_⟩
    rintro m σ H ⟨bs, env, h, er, hr, p⟩
    cases m with
    | zero => exact p.elim
    | succ m =>
      rw [whileN] at p
      refine hc.stepS er hr p fun x vx bs1 H1 h1 e1 hr1 er1 rx p1 => ?_
      cases (show vx = x from rx)
      cases x with
      | false =>
        rw [if_neg Bool.false_ne_true] at p1 ⊢
        exact p1 bs1 H1 σ .refl hr1 er1
      | true =>
        rw [if_pos rfl] at p1 ⊢
        refine ⟨fun σ' H' => ∃ bs env h, ERel g bs H' env σ' ∧ HRel g bs h H' ∧ PostS g W bs H' (whileN fc fb m env h) E, fun σ' H' z => ⟨m, Nat.lt_succ_self _, z⟩, ?_⟩
        refine hb σ H1 env h1 bs1 _ er1 hr1 ?_
        cases hf : fb env h1 with
        | nx env2 h2 => rw [hf] at p1; exact fun bs' H' σ' e r er' => ⟨bs', env2, h2, er', r, PostS.mono e p1⟩
        | ct env2 h2 => rw [hf] at p1; exact fun bs' H' σ' e r er' => ⟨bs', env2, h2, er', r, PostS.mono e p1⟩
        | brk env2 h2 => rw [hf] at p1; exact p1
        | ret d h2 => rw [hf] at p1; exact p1
        | err k fs env2 h2 => rw [hf] at p1; exact p1
        | bad => rw [hf] at p1; exact p1
  · exact p.elim
theorem sj_while (hp : PassesOwn (model X.prog X.w) X.A X.env X.xe) (hc : TJ ci X W c tc fc) (hb : SsJ ci X W body tb fb) : SJ ci X W (.While c body [] pos) (tWhile tc tb) (sWhile fc fb) :=
  ⟨ps_while hp hc.pt hb.pss, sim_while hc.sim hb.sim⟩
end
end Ev
set_option Elab.async false
set_option linter.all false
set_option maxRecDepth 100000
set_option maxHeartbeats 4000000
namespace Ev
open PySem L2

/-! ### what is walked -/
/-- the cells that are walked stay as they are -/
def Kept : List (Nat × O) → Hs → Prop
  | [], _ => True
  | p :: ps, h => (match p.2 with
    | .lst xs => cellL h p.1 = some xs
    | o => h[p.1]? = some o) ∧ Kept ps h
@[simp] theorem Kept_nil (h : Hs) : Kept [] h = True := rfl
@[simp] theorem Kept_cons (n : Nat) (xs : List D) (ps : List (Nat × O)) (h : Hs) : Kept ((n, .lst xs) :: ps) h = (cellL h n = some xs ∧ Kept ps h) := rfl
@[simp] theorem Kept_lk (n : Nat) (od : Obj) (u : HO) (o : O) (ps : List (Nat × O)) (h : Hs) : Kept ((n, .lk od u o) :: ps) h = (h[n]? = some (.lk od u o) ∧ Kept ps h) := rfl
def Feeds (g : G) (bs0 : List Addr) (H0 : Hp) (J : It) (items : List D) (src : List (Nat × O)) : Prop :=
  ∀ bs h H, Ext bs0 H0 bs H → HRel g bs h H → Kept src h →
    (∀ i d, items[i]? = some d → J.go i H ∧ ∀ x H', J.yld i H x H' → Ext bs H bs H' ∧ HRel g bs h H' ∧ Rep g bs H' d x) ∧ J.stop items.length H
abbrev Src := List D × List (Nat × O)
def relI (g : G) : List Addr → Hp → Src → It → Prop := fun bs H s J => Feeds g bs H J s.1 s.2
structure IJ (ci : Nat → String × List String) (X : Cx) (W : WX) (tg iter : Expr) (wi : TI) (f : En → Hs → R Src) : Prop where
  pi : PI X tg iter wi
  sim : Sim (relI (X.g ci)) (X.g ci) W wi f
def srcD (x : D) (h : Hs) : R Src := match x with
  | .tup xs => .ok (xs, []) h
  | .lst xs => .ok (xs, []) h
  | .rol xs => .ok (xs, []) h
  | .ref n => match cellL h n with
    | some xs => .ok (xs, [(n, .lst xs)]) h
    | none => .bad
  | _ => .bad
def iSeq (fa : En → Hs → R D) : En → Hs → R Src := fun env h => (fa env h).bind srcD
def iSeqT (K : PySem.W.Frag) (te : TE) : TI := fun σ H R => te σ H fun x H1 => ∃ a, x = .ref a ∧ (((∃ xs, SqL K H1 a xs) ∧ R (Itl K a) H1) ∨ ((∃ xs, SqT K H1 a xs) ∧ R (Itt K a) H1))
theorem pi_seq {X : Cx} {tg l : Expr} {tl : TE} (hl : PE X l tl) : PI X tg l (iSeqT X.K tl) := by
  refine ⟨fun pins s σ H R I h => ?_⟩
  refine thn (hl.run pins s σ H _ I h) fun v s1 ⟨x, H1, I1, r1, q1⟩ => ?_
  obtain ⟨a, e, ⟨⟨xs, hq⟩, q⟩ | ⟨⟨xs, hq⟩, q⟩⟩ := q1
  · subst e
    cases r1
    obtain ⟨its, rv, p, hz⟩ := I1.list hq
    refine wpAny_pyIter_list p.isList ?_
    refine ⟨s1.heap.objs.size, [s1.heap.objs.size], _, _, H1, rfl, I1.kept (t' := s1.toks) fun b o e => Heap.get?_push_of_some _ e, turn_list a _, ⟨_, Heap.get?_push_size _ rfl, rfl, rfl⟩, fun b hb => ?_, q⟩
    have e : b = s1.heap.objs.size := by simpa using hb
    subst e
    exact I1.fpOk (Nat.le_refl _) (I1.hok.fresh (Nat.le_refl _))
  · subst e
    cases r1
    obtain ⟨its, rv, p, hz⟩ := I1.tuple hq
    refine wpAny_pyIter_tuple (show s1.heap.IsTuple a its.toArray from p) ?_
    refine ⟨s1.heap.objs.size, [s1.heap.objs.size], _, _, H1, rfl, I1.kept (t' := s1.toks) fun b o e => Heap.get?_push_of_some _ e, turn_tuple a _, ⟨_, Heap.get?_push_size _ rfl, rfl, rfl⟩, fun b hb => ?_, q⟩
    have e : b = s1.heap.objs.size := by simpa using hb
    subst e
    exact I1.fpOk (Nat.le_refl _) (I1.hok.fresh (Nat.le_refl _))
section
variable {g : G} {bs0 : List Addr} {H0 : Hp} {h : Hs}
theorem feeds_L {a : Addr} {xs : List D} {src : List (Nat × O)} (k : ∀ bs h H, Ext bs0 H0 bs H → HRel g bs h H → Kept src h → ∃ vs, SqL g.K H a vs ∧ Reps g bs H xs vs) : Feeds g bs0 H0 (Itl g.K a) xs src := by
  intro bs h H e hr kp
  obtain ⟨vs, hs, rs⟩ := k bs h H e hr kp
  refine ⟨fun i d hi => ?_, ⟨vs, hs, Nat.le_of_eq rs.length.symm⟩⟩
  obtain ⟨v, h1, h2⟩ := rs.get hi
  refine ⟨⟨vs, v, hs, h1⟩, fun x H' y => ?_⟩
  obtain ⟨e1, y⟩ := y
  subst e1
  have e2 := y vs hs
  rw [h1] at e2
  cases e2
  exact ⟨.refl, hr, h2⟩
theorem feeds_T {a : Addr} {xs : List D} {src : List (Nat × O)} (k : ∀ bs h H, Ext bs0 H0 bs H → HRel g bs h H → Kept src h → ∃ vs, SqT g.K H a vs ∧ Reps g bs H xs vs) : Feeds g bs0 H0 (Itt g.K a) xs src := by
  intro bs h H e hr kp
  obtain ⟨vs, hs, rs⟩ := k bs h H e hr kp
  refine ⟨fun i d hi => ?_, ⟨vs, hs, Nat.le_of_eq rs.length.symm⟩⟩
  obtain ⟨v, h1, h2⟩ := rs.get hi
  refine ⟨⟨vs, v, hs, h1⟩, fun x H' y => ?_⟩
  obtain ⟨e1, y⟩ := y
  subst e1
  have e2 := y vs hs
  rw [h1] at e2
  cases e2
  exact ⟨.refl, hr, h2⟩
/-- a list or a tuple that is read, as it stands later -/
theorem later {bs : List Addr} {H : Hp} {h : Hs} {x : D} {v : V} {W : Value → Option Addr → Hp → Prop} {Q : It → Hp → Prop} (hr : HRel g bs h H) (rx : Rep g bs H x v) (p : Post (relI g) g W bs H (srcD x h) Q) :
    ∃ a, v = .ref a ∧ (((∃ xs, SqL g.K H a xs) ∧ Q (Itl g.K a) H) ∨ ((∃ xs, SqT g.K H a xs) ∧ Q (Itt g.K a) H)) := by
  cases rx with
  | lst n hl rs => exact ⟨_, rfl, .inl ⟨⟨_, .of hl⟩, Post.ok_ p hr (feeds_L fun bs' h' H' e hr' _ => ⟨_, .of (e.keep _ _ hl n), rs.mono e⟩)⟩⟩
  | rol hl rs => exact ⟨_, rfl, .inl ⟨⟨_, hl.sq⟩, Post.ok_ p hr (feeds_L fun bs' h' H' e hr' _ => ⟨_, (hl.mono e).sq, rs.mono e⟩)⟩⟩
  | tup t rs => exact ⟨_, rfl, .inr ⟨⟨_, t.sq⟩, Post.ok_ p hr (feeds_T fun bs' h' H' e hr' _ => ⟨_, (t.mono e).sq, rs.mono e⟩)⟩⟩
  | @ref n a hb =>
    have p' : Post (relI g) g W bs H (match cellL h n with
      | some xs => R.ok (xs, [(n, .lst xs)]) h
      | none => R.bad) Q := p
    cases hc : cellL h n with
    | none => rw [hc] at p'; exact p'.elim
    | some ys =>
      rw [hc] at p'
      obtain ⟨vs, h1, h2⟩ := cell_ok hr hb hc
      refine ⟨a, rfl, .inl ⟨⟨vs, .of h1⟩, Post.ok_ p' hr (feeds_L fun bs' h' H' e hr' kp => ?_)⟩⟩
      obtain ⟨us, h3, h4⟩ := cell_ok hr' (e.get hb) kp.1
      exact ⟨us, .of h3, h4⟩
  | _ => exact p.elim
end
section
variable {ci : Nat → String × List String} {X : Cx} {W : WX} {tg e e2 : Expr} {te : TE} {fe : En → Hs → R D} {ta : TA} {fa : En → Hs → R (List D)} {p pos tpos : Pos} {elts : List Expr} {kk : Nat}
theorem ij_seq (he : EJ ci X W e te fe) : IJ ci X W tg e (iSeqT X.K te) (iSeq fe) :=
  ⟨pi_seq he.pe, fun σ H env h bs Q er hr p => he.sim.step er hr p fun x vx bs1 H1 h1 e1 hr1 er1 rx p1 => later hr1 rx p1⟩
theorem rng_ok {i : Int} (h : Nat.ble i.natAbs 4000000000000000000 = true) : -(2 ^ 62) ≤ i ∧ i < 2 ^ 62 := by
  obtain ⟨h1, h2⟩ := nat_ble h
  have e : (2 : Int) ^ 62 = 4611686018427387904 := by simp
  rw [e]
  exact ⟨by omega, by omega⟩
def iRange1 (fa : En → Hs → R (List D)) : En → Hs → R Src := fun env h => (fa env h).bind fun xs h1 => match xs with
  | [.int j] => if Nat.ble j.natAbs 4000000000000000000 = true then .ok ((List.range j.toNat).map fun (i : Nat) => D.int (i : Int), []) h1 else .bad
  | _ => .bad
def iRange2 (fa : En → Hs → R (List D)) : En → Hs → R Src := fun env h => (fa env h).bind fun xs h1 => match xs with
  | [.int i, .int j] => if Nat.ble i.natAbs 4000000000000000000 = true ∧ Nat.ble j.natAbs 4000000000000000000 = true then .ok ((List.range (j - i).toNat).map fun (k : Nat) => D.int (i + (k : Int)), []) h1 else .bad
  | _ => .bad
theorem feeds_R {g : G} {bs0 : List Addr} {H0 : Hp} {lo : Int} {n : Nat} : Feeds g bs0 H0 (Itr lo n) ((List.range n).map fun (k : Nat) => D.int (lo + (k : Int))) [] := by
  intro bs h H e hr kp
  refine ⟨fun i d hi => ?_, by show n ≤ _; simp⟩
  rw [List.getElem?_map] at hi
  by_cases hlt : i < n
  · rw [List.getElem?_range hlt] at hi
    cases hi
    refine ⟨hlt, fun x H' y => ?_⟩
    obtain ⟨e1, e2⟩ := y
    subst e1 e2
    exact ⟨.refl, hr, .int _⟩
  · rw [List.getElem?_eq_none (by simpa using hlt)] at hi; cases hi
theorem ij_range1 (hg : Gl X "range") (hm : X.mg "range" = none) (ha : AJ ci X W [e] ta fa) (hs : starEach [e] X.env = [(false, eval e X.env)] := by rfl) : IJ ci X W tg (.Call (.Name "range" p) [e] [] pos) (iRng1 ta) (iRange1 fa) :=
  ⟨pi_range1 hg hm ha.pa hs, fun σ H env h bs Q er hr p => ha.sim.step er hr p fun xs vs bs1 H1 h1 e1 hr1 er1 rs p1 => by
    split at p1
    · split at p1
      · rename_i hc
        cases rs with
        | cons r t =>
          cases t
          cases r
          refine ⟨_, rfl, (rng_ok hc).1, (rng_ok hc).2, Post.ok_ p1 hr1 ?_⟩
          have z := fun n => feeds_R (g := X.g ci) (bs0 := bs1) (H0 := H1) (lo := 0) (n := n)
          simp only [Int.zero_add] at z
          exact z _
      · exact p1.elim
    · exact p1.elim⟩
theorem ij_range2 (hg : Gl X "range") (hm : X.mg "range" = none) (ha : AJ ci X W [e, e2] ta fa) (hs : starEach [e, e2] X.env = [(false, eval e X.env), (false, eval e2 X.env)] := by rfl) (hs2 : starEach [e2] X.env = [(false, eval e2 X.env)] := by rfl) :
    IJ ci X W tg (.Call (.Name "range" p) [e, e2] [] pos) (iRng2 ta) (iRange2 fa) :=
  ⟨pi_range2 hg hm ha.pa hs hs2, fun σ H env h bs Q er hr p => ha.sim.step er hr p fun xs vs bs1 H1 h1 e1 hr1 er1 rs p1 => by
    split at p1
    · split at p1
      · rename_i hc
        cases rs with
        | cons r t =>
          cases t with
          | cons r2 t =>
            cases t; cases r; cases r2
            exact ⟨_, _, rfl, ⟨(rng_ok hc.1).1, (rng_ok hc.1).2, (rng_ok hc.2).1, (rng_ok hc.2).2⟩, Post.ok_ p1 hr1 feeds_R⟩
      · exact p1.elim
    · exact p1.elim⟩
end

/-! ### enumerate, zip -/
def gOf (x : D) (xs : List D) : List (Nat × O) := match x with
  | .ref n => [(n, .lst xs)]
  | _ => []
theorem later_L {g : G} {bs : List Addr} {H : Hp} {h : Hs} {x : D} {v : V} {xs : List D} (hr : HRel g bs h H) (rx : Rep g bs H x v) (e : rdL h x = some xs) :
    ∃ a, v = .ref a ∧ (∃ vs, SqL g.K H a vs ∧ xs.length = vs.length) ∧ ∀ bs' h' H', Ext bs H bs' H' → HRel g bs' h' H' → Kept (gOf x xs) h' → ∃ vs, SqL g.K H' a vs ∧ Reps g bs' H' xs vs := by
  cases rx with
  | lst n hl rs => cases e; exact ⟨_, rfl, ⟨_, .of hl, rs.length⟩, fun bs' h' H' e hr' _ => ⟨_, .of (e.keep _ _ hl n), rs.mono e⟩⟩
  | rol hl rs => cases e; exact ⟨_, rfl, ⟨_, hl.sq, rs.length⟩, fun bs' h' H' e hr' _ => ⟨_, (hl.mono e).sq, rs.mono e⟩⟩
  | @ref n a hb =>
    obtain ⟨vs, h1, h2⟩ := cell_ok hr hb (show cellL h n = some xs from e)
    refine ⟨a, rfl, ⟨vs, .of h1, h2.length⟩, fun bs' h' H' e hr' kp => ?_⟩
    obtain ⟨us, h3, h4⟩ := cell_ok hr' (e.get hb) kp.1
    exact ⟨us, .of h3, h4⟩
  | _ => cases e
/-- enumerate -/
def enumL (i : Nat) : List D → List D
  | [] => []
  | d :: ds => .tup [.int (i : Int), d] :: enumL (i + 1) ds
theorem enumL_length : ∀ (i : Nat) (ds : List D), (enumL i ds).length = ds.length
  | _, [] => rfl
  | i, _ :: ds => congrArg Nat.succ (enumL_length (i + 1) ds)
theorem enumL_get : ∀ (k : Nat) (ds : List D) (i : Nat) (d : D), (enumL k ds)[i]? = some d → ∃ e, ds[i]? = some e ∧ d = .tup [.int ((k + i : Nat) : Int), e]
  | _, [], _, _, h => by simp [enumL] at h
  | k, e :: ds, 0, d, h => by
    simp [enumL] at h
    exact ⟨e, rfl, by rw [← h]; rfl⟩
  | k, e :: ds, i + 1, d, h => by
    obtain ⟨e', h1, h2⟩ := enumL_get (k + 1) ds i d (by simpa [enumL] using h)
    exact ⟨e', by simpa using h1, by rw [h2, show k + 1 + i = k + (i + 1) by omega]⟩
def iEnumD (fa : En → Hs → R (List D)) : En → Hs → R Src := fun env h => (fa env h).bind fun xs h1 => match xs with
  | [x] => match rdL h1 x with
    | some ys => .ok (enumL 0 ys, gOf x ys) h1
    | none => .bad
  | _ => .bad
theorem feeds_E {g : G} {bs0 : List Addr} {H0 : Hp} {a : Addr} {xs : List D} {src : List (Nat × O)} (k : ∀ bs h H, Ext bs0 H0 bs H → HRel g bs h H → Kept src h → ∃ vs, SqL g.K H a vs ∧ Reps g bs H xs vs) : Feeds g bs0 H0 (Ite g.K a) (enumL 0 xs) src := by
  intro bs h H e hr kp
  obtain ⟨vs, hs, rs⟩ := k bs h H e hr kp
  refine ⟨fun i d hi => ?_, ⟨vs, hs, by rw [enumL_length, rs.length]; exact Nat.le_refl _⟩⟩
  obtain ⟨d', h0, rfl⟩ := enumL_get 0 xs i d hi
  obtain ⟨v, h1, h2⟩ := rs.get h0
  refine ⟨⟨vs, v, hs, h1⟩, fun x H' y => ?_⟩
  obtain ⟨T, z, rfl, hT, rfl, y⟩ := y
  have e2 := y vs hs
  rw [h1] at e2
  cases e2
  refine ⟨.new hT, hr.new hT, .tup (.inl ⟨hr.out hT, .inl upd_same⟩) (.cons ?_ (.cons (h2.mono (.new hT)) .nil))⟩
  rw [Nat.zero_add]
  exact .int _
section
variable {ci : Nat → String × List String} {X : Cx} {W : WX} {tg e e2 : Expr} {ta : TA} {fa : En → Hs → R (List D)} {p pos tpos : Pos} {elts : List Expr} {kk : Nat}
theorem ij_enum (hg : Gl X "enumerate") (hm : X.mg "enumerate" = none) (ha : AJ ci X W [e] ta fa) (hs : starEach [e] X.env = [(false, eval e X.env)] := by rfl) : IJ ci X W (.Tuple elts kk tpos) (.Call (.Name "enumerate" p) [e] [] pos) (iEnum X.K ta) (iEnumD fa) :=
  ⟨pi_enum hg hm ha.pa hs, fun σ H env h bs Q er hr p => ha.sim.step er hr p fun xs vs bs1 H1 h1 e1 hr1 er1 rs p1 => by
    split at p1
    · split at p1
      · rename_i ys hy
        cases rs with
        | cons r t =>
          cases t
          obtain ⟨a, rfl, ⟨vs, h1, _⟩, h2⟩ := later_L hr1 r hy
          exact ⟨a, vs, rfl, h1, Post.ok_ p1 hr1 (feeds_E h2)⟩
      · exact p1.elim
    · exact p1.elim⟩
end
def zipL : List D → List D → List D
  | d :: ds, e :: es => .tup [d, e] :: zipL ds es
  | _, _ => []
theorem zipL_get : ∀ (ds es : List D) (i : Nat) (d : D), (zipL ds es)[i]? = some d → ∃ a b, ds[i]? = some a ∧ es[i]? = some b ∧ d = .tup [a, b]
  | [], _, _, _, h => by simp [zipL] at h
  | _ :: _, [], _, _, h => by simp [zipL] at h
  | a :: ds, b :: es, 0, d, h => by
    simp [zipL] at h
    exact ⟨a, b, rfl, rfl, h.symm⟩
  | a :: ds, b :: es, i + 1, d, h => by
    obtain ⟨x, y, h1, h2, h3⟩ := zipL_get ds es i d (by simpa [zipL] using h)
    exact ⟨x, y, by simpa using h1, by simpa using h2, h3⟩
theorem zipL_length : ∀ (ds es : List D), (zipL ds es).length = min ds.length es.length
  | [], _ => by simp [zipL]
  | _ :: _, [] => by simp [zipL]
  | _ :: ds, _ :: es => by simp [zipL, zipL_length ds es]
def iZipD (fa : En → Hs → R (List D)) : En → Hs → R Src := fun env h => (fa env h).bind fun xs h1 => match xs with
  | [x, y] => match rdL h1 x, rdL h1 y with
    | some xs, some ys => .ok (zipL xs ys, gOf x xs ++ gOf y ys) h1
    | _, _ => .bad
  | _ => .bad
theorem Kept_append {a b : List (Nat × O)} {h : Hs} (k : Kept (a ++ b) h) : Kept a h ∧ Kept b h := by
  induction a with
  | nil => exact ⟨trivial, k⟩
  | cons p ps ih => exact ⟨⟨k.1, (ih k.2).1⟩, (ih k.2).2⟩
section
variable {ci : Nat → String × List String} {X : Cx} {W : WX} {tg e e2 : Expr} {ta : TA} {fa : En → Hs → R (List D)} {p pos tpos : Pos} {elts : List Expr} {kk : Nat}
theorem ij_zip (hg : Gl X "zip") (hm : X.mg "zip" = none) (ha : AJ ci X W [e, e2] ta fa)
    (hs : starEach [e, e2] X.env = (false, eval e X.env) :: starEach [e2] X.env := by rfl) (hpl : (backTo pos (starEach [e2] X.env)).any (·.1) = false := by rfl) : IJ ci X W (.Tuple elts kk tpos) (.Call (.Name "zip" p) [e, e2] [] pos) (iZip X.K ta) (iZipD fa) :=
  ⟨pi_zip hg hm ha.pa hs hpl, fun σ H env h bs Q er hr p => ha.sim.step er hr p fun xs vs bs1 H1 h1 e1 hr1 er1 rs p1 => by
    split at p1
    · split at p1
      · rename_i us ws hu hw
        cases rs with
        | cons r t =>
          cases t with
          | cons r2 t =>
            cases t
            obtain ⟨a, rfl, ⟨vs, h1, l1⟩, k1⟩ := later_L hr1 r hu
            obtain ⟨b, rfl, ⟨zs, h2, l2⟩, k2⟩ := later_L hr1 r2 hw
            refine ⟨a, b, vs, zs, rfl, h1, h2, Post.ok_ p1 hr1 ?_⟩
            intro bs h H e hr kp
            obtain ⟨kp1, kp2⟩ := Kept_append kp
            obtain ⟨v1, s1, r1⟩ := k1 bs h H e hr kp1
            obtain ⟨v2, s2, r2⟩ := k2 bs h H e hr kp2
            refine ⟨fun i d hi => ?_, ⟨v1, v2, s1, s2, by rw [zipL_length, r1.length, r2.length]; omega⟩⟩
            obtain ⟨x, y, hx, hy, rfl⟩ := zipL_get _ _ i d hi
            obtain ⟨vx, g1, g2⟩ := r1.get hx
            obtain ⟨vy, g3, g4⟩ := r2.get hy
            refine ⟨⟨v1, v2, vx, vy, s1, s2, g1, g3⟩, fun z H' q => ?_⟩
            obtain ⟨T, x', y', rfl, hT, rfl, q1, q2⟩ := q
            have e1 := q1 v1 s1
            have e2 := q2 v2 s2
            rw [g1] at e1
            rw [g3] at e2
            cases e1
            cases e2
            exact ⟨.new hT, hr.new hT, .tup (.inl ⟨hr.out hT, .inl upd_same⟩) (.cons (g2.mono (.new hT)) (.cons (g4.mono (.new hT)) .nil))⟩
      · exact p1.elim
    · exact p1.elim⟩
end

/-! ### for -/
open Classical in
noncomputable def forL (gs : List (Nat × O)) (k : D → En → Option En) (f : En → Hs → S) : List D → En → Hs → S
  | [], env, h => if Kept gs h then .nx env h else .bad
  | x :: xs, env, h => if Kept gs h then (match k x env with
    | none => .bad
    | some e1 => match f e1 h with
      | .nx e2 h2 => forL gs k f xs e2 h2
      | .ct e2 h2 => forL gs k f xs e2 h2
      | .brk e2 h2 => .nx e2 h2
      | .ret d h2 => .ret d h2
      | .err c fs e2 h2 => .err c fs e2 h2
      | .bad => .bad) else .bad
noncomputable def sFor (fi : En → Hs → R Src) (k : D → En → Option En) (f : En → Hs → S) : En → Hs → S := fun env h => (fi env h).toS env fun s h1 => forL s.2 k f s.1 env h1
section
variable {ci : Nat → String × List String} {X : Cx} {W : WX} {pos : Pos} {tg iter : Expr} {body : List Stmt} {wi : TI} {t : TG} {tb : TS} {fi : En → Hs → R Src} {k : D → En → Option En} {js : List Nat} {f : En → Hs → S}
theorem sim_for {g : G} (hi : Sim (relI g) g W wi fi) (hg : SimG g t k js) (hb : SimS g W tb f) : SimS g W (tFor wi t tb) (sFor fi k f) := by
  intro σ H env h bs E er hr p
  refine hi.stepS er hr p fun s J bs1 H1 h1 e1 hr1 er1 fd p1 => ?_
  refine ⟨fun i m σ H => m = s.1.length - i ∧ i ≤ s.1.length ∧ ∃ bs env h, Ext bs1 H1 bs H ∧ ERel g bs H env σ ∧ HRel g bs h H ∧ PostS g W bs H (forL s.2 k f (s.1.drop i) env h) E, ⟨_, rfl, Nat.zero_le _, bs1, env, h1, .refl, er1, hr1, p1⟩, ?_⟩
  rintro i m σ H ⟨rfl, hil, bs, env, h, e, er, hr, p⟩
  by_cases hlt : i < s.1.length
  · refine .inr ?_
    rw [List.drop_eq_getElem_cons hlt, forL] at p
    split at p
    · rename_i kp
      obtain ⟨go, yl⟩ := (fd bs h H e hr kp).1 i _ (List.getElem?_eq_getElem hlt)
      refine ⟨go, fun σ' H' => ∃ bs env h, Ext bs1 H1 bs H' ∧ ERel g bs H' env σ' ∧ HRel g bs h H' ∧ PostS g W bs H' (forL s.2 k f (s.1.drop (i + 1)) env h) E, fun σ' H' z => ⟨_, by omega, rfl, hlt, z⟩, fun x H' y => ?_⟩
      obtain ⟨e2, hr2, rx⟩ := yl x H' y
      split at p
      · exact p.elim
      · rename_i env1 hk
        refine hg x _ σ H' env env1 h bs _ rx (er.mono e2) hr2 hk fun σ' er' _ => ?_
        have p2 := PostS.mono e2 p
        refine hb σ' H' env1 h bs _ er' hr2 ?_
        cases hf : f env1 h with
        | nx env2 h2 => rw [hf] at p2; exact fun bs' H2 σ2 e3 r3 er3 => ⟨bs', env2, h2, (e.trans e2).trans e3, er3, r3, PostS.mono e3 p2⟩
        | ct env2 h2 => rw [hf] at p2; exact fun bs' H2 σ2 e3 r3 er3 => ⟨bs', env2, h2, (e.trans e2).trans e3, er3, r3, PostS.mono e3 p2⟩
        | brk env2 h2 => rw [hf] at p2; exact p2
        | ret d h2 => rw [hf] at p2; exact p2
        | err c fs env2 h2 => rw [hf] at p2; exact p2
        | bad => rw [hf] at p2; exact p2
    · exact p.elim
  · have hi : i = s.1.length := by omega
    subst hi
    rw [List.drop_length, forL] at p
    split at p
    · rename_i kp
      exact .inl ⟨(fd bs h H e hr kp).2, p bs H σ .refl hr er⟩
    · exact p.elim
theorem sj_for (hp : PassesOwn (model X.prog X.w) X.A X.env X.xe) (hc : X.calm = true) (hi : IJ ci X W tg iter wi fi) (hg : GJ ci X tg t k js) (hb : SsJ ci X W body tb f)
    (hs : ∀ x, foldedSetIterable iter X.env x = pure x := by intro _; rfl) : SJ ci X W (.For tg iter body [] pos) (tFor wi t tb) (sFor fi k f) :=
  ⟨ps_for hp hc hi.pi hg.pg hb.pss hs, sim_for hi.sim hg.sim hb.sim⟩
end

/-! ### comprehensions -/
mutual
/-- no cell from n on -/
def D.nr (n : Nat) : D → Bool
  | .tup xs => D.nrs n xs
  | .lst xs => D.nrs n xs
  | .rol xs => D.nrs n xs
  | .obj _ xs => D.nrs n xs
  | .dct _ xs => D.nrs n xs
  | .dnt ks xs => D.nrs n ks && D.nrs n xs
  | .ref k => decide (k < n)
  | .non => true
  | .bl _ => true
  | .int _ => true
  | .str _ => true
def D.nrs (n : Nat) : List D → Bool
  | [] => true
  | x :: xs => D.nr n x && D.nrs n xs
end
section
variable {g : G} {bs : List Addr} {H : Hp}
mutual
theorem Rep.nr : ∀ {d : D} {v : V}, Rep g bs H d v → D.nr bs.length d = true
  | _, _, .non => by rw [D.nr]
  | _, _, .bl b => by rw [D.nr]
  | _, _, .int i => by rw [D.nr]
  | _, _, .str h => by rw [D.nr]
  | _, _, .tup h r => by rw [D.nr]; exact Reps.nrs r
  | _, _, .lst n h r => by rw [D.nr]; exact Reps.nrs r
  | _, _, .rol h r => by rw [D.nr]; exact Reps.nrs r
  | _, _, .obj n c h f r => by rw [D.nr]; exact Reps.nrs r
  | _, _, .dct n h f r => by rw [D.nr]; exact Reps.nrs r
  | _, _, .dnt n h f r r2 => by rw [D.nr, Reps.nrs r, Reps.nrs r2]; rfl
  | _, _, .ref h => by rw [D.nr]; exact decide_eq_true (List.getElem?_eq_some_iff.mp h).1
theorem Reps.nrs : ∀ {ds : List D} {vs : List V}, Reps g bs H ds vs → D.nrs bs.length ds = true
  | _, _, .nil => by rw [D.nrs]
  | _, _, .cons r t => by rw [D.nrs, Rep.nr r, Reps.nrs t]; rfl
end
mutual
theorem Rep.shrink {more : List Addr} : ∀ {d : D} {v : V}, Rep g (bs ++ more) H d v → D.nr bs.length d = true → Rep g bs H d v
  | _, _, .non, _ => .non
  | _, _, .bl b, _ => .bl b
  | _, _, .int i, _ => .int i
  | _, _, .str h, _ => .str h
  | _, _, .tup h r, n => .tup (h.elim (fun z => .inl ⟨fun y => z.1 (List.mem_append_left _ y), z.2⟩) .inr) (Reps.shrink r (by rw [D.nr] at n; exact n))
  | _, _, .lst n h r, q => .lst (fun y => n (List.mem_append_left _ y)) h (Reps.shrink r (by rw [D.nr] at q; exact q))
  | _, _, .rol h r, n => .rol (h.elim (fun z => .inl ⟨fun y => z.1 (List.mem_append_left _ y), z.2⟩) .inr) (Reps.shrink r (by rw [D.nr] at n; exact n))
  | _, _, .obj n c h f r, q => .obj (fun y => n (List.mem_append_left _ y)) c h f (Reps.shrink r (by rw [D.nr] at q; exact q))
  | _, _, .dct n h f r, q => .dct (fun y => n (List.mem_append_left _ y)) h f (Reps.shrink r (by rw [D.nr] at q; exact q))
  | _, _, .dnt n h f r r2, q => .dnt (fun y => n (List.mem_append_left _ y)) h f (Reps.shrink r (by rw [D.nr, Bool.and_eq_true] at q; exact q.1)) (Reps.shrink r2 (by rw [D.nr, Bool.and_eq_true] at q; exact q.2))
  | _, _, .ref h, q => .ref (by rw [D.nr] at q; rw [List.getElem?_append_left (of_decide_eq_true q)] at h; exact h)
theorem Reps.shrink {more : List Addr} : ∀ {ds : List D} {vs : List V}, Reps g (bs ++ more) H ds vs → D.nrs bs.length ds = true → Reps g bs H ds vs
  | _, _, .nil, _ => .nil
  | _, _, .cons r t, n => by
    rw [D.nrs, Bool.and_eq_true] at n
    exact .cons (Rep.shrink r n.1) (Reps.shrink t n.2)
end
def O.nr (n : Nat) : O → Bool
  | .lst xs => D.nrs n xs
  | .ins _ xs => D.nrs n xs
  | .dct _ xs => D.nrs n xs
  | .dn ks xs => D.nrs n ks && D.nrs n xs
  | .lk _ _ o => O.nr n o
theorem RepU.nr {a : Addr} {u : HO} {o : O} (r : RepU g bs H a u o) : O.nr bs.length o = true := by
  cases o with
  | dct ks ds => obtain ⟨_, _, _, r⟩ := r; exact r.nrs
  | dn ks ds => obtain ⟨_, _, _, r1, r2⟩ := r; rw [O.nr, r1.nrs, r2.nrs]; rfl
  | _ => exact r.elim
theorem RepU.shrink {a : Addr} {u : HO} {o : O} {more : List Addr} (r : RepU g (bs ++ more) H a u o) (h : O.nr bs.length o = true) : RepU g bs H a u o := by
  cases o with
  | dct ks ds => obtain ⟨kvs, q1, q2, r⟩ := r; exact ⟨kvs, q1, q2, r.shrink h⟩
  | dn ks ds =>
    obtain ⟨es, q1, q2, r1, r2⟩ := r
    rw [O.nr, Bool.and_eq_true] at h
    exact ⟨es, q1, q2, r1.shrink h.1, r2.shrink h.2⟩
  | _ => exact r.elim
theorem RepO.nr {a : Addr} {o : O} (r : RepO g bs H a o) : O.nr bs.length o = true := by
  cases o with
  | lst ds => obtain ⟨_, _, r⟩ := r; exact r.nrs
  | ins c ds => obtain ⟨_, _, _, _, _, _, r⟩ := r; exact r.nrs
  | dct ks ds => obtain ⟨_, _, _, r⟩ := r; exact r.nrs
  | dn ks ds => obtain ⟨_, _, _, r1, r2⟩ := r; rw [O.nr, r1.nrs, r2.nrs]; rfl
  | lk od u o => rw [O.nr]; exact RepU.nr r.2
theorem RepO.shrink {a : Addr} {o : O} {more : List Addr} (r : RepO g (bs ++ more) H a o) (h : O.nr bs.length o = true) : RepO g bs H a o := by
  cases o with
  | lst ds => obtain ⟨vs, q, r⟩ := r; exact ⟨vs, q, r.shrink h⟩
  | ins c ds => obtain ⟨C, dx, fvs, q1, q2, q3, r⟩ := r; exact ⟨C, dx, fvs, q1, q2, q3, r.shrink h⟩
  | dct ks ds => obtain ⟨kvs, q1, q2, r⟩ := r; exact ⟨kvs, q1, q2, r.shrink h⟩
  | dn ks ds =>
    obtain ⟨es, q1, q2, r1, r2⟩ := r
    rw [O.nr, Bool.and_eq_true] at h
    exact ⟨es, q1, q2, r1.shrink h.1, r2.shrink h.2⟩
  | lk od u o => rw [O.nr] at h; exact ⟨r.1, RepU.shrink r.2 h⟩
/-- the newest cells let go -/
theorem HRel.pop {h0 more : Hs} {m : List Addr} {bs0 : List Addr} {H0 : Hp} (hr0 : HRel g bs0 h0 H0) (hr : HRel g (bs0 ++ m) (h0 ++ more) H) : HRel g bs0 h0 H := by
  refine ⟨hr0.len, hr0.nd, fun i o hi => ?_⟩
  have hl : i < h0.length := (List.getElem?_eq_some_iff.mp hi).1
  obtain ⟨a, h1, h2⟩ := hr.at_ i o (by rw [List.getElem?_append_left hl]; exact hi)
  rw [List.getElem?_append_left (by rw [hr0.len]; exact hl)] at h1
  obtain ⟨_, _, h3⟩ := hr0.at_ i o hi
  exact ⟨a, h1, h2.shrink h3.nr⟩
end
def noErr {α : Type} (r : R α) : R α := match r with
  | .err _ _ _ => .bad
  | r => r
@[simp] theorem noErr_ok {α : Type} (a : α) (h : Hs) : noErr (R.ok a h) = .ok a h := rfl
theorem Post.noErr {α β : Type} {rel : List Addr → Hp → α → β → Prop} {g : G} {W W' : Value → Option Addr → Hp → Prop} {bs : List Addr} {H : Hp} {r : R α} {Q : β → Hp → Prop} (p : Post rel g W bs H (noErr r) Q) : Post rel g W' bs H r Q := by
  cases r with
  | ok a h => exact p
  | err c fs h => exact p.elim
  | bad => exact p
/-- names forgotten -/
def wipeE (env : En) : List Nat → En
  | [] => env
  | v :: vs => (wipeE env vs).set v none
theorem ERel.wipe {g : G} {bs : List Addr} {H : Hp} {env : En} {σ : St} (er : ERel g bs H env σ) : ∀ vs : List Nat, ERel g bs H (wipeE env vs) (L2.wipe σ vs)
  | [] => er
  | v :: vs => by
    have ih := ERel.wipe er vs
    unfold wipeE L2.wipe
    refine ⟨by rw [List.length_set, List.length_set]; exact ih.len, fun i d hi => ?_⟩
    by_cases hv : v = i
    · subst hv
      by_cases hl : v < (wipeE env vs).length
      · rw [List.getElem?_set_self hl] at hi; cases hi
      · rw [List.getElem?_eq_none (by rw [List.length_set]; omega)] at hi; cases hi
    · rw [List.getElem?_set_ne hv] at hi ⊢
      exact ih.at_ i d hi
open Classical in
noncomputable def compL (hb : Hs) (gs : List (Nat × O)) (k : D → En → Option En) (tt : En → Hs → R Bool) (fe : En → Hs → R D) (env : En) : List D → List D → R (List D)
  | [], acc => if Kept gs (hb ++ [.lst acc]) then .ok acc hb else .bad
  | x :: xs, acc => if Kept gs (hb ++ [.lst acc]) then (match k x env with
    | none => .bad
    | some e1 => (noErr (tt e1 (hb ++ [.lst acc]))).bind fun b h1 => if b = true then (noErr (fe e1 h1)).bind fun y h2 => if h2 = hb ++ [.lst acc] ∧ acc.length < big then compL hb gs k tt fe env xs (acc ++ [y]) else .bad
      else if h1 = hb ++ [.lst acc] then compL hb gs k tt fe env xs acc else .bad) else .bad
noncomputable def eComp (fi : En → Hs → R Src) (k : D → En → Option En) (tt : En → Hs → R Bool) (fe : En → Hs → R D) (own : List Nat) : En → Hs → R D := fun env h => (fi env h).bind fun s h1 => (compL h1 s.2 k tt fe (wipeE env own) s.1 []).bind fun ys _ => if D.nrs h1.length ys = true then .ok (.lst ys) h1 else .bad
noncomputable def eCompM (fi : En → Hs → R Src) (k : D → En → Option En) (tt : En → Hs → R Bool) (fe : En → Hs → R D) (own : List Nat) : En → Hs → R D := fun env h => (fi env h).bind fun s h1 => (compL h1 s.2 k tt fe (wipeE env own) s.1 []).bind fun ys _ => .ok (.ref h1.length) (h1 ++ [.lst ys])
theorem compL_heap {hb : Hs} {gs : List (Nat × O)} {k : D → En → Option En} {tt : En → Hs → R Bool} {fe : En → Hs → R D} {env : En} : ∀ {xs acc : List D}, (∃ ys, compL hb gs k tt fe env xs acc = .ok ys hb) ∨ compL hb gs k tt fe env xs acc = .bad
  | [], acc => by
    rw [compL]
    split
    · exact .inl ⟨_, rfl⟩
    · exact .inr rfl
  | x :: xs, acc => by
    rw [compL]
    split
    · split
      · exact .inr rfl
      · rename_i e1 _
        cases ht : noErr (tt e1 (hb ++ [.lst acc])) with
        | bad => exact .inr rfl
        | err c fs h => exact (by cases hz : tt e1 (hb ++ [.lst acc]) <;> rw [hz] at ht <;> cases ht)
        | ok b h1 =>
          simp only [R.bind_ok]
          split
          · cases hf : noErr (fe e1 h1) with
            | bad => exact .inr rfl
            | err c fs h => exact (by cases hz : fe e1 h1 <;> rw [hz] at hf <;> cases hf)
            | ok y h2 =>
              simp only [R.bind_ok]
              split
              · exact compL_heap
              · exact .inr rfl
          · split
            · exact compL_heap
            · exact .inr rfl
    · exact .inr rfl
section
variable {ci : Nat → String × List String} {X : Cx} {W : WX} {elt tg iter : Expr} {ifs : List Expr} {scope : Scope} {own : List (Str × Nat)} {pos : Pos} {wi : TI} {t : TG} {tt : TT} {te : TE} {fi : En → Hs → R Src} {k : D → En → Option En} {js : List Nat} {ft : En → Hs → R Bool} {fe : En → Hs → R D}
abbrev W0 : WX := fun _ _ _ _ => False
/-- the core: from what is told of a run of compL to the hand layer's reading -/
theorem sim_comp_core {g : G} {vs : List Nat} {σ : St} {H1 : Hp} {env : En} {h1 : Hs} {bs1 : List Addr} {s : Src} {J : It} {Q : VK} {ys : List Ev.D} (hg : SimG g t k js) (ht : Sim relB g W0 tt ft) (he : Sim (relV g) g W0 te fe) (hjs : ∀ j ∈ js, j ∈ vs)
    (er1 : ERel g bs1 H1 env σ) (hr1 : HRel g bs1 h1 H1) (fd : Feeds g bs1 H1 J s.1 s.2) (hc : compL h1 s.2 k ft fe (wipeE env vs) s.1 [] = .ok ys h1)
    (hQ : ∀ (Da : Addr) (H : Hp), H1 Da = none → Ext bs1 H1 (bs1 ++ [Da]) H → HRel g (bs1 ++ [Da]) (h1 ++ [.lst ys]) H → Q (.ref Da) H) :
    ∀ Da, H1 Da = none → ∃ W : Nat → Nat → Hp → Prop, (∃ m, W 0 m (upd H1 Da (.lst []))) ∧ ∀ i m H, W i m H →
      (J.stop i H ∧ Q (.ref Da) H) ∨ (J.go i H ∧ ∃ Nx : Hp → Prop, (∀ H', Nx H' → ∃ m', m' < m ∧ W (i + 1) m' H') ∧ ∀ x H', J.yld i H x H' → t x (wipe σ vs) H' fun σ2 H2 => wipe σ2 vs = wipe σ vs ∧ tt σ2 H2 fun b H3 =>
        if b = true then te σ2 H3 fun y H4 => ∃ acc, H4 Da = some (.lst acc) ∧ acc.length < sizeLine ∧ Nx (upd H4 Da (.lst (acc ++ [y]))) else Nx H3) := by
  intro Da hD
  refine ⟨fun i m H => m = s.1.length - i ∧ i ≤ s.1.length ∧ ∃ acc, Ext bs1 H1 (bs1 ++ [Da]) H ∧ HRel g (bs1 ++ [Da]) (h1 ++ [.lst acc]) H ∧ compL h1 s.2 k ft fe (wipeE env vs) (s.1.drop i) acc = .ok ys h1,
    ⟨_, rfl, Nat.zero_le _, [], .newM hD, hr1.newM (o := .lst []) hD ⟨[], upd_same, .nil⟩, hc⟩, ?_⟩
  rintro i m H ⟨rfl, hil, acc, e, hr, hc⟩
  have eW : ∀ {bs H}, Ext bs1 H1 bs H → ERel g bs H (wipeE env vs) (wipe σ vs) := fun e => (er1.mono e).wipe vs
  -- back to the one cell
  have one : ∀ {bs : List Addr} {H' : Hp} {acc' : List Ev.D}, Ext (bs1 ++ [Da]) H bs H' → HRel g bs (h1 ++ [.lst acc']) H' → bs = bs1 ++ [Da] := fun {bs H' acc'} e r => by
    obtain ⟨⟨more, rfl, _⟩, _, _⟩ := e
    have := r.len
    simp only [List.length_append, List.length_cons, List.length_nil] at this
    have l1 := hr1.len
    have : more = [] := List.eq_nil_of_length_eq_zero (by omega)
    rw [this, List.append_nil]
  have atD : (bs1 ++ [Da])[h1.length]? = some Da := by rw [← hr1.len, List.getElem?_append_right (Nat.le_refl _), Nat.sub_self]; rfl
  by_cases hlt : i < s.1.length
  · refine .inr ?_
    rw [List.drop_eq_getElem_cons hlt, compL] at hc
    split at hc
    · rename_i kp
      obtain ⟨go, yl⟩ := (fd _ _ H e hr kp).1 i _ (List.getElem?_eq_getElem hlt)
      refine ⟨go, fun H' => ∃ acc, Ext bs1 H1 (bs1 ++ [Da]) H' ∧ HRel g (bs1 ++ [Da]) (h1 ++ [.lst acc]) H' ∧ compL h1 s.2 k ft fe (wipeE env vs) (s.1.drop (i + 1)) acc = .ok ys h1, fun H' z => ⟨_, by omega, rfl, hlt, z⟩, fun x H' y => ?_⟩
      obtain ⟨e2, hr2, rx⟩ := yl x H' y
      split at hc
      · cases hc
      · rename_i env1 hk
        refine hg x _ _ H' _ env1 _ _ _ rx (eW (e.trans e2)) hr2 hk fun σ' er' hw => ⟨by
          have z := hw vs hjs
          rw [z]
          have idem : ∀ us : List Nat, (∀ u ∈ us, u ∈ vs) → wipe (wipe σ us) vs = wipe σ vs := by
            intro us
            induction us with
            | nil => intro _; rfl
            | cons u us ih =>
              intro hu
              show wipe ((wipe σ us).set u none) vs = _
              rw [wipe_set (hu u List.mem_cons_self)]
              exact ih fun w hw => hu w (List.mem_cons_of_mem _ hw)
          exact idem vs fun _ z => z, ?_⟩
        refine ht σ' H' env1 _ _ _ er' hr2 ?_
        cases hft : ft env1 (h1 ++ [.lst acc]) with
        | bad => rw [hft] at hc; cases hc
        | err c fs h' => rw [hft] at hc; cases hc
        | ok b h2 =>
          rw [hft] at hc
          simp only [noErr_ok, R.bind_ok] at hc
          intro bs3 H3 b' e3 hr3 eb
          cases (show b' = b from eb)
          cases b with
          | true =>
            rw [if_pos rfl] at hc ⊢
            refine he σ' H3 env1 h2 bs3 _ (er'.mono e3) hr3 ?_
            cases hfe : fe env1 h2 with
            | bad => rw [hfe] at hc; cases hc
            | err c fs h' => rw [hfe] at hc; cases hc
            | ok y h3 =>
              rw [hfe] at hc
              simp only [noErr_ok, R.bind_ok] at hc
              split at hc
              · rename_i hh
                obtain ⟨rfl, hl⟩ := hh
                intro bs4 H4 vy e4 hr4 ry
                have eAll : Ext (bs1 ++ [Da]) H bs4 H4 := (e2.trans e3).trans e4
                have hb4 := one eAll hr4
                subst hb4
                have hcell : cellL (h1 ++ [.lst acc]) h1.length = some acc := by
                  unfold cellL
                  rw [List.getElem?_append_right (Nat.le_refl _), Nat.sub_self]
                  rfl
                obtain ⟨us, g1, g2⟩ := cell_ok hr4 atD hcell
                refine ⟨us, g1, by rw [← g2.length, big_eq]; exact hl, acc ++ [y], (e.trans eAll).trans (.cell hr4 atD), ?_, hc⟩
                have := hr4.cell (ho := .lst (us ++ [vy])) (o := .lst (acc ++ [y])) atD ⟨_, upd_same, (g2.append (.cons ry .nil)).mono (.cell hr4 atD)⟩
                rw [List.set_append_right _ _ (Nat.le_refl _), Nat.sub_self] at this
                exact this
              · cases hc
          | false =>
            rw [if_neg Bool.false_ne_true] at hc ⊢
            split at hc
            · rename_i hh
              subst hh
              have eAll := e2.trans e3
              have hb3 := one eAll hr3
              subst hb3
              exact ⟨acc, e.trans eAll, hr3, hc⟩
            · cases hc
    · cases hc
  · have hi : i = s.1.length := by omega
    subst hi
    rw [List.drop_length, compL] at hc
    split at hc
    · rename_i kp
      cases hc
      exact .inl ⟨(fd _ _ H e hr kp).2, hQ Da H hD e hr⟩
    · cases hc
theorem sim_comp {g : G} {vs : List Nat} (hi : Sim (relI g) g W wi fi) (hg : SimG g t k js) (ht : Sim relB g W0 tt ft) (he : Sim (relV g) g W0 te fe) (hjs : ∀ j ∈ js, j ∈ vs) : Sim (relV g) g W (tLc wi t tt te vs) (eComp fi k ft fe vs) :=
  fun σ H env h bs Q er hr p => hi.step er hr p fun s J bs1 H1 h1 e1 hr1 er1 fd p1 => by
    rcases compL_heap (hb := h1) (gs := s.2) (k := k) (tt := ft) (fe := fe) (env := wipeE env vs) (xs := s.1) (acc := []) with ⟨ys, hc⟩ | hc
    · rw [hc] at p1
      simp only [R.bind_ok] at p1
      split at p1
      · rename_i hn
        refine sim_comp_core hg ht he hjs er1 hr1 fd hc fun Da H2 hD e hr2 => ?_
        have np := hr1.out hD
        have hcell : cellL (h1 ++ [.lst ys]) h1.length = some ys := by
          unfold cellL
          rw [List.getElem?_append_right (Nat.le_refl _), Nat.sub_self]
          rfl
        obtain ⟨us, g1, g2⟩ := cell_ok hr2 (n := h1.length) (a := Da) (by rw [← hr1.len, List.getElem?_append_right (Nat.le_refl _), Nat.sub_self]; rfl) hcell
        exact p1 bs1 H2 _ ⟨⟨[], by simp, fun _ z => nomatch z⟩, e.keep, e.cel⟩ (hr1.pop hr2) (.lst np g1 (g2.shrink (by rw [hr1.len]; exact hn)))
      · exact p1.elim
    · rw [hc] at p1
      exact p1.elim
theorem sim_compM {g : G} {vs : List Nat} (hi : Sim (relI g) g W wi fi) (hg : SimG g t k js) (ht : Sim relB g W0 tt ft) (he : Sim (relV g) g W0 te fe) (hjs : ∀ j ∈ js, j ∈ vs) : Sim (relV g) g W (tLc wi t tt te vs) (eCompM fi k ft fe vs) :=
  fun σ H env h bs Q er hr p => hi.step er hr p fun s J bs1 H1 h1 e1 hr1 er1 fd p1 => by
    rcases compL_heap (hb := h1) (gs := s.2) (k := k) (tt := ft) (fe := fe) (env := wipeE env vs) (xs := s.1) (acc := []) with ⟨ys, hc⟩ | hc
    · rw [hc] at p1
      simp only [R.bind_ok] at p1
      exact sim_comp_core hg ht he hjs er1 hr1 fd hc fun Da H2 hD e hr2 => p1 _ H2 _ e hr2 (.ref (by rw [← hr1.len, List.getElem?_append_right (Nat.le_refl _), Nat.sub_self]; rfl))
    · rw [hc] at p1
      exact p1.elim
structure TsJ (ci : Nat → String × List String) (X : Cx) (ifs : List Expr) (t : TT) (f : En → Hs → R Bool) : Prop where
  pts : PTs X ifs t
  sim : Sim relB (X.g ci) W0 t f
def bYes : En → Hs → R Bool := fun _ h => .ok true h
theorem tsj_nil {ci} {X : Cx} : TsJ ci X [] tYes bYes := ⟨pts_nil, fun σ H env h bs Q er hr p => Post.ok_ p hr rfl⟩
theorem tsj_one {ci} {X : Cx} {c : Expr} {t : TT} {f : En → Hs → R Bool} (h : TJ ci X W0 c t f) : TsJ ci X [c] t f := ⟨pts_one h.pt, h.sim⟩
theorem ej_lc (hc : X.calm = true) (hN : X.N.Nodup) (hi : IJ ci X W tg iter wi fi) (ok : BlkOk X.N X.env.scope scope own) (hjs : ∀ j ∈ js, j ∈ own.map (·.2))
    (hg : ∀ (s : Shared) (H : Hp) (C : Addr) (cl : List (Str × Addr)) (fp : List Addr), GJ ci (X.blk s H scope (compEnvC scope cl C X.env) fp) tg t k js) (ht : ∀ (s : Shared) (H : Hp) (C : Addr) (cl : List (Str × Addr)) (fp : List Addr), TsJ ci (X.blk s H scope (compEnvC scope cl C X.env) fp) ifs tt ft)
    (he : ∀ (s : Shared) (H : Hp) (C : Addr) (cl : List (Str × Addr)) (fp : List Addr), EJ ci (X.blk s H scope (compEnvC scope cl C X.env) fp) W0 elt te fe) (hs : ∀ x, foldedSetIterable iter X.env x = pure x := by intro _; rfl) :
    EJ ci X W (.ListComp elt [⟨tg, iter, ifs, 0⟩] scope pos) (tLc wi t tt te (own.map (·.2))) (eComp fi k ft fe (own.map (·.2))) :=
  ⟨pe_lc hc hN hi.pi ok (fun s H C cl fp => (hg s H C cl fp).pg) (fun s H C cl fp => (ht s H C cl fp).pts) (fun s H C cl fp => (he s H C cl fp).pe) hs,
    sim_comp hi.sim (hg X.s_0 (fun _ => none) 0 [] []).sim (ht X.s_0 (fun _ => none) 0 [] []).sim (he X.s_0 (fun _ => none) 0 [] []).sim hjs⟩
end
end Ev
set_option Elab.async false
set_option linter.all false
set_option maxRecDepth 100000
set_option maxHeartbeats 4000000
/-! defs that are called where no repr is under way -/
namespace Ev
open PySem PySem.Spec PyProof.Rows L2
structure Room (k : Nat) (A : Around) : Prop where
  r : L2.Room k A
  gd : A.guards = some []
section
variable {k j : Nat} {A : Around}
theorem Room.mono {i : Nat} (h : Room j A) (l : i ≤ j) : Room i A := ⟨h.r.mono l, h.gd⟩
theorem Room.un (h : Room k A) : A.units + 16 * k + 200 < cLine := h.r.un
theorem Room.units (h : Room k A) : A.units + 64 < cLine := h.r.units
theorem Room.units0 (h : Room k A) : A.units < cLine := h.r.units0
theorem Room.in1 (h : Room (k + 1) A) : Room k A.in1 := ⟨h.r.in1, h.gd⟩
theorem Room.deeper (h : Room (k + 1) A) (env : Env) : Room k (A.deeper env) := ⟨h.r.deeper env, h.gd⟩
theorem under_make {C : Addr} {us : List Value} {kw : List (Str × Value)} (e : A.guards = some []) : (A.under (.builtin "type.__call__" ⟨.ref C :: us, kw⟩)).guards = some [] := by
  obtain ⟨a, b, c, g, u⟩ := A
  cases e
  first
    | rfl
    | simp [Around.under, pushGuards, Code.guards, Code.isGuard, guardIds]
theorem Room.make (h : Room (k + 1) A) (C : Addr) (us : List Value) (kw : List (Str × Value)) : Room k (A.under (.builtin "type.__call__" ⟨.ref C :: us, kw⟩)) := ⟨h.r.make C us kw, under_make h.gd⟩
end
structure FnOk (P : Program) (w : World) (K : PySem.W.Frag) (mg : Str → Option Value) (base : Heap) (CX : CXT) (k : Nat) (f : Addr) (fd : FuncData) (ps : List Str) (sp : Sp) : Prop where
  len : ∀ vs H Q E, sp vs H Q E → vs.length = ps.length
  run : ∀ {A : Around} {outer : List Env} {s : Shared} {H : Hp} {args : Args} {us : List Value} {vs : List V} {Q : VK} {E : XK}, Room k A → Env0 P w K mg base A outer s H → BindsTo s fd args (ps.zip us) → Vals vs us → sp vs H Q E → codeAny (model P w) A (.call (.ref f) args) (CR CX outer P w H s Q E) s
section
variable {P : Program} {w : World} {K : PySem.W.Frag} {mg : Str → Option Value} {base : Heap} {CX : CXT} {k : Nat} {f : Addr} {fd : FuncData} {ps : List Str} {sp sp' : Sp}
theorem FnOk.imp (F : FnOk P w K mg base CX k f fd ps sp) (h : ∀ vs H Q E, sp' vs H Q E → sp vs H Q E) : FnOk P w K mg base CX k f fd ps sp' :=
  ⟨fun vs H Q E q => F.len vs H Q E (h _ _ _ _ q), fun hr he hb hv hs => F.run hr he hb hv (h _ _ _ _ hs)⟩
/-- a def, by the library's rule for a def whose binding is told -/
theorem fund_ok {x qual : Str} {params : Arguments} {body : List Stmt} {scope : Scope} {dvs : List V} {kws : List (Str × V)} {N : List Str} (F : FunD K x qual params body scope dvs kws f fd) (S : FnScope N ps scope) (len : ∀ vs H Q E, sp vs H Q E → vs.length = ps.length)
    (hbody : ∀ (cdv : Value) (A : Around) (outer : List Env) (s : Shared) (H : Hp) (vs : List V) (Q : VK) (E : XK), Room k (A.deeper (PyProof.Rows.envOfC qual scope s.heap.objs.size f cdv)) → sp vs H Q E →
      ∃ t, PSs (cxOf CX P w K mg base N qual scope f cdv A outer s H E) body t ∧ t { nx := fun _ H' => Q .non H', rt := Q } (start N vs) H) : FnOk P w K mg base CX (k + 1) f fd ps sp := by
  obtain ⟨oc, od, dV, kV, doc, pm, an, cdv, ct, osl, rfl, lk, hcd, -, -⟩ := F.ex
  refine ⟨len, fun {A outer s H args us vs Q E} hr e0 hb hv hsp => StX.run_bnd (G := fun xs H2 => xs = vs ∧ H2 = H) lk hcd S hr.r e0 (fun A' Ex Q' q => ?_) fun s2 H2 xs hx r2 => ?_⟩
  · exact hb _ _ _ _ (q s H vs us e0 .refl rfl (fun _ _ z => z) hv (len _ _ _ _ hsp) ⟨rfl, rfl⟩)
  · obtain ⟨rfl, rfl⟩ := hx
    exact hbody cdv A outer s2 H2 xs Q E ⟨r2, hr.gd⟩ hsp
end
/-! ### the law's own call -/
section
variable {P : Program} {w : World} {K : PySem.W.Frag} {mg mb : Str → Option Value} {s : Shared} {a : Addr} {vs : List Value}
/-- the state without what H tracks: only the script's list may be tracked -/
theorem only_hid {H : Hp} (ha : s.heap.get? a = some { cls := .type "list", data := .seq vs.toArray }) (hA : ∀ b, H b ≠ none → b = a) {b : Addr} {o : Obj} (e : s.heap.get? b = some o) (d : ∀ xs n, o.data ≠ .seq xs n) : (hidT s.heap H).get? b = some o := by
  refine hidT_get e ?_
  by_cases z : H b = none
  · exact z
  · have q := hA b z
    rw [q, ha] at e
    exact absurd (congrArg Obj.data (Option.some.inj e)).symm (d _ _)
theorem only_ns {H : Hp} (ha : s.heap.get? a = some { cls := .type "list", data := .seq vs.toArray }) (hA : ∀ b, H b ≠ none → b = a) {b : Addr} {m : Str → Option Value} (n : s.heap.Ns b m) : (hidT s.heap H).Ns b m := by
  obtain ⟨o, es, ep, e, d, r⟩ := n
  exact ⟨o, es, ep, only_hid ha hA e (fun _ _ z => by rw [d] at z; cases z), d, r⟩
theorem law_run {k : Nat} {fa : Addr} {fd : FuncData} {x : Str} {sp : Sp} {ns : List Int} {H : Hp} (KX : K.In s.heap) (hns : s.heap.Ns mainGlobals mg) (hb : s.heap.Ns builtinsNs mb) (hbb : ∀ x : Str, x ≠ "__name__" → mb x = bootBuiltins x) (hlim : s.heap.NoLimit) (hg : s.gens = #[])
    (ha : s.heap.get? a = some { cls := .type "list", data := .seq vs.toArray }) (hr : Room k callerA) (F : ∀ base : Heap, K.In base → base.Ns mainGlobals mg → FnOk P w K mg base (L2.CX P w) k fa fd [x] sp) (hbind : ∀ (s : Shared) (u : Value), BindsTo s fd ⟨[u], []⟩ [(x, u)])
    (hO : Only H) (hsp : sp [.ref a] H (fun v _ => v = .bl true) fun _ _ _ => False) (hok : HOk P w H s.heap) (hA : ∀ b, H b ≠ none → b = a) (hK : H a ≠ none → K.lookup a = none) :
    codeAny (model P w) callerA (.call (.ref fa) ⟨[.ref a], []⟩) (fun r s' => r = .ok (.ret (.bool true)) ∧ OldK s.heap s'.heap ∧ s'.os = s.os ∧ AllBare s'.gens) s := by
  have kb : K.In (hidT s.heap H) := fun b o e => hidT_get (KX b o e) (by
    by_cases z : H b = none
    · exact z
    · have q := hA b z
      subst q
      rw [hK z] at e
      cases e)
  obtain ⟨mc, l1, l2⟩ := hlim
  have md : Mod K mg (hidT s.heap H) := ⟨kb, only_ns ha hA hns, ⟨mb, only_ns ha hA hb, hbb⟩, ⟨mc, only_ns ha hA l1, l2⟩⟩
  have nil : ∀ {b : Addr}, b ∉ frs ([] : List Env) := fun {b} z => by cases z
  have e0 : Env0 P w K mg (hidT s.heap H) callerA [] s H := { frames := rfl, mod := md, bs := fun b o e => of_hidT e, bsz := Nat.le_of_eq (hidT_size _ _), funs := trivial, frf := fun b z => absurd z nil, hok := hok, bare := .of_eq hg }
  refine codeAny_mono ((F _ kb (only_ns ha hA hns)).run (us := [.ref a]) (vs := [.ref a]) hr e0 (hbind s (.ref a)) (.cons rfl .nil) hsp) fun r s' z => ?_
  match r, z with
  | .error e, z => obtain ⟨_, _, _, _, _, _, _, _, _, _, _, _, z⟩ := z; exact z.elim
  | .ok .next, z => exact z.elim
  | .ok .brk, z => exact z.elim
  | .ok .cont, z => exact z.elim
  | .ok (.ret u), ⟨v, H', o1, o2, un, ok', rv, q⟩ =>
    obtain rfl : v = .bl true := q
    obtain rfl : u = Value.bool true := rv
    refine ⟨rfl, OldK.of_keep fun b o e => ?_, o1, o2⟩
    by_cases z : H b = none
    · exact un.keep b o e z nil (by simp)
    · rcases hO b with z' | ⟨ob, xs, z'⟩
      · exact absurd z' z
      · have g1 := (hok b _ z').1
        have g2 := (ok' b _ (un.frzs b ob _ z')).1
        rw [e] at g1
        cases g1
        exact g2
theorem law_callG {k : Nat} {fa : Addr} {fd : FuncData} {x : Str} {sp : Sp} {ns : List Int} (KX : K.In s.heap) (hns : s.heap.Ns mainGlobals mg) (hb : s.heap.Ns builtinsNs mb) (hbb : ∀ x : Str, x ≠ "__name__" → mb x = bootBuiltins x) (hlim : s.heap.NoLimit) (hg : s.gens = #[])
    (ha : s.heap.get? a = some { cls := .type "list", data := .seq vs.toArray }) (hi : IntsAre vs ns) (hl : ns.length ≤ sizeLine) (hr : Room k callerA) (F : ∀ base : Heap, K.In base → base.Ns mainGlobals mg → FnOk P w K mg base (L2.CX P w) k fa fd [x] sp) (hbind : ∀ (s : Shared) (u : Value), BindsTo s fd ⟨[u], []⟩ [(x, u)])
    (hsp : ∀ H : Hp, Only H → SqL K H a (ns.map V.int) → sp [.ref a] H (fun v _ => v = .bl true) fun _ _ _ => False) :
    codeAny (model P w) callerA (.call (.ref fa) ⟨[.ref a], []⟩) (fun r s' => r = .ok (.ret (.bool true)) ∧ OldK s.heap s'.heap ∧ s'.os = s.os ∧ AllBare s'.gens) s := by
  have rv := vals_ints hi
  have lv := hi.length
  by_cases hk : K.lookup a = none
  · let H : Hp := upd (fun _ => none) a (.frz { cls := .type "list", data := .seq vs.toArray } (.lst (ns.map V.int)))
    have hn : ∀ b, b ≠ a → H b = none := fun b z => upd_ne z
    have hO : Only H := fun b => by
      by_cases z : b = a
      · rw [z]; exact .inr ⟨_, _, upd_same⟩
      · exact .inl (hn b z)
    refine law_run (H := H) (ns := ns) KX hns hb hbb hlim hg ha hr F hbind hO (hsp H hO (.inl (.inr ⟨_, upd_same⟩))) (fun b u z => ?_) (fun b z => ?_) fun _ => hk
    · by_cases q : b = a
      · subst q
        have e := z.symm.trans upd_same
        cases e
        exact ⟨ha, by rw [List.length_map]; exact hl, vs, _, rv, ha⟩
      · rw [hn b q] at z
        cases z
    · by_cases q : b = a
      · exact q
      · exact absurd (hn b q) z
  · obtain ⟨o, ho⟩ := Option.ne_none_iff_exists'.mp hk
    have e := (KX a o ho).symm.trans ha
    cases e
    have hO : Only (fun _ => none : Hp) := fun _ => .inl rfl
    exact law_run (H := fun _ => none) (ns := ns) KX hns hb hbb hlim hg ha hr F hbind hO (hsp _ hO (.inr ⟨_, vs.toArray, _, ho, rfl, rfl, rfl, by rw [List.size_toArray, lv]; exact hl, by simpa using rv⟩)) (fun b u z => nomatch z) (fun b z => absurd rfl z) fun z => absurd rfl z
end
end Ev
set_option Elab.async false
set_option linter.all false
set_option maxRecDepth 100000
set_option maxHeartbeats 4000000
namespace Ev
open PySem L2

/-! ### argument lists of own calls -/
abbrev VV2 := List V × List V
abbrev TC := St → Hp → (VV2 → Hp → Prop) → Prop
abbrev DD2 := List D × List D
abbrev relC (g : G) : List Addr → Hp → DD2 → VV2 → Prop := fun bs H d v => Reps g bs H d.1 v.1 ∧ Reps g bs H d.2 v.2
def CArgP (X : Cx) (es : List Expr) (kws : List Keyword) (ks : List Str) (t : TC) : Prop :=
  ∀ (pos : Pos) (fv : Value) (first : List Value) (pins : List (Addr × Obj)) (s : Shared) (σ : St) (H : Hp) (P : VV2 → Hp → Prop) (Qv : Value → Shared → Prop), PySem.W.keepIn X.K fv = true → Inv X pins σ H s → t σ H P →
    (∀ us ws vs zs s1 H1, Inv X pins σ H1 s1 → Vals vs us → Vals zs ws → zs.length = ks.length → P (vs, zs) H1 → wpAny (model X.prog X.w) X.A (call fv (first ++ us) (ks.zip ws)) Qv X.xe s1) →
    wpAny (model X.prog X.w) X.A (callWith pos fv first (backTo pos (starEach es X.env)) (backToKw pos (keywordEach kws X.env))) Qv X.xe s
structure CAJ (ci : Nat → String × List String) (X : Cx) (W : WX) (es : List Expr) (kws : List Keyword) (ks : List Str) (t : TC) (f : En → Hs → R DD2) : Prop where
  p : CArgP X es kws ks t
  sim : Sim (relC (X.g ci)) (X.g ci) W t f
def cNil : En → Hs → R DD2 := fun _ h => .ok ([], []) h
def cPos (fa : En → Hs → R (List D)) : En → Hs → R DD2 := fun env h => (fa env h).bind fun xs h1 => .ok (xs, []) h1
def cKw (n : Nat) (fa fk : En → Hs → R (List D)) : En → Hs → R DD2 := fun env h => (fa env h).bind fun xs h1 => (fk env h1).bind fun ys h2 => if ys.length = n then .ok (xs, ys) h2 else .bad
def cStar (fe : En → Hs → R D) : En → Hs → R DD2 := fun env h => (fe env h).bind fun x h1 => match seqOf h1 x with
  | some xs => .ok (xs, []) h1
  | none => .bad
structure KwJ (ci : Nat → String × List String) (X : Cx) (W : WX) (kws : List Keyword) (t : TA) (f : En → Hs → R (List D)) : Prop where
  pk : PK X kws t
  sim : Sim (relVs (X.g ci)) (X.g ci) W t f
section
variable {ci : Nat → String × List String} {X : Cx} {W : WX} {e : Expr} {es : List Expr} {kws : List Keyword} {t tk : TA} {te : TE} {fe : En → Hs → R D} {fa fk : En → Hs → R (List D)} {kpos p : Pos} {nm : Option Str} {ks : List Str}
theorem kwj_nil : KwJ ci X W [] tNil aNil := ⟨pk_nil, fun σ H env h bs Q er hr p => Post.ok_ p hr .nil⟩
theorem kwj_cons (ha : EJ ci X W e te fe) (hr : KwJ ci X W kws t fa) : KwJ ci X W (⟨nm, e, kpos⟩ :: kws) (tCons te t) (aCons fe fa) :=
  ⟨pk_cons ha.pe hr.pk, fun σ H env h bs Q er hr' p => ha.sim.step er hr' p fun x vx bs1 H1 h1 e1 hr1 er1 rx p1 => hr.sim.step er1 hr1 p1 fun xs vs bs2 H2 h2 e2 hr2 er2 rs p2 => Post.ok_ p2 hr2 (.cons (rx.mono e2) rs)⟩
theorem caj_nil : CAJ ci X W [] [] [] (fun _ H Q => Q ([], []) H) cNil :=
  ⟨fun pos fv first pins s σ H P Qv hk I h k => PySem.W.callWith_K0 I.kIn hk (k [] [] [] [] s H I .nil .nil rfl h), fun σ H env h bs Q er hr p => Post.ok_ p hr ⟨.nil, .nil⟩⟩
theorem caj_pos (ha : AJ ci X W (e :: es) t fa) (he : starEach (e :: es) X.env = (false, eval e X.env) :: starEach es X.env := by rfl) (hpl : ∀ pos, (backTo pos (starEach es X.env)).any (·.1) = false := by intro _; rfl) :
    CAJ ci X W (e :: es) [] [] (fun σ H Q => t σ H fun vs H1 => Q (vs, []) H1) (cPos fa) :=
  ⟨fun pos fv first pins s σ H P Qv hk I h k => PySem.W.callWith_K (h₀ := X.base) I.ok.mod.kin hk (thn (ha.pa.run pos pins s σ H _ I h) fun us s1 ⟨vs, H1, I1, r, q⟩ => ⟨I1.kIn, k us [] vs [] s1 H1 I1 r .nil rfl q⟩) he (hpl pos),
    fun σ H env h bs Q er hr p => ha.sim.step er hr p fun xs vs bs1 H1 h1 e1 hr1 er1 rs p1 => Post.ok_ p1 hr1 ⟨rs, .nil⟩⟩
theorem caj_posS (ha : AJ ci X W (e :: es) t fa) (he : starEach (e :: es) X.env = (false, eval e X.env) :: starEach es X.env := by rfl) (hst : ∀ pos, (backTo pos (starEach es X.env)).any (·.1) = true := by intro _; rfl) :
    CAJ ci X W (e :: es) [] [] (fun σ H Q => t σ H fun vs H1 => Q (vs, []) H1) (cPos fa) :=
  ⟨fun pos fv first pins s σ H P Qv hk I h k => PySem.W.callWith_S2 (h₀ := X.base) I.ok.mod.kin hk (thn (ha.pa.run pos pins s σ H _ I h) fun us s1 ⟨vs, H1, I1, r, q⟩ => ⟨I1.kIn, k us [] vs [] s1 H1 I1 r .nil rfl q⟩) he (hst pos),
    fun σ H env h bs Q er hr p => ha.sim.step er hr p fun xs vs bs1 H1 h1 e1 hr1 er1 rs p1 => Post.ok_ p1 hr1 ⟨rs, .nil⟩⟩
theorem caj_star (he : EJ ci X W e te fe) (hst : starEach [.Starred e p] X.env = [(true, eval e X.env)] := by rfl) :
    CAJ ci X W [.Starred e p] [] [] (fun σ H Q => te σ H fun y H1 => ∃ a xs, y = V.ref a ∧ (SqT X.K H1 a xs ∨ SqL X.K H1 a xs) ∧ Q (xs, []) H1) (cStar fe) :=
  ⟨fun pos fv first pins s σ H P Qv hk I h k => PySem.W.callWith_S (h₀ := X.base) I.ok.mod.kin hk (thn (he.pe.run pins s σ H _ I h) fun v s1 ⟨y, H1, I1, ry, a, xs, ey, hxs, q⟩ => by
      subst ey
      obtain rfl : v = Value.ref a := ry
      exact StX.star_any I1 hxs fun us s2 I2 rv => ⟨I2.kIn, k us [] xs [] s2 H1 I2 rv .nil rfl q⟩) hst,
    fun σ H env h bs Q er hr p => he.sim.step er hr p fun x vx bs1 H1 h1 e1 hr1 er1 rx p1 => by
      split at p1
      · rename_i xs hx
        obtain ⟨a, vs, rfl, hs, rs⟩ := seqOf_ok hr1 rx hx
        exact ⟨a, vs, rfl, hs.symm, Post.ok_ p1 hr1 ⟨rs, .nil⟩⟩
      · exact p1.elim⟩
theorem caj_kw0 (hkw : KwJ ci X W kws tk fk) (hall : ∀ pos, (backToKw pos (keywordEach kws X.env)).all (·.1.isSome) = true := by intro _; rfl) (hks : ∀ pos, (backToKw pos (keywordEach kws X.env)).filterMap (·.1) = ks := by intro _; rfl)
    (hpl : ∀ pos, ((backTo pos (starEach [] X.env)).any (·.1) || (backToKw pos (keywordEach kws X.env)).any (·.1.isNone)) = false := by intro _; rfl) :
    CAJ ci X W [] kws ks (fun σ H Q => tk σ H fun zs H1 => zs.length = ks.length ∧ Q ([], zs) H1) (cKw ks.length aNil fk) :=
  ⟨fun pos fv first pins s σ H P Qv hk I h k => PySem.W.callWith_KW0 (h₀ := X.base) I.ok.mod.kin hk (hall pos) (thn (hkw.pk.run pos pins s σ H _ I h) fun ws s2 ⟨zs, H2, I2, rz, l2, q2⟩ => ⟨I2.kIn, by
      rw [hks pos]
      exact k [] ws [] zs s2 H2 I2 .nil rz l2 q2⟩) (hpl pos),
    fun σ H env h bs Q er hr p => hkw.sim.step er hr (k := fun ys h2 => if ys.length = ks.length then R.ok ([], ys) h2 else .bad) p fun xs vs bs1 H1 h1 e1 hr1 er1 rs p1 => by
      split at p1
      · rename_i hl
        exact ⟨by rw [← rs.length]; exact hl, Post.ok_ p1 hr1 ⟨.nil, rs⟩⟩
      · exact p1.elim⟩
theorem caj_kw (ha : AJ ci X W (e :: es) t fa) (hkw : KwJ ci X W kws tk fk) (hall : ∀ pos, (backToKw pos (keywordEach kws X.env)).all (·.1.isSome) = true := by intro _; rfl) (hks : ∀ pos, (backToKw pos (keywordEach kws X.env)).filterMap (·.1) = ks := by intro _; rfl)
    (he : starEach (e :: es) X.env = (false, eval e X.env) :: starEach es X.env := by rfl) (hpl : ∀ pos, ((backTo pos (starEach (e :: es) X.env)).any (·.1) || (backToKw pos (keywordEach kws X.env)).any (·.1.isNone)) = false := by intro _; rfl) :
    CAJ ci X W (e :: es) kws ks (fun σ H Q => t σ H fun vs H1 => tk σ H1 fun zs H2 => zs.length = ks.length ∧ Q (vs, zs) H2) (cKw ks.length fa fk) :=
  ⟨fun pos fv first pins s σ H P Qv hk I h k => PySem.W.callWith_KW (h₀ := X.base) I.ok.mod.kin hk (hall pos) (thn (ha.pa.run pos pins s σ H _ I h) fun us s1 ⟨vs, H1, I1, r, q⟩ => thn (hkw.pk.run pos pins s1 σ H1 _ I1 q) fun ws s2 ⟨zs, H2, I2, rz, l2, q2⟩ => ⟨I2.kIn, by
      rw [hks pos]
      exact k us ws vs zs s2 H2 I2 r rz l2 q2⟩) (hpl pos) he,
    fun σ H env h bs Q er hr p => ha.sim.step er hr p fun xs vs bs1 H1 h1 e1 hr1 er1 rs p1 => hkw.sim.step er1 hr1 p1 fun ys zs bs2 H2 h2 e2 hr2 er2 rz p2 => by
      split at p2
      · rename_i hl
        exact ⟨by rw [← rz.length]; exact hl, Post.ok_ p2 hr2 ⟨rs.mono e2, rz⟩⟩
      · exact p2.elim⟩
end

/-! ### own defs -/
/-- what a def is worth: the parameters' values in order -/
def spG (g : G) (n : Nat) (f : List D → Hs → R D) : Sp := fun vs H Q E => ∃ bs h ds, ds.length = n ∧ HRel g bs h H ∧ Reps g bs H ds vs ∧ Post (relV g) g (fun C d H' => E C d H') bs H (f ds h) Q
def runB (m : Nat) (fb : En → Hs → S) : List D → Hs → R D := fun ds h => match fb (ds.map some ++ List.replicate (m - ds.length) none) h with
  | .nx _ h' => .ok .non h'
  | .ret d h' => .ok d h'
  | .err c fs _ h' => .err c fs h'
  | _ => .bad
theorem ERel.start {g : G} {bs : List Addr} {H : Hp} {N : List Str} {ds : List D} {vs : List V} (r : Reps g bs H ds vs) : ERel g bs H (ds.map some ++ List.replicate (N.length - ds.length) none) (start N vs) := by
  have hl := r.length
  refine ⟨by unfold L2.start; simp [hl], fun i d hi => ?_⟩
  by_cases hlt : i < ds.length
  · rw [List.getElem?_append_left (by simpa using hlt), List.getElem?_map] at hi
    cases hd : ds[i]? with
    | none => rw [hd] at hi; cases hi
    | some d' =>
      rw [hd] at hi
      cases hi
      obtain ⟨v, h1, h2⟩ := r.get hd
      refine ⟨v, ?_, h2⟩
      unfold L2.start
      rw [List.getElem?_append_left (by rw [List.length_map, ← hl]; exact hlt), List.getElem?_map, h1]
      rfl
  · rw [List.getElem?_append_right (by simpa using hlt), List.getElem?_replicate] at hi
    split at hi <;> cases hi
section
variable {ci : Nat → String × List String} {P : Program} {w : World} {K : PySem.W.Frag} {mg : Str → Option Value} {base : Heap} {x qual : Str} {st : Stmt} {f : Addr} {fd : FuncData} {N ps : List Str} {k : Nat} {fb : En → Hs → S} {dvs : List V} {kws : List (Str × V)}
abbrev bodyCx (P : Program) (w : World) (K : PySem.W.Frag) (mg : Str → Option Value) (base : Heap) (N : List Str) (qual : Str) (st : Stmt) (f : Addr) (cdv : Value) (A : Around) (outer : List Env) (s : Shared) (H : Hp) (E : XK) : Cx := cxOf (L2.CX P w) P w K mg base N qual (defScope st) f cdv A outer s H E
abbrev bodyW (E : XK) : WX := fun C d _ H => E C d H
theorem post_body {g : G} {E : XK} {bs : List Addr} {h : Hs} {H : Hp} {ds : List D} {vs : List V} {Q : VK} {t : TS} {N : List Str} (hs : SimS g (bodyW E) t fb) (hr : HRel g bs h H) (r : Reps g bs H ds vs) (p : Post (relV g) g (fun C d H' => E C d H') bs H (runB N.length fb ds h) Q) :
    t { nx := fun _ H' => Q .non H', rt := Q } (start N vs) H := by
  refine hs _ H _ h bs _ (ERel.start r) hr ?_
  unfold runB at p
  cases hf : fb (ds.map some ++ List.replicate (N.length - ds.length) none) h with
  | nx env h' => rw [hf] at p; exact fun bs' H' σ' e r _ => p bs' H' .non e r .non
  | ret d h' => rw [hf] at p; exact p
  | brk env h' => rw [hf] at p; exact p.elim
  | ct env h' => rw [hf] at p; exact p.elim
  | err c fs env h' => rw [hf] at p; exact fun C dd bs' H' σ' e r _ z => p C dd bs' H' e r z
  | bad => rw [hf] at p; exact p
theorem fn_bodyD (F : FunD K x qual (defArgs st) (defBody st) (defScope st) dvs kws f fd) (S : FnScope N ps (defScope st))
    (hb : ∀ (cdv : Value) (A : Around) (outer : List Env) (s : Shared) (H : Hp) (E : XK), Room k (A.deeper (PyProof.Rows.envOfC qual (defScope st) s.heap.objs.size f cdv)) → ∃ t, SsJ ci (bodyCx P w K mg base N qual st f cdv A outer s H E) (bodyW E) (defBody st) t fb) :
    FnOk P w K mg base (L2.CX P w) (k + 1) f fd ps (spG ⟨K, mg, ci⟩ ps.length (runB N.length fb)) := by
  refine fund_ok F S (fun vs H Q E h => ?_) (fun cdv A outer s H vs Q E hr h => ?_)
  · obtain ⟨bs, h, ds, hl, _, r, _⟩ := h
    rw [← r.length, hl]
  · obtain ⟨bs, hh, ds, hl, hrl, r, p⟩ := h
    obtain ⟨t, hj⟩ := hb cdv A outer s H E hr
    exact ⟨t, hj.pss, post_body hj.sim hrl r p⟩
end
/-- a call: positional values, keywords named ks -/
structure FnC (ci : Nat → String × List String) (P : Program) (w : World) (K : PySem.W.Frag) (mg : Str → Option Value) (base : Heap) (k : Nat) (f : Addr) (ks : List Str) (F : List D → List D → Hs → R D) : Prop where
  run : ∀ (A : Around) (outer : List Env) (s : Shared) (H : Hp) (us ws : List Value) (vs zs : List V) (Q : VK) (E : XK), Room k A → Env0 P w K mg base A outer s H → Vals vs us → Vals zs ws → zs.length = ks.length →
    (∃ bs h ds es, HRel ⟨K, mg, ci⟩ bs h H ∧ Reps ⟨K, mg, ci⟩ bs H ds vs ∧ Reps ⟨K, mg, ci⟩ bs H es zs ∧ Post (relV ⟨K, mg, ci⟩) ⟨K, mg, ci⟩ (fun C d H' => E C d H') bs H (F ds es h) Q) →
    codeAny (model P w) A (.call (.ref f) ⟨us, ks.zip ws⟩) (CR (L2.CX P w) outer P w H s Q E) s
section
variable {ci : Nat → String × List String} {P : Program} {w : World} {K : PySem.W.Frag} {mg : Str → Option Value} {base : Heap} {f : Addr} {fd : FuncData} {ps ks : List Str} {j k n : Nat} {F F' : List D → List D → Hs → R D} {G : List D → Hs → R D}
theorem FnC.mono (h : FnC ci P w K mg base j f ks F) (hk : j ≤ k) : FnC ci P w K mg base k f ks F := ⟨fun A outer s H us ws vs zs Q E hr => h.run A outer s H us ws vs zs Q E (hr.mono hk)⟩
/-- what it is worth told otherwise, where it is asked -/
theorem FnC.imp (h : FnC ci P w K mg base k f ks F) (e : ∀ ds es hh, F' ds es hh = .bad ∨ F ds es hh = F' ds es hh) : FnC ci P w K mg base k f ks F' :=
  ⟨fun A outer s H us ws vs zs Q E hr e0 r rz hz ⟨bs, hh, ds, es, h1, h2, h3, p⟩ => h.run A outer s H us ws vs zs Q E hr e0 r rz hz ⟨bs, hh, ds, es, h1, h2, h3, by
    rcases e ds es hh with z | z
    · rw [z] at p; exact p.elim
    · rw [z]; exact p⟩⟩
/-- every parameter is given, by place -/
def posF (n : Nat) (G : List D → Hs → R D) : List D → List D → Hs → R D := fun ds _ h => if ds.length = n then G ds h else .bad
theorem FnC.pos (h : FnOk P w K mg base (L2.CX P w) k f fd ps (spG ⟨K, mg, ci⟩ n G)) (hb : Binds K fd ps []) : FnC ci P w K mg base k f [] (posF n G) := by
  refine ⟨fun A outer s H us ws vs zs Q E hr e0 r rz hz ⟨bs, hh, ds, es, h1, h2, h3, p⟩ => ?_⟩
  unfold posF at p
  split at p
  · rename_i hl
    have sp : spG ⟨K, mg, ci⟩ n G vs H Q E := ⟨bs, hh, ds, hl, h1, h2, p⟩
    have hlen := h.len _ _ _ _ sp
    have KX : K.In s.heap := e0.mod.kin.keeps fun b o e => (e0.bs b o e).1
    have b := hb s us KX (by rw [List.append_nil, ← r.length]; exact hlen)
    rw [List.append_nil] at b
    exact h.run hr e0 b r sp
  · exact p.elim
/-- by places, names and defaults: gD tells the parameters' values -/
def kwF (n m : Nat) (gD : List D → List D → List D) (G : List D → Hs → R D) : List D → List D → Hs → R D := fun ds es h => if ds.length = n ∧ es.length = m then G (gD ds es) h else .bad
theorem FnC.kw {gv : List Value → List Value → List Value} {gV : List V → List V → List V} {gD : List D → List D → List D} (np : Nat) (h : FnOk P w K mg base (L2.CX P w) k f fd ps (spG ⟨K, mg, ci⟩ n G)) (hb : KBn K fd ps np ks gv gV)
    (hg : ∀ {bs : List Addr} {H : Hp} {ds es : List D} {vs zs : List V}, Reps ⟨K, mg, ci⟩ bs H ds vs → Reps ⟨K, mg, ci⟩ bs H es zs → ds.length = np → es.length = ks.length → Reps ⟨K, mg, ci⟩ bs H (gD ds es) (gV vs zs) ∧ (gD ds es).length = n) : FnC ci P w K mg base k f ks (kwF np ks.length gD G) := by
  refine ⟨fun A outer s H us ws vs zs Q E hr e0 r rz hz ⟨bs, hh, ds, es, h1, h2, h3, p⟩ => ?_⟩
  unfold kwF at p
  split at p
  · rename_i hl
    obtain ⟨g1, g2⟩ := hg h2 h3 hl.1 hl.2
    have KX : K.In s.heap := e0.mod.kin.keeps fun b o e => (e0.bs b o e).1
    exact h.run hr e0 (hb.to s us ws KX (by rw [← r.length, ← h2.length]; exact hl.1) (by rw [← rz.length]; exact hz)) (hb.rel r rz) ⟨bs, hh, _, g2, h1, g1, p⟩
  · exact p.elim
/-- .. positional values ahead of a star parameter -/
def starF (n : Nat) (G : List D → Hs → R D) : List D → List D → Hs → R D := fun ds _ h => if n ≤ ds.length ∧ (ds.drop n).length ≤ big then G (ds.take n ++ [.tup (ds.drop n)]) h else .bad
end
section
variable {ci : Nat → String × List String} {X : Cx} {W : WX} {k : Nat} {f C : Addr} {x m : Str} {p pos apos : Pos} {e o : Expr} {es : List Expr} {kws : List Keyword} {ks : List Str} {t : TC} {to : TE} {fc : En → Hs → R DD2} {fo : En → Hs → R D} {F : List D → List D → Hs → R D}
/-- the callee runs -/
def Asks (g : G) (E : XK) (F : List D → List D → Hs → R D) (vs zs : List V) (H : Hp) (Q : VK) : Prop := ∃ bs h ds es, HRel g bs h H ∧ Reps g bs H ds vs ∧ Reps g bs H es zs ∧ Post (relV g) g (fun C d H' => E C d H') bs H (F ds es h) Q
theorem run_c (hF : FnC ci X.prog X.w X.K X.mg X.base k f ks F) (hr : Room k X.A) (tk : Takes X W) {pins : List (Addr × Obj)} {σ : St} {H : Hp} {s : Shared} {Q : VK} {us ws : List Value} {vs zs : List V} (I : Inv X pins σ H s) (r : Vals vs us) (rz : Vals zs ws) (hz : zs.length = ks.length)
    (h : Asks (X.g ci) (WE W σ) F vs zs H Q) : wpAny (model X.prog X.w) X.A (call (.ref f) us (ks.zip ws)) (EP X pins σ Q) X.xe s := by
  refine wpAny_call (codeAny_mono (hF.run X.A X.stack s H us ws vs zs Q (WE W σ) hr I.env0 r rz hz h) fun r s' hq => ?_)
  cases r with
  | error e => exact passAt tk σ pins H s e s' I hq
  | ok fl =>
    cases fl with
    | ret u => exact I.after hq
    | next => exact False.elim hq
    | brk => exact False.elim hq
    | cont => exact False.elim hq
def tCallC (g : G) (W : WX) (F : List D → List D → Hs → R D) (t : TC) : TE := fun σ H Q => t σ H fun v H1 => Asks g (WE W σ) F v.1 v.2 H1 Q
def eCallC (F : List D → List D → Hs → R D) (fc : En → Hs → R DD2) : En → Hs → R D := fun env h => (fc env h).bind fun d h1 => F d.1 d.2 h1
/-- f(..) -/
theorem ej_call (hF : FnC ci X.prog X.w X.K X.mg X.base k f ks F) (hr : Room k X.A) (tk : Takes X W) (hg : Gl X x) (hm : X.mg x = some (.ref f)) (hk : PySem.W.keepIn X.K (.ref f) = true) (ha : CAJ ci X W es kws ks t fc) (hdb : (x == ("__debug__" : Str)) = false := by decide) :
    EJ ci X W (.Call (.Name x p) es kws pos) (tCallC (X.g ci) W F t) (eCallC F fc) :=
  ⟨⟨fun pins s σ H Q I h => wpAny_Call_Name_kw (ld_glob I hg hm (ha.p pos (.ref f) [] pins s σ H _ _ hk I h fun us ws vs zs s1 H1 I1 r rz hz q => run_c hF hr tk I1 r rz hz q) hdb)⟩,
    fun σ H env h bs Q er hr' p => ha.sim.step er hr' p fun d v bs1 H1 h1 e1 hr1 er1 rd p1 => ⟨bs1, h1, d.1, d.2, hr1, rd.1, rd.2, p1⟩⟩
/-! ### instances made -/
theorem run_mk (M : Mk X.K C f) (hF : FnC ci X.prog X.w X.K X.mg X.base k f ks F) (hr : Room (k + 1) X.A) (tk : Takes X W) {pins : List (Addr × Obj)} {σ : St} {H : Hp} {s : Shared} {Q : VK} {us ws : List Value} {vs zs : List V} (I : Inv X pins σ H s) (r : Vals vs us) (rz : Vals zs ws) (hz : zs.length = ks.length)
    (h : ∀ x dx, H x = none → H dx = none → dx ≠ x → Asks (X.g ci) (WE W σ) F (.ref x :: vs) zs (upd (upd H dx (.own x)) x (.ins C dx [])) (fun v H2 => v = .non ∧ Q (.ref x) H2)) :
    wpAny (model X.prog X.w) X.A (call (.ref C) us (ks.zip ws)) (EP X pins σ Q) X.xe s := by
  have hq := h (s.heap.objs.size + 1) s.heap.objs.size (I.hok.fresh (Nat.le_succ _)) (I.hok.fresh (Nat.le_refl _)) (Nat.ne_of_lt (Nat.lt_succ_self _))
  have I2 := Inv.made (C := C) I
  have r1 : Vals (V.ref (s.heap.objs.size + 1) :: vs) (Value.ref (s.heap.objs.size + 1) :: us) := .cons rfl r
  refine wpAny_call (make_map (f := f) I.kIn M.makes M.init (beq_iff_eq.mp M.fn) (codeAny_mono (hF.run _ X.stack _ _ (Value.ref (s.heap.objs.size + 1) :: us) ws _ zs _ (WE W σ) (hr.make C us (ks.zip ws))
    (I2.env0.make C us (ks.zip ws)) r1 rz hz hq) fun r s' hq' => ?_))
  cases r with
  | error e => exact passAt tk σ pins _ _ e s' I2 hq'
  | ok fl =>
    cases fl with
    | ret u =>
      obtain ⟨v, H', I3, rv, ev, q3⟩ := I2.after hq'
      subst ev
      exact ⟨rv, ⟨V.ref (s.heap.objs.size + 1), H', I3, rfl, q3⟩⟩
    | next => exact False.elim hq'
    | brk => exact False.elim hq'
    | cont => exact False.elim hq'
def tMakeC (g : G) (W : WX) (c : Nat) (F : List D → List D → Hs → R D) (t : TC) : TE := fun σ H Q => t σ H fun v H1 => ∃ C, IsCls g c C ∧ ∀ x dx, H1 x = none → H1 dx = none → dx ≠ x →
  Asks g (WE W σ) F (.ref x :: v.1) v.2 (upd (upd H1 dx (.own x)) x (.ins C dx [])) (fun y H2 => y = .non ∧ Q (.ref x) H2)
theorem pe_makeC {c : Nat} (M : Mk X.K C f) (hF : FnC ci X.prog X.w X.K X.mg X.base k f ks F) (hr : Room (k + 1) X.A) (tk : Takes X W) (hg : Gl X x) (hm : X.mg x = some (.ref C)) (hx : x = Str.ofString (ci c).1) (ha : CArgP X es kws ks t) (hdb : (x == ("__debug__" : Str)) = false := by decide) :
    PE X (.Call (.Name x p) es kws pos) (tMakeC (X.g ci) W c F t) :=
  ⟨fun pins s σ H Q I h => wpAny_Call_Name_kw (ld_glob I hg hm (ha pos (.ref C) [] pins s σ H _ _ M.kp I h fun us ws vs zs s1 H1 I1 r rz hz ⟨C', hC, q⟩ => by
    have hC' : X.mg (Str.ofString (ci c).1) = some (.ref C') := hC
    rw [← hx, hm] at hC'
    cases hC'
    exact run_mk M hF hr tk I1 r rz hz q) hdb)⟩
/-- C(..): one that may change; one that never changes -/
def eMakeM (c : Nat) (F : List D → List D → Hs → R D) (fc : En → Hs → R DD2) : En → Hs → R D := fun env h => (fc env h).bind fun d h1 => (F (.ref h1.length :: d.1) d.2 (h1 ++ [.ins c []])).bind fun v h2 => match v with
  | .non => .ok (.ref h1.length) h2
  | _ => .bad
open Classical in
noncomputable def eMake (c : Nat) (F : List D → List D → Hs → R D) (fc : En → Hs → R DD2) : En → Hs → R D := fun env h => (fc env h).bind fun d h1 => (F (.ref h1.length :: d.1) d.2 (h1 ++ [.ins c []])).bind fun v h2 => match v with
  | .non => match h2[h1.length]? with
    | some (.ins c' fs) => if h2 = h1 ++ [.ins c' fs] ∧ D.nrs h1.length fs = true then .ok (.obj c' fs) h1 else .bad
    | _ => .bad
  | _ => .bad
theorem two_new {g : G} {bs : List Addr} {h : Hs} {H : Hp} {x dx : Addr} {C : Addr} {c : Nat} (hr : HRel g bs h H) (hx : H x = none) (hd : H dx = none) (ne : dx ≠ x) (hc : IsCls g c C) :
    Ext bs H (bs ++ [x]) (upd (upd H dx (.own x)) x (.ins C dx [])) ∧ HRel g (bs ++ [x]) (h ++ [.ins c []]) (upd (upd H dx (.own x)) x (.ins C dx [])) := by
  have hx' : upd H dx (.own x) x = none := by rw [upd_ne (Ne.symm ne)]; exact hx
  exact ⟨(Ext.new hd).trans (.newM hx'), (hr.new hd).newM hx' ⟨C, dx, [], hc, upd_same, rfl, .nil⟩⟩
theorem sim_makeM {g : G} {c : Nat} (hc : IsCls g c C) (ha : Sim (relC g) g W t fc) : Sim (relV g) g W (tMakeC g W c F t) (eMakeM c F fc) :=
  fun σ H env h bs Q er hr' p => ha.step er hr' p fun d v bs1 H1 h1 e1 hr1 er1 rd p1 => ⟨C, hc, fun x dx hx hd ne => by
    obtain ⟨e2, hr2⟩ := two_new hr1 hx hd ne hc
    refine ⟨bs1 ++ [x], h1 ++ [.ins c []], .ref h1.length :: d.1, d.2, hr2, .cons (.ref (by rw [← hr1.len, List.getElem?_append_right (Nat.le_refl _), Nat.sub_self]; rfl)) (rd.1.mono e2), rd.2.mono e2, ?_⟩
    have p2 := Post.mono e2 p1
    cases hf : F (.ref h1.length :: d.1) d.2 (h1 ++ [.ins c []]) with
    | bad => rw [hf] at p2; exact p2
    | err c fs h' => rw [hf] at p2; exact p2
    | ok y h2 =>
      rw [hf] at p2
      simp only [R.bind_ok] at p2
      intro bs3 H3 vy e3 hr3 ry
      cases ry with
      | non =>
        refine ⟨rfl, p2 bs3 H3 _ e3 hr3 (.ref (e3.get ?_))⟩
        rw [← hr1.len, List.getElem?_append_right (Nat.le_refl _), Nat.sub_self]; rfl
      | _ => exact p2.elim⟩
theorem sim_make {g : G} {c : Nat} (hc : IsCls g c C) (ha : Sim (relC g) g W t fc) : Sim (relV g) g W (tMakeC g W c F t) (eMake c F fc) :=
  fun σ H env h bs Q er hr' p => ha.step er hr' p fun d v bs1 H1 h1 e1 hr1 er1 rd p1 => ⟨C, hc, fun x dx hx hd ne => by
    obtain ⟨e2, hr2⟩ := two_new hr1 hx hd ne hc
    have atx : (bs1 ++ [x])[h1.length]? = some x := by rw [← hr1.len, List.getElem?_append_right (Nat.le_refl _), Nat.sub_self]; rfl
    refine ⟨bs1 ++ [x], h1 ++ [.ins c []], .ref h1.length :: d.1, d.2, hr2, .cons (.ref atx) (rd.1.mono e2), rd.2.mono e2, ?_⟩
    have p1' : Post (relV g) g (fun C d H' => W C d σ H') bs1 H1 ((F (.ref h1.length :: d.1) d.2 (h1 ++ [.ins c []])).bind _) Q := p1
    cases hf : F (.ref h1.length :: d.1) d.2 (h1 ++ [.ins c []]) with
    | bad => rw [hf] at p1'; exact p1'
    | err c fs h' => rw [hf] at p1'; exact fun C dd bs' H' e => p1' C dd bs' H' (e2.trans e)
    | ok y h2 =>
      rw [hf] at p1'
      simp only [R.bind_ok] at p1'
      intro bs3 H3 vy e3 hr3 ry
      cases ry with
      | non =>
        refine ⟨rfl, ?_⟩
        dsimp only at p1'
        split at p1'
        · rename_i c' fs hi
          split at p1'
          · rename_i hh
            obtain ⟨rfl, hn⟩ := hh
            obtain ⟨⟨more, rfl, _⟩, _, _⟩ := id e3
            have hl := hr3.len
            simp only [List.length_append, List.length_cons, List.length_nil, hr1.len] at hl
            obtain rfl : more = [] := List.eq_nil_of_length_eq_zero (by omega)
            rw [List.append_nil] at hr3 e3
            obtain ⟨a', g1, C', dx', fvs, g2, g3, g4, g5⟩ := hr3.at_ _ _ hi
            rw [atx] at g1
            cases g1
            have eAll := e2.trans e3
            exact p1' bs1 H3 _ ⟨⟨[], by simp, fun _ z => nomatch z⟩, eAll.keep, eAll.cel⟩ (hr1.pop hr3) (.obj (hr1.out hx) g2 g3 g4 (g5.shrink (by rw [hr1.len]; exact hn)))
          · exact p1'.elim
        · exact p1'.elim
      | _ => exact p1'.elim⟩
/-- a class of one's own: its call with such arguments -/
def MakeC (ci : Nat → String × List String) (P : Program) (w : World) (K : PySem.W.Frag) (mg : Str → Option Value) (base : Heap) (c k : Nat) (ks : List Str) (F : List D → List D → Hs → R D) : Prop :=
  ∃ C f, mg (Str.ofString (ci c).1) = some (.ref C) ∧ Mk K C f ∧ FnC ci P w K mg base k f ks F
theorem ej_makeM (c : Nat) (h : MakeC ci X.prog X.w X.K X.mg X.base c k ks F) (hr : Room (k + 1) X.A) (tk : Takes X W) (ha : CAJ ci X W es kws ks t fc) (hx : x = Str.ofString (ci c).1 := by rfl) (hg : Gl X x := by rfl) (hdb : (x == ("__debug__" : Str)) = false := by decide) :
    EJ ci X W (.Call (.Name x p) es kws pos) (tMakeC (X.g ci) W c F t) (eMakeM c F fc) := by
  obtain ⟨C, f, h1, h2, h3⟩ := h
  exact ⟨pe_makeC h2 h3 hr tk hg (by rw [hx]; exact h1) hx ha.p hdb, sim_makeM h1 ha.sim⟩
theorem ej_make (c : Nat) (h : MakeC ci X.prog X.w X.K X.mg X.base c k ks F) (hr : Room (k + 1) X.A) (tk : Takes X W) (ha : CAJ ci X W es kws ks t fc) (hx : x = Str.ofString (ci c).1 := by rfl) (hg : Gl X x := by rfl) (hdb : (x == ("__debug__" : Str)) = false := by decide) :
    EJ ci X W (.Call (.Name x p) es kws pos) (tMakeC (X.g ci) W c F t) (eMake c F fc) := by
  obtain ⟨C, f, h1, h2, h3⟩ := h
  exact ⟨pe_makeC h2 h3 hr tk hg (by rw [hx]; exact h1) hx ha.p hdb, sim_make h1 ha.sim⟩
/-- a def of the module: its call with such arguments -/
def NameC (ci : Nat → String × List String) (P : Program) (w : World) (K : PySem.W.Frag) (mg : Str → Option Value) (base : Heap) (x : Str) (k : Nat) (ks : List Str) (F : List D → List D → Hs → R D) : Prop :=
  ∃ f, mg x = some (.ref f) ∧ PySem.W.keepIn K (.ref f) = true ∧ FnC ci P w K mg base k f ks F
theorem ej_fn (h : NameC ci X.prog X.w X.K X.mg X.base x k ks F) (hr : Room k X.A) (tk : Takes X W) (ha : CAJ ci X W es kws ks t fc) (hg : Gl X x := by rfl) (hdb : (x == ("__debug__" : Str)) = false := by decide) :
    EJ ci X W (.Call (.Name x p) es kws pos) (tCallC (X.g ci) W F t) (eCallC F fc) := by
  obtain ⟨f, h1, h2, h3⟩ := h
  exact ej_call h3 hr tk hg h1 h2 ha hdb
/-! ### methods -/
/-- an instance of the class c -/
def isIns (c : Nat) (x : D) (h : Hs) : Bool := match x with
  | .obj c' _ => decide (c' = c)
  | .ref n => match h[n]? with
    | some (.ins c' _) => decide (c' = c)
    | _ => false
  | _ => false
theorem lookup_none {fs : List (Str × V)} {m : Str} (h : m ∉ fs.map (·.1)) : fs.lookup m = none := by
  induction fs with
  | nil => rfl
  | cons p r ih =>
    obtain ⟨k, v⟩ := p
    have h1 : m ≠ k := fun z => h (by rw [z]; exact List.mem_cons_self)
    have hb : (m == k) = false := beq_eq_false_iff_ne.mpr h1
    simp only [List.lookup, hb]
    exact ih fun z => h (List.mem_cons_of_mem _ z)
theorem isIns_ok {g : G} {bs : List Addr} {h : Hs} {H : Hp} {x : D} {v : V} {c : Nat} (hr : HRel g bs h H) (r : Rep g bs H x v) (e : isIns c x h = true) : ∃ a C dx fs n, v = .ref a ∧ IsCls g c C ∧ H a = some (.ins C dx fs) ∧ fs.map (·.1) = flds g c n := by
  cases r with
  | obj n hc ho hf rs =>
    have e' : decide (_ = c) = true := e
    obtain rfl := of_decide_eq_true e'
    exact ⟨_, _, _, _, _, rfl, hc, ho, hf⟩
  | @ref n a hb =>
    unfold isIns at e
    dsimp only at e
    split at e
    · rename_i c' fs hi
      obtain rfl := of_decide_eq_true e
      obtain ⟨a', g1, C', dx', fvs, g2, g3, g4, g5⟩ := hr.at_ _ _ hi
      rw [hb] at g1
      cases g1
      exact ⟨_, _, _, _, _, rfl, g2, g3, g4⟩
    · cases e
  | _ => cases e
def tMethC (g : G) (W : WX) (c : Nat) (m : Str) (F : List D → List D → Hs → R D) (to : TE) (t : TC) : TE := fun σ H Q => to σ H fun x H1 => ∃ C a dx fs, IsCls g c C ∧ x = .ref a ∧ H1 a = some (.ins C dx fs) ∧ fs.lookup m = none ∧ t σ H1 fun v H2 => Asks g (WE W σ) F (x :: v.1) v.2 H2 Q
def eMeth (c : Nat) (F : List D → List D → Hs → R D) (fo : En → Hs → R D) (fc : En → Hs → R DD2) : En → Hs → R D := fun env h => (fo env h).bind fun x h1 => if isIns c x h1 = true then (fc env h1).bind fun d h2 => F (x :: d.1) d.2 h2 else .bad
/-- a method of a class of one's own -/
def MethC (ci : Nat → String × List String) (P : Program) (w : World) (K : PySem.W.Frag) (mg : Str → Option Value) (base : Heap) (c : Nat) (m : Str) (k : Nat) (ks : List Str) (F : List D → List D → Hs → R D) : Prop :=
  ∃ C f, mg (Str.ofString (ci c).1) = some (.ref C) ∧ Cls K C ∧ Meth K C m f ∧ FnC ci P w K mg base k f ks F
theorem ej_meth {pl : Sem Bool} (c : Nat) (he : EJ ci X W o to fo) (h : MethC ci X.prog X.w X.K X.mg X.base c m k ks F) (hr : Room k X.A) (tk : Takes X W) (ha : CAJ ci X W es kws ks t fc) (hno : ((ci c).2.map Str.ofString).contains m = false := by decide +kernel)
    (ht : eval (.Call (.Attribute o m apos) es kws pos) X.env = (do
      let ov ← eval o X.env
      standAt apos.atName
      let (f, first) ← holding [ov] (getMethod ov m pl)
      callWith pos f first (backTo pos (starEach es X.env)) (backToKw pos (keywordEach kws X.env))) := by rfl) :
    EJ ci X W (.Call (.Attribute o m apos) es kws pos) (tMethC (X.g ci) W c m F to t) (eMeth c F fo fc) := by
  obtain ⟨C, f, hc, hcl, hm, hF⟩ := h
  refine ⟨⟨fun pins s σ H Q I h => by
      refine PySem.W.methodCall_KW (pl := pl) (thn (he.pe.run pins s σ H _ I h) fun u s1 ⟨x, H1, I1, rx, C', a, dx, fs, hC', ex, ea, l, q⟩ => ?_) ht
      subst ex
      have hC2 : X.mg (Str.ofString (ci c).1) = some (.ref C') := hC'
      rw [hc] at hC2
      cases hC2
      obtain rfl : u = Value.ref a := rx
      refine getmeth_ok I1 ea hcl hm l ?_
      exact ha.p pos (.ref f) [.ref a] pins s1 σ H1 _ _ hm.kp I1 q fun us ws vs zs s2 H2 I2 r rz hz q2 => run_c (us := .ref a :: us) (vs := .ref a :: vs) hF hr tk I2 (.cons rfl r) rz hz q2⟩,
    fun σ H env h bs Q er hr' p => he.sim.step er hr' p fun x vx bs1 H1 h1 e1 hr1 er1 rx p1 => by
      split at p1
      · rename_i hi
        obtain ⟨a, C', dx, fs, n, rfl, c1, c2, c3⟩ := isIns_ok hr1 rx hi
        refine ⟨C', a, dx, fs, c1, rfl, c2, lookup_none ?_, ha.sim.step er1 hr1 p1 fun d v bs2 H2 h2 e2 hr2 er2 rd p2 => ⟨bs2, h2, _ :: d.1, d.2, hr2, .cons (rx.mono e2) rd.1, rd.2, p2⟩⟩
        rw [c3]
        unfold flds
        intro z
        have : m ∈ (ci c).2.map Str.ofString := by
          obtain ⟨y, hy, rfl⟩ := List.mem_map.mp z
          exact List.mem_map_of_mem (List.mem_of_mem_take hy)
        have h2 : ((ci c).2.map Str.ofString).contains m = true := by simpa using this
        rw [hno] at h2
        cases h2
      · exact p1.elim⟩
end
end Ev
set_option Elab.async false
set_option linter.all false
set_option maxRecDepth 100000
set_option maxHeartbeats 4000000
namespace Ev
open PySem L2

/-! ### attributes -/
/-- f is the i-th field of the class c, and no class attribute -/
structure FldAt (ci : Nat → String × List String) (K : PySem.W.Frag) (mg : Str → Option Value) (f : Str) (c i : Nat) : Prop where
  at_ : ((ci c).2.map Str.ofString)[i]? = some f
  first : ∀ j, j < i → ((ci c).2.map Str.ofString)[j]? ≠ some f
  cl : ∀ C, mg (Str.ofString (ci c).1) = some (.ref C) → Cls K C ∧ NoAttr K C f
def fieldI : List (Nat × Nat) → Nat → Option Nat
  | [], _ => none
  | (c, i) :: r, k => if c = k then some i else fieldI r k
theorem fieldI_ok : ∀ {tab : List (Nat × Nat)} {c i : Nat}, fieldI tab c = some i → (c, i) ∈ tab
  | (c', i') :: r, c, i, h => by
    unfold fieldI at h
    split at h
    · rename_i e
      cases h
      rw [← e]
      exact List.mem_cons_self
    · exact List.mem_cons_of_mem _ (fieldI_ok h)
theorem lookup_at {ns : List Str} {f : Str} : ∀ {fs : List (Str × V)} {i n : Nat} {v : V}, fs.map (·.1) = ns.take n → ns[i]? = some f → (∀ j, j < i → ns[j]? ≠ some f) → (fs.map (·.2))[i]? = some v → fs.lookup f = some v := by
  induction ns with
  | nil => intro fs i n v _ h; simp at h
  | cons a ns ih =>
    intro fs i n v h1 h2 h3 h4
    cases fs with
    | nil => simp at h4
    | cons p r =>
      obtain ⟨k, x⟩ := p
      cases n with
      | zero => simp at h1
      | succ n =>
        simp only [List.map_cons, List.take_succ_cons, List.cons.injEq] at h1
        obtain ⟨rfl, h1⟩ := h1
        cases i with
        | zero =>
          simp at h2 h4
          subst h2 h4
          simp [List.lookup]
        | succ i =>
          have hne : k ≠ f := fun e => h3 0 (Nat.succ_pos _) (by simp [e])
          have hb : (f == k) = false := beq_eq_false_iff_ne.mpr (Ne.symm hne)
          simp only [List.lookup, hb]
          exact ih h1 (by simpa using h2) (fun j hj => by have := h3 (j + 1) (by omega); simpa using this) (by simpa using h4)
/-- the fields of an instance -/
def insOf (h : Hs) : D → Option (Nat × List D)
  | .obj c fs => some (c, fs)
  | .ref n => match h[n]? with
    | some (.ins c fs) => some (c, fs)
    | _ => none
  | _ => none
theorem insOf_ok {g : G} {bs : List Addr} {h : Hs} {H : Hp} {x : D} {v : V} {c : Nat} {ds : List D} (hr : HRel g bs h H) (r : Rep g bs H x v) (e : insOf h x = some (c, ds)) :
    ∃ a C dx fs, v = .ref a ∧ IsCls g c C ∧ H a = some (.ins C dx fs) ∧ fs.map (·.1) = flds g c ds.length ∧ Reps g bs H ds (fs.map (·.2)) := by
  cases r with
  | obj n hc ho hf rs => cases e; exact ⟨_, _, _, _, rfl, hc, ho, hf, rs⟩
  | @ref n a hb =>
    unfold insOf at e
    dsimp only at e
    split at e
    · rename_i c' fs hi
      cases e
      obtain ⟨a', g1, C', dx', fvs, g2, g3, g4, g5⟩ := hr.at_ _ _ hi
      rw [hb] at g1
      cases g1
      exact ⟨_, _, _, _, rfl, g2, g3, g4, g5⟩
    · cases e
  | _ => cases e
def attrD (tab : List (Nat × Nat)) (x : D) (h : Hs) : R D := match insOf h x with
  | some (c, ds) => match fieldI tab c with
    | some i => match ds[i]? with
      | some d => .ok d h
      | none => .bad
    | none => .bad
  | none => .bad
section
variable {ci : Nat → String × List String} {X : Cx} {W : WX} {o e : Expr} {f : Str} {pos pos' : Pos} {to te : TE} {fo fe : En → Hs → R D}
def eAttr (tab : List (Nat × Nat)) (fo : En → Hs → R D) : En → Hs → R D := fun env h => (fo env h).bind (attrD tab)
theorem ej_attr (tab : List (Nat × Nat)) (ho : EJ ci X W o to fo) (ht : ∀ p ∈ tab, FldAt ci X.K X.mg f p.1 p.2) (hb : attributeBase o f X.env (eval o X.env) = eval o X.env := by rfl) : EJ ci X W (.Attribute o f pos) (tFld X.K to f) (eAttr tab fo) :=
  ⟨pe_fld ho.pe hb, fun σ H env h bs Q er hr p => ho.sim.step er hr p fun x vx bs1 H1 h1 e1 hr1 er1 rx p1 => by
    unfold attrD at p1
    split at p1
    · rename_i c ds hi
      split at p1
      · rename_i i hf
        split at p1
        · rename_i d hd
          obtain ⟨a, C, dx, fs, rfl, g2, g3, g4, g5⟩ := insOf_ok hr1 rx hi
          have F := ht _ (fieldI_ok hf)
          obtain ⟨cl, na⟩ := F.cl C g2
          obtain ⟨v, hv, rv⟩ := g5.get hd
          refine ⟨a, C, dx, fs, v, rfl, g3, cl, na, lookup_at (ns := (ci c).2.map Str.ofString) (n := ds.length) ?_ F.at_ F.first hv, Post.ok_ p1 hr1 rv⟩
          rw [g4]
          unfold flds
          rw [List.map_take]
        · exact p1.elim
      · exact p1.elim
    · exact p1.elim⟩
/-- o.f = e, o one that may change -/
def putI (ds : List D) (i : Nat) (d : D) : Option (List D) := if i < ds.length then some (ds.set i d) else if i = ds.length then some (ds ++ [d]) else none
def setAttrD (tab : List (Nat × Nat)) (x : D) (y : D) (h : Hs) : Option Hs := match x with
  | .ref n => match h[n]? with
    | some (.ins c ds) => match fieldI tab c with
      | some i => if ds.length < 900 then (match putI ds i y with
        | some ds' => some (h.set n (.ins c ds'))
        | none => none) else none
      | none => none
    | _ => none
  | _ => none
def sAttr (tab : List (Nat × Nat)) (fo fe : En → Hs → R D) : En → Hs → S := fun env h => (fe env h).toS env fun y h1 => (fo env h1).toS env fun x h2 => match setAttrD tab x y h2 with
  | some h3 => .nx env h3
  | none => .bad
theorem putF_names {ns : List Str} {f : Str} {v : V} : ∀ {fs : List (Str × V)} {i n : Nat}, fs.map (·.1) = ns.take n → fs.length = n → ns[i]? = some f → (∀ j, j < i → ns[j]? ≠ some f) → i ≤ n →
    (putF f v fs).map (·.1) = ns.take (if i < n then n else n + 1) ∧ (putF f v fs).map (·.2) = if i < n then (fs.map (·.2)).set i v else fs.map (·.2) ++ [v] := by
  induction ns with
  | nil => intro fs i n _ _ h; simp at h
  | cons a ns ih =>
    intro fs i n h1 hl h2 h3 hi
    cases fs with
    | nil =>
      simp at hl
      subst hl
      have : i = 0 := by omega
      subst this
      simp at h2
      subst h2
      simp [putF]
    | cons p r =>
      obtain ⟨k, x⟩ := p
      cases n with
      | zero => simp at hl
      | succ n =>
        simp only [List.map_cons, List.take_succ_cons, List.cons.injEq] at h1
        obtain ⟨rfl, h1⟩ := h1
        simp only [List.length_cons, Nat.add_right_cancel_iff] at hl
        cases i with
        | zero =>
          simp at h2
          subst h2
          simp [putF, h1]
        | succ i =>
          have hne : ¬ k = f := fun e => h3 0 (Nat.succ_pos _) (by simp [e])
          obtain ⟨q1, q2⟩ := ih (i := i) (n := n) h1 hl (by simpa using h2) (fun j hj => by have := h3 (j + 1) (by omega); simpa using this) (by omega)
          unfold putF
          rw [if_neg hne]
          by_cases hlt : i < n
          · rw [if_pos hlt] at q1 q2
            rw [if_pos (by omega), if_pos (by omega)]
            simp [q1, q2]
          · rw [if_neg hlt] at q1 q2
            rw [if_neg (by omega), if_neg (by omega)]
            simp [q1, q2]
theorem setAttr_ok {g : G} {tab : List (Nat × Nat)} {bs : List Addr} {h h3 : Hs} {H : Hp} {x y : D} {vx vy : V} (ht : ∀ p ∈ tab, FldAt g.ci g.K g.mg f p.1 p.2) (hr : HRel g bs h H) (rx : Rep g bs H x vx) (ry : Rep g bs H y vy) (e : setAttrD tab x y h = some h3) :
    ∃ a C dx fs, vx = .ref a ∧ H a = some (.ins C dx fs) ∧ Cls g.K C ∧ NoAttr g.K C f ∧ fs.length < 1000 ∧ Ext bs H bs (upd H a (.ins C dx (putF f vy fs))) ∧ HRel g bs h3 (upd H a (.ins C dx (putF f vy fs))) := by
  unfold setAttrD at e
  split at e
  · rename_i n
    split at e
    · rename_i c ds hi
      split at e
      · rename_i i hf
        split at e
        · rename_i hl
          split at e
          · rename_i ds' hp
            cases e
            cases rx with
            | @ref _ a hb =>
              obtain ⟨a', g1, C, dx, fs, g2, g3, g4, g5⟩ := hr.at_ _ _ hi
              rw [hb] at g1
              cases g1
              have F := ht _ (fieldI_ok hf)
              obtain ⟨cl, na⟩ := F.cl C g2
              have hlen : fs.length = ds.length := by
                have := g5.length
                rw [List.length_map] at this
                exact this.symm
              have hle : i ≤ ds.length := by
                unfold putI at hp
                split at hp
                · omega
                · split at hp
                  · omega
                  · cases hp
              have g4' : fs.map (·.1) = ((g.ci c).2.map Str.ofString).take ds.length := by
                rw [g4]; unfold flds; rw [List.map_take]
              obtain ⟨q1, q2⟩ := putF_names (v := vy) g4' hlen F.at_ F.first hle
              refine ⟨a, C, dx, fs, rfl, g3, cl, na, by rw [hlen]; omega, .cell hr hb, hr.cell hb ⟨C, dx, _, g2, upd_same, ?_, ?_⟩⟩
              · rw [q1]
                unfold putI at hp
                unfold flds
                rw [List.map_take]
                split at hp
                · rename_i hlt
                  cases hp
                  rw [if_pos hlt, List.length_set]
                · rename_i hlt
                  split at hp
                  · cases hp
                    rw [if_neg hlt, List.length_append]
                    rfl
                  · cases hp
              · rw [q2]
                unfold putI at hp
                split at hp
                · rename_i hlt
                  cases hp
                  rw [if_pos hlt]
                  exact (g5.set ry i).mono (.cell hr hb)
                · rename_i hlt
                  split at hp
                  · cases hp
                    rw [if_neg hlt]
                    exact (g5.append (.cons ry .nil)).mono (.cell hr hb)
                  · cases hp
          · cases e
        · cases e
      · cases e
    · cases e
  · cases e
theorem sj_attr (tab : List (Nat × Nat)) (ho : EJ ci X W o to fo) (he : EJ ci X W e te fe) (ht : ∀ p ∈ tab, FldAt ci X.K X.mg f p.1 p.2) (hs : swapsWith e (some (.Attribute o f pos')) pos.line X.env = pure false := by rfl) :
    SJ ci X W (.Assign [.Attribute o f pos'] e pos) (sFld X.K to te f) (sAttr tab fo fe) :=
  ⟨ps_fld ho.pe he.pe hs, fun σ H env h bs E er hr p => he.sim.stepS er hr p fun y vy bs1 H1 h1 e1 hr1 er1 ry p1 => ho.sim.stepS er1 hr1 p1 fun x vx bs2 H2 h2 e2 hr2 er2 rx p2 => by
    split at p2
    · rename_i h3 hh
      obtain ⟨a, C, dx, fs, rfl, q1, q2, q3, q4, q5, q6⟩ := setAttr_ok (g := X.g ci) ht hr2 rx (ry.mono e2) hh
      exact ⟨a, C, dx, fs, rfl, q1, q2, q3, q4, p2 bs2 _ σ q5 q6 (er2.mono q5)⟩
    · exact p2.elim⟩
end
/-! ### isinstance -/
inductive Ty where
  | int | str | bool | list | tuple | cls (c : Nat)
def primOf (x : D) (h : Hs) : Option String := match x with
  | .non => some "NoneType"
  | .bl _ => some "bool"
  | .int _ => some "int"
  | .str _ => some "str"
  | .tup _ => some "tuple"
  | .lst _ => some "list"
  | .rol _ => some "list"
  | .ref n => match cellL h n with
    | some _ => some "list"
    | none => none
  | .obj _ _ => none
  | .dct _ _ => none
  | .dnt _ _ => none
/-- what a type is to the kinds -/
def primIs : Ty → String → Bool
  | .int, n => n == "int" || n == "bool"
  | .str, n => n == "str"
  | .bool, n => n == "bool"
  | .list, n => n == "list"
  | .tuple, n => n == "tuple"
  | .cls _, _ => false
def clsIs : Ty → Nat → Bool
  | .cls c, k => decide (k = c)
  | _, _ => false
structure ClsT (K : PySem.W.Frag) (C : Addr) : Prop where
  cl : Cls K C
  ha : PySem.W.findIn K (.ref C) "__class__" = some (some (.builtin "object.__class__"))
  hn : PySem.W.specialIn K (.builtin "object.__class__") "__get__" = some (some (.builtin "getset_descriptor.__get__"))
  htk : PySem.W.takesIn K (.builtin "object.__class__") = some true
  hm : PySem.W.mroIn K C (.type "object") = some true
structure IsiF (ci : Nat → String × List String) (K : PySem.W.Frag) (mg : Str → Option Value) (ty : Ty) (cs : List Nat) (u : Value) : Prop where
  prim : ∀ n ∈ ["NoneType", "bool", "int", "str", "list", "tuple"], PySem.W.kitOne K (.type n) u = some (primIs ty n)
  own : ∀ c ∈ cs, ∀ C, mg (Str.ofString (ci c).1) = some (.ref C) → ClsT K C ∧ PySem.W.kitOne K (.ref C) u = some (clsIs ty c)
def isiD (ty : Ty) (cs : List Nat) (x : D) (h : Hs) : R D := match primOf x h with
  | some n => .ok (.bl (primIs ty n)) h
  | none => match insOf h x with
    | some (c, _) => if c ∈ cs then .ok (.bl (clsIs ty c)) h else .bad
    | none => .bad
theorem prim_ok {g : G} {bs : List Addr} {h : Hs} {H : Hp} {x : D} {v : V} {n : String} (hr : HRel g bs h H) (r : Rep g bs H x v) (e : primOf x h = some n) : TyX g.K H v (.type n) ∧ n ∈ ["NoneType", "bool", "int", "str", "list", "tuple"] := by
  cases r with
  | non => cases e; exact ⟨.base .non, by simp⟩
  | bl b => cases e; exact ⟨.base (.bl _), by simp⟩
  | int i => cases e; exact ⟨.base (.int _), by simp⟩
  | str hs => cases e; exact ⟨.base (.str _), by simp⟩
  | tup t rs =>
    cases e
    refine ⟨?_, by simp⟩
    rcases t with ⟨_, t | ⟨o, t⟩⟩ | ⟨o, its, n, h1, h2, _⟩
    · exact .base (.tup t)
    · exact .fTuple t
    · exact .kTuple h1 h2
  | lst n hl rs => cases e; exact ⟨.base (.lst hl), by simp⟩
  | rol hl rs =>
    cases e
    refine ⟨?_, by simp⟩
    rcases hl with ⟨_, t | ⟨o, t⟩⟩ | ⟨o, its, n, h1, h2, _⟩
    · exact .base (.lst t)
    · exact .base (.frz t)
    · exact .kList h1 h2
  | @ref n a hb =>
    have e' : (match cellL h n with
      | some _ => some "list"
      | none => none) = some _ := e
    cases hc : cellL h n with
    | none => rw [hc] at e'; cases e'
    | some ys =>
      rw [hc] at e'
      cases e'
      obtain ⟨vs, h1, _⟩ := cell_ok hr hb hc
      exact ⟨.base (.lst h1), by simp⟩
  | obj => cases e
  | dct => cases e
  | dnt => cases e
section
variable {ci : Nat → String × List String} {X : Cx} {W : WX} {o : Expr} {x : Str} {p pos np : Pos} {to : TE} {fo : En → Hs → R D}
def eIsi (ty : Ty) (cs : List Nat) (fo : En → Hs → R D) : En → Hs → R D := fun env h => (fo env h).bind (isiD ty cs)
theorem sim_isi {g : G} {ty : Ty} {cs : List Nat} {c : V} {u : Value} (hv : ClsV c u) (F : IsiF g.ci g.K g.mg ty cs u) (ho : Sim (relV g) g W to fo) : Sim (relV g) g W (tCB (rIsi g.K) (tCons to (tCons (tC c) tNil))) (eIsi ty cs fo) :=
  fun σ H env h bs Q er hr p => ho.step er hr p fun d vd bs1 H1 h1 e1 hr1 er1 rx p1 => by
    show rIsi g.K [vd, c] H1 Q
    unfold isiD at p1
    split at p1
    · rename_i n hn
      obtain ⟨t1, t2⟩ := prim_ok hr1 rx hn
      exact ⟨vd, c, _, u, _, rfl, hv, t1, F.prim n t2, Post.ok_ p1 hr1 (.bl _)⟩
    · split at p1
      · rename_i k fs hi
        split at p1
        · rename_i hk
          obtain ⟨a, C, dx, fvs, rfl, g2, g3, g4, g5⟩ := insOf_ok hr1 rx hi
          obtain ⟨ct, kt⟩ := F.own k hk C g2
          exact ⟨_, c, _, u, _, rfl, hv, .base (.ins g3 ct.cl ct.ha ct.hn ct.htk ct.hm), kt, Post.ok_ p1 hr1 (.bl _)⟩
        · exact p1.elim
      · exact p1.elim
/-- isinstance(o, int), .. a built-in type -/
theorem ej_isiB (ty : Ty) (cs : List Nat) (n : String) (hm : X.mg "isinstance" = none) (hmx : X.mg x = none) (ho : EJ ci X W o to fo) (F : IsiF ci X.K X.mg ty cs (.type n)) (hb : bootBuiltins x = some (.type n) := by decide +kernel) (hg : Gl X "isinstance" := by rfl) (hgx : Gl X x := by rfl) (hxn : x ≠ "__name__" := by decide) (hxd : (x == ("__debug__" : Str)) = false := by decide)
    (he : starEach [o, .Name x np] X.env = (false, eval o X.env) :: starEach [.Name x np] X.env := by rfl) (hpl : (backTo pos (starEach [.Name x np] X.env)).any (·.1) = false := by rfl) :
    EJ ci X W (.Call (.Name "isinstance" p) [o, .Name x np] [] pos) (tCB (rIsi X.K) (tCons to (tCons (tC (.ty n)) tNil))) (eIsi ty cs fo) :=
  ⟨pe_callB call_isi hg hm (by decide +kernel) (pa_cons ho.pe (pa_cons (pe_bltn hgx hmx hb rfl hxn hxd) pa_nil) he) (by decide) (by decide) he hpl, sim_isi (g := X.g ci) (.ty n) F ho.sim⟩
/-- isinstance(o, C), C a class of one's own -/
def tIsiC (g : G) (c : Nat) (to : TE) : TE := fun σ H Q => ∃ C, IsCls g c C ∧ tCB (rIsi g.K) (tCons to (tCons (tC (.ref C)) tNil)) σ H Q
def IsiC (ci : Nat → String × List String) (K : PySem.W.Frag) (mg : Str → Option Value) (c : Nat) (cs : List Nat) : Prop := ∃ C, mg (Str.ofString (ci c).1) = some (.ref C) ∧ IsiF ci K mg (.cls c) cs (.ref C)
theorem ej_isiC (c : Nat) (cs : List Nat) (hm : X.mg "isinstance" = none) (ho : EJ ci X W o to fo) (F : IsiC ci X.K X.mg c cs) (hx : x = Str.ofString (ci c).1 := by rfl) (hg : Gl X "isinstance" := by rfl) (hgx : Gl X x := by rfl) (hxd : (x == ("__debug__" : Str)) = false := by decide)
    (he : starEach [o, .Name x np] X.env = (false, eval o X.env) :: starEach [.Name x np] X.env := by rfl) (hpl : (backTo pos (starEach [.Name x np] X.env)).any (·.1) = false := by rfl) :
    EJ ci X W (.Call (.Name "isinstance" p) [o, .Name x np] [] pos) (tIsiC (X.g ci) c to) (eIsi (.cls c) cs fo) := by
  obtain ⟨C, hC, F⟩ := F
  refine ⟨⟨fun pins s σ H Q I ⟨C', hC', h⟩ => ?_⟩, fun σ H env h bs Q er hr p => ⟨C, hC, sim_isi (g := X.g ci) (.own C) F ho.sim σ H env h bs Q er hr p⟩⟩
  have hC2 : X.mg (Str.ofString (ci c).1) = some (.ref C') := hC'
  rw [hC] at hC2
  cases hC2
  exact (pe_callB call_isi hg hm (by decide +kernel) (pa_cons ho.pe (pa_cons (pe_glob (v := .ref C) (u := .ref C) hgx (by rw [hx]; exact hC) rfl hxd) pa_nil) he) (by decide) (by decide) he hpl).run pins s σ H Q I h
end
/-! ### raise -/
/-- what the __init__ of an own error of one field promises -/
def spExc (K : PySem.W.Frag) (C : Addr) (f : Str) : Sp := fun vs H Q _ => ∃ a y, vs = [.ref a, y] ∧ H a = some (exo a C none) ∧ ∀ dx, H dx = none → dx ≠ a → Q .non (upd (upd H dx (exd dx [(f, y)])) a (exo a C (some dx)))
structure ExcF (ci : Nat → String × List String) (P : Program) (w : World) (K : PySem.W.Frag) (mg : Str → Option Value) (base : Heap) (c : Nat) (f : Str) (C : Addr) : Prop where
  oex : OexC K C
  is : mg (Str.ofString (ci c).1) = some (.ref C)
  fl : (ci c).2.map Str.ofString = [f]
  init : ∃ (fI : Addr) (fd : FuncData) (ps : List Str), PySem.W.findIn K (.ref C) "__init__" = some (some (.ref fI)) ∧ PySem.W.typeIn K (.ref fI) = some (.type "function") ∧ L2.FnOk P w K mg base (L2.CX P w) 3 fI fd ps (spExc K C f) ∧ Binds K fd ps []
def ExcC (ci : Nat → String × List String) (P : Program) (w : World) (K : PySem.W.Frag) (mg : Str → Option Value) (base : Heap) (c : Nat) (f : Str) : Prop := ∃ C, ExcF ci P w K mg base c f C
section
variable {ci : Nat → String × List String} {X : Cx} {W : WX} {e : Expr} {x f : Str} {c : Nat} {C : Addr} {p pos cpos : Pos} {te : TE} {fe : En → Hs → R D} {k : Nat}
def sRaise (c : Nat) (fe : En → Hs → R D) : En → Hs → S := fun env h => (fe env h).toS env fun d h1 => .err c [d] env h1
def tRaiseC (g : G) (W : WX) (c : Nat) (f : Str) (te : TE) : TS := fun _ σ H => ∃ C, IsCls g c C ∧ tMkO C (spExc g.K C f) [] (tCons te tNil) σ H fun cls d H' => W cls d σ H'
theorem sj_raise (c : Nat) (hc : X.calm = true) (F : ExcC ci X.prog X.w X.K X.mg X.base c f) (hr : Room 4 X.A) (tk : Takes X W) (he : EJ ci X W e te fe) (hx : x = Str.ofString (ci c).1 := by rfl) (hg : Gl X x := by rfl) (hdb : (x == ("__debug__" : Str)) = false := by decide)
    (hst : starEach [e] X.env = (false, eval e X.env) :: starEach [] X.env := by rfl) (hpl : (backTo cpos (starEach [] X.env)).any (·.1) = false := by rfl) :
    SJ ci X W (.Raise (some (.Call (.Name x p) [e] [] cpos)) none pos) (tRaiseC (X.g ci) W c f te) (sRaise c fe) := by
  obtain ⟨C, F⟩ := F
  obtain ⟨fI, fd, ps, i1, i2, i3, i4⟩ := F.init
  refine ⟨⟨fun pins s σ H D I ⟨C', hC', h⟩ => ?_⟩, fun σ H env h bs E er hr' p => ⟨C, F.is, he.sim.stepS er hr' p fun d v bs1 H1 h1 e1 hr1 er1 rd p1 => ?_⟩⟩
  · have hC2 : X.mg (Str.ofString (ci c).1) = some (.ref C') := hC'
    rw [F.is] at hC2
    cases hC2
    exact (ps_raise hc tk (pmk_oex F.oex i1 i2 i3 hr.r i4 .nil passL hg (by rw [hx]; exact F.is) (pa_cons he.pe pa_nil hst) hdb hst hpl)).run pins s σ H D I h
  · refine ⟨by show 1 ≤ 1000; decide, fun a ha => ⟨a, v, rfl, upd_same, fun dx hdx hne => ⟨rfl, dx, [(f, v)], upd_same, ?_, ?_, ?_⟩⟩⟩
    · rw [upd_ne hne, upd_same]
    · rw [upd_ne hne] at hdx; exact hdx
    · have hdx' : H1 dx = none := by rw [upd_ne hne] at hdx; exact hdx
      have eH : upd (del (upd (upd (upd H1 a (exo a C none)) dx (exd dx [(f, v)])) a (exo a C (some dx))) a) dx (.xd [(f, v)]) = upd H1 dx (.xd [(f, v)]) := by
        funext b
        by_cases hb : b = dx
        · rw [hb, upd_same, upd_same]
        · rw [upd_ne hb, upd_ne hb]
          by_cases hba : b = a
          · rw [hba, del_same, ha]
          · rw [del_ne hba, upd_ne hba, upd_ne hb, upd_ne hba]
      rw [eH]
      refine p1 _ _ bs1 _ σ (.new hdx') (hr1.new hdx') (er1.mono (.new hdx')) ⟨C, dx, [(f, v)], F.is, rfl, rfl, hr1.out hdx', upd_same, ?_, .cons (rd.mono (.new hdx')) .nil⟩
      unfold flds
      rw [List.map_take, show ((X.g ci).ci c).2.map Str.ofString = [f] from F.fl]
      rfl
end
end Ev
set_option Elab.async false
set_option linter.all false
set_option maxRecDepth 100000
set_option maxHeartbeats 4000000
namespace Ev
open PySem L2

/-! ### all, any, sum -/
def blsOf : List D → Option (List Bool)
  | [] => some []
  | .bl b :: r => (blsOf r).map (b :: ·)
  | _ => none
def intsOf : List D → Option (List Int)
  | [] => some []
  | .int i :: r => (intsOf r).map (i :: ·)
  | _ => none
theorem bls_ok {g : G} {bs : List Addr} {H : Hp} : ∀ {ds : List D} {vs : List V} {xs : List Bool}, Reps g bs H ds vs → blsOf ds = some xs → vs = xs.map V.bl
  | _, _, _, .nil, e => by cases e; rfl
  | d :: ds, v :: vs, xs, .cons r t, e => by
    cases r with
    | bl b =>
      have e' : (blsOf ds).map (b :: ·) = some xs := e
      cases h : blsOf ds with
      | none => rw [h] at e'; cases e'
      | some ys => rw [h] at e'; cases e'; rw [bls_ok t h]; rfl
    | _ => cases e
theorem ints_ok {g : G} {bs : List Addr} {H : Hp} : ∀ {ds : List D} {vs : List V} {xs : List Int}, Reps g bs H ds vs → intsOf ds = some xs → vs = xs.map V.int
  | _, _, _, .nil, e => by cases e; rfl
  | d :: ds, v :: vs, xs, .cons r t, e => by
    cases r with
    | int b =>
      have e' : (intsOf ds).map (b :: ·) = some xs := e
      cases h : intsOf ds with
      | none => rw [h] at e'; cases e'
      | some ys => rw [h] at e'; cases e'; rw [ints_ok t h]; rfl
    | _ => cases e
def allD (xs : List D) (h : Hs) : R D := match xs with
  | [x] => match rdL h x with
    | some ys => match blsOf ys with
      | some bs => .ok (.bl (bs.all id)) h
      | none => .bad
    | none => .bad
  | _ => .bad
def anyD (xs : List D) (h : Hs) : R D := match xs with
  | [x] => match rdL h x with
    | some ys => match blsOf ys with
      | some bs => .ok (.bl (bs.any id)) h
      | none => .bad
    | none => .bad
  | _ => .bad
def sumD (xs : List D) (h : Hs) : R D := match xs with
  | [x] => match rdL h x with
    | some ys => match intsOf ys with
      | some bs => .ok (.int bs.sum) h
      | none => .bad
    | none => .bad
  | _ => .bad
theorem caj_all {g : G} : CaJ g (rAll g.K) allD := by
  refine ⟨fun W bs h H xs vs Q hr rs p => ?_⟩
  unfold allD at p
  split at p
  · split at p
    · rename_i ys hy
      split at p
      · rename_i b hb
        cases rs with
        | cons r t =>
          cases t
          obtain ⟨a, us, rfl, hs, rs⟩ := rdL_ok hr r hy
          exact ⟨a, b, rfl, by rw [← bls_ok rs hb]; exact hs, Post.ok_ p hr (.bl _)⟩
      · exact p.elim
    · exact p.elim
  · exact p.elim
theorem caj_any {g : G} : CaJ g (rAny g.K) anyD := by
  refine ⟨fun W bs h H xs vs Q hr rs p => ?_⟩
  unfold anyD at p
  split at p
  · split at p
    · rename_i ys hy
      split at p
      · rename_i b hb
        cases rs with
        | cons r t =>
          cases t
          obtain ⟨a, us, rfl, hs, rs⟩ := rdL_ok hr r hy
          exact ⟨a, b, rfl, by rw [← bls_ok rs hb]; exact hs, Post.ok_ p hr (.bl _)⟩
      · exact p.elim
    · exact p.elim
  · exact p.elim
theorem caj_sum {g : G} : CaJ g (rSum g.K) sumD := by
  refine ⟨fun W bs h H xs vs Q hr rs p => ?_⟩
  unfold sumD at p
  split at p
  · split at p
    · rename_i ys hy
      split at p
      · rename_i b hb
        cases rs with
        | cons r t =>
          cases t
          obtain ⟨a, us, rfl, hs, rs⟩ := rdL_ok hr r hy
          exact ⟨a, b, rfl, by rw [← ints_ok rs hb]; exact hs, Post.ok_ p hr (.int _)⟩
      · exact p.elim
    · exact p.elim
  · exact p.elim
/-! ### *e in an argument list or a display -/
def aStar (f : En → Hs → R D) (fr : En → Hs → R (List D)) : En → Hs → R (List D) := fun env h => (f env h).bind fun x h1 => match seqOf h1 x with
  | some xs => (fr env h1).bind fun ys h2 => .ok (xs ++ ys) h2
  | none => .bad
section
variable {ci : Nat → String × List String} {X : Cx} {W : WX} {pos p : Pos} {e o : Expr} {es : List Expr} {te : TE} {t : TA} {fe : En → Hs → R D} {fr : En → Hs → R (List D)} {f x : Str}
theorem aj_star (he : EJ ci X W e te fe) (hr : AJ ci X W es t fr) (hs : starEach (.Starred e p :: es) X.env = (true, eval e X.env) :: starEach es X.env := by rfl) : AJ ci X W (.Starred e p :: es) (StX.tStar X.K te t) (aStar fe fr) :=
  ⟨StX.pa_star he.pe hr.pa hs, fun σ H env h bs Q er hr' p => he.sim.step er hr' p fun x vx bs1 H1 h1 e1 hr1 er1 rx p1 => by
    split at p1
    · rename_i xs hx
      obtain ⟨a, vs, rfl, hs, rs⟩ := seqOf_ok hr1 rx hx
      exact ⟨a, vs, rfl, hs.symm, hr.sim.step er1 hr1 p1 fun ys ws bs2 H2 h2 e2 hr2 er2 rs2 p2 => Post.ok_ p2 hr2 ((rs.mono e2).append rs2)⟩
    · exact p1.elim⟩
/-! ### constants of a class, of the module -/
def RepK (ci : Nat → String × List String) (K : PySem.W.Frag) (mg : Str → Option Value) (d : D) (v : V) : Prop := ∀ bs H, Rep ⟨K, mg, ci⟩ bs H d v
def ConC (ci : Nat → String × List String) (K : PySem.W.Frag) (mg : Str → Option Value) (x f : Str) (d : D) : Prop := ∃ (C : Addr) (mc : Value) (v : V) (u : Value), mg x = some (.ref C) ∧ ClX.CRead K C mc ∧ ClX.CVal K C mc f v u ∧ RepK ci K mg d v
def tConC (K : PySem.W.Frag) (mg : Str → Option Value) (x f : Str) : TE := fun σ H Q => ∃ C, mg x = some (.ref C) ∧ ClX.tCVal K (tC (.ref C)) f σ H Q
/-- C.f, C a class of one's own -/
theorem ej_con {xp : Pos} {d : D} (h : ConC ci X.K X.mg x f d) (hg : Gl X x := by rfl) (hxd : (x == ("__debug__" : Str)) = false := by decide) (hb : attributeBase (.Name x xp) f X.env (eval (.Name x xp) X.env) = eval (.Name x xp) X.env := by rfl) :
    EJ ci X W (.Attribute (.Name x xp) f pos) (tConC X.K X.mg x f) (eC d) := by
  obtain ⟨C, mc, v, u, h1, h2, h3, h4⟩ := h
  refine ⟨⟨fun pins s σ H Q I ⟨C', e, q⟩ => ?_⟩, fun σ H env h bs Q er hr p => ⟨C, h1, C, mc, v, u, rfl, h2, h3, Post.ok_ p hr (h4 bs H)⟩⟩
  rw [h1] at e
  cases e
  exact (ClX.pe_cval (pe_glob (v := .ref C) (u := .ref C) hg h1 rfl hxd) hb).run pins s σ H Q I q
def GlC (ci : Nat → String × List String) (K : PySem.W.Frag) (mg : Str → Option Value) (x : Str) (d : D) : Prop := ∃ (v : V) (u : Value), mg x = some u ∧ RelV v u ∧ RepK ci K mg d v
def tGlC (mg : Str → Option Value) (x : Str) : TE := fun σ H Q => ∃ v u, mg x = some u ∧ RelV v u ∧ Q v H
/-- a constant of the module -/
theorem ej_gl {d : D} (h : GlC ci X.K X.mg x d) (hg : Gl X x := by rfl) (hxd : (x == ("__debug__" : Str)) = false := by decide) : EJ ci X W (.Name x pos) (tGlC X.mg x) (eC d) := by
  obtain ⟨v, u, h1, h2, h3⟩ := h
  refine ⟨⟨fun pins s σ H Q I ⟨v', u', e1, e2, q⟩ => ?_⟩, fun σ H env h bs Q er hr p => ⟨v, u, h1, h2, Post.ok_ p hr (h3 bs H)⟩⟩
  exact (pe_glob hg e1 e2 hxd).run pins s σ H Q I q
end
/-! ### name = [..] -/
section
variable {ci : Nat → String × List String} {X : Cx} {W : WX} {elt tg iter : Expr} {ifs : List Expr} {scope : Scope} {own : List (Str × Nat)} {pos spos py : Pos} {y : Str} {wi : TI} {t : TG} {tt : TT} {te : TE} {fi : En → Hs → R Src} {k : D → En → Option En} {js : List Nat} {ft : En → Hs → R Bool} {fe : En → Hs → R D}
theorem ej_lcM (hc : X.calm = true) (hN : X.N.Nodup) (hi : IJ ci X W tg iter wi fi) (ok : BlkOk X.N X.env.scope scope own) (hjs : ∀ j ∈ js, j ∈ own.map (·.2))
    (hg : ∀ (s : Shared) (H : Hp) (C : Addr) (cl : List (Str × Addr)) (fp : List Addr), GJ ci (X.blk s H scope (compEnvC scope cl C X.env) fp) tg t k js) (ht : ∀ (s : Shared) (H : Hp) (C : Addr) (cl : List (Str × Addr)) (fp : List Addr), TsJ ci (X.blk s H scope (compEnvC scope cl C X.env) fp) ifs tt ft)
    (he : ∀ (s : Shared) (H : Hp) (C : Addr) (cl : List (Str × Addr)) (fp : List Addr), EJ ci (X.blk s H scope (compEnvC scope cl C X.env) fp) W0 elt te fe) (hs : ∀ x, foldedSetIterable iter X.env x = pure x := by intro _; rfl) :
    EJ ci X W (.ListComp elt [⟨tg, iter, ifs, 0⟩] scope pos) (tLc wi t tt te (own.map (·.2))) (eCompM fi k ft fe (own.map (·.2))) :=
  ⟨pe_lc hc hN hi.pi ok (fun s H C cl fp => (hg s H C cl fp).pg) (fun s H C cl fp => (ht s H C cl fp).pts) (fun s H C cl fp => (he s H C cl fp).pe) hs,
    sim_compM hi.sim (hg X.s_0 (fun _ => none) 0 [] []).sim (ht X.s_0 (fun _ => none) 0 [] []).sim (he X.s_0 (fun _ => none) 0 [] []).sim hjs⟩
theorem sj_setLc (i : Nat) (hc : X.calm = true) (hN : X.N.Nodup) (hi : IJ ci X W tg iter wi fi) (ok : BlkOk X.N X.env.scope scope own) (hjs : ∀ j ∈ js, j ∈ own.map (·.2))
    (hg : ∀ (s : Shared) (H : Hp) (C : Addr) (cl : List (Str × Addr)) (fp : List Addr), GJ ci (X.blk s H scope (compEnvC scope cl C X.env) fp) tg t k js) (ht : ∀ (s : Shared) (H : Hp) (C : Addr) (cl : List (Str × Addr)) (fp : List Addr), TsJ ci (X.blk s H scope (compEnvC scope cl C X.env) fp) ifs tt ft)
    (he : ∀ (s : Shared) (H : Hp) (C : Addr) (cl : List (Str × Addr)) (fp : List Addr), EJ ci (X.blk s H scope (compEnvC scope cl C X.env) fp) W0 elt te fe) (hs : ∀ x, foldedSetIterable iter X.env x = pure x := by intro _; rfl)
    (hy : X.N[i]? = some y := by rfl) (hyl : X.env.scope.names.lookup y = some .local := by rfl) (hsw : swapsWith (.ListComp elt [⟨tg, iter, ifs, 0⟩] scope pos) (some (.Name y py)) spos.line X.env = pure true := by exact sw_true rfl rfl rfl (by decide +kernel)) :
    SJ ci X W (.Assign [.Name y py] (.ListComp elt [⟨tg, iter, ifs, 0⟩] scope pos) spos) (tAsg (tLc wi t tt te (own.map (·.2))) (gName i)) (sAsg (eComp fi k ft fe (own.map (·.2))) (kName i)) :=
  ⟨ps_setLc hc hN hy hyl hsw hi.pi ok (fun s H C cl fp => (hg s H C cl fp).pg) (fun s H C cl fp => (ht s H C cl fp).pts) (fun s H C cl fp => (he s H C cl fp).pe) hs,
    sim_asg (sim_comp hi.sim (hg X.s_0 (fun _ => none) 0 [] []).sim (ht X.s_0 (fun _ => none) 0 [] []).sim (he X.s_0 (fun _ => none) 0 [] []).sim hjs) (gj_name (X := X) (pos := py) (ci := ci) i hN hy (.inl hyl) (.inr hyl)).sim⟩
theorem sj_setLcM (i : Nat) (hc : X.calm = true) (hN : X.N.Nodup) (hi : IJ ci X W tg iter wi fi) (ok : BlkOk X.N X.env.scope scope own) (hjs : ∀ j ∈ js, j ∈ own.map (·.2))
    (hg : ∀ (s : Shared) (H : Hp) (C : Addr) (cl : List (Str × Addr)) (fp : List Addr), GJ ci (X.blk s H scope (compEnvC scope cl C X.env) fp) tg t k js) (ht : ∀ (s : Shared) (H : Hp) (C : Addr) (cl : List (Str × Addr)) (fp : List Addr), TsJ ci (X.blk s H scope (compEnvC scope cl C X.env) fp) ifs tt ft)
    (he : ∀ (s : Shared) (H : Hp) (C : Addr) (cl : List (Str × Addr)) (fp : List Addr), EJ ci (X.blk s H scope (compEnvC scope cl C X.env) fp) W0 elt te fe) (hs : ∀ x, foldedSetIterable iter X.env x = pure x := by intro _; rfl)
    (hy : X.N[i]? = some y := by rfl) (hyl : X.env.scope.names.lookup y = some .local := by rfl) (hsw : swapsWith (.ListComp elt [⟨tg, iter, ifs, 0⟩] scope pos) (some (.Name y py)) spos.line X.env = pure true := by exact sw_true rfl rfl rfl (by decide +kernel)) :
    SJ ci X W (.Assign [.Name y py] (.ListComp elt [⟨tg, iter, ifs, 0⟩] scope pos) spos) (tAsg (tLc wi t tt te (own.map (·.2))) (gName i)) (sAsg (eCompM fi k ft fe (own.map (·.2))) (kName i)) :=
  ⟨ps_setLc hc hN hy hyl hsw hi.pi ok (fun s H C cl fp => (hg s H C cl fp).pg) (fun s H C cl fp => (ht s H C cl fp).pts) (fun s H C cl fp => (he s H C cl fp).pe) hs,
    sim_asg (sim_compM hi.sim (hg X.s_0 (fun _ => none) 0 [] []).sim (ht X.s_0 (fun _ => none) 0 [] []).sim (he X.s_0 (fun _ => none) 0 [] []).sim hjs) (gj_name (X := X) (pos := py) (ci := ci) i hN hy (.inl hyl) (.inr hyl)).sim⟩
end
/-! ### a def that changes nothing of its caller's: its new cells are let go -/
def optAll (f : D → Option D) : List D → Option (List D)
  | [] => some []
  | x :: xs => match f x, optAll f xs with
    | some y, some ys => some (y :: ys)
    | _, _ => none
def frz1 (h : Hs) (n : Nat) (f : D → Option D) (d : D) : Option D := match d with
  | .ref m => if m < n then none else match h[m]? with
    | some (.lst xs) => (optAll f xs).map .lst
    | some (.ins c fs) => (optAll f fs).map (.obj c)
    | some (.dct ks ds) => (optAll f ds).map (.dct ks)
    | _ => none
  | .tup xs => (optAll f xs).map .tup
  | _ => none
def frz (h : Hs) (n : Nat) : Nat → D → Option D
  | 0, _ => none
  | k + 1, d => if D.nr n d = true then some d else frz1 h n (frz h n k) d
theorem frz_nr {h : Hs} {n k : Nat} {d : D} (e : D.nr n d = true) : frz h n (k + 1) d = some d := by rw [frz, if_pos e]
theorem optAll_nr {h : Hs} {n k : Nat} : ∀ {xs : List D}, D.nrs n xs = true → optAll (frz h n (k + 1)) xs = some xs
  | [], _ => rfl
  | x :: xs, e => by
    have e' : (D.nr n x && D.nrs n xs) = true := e
    obtain ⟨e1, e2⟩ := Bool.and_eq_true_iff.mp e'
    rw [optAll, frz_nr e1, optAll_nr e2]
theorem frz_lst {h : Hs} {n k m : Nat} {xs ys : List D} (hm : n ≤ m) (e : h[m]? = some (.lst xs)) (f : optAll (frz h n k) xs = some ys) : frz h n (k + 1) (.ref m) = some (.lst ys) := by
  rw [frz, if_neg (by rw [D.nr, decide_eq_true_eq]; omega)]
  unfold frz1
  dsimp only
  rw [if_neg (by omega), e]
  dsimp only
  rw [f]
  rfl
section
variable {g : G} {bs m : List Addr} {h h' : Hs} {H : Hp}
theorem optAll_ok {f : D → Option D} (hf : ∀ d d' v, f d = some d' → Rep g (bs ++ m) H d v → Rep g bs H d' v) : ∀ {ds ds' : List D} {vs : List V}, optAll f ds = some ds' → Reps g (bs ++ m) H ds vs → Reps g bs H ds' vs
  | [], _, _, e, r => by
    rw [optAll] at e
    cases e
    cases r
    exact .nil
  | x :: xs, _, _, e, r => by
    rw [optAll] at e
    cases r with
    | cons r1 r2 =>
      split at e
      · rename_i y ys h1 h2
        cases e
        exact .cons (hf _ _ _ h1 r1) (optAll_ok hf h2 r2)
      · cases e
theorem optAll_len {f : D → Option D} : ∀ {ds ds' : List D}, optAll f ds = some ds' → ds'.length = ds.length
  | [], _, e => by rw [optAll] at e; cases e; rfl
  | x :: xs, _, e => by
    rw [optAll] at e
    split at e
    · rename_i y ys h1 h2
      cases e
      rw [List.length_cons, List.length_cons, optAll_len h2]
    · cases e
theorem frz_ok (hr : HRel g (bs ++ m) h' H) : ∀ (k : Nat) {d d' : D} {v : V}, frz h' bs.length k d = some d' → Rep g (bs ++ m) H d v → Rep g bs H d' v
  | 0, _, _, _, e, _ => by rw [frz] at e; cases e
  | k + 1, d, d', v, e, r => by
    have ih : ∀ d d' v, frz h' bs.length k d = some d' → Rep g (bs ++ m) H d v → Rep g bs H d' v := fun d d' v e r => frz_ok hr k e r
    rw [frz] at e
    split at e
    · rename_i hn
      cases e
      exact r.shrink hn
    · unfold frz1 at e
      split at e
      · rename_i j
        split at e
        · cases e
        · rename_i hj
          cases r with
          | @ref _ a hb =>
            have na : a ∉ bs := by
              intro z
              obtain ⟨i, hi⟩ := List.getElem?_of_mem z
              have hlt : i < bs.length := (List.getElem?_eq_some_iff.mp hi).1
              have hi' : (bs ++ m)[i]? = some a := by rw [List.getElem?_append_left hlt]; exact hi
              obtain ⟨l1, e1⟩ := List.getElem?_eq_some_iff.mp hi'
              obtain ⟨l2, e2⟩ := List.getElem?_eq_some_iff.mp hb
              have := (List.getElem_inj hr.nd).mp (e1.trans e2.symm)
              omega
            split at e
            · rename_i xs hx
              obtain ⟨a', g1, vs, g2, g3⟩ := hr.at_ _ _ hx
              rw [hb] at g1
              cases g1
              cases hz : optAll (frz h' bs.length k) xs with
              | none => rw [hz] at e; cases e
              | some ys => rw [hz] at e; cases e; exact .lst na g2 (optAll_ok ih hz g3)
            · rename_i c xs hx
              obtain ⟨a', g1, C, dx, fvs, g2, g3, g4, g5⟩ := hr.at_ _ _ hx
              rw [hb] at g1
              cases g1
              cases hz : optAll (frz h' bs.length k) xs with
              | none => rw [hz] at e; cases e
              | some ys =>
                rw [hz] at e
                cases e
                exact .obj na g2 g3 (by rw [g4, optAll_len hz]) (optAll_ok ih hz g5)
            · rename_i ks xs hx
              obtain ⟨a', g1, kvs, g2, g3, g4⟩ := hr.at_ _ _ hx
              rw [hb] at g1
              cases g1
              cases hz : optAll (frz h' bs.length k) xs with
              | none => rw [hz] at e; cases e
              | some ys =>
                rw [hz] at e
                cases e
                exact .dct na g2 g3 (optAll_ok ih hz g4)
            · cases e
      · rename_i xs _
        cases r with
        | tup t rs =>
          cases hz : optAll (frz h' bs.length k) xs with
          | none => rw [hz] at e; cases e
          | some ys =>
            rw [hz] at e
            cases e
            exact .tup (t.elim (fun z => .inl ⟨fun y => z.1 (List.mem_append_left _ y), z.2⟩) .inr) (optAll_ok ih hz rs)
      · cases e
end
/-- what is left behind is new -/
def Grown (h h' : Hs) : Prop := ∃ more, h' = h ++ more
@[simp] theorem Grown_refl (h : Hs) : Grown h h = True := eq_true ⟨[], by simp⟩
@[simp] theorem Grown_app (h m : Hs) : Grown h (h ++ m) = True := eq_true ⟨m, rfl⟩
@[simp] theorem Grown_app2 (h m n : Hs) : Grown h (h ++ m ++ n) = True := eq_true ⟨m ++ n, by simp⟩
open Classical in
noncomputable def pureR (h : Hs) (r : R D) : R D := match r with
  | .ok d h' => if Grown h h' then (match frz h' h.length 12 d with
    | some d' => .ok d' h
    | none => .bad) else .bad
  | .err c fs h' => if Grown h h' ∧ D.nrs h.length fs = true then .err c fs h else .bad
  | .bad => .bad
noncomputable def pureG (G : List D → Hs → R D) : List D → Hs → R D := fun ds h => pureR h (G ds h)
theorem pureR_ok {h h' : Hs} {d d' : D} (hg : Grown h h') (f : frz h' h.length 12 d = some d') : pureR h (.ok d h') = .ok d' h := by
  unfold pureR
  dsimp only
  rw [if_pos hg, f]
@[simp] theorem pureR_bad (h : Hs) : pureR h .bad = .bad := rfl
theorem post_pure {g : G} {W : Value → Option Addr → Hp → Prop} {bs : List Addr} {h : Hs} {H : Hp} {r : R D} {Q : VK} (hr : HRel g bs h H) (p : Post (relV g) g W bs H (pureR h r) Q) : Post (relV g) g W bs H r Q := by
  cases r with
  | bad => exact p
  | ok d h' =>
    unfold pureR at p
    dsimp only at p
    split at p
    · rename_i hg
      split at p
      · rename_i d' hf
        intro bs' H' v e hr' rv
        obtain ⟨more, rfl⟩ := hg
        obtain ⟨⟨m, rfl, hm⟩, k, c⟩ := id e
        exact p bs H' v ⟨⟨[], by simp, fun _ z => nomatch z⟩, k, c⟩ (hr.pop hr') (frz_ok hr' 12 (by rw [hr.len]; exact hf) rv)
      · exact p.elim
    · exact p.elim
  | err c fs h' =>
    unfold pureR at p
    dsimp only at p
    split at p
    · rename_i hg
      obtain ⟨⟨more, rfl⟩, hn⟩ := hg
      intro C dd bs' H' e hr' z
      obtain ⟨⟨m, rfl, hm⟩, k, cc⟩ := id e
      obtain ⟨Ca, d, fvs, z1, z2, z3, z4, z5, z6, z7⟩ := z
      exact p C dd bs H' ⟨⟨[], by simp, fun _ z => nomatch z⟩, k, cc⟩ (hr.pop hr') ⟨Ca, d, fvs, z1, z2, z3, fun y => z4 (List.mem_append_left _ y), z5, z6, z7.shrink (by rw [hr.len]; exact hn)⟩
    · exact p.elim
theorem fn_pure {ci : Nat → String × List String} {P : Program} {w : World} {K : PySem.W.Frag} {mg : Str → Option Value} {base : Heap} {f : Addr} {fd : FuncData} {ps : List Str} {k n : Nat} {G : List D → Hs → R D} (h : FnOk P w K mg base (L2.CX P w) k f fd ps (spG ⟨K, mg, ci⟩ n G)) :
    FnOk P w K mg base (L2.CX P w) k f fd ps (spG ⟨K, mg, ci⟩ n (pureG G)) :=
  h.imp fun vs H Q E ⟨bs, hh, ds, h1, h2, h3, p⟩ => ⟨bs, hh, ds, h1, h2, h3, post_pure h2 p⟩
/-- told otherwise -/
theorem fn_imp {ci : Nat → String × List String} {P : Program} {w : World} {K : PySem.W.Frag} {mg : Str → Option Value} {base : Heap} {f : Addr} {fd : FuncData} {ps : List Str} {k n : Nat} {G G' : List D → Hs → R D} (h : FnOk P w K mg base (L2.CX P w) k f fd ps (spG ⟨K, mg, ci⟩ n G)) (e : ∀ ds hh, G' ds hh = .bad ∨ G ds hh = G' ds hh) :
    FnOk P w K mg base (L2.CX P w) k f fd ps (spG ⟨K, mg, ci⟩ n G') :=
  h.imp fun vs H Q E ⟨bs, hh, ds, h1, h2, h3, p⟩ => ⟨bs, hh, ds, h1, h2, h3, by
    rcases e ds hh with z | z
    · rw [z] at p; exact p.elim
    · rw [z]; exact p⟩
end Ev
set_option Elab.async false
set_option linter.all false
set_option maxRecDepth 100000
set_option maxHeartbeats 4000000
namespace Ev
open PySem L2

/-! ### the classes of the program -/
def tbl0 : List (String × List String) :=
  [("Policy", ["hold", "every", "quick"]), ("Setting", ["size", "policies"]), ("TurnState", ["rest", "kept", "blocked", "stuck", "pending", "quick"]), ("Outcome", ["stalls", "segments", "acknowledgments", "stalled"]),
   ("Side", []), ("Draft", []), ("Rules", []), ("Road", []), ("Trial", []), ("Searched", []), ("Talk", []), ("TurnGraph", []), ("Comparison", []), ("Desk", []), ("", []), ("", []), ("", []), ("", []), ("", []), ("", []),
   ("LatewordsError", []), ("BadSetting", ["name"]), ("BadWrite", ["index"]), ("BadOrder", ["index"]), ("NotPossible", ["event"]), ("TooLong", ["many"]), ("BadTalk", ["index"]), ("EndlessTurn", ["endpoint"]), ("BadPath", ["index"]), ("BadText", ["line"]), ("BadRow", ["column"]), ("NoTurn", ["turn"]), ("NoArc", ["arc"]), ("NoName", ["name"]), ("NothingDone", [])]
def ci0 (n : Nat) : String × List String := tbl0.getD n ("", [])
def BodyOk (P : Program) (w : World) (K : PySem.W.Frag) (mg : Str → Option Value) (base : Heap) (f : Addr) (qual : Str) (st : Stmt) (N : List Str) (k : Nat) (fb : En → Hs → S) : Prop :=
  ∀ (cdv : Value) (A : Around) (outer : List Env) (s : Shared) (H : Hp) (E : XK), Room k (A.deeper (PyProof.Rows.envOfC qual (defScope st) s.heap.objs.size f cdv)) → ∃ t, SsJ ci0 (bodyCx P w K mg base N qual st f cdv A outer s H E) (bodyW E) (defBody st) t fb
theorem Room.units65 {k : Nat} {A : Around} (hr : Room k A) : A.units + 65 < cLine := by have := hr.un; omega
theorem Room.units1 {k : Nat} {A : Around} (hr : Room k A) : A.units + 1 < cLine := by have := hr.un; omega
section
variable {ci : Nat → String × List String} {K : PySem.W.Frag} {mg : Str → Option Value} {f : Str} {a b c d e i j k l m : Nat}
abbrev FT (ci : Nat → String × List String) (K : PySem.W.Frag) (mg : Str → Option Value) (f : Str) (tab : List (Nat × Nat)) : Prop := ∀ p ∈ tab, FldAt ci K mg f p.1 p.2
theorem tab1 (h : FldAt ci K mg f a i) : FT ci K mg f [(a, i)] := fun p z => by
  obtain rfl := List.mem_singleton.mp z
  exact h
theorem tabS {t : List (Nat × Nat)} (h : FldAt ci K mg f a i) (r : FT ci K mg f t) : FT ci K mg f ((a, i) :: t) := fun p z => by
  rcases List.mem_cons.mp z with rfl | z
  · exact h
  · exact r p z
theorem tab2 (h1 : FldAt ci K mg f a i) (h2 : FldAt ci K mg f b j) : FT ci K mg f [(a, i), (b, j)] := tabS h1 (tab1 h2)
theorem tab3 (h1 : FldAt ci K mg f a i) (h2 : FldAt ci K mg f b j) (h3 : FldAt ci K mg f c k) : FT ci K mg f [(a, i), (b, j), (c, k)] := tabS h1 (tab2 h2 h3)
end
end Ev
set_option Elab.async false
set_option linter.all false
set_option maxRecDepth 100000
set_option maxHeartbeats 4000000
namespace Ev
open PySem L2

/-! ### == and != by an own __eq__ -/
structure EqC (ci : Nat → String × List String) (P : Program) (w : World) (K : PySem.W.Frag) (mg : Str → Option Value) (base : Heap) (c k : Nat) (F : List D → List D → Hs → R D) : Prop where
  ex : ∃ C f, mg (Str.ofString (ci c).1) = some (.ref C) ∧ PySem.W.findIn K (.ref C) "__eq__" = some (some (.ref f)) ∧ PySem.W.isFn K (.ref f) = true ∧ PySem.W.findIn K (.ref C) "__ne__" = some (some (.builtin "object.__ne__")) ∧ PySem.W.mroIn K C (.type "object") = some true ∧ FnC ci P w K mg base k f [] F
def R.nerr {α : Type} : R α → R α
  | .err _ _ _ => .bad
  | r => r
@[simp] theorem R.nerr_ok {α : Type} (a : α) (h : Hs) : (R.ok a h).nerr = .ok a h := rfl
@[simp] theorem R.nerr_bad {α : Type} : (R.bad : R α).nerr = .bad := rfl
theorem post_nerr {g : G} {W W' : Value → Option Addr → Hp → Prop} {bs : List Addr} {H : Hp} {Q : VK} {r : R D} (p : Post (relV g) g W bs H r.nerr Q) : Post (relV g) g W' bs H r Q := by
  cases r with
  | ok a h' => exact p
  | bad => exact p.elim
  | err c fs h' => exact p.elim
end Ev
set_option Elab.async false
set_option linter.all false
set_option maxRecDepth 100000
set_option maxHeartbeats 4000000
namespace Ev
open PySem L2

/-! ### a statement that is never reached -/
def sBad : En → Hs → S := fun _ _ => .bad
theorem sj_bad {ci : Nat → String × List String} {X : Cx} {W : WX} {st : Stmt} : SJ ci X W st (fun _ _ _ => False) sBad :=
  ⟨⟨fun _ _ _ _ _ _ h => h.elim⟩, fun _ _ _ _ _ _ _ _ p => p⟩
/-! ### comprehensions, their own places told; their readings may name the block -/
abbrev FamE := Shared → Hp → Addr → List (Str × Addr) → List Addr → TE
abbrev FamT := Shared → Hp → Addr → List (Str × Addr) → List Addr → TT
abbrev FamG := Shared → Hp → Addr → List (Str × Addr) → List Addr → TG
def allE (te : FamE) : TE := fun σ H' Q => ∀ s H C cl fp, te s H C cl fp σ H' Q
def allT (te : FamT) : TT := fun σ H' Q => ∀ s H C cl fp, te s H C cl fp σ H' Q
def allG (te : FamG) : TG := fun v σ H' Q => ∀ s H C cl fp, te s H C cl fp v σ H' Q
section
variable {ci : Nat → String × List String} {X : Cx} {W : WX} {elt tg iter : Expr} {ifs : List Expr} {scope : Scope} {own : List (Str × Nat)} {pos spos py : Pos} {y : Str} {wi : TI} {t : FamG} {tt : FamT} {te : FamE} {fi : En → Hs → R Src} {k : D → En → Option En} {js jo : List Nat} {ft : En → Hs → R Bool} {fe : En → Hs → R D}
theorem famE (he : ∀ (s : Shared) (H : Hp) (C : Addr) (cl : List (Str × Addr)) (fp : List Addr), EJ ci (X.blk s H scope (compEnvC scope cl C X.env) fp) W0 elt (te s H C cl fp) fe) : ∀ (s : Shared) (H : Hp) (C : Addr) (cl : List (Str × Addr)) (fp : List Addr), EJ ci (X.blk s H scope (compEnvC scope cl C X.env) fp) W0 elt (allE te) fe :=
  fun s H C cl fp => ⟨⟨fun pins s' σ H' Q I h => (he s H C cl fp).pe.run pins s' σ H' Q I (h s H C cl fp)⟩, fun σ H' env h bs Q er hr p => fun s2 H2 C2 cl2 fp2 => (he s2 H2 C2 cl2 fp2).sim σ H' env h bs Q er hr p⟩
theorem famT (he : ∀ (s : Shared) (H : Hp) (C : Addr) (cl : List (Str × Addr)) (fp : List Addr), TsJ ci (X.blk s H scope (compEnvC scope cl C X.env) fp) ifs (tt s H C cl fp) ft) : ∀ (s : Shared) (H : Hp) (C : Addr) (cl : List (Str × Addr)) (fp : List Addr), TsJ ci (X.blk s H scope (compEnvC scope cl C X.env) fp) ifs (allT tt) ft :=
  fun s H C cl fp => ⟨⟨fun pins s' σ H' Q I h => (he s H C cl fp).pts.run pins s' σ H' Q I (h s H C cl fp)⟩, fun σ H' env h bs Q er hr p => fun s2 H2 C2 cl2 fp2 => (he s2 H2 C2 cl2 fp2).sim σ H' env h bs Q er hr p⟩
theorem famG (he : ∀ (s : Shared) (H : Hp) (C : Addr) (cl : List (Str × Addr)) (fp : List Addr), GJ ci (X.blk s H scope (compEnvC scope cl C X.env) fp) tg (t s H C cl fp) k js) : ∀ (s : Shared) (H : Hp) (C : Addr) (cl : List (Str × Addr)) (fp : List Addr), GJ ci (X.blk s H scope (compEnvC scope cl C X.env) fp) tg (allG t) k js :=
  fun s H C cl fp => ⟨⟨fun pins s' σ H' v u Q I r h => (he s H C cl fp).pg.run pins s' σ H' v u Q I r (h s H C cl fp)⟩, fun v d σ H' env env' h bs Q r er hr e q => fun s2 H2 C2 cl2 fp2 => (he s2 H2 C2 cl2 fp2).sim v d σ H' env env' h bs Q r er hr e q⟩
theorem ejJ_lc (hc : X.calm = true) (hN : X.N.Nodup) (hi : IJ ci X W tg iter wi fi) (ok : BlkOk X.N X.env.scope scope own) (ho : own.map (·.2) = jo) (hjs : ∀ j ∈ js, j ∈ own.map (·.2))
    (hg : ∀ (s : Shared) (H : Hp) (C : Addr) (cl : List (Str × Addr)) (fp : List Addr), GJ ci (X.blk s H scope (compEnvC scope cl C X.env) fp) tg (t s H C cl fp) k js) (ht : ∀ (s : Shared) (H : Hp) (C : Addr) (cl : List (Str × Addr)) (fp : List Addr), TsJ ci (X.blk s H scope (compEnvC scope cl C X.env) fp) ifs (tt s H C cl fp) ft)
    (he : ∀ (s : Shared) (H : Hp) (C : Addr) (cl : List (Str × Addr)) (fp : List Addr), EJ ci (X.blk s H scope (compEnvC scope cl C X.env) fp) W0 elt (te s H C cl fp) fe) (hs : ∀ x, foldedSetIterable iter X.env x = pure x := by intro _; rfl) :
    EJ ci X W (.ListComp elt [⟨tg, iter, ifs, 0⟩] scope pos) (tLc wi (allG t) (allT tt) (allE te) jo) (eComp fi k ft fe jo) := by
  subst ho
  exact ej_lc hc hN hi ok hjs (famG hg) (famT ht) (famE he) hs
theorem sjJ_setLc (i : Nat) (hc : X.calm = true) (hN : X.N.Nodup) (hi : IJ ci X W tg iter wi fi) (ok : BlkOk X.N X.env.scope scope own) (ho : own.map (·.2) = jo) (hjs : ∀ j ∈ js, j ∈ own.map (·.2))
    (hg : ∀ (s : Shared) (H : Hp) (C : Addr) (cl : List (Str × Addr)) (fp : List Addr), GJ ci (X.blk s H scope (compEnvC scope cl C X.env) fp) tg (t s H C cl fp) k js) (ht : ∀ (s : Shared) (H : Hp) (C : Addr) (cl : List (Str × Addr)) (fp : List Addr), TsJ ci (X.blk s H scope (compEnvC scope cl C X.env) fp) ifs (tt s H C cl fp) ft)
    (he : ∀ (s : Shared) (H : Hp) (C : Addr) (cl : List (Str × Addr)) (fp : List Addr), EJ ci (X.blk s H scope (compEnvC scope cl C X.env) fp) W0 elt (te s H C cl fp) fe) (hs : ∀ x, foldedSetIterable iter X.env x = pure x := by intro _; rfl)
    (hy : X.N[i]? = some y := by rfl) (hyl : X.env.scope.names.lookup y = some .local := by rfl) (hsw : swapsWith (.ListComp elt [⟨tg, iter, ifs, 0⟩] scope pos) (some (.Name y py)) spos.line X.env = pure true := by exact sw_true rfl rfl rfl (by decide +kernel)) :
    SJ ci X W (.Assign [.Name y py] (.ListComp elt [⟨tg, iter, ifs, 0⟩] scope pos) spos) (tAsg (tLc wi (allG t) (allT tt) (allE te) jo) (gName i)) (sAsg (eComp fi k ft fe jo) (kName i)) := by
  subst ho
  exact sj_setLc i hc hN hi ok hjs (famG hg) (famT ht) (famE he) hs hy hyl hsw
theorem ejJ_lcM (hc : X.calm = true) (hN : X.N.Nodup) (hi : IJ ci X W tg iter wi fi) (ok : BlkOk X.N X.env.scope scope own) (ho : own.map (·.2) = jo) (hjs : ∀ j ∈ js, j ∈ own.map (·.2))
    (hg : ∀ (s : Shared) (H : Hp) (C : Addr) (cl : List (Str × Addr)) (fp : List Addr), GJ ci (X.blk s H scope (compEnvC scope cl C X.env) fp) tg (t s H C cl fp) k js) (ht : ∀ (s : Shared) (H : Hp) (C : Addr) (cl : List (Str × Addr)) (fp : List Addr), TsJ ci (X.blk s H scope (compEnvC scope cl C X.env) fp) ifs (tt s H C cl fp) ft)
    (he : ∀ (s : Shared) (H : Hp) (C : Addr) (cl : List (Str × Addr)) (fp : List Addr), EJ ci (X.blk s H scope (compEnvC scope cl C X.env) fp) W0 elt (te s H C cl fp) fe) (hs : ∀ x, foldedSetIterable iter X.env x = pure x := by intro _; rfl) :
    EJ ci X W (.ListComp elt [⟨tg, iter, ifs, 0⟩] scope pos) (tLc wi (allG t) (allT tt) (allE te) jo) (eCompM fi k ft fe jo) := by
  subst ho
  exact ej_lcM hc hN hi ok hjs (famG hg) (famT ht) (famE he) hs
theorem sjJ_setLcM (i : Nat) (hc : X.calm = true) (hN : X.N.Nodup) (hi : IJ ci X W tg iter wi fi) (ok : BlkOk X.N X.env.scope scope own) (ho : own.map (·.2) = jo) (hjs : ∀ j ∈ js, j ∈ own.map (·.2))
    (hg : ∀ (s : Shared) (H : Hp) (C : Addr) (cl : List (Str × Addr)) (fp : List Addr), GJ ci (X.blk s H scope (compEnvC scope cl C X.env) fp) tg (t s H C cl fp) k js) (ht : ∀ (s : Shared) (H : Hp) (C : Addr) (cl : List (Str × Addr)) (fp : List Addr), TsJ ci (X.blk s H scope (compEnvC scope cl C X.env) fp) ifs (tt s H C cl fp) ft)
    (he : ∀ (s : Shared) (H : Hp) (C : Addr) (cl : List (Str × Addr)) (fp : List Addr), EJ ci (X.blk s H scope (compEnvC scope cl C X.env) fp) W0 elt (te s H C cl fp) fe) (hs : ∀ x, foldedSetIterable iter X.env x = pure x := by intro _; rfl)
    (hy : X.N[i]? = some y := by rfl) (hyl : X.env.scope.names.lookup y = some .local := by rfl) (hsw : swapsWith (.ListComp elt [⟨tg, iter, ifs, 0⟩] scope pos) (some (.Name y py)) spos.line X.env = pure true := by exact sw_true rfl rfl rfl (by decide +kernel)) :
    SJ ci X W (.Assign [.Name y py] (.ListComp elt [⟨tg, iter, ifs, 0⟩] scope pos) spos) (tAsg (tLc wi (allG t) (allT tt) (allE te) jo) (gName i)) (sAsg (eCompM fi k ft fe jo) (kName i)) := by
  subst ho
  exact sj_setLcM i hc hN hi ok hjs (famG hg) (famT ht) (famE he) hs hy hyl hsw
end
/-! ### defaults, keywords, stars -/
inductive Seg where
  | d (i : Nat) | m (i : Nat) | k (i : Nat)
def gSeg {α : Type} (us its mv ws : List α) : List Seg → List α
  | [] => us
  | .d i :: r => gSeg (us ++ (its.drop i).take 1) its mv ws r
  | .m i :: r => gSeg (us ++ (mv.drop i).take 1) its mv ws r
  | .k i :: r => gSeg (us ++ (ws.drop i).take 1) its mv ws r
theorem gSeg_vals {its mv ws : List Value} {dvs mvs zs : List V} (r1 : Vals dvs its) (r2 : Vals mvs mv) (r3 : Vals zs ws) : ∀ (sg : List Seg) {us : List Value} {vs : List V}, Vals vs us → Vals (gSeg vs dvs mvs zs sg) (gSeg us its mv ws sg)
  | [], _, _, r => r
  | .d i :: sg, _, _, r => gSeg_vals r1 r2 r3 sg (r.append ((r1.drop i).take 1))
  | .m i :: sg, _, _, r => gSeg_vals r1 r2 r3 sg (r.append ((r2.drop i).take 1))
  | .k i :: sg, _, _, r => gSeg_vals r1 r2 r3 sg (r.append ((r3.drop i).take 1))
theorem gSeg_reps {g : G} {bs : List Addr} {H : Hp} {dds mds es : List D} {dvs mvs zs : List V} (r1 : Reps g bs H dds dvs) (r2 : Reps g bs H mds mvs) (r3 : Reps g bs H es zs) : ∀ (sg : List Seg) {ds : List D} {vs : List V}, Reps g bs H ds vs → Reps g bs H (gSeg ds dds mds es sg) (gSeg vs dvs mvs zs sg)
  | [], _, _, r => r
  | .d i :: sg, _, _, r => gSeg_reps r1 r2 r3 sg (r.append ((r1.drop i).take 1))
  | .m i :: sg, _, _, r => gSeg_reps r1 r2 r3 sg (r.append ((r2.drop i).take 1))
  | .k i :: sg, _, _, r => gSeg_reps r1 r2 r3 sg (r.append ((r3.drop i).take 1))
def dS (sg : List Seg) (dds mds : List D) : List D → List D → List D := fun ds es => gSeg ds dds mds es sg
def segOk (a b c : Nat) : Seg → Bool
  | .d i => decide (i < a)
  | .m i => decide (i < b)
  | .k i => decide (i < c)
theorem gSeg_len {α : Type} {its mv ws : List α} : ∀ (sg : List Seg) {us : List α}, sg.all (segOk its.length mv.length ws.length) = true → (gSeg us its mv ws sg).length = us.length + sg.length
  | [], us, _ => rfl
  | .d i :: sg, us, h => by
    obtain ⟨h1, h2⟩ := Bool.and_eq_true_iff.mp (show (decide (i < its.length) && sg.all _) = true from h)
    have := of_decide_eq_true h1
    rw [gSeg, gSeg_len sg h2, List.length_append, List.length_take, List.length_drop, List.length_cons]; omega
  | .m i :: sg, us, h => by
    obtain ⟨h1, h2⟩ := Bool.and_eq_true_iff.mp (show (decide (i < mv.length) && sg.all _) = true from h)
    have := of_decide_eq_true h1
    rw [gSeg, gSeg_len sg h2, List.length_append, List.length_take, List.length_drop, List.length_cons]; omega
  | .k i :: sg, us, h => by
    obtain ⟨h1, h2⟩ := Bool.and_eq_true_iff.mp (show (decide (i < ws.length) && sg.all _) = true from h)
    have := of_decide_eq_true h1
    rw [gSeg, gSeg_len sg h2, List.length_append, List.length_take, List.length_drop, List.length_cons]; omega
section
variable {ci : Nat → String × List String} {P : Program} {w : World} {K : PySem.W.Frag} {mg : Str → Option Value} {base : Heap} {f : Addr} {fd : FuncData} {ps ks : List Str} {k n : Nat} {G : List D → Hs → R D} {x qual : Str} {params : Arguments} {body : List Stmt} {scope : Scope} {dvs : List V} {kws : List (Str × V)}
theorem FnC.kwS {its mv : List Value} {mvs : List V} {sg : List Seg} {dds mds : List D} (np : Nat) (h : FnOk P w K mg base (L2.CX P w) k f fd ps (spG ⟨K, mg, ci⟩ n G)) (hb : KBn K fd ps np ks (fun us ws => gSeg us its mv ws sg) (fun vs zs => gSeg vs dvs mvs zs sg))
    (hd : ∀ bs H, Reps ⟨K, mg, ci⟩ bs H dds dvs) (hm : ∀ bs H, Reps ⟨K, mg, ci⟩ bs H mds mvs) (hs : sg.all (segOk dds.length mds.length ks.length) = true) (hn : np + sg.length = n) : FnC ci P w K mg base k f ks (kwF np ks.length (dS sg dds mds) G) :=
  FnC.kw np h hb fun {bs H ds es vs zs} r1 r2 l1 l2 => ⟨gSeg_reps (hd bs H) (hm bs H) r2 sg r1, by unfold dS; rw [gSeg_len sg (by rw [l2]; exact hs), l1]; exact hn⟩
/-- a def with positional defaults -/
theorem kb_d (F : FunD K x qual params body scope dvs kws f fd) (np : Nat) (ks : List Str) (sg : List Seg) (hd : dvs ≠ [])
    (h : ∀ (T : Addr) (kV doc pm : Value) (an : Option Addr) (cdv ct : Value) (us its ws : List Value), us.length = np → its.length = dvs.length → ws.length = ks.length →
      ∃ k, bindArgs (PySem.W.fnOf x qual params body scope (.ref T) kV doc pm an cdv ct) ⟨us, ks.zip ws⟩ = seqItems? (.ref T) >>= k ∧ k (some its.toArray) = pure (ps.zip (gSeg us its [] ws sg))) :
    ∃ its mv : List Value, KBn K fd ps np ks (fun us ws => gSeg us its mv ws sg) (fun vs zs => gSeg vs dvs [] zs sg) := by
  obtain ⟨its, hb⟩ := FunD.kbindsD (ps := ps) F np ks (fun us its ws => gSeg us its [] ws sg) hd (fun {vs ds zs us its ws} r1 r2 r3 => gSeg_vals r2 .nil r3 sg r1) h
  exact ⟨its, [], hb⟩
/-- .. keyword-only defaults too -/
theorem kb_dk (F : FunD K x qual params body scope dvs kws f fd) (np : Nat) (ks : List Str) (ms : List (Str × V)) (sg : List Seg) (hd : dvs ≠ []) (hk : kws ≠ []) (hms : ∀ q ∈ ms, q ∈ kws)
    (h : ∀ (T D : Addr) (doc pm : Value) (an : Option Addr) (cdv ct : Value) (us its mv ws : List Value), us.length = np → its.length = dvs.length → mv.length = ms.length → ws.length = ks.length →
      ∃ k, bindArgs (PySem.W.fnOf x qual params body scope (.ref T) (.ref D) doc pm an cdv ct) ⟨us, ks.zip ws⟩ = seqItems? (.ref T) >>= k ∧ KwChain D ((ms.map (·.1)).zip mv) (k (some its.toArray)) (ps.zip (gSeg us its mv ws sg))) :
    ∃ its mv : List Value, KBn K fd ps np ks (fun us ws => gSeg us its mv ws sg) (fun vs zs => gSeg vs dvs (ms.map (·.2)) zs sg) :=
  FunD.kbinds (ps := ps) F np ks ms (fun us its mv ws => gSeg us its mv ws sg) hd hk hms (fun {vs ds mz zs us its mv ws} r1 r2 r3 r4 => gSeg_vals r2 r3 r4 sg r1) h
/-- .. keyword-only defaults alone -/
theorem kb_k (F : FunD K x qual params body scope [] kws f fd) (np : Nat) (ks : List Str) (ms : List (Str × V)) (sg : List Seg) (hk : kws ≠ []) (hms : ∀ q ∈ ms, q ∈ kws)
    (h : ∀ (D : Addr) (doc pm : Value) (an : Option Addr) (cdv ct : Value) (us mv ws : List Value), us.length = np → mv.length = ms.length → ws.length = ks.length →
      KwChain D ((ms.map (·.1)).zip mv) (bindArgs (PySem.W.fnOf x qual params body scope .none (.ref D) doc pm an cdv ct) ⟨us, ks.zip ws⟩) (ps.zip (gSeg us [] mv ws sg))) :
    ∃ its mv : List Value, KBn K fd ps np ks (fun us ws => gSeg us its mv ws sg) (fun vs zs => gSeg vs [] (ms.map (·.2)) zs sg) := by
  obtain ⟨mv, hb⟩ := FunD.kbinds0 (ps := ps) F np ks ms (fun us mv ws => gSeg us [] mv ws sg) hk hms (fun {vs mz zs us mv ws} r1 r2 r3 => gSeg_vals .nil r2 r3 sg r1) h
  exact ⟨[], mv, hb⟩
end
/-- what is left over is a new tuple -/
theorem fn_bodyS {ci : Nat → String × List String} {P : Program} {w : World} {K : PySem.W.Frag} {mg : Str → Option Value} {base : Heap} {x qual pv : Str} {st : Stmt} {f : Addr} {fd : FuncData} {N ps : List Str} {k np : Nat} {fb : En → Hs → S} {kws : List (Str × V)} (hps : ps.length = np)
    (F : FunD K x qual (defArgs st) (defBody st) (defScope st) [] kws f fd) (S : FnScope N (ps ++ [pv]) (defScope st))
    (hbind : ∀ (kV doc pm : Value) (an : Option Addr) (cdv ct : Value) (us rest : List Value), us.length = ps.length → bindArgs (PySem.W.fnOf x qual (defArgs st) (defBody st) (defScope st) .none kV doc pm an cdv ct) ⟨us ++ rest, []⟩ = (newTuple rest >>= fun t => pure (ps.zip us ++ [(pv, t)])))
    (hb : ∀ (cdv : Value) (A : Around) (outer : List Env) (s : Shared) (H : Hp) (E : XK), Room k (A.deeper (PyProof.Rows.envOfC qual (defScope st) s.heap.objs.size f cdv)) → ∃ t, SsJ ci (bodyCx P w K mg base N qual st f cdv A outer s H E) (bodyW E) (defBody st) t fb) :
    FnC ci P w K mg base (k + 1) f [] (starF np (runB N.length fb)) := by
  obtain ⟨oc, od, dV, kV, doc, pm, an, cdv, ct, osl, rfl, lk, hcd, hD, hK⟩ := F.ex
  have eD : dV = .none := by
    rcases hD with ⟨_, e⟩ | ⟨e, _⟩
    · exact e
    · exact absurd rfl e
  subst eD
  refine ⟨fun A outer s H us ws vs zs Q E hr e0 r rz hz ⟨bs, hh, ds, es, h1, h2, h3, p⟩ => ?_⟩
  unfold starF at p
  split at p
  case isFalse => exact p.elim
  rename_i hl
  have hvl : vs.length = us.length := r.length
  have hdl : ds.length = vs.length := h2.length
  have nz : H s.heap.objs.size = none := e0.hok.fresh (Nat.le_refl _)
  obtain ⟨u1, u2, rfl, r1, r2⟩ : ∃ u1 u2, us = u1 ++ u2 ∧ Vals (vs.take np) u1 ∧ Vals (vs.drop np) u2 := StX.vals_split (by rw [List.take_append_drop]; exact r)
  have l1 : u1.length = ps.length := by rw [← r1.length, List.length_take, hps]; omega
  have l2 : (vs.drop np).length ≤ sizeLine := by rw [← (h2.drop np).length, big_eq]; exact hl.2
  rw [show ([] : List Str).zip ws = [] from rfl]
  refine StX.run_bnd lk hcd S hr.r e0 (G := fun xs H2 => ∃ q, H q = none ∧ xs = vs.take np ++ [V.ref q] ∧ H2 = upd H q (.tup (vs.drop np))) (fun A' Ex Q' q => ?_) fun s2 H2 xs hx hr2 => ?_
  · rw [hbind _ _ _ _ _ _ u1 u2 l1]
    refine wpAny_bind (wpAny_newTuple (wpAny_pure ?_) (by rw [← r2.length]; exact l2))
    have lay := StX.un_laid (fs := frs outer) (s := s) (o := ({ cls := .type "tuple", data := .seq u2.toArray } : Obj)) (u := .tup (vs.drop np)) nz
    have z := q _ _ (vs.take np ++ [V.ref s.heap.objs.size]) (u1 ++ [Value.ref s.heap.objs.size]) (StX.env0_laid e0 (show ObjOk P w (upd H s.heap.objs.size (.tup (vs.drop np))) (s.heap.push ({ cls := .type "tuple", data := .seq u2.toArray } : Obj)) s.heap.objs.size (.tup (vs.drop np)) from ⟨l2, u2, r2, ⟨_, Heap.get?_push_size _ rfl, rfl, _, rfl⟩⟩)) lay rfl (fun e s' => StX.cxUp outer s H _ _ E e s' lay (fun b o q => Heap.get?_push_of_some _ q) rfl) (r1.append (.cons rfl .nil))
      (by rw [List.length_append, List.length_append, r1.length, l1]; rfl) ⟨_, nz, rfl, rfl⟩
    rw [List.zip_append l1.symm] at z
    exact z
  · obtain ⟨q, hq, rfl, rfl⟩ := hx
    obtain ⟨t, hj⟩ := hb cdv A outer s2 _ E ⟨hr2, hr.gd⟩
    exact ⟨t, hj.pss, post_body hj.sim (h1.new hq) (ds := ds.take np ++ [Ev.D.tup (ds.drop np)]) (((h2.take np).mono (.new hq)).append (.cons (.tup (.inl ⟨h1.out hq, .inl upd_same⟩) ((h2.drop np).mono (.new hq))) .nil)) (Post.mono (.new hq) p)⟩
/-! ### facts of the written part -/
namespace Fx
open He
abbrev Fr := PySem.W.Frag
def allB (fs : List (Fr → Bool)) (K : Fr) : Bool := fs.all fun f => f K
theorem at_ {fs : List (Fr → Bool)} {K : Fr} (h : allB fs K = true) (i : Nat) {f : Fr → Bool} (e : fs[i]? = some f) : f K = true := List.all_eq_true.mp h f (List.mem_of_getElem? e)
def asZ (g : Addr → Option Obj) (n : Nat) : List Addr := asD g n ++ [cStatics]
abbrev AlZ : Type := AlD × Bool
def obsZ (n : Nat) (fn : List DefD) (fs : List (Fr → Bool)) (g : Addr → Option Obj) : AlZ := (obsD [] fn (frG g (asZ g n)), allB fs (frG g (asZ g n)))
def hookZ (n : Nat) (fn : List DefD) (fs : List (Fr → Bool)) : PySem.W.Hook where
  α := AlZ
  obs := fun s => obsZ n fn fs s.heap.get?
  val := fun _ => (valD fn, true)
  says := fun _ h => ∃ K : Fr, K.In h ∧ SaysD [] fn K ∧ allB fs K = true
  of := fun _ _ e => ⟨_, frG_in, congrArg (fun z : AlZ => z.1) e, congrArg (fun z : AlZ => z.2) e⟩
  keeps := fun _ _ _ ⟨K, hK, c⟩ k => ⟨K, PySem.W.Frag.In.keeps hK k, c⟩
theorem obsZ_eq {n : Nat} {fn : List DefD} {fs : List (Fr → Bool)} {g : Addr → Option Obj} {s : Shared} (h : ∀ a, g a = s.heap.get? a) : obsZ n fn fs g = (hookZ n fn fs).obs s := by
  have e : g = s.heap.get? := funext h
  rw [e] <;> rfl
/-! values of the module and of classes -/
mutual
def repB (K : Fr) : Nat → D → Value → Bool
  | 0, _, _ => false
  | _ + 1, .non, .none => true
  | _ + 1, .bl b, .bool c => b == c
  | _ + 1, .int i, .int j _ => decide (i = j)
  | _ + 1, .str s, .str t _ => decide (s = t) && PyData.strOk s
  | n + 1, .tup ds, .ref a => (match K.lookup a with
    | some ⟨.type c, _, .seq its _, _⟩ => decide (c = "tuple") && (decide (its.size ≤ sizeLine) && repBs K n ds its.toList)
    | _ => false)
  | n + 1, .rol ds, .ref a => (match K.lookup a with
    | some ⟨.type c, none, .seq its _, _⟩ => decide (c = "list") && (decide (its.size ≤ sizeLine) && repBs K n ds its.toList)
    | _ => false)
  | _, _, _ => false
def repBs (K : Fr) : Nat → List D → List Value → Bool
  | 0, _, _ => false
  | _ + 1, [], [] => true
  | n + 1, d :: ds, v :: vs => repB K n d v && repBs K n ds vs
  | _, _, _ => false
end
section
variable {ci : Nat → String × List String} {K : Fr} {mg : Str → Option Value} {h : Heap}
mutual
theorem repB_ok : ∀ (n : Nat) {d : D} {u : Value}, repB K n d u = true → ∃ v, RelV v u ∧ RepK ci K mg d v
  | 0, _, _, h => by rw [repB] at h; cases h
  | n + 1, d, u, h => by
    cases d with
    | non => cases u <;> first | exact ⟨.non, rfl, fun _ _ => .non⟩ | (simp [repB] at h)
    | bl b =>
      cases u with
      | bool c =>
        rw [repB] at h
        obtain rfl := eq_of_beq h
        exact ⟨.bl b, rfl, fun _ _ => .bl b⟩
      | _ => simp [repB] at h
    | int i =>
      cases u with
      | int j t =>
        rw [repB] at h
        obtain rfl := of_decide_eq_true h
        exact ⟨.int i, ⟨t, rfl⟩, fun _ _ => .int i⟩
      | _ => simp [repB] at h
    | str s =>
      cases u with
      | str z t =>
        rw [repB] at h
        obtain ⟨h1, h2⟩ := ba h
        obtain rfl := of_decide_eq_true h1
        exact ⟨.str s, ⟨t, rfl⟩, fun _ _ => .str h2⟩
      | _ => simp [repB] at h
    | tup ds =>
      cases u with
      | ref a =>
        rw [repB] at h
        split at h
        · rename_i c od its m sl q
          obtain ⟨h1, h2⟩ := ba h
          obtain ⟨h3, h4⟩ := ba h2
          obtain rfl := of_decide_eq_true h1
          obtain ⟨vs, r1, r2⟩ := repBs_ok n h4
          exact ⟨.ref a, rfl, fun bs H => .tup (.inr ⟨_, its, m, q, rfl, rfl, of_decide_eq_true h3, r1⟩) (r2 bs H)⟩
        · cases h
      | _ => simp [repB] at h
    | rol ds =>
      cases u with
      | ref a =>
        rw [repB] at h
        split at h
        · rename_i c its m sl q
          obtain ⟨h1, h2⟩ := ba h
          obtain ⟨h3, h4⟩ := ba h2
          obtain rfl := of_decide_eq_true h1
          obtain ⟨vs, r1, r2⟩ := repBs_ok n h4
          exact ⟨.ref a, rfl, fun bs H => .rol (.inr ⟨_, its, m, q, rfl, rfl, rfl, of_decide_eq_true h3, r1⟩) (r2 bs H)⟩
        · cases h
      | _ => simp [repB] at h
    | lst ds => simp [repB] at h
    | obj c ds => simp [repB] at h
    | ref m => simp [repB] at h
    | dct ks ds => simp [repB] at h
    | dnt ks ds => simp [repB] at h
theorem repBs_ok : ∀ (n : Nat) {ds : List D} {us : List Value}, repBs K n ds us = true → ∃ vs, Vals vs us ∧ ∀ bs H, Reps ⟨K, mg, ci⟩ bs H ds vs
  | 0, _, _, h => by rw [repBs] at h; cases h
  | n + 1, [], [], _ => ⟨[], .nil, fun _ _ => .nil⟩
  | n + 1, [], _ :: _, h => by simp [repBs] at h
  | n + 1, _ :: _, [], h => by simp [repBs] at h
  | n + 1, d :: ds, u :: us, h => by
    rw [repBs] at h
    obtain ⟨h1, h2⟩ := ba h
    obtain ⟨v, r1, r2⟩ := repB_ok n h1
    obtain ⟨vs, r3, r4⟩ := repBs_ok n h2
    exact ⟨v :: vs, .cons r1 r3, fun bs H => .cons (r2 bs H) (r4 bs H)⟩
end
def glB (x : Str) (d : D) (K : Fr) : Bool := match PySem.W.nsIn K mainGlobals x with
  | some (some u) => repB K 40 d u
  | _ => false
theorem gl_ok (X : K.In h) (G : h.Ns mainGlobals mg) {x : Str} {d : D} (c : glB x d K = true) : GlC ci K mg x d := by
  unfold glB at c
  split at c
  · rename_i u q
    obtain ⟨v, r1, r2⟩ := repB_ok (ci := ci) (mg := mg) 40 c
    exact ⟨v, u, PySem.W.mg_of X G q, r1, r2⟩
  · cases c
def conB (x f : Str) (d : D) (K : Fr) : Bool := (Fa.glo x).ok K && (PySem.W.readsIn K (ga K x) (.type "type") && (decide (PySem.W.specialIn K (.ref (ga K x)) "__getattribute__" = some (some (.builtin "type.__getattribute__"))) && (match PySem.W.findCls K (.ref (ga K x)) (.type "type") f with
  | some (.val u) => repB K 40 d u
  | _ => false)))
theorem con_ok (X : K.In h) (G : h.Ns mainGlobals mg) {x f : Str} {d : D} (c : conB x f d K = true) : ConC ci K mg x f d := by
  obtain ⟨c1, c⟩ := ba c
  obtain ⟨c2, c⟩ := ba c
  obtain ⟨c3, c⟩ := ba c
  split at c
  · rename_i u q
    obtain ⟨v, r1, r2⟩ := repB_ok (ci := ci) (mg := mg) 40 c
    exact ⟨ga K x, .type "type", v, u, glo_ok X G c1, ⟨c2, of_decide_eq_true c3⟩, ⟨q, r1⟩, r2⟩
  · cases c
/-! fields -/
def fldB (x f : Str) (K : Fr) : Bool := (Fa.glo x).ok K && ((Fa.cls x).ok K && (Fa.noat x f).ok K)
theorem fld_ok (X : K.In h) (G : h.Ns mainGlobals mg) {x f : Str} {c i : Nat} (b : fldB x f K = true) (hx : Str.ofString (ci c).1 = x) (h1 : ((ci c).2.map Str.ofString)[i]? = some f) (h2 : ∀ j, j < i → ((ci c).2.map Str.ofString)[j]? ≠ some f) : FldAt ci K mg f c i := by
  obtain ⟨b1, b⟩ := ba b
  obtain ⟨b2, b3⟩ := ba b
  refine ⟨h1, h2, fun C hC => ?_⟩
  rw [hx, glo_ok X G b1] at hC
  cases hC
  exact ⟨cls_ok b2, noat_ok b3⟩
theorem fld_no {x f : Str} {c i : Nat} (b : mg x = none) (hx : Str.ofString (ci c).1 = x) (h1 : ((ci c).2.map Str.ofString)[i]? = some f) (h2 : ∀ j, j < i → ((ci c).2.map Str.ofString)[j]? ≠ some f) : FldAt ci K mg f c i :=
  ⟨h1, h2, fun C hC => by rw [hx, b] at hC; cases hC⟩
/-! isinstance -/
def clsTB (C : Addr) (K : Fr) : Bool := decide (PySem.W.findIn K (.ref C) "__class__" = some (some (.builtin "object.__class__"))) && (decide (PySem.W.specialIn K (.builtin "object.__class__") "__get__" = some (some (.builtin "getset_descriptor.__get__"))) &&
  (decide (PySem.W.takesIn K (.builtin "object.__class__") = some true) && decide (PySem.W.mroIn K C (.type "object") = some true)))
def prims : List String := ["NoneType", "bool", "int", "str", "list", "tuple"]
def isiB (ci : Nat → String × List String) (ty : Ty) (cs : List Nat) (u : Fr → Value) (K : Fr) : Bool := (prims.all fun n => decide (PySem.W.kitOne K (.type n) (u K) = some (primIs ty n))) &&
  (cs.all fun c => (Fa.glo (Str.ofString (ci c).1)).ok K && ((Fa.cls (Str.ofString (ci c).1)).ok K && (clsTB (ga K (Str.ofString (ci c).1)) K && decide (PySem.W.kitOne K (.ref (ga K (Str.ofString (ci c).1))) (u K) = some (clsIs ty c)))))
theorem isi_ok (X : K.In h) (G : h.Ns mainGlobals mg) {ty : Ty} {cs : List Nat} {u : Fr → Value} (b : isiB ci ty cs u K = true) : IsiF ci K mg ty cs (u K) := by
  obtain ⟨b1, b2⟩ := ba b
  refine ⟨fun n hn => of_decide_eq_true (List.all_eq_true.mp b1 n hn), fun c hc C hC => ?_⟩
  have b3 := List.all_eq_true.mp b2 c hc
  obtain ⟨b4, b3⟩ := ba b3
  obtain ⟨b5, b3⟩ := ba b3
  obtain ⟨b6, b7⟩ := ba b3
  rw [glo_ok X G b4] at hC
  cases hC
  obtain ⟨d1, d⟩ := ba b6
  obtain ⟨d2, d⟩ := ba d
  obtain ⟨d3, d4⟩ := ba d
  exact ⟨⟨cls_ok b5, of_decide_eq_true d1, of_decide_eq_true d2, of_decide_eq_true d3, of_decide_eq_true d4⟩, of_decide_eq_true b7⟩
theorem isiC_ok (X : K.In h) (G : h.Ns mainGlobals mg) {x : Str} {c : Nat} {cs : List Nat} (b0 : (Fa.glo x).ok K = true) (hx : Str.ofString (ci c).1 = x) (b : isiB ci (.cls c) cs (fun K => .ref (ga K x)) K = true) : IsiC ci K mg c cs :=
  ⟨ga K x, by rw [hx]; exact glo_ok X G b0, isi_ok X G b⟩
section
variable {P : Program} {w : World} {base : Heap} {c k : Nat} {x m : Str} {ks : List Str} {F : List D → List D → Hs → R D}
theorem make_ok (X : K.In h) (G : h.Ns mainGlobals mg) (b0 : (Fa.glo x).ok K = true) (b1 : (Fa.mkr x).ok K = true) (hx : Str.ofString (ci c).1 = x) (hF : FnC ci P w K mg base k (fAd K (x, some "__init__")) ks F) : MakeC ci P w K mg base c k ks F :=
  ⟨ga K x, _, by rw [hx]; exact glo_ok X G b0, mkr_ok b1, hF⟩
theorem name_ok (X : K.In h) (G : h.Ns mainGlobals mg) (b0 : (Fa.glo x).ok K = true) (b1 : PySem.W.keepIn K (.ref (fAd K (x, none))) = true) (hF : FnC ci P w K mg base k (fAd K (x, none)) ks F) : NameC ci P w K mg base x k ks F :=
  ⟨ga K x, glo_ok X G b0, b1, hF⟩
theorem meth_c (X : K.In h) (G : h.Ns mainGlobals mg) (b0 : (Fa.glo x).ok K = true) (b1 : (Fa.cls x).ok K = true) (b2 : (Fa.meth x m).ok K = true) (hx : Str.ofString (ci c).1 = x) (hF : FnC ci P w K mg base k (fAd K (x, some m)) ks F) : MethC ci P w K mg base c m k ks F :=
  ⟨ga K x, _, by rw [hx]; exact glo_ok X G b0, cls_ok b1, He.meth_ok b2, hF⟩
def eqB (x : Str) (K : Fr) : Bool := (Fa.meth x "__eq__").ok K && (decide (PySem.W.findIn K (.ref (ga K x)) "__ne__" = some (some (.builtin "object.__ne__"))) && decide (PySem.W.mroIn K (ga K x) (.type "object") = some true))
theorem eq_ok (X : K.In h) (G : h.Ns mainGlobals mg) (b0 : (Fa.glo x).ok K = true) (b : eqB x K = true) (hx : Str.ofString (ci c).1 = x) (hF : FnC ci P w K mg base k (fAd K (x, some "__eq__")) [] F) : EqC ci P w K mg base c k F := by
  obtain ⟨b1, b⟩ := ba b
  obtain ⟨b2, b3⟩ := ba b
  obtain ⟨d1, d⟩ := ba b1
  obtain ⟨d2, d3⟩ := ba d
  exact ⟨ga K x, _, by rw [hx]; exact glo_ok X G b0, eqO_ok d1, d2, of_decide_eq_true b2, of_decide_eq_true b3, hF⟩
end
end
end Fx
/-! ### the law's end -/
theorem reps_ints {g : G} {bs : List Addr} {H : Hp} : ∀ ns : List Int, Reps g bs H (ns.map D.int) (ns.map V.int)
  | [] => .nil
  | i :: r => .cons (.int i) (reps_ints r)
theorem law_sp {K : PySem.W.Frag} {mg : Str → Option Value} {ci : Nat → String × List String} {H : Hp} {a : Addr} {ns : List Int} {G : List D → Hs → R D} (hS : SqL K H a (ns.map V.int)) (hG : ∃ h', G [.rol (ns.map D.int)] [] = .ok (.bl true) h') :
    spG ⟨K, mg, ci⟩ 1 G [.ref a] H (fun v _ => v = .bl true) fun _ _ _ => False := by
  obtain ⟨h', e⟩ := hG
  refine ⟨[], [], [.rol (ns.map D.int)], rfl, ⟨rfl, List.nodup_nil, fun i o z => by simp at z⟩, .cons (.rol ?_ (reps_ints ns)) .nil, ?_⟩
  · rcases hS with h | h
    · exact .inl ⟨by simp, h⟩
    · exact .inr h
  · rw [e]
    intro bs' H' v _ _ r
    cases r
    rfl
theorem walk_Z {l : PySem.W.OpenLaw} {n k : Nat} {q : Program} {loose : List Str} {XP : (Str → Option Value) → Heap → Prop} {nn : Nat} {fn : List He.DefD} {fs : List (Fx.Fr → Bool)} {d : DefRec} {ci : Nat → String × List String} {G : List D → Hs → R D} {x nm : Str}
    (hn : l.most = some n) (hn2 : n ≤ sizeLine) (hdf : d.params.defaults = []) (hnm : d.name = nm) (hr : Room k callerA)
    (hG : ∀ ns : List Int, ns.length ≤ n → (∀ z ∈ ns, Builtin.Int.intBits z ≤ 1048576) → ∃ h', G [.rol (ns.map D.int)] [] = .ok (.bl true) h')
    (F : ∀ (w : World) (K : PySem.W.Frag) (mg : Str → Option Value) (fa : Addr) (h : Heap), K.In h → He.SaysD [] fn K → Fx.allB fs K = true → h.Ns mainGlobals mg → mg nm = some (.ref fa) →
      ∃ fd : FuncData, (∀ (s : Shared) (u : Value), BindsTo s fd ⟨[u], []⟩ [(x, u)]) ∧ ∀ base : Heap, K.In base → base.Ns mainGlobals mg → FnOk l.prog w K mg base (L2.CX l.prog w) k fa fd [x] (spG ⟨K, mg, ci⟩ 1 G)) :
    PySem.W.WalkO q loose XP (Fx.hookZ nn fn fs).says l.row.toRowW d [] (fun f vs => PySem.call f vs) := by
  refine Att.attach_callB hn hdf fun w s₀ s₁ mg mb fa o pm cd doc a vs ns Gr Y ho hd hcd hmg hobj hints hlen hbits hg => ?_
  obtain ⟨K, KX, c1, c2⟩ := Y
  obtain ⟨fd, hb, hF⟩ := F w K mg fa _ KX c1 c2 Gr.T.g (by rw [← hnm]; exact hmg)
  exact law_callG KX Gr.T.g Gr.T.b Gr.T.builtins Gr.T.nolimit hg hobj hints (Nat.le_trans hlen hn2) hr hF hb fun H hO hS => law_sp hS (hG ns hlen hbits)
end Ev
set_option Elab.async false
set_option linter.all false
set_option maxRecDepth 100000
set_option maxHeartbeats 4000000
namespace Ev
open PySem L2

/-! ### what the combinators do, as equations -/
section
variable {env : En} {h h1 : Hs} {i j : Nat} {d : D} {f fa fb fc k : En → Hs → R D} {fl : En → Hs → R (List D)} {c c2 : En → Hs → R Bool} {s s2 : En → Hs → S} {op op2 : D → D → Hs → R D} {kd : D → En → Option En}
@[simp] theorem eVar_ap : eVar i env h = match env[i]? with
  | some (some d) => .ok d h
  | _ => .bad := rfl
@[simp] theorem eC_ap : eC d env h = .ok d h := rfl
@[simp] theorem eBin_ap : eBin op fa fb env h = (fa env h).bind fun x h1 => (fb env h1).bind fun y h2 => op x y h2 := rfl
@[simp] theorem toB_bl {b : Bool} : toB (.bl b) h = .ok b h := rfl
@[simp] theorem eTest_ap : eTest f env h = (f env h).bind toB := rfl
@[simp] theorem eChain_ap : eChain op op2 fa fb fc env h = (fa env h).bind fun x h1 => (fb env h1).bind fun y h2 => (op x y h2).bind fun z h3 => (toB z h3).bind fun k h4 => if k = true then (fc env h4).bind fun w h5 => op2 y w h5 else .ok (.bl false) h4 := rfl
@[simp] theorem eUn_ap {o : D → Hs → R D} : eUn o fa env h = (fa env h).bind o := rfl
@[simp] theorem eTru_ap : eTru fa env h = (fa env h).bind truR := rfl
@[simp] theorem eNotB_ap : eNotB c env h = (c env h).bind fun b h1 => .ok (!b) h1 := rfl
@[simp] theorem eAndB_ap : eAndB c c2 env h = (c env h).bind fun b h1 => if b = true then c2 env h1 else .ok false h1 := rfl
@[simp] theorem eOrB_ap : eOrB c c2 env h = (c env h).bind fun b h1 => if b = true then .ok true h1 else c2 env h1 := rfl
@[simp] theorem eAnd_ap : eAnd fa fb env h = (fa env h).bind fun x h1 => (truR x h1).bind fun b h2 => if b = true then fb env h2 else .ok x h2 := rfl
@[simp] theorem eOr_ap : eOr fa fb env h = (fa env h).bind fun x h1 => (truR x h1).bind fun b h2 => if b = true then .ok x h2 else fb env h2 := rfl
@[simp] theorem eNot_ap : eNot fa env h = (fa env h).bind fun x h1 => (truR x h1).bind fun b h2 => .ok (.bl (!b)) h2 := rfl
@[simp] theorem eIf_ap : eIf c fa fb env h = (c env h).bind fun b h1 => if b = true then fa env h1 else fb env h1 := rfl
@[simp] theorem aNil_ap : aNil env h = .ok [] h := rfl
@[simp] theorem aCons_ap : aCons f fl env h = (f env h).bind fun x h1 => (fl env h1).bind fun xs h2 => .ok (x :: xs) h2 := rfl
@[simp] theorem aStar_ap : aStar f fl env h = (f env h).bind fun x h1 => match seqOf h1 x with
  | some xs => (fl env h1).bind fun ys h2 => .ok (xs ++ ys) h2
  | none => .bad := rfl
@[simp] theorem eTup_ap : eTup fl env h = (fl env h).bind fun xs h1 => if xs.length ≤ big then .ok (.tup xs) h1 else .bad := rfl
@[simp] theorem eLst_ap : eLst fl env h = (fl env h).bind fun xs h1 => if xs.length ≤ big then .ok (.lst xs) h1 else .bad := rfl
@[simp] theorem eLstM_ap : eLstM fl env h = (fl env h).bind fun xs h1 => if xs.length ≤ big then .ok (.ref h1.length) (h1 ++ [.lst xs]) else .bad := rfl
@[simp] theorem oNo_ap : oNo env h = .ok none h := rfl
@[simp] theorem oSome_ap : oSome f env h = (f env h).bind fun x h1 => match x with
  | .int i => .ok (some i) h1
  | _ => .bad := rfl
@[simp] theorem eSl_ap {o : D → Option Int → Option Int → Hs → R D} {lo hi : En → Hs → R (Option Int)} : eSl o fa lo hi env h = (fa env h).bind fun x h1 => (lo env h1).bind fun l h2 => (hi env h2).bind fun u h3 => o x l u h3 := rfl
@[simp] theorem eCall_ap {o : List D → Hs → R D} : eCall o fl env h = (fl env h).bind o := rfl
@[simp] theorem eAttr_ap {tab : List (Nat × Nat)} : eAttr tab f env h = (f env h).bind (attrD tab) := rfl
@[simp] theorem eIsi_ap {ty : Ty} {cs : List Nat} : eIsi ty cs f env h = (f env h).bind (isiD ty cs) := rfl
@[simp] theorem cNil_ap : cNil env h = .ok ([], []) h := rfl
@[simp] theorem cPos_ap : cPos fl env h = (fl env h).bind fun xs h1 => .ok (xs, []) h1 := rfl
@[simp] theorem cKw_ap {n : Nat} {fk : En → Hs → R (List D)} : cKw n fl fk env h = (fl env h).bind fun xs h1 => (fk env h1).bind fun ys h2 => if ys.length = n then .ok (xs, ys) h2 else .bad := rfl
@[simp] theorem cStar_ap : cStar f env h = (f env h).bind fun x h1 => match seqOf h1 x with
  | some xs => .ok (xs, []) h1
  | none => .bad := rfl
@[simp] theorem eCallC_ap {F : List D → List D → Hs → R D} {fd : En → Hs → R DD2} : eCallC F fd env h = (fd env h).bind fun d h1 => F d.1 d.2 h1 := rfl
@[simp] theorem eMeth_ap {n : Nat} {F : List D → List D → Hs → R D} {fd : En → Hs → R DD2} : eMeth n F f fd env h = (f env h).bind fun x h1 => if isIns n x h1 = true then (fd env h1).bind fun d h2 => F (x :: d.1) d.2 h2 else .bad := rfl
@[simp] theorem eMakeM_ap {n : Nat} {F : List D → List D → Hs → R D} {fd : En → Hs → R DD2} : eMakeM n F fd env h = (fd env h).bind fun d h1 => (F (.ref h1.length :: d.1) d.2 (h1 ++ [.ins n []])).bind fun v h2 => match v with
  | .non => .ok (.ref h1.length) h2
  | _ => .bad := rfl
/-- an instance made and let be -/
theorem eMake_ap {n n' : Nat} {F : List D → List D → Hs → R D} {fd : En → Hs → R DD2} {xs ys fs : List D} (e1 : fd env h = .ok (xs, ys) h1) (e2 : F (.ref h1.length :: xs) ys (h1 ++ [.ins n []]) = .ok .non (h1 ++ [.ins n' fs])) (e3 : D.nrs h1.length fs = true) : eMake n F fd env h = .ok (.obj n' fs) h1 := by
  unfold eMake
  rw [e1]
  simp only [R.bind_ok]
  rw [e2]
  simp only [R.bind_ok]
  rw [List.getElem?_append_right (Nat.le_refl _), Nat.sub_self]
  simp [e3]
theorem eMake_err {n k : Nat} {F : List D → List D → Hs → R D} {fd : En → Hs → R DD2} {xs ys fs : List D} {h2 : Hs} (e1 : fd env h = .ok (xs, ys) h1) (e2 : F (.ref h1.length :: xs) ys (h1 ++ [.ins n []]) = .err k fs h2) : eMake n F fd env h = .err k fs h2 := by
  unfold eMake
  rw [e1]
  simp only [R.bind_ok]
  rw [e2]
  rfl
@[simp] theorem sNil_ap : sNil env h = .nx env h := rfl
@[simp] theorem sCons_ap : sCons s s2 env h = (s env h).seq s2 := rfl
@[simp] theorem sBrk_ap : sBrk env h = .brk env h := rfl
@[simp] theorem sCt_ap : sCt env h = .ct env h := rfl
@[simp] theorem sExpr_ap : sExpr f env h = (f env h).toS env fun _ h1 => .nx env h1 := rfl
@[simp] theorem sRet_ap : sRet f env h = (f env h).toS env fun d h1 => .ret d h1 := rfl
@[simp] theorem sRetN_ap : sRetN env h = .ret .non h := rfl
@[simp] theorem sIf_ap : sIf c s s2 env h = (c env h).toS env fun b h1 => if b = true then s env h1 else s2 env h1 := rfl
@[simp] theorem kName_ap : kName i d env = some (env.set i (some d)) := rfl
@[simp] theorem ksNil_ap : ksNil [] env = some env := rfl
@[simp] theorem ksCons_ap {g : D → En → Option En} {ks : List D → En → Option En} {ds : List D} : ksCons g ks (d :: ds) env = match g d env with
  | some env1 => ks ds env1
  | none => none := rfl
@[simp] theorem kTup_ap {n : Nat} {ks : List D → En → Option En} {ds : List D} : kTup n ks (.tup ds) env = if ds.length = n then ks ds env else none := rfl
@[simp] theorem sAsg_ap : sAsg f kd env h = (f env h).toS env fun d h1 => match kd d env with
  | some env1 => .nx env1 h1
  | none => .bad := rfl
@[simp] theorem sPar_ap : sPar i j fl env h = (fl env h).toS env fun xs h1 => match xs with
  | [x, y] => .nx ((env.set i (some x)).set j (some y)) h1
  | _ => .bad := rfl
@[simp] theorem sAugI_ap {o : Int → Int → Int} : sAugI i o f env h = match env[i]? with
  | some (some (.int a)) => (f env h).toS env fun y h1 => match y with
    | .int b => .nx (env.set i (some (.int (o a b)))) h1
    | _ => .bad
  | _ => .bad := rfl
@[simp] theorem sSetIx_ap : sSetIx fa fb fc env h = (fc env h).toS env fun z h1 => (fa env h1).toS env fun x h2 => (fb env h2).toS env fun y h3 => match setIx x y z h3 with
  | some h4 => .nx env h4
  | none => .bad := rfl
@[simp] theorem sAttr_ap {tab : List (Nat × Nat)} : sAttr tab fa fb env h = (fb env h).toS env fun y h1 => (fa env h1).toS env fun x h2 => match setAttrD tab x y h2 with
  | some h3 => .nx env h3
  | none => .bad := rfl
@[simp] theorem sRaise_ap {n : Nat} : sRaise n f env h = (f env h).toS env fun d h1 => .err n [d] env h1 := rfl
@[simp] theorem eBM_ap {T : TyK} {o : D → List D → Hs → R D} : eBM T o f fl env h = (f env h).bind fun x h1 => if tyOk T x h1 = true then (fl env h1).bind fun xs h2 => o x xs h2 else .bad := rfl
@[simp] theorem eBM0_ap {T : TyK} {o : D → List D → Hs → R D} : eBM0 T o f env h = (f env h).bind fun x h1 => if tyOk T x h1 = true then o x [] h1 else .bad := rfl
@[simp] theorem bYes_ap : bYes env h = .ok true h := rfl
@[simp] theorem iSeq_ap : iSeq f env h = (f env h).bind srcD := rfl
/-! values -/
@[simp] theorem addD_int {a b : Int} : addD (.int a) (.int b) h = .ok (.int (a + b)) h := rfl
@[simp] theorem addD_tup {a b : List D} : addD (.tup a) (.tup b) h = if a.length + b.length ≤ big then .ok (.tup (a ++ b)) h else .bad := rfl
@[simp] theorem addD_lst {a b : List D} : addD (.lst a) (.lst b) h = if a.length + b.length ≤ big then .ok (.lst (a ++ b)) h else .bad := rfl
@[simp] theorem subD_int {a b : Int} : subD (.int a) (.int b) h = .ok (.int (a - b)) h := rfl
theorem mulD_int {a b : Int} (e : (smallI a || smallI b || (midI a && midI b)) = true) : mulD (.int a) (.int b) h = .ok (.int (a * b)) h := by
  show (match mulI a b with
    | some d => R.ok d h
    | none => .bad) = _
  unfold mulI
  rw [if_pos e]
theorem ble_nat {i : Int} {z : Nat} (h1 : -(z : Int) ≤ i) (h2 : i ≤ z) : Nat.ble i.natAbs z = true := Nat.ble_eq_true_of_le (by omega)
theorem smallI_of {a : Int} (h1 : -18446744073709551616 < a) (h2 : a < 18446744073709551616) : smallI a = true := by
  show Nat.ble a.natAbs 18446744073709551615 = true
  exact ble_nat (by omega) (by omega)
theorem mul_l {a b : Int} (h1 : -18446744073709551616 < a) (h2 : a < 18446744073709551616) : mulD (.int a) (.int b) h = .ok (.int (a * b)) h := mulD_int (by rw [smallI_of h1 h2]; rfl)
theorem mul_r {a b : Int} (h1 : -18446744073709551616 < b) (h2 : b < 18446744073709551616) : mulD (.int a) (.int b) h = .ok (.int (a * b)) h := mulD_int (by rw [smallI_of (a := b) h1 h2]; simp)
theorem fdiv_ok {a b : Int} (h1 : 0 < b) (h2 : b < 2 ^ 400) : fdivD (.int a) (.int b) h = .ok (.int (a / b)) h := by
  show (match (if 0 < b ∧ b.natAbs < 2 ^ 400 then some (D.int (a / b)) else none) with
    | some d => R.ok d h
    | none => .bad) = _
  rw [if_pos ⟨h1, by omega⟩]
theorem fdiv_sm {a b : Int} (h1 : 0 < b) (h2 : b < 18446744073709551616) : fdivD (.int a) (.int b) h = .ok (.int (a / b)) h := fdiv_ok h1 (Int.lt_trans h2 (by decide))
theorem mod_ok {a b : Int} (h1 : 0 < b) : modD (.int a) (.int b) h = .ok (.int (a % b)) h := by
  show (match (if 0 < b then some (D.int (a % b)) else none) with
    | some d => R.ok d h
    | none => .bad) = _
  rw [if_pos h1]
@[simp] theorem ltD_int {a b : Int} : ltD (.int a) (.int b) h = .ok (.bl (decide (a < b))) h := rfl
@[simp] theorem leD_int {a b : Int} : leD (.int a) (.int b) h = .ok (.bl (decide (a ≤ b))) h := rfl
@[simp] theorem gtD_int {a b : Int} : gtD (.int a) (.int b) h = .ok (.bl (decide (b < a))) h := rfl
@[simp] theorem geD_int {a b : Int} : geD (.int a) (.int b) h = .ok (.bl (decide (b ≤ a))) h := rfl
@[simp] theorem negD_int {a : Int} : negD (.int a) h = .ok (.int (-a)) h := rfl
@[simp] theorem truR_bl {b : Bool} : truR (.bl b) h = .ok b h := rfl
@[simp] theorem truR_int {a : Int} : truR (.int a) h = .ok (a != 0) h := rfl
@[simp] theorem truR_non : truR .non h = .ok false h := rfl
@[simp] theorem truR_tup {a : List D} : truR (.tup a) h = .ok (!a.isEmpty) h := rfl
@[simp] theorem truR_lst {a : List D} : truR (.lst a) h = .ok (!a.isEmpty) h := rfl
@[simp] theorem isND_non : isND d .non h = .ok (.bl (isN d)) h := rfl
@[simp] theorem notND_non : notND d .non h = .ok (.bl (!isN d)) h := rfl
@[simp] theorem absD_int {a : Int} : absD [.int a] h = .ok (.int (if a < 0 then -a else a)) h := rfl
@[simp] theorem maxD_int {a b : Int} : maxD [.int a, .int b] h = .ok (.int (if b > a then b else a)) h := rfl
@[simp] theorem minD_int {a b : Int} : minD [.int a, .int b] h = .ok (.int (if b < a then b else a)) h := rfl
@[simp] theorem intTD_int {a : Int} : intTD [.int a] h = .ok (.int a) h := rfl
@[simp] theorem intTD_bl {b : Bool} : intTD [.bl b] h = .ok (.int (if b = true then 1 else 0)) h := rfl
@[simp] theorem boolTD_int {a : Int} : boolTD [.int a] h = .ok (.bl (a != 0)) h := rfl
@[simp] theorem boolTD_bl {b : Bool} : boolTD [.bl b] h = .ok (.bl b) h := rfl
@[simp] theorem lenD_tup {a : List D} : lenD [.tup a] h = .ok (.int a.length) h := rfl
@[simp] theorem lenD_lst {a : List D} : lenD [.lst a] h = .ok (.int a.length) h := rfl
@[simp] theorem lenD_rol {a : List D} : lenD [.rol a] h = .ok (.int a.length) h := rfl
theorem divmod_ok {a b : Int} (h1 : 0 < b) (h2 : b < 2 ^ 400) : divmodD [.int a, .int b] h = .ok (.tup [.int (a / b), .int (a % b)]) h := by
  show (if 0 < b ∧ b.natAbs < 2 ^ 400 then R.ok (D.tup [D.int (a / b), D.int (a % b)]) h else .bad) = _
  rw [if_pos ⟨h1, by omega⟩]
@[simp] theorem ixD_tup {a : List D} {n : Int} : ixD (.tup a) (.int n) h = match atI a n with
  | some d => .ok d h
  | none => .bad := rfl
@[simp] theorem ixD_lst {a : List D} {n : Int} : ixD (.lst a) (.int n) h = match atI a n with
  | some d => .ok d h
  | none => .bad := rfl
@[simp] theorem ixD_rol {a : List D} {n : Int} : ixD (.rol a) (.int n) h = match atI a n with
  | some d => .ok d h
  | none => .bad := rfl
@[simp] theorem slD_tup {a : List D} {l u : Option Int} : slD (.tup a) l u h = .ok (.tup (cutD a l u)) h := rfl
@[simp] theorem slD_lst {a : List D} {l u : Option Int} : slD (.lst a) l u h = .ok (.lst (cutD a l u)) h := rfl
@[simp] theorem seqOf_tup {a : List D} : seqOf h (.tup a) = some a := rfl
@[simp] theorem seqOf_lst {a : List D} : seqOf h (.lst a) = some a := rfl
@[simp] theorem seqOf_rol {a : List D} : seqOf h (.rol a) = some a := rfl
@[simp] theorem rdL_lst {a : List D} : rdL h (.lst a) = some a := rfl
@[simp] theorem rdL_rol {a : List D} : rdL h (.rol a) = some a := rfl
@[simp] theorem srcD_tup {a : List D} : srcD (.tup a) h = .ok (a, []) h := rfl
@[simp] theorem srcD_lst {a : List D} : srcD (.lst a) h = .ok (a, []) h := rfl
@[simp] theorem srcD_rol {a : List D} : srcD (.rol a) h = .ok (a, []) h := rfl
@[simp] theorem big_le : (0 ≤ big) = True := eq_true (Nat.zero_le _)
/-! == of flat values -/
@[simp] theorem eqD_int {a b : Int} : eqD (.int a) (.int b) h = .ok (.bl (decide (a = b))) h := by
  show R.ok (D.bl (PyData.eqv (.int a) (.int b))) h = _
  congr 2
@[simp] theorem neD_int {a b : Int} : neD (.int a) (.int b) h = .ok (.bl (!decide (a = b))) h := by
  show R.ok (D.bl (!PyData.eqv (.int a) (.int b))) h = _
  congr 2
@[simp] theorem eqD_str {a b : Str} : eqD (.str a) (.str b) h = .ok (.bl (decide (a = b))) h := by
  show R.ok (D.bl (PyData.eqv (.str a) (.str b))) h = _
  congr 2
@[simp] theorem neD_str {a b : Str} : neD (.str a) (.str b) h = .ok (.bl (!decide (a = b))) h := by
  show R.ok (D.bl (!PyData.eqv (.str a) (.str b))) h = _
  congr 2
@[simp] theorem eqD_bl {a b : Bool} : eqD (.bl a) (.bl b) h = .ok (.bl (decide (a = b))) h := by
  cases a <;> cases b <;> rfl
@[simp] theorem neD_bl {a b : Bool} : neD (.bl a) (.bl b) h = .ok (.bl (!decide (a = b))) h := by
  cases a <;> cases b <;> rfl
end
/-! ### places -/
theorem ixN_nat (m n : Nat) (h : n < m) : ixN m (n : Int) = some n := by
  unfold ixN
  first
    | (rw [if_neg (by omega)]; simp; omega)
    | (simp; omega)
theorem atI_nat {xs : List D} {n : Nat} : atI xs (n : Int) = xs[n]? := by
  unfold atI
  by_cases h : n < xs.length
  · rw [ixN_nat _ _ h]; rfl
  · rw [List.getElem?_eq_none (by omega)]
    unfold ixN
    first
      | (rw [if_neg (by omega)]; simp; omega)
      | (simp; omega)
@[simp] theorem atI_0 {xs : List D} : atI xs 0 = xs[0]? := atI_nat (n := 0)
@[simp] theorem atI_1 {xs : List D} : atI xs 1 = xs[1]? := atI_nat (n := 1)
@[simp] theorem atI_2 {xs : List D} : atI xs 2 = xs[2]? := atI_nat (n := 2)
@[simp] theorem atI_3 {xs : List D} : atI xs 3 = xs[3]? := atI_nat (n := 3)
@[simp] theorem atI_4 {xs : List D} : atI xs 4 = xs[4]? := atI_nat (n := 4)
@[simp] theorem atI_5 {xs : List D} : atI xs 5 = xs[5]? := atI_nat (n := 5)
@[simp] theorem atI_6 {xs : List D} : atI xs 6 = xs[6]? := atI_nat (n := 6)
@[simp] theorem atI_7 {xs : List D} : atI xs 7 = xs[7]? := atI_nat (n := 7)
@[simp] theorem atI_8 {xs : List D} : atI xs 8 = xs[8]? := atI_nat (n := 8)
@[simp] theorem atI_9 {xs : List D} : atI xs 9 = xs[9]? := atI_nat (n := 9)
@[simp] theorem atI_10 {xs : List D} : atI xs 10 = xs[10]? := atI_nat (n := 10)
@[simp] theorem atI_11 {xs : List D} : atI xs 11 = xs[11]? := atI_nat (n := 11)
@[simp] theorem atI_12 {xs : List D} : atI xs 12 = xs[12]? := atI_nat (n := 12)
@[simp] theorem ite_ok {α : Type} {c : Prop} [Decidable c] {a b : α} {h : Hs} : (if c then R.ok a h else R.ok b h) = R.ok (if c then a else b) h := by split <;> rfl
@[simp] theorem ite_int {c : Prop} [Decidable c] {a b : Int} : (if c then D.int a else D.int b) = D.int (if c then a else b) := by split <;> rfl
@[simp] theorem ite_bl {c : Prop} [Decidable c] {a b : Bool} : (if c then D.bl a else D.bl b) = D.bl (if c then a else b) := by split <;> rfl
@[simp] theorem ite_str {c : Prop} [Decidable c] {a b : Str} : (if c then D.str a else D.str b) = D.str (if c then a else b) := by split <;> rfl
/-! ### calls -/
@[simp] theorem posF_ap {n : Nat} {G : List D → Hs → R D} {ds es : List D} {h : Hs} : posF n G ds es h = if ds.length = n then G ds h else .bad := rfl
@[simp] theorem starF_ap {n : Nat} {G : List D → Hs → R D} {ds es : List D} {h : Hs} : starF n G ds es h = if n ≤ ds.length ∧ (ds.drop n).length ≤ big then G (ds.take n ++ [.tup (ds.drop n)]) h else .bad := rfl
@[simp] theorem kwF_ap {n m : Nat} {g : List D → List D → List D} {G : List D → Hs → R D} {ds es : List D} {h : Hs} : kwF n m g G ds es h = if ds.length = n ∧ es.length = m then G (g ds es) h else .bad := rfl
end Ev
set_option Elab.async false
set_option linter.all false
set_option maxRecDepth 100000
set_option maxHeartbeats 4000000
namespace Ev
open PySem L2

/-! ### instances, attributes -/
section
variable {h : Hs} {c i : Nat} {fs : List D} {tab : List (Nat × Nat)}
@[simp] theorem insOf_obj : insOf h (.obj c fs) = some (c, fs) := rfl
@[simp] theorem insOf_last : insOf (h ++ [.ins c fs]) (.ref h.length) = some (c, fs) := by
  unfold insOf
  simp
@[simp] theorem attrD_obj : attrD tab (.obj c fs) h = match fieldI tab c with
  | some i => match fs[i]? with
    | some d => .ok d h
    | none => .bad
  | none => .bad := rfl
theorem attrD_ref {n : Nat} {x : D} (e : h[n]? = some (.ins c fs)) (e2 : fieldI tab c = some i) (e3 : fs[i]? = some x) : attrD tab (.ref n) h = .ok x h := by
  unfold attrD insOf
  simp [e, e2, e3]
@[simp] theorem fieldI_cons {a b k : Nat} {r : List (Nat × Nat)} : fieldI ((a, b) :: r) k = if a = k then some b else fieldI r k := rfl
@[simp] theorem fieldI_nil {k : Nat} : fieldI [] k = none := rfl
@[simp] theorem setAttr_last {y : D} : setAttrD tab (.ref h.length) y (h ++ [.ins c fs]) = match fieldI tab c with
  | some i => if fs.length < 900 then (match putI fs i y with
    | some ds' => some (h ++ [.ins c ds'])
    | none => none) else none
  | none => none := by
  have e1 : (h ++ [O.ins c fs])[h.length]? = some (.ins c fs) := by simp
  have e2 : ∀ o, (h ++ [O.ins c fs]).set h.length o = h ++ [o] := fun o => by simp
  unfold setAttrD
  simp only [e1, e2]
  all_goals (cases fieldI tab c <;> first | rfl | (dsimp only; split <;> first | rfl | (cases putI fs _ y <;> rfl)))
@[simp] theorem isIns_obj {k : Nat} : isIns k (.obj c fs) h = decide (c = k) := rfl
@[simp] theorem isi_int_int {cs : List Nat} {v : Int} : isiD .int cs (.int v) h = .ok (.bl true) h := rfl
@[simp] theorem isi_bool_int {cs : List Nat} {v : Int} : isiD .bool cs (.int v) h = .ok (.bl false) h := rfl
@[simp] theorem isi_int_bl {cs : List Nat} {v : Bool} : isiD .int cs (.bl v) h = .ok (.bl true) h := rfl
@[simp] theorem isi_bool_bl {cs : List Nat} {v : Bool} : isiD .bool cs (.bl v) h = .ok (.bl true) h := rfl
@[simp] theorem isi_str_str {cs : List Nat} {v : Str} : isiD .str cs (.str v) h = .ok (.bl true) h := rfl
@[simp] theorem isi_cls_obj {cs : List Nat} {k : Nat} : isiD (.cls k) cs (.obj c fs) h = if c ∈ cs then .ok (.bl (decide (c = k))) h else .bad := rfl
end
/-! ### calls of a made instance -/
theorem putI_app {fs : List D} {y : D} : putI fs fs.length y = some (fs ++ [y]) := by
  unfold putI
  simp
/-! ### comprehensions -/
theorem compL_map {hb : Hs} {k : D → En → Option En} {tt : En → Hs → R Bool} {fe : En → Hs → R D} {env : En} {g : D → D} : ∀ {xs acc : List D}, (∀ x ∈ xs, ∃ e1, k x env = some e1 ∧ (∀ h, tt e1 h = .ok true h) ∧ ∀ h, fe e1 h = .ok (g x) h) → acc.length + xs.length ≤ big →
    compL hb [] k tt fe env xs acc = .ok (acc ++ xs.map g) hb
  | [], acc, _, _ => by simp [compL]
  | x :: xs, acc, hx, hl => by
    obtain ⟨e1, h1, h2, h3⟩ := hx x List.mem_cons_self
    rw [compL, if_pos (Kept_nil _ ▸ trivial), h1]
    dsimp only
    rw [h2]
    simp only [noErr_ok, R.bind_ok, if_true]
    rw [h3]
    simp only [noErr_ok, R.bind_ok]
    rw [if_pos ⟨trivial, by simp at hl; omega⟩]
    rw [compL_map (fun y hy => hx y (List.mem_cons_of_mem _ hy)) (by simp at hl ⊢; omega)]
    simp
theorem eComp_map {env : En} {h h1 : Hs} {fi : En → Hs → R Src} {k : D → En → Option En} {tt : En → Hs → R Bool} {fe : En → Hs → R D} {own : List Nat} {g : D → D} {xs : List D} (e : fi env h = .ok (xs, []) h1)
    (hx : ∀ x ∈ xs, ∃ e1, k x (wipeE env own) = some e1 ∧ (∀ h, tt e1 h = .ok true h) ∧ ∀ h, fe e1 h = .ok (g x) h) (hl : xs.length ≤ big) (hn : D.nrs h1.length (xs.map g) = true) : eComp fi k tt fe own env h = .ok (.lst (xs.map g)) h1 := by
  unfold eComp
  rw [e]
  simp only [R.bind_ok]
  rw [compL_map hx (by simpa using hl)]
  simp [hn]
/-! ### loops -/
theorem forL_inv {k : D → En → Option En} {f : En → Hs → S} (I : En → Hs → Prop) : ∀ {xs : List D}, (∀ x ∈ xs, ∀ env h, I env h → ∃ e1 e2 h2, k x env = some e1 ∧ f e1 h = .nx e2 h2 ∧ I e2 h2) → ∀ {env : En} {h : Hs}, I env h → ∃ e2 h2, forL [] k f xs env h = .nx e2 h2 ∧ I e2 h2
  | [], _, env, h, hi => ⟨env, h, by simp [forL], hi⟩
  | x :: xs, hx, env, h, hi => by
    obtain ⟨e1, e2, h2, h1, h3, h4⟩ := hx x List.mem_cons_self env h hi
    obtain ⟨e3, h5, h6, h7⟩ := forL_inv I (fun y hy => hx y (List.mem_cons_of_mem _ hy)) h4
    refine ⟨e3, h5, ?_, h7⟩
    rw [forL, if_pos (Kept_nil _ ▸ trivial), h1]
    dsimp only
    rw [h3]
    exact h6
/-- with the place -/
theorem forL_invI {k : D → En → Option En} {f : En → Hs → S} (I : Nat → En → Hs → Prop) : ∀ {xs : List D} {n : Nat}, (∀ i x, xs[i]? = some x → ∀ env h, I (n + i) env h → ∃ e1 e2 h2, k x env = some e1 ∧ f e1 h = .nx e2 h2 ∧ I (n + i + 1) e2 h2) → ∀ {env : En} {h : Hs}, I n env h → ∃ e2 h2, forL [] k f xs env h = .nx e2 h2 ∧ I (n + xs.length) e2 h2
  | [], n, _, env, h, hi => ⟨env, h, by simp [forL], hi⟩
  | x :: xs, n, hx, env, h, hi => by
    obtain ⟨e1, e2, h2, h1, h3, h4⟩ := hx 0 x rfl env h hi
    obtain ⟨e3, h5, h6, h7⟩ := forL_invI (xs := xs) (n := n + 1) I (fun i y hy e hh hi => by
      have := hx (i + 1) y (by simpa using hy) e hh (by rw [show n + (i + 1) = n + 1 + i by omega]; exact hi)
      rw [show n + (i + 1) + 1 = n + 1 + i + 1 by omega] at this
      exact this) h4
    refine ⟨e3, h5, ?_, by rw [List.length_cons, show n + (xs.length + 1) = n + 1 + xs.length by omega]; exact h7⟩
    rw [forL, if_pos (Kept_nil _ ▸ trivial), h1]
    dsimp only
    rw [h3]
    exact h6
/-! ### runs of bodies -/
theorem runB_ret {m : Nat} {fb : En → Hs → S} {ds : List D} {h h' : Hs} {d : D} (e : fb (ds.map some ++ List.replicate (m - ds.length) none) h = .ret d h') : runB m fb ds h = .ok d h' := by
  unfold runB
  rw [e]
theorem runB_nx {m : Nat} {fb : En → Hs → S} {ds : List D} {h h' : Hs} {env : En} (e : fb (ds.map some ++ List.replicate (m - ds.length) none) h = .nx env h') : runB m fb ds h = .ok .non h' := by
  unfold runB
  rw [e]
theorem seq_of {s k : En → Hs → S} {env env1 : En} {h h1 : Hs} (e : s env h = .nx env1 h1) : sCons s k env h = k env1 h1 := by
  rw [sCons_ap, e]
  rfl
/-! ### == of equal data -/
def plainD : Nat → D → Bool
  | 0, _ => false
  | k + 1, d => match d with
    | .non => true
    | .bl _ => true
    | .int _ => true
    | .str _ => true
    | .tup xs => xs.all (plainD k)
    | .lst xs => xs.all (plainD k)
    | .rol xs => xs.all (plainD k)
    | _ => false
theorem datAll_plain {f : D → Option PyData} : ∀ {xs : List D}, (∀ x ∈ xs, ∃ p, f x = some p ∧ p.plain = true) → ∃ ps, datAll f xs = some ps ∧ PyData.plainAll ps = true
  | [], _ => ⟨[], rfl, rfl⟩
  | x :: xs, hx => by
    obtain ⟨p, h1, h2⟩ := hx x List.mem_cons_self
    obtain ⟨ps, h3, h4⟩ := datAll_plain (xs := xs) fun y hy => hx y (List.mem_cons_of_mem _ hy)
    exact ⟨p :: ps, by simp [datAll, h1, h3], by simp [PyData.plainAll, h2, h4]⟩
theorem dat_plain {h : Hs} : ∀ {k : Nat} {d : D}, plainD k d = true → ∃ p, dat k h d = some p ∧ p.plain = true
  | 0, _, e => by simp [plainD] at e
  | k + 1, d, e => by
    cases d with
    | non => exact ⟨.none, rfl, rfl⟩
    | bl b => exact ⟨.bool b, rfl, rfl⟩
    | int i => exact ⟨.int i, rfl, rfl⟩
    | str s => exact ⟨.str s, rfl, rfl⟩
    | tup xs =>
      obtain ⟨ps, h1, h2⟩ := datAll_plain (f := dat k h) (xs := xs) fun x hx => dat_plain (List.all_eq_true.mp (show xs.all (plainD k) = true from e) x hx)
      exact ⟨.tuple ps, by simp [dat, h1], by simpa [PyData.plain] using h2⟩
    | lst xs =>
      obtain ⟨ps, h1, h2⟩ := datAll_plain (f := dat k h) (xs := xs) fun x hx => dat_plain (List.all_eq_true.mp (show xs.all (plainD k) = true from e) x hx)
      exact ⟨.list ps, by simp [dat, h1], by simpa [PyData.plain] using h2⟩
    | rol xs =>
      obtain ⟨ps, h1, h2⟩ := datAll_plain (f := dat k h) (xs := xs) fun x hx => dat_plain (List.all_eq_true.mp (show xs.all (plainD k) = true from e) x hx)
      exact ⟨.list ps, by simp [dat, h1], by simpa [PyData.plain] using h2⟩
    | obj c fs => cases e
    | ref n => cases e
    | dct ks ds => cases e
    | dnt ks ds => cases e
theorem eqD_self {d : D} {h : Hs} (e : plainD 20 d = true) : eqD d d h = .ok (.bl true) h := by
  obtain ⟨p, h1, h2⟩ := dat_plain (h := h) e
  unfold eqD
  rw [h1]
  simp only
  rw [PySem.SeqAt.eqv_refl_plain p h2]
theorem neD_self {d : D} {h : Hs} (e : plainD 20 d = true) : neD d d h = .ok (.bl false) h := by
  obtain ⟨p, h1, h2⟩ := dat_plain (h := h) e
  unfold neD
  rw [h1]
  simp only
  rw [PySem.SeqAt.eqv_refl_plain p h2]
  rfl
/-! ### ranges -/
theorem rng_of {m : Nat} (hm : m < 1000000) : Nat.ble (m : Int).natAbs 4000000000000000000 = true := ble_nat (by omega) (by omega)
theorem iRange1_ok {fa : En → Hs → R (List D)} {env : En} {h h1 : Hs} {m : Nat} (e : fa env h = .ok [.int (m : Int)] h1) (hm : m < 1000000) : iRange1 fa env h = .ok ((List.range m).map fun (i : Nat) => D.int (i : Int), []) h1 := by
  have k := rng_of hm
  show (fa env h).bind _ = _
  rw [e, R.bind_ok]
  dsimp only
  rw [if_pos k, Int.toNat_natCast]
theorem sFor_range {fa : En → Hs → R (List D)} {k : D → En → Option En} {f : En → Hs → S} {env : En} {h h1 : Hs} {m : Nat} (e : fa env h = .ok [.int (m : Int)] h1) (hm : m < 1000000) : sFor (iRange1 fa) k f env h = forL [] k f ((List.range m).map fun (i : Nat) => D.int (i : Int)) env h1 := by
  unfold sFor
  rw [iRange1_ok e hm]
  rfl
end Ev
set_option Elab.async false
set_option linter.all false
set_option maxRecDepth 100000
set_option maxHeartbeats 4000000
namespace Ev
open PySem L2

/-! ### comprehensions whose elements may change the heap -/
open Classical in
noncomputable def compG (n : Nat) (gs : List (Nat × O)) (k : D → En → Option En) (tt : En → Hs → R Bool) (fe : En → Hs → R D) (env : En) : List D → List D → Hs → R (List D)
  | [], acc, h => if Kept gs h ∧ cellL h n = some acc then .ok acc h else .bad
  | x :: xs, acc, h => if Kept gs h then (match k x env with
    | none => .bad
    | some e1 => (noErr (tt e1 h)).bind fun b h1 => if b = true then (noErr (fe e1 h1)).bind fun y h2 => if cellL h2 n = some acc ∧ acc.length < big then compG n gs k tt fe env xs (acc ++ [y]) (h2.set n (.lst (acc ++ [y]))) else .bad
      else compG n gs k tt fe env xs acc h1) else .bad
/-- the cells below n are as they were, or name none of the new -/
def Chg (n : Nat) (h h2 : Hs) : Prop := h2.length = n + 1 ∧ ∀ (i : Nat) (o : O), i < n → h2[i]? = some o → h[i]? = some o ∨ O.nr n o = true
open Classical in
noncomputable def eCompH (fi : En → Hs → R Src) (k : D → En → Option En) (tt : En → Hs → R Bool) (fe : En → Hs → R D) (own : List Nat) : En → Hs → R D := fun env h => (fi env h).bind fun s h1 => (compG h1.length s.2 k tt fe (wipeE env own) s.1 [] (h1 ++ [.lst []])).bind fun ys h2 => if D.nrs h1.length ys = true ∧ Chg h1.length h1 h2 then .ok (.lst ys) (h2.take h1.length) else .bad
noncomputable def eCompHM (fi : En → Hs → R Src) (k : D → En → Option En) (tt : En → Hs → R Bool) (fe : En → Hs → R D) (own : List Nat) : En → Hs → R D := fun env h => (fi env h).bind fun s h1 => (compG h1.length s.2 k tt fe (wipeE env own) s.1 [] (h1 ++ [.lst []])).bind fun ys h2 => .ok (.ref h1.length) h2
theorem compG_ok {n : Nat} {gs : List (Nat × O)} {k : D → En → Option En} {tt : En → Hs → R Bool} {fe : En → Hs → R D} {env : En} : ∀ {xs acc : List D} {h : Hs}, (∃ ys h2, compG n gs k tt fe env xs acc h = .ok ys h2 ∧ cellL h2 n = some ys) ∨ compG n gs k tt fe env xs acc h = .bad
  | [], acc, h => by
    rw [compG]
    split
    · rename_i hk
      exact .inl ⟨_, _, rfl, hk.2⟩
    · exact .inr rfl
  | x :: xs, acc, h => by
    rw [compG]
    split
    · split
      · exact .inr rfl
      · rename_i e1 _
        cases ht : noErr (tt e1 h) with
        | bad => exact .inr rfl
        | err c fs h' => exact (by cases hz : tt e1 h <;> rw [hz] at ht <;> cases ht)
        | ok b h1 =>
          simp only [R.bind_ok]
          split
          · cases hf : noErr (fe e1 h1) with
            | bad => exact .inr rfl
            | err c fs h => exact (by cases hz : fe e1 h1 <;> rw [hz] at hf <;> cases hf)
            | ok y h2 =>
              simp only [R.bind_ok]
              split
              · exact compG_ok
              · exact .inr rfl
          · exact compG_ok
    · exact .inr rfl
theorem wipe_idem {σ : St} {vs : List Nat} : ∀ us : List Nat, (∀ u ∈ us, u ∈ vs) → L2.wipe (L2.wipe σ us) vs = L2.wipe σ vs
  | [], _ => rfl
  | u :: us, hu => by
    show L2.wipe ((L2.wipe σ us).set u none) vs = _
    rw [wipe_set (hu u List.mem_cons_self)]
    exact wipe_idem us fun w hw => hu w (List.mem_cons_of_mem _ hw)
section
variable {ci : Nat → String × List String} {X : Cx} {W : WX} {elt tg iter : Expr} {ifs : List Expr} {scope : Scope} {own : List (Str × Nat)} {pos : Pos} {wi : TI} {t : TG} {tt : TT} {te : TE} {fi : En → Hs → R Src} {k : D → En → Option En} {js : List Nat} {ft : En → Hs → R Bool} {fe : En → Hs → R D}
theorem sim_compG_core {g : G} {vs : List Nat} {σ : St} {H1 : Hp} {env : En} {h1 hE : Hs} {bs1 : List Addr} {s : Src} {J : It} {Q : VK} {ys : List Ev.D} (hg : SimG g t k js) (ht : Sim relB g W0 tt ft) (he : Sim (relV g) g W0 te fe) (hjs : ∀ j ∈ js, j ∈ vs)
    (er1 : ERel g bs1 H1 env σ) (hr1 : HRel g bs1 h1 H1) (fd : Feeds g bs1 H1 J s.1 s.2) (hc : compG h1.length s.2 k ft fe (wipeE env vs) s.1 [] (h1 ++ [.lst []]) = .ok ys hE)
    (hQ : ∀ (Da : Addr) (bs : List Addr) (H : Hp), H1 Da = none → Ext bs1 H1 bs H → bs[h1.length]? = some Da → HRel g bs hE H → Q (.ref Da) H) :
    ∀ Da, H1 Da = none → ∃ W : Nat → Nat → Hp → Prop, (∃ m, W 0 m (upd H1 Da (.lst []))) ∧ ∀ i m H, W i m H →
      (J.stop i H ∧ Q (.ref Da) H) ∨ (J.go i H ∧ ∃ Nx : Hp → Prop, (∀ H', Nx H' → ∃ m', m' < m ∧ W (i + 1) m' H') ∧ ∀ x H', J.yld i H x H' → t x (wipe σ vs) H' fun σ2 H2 => wipe σ2 vs = wipe σ vs ∧ tt σ2 H2 fun b H3 =>
        if b = true then te σ2 H3 fun y H4 => ∃ acc, H4 Da = some (.lst acc) ∧ acc.length < sizeLine ∧ Nx (upd H4 Da (.lst (acc ++ [y]))) else Nx H3) := by
  intro Da hD
  have atD : (bs1 ++ [Da])[h1.length]? = some Da := by rw [← hr1.len, List.getElem?_append_right (Nat.le_refl _), Nat.sub_self]; rfl
  refine ⟨fun i m H => m = s.1.length - i ∧ i ≤ s.1.length ∧ ∃ acc bs h, Ext bs1 H1 bs H ∧ bs[h1.length]? = some Da ∧ HRel g bs h H ∧ compG h1.length s.2 k ft fe (wipeE env vs) (s.1.drop i) acc h = .ok ys hE,
    ⟨_, rfl, Nat.zero_le _, [], bs1 ++ [Da], h1 ++ [.lst []], .newM hD, atD, hr1.newM (o := .lst []) hD ⟨[], upd_same, .nil⟩, by rw [List.drop_zero]; exact hc⟩, ?_⟩
  rintro i m H ⟨rfl, hil, acc, bs, h, e, aD, hr, hc⟩
  have eW : ∀ {bs H}, Ext bs1 H1 bs H → ERel g bs H (wipeE env vs) (wipe σ vs) := fun e => (er1.mono e).wipe vs
  by_cases hlt : i < s.1.length
  · refine .inr ?_
    rw [List.drop_eq_getElem_cons hlt, compG] at hc
    split at hc
    · rename_i kp
      obtain ⟨go, yl⟩ := (fd _ _ H e hr kp).1 i _ (List.getElem?_eq_getElem hlt)
      refine ⟨go, fun H' => ∃ acc bs h, Ext bs1 H1 bs H' ∧ bs[h1.length]? = some Da ∧ HRel g bs h H' ∧ compG h1.length s.2 k ft fe (wipeE env vs) (s.1.drop (i + 1)) acc h = .ok ys hE, fun H' z => ⟨_, by omega, rfl, hlt, z⟩, fun x H' y => ?_⟩
      obtain ⟨e2, hr2, rx⟩ := yl x H' y
      split at hc
      · cases hc
      · rename_i env1 hk
        refine hg x _ _ H' _ env1 _ _ _ rx (eW (e.trans e2)) hr2 hk fun σ' er' hw => ⟨by
          have z := hw vs hjs
          rw [z]
          exact wipe_idem vs fun _ z => z, ?_⟩
        refine ht σ' H' env1 _ _ _ er' hr2 ?_
        cases hft : ft env1 h with
        | bad => rw [hft] at hc; cases hc
        | err c fs h' => rw [hft] at hc; cases hc
        | ok b h2 =>
          rw [hft] at hc
          simp only [noErr_ok, R.bind_ok] at hc
          intro bs3 H3 b' e3 hr3 eb
          cases (show b' = b from eb)
          cases b with
          | true =>
            rw [if_pos rfl] at hc ⊢
            refine he σ' H3 env1 h2 bs3 _ (er'.mono e3) hr3 ?_
            cases hfe : fe env1 h2 with
            | bad => rw [hfe] at hc; cases hc
            | err c fs h' => rw [hfe] at hc; cases hc
            | ok y h3 =>
              rw [hfe] at hc
              simp only [noErr_ok, R.bind_ok] at hc
              split at hc
              · rename_i hh
                obtain ⟨hcell, hl⟩ := hh
                intro bs4 H4 vy e4 hr4 ry
                have eAll := (e2.trans e3).trans e4
                have aD4 := eAll.get aD
                obtain ⟨us, g1, g2⟩ := cell_ok hr4 aD4 hcell
                exact ⟨us, g1, by rw [← g2.length, big_eq]; exact hl, acc ++ [y], bs4, _, (e.trans eAll).trans (.cell hr4 aD4), aD4,
                  hr4.cell (ho := .lst (us ++ [vy])) (o := .lst (acc ++ [y])) aD4 ⟨_, upd_same, (g2.append (.cons ry .nil)).mono (.cell hr4 aD4)⟩, hc⟩
              · cases hc
          | false =>
            rw [if_neg Bool.false_ne_true] at hc ⊢
            have eAll := e2.trans e3
            exact ⟨acc, bs3, _, e.trans eAll, eAll.get aD, hr3, hc⟩
    · cases hc
  · have hi : i = s.1.length := by omega
    subst hi
    rw [List.drop_length, compG] at hc
    split at hc
    · rename_i kp
      cases hc
      exact .inl ⟨(fd _ _ H e hr kp.1).2, hQ Da bs H hD e aD hr⟩
    · cases hc
theorem HRel.popC {g : G} {n : Nat} {h h2 : Hs} {bs : List Addr} {H H2 : Hp} {Da : Addr} (hr : HRel g bs h H) (hn : n = h.length) (hr2 : HRel g (bs ++ [Da]) h2 H2) (hc : Chg n h h2) : HRel g bs (h2.take n) H2 := by
  subst hn
  obtain ⟨hl, hc⟩ := hc
  refine ⟨by rw [List.length_take, hl, hr.len]; omega, hr.nd, fun i o hi => ?_⟩
  have hi1 : i < h.length := by
    have := (List.getElem?_eq_some_iff.mp hi).1
    rw [List.length_take] at this
    omega
  have hi2 : h2[i]? = some o := by rw [List.getElem?_take] at hi; simpa [hi1] using hi
  obtain ⟨a, g1, g2⟩ := hr2.at_ i o hi2
  rw [List.getElem?_append_left (by rw [hr.len]; exact hi1)] at g1
  rcases hc i o hi1 hi2 with hh | hh
  · obtain ⟨_, _, g3⟩ := hr.at_ i o hh
    exact ⟨a, g1, g2.shrink g3.nr⟩
  · exact ⟨a, g1, g2.shrink (by rw [hr.len]; exact hh)⟩
theorem sim_compH {g : G} {vs : List Nat} (hi : Sim (relI g) g W wi fi) (hg : SimG g t k js) (ht : Sim relB g W0 tt ft) (he : Sim (relV g) g W0 te fe) (hjs : ∀ j ∈ js, j ∈ vs) : Sim (relV g) g W (tLc wi t tt te vs) (eCompH fi k ft fe vs) :=
  fun σ H env h bs Q er hr p => hi.step er hr p fun s J bs1 H1 h1 e1 hr1 er1 fd p1 => by
    rcases compG_ok (n := h1.length) (gs := s.2) (k := k) (tt := ft) (fe := fe) (env := wipeE env vs) (xs := s.1) (acc := []) (h := h1 ++ [.lst []]) with ⟨ys, h2, hc, hcell⟩ | hc
    · rw [hc] at p1
      simp only [R.bind_ok] at p1
      split at p1
      · rename_i hn
        refine sim_compG_core hg ht he hjs er1 hr1 fd hc fun Da bs2 H2 hD e aD hr2 => ?_
        have np := hr1.out hD
        have hb : bs2 = bs1 ++ [Da] := by
          obtain ⟨⟨more, rfl, _⟩, _, _⟩ := id e
          have l2 := hr2.len
          rw [hn.2.1, List.length_append, hr1.len] at l2
          rw [← hr1.len, List.getElem?_append_right (Nat.le_refl _), Nat.sub_self] at aD
          cases more with
          | nil => simp at aD
          | cons a r =>
            simp at aD l2
            have : r = [] := by first | exact l2 | exact List.eq_nil_of_length_eq_zero (by omega)
            rw [this, aD]
        subst hb
        obtain ⟨us, g1, g2⟩ := cell_ok hr2 aD hcell
        exact p1 bs1 H2 _ ⟨⟨[], by simp, fun _ z => nomatch z⟩, e.keep, e.cel⟩ (hr1.popC rfl hr2 hn.2) (.lst np g1 (g2.shrink (by rw [hr1.len]; exact hn.1)))
      · exact p1.elim
    · rw [hc] at p1
      exact p1.elim
theorem sim_compHM {g : G} {vs : List Nat} (hi : Sim (relI g) g W wi fi) (hg : SimG g t k js) (ht : Sim relB g W0 tt ft) (he : Sim (relV g) g W0 te fe) (hjs : ∀ j ∈ js, j ∈ vs) : Sim (relV g) g W (tLc wi t tt te vs) (eCompHM fi k ft fe vs) :=
  fun σ H env h bs Q er hr p => hi.step er hr p fun s J bs1 H1 h1 e1 hr1 er1 fd p1 => by
    rcases compG_ok (n := h1.length) (gs := s.2) (k := k) (tt := ft) (fe := fe) (env := wipeE env vs) (xs := s.1) (acc := []) (h := h1 ++ [.lst []]) with ⟨ys, h2, hc, hcell⟩ | hc
    · rw [hc] at p1
      simp only [R.bind_ok] at p1
      exact sim_compG_core hg ht he hjs er1 hr1 fd hc fun Da bs2 H2 hD e aD hr2 => p1 bs2 H2 _ e hr2 (.ref aD)
    · rw [hc] at p1
      exact p1.elim
end
end Ev
set_option Elab.async false
set_option linter.all false
set_option maxRecDepth 100000
set_option maxHeartbeats 4000000
namespace BoX
open PySem PySem.Spec PyProof.Rows
section
variable {prog : Program} {w : World} {A : Around} {E : Value → Shared → Prop} {s : Shared} {K : PySem.W.Frag} {x C f : Addr} {ox : Obj} {od : Option Obj}
theorem truthy_own {Q : Bool → Shared → Prop} (X : K.In s.heap) (I : PySem.W.InstAt s.heap x ox C od) (hs : PySem.W.findIn K (.ref C) "__bool__" = some (some (.ref f))) (hf : PySem.W.isFn K (.ref f) = true)
    (h : wpAny (model prog w) A (call (.ref f) [.ref x]) (fun r s₁ => ∃ b, r = Value.bool b ∧ Q b s₁) E s) : wpAny (model prog w) A (truthy (.ref x)) Q E s := by
  unfold truthy
  refine wpAny_bind (m := callSpecial? (.ref x) (Str.ofString "__bool__")) (PySem.W.special_fn X I hs (beq_iff_eq.mp hf) (wpAny_mono h (fun r s' hr => ?_) fun _ _ y => y))
  obtain ⟨b, rfl, hq⟩ := hr
  exact wpAny_pure hq
theorem bool_own {Q : Value → Shared → Prop} (X : K.In s.heap) (I : PySem.W.InstAt s.heap x ox C od) (hs : PySem.W.findIn K (.ref C) "__bool__" = some (some (.ref f))) (hf : PySem.W.isFn K (.ref f) = true)
    (h : wpAny (model prog w) A.in1.in1 (call (.ref f) [.ref x]) (fun r s₁ => ∃ b, r = Value.bool b ∧ Q r s₁) E s) : wpAny (model prog w) A (call (.type "bool") [.ref x]) Q E s := by
  refine callType_codes (T := "bool") (Bi := Builtin.«object.__init__») (Q₁ := fun r s₁ => ∃ b, r = Value.bool b ∧ Q r s₁) PySem.F.called_bool (PySem.F.typeCall_bool_1 _) PySem.F.entry_object_init ?_ ?_
  · refine codeAny_of_tree ?_
    show wpAny _ A.in1.in1 (do checkBuiltinCall "bool.__new__" ⟨[.type "bool", .ref x], []⟩; again (.builtin "bool.__new__" ⟨[.type "bool", .ref x], []⟩)) _ _ s
    refine wpAny_bind (wpAny_of_eq (PySem.F.newCall_bool_1 _) (wpAny_pure ⟨plainId_quiet (by decide +kernel) _, codeAny_builtin PySem.F.entry_bool_new ?_⟩))
    rw [Around.under_plainId (by decide +kernel) _]
    unfold Builtin.«bool.__new__»
    have f1 := PySem.F.conv_sub_bool
    obtain ⟨hp, g, d, tk, os⟩ := s
    repeat (any_goals (first
      | assumption
      | (refine wpAny_bind (m := truthy (.ref x)) (truthy_own (f := f) X I hs hf (wpAny_mono h (fun r s' hr => ?_) fun _ _ y => y)))
      | wp_step))
    obtain ⟨b, rfl, hq⟩ := hr
    refine ⟨b, rfl, ?_⟩
    repeat (any_goals (first | assumption | wp_step))
    exact ⟨b, rfl, hq⟩
  · rintro obj s₁ ⟨b, rfl, hq⟩
    exact ⟨rfl, PySem.F.args_object_init_2 _ _, object_init_meets PySem.F.called_bool.init.lookup PySem.F.called_bool.made (by decide) prog w A.in1 _ s₁ ⟨rfl, rfl, hq⟩⟩
end
end BoX
namespace Ev
open PySem L2
section
variable {ci : Nat → String × List String} {X : Cx} {W : WX} {elt tg iter : Expr} {ifs : List Expr} {scope : Scope} {own : List (Str × Nat)} {pos spos py : Pos} {y : Str} {wi : TI} {t : FamG} {tt : FamT} {te : FamE} {fi : En → Hs → R Src} {k : D → En → Option En} {js jo : List Nat} {ft : En → Hs → R Bool} {fe : En → Hs → R D}
theorem ejH_lc (hc : X.calm = true) (hN : X.N.Nodup) (hi : IJ ci X W tg iter wi fi) (ok : BlkOk X.N X.env.scope scope own) (ho : own.map (·.2) = jo) (hjs : ∀ j ∈ js, j ∈ own.map (·.2))
    (hg : ∀ (s : Shared) (H : Hp) (C : Addr) (cl : List (Str × Addr)) (fp : List Addr), GJ ci (X.blk s H scope (compEnvC scope cl C X.env) fp) tg (t s H C cl fp) k js) (ht : ∀ (s : Shared) (H : Hp) (C : Addr) (cl : List (Str × Addr)) (fp : List Addr), TsJ ci (X.blk s H scope (compEnvC scope cl C X.env) fp) ifs (tt s H C cl fp) ft)
    (he : ∀ (s : Shared) (H : Hp) (C : Addr) (cl : List (Str × Addr)) (fp : List Addr), EJ ci (X.blk s H scope (compEnvC scope cl C X.env) fp) W0 elt (te s H C cl fp) fe) (hs : ∀ x, foldedSetIterable iter X.env x = pure x := by intro _; rfl) :
    EJ ci X W (.ListComp elt [⟨tg, iter, ifs, 0⟩] scope pos) (tLc wi (allG t) (allT tt) (allE te) jo) (eCompH fi k ft fe jo) := by
  subst ho
  have hg' := famG hg
  have ht' := famT ht
  have he' := famE he
  exact ⟨pe_lc hc hN hi.pi ok (fun s H C cl fp => (hg' s H C cl fp).pg) (fun s H C cl fp => (ht' s H C cl fp).pts) (fun s H C cl fp => (he' s H C cl fp).pe) hs,
    sim_compH hi.sim (hg' X.s_0 (fun _ => none) 0 [] []).sim (ht' X.s_0 (fun _ => none) 0 [] []).sim (he' X.s_0 (fun _ => none) 0 [] []).sim hjs⟩
theorem sjH_setLc (i : Nat) (hc : X.calm = true) (hN : X.N.Nodup) (hi : IJ ci X W tg iter wi fi) (ok : BlkOk X.N X.env.scope scope own) (ho : own.map (·.2) = jo) (hjs : ∀ j ∈ js, j ∈ own.map (·.2))
    (hg : ∀ (s : Shared) (H : Hp) (C : Addr) (cl : List (Str × Addr)) (fp : List Addr), GJ ci (X.blk s H scope (compEnvC scope cl C X.env) fp) tg (t s H C cl fp) k js) (ht : ∀ (s : Shared) (H : Hp) (C : Addr) (cl : List (Str × Addr)) (fp : List Addr), TsJ ci (X.blk s H scope (compEnvC scope cl C X.env) fp) ifs (tt s H C cl fp) ft)
    (he : ∀ (s : Shared) (H : Hp) (C : Addr) (cl : List (Str × Addr)) (fp : List Addr), EJ ci (X.blk s H scope (compEnvC scope cl C X.env) fp) W0 elt (te s H C cl fp) fe) (hs : ∀ x, foldedSetIterable iter X.env x = pure x := by intro _; rfl)
    (hy : X.N[i]? = some y := by rfl) (hyl : X.env.scope.names.lookup y = some .local := by rfl) (hsw : swapsWith (.ListComp elt [⟨tg, iter, ifs, 0⟩] scope pos) (some (.Name y py)) spos.line X.env = pure true := by exact sw_true rfl rfl rfl (by decide +kernel)) :
    SJ ci X W (.Assign [.Name y py] (.ListComp elt [⟨tg, iter, ifs, 0⟩] scope pos) spos) (tAsg (tLc wi (allG t) (allT tt) (allE te) jo) (gName i)) (sAsg (eCompH fi k ft fe jo) (kName i)) := by
  subst ho
  have hg' := famG hg
  have ht' := famT ht
  have he' := famE he
  exact ⟨ps_setLc hc hN hy hyl hsw hi.pi ok (fun s H C cl fp => (hg' s H C cl fp).pg) (fun s H C cl fp => (ht' s H C cl fp).pts) (fun s H C cl fp => (he' s H C cl fp).pe) hs,
    sim_asg (sim_compH hi.sim (hg' X.s_0 (fun _ => none) 0 [] []).sim (ht' X.s_0 (fun _ => none) 0 [] []).sim (he' X.s_0 (fun _ => none) 0 [] []).sim hjs) (gj_name (X := X) (pos := py) (ci := ci) i hN hy (.inl hyl) (.inr hyl)).sim⟩
theorem ejH_lcM (hc : X.calm = true) (hN : X.N.Nodup) (hi : IJ ci X W tg iter wi fi) (ok : BlkOk X.N X.env.scope scope own) (ho : own.map (·.2) = jo) (hjs : ∀ j ∈ js, j ∈ own.map (·.2))
    (hg : ∀ (s : Shared) (H : Hp) (C : Addr) (cl : List (Str × Addr)) (fp : List Addr), GJ ci (X.blk s H scope (compEnvC scope cl C X.env) fp) tg (t s H C cl fp) k js) (ht : ∀ (s : Shared) (H : Hp) (C : Addr) (cl : List (Str × Addr)) (fp : List Addr), TsJ ci (X.blk s H scope (compEnvC scope cl C X.env) fp) ifs (tt s H C cl fp) ft)
    (he : ∀ (s : Shared) (H : Hp) (C : Addr) (cl : List (Str × Addr)) (fp : List Addr), EJ ci (X.blk s H scope (compEnvC scope cl C X.env) fp) W0 elt (te s H C cl fp) fe) (hs : ∀ x, foldedSetIterable iter X.env x = pure x := by intro _; rfl) :
    EJ ci X W (.ListComp elt [⟨tg, iter, ifs, 0⟩] scope pos) (tLc wi (allG t) (allT tt) (allE te) jo) (eCompHM fi k ft fe jo) := by
  subst ho
  have hg' := famG hg
  have ht' := famT ht
  have he' := famE he
  exact ⟨pe_lc hc hN hi.pi ok (fun s H C cl fp => (hg' s H C cl fp).pg) (fun s H C cl fp => (ht' s H C cl fp).pts) (fun s H C cl fp => (he' s H C cl fp).pe) hs,
    sim_compHM hi.sim (hg' X.s_0 (fun _ => none) 0 [] []).sim (ht' X.s_0 (fun _ => none) 0 [] []).sim (he' X.s_0 (fun _ => none) 0 [] []).sim hjs⟩
theorem sjH_setLcM (i : Nat) (hc : X.calm = true) (hN : X.N.Nodup) (hi : IJ ci X W tg iter wi fi) (ok : BlkOk X.N X.env.scope scope own) (ho : own.map (·.2) = jo) (hjs : ∀ j ∈ js, j ∈ own.map (·.2))
    (hg : ∀ (s : Shared) (H : Hp) (C : Addr) (cl : List (Str × Addr)) (fp : List Addr), GJ ci (X.blk s H scope (compEnvC scope cl C X.env) fp) tg (t s H C cl fp) k js) (ht : ∀ (s : Shared) (H : Hp) (C : Addr) (cl : List (Str × Addr)) (fp : List Addr), TsJ ci (X.blk s H scope (compEnvC scope cl C X.env) fp) ifs (tt s H C cl fp) ft)
    (he : ∀ (s : Shared) (H : Hp) (C : Addr) (cl : List (Str × Addr)) (fp : List Addr), EJ ci (X.blk s H scope (compEnvC scope cl C X.env) fp) W0 elt (te s H C cl fp) fe) (hs : ∀ x, foldedSetIterable iter X.env x = pure x := by intro _; rfl)
    (hy : X.N[i]? = some y := by rfl) (hyl : X.env.scope.names.lookup y = some .local := by rfl) (hsw : swapsWith (.ListComp elt [⟨tg, iter, ifs, 0⟩] scope pos) (some (.Name y py)) spos.line X.env = pure true := by exact sw_true rfl rfl rfl (by decide +kernel)) :
    SJ ci X W (.Assign [.Name y py] (.ListComp elt [⟨tg, iter, ifs, 0⟩] scope pos) spos) (tAsg (tLc wi (allG t) (allT tt) (allE te) jo) (gName i)) (sAsg (eCompHM fi k ft fe jo) (kName i)) := by
  subst ho
  have hg' := famG hg
  have ht' := famT ht
  have he' := famE he
  exact ⟨ps_setLc hc hN hy hyl hsw hi.pi ok (fun s H C cl fp => (hg' s H C cl fp).pg) (fun s H C cl fp => (ht' s H C cl fp).pts) (fun s H C cl fp => (he' s H C cl fp).pe) hs,
    sim_asg (sim_compHM hi.sim (hg' X.s_0 (fun _ => none) 0 [] []).sim (ht' X.s_0 (fun _ => none) 0 [] []).sim (he' X.s_0 (fun _ => none) 0 [] []).sim hjs) (gj_name (X := X) (pos := py) (ci := ci) i hN hy (.inl hyl) (.inr hyl)).sim⟩
end
/-! ### t1 = t2 = e -/
def sAsg2 (fe : En → Hs → R D) (k1 k2 : D → En → Option En) : En → Hs → S := fun env h => (fe env h).toS env fun d h1 => match k1 d env with
  | some env1 => (match k2 d env1 with
    | some env2 => .nx env2 h1
    | none => .bad)
  | none => .bad
theorem sj_asg2 {ci : Nat → String × List String} {X : Cx} {W : WX} {e t1 t2 : Expr} {pos : Pos} {te : TE} {fe : En → Hs → R D} {g1 g2 : TG} {k1 k2 : D → En → Option En} {js1 js2 : List Nat} (he : EJ ci X W e te fe) (h1 : GJ ci X t1 g1 k1 js1) (h2 : GJ ci X t2 g2 k2 js2)
    (ha : (assignEach [t1, t2] X.env).map (·.2) = [assign t1 X.env, assign t2 X.env] := by rfl) (hw : swappedStores [t1, t2] e X.env = pure none := by rfl) : SJ ci X W (.Assign [t1, t2] e pos) (tAsg2 te g1 g2) (sAsg2 fe k1 k2) :=
  ⟨ps_asg2 he.pe h1.pg h2.pg ha hw, fun σ H env h bs E er hr p => he.sim.stepS er hr p fun a b bs1 H1 hh e1 hr1 er1 ra p1 => by
    split at p1
    · rename_i env1 hk1
      split at p1
      · rename_i env2 hk2
        exact h1.sim b a σ H1 env env1 hh bs1 _ ra er1 hr1 hk1 fun σ1 er' _ => h2.sim b a σ1 H1 env1 env2 hh bs1 _ ra er' hr1 hk2 fun σ2 er'' _ => p1 bs1 H1 σ2 .refl hr1 er''
      · exact p1.elim
    · exact p1.elim⟩
/-! ### max, min of a list of numbers -/
def maxLD (xs : List D) (h : Hs) : R D := match xs with
  | [x] => match rdL h x with
    | some ys => match intsOf ys with
      | some ns => match ns.max? with
        | some m => .ok (.int m) h
        | none => .bad
      | none => .bad
    | none => .bad
  | _ => .bad
def minLD (xs : List D) (h : Hs) : R D := match xs with
  | [x] => match rdL h x with
    | some ys => match intsOf ys with
      | some ns => match ns.min? with
        | some m => .ok (.int m) h
        | none => .bad
      | none => .bad
    | none => .bad
  | _ => .bad
theorem max_one {ns : List Int} {m m' : Int} (e : ns.max? = some m) (h1 : m' ∈ ns) (h2 : ∀ y, y ∈ ns → y ≤ m') : m' = m := by
  obtain ⟨g1, g2⟩ := List.max?_eq_some_iff.mp e
  exact Int.le_antisymm (g2 _ h1) (h2 _ g1)
theorem min_one {ns : List Int} {m m' : Int} (e : ns.min? = some m) (h1 : m' ∈ ns) (h2 : ∀ y, y ∈ ns → m' ≤ y) : m' = m := by
  obtain ⟨g1, g2⟩ := List.min?_eq_some_iff.mp e
  exact Int.le_antisymm (h2 _ g1) (g2 _ h1)
theorem caj_maxL {g : G} : CaJ g (rMax g.K) maxLD := by
  refine ⟨fun W bs h H xs vs Q hr rs p => ?_⟩
  unfold maxLD at p
  split at p
  · split at p
    · rename_i ys hy
      split at p
      · rename_i ns hb
        split at p
        · rename_i m hm
          cases rs with
          | cons r t =>
            cases t
            obtain ⟨a, us, rfl, hs, rs⟩ := rdL_ok hr r hy
            exact ⟨a, ns, rfl, by rw [← ints_ok rs hb]; exact hs, List.length_pos_of_mem (List.max?_eq_some_iff.mp hm).1, fun m' h1 h2 => by rw [max_one hm h1 h2]; exact Post.ok_ p hr (.int _)⟩
        · exact p.elim
      · exact p.elim
    · exact p.elim
  · exact p.elim
theorem caj_minL {g : G} : CaJ g (rMin g.K) minLD := by
  refine ⟨fun W bs h H xs vs Q hr rs p => ?_⟩
  unfold minLD at p
  split at p
  · split at p
    · rename_i ys hy
      split at p
      · rename_i ns hb
        split at p
        · rename_i m hm
          cases rs with
          | cons r t =>
            cases t
            obtain ⟨a, us, rfl, hs, rs⟩ := rdL_ok hr r hy
            exact ⟨a, ns, rfl, by rw [← ints_ok rs hb]; exact hs, List.length_pos_of_mem (List.min?_eq_some_iff.mp hm).1, fun m' h1 h2 => by rw [min_one hm h1 h2]; exact Post.ok_ p hr (.int _)⟩
        · exact p.elim
      · exact p.elim
    · exact p.elim
  · exact p.elim
/-! ### bool(x) by an own __bool__ -/
def BoC (ci : Nat → String × List String) (P : Program) (w : World) (K : PySem.W.Frag) (mg : Str → Option Value) (base : Heap) (c k : Nat) (F : List D → List D → Hs → R D) : Prop :=
  ∃ C f, mg (Str.ofString (ci c).1) = some (.ref C) ∧ PySem.W.findIn K (.ref C) "__bool__" = some (some (.ref f)) ∧ PySem.W.isFn K (.ref f) = true ∧ FnC ci P w K mg base k f [] F
def rBoC (g : G) (c : Nat) (F : List D → List D → Hs → R D) : List V → Hp → VK → Prop := fun vs H Q => ∃ C a dx fs, IsCls g c C ∧ vs = [.ref a] ∧ H a = some (.ins C dx fs) ∧ Asks g (fun _ _ _ => False) F vs [] H fun v H' => (∃ b, v = .bl b) ∧ Q v H'
def boolOwnD (c : Nat) (F : List D → List D → Hs → R D) (xs : List D) (h : Hs) : R D := match xs with
  | [x] => if isIns c x h = true then ((F [x] [] h).nerr).bind fun d h1 => (match d with
    | .bl b => .ok (.bl b) h1
    | _ => .bad) else .bad
  | _ => .bad
theorem cr_boolOwn {ci : Nat → String × List String} {X : Cx} {c k : Nat} {F : List D → List D → Hs → R D} (h : BoC ci X.prog X.w X.K X.mg X.base c k F) (hr : Room (k + 2) X.A) : CallR X (.type "bool") (rBoC (X.g ci) c F) := by
  obtain ⟨C, f, h1, h2, h3, h4⟩ := h
  intro pins s σ H xs us Q I r ⟨C', a, dx, fs, hC', ex, ha, q⟩
  subst ex
  have hC2 : X.mg (Str.ofString (ci c).1) = some (.ref C') := hC'
  rw [h1] at hC2
  cases hC2
  obtain ⟨u, rfl, ru⟩ := r.one
  cases (show u = Value.ref a from ru)
  obtain ⟨mA, J, _⟩ := ins_get I.hok ha
  obtain ⟨od, J, _⟩ := J.look
  refine BoX.bool_own I.kIn J h2 h3 ?_
  have hr2 : Room k X.A.in1.in1 := (show Room (k + 1) X.A.in1 from Room.in1 hr).in1
  have hc := h4.run X.A.in1.in1 X.stack s H [.ref a] [] [.ref a] [] _ (fun _ _ _ => False) hr2 I.env0.in1.in1 (.cons rfl .nil) .nil rfl q
  refine wpAny_call (codeAny_mono hc fun r s' hq => ?_)
  cases r with
  | error e => exact passAt (takes0 (X := X)) σ pins H s e s' I hq
  | ok fl =>
    cases fl with
    | ret u =>
      obtain ⟨z, H', I', rz, ⟨b', ez⟩, qz⟩ := I.after hq
      subst ez
      exact ⟨b', rz, .bl b', H', I', rz, qz⟩
    | next => exact False.elim hq
    | brk => exact False.elim hq
    | cont => exact False.elim hq
theorem caj_boolOwn {g : G} {c : Nat} {F : List D → List D → Hs → R D} : CaJ g (rBoC g c F) (boolOwnD c F) := by
  refine ⟨fun W bs h H xs vs Q hr rs p => ?_⟩
  unfold boolOwnD at p
  split at p
  · split at p
    · rename_i hi
      cases rs with
      | cons r t =>
        cases t
        obtain ⟨a, C, dx, fs, n, rfl, c1, c2, c3⟩ := isIns_ok hr r hi
        refine ⟨C, a, dx, fs, c1, rfl, c2, bs, h, _, [], hr, .cons r .nil, .nil, ?_⟩
        refine Post.step (relA := relV g) (relC := relV g) (W := W) (r := (F [_] [] h).nerr) (M := fun Q' => Post (relV g) g (fun _ _ _ => False) bs H (F [_] [] h) Q') (fun Q' q => post_nerr q) p fun z vz bs1 H1 h1 e1 hr1 rz p1 => ?_
        cases rz with
        | bl b => exact ⟨⟨b, rfl⟩, Post.ok_ p1 hr1 (.bl b)⟩
        | _ => exact p1.elim
    · exact p.elim
  · exact p.elim
namespace Fx
open He
/-- a def's default that is an object -/
def repAtB (p : Fr → Addr) (d : D) (K : Fr) : Bool := repB K 40 d (.ref (p K))
theorem repAt_ok {ci : Nat → String × List String} {K : Fr} {mg : Str → Option Value} {p : Fr → Addr} {d : D} (b : repAtB p d K = true) : RepK ci K mg d (.ref (p K)) := by
  obtain ⟨v, r1, r2⟩ := repB_ok (ci := ci) (mg := mg) 40 b
  cases v with
  | ref a =>
    have e : Value.ref (p K) = Value.ref a := r1
    cases e
    exact r2
  | non => cases (show Value.ref (p K) = Value.none from r1)
  | bl b => cases (show Value.ref (p K) = Value.bool b from r1)
  | int i => obtain ⟨t, e⟩ := (show ∃ t, Value.ref (p K) = Value.int i t from r1); cases e
  | str x => obtain ⟨t, e⟩ := (show ∃ t, Value.ref (p K) = Value.str x t from r1); cases e
  | byt x => obtain ⟨t, e⟩ := (show ∃ t, Value.ref (p K) = Value.bytes x t from r1); cases e
  | flt x => obtain ⟨t, e⟩ := (show ∃ t, Value.ref (p K) = Value.float x t from r1); cases e
  | ty n => cases (show Value.ref (p K) = Value.type n from r1)
def boB (x : Str) (K : Fr) : Bool := (Fa.meth x "__bool__").ok K
theorem bo_ok {ci : Nat → String × List String} {K : Fr} {mg : Str → Option Value} {h : Heap} {P : Program} {w : World} {base : Heap} {c k : Nat} {x : Str} {F : List D → List D → Hs → R D} (X : K.In h) (G : h.Ns mainGlobals mg) (b0 : (Fa.glo x).ok K = true) (b : boB x K = true) (hx : Str.ofString (ci c).1 = x)
    (hF : FnC ci P w K mg base k (fAd K (x, some "__bool__")) [] F) : BoC ci P w K mg base c k F := by
  obtain ⟨d1, d⟩ := ba b
  obtain ⟨d2, d3⟩ := ba d
  exact ⟨ga K x, _, by rw [hx]; exact glo_ok X G b0, eqO_ok d1, d2, hF⟩
end Fx
end Ev
set_option Elab.async false
set_option linter.all false
set_option maxRecDepth 100000
set_option maxHeartbeats 4000000
namespace Ev
open PySem L2

/-! ### what a run satisfies -/
inductive R.Sat {α : Type} : R α → (α → Hs → Prop) → (Nat → List D → Hs → Prop) → Prop
  | ok {a : α} {h : Hs} {Q : α → Hs → Prop} {E : Nat → List D → Hs → Prop} : Q a h → R.Sat (.ok a h) Q E
  | err {c : Nat} {fs : List D} {h : Hs} {Q : α → Hs → Prop} {E : Nat → List D → Hs → Prop} : E c fs h → R.Sat (.err c fs h) Q E
/-- no error -/
abbrev noE : Nat → List D → Hs → Prop := fun _ _ _ => False
structure Pq where
  nx : En → Hs → Prop
  rt : D → Hs → Prop
  bk : En → Hs → Prop
  ct : En → Hs → Prop
  er : Nat → List D → En → Hs → Prop
inductive S.Sat : S → Pq → Prop
  | nx {e : En} {h : Hs} {P : Pq} : P.nx e h → S.Sat (.nx e h) P
  | ret {d : D} {h : Hs} {P : Pq} : P.rt d h → S.Sat (.ret d h) P
  | brk {e : En} {h : Hs} {P : Pq} : P.bk e h → S.Sat (.brk e h) P
  | ct {e : En} {h : Hs} {P : Pq} : P.ct e h → S.Sat (.ct e h) P
  | err {c : Nat} {fs : List D} {e : En} {h : Hs} {P : Pq} : P.er c fs e h → S.Sat (.err c fs e h) P
section
variable {α β : Type} {a : α} {h : Hs} {c : Nat} {fs : List D} {env : En} {d : D} {Q : α → Hs → Prop} {E : Nat → List D → Hs → Prop} {P : Pq}
@[simp] theorem R.sat_ok : R.Sat (.ok a h) Q E = Q a h := propext ⟨fun | .ok q => q, .ok⟩
@[simp] theorem R.sat_err : R.Sat (.err c fs h : R α) Q E = E c fs h := propext ⟨fun | .err q => q, .err⟩
@[simp] theorem R.sat_bad : R.Sat (.bad : R α) Q E = False := propext ⟨(fun z => nomatch z), fun z => z.elim⟩
@[simp] theorem S.sat_nx : S.Sat (.nx env h) P = P.nx env h := propext ⟨fun | .nx q => q, .nx⟩
@[simp] theorem S.sat_ret : S.Sat (.ret d h) P = P.rt d h := propext ⟨fun | .ret q => q, .ret⟩
@[simp] theorem S.sat_brk : S.Sat (.brk env h) P = P.bk env h := propext ⟨fun | .brk q => q, .brk⟩
@[simp] theorem S.sat_ct : S.Sat (.ct env h) P = P.ct env h := propext ⟨fun | .ct q => q, .ct⟩
@[simp] theorem S.sat_err : S.Sat (.err c fs env h) P = P.er c fs env h := propext ⟨fun | .err q => q, .err⟩
@[simp] theorem S.sat_bad : S.Sat .bad P = False := propext ⟨(fun z => nomatch z), fun z => z.elim⟩
theorem R.sat_bind {r : R α} {k : α → Hs → R β} {Q : β → Hs → Prop} : R.Sat (r.bind k) Q E = R.Sat r (fun a h => R.Sat (k a h) Q E) E := by cases r <;> simp
theorem S.sat_toS {r : R α} {k : α → Hs → S} : S.Sat (r.toS env k) P = R.Sat r (fun a h => S.Sat (k a h) P) (fun c fs h => P.er c fs env h) := by cases r <;> simp
theorem S.sat_seq {r : S} {k : En → Hs → S} : S.Sat (r.seq k) P = S.Sat r { P with nx := fun e h => S.Sat (k e h) P } := by cases r <;> simp
theorem R.Sat.mono {r : R α} {Q' : α → Hs → Prop} {E' : Nat → List D → Hs → Prop} (s : R.Sat r Q E) (q : ∀ a h, Q a h → Q' a h) (e : ∀ c fs h, E c fs h → E' c fs h) : R.Sat r Q' E' := by
  cases s with
  | ok z => exact .ok (q _ _ z)
  | err z => exact .err (e _ _ _ z)
theorem R.Sat.post {r : R α} {Q' : α → Hs → Prop} (s : R.Sat r Q E) (q : ∀ a h, Q a h → Q' a h) : R.Sat r Q' E := s.mono q fun _ _ _ z => z
/-- from no error to any -/
theorem R.Sat.use {r : R α} {Q' : α → Hs → Prop} (s : R.Sat r Q noE) (q : ∀ a h, Q a h → Q' a h) : R.Sat r Q' E := s.mono q fun _ _ _ z => z.elim
theorem R.Sat.get {r : R α} (s : R.Sat r Q noE) : ∃ a h, r = .ok a h ∧ Q a h := by
  cases s with
  | ok z => exact ⟨_, _, rfl, z⟩
  | err z => exact z.elim
theorem R.sat_of {r : R α} {h' : Hs} (e : r = .ok a h') (q : Q a h') : R.Sat r Q E := by rw [e]; exact .ok q
theorem S.Sat.mono {r : S} {P' : Pq} (s : S.Sat r P) (n : ∀ e h, P.nx e h → P'.nx e h) (t : ∀ d h, P.rt d h → P'.rt d h) (b : ∀ e h, P.bk e h → P'.bk e h) (c : ∀ e h, P.ct e h → P'.ct e h) (x : ∀ c fs e h, P.er c fs e h → P'.er c fs e h) : S.Sat r P' := by
  cases s with
  | nx z => exact .nx (n _ _ z)
  | ret z => exact .ret (t _ _ z)
  | brk z => exact .brk (b _ _ z)
  | ct z => exact .ct (c _ _ z)
  | err z => exact .err (x _ _ _ _ z)
/-- one statement at a time: what follows is K -/
theorem sat_cons {s1 s2 : En → Hs → S} (k : ∀ K : En → Hs → Prop, (∀ e h, S.Sat (s2 e h) P → K e h) → S.Sat (s1 env h) ⟨K, P.rt, P.bk, P.ct, P.er⟩) : S.Sat (sCons s1 s2 env h) P := by
  rw [sCons_ap, S.sat_seq]
  exact k _ fun _ _ z => z
/-- an if: the test, then each way by itself -/
theorem sat_if {c : En → Hs → R Bool} {s1 s2 : En → Hs → S} (k : ∀ K : Bool → Hs → Prop, (∀ h1, S.Sat (s1 env h1) P → K true h1) → (∀ h1, S.Sat (s2 env h1) P → K false h1) → R.Sat (c env h) K (fun c fs h => P.er c fs env h)) : S.Sat (sIf c s1 s2 env h) P := by
  rw [sIf_ap, S.sat_toS]
  refine (k (fun b h1 => S.Sat (if b = true then s1 env h1 else s2 env h1) P) (fun h1 z => ?_) (fun h1 z => ?_))
  · rw [if_pos rfl]; exact z
  · rw [if_neg Bool.false_ne_true]; exact z
/-- a call of a def's body -/
theorem sat_runB {m : Nat} {fb : En → Hs → S} {ds : List D} {Q : D → Hs → Prop} (s : S.Sat (fb (ds.map some ++ List.replicate (m - ds.length) none) h) ⟨fun _ h => Q .non h, Q, fun _ _ => False, fun _ _ => False, fun c fs _ h => E c fs h⟩) : R.Sat (runB m fb ds h) Q E := by
  unfold runB
  revert s
  cases fb (ds.map some ++ List.replicate (m - ds.length) none) h <;> simp
theorem sat_ite {p : Prop} [Decidable p] {x y : S} (h1 : p → S.Sat x P) (h2 : ¬ p → S.Sat y P) : S.Sat (if p then x else y) P := by
  split
  · exact h1 ‹_›
  · exact h2 ‹_›
theorem rsat_ite {p : Prop} [Decidable p] {x y : R α} (h1 : p → R.Sat x Q E) (h2 : ¬ p → R.Sat y Q E) : R.Sat (if p then x else y) Q E := by
  split
  · exact h1 ‹_›
  · exact h2 ‹_›
/-- an expression that is told ahead -/
theorem rsat_bind {β : Type} {r : R α} {k : α → Hs → R β} {Q : β → Hs → Prop} (s : R.Sat r (fun a h => R.Sat (k a h) Q E) E) : R.Sat (r.bind k) Q E := by rw [R.sat_bind]; exact s
theorem sat_toS {r : R α} {k : α → Hs → S} (s : R.Sat r (fun a h => S.Sat (k a h) P) (fun c fs h => P.er c fs env h)) : S.Sat (r.toS env k) P := by rw [S.sat_toS]; exact s
end

/-! ### loops -/
theorem sat_forL {gs : List (Nat × O)} {k : D → En → Option En} {f : En → Hs → S} {P : Pq} (I : Nat → En → Hs → Prop) : ∀ {xs : List D} {n : Nat},
    (∀ i x env h, xs[i]? = some x → I (n + i) env h → Kept gs h ∧ ∃ e1, k x env = some e1 ∧ S.Sat (f e1 h) ⟨I (n + i + 1), P.rt, P.nx, I (n + i + 1), P.er⟩) →
    (∀ env h, I (n + xs.length) env h → Kept gs h ∧ P.nx env h) → ∀ {env : En} {h : Hs}, I n env h → S.Sat (forL gs k f xs env h) P
  | [], n, _, hE, env, h, hi => by
    obtain ⟨h1, h2⟩ := hE env h hi
    rw [forL, if_pos h1]
    exact .nx h2
  | x :: xs, n, hx, hE, env, h, hi => by
    obtain ⟨h1, e1, h2, h3⟩ := hx 0 x env h rfl hi
    rw [forL, if_pos h1, h2]
    dsimp only
    have again : ∀ e2 h2, I (n + 1) e2 h2 → S.Sat (forL gs k f xs e2 h2) P := fun e2 h2 hi2 =>
      sat_forL (xs := xs) (n := n + 1) I (fun i y e hh hy hi => by
        have := hx (i + 1) y e hh (by simpa using hy) (by rw [show n + (i + 1) = n + 1 + i by omega]; exact hi)
        rw [show n + (i + 1) + 1 = n + 1 + i + 1 by omega] at this
        exact this) (fun e hh hi => hE e hh (by rw [List.length_cons, show n + (xs.length + 1) = n + 1 + xs.length by omega]; exact hi)) hi2
    revert h3
    cases f e1 h with
    | nx e2 h2 => exact fun z => again e2 h2 (by simpa using z)
    | ct e2 h2 => exact fun z => again e2 h2 (by simpa using z)
    | _ => simp
/-- a for over a frozen source -/
theorem sat_for {fi : En → Hs → R Src} {k : D → En → Option En} {f : En → Hs → S} {P : Pq} {env : En} {h h1 : Hs} {xs : List D} (I : Nat → En → Hs → Prop) (e : fi env h = .ok (xs, []) h1)
    (hx : ∀ i x env h, xs[i]? = some x → I i env h → ∃ e1, k x env = some e1 ∧ S.Sat (f e1 h) ⟨I (i + 1), P.rt, P.nx, I (i + 1), P.er⟩) (hE : ∀ env h, I xs.length env h → P.nx env h) (hi : I 0 env h1) : S.Sat (sFor fi k f env h) P := by
  unfold sFor
  rw [e, R.toS_ok]
  refine sat_forL (gs := []) I (n := 0) (fun i x e hh hy hi => ⟨Kept_nil _ ▸ trivial, ?_⟩) (fun e hh hi => ⟨Kept_nil _ ▸ trivial, hE e hh (by simpa using hi)⟩) hi
  have := hx i x e hh hy (by simpa using hi)
  simpa using this
theorem sat_while {c : En → Hs → R Bool} {f : En → Hs → S} {P : Pq} (I : Nat → En → Hs → Prop)
    (hx : ∀ m env h, I m env h → R.Sat (c env h) (fun b h1 => if b = true then S.Sat (f env h1) ⟨fun e h => ∃ m', m' < m ∧ I m' e h, P.rt, P.nx, fun e h => ∃ m', m' < m ∧ I m' e h, P.er⟩ else P.nx env h1) (fun k fs h => P.er k fs env h)) :
    ∀ (m : Nat) {env : En} {h : Hs}, I m env h → S.Sat (sWhile c f env h) P := by
  intro m
  induction m using Nat.strongRecOn with
  | ind m ih =>
    intro env h hi
    have z := hx m env h hi
    rw [sWhile_unroll]
    revert z
    cases c env h with
    | bad => simp
    | err k fs h1 => simp
    | ok b h1 =>
      rw [R.sat_ok, R.toS_ok]
      cases b with
      | false => exact fun z => by simpa using z
      | true =>
        rw [if_pos rfl, if_pos rfl]
        cases f env h1 with
        | nx e2 h2 => rw [S.sat_nx]; exact fun ⟨m', h3, h4⟩ => ih m' h3 h4
        | ct e2 h2 => rw [S.sat_ct]; exact fun ⟨m', h3, h4⟩ => ih m' h3 h4
        | _ => simp

/-! ### comprehensions -/
theorem compL_fm {hb : Hs} {k : D → En → Option En} {tt : En → Hs → R Bool} {fe : En → Hs → R D} {env : En} {g : D → D} {p : D → Bool} : ∀ {xs acc : List D}, (∀ x ∈ xs, ∃ e1, k x env = some e1 ∧ (∀ h, tt e1 h = .ok (p x) h) ∧ (p x = true → ∀ h, fe e1 h = .ok (g x) h)) → acc.length + xs.length ≤ big →
    compL hb [] k tt fe env xs acc = .ok (acc ++ (xs.filter p).map g) hb
  | [], acc, _, _ => by simp [compL]
  | x :: xs, acc, hx, hl => by
    obtain ⟨e1, h1, h2, h3⟩ := hx x List.mem_cons_self
    rw [compL, if_pos (Kept_nil _ ▸ trivial), h1]
    dsimp only
    rw [h2]
    simp only [noErr_ok, R.bind_ok]
    cases hp : p x with
    | true =>
      rw [if_pos rfl, h3 hp]
      simp only [noErr_ok, R.bind_ok]
      rw [if_pos ⟨trivial, by simp at hl; omega⟩]
      rw [compL_fm (fun y hy => hx y (List.mem_cons_of_mem _ hy)) (by simp at hl ⊢; omega)]
      simp [hp]
    | false =>
      rw [if_neg Bool.false_ne_true, if_pos trivial]
      rw [compL_fm (fun y hy => hx y (List.mem_cons_of_mem _ hy)) (by simp at hl ⊢; omega)]
      simp [hp]
theorem eComp_fm {env : En} {h h1 : Hs} {fi : En → Hs → R Src} {k : D → En → Option En} {tt : En → Hs → R Bool} {fe : En → Hs → R D} {own : List Nat} {g : D → D} {p : D → Bool} {xs : List D} (e : fi env h = .ok (xs, []) h1)
    (hx : ∀ x ∈ xs, ∃ e1, k x (wipeE env own) = some e1 ∧ (∀ h, tt e1 h = .ok (p x) h) ∧ (p x = true → ∀ h, fe e1 h = .ok (g x) h)) (hl : xs.length ≤ big) (hn : D.nrs h1.length ((xs.filter p).map g) = true) : eComp fi k tt fe own env h = .ok (.lst ((xs.filter p).map g)) h1 := by
  unfold eComp
  rw [e]
  simp only [R.bind_ok]
  rw [compL_fm hx (by simpa using hl)]
  simp [hn]
/-- elements told by place -/
theorem compL_to {hb : Hs} {k : D → En → Option En} {fe : En → Hs → R D} {env : En} : ∀ {xs ys acc : List D}, xs.length = ys.length → (∀ (i : Nat) (x y : D), xs[i]? = some x → ys[i]? = some y → ∃ e1, k x env = some e1 ∧ ∀ h, fe e1 h = .ok y h) → acc.length + xs.length ≤ big →
    compL hb [] k bYes fe env xs acc = .ok (acc ++ ys) hb
  | [], [], acc, _, _, _ => by simp [compL]
  | x :: xs, y :: ys, acc, hlen, hx, hl => by
    obtain ⟨e1, h1, h3⟩ := hx 0 x y rfl rfl
    rw [compL, if_pos (Kept_nil _ ▸ trivial), h1]
    dsimp only
    rw [bYes_ap]
    simp only [noErr_ok, R.bind_ok, if_true]
    rw [h3]
    simp only [noErr_ok, R.bind_ok]
    rw [if_pos ⟨trivial, by simp at hl; omega⟩]
    rw [compL_to (xs := xs) (ys := ys) (by simpa using hlen) (fun i x y hx' hy' => hx (i + 1) x y (by simpa using hx') (by simpa using hy')) (by simp at hl ⊢; omega)]
    simp
  | [], y :: ys, _, hlen, _, _ => by simp at hlen
  | x :: xs, [], _, hlen, _, _ => by simp at hlen
theorem eComp_to {env : En} {h h1 : Hs} {fi : En → Hs → R Src} {k : D → En → Option En} {fe : En → Hs → R D} {own : List Nat} {xs ys : List D} (e : fi env h = .ok (xs, []) h1) (hlen : xs.length = ys.length)
    (hx : ∀ (i : Nat) (x y : D), xs[i]? = some x → ys[i]? = some y → ∃ e1, k x (wipeE env own) = some e1 ∧ ∀ h, fe e1 h = .ok y h) (hl : xs.length ≤ big) (hn : D.nrs h1.length ys = true) : eComp fi k bYes fe own env h = .ok (.lst ys) h1 := by
  unfold eComp
  rw [e]
  simp only [R.bind_ok]
  rw [compL_to hlen hx (by simpa using hl)]
  simp [hn]

/-! ### a def whose new cells are let go -/
/-- the old cells stand, as they were or with nothing new in them -/
def Stood (h h' : Hs) : Prop := h.length ≤ h'.length ∧ ∀ (i : Nat) (o : O), i < h.length → h'[i]? = some o → h[i]? = some o ∨ O.nr h.length o = true
theorem HRel.popS {g : G} {h h2 : Hs} {bs m : List Addr} {H H2 : Hp} (hr : HRel g bs h H) (hr2 : HRel g (bs ++ m) h2 H2) (hc : Stood h h2) : HRel g bs (h2.take h.length) H2 := by
  obtain ⟨hl, hc⟩ := hc
  refine ⟨by rw [List.length_take, hr.len]; omega, hr.nd, fun i o hi => ?_⟩
  have hi1 : i < h.length := by
    have := (List.getElem?_eq_some_iff.mp hi).1
    rw [List.length_take] at this
    omega
  have hi2 : h2[i]? = some o := by rw [List.getElem?_take] at hi; simpa [hi1] using hi
  obtain ⟨a, g1, g2⟩ := hr2.at_ i o hi2
  rw [List.getElem?_append_left (by rw [hr.len]; exact hi1)] at g1
  rcases hc i o hi1 hi2 with hh | hh
  · obtain ⟨_, _, g3⟩ := hr.at_ i o hh
    exact ⟨a, g1, g2.shrink g3.nr⟩
  · exact ⟨a, g1, g2.shrink (by rw [hr.len]; exact hh)⟩
open Classical in
noncomputable def freeR (h : Hs) (r : R D) : R D := match r with
  | .ok d h' => if Stood h h' then (match frz h' h.length 12 d with
    | some d' => .ok d' (h'.take h.length)
    | none => .bad) else .bad
  | .err c fs h' => if Stood h h' ∧ D.nrs h.length fs = true then .err c fs (h'.take h.length) else .bad
  | .bad => .bad
noncomputable def freeG (G : List D → Hs → R D) : List D → Hs → R D := fun ds h => freeR h (G ds h)
theorem post_free {g : G} {W : Value → Option Addr → Hp → Prop} {bs : List Addr} {h : Hs} {H : Hp} {r : R D} {Q : VK} (hr : HRel g bs h H) (p : Post (relV g) g W bs H (freeR h r) Q) : Post (relV g) g W bs H r Q := by
  cases r with
  | bad => exact p
  | ok d h' =>
    unfold freeR at p
    dsimp only at p
    split at p
    · rename_i hg
      split at p
      · rename_i d' hf
        intro bs' H' v e hr' rv
        obtain ⟨⟨m, rfl, hm⟩, k, c⟩ := id e
        exact p bs H' v ⟨⟨[], by simp, fun _ z => nomatch z⟩, k, c⟩ (hr.popS hr' hg) (frz_ok hr' 12 (by rw [hr.len]; exact hf) rv)
      · exact p.elim
    · exact p.elim
  | err c fs h' =>
    unfold freeR at p
    dsimp only at p
    split at p
    · rename_i hg
      obtain ⟨hg, hn⟩ := hg
      intro C dd bs' H' e hr' z
      obtain ⟨⟨m, rfl, hm⟩, k, cc⟩ := id e
      obtain ⟨Ca, d, fvs, z1, z2, z3, z4, z5, z6, z7⟩ := z
      exact p C dd bs H' ⟨⟨[], by simp, fun _ z => nomatch z⟩, k, cc⟩ (hr.popS hr' hg) ⟨Ca, d, fvs, z1, z2, z3, fun y => z4 (List.mem_append_left _ y), z5, z6, z7.shrink (by rw [hr.len]; exact hn)⟩
    · exact p.elim
theorem fn_free {ci : Nat → String × List String} {P : Program} {w : World} {K : PySem.W.Frag} {mg : Str → Option Value} {base : Heap} {f : Addr} {fd : FuncData} {ps : List Str} {k n : Nat} {G : List D → Hs → R D} (h : FnOk P w K mg base (L2.CX P w) k f fd ps (spG ⟨K, mg, ci⟩ n G)) :
    FnOk P w K mg base (L2.CX P w) k f fd ps (spG ⟨K, mg, ci⟩ n (freeG G)) :=
  h.imp fun vs H Q E ⟨bs, hh, ds, h1, h2, h3, p⟩ => ⟨bs, hh, ds, h1, h2, h3, post_free h2 p⟩
theorem sat_free {h : Hs} {r : R D} {Q : D → Hs → Prop} {E : Nat → List D → Hs → Prop} (s : R.Sat r (fun d h' => Stood h h' ∧ ∃ d', frz h' h.length 12 d = some d' ∧ Q d' (h'.take h.length)) (fun c fs h' => Stood h h' ∧ D.nrs h.length fs = true ∧ E c fs (h'.take h.length))) : R.Sat (freeR h r) Q E := by
  cases s with
  | ok s =>
    obtain ⟨h1, d', h2, h3⟩ := s
    unfold freeR
    dsimp only
    rw [if_pos h1, h2]
    exact .ok h3
  | err s =>
    obtain ⟨h1, h2, h3⟩ := s
    unfold freeR
    dsimp only
    rw [if_pos ⟨h1, h2⟩]
    exact .err h3
/-- nothing was written -/
theorem stood_app {h m : Hs} : Stood h (h ++ m) := ⟨by simp, fun i o hi e => .inl (by rwa [List.getElem?_append_left hi] at e)⟩
theorem stood_set {h m : Hs} {n : Nat} {o : O} (hn : O.nr h.length o = true) : Stood h (h.set n o ++ m) := ⟨by simp, fun i o' hi e => by
  rw [List.getElem?_append_left (by simpa using hi)] at e
  by_cases z : n = i
  · subst z
    rw [List.getElem?_set_self hi] at e
    cases e
    exact .inr hn
  · rw [List.getElem?_set_ne z] at e
    exact .inl e⟩
theorem stood_set0 {h : Hs} {n : Nat} {o : O} (hn : O.nr h.length o = true) : Stood h (h.set n o) := by
  have := stood_set (h := h) (m := []) (n := n) hn
  simpa using this
theorem sat_freeG {G : List D → Hs → R D} {ds : List D} {h : Hs} {Q : D → Hs → Prop} {E : Nat → List D → Hs → Prop} (s : R.Sat (G ds h) (fun d h' => Stood h h' ∧ ∃ d', frz h' h.length 12 d = some d' ∧ Q d' (h'.take h.length)) (fun c fs h' => Stood h h' ∧ D.nrs h.length fs = true ∧ E c fs (h'.take h.length))) : R.Sat (freeG G ds h) Q E := sat_free s

/-! ### cells -/
theorem ixD_refs {h : Hs} {n : Nat} {k : Int} : ixD (.ref n) (.int k) h = match cellL h n with
  | some xs => (match atI xs k with
    | some d => .ok d h
    | none => .bad)
  | none => .bad := rfl
theorem srcD_ref {h : Hs} {n : Nat} : srcD (.ref n) h = match cellL h n with
  | some xs => .ok (xs, [(n, .lst xs)]) h
  | none => .bad := rfl
theorem cellL_ne {h : Hs} {n m : Nat} {o : O} (e : n ≠ m) : cellL (h.set n o) m = cellL h m := by
  unfold cellL
  rw [List.getElem?_set_ne e]
theorem cellL_last {h : Hs} {xs : List D} : cellL (h ++ [.lst xs]) h.length = some xs := by
  unfold cellL
  simp
theorem cellL_at {h : Hs} {m : Nat} {xs : List D} (e : h[m]? = some (.lst xs)) : cellL h m = some xs := by
  unfold cellL
  rw [e]
theorem push_set {h m : Hs} {n : Nat} {o : O} (hn : n < h.length) : h.set n o ++ m = (h ++ m).set n o := by rw [List.set_append_left _ _ hn]
theorem set_self {h : Hs} {n : Nat} {o : O} (e : h[n]? = some o) : h.set n o = h := by
  obtain ⟨hl, e'⟩ := List.getElem?_eq_some_iff.mp e
  rw [← e']; simp
theorem setIx_refs {h : Hs} {n j : Nat} {xs : List D} {k : Int} {z : D} (e : cellL h n = some xs) (e2 : ixN xs.length k = some j) : setIx (.ref n) (.int k) z h = some (h.set n (.lst (xs.set j z))) := by
  unfold setIx
  simp [e, e2]

/-! ### picks, instances -/
theorem atI_in {xs : List D} {r : Int} (h0 : 0 ≤ r) (h1 : r < xs.length) : ∃ d, atI xs r = some d ∧ d ∈ xs := by
  obtain ⟨n, rfl⟩ := Int.eq_ofNat_of_zero_le h0
  have hn : n < xs.length := by omega
  exact ⟨xs[n], by rw [atI_nat, List.getElem?_eq_getElem hn], List.getElem_mem hn⟩
/-- one of some, picked by a number -/
theorem pick_sat (P : D → Prop) {xs : List D} {r : Int} {h : Hs} {Q : D → Hs → Prop} {E : Nat → List D → Hs → Prop} (h0 : 0 ≤ r) (h1 : r < xs.length) (hp : ∀ d ∈ xs, P d) (q : ∀ d, P d → Q d h) : R.Sat (ixD (.lst xs) (.int r) h) Q E := by
  obtain ⟨d, e, hd⟩ := atI_in h0 h1
  rw [ixD_lst, e]
  exact .ok (q d (hp d hd))
theorem make_sat {n : Nat} {F : List D → List D → Hs → R D} {fd : En → Hs → R DD2} {env : En} {h : Hs} {Q : D → Hs → Prop} {E : Nat → List D → Hs → Prop}
    (s : R.Sat (fd env h) (fun d h1 => ∃ n' fs, F (.ref h1.length :: d.1) d.2 (h1 ++ [.ins n []]) = .ok .non (h1 ++ [.ins n' fs]) ∧ D.nrs h1.length fs = true ∧ Q (.obj n' fs) h1) E) : R.Sat (eMake n F fd env h) Q E := by
  revert s
  cases e : fd env h with
  | ok d h1 =>
    rw [R.sat_ok]
    rintro ⟨n', fs, e2, e3, q⟩
    obtain ⟨xs, ys⟩ := d
    rw [eMake_ap e e2 e3]
    exact .ok q
  | err c fs h1 =>
    intro z
    rw [R.sat_err] at z
    unfold eMake
    rw [e]
    exact .err z
  | bad => simp

theorem nrs_of {n : Nat} : ∀ {ds : List D}, (∀ d ∈ ds, D.nr n d = true) → D.nrs n ds = true
  | [], _ => by rw [D.nrs]
  | d :: ds, h => by rw [D.nrs, h d List.mem_cons_self, nrs_of fun x hx => h x (List.mem_cons_of_mem _ hx)]; rfl
theorem nrs_map {α : Type} {n : Nat} {g : α → D} {ls : List α} (h : ∀ a ∈ ls, D.nr n (g a) = true) : D.nrs n (ls.map g) = true := nrs_of fun d hd => by
  obtain ⟨a, ha, rfl⟩ := List.mem_map.mp hd
  exact h a ha
@[simp] theorem nrs_int {n : Nat} {ls : List Int} : D.nrs n (ls.map D.int) = true := nrs_map fun a _ => by rw [D.nr]
/-- over images: each element told -/
theorem eComp_fg {α : Type} {env : En} {h h1 : Hs} {fi : En → Hs → R Src} {k : D → En → Option En} {fe : En → Hs → R D} {own : List Nat} {ls : List α} {f g : α → D} (e : fi env h = .ok (ls.map f, []) h1)
    (hx : ∀ a ∈ ls, ∃ e1, k (f a) (wipeE env own) = some e1 ∧ ∀ h, fe e1 h = .ok (g a) h) (hl : ls.length ≤ big) (hn : ∀ a ∈ ls, D.nr h1.length (g a) = true) : eComp fi k bYes fe own env h = .ok (.lst (ls.map g)) h1 := by
  refine eComp_to e (by simp) ?_ (by simpa using hl) (nrs_map hn)
  intro i x y h1 h2
  rw [List.getElem?_map] at h1 h2
  cases ha : ls[i]? with
  | none => rw [ha] at h1; cases h1
  | some a =>
    rw [ha] at h1 h2
    cases h1
    cases h2
    exact hx a (List.mem_of_getElem? ha)
theorem eComp_fgp {α : Type} {env : En} {h h1 : Hs} {fi : En → Hs → R Src} {k : D → En → Option En} {tt : En → Hs → R Bool} {fe : En → Hs → R D} {own : List Nat} {ls : List α} {f g : α → D} {p : α → Bool} (e : fi env h = .ok (ls.map f, []) h1)
    (hx : ∀ a ∈ ls, ∃ e1, k (f a) (wipeE env own) = some e1 ∧ (∀ h, tt e1 h = .ok (p a) h) ∧ (p a = true → ∀ h, fe e1 h = .ok (g a) h)) (hl : ls.length ≤ big) (hn : ∀ a ∈ ls, D.nr h1.length (g a) = true) : eComp fi k tt fe own env h = .ok (.lst ((ls.filter p).map g)) h1 := by
  have core : ∀ (ls : List α) (acc : List D), (∀ a ∈ ls, ∃ e1, k (f a) (wipeE env own) = some e1 ∧ (∀ h, tt e1 h = .ok (p a) h) ∧ (p a = true → ∀ h, fe e1 h = .ok (g a) h)) → acc.length + ls.length ≤ big →
      compL h1 [] k tt fe (wipeE env own) (ls.map f) acc = .ok (acc ++ (ls.filter p).map g) h1 := by
    intro ls
    induction ls with
    | nil => intro acc _ _; simp [compL]
    | cons a ls ih =>
      intro acc hx hl
      obtain ⟨e1, g1, g2, g3⟩ := hx a List.mem_cons_self
      rw [List.map_cons, compL, if_pos (Kept_nil _ ▸ trivial), g1]
      dsimp only
      rw [g2]
      simp only [noErr_ok, R.bind_ok]
      cases hp : p a with
      | true =>
        rw [if_pos rfl, g3 hp]
        simp only [noErr_ok, R.bind_ok]
        rw [if_pos ⟨trivial, by simp at hl; omega⟩, ih _ (fun y hy => hx y (List.mem_cons_of_mem _ hy)) (by simp at hl ⊢; omega)]
        simp [hp]
      | false =>
        rw [if_neg Bool.false_ne_true, if_pos trivial, ih _ (fun y hy => hx y (List.mem_cons_of_mem _ hy)) (by simp at hl ⊢; omega)]
        simp [hp]
  unfold eComp
  rw [e]
  simp only [R.bind_ok]
  rw [core ls [] hx (by simpa using hl)]
  have : D.nrs h1.length ((ls.filter p).map g) = true := nrs_map fun a ha => hn a (List.mem_filter.mp ha).1
  simp [this]

theorem mul_lst {xs : List D} {k : Nat} {h : Hs} (hl : xs.length * k ≤ big) (hk : k < 1000000) : mulD (.lst xs) (.int (k : Int)) h = .ok (.lst (List.replicate k xs).flatten) h := by
  have z : Nat.ble (k : Int).natAbs big = true := Nat.ble_eq_true_of_le (Nat.le_trans (by omega : (k : Int).natAbs ≤ 1000000) (by decide))
  show (match ownL h (.lst xs) with
    | some a => if Nat.ble (k : Int).natAbs big = true ∧ a.length * (k : Int).toNat ≤ big then R.ok (D.lst (List.replicate (k : Int).toNat a).flatten) h else .bad
    | none => .bad) = _
  rw [show ownL h (.lst xs) = some xs from rfl]
  dsimp only
  rw [if_pos ⟨z, by simpa using hl⟩, Int.toNat_natCast]
/-- [x] * k -/
theorem mul_one_lst {x : D} {k : Nat} {h : Hs} (hk : k < 1000000) : mulD (.lst [x]) (.int (k : Int)) h = .ok (.lst (List.replicate k x)) h := by
  rw [mul_lst (by simp; exact Nat.le_trans (Nat.le_of_lt hk) (by decide)) hk]
  congr 2
  induction k with
  | zero => rfl
  | succ k ih => rw [List.replicate_succ, List.flatten_cons, ih (by omega), List.replicate_succ]; rfl
theorem sFor_range2 {fa : En → Hs → R (List D)} {k : D → En → Option En} {f : En → Hs → S} {env : En} {h h1 : Hs} {m n : Nat} (e : fa env h = .ok [.int (m : Int), .int (n : Int)] h1) (hm : m < 1000000) (hn : n < 1000000) : sFor (iRange2 fa) k f env h = forL [] k f ((List.range' m (n - m)).map fun (i : Nat) => D.int (i : Int)) env h1 := by
  unfold sFor
  have : iRange2 fa env h = .ok ((List.range' m (n - m)).map fun (i : Nat) => D.int (i : Int), []) h1 := by
    show (fa env h).bind _ = _
    rw [e, R.bind_ok]
    dsimp only
    rw [if_pos ⟨rng_of hm, rng_of hn⟩]
    congr 2
    rw [List.range'_eq_map_range, List.map_map, show ((n : Int) - (m : Int)).toNat = n - m by omega]
    apply List.map_congr_left
    intro a _
    simp
  rw [this]
  rfl
end Ev
set_option Elab.async false
set_option linter.all false
set_option maxRecDepth 100000
set_option maxHeartbeats 4000000
namespace Ev
open PySem L2

/-! ### dicts with int and text keys -/
def keyD : D → Option Key
  | .int i => some (.inl i)
  | .str s => some (.inr s)
  | _ => none
def dctL (h : Hs) : D → Option (List Key × List D)
  | .dct ks ds => some (ks, ds)
  | .ref n => match h[n]? with
    | some (.dct ks ds) => some (ks, ds)
    | some (.lk _ _ (.dct ks ds)) => some (ks, ds)
    | _ => none
  | _ => none
theorem dget_rd {H : Hp} {a : Addr} {kvs : List (Key × V)} {k : Key} (e : Rd H a (.dK kvs)) : DGet H a (kV k) (valV kvs k) := .inl ⟨kvs, k, e, rfl, rfl⟩
def lookK : List Key → List D → Key → Option D
  | k :: ks, d :: ds, j => if k = j then some d else lookK ks ds j
  | _, _, _ => none
/-- the dict with k told d -/
def putKD (ks : List Key) (ds : List D) (k : Key) (d : D) : List Key × List D := if (ks.any fun j => decide (j = k)) = true then (ks, List.zipWith (fun j e => if j = k then d else e) ks ds) else (ks ++ [k], ds ++ [d])
section
variable {g : G} {bs : List Addr} {h : Hs} {H : Hp}
theorem key_ok {x : D} {v : V} {k : Key} (r : Rep g bs H x v) (e : keyD x = some k) : v = kV k := by
  cases r <;> first | (cases e; rfl) | cases e
theorem dct_ok {x : D} {v : V} {ks : List Key} {ds : List D} (hr : HRel g bs h H) (r : Rep g bs H x v) (e : dctL h x = some (ks, ds)) :
    ∃ (a : Addr) (kvs : List (Key × V)), v = .ref a ∧ Rd H a (.dK kvs) ∧ kvs.map (·.1) = ks ∧ Reps g bs H ds (kvs.map (·.2)) := by
  cases r with
  | dct n h1 h2 h3 => cases e; exact ⟨_, _, rfl, .inl h1, h2, h3⟩
  | @ref n a hb =>
    unfold dctL at e
    dsimp only at e
    split at e
    · rename_i ks' ds' hx
      cases e
      obtain ⟨a', g1, kvs, g2, g3, g4⟩ := hr.at_ _ _ hx
      rw [hb] at g1
      cases g1
      exact ⟨a, kvs, rfl, .inl g2, g3, g4⟩
    · rename_i od u ks' ds' hx
      cases e
      obtain ⟨a', g1, g2, kvs, rfl, g3, g4⟩ := hr.at_ _ _ hx
      rw [hb] at g1
      cases g1
      exact ⟨a, kvs, rfl, .inr ⟨_, g2⟩, g3, g4⟩
    · cases e
  | _ => cases e
theorem look_ok {j : Key} : ∀ {kvs : List (Key × V)} {ks : List Key} {ds : List D}, kvs.map (·.1) = ks → Reps g bs H ds (kvs.map (·.2)) →
    (lookK ks ds j = none → valV kvs j = none) ∧ ∀ d, lookK ks ds j = some d → ∃ v, valV kvs j = some v ∧ Rep g bs H d v
  | [], _, _, rfl, r => by
    cases r
    exact ⟨fun _ => rfl, fun d e => by simp [lookK] at e⟩
  | kv :: kvs, _, _, rfl, r => by
    cases r with
    | cons r1 r2 =>
      rw [List.map_cons, lookK]
      by_cases hk : kv.1 = j
      · rw [if_pos hk, valV_pos hk]
        exact ⟨fun e => by simp at e, fun d e => by cases e; exact ⟨_, rfl, r1⟩⟩
      · rw [if_neg hk, valV_neg hk]
        exact look_ok rfl r2
end
def dgetD (x y : D) (h : Hs) : R D := match dctL h x, keyD y with
  | some (ks, ds), some k => match lookK ks ds k with
    | some d => .ok d h
    | none => .bad
  | _, _ => .bad
def dget2D (x y z : D) (h : Hs) : R D := match dctL h x, keyD y with
  | some (ks, ds), some k => .ok ((lookK ks ds k).getD z) h
  | _, _ => .bad
def eDGet2 (fo fa fb : En → Hs → R D) : En → Hs → R D := fun env h => (fo env h).bind fun x h1 => if (dctL h1 x).isSome = true then (fa env h1).bind fun y h2 => (fb env h2).bind fun z h3 => dget2D x y z h3 else .bad
section
variable {ci : Nat → String × List String} {X : Cx} {W : WX} {pos apos cpos : Pos} {a b c : Expr} {ta tb tc : TE} {fa fb fc : En → Hs → R D}
theorem ej_dget (hu : X.A.units + 1 < cLine) (ha : EJ ci X W a ta fa) (hb : EJ ci X W b tb fb) (hs : NoSl b := by exact fun _ _ => rfl) : EJ ci X W (.Subscript a b pos) (tDGet ta tb) (eBin dgetD fa fb) :=
  ⟨pe_dget hu ha.pe hb.pe hs, fun σ H env h bs Q er hr p => ha.sim.step er hr p fun x vx bs1 H1 h1 e1 hr1 er1 rx p1 => hb.sim.step er1 hr1 p1 fun y vy bs2 H2 h2 e2 hr2 er2 ry p2 => by
    unfold dgetD at p2
    split at p2
    · rename_i ks ds k hd hk
      split at p2
      · rename_i d hl
        obtain ⟨p, kvs, rfl, g1, g2, g3⟩ := dct_ok hr2 (rx.mono e2) hd
        cases key_ok ry hk
        obtain ⟨v, g4, g5⟩ := (look_ok g2 g3).2 d hl
        exact ⟨p, v, rfl, by rw [← g4]; exact dget_rd g1, Post.ok_ p2 hr2 g5⟩
      · exact p2.elim
    · exact p2.elim⟩
theorem ej_dget2 (hu : X.A.units + 1 < cLine) (ha : EJ ci X W a ta fa) (hb : EJ ci X W b tb fb) (hc : EJ ci X W c tc fc) (m : M2 X a "get" apos b c cpos := by exact ⟨rfl, rfl, rfl, rfl⟩) : EJ ci X W (.Call (.Attribute a "get" apos) [b, c] [] cpos) (tDGet2 ta tb tc) (eDGet2 fa fb fc) :=
  ⟨pe_dget2 hu ha.pe hb.pe hc.pe m, fun σ H env h bs Q er hr p => ha.sim.step er hr p fun x vx bs1 H1 h1 e1 hr1 er1 rx p1 => by
    split at p1
    · rename_i hd1
      obtain ⟨⟨ks1, ds1⟩, hd1⟩ := Option.isSome_iff_exists.mp hd1
      obtain ⟨p, kvs1, rfl, g1, _, _⟩ := dct_ok hr1 rx hd1
      refine ⟨p, rfl, .inl ⟨_, g1⟩, hb.sim.step er1 hr1 p1 fun y vy bs2 H2 h2 e2 hr2 er2 ry p2 => hc.sim.step er2 hr2 p2 fun z vz bs3 H3 h3 e3 hr3 er3 rz p3 => ?_⟩
      unfold dget2D at p3
      split at p3
      · rename_i ks ds k hd hk
        obtain ⟨p', kvs, ep, g1, g2, g3⟩ := dct_ok hr3 ((rx.mono e2).mono e3) hd
        cases ep
        cases key_ok (ry.mono e3) hk
        refine ⟨_, dget_rd g1, ?_⟩
        cases hl : lookK ks ds k with
        | none =>
          rw [hl] at p3
          rw [(look_ok g2 g3).1 hl]
          exact Post.ok_ p3 hr3 rz
        | some d =>
          rw [hl] at p3
          obtain ⟨v, g4, g5⟩ := (look_ok g2 g3).2 d hl
          rw [g4]
          exact Post.ok_ p3 hr3 g5
      · exact p3.elim
    · exact p1.elim⟩
end

/-! ### d[k] = v -/
section
variable {g : G} {bs : List Addr} {h : Hs} {H : Hp}
theorem put_ok {k : Key} {d : D} {v : V} {kvs : List (Key × V)} {ks : List Key} {ds : List D} (hk : kvs.map (·.1) = ks) (rs : Reps g bs H ds (kvs.map (·.2))) (r : Rep g bs H d v) :
    (putK kvs k v).map (·.1) = (putKD ks ds k d).1 ∧ Reps g bs H (putKD ks ds k d).2 ((putK kvs k v).map (·.2)) := by
  subst hk
  have ea : ((kvs.map (·.1)).any fun j => decide (j = k)) = (kvs.any fun kv => decide (kv.1 = k)) := by rw [List.any_map]; rfl
  unfold putKD putK
  rw [ea]
  by_cases hc : (kvs.any fun kv => decide (kv.1 = k)) = true
  · rw [if_pos hc, if_pos hc]
    refine ⟨?_, ?_⟩
    · rw [List.map_map]
      apply List.map_congr_left
      intro kv _
      show (if kv.1 = k then (kv.1, v) else kv).1 = kv.1
      split <;> rfl
    · clear hc ea
      revert rs
      induction kvs generalizing ds with
      | nil => intro rs; cases rs; exact .nil
      | cons kv kvs ih =>
        intro rs
        cases rs with
        | cons r1 r2 =>
          rw [List.map_cons, List.map_cons, List.map_cons, List.zipWith_cons_cons]
          refine .cons ?_ (ih r2)
          split
          · exact r
          · exact r1
  · rw [if_neg hc, if_neg hc]
    exact ⟨by simp, by rw [List.map_append]; exact rs.append (.cons r .nil)⟩
end
def dputD (x y z : D) (h : Hs) : Option Hs := match x with
  | .ref n => match h[n]?, keyD y with
    | some (.dct ks ds), some k => if ks.length < big then some (h.set n (.dct (putKD ks ds k z).1 (putKD ks ds k z).2)) else none
    | _, _ => none
  | _ => none
def sDPutE (fo fi fv : En → Hs → R D) : En → Hs → S := fun env h => (fv env h).toS env fun z h1 => (fo env h1).toS env fun x h2 => (fi env h2).toS env fun y h3 => match dputD x y z h3 with
  | some h4 => .nx env h4
  | none => .bad
section
variable {ci : Nat → String × List String} {X : Cx} {W : WX} {pos spos : Pos} {o i v : Expr} {to ti tv : TE} {fo fi fv : En → Hs → R D}
theorem sj_dput (hu : X.A.units + 1 < cLine) (hv : EJ ci X W v tv fv) (ho : EJ ci X W o to fo) (hi : EJ ci X W i ti fi) (hs : swapsWith v (some (.Subscript o i spos)) pos.line X.env = pure false := by rfl) :
    SJ ci X W (.Assign [.Subscript o i spos] v pos) (sDPut to ti tv) (sDPutE fo fi fv) :=
  ⟨ps_dput hu ho.pe hi.pe hv.pe hs, fun σ H env h bs E er hr p => hv.sim.stepS er hr p fun z vz bs1 H1 h1 e1 hr1 er1 rz p1 => ho.sim.stepS er1 hr1 p1 fun x vx bs2 H2 h2 e2 hr2 er2 rx p2 => hi.sim.stepS er2 hr2 p2 fun y vy bs3 H3 h3 e3 hr3 er3 ry p3 => by
    split at p3
    · rename_i h4 hd
      unfold dputD at hd
      split at hd
      · rename_i n
        split at hd
        · rename_i ks ds k hx hk
          split at hd
          · rename_i hl
            cases hd
            cases (rx.mono e3) with
            | @ref _ a hb =>
              obtain ⟨a', g1, kvs, g2, g3, g4⟩ := hr3.at_ _ _ hx
              rw [hb] at g1
              cases g1
              cases key_ok ry hk
              have pk := put_ok (k := k) g3 g4 ((rz.mono e2).mono e3)
              refine ⟨a, _, rfl, .k g2 (by rw [big_eq, show kvs.length = ks.length by rw [← g3, List.length_map]]; exact hl), ?_⟩
              exact p3 bs3 _ σ (.cell hr3 hb) (hr3.cell hb ⟨_, upd_same, pk.1, pk.2.mono (.cell hr3 hb)⟩) (er3.mono (.cell hr3 hb))
          · cases hd
        · cases hd
      · cases hd
    · exact p3.elim⟩
end

/-! ### displays of constants -/
/-- what a written constant comes to: new objects alone -/
def Lit (g : G) (t : TE) (d : D) : Prop := ∀ (σ : St) (H : Hp) (Q : VK),
  (∀ (v : V) (H' : Hp) (fr : List Addr), (∀ b ∈ fr, H b = none ∧ ∃ o, H' b = some o) → (∀ b, b ∉ fr → H' b = H b) → (∀ (H2 : Hp) (bs : List Addr), (∀ b ∈ fr, H2 b = H' b ∧ b ∉ bs) → Rep g bs H2 d v) → Q v H') → t σ H Q
structure LJ (ci : Nat → String × List String) (X : Cx) (e : Expr) (t : TE) (d : D) : Prop where
  pe : PE X e t
  lit : Lit (X.g ci) t d
def LitL (g : G) (trs : List (TE × TE)) (ks : List Key) (ds : List D) : Prop := ∀ (σ : St) (H : Hp) (Q : List (V × V) → Hp → Prop),
  (∀ (kvs : List (Key × V)) (H' : Hp) (fr : List Addr), kvs.map (·.1) = ks → (∀ b ∈ fr, H b = none ∧ ∃ o, H' b = some o) → (∀ b, b ∉ fr → H' b = H b) → (∀ (H2 : Hp) (bs : List Addr), (∀ b ∈ fr, H2 b = H' b ∧ b ∉ bs) → Reps g bs H2 ds (kvs.map (·.2))) → Q (kvs.map fun kv => (kV kv.1, kv.2)) H') → tPairs trs σ H Q
structure LsJ (ci : Nat → String × List String) (X : Cx) (pos : Pos) (keys : List (Option Expr)) (vals : List Expr) (trs : List (TE × TE)) (ks : List Key) (ds : List D) : Prop where
  pps : PPs X pos keys vals trs
  lit : LitL (X.g ci) trs ks ds
section
variable {ci : Nat → String × List String} {X : Cx} {W : WX} {pos p2 : Pos} {e : Expr} {t : TE} {d : D} {keys : List (Option Expr)} {vals : List Expr} {trs : List (TE × TE)} {ks : List Key} {ds : List D}
theorem lj_flat {v : V} (hp : PE X e (tC v)) (hr : ∀ bs H, Rep (X.g ci) bs H d v) : LJ ci X e (tC v) d := ⟨hp, fun σ H Q k => k v H [] (by simp) (fun _ _ => rfl) fun H2 bs _ => hr bs H2⟩
theorem lj_int {i : Int} {j} : LJ ci X (.Constant (.int i) j pos) (tC (.int i)) (.int i) := lj_flat pe_int fun _ _ => .int i
theorem lj_bl {b : Bool} {j} : LJ ci X (.Constant (.bool b) j pos) (tC (.bl b)) (.bl b) := lj_flat pe_bl fun _ _ => .bl b
theorem lj_non {j} : LJ ci X (.Constant .none j pos) (tC .non) .non := lj_flat pe_non fun _ _ => .non
theorem lj_str {s : Str} {j} (h : PyData.strOk s = true := by decide +kernel) : LJ ci X (.Constant (.str s) j pos) (tC (.str s)) (.str s) := lj_flat pe_str fun _ _ => .str h
theorem lj_nil : LJ ci X (.List [] pos) (tLst tNil) (.lst []) := ⟨pe_lst pa_nil, fun σ H Q k => by
  refine ⟨by rw [big_eq]; exact Nat.zero_le _, fun q hq => ?_⟩
  refine k (.ref q) (upd H q (.lst [])) [q] (by simp [hq, upd_same]) (fun b hb => upd_ne (by simpa using hb)) fun H2 bs hh => ?_
  obtain ⟨h1, h2⟩ := hh q (by simp)
  exact .lst h2 (h1.trans upd_same) .nil⟩
theorem lsj_nil : LsJ ci X pos [] [] [] [] [] := ⟨pps_nil, fun σ H Q k => k [] H [] rfl (by simp) (fun _ _ => rfl) fun _ _ _ => .nil⟩
theorem lsj_cons {s : Str} {j} (hs : PyData.strOk s = true) (h : LJ ci X e t d) (hr : LsJ ci X pos keys vals trs ks ds) : LsJ ci X pos (some (.Constant (.str s) j p2) :: keys) (e :: vals) ((tC (.str s), t) :: trs) (.inr s :: ks) (d :: ds) :=
  ⟨pps_cons pe_str h.pe hr.pps, fun σ H Q k => by
    show t σ H fun y H2 => tPairs trs σ H2 fun ps H3 => Q ((V.str s, y) :: ps) H3
    refine h.lit σ H _ fun v H1 f1 a1 b1 c1 => hr.lit σ H1 _ fun kvs H2 f2 ek a2 b2 c2 => ?_
    refine k ((.inr s, v) :: kvs) H2 (f1 ++ f2) (by rw [List.map_cons, ek]) (fun b hb => ?_) (fun b hb => ?_) fun H3 bs hh => ?_
    · rcases List.mem_append.mp hb with z | z
      · refine ⟨(a1 b z).1, ?_⟩
        by_cases z2 : b ∈ f2
        · exact (a2 b z2).2
        · rw [b2 b z2]; exact (a1 b z).2
      · refine ⟨?_, (a2 b z).2⟩
        by_cases z1 : b ∈ f1
        · exact (a1 b z1).1
        · rw [← b1 b z1]; exact (a2 b z).1
    · rw [List.mem_append, not_or] at hb
      rw [b2 b hb.2, b1 b hb.1]
    · rw [List.map_cons]
      refine .cons (c1 H3 bs fun b hb => ?_) (c2 H3 bs fun b hb => hh b (List.mem_append_right _ hb))
      obtain ⟨g1, g2⟩ := hh b (List.mem_append_left _ hb)
      refine ⟨g1.trans (b2 b fun z => ?_), g2⟩
      obtain ⟨o, ho⟩ := (a1 b hb).2
      rw [(a2 b z).1] at ho
      cases ho⟩
theorem putK_fresh {kvs : List (Key × V)} {k : Key} {v : V} (h : k ∉ kvs.map (·.1)) : putK kvs k v = kvs ++ [(k, v)] := by
  unfold putK
  rw [if_neg]
  intro z
  obtain ⟨kv, h1, h2⟩ := List.any_eq_true.mp z
  exact h (List.mem_map.mpr ⟨kv, h1, of_decide_eq_true h2⟩)
theorem mergeK_nodup : ∀ {more kvs : List (Key × V)}, ((kvs ++ more).map (·.1)).Nodup → mergeK kvs more = kvs ++ more
  | [], kvs, _ => by simp [mergeK]
  | p :: r, kvs, h => by
    show mergeK (putK kvs p.1 p.2) r = _
    have hn : p.1 ∉ kvs.map (·.1) := by
      rw [List.map_append, List.map_cons, List.nodup_append] at h
      exact fun z => h.2.2 _ z _ List.mem_cons_self rfl
    rw [putK_fresh hn, mergeK_nodup (by simpa using h)]
    simp
def eDisp (ks : List Key) (ds : List D) : En → Hs → R D := fun _ h => .ok (.ref h.length) (h ++ [.dct ks ds])
theorem ej_disp (h : LsJ ci X pos keys vals trs ks ds) (hn : ks.Nodup) (hk15 : ks.length ≤ 15) (hall : keys.all (·.isSome) = true := by rfl) (hl : keys.length = vals.length := by rfl) (h0 : keys ≠ [] := by simp) (h15 : keys.length ≤ 15 := by decide) :
    EJ ci X W (.Dict keys vals pos) (tDisp trs) (eDisp ks ds) :=
  ⟨pe_disp h.pps hall hl h0 h15, fun σ H env hh bs Q er hr p => by
    intro q hq
    refine h.lit σ _ _ fun kvs H2 fr ek a b c => ?_
    have qf : q ∉ fr := fun z => by
      have := (a q z).1
      rw [upd_same] at this
      cases this
    refine ⟨by rw [b q qf, upd_same], kvs, rfl, by rw [show kvs.length = ks.length by rw [← ek, List.length_map]]; exact hk15, ?_⟩
    rw [mergeK_nodup (by simpa [ek] using hn), List.nil_append]
    have old : ∀ b' o, H b' = some o → upd H2 q (.dK kvs) b' = some o := fun b' o ho => by
      have n1 : b' ≠ q := fun z => by rw [z, hq] at ho; cases ho
      have n2 : b' ∉ fr := fun z => by
        have := (a b' z).1
        rw [upd_ne n1, ho] at this
        cases this
      rw [upd_ne n1, b b' n2, upd_ne n1, ho]
    have qb := hr.out hq
    have ext : Ext bs H (bs ++ [q]) (upd H2 q (.dK kvs)) := ⟨⟨[q], rfl, by simp [hq]⟩, fun b' o ho _ => old b' o ho, fun b' o ho => ⟨o, old b' o ho⟩⟩
    have hr2 : HRel (X.g ci) (bs ++ [q]) (hh ++ [.dct ks ds]) (upd H2 q (.dK kvs)) := by
      refine ⟨by simp [hr.len], ?_, fun i o' hi => ?_⟩
      · rw [List.nodup_append]
        refine ⟨hr.nd, by simp, fun a ha b hb => ?_⟩
        have e : b = q := by simpa using hb
        subst e
        rintro rfl
        exact qb ha
      · by_cases hlt : i < hh.length
        · rw [List.getElem?_append_left hlt] at hi
          obtain ⟨a', h1, h2⟩ := hr.at_ i o' hi
          have hb := List.mem_of_getElem? h1
          obtain ⟨u, hu⟩ := hr.some_ hb
          exact ⟨a', by rw [List.getElem?_append_left (by rw [hr.len]; exact hlt)]; exact h1, h2.mono ext (by rw [old _ _ hu, hu])⟩
        · rw [List.getElem?_append_right (by omega)] at hi
          have hi0 : i - hh.length = 0 := by
            have := (List.getElem?_eq_some_iff.mp hi).1
            simp at this
            omega
          rw [hi0] at hi
          cases hi
          refine ⟨q, by rw [List.getElem?_append_right (by rw [hr.len]; omega), hr.len, hi0]; rfl, kvs, upd_same, ek, c _ _ fun b' hb' => ?_⟩
          have n1 : b' ≠ q := fun z => qf (z ▸ hb')
          refine ⟨upd_ne n1, ?_⟩
          intro z
          rcases List.mem_append.mp z with z | z
          · obtain ⟨u, hu⟩ := hr.some_ z
            have := (a b' hb').1
            rw [upd_ne n1, hu] at this
            cases this
          · exact n1 (by simpa using z)
    exact p (bs ++ [q]) _ _ ext hr2 (.ref (by rw [List.getElem?_append_right (by rw [hr.len]; exact Nat.le_refl _), hr.len, Nat.sub_self]; rfl))⟩
end
end Ev
set_option Elab.async false
set_option linter.all false
set_option maxRecDepth 100000
set_option maxHeartbeats 4000000
/-! try with several except clauses, by a class or a tuple of classes, with or without a name.
The library's HandS.TryMany walks the same road for clauses by one class without a name; here in lemmas of our own. -/
namespace L2
open PySem PySem.Spec PyProof.Rows
/-- what a clause's classes say of an exception's class -/
structure HTest (X : Cx) (te : Expr) (m : Value → Option Bool) : Prop where
  run : ∀ {a : Addr} {oe : Obj} {pn pins : List (Addr × Obj)} {σ : St} {H : Hp} {s : Shared} {cls : Value} {b : Bool} {Q : Bool → Shared → Prop} {E : Value → Shared → Prop}, Inv (X.suite a ((a, oe) :: pn)) pins σ H s → oe.cls = cls → m cls = some b →
    (∀ h', (∀ q o, s.heap.get? q = some o → h'.get? q = some o) → Q b { s with heap := h' }) →
    wpAny (model X.prog X.w) (X.A.mark (some (.ref a))) (eval te X.env) (fun c s₁ => wpAny (model X.prog X.w) (X.A.mark (some (.ref a))) (excMatches (.ref a) c) Q E s₁) E s
section
variable {X : Cx} {a : Addr} {oe : Obj} {pn pins : List (Addr × Obj)} {σ : St} {H : Hp} {s : Shared} {E : Value → Shared → Prop}
theorem name_run {x : Str} {c : Value} {np : Pos} (hc : Names X x c) {Q : Value → Shared → Prop} (I : Inv (X.suite a ((a, oe) :: pn)) pins σ H s) (q : Q c s) :
    wpAny (model X.prog X.w) (X.A.mark (some (.ref a))) (eval (.Name x np) X.env) Q E s :=
  hc.2.2.elim (fun m => ld_glob (X := X.suite a ((a, oe) :: pn)) I hc.1 m q hc.2.1) fun m => ld_blt (X := X.suite a ((a, oe) :: pn)) I hc.1 m.1 m.2.1 q m.2.2 hc.2.1
theorem looks_cls {cls : Value} (I : Inv (X.suite a ((a, oe) :: pn)) pins σ H s) (e : oe.cls = cls) : PySem.W.Looks (model X.prog X.w) s.heap (typeOf (.ref a)) cls :=
  fun A Q E s k q => wpAny_typeOf_ref (k _ _ (I.pin (a, oe) (by simp)).1) (e ▸ q)
/-- the tuple of an except clause is new, all else stays -/
theorem pushed (h : Heap) (cs : List Value) : ∀ b o, h.get? b = some o → (h.push { cls := .type "tuple", data := .seq cs.toArray }).get? b = some o := fun _ _ => Heap.get?_push_of_some _
theorem ht_one {x : Str} {c : Value} {np : Pos} (hc : Names X x c) : HTest X (.Name x np) (fun cls => PySem.W.exmOne X.K cls c) :=
  ⟨fun I e hm q => name_run hc I ((PySem.W.exm_one I.kIn (looks_cls I e) hm).here (q _ fun _ _ z => z))⟩
theorem ht_tup2 {x1 x2 : Str} {c1 c2 : Value} {p1 p2 tp : Pos} {kk : Nat} (h1 : Names X x1 c1) (h2 : Names X x2 c2) : HTest X (.Tuple [.Name x1 p1, .Name x2 p2] kk tp) (fun cls => PySem.W.exmAny X.K cls [c1, c2]) :=
  ⟨fun {a oe pn pins σ H s cls b Q E} I e hm q =>
    let kp := pushed s.heap [c1, c2]
    wpAny_Tuple (wpAny_items_cons (name_run h1 I (wpAny_items_cons (name_run h2 I (wpAny_items_nil ⟨by size_fits, (PySem.W.exm_tup2 (I.kIn.keeps kp) ((looks_cls I e).keeps kp) (Heap.get?_push_size s.heap rfl) hm).here (q _ kp)⟩)))))⟩
theorem ht_tup3 {x1 x2 x3 : Str} {c1 c2 c3 : Value} {p1 p2 p3 tp : Pos} {kk : Nat} (h1 : Names X x1 c1) (h2 : Names X x2 c2) (h3 : Names X x3 c3) : HTest X (.Tuple [.Name x1 p1, .Name x2 p2, .Name x3 p3] kk tp) (fun cls => PySem.W.exmAny X.K cls [c1, c2, c3]) :=
  ⟨fun {a oe pn pins σ H s cls b Q E} I e hm q =>
    let kp := pushed s.heap [c1, c2, c3]
    wpAny_Tuple (wpAny_items_cons (name_run h1 I (wpAny_items_cons (name_run h2 I (wpAny_items_cons (name_run h3 I (wpAny_items_nil ⟨by size_fits, (PySem.W.exm_tup3 (I.kIn.keeps kp) ((looks_cls I e).keeps kp) (Heap.get?_push_size s.heap rfl) hm).here (q _ kp)⟩)))))))⟩
end
abbrev Clause := (Value → Option Bool) × Option Nat × (Addr → Value → Option Addr → TS)
def wGen (Wout : WX) (D : Ends) : List Clause → WX
  | [] => Wout
  | (m, none, ts) :: r => fun cls d σ H => ∃ b, m cls = some b ∧ (b = true → ∀ a, H a = none → ts a cls d D σ H) ∧ (b = false → wGen Wout D r cls d σ H)
  | (m, some i, ts) :: r => fun cls d σ H => ∃ b, m cls = some b ∧ (b = true → ∀ a, H a = none → ts a cls d { nx := fun σ' H' => D.nx (σ'.set i none) H', rt := D.rt, bk := fun σ' H' => D.bk (σ'.set i none) H', ct := fun σ' H' => D.ct (σ'.set i none) H' } (σ.set i (some (.ref a))) H) ∧ (b = false → wGen Wout D r cls d σ H)
inductive HdsG (X : Cx) : List ExceptHandler → List Clause → Prop
  | nil : HdsG X [] []
  | only {te : Expr} {m : Value → Option Bool} {ts : Addr → Value → Option Addr → TS} {b₀ : Stmt} {suite : List Stmt} {pos' : Pos} {hds : List ExceptHandler} {l : List Clause} (ht : HTest X te m)
      (hsu : ∀ (a : Addr) (oe : Obj) (cls : Value) (d : Option Addr) (pn : List (Addr × Obj)), Zc cls d oe → (∃ vs, oe.data = .fields vs) → PSs (X.suite a ((a, oe) :: pn)) (b₀ :: suite) (ts a cls d)) (r : HdsG X hds l) :
      HdsG X (.ExceptHandler (some te) none (b₀ :: suite) pos' :: hds) ((m, none, ts) :: l)
  | as {te : Expr} {m : Value → Option Bool} {ts : Addr → Value → Option Addr → TS} {n : Str} {i : Nat} {b₀ : Stmt} {suite : List Stmt} {pos' : Pos} {hds : List ExceptHandler} {l : List Clause} (ht : HTest X te m) (hN : X.N.Nodup) (hi : X.N[i]? = some n) (hln : X.env.kindOf n = some .local)
      (hsu : ∀ (a : Addr) (oe : Obj) (cls : Value) (d : Option Addr) (pn : List (Addr × Obj)), Zc cls d oe → (∃ vs, oe.data = .fields vs) → PSs (X.suite a ((a, oe) :: pn)) (b₀ :: suite) (ts a cls d)) (r : HdsG X hds l) :
      HdsG X (.ExceptHandler (some te) (some n) (b₀ :: suite) pos' :: hds) ((m, some i, ts) :: l)
/-! an exception that has come down to the frame -/
section
variable {X : Cx} {pins : List (Addr × Obj)} {B : Heap} {sI s : Shared} {σ : St} {H : Hp} {a : Addr} {cls : Value} {d : Option Addr} {h' : Heap}
/-- the exception at a hangs over the frame of X: sI is the state without it, s the one with it -/
structure Hung (X : Cx) (pins : List (Addr × Obj)) (B : Heap) (sI : Shared) (σ : St) (H : Hp) (a : Addr) (cls : Value) (d : Option Addr) (s : Shared) : Prop where
  without : Inv X pins σ H sI
  ground : ∀ b o, sI.heap.get? b = some o → b ∉ frs X.stack → B.get? b = some o
  flies : HandSPX.FlyingZ B (X.env :: X.outer) a (Zc cls d) s.heap
  slots : sI.heap.UpToSlots s.heap
  sys : s.os = sI.os
  bare : AllBare s.gens
  new : H a = none
theorem Hung.to (y : Hung X pins B sI σ H a cls d s) (fl : HandSPX.FlyingZ B (X.env :: X.outer) a (Zc cls d) h') (up : s.heap.UpToSlots h') : Hung X pins B sI σ H a cls d { s with heap := h' } :=
  ⟨y.without, y.ground, fl, y.slots.trans up, y.sys, y.bare, y.new⟩
theorem Hung.stays (y : Hung X pins B sI σ H a cls d s) (k : ∀ b o, s.heap.get? b = some o → h'.get? b = some o) : Hung X pins B sI σ H a cls d { s with heap := h' } := by
  refine y.to ⟨fun b o q => k b o (y.flies.1 b o q), y.flies.2.1, y.flies.2.2.1.of_keeps (fun b o q _ => ⟨o, k b o q, rfl⟩), ?_⟩ (Heap.UpToSlots.of_keeps k)
  have ⟨oe, ws, T, oT, ts, at_a, z, da, w1, nT, ne, at_T, r⟩ := y.flies.2.2.2
  exact ⟨oe, ws, T, oT, ts, k _ _ at_a, z, da, w1, nT, ne, k _ _ at_T, r⟩
/-- a suite may hold it -/
theorem Hung.held (y : Hung X pins B sI σ H a cls d s) (hf : X.env.frame = some X.env.locals) : ∃ oe ws, Zc cls d oe ∧ oe.data = .fields ws ∧ Inv (X.suite a ((a, oe) :: (X.pn ++ pins))) [] σ H s := by
  obtain ⟨oe, ws, at_a, z, da⟩ := y.flies.there
  have apart : a ∉ frs (X.env :: X.outer) := fun m =>
    have ⟨_, _, e2, n2⟩ := y.flies.2.2.1.mem m
    n2 ws (by cases at_a.symm.trans e2; exact da)
  have J := y.without.landed y.ground y.flies.1 y.slots y.sys y.bare
  refine ⟨oe, ws, z, da, J.suite at_a da y.new (fun q => apart ?_) fun m => apart ?_⟩
  · exact List.mem_filterMap.mpr ⟨X.env, .head _, hf.trans (congrArg some q.symm)⟩
  · have ⟨v, m1, m2⟩ := List.mem_filterMap.mp m
    exact List.mem_filterMap.mpr ⟨v, .tail _ m1, m2⟩
/-- the ends of statements, from one surrounding to another -/
theorem sp_map {Y : Cx} {p q : List (Addr × Obj)} {D : Ends} {f : Flow} (hI : ∀ σ H, Inv Y p σ H s → Inv X q σ H s) (z : SP Y p D f s) : SP X q D f s :=
  match f, z with
  | .next, ⟨σ, H, I, z⟩ => ⟨σ, H, hI σ H I, z⟩
  | .brk, ⟨σ, H, I, z⟩ => ⟨σ, H, hI σ H I, z⟩
  | .cont, ⟨σ, H, I, z⟩ => ⟨σ, H, hI σ H I, z⟩
  | .ret _, ⟨v, σ, H, I, r, z⟩ => ⟨v, σ, H, hI σ H I, r, z⟩
/-- the ends behind a suite whose name goes -/
abbrev Ends.gone (D : Ends) (i : Nat) : Ends := { nx := fun σ' H' => D.nx (σ'.set i none) H', rt := D.rt, bk := fun σ' H' => D.bk (σ'.set i none) H', ct := fun σ' H' => D.ct (σ'.set i none) H' }
theorem sp_gone {M : Model} {A : Around} {E : Value → Shared → Prop} {i : Nat} {n : Str} {pos : Pos} {D : Ends} {f : Flow} (hN : X.N.Nodup) (hi : X.N[i]? = some n) (hl : X.env.kindOf n = some .local) (z : SP X pins (Ends.gone D i) f s) :
    wpAny M A (do bindName X.env n .none; unbindBehindTheSuite X.env n pos) (fun _ s' => SP X pins D f s') E s :=
  match f, z with
  | .next, ⟨_, _, I, z⟩ => gone_ok I hN hi hl fun _ J => ⟨_, _, J, z⟩
  | .brk, ⟨_, _, I, z⟩ => gone_ok I hN hi hl fun _ J => ⟨_, _, J, z⟩
  | .cont, ⟨_, _, I, z⟩ => gone_ok I hN hi hl fun _ J => ⟨_, _, J, z⟩
  | .ret _, ⟨v, _, _, I, r, z⟩ => gone_ok I hN hi hl fun _ J => ⟨v, _, _, J, r, z⟩
variable {Wout : WX} {D : Ends}
/-- no clause is left: it flies on -/
theorem hung_out (hs : X.stack = X.env :: X.outer) (hf : X.env.frame = some X.env.locals) (tk : Takes X Wout) (y : Hung X pins B sI σ H a cls d s) (w : Wout cls d σ H) :
    wpAny (model X.prog X.w) X.A (handleBy (.ref a) X.env []) (SP X pins D) X.xe s := by
  have up : wpAny (model X.prog X.w) X.A (setFlight (.ref a) X.env.frame) (fun _ s₂ => wpAny (model X.prog X.w) X.A (throw (.ref a) : Sem Flow) (SP X pins D) X.xe s₂) X.xe s := by
    rw [hf]
    exact HandSPX.setFlight_upZ y.flies fun h2 on up => wpAny_throw (tk _ _ ⟨a, B, sI, pins, σ, H, cls, d, rfl, y.without, y.ground, y.slots.trans up, .inr (.inr (hs.symm ▸ on)), y.new, y.sys, y.bare, w⟩)
  have ⟨_, _, T, _, _, at_a, _, da, w1, _⟩ := y.flies.2.2.2
  refine wpAny_handleBy_nil ?_
  unfold PySem.passOn
  refine wpAny_bind (wpAny_field at_a da w1 ?_)
  rw [if_neg (by simp)]
  first
    | exact wpAny_bind up
    | exact wpAny_bind (wpAny_pure (wpAny_bind up))
theorem hung_handled (hs : X.stack = X.env :: X.outer) (hf : X.env.frame = some X.env.locals) (tk : Takes X Wout) {hds : List ExceptHandler} {l : List Clause} (hh : HdsG X hds l) :
    ∀ s, Hung X pins B sI σ H a cls d s → wGen Wout D l cls d σ H → wpAny (model X.prog X.w) X.A (handleBy (.ref a) X.env hds) (SP X pins D) X.xe s := by
  induction hh with
  | nil => exact fun s y w => hung_out hs hf tk y w
  | only ht hsu r next =>
    intro s y ⟨b, mb, yes, no⟩
    have ⟨_, _, z, _, S⟩ := y.held hf
    refine wpAny_handleBy_cons (codeAny_handlers_test (ht.run S z.1 mb fun h1 k => ?_)) nofun
    cases b with
    | false => exact next _ (y.stays k) (no rfl)
    | true =>
      refine codeAny_handlers_suite (HandSPX.lands_againZ (s := { s with heap := h1 }) (y.stays k).flies fun h2 fl up => ?_)
      have ⟨oe, ws, z, da, S⟩ := ((y.stays k).to fl up).held hf
      exact wpAny_mono ((hsu a oe cls d (X.pn ++ pins) z ⟨ws, da⟩).run [] _ _ _ _ S (yes rfl a y.new)) (fun f s2 e => sp_map (fun _ _ I => I.unsuite y.without.ok) e) fun _ _ => False.elim
  | as ht hN hi hln hsu r next =>
    intro s y ⟨b, mb, yes, no⟩
    have ⟨_, _, z, _, S⟩ := y.held hf
    refine wpAny_handleBy_cons (codeAny_handlers_test (ht.run S z.1 mb fun h1 k => ?_)) nofun
    cases b with
    | false => exact next _ (y.stays k) (no rfl)
    | true =>
      refine codeAny_handlers_suite_as (HandSPX.lands_againZ (s := { s with heap := h1 }) (y.stays k).flies fun h2 fl up => ?_)
      have ⟨oe, ws, z, da, S⟩ := ((y.stays k).to fl up).held hf
      refine store_ok (X := X.suite a ((a, oe) :: (X.pn ++ pins))) (v := .ref a) S hN hi (.inl hln) rfl (fun s2 S2 => ?_) (.inr hln)
      refine wpAny_mono ((hsu a oe cls d (X.pn ++ pins) z ⟨ws, da⟩).run [] s2 _ _ _ S2 (yes rfl a y.new)) (fun f s3 e => ?_) fun _ _ => False.elim
      have e1 := sp_map (X := X) (q := pins) (fun _ _ I => I.unsuite y.without.ok) e
      cases f <;> exact sp_gone hN hi hln e1
end
section
variable {X : Cx} {body : List Stmt} {h₀ : ExceptHandler} {hds : List ExceptHandler} {l : List Clause} {pos : Pos} {tb : WX → List (Addr × Obj) → (Value → Shared → Prop) → TS} {Wout : WX}
theorem ps_try_gen (hs : X.stack = X.env :: X.outer) (hf : X.env.frame = some X.env.locals) (tk : Takes X Wout)
    (hb : ∀ (W' : WX) (pn' : List (Addr × Obj)) (xe' : Value → Shared → Prop), Takes (X.tr pn' xe') W' → PassesOwn (model X.prog X.w) X.A X.env xe' → PSs (X.tr pn' xe') body (tb W' pn' xe'))
    (hh : HdsG X (h₀ :: hds) l) : PS X (.Try body (h₀ :: hds) [] [] pos) (fun D σ H => ∀ (pn' : List (Addr × Obj)) (xe' : Value → Shared → Prop), Takes (X.tr pn' xe') (wGen Wout D l) → PassesOwn (model X.prog X.w) X.A X.env xe' → tb (wGen Wout D l) pn' xe' D σ H) := by
  refine ⟨fun pins s σ H D I want => wpAny_Try_except ?_⟩
  have taken : Takes (X.tr (X.pn ++ pins) (fun e s₁ => wpAny (model X.prog X.w) X.A (noteFrame e X.env) (fun _ s₂ => wpAny (model X.prog X.w) X.A (setFlight e none) (fun _ s₃ =>
    wpAny (model X.prog X.w) X.A (handleBy e X.env (h₀ :: hds)) (SP X pins D) X.xe s₃) X.xe s₂) X.xe s₁)) (wGen Wout D l) := by
    intro u s1 ⟨a, B, sI, ps1, σ1, H1, cls, d, eu, J, gr, sl, sky, new, sys, bare, w⟩
    subst eu
    exact Sky.land Zc.steady (I.ok.frames.trans (congrArg some hs)) hf (show Sky B (X.env :: X.outer) a (Zc cls d) X.env.locals s1.heap from hs ▸ sky) fun h2 fl up =>
      hung_handled hs hf tk hh _ ⟨J.ofTry I.ok, gr, fl, sl.trans up, sys, bare, new⟩ w
  refine wpAny_mono ((hb (wGen Wout D l) (X.pn ++ pins) _ taken PassesOwn.looking).run [] s σ H D (I.toTry _) (want _ _ taken PassesOwn.looking)) (fun f s1 e => ?_) fun _ _ e => e
  have e1 := sp_map (X := X) (q := pins) (fun _ _ J => J.ofTry I.ok) e
  cases f with
  | next => exact wpAny_execs_nil e1
  | _ => exact e1
end
end L2
set_option Elab.async false
set_option linter.all false
set_option maxRecDepth 100000
set_option maxHeartbeats 4000000
/-! try .. except: what a suite does with the exception it holds -/
namespace Ev
open PySem L2
/-- the exception at hand: its address, class, dict; its class's number, its fields -/
structure XC where
  a : Addr
  cls : Value
  d : Option Addr
  c : Nat
  fs : List D
structure GaOk (g : G) (i : Option Nat) (x : XC) (bs : List Addr) (H : Hp) (σ : St) : Prop where
  at_ : ∀ j, i = some j → σ[j]? = some (some (.ref x.a))
  er : ErrAt g bs H x.c x.fs x.cls x.d
theorem GaOk.mono {g : G} {i : Option Nat} {x : XC} {bs bs1 : List Addr} {H H1 : Hp} {σ : St} (e : Ext bs H bs1 H1) (k : GaOk g i x bs H σ) : GaOk g i x bs1 H1 σ := ⟨k.at_, k.er.mono e⟩
abbrev TEx := Addr → Value → Option Addr → TE
abbrev TTx := Addr → Value → Option Addr → TT
abbrev TAx := Addr → Value → Option Addr → TA
abbrev TSx := Addr → Value → Option Addr → TS
def SimX {α β : Type} (rel : List Addr → Hp → α → β → Prop) (g : G) (i : Option Nat) (t : Addr → Value → Option Addr → St → Hp → (β → Hp → Prop) → Prop) (f : Nat → List D → En → Hs → R α) : Prop :=
  ∀ (x : XC) (σ : St) (H : Hp) (env : En) (h : Hs) (bs : List Addr) (Q : β → Hp → Prop), GaOk g i x bs H σ → ERel g bs H env σ → HRel g bs h H → Post rel g (fun _ _ _ => False) bs H (f x.c x.fs env h) Q → t x.a x.cls x.d σ H Q
def InSuite (X : Cx) (p : Cx → Addr → Value → Option Addr → Prop) : Prop := ∀ (a : Addr) (oe : Obj) (cls : Value) (d : Option Addr) (pn : List (Addr × Obj)), Zc cls d oe → (∃ vs, oe.data = .fields vs) → p (X.suite a ((a, oe) :: pn)) a cls d
structure XEJ (ci : Nat → String × List String) (X : Cx) (i : Option Nat) (e : Expr) (t : TEx) (f : Nat → List D → En → Hs → R D) : Prop where
  pe : InSuite X fun X a cls d => PE X e (t a cls d)
  sim : SimX (relV (X.g ci)) (X.g ci) i t f
structure XTJ (ci : Nat → String × List String) (X : Cx) (i : Option Nat) (e : Expr) (t : TTx) (f : Nat → List D → En → Hs → R Bool) : Prop where
  pt : InSuite X fun X a cls d => PT X e (t a cls d)
  sim : SimX relB (X.g ci) i t f
structure XTWJ (ci : Nat → String × List String) (X : Cx) (i : Option Nat) (e : Expr) (t : TTx) (f : Nat → List D → En → Hs → R Bool) : Prop where
  pw : InSuite X fun X a cls d => PW X e (t a cls d)
  sim : SimX relB (X.g ci) i t f
structure XAJ (ci : Nat → String × List String) (X : Cx) (i : Option Nat) (es : List Expr) (t : TAx) (f : Nat → List D → En → Hs → R (List D)) : Prop where
  pa : InSuite X fun X a cls d => PA X es (t a cls d)
  sim : SimX (relVs (X.g ci)) (X.g ci) i t f
def SimSX (g : G) (i : Option Nat) (t : TSx) (f : Nat → List D → En → Hs → S) : Prop :=
  ∀ (x : XC) (σ : St) (H : Hp) (env : En) (h : Hs) (bs : List Addr) (E : Ends), GaOk g i x bs H σ → ERel g bs H env σ → HRel g bs h H → PostS g (fun _ _ _ _ => False) bs H (f x.c x.fs env h) E → t x.a x.cls x.d E σ H
structure XSJ (ci : Nat → String × List String) (X : Cx) (i : Option Nat) (st : Stmt) (t : TSx) (f : Nat → List D → En → Hs → S) : Prop where
  ps : InSuite X fun X a cls d => PS X st (t a cls d)
  sim : SimSX (X.g ci) i t f
structure XSsJ (ci : Nat → String × List String) (X : Cx) (i : Option Nat) (st : List Stmt) (t : TSx) (f : Nat → List D → En → Hs → S) : Prop where
  pss : InSuite X fun X a cls d => PSs X st (t a cls d)
  sim : SimSX (X.g ci) i t f
theorem SimX.step {α β γ δ : Type} {relA : List Addr → Hp → α → β → Prop} {relC : List Addr → Hp → γ → δ → Prop} {g : G} {i : Option Nat} {t : Addr → Value → Option Addr → St → Hp → (β → Hp → Prop) → Prop} {f : Nat → List D → En → Hs → R α} {x : XC} {σ : St} {H : Hp} {env : En} {h : Hs} {bs : List Addr} {k : α → Hs → R γ} {Q : δ → Hp → Prop} {Q' : β → Hp → Prop}
    (ht : SimX relA g i t f) (ga : GaOk g i x bs H σ) (er : ERel g bs H env σ) (hr : HRel g bs h H) (p : Post relC g (fun _ _ _ => False) bs H ((f x.c x.fs env h).bind k) Q)
    (hk : ∀ a b bs1 H1 h1, Ext bs H bs1 H1 → HRel g bs1 h1 H1 → ERel g bs1 H1 env σ → GaOk g i x bs1 H1 σ → relA bs1 H1 a b → Post relC g (fun _ _ _ => False) bs1 H1 (k a h1) Q → Q' b H1) : t x.a x.cls x.d σ H Q' :=
  Post.step (M := fun Q' => t x.a x.cls x.d σ H Q') (fun Q' p => ht x σ H env h bs Q' ga er hr p) p fun a b bs1 H1 h1 e hr1 ra p1 => hk a b bs1 H1 h1 e hr1 (er.mono e) (ga.mono e) ra p1
theorem SimX.stepS {α β : Type} {rel : List Addr → Hp → α → β → Prop} {g : G} {i : Option Nat} {t : Addr → Value → Option Addr → St → Hp → (β → Hp → Prop) → Prop} {f : Nat → List D → En → Hs → R α} {x : XC} {σ : St} {H : Hp} {env : En} {h : Hs} {bs : List Addr} {k : α → Hs → S} {E : Ends} {Q' : β → Hp → Prop}
    (ht : SimX rel g i t f) (ga : GaOk g i x bs H σ) (er : ERel g bs H env σ) (hr : HRel g bs h H) (p : PostS g (fun _ _ _ _ => False) bs H ((f x.c x.fs env h).toS env k) E)
    (hk : ∀ a b bs1 H1 h1, Ext bs H bs1 H1 → HRel g bs1 h1 H1 → ERel g bs1 H1 env σ → GaOk g i x bs1 H1 σ → rel bs1 H1 a b → PostS g (fun _ _ _ _ => False) bs1 H1 (k a h1) E → Q' b H1) : t x.a x.cls x.d σ H Q' := by
  refine ht x σ H env h bs Q' ga er hr ?_
  cases hf : f x.c x.fs env h with
  | bad => rw [hf] at p; exact p
  | err c fs h' => rw [hf] at p; exact fun C dd bs' H' e r z => p C dd bs' H' σ e r (er.mono e) z
  | ok a h1 => rw [hf] at p; exact fun bs1 H1 b e hr1 ra => hk a b bs1 H1 h1 e hr1 (er.mono e) (ga.mono e) ra (PostS.mono e p)
section
variable {ci : Nat → String × List String} {X : Cx} {i : Option Nat} {pos : Pos} {a b e c : Expr} {es : List Expr} {rest : List Expr} {ta tb tc te : TEx} {t : TAx} {fa fb fe : Nat → List D → En → Hs → R D} {fr : Nat → List D → En → Hs → R (List D)} {tA tB' : TTx} {gA gB : Nat → List D → En → Hs → R Bool}
/-- what doesn't ask for the exception -/
theorem xej_of {t0 : TE} {f : En → Hs → R D} (h : ∀ (a : Addr) (pn : List (Addr × Obj)), EJ ci (X.suite a pn) W0 e t0 f) : XEJ ci X i e (fun _ _ _ => t0) (fun _ _ => f) :=
  ⟨fun a oe cls d pn _ _ => (h a _).pe, fun x σ H env h' bs Q _ er hr p => (h x.a []).sim σ H env h' bs Q er hr p⟩
theorem xtj_of {t0 : TT} {f : En → Hs → R Bool} (h : ∀ (a : Addr) (pn : List (Addr × Obj)), TJ ci (X.suite a pn) W0 e t0 f) : XTJ ci X i e (fun _ _ _ => t0) (fun _ _ => f) :=
  ⟨fun a oe cls d pn _ _ => (h a _).pt, fun x σ H env h' bs Q _ er hr p => (h x.a []).sim σ H env h' bs Q er hr p⟩
def xNil : Nat → List D → En → Hs → R (List D) := fun _ _ => aNil
def xCons (f : Nat → List D → En → Hs → R D) (fr : Nat → List D → En → Hs → R (List D)) : Nat → List D → En → Hs → R (List D) := fun c fs => aCons (f c fs) (fr c fs)
theorem xaj_nil : XAJ ci X i [] (fun _ _ _ => tNil) xNil := ⟨fun _ _ _ _ _ _ _ => pa_nil, fun x σ H env h bs Q ga er hr p => Post.ok_ p hr .nil⟩
theorem xaj_cons (ha : XEJ ci X i e te fe) (hr : XAJ ci X i es t fr) (hs : ∀ env, starEach (e :: es) env = (false, eval e env) :: starEach es env := by exact fun _ => rfl) : XAJ ci X i (e :: es) (fun a cls d => tCons (te a cls d) (t a cls d)) (xCons fe fr) :=
  ⟨fun a oe cls d pn hz hf => pa_cons (ha.pe a oe cls d pn hz hf) (hr.pa a oe cls d pn hz hf) (hs _), fun x σ H env h bs Q ga er hr' p => ha.sim.step ga er hr' p fun y vx bs1 H1 h1 e1 hr1 er1 ga1 rx p1 => hr.sim.step ga1 er1 hr1 p1 fun xs vs bs2 H2 h2 e2 hr2 er2 ga2 rs p2 => Post.ok_ p2 hr2 (.cons (rx.mono e2) rs)⟩
def xTup (f : Nat → List D → En → Hs → R (List D)) : Nat → List D → En → Hs → R D := fun c fs => eTup (f c fs)
def xLst (f : Nat → List D → En → Hs → R (List D)) : Nat → List D → En → Hs → R D := fun c fs => eLst (f c fs)
theorem xej_tup {x1} (ha : XAJ ci X i es t fr) : XEJ ci X i (.Tuple es x1 pos) (fun a cls d => tTup (t a cls d)) (xTup fr) :=
  ⟨fun a oe cls d pn hz hf => pe_tup (ha.pa a oe cls d pn hz hf), fun x σ H env h bs Q ga er hr p => ha.sim.step ga er hr p fun xs vs bs1 H1 h1 e1 hr1 er1 ga1 rs p1 => by
    split at p1
    · rename_i hl
      exact ⟨by rw [← rs.length, big_eq]; exact hl, post_tup hr1 rs p1⟩
    · exact p1.elim⟩
theorem xej_lst (ha : XAJ ci X i es t fr) : XEJ ci X i (.List es pos) (fun a cls d => tLst (t a cls d)) (xLst fr) :=
  ⟨fun a oe cls d pn hz hf => pe_lst (ha.pa a oe cls d pn hz hf), fun x σ H env h bs Q ga er hr p => ha.sim.step ga er hr p fun xs vs bs1 H1 h1 e1 hr1 er1 ga1 rs p1 => by
    split at p1
    · rename_i hl
      exact ⟨by rw [← rs.length, big_eq]; exact hl, post_lst hr1 rs p1⟩
    · exact p1.elim⟩
/-- a bool's value as a test -/
def xTru (f : Nat → List D → En → Hs → R D) : Nat → List D → En → Hs → R Bool := fun c fs => eTru (f c fs)
theorem xtj_tru (ha : XEJ ci X i a ta fa) (he : ∀ env whole, isTrue a env whole = (do let v ← whole; standAt a.pos; holding [v] (truthy v)) := by intro _ _; rfl) : XTJ ci X i a (fun ad cls d σ H Q => ta ad cls d σ H fun x H' => ∃ k, TruV X.K x H' k ∧ Q k H') (xTru fa) :=
  ⟨fun ad oe cls d pn hz hf => pt_truth (ha.pe ad oe cls d pn hz hf) (he _), fun x σ H env h bs Q ga er hr p => ha.sim.step ga er hr p fun y vx bs1 H1 h1 e1 hr1 er1 ga1 rx p1 => by
    rw [show truR y h1 = (truR y h1).bind fun b h => R.ok b h by cases truR y h1 <;> rfl] at p1
    obtain ⟨k, hk, p2⟩ := truR_post p1
    exact ⟨k, tru_ok' hr1 rx hk, Post.ok_ p2 hr1 rfl⟩⟩
def xNotB (f : Nat → List D → En → Hs → R Bool) : Nat → List D → En → Hs → R Bool := fun c fs => eNotB (f c fs)
theorem xtj_not (ha : XTJ ci X i a tA gA) : XTJ ci X i (.UnaryOp .Not a pos) (fun ad cls d => tNot (tA ad cls d)) (xNotB gA) :=
  ⟨fun ad oe cls d pn hz hf => pt_not (ha.pt ad oe cls d pn hz hf), fun x σ H env h bs Q ga er hr p => ha.sim.step ga er hr p fun y vx bs1 H1 h1 e1 hr1 er1 ga1 rx p1 => Post.ok_ p1 hr1 (by rw [show vx = y from rx])⟩
def xAndB (f k : Nat → List D → En → Hs → R Bool) : Nat → List D → En → Hs → R Bool := fun c fs => eAndB (f c fs) (k c fs)
def xOrB (f k : Nat → List D → En → Hs → R Bool) : Nat → List D → En → Hs → R Bool := fun c fs => eOrB (f c fs) (k c fs)
theorem xtwj_and1 (ha : XTJ ci X i a tA gA) : XTWJ ci X i (.BoolOp .And [a] pos) tA gA := ⟨fun ad oe cls d pn hz hf => pw_and1 (ha.pt ad oe cls d pn hz hf), ha.sim⟩
theorem xtwj_or1 (ha : XTJ ci X i a tA gA) : XTWJ ci X i (.BoolOp .Or [a] pos) tA gA := ⟨fun ad oe cls d pn hz hf => pw_or1 (ha.pt ad oe cls d pn hz hf), ha.sim⟩
theorem xtwj_and (ha : XTJ ci X i a tA gA) (hb : XTWJ ci X i (.BoolOp .And (b :: rest) pos) tB' gB) : XTWJ ci X i (.BoolOp .And (a :: b :: rest) pos) (fun ad cls d => tAnd (tA ad cls d) (tB' ad cls d)) (xAndB gA gB) :=
  ⟨fun ad oe cls d pn hz hf => pw_and (ha.pt ad oe cls d pn hz hf) (hb.pw ad oe cls d pn hz hf), fun x σ H env h bs Q ga er hr p => ha.sim.step ga er hr p fun y vx bs1 H1 h1 e1 hr1 er1 ga1 rx p1 => by
    cases (show vx = y from rx)
    cases y with
    | true => rw [if_pos rfl] at p1 ⊢; exact hb.sim _ _ _ _ _ _ _ ga1 er1 hr1 p1
    | false => rw [if_neg Bool.false_ne_true] at p1 ⊢; exact Post.ok_ p1 hr1 rfl⟩
theorem xtwj_or (ha : XTJ ci X i a tA gA) (hb : XTWJ ci X i (.BoolOp .Or (b :: rest) pos) tB' gB) : XTWJ ci X i (.BoolOp .Or (a :: b :: rest) pos) (fun ad cls d => tOr (tA ad cls d) (tB' ad cls d)) (xOrB gA gB) :=
  ⟨fun ad oe cls d pn hz hf => pw_or (ha.pt ad oe cls d pn hz hf) (hb.pw ad oe cls d pn hz hf), fun x σ H env h bs Q ga er hr p => ha.sim.step ga er hr p fun y vx bs1 H1 h1 e1 hr1 er1 ga1 rx p1 => by
    cases (show vx = y from rx)
    cases y with
    | true => rw [if_pos rfl] at p1 ⊢; exact Post.ok_ p1 hr1 rfl
    | false => rw [if_neg Bool.false_ne_true] at p1 ⊢; exact hb.sim _ _ _ _ _ _ _ ga1 er1 hr1 p1⟩
theorem xtj_w (h : XTWJ ci X i a tA gA) : XTJ ci X i a tA gA := ⟨fun ad oe cls d pn hz hf => (h.pw ad oe cls d pn hz hf).pt, h.sim⟩
def xIf (c : Nat → List D → En → Hs → R Bool) (fa fb : Nat → List D → En → Hs → R D) : Nat → List D → En → Hs → R D := fun k fs => eIf (c k fs) (fa k fs) (fb k fs)
theorem xej_if (hc : XTJ ci X i c tA gA) (ha : XEJ ci X i a ta fa) (hb : XEJ ci X i b tb fb) : XEJ ci X i (.IfExp c a b pos) (fun ad cls d => tIf (tA ad cls d) (ta ad cls d) (tb ad cls d)) (xIf gA fa fb) :=
  ⟨fun ad oe cls d pn hz hf => pe_ifExp (hc.pt ad oe cls d pn hz hf) (ha.pe ad oe cls d pn hz hf) (hb.pe ad oe cls d pn hz hf), fun x σ H env h bs Q ga er hr p => hc.sim.step ga er hr p fun y vx bs1 H1 h1 e1 hr1 er1 ga1 rx p1 => by
    cases (show vx = y from rx)
    cases y with
    | true => rw [if_pos rfl] at p1 ⊢; exact ha.sim _ _ _ _ _ _ _ ga1 er1 hr1 p1
    | false => rw [if_neg Bool.false_ne_true] at p1 ⊢; exact hb.sim _ _ _ _ _ _ _ ga1 er1 hr1 p1⟩
/-- a comparison -/
def xBin (op : D → D → Hs → R D) (fa fb : Nat → List D → En → Hs → R D) : Nat → List D → En → Hs → R D := fun c fs => eBin op (fa c fs) (fb c fs)
theorem xej_cmp {op : CmpOp} {r : R2} {f : D → D → Hs → R D} (ho : ∀ (a : Addr) (pn : List (Addr × Obj)), OpR (X.suite a pn) (compareOp op) r) (hj : OpJ (X.g ci) r f) (ha : XEJ ci X i a ta fa) (hb : XEJ ci X i b tb fb) (hm : behindInMarks op b = false) : XEJ ci X i (.Compare a [op] [b] pos) (fun ad cls d => tOp r (ta ad cls d) (tb ad cls d)) (xBin f fa fb) :=
  ⟨fun ad oe cls d pn hz hf => pe_cmpR (ho _ _) (ha.pe ad oe cls d pn hz hf) (hb.pe ad oe cls d pn hz hf) hm, fun x σ H env h bs Q ga er hr p => ha.sim.step ga er hr p fun y vx bs1 H1 h1 e1 hr1 er1 ga1 rx p1 => hb.sim.step ga1 er1 hr1 p1 fun z vz bs2 H2 h2 e2 hr2 er2 ga2 rz p2 =>
    hj.run _ bs2 h2 H2 y z vx vz Q hr2 (rx.mono e2) rz p2⟩
theorem xtj_tstd {t0 : TEx} {f : Nat → List D → En → Hs → R D} (ha : XEJ ci X i a t0 f) (he : ∀ env whole, isTrue a env whole = (do let v ← whole; standAt a.pos; holding [v] (truthy v)) := by intro _ _; rfl) : XTJ ci X i a (fun ad cls d σ H Q => t0 ad cls d σ H fun x H' => ∃ k, TruV X.K x H' k ∧ Q k H') (xTru f) := xtj_tru ha he
/-- a value that is handed on to a built-in -/
def xCall (f : List D → Hs → R D) (fa : Nat → List D → En → Hs → R (List D)) : Nat → List D → En → Hs → R D := fun c fs => eCall f (fa c fs)
end
/-! ### the exception's fields, its classes -/
def ad (mg : Str → Option Value) (x : Str) : Addr := match mg x with
  | some (.ref C) => C
  | _ => 0
/-- an own error class: its fields may be read -/
structure ErC (ci : Nat → String × List String) (K : PySem.W.Frag) (mg : Str → Option Value) (c : Nat) : Prop where
  mg_ : mg (Str.ofString (ci c).1) = some (.ref (ad mg (Str.ofString (ci c).1)))
  xf : XfC K (ad mg (Str.ofString (ci c).1))
structure ErF (ci : Nat → String × List String) (K : PySem.W.Frag) (mg : Str → Option Value) (c : Nat) (f : Str) (k : Nat) : Prop where
  no : PySem.W.findIn K (.ref (ad mg (Str.ofString (ci c).1))) f = some none
  h1 : ((ci c).2.map Str.ofString)[k]? = some f
  h2 : ∀ j, j < k → ((ci c).2.map Str.ofString)[j]? ≠ some f
def xFld (c k : Nat) : Nat → List D → En → Hs → R D := fun c' fs _ h => if c' = c then (match fs[k]? with
  | some d => .ok d h
  | none => .bad) else .bad
theorem look_at {ks : List Str} {f : Str} : ∀ {fvs : List (Str × V)} {k : Nat}, (fvs.map (·.1))[k]? = some f → (∀ j, j < k → (fvs.map (·.1))[j]? ≠ some f) → ∃ v, fvs.lookup f = some v ∧ (fvs.map (·.2))[k]? = some v
  | [], k, h1, _ => by simp at h1
  | (y, v) :: fvs, 0, h1, _ => by
    simp at h1
    subst h1
    exact ⟨v, by simp, by simp⟩
  | (y, v) :: fvs, k + 1, h1, h2 => by
    have hy : y ≠ f := fun e => h2 0 (Nat.succ_pos _) (by simp [e])
    obtain ⟨u, g1, g2⟩ := look_at (ks := ks) (fvs := fvs) (k := k) (by simpa using h1) (fun j hj => by
      have := h2 (j + 1) (by omega)
      simpa using this)
    refine ⟨u, ?_, by simpa using g2⟩
    rw [List.lookup_cons]
    rw [show (f == y) = false from by simp; exact fun e => hy e.symm]
    exact g1
section
variable {ci : Nat → String × List String} {X : Cx} {pos p1 p2 p3 : Pos}
theorem er_cls {g : G} {bs : List Addr} {H : Hp} {c : Nat} {fs : List D} {C : Value} {dd : Option Addr} (r : ErC g.ci g.K g.mg c) (e : ErrAt g bs H c fs C dd) : C = .ref (ad g.mg (Str.ofString (g.ci c).1)) ∧ ∃ (d : Addr) (fvs : List (Str × V)), dd = some d ∧ H d = some (.xd fvs) ∧ fvs.map (·.1) = flds g c fs.length ∧ Reps g bs H fs (fvs.map (·.2)) := by
  obtain ⟨Ca, d, fvs, h1, h2, h3, h4, h5, h6, h7⟩ := e
  have h1' : g.mg (Str.ofString (g.ci c).1) = some (.ref Ca) := h1
  rw [r.mg_] at h1'
  cases h1'
  exact ⟨h2, d, fvs, h3, h5, h6, h7⟩
/-- e.f -/
theorem xej_fld (j : Nat) {n f : Str} (c k : Nat) (r : ErC ci X.K X.mg c) (q : ErF ci X.K X.mg c f k) (hN : X.N[j]? = some n := by rfl) (hv : Vis X.env.scope n := by first | exact Or.inl rfl | exact Or.inr (Or.inl rfl) | exact Or.inr (Or.inr rfl)) (hd : (n == ("__debug__" : Str)) = false := by decide)
    (hcd : (n == ("__classdict__" : Str)) = false := by decide) (hb : attributeBase (.Name n p1) f X.env (eval (.Name n p1) X.env) = eval (.Name n p1) X.env := by rfl) :
    XEJ ci X (some j) (.Attribute (.Name n p1) f pos) (fun a cls d => tXf a cls d (ad X.mg (Str.ofString (ci c).1)) f (tVar j)) (xFld c k) := by
  refine ⟨fun a oe cls d pn hz hf => pe_xf (X := X) r.xf q.no hz hf (pe_var (X := X.suite a ((a, oe) :: pn)) hN hv hd hcd) hb, fun x σ H env h bs Q ga er hr p => ?_⟩
  unfold xFld at p
  split at p
  · rename_i e
    split at p
    · rename_i dv hd
      obtain ⟨xa, xcls, xd, xc, xfs⟩ := x
      dsimp only at *
      subst e
      obtain ⟨e1, dd, fvs, e2, e3, e4, e5⟩ := er_cls (g := X.g ci) r ga.er
      have hlt : k < xfs.length := (List.getElem?_eq_some_iff.mp hd).1
      have hfl : ∀ j, j ≤ k → (fvs.map (·.1))[j]? = ((ci xc).2.map Str.ofString)[j]? := fun j hj => by
        rw [e4]
        show (((ci xc).2.take xfs.length).map Str.ofString)[j]? = _
        rw [List.map_take, List.getElem?_take, if_pos (by omega)]
      obtain ⟨v, g1, g2⟩ := look_at (ks := []) (fvs := fvs) (f := f) (k := k) (by rw [hfl k (Nat.le_refl _)]; exact q.h1) (fun j hj => by rw [hfl j (Nat.le_of_lt hj)]; exact q.h2 j hj)
      obtain ⟨v', g3, g4⟩ := e5.get hd
      rw [g2] at g3
      cases g3
      exact ⟨.ref xa, ga.at_ j rfl, rfl, e1, dd, fvs, v, e2, e3, g1, Post.ok_ p hr g4⟩
    · exact p.elim
  · exact p.elim
end
/-! ### statements of a suite -/
section
variable {ci : Nat → String × List String} {X : Cx} {i : Option Nat} {pos : Pos} {e c : Expr} {te : TEx} {fe : Nat → List D → En → Hs → R D} {tA : TTx} {gA : Nat → List D → En → Hs → R Bool} {st : Stmt} {sa sb rest : List Stmt} {t u : TSx} {f k : Nat → List D → En → Hs → S}
def xRet (f : Nat → List D → En → Hs → R D) : Nat → List D → En → Hs → S := fun c fs => sRet (f c fs)
def xIfS (c : Nat → List D → En → Hs → R Bool) (f k : Nat → List D → En → Hs → S) : Nat → List D → En → Hs → S := fun n fs => sIf (c n fs) (f n fs) (k n fs)
def xSeq (f k : Nat → List D → En → Hs → S) : Nat → List D → En → Hs → S := fun n fs => sCons (f n fs) (k n fs)
theorem xsj_ret (he : XEJ ci X i e te fe) : XSJ ci X i (.Return (some e) pos) (fun a cls d => tRet (te a cls d)) (xRet fe) :=
  ⟨fun a oe cls d pn hz hf => ps_ret (he.pe a oe cls d pn hz hf), fun x σ H env h bs E ga er hr p => he.sim.stepS ga er hr p fun a b bs1 H1 h1 e1 hr1 er1 ga1 ra p1 => p1 bs1 H1 b .refl hr1 ra⟩
theorem xssj_one (h1 : XSJ ci X i st t f) : XSsJ ci X i [st] t f := ⟨fun a oe cls d pn hz hf => pss_one (h1.ps a oe cls d pn hz hf), h1.sim⟩
/-- a statement that leaves, or passes without a change -/
theorem xssj_if (hc : XTJ ci X i c tA gA) (ha : XSsJ ci X i sa t f) (hr' : XSsJ ci X i rest u k) : XSsJ ci X i (.If c sa [] pos :: rest) (fun a cls d => tSeq (tIfS (tA a cls d) (t a cls d) tNext) (u a cls d)) (fun n fs env h => (gA n fs env h).toS env fun b h1 => if b = true then (match f n fs env h1 with
    | .ret v h2 => .ret v h2
    | _ => .bad) else k n fs env h1) :=
  ⟨fun a oe cls d pn hz hf => pss_cons (ps_if (hc.pt a oe cls d pn hz hf) (ha.pss a oe cls d pn hz hf) pss_nil) (hr'.pss a oe cls d pn hz hf), fun x σ H env h bs E ga er hr p => by
    show tIfS _ _ _ _ _ _
    exact hc.sim.stepS ga er hr p fun y vx bs1 H1 h1 e1 hr1 er1 ga1 rx p1 => by
      cases (show vx = y from rx)
      cases y with
      | true =>
        rw [if_pos rfl] at p1 ⊢
        refine ha.sim _ _ _ _ _ _ _ ga1 er1 hr1 ?_
        revert p1
        cases f x.c x.fs env h1 with
        | ret v h2 => exact fun z => z
        | _ => exact fun z => z.elim
      | false =>
        rw [if_neg Bool.false_ne_true] at p1 ⊢
        exact hr'.sim _ _ _ _ _ _ _ ga1 er1 hr1 p1⟩
end
/-! ### the statement -/
def sTry (fb : En → Hs → S) (hd : Nat → List D → En → Hs → S) : En → Hs → S := fun env h => match fb env h with
  | .err c fs env' h' => hd c fs env' h'
  | r => r
def hNo : Nat → List D → En → Hs → S := fun c fs env h => .err c fs env h
def S.gone (i : Nat) : S → S
  | .nx env h => .nx (env.set i none) h
  | .brk env h => .brk (env.set i none) h
  | .ct env h => .ct (env.set i none) h
  | .ret d h => .ret d h
  | .err _ _ _ _ => .bad
  | .bad => .bad
def S.noer : S → S
  | .err _ _ _ _ => .bad
  | r => r
def hOn (U cs : List Nat) (i : Option Nat) (suite rest : Nat → List D → En → Hs → S) : Nat → List D → En → Hs → S := fun c fs env h => if c ∈ U then (if c ∈ cs then (match i with
  | none => (suite c fs env h).noer
  | some i => if i < env.length then (suite c fs (env.set i none) h).gone i else .bad) else rest c fs env h) else .bad
/-- which of the classes U the clause takes -/
def CMatch (ci : Nat → String × List String) (mg : Str → Option Value) (m : Value → Option Bool) (U cs : List Nat) : Prop := ∀ c ∈ U, ∀ C, mg (Str.ofString (ci c).1) = some (.ref C) → m (.ref C) = some (decide (c ∈ cs))
inductive XHds (ci : Nat → String × List String) (X : Cx) : List ExceptHandler → List Clause → (Nat → List D → En → Hs → S) → Prop
  | nil : XHds ci X [] [] hNo
  | only {te : Expr} {m : Value → Option Bool} {ts : TSx} {b₀ : Stmt} {suite : List Stmt} {pos' : Pos} {hds : List ExceptHandler} {l : List Clause} {U cs : List Nat} {sf hd : Nat → List D → En → Hs → S} (ht : HTest X te m) (hm : CMatch ci X.mg m U cs)
      (hsu : XSsJ ci X none (b₀ :: suite) ts sf) (r : XHds ci X hds l hd) : XHds ci X (.ExceptHandler (some te) none (b₀ :: suite) pos' :: hds) ((m, none, ts) :: l) (hOn U cs none sf hd)
  | as {te : Expr} {m : Value → Option Bool} {ts : TSx} {n : Str} {i : Nat} {b₀ : Stmt} {suite : List Stmt} {pos' : Pos} {hds : List ExceptHandler} {l : List Clause} {U cs : List Nat} {sf hd : Nat → List D → En → Hs → S} (ht : HTest X te m) (hm : CMatch ci X.mg m U cs) (hN : X.N.Nodup) (hi : X.N[i]? = some n) (hln : X.env.kindOf n = some .local)
      (hsu : XSsJ ci X (some i) (b₀ :: suite) ts sf) (r : XHds ci X hds l hd) : XHds ci X (.ExceptHandler (some te) (some n) (b₀ :: suite) pos' :: hds) ((m, some i, ts) :: l) (hOn U cs (some i) sf hd)
theorem XHds.ok {ci : Nat → String × List String} {X : Cx} {hds : List ExceptHandler} {l : List Clause} {hd : Nat → List D → En → Hs → S} (h : XHds ci X hds l hd) : HdsG X hds l := by
  induction h with
  | nil => exact .nil
  | only ht hm hsu r ih => exact .only ht (fun a oe cls d pn hz hf => hsu.pss a oe cls d pn hz hf) ih
  | as ht hm hN hi hln hsu r ih => exact .as ht hN hi hln (fun a oe cls d pn hz hf => hsu.pss a oe cls d pn hz hf) ih
theorem ERel.unset {g : G} {bs : List Addr} {H : Hp} {env : En} {σ : St} {v : Option V} (er : ERel g bs H env σ) (i : Nat) : ERel g bs H (env.set i none) (σ.set i v) := by
  refine ⟨by rw [List.length_set, List.length_set]; exact er.len, fun j d' e => ?_⟩
  by_cases hj : i = j
  · subst hj
    by_cases hi : i < env.length
    · rw [List.getElem?_set_self hi] at e
      cases e
    · rw [List.getElem?_eq_none (by rw [List.length_set]; omega)] at e; cases e
  · rw [List.getElem?_set_ne hj] at e ⊢
    exact er.at_ j d' e
theorem XHds.wish {ci : Nat → String × List String} {X : Cx} {W : WX} {E : Ends} {hds : List ExceptHandler} {l : List Clause} {hd : Nat → List D → En → Hs → S} (h : XHds ci X hds l hd) : ∀ (c : Nat) (fs : List D) (env : En) (hh : Hs) (bs : List Addr) (H : Hp) (σ : St) (C : Value) (dd : Option Addr), HRel (X.g ci) bs hh H → ERel (X.g ci) bs H env σ → ErrAt (X.g ci) bs H c fs C dd →
    PostS (X.g ci) W bs H (hd c fs env hh) E → wGen W E l C dd σ H := by
  induction h with
  | nil => exact fun c fs env hh bs H σ C dd hr er ee p => p C dd bs H σ .refl hr er ee
  | @only te m ts b₀ suite pos' hds l U cs sf hd ht hm hsu r ih =>
    intro c fs env hh bs H σ C dd hr er ee p
    unfold hOn at p
    split at p
    · rename_i hU
      obtain ⟨Ca, d, fvs, g1, g2, g3⟩ := id ee
      refine ⟨decide (c ∈ cs), by rw [g2]; exact hm c hU Ca g1, fun hb a na => ?_, fun hb => ?_⟩
      · rw [if_pos (of_decide_eq_true hb)] at p
        refine hsu.sim ⟨a, C, dd, c, fs⟩ σ H env hh bs E ⟨fun j e => (by cases e), ee⟩ er hr ?_
        revert p
        dsimp only
        cases sf c fs env hh with
        | err _ _ _ _ => exact fun z => z.elim
        | _ => exact fun z => z
      · rw [if_neg (of_decide_eq_false hb)] at p
        exact ih c fs env hh bs H σ C dd hr er ee p
    · exact p.elim
  | @as te m ts n i b₀ suite pos' hds l U cs sf hd ht hm hN hi hln hsu r ih =>
    intro c fs env hh bs H σ C dd hr er ee p
    unfold hOn at p
    split at p
    · rename_i hU
      obtain ⟨Ca, d, fvs, g1, g2, g3⟩ := id ee
      refine ⟨decide (c ∈ cs), by rw [g2]; exact hm c hU Ca g1, fun hb a na => ?_, fun hb => ?_⟩
      · rw [if_pos (of_decide_eq_true hb)] at p
        dsimp only at p
        split at p
        rotate_left
        · exact p.elim
        rename_i hil
        rw [er.len] at hil
        refine hsu.sim ⟨a, C, dd, c, fs⟩ (σ.set i (some (.ref a))) H (env.set i none) hh bs _ ⟨fun j e => by cases e; rw [List.getElem?_set_self hil], ee⟩ (er.unset i) hr ?_
        revert p
        dsimp only
        cases sf c fs (env.set i none) hh with
        | err _ _ _ _ => exact fun z => z.elim
        | bad => exact fun z => z.elim
        | ret v h2 => exact fun z => z
        | nx e2 h2 => exact fun z bs' H' σ' x y w => z bs' H' _ x y (w.unset i)
        | brk e2 h2 => exact fun z bs' H' σ' x y w => z bs' H' _ x y (w.unset i)
        | ct e2 h2 => exact fun z bs' H' σ' x y w => z bs' H' _ x y (w.unset i)
      · rw [if_neg (of_decide_eq_false hb)] at p
        exact ih c fs env hh bs H σ C dd hr er ee p
    · exact p.elim
section
variable {ci : Nat → String × List String} {X : Cx} {W : WX} {pos : Pos} {body : List Stmt} {h₀ : ExceptHandler} {hds : List ExceptHandler} {l : List Clause} {tb : WX → List (Addr × Obj) → (Value → Shared → Prop) → TS} {fb : En → Hs → S} {hd : Nat → List D → En → Hs → S}
theorem sj_try (hs : X.stack = X.env :: X.outer) (hf : X.env.frame = some X.env.locals) (tk : Takes X W) (hb : ∀ (W' : WX) (pn : List (Addr × Obj)) (xe : Value → Shared → Prop), Takes (X.tr pn xe) W' → PassesOwn (model X.prog X.w) X.A X.env xe → SsJ ci (X.tr pn xe) W' body (tb W' pn xe) fb)
    (hh : XHds ci X (h₀ :: hds) l hd) : SJ ci X W (.Try body (h₀ :: hds) [] [] pos) (fun D σ H => ∀ (pn : List (Addr × Obj)) (xe : Value → Shared → Prop), Takes (X.tr pn xe) (wGen W D l) → PassesOwn (model X.prog X.w) X.A X.env xe → tb (wGen W D l) pn xe D σ H) (sTry fb hd) := by
  refine ⟨ps_try_gen hs hf tk (fun W' pn xe t1 t2 => (hb W' pn xe t1 t2).pss) hh.ok, fun σ H env h bs E er hr p => ?_⟩
  intro pn xe t1 t2
  have J := hb (wGen W E l) pn xe t1 t2
  refine J.sim σ H env h bs E er hr ?_
  unfold sTry at p
  cases hf : fb env h with
  | err c fs env' h' =>
    rw [hf] at p
    exact fun C dd bs' H' σ' e r er' ee => hh.wish c fs env' h' bs' H' σ' C dd r er' ee (PostS.mono e p)
  | bad => rw [hf] at p; exact p
  | nx e2 h2 => rw [hf] at p; exact p
  | ret v h2 => rw [hf] at p; exact p
  | brk e2 h2 => rw [hf] at p; exact p
  | ct e2 h2 => rw [hf] at p; exact p
end
end Ev
set_option Elab.async false
set_option linter.all false
set_option maxRecDepth 100000
set_option maxHeartbeats 4000000
/-! own error classes: their __init__, the facts of their raising -/
namespace L2
open PySem PySem.Spec PyProof.Rows
section
variable {X : Cx} {CX : CXT} {x m : Str} {C f : Addr} {mc : Value} {k : Nat} {fd : FuncData} {ps : List Str} {sp : Sp} {ds : List Value} {dvs : List V} {E : XK} {e : Expr} {es : List Expr} {t : TA} {p1 p2 pos : Pos}
/-- C.m(e, ..), m a def of the class C, called through the class -/
theorem pe_clfn {pl : Sem Bool} (hg : Gl X x) (hm : X.mg x = some (.ref C)) (r : ClX.CRead X.K C mc) (c : ClX.CVal X.K C mc m (.ref f) (.ref f)) (F : FnOk X.prog X.w X.K X.mg X.base CX k f fd ps sp) (hk : PySem.W.keepIn X.K (.ref f) = true) (hr : Room k X.A) (hb : Binds X.K fd ps ds) (hd : Vals dvs ds) (hx : Passes CX X E) (ha : PA X (e :: es) t)
    (hdb : (x == ("__debug__" : Str)) = false := by decide)
    (hst : starEach (e :: es) X.env = (false, eval e X.env) :: starEach es X.env := by rfl) (hpl : (backTo pos (starEach es X.env)).any (·.1) = false := by rfl)
    (ht : eval (.Call (.Attribute (.Name x p1) m p2) (e :: es) [] pos) X.env = (do
      let ov ← eval (.Name x p1) X.env
      standAt p2.atName
      let (f, first) ← holding [ov] (getMethod ov m pl)
      callWith pos f first (backTo pos (starEach (e :: es) X.env)) (backToKw pos (keywordEach [] X.env))) := by rfl) :
    PE X (.Call (.Attribute (.Name x p1) m p2) (e :: es) [] pos) (tCall sp dvs E t) := by
  refine ⟨fun pins s σ H Q I h => ?_⟩
  refine PySem.W.methodCall_KW (pl := pl) (ld_glob I hg hm ?_ hdb) ht
  refine PySem.W.method_cls I.kIn r.ga (ClX.getcval_ok I r c fun s1 I1 => ?_)
  refine PySem.W.callWith_K (first := []) (h₀ := X.base) I.ok.mod.kin hk (thn (ha.run pos pins s1 σ H _ I1 h) fun us s2 ⟨vs, H2, I2, r2, q2⟩ => ⟨I2.kIn, ?_⟩) hst hpl
  exact run_fn (us := us) (vs := vs) F hr hb hd hx I2 r2 q2
end
/-- the base's __init__: nothing happens to the exception -/
def spVe (K : PySem.W.Frag) : Sp := fun vs H Q _ => ∃ a C y, vs = [.ref a, y] ∧ OexC K C ∧ H a = some (exo a C none) ∧ Q .non H
section
variable {P : Program} {w : World} {K : PySem.W.Frag} {mg : Str → Option Value} {base : Heap} {x qual : Str} {st : Stmt} {f fB : Addr} {fd fdB : FuncData} {p1 p2 p3 p4 p5 p6 q1 q2 q3 q4 : Pos}
theorem le_init {y0 y1 : Str} (F : FunD K x qual (defArgs st) (defBody st) (defScope st) [] [] f fd) (hbd : defBody st = [.Expr (.Call (.Attribute (.Name "ValueError" p1) "__init__" p2) [.Name y0 p3, .Name y1 p4] [] p5) p6]) (S : FnScope [y0, y1] [y0, y1] (defScope st))
    (hpe : ∀ (cdv : Value) (A : Around) (outer : List Env) (s : Shared) (H : Hp) (E : XK), PE (cxOf (L2.CX P w) P w K mg base [y0, y1] qual (defScope st) f cdv A outer s H E) (.Call (.Attribute (.Name "ValueError" p1) "__init__" p2) [.Name y0 p3, .Name y1 p4] [] p5) (tVeI K (tCons (tVar 0) (tCons (tVar 1) tNil))))
    (hs : ∀ (cdv : Value) (A : Around) (outer : List Env) (s : Shared) (H : Hp) (E : XK), swapsWith (.Call (.Attribute (.Name "ValueError" p1) "__init__" p2) [.Name y0 p3, .Name y1 p4] [] p5) none p6.line (cxOf (L2.CX P w) P w K mg base [y0, y1] qual (defScope st) f cdv A outer s H E).env = pure false := by exact fun _ _ _ _ _ _ => rfl) :
    FnOk P w K mg base (L2.CX P w) 1 f fd [y0, y1] (spVe K) := by
  refine F.ok (k := 0) S (fun vs H Q E h => ?_) (fun cdv A outer s H vs Q E hr h => ?_)
  · obtain ⟨a, C, y, e, _⟩ := h
    rw [e]
    rfl
  · obtain ⟨a, C, y, rfl, h2, h3, h4⟩ := h
    rw [hbd]
    exact ⟨_, pss_one (ps_expr (hpe cdv A outer s H E) (hs cdv A outer s H E)), .ref a, rfl, y, rfl, a, C, [y], rfl, by show 1 ≤ 1000; decide, h2, h3, h4⟩
theorem ex_init {y0 y1 fl : Str} {eX : Expr} {k : Nat} {C : Addr} (F : FunD K x qual (defArgs st) (defBody st) (defScope st) [] [] f fd) (hbd : defBody st = [.Expr eX p6, .Assign [.Attribute (.Name y0 q1) fl q2] (.Name y1 q3) q4]) (S : FnScope [y0, y1] [y0, y1] (defScope st)) {te : TE} (hC : OexC K C) (hno : PySem.W.findIn K (.ref C) fl = some none)
    (hpe : ∀ (cdv : Value) (A : Around) (outer : List Env) (s : Shared) (H : Hp) (E : XK), Room k (A.deeper (envOfC qual (defScope st) s.heap.objs.size f cdv)) → PE (cxOf (L2.CX P w) P w K mg base [y0, y1] qual (defScope st) f cdv A outer s H E) eX te)
    (hte : ∀ (a : Addr) (y : V) (H : Hp) (Q : VK), H a = some (exo a C none) → Q .non H → te [some (.ref a), some y] H Q)
    (hs : ∀ (cdv : Value) (A : Around) (outer : List Env) (s : Shared) (H : Hp) (E : XK), swapsWith eX none p6.line (cxOf (L2.CX P w) P w K mg base [y0, y1] qual (defScope st) f cdv A outer s H E).env = pure false ∧ PS (cxOf (L2.CX P w) P w K mg base [y0, y1] qual (defScope st) f cdv A outer s H E) (.Assign [.Attribute (.Name y0 q1) fl q2] (.Name y1 q3) q4) (tOst K fl (tVar 0) (tVar 1))) :
    FnOk P w K mg base (L2.CX P w) (k + 1) f fd [y0, y1] (Ev.spExc K C fl) := by
  refine F.ok (k := k) S (fun vs H Q E h => ?_) (fun cdv A outer s H vs Q E hr h => ?_)
  · obtain ⟨a, y, e, _⟩ := h
    rw [e]
    rfl
  · obtain ⟨a, y, rfl, h2, h3⟩ := h
    rw [hbd]
    refine ⟨_, pss_cons (ps_expr (hpe cdv A outer s H E hr) (hs cdv A outer s H E).1) (pss_one (hs cdv A outer s H E).2), ?_⟩
    show te _ H _
    exact hte a y H _ h2 ⟨y, rfl, .ref a, rfl, a, C, rfl, hC, hno, .inl ⟨h2, fun dx n ne => h3 dx n ne⟩⟩
end
end L2
namespace Ev
open PySem L2
namespace Fx
open He
/-- a class that pmk_oex makes exceptions of -/
def oexB (C : Addr) (K : Fr) : Bool := (match K.lookup C with
  | some ⟨.type "type", _, .cls cd, sl⟩ => (match cd.mro, sl.toList with
    | .ref C' :: bm, [_, _, _, _, some (.builtin n), _] => C' == C && (n == "ValueError.__new__" && (!cd.hasDel && (cd.hasDict && PySem.HandSPX.refsVE bm)))
    | _, _ => false)
  | _ => false) && (decide (PySem.W.findIn K (.ref C) "__setattr__" = some (some (.builtin "object.__setattr__"))) && (decide (PySem.W.subIn K (.ref C) (.type "BaseException") = some true) && (decide (PySem.W.typeIn K (.ref C) = some (.type "type")) && PySem.W.keepIn K (.ref C))))
theorem oex_ok {C : Addr} {K : Fr} (h : oexB C K = true) : OexC K C := by
  obtain ⟨h0, h⟩ := ba h
  obtain ⟨h1, h⟩ := ba h
  obtain ⟨h2, h⟩ := ba h
  obtain ⟨h3, h4⟩ := ba h
  refine ⟨?_, of_decide_eq_true h1, of_decide_eq_true h2, of_decide_eq_true h3, h4⟩
  split at h0
  · rename_i dd cd sl ho
    split at h0
    · rename_i C' bm k0 k1 k2 k3 n k5 hm hs
      simp only [Bool.and_eq_true, beq_iff_eq, Bool.not_eq_true'] at h0
      obtain ⟨rfl, rfl, hdel, hd, ht⟩ := h0
      obtain ⟨nm, bs, mro, ns, qn, hdct, sn, sub, ab, col, del⟩ := cd
      dsimp only at hm hdel hd
      subst hm hdel hd
      have hsl : sl = #[k0, k1, k2, k3, some (.builtin "ValueError.__new__"), k5] := by
        obtain ⟨l⟩ := sl
        simp only at hs
        rw [hs]
      subst hsl
      exact ⟨nm, qn, ns, bs, bm, sn, sub, ab, col, dd, k0, k1, k2, k3, k5, ho, ht⟩
    · cases h0
  · cases h0
/-- the attribute m of the class x is the def at its address -/
def clfnB (x m : Str) (K : Fr) : Bool := (Fa.glo x).ok K && (PySem.W.readsIn K (ga K x) (.type "type") && (decide (PySem.W.specialIn K (.ref (ga K x)) "__getattribute__" = some (some (.builtin "type.__getattribute__"))) && ((match PySem.W.findCls K (.ref (ga K x)) (.type "type") m with
  | some (.val u) => decide (u = .ref (fAd K (x, some m)))
  | _ => false) && PySem.W.keepIn K (.ref (fAd K (x, some m))))))
structure ClFn (K : Fr) (mg : Str → Option Value) (x m : Str) : Prop where
  mg_ : mg x = some (.ref (ga K x))
  rd : ClX.CRead K (ga K x) (.type "type")
  cv : ClX.CVal K (ga K x) (.type "type") m (.ref (fAd K (x, some m))) (.ref (fAd K (x, some m)))
  kp : PySem.W.keepIn K (.ref (fAd K (x, some m))) = true
theorem clfn_ok {K : Fr} {h : Heap} {mg : Str → Option Value} (X : K.In h) (G : h.Ns mainGlobals mg) {x m : Str} (b : clfnB x m K = true) : ClFn K mg x m := by
  obtain ⟨b1, b⟩ := ba b
  obtain ⟨b2, b⟩ := ba b
  obtain ⟨b3, b⟩ := ba b
  obtain ⟨b4, b5⟩ := ba b
  refine ⟨glo_ok X G b1, ⟨b2, of_decide_eq_true b3⟩, ⟨?_, rfl⟩, b5⟩
  split at b4
  · rename_i u e
    rw [e, of_decide_eq_true b4]
  · cases b4
/-- what raising x asks: its class, its __init__ -/
def exB (x f : Str) (K : Fr) : Bool := (Fa.glo x).ok K && (oexB (ga K x) K && (decide (PySem.W.findIn K (.ref (ga K x)) "__init__" = some (some (.ref (fAd K (x, some "__init__"))))) && (decide (PySem.W.typeIn K (.ref (fAd K (x, some "__init__"))) = some (.type "function")) && decide (PySem.W.findIn K (.ref (ga K x)) f = some none))))
structure ExA (K : Fr) (mg : Str → Option Value) (x f : Str) : Prop where
  mg_ : mg x = some (.ref (ga K x))
  ox : OexC K (ga K x)
  i1 : PySem.W.findIn K (.ref (ga K x)) "__init__" = some (some (.ref (fAd K (x, some "__init__"))))
  i2 : PySem.W.typeIn K (.ref (fAd K (x, some "__init__"))) = some (.type "function")
  no : PySem.W.findIn K (.ref (ga K x)) f = some none
theorem ex_ok {K : Fr} {h : Heap} {mg : Str → Option Value} (X : K.In h) (G : h.Ns mainGlobals mg) {x f : Str} (b : exB x f K = true) : ExA K mg x f := by
  obtain ⟨b1, b⟩ := ba b
  obtain ⟨b2, b⟩ := ba b
  obtain ⟨b3, b⟩ := ba b
  obtain ⟨b4, b5⟩ := ba b
  exact ⟨glo_ok X G b1, oex_ok b2, of_decide_eq_true b3, of_decide_eq_true b4, of_decide_eq_true b5⟩
theorem exc_ok {ci : Nat → String × List String} {P : Program} {w : World} {K : Fr} {mg : Str → Option Value} {base : Heap} {x f : Str} {c : Nat} {fd : FuncData} {ps : List Str} (a : ExA K mg x f) (hx : Str.ofString (ci c).1 = x) (hf : (ci c).2.map Str.ofString = [f]) (F : L2.FnOk P w K mg base (L2.CX P w) 3 (fAd K (x, some "__init__")) fd ps (spExc K (ga K x) f)) (hb : Binds K fd ps []) : ExcC ci P w K mg base c f :=
  ⟨ga K x, a.ox, by rw [hx]; exact a.mg_, hf, _, fd, ps, a.i1, a.i2, F, hb⟩
/-! suites -/
theorem ad_eq {mg : Str → Option Value} {x : Str} {C : Addr} (e : mg x = some (.ref C)) : ad mg x = C := by
  unfold ad
  rw [e]
def erB (x : Str) (K : Fr) : Bool := (Fa.glo x).ok K && xfB K (ga K x)
theorem er_ok {ci : Nat → String × List String} {K : Fr} {h : Heap} {mg : Str → Option Value} (X : K.In h) (G : h.Ns mainGlobals mg) {x : Str} {c : Nat} (b : erB x K = true) (hx : Str.ofString (ci c).1 = x) : ErC ci K mg c := by
  obtain ⟨b1, b2⟩ := ba b
  have g := glo_ok X G b1
  have e := ad_eq g
  exact ⟨by rw [hx, e]; exact g, by rw [hx, e]; exact xfB_ok b2⟩
theorem erf_ok {ci : Nat → String × List String} {K : Fr} {h : Heap} {mg : Str → Option Value} (X : K.In h) (G : h.Ns mainGlobals mg) {x f : Str} {c k : Nat} (b0 : (Fa.glo x).ok K = true) (b : (Fa.noat x f).ok K = true) (hx : Str.ofString (ci c).1 = x) (h1 : ((ci c).2.map Str.ofString)[k]? = some f) (h2 : ∀ j, j < k → ((ci c).2.map Str.ofString)[j]? ≠ some f) : ErF ci K mg c f k :=
  ⟨by rw [hx, ad_eq (glo_ok X G b0)]; exact eqO_ok b, h1, h2⟩
theorem gad_ok {K : Fr} {h : Heap} {mg : Str → Option Value} (X : K.In h) (G : h.Ns mainGlobals mg) {x : Str} (b0 : (Fa.glo x).ok K = true) : mg x = some (.ref (ad mg x)) := by
  have g := glo_ok X G b0
  rw [ad_eq g]
  exact g
/-- which classes an except clause takes -/
def exmB (ci : Nat → String × List String) (xs : List Str) (U cs : List Nat) (K : Fr) : Bool := (xs.all fun x => (Fa.glo x).ok K) && U.all fun c => (Fa.glo (Str.ofString (ci c).1)).ok K && (match xs with
  | [x] => decide (PySem.W.exmOne K (.ref (ga K (Str.ofString (ci c).1))) (.ref (ga K x)) = some (decide (c ∈ cs)))
  | xs => decide (PySem.W.exmAny K (.ref (ga K (Str.ofString (ci c).1))) (xs.map fun x => .ref (ga K x)) = some (decide (c ∈ cs))))
section
variable {ci : Nat → String × List String} {K : Fr} {h : Heap} {mg : Str → Option Value} {x x2 x3 : Str} {U cs : List Nat}
theorem exm1_ok (X : K.In h) (G : h.Ns mainGlobals mg) (b : exmB ci [x] U cs K = true) : CMatch ci mg (fun cls => PySem.W.exmOne K cls (.ref (ad mg x))) U cs := by
  obtain ⟨b1, b⟩ := ba b
  have g := glo_ok X G (List.all_eq_true.mp b1 x (by simp))
  intro c hc C e
  obtain ⟨b3, b4⟩ := ba (List.all_eq_true.mp b c hc)
  have g3 := glo_ok X G b3
  rw [e] at g3
  cases g3
  dsimp only
  rw [ad_eq g]
  exact of_decide_eq_true b4
theorem exm2_ok (X : K.In h) (G : h.Ns mainGlobals mg) (b : exmB ci [x, x2] U cs K = true) : CMatch ci mg (fun cls => PySem.W.exmAny K cls [.ref (ad mg x), .ref (ad mg x2)]) U cs := by
  obtain ⟨b1, b⟩ := ba b
  have g := glo_ok X G (List.all_eq_true.mp b1 x (by simp))
  have g2 := glo_ok X G (List.all_eq_true.mp b1 x2 (by simp))
  intro c hc C e
  obtain ⟨b3, b4⟩ := ba (List.all_eq_true.mp b c hc)
  have g3 := glo_ok X G b3
  rw [e] at g3
  cases g3
  dsimp only
  rw [ad_eq g, ad_eq g2]
  exact of_decide_eq_true b4
theorem exm3_ok (X : K.In h) (G : h.Ns mainGlobals mg) (b : exmB ci [x, x2, x3] U cs K = true) : CMatch ci mg (fun cls => PySem.W.exmAny K cls [.ref (ad mg x), .ref (ad mg x2), .ref (ad mg x3)]) U cs := by
  obtain ⟨b1, b⟩ := ba b
  have g := glo_ok X G (List.all_eq_true.mp b1 x (by simp))
  have g2 := glo_ok X G (List.all_eq_true.mp b1 x2 (by simp))
  have g4 := glo_ok X G (List.all_eq_true.mp b1 x3 (by simp))
  intro c hc C e
  obtain ⟨b3, b4⟩ := ba (List.all_eq_true.mp b c hc)
  have g3 := glo_ok X G b3
  rw [e] at g3
  cases g3
  dsimp only
  rw [ad_eq g, ad_eq g2, ad_eq g4]
  exact of_decide_eq_true b4
end
end Fx
end Ev
set_option Elab.async false
set_option linter.all false
set_option maxRecDepth 100000
set_option maxHeartbeats 4000000
/-! repr of data: atoms, lists and tuples within one another -/
namespace L2
open PySem PySem.Spec PyProof.Rows
/-- repr(x), x data at most 20 deep whose text is not too long -/
def rReprD (K : PySem.W.Frag) : List V → Hp → VK → Prop := fun xs H Q => ∃ v p, xs = [v] ∧ Dp K H v p ∧ p.canLay0 = true ∧ p.depth ≤ 20 ∧ p.showable = true ∧ p.shown.length ≤ sizeLine ∧ Q (.str p.shown) H
theorem cr_reprD {X : Cx} (hg : X.A.guards = some []) (hu : X.A.units + 200 < cLine) : CallR X (.builtin "repr") (rReprD X.K) := by
  intro pins s σ H xs us Q I r ⟨v, p, ex, hp, hc, hd, hs, hz, q⟩
  subst ex
  obtain ⟨u, rfl, ru⟩ := r.one
  have far : ∀ a, v = .ref a → wpAny (model X.prog X.w) X.A (call (.builtin "repr") [u]) (EP X pins σ Q) X.xe s := by
    intro a ev
    obtain ⟨as, rd⟩ := Dp.reads I p v u hp ru
    subst ev
    cases (show u = Value.ref a from ru)
    exact repr_of_reads' rd hs (PyData.noDict_hsm (PyData.hasDict_of_canLay p hc)) hg (by omega) (fun _ _ e => e) (fun h' u' tk hk => ⟨.str p.shown, H, I.kept hk, ⟨_, rfl⟩, q⟩) hz
  cases hp with
  | lst _ _ => exact far _ rfl
  | tup _ _ => exact far _ rfl
  | non =>
    cases (show u = Value.none from ru)
    exact PySem.P.repr_of_none ⟨.str _, H, I.tok _, ⟨_, rfl⟩, q⟩
  | bl b =>
    cases (show u = Value.bool b from ru)
    refine PySem.P.repr_of_bool ⟨.str _, H, I.tok _, ⟨s.toks, ?_⟩, q⟩
    cases b <;> rfl
  | int i =>
    obtain ⟨t, rfl⟩ := (show ∃ t, u = Value.int i t from ru)
    exact PySem.P.repr_of_int (by simpa [PyData.showable] using hs) ⟨.str _, H, I.tok _, ⟨_, rfl⟩, q⟩
  | str x =>
    obtain ⟨t, rfl⟩ := (show ∃ t, u = Value.str x t from ru)
    exact PySem.P.repr_of_str ⟨.str _, H, I.tok _, ⟨_, rfl⟩, q⟩ hz
end L2
namespace Ev
open PySem PySem.Spec PyProof.Rows L2
/-- what repr tells of data -/
def reprOf (h : Hs) (x : D) : Option Str := match dat 20 h x with
  | some p => if (p.showable && Nat.ble p.shown.length 16777216 && PyData.strOk p.shown) = true then some p.shown else none
  | none => none
def reprD (xs : List D) (h : Hs) : R D := match xs with
  | [x] => (match reprOf h x with
    | some t => .ok (.str t) h
    | none => .bad)
  | _ => .bad
theorem caj_repr {g : G} : CaJ g (rReprD g.K) reprD := by
  refine ⟨fun W bs h H xs vs Q hr rs p => ?_⟩
  unfold reprD at p
  split at p
  · rename_i x
    cases rs with
    | cons r t =>
      cases t
      unfold reprOf at p
      cases hd : dat 20 h x with
      | none => rw [hd] at p; exact p.elim
      | some d =>
        rw [hd] at p
        obtain ⟨a1, a2, a3⟩ := dat_ok hr 20 hd r
        by_cases c : (d.showable && Nat.ble d.shown.length 16777216 && PyData.strOk d.shown) = true
        · simp only [c, if_true] at p
          rw [Bool.and_eq_true, Bool.and_eq_true] at c
          exact ⟨_, d, rfl, a1, a2, a3, c.1.1, Nat.le_of_ble_eq_true c.1.2, Post.ok_ p hr (.str c.2)⟩
        · simp only [c] at p
          exact p.elim
  · exact p.elim
end Ev
set_option Elab.async false
set_option linter.all false
set_option maxRecDepth 100000
set_option maxHeartbeats 4000000
/-! what raising an own error asks of ValueError -/
namespace Ev
open PySem L2
theorem Room.u200 {k : Nat} {A : Around} (h : Room k A) : A.units + 200 < cLine := by
  have := h.un
  omega
namespace Fx
open He
def veB (K : Fr) : Bool := match PySem.W.findCls K (.type "ValueError") (.type "type") "__init__" with
  | some (.val (.builtin n)) => decide (n = "ValueError.__init__")
  | _ => false
theorem ve_ok {K : Fr} (h : veB K = true) : PySem.W.findCls K (.type "ValueError") (.type "type") "__init__" = some (.val (.builtin "ValueError.__init__")) := by
  unfold veB at h
  split at h
  · rename_i n e
    rw [e, of_decide_eq_true h]
  · cases h
end Fx
end Ev
set_option Elab.async false
set_option linter.all false
set_option maxRecDepth 100000
set_option maxHeartbeats 4000000
/-! data: its text, equal data, data when the heap grows -/
namespace Ev
open PySem L2
theorem strOk_of (s : String) : PyData.strOk (Str.ofString s) = true := by
  unfold PyData.strOk
  rw [Str.ofString_eq_toList]
  simp only [List.all_toArray, List.all_map, List.all_eq_true, Function.comp, decide_eq_true_eq]
  intro c _
  have := c.valid
  unfold UInt32.isValidChar Nat.isValidChar at this
  show c.val.toNat < 0x110000
  omega
/-- may be told in at most n signs -/
structure Rp (p : PyData) (n : Nat) : Prop where
  sh : p.showable = true
  len : p.shown.length ≤ n
  ok : PyData.strOk p.shown = true
theorem Rp.mono {p : PyData} {n m : Nat} (r : Rp p n) (h : n ≤ m) : Rp p m := ⟨r.sh, Nat.le_trans r.len h, r.ok⟩
theorem reprOf_ok {h : Hs} {x : D} {p : PyData} {n : Nat} (e : dat 20 h x = some p) (r : Rp p n) (hn : n ≤ 16777216) : reprOf h x = some p.shown := by
  unfold reprOf
  rw [e]
  dsimp only
  rw [r.sh, r.ok, Nat.ble_eq_true_of_le (Nat.le_trans r.len hn)]
  rfl
theorem reprD_ok {h : Hs} {x : D} {p : PyData} {n : Nat} (e : dat 20 h x = some p) (r : Rp p n) (hn : n ≤ 16777216) : reprD [x] h = .ok (.str p.shown) h := by
  unfold reprD
  dsimp only
  rw [reprOf_ok e r hn]
theorem rp_none : Rp .none 4 := ⟨rfl, by decide +kernel, by decide +kernel⟩
theorem rp_bool (b : Bool) : Rp (.bool b) 5 := by cases b <;> exact ⟨rfl, by decide +kernel, by decide +kernel⟩
theorem rp_int {i : Int} (h : i.natAbs < 1180591620717411303424) : Rp (.int i) 71 := by
  have hl : i.natAbs.log2 < 70 := by
    by_cases h0 : i.natAbs = 0
    · rw [h0]; decide
    · exact (Nat.log2_lt h0).mpr (Nat.lt_of_lt_of_le h (by decide))
  refine ⟨?_, ?_, strOk_of _⟩
  · show decide (i.natAbs.log2 < 1920) = true
    exact decide_eq_true (by omega)
  · show (Str.ofString (toString i)).length ≤ 71
    rw [ofString_length]
    exact int_text_length_le (by decide) hl
/-- a constant text -/
theorem rp_str {x : Str} {n : Nat} (h1 : (reprText x).length ≤ n := by decide +kernel) (h2 : PyData.strOk (reprText x) = true := by decide +kernel) : Rp (.str x) n := ⟨rfl, h1, h2⟩
/-- all of some -/
inductive RpAll (n : Nat) : List PyData → Prop
  | nil : RpAll n []
  | cons {p : PyData} {ps : List PyData} : Rp p n → RpAll n ps → RpAll n (p :: ps)
theorem RpAll.of {n : Nat} : ∀ {ps : List PyData}, (∀ p ∈ ps, Rp p n) → RpAll n ps
  | [], _ => .nil
  | p :: ps, h => .cons (h p List.mem_cons_self) (RpAll.of fun q hq => h q (List.mem_cons_of_mem _ hq))
theorem RpAll.sh {n : Nat} {ps : List PyData} (r : RpAll n ps) : PyData.showableAll ps = true := by
  induction r with
  | nil => rfl
  | cons r _ ih => rw [PyData.showableAll, r.sh, ih]; rfl
theorem RpAll.texts {n : Nat} {ps : List PyData} (r : RpAll n ps) : ∀ (k : Nat) (acc : Str), PyData.strOk acc = true → (textFrom k acc (PyData.shownAll ps)).length ≤ acc.length + ps.length * (n + 2) ∧ PyData.strOk (textFrom k acc (PyData.shownAll ps)) = true := by
  induction r with
  | nil => intro k acc h; exact ⟨by rw [PyData.shownAll]; show acc.length ≤ _; omega, h⟩
  | @cons p ps r _ ih =>
    intro k acc h
    rw [PyData.shownAll]
    show (textFrom (k + 1) (acc ++ (if k > 0 then ", " else "" : String) ++ p.shown) (PyData.shownAll ps)).length ≤ _ ∧ PyData.strOk (textFrom (k + 1) (acc ++ (if k > 0 then ", " else "" : String) ++ p.shown) (PyData.shownAll ps)) = true
    obtain ⟨h1, h2⟩ := ih (k + 1) (acc ++ (if k > 0 then ", " else "" : String) ++ p.shown) (strOk_append (strOk_append h (strOk_of _)) r.ok)
    refine ⟨?_, h2⟩
    have e : (acc ++ (if k > 0 then ", " else "" : String) ++ p.shown).length ≤ acc.length + 2 + n := by
      rw [strLen_append, strLen_append]
      have := r.len
      have : (((if k > 0 then ", " else "" : String) : Str)).length ≤ 2 := by split <;> decide +kernel
      omega
    rw [List.length_cons, Nat.succ_mul]
    omega
theorem RpAll.join {n : Nat} {ps : List PyData} (r : RpAll n ps) : (Str.join ", " (PyData.shownAll ps)).length ≤ ps.length * (n + 2) ∧ PyData.strOk (Str.join ", " (PyData.shownAll ps)) = true := by
  induction r with
  | nil => exact ⟨Nat.le_trans (by decide +kernel : (Str.join ", " (PyData.shownAll [])).length ≤ 0) (Nat.zero_le _), by decide +kernel⟩
  | @cons p ps r r' ih =>
    rw [PyData.shownAll]
    cases r' with
    | nil =>
      rw [PyData.shownAll]
      have := r.len
      exact ⟨by show p.shown.length ≤ _; rw [List.length_cons, List.length_nil]; omega, r.ok⟩
    | @cons q qs r2 r3 =>
      rw [PyData.shownAll] at ih ⊢
      show (p.shown ++ ", " ++ Str.join ", " (q.shown :: PyData.shownAll qs)).length ≤ _ ∧ PyData.strOk (p.shown ++ ", " ++ Str.join ", " (q.shown :: PyData.shownAll qs)) = true
      refine ⟨?_, strOk_append (strOk_append r.ok (strOk_of _)) ih.2⟩
      rw [strLen_append, strLen_append]
      have h1 := r.len
      have h2 := ih.1
      have h3 : ((", " : String) : Str).length = 2 := by decide +kernel
      rw [List.length_cons, Nat.succ_mul]
      omega
theorem shownAll_length : ∀ ps : List PyData, (PyData.shownAll ps).length = ps.length
  | [] => rfl
  | p :: ps => by rw [PyData.shownAll, List.length_cons, List.length_cons, shownAll_length ps]
theorem rp_list {ps : List PyData} {n m : Nat} (h : ∀ p ∈ ps, Rp p n) (hm : ps.length * (n + 2) + 2 ≤ m := by decide) : Rp (.list ps) m := by
  have r := RpAll.of h
  obtain ⟨h1, h2⟩ := r.texts 0 "[" (strOk_of _)
  refine ⟨r.sh, ?_, ?_⟩
  · show (textFrom 0 "[" (PyData.shownAll ps) ++ "]").length ≤ m
    rw [strLen_append]
    have e1 : ((("[" : String) : Str)).length = 1 := by decide +kernel
    have e2 : ((("]" : String) : Str)).length = 1 := by decide +kernel
    omega
  · exact strOk_append h2 (strOk_of _)
theorem rp_tuple {ps : List PyData} {n m : Nat} (h : ∀ p ∈ ps, Rp p n) (hm : ps.length * (n + 2) + 3 ≤ m := by decide) : Rp (.tuple ps) m := by
  have r := RpAll.of h
  obtain ⟨h1, h2⟩ := r.join
  refine ⟨r.sh, ?_, ?_⟩
  · show (("(" : Str) ++ Str.join ", " (PyData.shownAll ps) ++ (if (PyData.shownAll ps).length == 1 then ",)" else ")" : String)).length ≤ m
    rw [strLen_append, strLen_append]
    have e1 : ((("(" : String) : Str)).length = 1 := by decide +kernel
    have e2 : (((if (PyData.shownAll ps).length == 1 then ",)" else ")" : String) : Str)).length ≤ 2 := by split <;> decide +kernel
    omega
  · exact strOk_append (strOk_append (strOk_of _) h2) (strOk_of _)
/-! the heap grows -/
theorem cellL_app {h t : Hs} {n : Nat} {xs : List D} (e : cellL h n = some xs) : cellL (h ++ t) n = some xs := by
  have e1 := cellL_ok e
  have := (List.getElem?_eq_some_iff.mp e1).1
  unfold cellL
  rw [List.getElem?_append_left this, e1]
theorem datAll_imp {f f' : D → Option PyData} : ∀ {xs : List D} {ps : List PyData}, (∀ x p, f x = some p → f' x = some p) → datAll f xs = some ps → datAll f' xs = some ps
  | [], _, _, e => e
  | x :: xs, ps, h, e => by
    rw [datAll] at e ⊢
    cases e1 : f x with
    | none => rw [e1] at e; cases e
    | some y =>
      cases e2 : datAll f xs with
      | none => rw [e1, e2] at e; cases e
      | some ys =>
        rw [e1, e2] at e
        rw [h x y e1, datAll_imp h e2]
        exact e
theorem dat_app {h t : Hs} : ∀ {k : Nat} {d : D} {p : PyData}, dat k h d = some p → dat k (h ++ t) d = some p
  | 0, _, _, e => e
  | k + 1, d, p, e => by
    have step : ∀ {xs : List D} {c : List PyData → PyData}, (datAll (dat k h) xs).map c = some p → (datAll (dat k (h ++ t)) xs).map c = some p := fun {xs c} e => by
      cases e1 : datAll (dat k h) xs with
      | none => rw [e1] at e; cases e
      | some ps => rw [e1] at e; rw [datAll_imp (fun x q => dat_app (d := x) (p := q)) e1]; exact e
    cases d with
    | tup xs => exact step e
    | lst xs => exact step e
    | rol xs => exact step e
    | ref n =>
      have e' : (match cellL h n with
        | some xs => (datAll (dat k h) xs).map PyData.list
        | none => none) = some p := e
      show (match cellL (h ++ t) n with
        | some xs => (datAll (dat k (h ++ t)) xs).map PyData.list
        | none => none) = some p
      cases hc : cellL h n with
      | none => rw [hc] at e'; cases e'
      | some xs =>
        rw [hc] at e'
        rw [cellL_app hc]
        exact step e'
    | _ => exact e
theorem dat_ref {h : Hs} {k n : Nat} {xs : List D} {ps : List PyData} (e : cellL h n = some xs) (e2 : datAll (dat k h) xs = some ps) : dat (k + 1) h (.ref n) = some (.list ps) := by
  show (match cellL h n with
    | some xs => (datAll (dat k h) xs).map PyData.list
    | none => none) = _
  rw [e]
  dsimp only
  rw [e2]
  rfl
theorem dat_lst {h : Hs} {k : Nat} {xs : List D} {ps : List PyData} (e2 : datAll (dat k h) xs = some ps) : dat (k + 1) h (.lst xs) = some (.list ps) := by
  show (datAll (dat k h) xs).map PyData.list = _
  rw [e2]
  rfl
theorem dat_tup {h : Hs} {k : Nat} {xs : List D} {ps : List PyData} (e2 : datAll (dat k h) xs = some ps) : dat (k + 1) h (.tup xs) = some (.tuple ps) := by
  show (datAll (dat k h) xs).map PyData.tuple = _
  rw [e2]
  rfl
theorem datAll_map {α : Type} {f : D → Option PyData} {g : α → D} {q : α → PyData} : ∀ {ls : List α}, (∀ a ∈ ls, f (g a) = some (q a)) → datAll f (ls.map g) = some (ls.map q)
  | [], _ => rfl
  | a :: ls, h => by
    rw [List.map_cons, datAll, h a List.mem_cons_self, datAll_map fun b hb => h b (List.mem_cons_of_mem _ hb)]
    rfl
/-- == of data with one text -/
theorem neD_dat {x y : D} {h : Hs} {p : PyData} (e1 : dat 20 h x = some p) (e2 : dat 20 h y = some p) (hp : p.plain = true) : neD x y h = .ok (.bl false) h := by
  unfold neD
  rw [e1, e2]
  dsimp only
  rw [PySem.SeqAt.eqv_refl_plain p hp]
  rfl
theorem eqD_dat {x y : D} {h : Hs} {p : PyData} (e1 : dat 20 h x = some p) (e2 : dat 20 h y = some p) (hp : p.plain = true) : eqD x y h = .ok (.bl true) h := by
  unfold eqD
  rw [e1, e2]
  dsimp only
  rw [PySem.SeqAt.eqv_refl_plain p hp]
theorem plainAll_ints : ∀ ns : List Int, PyData.plainAll (ns.map PyData.int) = true
  | [] => rfl
  | n :: ns => by rw [List.map_cons, PyData.plainAll, plainAll_ints ns]; rfl
theorem R.Sat.err_of {α : Type} {r : R α} {Q : α → Hs → Prop} {E : Nat → List D → Hs → Prop} (s : R.Sat r Q E) (n : ∀ a h, ¬ Q a h) : ∃ c fs h, r = .err c fs h ∧ E c fs h := by
  cases s with
  | ok q => exact absurd q (n _ _)
  | err e => exact ⟨_, _, _, rfl, e⟩
end Ev
set_option Elab.async false
set_option linter.all false
set_option maxRecDepth 100000
set_option maxHeartbeats 4000000
/-! isinstance of a caught exception that has a dict: the library's kx_classE tells its class -/
namespace L2
open PySem PySem.Spec PyProof.Rows
theorem kitx_exd {K : PySem.W.Frag} {x D : Addr} {ox : Obj} (C : ExcC K D) : PySem.W.KitX K (.ref x) (.ref D) (fun h => ∃ od, PySem.W.InstAt h x ox D od) where
  ty := fun _ _ _ ⟨_, I⟩ => I.type
  it := fun M h X _ A Q E s k q => PySem.W.mc_isType (s := s) (X.keeps k) C.hd A Q E s (fun _ _ z => z) q
  ne := fun h tp dd its n sl X htp => beq_eq_false_iff_ne.mpr fun e => by
    cases e
    obtain ⟨cd, hc, _⟩ := PySem.W.any_some C.hd
    revert hc
    unfold PySem.W.clsIn
    split
    · rename_i ho
      intro _
      exact absurd ((X _ _ ho).symm.trans htp) nofun
    · nofun
  ca := fun X ⟨od, I⟩ k => PySem.W.kx_classE X I C.hg C.hk C.hs (PySem.W.findObj_dataE (by
    obtain ⟨cd, hc, _⟩ := PySem.W.any_some C.hd
    rw [hc]
    rfl) C.ha C.hn C.ht) C.hm k
/-- isinstance(e, c), e the exception that the suite holds, d its dict -/
def rIsX (K : PySem.W.Frag) (D a : Addr) (cls : Value) (d : Option Addr) : List V → Hp → VK → Prop := fun xs H Q => ∃ (c : V) (cv : Value) (b : Bool) (dd : Addr) (fs : List (Str × V)), xs = [.ref a, c] ∧ cls = .ref D ∧ d = some dd ∧ H dd = some (.xd fs) ∧ (∀ u, RelV c u → u = cv) ∧ PySem.W.kitOne K (.ref D) cv = some b ∧ Q (.bl b) H
theorem call_isX {X : Cx} {a D : Addr} {oe : Obj} {cls : Value} {d : Option Addr} {pn : List (Addr × Obj)} (C : ExcC X.K D) (hz : Zc cls d oe) (hf : ∃ vs, oe.data = .fields vs) : CallR (X.suite a ((a, oe) :: pn)) (.builtin "isinstance") (rIsX X.K D a cls d) := by
  rintro pins s σ H xs us Q I r ⟨c, cv, b, dd, fs, rfl, rfl, rfl, ea, hcv, e, q⟩
  obtain ⟨u1, u2, rfl, r1, r2⟩ := vals2 r
  cases (show u1 = Value.ref a from r1)
  cases hcv _ r2
  have ⟨vs, hv⟩ := hf
  have ⟨_, hns, _⟩ := (show ObjOk X.prog X.w H s.heap dd (.xd fs) from I.hok dd _ ea)
  have ⟨od, ho, _⟩ := lookIn_ns hns
  exact PySem.W.kia_one (kitx_exd C) I.kIn ⟨some od, (I.pin (a, oe) (by simp)).1, hz.1, by unfold PySem.W.notCls; rw [hv] <;> rfl, by rw [hz.2]; exact ho⟩ e (fun z => nomatch z) fun tk => ⟨.bl b, H, I.kept (t' := tk) fun _ _ z => z, rfl, q⟩
end L2
namespace Ev
open PySem L2
structure ErI (ci : Nat → String × List String) (K : PySem.W.Frag) (mg : Str → Option Value) (c : Nat) : Prop where
  er : ErC ci K mg c
  ex : L2.ExcC K (ad mg (Str.ofString (ci c).1))
section
variable {ci : Nat → String × List String} {X : Cx} {pos p1 p2 p3 : Pos}
def xIsi (c : Nat) (b : Bool) : Nat → List D → En → Hs → R D := fun c' _ _ h => if c' = c then .ok (.bl b) h else .bad
/-- isinstance(e, C): an own class -/
theorem xej_isiC (j : Nat) {n y : Str} (c c2 : Nat) (b : Bool) (hm : X.mg "isinstance" = none) (r : ErI ci X.K X.mg c) (r2 : X.mg (Str.ofString (ci c2).1) = some (.ref (ad X.mg (Str.ofString (ci c2).1)))) (hk : PySem.W.kitOne X.K (.ref (ad X.mg (Str.ofString (ci c).1))) (.ref (ad X.mg (Str.ofString (ci c2).1))) = some b) (hy : y = Str.ofString (ci c2).1 := by rfl)
    (hN : X.N[j]? = some n := by rfl) (hv : Vis X.env.scope n := by first | exact Or.inl rfl | exact Or.inr (Or.inl rfl) | exact Or.inr (Or.inr rfl)) (hd : (n == ("__debug__" : Str)) = false := by decide) (hcd : (n == ("__classdict__" : Str)) = false := by decide)
    (hg : Gl X "isinstance" := by rfl) (hgx : Gl X y := by rfl) (hxd : (y == ("__debug__" : Str)) = false := by decide)
    (he : ∀ env, starEach [.Name n p2, .Name y p3] env = (false, eval (.Name n p2) env) :: starEach [.Name y p3] env := by exact fun _ => rfl) (hpl : ∀ env, (backTo pos (starEach [.Name y p3] env)).any (·.1) = false := by exact fun _ => rfl) :
    XEJ ci X (some j) (.Call (.Name "isinstance" p1) [.Name n p2, .Name y p3] [] pos) (fun a cls d => tCB (rIsX X.K (ad X.mg (Str.ofString (ci c).1)) a cls d) (tCons (tVar j) (tCons (tC (.ref (ad X.mg (Str.ofString (ci c2).1)))) tNil))) (xIsi c b) := by
  refine ⟨fun a oe cls d pn hz hf => pe_callB (X := X.suite a ((a, oe) :: pn)) (call_isX r.ex hz hf) hg hm (by decide +kernel) (pa_cons (pe_var (X := X.suite a ((a, oe) :: pn)) hN hv hd hcd) (pa_cons (pe_glob (X := X.suite a ((a, oe) :: pn)) (v := .ref (ad X.mg (Str.ofString (ci c2).1))) (u := .ref (ad X.mg (Str.ofString (ci c2).1))) hgx (by rw [hy]; exact r2) rfl hxd) pa_nil) (he _)) (by decide) (by decide) (he _) (hpl _), fun x σ H env h bs Q ga er hr p => ?_⟩
  unfold xIsi at p
  split at p
  · rename_i e
    obtain ⟨xa, xcls, xd, xc, xfs⟩ := x
    dsimp only at *
    subst e
    obtain ⟨e1, dd, fvs, e2, e3, e4, e5⟩ := er_cls (g := X.g ci) r.er ga.er
    exact ⟨.ref xa, ga.at_ j rfl, .ref (ad X.mg (Str.ofString (ci c2).1)), .ref (ad X.mg (Str.ofString (ci c2).1)), b, dd, fvs, rfl, e1, e2, e3, fun u ru => ru, hk, Post.ok_ p hr (.bl b)⟩
  · exact p.elim
/-- .. a built-in one -/
theorem xej_isiB (j : Nat) {n y : Str} (c : Nat) (b : Bool) (T : String) (hm : X.mg "isinstance" = none) (hmx : X.mg y = none) (r : ErI ci X.K X.mg c) (hk : PySem.W.kitOne X.K (.ref (ad X.mg (Str.ofString (ci c).1))) (.type T) = some b) (hb : bootBuiltins y = some (.type T) := by decide +kernel)
    (hN : X.N[j]? = some n := by rfl) (hv : Vis X.env.scope n := by first | exact Or.inl rfl | exact Or.inr (Or.inl rfl) | exact Or.inr (Or.inr rfl)) (hd : (n == ("__debug__" : Str)) = false := by decide) (hcd : (n == ("__classdict__" : Str)) = false := by decide)
    (hg : Gl X "isinstance" := by rfl) (hgx : Gl X y := by rfl) (hxn : y ≠ "__name__" := by decide) (hxd : (y == ("__debug__" : Str)) = false := by decide)
    (he : ∀ env, starEach [.Name n p2, .Name y p3] env = (false, eval (.Name n p2) env) :: starEach [.Name y p3] env := by exact fun _ => rfl) (hpl : ∀ env, (backTo pos (starEach [.Name y p3] env)).any (·.1) = false := by exact fun _ => rfl) :
    XEJ ci X (some j) (.Call (.Name "isinstance" p1) [.Name n p2, .Name y p3] [] pos) (fun a cls d => tCB (rIsX X.K (ad X.mg (Str.ofString (ci c).1)) a cls d) (tCons (tVar j) (tCons (tC (.ty T)) tNil))) (xIsi c b) := by
  refine ⟨fun a oe cls d pn hz hf => pe_callB (X := X.suite a ((a, oe) :: pn)) (call_isX r.ex hz hf) hg hm (by decide +kernel) (pa_cons (pe_var (X := X.suite a ((a, oe) :: pn)) hN hv hd hcd) (pa_cons (pe_bltn (X := X.suite a ((a, oe) :: pn)) hgx hmx hb rfl hxn hxd) pa_nil) (he _)) (by decide) (by decide) (he _) (hpl _), fun x σ H env h bs Q ga er hr p => ?_⟩
  unfold xIsi at p
  split at p
  · rename_i e
    obtain ⟨xa, xcls, xd, xc, xfs⟩ := x
    dsimp only at *
    subst e
    obtain ⟨e1, dd, fvs, e2, e3, e4, e5⟩ := er_cls (g := X.g ci) r.er ga.er
    exact ⟨.ref xa, ga.at_ j rfl, .ty T, .type T, b, dd, fvs, rfl, e1, e2, e3, fun u ru => ru, hk, Post.ok_ p hr (.bl b)⟩
  · exact p.elim
end
namespace Fx
open He
def erIB (x : Str) (K : Fr) : Bool := (Fa.glo x).ok K && (xfB K (ga K x) && (decide (PySem.W.findIn K (.ref (ga K x)) "__class__" = some (some (.builtin "object.__class__"))) && (decide (PySem.W.specialIn K (.builtin "object.__class__") "__get__" = some (some (.builtin "getset_descriptor.__get__"))) &&
  (decide (PySem.W.takesIn K (.builtin "object.__class__") = some true) && decide (PySem.W.mroIn K (ga K x) (.type "object") = some true)))))
theorem eri_ok {ci : Nat → String × List String} {K : Fr} {h : Heap} {mg : Str → Option Value} (X : K.In h) (G : h.Ns mainGlobals mg) {x : Str} {c : Nat} (b : erIB x K = true) (hx : Str.ofString (ci c).1 = x) : ErI ci K mg c := by
  obtain ⟨b1, b⟩ := ba b
  obtain ⟨b2, b⟩ := ba b
  obtain ⟨b3, b⟩ := ba b
  obtain ⟨b4, b⟩ := ba b
  obtain ⟨b5, b6⟩ := ba b
  have g := glo_ok X G b1
  have e := ad_eq g
  have xf := xfB_ok b2
  refine ⟨⟨by rw [hx, e]; exact g, by rw [hx, e]; exact xf⟩, by rw [hx, e]; exact ⟨xf.ga, xf.gg, xf.exC, xf.hdC, of_decide_eq_true b3, of_decide_eq_true b4, of_decide_eq_true b5, of_decide_eq_true b6⟩⟩
def kitB (x : Str) (u : Fr → Value) (b : Bool) (K : Fr) : Bool := (Fa.glo x).ok K && decide (PySem.W.kitOne K (.ref (ga K x)) (u K) = some b)
theorem kit_ok {K : Fr} {h : Heap} {mg : Str → Option Value} (X : K.In h) (G : h.Ns mainGlobals mg) {x : Str} {u : Fr → Value} {b : Bool} (c : kitB x u b K = true) : PySem.W.kitOne K (.ref (ad mg x)) (u K) = some b := by
  obtain ⟨c1, c2⟩ := ba c
  rw [ad_eq (glo_ok X G c1)]
  exact of_decide_eq_true c2
theorem kitC_ok {K : Fr} {h : Heap} {mg : Str → Option Value} (X : K.In h) (G : h.Ns mainGlobals mg) {x y : Str} {b : Bool} (b0 : (Fa.glo y).ok K = true) (c : kitB x (fun K => .ref (ga K y)) b K = true) : PySem.W.kitOne K (.ref (ad mg x)) (.ref (ad mg y)) = some b := by
  have := kit_ok X G c
  rw [ad_eq (glo_ok X G b0)]
  exact this

end Fx
end Ev
set_option Elab.async false
set_option linter.all false
set_option maxRecDepth 100000
set_option maxHeartbeats 4000000
/-! str(int) -/
namespace Ev
open PySem L2
def strTD (xs : List D) (h : Hs) : R D := match xs with
  | [.int i] => if Nat.ble i.natAbs 1180591620717411303423 = true then .ok (.str (Str.ofString (toString i))) h else .bad
  | _ => .bad
theorem caj_strI {g : G} : CaJ g (fun xs H Q => ∃ i, xs = [.int i] ∧ i.natAbs.log2 < 1920 ∧ Q (.str (toString i)) H) strTD := by
  refine ⟨fun W bs h H xs vs Q hr rs p => ?_⟩
  unfold strTD at p
  split at p
  · rename_i i
    split at p
    · rename_i hi
      have hi := Nat.le_of_ble_eq_true hi
      cases rs with
      | cons r t =>
        cases t
        cases r
        refine ⟨i, rfl, ?_, Post.ok_ p hr (.str (strOk_of _))⟩
        by_cases h0 : i.natAbs = 0
        · rw [h0]; decide
        · have : i.natAbs.log2 < 70 := (Nat.log2_lt h0).mpr (Nat.lt_of_le_of_lt hi (by decide))
          omega
    · exact p.elim
  · exact p.elim
theorem strTD_ok {i : Int} {h : Hs} (hi : i.natAbs < 1180591620717411303424) : strTD [.int i] h = .ok (.str (Str.ofString (toString i))) h := by
  show (if Nat.ble i.natAbs 1180591620717411303423 = true then R.ok (D.str (Str.ofString (toString i))) h else .bad) = _
  rw [if_pos (Nat.ble_eq_true_of_le (by omega))]
/-- l.insert(i, y), i not below 0 -/
def insertD (x : D) (xs : List D) (h : Hs) : R D := match x, xs with
  | .ref n, [.int i, y] => match cellL h n with
    | some ys => if ys.length < big ∧ 0 ≤ i ∧ Nat.ble i.natAbs 1000000000 = true then .ok .non (h.set n (.lst (ys.take i.toNat ++ [y] ++ ys.drop i.toNat))) else .bad
    | none => .bad
  | _, _ => .bad
def rInsertL : V → List V → Hp → VK → Prop := fun x vs H Q => ∃ (l : Addr) (xs : List V) (i : Int) (y : V), x = .ref l ∧ vs = [.int i, y] ∧ H l = some (.lst xs) ∧ xs.length < sizeLine ∧ 0 ≤ i ∧ i < 2 ^ 63 ∧ Q .non (upd H l (.lst (xs.take i.toNat ++ [y] ++ xs.drop i.toNat)))
theorem mj_insert {g : G} : MJ g rInsertL insertD := by
  refine ⟨fun W bs h H x vx xs vs Q hr rx rs p => ?_⟩
  unfold insertD at p
  split at p
  · split at p
    · rename_i ys hy
      split at p
      · rename_i hc
        obtain ⟨hl, h0, h1⟩ := hc
        have h1 := Nat.le_of_ble_eq_true h1
        cases rx with
        | @ref _ a hb =>
          cases rs with
          | cons r1 t =>
            cases t with
            | cons r2 t =>
              cases t
              cases r1
              obtain ⟨us, g1, g2⟩ := cell_ok hr hb hy
              exact ⟨a, us, _, _, rfl, rfl, g1, by rw [← g2.length, big_eq]; exact hl, h0, by omega, post_cell hr hb (((g2.take _).append (.cons r2 .nil)).append (g2.drop _)) .non p⟩
      · exact p.elim
    · exact p.elim
  · exact p.elim
end Ev
set_option Elab.async false
set_option linter.all false
set_option maxRecDepth 100000
set_option maxHeartbeats 4000000
/-! The head with its addresses written out: what is looked at is laid once. -/
namespace Ev
namespace Fx
open PySem PySem.W L2 He
def frK {β : Type} (g : Addr → Option Obj) : List Addr → (Fr → β) → β
  | [], k => k []
  | a :: r, k => match g a with
    | some ⟨c, d, t, l⟩ => frK g r fun K => k ((a, ⟨c, d, t, l⟩) :: K)
    | none => frK g r k
theorem frK_eq {β : Type} {g : Addr → Option Obj} : ∀ {as : List Addr} {k : Fr → β}, frK g as k = k (frG g as)
  | [], k => rfl
  | a :: r, k => by
    unfold frK frG
    rw [List.filterMap_cons]
    cases e : g a with
    | none =>
      simp only [Option.map_none]
      exact frK_eq
    | some o =>
      obtain ⟨c, d, t, l⟩ := o
      simp only [Option.map_some]
      exact frK_eq
def obsL (as : List Addr) (fn : List DefD) (fs : List (Fr → Bool)) (g : Addr → Option Obj) : AlZ := frK g as fun K => (obsD [] fn K, allB fs K)
def hookL (as : List Addr) (fn : List DefD) (fs : List (Fr → Bool)) : PySem.W.Hook where
  α := AlZ
  obs := fun s => obsL as fn fs s.heap.get?
  val := fun _ => (valD fn, true)
  says := fun _ h => ∃ K : Fr, K.In h ∧ SaysD [] fn K ∧ allB fs K = true
  of := fun _ s e => by
    have e' : obsL as fn fs s.heap.get? = (valD fn, true) := e
    unfold obsL at e'
    rw [frK_eq] at e'
    exact ⟨_, frG_in, congrArg (fun z : AlZ => z.1) e', congrArg (fun z : AlZ => z.2) e'⟩
  keeps := fun _ _ _ ⟨K, hK, c⟩ k => ⟨K, PySem.W.Frag.In.keeps hK k, c⟩
theorem obsL_eq {as : List Addr} {fn : List DefD} {fs : List (Fr → Bool)} {g : Addr → Option Obj} {s : Shared} (h : ∀ a, g a = s.heap.get? a) : obsL as fn fs g = (hookL as fn fs).obs s := by
  have e : g = s.heap.get? := funext h
  rw [e] <;> rfl
/-- the run's equation, of two looks at the same run -/
theorem run_two {r : PySem.W.OpenRow} {q : Program} {H : PySem.W.Hook} {ob : PySem.W.SharedT → H.α} {M : Nat} {loose : List PySem.Str} {w : World}
    (h1 : ∀ os : OsState, (HandSHeadRun.endF (HandSHeadRun.stepQ (HandSHeadRun.denQ HandSHeadRun.tabQ) r.prog w) M r.prog w os).map (fun s => (HandSHeadRun.looksF r.prog (boot_heap w.params) s.abs, HandSHeadRun.seenQ q loose (importedModules r.prog.main.body) (fun s => PySem.W.xlAt q [] s && PySem.W.recOk r.toRowW.records s) s.abs)) = some (true, PySem.W.openGood q loose))
    (h2 : ∀ os : OsState, (HandSHeadRun.endF (HandSHeadRun.stepQ (HandSHeadRun.denQ HandSHeadRun.tabQ) r.prog w) M r.prog w os).map ob = some (H.val w)) : HandSHeadRun.RunEq r q H ob M loose w := fun os => by
  obtain ⟨s, e, a⟩ := Option.map_eq_some_iff.mp (h1 os)
  obtain ⟨s', e', b⟩ := Option.map_eq_some_iff.mp (h2 os)
  rw [e] at e'
  cases e'
  rw [e, Option.map_some]
  have a1 := congrArg Prod.fst a
  have a2 := congrArg Prod.snd a
  dsimp only at a1 a2
  rw [a1, a2, b]
end Fx
end Ev
set_option Elab.async false
set_option linter.all false
set_option maxRecDepth 100000
set_option maxHeartbeats 4000000
/-! A dict is locked while a statement, an expression goes through its keys. -/
namespace Ev
open PySem L2

def canLk : O → Bool
  | .dct _ _ => true
  | .dn _ _ => true
  | _ => false
section
variable {g : G} {bs bs1 : List Addr} {h h1 : Hs} {H H1 : Hp} {n : Nat} {a : Addr} {o : O} {od : Obj} {u : HO}
theorem lk_mut (hr : HRel g bs h H) (hb : bs[n]? = some a) (ho : h[n]? = some o) (hl : canLk o = true) : ∃ u, H a = some u ∧ Mut (some u) ∧ RepU g bs H a u o := by
  obtain ⟨a', h1, h2⟩ := hr.at_ n o ho
  rw [hb] at h1
  cases h1
  cases o with
  | dct ks ds => obtain ⟨kvs, q1, q2, q3⟩ := h2; exact ⟨_, q1, trivial, kvs, rfl, q2, q3⟩
  | dn ks ds => obtain ⟨es, q1, q2, q3, q4⟩ := h2; exact ⟨_, q1, trivial, es, rfl, q2, q3, q4⟩
  | _ => cases hl
theorem repU_mono (e : Ext bs H bs1 H1) (r : RepU g bs H a u o) : RepU g bs1 H1 a u o := by
  cases o with
  | dct ks ds => obtain ⟨kvs, q1, q2, q3⟩ := r; exact ⟨kvs, q1, q2, q3.mono e⟩
  | dn ks ds => obtain ⟨es, q1, q2, q3, q4⟩ := r; exact ⟨es, q1, q2, q3.mono e, q4.mono e⟩
  | _ => exact r.elim
theorem repU_open (r : RepU g bs H a u o) (e : H a = some u) : RepO g bs H a o := by
  cases o with
  | dct ks ds => obtain ⟨kvs, rfl, q2, q3⟩ := r; exact ⟨kvs, e, q2, q3⟩
  | dn ks ds => obtain ⟨es, rfl, q2, q3, q4⟩ := r; exact ⟨es, e, q2, q3, q4⟩
  | _ => exact r.elim
/-- locked -/
theorem lk_in (hr : HRel g bs h H) (hb : bs[n]? = some a) (r : RepU g bs H a u o) : HRel g bs (h.set n (.lk od u o)) (upd H a (.frz od u)) :=
  hr.cell hb ⟨upd_same, repU_mono (.cell hr hb) r⟩
/-- opened again -/
theorem lk_out (hr : HRel g bs h H) (hb : bs[n]? = some a) (hn : n < h.length) (eu : H a = some u) (e : Ext bs (upd H a (.frz od u)) bs1 H1) (hr1 : HRel g bs1 (h1.set n (.lk od u o)) H1) :
    H1 a = some (.frz od u) ∧ Ext bs H bs1 (upd H1 a u) ∧ HRel g bs1 (h1.set n o) (upd H1 a u) := by
  have hb1 := e.get hb
  have hl1 : n < h1.length := by
    have := hr1.len
    rw [List.length_set] at this
    have := (List.getElem?_eq_some_iff.mp hb1).1
    omega
  obtain ⟨a', g1, g2, g3⟩ := hr1.at_ n _ (List.getElem?_set_self hl1)
  rw [hb1] at g1
  cases g1
  have am : a ∈ bs := List.mem_of_getElem? hb
  refine ⟨g2, ⟨?_, fun b q hq hbn => ?_, fun b q hq => ?_⟩, ?_⟩
  · obtain ⟨⟨more, rfl, hm⟩, _, _⟩ := e
    refine ⟨more, rfl, fun b hbm => ?_⟩
    have z := hm b hbm
    by_cases hz : b = a
    · rw [hz, upd_same] at z; cases z
    · rw [upd_ne hz] at z; exact z
  · have hz : b ≠ a := fun z => hbn (z ▸ am)
    rw [upd_ne hz]
    exact e.keep b q (by rw [upd_ne hz]; exact hq) hbn
  · by_cases hz : b = a
    · exact ⟨u, by rw [hz, upd_same]⟩
    · obtain ⟨q', hq'⟩ := e.cel b q (by rw [upd_ne hz]; exact hq)
      exact ⟨q', by rw [upd_ne hz]; exact hq'⟩
  · have := hr1.cell (ho := u) (o := o) hb1 (repU_open (repU_mono (.cell hr1 hb1) g3) upd_same)
    rw [List.set_set] at this
    exact this
end
def S.setH (r : S) (n : Nat) (o : O) : S := match r with
  | .nx e h => .nx e (h.set n o)
  | .ret d h => .ret d (h.set n o)
  | .brk e h => .brk e (h.set n o)
  | .ct e h => .ct e (h.set n o)
  | _ => .bad
def R.setH (r : R D) (n : Nat) (o : O) : R D := match r with
  | .ok d h => .ok d (h.set n o)
  | _ => .bad
@[simp] theorem S.setH_nx {e : En} {h : Hs} {n : Nat} {o : O} : (S.nx e h).setH n o = .nx e (h.set n o) := rfl
@[simp] theorem S.setH_ret {d : D} {h : Hs} {n : Nat} {o : O} : (S.ret d h).setH n o = .ret d (h.set n o) := rfl
@[simp] theorem R.setH_ok {d : D} {h : Hs} {n : Nat} {o : O} : (R.ok d h).setH n o = .ok d (h.set n o) := rfl
theorem S.setH_setH (r : S) (n : Nat) (o o' : O) : (r.setH n o).setH n o' = r.setH n o' := by
  cases r <;> simp [S.setH]
theorem R.setH_setH (r : R D) (n : Nat) (o o' : O) : (r.setH n o).setH n o' = r.setH n o' := by
  cases r <;> simp [R.setH]
open Classical in
noncomputable def sLock (i : Nat) (f : En → Hs → S) : En → Hs → S := fun env h => match env[i]? with
  | some (some (.ref n)) => match h[n]? with
    | some o => if e : canLk o = true ∧ ∃ r : S, ∀ od u, f env (h.set n (.lk od u o)) = r.setH n (.lk od u o) then (e.2.choose).setH n o else .bad
    | none => .bad
  | _ => .bad
open Classical in
noncomputable def eLock (i : Nat) (f : En → Hs → R D) : En → Hs → R D := fun env h => match env[i]? with
  | some (some (.ref n)) => match h[n]? with
    | some o => if e : canLk o = true ∧ ∃ r : R D, ∀ od u, f env (h.set n (.lk od u o)) = r.setH n (.lk od u o) then (e.2.choose).setH n o else .bad
    | none => .bad
  | _ => .bad
theorem sLock_eq {i n : Nat} {f : En → Hs → S} {env : En} {h : Hs} {o : O} (r : S) (e1 : env[i]? = some (some (.ref n))) (e2 : h[n]? = some o) (hl : canLk o = true) (hf : ∀ od u, f env (h.set n (.lk od u o)) = r.setH n (.lk od u o)) : sLock i f env h = r.setH n o := by
  have ex : canLk o = true ∧ ∃ r : S, ∀ od u, f env (h.set n (.lk od u o)) = r.setH n (.lk od u o) := ⟨hl, r, hf⟩
  unfold sLock
  rw [e1]
  dsimp only
  rw [e2]
  dsimp only
  rw [dif_pos ex]
  have z := (ex.2.choose_spec default (.lst [])).symm.trans (hf default (.lst []))
  have z2 := congrArg (fun r => S.setH r n o) z
  simp only [S.setH_setH] at z2
  exact z2
theorem eLock_eq {i n : Nat} {f : En → Hs → R D} {env : En} {h : Hs} {o : O} (r : R D) (e1 : env[i]? = some (some (.ref n))) (e2 : h[n]? = some o) (hl : canLk o = true) (hf : ∀ od u, f env (h.set n (.lk od u o)) = r.setH n (.lk od u o)) : eLock i f env h = r.setH n o := by
  have ex : canLk o = true ∧ ∃ r : R D, ∀ od u, f env (h.set n (.lk od u o)) = r.setH n (.lk od u o) := ⟨hl, r, hf⟩
  unfold eLock
  rw [e1]
  dsimp only
  rw [e2]
  dsimp only
  rw [dif_pos ex]
  have z := (ex.2.choose_spec default (.lst [])).symm.trans (hf default (.lst []))
  have z2 := congrArg (fun r => R.setH r n o) z
  simp only [R.setH_setH] at z2
  exact z2
section
variable {ci : Nat → String × List String} {X : Cx} {W : WX} {st : Stmt} {e : Expr} {t : TS} {te : TE} {f : En → Hs → S} {fe : En → Hs → R D}
theorem sj_lock (i : Nat) (hj : SJ ci X W st t f) : SJ ci X W st (tLock t) (sLock i f) :=
  ⟨ps_lock hj.ps, fun σ H env h bs E er hr p => by
    unfold sLock at p
    split at p
    · rename_i n hi
      split at p
      · rename_i o ho
        split at p
        · rename_i ex
          obtain ⟨v, hv, rv⟩ := er.at_ i _ hi
          cases rv with
          | @ref _ a hb =>
            obtain ⟨u, eu, mu, ru⟩ := lk_mut hr hb ho ex.1
            have hn := (List.getElem?_eq_some_iff.mp ho).1
            refine ⟨a, u, eu, mu, fun od => ?_⟩
            have e0 : Ext bs H bs (upd H a (.frz od u)) := .cell hr hb
            refine hj.sim σ _ env _ bs _ (er.mono e0) (lk_in hr hb ru) ?_
            rw [ex.2.choose_spec od u]
            cases hc : ex.2.choose with
            | nx e1 h1 =>
              rw [hc] at p
              intro bs1 H1 σ1 e hr1 er1
              obtain ⟨g1, g2, g3⟩ := lk_out hr hb hn eu e hr1
              exact ⟨g1, p bs1 _ σ1 g2 g3 (er1.mono (.cell hr1 (e.get hb)))⟩
            | ret d h1 =>
              rw [hc] at p
              intro bs1 H1 v1 e hr1 r1
              obtain ⟨g1, g2, g3⟩ := lk_out hr hb hn eu e hr1
              exact ⟨g1, p bs1 _ v1 g2 g3 (r1.mono (.cell hr1 (e.get hb)))⟩
            | brk e1 h1 =>
              rw [hc] at p
              intro bs1 H1 σ1 e hr1 er1
              obtain ⟨g1, g2, g3⟩ := lk_out hr hb hn eu e hr1
              exact ⟨g1, p bs1 _ σ1 g2 g3 (er1.mono (.cell hr1 (e.get hb)))⟩
            | ct e1 h1 =>
              rw [hc] at p
              intro bs1 H1 σ1 e hr1 er1
              obtain ⟨g1, g2, g3⟩ := lk_out hr hb hn eu e hr1
              exact ⟨g1, p bs1 _ σ1 g2 g3 (er1.mono (.cell hr1 (e.get hb)))⟩
            | err c fs e1 h1 => rw [hc] at p; exact p.elim
            | bad => rw [hc] at p; exact p.elim
        · exact p.elim
      · exact p.elim
    · exact p.elim⟩
theorem ej_lock (i : Nat) (hj : EJ ci X W e te fe) : EJ ci X W e (tLockE te) (eLock i fe) :=
  ⟨pe_lock hj.pe, fun σ H env h bs Q er hr p => by
    unfold eLock at p
    split at p
    · rename_i n hi
      split at p
      · rename_i o ho
        split at p
        · rename_i ex
          obtain ⟨v, hv, rv⟩ := er.at_ i _ hi
          cases rv with
          | @ref _ a hb =>
            obtain ⟨u, eu, mu, ru⟩ := lk_mut hr hb ho ex.1
            have hn := (List.getElem?_eq_some_iff.mp ho).1
            refine ⟨a, u, eu, mu, fun od => ?_⟩
            have e0 : Ext bs H bs (upd H a (.frz od u)) := .cell hr hb
            refine hj.sim σ _ env _ bs _ (er.mono e0) (lk_in hr hb ru) ?_
            rw [ex.2.choose_spec od u]
            cases hc : ex.2.choose with
            | ok d h1 =>
              rw [hc] at p
              intro bs1 H1 v1 e hr1 r1
              obtain ⟨g1, g2, g3⟩ := lk_out hr hb hn eu e hr1
              exact ⟨g1, p bs1 _ v1 g2 g3 (r1.mono (.cell hr1 (e.get hb)))⟩
            | err c fs h1 => rw [hc] at p; exact p.elim
            | bad => rw [hc] at p; exact p.elim
        · exact p.elim
      · exact p.elim
    · exact p.elim⟩
end
/-! ### the keys of a locked dict -/
def keyV : Key → D
  | .inl i => .int i
  | .inr s => .str s
/-- texts among the keys stand well -/
def keysOk (ks : List Key) : Bool := ks.all fun k => match k with
  | .inl _ => true
  | .inr s => PyData.strOk s
def keysD (x : D) (h : Hs) : R Src := match x with
  | .ref n => match h[n]? with
    | some (.lk od u (.dct ks ds)) => if keysOk ks = true then .ok (ks.map keyV, [(n, .lk od u (.dct ks ds))]) h else .bad
    | _ => .bad
  | _ => .bad
def iKeysS (fd : En → Hs → R D) : En → Hs → R Src := fun env h => (fd env h).bind keysD
theorem keyV_rep {g : G} {bs : List Addr} {H : Hp} : ∀ {k : Key}, keysOk [k] = true → Rep g bs H (keyV k) (kV k)
  | .inl i, _ => .int i
  | .inr s, h => .str (by simpa [keysOk] using h)
theorem feeds_K {g : G} {bs0 : List Addr} {H0 : Hp} {a : Addr} {od : Obj} {kvs : List (Key × V)} {n : Nat} {ks : List Key} {ds : List D} (hb : bs0[n]? = some a) (hk : kvs.map (·.1) = ks) (ho : keysOk ks = true) :
    Feeds g bs0 H0 (Itk a od kvs) (ks.map keyV) [(n, .lk od (.dK kvs) (.dct ks ds))] := by
  intro bs h H e hr kp
  obtain ⟨a', g1, g2, _⟩ := hr.at_ n _ kp.1
  rw [e.get hb] at g1
  cases g1
  refine ⟨fun i d hi => ?_, ⟨g2, by rw [List.length_map, ← hk, List.length_map]; exact Nat.le_refl _⟩⟩
  subst hk
  rw [List.map_map, List.getElem?_map] at hi
  cases hkv : kvs[i]? with
  | none => rw [hkv] at hi; cases hi
  | some kv =>
    rw [hkv] at hi
    cases hi
    refine ⟨⟨g2, (List.getElem?_eq_some_iff.mp hkv).1⟩, fun x H' y => ?_⟩
    obtain ⟨rfl, k, v, hkv', rfl⟩ := y
    rw [hkv] at hkv'
    cases hkv'
    have hm : k ∈ kvs.map (·.1) := List.mem_map.mpr ⟨_, List.mem_of_getElem? hkv, rfl⟩
    exact ⟨.refl, hr, keyV_rep (by
      have := List.all_eq_true.mp ho k hm
      show List.all [k] _ = true
      simp only [List.all_cons, List.all_nil, Bool.and_true]
      exact this)⟩
section
variable {ci : Nat → String × List String} {X : Cx} {W : WX} {tg e : Expr} {te : TE} {fe : En → Hs → R D}
/-- for k in d, d a locked dict -/
theorem ij_keys (he : EJ ci X W e te fe) : IJ ci X W tg e (iKeys te) (iKeysS fe) :=
  ⟨pi_keys he.pe, fun σ H env h bs Q er hr p => he.sim.step er hr p fun x vx bs1 H1 h1 e1 hr1 er1 rx p1 => by
    unfold keysD at p1
    split at p1
    · rename_i n
      split at p1
      · rename_i od u ks ds hx
        split at p1
        · rename_i ho
          cases rx with
          | @ref _ a hb =>
            obtain ⟨a', g1, g2, kvs, rfl, g3, g4⟩ := hr1.at_ n _ hx
            rw [hb] at g1
            cases g1
            exact ⟨a, od, rfl, .inl ⟨kvs, g2, Post.ok_ p1 hr1 (feeds_K hb g3 ho)⟩⟩
        · exact p1.elim
      · exact p1.elim
    · exact p1.elim⟩
end
/-! ### dict(list of pairs) -/
def pairK : D → Option (Key × D)
  | .tup [k, d] => (keyD k).map fun k => (k, d)
  | _ => none
def pairsK : List D → Option (List (Key × D))
  | [] => some []
  | x :: xs => match pairK x, pairsK xs with
    | some p, some ps => some (p :: ps)
    | _, _ => none
/-- pairs told one by one -/
def mergeD (ks : List Key) (ds : List D) : List (Key × D) → List Key × List D
  | [] => (ks, ds)
  | p :: ps => mergeD (putKD ks ds p.1 p.2).1 (putKD ks ds p.1 p.2).2 ps
def dictD (xs : List D) (h : Hs) : R D := match xs with
  | [x] => match rdL h x with
    | some ys => match pairsK ys with
      | some ps => .ok (.ref h.length) (h ++ [.dct (mergeD [] [] ps).1 (mergeD [] [] ps).2])
      | none => .bad
    | none => .bad
  | _ => .bad
theorem merge_ok {g : G} {bs : List Addr} {H : Hp} : ∀ {ps : List (Key × D)} {pvs : List (Key × V)} {kvs : List (Key × V)} {ks : List Key} {ds : List D}, kvs.map (·.1) = ks → Reps g bs H ds (kvs.map (·.2)) → ps.map (·.1) = pvs.map (·.1) → Reps g bs H (ps.map (·.2)) (pvs.map (·.2)) →
    (mergeK kvs pvs).map (·.1) = (mergeD ks ds ps).1 ∧ Reps g bs H (mergeD ks ds ps).2 ((mergeK kvs pvs).map (·.2))
  | [], [], kvs, ks, ds, h1, h2, _, _ => ⟨h1, h2⟩
  | [], _ :: _, _, _, _, _, _, h3, _ => by simp at h3
  | _ :: _, [], _, _, _, _, _, h3, _ => by simp at h3
  | p :: ps, q :: pvs, kvs, ks, ds, h1, h2, h3, h4 => by
    simp only [List.map_cons, List.cons.injEq] at h3
    cases h4 with
    | cons r1 r2 =>
      have z := put_ok (k := p.1) h1 h2 r1
      have := merge_ok (kvs := putK kvs q.1 q.2) (ks := (putKD ks ds p.1 p.2).1) (ds := (putKD ks ds p.1 p.2).2) (by rw [← h3.1]; exact z.1) (by rw [← h3.1]; exact z.2) h3.2 r2
      exact this
theorem pairs_ok {g : G} {bs : List Addr} {H : Hp} : ∀ {ys : List D} {vs : List V} {ps : List (Key × D)}, pairsK ys = some ps → Reps g bs H ys vs → ∃ (as : List Addr) (pvs : List (Key × V)), vs = as.map V.ref ∧ Paired (fun p kv => SqT g.K H p [kV kv.1, kv.2]) as pvs ∧ ps.map (·.1) = pvs.map (·.1) ∧ Reps g bs H (ps.map (·.2)) (pvs.map (·.2))
  | [], _, _, e, r => by cases e; cases r; exact ⟨[], [], rfl, .nil, rfl, .nil⟩
  | y :: ys, _, _, e, r => by
    cases r with
    | cons r1 r2 =>
      unfold pairsK at e
      split at e
      · rename_i p ps h1 h2
        cases e
        obtain ⟨as, pvs, rfl, g1, g2, g3⟩ := pairs_ok h2 r2
        unfold pairK at h1
        split at h1
        · rename_i k d
          obtain ⟨k', hk, rfl⟩ := Option.map_eq_some_iff.mp h1
          cases r1 with
          | @tup a vs ds t rs =>
            cases rs with
            | cons rk rs =>
              cases rs with
              | cons rd rs =>
                cases rs
                cases key_ok rk hk
                exact ⟨a :: as, (k', _) :: pvs, rfl, .cons t.sq g1, by simp [g2], .cons rd g3⟩
        · cases h1
      · cases e
abbrev rDictP (K : PySem.W.Frag) : List V → Hp → VK → Prop := fun xs H Q => ∃ (a : Addr) (ps : List Addr) (kvs : List (Key × V)), xs = [.ref a] ∧ SqL K H a (ps.map V.ref) ∧ Paired (fun p kv => SqT K H p [kV kv.1, kv.2]) ps kvs ∧
    ∀ p, H p = none → Q (.ref p) (upd H p (.dK (mergeK [] kvs)))
theorem caj_dict {g : G} : CaJ g (rDictP g.K) dictD := by
  refine ⟨fun W bs h H xs vs Q hr rs p => ?_⟩
  unfold dictD at p
  split at p
  · split at p
    · rename_i ys hy
      split at p
      · rename_i ps hp
        cases rs with
        | cons r t =>
          cases t
          obtain ⟨a, us, rfl, hs, rs⟩ := rdL_ok hr r hy
          obtain ⟨as, pvs, rfl, g1, g2, g3⟩ := pairs_ok hp rs
          refine ⟨a, as, pvs, rfl, hs, g1, fun q hq => ?_⟩
          have z := merge_ok (g := g) (bs := bs) (H := H) (kvs := []) (ks := []) (ds := []) rfl .nil g2 g3
          exact p (bs ++ [q]) _ _ (.newM hq) (hr.newM hq ⟨_, upd_same, z.1, z.2.mono (.newM hq)⟩) (.ref (by rw [List.getElem?_append_right (by rw [hr.len]; exact Nat.le_refl _), hr.len, Nat.sub_self]; rfl))
      · exact p.elim
    · exact p.elim
  · exact p.elim
end Ev
set_option Elab.async false
set_option linter.all false
set_option maxRecDepth 100000
set_option maxHeartbeats 4000000
namespace Ev
open PySem L2
/-- a, b, c = e1, e2, e3 -/
def sPar3 (i j l : Nat) (fa : En → Hs → R (List D)) : En → Hs → S := fun env h => (fa env h).toS env fun xs h1 => match xs with
  | [x, y, z] => .nx (((env.set i (some x)).set j (some y)).set l (some z)) h1
  | _ => .bad
@[simp] theorem sPar3_ap {i j l : Nat} {fa : En → Hs → R (List D)} {env : En} {h : Hs} : sPar3 i j l fa env h = (fa env h).toS env fun xs h1 => match xs with
  | [x, y, z] => .nx (((env.set i (some x)).set j (some y)).set l (some z)) h1
  | _ => .bad := rfl
section
variable {ci : Nat → String × List String} {X : Cx} {W : WX} {pos : Pos}
theorem sj_par3 {i j l : Nat} {x y z : Str} {a b c : Expr} {ta : TA} {fa : En → Hs → R (List D)} {px py pz pt : Pos} {kt k2 pt2} (hc : X.calm = true) (hN : X.N.Nodup) (ha : AJ ci X W [a, b, c] ta fa)
    (hi : X.N[i]? = some x := by rfl) (hj : X.N[j]? = some y := by rfl) (hl : X.N[l]? = some z := by rfl) (hij : i ≠ j := by decide) (hil : i ≠ l := by decide) (hjl : j ≠ l := by decide)
    (hx : X.env.scope.names.lookup x = some .local := by rfl) (hy : X.env.scope.names.lookup y = some .local := by rfl) (hz : X.env.scope.names.lookup z = some .local := by rfl)
    (hw : swappedStores [.Tuple [.Name x px, .Name y py, .Name z pz] kt pt] (.Tuple [a, b, c] k2 pt2) X.env = pure (some [x, y, z]) := by rfl)
    (hs : swapsWithSole [.Tuple [.Name x px, .Name y py, .Name z pz] kt pt] (.Tuple [a, b, c] k2 pt2) pos.line X.env = pure false := by rfl) :
    SJ ci X W (.Assign [.Tuple [.Name x px, .Name y py, .Name z pz] kt pt] (.Tuple [a, b, c] k2 pt2) pos) (tPar3 i j l ta) (sPar3 i j l fa) :=
  ⟨ps_par3 hc hN hi hj hl hij hil hjl hx hy hz ha.pa hw hs, fun σ H env h bs E er hr p => ha.sim.stepS er hr p fun xs vs bs1 H1 h1 e1 hr1 er1 rs p1 => by
    split at p1
    · cases rs with
      | cons r1 t =>
        cases t with
        | cons r2 t =>
          cases t with
          | cons r3 t =>
            cases t
            exact ⟨_, _, _, rfl, p1 bs1 H1 _ .refl hr1 (((er1.set r1 i).set r2 j).set r3 l)⟩
    · exact p1.elim⟩
end
end Ev
set_option Elab.async false
set_option linter.all false
set_option maxRecDepth 100000
set_option maxHeartbeats 4000000
namespace Ev
open PySem L2
/-- for i in range(e), e drawn -/
theorem sat_forR {fa : En → Hs → R (List D)} {k : D → En → Option En} {f : En → Hs → S} {P : Pq} {env : En} {h : Hs}
    (s : R.Sat (fa env h) (fun xs h1 => ∃ m : Nat, m < 1000000 ∧ xs = [.int (m : Int)] ∧ ∃ I : Nat → En → Hs → Prop, I 0 env h1 ∧ (∀ i e h', i < m → I i e h' → ∃ e1, k (.int (i : Int)) e = some e1 ∧ S.Sat (f e1 h') ⟨I (i + 1), P.rt, P.nx, I (i + 1), P.er⟩) ∧ ∀ e h', I m e h' → P.nx e h') (fun c fs h => P.er c fs env h)) : S.Sat (sFor (iRange1 fa) k f env h) P := by
  revert s
  cases e : fa env h with
  | bad => simp
  | err c fs h1 =>
    intro z
    rw [R.sat_err] at z
    unfold sFor iRange1
    rw [e]
    simpa using z
  | ok xs h1 =>
    rw [R.sat_ok]
    rintro ⟨m, hm, rfl, I, i0, hx, hE⟩
    refine sat_for I (iRange1_ok e hm) (fun i x e hh hy hi => ?_) (fun e hh hi => hE e hh (by simpa using hi)) i0
    have hi4 : i < m := by
      have := (List.getElem?_eq_some_iff.mp hy).1
      simpa using this
    have hx' : x = .int (i : Int) := by
      rw [List.getElem?_map, List.getElem?_range hi4] at hy
      exact (Option.some.inj hy).symm
    subst hx'
    exact hx i e hh hi4 hi
end Ev
set_option Elab.async false
set_option linter.all false
set_option maxRecDepth 100000
set_option maxHeartbeats 4000000
/-! Texts: str, repr of instances with such methods; f-strings. -/
namespace TxX
open PySem PySem.Spec PyProof.Rows
section
variable {prog : Program} {w : World} {A : Around} {E : Value → Shared → Prop} {s : Shared} {K : PySem.W.Frag} {x C f : Addr} {ox : Obj} {od : Option Obj}
theorem repr_obj {Q : Value → Shared → Prop} (hu : A.units < cLine) (X : K.In s.heap) (I : PySem.W.InstAt s.heap x ox C od) (hs : PySem.W.findIn K (.ref C) "__repr__" = some (some (.ref f))) (hf : PySem.W.isFn K (.ref f) = true)
    (h : wpAny (model prog w) A (call (.ref f) [.ref x]) (fun r s₁ => ∃ m tk, r = Value.str m tk ∧ Q r s₁) E s) : wpAny (model prog w) A (pyReprObj (.ref x)) Q E s := by
  unfold pyReprObj
  refine wpAny_bind (m := cRoomFor _ _) (wpAny_cRoomFor hu ?_)
  refine wpAny_bind (m := specialOf (.ref x) (Str.ofString "__repr__")) ?_
  unfold specialOf
  refine wpAny_bind (I.type.here ((PySem.W.looks_findIn X hs).here ?_))
  show wpAny _ _ (if (some (Value.ref f)).isNone = true then _ else _) _ _ _
  rw [if_neg (by simp)]
  refine wpAny_bind (m := callSpecialIfBound? (.ref x) (Str.ofString "__repr__") _) (PySem.W.ifBound_K X I hs hf (wpAny_mono h (fun r s' hr => ?_) fun _ _ y => y))
  obtain ⟨m, tk, rfl, hq⟩ := hr
  refine wpAny_bind (wpAny_isInstance (T := "str") (b := true) (typeIs_str _ _ _) isSubtype_str_str ?_)
  first
    | exact wpAny_pure hq
    | (rw [if_pos rfl]; exact wpAny_pure hq)
    | (simp only [if_true]; exact wpAny_pure hq)
theorem repr_call {Q : Value → Shared → Prop} (hu : A.in1.units < cLine) (X : K.In s.heap) (I : PySem.W.InstAt s.heap x ox C od) (hs : PySem.W.findIn K (.ref C) "__repr__" = some (some (.ref f))) (hf : PySem.W.isFn K (.ref f) = true)
    (h : wpAny (model prog w) A.in1 (call (.ref f) [.ref x]) (fun r s₁ => ∃ m tk, r = Value.str m tk ∧ Q r s₁) E s) : wpAny (model prog w) A (call (.builtin "repr") [.ref x]) Q E s := by
  refine Calls.call_function_entry F.kind_repr F.plain_repr F.entry_repr (F.args_repr1 _) ?_
  unfold Builtin.«repr»
  refine wpAny_bind (m := oneArg "repr" _) (wpAny_pure ?_)
  refine wpAny_bind (wpAny_cRoomFor hu ?_)
  refine wpAny_bind (m := specialOf (.ref x) (Str.ofString "__repr__")) ?_
  unfold specialOf
  refine wpAny_bind (I.type.here ((PySem.W.looks_findIn X hs).here ?_))
  show wpAny _ _ (if (some (Value.ref f)).isNone = true then _ else _) _ _ _
  rw [if_neg (by simp)]
  refine wpAny_bind (m := callSpecialIfBound? (.ref x) (Str.ofString "__repr__") _) (PySem.W.ifBound_K X I hs hf (wpAny_mono h (fun r s' hr => ?_) fun _ _ y => y))
  obtain ⟨m, tk, rfl, hq⟩ := hr
  refine wpAny_bind (wpAny_isInstance (typeIs_str _ _ _) isSubtype_str_str ?_)
  first
    | exact wpAny_pure ⟨_, rfl, hq⟩
    | (rw [if_pos rfl]; exact wpAny_pure ⟨_, rfl, hq⟩)
    | (simp only [if_true]; exact wpAny_pure ⟨_, rfl, hq⟩)
end
end TxX
namespace Ev
open PySem PySem.Spec PyProof.Rows L2
/-! ### a text by a method of one's own -/
/-- the class c has its own m (__str__, __repr__); {x} goes by object.__format__ -/
def TxC (ci : Nat → String × List String) (P : Program) (w : World) (K : PySem.W.Frag) (mg : Str → Option Value) (base : Heap) (c : Nat) (m : Str) (k : Nat) (F : List D → List D → Hs → R D) : Prop :=
  ∃ C f, mg (Str.ofString (ci c).1) = some (.ref C) ∧ PySem.W.findIn K (.ref C) m = some (some (.ref f)) ∧ PySem.W.isFn K (.ref f) = true ∧ PySem.W.findIn K (.ref C) "__format__" = some (some (.builtin "object.__format__")) ∧ PySem.W.mroIn K C (.type "object") = some true ∧ FnC ci P w K mg base k f [] F
def rTxC (g : G) (c : Nat) (F : List D → List D → Hs → R D) (v : V) (H : Hp) (Q : VK) : Prop := ∃ C a dx fs, IsCls g c C ∧ v = .ref a ∧ H a = some (.ins C dx fs) ∧ Asks g (fun _ _ _ => False) F [v] [] H fun v H' => (∃ b : Str, v = .str b ∧ b.length ≤ sizeLine) ∧ Q v H'
def txOwn (c : Nat) (F : List D → List D → Hs → R D) (x : D) (h : Hs) : R D := if isIns c x h = true then ((F [x] [] h).nerr).bind fun d h1 => (match d with
    | .str b => if Nat.ble b.length 16777216 = true then .ok (.str b) h1 else .bad
    | _ => .bad) else .bad
theorem tx_own {g : G} {c : Nat} {F : List D → List D → Hs → R D} {W : Value → Option Addr → Hp → Prop} {bs : List Addr} {h : Hs} {H : Hp} {x : D} {v : V} {Q : VK} (hr : HRel g bs h H) (r : Rep g bs H x v) (p : Post (relV g) g W bs H (txOwn c F x h) Q) : rTxC g c F v H Q := by
  unfold txOwn at p
  split at p
  · rename_i hi
    obtain ⟨a, C, dx, fs, n, rfl, c1, c2, c3⟩ := isIns_ok hr r hi
    refine ⟨C, a, dx, fs, c1, rfl, c2, bs, h, [x], [], hr, .cons r .nil, .nil, ?_⟩
    refine Post.step (relA := relV g) (relC := relV g) (W := W) (r := (F [x] [] h).nerr) (M := fun Q' => Post (relV g) g (fun _ _ _ => False) bs H (F [x] [] h) Q') (fun Q' q => post_nerr q) p fun z vz bs1 H1 h1 e1 hr1 rz p1 => ?_
    cases rz with
    | @str b hb =>
      dsimp only at p1
      split at p1
      · rename_i hl
        exact ⟨⟨b, rfl, Nat.le_of_ble_eq_true hl⟩, Post.ok_ p1 hr1 (.str hb)⟩
      · exact p1.elim
    | _ => exact p1.elim
  · exact p.elim
section
variable {ci : Nat → String × List String} {X : Cx} {W : WX} {c k : Nat} {F : List D → List D → Hs → R D} {pins : List (Addr × Obj)} {σ : L2.St} {H : Hp} {s : Shared} {Q : VK} {v : V} {u : Value}
/-- the method's own call -/
theorem tx_run {C f : Addr} {A : Around} {x : Addr} (hF : FnC ci X.prog X.w X.K X.mg X.base k f [] F) (hr : Room k A) (he : Env0 X.prog X.w X.K X.mg X.base A X.stack s H) (I : Inv X pins σ H s) (q : Asks (X.g ci) (fun _ _ _ => False) F [.ref x] [] H fun v H' => (∃ b : Str, v = .str b ∧ b.length ≤ sizeLine) ∧ Q v H') :
    wpAny (model X.prog X.w) A (call (.ref f) [.ref x]) (fun r s₁ => ∃ (m : Str) (tk : Tok), r = Value.str m tk ∧ m.length ≤ sizeLine ∧ ∃ H', Inv X pins σ H' s₁ ∧ Q (.str m) H') X.xe s := by
  refine wpAny_call (codeAny_mono (hF.run A X.stack s H [.ref x] [] [.ref x] [] _ (fun _ _ _ => False) hr he (.cons rfl .nil) .nil rfl q) fun r s' hq => ?_)
  cases r with
  | error e => exact passAt (takes0 (X := X)) σ pins H s e s' I hq
  | ok fl =>
    cases fl with
    | ret u =>
      obtain ⟨z, H', I', rz, ⟨b, ez, hb⟩, qz⟩ := I.after hq
      subst ez
      obtain ⟨tk, rfl⟩ := rz
      exact ⟨b, tk, rfl, hb, H', I', qz⟩
    | next => exact False.elim hq
    | brk => exact False.elim hq
    | cont => exact False.elim hq
theorem cr_reprOwn (h : TxC ci X.prog X.w X.K X.mg X.base c "__repr__" k F) (hr : Room (k + 2) X.A) : CallR X (.builtin "repr") (fun xs H Q => ∃ v, xs = [v] ∧ rTxC (X.g ci) c F v H Q) := by
  obtain ⟨C, f, h1, h2, h3, _, _, h4⟩ := h
  intro pins s σ H xs us Q I r ⟨v, ex, C', a, dx, fs, hC', ev, ha, q⟩
  subst ex ev
  have hC2 : X.mg (Str.ofString (ci c).1) = some (.ref C') := hC'
  rw [h1] at hC2
  cases hC2
  obtain ⟨u, rfl, ru⟩ := r.one
  cases (show u = Value.ref a from ru)
  obtain ⟨mA, J, _⟩ := ins_get I.hok ha
  obtain ⟨od, J, _⟩ := J.look
  have hr1 : Room (k + 1) X.A.in1 := Room.in1 hr
  refine TxX.repr_call (by have := hr1.un; omega) I.kIn J h2 h3 (wpAny_mono (tx_run (C := C) h4 (hr1.mono (Nat.le_succ _)) I.env0.in1 I q) (fun r s' hq => ?_) fun _ _ y => y)
  obtain ⟨m, tk, rfl, hm, H', I', qz⟩ := hq
  exact ⟨m, tk, rfl, .str m, H', I', ⟨tk, rfl⟩, qz⟩
theorem cr_strOwn (h : TxC ci X.prog X.w X.K X.mg X.base c "__str__" k F) (hr : Room (k + 2) X.A) : CallR X (.type "str") (fun xs H Q => ∃ v, xs = [v] ∧ rTxC (X.g ci) c F v H Q) := by
  obtain ⟨C, f, h1, h2, h3, _, _, h4⟩ := h
  intro pins s σ H xs us Q I r ⟨v, ex, C', a, dx, fs, hC', ev, ha, q⟩
  subst ex ev
  have hC2 : X.mg (Str.ofString (ci c).1) = some (.ref C') := hC'
  rw [h1] at hC2
  cases hC2
  obtain ⟨u, rfl, ru⟩ := r.one
  cases (show u = Value.ref a from ru)
  obtain ⟨mA, J, _⟩ := ins_get I.hok ha
  obtain ⟨od, J, _⟩ := J.look
  have hr2 : Room k X.A.in1.in1 := (show Room (k + 1) X.A.in1 from Room.in1 hr).in1
  refine PySem.W.kso_call (by have := hr2.un; omega) I.kIn J h2 h3 (wpAny_mono (tx_run (C := C) h4 hr2 I.env0.in1.in1 I q) (fun r s' hq => ?_) fun _ _ y => y)
  obtain ⟨m, tk, rfl, hm, H', I', qz⟩ := hq
  exact ⟨.str m, H', I', ⟨tk, rfl⟩, qz⟩
end
def txOwnD (c : Nat) (F : List D → List D → Hs → R D) (xs : List D) (h : Hs) : R D := match xs with
  | [x] => txOwn c F x h
  | _ => .bad
theorem caj_txOwn {g : G} {c : Nat} {F : List D → List D → Hs → R D} : CaJ g (fun xs H Q => ∃ v, xs = [v] ∧ rTxC g c F v H Q) (txOwnD c F) := by
  refine ⟨fun W bs h H xs vs Q hr rs p => ?_⟩
  unfold txOwnD at p
  split at p
  · cases rs with
    | cons r t =>
      cases t
      exact ⟨_, rfl, tx_own hr r p⟩
  · exact p.elim
end Ev
set_option Elab.async false
set_option linter.all false
set_option maxRecDepth 100000
set_option maxHeartbeats 4000000
/-! f-strings -/
namespace L2
open PySem PySem.Spec PyProof.Rows
section
variable {X : Cx}
/-- {x}: a text, an int, or data -/
def tFmtX (K : PySem.W.Frag) (te : TE) : TE := fun σ H Q => te σ H fun x H1 => (∃ y : Str, x = .str y ∧ y.length ≤ sizeLine ∧ Q (.str y) H1) ∨ (∃ i : Int, x = .int i ∧ i.natAbs.log2 < 1920 ∧ Q (.str (toString i)) H1) ∨
  ∃ a p, x = .ref a ∧ Dp K H1 x p ∧ p.canLay0 = true ∧ p.depth ≤ 20 ∧ p.showable = true ∧ p.shown.length ≤ sizeLine ∧ Q (.str p.shown) H1
theorem pe_fmtX {e : Expr} {te : TE} {pos : Pos} (hg : X.A.guards = some []) (hu : X.A.units + 200 < cLine) (he : PE X e te) : PE X (.FormattedValue e (-1) none pos) (tFmtX X.K te) := by
  refine ⟨fun pins s σ H Q I h => ?_⟩
  refine wpAny_FormattedValue_plain (thn (he.run pins s σ H _ I h) fun v s1 hv => ?_)
  obtain ⟨x, H1, I1, r1, q⟩ := hv
  rcases q with ⟨y, rfl, hz, q⟩ | ⟨i, rfl, hz, q⟩ | ⟨a, p, rfl, hp, hc, hd, hs, hz, q⟩
  · obtain ⟨t, rfl⟩ := r1
    exact wpAny_formatField_str ⟨.str y, H1, I1, ⟨t, rfl⟩, q⟩ ⟨.str y, H1, I1.tok _, ⟨_, rfl⟩, q⟩ hz
  · obtain ⟨t, rfl⟩ := r1
    exact wpAny_formatField_int hz ⟨.str (toString i), H1, I1.tok _, ⟨_, rfl⟩, q⟩
  · obtain ⟨as, rd⟩ := Dp.reads I1 p _ v hp r1
    cases (show v = Value.ref a from r1)
    exact formatField_of_reads rd hs (PyData.noDict_hsm (PyData.hasDict_of_canLay p hc)) hg (by omega) (fun _ _ e => e) (fun h' u' tk hk => ⟨.str p.shown, H1, I1.kept hk, ⟨_, rfl⟩, q⟩) hz
end
end L2
namespace Ev
open PySem PySem.Spec PyProof.Rows L2
def fmtD (x : D) (h : Hs) : R D := match x with
  | .str y => if Nat.ble y.length 16777216 = true then .ok (.str y) h else .bad
  | .int i => if Nat.ble i.natAbs 1180591620717411303423 = true then .ok (.str (Str.ofString (toString i))) h else .bad
  | .tup _ => (match reprOf h x with
    | some t => .ok (.str t) h
    | none => .bad)
  | .lst _ => (match reprOf h x with
    | some t => .ok (.str t) h
    | none => .bad)
  | .ref _ => (match reprOf h x with
    | some t => .ok (.str t) h
    | none => .bad)
  | _ => .bad
def fmtRD (x : D) (h : Hs) : R D := match x with
  | .str y => if (Nat.ble (reprText y).length 16777216 && PyData.strOk (reprText y)) = true then .ok (.str (reprText y)) h else .bad
  | .int i => if Nat.ble i.natAbs 1180591620717411303423 = true then .ok (.str (Str.ofString (toString i))) h else .bad
  | _ => .bad
theorem log_small {i : Int} (hi : Nat.ble i.natAbs 1180591620717411303423 = true) : i.natAbs.log2 < 1920 := by
  have hi := Nat.le_of_ble_eq_true hi
  by_cases h0 : i.natAbs = 0
  · rw [h0]; decide
  · have : i.natAbs.log2 < 70 := (Nat.log2_lt h0).mpr (Nat.lt_of_le_of_lt hi (by decide))
    omega
def eFmt (f : D → Hs → R D) (fe : En → Hs → R D) : En → Hs → R D := fun env h => (fe env h).bind f
@[simp] theorem eFmt_ap {f : D → Hs → R D} {fe : En → Hs → R D} {env : En} {h : Hs} : eFmt f fe env h = (fe env h).bind f := rfl
section
variable {ci : Nat → String × List String} {X : Cx} {W : WX} {e : Expr} {te : TE} {fe : En → Hs → R D} {pos : Pos} {c k : Nat} {F : List D → List D → Hs → R D}
theorem repr_case {x : D} {v : V} {h : Hs} {H : Hp} {bs : List Addr} {Q : VK} {W : Value → Option Addr → Hp → Prop} (hr : HRel (X.g ci) bs h H) (r : Rep (X.g ci) bs H x v) (hv : ∃ a, v = .ref a) (p : Post (relV (X.g ci)) (X.g ci) W bs H (match reprOf h x with
    | some t => .ok (.str t) h
    | none => .bad) Q) : ∃ a p, v = .ref a ∧ Dp X.K H v p ∧ p.canLay0 = true ∧ p.depth ≤ 20 ∧ p.showable = true ∧ p.shown.length ≤ sizeLine ∧ Q (.str p.shown) H := by
  obtain ⟨a, rfl⟩ := hv
  unfold reprOf at p
  cases hd : dat 20 h x with
  | none => rw [hd] at p; exact p.elim
  | some d =>
    rw [hd] at p
    obtain ⟨a1, a2, a3⟩ := dat_ok hr 20 hd r
    by_cases cc : (d.showable && Nat.ble d.shown.length 16777216 && PyData.strOk d.shown) = true
    · simp only [cc, if_true] at p
      rw [Bool.and_eq_true, Bool.and_eq_true] at cc
      exact ⟨a, d, rfl, a1, a2, a3, cc.1.1, Nat.le_of_ble_eq_true cc.1.2, Post.ok_ p hr (.str cc.2)⟩
    · simp only [cc] at p
      exact p.elim
theorem ej_fmt (hg : X.A.guards = some []) (hu : X.A.units + 200 < cLine) (he : EJ ci X W e te fe) : EJ ci X W (.FormattedValue e (-1) none pos) (tFmtX X.K te) (eFmt fmtD fe) :=
  ⟨pe_fmtX hg hu he.pe, fun σ H env h bs Q er hr p => he.sim.step er hr p fun x vx bs1 H1 h1 e1 hr1 er1 rx p1 => by
    unfold fmtD at p1
    split at p1
    · split at p1
      · rename_i hl
        cases rx with | str hs => exact .inl ⟨_, rfl, Nat.le_of_ble_eq_true hl, Post.ok_ p1 hr1 (.str hs)⟩
      · exact p1.elim
    · split at p1
      · rename_i hl
        cases rx
        exact .inr (.inl ⟨_, rfl, log_small hl, Post.ok_ p1 hr1 (.str (strOk_of _))⟩)
      · exact p1.elim
    · exact .inr (.inr (repr_case (X := X) hr1 rx (by cases rx; exact ⟨_, rfl⟩) p1))
    · exact .inr (.inr (repr_case (X := X) hr1 rx (by cases rx; exact ⟨_, rfl⟩) p1))
    · exact .inr (.inr (repr_case (X := X) hr1 rx (by cases rx; exact ⟨_, rfl⟩) p1))
    · exact p1.elim⟩
theorem ej_fmtR (he : EJ ci X W e te fe) : EJ ci X W (.FormattedValue e 114 none pos) (tFmtR te) (eFmt fmtRD fe) :=
  ⟨pe_fmtR he.pe, fun σ H env h bs Q er hr p => he.sim.step er hr p fun x vx bs1 H1 h1 e1 hr1 er1 rx p1 => by
    unfold fmtRD at p1
    split at p1
    · split at p1
      · rename_i hl
        rw [Bool.and_eq_true] at hl
        cases rx with | str hs => exact .inl ⟨_, rfl, Nat.le_of_ble_eq_true hl.1, Post.ok_ p1 hr1 (.str hl.2)⟩
      · exact p1.elim
    · split at p1
      · rename_i hl
        cases rx
        exact .inr ⟨_, rfl, log_small hl, Post.ok_ p1 hr1 (.str (strOk_of _))⟩
      · exact p1.elim
    · exact p1.elim⟩
def tFmtOwn (g : G) (c : Nat) (F : List D → List D → Hs → R D) (te : TE) : TE := fun σ H Q => te σ H fun x H1 => rTxC g c F x H1 Q
/-- {x!r}, x of a class with its own __repr__ -/
theorem ej_fmtROwn (c : Nat) (h : TxC ci X.prog X.w X.K X.mg X.base c "__repr__" k F) (hr : Room (k + 2) X.A) (he : EJ ci X W e te fe) : EJ ci X W (.FormattedValue e 114 none pos) (tFmtOwn (X.g ci) c F te) (eFmt (txOwn c F) fe) := by
  obtain ⟨C, f, h1, h2, h3, h5, h6, h4⟩ := h
  refine ⟨⟨fun pins s σ H Q I q => ?_⟩, fun σ H env hh bs Q er hr p => he.sim.step er hr p fun x vx bs1 H1 h1 e1 hr1 er1 rx p1 => tx_own hr1 rx p1⟩
  refine wpAny_FormattedValue_repr (thn (he.pe.run pins s σ H _ I q) fun v s1 hv => ?_)
  obtain ⟨x, H1, I1, r1, C', a, dx, fs, hC', rfl, ha, q1⟩ := hv
  have hC2 : X.mg (Str.ofString (ci c).1) = some (.ref C') := hC'
  rw [h1] at hC2
  cases hC2
  cases (show v = Value.ref a from r1)
  obtain ⟨mA, J, _⟩ := ins_get I1.hok ha
  obtain ⟨od, J, _⟩ := J.look
  refine TxX.repr_obj (by have := hr.un; omega) I1.kIn J h2 h3 (wpAny_mono (tx_run (C := C) h4 (hr.mono (by omega)) I1.env0 I1 q1) (fun r s' hq => ?_) fun _ _ y => y)
  obtain ⟨m, tk, rfl, hm, H', I', qz⟩ := hq
  exact ⟨m, tk, rfl, wpAny_formatField_str ⟨.str m, H', I', ⟨tk, rfl⟩, qz⟩ ⟨.str m, H', I'.tok _, ⟨_, rfl⟩, qz⟩ hm⟩
/-- {x}, x of a class with its own __str__ -/
theorem ej_fmtOwn (c : Nat) (h : TxC ci X.prog X.w X.K X.mg X.base c "__str__" k F) (hr : Room (k + 2) X.A) (he : EJ ci X W e te fe) : EJ ci X W (.FormattedValue e (-1) none pos) (tFmtOwn (X.g ci) c F te) (eFmt (txOwn c F) fe) := by
  obtain ⟨C, f, h1, h2, h3, h5, h6, h4⟩ := h
  refine ⟨⟨fun pins s σ H Q I q => ?_⟩, fun σ H env hh bs Q er hr p => he.sim.step er hr p fun x vx bs1 H1 h1 e1 hr1 er1 rx p1 => tx_own hr1 rx p1⟩
  refine wpAny_FormattedValue_plain (thn (he.pe.run pins s σ H _ I q) fun v s1 hv => ?_)
  obtain ⟨x, H1, I1, r1, C', a, dx, fs, hC', rfl, ha, q1⟩ := hv
  have hC2 : X.mg (Str.ofString (ci c).1) = some (.ref C') := hC'
  rw [h1] at hC2
  cases hC2
  cases (show v = Value.ref a from r1)
  obtain ⟨mA, J, _⟩ := ins_get I1.hok ha
  obtain ⟨od, J, _⟩ := J.look
  have hr1 : Room (k + 1) X.A.in1 := Room.in1 hr
  refine PySem.W.kfo_fieldS (by have := hr1.un; omega) I1.kIn J h5 h6 h2 h3 (wpAny_mono (tx_run (C := C) h4 (hr1.mono (by omega)) (I1.tok _).env0.in1 (I1.tok _) q1) (fun r s' hq => ?_) fun _ _ y => y)
  obtain ⟨m, tk, rfl, hm, H', I', qz⟩ := hq
  exact ⟨.str m, H', I', ⟨tk, rfl⟩, qz⟩
/-! ### the parts one behind the other -/
structure JJ (ci : Nat → String × List String) (X : Cx) (W : WX) (es : List Expr) (ts : List TE) (f : Str → En → Hs → R D) : Prop where
  pj : PJ X es ts
  sim : ∀ (acc : Str) (σ : L2.St) (H : Hp) (env : En) (h : Hs) (bs : List Addr) (Q : Str → Hp → Prop), PyData.strOk acc = true → ERel (X.g ci) bs H env σ → HRel (X.g ci) bs h H → Post (relV (X.g ci)) (X.g ci) (fun C d H' => W C d σ H') bs H (f acc env h) (fun v H' => ∃ out, v = .str out ∧ Q out H') → tJs ts acc σ H Q
def jNil : Str → En → Hs → R D := fun acc _ h => .ok (.str acc) h
def jCons (fe : En → Hs → R D) (f : Str → En → Hs → R D) : Str → En → Hs → R D := fun acc env h => (fe env h).bind fun d h1 => match d with
  | .str y => if Nat.ble (acc ++ y).length 16777216 = true then f (acc ++ y) env h1 else .bad
  | _ => .bad
@[simp] theorem jNil_ap {acc : Str} {env : En} {h : Hs} : jNil acc env h = .ok (.str acc) h := rfl
@[simp] theorem jCons_ap {fe : En → Hs → R D} {f : Str → En → Hs → R D} {acc : Str} {env : En} {h : Hs} : jCons fe f acc env h = (fe env h).bind fun d h1 => match d with
  | .str y => if Nat.ble (acc ++ y).length 16777216 = true then f (acc ++ y) env h1 else .bad
  | _ => .bad := rfl
theorem jj_nil : JJ ci X W [] [] jNil := ⟨.nil, fun acc σ H env h bs Q ha er hr p => by
  obtain ⟨out, e, q⟩ := Post.ok_ p hr (.str ha)
  cases e
  exact q⟩
theorem jj_cons {es : List Expr} {ts : List TE} {f : Str → En → Hs → R D} (he : EJ ci X W e te fe) (hj : JJ ci X W es ts f) : JJ ci X W (e :: es) (te :: ts) (jCons fe f) :=
  ⟨.cons he.pe hj.pj, fun acc σ H env h bs Q ha er hr p => he.sim.step er hr p fun x vx bs1 H1 h1 e1 hr1 er1 rx p1 => by
    cases rx with
    | @str y hy =>
      dsimp only at p1
      split at p1
      · rename_i hl
        exact ⟨y, rfl, Nat.le_of_ble_eq_true hl, hj.sim _ _ _ _ _ _ _ (strOk_append ha hy) er1 hr1 p1⟩
      · exact p1.elim
    | _ => exact p1.elim⟩
def eJoin (f : Str → En → Hs → R D) : En → Hs → R D := fun env h => (f Str.empty env h).bind fun d h1 => match d with
  | .str y => .ok (.str y) h1
  | _ => .bad
@[simp] theorem eJoin_ap {f : Str → En → Hs → R D} {env : En} {h : Hs} : eJoin f env h = (f Str.empty env h).bind fun d h1 => match d with
  | .str y => .ok (.str y) h1
  | _ => .bad := rfl
theorem ej_joined {v1 v2 : Expr} {rest : List Expr} {ts : List TE} {f : Str → En → Hs → R D} (hj : JJ ci X W (v1 :: v2 :: rest) ts f) : EJ ci X W (.JoinedStr (v1 :: v2 :: rest) pos) (fun σ H Q => tJs ts Str.empty σ H fun out H1 => Q (.str out) H1) (eJoin f) :=
  ⟨pe_joined hj.pj, fun σ H env h bs Q er hr p => hj.sim _ _ _ _ _ _ _ (by decide +kernel) er hr (by
    unfold eJoin at p
    cases hf : f Str.empty env h with
    | bad => rw [hf] at p; exact p
    | err c fs h' => rw [hf] at p; exact p
    | ok d h' =>
      rw [hf] at p
      simp only [R.bind_ok] at p
      intro bs' H' v e r rv
      cases rv with
      | str hs => exact ⟨_, rfl, p bs' H' _ e r (.str hs)⟩
      | _ => exact p.elim)⟩
theorem ej_joined1 (he : EJ ci X W e te fe) : EJ ci X W (.JoinedStr [e] pos) te fe := ⟨pe_joined1 he.pe, he.sim⟩
end
namespace Fx
open He
def txB (x m : Str) (K : Fr) : Bool := (Fa.meth x m).ok K && (decide (PySem.W.findIn K (.ref (ga K x)) "__format__" = some (some (.builtin "object.__format__"))) && decide (PySem.W.mroIn K (ga K x) (.type "object") = some true))
theorem tx_ok {ci : Nat → String × List String} {K : Fr} {mg : Str → Option Value} {h : Heap} {P : Program} {w : World} {base : Heap} {c k : Nat} {x m : Str} {F : List D → List D → Hs → R D} (X : K.In h) (G : h.Ns mainGlobals mg) (b0 : (Fa.glo x).ok K = true) (b : txB x m K = true) (hx : Str.ofString (ci c).1 = x)
    (hF : FnC ci P w K mg base k (fAd K (x, some m)) [] F) : TxC ci P w K mg base c m k F := by
  obtain ⟨d0, e0⟩ := ba b
  obtain ⟨e1, e2⟩ := ba e0
  obtain ⟨d1, d⟩ := ba d0
  obtain ⟨d2, d3⟩ := ba d
  exact ⟨ga K x, _, by rw [hx]; exact glo_ok X G b0, eqO_ok d1, d2, of_decide_eq_true e1, of_decide_eq_true e2, hF⟩
end Fx
end Ev
set_option Elab.async false
set_option linter.all false
set_option maxRecDepth 100000
set_option maxHeartbeats 4000000
/-! == of an own object with another kind; == of tuples of own objects -/
namespace TeX
open PySem PySem.Spec PyProof.Rows PySem.SeqAt
open Sem (wp)
section
variable {prog : Program} {w : World} {A : Around} {E : Value → Shared → Prop}
theorem tup_eq {l b : Addr} {items items2 : Array Value} {n n2 : Nat} {dd dd2 : Option Addr} {sl sl2 : Array (Option Value)} {s : Shared} {Q : Value → Shared → Prop} (J : Nat → Shared → Prop)
    (hl : s.heap.get? l = some { cls := .type "tuple", dict := dd, data := .seq items n, slots := sl }) (hb : s.heap.get? b = some { cls := .type "tuple", dict := dd2, data := .seq items2 n2, slots := sl2 }) (hsz : items.size = items2.size) (j0 : J 0 s)
    (step : ∀ i (h1 : i < items.size) (h2 : i < items2.size) s', J i s' → wpAny (model prog w) A (eqBool items[i] items2[i]) (fun r s'' => (r = true ∧ J (i + 1) s'') ∨ (r = false ∧ Q (.bool false) s'')) E s')
    (fin : ∀ s', J items.size s' → Q (.bool true) s') :
    wpAny (model prog w) A (Builtin.«tuple.__eq__» ⟨[.ref l, .ref b], []⟩) (fun fin s' => ∃ v, fin = .done (.ret v) ∧ Q v s') E s := by
  obtain ⟨hp, g, d, tk, os⟩ := s
  have f2 := AutoSeq1.sub_tuple_tuple
  have hZ : (items.toList.zip items2.toList).length = items.size := by simp [hsz]
  wp_walk using wpAny_loadPart' hl, wpAny_loadPart' hb, wpAny_forIn_list _ (fun rest b s' => b.1 = none ∧ ∃ i, rest = (items.toList.zip items2.toList).drop i ∧ i ≤ items.size ∧ J i s') _
  case turn =>
    rintro ⟨y, x⟩ rest b s' ⟨hb', i, hz, hle, hJ⟩
    have hlt : i < (items.toList.zip items2.toList).length := by
      rcases Nat.lt_or_ge i (items.toList.zip items2.toList).length with h' | h'
      · exact h'
      · rw [List.drop_of_length_le h'] at hz; cases hz
    have h1 : i < items.size := hZ ▸ hlt
    have h2 : i < items2.size := hsz ▸ h1
    rw [List.drop_eq_getElem_cons hlt] at hz
    injection hz with hyx hrest
    have hy : y = items[i] := by have := congrArg Prod.fst hyx; simpa using this
    have hx : x = items2[i] := by have := congrArg Prod.snd hyx; simpa using this
    subst hy hx
    refine wpAny_bind (wpAny_mono (step i h1 h2 s' hJ) (fun r s'' hr => ?_) fun _ _ e => e)
    rcases hr with ⟨rfl, hr⟩ | ⟨rfl, hr⟩
    · wp_walk
      exact ⟨rfl, i + 1, hrest, h1, hr⟩
    · wp_walk
      exact ⟨_, rfl, hr⟩
  case fin =>
    rintro ⟨b1, b2⟩ s' ⟨hb', i, hz, hle, hJ⟩
    simp only at hb'
    subst hb'
    have hge : items.size ≤ i := by
      rcases Nat.lt_or_ge i (items.toList.zip items2.toList).length with h' | h'
      · rw [List.drop_eq_getElem_cons h'] at hz; cases hz
      · exact hZ ▸ h'
    have : i = items.size := Nat.le_antisymm hle hge
    subst this
    wp_walk
    exact ⟨_, rfl, by simpa [Builtin.Tuple.tupleCompareSizes, hsz] using fin s' hJ⟩
  case h =>
    exact ⟨rfl, 0, rfl, Nat.zero_le _, j0⟩
theorem rc_tup {l b : Addr} {items items2 : Array Value} {s : Shared} {Q : Value → Shared → Prop} (J : Nat → Shared → Prop) (hl : s.heap.IsTuple l items) (hb : s.heap.IsTuple b items2) (hu : A.units < cLine) (hsz : items.size = items2.size) (j0 : J 0 s)
    (step : ∀ i (h1 : i < items.size) (h2 : i < items2.size) s', J i s' → wpAny (model prog w) A.in1 (eqBool items[i] items2[i]) (fun r s'' => (r = true ∧ J (i + 1) s'') ∨ (r = false ∧ Q (.bool false) s'')) E s')
    (fin : ∀ s', J items.size s' → Q (.bool true) s') : wpAny (model prog w) A (richCompare .Eq (.ref l) (.ref b)) Q E s := by
  obtain ⟨⟨cls, dd, data, sl⟩, ho, hc, n, hd⟩ := id hl
  obtain ⟨⟨cls2, dd2, data2, sl2⟩, ho2, hc2, n2, hd2⟩ := id hb
  simp only at hc hd hc2 hd2
  subst hc hd hc2 hd2
  refine wpAny_richCompare_same_room (T := "tuple") (id := "tuple.__eq__") ⟨_, ho, rfl⟩ ⟨_, ho2, rfl⟩ F.slot_tuple_eq (wpAny_call (codeAny_call_builtin F.slot_tuple_eq.plain F.entry_tuple_eq (F.slot_tuple_eq.check _ _ _ _ _ _ _ _ ⟨_, ho, rfl⟩ (F.args_tuple_eq_2 _ _) ?_))) hu
  refine wpAny_mono (tup_eq (A := A.in1) J ho ho2 hsz j0 (Q := fun v s' => v ≠ .notImplemented ∧ Q v s') (fun i h1 h2 s' hj => wpAny_mono (step i h1 h2 s' hj) (fun r s'' hr => ?_) fun _ _ e => e) (fun s' hj => ⟨(fun z => nomatch z), fin s' hj⟩)) (fun f s' hf => ?_) fun _ _ e => e
  · rcases hr with hr | ⟨hr, hq⟩
    · exact .inl hr
    · exact .inr ⟨hr, (fun z => nomatch z), hq⟩
  · obtain ⟨v, rfl, hv⟩ := hf
    exact hv
theorem eqBool_refs {M : Model} {s : Shared} {x y : Addr} {Q : Bool → Shared → Prop} (h1 : x = y → Q true s) (h2 : x ≠ y → wpAny M A (richCompare .Eq (.ref x) (.ref y)) (fun v s' => ∃ b, v = .bool b ∧ Q b s') E s) : wpAny M A (eqBool (.ref x) (.ref y)) Q E s := by
  unfold eqBool
  refine wpAny_holding ?_
  refine wpAny_ite_split (fun hab => ?_) (fun hab => ?_)
  · exact wpAny_bind (wpAny_rule (wpAny_pure (h1 (by have := eq_of_beq hab; injection this))))
  · refine wpAny_bind (wpAny_mono (h2 (fun e => hab (by rw [e]; exact beq_self_eq_true _))) (fun v s' hv => ?_) fun _ _ e => e)
    obtain ⟨b, rfl, hq⟩ := hv
    exact wpAny_truthy_bool hq
end
end TeX
namespace Ev
open PySem PySem.Spec PyProof.Rows L2
/-! ### x == y, x of a class of one's own, y of another kind -/
def rOth (g : G) (c : Nat) (F : List D → List D → Hs → R D) : R2 := fun x y H Q => ∃ C a dx fs n, IsCls g c C ∧ x = .ref a ∧ H a = some (.ins C dx fs) ∧ TyX g.K H y (.type n) ∧ n ∈ ["NoneType", "bool", "int", "str", "list", "tuple"] ∧ Asks g (fun _ _ _ => False) F [x, y] [] H Q
def eqOthD (c : Nat) (F : List D → List D → Hs → R D) (x y : D) (h : Hs) : R D := if isIns c x h = true ∧ (primOf y h).isSome = true then (F [x, y] [] h).nerr else .bad
theorem opj_eqOth {g : G} {c : Nat} {F : List D → List D → Hs → R D} : OpJ g (rOth g c F) (eqOthD c F) := ⟨fun W bs h H x y vx vy Q hr rx ry p => by
  unfold eqOthD at p
  split at p
  · rename_i hi
    obtain ⟨a, C, dx, fs, n, rfl, c1, c2, c3⟩ := isIns_ok hr rx hi.1
    obtain ⟨m, hm⟩ := Option.isSome_iff_exists.mp hi.2
    obtain ⟨t1, t2⟩ := prim_ok hr ry hm
    exact ⟨C, a, dx, fs, m, c1, rfl, c2, t1, t2, bs, h, [x, y], [], hr, .cons rx (.cons ry .nil), .nil, post_nerr p⟩
  · exact p.elim⟩
theorem sub_none {K : PySem.W.Frag} {C : Addr} {n : String} (h : n ∈ ["NoneType", "bool", "int", "str", "list", "tuple"]) : PySem.W.subIn K (.type n) (.ref C) = some false := by
  simp only [List.mem_cons, List.not_mem_nil, or_false] at h
  rcases h with rfl | rfl | rfl | rfl | rfl | rfl <;> rfl
section
variable {ci : Nat → String × List String} {X : Cx} {c k : Nat} {F : List D → List D → Hs → R D} {pins : List (Addr × Obj)} {σ : L2.St} {H : Hp} {s : Shared} {Q : VK} {vx vy : V} {u : Value}
theorem own2_run {C f : Addr} {A : Around} {x : Addr} (hF : FnC ci X.prog X.w X.K X.mg X.base k f [] F) (hr : Room k A) (he : Env0 X.prog X.w X.K X.mg X.base A X.stack s H) (I : Inv X pins σ H s) (rv : Vals [vx, vy] [.ref x, u]) (q : Asks (X.g ci) (fun _ _ _ => False) F [vx, vy] [] H Q) :
    wpAny (model X.prog X.w) A (call (.ref f) [.ref x, u]) (EP X pins σ Q) X.xe s := by
  refine wpAny_call (codeAny_mono (hF.run A X.stack s H [.ref x, u] [] [vx, vy] [] _ (fun _ _ _ => False) hr he rv .nil rfl q) fun r s' hq => ?_)
  cases r with
  | error e => exact passAt (takes0 (X := X)) σ pins H s e s' I hq
  | ok fl =>
    cases fl with
    | ret u => exact I.after hq
    | next => exact False.elim hq
    | brk => exact False.elim hq
    | cont => exact False.elim hq
theorem opr_eqOth (h : EqC ci X.prog X.w X.K X.mg X.base c k F) (hr : Room k X.A) : OpR X (compareOp .Eq) (rOth (X.g ci) c F) := by
  obtain ⟨C, f, h1, h2, h3, h4, h5, h6⟩ := h.ex
  intro pins s σ H x y v u Q I rx ry ⟨C', a, dx, fs, n, hC', ex, ha, ty, tn, q⟩
  subst ex
  have hC2 : X.mg (Str.ofString (ci c).1) = some (.ref C') := hC'
  rw [h1] at hC2
  cases hC2
  cases (show v = Value.ref a from rx)
  obtain ⟨mA, J, _⟩ := ins_get I.hok ha
  obtain ⟨od, J, _⟩ := J.look
  obtain ⟨m, hF⟩ := I.fr
  obtain ⟨P, kx, hp, _⟩ := kit_of I ry ty
  show wpAny (model X.prog X.w) X.A (richCompare .Eq (.ref a) u) (EP X pins σ Q) X.xe s
  refine PySem.W.cmp_K (op := .Eq) (tb := .type n) hr.units0 hF I.ok.mod.kin J (kx.ty _ _ I.kIn hp) (by
    unfold PySem.W.notFirst
    rw [sub_none tn]
    simp) h2 h3 ?_
  refine wpAny_mono (own2_run (C := C) (vx := .ref a) (vy := y) h6 hr I.env0 I (.cons rfl (.cons ry .nil)) q) (fun w s' z => ?_) fun _ _ x => x
  obtain ⟨z', H', I', rz, qz⟩ := z
  exact SlX.cmpback rz ⟨z', H', I', rz, qz⟩
end
end Ev
set_option Elab.async false
set_option linter.all false
set_option maxRecDepth 100000
set_option maxHeartbeats 4000000
/-! == of tuples of own objects -/
namespace Ev
open PySem PySem.Spec PyProof.Rows L2
def atomD : D → Bool
  | .non => true
  | .bl _ => true
  | .int _ => true
  | .str _ => true
  | _ => false
def flatO (c : Nat) : D → Bool
  | .obj k fs => decide (k = c) && fs.all atomD
  | _ => false
theorem atom_inj {g : G} {bs : List Addr} {H : Hp} {x y : D} {v : V} (hx : atomD x = true) (hy : atomD y = true) (rx : Rep g bs H x v) (ry : Rep g bs H y v) : x = y := by
  cases rx <;> cases ry <;> first | rfl | cases hx | cases hy
theorem atoms_inj {g : G} {bs : List Addr} {H : Hp} : ∀ {xs ys : List D} {vs : List V}, xs.all atomD = true → ys.all atomD = true → Reps g bs H xs vs → Reps g bs H ys vs → xs = ys
  | _, _, _, _, _, .nil, .nil => rfl
  | _, _, _, hx, hy, .cons a r, .cons b t => by
    rw [List.all_cons, Bool.and_eq_true] at hx hy
    rw [atom_inj hx.1 hy.1 a b, atoms_inj hx.2 hy.2 r t]
theorem flat_inj {g : G} {bs : List Addr} {H : Hp} {c : Nat} {x y : D} {v : V} (hx : flatO c x = true) (hy : flatO c y = true) (rx : Rep g bs H x v) (ry : Rep g bs H y v) : x = y := by
  cases rx with
  | @obj c1 C1 a1 dx1 fvs1 ds1 n1 i1 h1 f1 r1 =>
    cases ry with
    | @obj c2 C2 a2 dx2 fvs2 ds2 n2 i2 h2 f2 r2 =>
      unfold flatO at hx hy
      rw [Bool.and_eq_true] at hx hy
      obtain rfl := of_decide_eq_true hx.1
      obtain rfl := of_decide_eq_true hy.1
      rw [h1] at h2
      cases h2
      rw [atoms_inj hx.2 hy.2 r1 r2]
    | _ => cases hy
  | _ => cases hx
open Classical in
/-- one behind the other -/
noncomputable def eqAllD (c : Nat) (F : List D → List D → Hs → R D) : List D → List D → Hs → R D
  | [], [], h => .ok (.bl true) h
  | x :: xs, y :: ys, h => if flatO c x = true ∧ flatO c y = true then (F [x, y] [] h).nerr.bind fun d h1 => (match d with
    | .bl b => if (x = y → b = true) ∧ h1 = h then (if b = true then eqAllD c F xs ys h else .ok (.bl false) h) else .bad
    | _ => .bad) else .bad
  | _, _, _ => .bad
noncomputable def eqTupD (c : Nat) (F : List D → List D → Hs → R D) (x y : D) (h : Hs) : R D := match x, y with
  | .tup xs, .tup ys => if xs.length = ys.length then eqAllD c F xs ys h else .bad
  | _, _ => .bad
def EqAll (g : G) (c : Nat) (F : List D → List D → Hs → R D) : List V → List V → Hp → VK → Prop
  | [], [], H, Q => Q (.bl true) H
  | v :: vs, u :: us, H, Q => ∃ C a dx fs b dy gs, IsCls g c C ∧ v = .ref a ∧ u = .ref b ∧ H a = some (.ins C dx fs) ∧ H b = some (.ins C dy gs) ∧ (a = b → EqAll g c F vs us H Q) ∧ (a ≠ b → Asks g (fun _ _ _ => False) F [v, u] [] H fun z H' => ∃ k, z = .bl k ∧ (k = false → Q (.bl false) H') ∧ (k = true → EqAll g c F vs us H' Q))
  | _, _, _, _ => False
def rTup (g : G) (c : Nat) (F : List D → List D → Hs → R D) : R2 := fun x y H Q => ∃ a b vs us, x = .ref a ∧ y = .ref b ∧ SqT g.K H a vs ∧ SqT g.K H b us ∧ vs.length = us.length ∧ EqAll g c F vs us H Q
theorem eqAll_ok {g : G} {c : Nat} {F : List D → List D → Hs → R D} {W : Value → Option Addr → Hp → Prop} {h : Hs} {Q : VK} : ∀ {xs ys : List D} {vs us : List V} {bs : List Addr} {H : Hp}, HRel g bs h H → Reps g bs H xs vs → Reps g bs H ys us → Post (relV g) g W bs H (eqAllD c F xs ys h) Q → EqAll g c F vs us H Q
  | _, _, _, _, bs, H, hr, .nil, .nil, p => Post.ok_ p hr (.bl true)
  | _, _, _, _, bs, H, hr, .nil, .cons _ _, p => p.elim
  | _, _, _, _, bs, H, hr, .cons _ _, .nil, p => p.elim
  | x :: xs, y :: ys, v :: vs, u :: us, bs, H, hr, .cons rx rs, .cons ry ts, p => by
    unfold eqAllD at p
    split at p
    · rename_i hf
      have ix : isIns c x h = true := by
        cases x <;> first | (have := hf.1; unfold flatO at this; rw [Bool.and_eq_true] at this; exact this.1) | cases hf.1
      have iy : isIns c y h = true := by
        cases y <;> first | (have := hf.2; unfold flatO at this; rw [Bool.and_eq_true] at this; exact this.1) | cases hf.2
      obtain ⟨a, C, dx, fs, n, rfl, c1, c2, c3⟩ := isIns_ok hr rx ix
      obtain ⟨b, C', dy, gs, n', rfl, c1', c2', c3'⟩ := isIns_ok hr ry iy
      have e : g.mg (Str.ofString (g.ci c).1) = some (.ref C) := c1
      have e' : g.mg (Str.ofString (g.ci c).1) = some (.ref C') := c1'
      rw [e] at e'
      cases e'
      refine ⟨C, a, dx, fs, b, dy, gs, c1, rfl, rfl, c2, c2', fun hab => ?_, fun hab => ⟨bs, h, [x, y], [], hr, .cons rx (.cons ry .nil), .nil, ?_⟩⟩
      · subst hab
        have hxy := flat_inj hf.1 hf.2 rx ry
        cases hz : (F [x, y] [] h).nerr with
        | bad => rw [hz] at p; exact p.elim
        | err cc ff hh => 
          exfalso
          cases hz2 : F [x, y] [] h <;> rw [hz2] at hz <;> cases hz
        | ok d h1 =>
          rw [hz] at p
          simp only [R.bind_ok] at p
          split at p
          · split at p
            · rename_i hb
              rw [if_pos (hb.1 hxy)] at p
              exact eqAll_ok hr rs ts p
            · exact p.elim
          · exact p.elim
      · refine Post.step (relA := relV g) (relC := relV g) (W := W) (r := (F [x, y] [] h).nerr) (M := fun Q' => Post (relV g) g (fun _ _ _ => False) bs H (F [x, y] [] h) Q') (fun Q' q => post_nerr q) p fun z vz bs1 H1 h1 e1 hr1 rz p1 => ?_
        cases rz with
        | bl k =>
          dsimp only at p1
          split at p1
          · rename_i hb
            obtain ⟨hb1, rfl⟩ := hb
            refine ⟨k, rfl, fun hk => ?_, fun hk => ?_⟩
            · rw [if_neg (by rw [hk]; decide)] at p1
              exact Post.ok_ p1 hr1 (.bl false)
            · rw [if_pos hk] at p1
              exact eqAll_ok hr1 (rs.mono e1) (ts.mono e1) p1
          · exact p1.elim
        | _ => exact p1.elim
    · exact p.elim
theorem opj_tupOwn {g : G} {c : Nat} {F : List D → List D → Hs → R D} : OpJ g (rTup g c F) (eqTupD c F) := ⟨fun W bs h H x y vx vy Q hr rx ry p => by
  unfold eqTupD at p
  split at p
  · split at p
    · rename_i hl
      cases rx with
      | @tup a vs _ t1 rs =>
        cases ry with
        | @tup b us _ t2 ts => exact ⟨a, b, vs, us, rfl, rfl, t1.sq, t2.sq, by rw [← rs.length, ← ts.length]; exact hl, eqAll_ok hr rs ts p⟩
    · exact p.elim
  · exact p.elim⟩
theorem vals_at {xs : List V} {us : List Value} (r : Vals xs us) : ∀ (i : Nat) (h1 : i < xs.length) (h2 : i < us.length), RelV xs[i] us[i] := by
  induction r with
  | nil => intro i h1; exact absurd h1 (Nat.not_lt_zero _)
  | cons a _ ih =>
    intro i h1 h2
    cases i with
    | zero => exact a
    | succ i => exact ih i (by simpa using h1) (by simpa using h2)
section
variable {ci : Nat → String × List String} {X : Cx} {c k : Nat} {F : List D → List D → Hs → R D}
theorem opr_tupOwn (h : EqC ci X.prog X.w X.K X.mg X.base c k F) (hr : Room (k + 1) X.A) : OpR X (compareOp .Eq) (rTup (X.g ci) c F) := by
  obtain ⟨C, f, h1, h2, h3, h4, h5, h6⟩ := h.ex
  intro pins s σ H x y v u Q I rx ry ⟨a, b, vs, us, ex, ey, sa, sb, hl, q⟩
  subst ex ey
  cases (show v = Value.ref a from rx)
  cases (show u = Value.ref b from ry)
  obtain ⟨its, rv, p, _⟩ := I.tuple sa
  obtain ⟨its2, rv2, p2, _⟩ := I.tuple sb
  have l1 := rv.length
  have l2 := rv2.length
  show wpAny (model X.prog X.w) X.A (richCompare .Eq (.ref a) (.ref b)) (EP X pins σ Q) X.xe s
  refine TeX.rc_tup (fun i s' => ∃ H', Inv X pins σ H' s' ∧ EqAll (X.g ci) c F (vs.drop i) (us.drop i) H' Q) (show s.heap.IsTuple a its.toArray from p) (show s.heap.IsTuple b its2.toArray from p2) (by have := hr.un; omega) (by simp; omega) ⟨H, I, q⟩ (fun i g1 g2 s' hj => ?_) (fun s' hj => ?_)
  · obtain ⟨H', I', q'⟩ := hj
    have g1' : i < its.length := by simpa using g1
    have g2' : i < its2.length := by simpa using g2
    have b1 : i < vs.length := by omega
    have b2 : i < us.length := by omega
    rw [List.drop_eq_getElem_cons b1, List.drop_eq_getElem_cons b2] at q'
    obtain ⟨C', a', dx, fs, b', dy, gs, hC', e1, e2, ha, hb, qs, qd⟩ := q'
    have hC2 : X.mg (Str.ofString (ci c).1) = some (.ref C') := hC'
    rw [h1] at hC2
    cases hC2
    have r1 : RelV (vs[i]) (its[i]) := vals_at rv i b1 g1'
    have r2 : RelV (us[i]) (its2[i]) := vals_at rv2 i b2 g2'
    rw [e1] at r1
    rw [e2] at r2
    have r1' : its.toArray[i]'g1 = Value.ref a' := by simpa using (show its[i] = Value.ref a' from r1)
    have r2' : its2.toArray[i]'g2 = Value.ref b' := by simpa using (show its2[i] = Value.ref b' from r2)
    rw [r1', r2']
    refine TeX.eqBool_refs (fun hab => .inl ⟨rfl, H', I', qs hab⟩) (fun hab => ?_)
    obtain ⟨mA, J, _⟩ := ins_get I'.hok ha
    obtain ⟨mB, J', _⟩ := ins_get I'.hok hb
    obtain ⟨od, J, _⟩ := J.look
    obtain ⟨od', J', _⟩ := J'.look
    obtain ⟨m, hF⟩ := I'.fr
    have hr1 : Room k X.A.in1 := hr.in1
    refine PySem.W.cmp_K (op := .Eq) (tb := .ref C) hr1.units0 hF I'.ok.mod.kin J J'.type (by simp [PySem.W.notFirst]) h2 h3 ?_
    have qd' := qd hab
    rw [e1, e2] at qd'
    refine wpAny_mono (own2_run (C := C) (vx := .ref a') (vy := .ref b') h6 hr1 I'.env0.in1 I' (.cons rfl (.cons rfl .nil)) qd') (fun w s2 z => ?_) fun _ _ x => x
    obtain ⟨z', H2, I2, rz, kk, ez, q0, q1⟩ := z
    subst ez
    cases (show w = Value.bool kk from rz)
    refine ⟨kk, rfl, ?_⟩
    cases kk with
    | true => exact .inl ⟨rfl, H2, I2, q1 rfl⟩
    | false => exact .inr ⟨rfl, .bl false, H2, I2, rfl, q0 rfl⟩
  · obtain ⟨H', I', q'⟩ := hj
    have e1 : vs.drop its.toArray.size = [] := by rw [List.drop_eq_nil_iff]; simp; omega
    have e2 : us.drop its.toArray.size = [] := by rw [List.drop_eq_nil_iff]; simp; omega
    rw [e1, e2] at q'
    exact ⟨.bl true, H', I', rfl, q'⟩
end
end Ev
set_option Elab.async false
set_option linter.all false
set_option maxRecDepth 100000
set_option maxHeartbeats 4000000
/-! sep.join(list of texts) -/
namespace Ev
open PySem PySem.Spec PyProof.Rows L2
def rJn (K : PySem.W.Frag) : V → List V → Hp → VK → Prop := fun x xs H Q => ∃ a p, ∃ ys : List Str, x = .str a ∧ xs = [.ref p] ∧ (SqL K H p (ys.map V.str) ∨ SqT K H p (ys.map V.str)) ∧ (ys.map (·.length)).sum + ys.length * a.length ≤ 16777216 ∧ Q (.str (Txt.join a ys)) H
theorem mt_jn {X : Cx} : MtR X "str.join" (rJn X.K) := mt_join
def strsOf : List D → Option (List Str)
  | [] => some []
  | .str b :: r => (strsOf r).map (b :: ·)
  | _ => none
def joinD (x : D) (xs : List D) (h : Hs) : R D := match x, xs with
  | .str sep, [y] => match rdL h y with
    | some ds => match strsOf ds with
      | some ys => if (Nat.ble ((ys.map (·.length)).sum + ys.length * sep.length) 16777216 && PyData.strOk (Txt.join sep ys)) = true then .ok (.str (Txt.join sep ys)) h else .bad
      | none => .bad
    | none => .bad
  | _, _ => .bad
theorem strs_ok {g : G} {bs : List Addr} {H : Hp} : ∀ {ds : List D} {vs : List V} {ys : List Str}, Reps g bs H ds vs → strsOf ds = some ys → vs = ys.map V.str
  | _, _, _, .nil, e => by cases e; rfl
  | _, _, _, .cons r t, e => by
    cases r with
    | @str y hy =>
      rw [strsOf] at e
      obtain ⟨zs, e1, e2⟩ := Option.map_eq_some_iff.mp e
      subst e2
      rw [strs_ok t e1]
      rfl
    | _ => cases e
theorem mj_join {g : G} : MJ g (rJn g.K) joinD := by
  refine ⟨fun W bs h H x vx xs vs Q hr rx rs p => ?_⟩
  unfold joinD at p
  split at p
  · split at p
    · rename_i ds hd
      split at p
      · rename_i ys hy
        split at p
        · rename_i hl
          rw [Bool.and_eq_true] at hl
          cases rx with
          | str hs =>
            cases rs with
            | cons r t =>
              cases t
              obtain ⟨a, us, rfl, hq, rs⟩ := rdL_ok hr r hd
              exact ⟨_, a, ys, rfl, rfl, .inl (by rw [← strs_ok rs hy]; exact hq), Nat.le_of_ble_eq_true hl.1, Post.ok_ p hr (.str hl.2)⟩
        · exact p.elim
      · exact p.elim
    · exact p.elim
  · exact p.elim
/-! str of an int or a text -/
def strXD (xs : List D) (h : Hs) : R D := match xs with
  | [.str b] => .ok (.str b) h
  | xs => strTD xs h
def rStrX : List V → Hp → VK → Prop := fun xs H Q => (∃ i, xs = [.int i] ∧ i.natAbs.log2 < 1920 ∧ Q (.str (toString i)) H) ∨ ∃ a, xs = [.str a] ∧ Q (.str a) H
theorem cr_strX {X : Cx} : CallR X (.type "str") rStrX := by
  intro pins s σ H xs us Q I r q
  rcases q with q | q
  · exact call_str_int pins s σ H xs us Q I r q
  · exact SkE.call_str_str pins s σ H xs us Q I r q
theorem caj_strX {g : G} : CaJ g rStrX strXD := by
  refine ⟨fun W bs h H xs vs Q hr rs p => ?_⟩
  unfold strXD at p
  split at p
  · cases rs with
    | cons r t =>
      cases t
      cases r with
      | str hb => exact .inr ⟨_, rfl, Post.ok_ p hr (.str hb)⟩
  · exact .inl (caj_strI.run W bs h H _ vs Q hr rs p)
@[simp] theorem strXD_str {b : Str} {h : Hs} : strXD [.str b] h = .ok (.str b) h := rfl
@[simp] theorem strXD_int {i : Int} {h : Hs} : strXD [.int i] h = strTD [.int i] h := rfl
/-! a, b, .. = a list -/
def kLst (n : Nat) (k : List D → En → Option En) : D → En → Option En := fun d env => match d with
  | .lst ds => if ds.length = n then k ds env else none
  | _ => none
@[simp] theorem kLst_ap {n : Nat} {k : List D → En → Option En} {ds : List D} {env : En} : kLst n k (.lst ds) env = if ds.length = n then k ds env else none := rfl
section
variable {ci : Nat → String × List String} {X : Cx}
theorem gj_lst {pos : Pos} {es : List Expr} {k : Nat} {t : TGs} {n : Nat} {f : List D → En → Option En} {js : List Nat} (hc : X.calm = true) (h : GsJ ci X es t f js)
    (hn : (assignEach es X.env).length = n := by rfl) (hst : (assignEach es X.env).findIdx? (·.1) = none := by rfl) : GJ ci X (.Tuple es k pos) (gLst X.K n t) (kLst n f) js :=
  ⟨pg_lst hc h.pgs hn hst, fun v d σ H env env' hh bs Q r er hr e kk => by
    unfold kLst at e
    split at e
    · split at e
      · rename_i hl
        cases r with
        | @lst a vs ds h0 ha rs => exact ⟨a, vs, rfl, .of ha, by rw [← rs.length]; exact hl, h.sim _ _ σ H env env' hh bs _ rs er hr e kk⟩
      · cases e
    · cases e⟩
end
end Ev
set_option Elab.async false
set_option linter.all false
set_option maxRecDepth 100000
set_option maxHeartbeats 4000000
/-! dicts whose keys are tuples of numbers, truth values, None: what holds of them -/
namespace Ev
open PySem PySem.Spec PyProof.Rows L2
/-! ### keys -/
mutual
inductive KeyV (K : PySem.W.Frag) (H : Hp) : NK → V → Prop
  | none : KeyV K H .none .non
  | bool (b : Bool) : KeyV K H (.num (if b = true then 1 else 0)) (.bl b)
  | int (i : Int) : KeyV K H (.num i) (.int i)
  | tup {a : Addr} {vs : List V} {ks : List NK} : SqT K H a vs → KeyVs K H ks vs → KeyV K H (.tup ks) (.ref a)
inductive KeyVs (K : PySem.W.Frag) (H : Hp) : List NK → List V → Prop
  | nil : KeyVs K H [] []
  | cons {k : NK} {v : V} {ks : List NK} {vs : List V} : KeyV K H k v → KeyVs K H ks vs → KeyVs K H (k :: ks) (v :: vs)
end
section
variable {g : G} {bs : List Addr} {H : Hp}
mutual
theorem keyV_of : ∀ (x : D) {v : V} {k : NK}, Rep g bs H x v → keyN x = some k → KeyV g.K H k v
  | .non, v, k, r, e => by cases r; cases e; exact .none
  | .bl b, v, k, r, e => by cases r; cases e; exact .bool b
  | .int i, v, k, r, e => by cases r; cases e; exact .int i
  | .tup xs, v, k, r, e => by
    cases r with
    | @tup a vs _ t rs =>
      rw [keyN] at e
      obtain ⟨ks, ek, rfl⟩ := Option.map_eq_some_iff.mp e
      exact .tup t.sq (keyVs_of xs rs ek)
  | .str _, v, k, r, e => by cases e
  | .lst _, v, k, r, e => by cases e
  | .rol _, v, k, r, e => by cases e
  | .obj _ _, v, k, r, e => by cases e
  | .ref _, v, k, r, e => by cases e
  | .dct _ _, v, k, r, e => by cases e
theorem keyVs_of : ∀ (xs : List D) {vs : List V} {ks : List NK}, Reps g bs H xs vs → keyNs xs = some ks → KeyVs g.K H ks vs
  | [], vs, ks, r, e => by cases r; cases e; exact .nil
  | x :: xs, vs, ks, r, e => by
    cases r with
    | cons r1 r2 =>
      rw [keyNs] at e
      cases e1 : keyN x with
      | none => rw [e1] at e; cases e
      | some y =>
        cases e2 : keyNs xs with
        | none => rw [e1, e2] at e; cases e
        | some ys =>
          rw [e1, e2] at e
          cases e
          exact .cons (keyV_of x r1 e1) (keyVs_of xs r2 e2)
end
end
section
variable {X : Cx} {pins : List (Addr × Obj)} {σ : L2.St} {H : Hp} {s : Shared}
mutual
theorem KeyV.nested (I : Inv X pins σ H s) : ∀ (k : NK) {v : V} {u : Value}, KeyV X.K H k v → RelV v u → NestedIs s.heap k u
  | .none, v, u, r, ru => by
    cases r
    cases (show u = Value.none from ru)
    exact .none
  | .num i, v, u, r, ru => by
    cases r with
    | bool b => cases (show u = Value.bool b from ru); exact .bool rfl
    | int i => obtain ⟨t, rfl⟩ := (show ∃ t, u = Value.int i t from ru); exact .int i t
  | .text _, v, u, r, ru => by cases r
  | .tup ks, v, u, r, ru => by
    cases r with
    | @tup a vs _ t rs =>
      cases (show u = Value.ref a from ru)
      obtain ⟨its, rv, ⟨o, h1, h2, n, h3⟩, _⟩ := I.tuple t
      exact .tup h1 h2 h3 (by simpa using KeyVs.nested I ks rs rv)
theorem KeyVs.nested (I : Inv X pins σ H s) : ∀ (ks : List NK) {vs : List V} {us : List Value}, KeyVs X.K H ks vs → Vals vs us → NestedAll s.heap ks us
  | [], vs, us, r, ru => by cases r; cases ru; exact .nil
  | k :: ks, vs, us, r, ru => by
    cases r with
    | cons r1 r2 => cases ru with
      | cons u1 u2 => exact .cons (KeyV.nested I k r1 u1) (KeyVs.nested I ks r2 u2)
end
end
/-! ### the dict and the heap -/
def EntR (e : Ent) (x : NK × Addr × Value) : Prop := x.1 = e.1 ∧ x.2.1 = e.2.1 ∧ RelV e.2.2 x.2.2
theorem ents_of {prog : Program} {w : World} : ∀ {es : List Ent} {qs : List DictEntry}, Entries es qs → (∀ e ∈ es, tfree e.1 = true) → ∃ xs : List (NK × Addr × Value), qs = xs.map (entryOfKey (nestedKind prog w)) ∧ Paired EntR es xs
  | _, _, .nil, _ => ⟨[], rfl, .nil⟩
  | _, _, .cons (a := e) (b := q) r t, h => by
    obtain ⟨xs, h1, h2⟩ := ents_of t fun e he => h e (List.mem_cons_of_mem _ he)
    refine ⟨(e.1, e.2.1, q.val) :: xs, ?_, .cons ⟨rfl, rfl, r.2.2⟩ h2⟩
    rw [List.map_cons, ← h1]
    congr 1
    obtain ⟨qh, qk, qv⟩ := q
    obtain ⟨r1, r2, _⟩ := r
    simp only at r1 r2
    subst r1 r2
    show _ = DictEntry.mk (NestedKey.hash w e.1) _ _
    rw [hash0_eq w (h e List.mem_cons_self)]
theorem ents_to {prog : Program} {w : World} : ∀ {es : List Ent} {xs : List (NK × Addr × Value)}, Paired EntR es xs → (∀ e ∈ es, tfree e.1 = true) → Entries es (xs.map (entryOfKey (nestedKind prog w)))
  | _, _, .nil, _ => .nil
  | _, _, .cons (a := e) (b := x) r t, h => by
    refine .cons ⟨?_, ?_, r.2.2⟩ (ents_to t fun e he => h e (List.mem_cons_of_mem _ he))
    · show NestedKey.hash w x.1 = hash0 e.1
      rw [r.1, hash0_eq w (h e List.mem_cons_self)]
    · show Value.ref x.2.1 = _
      rw [r.2.1]
theorem entR_keys : ∀ {es : List Ent} {xs : List (NK × Addr × Value)}, Paired EntR es xs → xs.map (·.1) = es.map (·.1)
  | _, _, .nil => rfl
  | _, _, .cons r t => by rw [List.map_cons, List.map_cons, entR_keys t, r.1]
theorem entR_length : ∀ {es : List Ent} {xs : List (NK × Addr × Value)}, Paired EntR es xs → xs.length = es.length
  | _, _, .nil => rfl
  | _, _, .cons r t => by rw [List.length_cons, List.length_cons, entR_length t]
def NDic (K : PySem.W.Frag) (H : Hp) (a : Addr) (es : List Ent) : Prop := Rd H a (dnH a es) ∧ ∀ e ∈ es, KeyV K H e.1 (.ref e.2.1)
def NKey (K : PySem.W.Frag) (H : Hp) (y : V) (k : NK) : Prop := ∃ b, y = .ref b ∧ KeyV K H k y ∧ tfree k = true ∧ k.depth ≤ 8
section
variable {X : Cx} {pins : List (Addr × Obj)} {σ : L2.St} {H : Hp} {s : Shared} {a : Addr} {es : List Ent}
theorem ent_is (I : Inv X pins σ H s) : ∀ {es : List Ent} {xs : List (NK × Addr × Value)}, Paired EntR es xs → (∀ e ∈ es, tfree e.1 = true ∧ e.1.depth ≤ 8) → (∀ e ∈ es, KeyV X.K H e.1 (.ref e.2.1)) → ∀ x ∈ xs, (nestedKind X.prog X.w).is s.heap x.1 x.2.1
  | _, _, .nil, _, _ => fun x hx => nomatch hx
  | _, _, .cons (a := e) (b := x) r t, tf, d2 => fun y hy => by
    rcases List.mem_cons.mp hy with rfl | hy
    · refine ⟨?_, by rw [r.1]; exact (tf e List.mem_cons_self).2⟩
      rw [r.1, r.2.1]
      exact KeyV.nested I e.1 (d2 e List.mem_cons_self) rfl
    · exact ent_is I t (fun e he => tf e (List.mem_cons_of_mem _ he)) (fun e he => d2 e (List.mem_cons_of_mem _ he)) y hy
theorem dn_heap (I : Inv X pins σ H s) (d : NDic X.K H a es) : ∃ xs, s.heap.DictOfH (nestedKind X.prog X.w) a xs ∧ Paired EntR es xs ∧ es.length ≤ sizeLine ∧ (a == sysModules) = false ∧ ∀ e ∈ es, tfree e.1 = true ∧ e.1.depth ≤ 8 := by
  obtain ⟨⟨l, sm, tf, nd, o, qs, ep, g1, g2, g3, en⟩, _, _⟩ := (show ObjOk X.prog X.w H s.heap a (.ext (DnAt a es)) from d.1.ok I.hok)
  obtain ⟨xs, h1, h2⟩ := ents_of (prog := X.prog) (w := X.w) en fun e he => (tf e he).1
  refine ⟨xs, ⟨o, qs, ep, g1, g2, g3, h1, ?_, by rw [entR_keys h2]; exact nd⟩, h2, l, sm, tf⟩
  exact ent_is I h2 tf d.2
theorem dn_at {prog : Program} {w : World} {h : Heap} {xs : List (NK × Addr × Value)} (hm : h.DictOfH (nestedKind prog w) a xs) (p : Paired EntR es xs) (l : es.length ≤ sizeLine) (sm : (a == sysModules) = false) (tf : ∀ e ∈ es, tfree e.1 = true ∧ e.1.depth ≤ 8) : DnAt a es h := by
  obtain ⟨o, qs, ep, g1, g2, g3, g4, g5, g6⟩ := hm
  refine ⟨l, sm, tf, by rw [← entR_keys p]; exact g6, o, qs, ep, g1, g2, g3, ?_⟩
  rw [g4]
  exact ents_to p fun e he => (tf e he).1
theorem dn_ok {h : Heap} (d : DnAt a es h) : ObjOk X.prog X.w H h a (dnH a es) := by
  refine ⟨d, ?_, ?_⟩
  · obtain ⟨_, _, _, _, o, _, _, g1, _⟩ := d
    exact ⟨o, g1⟩
  · rintro h1 h2 ⟨l, sm, tf, nd, o, qs, ep, g1, g2⟩ k
    exact ⟨l, sm, tf, nd, o, qs, ep, k o g1, g2⟩
theorem nkey_is (I : Inv X pins σ H s) {y : V} {u : Value} {k : NK} (n : NKey X.K H y k) (r : RelV y u) : ∃ b, u = .ref b ∧ (nestedKind X.prog X.w).is s.heap k b := by
  obtain ⟨b, rfl, h1, _, h3⟩ := n
  cases (show u = Value.ref b from r)
  exact ⟨b, rfl, KeyV.nested I k h1 rfl, h3⟩
end
/-! ### what stands at a key -/
def lookE (es : List Ent) (k : NK) : Option V := (es.find? fun e => decide (e.1 = k)).map (·.2.2)
def lookN : List D → List D → NK → Option D
  | x :: ks, d :: ds, j => if keyN x = some j then some d else lookN ks ds j
  | _, _, _ => none
theorem atKey_ok {k : NK} : ∀ {es : List Ent} {xs : List (NK × Addr × Value)}, Paired EntR es xs → (lookE es k = none → atKey xs k = none) ∧ ∀ v, lookE es k = some v → ∃ p, atKey xs k = some p ∧ RelV v p.2
  | _, _, .nil => ⟨fun _ => rfl, fun v e => by cases e⟩
  | _, _, .cons (a := e) (b := x) r t => by
    unfold lookE atKey
    rw [List.find?_cons, List.find?_cons]
    by_cases hk : e.1 = k
    · rw [decide_eq_true hk, decide_eq_true (show x.1 = k by rw [r.1]; exact hk)]
      refine ⟨(fun z => by cases z), fun v z => ?_⟩
      cases z
      exact ⟨x.2, rfl, r.2.2⟩
    · rw [decide_eq_false hk, decide_eq_false (show ¬ x.1 = k by rw [r.1]; exact hk)]
      exact atKey_ok t
theorem lookN_ok {g : G} {bs : List Addr} {H : Hp} {k : NK} : ∀ {ks ds : List D} {es : List Ent}, keyNs ks = some (es.map (·.1)) → Reps g bs H ds (es.map (·.2.2)) → (lookN ks ds k = none → lookE es k = none) ∧ ∀ d, lookN ks ds k = some d → ∃ v, lookE es k = some v ∧ Rep g bs H d v
  | [], ds, [], e, r => ⟨fun _ => rfl, fun d z => by cases z⟩
  | [], ds, e0 :: es, e, r => by cases e
  | x :: ks, ds, es, e, r => by
    rw [keyNs] at e
    cases e1 : keyN x with
    | none => rw [e1] at e; cases e
    | some y =>
      cases e2 : keyNs ks with
      | none => rw [e1, e2] at e; cases e
      | some ys =>
        rw [e1, e2] at e
        cases es with
        | nil => cases e
        | cons e0 es =>
          rw [List.map_cons] at e
          simp only [Option.some.injEq, List.cons.injEq] at e
          obtain ⟨rfl, rfl⟩ := e
          cases r with
          | @cons d v ds vs r1 r2 =>
            rw [lookN, e1]
            unfold lookE
            rw [List.find?_cons]
            by_cases hk : e0.1 = k
            · rw [decide_eq_true hk, if_pos (by rw [hk])]
              exact ⟨(fun z => by cases z), fun d z => by cases z; exact ⟨_, rfl, r1⟩⟩
            · rw [decide_eq_false hk, if_neg (by simpa using hk)]
              exact lookN_ok e2 r2
end Ev
set_option Elab.async false
set_option linter.all false
set_option maxRecDepth 100000
set_option maxHeartbeats 4000000
/-! dicts whose keys are tuples: d[k], k in d, d[k] = v, {} -/
namespace Ev
open PySem PySem.Spec PyProof.Rows L2
def storedE (es : List Ent) (k : NK) (b : Addr) (v : V) : List Ent := if (lookE es k).isSome = true then es.map (fun e => if e.1 = k then (e.1, e.2.1, v) else e) else es ++ [(k, b, v)]
theorem isSome_ok {es : List Ent} {xs : List (NK × Addr × Value)} {k : NK} (p : Paired EntR es xs) : (atKey xs k).isSome = (lookE es k).isSome := by
  obtain ⟨h1, h2⟩ := atKey_ok (k := k) p
  cases hl : lookE es k with
  | none => rw [h1 hl]; rfl
  | some w => obtain ⟨q, hq, _⟩ := h2 w hl; rw [hq]; rfl
theorem entR_put {k : NK} {v : V} {u : Value} (r : RelV v u) : ∀ {es : List Ent} {xs : List (NK × Addr × Value)}, Paired EntR es xs → Paired EntR (es.map (fun e => if e.1 = k then (e.1, e.2.1, v) else e)) (xs.map (putAt k u))
  | _, _, .nil => .nil
  | _, _, .cons (a := e) (b := x) r0 t => by
    rw [List.map_cons, List.map_cons]
    refine .cons ?_ (entR_put r t)
    unfold putAt
    by_cases hk : e.1 = k
    · rw [if_pos hk, if_pos (by rw [r0.1]; exact hk)]
      exact ⟨r0.1, r0.2.1, r⟩
    · rw [if_neg hk, if_neg (by rw [r0.1]; exact hk)]
      exact r0
theorem entR_add {k : NK} {b : Addr} {v : V} {u : Value} (r : RelV v u) : ∀ {es : List Ent} {xs : List (NK × Addr × Value)}, Paired EntR es xs → Paired EntR (es ++ [(k, b, v)]) (xs ++ [(k, b, u)])
  | _, _, .nil => .cons ⟨rfl, rfl, r⟩ .nil
  | _, _, .cons r0 t => .cons r0 (entR_add r t)
theorem entR_stored {es : List Ent} {xs : List (NK × Addr × Value)} {k : NK} {b : Addr} {v : V} {u : Value} (p : Paired EntR es xs) (r : RelV v u) : Paired EntR (storedE es k b v) (storedH xs k b u) := by
  have hs := isSome_ok (k := k) p
  unfold storedE storedH
  rw [hs]
  split
  · exact entR_put r p
  · exact entR_add r p
theorem storedE_length {es : List Ent} {k : NK} {b : Addr} {v : V} : (storedE es k b v).length ≤ es.length + 1 := by
  unfold storedE
  split
  · rw [List.length_map]; omega
  · rw [List.length_append]; exact Nat.le_refl _
theorem storedE_tf {es : List Ent} {k : NK} {b : Addr} {v : V} (tf : ∀ e ∈ es, tfree e.1 = true ∧ e.1.depth ≤ 8) (h1 : tfree k = true) (h2 : k.depth ≤ 8) : ∀ e ∈ storedE es k b v, tfree e.1 = true ∧ e.1.depth ≤ 8 := by
  unfold storedE
  split
  · intro e he
    obtain ⟨e0, g1, rfl⟩ := List.mem_map.mp he
    have := tf e0 g1
    split <;> exact this
  · intro e he
    rcases List.mem_append.mp he with z | z
    · exact tf e z
    · obtain rfl := List.mem_singleton.mp z
      exact ⟨h1, h2⟩
section
variable {X : Cx} {pins : List (Addr × Obj)} {σ : L2.St} {H : Hp} {s : Shared} {a : Addr} {es : List Ent} {y v : V} {k : NK} {u r : Value} {A : Around}
theorem n_getItem {Q : Value → Shared → Prop} (hu : X.A.units + 20 < cLine) (I : Inv X pins σ H s) (d : NDic X.K H a es) (n : NKey X.K H y k) (hv : lookE es k = some v) (ry : RelV y u) (h : ∀ w' s', Inv X pins σ H s' → RelV v w' → Q w' s') :
    s.TypeIs (.ref a) "dict" ∧ wpAny (model X.prog X.w) X.A (getItem (.ref a) u) Q X.xe s := by
  obtain ⟨xs, dd, p, _, _, _⟩ := dn_heap I d
  obtain ⟨b, rfl, hk⟩ := nkey_is I n ry
  obtain ⟨q, hq, rq⟩ := (atKey_ok (k := k) p).2 v hv
  exact ⟨dd.typeIs, wpAny_getItem_heap (show X.A.in1.units + 8 < cLine from by show X.A.units + 1 + 8 < cLine; omega) hk dd hq (h _ _ (I.tok _) rq)⟩
theorem n_in {Q : Value → Shared → Prop} (hu : X.A.units + 20 < cLine) (I : Inv X pins σ H s) (d : NDic X.K H a es) (n : NKey X.K H y k) (ry : RelV y u) (h : ∀ s', Inv X pins σ H s' → Q (.bool (lookE es k).isSome) s') :
    wpAny (model X.prog X.w) X.A (compareOp .In u (.ref a)) Q X.xe s := by
  obtain ⟨xs, dd, p, _, sm, _⟩ := dn_heap I d
  obtain ⟨b, rfl, hk⟩ := nkey_is I n ry
  have hs := isSome_ok (k := k) p
  refine wpAny_in_heap (show X.A.in1.units + 8 < cLine from by show X.A.units + 1 + 8 < cLine; omega) hk sm dd ?_
  rw [hs]
  exact h _ (I.tok _)
theorem n_notIn {Q : Value → Shared → Prop} (hu : X.A.units + 20 < cLine) (I : Inv X pins σ H s) (d : NDic X.K H a es) (n : NKey X.K H y k) (ry : RelV y u) (h : ∀ s', Inv X pins σ H s' → Q (.bool (!(lookE es k).isSome)) s') :
    wpAny (model X.prog X.w) X.A (compareOp .NotIn u (.ref a)) Q X.xe s := by
  obtain ⟨xs, dd, p, _, sm, _⟩ := dn_heap I d
  obtain ⟨b, rfl, hk⟩ := nkey_is I n ry
  have hs := isSome_ok (k := k) p
  show wpAny _ _ (do return .bool (!(← contains (.ref a) (.ref b)))) Q X.xe s
  refine wpAny_bind (wpAny_contains_heap (show X.A.in1.units + 8 < cLine from by show X.A.units + 1 + 8 < cLine; omega) hk sm dd (wpAny_pure ?_))
  rw [hs]
  exact h _ (I.tok _)
theorem n_setItem {Q : Unit → Shared → Prop} (hu : X.A.units + 20 < cLine) (I : Inv X pins σ H s) (ea : H a = some (dnH a es)) (d : ∀ e ∈ es, KeyV X.K H e.1 (.ref e.2.1)) (n : NKey X.K H (.ref b) k) (hl : es.length < sizeLine) (ry : RelV (.ref b) u) (rv : RelV v r)
    (h : ∀ s', Inv X pins σ (upd H a (dnH a (storedE es k b v))) s' → Q () s') : wpAny (model X.prog X.w) X.A (setItem (.ref a) u r) Q X.xe s := by
  obtain ⟨xs, dd, p, l, sm, tf⟩ := dn_heap I ⟨.inl ea, d⟩
  obtain ⟨b', rfl, hk⟩ := nkey_is I n ry
  cases (show Value.ref b' = Value.ref b from ry)
  have e1 := entR_stored (k := k) (b := b) p rv
  have nt : tfree k = true ∧ k.depth ≤ 8 := by obtain ⟨_, _, _, z1, z2⟩ := n; exact ⟨z1, z2⟩
  refine wpAny_setItem_heap (hsz := by rw [entR_length p]; exact l) (show X.A.in1.units + 8 < cLine from by show X.A.units + 1 + 8 < cLine; omega) hk dd fun h' dd' hs => h _ ?_
  have da := dn_at dd' e1 (by have := storedE_length (es := es) (k := k) (b := b) (v := v); omega) sm (storedE_tf tf nt.1 nt.2)
  have he : ∃ q, h'.get? a = some q := let ⟨q, _, _, hq, _⟩ := dd'; ⟨q, hq⟩
  exact d_write I (by rw [ea]; exact True.intro) hs he (dn_ok da)
end
end Ev
set_option Elab.async false
set_option linter.all false
set_option maxRecDepth 100000
set_option maxHeartbeats 4000000
/-! dicts whose keys are tuples: the rules -/
namespace Ev
open PySem PySem.Spec PyProof.Rows L2
def dnL (h : Hs) : D → Option (List D × List D)
  | .dnt ks ds => some (ks, ds)
  | .ref n => match h[n]? with
    | some (.dn ks ds) => some (ks, ds)
    | some (.lk _ _ (.dn ks ds)) => some (ks, ds)
    | _ => none
  | _ => none
/-- a tuple as a key -/
def keyT : D → Option NK
  | .tup xs => match keyNs xs with
    | some ks => if (tfrees ks && Nat.ble (NestedKey.depth (.tup ks)) 8) = true then some (.tup ks) else none
    | none => none
  | _ => none
section
variable {g : G} {bs : List Addr} {h : Hs} {H : Hp}
theorem keyVs_mem : ∀ {es : List Ent}, KeyVs g.K H (es.map (·.1)) (es.map fun e => V.ref e.2.1) → ∀ e ∈ es, KeyV g.K H e.1 (.ref e.2.1)
  | [], _, e, he => nomatch he
  | e0 :: es, r, e, he => by
    cases r with
    | cons r1 r2 =>
      rcases List.mem_cons.mp he with rfl | he
      · exact r1
      · exact keyVs_mem r2 e he
theorem dn_rep {x : D} {v : V} {ks ds : List D} (hr : HRel g bs h H) (r : Rep g bs H x v) (e : dnL h x = some (ks, ds)) :
    ∃ (a : Addr) (es : List Ent), v = .ref a ∧ NDic g.K H a es ∧ keyNs ks = some (es.map (·.1)) ∧ Reps g bs H ks (es.map fun e => V.ref e.2.1) ∧ Reps g bs H ds (es.map (·.2.2)) := by
  cases r with
  | dnt n h1 h2 h3 h4 =>
    cases e
    exact ⟨_, _, rfl, ⟨.inr ⟨_, h1⟩, keyVs_mem (keyVs_of ks h3 h2)⟩, h2, h3, h4⟩
  | @ref n a hb =>
    unfold dnL at e
    dsimp only at e
    split at e
    · rename_i ks' ds' hx
      cases e
      obtain ⟨a', g1, es, g2, g3, g4, g5⟩ := hr.at_ _ _ hx
      rw [hb] at g1
      cases g1
      exact ⟨a, es, rfl, ⟨.inl g2, keyVs_mem (keyVs_of ks g4 g3)⟩, g3, g4, g5⟩
    · rename_i od u ks' ds' hx
      cases e
      obtain ⟨a', g1, g2, es, rfl, g3, g4, g5⟩ := hr.at_ _ _ hx
      rw [hb] at g1
      cases g1
      exact ⟨a, es, rfl, ⟨.inr ⟨_, g2⟩, keyVs_mem (keyVs_of ks g4 g3)⟩, g3, g4, g5⟩
    · cases e
  | _ => cases e
theorem keyT_ok {y : D} {v : V} {k : NK} (r : Rep g bs H y v) (e : keyT y = some k) : NKey g.K H v k ∧ keyN y = some k := by
  unfold keyT at e
  split at e
  · rename_i xs
    split at e
    · rename_i ks hk
      split at e
      · rename_i hc
        cases e
        rw [Bool.and_eq_true] at hc
        have e1 : keyN (.tup xs) = some (.tup ks) := by rw [keyN, hk]; rfl
        have hv := keyV_of _ r e1
        cases r with
        | tup t rs => exact ⟨⟨_, rfl, hv, by rw [tfree]; exact hc.1, Nat.le_of_ble_eq_true hc.2⟩, e1⟩
      · cases e
    · cases e
  · cases e
end
def ndgetD (x y : D) (h : Hs) : R D := match dnL h x, keyT y with
  | some (ks, ds), some k => match lookN ks ds k with
    | some d => .ok d h
    | none => .bad
  | _, _ => .bad
def ninD (y x : D) (h : Hs) : R D := match dnL h x, keyT y with
  | some (ks, ds), some k => .ok (.bl (lookN ks ds k).isSome) h
  | _, _ => .bad
def nnotD (y x : D) (h : Hs) : R D := match dnL h x, keyT y with
  | some (ks, ds), some k => .ok (.bl (!(lookN ks ds k).isSome)) h
  | _, _ => .bad
/-- the dict with y told z -/
def putND (ks ds : List D) (y : D) (k : NK) (z : D) : List D × List D := if (lookN ks ds k).isSome = true then (ks, List.zipWith (fun x e => if keyN x = some k then z else e) ks ds) else (ks ++ [y], ds ++ [z])
def ndputD (x y z : D) (h : Hs) : Option Hs := match x with
  | .ref n => match h[n]?, keyT y with
    | some (.dn ks ds), some k => if ks.length < big then some (h.set n (.dn (putND ks ds y k z).1 (putND ks ds y k z).2)) else none
    | _, _ => none
  | _ => none
def rNIn (K : PySem.W.Frag) : R2 := fun y x H Q => ∃ a es k, x = .ref a ∧ NDic K H a es ∧ NKey K H y k ∧ Q (.bl (lookE es k).isSome) H
def rNNot (K : PySem.W.Frag) : R2 := fun y x H Q => ∃ a es k, x = .ref a ∧ NDic K H a es ∧ NKey K H y k ∧ Q (.bl (!(lookE es k).isSome)) H
def tNGet (K : PySem.W.Frag) (td ty : TE) : TE := fun σ H Q => td σ H fun x H1 => ty σ H1 fun y H2 => ∃ a es k v, x = .ref a ∧ NDic K H2 a es ∧ NKey K H2 y k ∧ lookE es k = some v ∧ Q v H2
def tNPut (K : PySem.W.Frag) (td ty tv : TE) : TS := fun D σ H => tv σ H fun v H1 => td σ H1 fun x H2 => ty σ H2 fun y H3 => ∃ a es k b, x = .ref a ∧ y = .ref b ∧ H3 a = some (dnH a es) ∧ (∀ e ∈ es, KeyV K H3 e.1 (.ref e.2.1)) ∧ NKey K H3 y k ∧ es.length < sizeLine ∧ D.nx σ (upd H3 a (dnH a (storedE es k b v)))
section
variable {g : G} {bs : List Addr} {h : Hs} {H : Hp}
theorem look_same {k : NK} {ks ds : List D} {es : List Ent} (e : keyNs ks = some (es.map (·.1))) (r : Reps g bs H ds (es.map (·.2.2))) : (lookN ks ds k).isSome = (lookE es k).isSome := by
  obtain ⟨h1, h2⟩ := lookN_ok (k := k) e r
  cases hl : lookN ks ds k with
  | none => rw [h1 hl]; rfl
  | some d => obtain ⟨v, hv, _⟩ := h2 d hl; rw [hv]; rfl
theorem opj_nin : OpJ g (rNIn g.K) ninD := ⟨fun W bs h H y x vy vx Q hr ry rx p => by
  unfold ninD at p
  split at p
  · rename_i ks ds k hd hk
    obtain ⟨a, es, rfl, g1, g2, _, g3⟩ := dn_rep hr rx hd
    refine ⟨a, es, k, rfl, g1, (keyT_ok ry hk).1, ?_⟩
    rw [look_same g2 g3] at p
    exact Post.ok_ p hr (.bl _)
  · exact p.elim⟩
theorem opj_nnot : OpJ g (rNNot g.K) nnotD := ⟨fun W bs h H y x vy vx Q hr ry rx p => by
  unfold nnotD at p
  split at p
  · rename_i ks ds k hd hk
    obtain ⟨a, es, rfl, g1, g2, _, g3⟩ := dn_rep hr rx hd
    refine ⟨a, es, k, rfl, g1, (keyT_ok ry hk).1, ?_⟩
    rw [look_same g2 g3] at p
    exact Post.ok_ p hr (.bl _)
  · exact p.elim⟩
end
section
variable {X : Cx}
theorem opr_nin (hu : X.A.units + 200 < cLine) : OpR X (compareOp .In) (rNIn X.K) := by
  intro pins s σ H x y v u Q I rx ry ⟨a, es, k, ey, d, n, q⟩
  subst ey
  cases (show u = Value.ref a from ry)
  exact n_in (by omega) I d n rx fun s' I' => ⟨.bl _, H, I', rfl, q⟩
theorem opr_nnot (hu : X.A.units + 200 < cLine) : OpR X (compareOp .NotIn) (rNNot X.K) := by
  intro pins s σ H x y v u Q I rx ry ⟨a, es, k, ey, d, n, q⟩
  subst ey
  cases (show u = Value.ref a from ry)
  exact n_notIn (by omega) I d n rx fun s' I' => ⟨.bl _, H, I', rfl, q⟩
end
section
variable {ci : Nat → String × List String} {X : Cx} {W : WX} {pos spos : Pos} {a b o i v : Expr} {ta tb to ti tv : TE} {fa fb fo fi fv : En → Hs → R D}
theorem pe_nget (hu : X.A.units + 200 < cLine) (ho : PE X o to) (hi : PE X i ti) (hs : NoSl i) : PE X (.Subscript o i pos) (tNGet X.K to ti) := by
  refine ⟨fun pins s σ H Q I h => ?_⟩
  refine subD_of PySem.F.slot_dict_getitem.lookup hs (thn (ho.run pins s σ H _ I h) fun u s1 ⟨x, H1, I1, rx, q1⟩ => thn (hi.run pins s1 σ H1 _ I1 q1) fun iv s2 ⟨y, H2, I2, ry, a, es, k, v, ex, d, n, e, q2⟩ => ?_)
  subst ex
  obtain rfl : u = Value.ref a := rx
  exact n_getItem (by omega) I2 d n e ry fun w' s3 I3 rw' => ⟨v, H2, I3, rw', q2⟩
theorem ej_nget (hu : X.A.units + 200 < cLine) (ha : EJ ci X W a ta fa) (hb : EJ ci X W b tb fb) (hs : NoSl b := by exact fun _ _ => rfl) : EJ ci X W (.Subscript a b pos) (tNGet X.K ta tb) (eBin ndgetD fa fb) :=
  ⟨pe_nget hu ha.pe hb.pe hs, fun σ H env h bs Q er hr p => ha.sim.step er hr p fun x vx bs1 H1 h1 e1 hr1 er1 rx p1 => hb.sim.step er1 hr1 p1 fun y vy bs2 H2 h2 e2 hr2 er2 ry p2 => by
    unfold ndgetD at p2
    split at p2
    · rename_i ks ds k hd hk
      split at p2
      · rename_i d hl
        obtain ⟨p, es, rfl, g1, g2, _, g3⟩ := dn_rep hr2 (rx.mono e2) hd
        obtain ⟨v, g4, g5⟩ := (lookN_ok g2 g3).2 d hl
        exact ⟨p, es, k, v, rfl, g1, (keyT_ok ry hk).1, g4, Post.ok_ p2 hr2 g5⟩
      · exact p2.elim
    · exact p2.elim⟩
theorem ps_nput (hu : X.A.units + 200 < cLine) (ho : PE X o to) (hi : PE X i ti) (hv : PE X v tv) (hs : swapsWith v (some (.Subscript o i spos)) pos.line X.env = pure false) : PS X (.Assign [.Subscript o i spos] v pos) (tNPut X.K to ti tv) := by
  refine ⟨fun pins s σ H D I h => ?_⟩
  refine wpAny_Assign_Subscript (thn (hv.run pins s σ H _ I h) fun r s1 ⟨v, H1, I1, rv, q1⟩ => thn (ho.run pins s1 σ H1 _ I1 q1) fun u s2 ⟨x, H2, I2, rx, q2⟩ => thn (hi.run pins s2 σ H2 _ I2 q2) fun iv s3 ⟨y, H3, I3, ry, a, es, k, b, ex, ey, ea, d, n, hl, q3⟩ => ?_) hs
  subst ex ey
  obtain rfl : u = Value.ref a := rx
  exact n_setItem (by omega) I3 ea d n hl ry rv fun s4 I4 => ⟨σ, _, I4, q3⟩
end
/-! d[k] = v -/
section
variable {g : G} {bs : List Addr} {h : Hs} {H : Hp}
theorem keyNs_add {y : D} {k : NK} (e : keyN y = some k) : ∀ {ks : List D} {js : List NK}, keyNs ks = some js → keyNs (ks ++ [y]) = some (js ++ [k])
  | [], js, z => by
    cases z
    show (match keyN y, keyNs [] with
      | some y, some ys => some (y :: ys)
      | _, _ => none) = _
    rw [e]
    rfl
  | x :: ks, js, z => by
    rw [keyNs] at z
    cases e1 : keyN x with
    | none => rw [e1] at z; cases z
    | some a =>
      cases e2 : keyNs ks with
      | none => rw [e1, e2] at z; cases z
      | some as =>
        rw [e1, e2] at z
        cases z
        show (match keyN x, keyNs (ks ++ [y]) with
          | some y, some ys => some (y :: ys)
          | _, _ => none) = _
        rw [e1, keyNs_add e e2]
        rfl
theorem put_at {k : NK} {z : D} {v : V} (r : Rep g bs H z v) : ∀ {ks ds : List D} {es : List Ent}, keyNs ks = some (es.map (·.1)) → Reps g bs H ds (es.map (·.2.2)) →
    Reps g bs H (List.zipWith (fun x e => if keyN x = some k then z else e) ks ds) ((es.map (fun e => if e.1 = k then (e.1, e.2.1, v) else e)).map (·.2.2))
  | [], ds, [], e, rs => by cases rs; exact .nil
  | [], ds, e0 :: es, e, rs => by cases e
  | x :: ks, ds, es, e, rs => by
    rw [keyNs] at e
    cases e1 : keyN x with
    | none => rw [e1] at e; cases e
    | some y =>
      cases e2 : keyNs ks with
      | none => rw [e1, e2] at e; cases e
      | some ys =>
        rw [e1, e2] at e
        cases es with
        | nil => cases e
        | cons e0 es =>
          rw [List.map_cons] at e
          simp only [Option.some.injEq, List.cons.injEq] at e
          obtain ⟨rfl, rfl⟩ := e
          cases rs with
          | cons r1 r2 =>
            rw [List.zipWith_cons_cons, List.map_cons, List.map_cons, e1]
            refine .cons ?_ (put_at r e2 r2)
            by_cases hk : e0.1 = k
            · rw [if_pos (by rw [hk]), if_pos hk]; exact r
            · rw [if_neg (by simpa using hk), if_neg hk]; exact r1
theorem putND_ok {y z : D} {b : Addr} {v : V} {k : NK} {ks ds : List D} {es : List Ent} (ek : keyNs ks = some (es.map (·.1))) (r1 : Reps g bs H ks (es.map fun e => V.ref e.2.1)) (r2 : Reps g bs H ds (es.map (·.2.2))) (ry : Rep g bs H y (.ref b)) (ey : keyN y = some k) (rz : Rep g bs H z v) :
    keyNs (putND ks ds y k z).1 = some ((storedE es k b v).map (·.1)) ∧ Reps g bs H (putND ks ds y k z).1 ((storedE es k b v).map fun e => V.ref e.2.1) ∧ Reps g bs H (putND ks ds y k z).2 ((storedE es k b v).map (·.2.2)) := by
  unfold putND storedE
  rw [look_same ek r2]
  split
  · have e1 : (es.map (fun e => if e.1 = k then (e.1, e.2.1, v) else e)).map (·.1) = es.map (·.1) := by
      rw [List.map_map]
      refine List.map_congr_left fun e _ => ?_
      show (if e.1 = k then (e.1, e.2.1, v) else e).1 = e.1
      split <;> rfl
    have e2 : (es.map (fun e => if e.1 = k then (e.1, e.2.1, v) else e)).map (fun e => V.ref e.2.1) = es.map fun e => V.ref e.2.1 := by
      rw [List.map_map]
      refine List.map_congr_left fun e _ => ?_
      show V.ref (if e.1 = k then (e.1, e.2.1, v) else e).2.1 = V.ref e.2.1
      split <;> rfl
    rw [e1, e2]
    exact ⟨ek, r1, put_at rz ek r2⟩
  · rw [List.map_append, List.map_append, List.map_append]
    exact ⟨keyNs_add ey ek, r1.append (.cons ry .nil), r2.append (.cons rz .nil)⟩
end
def sNPut (fo fi fv : En → Hs → R D) : En → Hs → S := fun env h => (fv env h).toS env fun z h1 => (fo env h1).toS env fun x h2 => (fi env h2).toS env fun y h3 => match ndputD x y z h3 with
  | some h4 => .nx env h4
  | none => .bad
@[simp] theorem sNPut_ap {fo fi fv : En → Hs → R D} {env : En} {h : Hs} : sNPut fo fi fv env h = (fv env h).toS env fun z h1 => (fo env h1).toS env fun x h2 => (fi env h2).toS env fun y h3 => match ndputD x y z h3 with
  | some h4 => .nx env h4
  | none => .bad := rfl
theorem keyNs_length : ∀ {ks : List D} {js : List NK}, keyNs ks = some js → ks.length = js.length
  | [], js, z => by cases z; rfl
  | x :: ks, js, z => by
    rw [keyNs] at z
    cases e1 : keyN x with
    | none => rw [e1] at z; cases z
    | some a =>
      cases e2 : keyNs ks with
      | none => rw [e1, e2] at z; cases z
      | some as =>
        rw [e1, e2] at z
        cases z
        rw [List.length_cons, List.length_cons, keyNs_length e2]
section
variable {ci : Nat → String × List String} {X : Cx} {W : WX} {pos spos : Pos} {o i v : Expr} {to ti tv : TE} {fo fi fv : En → Hs → R D}
theorem sj_nput (hu : X.A.units + 200 < cLine) (hv : EJ ci X W v tv fv) (ho : EJ ci X W o to fo) (hi : EJ ci X W i ti fi) (hs : swapsWith v (some (.Subscript o i spos)) pos.line X.env = pure false := by rfl) :
    SJ ci X W (.Assign [.Subscript o i spos] v pos) (tNPut X.K to ti tv) (sNPut fo fi fv) :=
  ⟨ps_nput hu ho.pe hi.pe hv.pe hs, fun σ H env h bs E er hr p => hv.sim.stepS er hr p fun z vz bs1 H1 h1 e1 hr1 er1 rz p1 => ho.sim.stepS er1 hr1 p1 fun x vx bs2 H2 h2 e2 hr2 er2 rx p2 => hi.sim.stepS er2 hr2 p2 fun y vy bs3 H3 h3 e3 hr3 er3 ry p3 => by
    split at p3
    · rename_i h4 hd
      unfold ndputD at hd
      split at hd
      · rename_i n
        split at hd
        · rename_i ks ds k hx hk
          split at hd
          · rename_i hl
            cases hd
            cases (rx.mono e3) with
            | @ref _ a hb =>
              obtain ⟨a', g1, es, g2, g3, g4, g5⟩ := hr3.at_ _ _ hx
              rw [hb] at g1
              cases g1
              obtain ⟨nk, ek⟩ := keyT_ok ry hk
              obtain ⟨b, rfl, nk2⟩ := nk
              obtain ⟨q1, q2, q3⟩ := putND_ok (b := b) g3 g4 g5 ry ek ((rz.mono e2).mono e3)
              refine ⟨a, es, k, b, rfl, rfl, g2, keyVs_mem (keyVs_of ks g4 g3), ⟨b, rfl, nk2⟩, ?_, ?_⟩
              · have := keyNs_length g3
                rw [List.length_map] at this
                rw [← this, big_eq]
                exact hl
              · exact p3 bs3 _ σ (.cell hr3 hb) (hr3.cell hb ⟨_, upd_same, q1, q2.mono (.cell hr3 hb), q3.mono (.cell hr3 hb)⟩) (er3.mono (.cell hr3 hb))
          · cases hd
        · cases hd
      · cases hd
    · exact p3.elim⟩
end
/-! {} -/
def eNNew : En → Hs → R D := fun _ h => .ok (.ref h.length) (h ++ [.dn [] []])
@[simp] theorem eNNew_ap {env : En} {h : Hs} : eNNew env h = .ok (.ref h.length) (h ++ [.dn [] []]) := rfl
def tNNew : TE := fun _ H Q => ∀ p, H p = none → Q (.ref p) (upd H p (dnH p []))
theorem dn_empty {P : Program} {w : World} {H : Hp} (h : Heap) (hb : sysModules < h.objs.size) : ObjOk P w H (h.push { cls := .type "dict", data := .dict #[] }) h.objs.size (dnH h.objs.size []) := by
  refine ⟨⟨Nat.zero_le _, beq_eq_false_iff_ne.mpr (Ne.symm (Nat.ne_of_lt hb)), (fun e he => nomatch he), List.nodup_nil, _, #[], 0, Heap.get?_push_size _ rfl, ⟨rfl, rfl, rfl⟩, rfl, .nil⟩, ⟨_, Heap.get?_push_size _ rfl⟩, ?_⟩
  rintro h1 h2 ⟨l, sm, tf, nd, o, qs, ep, g1, g2⟩ k
  exact ⟨l, sm, tf, nd, o, qs, ep, k o g1, g2⟩
section
variable {ci : Nat → String × List String} {X : Cx} {W : WX} {pos : Pos}
theorem pe_nnew : PE X (.Dict [] [] pos) tNNew := ⟨fun pins s σ H Q I h =>
  wpAny_Dict_empty ⟨.ref s.heap.objs.size, _, I.laid (a := s.heap.objs.size) (o := dnH s.heap.objs.size []) (t' := s.toks) (fun _ _ q => Heap.get?_push_of_some _ q) (Nat.le_refl _) (dn_empty s.heap I.big), rfl, h _ (I.hok.fresh (Nat.le_refl _))⟩⟩
end
end Ev
set_option Elab.async false
set_option linter.all false
set_option maxRecDepth 100000
set_option maxHeartbeats 4000000
/-! dicts whose keys are tuples: {}, {k: v} -/
namespace Ev
open PySem PySem.Spec PyProof.Rows L2
theorem ext_cell {bs : List Addr} {H : Hp} {p : Addr} {ho : HO} (hp : H p = none) : Ext bs H (bs ++ [p]) (upd H p ho) := by
  refine ⟨⟨[p], rfl, by simp [hp]⟩, fun b o hb _ => ?_, fun b o hb => ⟨o, ?_⟩⟩ <;>
  · rw [upd_ne (fun z => by rw [z, hp] at hb; cases hb)]
    exact hb
section
variable {ci : Nat → String × List String} {X : Cx} {W : WX} {pos : Pos} {k v : Expr} {tk tv : TE} {fk fv : En → Hs → R D}
theorem repO_empty {g : G} {bs : List Addr} {H : Hp} {p : Addr} : RepO g bs (upd H p (dnH p [])) p (.dn [] []) := ⟨[], upd_same, rfl, .nil, .nil⟩
theorem ej_nnew : EJ ci X W (.Dict [] [] pos) tNNew eNNew :=
  ⟨pe_nnew, fun σ H env h bs Q er hr q => fun p hp => by
    have hr2 := hr.newM (ho := dnH p []) (o := .dn [] []) hp repO_empty
    exact q (bs ++ [p]) _ _ (ext_cell hp) hr2 (.ref (by rw [← hr.len]; simp))⟩
def tNOne (K : PySem.W.Frag) (tk tv : TE) : TE := fun σ H Q => ∀ p, H p = none → tk σ (upd H p (dnH p [])) fun y H1 => tv σ H1 fun z H2 => ∃ k b, H2 p = some (dnH p []) ∧ y = .ref b ∧ NKey K H2 y k ∧ Q (.ref p) (upd H2 p (dnH p (storedE [] k b z)))
def eNOne (fk fv : En → Hs → R D) : En → Hs → R D := fun env h => (fk env (h ++ [.dn [] []])).bind fun y h1 => (fv env h1).bind fun z h2 => match h2[h.length]?, keyT y with
  | some (.dn [] []), some _ => .ok (.ref h.length) (h2.set h.length (.dn [y] [z]))
  | _, _ => .bad
@[simp] theorem eNOne_ap {env : En} {h : Hs} : eNOne fk fv env h = (fk env (h ++ [.dn [] []])).bind fun y h1 => (fv env h1).bind fun z h2 => match h2[h.length]?, keyT y with
  | some (.dn [] []), some _ => .ok (.ref h.length) (h2.set h.length (.dn [y] [z]))
  | _, _ => .bad := rfl
theorem pe_none1 (hu : X.A.units + 200 < cLine) (hk : PE X k tk) (hv : PE X v tv) : PE X (.Dict [some k] [v] pos) (tNOne X.K tk tv) := by
  refine ⟨fun pins s σ H Q I q => ?_⟩
  have hn := I.hok.fresh (Nat.le_refl s.heap.objs.size)
  have I1 := I.laid (a := s.heap.objs.size) (o := dnH s.heap.objs.size []) (h' := s.heap.push { cls := .type "dict", data := .dict #[] }) (t' := s.toks) (fun _ _ q => Heap.get?_push_of_some _ q) (Nat.le_refl _) (dn_empty s.heap I.big)
  have hs := zip_pairTrees [some k] [v] X.env pos rfl rfl
  have hn2 := pairTrees_length [some k] [v] X.env pos rfl rfl
  rw [arm_eval_Dict, hs, dictDisplay_pairs (pairTrees [some k] [v] X.env pos) (by intro e; rw [e] at hn2; cases hn2) (by rw [hn2]; show 1 < 17; decide)]
  refine wpAny_bind (wpAny_standAt (wpAny_bind (wpAny_subDictH (knd := nestedKind X.prog X.w) (show X.A.units + 8 < cLine by omega) (by rw [hn2]; show 1 ≤ 15; decide) ?_)))
  refine pairTrees_cons_walk (thn (hk.run pins _ σ _ _ I1 (q _ hn)) fun u s1 ⟨y, H1, I2, ry, q1⟩ => thn (hv.run pins s1 σ H1 _ I2 q1) fun w2 s2 ⟨z, H2, I3, rz, kk, b, ep, ey, nk, q2⟩ => pairTrees_nil_walk ?_)
  subst ey
  obtain ⟨b', rfl, hk'⟩ := nkey_is I3 nk ry
  cases (show Value.ref b' = Value.ref b from ry)
  obtain ⟨xs, dd, pr, l, sm, tf⟩ := dn_heap I3 ⟨.inl ep, fun e he => nomatch he⟩
  cases pr
  have nt : tfree kk = true ∧ kk.depth ≤ 8 := by obtain ⟨_, _, _, z1, z2⟩ := nk; exact ⟨z1, z2⟩
  refine ⟨[(kk, b, w2)], ⟨rfl, rfl, hk', trivial⟩, dd, fun h' tk' dd' hs' => wpAny_pure ⟨.ref s.heap.objs.size, _, ?_, rfl, q2⟩⟩
  have e1 : Paired EntR (storedE [] kk b z) (storedAllH [] [(kk, b, w2)]) := entR_stored (k := kk) (b := b) .nil rz
  have da := dn_at dd' e1 (by have := storedE_length (es := []) (k := kk) (b := b) (v := z); rw [sizeLine_eq]; simp at this ⊢; omega) sm (storedE_tf tf nt.1 nt.2)
  have he : ∃ q, h'.get? s.heap.objs.size = some q := let ⟨q, _, _, hq, _⟩ := dd'; ⟨q, hq⟩
  exact d_write I3 (by rw [ep]; exact True.intro) hs' he (dn_ok da)
theorem ej_none1 (hu : X.A.units + 200 < cLine) (hk : EJ ci X W k tk fk) (hv : EJ ci X W v tv fv) : EJ ci X W (.Dict [some k] [v] pos) (tNOne X.K tk tv) (eNOne fk fv) :=
  ⟨pe_none1 hu hk.pe hv.pe, fun σ H env h bs Q er hr q => fun p hp => by
    have hr0 := hr.newM (ho := dnH p []) (o := .dn [] []) hp repO_empty
    have e0 := ext_cell (bs := bs) (ho := dnH p []) hp
    have hb0 : (bs ++ [p])[h.length]? = some p := by rw [← hr.len]; simp
    have q0 : Post (relV (X.g ci)) (X.g ci) (fun C d H' => W C d σ H') (bs ++ [p]) (upd H p (dnH p [])) (eNOne fk fv env h) Q := Post.mono e0 q
    exact hk.sim.step (er.mono e0) hr0 q0 fun y vy bs1 H1 h1 e1 hr1 er1 ry p1 => hv.sim.step er1 hr1 p1 fun z vz bs2 H2 h2 e2 hr2 er2 rz p2 => by
      split at p2
      · rename_i j hx hk
        obtain ⟨a', g1, es, g2, g3, g4, g5⟩ := hr2.at_ _ _ hx
        have hb2 := e2.get (e1.get hb0)
        rw [hb2] at g1
        cases g1
        cases es with
        | cons e es => rw [List.map_cons] at g4; cases g4
        | nil =>
          obtain ⟨⟨b, eb, nk⟩, ek⟩ := keyT_ok (ry.mono e2) hk
          subst eb
          refine ⟨j, b, g2, rfl, ⟨b, rfl, nk⟩, ?_⟩
          have c2 : Ext bs2 H2 bs2 (upd H2 p (dnH p (storedE [] j b vz))) := .cell hr2 hb2
          refine p2 bs2 _ _ c2 (hr2.cell hb2 ⟨[(j, b, vz)], upd_same, ?_, .cons ((ry.mono e2).mono c2) .nil, .cons (rz.mono c2) .nil⟩) (.ref hb2)
          show (match keyN y, keyNs [] with
            | some y, some ys => some (y :: ys)
            | _, _ => none) = _
          rw [ek]
          rfl
      · exact p2.elim⟩
end
end Ev
set_option Elab.async false
set_option linter.all false
set_option maxRecDepth 100000
set_option maxHeartbeats 4000000
/-! for k in d, d a locked dict whose keys are tuples -/
namespace Ev
open PySem PySem.Spec PyProof.Rows L2
def Itn (d : Addr) (o : Obj) (es : List Ent) : It :=
  ⟨fun i H => H d = some (.frz o (dnH d es)) ∧ i < es.length, fun i H x H' => H' = H ∧ ∃ e, es[i]? = some e ∧ x = .ref e.2.1, fun i H => H d = some (.frz o (dnH d es)) ∧ es.length ≤ i⟩
theorem entries_at : ∀ {es : List Ent} {qs : List DictEntry}, Entries es qs → ∀ (i : Nat) (e : Ent), es[i]? = some e → ∃ q, qs[i]? = some q ∧ RelV (.ref e.2.1) q.key
  | _, _, .nil, i, e, h => by simp at h
  | _, _, .cons (a := a) (b := b) r t, 0, e, h => by
    cases h
    exact ⟨b, rfl, r.2.1⟩
  | _, _, .cons r t, i + 1, e, h => entries_at t i e (by simpa using h)
theorem entries_length : ∀ {es : List Ent} {qs : List DictEntry}, Entries es qs → qs.length = es.length
  | _, _, .nil => rfl
  | _, _, .cons r t => by rw [List.length_cons, List.length_cons, entries_length t]
theorem frzN {X : Cx} {pins : List (Addr × Obj)} {σ : L2.St} {H : Hp} {s : Shared} {d : Addr} {o : Obj} {es : List Ent} (I : Inv X pins σ H s) (hd : H d = some (.frz o (dnH d es))) :
    (d == sysModules) = false ∧ s.heap.get? d = some o ∧ o.ExactDict ∧ ∃ qs ep, o.data = .dict qs ep ∧ qs.size = es.length ∧ ∀ (i : Nat) (e : Ent), es[i]? = some e → ∃ q, qs[i]? = some q ∧ RelV (.ref e.2.1) q.key := by
  obtain ⟨h0, ⟨l, sm, tf, nd, o', qs, ep, g1, g2, g3, en⟩, _, _⟩ := (show ObjOk X.prog X.w H s.heap d (.frz o (.ext (DnAt d es))) from I.hok d _ hd)
  rw [h0] at g1
  cases g1
  refine ⟨sm, h0, g2, qs, ep, g3, by rw [← Array.length_toList]; exact entries_length en, fun i e he => ?_⟩
  obtain ⟨q, hq, r⟩ := entries_at en i e he
  exact ⟨q, by rw [← Array.getElem?_toList]; exact hq, r⟩
section
variable {P : Program} {w : World} {K : PySem.W.Frag} {tg : Expr} {d : Addr} {o : Obj} {es : Array DictEntry} {ep : Nat}
theorem turn_keysN {kvs : List Ent} (it : Addr) (hod : o.data = .dict es ep) : Turn P w K tg (Itn d o kvs) [it] it (fun i h => h.IsKeyIter it d i kvs.length ep) where
  mem := by simp
  obj := fun i h st b hb => by
    have e : b = it := by simpa using hb
    subst e
    obtain ⟨oi, e, c, dd⟩ := st
    exact ⟨oi, e, fun v z => by rw [dd] at z; cases z⟩
  keep := fun i h h' st k => st.at fun oi e => k it (by simp) oi e
  item := by
    intro X hP hw hK hc i pins s σ H E I hf st hg
    subst hP hw hK
    obtain ⟨hd, hi⟩ := hg
    obtain ⟨f0, f1, f2, f3, f4, f5⟩ := hf it (by simp)
    obtain ⟨hs, hgd, hx, es', ep', hdt, hsz, ent⟩ := frzN I hd
    obtain ⟨rfl, rfl⟩ := dict_ep hod hdt
    obtain ⟨e0, hkv⟩ : ∃ p, kvs[i]? = some p := ⟨kvs[i], List.getElem?_eq_getElem hi⟩
    obtain ⟨en, hen, hkey⟩ := ent i e0 hkv
    refine next_key_item st hgd hdt hsz hen fun h' st' sb => ?_
    have I1 : Inv X pins σ H { s with heap := h' } := I.turned (t' := s.toks) (fun b ob hb e => (sb.2 b hb).trans e) f0 f1 f3 f4 f5
    obtain ⟨oi, e, c, dd⟩ := id st'
    exact ⟨en.key, rfl, go_of (s := { s with heap := h' }) e c dd (by decide) ⟨.ref e0.2.1, H, I1, hkey, ⟨rfl, e0, hkv, rfl⟩, st', fun b hb => (hf b hb).1⟩⟩
  done := by
    intro X hP hw hK hc i pins s σ H E I hf st hg
    subst hP hw hK
    obtain ⟨hd, hi⟩ := hg
    obtain ⟨f0, f1, f2, f3, f4, f5⟩ := hf it (by simp)
    obtain ⟨hs, hgd, hx, es', ep', hdt, hsz, ent⟩ := frzN I hd
    obtain ⟨rfl, rfl⟩ := dict_ep hod hdt
    exact next_key_end (I.ok.hd hc) st hgd hdt hsz hi fun h' eb => ⟨rfl, I.turned (t' := s.toks) (fun b ob hb e => eb b ob hb e) f0 f1 f3 f4 f5⟩
  self := fun A i s Q E st h => by
    refine wpAny_pyIter_slot st.typeIs F.slot_dict_keyiterator_iter (wpAny_call_entry F.slot_dict_keyiterator_iter st.typeIs F.entry_dict_keyiterator_iter ?_ (F.args_dict_keyiterator_iter_1 _))
    show wpAny _ _ (ret (.ref it)) _ _ s
    exact wpAny_pure ⟨_, rfl, "dict_keyiterator", _, st.typeIs, F.slot_dict_keyiterator_next.lookup, h⟩
end
def iNKeys (td : TE) : TI := fun σ H R => td σ H fun x H1 => ∃ d o es, x = .ref d ∧ H1 d = some (.frz o (dnH d es)) ∧ R (Itn d o es) H1
theorem pi_nkeys {X : Cx} {tg e : Expr} {td : TE} (he : PE X e td) : PI X tg e (iNKeys td) := by
  refine ⟨fun pins s σ H R I h => ?_⟩
  refine thn (he.run pins s σ H _ I h) fun u s1 ⟨x, H1, I1, rx, d, o, es, ex, hd, q⟩ => ?_
  subst ex
  obtain rfl : u = Value.ref d := rx
  obtain ⟨hs, hgd, hx, qs, ep, hdt, hsz, ent⟩ := frzN I1 hd
  refine iter_keys hs hgd hx hdt (pi_one (tk := s1.toks) I1 _ (turn_keysN _ hdt) ⟨_, Heap.get?_push_size _ rfl, rfl, ?_⟩ q)
  rw [hsz] <;> rfl
def nkeysD (x : D) (h : Hs) : R Src := match x with
  | .dnt ks _ => .ok (ks, []) h
  | .ref n => match h[n]? with
    | some (.lk od u (.dn ks ds)) => .ok (ks, [(n, .lk od u (.dn ks ds))]) h
    | _ => .bad
  | _ => .bad
def iNKeysS (fd : En → Hs → R D) : En → Hs → R Src := fun env h => (fd env h).bind nkeysD
@[simp] theorem iNKeysS_ap {fd : En → Hs → R D} {env : En} {h : Hs} : iNKeysS fd env h = (fd env h).bind nkeysD := rfl
theorem feeds_N {g : G} {bs0 : List Addr} {H0 : Hp} {a : Addr} {od : Obj} {u : HO} {es : List Ent} {n : Nat} {ks ds : List D} (hb : bs0[n]? = some a) (hu : u = dnH a es) (rk : Reps g bs0 H0 ks (es.map fun e => V.ref e.2.1)) :
    Feeds g bs0 H0 (Itn a od es) ks [(n, .lk od u (.dn ks ds))] := by
  intro bs h H e hr kp
  obtain ⟨a', g1, g2, _⟩ := hr.at_ n _ kp.1
  rw [e.get hb] at g1
  cases g1
  rw [hu] at g2
  have hl : ks.length = es.length := by have := rk.length; rw [List.length_map] at this; exact this
  refine ⟨fun i d hi => ?_, ⟨g2, by rw [hl]; exact Nat.le_refl _⟩⟩
  obtain ⟨v, h1, h2⟩ := (rk.mono e).get hi
  rw [List.getElem?_map] at h1
  cases he : es[i]? with
  | none => rw [he] at h1; cases h1
  | some e0 =>
    rw [he] at h1
    cases h1
    refine ⟨⟨g2, (List.getElem?_eq_some_iff.mp he).1⟩, fun x H' y => ?_⟩
    obtain ⟨rfl, e1, he1, rfl⟩ := y
    rw [he] at he1
    cases he1
    exact ⟨.refl, hr, h2⟩
theorem feeds_F {g : G} {bs0 : List Addr} {H0 : Hp} {a : Addr} {od : Obj} {es : List Ent} {ks : List D} (na : a ∉ bs0) (ha : H0 a = some (.frz od (dnH a es))) (rk : Reps g bs0 H0 ks (es.map fun e => V.ref e.2.1)) :
    Feeds g bs0 H0 (Itn a od es) ks [] := by
  intro bs h H e hr _
  have g2 := e.keep _ _ ha na
  have hl : ks.length = es.length := by have := rk.length; rw [List.length_map] at this; exact this
  refine ⟨fun i d hi => ?_, ⟨g2, by rw [hl]; exact Nat.le_refl _⟩⟩
  obtain ⟨v, h1, h2⟩ := (rk.mono e).get hi
  rw [List.getElem?_map] at h1
  cases he : es[i]? with
  | none => rw [he] at h1; cases h1
  | some e0 =>
    rw [he] at h1
    cases h1
    refine ⟨⟨g2, (List.getElem?_eq_some_iff.mp he).1⟩, fun x H' y => ?_⟩
    obtain ⟨rfl, e1, he1, rfl⟩ := y
    rw [he] at he1
    cases he1
    exact ⟨.refl, hr, h2⟩
section
variable {ci : Nat → String × List String} {X : Cx} {W : WX} {tg e : Expr} {te : TE} {fe : En → Hs → R D}
theorem ij_nkeys (he : EJ ci X W e te fe) : IJ ci X W tg e (iNKeys te) (iNKeysS fe) :=
  ⟨pi_nkeys he.pe, fun σ H env h bs Q er hr p => he.sim.step er hr p fun x vx bs1 H1 h1 e1 hr1 er1 rx p1 => by
    unfold nkeysD at p1
    split at p1
    · rename_i ks ds
      cases rx with
      | @dnt a od es _ _ na h1 h2 h3 h4 => exact ⟨a, od, es, rfl, h1, Post.ok_ p1 hr1 (feeds_F na h1 h3)⟩
    · rename_i n
      split at p1
      · rename_i od u ks ds hx
        cases rx with
        | @ref _ a hb =>
          obtain ⟨a', g1, g2, es, g3, g4, g5, g6⟩ := hr1.at_ n _ hx
          rw [hb] at g1
          cases g1
          exact ⟨a, od, es, rfl, by rw [← g3]; exact g2, Post.ok_ p1 hr1 (feeds_N hb g3 g5)⟩
      · exact p1.elim
    · exact p1.elim⟩
end
end Ev
set_option Elab.async false
set_option linter.all false
set_option maxRecDepth 100000
set_option maxHeartbeats 4000000
/-! a dict with tuple keys that a def has returned: frozen, its cell let go -/
namespace Ev
open PySem PySem.Spec PyProof.Rows L2
section
variable {g : G} {bs : List Addr} {H : Hp} {a : Addr} {es : List Ent} {od : Obj}
theorem dn_ne {b : Addr} {u : HO} (ha : H a = some (dnH a es)) (hb : H b = some u) (hu : ∀ φ, u ≠ .ext φ) : b ≠ a := fun z => by
  rw [z, ha] at hb
  exact hu _ (Option.some.inj hb).symm
theorem lock_at {b : Addr} {u : HO} (ha : H a = some (dnH a es)) (hb : H b = some u) (hu : ∀ φ, u ≠ .ext φ) : upd H a (.frz od (dnH a es)) b = some u := by
  rw [upd_ne (dn_ne ha hb hu)]
  exact hb
theorem lock_rd {b : Addr} {u : HO} (ha : H a = some (dnH a es)) (hb : Rd H b u) (hu : ∀ φ, u ≠ .ext φ) : Rd (upd H a (.frz od (dnH a es))) b u := by
  rcases hb with h | ⟨o, h⟩
  · exact .inl (lock_at ha h hu)
  · exact .inr ⟨o, lock_at ha h fun φ z => nomatch z⟩
mutual
theorem Rep.lock (ha : H a = some (dnH a es)) : ∀ {d : D} {v : V}, Rep g bs H d v → Rep g bs (upd H a (.frz od (dnH a es))) d v
  | _, _, .non => .non
  | _, _, .bl b => .bl b
  | _, _, .int i => .int i
  | _, _, .str h => .str h
  | _, _, .tup h r => .tup (h.elim (fun z => .inl ⟨z.1, lock_rd ha z.2 fun φ z => nomatch z⟩) .inr) (Reps.lock ha r)
  | _, _, .lst n h r => .lst n (lock_at ha h fun φ z => nomatch z) (Reps.lock ha r)
  | _, _, .rol h r => .rol (h.elim (fun z => .inl ⟨z.1, lock_rd ha z.2 fun φ z => nomatch z⟩) .inr) (Reps.lock ha r)
  | _, _, .obj n c h f r => .obj n c (lock_at ha h fun φ z => nomatch z) f (Reps.lock ha r)
  | _, _, .ref h => .ref h
  | _, _, .dct n h f r => .dct n (lock_at ha h fun φ z => nomatch z) f (Reps.lock ha r)
  | _, _, .dnt n h f r r2 => .dnt n (lock_at ha h fun φ z => nomatch z) f (Reps.lock ha r) (Reps.lock ha r2)
theorem Reps.lock (ha : H a = some (dnH a es)) : ∀ {ds : List D} {vs : List V}, Reps g bs H ds vs → Reps g bs (upd H a (.frz od (dnH a es))) ds vs
  | _, _, .nil => .nil
  | _, _, .cons r t => .cons (Rep.lock ha r) (Reps.lock ha t)
end
theorem RepO.lock (ha : H a = some (dnH a es)) {b : Addr} (hb : b ≠ a) {o : O} (r : RepO g bs H b o) : RepO g bs (upd H a (.frz od (dnH a es))) b o := by
  have e : upd H a (.frz od (dnH a es)) b = H b := upd_ne hb
  cases o with
  | lst ds => obtain ⟨vs, q, r⟩ := r; exact ⟨vs, e.trans q, r.lock ha⟩
  | ins c ds => obtain ⟨C, dx, fvs, q1, q2, q3, q4⟩ := r; exact ⟨C, dx, fvs, q1, e.trans q2, q3, q4.lock ha⟩
  | dct ks ds => obtain ⟨kvs, q1, q2, q3⟩ := r; exact ⟨kvs, e.trans q1, q2, q3.lock ha⟩
  | dn ks ds => obtain ⟨es, q1, q2, q3, q4⟩ := r; exact ⟨es, e.trans q1, q2, q3.lock ha, q4.lock ha⟩
  | lk od u o =>
    obtain ⟨q, r⟩ := r
    refine ⟨e.trans q, ?_⟩
    cases o with
    | dct ks ds => obtain ⟨kvs, q1, q2, q3⟩ := r; exact ⟨kvs, q1, q2, q3.lock ha⟩
    | dn ks ds => obtain ⟨es, q1, q2, q3, q4⟩ := r; exact ⟨es, q1, q2, q3.lock ha, q4.lock ha⟩
    | _ => exact r.elim
theorem HRel.lockN {h : Hs} (hr : HRel g bs h H) (ha : H a = some (dnH a es)) (na : a ∉ bs) : HRel g bs h (upd H a (.frz od (dnH a es))) := by
  refine ⟨hr.len, hr.nd, fun i o hi => ?_⟩
  obtain ⟨b, h1, h2⟩ := hr.at_ i o hi
  exact ⟨b, h1, h2.lock ha fun z => na (z ▸ List.mem_of_getElem? h1)⟩
end
open Classical in
noncomputable def lockR (h : Hs) (r : R D) : R D := match r with
  | .ok (.ref n) h' => if Stood h h' ∧ h.length ≤ n then (match h'[n]? with
    | some (.dn ks ds) => (match optAll (frz h' h.length 12) ks, optAll (frz h' h.length 12) ds with
      | some ks', some ds' => if keyNs ks' = keyNs ks then .ok (.dnt ks' ds') (h'.take h.length) else .bad
      | _, _ => .bad)
    | _ => .bad) else .bad
  | .err c fs h' => if Stood h h' ∧ D.nrs h.length fs = true then .err c fs (h'.take h.length) else .bad
  | _ => .bad
def tLockV (te : TE) : TE := fun σ H Q => te σ H fun x H1 => ∃ d u, x = .ref d ∧ H1 d = some u ∧ Mut (some u) ∧ ∀ od, Q x (upd H1 d (.frz od u))
theorem pe_lockV {X : Cx} {e : Expr} {te : TE} (he : PE X e te) : PE X e (tLockV te) := by
  refine ⟨fun pins s σ H Q I hw => ?_⟩
  refine thn (he.run pins s σ H _ I hw) fun v s1 ⟨x, H1, I1, r, d, u, ex, hd, mu, q⟩ => ?_
  obtain ⟨od, I2⟩ := I1.lock hd mu
  exact ⟨x, _, I2, r, q od⟩
theorem post_lock {g : G} {W : Value → Option Addr → Hp → Prop} {bs : List Addr} {h : Hs} {H : Hp} {r : R D} {Q : VK} (hr : HRel g bs h H) (p : Post (relV g) g W bs H (lockR h r) Q) :
    Post (relV g) g W bs H r (fun x H2 => ∃ d u, x = .ref d ∧ H2 d = some u ∧ Mut (some u) ∧ ∀ od, Q x (upd H2 d (.frz od u))) := by
  unfold lockR at p
  split at p
  · rename_i n h'
    split at p
    · rename_i hg
      split at p
      · rename_i ks ds hx
        split at p
        · rename_i ks' ds' hk hd
          split at p
          · rename_i hkn
            intro bs' H' v e hr' rv
            obtain ⟨⟨m, rfl, hm⟩, kp, cl⟩ := id e
            cases rv with
            | @ref _ a hb =>
              obtain ⟨a', g1, es, g2, g3, g4, g5⟩ := hr'.at_ n _ hx
              rw [hb] at g1
              cases g1
              have am : a ∈ m := by
                rw [List.getElem?_append_right (by rw [hr.len]; exact hg.2)] at hb
                exact List.mem_of_getElem? hb
              have na : a ∉ bs := fun z => by
                obtain ⟨i, hi⟩ := List.getElem?_of_mem z
                have hlt : i < bs.length := (List.getElem?_eq_some_iff.mp hi).1
                have hi' : (bs ++ m)[i]? = some a := by rw [List.getElem?_append_left hlt]; exact hi
                obtain ⟨l1, e1⟩ := List.getElem?_eq_some_iff.mp hi'
                obtain ⟨l2, e2⟩ := List.getElem?_eq_some_iff.mp hb
                have := (List.getElem_inj hr'.nd).mp (e1.trans e2.symm)
                have := hg.2
                have := hr.len
                omega
              refine ⟨a, _, rfl, g2, True.intro, fun od => ?_⟩
              have k1 : Reps g bs H' ks' (es.map fun e => V.ref e.2.1) := optAll_ok (fun d d' v => frz_ok hr' 12) (by rw [hr.len]; exact hk) g4
              have k2 : Reps g bs H' ds' (es.map (·.2.2)) := optAll_ok (fun d d' v => frz_ok hr' 12) (by rw [hr.len]; exact hd) g5
              have hn := hm a am
              refine p bs (upd H' a (.frz od (dnH a es))) _ ⟨⟨[], by simp, fun _ z => nomatch z⟩, fun b o hb hbn => ?_, fun b o hb => ?_⟩ ((hr.popS hr' hg.1).lockN g2 na) (.dnt na upd_same (by rw [hkn]; exact g3) (k1.lock g2) (k2.lock g2))
              · rw [upd_ne (fun z => by rw [z, hn] at hb; cases hb)]
                exact kp b o hb hbn
              · obtain ⟨o', ho'⟩ := cl b o hb
                exact ⟨o', by rw [upd_ne (fun z => by rw [z, hn] at hb; cases hb)]; exact ho'⟩
          · exact p.elim
        · exact p.elim
      · exact p.elim
    · exact p.elim
  · rename_i c fs h'
    split at p
    · rename_i hg
      obtain ⟨hg, hn⟩ := hg
      intro C dd bs' H' e hr' z
      obtain ⟨⟨m, rfl, hm⟩, k, cc⟩ := id e
      obtain ⟨Ca, d, fvs, z1, z2, z3, z4, z5, z6, z7⟩ := z
      exact p C dd bs H' ⟨⟨[], by simp, fun _ z => nomatch z⟩, k, cc⟩ (hr.popS hr' hg) ⟨Ca, d, fvs, z1, z2, z3, fun y => z4 (List.mem_append_left _ y), z5, z6, z7.shrink (by rw [hr.len]; exact hn)⟩
    · exact p.elim
  · exact p.elim
noncomputable def eLockV (fe : En → Hs → R D) : En → Hs → R D := fun env h => lockR h (fe env h)
@[simp] theorem eLockV_ap {fe : En → Hs → R D} {env : En} {h : Hs} : eLockV fe env h = lockR h (fe env h) := rfl
section
variable {ci : Nat → String × List String} {X : Cx} {W : WX} {e : Expr} {te : TE} {fe : En → Hs → R D}
theorem ej_lockV (he : EJ ci X W e te fe) : EJ ci X W e (tLockV te) (eLockV fe) :=
  ⟨pe_lockV he.pe, fun σ H env h bs Q er hr p => he.sim σ H env h bs _ er hr (post_lock hr p)⟩
end
end Ev
set_option Elab.async false
set_option linter.all false
set_option maxRecDepth 100000
set_option maxHeartbeats 4000000
namespace Ev
open PySem L2 PyProof.Rows
/-! ### a op b op c op d, as a test -/
def tCh3 (r r' r'' : R2) (ta tb tc td : TE) : TE := fun σ H Q => ta σ H fun x H1 => tb σ H1 fun y H2 => r x y H2 fun z H3 => ∃ k, z = .bl k ∧
  (if k = true then tc σ H3 fun u H4 => r' y u H4 fun z' H5 => ∃ k', z' = .bl k' ∧ (if k' = true then td σ H5 fun u' H6 => r'' u u' H6 Q else Q (.bl false) H5) else Q (.bl false) H3)
def eCh3 (o o' o'' : D → D → Hs → R D) (fa fb fc fd : En → Hs → R D) : En → Hs → R D := fun env h => (fa env h).bind fun x h1 => (fb env h1).bind fun y h2 => (o x y h2).bind fun z h3 =>
  (toB z h3).bind fun k h4 => if k = true then ((fc env h4).bind fun u h5 => (o' y u h5).bind fun z' h6 => (toB z' h6).bind fun k' h7 => if k' = true then (fd env h7).bind fun u' h8 => o'' u u' h8 else .ok (.bl false) h7) else .ok (.bl false) h4
section
variable {ci : Nat → String × List String} {X : Cx} {W : WX} {pos : Pos} {a b c d : Expr} {ta tb tc td : TE} {fa fb fc fd : En → Hs → R D}
@[simp] theorem eCh3_ap {o o' o'' : D → D → Hs → R D} {env : En} {h : Hs} : eCh3 o o' o'' fa fb fc fd env h = (fa env h).bind fun x h1 => (fb env h1).bind fun y h2 => (o x y h2).bind fun z h3 =>
  (toB z h3).bind fun k h4 => if k = true then ((fc env h4).bind fun u h5 => (o' y u h5).bind fun z' h6 => (toB z' h6).bind fun k' h7 => if k' = true then (fd env h7).bind fun u' h8 => o'' u u' h8 else .ok (.bl false) h7) else .ok (.bl false) h4 := rfl
theorem pt_ch3 {o o' o'' : CmpOp} {r r' r'' : R2} (h1 : OpR X (compareOp o) r) (h2 : OpR X (compareOp o') r') (h3 : OpR X (compareOp o'') r'') (ha : PE X a ta) (hb : PE X b tb) (hc : PE X c tc) (hd : PE X d td)
    (hm : lastMarks [o, o', o''] [b, c, d] = false := by with_unfolding_all rfl) : PT X (.Compare a [o, o', o''] [b, c, d] pos) (tTest (tCh3 r r' r'' ta tb tc td)) := by
  refine ⟨fun pins s σ H Q I h => isTrue_chain ?_ hm⟩
  refine thn (ha.run pins s σ H _ I h) fun v1 s1 ⟨x1, G1, I1, m1, q1⟩ => test_link ?_
  refine thn (hb.run pins s1 σ G1 _ I1 q1) fun v2 s2 ⟨x2, G2, I2, m2, q2⟩ => ?_
  refine thn (h1 pins s2 σ G2 x1 x2 v1 v2 _ I2 m1 m2 q2) fun v3 s3 ⟨x3, G3, I3, m3, k, e, q3⟩ => ?_
  subst e
  cases m3
  refine wpAny_truthy_bool ?_
  cases k with
  | false =>
    obtain ⟨k', e', q'⟩ := q3
    cases e'
    exact ite_ff ⟨G3, I3, q'⟩
  | true =>
    refine ite_tt (test_link ?_)
    refine thn (hc.run pins s3 σ G3 _ I3 q3) fun v4 s4 ⟨x4, G4, I4, m4, q4⟩ => ?_
    refine thn (h2 pins s4 σ G4 x2 x4 v2 v4 _ I4 m2 m4 q4) fun v5 s5 ⟨x5, G5, I5, m5, k5, e5, q5⟩ => ?_
    subst e5
    cases m5
    refine wpAny_truthy_bool ?_
    cases k5 with
    | false =>
      obtain ⟨k', e', q'⟩ := q5
      cases e'
      exact ite_ff ⟨G5, I5, q'⟩
    | true =>
      refine ite_tt (test_last ?_)
      refine thn (hd.run pins s5 σ G5 _ I5 q5) fun v6 s6 ⟨x6, G6, I6, m6, q6⟩ => ?_
      refine thn (h3 pins s6 σ G6 x4 x6 v4 v6 _ I6 m4 m6 q6) fun v7 s7 ⟨x7, G7, I7, m7, k7, e7, q7⟩ => ?_
      subst e7
      cases m7
      exact wpAny_truthy_bool ⟨G7, I7, q7⟩
theorem sim_ch3 {g : G} {r r' r'' : R2} {o o' o'' : D → D → Hs → R D} (h1 : OpJ g r o) (h2 : OpJ g r' o') (h3 : OpJ g r'' o'') (ha : Sim (relV g) g W ta fa) (hb : Sim (relV g) g W tb fb) (hc : Sim (relV g) g W tc fc) (hd : Sim (relV g) g W td fd) : Sim (relV g) g W (tCh3 r r' r'' ta tb tc td) (eCh3 o o' o'' fa fb fc fd) :=
  fun σ H env h bs Q er hr p => ha.step er hr p fun x vx bs1 H1 g1 e1 hr1 er1 rx p1 => hb.step er1 hr1 p1 fun y vy bs2 H2 g2 e2 hr2 er2 ry p2 =>
    Post.step (M := fun Q' => r vx vy H2 Q') (fun Q' q => h1.run _ bs2 g2 H2 x y vx vy Q' hr2 (rx.mono e2) ry q) p2 fun z vz bs3 H3 g3 e3 hr3 rz p3 => by
      cases rz with
      | bl k =>
        refine ⟨k, rfl, ?_⟩
        cases k with
        | false =>
          rw [if_neg Bool.false_ne_true]
          exact Post.ok_ p3 hr3 (.bl false)
        | true =>
          rw [if_pos rfl]
          refine hc.step (er2.mono e3) hr3 p3 fun u vu bs4 H4 g4 e4 hr4 er4 ru p4 => ?_
          refine Post.step (M := fun Q' => r' vy vu H4 Q') (fun Q' q => h2.run _ bs4 g4 H4 y u vy vu Q' hr4 ((ry.mono e3).mono e4) ru q) p4 fun z2 vz2 bs5 H5 g5 e5 hr5 rz2 p5 => ?_
          cases rz2 with
          | bl k2 =>
            refine ⟨k2, rfl, ?_⟩
            cases k2 with
            | false =>
              rw [if_neg Bool.false_ne_true]
              exact Post.ok_ p5 hr5 (.bl false)
            | true =>
              rw [if_pos rfl]
              exact hd.step (er4.mono e5) hr5 p5 fun u' vu' bs6 H6 g6 e6 hr6 er6 ru' p6 => h3.run _ bs6 g6 H6 u u' vu vu' Q hr6 ((ru.mono e5).mono e6) ru' p6
          | _ => exact p5.elim
      | _ => exact p3.elim
theorem tj_ch3 {o o' o'' : CmpOp} {r r' r'' : R2} {f f' f'' : D → D → Hs → R D} (h1 : OpR X (compareOp o) r) (h2 : OpR X (compareOp o') r') (h3 : OpR X (compareOp o'') r'') (j1 : OpJ (X.g ci) r f) (j2 : OpJ (X.g ci) r' f') (j3 : OpJ (X.g ci) r'' f'') (ha : EJ ci X W a ta fa) (hb : EJ ci X W b tb fb) (hc : EJ ci X W c tc fc) (hd : EJ ci X W d td fd)
    (hm : lastMarks [o, o', o''] [b, c, d] = false := by with_unfolding_all rfl) : TJ ci X W (.Compare a [o, o', o''] [b, c, d] pos) (tTest (tCh3 r r' r'' ta tb tc td)) (eTest (eCh3 f f' f'' fa fb fc fd)) :=
  ⟨pt_ch3 h1 h2 h3 ha.pe hb.pe hc.pe hd.pe hm, sim_test (sim_ch3 j1 j2 j3 ha.sim hb.sim hc.sim hd.sim)⟩
end
end Ev
set_option Elab.async false
set_option linter.all false
set_option maxRecDepth 100000
set_option maxHeartbeats 4000000
namespace Ev
open PySem L2 PyProof.Rows
/-! ### set comprehensions of whole numbers -/
/-- the set that holds just these -/
abbrev SI (w : World) (d : Addr) (ns : List Int) : HO := SetO w d (fun j => decide (j ∈ ns)) ns.length
def addI (ns : List Int) (k : Int) : List Int := if k ∈ ns then ns else ns ++ [k]
theorem addI_len {ns : List Int} {k : Int} : (addI ns k).length ≤ ns.length + 1 := by
  unfold addI
  split
  · omega
  · rw [List.length_append]; exact Nat.le_refl _
theorem si_add {w : World} {d : Addr} {ns : List Int} {k : Int} : SetO w d (fun j => decide (j ∈ ns) || decide (j = k)) (if decide (k ∈ ns) = true then ns.length else ns.length + 1) = SI w d (addI ns k) := by
  unfold addI
  by_cases c : k ∈ ns
  · rw [if_pos c, if_pos (decide_eq_true c)]
    have e : (fun j => decide (j ∈ ns) || decide (j = k)) = fun j => decide (j ∈ ns) := by
      funext j
      by_cases z : j = k
      · subst z; simp [c]
      · simp [z]
    rw [e]
  · rw [if_neg c, if_neg (by simp [c])]
    have e : (fun j => decide (j ∈ ns) || decide (j = k)) = fun j => decide (j ∈ ns ++ [k]) := by
      funext j
      simp
    rw [e]
    unfold SI
    rw [List.length_append]
    rfl
def tSi (w : World) (wi : TI) (tg : TG) (tq : TT) (te : TE) (vs : List Nat) : TE := fun ρ G Q => wi ρ G fun J G1 => ∀ d, G1 d = none → ∃ Z : Nat → Nat → Hp → Prop, (∃ m, Z 0 m (upd G1 d (SI w d []))) ∧ ∀ i m G', Z i m G' →
  (J.stop i G' ∧ Q (.ref d) G') ∨ (J.go i G' ∧ ∃ F : Hp → Prop, (∀ G', F G' → ∃ m', m' < m ∧ Z (i + 1) m' G') ∧ ∀ x Gx, J.yld i G' x Gx → tg x (wipe ρ vs) Gx fun ρ2 G2 => wipe ρ2 vs = wipe ρ vs ∧ tq ρ2 G2 fun b G3 =>
    if b = true then te ρ2 G3 fun y G4 => ∃ (k : Int) (ns : List Int), y = .int k ∧ G4 d = some (SI w d ns) ∧ ns.length + 1 < scanBound ∧ F (upd G4 d (SI w d (addI ns k))) else F G3)
section
variable {X : Cx} {pl : List (Addr × Obj)} {z0 : Shared} {ρ : L2.St} {G : Hp} {Q : VK} {elt tg it : Expr} {cs : List Expr} {sc : Scope} {own : List (PySem.Str × Nat)} {pos pos' : Pos} {wi : TI} {gt : TG} {tq : TT} {te : TE} {use : Option (Value → Sem Unit)} {Qv : Value → Shared → Prop}
/-- a new, empty set is laid -/
theorem si_lay {z : Shared} {d : Addr} (I : Inv X pl ρ G z) (e : z.heap.objs.size = d) : Inv X pl ρ (upd G d (SI X.w d [])) { z with heap := z.heap.push { cls := .type "set", dict := none, data := .set #[] 0 (.fresh 0 0 (!X.w.params.followText "set-order")) } } := by
  subst e
  refine I.laid (t' := z.toks) (fun b o g => Heap.get?_push_of_some _ g) (Nat.le_refl _) ?_
  have f := setR_fresh (h := z.heap) X.w
  exact setO_new (f.congr fun k => by simp)
/-- one more is put into it -/
theorem si_put {Y : Cx} {ps : List (Addr × Obj)} {τ : L2.St} {z : Shared} {G' : Hp} {d : Addr} {ns : List Int} {k : Int} {tk : Tok} {P : Value → Shared → Prop} {E : Value → Shared → Prop} (hE : ∀ v s', Y.xe v s' → E v s') (I : Inv Y ps τ G' z) (hd : G' d = some (SI Y.w d ns)) (room : ns.length + 1 < scanBound)
    (h : ∀ z', Inv Y ps τ (upd G' d (SI Y.w d (addI ns k))) z' → P .none z') : wpAny (model Y.prog Y.w) Y.A (call (.builtin "set.add") [.ref d, .int k tk]) P E z := by
  refine wpAny_mono (mt_sadd (X := Y) ps z τ G' (.ref d) [.int k] (.ref d) [.int k tk] (fun v G2 => v = .non ∧ G2 = upd G' d (SI Y.w d (addI ns k))) I rfl (.cons ⟨tk, rfl⟩ .nil) ⟨d, k, _, _, rfl, rfl, hd, room, rfl, by rw [si_add]⟩) (fun u z' hz => ?_) hE
  obtain ⟨v, G2, I2, rv, rfl, rfl⟩ := hz
  cases rv
  exact h z' I2
theorem si_core (calm : X.calm = true) (nd : X.N.Nodup) (I : Inv X pl ρ G z0) (hi : PI X tg it wi) (bo : BlkOk X.N X.env.scope sc own)
    (hg : ∀ (u : Shared) (L : Hp) (C : Addr) (cl : List (PySem.Str × Addr)) (fp : List Addr), PG (X.blk u L sc (compEnvC sc cl C X.env) fp) tg gt) (hq : ∀ (u : Shared) (L : Hp) (C : Addr) (cl : List (PySem.Str × Addr)) (fp : List Addr), PTs (X.blk u L sc (compEnvC sc cl C X.env) fp) cs tq)
    (he : ∀ (u : Shared) (L : Hp) (C : Addr) (cl : List (PySem.Str × Addr)) (fp : List Addr), PE (X.blk u L sc (compEnvC sc cl C X.env) fp) elt te) (fs : ∀ x, foldedSetIterable it X.env x = pure x)
    (h : tSi X.w wi gt tq te (own.map (·.2)) ρ G Q)
    (fin : ∀ d C z m G', Inv X pl ρ G' z → Q (.ref d) G' → z.heap.Ns C m → FpOk X pl G' C → compPost (model X.prog X.w) X.A X.xe use Qv (.ref d) C (.ok .next) z) :
    wpAny (model X.prog X.w) X.A (comprehension (.SetComp elt [⟨tg, it, cs, 0⟩] sc pos) sc X.env pos' (newSet (.type "set")) false (eval it X.env) use) Qv X.xe z0 := by
  have cell : ∀ y ∈ sc.names, y.2 = .free → ∃ c, X.env.cells.lookup y.1 = some c := fun y hy e => (bo.free y hy e).elim (fun k => I.ok.has _ (.inl k)) fun k => I.ok.has _ (.inr k)
  refine wpAny_comprehension_free (use := use) rfl fs (closure_ok cell) bo.kind (fun y hy e => by rw [bo.uniq y hy, e]) ?_
  refine thn (hi.run pl z0 ρ G _ I h) fun _ za hza => thn hza fun _ zb hzb => ?_
  obtain ⟨ia, fp, step, J, Gb, rfl, Ib, T, sb, fb, q⟩ := hzb
  refine PpSet.newSet_ok (newEnv_comp ?_)
  obtain ⟨d, ed⟩ : ∃ d, zb.heap.objs.size = d := ⟨_, rfl⟩
  have dn : Gb d = none := Ib.hok.fresh (Nat.le_of_eq ed)
  obtain ⟨Z, ⟨m0, w0⟩, turn⟩ := q d dn
  have Ic := si_lay Ib ed
  rw [ed]
  have low : ∀ b ∈ fp, b < zb.heap.objs.size := fun b hb => by
    obtain ⟨o, e, _⟩ := T.obj _ _ sb b hb
    exact Heap.lt_size e
  generalize hzc : ({ zb with heap := zb.heap.push { cls := .type "set", dict := none, data := .set #[] 0 (.fresh 0 0 (!X.w.params.followText "set-order")) } } : Shared) = zc at Ic ⊢
  have hc : zc.heap = zb.heap.push { cls := .type "set", dict := none, data := .set #[] 0 (.fresh 0 0 (!X.w.params.followText "set-order")) } := by rw [← hzc]
  have fc : ∀ b ∈ fp, FpOk X pl (upd Gb d (SI X.w d [])) b ∧ b < zc.heap.objs.size := fun b hb => by
    have lb := low b hb
    refine ⟨⟨by rw [upd_ne (by rw [← ed]; exact Nat.ne_of_lt lb)]; exact (fb b hb).1, (fb b hb).2⟩, ?_⟩
    rw [hc, Heap.size_push]
    exact Nat.lt_succ_of_lt lb
  have sc3 : step 0 zc.heap := T.keep _ _ _ sb fun b _ o e => by rw [hc]; exact Heap.get?_push_of_some _ e
  have Id := block_start Ic bo nd fc
  have cut : (({ zb with heap := zb.heap.push { cls := .type "set", dict := none, data := .set #[] 0 (.fresh 0 0 (!X.w.params.followText "set-order")) } } : Shared)).heap.objs.size = zc.heap.objs.size := by rw [hzc]
  generalize hL : upd Gb d (SI X.w d []) = L at Ic Id w0 fc
  have kg := hg zc L zc.heap.objs.size (cellsFrom (zc.heap.objs.size + 1) sc.names (cloFrom X.env.cells sc.names [])) fp
  have kq := hq zc L zc.heap.objs.size (cellsFrom (zc.heap.objs.size + 1) sc.names (cloFrom X.env.cells sc.names [])) fp
  have ke := he zc L zc.heap.objs.size (cellsFrom (zc.heap.objs.size + 1) sc.names (cloFrom X.env.cells sc.names [])) fp
  show codeAny _ _ (.compStart (.SetComp elt [⟨tg, it, cs, 0⟩] sc pos) 0 (.ref ia) (.ref d) (compEnvC sc (cellsFrom (zc.heap.objs.size + 1) sc.names (cloFrom X.env.cells sc.names [])) zc.heap.objs.size X.env)) (compPost (model X.prog X.w) X.A X.xe use Qv (.ref d) zc.heap.objs.size) { zc with heap := pushCells (zc.heap.push { cls := .type "dict", data := .dict #[] }) sc.names }
  generalize hen : compEnvC sc (cellsFrom (zc.heap.objs.size + 1) sc.names (cloFrom X.env.cells sc.names [])) zc.heap.objs.size X.env = en at Id kg kq ke ⊢
  have lo : en.locals = zc.heap.objs.size := by rw [← hen]; rfl
  have none0 : ∀ b ∈ fp, L b = none := fun b hb => (fc b hb).1.1
  generalize hzd : ({ zc with heap := pushCells (zc.heap.push { cls := .type "dict", data := .dict #[] }) sc.names } : Shared) = zd at Id ⊢
  have sd : step 0 zd.heap := T.keep _ _ _ sc3 fun b _ o e => by rw [← hzd]; exact pushCells_keeps _ _ _ _ (Heap.get?_push_of_some _ e)
  have okf : ∀ {τ : L2.St} {G' : Hp} {z : Shared}, Inv (X.blk zc L sc en fp) [] τ G' z → (∀ b ∈ fp, G' b = none) → ∀ b ∈ fp, FpOk (X.blk zc L sc en fp) [] G' b := fun {τ G' z} I' hn b hb =>
    ⟨hn b hb, (I'.ok.exf b hb).1, I'.ok.exfs b hb, .inl hb, fun x c e => (I'.ok.exf b hb).2 x c e, fun p hp => by
      have : p ∈ ([] : List (Addr × Obj)) ++ [] := hp
      simp at this⟩
  refine PpSet.codeAny_compStart_set ?go (T.self X.A 0 _ _ _ sd ?go)
  refine PpSet.compLoopS_any (fun n z => ∃ i G', Inv (X.blk zc L sc en fp) [] (wipe ρ (own.map (·.2))) G' z ∧ step i z.heap ∧ (∀ b ∈ fp, G' b = none) ∧ Z i n G') ?_ m0 ⟨0, L, Id, sd, none0, w0⟩
  rintro n ze ⟨i, Ge, Ie, se, ne, we⟩
  rcases turn i n Ge we with ⟨stop, qq⟩ | ⟨go, F, hF, st⟩
  · refine thnF (T.done (X.blk zc L sc en fp) rfl rfl rfl calm i [] ze _ Ge (fun _ _ => False) Ie (okf Ie ne) se stop) fun r zf ⟨er, If⟩ => ?_
    subst er
    have Ig : Inv X pl ρ Ge zf := Ic.call' (ch := fp) If.os If.base If.hok If.bare fun b hb => ⟨(fc b hb).1.2.2.2.1, (fc b hb).1.2.1, (fc b hb).1.2.2.2.2.1, (fc b hb).1.2.2.2.2.2⟩
    have nC : Ge zc.heap.objs.size = none := by rw [← lo]; exact If.free
    obtain ⟨m, hn, _⟩ := If.loc
    have hn2 : zf.heap.Ns en.locals m := hn
    rw [lo] at hn2
    exact fin d zc.heap.objs.size zf m Ge Ig qq hn2 (Ic.fpOk (Nat.le_refl _) nC)
  · refine thnF (T.item (X.blk zc L sc en fp) rfl rfl rfl calm i [] ze _ Ge (fun _ _ => False) Ie (okf Ie ne) se go) fun r zf ⟨u, er, hf⟩ => ?_
    subst er
    refine thnF hf fun _ zg ⟨x, Gg, Ig, rg, yg, sg, ng⟩ => ?_
    refine thnF (kg.run _ zg _ Gg x u _ (Ig.pinned (okf Ig ng) (T.obj _ _ sg)) rg (st x Gg yg)) fun _ zh ⟨τ, Gh, Ih, wh, qh⟩ => ?_
    refine thnF (kq.run _ zh τ Gh _ Ih qh) fun b zi ⟨Gi, Ii, qi⟩ => ?_
    have back : ∀ {z : Shared} {G' : Hp}, Inv (X.blk zc L sc en fp) ([] ++ pinsAt fp zg.heap) τ G' z → F G' → ∃ m, m < n ∧ ∃ i G', Inv (X.blk zc L sc en fp) [] (wipe ρ (own.map (·.2))) G' z ∧ step i z.heap ∧ (∀ b ∈ fp, G' b = none) ∧ Z i m G' := fun {z G'} I' nx => by
      obtain ⟨m', hm, w'⟩ := hF G' nx
      have at_ : ∀ b ∈ fp, ∀ o, zg.heap.get? b = some o → z.heap.get? b = some o ∧ G' b = none := fun b hb o e =>
        have k := I'.pin (b, o) (List.mem_append_right _ (List.mem_append_right _ (mem_pinsAt hb e)))
        ⟨k.1, k.2.1⟩
      refine ⟨m', hm, i + 1, G', (I'.unpinned (pins := [])).weak (by rw [← wh, wipe_length]) (fun j v e => ?_), T.keep _ _ _ sg fun b hb o e => (at_ b hb o e).1, fun b hb => ?_, w'⟩
      · rw [← wh] at e
        exact (wipe_some e).1
      · obtain ⟨o, e, _⟩ := T.obj _ _ sg b hb
        exact (at_ b hb o e).2
    cases b with
    | false =>
      rw [if_neg Bool.false_ne_true] at qi ⊢
      exact back Ii qi
    | true =>
      rw [if_pos rfl] at qi ⊢
      refine thnF (ke.run _ zi τ Gi _ Ii qi) fun v zj ⟨yv, Gj, Ij, rj, k, ns, ey, hd, room, nx⟩ => ?_
      subst ey
      obtain ⟨tk, rfl⟩ := rj
      exact si_put (Y := X.blk zc L sc en fp) (fun _ _ z => False.elim z) Ij hd room fun zk Ik => back Ik nx
/-- as a value -/
theorem pe_si (calm : X.calm = true) (nd : X.N.Nodup) (hi : PI X tg it wi) (bo : BlkOk X.N X.env.scope sc own)
    (hg : ∀ (u : Shared) (L : Hp) (C : Addr) (cl : List (PySem.Str × Addr)) (fp : List Addr), PG (X.blk u L sc (compEnvC sc cl C X.env) fp) tg gt) (hq : ∀ (u : Shared) (L : Hp) (C : Addr) (cl : List (PySem.Str × Addr)) (fp : List Addr), PTs (X.blk u L sc (compEnvC sc cl C X.env) fp) cs tq)
    (he : ∀ (u : Shared) (L : Hp) (C : Addr) (cl : List (PySem.Str × Addr)) (fp : List Addr), PE (X.blk u L sc (compEnvC sc cl C X.env) fp) elt te) (fs : ∀ x, foldedSetIterable it X.env x = pure x) :
    PE X (.SetComp elt [⟨tg, it, cs, 0⟩] sc pos) (tSi X.w wi gt tq te (own.map (·.2))) := ⟨fun ps z τ G' Q' I h => by
  rw [PpSet.eval_SetComp]
  refine si_core calm nd I hi bo hg hq he fs h fun d C z' m G2 I2 q hn f => ⟨m, hn, fun z2 same => ?_⟩
  exact ⟨.ref d, G2, I2.turned (t' := z'.toks) (fun b o hb e => (same.2 b hb).trans e) f.1 f.2.1 f.2.2.2.1 f.2.2.2.2.1 f.2.2.2.2.2, rfl, q⟩⟩
end
end Ev
set_option Elab.async false
set_option linter.all false
set_option maxRecDepth 100000
set_option maxHeartbeats 4000000
namespace Ev
open PySem PySem.Spec PyProof.Rows L2
/-! ### set(a list of whole numbers) -/
abbrev sO (w : World) : Obj := { cls := .type "set", dict := none, data := .set #[] 0 (.fresh 0 0 (!w.params.followText "set-order")) }
section
variable {P : Program} {w : World} {A : Around} {E : Value → Shared → Prop} {z : Shared}
set_option maxHeartbeats 6400000 in
theorem set_of_ints {l : Addr} {its : Array Value} (ns : List Int) {Q : Value → Shared → Prop} (free : A.handled = none) (il : z.heap.IsList l its) (ia : IntsAre its.toList ns) (few : ns.length + 1 < scanBound)
    (k : ∀ (g : Heap) (tk c : Nat), SetR w g z.heap.objs.size (fun j => decide (j ∈ ns)) c → c ≤ ns.length → (∀ b o, z.heap.get? b = some o → g.get? b = some o) → Q (.ref z.heap.objs.size) { z with heap := g, toks := tk }) :
    wpAny (model P w) A (call (.type "set") [.ref l]) Q E z := by
  have sz : its.size = ns.length := by rw [← IntsAre.length ia, Array.length_toList]
  obtain ⟨_, _, m1⟩ := F.called_set.mro
  have m2 := F.called_set.made
  have m3 := F.called_set.sub
  apply wpAny_call; apply codeAny_of_tree
  show wpAny (model P w) _ (callAny (.type "set") _) _ _ z
  refine wpAny_pure ⟨Code.quiet_builtin _ (by decide +kernel), ?_⟩
  refine codeAny_builtin F.entry_type_call ?_
  have wt := weight_type_call_type "set" [.ref l] []
  rw [Around.under_plain wt rfl]
  have m4 := F.called_set.notType
  have m5 := F.called_set.canCreate
  have m6 := F.typeCall_set_1 (.ref l)
  repeat any_goals first | assumption | wp_step
  refine codeAny_mono (code_set_led1 (.ref l) (E := E) (Q₁ := fun v z1 => v = .ref z.heap.objs.size ∧ z1 = { z with heap := z.heap.push (sO w) }) ⟨rfl, rfl⟩) fun r z1 hr => ?_
  match r, hr with
  | .error e, hr => exact hr
  | .ok (.ret v), hr =>
    obtain ⟨rfl, rfl⟩ := hr
    have at0 : (z.heap.push (sO w)).get? z.heap.objs.size = some (sO w) := Heap.get?_push_size _ rfl
    have ty0 : Shared.TypeIs { z with heap := z.heap.push (sO w) } (.ref z.heap.objs.size) "set" := ⟨_, at0, rfl⟩
    have m7 := F.called_set.init.lookup
    have m8 := F.called_set.init.bind (.ref z.heap.objs.size)
    repeat any_goals first | assumption | wp_step
    refine codeAny_mono (codeAny_call_builtin (R := wants (fun v z2 => v = .none ∧ ∃ g tk c, z2 = { z with heap := g, toks := tk } ∧ SetR w g z.heap.objs.size (fun j => decide (j ∈ ns)) c ∧ c ≤ ns.length ∧ (∀ b o, z.heap.get? b = some o → g.get? b = some o)) E) F.called_set.init.plain F.entry_set_init (check_set_init_1 ty0 ?first)) ?second
    case first =>
      obtain ⟨⟨oc, od, ob, os⟩, lo, hc, nl, hd⟩ := il
      simp only at hc hd
      subst hc hd
      have lo1 : (z.heap.push (sO w)).get? l = some { cls := .type "list", dict := od, data := .seq its nl, slots := os } := Heap.get?_push_of_some _ lo
      have n1 := F.sub_list_set
      have n2 := F.sub_list_frozenset
      have n3 : (Value.type "list" == Value.type "dict") = false := by decide
      have il1 : (z.heap.push (sO w)).IsList l its := ⟨_, lo1, rfl, nl, rfl⟩
      unfold Builtin.«set.__init__» noKeywords Builtin.Frozenset.updateFrom
      generalize hPI : pyIter = PI
      wp_walk
      subst hPI
      refine wpAny_pyIter_list il1 ?_
      refine wpAny_bind (wpAny_runValue ?_)
      have below : l < z.heap.objs.size := Heap.lt_size lo
      have unh : A.in1.in1.in1.handled = none := by simp [free]
      have up : (z.heap.push (sO w)).objs.size = z.heap.objs.size + 1 := Heap.size_push ..
      have ne1 : l ≠ (z.heap.push (sO w)).objs.size := by rw [up]; exact Nat.ne_of_lt (Nat.lt_succ_of_lt below)
      have out1 : z.heap.objs.size ∉ [(z.heap.push (sO w)).objs.size, l] := by
        rw [up]
        intro q
        rcases List.mem_cons.mp q with q | q
        · exact Nat.ne_of_lt (Nat.lt_succ_self _) q
        · exact Nat.ne_of_gt below (List.mem_singleton.mp q)
      have val : ∀ (i : Nat) (v : Value), its[i]? = some v → ∃ k t, ns[i]? = some k ∧ v = .int k t := fun i v hv => by
        have hi : i < ns.length := by rw [← sz]; exact (Array.getElem?_eq_some_iff.mp hv).1
        obtain ⟨t, e⟩ := IntsAre.int_at ia i v (by rw [Array.getElem?_toList]; exact hv)
        have g : ns.getD i 0 = ns[i] := by rw [List.getD_eq_getElem?_getD, List.getElem?_eq_getElem hi]; rfl
        exact ⟨ns[i], t, List.getElem?_eq_getElem hi, by rw [e, g]⟩
      refine set_update_ints ((Walks.list unh _ l ne1 its).toS) z.heap.objs.size out1 ns sz few val (its.size - 0) 0 _ (by omega) (Nat.zero_le _) ⟨⟨_, Heap.get?_push_size _ rfl, rfl, rfl⟩, (il1.push _)⟩ ?empty ?full
      case empty => exact ⟨0, Nat.le_refl 0, setR_new_at (Heap.get?_push_of_some _ at0)⟩
      case full =>
        rintro ⟨g, g2, d2, tk, o2⟩ c mv cn R
        have e1 : g2 = z.gens := mv.gens
        have e2 : d2 = z.drawn := mv.drawn
        have e3 : o2 = z.os := mv.os
        subst e1 e2 e3
        show wpAny _ _ _ _ _ _
        refine wpAny_pure ?_
        show wpAny _ _ (ret Value.none) _ _ _
        rw [sz] at cn
        refine wpAny_pure ⟨rfl, g, tk, c, rfl, R, cn, fun b o e => mv.heap b o (fun q => ?_) (Heap.get?_push_of_some _ (Heap.get?_push_of_some _ e))⟩
        have hb := Heap.lt_size e
        rcases List.mem_cons.mp q with q | q
        · exact Nat.ne_of_lt hb q
        · have q2 := List.mem_singleton.mp q
          rw [up] at q2
          exact Nat.ne_of_lt (Nat.lt_succ_of_lt hb) q2
    case second =>
      intro r2 z2 h2
      match r2, h2 with
      | .error e, h2 => exact h2
      | .ok (.ret v), h2 =>
        obtain ⟨rfl, g, tk, c, rfl, R, cn, kp⟩ := h2
        repeat any_goals first | assumption | wp_step
        exact k _ _ _ R cn kp
/-- how many there are -/
theorem setR_count {h : Heap} {a : Addr} {ns : List Int} {c : Nat} (R : SetR w h a (fun j => decide (j ∈ ns)) c) (nd : ns.Nodup) : c = ns.length := by
  obtain ⟨o, es, ep, t, _, _, _, _, un, mem, _, _, sz, _⟩ := R
  have p : (es.toList.map keyOf).Perm ns := (List.perm_ext_iff_of_nodup un nd).mpr fun k => by
    have := mem k
    simp only [decide_eq_true_eq] at this
    exact this.symm
  have := p.length_eq
  rw [List.length_map, Array.length_toList] at this
  omega
end
def dedI (ns : List Int) : List Int := ns.foldl addI []
theorem addI_mem {ns : List Int} {k j : Int} : j ∈ addI ns k ↔ j ∈ ns ∨ j = k := by
  unfold addI
  split
  · constructor
    · exact .inl
    · rintro (h | rfl)
      · exact h
      · assumption
  · simp
theorem addI_nd {ns : List Int} {k : Int} (h : ns.Nodup) : (addI ns k).Nodup := by
  unfold addI
  split
  · exact h
  · rename_i c
    rw [List.nodup_append]
    refine ⟨h, by simp, fun a ha b hb => ?_⟩
    obtain rfl := List.mem_singleton.mp hb
    rintro rfl
    exact c ha
theorem fold_addI {k : Int} : ∀ (ns acc : List Int), k ∈ ns.foldl addI acc ↔ k ∈ acc ∨ k ∈ ns
  | [], acc => by simp
  | n :: ns, acc => by
    rw [List.foldl_cons, fold_addI ns, addI_mem, List.mem_cons, or_assoc]
theorem fold_nd : ∀ (ns acc : List Int), acc.Nodup → (ns.foldl addI acc).Nodup
  | [], acc, h => h
  | n :: ns, acc, h => fold_nd ns _ (addI_nd h)
theorem ded_mem {ns : List Int} {k : Int} : k ∈ dedI ns ↔ k ∈ ns := by
  unfold dedI
  rw [fold_addI]
  simp
theorem ded_nd (ns : List Int) : (dedI ns).Nodup := fold_nd ns [] List.nodup_nil
section
variable {X : Cx}
def rSetL (K : PySem.W.Frag) (w : World) : List V → Hp → VK → Prop := fun xs G Q => ∃ (l : Addr) (ns : List Int), xs = [.ref l] ∧ SqL K G l (ns.map V.int) ∧ ns.length + 1 < scanBound ∧ ∀ d, G d = none → Q (.ref d) (upd G d (SI w d (dedI ns)))
theorem cr_setL (calm : X.calm = true) : CallR X (.type "set") (rSetL X.K X.w) := by
  intro ps z ρ G xs us Q I rv h
  obtain ⟨l, ns, rfl, hl, few, q⟩ := h
  rw [Vals.ref1 rv]
  obtain ⟨its, vs, il, _⟩ := I.list hl
  refine set_of_ints ns (I.ok.hd calm) il.isList (by simpa using vs.ints) few fun g tk c R cn kp => ?_
  have R2 : SetR X.w g z.heap.objs.size (fun j => decide (j ∈ dedI ns)) c := R.congr fun k => by
    rw [decide_eq_decide]
    exact ded_mem
  rw [setR_count R2 (ded_nd ns)] at R2
  exact ⟨.ref z.heap.objs.size, _, I.laid (t' := tk) kp (Nat.le_refl _) (setO_new R2), rfl, q _ (I.hok.fresh (Nat.le_refl _))⟩
end
end Ev
set_option Elab.async false
set_option linter.all false
set_option maxRecDepth 100000
set_option maxHeartbeats 4000000
namespace Ev
open PySem L2
/-! ### in rising order, each once -/
def insI (k : Int) : List Int → List Int
  | [] => [k]
  | a :: l => if k < a then k :: a :: l else if k = a then a :: l else a :: insI k l
def sortI (ns : List Int) : List Int := ns.foldr insI []
theorem ins_mem {k j : Int} : ∀ {l : List Int}, j ∈ insI k l ↔ j = k ∨ j ∈ l
  | [] => by simp [insI]
  | a :: l => by
    rw [insI]
    split
    · simp
    · split
      · rename_i h; subst h; simp
      · rw [List.mem_cons, ins_mem, List.mem_cons]
        constructor
        · rintro (h | h | h)
          · exact .inr (.inl h)
          · exact .inl h
          · exact .inr (.inr h)
        · rintro (h | h | h)
          · exact .inr (.inl h)
          · exact .inl h
          · exact .inr (.inr h)
theorem ins_up {k : Int} : ∀ {l : List Int}, l.Pairwise (· < ·) → (insI k l).Pairwise (· < ·)
  | [], _ => by simp [insI]
  | a :: l, h => by
    obtain ⟨h1, h2⟩ := List.pairwise_cons.mp h
    rw [insI]
    split
    · rename_i c
      refine List.pairwise_cons.mpr ⟨fun b hb => ?_, h⟩
      rcases List.mem_cons.mp hb with rfl | hb
      · exact c
      · have := h1 b hb; omega
    · split
      · exact h
      · refine List.pairwise_cons.mpr ⟨fun b hb => ?_, ins_up h2⟩
        rcases ins_mem.mp hb with rfl | hb
        · omega
        · exact h1 b hb
theorem sort_mem {j : Int} : ∀ {ns : List Int}, j ∈ sortI ns ↔ j ∈ ns
  | [] => by simp [sortI]
  | n :: ns => by
    show j ∈ insI n (sortI ns) ↔ _
    rw [ins_mem, sort_mem, List.mem_cons]
theorem sort_up : ∀ ns : List Int, (sortI ns).Pairwise (· < ·)
  | [] => List.Pairwise.nil
  | n :: ns => ins_up (sort_up ns)
/-- two rising lists of the same numbers are one -/
theorem up_one : ∀ {l m : List Int}, l.Pairwise (· < ·) → m.Pairwise (· < ·) → (∀ k, k ∈ l ↔ k ∈ m) → l = m
  | [], [], _, _, _ => rfl
  | [], b :: m, _, _, h => absurd ((h b).mpr List.mem_cons_self) (by simp)
  | a :: l, [], _, _, h => absurd ((h a).mp List.mem_cons_self) (by simp)
  | a :: l, b :: m, hl, hm, h => by
    obtain ⟨l1, l2⟩ := List.pairwise_cons.mp hl
    obtain ⟨m1, m2⟩ := List.pairwise_cons.mp hm
    have e : a = b := by
      rcases List.mem_cons.mp ((h a).mp List.mem_cons_self) with z | z
      · exact z
      · rcases List.mem_cons.mp ((h b).mpr List.mem_cons_self) with y | y
        · exact y.symm
        · have := l1 b y; have := m1 a z; omega
    subst e
    refine congrArg (a :: ·) (up_one l2 m2 fun k => ?_)
    constructor
    · intro hk
      rcases List.mem_cons.mp ((h k).mp (List.mem_cons_of_mem _ hk)) with z | z
      · have := l1 k hk; omega
      · exact z
    · intro hk
      rcases List.mem_cons.mp ((h k).mpr (List.mem_cons_of_mem _ hk)) with z | z
      · have := m1 k hk; omega
      · exact z
theorem sort_len : ∀ ns : List Int, (sortI ns).length ≤ ns.length := by
  have h1 : ∀ (k : Int) (l : List Int), (insI k l).length ≤ l.length + 1 := fun k l => by
    induction l with
    | nil => simp [insI]
    | cons a l ih =>
      rw [insI]
      split
      · simp
      · split
        · simp
        · simp; omega
  intro ns
  induction ns with
  | nil => simp [sortI]
  | cons n ns ih =>
    show (insI n (sortI ns)).length ≤ _
    have := h1 n (sortI ns)
    rw [List.length_cons]
    omega
/-! ### what is told of a set -/
def relZ (w : World) : List Addr → Hp → List Int → V → Prop := fun bs G ns v => ∃ d, v = .ref d ∧ d ∉ bs ∧ G d = some (SI w d ns)
structure ZJ (ci : Nat → String × List String) (X : Cx) (W : WX) (e : Expr) (t : TE) (f : En → Hs → R (List Int)) : Prop where
  pe : PE X e t
  sim : Sim (relZ X.w) (X.g ci) W t f
section
variable {g : G} {bs : List Addr} {h : Hs} {G0 : Hp}
theorem repsZ : ∀ ns : List Int, Reps g bs G0 (ns.map D.int) (ns.map V.int)
  | [] => .nil
  | n :: ns => .cons (.int n) (repsZ ns)
/-- a new thing beside, then a new list of numbers -/
theorem post_ints {W : Value → Option Addr → Hp → Prop} {Q : VK} {ns : List Int} (hr : HRel g bs h G0) (p : Post (relV g) g W bs G0 (.ok (.lst (ns.map D.int)) h) Q) {q : Addr} (hq : G0 q = none) : Q (.ref q) (upd G0 q (.lst (ns.map V.int))) :=
  p bs _ _ (.new hq) (hr.new hq) (.lst (hr.out hq) upd_same ((repsZ ns).mono (.new hq)))
end
def setID (xs : List D) (h : Hs) : R (List Int) := match xs with
  | [x] => match rdL h x with
    | some ys => match intsOf ys with
      | some ns => if ns.length < 1000 then .ok (dedI ns) h else .bad
      | none => .bad
    | none => .bad
  | _ => .bad
def eZ (f : List D → Hs → R (List Int)) (fa : En → Hs → R (List D)) : En → Hs → R (List Int) := fun env h => (fa env h).bind f
@[simp] theorem eZ_ap {f : List D → Hs → R (List Int)} {fa : En → Hs → R (List D)} {env : En} {h : Hs} : eZ f fa env h = (fa env h).bind f := rfl
def sortZ (ns : List Int) (h : Hs) : R D := if ns.length < 64 then .ok (.lst ((sortI ns).map D.int)) h else .bad
def eSortZ (f : En → Hs → R (List Int)) : En → Hs → R D := fun env h => (f env h).bind sortZ
@[simp] theorem eSortZ_ap {f : En → Hs → R (List Int)} {env : En} {h : Hs} : eSortZ f env h = (f env h).bind sortZ := rfl
section
variable {ci : Nat → String × List String} {X : Cx} {W : WX} {p pos : Pos} {e : Expr} {t : TA} {te : TE} {fa : En → Hs → R (List D)} {fz : En → Hs → R (List Int)}
theorem zj_set (calm : X.calm = true) (hg : Gl X "set") (hm : X.mg "set" = none) (ha : AJ ci X W [e] t fa)
    (he : starEach [e] X.env = (false, eval e X.env) :: starEach [] X.env := by rfl) (hpl : (backTo pos (starEach [] X.env)).any (·.1) = false := by rfl) : ZJ ci X W (.Call (.Name "set" p) [e] [] pos) (tCB (rSetL X.K X.w) t) (eZ setID fa) :=
  ⟨pe_callTy (cr_setL calm) hg hm (by decide +kernel) ha.pa (by decide) (by decide) he hpl, fun ρ G0 env h bs Q er hr q => ha.sim.step er hr q fun xs vs b1 G1 h1 e1 hr1 er1 rs q1 => by
    unfold setID at q1
    split at q1
    · split at q1
      · rename_i ys hy
        split at q1
        · rename_i ns hn
          split at q1
          · rename_i few
            cases rs with
            | cons r r2 =>
              cases r2
              obtain ⟨l, us, rfl, hl, ru⟩ := rdL_ok hr1 r hy
              rw [ints_ok ru hn] at hl
              exact ⟨l, ns, rfl, hl, Nat.lt_trans (Nat.succ_lt_succ few) (by decide), fun d hd => q1 b1 _ _ (.new hd) (hr1.new hd) ⟨d, rfl, hr1.out hd, upd_same⟩⟩
          · exact q1.elim
        · exact q1.elim
      · exact q1.elim
    · exact q1.elim⟩
theorem ej_sortZ (calm : X.calm = true) (hg : Gl X "sorted") (hm : X.mg "sorted" = none) (hz : ZJ ci X W e te fz)
    (he : starEach [e] X.env = (false, eval e X.env) :: starEach [] X.env := by rfl) (hpl : (backTo pos (starEach [] X.env)).any (·.1) = false := by rfl) : EJ ci X W (.Call (.Name "sorted" p) [e] [] pos) (tCB (rSortedSet X.w) (tCons te tNil)) (eSortZ fz) :=
  ⟨pe_callB (cr_sortedSet calm) hg hm (by decide +kernel) (pa_cons hz.pe pa_nil he) (by decide) (by decide) he hpl, fun ρ G0 env h bs Q er hr q => hz.sim.step er hr q fun ns v b1 G1 h1 e1 hr1 er1 rz q1 => by
    obtain ⟨d, rfl, nd, hd⟩ := rz
    unfold sortZ at q1
    split at q1
    · rename_i few
      refine ⟨d, _, _, rfl, hd, few, fun out a up mem len ha => ?_⟩
      have eo : out = sortI ns := up_one up (sort_up ns) fun k => by
        rw [mem k, sort_mem]
        simp
      rw [eo]
      exact post_ints hr1 q1 ha
    · exact q1.elim⟩
end
/-! ### sets of pairs -/
def pairsOf : List D → Option (List (Int × Int))
  | [] => some []
  | .tup [.int i, .int j] :: r => (pairsOf r).map ((i, j) :: ·)
  | _ => none
def codeP (p : Int × Int) : Int := p.1 * 64 + p.2
def sortP (ps : List (Int × Int)) : List (Int × Int) := (sortI (ps.map codeP)).map fun k => (k / 64, k % 64)
def pairD (p : Int × Int) : D := .tup [.int p.1, .int p.2]
def inP (p : Int × Int) : Bool := decide (0 ≤ p.1) && decide (p.1 < 64) && decide (0 ≤ p.2) && decide (p.2 < 64)
def sortSP (xs : List D) (h : Hs) : R D := match xs with
  | [x] => match rdL h x with
    | some ys => match pairsOf ys with
      | some ps => if ps.length < 64 ∧ ps.all inP = true then .ok (.lst ((sortP ps).map pairD)) h else .bad
      | none => .bad
    | none => .bad
  | _ => .bad
section
variable {g : G} {bs : List Addr} {h : Hs} {G0 : Hp}
/-- where the pairs stand -/
structure PrAt (g : G) (bs : List Addr) (G0 : Hp) (k : Addr × List Int) : Prop where
  at_ : TupAt g bs G0 k.1 (k.2.map V.int)
theorem pairs_at : ∀ {ds : List D} {vs : List V} {ps : List (Int × Int)}, Reps g bs G0 ds vs → pairsOf ds = some ps → ∃ ks : List (Addr × List Int), vs = ks.map (fun k => V.ref k.1) ∧ ks.map (·.2) = ps.map (fun p => [p.1, p.2]) ∧ ∀ k ∈ ks, PrAt g bs G0 k
  | _, _, _, .nil, e => by cases e; exact ⟨[], rfl, rfl, by simp⟩
  | d :: ds, v :: vs, ps, .cons r t, e => by
    unfold pairsOf at e
    split at e
    · rename_i z; cases z
    · rename_i i j rr z
      cases z
      cases hq : pairsOf ds with
      | none => rw [hq] at e; cases e
      | some qs =>
        rw [hq] at e
        cases e
        obtain ⟨ks, k1, k2, k3⟩ := pairs_at t hq
        cases r with
        | tup ha rs =>
          cases rs with
          | cons r1 rs =>
            cases r1
            cases rs with
            | cons r2 rs =>
              cases r2
              cases rs
              refine ⟨(_, [i, j]) :: ks, by rw [k1]; rfl, by rw [List.map_cons, List.map_cons, k2], fun k hk => ?_⟩
              rcases List.mem_cons.mp hk with rfl | hk
              · exact ⟨ha⟩
              · exact k3 k hk
    · cases e
theorem PrAt.mono {b1 : List Addr} {G1 : Hp} (e : Ext bs G0 b1 G1) {k : Addr × List Int} (h : PrAt g bs G0 k) : PrAt g b1 G1 k := ⟨h.at_.mono e⟩
theorem reps_prs : ∀ {ks : List (Addr × List Int)} {ps : List (Int × Int)}, ks.map (·.2) = ps.map (fun p => [p.1, p.2]) → (∀ k ∈ ks, PrAt g bs G0 k) → Reps g bs G0 (ps.map pairD) (ks.map fun k => V.ref k.1)
  | [], [], _, _ => .nil
  | [], _ :: _, e, _ => by cases e
  | _ :: _, [], e, _ => by cases e
  | k :: ks, p :: ps, e, h => by
    rw [List.map_cons, List.map_cons] at e
    injection e with e1 e2
    have a := (h k List.mem_cons_self).at_
    rw [e1] at a
    exact .cons (.tup a (.cons (.int _) (.cons (.int _) .nil))) (reps_prs e2 fun x hx => h x (List.mem_cons_of_mem _ hx))
end
theorem code_dec {p : Int × Int} (h : inP p = true) : (codeP p / 64, codeP p % 64) = p := by
  unfold inP at h
  simp at h
  obtain ⟨i, j⟩ := p
  simp only [codeP, Prod.mk.injEq]
  constructor <;> omega
theorem perm_codes {ps qs : List (Int × Int)} (hp : ps.all inP = true) (hq : ∀ q ∈ qs, q ∈ ps) (hq2 : ∀ p ∈ ps, p ∈ qs) (nd : qs.Nodup) (up : qs.Pairwise fun a b => codeP a ≤ codeP b) : qs = sortP ps := by
  have inq : ∀ q ∈ qs, inP q = true := fun q h => List.all_eq_true.mp hp q (hq q h)
  have e1 : qs.map codeP = sortI (ps.map codeP) := by
    refine up_one ?_ (sort_up _) fun k => ?_
    · rw [List.pairwise_map]
      have both := up.and nd
      have mem : qs.Pairwise fun a b => a ∈ qs ∧ b ∈ qs := by
        have : ∀ l : List (Int × Int), (∀ x ∈ l, x ∈ qs) → l.Pairwise fun a b => a ∈ qs ∧ b ∈ qs := by
          intro l
          induction l with
          | nil => intro _; exact List.Pairwise.nil
          | cons a l ih => intro h; exact List.pairwise_cons.mpr ⟨fun b hb => ⟨h a List.mem_cons_self, h b (List.mem_cons_of_mem _ hb)⟩, ih fun x hx => h x (List.mem_cons_of_mem _ hx)⟩
        exact this qs fun x hx => hx
      refine (both.and mem).imp fun {a b} z => ?_
      obtain ⟨⟨z1, z2⟩, z3, z4⟩ := z
      have n : codeP a ≠ codeP b := fun c => z2 (by rw [← code_dec (inq a z3), ← code_dec (inq b z4), c])
      omega
    · rw [sort_mem, List.mem_map, List.mem_map]
      exact ⟨fun ⟨a, h1, h2⟩ => ⟨a, hq a h1, h2⟩, fun ⟨a, h1, h2⟩ => ⟨a, hq2 a h1, h2⟩⟩
  unfold sortP
  rw [← e1, List.map_map]
  have : ∀ l : List (Int × Int), (∀ x ∈ l, inP x = true) → l = l.map ((fun k => (k / 64, k % 64)) ∘ codeP) := by
    intro l
    induction l with
    | nil => intro _; rfl
    | cons a l ih =>
      intro h
      rw [List.map_cons, ← ih fun x hx => h x (List.mem_cons_of_mem _ hx)]
      show a :: l = (codeP a / 64, codeP a % 64) :: l
      rw [code_dec (h a List.mem_cons_self)]
  exact this qs inq
section
variable {ci : Nat → String × List String} {X : Cx} {W : WX} {p p2 pos pos2 : Pos} {e : Expr} {t : TA} {fa : En → Hs → R (List D)}
theorem ej_sortSP (calm : X.calm = true) (hu : X.A.units + 64 < cLine) (hg : Gl X "sorted") (hm : X.mg "sorted" = none) (hg2 : Gl X "set") (hm2 : X.mg "set" = none) (ha : AJ ci X W [e] t fa)
    (he : starEach [e] X.env = (false, eval e X.env) :: starEach [] X.env := by rfl) (hpl : (backTo pos2 (starEach [] X.env)).any (·.1) = false := by rfl)
    (he2 : starEach [(.Call (.Name "set" p2) [e] [] pos2)] X.env = (false, eval (.Call (.Name "set" p2) [e] [] pos2) X.env) :: starEach [] X.env := by rfl) (hpl2 : (backTo pos (starEach [] X.env)).any (·.1) = false := by rfl) :
    EJ ci X W (.Call (.Name "sorted" p) [.Call (.Name "set" p2) [e] [] pos2] [] pos) (tCB (rSortedT X.K X.prog X.w) (tCons (tCB (rSetOfT X.K X.prog X.w) t) tNil)) (eCall sortSP fa) :=
  ⟨pe_callB (cr_sortedT calm) hg hm (by decide +kernel) (pa_cons (pe_callTy (cr_setOfT calm hu) hg2 hm2 (by decide +kernel) ha.pa (by decide) (by decide) he hpl) pa_nil he2) (by decide) (by decide) he2 hpl2, fun ρ G0 env h bs Q er hr q => ha.sim.step er hr q fun xs vs b1 G1 h1 e1 hr1 er1 rs q1 => by
    unfold sortSP at q1
    split at q1
    · split at q1
      · rename_i ys hy
        split at q1
        · rename_i ps hn
          split at q1
          · rename_i few
            obtain ⟨few, all⟩ := few
            cases rs with
            | cons r r2 =>
              cases r2
              obtain ⟨l, us, rfl, hl, ru⟩ := rdL_ok hr1 r hy
              obtain ⟨ks, k1, k2, k3⟩ := pairs_at ru hn
              rw [k1] at hl
              have kl : ks.length = ps.length := by have := congrArg List.length k2; simpa using this
              refine ⟨l, ks, rfl, hl, fun k hk => (k3 k hk).at_.sq, by omega, fun d L hd hL hL2 => ?_⟩
              have inL : ∀ k ∈ ks, ∃ p ∈ ps, k.2 = [p.1, p.2] := fun k hk => by
                have : k.2 ∈ ps.map fun p => [p.1, p.2] := by rw [← k2]; exact List.mem_map.mpr ⟨k, hk, rfl⟩
                obtain ⟨p, hp, e⟩ := List.mem_map.mp this
                exact ⟨p, hp, e.symm⟩
              have bd : ∀ p ∈ ps, 0 ≤ p.1 ∧ p.1 < 64 ∧ 0 ≤ p.2 ∧ p.2 < 64 := fun p hp => by
                have := List.all_eq_true.mp all p hp
                unfold inP at this
                simp at this
                omega
              have k4 : ∀ k ∈ ks, PrAt (X.g ci) b1 (upd G1 d (SetTO X.prog X.w d L)) k := fun k hk => (k3 k hk).mono (.new hd)
              refine ⟨d, L, 2, 64, rfl, upd_same, fun k hk => (k4 k (hL k hk)).at_.sq, by decide, fun k hk => ?_, fun L' a pm nd fw up ha => ?_⟩
              · obtain ⟨p, hp, e⟩ := inL k (hL k hk)
                have := bd p hp
                rw [e]
                refine ⟨rfl, fun m hm => ?_⟩
                simp at hm
                rcases hm with rfl | rfl <;> omega
              · have hL3 : ∀ k ∈ L', k ∈ ks := fun k hk => hL k (pm.mem_iff.mp hk)
                -- the pairs that stand there
                obtain ⟨qs, q2⟩ : ∃ qs : List (Int × Int), L'.map (·.2) = qs.map fun p => [p.1, p.2] := by
                  have : ∀ M : List (Addr × List Int), (∀ k ∈ M, k ∈ ks) → ∃ qs : List (Int × Int), M.map (·.2) = qs.map fun p => [p.1, p.2] := by
                    intro M
                    induction M with
                    | nil => intro _; exact ⟨[], rfl⟩
                    | cons k M ih =>
                      intro hM
                      obtain ⟨p, _, e⟩ := inL k (hM k List.mem_cons_self)
                      obtain ⟨qs, e2⟩ := ih fun x hx => hM x (List.mem_cons_of_mem _ hx)
                      exact ⟨p :: qs, by rw [List.map_cons, List.map_cons, e, e2]⟩
                  exact this L' hL3
                have mem1 : ∀ q ∈ qs, q ∈ ps := fun q hq => by
                  have : [q.1, q.2] ∈ L'.map (·.2) := by rw [q2]; exact List.mem_map.mpr ⟨q, hq, rfl⟩
                  obtain ⟨k, hk, e⟩ := List.mem_map.mp this
                  obtain ⟨p, hp, e2⟩ := inL k (hL3 k hk)
                  rw [e2] at e
                  simp at e
                  have : p = q := Prod.ext e.1 e.2
                  rw [← this]; exact hp
                have mem2 : ∀ p ∈ ps, p ∈ qs := fun p hp => by
                  have h0 : [p.1, p.2] ∈ ks.map (·.2) := by rw [k2]; exact List.mem_map.mpr ⟨p, hp, rfl⟩
                  obtain ⟨k, hk, e⟩ := List.mem_map.mp h0
                  have h1 := hL2 k hk
                  obtain ⟨m, hm, em⟩ := List.mem_map.mp h1
                  have h2 : [p.1, p.2] ∈ L'.map (·.2) := List.mem_map.mpr ⟨m, pm.mem_iff.mpr hm, by rw [em, e]⟩
                  rw [q2] at h2
                  obtain ⟨q, hq, eq⟩ := List.mem_map.mp h2
                  simp at eq
                  have : q = p := Prod.ext eq.1 eq.2
                  rw [← this]; exact hq
                have ndq : qs.Nodup := by
                  rw [q2] at nd
                  exact List.Pairwise.of_map _ (fun a b hab z => hab (by rw [z])) nd
                have upq : qs.Pairwise fun a b => codeP a ≤ codeP b := by
                  have z : (L'.map (·.2)).Pairwise fun a b => TS.code 64 a ≤ TS.code 64 b := List.pairwise_map.mpr up
                  rw [q2, List.pairwise_map] at z
                  refine z.imp fun {a b} y => ?_
                  rw [code_pair, code_pair] at y
                  exact y
                have eq := perm_codes all mem1 mem2 ndq upq
                rw [eq] at q2
                have hr2 := hr1.new (o := SetTO X.prog X.w d L) hd
                refine q1 b1 _ _ (Ext.trans (.new hd) (.new ha)) (hr2.new ha) (.lst (hr2.out ha) upd_same ?_)
                exact (reps_prs q2 fun k hk => k4 k (hL3 k hk)).mono (.new ha)
          · exact q1.elim
        · exact q1.elim
      · exact q1.elim
    · exact q1.elim⟩
end
end Ev
set_option Elab.async false
set_option linter.all false
set_option maxRecDepth 100000
set_option maxHeartbeats 4000000
namespace Ev
open PySem L2
/-! ### set comprehensions of whole numbers, on trees -/
section
variable {g : G} {bs : List Addr} {H H1 : Hp} {d : Addr}
/-- what stands aside of all trees may be put anew -/
theorem rd_sw (e : ∀ b, b ≠ d → H1 b = H b) (hd : ∃ P, H d = some (.ext P)) {a : Addr} {u : HO} (hu : ∀ P, u ≠ .ext P) (h : Rd H a u) : Rd H1 a u := by
  obtain ⟨P, hd⟩ := hd
  rcases h with h | ⟨o, h⟩
  · exact .inl ((e a fun c => hu P (by subst c; rw [hd] at h; cases h; rfl)).trans h)
  · exact .inr ⟨o, (e a fun c => by subst c; rw [hd] at h; cases h).trans h⟩
theorem some_sw (e : ∀ b, b ≠ d → H1 b = H b) (hd : ∃ P, H d = some (.ext P)) {a : Addr} {u : HO} (hu : ∀ P, u ≠ .ext P) (h : H a = some u) : H1 a = some u := by
  obtain ⟨P, hd⟩ := hd
  exact (e a fun c => hu P (by subst c; rw [hd] at h; cases h; rfl)).trans h
theorem TupAt.sw (e : ∀ b, b ≠ d → H1 b = H b) (hd : ∃ P, H d = some (.ext P)) {a : Addr} {vs : List V} (h : TupAt g bs H a vs) : TupAt g bs H1 a vs :=
  h.imp (fun z => ⟨z.1, rd_sw e hd (fun _ => nofun) z.2⟩) id
theorem RolAt.sw (e : ∀ b, b ≠ d → H1 b = H b) (hd : ∃ P, H d = some (.ext P)) {a : Addr} {vs : List V} (h : RolAt g bs H a vs) : RolAt g bs H1 a vs :=
  h.imp (fun z => ⟨z.1, rd_sw e hd (fun _ => nofun) z.2⟩) id
theorem lst_sw (e : ∀ b, b ≠ d → H1 b = H b) (hd : ∃ P, H d = some (.ext P)) {a : Addr} {vs : List V} (h : H a = some (.lst vs)) : H1 a = some (.lst vs) := some_sw e hd (fun _ => nofun) h
theorem ins_sw (e : ∀ b, b ≠ d → H1 b = H b) (hd : ∃ P, H d = some (.ext P)) {a C dx : Addr} {fvs : List (Str × V)} (h : H a = some (.ins C dx fvs)) : H1 a = some (.ins C dx fvs) := some_sw e hd (fun _ => nofun) h
theorem dK_sw (e : ∀ b, b ≠ d → H1 b = H b) (hd : ∃ P, H d = some (.ext P)) {a : Addr} {kvs : List (Key × V)} (h : H a = some (.dK kvs)) : H1 a = some (.dK kvs) := some_sw e hd (fun _ => nofun) h
theorem frz_sw (e : ∀ b, b ≠ d → H1 b = H b) (hd : ∃ P, H d = some (.ext P)) {a : Addr} {od : Obj} {u : HO} (h : H a = some (.frz od u)) : H1 a = some (.frz od u) := some_sw e hd (fun _ => nofun) h
mutual
theorem Rep.sw (e : ∀ b, b ≠ d → H1 b = H b) (hd : ∃ P, H d = some (.ext P)) : ∀ {x : D} {v : V}, Rep g bs H x v → Rep g bs H1 x v
  | _, _, .non => .non
  | _, _, .bl b => .bl b
  | _, _, .int i => .int i
  | _, _, .str h => .str h
  | _, _, .tup h r => .tup (TupAt.sw e hd h) (Reps.sw e hd r)
  | _, _, .lst n h r => .lst n (lst_sw e hd h) (Reps.sw e hd r)
  | _, _, .rol h r => .rol (RolAt.sw e hd h) (Reps.sw e hd r)
  | _, _, .obj n c h f r => .obj n c (ins_sw e hd h) f (Reps.sw e hd r)
  | _, _, .ref h => .ref h
  | _, _, .dct n h f r => .dct n (dK_sw e hd h) f (Reps.sw e hd r)
  | _, _, .dnt n h f r r2 => .dnt n (frz_sw e hd h) f (Reps.sw e hd r) (Reps.sw e hd r2)
theorem Reps.sw (e : ∀ b, b ≠ d → H1 b = H b) (hd : ∃ P, H d = some (.ext P)) : ∀ {ds : List D} {vs : List V}, Reps g bs H ds vs → Reps g bs H1 ds vs
  | _, _, .nil => .nil
  | _, _, .cons r t => .cons (Rep.sw e hd r) (Reps.sw e hd t)
end
theorem HRel.sw (e : ∀ b, b ≠ d → H1 b = H b) (hd : ∃ P, H d = some (.ext P)) (nd : d ∉ bs) {h : Hs} (hr : HRel g bs h H) : HRel g bs h H1 := by
  refine ⟨hr.len, hr.nd, fun i o hi => ?_⟩
  obtain ⟨a, h1, h2⟩ := hr.at_ i o hi
  have ha : H1 a = H a := e a fun c => nd (c ▸ List.mem_of_getElem? h1)
  refine ⟨a, h1, ?_⟩
  cases o with
  | lst ds => obtain ⟨vs, q, r⟩ := h2; exact ⟨vs, ha.trans q, r.sw e hd⟩
  | ins c ds => obtain ⟨C, dx, fvs, q1, q2, q3, q4⟩ := h2; exact ⟨C, dx, fvs, q1, ha.trans q2, q3, q4.sw e hd⟩
  | dct ks ds => obtain ⟨kvs, q1, q2, q3⟩ := h2; exact ⟨kvs, ha.trans q1, q2, q3.sw e hd⟩
  | dn ks ds => obtain ⟨es, q1, q2, q3, q4⟩ := h2; exact ⟨es, ha.trans q1, q2, q3.sw e hd, q4.sw e hd⟩
  | lk od u o =>
    obtain ⟨q, r⟩ := h2
    refine ⟨ha.trans q, ?_⟩
    cases o with
    | dct ks ds => obtain ⟨kvs, q1, q2, q3⟩ := r; exact ⟨kvs, q1, q2, q3.sw e hd⟩
    | dn ks ds => obtain ⟨es, q1, q2, q3, q4⟩ := r; exact ⟨es, q1, q2, q3.sw e hd, q4.sw e hd⟩
    | _ => exact r.elim
end
noncomputable def compZ (gs : List (Nat × O)) (k : D → En → Option En) (tt : En → Hs → R Bool) (fe : En → Hs → R D) (env : En) : List D → List Int → Hs → R (List Int)
  | [], acc, h => open Classical in if Kept gs h then .ok acc h else .bad
  | x :: xs, acc, h => open Classical in if Kept gs h then (match k x env with
    | none => .bad
    | some e1 => (noErr (tt e1 h)).bind fun b h1 => if b = true then (noErr (fe e1 h1)).bind fun y h2 => match y with
        | .int n => if acc.length < 4000 then compZ gs k tt fe env xs (addI acc n) h2 else .bad
        | _ => .bad
      else compZ gs k tt fe env xs acc h1) else .bad
noncomputable def eCompZ (fi : En → Hs → R Src) (k : D → En → Option En) (tt : En → Hs → R Bool) (fe : En → Hs → R D) (own : List Nat) : En → Hs → R (List Int) := fun env h => (fi env h).bind fun s h1 => compZ s.2 k tt fe (wipeE env own) s.1 [] h1
theorem compZ_ok {gs : List (Nat × O)} {k : D → En → Option En} {tt : En → Hs → R Bool} {fe : En → Hs → R D} {env : En} : ∀ {xs : List D} {acc : List Int} {h : Hs}, (∃ ns h2, compZ gs k tt fe env xs acc h = .ok ns h2) ∨ compZ gs k tt fe env xs acc h = .bad
  | [], acc, h => by
    rw [compZ]
    split
    · exact .inl ⟨_, _, rfl⟩
    · exact .inr rfl
  | x :: xs, acc, h => by
    rw [compZ]
    split
    · split
      · exact .inr rfl
      · rename_i e1 _
        cases ht : noErr (tt e1 h) with
        | bad => exact .inr rfl
        | err c fs h' => exact (by cases hz : tt e1 h <;> rw [hz] at ht <;> cases ht)
        | ok b h1 =>
          simp only [R.bind_ok]
          split
          · cases hf : noErr (fe e1 h1) with
            | bad => exact .inr rfl
            | err c fs h => exact (by cases hz : fe e1 h1 <;> rw [hz] at hf <;> cases hf)
            | ok y h2 =>
              simp only [R.bind_ok]
              split
              · split
                · exact compZ_ok
                · exact .inr rfl
              · exact .inr rfl
          · exact compZ_ok
    · exact .inr rfl
section
variable {ci : Nat → String × List String} {X : Cx} {W : WX} {elt tg iter : Expr} {ifs : List Expr} {scope : Scope} {own : List (Str × Nat)} {pos : Pos} {wi : TI} {t : TG} {tt : TT} {te : TE} {fi : En → Hs → R Src} {k : D → En → Option En} {js : List Nat} {ft : En → Hs → R Bool} {fe : En → Hs → R D}
theorem sim_compZ {g : G} {w : World} {vs : List Nat} (hi : Sim (relI g) g W wi fi) (hg : SimG g t k js) (ht : Sim relB g W0 tt ft) (he : Sim (relV g) g W0 te fe) (hjs : ∀ j ∈ js, j ∈ vs) : Sim (relZ w) g W (tSi w wi t tt te vs) (eCompZ fi k ft fe vs) :=
  fun σ H env h bs Q er hr p => hi.step er hr p fun s J bs1 H1 h1 e1 hr1 er1 fd p1 => by
    rcases compZ_ok (gs := s.2) (k := k) (tt := ft) (fe := fe) (env := wipeE env vs) (xs := s.1) (acc := []) (h := h1) with ⟨ns, hE, hc⟩ | hc
    case inr => rw [hc] at p1; exact p1.elim
    rw [hc] at p1
    intro Da hD
    have isE : ∀ ns, ∃ P, SI w Da ns = .ext P := fun ns => ⟨_, rfl⟩
    refine ⟨fun i m H => m = s.1.length - i ∧ i ≤ s.1.length ∧ ∃ acc bs h, Ext bs1 H1 bs H ∧ Da ∉ bs ∧ H Da = some (SI w Da acc) ∧ HRel g bs h H ∧ compZ s.2 k ft fe (wipeE env vs) (s.1.drop i) acc h = .ok ns hE,
      ⟨_, rfl, Nat.zero_le _, [], bs1, h1, .new hD, hr1.out hD, upd_same, hr1.new hD, hc⟩, ?_⟩
    rintro i m H ⟨rfl, hil, acc, bs, h, e, nD, hDa, hr, hc⟩
    have eW : ∀ {bs H}, Ext bs1 H1 bs H → ERel g bs H (wipeE env vs) (wipe σ vs) := fun e => (er1.mono e).wipe vs
    by_cases hlt : i < s.1.length
    · refine .inr ?_
      rw [List.drop_eq_getElem_cons hlt, compZ] at hc
      split at hc
      · rename_i kp
        obtain ⟨go, yl⟩ := (fd _ _ H e hr kp).1 i _ (List.getElem?_eq_getElem hlt)
        refine ⟨go, fun H' => ∃ acc bs h, Ext bs1 H1 bs H' ∧ Da ∉ bs ∧ H' Da = some (SI w Da acc) ∧ HRel g bs h H' ∧ compZ s.2 k ft fe (wipeE env vs) (s.1.drop (i + 1)) acc h = .ok ns hE, fun H' z => ⟨_, by omega, rfl, hlt, z⟩, fun x H' y => ?_⟩
        obtain ⟨e2, hr2, rx⟩ := yl x H' y
        have hDa2 := e2.keep _ _ hDa nD
        split at hc
        · cases hc
        · rename_i env1 hk
          refine hg x _ _ H' _ env1 _ _ _ rx (eW (e.trans e2)) hr2 hk fun σ' er' hw => ⟨by rw [hw vs hjs]; exact wipe_idem vs fun _ z => z, ?_⟩
          refine ht σ' H' env1 _ _ _ er' hr2 ?_
          cases hft : ft env1 h with
          | bad => rw [hft] at hc; cases hc
          | err c fs h' => rw [hft] at hc; cases hc
          | ok b h2 =>
            rw [hft] at hc
            simp only [noErr_ok, R.bind_ok] at hc
            intro bs3 H3 b' e3 hr3 eb
            cases (show b' = b from eb)
            have nD3 := e3.out hDa2 nD
            have hDa3 := e3.keep _ _ hDa2 nD
            cases b with
            | true =>
              rw [if_pos rfl] at hc ⊢
              refine he σ' H3 env1 h2 bs3 _ (er'.mono e3) hr3 ?_
              cases hfe : fe env1 h2 with
              | bad => rw [hfe] at hc; cases hc
              | err c fs h' => rw [hfe] at hc; cases hc
              | ok y h3 =>
                rw [hfe] at hc
                simp only [noErr_ok, R.bind_ok] at hc
                split at hc
                · rename_i n
                  split at hc
                  · rename_i room
                    intro bs4 H4 vy e4 hr4 ry
                    cases ry
                    have nD4 := e4.out hDa3 nD3
                    have hDa4 := e4.keep _ _ hDa3 nD3
                    refine ⟨n, acc, rfl, hDa4, Nat.lt_trans (Nat.succ_lt_succ room) (by decide), addI acc n, bs4, h3, ?_, nD4, upd_same, hr4.sw (d := Da) (fun b hb => upd_ne hb) ⟨_, hDa4⟩ nD4, hc⟩
                    have e5 := ((e.trans e2).trans e3).trans e4
                    have ne : ∀ b o, H1 b = some o → b ≠ Da := fun b o hb z => by subst z; rw [hD] at hb; cases hb
                    exact ⟨e5.pre, fun b o hb nb => by rw [upd_ne (ne b o hb)]; exact e5.keep b o hb nb, fun b o hb => by rw [upd_ne (ne b o hb)]; exact e5.cel b o hb⟩
                  · cases hc
                · cases hc
            | false =>
              rw [if_neg Bool.false_ne_true] at hc ⊢
              exact ⟨acc, bs3, h2, (e.trans e2).trans e3, nD3, hDa3, hr3, hc⟩
      · cases hc
    · have hi : i = s.1.length := by omega
      subst hi
      rw [List.drop_length, compZ] at hc
      split at hc
      · rename_i kp
        cases hc
        exact .inl ⟨(fd _ _ H e hr kp).2, p1 bs H _ e hr ⟨Da, rfl, nD, hDa⟩⟩
      · cases hc
theorem zj_si (hc : X.calm = true) (hN : X.N.Nodup) (hi : IJ ci X W tg iter wi fi) (ok : BlkOk X.N X.env.scope scope own) {vs : List Nat} (hv : own.map (·.2) = vs) (hjs : ∀ j ∈ js, j ∈ vs)
    (hg : ∀ (s : Shared) (H : Hp) (C : Addr) (cl : List (Str × Addr)) (fp : List Addr), GJ ci (X.blk s H scope (compEnvC scope cl C X.env) fp) tg t k js) (ht : ∀ (s : Shared) (H : Hp) (C : Addr) (cl : List (Str × Addr)) (fp : List Addr), TsJ ci (X.blk s H scope (compEnvC scope cl C X.env) fp) ifs tt ft)
    (he : ∀ (s : Shared) (H : Hp) (C : Addr) (cl : List (Str × Addr)) (fp : List Addr), EJ ci (X.blk s H scope (compEnvC scope cl C X.env) fp) W0 elt te fe) (hs : ∀ x, foldedSetIterable iter X.env x = pure x := by intro _; rfl) :
    ZJ ci X W (.SetComp elt [⟨tg, iter, ifs, 0⟩] scope pos) (tSi X.w wi t tt te vs) (eCompZ fi k ft fe vs) := by
  subst hv
  exact ⟨pe_si hc hN hi.pi ok (fun s H C cl fp => (hg s H C cl fp).pg) (fun s H C cl fp => (ht s H C cl fp).pts) (fun s H C cl fp => (he s H C cl fp).pe) hs,
      sim_compZ hi.sim (hg X.s_0 (fun _ => none) 0 [] []).sim (ht X.s_0 (fun _ => none) 0 [] []).sim (he X.s_0 (fun _ => none) 0 [] []).sim hjs⟩
theorem zjJ_si {t : Shared → Hp → Addr → List (Str × Addr) → List Addr → TG} {tt : Shared → Hp → Addr → List (Str × Addr) → List Addr → TT} {te : Shared → Hp → Addr → List (Str × Addr) → List Addr → TE} (hc : X.calm = true) (hN : X.N.Nodup) (hi : IJ ci X W tg iter wi fi) (ok : BlkOk X.N X.env.scope scope own) {vs : List Nat} (hv : own.map (·.2) = vs) (hjs : ∀ j ∈ js, j ∈ vs)
    (hg : ∀ (s : Shared) (H : Hp) (C : Addr) (cl : List (Str × Addr)) (fp : List Addr), GJ ci (X.blk s H scope (compEnvC scope cl C X.env) fp) tg (t s H C cl fp) k js) (ht : ∀ (s : Shared) (H : Hp) (C : Addr) (cl : List (Str × Addr)) (fp : List Addr), TsJ ci (X.blk s H scope (compEnvC scope cl C X.env) fp) ifs (tt s H C cl fp) ft)
    (he : ∀ (s : Shared) (H : Hp) (C : Addr) (cl : List (Str × Addr)) (fp : List Addr), EJ ci (X.blk s H scope (compEnvC scope cl C X.env) fp) W0 elt (te s H C cl fp) fe) (hs : ∀ x, foldedSetIterable iter X.env x = pure x := by intro _; rfl) :
    ZJ ci X W (.SetComp elt [⟨tg, iter, ifs, 0⟩] scope pos) (tSi X.w wi (allG t) (allT tt) (allE te) vs) (eCompZ fi k ft fe vs) :=
  zj_si hc hN hi ok hv hjs (famG hg) (famT ht) (famE he) hs
end
end Ev
set_option Elab.async false
set_option linter.all false
set_option maxRecDepth 100000
set_option maxHeartbeats 4000000
/-! a dict of three entries whose keys are tuples -/
namespace Ev
open PySem PySem.Spec PyProof.Rows L2
section
variable {ci : Nat → String × List String} {X : Cx} {W : WX} {pos : Pos} {k1 v1 k2 v2 k3 v3 : Expr} {t1 u1 t2 u2 t3 u3 : TE} {f1 g1 f2 g2 f3 g3 : En → Hs → R D}
abbrev threeE (k1 k2 k3 : NK) (b1 b2 b3 : Addr) (z1 z2 z3 : V) : List Ent := storedE (storedE (storedE [] k1 b1 z1) k2 b2 z2) k3 b3 z3
def tNThree (K : PySem.W.Frag) (t1 u1 t2 u2 t3 u3 : TE) : TE := fun σ H Q => ∀ p, H p = none → t1 σ (upd H p (dnH p [])) fun y1 H1 => u1 σ H1 fun z1 H2 => t2 σ H2 fun y2 H3 => u2 σ H3 fun z2 H4 => t3 σ H4 fun y3 H5 => u3 σ H5 fun z3 H6 =>
  ∃ k1 b1 k2 b2 k3 b3, H6 p = some (dnH p []) ∧ (y1 = .ref b1 ∧ NKey K H6 y1 k1) ∧ (y2 = .ref b2 ∧ NKey K H6 y2 k2) ∧ (y3 = .ref b3 ∧ NKey K H6 y3 k3) ∧ Q (.ref p) (upd H6 p (dnH p (threeE k1 k2 k3 b1 b2 b3 z1 z2 z3)))
def put3 (y1 z1 y2 z2 y3 z3 : D) (k1 k2 k3 : NK) : List D × List D :=
  let a := putND [] [] y1 k1 z1
  let b := putND a.1 a.2 y2 k2 z2
  putND b.1 b.2 y3 k3 z3
def three (n : Nat) (y1 z1 y2 z2 y3 z3 : D) (h : Hs) : R D := match h[n]? with
  | some (.dn [] []) => match keyT y1, keyT y2, keyT y3 with
    | some k1, some k2, some k3 => .ok (.ref n) (h.set n (.dn (put3 y1 z1 y2 z2 y3 z3 k1 k2 k3).1 (put3 y1 z1 y2 z2 y3 z3 k1 k2 k3).2))
    | _, _, _ => .bad
  | _ => .bad
def eNThree (f1 g1 f2 g2 f3 g3 : En → Hs → R D) : En → Hs → R D := fun env h => (f1 env (h ++ [.dn [] []])).bind fun y1 h1 => (g1 env h1).bind fun z1 h2 => (f2 env h2).bind fun y2 h3 => (g2 env h3).bind fun z2 h4 => (f3 env h4).bind fun y3 h5 => (g3 env h5).bind fun z3 h6 => three h.length y1 z1 y2 z2 y3 z3 h6
@[simp] theorem eNThree_ap {env : En} {h : Hs} : eNThree f1 g1 f2 g2 f3 g3 env h = (f1 env (h ++ [.dn [] []])).bind fun y1 h1 => (g1 env h1).bind fun z1 h2 => (f2 env h2).bind fun y2 h3 => (g2 env h3).bind fun z2 h4 => (f3 env h4).bind fun y3 h5 => (g3 env h5).bind fun z3 h6 => three h.length y1 z1 y2 z2 y3 z3 h6 := rfl
theorem nkey_tf {K : PySem.W.Frag} {H : Hp} {y : V} {k : NK} (n : NKey K H y k) : tfree k = true ∧ k.depth ≤ 8 := by obtain ⟨_, _, _, z1, z2⟩ := n; exact ⟨z1, z2⟩
theorem pe_none3 (hu : X.A.units + 200 < cLine) (hk1 : PE X k1 t1) (hv1 : PE X v1 u1) (hk2 : PE X k2 t2) (hv2 : PE X v2 u2) (hk3 : PE X k3 t3) (hv3 : PE X v3 u3) : PE X (.Dict [some k1, some k2, some k3] [v1, v2, v3] pos) (tNThree X.K t1 u1 t2 u2 t3 u3) := by
  refine ⟨fun pins s σ H Q I q => ?_⟩
  have hn := I.hok.fresh (Nat.le_refl s.heap.objs.size)
  have I1 := I.laid (a := s.heap.objs.size) (o := dnH s.heap.objs.size []) (h' := s.heap.push { cls := .type "dict", data := .dict #[] }) (t' := s.toks) (fun _ _ q => Heap.get?_push_of_some _ q) (Nat.le_refl _) (dn_empty s.heap I.big)
  have hs := zip_pairTrees [some k1, some k2, some k3] [v1, v2, v3] X.env pos rfl rfl
  have hn2 := pairTrees_length [some k1, some k2, some k3] [v1, v2, v3] X.env pos rfl rfl
  rw [arm_eval_Dict, hs, dictDisplay_pairs (pairTrees [some k1, some k2, some k3] [v1, v2, v3] X.env pos) (by intro e; rw [e] at hn2; cases hn2) (by rw [hn2]; show 3 < 17; decide)]
  refine wpAny_bind (wpAny_standAt (wpAny_bind (wpAny_subDictH (knd := nestedKind X.prog X.w) (show X.A.units + 8 < cLine by omega) (by rw [hn2]; show 3 ≤ 15; decide) ?_)))
  refine pairTrees_cons_walk (thn (hk1.run pins _ σ _ _ I1 (q _ hn)) fun x1 s1 ⟨y1, H1, J1, ry1, q1⟩ => thn (hv1.run pins s1 σ H1 _ J1 q1) fun w1 s2 ⟨z1, H2, J2, rz1, q2⟩ => ?_)
  refine pairTrees_cons_walk (thn (hk2.run pins _ σ _ _ J2 q2) fun x2 s3 ⟨y2, H3, J3, ry2, q3⟩ => thn (hv2.run pins s3 σ H3 _ J3 q3) fun w2 s4 ⟨z2, H4, J4, rz2, q4⟩ => ?_)
  refine pairTrees_cons_walk (thn (hk3.run pins _ σ _ _ J4 q4) fun x3 s5 ⟨y3, H5, J5, ry3, q5⟩ => thn (hv3.run pins s5 σ H5 _ J5 q5) fun w3 s6 ⟨z3, H6, J6, rz3, c1, b1, c2, b2, c3, b3, ep, ⟨e1, n1⟩, ⟨e2, n2⟩, ⟨e3, n3⟩, qq⟩ => pairTrees_nil_walk ?_)
  subst e1 e2 e3
  obtain ⟨_, rfl, m1⟩ := nkey_is J6 n1 ry1
  obtain ⟨_, rfl, m2⟩ := nkey_is J6 n2 ry2
  obtain ⟨_, rfl, m3⟩ := nkey_is J6 n3 ry3
  cases (show Value.ref _ = Value.ref b1 from ry1)
  cases (show Value.ref _ = Value.ref b2 from ry2)
  cases (show Value.ref _ = Value.ref b3 from ry3)
  obtain ⟨xs, dd, pr, l, sm, tf⟩ := dn_heap J6 ⟨.inl ep, fun e he => nomatch he⟩
  cases pr
  refine ⟨[(c1, b1, w1), (c2, b2, w2), (c3, b3, w3)], ⟨rfl, rfl, m1, rfl, rfl, m2, rfl, rfl, m3, trivial⟩, dd, fun h' tk' dd' hs' => wpAny_pure ⟨.ref s.heap.objs.size, _, ?_, rfl, qq⟩⟩
  have e1 : Paired EntR (threeE c1 c2 c3 b1 b2 b3 z1 z2 z3) (storedAllH [] [(c1, b1, w1), (c2, b2, w2), (c3, b3, w3)]) := entR_stored (entR_stored (entR_stored .nil rz1) rz2) rz3
  have l1 := storedE_length (es := []) (k := c1) (b := b1) (v := z1)
  have l2 := storedE_length (es := storedE [] c1 b1 z1) (k := c2) (b := b2) (v := z2)
  have l3 := storedE_length (es := storedE (storedE [] c1 b1 z1) c2 b2 z2) (k := c3) (b := b3) (v := z3)
  have l4 : (threeE c1 c2 c3 b1 b2 b3 z1 z2 z3).length ≤ sizeLine := by
    rw [sizeLine_eq]
    have l5 : ([] : List Ent).length = 0 := rfl
    rw [l5] at l1
    show (storedE (storedE (storedE [] c1 b1 z1) c2 b2 z2) c3 b3 z3).length ≤ _
    omega
  have da := dn_at dd' e1 l4 sm (storedE_tf (storedE_tf (storedE_tf tf (nkey_tf n1).1 (nkey_tf n1).2) (nkey_tf n2).1 (nkey_tf n2).2) (nkey_tf n3).1 (nkey_tf n3).2)
  have he : ∃ q, h'.get? s.heap.objs.size = some q := let ⟨q, _, _, hq, _⟩ := dd'; ⟨q, hq⟩
  exact d_write J6 (by rw [ep]; exact True.intro) hs' he (dn_ok da)
theorem ej_none3 (hu : X.A.units + 200 < cLine) (hk1 : EJ ci X W k1 t1 f1) (hv1 : EJ ci X W v1 u1 g1) (hk2 : EJ ci X W k2 t2 f2) (hv2 : EJ ci X W v2 u2 g2) (hk3 : EJ ci X W k3 t3 f3) (hv3 : EJ ci X W v3 u3 g3) : EJ ci X W (.Dict [some k1, some k2, some k3] [v1, v2, v3] pos) (tNThree X.K t1 u1 t2 u2 t3 u3) (eNThree f1 g1 f2 g2 f3 g3) :=
  ⟨pe_none3 hu hk1.pe hv1.pe hk2.pe hv2.pe hk3.pe hv3.pe, fun σ H env h bs Q er hr q => fun p hp => by
    have hr0 := hr.newM (ho := dnH p []) (o := .dn [] []) hp repO_empty
    have e0 := ext_cell (bs := bs) (ho := dnH p []) hp
    have hb0 : (bs ++ [p])[h.length]? = some p := by rw [← hr.len]; simp
    have q0 : Post (relV (X.g ci)) (X.g ci) (fun C d H' => W C d σ H') (bs ++ [p]) (upd H p (dnH p [])) (eNThree f1 g1 f2 g2 f3 g3 env h) Q := Post.mono e0 q
    exact hk1.sim.step (er.mono e0) hr0 q0 fun y1 vy1 bs1 H1 h1 x1 hr1 er1 ry1 p1 => hv1.sim.step er1 hr1 p1 fun z1 vz1 bs2 H2 h2 x2 hr2 er2 rz1 p2 =>
      hk2.sim.step er2 hr2 p2 fun y2 vy2 bs3 H3 h3 x3 hr3 er3 ry2 p3 => hv2.sim.step er3 hr3 p3 fun z2 vz2 bs4 H4 h4 x4 hr4 er4 rz2 p4 =>
      hk3.sim.step er4 hr4 p4 fun y3 vy3 bs5 H5 h5 x5 hr5 er5 ry3 p5 => hv3.sim.step er5 hr5 p5 fun z3 vz3 bs6 H6 h6 x6 hr6 er6 rz3 p6 => by
      unfold three at p6
      split at p6
      · rename_i hx
        split at p6
        · rename_i c1 c2 c3 hc1 hc2 hc3
          obtain ⟨a', g1, es, g2, g3, g4, g5⟩ := hr6.at_ _ _ hx
          have hb6 := x6.get (x5.get (x4.get (x3.get (x2.get (x1.get hb0)))))
          rw [hb6] at g1
          cases g1
          have r1 := ry1.mono ((((x2.trans x3).trans x4).trans x5).trans x6)
          have r2 := ry2.mono ((x4.trans x5).trans x6)
          have r3 := ry3.mono x6
          have s1 := rz1.mono (((x3.trans x4).trans x5).trans x6)
          have s2 := rz2.mono (x5.trans x6)
          cases es with
          | cons e es => rw [List.map_cons] at g3; cases g3
          | nil =>
            obtain ⟨⟨b1, eb1, n1⟩, k1⟩ := keyT_ok r1 hc1
            obtain ⟨⟨b2, eb2, n2⟩, k2⟩ := keyT_ok r2 hc2
            obtain ⟨⟨b3, eb3, n3⟩, k3⟩ := keyT_ok r3 hc3
            subst eb1 eb2 eb3
            refine ⟨c1, b1, c2, b2, c3, b3, g2, ⟨rfl, ⟨b1, rfl, n1⟩⟩, ⟨rfl, ⟨b2, rfl, n2⟩⟩, ⟨rfl, ⟨b3, rfl, n3⟩⟩, ?_⟩
            have c2' : Ext bs6 H6 bs6 (upd H6 p (dnH p (threeE c1 c2 c3 b1 b2 b3 vz1 vz2 vz3))) := .cell hr6 hb6
            obtain ⟨a1, a2, a3⟩ := putND_ok (g := X.g ci) (bs := bs6) (H := H6) (ks := []) (ds := []) (es := []) (k := c1) rfl .nil .nil r1 k1 s1
            obtain ⟨a1, a2, a3⟩ := putND_ok a1 a2 a3 r2 k2 s2
            obtain ⟨a1, a2, a3⟩ := putND_ok a1 a2 a3 r3 k3 rz3
            exact p6 bs6 _ _ c2' (hr6.cell hb6 ⟨_, upd_same, a1, a2.mono c2', a3.mono c2'⟩) (.ref hb6)
        · exact p6.elim
      · exact p6.elim⟩
/-- what a call gives, frozen; all new cells dropped -/
noncomputable def eFree (f : En → Hs → R D) : En → Hs → R D := fun env h => freeR h (f env h)
@[simp] theorem eFree_ap {f : En → Hs → R D} {env : En} {h : Hs} : eFree f env h = freeR h (f env h) := rfl
theorem ej_free {e : Expr} {t : TE} {f : En → Hs → R D} (a : EJ ci X W e t f) : EJ ci X W e t (eFree f) :=
  ⟨a.pe, fun σ H env h bs Q er hr p => a.sim σ H env h bs Q er hr (post_free hr p)⟩
end
theorem Room.u64 {k : Nat} {A : Around} (h : Room k A) : A.units + 64 < cLine := by
  have := h.un
  omega
end Ev
set_option Elab.async false
set_option linter.all false
set_option maxRecDepth 100000
set_option maxHeartbeats 4000000
/-! sorted(set(list of pairs)) with great numbers -/
namespace Ev
open PySem PySem.Spec PyProof.Rows L2
def codePQ (p : Int × Int) : Int := p.1 * 147573952589676412928 + p.2
def sortPQ (ps : List (Int × Int)) : List (Int × Int) := (sortI (ps.map codePQ)).map fun k => (k / 147573952589676412928, k % 147573952589676412928)
def inPQ (p : Int × Int) : Bool := decide (0 ≤ p.1) && decide (p.1 < 147573952589676412928) && decide (0 ≤ p.2) && decide (p.2 < 147573952589676412928)
def sortSPQ (xs : List D) (h : Hs) : R D := match xs with
  | [x] => match rdL h x with
    | some ys => match pairsOf ys with
      | some ps => if ps.length < 64 ∧ ps.all inPQ = true then .ok (.lst ((sortPQ ps).map pairD)) h else .bad
      | none => .bad
    | none => .bad
  | _ => .bad

theorem code_pairQ {i j : Int} : TS.code 147573952589676412928 [i, j] = codePQ (i, j) := by
  unfold codePQ
  simp [TS.code]
theorem code_decQ {p : Int × Int} (h : inPQ p = true) : (codePQ p / 147573952589676412928, codePQ p % 147573952589676412928) = p := by
  unfold inPQ at h
  simp at h
  obtain ⟨i, j⟩ := p
  simp only [codePQ, Prod.mk.injEq]
  constructor <;> omega
theorem perm_codesQ {ps qs : List (Int × Int)} (hp : ps.all inPQ = true) (hq : ∀ q ∈ qs, q ∈ ps) (hq2 : ∀ p ∈ ps, p ∈ qs) (nd : qs.Nodup) (up : qs.Pairwise fun a b => codePQ a ≤ codePQ b) : qs = sortPQ ps := by
  have inq : ∀ q ∈ qs, inPQ q = true := fun q h => List.all_eq_true.mp hp q (hq q h)
  have e1 : qs.map codePQ = sortI (ps.map codePQ) := by
    refine up_one ?_ (sort_up _) fun k => ?_
    · rw [List.pairwise_map]
      have both := up.and nd
      have mem : qs.Pairwise fun a b => a ∈ qs ∧ b ∈ qs := by
        have : ∀ l : List (Int × Int), (∀ x ∈ l, x ∈ qs) → l.Pairwise fun a b => a ∈ qs ∧ b ∈ qs := by
          intro l
          induction l with
          | nil => intro _; exact List.Pairwise.nil
          | cons a l ih => intro h; exact List.pairwise_cons.mpr ⟨fun b hb => ⟨h a List.mem_cons_self, h b (List.mem_cons_of_mem _ hb)⟩, ih fun x hx => h x (List.mem_cons_of_mem _ hx)⟩
        exact this qs fun x hx => hx
      refine (both.and mem).imp fun {a b} z => ?_
      obtain ⟨⟨z1, z2⟩, z3, z4⟩ := z
      have n : codePQ a ≠ codePQ b := fun c => z2 (by rw [← code_decQ (inq a z3), ← code_decQ (inq b z4), c])
      omega
    · rw [sort_mem, List.mem_map, List.mem_map]
      exact ⟨fun ⟨a, h1, h2⟩ => ⟨a, hq a h1, h2⟩, fun ⟨a, h1, h2⟩ => ⟨a, hq2 a h1, h2⟩⟩
  unfold sortPQ
  rw [← e1, List.map_map]
  have : ∀ l : List (Int × Int), (∀ x ∈ l, inPQ x = true) → l = l.map ((fun k => (k / 147573952589676412928, k % 147573952589676412928)) ∘ codePQ) := by
    intro l
    induction l with
    | nil => intro _; rfl
    | cons a l ih =>
      intro h
      rw [List.map_cons, ← ih fun x hx => h x (List.mem_cons_of_mem _ hx)]
      show a :: l = (codePQ a / 147573952589676412928, codePQ a % 147573952589676412928) :: l
      rw [code_decQ (h a List.mem_cons_self)]
  exact this qs inq
section
variable {ci : Nat → String × List String} {X : Cx} {W : WX} {p p2 pos pos2 : Pos} {e : Expr} {t : TA} {fa : En → Hs → R (List D)}
theorem ej_sortSPQ (calm : X.calm = true) (hu : X.A.units + 64 < cLine) (hg : Gl X "sorted") (hm : X.mg "sorted" = none) (hg2 : Gl X "set") (hm2 : X.mg "set" = none) (ha : AJ ci X W [e] t fa)
    (he : starEach [e] X.env = (false, eval e X.env) :: starEach [] X.env := by rfl) (hpl : (backTo pos2 (starEach [] X.env)).any (·.1) = false := by rfl)
    (he2 : starEach [(.Call (.Name "set" p2) [e] [] pos2)] X.env = (false, eval (.Call (.Name "set" p2) [e] [] pos2) X.env) :: starEach [] X.env := by rfl) (hpl2 : (backTo pos (starEach [] X.env)).any (·.1) = false := by rfl) :
    EJ ci X W (.Call (.Name "sorted" p) [.Call (.Name "set" p2) [e] [] pos2] [] pos) (tCB (rSortedT X.K X.prog X.w) (tCons (tCB (rSetOfT X.K X.prog X.w) t) tNil)) (eCall sortSPQ fa) :=
  ⟨pe_callB (cr_sortedT calm) hg hm (by decide +kernel) (pa_cons (pe_callTy (cr_setOfT calm hu) hg2 hm2 (by decide +kernel) ha.pa (by decide) (by decide) he hpl) pa_nil he2) (by decide) (by decide) he2 hpl2, fun ρ G0 env h bs Q er hr q => ha.sim.step er hr q fun xs vs b1 G1 h1 e1 hr1 er1 rs q1 => by
    unfold sortSPQ at q1
    split at q1
    · split at q1
      · rename_i ys hy
        split at q1
        · rename_i ps hn
          split at q1
          · rename_i few
            obtain ⟨few, all⟩ := few
            cases rs with
            | cons r r2 =>
              cases r2
              obtain ⟨l, us, rfl, hl, ru⟩ := rdL_ok hr1 r hy
              obtain ⟨ks, k1, k2, k3⟩ := pairs_at ru hn
              rw [k1] at hl
              have kl : ks.length = ps.length := by have := congrArg List.length k2; simpa using this
              refine ⟨l, ks, rfl, hl, fun k hk => (k3 k hk).at_.sq, by omega, fun d L hd hL hL2 => ?_⟩
              have inL : ∀ k ∈ ks, ∃ p ∈ ps, k.2 = [p.1, p.2] := fun k hk => by
                have : k.2 ∈ ps.map fun p => [p.1, p.2] := by rw [← k2]; exact List.mem_map.mpr ⟨k, hk, rfl⟩
                obtain ⟨p, hp, e⟩ := List.mem_map.mp this
                exact ⟨p, hp, e.symm⟩
              have bd : ∀ p ∈ ps, 0 ≤ p.1 ∧ p.1 < 147573952589676412928 ∧ 0 ≤ p.2 ∧ p.2 < 147573952589676412928 := fun p hp => by
                have := List.all_eq_true.mp all p hp
                unfold inPQ at this
                simp at this
                omega
              have k4 : ∀ k ∈ ks, PrAt (X.g ci) b1 (upd G1 d (SetTO X.prog X.w d L)) k := fun k hk => (k3 k hk).mono (.new hd)
              refine ⟨d, L, 2, 147573952589676412928, rfl, upd_same, fun k hk => (k4 k (hL k hk)).at_.sq, by decide, fun k hk => ?_, fun L' a pm nd fw up ha => ?_⟩
              · obtain ⟨p, hp, e⟩ := inL k (hL k hk)
                have := bd p hp
                rw [e]
                refine ⟨rfl, fun m hm => ?_⟩
                simp at hm
                rcases hm with rfl | rfl <;> omega
              · have hL3 : ∀ k ∈ L', k ∈ ks := fun k hk => hL k (pm.mem_iff.mp hk)
                -- the pairs that stand there
                obtain ⟨qs, q2⟩ : ∃ qs : List (Int × Int), L'.map (·.2) = qs.map fun p => [p.1, p.2] := by
                  have : ∀ M : List (Addr × List Int), (∀ k ∈ M, k ∈ ks) → ∃ qs : List (Int × Int), M.map (·.2) = qs.map fun p => [p.1, p.2] := by
                    intro M
                    induction M with
                    | nil => intro _; exact ⟨[], rfl⟩
                    | cons k M ih =>
                      intro hM
                      obtain ⟨p, _, e⟩ := inL k (hM k List.mem_cons_self)
                      obtain ⟨qs, e2⟩ := ih fun x hx => hM x (List.mem_cons_of_mem _ hx)
                      exact ⟨p :: qs, by rw [List.map_cons, List.map_cons, e, e2]⟩
                  exact this L' hL3
                have mem1 : ∀ q ∈ qs, q ∈ ps := fun q hq => by
                  have : [q.1, q.2] ∈ L'.map (·.2) := by rw [q2]; exact List.mem_map.mpr ⟨q, hq, rfl⟩
                  obtain ⟨k, hk, e⟩ := List.mem_map.mp this
                  obtain ⟨p, hp, e2⟩ := inL k (hL3 k hk)
                  rw [e2] at e
                  simp at e
                  have : p = q := Prod.ext e.1 e.2
                  rw [← this]; exact hp
                have mem2 : ∀ p ∈ ps, p ∈ qs := fun p hp => by
                  have h0 : [p.1, p.2] ∈ ks.map (·.2) := by rw [k2]; exact List.mem_map.mpr ⟨p, hp, rfl⟩
                  obtain ⟨k, hk, e⟩ := List.mem_map.mp h0
                  have h1 := hL2 k hk
                  obtain ⟨m, hm, em⟩ := List.mem_map.mp h1
                  have h2 : [p.1, p.2] ∈ L'.map (·.2) := List.mem_map.mpr ⟨m, pm.mem_iff.mpr hm, by rw [em, e]⟩
                  rw [q2] at h2
                  obtain ⟨q, hq, eq⟩ := List.mem_map.mp h2
                  simp at eq
                  have : q = p := Prod.ext eq.1 eq.2
                  rw [← this]; exact hq
                have ndq : qs.Nodup := by
                  rw [q2] at nd
                  exact List.Pairwise.of_map _ (fun a b hab z => hab (by rw [z])) nd
                have upq : qs.Pairwise fun a b => codePQ a ≤ codePQ b := by
                  have z : (L'.map (·.2)).Pairwise fun a b => TS.code 147573952589676412928 a ≤ TS.code 147573952589676412928 b := List.pairwise_map.mpr up
                  rw [q2, List.pairwise_map] at z
                  refine z.imp fun {a b} y => ?_
                  rw [code_pairQ, code_pairQ] at y
                  exact y
                have eq := perm_codesQ all mem1 mem2 ndq upq
                rw [eq] at q2
                have hr2 := hr1.new (o := SetTO X.prog X.w d L) hd
                refine q1 b1 _ _ (Ext.trans (.new hd) (.new ha)) (hr2.new ha) (.lst (hr2.out ha) upd_same ?_)
                exact (reps_prs q2 fun k hk => k4 k (hL3 k hk)).mono (.new ha)
          · exact q1.elim
        · exact q1.elim
      · exact q1.elim
    · exact q1.elim⟩
end
end Ev
set_option Elab.async false
set_option linter.all false
set_option maxRecDepth 100000
set_option maxHeartbeats 4000000
/-! first, *others = a list -/
namespace StarT
open PySem PySem.Spec PyProof.Rows PySem.W
section
variable {prog : Program} {w : World} {A : Around} {E : Value → Shared → Prop} {s : Shared}
/-- the rest of a list's iterator, one item taken -/
theorem walks_rest {it l : Addr} {items : Array Value} {n : Nat} (hh : A.handled = none) (hne : l ≠ it) (hn : items.size = n + 1) :
    WalksS prog w A it [it, l] [it] (fun a b => a = b) n (fun i v => items[i + 1]? = some v) (fun i s => s.heap.IsListIter it l (i + 1) ∧ s.heap.IsList l items) where
  sub := fun b hb => by simp at hb; simp [hb]
  grefl := fun _ => rfl
  gtrans := fun _ _ _ h1 h2 => h1.trans h2
  frame := fun _ _ _ _ st _ hk => ⟨st.1.at fun o e => hk it (by simp) o e, st.2.at fun o e => hk l (by simp) o e⟩
  item := fun i s Q E hi st hQ => by
    refine wpAny_pyNext_list_item st.1 st.2 (x := items[i + 1]) (by rw [Array.getElem?_eq_getElem]) fun h' hit' hs' => ?_
    exact hQ _ _ (by rw [Array.getElem?_eq_getElem]) ⟨hit', st.2.extBut hs'.extBut hne⟩ ⟨fun b o hb e => hs'.extBut b o (fun h => hb (by simp [h])) e, rfl, rfl, rfl, Nat.le_refl _⟩
  done := fun s Q E st hQ => wpAny_pyNext_list_end hh st.1 st.2 (Array.getElem?_eq_none (by omega)) fun h' he' => hQ _ ⟨fun b o hb e => he' b o (fun h => hb (by simp [h])) e, rfl, rfl, rfl, Nat.le_refl _⟩
  self := fun _ _ _ _ st hQ => wpAny_pyIter_listiter st.1 hQ
theorem un_star {l : Addr} {x : Value} {xs : List Value} {Q : List Value → Shared → Prop} (hh : A.handled = none) (hh2 : A.in1.handled = none) (hl : s.heap.IsList l (x :: xs).toArray) (hz : xs.length ≤ sizeLine)
    (hQ : ∀ (h' : Heap) (tk : Nat), (∀ b o, s.heap.get? b = some o → h'.get? b = some o) → Q [x, .ref h'.objs.size] { s with heap := h'.push { cls := .type "list", data := .seq xs.toArray }, toks := tk }) : wpAny (model prog w) A (unpackItems (.ref l) 2 (some 1)) Q E s := by
  have hlt : l ≠ s.heap.objs.size := by obtain ⟨o, ho, _⟩ := hl; exact Nat.ne_of_lt (Heap.lt_size ho)
  unfold unpackItems
  refine wpAny_bind ?_
  unfold notIterableAtAll
  refine wpAny_bind (wpAny_specialOf hl.typeIs slot_list_iter.lookup ?_)
  refine wpAny_pure ?_
  simp only [Bool.false_eq_true, if_false]
  refine wpAny_bind (wpAny_holding (wpAny_pyIter_list hl ?_))
  refine wpAny_bind (wpAny_holding (kun_draw hlt 1 0 _ _ ⟨_, Heap.get?_push_size _ rfl, rfl, rfl⟩ (hl.push _) (by simp) fun h₁ hit₁ hs₁ => ?_))
  have h1 : List.take 1 (List.drop 0 (x :: xs).toArray.toList) = [x] := rfl
  rw [h1, if_neg (by simp)]
  have hl₁ : h₁.IsList l (x :: xs).toArray := (hl.push _).extBut hs₁.extBut hlt
  have ex₁ : ∀ b o, s.heap.get? b = some o → h₁.get? b = some o := fun b o e => hs₁.extBut b o (Nat.ne_of_lt (Heap.lt_size e)) (Heap.get?_push_of_some _ e)
  have W := walks_rest (prog := prog) (w := w) (A := A.in1) (items := (x :: xs).toArray) (n := xs.length) hh2 hlt (by simp)
  have isz : s.heap.objs.size < h₁.objs.size := by obtain ⟨o, ho, _⟩ := hit₁; exact Heap.lt_size ho
  refine wpAny_bind (wpAny_holding (wpAny_collect_iter (T := "list_iterator") (.inr (.inr (.inl rfl))) W (fun i s st => st.1.typeIs) ⟨hit₁, hl₁⟩ (fun b hb => ?_) (by simp) (fun s' acc mv it => ?_) hz))
  · simp at hb
    rcases hb with rfl | rfl
    · exact isz
    · obtain ⟨o, ho, _⟩ := hl₁; exact Heap.lt_size ho
  · have e : acc.toList = xs := by
      obtain ⟨e1, e2⟩ := it
      refine List.ext_getElem? fun j => ?_
      by_cases hj : j < xs.length
      · have g : acc[j]? = some acc[j] := Array.getElem?_eq_getElem (by omega)
        have := e2 j _ g
        rw [Array.getElem?_toList, g]
        simpa using this.symm
      · rw [List.getElem?_eq_none (by simp; omega), List.getElem?_eq_none (by omega)]
    obtain ⟨mh, mg, md, mo, mt⟩ := mv
    obtain ⟨h2, g2, d2, t2, o2⟩ := s'
    dsimp only at mh mg md mo mt
    subst mg md mo
    rw [e]
    simp only [Nat.sub_self, Nat.reduceSub, Nat.not_lt_zero, if_false, Nat.sub_zero, List.take_length, List.drop_length]
    refine wpAny_bind (wpAny_newList ?_ hz)
    refine wpAny_pure ?_
    exact hQ h2 t2 fun b o e => mh b o (by
      intro z
      simp at z
      subst z
      exact absurd (Heap.lt_size e) (Nat.lt_irrefl _)) (ex₁ b o e)
end
end StarT
namespace L2
open PySem PySem.Spec PyProof.Rows
/-- a, *b = a list -/
def gStar (K : PySem.W.Frag) (i j : Nat) : TG := fun v σ H Q => ∃ a x xs, v = .ref a ∧ SqL K H a (x :: xs) ∧ ∀ p, H p = none → Q ((σ.set i (some x)).set j (some (.ref p))) (upd H p (.lst xs))
section
variable {X : Cx} {pos : Pos}
theorem pg_star {es : List Expr} {k i j : Nat} {x y : Str} {p1 p2 p3 : Pos} (hc : X.calm = true) (hN : X.N.Nodup) (hi : X.N[i]? = some x) (hj : X.N[j]? = some y) (hx : Loc X.env.scope x) (hy : Loc X.env.scope y)
    (hf : X.fn x = true ∨ X.env.scope.names.lookup x = some .local) (hf2 : X.fn y = true ∨ X.env.scope.names.lookup y = some .local) : PG X (.Tuple [.Name x p1, .Starred (.Name y p2) p3] k pos) (gStar X.K i j) := by
  refine ⟨fun pins s σ H v u Q I r hw => ?_⟩
  obtain ⟨a, z, zs, e1, hq, hw⟩ := hw
  subst e1
  cases r
  obtain ⟨its, rv, pl, hz⟩ := I.list hq
  cases rv with
  | cons r1 rs =>
    rename_i u1 us
    rw [PyProof.Rows.assign_Tuple]
    refine wpAny_bind (wpAny_standAt ?_)
    unfold unpack
    have hs1 : (assignEach [.Name x p1, .Starred (.Name y p2) p3] X.env).length = 2 := rfl
    have hs2 : (assignEach [.Name x p1, .Starred (.Name y p2) p3] X.env).findIdx? (·.1) = some 1 := rfl
    rw [hs1, hs2]
    have hl : us.length ≤ sizeLine := by
      have := hz
      simp at this
      have e2 := rs.length
      omega
    refine wpAny_bind (wpAny_holding (StarT.un_star (I.ok.hd hc) (I.ok.hd hc) pl.isList hl fun h' tk hx' => ?_))
    have I1 : Inv X pins σ H { s with heap := h', toks := tk } := I.kept (t' := tk) hx'
    have hn : H h'.objs.size = none := I1.hok.fresh (Nat.le_refl _)
    have I2 : Inv X pins σ (upd H h'.objs.size (.lst zs)) { s with heap := h'.push { cls := .type "list", data := .seq us.toArray }, toks := tk } :=
      I1.laid (t' := tk) (fun b u q => Heap.get?_push_of_some _ q) (Nat.le_refl _) ⟨by have := rs.length; omega, us, _, rs, Heap.get?_push_size _ rfl⟩
    have h1 := pg_name (X := X) (pos := p1) hN hi hx hf
    have h2 := pg_name (X := X) (pos := p2) hN hj hy hf2
    have hs : (assignEach [.Name x p1, .Starred (.Name y p2) p3] X.env).map (·.2) = [assign (.Name x p1) X.env, assign (.Name y p2) X.env] := rfl
    rw [hs]
    refine assignInOrder_cons (thn (h1.run pins _ σ _ z u1 (fun σ' H' => σ' = σ.set i (some z) ∧ H' = upd H h'.objs.size (.lst zs)) I2 r1 ⟨rfl, rfl⟩) fun _ s1 ⟨σ1, H1, I3, q1⟩ => ?_)
    obtain ⟨rfl, rfl⟩ := q1
    refine assignInOrder_cons (thn (h2.run pins s1 _ _ (.ref h'.objs.size) (.ref h'.objs.size) Q I3 rfl (hw _ hn)) fun _ s2 q2 => ?_)
    exact wpAny_pure q2
end
end L2
set_option Elab.async false
set_option linter.all false
set_option maxRecDepth 100000
set_option maxHeartbeats 4000000
/-! texts: split, strip, int; first, *others = a list -/
namespace Ev
open PySem PySem.Spec PyProof.Rows L2
def sStar (i j : Nat) (fe : En → Hs → R D) : En → Hs → S := fun env h => (fe env h).toS env fun d h1 => match d with
  | .lst (x :: xs) => .nx ((env.set i (some x)).set j (some (.lst xs))) h1
  | _ => .bad
@[simp] theorem sStar_ap {i j : Nat} {fe : En → Hs → R D} {env : En} {h : Hs} : sStar i j fe env h = (fe env h).toS env fun d h1 => match d with
  | .lst (x :: xs) => .nx ((env.set i (some x)).set j (some (.lst xs))) h1
  | _ => .bad := rfl
section
variable {ci : Nat → String × List String} {X : Cx} {W : WX} {e : Expr} {te : TE} {fe : En → Hs → R D}
theorem sim_star {g : G} {i j : Nat} (he : Sim (relV g) g W te fe) : SimS g W (tAsg te (gStar g.K i j)) (sStar i j fe) :=
  fun σ H env h bs E er hr p => he.stepS er hr p fun a b bs1 H1 h1 e1 hr1 er1 ra p1 => by
    split at p1
    · rename_i d ds
      cases ra with
      | @lst ad vs _ n0 h0 rs =>
        cases rs with
        | cons r1 rs =>
          rename_i v vs
          refine ⟨ad, v, vs, rfl, .of h0, fun q hq => ?_⟩
          refine p1 bs1 _ _ (.new hq) (hr1.new hq) ?_
          have er2 := ERel.mono (.new hq (o := .lst vs)) er1
          exact (er2.set (r1.mono (.new hq)) i).set (.lst (hr1.out hq) upd_same (rs.mono (.new hq))) j
    · exact p1.elim
theorem sj_star {i j k : Nat} {x y : Str} {p1 p2 p3 pos pt : Pos} (hc : X.calm = true) (hN : X.N.Nodup) (he : EJ ci X W e te fe) (hi : X.N[i]? = some x := by rfl) (hj : X.N[j]? = some y := by rfl) (hx : Loc X.env.scope x := by first | exact Or.inl rfl | exact Or.inr rfl) (hy : Loc X.env.scope y := by first | exact Or.inl rfl | exact Or.inr rfl)
    (hf : X.fn x = true ∨ X.env.scope.names.lookup x = some .local := by first | exact .inl rfl | exact .inr rfl | assumption) (hf2 : X.fn y = true ∨ X.env.scope.names.lookup y = some .local := by first | exact .inl rfl | exact .inr rfl | assumption)
    (hs : swapsWithSole [.Tuple [.Name x p1, .Starred (.Name y p2) p3] k pt] e pos.line X.env = pure false := by rfl) (hw : swappedStores [.Tuple [.Name x p1, .Starred (.Name y p2) p3] k pt] e X.env = pure none := by rfl)
    (h1 : (assignEach [.Tuple [.Name x p1, .Starred (.Name y p2) p3] k pt] X.env).map (·.2) = [assign (.Tuple [.Name x p1, .Starred (.Name y p2) p3] k pt) X.env] := by rfl) : SJ ci X W (.Assign [.Tuple [.Name x p1, .Starred (.Name y p2) p3] k pt] e pos) (tAsg te (gStar X.K i j)) (sStar i j fe) :=
  ⟨ps_asg he.pe (pg_star (es := []) hc hN hi hj hx hy hf hf2) hs hw h1, sim_star (g := X.g ci) he.sim⟩
end
/-! x.split(sep) -/
def rSpl : V → List V → Hp → VK → Prop := fun x xs H Q => ∃ a b, x = .str a ∧ xs = [.str b] ∧ (b.length == 0) = false ∧ a.length + 2 ≤ sizeLine ∧ rNewStrs (Txt.split a b) H Q
theorem mt_spl {X : Cx} : MtR X "str.split" rSpl := mt_split
def splitD (x : D) (xs : List D) (h : Hs) : R D := match x, xs with
  | .str a, [.str b] => if (!(b.length == 0) && Nat.ble (a.length + 2) 16777216 && (Txt.split a b).all PyData.strOk) = true then .ok (.lst ((Txt.split a b).map D.str)) h else .bad
  | _, _ => .bad
theorem reps_strs {g : G} {bs : List Addr} {H : Hp} : ∀ {ys : List Str}, ys.all PyData.strOk = true → Reps g bs H (ys.map D.str) (ys.map V.str)
  | [], _ => .nil
  | y :: ys, h => by
    rw [List.all_cons, Bool.and_eq_true] at h
    exact .cons (.str h.1) (reps_strs h.2)
theorem mj_split {g : G} : MJ g rSpl splitD := by
  refine ⟨fun W bs h H x vx xs vs Q hr rx rs p => ?_⟩
  unfold splitD at p
  split at p
  · rename_i a b
    split at p
    · rename_i hl
      rw [Bool.and_eq_true, Bool.and_eq_true] at hl
      cases rx with
      | str hs =>
        cases rs with
        | cons r t =>
          cases t
          cases r with
          | str hb =>
            refine ⟨a, b, rfl, rfl, by simpa using hl.1.1, Nat.le_of_ble_eq_true hl.1.2, fun q hq => ?_⟩
            exact p bs _ _ (.new hq) (hr.new hq) (.lst (hr.out hq) upd_same (reps_strs hl.2))
    · exact p.elim
  · exact p.elim
/-! x.strip(signs) -/
def rStp : V → List V → Hp → VK → Prop := fun x xs H Q => ∃ a b, x = .str a ∧ xs = [.str b] ∧ a.length ≤ sizeLine ∧ Q (.str (Txt.stripChars a b)) H
theorem mt_stp {X : Cx} : MtR X "str.strip" rStp := mt_stripChars
def stripD (x : D) (xs : List D) (h : Hs) : R D := match x, xs with
  | .str a, [.str b] => if (Nat.ble a.length 16777216 && PyData.strOk (Txt.stripChars a b)) = true then .ok (.str (Txt.stripChars a b)) h else .bad
  | _, _ => .bad
theorem mj_strip {g : G} : MJ g rStp stripD := by
  refine ⟨fun W bs h H x vx xs vs Q hr rx rs p => ?_⟩
  unfold stripD at p
  split at p
  · rename_i a b
    split at p
    · rename_i hl
      rw [Bool.and_eq_true] at hl
      cases rx with
      | str hs =>
        cases rs with
        | cons r t =>
          cases t
          cases r with
          | str hb => exact ⟨a, b, rfl, rfl, Nat.le_of_ble_eq_true hl.1, Post.ok_ p hr (.str hl.2)⟩
    · exact p.elim
  · exact p.elim
/-! int(text) -/
def intXD (xs : List D) (h : Hs) : R D := match xs with
  | [.str a] => match PySem.intText? a with
    | some n => if Nat.ble a.length 640 = true then .ok (.int n) h else .bad
    | none => .bad
  | xs => intTD xs h
def rIntX : List V → Hp → VK → Prop := fun xs H Q => ((∃ i, xs = [.int i] ∧ Q (.int i) H) ∨ ∃ k, xs = [.bl k] ∧ Q (.int (if k then 1 else 0)) H) ∨ ∃ a n, xs = [.str a] ∧ PySem.intText? a = some n ∧ a.length ≤ 640 ∧ Q (.int n) H
theorem cr_intX {X : Cx} : CallR X (.type "int") rIntX := by
  intro pins s σ H xs us Q I r q
  rcases q with q | q
  · exact call_int1 pins s σ H xs us Q I r q
  · exact call_int_str pins s σ H xs us Q I r q
theorem caj_intX {g : G} : CaJ g rIntX intXD := by
  refine ⟨fun W bs h H xs vs Q hr rs p => ?_⟩
  unfold intXD at p
  split at p
  · rename_i a
    split at p
    · rename_i n hn
      split at p
      · rename_i hl
        cases rs with
        | cons r t =>
          cases t
          cases r with
          | str hs => exact .inr ⟨a, n, rfl, hn, Nat.le_of_ble_eq_true hl, Post.ok_ p hr (.int _)⟩
      · exact p.elim
    · exact p.elim
  · exact .inl (caj_int.run W bs h H _ vs Q hr rs p)
end Ev
set_option Elab.async false
set_option linter.all false
set_option maxRecDepth 100000
set_option maxHeartbeats 4000000
namespace NeX
open PySem PySem.Spec PyProof.Rows PySem.SeqAt
section
variable {M : Model} {prog : Program} {w : World} {A : Around} {E : Value → Shared → Prop} {s : Shared} {K : PySem.W.Frag} {x y C f : Addr} {ox oy : Obj} {od od' : Option Obj}
theorem ifBound_ne {args : List Value} {Q : Option Value → Shared → Prop} (X : K.In s.heap) (I : PySem.W.InstAt s.heap x ox C od) (hs : PySem.W.findIn K (.ref C) "__ne__" = some (some (.builtin "object.__ne__")))
    (h : wpAny M A (call (.builtin "object.__ne__") (.ref x :: args)) (fun v => Q (some v)) E s) : wpAny M A (callSpecialIfBound? (.ref x) "__ne__" args) Q E s := by
  simp only [callSpecialIfBound?, bindSpecialIfBound?]
  refine wpAny_holding (wpAny_bind (wpAny_bind (wpAny_bind (I.type.here ((PySem.W.looks_findIn X hs).here ?_)))))
  refine wpAny_bind (wpAny_askSetting (wpAny_ite ?_))
  have fin : wpAny M A (call (.builtin "object.__ne__") ([.ref x] ++ args) >>= fun v => pure (some v)) Q E s := wpAny_bind (wpAny_mono h (fun v s' h' => wpAny_pure h') fun _ _ h' => h')
  split
  · exact wpAny_bind (wpAny_of_eq (F.cmp_object.ne.bind _) (wpAny_pure (by exact fin)))
  · exact wpAny_tryCatch (wpAny_bind (wpAny_of_eq (F.cmp_object.ne.bind _) (wpAny_pure (by exact fin))))
theorem entry_ne {Q : Fin → Shared → Prop} (hu : A.units < cLine) (X : K.In s.heap) (I : PySem.W.InstAt s.heap x ox C od) (hs : PySem.W.findIn K (.ref C) "__eq__" = some (some (.ref f))) (hf : PySem.W.isFn K (.ref f) = true)
    (h : wpAny (model prog w) A (call (.ref f) [.ref x, .ref y]) (fun v s' => ∃ b, v = .bool b ∧ Q (.done (.ret (.bool (!b)))) s') E s) :
    wpAny (model prog w) A (Builtin.«object.__ne__» ⟨[.ref x, .ref y], []⟩) Q E s := by
  unfold Builtin.«object.__ne__»
  repeat (first
    | with_reducible refine wpAny_cRoomFor hu ?_
    | (refine wpAny_bind (m := callSpecialIfBound? (.ref x) (Str.ofString "__eq__") [.ref y])
        (PySem.W.ifBound_K X I hs hf (wpAny_mono h (fun r s' hr => by
          obtain ⟨b, rfl, hq⟩ := hr
          repeat (first | exact hq | exact wpAny_pure hq | exact wpAny_truthy_bool hq | (refine wpAny_bind (m := truthy (.bool _)) (wpAny_truthy_bool ?_)) | wp_step)) fun _ _ e => e)))
    | wp_step)
theorem rc_ne {Q : Value → Shared → Prop} (hu : A.units + 1 < cLine) (X : K.In s.heap) (I : PySem.W.InstAt s.heap x ox C od) (I' : PySem.W.InstAt s.heap y oy C od') (hm : PySem.W.mroIn K C (.type "object") = some true)
    (hn : PySem.W.findIn K (.ref C) "__ne__" = some (some (.builtin "object.__ne__"))) (hs : PySem.W.findIn K (.ref C) "__eq__" = some (some (.ref f))) (hf : PySem.W.isFn K (.ref f) = true)
    (h : wpAny (model prog w) A.in1 (call (.ref f) [.ref x, .ref y]) (fun v s' => ∃ b, v = .bool b ∧ Q (.bool (!b)) s') E s) :
    wpAny (model prog w) A (richCompare .NotEq (.ref x) (.ref y)) Q E s := by
  have one : wpAny (model prog w) A (tryCompare (.ref x) "__ne__" (.ref y)) (fun r s' => ∃ v, r = some v ∧ Q v s') E s := by
    unfold tryCompare
    refine wpAny_bind (ifBound_ne X I hn (wpAny_call (codeAny_call_builtin F.cmp_object.ne.plain F.cmpEntry_ne (PySem.W.check_slot F.cmpKind_ne F.cmpSplit_ne (I.type.andThen (PySem.W.looks_mroIn X hm)) (F.cmpArgs_ne _ _)
      (entry_ne (A := A.in1) hu X I hs hf (wpAny_mono h (fun v s' hv => ?_) fun _ _ e => e))))))
    obtain ⟨b, rfl, hq⟩ := hv
    exact ⟨b, rfl, wpAny_pure ⟨_, rfl, hq⟩⟩
  unfold richCompare
  simp only [oneThing_ref]
  refine wpAny_holding (wpAny_bind (wpAny_cRoomFor (Nat.lt_of_succ_lt hu) ?_))
  rw [cmpInfo_NotEq]
  dsimp only
  refine wpAny_bind (I.type.here (wpAny_bind (I'.type.here ?_)))
  rw [show (Value.ref C != Value.ref C) = false from by simp]
  simp only [Bool.false_eq_true, if_false]
  refine wpAny_bind (wpAny_pure ?_)
  simp only [Bool.false_eq_true, if_false]
  refine wpAny_bind (wpAny_mono one (fun r s' z => ?_) fun _ _ e => e)
  obtain ⟨v, rfl, hq⟩ := z
  exact wpAny_pure hq
end
end NeX
namespace Ev
open PySem L2
def rOwnC (g : G) (c : Nat) (F : List D → List D → Hs → R D) : R2 := fun x y H Q => ∃ C a b dx dy fs gs, IsCls g c C ∧ x = .ref a ∧ y = .ref b ∧ H a = some (.ins C dx fs) ∧ H b = some (.ins C dy gs) ∧ Asks g (fun _ _ _ => False) F [x, y] [] H Q
def rOwnN (g : G) (c : Nat) (F : List D → List D → Hs → R D) : R2 := fun x y H Q => rOwnC g c F x y H fun v H' => ∃ b, v = .bl b ∧ Q (.bl (!b)) H'
def eqOwnD (c : Nat) (F : List D → List D → Hs → R D) (x y : D) (h : Hs) : R D := if isIns c x h = true ∧ isIns c y h = true then (F [x, y] [] h).nerr else .bad
def neOwnD (c : Nat) (F : List D → List D → Hs → R D) (x y : D) (h : Hs) : R D := (eqOwnD c F x y h).bind fun d h1 => match d with
  | .bl b => .ok (.bl (!b)) h1
  | _ => .bad
theorem opj_eqOwn {g : G} {c : Nat} {F : List D → List D → Hs → R D} : OpJ g (rOwnC g c F) (eqOwnD c F) := ⟨fun W bs h H x y vx vy Q hr rx ry p => by
  unfold eqOwnD at p
  split at p
  · rename_i hi
    obtain ⟨a, C, dx, fs, n, rfl, c1, c2, c3⟩ := isIns_ok hr rx hi.1
    obtain ⟨b, C', dy, gs, n', rfl, c1', c2', c3'⟩ := isIns_ok hr ry hi.2
    have e : g.mg (Str.ofString (g.ci c).1) = some (.ref C) := c1
    have e' : g.mg (Str.ofString (g.ci c).1) = some (.ref C') := c1'
    rw [e] at e'
    cases e'
    exact ⟨C, a, b, dx, dy, fs, gs, c1, rfl, rfl, c2, c2', bs, h, [x, y], [], hr, .cons rx (.cons ry .nil), .nil, post_nerr p⟩
  · exact p.elim⟩
theorem opj_neOwn {g : G} {c : Nat} {F : List D → List D → Hs → R D} : OpJ g (rOwnN g c F) (neOwnD c F) := ⟨fun W bs h H x y vx vy Q hr rx ry p =>
  Post.step (M := fun Q' => rOwnC g c F vx vy H Q') (fun Q' q => opj_eqOwn.run W bs h H x y vx vy Q' hr rx ry q) p fun z vz bs1 H1 h1 e1 hr1 rz p1 => by
    cases rz with
    | bl k => exact ⟨k, rfl, Post.ok_ p1 hr1 (.bl _)⟩
    | _ => exact p1.elim⟩
section
variable {ci : Nat → String × List String} {X : Cx} {c k : Nat} {F : List D → List D → Hs → R D}
theorem opr_eqOwn (h : EqC ci X.prog X.w X.K X.mg X.base c k F) (hr : Room k X.A) : OpR X (compareOp .Eq) (rOwnC (X.g ci) c F) := by
  obtain ⟨C, f, h1, h2, h3, h4, h5, h6⟩ := h.ex
  intro pins s σ H x y v u Q I rx ry ⟨C', a, b, dx, dy, fs, gs, hC', ex, ey, ha, hb, q⟩
  subst ex ey
  have hC2 : X.mg (Str.ofString (ci c).1) = some (.ref C') := hC'
  rw [h1] at hC2
  cases hC2
  cases (show v = Value.ref a from rx)
  cases (show u = Value.ref b from ry)
  obtain ⟨mA, J, _⟩ := ins_get I.hok ha
  obtain ⟨mB, J', _⟩ := ins_get I.hok hb
  obtain ⟨od, J, _⟩ := J.look
  obtain ⟨od', J', _⟩ := J'.look
  obtain ⟨m, hF⟩ := I.fr
  show wpAny (model X.prog X.w) X.A (richCompare .Eq (.ref a) (.ref b)) (EP X pins σ Q) X.xe s
  refine PySem.W.cmp_K (op := .Eq) (tb := .ref C) hr.units0 hF I.ok.mod.kin J J'.type (by simp [PySem.W.notFirst]) h2 h3 ?_
  refine wpAny_mono (run_c (us := [.ref a, .ref b]) (ws := []) (vs := [.ref a, .ref b]) (zs := []) (W := W0) h6 hr takes0 I (.cons rfl (.cons rfl .nil)) .nil rfl q) (fun w s' z => ?_) fun _ _ x => x
  obtain ⟨z', H', I', rz, qz⟩ := z
  exact SlX.cmpback rz ⟨z', H', I', rz, qz⟩
theorem opr_neOwn (h : EqC ci X.prog X.w X.K X.mg X.base c k F) (hr : Room (k + 1) X.A) : OpR X (compareOp .NotEq) (rOwnN (X.g ci) c F) := by
  obtain ⟨C, f, h1, h2, h3, h4, h5, h6⟩ := h.ex
  intro pins s σ H x y v u Q I rx ry ⟨C', a, b, dx, dy, fs, gs, hC', ex, ey, ha, hb, q⟩
  subst ex ey
  have hC2 : X.mg (Str.ofString (ci c).1) = some (.ref C') := hC'
  rw [h1] at hC2
  cases hC2
  cases (show v = Value.ref a from rx)
  cases (show u = Value.ref b from ry)
  obtain ⟨mA, J, _⟩ := ins_get I.hok ha
  obtain ⟨mB, J', _⟩ := ins_get I.hok hb
  obtain ⟨od, J, _⟩ := J.look
  obtain ⟨od', J', _⟩ := J'.look
  show wpAny (model X.prog X.w) X.A (richCompare .NotEq (.ref a) (.ref b)) (EP X pins σ Q) X.xe s
  refine NeX.rc_ne (by have := hr.un; omega) I.kIn J J' h5 h4 h2 h3 ?_
  have hc := h6.run X.A.in1 X.stack s H [.ref a, .ref b] [] [.ref a, .ref b] [] (fun v H' => ∃ b, v = .bl b ∧ Q (.bl (!b)) H') (fun _ _ _ => False) hr.in1 I.env0.in1 (.cons rfl (.cons rfl .nil)) .nil rfl q
  refine wpAny_call (codeAny_mono hc fun r s' hq => ?_)
  cases r with
  | error e => exact passAt (takes0 (X := X)) σ pins H s e s' I hq
  | ok fl =>
    cases fl with
    | ret u =>
      obtain ⟨z, H', I', rz, b', ez, qz⟩ := I.after hq
      subst ez
      exact ⟨b', rz, .bl (!b'), H', I', rfl, qz⟩
    | next => exact False.elim hq
    | brk => exact False.elim hq
    | cont => exact False.elim hq
end
end Ev
set_option Elab.async false
set_option linter.all false
set_option maxRecDepth 100000
set_option maxHeartbeats 4000000
namespace Ev
open PySem PySem.Spec PyProof.Rows L2
def topS (i : Nat) : Stmt := PySem.Challenge.pw_latewords_k71_texts_of_conversations_and.main.body.getD i (.Pass ⟨0, 0, 0, 0⟩)
abbrev st_is_integer : Stmt := topS 10
abbrev st_in_range : Stmt := topS 11
abbrev st_is_write : Stmt := topS 18
abbrev st_check : Stmt := topS 19
abbrev st_show_write : Stmt := topS 24
abbrev st_show_conversation : Stmt := topS 26
abbrev st_read_number : Stmt := topS 23
abbrev st_read_write : Stmt := topS 25
abbrev st_read_conversation : Stmt := topS 27
abbrev st_l_bag : Stmt := topS 31
abbrev st_l_take : Stmt := topS 32
abbrev st_l_amount : Stmt := topS 33
abbrev st_l_writes : Stmt := topS 34
abbrev st_l_text : Stmt := topS 35
abbrev st_l_policy : Stmt := topS 36
abbrev st_l_words : Stmt := topS 37
abbrev st_Policy_init : Stmt := inClass (topS 12) 1
abbrev st_read_policy : Stmt := topS 28
abbrev st_l_same : Stmt := topS 38
abbrev st_Setting_init : Stmt := inClass (topS 13) 0
abbrev st_read_setting : Stmt := topS 29
abbrev st_Policy_str : Stmt := inClass (topS 12) 3
abbrev st_Setting_str : Stmt := inClass (topS 13) 3
abbrev st_Policy_eq : Stmt := inClass (topS 12) 2
abbrev st_Setting_eq : Stmt := inClass (topS 13) 2
abbrev st_law : Stmt := topS 39
abbrev dd_is_integer : He.DefD := ⟨("is_integer", none), "is_integer", "is_integer", defArgs st_is_integer, defBody st_is_integer, defScope st_is_integer, [], []⟩
abbrev dd_in_range : He.DefD := ⟨("in_range", none), "in_range", "in_range", defArgs st_in_range, defBody st_in_range, defScope st_in_range, [], []⟩
abbrev dd_is_write : He.DefD := ⟨("is_write", none), "is_write", "is_write", defArgs st_is_write, defBody st_is_write, defScope st_is_write, [], []⟩
abbrev dd_check : He.DefD := ⟨("check", none), "check", "check", defArgs st_check, defBody st_check, defScope st_check, [], []⟩
abbrev dd_show_write : He.DefD := ⟨("show_write", none), "show_write", "show_write", defArgs st_show_write, defBody st_show_write, defScope st_show_write, [], []⟩
abbrev dd_show_conversation : He.DefD := ⟨("show_conversation", none), "show_conversation", "show_conversation", defArgs st_show_conversation, defBody st_show_conversation, defScope st_show_conversation, [], []⟩
abbrev dd_read_number : He.DefD := ⟨("read_number", none), "read_number", "read_number", defArgs st_read_number, defBody st_read_number, defScope st_read_number, [], []⟩
abbrev dd_read_write : He.DefD := ⟨("read_write", none), "read_write", "read_write", defArgs st_read_write, defBody st_read_write, defScope st_read_write, [], []⟩
abbrev dd_read_conversation : He.DefD := ⟨("read_conversation", none), "read_conversation", "read_conversation", defArgs st_read_conversation, defBody st_read_conversation, defScope st_read_conversation, [], []⟩
abbrev dd_l_bag : He.DefD := ⟨("_law_bag", none), "_law_bag", "_law_bag", defArgs st_l_bag, defBody st_l_bag, defScope st_l_bag, [], []⟩
abbrev dd_l_take : He.DefD := ⟨("_law_take", none), "_law_take", "_law_take", defArgs st_l_take, defBody st_l_take, defScope st_l_take, [], []⟩
abbrev dd_l_amount : He.DefD := ⟨("_law_amount", none), "_law_amount", "_law_amount", defArgs st_l_amount, defBody st_l_amount, defScope st_l_amount, [], []⟩
abbrev dd_l_writes : He.DefD := ⟨("_law_writes", none), "_law_writes", "_law_writes", defArgs st_l_writes, defBody st_l_writes, defScope st_l_writes, [], []⟩
abbrev dd_l_text : He.DefD := ⟨("_law_text", none), "_law_text", "_law_text", defArgs st_l_text, defBody st_l_text, defScope st_l_text, [], []⟩
abbrev dd_l_policy : He.DefD := ⟨("_law_policy", none), "_law_policy", "_law_policy", defArgs st_l_policy, defBody st_l_policy, defScope st_l_policy, [], []⟩
abbrev dd_l_words : He.DefD := ⟨("_law_words", none), "_law_words", "_law_words", defArgs st_l_words, defBody st_l_words, defScope st_l_words, [], []⟩
abbrev dd_Policy_init : He.DefD := ⟨("Policy", some "__init__"), "__init__", "Policy.__init__", defArgs st_Policy_init, defBody st_Policy_init, defScope st_Policy_init, [(.str "all")], [("every", (.int 2)), ("quick", (.int 0))]⟩
abbrev dd_read_policy : He.DefD := ⟨("read_policy", none), "read_policy", "read_policy", defArgs st_read_policy, defBody st_read_policy, defScope st_read_policy, [], []⟩
abbrev dd_l_same : He.DefD := ⟨("_law_same", none), "_law_same", "_law_same", defArgs st_l_same, defBody st_l_same, defScope st_l_same, [], []⟩
abbrev dd_Setting_init : He.DefD := ⟨("Setting", some "__init__"), "__init__", "Setting.__init__", defArgs st_Setting_init, defBody st_Setting_init, defScope st_Setting_init, [], []⟩
abbrev dd_read_setting : He.DefD := ⟨("read_setting", none), "read_setting", "read_setting", defArgs st_read_setting, defBody st_read_setting, defScope st_read_setting, [], []⟩
abbrev dd_Policy_str : He.DefD := ⟨("Policy", some "__str__"), "__str__", "Policy.__str__", defArgs st_Policy_str, defBody st_Policy_str, defScope st_Policy_str, [], []⟩
abbrev dd_Setting_str : He.DefD := ⟨("Setting", some "__str__"), "__str__", "Setting.__str__", defArgs st_Setting_str, defBody st_Setting_str, defScope st_Setting_str, [], []⟩
abbrev dd_Policy_eq : He.DefD := ⟨("Policy", some "__eq__"), "__eq__", "Policy.__eq__", defArgs st_Policy_eq, defBody st_Policy_eq, defScope st_Policy_eq, [], []⟩
abbrev dd_Setting_eq : He.DefD := ⟨("Setting", some "__eq__"), "__eq__", "Setting.__eq__", defArgs st_Setting_eq, defBody st_Setting_eq, defScope st_Setting_eq, [], []⟩
abbrev dd_law : He.DefD := ⟨("law", none), "law", "law", defArgs st_law, defBody st_law, defScope st_law, [], []⟩
def fn : List He.DefD := [dd_is_integer, dd_in_range, dd_is_write, dd_check, dd_show_write, dd_show_conversation, dd_read_number, dd_read_write, dd_read_conversation, dd_l_bag, dd_l_take, dd_l_amount, dd_l_writes, dd_l_text, dd_l_policy, dd_l_words, dd_Policy_init, dd_read_policy, dd_l_same, dd_Setting_init, dd_read_setting, dd_Policy_str, dd_Setting_str, dd_Policy_eq, dd_Setting_eq, dd_law]
def fs : List (Fx.Fr → Bool) := [(He.Fa.free "isinstance").ok,
 Fx.isiB ci0 .int [0, 1] (fun _ => .type "int"),
 (He.Fa.free "int").ok,
 Fx.isiB ci0 .bool [0, 1] (fun _ => .type "bool"),
 (He.Fa.free "bool").ok,
 (He.Fa.glo "is_integer").ok,
 Fx.isiB ci0 .tuple [0, 1] (fun _ => .type "tuple"),
 (He.Fa.free "tuple").ok,
 (He.Fa.free "len").ok,
 (He.Fa.glo "in_range").ok,
 Fx.glB "MOST_LENGTH" (.int 1000000000000000000),
 Fx.isiB ci0 .str [0, 1] (fun _ => .type "str"),
 (He.Fa.free "str").ok,
 Fx.glB "MODES" (.tup [(.str "plain"), (.str "push"), (.str "more")]),
 Fx.isiB ci0 .list [0, 1] (fun _ => .type "list"),
 (He.Fa.free "list").ok,
 Fx.glB "MOST_WRITES" (.int 200),
 (He.Fa.free "enumerate").ok,
 (He.Fa.glo "is_write").ok,
 (He.Fa.glo "check").ok,
 (He.Fa.glo "show_write").ok,
 Fx.glB "MOST_DIGITS" (.int 40),
 Fx.glB "MOST_NUMBER" (.int 10000000000000000000000000000000000000000),
 (He.Fa.glo "read_number").ok,
 (He.Fa.glo "read_write").ok,
 (He.Fa.free "abs").ok,
 (He.Fa.glo "_law_take").ok,
 (He.Fa.free "range").ok,
 (He.Fa.glo "_law_amount").ok,
 Fx.conB "Policy" "HOLDS" (.tup [(.str "off"), (.str "partial"), (.str "all")]),
 Fx.glB "MOST_EVERY" (.int 9),
 Fx.glB "MOST_QUICK" (.int 4),
 Fx.fldB "Policy" "hold",
 Fx.fldB "Policy" "every",
 Fx.fldB "Policy" "quick",
 (He.Fa.free "TurnState").ok,
 (He.Fa.glo "Policy").ok,
 (He.Fa.mkr "Policy").ok,
 Fx.isiB ci0 (.cls 0) [0, 1] (fun K => .ref (He.ga K "Policy")),
 Fx.glB "MOST_SIZE" (.int 1000000000000000000),
 (He.Fa.free "all").ok,
 Fx.fldB "Setting" "size",
 Fx.fldB "Setting" "policies",
 (He.Fa.glo "read_policy").ok,
 (He.Fa.glo "Setting").ok,
 (He.Fa.mkr "Setting").ok,
 Fx.txB "Policy" "__str__",
 Fx.isiB ci0 (.cls 1) [0, 1] (fun K => .ref (He.ga K "Setting")),
 Fx.eqB "Policy",
 (He.Fa.glo "show_conversation").ok,
 (He.Fa.glo "read_conversation").ok,
 (He.Fa.free "min").ok,
 (He.Fa.free "max").ok,
 (He.Fa.glo "_law_bag").ok,
 (He.Fa.glo "_law_writes").ok,
 (He.Fa.glo "_law_text").ok,
 (He.Fa.free "repr").ok,
 (He.Fa.glo "_law_policy").ok,
 (He.Fa.glo "_law_words").ok,
 (He.Fa.glo "_law_same").ok,
 (He.Fa.glo "read_setting").ok,
 Fx.txB "Setting" "__str__",
 Fx.eqB "Setting",
 (He.Fa.glo "law").ok]
def loose0 : List PySem.Str := ["_wall", "LatewordsError", "BadSetting", "BadWrite", "BadText", "MOST_EVERY", "MOST_QUICK", "MOST_SIZE", "is_integer", "in_range", "Policy", "Setting", "MODES", "MOST_WRITES", "MOST_LENGTH", "is_write", "check", "MOST_DIGITS", "MOST_NUMBER", "read_number", "show_write", "read_write", "show_conversation", "read_conversation", "read_policy", "read_setting", "_law_bag", "_law_take", "_law_amount", "_law_writes"]
def loose1 : List PySem.Str := ["_law_text", "_law_policy", "_law_words", "_law_same"]
def loose : List PySem.Str := loose0 ++ loose1
abbrev RR : PySem.W.OpenRow := PySem.W.OpenLaw.row PySem.Challenge.rw_latewords_k71_texts_of_conversations_and
def ads : List Addr := [3, 6, 4, 21, 38, 58, 77, 96, 105, 112, 153, 201, 206, 213, 220, 227, 234, 239, 244, 249, 256, 261, 268, 275, 282, 289, 296, 303, 308, 315, 322, 0, 20, 37, 57, 76, 95, 104, 111, 152, 200, 212, 219, 226, 233, 238, 243, 248, 255, 260, 267, 274, 281, 288, 295, 302, 307, 314, 321, 15, 16, 17, 18, 19, 35, 36, 39, 55, 56, 74, 75, 93, 94, 99, 100, 101, 102, 103, 106, 107, 108, 109, 110, 120, 129, 136, 143, 150, 151, 154, 155, 169, 177, 184, 191, 198, 199, 202, 203, 207, 208, 209, 210, 211, 214, 215, 216, 217, 218, 221, 222, 223, 224, 225, 228, 229, 230, 231, 232, 235, 236, 237, 240, 241, 242, 245, 246, 247, 250, 251, 252, 253, 254, 257, 258, 259, 262, 263, 264, 265, 266, 269, 270, 271, 272, 273, 276, 277, 278, 279, 280, 283, 284, 285, 286, 287, 290, 291, 292, 293, 294, 297, 298, 299, 300, 301, 304, 305, 306, 309, 310, 311, 312, 313, 316, 317, 318, 319, 320, 34, 54, 73, 92, 128, 121, 122, 135, 142, 149, 168, 176, 170, 183, 190, 197, 29, 30, 31, 32, 33, 49, 50, 51, 52, 53, 68, 69, 70, 71, 72, 87, 88, 89, 90, 91, 123, 124, 125, 126, 127, 130, 131, 132, 133, 134, 137, 138, 139, 140, 141, 144, 145, 146, 147, 148, 165, 166, 167, 171, 172, 173, 174, 175, 178, 179, 180, 181, 182, 185, 186, 187, 188, 189, 192, 193, 194, 195, 196, 2]
abbrev hk : PySem.W.Hook := Fx.hookL ads fn fs
def ob (s : PySem.W.SharedT) : Fx.AlZ := Fx.obsL ads fn fs (HandSHeadRun.getT s)
theorem ob_eq (s : PySem.W.SharedT) : ob s = hk.obs s.abs := Fx.obsL_eq (HandSHeadRun.getT_eq s)
set_option maxHeartbeats 0 in
theorem run1 (w : World) (os : OsState) : (HandSHeadRun.endF (HandSHeadRun.stepQ (HandSHeadRun.denQ HandSHeadRun.tabQ) RR.prog w) 4000 RR.prog w os).map (fun s => (HandSHeadRun.looksF RR.prog (PySem.W.boot_heap w.params) s.abs, HandSHeadRun.seenQ (PySem.W.view RR.prog [39]) loose (PySem.importedModules RR.prog.main.body) (fun s => PySem.W.xlAt (PySem.W.view RR.prog [39]) [] s && PySem.W.recOk RR.toRowW.records s) s.abs)) = some (true, PySem.W.openGood (PySem.W.view RR.prog [39]) loose) := by
  kernel_rfl
set_option maxHeartbeats 0 in
theorem run2 (w : World) (os : OsState) : (HandSHeadRun.endF (HandSHeadRun.stepQ (HandSHeadRun.denQ HandSHeadRun.tabQ) RR.prog w) 4000 RR.prog w os).map ob = some (hk.val w) := by
  kernel_rfl
theorem run (w : World) : HandSHeadRun.RunEq RR (PySem.W.view RR.prog [39]) hk ob 4000 loose w := Fx.run_two (run1 w) (run2 w)
end Ev
set_option Elab.async false
set_option linter.all false
set_option maxRecDepth 100000
set_option maxHeartbeats 4000000
namespace Ev
open PySem L2
noncomputable def b_is_integer : En → Hs → S :=
 (sRet (eAnd (eIsi .int [0, 1] (eVar 0)) (eNot (eIsi .bool [0, 1] (eVar 0)))))
noncomputable def G_is_integer : List D → Hs → R D := runB 1 b_is_integer
noncomputable def b_in_range : En → Hs → S :=
 (sRet (eAnd (eCallC (posF 1 G_is_integer) (cPos (aCons (eVar 0) aNil))) (eChain leD leD (eVar 1) (eVar 0) (eVar 2))))
noncomputable def G_in_range : List D → Hs → R D := runB 3 b_in_range
noncomputable def b_is_write : En → Hs → S :=
 (sCons (sIf (eOrB (eNotB (eTru (eIsi .tuple [0, 1] (eVar 0)))) (eTest (eBin neD (eCall lenD (aCons (eVar 0) aNil)) (eC (.int 3))))) (sRet (eC (.bl false))) sNil)
 (sCons (sAsg (eVar 0) (kTup 3 (ksCons (kName 1) (ksCons (kName 2) (ksCons (kName 3) ksNil)))))
 (sCons (sIf (eOrB (eNotB (eTru (eCallC (posF 3 G_in_range) (cPos (aCons (eVar 1) (aCons (eC (.int 0)) (aCons (eC (.int 1)) aNil))))))) (eNotB (eTru (eCallC (posF 3 G_in_range) (cPos (aCons (eVar 2) (aCons (eC (.int 1)) (aCons (eC (.int 1000000000000000000)) aNil)))))))) (sRet (eC (.bl false))) sNil)
 (sRet (eAnd (eIsi .str [0, 1] (eVar 3)) (eBin inD (eVar 3) (eC (.tup [(.str "plain"), (.str "push"), (.str "more")]))))))))
noncomputable def G_is_write : List D → Hs → R D := runB 4 b_is_write
noncomputable def b_check : En → Hs → S :=
 (sCons (sIf (eOrB (eNotB (eTru (eIsi .list [0, 1] (eVar 0)))) (eTest (eBin gtD (eCall lenD (aCons (eVar 0) aNil)) (eC (.int 200))))) sBad sNil)
 (sFor (iEnumD (aCons (eVar 0) aNil)) (kTup 2 (ksCons (kName 1) (ksCons (kName 2) ksNil))) (sIf (eNotB (eTru (eCallC (posF 1 G_is_write) (cPos (aCons (eVar 2) aNil))))) sBad sNil)))
noncomputable def G_check : List D → Hs → R D := runB 3 b_check
noncomputable def b_show_write : En → Hs → S :=
 (sCons (sAsg (eVar 0) (kTup 3 (ksCons (kName 1) (ksCons (kName 2) (ksCons (kName 3) ksNil)))))
 (sRet (eBin addD (eJoin (jCons (eFmt fmtD (eVar 1)) (jCons (eC (.str " ")) (jCons (eFmt fmtD (eVar 2)) jNil)))) (eIf (eTest (eBin eqD (eVar 3) (eC (.str "plain")))) (eC (.str "")) (eBin addD (eC (.str " ")) (eVar 3))))))
noncomputable def G_show_write : List D → Hs → R D := runB 4 b_show_write
noncomputable def b_show_conversation : En → Hs → S :=
 (sCons (sExpr (eCallC (posF 1 G_check) (cPos (aCons (eVar 0) aNil))))
 (sRet (eBM .str joinD (eC (.str "; ")) (aCons (eComp (iSeq (eVar 0)) (kName 1) bYes (eCallC (posF 1 G_show_write) (cPos (aCons (eVar 1) aNil))) [1]) aNil))))
noncomputable def G_show_conversation : List D → Hs → R D := runB 2 b_show_conversation
noncomputable def b_read_number : En → Hs → S :=
 (sCons (sIf (eOrB (eTest (eBin eqD (eVar 0) (eC (.str "")))) (eOrB (eTest (eBin gtD (eCall lenD (aCons (eVar 0) aNil)) (eC (.int 40)))) (eTest (eBin neD (eBM .str stripD (eVar 0) (aCons (eC (.str "0123456789")) aNil)) (eC (.str "")))))) (sRet (eC .non)) sNil)
 (sCons (sIf (eAndB (eTest (eBin eqD (eBin ixD (eVar 0) (eC (.int 0))) (eC (.str "0")))) (eTest (eBin neD (eVar 0) (eC (.str "0"))))) (sRet (eC .non)) sNil)
 (sCons (sAsg (eCall intXD (aCons (eVar 0) aNil)) (kName 3))
 (sRet (eIf (eTest (eChain leD leD (eVar 1) (eVar 3) (eVar 2))) (eVar 3) (eC .non))))))
noncomputable def G_read_number : List D → Hs → R D := runB 4 b_read_number
noncomputable def b_read_write : En → Hs → S :=
 (sCons (sIf (eTest (eBin notInD (eCall lenD (aCons (eVar 0) aNil)) (eTup (aCons (eC (.int 2)) (aCons (eC (.int 3)) aNil))))) (sRet (eC .non)) sNil)
 (sCons (sAsg (eComp (iSeq (eSl slD (eVar 0) oNo (oSome (eC (.int 2))))) (kName 4) bYes (eCallC (posF 3 G_read_number) (cPos (aCons (eVar 4) (aCons (eC (.int 0)) (aCons (eC (.int 10000000000000000000000000000000000000000)) aNil))))) [4]) (kLst 2 (ksCons (kName 1) (ksCons (kName 2) ksNil))))
 (sCons (sAsg (eIf (eTest (eBin eqD (eCall lenD (aCons (eVar 0) aNil)) (eC (.int 2)))) (eC (.str "plain")) (eBin ixD (eVar 0) (eC (.int 2)))) (kName 3))
 (sCons (sIf (eOrB (eTest (eBin isND (eVar 1) (eC .non))) (eOrB (eTest (eBin isND (eVar 2) (eC .non))) (eAndB (eTest (eBin eqD (eCall lenD (aCons (eVar 0) aNil)) (eC (.int 3)))) (eTest (eBin notInD (eVar 3) (eSl slD (eC (.tup [(.str "plain"), (.str "push"), (.str "more")])) (oSome (eC (.int 1))) oNo)))))) (sRet (eC .non)) sNil)
 (sRet (eTup (aCons (eVar 1) (aCons (eVar 2) (aCons (eVar 3) aNil)))))))))
noncomputable def G_read_write : List D → Hs → R D := runB 5 b_read_write
noncomputable def b_read_conversation : En → Hs → S :=
 (sCons (sIf (eNotB (eTru (eIsi .str [0, 1] (eVar 0)))) sBad sNil)
 (sCons (sIf (eTest (eBin eqD (eVar 0) (eC (.str "")))) (sRet (eLstM aNil)) sNil)
 (sCons (sAsg (eCompM (iSeq (eBM .str splitD (eVar 0) (aCons (eC (.str "; ")) aNil))) (kName 3) bYes (eCallC (posF 1 G_read_write) (cPos (aCons (eBM .str splitD (eVar 3) (aCons (eC (.str " ")) aNil)) aNil))) [3]) (kName 1))
 (sCons (sIf (eTest (eBin gtD (eCall lenD (aCons (eVar 1) aNil)) (eC (.int 200)))) sBad sNil)
 (sCons (sFor (iSeq (eVar 1)) (kName 2) (sIf (eOrB (eTest (eBin isND (eVar 2) (eC .non))) (eOrB (eTest (eBin gtD (eBin ixD (eVar 2) (eC (.int 0))) (eC (.int 1)))) (eNotB (eTest (eChain leD leD (eC (.int 1)) (eBin ixD (eVar 2) (eC (.int 1))) (eC (.int 1000000000000000000))))))) sBad sNil))
 (sRet (eVar 1)))))))
noncomputable def G_read_conversation : List D → Hs → R D := runB 4 b_read_conversation
noncomputable def b_l_bag : En → Hs → S :=
 (sCons (sAsg (eIf (eTest (eBin ltD (eVar 1) (eCall lenD (aCons (eVar 0) aNil)))) (eBin ixD (eVar 0) (eVar 1)) (eC (.int 0))) (kName 2))
 (sCons (sAsg (eBin mulD (eCall absD (aCons (eVar 2) aNil)) (eCall intTD (aCons (eBin geD (eCall absD (aCons (eVar 2) aNil)) (eBin powD (eC (.int 10)) (eC (.int 18)))) aNil))) (kName 3))
 (sRet (eLstM (aCons (eVar 3) (aCons (eBin addD (eBin addD (eBin modD (eCall intTD (aCons (eVar 2) aNil)) (eC (.int 2147483563))) (eBin mulD (eC (.int 40009)) (eVar 1))) (eC (.int 61))) (aCons (eC (.int 0)) aNil)))))))
noncomputable def G_l_bag : List D → Hs → R D := runB 4 b_l_bag
noncomputable def b_l_take : En → Hs → S :=
 (sCons (sIf (eTest (eBin gtD (eBin ixD (eVar 0) (eC (.int 0))) (eC (.int 0)))) (sCons (sAsg (eBin modD (eCall intTD (aCons (eBin ixD (eVar 0) (eC (.int 0))) aNil)) (eVar 1)) (kName 2))
 (sCons (sSetIx (eVar 0) (eC (.int 0)) (eBin fdivD (eBin ixD (eVar 0) (eC (.int 0))) (eVar 1)))
 (sRet (eVar 2)))) sNil)
 (sCons (sAsg (eTup (aCons (eC (.int 0)) (aCons (eC (.int 1)) aNil))) (kTup 2 (ksCons (kName 3) (ksCons (kName 4) ksNil))))
 (sCons (sWhile (eTest (eBin ltD (eVar 4) (eVar 1))) (sCons (sSetIx (eVar 0) (eC (.int 2)) (eBin addD (eBin ixD (eVar 0) (eC (.int 2))) (eC (.int 1))))
 (sCons (sSetIx (eVar 0) (eC (.int 1)) (eBin modD (eCall intTD (aCons (eBin addD (eBin addD (eBin mulD (eBin ixD (eVar 0) (eC (.int 1))) (eC (.int 40014))) (eBin mulD (eBin mulD (eC (.int 7919)) (eBin ixD (eVar 0) (eC (.int 2)))) (eBin ixD (eVar 0) (eC (.int 2))))) (eC (.int 83))) aNil)) (eC (.int 2147483563))))
 (sCons (sAsg (eBin modD (eCall intTD (aCons (eBin mulD (eBin fdivD (eBin ixD (eVar 0) (eC (.int 1))) (eC (.int 7))) (eBin addD (eBin fdivD (eBin ixD (eVar 0) (eC (.int 1))) (eC (.int 131))) (eBin ixD (eVar 0) (eC (.int 2))))) aNil)) (eC (.int 2147483399))) (kName 5))
 (sCons (sAsg (eBin addD (eBin mulD (eVar 3) (eC (.int 33554432))) (eBin modD (eCall intTD (aCons (eBin fdivD (eVar 5) (eC (.int 64))) aNil)) (eC (.int 33554432)))) (kName 3))
 (sAsg (eBin mulD (eVar 4) (eC (.int 33554432))) (kName 4)))))))
 (sRet (eBin modD (eVar 3) (eVar 1))))))
noncomputable def G_l_take : List D → Hs → R D := runB 6 b_l_take
noncomputable def b_l_amount : En → Hs → S :=
 (sCons (sAsg (eBin addD (eC (.int 1)) (eCallC (posF 2 G_l_take) (cPos (aCons (eVar 0) (aCons (eVar 1) aNil))))) (kName 2))
 (sRet (eBin ixD (eLst (aCons (eVar 2) (aCons (eVar 2) (aCons (eBin mulD (eVar 1) (eBin addD (eC (.int 1)) (eCallC (posF 2 G_l_take) (cPos (aCons (eVar 0) (aCons (eC (.int 4)) aNil)))))) (aCons (eBin addD (eBin mulD (eVar 1) (eCallC (posF 2 G_l_take) (cPos (aCons (eVar 0) (aCons (eC (.int 4)) aNil))))) (eVar 2)) aNil))))) (eCallC (posF 2 G_l_take) (cPos (aCons (eVar 0) (aCons (eC (.int 4)) aNil)))))))
noncomputable def G_l_amount : List D → Hs → R D := runB 3 b_l_amount
noncomputable def b_l_writes_1 : En → Hs → S :=
 (sCons (sIf (eTest (eBin eqD (eCallC (posF 2 G_l_take) (cPos (aCons (eVar 0) (aCons (eC (.int 3)) aNil)))) (eC (.int 0)))) (sAsg (eBin subD (eC (.int 1)) (eVar 4)) (kName 4)) sNil)
 (sCons (sAsg (eBin ixD (eLst (aCons (eC (.str "plain")) (aCons (eC (.str "plain")) (aCons (eC (.str "plain")) (aCons (eC (.str "push")) (aCons (eC (.str "more")) (aCons (eC (.str "plain")) aNil))))))) (eCallC (posF 2 G_l_take) (cPos (aCons (eVar 0) (aCons (eC (.int 6)) aNil))))) (kName 6))
 (sExpr (eBM .list appendD (eVar 3) (aCons (eTup (aCons (eVar 4) (aCons (eCallC (posF 2 G_l_amount) (cPos (aCons (eVar 0) (aCons (eVar 1) aNil)))) (aCons (eVar 6) aNil)))) aNil)))))
noncomputable def b_l_writes : En → Hs → S :=
 (sCons (sPar 3 4 (aCons (eLstM aNil) (aCons (eCallC (posF 2 G_l_take) (cPos (aCons (eVar 0) (aCons (eC (.int 2)) aNil)))) aNil)))
 (sCons (sFor (iRange1 (aCons (eVar 2) aNil)) (kName 5) b_l_writes_1)
 (sRet (eVar 3))))
noncomputable def G_l_writes : List D → Hs → R D := freeG (runB 7 b_l_writes)
noncomputable def b_l_text_1 : En → Hs → S :=
 (sExpr (eBM .list appendD (eVar 1) (aCons (eBin addD (eBin addD (eBin addD (eCall strTD (aCons (eVar 2) aNil)) (eC (.str " "))) (eCall strTD (aCons (eVar 3) aNil))) (eBin ixD (eLst (aCons (eC (.str "")) (aCons (eBin addD (eC (.str " ")) (eVar 4)) aNil))) (eCall intTD (aCons (eBin neD (eVar 4) (eC (.str "plain"))) aNil)))) aNil)))
noncomputable def b_l_text : En → Hs → S :=
 (sCons (sAsg (eLstM aNil) (kName 1))
 (sCons (sFor (iSeq (eVar 0)) (kTup 3 (ksCons (kName 2) (ksCons (kName 3) (ksCons (kName 4) ksNil)))) b_l_text_1)
 (sRet (eBM .str joinD (eC (.str "; ")) (aCons (eVar 1) aNil)))))
noncomputable def G_l_text : List D → Hs → R D := freeG (runB 5 b_l_text)
noncomputable def b_l_policy : En → Hs → S :=
 (sRet (eLst (aCons (eBin ixD (eLst (aCons (eC (.str "off")) (aCons (eC (.str "partial")) (aCons (eC (.str "all")) aNil)))) (eCallC (posF 2 G_l_take) (cPos (aCons (eVar 0) (aCons (eC (.int 3)) aNil))))) (aCons (eCallC (posF 2 G_l_take) (cPos (aCons (eVar 0) (aCons (eC (.int 10)) aNil)))) (aCons (eCallC (posF 2 G_l_take) (cPos (aCons (eVar 0) (aCons (eC (.int 5)) aNil)))) aNil)))))
noncomputable def G_l_policy : List D → Hs → R D := runB 1 b_l_policy
noncomputable def b_l_words : En → Hs → S :=
 (sRet (eBM .str joinD (eC (.str " ")) (aCons (eComp (iSeq (eVar 0)) (kName 1) bYes (eCall strXD (aCons (eVar 1) aNil)) [1]) aNil)))
noncomputable def G_l_words : List D → Hs → R D := runB 2 b_l_words
noncomputable def b_Policy_init : En → Hs → S :=
 (sCons (sIf (eOrB (eNotB (eTru (eIsi .str [0, 1] (eVar 1)))) (eTest (eBin notInD (eVar 1) (eC (.tup [(.str "off"), (.str "partial"), (.str "all")]))))) sBad sNil)
 (sCons (sIf (eNotB (eTru (eCallC (posF 3 G_in_range) (cPos (aCons (eVar 2) (aCons (eC (.int 0)) (aCons (eC (.int 9)) aNil))))))) sBad sNil)
 (sCons (sIf (eNotB (eTru (eCallC (posF 3 G_in_range) (cPos (aCons (eVar 3) (aCons (eC (.int 0)) (aCons (eC (.int 4)) aNil))))))) sBad sNil)
 (sCons (sAttr [(0, 0)] (eVar 0) (eVar 1))
 (sCons (sAttr [(0, 1)] (eVar 0) (eVar 2))
 (sAttr [(0, 2), (2, 5)] (eVar 0) (eVar 3)))))))
noncomputable def G_Policy_init : List D → Hs → R D := runB 4 b_Policy_init
abbrev d_Policy_init_s1 : List D → List D → List D := dS [.d 0, .m 0, .m 1] [(.str "all")] [(.int 2), (.int 0)]
@[simp] theorem d_Policy_init_s1_ap {x0 : D} : d_Policy_init_s1 [x0] [] = [x0, (.str "all"), (.int 2), (.int 0)] := rfl
abbrev d_Policy_init_s2_every_quick : List D → List D → List D := dS [.k 0, .k 1] [(.str "all")] []
@[simp] theorem d_Policy_init_s2_every_quick_ap {x0 x1 y0 y1 : D} : d_Policy_init_s2_every_quick [x0, x1] [y0, y1] = [x0, x1, y0, y1] := rfl
noncomputable def b_read_policy : En → Hs → S :=
 (sCons (sIf (eNotB (eTru (eIsi .str [0, 1] (eVar 0)))) sBad sNil)
 (sCons (sAsg (eBM .str splitD (eVar 0) (aCons (eC (.str " ")) aNil)) (kName 1))
 (sCons (sIf (eOrB (eTest (eBin neD (eCall lenD (aCons (eVar 1) aNil)) (eC (.int 3)))) (eTest (eBin notInD (eBin ixD (eVar 1) (eC (.int 0))) (eC (.tup [(.str "off"), (.str "partial"), (.str "all")]))))) sBad sNil)
 (sCons (sAsg (eCallC (posF 3 G_read_number) (cPos (aCons (eBin ixD (eVar 1) (eC (.int 1))) (aCons (eC (.int 0)) (aCons (eC (.int 9)) aNil))))) (kName 2))
 (sCons (sAsg (eCallC (posF 3 G_read_number) (cPos (aCons (eBin ixD (eVar 1) (eC (.int 2))) (aCons (eC (.int 0)) (aCons (eC (.int 4)) aNil))))) (kName 3))
 (sCons (sIf (eOrB (eTest (eBin isND (eVar 2) (eC .non))) (eTest (eBin isND (eVar 3) (eC .non)))) sBad sNil)
 (sRet (eMake 0 (kwF 2 2 d_Policy_init_s2_every_quick G_Policy_init) (cKw 2 (aCons (eBin ixD (eVar 1) (eC (.int 0))) aNil) (aCons (eVar 2) (aCons (eVar 3) aNil)))))))))))
noncomputable def G_read_policy : List D → Hs → R D := runB 4 b_read_policy
noncomputable def b_l_same : En → Hs → S :=
 (sRet (eAnd (eIsi (.cls 0) [0, 1] (eVar 0)) (eBin eqD (eLst (aCons (eAttr [(0, 0)] (eVar 0)) (aCons (eAttr [(0, 1)] (eVar 0)) (aCons (eAttr [(0, 2), (2, 5)] (eVar 0)) aNil)))) (eVar 1))))
noncomputable def G_l_same : List D → Hs → R D := runB 2 b_l_same
noncomputable def b_Setting_init : En → Hs → S :=
 (sCons (sIf (eNotB (eTru (eCallC (posF 3 G_in_range) (cPos (aCons (eVar 1) (aCons (eC (.int 1)) (aCons (eC (.int 1000000000000000000)) aNil))))))) sBad sNil)
 (sCons (sIf (eOrB (eTest (eBin gtD (eCall lenD (aCons (eVar 2) aNil)) (eC (.int 2)))) (eNotB (eTru (eCall allD (aCons (eComp (iSeq (eVar 2)) (kName 4) bYes (eIsi (.cls 0) [0, 1] (eVar 4)) [4]) aNil))))) sBad sNil)
 (sCons (sAsg (eLst (aStar (eVar 2) (aStar (eVar 2) (aCons (eMake 0 (kwF 1 0 d_Policy_init_s1 G_Policy_init) cNil) (aCons (eMake 0 (kwF 1 0 d_Policy_init_s1 G_Policy_init) cNil) aNil))))) (kName 3))
 (sCons (sAttr [(1, 0)] (eVar 0) (eVar 1))
 (sAttr [(1, 1)] (eVar 0) (eTup (aCons (eBin ixD (eVar 3) (eC (.int 0))) (aCons (eBin ixD (eVar 3) (eC (.int 1))) aNil))))))))
noncomputable def G_Setting_init : List D → Hs → R D := runB 5 b_Setting_init
noncomputable def b_read_setting : En → Hs → S :=
 (sCons (sIf (eNotB (eTru (eIsi .str [0, 1] (eVar 0)))) sBad sNil)
 (sCons (sStar 1 2 (eBM .str splitD (eVar 0) (aCons (eC (.str "; ")) aNil)))
 (sCons (sAsg (eCallC (posF 3 G_read_number) (cPos (aCons (eVar 1) (aCons (eC (.int 1)) (aCons (eC (.int 1000000000000000000)) aNil))))) (kName 3))
 (sCons (sIf (eOrB (eTest (eBin isND (eVar 3) (eC .non))) (eTest (eBin neD (eCall lenD (aCons (eVar 2) aNil)) (eC (.int 2))))) sBad sNil)
 (sCons (sAsg (eComp (iSeq (eVar 2)) (kName 5) bYes (eCallC (posF 1 G_read_policy) (cPos (aCons (eVar 5) aNil))) [5]) (kName 4))
 (sRet (eMake 1 (starF 2 G_Setting_init) (cPos (aCons (eVar 3) (aStar (eVar 4) aNil))))))))))
noncomputable def G_read_setting : List D → Hs → R D := runB 6 b_read_setting
noncomputable def b_Policy_str : En → Hs → S :=
 (sRet (eJoin (jCons (eFmt fmtD (eAttr [(0, 0)] (eVar 0))) (jCons (eC (.str " ")) (jCons (eFmt fmtD (eAttr [(0, 1)] (eVar 0))) (jCons (eC (.str " ")) (jCons (eFmt fmtD (eAttr [(0, 2), (2, 5)] (eVar 0))) jNil)))))))
noncomputable def G_Policy_str : List D → Hs → R D := runB 1 b_Policy_str
noncomputable def b_Setting_str : En → Hs → S :=
 (sRet (eJoin (jCons (eFmt fmtD (eAttr [(1, 0)] (eVar 0))) (jCons (eC (.str "; ")) (jCons (eFmt (txOwn 0 (posF 1 G_Policy_str)) (eBin ixD (eAttr [(1, 1)] (eVar 0)) (eC (.int 0)))) (jCons (eC (.str "; ")) (jCons (eFmt (txOwn 0 (posF 1 G_Policy_str)) (eBin ixD (eAttr [(1, 1)] (eVar 0)) (eC (.int 1)))) jNil)))))))
noncomputable def G_Setting_str : List D → Hs → R D := runB 1 b_Setting_str
noncomputable def b_Policy_eq : En → Hs → S :=
 (sCons (sIf (eNotB (eTru (eIsi (.cls 0) [0, 1] (eVar 1)))) (sRet (eC (.bl false))) sNil)
 (sRet (eAnd (eBin eqD (eAttr [(0, 0)] (eVar 0)) (eAttr [(0, 0)] (eVar 1))) (eAnd (eBin eqD (eAttr [(0, 1)] (eVar 0)) (eAttr [(0, 1)] (eVar 1))) (eBin eqD (eAttr [(0, 2), (2, 5)] (eVar 0)) (eAttr [(0, 2), (2, 5)] (eVar 1)))))))
noncomputable def G_Policy_eq : List D → Hs → R D := runB 2 b_Policy_eq
noncomputable def b_Setting_eq : En → Hs → S :=
 (sRet (eAnd (eIsi (.cls 1) [0, 1] (eVar 1)) (eAnd (eBin eqD (eAttr [(1, 0)] (eVar 0)) (eAttr [(1, 0)] (eVar 1))) (eBin (eqTupD 0 (posF 2 G_Policy_eq)) (eAttr [(1, 1)] (eVar 0)) (eAttr [(1, 1)] (eVar 1))))))
noncomputable def G_Setting_eq : List D → Hs → R D := runB 2 b_Setting_eq
noncomputable def b_law_1 : En → Hs → S :=
 (sCons (sAsg (eCallC (posF 2 G_l_bag) (cPos (aCons (eVar 0) (aCons (eVar 1) aNil)))) (kName 2))
 (sCons (sAsg (eBin ixD (eLst (aCons (eBin addD (eC (.int 1)) (eCallC (posF 2 G_l_take) (cPos (aCons (eVar 2) (aCons (eC (.int 9)) aNil))))) (aCons (eBin addD (eC (.int 1)) (eCallC (posF 2 G_l_take) (cPos (aCons (eVar 2) (aCons (eBin powD (eC (.int 10)) (eC (.int 17))) aNil))))) aNil))) (eCallC (posF 2 G_l_take) (cPos (aCons (eVar 2) (aCons (eC (.int 2)) aNil))))) (kName 3))
 (sCons (sAsg (eCallC (posF 3 G_l_writes) (cPos (aCons (eVar 2) (aCons (eVar 3) (aCons (eBin ixD (eLst (aCons (eCallC (posF 2 G_l_take) (cPos (aCons (eVar 2) (aCons (eC (.int 5)) aNil)))) (aCons (eCallC (posF 2 G_l_take) (cPos (aCons (eVar 2) (aCons (eC (.int 41)) aNil)))) aNil))) (eCallC (posF 2 G_l_take) (cPos (aCons (eVar 2) (aCons (eC (.int 2)) aNil))))) aNil))))) (kName 4))
 (sCons (sIf (eTest (eBin eqD (eCallC (posF 2 G_l_take) (cPos (aCons (eVar 2) (aCons (eC (.int 4)) aNil)))) (eC (.int 0)))) (sAsg (eSl slD (eBin addD (eVar 4) (eBin mulD (eLst (aCons (eTup (aCons (eC (.int 1)) (aCons (eBin powD (eC (.int 10)) (eC (.int 18))) (aCons (eC (.str "push")) aNil)))) (aCons (eTup (aCons (eC (.int 0)) (aCons (eC (.int 1)) (aCons (eC (.str "more")) aNil)))) aNil))) (eC (.int 100)))) oNo (oSome (eC (.int 200)))) (kName 4)) sNil)
 (sCons (sPar 5 6 (aCons (eCallC (posF 1 G_l_text) (cPos (aCons (eVar 4) aNil))) (aCons (eCall reprD (aCons (eVar 4) aNil)) aNil)))
 (sCons (sAsg (eCallC (posF 1 G_read_conversation) (cPos (aCons (eVar 5) aNil))) (kName 7))
 (sCons (sIf (eOrB (eTest (eBin neD (eCallC (posF 1 G_show_conversation) (cPos (aCons (eVar 4) aNil))) (eVar 5))) (eOrB (eTest (eBin neD (eVar 7) (eVar 4))) (eOrB (eTest (eBin neD (eCall reprD (aCons (eVar 7) aNil)) (eVar 6))) (eTest (eBin neD (eCall reprD (aCons (eVar 4) aNil)) (eVar 6)))))) (sRet (eC (.bl false))) sNil)
 (sCons (sExpr (eBM .list appendD (eVar 7) (aCons (eC .non) aNil)))
 (sCons (sIf (eTest (eBin neD (eFree (eCallC (posF 1 G_read_conversation) (cPos (aCons (eVar 5) aNil)))) (eVar 4))) (sRet (eC (.bl false))) sNil)
 (sCons (sPar 8 9 (aCons (eCallC (posF 1 G_l_policy) (cPos (aCons (eVar 2) aNil))) (aCons (eCallC (posF 1 G_l_policy) (cPos (aCons (eVar 2) aNil))) aNil)))
 (sCons (sAsg (eBin addD (eBin addD (eBin addD (eBin addD (eCall strTD (aCons (eVar 3) aNil)) (eC (.str "; "))) (eCallC (posF 1 G_l_words) (cPos (aCons (eVar 8) aNil)))) (eC (.str "; "))) (eCallC (posF 1 G_l_words) (cPos (aCons (eVar 9) aNil)))) (kName 10))
 (sCons (sIf (eNotB (eTru (eCallC (posF 2 G_l_same) (cPos (aCons (eCallC (posF 1 G_read_policy) (cPos (aCons (eCallC (posF 1 G_l_words) (cPos (aCons (eVar 8) aNil))) aNil))) (aCons (eVar 8) aNil)))))) (sRet (eC (.bl false))) sNil)
 (sCons (sAsg (eCallC (posF 1 G_read_setting) (cPos (aCons (eVar 10) aNil))) (kName 11))
 (sCons (sIf (eOrB (eNotB (eTru (eIsi (.cls 1) [0, 1] (eVar 11)))) (eOrB (eTest (eBin neD (eAttr [(1, 0)] (eVar 11)) (eVar 3))) (eTest (eBin neD (eCall (txOwnD 1 (posF 1 G_Setting_str)) (aCons (eVar 11) aNil)) (eVar 10))))) (sRet (eC (.bl false))) sNil)
 (sCons (sIf (eOrB (eNotB (eTru (eCallC (posF 2 G_l_same) (cPos (aCons (eBin ixD (eAttr [(1, 1)] (eVar 11)) (eC (.int 0))) (aCons (eVar 8) aNil)))))) (eNotB (eTru (eCallC (posF 2 G_l_same) (cPos (aCons (eBin ixD (eAttr [(1, 1)] (eVar 11)) (eC (.int 1))) (aCons (eVar 9) aNil))))))) (sRet (eC (.bl false))) sNil)
 (sIf (eOrB (eTest (eBin (neOwnD 1 (posF 2 G_Setting_eq)) (eCallC (posF 1 G_read_setting) (cPos (aCons (eCall (txOwnD 1 (posF 1 G_Setting_str)) (aCons (eMake 1 (starF 2 G_Setting_init) (cPos (aCons (eVar 3) aNil))) aNil)) aNil))) (eMake 1 (starF 2 G_Setting_init) (cPos (aCons (eVar 3) aNil))))) (eTest (eBin (neOwnD 0 (posF 2 G_Policy_eq)) (eCallC (posF 1 G_read_policy) (cPos (aCons (eCall (txOwnD 0 (posF 1 G_Policy_str)) (aCons (eMake 0 (kwF 1 0 d_Policy_init_s1 G_Policy_init) cNil) aNil)) aNil))) (eMake 0 (kwF 1 0 d_Policy_init_s1 G_Policy_init) cNil)))) (sRet (eC (.bl false))) sNil))))))))))))))))
noncomputable def b_law : En → Hs → S :=
 (sCons (sIf (eOrB (eTest (eBin neD (eCallC (posF 1 G_show_conversation) (cPos (aCons (eLst aNil) aNil))) (eC (.str "")))) (eTest (eBin neD (eFree (eCallC (posF 1 G_read_conversation) (cPos (aCons (eC (.str "")) aNil)))) (eLst aNil)))) (sRet (eC (.bl false))) sNil)
 (sCons (sIf (eTest (eBin neD (eFree (eCallC (posF 1 G_read_conversation) (cPos (aCons (eC (.str "0 5; 1 7 more; 0 10 push")) aNil)))) (eLst (aCons (eTup (aCons (eC (.int 0)) (aCons (eC (.int 5)) (aCons (eC (.str "plain")) aNil)))) (aCons (eTup (aCons (eC (.int 1)) (aCons (eC (.int 7)) (aCons (eC (.str "more")) aNil)))) (aCons (eTup (aCons (eC (.int 0)) (aCons (eC (.int 10)) (aCons (eC (.str "push")) aNil)))) aNil)))))) (sRet (eC (.bl false))) sNil)
 (sCons (sFor (iRange1 (aCons (eCall maxD (aCons (eC (.int 2)) (aCons (eCall minD (aCons (eC (.int 6)) (aCons (eCall lenD (aCons (eVar 0) aNil)) aNil))) aNil))) aNil)) (kName 1) b_law_1)
 (sRet (eC (.bl true))))))
noncomputable def G_law : List D → Hs → R D := runB 12 b_law
end Ev
set_option Elab.async false
set_option linter.all false
set_option maxRecDepth 100000
set_option maxHeartbeats 4000000
namespace Ev
open PySem L2
/-! ### cells -/
@[simp] theorem cellL_set {h : Hs} {n : Nat} {xs : List D} (e : n < h.length) : cellL (h.set n (.lst xs)) n = some xs := by
  unfold cellL
  simp [e]
theorem cellL_lt {h : Hs} {n : Nat} {xs : List D} (e : cellL h n = some xs) : n < h.length := by
  have := cellL_ok e
  exact (List.getElem?_eq_some_iff.mp this).1
theorem ixD_ref {h : Hs} {n : Nat} {xs : List D} {k : Int} (e : cellL h n = some xs) : ixD (.ref n) (.int k) h = match atI xs k with
  | some d => .ok d h
  | none => .bad := by
  show (match rdL h (.ref n) with
    | some xs => (match atI xs k with
      | some d => R.ok d h
      | none => .bad)
    | none => .bad) = _
  rw [show rdL h (.ref n) = cellL h n from rfl, e]
theorem setIx_ref {h : Hs} {n : Nat} {xs : List D} {k : Int} {j : Nat} {z : D} (e : cellL h n = some xs) (e2 : ixN xs.length k = some j) : setIx (.ref n) (.int k) z h = some (h.set n (.lst (xs.set j z))) := by
  unfold setIx
  simp [e, e2]
/-! ### the bag -/
structure BagS where
  a : Int
  b : Int
  c : Int
def BagS.o (s : BagS) : O := .lst [.int s.a, .int s.b, .int s.c]
structure BagS.Ok (s : BagS) (k : Int) : Prop where
  a0 : 0 ≤ s.a
  b0 : 0 ≤ s.b
  b1 : s.b < 4611686018427387904
  c0 : 0 ≤ s.c
  c1 : s.c ≤ k
def Bag (k : Int) (h : Hs) (n : Nat) : Prop := ∃ s : BagS, h[n]? = some s.o ∧ s.Ok k
theorem bag_cell {h : Hs} {n : Nat} {s : BagS} (e : h[n]? = some s.o) : cellL h n = some [.int s.a, .int s.b, .int s.c] := by
  unfold cellL
  rw [e]
  rfl
theorem bag_set {h : Hs} {n : Nat} {s t : BagS} (e : h[n]? = some s.o) : (h.set n t.o)[n]? = some t.o := by
  have := (List.getElem?_eq_some_iff.mp e).1
  simp [this]
noncomputable def takeC : En → Hs → R Bool := eTest (eBin ltD (eVar 4) (eVar 1))
noncomputable def takeB : En → Hs → S := (sCons (sSetIx (eVar 0) (eC (.int 2)) (eBin addD (eBin ixD (eVar 0) (eC (.int 2))) (eC (.int 1))))
 (sCons (sSetIx (eVar 0) (eC (.int 1)) (eBin modD (eCall intTD (aCons (eBin addD (eBin addD (eBin mulD (eBin ixD (eVar 0) (eC (.int 1))) (eC (.int 40014))) (eBin mulD (eBin mulD (eC (.int 7919)) (eBin ixD (eVar 0) (eC (.int 2)))) (eBin ixD (eVar 0) (eC (.int 2))))) (eC (.int 83))) aNil)) (eC (.int 2147483563))))
 (sCons (sAsg (eBin modD (eCall intTD (aCons (eBin mulD (eBin fdivD (eBin ixD (eVar 0) (eC (.int 1))) (eC (.int 7))) (eBin addD (eBin fdivD (eBin ixD (eVar 0) (eC (.int 1))) (eC (.int 131))) (eBin ixD (eVar 0) (eC (.int 2))))) aNil)) (eC (.int 2147483399))) (kName 5))
 (sCons (sAsg (eBin addD (eBin mulD (eVar 3) (eC (.int 33554432))) (eBin modD (eCall intTD (aCons (eBin fdivD (eVar 5) (eC (.int 64))) aNil)) (eC (.int 33554432)))) (kName 3))
 (sAsg (eBin mulD (eVar 4) (eC (.int 33554432))) (kName 4))))))
theorem take_body {h : Hs} {n : Nat} {s : BagS} {k many found reach : Int} {x2 x5 : Option D} (e : h[n]? = some s.o) (ok : s.Ok k) (hk : k < 1152921504606846976) (hf : 0 ≤ found) :
    ∃ (t : BagS) (found' : Int) (y : Int), takeB [some (.ref n), some (.int many), x2, some (.int found), some (.int reach), x5] h = .nx [some (.ref n), some (.int many), x2, some (.int found'), some (.int (reach * 33554432)), some (.int y)] (h.set n t.o) ∧ t.Ok (k + 1) ∧ 0 ≤ found' := by
  obtain ⟨a0, b0, b1, c0, c1⟩ := ok
  have hl : n < h.length := (List.getElem?_eq_some_iff.mp e).1
  have e1 := bag_cell e
  let b' : Int := (s.b * 40014 + 7919 * (s.c + 1) * (s.c + 1) + 83) % 2147483563
  let y : Int := (b' / 7 * (b' / 131 + (s.c + 1))) % 2147483399
  have hb0 : 0 ≤ b' := Int.emod_nonneg _ (by decide)
  have hb1 : b' < 2147483563 := Int.emod_lt_of_pos _ (by decide)
  have st1 : (h.set n (.lst [.int s.a, .int s.b, .int (s.c + 1)]))[n]? = some (BagS.mk s.a s.b (s.c + 1)).o := by simp [hl, BagS.o]
  have e2 := bag_cell st1
  have st2 : (h.set n (.lst [.int s.a, .int b', .int (s.c + 1)]))[n]? = some (BagS.mk s.a b' (s.c + 1)).o := by simp [hl, BagS.o]
  have e3 := bag_cell st2
  refine ⟨⟨s.a, b', s.c + 1⟩, found * 33554432 + y / 64 % 33554432, y, ?_, ⟨a0, hb0, by show b' < _; omega, by show 0 ≤ s.c + 1; omega, by show s.c + 1 ≤ k + 1; omega⟩, ?_⟩
  · have m1 : mulD (.int s.b) (.int 40014) (h.set n (.lst [.int s.a, .int s.b, .int (s.c + 1)])) = .ok (.int (s.b * 40014)) _ := mul_r (by decide) (by decide)
    have m2 : mulD (.int 7919) (.int (s.c + 1)) (h.set n (.lst [.int s.a, .int s.b, .int (s.c + 1)])) = .ok (.int (7919 * (s.c + 1))) _ := mul_l (by decide) (by decide)
    have m3 : mulD (.int (7919 * (s.c + 1))) (.int (s.c + 1)) (h.set n (.lst [.int s.a, .int s.b, .int (s.c + 1)])) = .ok (.int (7919 * (s.c + 1) * (s.c + 1))) _ := mul_r (by omega) (by omega)
    have m4 : mulD (.int (b' / 7)) (.int (b' / 131 + (s.c + 1))) (h.set n (.lst [.int s.a, .int b', .int (s.c + 1)])) = .ok (.int (b' / 7 * (b' / 131 + (s.c + 1)))) _ := mul_l (by omega) (by omega)
    have m5 : ∀ h', mulD (.int found) (.int 33554432) h' = .ok (.int (found * 33554432)) h' := fun h' => mul_r (by decide) (by decide)
    have m6 : ∀ h', mulD (.int reach) (.int 33554432) h' = .ok (.int (reach * 33554432)) h' := fun h' => mul_r (by decide) (by decide)
    have d1 : ∀ (x : Int) h', fdivD (.int x) (.int 7) h' = .ok (.int (x / 7)) h' := fun x h' => fdiv_sm (by decide) (by decide)
    have d2 : ∀ (x : Int) h', fdivD (.int x) (.int 131) h' = .ok (.int (x / 131)) h' := fun x h' => fdiv_sm (by decide) (by decide)
    have d3 : ∀ (x : Int) h', fdivD (.int x) (.int 64) h' = .ok (.int (x / 64)) h' := fun x h' => fdiv_sm (by decide) (by decide)
    have q1 : ∀ (x : Int) h', modD (.int x) (.int 2147483563) h' = .ok (.int (x % 2147483563)) h' := fun x h' => mod_ok (by decide)
    have q2 : ∀ (x : Int) h', modD (.int x) (.int 2147483399) h' = .ok (.int (x % 2147483399)) h' := fun x h' => mod_ok (by decide)
    have q3 : ∀ (x : Int) h', modD (.int x) (.int 33554432) h' = .ok (.int (x % 33554432)) h' := fun x h' => mod_ok (by decide)
    have w1 : setIx (.ref n) (.int 2) (.int (s.c + 1)) h = some (h.set n (.lst [.int s.a, .int s.b, .int (s.c + 1)])) := setIx_ref e1 (j := 2) rfl
    have w2 : setIx (.ref n) (.int 1) (.int b') (h.set n (.lst [.int s.a, .int s.b, .int (s.c + 1)])) = some (h.set n (.lst [.int s.a, .int b', .int (s.c + 1)])) := by
      rw [setIx_ref e2 (j := 1) rfl]
      simp
    have w1' := w1
    have w2' := w2
    unfold takeB
    simp only [sCons_ap, sSetIx_ap, eBin_ap, eVar_ap, eC_ap, List.getElem?_cons_zero, List.getElem?_cons_succ, R.bind_ok, ixD_ref e1, atI_2, addD_int, R.toS_ok, w1, S.seq_nx, ixD_ref e2, atI_1, m1, m2, m3, eCall_ap, aCons_ap, aNil_ap, intTD_int, q1,
      sAsg_ap, kName_ap]
    rw [show (s.b * 40014 + 7919 * (s.c + 1) * (s.c + 1) + 83) % 2147483563 = b' from rfl, w2]
    simp only [S.seq_nx, sCons_ap, sAsg_ap, eBin_ap, eVar_ap, eC_ap, List.getElem?_cons_zero, List.getElem?_cons_succ, R.bind_ok, ixD_ref e3, atI_1, atI_2, d1, d2, d3, addD_int, m4, eCall_ap, aCons_ap, aNil_ap, intTD_int, q2, R.toS_ok, kName_ap, List.set_cons_zero, List.set_cons_succ, m5, q3, m6]
    rfl
  · have := Int.emod_nonneg (y / 64) (show (33554432 : Int) ≠ 0 by decide)
    omega
theorem take_loop {n : Nat} {many : Int} {x2 : Option D} : ∀ (j : Nat) {h : Hs} {s : BagS} {k found reach : Int} {x5 : Option D}, h[n]? = some s.o → s.Ok k → k + j < 1152921504606846976 → 0 ≤ found → 0 < reach → many ≤ reach * 33554432 ^ j →
    ∃ (t : BagS) (found' reach' : Int) (y : Option D), sWhile takeC takeB [some (.ref n), some (.int many), x2, some (.int found), some (.int reach), x5] h = .nx [some (.ref n), some (.int many), x2, some (.int found'), some (.int reach'), y] (h.set n t.o) ∧ t.Ok (k + j) ∧ 0 ≤ found'
  | 0, h, s, k, found, reach, x5, e, ok, hk, hf, hr, hm => by
    refine ⟨s, found, reach, x5, ?_, by simpa using ok, hf⟩
    rw [sWhile_unroll]
    have hlt : ¬ reach < many := by simp at hm; omega
    have hs : h.set n s.o = h := by
      obtain ⟨hl, e'⟩ := List.getElem?_eq_some_iff.mp e
      rw [← e']; simp
    rw [hs]
    simp [takeC, hlt]
  | j + 1, h, s, k, found, reach, x5, e, ok, hk, hf, hr, hm => by
    by_cases hlt : reach < many
    · obtain ⟨t, f1, y1, h1, h2, h3⟩ := take_body (x2 := x2) (x5 := x5) (many := many) (reach := reach) e ok (by push_cast at hk; omega) hf
      obtain ⟨t2, f2, r2, y2, h4, h5, h6⟩ := take_loop j (h := h.set n t.o) (s := t) (k := k + 1) (found := f1) (reach := reach * 33554432) (x5 := some (.int y1)) (x2 := x2) (many := many) (bag_set e) h2 (by push_cast at hk; omega) h3 (by omega) (by
        rw [Int.pow_succ, Int.mul_comm (33554432 ^ j) 33554432, ← Int.mul_assoc] at hm; exact hm)
      refine ⟨t2, f2, r2, y2, ?_, by push_cast; rw [show k + ((j : Int) + 1) = k + 1 + j by omega]; exact h5, h6⟩
      rw [sWhile_unroll]
      have hc : takeC [some (.ref n), some (.int many), x2, some (.int found), some (.int reach), x5] h = .ok true h := by simp [takeC, hlt]
      rw [hc, R.toS_ok, if_pos rfl, h1]
      dsimp only
      rw [h4, List.set_set]
    · refine ⟨s, found, reach, x5, ?_, ⟨ok.a0, ok.b0, ok.b1, ok.c0, by have := ok.c1; push_cast; omega⟩, hf⟩
      have hs : h.set n s.o = h := by
        obtain ⟨hl, e'⟩ := List.getElem?_eq_some_iff.mp e
        rw [← e']; simp
      rw [sWhile_unroll, hs]
      simp [takeC, hlt]
/-- one number drawn -/
theorem take_ok {n : Nat} {many k : Int} {h : Hs} (hb : Bag k h n) (hk : k < 1152921504606846970) (h0 : 0 < many) (h1 : many ≤ 37778931862957161709568) :
    ∃ (r : Int) (t : BagS), G_l_take [.ref n, .int many] h = .ok (.int r) (h.set n t.o) ∧ 0 ≤ r ∧ r < many ∧ Bag (k + 3) (h.set n t.o) n := by
  obtain ⟨s, e, ok⟩ := hb
  have e1 := bag_cell e
  have hl : n < h.length := (List.getElem?_eq_some_iff.mp e).1
  by_cases ha : 0 < s.a
  · refine ⟨s.a % many, ⟨s.a / many, s.b, s.c⟩, ?_, Int.emod_nonneg _ (by omega), Int.emod_lt_of_pos _ h0, ⟨_, bag_set e, ⟨Int.ediv_nonneg ok.a0 (by omega), ok.b0, ok.b1, ok.c0, by show s.c ≤ k + 3; have := ok.c1; omega⟩⟩⟩
    refine runB_ret ?_
    have w1 : setIx (.ref n) (.int 0) (.int (s.a / many)) h = some (h.set n (BagS.mk (s.a / many) s.b s.c).o) := setIx_ref e1 (j := 0) rfl
    have f1 : fdivD (.int s.a) (.int many) h = .ok (.int (s.a / many)) h := fdiv_ok h0 (Int.lt_of_le_of_lt h1 (by decide +kernel))
    simp [b_l_take, ixD_ref e1, ha, mod_ok h0, f1, w1]
  · obtain ⟨t, f', r', y, g1, g2, g3⟩ := take_loop (n := n) (many := many) (x2 := none) 3 (h := h) (s := s) (k := k) (found := 0) (reach := 1) (x5 := none) e ok (by push_cast; omega) (Int.le_refl _) (by decide) (by omega)
    refine ⟨f' % many, t, ?_, Int.emod_nonneg _ (by omega), Int.emod_lt_of_pos _ h0, ⟨t, bag_set e, g2⟩⟩
    refine runB_ret ?_
    have g1' : sWhile takeC takeB [some (.ref n), some (.int many), none, some (.int 0), some (.int 1), none] h = _ := g1
    unfold takeC takeB at g1'
    simp [b_l_take, ixD_ref e1, ha, big, g1', mod_ok h0]
end Ev
set_option Elab.async false
set_option linter.all false
set_option maxRecDepth 100000
set_option maxHeartbeats 4000000
namespace Ev
open PySem L2
theorem BagS.Ok.mono {s : BagS} {k k' : Int} (h : s.Ok k) (l : k ≤ k') : s.Ok k' := ⟨h.a0, h.b0, h.b1, h.c0, by have := h.c1; omega⟩
theorem bag_ok {n : Nat} {k : Int} {h : Hs} {t : BagS} (hn : n < h.length) (c : Bag k (h.set n t.o) n) : t.Ok k := by
  obtain ⟨t', g1, g2⟩ := c
  have : t' = t := by
    rw [List.getElem?_set_self hn] at g1
    have z := Option.some.inj g1
    unfold BagS.o at z
    injection z with z
    obtain ⟨x1, x2, x3⟩ := t
    obtain ⟨y1, y2, y3⟩ := t'
    simp at z
    obtain ⟨rfl, rfl, rfl⟩ := z
    rfl
  rw [← this]
  exact g2
theorem take_get {n : Nat} {many k : Int} {h : Hs} {s : BagS} (hn : n < h.length) (ok : s.Ok k) (hk : k < 1152921504606846970) (h0 : 0 < many) (h1 : many ≤ 37778931862957161709568) :
    ∃ (r : Int) (t : BagS), G_l_take [.ref n, .int many] (h.set n s.o) = .ok (.int r) (h.set n t.o) ∧ 0 ≤ r ∧ r < many ∧ t.Ok (k + 3) := by
  have hb : Bag k (h.set n s.o) n := ⟨s, by simp [hn], ok⟩
  obtain ⟨r, t, e, a, b, c⟩ := take_ok hb hk h0 h1
  rw [List.set_set] at e c
  exact ⟨r, t, e, a, b, bag_ok hn c⟩
theorem take_sat {n : Nat} {many k : Int} {h : Hs} {s : BagS} {Q : D → Hs → Prop} {E : Nat → List D → Hs → Prop} (hn : n < h.length) (ok : s.Ok k) (hk : k < 1152921504606846970) (h0 : 0 < many) (h1 : many ≤ 37778931862957161709568)
    (q : ∀ (r : Int) (t : BagS), 0 ≤ r → r < many → t.Ok (k + 3) → Q (.int r) (h.set n t.o)) : R.Sat (G_l_take [.ref n, .int many] (h.set n s.o)) Q E := by
  obtain ⟨r, t, e, a, b, c⟩ := take_get hn ok hk h0 h1
  exact R.sat_of e (q r t a b c)
/-- numbers, told one by one -/
theorem ints_of {P : Int → Prop} : ∀ {vs : List D}, (∀ v ∈ vs, ∃ l : Int, v = .int l ∧ P l) → ∃ ls : List Int, vs = ls.map D.int ∧ ∀ l ∈ ls, P l
  | [], _ => ⟨[], rfl, by simp⟩
  | v :: vs, h => by
    obtain ⟨l, rfl, hl⟩ := h v List.mem_cons_self
    obtain ⟨ls, rfl, hls⟩ := ints_of (vs := vs) fun u hu => h u (List.mem_cons_of_mem _ hu)
    exact ⟨l :: ls, rfl, by
      intro x hx
      rcases List.mem_cons.mp hx with rfl | z
      · exact hl
      · exact hls x z⟩
theorem bag_nr {s : BagS} {n : Nat} : O.nr n s.o = true := by simp [O.nr, BagS.o, D.nrs, D.nr]
/-- elements drawn in a comprehension -/
theorem compH_draw {fi : En → Hs → R Src} {n : Nat} {k : D → En → Option En} {fe : En → Hs → R D} {env : En} {own : List Nat} {P : D → Prop} {step kk : Int} {h h0 : Hs} {s : BagS} {xs : List D} {Q : D → Hs → Prop} {E : Nat → List D → Hs → Prop} (hn : n < h.length) (ok : s.Ok kk)
    (hi : fi env h0 = .ok (xs, []) (h.set n s.o))
    (hf : ∀ (x : D) (e1 : En) (kk : Int) (h' : Hs) (s : BagS), x ∈ xs → k x (wipeE env own) = some e1 → kk < 1000000000000000 → n < h'.length → s.Ok kk → R.Sat (fe e1 (h'.set n s.o)) (fun v h2 => P v ∧ ∃ t : BagS, h2 = h'.set n t.o ∧ t.Ok (kk + step)) noE)
    (hk : ∀ x ∈ xs, ∃ e1, k x (wipeE env own) = some e1) (hp : ∀ v m, P v → D.nr m v = true) (hs0 : 0 ≤ step) (hs1 : step ≤ 1000) (hkk : kk + 1000 * xs.length < 1000000000000000) (hl : xs.length < 10000)
    (q : ∀ (vs : List D) (t : BagS), vs.length = xs.length → (∀ v ∈ vs, P v) → t.Ok (kk + step * xs.length) → Q (.lst vs) (h.set n t.o)) : R.Sat (eCompH fi k bYes fe own env h0) Q E := by
  have core : ∀ (ys acc : List D) (kk : Int) (s : BagS), (∀ x ∈ ys, x ∈ xs) → kk + 1000 * ys.length < 1000000000000000 → acc.length + ys.length < 10000 → s.Ok kk →
      ∃ (vs : List D) (t : BagS), compG h.length [] k bYes fe (wipeE env own) ys acc ((h ++ [O.lst acc]).set n s.o) = .ok (acc ++ vs) ((h ++ [O.lst (acc ++ vs)]).set n t.o) ∧ vs.length = ys.length ∧ (∀ v ∈ vs, P v) ∧ t.Ok (kk + step * ys.length) := by
    intro ys
    induction ys with
    | nil =>
      intro acc kk s _ _ _ ok
      refine ⟨[], s, ?_, rfl, by simp, by simpa using ok⟩
      rw [compG, if_pos ⟨Kept_nil _ ▸ trivial, by rw [cellL_ne (by omega)]; simp [cellL_last]⟩, List.append_nil]
    | cons x ys ih =>
      intro acc kk s hx hkk hl ok
      simp at hkk hl
      obtain ⟨e1, g1⟩ := hk x (hx x List.mem_cons_self)
      obtain ⟨v, h2, g2, g3, t, rfl, g4⟩ := (hf x e1 kk (h ++ [O.lst acc]) s (hx x List.mem_cons_self) g1 (by omega) (by simp; omega) ok).get
      obtain ⟨vs, t', i1, i2, i3, i4⟩ := ih (acc ++ [v]) (kk + step) t (fun y hy => hx y (List.mem_cons_of_mem _ hy)) (by omega) (by simp; omega) g4
      refine ⟨v :: vs, t', ?_, by simp [i2], by
        intro u hu
        rcases List.mem_cons.mp hu with rfl | z
        · exact g3
        · exact i3 u z, ?_⟩
      · have hset : ((h ++ [O.lst acc]).set n t.o).set h.length (.lst (acc ++ [v])) = (h ++ [O.lst (acc ++ [v])]).set n t.o := by
          rw [List.set_comm _ _ (by omega)]
          congr 1
          simp
        rw [compG, if_pos (Kept_nil _ ▸ trivial), g1]
        dsimp only
        rw [bYes_ap, noErr_ok, R.bind_ok, if_pos rfl, g2, noErr_ok, R.bind_ok, if_pos ⟨by rw [cellL_ne (by omega)]; simp [cellL_last], Nat.lt_trans (by omega : acc.length < 10000) (by decide)⟩, hset, i1]
        simp
      · refine i4.mono ?_
        rw [List.length_cons]
        push_cast
        rw [Int.mul_add, Int.mul_one]
        omega
  obtain ⟨vs, t, i1, i2, i3, i4⟩ := core xs [] kk s (fun _ z => z) hkk (by simpa using hl) ok
  unfold eCompH
  rw [hi]
  simp only [R.bind_ok, List.length_set]
  rw [push_set hn, i1]
  simp only [R.bind_ok, List.nil_append]
  have hnr : D.nrs h.length vs = true := by
    clear i1 i2 i4 q
    induction vs with
    | nil => rw [D.nrs]
    | cons v vs ih => rw [D.nrs, hp v _ (i3 v List.mem_cons_self), ih (fun u hu => i3 u (List.mem_cons_of_mem _ hu))]; rfl
  have hch : Chg h.length (h.set n s.o) ((h ++ [O.lst vs]).set n t.o) := by
    refine ⟨by simp, fun i o hi e => ?_⟩
    by_cases z : n = i
    · subst z
      rw [List.getElem?_set_self (by simp; omega)] at e
      cases e
      exact .inr bag_nr
    · rw [List.getElem?_set_ne z, List.getElem?_append_left hi] at e
      rw [List.getElem?_set_ne z]
      exact .inl e
  rw [if_pos ⟨by simpa using hnr, by simpa using hch⟩]
  have ht : ((h ++ [O.lst vs]).set n t.o).take h.length = h.set n t.o := by
    rw [List.set_append_left _ _ hn, List.take_append_of_le_length (by simp), List.take_of_length_le (by simp)]
  rw [ht]
  exact .ok (q vs t i2 i3 i4)
end Ev
set_option Elab.async false
set_option linter.all false
set_option maxRecDepth 100000
set_option maxHeartbeats 4000000
namespace Ev
open PySem L2
theorem pow_ok {a b : Int} {h : Hs} (h1 : 0 ≤ b) (h2 : b ≤ 1000000) (h3 : a.natAbs < 18446744073709551616) : powD (.int a) (.int b) h = .ok (.int (a ^ b.toNat)) h := by
  show (match (if 0 ≤ b ∧ b ≤ 1000000 ∧ a.natAbs < 2 ^ 64 then some (D.int (a ^ b.toNat)) else none) with
    | some d => R.ok d h
    | none => .bad) = _
  rw [if_pos ⟨h1, h2, h3⟩]
@[simp] theorem pow18 {h : Hs} : powD (.int 10) (.int 18) h = .ok (.int 1000000000000000000) h := by rw [pow_ok (by decide) (by decide) (by decide)]; rfl
@[simp] theorem pow17 {h : Hs} : powD (.int 10) (.int 17) h = .ok (.int 100000000000000000) h := by rw [pow_ok (by decide) (by decide) (by decide)]; rfl
@[simp] theorem pow15 {h : Hs} : powD (.int 10) (.int 15) h = .ok (.int 1000000000000000) h := by rw [pow_ok (by decide) (by decide) (by decide)]; rfl
@[simp] theorem pow4 {h : Hs} : powD (.int 10) (.int 4) h = .ok (.int 10000) h := by rw [pow_ok (by decide) (by decide) (by decide)]; rfl
@[simp] theorem pow5 {h : Hs} : powD (.int 10) (.int 5) h = .ok (.int 100000) h := by rw [pow_ok (by decide) (by decide) (by decide)]; rfl
theorem bag_eq {ns : List Int} {at_ : Nat} {h : Hs} (ha : at_ < 64) : ∃ o : BagS, G_l_bag [.rol (ns.map D.int), .int at_] h = .ok (.ref h.length) (h ++ [o.o]) ∧ o.Ok 0 := by
  have fin : ∀ cell : Int, ∃ o : BagS, eLstM (aCons (eVar 3) (aCons (eBin addD (eBin addD (eBin modD (eCall intTD (aCons (eVar 2) aNil)) (eC (.int 2147483563))) (eBin mulD (eC (.int 40009)) (eVar 1))) (eC (.int 61))) (aCons (eC (.int 0)) aNil)))
      [some (.rol (ns.map D.int)), some (.int at_), some (.int cell), some (.int ((if cell < 0 then -cell else cell) * (if 1000000000000000000 ≤ (if cell < 0 then -cell else cell) then 1 else 0)))] h = .ok (.ref h.length) (h ++ [o.o]) ∧ o.Ok 0 := fun cell => by
    have m : mulD (.int 40009) (.int at_) h = .ok (.int (40009 * at_)) h := mul_l (by decide) (by decide)
    have q : modD (.int cell) (.int 2147483563) h = .ok (.int (cell % 2147483563)) h := mod_ok (by decide)
    refine ⟨⟨(if cell < 0 then -cell else cell) * (if 1000000000000000000 ≤ (if cell < 0 then -cell else cell) then 1 else 0), cell % 2147483563 + 40009 * at_ + 61, 0⟩, by simp [m, q, BagS.o, big], ⟨?_, ?_, ?_, Int.le_refl _, Int.le_refl _⟩⟩
    · show 0 ≤ (if cell < 0 then -cell else cell) * (if 1000000000000000000 ≤ (if cell < 0 then -cell else cell) then 1 else 0)
      exact Int.mul_nonneg (by split <;> omega) (by split <;> omega)
    · have := Int.emod_nonneg cell (show (2147483563 : Int) ≠ 0 by decide)
      show 0 ≤ cell % 2147483563 + 40009 * at_ + 61
      omega
    · have := Int.emod_lt_of_pos cell (show (0 : Int) < 2147483563 by decide)
      show cell % 2147483563 + 40009 * at_ + 61 < _
      omega
  have m2 : ∀ (x : Int) (c : Prop) [Decidable c] h', mulD (.int x) (.int (if c then 1 else 0)) h' = .ok (.int (x * (if c then 1 else 0))) h' := fun x c _ h' => mul_r (by split <;> decide) (by split <;> decide)
  by_cases hl : at_ < ns.length
  · obtain ⟨o, e, ok⟩ := fin ns[at_]
    refine ⟨o, runB_ret ?_, ok⟩
    have hl' : (at_ : Int) < ns.length := by omega
    have hc : atI (ns.map D.int) (at_ : Int) = some (.int ns[at_]) := by rw [atI_nat]; simp [hl]
    simp only [eLstM_ap] at e
    simp [b_l_bag, hl', hc, m2] at e ⊢
    simp [e]
  · obtain ⟨o, e, ok⟩ := fin 0
    refine ⟨o, runB_ret ?_, ok⟩
    have hl' : ¬ (at_ : Int) < ns.length := by omega
    have m0 : ∀ h', mulD (.int 0) (.int 0) h' = .ok (.int 0) h' := fun h' => mul_r (by decide) (by decide)
    simp [m0] at e
    simp [b_l_bag, hl', m2, m0]
    simp [e]
theorem bag_sat {ns : List Int} {at_ : Nat} {h : Hs} {Q : D → Hs → Prop} {E : Nat → List D → Hs → Prop} (ha : at_ < 64) (q : ∀ (h1 : Hs) (n : Nat) (s : BagS), n < h1.length → s.Ok 0 → Q (.ref n) (h1.set n s.o)) : R.Sat (G_l_bag [.rol (ns.map D.int), .int at_] h) Q E := by
  obtain ⟨o, e, ok⟩ := bag_eq (ns := ns) (at_ := at_) (h := h) ha
  rw [e]
  have := q (h ++ [o.o]) h.length o (by simp) ok
  exact .ok (by simpa using this)
end Ev
set_option Elab.async false
set_option linter.all false
set_option maxRecDepth 100000
set_option maxHeartbeats 4000000
namespace Ev
open PySem L2
inductive Hold where
  | off | part | all
deriving DecidableEq
def Hold.s : Hold → Str
  | .off => "off"
  | .part => "partial"
  | .all => "all"
@[simp] theorem hs_off (x : Hold) : (x.s = Str.ofString "off") = (x = .off) := by cases x <;> decide +kernel
@[simp] theorem hs_part (x : Hold) : (x.s = Str.ofString "partial") = (x = .part) := by cases x <;> decide +kernel
@[simp] theorem hs_all (x : Hold) : (x.s = Str.ofString "all") = (x = .all) := by cases x <;> decide +kernel
structure Pt where
  rest : Int
  kept : Bool
  blocked : Bool
  stuck : Bool
  pending : Int
  quick : Int
def Pt.l (p : Pt) : List D := [.int p.rest, .bl p.kept, .bl p.blocked, .bl p.stuck, .int p.pending, .int p.quick]
abbrev Pt.d (p : Pt) : D := .tup p.l
abbrev Pt.o (p : Pt) : D := .obj 2 p.l
structure Rl where
  size : Int
  hold : Hold
  every : Int
def Rl.d (r : Rl) : D := .tup [.int r.size, .str r.hold.s, .int r.every]
def partialP (r : Rl) (p : Pt) : Pt × Int := if 0 < p.quick then (⟨0, false, !decide (r.hold = .off), false, 0, p.quick - 1⟩, 1) else (⟨0, false, !decide (r.hold = .off), !decide (r.hold = .off), p.pending, 0⟩, 0)
def soonP (p : Pt) (many : Int) : Int := if many < p.quick then many else p.quick
def pend0P (p : Pt) (many : Int) : Int := if 0 < soonP p many then 0 else p.pending
def pendP (r : Rl) (p : Pt) (many : Int) : Int := if 0 < r.every then (pend0P p many + (many - soonP p many)) % r.every else pend0P p many
def toldP (r : Rl) (p : Pt) (many : Int) : Int := if 0 < r.every then soonP p many + (pend0P p many + (many - soonP p many)) / r.every else soonP p many
def stuckP (r : Rl) (p : Pt) (many : Int) : Bool := match r.hold with
  | .all => decide (soonP p many < many) && (decide (r.every = 0) || decide (0 < pendP r p many))
  | .part => p.stuck && decide (toldP r p many = 0)
  | .off => p.stuck
def fullP (r : Rl) (p : Pt) (many : Int) : Pt × Int := if many = 0 then (p, 0) else (⟨p.rest, p.kept, p.blocked || decide (r.hold = .all), stuckP r p many, pendP r p many, p.quick - soonP p many⟩, toldP r p many)
end Ev
set_option Elab.async false
set_option linter.all false
set_option maxRecDepth 100000
set_option maxHeartbeats 4000000
namespace Ev
open PySem L2
theorem sIx_nat {n d k : Nat} (hk : k ≤ n) : HT.sIx n d (some (k : Int)) = k := by
  unfold HT.sIx
  simp
  rw [if_neg (by omega)]
  omega
theorem cutD_from {xs : List D} {k : Nat} (hk : k ≤ xs.length) : cutD xs (some (k : Int)) none = xs.drop k := by
  unfold cutD
  rw [sIx_nat hk, show HT.sIx xs.length xs.length none = xs.length from rfl]
  apply List.take_of_length_le
  simp
theorem cutD_to {xs : List D} {k : Nat} (hk : k ≤ xs.length) : cutD xs none (some (k : Int)) = xs.take k := by
  unfold cutD
  rw [sIx_nat hk, show HT.sIx xs.length 0 none = 0 from rfl]
  simp
theorem cut2 {a b c d e f : D} : cutD [a, b, c, d, e, f] (some 2) none = [c, d, e, f] := cutD_from (k := 2) (by simp)
theorem cut4 {a b c d e f : D} : cutD [a, b, c, d, e, f] (some 4) none = [e, f] := cutD_from (k := 4) (by simp)
theorem cutTo2 {a b c d e f : D} : cutD [a, b, c, d, e, f] none (some 2) = [a, b] := cutD_to (k := 2) (by simp)
inductive Mode where
  | plain | more | push
deriving DecidableEq
def Mode.s : Mode → Str
  | .plain => "plain"
  | .more => "more"
  | .push => "push"
@[simp] theorem ms_plain (x : Mode) : (x.s = Str.ofString "plain") = (x = .plain) := by cases x <;> decide +kernel
@[simp] theorem ms_more (x : Mode) : (x.s = Str.ofString "more") = (x = .more) := by cases x <;> decide +kernel
@[simp] theorem ms_push (x : Mode) : (x.s = Str.ofString "push") = (x = .push) := by cases x <;> decide +kernel
def fullW (r : Rl) (p : Pt) (length : Int) : Pt × Int := fullP r ⟨(p.rest + length) % r.size, false, p.blocked, p.stuck, p.pending, p.quick⟩ ((p.rest + length) / r.size)
def writeA (r : Rl) (p : Pt) (length : Int) (m : Mode) : Pt × Int × Int :=
  if 0 < (p.rest + length) % r.size ∧ m = .more then (⟨(p.rest + length) % r.size, true, (fullW r p length).1.blocked, (fullW r p length).1.stuck, (fullW r p length).1.pending, (fullW r p length).1.quick⟩, (p.rest + length) / r.size, (fullW r p length).2)
  else if 0 < (p.rest + length) % r.size ∧ (m = .push ∨ (fullW r p length).1.blocked = false) then ((partialP r (fullW r p length).1).1, (p.rest + length) / r.size + 1, (fullW r p length).2 + (partialP r (fullW r p length).1).2)
  else ((fullW r p length).1, (p.rest + length) / r.size, (fullW r p length).2)
/-! clearing -/
def clearA (r : Rl) (p : Pt) : Pt × Int × Int := if p.blocked = false ∨ p.stuck = true then (p, 0, 0) else if p.rest = 0 ∨ p.kept = true then (⟨p.rest, p.kept, false, false, p.pending, p.quick⟩, 0, 0) else ((partialP r ⟨p.rest, p.kept, false, false, p.pending, p.quick⟩).1, 1, (partialP r ⟨p.rest, p.kept, false, false, p.pending, p.quick⟩).2)
end Ev
set_option Elab.async false
set_option linter.all false
set_option maxRecDepth 100000
set_option maxHeartbeats 4000000
namespace Ev
open PySem L2
end Ev
set_option Elab.async false
set_option linter.all false
set_option maxRecDepth 100000
set_option maxHeartbeats 4000000
namespace Ev
open PySem L2
/-! settings -/
@[simp] theorem is_integer_eq {v : Int} {h : Hs} : G_is_integer [.int v] h = .ok (.bl true) h := by
  refine runB_ret ?_
  simp [b_is_integer]
theorem in_range_eq {v a b : Int} {h : Hs} : G_in_range [.int v, .int a, .int b] h = .ok (.bl (decide (a ≤ v) && decide (v ≤ b))) h := by
  refine runB_ret ?_
  by_cases h1 : a ≤ v <;> simp [b_in_range, h1]
theorem policy_init {h : Hs} {x : Hold} {i j : Int} (h1 : 0 ≤ i) (h2 : i ≤ 9) (h3 : 0 ≤ j) (h4 : j ≤ 4) : G_Policy_init [.ref h.length, .str x.s, .int i, .int j] (h ++ [.ins 0 []]) = .ok .non (h ++ [.ins 0 [.str x.s, .int i, .int j]]) := by
  refine runB_nx (env := [some (.ref h.length), some (.str x.s), some (.int i), some (.int j)]) ?_
  have e : ∀ h', notInD (.str x.s) (.tup [.str "off", .str "partial", .str "all"]) h' = .ok (.bl false) h' := fun h' => by
    cases x <;> rfl
  simp [b_Policy_init, putI, e, in_range_eq, h1, h2, h3, h4]
theorem policy_make {env : En} {h : Hs} {x : Hold} {i j : Int} {fd : En → Hs → R DD2} (h1 : 0 ≤ i) (h2 : i ≤ 9) (h3 : 0 ≤ j) (h4 : j ≤ 4) (e : fd env h = .ok ([.str x.s], [.int i, .int j]) h) : eMake 0 (kwF 2 2 d_Policy_init_s2_every_quick G_Policy_init) fd env h = .ok (.obj 0 [.str x.s, .int i, .int j]) h := by
  refine eMake_ap (n' := 0) (fs := [.str x.s, .int i, .int j]) e ?_ (by simp [D.nrs, D.nr])
  simp [dS, gSeg, policy_init h1 h2 h3 h4]
theorem policy_make0 {env : En} {h : Hs} : eMake 0 (kwF 1 0 d_Policy_init_s1 G_Policy_init) cNil env h = .ok (.obj 0 [.str "all", .int 2, .int 0]) h := by
  refine eMake_ap (n' := 0) (fs := [.str "all", .int 2, .int 0]) (cNil_ap) ?_ (by simp [D.nrs, D.nr])
  have := policy_init (h := h) (x := .all) (i := 2) (j := 0) (by decide) (by decide) (by decide) (by decide)
  simp [Hold.s] at this
  simp [dS, gSeg, this]
theorem setting_init {h : Hs} {size : Int} {fs gs : List D} (h1 : 1 ≤ size) (h2 : size ≤ 1000000000000000000) : G_Setting_init [.ref h.length, .int size, .tup [.obj 0 fs, .obj 0 gs]] (h ++ [.ins 1 []]) = .ok .non (h ++ [.ins 1 [.int size, .tup [.obj 0 fs, .obj 0 gs]]]) := by
  refine runB_nx (env := [some (.ref h.length), some (.int size), some (.tup [.obj 0 fs, .obj 0 gs]), some (.lst [.obj 0 fs, .obj 0 gs, .obj 0 fs, .obj 0 gs, .obj 0 [.str "all", .int 2, .int 0], .obj 0 [.str "all", .int 2, .int 0]]), none]) ?_
  · have e1 : ∀ h', eComp (iSeq (eVar 2)) (kName 4) bYes (eIsi (.cls 0) [0, 1] (eVar 4)) [4] [some (.ref h.length), some (.int size), some (.tup [.obj 0 fs, .obj 0 gs]), none, none] h' = .ok (.lst [.bl true, .bl true]) h' := fun h' =>
      eComp_map (g := fun _ => .bl true) (xs := [.obj 0 fs, .obj 0 gs]) (by simp) (by
        intro x hx
        refine ⟨_, rfl, fun _ => rfl, fun h' => ?_⟩
        simp at hx
        rcases hx with rfl | rfl <;> simp [wipeE]) (by simp [big]) (by simp [D.nrs, D.nr])
    simp [b_Setting_init, in_range_eq, h1, h2, e1, allD, blsOf, policy_make0, big, putI]
theorem setting_make {env : En} {h : Hs} {size : Int} {fs gs : List D} {fd : En → Hs → R DD2} (h1 : 1 ≤ size) (h2 : size ≤ 1000000000000000000) (hn : D.nrs h.length fs = true) (hn2 : D.nrs h.length gs = true) (e : fd env h = .ok ([.int size, .obj 0 fs, .obj 0 gs], []) h) :
    eMake 1 (starF 2 G_Setting_init) fd env h = .ok (.obj 1 [.int size, .tup [.obj 0 fs, .obj 0 gs]]) h := by
  refine eMake_ap (n' := 1) (fs := [.int size, .tup [.obj 0 fs, .obj 0 gs]]) e ?_ (by simp [D.nrs, D.nr, hn, hn2])
  simp [big, setting_init h1 h2]
end Ev
set_option Elab.async false
set_option linter.all false
set_option maxRecDepth 100000
set_option maxHeartbeats 4000000
namespace Ev
open PySem L2
structure Po where
  hold : Hold
  every : Int
  quick : Int
def Po.o (p : Po) : D := .obj 0 [.str p.hold.s, .int p.every, .int p.quick]
structure Se where
  size : Int
  p0 : Po
  p1 : Po
def Se.o (s : Se) : D := .obj 1 [.int s.size, .tup [s.p0.o, s.p1.o]]
def Se.pol (s : Se) (who : Int) : Po := if who = 0 then s.p0 else s.p1
def Se.rl (s : Se) (who : Int) : Rl := ⟨s.size, (s.pol who).hold, (s.pol (1 - who)).every⟩
end Ev
set_option Elab.async false
set_option linter.all false
set_option maxRecDepth 100000
set_option maxHeartbeats 4000000
namespace Ev
open PySem L2
/-! ### a new list behind a bag that is drawn from -/
section
variable {h : Hs} {n : Nat} {xs : List D} {y : D} {o : O}
theorem cell_new (hn : n < h.length) : cellL ((h ++ [O.lst xs]).set n o) h.length = some xs := by
  rw [cellL_ne (by omega)]
  exact cellL_last
theorem app_new (hn : n < h.length) (hy : xs.length < big) : appendD (.ref h.length) [y] ((h ++ [O.lst xs]).set n o) = .ok .non ((h ++ [O.lst (xs ++ [y])]).set n o) := by
  show (match cellL ((h ++ [O.lst xs]).set n o) h.length with
    | some ys => if ys.length < big then R.ok D.non (((h ++ [O.lst xs]).set n o).set h.length (O.lst (ys ++ [y]))) else .bad
    | none => .bad) = _
  rw [cell_new hn]
  dsimp only
  rw [if_pos hy, List.set_comm _ _ (by omega)]
  congr 2
  simp
theorem tyk_new (hn : n < h.length) : tyOk .list (.ref h.length) ((h ++ [O.lst xs]).set n o) = true := by
  show (cellL ((h ++ [O.lst xs]).set n o) h.length).isSome = true
  rw [cell_new hn]; rfl
/-- the new list is frozen, its cell let go -/
theorem free_new {s t : BagS} {Q : D → Hs → Prop} (hn : n < h.length) (hx : ∀ m, D.nrs m xs = true) (q : Q (.lst xs) (h.set n t.o)) :
    Stood (h.set n s.o) ((h ++ [O.lst xs]).set n t.o) ∧ ∃ d', frz ((h ++ [O.lst xs]).set n t.o) h.length 12 (.ref h.length) = some d' ∧ Q d' (((h ++ [O.lst xs]).set n t.o).take h.length) := by
  have e : (h ++ [O.lst xs]).set n t.o = (h.set n s.o).set n t.o ++ [O.lst xs] := by rw [List.set_set, push_set hn]
  refine ⟨by rw [e]; exact stood_set bag_nr, .lst xs, ?_, ?_⟩
  · refine frz_lst (k := 11) (by simp) ?_ (optAll_nr (k := 10) (hx _))
    have := cell_new (h := h) (n := n) (xs := xs) (o := t.o) hn
    unfold cellL at this
    split at this
    · rename_i ys hy
      cases this
      exact hy
    · cases this
  · rw [List.set_append_left _ _ hn, List.take_append_of_le_length (by simp), List.take_of_length_le (by simp)]
    exact q
end
theorem en5 {env : En} (h : env.length = 5) : ∃ a0 a1 a2 a3 a4, env = [a0, a1, a2, a3, a4] := by
  match env, h with
  | [a0, a1, a2, a3, a4], _ => exact ⟨a0, a1, a2, a3, a4, rfl⟩
structure Po.Ok (p : Po) : Prop where
  e0 : 0 ≤ p.every
  e9 : p.every ≤ 9
  q0 : 0 ≤ p.quick
  q4 : p.quick ≤ 4
def Po.t (p : Po) : D := .tup [.str p.hold.s, .int p.every, .int p.quick]
def RulesI (h : Hs) (n : Nat) (k : Int) (i : Nat) (e : En) (h' : Hs) : Prop := ∃ (ps : List Po) (t : BagS), ps.length = i ∧ (∀ p ∈ ps, p.Ok) ∧ t.Ok (k + 30 * i) ∧ h' = (h ++ [O.lst (ps.map Po.t)]).set n t.o ∧ e.length = 5 ∧ e[0]? = some (some (.ref n)) ∧ e[1]? = some (some (.ref h.length))
end Ev
set_option Elab.async false
set_option linter.all false
set_option maxRecDepth 100000
set_option maxHeartbeats 4000000
namespace Ev
open PySem L2
theorem amount_sat {n : Nat} {k w : Int} {h : Hs} {s : BagS} {Q : D → Hs → Prop} {E : Nat → List D → Hs → Prop} (hn : n < h.length) (ok : s.Ok k) (hk : k < 1000000000) (h1 : 1 ≤ w) (h2 : w ≤ 100000000000000000) (q : ∀ (v : Int) (t : BagS), 1 ≤ v → v ≤ 4 * w → t.Ok (k + 12) → Q (.int v) (h.set n t.o)) : R.Sat (G_l_amount [.ref n, .int w] (h.set n s.o)) Q E := by
  refine sat_runB ?_
  unfold b_l_amount
  refine sat_cons fun K hK => ?_
  repeat (first | simp [S.sat_toS, R.sat_bind, big] | simp (disch := omega) only [mul_l, mul_r, fdiv_sm, mod_ok])
  refine take_sat (by first | assumption | omega) (by assumption) (by omega) (by omega) (by omega) fun r1 s1 _ _ _ => ?_; try dsimp only
  repeat (first | simp [S.sat_toS, R.sat_bind, big] | simp (disch := omega) only [mul_l, mul_r, fdiv_sm, mod_ok])
  refine hK _ _ ?_; clear hK K
  repeat (first | simp [S.sat_toS, R.sat_bind, big] | simp (disch := omega) only [mul_l, mul_r, fdiv_sm, mod_ok])
  refine take_sat (by first | assumption | omega) (by assumption) (by omega) (by omega) (by omega) fun r2 s2 _ _ _ => ?_; try dsimp only
  repeat (first | simp [S.sat_toS, R.sat_bind, big] | simp (disch := omega) only [mul_l, mul_r, fdiv_sm, mod_ok])
  have m1 : ∀ (x : Int) h', mulD (.int w) (.int x) h' = .ok (.int (w * x)) h' := fun x h' => mul_l (by omega) (by omega)
  try rw [m1]
  repeat (first | simp [S.sat_toS, R.sat_bind, big] | simp (disch := omega) only [mul_l, mul_r, fdiv_sm, mod_ok])
  refine take_sat (by first | assumption | omega) (by assumption) (by omega) (by omega) (by omega) fun r3 s3 _ _ _ => ?_; try dsimp only
  repeat (first | simp [S.sat_toS, R.sat_bind, big] | simp (disch := omega) only [mul_l, mul_r, fdiv_sm, mod_ok])
  try rw [m1]
  repeat (first | simp [S.sat_toS, R.sat_bind, big] | simp (disch := omega) only [mul_l, mul_r, fdiv_sm, mod_ok])
  refine take_sat (by first | assumption | omega) (by assumption) (by omega) (by omega) (by omega) fun r4 s4 _ _ _ => ?_; try dsimp only
  refine pick_sat (fun d => ∃ v : Int, d = .int v ∧ 1 ≤ v ∧ v ≤ 4 * w) (by omega) (by simp; omega) (by
    intro d hd
    simp at hd
    rcases hd with rfl | rfl | rfl
    · exact ⟨_, rfl, by omega, by omega⟩
    · refine ⟨_, rfl, ?_, ?_⟩
      · have := Int.mul_le_mul_of_nonneg_left (show 1 ≤ 1 + r2 by omega) (show 0 ≤ w by omega)
        omega
      · have := Int.mul_le_mul_of_nonneg_left (show 1 + r2 ≤ 4 by omega) (show 0 ≤ w by omega)
        omega
    · refine ⟨_, rfl, ?_, ?_⟩
      · have := Int.mul_nonneg (show 0 ≤ w by omega) (show 0 ≤ r3 by omega)
        omega
      · have := Int.mul_le_mul_of_nonneg_left (show r3 ≤ 3 by omega) (show 0 ≤ w by omega)
        omega) ?_
  rintro _ ⟨v, rfl, v1, v2⟩
  exact q v _ v1 v2 ((show s4.Ok (k + 3 + 3 + 3 + 3) by assumption).mono (by omega))
end Ev
set_option Elab.async false
set_option linter.all false
set_option maxRecDepth 100000
set_option maxHeartbeats 4000000
namespace Ev
open PySem L2
/-! ### writes, conversations -/
structure Wr where
  who : Int
  len : Int
  mode : Mode
def Wr.d (w : Wr) : D := .tup [.int w.who, .int w.len, .str w.mode.s]
structure Wr.Ok (w : Wr) : Prop where
  who : w.who = 0 ∨ w.who = 1
  l1 : 1 ≤ w.len
  l2 : w.len ≤ 1000000000000000000
@[simp] theorem isi_tuple_tup {cs : List Nat} {v : List D} {h : Hs} : isiD .tuple cs (.tup v) h = .ok (.bl true) h := rfl
@[simp] theorem isi_list_lst {cs : List Nat} {v : List D} {h : Hs} : isiD .list cs (.lst v) h = .ok (.bl true) h := rfl
@[simp] theorem isi_str_lst {cs : List Nat} {v : List D} {h : Hs} : isiD .str cs (.lst v) h = .ok (.bl false) h := rfl
@[simp] theorem isi_list_str {cs : List Nat} {v : Str} {h : Hs} : isiD .list cs (.str v) h = .ok (.bl false) h := rfl
theorem is_write_eq {w : Wr} (ok : w.Ok) {h : Hs} : G_is_write [w.d] h = .ok (.bl true) h := by
  obtain ⟨who, l1, l2⟩ := ok
  refine runB_ret ?_
  have e : ∀ h', inD (.str w.mode.s) (.tup [.str "plain", .str "push", .str "more"]) h' = .ok (.bl true) h' := fun h' => by
    cases w.mode <;> rfl
  have e2 : (decide (0 ≤ w.who) && decide (w.who ≤ 1)) = true := by rcases who with e | e <;> rw [e] <;> decide
  simp at e2
  simp [b_is_write, Wr.d, in_range_eq, e, e2, l1, l2]
theorem enumL_at : ∀ {ds : List D} {i j : Nat} {x : D}, (enumL i ds)[j]? = some x → ∃ d, ds[j]? = some d ∧ x = .tup [.int ((i + j : Nat) : Int), d]
  | [], i, j, x, e => by simp [enumL] at e
  | d :: ds, i, 0, x, e => by
    simp [enumL] at e
    exact ⟨d, by simp, e.symm⟩
  | d :: ds, i, j + 1, x, e => by
    rw [enumL, List.getElem?_cons_succ] at e
    obtain ⟨d', h1, h2⟩ := enumL_at e
    exact ⟨d', by simpa using h1, by rw [h2, show i + 1 + j = i + (j + 1) by omega]⟩
theorem enumL_len : ∀ {ds : List D} {i : Nat}, (enumL i ds).length = ds.length
  | [], _ => rfl
  | d :: ds, i => by rw [enumL, List.length_cons, List.length_cons, enumL_len]
theorem iEnum_lst {fa : En → Hs → R (List D)} {env : En} {h h1 : Hs} {xs : List D} (e : fa env h = .ok [.lst xs] h1) : iEnumD fa env h = .ok (enumL 0 xs, []) h1 := by
  unfold iEnumD
  rw [e]
  rfl
theorem sFor_enum {fa : En → Hs → R (List D)} {k : D → En → Option En} {f : En → Hs → S} {env : En} {h h1 : Hs} {xs : List D} (e : fa env h = .ok [.lst xs] h1) : sFor (iEnumD fa) k f env h = forL [] k f (enumL 0 xs) env h1 := by
  unfold sFor
  rw [iEnum_lst e]
  rfl
theorem check_eq {ws : List Wr} (hl : ws.length ≤ 200) (ok : ∀ w ∈ ws, w.Ok) {h : Hs} : G_check [.lst (ws.map Wr.d)] h = .ok .non h := by
  obtain ⟨e2, h2, q1, ⟨x, y, rfl⟩, hz⟩ := forL_invI (k := kTup 2 (ksCons (kName 1) (ksCons (kName 2) ksNil))) (f := sIf (eNotB (eTru (eCallC (posF 1 G_is_write) (cPos (aCons (eVar 2) aNil))))) sBad sNil)
    (fun _ e hh => (∃ x y, e = [some (.lst (ws.map Wr.d)), x, y]) ∧ hh = h) (xs := enumL 0 (ws.map Wr.d)) (n := 0) (by
    rintro i x hx e hh ⟨⟨a, b, rfl⟩, rfl⟩
    obtain ⟨d, h1, rfl⟩ := enumL_at hx
    rw [List.getElem?_map] at h1
    cases hw : ws[i]? with
    | none => rw [hw] at h1; cases h1
    | some w =>
      rw [hw] at h1
      cases h1
      have hm : w ∈ ws := List.mem_of_getElem? hw
      refine ⟨_, [some (.lst (ws.map Wr.d)), some (.int ((0 + i : Nat) : Int)), some w.d], hh, rfl, ?_, ⟨_, _, rfl⟩, rfl⟩
      simp [is_write_eq (ok w hm)]) (env := [some (.lst (ws.map Wr.d)), none, none]) (h := h) ⟨⟨none, none, rfl⟩, rfl⟩
  rw [hz] at q1
  refine runB_nx (env := [some (.lst (ws.map Wr.d)), x, y]) ?_
  have hl' : ¬ (200 : Int) < ws.length := by omega
  show b_check [some (.lst (ws.map Wr.d)), none, none] h = _
  rw [b_check, seq_of (env1 := [some (.lst (ws.map Wr.d)), none, none]) (h1 := h) (by simp [hl'])]
  rw [sFor_enum (xs := ws.map Wr.d) (h1 := h) (by simp)]
  exact q1
/-! turns -/
structure Tn where
  who : Int
  start : Nat
  stop : Nat
def Tn.d (t : Tn) : D := .tup [.int t.who, .int (t.start : Int), .int (t.stop : Int)]
def splitS (acc : List Tn) (i : Nat) (w : Wr) : List Tn := match acc.getLast? with
  | some t => if t.who = w.who then acc.dropLast ++ [⟨w.who, t.start, i + 1⟩] else acc ++ [⟨w.who, i, i + 1⟩]
  | none => [⟨w.who, i, i + 1⟩]
def splitL : List Tn → Nat → List Wr → List Tn
  | acc, _, [] => acc
  | acc, i, w :: ws => splitL (splitS acc i w) (i + 1) ws
noncomputable def splitB : En → Hs → S := (sIf (eOrB (eTest (eBin eqD (eVar 1) (eLst aNil))) (eTest (eBin neD (eBin ixD (eBin ixD (eVar 1) (eUn negD (eC (.int 1)))) (eC (.int 0))) (eBin ixD (eVar 3) (eC (.int 0)))))) (sExpr (eBM .list appendD (eVar 1) (aCons (eTup (aCons (eBin ixD (eVar 3) (eC (.int 0))) (aCons (eVar 2) (aCons (eBin addD (eVar 2) (eC (.int 1))) aNil)))) aNil))) (sSetIx (eVar 1) (eUn negD (eC (.int 1))) (eTup (aCons (eBin ixD (eVar 3) (eC (.int 0))) (aCons (eBin ixD (eBin ixD (eVar 1) (eUn negD (eC (.int 1)))) (eC (.int 1))) (aCons (eBin addD (eVar 2) (eC (.int 1))) aNil))))))
theorem ixN_last {n : Nat} : ixN (n + 1) (-1) = some n := by
  unfold ixN
  rw [if_neg (by decide), if_pos (by omega)]
  congr 1
  omega
theorem atI_last {xs : List D} {x : D} : atI (xs ++ [x]) (-1) = some x := by
  unfold atI
  rw [List.length_append, List.length_cons, List.length_nil, ixN_last]
  simp
theorem split_body {ws : D} {h : Hs} {acc : List Tn} {i : Nat} {w : Wr} (hl : acc.length < 1000) : splitB [some ws, some (.ref h.length), some (.int (i : Int)), some w.d] (h ++ [.lst (acc.map Tn.d)]) = .nx [some ws, some (.ref h.length), some (.int (i : Int)), some w.d] (h ++ [.lst ((splitS acc i w).map Tn.d)]) := by
  have hc : ∀ xs : List D, cellL (h ++ [.lst xs]) h.length = some xs := fun xs => by unfold cellL; simp
  have hs : ∀ a b : O, (h ++ [a]).set h.length b = h ++ [b] := fun a b => by simp
  have ap : ∀ (xs : List D) (y : D), xs.length < big → appendD (.ref h.length) [y] (h ++ [.lst xs]) = .ok .non (h ++ [.lst (xs ++ [y])]) := fun xs y hy => by
    show (match cellL (h ++ [.lst xs]) h.length with
      | some ys => if ys.length < big then R.ok D.non ((h ++ [O.lst xs]).set h.length (O.lst (ys ++ [y]))) else .bad
      | none => .bad) = _
    rw [hc]
    dsimp only
    rw [if_pos hy, hs]
  have tyk : ∀ xs : List D, tyOk .list (.ref h.length) (h ++ [.lst xs]) = true := fun xs => by
    show (cellL (h ++ [.lst xs]) h.length).isSome = true
    rw [hc]; rfl
  rcases List.eq_nil_or_concat acc with rfl | ⟨as, t, ea⟩
  · have e1 : eqD (.ref h.length) (.lst []) (h ++ [.lst []]) = .ok (.bl true) (h ++ [.lst []]) := by
      unfold eqD
      rw [show dat 20 (h ++ [.lst []]) (.ref h.length) = some (.list []) by
        rw [dat]
        simp only [hc]
        rfl, show dat 20 (h ++ [.lst []]) (.lst []) = some (.list []) from rfl]
      rfl
    have a1 := ap [] (.tup [.int w.who, .int (i : Int), .int ((i : Int) + 1)]) (by decide)
    simp [splitB, e1, Wr.d, big, tyk, splitS, Tn.d] at a1 ⊢
    simp [a1]
  · rw [List.concat_eq_append] at ea
    subst ea
    have hne : ∃ p ps, datAll (dat 19 (h ++ [.lst ((as ++ [t]).map Tn.d)])) ((as ++ [t]).map Tn.d) = some (p :: ps) := by
      obtain ⟨ps, g1, g2⟩ := datAll_plain (f := dat 19 (h ++ [.lst ((as ++ [t]).map Tn.d)])) (xs := (as ++ [t]).map Tn.d) fun x hx => dat_plain (by
        obtain ⟨u, _, rfl⟩ := List.mem_map.mp hx
        rfl)
      cases ps with
      | nil =>
        exfalso
        have : ∀ (ys : List D) (f : D → Option PyData), ys ≠ [] → datAll f ys ≠ some [] := fun ys f hy e => by
          cases ys with
          | nil => exact hy rfl
          | cons y ys =>
            rw [datAll] at e
            split at e <;> cases e
        exact this _ _ (by simp) g1
      | cons p ps => exact ⟨p, ps, g1⟩
    obtain ⟨p, ps, g1⟩ := hne
    have e1 : eqD (.ref h.length) (.lst []) (h ++ [.lst ((as ++ [t]).map Tn.d)]) = .ok (.bl false) (h ++ [.lst ((as ++ [t]).map Tn.d)]) := by
      unfold eqD
      rw [show dat 20 (h ++ [.lst ((as ++ [t]).map Tn.d)]) (.ref h.length) = some (.list (p :: ps)) by
        rw [dat]
        simp only [hc]
        rw [g1]
        rfl, show dat 20 (h ++ [.lst ((as ++ [t]).map Tn.d)]) (.lst []) = some (.list []) from rfl]
      rfl
    have ix : ixD (.ref h.length) (.int (-1)) (h ++ [.lst ((as ++ [t]).map Tn.d)]) = .ok t.d (h ++ [.lst ((as ++ [t]).map Tn.d)]) := by
      rw [ixD_ref (hc _), List.map_append, List.map_cons, List.map_nil, atI_last]
    have hlen : ((as ++ [t]).map Tn.d).length < big := by
      have : (1000 : Nat) < big := by decide
      rw [List.length_map]
      exact Nat.lt_trans hl this
    have gl : (as ++ [t]).getLast? = some t := by simp
    by_cases hw : t.who = w.who
    · have w1 : setIx (.ref h.length) (.int (-1)) (.tup [.int w.who, .int (t.start : Int), .int ((i : Int) + 1)]) (h ++ [.lst ((as ++ [t]).map Tn.d)]) = some (h ++ [.lst ((as ++ [Tn.mk w.who t.start (i + 1)]).map Tn.d)]) := by
        rw [setIx_ref (hc _) (j := as.length) (by rw [List.length_map, List.length_append, List.length_cons, List.length_nil, ixN_last])]
        rw [hs]
        simp [Tn.d]
      have es : splitS (as ++ [t]) i w = as ++ [⟨w.who, t.start, i + 1⟩] := by
        unfold splitS
        rw [gl]
        simp [hw]
      rw [es]
      simp only [splitB, sIf_ap, eOrB_ap, eTest_ap, eBin_ap, eVar_ap, List.getElem?_cons_zero, List.getElem?_cons_succ, R.bind_ok, eLst_ap, aNil_ap, List.length_nil, Nat.zero_le, if_true, e1, toB_bl, eUn_ap, eC_ap, negD_int, ix]
      simp only [Bool.false_eq_true, if_false, R.bind_ok, Tn.d, Wr.d, ixD_tup, atI_0, List.getElem?_cons_zero, neD_int, hw, decide_true, Bool.not_true, toB_bl, R.toS_ok, sSetIx_ap, eTup_ap, aCons_ap, aNil_ap, eBin_ap, eVar_ap, eC_ap, eUn_ap, negD_int, List.getElem?_cons_succ, ix, atI_1, addD_int]
      simp [Tn.d, hw] at ix w1
      simp [ix, w1, big, hw, Tn.d]
    · have a1 := ap ((as ++ [t]).map Tn.d) (.tup [.int w.who, .int (i : Int), .int ((i : Int) + 1)]) hlen
      have es : splitS (as ++ [t]) i w = (as ++ [t]) ++ [⟨w.who, i, i + 1⟩] := by
        unfold splitS
        rw [gl]
        simp [hw]
      rw [es]
      simp only [splitB, sIf_ap, eOrB_ap, eTest_ap, eBin_ap, eVar_ap, List.getElem?_cons_zero, List.getElem?_cons_succ, R.bind_ok, eLst_ap, aNil_ap, List.length_nil, Nat.zero_le, if_true, e1, toB_bl, eUn_ap, eC_ap, negD_int, ix]
      simp only [Bool.false_eq_true, if_false, R.bind_ok, Tn.d, Wr.d, ixD_tup, atI_0, List.getElem?_cons_zero, neD_int, hw, decide_false, Bool.not_false, toB_bl, R.toS_ok, if_true, sExpr_ap, eBM_ap, eVar_ap, tyk, eTup_ap, aCons_ap, aNil_ap, eBin_ap, eC_ap, List.getElem?_cons_succ, addD_int]
      simp [Tn.d] at a1
      simp [big, a1, Tn.d]
theorem splitS_len {acc : List Tn} {i : Nat} {w : Wr} : (splitS acc i w).length ≤ acc.length + 1 := by
  unfold splitS
  split
  · split <;> simp
  · simp
theorem split_loop {ws : D} {h : Hs} : ∀ {rest : List Wr} {acc : List Tn} {i : Nat} {e2 e3 : Option D}, acc.length + rest.length < 900 →
    ∃ x y, forL [] (kTup 2 (ksCons (kName 2) (ksCons (kName 3) ksNil))) splitB (enumL i (rest.map Wr.d)) [some ws, some (.ref h.length), e2, e3] (h ++ [.lst (acc.map Tn.d)]) = .nx [some ws, some (.ref h.length), x, y] (h ++ [.lst ((splitL acc i rest).map Tn.d)])
  | [], acc, i, e2, e3, _ => ⟨e2, e3, by simp [enumL, forL, splitL]⟩
  | w :: rest, acc, i, e2, e3, hl => by
    have hl2 := splitS_len (acc := acc) (i := i) (w := w)
    obtain ⟨x, y, q⟩ := split_loop (ws := ws) (h := h) (rest := rest) (acc := splitS acc i w) (i := i + 1) (e2 := some (.int (i : Int))) (e3 := some w.d) (by simp at hl; omega)
    refine ⟨x, y, ?_⟩
    rw [List.map_cons, enumL, forL, if_pos (Kept_nil _ ▸ trivial)]
    rw [show kTup 2 (ksCons (kName 2) (ksCons (kName 3) ksNil)) (.tup [.int (i : Int), w.d]) [some ws, some (.ref h.length), e2, e3] = some [some ws, some (.ref h.length), some (.int (i : Int)), some w.d] from rfl]
    dsimp only
    rw [split_body (by simp at hl; omega)]
    exact q
theorem tn_nrs {n : Nat} : ∀ ts : List Tn, D.nrs n (ts.map Tn.d) = true
  | [] => rfl
  | t :: ts => by
    rw [List.map_cons, D.nrs, tn_nrs ts]
    rfl
end Ev
set_option Elab.async false
set_option linter.all false
set_option maxRecDepth 100000
set_option maxHeartbeats 4000000
namespace Ev
open PySem L2
theorem datAll_ints {k : Nat} {h : Hs} : ∀ ns : List Int, datAll (dat (k + 1) h) (ns.map D.int) = some (ns.map PyData.int)
  | [] => rfl
  | n :: ns => by
    rw [List.map_cons, datAll, datAll_ints ns]
    rfl
theorem inD_ints {i : Int} {ns : List Int} {h : Hs} : inD (.int i) (.lst (ns.map D.int)) h = .ok (.bl (decide (i ∈ ns))) h := by
  unfold inD inB
  simp only [rdL_lst]
  rw [show dat 20 h (.int i) = some (.int i) from rfl, datAll_ints (k := 18)]
  dsimp only
  congr 2
  induction ns with
  | nil => rfl
  | cons n ns ih =>
    rw [List.map_cons, List.any_cons, ih]
    rw [show PyData.eqv (.int n) (.int i) = decide (n = i) from rfl]
    by_cases e : n = i
    · simp [e]
    · have : ¬ i = n := fun z => e z.symm
      simp [e, this]
def startsP (ws : List Wr) : List Int := (splitL [] 0 ws).map fun t => (t.start : Int)
def mostP (ws : List Wr) (i : Int) : Int := if i ∈ startsP ws then 0 else 2
inductive Ord where
  | slow | quick | steps (l : List Int)
def Ord.d : Ord → D
  | .slow => .str "slow"
  | .quick => .str "quick"
  | .steps l => .lst (l.map D.int)
def mostL (ws : List Wr) : List Int := (List.range ws.length).map fun (i : Nat) => mostP ws (i : Int)
def Ord.stepsOf (ws : List Wr) : Ord → List Int
  | .slow => ws.map fun _ => 0
  | .quick => mostL ws
  | .steps l => l
def Ord.Ok (ws : List Wr) : Ord → Prop
  | .steps l => l.length = ws.length ∧ ∀ (i : Nat) (x : Int), l[i]? = some x → 0 ≤ x ∧ x ≤ mostP ws (i : Int)
  | _ => True
theorem nrs_ints {n : Nat} : ∀ ns : List Int, D.nrs n (ns.map D.int) = true
  | [] => rfl
  | i :: ns => by
    rw [List.map_cons, D.nrs, nrs_ints ns]
    rfl
theorem splitL_len : ∀ {ws : List Wr} {acc : List Tn} {i : Nat}, (splitL acc i ws).length ≤ acc.length + ws.length
  | [], acc, i => by simp [splitL]
  | w :: ws, acc, i => by
    have h1 := splitS_len (acc := acc) (i := i) (w := w)
    have h2 := splitL_len (ws := ws) (acc := splitS acc i w) (i := i + 1)
    rw [splitL, List.length_cons]
    omega
/-! ### the turns by their first writes -/
def isFirst (ws : List Wr) (i : Nat) : Bool := match i with
  | 0 => true
  | j + 1 => match ws[j]?, ws[j + 1]? with
    | some a, some b => !decide (a.who = b.who)
    | _, _ => true
def startsF (p : Int) (i : Nat) : List Wr → List Nat
  | [] => []
  | w :: ws => (if p = w.who then [] else [i]) ++ startsF w.who (i + 1) ws
theorem splitS_last {acc : List Tn} {t : Tn} {i : Nat} {w : Wr} : splitS (acc ++ [t]) i w = if t.who = w.who then acc ++ [⟨w.who, t.start, i + 1⟩] else acc ++ [t] ++ [⟨w.who, i, i + 1⟩] := by
  unfold splitS
  simp
theorem splitL_starts : ∀ {ws : List Wr} {acc : List Tn} {t : Tn} {i : Nat}, (splitL (acc ++ [t]) i ws).map (·.start) = (acc ++ [t]).map (·.start) ++ startsF t.who i ws
  | [], acc, t, i => by simp [splitL, startsF]
  | w :: ws, acc, t, i => by
    rw [splitL, splitS_last, startsF]
    by_cases e : t.who = w.who
    · rw [if_pos e, if_pos e, splitL_starts]
      simp
    · rw [if_neg e, if_neg e, splitL_starts]
      simp
theorem splitL_stops : ∀ {ws : List Wr} {acc : List Tn} {t : Tn} {i : Nat}, (acc ++ [t]).map (·.stop) = ((acc ++ [t]).map (·.start)).tail ++ [i] → (splitL (acc ++ [t]) i ws).map (·.stop) = ((splitL (acc ++ [t]) i ws).map (·.start)).tail ++ [i + ws.length]
  | [], acc, t, i, h => by simpa [splitL] using h
  | w :: ws, acc, t, i, h => by
    rw [splitL, splitS_last]
    by_cases e : t.who = w.who
    · rw [if_pos e, splitL_stops, List.length_cons, show i + 1 + ws.length = i + (ws.length + 1) by omega]
      cases acc with
      | nil => simp
      | cons a acc =>
        simp at h ⊢
        have := congrArg List.dropLast h
        simp [← List.append_assoc] at this
        have hd : ∀ (x : Nat) (l : List Nat) (y : Nat), (x :: (l ++ [y])).dropLast = x :: l := fun x l y => by
          rw [← List.cons_append, List.dropLast_concat]
        rw [hd] at this
        rw [← List.cons_append, this]
        simp
    · rw [if_neg e, splitL_stops, List.length_cons, show i + 1 + ws.length = i + (ws.length + 1) by omega]
      rw [List.map_append, h]
      cases acc <;> simp
theorem splitL_head {w : Wr} {ws : List Wr} : splitL [] 0 (w :: ws) = splitL ([] ++ [⟨w.who, 0, 1⟩]) 1 ws := rfl
theorem startsF_filter : ∀ {ws pre : List Wr} {p : Int}, (pre.getLast?.map (·.who) = some p) → startsF p pre.length ws = (List.range' pre.length ws.length).filter (isFirst (pre ++ ws))
  | [], pre, p, _ => by simp [startsF]
  | w :: ws, pre, p, h => by
    have ih := startsF_filter (ws := ws) (pre := pre ++ [w]) (p := w.who) (by simp)
    rw [List.length_append, List.length_cons, List.length_nil, List.append_assoc, List.singleton_append] at ih
    rw [startsF, ih, List.length_cons, List.range'_succ, List.filter_cons]
    rcases List.eq_nil_or_concat pre with rfl | ⟨as, a, ea⟩
    · simp at h
    · rw [List.concat_eq_append] at ea
      subst ea
      simp at h
      have hf : isFirst (as ++ [a] ++ w :: ws) (as ++ [a]).length = !decide (a.who = w.who) := by
        unfold isFirst
        rw [show (as ++ [a]).length = as.length + 1 by simp]
        dsimp only
        rw [List.getElem?_append_left (by simp), List.getElem?_append_right (by simp), List.getElem?_append_right (by simp)]
        simp
      rw [hf, h]
      by_cases e : p = w.who <;> simp [e]
theorem starts_eq (ws : List Wr) : (splitL [] 0 ws).map (·.start) = (List.range ws.length).filter (isFirst ws) := by
  cases ws with
  | nil => rfl
  | cons w ws =>
    rw [splitL_head, splitL_starts]
    have := startsF_filter (ws := ws) (pre := [w]) (p := w.who) rfl
    simp only [List.length_cons, List.length_nil, Nat.zero_add, List.singleton_append] at this
    rw [List.length_cons, List.range_eq_range', List.range'_succ, List.filter_cons, if_pos (by rfl)]
    simpa using this
theorem stops_eq (ws : List Wr) : (splitL [] 0 ws).map (·.stop) = ((splitL [] 0 ws).map (·.start)).tail ++ (if ws = [] then [] else [ws.length]) := by
  cases ws with
  | nil => rfl
  | cons w ws =>
    rw [splitL_head, splitL_stops rfl, if_neg (by simp), List.length_cons, Nat.add_comm]
theorem mostP_first {ws : List Wr} {i : Nat} (hi : i < ws.length) : mostP ws (i : Int) = if isFirst ws i = true then 0 else 2 := by
  have e : ((i : Int) ∈ startsP ws) = (isFirst ws i = true) := by
    have : startsP ws = ((splitL [] 0 ws).map (·.start)).map (fun (n : Nat) => (n : Int)) := by
      rw [List.map_map]
      rfl
    rw [this, starts_eq]
    apply propext
    simp only [List.mem_map, List.mem_filter, List.mem_range]
    exact ⟨fun ⟨a, ⟨_, h2⟩, h3⟩ => by
      have : a = i := by omega
      rwa [this] at h2, fun h => ⟨i, ⟨hi, h⟩, rfl⟩⟩
  unfold mostP
  simp only [e]
theorem tnP (ws : List Wr) : ∀ t ∈ splitL [] 0 ws, True := fun _ _ => trivial

structure Acc where
  parts : Pt
  segs : Int
  acks : Int
def clr1 (r : Rl) (a : Acc) : Acc := ⟨(clearA r a.parts).1, a.segs + (clearA r a.parts).2.1, a.acks + (clearA r a.parts).2.2⟩
def clrN (r : Rl) : Nat → Acc → Acc
  | 0, a => a
  | n + 1, a => clr1 r (clrN r n a)
def wrt (r : Rl) (w : Wr) (a : Acc) : Acc := ⟨(writeA r a.parts w.len w.mode).1, a.segs + (writeA r a.parts w.len w.mode).2.1, a.acks + (writeA r a.parts w.len w.mode).2.2⟩
/-- n writes from the i-th on -/
def turnA (r : Rl) (ws : List Wr) (st : List Int) : Nat → Nat → Acc → Acc
  | _, 0, a => a
  | i, n + 1, a => match ws[i]?, st[i]? with
    | some w, some k => turnA r ws st (i + 1) n (wrt r w (clrN r k.toNat a))
    | _, _ => a
structure OA where
  q : Int × Int
  segs : Int
  acks : Int
  stalled : List Int
def qOf (q : Int × Int) (who : Int) : Int := if who = 0 then q.1 else q.2
/-- the frame within a turn -/
def ocE (s : Se) (wsd ord std qd rf tn wh sa so : D) (r : Rl) (a : Acc) (e14 e15 e16 e17 e18 e19 : Option D) : En :=
  [some s.o, some wsd, some ord, some std, some qd, some (.int a.segs), some (.int a.acks), some rf, some tn, some wh, some sa, some so, some r.d, some a.parts.d, e14, e15, e16, e17, e18, e19]
section
variable {s : Se} {wsd ord std qd rf tn wh sa so : D} {r : Rl} {e14 e15 e16 e17 e18 e19 : Option D} {h : Hs}
end

def qd (q : Int × Int) : D := .tup [.int q.1, .int q.2]
def ocF (s : Se) (wsd ord std : D) (o : OA) (n : Nat) (r : List (Option D)) : En := some s.o :: some wsd :: some ord :: some std :: some (qd o.q) :: some (.int o.segs) :: some (.int o.acks) :: some (.ref n) :: r
structure SeOk (s : Se) : Prop where
  s0 : 1 ≤ s.size
  s1 : s.size ≤ 1000000000000000000
  a : 0 ≤ s.p0.every ∧ s.p0.every ≤ 9
  b : 0 ≤ s.p1.every ∧ s.p1.every ≤ 9
structure TnOk (n : Nat) (t : Tn) : Prop where
  who : t.who = 0 ∨ t.who = 1
  le : t.start ≤ t.stop
  top : t.stop ≤ n
theorem splitS_ok {n i : Nat} {acc : List Tn} {w : Wr} (hw : w.Ok) (hi : i < n) (ha : ∀ t ∈ acc, TnOk n t ∧ t.start ≤ i) : ∀ t ∈ splitS acc i w, TnOk n t ∧ t.start ≤ i + 1 := by
  intro t ht
  have new : TnOk n ⟨w.who, i, i + 1⟩ ∧ i ≤ i + 1 := ⟨⟨hw.who, by show i ≤ i + 1; omega, by show i + 1 ≤ n; omega⟩, by omega⟩
  unfold splitS at ht
  split at ht
  · rename_i u hu
    have hm : u ∈ acc := List.mem_of_getLast? hu
    split at ht
    · rcases List.mem_append.mp ht with z | z
      · obtain ⟨g1, g2⟩ := ha t (List.dropLast_subset _ z)
        exact ⟨g1, by omega⟩
      · obtain rfl := List.mem_singleton.mp z
        obtain ⟨g1, g2⟩ := ha u hm
        exact ⟨⟨hw.who, by show u.start ≤ i + 1; omega, by show i + 1 ≤ n; omega⟩, by show u.start ≤ i + 1; omega⟩
    · rcases List.mem_append.mp ht with z | z
      · obtain ⟨g1, g2⟩ := ha t z
        exact ⟨g1, by omega⟩
      · obtain rfl := List.mem_singleton.mp z
        exact new
  · obtain rfl := List.mem_singleton.mp ht
    exact new
theorem splitL_ok {n : Nat} : ∀ {ws : List Wr} {acc : List Tn} {i : Nat}, (∀ w ∈ ws, w.Ok) → i + ws.length ≤ n → (∀ t ∈ acc, TnOk n t ∧ t.start ≤ i) → ∀ t ∈ splitL acc i ws, TnOk n t
  | [], acc, i, _, _, ha, t, ht => (ha t ht).1
  | w :: ws, acc, i, hw, hi, ha, t, ht => by
    refine splitL_ok (ws := ws) (acc := splitS acc i w) (i := i + 1) (fun x hx => hw x (List.mem_cons_of_mem _ hx)) (by simp at hi; omega) (splitS_ok (hw w List.mem_cons_self) (by simp at hi; omega) ha) t ?_
    rw [splitL] at ht
    exact ht
def OA.l (o : OA) : List D := [.int (o.stalled.length : Int), .int o.segs, .int o.acks, .lst (o.stalled.map D.int)]
abbrev OA.o (o : OA) : D := .obj 3 o.l
def runT (r : Rl) : List Wr → List Int → Acc → Acc
  | w :: ws, k :: ks, a => runT r ws ks (wrt r w (clrN r k.toNat a))
  | _, _, a => a
theorem turnA_run {r : Rl} {ws : List Wr} {st : List Int} (hst : st.length = ws.length) : ∀ (n i : Nat) {a : Acc}, i + n ≤ ws.length → turnA r ws st i n a = runT r ((ws.drop i).take n) ((st.drop i).take n) a
  | 0, i, a, _ => by simp [turnA, runT]
  | n + 1, i, a, h => by
    have h1 : i < ws.length := by omega
    have h2 : i < st.length := by omega
    rw [turnA, List.getElem?_eq_getElem h1, List.getElem?_eq_getElem h2, List.drop_eq_getElem_cons h1, List.drop_eq_getElem_cons h2]
    dsimp only
    rw [List.take_succ_cons, List.take_succ_cons, runT, turnA_run hst n (i + 1) (by omega)]
def Contig (j : Nat) : Nat → List Tn → Prop
  | i, [] => i = j
  | i, t :: ts => t.start = i ∧ i ≤ t.stop ∧ Contig j t.stop ts
theorem contig_snoc {j : Nat} {t : Tn} : ∀ {ts : List Tn} {i : Nat}, Contig j i (ts ++ [t]) ↔ Contig t.start i ts ∧ t.start ≤ t.stop ∧ t.stop = j
  | [], i => by
    show (t.start = i ∧ i ≤ t.stop ∧ t.stop = j) ↔ (i = t.start ∧ t.start ≤ t.stop ∧ t.stop = j)
    constructor
    · rintro ⟨h1, h2, h3⟩; exact ⟨h1.symm, by omega, h3⟩
    · rintro ⟨h1, h2, h3⟩; exact ⟨h1.symm, by omega, h3⟩
  | u :: ts, i => by
    show (u.start = i ∧ i ≤ u.stop ∧ Contig j u.stop (ts ++ [t])) ↔ ((u.start = i ∧ i ≤ u.stop ∧ Contig t.start u.stop ts) ∧ t.start ≤ t.stop ∧ t.stop = j)
    rw [contig_snoc]
    constructor
    · rintro ⟨h1, h2, h3, h4⟩; exact ⟨⟨h1, h2, h3⟩, h4⟩
    · rintro ⟨⟨h1, h2, h3⟩, h4⟩; exact ⟨h1, h2, h3, h4⟩
theorem contig_split : ∀ {ws : List Wr} {acc : List Tn} {i : Nat}, Contig i 0 acc → Contig (i + ws.length) 0 (splitL acc i ws)
  | [], acc, i, h => h
  | w :: ws, acc, i, h => by
    rw [splitL, List.length_cons, show i + (ws.length + 1) = i + 1 + ws.length by omega]
    refine contig_split ?_
    rcases List.eq_nil_or_concat acc with rfl | ⟨as, t, ea⟩
    · have hi : i = 0 := by
        have : (0 : Nat) = i := h
        exact this.symm
      subst hi
      exact ⟨rfl, Nat.zero_le _, rfl⟩
    · rw [List.concat_eq_append] at ea
      subst ea
      rw [splitS_last]
      obtain ⟨h1, h2, h3⟩ := contig_snoc.mp h
      split
      · exact contig_snoc.mpr ⟨h1, by show t.start ≤ i + 1; omega, rfl⟩
      · exact contig_snoc.mpr ⟨h, Nat.le_succ _, rfl⟩
def Tn.part {α : Type} (xs : List α) (t : Tn) : List α := (xs.drop t.start).take (t.stop - t.start)
theorem part_flat {α : Type} {xs : List α} : ∀ {ts : List Tn} {i : Nat}, Contig xs.length i ts → i ≤ xs.length → (ts.map (Tn.part xs)).flatten = xs.drop i
  | [], i, h, _ => by
    have h : i = xs.length := h
    subst h
    simp
  | t :: ts, i, ⟨h1, h2, h3⟩, h4 => by
    have h5 : t.stop ≤ xs.length := by
      have : ∀ {ts : List Tn} {i : Nat}, Contig xs.length i ts → i ≤ xs.length := by
        intro ts
        induction ts with
        | nil => intro i h; exact Nat.le_of_eq h
        | cons t ts ih => rintro i ⟨_, g2, g3⟩; exact Nat.le_trans g2 (ih g3)
      exact this h3
    rw [List.map_cons, List.flatten_cons, part_flat h3 h5]
    unfold Tn.part
    rw [h1]
    have := List.take_append_drop (t.stop - i) (xs.drop i)
    rw [List.drop_drop, show i + (t.stop - i) = t.stop by omega] at this
    exact this
theorem zipL_map {α : Type} {f g : α → D} : ∀ {ts : List α}, zipL (ts.map f) (ts.map g) = ts.map fun t => .tup [f t, g t]
  | [] => rfl
  | t :: ts => by rw [List.map_cons, List.map_cons, zipL, zipL_map]; rfl
theorem cut_part {ws : List Wr} {t : Tn} (ht : TnOk ws.length t) : cutD (ws.map Wr.d) (some (t.start : Int)) (some (t.stop : Int)) = (t.part ws).map Wr.d := by
  have h1 := ht.le
  have h2 := ht.top
  unfold cutD Tn.part
  rw [sIx_nat (by rw [List.length_map]; omega), sIx_nat (by rw [List.length_map]; omega)]
  simp [List.map_take, List.map_drop]

end Ev
set_option Elab.async false
set_option linter.all false
set_option maxRecDepth 100000
set_option maxHeartbeats 4000000
namespace Ev
open PySem L2
theorem en7 {env : En} (h : env.length = 7) : ∃ a0 a1 a2 a3 a4 a5 a6, env = [a0, a1, a2, a3, a4, a5, a6] := by
  match env, h with
  | [a0, a1, a2, a3, a4, a5, a6], _ => exact ⟨a0, a1, a2, a3, a4, a5, a6, rfl⟩
def WritesI (h : Hs) (n : Nat) (k w : Int) (i : Nat) (e : En) (h' : Hs) : Prop := ∃ (ws : List Wr) (t : BagS) (who : Int), ws.length = i ∧ (∀ p ∈ ws, p.Ok ∧ p.len ≤ 4 * w) ∧ t.Ok (k + 3 + 30 * i) ∧ h' = (h ++ [O.lst (ws.map Wr.d)]).set n t.o ∧ (who = 0 ∨ who = 1) ∧ e.length = 7 ∧ e[0]? = some (some (.ref n)) ∧ e[1]? = some (some (.int w)) ∧ e[3]? = some (some (.ref h.length)) ∧ e[4]? = some (some (.int who))
theorem writes_sat {n m : Nat} {k w : Int} {h : Hs} {s : BagS} {Q : D → Hs → Prop} {E : Nat → List D → Hs → Prop} (hn : n < h.length) (ok : s.Ok k) (hk : k < 100000000) (h1 : 1 ≤ w) (h2 : w ≤ 100000000000000000) (hm : m ≤ 300)
    (q : ∀ (ws : List Wr) (t : BagS), ws.length = m → (∀ v ∈ ws, v.Ok ∧ v.len ≤ 4 * w) → t.Ok (k + 3 + 30 * m) → Q (.lst (ws.map Wr.d)) (h.set n t.o)) : R.Sat (G_l_writes [.ref n, .int w, .int (m : Int)] (h.set n s.o)) Q E := by
  refine sat_freeG ?_
  refine sat_runB ?_
  unfold b_l_writes
  refine sat_cons fun K hK => ?_
  repeat (first | simp [S.sat_toS, R.sat_bind, big] | simp (disch := omega) only [mul_l, mul_r, fdiv_sm, mod_ok])
  rw [push_set hn]
  have hn1 : n < (h ++ [O.lst []]).length := by simp; omega
  refine take_sat (by first | assumption | omega) (by assumption) (by omega) (by omega) (by omega) fun r0 s0 _ _ _ => ?_; try dsimp only
  repeat (first | simp [S.sat_toS, R.sat_bind, big] | simp (disch := omega) only [mul_l, mul_r, fdiv_sm, mod_ok])
  refine hK _ _ ?_; clear hK K
  refine sat_cons fun K hK => ?_
  refine sat_for (WritesI h n k w)
    (xs := (List.range m).map fun (i : Nat) => D.int (i : Int)) (h1 := (h ++ [O.lst []]).set n s0.o) (iRange1_ok (m := m) (by simp) (by omega)) ?_ ?_ ⟨[], s0, r0, rfl, by simp, (show s0.Ok (k + 3) by assumption).mono (by omega), rfl, by omega, rfl, rfl, rfl, rfl, rfl⟩
  · rintro i x e h' hx ⟨ws, t, who, hl, hp, okt, rfl, hw, he, e0, e1, e3, e4⟩
    have hi : i < m := by
      have := (List.getElem?_eq_some_iff.mp hx).1
      simpa using this
    refine ⟨_, kName_ap, ?_⟩
    obtain ⟨a0, a1, a2, a3, a4, a5, a6, rfl⟩ := en7 he
    simp at e0 e1 e3 e4
    subst e0 e1 e3 e4
    have hn2 : n < (h ++ [O.lst (ws.map Wr.d)]).length := by simp; omega
    unfold b_l_writes_1
    refine sat_cons fun K hK => ?_
    repeat (first | simp [S.sat_toS, R.sat_bind, big] | simp (disch := omega) only [mul_l, mul_r, fdiv_sm, mod_ok])
    refine take_sat (by first | assumption | omega) (by assumption) (by omega) (by omega) (by omega) fun r1 s1 _ _ _ => ?_; try dsimp only
    have go : ∀ who' : Int, (who' = 0 ∨ who' = 1) → K [some (.ref n), some (.int w), a2, some (.ref h.length), some (.int who'), some x, a6] ((h ++ [O.lst (ws.map Wr.d)]).set n s1.o) := by
      intro who' hw'
      refine hK _ _ ?_; clear hK K
      refine sat_cons fun K hK => ?_
      repeat (first | simp [S.sat_toS, R.sat_bind, big] | simp (disch := omega) only [mul_l, mul_r, fdiv_sm, mod_ok])
      refine take_sat (by first | assumption | omega) (by assumption) (by omega) (by omega) (by omega) fun r2 s2 _ _ _ => ?_; try dsimp only
      refine pick_sat (fun d => ∃ x : Mode, d = .str x.s) (by omega) (by simp; omega) (by
        intro d hd
        simp at hd
        rcases hd with rfl | rfl | rfl | rfl | rfl | rfl <;> first | exact ⟨.plain, rfl⟩ | exact ⟨.push, rfl⟩ | exact ⟨.more, rfl⟩) ?_
      rintro _ ⟨y, rfl⟩
      refine hK _ _ ?_; clear hK K
      repeat (first | simp [S.sat_toS, R.sat_bind, big] | simp (disch := omega) only [mul_l, mul_r, fdiv_sm, mod_ok])
      rw [if_pos (tyk_new hn)]
      repeat (first | simp [S.sat_toS, R.sat_bind, big] | simp (disch := omega) only [mul_l, mul_r, fdiv_sm, mod_ok])
      refine amount_sat (k := k + 3 + 30 * i + 3 + 3) hn2 (by assumption) (by omega) h1 h2 fun v t' v1 v2 okt' => ?_
      repeat (first | simp [S.sat_toS, R.sat_bind, big] | simp (disch := omega) only [mul_l, mul_r, fdiv_sm, mod_ok])
      rw [app_new hn (by rw [List.length_map]; exact Nat.lt_trans (by omega : ws.length < 301) (by decide))]
      repeat (first | simp [S.sat_toS, R.sat_bind, big] | simp (disch := omega) only [mul_l, mul_r, fdiv_sm, mod_ok])
      unfold WritesI
      refine ⟨ws ++ [⟨who', v, y⟩], t', who', by simp [hl], ?_, okt'.mono (by push_cast; omega), by simp [Wr.d], by assumption, rfl, rfl, rfl, rfl, rfl⟩
      intro p hp'
      rcases List.mem_append.mp hp' with z | z
      · exact hp p z
      · obtain rfl := List.mem_singleton.mp z
        exact ⟨⟨hw', v1, by show v ≤ _; omega⟩, v2⟩
    by_cases hr : r1 = 0
    · simpa [hr] using go (1 - who) (by omega)
    · simpa [hr] using go who hw
  rintro e h' ⟨ws, t, who, hl, hp, okt, rfl, hw, he, e0, e1, e3, e4⟩
  refine hK _ _ ?_; clear hK K
  obtain ⟨a0, a1, a2, a3, a4, a5, a6, rfl⟩ := en7 he
  simp at e0 e1 e3 e4
  subst e0 e1 e3 e4
  simp at hl
  repeat (first | simp [S.sat_toS, R.sat_bind, big] | simp (disch := omega) only [mul_l, mul_r, fdiv_sm, mod_ok])
  refine free_new hn (fun m => nrs_map fun a _ => by simp [Wr.d, D.nr, D.nrs]) ?_
  exact q ws t hl hp (okt.mono (by simp <;> omega))
end Ev
set_option Elab.async false
set_option linter.all false
set_option maxRecDepth 100000
set_option maxHeartbeats 4000000
namespace Ev
open PySem L2
/-! ### short texts -/
structure Sh (a : Str) (n : Nat) : Prop where
  len : a.length ≤ n
  ok : PyData.strOk a = true
theorem Sh.app {a b : Str} {n m : Nat} (x : Sh a n) (y : Sh b m) : Sh (a ++ b) (n + m) := ⟨by rw [strLen_append]; have := x.len; have := y.len; omega, strOk_append x.ok y.ok⟩
theorem Sh.mono {a : Str} {n m : Nat} (x : Sh a n) (h : n ≤ m) : Sh a m := ⟨Nat.le_trans x.len h, x.ok⟩
theorem Sh.lit (s : String) (n : Nat) (h : (Str.ofString s).length ≤ n := by decide +kernel) : Sh (Str.ofString s) n := ⟨h, strOk_of s⟩
def istr (i : Int) : Str := Str.ofString (toString i)
theorem sh_int {i : Int} (h : i.natAbs < 1180591620717411303424) : Sh (istr i) 71 := ⟨(rp_int h).len, strOk_of _⟩
theorem sh_hold (x : Hold) : Sh x.s 7 := by cases x <;> exact ⟨by decide +kernel, by decide +kernel⟩
theorem add_sh {a b : Str} {n m : Nat} {h : Hs} (x : Sh a n) (y : Sh b m) (hl : n + m ≤ 16777216) : addD (.str a) (.str b) h = .ok (.str (a ++ b)) h := by
  show (if a.length + b.length ≤ big then R.ok (D.str (a ++ b)) h else .bad) = _
  rw [if_pos (Nat.le_trans (by have := x.len; have := y.len; omega : a.length + b.length ≤ 16777216) (by decide))]
theorem fmt_sh {y : Str} {n : Nat} {h : Hs} (x : Sh y n) (hl : n ≤ 16777216) : fmtD (.str y) h = .ok (.str y) h := by
  show (if Nat.ble y.length 16777216 = true then R.ok (D.str y) h else .bad) = _
  rw [if_pos (Nat.ble_eq_true_of_le (Nat.le_trans x.len hl))]
theorem fmt_int {i : Int} {h : Hs} (hi : i.natAbs < 1180591620717411303424) : fmtD (.int i) h = .ok (.str (istr i)) h := by
  show (if Nat.ble i.natAbs 1180591620717411303423 = true then R.ok (D.str (Str.ofString (toString i))) h else .bad) = _
  rw [if_pos (Nat.ble_eq_true_of_le (by omega))]
  rfl
theorem str_int {i : Int} {h : Hs} (hi : i.natAbs < 1180591620717411303424) : strTD [.int i] h = .ok (.str (istr i)) h := strTD_ok hi
theorem fmtR_hold (x : Hold) {h : Hs} : fmtRD (.str x.s) h = .ok (.str (reprText x.s)) h := by
  show (if (Nat.ble (reprText x.s).length 16777216 && PyData.strOk (reprText x.s)) = true then R.ok (D.str (reprText x.s)) h else .bad) = _
  rw [if_pos (by cases x <;> decide +kernel)]
theorem jc {fe : En → Hs → R D} {f : Str → En → Hs → R D} {acc y : Str} {env : En} {h h1 : Hs} {n m : Nat} (e : fe env h = .ok (.str y) h1) (x : Sh acc n) (z : Sh y m) (hl : n + m ≤ 16777216) : jCons fe f acc env h = f (acc ++ y) env h1 := by
  rw [jCons_ap, e]
  simp only [R.bind_ok]
  rw [if_pos (Nat.ble_eq_true_of_le (Nat.le_trans (x.app z).len hl))]
theorem join_sh {sep : Str} {ys : List Str} {ds : List D} {h : Hs} (hl : (ys.map fun y : Str => y.length).sum + ys.length * sep.length ≤ 16777216) (ho : PyData.strOk (Str.join sep ys) = true) (hy : strsOf ds = some ys) : joinD (.str sep) [.lst ds] h = .ok (.str (Str.join sep ys)) h := by
  show (match strsOf ds with
    | some ys => if (Nat.ble ((ys.map fun y : Str => y.length).sum + ys.length * sep.length) 16777216 && PyData.strOk (Txt.join sep ys)) = true then R.ok (D.str (Txt.join sep ys)) h else .bad
    | none => .bad) = _
  rw [hy]
  have e : Txt.join sep ys = Str.join sep ys := StrLaws.glued_eq_join sep ys
  dsimp only
  rw [e, ho, Nat.ble_eq_true_of_le hl]
  rfl
/-! ### policies -/
def Po.vl (p : Po) : D := .lst [.str p.hold.s, .int p.every, .int p.quick]
def polS (p : Po) : Str := p.hold.s ++ Str.ofString " " ++ (istr p.every ++ Str.ofString " " ++ istr p.quick)
def polR (p : Po) : Str := Str.ofString "Policy('" ++ p.hold.s ++ Str.ofString "', every=" ++ istr p.every ++ Str.ofString ", quick=" ++ istr p.quick ++ Str.ofString ")"
section
variable {p r : Po} {h : Hs}
theorem Po.Ok.be (o : p.Ok) : p.every.natAbs < 1180591620717411303424 := by have := o.e0; have := o.e9; omega
theorem Po.Ok.bq (o : p.Ok) : p.quick.natAbs < 1180591620717411303424 := by have := o.q0; have := o.q4; omega
theorem sh_polS (o : p.Ok) : Sh (polS p) 200 := (((sh_hold _).app (.lit " " 1)).app (((sh_int o.be).app (.lit " " 1)).app (sh_int o.bq))).mono (by decide)
theorem sh_polR (o : p.Ok) : Sh (polR p) 300 := Sh.mono (Sh.app (Sh.app (Sh.app (Sh.app (Sh.app (Sh.app (Sh.lit "Policy('" 8) (sh_hold _)) (Sh.lit "', every=" 9)) (sh_int o.be)) (Sh.lit ", quick=" 8)) (sh_int o.bq)) (Sh.lit ")" 1)) (by decide)
theorem policy_str (o : p.Ok) : G_Policy_str [p.o] h = .ok (.str (polS p)) h := by
  refine runB_ret ?_
  show b_Policy_str [some p.o] h = _
  unfold b_Policy_str
  have z : Sh Str.empty 0 := ⟨by decide +kernel, by decide +kernel⟩
  have s1 := sh_hold p.hold
  have s2 := Sh.lit " " 1
  have s3 := sh_int o.be
  have s4 := sh_int o.bq
  have h1 := jc (f := jCons (eC (.str " ")) (jCons (eFmt fmtD (eAttr [(0, 1)] (eVar 0))) (jCons (eC (.str " ")) (jCons (eFmt fmtD (eAttr [(0, 2), (2, 5)] (eVar 0))) jNil)))) (fe := eFmt fmtD (eAttr [(0, 0)] (eVar 0))) (env := [some p.o]) (h := h) (h1 := h) (y := p.hold.s) (by simp [Po.o, fmt_sh s1]) z s1 (by decide)
  rw [sRet_ap, eJoin_ap, h1, jc (y := " ") rfl (z.app s1) s2 (by decide), jc (y := istr p.every) (h1 := h) (by simp [Po.o, fmt_int o.be]) ((z.app s1).app s2) s3 (by decide), jc (y := " ") rfl (((z.app s1).app s2).app s3) s2 (by decide),
    jc (y := istr p.quick) (h1 := h) (by simp [Po.o, fmt_int o.bq]) ((((z.app s1).app s2).app s3).app s2) s4 (by decide), jNil_ap]
  simp only [R.bind_ok, R.toS_ok, polS, Str.append_assoc, Str.empty_append]
theorem law_words (o : p.Ok) : G_l_words [p.vl] h = .ok (.str (polS p)) h := by
  refine runB_ret ?_
  have e1 : ∀ h', eComp (iSeq (eVar 0)) (kName 1) bYes (eCall strXD (aCons (eVar 1) aNil)) [1] [some p.vl, none] h' = .ok (.lst [.str p.hold.s, .str (istr p.every), .str (istr p.quick)]) h' := fun h' =>
    eComp_fg (ls := [(D.str p.hold.s, p.hold.s), (D.int p.every, istr p.every), (D.int p.quick, istr p.quick)]) (f := (·.1)) (g := fun a => .str a.2) (by simp [Po.vl]) (by
      intro a ha
      refine ⟨_, rfl, fun h' => ?_⟩
      simp at ha
      rcases ha with rfl | rfl | rfl <;> simp [wipeE, Po.vl, str_int o.be, str_int o.bq]) (by simp [big]) (by intro a _; rw [D.nr])
  have e2 : joinD (.str " ") [.lst [.str p.hold.s, .str (istr p.every), .str (istr p.quick)]] h = .ok (.str (polS p)) h := by
    have a1 := (sh_hold p.hold).len
    have a2 := (sh_int o.be).len
    have a3 := (sh_int o.bq).len
    have a4 : (Str.ofString " ").length = 1 := by decide +kernel
    refine join_sh (ys := [p.hold.s, istr p.every, istr p.quick]) ?_ (sh_polS o).ok rfl
    simp only [List.map_cons, List.map_nil, List.sum_cons, List.sum_nil, List.length_cons, List.length_nil, a4]
    omega
  simp [b_l_words, e1, e2, tyOk]
theorem tx_str (o : p.Ok) : txOwnD 0 (posF 1 G_Policy_str) [p.o] h = .ok (.str (polS p)) h := by
  show txOwn 0 (posF 1 G_Policy_str) p.o h = _
  unfold txOwn
  rw [if_pos (by simp [Po.o]), posF_ap, if_pos (by simp), policy_str o, R.nerr_ok]
  simp only [R.bind_ok]
  rw [if_pos (Nat.ble_eq_true_of_le (Nat.le_trans (sh_polS o).len (by decide)))]
/-- equal policies -/
def peq (p r : Po) : Bool := decide (p.hold.s = r.hold.s) && (decide (p.every = r.every) && decide (p.quick = r.quick))
theorem peq_self : peq p p = true := by simp [peq]
theorem eqv_lists : PyData.eqv (.list [.str p.hold.s, .int p.every, .int p.quick]) (.list [.str r.hold.s, .int r.every, .int r.quick]) = peq p r := by
  unfold peq
  by_cases h1 : p.hold.s = r.hold.s <;> by_cases h2 : p.every = r.every <;> by_cases h3 : p.quick = r.quick <;> simp [PyData.eqv, PyData.eqvAll, h1, h2, h3]
theorem peq_lists : eqD p.vl r.vl h = .ok (.bl (peq p r)) h := by
  have e : eqD p.vl r.vl h = .ok (.bl (PyData.eqv (.list [.str p.hold.s, .int p.every, .int p.quick]) (.list [.str r.hold.s, .int r.every, .int r.quick]))) h := rfl
  rw [e]
  rw [eqv_lists]
theorem pne_lists : neD p.vl r.vl h = .ok (.bl (!peq p r)) h := by
  have e : neD p.vl r.vl h = .ok (.bl (!PyData.eqv (.list [.str p.hold.s, .int p.every, .int p.quick]) (.list [.str r.hold.s, .int r.every, .int r.quick]))) h := rfl
  rw [e]
  rw [eqv_lists]
theorem policy_eq : G_Policy_eq [p.o, r.o] h = .ok (.bl (peq p r)) h := by
  refine runB_ret ?_
  unfold peq Po.o
  by_cases h1 : p.hold.s = r.hold.s <;> by_cases h2 : p.every = r.every <;> simp [b_Policy_eq, h1, h2]
theorem own_eq : eqOwnD 0 (posF 2 G_Policy_eq) p.o r.o h = .ok (.bl (peq p r)) h := by
  unfold eqOwnD
  rw [if_pos ⟨by simp [Po.o], by simp [Po.o]⟩, posF_ap, if_pos (by simp), policy_eq, R.nerr_ok]
theorem own_ne : neOwnD 0 (posF 2 G_Policy_eq) p.o r.o h = .ok (.bl (!peq p r)) h := by
  unfold neOwnD
  rw [own_eq]
  rfl
theorem oth_eq {y : D} {n : String} (hp : primOf y h = some n) : eqOthD 0 (posF 2 G_Policy_eq) p.o y h = .ok (.bl false) h := by
  have e1 : isiD (.cls 0) [0, 1] y h = .ok (.bl false) h := by
    unfold isiD
    rw [hp]
    rfl
  have e : G_Policy_eq [p.o, y] h = .ok (.bl false) h := by
    refine runB_ret ?_
    simp [b_Policy_eq, e1]
  unfold eqOthD
  rw [if_pos ⟨by simp [Po.o], by rw [hp]; rfl⟩, posF_ap, if_pos (by simp), e, R.nerr_ok]
end
end Ev
set_option Elab.async false
set_option linter.all false
set_option maxRecDepth 100000
set_option maxHeartbeats 4000000
namespace Ev
open PySem L2
/-! ### settings -/
structure Se.Ok (s : Se) : Prop where
  z1 : 1 ≤ s.size
  z2 : s.size ≤ 1000000000000000000
  o0 : s.p0.Ok
  o1 : s.p1.Ok
def setS (s : Se) : Str := istr s.size ++ Str.ofString "; " ++ polS s.p0 ++ Str.ofString "; " ++ polS s.p1
def setR (s : Se) : Str := Str.ofString "Setting(" ++ istr s.size ++ Str.ofString ", " ++ polR s.p0 ++ Str.ofString ", " ++ polR s.p1 ++ Str.ofString ")"
def sqe (s r : Se) : Bool := decide (s.size = r.size) && (peq s.p0 r.p0 && peq s.p1 r.p1)
section
variable {s r : Se} {h : Hs}
theorem Se.Ok.bz (o : s.Ok) : s.size.natAbs < 1180591620717411303424 := by have := o.z1; have := o.z2; omega
theorem sh_setS (o : s.Ok) : Sh (setS s) 1000 := Sh.mono (Sh.app (Sh.app (Sh.app (Sh.app (sh_int o.bz) (Sh.lit "; " 2)) (sh_polS o.o0)) (Sh.lit "; " 2)) (sh_polS o.o1)) (by decide)
theorem sh_setR (o : s.Ok) : Sh (setR s) 1000 := Sh.mono (Sh.app (Sh.app (Sh.app (Sh.app (Sh.app (Sh.app (Sh.lit "Setting(" 8) (sh_int o.bz)) (Sh.lit ", " 2)) (sh_polR o.o0)) (Sh.lit ", " 2)) (sh_polR o.o1)) (Sh.lit ")" 1)) (by decide)
theorem se_str (o : s.Ok) : G_Setting_str [s.o] h = .ok (.str (setS s)) h := by
  refine runB_ret ?_
  show b_Setting_str [some s.o] h = _
  unfold b_Setting_str
  have z : Sh Str.empty 0 := ⟨by decide +kernel, by decide +kernel⟩
  have s1 := sh_int o.bz
  have s2 := Sh.lit "; " 2
  have s3 := sh_polS o.o0
  have s4 := sh_polS o.o1
  have t1 : txOwn 0 (posF 1 G_Policy_str) s.p0.o h = _ := tx_str (h := h) o.o0
  have t2 : txOwn 0 (posF 1 G_Policy_str) s.p1.o h = _ := tx_str (h := h) o.o1
  have h1 := jc (f := jCons (eC (.str "; ")) (jCons (eFmt (txOwn 0 (posF 1 G_Policy_str)) (eBin ixD (eAttr [(1, 1)] (eVar 0)) (eC (.int 0)))) (jCons (eC (.str "; ")) (jCons (eFmt (txOwn 0 (posF 1 G_Policy_str)) (eBin ixD (eAttr [(1, 1)] (eVar 0)) (eC (.int 1)))) jNil)))) (fe := eFmt fmtD (eAttr [(1, 0)] (eVar 0))) (env := [some s.o]) (h := h) (h1 := h) (y := istr s.size) (by simp [Se.o, fmt_int o.bz]) z s1 (by decide)
  rw [sRet_ap, eJoin_ap, h1, jc (y := "; ") rfl (z.app s1) s2 (by decide), jc (y := polS s.p0) (h1 := h) (by simp [Se.o, t1]) ((z.app s1).app s2) s3 (by decide), jc (y := "; ") rfl (((z.app s1).app s2).app s3) s2 (by decide),
    jc (y := polS s.p1) (h1 := h) (by simp [Se.o, t2]) ((((z.app s1).app s2).app s3).app s2) s4 (by decide), jNil_ap]
  simp only [R.bind_ok, R.toS_ok, setS, Str.empty_append]
theorem txs_str (o : s.Ok) : txOwnD 1 (posF 1 G_Setting_str) [s.o] h = .ok (.str (setS s)) h := by
  show txOwn 1 (posF 1 G_Setting_str) s.o h = _
  unfold txOwn
  rw [if_pos (by simp [Se.o]), posF_ap, if_pos (by simp), se_str o, R.nerr_ok]
  simp only [R.bind_ok]
  rw [if_pos (Nat.ble_eq_true_of_le (Nat.le_trans (sh_setS o).len (by decide)))]
/-! equality -/
theorem flat_po {p : Po} : flatO 0 p.o = true := by simp [flatO, Po.o, atomD]
theorem po_inj {p r : Po} (e : p.o = r.o) : peq p r = true := by
  unfold Po.o at e
  simp at e
  obtain ⟨e1, e2, e3⟩ := e
  unfold peq
  rw [decide_eq_true e1, decide_eq_true e2, decide_eq_true e3]
  rfl
theorem all_nil {c : Nat} {F : List D → List D → Hs → R D} : eqAllD c F [] [] h = .ok (.bl true) h := by unfold eqAllD; rfl
theorem all_cons {p r : Po} {xs ys : List D} : eqAllD 0 (posF 2 G_Policy_eq) (p.o :: xs) (r.o :: ys) h = if peq p r = true then eqAllD 0 (posF 2 G_Policy_eq) xs ys h else .ok (.bl false) h := by
  conv => lhs; unfold eqAllD
  rw [if_pos ⟨flat_po, flat_po⟩, posF_ap, if_pos (by simp), policy_eq, R.nerr_ok]
  simp only [R.bind_ok]
  rw [if_pos ⟨po_inj, rfl⟩]
theorem tup_pols {p0 p1 r0 r1 : Po} : eqTupD 0 (posF 2 G_Policy_eq) (.tup [p0.o, p1.o]) (.tup [r0.o, r1.o]) h = .ok (.bl (peq p0 r0 && peq p1 r1)) h := by
  unfold eqTupD
  dsimp only
  rw [if_pos (show [p0.o, p1.o].length = [r0.o, r1.o].length from rfl), all_cons, all_cons, all_nil]
  cases peq p0 r0 <;> cases peq p1 r1 <;> rfl
theorem setting_eq : G_Setting_eq [s.o, r.o] h = .ok (.bl (sqe s r)) h := by
  refine runB_ret ?_
  have e := fun h' => tup_pols (h := h') (p0 := s.p0) (p1 := s.p1) (r0 := r.p0) (r1 := r.p1)
  unfold sqe Se.o
  by_cases h1 : s.size = r.size <;> simp [b_Setting_eq, h1, e]
theorem own_seq : eqOwnD 1 (posF 2 G_Setting_eq) s.o r.o h = .ok (.bl (sqe s r)) h := by
  unfold eqOwnD
  rw [if_pos ⟨by simp [Se.o], by simp [Se.o]⟩, posF_ap, if_pos (by simp), setting_eq, R.nerr_ok]
theorem own_sne : neOwnD 1 (posF 2 G_Setting_eq) s.o r.o h = .ok (.bl (!sqe s r)) h := by
  unfold neOwnD
  rw [own_seq]
  rfl
theorem oth_seq {y : D} {n : String} (hp : primOf y h = some n) : eqOthD 1 (posF 2 G_Setting_eq) s.o y h = .ok (.bl false) h := by
  have e1 : isiD (.cls 1) [0, 1] y h = .ok (.bl false) h := by
    unfold isiD
    rw [hp]
    rfl
  have e : G_Setting_eq [s.o, y] h = .ok (.bl false) h := by
    refine runB_ret ?_
    simp [b_Setting_eq, e1]
  unfold eqOthD
  rw [if_pos ⟨by simp [Se.o], by rw [hp]; rfl⟩, posF_ap, if_pos (by simp), e, R.nerr_ok]
end
/-! settings of no and of one policy; policies by other names -/
theorem setting_init1 {h : Hs} {size : Int} {fs : List D} (h1 : 1 ≤ size) (h2 : size ≤ 1000000000000000000) : G_Setting_init [.ref h.length, .int size, .tup [.obj 0 fs]] (h ++ [.ins 1 []]) = .ok .non (h ++ [.ins 1 [.int size, .tup [.obj 0 fs, .obj 0 fs]]]) := by
  refine runB_nx (env := [some (.ref h.length), some (.int size), some (.tup [.obj 0 fs]), some (.lst [.obj 0 fs, .obj 0 fs, .obj 0 [.str "all", .int 2, .int 0], .obj 0 [.str "all", .int 2, .int 0]]), none]) ?_
  · have e1 : ∀ h', eComp (iSeq (eVar 2)) (kName 4) bYes (eIsi (.cls 0) [0, 1] (eVar 4)) [4] [some (.ref h.length), some (.int size), some (.tup [.obj 0 fs]), none, none] h' = .ok (.lst [.bl true]) h' := fun h' =>
      eComp_map (g := fun _ => .bl true) (xs := [.obj 0 fs]) (by simp) (by
        intro x hx
        refine ⟨_, rfl, fun _ => rfl, fun h' => ?_⟩
        simp at hx
        rcases hx with rfl <;> simp [wipeE]) (by simp [big]) (by simp [D.nrs, D.nr])
    simp [b_Setting_init, in_range_eq, h1, h2, e1, allD, blsOf, policy_make0, big, putI]
theorem setting_init0 {h : Hs} {size : Int} (h1 : 1 ≤ size) (h2 : size ≤ 1000000000000000000) : G_Setting_init [.ref h.length, .int size, .tup []] (h ++ [.ins 1 []]) = .ok .non (h ++ [.ins 1 [.int size, .tup [.obj 0 [.str "all", .int 2, .int 0], .obj 0 [.str "all", .int 2, .int 0]]]]) := by
  refine runB_nx (env := [some (.ref h.length), some (.int size), some (.tup []), some (.lst [.obj 0 [.str "all", .int 2, .int 0], .obj 0 [.str "all", .int 2, .int 0]]), none]) ?_
  · have e1 : ∀ h', eComp (iSeq (eVar 2)) (kName 4) bYes (eIsi (.cls 0) [0, 1] (eVar 4)) [4] [some (.ref h.length), some (.int size), some (.tup []), none, none] h' = .ok (.lst []) h' := fun h' =>
      eComp_map (g := fun _ => .bl true) (xs := []) (by simp) (by
        intro x hx
        simp at hx) (by simp [big]) (by simp [D.nrs, D.nr])
    simp [b_Setting_init, in_range_eq, h1, h2, e1, allD, blsOf, policy_make0, big, putI]
theorem se_make2 {env : En} {h : Hs} {w : Int} {p0 p1 : Po} {fd : En → Hs → R DD2} (h1 : 1 ≤ w) (h2 : w ≤ 1000000000000000000) (e : fd env h = .ok ([.int w, p0.o, p1.o], []) h) : eMake 1 (starF 2 G_Setting_init) fd env h = .ok (Se.o ⟨w, p0, p1⟩) h :=
  setting_make h1 h2 (by simp [D.nrs, D.nr]) (by simp [D.nrs, D.nr]) e
theorem se_make1 {env : En} {h : Hs} {w : Int} {p : Po} {fd : En → Hs → R DD2} (h1 : 1 ≤ w) (h2 : w ≤ 1000000000000000000) (e : fd env h = .ok ([.int w, p.o], []) h) : eMake 1 (starF 2 G_Setting_init) fd env h = .ok (Se.o ⟨w, p, p⟩) h := by
  have e1 := setting_init1 (h := h) (size := w) (fs := [.str p.hold.s, .int p.every, .int p.quick]) h1 h2
  unfold Po.o at e
  refine eMake_ap (n' := 1) (xs := [.int w, p.o]) (ys := []) (fs := [.int w, .tup [p.o, p.o]]) e ?_ (by simp [D.nrs, D.nr, Po.o])
  unfold Po.o
  simp [big, e1]
theorem se_make0 {env : En} {h : Hs} {w : Int} {fd : En → Hs → R DD2} (h1 : 1 ≤ w) (h2 : w ≤ 1000000000000000000) (e : fd env h = .ok ([.int w], []) h) : eMake 1 (starF 2 G_Setting_init) fd env h = .ok (Se.o ⟨w, ⟨.all, 2, 0⟩, ⟨.all, 2, 0⟩⟩) h := by
  have e1 := setting_init0 (h := h) (size := w) h1 h2
  refine eMake_ap (n' := 1) (xs := [.int w]) (ys := []) (fs := [.int w, .tup [Po.o ⟨.all, 2, 0⟩, Po.o ⟨.all, 2, 0⟩]]) e ?_ (by simp [D.nrs, D.nr, Po.o])
  unfold Po.o
  simp [big, e1, Hold.s]
theorem po_make0 {env : En} {h : Hs} : eMake 0 (kwF 1 0 d_Policy_init_s1 G_Policy_init) cNil env h = .ok (Po.o ⟨.all, 2, 0⟩) h := policy_make0
end Ev
set_option Elab.async false
set_option linter.all false
set_option maxRecDepth 100000
set_option maxHeartbeats 4000000
namespace Ev
open PySem L2
open TL (tl numL)
/-! ### numbers written and read -/
theorem tl_istr (n : Nat) : tl (istr n) = numL n := TL.tl_num n
theorem numL_head {n : Nat} : ∀ {c : Nat} {r : List Nat}, numL n = c :: r → c = 48 → n = 0 := by
  induction n using Nat.strongRecOn with
  | _ n ih =>
    intro c r e hc
    by_cases h : n < 10
    · rw [TL.numL_lt h] at e
      injection e with e1 e2
      omega
    · rw [TL.numL_step (by omega)] at e
      cases e2 : numL (n / 10) with
      | nil => exact absurd e2 (TL.numL_ne _)
      | cons d t =>
        rw [e2, List.cons_append] at e
        injection e with e3 e4
        have := ih (n / 10) (by omega) e2 (by omega)
        omega
theorem digit_in {c : Nat} (h : 48 ≤ c ∧ c ≤ 57) : (Str.ofString "0123456789").cps.contains c = true := by
  obtain ⟨h1, h2⟩ := h
  have : c = 48 ∨ c = 49 ∨ c = 50 ∨ c = 51 ∨ c = 52 ∨ c = 53 ∨ c = 54 ∨ c = 55 ∨ c = 56 ∨ c = 57 := by omega
  rcases this with rfl | rfl | rfl | rfl | rfl | rfl | rfl | rfl | rfl | rfl <;> decide +kernel
theorem takeW_all {p : Nat → Bool} : ∀ {l : List Nat}, (∀ c ∈ l, p c = true) → l.takeWhile p = l
  | [], _ => rfl
  | c :: l, h => by rw [List.takeWhile_cons, if_pos (h c (List.mem_cons_self ..)), takeW_all fun d hd => h d (List.mem_cons_of_mem _ hd)]
theorem strip_num (n : Nat) : Txt.stripChars (istr n) (Str.ofString "0123456789") = Str.empty := by
  have ht : (istr n).cps.toList = numL n := tl_istr n
  have hl : (istr n).length = (numL n).length := by rw [← ht]; simp [Str.length]
  have hne : (numL n).length ≠ 0 := fun e => TL.numL_ne n (List.length_eq_zero_iff.mp e)
  have hw : ((istr n).cps.toList.takeWhile (Str.ofString "0123456789").cps.contains).length = (numL n).length := by
    rw [ht, takeW_all]
    intro c hc
    exact digit_in (TL.numL_digits n c hc)
  have e1 : stripLo (Str.ofString "0123456789").cps.contains true (istr n) = (numL n).length := by
    unfold stripLo
    rw [if_pos rfl, hw]
  have e2 : stripHi (Str.ofString "0123456789").cps.contains true (istr n) (numL n).length = (numL n).length := by
    unfold stripHi
    rw [if_pos rfl, ht, List.drop_length, hl]
    rfl
  unfold Txt.stripChars Txt.stripBy stripSame stripped
  rw [e1, e2, if_neg (by simp [hne])]
  refine TL.ext_tl ?_
  rw [TL.tl_strSub, Nat.sub_self, List.take_zero]
  rfl
theorem istr_ne (n : Nat) : istr n ≠ Str.ofString "" := fun e => by
  have := tl_istr n
  rw [e] at this
  exact TL.numL_ne n this.symm
theorem istr_inj {n m : Nat} (e : istr n = istr m) : n = m := by
  have h := congrArg tl e
  rw [tl_istr, tl_istr] at h
  exact TL.numL_inj h
theorem istr_len {n : Nat} (h : n < 10 ^ 40) : (istr n).length ≤ 40 := by
  rw [TL.len_tl, tl_istr]
  exact TL.numL_len (by decide) h
theorem len_str {a : Str} {h : Hs} (e : a.length ≤ 1000000) : lenD [.str a] h = .ok (.int a.length) h := by
  show (if a.length ≤ big then R.ok (D.int a.length) h else .bad) = _
  rw [if_pos (Nat.le_trans e (by decide))]
theorem strip_ok {n : Nat} {h : Hs} (e : (istr n).length ≤ 40) : stripD (.str (istr n)) [.str (Str.ofString "0123456789")] h = .ok (.str Str.empty) h := by
  show (if (Nat.ble (istr n).length 16777216 && PyData.strOk (Txt.stripChars (istr n) (Str.ofString "0123456789"))) = true then R.ok (D.str (Txt.stripChars (istr n) (Str.ofString "0123456789"))) h else .bad) = _
  rw [strip_num, if_pos (by rw [Nat.ble_eq_true_of_le (Nat.le_trans e (by decide))]; decide +kernel)]
theorem int_ok {n : Nat} {h : Hs} (e : (istr n).length ≤ 40) : intXD [.str (istr n)] h = .ok (.int n) h := by
  have e2 : intText? (istr n) = some (n : Int) := TL.int_num (by
    have := e
    rw [TL.len_tl, tl_istr] at this
    omega)
  show (match intText? (istr n) with
    | some n' => if Nat.ble (istr n).length 640 = true then R.ok (D.int n') h else .bad
    | none => .bad) = _
  rw [e2]
  dsimp only
  rw [if_pos (Nat.ble_eq_true_of_le (Nat.le_trans e (by decide)))]
theorem at_head {a : Str} {c : Nat} {r : List Nat} {h : Hs} (e : tl a = c :: r) (hl : a.length ≤ 1000000) : ixD (.str a) (.int 0) h = .ok (.str ⟨#[c]⟩) h := by
  show (if a.length ≤ big then match atI a.cps.toList 0 with
      | some c => R.ok (D.str ⟨#[c]⟩) h
      | none => .bad
      else .bad) = _
  rw [if_pos (Nat.le_trans hl (by decide)), show a.cps.toList = c :: r from e]
  have : atI (c :: r) 0 = some c := by
    unfold atI ixN
    simp
  rw [this]
theorem read_number_eq {n : Nat} {lo hi : Int} {h : Hs} (hb : n < 10 ^ 40) (h1 : lo ≤ n) (h2 : (n : Int) ≤ hi) : G_read_number [.str (istr n), .int lo, .int hi] h = .ok (.int n) h := by
  have hl := istr_len hb
  have e1 : ¬ istr n = Str.ofString "" := istr_ne n
  have e2 : ∀ h, lenD [.str (istr n)] h = .ok (.int (istr n).length) h := fun h => len_str (by omega)
  have e3 : ∀ h, stripD (.str (istr n)) [.str (Str.ofString "0123456789")] h = .ok (.str (Str.ofString "")) h := fun h => strip_ok hl
  have e4 : ∀ h, intXD [.str (istr n)] h = .ok (.int n) h := fun h => int_ok hl
  have e6 : ¬ (40 : Int) < ((istr n).length : Int) := by omega
  obtain ⟨c, r, ec⟩ : ∃ c r, numL n = c :: r := by
    cases e : numL n with
    | nil => exact absurd e (TL.numL_ne n)
    | cons c r => exact ⟨c, r, rfl⟩
  have e5 : ∀ h, ixD (.str (istr n)) (.int 0) h = .ok (.str ⟨#[c]⟩) h := fun h => at_head (by rw [tl_istr, ec]) (by omega)
  have e7 : (⟨#[c]⟩ : Str) = Str.ofString "0" → istr n = Str.ofString "0" := fun e => by
    have hc : c = 48 := by
      have := congrArg (fun s : Str => s.cps.toList) e
      have h0 : (Str.ofString "0").cps.toList = [48] := by decide +kernel
      rw [h0] at this
      simpa using this
    have := numL_head ec hc
    subst this
    decide +kernel
  refine runB_ret ?_
  by_cases hz : (⟨#[c]⟩ : Str) = Str.ofString "0"
  · have hn := e7 hz
    rw [hn] at e1 e2 e3 e4 e5 e6 ⊢
    simp [b_read_number, e1, e2, e3, e4, e5, e6, hz, h1, h2, tyOk]
  · simp [b_read_number, e1, e2, e3, e4, e5, e6, hz, h1, h2, tyOk]
end Ev
set_option Elab.async false
set_option linter.all false
set_option maxRecDepth 100000
set_option maxHeartbeats 4000000
namespace Ev
open PySem L2
open TL (tl numL)
/-! ### joined and split texts -/
theorem tl_lit (s : String) (l : List Nat) (h : (Str.ofString s).cps.toList = l := by decide +kernel) : tl (Str.ofString s) = l := h
theorem sh_sum {n : Nat} : ∀ {ps : List Str}, (∀ p ∈ ps, Sh p n) → (ps.map fun y : Str => y.length).sum ≤ ps.length * n
  | [], _ => by simp
  | p :: ps, h => by
    have h1 := (h p (List.mem_cons_self ..)).len
    have h2 := sh_sum fun q hq => h q (List.mem_cons_of_mem _ hq)
    rw [List.map_cons, List.sum_cons, List.length_cons, Nat.succ_mul]
    omega
theorem sh_join {y : Str} {n m : Nat} (hy : Sh y m) : ∀ {ps : List Str}, (∀ p ∈ ps, Sh p n) → Sh (Str.join y ps) (ps.length * (n + m))
  | [], _ => ⟨by show (0 : Nat) ≤ _; omega, by show PyData.strOk Str.empty = true; decide +kernel⟩
  | [p], h => (h p (List.mem_cons_self ..)).mono (by rw [List.length_cons, List.length_nil]; omega)
  | p :: q :: r, h => by
    have h1 := h p (List.mem_cons_self ..)
    have h2 := sh_join hy (ps := q :: r) fun x hx => h x (List.mem_cons_of_mem _ hx)
    exact Sh.mono (Sh.app (Sh.app h1 hy) h2) (by
      rw [List.length_cons (as := q :: r), Nat.succ_mul]
      omega)
theorem txt_join (y : Str) (ps : List Str) : Txt.join y ps = Str.join y ps := StrLaws.glued_eq_join y ps
theorem strsOf_map : ∀ ys : List Str, strsOf (ys.map D.str) = some ys
  | [] => rfl
  | y :: ys => by rw [List.map_cons, strsOf, strsOf_map ys]; rfl
theorem join_ok {y : Str} {n m : Nat} {ps : List Str} {h : Hs} (hy : Sh y m) (hp : ∀ p ∈ ps, Sh p n) (hl : ps.length * (n + m) ≤ 16777216) : joinD (.str y) [.lst (ps.map D.str)] h = .ok (.str (Str.join y ps)) h := by
  refine join_sh ?_ (sh_join hy hp).ok (strsOf_map ps)
  have h1 := sh_sum hp
  have h2 := Nat.mul_le_mul_left ps.length hy.len
  rw [Nat.mul_add] at hl
  omega
theorem all_ok {n : Nat} : ∀ {ps : List Str}, (∀ p ∈ ps, Sh p n) → ps.all PyData.strOk = true
  | [], _ => rfl
  | p :: ps, h => by rw [List.all_cons, (h p (List.mem_cons_self ..)).ok, all_ok fun q hq => h q (List.mem_cons_of_mem _ hq)]; rfl
/-- a joined text, split -/
theorem split_ok {y : Str} {s : Nat} {S : List Nat} {n m : Nat} {ps : List Str} {h : Hs} (ey : tl y = s :: S) (hk : y.cps.all (· < 256) = true) (hy : Sh y m) (hp : ∀ p ∈ ps, Sh p n ∧ s ∉ tl p) (hne : ps ≠ []) (hl : ps.length * (n + m) ≤ 16000000) :
    splitD (.str (Str.join y ps)) [.str y] h = .ok (.lst (ps.map D.str)) h := by
  have e := TL.split_join ey hk hne fun p h => (hp p h).2
  rw [txt_join] at e
  show (if (!(y.length == 0) && Nat.ble ((Str.join y ps).length + 2) 16777216 && (Txt.split (Str.join y ps) y).all PyData.strOk) = true then R.ok (D.lst ((Txt.split (Str.join y ps) y).map D.str)) h else .bad) = _
  have hy0 : (y.length == 0) = false := by
    rw [TL.len_tl, ey]
    rfl
  have h2 := (sh_join hy fun p h => (hp p h).1).len
  rw [e, all_ok fun p h => (hp p h).1, hy0, Nat.ble_eq_true_of_le (by omega)]
  rfl
/-! ### the text of a write -/
def Wr.ps (w : Wr) : List Str := istr w.who :: istr w.len :: if w.mode = .plain then [] else [w.mode.s]
def Wr.t (w : Wr) : Str := Str.join (Str.ofString " ") w.ps
def cvT (ws : List Wr) : Str := Str.join (Str.ofString "; ") (ws.map Wr.t)
theorem sh_mode (x : Mode) : Sh x.s 5 := by cases x <;> exact ⟨by decide +kernel, by decide +kernel⟩
section
variable {w : Wr} {h : Hs}
theorem Wr.Ok.bw (o : w.Ok) : w.who.natAbs < 1180591620717411303424 := by have := o.who; omega
theorem Wr.Ok.bl (o : w.Ok) : w.len.natAbs < 1180591620717411303424 := by have := o.l1; have := o.l2; omega
theorem Wr.Ok.nw (o : w.Ok) : ∃ n : Nat, w.who = n ∧ n ≤ 1 := ⟨w.who.toNat, by have := o.who; omega, by have := o.who; omega⟩
theorem Wr.Ok.nl (o : w.Ok) : ∃ n : Nat, w.len = n ∧ n ≤ 1000000000000000000 := ⟨w.len.toNat, by have := o.l1; omega, by have := o.l2; omega⟩
theorem num_free {n s : Nat} (hs : s < 48 ∨ 57 < s) : s ∉ tl (istr n) := by rw [tl_istr]; exact TL.numL_free hs
theorem mode_free {x : Mode} : 32 ∉ tl x.s ∧ 59 ∉ tl x.s := by cases x <;> decide +kernel
theorem Wr.Ok.sh_ps (o : w.Ok) : ∀ p ∈ w.ps, Sh p 71 ∧ 32 ∉ tl p := by
  obtain ⟨n, e1, _⟩ := o.nw
  obtain ⟨m, e2, _⟩ := o.nl
  intro p hp
  unfold Wr.ps at hp
  rcases List.mem_cons.mp hp with rfl | hp
  · exact ⟨sh_int o.bw, by rw [e1]; exact num_free (by omega)⟩
  rcases List.mem_cons.mp hp with rfl | hp
  · exact ⟨sh_int o.bl, by rw [e2]; exact num_free (by omega)⟩
  split at hp
  · exact absurd hp (by simp)
  · rcases List.mem_singleton.mp hp with rfl
    exact ⟨(sh_mode _).mono (by decide), mode_free.1⟩
theorem Wr.ps_len : w.ps.length ≤ 3 := by
  unfold Wr.ps
  split <;> simp
theorem Wr.Ok.sh_t (o : w.Ok) : Sh w.t 216 := Sh.mono (sh_join (Sh.lit " " 1) fun p hp => (o.sh_ps p hp).1) (by have := Wr.ps_len (w := w); omega)
theorem Wr.t_eq : w.t = istr w.who ++ Str.ofString " " ++ istr w.len ++ (if w.mode = .plain then Str.ofString "" else Str.ofString " " ++ w.mode.s) := by
  unfold Wr.t Wr.ps
  split
  · show istr w.who ++ Str.ofString " " ++ istr w.len = _
    rw [show Str.ofString "" = Str.empty by decide +kernel, Str.append_empty]
  · show istr w.who ++ Str.ofString " " ++ (istr w.len ++ Str.ofString " " ++ w.mode.s) = _
    simp only [Str.append_assoc]
theorem Wr.Ok.free59 (o : w.Ok) : 59 ∉ tl w.t := by
  obtain ⟨n, e1, _⟩ := o.nw
  obtain ⟨m, e2, _⟩ := o.nl
  have f1 : 59 ∉ tl (istr n) := num_free (by omega)
  have f2 : 59 ∉ tl (istr m) := num_free (by omega)
  have f3 : 59 ∉ tl (Str.ofString " ") := by decide +kernel
  have f4 := (mode_free (x := w.mode)).2
  have f5 : 59 ∉ tl (Str.ofString "") := by decide +kernel
  rw [Wr.t_eq, e1, e2]
  simp only [TL.tl_append, List.mem_append, not_or]
  refine ⟨⟨⟨f1, f3⟩, f2⟩, ?_⟩
  split
  · exact f5
  · rw [TL.tl_append, List.mem_append, not_or]
    exact ⟨f3, f4⟩
theorem Wr.Ok.split (o : w.Ok) : splitD (.str w.t) [.str (Str.ofString " ")] h = .ok (.lst (w.ps.map D.str)) h :=
  split_ok (s := 32) (S := []) (n := 71) (m := 1) (tl_lit " " [32]) (by decide +kernel) (Sh.lit " " 1) o.sh_ps (by unfold Wr.ps; simp) (by have := Wr.ps_len (w := w); omega)
theorem rn (n : Nat) (hi : Int) (hb : n ≤ 1000000000000000000) (hh : (n : Int) ≤ hi) : G_read_number [.str (istr n), .int 0, .int hi] h = .ok (.int n) h :=
  read_number_eq (Nat.lt_of_le_of_lt hb (by decide)) (by omega) hh
theorem read_write_eq (o : w.Ok) : G_read_write [.lst (w.ps.map D.str)] h = .ok w.d h := by
  obtain ⟨n, e1, b1⟩ := o.nw
  obtain ⟨m, e2, b2⟩ := o.nl
  refine runB_ret ?_
  have c1 : ∀ (a b : Str) (h' : Hs) (env : En), env[0]? = some (some (.lst (w.ps.map D.str))) → eComp (iSeq (eSl slD (eVar 0) oNo (oSome (eC (.int 2))))) (kName 4) bYes (eCallC (posF 3 G_read_number) (cPos (aCons (eVar 4) (aCons (eC (.int 0)) (aCons (eC (.int 10000000000000000000000000000000000000000)) aNil))))) [4] [some (.lst (w.ps.map D.str)), none, none, none, none] h' = .ok (.lst [.int n, .int m]) h' := fun a b h' env _ =>
    eComp_fg (ls := [(D.str (istr w.who), (n : Int)), (D.str (istr w.len), (m : Int))]) (f := (·.1)) (g := fun a => .int a.2) (by
      have : cutD (w.ps.map D.str) none (some 2) = [.str (istr w.who), .str (istr w.len)] := by
        unfold Wr.ps
        split <;> rfl
      simp [slD, this]) (by
      intro a ha
      refine ⟨_, rfl, fun h' => ?_⟩
      simp at ha
      have r1 := fun h => rn (h := h) n 10000000000000000000000000000000000000000 (by omega) (by omega)
      have r2 := fun h => rn (h := h) m 10000000000000000000000000000000000000000 (by omega) (by omega)
      rcases ha with rfl | rfl <;> simp [wipeE, e1, e2, r1, r2]) (by simp [big]) (by intro a _; rw [D.nr])
  have c1 := fun h' => c1 (istr n) (istr m) h' [some (.lst (w.ps.map D.str))] rfl
  have c2 : ∀ x : Mode, x ≠ .plain → ∀ h', notInD (.str x.s) (.tup [.str "push", .str "more"]) h' = .ok (.bl false) h' := fun x hx h' => by
    cases x
    · exact absurd rfl hx
    · rfl
    · rfl
  have c3 : ∀ h', notInD (.int 2) (.tup [.int 2, .int 3]) h' = .ok (.bl false) h' := fun _ => rfl
  have c4 : ∀ h', notInD (.int 3) (.tup [.int 2, .int 3]) h' = .ok (.bl false) h' := fun _ => rfl
  have c5 : cutD [D.str "plain", .str "push", .str "more"] (some 1) none = [.str "push", .str "more"] := rfl
  have c6 : ∀ i : Int, isN (.int i) = false := fun _ => rfl
  by_cases hm : w.mode = .plain
  · have ep : w.ps = [istr w.who, istr w.len] := by unfold Wr.ps; rw [if_pos hm]
    rw [ep] at c1 ⊢
    simp [e1, e2] at c1
    simp [b_read_write, c1, c3, c6, Wr.d, e1, e2, hm, Mode.s, big]
  · have ep : w.ps = [istr w.who, istr w.len, w.mode.s] := by unfold Wr.ps; rw [if_neg hm]
    rw [ep] at c1 ⊢
    simp [e1, e2] at c1
    simp [b_read_write, c1, c4, c6, c2 _ hm, c5, slD, Wr.d, e1, e2, hm, big]
theorem show_write_eq (o : w.Ok) : G_show_write [w.d] h = .ok (.str w.t) h := by
  refine runB_ret ?_
  have z : Sh Str.empty 0 := ⟨by decide +kernel, by decide +kernel⟩
  have s1 := sh_int o.bw
  have s2 := Sh.lit " " 1
  have s3 := sh_int o.bl
  have q : eJoin (jCons (eFmt fmtD (eVar 1)) (jCons (eC (.str " ")) (jCons (eFmt fmtD (eVar 2)) jNil))) [some w.d, some (.int w.who), some (.int w.len), some (.str w.mode.s)] h = .ok (.str (istr w.who ++ Str.ofString " " ++ istr w.len)) h := by
    have h1 := jc (f := jCons (eC (.str " ")) (jCons (eFmt fmtD (eVar 2)) jNil)) (fe := eFmt fmtD (eVar 1)) (env := [some w.d, some (.int w.who), some (.int w.len), some (.str w.mode.s)]) (h := h) (h1 := h) (y := istr w.who) (by simp [fmt_int o.bw]) z s1 (by decide)
    rw [eJoin_ap, h1, jc (y := " ") rfl (z.app s1) s2 (by decide), jc (y := istr w.len) (h1 := h) (by simp [fmt_int o.bl]) ((z.app s1).app s2) s3 (by decide), jNil_ap]
    simp only [R.bind_ok, Str.empty_append]
  have a1 : ∀ h', addD (.str (Str.ofString " ")) (.str w.mode.s) h' = .ok (.str (Str.ofString " " ++ w.mode.s)) h' := fun h' => add_sh s2 (sh_mode _) (by decide)
  have a2 : ∀ h', addD (.str (istr w.who ++ Str.ofString " " ++ istr w.len)) (.str (Str.ofString " " ++ w.mode.s)) h' = .ok (.str (istr w.who ++ Str.ofString " " ++ istr w.len ++ (Str.ofString " " ++ w.mode.s))) h' := fun h' => add_sh ((s1.app s2).app s3) (s2.app (sh_mode _)) (by decide)
  have a3 : ∀ h', addD (.str (istr w.who ++ Str.ofString " " ++ istr w.len)) (.str (Str.ofString "")) h' = .ok (.str (istr w.who ++ Str.ofString " " ++ istr w.len ++ Str.ofString "")) h' := fun h' => add_sh ((s1.app s2).app s3) (Sh.lit "" 0) (by decide)
  rw [Wr.t_eq]
  unfold b_show_write
  by_cases hm : w.mode = .plain
  · rw [if_pos hm]
    simp [Wr.d, hm] at q ⊢
    simp [q, hm, a3, Mode.s]
  · rw [if_neg hm]
    simp [Wr.d, hm] at q ⊢
    simp [q, hm, a1, a2]
end
end Ev
set_option Elab.async false
set_option linter.all false
set_option maxRecDepth 100000
set_option maxHeartbeats 4000000
namespace Ev
open PySem L2
open TL (tl numL)
/-! ### texts of conversations -/
theorem app_last {h : Hs} {xs : List D} {y : D} (hy : xs.length < big) : appendD (.ref h.length) [y] (h ++ [.lst xs]) = .ok .non (h ++ [.lst (xs ++ [y])]) := by
  show (match cellL (h ++ [.lst xs]) h.length with
    | some ys => if ys.length < big then R.ok D.non ((h ++ [O.lst xs]).set h.length (O.lst (ys ++ [y]))) else .bad
    | none => .bad) = _
  rw [cellL_last]
  dsimp only
  rw [if_pos hy]
  simp
theorem tyk_last {h : Hs} {xs : List D} : tyOk .list (.ref h.length) (h ++ [.lst xs]) = true := by
  show (cellL (h ++ [.lst xs]) h.length).isSome = true
  rw [cellL_last]; rfl
theorem join_rd {s : Str} {x y : D} {h : Hs} (e : rdL h x = rdL h y) : joinD (.str s) [x] h = joinD (.str s) [y] h := by
  unfold joinD
  dsimp only
  rw [e]
theorem forL_still {gs : List (Nat × O)} {k : D → En → Option En} {f : En → Hs → S} {h : Hs} (hk : Kept gs h) (I : En → Prop) : ∀ {xs : List D}, (∀ x ∈ xs, ∀ env, I env → ∃ e1 e2, k x env = some e1 ∧ f e1 h = .nx e2 h ∧ I e2) → ∀ {env : En}, I env → ∃ e2, forL gs k f xs env h = .nx e2 h ∧ I e2
  | [], _, env, hi => ⟨env, by simp [forL, hk], hi⟩
  | x :: xs, hx, env, hi => by
    obtain ⟨e1, e2, h1, h3, h4⟩ := hx x List.mem_cons_self env hi
    obtain ⟨e3, h6, h7⟩ := forL_still hk I (xs := xs) (fun y hy => hx y (List.mem_cons_of_mem _ hy)) h4
    refine ⟨e3, ?_, h7⟩
    rw [forL, if_pos hk, h1]
    dsimp only
    rw [h3]
    exact h6
theorem eCompM_fg {α : Type} {env : En} {h h1 : Hs} {fi : En → Hs → R Src} {k : D → En → Option En} {fe : En → Hs → R D} {own : List Nat} {ls : List α} {f g : α → D} (e : fi env h = .ok (ls.map f, []) h1)
    (hx : ∀ a ∈ ls, ∃ e1, k (f a) (wipeE env own) = some e1 ∧ ∀ h, fe e1 h = .ok (g a) h) (hl : ls.length ≤ big) : eCompM fi k bYes fe own env h = .ok (.ref h1.length) (h1 ++ [.lst (ls.map g)]) := by
  unfold eCompM
  rw [e]
  simp only [R.bind_ok]
  rw [compL_to (ys := ls.map g) (by simp) (fun i x y h1 h2 => by
    rw [List.getElem?_map] at h1 h2
    cases ha : ls[i]? with
    | none => rw [ha] at h1; cases h1
    | some a =>
      rw [ha] at h1 h2
      cases h1
      cases h2
      exact hx a (List.mem_of_getElem? ha)) (by simpa using hl)]
  simp
section
variable {ws : List Wr} {h : Hs}
theorem sh_ts (ok : ∀ w ∈ ws, w.Ok) : ∀ p ∈ ws.map Wr.t, Sh p 216 ∧ 59 ∉ tl p := fun p hp => by
  obtain ⟨w, hw, rfl⟩ := List.mem_map.mp hp
  exact ⟨(ok w hw).sh_t, (ok w hw).free59⟩
theorem sh_cv (hl : ws.length ≤ 200) (ok : ∀ w ∈ ws, w.Ok) : Sh (cvT ws) 43600 := Sh.mono (sh_join (Sh.lit "; " 2) fun p hp => (sh_ts ok p hp).1) (by rw [List.length_map]; omega)
theorem cv_ne {w : Wr} (o : w.Ok) : cvT (w :: ws) ≠ Str.ofString "" := fun e => by
  have h1 : tl (cvT (w :: ws)) = [] := by rw [e]; decide +kernel
  have h2 : tl w.t ≠ [] := fun e2 => by
    obtain ⟨n, e1, _⟩ := o.nw
    rw [Wr.t_eq] at e2
    simp only [TL.tl_append, List.append_eq_nil_iff] at e2
    have := e2.1.1.1
    rw [e1, tl_istr] at this
    exact TL.numL_ne n this
  cases ws with
  | nil => exact h2 h1
  | cons v vs =>
    have : tl (w.t ++ Str.ofString "; " ++ Str.join (Str.ofString "; ") ((v :: vs).map Wr.t)) = [] := h1
    simp only [TL.tl_append, List.append_eq_nil_iff] at this
    exact h2 this.1.1
theorem show_conversation_eq (hl : ws.length ≤ 200) (ok : ∀ w ∈ ws, w.Ok) : G_show_conversation [.lst (ws.map Wr.d)] h = .ok (.str (cvT ws)) h := by
  refine runB_ret ?_
  have c1 : ∀ h', eComp (iSeq (eVar 0)) (kName 1) bYes (eCallC (posF 1 G_show_write) (cPos (aCons (eVar 1) aNil))) [1] [some (.lst (ws.map Wr.d)), none] h' = .ok (.lst (ws.map fun w => D.str w.t)) h' := fun h' =>
    eComp_fg (ls := ws) (f := Wr.d) (g := fun w => .str w.t) (by simp) (by
      intro w hw
      refine ⟨_, rfl, fun h' => ?_⟩
      have r1 := fun h => show_write_eq (h := h) (ok w hw)
      simp [wipeE, r1]) (Nat.le_trans hl (by decide)) (by intro a _; rw [D.nr])
  have c2 := fun h' => check_eq (h := h') hl ok
  have c3 := fun h' => join_ok (h := h') (y := Str.ofString "; ") (ps := ws.map Wr.t) (Sh.lit "; " 2) (fun p hp => (sh_ts ok p hp).1) (by rw [List.length_map]; omega)
  rw [List.map_map] at c3
  have c3 : ∀ h', joinD (.str (Str.ofString "; ")) [.lst (ws.map fun w => D.str w.t)] h' = .ok (.str (cvT ws)) h' := c3
  show b_show_conversation [some (.lst (ws.map Wr.d)), none] h = _
  simp [b_show_conversation, c1, c2, c3, tyOk]
theorem read_conversation_eq (hl : ws.length ≤ 200) (ok : ∀ w ∈ ws, w.Ok) : G_read_conversation [.str (cvT ws)] h = .ok (.ref h.length) (h ++ [.lst (ws.map Wr.d)]) := by
  refine runB_ret ?_
  show b_read_conversation [some (.str (cvT ws)), none, none, none] h = _
  cases ws with
  | nil => simp [b_read_conversation, cvT, show Str.join (Str.ofString "; ") [] = Str.ofString "" by decide +kernel]
  | cons w ws =>
    have hne := cv_ne (ws := ws) (ok w (List.mem_cons_self ..))
    generalize hq : w :: ws = vs at *
    have hvn : vs ≠ [] := by rw [← hq]; simp
    have sp := fun h' => split_ok (h := h') (y := Str.ofString "; ") (s := 59) (S := [32]) (n := 216) (m := 2) (ps := vs.map Wr.t) (tl_lit "; " [59, 32]) (by decide +kernel) (Sh.lit "; " 2) (sh_ts ok) (by simpa using hvn) (by rw [List.length_map]; omega)
    have sp : ∀ h', splitD (.str (cvT vs)) [.str (Str.ofString "; ")] h' = .ok (.lst (vs.map fun w => D.str w.t)) h' := fun h' => by
      have := sp h'
      rw [List.map_map] at this
      exact this
    have c1 : eCompM (iSeq (eBM .str splitD (eVar 0) (aCons (eC (.str "; ")) aNil))) (kName 3) bYes (eCallC (posF 1 G_read_write) (cPos (aCons (eBM .str splitD (eVar 3) (aCons (eC (.str " ")) aNil)) aNil))) [3] [some (.str (cvT vs)), none, none, none] h = .ok (.ref h.length) (h ++ [.lst (vs.map Wr.d)]) :=
      eCompM_fg (ls := vs) (f := fun w => .str w.t) (g := Wr.d) (by simp [sp, tyOk]) (by
        intro w hw
        refine ⟨_, rfl, fun h' => ?_⟩
        have r1 := fun h => read_write_eq (h := h) (ok w hw)
        have r2 := fun h => (ok w hw).split (h := h)
        simp [wipeE, r1, r2, tyOk]) (Nat.le_trans hl (by decide))
    have c2 : cellL (h ++ [.lst (vs.map Wr.d)]) h.length = some (vs.map Wr.d) := cellL_last
    have c3 : lenD [.ref h.length] (h ++ [.lst (vs.map Wr.d)]) = .ok (.int vs.length) (h ++ [.lst (vs.map Wr.d)]) := by
      show (match rdL (h ++ [.lst (vs.map Wr.d)]) (.ref h.length) with
        | some ys => R.ok (D.int ys.length) _
        | none => .bad) = _
      rw [show rdL (h ++ [.lst (vs.map Wr.d)]) (.ref h.length) = cellL (h ++ [.lst (vs.map Wr.d)]) h.length from rfl, c2]
      simp
    have c4 : ¬ (200 : Int) < (vs.length : Int) := by omega
    obtain ⟨e2, q1, x2, x3, rfl⟩ := forL_still (gs := [(h.length, .lst (vs.map Wr.d))]) (h := h ++ [.lst (vs.map Wr.d)]) (k := kName 2) (f := sIf (eOrB (eTest (eBin isND (eVar 2) (eC .non))) (eOrB (eTest (eBin gtD (eBin ixD (eVar 2) (eC (.int 0))) (eC (.int 1)))) (eNotB (eTest (eChain leD leD (eC (.int 1)) (eBin ixD (eVar 2) (eC (.int 1))) (eC (.int 1000000000000000000))))))) sBad sNil)
      ⟨c2, trivial⟩ (fun e => ∃ x y, e = [some (.str (cvT vs)), some (.ref h.length), x, y]) (xs := vs.map Wr.d) (by
        rintro x hx e ⟨a, b, rfl⟩
        obtain ⟨w, hw, rfl⟩ := List.mem_map.mp hx
        obtain ⟨o1, o2, o3⟩ := ok w hw
        have o1 : ¬ (1 : Int) < w.who := by omega
        refine ⟨_, _, rfl, ?_, ⟨some w.d, b, rfl⟩⟩
        simp [isND, isN, Wr.d, o1, o2, o3]) (env := [some (.str (cvT vs)), some (.ref h.length), none, none]) ⟨none, none, rfl⟩
    unfold b_read_conversation
    rw [seq_of (env1 := [some (.str (cvT vs)), none, none, none]) (h1 := h) (by simp)]
    rw [seq_of (env1 := [some (.str (cvT vs)), none, none, none]) (h1 := h) (by simp [hne])]
    rw [seq_of (env1 := [some (.str (cvT vs)), some (.ref h.length), none, none]) (h1 := h ++ [.lst (vs.map Wr.d)]) (by simp [c1])]
    rw [seq_of (env1 := [some (.str (cvT vs)), some (.ref h.length), none, none]) (h1 := h ++ [.lst (vs.map Wr.d)]) (by simp [c3, c4])]
    rw [seq_of (env1 := [some (.str (cvT vs)), some (.ref h.length), x2, x3]) (h1 := h ++ [.lst (vs.map Wr.d)]) (by
      unfold sFor
      rw [show iSeq (eVar 1) [some (.str (cvT vs)), some (.ref h.length), none, none] (h ++ [.lst (vs.map Wr.d)]) = .ok (vs.map Wr.d, [(h.length, .lst (vs.map Wr.d))]) (h ++ [.lst (vs.map Wr.d)]) by
        simp [srcD, c2]]
      exact q1)]
    simp
/-- the law's own text -/
theorem lt_loop : ∀ {vs : List Wr} {acc : List Str} {x y z : Option D} {d : D}, acc.length + vs.length ≤ 200 → (∀ w ∈ vs, w.Ok) →
    ∃ x' y' z', forL [] (kTup 3 (ksCons (kName 2) (ksCons (kName 3) (ksCons (kName 4) ksNil)))) b_l_text_1 (vs.map Wr.d) [some d, some (.ref h.length), x, y, z] (h ++ [.lst (acc.map D.str)]) = .nx [some d, some (.ref h.length), x', y', z'] (h ++ [.lst ((acc ++ vs.map Wr.t).map D.str)])
  | [], acc, x, y, z, d, _, _ => ⟨x, y, z, by simp [forL]⟩
  | w :: vs, acc, x, y, z, d, hl, ok => by
    rw [List.length_cons] at hl
    have o := ok w (List.mem_cons_self ..)
    obtain ⟨x', y', z', ih⟩ := lt_loop (vs := vs) (acc := acc ++ [w.t]) (x := some (.int w.who)) (y := some (.int w.len)) (z := some (.str w.mode.s)) (d := d) (by simp; omega) (fun v hv => ok v (List.mem_cons_of_mem _ hv))
    refine ⟨x', y', z', ?_⟩
    have s1 := sh_int o.bw
    have s2 := Sh.lit " " 1
    have s3 := sh_int o.bl
    have s4 := sh_mode w.mode
    have a1 : ∀ h', addD (.str (istr w.who)) (.str (Str.ofString " ")) h' = .ok (.str (istr w.who ++ Str.ofString " ")) h' := fun h' => add_sh s1 s2 (by decide)
    have a2 : ∀ h', addD (.str (istr w.who ++ Str.ofString " ")) (.str (istr w.len)) h' = .ok (.str (istr w.who ++ Str.ofString " " ++ istr w.len)) h' := fun h' => add_sh (s1.app s2) s3 (by decide)
    have a3 : ∀ h', addD (.str (Str.ofString " ")) (.str w.mode.s) h' = .ok (.str (Str.ofString " " ++ w.mode.s)) h' := fun h' => add_sh s2 s4 (by decide)
    have a4 : ∀ h', addD (.str (istr w.who ++ Str.ofString " " ++ istr w.len)) (.str (if w.mode = .plain then Str.ofString "" else Str.ofString " " ++ w.mode.s)) h' = .ok (.str w.t) h' := fun h' => by
      rw [Wr.t_eq]
      split
      · exact add_sh ((s1.app s2).app s3) (Sh.lit "" 0) (by decide)
      · exact add_sh ((s1.app s2).app s3) (s2.app s4) (by decide)
    have b1 := app_last (h := h) (xs := acc.map D.str) (y := .str w.t) (Nat.lt_of_le_of_lt (by rw [List.length_map]; omega : _ ≤ 200) (by decide))
    have b2 := tyk_last (h := h) (xs := acc.map D.str)
    have t1 := fun h' => str_int (h := h') o.bw
    have t2 := fun h' => str_int (h := h') o.bl
    have body : b_l_text_1 [some d, some (.ref h.length), some (.int w.who), some (.int w.len), some (.str w.mode.s)] (h ++ [.lst (acc.map D.str)]) = .nx [some d, some (.ref h.length), some (.int w.who), some (.int w.len), some (.str w.mode.s)] (h ++ [.lst ((acc ++ [w.t]).map D.str)]) := by
      rw [List.map_append]
      unfold b_l_text_1
      by_cases hm : w.mode = .plain
      · rw [if_pos hm] at a4
        simp [hm, Mode.s] at a3
        simp [b2, t1, t2, a1, a2, a3, a4, big, hm, Mode.s, b1]
      · rw [if_neg hm] at a4
        simp [b2, t1, t2, a1, a2, a3, a4, big, hm, b1]
    rw [List.map_cons, forL, if_pos (Kept_nil _ ▸ trivial), show kTup 3 (ksCons (kName 2) (ksCons (kName 3) (ksCons (kName 4) ksNil))) w.d [some d, some (.ref h.length), x, y, z] = some [some d, some (.ref h.length), some (.int w.who), some (.int w.len), some (.str w.mode.s)] from rfl]
    dsimp only
    rw [body]
    dsimp only
    rw [ih]
    simp
theorem law_text_eq (hl : ws.length ≤ 200) (ok : ∀ w ∈ ws, w.Ok) : G_l_text [.lst (ws.map Wr.d)] h = .ok (.str (cvT ws)) h := by
  obtain ⟨x, y, z, q⟩ := lt_loop (h := h) (vs := ws) (acc := []) (x := none) (y := none) (z := none) (d := .lst (ws.map Wr.d)) (by simpa using hl) ok
  have c3 := fun h' => join_ok (h := h') (y := Str.ofString "; ") (ps := ws.map Wr.t) (Sh.lit "; " 2) (fun p hp => (sh_ts ok p hp).1) (by rw [List.length_map]; omega)
  have run : runB 5 b_l_text [.lst (ws.map Wr.d)] h = .ok (.str (cvT ws)) (h ++ [.lst ((ws.map Wr.t).map D.str)]) := by
    refine runB_ret ?_
    show b_l_text [some (.lst (ws.map Wr.d)), none, none, none, none] h = _
    unfold b_l_text
    rw [seq_of (env1 := [some (.lst (ws.map Wr.d)), some (.ref h.length), none, none, none]) (h1 := h ++ [.lst []]) (by simp)]
    rw [seq_of (env1 := [some (.lst (ws.map Wr.d)), some (.ref h.length), x, y, z]) (h1 := h ++ [.lst ((ws.map Wr.t).map D.str)]) (by
      unfold sFor
      rw [show iSeq (eVar 0) [some (.lst (ws.map Wr.d)), some (.ref h.length), none, none, none] (h ++ [.lst []]) = .ok (ws.map Wr.d, []) (h ++ [.lst []]) by simp]
      simpa using q)]
    have j1 : joinD (.str (Str.ofString "; ")) [.ref h.length] (h ++ [.lst ((ws.map Wr.t).map D.str)]) = .ok (.str (cvT ws)) (h ++ [.lst ((ws.map Wr.t).map D.str)]) := by
      rw [join_rd (y := .lst ((ws.map Wr.t).map D.str)) (by
        rw [rdL_lst]
        exact cellL_last)]
      exact c3 _
    simp at j1
    simp [tyOk, j1]
  show freeR h (runB 5 b_l_text [.lst (ws.map Wr.d)] h) = _
  rw [run]
  unfold freeR
  dsimp only
  rw [if_pos stood_app, frz_nr (k := 11) (by simp [D.nr])]
  dsimp only
  rw [List.take_append_of_le_length (Nat.le_refl _), List.take_length]
end
end Ev
set_option Elab.async false
set_option linter.all false
set_option maxRecDepth 100000
set_option maxHeartbeats 4000000
namespace Ev
open PySem L2
open TL (tl numL)
/-! ### texts of policies and settings, read -/
section
variable {p : Po} {s : Se} {h : Hs}
theorem po_make2 {env : En} {h h0 : Hs} {x : Hold} {i j : Int} {fd : En → Hs → R DD2} (h1 : 0 ≤ i) (h2 : i ≤ 9) (h3 : 0 ≤ j) (h4 : j ≤ 4) (e : fd env h0 = .ok ([.str x.s], [.int i, .int j]) h) : eMake 0 (kwF 2 2 d_Policy_init_s2_every_quick G_Policy_init) fd env h0 = .ok (Po.o ⟨x, i, j⟩) h := by
  refine eMake_ap (n' := 0) (fs := [.str x.s, .int i, .int j]) e ?_ (by simp [D.nrs, D.nr])
  simp [dS, gSeg, policy_init h1 h2 h3 h4]
theorem Po.Ok.ne (o : p.Ok) : ∃ n : Nat, p.every = n ∧ n ≤ 9 := ⟨p.every.toNat, by have := o.e0; omega, by have := o.e0; have := o.e9; omega⟩
theorem Po.Ok.nq (o : p.Ok) : ∃ n : Nat, p.quick = n ∧ n ≤ 4 := ⟨p.quick.toNat, by have := o.q0; omega, by have := o.q0; have := o.q4; omega⟩
theorem Se.Ok.ns (o : s.Ok) : ∃ n : Nat, s.size = n ∧ 1 ≤ n ∧ n ≤ 1000000000000000000 := ⟨s.size.toNat, by have := o.z1; omega, by have := o.z1; omega, by have := o.z1; have := o.z2; omega⟩
theorem hold_free {x : Hold} : 32 ∉ tl x.s ∧ 59 ∉ tl x.s := by cases x <;> decide +kernel
theorem polS_join : polS p = Str.join (Str.ofString " ") [p.hold.s, istr p.every, istr p.quick] := rfl
theorem setS_join : setS s = Str.join (Str.ofString "; ") [istr s.size, polS s.p0, polS s.p1] := by
  show _ = istr s.size ++ Str.ofString "; " ++ (polS s.p0 ++ Str.ofString "; " ++ polS s.p1)
  simp only [setS, Str.append_assoc]
theorem pol_split (o : p.Ok) : splitD (.str (polS p)) [.str (Str.ofString " ")] h = .ok (.lst [.str p.hold.s, .str (istr p.every), .str (istr p.quick)]) h := by
  obtain ⟨n, e1, _⟩ := o.ne
  obtain ⟨m, e2, _⟩ := o.nq
  rw [polS_join]
  refine split_ok (s := 32) (S := []) (n := 71) (m := 1) (tl_lit " " [32]) (by decide +kernel) (Sh.lit " " 1) ?_ (by simp) (by simp)
  intro x hx
  simp at hx
  rcases hx with rfl | rfl | rfl
  · exact ⟨(sh_hold _).mono (by decide), hold_free.1⟩
  · exact ⟨sh_int o.be, by rw [e1]; exact num_free (by omega)⟩
  · exact ⟨sh_int o.bq, by rw [e2]; exact num_free (by omega)⟩
theorem pol_free (o : p.Ok) : 59 ∉ tl (polS p) := by
  obtain ⟨n, e1, _⟩ := o.ne
  obtain ⟨m, e2, _⟩ := o.nq
  have f1 : 59 ∉ tl (istr n) := num_free (by omega)
  have f2 : 59 ∉ tl (istr m) := num_free (by omega)
  have f3 : 59 ∉ tl (Str.ofString " ") := by decide +kernel
  have f4 := (hold_free (x := p.hold)).2
  unfold polS
  rw [e1, e2]
  simp only [TL.tl_append, List.mem_append, not_or]
  exact ⟨⟨f4, f3⟩, ⟨f1, f3⟩, f2⟩
theorem set_split (o : s.Ok) : splitD (.str (setS s)) [.str (Str.ofString "; ")] h = .ok (.lst [.str (istr s.size), .str (polS s.p0), .str (polS s.p1)]) h := by
  obtain ⟨n, e1, _⟩ := o.ns
  rw [setS_join]
  refine split_ok (s := 59) (S := [32]) (n := 200) (m := 2) (tl_lit "; " [59, 32]) (by decide +kernel) (Sh.lit "; " 2) ?_ (by simp) (by simp)
  intro x hx
  simp at hx
  rcases hx with rfl | rfl | rfl
  · exact ⟨(sh_int o.bz).mono (by decide), by rw [e1]; exact num_free (by omega)⟩
  · exact ⟨sh_polS o.o0, pol_free o.o0⟩
  · exact ⟨sh_polS o.o1, pol_free o.o1⟩
theorem read_policy_eq (o : p.Ok) : G_read_policy [.str (polS p)] h = .ok p.o h := by
  obtain ⟨n, e1, b1⟩ := o.ne
  obtain ⟨m, e2, b2⟩ := o.nq
  have sp := fun h' => pol_split (h := h') o
  have r1 : ∀ h', G_read_number [.str (istr p.every), .int 0, .int 9] h' = .ok (.int p.every) h' := fun h' => by rw [e1]; exact rn n 9 (by omega) (by omega)
  have r2 : ∀ h', G_read_number [.str (istr p.quick), .int 0, .int 4] h' = .ok (.int p.quick) h' := fun h' => by rw [e2]; exact rn m 4 (by omega) (by omega)
  have hi : ∀ h', notInD (.str p.hold.s) (.tup [.str "off", .str "partial", .str "all"]) h' = .ok (.bl false) h' := fun h' => by
    cases p.hold <;> rfl
  have c6 : ∀ i : Int, isN (.int i) = false := fun _ => rfl
  refine runB_ret ?_
  have mk := fun env h0 e => po_make2 (env := env) (h := h) (h0 := h0) (x := p.hold) (i := p.every) (j := p.quick) (fd := cKw 2 (aCons (eBin ixD (eVar 1) (eC (.int 0))) aNil) (aCons (eVar 2) (aCons (eVar 3) aNil))) o.e0 o.e9 o.q0 o.q4 e
  have mk := mk [some (.str (polS p)), some (.lst [.str p.hold.s, .str (istr p.every), .str (istr p.quick)]), some (.int p.every), some (.int p.quick)] h (by simp)
  simp [b_read_policy, sp, r1, r2, hi, c6, isND, tyOk, mk]
theorem read_setting_eq (o : s.Ok) : G_read_setting [.str (setS s)] h = .ok s.o h := by
  obtain ⟨n, e1, b1, b2⟩ := o.ns
  have sp := fun h' => set_split (h := h') o
  have r1 : ∀ h', G_read_number [.str (istr s.size), .int 1, .int 1000000000000000000] h' = .ok (.int s.size) h' := fun h' => by rw [e1]; exact read_number_eq (Nat.lt_of_le_of_lt b2 (by decide)) (by omega) (by omega)
  have c6 : ∀ i : Int, isN (.int i) = false := fun _ => rfl
  have cp : ∀ h', eComp (iSeq (eVar 2)) (kName 5) bYes (eCallC (posF 1 G_read_policy) (cPos (aCons (eVar 5) aNil))) [5] [some (.str (setS s)), some (.str (istr s.size)), some (.lst [.str (polS s.p0), .str (polS s.p1)]), some (.int s.size), none, none] h' = .ok (.lst [s.p0.o, s.p1.o]) h' := fun h' =>
    eComp_fg (ls := [(D.str (polS s.p0), s.p0), (D.str (polS s.p1), s.p1)]) (f := (·.1)) (g := fun a => a.2.o) (by simp) (by
      intro a ha
      refine ⟨_, rfl, fun h' => ?_⟩
      simp at ha
      have q0 := fun h => read_policy_eq (h := h) o.o0
      have q1 := fun h => read_policy_eq (h := h) o.o1
      rcases ha with rfl | rfl <;> simp [wipeE, q0, q1]) (by simp [big]) (by intro a _; simp [Po.o, D.nr, D.nrs])
  refine runB_ret ?_
  have mk := se_make2 (env := [some (.str (setS s)), some (.str (istr s.size)), some (.lst [.str (polS s.p0), .str (polS s.p1)]), some (.int s.size), some (.lst [s.p0.o, s.p1.o]), none]) (h := h) (w := s.size) (p0 := s.p0) (p1 := s.p1) (fd := cPos (aCons (eVar 3) (aStar (eVar 4) aNil))) o.z1 o.z2 (by simp)
  simp [b_read_setting, sp, r1, c6, isND, tyOk, cp, mk]
theorem same_eq : G_l_same [p.o, p.vl] h = .ok (.bl true) h := by
  refine runB_ret ?_
  have e : ∀ h', eqD (.lst [.str p.hold.s, .int p.every, .int p.quick]) p.vl h' = .ok (.bl true) h' := fun h' => by
    have := peq_lists (p := p) (r := p) (h := h')
    rw [peq_self] at this
    exact this
  have e1 : ∀ h', isiD (.cls 0) [0, 1] (.obj 0 [.str p.hold.s, .int p.every, .int p.quick]) h' = .ok (.bl true) h' := fun _ => rfl
  simp [b_l_same, Po.o, e, e1, big]
end
theorem policy_sat {n : Nat} {k : Int} {h : Hs} {s : BagS} {Q : D → Hs → Prop} {E : Nat → List D → Hs → Prop} (hn : n < h.length) (ok : s.Ok k) (hk : k < 1000000000) (q : ∀ (p : Po) (t : BagS), p.Ok → t.Ok (k + 9) → Q p.vl (h.set n t.o)) : R.Sat (G_l_policy [.ref n] (h.set n s.o)) Q E := by
  refine sat_runB ?_
  unfold b_l_policy
  repeat (first | simp [S.sat_toS, R.sat_bind, big] | simp (disch := omega) only [mul_l, mul_r, fdiv_sm, mod_ok])
  refine take_sat (by first | assumption | omega) (by assumption) (by omega) (by omega) (by omega) fun r1 t1 _ _ _ => ?_; try dsimp only
  refine pick_sat (fun d => ∃ x : Hold, d = .str x.s) (by omega) (by simp; omega) (by
    intro d hd
    simp at hd
    rcases hd with rfl | rfl | rfl
    · exact ⟨.off, rfl⟩
    · exact ⟨.part, rfl⟩
    · exact ⟨.all, rfl⟩) ?_
  rintro _ ⟨x, rfl⟩
  repeat (first | simp [S.sat_toS, R.sat_bind, big] | simp (disch := omega) only [mul_l, mul_r, fdiv_sm, mod_ok])
  refine take_sat (by first | assumption | omega) (by assumption) (by omega) (by omega) (by omega) fun r2 t2 _ _ _ => ?_; try dsimp only
  repeat (first | simp [S.sat_toS, R.sat_bind, big] | simp (disch := omega) only [mul_l, mul_r, fdiv_sm, mod_ok])
  refine take_sat (by first | assumption | omega) (by assumption) (by omega) (by omega) (by omega) fun r3 t3 _ _ _ => ?_; try dsimp only
  repeat (first | simp [S.sat_toS, R.sat_bind, big] | simp (disch := omega) only [mul_l, mul_r, fdiv_sm, mod_ok])
  exact q ⟨x, r2, r3⟩ t3 ⟨by assumption, by show r2 ≤ 9; omega, by assumption, by show r3 ≤ 4; omega⟩ ((show t3.Ok (k + 3 + 3 + 3) by assumption).mono (by omega))
/-! ### conversations as data -/
section
variable {ws : List Wr} {h : Hs}
def Wr.pd (w : Wr) : PyData := .tuple [.int w.who, .int w.len, .str w.mode.s]
theorem dat_ws {k : Nat} : datAll (dat (k + 2) h) (ws.map Wr.d) = some (ws.map Wr.pd) := datAll_map fun w _ => rfl
theorem dat_lws {k : Nat} : dat (k + 3) h (.lst (ws.map Wr.d)) = some (.list (ws.map Wr.pd)) := dat_lst dat_ws
theorem dat_rws {k n : Nat} (e : cellL h n = some (ws.map Wr.d)) : dat (k + 3) h (.ref n) = some (.list (ws.map Wr.pd)) := by
  rw [dat]
  simp only [e]
  rw [dat_ws]
  rfl
theorem plain_ws : (PyData.list (ws.map Wr.pd)).plain = true := by
  show PyData.plainAll _ = true
  induction ws with
  | nil => rfl
  | cons w ws ih => rw [List.map_cons, PyData.plainAll, ih]; rfl
theorem rp_ws (hl : ws.length ≤ 200) (ok : ∀ w ∈ ws, w.Ok) : Rp (.list (ws.map Wr.pd)) 100000 := by
  refine rp_list (n := 300) ?_ (by rw [List.length_map]; omega)
  intro p hp
  obtain ⟨w, hw, rfl⟩ := List.mem_map.mp hp
  refine rp_tuple (n := 71) ?_ (by simp)
  intro q hq
  have o := ok w hw
  simp at hq
  rcases hq with rfl | rfl | rfl
  · exact rp_int o.bw
  · exact rp_int o.bl
  · have : Rp (.str w.mode.s) 71 := by cases w.mode <;> exact rp_str
    exact this
def rpT (ws : List Wr) : Str := (PyData.list (ws.map Wr.pd)).shown
theorem repr_lws (hl : ws.length ≤ 200) (ok : ∀ w ∈ ws, w.Ok) : reprD [.lst (ws.map Wr.d)] h = .ok (.str (rpT ws)) h := reprD_ok dat_lws (rp_ws hl ok) (by decide)
theorem repr_rws {n : Nat} (e : cellL h n = some (ws.map Wr.d)) (hl : ws.length ≤ 200) (ok : ∀ w ∈ ws, w.Ok) : reprD [.ref n] h = .ok (.str (rpT ws)) h := reprD_ok (dat_rws e) (rp_ws hl ok) (by decide)
theorem ne_rws {n : Nat} (e : cellL h n = some (ws.map Wr.d)) : neD (.ref n) (.lst (ws.map Wr.d)) h = .ok (.bl false) h := neD_dat (dat_rws e) dat_lws plain_ws
theorem ne_lws : neD (.lst (ws.map Wr.d)) (.lst (ws.map Wr.d)) h = .ok (.bl false) h := neD_dat dat_lws dat_lws plain_ws
/-- read, frozen -/
theorem read_free (hl : ws.length ≤ 200) (ok : ∀ w ∈ ws, w.Ok) : freeR h (G_read_conversation [.str (cvT ws)] h) = .ok (.lst (ws.map Wr.d)) h := by
  rw [read_conversation_eq hl ok]
  unfold freeR
  dsimp only
  rw [if_pos stood_app, frz_lst (k := 11) (xs := ws.map Wr.d) (ys := ws.map Wr.d) (Nat.le_refl _) (by simp) (optAll_nr (k := 10) (nrs_map fun w _ => by simp [Wr.d, D.nr, D.nrs]))]
  dsimp only
  rw [List.take_append_of_le_length (Nat.le_refl _), List.take_length]
end
end Ev
set_option Elab.async false
set_option linter.all false
set_option maxRecDepth 100000
set_option maxHeartbeats 8000000
namespace Ev
open PySem L2
/-! ### the law -/
def padW : List Wr := (List.replicate 100 [(⟨1, 1000000000000000000, .push⟩ : Wr), ⟨0, 1, .more⟩]).flatten
theorem padW_ok : ∀ w ∈ padW, w.Ok := fun w hw => by
  obtain ⟨l, hl, hw⟩ := List.mem_flatten.mp hw
  rw [List.eq_of_mem_replicate hl] at hw
  simp at hw
  rcases hw with rfl | rfl
  · exact ⟨.inr rfl, by show (1 : Int) ≤ 1000000000000000000; decide, by show (1000000000000000000 : Int) ≤ 1000000000000000000; decide⟩
  · exact ⟨.inl rfl, by show (1 : Int) ≤ 1; decide, by show (1 : Int) ≤ 1000000000000000000; decide⟩
theorem padW_len : padW.length = 200 := by decide +kernel
theorem pad_mul {h : Hs} : mulD (.lst [.tup [.int 1, .int 1000000000000000000, .str "push"], .tup [.int 0, .int 1, .str "more"]]) (.int 100) h = .ok (.lst (padW.map Wr.d)) h := by
  have e : (List.replicate 100 [D.tup [.int 1, .int 1000000000000000000, .str "push"], .tup [.int 0, .int 1, .str "more"]]).flatten = padW.map Wr.d := by
    unfold padW
    rw [List.map_flatten, List.map_replicate]
    rfl
  show (if Nat.ble (100 : Int).natAbs big = true ∧ [D.tup [.int 1, .int 1000000000000000000, .str "push"], .tup [.int 0, .int 1, .str "more"]].length * (100 : Int).toNat ≤ big then R.ok (D.lst (List.replicate (100 : Int).toNat [D.tup [.int 1, .int 1000000000000000000, .str "push"], .tup [.int 0, .int 1, .str "more"]]).flatten) h else .bad) = _
  rw [if_pos (by decide)]
  rw [show (100 : Int).toNat = 100 from rfl, e]
theorem pad_add {ws : List Wr} {h : Hs} (hl : ws.length ≤ 200) : addD (.lst (ws.map Wr.d)) (.lst (padW.map Wr.d)) h = .ok (.lst ((ws ++ padW).map Wr.d)) h := by
  show (if (ws.map Wr.d).length + (padW.map Wr.d).length ≤ big then R.ok (D.lst (ws.map Wr.d ++ padW.map Wr.d)) h else .bad) = _
  rw [if_pos (Nat.le_trans (by rw [List.length_map, List.length_map, padW_len]; omega : _ ≤ 400) (by decide)), List.map_append]
theorem pad_cut {ws : List Wr} {h : Hs} : slD (.lst (ws.map Wr.d)) none (some 200) h = .ok (.lst ((ws.take 200).map Wr.d)) h := by
  have : cutD (ws.map Wr.d) none (some 200) = (ws.take 200).map Wr.d := by
    unfold cutD
    rw [List.map_take]
    have e1 : HT.sIx (ws.map Wr.d).length 0 none = 0 := rfl
    rw [e1, List.drop_zero, Nat.sub_zero]
    have e2 : HT.sIx (ws.map Wr.d).length (ws.map Wr.d).length (some 200) = min 200 (ws.map Wr.d).length := rfl
    rw [e2, ← List.take_take, List.take_length]
  show R.ok (D.lst (cutD (ws.map Wr.d) none (some 200))) h = _
  rw [this]
theorem en12 {env : En} (h : env.length = 12) : ∃ a0 a1 a2 a3 a4 a5 a6 a7 a8 a9 a10 a11, env = [a0, a1, a2, a3, a4, a5, a6, a7, a8, a9, a10, a11] := by
  match env, h with
  | [a0, a1, a2, a3, a4, a5, a6, a7, a8, a9, a10, a11], _ => exact ⟨a0, a1, a2, a3, a4, a5, a6, a7, a8, a9, a10, a11, rfl⟩
theorem law71_1 {ns : List Int} {i : Nat} {env : En} {h : Hs} (hi : i < 6) (hl : env.length = 12) (h0 : env[0]? = some (some (.rol (ns.map D.int)))) (h1 : env[1]? = some (some (.int i))) :
    S.Sat (b_law_1 env h) ⟨fun e _ => e.length = 12 ∧ e[0]? = some (some (.rol (ns.map D.int))), fun _ _ => False, fun _ _ => False, fun _ _ => False, fun _ _ _ _ => False⟩ := by
  obtain ⟨a0, a1, a2, a3, a4, a5, a6, a7, a8, a9, a10, a11, rfl⟩ := en12 hl
  simp at h0 h1
  subst h0 h1
  unfold b_law_1
  refine sat_cons fun K hK => ?_
  repeat (first | simp [S.sat_toS, R.sat_bind, big] | simp (disch := omega) only [mul_l, mul_r, fdiv_sm, mod_ok])
  refine bag_sat (by omega) fun h1 n s hn ok => ?_
  refine hK _ _ ?_; clear hK K
  refine sat_cons fun K hK => ?_
  repeat (first | simp [S.sat_toS, R.sat_bind, big] | simp (disch := omega) only [mul_l, mul_r, fdiv_sm, mod_ok])
  refine take_sat (by first | assumption | omega) (by assumption) (by omega) (by omega) (by omega) fun r1 t1 _ _ _ => ?_; try dsimp only
  repeat (first | simp [S.sat_toS, R.sat_bind, big] | simp (disch := omega) only [mul_l, mul_r, fdiv_sm, mod_ok])
  refine take_sat (by first | assumption | omega) (by assumption) (by omega) (by omega) (by omega) fun r2 t2 _ _ _ => ?_; try dsimp only
  repeat (first | simp [S.sat_toS, R.sat_bind, big] | simp (disch := omega) only [mul_l, mul_r, fdiv_sm, mod_ok])
  refine take_sat (by first | assumption | omega) (by assumption) (by omega) (by omega) (by omega) fun r3 t3 _ _ _ => ?_; try dsimp only
  refine pick_sat (fun d => ∃ v : Int, d = .int v ∧ 1 ≤ v ∧ v ≤ 100000000000000000) (by omega) (by simp; omega) (by
    intro d hd
    simp at hd
    rcases hd with rfl | rfl
    · exact ⟨_, rfl, by omega, by omega⟩
    · exact ⟨_, rfl, by omega, by omega⟩) ?_
  rintro _ ⟨w, rfl, w1, w2⟩
  repeat (first | simp [S.sat_toS, R.sat_bind, big] | simp (disch := omega) only [mul_l, mul_r, fdiv_sm, mod_ok])
  refine hK _ _ ?_; clear hK K
  refine sat_cons fun K hK => ?_
  repeat (first | simp [S.sat_toS, R.sat_bind, big] | simp (disch := omega) only [mul_l, mul_r, fdiv_sm, mod_ok])
  refine take_sat (by first | assumption | omega) (by assumption) (by omega) (by omega) (by omega) fun r4 t4 _ _ _ => ?_; try dsimp only
  repeat (first | simp [S.sat_toS, R.sat_bind, big] | simp (disch := omega) only [mul_l, mul_r, fdiv_sm, mod_ok])
  refine take_sat (by first | assumption | omega) (by assumption) (by omega) (by omega) (by omega) fun r5 t5 _ _ _ => ?_; try dsimp only
  repeat (first | simp [S.sat_toS, R.sat_bind, big] | simp (disch := omega) only [mul_l, mul_r, fdiv_sm, mod_ok])
  refine take_sat (by first | assumption | omega) (by assumption) (by omega) (by omega) (by omega) fun r6 t6 _ _ _ => ?_; try dsimp only
  refine pick_sat (fun d => ∃ v : Int, d = .int v ∧ 0 ≤ v ∧ v ≤ 40) (by omega) (by simp; omega) (by
    intro d hd
    simp at hd
    rcases hd with rfl | rfl
    · exact ⟨_, rfl, by omega, by omega⟩
    · exact ⟨_, rfl, by omega, by omega⟩) ?_
  rintro _ ⟨v, rfl, v1, v2⟩
  repeat (first | simp [S.sat_toS, R.sat_bind, big] | simp (disch := omega) only [mul_l, mul_r, fdiv_sm, mod_ok])
  obtain ⟨m, rfl⟩ := Int.eq_ofNat_of_zero_le v1
  refine writes_sat (m := m) hn (by assumption) (by omega) w1 (by omega) (by omega) fun ws t7 hlen hws ok7 => ?_
  repeat (first | simp [S.sat_toS, R.sat_bind, big] | simp (disch := omega) only [mul_l, mul_r, fdiv_sm, mod_ok])
  refine hK _ _ ?_; clear hK K
  refine sat_cons fun K hK => ?_
  have key : ∀ (vs : List Wr) (t : BagS), vs.length ≤ 200 → (∀ w ∈ vs, w.Ok) → t.Ok 5000 → K [some (.rol (ns.map D.int)), some (.int i), some (.ref n), some (.int w), some (.lst (vs.map Wr.d)), a5, a6, a7, a8, a9, a10, a11] (h1.set n t.o) := by
    intro vs t hl okv okt
    refine hK _ _ ?_
    clear hK K
    have e1 := fun h' => law_text_eq (h := h') hl okv
    have e2 := fun h' => repr_lws (h := h') hl okv
    have e3 : G_read_conversation [.str (cvT vs)] (h1.set n t.o) = .ok (.ref h1.length) ((h1 ++ [O.lst (vs.map Wr.d)]).set n t.o) := by
      rw [read_conversation_eq hl okv, List.length_set, push_set hn]
    have c := cell_new (h := h1) (n := n) (xs := vs.map Wr.d) (o := t.o) hn
    have e4 := fun h' => show_conversation_eq (h := h') hl okv
    have e5 := ne_rws c
    have e6 := repr_rws c hl okv
    have e7 := app_new (h := h1) (n := n) (xs := vs.map Wr.d) (o := t.o) (y := .non) hn (Nat.lt_of_le_of_lt (by rw [List.length_map]; exact hl : _ ≤ 200) (by decide))
    have e8 := tyk_new (h := h1) (n := n) (xs := vs.map Wr.d) (o := t.o) hn
    have e9 := fun h' => read_free (h := h') hl okv
    have e10 := fun h' => ne_lws (ws := vs) (h := h')
    refine sat_cons fun K hK => ?_
    repeat (first | simp [S.sat_toS, R.sat_bind, big, e1, e2] | simp (disch := omega) only [mul_l, mul_r, fdiv_sm, mod_ok])
    refine hK _ _ ?_; clear hK K
    refine sat_cons fun K hK => ?_
    repeat (first | simp [S.sat_toS, R.sat_bind, big, e3] | simp (disch := omega) only [mul_l, mul_r, fdiv_sm, mod_ok])
    refine hK _ _ ?_; clear hK K
    refine sat_cons fun K hK => ?_
    repeat (first | simp [S.sat_toS, R.sat_bind, big, e4, e5, e6, e2] | simp (disch := omega) only [mul_l, mul_r, fdiv_sm, mod_ok])
    refine hK _ _ ?_; clear hK K
    refine sat_cons fun K hK => ?_
    repeat (first | simp [S.sat_toS, R.sat_bind, big, e7, e8] | simp (disch := omega) only [mul_l, mul_r, fdiv_sm, mod_ok])
    refine hK _ _ ?_; clear hK K
    have hn3 : n < (h1 ++ [O.lst (vs.map Wr.d ++ [D.non])]).length := by simp; omega
    generalize h1 ++ [O.lst (vs.map Wr.d ++ [D.non])] = h3 at hn3 ⊢
    refine sat_cons fun K hK => ?_
    repeat (first | simp [S.sat_toS, R.sat_bind, big, e9, e10] | simp (disch := omega) only [mul_l, mul_r, fdiv_sm, mod_ok])
    refine hK _ _ ?_; clear hK K
    refine sat_cons fun K hK => ?_
    repeat (first | simp [S.sat_toS, R.sat_bind, big] | simp (disch := omega) only [mul_l, mul_r, fdiv_sm, mod_ok])
    refine policy_sat hn3 okt (by omega) fun p t1 op ok1 => ?_
    repeat (first | simp [S.sat_toS, R.sat_bind, big] | simp (disch := omega) only [mul_l, mul_r, fdiv_sm, mod_ok])
    refine policy_sat hn3 ok1 (by omega) fun r t2 or ok2 => ?_
    repeat (first | simp [S.sat_toS, R.sat_bind, big] | simp (disch := omega) only [mul_l, mul_r, fdiv_sm, mod_ok])
    refine hK _ _ ?_; clear hK K
    have os : (Se.mk w p r).Ok := ⟨w1, by show w ≤ _; omega, op, or⟩
    have od : (Po.mk .all 2 0).Ok := ⟨by decide, by decide, by decide, by decide⟩
    have os0 : (Se.mk w ⟨.all, 2, 0⟩ ⟨.all, 2, 0⟩).Ok := ⟨w1, by show w ≤ _; omega, od, od⟩
    have sw := sh_int (i := w) (by omega)
    have f1 := fun h' => str_int (h := h') (i := w) (by omega)
    have f2 := fun h' => law_words (h := h') op
    have f3 := fun h' => law_words (h := h') or
    have b1 := fun h' => add_sh (h := h') sw (Sh.lit "; " 2) (by decide)
    have b2 := fun h' => add_sh (h := h') (sw.app (Sh.lit "; " 2)) (sh_polS op) (by decide)
    have b3 := fun h' => add_sh (h := h') ((sw.app (Sh.lit "; " 2)).app (sh_polS op)) (Sh.lit "; " 2) (by decide)
    have b4 : ∀ h', addD (.str (istr w ++ Str.ofString "; " ++ polS p ++ Str.ofString "; ")) (.str (polS r)) h' = .ok (.str (setS ⟨w, p, r⟩)) h' := fun h' => add_sh (h := h') (((sw.app (Sh.lit "; " 2)).app (sh_polS op)).app (Sh.lit "; " 2)) (sh_polS or) (by decide)
    refine sat_cons fun K hK => ?_
    repeat (first | simp [S.sat_toS, R.sat_bind, big, f1, f2, f3, b1, b2, b3, b4] | simp (disch := omega) only [mul_l, mul_r, fdiv_sm, mod_ok])
    refine hK _ _ ?_; clear hK K
    have g1 := fun h' => read_policy_eq (h := h') op
    have g2 := fun h' => same_eq (h := h') (p := p)
    have g3 := fun h' => same_eq (h := h') (p := r)
    refine sat_cons fun K hK => ?_
    repeat (first | simp [S.sat_toS, R.sat_bind, big, f2, g1, g2] | simp (disch := omega) only [mul_l, mul_r, fdiv_sm, mod_ok])
    refine hK _ _ ?_; clear hK K
    have g4 : ∀ h', G_read_setting [.str (setS ⟨w, p, r⟩)] h' = .ok (.obj 1 [.int w, .tup [p.o, r.o]]) h' := fun h' => read_setting_eq (h := h') os
    have g5 : ∀ h', txOwnD 1 (posF 1 G_Setting_str) [.obj 1 [.int w, .tup [p.o, r.o]]] h' = .ok (.str (setS ⟨w, p, r⟩)) h' := fun h' => txs_str (h := h') os
    have g6 : ∀ h', isiD (.cls 1) [0, 1] (.obj 1 [.int w, .tup [p.o, r.o]]) h' = .ok (.bl true) h' := fun _ => rfl
    refine sat_cons fun K hK => ?_
    repeat (first | simp [S.sat_toS, R.sat_bind, big, g4] | simp (disch := omega) only [mul_l, mul_r, fdiv_sm, mod_ok])
    refine hK _ _ ?_; clear hK K
    refine sat_cons fun K hK => ?_
    repeat (first | simp [S.sat_toS, R.sat_bind, big, g5, g6] | simp (disch := omega) only [mul_l, mul_r, fdiv_sm, mod_ok])
    refine hK _ _ ?_; clear hK K
    refine sat_cons fun K hK => ?_
    repeat (first | simp [S.sat_toS, R.sat_bind, big, g2, g3] | simp (disch := omega) only [mul_l, mul_r, fdiv_sm, mod_ok])
    refine hK _ _ ?_; clear hK K
    have k1 : ∀ env h', env[3]? = some (some (.int w)) → eMake 1 (starF 2 G_Setting_init) (cPos (aCons (eVar 3) aNil)) env h' = .ok (Se.o ⟨w, ⟨.all, 2, 0⟩, ⟨.all, 2, 0⟩⟩) h' := fun env h' e1 => se_make0 w1 (by omega) (by simp [e1])
    have k2 := fun h' => txs_str (h := h') os0
    have k3 := fun h' => read_setting_eq (h := h') os0
    have k4 : ∀ h', neOwnD 1 (posF 2 G_Setting_eq) (Se.o ⟨w, ⟨.all, 2, 0⟩, ⟨.all, 2, 0⟩⟩) (Se.o ⟨w, ⟨.all, 2, 0⟩, ⟨.all, 2, 0⟩⟩) h' = .ok (.bl false) h' := fun h' => by rw [own_sne]; simp [sqe, peq_self]
    have k5 := fun (env : En) h' => po_make0 (env := env) (h := h')
    have k6 := fun h' => tx_str (h := h') od
    have k7 := fun h' => read_policy_eq (h := h') od
    have k8 : ∀ h', neOwnD 0 (posF 2 G_Policy_eq) (Po.o ⟨.all, 2, 0⟩) (Po.o ⟨.all, 2, 0⟩) h' = .ok (.bl false) h' := fun h' => by rw [own_ne]; simp [peq_self]
    repeat (first | simp [S.sat_toS, R.sat_bind, big, k1, k2, k3, k4, k5, k6, k7, k8] | simp (disch := omega) only [mul_l, mul_r, fdiv_sm, mod_ok])
  repeat (first | simp [S.sat_toS, R.sat_bind, big] | simp (disch := omega) only [mul_l, mul_r, fdiv_sm, mod_ok])
  refine take_sat (by first | assumption | omega) (by assumption) (by omega) (by omega) (by omega) fun r8 t8 _ _ _ => ?_; try dsimp only
  have ok8 : t8.Ok 5000 := (show t8.Ok _ by assumption).mono (by omega)
  by_cases z : r8 = 0
  · have c1 := fun h' => pad_mul (h := h')
    have c2 := fun h' => pad_add (ws := ws) (h := h') (by omega)
    have c3 := fun h' => pad_cut (ws := ws ++ padW) (h := h')
    have k := key ((ws ++ padW).take 200) t8 (by rw [List.length_take]; omega) (fun w hw => by
      rcases List.mem_append.mp (List.mem_of_mem_take hw) with h | h
      · exact (hws w h).1
      · exact padW_ok w h) ok8
    simp [z, S.sat_toS, R.sat_bind, big, c1]
    simp at c2 c3 k
    simp [S.sat_toS, R.sat_bind, c2, c3]
    exact k
  · have k := key ws t8 (by omega) (fun w hw => (hws w hw).1) ok8
    simp [z]
    exact k
theorem law_true : ∀ ns : List Int, ns.length ≤ 63 → (∀ z ∈ ns, Builtin.Int.intBits z ≤ 1048576) → ∃ h', G_law [.rol (ns.map D.int)] [] = .ok (.bl true) h' := by
  intro ns hl hb
  have hN : ∃ m : Nat, m ≤ 6 ∧ (if (2:Int) < (if (ns.length : Int) < 6 then (ns.length : Int) else 6) then (if (ns.length : Int) < 6 then (ns.length : Int) else 6) else 2) = (m : Int) := by
    by_cases h1 : (ns.length : Int) < 6
    · by_cases h2 : (2:Int) < ns.length
      · exact ⟨ns.length, by omega, by simp [h1, h2]⟩
      · exact ⟨2, by omega, by simp [h1, h2]⟩
    · exact ⟨6, by omega, by simp [h1]⟩
  obtain ⟨m, hm, em⟩ := hN
  have ex : ∀ (vs : List Wr), vs.length ≤ 200 → (∀ w ∈ vs, w.Ok) → freeR [] (G_read_conversation [.str (cvT vs)] []) = .ok (.lst (vs.map Wr.d)) [] := fun vs h1 h2 => read_free h1 h2
  have x0 := ex [] (by simp) (by simp)
  have x1 := ex [⟨0, 5, .plain⟩, ⟨1, 7, .more⟩, ⟨0, 10, .push⟩] (by simp) (by
    intro w hw
    simp at hw
    rcases hw with rfl | rfl | rfl <;> exact ⟨by simp, by simp, by simp⟩)
  have t0 : cvT [] = Str.ofString "" := by decide +kernel
  have t1 : cvT [⟨0, 5, .plain⟩, ⟨1, 7, .more⟩, ⟨0, 10, .push⟩] = Str.ofString "0 5; 1 7 more; 0 10 push" := by decide +kernel
  have s0 := fun h' => show_conversation_eq (ws := []) (h := h') (by simp) (by simp)
  have n0 := fun h' => ne_lws (ws := []) (h := h')
  have n1 := fun h' => ne_lws (ws := [⟨0, 5, .plain⟩, ⟨1, 7, .more⟩, ⟨0, 10, .push⟩]) (h := h')
  rw [t0] at x0 s0
  rw [t1] at x1
  simp only [List.map_cons, List.map_nil, Wr.d, Mode.s] at x0 x1 s0 n0 n1
  have key : R.Sat (G_law [.rol (ns.map D.int)] []) (fun d _ => d = .bl true) noE := by
    refine sat_runB ?_
    unfold b_law
    refine sat_cons fun K hK => ?_
    repeat (first | simp [S.sat_toS, R.sat_bind, big, s0, x0, n0] | simp (disch := omega) only [mul_l, mul_r, fdiv_sm, mod_ok])
    refine hK _ _ ?_; clear hK K
    refine sat_cons fun K hK => ?_
    repeat (first | simp [S.sat_toS, R.sat_bind, big, x1, n1] | simp (disch := omega) only [mul_l, mul_r, fdiv_sm, mod_ok])
    refine hK _ _ ?_; clear hK K
    refine sat_cons fun K hK => ?_
    refine sat_for (fun _ e _ => e.length = 12 ∧ e[0]? = some (some (.rol (ns.map D.int)))) (xs := (List.range m).map fun (i : Nat) => D.int (i : Int)) (h1 := []) (iRange1_ok (m := m) (by simp [em]) (by omega)) ?_ ?_ ⟨rfl, rfl⟩
    · rintro i x e h' hx ⟨hi, h0⟩
      have hi4 : i < m := by
        have := (List.getElem?_eq_some_iff.mp hx).1
        simpa using this
      have hx' : x = .int (i : Int) := by
        rw [List.getElem?_map, List.getElem?_range hi4] at hx
        exact (Option.some.inj hx).symm
      subst hx'
      refine ⟨_, kName_ap, ?_⟩
      refine (law71_1 (ns := ns) (i := i) (by omega) (by simpa using hi) (by simpa using h0) (by simp [hi])).mono (fun _ _ z => z) (fun _ _ z => z.elim) (fun _ _ z => z.elim) (fun _ _ z => z.elim) (fun _ _ _ _ z => z)
    · rintro e h' ⟨hi, _⟩
      refine hK _ _ ?_
      simp
  obtain ⟨d, h', e, rfl⟩ := key.get
  exact ⟨h', e⟩
end Ev
set_option Elab.async false
set_option linter.all false
set_option maxRecDepth 100000
set_option maxHeartbeats 4000000
namespace Ev
open PySem L2
variable {P : Program} {w : World} {K : PySem.W.Frag} {mg : Str → Option Value} {base : Heap}
abbrev N_is_integer : List Str := ["value"]
theorem sc_is_integer : FnScope N_is_integer ["value"] (defScope st_is_integer) := ⟨rfl, rfl, rfl, by decide +kernel, rfl, by decide +kernel, by decide +kernel⟩
theorem ok_is_integer {f : Addr} (z_isinstance : mg "isinstance" = none) (i_int : IsiF ci0 K mg .int [0, 1] (.type "int")) (z_int : mg "int" = none) (i_bool : IsiF ci0 K mg .bool [0, 1] (.type "bool")) (z_bool : mg "bool" = none) : BodyOk P w K mg base f "is_integer" st_is_integer N_is_integer 0 b_is_integer := by
  intro cdv A outer s H E hr
  have nd := sc_is_integer.nd
  have tk : Takes (bodyCx P w K mg base N_is_integer "is_integer" st_is_integer f cdv A outer s H E) (bodyW E) := takes_of rfl rfl rfl rfl
  have pp := passes_of (X := bodyCx P w K mg base N_is_integer "is_integer" st_is_integer f cdv A outer s H E) rfl
  exact ⟨_, (ssj_one (sj_ret (ej_and (ej_isiB .int [0, 1] "int" z_isinstance z_int (ej_var 0) i_int) (ej_one (ej_not (ej_isiB .bool [0, 1] "bool" z_isinstance z_bool (ej_var 0) i_bool))))))⟩
abbrev N_in_range : List Str := ["value", "least", "most"]
theorem sc_in_range : FnScope N_in_range ["value", "least", "most"] (defScope st_in_range) := ⟨rfl, rfl, rfl, by decide +kernel, rfl, by decide +kernel, by decide +kernel⟩
theorem ok_in_range {f : Addr} (c_is_integer : NameC ci0 P w K mg base "is_integer" 1 [] (posF 1 G_is_integer)) : BodyOk P w K mg base f "in_range" st_in_range N_in_range 1 b_in_range := by
  intro cdv A outer s H E hr
  have nd := sc_in_range.nd
  have tk : Takes (bodyCx P w K mg base N_in_range "in_range" st_in_range f cdv A outer s H E) (bodyW E) := takes_of rfl rfl rfl rfl
  have pp := passes_of (X := bodyCx P w K mg base N_in_range "in_range" st_in_range f cdv A outer s H E) rfl
  exact ⟨_, (ssj_one (sj_ret (ej_and (ej_fn c_is_integer (hr.mono (by decide)) tk (caj_pos (aj_cons (ej_var 0) aj_nil))) (ej_one (ej_chain op_le op_le opj_le opj_le (ej_var 1) (ej_var 0) (ej_var 2))))))⟩
abbrev N_is_write : List Str := ["value", "endpoint", "length", "mode"]
theorem sc_is_write : FnScope N_is_write ["value"] (defScope st_is_write) := ⟨rfl, rfl, rfl, by decide +kernel, rfl, by decide +kernel, by decide +kernel⟩
theorem ok_is_write {f : Addr} (z_isinstance : mg "isinstance" = none) (i_tuple : IsiF ci0 K mg .tuple [0, 1] (.type "tuple")) (z_tuple : mg "tuple" = none) (z_len : mg "len" = none) (c_in_range : NameC ci0 P w K mg base "in_range" 2 [] (posF 3 G_in_range)) (g_MOST_LENGTH : GlC ci0 K mg "MOST_LENGTH" (.int 1000000000000000000)) (i_str : IsiF ci0 K mg .str [0, 1] (.type "str")) (z_str : mg "str" = none) (g_MODES : GlC ci0 K mg "MODES" (.tup [(.str "plain"), (.str "push"), (.str "more")])) : BodyOk P w K mg base f "is_write" st_is_write N_is_write 2 b_is_write := by
  intro cdv A outer s H E hr
  have nd := sc_is_write.nd
  have tk : Takes (bodyCx P w K mg base N_is_write "is_write" st_is_write f cdv A outer s H E) (bodyW E) := takes_of rfl rfl rfl rfl
  have pp := passes_of (X := bodyCx P w K mg base N_is_write "is_write" st_is_write f cdv A outer s H E) rfl
  exact ⟨_, (ssj_cons (sj_if (tj_w (twj_or (tj_not (tj_tru (ej_isiB .tuple [0, 1] "tuple" z_isinstance z_tuple (ej_var 0) i_tuple))) (twj_or1 (tj_cmp (op_neD hr.units) opj_ne (ej_callB call_len caj_len rfl z_len (by decide +kernel) (aj_cons (ej_var 0) aj_nil)) ej_int (nomark _))))) (ssj_one (sj_ret ej_bl)) ssj_nil)
 (ssj_cons (sj_asg (ej_var 0) (gj_tup rfl (gsj_cons (gj_name 1 nd) (gsj_cons (gj_name 2 nd) (gsj_cons (gj_name 3 nd) gsj_nil)))))
 (ssj_cons (sj_if (tj_w (twj_or (tj_not (tj_tru (ej_fn c_in_range (hr.mono (by decide)) tk (caj_pos (aj_cons (ej_var 1) (aj_cons ej_int (aj_cons ej_int aj_nil))))))) (twj_or1 (tj_not (tj_tru (ej_fn c_in_range (hr.mono (by decide)) tk (caj_pos (aj_cons (ej_var 2) (aj_cons ej_int (aj_cons (ej_gl g_MOST_LENGTH) aj_nil)))))))))) (ssj_one (sj_ret ej_bl)) ssj_nil)
 (ssj_one (sj_ret (ej_and (ej_isiB .str [0, 1] "str" z_isinstance z_str (ej_var 3) i_str) (ej_one (ej_cmp (opr_in (Room.units65 hr)) opj_in (ej_var 3) (ej_gl g_MODES) (by rfl)))))))))⟩
abbrev N_check : List Str := ["conversation", "index", "write"]
theorem sc_check : FnScope N_check ["conversation"] (defScope st_check) := ⟨rfl, rfl, rfl, by decide +kernel, rfl, by decide +kernel, by decide +kernel⟩
theorem ok_check {f : Addr} (z_isinstance : mg "isinstance" = none) (i_list : IsiF ci0 K mg .list [0, 1] (.type "list")) (z_list : mg "list" = none) (z_len : mg "len" = none) (g_MOST_WRITES : GlC ci0 K mg "MOST_WRITES" (.int 200)) (z_enumerate : mg "enumerate" = none) (c_is_write : NameC ci0 P w K mg base "is_write" 3 [] (posF 1 G_is_write)) : BodyOk P w K mg base f "check" st_check N_check 3 b_check := by
  intro cdv A outer s H E hr
  have nd := sc_check.nd
  have tk : Takes (bodyCx P w K mg base N_check "check" st_check f cdv A outer s H E) (bodyW E) := takes_of rfl rfl rfl rfl
  have pp := passes_of (X := bodyCx P w K mg base N_check "check" st_check f cdv A outer s H E) rfl
  exact ⟨_, (ssj_cons (sj_if (tj_w (twj_or (tj_not (tj_tru (ej_isiB .list [0, 1] "list" z_isinstance z_list (ej_var 0) i_list))) (twj_or1 (tj_cmp op_gt opj_gt (ej_callB call_len caj_len rfl z_len (by decide +kernel) (aj_cons (ej_var 0) aj_nil)) (ej_gl g_MOST_WRITES) (nomark _))))) (ssj_one sj_bad) ssj_nil)
 (ssj_one (sj_for pp rfl (ij_enum rfl z_enumerate (aj_cons (ej_var 0) aj_nil)) (gj_tup rfl (gsj_cons (gj_name 1 nd) (gsj_cons (gj_name 2 nd) gsj_nil))) (ssj_one (sj_if (tj_not (tj_tru (ej_fn c_is_write (hr.mono (by decide)) tk (caj_pos (aj_cons (ej_var 2) aj_nil))))) (ssj_one sj_bad) ssj_nil)))))⟩
abbrev N_show_write : List Str := ["write", "endpoint", "length", "mode"]
theorem sc_show_write : FnScope N_show_write ["write"] (defScope st_show_write) := ⟨rfl, rfl, rfl, by decide +kernel, rfl, by decide +kernel, by decide +kernel⟩
theorem ok_show_write {f : Addr}  : BodyOk P w K mg base f "show_write" st_show_write N_show_write 0 b_show_write := by
  intro cdv A outer s H E hr
  have nd := sc_show_write.nd
  have tk : Takes (bodyCx P w K mg base N_show_write "show_write" st_show_write f cdv A outer s H E) (bodyW E) := takes_of rfl rfl rfl rfl
  have pp := passes_of (X := bodyCx P w K mg base N_show_write "show_write" st_show_write f cdv A outer s H E) rfl
  exact ⟨_, (ssj_cons (sj_asg (ej_var 0) (gj_tup rfl (gsj_cons (gj_name 1 nd) (gsj_cons (gj_name 2 nd) (gsj_cons (gj_name 3 nd) gsj_nil)))))
 (ssj_one (sj_ret (ej_bin opr_add opj_add (ej_joined (jj_cons (ej_fmt hr.gd hr.u200 (ej_var 1)) (jj_cons (ej_str) (jj_cons (ej_fmt hr.gd hr.u200 (ej_var 2)) jj_nil)))) (ej_if (tj_cmp (op_eqD hr.units) opj_eq (ej_var 3) (ej_str) (nomark _)) (ej_str) (ej_bin opr_add opj_add (ej_str) (ej_var 3)))))))⟩
abbrev N_show_conversation : List Str := ["conversation", "write"]
theorem sc_show_conversation : FnScope N_show_conversation ["conversation"] (defScope st_show_conversation) := ⟨rfl, rfl, rfl, by decide +kernel, rfl, by decide +kernel, by decide +kernel⟩
theorem ok_show_conversation {f : Addr} (c_check : NameC ci0 P w K mg base "check" 4 [] (posF 1 G_check)) (c_show_write : NameC ci0 P w K mg base "show_write" 1 [] (posF 1 G_show_write)) : BodyOk P w K mg base f "show_conversation" st_show_conversation N_show_conversation 4 b_show_conversation := by
  intro cdv A outer s H E hr
  have nd := sc_show_conversation.nd
  have tk : Takes (bodyCx P w K mg base N_show_conversation "show_conversation" st_show_conversation f cdv A outer s H E) (bodyW E) := takes_of rfl rfl rfl rfl
  have pp := passes_of (X := bodyCx P w K mg base N_show_conversation "show_conversation" st_show_conversation f cdv A outer s H E) rfl
  exact ⟨_, (ssj_cons (sj_expr (ej_fn c_check (hr.mono (by decide)) tk (caj_pos (aj_cons (ej_var 0) aj_nil))))
 (ssj_one (sj_ret (ej_bm .str PySem.F.plainAttrs_str PySem.F.slot_str_join PySem.F.type_str_join mt_jn mj_join (ej_str) (aj_cons (ejJ_lc rfl nd (ij_seq (ej_var 0)) (blkOk_by (own := [("write", 1)]) (N := N_show_conversation) (sc := defScope st_show_conversation) (by decide +kernel)) rfl (by decide) (fun _ _ _ _ _ => (gj_name 1 nd)) (fun _ _ _ _ _ => tsj_nil) (fun _ _ _ _ _ => (ej_fn c_show_write (hr.mono (by decide)) takes0 (caj_pos (aj_cons (ej_var 1) aj_nil))))) aj_nil)))))⟩
abbrev N_read_number : List Str := ["word", "least", "most", "number"]
theorem sc_read_number : FnScope N_read_number ["word", "least", "most"] (defScope st_read_number) := ⟨rfl, rfl, rfl, by decide +kernel, rfl, by decide +kernel, by decide +kernel⟩
theorem ok_read_number {f : Addr} (z_len : mg "len" = none) (g_MOST_DIGITS : GlC ci0 K mg "MOST_DIGITS" (.int 40)) (z_int : mg "int" = none) : BodyOk P w K mg base f "read_number" st_read_number N_read_number 0 b_read_number := by
  intro cdv A outer s H E hr
  have nd := sc_read_number.nd
  have tk : Takes (bodyCx P w K mg base N_read_number "read_number" st_read_number f cdv A outer s H E) (bodyW E) := takes_of rfl rfl rfl rfl
  have pp := passes_of (X := bodyCx P w K mg base N_read_number "read_number" st_read_number f cdv A outer s H E) rfl
  exact ⟨_, (ssj_cons (sj_if (tj_w (twj_or (tj_cmp (op_eqD hr.units) opj_eq (ej_var 0) (ej_str) (nomark _)) (twj_or (tj_cmp op_gt opj_gt (ej_callB call_len caj_len rfl z_len (by decide +kernel) (aj_cons (ej_var 0) aj_nil)) (ej_gl g_MOST_DIGITS) (nomark _)) (twj_or1 (tj_cmp (op_neD hr.units) opj_ne (ej_bm .str PySem.F.plainAttrs_str PySem.F.slot_str_strip PySem.F.type_str_strip mt_stp mj_strip (ej_var 0) (aj_cons (ej_str) aj_nil)) (ej_str) (nomark _)))))) (ssj_one (sj_ret ej_non)) ssj_nil)
 (ssj_cons (sj_if (tj_w (twj_and (tj_cmp (op_eqD hr.units) opj_eq (ej_ix (ej_var 0) ej_int) (ej_str) (nomark _)) (twj_and1 (tj_cmp (op_neD hr.units) opj_ne (ej_var 0) (ej_str) (nomark _))))) (ssj_one (sj_ret ej_non)) ssj_nil)
 (ssj_cons (sj_set 3 nd (ej_callTy cr_intX caj_intX rfl z_int (by decide +kernel) (aj_cons (ej_var 0) aj_nil)))
 (ssj_one (sj_ret (ej_if (tj_chain op_le op_le opj_le opj_le (ej_var 1) (ej_var 3) (ej_var 2)) (ej_var 3) ej_non))))))⟩
abbrev N_read_write : List Str := ["words", "endpoint", "length", "mode", "word"]
theorem sc_read_write : FnScope N_read_write ["words"] (defScope st_read_write) := ⟨rfl, rfl, rfl, by decide +kernel, rfl, by decide +kernel, by decide +kernel⟩
theorem ok_read_write {f : Addr} (z_len : mg "len" = none) (g_MOST_NUMBER : GlC ci0 K mg "MOST_NUMBER" (.int 10000000000000000000000000000000000000000)) (c_read_number : NameC ci0 P w K mg base "read_number" 1 [] (posF 3 G_read_number)) (g_MODES : GlC ci0 K mg "MODES" (.tup [(.str "plain"), (.str "push"), (.str "more")])) : BodyOk P w K mg base f "read_write" st_read_write N_read_write 1 b_read_write := by
  intro cdv A outer s H E hr
  have nd := sc_read_write.nd
  have tk : Takes (bodyCx P w K mg base N_read_write "read_write" st_read_write f cdv A outer s H E) (bodyW E) := takes_of rfl rfl rfl rfl
  have pp := passes_of (X := bodyCx P w K mg base N_read_write "read_write" st_read_write f cdv A outer s H E) rfl
  exact ⟨_, (ssj_cons (sj_if (tj_cmp (opr_notIn (Room.units65 hr)) opj_notIn (ej_callB call_len caj_len rfl z_len (by decide +kernel) (aj_cons (ej_var 0) aj_nil)) (ej_tup (aj_cons ej_int (aj_cons ej_int aj_nil))) (by rfl)) (ssj_one (sj_ret ej_non)) ssj_nil)
 (ssj_cons (sj_asg (ejJ_lc rfl nd (ij_seq (ej_sl (ej_var 0) oj_no (oj_some ej_int))) (blkOk_by (own := [("word", 4)]) (N := N_read_write) (sc := defScope st_read_write) (by decide +kernel)) rfl (by decide) (fun _ _ _ _ _ => (gj_name 4 nd)) (fun _ _ _ _ _ => tsj_nil) (fun _ _ _ _ _ => (ej_fn c_read_number (hr.mono (by decide)) takes0 (caj_pos (aj_cons (ej_var 4) (aj_cons ej_int (aj_cons (ej_gl g_MOST_NUMBER) aj_nil))))))) (gj_lst rfl (gsj_cons (gj_name 1 nd) (gsj_cons (gj_name 2 nd) gsj_nil))))
 (ssj_cons (sj_set 3 nd (ej_if (tj_cmp (op_eqD hr.units) opj_eq (ej_callB call_len caj_len rfl z_len (by decide +kernel) (aj_cons (ej_var 0) aj_nil)) ej_int (nomark _)) (ej_str) (ej_ix (ej_var 0) ej_int)))
 (ssj_cons (sj_if (tj_w (twj_or (tj_cmp op_isN opj_isN (ej_var 1) ej_non (nomark _)) (twj_or (tj_cmp op_isN opj_isN (ej_var 2) ej_non (nomark _)) (twj_or1 (tj_w (twj_and (tj_cmp (op_eqD hr.units) opj_eq (ej_callB call_len caj_len rfl z_len (by decide +kernel) (aj_cons (ej_var 0) aj_nil)) ej_int (nomark _)) (twj_and1 (tj_cmp (opr_notIn (Room.units65 hr)) opj_notIn (ej_var 3) (ej_sl (ej_gl g_MODES) (oj_some ej_int) oj_no) (by rfl))))))))) (ssj_one (sj_ret ej_non)) ssj_nil)
 (ssj_one (sj_ret (ej_tup (aj_cons (ej_var 1) (aj_cons (ej_var 2) (aj_cons (ej_var 3) aj_nil))))))))))⟩
abbrev N_read_conversation : List Str := ["text", "writes", "write", "part"]
theorem sc_read_conversation : FnScope N_read_conversation ["text"] (defScope st_read_conversation) := ⟨rfl, rfl, rfl, by decide +kernel, rfl, by decide +kernel, by decide +kernel⟩
theorem ok_read_conversation {f : Addr} (z_isinstance : mg "isinstance" = none) (i_str : IsiF ci0 K mg .str [0, 1] (.type "str")) (z_str : mg "str" = none) (c_read_write : NameC ci0 P w K mg base "read_write" 2 [] (posF 1 G_read_write)) (z_len : mg "len" = none) (g_MOST_WRITES : GlC ci0 K mg "MOST_WRITES" (.int 200)) (g_MOST_LENGTH : GlC ci0 K mg "MOST_LENGTH" (.int 1000000000000000000)) : BodyOk P w K mg base f "read_conversation" st_read_conversation N_read_conversation 2 b_read_conversation := by
  intro cdv A outer s H E hr
  have nd := sc_read_conversation.nd
  have tk : Takes (bodyCx P w K mg base N_read_conversation "read_conversation" st_read_conversation f cdv A outer s H E) (bodyW E) := takes_of rfl rfl rfl rfl
  have pp := passes_of (X := bodyCx P w K mg base N_read_conversation "read_conversation" st_read_conversation f cdv A outer s H E) rfl
  exact ⟨_, (ssj_cons (sj_if (tj_not (tj_tru (ej_isiB .str [0, 1] "str" z_isinstance z_str (ej_var 0) i_str))) (ssj_one sj_bad) ssj_nil)
 (ssj_cons (sj_if (tj_cmp (op_eqD hr.units) opj_eq (ej_var 0) (ej_str) (nomark _)) (ssj_one (sj_ret (ej_lstM aj_nil))) ssj_nil)
 (ssj_cons (sjJ_setLcM 1 rfl nd (ij_seq (ej_bm .str PySem.F.plainAttrs_str PySem.F.slot_str_split PySem.F.type_str_split mt_spl mj_split (ej_var 0) (aj_cons (ej_str) aj_nil))) (blkOk_by (own := [("part", 3)]) (N := N_read_conversation) (sc := defScope st_read_conversation) (by decide +kernel)) rfl (by decide) (fun _ _ _ _ _ => (gj_name 3 nd)) (fun _ _ _ _ _ => tsj_nil) (fun _ _ _ _ _ => (ej_fn c_read_write (hr.mono (by decide)) takes0 (caj_pos (aj_cons (ej_bm .str PySem.F.plainAttrs_str PySem.F.slot_str_split PySem.F.type_str_split mt_spl mj_split (ej_var 3) (aj_cons (ej_str) aj_nil)) aj_nil)))))
 (ssj_cons (sj_if (tj_cmp op_gt opj_gt (ej_callB call_len caj_len rfl z_len (by decide +kernel) (aj_cons (ej_var 1) aj_nil)) (ej_gl g_MOST_WRITES) (nomark _)) (ssj_one sj_bad) ssj_nil)
 (ssj_cons (sj_for pp rfl (ij_seq (ej_var 1)) (gj_name 2 nd) (ssj_one (sj_if (tj_w (twj_or (tj_cmp op_isN opj_isN (ej_var 2) ej_non (nomark _)) (twj_or (tj_cmp op_gt opj_gt (ej_ix (ej_var 2) ej_int) ej_int (nomark _)) (twj_or1 (tj_not (tj_chain op_le op_le opj_le opj_le ej_int (ej_ix (ej_var 2) ej_int) (ej_gl g_MOST_LENGTH))))))) (ssj_one sj_bad) ssj_nil)))
 (ssj_one (sj_ret (ej_var 1))))))))⟩
abbrev N_l_bag : List Str := ["_law_script", "_law_at", "_law_cell", "_law_digits"]
theorem sc_l_bag : FnScope N_l_bag ["_law_script", "_law_at"] (defScope st_l_bag) := ⟨rfl, rfl, rfl, by decide +kernel, rfl, by decide +kernel, by decide +kernel⟩
theorem ok_l_bag {f : Addr} (z_len : mg "len" = none) (z_abs : mg "abs" = none) (z_int : mg "int" = none) : BodyOk P w K mg base f "_law_bag" st_l_bag N_l_bag 0 b_l_bag := by
  intro cdv A outer s H E hr
  have nd := sc_l_bag.nd
  have tk : Takes (bodyCx P w K mg base N_l_bag "_law_bag" st_l_bag f cdv A outer s H E) (bodyW E) := takes_of rfl rfl rfl rfl
  have pp := passes_of (X := bodyCx P w K mg base N_l_bag "_law_bag" st_l_bag f cdv A outer s H E) rfl
  exact ⟨_, (ssj_cons (sj_set 2 nd (ej_if (tj_cmp op_lt opj_lt (ej_var 1) (ej_callB call_len caj_len rfl z_len (by decide +kernel) (aj_cons (ej_var 0) aj_nil)) (nomark _)) (ej_ix (ej_var 0) (ej_var 1)) ej_int))
 (ssj_cons (sj_set 3 nd (ej_bin opr_mul opj_mul (ej_callB call_abs caj_abs rfl z_abs (by decide +kernel) (aj_cons (ej_var 2) aj_nil)) (ej_callTy call_int1 caj_int rfl z_int (by decide +kernel) (aj_cons (ej_cmp op_ge opj_ge (ej_callB call_abs caj_abs rfl z_abs (by decide +kernel) (aj_cons (ej_var 2) aj_nil)) (ej_bin op_pow opj_pow ej_int ej_int) (nomark _)) aj_nil))))
 (ssj_one (sj_ret (ej_lstM (aj_cons (ej_var 3) (aj_cons (ej_bin opr_add opj_add (ej_bin opr_add opj_add (ej_bin op_mod opj_mod (ej_callTy call_int1 caj_int rfl z_int (by decide +kernel) (aj_cons (ej_var 2) aj_nil)) ej_int) (ej_bin opr_mul opj_mul ej_int (ej_var 1))) ej_int) (aj_cons ej_int aj_nil))))))))⟩
abbrev N_l_take : List Str := ["_law_bag_here", "_law_many", "_law_digit", "_law_found", "_law_reach", "_law_more"]
theorem sc_l_take : FnScope N_l_take ["_law_bag_here", "_law_many"] (defScope st_l_take) := ⟨rfl, rfl, rfl, by decide +kernel, rfl, by decide +kernel, by decide +kernel⟩
theorem ok_l_take {f : Addr} (z_int : mg "int" = none) : BodyOk P w K mg base f "_law_take" st_l_take N_l_take 0 b_l_take := by
  intro cdv A outer s H E hr
  have nd := sc_l_take.nd
  have tk : Takes (bodyCx P w K mg base N_l_take "_law_take" st_l_take f cdv A outer s H E) (bodyW E) := takes_of rfl rfl rfl rfl
  have pp := passes_of (X := bodyCx P w K mg base N_l_take "_law_take" st_l_take f cdv A outer s H E) rfl
  exact ⟨_, (ssj_cons (sj_if (tj_cmp op_gt opj_gt (ej_ix (ej_var 0) ej_int) ej_int (nomark _)) (ssj_cons (sj_set 2 nd (ej_bin op_mod opj_mod (ej_callTy call_int1 caj_int rfl z_int (by decide +kernel) (aj_cons (ej_ix (ej_var 0) ej_int) aj_nil)) (ej_var 1)))
 (ssj_cons (sj_setIx (ej_bin op_fdivW opj_fdiv (ej_ix (ej_var 0) ej_int) (ej_var 1)) (ej_var 0) ej_int)
 (ssj_one (sj_ret (ej_var 2))))) ssj_nil)
 (ssj_cons (sj_asg (ej_tup (aj_cons ej_int (aj_cons ej_int aj_nil))) (gj_tup rfl (gsj_cons (gj_name 3 nd) (gsj_cons (gj_name 4 nd) gsj_nil))))
 (ssj_cons (sj_while pp (tj_cmp op_lt opj_lt (ej_var 4) (ej_var 1) (nomark _)) (ssj_cons (sj_setIx (ej_bin opr_add opj_add (ej_ix (ej_var 0) ej_int) ej_int) (ej_var 0) ej_int)
 (ssj_cons (sj_setIx (ej_bin op_mod opj_mod (ej_callTy call_int1 caj_int rfl z_int (by decide +kernel) (aj_cons (ej_bin opr_add opj_add (ej_bin opr_add opj_add (ej_bin opr_mul opj_mul (ej_ix (ej_var 0) ej_int) ej_int) (ej_bin opr_mul opj_mul (ej_bin opr_mul opj_mul ej_int (ej_ix (ej_var 0) ej_int)) (ej_ix (ej_var 0) ej_int))) ej_int) aj_nil)) ej_int) (ej_var 0) ej_int)
 (ssj_cons (sj_set 5 nd (ej_bin op_mod opj_mod (ej_callTy call_int1 caj_int rfl z_int (by decide +kernel) (aj_cons (ej_bin opr_mul opj_mul (ej_bin op_fdivW opj_fdiv (ej_ix (ej_var 0) ej_int) ej_int) (ej_bin opr_add opj_add (ej_bin op_fdivW opj_fdiv (ej_ix (ej_var 0) ej_int) ej_int) (ej_ix (ej_var 0) ej_int))) aj_nil)) ej_int))
 (ssj_cons (sj_set 3 nd (ej_bin opr_add opj_add (ej_bin opr_mul opj_mul (ej_var 3) ej_int) (ej_bin op_mod opj_mod (ej_callTy call_int1 caj_int rfl z_int (by decide +kernel) (aj_cons (ej_bin op_fdivW opj_fdiv (ej_var 5) ej_int) aj_nil)) ej_int)))
 (ssj_one (sj_set 4 nd (ej_bin opr_mul opj_mul (ej_var 4) ej_int))))))))
 (ssj_one (sj_ret (ej_bin op_mod opj_mod (ej_var 3) (ej_var 1)))))))⟩
abbrev N_l_amount : List Str := ["_law_bag_here", "_law_width", "_law_more"]
theorem sc_l_amount : FnScope N_l_amount ["_law_bag_here", "_law_width"] (defScope st_l_amount) := ⟨rfl, rfl, rfl, by decide +kernel, rfl, by decide +kernel, by decide +kernel⟩
theorem ok_l_amount {f : Addr} (c_l_take : NameC ci0 P w K mg base "_law_take" 1 [] (posF 2 G_l_take)) : BodyOk P w K mg base f "_law_amount" st_l_amount N_l_amount 1 b_l_amount := by
  intro cdv A outer s H E hr
  have nd := sc_l_amount.nd
  have tk : Takes (bodyCx P w K mg base N_l_amount "_law_amount" st_l_amount f cdv A outer s H E) (bodyW E) := takes_of rfl rfl rfl rfl
  have pp := passes_of (X := bodyCx P w K mg base N_l_amount "_law_amount" st_l_amount f cdv A outer s H E) rfl
  exact ⟨_, (ssj_cons (sj_set 2 nd (ej_bin opr_add opj_add ej_int (ej_fn c_l_take (hr.mono (by decide)) tk (caj_pos (aj_cons (ej_var 0) (aj_cons (ej_var 1) aj_nil))))))
 (ssj_one (sj_ret (ej_ix (ej_lst (aj_cons (ej_var 2) (aj_cons (ej_var 2) (aj_cons (ej_bin opr_mul opj_mul (ej_var 1) (ej_bin opr_add opj_add ej_int (ej_fn c_l_take (hr.mono (by decide)) tk (caj_pos (aj_cons (ej_var 0) (aj_cons ej_int aj_nil)))))) (aj_cons (ej_bin opr_add opj_add (ej_bin opr_mul opj_mul (ej_var 1) (ej_fn c_l_take (hr.mono (by decide)) tk (caj_pos (aj_cons (ej_var 0) (aj_cons ej_int aj_nil))))) (ej_var 2)) aj_nil))))) (ej_fn c_l_take (hr.mono (by decide)) tk (caj_pos (aj_cons (ej_var 0) (aj_cons ej_int aj_nil))))))))⟩
abbrev N_l_writes : List Str := ["_law_bag_here", "_law_width", "_law_many", "_law_found", "_law_who", "_law_at", "_law_word"]
theorem sc_l_writes : FnScope N_l_writes ["_law_bag_here", "_law_width", "_law_many"] (defScope st_l_writes) := ⟨rfl, rfl, rfl, by decide +kernel, rfl, by decide +kernel, by decide +kernel⟩
theorem ok_l_writes {f : Addr} (c_l_take : NameC ci0 P w K mg base "_law_take" 1 [] (posF 2 G_l_take)) (z_range : mg "range" = none) (c_l_amount : NameC ci0 P w K mg base "_law_amount" 2 [] (posF 2 G_l_amount)) : BodyOk P w K mg base f "_law_writes" st_l_writes N_l_writes 2 b_l_writes := by
  intro cdv A outer s H E hr
  have nd := sc_l_writes.nd
  have tk : Takes (bodyCx P w K mg base N_l_writes "_law_writes" st_l_writes f cdv A outer s H E) (bodyW E) := takes_of rfl rfl rfl rfl
  have pp := passes_of (X := bodyCx P w K mg base N_l_writes "_law_writes" st_l_writes f cdv A outer s H E) rfl
  exact ⟨_, (ssj_cons (sj_par (i := 3) (j := 4) rfl nd (aj_cons (ej_lstM aj_nil) (aj_cons (ej_fn c_l_take (hr.mono (by decide)) tk (caj_pos (aj_cons (ej_var 0) (aj_cons ej_int aj_nil)))) aj_nil)))
 (ssj_cons (sj_for pp rfl (ij_range1 rfl z_range (aj_cons (ej_var 2) aj_nil)) (gj_name 5 nd) (ssj_cons (sj_if (tj_cmp (op_eqD hr.units) opj_eq (ej_fn c_l_take (hr.mono (by decide)) tk (caj_pos (aj_cons (ej_var 0) (aj_cons ej_int aj_nil)))) ej_int (nomark _)) (ssj_one (sj_set 4 nd (ej_bin op_sub opj_sub ej_int (ej_var 4)))) ssj_nil)
 (ssj_cons (sj_set 6 nd (ej_ix (ej_lst (aj_cons (ej_str) (aj_cons (ej_str) (aj_cons (ej_str) (aj_cons (ej_str) (aj_cons (ej_str) (aj_cons (ej_str) aj_nil))))))) (ej_fn c_l_take (hr.mono (by decide)) tk (caj_pos (aj_cons (ej_var 0) (aj_cons ej_int aj_nil))))))
 (ssj_one (sj_expr (ej_bm .list PySem.F.plainAttrs_list PySem.F.slot_list_append PySem.F.type_list_append mt_append mj_append (ej_var 3) (aj_cons (ej_tup (aj_cons (ej_var 4) (aj_cons (ej_fn c_l_amount (hr.mono (by decide)) tk (caj_pos (aj_cons (ej_var 0) (aj_cons (ej_var 1) aj_nil)))) (aj_cons (ej_var 6) aj_nil)))) aj_nil)))))))
 (ssj_one (sj_ret (ej_var 3)))))⟩
abbrev N_l_text : List Str := ["_law_some", "_law_words_here", "_law_who", "_law_length", "_law_word"]
theorem sc_l_text : FnScope N_l_text ["_law_some"] (defScope st_l_text) := ⟨rfl, rfl, rfl, by decide +kernel, rfl, by decide +kernel, by decide +kernel⟩
theorem ok_l_text {f : Addr} (z_str : mg "str" = none) (z_int : mg "int" = none) : BodyOk P w K mg base f "_law_text" st_l_text N_l_text 0 b_l_text := by
  intro cdv A outer s H E hr
  have nd := sc_l_text.nd
  have tk : Takes (bodyCx P w K mg base N_l_text "_law_text" st_l_text f cdv A outer s H E) (bodyW E) := takes_of rfl rfl rfl rfl
  have pp := passes_of (X := bodyCx P w K mg base N_l_text "_law_text" st_l_text f cdv A outer s H E) rfl
  exact ⟨_, (ssj_cons (sj_set 1 nd (ej_lstM aj_nil))
 (ssj_cons (sj_for pp rfl (ij_seq (ej_var 0)) (gj_tup rfl (gsj_cons (gj_name 2 nd) (gsj_cons (gj_name 3 nd) (gsj_cons (gj_name 4 nd) gsj_nil)))) (ssj_one (sj_expr (ej_bm .list PySem.F.plainAttrs_list PySem.F.slot_list_append PySem.F.type_list_append mt_append mj_append (ej_var 1) (aj_cons (ej_bin opr_add opj_add (ej_bin opr_add opj_add (ej_bin opr_add opj_add (ej_callTy call_str_int caj_strI rfl z_str (by decide +kernel) (aj_cons (ej_var 2) aj_nil)) (ej_str)) (ej_callTy call_str_int caj_strI rfl z_str (by decide +kernel) (aj_cons (ej_var 3) aj_nil))) (ej_ix (ej_lst (aj_cons (ej_str) (aj_cons (ej_bin opr_add opj_add (ej_str) (ej_var 4)) aj_nil))) (ej_callTy call_int1 caj_int rfl z_int (by decide +kernel) (aj_cons (ej_cmp (op_neD hr.units) opj_ne (ej_var 4) (ej_str) (nomark _)) aj_nil)))) aj_nil)))))
 (ssj_one (sj_ret (ej_bm .str PySem.F.plainAttrs_str PySem.F.slot_str_join PySem.F.type_str_join mt_jn mj_join (ej_str) (aj_cons (ej_var 1) aj_nil))))))⟩
abbrev N_l_policy : List Str := ["_law_bag_here"]
theorem sc_l_policy : FnScope N_l_policy ["_law_bag_here"] (defScope st_l_policy) := ⟨rfl, rfl, rfl, by decide +kernel, rfl, by decide +kernel, by decide +kernel⟩
theorem ok_l_policy {f : Addr} (c_l_take : NameC ci0 P w K mg base "_law_take" 1 [] (posF 2 G_l_take)) : BodyOk P w K mg base f "_law_policy" st_l_policy N_l_policy 1 b_l_policy := by
  intro cdv A outer s H E hr
  have nd := sc_l_policy.nd
  have tk : Takes (bodyCx P w K mg base N_l_policy "_law_policy" st_l_policy f cdv A outer s H E) (bodyW E) := takes_of rfl rfl rfl rfl
  have pp := passes_of (X := bodyCx P w K mg base N_l_policy "_law_policy" st_l_policy f cdv A outer s H E) rfl
  exact ⟨_, (ssj_one (sj_ret (ej_lst (aj_cons (ej_ix (ej_lst (aj_cons (ej_str) (aj_cons (ej_str) (aj_cons (ej_str) aj_nil)))) (ej_fn c_l_take (hr.mono (by decide)) tk (caj_pos (aj_cons (ej_var 0) (aj_cons ej_int aj_nil))))) (aj_cons (ej_fn c_l_take (hr.mono (by decide)) tk (caj_pos (aj_cons (ej_var 0) (aj_cons ej_int aj_nil)))) (aj_cons (ej_fn c_l_take (hr.mono (by decide)) tk (caj_pos (aj_cons (ej_var 0) (aj_cons ej_int aj_nil)))) aj_nil))))))⟩
abbrev N_l_words : List Str := ["_law_values", "_law_value"]
theorem sc_l_words : FnScope N_l_words ["_law_values"] (defScope st_l_words) := ⟨rfl, rfl, rfl, by decide +kernel, rfl, by decide +kernel, by decide +kernel⟩
theorem ok_l_words {f : Addr} (z_str : mg "str" = none) : BodyOk P w K mg base f "_law_words" st_l_words N_l_words 0 b_l_words := by
  intro cdv A outer s H E hr
  have nd := sc_l_words.nd
  have tk : Takes (bodyCx P w K mg base N_l_words "_law_words" st_l_words f cdv A outer s H E) (bodyW E) := takes_of rfl rfl rfl rfl
  have pp := passes_of (X := bodyCx P w K mg base N_l_words "_law_words" st_l_words f cdv A outer s H E) rfl
  exact ⟨_, (ssj_one (sj_ret (ej_bm .str PySem.F.plainAttrs_str PySem.F.slot_str_join PySem.F.type_str_join mt_jn mj_join (ej_str) (aj_cons (ejJ_lc rfl nd (ij_seq (ej_var 0)) (blkOk_by (own := [("_law_value", 1)]) (N := N_l_words) (sc := defScope st_l_words) (by decide +kernel)) rfl (by decide) (fun _ _ _ _ _ => (gj_name 1 nd)) (fun _ _ _ _ _ => tsj_nil) (fun _ _ _ _ _ => (ej_callTy cr_strX caj_strX rfl z_str (by decide +kernel) (aj_cons (ej_var 1) aj_nil)))) aj_nil))))⟩
abbrev N_Policy_init : List Str := ["self", "hold", "every", "quick"]
theorem sc_Policy_init : FnScope N_Policy_init ["self", "hold", "every", "quick"] (defScope st_Policy_init) := ⟨rfl, rfl, rfl, by decide +kernel, rfl, by decide +kernel, by decide +kernel⟩
theorem ok_Policy_init {f : Addr} (z_isinstance : mg "isinstance" = none) (i_str : IsiF ci0 K mg .str [0, 1] (.type "str")) (z_str : mg "str" = none) (k_Policy_HOLDS : ConC ci0 K mg "Policy" "HOLDS" (.tup [(.str "off"), (.str "partial"), (.str "all")])) (g_MOST_EVERY : GlC ci0 K mg "MOST_EVERY" (.int 9)) (c_in_range : NameC ci0 P w K mg base "in_range" 2 [] (posF 3 G_in_range)) (g_MOST_QUICK : GlC ci0 K mg "MOST_QUICK" (.int 4)) (f_Policy_hold : FldAt ci0 K mg "hold" 0 0) (f_Policy_every : FldAt ci0 K mg "every" 0 1) (f_Policy_quick : FldAt ci0 K mg "quick" 0 2) (f_TurnState_quick : FldAt ci0 K mg "quick" 2 5) : BodyOk P w K mg base f "Policy.__init__" st_Policy_init N_Policy_init 2 b_Policy_init := by
  intro cdv A outer s H E hr
  have nd := sc_Policy_init.nd
  have tk : Takes (bodyCx P w K mg base N_Policy_init "Policy.__init__" st_Policy_init f cdv A outer s H E) (bodyW E) := takes_of rfl rfl rfl rfl
  have pp := passes_of (X := bodyCx P w K mg base N_Policy_init "Policy.__init__" st_Policy_init f cdv A outer s H E) rfl
  exact ⟨_, (ssj_cons (sj_if (tj_w (twj_or (tj_not (tj_tru (ej_isiB .str [0, 1] "str" z_isinstance z_str (ej_var 1) i_str))) (twj_or1 (tj_cmp (opr_notIn (Room.units65 hr)) opj_notIn (ej_var 1) (ej_con k_Policy_HOLDS) (by rfl))))) (ssj_one sj_bad) ssj_nil)
 (ssj_cons (sj_if (tj_not (tj_tru (ej_fn c_in_range (hr.mono (by decide)) tk (caj_pos (aj_cons (ej_var 2) (aj_cons ej_int (aj_cons (ej_gl g_MOST_EVERY) aj_nil))))))) (ssj_one sj_bad) ssj_nil)
 (ssj_cons (sj_if (tj_not (tj_tru (ej_fn c_in_range (hr.mono (by decide)) tk (caj_pos (aj_cons (ej_var 3) (aj_cons ej_int (aj_cons (ej_gl g_MOST_QUICK) aj_nil))))))) (ssj_one sj_bad) ssj_nil)
 (ssj_cons (sj_attr [(0, 0)] (ej_var 0) (ej_var 1) (tab1 f_Policy_hold))
 (ssj_cons (sj_attr [(0, 1)] (ej_var 0) (ej_var 2) (tab1 f_Policy_every))
 (ssj_one (sj_attr [(0, 2), (2, 5)] (ej_var 0) (ej_var 3) (tab2 f_Policy_quick f_TurnState_quick))))))))⟩
abbrev N_read_policy : List Str := ["text", "words", "every", "quick"]
theorem sc_read_policy : FnScope N_read_policy ["text"] (defScope st_read_policy) := ⟨rfl, rfl, rfl, by decide +kernel, rfl, by decide +kernel, by decide +kernel⟩
theorem ok_read_policy {f : Addr} (z_isinstance : mg "isinstance" = none) (i_str : IsiF ci0 K mg .str [0, 1] (.type "str")) (z_str : mg "str" = none) (z_len : mg "len" = none) (k_Policy_HOLDS : ConC ci0 K mg "Policy" "HOLDS" (.tup [(.str "off"), (.str "partial"), (.str "all")])) (g_MOST_EVERY : GlC ci0 K mg "MOST_EVERY" (.int 9)) (c_read_number : NameC ci0 P w K mg base "read_number" 1 [] (posF 3 G_read_number)) (g_MOST_QUICK : GlC ci0 K mg "MOST_QUICK" (.int 4)) (m_Policy_s2_every_quick : MakeC ci0 P w K mg base 0 3 ["every", "quick"] (kwF 2 2 d_Policy_init_s2_every_quick G_Policy_init)) : BodyOk P w K mg base f "read_policy" st_read_policy N_read_policy 4 b_read_policy := by
  intro cdv A outer s H E hr
  have nd := sc_read_policy.nd
  have tk : Takes (bodyCx P w K mg base N_read_policy "read_policy" st_read_policy f cdv A outer s H E) (bodyW E) := takes_of rfl rfl rfl rfl
  have pp := passes_of (X := bodyCx P w K mg base N_read_policy "read_policy" st_read_policy f cdv A outer s H E) rfl
  exact ⟨_, (ssj_cons (sj_if (tj_not (tj_tru (ej_isiB .str [0, 1] "str" z_isinstance z_str (ej_var 0) i_str))) (ssj_one sj_bad) ssj_nil)
 (ssj_cons (sj_set 1 nd (ej_bm .str PySem.F.plainAttrs_str PySem.F.slot_str_split PySem.F.type_str_split mt_spl mj_split (ej_var 0) (aj_cons (ej_str) aj_nil)))
 (ssj_cons (sj_if (tj_w (twj_or (tj_cmp (op_neD hr.units) opj_ne (ej_callB call_len caj_len rfl z_len (by decide +kernel) (aj_cons (ej_var 1) aj_nil)) ej_int (nomark _)) (twj_or1 (tj_cmp (opr_notIn (Room.units65 hr)) opj_notIn (ej_ix (ej_var 1) ej_int) (ej_con k_Policy_HOLDS) (by rfl))))) (ssj_one sj_bad) ssj_nil)
 (ssj_cons (sj_set 2 nd (ej_fn c_read_number (hr.mono (by decide)) tk (caj_pos (aj_cons (ej_ix (ej_var 1) ej_int) (aj_cons ej_int (aj_cons (ej_gl g_MOST_EVERY) aj_nil))))))
 (ssj_cons (sj_set 3 nd (ej_fn c_read_number (hr.mono (by decide)) tk (caj_pos (aj_cons (ej_ix (ej_var 1) ej_int) (aj_cons ej_int (aj_cons (ej_gl g_MOST_QUICK) aj_nil))))))
 (ssj_cons (sj_if (tj_w (twj_or (tj_cmp op_isN opj_isN (ej_var 2) ej_non (nomark _)) (twj_or1 (tj_cmp op_isN opj_isN (ej_var 3) ej_non (nomark _))))) (ssj_one sj_bad) ssj_nil)
 (ssj_one (sj_ret (ej_make 0 m_Policy_s2_every_quick (hr.mono (by decide)) tk (caj_kw (aj_cons (ej_ix (ej_var 1) ej_int) aj_nil) (kwj_cons (ej_var 2) (kwj_cons (ej_var 3) kwj_nil))))))))))))⟩
abbrev N_l_same : List Str := ["_law_made", "_law_values"]
theorem sc_l_same : FnScope N_l_same ["_law_made", "_law_values"] (defScope st_l_same) := ⟨rfl, rfl, rfl, by decide +kernel, rfl, by decide +kernel, by decide +kernel⟩
theorem ok_l_same {f : Addr} (z_isinstance : mg "isinstance" = none) (i_Policy : IsiC ci0 K mg 0 [0, 1]) (f_Policy_quick : FldAt ci0 K mg "quick" 0 2) (f_TurnState_quick : FldAt ci0 K mg "quick" 2 5) (f_Policy_every : FldAt ci0 K mg "every" 0 1) (f_Policy_hold : FldAt ci0 K mg "hold" 0 0) : BodyOk P w K mg base f "_law_same" st_l_same N_l_same 0 b_l_same := by
  intro cdv A outer s H E hr
  have nd := sc_l_same.nd
  have tk : Takes (bodyCx P w K mg base N_l_same "_law_same" st_l_same f cdv A outer s H E) (bodyW E) := takes_of rfl rfl rfl rfl
  have pp := passes_of (X := bodyCx P w K mg base N_l_same "_law_same" st_l_same f cdv A outer s H E) rfl
  exact ⟨_, (ssj_one (sj_ret (ej_and (ej_isiC 0 [0, 1] z_isinstance (ej_var 0) i_Policy) (ej_one (ej_cmp (op_eqD hr.units) opj_eq (ej_lst (aj_cons (ej_attr [(0, 0)] (ej_var 0) (tab1 f_Policy_hold)) (aj_cons (ej_attr [(0, 1)] (ej_var 0) (tab1 f_Policy_every)) (aj_cons (ej_attr [(0, 2), (2, 5)] (ej_var 0) (tab2 f_Policy_quick f_TurnState_quick)) aj_nil)))) (ej_var 1) (nomark _))))))⟩
abbrev N_Setting_init : List Str := ["self", "size", "policies", "both", "policy"]
theorem sc_Setting_init : FnScope N_Setting_init ["self", "size", "policies"] (defScope st_Setting_init) := ⟨rfl, rfl, rfl, by decide +kernel, rfl, by decide +kernel, by decide +kernel⟩
theorem ok_Setting_init {f : Addr} (g_MOST_SIZE : GlC ci0 K mg "MOST_SIZE" (.int 1000000000000000000)) (c_in_range : NameC ci0 P w K mg base "in_range" 2 [] (posF 3 G_in_range)) (z_len : mg "len" = none) (z_isinstance : mg "isinstance" = none) (i_Policy : IsiC ci0 K mg 0 [0, 1]) (z_all : mg "all" = none) (m_Policy_s1 : MakeC ci0 P w K mg base 0 3 [] (kwF 1 0 d_Policy_init_s1 G_Policy_init)) (f_Setting_size : FldAt ci0 K mg "size" 1 0) (f_Setting_policies : FldAt ci0 K mg "policies" 1 1) : BodyOk P w K mg base f "Setting.__init__" st_Setting_init N_Setting_init 4 b_Setting_init := by
  intro cdv A outer s H E hr
  have nd := sc_Setting_init.nd
  have tk : Takes (bodyCx P w K mg base N_Setting_init "Setting.__init__" st_Setting_init f cdv A outer s H E) (bodyW E) := takes_of rfl rfl rfl rfl
  have pp := passes_of (X := bodyCx P w K mg base N_Setting_init "Setting.__init__" st_Setting_init f cdv A outer s H E) rfl
  exact ⟨_, (ssj_cons (sj_if (tj_not (tj_tru (ej_fn c_in_range (hr.mono (by decide)) tk (caj_pos (aj_cons (ej_var 1) (aj_cons ej_int (aj_cons (ej_gl g_MOST_SIZE) aj_nil))))))) (ssj_one sj_bad) ssj_nil)
 (ssj_cons (sj_if (tj_w (twj_or (tj_cmp op_gt opj_gt (ej_callB call_len caj_len rfl z_len (by decide +kernel) (aj_cons (ej_var 2) aj_nil)) ej_int (nomark _)) (twj_or1 (tj_not (tj_tru (ej_callB (cr_all rfl) caj_all rfl z_all (by decide +kernel) (aj_cons (ejJ_lc rfl nd (ij_seq (ej_var 2)) (blkOk_by (own := [("policy", 4)]) (N := N_Setting_init) (sc := defScope st_Setting_init) (by decide +kernel)) rfl (by decide) (fun _ _ _ _ _ => (gj_name 4 nd)) (fun _ _ _ _ _ => tsj_nil) (fun _ _ _ _ _ => (ej_isiC 0 [0, 1] z_isinstance (ej_var 4) i_Policy))) aj_nil))))))) (ssj_one sj_bad) ssj_nil)
 (ssj_cons (sj_set 3 nd (ej_lst (aj_star (ej_var 2) (aj_star (ej_var 2) (aj_cons (ej_make 0 m_Policy_s1 (hr.mono (by decide)) tk caj_nil) (aj_cons (ej_make 0 m_Policy_s1 (hr.mono (by decide)) tk caj_nil) aj_nil))))))
 (ssj_cons (sj_attr [(1, 0)] (ej_var 0) (ej_var 1) (tab1 f_Setting_size))
 (ssj_one (sj_attr [(1, 1)] (ej_var 0) (ej_tup (aj_cons (ej_ix (ej_var 3) ej_int) (aj_cons (ej_ix (ej_var 3) ej_int) aj_nil))) (tab1 f_Setting_policies)))))))⟩
abbrev N_read_setting : List Str := ["text", "first", "others", "size", "policies", "part"]
theorem sc_read_setting : FnScope N_read_setting ["text"] (defScope st_read_setting) := ⟨rfl, rfl, rfl, by decide +kernel, rfl, by decide +kernel, by decide +kernel⟩
theorem ok_read_setting {f : Addr} (z_isinstance : mg "isinstance" = none) (i_str : IsiF ci0 K mg .str [0, 1] (.type "str")) (z_str : mg "str" = none) (g_MOST_SIZE : GlC ci0 K mg "MOST_SIZE" (.int 1000000000000000000)) (c_read_number : NameC ci0 P w K mg base "read_number" 1 [] (posF 3 G_read_number)) (z_len : mg "len" = none) (c_read_policy : NameC ci0 P w K mg base "read_policy" 5 [] (posF 1 G_read_policy)) (m_Setting_star : MakeC ci0 P w K mg base 1 5 [] (starF 2 G_Setting_init)) : BodyOk P w K mg base f "read_setting" st_read_setting N_read_setting 6 b_read_setting := by
  intro cdv A outer s H E hr
  have nd := sc_read_setting.nd
  have tk : Takes (bodyCx P w K mg base N_read_setting "read_setting" st_read_setting f cdv A outer s H E) (bodyW E) := takes_of rfl rfl rfl rfl
  have pp := passes_of (X := bodyCx P w K mg base N_read_setting "read_setting" st_read_setting f cdv A outer s H E) rfl
  exact ⟨_, (ssj_cons (sj_if (tj_not (tj_tru (ej_isiB .str [0, 1] "str" z_isinstance z_str (ej_var 0) i_str))) (ssj_one sj_bad) ssj_nil)
 (ssj_cons (sj_star (i := 1) (j := 2) rfl nd (ej_bm .str PySem.F.plainAttrs_str PySem.F.slot_str_split PySem.F.type_str_split mt_spl mj_split (ej_var 0) (aj_cons (ej_str) aj_nil)))
 (ssj_cons (sj_set 3 nd (ej_fn c_read_number (hr.mono (by decide)) tk (caj_pos (aj_cons (ej_var 1) (aj_cons ej_int (aj_cons (ej_gl g_MOST_SIZE) aj_nil))))))
 (ssj_cons (sj_if (tj_w (twj_or (tj_cmp op_isN opj_isN (ej_var 3) ej_non (nomark _)) (twj_or1 (tj_cmp (op_neD hr.units) opj_ne (ej_callB call_len caj_len rfl z_len (by decide +kernel) (aj_cons (ej_var 2) aj_nil)) ej_int (nomark _))))) (ssj_one sj_bad) ssj_nil)
 (ssj_cons (sjJ_setLc 4 rfl nd (ij_seq (ej_var 2)) (blkOk_by (own := [("part", 5)]) (N := N_read_setting) (sc := defScope st_read_setting) (by decide +kernel)) rfl (by decide) (fun _ _ _ _ _ => (gj_name 5 nd)) (fun _ _ _ _ _ => tsj_nil) (fun _ _ _ _ _ => (ej_fn c_read_policy (hr.mono (by decide)) takes0 (caj_pos (aj_cons (ej_var 5) aj_nil)))))
 (ssj_one (sj_ret (ej_make 1 m_Setting_star (hr.mono (by decide)) tk (caj_posS (aj_cons (ej_var 3) (aj_star (ej_var 4) aj_nil)))))))))))⟩
abbrev N_Policy_str : List Str := ["self"]
theorem sc_Policy_str : FnScope N_Policy_str ["self"] (defScope st_Policy_str) := ⟨rfl, rfl, rfl, by decide +kernel, rfl, by decide +kernel, by decide +kernel⟩
theorem ok_Policy_str {f : Addr} (f_Policy_hold : FldAt ci0 K mg "hold" 0 0) (f_Policy_every : FldAt ci0 K mg "every" 0 1) (f_Policy_quick : FldAt ci0 K mg "quick" 0 2) (f_TurnState_quick : FldAt ci0 K mg "quick" 2 5) : BodyOk P w K mg base f "Policy.__str__" st_Policy_str N_Policy_str 0 b_Policy_str := by
  intro cdv A outer s H E hr
  have nd := sc_Policy_str.nd
  have tk : Takes (bodyCx P w K mg base N_Policy_str "Policy.__str__" st_Policy_str f cdv A outer s H E) (bodyW E) := takes_of rfl rfl rfl rfl
  have pp := passes_of (X := bodyCx P w K mg base N_Policy_str "Policy.__str__" st_Policy_str f cdv A outer s H E) rfl
  exact ⟨_, (ssj_one (sj_ret (ej_joined (jj_cons (ej_fmt hr.gd hr.u200 (ej_attr [(0, 0)] (ej_var 0) (tab1 f_Policy_hold))) (jj_cons (ej_str) (jj_cons (ej_fmt hr.gd hr.u200 (ej_attr [(0, 1)] (ej_var 0) (tab1 f_Policy_every))) (jj_cons (ej_str) (jj_cons (ej_fmt hr.gd hr.u200 (ej_attr [(0, 2), (2, 5)] (ej_var 0) (tab2 f_Policy_quick f_TurnState_quick))) jj_nil))))))))⟩
abbrev N_Setting_str : List Str := ["self"]
theorem sc_Setting_str : FnScope N_Setting_str ["self"] (defScope st_Setting_str) := ⟨rfl, rfl, rfl, by decide +kernel, rfl, by decide +kernel, by decide +kernel⟩
theorem ok_Setting_str {f : Addr} (f_Setting_size : FldAt ci0 K mg "size" 1 0) (f_Setting_policies : FldAt ci0 K mg "policies" 1 1) (t_Policystr : TxC ci0 P w K mg base 0 "__str__" 1 (posF 1 G_Policy_str)) : BodyOk P w K mg base f "Setting.__str__" st_Setting_str N_Setting_str 3 b_Setting_str := by
  intro cdv A outer s H E hr
  have nd := sc_Setting_str.nd
  have tk : Takes (bodyCx P w K mg base N_Setting_str "Setting.__str__" st_Setting_str f cdv A outer s H E) (bodyW E) := takes_of rfl rfl rfl rfl
  have pp := passes_of (X := bodyCx P w K mg base N_Setting_str "Setting.__str__" st_Setting_str f cdv A outer s H E) rfl
  exact ⟨_, (ssj_one (sj_ret (ej_joined (jj_cons (ej_fmt hr.gd hr.u200 (ej_attr [(1, 0)] (ej_var 0) (tab1 f_Setting_size))) (jj_cons (ej_str) (jj_cons (ej_fmtOwn 0 t_Policystr (hr.mono (by decide)) (ej_ix (ej_attr [(1, 1)] (ej_var 0) (tab1 f_Setting_policies)) ej_int)) (jj_cons (ej_str) (jj_cons (ej_fmtOwn 0 t_Policystr (hr.mono (by decide)) (ej_ix (ej_attr [(1, 1)] (ej_var 0) (tab1 f_Setting_policies)) ej_int)) jj_nil))))))))⟩
abbrev N_Policy_eq : List Str := ["self", "other"]
theorem sc_Policy_eq : FnScope N_Policy_eq ["self", "other"] (defScope st_Policy_eq) := ⟨rfl, rfl, rfl, by decide +kernel, rfl, by decide +kernel, by decide +kernel⟩
theorem ok_Policy_eq {f : Addr} (z_isinstance : mg "isinstance" = none) (i_Policy : IsiC ci0 K mg 0 [0, 1]) (f_Policy_hold : FldAt ci0 K mg "hold" 0 0) (f_Policy_every : FldAt ci0 K mg "every" 0 1) (f_Policy_quick : FldAt ci0 K mg "quick" 0 2) (f_TurnState_quick : FldAt ci0 K mg "quick" 2 5) : BodyOk P w K mg base f "Policy.__eq__" st_Policy_eq N_Policy_eq 0 b_Policy_eq := by
  intro cdv A outer s H E hr
  have nd := sc_Policy_eq.nd
  have tk : Takes (bodyCx P w K mg base N_Policy_eq "Policy.__eq__" st_Policy_eq f cdv A outer s H E) (bodyW E) := takes_of rfl rfl rfl rfl
  have pp := passes_of (X := bodyCx P w K mg base N_Policy_eq "Policy.__eq__" st_Policy_eq f cdv A outer s H E) rfl
  exact ⟨_, (ssj_cons (sj_if (tj_not (tj_tru (ej_isiC 0 [0, 1] z_isinstance (ej_var 1) i_Policy))) (ssj_one (sj_ret ej_bl)) ssj_nil)
 (ssj_one (sj_ret (ej_and (ej_cmp (op_eqD hr.units) opj_eq (ej_attr [(0, 0)] (ej_var 0) (tab1 f_Policy_hold)) (ej_attr [(0, 0)] (ej_var 1) (tab1 f_Policy_hold)) (nomark _)) (ej_and (ej_cmp (op_eqD hr.units) opj_eq (ej_attr [(0, 1)] (ej_var 0) (tab1 f_Policy_every)) (ej_attr [(0, 1)] (ej_var 1) (tab1 f_Policy_every)) (nomark _)) (ej_one (ej_cmp (op_eqD hr.units) opj_eq (ej_attr [(0, 2), (2, 5)] (ej_var 0) (tab2 f_Policy_quick f_TurnState_quick)) (ej_attr [(0, 2), (2, 5)] (ej_var 1) (tab2 f_Policy_quick f_TurnState_quick)) (nomark _))))))))⟩
abbrev N_Setting_eq : List Str := ["self", "other"]
theorem sc_Setting_eq : FnScope N_Setting_eq ["self", "other"] (defScope st_Setting_eq) := ⟨rfl, rfl, rfl, by decide +kernel, rfl, by decide +kernel, by decide +kernel⟩
theorem ok_Setting_eq {f : Addr} (z_isinstance : mg "isinstance" = none) (i_Setting : IsiC ci0 K mg 1 [0, 1]) (f_Setting_size : FldAt ci0 K mg "size" 1 0) (f_Setting_policies : FldAt ci0 K mg "policies" 1 1) (q_Policy : EqC ci0 P w K mg base 0 1 (posF 2 G_Policy_eq)) : BodyOk P w K mg base f "Setting.__eq__" st_Setting_eq N_Setting_eq 2 b_Setting_eq := by
  intro cdv A outer s H E hr
  have nd := sc_Setting_eq.nd
  have tk : Takes (bodyCx P w K mg base N_Setting_eq "Setting.__eq__" st_Setting_eq f cdv A outer s H E) (bodyW E) := takes_of rfl rfl rfl rfl
  have pp := passes_of (X := bodyCx P w K mg base N_Setting_eq "Setting.__eq__" st_Setting_eq f cdv A outer s H E) rfl
  exact ⟨_, (ssj_one (sj_ret (ej_and (ej_isiC 1 [0, 1] z_isinstance (ej_var 1) i_Setting) (ej_and (ej_cmp (op_eqD hr.units) opj_eq (ej_attr [(1, 0)] (ej_var 0) (tab1 f_Setting_size)) (ej_attr [(1, 0)] (ej_var 1) (tab1 f_Setting_size)) (nomark _)) (ej_one (ej_cmp (opr_tupOwn q_Policy (hr.mono (by decide))) opj_tupOwn (ej_attr [(1, 1)] (ej_var 0) (tab1 f_Setting_policies)) (ej_attr [(1, 1)] (ej_var 1) (tab1 f_Setting_policies)) (nomark _)))))))⟩
abbrev N_law : List Str := ["_law_script", "_law_at", "_law_bag_here", "_law_width", "_law_some", "_law_text_here", "_law_kept", "_law_found", "_law_one", "_law_two", "_law_line", "_law_made"]
theorem sc_law : FnScope N_law ["_law_script"] (defScope st_law) := ⟨rfl, rfl, rfl, by decide +kernel, rfl, by decide +kernel, by decide +kernel⟩
theorem ok_law {f : Addr} (c_show_conversation : NameC ci0 P w K mg base "show_conversation" 5 [] (posF 1 G_show_conversation)) (c_read_conversation : NameC ci0 P w K mg base "read_conversation" 3 [] (posF 1 G_read_conversation)) (z_len : mg "len" = none) (z_min : mg "min" = none) (z_max : mg "max" = none) (z_range : mg "range" = none) (c_l_bag : NameC ci0 P w K mg base "_law_bag" 1 [] (posF 2 G_l_bag)) (c_l_take : NameC ci0 P w K mg base "_law_take" 1 [] (posF 2 G_l_take)) (c_l_writes : NameC ci0 P w K mg base "_law_writes" 3 [] (posF 3 G_l_writes)) (c_l_text : NameC ci0 P w K mg base "_law_text" 1 [] (posF 1 G_l_text)) (z_repr : mg "repr" = none) (c_l_policy : NameC ci0 P w K mg base "_law_policy" 2 [] (posF 1 G_l_policy)) (z_str : mg "str" = none) (c_l_words : NameC ci0 P w K mg base "_law_words" 1 [] (posF 1 G_l_words)) (c_read_policy : NameC ci0 P w K mg base "read_policy" 5 [] (posF 1 G_read_policy)) (c_l_same : NameC ci0 P w K mg base "_law_same" 1 [] (posF 2 G_l_same)) (c_read_setting : NameC ci0 P w K mg base "read_setting" 7 [] (posF 1 G_read_setting)) (z_isinstance : mg "isinstance" = none) (i_Setting : IsiC ci0 K mg 1 [0, 1]) (f_Setting_size : FldAt ci0 K mg "size" 1 0) (t_Settingstr : TxC ci0 P w K mg base 1 "__str__" 4 (posF 1 G_Setting_str)) (f_Setting_policies : FldAt ci0 K mg "policies" 1 1) (m_Setting_star : MakeC ci0 P w K mg base 1 5 [] (starF 2 G_Setting_init)) (q_Setting : EqC ci0 P w K mg base 1 3 (posF 2 G_Setting_eq)) (t_Policystr : TxC ci0 P w K mg base 0 "__str__" 1 (posF 1 G_Policy_str)) (m_Policy_s1 : MakeC ci0 P w K mg base 0 3 [] (kwF 1 0 d_Policy_init_s1 G_Policy_init)) (q_Policy : EqC ci0 P w K mg base 0 1 (posF 2 G_Policy_eq)) : BodyOk P w K mg base f "law" st_law N_law 7 b_law := by
  intro cdv A outer s H E hr
  have nd := sc_law.nd
  have tk : Takes (bodyCx P w K mg base N_law "law" st_law f cdv A outer s H E) (bodyW E) := takes_of rfl rfl rfl rfl
  have pp := passes_of (X := bodyCx P w K mg base N_law "law" st_law f cdv A outer s H E) rfl
  exact ⟨_, (ssj_cons (sj_if (tj_w (twj_or (tj_cmp (op_neD hr.units) opj_ne (ej_fn c_show_conversation (hr.mono (by decide)) tk (caj_pos (aj_cons (ej_lst aj_nil) aj_nil))) (ej_str) (nomark _)) (twj_or1 (tj_cmp (op_neD hr.units) opj_ne (ej_free (ej_fn c_read_conversation (hr.mono (by decide)) tk (caj_pos (aj_cons (ej_str) aj_nil)))) (ej_lst aj_nil) (nomark _))))) (ssj_one (sj_ret ej_bl)) ssj_nil)
 (ssj_cons (sj_if (tj_cmp (op_neD hr.units) opj_ne (ej_free (ej_fn c_read_conversation (hr.mono (by decide)) tk (caj_pos (aj_cons (ej_str) aj_nil)))) (ej_lst (aj_cons (ej_tup (aj_cons ej_int (aj_cons ej_int (aj_cons (ej_str) aj_nil)))) (aj_cons (ej_tup (aj_cons ej_int (aj_cons ej_int (aj_cons (ej_str) aj_nil)))) (aj_cons (ej_tup (aj_cons ej_int (aj_cons ej_int (aj_cons (ej_str) aj_nil)))) aj_nil)))) (nomark _)) (ssj_one (sj_ret ej_bl)) ssj_nil)
 (ssj_cons (sj_for pp rfl (ij_range1 rfl z_range (aj_cons (ej_callB (call_max2 rfl) caj_max rfl z_max (by decide +kernel) (aj_cons ej_int (aj_cons (ej_callB (call_min2 rfl) caj_min rfl z_min (by decide +kernel) (aj_cons ej_int (aj_cons (ej_callB call_len caj_len rfl z_len (by decide +kernel) (aj_cons (ej_var 0) aj_nil)) aj_nil))) aj_nil))) aj_nil)) (gj_name 1 nd) (ssj_cons (sj_set 2 nd (ej_fn c_l_bag (hr.mono (by decide)) tk (caj_pos (aj_cons (ej_var 0) (aj_cons (ej_var 1) aj_nil)))))
 (ssj_cons (sj_set 3 nd (ej_ix (ej_lst (aj_cons (ej_bin opr_add opj_add ej_int (ej_fn c_l_take (hr.mono (by decide)) tk (caj_pos (aj_cons (ej_var 2) (aj_cons ej_int aj_nil))))) (aj_cons (ej_bin opr_add opj_add ej_int (ej_fn c_l_take (hr.mono (by decide)) tk (caj_pos (aj_cons (ej_var 2) (aj_cons (ej_bin op_pow opj_pow ej_int ej_int) aj_nil))))) aj_nil))) (ej_fn c_l_take (hr.mono (by decide)) tk (caj_pos (aj_cons (ej_var 2) (aj_cons ej_int aj_nil))))))
 (ssj_cons (sj_set 4 nd (ej_fn c_l_writes (hr.mono (by decide)) tk (caj_pos (aj_cons (ej_var 2) (aj_cons (ej_var 3) (aj_cons (ej_ix (ej_lst (aj_cons (ej_fn c_l_take (hr.mono (by decide)) tk (caj_pos (aj_cons (ej_var 2) (aj_cons ej_int aj_nil)))) (aj_cons (ej_fn c_l_take (hr.mono (by decide)) tk (caj_pos (aj_cons (ej_var 2) (aj_cons ej_int aj_nil)))) aj_nil))) (ej_fn c_l_take (hr.mono (by decide)) tk (caj_pos (aj_cons (ej_var 2) (aj_cons ej_int aj_nil))))) aj_nil))))))
 (ssj_cons (sj_if (tj_cmp (op_eqD hr.units) opj_eq (ej_fn c_l_take (hr.mono (by decide)) tk (caj_pos (aj_cons (ej_var 2) (aj_cons ej_int aj_nil)))) ej_int (nomark _)) (ssj_one (sj_set 4 nd (ej_sl (ej_bin opr_add opj_add (ej_var 4) (ej_bin opr_mul opj_mul (ej_lst (aj_cons (ej_tup (aj_cons ej_int (aj_cons (ej_bin op_pow opj_pow ej_int ej_int) (aj_cons (ej_str) aj_nil)))) (aj_cons (ej_tup (aj_cons ej_int (aj_cons ej_int (aj_cons (ej_str) aj_nil)))) aj_nil))) ej_int)) oj_no (oj_some ej_int)))) ssj_nil)
 (ssj_cons (sj_par (i := 5) (j := 6) rfl nd (aj_cons (ej_fn c_l_text (hr.mono (by decide)) tk (caj_pos (aj_cons (ej_var 4) aj_nil))) (aj_cons (ej_callB (cr_reprD hr.gd hr.u200) caj_repr rfl z_repr (by decide +kernel) (aj_cons (ej_var 4) aj_nil)) aj_nil)))
 (ssj_cons (sj_set 7 nd (ej_fn c_read_conversation (hr.mono (by decide)) tk (caj_pos (aj_cons (ej_var 5) aj_nil))))
 (ssj_cons (sj_if (tj_w (twj_or (tj_cmp (op_neD hr.units) opj_ne (ej_fn c_show_conversation (hr.mono (by decide)) tk (caj_pos (aj_cons (ej_var 4) aj_nil))) (ej_var 5) (nomark _)) (twj_or (tj_cmp (op_neD hr.units) opj_ne (ej_var 7) (ej_var 4) (nomark _)) (twj_or (tj_cmp (op_neD hr.units) opj_ne (ej_callB (cr_reprD hr.gd hr.u200) caj_repr rfl z_repr (by decide +kernel) (aj_cons (ej_var 7) aj_nil)) (ej_var 6) (nomark _)) (twj_or1 (tj_cmp (op_neD hr.units) opj_ne (ej_callB (cr_reprD hr.gd hr.u200) caj_repr rfl z_repr (by decide +kernel) (aj_cons (ej_var 4) aj_nil)) (ej_var 6) (nomark _))))))) (ssj_one (sj_ret ej_bl)) ssj_nil)
 (ssj_cons (sj_expr (ej_bm .list PySem.F.plainAttrs_list PySem.F.slot_list_append PySem.F.type_list_append mt_append mj_append (ej_var 7) (aj_cons ej_non aj_nil)))
 (ssj_cons (sj_if (tj_cmp (op_neD hr.units) opj_ne (ej_free (ej_fn c_read_conversation (hr.mono (by decide)) tk (caj_pos (aj_cons (ej_var 5) aj_nil)))) (ej_var 4) (nomark _)) (ssj_one (sj_ret ej_bl)) ssj_nil)
 (ssj_cons (sj_par (i := 8) (j := 9) rfl nd (aj_cons (ej_fn c_l_policy (hr.mono (by decide)) tk (caj_pos (aj_cons (ej_var 2) aj_nil))) (aj_cons (ej_fn c_l_policy (hr.mono (by decide)) tk (caj_pos (aj_cons (ej_var 2) aj_nil))) aj_nil)))
 (ssj_cons (sj_set 10 nd (ej_bin opr_add opj_add (ej_bin opr_add opj_add (ej_bin opr_add opj_add (ej_bin opr_add opj_add (ej_callTy call_str_int caj_strI rfl z_str (by decide +kernel) (aj_cons (ej_var 3) aj_nil)) (ej_str)) (ej_fn c_l_words (hr.mono (by decide)) tk (caj_pos (aj_cons (ej_var 8) aj_nil)))) (ej_str)) (ej_fn c_l_words (hr.mono (by decide)) tk (caj_pos (aj_cons (ej_var 9) aj_nil)))))
 (ssj_cons (sj_if (tj_not (tj_tru (ej_fn c_l_same (hr.mono (by decide)) tk (caj_pos (aj_cons (ej_fn c_read_policy (hr.mono (by decide)) tk (caj_pos (aj_cons (ej_fn c_l_words (hr.mono (by decide)) tk (caj_pos (aj_cons (ej_var 8) aj_nil))) aj_nil))) (aj_cons (ej_var 8) aj_nil)))))) (ssj_one (sj_ret ej_bl)) ssj_nil)
 (ssj_cons (sj_set 11 nd (ej_fn c_read_setting (hr.mono (by decide)) tk (caj_pos (aj_cons (ej_var 10) aj_nil))))
 (ssj_cons (sj_if (tj_w (twj_or (tj_not (tj_tru (ej_isiC 1 [0, 1] z_isinstance (ej_var 11) i_Setting))) (twj_or (tj_cmp (op_neD hr.units) opj_ne (ej_attr [(1, 0)] (ej_var 11) (tab1 f_Setting_size)) (ej_var 3) (nomark _)) (twj_or1 (tj_cmp (op_neD hr.units) opj_ne (ej_callTy (cr_strOwn t_Settingstr (hr.mono (by decide))) caj_txOwn rfl z_str (by decide +kernel) (aj_cons (ej_var 11) aj_nil)) (ej_var 10) (nomark _)))))) (ssj_one (sj_ret ej_bl)) ssj_nil)
 (ssj_cons (sj_if (tj_w (twj_or (tj_not (tj_tru (ej_fn c_l_same (hr.mono (by decide)) tk (caj_pos (aj_cons (ej_ix (ej_attr [(1, 1)] (ej_var 11) (tab1 f_Setting_policies)) ej_int) (aj_cons (ej_var 8) aj_nil)))))) (twj_or1 (tj_not (tj_tru (ej_fn c_l_same (hr.mono (by decide)) tk (caj_pos (aj_cons (ej_ix (ej_attr [(1, 1)] (ej_var 11) (tab1 f_Setting_policies)) ej_int) (aj_cons (ej_var 9) aj_nil))))))))) (ssj_one (sj_ret ej_bl)) ssj_nil)
 (ssj_one (sj_if (tj_w (twj_or (tj_cmp (opr_neOwn q_Setting (hr.mono (by decide))) opj_neOwn (ej_fn c_read_setting (hr.mono (by decide)) tk (caj_pos (aj_cons (ej_callTy (cr_strOwn t_Settingstr (hr.mono (by decide))) caj_txOwn rfl z_str (by decide +kernel) (aj_cons (ej_make 1 m_Setting_star (hr.mono (by decide)) tk (caj_pos (aj_cons (ej_var 3) aj_nil))) aj_nil)) aj_nil))) (ej_make 1 m_Setting_star (hr.mono (by decide)) tk (caj_pos (aj_cons (ej_var 3) aj_nil))) (nomark _)) (twj_or1 (tj_cmp (opr_neOwn q_Policy (hr.mono (by decide))) opj_neOwn (ej_fn c_read_policy (hr.mono (by decide)) tk (caj_pos (aj_cons (ej_callTy (cr_strOwn t_Policystr (hr.mono (by decide))) caj_txOwn rfl z_str (by decide +kernel) (aj_cons (ej_make 0 m_Policy_s1 (hr.mono (by decide)) tk caj_nil) aj_nil)) aj_nil))) (ej_make 0 m_Policy_s1 (hr.mono (by decide)) tk caj_nil) (nomark _))))) (ssj_one (sj_ret ej_bl)) ssj_nil))))))))))))))))))
 (ssj_one (sj_ret ej_bl)))))⟩
end Ev
set_option Elab.async false
set_option linter.all false
set_option maxRecDepth 100000
set_option maxHeartbeats 4000000
namespace Ev
open PySem L2
theorem facts {P : Program} {w : World} {K : PySem.W.Frag} {mg : Str → Option Value} {h : Heap} {fa : Addr} (X : K.In h) (Gm : h.Ns mainGlobals mg) (hfa : mg "law" = some (.ref fa)) (c : He.SaysD [] fn K) (cx : Fx.allB fs K = true) :
    ∃ fd : FuncData, (∀ (s : Shared) (u : Value), BindsTo s fd ⟨[u], []⟩ [("_law_script", u)]) ∧ ∀ base : Heap, K.In base → base.Ns mainGlobals mg → FnOk P w K mg base (L2.CX P w) 8 fa fd ["_law_script"] (spG ⟨K, mg, ci0⟩ 1 G_law) := by
  have b_0 := Fx.at_ cx 0 (f := (He.Fa.free "isinstance").ok) rfl
  have b_1 := Fx.at_ cx 1 (f := Fx.isiB ci0 .int [0, 1] (fun _ => .type "int")) rfl
  have b_2 := Fx.at_ cx 2 (f := (He.Fa.free "int").ok) rfl
  have b_3 := Fx.at_ cx 3 (f := Fx.isiB ci0 .bool [0, 1] (fun _ => .type "bool")) rfl
  have b_4 := Fx.at_ cx 4 (f := (He.Fa.free "bool").ok) rfl
  have b_5 := Fx.at_ cx 5 (f := (He.Fa.glo "is_integer").ok) rfl
  have b_6 := Fx.at_ cx 6 (f := Fx.isiB ci0 .tuple [0, 1] (fun _ => .type "tuple")) rfl
  have b_7 := Fx.at_ cx 7 (f := (He.Fa.free "tuple").ok) rfl
  have b_8 := Fx.at_ cx 8 (f := (He.Fa.free "len").ok) rfl
  have b_9 := Fx.at_ cx 9 (f := (He.Fa.glo "in_range").ok) rfl
  have b_10 := Fx.at_ cx 10 (f := Fx.glB "MOST_LENGTH" (.int 1000000000000000000)) rfl
  have b_11 := Fx.at_ cx 11 (f := Fx.isiB ci0 .str [0, 1] (fun _ => .type "str")) rfl
  have b_12 := Fx.at_ cx 12 (f := (He.Fa.free "str").ok) rfl
  have b_13 := Fx.at_ cx 13 (f := Fx.glB "MODES" (.tup [(.str "plain"), (.str "push"), (.str "more")])) rfl
  have b_14 := Fx.at_ cx 14 (f := Fx.isiB ci0 .list [0, 1] (fun _ => .type "list")) rfl
  have b_15 := Fx.at_ cx 15 (f := (He.Fa.free "list").ok) rfl
  have b_16 := Fx.at_ cx 16 (f := Fx.glB "MOST_WRITES" (.int 200)) rfl
  have b_17 := Fx.at_ cx 17 (f := (He.Fa.free "enumerate").ok) rfl
  have b_18 := Fx.at_ cx 18 (f := (He.Fa.glo "is_write").ok) rfl
  have b_19 := Fx.at_ cx 19 (f := (He.Fa.glo "check").ok) rfl
  have b_20 := Fx.at_ cx 20 (f := (He.Fa.glo "show_write").ok) rfl
  have b_21 := Fx.at_ cx 21 (f := Fx.glB "MOST_DIGITS" (.int 40)) rfl
  have b_22 := Fx.at_ cx 22 (f := Fx.glB "MOST_NUMBER" (.int 10000000000000000000000000000000000000000)) rfl
  have b_23 := Fx.at_ cx 23 (f := (He.Fa.glo "read_number").ok) rfl
  have b_24 := Fx.at_ cx 24 (f := (He.Fa.glo "read_write").ok) rfl
  have b_25 := Fx.at_ cx 25 (f := (He.Fa.free "abs").ok) rfl
  have b_26 := Fx.at_ cx 26 (f := (He.Fa.glo "_law_take").ok) rfl
  have b_27 := Fx.at_ cx 27 (f := (He.Fa.free "range").ok) rfl
  have b_28 := Fx.at_ cx 28 (f := (He.Fa.glo "_law_amount").ok) rfl
  have b_29 := Fx.at_ cx 29 (f := Fx.conB "Policy" "HOLDS" (.tup [(.str "off"), (.str "partial"), (.str "all")])) rfl
  have b_30 := Fx.at_ cx 30 (f := Fx.glB "MOST_EVERY" (.int 9)) rfl
  have b_31 := Fx.at_ cx 31 (f := Fx.glB "MOST_QUICK" (.int 4)) rfl
  have b_32 := Fx.at_ cx 32 (f := Fx.fldB "Policy" "hold") rfl
  have b_33 := Fx.at_ cx 33 (f := Fx.fldB "Policy" "every") rfl
  have b_34 := Fx.at_ cx 34 (f := Fx.fldB "Policy" "quick") rfl
  have b_35 := Fx.at_ cx 35 (f := (He.Fa.free "TurnState").ok) rfl
  have b_36 := Fx.at_ cx 36 (f := (He.Fa.glo "Policy").ok) rfl
  have b_37 := Fx.at_ cx 37 (f := (He.Fa.mkr "Policy").ok) rfl
  have b_38 := Fx.at_ cx 38 (f := Fx.isiB ci0 (.cls 0) [0, 1] (fun K => .ref (He.ga K "Policy"))) rfl
  have b_39 := Fx.at_ cx 39 (f := Fx.glB "MOST_SIZE" (.int 1000000000000000000)) rfl
  have b_40 := Fx.at_ cx 40 (f := (He.Fa.free "all").ok) rfl
  have b_41 := Fx.at_ cx 41 (f := Fx.fldB "Setting" "size") rfl
  have b_42 := Fx.at_ cx 42 (f := Fx.fldB "Setting" "policies") rfl
  have b_43 := Fx.at_ cx 43 (f := (He.Fa.glo "read_policy").ok) rfl
  have b_44 := Fx.at_ cx 44 (f := (He.Fa.glo "Setting").ok) rfl
  have b_45 := Fx.at_ cx 45 (f := (He.Fa.mkr "Setting").ok) rfl
  have b_46 := Fx.at_ cx 46 (f := Fx.txB "Policy" "__str__") rfl
  have b_47 := Fx.at_ cx 47 (f := Fx.isiB ci0 (.cls 1) [0, 1] (fun K => .ref (He.ga K "Setting"))) rfl
  have b_48 := Fx.at_ cx 48 (f := Fx.eqB "Policy") rfl
  have b_49 := Fx.at_ cx 49 (f := (He.Fa.glo "show_conversation").ok) rfl
  have b_50 := Fx.at_ cx 50 (f := (He.Fa.glo "read_conversation").ok) rfl
  have b_51 := Fx.at_ cx 51 (f := (He.Fa.free "min").ok) rfl
  have b_52 := Fx.at_ cx 52 (f := (He.Fa.free "max").ok) rfl
  have b_53 := Fx.at_ cx 53 (f := (He.Fa.glo "_law_bag").ok) rfl
  have b_54 := Fx.at_ cx 54 (f := (He.Fa.glo "_law_writes").ok) rfl
  have b_55 := Fx.at_ cx 55 (f := (He.Fa.glo "_law_text").ok) rfl
  have b_56 := Fx.at_ cx 56 (f := (He.Fa.free "repr").ok) rfl
  have b_57 := Fx.at_ cx 57 (f := (He.Fa.glo "_law_policy").ok) rfl
  have b_58 := Fx.at_ cx 58 (f := (He.Fa.glo "_law_words").ok) rfl
  have b_59 := Fx.at_ cx 59 (f := (He.Fa.glo "_law_same").ok) rfl
  have b_60 := Fx.at_ cx 60 (f := (He.Fa.glo "read_setting").ok) rfl
  have b_61 := Fx.at_ cx 61 (f := Fx.txB "Setting" "__str__") rfl
  have b_62 := Fx.at_ cx 62 (f := Fx.eqB "Setting") rfl
  have b_63 := Fx.at_ cx 63 (f := (He.Fa.glo "law").ok) rfl
  obtain ⟨fd_is_integer, F_is_integer⟩ := c.def_ 0 (d := dd_is_integer) rfl
  have F_is_integer : FunD K "is_integer" "is_integer" (defArgs st_is_integer) (defBody st_is_integer) (defScope st_is_integer) [] [] (He.fAd K ("is_integer", none)) fd_is_integer := F_is_integer
  obtain ⟨fd_in_range, F_in_range⟩ := c.def_ 1 (d := dd_in_range) rfl
  have F_in_range : FunD K "in_range" "in_range" (defArgs st_in_range) (defBody st_in_range) (defScope st_in_range) [] [] (He.fAd K ("in_range", none)) fd_in_range := F_in_range
  obtain ⟨fd_is_write, F_is_write⟩ := c.def_ 2 (d := dd_is_write) rfl
  have F_is_write : FunD K "is_write" "is_write" (defArgs st_is_write) (defBody st_is_write) (defScope st_is_write) [] [] (He.fAd K ("is_write", none)) fd_is_write := F_is_write
  obtain ⟨fd_check, F_check⟩ := c.def_ 3 (d := dd_check) rfl
  have F_check : FunD K "check" "check" (defArgs st_check) (defBody st_check) (defScope st_check) [] [] (He.fAd K ("check", none)) fd_check := F_check
  obtain ⟨fd_show_write, F_show_write⟩ := c.def_ 4 (d := dd_show_write) rfl
  have F_show_write : FunD K "show_write" "show_write" (defArgs st_show_write) (defBody st_show_write) (defScope st_show_write) [] [] (He.fAd K ("show_write", none)) fd_show_write := F_show_write
  obtain ⟨fd_show_conversation, F_show_conversation⟩ := c.def_ 5 (d := dd_show_conversation) rfl
  have F_show_conversation : FunD K "show_conversation" "show_conversation" (defArgs st_show_conversation) (defBody st_show_conversation) (defScope st_show_conversation) [] [] (He.fAd K ("show_conversation", none)) fd_show_conversation := F_show_conversation
  obtain ⟨fd_read_number, F_read_number⟩ := c.def_ 6 (d := dd_read_number) rfl
  have F_read_number : FunD K "read_number" "read_number" (defArgs st_read_number) (defBody st_read_number) (defScope st_read_number) [] [] (He.fAd K ("read_number", none)) fd_read_number := F_read_number
  obtain ⟨fd_read_write, F_read_write⟩ := c.def_ 7 (d := dd_read_write) rfl
  have F_read_write : FunD K "read_write" "read_write" (defArgs st_read_write) (defBody st_read_write) (defScope st_read_write) [] [] (He.fAd K ("read_write", none)) fd_read_write := F_read_write
  obtain ⟨fd_read_conversation, F_read_conversation⟩ := c.def_ 8 (d := dd_read_conversation) rfl
  have F_read_conversation : FunD K "read_conversation" "read_conversation" (defArgs st_read_conversation) (defBody st_read_conversation) (defScope st_read_conversation) [] [] (He.fAd K ("read_conversation", none)) fd_read_conversation := F_read_conversation
  obtain ⟨fd_l_bag, F_l_bag⟩ := c.def_ 9 (d := dd_l_bag) rfl
  have F_l_bag : FunD K "_law_bag" "_law_bag" (defArgs st_l_bag) (defBody st_l_bag) (defScope st_l_bag) [] [] (He.fAd K ("_law_bag", none)) fd_l_bag := F_l_bag
  obtain ⟨fd_l_take, F_l_take⟩ := c.def_ 10 (d := dd_l_take) rfl
  have F_l_take : FunD K "_law_take" "_law_take" (defArgs st_l_take) (defBody st_l_take) (defScope st_l_take) [] [] (He.fAd K ("_law_take", none)) fd_l_take := F_l_take
  obtain ⟨fd_l_amount, F_l_amount⟩ := c.def_ 11 (d := dd_l_amount) rfl
  have F_l_amount : FunD K "_law_amount" "_law_amount" (defArgs st_l_amount) (defBody st_l_amount) (defScope st_l_amount) [] [] (He.fAd K ("_law_amount", none)) fd_l_amount := F_l_amount
  obtain ⟨fd_l_writes, F_l_writes⟩ := c.def_ 12 (d := dd_l_writes) rfl
  have F_l_writes : FunD K "_law_writes" "_law_writes" (defArgs st_l_writes) (defBody st_l_writes) (defScope st_l_writes) [] [] (He.fAd K ("_law_writes", none)) fd_l_writes := F_l_writes
  obtain ⟨fd_l_text, F_l_text⟩ := c.def_ 13 (d := dd_l_text) rfl
  have F_l_text : FunD K "_law_text" "_law_text" (defArgs st_l_text) (defBody st_l_text) (defScope st_l_text) [] [] (He.fAd K ("_law_text", none)) fd_l_text := F_l_text
  obtain ⟨fd_l_policy, F_l_policy⟩ := c.def_ 14 (d := dd_l_policy) rfl
  have F_l_policy : FunD K "_law_policy" "_law_policy" (defArgs st_l_policy) (defBody st_l_policy) (defScope st_l_policy) [] [] (He.fAd K ("_law_policy", none)) fd_l_policy := F_l_policy
  obtain ⟨fd_l_words, F_l_words⟩ := c.def_ 15 (d := dd_l_words) rfl
  have F_l_words : FunD K "_law_words" "_law_words" (defArgs st_l_words) (defBody st_l_words) (defScope st_l_words) [] [] (He.fAd K ("_law_words", none)) fd_l_words := F_l_words
  obtain ⟨fd_Policy_init, F_Policy_init⟩ := c.def_ 16 (d := dd_Policy_init) rfl
  have F_Policy_init : FunD K "__init__" "Policy.__init__" (defArgs st_Policy_init) (defBody st_Policy_init) (defScope st_Policy_init) [(.str "all")] [("every", (.int 2)), ("quick", (.int 0))] (He.fAd K ("Policy", some "__init__")) fd_Policy_init := F_Policy_init
  obtain ⟨fd_read_policy, F_read_policy⟩ := c.def_ 17 (d := dd_read_policy) rfl
  have F_read_policy : FunD K "read_policy" "read_policy" (defArgs st_read_policy) (defBody st_read_policy) (defScope st_read_policy) [] [] (He.fAd K ("read_policy", none)) fd_read_policy := F_read_policy
  obtain ⟨fd_l_same, F_l_same⟩ := c.def_ 18 (d := dd_l_same) rfl
  have F_l_same : FunD K "_law_same" "_law_same" (defArgs st_l_same) (defBody st_l_same) (defScope st_l_same) [] [] (He.fAd K ("_law_same", none)) fd_l_same := F_l_same
  obtain ⟨fd_Setting_init, F_Setting_init⟩ := c.def_ 19 (d := dd_Setting_init) rfl
  have F_Setting_init : FunD K "__init__" "Setting.__init__" (defArgs st_Setting_init) (defBody st_Setting_init) (defScope st_Setting_init) [] [] (He.fAd K ("Setting", some "__init__")) fd_Setting_init := F_Setting_init
  obtain ⟨fd_read_setting, F_read_setting⟩ := c.def_ 20 (d := dd_read_setting) rfl
  have F_read_setting : FunD K "read_setting" "read_setting" (defArgs st_read_setting) (defBody st_read_setting) (defScope st_read_setting) [] [] (He.fAd K ("read_setting", none)) fd_read_setting := F_read_setting
  obtain ⟨fd_Policy_str, F_Policy_str⟩ := c.def_ 21 (d := dd_Policy_str) rfl
  have F_Policy_str : FunD K "__str__" "Policy.__str__" (defArgs st_Policy_str) (defBody st_Policy_str) (defScope st_Policy_str) [] [] (He.fAd K ("Policy", some "__str__")) fd_Policy_str := F_Policy_str
  obtain ⟨fd_Setting_str, F_Setting_str⟩ := c.def_ 22 (d := dd_Setting_str) rfl
  have F_Setting_str : FunD K "__str__" "Setting.__str__" (defArgs st_Setting_str) (defBody st_Setting_str) (defScope st_Setting_str) [] [] (He.fAd K ("Setting", some "__str__")) fd_Setting_str := F_Setting_str
  obtain ⟨fd_Policy_eq, F_Policy_eq⟩ := c.def_ 23 (d := dd_Policy_eq) rfl
  have F_Policy_eq : FunD K "__eq__" "Policy.__eq__" (defArgs st_Policy_eq) (defBody st_Policy_eq) (defScope st_Policy_eq) [] [] (He.fAd K ("Policy", some "__eq__")) fd_Policy_eq := F_Policy_eq
  obtain ⟨fd_Setting_eq, F_Setting_eq⟩ := c.def_ 24 (d := dd_Setting_eq) rfl
  have F_Setting_eq : FunD K "__eq__" "Setting.__eq__" (defArgs st_Setting_eq) (defBody st_Setting_eq) (defScope st_Setting_eq) [] [] (He.fAd K ("Setting", some "__eq__")) fd_Setting_eq := F_Setting_eq
  obtain ⟨fd_law, F_law⟩ := c.def_ 25 (d := dd_law) rfl
  have F_law : FunD K "law" "law" (defArgs st_law) (defBody st_law) (defScope st_law) [] [] (He.fAd K ("law", none)) fd_law := F_law
  have e := hfa.symm.trans (He.glo_ok X Gm b_63)
  cases e
  refine ⟨fd_law, fun s u => FunD.bindsA (ps := ["_law_script"]) F_law (fun _ _ _ _ _ _ us hl => match us, hl with | [_], _ => rfl) s [u] rfl, fun base _ _ => ?_⟩
  have z_isinstance : mg "isinstance" = none := He.free_ok X Gm b_0
  have i_int : IsiF ci0 K mg .int [0, 1] (.type "int") := Fx.isi_ok (u := fun _ => .type "int") X Gm b_1
  have z_int : mg "int" = none := He.free_ok X Gm b_2
  have i_bool : IsiF ci0 K mg .bool [0, 1] (.type "bool") := Fx.isi_ok (u := fun _ => .type "bool") X Gm b_3
  have z_bool : mg "bool" = none := He.free_ok X Gm b_4
  have O_is_integer : FnOk P w K mg base (L2.CX P w) 1 (He.fAd K ("is_integer", none)) fd_is_integer ["value"] (spG ⟨K, mg, ci0⟩ 1 G_is_integer) := fn_bodyD F_is_integer sc_is_integer (ok_is_integer z_isinstance i_int z_int i_bool z_bool)
  have c_is_integer : NameC ci0 P w K mg base "is_integer" 1 [] (posF 1 G_is_integer) := Fx.name_ok X Gm b_5 F_is_integer.kp (FnC.pos O_is_integer (FunD.bindsN F_is_integer fun _ _ _ _ _ _ us hl => match us, hl with | [_], _ => rfl))
  have O_in_range : FnOk P w K mg base (L2.CX P w) 2 (He.fAd K ("in_range", none)) fd_in_range ["value", "least", "most"] (spG ⟨K, mg, ci0⟩ 3 G_in_range) := fn_bodyD F_in_range sc_in_range (ok_in_range c_is_integer)
  have i_tuple : IsiF ci0 K mg .tuple [0, 1] (.type "tuple") := Fx.isi_ok (u := fun _ => .type "tuple") X Gm b_6
  have z_tuple : mg "tuple" = none := He.free_ok X Gm b_7
  have z_len : mg "len" = none := He.free_ok X Gm b_8
  have c_in_range : NameC ci0 P w K mg base "in_range" 2 [] (posF 3 G_in_range) := Fx.name_ok X Gm b_9 F_in_range.kp (FnC.pos O_in_range (FunD.bindsN F_in_range fun _ _ _ _ _ _ us hl => match us, hl with | [_, _, _], _ => rfl))
  have g_MOST_LENGTH : GlC ci0 K mg "MOST_LENGTH" (.int 1000000000000000000) := Fx.gl_ok X Gm b_10
  have i_str : IsiF ci0 K mg .str [0, 1] (.type "str") := Fx.isi_ok (u := fun _ => .type "str") X Gm b_11
  have z_str : mg "str" = none := He.free_ok X Gm b_12
  have g_MODES : GlC ci0 K mg "MODES" (.tup [(.str "plain"), (.str "push"), (.str "more")]) := Fx.gl_ok X Gm b_13
  have O_is_write : FnOk P w K mg base (L2.CX P w) 3 (He.fAd K ("is_write", none)) fd_is_write ["value"] (spG ⟨K, mg, ci0⟩ 1 G_is_write) := fn_bodyD F_is_write sc_is_write (ok_is_write z_isinstance i_tuple z_tuple z_len c_in_range g_MOST_LENGTH i_str z_str g_MODES)
  have i_list : IsiF ci0 K mg .list [0, 1] (.type "list") := Fx.isi_ok (u := fun _ => .type "list") X Gm b_14
  have z_list : mg "list" = none := He.free_ok X Gm b_15
  have g_MOST_WRITES : GlC ci0 K mg "MOST_WRITES" (.int 200) := Fx.gl_ok X Gm b_16
  have z_enumerate : mg "enumerate" = none := He.free_ok X Gm b_17
  have c_is_write : NameC ci0 P w K mg base "is_write" 3 [] (posF 1 G_is_write) := Fx.name_ok X Gm b_18 F_is_write.kp (FnC.pos O_is_write (FunD.bindsN F_is_write fun _ _ _ _ _ _ us hl => match us, hl with | [_], _ => rfl))
  have O_check : FnOk P w K mg base (L2.CX P w) 4 (He.fAd K ("check", none)) fd_check ["conversation"] (spG ⟨K, mg, ci0⟩ 1 G_check) := fn_bodyD F_check sc_check (ok_check z_isinstance i_list z_list z_len g_MOST_WRITES z_enumerate c_is_write)
  have O_show_write : FnOk P w K mg base (L2.CX P w) 1 (He.fAd K ("show_write", none)) fd_show_write ["write"] (spG ⟨K, mg, ci0⟩ 1 G_show_write) := fn_bodyD F_show_write sc_show_write (ok_show_write )
  have c_check : NameC ci0 P w K mg base "check" 4 [] (posF 1 G_check) := Fx.name_ok X Gm b_19 F_check.kp (FnC.pos O_check (FunD.bindsN F_check fun _ _ _ _ _ _ us hl => match us, hl with | [_], _ => rfl))
  have c_show_write : NameC ci0 P w K mg base "show_write" 1 [] (posF 1 G_show_write) := Fx.name_ok X Gm b_20 F_show_write.kp (FnC.pos O_show_write (FunD.bindsN F_show_write fun _ _ _ _ _ _ us hl => match us, hl with | [_], _ => rfl))
  have O_show_conversation : FnOk P w K mg base (L2.CX P w) 5 (He.fAd K ("show_conversation", none)) fd_show_conversation ["conversation"] (spG ⟨K, mg, ci0⟩ 1 G_show_conversation) := fn_bodyD F_show_conversation sc_show_conversation (ok_show_conversation c_check c_show_write)
  have g_MOST_DIGITS : GlC ci0 K mg "MOST_DIGITS" (.int 40) := Fx.gl_ok X Gm b_21
  have O_read_number : FnOk P w K mg base (L2.CX P w) 1 (He.fAd K ("read_number", none)) fd_read_number ["word", "least", "most"] (spG ⟨K, mg, ci0⟩ 3 G_read_number) := fn_bodyD F_read_number sc_read_number (ok_read_number z_len g_MOST_DIGITS z_int)
  have g_MOST_NUMBER : GlC ci0 K mg "MOST_NUMBER" (.int 10000000000000000000000000000000000000000) := Fx.gl_ok X Gm b_22
  have c_read_number : NameC ci0 P w K mg base "read_number" 1 [] (posF 3 G_read_number) := Fx.name_ok X Gm b_23 F_read_number.kp (FnC.pos O_read_number (FunD.bindsN F_read_number fun _ _ _ _ _ _ us hl => match us, hl with | [_, _, _], _ => rfl))
  have O_read_write : FnOk P w K mg base (L2.CX P w) 2 (He.fAd K ("read_write", none)) fd_read_write ["words"] (spG ⟨K, mg, ci0⟩ 1 G_read_write) := fn_bodyD F_read_write sc_read_write (ok_read_write z_len g_MOST_NUMBER c_read_number g_MODES)
  have c_read_write : NameC ci0 P w K mg base "read_write" 2 [] (posF 1 G_read_write) := Fx.name_ok X Gm b_24 F_read_write.kp (FnC.pos O_read_write (FunD.bindsN F_read_write fun _ _ _ _ _ _ us hl => match us, hl with | [_], _ => rfl))
  have O_read_conversation : FnOk P w K mg base (L2.CX P w) 3 (He.fAd K ("read_conversation", none)) fd_read_conversation ["text"] (spG ⟨K, mg, ci0⟩ 1 G_read_conversation) := fn_bodyD F_read_conversation sc_read_conversation (ok_read_conversation z_isinstance i_str z_str c_read_write z_len g_MOST_WRITES g_MOST_LENGTH)
  have z_abs : mg "abs" = none := He.free_ok X Gm b_25
  have O_l_bag : FnOk P w K mg base (L2.CX P w) 1 (He.fAd K ("_law_bag", none)) fd_l_bag ["_law_script", "_law_at"] (spG ⟨K, mg, ci0⟩ 2 G_l_bag) := fn_bodyD F_l_bag sc_l_bag (ok_l_bag z_len z_abs z_int)
  have O_l_take : FnOk P w K mg base (L2.CX P w) 1 (He.fAd K ("_law_take", none)) fd_l_take ["_law_bag_here", "_law_many"] (spG ⟨K, mg, ci0⟩ 2 G_l_take) := fn_bodyD F_l_take sc_l_take (ok_l_take z_int)
  have c_l_take : NameC ci0 P w K mg base "_law_take" 1 [] (posF 2 G_l_take) := Fx.name_ok X Gm b_26 F_l_take.kp (FnC.pos O_l_take (FunD.bindsN F_l_take fun _ _ _ _ _ _ us hl => match us, hl with | [_, _], _ => rfl))
  have O_l_amount : FnOk P w K mg base (L2.CX P w) 2 (He.fAd K ("_law_amount", none)) fd_l_amount ["_law_bag_here", "_law_width"] (spG ⟨K, mg, ci0⟩ 2 G_l_amount) := fn_bodyD F_l_amount sc_l_amount (ok_l_amount c_l_take)
  have z_range : mg "range" = none := He.free_ok X Gm b_27
  have c_l_amount : NameC ci0 P w K mg base "_law_amount" 2 [] (posF 2 G_l_amount) := Fx.name_ok X Gm b_28 F_l_amount.kp (FnC.pos O_l_amount (FunD.bindsN F_l_amount fun _ _ _ _ _ _ us hl => match us, hl with | [_, _], _ => rfl))
  have O_l_writes : FnOk P w K mg base (L2.CX P w) 3 (He.fAd K ("_law_writes", none)) fd_l_writes ["_law_bag_here", "_law_width", "_law_many"] (spG ⟨K, mg, ci0⟩ 3 G_l_writes) := fn_free (fn_bodyD F_l_writes sc_l_writes (ok_l_writes c_l_take z_range c_l_amount))
  have O_l_text : FnOk P w K mg base (L2.CX P w) 1 (He.fAd K ("_law_text", none)) fd_l_text ["_law_some"] (spG ⟨K, mg, ci0⟩ 1 G_l_text) := fn_free (fn_bodyD F_l_text sc_l_text (ok_l_text z_str z_int))
  have O_l_policy : FnOk P w K mg base (L2.CX P w) 2 (He.fAd K ("_law_policy", none)) fd_l_policy ["_law_bag_here"] (spG ⟨K, mg, ci0⟩ 1 G_l_policy) := fn_bodyD F_l_policy sc_l_policy (ok_l_policy c_l_take)
  have O_l_words : FnOk P w K mg base (L2.CX P w) 1 (He.fAd K ("_law_words", none)) fd_l_words ["_law_values"] (spG ⟨K, mg, ci0⟩ 1 G_l_words) := fn_bodyD F_l_words sc_l_words (ok_l_words z_str)
  have k_Policy_HOLDS : ConC ci0 K mg "Policy" "HOLDS" (.tup [(.str "off"), (.str "partial"), (.str "all")]) := Fx.con_ok X Gm b_29
  have g_MOST_EVERY : GlC ci0 K mg "MOST_EVERY" (.int 9) := Fx.gl_ok X Gm b_30
  have g_MOST_QUICK : GlC ci0 K mg "MOST_QUICK" (.int 4) := Fx.gl_ok X Gm b_31
  have f_Policy_hold : FldAt ci0 K mg "hold" 0 0 := Fx.fld_ok X Gm (x := "Policy") b_32 rfl rfl (by decide +kernel)
  have f_Policy_every : FldAt ci0 K mg "every" 0 1 := Fx.fld_ok X Gm (x := "Policy") b_33 rfl rfl (by decide +kernel)
  have f_Policy_quick : FldAt ci0 K mg "quick" 0 2 := Fx.fld_ok X Gm (x := "Policy") b_34 rfl rfl (by decide +kernel)
  have z_TurnState : mg "TurnState" = none := He.free_ok X Gm b_35
  have f_TurnState_quick : FldAt ci0 K mg "quick" 2 5 := Fx.fld_no (x := "TurnState") z_TurnState rfl rfl (by decide +kernel)
  have O_Policy_init : FnOk P w K mg base (L2.CX P w) 3 (He.fAd K ("Policy", some "__init__")) fd_Policy_init ["self", "hold", "every", "quick"] (spG ⟨K, mg, ci0⟩ 4 G_Policy_init) := fn_bodyD F_Policy_init sc_Policy_init (ok_Policy_init z_isinstance i_str z_str k_Policy_HOLDS g_MOST_EVERY c_in_range g_MOST_QUICK f_Policy_hold f_Policy_every f_Policy_quick f_TurnState_quick)
  obtain ⟨its_Policy_init_s2_every_quick, mv_Policy_init_s2_every_quick, kb_Policy_init_s2_every_quick⟩ := kb_dk (ps := ["self", "hold", "every", "quick"]) F_Policy_init 2 ["every", "quick"] [] [.k 0, .k 1] (by simp) (by simp) (by simp) fun T D doc pm an cdv ct us its mv ws h1 h2 h3 h4 => match us, h1, its, h2, mv, h3, ws, h4 with | [_, _], _, [_], _, [], _, [_, _], _ => ⟨_, rfl, rfl⟩
  have m_Policy_s2_every_quick : MakeC ci0 P w K mg base 0 3 ["every", "quick"] (kwF 2 2 d_Policy_init_s2_every_quick G_Policy_init) := Fx.make_ok X Gm (x := "Policy") b_36 b_37 rfl (FnC.kwS 2 O_Policy_init kb_Policy_init_s2_every_quick (fun bs H => .cons (.str (by decide +kernel)) (.nil)) (fun bs H => .nil) (by decide +kernel) rfl)
  have O_read_policy : FnOk P w K mg base (L2.CX P w) 5 (He.fAd K ("read_policy", none)) fd_read_policy ["text"] (spG ⟨K, mg, ci0⟩ 1 G_read_policy) := fn_bodyD F_read_policy sc_read_policy (ok_read_policy z_isinstance i_str z_str z_len k_Policy_HOLDS g_MOST_EVERY c_read_number g_MOST_QUICK m_Policy_s2_every_quick)
  have i_Policy : IsiC ci0 K mg 0 [0, 1] := Fx.isiC_ok X Gm (x := "Policy") b_36 rfl b_38
  have O_l_same : FnOk P w K mg base (L2.CX P w) 1 (He.fAd K ("_law_same", none)) fd_l_same ["_law_made", "_law_values"] (spG ⟨K, mg, ci0⟩ 2 G_l_same) := fn_bodyD F_l_same sc_l_same (ok_l_same z_isinstance i_Policy f_Policy_quick f_TurnState_quick f_Policy_every f_Policy_hold)
  have g_MOST_SIZE : GlC ci0 K mg "MOST_SIZE" (.int 1000000000000000000) := Fx.gl_ok X Gm b_39
  have z_all : mg "all" = none := He.free_ok X Gm b_40
  obtain ⟨its_Policy_init_s1, mv_Policy_init_s1, kb_Policy_init_s1⟩ := kb_dk (ps := ["self", "hold", "every", "quick"]) F_Policy_init 1 [] [("every", (.int 2)), ("quick", (.int 0))] [.d 0, .m 0, .m 1] (by simp) (by simp) (by simp) fun T D doc pm an cdv ct us its mv ws h1 h2 h3 h4 => match us, h1, its, h2, mv, h3, ws, h4 with | [_], _, [_], _, [_, _], _, [], _ => ⟨_, rfl, ⟨_, _, _, _, _, _, rfl, rfl, ⟨_, _, _, _, _, _, rfl, rfl, rfl⟩⟩⟩
  have m_Policy_s1 : MakeC ci0 P w K mg base 0 3 [] (kwF 1 0 d_Policy_init_s1 G_Policy_init) := Fx.make_ok X Gm (x := "Policy") b_36 b_37 rfl (FnC.kwS 1 O_Policy_init kb_Policy_init_s1 (fun bs H => .cons (.str (by decide +kernel)) (.nil)) (fun bs H => .cons (.int 2) (.cons (.int 0) (.nil))) (by decide +kernel) rfl)
  have f_Setting_size : FldAt ci0 K mg "size" 1 0 := Fx.fld_ok X Gm (x := "Setting") b_41 rfl rfl (by decide +kernel)
  have f_Setting_policies : FldAt ci0 K mg "policies" 1 1 := Fx.fld_ok X Gm (x := "Setting") b_42 rfl rfl (by decide +kernel)
  have O_Setting_init : FnC ci0 P w K mg base 5 (He.fAd K ("Setting", some "__init__")) [] (starF 2 G_Setting_init) := fn_bodyS (ps := ["self", "size"]) (pv := "policies") rfl F_Setting_init sc_Setting_init (fun _ _ _ _ _ _ us rest hl => match us, rest, hl with | [_, _], [], _ => rfl | [_, _], _ :: _, _ => rfl) (ok_Setting_init g_MOST_SIZE c_in_range z_len z_isinstance i_Policy z_all m_Policy_s1 f_Setting_size f_Setting_policies)
  have c_read_policy : NameC ci0 P w K mg base "read_policy" 5 [] (posF 1 G_read_policy) := Fx.name_ok X Gm b_43 F_read_policy.kp (FnC.pos O_read_policy (FunD.bindsN F_read_policy fun _ _ _ _ _ _ us hl => match us, hl with | [_], _ => rfl))
  have m_Setting_star : MakeC ci0 P w K mg base 1 5 [] (starF 2 G_Setting_init) := Fx.make_ok X Gm (x := "Setting") b_44 b_45 rfl O_Setting_init
  have O_read_setting : FnOk P w K mg base (L2.CX P w) 7 (He.fAd K ("read_setting", none)) fd_read_setting ["text"] (spG ⟨K, mg, ci0⟩ 1 G_read_setting) := fn_bodyD F_read_setting sc_read_setting (ok_read_setting z_isinstance i_str z_str g_MOST_SIZE c_read_number z_len c_read_policy m_Setting_star)
  have O_Policy_str : FnOk P w K mg base (L2.CX P w) 1 (He.fAd K ("Policy", some "__str__")) fd_Policy_str ["self"] (spG ⟨K, mg, ci0⟩ 1 G_Policy_str) := fn_bodyD F_Policy_str sc_Policy_str (ok_Policy_str f_Policy_hold f_Policy_every f_Policy_quick f_TurnState_quick)
  have t_Policystr : TxC ci0 P w K mg base 0 "__str__" 1 (posF 1 G_Policy_str) := Fx.tx_ok X Gm (x := "Policy") b_36 b_46 rfl (FnC.pos O_Policy_str (FunD.bindsN F_Policy_str fun _ _ _ _ _ _ us hl => match us, hl with | [_], _ => rfl))
  have O_Setting_str : FnOk P w K mg base (L2.CX P w) 4 (He.fAd K ("Setting", some "__str__")) fd_Setting_str ["self"] (spG ⟨K, mg, ci0⟩ 1 G_Setting_str) := fn_bodyD F_Setting_str sc_Setting_str (ok_Setting_str f_Setting_size f_Setting_policies t_Policystr)
  have O_Policy_eq : FnOk P w K mg base (L2.CX P w) 1 (He.fAd K ("Policy", some "__eq__")) fd_Policy_eq ["self", "other"] (spG ⟨K, mg, ci0⟩ 2 G_Policy_eq) := fn_bodyD F_Policy_eq sc_Policy_eq (ok_Policy_eq z_isinstance i_Policy f_Policy_hold f_Policy_every f_Policy_quick f_TurnState_quick)
  have i_Setting : IsiC ci0 K mg 1 [0, 1] := Fx.isiC_ok X Gm (x := "Setting") b_44 rfl b_47
  have q_Policy : EqC ci0 P w K mg base 0 1 (posF 2 G_Policy_eq) := Fx.eq_ok X Gm (x := "Policy") b_36 b_48 rfl (FnC.pos O_Policy_eq (FunD.bindsN F_Policy_eq fun _ _ _ _ _ _ us hl => match us, hl with | [_, _], _ => rfl))
  have O_Setting_eq : FnOk P w K mg base (L2.CX P w) 3 (He.fAd K ("Setting", some "__eq__")) fd_Setting_eq ["self", "other"] (spG ⟨K, mg, ci0⟩ 2 G_Setting_eq) := fn_bodyD F_Setting_eq sc_Setting_eq (ok_Setting_eq z_isinstance i_Setting f_Setting_size f_Setting_policies q_Policy)
  have c_show_conversation : NameC ci0 P w K mg base "show_conversation" 5 [] (posF 1 G_show_conversation) := Fx.name_ok X Gm b_49 F_show_conversation.kp (FnC.pos O_show_conversation (FunD.bindsN F_show_conversation fun _ _ _ _ _ _ us hl => match us, hl with | [_], _ => rfl))
  have c_read_conversation : NameC ci0 P w K mg base "read_conversation" 3 [] (posF 1 G_read_conversation) := Fx.name_ok X Gm b_50 F_read_conversation.kp (FnC.pos O_read_conversation (FunD.bindsN F_read_conversation fun _ _ _ _ _ _ us hl => match us, hl with | [_], _ => rfl))
  have z_min : mg "min" = none := He.free_ok X Gm b_51
  have z_max : mg "max" = none := He.free_ok X Gm b_52
  have c_l_bag : NameC ci0 P w K mg base "_law_bag" 1 [] (posF 2 G_l_bag) := Fx.name_ok X Gm b_53 F_l_bag.kp (FnC.pos O_l_bag (FunD.bindsN F_l_bag fun _ _ _ _ _ _ us hl => match us, hl with | [_, _], _ => rfl))
  have c_l_writes : NameC ci0 P w K mg base "_law_writes" 3 [] (posF 3 G_l_writes) := Fx.name_ok X Gm b_54 F_l_writes.kp (FnC.pos O_l_writes (FunD.bindsN F_l_writes fun _ _ _ _ _ _ us hl => match us, hl with | [_, _, _], _ => rfl))
  have c_l_text : NameC ci0 P w K mg base "_law_text" 1 [] (posF 1 G_l_text) := Fx.name_ok X Gm b_55 F_l_text.kp (FnC.pos O_l_text (FunD.bindsN F_l_text fun _ _ _ _ _ _ us hl => match us, hl with | [_], _ => rfl))
  have z_repr : mg "repr" = none := He.free_ok X Gm b_56
  have c_l_policy : NameC ci0 P w K mg base "_law_policy" 2 [] (posF 1 G_l_policy) := Fx.name_ok X Gm b_57 F_l_policy.kp (FnC.pos O_l_policy (FunD.bindsN F_l_policy fun _ _ _ _ _ _ us hl => match us, hl with | [_], _ => rfl))
  have c_l_words : NameC ci0 P w K mg base "_law_words" 1 [] (posF 1 G_l_words) := Fx.name_ok X Gm b_58 F_l_words.kp (FnC.pos O_l_words (FunD.bindsN F_l_words fun _ _ _ _ _ _ us hl => match us, hl with | [_], _ => rfl))
  have c_l_same : NameC ci0 P w K mg base "_law_same" 1 [] (posF 2 G_l_same) := Fx.name_ok X Gm b_59 F_l_same.kp (FnC.pos O_l_same (FunD.bindsN F_l_same fun _ _ _ _ _ _ us hl => match us, hl with | [_, _], _ => rfl))
  have c_read_setting : NameC ci0 P w K mg base "read_setting" 7 [] (posF 1 G_read_setting) := Fx.name_ok X Gm b_60 F_read_setting.kp (FnC.pos O_read_setting (FunD.bindsN F_read_setting fun _ _ _ _ _ _ us hl => match us, hl with | [_], _ => rfl))
  have t_Settingstr : TxC ci0 P w K mg base 1 "__str__" 4 (posF 1 G_Setting_str) := Fx.tx_ok X Gm (x := "Setting") b_44 b_61 rfl (FnC.pos O_Setting_str (FunD.bindsN F_Setting_str fun _ _ _ _ _ _ us hl => match us, hl with | [_], _ => rfl))
  have q_Setting : EqC ci0 P w K mg base 1 3 (posF 2 G_Setting_eq) := Fx.eq_ok X Gm (x := "Setting") b_44 b_62 rfl (FnC.pos O_Setting_eq (FunD.bindsN F_Setting_eq fun _ _ _ _ _ _ us hl => match us, hl with | [_, _], _ => rfl))
  have O_law : FnOk P w K mg base (L2.CX P w) 8 (He.fAd K ("law", none)) fd_law ["_law_script"] (spG ⟨K, mg, ci0⟩ 1 G_law) := fn_bodyD F_law sc_law (ok_law c_show_conversation c_read_conversation z_len z_min z_max z_range c_l_bag c_l_take c_l_writes c_l_text z_repr c_l_policy z_str c_l_words c_read_policy c_l_same c_read_setting z_isinstance i_Setting f_Setting_size t_Settingstr f_Setting_policies m_Setting_star q_Setting t_Policystr m_Policy_s1 q_Policy)
  exact O_law
end Ev
set_option Elab.async false
set_option linter.all false
set_option maxRecDepth 100000
set_option maxHeartbeats 4000000
open PySem PySem.W PySem.Calls PyProof.Rows
set_option maxHeartbeats 0 in
theorem PySem.Challenge.cw_latewords_k71_texts_of_conversations_and_holds : PySem.Challenge.rw_latewords_k71_texts_of_conversations_and.Holds := by
  w_on; o_law
  refine HandSHeadRun.head_any (r := OpenLaw.row PySem.Challenge.rw_latewords_k71_texts_of_conversations_and) (q := view (OpenLaw.row PySem.Challenge.rw_latewords_k71_texts_of_conversations_and).prog [39]) (H := Ev.hk) (ob := Ev.ob) (M := 4000) (loose := Ev.loose) (d := HandSHeadRun.topDef (OpenLaw.row PySem.Challenge.rw_latewords_k71_texts_of_conversations_and).prog 39) (kwd := []) Ev.ob_eq
    (by kernel_rfl) (fun s => by kernel_rfl) Ev.run (by kernel_rfl) (by kernel_rfl) (by kernel_rfl) (by rfl) (by first | assumption | decide +kernel) (by decide +kernel) ⟨rfl, rfl, rfl, rfl, rfl, by decide +kernel⟩ ?hw ?hc
  case hw => w_witness2
  case hc =>
    exact Ev.walk_Z (nn := 0) (l := PySem.Challenge.rw_latewords_k71_texts_of_conversations_and) (n := 63) (k := 8) (x := "_law_script") (nm := "law") (G := Ev.G_law) (ci := Ev.ci0) rfl (by decide) (by kernel_rfl) (by kernel_rfl) ⟨⟨rfl, by decide, by decide⟩, rfl⟩ Ev.law_true
      fun w K mg fa h KX c cx G hmg => Ev.facts KX G hmg c cx
